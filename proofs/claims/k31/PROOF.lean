import PyProof.Rows.All
import Wide.All
import OpenK.AllK
import Wide.FinOn
import HandS.ForMost
import HandS.IsInst
import HandS.TupAny
import HandS.TupMul
import HandS.Wide
import HandS.Nested
import HandS.Flow
import HandS.WordsExc
import HandS.SortInts
import PyProof.LongRange
import HandS.Gcd
import HandS.SortKw
import HandS.EndTab
import KE.KNestM
import KE.DataMinMax
import HandS.Rev
import HandS.Style
import HandS.TryOnly
import HandS.TryElse
import KE.DataCmp
import HandS.TupSets
import KE.KTupSum
import HandS.Deep
import HandS.Iter
import HandS.Text
import HandS.TupLe
import HandS.DictComp
import HandS.DictTup
import KE.SortData
import HandS.ExcInit
import HandS.ExcField
import HandS.ExcIs
import KE.KExcIs
import HandS.Conv
import PyProof.Rows.TupDisplay
import PySem.Challenge.RW_postsooth_k31_places_and_moves
set_option Elab.async false
set_option linter.all false
set_option maxRecDepth 100000
/-! DL: a layer of immutable data over the hand layer. Data are trees (D); only what is changed in place stands in M (Mp). -/
namespace DL
open PySem PySem.Spec PyProof.Rows L2

/-- data: tuples and frozen lists as trees (lsk: a list that was there before, as the script); ref: an object that is changed in place, or any other thing at an address; fn: a function made when G was never changed again -/
inductive D where
  | non | bl (b : Bool) | int (i : Int) | str (x : Str) | ref (a : Addr) | ty (n : String) | fn (a : Addr) (G : Hp)
  | tup (xs : List D) | lst (xs : List D) | lsk (xs : List D)

/-- what stands at an address that may be changed -/
inductive MO where
  | lst (xs : List D)
  | dK (kvs : List (Key × D))
  | dT (kvs : List (List Key × D))
  | ins (C : Addr) (fs : List (Str × D))
  | raw (o : HO)
abbrev Mp := Addr → Option MO
def updM (M : Mp) (a : Addr) (o : MO) : Mp := fun b => if b = a then some o else M b
theorem updM_same {M : Mp} {a : Addr} {o : MO} : updM M a o a = some o := by unfold updM; rw [if_pos rfl]
theorem updM_ne {M : Mp} {a b : Addr} {o : MO} (h : b ≠ a) : updM M a o b = M b := by unfold updM; rw [if_neg h]
theorem updM_updM {M : Mp} {a : Addr} {o u : MO} : updM (updM M a o) a u = updM M a u := by
  funext b; unfold updM; split <;> rfl

def Ext (F F' : Hp) : Prop := ∀ a o, F a = some o → F' a = some o
theorem Ext.refl {F : Hp} : Ext F F := fun _ _ h => h
theorem Ext.trans {F F1 F2 : Hp} (a : Ext F F1) (b : Ext F1 F2) : Ext F F2 := fun c o h => b c o (a c o h)
section
variable (K : PySem.W.Frag)
mutual
/-- the value v stands for the data d; F holds what is never changed again -/
inductive Rep (F : Hp) : V → D → Prop
  | non : Rep F .non .non
  | bl (b : Bool) : Rep F (.bl b) (.bl b)
  | int (i : Int) : Rep F (.int i) (.int i)
  | str (x : Str) : Rep F (.str x) (.str x)
  | ref (a : Addr) : Rep F (.ref a) (.ref a)
  | ty (n : String) : Rep F (.ty n) (.ty n)
  | fn {a : Addr} {G : Hp} : Ext G F → Rep F (.ref a) (.fn a G)
  | tup {a : Addr} {xs : List V} {ds : List D} : SqT K F a xs → RepAll F xs ds → Rep F (.ref a) (.tup ds)
  | lst {a : Addr} {xs : List V} {ds : List D} : F a = some (.lst xs) → RepAll F xs ds → Rep F (.ref a) (.lst ds)
  | lsk {a : Addr} {xs : List V} {ds : List D} : SqL K F a xs → RepAll F xs ds → Rep F (.ref a) (.lsk ds)
inductive RepAll (F : Hp) : List V → List D → Prop
  | nil : RepAll F [] []
  | cons {v : V} {vs : List V} {d : D} {ds : List D} : Rep F v d → RepAll F vs ds → RepAll F (v :: vs) (d :: ds)
end
end
section
variable {K : PySem.W.Frag} {F F' : Hp}
theorem rdMono {a : Addr} {o : HO} (e : Ext F F') (h : Rd F a o) : Rd F' a o := by
  rcases h with h | ⟨u, h⟩
  · exact .inl (e _ _ h)
  · exact .inr ⟨u, e _ _ h⟩
theorem sqLMono {a : Addr} {xs : List V} (e : Ext F F') (h : SqL K F a xs) : SqL K F' a xs := h.elim (fun q => .inl (rdMono e q)) .inr
theorem sqTMono {a : Addr} {xs : List V} (e : Ext F F') (h : SqT K F a xs) : SqT K F' a xs := h.elim (fun q => .inl (rdMono e q)) .inr
mutual
theorem Rep.mono (e : Ext F F') : ∀ (d : D) (v : V), Rep K F v d → Rep K F' v d
  | .non, _, h => by cases h; exact .non
  | .bl b, _, h => by cases h; exact .bl b
  | .int i, _, h => by cases h; exact .int i
  | .str x, _, h => by cases h; exact .str x
  | .ref a, _, h => by cases h; exact .ref a
  | .ty n, _, h => by cases h; exact .ty n
  | .fn a G, _, h => by
    cases h with
    | fn g => exact .fn (g.trans e)
  | .tup ds, _, h => by
    cases h with
    | tup hs ha => exact .tup (sqTMono e hs) (RepAll.mono e ds _ ha)
  | .lst ds, _, h => by
    cases h with
    | lst hs ha => exact .lst (e _ _ hs) (RepAll.mono e ds _ ha)
  | .lsk ds, _, h => by
    cases h with
    | lsk hs ha => exact .lsk (sqLMono e hs) (RepAll.mono e ds _ ha)
theorem RepAll.mono (e : Ext F F') : ∀ (ds : List D) (vs : List V), RepAll K F vs ds → RepAll K F' vs ds
  | [], _, h => by cases h; exact .nil
  | d :: ds, _, h => by
    cases h with
    | cons h1 h2 => exact .cons (Rep.mono e d _ h1) (RepAll.mono e ds _ h2)
end
theorem Rep.ext {v : V} {d : D} (h : Rep K F v d) (e : Ext F F') : Rep K F' v d := Rep.mono e d v h
theorem RepAll.ext {vs : List V} {ds : List D} (h : RepAll K F vs ds) (e : Ext F F') : RepAll K F' vs ds := RepAll.mono e ds vs h
theorem RepAll.len : ∀ {vs : List V} {ds : List D}, RepAll K F vs ds → vs.length = ds.length
  | _, _, .nil => rfl
  | _, _, .cons _ t => congrArg (· + 1) (RepAll.len t)
theorem RepAll.get : ∀ {vs : List V} {ds : List D} {i : Nat} {v : V}, RepAll K F vs ds → vs[i]? = some v → ∃ d, ds[i]? = some d ∧ Rep K F v d
  | _, _, _, _, .nil, e => by simp at e
  | _, _, 0, _, .cons r _, e => by simp at e; subst e; exact ⟨_, rfl, r⟩
  | _, _, i + 1, v, .cons _ t, e => by
    obtain ⟨d, h1, h2⟩ := RepAll.get (i := i) (v := v) t (by simpa using e)
    exact ⟨d, by simpa using h1, h2⟩
theorem RepAll.getD : ∀ {vs : List V} {ds : List D} {i : Nat} {d : D}, RepAll K F vs ds → ds[i]? = some d → ∃ v, vs[i]? = some v ∧ Rep K F v d
  | _, _, _, _, .nil, e => by simp at e
  | _, _, 0, _, .cons r _, e => by simp at e; subst e; exact ⟨_, rfl, r⟩
  | _, _, i + 1, d, .cons _ t, e => by
    obtain ⟨v, h1, h2⟩ := RepAll.getD (i := i) (d := d) t (by simpa using e)
    exact ⟨v, by simpa using h1, h2⟩
theorem RepAll.app : ∀ {xs ys : List V} {ds es : List D}, RepAll K F xs ds → RepAll K F ys es → RepAll K F (xs ++ ys) (ds ++ es)
  | _, _, _, _, .nil, s => s
  | _, _, _, _, .cons r t, s => .cons r (RepAll.app t s)
theorem RepAll.tk : ∀ {xs : List V} {ds : List D} (n : Nat), RepAll K F xs ds → RepAll K F (xs.take n) (ds.take n)
  | _, _, 0, _ => .nil
  | _, _, _ + 1, .nil => .nil
  | _, _, n + 1, .cons r t => .cons r (RepAll.tk n t)
theorem RepAll.dp : ∀ {xs : List V} {ds : List D} (n : Nat), RepAll K F xs ds → RepAll K F (xs.drop n) (ds.drop n)
  | _, _, 0, r => r
  | _, _, _ + 1, .nil => .nil
  | _, _, n + 1, .cons _ t => RepAll.dp n t
theorem RepAll.put {v : V} {d : D} (r : Rep K F v d) : ∀ {xs : List V} {ds : List D} (i : Nat), RepAll K F xs ds → RepAll K F (xs.set i v) (ds.set i d)
  | _, _, _, .nil => .nil
  | _, _, 0, .cons _ t => .cons r t
  | _, _, i + 1, .cons q t => .cons q (RepAll.put r i t)
theorem RepAll.rev : ∀ {xs : List V} {ds : List D}, RepAll K F xs ds → RepAll K F xs.reverse ds.reverse
  | _, _, .nil => .nil
  | _, _, .cons r t => by
    rw [List.reverse_cons, List.reverse_cons]
    exact RepAll.app (RepAll.rev t) (.cons r .nil)
theorem RepAll.rpl {v : V} {d : D} (r : Rep K F v d) : ∀ n : Nat, RepAll K F (List.replicate n v) (List.replicate n d)
  | 0 => .nil
  | n + 1 => .cons r (RepAll.rpl r n)
theorem RepAll.ints : ∀ {vs : List V} {ns : List Int}, RepAll K F vs (ns.map D.int) → vs = ns.map V.int
  | _, [], h => by cases h; rfl
  | _, n :: ns, h => by
    cases h with
    | cons h1 h2 => cases h1; rw [RepAll.ints h2]; rfl
theorem RepAll.bls : ∀ {vs : List V} {ns : List Bool}, RepAll K F vs (ns.map D.bl) → vs = ns.map V.bl
  | _, [], h => by cases h; rfl
  | _, n :: ns, h => by
    cases h with
    | cons h1 h2 => cases h1; rw [RepAll.bls h2]; rfl
theorem RepAll.strs : ∀ {vs : List V} {ns : List Str}, RepAll K F vs (ns.map D.str) → vs = ns.map V.str
  | _, [], h => by cases h; rfl
  | _, n :: ns, h => by
    cases h with
    | cons h1 h2 => cases h1; rw [RepAll.strs h2]; rfl
theorem RepAll.ofInts : ∀ (ns : List Int), RepAll K F (ns.map V.int) (ns.map D.int)
  | [] => .nil
  | n :: ns => .cons (.int n) (RepAll.ofInts ns)
end

/-- the entries of a dict; the attributes of an instance -/
def RepKV (K : PySem.W.Frag) (F : Hp) {κ : Type} : List (κ × V) → List (κ × D) → Prop := Paired fun p q => p.1 = q.1 ∧ Rep K F p.2 q.2
theorem RepKV.ext {K : PySem.W.Frag} {F F' : Hp} {κ : Type} (e : Ext F F') : ∀ {xs : List (κ × V)} {ys : List (κ × D)}, RepKV K F xs ys → RepKV K F' xs ys
  | _, _, .nil => .nil
  | _, _, .cons r t => .cons ⟨r.1, r.2.ext e⟩ (RepKV.ext e t)
def RepO (K : PySem.W.Frag) (F : Hp) : HO → MO → Prop
  | .lst xs, .lst ds => RepAll K F xs ds
  | .dK kvs, .dK kds => RepKV K F kvs kds
  | .dT kvs, .dT kds => RepKV K F kvs kds
  | .ins C _ fs, .ins C' fs' => C = C' ∧ RepKV K F fs fs'
  | o, .raw o' => o = o'
  | _, _ => False
theorem RepO.ext {K : PySem.W.Frag} {F F' : Hp} (e : Ext F F') {o : HO} {m : MO} (h : RepO K F o m) : RepO K F' o m := by
  cases m with
  | lst ds => cases o <;> first | exact RepAll.ext h e | exact h
  | dK ds => cases o <;> first | exact RepKV.ext e h | exact h
  | dT ds => cases o <;> first | exact RepKV.ext e h | exact h
  | ins C fs => cases o <;> first | exact ⟨h.1, RepKV.ext e h.2⟩ | exact h
  | raw u => cases o <;> exact h
theorem RepO.lst_iff {K : PySem.W.Frag} {F : Hp} {o : HO} {ds : List D} (h : RepO K F o (.lst ds)) : ∃ xs, o = .lst xs ∧ RepAll K F xs ds := by
  cases o <;> first | exact ⟨_, rfl, h⟩ | exact h.elim

/-- what is set aside: known to the object; but where a code object's table stands, with the name of the lambdas of that code -/
def RsOk (H : Hp) (a : Addr) : HO → Prop
  | .xd fs => ∃ q : Str, fs = [(q, .non)] ∧ LamX.TabS H a q
  | o => H a = some o
theorem RsOk.there {H : Hp} {a : Addr} {o : HO} (h : RsOk H a o) (e : H a = none) : False := by
  cases o with
  | xd fs =>
    obtain ⟨q, _, ps, h1, _⟩ := h
    rw [e] at h1; cases h1
  | _ => have h : H a = some _ := h; rw [e] at h; cases h
/-- only what stands at x changes, and that is no code object -/
theorem RsOk.step {H H' : Hp} {a x : Addr} {o : HO} (h : RsOk H a o) (k : ∀ b u, b ≠ x → H b = some u → H' b = some u) (hx : a ≠ x) (hn : ∀ q, H x ≠ some (LamX.CodeO x q)) : RsOk H' a o := by
  cases o with
  | xd fs =>
    obtain ⟨q, e, ps, h1, h2, h3⟩ := h
    refine ⟨q, e, ps, k _ _ hx h1, h2, fun pos cv hc => ?_⟩
    obtain ⟨c, e1, e2⟩ := h3 pos cv hc
    exact ⟨c, e1, k _ _ (fun z => by subst z; exact hn q e2) e2⟩
  | _ => exact k _ _ hx h
/-- no thing of the free kind -/
def NE : HO → Prop
  | .ext _ => False
  | _ => True
/-- and no locked tuple -/
def NX : HO → Prop
  | .ext _ => False
  | .frz _ (.tup _) => False
  | _ => True
theorem NX.ne {o : HO} (h : NX o) : NE o := by
  cases o <;> first | exact h | exact True.intro
/-- and no tuple -/
def NR : HO → Prop
  | .ext _ => False
  | .frz _ (.tup _) => False
  | .tup _ => False
  | _ => True
theorem NR.nx {o : HO} (h : NR o) : NX o := by
  cases o with
  | ext _ => exact h
  | tup _ => exact h.elim
  | frz _ u => cases u <;> first | exact h | exact True.intro
  | _ => exact True.intro
/-- where the tables of T stand -/
def TabR (T : List (Addr × Str)) (R : Hp) : Prop := ∀ p ∈ T, R p.1 = some (.xd [(p.2, .non)])
theorem TabR.ext {T : List (Addr × Str)} {R R' : Hp} (h : TabR T R) (e : Ext R R') : TabR T R' := fun p hp => e _ _ (h p hp)
/-- the heap H: F never changed again, R set aside, M changed in place -/
structure Stt (K : PySem.W.Frag) (F R H : Hp) (M : Mp) : Prop where
  fz : ∀ a o, F a = some o → H a = some o
  rs : ∀ a o, R a = some o → RsOk H a o ∧ F a = none ∧ M a = none
  ow : ∀ a m, M a = some m → F a = none ∧ ∃ o, H a = some o ∧ RepO K F o m
  nf : ∀ a o, F a = some o → NX o
  nr : ∀ a o, R a = some o → NR o

abbrev SD := List (Option D)
abbrev QD := D → Mp → Prop
abbrev DE := SD → Mp → QD → Prop
abbrev DT := SD → Mp → (Bool → Mp → Prop) → Prop
abbrev DA := SD → Mp → (List D → Mp → Prop) → Prop
structure EndsD where
  nx : SD → Mp → Prop
  rt : QD
  bk : SD → Mp → Prop := fun _ _ => False
  ct : SD → Mp → Prop := fun _ _ => False
abbrev DS := EndsD → SD → Mp → Prop

def RepS (K : PySem.W.Frag) (F : Hp) : Option V → Option D → Prop
  | some v, some d => Rep K F v d
  | _, none => True
  | none, some _ => False
abbrev Slots (K : PySem.W.Frag) (F : Hp) : L2.St → SD → Prop := Paired (RepS K F)
section
variable {K : PySem.W.Frag} {F F' : Hp}
theorem RepS.ext (e : Ext F F') {x : Option V} {y : Option D} (h : RepS K F x y) : RepS K F' x y := by
  cases x <;> cases y <;> first | exact True.intro | exact h.elim | exact Rep.ext h e
theorem Slots.ext (e : Ext F F') : ∀ {σ : L2.St} {τ : SD}, Slots K F σ τ → Slots K F' σ τ
  | _, _, .nil => .nil
  | _, _, .cons r t => .cons (r.ext e) (Slots.ext e t)
theorem Slots.get : ∀ {σ : L2.St} {τ : SD} {i : Nat} {d : D}, Slots K F σ τ → τ[i]? = some (some d) → ∃ v, σ[i]? = some (some v) ∧ Rep K F v d
  | _, _, _, _, .nil, e => by simp at e
  | x :: _, _, 0, d, .cons r _, e => by
    simp at e; subst e
    cases x with
    | none => exact r.elim
    | some v => exact ⟨v, rfl, r⟩
  | _, _, i + 1, d, .cons _ t, e => by
    obtain ⟨v, h1, h2⟩ := Slots.get (i := i) (d := d) t (by simpa using e)
    exact ⟨v, by simpa using h1, h2⟩
theorem Slots.put {v : V} {d : D} (r : Rep K F v d) : ∀ {σ : L2.St} {τ : SD} (i : Nat), Slots K F σ τ → Slots K F (σ.set i (some v)) (τ.set i (some d))
  | _, _, _, .nil => .nil
  | _, _, 0, .cons _ t => .cons r t
  | _, _, i + 1, .cons q t => .cons q (Slots.put r i t)
theorem Slots.drop1 : ∀ {σ : L2.St} {τ : SD} (i : Nat), Slots K F σ τ → Slots K F (σ.set i none) (τ.set i none)
  | _, _, _, .nil => .nil
  | _, _, 0, .cons _ t => .cons True.intro t
  | _, _, i + 1, .cons q t => .cons q (Slots.drop1 i t)
end

/-- where a def's body began -/
structure Bs where
  F : Hp
  R : Hp
  T : List (Addr × Str)
structure Bas (b : Bs) (F R : Hp) : Prop where
  f : Ext b.F F
  r : Ext b.R R
  t : TabR b.T R
theorem Bas.trans {b : Bs} {F F2 R : Hp} (h : Bas b F R) (e : Ext F F2) : Bas b F2 R := ⟨h.f.trans e, h.r, h.t⟩
section
variable (K : PySem.W.Frag) (F0 : Bs)
/-- how what is wanted of a value carries over -/
def KE (F R : Hp) (Q' : QD) (Q : VK) : Prop := ∀ v H2 F2 d M2, Ext F F2 → Stt K F2 R H2 M2 → Rep K F2 v d → Q' d M2 → Q v H2
def liE (t : DE) : TE := fun σ H Q => ∃ F R τ M Q', Bas F0 F R ∧ Stt K F R H M ∧ Slots K F σ τ ∧ t τ M Q' ∧ KE K F R Q' Q
def KT (F R : Hp) (Q' : Bool → Mp → Prop) (Q : Bool → Hp → Prop) : Prop := ∀ b H2 F2 M2, Ext F F2 → Stt K F2 R H2 M2 → Q' b M2 → Q b H2
def liT (t : DT) : TT := fun σ H Q => ∃ F R τ M Q', Bas F0 F R ∧ Stt K F R H M ∧ Slots K F σ τ ∧ t τ M Q' ∧ KT K F R Q' Q
def KA (F R : Hp) (Q' : List D → Mp → Prop) (Q : List V → Hp → Prop) : Prop := ∀ vs H2 F2 ds M2, Ext F F2 → Stt K F2 R H2 M2 → RepAll K F2 vs ds → Q' ds M2 → Q vs H2
def liA (t : DA) : TA := fun σ H Q => ∃ F R τ M Q', Bas F0 F R ∧ Stt K F R H M ∧ Slots K F σ τ ∧ t τ M Q' ∧ KA K F R Q' Q
def KN (F R : Hp) (Q' : SD → Mp → Prop) (Q : L2.St → Hp → Prop) : Prop := ∀ σ2 H2 F2 τ2 M2, Ext F F2 → Stt K F2 R H2 M2 → Slots K F2 σ2 τ2 → Q' τ2 M2 → Q σ2 H2
structure KS (F R : Hp) (D' : EndsD) (D : Ends) : Prop where
  nx : KN K F R D'.nx D.nx
  rt : KE K F R D'.rt D.rt
  bk : KN K F R D'.bk D.bk
  ct : KN K F R D'.ct D.ct
def liS (t : DS) : TS := fun D σ H => ∃ F R τ M D', Bas F0 F R ∧ Stt K F R H M ∧ Slots K F σ τ ∧ t D' τ M ∧ KS K F R D' D
/-- values that are given: an operator's, a call's reading -/
def liR (r : D → D → Mp → QD → Prop) : R2 := fun x y H Q => ∃ F R M d e Q', Bas F0 F R ∧ Stt K F R H M ∧ Rep K F x d ∧ Rep K F y e ∧ r d e M Q' ∧ KE K F R Q' Q
def liU (r : D → Mp → QD → Prop) : V → Hp → VK → Prop := fun x H Q => ∃ F R M d Q', Bas F0 F R ∧ Stt K F R H M ∧ Rep K F x d ∧ r d M Q' ∧ KE K F R Q' Q
def liC (r : List D → Mp → QD → Prop) : List V → Hp → VK → Prop := fun xs H Q => ∃ F R M ds Q', Bas F0 F R ∧ Stt K F R H M ∧ RepAll K F xs ds ∧ r ds M Q' ∧ KE K F R Q' Q
def liM (r : D → List D → Mp → QD → Prop) : V → List V → Hp → VK → Prop := fun x xs H Q => ∃ F R M d ds Q', Bas F0 F R ∧ Stt K F R H M ∧ Rep K F x d ∧ RepAll K F xs ds ∧ r d ds M Q' ∧ KE K F R Q' Q
def liG (g : D → SD → Mp → (SD → Mp → Prop) → Prop) : TG := fun v σ H Q => ∃ F R τ M d Q', Bas F0 F R ∧ Stt K F R H M ∧ Slots K F σ τ ∧ Rep K F v d ∧ g d τ M Q' ∧ KN K F R Q' Q
end
section
variable {K : PySem.W.Frag} {F F2 R : Hp}
theorem KE.ext {Q' : QD} {Q : VK} (k : KE K F R Q' Q) (e : Ext F F2) : KE K F2 R Q' Q := fun v H2 F3 d M2 e2 => k v H2 F3 d M2 (e.trans e2)
theorem KT.ext {Q' : Bool → Mp → Prop} {Q : Bool → Hp → Prop} (k : KT K F R Q' Q) (e : Ext F F2) : KT K F2 R Q' Q := fun b H2 F3 M2 e2 => k b H2 F3 M2 (e.trans e2)
theorem KA.ext {Q' : List D → Mp → Prop} {Q : List V → Hp → Prop} (k : KA K F R Q' Q) (e : Ext F F2) : KA K F2 R Q' Q := fun b H2 F3 d M2 e2 => k b H2 F3 d M2 (e.trans e2)
theorem KN.ext {Q' : SD → Mp → Prop} {Q : L2.St → Hp → Prop} (k : KN K F R Q' Q) (e : Ext F F2) : KN K F2 R Q' Q := fun b H2 F3 d M2 e2 => k b H2 F3 d M2 (e.trans e2)
theorem KS.ext {D' : EndsD} {D : Ends} (k : KS K F R D' D) (e : Ext F F2) : KS K F2 R D' D := ⟨k.nx.ext e, k.rt.ext e, k.bk.ext e, k.ct.ext e⟩
end
/-- new at p, never changed again -/
theorem Stt.freeze {K : PySem.W.Frag} {F R H : Hp} {M : Mp} {p : Addr} {o : HO} (s : Stt K F R H M) (h : H p = none) (hx : NX o := by trivial) : Stt K (upd F p o) R (upd H p o) M ∧ Ext F (upd F p o) := by
  have fp : F p = none := by
    cases e : F p with
    | none => rfl
    | some u => rw [s.fz _ _ e] at h; cases h
  have ex : Ext F (upd F p o) := fun a u e => by rw [upd_ne (ne_of_none e fp)]; exact e
  have mp : ∀ a m, M a = some m → a ≠ p := fun a m e z => by
    subst z
    obtain ⟨_, u, e2, _⟩ := s.ow _ _ e
    rw [h] at e2; cases e2
  refine ⟨⟨fun a u e => ?_, fun a u e => ?_, fun a m e => ?_, fun a u e => ?_, s.nr⟩, ex⟩
  rotate_left 3
  · by_cases q : a = p
    · subst q; rw [upd_same] at e; cases e; exact hx
    · rw [upd_ne q] at e; exact s.nf a u e
  · by_cases q : a = p
    · subst q; rw [upd_same] at e ⊢; exact e
    · rw [upd_ne q] at e ⊢; exact s.fz _ _ e
  · obtain ⟨h1, h2, h3⟩ := s.rs _ _ e
    have q : a ≠ p := fun z => by subst z; exact h1.there h
    rw [upd_ne q]
    exact ⟨h1.step (fun b u n eb => by rw [upd_ne n]; exact eb) q (fun c z => by rw [h] at z; cases z), h2, h3⟩
  · obtain ⟨h1, u, h2, h3⟩ := s.ow _ _ e
    have q := mp _ _ e
    rw [upd_ne q, upd_ne q]
    exact ⟨h1, u, h2, h3.ext ex⟩
/-- new at p, to be changed in place -/
theorem Stt.own {K : PySem.W.Frag} {F R H : Hp} {M : Mp} {p : Addr} {o : HO} {m : MO} (s : Stt K F R H M) (h : H p = none) (r : RepO K F o m) : Stt K F R (upd H p o) (updM M p m) ∧ M p = none := by
  have fp : F p = none := by
    cases e : F p with
    | none => rfl
    | some u => rw [s.fz _ _ e] at h; cases h
  have mp : M p = none := by
    cases e : M p with
    | none => rfl
    | some u =>
      obtain ⟨_, u, e2, _⟩ := s.ow _ _ e
      rw [h] at e2; cases e2
  refine ⟨⟨fun a u e => ?_, fun a u e => ?_, fun a u e => ?_, s.nf, s.nr⟩, mp⟩
  · rw [upd_ne (ne_of_none e fp)]; exact s.fz _ _ e
  · obtain ⟨h1, h2, h3⟩ := s.rs _ _ e
    have q : a ≠ p := fun z => by subst z; exact h1.there h
    rw [updM_ne q]
    exact ⟨h1.step (fun b u n eb => by rw [upd_ne n]; exact eb) q (fun c z => by rw [h] at z; cases z), h2, h3⟩
  · by_cases q : a = p
    · subst q
      rw [updM_same] at e
      cases e
      exact ⟨fp, o, upd_same, r⟩
    · rw [updM_ne q] at e
      obtain ⟨h1, u, h2, h3⟩ := s.ow _ _ e
      exact ⟨h1, u, by rw [upd_ne q]; exact h2, h3⟩
/-- what stands at a is changed in place -/
theorem Stt.store {K : PySem.W.Frag} {F R H : Hp} {M : Mp} {a : Addr} {o : HO} {m m' : MO} (s : Stt K F R H M) (h : M a = some m) (hm : ∀ u, m ≠ .raw u) (r : RepO K F o m') : Stt K F R (upd H a o) (updM M a m') := by
  obtain ⟨fa, u, ha, ru⟩ := s.ow _ _ h
  have hn : ∀ q, H a ≠ some (LamX.CodeO a q) := fun q z => by
    rw [ha] at z
    cases z
    unfold LamX.CodeO at ru
    cases m with
    | raw v => exact hm v rfl
    | _ => exact ru
  refine ⟨fun b u e => ?_, fun b u e => ?_, fun b u e => ?_, s.nf, s.nr⟩
  · rw [upd_ne (ne_of_none e fa)]; exact s.fz _ _ e
  · obtain ⟨h1, h2, h3⟩ := s.rs _ _ e
    have q : b ≠ a := fun z => by subst z; rw [h] at h3; cases h3
    rw [updM_ne q]
    exact ⟨h1.step (fun c v n ec => by rw [upd_ne n]; exact ec) q hn, h2, h3⟩
  · by_cases q : b = a
    · subst q
      rw [updM_same] at e
      cases e
      exact ⟨fa, o, upd_same, r⟩
    · rw [updM_ne q] at e
      obtain ⟨h1, u, h2, h3⟩ := s.ow _ _ e
      exact ⟨h1, u, by rw [upd_ne q]; exact h2, h3⟩
/-- part of M is forgotten -/
theorem Stt.less {K : PySem.W.Frag} {F R H : Hp} {M M' : Mp} (s : Stt K F R H M) (h : ∀ a m, M' a = some m → M a = some m) : Stt K F R H M' :=
  ⟨s.fz, fun a o e => by
    obtain ⟨h1, h2, h3⟩ := s.rs a o e
    refine ⟨h1, h2, ?_⟩
    exact (match q : M' a with
      | none => rfl
      | some m => by rw [h _ _ q] at h3; cases h3), fun a m e => s.ow a m (h a m e), s.nf, s.nr⟩
/-- what was set aside is given up -/
theorem Stt.unset {K : PySem.W.Frag} {F R R' H : Hp} {M : Mp} (s : Stt K F R H M) (h : ∀ a o, R' a = some o → R a = some o) : Stt K F R' H M :=
  ⟨s.fz, fun a o e => s.rs a o (h a o e), s.ow, s.nf, fun a o e => s.nr a o (h a o e)⟩
/-- a part of M is set aside -/
theorem Stt.aside {K : PySem.W.Frag} {F R H : Hp} {M : Mp} {p : Addr} {o : HO} (s : Stt K F R H M) (h : RsOk H p o) (hf : F p = none) (hm : M p = none) (hx : NR o := by trivial) : Stt K F (upd R p o) H M :=
  ⟨s.fz, fun a u e => by
    exact if q : a = p then by subst q; rw [upd_same] at e; cases e; exact ⟨h, hf, hm⟩
      else by rw [upd_ne q] at e; exact s.rs a u e, s.ow, s.nf, fun a u e => if q : a = p then by subst q; rw [upd_same] at e; cases e; exact hx else by rw [upd_ne q] at e; exact s.nr a u e⟩
end DL

/-! DL, the rules: expressions -/
namespace DL
open PySem PySem.Spec PyProof.Rows L2

/-! ### readings are weakened -/
section
variable {X : Cx}
theorem peImp {e : Expr} {t t' : TE} (h : PE X e t) (k : ∀ σ H Q, t' σ H Q → t σ H Q) : PE X e t' := ⟨fun pins s σ H Q I q => h.run pins s σ H Q I (k _ _ _ q)⟩
theorem ptImp {e : Expr} {t t' : TT} (h : PT X e t) (k : ∀ σ H Q, t' σ H Q → t σ H Q) : PT X e t' := ⟨fun pins s σ H Q I q => h.run pins s σ H Q I (k _ _ _ q)⟩
theorem pwImp {e : Expr} {t t' : TT} (h : PW X e t) (k : ∀ σ H Q, t' σ H Q → t σ H Q) : PW X e t' := ⟨fun wh pins s σ H Q I q => h.run wh pins s σ H Q I (k _ _ _ q)⟩
theorem paImp {es : List Expr} {t t' : TA} (h : PA X es t) (k : ∀ σ H Q, t' σ H Q → t σ H Q) : PA X es t' := ⟨fun pos pins s σ H Q I q => h.run pos pins s σ H Q I (k _ _ _ q)⟩
theorem psImp {st : Stmt} {t t' : TS} (h : PS X st t) (k : ∀ D σ H, t' D σ H → t D σ H) : PS X st t' := ⟨fun pins s σ H D I q => h.run pins s σ H D I (k _ _ _ q)⟩
theorem pssImp {st : List Stmt} {t t' : TS} (h : PSs X st t) (k : ∀ D σ H, t' D σ H → t D σ H) : PSs X st t' := ⟨fun pins s σ H D I q => h.run pins s σ H D I (k _ _ _ q)⟩
theorem pgImp {e : Expr} {t t' : TG} (h : PG X e t) (k : ∀ v σ H Q, t' v σ H Q → t v σ H Q) : PG X e t' := ⟨fun pins s σ H v u Q I r q => h.run pins s σ H v u Q I r (k _ _ _ _ q)⟩
theorem opImp {f : Value → Value → Sem Value} {r r' : R2} (h : OpR X f r) (k : ∀ x y H Q, r' x y H Q → r x y H Q) : OpR X f r' := fun pins s σ H x y v u Q I rx ry q => h pins s σ H x y v u Q I rx ry (k _ _ _ _ q)
theorem unImp {f : Value → Sem Value} {r r' : V → Hp → VK → Prop} (h : UnR X f r) (k : ∀ x H Q, r' x H Q → r x H Q) : UnR X f r' := fun pins s σ H x v Q I rx q => h pins s σ H x v Q I rx (k _ _ _ q)
theorem caImp {f : Value} {r r' : List V → Hp → VK → Prop} (h : CallR X f r) (k : ∀ xs H Q, r' xs H Q → r xs H Q) : CallR X f r' := fun pins s σ H xs us Q I rx q => h pins s σ H xs us Q I rx (k _ _ _ q)
theorem ixImp {r r' : R2} (h : IxR X r) (k : ∀ x y H Q, r' x y H Q → r x y H Q) : IxR X r' := fun value slice pins s σ H x y v u Q I rx ry q => h value slice pins s σ H x y v u Q I rx ry (k _ _ _ _ q)
theorem mtImp {id : String} {r r' : V → List V → Hp → VK → Prop} (h : MtR X id r) (k : ∀ x xs H Q, r' x xs H Q → r x xs H Q) : MtR X id r' := fun pins s σ H x xs v us Q I rx rs q => h pins s σ H x xs v us Q I rx rs (k _ _ _ _ q)
end

/-- the items of a list; of a list or a tuple -/
def lsOf (M : Mp) : D → Option (List D)
  | .lst ds => some ds
  | .lsk ds => some ds
  | .ref a => match M a with
    | some (.lst ds) => some ds
    | _ => none
  | _ => none
/-- .. of a list that is tracked by itself -/
def ltOf (M : Mp) : D → Option (List D)
  | .lst ds => some ds
  | .ref a => match M a with
    | some (.lst ds) => some ds
    | _ => none
  | _ => none
def sqOf (M : Mp) : D → Option (List D)
  | .tup ds => some ds
  | .lst ds => some ds
  | .lsk ds => some ds
  | .ref a => match M a with
    | some (.lst ds) => some ds
    | _ => none
  | _ => none
theorem sqOf_cases {M : Mp} {d : D} {ds : List D} (h : sqOf M d = some ds) : d = .tup ds ∨ lsOf M d = some ds := by
  cases d with
  | tup es => exact .inl (congrArg D.tup (Option.some.inj h))
  | lst es => exact .inr h
  | lsk es => exact .inr h
  | ref a => exact .inr h
  | _ => cases h
section
variable {K : PySem.W.Frag} {F R H : Hp} {M : Mp}
theorem lt_get {x : V} {d : D} {ds : List D} (s : Stt K F R H M) (r : Rep K F x d) (h : ltOf M d = some ds) : ∃ a xs, x = .ref a ∧ H a = some (.lst xs) ∧ RepAll K F xs ds := by
  cases d with
  | lst es =>
    cases Option.some.inj h
    cases r with
    | lst hs ha => exact ⟨_, _, rfl, s.fz _ _ hs, ha⟩
  | ref a =>
    cases r
    have h' : (match M a with | some (.lst ds) => some ds | _ => none) = some ds := h
    split at h'
    · rename_i es e
      cases h'
      obtain ⟨_, o, ho, ro⟩ := s.ow _ _ e
      obtain ⟨xs, rfl, ra⟩ := ro.lst_iff
      exact ⟨a, xs, rfl, ho, ra⟩
    · cases h'
  | _ => cases h
theorem ls_get {x : V} {d : D} {ds : List D} (s : Stt K F R H M) (r : Rep K F x d) (h : lsOf M d = some ds) : ∃ a xs, x = .ref a ∧ SqL K H a xs ∧ RepAll K F xs ds := by
  cases d with
  | lst es =>
    cases Option.some.inj h
    cases r with
    | lst hs ha => exact ⟨_, _, rfl, .inl (.inl (s.fz _ _ hs)), ha⟩
  | lsk es =>
    cases Option.some.inj h
    cases r with
    | lsk hs ha => exact ⟨_, _, rfl, sqLMono s.fz hs, ha⟩
  | ref a =>
    cases r
    have h' : (match M a with | some (.lst ds) => some ds | _ => none) = some ds := h
    split at h'
    · rename_i es e
      cases h'
      obtain ⟨_, o, ho, ro⟩ := s.ow _ _ e
      obtain ⟨xs, rfl, ra⟩ := ro.lst_iff
      exact ⟨a, xs, rfl, .inl (.inl ho), ra⟩
    · cases h'
  | _ => cases h
theorem tp_get {x : V} {ds : List D} (s : Stt K F R H M) (r : Rep K F x (.tup ds)) : ∃ a xs, x = .ref a ∧ SqT K H a xs ∧ RepAll K F xs ds := by
  cases r with
  | tup hs ha => exact ⟨_, _, rfl, sqTMono s.fz hs, ha⟩
theorem sq_get {x : V} {d : D} {ds : List D} (s : Stt K F R H M) (r : Rep K F x d) (h : sqOf M d = some ds) : ∃ a xs, x = .ref a ∧ (SqL K H a xs ∨ SqT K H a xs) ∧ RepAll K F xs ds := by
  rcases sqOf_cases h with rfl | h
  · obtain ⟨a, xs, e, q, ra⟩ := tp_get s r
    exact ⟨a, xs, e, .inr q, ra⟩
  · obtain ⟨a, xs, e, q, ra⟩ := ls_get s r h
    exact ⟨a, xs, e, .inl q, ra⟩
/-- a new tuple, a new list: data from then on -/
theorem KE.tup {Q' : QD} {Q : VK} {xs : List V} {ds : List D} {p : Addr} (k : KE K F R Q' Q) (s : Stt K F R H M) (hp : H p = none) (r : RepAll K F xs ds) (q : Q' (.tup ds) M) : Q (.ref p) (upd H p (.tup xs)) := by
  obtain ⟨s2, e⟩ := s.freeze (o := .tup xs) hp
  exact k _ _ _ _ _ e s2 (.tup (.inl (.inl upd_same)) (r.ext e)) q
theorem KE.lst {Q' : QD} {Q : VK} {xs : List V} {ds : List D} {p : Addr} (k : KE K F R Q' Q) (s : Stt K F R H M) (hp : H p = none) (r : RepAll K F xs ds) (q : Q' (.lst ds) M) : Q (.ref p) (upd H p (.lst xs)) := by
  obtain ⟨s2, e⟩ := s.freeze (o := .lst xs) hp
  exact k _ _ _ _ _ e s2 (.lst upd_same (r.ext e)) q
theorem KE.own {Q' : QD} {Q : VK} {o : HO} {m : MO} {p : Addr} (k : KE K F R Q' Q) (s : Stt K F R H M) (hp : H p = none) (r : RepO K F o m) (q : M p = none → Q' (.ref p) (updM M p m)) : Q (.ref p) (upd H p o) := by
  obtain ⟨s2, mp⟩ := s.own hp r
  exact k _ _ _ _ _ Ext.refl s2 (.ref p) (q mp)
end

/-! ### names, constants -/
def dVar (i : Nat) : DE := fun τ M Q => match τ[i]? with
  | some (some d) => Q d M
  | _ => False
def dC (d : D) : DE := fun _ M Q => Q d M
section
variable {X : Cx} {F0 : Bs}
theorem pd_var {e : Expr} {i : Nat} (h : PE X e (tVar i)) : PE X e (liE X.K F0 (dVar i)) := by
  refine peImp h fun σ H Q ⟨F, R, τ, M, Q', e0, st, sl, q, k⟩ => ?_
  unfold dVar at q
  split at q
  · rename_i d ed
    obtain ⟨v, ev, r⟩ := sl.get ed
    exact ⟨v, ev, k _ _ _ _ _ Ext.refl st r q⟩
  · exact q.elim
theorem pd_c {e : Expr} {v : V} {d : D} (h : PE X e (tC v)) (r : ∀ F, Rep X.K F v d) : PE X e (liE X.K F0 (dC d)) :=
  peImp h fun σ H Q ⟨F, R, τ, M, Q', e0, st, sl, q, k⟩ => k _ _ _ _ _ Ext.refl st (r F) q
theorem pd_int {i j pos} : PE X (.Constant (.int i) j pos) (liE X.K F0 (dC (.int i))) := pd_c pe_int fun _ => .int i
theorem pd_bl {b j pos} : PE X (.Constant (.bool b) j pos) (liE X.K F0 (dC (.bl b))) := pd_c pe_bl fun _ => .bl b
theorem pd_non {j pos} : PE X (.Constant .none j pos) (liE X.K F0 (dC .non)) := pd_c pe_non fun _ => .non
theorem pd_str {x j pos} : PE X (.Constant (.str x) j pos) (liE X.K F0 (dC (.str x))) := pd_c pe_str fun _ => .str x
/-- the name in the i-th slot -/
theorem dv (i : Nat) {x : Str} {pos : Pos} (hN : X.N[i]? = some x := by rfl) (hv : Vis X.env.scope x := by first | exact Or.inl rfl | exact Or.inr (Or.inl rfl) | exact Or.inr (Or.inr rfl)) (hd : (x == ("__debug__" : Str)) = false := by decide)
    (hcd : (x == ("__classdict__" : Str)) = false := by decide) : PE X (.Name x pos) (liE X.K F0 (dVar i)) := pd_var (pe_var hN hv hd hcd)
/-- a module's constant -/
theorem pd_glob {x : Str} {v : V} {d : D} {u : Value} {pos : Pos} (hg : Gl X x) (hm : X.mg x = some u) (r : RelV v u) (rd : ∀ F, Rep X.K F v d) (hd : (x == ("__debug__" : Str)) = false := by decide) : PE X (.Name x pos) (liE X.K F0 (dC d)) := pd_c (pe_glob hg hm r hd) rd
theorem pd_bltn {x : Str} {v : V} {d : D} {u : Value} {pos : Pos} (hg : Gl X x) (hm : X.mg x = none) (hv : bootBuiltins x = some u) (r : RelV v u) (rd : ∀ F, Rep X.K F v d) (hn : x ≠ "__name__" := by decide) (hd : (x == ("__debug__" : Str)) = false := by decide) : PE X (.Name x pos) (liE X.K F0 (dC d)) := pd_c (pe_bltn hg hm hv r hn hd) rd
end

/-! ### two places -/
abbrev R2D := D → D → Mp → QD → Prop
def dOp (r : R2D) (ta tb : DE) : DE := fun τ M Q => ta τ M fun x M1 => tb τ M1 fun y M2 => r x y M2 Q
def dUn (r : D → Mp → QD → Prop) (ta : DE) : DE := fun τ M Q => ta τ M fun x M1 => r x M1 Q
theorem li_op {K : PySem.W.Frag} {F0 : Bs} {r : R2D} {ta tb : DE} {σ : L2.St} {H : Hp} {Q : VK} (h : liE K F0 (dOp r ta tb) σ H Q) : tOp (liR K F0 r) (liE K F0 ta) (liE K F0 tb) σ H Q := by
  obtain ⟨F, R, τ, M, Q', e0, st, sl, q, k⟩ := h
  refine ⟨F, R, τ, M, _, e0, st, sl, q, fun v H1 F1 d M1 e1 st1 r1 q1 => ?_⟩
  refine ⟨F1, R, τ, M1, _, e0.trans e1, st1, sl.ext e1, q1, fun u H2 F2 d2 M2 e2 st2 r2 q2 => ?_⟩
  exact ⟨F2, R, M2, d, d2, Q', e0.trans (e1.trans e2), st2, r1.ext e2, r2, q2, k.ext (e1.trans e2)⟩
theorem li_un {K : PySem.W.Frag} {F0 : Bs} {r : D → Mp → QD → Prop} {ta : DE} {σ : L2.St} {H : Hp} {Q : VK} (h : liE K F0 (dUn r ta) σ H Q) : tUn (liU K F0 r) (liE K F0 ta) σ H Q := by
  obtain ⟨F, R, τ, M, Q', e0, st, sl, q, k⟩ := h
  refine ⟨F, R, τ, M, _, e0, st, sl, q, fun v H1 F1 d M1 e1 st1 r1 q1 => ?_⟩
  exact ⟨F1, R, M1, d, Q', e0.trans e1, st1, r1, q1, k.ext e1⟩
section
variable {X : Cx} {F0 : Bs} {a b c : Expr} {ta tb tc : DE} {pos : Pos}
abbrev OpD (X : Cx) (F0 : Bs) (f : Value → Value → Sem Value) (r : R2D) : Prop := OpR X f (liR X.K F0 r)
theorem pd_op {op : Operator} {r : R2D} (ho : OpD X F0 (binaryOp op) r) (ha : PE X a (liE X.K F0 ta)) (hb : PE X b (liE X.K F0 tb)) : PE X (.BinOp a op b pos) (liE X.K F0 (dOp r ta tb)) :=
  peImp (pe_op ho ha hb) fun _ _ _ => li_op
theorem pd_un {op : UnaryOp} {r : D → Mp → QD → Prop} (ho : UnR X (unaryOp op) (liU X.K F0 r)) (ha : PE X a (liE X.K F0 ta)) : PE X (.UnaryOp op a pos) (liE X.K F0 (dUn r ta)) :=
  peImp (pe_un ho ha) fun _ _ _ => li_un
theorem pd_cmp {op : CmpOp} {r : R2D} (ho : OpD X F0 (compareOp op) r) (ha : PE X a (liE X.K F0 ta)) (hb : PE X b (liE X.K F0 tb)) (hm : behindInMarks op b = false) : PE X (.Compare a [op] [b] pos) (liE X.K F0 (dOp r ta tb)) :=
  peImp (pe_cmpR ho ha hb hm) fun _ _ _ => li_op
/-- a value as a test -/
def dTest (t : DE) : DT := fun τ M Q => t τ M fun d M1 => match d with
  | .bl k => Q k M1
  | _ => False
theorem li_test {K : PySem.W.Frag} {t : DE} {t0 : TE} (h0 : ∀ σ H Q, liE K F0 t σ H Q → t0 σ H Q) {σ : L2.St} {H : Hp} {Q : Bool → Hp → Prop} (h : liT K F0 (dTest t) σ H Q) : tTest t0 σ H Q := by
  obtain ⟨F, R, τ, M, Q', e0, st, sl, q, k⟩ := h
  refine h0 _ _ _ ⟨F, R, τ, M, _, e0, st, sl, q, fun v H1 F1 d M1 e1 st1 r1 q1 => ?_⟩
  cases d with
  | bl b => cases r1; exact ⟨b, rfl, k _ _ _ _ e1 st1 q1⟩
  | _ => exact q1.elim
theorem td_cmp {op : CmpOp} {r : R2D} (ho : OpD X F0 (compareOp op) r) (ha : PE X a (liE X.K F0 ta)) (hb : PE X b (liE X.K F0 tb)) (hm : behindInMarks op b = false) : PT X (.Compare a [op] [b] pos) (liT X.K F0 (dTest (dOp r ta tb))) :=
  ptImp (pt_cmpR ho ha hb hm) fun _ _ _ => li_test fun _ _ _ => li_op
def dChain (r r' : R2D) (ta tb tc : DE) : DE := fun τ M Q => ta τ M fun x M1 => tb τ M1 fun y M2 => r x y M2 fun z M3 => match z with
  | .bl true => tc τ M3 fun w M4 => r' y w M4 Q
  | .bl false => Q (.bl false) M3
  | _ => False
theorem li_chain {K : PySem.W.Frag} {r r' : R2D} {σ : L2.St} {H : Hp} {Q : VK} (h : liE K F0 (dChain r r' ta tb tc) σ H Q) : tChain (liR K F0 r) (liR K F0 r') (liE K F0 ta) (liE K F0 tb) (liE K F0 tc) σ H Q := by
  obtain ⟨F, R, τ, M, Q', e0, st, sl, q, k⟩ := h
  refine ⟨F, R, τ, M, _, e0, st, sl, q, fun v H1 F1 d M1 e1 st1 r1 q1 => ?_⟩
  refine ⟨F1, R, τ, M1, _, e0.trans e1, st1, sl.ext e1, q1, fun u H2 F2 d2 M2 e2 st2 r2 q2 => ?_⟩
  refine ⟨F2, R, M2, d, d2, _, e0.trans (e1.trans e2), st2, r1.ext e2, r2, q2, fun z H3 F3 dz M3 e3 st3 r3 q3 => ?_⟩
  cases dz with
  | bl b =>
    cases r3
    cases b with
    | true =>
      refine ⟨true, rfl, ?_⟩
      rw [if_pos rfl]
      refine ⟨F3, R, τ, M3, _, e0.trans (e1.trans (e2.trans e3)), st3, sl.ext (e1.trans (e2.trans e3)), q3, fun z2 H4 F4 d4 M4 e4 st4 r4 q4 => ?_⟩
      exact ⟨F4, R, M4, d2, d4, Q', e0.trans (e1.trans (e2.trans (e3.trans e4))), st4, r2.ext (e3.trans e4), r4, q4, k.ext (e1.trans (e2.trans (e3.trans e4)))⟩
    | false => exact ⟨false, rfl, by rw [if_neg Bool.false_ne_true]; exact k _ _ _ _ _ (e1.trans (e2.trans e3)) st3 (.bl false) q3⟩
  | _ => exact q3.elim
theorem pd_chain {op op' : CmpOp} {r r' : R2D} (ho : OpD X F0 (compareOp op) r) (ho' : OpD X F0 (compareOp op') r') (ha : PE X a (liE X.K F0 ta)) (hb : PE X b (liE X.K F0 tb)) (hc : PE X c (liE X.K F0 tc))
    (hm : lastMarks [op, op'] [b, c] = false := by with_unfolding_all rfl) : PE X (.Compare a [op, op'] [b, c] pos) (liE X.K F0 (dChain r r' ta tb tc)) :=
  peImp (pe_chain ho ho' ha hb hc hm) fun _ _ _ => li_chain
theorem td_chain {op op' : CmpOp} {r r' : R2D} (ho : OpD X F0 (compareOp op) r) (ho' : OpD X F0 (compareOp op') r') (ha : PE X a (liE X.K F0 ta)) (hb : PE X b (liE X.K F0 tb)) (hc : PE X c (liE X.K F0 tc))
    (hm : lastMarks [op, op'] [b, c] = false := by with_unfolding_all rfl) : PT X (.Compare a [op, op'] [b, c] pos) (liT X.K F0 (dTest (dChain r r' ta tb tc))) :=
  ptImp (pt_chain ho ho' ha hb hc hm) fun _ _ _ => li_test fun _ _ _ => li_chain
end

/-! ### a value's truth -/
def dTru (d : D) (M : Mp) (Q : Bool → Mp → Prop) : Prop := match d with
  | .non => Q false M
  | .bl b => Q b M
  | .int i => Q (i != 0) M
  | .str x => x.length ≤ sizeLine ∧ Q ((x.length : Int) != 0) M
  | .tup ds => Q (!ds.isEmpty) M
  | .lst ds => Q (!ds.isEmpty) M
  | .lsk ds => Q (!ds.isEmpty) M
  | .ref a => match M a with
    | some (.lst ds) => Q (!ds.isEmpty) M
    | some (.dK kvs) => Q (!kvs.isEmpty) M
    | _ => False
  | _ => False
theorem RepAll.emp {K : PySem.W.Frag} {F : Hp} {xs : List V} {ds : List D} (r : RepAll K F xs ds) : ds.isEmpty = xs.isEmpty := by cases r <;> rfl
theorem RepKV.emp {K : PySem.W.Frag} {F : Hp} {κ : Type} {xs : List (κ × V)} {ds : List (κ × D)} (r : RepKV K F xs ds) : ds.isEmpty = xs.isEmpty := by cases r <;> rfl
theorem tru_get {K : PySem.W.Frag} {F R H : Hp} {M : Mp} {x : V} {d : D} {Q' : Bool → Mp → Prop} {Q : Bool → Hp → Prop} (s : Stt K F R H M) (r : Rep K F x d) (h : dTru d M Q') (k : KT K F R Q' Q) : ∃ b, TruV K x H b ∧ Q b H := by
  cases d with
  | non => cases r; exact ⟨false, rfl, k _ _ _ _ Ext.refl s h⟩
  | bl b => cases r; exact ⟨b, rfl, k _ _ _ _ Ext.refl s h⟩
  | int i => cases r; exact ⟨_, rfl, k _ _ _ _ Ext.refl s h⟩
  | str x => cases r; exact ⟨_, ⟨h.1, rfl⟩, k _ _ _ _ Ext.refl s h.2⟩
  | tup ds =>
    obtain ⟨a, xs, rfl, q, ra⟩ := tp_get s r
    have h : Q' (!ds.isEmpty) M := h
    rw [ra.emp] at h
    exact ⟨_, .inr (.inl ⟨xs, q, rfl⟩), k _ _ _ _ Ext.refl s h⟩
  | lst ds =>
    obtain ⟨a, xs, rfl, q, ra⟩ := ls_get (M := M) (ds := ds) s r rfl
    have h : Q' (!ds.isEmpty) M := h
    rw [ra.emp] at h
    exact ⟨_, .inl ⟨xs, q, rfl⟩, k _ _ _ _ Ext.refl s h⟩
  | lsk ds =>
    obtain ⟨a, xs, rfl, q, ra⟩ := ls_get (M := M) (ds := ds) s r rfl
    have h : Q' (!ds.isEmpty) M := h
    rw [ra.emp] at h
    exact ⟨_, .inl ⟨xs, q, rfl⟩, k _ _ _ _ Ext.refl s h⟩
  | ref a =>
    have h : (match M a with
      | some (.lst ds) => Q' (!ds.isEmpty) M
      | some (.dK kvs) => Q' (!kvs.isEmpty) M
      | _ => False) := h
    cases r
    split at h
    · rename_i ds e
      obtain ⟨_, o, ho, ro⟩ := s.ow _ _ e
      obtain ⟨xs, rfl, ra⟩ := ro.lst_iff
      rw [ra.emp] at h
      exact ⟨_, .inl ⟨xs, .inl (.inl ho), rfl⟩, k _ _ _ _ Ext.refl s h⟩
    · rename_i kvs e
      obtain ⟨_, o, ho, ro⟩ := s.ow _ _ e
      cases o <;> try exact ro.elim
      rename_i kvs'
      have ra : RepKV K F kvs' kvs := ro
      rw [ra.emp] at h
      exact ⟨_, .inr (.inr ⟨kvs', ho, rfl⟩), k _ _ _ _ Ext.refl s h⟩
    · exact h.elim
  | ty n => exact h.elim
  | fn a G => exact h.elim
def dTruth (t : DE) : DT := fun τ M Q => t τ M fun d M1 => dTru d M1 Q
section
variable {X : Cx} {F0 : Bs} {a b c : Expr} {ta tb tc : DE} {rest : List Expr} {pos : Pos}
theorem td_tru (ha : PE X a (liE X.K F0 ta)) (he : ∀ whole, isTrue a X.env whole = (do let v ← whole; standAt a.pos; holding [v] (truthy v)) := by intro _; rfl) : PT X a (liT X.K F0 (dTruth ta)) := by
  refine ptImp (pt_truth ha he) fun σ H Q ⟨F, R, τ, M, Q', e0, st, sl, q, k⟩ => ?_
  exact ⟨F, R, τ, M, _, e0, st, sl, q, fun v H1 F1 d M1 e1 st1 r1 q1 => tru_get st1 r1 q1 (k.ext e1)⟩
/-- x or y, x and y, not x as values -/
def dOr (ta tb : DE) : DE := fun τ M Q => ta τ M fun x M1 => dTru x M1 fun k M2 => if k = true then Q x M2 else tb τ M2 Q
def dAnd (ta tb : DE) : DE := fun τ M Q => ta τ M fun x M1 => dTru x M1 fun k M2 => if k = true then tb τ M2 Q else Q x M2
def dNot (ta : DE) : DE := fun τ M Q => ta τ M fun x M1 => dTru x M1 fun k M2 => Q (.bl (!k)) M2
/-- the truth of a value leaves everything -/
theorem dTru_pure {d : D} {M : Mp} {Q : Bool → Mp → Prop} (h : dTru d M Q) : ∃ b, Q b M ∧ ∀ Q2 : Bool → Mp → Prop, Q2 b M → dTru d M Q2 := by
  cases d with
  | non => exact ⟨_, h, fun _ z => z⟩
  | bl b => exact ⟨_, h, fun _ z => z⟩
  | int b => exact ⟨_, h, fun _ z => z⟩
  | str b => exact ⟨_, h.2, fun _ z => ⟨h.1, z⟩⟩
  | tup ds => exact ⟨_, h, fun _ z => z⟩
  | lst ds => exact ⟨_, h, fun _ z => z⟩
  | lsk ds => exact ⟨_, h, fun _ z => z⟩
  | ty n => exact h.elim
  | fn a G => exact h.elim
  | ref a =>
    have h : (match M a with
      | some (.lst ds) => Q (!ds.isEmpty) M
      | some (.dK kvs) => Q (!kvs.isEmpty) M
      | _ => False) := h
    show ∃ b, Q b M ∧ ∀ Q2 : Bool → Mp → Prop, Q2 b M → (match M a with
      | some (.lst ds) => Q2 (!ds.isEmpty) M
      | some (.dK kvs) => Q2 (!kvs.isEmpty) M
      | _ => False)
    split at h
    · exact ⟨_, h, fun Q2 z => z⟩
    · exact ⟨_, h, fun Q2 z => z⟩
    · exact h.elim
theorem tru_get2 {K : PySem.W.Frag} {F R H : Hp} {M : Mp} {x : V} {d : D} {Q' : Bool → Mp → Prop} (s : Stt K F R H M) (r : Rep K F x d) (h : dTru d M Q') : ∃ b, TruV K x H b ∧ Q' b M := by
  obtain ⟨b, q, h2⟩ := dTru_pure h
  have h3 := h2 (fun c M2 => c = b ∧ M2 = M) ⟨rfl, rfl⟩
  obtain ⟨c, t, e⟩ := tru_get (Q := fun c H2 => c = b) s r h3 fun c H2 F2 M2 _ _ z => z.1
  subst e
  exact ⟨c, t, q⟩
theorem pd_or (ha : PE X a (liE X.K F0 ta)) (hb : PE X (.BoolOp .Or (b :: rest) pos) (liE X.K F0 tb)) : PE X (.BoolOp .Or (a :: b :: rest) pos) (liE X.K F0 (dOr ta tb)) := by
  refine peImp (pe_orT ha hb) fun σ H Q ⟨F, R, τ, M, Q', e0, st, sl, q, k⟩ => ?_
  refine ⟨F, R, τ, M, _, e0, st, sl, q, fun v H1 F1 d M1 e1 st1 r1 q1 => ?_⟩
  obtain ⟨b, t, q2⟩ := tru_get2 st1 r1 q1
  refine ⟨b, t, ?_⟩
  cases b with
  | true => rw [if_pos rfl] at q2 ⊢; exact k _ _ _ _ _ e1 st1 r1 q2
  | false =>
    rw [if_neg Bool.false_ne_true] at q2 ⊢
    exact ⟨F1, R, τ, M1, _, e0.trans e1, st1, sl.ext e1, q2, k.ext e1⟩
theorem pd_and (ha : PE X a (liE X.K F0 ta)) (hb : PE X (.BoolOp .And (b :: rest) pos) (liE X.K F0 tb)) : PE X (.BoolOp .And (a :: b :: rest) pos) (liE X.K F0 (dAnd ta tb)) := by
  refine peImp (pe_andT ha hb) fun σ H Q ⟨F, R, τ, M, Q', e0, st, sl, q, k⟩ => ?_
  refine ⟨F, R, τ, M, _, e0, st, sl, q, fun v H1 F1 d M1 e1 st1 r1 q1 => ?_⟩
  obtain ⟨b, t, q2⟩ := tru_get2 st1 r1 q1
  refine ⟨b, t, ?_⟩
  cases b with
  | false => rw [if_neg Bool.false_ne_true] at q2 ⊢; exact k _ _ _ _ _ e1 st1 r1 q2
  | true =>
    rw [if_pos rfl] at q2 ⊢
    exact ⟨F1, R, τ, M1, _, e0.trans e1, st1, sl.ext e1, q2, k.ext e1⟩
theorem pd_one {op} (ha : PE X a (liE X.K F0 ta)) : PE X (.BoolOp op [a] pos) (liE X.K F0 ta) := pe_one ha
theorem pd_not (ha : PE X a (liE X.K F0 ta)) : PE X (.UnaryOp .Not a pos) (liE X.K F0 (dNot ta)) := by
  refine peImp (pe_notT ha) fun σ H Q ⟨F, R, τ, M, Q', e0, st, sl, q, k⟩ => ?_
  refine ⟨F, R, τ, M, _, e0, st, sl, q, fun v H1 F1 d M1 e1 st1 r1 q1 => ?_⟩
  obtain ⟨b, t, q2⟩ := tru_get2 st1 r1 q1
  exact ⟨b, t, k _ _ _ _ _ e1 st1 (.bl _) q2⟩
/-- tests: and, or, not -/
def dTAnd (t u : DT) : DT := fun τ M Q => t τ M fun c M1 => if c = true then u τ M1 Q else Q false M1
def dTOr (t u : DT) : DT := fun τ M Q => t τ M fun c M1 => if c = true then Q true M1 else u τ M1 Q
def dTNot (t : DT) : DT := fun τ M Q => t τ M fun c M1 => Q (!c) M1
variable {tA tB' : DT}
theorem wd_and1 (ha : PT X a (liT X.K F0 tA)) : PW X (.BoolOp .And [a] pos) (liT X.K F0 tA) := pw_and1 ha
theorem wd_or1 (ha : PT X a (liT X.K F0 tA)) : PW X (.BoolOp .Or [a] pos) (liT X.K F0 tA) := pw_or1 ha
theorem wd_and (ha : PT X a (liT X.K F0 tA)) (hb : PW X (.BoolOp .And (b :: rest) pos) (liT X.K F0 tB')) : PW X (.BoolOp .And (a :: b :: rest) pos) (liT X.K F0 (dTAnd tA tB')) := by
  refine pwImp (pw_and ha hb) fun σ H Q ⟨F, R, τ, M, Q', e0, st, sl, q, k⟩ => ?_
  refine ⟨F, R, τ, M, _, e0, st, sl, q, fun b H1 F1 M1 e1 st1 q1 => ?_⟩
  cases b with
  | true => rw [if_pos rfl] at q1 ⊢; exact ⟨F1, R, τ, M1, _, e0.trans e1, st1, sl.ext e1, q1, k.ext e1⟩
  | false => rw [if_neg Bool.false_ne_true] at q1 ⊢; exact k _ _ _ _ e1 st1 q1
theorem wd_or (ha : PT X a (liT X.K F0 tA)) (hb : PW X (.BoolOp .Or (b :: rest) pos) (liT X.K F0 tB')) : PW X (.BoolOp .Or (a :: b :: rest) pos) (liT X.K F0 (dTOr tA tB')) := by
  refine pwImp (pw_or ha hb) fun σ H Q ⟨F, R, τ, M, Q', e0, st, sl, q, k⟩ => ?_
  refine ⟨F, R, τ, M, _, e0, st, sl, q, fun b H1 F1 M1 e1 st1 q1 => ?_⟩
  cases b with
  | false => rw [if_neg Bool.false_ne_true] at q1 ⊢; exact ⟨F1, R, τ, M1, _, e0.trans e1, st1, sl.ext e1, q1, k.ext e1⟩
  | true => rw [if_pos rfl] at q1 ⊢; exact k _ _ _ _ e1 st1 q1
theorem td_not (ha : PT X a (liT X.K F0 tA)) : PT X (.UnaryOp .Not a pos) (liT X.K F0 (dTNot tA)) :=
  ptImp (pt_not ha) fun σ H Q ⟨F, R, τ, M, Q', e0, st, sl, q, k⟩ => ⟨F, R, τ, M, _, e0, st, sl, q, fun b H1 F1 M1 e1 st1 q1 => k _ _ _ _ e1 st1 q1⟩
/-- a if t else b -/
def dIf (t : DT) (ta tb : DE) : DE := fun τ M Q => t τ M fun c M1 => if c = true then ta τ M1 Q else tb τ M1 Q
theorem pd_if (hc : PT X c (liT X.K F0 tA)) (ha : PE X a (liE X.K F0 ta)) (hb : PE X b (liE X.K F0 tb)) : PE X (.IfExp c a b pos) (liE X.K F0 (dIf tA ta tb)) := by
  refine peImp (pe_ifExp hc ha hb) fun σ H Q ⟨F, R, τ, M, Q', e0, st, sl, q, k⟩ => ?_
  refine ⟨F, R, τ, M, _, e0, st, sl, q, fun b H1 F1 M1 e1 st1 q1 => ?_⟩
  cases b with
  | true => rw [if_pos rfl] at q1 ⊢; exact ⟨F1, R, τ, M1, _, e0.trans e1, st1, sl.ext e1, q1, k.ext e1⟩
  | false => rw [if_neg Bool.false_ne_true] at q1 ⊢; exact ⟨F1, R, τ, M1, _, e0.trans e1, st1, sl.ext e1, q1, k.ext e1⟩
end
end DL

/-! DL, the rules: operators, displays, subscripts -/
namespace DL
open PySem PySem.Spec PyProof.Rows L2

/-! ### ints -/
def dI (C : Int → Int → Prop) (g : Int → Int → Int) : R2D := fun x y M Q => match x, y with
  | .int i, .int j => C i j ∧ Q (.int (g i j)) M
  | _, _ => False
def dI0 (g : Int → Int → Int) : R2D := fun x y M Q => match x, y with
  | .int i, .int j => Q (.int (g i j)) M
  | _, _ => False
def dB0 (g : Int → Int → Bool) : R2D := fun x y M Q => match x, y with
  | .int i, .int j => Q (.bl (g i j)) M
  | _, _ => False
section
variable {X : Cx} {F0 : Bs} {f : Value → Value → Sem Value}
theorem od_I {C : Int → Int → Prop} {g : Int → Int → Int} (h : OpR X f (rI C fun i j => .int (g i j))) : OpD X F0 f (dI C g) := by
  refine opImp h fun x y H Q ⟨F, R, M, d, e, Q', e0, st, rx, ry, q, k⟩ => ?_
  cases d <;> try exact q.elim
  cases e <;> try exact q.elim
  cases rx; cases ry
  exact ⟨_, _, rfl, rfl, q.1, k _ _ _ _ _ Ext.refl st (.int _) q.2⟩
theorem od_I0 {g : Int → Int → Int} (h : OpR X f (rI0 fun i j => .int (g i j))) : OpD X F0 f (dI0 g) := by
  refine opImp h fun x y H Q ⟨F, R, M, d, e, Q', e0, st, rx, ry, q, k⟩ => ?_
  cases d <;> try exact q.elim
  cases e <;> try exact q.elim
  cases rx; cases ry
  exact ⟨_, _, rfl, rfl, k _ _ _ _ _ Ext.refl st (.int _) q⟩
theorem od_B0 {g : Int → Int → Bool} (h : OpR X f (rI0 fun i j => .bl (g i j))) : OpD X F0 f (dB0 g) := by
  refine opImp h fun x y H Q ⟨F, R, M, d, e, Q', e0, st, rx, ry, q, k⟩ => ?_
  cases d <;> try exact q.elim
  cases e <;> try exact q.elim
  cases rx; cases ry
  exact ⟨_, _, rfl, rfl, k _ _ _ _ _ Ext.refl st (.bl _) q⟩
abbrev dSub : R2D := dI0 fun i j => i - j
abbrev dFdiv : R2D := dI CDivW fun i j => i / j
abbrev dMod : R2D := dI (fun _ j => 0 < j) fun i j => i % j
abbrev dPow : R2D := dI CPow fun i j => i ^ j.toNat
abbrev dLt : R2D := dB0 fun i j => decide (i < j)
abbrev dLe : R2D := dB0 fun i j => decide (i ≤ j)
abbrev dGt : R2D := dB0 fun i j => decide (j < i)
abbrev dGe : R2D := dB0 fun i j => decide (j ≤ i)
theorem od_sub : OpD X F0 (binaryOp .Sub) dSub := od_I0 op_sub
theorem od_fdiv : OpD X F0 (binaryOp .FloorDiv) dFdiv := od_I op_fdivW
theorem od_mod : OpD X F0 (binaryOp .Mod) dMod := od_I op_mod
theorem od_pow : OpD X F0 (binaryOp .Pow) dPow := od_I op_pow
theorem od_lt : OpD X F0 (compareOp .Lt) dLt := od_B0 op_lt
theorem od_le : OpD X F0 (compareOp .LtE) dLe := od_B0 op_le
theorem od_gt : OpD X F0 (compareOp .Gt) dGt := od_B0 op_gt
theorem od_ge : OpD X F0 (compareOp .GtE) dGe := od_B0 op_ge
def dNeg : D → Mp → QD → Prop := fun x M Q => match x with
  | .int i => Q (.int (-i)) M
  | _ => False
theorem ud_neg : UnR X (unaryOp .USub) (liU X.K F0 dNeg) := by
  refine unImp un_neg fun x H Q ⟨F, R, M, d, Q', e0, st, rx, q, k⟩ => ?_
  cases d <;> try exact q.elim
  cases rx
  exact ⟨_, rfl, k _ _ _ _ _ Ext.refl st (.int _) q⟩

/-- + of ints, texts, tuples, lists (a new list) -/
def dAdd : R2D := fun x y M Q => match x, y with
  | .int i, .int j => Q (.int (i + j)) M
  | .str a, .str b => a.length + b.length ≤ sizeLine ∧ Q (.str (a ++ b)) M
  | .tup xs, .tup ys => xs.length + ys.length ≤ sizeLine ∧ Q (.tup (xs ++ ys)) M
  | x, y => match ltOf M x, ltOf M y with
    | some xs, some ys => xs.length + ys.length ≤ sizeLine ∧ Q (.lst (xs ++ ys)) M
    | _, _ => False
theorem od_add : OpD X F0 (binaryOp .Add) dAdd := by
  intro pins s σ H x y v u Q I rx ry ⟨F, R, M, d, e, Q', e0, st, rd, re, q, k⟩
  unfold dAdd at q
  split at q
  · cases rd; cases re
    exact op_add pins s σ H _ _ v u Q I rx ry ⟨_, _, rfl, rfl, k _ _ _ _ _ Ext.refl st (.int _) q⟩
  · cases rd; cases re
    exact op_add_str pins s σ H _ _ v u Q I rx ry ⟨_, _, rfl, rfl, q.1, k _ _ _ _ _ Ext.refl st (.str _) q.2⟩
  · rename_i xs ys
    have rd0 := rd
    have re0 := re
    obtain ⟨a, vs, rfl, h1, ra⟩ := tp_get st rd
    obtain ⟨b, us, rfl, h2, rb⟩ := tp_get st re
    refine op_catA pins s σ H _ _ v u Q I rx ry ⟨a, b, vs, us, rfl, rfl, h1, h2, by rw [ra.len, rb.len]; exact q.1, fun z => ?_, fun _ z => ?_, fun _ _ p hp => k.tup st hp (ra.app rb) q.2⟩
    · subst z
      cases ra
      exact k _ _ _ _ _ Ext.refl st re0 q.2
    · subst z
      cases rb
      have q2 := q.2
      rw [List.append_nil] at q2
      exact k _ _ _ _ _ Ext.refl st rd0 q2
  · split at q
    · rename_i xs ys h1 h2
      obtain ⟨a, vs, rfl, g1, ra⟩ := lt_get st rd h1
      obtain ⟨b, us, rfl, g2, rb⟩ := lt_get st re h2
      exact op_cat pins s σ H _ _ v u Q I rx ry ⟨a, b, vs, us, rfl, rfl, g1, g2, by rw [ra.len, rb.len]; exact q.1, fun p hp => k.lst st hp (ra.app rb) q.2⟩
    · exact q.elim
/-- a tuple, a few times -/
theorem op_repN : OpR X (binaryOp .Mult) (fun x y H Q => ∃ l k xs, x = .ref l ∧ y = .int k ∧ SqT X.K H l xs ∧ xs ≠ [] ∧ 2 ≤ k ∧ xs.length * k.toNat ≤ 1000000 ∧ ∀ p, H p = none → Q (.ref p) (upd H p (.tup (List.replicate k.toNat xs).flatten))) := by
  intro pins s σ H x y v u Q I rx ry h
  obtain ⟨l, k, xs, rfl, rfl, hT, hne, h1, hz, q⟩ := h
  cases rx
  obtain ⟨t, rfl⟩ := ry
  obtain ⟨its, r, ⟨⟨cls, dd, data, sl⟩, ho, hc, n, hd⟩, hs⟩ := I.tuple hT
  simp only at hc hd
  subst hc hd
  have hle : its.length = xs.length := r.length.symm
  have hn : its ≠ [] := fun e => hne (List.eq_nil_of_length_eq_zero (by rw [← hle, e]; rfl))
  have hpos : 1 ≤ xs.length := by
    cases xs with
    | nil => exact absurd rfl hne
    | cons a b => simp
  have hk : k.toNat ≤ 1000000 := Nat.le_trans (Nat.le_mul_of_pos_left k.toNat hpos) hz
  have hi : its.toArray.isEmpty = false := by
    cases its with
    | nil => exact absurd rfl hn
    | cons a b => rfl
  have hk2 : ((k.toNat : Nat) : Int) = k := Int.toNat_of_nonneg (by omega)
  have hm : ((its.toArray.size : Nat) : Int) * k ≤ 1000000 := by
    have z : ((xs.length * k.toNat : Nat) : Int) ≤ ((1000000 : Nat) : Int) := Int.ofNat_le.mpr hz
    rw [Int.natCast_mul, hk2] at z
    rw [List.size_toArray, hle]
    exact z
  have flen : (List.replicate k.toNat its).flatten.length ≤ sizeLine := by
    rw [PyProof.Rows.lm_len_rep_flat, hle, sizeLine_eq, Nat.mul_comm]
    omega
  have c4 : Builtin.Tuple.tupleTooMany (((its.toArray.size : Nat) : Int) * k) = false := by
    unfold Builtin.Tuple.tupleTooMany
    rw [sizeLine_eq]
    exact decide_eq_false (by omega)
  refine wpAny_binaryOp_repeat_ref (T := "tuple") (U := "int") (by decide) ⟨_, ho, rfl⟩ (fun s' => typeIs_int s' k t) noFill_tuple_mul F.fills_int_mul F.slot_int_rmul repeat_tuple F.slot_int_index.lookup
    (call_meets F.slot_int_rmul (typeIs_int s k t) F.entry_int_rmul (F.args_int_rmul_2 _ _) (int_rmul_tuple k t l its.toArray n dd sl)
      ⟨ho, rfl, ⟨_, ho, rfl⟩, call_meets F.slot_tuple_mul ⟨_, ho, rfl⟩ F.entry_tuple_mul (F.args_tuple_mul_2 _ _)
        (tuple_mulW l its.toArray n dd sl k t (by rw [decide_eq_false (by omega), decide_eq_false (by omega)] <;> rfl) (by rw [hi, Bool.false_or]; exact beq_eq_false_iff_ne.mpr (by omega)) (by rw [hi, Bool.or_false]; exact decide_eq_false (by omega)) (by omega) c4 (by rw [size_rep, List.size_toArray]; exact flen)) ⟨ho, ?_⟩⟩)
  rw [size_rep]
  refine ⟨.ref s.heap.objs.size, _, I.laid (t' := s.toks) (o := .tup (List.replicate k.toNat xs).flatten) (fun b ob q => Heap.get?_push_of_some _ q) (Nat.le_refl _) ?_, rfl, q _ (I.hok.fresh (Nat.le_refl _))⟩
  exact ⟨by rw [PyProof.Rows.lm_len_rep_flat, sizeLine_eq, Nat.mul_comm]; omega, _, r.rep k.toNat, IsTup.new _ _⟩
theorem RepAll.reps {K : PySem.W.Frag} {F : Hp} {xs : List V} {ds : List D} (r : RepAll K F xs ds) : ∀ k : Nat, RepAll K F (List.replicate k xs).flatten (List.replicate k ds).flatten
  | 0 => .nil
  | k + 1 => by
    rw [List.replicate_succ, List.replicate_succ, List.flatten_cons, List.flatten_cons]
    exact r.app (RepAll.reps r k)
/-- * of ints (one of them below 2 ^ 64, or together below a million bits), of a tuple or a list and a number -/
def CMulA (i j : Int) : Prop := CMul i j ∨ CMulW i j
def dMul : R2D := fun x y M Q => match x, y with
  | .int i, .int j => CMulA i j ∧ Q (.int (i * j)) M
  | .tup xs, .int k => xs ≠ [] ∧ 2 ≤ k ∧ xs.length * k.toNat ≤ 1000000 ∧ Q (.tup (List.replicate k.toNat xs).flatten) M
  | x, .int k => match ltOf M x with
    | some xs => -(2 ^ 63) ≤ k ∧ k < 2 ^ 63 ∧ xs.length * k.toNat ≤ sizeLine ∧ Q (.lst (List.replicate k.toNat xs).flatten) M
    | none => False
  | _, _ => False
theorem od_mul : OpD X F0 (binaryOp .Mult) dMul := by
  intro pins s σ H x y v u Q I rx ry ⟨F, R, M, d, e, Q', e0, st, rd, re, q, k⟩
  unfold dMul at q
  split at q
  · cases rd; cases re
    obtain ⟨c, q⟩ := q
    rcases c with c | c
    · exact op_mul pins s σ H _ _ v u Q I rx ry ⟨_, _, rfl, rfl, c, k _ _ _ _ _ Ext.refl st (.int _) q⟩
    · exact op_mulW pins s σ H _ _ v u Q I rx ry ⟨_, _, rfl, rfl, c, k _ _ _ _ _ Ext.refl st (.int _) q⟩
  · obtain ⟨a, vs, rfl, h1, ra⟩ := tp_get st rd
    cases re
    refine op_repN pins s σ H _ _ v u Q I rx ry ⟨a, _, vs, rfl, rfl, h1, fun z => q.1 ?_, q.2.1, by rw [ra.len]; exact q.2.2.1, fun p hp => k.tup st hp (ra.reps _) q.2.2.2⟩
    subst z; cases ra; rfl
  · split at q
    · rename_i xs h1
      obtain ⟨a, vs, rfl, g1, ra⟩ := lt_get st rd h1
      cases re
      exact op_rep pins s σ H _ _ v u Q I rx ry ⟨a, _, vs, rfl, rfl, g1, q.1, q.2.1, by rw [ra.len]; exact q.2.2.1, fun p hp => k.lst st hp (ra.reps _) q.2.2.2⟩
    · exact q.elim
  · exact q.elim
end

/-! ### ==, != of data; is None -/
mutual
def D.py : D → Option PyData
  | .non => some .none
  | .bl b => some (.bool b)
  | .int i => some (.int i)
  | .str x => some (.str x)
  | .tup ds => match pyAll ds with
    | some ps => some (.tuple ps)
    | none => none
  | .lst ds => match pyAll ds with
    | some ps => some (.list ps)
    | none => none
  | .lsk ds => match pyAll ds with
    | some ps => some (.list ps)
    | none => none
  | .ref _ => none
  | .ty _ => none
  | .fn _ _ => none
def pyAll : List D → Option (List PyData)
  | [] => some []
  | d :: ds => match d.py, pyAll ds with
    | some p, some ps => some (p :: ps)
    | _, _ => none
end
/-- a list that is changed in place, read as data -/
def drf (M : Mp) : D → D
  | .ref a => match M a with
    | some (.lst ds) => .lst ds
    | _ => .ref a
  | d => d
section
variable {K : PySem.W.Frag} {F H : Hp}
mutual
theorem Rep.dp (hF : Ext F H) : ∀ (d : D) (p : PyData) (v : V), Rep K F v d → d.py = some p → Dp K H v p
  | .non, _, _, h, e => by cases h; cases e; exact .non
  | .bl b, _, _, h, e => by cases h; cases e; exact .bl b
  | .int b, _, _, h, e => by cases h; cases e; exact .int b
  | .str b, _, _, h, e => by cases h; cases e; exact .str b
  | .ref a, _, _, h, e => by cases e
  | .ty a, _, _, h, e => by cases e
  | .fn a G, _, _, h, e => by cases e
  | .tup ds, p, _, h, e => by
    cases h with
    | tup hs ha =>
      have e : (match pyAll ds with | some ps => some (PyData.tuple ps) | none => none) = some p := e
      split at e
      · rename_i ps ep
        cases e
        exact .tup (sqTMono hF hs) (RepAll.dps hF ds ps _ ha ep)
      · cases e
  | .lst ds, p, _, h, e => by
    cases h with
    | lst hs ha =>
      have e : (match pyAll ds with | some ps => some (PyData.list ps) | none => none) = some p := e
      split at e
      · rename_i ps ep
        cases e
        exact .lst (.inl (.inl (hF _ _ hs))) (RepAll.dps hF ds ps _ ha ep)
      · cases e
  | .lsk ds, p, _, h, e => by
    cases h with
    | lsk hs ha =>
      have e : (match pyAll ds with | some ps => some (PyData.list ps) | none => none) = some p := e
      split at e
      · rename_i ps ep
        cases e
        exact .lst (sqLMono hF hs) (RepAll.dps hF ds ps _ ha ep)
      · cases e
theorem RepAll.dps (hF : Ext F H) : ∀ (ds : List D) (ps : List PyData) (vs : List V), RepAll K F vs ds → pyAll ds = some ps → DpAll K H vs ps
  | [], _, _, h, e => by cases h; cases e; exact .nil
  | d :: ds, qs, _, h, e => by
    cases h with
    | cons h1 h2 =>
      have e : (match d.py, pyAll ds with | some p, some ps => some (p :: ps) | _, _ => none) = some qs := e
      split at e
      · rename_i p ps e1 e2
        cases e
        exact .cons (Rep.dp hF d p _ h1 e1) (RepAll.dps hF ds ps _ h2 e2)
      · cases e
end
theorem dp_drf {R : Hp} {M : Mp} {v : V} {d : D} {p : PyData} (st : Stt K F R H M) (r : Rep K F v d) (e : (drf M d).py = some p) : Dp K H v p := by
  cases d with
  | ref a =>
    cases r
    have e : D.py (match M a with | some (.lst ds) => D.lst ds | _ => .ref a) = some p := e
    split at e
    · rename_i ds em
      obtain ⟨_, o, ho, ro⟩ := st.ow _ _ em
      obtain ⟨xs, rfl, ra⟩ := ro.lst_iff
      have e : (match pyAll ds with | some ps => some (PyData.list ps) | none => none) = some p := e
      split at e
      · rename_i ps ep
        cases e
        exact .lst (.inl (.inl ho)) (RepAll.dps st.fz ds ps _ ra ep)
      · cases e
    · cases e
  | _ => exact Rep.dp st.fz _ p v r e
end
/-- the plain ones, straight -/
def scalD : D → D → Option Bool
  | .int i, .int j => some (decide (i = j))
  | .str a, .str b => some (decide (a = b))
  | .bl a, .bl b => some (decide (a = b))
  | .non, .non => some true
  | .non, .int _ => some false
  | .int _, .non => some false
  | .non, .bl _ => some false
  | .bl _, .non => some false
  | .non, .str _ => some false
  | .str _, .non => some false
  | .int _, .str _ => some false
  | .str _, .int _ => some false
  | .bl _, .str _ => some false
  | .str _, .bl _ => some false
  | _, _ => none
def dEqS (x y : D) (M : Mp) (Q : Bool → Prop) : Prop := match (drf M x).py, (drf M y).py with
  | some p, some q => SeqAt.shaped p = true ∧ SeqAt.shaped q = true ∧ Q (PyData.eqv p q)
  | _, _ => False
def dEq : R2D := fun x y M Q => match scalD x y with
  | some b => Q (.bl b) M
  | none => dEqS x y M fun b => Q (.bl b) M
def dNe : R2D := fun x y M Q => match scalD x y with
  | some b => Q (.bl (!b)) M
  | none => dEqS x y M fun b => Q (.bl (!b)) M
theorem scalD_ok {K : PySem.W.Frag} {F : Hp} {x y : V} {d e : D} {b : Bool} (r : Rep K F x d) (s : Rep K F y e) (h : scalD d e = some b) : scal x y = true ∧ decide (x = y) = b := by
  cases r <;> cases s <;> first | (cases h; exact ⟨rfl, by simp⟩) | cases h
def D.isN : D → Bool
  | .non => true
  | _ => false
def dIsN : R2D := fun x y M Q => match y with
  | .non => Q (.bl x.isN) M
  | _ => False
def dNotN : R2D := fun x y M Q => match y with
  | .non => Q (.bl (!x.isN)) M
  | _ => False
section
variable {X : Cx} {F0 : Bs}
theorem od_eq (hu : X.A.units + 64 < cLine) : OpD X F0 (compareOp .Eq) dEq := by
  intro pins s σ H x y v u Q I rx ry ⟨F, R, M, d, e, Q', e0, st, rd, re, q, k⟩
  unfold dEq at q
  split at q
  · rename_i b hb
    obtain ⟨h1, h2⟩ := scalD_ok rd re hb
    exact op_eq pins s σ H x y v u Q I rx ry ⟨h1, by rw [h2]; exact k _ _ _ _ _ Ext.refl st (.bl _) q⟩
  · unfold dEqS at q
    split at q
    · rename_i p q' h1 h2
      exact op_eqD hu pins s σ H x y v u Q I rx ry ⟨p, q', dp_drf st rd h1, dp_drf st re h2, q.1, q.2.1, k _ _ _ _ _ Ext.refl st (.bl _) q.2.2⟩
    · exact q.elim
theorem od_ne (hu : X.A.units + 64 < cLine) : OpD X F0 (compareOp .NotEq) dNe := by
  intro pins s σ H x y v u Q I rx ry ⟨F, R, M, d, e, Q', e0, st, rd, re, q, k⟩
  unfold dNe at q
  split at q
  · rename_i b hb
    obtain ⟨h1, h2⟩ := scalD_ok rd re hb
    exact op_ne pins s σ H x y v u Q I rx ry ⟨h1, by rw [h2]; exact k _ _ _ _ _ Ext.refl st (.bl _) q⟩
  · unfold dEqS at q
    split at q
    · rename_i p q' h1 h2
      exact op_neD hu pins s σ H x y v u Q I rx ry ⟨p, q', dp_drf st rd h1, dp_drf st re h2, q.1, q.2.1, k _ _ _ _ _ Ext.refl st (.bl _) q.2.2⟩
    · exact q.elim
theorem rep_non {K : PySem.W.Frag} {F : Hp} {x : V} {d : D} (r : Rep K F x d) : d.isN = decide (x = .non) := by
  cases r <;> simp [D.isN]
theorem od_isN : OpD X F0 (compareOp .Is) dIsN := by
  refine opImp op_isN fun x y H Q ⟨F, R, M, d, e, Q', e0, st, rd, re, q, k⟩ => ?_
  cases e <;> try exact q.elim
  cases re
  have q : Q' (.bl d.isN) M := q
  rw [rep_non rd] at q
  exact ⟨rfl, k _ _ _ _ _ Ext.refl st (.bl _) q⟩
theorem od_notN : OpD X F0 (compareOp .IsNot) dNotN := by
  refine opImp op_notN fun x y H Q ⟨F, R, M, d, e, Q', e0, st, rd, re, q, k⟩ => ?_
  cases e <;> try exact q.elim
  cases re
  have q : Q' (.bl (!d.isN)) M := q
  rw [rep_non rd] at q
  exact ⟨rfl, k _ _ _ _ _ Ext.refl st (.bl _) q⟩
end

/-! ### x in xs, of flat things -/
def D.flat : D → Bool
  | .non => true
  | .bl _ => true
  | .int _ => true
  | .str _ => true
  | _ => false
def eqD : D → D → Bool
  | .non, .non => true
  | .bl a, .bl b => a == b
  | .bl a, .int b => (if a then 1 else 0) == b
  | .int a, .bl b => a == (if b then 1 else 0)
  | .int a, .int b => a == b
  | .str a, .str b => a == b
  | _, _ => false
def dIn (neg : Bool) : R2D := fun x y M Q => match sqOf M y with
  | some ds => x.flat = true ∧ ds.all D.flat = true ∧ Q (.bl (if neg then !(ds.any fun e => eqD e x) else ds.any fun e => eqD e x)) M
  | none => False
section
variable {K : PySem.W.Frag} {F : Hp}
theorem Rep.flat {x : V} {d : D} (r : Rep K F x d) (h : d.flat = true) : flatV x = true := by cases r <;> first | rfl | cases h
theorem Rep.eqv {x y : V} {d e : D} (r : Rep K F x d) (s : Rep K F y e) (h : d.flat = true) (h2 : e.flat = true) : eqV x y = eqD d e := by
  cases r <;> cases h <;> cases s <;> first | cases h2 | rfl
  all_goals rfl
theorem RepAll.flat : ∀ {xs : List V} {ds : List D}, RepAll K F xs ds → ds.all D.flat = true → xs.all flatV = true
  | _, _, .nil, _ => rfl
  | _, _, .cons r t, h => by
    rw [List.all_cons, Bool.and_eq_true] at h ⊢
    exact ⟨r.flat h.1, RepAll.flat t h.2⟩
theorem RepAll.inv {x : V} {d : D} (r : Rep K F x d) (h0 : d.flat = true) : ∀ {xs : List V} {ds : List D}, RepAll K F xs ds → ds.all D.flat = true → inV x xs = ds.any fun e => eqD e d
  | _, _, .nil, _ => rfl
  | y :: xs, e :: ds, .cons s t, h => by
    rw [List.all_cons, Bool.and_eq_true] at h
    have ih := RepAll.inv r h0 t h.2
    show (eqV y x || inV x xs) = (eqD e d || ds.any fun e => eqD e d)
    rw [ih, Rep.eqv s r h.1 h0]
end
section
variable {X : Cx} {F0 : Bs}
theorem od_in : OpD X F0 (compareOp .In) (dIn false) := by
  refine opImp op_in_seq fun x y H Q ⟨F, R, M, d, e, Q', e0, st, rd, re, q, k⟩ => ?_
  unfold dIn at q
  split at q
  · rename_i ds h1
    obtain ⟨a, xs, rfl, hs, ra⟩ := sq_get st re h1
    refine ⟨a, xs, rfl, hs, rd.flat q.1, ra.flat q.2.1, ?_⟩
    have q2 := q.2.2
    rw [← RepAll.inv rd q.1 ra q.2.1] at q2
    exact k _ _ _ _ _ Ext.refl st (.bl _) q2
  · exact q.elim
theorem od_notIn : OpD X F0 (compareOp .NotIn) (dIn true) := by
  refine opImp op_notIn_seq fun x y H Q ⟨F, R, M, d, e, Q', e0, st, rd, re, q, k⟩ => ?_
  unfold dIn at q
  split at q
  · rename_i ds h1
    obtain ⟨a, xs, rfl, hs, ra⟩ := sq_get st re h1
    refine ⟨a, xs, rfl, hs, rd.flat q.1, ra.flat q.2.1, ?_⟩
    have q2 := q.2.2
    rw [← RepAll.inv rd q.1 ra q.2.1] at q2
    exact k _ _ _ _ _ Ext.refl st (.bl _) q2
  · exact q.elim
end

/-! ### displays -/
def dNil : DA := fun _ M Q => Q [] M
def dCons (ta : DE) (tr : DA) : DA := fun τ M Q => ta τ M fun x M1 => tr τ M1 fun xs M2 => Q (x :: xs) M2
def dTup (t : DA) : DE := fun τ M Q => t τ M fun xs M1 => xs.length ≤ sizeLine ∧ Q (.tup xs) M1
def dLst (t : DA) : DE := fun τ M Q => t τ M fun xs M1 => xs.length ≤ sizeLine ∧ Q (.lst xs) M1
/-- a list that will be changed in place -/
def dLstM (t : DA) : DE := fun τ M Q => t τ M fun xs M1 => xs.length ≤ sizeLine ∧ ∀ p, M1 p = none → Q (.ref p) (updM M1 p (.lst xs))
section
variable {X : Cx} {F0 : Bs} {e : Expr} {es : List Expr} {te : DE} {t : DA} {pos : Pos}
theorem ad_nil : PA X [] (liA X.K F0 dNil) := paImp pa_nil fun σ H Q ⟨F, R, τ, M, Q', e0, st, sl, q, k⟩ => k _ _ _ _ _ Ext.refl st .nil q
theorem ad_cons (ha : PE X e (liE X.K F0 te)) (hr : PA X es (liA X.K F0 t)) (hs : starEach (e :: es) X.env = (false, eval e X.env) :: starEach es X.env := by rfl) : PA X (e :: es) (liA X.K F0 (dCons te t)) := by
  refine paImp (pa_cons ha hr hs) fun σ H Q ⟨F, R, τ, M, Q', e0, st, sl, q, k⟩ => ?_
  refine ⟨F, R, τ, M, _, e0, st, sl, q, fun v H1 F1 d M1 e1 st1 r1 q1 => ?_⟩
  refine ⟨F1, R, τ, M1, _, e0.trans e1, st1, sl.ext e1, q1, fun vs H2 F2 ds M2 e2 st2 r2 q2 => ?_⟩
  exact k _ _ _ _ _ (e1.trans e2) st2 (.cons (r1.ext e2) r2) q2
theorem pd_tup {x1} (h : PA X es (liA X.K F0 t)) : PE X (.Tuple es x1 pos) (liE X.K F0 (dTup t)) := by
  refine peImp (pe_tup h) fun σ H Q ⟨F, R, τ, M, Q', e0, st, sl, q, k⟩ => ?_
  refine ⟨F, R, τ, M, _, e0, st, sl, q, fun vs H1 F1 ds M1 e1 st1 r1 q1 => ?_⟩
  exact ⟨by rw [r1.len]; exact q1.1, fun p hp => (k.ext e1).tup st1 hp r1 q1.2⟩
theorem pd_lst (h : PA X es (liA X.K F0 t)) : PE X (.List es pos) (liE X.K F0 (dLst t)) := by
  refine peImp (pe_lst h) fun σ H Q ⟨F, R, τ, M, Q', e0, st, sl, q, k⟩ => ?_
  refine ⟨F, R, τ, M, _, e0, st, sl, q, fun vs H1 F1 ds M1 e1 st1 r1 q1 => ?_⟩
  exact ⟨by rw [r1.len]; exact q1.1, fun p hp => (k.ext e1).lst st1 hp r1 q1.2⟩
theorem pd_lstM (h : PA X es (liA X.K F0 t)) : PE X (.List es pos) (liE X.K F0 (dLstM t)) := by
  refine peImp (pe_lst h) fun σ H Q ⟨F, R, τ, M, Q', e0, st, sl, q, k⟩ => ?_
  refine ⟨F, R, τ, M, _, e0, st, sl, q, fun vs H1 F1 ds M1 e1 st1 r1 q1 => ?_⟩
  exact ⟨by rw [r1.len]; exact q1.1, fun p hp => (k.ext e1).own st1 hp (m := .lst ds) r1 (q1.2 p)⟩
end

/-! ### xs[i] -/
def dIx : R2D := fun x y M Q => match y with
  | .int i => match x with
    | .str z => match atI z.cps.toList i with
      | some c => z.length ≤ sizeLine ∧ Q (.str ⟨#[c]⟩) M
      | none => False
    | x => match sqOf M x with
      | some ds => match atI ds i with
        | some d => Q d M
        | none => False
      | none => False
  | _ => False
theorem atI_rep {K : PySem.W.Frag} {F : Hp} {xs : List V} {ds : List D} {i : Int} {d : D} (r : RepAll K F xs ds) (h : atI ds i = some d) : ∃ v, atI xs i = some v ∧ Rep K F v d := by
  unfold atI at h ⊢
  rw [r.len]
  cases e : ixN ds.length i with
  | none => rw [e] at h; cases h
  | some j =>
    rw [e] at h
    obtain ⟨v, h1, h2⟩ := r.getD (i := j) h
    exact ⟨v, h1, h2⟩
section
variable {X : Cx} {F0 : Bs} {a b : Expr} {ta tb : DE} {pos : Pos}
theorem ixd : IxR X (liR X.K F0 dIx) := by
  refine ixImp ix_seq fun x y H Q ⟨F, R, M, d, e, Q', e0, st, rd, re, q, k⟩ => ?_
  cases e <;> try exact q.elim
  rename_i i
  cases re
  have seq : (match sqOf M d with | some ds => (match atI ds i with | some d => Q' d M | none => False) | none => False) → rIx X.K x (.int i) H Q := fun q => by
    split at q
    · rename_i ds h1
      split at q
      · rename_i d' h2
        obtain ⟨a, xs, rfl, hs, ra⟩ := sq_get st rd h1
        obtain ⟨v, ev, rv⟩ := atI_rep ra h2
        rcases hs with hs | hs
        · exact .inl ⟨a, xs, i, v, rfl, rfl, hs, ev, k _ _ _ _ _ Ext.refl st rv q⟩
        · exact .inr (.inl ⟨a, xs, i, v, rfl, rfl, hs, ev, k _ _ _ _ _ Ext.refl st rv q⟩)
      · exact q.elim
    · exact q.elim
  cases d with
  | str z =>
    have q : (match atI z.cps.toList i with | some c => z.length ≤ sizeLine ∧ Q' (.str ⟨#[c]⟩) M | none => False) := q
    split at q
    · rename_i c h1
      cases rd
      exact .inr (.inr ⟨z, i, c, rfl, rfl, q.1, h1, k _ _ _ _ _ Ext.refl st (.str _) q.2⟩)
    · exact q.elim
  | _ => exact seq q
theorem pd_ix (ha : PE X a (liE X.K F0 ta)) (hb : PE X b (liE X.K F0 tb)) (hs : PlainIx b) : PE X (.Subscript a b pos) (liE X.K F0 (dOp dIx ta tb)) :=
  peImp (pe_ix ixd ha hb hs) fun _ _ _ => li_op
end

/-! ### xs[a:b] -/
abbrev DO := SD → Mp → (Option Int → Mp → Prop) → Prop
def KO (K : PySem.W.Frag) (F R : Hp) (Q' : Option Int → Mp → Prop) (Q : Option Int → Hp → Prop) : Prop := ∀ b H2 F2 M2, Ext F F2 → Stt K F2 R H2 M2 → Q' b M2 → Q b H2
theorem KO.ext {K : PySem.W.Frag} {F F2 R : Hp} {Q' : Option Int → Mp → Prop} {Q : Option Int → Hp → Prop} (k : KO K F R Q' Q) (e : Ext F F2) : KO K F2 R Q' Q := fun b H2 F3 M2 e2 => k b H2 F3 M2 (e.trans e2)
def liO (K : PySem.W.Frag) (F0 : Bs) (t : DO) : TO := fun σ H Q => ∃ F R τ M Q', Bas F0 F R ∧ Stt K F R H M ∧ Slots K F σ τ ∧ t τ M Q' ∧ KO K F R Q' Q
def dNoPart : DO := fun _ M Q => Q none M
def dPart (t : DE) : DO := fun τ M Q => t τ M fun d M1 => match d with
  | .int i => Q (some i) M1
  | _ => False
def cutD {α : Type} (xs : List α) (lo hi : Option Int) : List α := (xs.drop (HT.sIx xs.length 0 lo)).take (HT.sIx xs.length xs.length hi - HT.sIx xs.length 0 lo)
def dSlr (x : D) (lo hi : Option Int) (M : Mp) (Q : QD) : Prop := match x with
  | .tup ds => Q (.tup (cutD ds lo hi)) M
  | .str z => z.length ≤ sizeLine ∧ Q (.str (cutS z lo hi)) M
  | x => match lsOf M x with
    | some ds => Q (.lst (cutD ds lo hi)) M
    | none => False
def dSl (te : DE) (tl th : DO) : DE := fun τ M Q => te τ M fun x M1 => tl τ M1 fun l M2 => th τ M2 fun u M3 => dSlr x l u M3 Q
theorem RepAll.cut {K : PySem.W.Frag} {F : Hp} {xs : List V} {ds : List D} (r : RepAll K F xs ds) (lo hi : Option Int) : RepAll K F (cutV xs lo hi) (cutD ds lo hi) := by
  unfold cutV cutD
  rw [r.len]
  exact (r.dp _).tk _
theorem cutD_whole {α : Type} {xs : List α} {lo hi : Option Int} (h : HT.sIx xs.length 0 lo = 0 ∧ HT.sIx xs.length xs.length hi = xs.length) : cutD xs lo hi = xs := by
  unfold cutD
  rw [h.1, h.2]
  simp
section
variable {X : Cx} {F0 : Bs} {e : Expr} {te : DE} {lo hi : Option Expr} {tl th : DO} {pos p2 : Pos}
theorem od_none : PO X none (liO X.K F0 dNoPart) := ⟨fun pins s σ H Q I ⟨F, R, τ, M, Q', e0, st, sl, q, k⟩ => po_none.run pins s σ H Q I (k _ _ _ _ Ext.refl st q)⟩
theorem od_some (h : PE X e (liE X.K F0 te)) : PO X (some e) (liO X.K F0 (dPart te)) := by
  refine ⟨fun pins s σ H Q I ⟨F, R, τ, M, Q', e0, st, sl, q, k⟩ => (po_some h).run pins s σ H Q I ?_⟩
  refine ⟨F, R, τ, M, _, e0, st, sl, q, fun v H1 F1 d M1 e1 st1 r1 q1 => ?_⟩
  cases d <;> try exact q1.elim
  cases r1
  exact ⟨_, rfl, k _ _ _ _ e1 st1 q1⟩
theorem sl_any : SlR X (fun x lo hi H Q => rSlA X.K x lo hi H Q ∨ rSlL X.K x lo hi H Q ∨ ∃ z, x = .str z ∧ z.length ≤ sizeLine ∧ Q (.str (cutS z lo hi)) H) := sl_tupA.or (sl_list.or sl_str)
theorem pd_slice (he : PE X e (liE X.K F0 te)) (hl : PO X lo (liO X.K F0 tl)) (hu : PO X hi (liO X.K F0 th)) : PE X (.Subscript e (.Slice lo hi none p2) pos) (liE X.K F0 (dSl te tl th)) := by
  refine peImp (pe_slice sl_any he hl hu) fun σ H Q ⟨F, R, τ, M, Q', e0, st, sl, q, k⟩ => ?_
  refine ⟨F, R, τ, M, _, e0, st, sl, q, fun v H1 F1 d M1 e1 st1 r1 q1 => ?_⟩
  refine ⟨F1, R, τ, M1, _, e0.trans e1, st1, sl.ext e1, q1, fun l H2 F2 M2 e2 st2 q2 => ?_⟩
  refine ⟨F2, R, τ, M2, _, e0.trans (e1.trans e2), st2, sl.ext (e1.trans e2), q2, fun u H3 F3 M3 e3 st3 q3 => ?_⟩
  have rd := r1.ext (e2.trans e3)
  have k3 := k.ext (e1.trans (e2.trans e3))
  unfold dSlr at q3
  split at q3
  · have rd0 := rd
    obtain ⟨a, xs, rfl, hs, ra⟩ := tp_get st3 rd
    refine .inl ⟨a, xs, rfl, hs, fun z => ?_, fun z p hp => k3.tup st3 hp (ra.cut l u) q3⟩
    rw [ra.len] at z
    rw [cutD_whole z] at q3
    exact k3 _ _ _ _ _ Ext.refl st3 rd0 q3
  · cases rd
    exact .inr (.inr ⟨_, rfl, q3.1, k3 _ _ _ _ _ Ext.refl st3 (.str _) q3.2⟩)
  · split at q3
    · rename_i ds h1
      obtain ⟨a, xs, rfl, hs, ra⟩ := ls_get st3 rd h1
      exact .inr (.inl ⟨a, xs, rfl, hs, fun p hp => k3.lst st3 hp (ra.cut l u) q3⟩)
    · exact q3.elim
end
end DL

/-! DL, the rules: calls, statements, loops, defs -/
namespace DL
open PySem PySem.Spec PyProof.Rows L2

/-! ### calls of built-ins -/
abbrev RC := List D → Mp → QD → Prop
def dCB (r : RC) (t : DA) : DE := fun τ M Q => t τ M fun ds M1 => r ds M1 Q
theorem li_cb {K : PySem.W.Frag} {F0 : Bs} {r : RC} {t : DA} {σ : L2.St} {H : Hp} {Q : VK} (h : liE K F0 (dCB r t) σ H Q) : tCB (liC K F0 r) (liA K F0 t) σ H Q := by
  obtain ⟨F, R, τ, M, Q', e0, st, sl, q, k⟩ := h
  exact ⟨F, R, τ, M, _, e0, st, sl, q, fun vs H1 F1 ds M1 e1 st1 r1 q1 => ⟨F1, R, M1, ds, Q', e0.trans e1, st1, r1, q1, k.ext e1⟩⟩
section
variable {X : Cx} {F0 : Bs} {x : Str} {p pos : Pos} {e : Expr} {es : List Expr} {t : DA} {id T : String} {r : RC}
theorem pd_callB (hc : CallR X (.builtin id) (liC X.K F0 r)) (hg : Gl X x) (hm : X.mg x = none) (hv : bootBuiltins x = some (.builtin id)) (ha : PA X (e :: es) (liA X.K F0 t)) (hn : x ≠ "__name__" := by decide) (hdb : (x == ("__debug__" : Str)) = false := by decide)
    (he : starEach (e :: es) X.env = (false, eval e X.env) :: starEach es X.env := by rfl) (hpl : (backTo pos (starEach es X.env)).any (·.1) = false := by rfl) : PE X (.Call (.Name x p) (e :: es) [] pos) (liE X.K F0 (dCB r t)) :=
  peImp (pe_callB hc hg hm hv ha hn hdb he hpl) fun _ _ _ => li_cb
theorem pd_callTy (hc : CallR X (.type T) (liC X.K F0 r)) (hg : Gl X x) (hm : X.mg x = none) (hv : bootBuiltins x = some (.type T)) (ha : PA X (e :: es) (liA X.K F0 t)) (hn : x ≠ "__name__" := by decide) (hdb : (x == ("__debug__" : Str)) = false := by decide)
    (he : starEach (e :: es) X.env = (false, eval e X.env) :: starEach es X.env := by rfl) (hpl : (backTo pos (starEach es X.env)).any (·.1) = false := by rfl) : PE X (.Call (.Name x p) (e :: es) [] pos) (liE X.K F0 (dCB r t)) :=
  peImp (pe_callTy hc hg hm hv ha hn hdb he hpl) fun _ _ _ => li_cb
end
theorem rep1 {K : PySem.W.Frag} {F : Hp} {xs : List V} {d : D} (r : RepAll K F xs [d]) : ∃ x, xs = [x] ∧ Rep K F x d := by
  cases r with
  | cons h t => cases t; exact ⟨_, rfl, h⟩
theorem rep2 {K : PySem.W.Frag} {F : Hp} {xs : List V} {d e : D} (r : RepAll K F xs [d, e]) : ∃ x y, xs = [x, y] ∧ Rep K F x d ∧ Rep K F y e := by
  cases r with
  | cons h t =>
    obtain ⟨y, rfl, h2⟩ := rep1 t
    exact ⟨_, y, rfl, h, h2⟩
/-- len -/
def dLen : RC := fun ds M Q => match ds with
  | [.str z] => z.length ≤ sizeLine ∧ Q (.int z.length) M
  | [d] => match sqOf M d with
    | some xs => Q (.int xs.length) M
    | none => False
  | _ => False
/-- all, any of a list of True, False -/
def D.isB : D → Option Bool
  | .bl b => some b
  | _ => none
def blsOf : List D → Option (List Bool)
  | [] => some []
  | .bl b :: ds => (blsOf ds).map (b :: ·)
  | _ => none
def intsOf : List D → Option (List Int)
  | [] => some []
  | .int b :: ds => (intsOf ds).map (b :: ·)
  | _ => none
theorem blsOf_map : ∀ bs : List Bool, blsOf (bs.map D.bl) = some bs
  | [] => rfl
  | b :: bs => by show (blsOf (bs.map D.bl)).map (b :: ·) = _; rw [blsOf_map bs]; rfl
theorem intsOf_map : ∀ bs : List Int, intsOf (bs.map D.int) = some bs
  | [] => rfl
  | b :: bs => by show (intsOf (bs.map D.int)).map (b :: ·) = _; rw [intsOf_map bs]; rfl
theorem bls_eq : ∀ {ds : List D} {bs : List Bool}, blsOf ds = some bs → ds = bs.map D.bl
  | [], bs, h => by cases h; rfl
  | d :: ds, bs, h => by
    cases d <;> try cases h
    rename_i b
    have h : (blsOf ds).map (b :: ·) = some bs := h
    cases e : blsOf ds with
    | none => rw [e] at h; cases h
    | some cs => rw [e] at h; cases h; rw [bls_eq e]; rfl
theorem ints_eq : ∀ {ds : List D} {bs : List Int}, intsOf ds = some bs → ds = bs.map D.int
  | [], bs, h => by cases h; rfl
  | d :: ds, bs, h => by
    cases d <;> try cases h
    rename_i b
    have h : (intsOf ds).map (b :: ·) = some bs := h
    cases e : intsOf ds with
    | none => rw [e] at h; cases h
    | some cs => rw [e] at h; cases h; rw [ints_eq e]; rfl
def dAll : RC := fun ds M Q => match ds with
  | [d] => match lsOf M d with
    | some xs => match blsOf xs with
      | some bs => Q (.bl (bs.all id)) M
      | none => False
    | none => False
  | _ => False
def dAny : RC := fun ds M Q => match ds with
  | [d] => match lsOf M d with
    | some xs => match blsOf xs with
      | some bs => Q (.bl (bs.any id)) M
      | none => False
    | none => False
  | _ => False
def dSum : RC := fun ds M Q => match ds with
  | [d] => match lsOf M d with
    | some xs => match intsOf xs with
      | some ns => Q (.int ns.sum) M
      | none => False
    | none => False
  | _ => False
/-- max, min of a list of ints, of two ints -/
def dMax : RC := fun ds M Q => match ds with
  | [.int i, .int j] => Q (.int (if j > i then j else i)) M
  | [d] => match lsOf M d with
    | some xs => match intsOf xs with
      | some ns => 0 < ns.length ∧ ∀ m, m ∈ ns → (∀ y, y ∈ ns → y ≤ m) → Q (.int m) M
      | none => False
    | none => False
  | _ => False
def dMin : RC := fun ds M Q => match ds with
  | [.int i, .int j] => Q (.int (if j < i then j else i)) M
  | [d] => match lsOf M d with
    | some xs => match intsOf xs with
      | some ns => 0 < ns.length ∧ ∀ m, m ∈ ns → (∀ y, y ∈ ns → m ≤ y) → Q (.int m) M
      | none => False
    | none => False
  | _ => False
def dAbs : RC := fun ds M Q => match ds with
  | [.int i] => Q (.int (if i < 0 then -i else i)) M
  | _ => False
def dInt : RC := fun ds M Q => match ds with
  | [.int i] => Q (.int i) M
  | [.bl b] => Q (.int (if b then 1 else 0)) M
  | _ => False
def dTuple : RC := fun ds M Q => match ds with
  | [d] => match sqOf M d with
    | some xs => Q (.tup xs) M
    | none => False
  | _ => False
def dList : RC := fun ds M Q => match ds with
  | [d] => match sqOf M d with
    | some xs => Q (.lst xs) M
    | none => False
  | _ => False
def dListM : RC := fun ds M Q => match ds with
  | [d] => match sqOf M d with
    | some xs => ∀ p, M p = none → Q (.ref p) (updM M p (.lst xs))
    | none => False
  | _ => False
/-- sorted of a list of ints -/
def dSorted : RC := fun ds M Q => match ds with
  | [d] => match lsOf M d with
    | some xs => match intsOf xs with
      | some ns => ∀ ns' : List Int, ns'.Perm ns → ns'.Pairwise (· ≤ ·) → Q (.lst (ns'.map D.int)) M
      | none => False
    | none => False
  | _ => False
/-- isinstance by a built-in class -/
def tyName (M : Mp) : D → Option String
  | .non => some "NoneType"
  | .bl _ => some "bool"
  | .int _ => some "int"
  | .str _ => some "str"
  | .tup _ => some "tuple"
  | .lst _ => some "list"
  | .lsk _ => some "list"
  | .ref a => match M a with
    | some (.lst _) => some "list"
    | some (.dK _) => some "dict"
    | _ => none
  | .ty _ => none
  | .fn _ _ => none
def isiN (a n : String) : Bool := a == n || (a == "bool" && n == "int")
def kitNames : List String := ["NoneType", "bool", "int", "str", "tuple", "list", "dict"]
theorem kit_table : (kitNames.all fun a => (["bool", "int", "str", "tuple", "list", "dict"] : List String).all fun n => kitB a n == some (isiN a n)) = true := by decide +kernel
def dIsi : RC := fun ds M Q => match ds with
  | [d, .ty n] => (["bool", "int", "str", "tuple", "list", "dict"] : List String).contains n = true ∧ match tyName M d with
    | some a => Q (.bl (isiN a n)) M
    | none => False
  | _ => False
section
variable {X : Cx} {F0 : Bs}
theorem cd_len : CallR X (.builtin "len") (liC X.K F0 dLen) := by
  refine caImp call_len fun xs H Q ⟨F, R, M, ds, Q', e0, st, rs, q, k⟩ => ?_
  unfold dLen at q
  split at q
  · obtain ⟨x, rfl, r⟩ := rep1 rs
    cases r
    exact ⟨_, _, rfl, ⟨q.1, rfl⟩, k _ _ _ _ _ Ext.refl st (.int _) q.2⟩
  · obtain ⟨x, rfl, r⟩ := rep1 rs
    split at q
    · rename_i ys h1
      obtain ⟨a, vs, rfl, hs, ra⟩ := sq_get st r h1
      rw [← ra.len] at q
      exact ⟨_, _, rfl, hs.elim (fun z => .inl ⟨_, z, rfl⟩) (fun z => .inr ⟨_, z, rfl⟩), k _ _ _ _ _ Ext.refl st (.int _) q⟩
    · exact q.elim
  · exact q.elim
theorem cd_all (hc : X.calm = true) : CallR X (.builtin "all") (liC X.K F0 dAll) := by
  refine caImp (cr_all hc) fun xs H Q ⟨F, R, M, ds, Q', e0, st, rs, q, k⟩ => ?_
  unfold dAll at q
  split at q <;> try exact q.elim
  obtain ⟨x, rfl, r⟩ := rep1 rs
  split at q <;> try exact q.elim
  rename_i ys h1
  split at q <;> try exact q.elim
  rename_i bs h2
  obtain ⟨a, vs, rfl, hs, ra⟩ := ls_get st r h1
  rw [bls_eq h2] at ra
  have ev := ra.bls
  subst ev
  exact ⟨a, bs, rfl, hs, k _ _ _ _ _ Ext.refl st (.bl _) q⟩
theorem cd_any (hc : X.calm = true) : CallR X (.builtin "any") (liC X.K F0 dAny) := by
  refine caImp (cr_any hc) fun xs H Q ⟨F, R, M, ds, Q', e0, st, rs, q, k⟩ => ?_
  unfold dAny at q
  split at q <;> try exact q.elim
  obtain ⟨x, rfl, r⟩ := rep1 rs
  split at q <;> try exact q.elim
  rename_i ys h1
  split at q <;> try exact q.elim
  rename_i bs h2
  obtain ⟨a, vs, rfl, hs, ra⟩ := ls_get st r h1
  rw [bls_eq h2] at ra
  have ev := ra.bls
  subst ev
  exact ⟨a, bs, rfl, hs, k _ _ _ _ _ Ext.refl st (.bl _) q⟩
theorem cd_sum (hc : X.calm = true) : CallR X (.builtin "sum") (liC X.K F0 dSum) := by
  refine caImp (cr_sum hc) fun xs H Q ⟨F, R, M, ds, Q', e0, st, rs, q, k⟩ => ?_
  unfold dSum at q
  split at q <;> try exact q.elim
  obtain ⟨x, rfl, r⟩ := rep1 rs
  split at q <;> try exact q.elim
  rename_i ys h1
  split at q <;> try exact q.elim
  rename_i bs h2
  obtain ⟨a, vs, rfl, hs, ra⟩ := ls_get st r h1
  rw [ints_eq h2] at ra
  have ev := ra.ints
  subst ev
  exact ⟨a, bs, rfl, hs, k _ _ _ _ _ Ext.refl st (.int _) q⟩
theorem cd_max (hc : X.calm = true) : CallR X (.builtin "max") (liC X.K F0 dMax) := by
  intro pins s σ H xs us Q I rv ⟨F, R, M, ds, Q', e0, st, rs, q, k⟩
  unfold dMax at q
  split at q <;> try exact q.elim
  · obtain ⟨x, y, rfl, r1, r2⟩ := rep2 rs
    cases r1; cases r2
    exact call_max2 hc pins s σ H _ us Q I rv ⟨_, _, rfl, k _ _ _ _ _ Ext.refl st (.int _) q⟩
  · obtain ⟨x, rfl, r⟩ := rep1 rs
    split at q <;> try exact q.elim
    rename_i ys h1
    split at q <;> try exact q.elim
    rename_i bs h2
    obtain ⟨a, vs, rfl, hs, ra⟩ := ls_get st r h1
    rw [ints_eq h2] at ra
    have ev := ra.ints
    subst ev
    exact cr_max hc pins s σ H _ us Q I rv ⟨a, bs, rfl, hs, q.1, fun m h1 h2 => k _ _ _ _ _ Ext.refl st (.int _) (q.2 m h1 h2)⟩
theorem cd_min (hc : X.calm = true) : CallR X (.builtin "min") (liC X.K F0 dMin) := by
  intro pins s σ H xs us Q I rv ⟨F, R, M, ds, Q', e0, st, rs, q, k⟩
  unfold dMin at q
  split at q <;> try exact q.elim
  · obtain ⟨x, y, rfl, r1, r2⟩ := rep2 rs
    cases r1; cases r2
    exact call_min2 hc pins s σ H _ us Q I rv ⟨_, _, rfl, k _ _ _ _ _ Ext.refl st (.int _) q⟩
  · obtain ⟨x, rfl, r⟩ := rep1 rs
    split at q <;> try exact q.elim
    rename_i ys h1
    split at q <;> try exact q.elim
    rename_i bs h2
    obtain ⟨a, vs, rfl, hs, ra⟩ := ls_get st r h1
    rw [ints_eq h2] at ra
    have ev := ra.ints
    subst ev
    exact cr_min hc pins s σ H _ us Q I rv ⟨a, bs, rfl, hs, q.1, fun m h1 h2 => k _ _ _ _ _ Ext.refl st (.int _) (q.2 m h1 h2)⟩
theorem cd_abs : CallR X (.builtin "abs") (liC X.K F0 dAbs) := by
  refine caImp call_abs fun xs H Q ⟨F, R, M, ds, Q', e0, st, rs, q, k⟩ => ?_
  unfold dAbs at q
  split at q <;> try exact q.elim
  obtain ⟨x, rfl, r⟩ := rep1 rs
  cases r
  exact ⟨_, rfl, k _ _ _ _ _ Ext.refl st (.int _) q⟩
theorem cd_int : CallR X (.type "int") (liC X.K F0 dInt) := by
  refine caImp call_int1 fun xs H Q ⟨F, R, M, ds, Q', e0, st, rs, q, k⟩ => ?_
  unfold dInt at q
  split at q <;> try exact q.elim
  · obtain ⟨x, rfl, r⟩ := rep1 rs
    cases r
    exact .inl ⟨_, rfl, k _ _ _ _ _ Ext.refl st (.int _) q⟩
  · obtain ⟨x, rfl, r⟩ := rep1 rs
    cases r
    exact .inr ⟨_, rfl, k _ _ _ _ _ Ext.refl st (.int _) q⟩
theorem cd_tuple : CallR X (.type "tuple") (liC X.K F0 dTuple) := by
  refine caImp call_tuple_of fun xs H Q ⟨F, R, M, ds, Q', e0, st, rs, q, k⟩ => ?_
  unfold dTuple at q
  split at q <;> try exact q.elim
  obtain ⟨x, rfl, r⟩ := rep1 rs
  split at q <;> try exact q.elim
  rename_i ys h1
  rcases sqOf_cases h1 with rfl | h1
  · have r0 := r
    obtain ⟨a, vs, rfl, hs, ra⟩ := tp_get st r
    exact ⟨a, vs, rfl, .inr ⟨hs, k _ _ _ _ _ Ext.refl st r0 q⟩⟩
  · obtain ⟨a, vs, rfl, hs, ra⟩ := ls_get st r h1
    exact ⟨a, vs, rfl, .inl ⟨hs, fun p hp => k.tup st hp ra q⟩⟩
theorem cd_list : CallR X (.type "list") (liC X.K F0 dList) := by
  refine caImp call_list_of fun xs H Q ⟨F, R, M, ds, Q', e0, st, rs, q, k⟩ => ?_
  unfold dList at q
  split at q <;> try exact q.elim
  obtain ⟨x, rfl, r⟩ := rep1 rs
  split at q <;> try exact q.elim
  rename_i ys h1
  obtain ⟨a, vs, rfl, hs, ra⟩ := sq_get st r h1
  exact ⟨a, vs, rfl, hs, fun p hp => k.lst st hp ra q⟩
theorem cd_listM : CallR X (.type "list") (liC X.K F0 dListM) := by
  refine caImp call_list_of fun xs H Q ⟨F, R, M, ds, Q', e0, st, rs, q, k⟩ => ?_
  unfold dListM at q
  split at q <;> try exact q.elim
  obtain ⟨x, rfl, r⟩ := rep1 rs
  split at q <;> try exact q.elim
  rename_i ys h1
  obtain ⟨a, vs, rfl, hs, ra⟩ := sq_get st r h1
  exact ⟨a, vs, rfl, hs, fun p hp => k.own st hp (m := .lst ys) ra (q p)⟩
theorem cd_isi : CallR X (.builtin "isinstance") (liC X.K F0 dIsi) := by
  refine caImp call_isi fun xs H Q ⟨F, R, M, ds, Q', e0, st, rs, q, k⟩ => ?_
  unfold dIsi at q
  split at q <;> try exact q.elim
  rename_i d n
  obtain ⟨x, y, rfl, r1, r2⟩ := rep2 rs
  cases r2
  obtain ⟨hn, q⟩ := q
  split at q <;> try exact q.elim
  rename_i a ea
  have go : ∀ {t : Value}, t = .type a → kitNames.contains a = true → TyX X.K H x t → rIsi X.K [x, .ty n] H Q := fun {t} et ha ty => by
    subst et
    refine ⟨x, .ty n, _, .type n, isiN a n, rfl, .ty n, ty, kit_ty ?_, k _ _ _ _ _ Ext.refl st (.bl _) q⟩
    have z := kit_table
    rw [List.all_eq_true] at z
    have z2 := z a (by simpa using ha)
    rw [List.all_eq_true] at z2
    exact eq_of_beq (z2 n (by simpa using hn))
  have seqL : ∀ {a' : Addr} {xs : List V}, x = .ref a' → SqL X.K H a' xs → TyX X.K H x (.type "list") := fun {a' xs} e hs => by
    subst e
    rcases hs with (hs | ⟨o, hs⟩) | ⟨o, its, n, e1, e2, _⟩
    · exact .base (.lst hs)
    · exact .base (.frz hs)
    · exact .kList e1 e2
  cases d with
  | non => cases r1; cases ea; exact go rfl (by decide) (.base .non)
  | bl b => cases r1; cases ea; exact go rfl (by decide) (.base (.bl b))
  | int b => cases r1; cases ea; exact go rfl (by decide) (.base (.int b))
  | str b => cases r1; cases ea; exact go rfl (by decide) (.base (.str b))
  | tup ys =>
    cases ea
    obtain ⟨a', vs, e, hs, ra⟩ := tp_get st r1
    refine go rfl (by decide) ?_
    subst e
    rcases hs with (hs | ⟨o, hs⟩) | ⟨o, its, n, e1, e2, _⟩
    · exact .base (.tup hs)
    · exact .fTuple hs
    · exact .kTuple e1 e2
  | lst ys =>
    cases ea
    obtain ⟨a', vs, e, hs, ra⟩ := ls_get (M := M) (ds := ys) st r1 rfl
    exact go rfl (by decide) (seqL e hs)
  | lsk ys =>
    cases ea
    obtain ⟨a', vs, e, hs, ra⟩ := ls_get (M := M) (ds := ys) st r1 rfl
    exact go rfl (by decide) (seqL e hs)
  | ref a' =>
    have ea : (match M a' with | some (.lst _) => some "list" | some (.dK _) => some "dict" | _ => none) = some a := ea
    cases r1
    split at ea
    · rename_i ys em
      cases ea
      obtain ⟨_, o, ho, ro⟩ := st.ow _ _ em
      obtain ⟨vs, rfl, ra⟩ := ro.lst_iff
      exact go rfl (by decide) (.base (.lst ho))
    · rename_i ys em
      cases ea
      obtain ⟨_, o, ho, ro⟩ := st.ow _ _ em
      cases o <;> try exact ro.elim
      exact go rfl (by decide) (.base (.dK ho))
    · cases ea
  | ty m => cases ea
  | fn a G => cases ea
end

/-! ### what a def promises, over data -/
abbrev XD := Value → Option (List (Str × D)) → Mp → Prop
abbrev SpD := List D → Mp → QD → XD → Prop
def RepX (K : PySem.W.Frag) (F H : Hp) : Option Addr → Option (List (Str × D)) → Prop
  | none, none => True
  | some a, some fs => ∃ vs, F a = some (.xd vs) ∧ RepKV K F vs fs
  | _, _ => False
def KX (K : PySem.W.Frag) (F R : Hp) (E' : XD) (E : XK) : Prop := ∀ e dx H2 F2 fs M2, Ext F F2 → Stt K F2 R H2 M2 → RepX K F2 H2 dx fs → E' e fs M2 → E e dx H2
theorem KX.ext {K : PySem.W.Frag} {F F2 R : Hp} {E' : XD} {E : XK} (k : KX K F R E' E) (e : Ext F F2) : KX K F2 R E' E := fun v dx H2 F3 fs M2 e2 => k v dx H2 F3 fs M2 (e.trans e2)
def liSp (K : PySem.W.Frag) (T : List (Addr × Str)) (sp : SpD) : Sp := fun vs H Q E => ∃ F R ds M Q' E', Stt K F R H M ∧ TabR T R ∧ RepAll K F vs ds ∧ sp ds M Q' E' ∧ KE K F R Q' Q ∧ KX K F R E' E
/-- what is wanted of an error that leaves a def, by what the def's promise wants -/
def liX (K : PySem.W.Frag) (F0 : Bs) (E' : XD) : XK := fun e dx H => ∃ F R M fs, Bas F0 F R ∧ Stt K F R H M ∧ RepX K F H dx fs ∧ E' e fs M
def E0D : XD := fun _ _ _ => False
def dCall (sp : SpD) (E : XD) (t : DA) : DE := fun τ M Q => t τ M fun ds M1 => sp ds M1 Q E
section
variable {X : Cx} {F0 : Bs} {CX : CXT} {k : Nat} {f : Addr} {fd : FuncData} {ps : List Str} {sp : SpD} {x : Str} {p pos : Pos} {e : Expr} {es : List Expr} {t : DA}
theorem li_call {E' : XD} {E : XK} (hE : ∀ e dx H, liX X.K F0 E' e dx H → E e dx H) {σ : L2.St} {H : Hp} {Q : VK} (h : liE X.K F0 (dCall sp E' t) σ H Q) : tCall (liSp X.K F0.T sp) [] E (liA X.K F0 t) σ H Q := by
  obtain ⟨F, R, τ, M, Q', e0, st, sl, q, k⟩ := h
  refine ⟨F, R, τ, M, _, e0, st, sl, q, fun vs H1 F1 ds M1 e1 st1 r1 q1 => ?_⟩
  refine ⟨F1, R, ds, M1, Q', E', st1, e0.t, by rw [List.append_nil]; exact r1, q1, k.ext e1, fun e dx H2 F2 fs M2 e2 st2 rx qx => hE _ _ _ ⟨F2, R, M2, fs, e0.trans (e1.trans e2), st2, rx, qx⟩⟩
/-- f(..), no exception leaves f -/
theorem pd_call (F : FnOk X.prog X.w X.K X.mg X.base CX0 k f fd ps (liSp X.K F0.T sp)) (hr : Room k X.A) (hg : Gl X x) (hm : X.mg x = some (.ref f)) (hk : PySem.W.keepIn X.K (.ref f) = true) (hb : Binds X.K fd ps [])
    (ha : PA X (e :: es) (liA X.K F0 t)) (hdb : (x == ("__debug__" : Str)) = false := by decide) (he : starEach (e :: es) X.env = (false, eval e X.env) :: starEach es X.env := by rfl) (hpl : (backTo pos (starEach es X.env)).any (·.1) = false := by rfl) :
    PE X (.Call (.Name x p) (e :: es) [] pos) (liE X.K F0 (dCall sp E0D t)) :=
  peImp (pe_call F hr hg hm hk hb .nil pass0 ha hdb he hpl) fun _ _ _ h => li_call (fun _ _ _ ⟨_, _, _, _, _, _, _, z⟩ => z) h
theorem pd_call0 (F : FnOk X.prog X.w X.K X.mg X.base CX0 k f fd ps (liSp X.K F0.T sp)) (hr : Room k X.A) (hg : Gl X x) (hm : X.mg x = some (.ref f)) (hk : PySem.W.keepIn X.K (.ref f) = true) (hb : Binds X.K fd ps [])
    (hdb : (x == ("__debug__" : Str)) = false := by decide) : PE X (.Call (.Name x p) [] [] pos) (liE X.K F0 (dCall sp E0D dNil)) := by
  refine peImp (pe_call0 F hr hg hm hk hb .nil pass0 hdb) fun σ H Q ⟨F, R, τ, M, Q', e0, st, sl, q, k⟩ => ?_
  exact ⟨F, R, [], M, Q', E0D, st, e0.t, .nil, q, k, fun _ _ _ _ _ _ _ _ _ z => z⟩
/-- f(..), f may raise: E is what the own def wants -/
theorem pd_callX {E' : XD} {E : XK} (hE : ∀ e dx H, liX X.K F0 E' e dx H → E e dx H) (F : FnOk X.prog X.w X.K X.mg X.base CX k f fd ps (liSp X.K F0.T sp)) (hr : Room k X.A) (hg : Gl X x) (hm : X.mg x = some (.ref f)) (hk : PySem.W.keepIn X.K (.ref f) = true) (hb : Binds X.K fd ps [])
    (hx : Passes CX X E) (ha : PA X (e :: es) (liA X.K F0 t)) (hdb : (x == ("__debug__" : Str)) = false := by decide) (he : starEach (e :: es) X.env = (false, eval e X.env) :: starEach es X.env := by rfl) (hpl : (backTo pos (starEach es X.env)).any (·.1) = false := by rfl) :
    PE X (.Call (.Name x p) (e :: es) [] pos) (liE X.K F0 (dCall sp E' t)) :=
  peImp (pe_call F hr hg hm hk hb .nil hx ha hdb he hpl) fun _ _ _ h => li_call hE h
end

/-! ### statements -/
def dNext : DS := fun D τ M => D.nx τ M
def dSeq (t u : DS) : DS := fun D τ M => t { D with nx := u D } τ M
def dBreak : DS := fun D τ M => D.bk τ M
def dCont : DS := fun D τ M => D.ct τ M
def dDrop (te : DE) : DS := fun D τ M => te τ M fun _ M1 => D.nx τ M1
def dRet (te : DE) : DS := fun D τ M => te τ M D.rt
def dRetN : DS := fun D _ M => D.rt .non M
def dIfS (c : DT) (t u : DS) : DS := fun D τ M => c τ M fun b M1 => if b = true then t D τ M1 else u D τ M1
def dSet (i : Nat) (te : DE) : DS := fun D τ M => te τ M fun d M1 => D.nx (τ.set i (some d)) M1
/-- the values of targets: names alone -/
def setAll : List Nat → List D → SD → SD
  | i :: is, d :: ds, τ => setAll is ds (τ.set i (some d))
  | _, _, τ => τ
def dUnp (is : List Nat) (te : DE) : DS := fun D τ M => te τ M fun d M1 => match d with
  | .tup ds => ds.length = is.length ∧ D.nx (setAll is ds τ) M1
  | _ => False
section
variable {X : Cx} {F0 : Bs} {st : Stmt} {rest : List Stmt} {t u : DS} {e : Expr} {te : DE} {pos : Pos}
theorem sds_nil : PSs X [] (liS X.K F0 dNext) := pssImp pss_nil fun D σ H ⟨F, R, τ, M, D', e0, st, sl, q, k⟩ => k.nx _ _ _ _ _ Ext.refl st sl q
theorem sds_cons (h1 : PS X st (liS X.K F0 t)) (h2 : PSs X rest (liS X.K F0 u)) : PSs X (st :: rest) (liS X.K F0 (dSeq t u)) := by
  refine pssImp (pss_cons h1 h2) fun D σ H ⟨F, R, τ, M, D', e0, st, sl, q, k⟩ => ?_
  refine ⟨F, R, τ, M, _, e0, st, sl, q, ⟨fun σ2 H2 F2 τ2 M2 e2 st2 sl2 q2 => ?_, k.rt, k.bk, k.ct⟩⟩
  exact ⟨F2, R, τ2, M2, D', e0.trans e2, st2, sl2, q2, k.ext e2⟩
theorem sds_one (h1 : PS X st (liS X.K F0 t)) : PSs X [st] (liS X.K F0 t) := pss_one h1
theorem sd_pass : PS X (.Pass pos) (liS X.K F0 dNext) := psImp ps_pass fun D σ H ⟨F, R, τ, M, D', e0, st, sl, q, k⟩ => k.nx _ _ _ _ _ Ext.refl st sl q
theorem sd_break : PS X (.Break pos) (liS X.K F0 dBreak) := psImp ps_break fun D σ H ⟨F, R, τ, M, D', e0, st, sl, q, k⟩ => k.bk _ _ _ _ _ Ext.refl st sl q
theorem sd_cont : PS X (.Continue pos) (liS X.K F0 dCont) := psImp ps_continue fun D σ H ⟨F, R, τ, M, D', e0, st, sl, q, k⟩ => k.ct _ _ _ _ _ Ext.refl st sl q
theorem sd_expr (he : PE X e (liE X.K F0 te)) (hs : swapsWith e none pos.line X.env = pure false := by rfl) : PS X (.Expr e pos) (liS X.K F0 (dDrop te)) :=
  psImp (ps_expr he hs) fun D σ H ⟨F, R, τ, M, D', e0, st, sl, q, k⟩ => ⟨F, R, τ, M, _, e0, st, sl, q, fun v H2 F2 d M2 e2 st2 r2 q2 => k.nx _ _ _ _ _ e2 st2 (sl.ext e2) q2⟩
theorem sd_ret (he : PE X e (liE X.K F0 te)) : PS X (.Return (some e) pos) (liS X.K F0 (dRet te)) :=
  psImp (ps_ret he) fun D σ H ⟨F, R, τ, M, D', e0, st, sl, q, k⟩ => ⟨F, R, τ, M, _, e0, st, sl, q, k.rt⟩
theorem sd_retN : PS X (.Return none pos) (liS X.K F0 dRetN) :=
  psImp ps_retN fun D σ H ⟨F, R, τ, M, D', e0, st, sl, q, k⟩ => k.rt _ _ _ _ _ Ext.refl st .non q
theorem sd_if {c : Expr} {a b : List Stmt} {tc : DT} (hc : PT X c (liT X.K F0 tc)) (ha : PSs X a (liS X.K F0 t)) (hb : PSs X b (liS X.K F0 u)) : PS X (.If c a b pos) (liS X.K F0 (dIfS tc t u)) := by
  refine psImp (ps_if hc ha hb) fun D σ H ⟨F, R, τ, M, D', e0, st, sl, q, k⟩ => ?_
  refine ⟨F, R, τ, M, _, e0, st, sl, q, fun b H1 F1 M1 e1 st1 q1 => ?_⟩
  cases b with
  | true => rw [if_pos rfl] at q1 ⊢; exact ⟨F1, R, τ, M1, D', e0.trans e1, st1, sl.ext e1, q1, k.ext e1⟩
  | false => rw [if_neg Bool.false_ne_true] at q1 ⊢; exact ⟨F1, R, τ, M1, D', e0.trans e1, st1, sl.ext e1, q1, k.ext e1⟩
/-- name = value -/
theorem sd_set {i : Nat} {x : Str} {pos' : Pos} (hN : X.N.Nodup) (hi : X.N[i]? = some x) (hx : Loc X.env.scope x) (he : PE X e (liE X.K F0 te)) (hs : swapsWith e (some (.Name x pos')) pos.line X.env = pure false := by rfl) (hf : X.fn x = true ∨ X.env.scope.names.lookup x = some .local := by first | exact .inl rfl | exact .inr rfl | assumption) :
    PS X (.Assign [.Name x pos'] e pos) (liS X.K F0 (dSet i te)) :=
  psImp (ps_set hN hi hx he hs hf) fun D σ H ⟨F, R, τ, M, D', e0, st, sl, q, k⟩ => ⟨F, R, τ, M, _, e0, st, sl, q, fun v H2 F2 d M2 e2 st2 r2 q2 => k.nx _ _ _ _ _ e2 st2 ((sl.ext e2).put r2 i) q2⟩
/-- a, b, .. = a tuple -/
inductive GNames (X : Cx) : List Expr → List Nat → TGs → Prop
  | nil : GNames X [] [] gNil
  | cons {i : Nat} {x : Str} {p : Pos} {es : List Expr} {is : List Nat} {u : TGs} : PG X (.Name x p) (gName i) → GNames X es is u → (assignEach (.Name x p :: es) X.env).map (·.2) = assign (.Name x p) X.env :: (assignEach es X.env).map (·.2) →
      GNames X (.Name x p :: es) (i :: is) (gCons (gName i) u)
theorem GNames.pgs {es : List Expr} {is : List Nat} {u : TGs} (h : GNames X es is u) : PGs X es u := by
  induction h with
  | nil => exact pgs_nil
  | cons h _ hs ih => exact pgs_cons h ih hs
theorem GNames.run {es : List Expr} {is : List Nat} {u : TGs} (h : GNames X es is u) {K : PySem.W.Frag} {F R : Hp} {M : Mp} {D' : EndsD} {E2 : Ends} (k : KS K F R D' E2) : ∀ {xs : List V} {ds : List D} {σ : L2.St} {H : Hp} {τ : SD},
    Stt K F R H M → Slots K F σ τ → RepAll K F xs ds → ds.length = is.length → D'.nx (setAll is ds τ) M → u xs σ H E2.nx := by
  induction h with
  | nil =>
    intro xs ds σ H τ st sl ra hl q
    cases ra with
    | nil => exact ⟨rfl, k.nx _ _ _ _ _ Ext.refl st sl q⟩
    | cons _ _ => cases hl
  | @cons i x p es is u h _ hs ih =>
    intro xs ds σ H τ st sl ra hl q
    cases ra with
    | nil => cases hl
    | cons r ra => exact ⟨_, _, rfl, ih st (sl.put r i) ra (Nat.succ.inj hl) q⟩
theorem sd_unp {es : List Expr} {is : List Nat} {kk : Nat} {p2 : Pos} {ug : TGs} (hc : X.calm = true) (g : GNames X es is ug) (he : PE X e (liE X.K F0 te)) (hn : (assignEach es X.env).length = is.length := by rfl) (hst : (assignEach es X.env).findIdx? (·.1) = none := by rfl)
    (hs : swapsWithSole [.Tuple es kk p2] e pos.line X.env = pure false := by rfl) (hw : swappedStores [.Tuple es kk p2] e X.env = pure none := by rfl)
    (h1 : (assignEach [.Tuple es kk p2] X.env).map (·.2) = [assign (.Tuple es kk p2) X.env] := by rfl) : PS X (.Assign [.Tuple es kk p2] e pos) (liS X.K F0 (dUnp is te)) := by
  refine psImp (ps_asg he (pg_tup hc g.pgs hn hst) hs hw h1) fun D σ H ⟨F, R, τ, M, D', e0, st, sl, q, k⟩ => ?_
  refine ⟨F, R, τ, M, _, e0, st, sl, q, fun v H2 F2 d M2 e2 st2 r2 q2 => ?_⟩
  cases d <;> try exact q2.elim
  rename_i ds
  obtain ⟨a, xs, rfl, hq, ra⟩ := tp_get st2 r2
  exact ⟨a, xs, rfl, hq, by rw [ra.len]; exact q2.1, g.run (k.ext e2) st2 (sl.ext e2) ra q2.1 q2.2⟩
/-- name op= e -/
def dAug (i : Nat) (te : DE) (r : R2D) : DS := fun D τ M => match τ[i]? with
  | some (some x) => te τ M fun y M1 => r x y M1 fun z M2 => D.nx (τ.set i (some z)) M2
  | _ => False
theorem sd_aug {i : Nat} {x : Str} {op : Operator} {r : R2D} {pos' : Pos} (hN : X.N.Nodup) (hi : X.N[i]? = some x) (hx : Loc X.env.scope x) (he : PE X e (liE X.K F0 te)) (ho : OpD X F0 (inplaceOp op) r) (hf : X.fn x = true ∨ X.env.scope.names.lookup x = some .local := by first | exact .inl rfl | exact .inr rfl | assumption) :
    PS X (.AugAssign (.Name x pos') op e pos) (liS X.K F0 (dAug i te r)) := by
  refine psImp (ps_aug hN hi hx he (ti := liR X.K F0 r) ho hf) fun D σ H ⟨F, R, τ, M, D', e0, st, sl, q, k⟩ => ?_
  unfold dAug at q
  split at q <;> try exact q.elim
  rename_i x0 e1
  obtain ⟨v, ev, rv⟩ := sl.get e1
  refine ⟨v, ev, F, R, τ, M, _, e0, st, sl, q, fun w H2 F2 d M2 e2 st2 r2 q2 => ?_⟩
  refine ⟨F2, R, M2, x0, d, _, e0.trans e2, st2, rv.ext e2, r2, q2, fun z H3 F3 dz M3 e3 st3 r3 q3 => ?_⟩
  exact k.nx _ _ _ _ _ (e2.trans e3) st3 ((sl.ext (e2.trans e3)).put r3 i) q3
/-- xs[i] = e -/
abbrev RSet := D → D → D → Mp → (Mp → Prop) → Prop
def dStore (te to ti : DE) (r : RSet) : DS := fun D τ M => te τ M fun v M1 => to τ M1 fun o M2 => ti τ M2 fun i M3 => r o i v M3 fun M4 => D.nx τ M4
def liSet (K : PySem.W.Frag) (F0 : Bs) (r : RSet) : TSet := fun o i v H Q => ∃ F R M o' i' v' Q', Bas F0 F R ∧ Stt K F R H M ∧ Rep K F o o' ∧ Rep K F i i' ∧ Rep K F v v' ∧ r o' i' v' M Q' ∧ ∀ H2 F2 M2, Ext F F2 → Stt K F2 R H2 M2 → Q' M2 → Q H2
def dSetL : RSet := fun o i v M Q => match o, i with
  | .ref a, .int k => match M a with
    | some (.lst xs) => match ixN xs.length k with
      | some j => Q (updM M a (.lst (xs.set j v)))
      | none => False
    | _ => False
  | _, _ => False
theorem std_list : PSet X (liSet X.K F0 dSetL) := by
  intro pins s σ H o i v ov iv u Q I ro ri rv ⟨F, R, M, o', i', v', Q', e0, st, r1, r2, r3, q, k⟩
  unfold dSetL at q
  split at q <;> try exact q.elim
  rename_i a kx
  split at q <;> try exact q.elim
  rename_i xs em
  split at q <;> try exact q.elim
  rename_i j ej
  cases r1; cases r2
  obtain ⟨_, ho, hh, rr⟩ := st.ow _ _ em
  obtain ⟨vs, rfl, ra⟩ := rr.lst_iff
  refine set_list pins s σ H _ _ v ov iv u Q I ro ri rv ⟨a, vs, kx, j, rfl, rfl, hh, by rw [ra.len]; exact ej, ?_⟩
  exact k _ _ _ Ext.refl (st.store em (fun _ z => by cases z) (m' := .lst (xs.set j v')) (ra.put r3 j)) q
theorem sd_store {o i : Expr} {to ti : DE} {r : RSet} {p2 : Pos} (he : PE X e (liE X.K F0 te)) (ho : PE X o (liE X.K F0 to)) (hi : PE X i (liE X.K F0 ti)) (hs : PSet X (liSet X.K F0 r))
    (ha : ∀ v, assign (.Subscript o i p2) X.env v = (do
      let ov ← holding [v] (eval o X.env)
      let iv ← holding [v, ov] (eval i X.env)
      standAt p2
      holding [v, ov, iv] (setItem ov iv v)
      release [v, ov, iv] []) := by intro _; rfl)
    (hs1 : swapsWithSole [.Subscript o i p2] e pos.line X.env = pure false := by rfl) (hw : swappedStores [.Subscript o i p2] e X.env = pure none := by rfl)
    (h1 : (assignEach [.Subscript o i p2] X.env).map (·.2) = [assign (.Subscript o i p2) X.env] := by rfl) : PS X (.Assign [.Subscript o i p2] e pos) (liS X.K F0 (dStore te to ti r)) := by
  refine psImp (ps_asg he (pg_sub ho hi hs ha) hs1 hw h1) fun D σ H ⟨F, R, τ, M, D', e0, st, sl, q, k⟩ => ?_
  refine ⟨F, R, τ, M, _, e0, st, sl, q, fun v H1 F1 d M1 e1 st1 r1 q1 => ?_⟩
  refine ⟨F1, R, τ, M1, _, e0.trans e1, st1, sl.ext e1, q1, fun ov H2 F2 d2 M2 e2 st2 r2 q2 => ?_⟩
  refine ⟨F2, R, τ, M2, _, e0.trans (e1.trans e2), st2, sl.ext (e1.trans e2), q2, fun iv H3 F3 d3 M3 e3 st3 r3 q3 => ?_⟩
  exact ⟨F3, R, M3, d2, d3, d, _, e0.trans (e1.trans (e2.trans e3)), st3, r2.ext e3, r3, r1.ext (e2.trans e3), q3, fun H4 F4 M4 e4 st4 q4 => k.nx _ _ _ _ _ (e1.trans (e2.trans (e3.trans e4))) st4 (sl.ext (e1.trans (e2.trans (e3.trans e4)))) q4⟩
/-- while -/
def dWhile (c : DT) (tb : DS) : DS := fun D τ M => ∃ W : Nat → SD → Mp → Prop, (∃ m, W m τ M) ∧ ∀ m τ M, W m τ M →
  c τ M fun b M1 => if b = true then tb { D with nx := fun τ2 M2 => ∃ m', m' < m ∧ W m' τ2 M2, ct := fun τ2 M2 => ∃ m', m' < m ∧ W m' τ2 M2, bk := D.nx } τ M1 else D.nx τ M1
theorem sd_while {c : Expr} {body : List Stmt} {tc : DT} {tb : DS} (hp : PassesOwn (model X.prog X.w) X.A X.env X.xe) (hc : PT X c (liT X.K F0 tc)) (hb : PSs X body (liS X.K F0 tb)) : PS X (.While c body [] pos) (liS X.K F0 (dWhile tc tb)) := by
  refine psImp (ps_while hp hc hb) fun D σ H ⟨F, R, τ, M, D', e0, st, sl, ⟨W, ⟨m0, w0⟩, turn⟩, k⟩ => ?_
  refine ⟨fun m σ H => ∃ F1 τ1 M1, Ext F F1 ∧ Stt X.K F1 R H M1 ∧ Slots X.K F1 σ τ1 ∧ W m τ1 M1, ⟨m0, F, τ, M, Ext.refl, st, sl, w0⟩, fun m σ1 H1 ⟨F1, τ1, M1, e1, st1, sl1, w1⟩ => ?_⟩
  refine ⟨F1, R, τ1, M1, _, e0.trans e1, st1, sl1, turn m τ1 M1 w1, fun b H2 F2 M2 e2 st2 q2 => ?_⟩
  cases b with
  | false => rw [if_neg Bool.false_ne_true] at q2 ⊢; exact k.nx _ _ _ _ _ (e1.trans e2) st2 (sl1.ext e2) q2
  | true =>
    rw [if_pos rfl] at q2 ⊢
    refine ⟨fun σ' H' => ∃ m', m' < m ∧ ∃ F3 τ3 M3, Ext F F3 ∧ Stt X.K F3 R H' M3 ∧ Slots X.K F3 σ' τ3 ∧ W m' τ3 M3, fun σ' H' ⟨m', hm, z⟩ => ⟨m', hm, z⟩, ?_⟩
    refine ⟨F2, R, τ1, M2, _, e0.trans (e1.trans e2), st2, sl1.ext e2, q2, ⟨?_, k.rt.ext (e1.trans e2), k.nx.ext (e1.trans e2), ?_⟩⟩
    · exact fun σ3 H3 F3 τ3 M3 e3 st3 sl3 ⟨m', hm, w3⟩ => ⟨m', hm, F3, τ3, M3, e1.trans (e2.trans e3), st3, sl3, w3⟩
    · exact fun σ3 H3 F3 τ3 M3 e3 st3 sl3 ⟨m', hm, w3⟩ => ⟨m', hm, F3, τ3, M3, e1.trans (e2.trans e3), st3, sl3, w3⟩
end
end DL

/-! DL, the rules: for, comprehensions, defs -/
namespace DL
open PySem PySem.Spec PyProof.Rows L2

/-! ### what is walked -/
structure ItD where
  n : Nat
  at' : Nat → D
  ok : Mp → Prop
structure ItRel (K : PySem.W.Frag) (F : Hp) (J : It) (j : ItD) : Prop where
  go : ∀ i F2 R H M, Ext F F2 → Stt K F2 R H M → j.ok M → i < j.n → J.go i H
  yld : ∀ i F2 R H M x H', Ext F F2 → Stt K F2 R H M → j.ok M → i < j.n → J.yld i H x H' → ∃ F3, Ext F2 F3 ∧ Stt K F3 R H' M ∧ Rep K F3 x (j.at' i) ∧ ∀ b, R b ≠ none → H' b = H b
  stop : ∀ F2 R H M, Ext F F2 → Stt K F2 R H M → j.ok M → J.stop j.n H
theorem ItRel.ext {K : PySem.W.Frag} {F F2 : Hp} {J : It} {j : ItD} (r : ItRel K F J j) (e : Ext F F2) : ItRel K F2 J j :=
  ⟨fun i F3 R H M e3 => r.go i F3 R H M (e.trans e3), fun i F3 R H M x H' e3 => r.yld i F3 R H M x H' (e.trans e3), fun F3 R H M e3 => r.stop F3 R H M (e.trans e3)⟩
abbrev DTI := SD → Mp → (ItD → Mp → Prop) → Prop
def KI (K : PySem.W.Frag) (F R : Hp) (Q' : ItD → Mp → Prop) (Q : It → Hp → Prop) : Prop := ∀ J H2 F2 j M2, Ext F F2 → Stt K F2 R H2 M2 → ItRel K F2 J j → Q' j M2 → Q J H2
def liI (K : PySem.W.Frag) (F0 : Bs) (t : DTI) : TI := fun σ H Q => ∃ F R τ M Q', Bas F0 F R ∧ Stt K F R H M ∧ Slots K F σ τ ∧ t τ M Q' ∧ KI K F R Q' Q
theorem piImp {X : Cx} {tg e : Expr} {t t' : TI} (h : PI X tg e t) (k : ∀ σ H Q, t' σ H Q → t σ H Q) : PI X tg e t' := ⟨fun pins s σ H R I q => h.run pins s σ H R I (k _ _ _ q)⟩
/-- the items of a list or a tuple -/
def itSeq (d : D) (ds : List D) : ItD := ⟨ds.length, fun i => ds.getD i .non, fun M => sqOf M d = some ds⟩
def iSeqD (te : DE) : DTI := fun τ M Q => te τ M fun d M1 => match sqOf M1 d with
  | some ds => Q (itSeq d ds) M1
  | none => False
def itRng (lo : Int) (n : Nat) : ItD := ⟨n, fun i => .int (lo + i), fun _ => True⟩
def iRng1D (ta : DA) : DTI := fun τ M Q => ta τ M fun ds M1 => match ds with
  | [.int j] => -(2 ^ 62) ≤ j ∧ j < 2 ^ 62 ∧ Q (itRng 0 j.toNat) M1
  | _ => False
def iRng2D (ta : DA) : DTI := fun τ M Q => ta τ M fun ds M1 => match ds with
  | [.int i, .int j] => (-(2 ^ 62) ≤ i ∧ i < 2 ^ 62 ∧ -(2 ^ 62) ≤ j ∧ j < 2 ^ 62) ∧ Q (itRng i (j - i).toNat) M1
  | _ => False
/-- either of the two -/
def iBoth (K : PySem.W.Frag) (tl : TE) : TI := fun σ H R => tl σ H fun x H1 => ∃ a, x = .ref a ∧ (((∃ xs, SqL K H1 a xs) ∧ R (Itl K a) H1) ∨ ((∃ xs, SqT K H1 a xs) ∧ R (Itt K a) H1))
section
variable {X : Cx} {F0 : Bs} {tg l : Expr} {te : DE}
theorem pi_both {tl : TE} (hl : PE X l tl) : PI X tg l (iBoth X.K tl) := by
  constructor
  intro pins s σ H R I h
  refine thn (hl.run pins s σ H _ I h) fun v s1 ⟨x, H1, I1, r1, a, ex, q⟩ => ?_
  subst ex
  cases r1
  have new : ∀ b ∈ [s1.heap.objs.size], FpOk X pins H1 b := fun b hb => by
    have e2 : b = s1.heap.objs.size := List.mem_singleton.mp hb
    rw [e2]
    exact I1.fpOk (Nat.le_refl _) (I1.hok.fresh (Nat.le_refl _))
  rcases q with ⟨⟨xs, hq⟩, q⟩ | ⟨⟨xs, hq⟩, q⟩
  · obtain ⟨its, rv, p, hz⟩ := I1.list hq
    exact wpAny_pyIter_list p.isList ⟨s1.heap.objs.size, [s1.heap.objs.size], _, _, H1, rfl, I1.kept (t' := s1.toks) fun b o e => Heap.get?_push_of_some _ e, turn_list a _, ⟨_, Heap.get?_push_size _ rfl, rfl, rfl⟩, new, q⟩
  · obtain ⟨its, rv, p, hz⟩ := I1.tuple hq
    exact wpAny_pyIter_tuple (show s1.heap.IsTuple a its.toArray from p) ⟨s1.heap.objs.size, [s1.heap.objs.size], _, _, H1, rfl, I1.kept (t' := s1.toks) fun b o e => Heap.get?_push_of_some _ e, turn_tuple a _, ⟨_, Heap.get?_push_size _ rfl, rfl, rfl⟩, new, q⟩
theorem getD_of {α : Type} {ds : List α} {i : Nat} {d z : α} (h : ds[i]? = some d) : ds.getD i z = d := by rw [List.getD_eq_getElem?_getD, h]; rfl
theorem rel_list {K : PySem.W.Frag} {F R H : Hp} {M : Mp} {a : Addr} {d : D} {ds : List D} (st : Stt K F R H M) (r : Rep K F (.ref a) d) (h : lsOf M d = some ds) (h2 : ∀ M, sqOf M d = some ds → lsOf M d = some ds) : ItRel K F (Itl K a) (itSeq d ds) where
  go := fun i F2 R H M e st ok hi => by
    obtain ⟨a', xs, ea, hs, ra⟩ := ls_get st (r.ext e) (h2 M ok)
    cases ea
    have hi : i < ds.length := hi
    exact ⟨xs, xs[i]'(by rw [ra.len]; exact hi), hs, List.getElem?_eq_getElem _⟩
  yld := fun i F2 R H M x H' e st ok hi y => by
    obtain ⟨rfl, y⟩ := y
    obtain ⟨a', xs, ea, hs, ra⟩ := ls_get st (r.ext e) (h2 M ok)
    cases ea
    obtain ⟨d', e1, e2⟩ := ra.get (y xs hs)
    exact ⟨F2, Ext.refl, st, by show Rep K F2 x (ds.getD i .non); rw [getD_of e1]; exact e2, fun _ _ => rfl⟩
  stop := fun F2 R H M e st ok => by
    obtain ⟨a', xs, ea, hs, ra⟩ := ls_get st (r.ext e) (h2 M ok)
    cases ea
    exact ⟨xs, hs, by rw [ra.len]; exact Nat.le_refl _⟩
theorem rel_tup {K : PySem.W.Frag} {F : Hp} {a : Addr} {ds : List D} (r : Rep K F (.ref a) (.tup ds)) : ItRel K F (Itt K a) (itSeq (.tup ds) ds) where
  go := fun i F2 R H M e st ok hi => by
    obtain ⟨a', xs, ea, hs, ra⟩ := tp_get st (r.ext e)
    cases ea
    have hi : i < ds.length := hi
    exact ⟨xs, xs[i]'(by rw [ra.len]; exact hi), hs, List.getElem?_eq_getElem _⟩
  yld := fun i F2 R H M x H' e st ok hi y => by
    obtain ⟨rfl, y⟩ := y
    obtain ⟨a', xs, ea, hs, ra⟩ := tp_get st (r.ext e)
    cases ea
    obtain ⟨d', e1, e2⟩ := ra.get (y xs hs)
    exact ⟨F2, Ext.refl, st, by show Rep K F2 x (ds.getD i .non); rw [getD_of e1]; exact e2, fun _ _ => rfl⟩
  stop := fun F2 R H M e st ok => by
    obtain ⟨a', xs, ea, hs, ra⟩ := tp_get st (r.ext e)
    cases ea
    exact ⟨xs, hs, by rw [ra.len]; exact Nat.le_refl _⟩
theorem rel_rng {K : PySem.W.Frag} {F : Hp} {lo : Int} {n : Nat} : ItRel K F (Itr lo n) (itRng lo n) where
  go := fun i F2 R H M e st ok hi => hi
  yld := fun i F2 R H M x H' e st ok hi y => by
    obtain ⟨rfl, rfl⟩ := y
    exact ⟨F2, Ext.refl, st, .int _, fun _ _ => rfl⟩
  stop := fun F2 R H M e st ok => Nat.le_refl _
theorem id_seq (hl : PE X l (liE X.K F0 te)) : PI X tg l (liI X.K F0 (iSeqD te)) := by
  refine piImp (pi_both hl) fun σ H Q ⟨F, R, τ, M, Q', e0, st, sl, q, k⟩ => ?_
  refine ⟨F, R, τ, M, _, e0, st, sl, q, fun v H1 F1 d M1 e1 st1 r1 q1 => ?_⟩
  split at q1 <;> try exact q1.elim
  rename_i ds h1
  rcases sqOf_cases h1 with rfl | h2
  · have r0 := r1
    obtain ⟨a, xs, rfl, hs, ra⟩ := tp_get st1 r1
    exact ⟨a, rfl, .inr ⟨⟨xs, hs⟩, k _ _ _ _ _ e1 st1 (rel_tup r0) q1⟩⟩
  · have r0 := r1
    obtain ⟨a, xs, rfl, hs, ra⟩ := ls_get st1 r1 h2
    refine ⟨a, rfl, .inl ⟨⟨xs, hs⟩, k _ _ _ _ _ e1 st1 (rel_list st1 r0 h2 fun M2 z => ?_) q1⟩⟩
    rcases sqOf_cases z with rfl | z
    · cases h2
    · exact z
theorem id_rng1 {a : Expr} {ta : DA} {p pos : Pos} (hg : Gl X "range") (hm : X.mg "range" = none) (ha : PA X [a] (liA X.K F0 ta)) (hs : starEach [a] X.env = [(false, eval a X.env)] := by rfl) : PI X tg (.Call (.Name "range" p) [a] [] pos) (liI X.K F0 (iRng1D ta)) := by
  refine piImp (pi_range1 hg hm ha hs) fun σ H Q ⟨F, R, τ, M, Q', e0, st, sl, q, k⟩ => ?_
  refine ⟨F, R, τ, M, _, e0, st, sl, q, fun v H1 F1 ds M1 e1 st1 r1 q1 => ?_⟩
  split at q1 <;> try exact q1.elim
  obtain ⟨x, rfl, r⟩ := rep1 r1
  cases r
  exact ⟨_, rfl, q1.1, q1.2.1, k _ _ _ _ _ e1 st1 rel_rng q1.2.2⟩
theorem id_rng2 {a b : Expr} {ta : DA} {p pos : Pos} (hg : Gl X "range") (hm : X.mg "range" = none) (ha : PA X [a, b] (liA X.K F0 ta)) (hs : starEach [a, b] X.env = [(false, eval a X.env), (false, eval b X.env)] := by rfl) (hs2 : starEach [b] X.env = [(false, eval b X.env)] := by rfl) :
    PI X tg (.Call (.Name "range" p) [a, b] [] pos) (liI X.K F0 (iRng2D ta)) := by
  refine piImp (pi_range2 hg hm ha hs hs2) fun σ H Q ⟨F, R, τ, M, Q', e0, st, sl, q, k⟩ => ?_
  refine ⟨F, R, τ, M, _, e0, st, sl, q, fun v H1 F1 ds M1 e1 st1 r1 q1 => ?_⟩
  split at q1 <;> try exact q1.elim
  obtain ⟨x, y, rfl, r, r'⟩ := rep2 r1
  cases r; cases r'
  exact ⟨_, _, rfl, q1.1, k _ _ _ _ _ e1 st1 rel_rng q1.2⟩
end

/-! ### targets -/
/-- one name (is = [i], plain), or a tuple of names -/
def bindD (plain : Bool) (is : List Nat) (d : D) (τ : SD) : Option SD :=
  if plain then (match is with | [i] => some (τ.set i (some d)) | _ => none)
  else match d with
    | .tup ds => if ds.length = is.length then some (setAll is ds τ) else none
    | _ => none
def gD (plain : Bool) (is : List Nat) : D → SD → Mp → (SD → Mp → Prop) → Prop := fun d τ M Q => match bindD plain is d τ with
  | some τ2 => Q τ2 M
  | none => False
/-- a target's concrete reading does what bindD says -/
structure TgOk (K : PySem.W.Frag) (g : TG) (plain : Bool) (is : List Nat) : Prop where
  run : ∀ F R H M v d σ τ τ2 (Q : L2.St → Hp → Prop), Stt K F R H M → Slots K F σ τ → Rep K F v d → bindD plain is d τ = some τ2 → (∀ σ2, Slots K F σ2 τ2 → (∃ xs : List V, (is.length = xs.length) ∧ σ2 = (is.zip xs).foldl (fun s p => s.set p.1 (some p.2)) σ) → Q σ2 H) → g v σ H Q
theorem tg_name {K : PySem.W.Frag} {i : Nat} : TgOk K (gName i) true [i] := by
  constructor
  intro F R H M v d σ τ τ2 Q st sl r e q
  have e : some (τ.set i (some d)) = some τ2 := e
  cases e
  exact q _ (sl.put r i) ⟨[v], rfl, rfl⟩
theorem names_run {K : PySem.W.Frag} {F : Hp} {X : Cx} {es : List Expr} {is : List Nat} {u : TGs} (h : GNames X es is u) : ∀ {xs : List V} {ds : List D} {σ : L2.St} {H : Hp} {τ : SD} {Q : L2.St → Hp → Prop}, Slots K F σ τ → RepAll K F xs ds → ds.length = is.length →
    (∀ σ2, Slots K F σ2 (setAll is ds τ) → (∃ xs : List V, (is.length = xs.length) ∧ σ2 = (is.zip xs).foldl (fun s p => s.set p.1 (some p.2)) σ) → Q σ2 H) → u xs σ H Q := by
  induction h with
  | nil =>
    intro xs ds σ H τ Q sl ra hl q
    cases ra with
    | nil => exact ⟨rfl, q _ sl ⟨[], rfl, rfl⟩⟩
    | cons _ _ => cases hl
  | @cons i x p es is u h _ hs ih =>
    intro xs ds σ H τ Q sl ra hl q
    cases ra with
    | nil => cases hl
    | cons r ra =>
      rename_i v vs d ds
      refine ⟨_, _, rfl, ih (sl.put r i) ra (Nat.succ.inj hl) fun σ2 s2 ⟨ys, h1, h2⟩ => ?_⟩
      exact q σ2 s2 ⟨v :: ys, by simp [h1], by rw [h2]; rfl⟩
theorem tg_tup {K : PySem.W.Frag} {X : Cx} {es : List Expr} {is : List Nat} {u : TGs} (h : GNames X es is u) : TgOk K (gTup K is.length u) false is := by
  constructor
  intro F R H M v d σ τ τ2 Q st sl r e q
  cases d <;> try (exact nomatch (show (none : Option SD) = some τ2 from e))
  rename_i ds
  have e : (if ds.length = is.length then some (setAll is ds τ) else none) = some τ2 := e
  split at e
  · rename_i hl
    cases e
    obtain ⟨a, xs, rfl, hs, ra⟩ := tp_get st r
    exact ⟨a, xs, rfl, hs, by rw [ra.len]; exact hl, names_run h sl ra hl q⟩
  · cases e
/-! ### for -/
def dFor (wi : DTI) (g : D → SD → Mp → (SD → Mp → Prop) → Prop) (tb : DS) : DS := fun D τ M => wi τ M fun j M1 => ∃ Pv : Nat → SD → Mp → Prop, Pv 0 τ M1 ∧ (∀ i τ M, i ≤ j.n → Pv i τ M → j.ok M) ∧
  (∀ i τ M, i < j.n → Pv i τ M → g (j.at' i) τ M fun τ2 M2 => tb { D with nx := Pv (i + 1), ct := Pv (i + 1), bk := D.nx } τ2 M2) ∧ ∀ τ M, Pv j.n τ M → D.nx τ M
section
variable {X : Cx} {F0 : Bs} {tg iter : Expr} {body : List Stmt} {wi : DTI} {g : TG} {tb : DS} {plain : Bool} {is : List Nat} {pos : Pos}
theorem sd_for (hp : PassesOwn (model X.prog X.w) X.A X.env X.xe) (hc : X.calm = true) (hi : PI X tg iter (liI X.K F0 wi)) (hg : PG X tg g) (ht : TgOk X.K g plain is) (hb : PSs X body (liS X.K F0 tb))
    (hs : ∀ x, foldedSetIterable iter X.env x = pure x := by intro _; rfl) : PS X (.For tg iter body [] pos) (liS X.K F0 (dFor wi (gD plain is) tb)) := by
  refine psImp (ps_for hp hc hi hg hb hs) fun D σ H ⟨F, R, τ, M, D', e0, st, sl, q, k⟩ => ?_
  refine ⟨F, R, τ, M, _, e0, st, sl, q, fun J H1 F1 j M1 e1 st1 rl ⟨Pv, p0, pk, ps, pd⟩ => ?_⟩
  refine ⟨fun i m σ H => m = j.n - i ∧ i ≤ j.n ∧ ∃ F2 τ2 M2, Ext F1 F2 ∧ Stt X.K F2 R H M2 ∧ Slots X.K F2 σ τ2 ∧ Pv i τ2 M2, ⟨j.n, by simp, Nat.zero_le _, F1, τ, M1, Ext.refl, st1, sl.ext e1, p0⟩, ?_⟩
  rintro i m σ2 H2 ⟨rfl, hi, F2, τ2, M2, e2, st2, sl2, p2⟩
  have ok := pk i τ2 M2 hi p2
  by_cases hlt : i < j.n
  · refine .inr ⟨rl.go i F2 R H2 M2 e2 st2 ok hlt, fun σ' H' => ∃ F2 τ2 M2, Ext F1 F2 ∧ Stt X.K F2 R H' M2 ∧ Slots X.K F2 σ' τ2 ∧ Pv (i + 1) τ2 M2, fun σ' H' z => ⟨j.n - (i + 1), by omega, rfl, hlt, z⟩, fun x H3 y => ?_⟩
    obtain ⟨F3, e3, st3, rx, _⟩ := rl.yld i F2 R H2 M2 x H3 e2 st2 ok hlt y
    have step := ps i τ2 M2 hlt p2
    unfold gD at step
    split at step
    · rename_i τ3 eb
      refine ht.run F3 R H3 M2 x _ σ2 τ2 τ3 _ st3 (sl2.ext e3) rx eb fun σ3 sl3 _ => ?_
      refine ⟨F3, R, τ3, M2, _, e0.trans (e1.trans (e2.trans e3)), st3, sl3, step, ⟨?_, k.rt.ext (e1.trans (e2.trans e3)), k.nx.ext (e1.trans (e2.trans e3)), ?_⟩⟩
      · exact fun σ4 H4 F4 τ4 M4 e4 st4 sl4 q4 => ⟨F4, τ4, M4, e2.trans (e3.trans e4), st4, sl4, q4⟩
      · exact fun σ4 H4 F4 τ4 M4 e4 st4 sl4 q4 => ⟨F4, τ4, M4, e2.trans (e3.trans e4), st4, sl4, q4⟩
    · exact step.elim
  · have e : i = j.n := by omega
    subst e
    exact .inl ⟨rl.stop F2 R H2 M2 e2 st2 ok, k.nx _ _ _ _ _ (e1.trans e2) st2 sl2 (pd τ2 M2 p2)⟩
end

/-! ### comprehensions -/
def wipeD (τ : SD) : List Nat → SD
  | [] => τ
  | v :: vs => (wipeD τ vs).set v none
theorem Slots.wipe {K : PySem.W.Frag} {F : Hp} {σ : L2.St} {τ : SD} (h : Slots K F σ τ) : ∀ vs : List Nat, Slots K F (wipe σ vs) (wipeD τ vs)
  | [] => h
  | v :: vs => (Slots.wipe h vs).drop1 v
theorem wipe_get (σ : L2.St) (k : Nat) : ∀ vs : List Nat, (wipe σ vs)[k]? = if k ∈ vs then (σ[k]?).map (fun _ => none) else σ[k]?
  | [] => by simp [wipe]
  | v :: vs => by
    show ((wipe σ vs).set v none)[k]? = _
    rw [List.getElem?_set]
    have ih := wipe_get σ k vs
    by_cases h : v = k
    · subst h
      rw [if_pos rfl, if_pos List.mem_cons_self, wipe_length]
      by_cases hk : v < σ.length
      · rw [if_pos hk, List.getElem?_eq_getElem hk]; rfl
      · rw [if_neg hk, List.getElem?_eq_none (by omega)]; rfl
    · rw [if_neg h, ih]
      by_cases hm : k ∈ vs
      · rw [if_pos hm, if_pos (List.mem_cons_of_mem _ hm)]
      · rw [if_neg hm, if_neg fun z => (List.mem_cons.mp z).elim (fun q => h q.symm) hm]
theorem wipe_set {σ : L2.St} {i : Nat} {x : Option V} {vs : List Nat} (h : i ∈ vs) : wipe (σ.set i x) vs = wipe σ vs := by
  apply List.ext_getElem?
  intro k
  rw [wipe_get, wipe_get, List.getElem?_set]
  by_cases e : i = k
  · subst e
    rw [if_pos h, if_pos h, if_pos rfl]
    by_cases hk : i < σ.length
    · rw [if_pos hk, List.getElem?_eq_getElem hk]; rfl
    · rw [if_neg hk, List.getElem?_eq_none (by omega)]
  · rw [if_neg e]
theorem wipe_wipe {σ : L2.St} {vs : List Nat} : wipe (wipe σ vs) vs = wipe σ vs := by
  apply List.ext_getElem?
  intro k
  rw [wipe_get, wipe_get]
  by_cases h : k ∈ vs
  · simp only [if_pos h]
    cases σ[k]? <;> rfl
  · simp only [if_neg h]
theorem wipe_fold {vs : List Nat} : ∀ (is : List Nat) (xs : List V) (σ : L2.St), (∀ i ∈ is, i ∈ vs) → wipe ((is.zip xs).foldl (fun s p => s.set p.1 (some p.2)) σ) vs = wipe σ vs
  | [], _, _, _ => rfl
  | i :: is, [], _, _ => rfl
  | i :: is, x :: xs, σ, h => by
    show wipe ((is.zip xs).foldl (fun s p => s.set p.1 (some p.2)) (σ.set i (some x))) vs = _
    rw [wipe_fold is xs _ fun j hj => h j (List.mem_cons_of_mem _ hj), wipe_set (h i List.mem_cons_self)]
theorem Stt.reput {K : PySem.W.Frag} {F R H : Hp} {M : Mp} {p : Addr} {xs xs' : List V} (s : Stt K F (upd R p (.lst xs)) H M) : Stt K F (upd R p (.lst xs')) (upd H p (.lst xs')) M := by
  obtain ⟨hp, fp, mp⟩ := s.rs p (.lst xs) upd_same
  have hp : H p = some (.lst xs) := hp
  refine ⟨fun a u e => ?_, fun a u e => ?_, fun a m e => ?_, s.nf, fun a u e => ?_⟩
  rotate_left 3
  · by_cases q : a = p
    · subst q; rw [upd_same] at e; cases e; trivial
    · rw [upd_ne q] at e; exact s.nr a u (by rw [upd_ne q]; exact e)
  · rw [upd_ne (ne_of_none e fp)]; exact s.fz _ _ e
  · by_cases q : a = p
    · subst q; rw [upd_same] at e; cases e; exact ⟨upd_same, fp, mp⟩
    · rw [upd_ne q] at e
      obtain ⟨h1, h2, h3⟩ := s.rs a u (by rw [upd_ne q]; exact e)
      exact ⟨h1.step (fun b v n eb => by rw [upd_ne n]; exact eb) q (fun c z => by rw [hp] at z; unfold LamX.CodeO at z; cases z), h2, h3⟩
  · have q : a ≠ p := fun z => by subst z; rw [mp] at e; cases e
    rw [upd_ne q]; exact s.ow a m e
theorem Stt.refreeze {K : PySem.W.Frag} {F R H : Hp} {M : Mp} {p : Addr} {xs : List V} (s : Stt K F (upd R p (.lst xs)) H M) (hr : R p = none) : Stt K (upd F p (.lst xs)) R H M ∧ Ext F (upd F p (.lst xs)) := by
  obtain ⟨hp, fp, mp⟩ := s.rs p (.lst xs) upd_same
  have ex : Ext F (upd F p (.lst xs)) := fun a u e => by rw [upd_ne (ne_of_none e fp)]; exact e
  refine ⟨⟨fun a u e => ?_, fun a u e => ?_, fun a m e => ?_, fun a u e => ?_, fun a u e => s.nr a u (by rw [upd_ne (ne_of_none e hr)]; exact e)⟩, ex⟩
  rotate_left 3
  · by_cases q : a = p
    · subst q; rw [upd_same] at e; cases e; trivial
    · rw [upd_ne q] at e; exact s.nf a u e
  · by_cases q : a = p
    · subst q; rw [upd_same] at e; cases e; exact hp
    · rw [upd_ne q] at e; exact s.fz _ _ e
  · have q : a ≠ p := ne_of_none e hr
    obtain ⟨h1, h2, h3⟩ := s.rs a u (by rw [upd_ne q]; exact e)
    exact ⟨h1, by rw [upd_ne q]; exact h2, h3⟩
  · have q : a ≠ p := fun z => by subst z; rw [mp] at e; cases e
    obtain ⟨h1, u, h2, h3⟩ := s.ow a m e
    exact ⟨by rw [upd_ne q]; exact h1, u, h2, h3.ext ex⟩
theorem Stt.reown {K : PySem.W.Frag} {F R H : Hp} {M : Mp} {p : Addr} {xs : List V} {m : MO} (s : Stt K F (upd R p (.lst xs)) H M) (hr : R p = none) (r : RepO K F (.lst xs) m) : Stt K F R H (updM M p m) := by
  obtain ⟨hp, fp, mp⟩ := s.rs p (.lst xs) upd_same
  refine ⟨s.fz, fun a u e => ?_, fun a m' e => ?_, s.nf, fun a u e => s.nr a u (by rw [upd_ne (ne_of_none e hr)]; exact e)⟩
  · have q : a ≠ p := ne_of_none e hr
    obtain ⟨h1, h2, h3⟩ := s.rs a u (by rw [upd_ne q]; exact e)
    exact ⟨h1, h2, by rw [updM_ne q]; exact h3⟩
  · by_cases q : a = p
    · subst q; rw [updM_same] at e; cases e; exact ⟨fp, _, hp, r⟩
    · rw [updM_ne q] at e; exact s.ow a m' e
def dYes : DT := fun _ M Q => Q true M
/-- [e for .. in .. if t]; fin: what becomes of the new list -/
def dLcG (fin : List D → Mp → QD → Prop) (wi : DTI) (plain : Bool) (is vs : List Nat) (tt : DT) (te : DE) : DE := fun τ M Q => wi τ M fun j M1 => ∃ Pv : Nat → List D → Mp → Prop, Pv 0 [] M1 ∧ (∀ i acc M, i ≤ j.n → Pv i acc M → j.ok M) ∧
  (∀ i acc M, i < j.n → Pv i acc M → match bindD plain is (j.at' i) (wipeD τ vs) with
    | some τ2 => tt τ2 M fun b M3 => if b = true then te τ2 M3 fun e M4 => acc.length < sizeLine ∧ Pv (i + 1) (acc ++ [e]) M4 else Pv (i + 1) acc M3
    | none => False) ∧ ∀ acc M, Pv j.n acc M → fin acc M Q
abbrev dLc := dLcG fun acc M Q => Q (.lst acc) M
abbrev dLcM := dLcG fun acc M Q => ∀ p, M p = none → Q (.ref p) (updM M p (.lst acc))
/-- how the new list is handed on -/
def FinOk (K : PySem.W.Frag) (fin : List D → Mp → QD → Prop) : Prop := ∀ F R H M p xs acc Q' Q, Stt K F (upd R p (.lst xs)) H M → R p = none → RepAll K F xs acc → fin acc M Q' → KE K F R Q' Q → Q (.ref p) H
theorem fin_lst {K : PySem.W.Frag} : FinOk K fun acc M Q => Q (.lst acc) M := fun F R H M p xs acc Q' Q st hr ra q k => by
  obtain ⟨s2, e⟩ := st.refreeze hr
  exact k _ _ _ _ _ e s2 (.lst upd_same (ra.ext e)) q
theorem fin_own {K : PySem.W.Frag} : FinOk K fun acc M Q => ∀ p, M p = none → Q (.ref p) (updM M p (.lst acc)) := fun F R H M p xs acc Q' Q st hr ra q k =>
  k _ _ _ _ _ Ext.refl (st.reown hr (m := .lst acc) ra) (.ref p) (q p (st.rs p _ upd_same).2.2)
section
variable {K : PySem.W.Frag} {F0 : Bs} {fin : List D → Mp → QD → Prop} {wi : DTI} {g : TG} {plain : Bool} {is vs : List Nat} {tt : DT} {te : DE}
theorem li_lc (hf : FinOk K fin) (ht : TgOk K g plain is) (hv : ∀ i ∈ is, i ∈ vs) {σ : L2.St} {H : Hp} {Q : VK} (h : liE K F0 (dLcG fin wi plain is vs tt te) σ H Q) : tLc (liI K F0 wi) g (liT K F0 tt) (liE K F0 te) vs σ H Q := by
  obtain ⟨F, R, τ, M, Q', e0, st, sl, q, k⟩ := h
  refine ⟨F, R, τ, M, _, e0, st, sl, q, fun J H1 F1 j M1 e1 st1 rl ⟨Pv, p0, pk, ps, pd⟩ => fun L hL => ?_⟩
  have rL : R L = none := by
    cases z : R L with
    | none => rfl
    | some o => exact ((st1.rs L o z).1.there hL).elim
  have fL : F1 L = none := by
    cases z : F1 L with
    | none => rfl
    | some o => have := st1.fz L o z; rw [hL] at this; cases this
  have mL : M1 L = none := by
    cases z : M1 L with
    | none => rfl
    | some o => obtain ⟨_, u, hu, _⟩ := st1.ow L o z; rw [hL] at hu; cases hu
  have exR : ∀ o, Ext R (upd R L o) := fun o a u e => by rw [upd_ne (ne_of_none e rL)]; exact e
  have st0 : Stt K F1 (upd R L (.lst [])) (upd H1 L (.lst [])) M1 := by
    refine ⟨fun a u e => ?_, fun a u e => ?_, fun a m e => ?_, st1.nf, fun a u e => ?_⟩
    rotate_left 3
    · by_cases z : a = L
      · subst z; rw [upd_same] at e; cases e; trivial
      · rw [upd_ne z] at e; exact st1.nr a u e
    · rw [upd_ne (ne_of_none e fL)]; exact st1.fz _ _ e
    · by_cases z : a = L
      · subst z; rw [upd_same] at e; cases e; exact ⟨upd_same, fL, mL⟩
      · rw [upd_ne z] at e
        obtain ⟨h1, h2, h3⟩ := st1.rs a u e
        exact ⟨h1.step (fun b v n eb => by rw [upd_ne n]; exact eb) z (fun c y => by rw [hL] at y; cases y), h2, h3⟩
    · have z : a ≠ L := fun z => by subst z; rw [mL] at e; cases e
      rw [upd_ne z]; exact st1.ow a m e
  refine ⟨fun i m H => m = j.n - i ∧ i ≤ j.n ∧ ∃ F2 M2 xs acc, Ext F1 F2 ∧ Stt K F2 (upd R L (.lst xs)) H M2 ∧ RepAll K F2 xs acc ∧ Pv i acc M2, ⟨j.n, by simp, Nat.zero_le _, F1, M1, [], [], Ext.refl, st0, .nil, p0⟩, ?_⟩
  rintro i m H2 ⟨rfl, hi, F2, M2, xs, acc, e2, st2, ra, p2⟩
  have ok := pk i acc M2 hi p2
  by_cases hlt : i < j.n
  · refine .inr ⟨rl.go i F2 _ H2 M2 e2 st2 ok hlt, fun H' => ∃ F2 M2 xs acc, Ext F1 F2 ∧ Stt K F2 (upd R L (.lst xs)) H' M2 ∧ RepAll K F2 xs acc ∧ Pv (i + 1) acc M2, fun H' z => ⟨j.n - (i + 1), by omega, rfl, hlt, z⟩, fun x H3 y => ?_⟩
    obtain ⟨F3, e3, st3, rx, _⟩ := rl.yld i F2 _ H2 M2 x H3 e2 st2 ok hlt y
    have step := ps i acc M2 hlt p2
    split at step
    · rename_i τ3 eb
      have sl3 : Slots K F3 (wipe σ vs) (wipeD τ vs) := (sl.ext (e1.trans (e2.trans e3))).wipe vs
      refine ht.run F3 _ H3 M2 x _ _ _ τ3 _ st3 sl3 rx eb fun σ4 sl4 ⟨ys, hl, e4⟩ => ⟨by rw [e4, wipe_fold is ys _ hv, wipe_wipe], ?_⟩
      have b3 : Bas F0 F3 (upd R L (.lst xs)) := ⟨(e0.trans (e1.trans (e2.trans e3))).f, e0.r.trans (exR _), e0.t.ext (exR _)⟩
      refine ⟨F3, _, τ3, M2, _, b3, st3, sl4, step, fun b H5 F5 M5 e5 st5 q5 => ?_⟩
      cases b with
      | false =>
        rw [if_neg Bool.false_ne_true] at q5 ⊢
        exact ⟨F5, M5, xs, acc, e2.trans (e3.trans e5), st5, ra.ext (e3.trans e5), q5⟩
      | true =>
        rw [if_pos rfl] at q5 ⊢
        refine ⟨F5, _, τ3, M5, _, b3.trans e5, st5, sl4.ext e5, q5, fun z H6 F6 dz M6 e6 st6 r6 ⟨q6, q7⟩ => ?_⟩
        have ra6 := ra.ext (e3.trans (e5.trans e6))
        exact ⟨xs, (st6.rs L _ upd_same).1, by rw [ra6.len]; exact q6, F6, M6, xs ++ [z], acc ++ [dz], e2.trans (e3.trans (e5.trans e6)), st6.reput, ra6.app (.cons r6 .nil), q7⟩
    · exact step.elim
  · have e : i = j.n := by omega
    subst e
    exact .inl ⟨rl.stop F2 _ H2 M2 e2 st2 ok, hf F2 R H2 M2 L xs acc Q' Q st2 rL ra (pd acc M2 p2) (k.ext (e1.trans e2))⟩
end
section
variable {X : Cx} {F0 : Bs} {elt tg iter : Expr} {ifs : List Expr} {scope : Scope} {own : List (Str × Nat)} {pos : Pos} {wi : DTI} {g : TG} {plain : Bool} {is vs : List Nat} {tt : DT} {te : DE} {fin : List D → Mp → QD → Prop}
theorem pd_lcG (hf : FinOk X.K fin) (hc : X.calm = true) (hN : X.N.Nodup) (hi : PI X tg iter (liI X.K F0 wi)) (ok : BlkOk X.N X.env.scope scope own) (hvs : own.map (·.2) = vs) (hto : TgOk X.K g plain is) (hv : ∀ i ∈ is, i ∈ vs)
    (hg : ∀ (s : Shared) (H : Hp) (C : Addr) (cl : List (Str × Addr)) (fp : List Addr), PG (X.blk s H scope (compEnvC scope cl C X.env) fp) tg g)
    (ht : ∀ (s : Shared) (H : Hp) (C : Addr) (cl : List (Str × Addr)) (fp : List Addr), PTs (X.blk s H scope (compEnvC scope cl C X.env) fp) ifs (liT X.K F0 tt))
    (he : ∀ (s : Shared) (H : Hp) (C : Addr) (cl : List (Str × Addr)) (fp : List Addr), PE (X.blk s H scope (compEnvC scope cl C X.env) fp) elt (liE X.K F0 te)) (hs : ∀ x, foldedSetIterable iter X.env x = pure x := by intro _; rfl) :
    PE X (.ListComp elt [⟨tg, iter, ifs, 0⟩] scope pos) (liE X.K F0 (dLcG fin wi plain is vs tt te)) := by
  subst hvs
  exact peImp (pe_lc hc hN hi ok hg ht he hs) fun _ _ _ h => li_lc hf hto hv h
/-- name = [..] on one line -/
theorem sd_setLcG {i : Nat} {y : Str} {py spos : Pos} (hf : FinOk X.K fin) (hc : X.calm = true) (hN : X.N.Nodup) (hy : X.N[i]? = some y) (hyl : X.env.scope.names.lookup y = some .local)
    (hsw : swapsWith (.ListComp elt [⟨tg, iter, ifs, 0⟩] scope pos) (some (.Name y py)) spos.line X.env = pure true) (hi : PI X tg iter (liI X.K F0 wi)) (ok : BlkOk X.N X.env.scope scope own) (hvs : own.map (·.2) = vs) (hto : TgOk X.K g plain is) (hv : ∀ i ∈ is, i ∈ vs)
    (hg : ∀ (s : Shared) (H : Hp) (C : Addr) (cl : List (Str × Addr)) (fp : List Addr), PG (X.blk s H scope (compEnvC scope cl C X.env) fp) tg g)
    (ht : ∀ (s : Shared) (H : Hp) (C : Addr) (cl : List (Str × Addr)) (fp : List Addr), PTs (X.blk s H scope (compEnvC scope cl C X.env) fp) ifs (liT X.K F0 tt))
    (he : ∀ (s : Shared) (H : Hp) (C : Addr) (cl : List (Str × Addr)) (fp : List Addr), PE (X.blk s H scope (compEnvC scope cl C X.env) fp) elt (liE X.K F0 te)) (hs : ∀ x, foldedSetIterable iter X.env x = pure x := by intro _; rfl) :
    PS X (.Assign [.Name y py] (.ListComp elt [⟨tg, iter, ifs, 0⟩] scope pos) spos) (liS X.K F0 (dSet i (dLcG fin wi plain is vs tt te))) := by
  subst hvs
  exact psImp (ps_setLc hc hN hy hyl hsw hi ok hg ht he hs) fun D σ H ⟨F, R, τ, M, D', e0, st, sl, q, k⟩ =>
    li_lc (Q := fun x H1 => gName i x σ H1 D.nx) hf hto hv ⟨F, R, τ, M, _, e0, st, sl, q, fun v H2 F2 d M2 e2 st2 r2 q2 => k.nx _ _ _ _ _ e2 st2 ((sl.ext e2).put r2 i) q2⟩
theorem tsd_nil : PTs X [] (liT X.K F0 dYes) := ⟨fun pins s σ H Q I ⟨F, R, τ, M, Q', e0, st, sl, q, k⟩ => pts_nil.run pins s σ H Q I (k _ _ _ _ Ext.refl st q)⟩
theorem tsd_one {c : Expr} {t : DT} (h : PT X c (liT X.K F0 t)) : PTs X [c] (liT X.K F0 t) := pts_one h
end

/-! ### a def's body keeps its promise -/
def startD (N : List Str) (ds : List D) : SD := ds.map some ++ List.replicate (N.length - ds.length) none
theorem slots_start {K : PySem.W.Frag} {F : Hp} {N : List Str} {vs : List V} {ds : List D} (r : RepAll K F vs ds) : Slots K F (L2.start N vs) (startD N ds) := by
  unfold L2.start startD
  rw [r.len]
  have nn : ∀ n : Nat, Slots K F (List.replicate n none) (List.replicate n none) := fun n => by
    induction n with
    | zero => exact .nil
    | succ n ih => exact .cons True.intro ih
  have go : ∀ {vs : List V} {ds : List D} {σ : L2.St} {τ : SD}, RepAll K F vs ds → Slots K F σ τ → Slots K F (vs.map some ++ σ) (ds.map some ++ τ) := fun {vs ds σ τ} r s => by
    induction vs generalizing ds with
    | nil => cases r; exact s
    | cons v vs ih =>
      cases r with
      | cons h t => exact .cons h (ih t)
  exact go r (nn _)
/-- what is wanted at a def's end: what it made for itself may be forgotten -/
def rtQ (Q : QD) : QD := fun d M' => ∃ M2 : Mp, (∀ a m, M2 a = some m → M' a = some m) ∧ Q d M2
abbrev fnE (Q : QD) : EndsD := ⟨fun _ M' => rtQ Q .non M', rtQ Q, fun _ _ => False, fun _ _ => False⟩
def Rds (t : DS) (N : List Str) (sp : SpD) : Prop := ∀ ds M Q E, sp ds M Q E → t (fnE Q) (startD N ds) M
section
variable {P : Program} {w : World} {K : PySem.W.Frag} {mg : Str → Option Value} {base : Heap}
/-- THE RULE for a def that lets no exception out -/
theorem Fun.okD {x qual : Str} {st : Stmt} {f : Addr} {fd : FuncData} {N ps : List Str} {k : Nat} {sp : SpD} {T : List (Addr × Str)} (F : Fun K x qual st f fd) (S : FnScope N ps (defScope st)) (len : ∀ ds M Q E, sp ds M Q E → ds.length = ps.length) {t : DS}
    (hbody : ∀ (cdv : Value) (A : Around) (outer : List Env) (s : Shared) (H : Hp) (E : XK) (F0 R0 : Hp), Room k (A.deeper (envOfC qual (defScope st) s.heap.objs.size f cdv)) →
      PSs (cxOf CX0 P w K mg base N qual (defScope st) f cdv A outer s H E).nox (defBody st) (liS K ⟨F0, R0, T⟩ t))
    (hq : Rds t N sp) : FnOk P w K mg base CX0 (k + 1) f fd ps (liSp K T sp) := by
  refine F.ok S (fun vs H Q E ⟨F, R, ds, M, Q', E', st, _, ra, h, _, _⟩ => by rw [ra.len]; exact len _ _ _ _ h) fun cdv A outer s H vs Q E hr ⟨F, R, ds, M, Q', E', st, tr, ra, h, kQ, kE⟩ => ?_
  refine ⟨_, hbody cdv A outer s H E F R hr, F, R, startD N ds, M, _, ⟨Ext.refl, Ext.refl, tr⟩, st, slots_start ra, hq ds M Q' E' h, ?_⟩
  refine ⟨fun σ2 H2 F2 τ2 M2 e2 st2 sl2 ⟨M3, h3, q3⟩ => kQ _ _ _ _ _ e2 (st2.less h3) .non q3, fun v H2 F2 d M2 e2 st2 r2 ⟨M3, h3, q3⟩ => kQ _ _ _ _ _ e2 (st2.less h3) r2 q3, fun _ _ _ _ _ _ _ _ z => z, fun _ _ _ _ _ _ _ _ z => z⟩
end
end DL

/-! DL, the rules: constants, methods of lists, the law's entry -/
namespace DL
open PySem PySem.Spec PyProof.Rows L2

/-- a constant of the module -/
structure CnD (K : PySem.W.Frag) (mg : Str → Option Value) (x : Str) (d : D) : Prop where
  ex : ∃ u v, mg x = some u ∧ RelV v u ∧ ∀ F, Rep K F v d
theorem CnD.pd {X : Cx} {F0 : Bs} {x : Str} {d : D} {pos : Pos} (h : CnD X.K X.mg x d) (hg : Gl X x := by rfl) (hd : (x == ("__debug__" : Str)) = false := by decide) : PE X (.Name x pos) (liE X.K F0 (dC d)) := by
  obtain ⟨u, v, h1, h2, h3⟩ := h.ex
  exact pd_glob hg h1 h2 h3 hd
/-- a built-in class as a value -/
theorem pd_ty {X : Cx} {F0 : Bs} {x : Str} {n : String} {pos : Pos} (hg : Gl X x) (hm : X.mg x = none) (hv : bootBuiltins x = some (.type n)) (hn : x ≠ "__name__" := by decide) (hd : (x == ("__debug__" : Str)) = false := by decide) : PE X (.Name x pos) (liE X.K F0 (dC (.ty n))) :=
  pd_bltn hg hm hv (v := .ty n) rfl (fun _ => .ty n) hn hd
/-! ### methods -/
abbrev RM := D → List D → Mp → QD → Prop
def dMt (r : RM) (to : DE) (t : DA) : DE := fun τ M Q => to τ M fun x M1 => t τ M1 fun ds M2 => r x ds M2 Q
def dMt0 (r : RM) (to : DE) : DE := fun τ M Q => to τ M fun x M1 => r x [] M1 Q
/-- x stands for an object that is changed in place -/
def lstRef (x : D) : Prop := match x with
  | .ref _ => True
  | _ => False
def dAppend : RM := fun x ds M Q => match x, ds with
  | .ref a, [d] => match M a with
    | some (.lst xs) => xs.length < sizeLine ∧ Q .non (updM M a (.lst (xs ++ [d])))
    | _ => False
  | _, _ => False
def dPop : RM := fun x ds M Q => match x, ds with
  | .ref a, [] => match M a with
    | some (.lst xs) => match xs[xs.length - 1]? with
      | some y => Q y (updM M a (.lst xs.dropLast))
      | none => False
    | _ => False
  | _, _ => False
/-- the list stands there ahead of the arguments -/
def isLst (M : Mp) : D → Prop
  | .ref a => match M a with
    | some (.lst _) => True
    | _ => False
  | _ => False
def dMtL (r : RM) (to : DE) (t : DA) : DE := fun τ M Q => to τ M fun x M1 => isLst M1 x ∧ t τ M1 fun ds M2 => r x ds M2 Q
theorem lst_there {K : PySem.W.Frag} {F R H : Hp} {M : Mp} {v : V} {d : D} (st : Stt K F R H M) (r : Rep K F v d) (h : isLst M d) : tyV K "list" v H := by
  cases r <;> try exact h.elim
  rename_i a
  have h : (match M a with | some (.lst _) => True | _ => False) := h
  split at h <;> try exact h.elim
  rename_i ys em
  obtain ⟨_, u, hu, ru⟩ := st.ow _ _ em
  obtain ⟨vs, rfl, ra⟩ := ru.lst_iff
  exact .inl ⟨rfl, _, .inl (.inl hu)⟩
section
variable {X : Cx} {F0 : Bs} {o e : Expr} {es : List Expr} {to : DE} {t : DA} {apos cpos : Pos}
theorem RepAll.dropLast {K : PySem.W.Frag} {F : Hp} {xs : List V} {ds : List D} (r : RepAll K F xs ds) : RepAll K F xs.dropLast ds.dropLast := by
  rw [List.dropLast_eq_take, List.dropLast_eq_take, r.len]
  exact r.tk _
theorem mtd_append : MtR X "list.append" (liM X.K F0 dAppend) := by
  refine mtImp (r := rAppend) mt_append fun x xs H Q ⟨F, R, M, d, ds, Q', e0, st, rx, rs, q, k⟩ => ?_
  unfold dAppend at q
  split at q <;> try exact q.elim
  rename_i a d
  split at q <;> try exact q.elim
  rename_i ys em
  obtain ⟨z, rfl, rz⟩ := rep1 rs
  cases rx
  obtain ⟨_, u, hu, ru⟩ := st.ow _ _ em
  obtain ⟨vs, rfl, ra⟩ := ru.lst_iff
  exact ⟨a, vs, z, rfl, rfl, hu, by rw [ra.len]; exact q.1, k _ _ _ _ _ Ext.refl (st.store em (fun _ z => by cases z) (m' := .lst (ys ++ [d])) (ra.app (.cons rz .nil))) .non q.2⟩
theorem mtd_pop : MtR X "list.pop" (liM X.K F0 dPop) := by
  refine mtImp (r := rPop) mt_pop fun x xs H Q ⟨F, R, M, d, ds, Q', e0, st, rx, rs, q, k⟩ => ?_
  unfold dPop at q
  split at q <;> try exact q.elim
  rename_i a
  split at q <;> try exact q.elim
  rename_i ys em
  split at q <;> try exact q.elim
  rename_i y ey
  cases rs
  cases rx
  obtain ⟨_, u, hu, ru⟩ := st.ow _ _ em
  obtain ⟨vs, rfl, ra⟩ := ru.lst_iff
  obtain ⟨z, ez, rz⟩ := ra.getD ey
  exact ⟨a, vs, z, rfl, rfl, hu, by rw [ra.len]; exact ez, k _ _ _ _ _ Ext.refl (st.store em (fun _ z => by cases z) (m' := .lst ys.dropLast) ra.dropLast) rz q⟩
/-- o.append(e) -/
theorem pd_append (ho : PE X o (liE X.K F0 to)) (ha : PA X (e :: es) (liA X.K F0 t)) (hbase : attributeBase o "append" X.env (eval o X.env) = eval o X.env := by rfl)
    (hfew : ((backTo cpos (starEach (e :: es) X.env)).all (fun x => !x.1) && (backToKw cpos (keywordEach [] X.env)).all (fun x => x.1.isSome)
      && decide ((e :: es).length + ([] : List Keyword).length + (if ([] : List Keyword).isEmpty then 0 else 1) < 30)) = true := by rfl)
    (hline : (apos.endLine == cpos.line) = true := by rfl) (hs : starEach (e :: es) X.env = (false, eval e X.env) :: starEach es X.env := by rfl) (hplain : (backTo cpos (starEach es X.env)).any (·.1) = false := by rfl) :
    PE X (.Call (.Attribute o "append" apos) (e :: es) [] cpos) (liE X.K F0 (dMtL dAppend to t)) := by
  refine peImp (pe_bm PySem.F.plainAttrs_list PySem.F.slot_list_append PySem.F.type_list_append (mtd_append (F0 := F0)) ho ha hbase hfew hline hs hplain) fun σ H Q ⟨F, R, τ, M, Q', e0, st, sl, q, k⟩ => ?_
  refine ⟨F, R, τ, M, _, e0, st, sl, q, fun v H1 F1 d M1 e1 st1 r1 ⟨q0, q1⟩ => ⟨?_, ?_⟩⟩
  · exact lst_there st1 r1 q0
  · refine ⟨F1, R, τ, M1, _, e0.trans e1, st1, sl.ext e1, q1, fun vs H2 F2 ds M2 e2 st2 r2 q2 => ?_⟩
    exact ⟨F2, R, M2, d, ds, Q', e0.trans (e1.trans e2), st2, r1.ext e2, r2, q2, k.ext (e1.trans e2)⟩
theorem pd_pop (ho : PE X o (liE X.K F0 to)) (hbase : attributeBase o "pop" X.env (eval o X.env) = eval o X.env := by rfl) (hline : (apos.endLine == cpos.line) = true := by rfl) :
    PE X (.Call (.Attribute o "pop" apos) [] [] cpos) (liE X.K F0 (dMt0 dPop to)) := by
  refine peImp (pe_bm0 PySem.F.plainAttrs_list PySem.F.slot_list_pop PySem.F.type_list_pop (mtd_pop (F0 := F0)) ho hbase hline) fun σ H Q ⟨F, R, τ, M, Q', e0, st, sl, q, k⟩ => ?_
  refine ⟨F, R, τ, M, _, e0, st, sl, q, fun v H1 F1 d M1 e1 st1 r1 q1 => ⟨?_, F1, R, M1, d, [], Q', e0.trans e1, st1, r1, .nil, q1, k.ext e1⟩⟩
  unfold dPop at q1
  split at q1 <;> try exact q1.elim
  split at q1 <;> try exact q1.elim
  rename_i ys em
  cases r1
  obtain ⟨_, u, hu, ru⟩ := st1.ow _ _ em
  obtain ⟨vs, rfl, ra⟩ := ru.lst_iff
  exact .inl ⟨rfl, _, .inl (.inl hu)⟩
end
/-! ### x += e -/
section
variable {X : Cx} {F0 : Bs}
theorem iod_sub : OpD X F0 (inplaceOp .Sub) dSub := od_I0 iop_sub
theorem iod_addI : OpD X F0 (inplaceOp .Add) (dI0 fun i j => i + j) := od_I0 iop_add
theorem iod_mul : OpD X F0 (inplaceOp .Mult) (dI CMul fun i j => i * j) := od_I iop_mul
end
/-! ### the law's own promise -/
def spLawD : SpD := fun ds M Q _ => ∃ ns : List Int, ds = [.lsk (ns.map .int)] ∧ ns.length ≤ 63 ∧ ∀ d M', d = .bl true → Q d M'
theorem mem_lookupA : ∀ {T : List (Addr × Str)} {b : Addr} {q : Str}, T.lookup b = some q → (b, q) ∈ T
  | [], _, _, e => by cases e
  | (a, p) :: T, b, q, e => by
    rw [List.lookup_cons] at e
    by_cases z : b = a
    · subst z
      rw [beq_self_eq_true] at e
      cases e
      exact List.mem_cons_self
    · rw [show (b == a) = false by simpa using z] at e
      exact List.mem_cons_of_mem _ (mem_lookupA e)
theorem law_sp {K : PySem.W.Frag} {T : List (Addr × Str)} {H : Hp} {a : Addr} {ns : List Int} (hL : ∀ p ∈ T, T.lookup p.1 = some p.2) (hT : ∀ p ∈ T, LamX.TabS H p.1 p.2) (hl : ns.length ≤ 63) (hS : SqL K H a (ns.map V.int)) : liSp K T spLawD [.ref a] H (fun v _ => v = .bl true) fun _ _ _ => False := by
  have mem : ∀ {b : Addr} {q : Str}, T.lookup b = some q → (b, q) ∈ T := fun e => mem_lookupA e
  have rs0 : ∀ (F : Hp), (∀ b o, F b = some o → ∃ xs u, o = .lst xs ∨ o = .frz u (.lst xs)) → (∀ b o, F b = some o → H b = some o) → ∀ b o, (fun b => (T.lookup b).map fun q => HO.xd [(q, V.non)]) b = some o → RsOk H b o ∧ F b = none ∧ (fun _ => none : Mp) b = none := fun F hF hFH b o e => by
    have e : (T.lookup b).map (fun q => HO.xd [(q, V.non)]) = some o := e
    cases eq : T.lookup b with
    | none => rw [eq] at e; cases e
    | some q =>
      rw [eq] at e
      obtain rfl : HO.xd [(q, V.non)] = o := Option.some.inj e
      have tb := hT _ (mem eq)
      refine ⟨⟨q, rfl, tb⟩, ?_, rfl⟩
      cases ef : F b with
      | none => rfl
      | some u =>
        obtain ⟨ps, h1, _⟩ := tb
        have h2 := hFH b u ef
        rw [h1] at h2
        cases h2
        obtain ⟨xs, v, z | z⟩ := hF b _ ef <;> cases z
  have nrT : ∀ b o, (fun b => (T.lookup b).map fun q => HO.xd [(q, V.non)]) b = some o → NR o := fun b o e => by
    have e : (T.lookup b).map (fun q => HO.xd [(q, V.non)]) = some o := e
    cases eq : T.lookup b with
    | none => rw [eq] at e; cases e
    | some q =>
      rw [eq] at e
      obtain rfl : HO.xd [(q, V.non)] = o := Option.some.inj e
      trivial
  have key : ∀ (F : Hp), Stt K F (fun b => (T.lookup b).map fun q => HO.xd [(q, V.non)]) H (fun _ => none) → SqL K F a (ns.map V.int) → liSp K T spLawD [.ref a] H (fun v _ => v = .bl true) fun _ _ _ => False := fun F st hF => by
    refine ⟨_, _, [.lsk (ns.map .int)], _, fun d _ => d = .bl true, fun _ _ _ => False, st, fun p hp => ?_, .cons (.lsk (xs := ns.map V.int) hF (RepAll.ofInts ns)) .nil, ⟨ns, rfl, hl, fun d M' e => e⟩, fun v H2 F2 d M2 _ _ r e => ?_, fun _ _ _ _ _ _ _ _ _ z => z⟩
    · show (T.lookup p.1).map _ = _
      rw [hL p hp]; rfl
    · subst e
      cases r
      rfl
  have one : ∀ o : HO, (∃ xs u, o = .lst xs ∨ o = .frz u (.lst xs)) → H a = some o → Stt K (fun b => if b = a then some o else none) (fun b => (T.lookup b).map fun q => HO.xd [(q, V.non)]) H (fun _ => none) := fun o ho ha => by
    have k1 : ∀ b u, (fun b => if b = a then some o else none) b = some u → b = a ∧ u = o := fun b u e => by
      have e : (if b = a then some o else none) = some u := e
      by_cases z : b = a
      · rw [if_pos z] at e; exact ⟨z, (Option.some.inj e).symm⟩
      · rw [if_neg z] at e; cases e
    refine ⟨fun b u e => ?_, rs0 _ (fun b u e => ?_) (fun b u e => ?_), fun b u e => (nomatch e), fun b u e => ?_, nrT⟩
    rotate_left 3
    · obtain ⟨rfl, rfl⟩ := k1 b u e
      obtain ⟨xs, v, z | z⟩ := ho <;> subst z <;> trivial
    · obtain ⟨rfl, rfl⟩ := k1 b u e; exact ha
    · obtain ⟨rfl, rfl⟩ := k1 b u e; exact ho
    · obtain ⟨rfl, rfl⟩ := k1 b u e; exact ha
  rcases hS with (h | ⟨o, h⟩) | h
  · exact key _ (one _ ⟨_, default, .inl rfl⟩ h) (.inl (.inl (if_pos rfl)))
  · exact key _ (one _ ⟨_, o, .inr rfl⟩ h) (.inl (.inr ⟨o, if_pos rfl⟩))
  · exact key (fun _ => none) ⟨fun b u e => (nomatch e), rs0 _ (fun b u e => (nomatch e)) (fun b u e => (nomatch e)), fun b u e => (nomatch e), fun b u e => (nomatch e), nrT⟩ (.inr h)
end DL

/-! DL, steps: a reading is gone through from its head -/
namespace DL
open PySem PySem.Spec PyProof.Rows L2

section
variable {nx bk ct : SD → Mp → Prop} {rt : QD} {t u : DS} {te ta tb tc : DE} {τ : SD} {M : Mp} {Q : QD} {d x y z : D}
/-! statements -/
theorem s_seq (h : t ⟨u ⟨nx, rt, bk, ct⟩, rt, bk, ct⟩ τ M) : dSeq t u ⟨nx, rt, bk, ct⟩ τ M := h
theorem s_next (h : nx τ M) : dNext ⟨nx, rt, bk, ct⟩ τ M := h
theorem s_break (h : bk τ M) : dBreak ⟨nx, rt, bk, ct⟩ τ M := h
theorem s_cont (h : ct τ M) : dCont ⟨nx, rt, bk, ct⟩ τ M := h
def kDrop (nx : SD → Mp → Prop) (τ : SD) : QD := fun _ M1 => nx τ M1
theorem s_drop (h : te τ M (kDrop nx τ)) : dDrop te ⟨nx, rt, bk, ct⟩ τ M := h
theorem s_kdrop (h : nx τ M) : kDrop nx τ d M := h
theorem s_ret (h : te τ M rt) : dRet te ⟨nx, rt, bk, ct⟩ τ M := h
theorem s_retN (h : rt .non M) : dRetN ⟨nx, rt, bk, ct⟩ τ M := h
def kSet (nx : SD → Mp → Prop) (i : Nat) (τ : SD) : QD := fun d M1 => nx (τ.set i (some d)) M1
theorem s_set {i : Nat} (h : te τ M (kSet nx i τ)) : dSet i te ⟨nx, rt, bk, ct⟩ τ M := h
theorem s_kset {i : Nat} {τ2 : SD} (e : τ.set i (some d) = τ2) (h : nx τ2 M) : kSet nx i τ d M := by subst e; exact h
def kUnp (nx : SD → Mp → Prop) (is : List Nat) (τ : SD) : QD := fun d M1 => match d with
  | .tup ds => ds.length = is.length ∧ nx (setAll is ds τ) M1
  | _ => False
theorem s_unp {is : List Nat} (h : te τ M (kUnp nx is τ)) : dUnp is te ⟨nx, rt, bk, ct⟩ τ M := h
theorem s_kunp {is : List Nat} {ds : List D} {τ2 : SD} (e : ds.length = is.length) (e2 : setAll is ds τ = τ2) (h : nx τ2 M) : kUnp nx is τ (.tup ds) M := by subst e2; exact ⟨e, h⟩
def kIf (t u : DS) (D : EndsD) (τ : SD) : Bool → Mp → Prop := fun b M1 => if b = true then t D τ M1 else u D τ M1
variable {c : DT} {E : EndsD} {b : Bool} {p : Prop} {dp : Decidable p}
theorem s_ifS (h : c τ M (kIf t u E τ)) : dIfS c t u E τ M := h
theorem b_dec (h : p → t E τ M) (h2 : ¬ p → u E τ M) : kIf t u E τ (decide p) M := by
  unfold kIf
  by_cases q : p
  · rw [decide_eq_true q, if_pos rfl]; exact h q
  · rw [decide_eq_false q, if_neg Bool.false_ne_true]; exact h2 q
theorem b_ndec (h : ¬ p → t E τ M) (h2 : p → u E τ M) : kIf t u E τ (!decide p) M := by
  unfold kIf
  by_cases q : p
  · rw [decide_eq_true q, Bool.not_true, if_neg Bool.false_ne_true]; exact h2 q
  · rw [decide_eq_false q, Bool.not_false, if_pos rfl]; exact h q
theorem b_true (h : t E τ M) : kIf t u E τ true M := h
theorem b_false (h : u E τ M) : kIf t u E τ false M := by unfold kIf; rw [if_neg Bool.false_ne_true]; exact h
theorem b_not (h : b = false → t E τ M) (h2 : b = true → u E τ M) : kIf t u E τ (!b) M := by
  cases b with
  | true => exact b_false (h2 rfl)
  | false => exact b_true (h rfl)
theorem b_any (h : b = true → t E τ M) (h2 : b = false → u E τ M) : kIf t u E τ b M := by
  cases b with
  | true => exact b_true (h rfl)
  | false => exact b_false (h2 rfl)
/-! tests -/
variable {QB : Bool → Mp → Prop} {tt tu : DT}
def kB (Q : Bool → Mp → Prop) : QD := fun d M1 => match d with
  | .bl k => Q k M1
  | _ => False
theorem s_test (h : te τ M (kB QB)) : dTest te τ M QB := h
theorem s_kb (h : QB b M) : kB QB (.bl b) M := h
def kTru (Q : Bool → Mp → Prop) : QD := fun d M1 => dTru d M1 Q
theorem s_truth (h : te τ M (kTru QB)) : dTruth te τ M QB := h
theorem s_tru_bl (h : QB b M) : kTru QB (.bl b) M := h
theorem s_tru_non (h : QB false M) : kTru QB .non M := h
theorem s_tru_int {i : Int} (h : QB (i != 0) M) : kTru QB (.int i) M := h
theorem s_tru_tup {ds : List D} (h : QB (!ds.isEmpty) M) : kTru QB (.tup ds) M := h
theorem s_tru_lst {ds : List D} (h : QB (!ds.isEmpty) M) : kTru QB (.lst ds) M := h
theorem s_tru_ref {a : Addr} {ds : List D} (e : M a = some (.lst ds)) (h : QB (!ds.isEmpty) M) : kTru QB (.ref a) M := by
  show (match M a with | some (.lst ds) => QB (!ds.isEmpty) M | some (.dK kvs) => QB (!kvs.isEmpty) M | _ => False)
  rw [e]; exact h
def kTAnd (u : DT) (τ : SD) (Q : Bool → Mp → Prop) : Bool → Mp → Prop := fun c M1 => if c = true then u τ M1 Q else Q false M1
def kTOr (u : DT) (τ : SD) (Q : Bool → Mp → Prop) : Bool → Mp → Prop := fun c M1 => if c = true then Q true M1 else u τ M1 Q
def kTNot (Q : Bool → Mp → Prop) : Bool → Mp → Prop := fun c M1 => Q (!c) M1
theorem s_tand (h : tt τ M (kTAnd tu τ QB)) : dTAnd tt tu τ M QB := h
theorem s_tor (h : tt τ M (kTOr tu τ QB)) : dTOr tt tu τ M QB := h
theorem s_tnot (h : tt τ M (kTNot QB)) : dTNot tt τ M QB := h
theorem s_ktnot_t (h : QB false M) : kTNot QB true M := h
theorem s_ktnot_f (h : QB true M) : kTNot QB false M := h
theorem s_ktnot (h : QB (!b) M) : kTNot QB b M := h
theorem s_ktand (h : b = true → tu τ M QB) (h2 : b = false → QB false M) : kTAnd tu τ QB b M := by
  unfold kTAnd
  cases b with
  | true => rw [if_pos rfl]; exact h rfl
  | false => rw [if_neg Bool.false_ne_true]; exact h2 rfl
theorem s_ktor (h : b = true → QB true M) (h2 : b = false → tu τ M QB) : kTOr tu τ QB b M := by
  unfold kTOr
  cases b with
  | true => rw [if_pos rfl]; exact h rfl
  | false => rw [if_neg Bool.false_ne_true]; exact h2 rfl
theorem s_ktand_d (h : p → tu τ M QB) (h2 : ¬ p → QB false M) : kTAnd tu τ QB (decide p) M := s_ktand (fun e => h (of_decide_eq_true e)) fun e => h2 (of_decide_eq_false e)
theorem s_ktor_d (h : p → QB true M) (h2 : ¬ p → tu τ M QB) : kTOr tu τ QB (decide p) M := s_ktor (fun e => h (of_decide_eq_true e)) fun e => h2 (of_decide_eq_false e)
theorem s_ktand_nd (h : ¬ p → tu τ M QB) (h2 : p → QB false M) : kTAnd tu τ QB (!decide p) M := s_ktand (fun e => h (by simpa using e)) fun e => h2 (by simpa using e)
theorem s_ktor_nd (h : ¬ p → QB true M) (h2 : p → tu τ M QB) : kTOr tu τ QB (!decide p) M := s_ktor (fun e => h (by simpa using e)) fun e => h2 (by simpa using e)
theorem s_ktand_t (h : tu τ M QB) : kTAnd tu τ QB true M := h
theorem s_ktand_f (h : QB false M) : kTAnd tu τ QB false M := s_ktand (fun e => by cases e) fun _ => h
theorem s_ktor_t (h : QB true M) : kTOr tu τ QB true M := h
theorem s_ktor_f (h : tu τ M QB) : kTOr tu τ QB false M := s_ktor (fun e => by cases e) fun _ => h
/-! values by truth -/
def kOr (tb : DE) (τ : SD) (Q : QD) (x : D) : Bool → Mp → Prop := fun k M2 => if k = true then Q x M2 else tb τ M2 Q
def kAnd (tb : DE) (τ : SD) (Q : QD) (x : D) : Bool → Mp → Prop := fun k M2 => if k = true then tb τ M2 Q else Q x M2
def kNot (Q : QD) : Bool → Mp → Prop := fun k M2 => Q (.bl (!k)) M2
def kOrV (tb : DE) (τ : SD) (Q : QD) : QD := fun x M1 => kTru (kOr tb τ Q x) x M1
def kAndV (tb : DE) (τ : SD) (Q : QD) : QD := fun x M1 => kTru (kAnd tb τ Q x) x M1
theorem s_or (h : ta τ M (kOrV tb τ Q)) : dOr ta tb τ M Q := h
theorem s_and (h : ta τ M (kAndV tb τ Q)) : dAnd ta tb τ M Q := h
theorem s_not (h : ta τ M (kTru (kNot Q))) : dNot ta τ M Q := h
theorem s_korv (h : kTru (kOr tb τ Q x) x M) : kOrV tb τ Q x M := h
theorem s_kandv (h : kTru (kAnd tb τ Q x) x M) : kAndV tb τ Q x M := h
theorem s_knot_t (h : Q (.bl false) M) : kNot Q true M := h
theorem s_knot_f (h : Q (.bl true) M) : kNot Q false M := h
theorem s_knot (h : Q (.bl (!b)) M) : kNot Q b M := h
theorem s_kor_d (h : p → Q x M) (h2 : ¬ p → tb τ M Q) : kOr tb τ Q x (decide p) M := by
  unfold kOr
  by_cases q : p
  · rw [decide_eq_true q, if_pos rfl]; exact h q
  · rw [decide_eq_false q, if_neg Bool.false_ne_true]; exact h2 q
theorem s_kand_d (h : p → tb τ M Q) (h2 : ¬ p → Q x M) : kAnd tb τ Q x (decide p) M := by
  unfold kAnd
  by_cases q : p
  · rw [decide_eq_true q, if_pos rfl]; exact h q
  · rw [decide_eq_false q, if_neg Bool.false_ne_true]; exact h2 q
theorem s_kor_t (h : Q x M) : kOr tb τ Q x true M := h
theorem s_kor_f (h : tb τ M Q) : kOr tb τ Q x false M := by unfold kOr; rw [if_neg Bool.false_ne_true]; exact h
theorem s_kand_t (h : tb τ M Q) : kAnd tb τ Q x true M := h
theorem s_kand_f (h : Q x M) : kAnd tb τ Q x false M := by unfold kAnd; rw [if_neg Bool.false_ne_true]; exact h
theorem s_kor (h : b = true → Q x M) (h2 : b = false → tb τ M Q) : kOr tb τ Q x b M := by
  cases b with
  | true => exact h rfl
  | false => exact s_kor_f (h2 rfl)
theorem s_kand (h : b = true → tb τ M Q) (h2 : b = false → Q x M) : kAnd tb τ Q x b M := by
  cases b with
  | true => exact h rfl
  | false => exact s_kand_f (h2 rfl)
def kIfE (ta tb : DE) (τ : SD) (Q : QD) : Bool → Mp → Prop := fun c M1 => if c = true then ta τ M1 Q else tb τ M1 Q
theorem s_ifE (h : tt τ M (kIfE ta tb τ Q)) : dIf tt ta tb τ M Q := h
theorem s_kifE_d (h : p → ta τ M Q) (h2 : ¬ p → tb τ M Q) : kIfE ta tb τ Q (decide p) M := by
  unfold kIfE
  by_cases q : p
  · rw [decide_eq_true q, if_pos rfl]; exact h q
  · rw [decide_eq_false q, if_neg Bool.false_ne_true]; exact h2 q
theorem s_kifE (h : b = true → ta τ M Q) (h2 : b = false → tb τ M Q) : kIfE ta tb τ Q b M := by
  unfold kIfE
  cases b with
  | true => rw [if_pos rfl]; exact h rfl
  | false => rw [if_neg Bool.false_ne_true]; exact h2 rfl
/-! expressions -/
theorem s_var {i : Nat} (e : τ[i]? = some (some d)) (h : Q d M) : dVar i τ M Q := by unfold dVar; rw [e]; exact h
theorem s_c (h : Q d M) : dC d τ M Q := h
def kOp2 (r : R2D) (Q : QD) (x : D) : QD := fun y M2 => r x y M2 Q
def kOp1 (r : R2D) (tb : DE) (τ : SD) (Q : QD) : QD := fun x M1 => tb τ M1 (kOp2 r Q x)
theorem s_op {r : R2D} (h : ta τ M (kOp1 r tb τ Q)) : dOp r ta tb τ M Q := h
theorem s_kop1 {r : R2D} (h : tb τ M (kOp2 r Q x)) : kOp1 r tb τ Q x M := h
theorem s_kop2 {r : R2D} (h : r x y M Q) : kOp2 r Q x y M := h
def kUn (r : D → Mp → QD → Prop) (Q : QD) : QD := fun x M1 => r x M1 Q
theorem s_un {r : D → Mp → QD → Prop} (h : ta τ M (kUn r Q)) : dUn r ta τ M Q := h
theorem s_kun {r : D → Mp → QD → Prop} (h : r x M Q) : kUn r Q x M := h
def kCh3 (r' : R2D) (y : D) (Q : QD) : QD := fun w M4 => r' y w M4 Q
def kCh2 (r' : R2D) (tc : DE) (τ : SD) (Q : QD) (y : D) : QD := fun z M3 => match z with
  | .bl true => tc τ M3 fun w M4 => r' y w M4 Q
  | .bl false => Q (.bl false) M3
  | _ => False
def kCh1 (r r' : R2D) (tc : DE) (τ : SD) (Q : QD) (x : D) : QD := fun y M2 => r x y M2 (kCh2 r' tc τ Q y)
def kCh0 (r r' : R2D) (tb tc : DE) (τ : SD) (Q : QD) : QD := fun x M1 => tb τ M1 (kCh1 r r' tc τ Q x)
theorem s_chain {r r' : R2D} (h : ta τ M (kCh0 r r' tb tc τ Q)) : dChain r r' ta tb tc τ M Q := h
theorem s_kch0 {r r' : R2D} (h : tb τ M (kCh1 r r' tc τ Q x)) : kCh0 r r' tb tc τ Q x M := h
theorem s_kch1 {r r' : R2D} (h : r x y M (kCh2 r' tc τ Q y)) : kCh1 r r' tc τ Q x y M := h
theorem s_kch2 {r' : R2D} (h : p → tc τ M (kCh3 r' y Q)) (h2 : ¬ p → Q (.bl false) M) : kCh2 r' tc τ Q y (.bl (decide p)) M := by
  by_cases q : p
  · rw [decide_eq_true q]; exact h q
  · rw [decide_eq_false q]; exact h2 q
theorem s_kch3 {r' : R2D} (h : r' y z M Q) : kCh3 r' y Q z M := h
variable {QL : List D → Mp → Prop} {al : DA} {ds : List D}
theorem s_nil (h : QL [] M) : dNil τ M QL := h
def kCons2 (QL : List D → Mp → Prop) (x : D) : List D → Mp → Prop := fun xs M2 => QL (x :: xs) M2
def kCons1 (al : DA) (τ : SD) (QL : List D → Mp → Prop) : QD := fun x M1 => al τ M1 (kCons2 QL x)
theorem s_cons (h : ta τ M (kCons1 al τ QL)) : dCons ta al τ M QL := h
theorem s_kcons1 (h : al τ M (kCons2 QL x)) : kCons1 al τ QL x M := h
theorem s_kcons2 (h : QL (x :: ds) M) : kCons2 QL x ds M := h
def kTup (Q : QD) : List D → Mp → Prop := fun xs M1 => xs.length ≤ sizeLine ∧ Q (.tup xs) M1
def kLst (Q : QD) : List D → Mp → Prop := fun xs M1 => xs.length ≤ sizeLine ∧ Q (.lst xs) M1
def kLstM (Q : QD) : List D → Mp → Prop := fun xs M1 => xs.length ≤ sizeLine ∧ ∀ p, M1 p = none → Q (.ref p) (updM M1 p (.lst xs))
theorem s_tup (h : al τ M (kTup Q)) : dTup al τ M Q := h
theorem s_lst (h : al τ M (kLst Q)) : dLst al τ M Q := h
theorem s_lstM (h : al τ M (kLstM Q)) : dLstM al τ M Q := h
theorem s_ktup (e : ds.length ≤ sizeLine) (h : Q (.tup ds) M) : kTup Q ds M := ⟨e, h⟩
theorem s_klst (e : ds.length ≤ sizeLine) (h : Q (.lst ds) M) : kLst Q ds M := ⟨e, h⟩
theorem s_klstM (e : ds.length ≤ sizeLine) (h : ∀ p, M p = none → Q (.ref p) (updM M p (.lst ds))) : kLstM Q ds M := ⟨e, h⟩
def kCB (r : RC) (Q : QD) : List D → Mp → Prop := fun ds M1 => r ds M1 Q
theorem s_cb {r : RC} (h : al τ M (kCB r Q)) : dCB r al τ M Q := h
theorem s_kcb {r : RC} (h : r ds M Q) : kCB r Q ds M := h
def kCall (sp : SpD) (X : XD) (Q : QD) : List D → Mp → Prop := fun ds M1 => sp ds M1 Q X
theorem s_call {sp : SpD} {X : XD} (h : al τ M (kCall sp X Q)) : dCall sp X al τ M Q := h
theorem s_kcall {sp : SpD} {X : XD} (h : sp ds M Q X) : kCall sp X Q ds M := h
/-! operators -/
variable {i j : Int} {g : Int → Int → Int} {gb : Int → Int → Bool} {C : Int → Int → Prop}
theorem s_I (hc : C i j) (h : Q (.int (g i j)) M) : dI C g (.int i) (.int j) M Q := ⟨hc, h⟩
theorem s_I0 (h : Q (.int (g i j)) M) : dI0 g (.int i) (.int j) M Q := h
theorem s_B0 (h : Q (.bl (gb i j)) M) : dB0 gb (.int i) (.int j) M Q := h
theorem s_neg (h : Q (.int (-i)) M) : dNeg (.int i) M Q := h
theorem s_add (h : Q (.int (i + j)) M) : dAdd (.int i) (.int j) M Q := h
theorem s_addT {xs ys : List D} (e : xs.length + ys.length ≤ sizeLine) (h : Q (.tup (xs ++ ys)) M) : dAdd (.tup xs) (.tup ys) M Q := ⟨e, h⟩
theorem s_addL {xs ys : List D} (e : xs.length + ys.length ≤ sizeLine) (h : Q (.lst (xs ++ ys)) M) : dAdd (.lst xs) (.lst ys) M Q := ⟨e, h⟩
theorem s_mul (hc : CMulA i j) (h : Q (.int (i * j)) M) : dMul (.int i) (.int j) M Q := ⟨hc, h⟩
theorem s_mulT {xs : List D} {k : Int} (e : xs ≠ []) (e1 : 2 ≤ k) (e2 : xs.length * k.toNat ≤ 1000000) (h : Q (.tup (List.replicate k.toNat xs).flatten) M) : dMul (.tup xs) (.int k) M Q := ⟨e, e1, e2, h⟩
theorem s_eqS {b : Bool} (e : scalD x y = some b) (h : Q (.bl b) M) : dEq x y M Q := by unfold dEq; rw [e]; exact h
theorem s_neS {b : Bool} (e : scalD x y = some b) (h : Q (.bl (!b)) M) : dNe x y M Q := by unfold dNe; rw [e]; exact h
theorem s_isN (h : Q (.bl x.isN) M) : dIsN x .non M Q := h
theorem s_notN (h : Q (.bl (!x.isN)) M) : dNotN x .non M Q := h
theorem s_ix {ds : List D} (e : sqOf M x = some ds) (e2 : atI ds i = some d) (h : Q d M) : dIx x (.int i) M Q := by
  cases x with
  | str z => cases e
  | _ => unfold dIx; simp only [e, e2]; exact h
theorem s_len {ds : List D} (e : sqOf M x = some ds) (h : Q (.int ds.length) M) : dLen [x] M Q := by
  cases x with
  | str z => cases e
  | _ => unfold dLen; simp only [e]; exact h
theorem s_int (h : Q (.int i) M) : dInt [.int i] M Q := h
theorem s_intB (h : Q (.int (if b then 1 else 0)) M) : dInt [.bl b] M Q := h
theorem s_tuple {ds : List D} (e : sqOf M x = some ds) (h : Q (.tup ds) M) : dTuple [x] M Q := by unfold dTuple; simp only [e]; exact h
theorem s_list {ds : List D} (e : sqOf M x = some ds) (h : Q (.lst ds) M) : dList [x] M Q := by unfold dList; simp only [e]; exact h
theorem s_listM {ds : List D} (e : sqOf M x = some ds) (h : ∀ p, M p = none → Q (.ref p) (updM M p (.lst ds))) : dListM [x] M Q := by unfold dListM; simp only [e]; exact h
theorem s_isi {a n : String} {b : Bool} (e : (["bool", "int", "str", "tuple", "list", "dict"] : List String).contains n = true) (e2 : tyName M x = some a) (e3 : isiN a n = b) (h : Q (.bl b) M) : dIsi [x, .ty n] M Q := ⟨e, by simp only [e2, e3]; exact h⟩
theorem s_all {bs : List Bool} {ds : List D} (e : lsOf M x = some ds) (e2 : blsOf ds = some bs) (h : Q (.bl (bs.all id)) M) : dAll [x] M Q := by unfold dAll; simp only [e, e2]; exact h
theorem s_any {bs : List Bool} {ds : List D} (e : lsOf M x = some ds) (e2 : blsOf ds = some bs) (h : Q (.bl (bs.any id)) M) : dAny [x] M Q := by unfold dAny; simp only [e, e2]; exact h
theorem s_sum {ns : List Int} {ds : List D} (e : lsOf M x = some ds) (e2 : intsOf ds = some ns) (h : Q (.int ns.sum) M) : dSum [x] M Q := by unfold dSum; simp only [e, e2]; exact h
theorem s_max2 (h : Q (.int (if j > i then j else i)) M) : dMax [.int i, .int j] M Q := h
theorem s_min2 (h : Q (.int (if j < i then j else i)) M) : dMin [.int i, .int j] M Q := h
theorem s_in {neg : Bool} {ds : List D} (e : sqOf M y = some ds) (e1 : x.flat = true) (e2 : ds.all D.flat = true) (h : Q (.bl (if neg then !(ds.any fun e => eqD e x) else ds.any fun e => eqD e x)) M) : dIn neg x y M Q := by unfold dIn; simp only [e]; exact ⟨e1, e2, h⟩
/-! subscripts, slices -/
variable {tl th : DO} {QO : Option Int → Mp → Prop} {lo hi : Option Int}
theorem s_nopart (h : QO none M) : dNoPart τ M QO := h
def kPart (QO : Option Int → Mp → Prop) : QD := fun d M1 => match d with
  | .int i => QO (some i) M1
  | _ => False
theorem s_part (h : te τ M (kPart QO)) : dPart te τ M QO := h
theorem s_kpart (h : QO (some i) M) : kPart QO (.int i) M := h
def kSl2 (x : D) (lo : Option Int) (Q : QD) : Option Int → Mp → Prop := fun u M3 => dSlr x lo u M3 Q
def kSl1 (x : D) (th : DO) (τ : SD) (Q : QD) : Option Int → Mp → Prop := fun l M2 => th τ M2 (kSl2 x l Q)
def kSl0 (tl th : DO) (τ : SD) (Q : QD) : QD := fun x M1 => tl τ M1 (kSl1 x th τ Q)
theorem s_sl (h : te τ M (kSl0 tl th τ Q)) : dSl te tl th τ M Q := h
theorem s_ksl0 (h : tl τ M (kSl1 x th τ Q)) : kSl0 tl th τ Q x M := h
theorem s_ksl1 (h : th τ M (kSl2 x lo Q)) : kSl1 x th τ Q lo M := h
theorem s_ksl2T {ds : List D} (h : Q (.tup (cutD ds lo hi)) M) : kSl2 (.tup ds) lo Q hi M := h
theorem s_ksl2L {ds : List D} (h : Q (.lst (cutD ds lo hi)) M) : kSl2 (.lst ds) lo Q hi M := h
theorem s_ksl2K {ds : List D} (h : Q (.lst (cutD ds lo hi)) M) : kSl2 (.lsk ds) lo Q hi M := h
/-! stores -/
variable {to ti : DE} {rs : RSet}
def kSt3 (rs : RSet) (nx : SD → Mp → Prop) (τ : SD) (v o : D) : QD := fun i M3 => rs o i v M3 fun M4 => nx τ M4
def kSt2 (rs : RSet) (nx : SD → Mp → Prop) (τ : SD) (ti : DE) (v : D) : QD := fun o M2 => ti τ M2 (kSt3 rs nx τ v o)
def kSt1 (rs : RSet) (nx : SD → Mp → Prop) (τ : SD) (to ti : DE) : QD := fun v M1 => to τ M1 (kSt2 rs nx τ ti v)
theorem s_store (h : te τ M (kSt1 rs nx τ to ti)) : dStore te to ti rs ⟨nx, rt, bk, ct⟩ τ M := h
theorem s_kst1 (h : to τ M (kSt2 rs nx τ ti x)) : kSt1 rs nx τ to ti x M := h
theorem s_kst2 (h : ti τ M (kSt3 rs nx τ x y)) : kSt2 rs nx τ ti x y M := h
theorem s_kst3 {a : Addr} {xs : List D} {jn : Nat} {v : D} {M2 : Mp} (e : M a = some (.lst xs)) (e2 : ixN xs.length i = some jn) (e3 : updM M a (.lst (xs.set jn v)) = M2) (h : nx τ M2) : kSt3 dSetL nx τ v (.ref a) (.int i) M := by
  subst e3
  show dSetL (.ref a) (.int i) v M fun M4 => nx τ M4
  unfold dSetL; simp only [e, e2]; exact h
def kAug (nx : SD → Mp → Prop) (i : Nat) (τ : SD) : QD := fun z M2 => nx (τ.set i (some z)) M2
theorem s_aug {r : R2D} {i : Nat} (e : τ[i]? = some (some x)) (h : te τ M (kOp2 r (kSet nx i τ) x)) : dAug i te r ⟨nx, rt, bk, ct⟩ τ M := by unfold dAug; rw [e]; exact h
/-! methods -/
variable {rm : RM}
def kMt (rm : RM) (x : D) (Q : QD) : List D → Mp → Prop := fun ds M2 => rm x ds M2 Q
def kMtL (rm : RM) (al : DA) (τ : SD) (Q : QD) : QD := fun x M1 => isLst M1 x ∧ al τ M1 (kMt rm x Q)
theorem s_mtL (h : to τ M (kMtL rm al τ Q)) : dMtL rm to al τ M Q := h
theorem s_kmtL (e : isLst M x) (h : al τ M (kMt rm x Q)) : kMtL rm al τ Q x M := ⟨e, h⟩
theorem s_kmt (h : rm x ds M Q) : kMt rm x Q ds M := h
theorem s_append {a : Addr} {xs : List D} (e : M a = some (.lst xs)) (e2 : xs.length < sizeLine) (h : Q .non (updM M a (.lst (xs ++ [d])))) : dAppend (.ref a) [d] M Q := by unfold dAppend; simp only [e]; exact ⟨e2, h⟩
def kMt0 (rm : RM) (Q : QD) : QD := fun x M1 => rm x [] M1 Q
theorem s_mt0 (h : to τ M (kMt0 rm Q)) : dMt0 rm to τ M Q := h
theorem s_kmt0 (h : rm x [] M Q) : kMt0 rm Q x M := h
/-! what is walked -/
variable {QI : ItD → Mp → Prop}
def kSeq (QI : ItD → Mp → Prop) : QD := fun d M1 => match sqOf M1 d with
  | some ds => QI (itSeq d ds) M1
  | none => False
theorem s_seqI (h : te τ M (kSeq QI)) : iSeqD te τ M QI := h
theorem s_kseq {ds : List D} (e : sqOf M x = some ds) (h : QI (itSeq x ds) M) : kSeq QI x M := by unfold kSeq; simp only [e]; exact h
def kR1 (QI : ItD → Mp → Prop) : List D → Mp → Prop := fun ds M1 => match ds with
  | [.int j] => -(2 ^ 62) ≤ j ∧ j < 2 ^ 62 ∧ QI (itRng 0 j.toNat) M1
  | _ => False
theorem s_rng1 (h : al τ M (kR1 QI)) : iRng1D al τ M QI := h
theorem s_kr1 (e : -(2 ^ 62) ≤ j) (e2 : j < 2 ^ 62) (h : QI (itRng 0 j.toNat) M) : kR1 QI [.int j] M := ⟨e, e2, h⟩
def kR2 (QI : ItD → Mp → Prop) : List D → Mp → Prop := fun ds M1 => match ds with
  | [.int i, .int j] => (-(2 ^ 62) ≤ i ∧ i < 2 ^ 62 ∧ -(2 ^ 62) ≤ j ∧ j < 2 ^ 62) ∧ QI (itRng i (j - i).toNat) M1
  | _ => False
theorem s_rng2 (h : al τ M (kR2 QI)) : iRng2D al τ M QI := h
theorem s_kr2 (e : -(2 ^ 62) ≤ i ∧ i < 2 ^ 62 ∧ -(2 ^ 62) ≤ j ∧ j < 2 ^ 62) (h : QI (itRng i (j - i).toNat) M) : kR2 QI [.int i, .int j] M := ⟨e, h⟩
/-- for -/
def kFor (g : D → SD → Mp → (SD → Mp → Prop) → Prop) (tb : DS) (D : EndsD) (τ : SD) : ItD → Mp → Prop := fun j M1 => ∃ Pv : Nat → SD → Mp → Prop, Pv 0 τ M1 ∧ (∀ i τ M, i ≤ j.n → Pv i τ M → j.ok M) ∧
  (∀ i τ M, i < j.n → Pv i τ M → g (j.at' i) τ M fun τ2 M2 => tb { D with nx := Pv (i + 1), ct := Pv (i + 1), bk := D.nx } τ2 M2) ∧ ∀ τ M, Pv j.n τ M → D.nx τ M
theorem s_for {wi : DTI} {g : D → SD → Mp → (SD → Mp → Prop) → Prop} {tb : DS} (h : wi τ M (kFor g tb E τ)) : dFor wi g tb E τ M := h
/-- over data that nobody changes -/
theorem s_kforT {tb : DS} {is : List Nat} {plain : Bool} {ds : List D} {x : D} (Pv : Nat → SD → Mp → Prop) (hx : ∀ M, sqOf M x = some ds) (h0 : Pv 0 τ M)
    (hs : ∀ i d τ M, ds[i]? = some d → Pv i τ M → gD plain is d τ M fun τ2 M2 => tb ⟨Pv (i + 1), rt, nx, Pv (i + 1)⟩ τ2 M2) (hd : ∀ τ M, Pv ds.length τ M → nx τ M) : kFor (gD plain is) tb ⟨nx, rt, bk, ct⟩ τ (itSeq x ds) M :=
  ⟨Pv, h0, fun _ _ M _ _ => hx M, fun i τ M hi p => by
    have hi : i < ds.length := hi
    have e := List.getElem?_eq_getElem hi
    show gD plain is (ds.getD i .non) τ M _
    rw [getD_of e]
    exact hs i _ τ M e p, hd⟩
theorem s_kforR {tb : DS} {i0 : Nat} {lo : Int} {n : Nat} (Pv : Nat → SD → Mp → Prop) (h0 : Pv 0 τ M)
    (hs : ∀ i τ M, i < n → Pv i τ M → tb ⟨Pv (i + 1), rt, nx, Pv (i + 1)⟩ (τ.set i0 (some (.int (lo + i)))) M) (hd : ∀ τ M, Pv n τ M → nx τ M) : kFor (gD true [i0]) tb ⟨nx, rt, bk, ct⟩ τ (itRng lo n) M :=
  ⟨Pv, h0, fun _ _ M _ _ => trivial, fun i τ M hi p => hs i τ M hi p, hd⟩
theorem s_gname {i0 : Nat} {QS : SD → Mp → Prop} (h : QS (τ.set i0 (some d)) M) : gD true [i0] d τ M QS := h
theorem s_gtup {is : List Nat} {ds : List D} {QS : SD → Mp → Prop} (e : ds.length = is.length) (h : QS (setAll is ds τ) M) : gD false is (.tup ds) τ M QS := by
  show (match (if ds.length = is.length then some (setAll is ds τ) else none) with | some τ2 => QS τ2 M | none => False)
  rw [if_pos e]; exact h
/-! comprehensions -/
def kLc (fin : List D → Mp → QD → Prop) (plain : Bool) (is vs : List Nat) (tt : DT) (te : DE) (τ : SD) (Q : QD) : ItD → Mp → Prop := fun j M1 => ∃ Pv : Nat → List D → Mp → Prop, Pv 0 [] M1 ∧ (∀ i acc M, i ≤ j.n → Pv i acc M → j.ok M) ∧
  (∀ i acc M, i < j.n → Pv i acc M → match bindD plain is (j.at' i) (wipeD τ vs) with
    | some τ2 => tt τ2 M fun b M3 => if b = true then te τ2 M3 fun e M4 => acc.length < sizeLine ∧ Pv (i + 1) (acc ++ [e]) M4 else Pv (i + 1) acc M3
    | none => False) ∧ ∀ acc M, Pv j.n acc M → fin acc M Q
theorem s_lc {fin : List D → Mp → QD → Prop} {wi : DTI} {plain : Bool} {is vs : List Nat} (h : wi τ M (kLc fin plain is vs tt te τ Q)) : dLcG fin wi plain is vs tt te τ M Q := h
/-- over data that nobody changes, each item gives one, and M stays -/
theorem s_klcMap {plain : Bool} {is vs : List Nat} {fin : List D → Mp → QD → Prop} {α : Type} {xs : List α} (enc : α → D) (f : α → D) (hx : ∀ M, sqOf M x = some (xs.map enc)) (hl : xs.length ≤ sizeLine)
    (hs : ∀ a ∈ xs, ∃ τ2, bindD plain is (enc a) (wipeD τ vs) = some τ2 ∧ ∀ Q : QD, Q (f a) M → te τ2 M Q) (hd : fin (xs.map f) M Q) : kLc fin plain is vs dYes te τ Q (itSeq x (xs.map enc)) M := by
  refine ⟨fun i acc M' => M' = M ∧ acc = (xs.map f).take i, ⟨rfl, rfl⟩, fun i acc M' hi p => hx M', fun i acc M' hi p => ?_, fun acc M' p => ?_⟩
  · obtain ⟨rfl, rfl⟩ := p
    have hi : i < (xs.map enc).length := hi
    rw [List.length_map] at hi
    have e := List.getElem?_eq_getElem hi
    obtain ⟨τ2, e2, k⟩ := hs xs[i] (List.getElem_mem hi)
    have e3 : (itSeq x (xs.map enc)).at' i = enc xs[i] := getD_of (by rw [List.getElem?_map, e]; rfl)
    rw [e3, e2]
    refine k _ ⟨?_, rfl, ?_⟩
    · rw [List.length_take, List.length_map]; omega
    · rw [List.take_succ, List.getElem?_map, e]; rfl
  · obtain ⟨rfl, rfl⟩ := p
    have e : (xs.map f).take (itSeq x (xs.map enc)).n = xs.map f := List.take_of_length_le (by show _ ≤ (xs.map enc).length; rw [List.length_map, List.length_map]; exact Nat.le_refl _)
    rw [e]
    exact hd
end
/-- over data that nobody changes -/
theorem s_klcD {plain : Bool} {is vs : List Nat} {fin : List D → Mp → QD → Prop} {te : DE} {τ : SD} {M : Mp} {Q : QD} {x : D} {ds : List D} (f : D → D) (hx : ∀ M, sqOf M x = some ds) (hl : ds.length ≤ sizeLine)
    (hs : ∀ d ∈ ds, ∃ τ2, bindD plain is d (wipeD τ vs) = some τ2 ∧ ∀ Q : QD, Q (f d) M → te τ2 M Q) (hd : fin (ds.map f) M Q) : kLc fin plain is vs dYes te τ Q (itSeq x ds) M := by
  have h := s_klcMap (x := x) (fin := fin) (Q := Q) (plain := plain) (is := is) (vs := vs) (τ := τ) (M := M) (te := te) (xs := ds) (fun d => d) f (by simpa using hx) hl hs hd
  simpa using h
theorem blsOf_fun {α : Type} (g : α → Bool) : ∀ xs : List α, blsOf (xs.map fun a => D.bl (g a)) = some (xs.map g)
  | [] => rfl
  | x :: xs => by
    show (blsOf (xs.map fun a => D.bl (g a))).map (g x :: ·) = _
    rw [blsOf_fun g xs]; rfl
/-- each turn draws one -/
theorem s_klcDraw {α : Type} {fin : List D → Mp → QD → Prop} {te : DE} {τ : SD} {M : Mp} {Q : QD} {i0 : Nat} {vs : List Nat} {lo : Int} {n : Nat} (enc : α → D) (P : α → Prop) (Inv : Mp → Prop) (hn : n ≤ sizeLine) (h0 : Inv M)
    (hs : ∀ i M1 Q, i < n → Inv M1 → (∀ x M2, P x → Inv M2 → Q (enc x) M2) → te ((wipeD τ vs).set i0 (some (.int (lo + (i : Nat))))) M1 Q)
    (hd : ∀ l : List α, l.length = n → (∀ x ∈ l, P x) → ∀ M2, Inv M2 → fin (l.map enc) M2 Q) : kLc fin true [i0] vs dYes te τ Q (itRng lo n) M := by
  refine ⟨fun i acc M' => ∃ l : List α, acc = l.map enc ∧ l.length = i ∧ (∀ x ∈ l, P x) ∧ Inv M', ⟨[], rfl, rfl, by simp, h0⟩, fun _ _ _ _ _ => trivial, fun i acc M' hi p => ?_, fun acc M' p => ?_⟩
  · obtain ⟨l, rfl, hl, hp, hv⟩ := p
    have hi : i < n := hi
    refine hs i M' _ hi hv fun x M2 hx h2 => ⟨?_, l ++ [x], ?_, ?_, ?_, h2⟩
    · rw [List.length_map]; omega
    · rw [List.map_append]; rfl
    · rw [List.length_append, hl]; rfl
    · intro y hy
      rcases List.mem_append.mp hy with hy | hy
      · exact hp y hy
      · rw [List.mem_singleton.mp hy]; exact hx
  · obtain ⟨l, rfl, hl, hp, hv⟩ := p
    exact hd l hl hp M' hv
theorem s_end {Q : QD} {d : D} {M : Mp} (h : Q d M) : rtQ Q d M := ⟨M, fun _ _ z => z, h⟩
theorem s_endL {Q : QD} {d : D} {M M2 : Mp} (e : ∀ a m, M2 a = some m → M a = some m) (h : Q d M2) : rtQ Q d M := ⟨M2, e, h⟩
theorem sqOf_ref {M : Mp} {a : Addr} {ds : List D} (h : M a = some (.lst ds)) : sqOf M (.ref a) = some ds := by
  show (match M a with | some (.lst ds) => some ds | _ => none) = some ds
  rw [h]
theorem lsOf_ref {M : Mp} {a : Addr} {ds : List D} (h : M a = some (.lst ds)) : lsOf M (.ref a) = some ds := by
  show (match M a with | some (.lst ds) => some ds | _ => none) = some ds
  rw [h]
theorem isLst_ref {M : Mp} {a : Addr} {ds : List D} (h : M a = some (.lst ds)) : isLst M (.ref a) := by
  show (match M a with | some (.lst _) => True | _ => False)
  rw [h]; trivial
theorem atI_ofNat {α : Type} (xs : List α) (k : Nat) : atI xs (OfNat.ofNat k : Int) = xs[k]? := by
  show atI xs (k : Int) = xs[k]?
  unfold atI ixN
  rw [if_pos (by omega)]
  by_cases h : k < xs.length
  · rw [if_pos (by omega)]; rfl
  · rw [if_neg (by omega), List.getElem?_eq_none (by omega)]; rfl
theorem atI_toNat {α : Type} {xs : List α} {i : Int} (h : 0 ≤ i) : atI xs i = xs[i.toNat]? := by
  have := atI_ofNat xs i.toNat
  rw [show (OfNat.ofNat i.toNat : Int) = i from Int.toNat_of_nonneg h] at this
  exact this
end DL

namespace L2
open PySem PySem.Spec PyProof.Rows
/-! ranges of any size -/
theorem turn_long {P : Program} {w : World} {K : PySem.W.Frag} {tg : Expr} (it : Addr) (lo : Int) (n : Nat) : Turn P w K tg (Itr lo n) [it] it (fun i h => IsLongIter h it (lo + (i : Nat) * 1) ((n : Int) - (i : Nat)) 1) where
  mem := by simp
  obj := fun i h st b hb => by
    obtain rfl : b = it := by simpa using hb
    exact ⟨_, st, fun v z => by
      have z' : Data.fields _ = Data.cell v := z
      cases z'⟩
  keep := fun i h h' st k => k it (by simp) _ st
  item := fun X hP hw hK hc i pins s σ H E I hf st hg => by
    subst hP hw hK
    obtain ⟨f0, f1, f2, f3, f4, f5⟩ := hf it (by simp)
    refine (Walks.longrange (prog := X.prog) (w := X.w) (I.ok.hd hc) it lo 1 n).item i s _ _ hg st fun v h' tk hv st' kk => ?_
    obtain ⟨t, rfl⟩ := hv
    refine ⟨_, rfl, go_of (s := { s with heap := h', toks := tk }) (n := "longrange_iterator") st' rfl rfl (by decide) ⟨.int (lo + i), H, I.turned (fun b o hb e => kk b o (by simpa using hb) e) f0 f1 f3 f4 f5, ⟨t, ?_⟩, ⟨rfl, rfl⟩, st', fun b hb => (hf b hb).1⟩⟩
    rw [Int.mul_one]
  done := fun X hP hw hK hc i pins s σ H E I hf st hg => by
    subst hP hw hK
    obtain ⟨f0, f1, f2, f3, f4, f5⟩ := hf it (by simp)
    refine wpAny_pyNext_long_end (I.ok.hd hc) st (by have h9 : n ≤ i := hg; omega) fun h' eb => ?_
    exact ⟨rfl, I.turned (t' := s.toks) (fun b o hb e => eb b o hb e) f0 f1 f3 f4 f5⟩
  self := fun _ _ _ _ _ st h => wpAny_pyIter_longiter st h
section
variable {X : Cx} {tg : Expr}
theorem range_any {pins : List (Addr × Obj)} {σ : St} {H : Hp} {s : Shared} {R : It → Hp → Prop} {E : Value → Shared → Prop} {lo hi : Int} {t u v : Tok} {tk : Nat} (I : Inv X pins σ H s)
    (q : R (Itr lo (hi - lo).toNat) H) : wpAny (model X.prog X.w) X.A (pyIter (.ref s.heap.objs.size)) (PIE X pins σ tg R) E { s with heap := s.heap.push { cls := .type "range", data := .fields #[.int lo t, .int hi u, .int 1 v] }, toks := tk } := by
  have e1 : lo + ((0 : Nat) : Int) * 1 = lo := by simp
  have e2 : (((hi - lo).toNat : Nat) : Int) - ((0 : Nat) : Int) = Builtin.Range.rangeSize lo hi 1 := by rw [rangeSize_one]; split <;> omega
  have I1 : Inv X pins σ H { s with heap := s.heap.push { cls := .type "range", data := .fields #[.int lo t, .int hi u, .int 1 v] }, toks := tk } := I.kept fun b o e => Heap.get?_push_of_some _ e
  cases hb : Builtin.Range.small lo hi 1 with
  | true =>
    refine wpAny_pyIter_range (IsRange.new ..) hb ?_
    refine ⟨_, [(s.heap.push { cls := .type "range", data := .fields #[.int lo t, .int hi u, .int 1 v] }).objs.size], _, _, H, rfl, I1.kept (t' := tk) fun b o e => Heap.get?_push_of_some _ e, turn_range _ lo (hi - lo).toNat, ?_, fun b hb => ?_, q⟩
    · show IsRangeIter _ _ (lo + ((0 : Nat) : Int) * 1) ((((hi - lo).toNat : Nat) : Int) - ((0 : Nat) : Int)) 1
      rw [e1, e2]
      exact Heap.get?_push_size _ rfl
    · obtain rfl : b = (s.heap.push { cls := .type "range", data := .fields #[.int lo t, .int hi u, .int 1 v] }).objs.size := by simpa using hb
      exact I1.fpOk (Nat.le_refl _) (I1.hok.fresh (Nat.le_refl _))
  | false =>
    refine wpAny_pyIter_longrange (IsRange.new ..) hb ?_
    refine ⟨_, [(s.heap.push { cls := .type "range", data := .fields #[.int lo t, .int hi u, .int 1 v] }).objs.size], _, _, H, rfl, I1.kept (t' := tk) fun b o e => Heap.get?_push_of_some _ e, turn_long _ lo (hi - lo).toNat, ?_, fun b hb => ?_, q⟩
    · show IsLongIter _ _ (lo + ((0 : Nat) : Int) * 1) ((((hi - lo).toNat : Nat) : Int) - ((0 : Nat) : Int)) 1
      rw [e1, e2]
      exact Heap.get?_push_size _ rfl
    · obtain rfl : b = (s.heap.push { cls := .type "range", data := .fields #[.int lo t, .int hi u, .int 1 v] }).objs.size := by simpa using hb
      exact I1.fpOk (Nat.le_refl _) (I1.hok.fresh (Nat.le_refl _))
def iRngAny (ta : TA) : TI := fun σ H R => ta σ H fun vs H1 => ∃ i j : Int, vs = [.int i, .int j] ∧ R (Itr i (j - i).toNat) H1
theorem pi_rangeAny {a b : Expr} {ta : TA} {p pos : Pos} (hg : Gl X "range") (hm : X.mg "range" = none) (ha : PA X [a, b] ta) (hs : starEach [a, b] X.env = [(false, eval a X.env), (false, eval b X.env)] := by rfl) (hs2 : starEach [b] X.env = [(false, eval b X.env)] := by rfl) :
    PI X tg (.Call (.Name "range" p) [a, b] [] pos) (iRngAny ta) := by
  refine ⟨fun pins s σ H R I h => Call_ (ld_blt I hg hm boot_range (PyProof.Rows.callWith_type1 (thn (ha.run pos pins s σ H _ I h) fun us s1 ⟨vs, H1, I1, r1, i, j, e, q⟩ => ?_) (by rw [hs, hs2]) (by rw [hs2]; rfl)))⟩
  subst e
  obtain - | ⟨⟨t, rfl⟩, rr⟩ := r1
  obtain - | ⟨⟨t', rfl⟩, rr⟩ := rr
  obtain - | _ := rr
  exact call_range_2 (range_any I1 q)
end
end L2
namespace DL
open PySem PySem.Spec PyProof.Rows L2
def iRngAD (ta : DA) : DTI := fun τ M Q => ta τ M fun ds M1 => match ds with
  | [.int i, .int j] => Q (itRng i (j - i).toNat) M1
  | _ => False
section
variable {X : Cx} {F0 : Bs} {tg : Expr}
theorem id_rngA {a b : Expr} {ta : DA} {p pos : Pos} (hg : Gl X "range") (hm : X.mg "range" = none) (ha : PA X [a, b] (liA X.K F0 ta)) (hs : starEach [a, b] X.env = [(false, eval a X.env), (false, eval b X.env)] := by rfl) (hs2 : starEach [b] X.env = [(false, eval b X.env)] := by rfl) :
    PI X tg (.Call (.Name "range" p) [a, b] [] pos) (liI X.K F0 (iRngAD ta)) := by
  refine piImp (pi_rangeAny hg hm ha hs hs2) fun σ H Q ⟨F, R, τ, M, Q', e0, st, sl, q, k⟩ => ?_
  refine ⟨F, R, τ, M, _, e0, st, sl, q, fun v H1 F1 ds M1 e1 st1 r1 q1 => ?_⟩
  split at q1 <;> try exact q1.elim
  obtain ⟨x, y, rfl, r, r'⟩ := rep2 r1
  cases r; cases r'
  exact ⟨_, _, rfl, k _ _ _ _ _ e1 st1 rel_rng q1⟩
end
section
variable {τ : SD} {M : Mp} {QI : ItD → Mp → Prop} {al : DA} {i j : Int}
def kRA (QI : ItD → Mp → Prop) : List D → Mp → Prop := fun ds M1 => match ds with
  | [.int i, .int j] => QI (itRng i (j - i).toNat) M1
  | _ => False
theorem s_rngA (h : al τ M (kRA QI)) : iRngAD al τ M QI := h
theorem s_kra (h : QI (itRng i (j - i).toNat) M) : kRA QI [.int i, .int j] M := h
end
/-! while -/
def kWh (W : Nat → SD → Mp → Prop) (m : Nat) (tb : DS) (nx : SD → Mp → Prop) (rt : QD) (τ : SD) : Bool → Mp → Prop := fun b M1 => if b = true then tb ⟨fun τ2 M2 => ∃ m', m' < m ∧ W m' τ2 M2, rt, nx, fun τ2 M2 => ∃ m', m' < m ∧ W m' τ2 M2⟩ τ M1 else nx τ M1
section
variable {nx bk ct : SD → Mp → Prop} {rt : QD} {tb : DS} {tc : DT} {τ : SD} {M : Mp} {W : Nat → SD → Mp → Prop} {m : Nat} {p : Prop} [Decidable p] {b : Bool}
theorem s_while (W : Nat → SD → Mp → Prop) (m0 : Nat) (h0 : W m0 τ M) (hs : ∀ m τ M, W m τ M → tc τ M (kWh W m tb nx rt τ)) : dWhile tc tb ⟨nx, rt, bk, ct⟩ τ M := ⟨W, ⟨m0, h0⟩, fun m τ M w => hs m τ M w⟩
theorem s_wh_t (h : tb ⟨fun τ2 M2 => ∃ m', m' < m ∧ W m' τ2 M2, rt, nx, fun τ2 M2 => ∃ m', m' < m ∧ W m' τ2 M2⟩ τ M) : kWh W m tb nx rt τ true M := h
theorem s_wh_f (h : nx τ M) : kWh W m tb nx rt τ false M := by unfold kWh; rw [if_neg Bool.false_ne_true]; exact h
theorem s_wh_d (h : p → tb ⟨fun τ2 M2 => ∃ m', m' < m ∧ W m' τ2 M2, rt, nx, fun τ2 M2 => ∃ m', m' < m ∧ W m' τ2 M2⟩ τ M) (h2 : ¬ p → nx τ M) : kWh W m tb nx rt τ (decide p) M := by
  by_cases e : p
  · rw [decide_eq_true e]; exact s_wh_t (h e)
  · rw [decide_eq_false e]; exact s_wh_f (h2 e)
theorem s_wh_nd (h : ¬ p → tb ⟨fun τ2 M2 => ∃ m', m' < m ∧ W m' τ2 M2, rt, nx, fun τ2 M2 => ∃ m', m' < m ∧ W m' τ2 M2⟩ τ M) (h2 : p → nx τ M) : kWh W m tb nx rt τ (!decide p) M := by
  by_cases e : p
  · rw [decide_eq_true e]; exact s_wh_f (h2 e)
  · rw [decide_eq_false e]; exact s_wh_t (h e)
end
/-- over a range, each turn gives one, and M stays -/
theorem s_klcRng {fin : List D → Mp → QD → Prop} {te : DE} {τ : SD} {M : Mp} {Q : QD} {i0 : Nat} {vs : List Nat} {lo : Int} {n : Nat} (f : Nat → D) (hn : n ≤ sizeLine)
    (hs : ∀ i (Q : QD), i < n → Q (f i) M → te ((wipeD τ vs).set i0 (some (.int (lo + (i : Nat))))) M Q) (hd : fin ((List.range n).map f) M Q) : kLc fin true [i0] vs dYes te τ Q (itRng lo n) M := by
  refine ⟨fun i acc M' => M' = M ∧ acc = (List.range i).map f, ⟨rfl, rfl⟩, fun _ _ _ _ _ => trivial, fun i acc M' hi p => ?_, fun acc M' p => ?_⟩
  · obtain ⟨rfl, rfl⟩ := p
    have hi : i < n := hi
    refine hs i _ hi ⟨?_, rfl, ?_⟩
    · rw [List.length_map, List.length_range]; omega
    · rw [List.range_succ, List.map_append]; rfl
  · obtain ⟨rfl, rfl⟩ := p
    exact hd
/-! a tuple of names, by the places alone -/
def gOf : List Nat → TGs
  | [] => gNil
  | i :: is => gCons (gName i) (gOf is)
theorem gOf_run {K : PySem.W.Frag} {F H : Hp} : ∀ (is : List Nat) {xs : List V} {ds : List D} {σ : L2.St} {τ : SD} {Q : L2.St → Hp → Prop}, Slots K F σ τ → RepAll K F xs ds → ds.length = is.length →
    (∀ σ2, Slots K F σ2 (setAll is ds τ) → (∃ xs : List V, is.length = xs.length ∧ σ2 = (is.zip xs).foldl (fun s p => s.set p.1 (some p.2)) σ) → Q σ2 H) → gOf is xs σ H Q
  | [], xs, ds, σ, τ, Q, sl, ra, hl, q => by
    cases ra with
    | nil => exact ⟨rfl, q σ sl ⟨[], rfl, rfl⟩⟩
    | cons _ _ => cases hl
  | i :: is, xs, ds, σ, τ, Q, sl, ra, hl, q => by
    cases ra with
    | nil => cases hl
    | cons r ra =>
      refine ⟨_, _, rfl, gOf_run is (sl.put r i) ra (Nat.succ.inj hl) fun σ2 s2 ⟨ys, h1, h2⟩ => ?_⟩
      exact q σ2 s2 ⟨_ :: ys, congrArg (· + 1) h1, h2⟩
theorem tg_of {K : PySem.W.Frag} (is : List Nat) : TgOk K (gTup K is.length (gOf is)) false is := by
  constructor
  intro F R H M v d σ τ τ2 Q st sl r e q
  cases d with
  | tup ds =>
    have e : (if ds.length = is.length then some (setAll is ds τ) else none) = some τ2 := e
    by_cases hl : ds.length = is.length
    · rw [if_pos hl] at e
      cases e
      obtain ⟨a, xs, rfl, hs, ra⟩ := tp_get st r
      exact ⟨a, xs, rfl, hs, ra.len.trans hl, gOf_run is sl ra hl q⟩
    · rw [if_neg hl] at e; cases e
  | _ => exact nomatch (show (none : Option SD) = some τ2 from e)
end DL

namespace L2
open PySem PySem.Spec PyProof.Rows
theorem tuple_mul1 (l : Addr) (items : Array Value) (n : Nat) (dd : Option Addr) (sl : Array (Option Value)) (u : Tok) :
    Meets (Builtin.«tuple.__mul__» ⟨[.ref l, .int 1 u], []⟩) (fun _ R s => s.heap.get? l = some { cls := .type "tuple", dict := dd, data := .seq items n, slots := sl } ∧ R (.ok (.ret (Value.ref l))) s) :=
  .of_wp fun prog w A R s h => by
    obtain ⟨hp, g, d, tk, os⟩ := s
    obtain ⟨hl, h⟩ := h
    have f1 := AutoSeq1.idx_int
    wp_walk using wpAny_loadPart' hl
    exact ⟨_, rfl, h⟩
theorem tuple_mul0 (l : Addr) (items : Array Value) (n : Nat) (dd : Option Addr) (sl : Array (Option Value)) (x : Int) (u : Tok) (c0 : (decide (x < -(2 ^ 63)) || decide (x ≥ 2 ^ 63)) = false) (c1 : (items.isEmpty || x == 1) = false) (c2 : (decide (x ≤ 0) || items.isEmpty) = true) :
    Meets (Builtin.«tuple.__mul__» ⟨[.ref l, .int x u], []⟩) (fun _ R s => s.heap.get? l = some { cls := .type "tuple", dict := dd, data := .seq items n, slots := sl } ∧
      R (.ok (.ret (Value.ref s.heap.objs.size))) { s with heap := s.heap.push { cls := Value.type "tuple", data := Data.seq #[] }, toks := s.toks }) :=
  .of_wp fun prog w A R s h => by
    obtain ⟨hp, g, d, tk, os⟩ := s
    obtain ⟨hl, h⟩ := h
    have f1 := AutoSeq1.idx_int
    wp_walk using wpAny_loadPart' hl
    repeat (first
      | (refine wpAny_ite_false (decide_eq_false (by rw [c0]; exact Bool.false_ne_true)) ?_; wp_walk using wpAny_loadPart' hl)
      | (refine wpAny_ite_false (decide_eq_false (by rw [c1]; exact Bool.false_ne_true)) ?_; wp_walk using wpAny_loadPart' hl)
      | (refine wpAny_ite_true (decide_eq_true c2) ?_; wp_walk using wpAny_loadPart' hl))
    exact ⟨_, rfl, h⟩
/-- a tuple, any number of times -/
theorem op_repAny {X : Cx} : OpR X (binaryOp .Mult) (fun x y H Q => ∃ l k xs, x = .ref l ∧ y = .int k ∧ SqT X.K H l xs ∧ xs ≠ [] ∧ -(2 ^ 62) ≤ k ∧ xs.length * k.toNat ≤ 1000000 ∧ (k = 1 → Q (.ref l) H) ∧
    (k ≠ 1 → ∀ p, H p = none → Q (.ref p) (upd H p (.tup (List.replicate k.toNat xs).flatten)))) := by
  rintro pins s σ H x y v u Q I rx ry ⟨l, k, xs, rfl, rfl, hT, hne, hk, hz, q1, q2⟩
  by_cases k2 : 2 ≤ k
  · exact DL.op_repN pins s σ H _ _ v u Q I rx ry ⟨l, k, xs, rfl, rfl, hT, hne, k2, hz, q2 (by omega)⟩
  cases rx
  obtain ⟨t, rfl⟩ := ry
  obtain ⟨its, r, ⟨⟨cls, dd, data, sl⟩, ho, hc, n, hd⟩, hs⟩ := I.tuple hT
  simp only at hc hd
  subst hc hd
  have hle : its.length = xs.length := r.length.symm
  have hn : its ≠ [] := fun e => hne (List.eq_nil_of_length_eq_zero (by rw [← hle, e]; rfl))
  have hi : its.toArray.isEmpty = false := by
    cases its with
    | nil => exact absurd rfl hn
    | cons a b => rfl
  by_cases k1 : k = 1
  · subst k1
    refine wpAny_binaryOp_repeat_ref (T := "tuple") (U := "int") (by decide) ⟨_, ho, rfl⟩ (fun s' => typeIs_int s' 1 t) noFill_tuple_mul F.fills_int_mul F.slot_int_rmul repeat_tuple F.slot_int_index.lookup
      (call_meets F.slot_int_rmul (typeIs_int s 1 t) F.entry_int_rmul (F.args_int_rmul_2 _ _) (int_rmul_tuple 1 t l its.toArray n dd sl)
        ⟨ho, rfl, ⟨_, ho, rfl⟩, call_meets F.slot_tuple_mul ⟨_, ho, rfl⟩ F.entry_tuple_mul (F.args_tuple_mul_2 _ _) (tuple_mul1 l its.toArray n dd sl t) ⟨ho, ?_⟩⟩)
    exact ⟨.ref l, H, I, rfl, q1 rfl⟩
  · refine wpAny_binaryOp_repeat_ref (T := "tuple") (U := "int") (by decide) ⟨_, ho, rfl⟩ (fun s' => typeIs_int s' k t) noFill_tuple_mul F.fills_int_mul F.slot_int_rmul repeat_tuple F.slot_int_index.lookup
      (call_meets F.slot_int_rmul (typeIs_int s k t) F.entry_int_rmul (F.args_int_rmul_2 _ _) (int_rmul_tuple k t l its.toArray n dd sl)
        ⟨ho, rfl, ⟨_, ho, rfl⟩, call_meets F.slot_tuple_mul ⟨_, ho, rfl⟩ F.entry_tuple_mul (F.args_tuple_mul_2 _ _)
          (tuple_mul0 l its.toArray n dd sl k t (by rw [decide_eq_false (by omega), decide_eq_false (by omega)] <;> rfl) (by rw [hi, Bool.false_or]; exact beq_eq_false_iff_ne.mpr (by omega)) (by rw [decide_eq_true (by omega)]; rfl)) ⟨ho, ?_⟩⟩)
    have e0 : (List.replicate k.toNat xs).flatten = [] := by rw [show k.toNat = 0 by omega]; rfl
    have q2 := q2 k1
    rw [e0] at q2
    refine ⟨.ref s.heap.objs.size, _, I.laid (t' := s.toks) (o := .tup []) (fun b ob q => Heap.get?_push_of_some _ q) (Nat.le_refl _) ?_, rfl, q2 _ (I.hok.fresh (Nat.le_refl _))⟩
    exact ⟨Nat.zero_le _, [], .nil, IsTup.new _ _⟩
/-- // of any sign -/
def CDivG (_ j : Int) : Prop := j ≠ 0 ∧ j.natAbs.log2 < 9000
theorem op_fdivG {X : Cx} : OpR X (binaryOp .FloorDiv) (rI CDivG fun i j => .int (i.fdiv j)) := opI fun _ _ _ _ _ _ _ hc q => floordiv_int hc.1 q (.inl (PyProof.noPylong_of_log2 hc.2))
end L2
namespace DL
open PySem PySem.Spec PyProof.Rows L2
abbrev dFdivG : R2D := dI CDivG fun i j => i.fdiv j
def dMulA : R2D := fun x y M Q => match x, y with
  | .tup xs, .int k => xs ≠ [] ∧ -(2 ^ 62) ≤ k ∧ xs.length * k.toNat ≤ 1000000 ∧ Q (.tup (List.replicate k.toNat xs).flatten) M
  | _, _ => False
section
variable {X : Cx} {F0 : Bs}
theorem od_fdivG : OpD X F0 (binaryOp .FloorDiv) dFdivG := od_I op_fdivG
theorem od_mulA : OpD X F0 (binaryOp .Mult) dMulA := by
  intro pins s σ H x y v u Q I rx ry ⟨F, R, M, d, e, Q', e0, st, rd, re, q, k⟩
  unfold dMulA at q
  split at q
  · obtain ⟨a, vs, rfl, h1, ra⟩ := tp_get st rd
    rename_i ds j
    have rd2 := rd
    cases re
    refine op_repAny pins s σ H _ _ v u Q I rx ry ⟨a, _, vs, rfl, rfl, h1, fun z => q.1 ?_, q.2.1, by rw [ra.len]; exact q.2.2.1, fun e1 => ?_, fun e1 p hp => k.tup st hp (ra.reps _) q.2.2.2⟩
    · subst z; cases ra; rfl
    · have q4 := q.2.2.2
      subst e1
      rw [show (List.replicate (1 : Int).toNat ds).flatten = ds by show (ds ++ []) = ds; simp] at q4
      exact k _ _ _ _ _ Ext.refl st rd2 q4
  · exact q.elim
end
theorem s_mulA {xs : List D} {k : Int} {M : Mp} {Q : QD} (e : xs ≠ []) (e1 : -(2 ^ 62) ≤ k) (e2 : xs.length * k.toNat ≤ 1000000) (h : Q (.tup (List.replicate k.toNat xs).flatten) M) : dMulA (.tup xs) (.int k) M Q := ⟨e, e1, e2, h⟩
end DL

namespace L2
open PySem PySem.Spec PyProof.Rows
/-- sum of a list of bools -/
theorem sum_bools {prog : Program} {w : World} {A : Around} {E : Value → Shared → Prop} {s : Shared} {l : Addr} {items : Array Value} {bs : List Bool} {Q : Value → Shared → Prop} (hh : A.handled = none) (hl : s.heap.IsList l items) (hi : items.toList = bs.map Value.bool)
    (h : ∀ h' tk t', (∀ b o, s.heap.get? b = some o → h'.get? b = some o) → Q (.int ((bs.countP id : Nat) : Int) t') { s with heap := h', toks := tk }) : wpAny (model prog w) A (call (.builtin "sum") [.ref l]) Q E s := by
  have hlt : l < s.heap.objs.size := by obtain ⟨_, e, _⟩ := hl; exact Heap.lt_size e
  have sz : items.size = bs.length := by rw [← Array.length_toList, hi, List.length_map]
  refine call_sum_walkAnyB (wpAny_pyIter_list hl ?_)
  refine ⟨_, _, _, _, _, _, _, fun i => if bs.getD i false = true then 1 else 0, rfl, (Walks.list (A := A.in1) hh _ l (Nat.ne_of_lt hlt) items).toS, ⟨⟨_, Heap.get?_push_size _ rfl, rfl, rfl⟩, hl.push _⟩, fun b hb => ?_, fun i v hv => ?_, fun s' t' hm => ?_⟩
  · show b < (s.heap.push _).objs.size
    rw [show (s.heap.push { cls := .type "list_iterator", data := .fields #[.ref l, .int 0 0] }).objs.size = s.heap.objs.size + 1 from Array.size_push ..]
    rcases List.mem_cons.mp hb with rfl | hb
    · exact Nat.lt_succ_self _
    · rw [List.mem_singleton.mp hb]; exact Nat.lt_succ_of_lt hlt
  · have hv2 : items.toList[i]? = some v := by simpa using hv
    rw [hi, List.getElem?_map] at hv2
    cases e : bs[i]? with
    | none => rw [e] at hv2; cases hv2
    | some b =>
      rw [e] at hv2
      cases hv2
      refine .inr ⟨b, rfl, ?_⟩
      show (if bs.getD i false = true then (1 : Int) else 0) = _
      rw [List.getD_eq_getElem?_getD, e]; rfl
  · have e0 : ∀ n, n ≤ bs.length → preSum (fun i => if bs.getD i false = true then 1 else 0) n = (((bs.take n).countP id : Nat) : Int) := by
      intro n
      induction n with
      | zero => intro _; rfl
      | succ n ih =>
        intro hn
        have hx : bs[n]? = some bs[n] := List.getElem?_eq_getElem hn
        rw [preSum, ih (by omega), List.take_succ, hx, List.countP_append, List.getD_eq_getElem?_getD, hx]
        cases bs[n] <;> simp
    have e1 := e0 items.size (by omega)
    rw [sz, List.take_length] at e1
    rw [sz, e1]
    obtain ⟨hp, g, d, tk, os⟩ := s'
    obtain ⟨m1, m2, m3, m4, m5⟩ := hm
    have m2 : g = s.gens := m2
    have m3 : d = s.drawn := m3
    have m4 : os = s.os := m4
    subst m2 m3 m4
    refine h hp tk t' fun b o e => m1 b o ?_ (Heap.get?_push_of_some _ e)
    simp only [List.mem_singleton]
    intro z
    subst z
    exact Nat.lt_irrefl _ (Heap.lt_size e)
theorem cr_sumB {X : Cx} (hc : X.calm = true) : CallR X (.builtin "sum") (fun vs H Q => ∃ (a : Addr) (bs : List Bool), vs = [V.ref a] ∧ SqL X.K H a (bs.map V.bl) ∧ Q (.int ((bs.countP id : Nat) : Int)) H) := by
  intro pins s σ H vs us Q I r h
  obtain ⟨a, bs, rfl, hs, q⟩ := h
  obtain ⟨its, rv, hl, _⟩ := I.list hs
  rw [Vals.ref1 r]
  have hv : ∀ (bs : List Bool) (us : List Value), Vals (bs.map V.bl) us → us = bs.map Value.bool := by
    intro bs
    induction bs with
    | nil => intro us r; cases r; rfl
    | cons b bs ih =>
      intro us r
      cases r with
      | cons r t => cases r; rw [ih _ t]; rfl
  exact sum_bools (I.ok.hd hc) hl.isList (by simpa using hv bs its rv) fun h' tk t' hk => ⟨.int _, H, I.kept hk, ⟨_, rfl⟩, q⟩
end L2
namespace DL
open PySem PySem.Spec PyProof.Rows L2
/-- sum of a list of bools -/
def dSumB : RC := fun ds M Q => match ds with
  | [d] => match lsOf M d with
    | some xs => match blsOf xs with
      | some bs => Q (.int ((bs.countP id : Nat) : Int)) M
      | none => False
    | none => False
  | _ => False
def dGcd : RC := fun ds M Q => match ds with
  | [.int a, .int b] => Q (.int ((Nat.gcd a.natAbs b.natAbs : Nat) : Int)) M
  | _ => False
section
variable {X : Cx} {F0 : Bs} {x : Str} {p pos : Pos} {e : Expr} {es : List Expr} {t : DA} {r : RC} {id : String}
theorem pd_callBf (hc : CallR X (.builtin id) (liC X.K F0 r)) (hg : Gl X x) (hm : X.mg x = some (.builtin id)) (ha : PA X (e :: es) (liA X.K F0 t)) (hdb : (x == ("__debug__" : Str)) = false := by decide)
    (he : starEach (e :: es) X.env = (false, eval e X.env) :: starEach es X.env := by rfl) (hpl : (backTo pos (starEach es X.env)).any (·.1) = false := by rfl) : PE X (.Call (.Name x p) (e :: es) [] pos) (liE X.K F0 (dCB r t)) :=
  peImp (pe_callBfun hc hg hm ha hdb he hpl) fun _ _ _ => li_cb
theorem cd_gcd : CallR X (.builtin "math.gcd") (liC X.K F0 dGcd) := by
  refine caImp cr_gcd fun xs H Q ⟨F, R, M, ds, Q', e0, st, rs, q, k⟩ => ?_
  unfold dGcd at q
  split at q <;> try exact q.elim
  obtain ⟨x, y, rfl, r, r'⟩ := rep2 rs
  cases r; cases r'
  exact ⟨_, _, rfl, k _ _ _ _ _ Ext.refl st (.int _) q⟩
theorem cd_sumB (hc : X.calm = true) : CallR X (.builtin "sum") (liC X.K F0 dSumB) := by
  refine caImp (cr_sumB hc) fun xs H Q ⟨F, R, M, ds, Q', e0, st, rs, q, k⟩ => ?_
  unfold dSumB at q
  split at q <;> try exact q.elim
  obtain ⟨x, rfl, r⟩ := rep1 rs
  split at q <;> try exact q.elim
  rename_i ys h1
  split at q <;> try exact q.elim
  rename_i bs h2
  obtain ⟨a, vs, rfl, hs, ra⟩ := ls_get st r h1
  rw [bls_eq h2] at ra
  have ev := ra.bls
  subst ev
  exact ⟨a, bs, rfl, hs, k _ _ _ _ _ Ext.refl st (.int _) q⟩
end
theorem s_sumB {bs : List Bool} {x : D} {M : Mp} {Q : QD} {ds : List D} (e : lsOf M x = some ds) (e2 : blsOf ds = some bs) (h : Q (.int ((bs.countP id : Nat) : Int)) M) : dSumB [x] M Q := by unfold dSumB; simp only [e, e2]; exact h
theorem s_gcd {a b : Int} {M : Mp} {Q : QD} (h : Q (.int ((Nat.gcd a.natAbs b.natAbs : Nat) : Int)) M) : dGcd [.int a, .int b] M Q := h
/-! two names at once -/
def dPar (i j : Nat) (al : DA) : DS := fun D τ M => al τ M fun ds M1 => match ds with
  | [a, b] => D.nx ((τ.set i (some a)).set j (some b)) M1
  | _ => False
section
variable {X : Cx} {F0 : Bs}
theorem sd_par {i j : Nat} {x y : Str} {a b : Expr} {ta : DA} {px py pt pos : Pos} {kt k2 pt2} (hc : X.calm = true) (hN : X.N.Nodup) (hi : X.N[i]? = some x) (hj : X.N[j]? = some y) (hij : i ≠ j)
    (hx : X.env.scope.names.lookup x = some .local) (hy : X.env.scope.names.lookup y = some .local) (ha : PA X [a, b] (liA X.K F0 ta))
    (hw : swappedStores [.Tuple [.Name x px, .Name y py] kt pt] (.Tuple [a, b] k2 pt2) X.env = pure (some [x, y]))
    (hs : swapsWithSole [.Tuple [.Name x px, .Name y py] kt pt] (.Tuple [a, b] k2 pt2) pos.line X.env = pure false := by rfl) :
    PS X (.Assign [.Tuple [.Name x px, .Name y py] kt pt] (.Tuple [a, b] k2 pt2) pos) (liS X.K F0 (dPar i j ta)) := by
  refine psImp (ps_par hc hN hi hj hij hx hy ha hw hs) fun D σ H ⟨F, R, τ, M, D', e0, st, sl, q, k⟩ => ?_
  refine ⟨F, R, τ, M, _, e0, st, sl, q, fun vs H1 F1 ds M1 e1 st1 r1 q1 => ?_⟩
  split at q1 <;> try exact q1.elim
  obtain ⟨v, w, rfl, r, r'⟩ := rep2 r1
  exact ⟨_, _, rfl, k.nx _ _ _ _ _ e1 st1 (((sl.ext e1).put r i).put r' j) q1⟩
end
def kPar (nx : SD → Mp → Prop) (i j : Nat) (τ : SD) : List D → Mp → Prop := fun ds M1 => match ds with
  | [a, b] => nx ((τ.set i (some a)).set j (some b)) M1
  | _ => False
theorem s_par {nx bk ct : SD → Mp → Prop} {rt : QD} {τ : SD} {M : Mp} {i j : Nat} {al : DA} (h : al τ M (kPar nx i j τ)) : dPar i j al ⟨nx, rt, bk, ct⟩ τ M := h
theorem s_kpar {nx : SD → Mp → Prop} {τ τ2 : SD} {M : Mp} {i j : Nat} {a b : D} (e : (τ.set i (some a)).set j (some b) = τ2) (h : nx τ2 M) : kPar nx i j τ [a, b] M := by subst e; exact h
end DL

namespace DL
open PySem PySem.Spec PyProof.Rows L2
/-! math.lcm -/
theorem cr_lcm {X : Cx} : CallR X (.builtin "math.lcm") (fun vs H Q => ∃ a b : Nat, vs = [.int a, .int b] ∧ a < 2 ^ 30 ∧ b < 2 ^ 30 ∧ Q (.int ((Nat.lcm a b : Nat) : Int)) H) := by
  intro pins s σ H vs us Q I r h
  obtain ⟨a, b, rfl, ha, hb, q⟩ := h
  obtain ⟨t, u, rfl⟩ := Vals.int2 r
  have e0 : Nat.lcm (Nat.lcm 1 (a : Int).natAbs) (b : Int).natAbs = Nat.lcm a b := by rw [Int.natAbs_natCast, Int.natAbs_natCast, Nat.lcm_one_left]
  have lb : Nat.lcm a b < 2 ^ 60 := by
    have := Nat.lcm_le_mul (m := a) (n := b)
    by_cases h0 : a = 0
    · subst h0; rw [Nat.lcm_zero_left]; decide
    by_cases h1 : b = 0
    · subst h1; rw [Nat.lcm_zero_right]; decide
    have l1 := Nat.le_of_dvd (Nat.mul_pos (by omega) (by omega)) (Nat.lcm_dvd_mul a b)
    have l2 : a * b < 2 ^ 30 * 2 ^ 30 := Nat.mul_lt_mul'' ha hb
    have e : (2 : Nat) ^ 30 * 2 ^ 30 = 2 ^ 60 := by decide
    omega
  refine PySem.W.mg_lcm (by omega) (by omega) ?_ ?_
  · rw [e0, Int.natAbs_natCast]
    exact Nat.lt_of_lt_of_le (PySem.Flt.log2_lt_of (k := 60) (by decide) lb) (by decide)
  · rw [e0]
    exact ⟨.int _, H, I.tok _, ⟨_, rfl⟩, q⟩
def dLcm : RC := fun ds M Q => match ds with
  | [.int a, .int b] => 0 ≤ a ∧ a < 2 ^ 30 ∧ 0 ≤ b ∧ b < 2 ^ 30 ∧ Q (.int ((Nat.lcm a.toNat b.toNat : Nat) : Int)) M
  | _ => False
theorem cd_lcm {X : Cx} {F0 : Bs} : CallR X (.builtin "math.lcm") (liC X.K F0 dLcm) := by
  refine caImp cr_lcm fun xs H Q ⟨F, R, M, ds, Q', e0, st, rs, q, k⟩ => ?_
  unfold dLcm at q
  split at q <;> try exact q.elim
  obtain ⟨x, y, rfl, r, r'⟩ := rep2 rs
  cases r; cases r'
  rename_i a b _
  refine ⟨a.toNat, b.toNat, ?_, by omega, by omega, k _ _ _ _ _ Ext.refl st (.int _) q.2.2.2.2⟩
  rw [Int.toNat_of_nonneg q.1, Int.toNat_of_nonneg q.2.2.1]
theorem s_lcm {a b : Nat} {M : Mp} {Q : QD} (ha : a < 2 ^ 30) (hb : b < 2 ^ 30) (h : Q (.int ((Nat.lcm a b : Nat) : Int)) M) : dLcm [.int a, .int b] M Q := by
  refine ⟨by omega, by omega, by omega, by omega, ?_⟩
  rw [Int.toNat_natCast, Int.toNat_natCast]
  exact h
end DL

/-! DL: lambdas with parameters, handed to a def, called there by a name -/
namespace DL
open PySem PySem.Spec PyProof.Rows L2 LamX NdefX

/-! ### objects known exactly -/
def PinO (a : Addr) (o : Obj) : HO := .ext fun h => h.get? a = some o
theorem pinO_at {P : Program} {w : World} {H : Hp} {h : Heap} {a : Addr} {o : Obj} (hok : HOk P w H h) (e : H a = some (PinO a o)) : h.get? a = some o := (hok a _ e).1
theorem pinO_ok {P : Program} {w : World} {H : Hp} {h : Heap} {a : Addr} {o : Obj} (e : h.get? a = some o) : ObjOk P w H h a (PinO a o) := ⟨e, ⟨o, e⟩, fun h1 h2 e1 st => st _ e1⟩
theorem pinO_inj {a : Addr} {o o' : Obj} {P : Program} {w : World} {H : Hp} {h : Heap} (hok : HOk P w H h) (e : H a = some (PinO a o)) (e2 : h.get? a = some o') : o = o' := by
  have := pinO_at hok e
  rw [e2] at this
  exact (Option.some.inj this).symm
/-! ### the making -/
section
variable {X : Cx} {pins : List (Addr × Obj)} {σ : L2.St} {H : Hp} {s : Shared}
theorem inv_pin {o : Obj} {t' : Nat} (I : Inv X pins σ H s) (hz : o.isFreed = false := by rfl) : Inv X pins σ (upd H s.heap.objs.size (PinO s.heap.objs.size o)) { s with heap := s.heap.push o, toks := t' } :=
  I.laid (a := s.heap.objs.size) (fun b u e => Heap.get?_push_of_some _ e) (Nat.le_refl _) (pinO_ok (Heap.get?_push_size _ hz))
/-- the lambda is made: its code object is new, or found in the table; the function object is known from then on -/
theorem lam_make3 {q : Str} {c P : Addr} {params : Arguments} {body : Expr} {scope : Scope} {pos : Pos} {E : Value → Shared → Prop} {Q : Value → Shared → Prop} (I : Inv X pins σ H s) (TB : TabB X.base X.mg c P) (hcode : X.env.code = .ref c)
    (hq : X.env.qual ++ "<lambda>" = q) (hT : TabS H P q) (hdef : defaultsOf params X.env = ([], [])) (hfree : ∀ y ∈ scope.names, y.2 = .free → ∃ c, X.env.cells.lookup y.1 = some c)
    (h : ∀ (f c' : Addr) (pm ctv : Value) (H1 : Hp) (s' : Shared), Inv X pins σ H1 s' → (∀ b o, b ≠ P → H b = some o → H1 b = some o) → TabS H1 P q → H f = none → f ≠ c' → f ≠ P → 
      H1 f = some (PinO f (PySem.W.kla_obj "<lambda>" q params body scope (cloFrom X.env.cells scope.names []) pm c' ctv)) → H1 c' = some (CodeO c' q) → Q (.ref f) s') :
    wpAny (model X.prog X.w) X.A (eval (.Lambda params body scope pos) X.env) Q E s := by
  subst hq
  obtain ⟨ps, hP, ht, ha⟩ := hT
  refine PySem.W.kla_eval hdef ?_
  have bP : s.heap.BuiltinsAt X.mg P := TB.bm.keeps I.bk
  have hP' : s.heap.get? P = some { cls := .none, data := .fields ps } := I.hok P _ hP
  cases hc : codeAmong pos ps.toList with
  | none =>
    refine PySem.W.kla_makeFunction (mg := X.mg) (c := c) (P := P) (ps := ps) (closure_ok hfree) I.ok.glob (I.mod.glob.keeps I.bk) hcode (TB.code.keeps I.bk) hP' ht hc TB.gP bP fun c' ctv h' tk hx hge hlt hrec htb => ?_
    obtain ⟨c2, oc, vs, t, e2, hoc, hd, hv⟩ := hrec
    cases e2
    have nC : H c' = none := I.hok.fresh hge
    have I1 := inv_table (t' := tk) (more := #[rawInt pos.line, rawInt pos.col, .ref c']) (h' := h') I hP (fun b o hb e => hx b o hb e) htb hge ⟨oc, vs, t, hoc, hd, hv⟩
    have hE : ∀ b o, b ≠ P → H b = some o → upd (upd H P (.tbl (ps ++ #[rawInt pos.line, rawInt pos.col, .ref c']))) c' (CodeO c' (X.env.qual ++ "<lambda>")) b = some o := fun b o n e => by
      rw [upd_ne (ne_of_none e nC), upd_ne n]
      exact e
    have eL : (ps ++ #[rawInt pos.line, rawInt pos.col, .ref c']).toList = ps.toList ++ [rawInt pos.line, rawInt pos.col, .ref c'] := by simp
    have T1 : TabS (upd (upd H P (.tbl (ps ++ #[rawInt pos.line, rawInt pos.col, .ref c']))) c' (CodeO c' (X.env.qual ++ "<lambda>"))) P (X.env.qual ++ "<lambda>") := by
      refine ⟨_, by rw [upd_ne (ne_of_none hP nC), upd_same], by rw [eL]; exact PySem.TriplesOk_snoc _ _ _ _ ht, fun p' cv hcv => ?_⟩
      rw [eL] at hcv
      rcases among_app _ ht hcv with z | z
      · obtain ⟨c0, e1, e2⟩ := ha p' cv z
        exact ⟨c0, e1, hE _ _ (ne_of e2 hP (codeO_ne _)) e2⟩
      · exact ⟨c', z, upd_same⟩
    have I2 := inv_pin (t' := tk) (o := PySem.W.kla_obj "<lambda>" (X.env.qual ++ "<lambda>") params body scope (cloFrom X.env.cells scope.names []) ((X.mg "__name__").getD .none) c' ctv) I1
    have nF := I1.hok.fresh (Nat.le_refl h'.objs.size)
    have fc : h'.objs.size ≠ c' := Nat.ne_of_gt hlt
    have fP : h'.objs.size ≠ P := fun z => by
      have : H P = none := by rw [← z]; exact I.hok.fresh (Nat.le_trans hge (Nat.le_of_lt hlt))
      rw [hP] at this; cases this
    refine h h'.objs.size c' ((X.mg "__name__").getD .none) ctv _ _ I2 (fun b o n e => ?_) (T1.ext fun b o e => ?_) (I.hok.fresh (Nat.le_trans hge (Nat.le_of_lt hlt))) fc fP upd_same ?_
    · have e1 := hE b o n e
      exact (upd_ne (ne_of_none e1 nF)).trans e1
    · exact (upd_ne (ne_of_none e nF)).trans e
    · exact (upd_ne (Ne.symm fc)).trans upd_same
  | some cv =>
    obtain ⟨c', e, hco⟩ := ha pos cv hc
    subst e
    refine PySem.W.kla_makeFunctionHit (mg := X.mg) (c := c) (P := P) (ps := ps) (closure_ok hfree) I.ok.glob (I.mod.glob.keeps I.bk) hcode (TB.code.keeps I.bk) hP' ht hc bP fun ctv h' tk hx hsz => ?_
    have I1 : Inv X pins σ H { s with heap := h', toks := tk } := I.kept hx
    have nF : H h'.objs.size = none := I1.hok.fresh (Nat.le_refl _)
    have I2 := inv_pin (t' := tk) (o := PySem.W.kla_obj "<lambda>" (X.env.qual ++ "<lambda>") params body scope (cloFrom X.env.cells scope.names []) ((X.mg "__name__").getD .none) c' ctv) I1
    have T0 : TabS H P (X.env.qual ++ "<lambda>") := ⟨ps, hP, ht, ha⟩
    refine h h'.objs.size c' ((X.mg "__name__").getD .none) ctv _ _ I2 (fun b o n e => ?_) (T0.ext fun b o e => ?_) nF (Ne.symm (ne_of_none hco nF)) (Ne.symm (ne_of_none hP nF)) upd_same ?_
    · exact (upd_ne (ne_of_none e nF)).trans e
    · exact (upd_ne (ne_of_none e nF)).trans e
    · exact (upd_ne (ne_of_none hco nF)).trans hco
end

theorem RepO.raw {K : PySem.W.Frag} {F : Hp} {o u : HO} (h : RepO K F o (.raw u)) : o = u := by
  cases o <;> exact h
/-! ### what a function at hand promises -/
structure Ct where
  P : Program
  w : World
  K : PySem.W.Frag
  mg : Str → Option Value
  base : Heap
  T : List (Addr × Str)
def FnSem (C : Ct) (k : Nat) (f : Addr) (G : Hp) (deps : List (Addr × HO)) (sp : SpD) : Prop :=
  ∀ (A : Around) (outer : List Env) (s : Shared) (H F R : Hp) (M : Mp) (ds : List D) (us : List Value) (vs : List V) (Q' : QD) (Q : VK),
    Room k A → Env0 C.P C.w C.K C.mg C.base A outer s H → Stt C.K F R H M → TabR C.T R → Ext G F → (∀ p ∈ deps, M p.1 = some (.raw p.2)) → RepAll C.K F vs ds → Vals vs us → sp ds M Q' E0D → KE C.K F R Q' Q →
    codeAny (model C.P C.w) A (.call (.ref f) ⟨us, []⟩) (CR CX0 outer C.P C.w H s Q fun _ _ _ => False) s
/-- in M, d is a function that keeps sp -/
def HasFn (C : Ct) (k : Nat) (M : Mp) (d : D) (sp : SpD) : Prop := match d with
  | .fn f G => ∃ deps : List (Addr × HO), (∃ oc od fd sl, (f, PinO f ⟨oc, od, .func fd, sl⟩) ∈ deps ∨ C.K.lookup f = some ⟨oc, od, .func fd, sl⟩) ∧ (∀ p ∈ deps, M p.1 = some (.raw p.2)) ∧ FnSem C k f G deps sp
  | _ => False
theorem HasFn.imp {C : Ct} {k : Nat} {M : Mp} {d : D} {sp sp' : SpD} (h : HasFn C k M d sp) (e : ∀ ds M Q E, sp' ds M Q E → sp ds M Q E) : HasFn C k M d sp' := by
  cases d with
  | fn f G =>
    obtain ⟨deps, h1, h2, h3⟩ := h
    exact ⟨deps, h1, h2, fun A outer s H F R M ds us vs Q' Q a b c t g dd ra r q kq => h3 A outer s H F R M ds us vs Q' Q a b c t g dd ra r (e _ _ _ _ q) kq⟩
  | _ => exact h
theorem HasFn.more {C : Ct} {k : Nat} {M M' : Mp} {d : D} {sp : SpD} (h : HasFn C k M d sp) (e : ∀ a o, M a = some (.raw o) → M' a = some (.raw o)) : HasFn C k M' d sp := by
  cases d with
  | fn f G =>
    obtain ⟨deps, h1, h2, h3⟩ := h
    exact ⟨deps, h1, fun p hp => e _ _ (h2 p hp), h3⟩
  | _ => exact h
/-- another thing is new, or is changed -/
theorem HasFn.upd {C : Ct} {k : Nat} {M : Mp} {d : D} {sp : SpD} {p : Addr} {m : MO} (h : HasFn C k M d sp) (hp : ∀ o, M p ≠ some (.raw o)) : HasFn C k (updM M p m) d sp :=
  h.more fun a o e => by rw [updM_ne (fun z => by subst z; exact hp o e)]; exact e
def dCallV (C : Ct) (k i : Nat) (t : DA) : DE := fun τ M Q => ∃ d sp, τ[i]? = some (some d) ∧ HasFn C k M d sp ∧ t τ M fun ds M1 => HasFn C k M1 d sp ∧ sp ds M1 Q E0D
abbrev ctOf (X : Cx) (F0 : Bs) : Ct := ⟨X.prog, X.w, X.K, X.mg, X.base, F0.T⟩
section
variable {X : Cx} {F0 : Bs} {i k : Nat} {x : Str} {p pos : Pos} {e : Expr} {es : List Expr} {t : DA}
theorem hasFn_at {F R H : Hp} {M : Mp} {s : Shared} {pins : List (Addr × Obj)} {σ : L2.St} {k : Nat} {f : Addr} {G : Hp} {sp : SpD} (I : Inv X pins σ H s) (st : Stt X.K F R H M) (h : HasFn (ctOf X F0) k M (.fn f G) sp) : PySem.W.FnAt f s.heap := by
  obtain ⟨deps, ⟨oc, od, fd, sl, h1⟩, h2, _⟩ := h
  rcases h1 with h1 | h1
  · obtain ⟨_, o, ho, ro⟩ := st.ow _ _ (h2 _ h1)
    have e : o = PinO f ⟨oc, od, .func fd, sl⟩ := ro.raw
    subst e
    exact ⟨oc, od, fd, sl, pinO_at I.hok ho⟩
  · exact ⟨oc, od, fd, sl, I.kIn _ _ h1⟩
theorem pd_callV (hr : Room k X.A) (hN : X.N[i]? = some x) (hv : Vis X.env.scope x) (ha : PA X (e :: es) (liA X.K F0 t)) (hd : (x == ("__debug__" : Str)) = false := by decide) (hcd : (x == ("__classdict__" : Str)) = false := by decide)
    (he : starEach (e :: es) X.env = (false, eval e X.env) :: starEach es X.env := by rfl) (hpl : (backTo pos (starEach es X.env)).any (·.1) = false := by rfl) :
    PE X (.Call (.Name x p) (e :: es) [] pos) (liE X.K F0 (dCallV (ctOf X F0) k i t)) := by
  refine ⟨fun pins s σ H Q I ⟨F, R, τ, M, Q', e0, st, sl, ⟨d, sp, hs, hf, ht⟩, kq⟩ => ?_⟩
  obtain ⟨v, hσ, rv⟩ := sl.get hs
  cases d with
  | fn f G =>
    cases rv with
    | fn eG =>
      refine wpAny_Call_Name_kw (thn ((pe_var (pos := p) hN hv hd hcd).run pins s σ H (fun v H1 => v = .ref f ∧ H1 = H) I ⟨.ref f, hσ, rfl, rfl⟩) fun u s1 ⟨v, H1, I1, r1, q1⟩ => ?_)
      obtain ⟨ev, eH⟩ := q1
      subst ev
      rw [eH] at I1
      obtain rfl : u = Value.ref f := r1
      refine PySem.W.callWith_F (first := []) (hasFn_at I1 st hf) (thn (ha.run pos pins s1 σ H (fun vs H2 => ∃ F2 ds M2, Ext F F2 ∧ Stt X.K F2 R H2 M2 ∧ RepAll X.K F2 vs ds ∧ HasFn (ctOf X F0) k M2 (.fn f G) sp ∧ sp ds M2 Q' E0D) I1
        ⟨F, R, τ, M, _, e0, st, sl, ht, fun vs H2 F2 ds M2 e2 st2 r2 ⟨q1, q2⟩ => ⟨F2, ds, M2, e2, st2, r2, q1, q2⟩⟩) fun us s2 ⟨vs, H2, I2, r, F2, ds, M2, e2, st2, r2, q1, q2⟩ => ⟨hasFn_at I2 st2 q1, ?_⟩) he hpl
      show wpAny _ _ (call (.ref f) us) _ _ _
      obtain ⟨deps, _, h2, h3⟩ := q1
      refine wpAny_call (codeAny_mono (h3 X.A X.stack s2 H2 F2 R M2 ds us vs Q' Q hr I2.env0 st2 e0.t (eG.trans e2) h2 r2 r q2 (kq.ext e2)) fun r s' hq => ?_)
      cases r with
      | error e => exact False.elim hq
      | ok fl =>
        cases fl with
        | ret u => exact I2.after hq
        | next => exact False.elim hq
        | brk => exact False.elim hq
        | cont => exact False.elim hq
  | _ => exact False.elim hf
end
end DL

namespace DL
open PySem PySem.Spec PyProof.Rows L2 LamX NdefX
/-! ### a lambda keeps what its body's reading says -/
/-- what stands in M as data stands in M' -/
def AgreeL (M M' : Mp) : Prop := ∀ a m, M a = some m → (∀ o, m ≠ .raw o) → M' a = some m
/-- the body's reading at its names: the parameters, then what was captured -/
def spL (tb : DE) (n : Nat) (ws : List D) : SpD := fun ds M Q _ => ds.length = n ∧ ∃ P : D → Prop, (∀ M', AgreeL M M' → tb (ds.map some ++ ws.map some) M' fun d M2 => M2 = M' ∧ P d) ∧ ∀ d, P d → Q d M
abbrev lamF (q : Str) (params : Arguments) (scope : Scope) (cl : List (Str × Addr)) (c' : Addr) : NF := ⟨"<lambda>", q, params, [], scope, cl, c'⟩
theorem RsOk.imp {H H' : Hp} {a : Addr} {o : HO} (h : RsOk H a o) (k : ∀ u, H a = some u → H' a = some u) (kc : ∀ c q, H c = some (CodeO c q) → H' c = some (CodeO c q)) : RsOk H' a o := by
  cases o with
  | xd fs =>
    obtain ⟨q, e, ps, h1, h2, h3⟩ := h
    refine ⟨q, e, ps, k _ h1, h2, fun pos cv hc => ?_⟩
    obtain ⟨c, e1, e2⟩ := h3 pos cv hc
    exact ⟨c, e1, kc _ _ e2⟩
  | _ => exact k _ h
theorem slots_all {K : PySem.W.Frag} {F : Hp} : ∀ {vs : List V} {ds : List D}, RepAll K F vs ds → Slots K F (vs.map some) (ds.map some)
  | _, _, .nil => .nil
  | _, _, .cons r t => .cons r (slots_all t)
theorem Slots.app {K : PySem.W.Frag} {F : Hp} : ∀ {σ σ' : L2.St} {τ τ' : SD}, Slots K F σ τ → Slots K F σ' τ' → Slots K F (σ ++ σ') (τ ++ τ')
  | _, _, _, _, .nil, h => h
  | _, _, _, _, .cons r t, h => .cons r (Slots.app t h)
/-- a cell's object is no code object -/
theorem cell_code {P : Program} {w : World} {H : Hp} {h : Heap} {c : Addr} {q : Str} {o : Obj} {v : Option Value} (hok : HOk P w H h) (e : H c = some (CodeO c q)) (ho : h.get? c = some o) (hd : o.data = .cell v) : False := by
  obtain ⟨⟨oc, vs, t, h1, h2, _⟩, _⟩ := hok c _ e
  rw [ho] at h1
  cases h1
  rw [hd] at h2; cases h2
theorem lam_sem {C : Ct} {k : Nat} {params : Arguments} {body : Expr} {scope : Scope} {q : Str} {pm ctv : Value} {c' f : Addr} {cl : List (Str × Addr)} {N ps fr : List Str} {G : Hp} {tb : DE} {ws : List D} {wv : List V} {cs : List Addr} {ob : Addr → Obj}
    (S : NScope N ps fr scope) (hN : N.length = ps.length + fr.length)
    (hbind : ∀ us : List Value, us.length = ps.length → bindArgs (PySem.W.kla_fn "<lambda>" q params body scope cl pm (.ref c') ctv) ⟨us, []⟩ = pure (ps.zip us))
    (hbody : ∀ (A : Around) (outer : List Env) (s : Shared) (H F0 R0 : Hp), Room k (A.deeper (envF (lamF q params scope cl c') f s.heap.objs.size)) → PE (ncx CX0 C.P C.w C.K C.mg C.base N (lamF q params scope cl c') f A outer s H E0).nox body (liE C.K ⟨F0, R0, C.T⟩ tb))
    (hin : ∀ y c, cl.lookup y = some c → c ∈ cs) (hcell : ∀ c ∈ cs, ∃ v, (ob c).data = .cell v) (inj : ∀ x y c, cl.lookup x = some c → cl.lookup y = some c → x = y)
    (hval : ∀ (i : Nat) (y : Str), fr[i]? = some y → ∃ c, cl.lookup y = some c ∧ ∀ v, wv[i]? = some v → ∃ u, L2.RelV v u ∧ (ob c).data = .cell (some u))
    (hwl : wv.length = fr.length) (rep : RepAll C.K G wv ws) :
    FnSem C (k + 1) f G ((f, PinO f (PySem.W.kla_obj "<lambda>" q params body scope cl pm c' ctv)) :: (c', CodeO c' q) :: cs.map fun c => (c, PinO c (ob c))) (spL tb ps.length ws) := by
  intro A outer s H F R M ds us vs Q' Q hr e0 st tr eG hd ra r hsp kq
  obtain ⟨hl, P, hP, hQ⟩ := hsp
  have at_ : ∀ p ∈ ((f, PinO f (PySem.W.kla_obj "<lambda>" q params body scope cl pm c' ctv)) :: (c', CodeO c' q) :: cs.map fun c => (c, PinO c (ob c))), F p.1 = none ∧ H p.1 = some p.2 := fun p hp => by
    obtain ⟨h1, o, h2, h3⟩ := st.ow _ _ (hd p hp)
    exact ⟨h1, by rw [h2, h3.raw]⟩
  have Hf := (at_ _ List.mem_cons_self).2
  have Hc := (at_ _ (List.mem_cons_of_mem _ List.mem_cons_self)).2
  have Hcs : ∀ c ∈ cs, F c = none ∧ H c = some (PinO c (ob c)) ∧ M c = some (.raw (PinO c (ob c))) := fun c hc => by
    have hm : (c, PinO c (ob c)) ∈ ((f, PinO f (PySem.W.kla_obj "<lambda>" q params body scope cl pm c' ctv)) :: (c', CodeO c' q) :: cs.map fun c => (c, PinO c (ob c))) := List.mem_cons_of_mem _ (List.mem_cons_of_mem _ (List.mem_map.mpr ⟨c, hc, rfl⟩))
    exact ⟨(at_ _ hm).1, (at_ _ hm).2, hd _ hm⟩
  have hob : ∀ c ∈ cs, s.heap.get? c = some (ob c) := fun c hc => pinO_at e0.hok (Hcs c hc).2.1
  have ncode : ∀ c ∈ cs, ∀ q, H c ≠ some (CodeO c q) := fun c hc q z => by
    obtain ⟨v, hv⟩ := hcell c hc
    exact cell_code e0.hok z (hob c hc) hv
  have hext : ∀ c ∈ cs, ∀ u, H c = some u → ¬ NE u := fun c hc u e => by
    rw [(Hcs c hc).2.1] at e
    cases e
    exact id
  -- the cells are let go
  let H0 : Hp := fun b => if b ∈ cs then none else H b
  let M0 : Mp := fun b => if b ∈ cs then none else M b
  have H0n : ∀ b, b ∈ cs → H0 b = none := fun b h => if_pos h
  have H0s : ∀ b, b ∉ cs → H0 b = H b := fun b h => if_neg h
  have M0n : ∀ b, b ∈ cs → M0 b = none := fun b h => if_pos h
  have M0s : ∀ b, b ∉ cs → M0 b = M b := fun b h => if_neg h
  have H0sub : ∀ b u, H0 b = some u → b ∉ cs ∧ H b = some u := fun b u e => by
    by_cases hb : b ∈ cs
    · rw [H0n b hb] at e; cases e
    · exact ⟨hb, by rw [← H0s b hb]; exact e⟩
  have H0nx : ∀ b u, H b = some u → NE u → H0 b = some u := fun b u e n => by
    by_cases hb : b ∈ cs
    · exact absurd n (hext b hb u e)
    · rw [H0s b hb]; exact e
  have hok0 : HOk C.P C.w H0 s.heap := fun b u e => by
    obtain ⟨hb, e1⟩ := H0sub b u e
    exact (e0.hok b u e1).stay (fun c v _ z => z) (fun c z => H0nx c _ z trivial) fun c xs z => H0nx c _ z trivial
  have e00 : Env0 C.P C.w C.K C.mg C.base A outer s H0 := ⟨e0.frames, e0.mod, fun b o e => ⟨(e0.bs b o e).1, by
    by_cases hb : b ∈ cs
    · exact H0n b hb
    · rw [H0s b hb]; exact (e0.bs b o e).2⟩, e0.bsz, e0.funs, fun b hb => by
    by_cases hb2 : b ∈ cs
    · exact H0n b hb2
    · rw [H0s b hb2]; exact e0.frf b hb, hok0, e0.bare⟩
  have nfr : ∀ c ∈ cs, c ∉ frs outer := fun c hc z => by
    have := e0.frf c z
    rw [(Hcs c hc).2.1] at this; cases this
  have st0 : Stt C.K F R H0 M0 := by
    refine ⟨fun a o e => ?_, fun a o e => ?_, fun a m e => ?_, st.nf, st.nr⟩
    · have : a ∉ cs := fun z => by rw [(Hcs a z).1] at e; cases e
      rw [H0s a this]; exact st.fz a o e
    · obtain ⟨h1, h2, h3⟩ := st.rs a o e
      have na : a ∉ cs := fun z => by rw [(Hcs a z).2.2] at h3; cases h3
      refine ⟨h1.imp (fun u eu => by rw [H0s a na]; exact eu) (fun c q ec => ?_), h2, by rw [M0s a na]; exact h3⟩
      by_cases hc : c ∈ cs
      · exact absurd ec (ncode c hc q)
      · rw [H0s c hc]; exact ec
    · by_cases ha : a ∈ cs
      · rw [M0n a ha] at e; cases e
      · rw [M0s a ha] at e
        obtain ⟨h1, o, h2, h3⟩ := st.ow a m e
        exact ⟨h1, o, by rw [H0s a ha]; exact h2, h3⟩
  have agree : AgreeL M M0 := fun a m e n => by
    by_cases ha : a ∈ cs
    · rw [(Hcs a ha).2.2] at e
      cases e
      exact absurd rfl (n _)
    · rw [M0s a ha]; exact e
  have lim : s.heap.NoLimit := e0.mod.nolimit.keeps fun b o e => (e0.bs b o e).1
  have hvl : vs.length = ps.length := by rw [ra.len]; exact hl
  have CA : CellsAt cl fr (wv.map some) s.heap H0 := ⟨by rw [List.length_map]; exact hwl, fun y c e => ⟨H0n c (hin y c e), by
    obtain ⟨v, hv⟩ := hcell c (hin y c e)
    exact ⟨v, ob c, hob c (hin y c e), hv⟩⟩, inj, fun i y e => by
    obtain ⟨c, hc, hv⟩ := hval i y e
    refine ⟨c, hc, fun v ev => ?_⟩
    have ev : wv[i]? = some v := by
      rw [List.getElem?_map] at ev
      cases ew : wv[i]? with
      | none => rw [ew] at ev; cases ev
      | some z => rw [ew] at ev; cases ev; rfl
    obtain ⟨u, ru, hu⟩ := hv v ev
    exact ⟨u, ru, ob c, hob c (hin y c hc), hu⟩⟩
  refine PySem.W.kla_callFunE hr.depth (pinO_at e0.hok Hf) rfl S.co S.gen rfl (codeO_at e0.hok Hc) ?_
  rw [hbind us (by rw [← r.length]; exact hvl)]
  refine wpAny_pure (wpAny_newFunctionEnv S.nocell (fun ⟨n, _⟩ hy => S.par n (List.of_mem_zip hy).1) (fun h₁ hns hsb => ⟨lim.fresh _ hsb, ?_⟩) S.kind)
  show codeAny _ _ (.expr body (envF (lamF q params scope cl c') f s.heap.objs.size)) _ _
  have kp : ∀ b o, s.heap.get? b = some o → h₁.get? b = some o := fun b o e => hsb.extBut b o (Nat.ne_of_lt (Heap.lt_size e)) (Heap.get?_push_of_some _ e)
  have J : Inv (ncx CX0 C.P C.w C.K C.mg C.base N (lamF q params scope cl c') f A outer s H0 E0) [] (startF N vs (wv.map some)) H0 { s with heap := h₁, toks := s.toks + (ps.zip us).length } := inv_startN S hr.hd e00 hvl r CA hns kp
  have sl : Slots C.K F (startF N vs (wv.map some)) (ds.map some ++ ws.map some) := by
    unfold startF
    rw [List.length_map, hwl, hvl, hN, show ps.length + fr.length - ps.length - fr.length = 0 by omega, List.replicate_zero, List.append_nil]
    exact (slots_all ra).app (slots_all (rep.ext eG))
  refine PySem.W.kla_codeExpr (wpAny_mono ((hbody A outer s H0 F R (hr.deeper _)).run [] _ _ H0 (fun v H2 => ∃ F2 d, Ext F F2 ∧ Stt C.K F2 R H2 M0 ∧ Rep C.K F2 v d ∧ P d) (J.wish _)
    ⟨F, R, _, M0, _, ⟨Ext.refl, Ext.refl, tr⟩, st0, sl, hP M0 agree, fun v H2 F2 d M2 e2 st2 r2 ⟨eM, pd⟩ => by subst eM; exact ⟨F2, d, e2, st2, r2, pd⟩⟩) (fun v s' hq => ?_) fun e s' hq => False.elim hq)
  obtain ⟨w', H', J', rv, F2, d, e2, st2, r2, pd⟩ := hq
  have J' := J'.unwish
  -- the cells are known again
  have un := J'.base
  have Hn : ∀ c ∈ cs, H' c = none := fun c hc => un.free c (ob c) (hob c hc) (H0n c hc) (by simp [ncx])
  have obk : ∀ c ∈ cs, s'.heap.get? c = some (ob c) := fun c hc => un.keep c (ob c) (hob c hc) (H0n c hc) (nfr c hc) (by simp [ncx])
  let H2 : Hp := fun b => if b ∈ cs then H b else H' b
  have H2n : ∀ b, b ∈ cs → H2 b = H b := fun b h => if_pos h
  have H2s : ∀ b, b ∉ cs → H2 b = H' b := fun b h => if_neg h
  have H2of : ∀ b u, H' b = some u → H2 b = some u := fun b u e => by
    have : b ∉ cs := fun z => by rw [Hn b z] at e; cases e
    rw [H2s b this]; exact e
  have old : ∀ b u, H b = some u → NE u → b ∉ cs ∧ H0 b = some u := fun b u e n => by
    have hb : b ∉ cs := fun z => hext b z u e n
    exact ⟨hb, by rw [H0s b hb]; exact e⟩
  have H0of : ∀ b, H b = none → H0 b = none := fun b e => by
    by_cases hb : b ∈ cs
    · exact H0n b hb
    · rw [H0s b hb]; exact e
  have ncs : ∀ b, H b = none → b ∉ cs := fun b e z => by rw [(Hcs b z).2.1] at e; cases e
  refine ⟨w', H2, J'.os, J'.bare, ⟨fun b o e n hf hx => un.keep b o e (H0of b n) hf (by simp [ncx]), fun b o e n hf hx => un.slot b o e (H0of b n) hf (by simp [ncx]), fun b o e n hx => by
      rw [H2s b (ncs b n)]; exact un.free b o e (H0of b n) (by simp [ncx]), fun b o e hx => un.there b o e (by simp [ncx]), fun b xs e => H2of _ _ (un.tups b xs (old b _ e trivial).2), fun b o u e => H2of _ _ (un.frzs b o u (old b _ e trivial).2), fun b ps e => by
      obtain ⟨more, z⟩ := un.tbls b ps (old b _ e trivial).2
      exact ⟨more, H2of _ _ z⟩⟩, ?_, rv, ?_⟩
  · intro b u e
    by_cases hb : b ∈ cs
    · rw [H2n b hb, (Hcs b hb).2.1] at e
      cases e
      exact pinO_ok (obk b hb)
    · rw [H2s b hb] at e
      exact (J'.hok b u e).stay (fun c v _ z => z) (fun c z => H2of _ _ z) fun c xs z => H2of _ _ z
  · refine kq w' H2 F2 d M e2 ?_ r2 (hQ d pd)
    refine ⟨fun a o e => H2of _ _ (st2.fz a o e), fun a o e => ?_, fun a m e => ?_, st2.nf, st2.nr⟩
    · obtain ⟨h1, h2, h3⟩ := st2.rs a o e
      exact ⟨h1.imp (fun u eu => H2of _ _ eu) fun c q ec => H2of _ _ ec, h2, (st.rs a o e).2.2⟩
    · by_cases ha : a ∈ cs
      · rw [(Hcs a ha).2.2] at e
        cases e
        refine ⟨?_, PinO a (ob a), by rw [H2n a ha]; exact (Hcs a ha).2.1, (show RepO C.K F2 (PinO a (ob a)) (.raw (PinO a (ob a))) from rfl)⟩
        cases ef : F2 a with
        | none => rfl
        | some o =>
          have := st2.fz a o ef
          rw [Hn a ha] at this; cases this
      · obtain ⟨h1, o, h2, h3⟩ := st2.ow a m (by rw [M0s a ha]; exact e)
        exact ⟨h1, o, H2of _ _ h2, h3⟩
end DL

namespace DL
open PySem PySem.Spec PyProof.Rows L2 LamX NdefX
/-- more things of the free kind are known -/
def MoreRaw (M M' : Mp) : Prop := (∀ a m, M a = some m → M' a = some m) ∧ ∀ a m, M' a = some m → M a = some m ∨ ∃ o, m = .raw o
theorem MoreRaw.trans {M M1 M2 : Mp} (h : MoreRaw M M1) (g : MoreRaw M1 M2) : MoreRaw M M2 := ⟨fun a m e => g.1 a m (h.1 a m e), fun a m e => (g.2 a m e).elim (fun z => h.2 a m z) .inr⟩
/-- g(e1, lambda ..: body, e3) -/
def dCallL (C : Ct) (k : Nat) (js : List Nat) (n : Nat) (tb : DE) (sp : SpD) (t1 t3 : DE) : DE := fun τ M Q => t1 τ M fun d1 M1 => ∃ ws : List D, js.map (fun j => τ[j]?) = ws.map (fun d => some (some d)) ∧
  ∀ M2, MoreRaw M1 M2 → t3 τ M2 fun d3 M3 => M3 = M2 ∧ ∀ d Mf, MoreRaw M2 Mf → HasFn C k Mf d (spL tb n ws) → sp [d1, d, d3] Mf (fun r M4 => M4 = Mf ∧ Q r M1) E0D
theorem caps_get {K : PySem.W.Frag} {F : Hp} {σ : L2.St} {τ : SD} (sl : Slots K F σ τ) : ∀ {js : List Nat} {ws : List D}, js.map (fun j => τ[j]?) = ws.map (fun d => some (some d)) → ∃ wv : List V, js.map (slotAt σ) = wv.map some ∧ RepAll K F wv ws
  | [], [], _ => ⟨[], rfl, .nil⟩
  | [], _ :: _, e => by cases e
  | _ :: _, [], e => by cases e
  | j :: js, w :: ws, e => by
    rw [List.map_cons, List.map_cons] at e
    have e1 := (List.cons.inj e).1
    have e2 := (List.cons.inj e).2
    obtain ⟨v, hv, rv⟩ := sl.get e1
    obtain ⟨wv, h1, h2⟩ := caps_get sl e2
    exact ⟨v :: wv, by rw [List.map_cons, List.map_cons, h1, slotAt_of hv], .cons rv h2⟩
section
variable {X : Cx} {F0 : Bs} {kf kb : Nat} {g c P : Addr} {gfd : FuncData} {psg ps fr N : List Str} {gx q : Str} {sp : SpD} {t1 t3 tb : DE} {js : List Nat} {params : Arguments} {body e1 e3 : Expr} {scope : Scope} {p lpos pos : Pos}
theorem pd_callL (Fg : FnOk X.prog X.w X.K X.mg X.base CX0 kf g gfd psg (liSp X.K F0.T sp)) (hr : Room kf X.A) (hg : Gl X gx) (hm : X.mg gx = some (.ref g)) (hk : PySem.W.keepIn X.K (.ref g) = true) (hb : Binds X.K gfd psg [])
    (TB : TabB X.base X.mg c P) (hcode : X.env.code = .ref c) (hT : (P, q) ∈ F0.T) (hq : X.env.qual ++ "<lambda>" = q) (h1 : PE X e1 (liE X.K F0 t1)) (h3 : PE X e3 (liE X.K F0 t3))
    (hdef : defaultsOf params X.env = ([], [])) (hfn : ∀ x, X.fn x = true) (hsc : ndefB X.env.scope scope fr = true) (S : NScope N ps fr scope) (hN : N.length = ps.length + fr.length) (hjs : js.map (fun j => X.N[j]?) = fr.map some)
    (hbind : ∀ (cl : List (Str × Addr)) (pm cv ctv : Value) (us : List Value), us.length = ps.length → bindArgs (PySem.W.kla_fn "<lambda>" q params body scope cl pm cv ctv) ⟨us, []⟩ = pure (ps.zip us))
    (hbody : ∀ (f c' : Addr) (cl : List (Str × Addr)) (A : Around) (outer : List Env) (s : Shared) (H F0' R0' : Hp), Room kb (A.deeper (envF (lamF q params scope cl c') f s.heap.objs.size)) →
      PE (ncx CX0 X.prog X.w X.K X.mg X.base N (lamF q params scope cl c') f A outer s H E0).nox body (liE X.K ⟨F0', R0', F0.T⟩ tb))
    (hdb : (gx == ("__debug__" : Str)) = false := by decide) (he : starEach [e1, .Lambda params body scope lpos, e3] X.env = [(false, eval e1 X.env), (false, eval (.Lambda params body scope lpos) X.env), (false, eval e3 X.env)] := by rfl) (he1 : starEach [.Lambda params body scope lpos, e3] X.env = [(false, eval (.Lambda params body scope lpos) X.env), (false, eval e3 X.env)] := by rfl) :
    PE X (.Call (.Name gx p) [e1, .Lambda params body scope lpos, e3] [] pos) (liE X.K F0 (dCallL (ctOf X F0) (kb + 1) js ps.length tb sp t1 t3)) := by
  refine ⟨fun pins s σ H Q I ⟨F, R, τ, M, Q', e0, st, sl, ht, kq⟩ => ?_⟩
  refine wpAny_Call_Name_kw (ld_glob I hg hm ?_ hdb)
  refine PySem.W.callWith_K (h₀ := X.base) I.ok.mod.kin hk ?_ (by rw [he, he1]) (by rw [he1]; rfl)
  rw [he]
  show wpAny _ _ (spliced [(false, eval e1 X.env), (false, eval (.Lambda params body scope lpos) X.env), (false, eval e3 X.env)]) _ _ s
  refine Calls.spliced_cons (thn (h1.run pins s σ H (fun v H1 => ∃ F1 d1 M1, Ext F F1 ∧ Stt X.K F1 R H1 M1 ∧ Rep X.K F1 v d1 ∧ ∃ ws : List D, js.map (fun j => τ[j]?) = ws.map (fun d => some (some d)) ∧
    ∀ M2, MoreRaw M1 M2 → t3 τ M2 fun d3 M3 => M3 = M2 ∧ ∀ d Mf, MoreRaw M2 Mf → HasFn (ctOf X F0) (kb + 1) Mf d (spL tb ps.length ws) → sp [d1, d, d3] Mf (fun r M4 => M4 = Mf ∧ Q' r M1) E0D) I
    ⟨F, R, τ, M, _, e0, st, sl, ht, fun v H2 F2 d M2 e2 st2 r2 q2 => ⟨F2, d, M2, e2, st2, r2, q2⟩⟩) fun u1 s1 ⟨v1, H1, I1, rl1, F1, d1, M1, ex1, st1, rp1, ws, hws, h2⟩ => ?_)
  have tbl1 : TabS H1 P q := by
    obtain ⟨⟨q', e, t⟩, _, _⟩ := st1.rs _ _ (e0.t _ hT)
    have : q = q' := by cases e; rfl
    rw [this]; exact t
  have nfr := ndef_free hsc
  have hfree : ∀ y ∈ scope.names, y.2 = .free → ∃ c, X.env.cells.lookup y.1 = some c := fun y hy e => (nfr y hy e).elim (fun z => I.ok.has _ (.inl z)) fun z => I.ok.has _ (.inr z)
  refine Calls.spliced_cons (lam_make3 I1 TB hcode hq tbl1 hdef hfree fun f c' pm ctv Ha sa Ia kp Ta nf fc fP hf hc => ?_)
  -- the function object and its code object are known
  let M2 : Mp := fun b => if b = f then some (.raw (PinO f (PySem.W.kla_obj "<lambda>" q params body scope (cloFrom X.env.cells scope.names []) pm c' ctv))) else if b = c' then some (.raw (CodeO c' q)) else M1 b
  have mP : R P = some (.xd [(q, .non)]) := e0.t _ hT
  have hP1 := st1.rs _ _ mP
  have ext_no : ∀ (F : Hp) a φ, F a = some (.ext φ) → (∀ a o, F a = some o → NX o) → False := fun F a φ e n => n a _ e
  have fF : F1 f = none := by
    cases e : F1 f with
    | none => rfl
    | some o => have := st1.fz _ _ e; rw [nf] at this; cases this
  have cF : ∀ o, F1 c' = some o → False := fun o e => by
    by_cases hcP : c' = P
    · subst hcP; rw [hP1.2.1] at e; cases e
    · have h1 := kp _ _ hcP (st1.fz _ _ e)
      rw [hc] at h1
      cases h1
      exact st1.nf _ _ e
  have M1f : M1 f = none := by
    cases e : M1 f with
    | none => rfl
    | some m => obtain ⟨_, o, ho, _⟩ := st1.ow _ _ e; rw [nf] at ho; cases ho
  have M2f : M2 f = some (.raw (PinO f (PySem.W.kla_obj "<lambda>" q params body scope (cloFrom X.env.cells scope.names []) pm c' ctv))) := if_pos rfl
  have M2c : M2 c' = some (.raw (CodeO c' q)) := (if_neg (Ne.symm fc)).trans (if_pos rfl)
  have M2s : ∀ b, b ≠ f → b ≠ c' → M2 b = M1 b := fun b h1 h2 => (if_neg h1).trans (if_neg h2)
  have M1c : ∀ m, M1 c' = some m → m = .raw (CodeO c' q) := fun m e => by
    have hcP : c' ≠ P := fun z => by subst z; rw [hP1.2.2] at e; cases e
    obtain ⟨_, o, ho, ro⟩ := st1.ow _ _ e
    have h1 := kp _ _ hcP ho
    rw [hc] at h1
    cases h1
    unfold CodeO at ro ⊢
    cases m with
    | raw u => have : _ = u := ro; rw [this]
    | _ => exact ro.elim
  have more1 : MoreRaw M1 M2 := ⟨fun a m e => by
    by_cases ha : a = f
    · subst ha; rw [M1f] at e; cases e
    by_cases hc2 : a = c'
    · subst hc2; rw [M2c, M1c m e]
    · rw [M2s a ha hc2]; exact e, fun a m e => by
    by_cases ha : a = f
    · subst ha; rw [M2f] at e; cases e; exact .inr ⟨_, rfl⟩
    by_cases hc2 : a = c'
    · subst hc2; rw [M2c] at e; cases e; exact .inr ⟨_, rfl⟩
    · rw [M2s a ha hc2] at e; exact .inl e⟩
  have sta : Stt X.K F1 R Ha M2 := by
    refine ⟨fun a o e => kp _ _ (fun z => by subst z; rw [hP1.2.1] at e; cases e) (st1.fz a o e), fun a o e => ?_, fun a m e => ?_, st1.nf, st1.nr⟩
    · obtain ⟨g1, g2, g3⟩ := st1.rs a o e
      have af : a ≠ f := fun z => by subst z; exact g1.there nf
      by_cases haP : a = P
      · subst haP
        rw [mP] at e
        cases e
        refine ⟨⟨q, rfl, Ta⟩, g2, ?_⟩
        have ac : a ≠ c' := fun z => by
          obtain ⟨ps', z1, _⟩ := Ta
          rw [z, hc] at z1
          exact codeO_ne ps' (Option.some.inj z1)
        rw [M2s a af ac]; exact g3
      · have ga : RsOk Ha a o := by
          refine g1.step (x := P) (fun b u n eb => kp b u n eb) haP fun q' z => ?_
          obtain ⟨⟨q2, _, ps', z1, _⟩, _⟩ := hP1
          rw [z] at z1
          exact codeO_ne ps' (Option.some.inj z1)
        have ac : a ≠ c' := fun z => by
          subst z
          have nx := st1.nr a o e
          cases o with
          | xd fs =>
            obtain ⟨q2, _, ps', z1, _⟩ := ga
            rw [hc] at z1
            exact codeO_ne ps' (Option.some.inj z1)
          | ext φ => exact nx
          | _ =>
            have ga : Ha a = some _ := ga
            rw [hc] at ga
            unfold CodeO at ga
            cases ga
        exact ⟨ga, g2, by rw [M2s a af ac]; exact g3⟩
    · by_cases haf : a = f
      · subst haf
        rw [M2f] at e
        cases e
        exact ⟨fF, _, hf, (show RepO X.K F1 (PinO _ _) (.raw (PinO _ _)) from rfl)⟩
      by_cases hac : a = c'
      · subst hac
        rw [M2c] at e
        cases e
        refine ⟨?_, _, hc, (show RepO X.K F1 (CodeO _ _) (.raw (CodeO _ _)) from rfl)⟩
        cases ef : F1 a with
        | none => rfl
        | some o => exact (cF o ef).elim
      · rw [M2s a haf hac] at e
        obtain ⟨g1, o, g2, g3⟩ := st1.ow a m e
        exact ⟨g1, o, kp _ _ (fun z => by subst z; rw [hP1.2.2] at e; cases e) g2, g3⟩
  refine Calls.spliced_cons (thn (h3.run pins sa σ Ha (fun v H3 => ∃ F3 d3, Ext F1 F3 ∧ Stt X.K F3 R H3 M2 ∧ Rep X.K F3 v d3 ∧ ∀ d Mf, MoreRaw M2 Mf → HasFn (ctOf X F0) (kb + 1) Mf d (spL tb ps.length ws) → sp [d1, d, d3] Mf (fun r M4 => M4 = Mf ∧ Q' r M1) E0D) Ia
    ⟨F1, R, τ, M2, _, e0.trans ex1, sta, sl.ext ex1, h2 M2 more1, fun v H2 F2 d M3 e2 st2 r2 ⟨q1, q2⟩ => by subst q1; exact ⟨F2, d, e2, st2, r2, q2⟩⟩) fun u3 s3 ⟨v3, H3, I3, rl3, F3, d3, ex3, st3, rp3, hsp⟩ => ?_)
  refine Calls.spliced_nil ⟨I3.kIn, ?_⟩
  -- the captured cells
  obtain ⟨wv, hwv, rw_⟩ := caps_get (sl.ext (ex1.trans ex3)) hws
  have cp : Caps X (cloFrom X.env.cells scope.names []) fr js := Caps.made I3.ok nfr (ndef_fr hsc) hjs
  have CA := cells_of I3 cp
  rw [hwv] at CA
  let cl := cloFrom X.env.cells scope.names []
  let cs : List Addr := cl.map (·.2)
  let ob : Addr → Obj := fun b => (s3.heap.get? b).getD default
  have clm : ∀ y b, (y, b) ∈ cl → X.env.cells.lookup y = some b := fun y b hm => by
    rcases cloFrom_mem hm with z | ⟨z1, z2⟩
    · cases z
    · obtain ⟨c1, hc1⟩ := hfree _ z1 rfl
      have hc1 : X.env.cells.lookup y = some c1 := hc1
      rw [z2, hc1]; rfl
  have csm : ∀ b ∈ cs, ∃ y, X.env.cells.lookup y = some b := fun b hb => by
    obtain ⟨⟨y, b'⟩, hm, rfl⟩ := List.mem_map.mp hb
    exact ⟨y, clm y b' hm⟩
  have cn3 : ∀ b ∈ cs, H3 b = none := fun b hb => by
    obtain ⟨y, hy⟩ := csm b hb
    exact I3.freeC y b hy
  have cob : ∀ b ∈ cs, s3.heap.get? b = some (ob b) ∧ ∃ v, (ob b).data = .cell v := fun b hb => by
    obtain ⟨y, hy⟩ := csm b hb
    obtain ⟨v, o, ho, hd⟩ := I3.cell y b hy
    have : ob b = o := by show (s3.heap.get? b).getD default = o; rw [ho]; rfl
    rw [this]
    exact ⟨ho, v, hd⟩
  have cab : ∀ b ∈ cs, X.s_0.heap.objs.size ≤ b := fun b hb => by
    obtain ⟨y, hy⟩ := csm b hb
    exact I3.ok.cab y b (hfn y) hy
  have cfr : ∀ b ∈ cs, b ∉ frs X.stack := fun b hb z => by
    obtain ⟨y, hy⟩ := csm b hb
    rcases List.mem_cons.mp (I3.stkSub b z) with e | e
    · exact I3.cne y b hy e
    · obtain ⟨_, o, ho, _⟩ := I3.ok.funs.mem e
      exact absurd (Nat.lt_of_lt_of_le (Heap.lt_size ho) (cab b hb)) (Nat.lt_irrefl _)
  let H' : Hp := fun b => if b ∈ cs then some (PinO b (ob b)) else H3 b
  let Mf : Mp := fun b => if b ∈ cs then some (.raw (PinO b (ob b))) else M2 b
  have H'n : ∀ b, b ∈ cs → H' b = some (PinO b (ob b)) := fun b h => if_pos h
  have H's : ∀ b, b ∉ cs → H' b = H3 b := fun b h => if_neg h
  have Mfn : ∀ b, b ∈ cs → Mf b = some (.raw (PinO b (ob b))) := fun b h => if_pos h
  have Mfs : ∀ b, b ∉ cs → Mf b = M2 b := fun b h => if_neg h
  have inH : ∀ b u, H3 b = some u → b ∉ cs ∧ H' b = some u := fun b u e => by
    have : b ∉ cs := fun z => by rw [cn3 b z] at e; cases e
    exact ⟨this, by rw [H's b this]; exact e⟩
  have M2n : ∀ b, b ∈ cs → M2 b = none := fun b hb => by
    cases e : M2 b with
    | none => rfl
    | some m => obtain ⟨_, o, ho, _⟩ := st3.ow _ _ e; rw [cn3 b hb] at ho; cases ho
  have F3n : ∀ b, b ∈ cs → F3 b = none := fun b hb => by
    cases e : F3 b with
    | none => rfl
    | some o => have := st3.fz _ _ e; rw [cn3 b hb] at this; cases this
  have more2 : MoreRaw M2 Mf := ⟨fun a m e => by
    have : a ∉ cs := fun z => by rw [M2n a z] at e; cases e
    rw [Mfs a this]; exact e, fun a m e => by
    by_cases ha : a ∈ cs
    · rw [Mfn a ha] at e; cases e; exact .inr ⟨_, rfl⟩
    · rw [Mfs a ha] at e; exact .inl e⟩
  have env3 := I3.env0
  have hok' : HOk X.prog X.w H' s3.heap := fun b u e => by
    by_cases hb : b ∈ cs
    · rw [H'n b hb] at e; cases e; exact pinO_ok (cob b hb).1
    · rw [H's b hb] at e
      exact (I3.hok b u e).stay (fun c v _ z => z) (fun c z => (inH c _ z).2) fun c xs z => (inH c _ z).2
  have env' : Env0 X.prog X.w X.K X.mg X.base X.A X.stack s3 H' := ⟨env3.frames, env3.mod, fun b o e => ⟨(env3.bs b o e).1, by
    have : b ∉ cs := fun z => absurd (Nat.lt_of_lt_of_le (Heap.lt_size e) (Nat.le_trans I3.ok.bsz (cab b z))) (Nat.lt_irrefl _)
    rw [H's b this]; exact (env3.bs b o e).2⟩, env3.bsz, env3.funs, fun b hb => by
    have : b ∉ cs := fun z => cfr b z hb
    rw [H's b this]; exact env3.frf b hb, hok', env3.bare⟩
  have st' : Stt X.K F3 R H' Mf := by
    refine ⟨fun a o e => (inH _ _ (st3.fz a o e)).2, fun a o e => ?_, fun a m e => ?_, st3.nf, st3.nr⟩
    · obtain ⟨g1, g2, g3⟩ := st3.rs a o e
      have ha : a ∉ cs := fun z => g1.there (cn3 a z)
      exact ⟨g1.imp (fun u eu => (inH _ _ eu).2) fun c q ec => (inH _ _ ec).2, g2, by rw [Mfs a ha]; exact g3⟩
    · by_cases ha : a ∈ cs
      · rw [Mfn a ha] at e
        cases e
        exact ⟨F3n a ha, _, H'n a ha, (show RepO X.K F3 (PinO _ _) (.raw (PinO _ _)) from rfl)⟩
      · rw [Mfs a ha] at e
        obtain ⟨g1, o, g2, g3⟩ := st3.ow a m e
        exact ⟨g1, o, (inH _ _ g2).2, g3⟩
  have Mff : Mf f = some (.raw (PinO f (PySem.W.kla_obj "<lambda>" q params body scope cl pm c' ctv))) := more2.1 _ _ M2f
  have Mfc : Mf c' = some (.raw (CodeO c' q)) := more2.1 _ _ M2c
  have has : HasFn (ctOf X F0) (kb + 1) Mf (.fn f F3) (spL tb ps.length ws) := by
    refine ⟨(f, PinO f (PySem.W.kla_obj "<lambda>" q params body scope cl pm c' ctv)) :: (c', CodeO c' q) :: cs.map fun c => (c, PinO c (ob c)), ⟨_, _, _, _, .inl List.mem_cons_self⟩, fun p hp => ?_, ?_⟩
    · rcases List.mem_cons.mp hp with rfl | hp
      · exact Mff
      rcases List.mem_cons.mp hp with rfl | hp
      · exact Mfc
      · obtain ⟨b, hb, rfl⟩ := List.mem_map.mp hp
        exact Mfn b hb
    · refine lam_sem (C := ctOf X F0) (wv := wv) S hN (fun us hl => hbind _ _ _ _ us hl) (fun A outer s H F0' R0' hr => hbody f c' cl A outer s H F0' R0' hr) (fun y b e => List.mem_map.mpr ⟨(y, b), PySem.mem_of_lookup e, rfl⟩) (fun b hb => (cob b hb).2) CA.inj (fun i y e => ?_) ?_ rw_
      · obtain ⟨b, hb1, hb2⟩ := CA.has i y e
        refine ⟨b, hb1, fun v ev => ?_⟩
        obtain ⟨u, ru, o, ho, hd⟩ := hb2 v (by rw [List.getElem?_map, ev]; rfl)
        refine ⟨u, ru, ?_⟩
        have : ob b = o := by show (s3.heap.get? b).getD default = o; rw [ho]; rfl
        rw [this]; exact hd
      · have := CA.len
        rwa [List.length_map] at this
  have hcall := hsp (.fn f F3) Mf more2 has
  have rl : Vals [v1, .ref f, v3] [u1, .ref f, u3] := .cons rl1 (.cons rfl (.cons rl3 .nil))
  have rp : RepAll X.K F3 [v1, .ref f, v3] [d1, .fn f F3, d3] := .cons (rp1.ext ex3) (.cons (.fn Ext.refl) (.cons rp3 .nil))
  have spv : liSp X.K F0.T sp [v1, .ref f, v3] H' (fun v H4 => ∃ F4 r, Ext F3 F4 ∧ Stt X.K F4 R H4 Mf ∧ Rep X.K F4 v r ∧ Q' r M1) E0 :=
    ⟨F3, R, _, Mf, _, _, st', e0.t, rp, hcall, fun v H4 F4 r M4 e4 st4 r4 ⟨z1, z2⟩ => by subst z1; exact ⟨F4, r, e4, st4, r4, z2⟩, fun _ _ _ _ _ _ _ _ _ z => z⟩
  have hl3 : [u1, Value.ref f, u3].length = psg.length := by
    rw [← rl.length]; exact Fg.len _ _ _ _ spv
  have hbind3 := hb s3 [u1, .ref f, u3] I3.kIn (by rw [List.append_nil]; exact hl3)
  rw [List.append_nil] at hbind3
  refine wpAny_call (codeAny_mono (Fg.run X.A X.stack s3 H' ⟨[u1, .ref f, u3], []⟩ _ _ _ _ hr env' hbind3 rl spv) fun r s' hq => ?_)
  cases r with
  | error e => exact False.elim hq
  | ok fl =>
    cases fl with
    | next => exact False.elim hq
    | brk => exact False.elim hq
    | cont => exact False.elim hq
    | ret u =>
      obtain ⟨v, H4, os4, bare4, un, hok4, rv, F4, r, ex4, st4, rp4, q4⟩ := hq
      -- the cells are the frame's own again
      have obk : ∀ b ∈ cs, H4 b = some (PinO b (ob b)) ∧ s'.heap.get? b = some (ob b) := fun b hb => by
        obtain ⟨_, o, ho, ro⟩ := st4.ow _ _ (Mfn b hb)
        have : o = PinO b (ob b) := ro.raw
        subst this
        exact ⟨ho, pinO_at hok4 ho⟩
      let H5 : Hp := fun b => if b ∈ cs then none else H4 b
      have H5n : ∀ b, b ∈ cs → H5 b = none := fun b h => if_pos h
      have H5s : ∀ b, b ∉ cs → H5 b = H4 b := fun b h => if_neg h
      have keepNX : ∀ b u, H4 b = some u → NE u → H5 b = some u := fun b u e n => by
        have : b ∉ cs := fun z => by rw [(obk b z).1] at e; cases e; exact n
        rw [H5s b this]; exact e
      have un5 : Un (frs X.stack) [] H3 H5 s3.heap s'.heap := by
        refine ⟨fun b o e n hf hx => ?_, fun b o e n hf hx => ?_, fun b o e n hx => ?_, fun b o e hx => un.there b o e hx, fun b xs e => keepNX _ _ (un.tups b xs (inH _ _ e).2) trivial, fun b o u e => keepNX _ _ (un.frzs b o u (inH _ _ e).2) trivial, fun b ps e => ?_⟩
        · by_cases hb : b ∈ cs
          · rw [(cob b hb).1] at e; cases e; exact (obk b hb).2
          · exact un.keep b o e (by rw [H's b hb]; exact n) hf hx
        · by_cases hb : b ∈ cs
          · exact absurd hf (cfr b hb)
          · exact un.slot b o e (by rw [H's b hb]; exact n) hf hx
        · by_cases hb : b ∈ cs
          · exact H5n b hb
          · rw [H5s b hb]; exact un.free b o e (by rw [H's b hb]; exact n) hx
        · obtain ⟨more, z⟩ := un.tbls b ps (inH _ _ e).2
          exact ⟨more, keepNX _ _ z trivial⟩
      have hok5 : HOk X.prog X.w H5 s'.heap := fun b u e => by
        by_cases hb : b ∈ cs
        · rw [H5n b hb] at e; cases e
        · rw [H5s b hb] at e
          exact (hok4 b u e).stay (fun c v _ z => z) (fun c z => keepNX _ _ z trivial) fun c xs z => keepNX _ _ z trivial
      have st5 : Stt X.K F4 R H5 M1 := by
        refine ⟨fun a o e => keepNX _ _ (st4.fz a o e) (st4.nf a o e).ne, fun a o e => ?_, fun a m e => ?_, st4.nf, st4.nr⟩
        · obtain ⟨g1, g2, g3⟩ := st4.rs a o e
          have ha : a ∉ cs := fun z => by rw [Mfn a z] at g3; cases g3
          refine ⟨g1.imp (fun u eu => by rw [H5s a ha]; exact eu) (fun b q' eb => ?_), g2, ?_⟩
          · by_cases hb : b ∈ cs
            · obtain ⟨v', hv'⟩ := (cob b hb).2
              exact (cell_code hok4 eb (obk b hb).2 hv').elim
            · rw [H5s b hb]; exact eb
          · cases em : M1 a with
            | none => rfl
            | some m =>
              have := (more1.trans more2).1 a m em
              rw [g3] at this; cases this
        · obtain ⟨g1, o, g2, g3⟩ := st4.ow a m ((more1.trans more2).1 a m e)
          have ha : a ∉ cs := fun z => by
            have := M2n a z
            rw [more1.1 a m e] at this; cases this
          exact ⟨g1, o, by rw [H5s a ha]; exact g2, g3⟩
      exact I3.after ⟨v, H5, os4, bare4, un5, hok5, rv, kq v H5 F4 r M1 (ex1.trans (ex3.trans ex4)) st5 rp4 q4⟩
end
end DL

namespace DL
open PySem PySem.Spec PyProof.Rows L2 LamX NdefX
/-! ### a def whose code object is known -/
structure FunC (K : PySem.W.Frag) (x qual : Str) (st : Stmt) (f : Addr) (fd : FuncData) (c : Addr) : Prop where
  ex : ∃ (oc : Value) (od : Option Addr) (kV doc pm : Value) (an : Option Addr) (ct : Value) (osl : Array (Option Value)),
    fd = PySem.W.fnOf x qual (defArgs st) (defBody st) (defScope st) .none kV doc pm an (.ref c) ct ∧ K.lookup f = some ⟨oc, od, .func fd, osl⟩ ∧ PySem.W.codeIn K (.ref c) qual = true
  kp : PySem.W.keepIn K (.ref f) = true
section
variable {P : Program} {w : World} {K : PySem.W.Frag} {mg : Str → Option Value} {base : Heap}
theorem FunC.to {x qual : Str} {st : Stmt} {f c : Addr} {fd : FuncData} (F : FunC K x qual st f fd c) : Fun K x qual st f fd := by
  obtain ⟨oc, od, kV, doc, pm, an, ct, osl, h1, h2, h3⟩ := F.ex
  exact ⟨⟨oc, od, kV, doc, pm, an, .ref c, ct, osl, h1, h2, h3⟩, F.kp⟩
theorem funC_mk {x qual : Str} {st : Stmt} {f c : Addr} {oc : Value} {od an : Option Addr} {osl : Array (Option Value)} {kV doc pm ct : Value} (l : K.lookup f = some ⟨oc, od, .func (PySem.W.fnOf x qual (defArgs st) (defBody st) (defScope st) .none kV doc pm an (.ref c) ct), osl⟩)
    (cc : PySem.W.codeIn K (.ref c) qual = true) (k : PySem.W.keepIn K (.ref f) = true) : FunC K x qual st f (PySem.W.fnOf x qual (defArgs st) (defBody st) (defScope st) .none kV doc pm an (.ref c) ct) c := ⟨⟨oc, od, kV, doc, pm, an, ct, osl, rfl, l, cc⟩, k⟩
theorem FunC.okD {x qual : Str} {st : Stmt} {f c : Addr} {fd : FuncData} {N ps : List Str} {k : Nat} {sp : SpD} {T : List (Addr × Str)} (F : FunC K x qual st f fd c) (S : FnScope N ps (defScope st)) (len : ∀ ds M Q E, sp ds M Q E → ds.length = ps.length) {t : DS}
    (hbody : ∀ (A : Around) (outer : List Env) (s : Shared) (H : Hp) (E : XK) (F0 R0 : Hp), Room k (A.deeper (envOfC qual (defScope st) s.heap.objs.size f (.ref c))) →
      PSs (cxOf CX0 P w K mg base N qual (defScope st) f (.ref c) A outer s H E).nox (defBody st) (liS K ⟨F0, R0, T⟩ t))
    (hq : Rds t N sp) : FnOk P w K mg base CX0 (k + 1) f fd ps (liSp K T sp) := by
  obtain ⟨oc, od, kV, doc, pm, an, ct, osl, rfl, lk, hcd⟩ := F.ex
  refine fn_of lk hcd S (fun vs H Q E ⟨F, R, ds, M, Q', E', st, _, ra, h, _, _⟩ => by rw [ra.len]; exact len _ _ _ _ h) fun A outer s H vs Q E hr ⟨F, R, ds, M, Q', E', st, tr, ra, h, kQ, kE⟩ => ?_
  refine ⟨_, (hbody A outer s H E F R hr).nox, F, R, startD N ds, M, _, ⟨Ext.refl, Ext.refl, tr⟩, st, slots_start ra, hq ds M Q' E' h, ?_⟩
  refine ⟨fun σ2 H2 F2 τ2 M2 e2 st2 sl2 ⟨M3, h3, q3⟩ => kQ _ _ _ _ _ e2 (st2.less h3) .non q3, fun v H2 F2 d M2 e2 st2 r2 ⟨M3, h3, q3⟩ => kQ _ _ _ _ _ e2 (st2.less h3) r2 q3, fun _ _ _ _ _ _ _ _ z => z, fun _ _ _ _ _ _ _ _ z => z⟩
end
/-! ### what is never reached -/
def dNever : DS := fun _ _ _ => False
theorem sd_never {X : Cx} {F0 : Bs} {st : Stmt} : PS X st (liS X.K F0 dNever) := ⟨fun pins s σ H D I ⟨_, _, _, _, _, _, _, _, q, _⟩ => q.elim⟩
/-! ### max(xs, default=d) -/
theorem foldl_max : ∀ (ns : List Int) (n : Int), ns.foldl max n ∈ n :: ns ∧ ∀ y ∈ n :: ns, y ≤ ns.foldl max n
  | [], n => ⟨List.mem_cons_self, fun y hy => by rw [List.mem_singleton.mp hy]; exact Int.le_refl _⟩
  | m :: ns, n => by
    obtain ⟨h1, h2⟩ := foldl_max ns (max n m)
    show ns.foldl max (max n m) ∈ _ ∧ ∀ y ∈ _, y ≤ ns.foldl max (max n m)
    have hm : max n m ≤ ns.foldl max (max n m) := h2 _ List.mem_cons_self
    refine ⟨?_, fun y hy => ?_⟩
    · rcases List.mem_cons.mp h1 with z | z
      · rw [z]
        by_cases h : n ≤ m
        · rw [Int.max_eq_right h]; exact List.mem_cons_of_mem _ List.mem_cons_self
        · rw [Int.max_eq_left (by omega)]; exact List.mem_cons_self
      · exact List.mem_cons_of_mem _ (List.mem_cons_of_mem _ z)
    · rcases List.mem_cons.mp hy with rfl | hy
      · omega
      rcases List.mem_cons.mp hy with rfl | hy
      · omega
      · exact h2 y (List.mem_cons_of_mem _ hy)
def rMaxDf (K : PySem.W.Frag) : List V → List V → Hp → VK → Prop := fun vs zs H Q => ∃ (a : Addr) (ns : List Int) (d : V), vs = [V.ref a] ∧ zs = [d] ∧ SqL K H a (ns.map V.int) ∧ (ns = [] → Q d H) ∧ ∀ m, m ∈ ns → (∀ y, y ∈ ns → y ≤ m) → Q (.int m) H
theorem reads_ints {h : Heap} : ∀ {its : List Value} {ns : List Int}, Vals (ns.map V.int) its → ∃ as, ReadsAll h its (ns.map PyData.int) as
  | _, [], .nil => ⟨[], .nil⟩
  | _, n :: ns, .cons r t => by
    obtain ⟨tk, rfl⟩ := r
    obtain ⟨as, h2⟩ := reads_ints (ns := ns) t
    exact ⟨[] ++ as, .cons (.int n tk) h2⟩
theorem depth_ints : ∀ ns : List Int, PyData.depthAll (ns.map PyData.int) ≤ 1
  | [] => by simp [PyData.depthAll]
  | n :: ns => by
    have := depth_ints ns
    simp [PyData.depthAll, PyData.depth]; omega
section
variable {X : Cx}
theorem cr_maxDf (hc : X.calm = true) (hu : X.A.units + 64 < cLine) : CallRK X (.builtin "max") [Str.ofString "default"] (rMaxDf X.K) := by
  intro pins s σ H vs zs us ws Q I r rz h
  obtain ⟨a, ns, d, rfl, rfl, hs, q0, q⟩ := h
  obtain rfl := Vals.ref1 r
  obtain ⟨w1, rfl, e1⟩ := vals1 rz
  obtain ⟨its, rv, hl, _⟩ := I.list hs
  obtain ⟨as, ra⟩ := reads_ints (h := s.heap) rv
  have ha : PySem.W.AlikeAll (ns.map PyData.int) := ⟨fun x hx y hy => by
    obtain ⟨i, _, rfl⟩ := List.mem_map.mp hx
    obtain ⟨j, _, rfl⟩ := List.mem_map.mp hy
    rfl, fun x hx z => by
    obtain ⟨i, _, rfl⟩ := List.mem_map.mp hx
    cases z⟩
  refine PySem.W.max_list_default (as := as) (I.ok.hd hc) hl.isList (by simpa using ra) ha (by have := depth_ints ns; omega) (fun e h' tk hk => ?_) fun y ys i v h' tk bs e hv hr hk => ?_
  · have : ns = [] := by cases ns <;> first | rfl | cases e
    exact ⟨d, H, I.kept hk, e1, q0 this⟩
  · cases ns with
    | nil => cases e
    | cons n ns =>
      cases e
      rw [PySem.W.maxD_ints] at hr
      cases hr
      obtain ⟨h1, h2⟩ := foldl_max ns n
      exact ⟨.int _, H, I.kept hk, ⟨_, rfl⟩, q _ h1 h2⟩
variable {F0 : Bs} {p pos kpos : Pos} {e d : Expr} {te td : DE}
def dMaxDf (te td : DE) : DE := fun τ M Q => te τ M fun x M1 => td τ M1 fun y M2 => match lsOf M2 x with
  | some xs => match intsOf xs with
    | some ns => (ns = [] → Q y M2) ∧ ∀ m, m ∈ ns → (∀ z, z ∈ ns → z ≤ m) → Q (.int m) M2
    | none => False
  | none => False
theorem pd_maxDf (hc : X.calm = true) (hu : X.A.units + 64 < cLine) (hg : Gl X "max") (hm : X.mg "max" = none) (hv : bootBuiltins "max" = some (.builtin "max")) (ha : PE X e (liE X.K F0 te)) (hd : PE X d (liE X.K F0 td))
    (hs : starEach [e] X.env = [(false, eval e X.env)] := by rfl) :
    PE X (.Call (.Name "max" p) [e] [⟨some "default", d, kpos⟩] pos) (liE X.K F0 (dMaxDf te td)) := by
  refine peImp (pe_callBK (cr_maxDf hc hu) hg hm hv (pa_cons ha pa_nil hs) (pk_cons hd pk_nil) (by decide) (by decide) (by rw [hs]; rfl) (by rw [hs]; rfl) rfl rfl rfl) fun σ H Q ⟨F, R, τ, M, Q', e0, st, sl, q, k⟩ => ?_
  refine ⟨F, R, τ, M, _, e0, st, sl, q, fun v H1 F1 x M1 e1 st1 r1 q1 => ?_⟩
  refine ⟨F1, R, τ, M1, _, e0.trans e1, st1, sl.ext e1, q1, fun v2 H2 F2 y M2 e2 st2 r2 q2 => ?_⟩
  split at q2 <;> try exact q2.elim
  rename_i xs hx
  split at q2 <;> try exact q2.elim
  rename_i ns hn
  obtain ⟨a, vs, rfl, g1, ra⟩ := ls_get st2 (r1.ext e2) hx
  obtain rfl := ints_eq hn
  obtain rfl := ra.ints
  exact ⟨a, ns, v2, rfl, rfl, g1, fun z => k _ _ _ _ _ (e1.trans e2) st2 r2 (q2.1 z), fun m h1 h2 => k _ _ _ _ _ (e1.trans e2) st2 (.int m) (q2.2 m h1 h2)⟩
end
def kMaxDf2 (x : D) (Q : QD) : QD := fun y M2 => match lsOf M2 x with
  | some xs => match intsOf xs with
    | some ns => (ns = [] → Q y M2) ∧ ∀ m, m ∈ ns → (∀ z, z ∈ ns → z ≤ m) → Q (.int m) M2
    | none => False
  | none => False
def kMaxDf1 (td : DE) (τ : SD) (Q : QD) : QD := fun x M1 => td τ M1 (kMaxDf2 x Q)
theorem s_maxDf {te td : DE} {τ : SD} {M : Mp} {Q : QD} (h : te τ M (kMaxDf1 td τ Q)) : dMaxDf te td τ M Q := h
theorem s_kmaxDf1 {td : DE} {τ : SD} {M : Mp} {Q : QD} {x : D} (h : td τ M (kMaxDf2 x Q)) : kMaxDf1 td τ Q x M := h
theorem s_kmaxDf2 {M : Mp} {Q : QD} {x y : D} {ds : List D} {ns : List Int} (e : lsOf M x = some ds) (e2 : intsOf ds = some ns) (h0 : ns = [] → Q y M) (h : ∀ m, m ∈ ns → (∀ z, z ∈ ns → z ≤ m) → Q (.int m) M) : kMaxDf2 x Q y M := by
  unfold kMaxDf2
  simp only [e, e2]
  exact ⟨h0, h⟩
/-! steps -/
section
variable {τ : SD} {M : Mp} {Q : QD} {C : Ct} {k i : Nat} {t : DA} {d : D} {sp : SpD}
def kCallV (C : Ct) (k : Nat) (d : D) (sp : SpD) (Q : QD) : List D → Mp → Prop := fun ds M1 => HasFn C k M1 d sp ∧ sp ds M1 Q E0D
theorem s_callV (sp : SpD) (e : τ[i]? = some (some d)) (h : HasFn C k M d sp) (q : t τ M (kCallV C k d sp Q)) : dCallV C k i t τ M Q := ⟨d, sp, e, h, q⟩
theorem s_kcallV {ds : List D} (h : HasFn C k M d sp) (q : sp ds M Q E0D) : kCallV C k d sp Q ds M := ⟨h, q⟩
variable {js : List Nat} {n : Nat} {tb t1 t3 : DE}
def kCallL (C : Ct) (k : Nat) (js : List Nat) (n : Nat) (tb : DE) (sp : SpD) (t3 : DE) (τ : SD) (Q : QD) : QD := fun d1 M1 => ∃ ws : List D, js.map (fun j => τ[j]?) = ws.map (fun d => some (some d)) ∧
  ∀ M2, MoreRaw M1 M2 → t3 τ M2 fun d3 M3 => M3 = M2 ∧ ∀ d Mf, MoreRaw M2 Mf → HasFn C k Mf d (spL tb n ws) → sp [d1, d, d3] Mf (fun r M4 => M4 = Mf ∧ Q r M1) E0D
theorem s_callL (h : t1 τ M (kCallL C k js n tb sp t3 τ Q)) : dCallL C k js n tb sp t1 t3 τ M Q := h
def kCallL3 (C : Ct) (k n : Nat) (tb : DE) (sp : SpD) (ws : List D) (d1 : D) (M1 M2 : Mp) (Q : QD) : QD := fun d3 M3 => M3 = M2 ∧ ∀ d Mf, MoreRaw M2 Mf → HasFn C k Mf d (spL tb n ws) → sp [d1, d, d3] Mf (fun r M4 => M4 = Mf ∧ Q r M1) E0D
theorem s_kcallL (ws : List D) (e : js.map (fun j => τ[j]?) = ws.map (fun d => some (some d))) (h : ∀ M2, MoreRaw M M2 → t3 τ M2 (kCallL3 C k n tb sp ws d M M2 Q)) : kCallL C k js n tb sp t3 τ Q d M := ⟨ws, e, h⟩
theorem s_kcallL3 {ws : List D} {d1 d3 : D} {M1 : Mp} (h : ∀ d Mf, MoreRaw M Mf → HasFn C k Mf d (spL tb n ws) → sp [d1, d, d3] Mf (fun r M4 => M4 = Mf ∧ Q r M1) E0D) : kCallL3 C k n tb sp ws d1 M1 M Q d3 M := ⟨rfl, h⟩
end
/-- over data that nobody changes, each item gives one that is related to it, and M stays -/
theorem s_klcRel {α β : Type} {plain : Bool} {is vs : List Nat} {fin : List D → Mp → QD → Prop} {te : DE} {τ : SD} {M : Mp} {Q : QD} {x : D} {xs : List α} (enc : α → D) (enc' : β → D) (Rl : α → β → Prop) (hx : ∀ M, sqOf M x = some (xs.map enc)) (hl : xs.length ≤ sizeLine)
    (hs : ∀ a ∈ xs, ∃ τ2, bindD plain is (enc a) (wipeD τ vs) = some τ2 ∧ ∀ Q : QD, (∀ b, Rl a b → Q (enc' b) M) → te τ2 M Q)
    (hd : ∀ l : List β, l.length = xs.length → (∀ (i : Nat) (a : α) (b : β), xs[i]? = some a → l[i]? = some b → Rl a b) → fin (l.map enc') M Q) : kLc fin plain is vs dYes te τ Q (itSeq x (xs.map enc)) M := by
  refine ⟨fun i acc M' => M' = M ∧ ∃ l : List β, acc = l.map enc' ∧ l.length = i ∧ ∀ (j : Nat) (a : α) (b : β), xs[j]? = some a → l[j]? = some b → Rl a b, ⟨rfl, [], rfl, rfl, fun j a b _ e => by simp at e⟩, fun i acc M' hi p => hx M', fun i acc M' hi p => ?_, fun acc M' p => ?_⟩
  · obtain ⟨rfl, l, rfl, hll, hr⟩ := p
    have hi : i < (xs.map enc).length := hi
    rw [List.length_map] at hi
    have e := List.getElem?_eq_getElem hi
    obtain ⟨τ2, e2, h2⟩ := hs _ (List.getElem_mem hi)
    have e3 : (itSeq x (xs.map enc)).at' i = enc xs[i] := by
      show (xs.map enc).getD i .non = _
      refine getD_of ?_
      rw [List.getElem?_map, e]; rfl
    rw [e3, e2]
    show te τ2 M' _
    refine h2 _ fun b hb => ⟨?_, rfl, l ++ [b], ?_, ?_, ?_⟩
    · rw [List.length_map]; omega
    · rw [List.map_append]; rfl
    · rw [List.length_append, hll]; rfl
    · intro j a c ea ec
      by_cases hj : j < i
      · rw [List.getElem?_append_left (by omega)] at ec
        exact hr j a c ea ec
      · rw [List.getElem?_append_right (by omega)] at ec
        have hj2 : j = i := by
          by_cases z : j - l.length = 0
          · omega
          · rw [show j - l.length = (j - l.length - 1) + 1 by omega] at ec
            simp at ec
        subst hj2
        rw [e] at ea
        rw [show j - l.length = 0 by omega] at ec
        cases ea
        simp at ec
        subst ec
        exact hb
  · obtain ⟨rfl, l, rfl, hll, hr⟩ := p
    refine hd l ?_ hr
    rw [hll]
    show (xs.map enc).length = _
    rw [List.length_map]
end DL

namespace DL
open PySem PySem.Spec PyProof.Rows L2 LamX NdefX
/-! ### a def of the module as a value -/
def dGFn (C : Ct) (k : Nat) (sp : SpD) : DE := fun _ M Q => ∀ d, (∀ M, HasFn C k M d sp) → Q d M
section
variable {X : Cx} {F0 : Bs}
theorem fun_lookup {K : PySem.W.Frag} {x qual : Str} {st : Stmt} {f : Addr} {fd : FuncData} (F : Fun K x qual st f fd) : ∃ oc od sl, K.lookup f = some ⟨oc, od, .func fd, sl⟩ := by
  obtain ⟨oc, od, kV, doc, pm, an, cdv, ct, osl, rfl, lk, hcd⟩ := F.ex
  exact ⟨oc, od, osl, lk⟩
theorem pd_gfn {k : Nat} {f : Addr} {fd : FuncData} {ps : List Str} {sp : SpD} {x : Str} {pos : Pos} {st : Stmt} {qx : Str} (F : FnOk X.prog X.w X.K X.mg X.base CX0 k f fd ps (liSp X.K F0.T sp)) (hl : ∀ ds M Q E, sp ds M Q E → ds.length = ps.length) (hF : Fun X.K x qx st f fd) (hg : Gl X x) (hm : X.mg x = some (.ref f)) (hb : Binds X.K fd ps [])
    (hdb : (x == ("__debug__" : Str)) = false := by decide) : PE X (.Name x pos) (liE X.K F0 (dGFn (ctOf X F0) k sp)) := by
  refine ⟨fun pins s σ H Q I ⟨F1, R, τ, M, Q', e0, st, sl, q, kq⟩ => ?_⟩
  refine ld_glob I hg hm ?_ hdb
  refine ⟨.ref f, H, I, rfl, kq _ _ F1 (.fn f fun _ => none) M Ext.refl st (.fn fun a o e => by cases e) (q _ fun M2 => ?_)⟩
  obtain ⟨oc, od, osl, lk⟩ := fun_lookup hF
  refine ⟨[], ⟨oc, od, fd, osl, .inr lk⟩, fun p hp => (nomatch hp), ?_⟩
  intro A outer s2 H2 F2 R2 M3 ds us vs Q2' Q2 hr en st2 tr eG hd ra r hsp kq2
  have hl2 : us.length = ps.length := by rw [← r.length, ra.len]; exact hl _ _ _ _ hsp
  have KX : X.K.In s2.heap := en.mod.kin.keeps fun b o e => (en.bs b o e).1
  have hb2 := hb s2 us KX (by rw [List.append_nil]; exact hl2)
  rw [List.append_nil] at hb2
  exact codeAny_mono (F.run A outer s2 H2 ⟨us, []⟩ us vs Q2 (fun _ _ _ => False) hr en hb2 r ⟨F2, R2, ds, M3, Q2', E0D, st2, tr, ra, hsp, kq2, fun _ _ _ _ _ _ _ _ _ z => z⟩) fun r s' h => h
end
theorem s_gfn {C : Ct} {k : Nat} {sp : SpD} {τ : SD} {M : Mp} {Q : QD} (h : ∀ d, (∀ M, HasFn C k M d sp) → Q d M) : dGFn C k sp τ M Q := h
theorem HasFn.lvl {C : Ct} {j k : Nat} {M : Mp} {d : D} {sp : SpD} (h : HasFn C j M d sp) (e : j ≤ k) : HasFn C k M d sp := by
  cases d with
  | fn f G =>
    obtain ⟨deps, h1, h2, h3⟩ := h
    exact ⟨deps, h1, h2, fun A outer s H F R M ds us vs Q' Q a => h3 A outer s H F R M ds us vs Q' Q (a.mono e)⟩
  | _ => exact h
/-! ### a loop over a list that stays -/
section
variable {nx bk ct : SD → Mp → Prop} {rt : QD} {τ : SD} {M : Mp}
theorem s_kforI {tb : DS} {is : List Nat} {plain : Bool} {ds : List D} {x : D} (Pv : Nat → SD → Mp → Prop) (hx : ∀ i τ M, i ≤ ds.length → Pv i τ M → sqOf M x = some ds) (h0 : Pv 0 τ M)
    (hs : ∀ i d τ M, ds[i]? = some d → Pv i τ M → gD plain is d τ M fun τ2 M2 => tb ⟨Pv (i + 1), rt, nx, Pv (i + 1)⟩ τ2 M2) (hd : ∀ τ M, Pv ds.length τ M → nx τ M) : kFor (gD plain is) tb ⟨nx, rt, bk, ct⟩ τ (itSeq x ds) M :=
  ⟨Pv, h0, fun i τ M hi p => hx i τ M hi p, fun i τ M hi p => by
    have hi : i < ds.length := hi
    have e := List.getElem?_eq_getElem hi
    show gD plain is (ds.getD i .non) τ M _
    rw [getD_of e]
    exact hs i _ τ M e p, hd⟩
end
end DL

namespace DL
open PySem PySem.Spec PyProof.Rows L2 LamX NdefX
/-! ### an expression that is never reached -/
def dNeverE : DE := fun _ _ _ => False
theorem pd_never {X : Cx} {F0 : Bs} {e : Expr} : PE X e (liE X.K F0 dNeverE) := ⟨fun pins s σ H Q I ⟨_, _, _, _, _, _, _, _, q, _⟩ => q.elim⟩
/-- over data that nobody changes, each item gives one that is related to it, and M stays -/
theorem s_klcRelM {α β : Type} {plain : Bool} {is vs : List Nat} {fin : List D → Mp → QD → Prop} {te : DE} {τ : SD} {M : Mp} {Q : QD} {x : D} {xs : List α} (enc : α → D) (enc' : β → D) (Rl : α → β → Prop) (hx : sqOf M x = some (xs.map enc)) (hl : xs.length ≤ sizeLine)
    (hs : ∀ a ∈ xs, ∃ τ2, bindD plain is (enc a) (wipeD τ vs) = some τ2 ∧ ∀ Q : QD, (∀ b, Rl a b → Q (enc' b) M) → te τ2 M Q)
    (hd : ∀ l : List β, l.length = xs.length → (∀ (i : Nat) (a : α) (b : β), xs[i]? = some a → l[i]? = some b → Rl a b) → fin (l.map enc') M Q) : kLc fin plain is vs dYes te τ Q (itSeq x (xs.map enc)) M := by
  refine ⟨fun i acc M' => M' = M ∧ ∃ l : List β, acc = l.map enc' ∧ l.length = i ∧ ∀ (j : Nat) (a : α) (b : β), xs[j]? = some a → l[j]? = some b → Rl a b, ⟨rfl, [], rfl, rfl, fun j a b _ e => by simp at e⟩, fun i acc M' hi p => by rw [p.1]; exact hx, fun i acc M' hi p => ?_, fun acc M' p => ?_⟩
  · obtain ⟨rfl, l, rfl, hll, hr⟩ := p
    have hi : i < (xs.map enc).length := hi
    rw [List.length_map] at hi
    have e := List.getElem?_eq_getElem hi
    obtain ⟨τ2, e2, h2⟩ := hs _ (List.getElem_mem hi)
    have e3 : (itSeq x (xs.map enc)).at' i = enc xs[i] := by
      show (xs.map enc).getD i .non = _
      refine getD_of ?_
      rw [List.getElem?_map, e]; rfl
    rw [e3, e2]
    show te τ2 M' _
    refine h2 _ fun b hb => ⟨?_, rfl, l ++ [b], ?_, ?_, ?_⟩
    · rw [List.length_map]; omega
    · rw [List.map_append]; rfl
    · rw [List.length_append, hll]; rfl
    · intro j a c ea ec
      by_cases hj : j < i
      · rw [List.getElem?_append_left (by omega)] at ec
        exact hr j a c ea ec
      · rw [List.getElem?_append_right (by omega)] at ec
        have hj2 : j = i := by
          by_cases z : j - l.length = 0
          · omega
          · rw [show j - l.length = (j - l.length - 1) + 1 by omega] at ec
            simp at ec
        subst hj2
        rw [e] at ea
        rw [show j - l.length = 0 by omega] at ec
        cases ea
        simp at ec
        subst ec
        exact hb
  · obtain ⟨rfl, l, rfl, hll, hr⟩ := p
    refine hd l ?_ hr
    rw [hll]
    show (xs.map enc).length = _
    rw [List.length_map]
end DL

namespace DL
open PySem PySem.Spec PyProof.Rows L2 LamX NdefX
/-! ### for x in reversed(a tuple) -/
def itRev (ds : List D) : ItD := ⟨ds.length, fun i => ds.getD (ds.length - 1 - i) .non, fun _ => True⟩
def iRevD (te : DE) : DTI := fun τ M Q => te τ M fun d M1 => match d with
  | .tup ds => Q (itRev ds) M1
  | _ => False
theorem rel_rev {K : PySem.W.Frag} {F : Hp} {a : Addr} {xs : List V} {ds : List D} (hs : SqT K F a xs) (ra : RepAll K F xs ds) : ItRel K F (RT.ItvT K a xs.length) (itRev ds) where
  go := fun i F2 R H M e st _ hi => by
    have hi : i < ds.length := hi
    have hl := ra.len
    exact ⟨by omega, xs, xs[xs.length - 1 - i]'(by omega), sqTMono st.fz (sqTMono e hs), List.getElem?_eq_getElem _⟩
  yld := fun i F2 R H M x H' e st _ hi y => by
    obtain ⟨rfl, y⟩ := y
    have hi : i < ds.length := hi
    have hl := ra.len
    obtain ⟨d', e1, e2⟩ := (ra.ext e).get (y xs (sqTMono st.fz (sqTMono e hs)))
    rw [hl] at e1
    exact ⟨F2, Ext.refl, st, by show Rep K F2 x (ds.getD (ds.length - 1 - i) .non); rw [getD_of e1]; exact e2, fun _ _ => rfl⟩
  stop := fun F2 R H M e st _ => by
    show xs.length ≤ ds.length
    rw [ra.len]; exact Nat.le_refl _
section
variable {X : Cx} {F0 : Bs} {tg e : Expr} {te : DE}
theorem id_rev {p pos : Pos} (hg : Gl X "reversed") (hm : X.mg "reversed" = none) (he : PE X e (liE X.K F0 te)) (hs : starEach [e] X.env = (false, eval e X.env) :: starEach [] X.env := by rfl) : PI X tg (.Call (.Name "reversed" p) [e] [] pos) (liI X.K F0 (iRevD te)) := by
  refine piImp (RT.pi_revA hg hm he hs) fun σ H Q ⟨F, R, τ, M, Q', e0, st, sl, q, k⟩ => ?_
  refine ⟨F, R, τ, M, _, e0, st, sl, q, fun v H1 F1 d M1 e1 st1 r1 q1 => ?_⟩
  cases d <;> try exact q1.elim
  cases r1 with
  | tup hs ra => exact ⟨_, _, rfl, .inr ⟨sqTMono st1.fz hs, k _ _ _ _ _ e1 st1 (rel_rev hs ra) q1⟩⟩
/-! ### xs[::-1] -/
def dRevL (te : DE) : DE := fun τ M Q => te τ M fun d M1 => match lsOf M1 d with
  | some ds => Q (.lst ds.reverse) M1
  | none => False
theorem pd_revL {k : Nat} {p1 p2 p3 pos : Pos} (he : PE X e (liE X.K F0 te)) : PE X (.Subscript e (.Slice none none (some (.UnaryOp .USub (.Constant (.int 1) k p1) p2)) p3) pos) (liE X.K F0 (dRevL te)) := by
  refine peImp (pe_revL he) fun σ H Q ⟨F, R, τ, M, Q', e0, st, sl, q, kk⟩ => ?_
  refine ⟨F, R, τ, M, _, e0, st, sl, q, fun v H1 F1 d M1 e1 st1 r1 q1 => ?_⟩
  split at q1 <;> try exact q1.elim
  rename_i ds h1
  obtain ⟨a, xs, rfl, hs, ra⟩ := ls_get st1 r1 h1
  exact ⟨a, xs, rfl, hs, fun p hp => (kk.ext e1).lst st1 hp ra.rev q1⟩
end
section
variable {nx bk ct : SD → Mp → Prop} {rt : QD} {E : EndsD} {τ : SD} {M : Mp} {QI : ItD → Mp → Prop} {Q : QD} {te : DE} {x : D} {ds : List D}
def kRev (QI : ItD → Mp → Prop) : QD := fun d M1 => match d with
  | .tup ds => QI (itRev ds) M1
  | _ => False
theorem s_revI (h : te τ M (kRev QI)) : iRevD te τ M QI := h
theorem s_krev (h : QI (itRev ds) M) : kRev QI (.tup ds) M := h
theorem s_kforV {tb : DS} {is : List Nat} {plain : Bool} (Pv : Nat → SD → Mp → Prop) (h0 : Pv 0 τ M)
    (hs : ∀ i d τ M, i < ds.length → ds[ds.length - 1 - i]? = some d → Pv i τ M → gD plain is d τ M fun τ2 M2 => tb ⟨Pv (i + 1), rt, nx, Pv (i + 1)⟩ τ2 M2) (hd : ∀ τ M, Pv ds.length τ M → nx τ M) : kFor (gD plain is) tb ⟨nx, rt, bk, ct⟩ τ (itRev ds) M :=
  ⟨Pv, h0, fun _ _ M _ _ => trivial, fun i τ M hi p => by
    have hi : i < ds.length := hi
    have e := List.getElem?_eq_getElem (l := ds) (i := ds.length - 1 - i) (by omega)
    show gD plain is (ds.getD (ds.length - 1 - i) .non) τ M _
    rw [getD_of e]
    exact hs i _ τ M hi e p, hd⟩
def kRevL (Q : QD) : QD := fun d M1 => match lsOf M1 d with
  | some ds => Q (.lst ds.reverse) M1
  | none => False
theorem s_revL (h : te τ M (kRevL Q)) : dRevL te τ M Q := h
theorem s_krevL (e : lsOf M x = some ds) (h : Q (.lst ds.reverse) M) : kRevL Q x M := by unfold kRevL; simp only [e]; exact h
end
end DL

namespace DL
open PySem PySem.Spec PyProof.Rows L2 LamX NdefX
/-! ### errors -/
theorem Stt.lessR {K : PySem.W.Frag} {F R R2 H : Hp} {M : Mp} (s : Stt K F R2 H M) (e : Ext R R2) : Stt K F R H M := ⟨s.fz, fun a o h => s.rs a o (e a o h), s.ow, s.nf, fun a o h => s.nr a o (e a o h)⟩
/-- the class of this name -/
def exV (C : Ct) (n : Str) : Value := (C.mg n).getD .none
theorem exV_of {C : Ct} {n : Str} {v : Value} (h : C.mg n = some v) : exV C n = v := by unfold exV; rw [h]; rfl
/-- raise X('..') -/
def dRaise (c : Value) (E : XD) : DS := fun _ _ M => E c none M
section
variable {X : Cx} {F0 : Bs} {x m : Str} {j : Nat} {p p2 pos pos2 : Pos} {Cc : Addr} {cv : Value} {B newId initId : String} {bmB : List Value}
theorem sd_raise {E' : XD} {E : XK} (hE : ∀ e dx H, liX X.K F0 E' e dx H → E e dx H) (hc : X.calm = true) (tk : Takes X (fun cls d _ H => E cls d H)) (hv : cv = .ref Cc) (F : ExcBaseFacts B newId initId bmB) (q : PySem.W.excIn X.K Cc bmB newId = true) (gC : X.mg x = some (.ref Cc)) (kC : PySem.W.keepIn X.K (.ref Cc) = true) (r : Raises X (.ref Cc)) (hg : Gl X x)
    (hdb : (x == ("__debug__" : Str)) = false := by decide) : PS X (.Raise (some (.Call (.Name x p) [.Constant (.str m) j p2] [] pos)) none pos2) (liS X.K F0 (dRaise cv E')) := by
  subst hv
  exact psImp (ps_raise hc tk (pmk_own F q gC kC r hg hdb)) fun D σ H ⟨F, R, τ, M, D', e0, st, sl, q, k⟩ => hE _ _ _ ⟨F, R, M, none, e0, st, trivial, q⟩
end
/-! what is wanted of an error, by the slots where it comes -/
def liXS (K : PySem.W.Frag) (F0 : Bs) (E' : SD → XD) : WX := fun e dx σ H => ∃ F R M fs τ, Bas F0 F R ∧ Stt K F R H M ∧ Slots K F σ τ ∧ RepX K F H dx fs ∧ E' τ e fs M
def dCallS (sp : SpD) (E : SD → XD) (t : DA) : DE := fun τ M Q => t τ M fun ds M1 => sp ds M1 Q (E τ)
section
variable {X : Cx} {F0 : Bs} {k : Nat} {f : Addr} {fd : FuncData} {ps : List Str} {sp : SpD} {x : Str} {p pos : Pos} {e : Expr} {es : List Expr} {t : DA}
/-- f(..) within a try -/
theorem pd_callS {W : WX} {E' : SD → XD} (hE : ∀ e dx σ H, liXS X.K F0 E' e dx σ H → W e dx σ H) (tk : Takes X W) (F : FnOk X.prog X.w X.K X.mg X.base (L2.CX X.prog X.w) k f fd ps (liSp X.K F0.T sp)) (hr : Room k X.A) (hg : Gl X x) (hm : X.mg x = some (.ref f)) (hk : PySem.W.keepIn X.K (.ref f) = true) (hb : Binds X.K fd ps [])
    (ha : PA X (e :: es) (liA X.K F0 t)) (hdb : (x == ("__debug__" : Str)) = false := by decide) (he : starEach (e :: es) X.env = (false, eval e X.env) :: starEach es X.env := by rfl) (hpl : (backTo pos (starEach es X.env)).any (·.1) = false := by rfl) :
    PE X (.Call (.Name x p) (e :: es) [] pos) (liE X.K F0 (dCallS sp E' t)) := by
  refine peImp (pe_callS F hr hg hm hk hb (fun σ => passAt tk σ) ha hdb he hpl) fun σ H Q ⟨F, R, τ, M, Q', e0, st, sl, q, k⟩ => ?_
  refine ⟨F, R, τ, M, _, e0, st, sl, q, fun vs H1 F1 ds M1 e1 st1 r1 q1 => ?_⟩
  exact ⟨F1, R, ds, M1, Q', E' τ, st1, e0.t, r1, q1, k.ext e1, fun e dx H2 F2 fs M2 e2 st2 rx qx => hE _ _ _ _ ⟨F2, R, M2, fs, τ, e0.trans (e1.trans e2), st2, sl.ext (e1.trans e2), rx, qx⟩⟩
end
/-- try .. except X .. else -/
def dTry (tb : (SD → XD) → DS) (c : Value) (ts u : DS) : DS := fun D τ M => tb (fun τ' e fs M' => e = c ∧ ts D τ' M') { D with nx := u D } τ M
section
variable {X : Cx} {F0 : Bs} {x : Str} {Cc : Addr} {cv : Value} {body suite orelse : List Stmt} {b₀ : Stmt} {np pos pos' : Pos} {tb : (SD → XD) → DS} {ts u : DS}
theorem sd_try (hs : X.stack = X.env :: X.outer) (hf : X.env.frame = some X.env.locals) (hv : cv = .ref Cc) (hc : Names X x (.ref Cc)) (hcc : PySem.W.exmOne X.K (.ref Cc) (.ref Cc) = some true) (ho : PSs X orelse (liS X.K F0 u))
    (hb : ∀ (W : WX) (pn : List (Addr × Obj)) (xe : Value → Shared → Prop) (FF RR : Hp) (E' : SD → XD), (∀ e dx σ H, liXS X.K ⟨FF, RR, F0.T⟩ E' e dx σ H → W e dx σ H) → Takes (X.tr pn xe) W → PSs (X.tr pn xe) body (liS X.K ⟨FF, RR, F0.T⟩ (tb E')))
    (hsu : ∀ (a : Addr) (oe : Obj) (cls : Value) (d : Option Addr) (pn : List (Addr × Obj)), Zc cls d oe → (∃ vs, oe.data = .fields vs) → PSs (X.suite a ((a, oe) :: pn)) (b₀ :: suite) (liS X.K F0 ts)) :
    PS X (.Try body [.ExceptHandler (some (.Name x np)) none (b₀ :: suite) pos'] orelse [] pos) (liS X.K F0 (dTry tb cv ts u)) := by
  subst hv
  refine ⟨fun pins s σ H D I ⟨F, R, τ, M, D', e0, st, sl, q, k⟩ => ?_⟩
  have T := ps_try_onlyE (X := X) (x := x) (np := np) (pos := pos) (pos' := pos') (body := body) (suite := suite) (b₀ := b₀) (Wout := fun _ _ _ _ => False) (ts := fun _ _ _ => liS X.K F0 ts) (u := liS X.K F0 u)
    (tb := fun W D2 σ2 H2 => D2 = { D with nx := liS X.K F0 u D } ∧ σ2 = σ ∧ H2 = H ∧ W = wOnly X.K (.ref Cc) (fun _ _ _ => liS X.K F0 ts) (fun _ _ _ _ => False) D) ho hs hf hc (fun _ _ z => by
      obtain ⟨_, _, _, _, _, _, _, _, _, _, _, _, _, _, _, _, z⟩ := z
      exact z.elim) (fun W pn xe tk _ => ⟨fun pins2 s2 σ2 H2 D2 I2 ⟨eD, eσ, eH, eW⟩ => ?_⟩) hsu
  · exact T.run pins s σ H D I ⟨rfl, rfl, rfl, rfl⟩
  · subst eD eσ eH
    refine (hb W pn xe F R (fun τ' e fs M' => e = .ref Cc ∧ ts D' τ' M') (fun e dx σ3 H3 h3 => ?_) tk).run pins2 s2 σ2 H2 _ I2 ⟨F, R, τ, M, { D' with nx := u D' }, ⟨Ext.refl, Ext.refl, e0.t⟩, st, sl, q, ⟨fun σ4 H4 F4 τ4 M4 e4 st4 sl4 q4 => ?_, k.rt, k.bk, k.ct⟩⟩
    · obtain ⟨F3, R3, M3, fs, τ3, b3, st3, sl3, rx, rfl, q3⟩ := h3
      rw [eW]
      refine ⟨true, hcc, fun _ a _ => ?_, fun z => by cases z⟩
      exact ⟨F3, R, τ3, M3, D', e0.trans b3.f, st3.lessR b3.r, sl3, q3, k.ext b3.f⟩
    · exact ⟨F4, R, τ4, M4, D', e0.trans e4, st4, sl4, q4, k.ext e4⟩
end
section
variable {P : Program} {w : World} {K : PySem.W.Frag} {mg : Str → Option Value} {base : Heap}
def RdsX (t : XD → DS) (N : List Str) (sp : SpD) : Prop := ∀ ds M Q E, sp ds M Q E → t E (fnE Q) (startD N ds) M
/-- a def that may raise -/
theorem Fun.okXD {x qual : Str} {st : Stmt} {f : Addr} {fd : FuncData} {N ps : List Str} {k : Nat} {sp : SpD} {T : List (Addr × Str)} (F : Fun K x qual st f fd) (S : FnScope N ps (defScope st)) (len : ∀ ds M Q E, sp ds M Q E → ds.length = ps.length) {t : XD → DS}
    (hbody : ∀ (cdv : Value) (A : Around) (outer : List Env) (s : Shared) (H : Hp) (E : XK) (F0 R0 : Hp) (E' : XD), Room k (A.deeper (envOfC qual (defScope st) s.heap.objs.size f cdv)) → (∀ e dx H, liX K ⟨F0, R0, T⟩ E' e dx H → E e dx H) → Takes (cxOf (L2.CX P w) P w K mg base N qual (defScope st) f cdv A outer s H E) (fun cls d _ H => E cls d H) →
      PSs (cxOf (L2.CX P w) P w K mg base N qual (defScope st) f cdv A outer s H E) (defBody st) (liS K ⟨F0, R0, T⟩ (t E')))
    (hq : RdsX t N sp) : FnOk P w K mg base (L2.CX P w) (k + 1) f fd ps (liSp K T sp) := by
  refine F.okX S (fun vs H Q E ⟨F, R, ds, M, Q', E', st, _, ra, h, _, _⟩ => by rw [ra.len]; exact len _ _ _ _ h) fun cdv A outer s H vs Q E hr ⟨F, R, ds, M, Q', E', st, tr, ra, h, kQ, kE⟩ => ?_
  refine ⟨_, hbody cdv A outer s H E F R E' hr (fun e dx H2 ⟨F2, R2, M2, fs, b2, st2, rx, q2⟩ => kE e dx H2 F2 fs M2 b2.f (st2.lessR b2.r) rx q2) (takes_of rfl rfl rfl rfl), F, R, startD N ds, M, _, ⟨Ext.refl, Ext.refl, tr⟩, st, slots_start ra, hq ds M Q' E' h, ?_⟩
  refine ⟨fun σ2 H2 F2 τ2 M2 e2 st2 sl2 ⟨M3, h3, q3⟩ => kQ _ _ _ _ _ e2 (st2.less h3) .non q3, fun v H2 F2 d M2 e2 st2 r2 ⟨M3, h3, q3⟩ => kQ _ _ _ _ _ e2 (st2.less h3) r2 q3, fun _ _ _ _ _ _ _ _ z => z, fun _ _ _ _ _ _ _ _ z => z⟩
end
/-- no error comes -/
theorem noX {K : PySem.W.Frag} {F0 : Bs} : ∀ e dx H, liX K F0 E0D e dx H → E0 e dx H := fun _ _ _ ⟨_, _, _, _, _, _, _, z⟩ => z
/-! the steps -/
section
variable {nx bk ct : SD → Mp → Prop} {rt : QD} {τ : SD} {M : Mp} {E : XD} {De : EndsD} {Q : QD} {al : DA} {sp : SpD}
theorem s_raise {c : Value} (h : E c none M) : dRaise c E De τ M := h
def kCallS (sp : SpD) (E : SD → XD) (τ : SD) (Q : QD) : List D → Mp → Prop := fun ds M1 => sp ds M1 Q (E τ)
theorem s_callS {E : SD → XD} (h : al τ M (kCallS sp E τ Q)) : dCallS sp E al τ M Q := h
theorem s_kcallS {E : SD → XD} {ds : List D} (h : sp ds M Q (E τ)) : kCallS sp E τ Q ds M := h
theorem s_try {tb : (SD → XD) → DS} {c : Value} {ts u : DS} (h : tb (fun τ' e fs M' => e = c ∧ ts ⟨nx, rt, bk, ct⟩ τ' M') ⟨u ⟨nx, rt, bk, ct⟩, rt, bk, ct⟩ τ M) : dTry tb c ts u ⟨nx, rt, bk, ct⟩ τ M := h
end
/-- what is known of an own error's class -/
structure ExcD (K : PySem.W.Frag) (mg : Str → Option Value) (n : Str) where
  c : Addr
  g : mg n = some (.ref c)
  q : PySem.W.excIn K c [.type "ValueError", .type "Exception", .type "BaseException", .type "object"] "ValueError.__new__" = true
  k : PySem.W.keepIn K (.ref c) = true
  s : PySem.W.subIn K (.ref c) (.type "BaseException") = some true
  t : PySem.W.typeIn K (.ref c) = some (.type "type")
  m : PySem.W.exmOne K (.ref c) (.ref c) = some true
theorem exm_self {K : PySem.W.Frag} {S : Addr} (h1 : PySem.W.subIn K (.ref S) (.type "BaseException") = some true) (h2 : PySem.W.isClsIn K S = true) (h3 : PySem.W.typeIn K (.ref S) = some (.type "type")) (h4 : PySem.W.subIn K (.ref S) (.ref S) = some true) :
    PySem.W.exmOne K (.ref S) (.ref S) = some true := by
  have h2 : (PySem.W.clsIn K S).isSome = true := h2
  have e1 : (PySem.W.subIn K (.ref S) (.type "BaseException") == some true) = true := by rw [h1]; rfl
  have e2 : ((PySem.W.clsIn K S).isSome && PySem.W.typeIn K (.ref S) == some (.type "type")) = true := by rw [h2, h3]; rfl
  show (if (PySem.W.subIn K (.ref S) (.type "BaseException") == some true) = true then (if ((PySem.W.clsIn K S).isSome && PySem.W.typeIn K (.ref S) == some (.type "type")) = true then PySem.W.subIn K (.ref S) (.ref S) else none) else none) = some true
  rw [if_pos e1, if_pos e2]
  exact h4
end DL

namespace DL
open PySem PySem.Spec PyProof.Rows L2 LamX NdefX
/-! ### the order of data -/
def dLtD : R2D := fun x y M Q => match (drf M x).py, (drf M y).py with
  | some p, some q => PySem.W.alike p q = true ∧ p ≠ .none ∧ min p.depth q.depth ≤ 64 ∧ Q (.bl (PySem.W.dataLt p q)) M
  | _, _ => False
section
variable {X : Cx} {F0 : Bs}
theorem od_ltD (hu : X.A.units + 64 < cLine) : OpD X F0 (compareOp .Lt) dLtD := by
  intro pins s σ H x y v u Q I rx ry ⟨F, R, M, d, e, Q', e0, st, rd, re, q, k⟩
  unfold dLtD at q
  split at q
  · rename_i p q' h1 h2
    obtain ⟨as, r1⟩ := Dp.reads I p x v (dp_drf st rd h1) rx
    obtain ⟨bs, r2⟩ := Dp.reads I q' y u (dp_drf st re h2) ry
    exact PySem.W.lt_data r1 r2 q.1 q.2.1 (by omega) ⟨.bl _, H, I, rfl, k _ _ _ _ _ Ext.refl st (.bl _) q.2.2.2⟩
  · exact q.elim
end
theorem s_ltD {p q : PyData} {x y : D} {M : Mp} {Q : QD} (e1 : (drf M x).py = some p) (e2 : (drf M y).py = some q) (h1 : PySem.W.alike p q = true) (h2 : p ≠ .none) (h3 : p.depth ≤ 64) (h : Q (.bl (PySem.W.dataLt p q)) M) : dLtD x y M Q := by
  unfold dLtD
  simp only [e1, e2]
  exact ⟨h1, h2, Nat.le_trans (Nat.min_le_left _ _) h3, h⟩
/-! ### for x in reversed(a list or a tuple that nobody changes) -/
def iRevA (te : DE) : DTI := fun τ M Q => te τ M fun d M1 => match d with
  | .tup ds => Q (itRev ds) M1
  | .lst ds => Q (itRev ds) M1
  | _ => False
theorem rel_revL {K : PySem.W.Frag} {F : Hp} {a : Addr} {xs : List V} {ds : List D} (hs : F a = some (.lst xs)) (ra : RepAll K F xs ds) : ItRel K F (Itv K a xs.length) (itRev ds) where
  go := fun i F2 R H M e st _ hi => by
    have hi : i < ds.length := hi
    have hl := ra.len
    exact ⟨by omega, xs, xs[xs.length - 1 - i]'(by omega), .inl (.inl (st.fz _ _ (e _ _ hs))), List.getElem?_eq_getElem _⟩
  yld := fun i F2 R H M x H' e st _ hi y => by
    obtain ⟨rfl, y⟩ := y
    have hi : i < ds.length := hi
    have hl := ra.len
    obtain ⟨d', e1, e2⟩ := (ra.ext e).get (y xs (.inl (.inl (st.fz _ _ (e _ _ hs)))))
    rw [hl] at e1
    exact ⟨F2, Ext.refl, st, by show Rep K F2 x (ds.getD (ds.length - 1 - i) .non); rw [getD_of e1]; exact e2, fun _ _ => rfl⟩
  stop := fun F2 R H M e st _ => by
    show xs.length ≤ ds.length
    rw [ra.len]; exact Nat.le_refl _
section
variable {X : Cx} {F0 : Bs} {tg e : Expr} {te : DE}
theorem id_revA {p pos : Pos} (hg : Gl X "reversed") (hm : X.mg "reversed" = none) (he : PE X e (liE X.K F0 te)) (hs : starEach [e] X.env = (false, eval e X.env) :: starEach [] X.env := by rfl) : PI X tg (.Call (.Name "reversed" p) [e] [] pos) (liI X.K F0 (iRevA te)) := by
  refine piImp (RT.pi_revA hg hm he hs) fun σ H Q ⟨F, R, τ, M, Q', e0, st, sl, q, k⟩ => ?_
  refine ⟨F, R, τ, M, _, e0, st, sl, q, fun v H1 F1 d M1 e1 st1 r1 q1 => ?_⟩
  cases d <;> try exact q1.elim
  · cases r1 with
    | tup hs ra => exact ⟨_, _, rfl, .inr ⟨sqTMono st1.fz hs, k _ _ _ _ _ e1 st1 (rel_rev hs ra) q1⟩⟩
  · cases r1 with
    | lst hs ra => exact ⟨_, _, rfl, .inl ⟨.inl (.inl (st1.fz _ _ hs)), k _ _ _ _ _ e1 st1 (rel_revL hs ra) q1⟩⟩
end
def kRevA (QI : ItD → Mp → Prop) : QD := fun d M1 => match d with
  | .tup ds => QI (itRev ds) M1
  | .lst ds => QI (itRev ds) M1
  | _ => False
theorem s_revA {te : DE} {τ : SD} {M : Mp} {QI : ItD → Mp → Prop} (h : te τ M (kRevA QI)) : iRevA te τ M QI := h
theorem s_krevaL {ds : List D} {M : Mp} {QI : ItD → Mp → Prop} (h : QI (itRev ds) M) : kRevA QI (.lst ds) M := h
theorem s_krevaT {ds : List D} {M : Mp} {QI : ItD → Mp → Prop} (h : QI (itRev ds) M) : kRevA QI (.tup ds) M := h
/-- over reversed(data that nobody changes), each item gives one, and M stays -/
theorem s_klcRev {plain : Bool} {is vs : List Nat} {fin : List D → Mp → QD → Prop} {te : DE} {τ : SD} {M : Mp} {Q : QD} {α : Type} {xs : List α} (enc : α → D) (f : α → D) (hl : xs.length ≤ sizeLine)
    (hs : ∀ a ∈ xs, ∃ τ2, bindD plain is (enc a) (wipeD τ vs) = some τ2 ∧ ∀ Q : QD, Q (f a) M → te τ2 M Q) (hd : fin (xs.reverse.map f) M Q) : kLc fin plain is vs dYes te τ Q (itRev (xs.map enc)) M := by
  refine ⟨fun i acc M' => M' = M ∧ acc = (xs.reverse.map f).take i, ⟨rfl, rfl⟩, fun _ _ _ _ _ => trivial, fun i acc M' hi p => ?_, fun acc M' p => ?_⟩
  · obtain ⟨rfl, rfl⟩ := p
    have hi : i < (xs.map enc).length := hi
    rw [List.length_map] at hi
    have e := List.getElem?_eq_getElem (l := xs) (i := xs.length - 1 - i) (by omega)
    obtain ⟨τ2, e2, k⟩ := hs xs[xs.length - 1 - i] (List.getElem_mem _)
    have e3 : (itRev (xs.map enc)).at' i = enc xs[xs.length - 1 - i] := getD_of (by rw [List.length_map, List.getElem?_map, e]; rfl)
    rw [e3, e2]
    refine k _ ⟨?_, rfl, ?_⟩
    · rw [List.length_take, List.length_map, List.length_reverse]; omega
    · rw [List.take_succ, List.getElem?_map, List.getElem?_reverse hi, e]; rfl
  · obtain ⟨rfl, rfl⟩ := p
    have e : (xs.reverse.map f).take (itRev (xs.map enc)).n = xs.reverse.map f := List.take_of_length_le (by show _ ≤ (xs.map enc).length; rw [List.length_map, List.length_map, List.length_reverse]; exact Nat.le_refl _)
    rw [e]
    exact hd
/-! ### two sources in one comprehension -/
def dLc2G (fin : List D → Mp → QD → Prop) (wi : DTI) (plain : Bool) (is vs : List Nat) (tt : DT) (wi1 : DTI) (plain1 : Bool) (is1 vs1 : List Nat) (tt1 : DT) (te : DE) : DE := fun τ M Q => wi τ M fun j M1 => ∃ Pv : Nat → List D → Mp → Prop, Pv 0 [] M1 ∧ (∀ i acc M, i ≤ j.n → Pv i acc M → j.ok M) ∧
  (∀ i acc M, i < j.n → Pv i acc M → match bindD plain is (j.at' i) (wipeD τ vs) with
    | some τ2 => tt τ2 M fun b M3 => if b = true then wi1 τ2 M3 fun j1 M4 => ∃ P1 : Nat → List D → Mp → Prop, P1 0 acc M4 ∧ (∀ k acc M, k ≤ j1.n → P1 k acc M → j1.ok M) ∧
        (∀ k acc M, k < j1.n → P1 k acc M → match bindD plain1 is1 (j1.at' k) (wipeD τ2 vs1) with
          | some τ3 => tt1 τ3 M fun b M5 => if b = true then te τ3 M5 fun e M6 => acc.length < sizeLine ∧ P1 (k + 1) (acc ++ [e]) M6 else P1 (k + 1) acc M5
          | none => False) ∧ ∀ acc M, P1 j1.n acc M → Pv (i + 1) acc M
      else Pv (i + 1) acc M3
    | none => False) ∧ ∀ acc M, Pv j.n acc M → fin acc M Q
abbrev dLc2 := dLc2G fun acc M Q => Q (.lst acc) M
section
variable {K : PySem.W.Frag} {F0 : Bs} {fin : List D → Mp → QD → Prop} {wi wi1 : DTI} {g g1 : TG} {plain plain1 : Bool} {is vs is1 vs1 : List Nat} {tt tt1 : DT} {te : DE}
theorem li_lc2 (hf : FinOk K fin) (ht : TgOk K g plain is) (hv : ∀ i ∈ is, i ∈ vs) (ht1 : TgOk K g1 plain1 is1) (hv1 : ∀ i ∈ is1, i ∈ vs1) {σ : L2.St} {H : Hp} {Q : VK} (h : liE K F0 (dLc2G fin wi plain is vs tt wi1 plain1 is1 vs1 tt1 te) σ H Q) : tLc2 (liI K F0 wi) g (liT K F0 tt) (liI K F0 wi1) g1 (liT K F0 tt1) (liE K F0 te) vs vs1 σ H Q := by
  obtain ⟨F, R, τ, M, Q', e0, st, sl, q, k⟩ := h
  refine ⟨F, R, τ, M, _, e0, st, sl, q, fun J H1 F1 j M1 e1 st1 rl ⟨Pv, p0, pk, ps, pd⟩ => fun L hL => ?_⟩
  have rL : R L = none := by
    cases z : R L with
    | none => rfl
    | some o => exact ((st1.rs L o z).1.there hL).elim
  have fL : F1 L = none := by
    cases z : F1 L with
    | none => rfl
    | some o => have := st1.fz L o z; rw [hL] at this; cases this
  have mL : M1 L = none := by
    cases z : M1 L with
    | none => rfl
    | some o => obtain ⟨_, u, hu, _⟩ := st1.ow L o z; rw [hL] at hu; cases hu
  have exR : ∀ o, Ext R (upd R L o) := fun o a u e => by rw [upd_ne (ne_of_none e rL)]; exact e
  have st0 : Stt K F1 (upd R L (.lst [])) (upd H1 L (.lst [])) M1 := by
    refine ⟨fun a u e => ?_, fun a u e => ?_, fun a m e => ?_, st1.nf, fun a u e => ?_⟩
    rotate_left 3
    · by_cases z : a = L
      · subst z; rw [upd_same] at e; cases e; trivial
      · rw [upd_ne z] at e; exact st1.nr a u e
    · rw [upd_ne (ne_of_none e fL)]; exact st1.fz _ _ e
    · by_cases z : a = L
      · subst z; rw [upd_same] at e; cases e; exact ⟨upd_same, fL, mL⟩
      · rw [upd_ne z] at e
        obtain ⟨h1, h2, h3⟩ := st1.rs a u e
        exact ⟨h1.step (fun b v n eb => by rw [upd_ne n]; exact eb) z (fun c y => by rw [hL] at y; cases y), h2, h3⟩
    · have z : a ≠ L := fun z => by subst z; rw [mL] at e; cases e
      rw [upd_ne z]; exact st1.ow a m e
  refine ⟨fun i m H => m = j.n - i ∧ i ≤ j.n ∧ ∃ F2 M2 xs acc, Ext F1 F2 ∧ Stt K F2 (upd R L (.lst xs)) H M2 ∧ RepAll K F2 xs acc ∧ Pv i acc M2, ⟨j.n, by simp, Nat.zero_le _, F1, M1, [], [], Ext.refl, st0, .nil, p0⟩, ?_⟩
  rintro i m H2 ⟨rfl, hi, F2, M2, xs, acc, e2, st2, ra, p2⟩
  have ok := pk i acc M2 hi p2
  by_cases hlt : i < j.n
  · refine .inr ⟨rl.go i F2 _ H2 M2 e2 st2 ok hlt, fun H' => ∃ F2 M2 xs acc, Ext F1 F2 ∧ Stt K F2 (upd R L (.lst xs)) H' M2 ∧ RepAll K F2 xs acc ∧ Pv (i + 1) acc M2, fun H' z => ⟨j.n - (i + 1), by omega, rfl, hlt, z⟩, fun x H3 y => ?_⟩
    obtain ⟨F3, e3, st3, rx, _⟩ := rl.yld i F2 _ H2 M2 x H3 e2 st2 ok hlt y
    have step := ps i acc M2 hlt p2
    split at step
    · rename_i τ3 eb
      have sl3 : Slots K F3 (wipe σ vs) (wipeD τ vs) := (sl.ext (e1.trans (e2.trans e3))).wipe vs
      refine ht.run F3 _ H3 M2 x _ _ _ τ3 _ st3 sl3 rx eb fun σ4 sl4 ⟨ys, hl, e4⟩ => ⟨by rw [e4, wipe_fold is ys _ hv, wipe_wipe], ?_⟩
      have b3 : Bas F0 F3 (upd R L (.lst xs)) := ⟨(e0.trans (e1.trans (e2.trans e3))).f, e0.r.trans (exR _), e0.t.ext (exR _)⟩
      refine ⟨F3, _, τ3, M2, _, b3, st3, sl4, step, fun b H5 F5 M5 e5 st5 q5 => ?_⟩
      cases b with
      | false =>
        rw [if_neg Bool.false_ne_true] at q5 ⊢
        exact ⟨F5, M5, xs, acc, e2.trans (e3.trans e5), st5, ra.ext (e3.trans e5), q5⟩
      | true =>
        rw [if_pos rfl] at q5 ⊢
        refine ⟨F5, _, τ3, M5, _, b3.trans e5, st5, sl4.ext e5, q5, fun J1 H6 F6 j1 M6 e6 st6 rl1 ⟨P1, a0, ak, as, ad⟩ => ?_⟩
        have x6 : Ext F1 F6 := e2.trans (e3.trans (e5.trans e6))
        refine ⟨fun k m H => m = j1.n - k ∧ k ≤ j1.n ∧ ∃ F7 M7 xs acc, Ext F6 F7 ∧ Stt K F7 (upd R L (.lst xs)) H M7 ∧ RepAll K F7 xs acc ∧ P1 k acc M7, ⟨j1.n, by simp, Nat.zero_le _, F6, M6, xs, acc, Ext.refl, st6, ra.ext (e3.trans (e5.trans e6)), a0⟩, ?_⟩
        rintro k' m' H7 ⟨rfl, hk', F7, M7, xs7, acc7, e7, st7, ra7, p7⟩
        have ok1 := ak k' acc7 M7 hk' p7
        by_cases hlt1 : k' < j1.n
        · refine .inr ⟨rl1.go k' F7 _ H7 M7 e7 st7 ok1 hlt1, fun H' => ∃ F7 M7 xs acc, Ext F6 F7 ∧ Stt K F7 (upd R L (.lst xs)) H' M7 ∧ RepAll K F7 xs acc ∧ P1 (k' + 1) acc M7, fun H' z => ⟨j1.n - (k' + 1), by omega, rfl, hlt1, z⟩, fun x8 H8 y8 => ?_⟩
          obtain ⟨F8, e8, st8, rx8, _⟩ := rl1.yld k' F7 _ H7 M7 x8 H8 e7 st7 ok1 hlt1 y8
          have step1 := as k' acc7 M7 hlt1 p7
          split at step1
          · rename_i τ8 eb8
            have sl8 : Slots K F8 (wipe σ4 vs1) (wipeD τ3 vs1) := (sl4.ext (e5.trans (e6.trans (e7.trans e8)))).wipe vs1
            refine ht1.run F8 _ H8 M7 x8 _ _ _ τ8 _ st8 sl8 rx8 eb8 fun σ9 sl9 ⟨ys9, hl9, e9⟩ => ⟨by rw [e9, wipe_fold is1 ys9 _ hv1, wipe_wipe], ?_⟩
            have b8 : Bas F0 F8 (upd R L (.lst xs7)) := ⟨((e0.trans e1).trans (x6.trans (e7.trans e8))).f, e0.r.trans (exR _), e0.t.ext (exR _)⟩
            refine ⟨F8, _, τ8, M7, _, b8, st8, sl9, step1, fun b H10 F10 M10 e10 st10 q10 => ?_⟩
            cases b with
            | false =>
              rw [if_neg Bool.false_ne_true] at q10 ⊢
              exact ⟨F10, M10, xs7, acc7, e7.trans (e8.trans e10), st10, ra7.ext (e8.trans e10), q10⟩
            | true =>
              rw [if_pos rfl] at q10 ⊢
              refine ⟨F10, _, τ8, M10, _, b8.trans e10, st10, sl9.ext e10, q10, fun z H11 F11 dz M11 e11 st11 r11 ⟨q11, q12⟩ => ?_⟩
              have ra11 := ra7.ext (e8.trans (e10.trans e11))
              exact ⟨xs7, (st11.rs L _ upd_same).1, by rw [ra11.len]; exact q11, F11, M11, xs7 ++ [z], acc7 ++ [dz], e7.trans (e8.trans (e10.trans e11)), st11.reput, ra11.app (.cons r11 .nil), q12⟩
          · exact step1.elim
        · have e : k' = j1.n := by omega
          subst e
          exact .inl ⟨rl1.stop F7 _ H7 M7 e7 st7 ok1, F7, M7, xs7, acc7, x6.trans e7, st7, ra7, ad acc7 M7 p7⟩
    · exact step.elim
  · have e : i = j.n := by omega
    subst e
    exact .inl ⟨rl.stop F2 _ H2 M2 e2 st2 ok, hf F2 R H2 M2 L xs acc Q' Q st2 rL ra (pd acc M2 p2) (k.ext (e1.trans e2))⟩
end
section
variable {X : Cx} {F0 : Bs} {elt tg iter tg1 iter1 : Expr} {ifs ifs1 : List Expr} {scope : Scope} {own : List (Str × Nat)} {pos : Pos} {wi wi1 : DTI} {g g1 : TG} {plain plain1 : Bool} {is vs is1 vs1 : List Nat} {tt tt1 : DT} {te : DE} {fin : List D → Mp → QD → Prop}
theorem sd_setLc2G {i : Nat} {y : Str} {py spos : Pos} (hf : FinOk X.K fin) (hc : X.calm = true) (hN : X.N.Nodup) (hy : X.N[i]? = some y) (hyl : X.env.scope.names.lookup y = some .local)
    (hsw : swapsWith (.ListComp elt [⟨tg, iter, ifs, 0⟩, ⟨tg1, iter1, ifs1, 0⟩] scope pos) (some (.Name y py)) spos.line X.env = pure true) (hi : PI X tg iter (liI X.K F0 wi)) (ok : BlkOk X.N X.env.scope scope own) (hvs : own.map (·.2) = vs) (hto : TgOk X.K g plain is) (hv : ∀ i ∈ is, i ∈ vs) (hto1 : TgOk X.K g1 plain1 is1) (hv1 : ∀ i ∈ is1, i ∈ vs1) (hvv : ∀ i ∈ vs1, i ∈ vs)
    (hg : ∀ (s : Shared) (H : Hp) (C : Addr) (cl : List (Str × Addr)) (fp : List Addr), PG (X.blk s H scope (compEnvC scope cl C X.env) fp) tg g)
    (ht : ∀ (s : Shared) (H : Hp) (C : Addr) (cl : List (Str × Addr)) (fp : List Addr), PTs (X.blk s H scope (compEnvC scope cl C X.env) fp) ifs (liT X.K F0 tt))
    (hi1 : ∀ (s : Shared) (H : Hp) (C : Addr) (cl : List (Str × Addr)) (fp : List Addr), PI (X.blk s H scope (compEnvC scope cl C X.env) fp) tg1 iter1 (liI X.K F0 wi1))
    (hg1 : ∀ (s : Shared) (H : Hp) (C : Addr) (cl : List (Str × Addr)) (fp : List Addr), PG (X.blk s H scope (compEnvC scope cl C X.env) fp) tg1 g1)
    (ht1 : ∀ (s : Shared) (H : Hp) (C : Addr) (cl : List (Str × Addr)) (fp : List Addr), PTs (X.blk s H scope (compEnvC scope cl C X.env) fp) ifs1 (liT X.K F0 tt1))
    (he : ∀ (s : Shared) (H : Hp) (C : Addr) (cl : List (Str × Addr)) (fp : List Addr), PE (X.blk s H scope (compEnvC scope cl C X.env) fp) elt (liE X.K F0 te)) (hs : ∀ x, foldedSetIterable iter X.env x = pure x := by intro _; rfl) (hs1 : ∀ env x, foldedSetIterable iter1 env x = pure x := by intro _ _; rfl) :
    PS X (.Assign [.Name y py] (.ListComp elt [⟨tg, iter, ifs, 0⟩, ⟨tg1, iter1, ifs1, 0⟩] scope pos) spos) (liS X.K F0 (dSet i (dLc2G fin wi plain is vs tt wi1 plain1 is1 vs1 tt1 te))) := by
  subst hvs
  exact psImp (ps_setLc2 hc hN hy hyl hsw hi ok hvv hg ht hi1 hg1 ht1 he hs hs1) fun D σ H ⟨F, R, τ, M, D', e0, st, sl, q, k⟩ =>
    li_lc2 (Q := fun x H1 => gName i x σ H1 D.nx) hf hto hv hto1 hv1 ⟨F, R, τ, M, _, e0, st, sl, q, fun v H2 F2 d M2 e2 st2 r2 q2 => k.nx _ _ _ _ _ e2 st2 ((sl.ext e2).put r2 i) q2⟩
end
/-! ### sorted(a list of pairs of ints): the same pairs in some order -/
theorem RepAll.perm {K : PySem.W.Frag} {F : Hp} {ys xs : List V} (p : ys.Perm xs) : ∀ {ds : List D}, RepAll K F xs ds → ∃ es : List D, es.Perm ds ∧ RepAll K F ys es := by
  induction p with
  | nil => intro ds r; exact ⟨ds, List.Perm.refl _, r⟩
  | cons x p ih =>
    intro ds r
    cases r with
    | cons h t =>
      obtain ⟨es, pe, re⟩ := ih t
      exact ⟨_ :: es, pe.cons _, .cons h re⟩
  | swap x y l =>
    intro ds r
    cases r with
    | cons h t =>
      cases t with
      | cons h2 t => exact ⟨_ :: _ :: _, List.Perm.swap _ _ _, .cons h2 (.cons h t)⟩
  | trans p1 p2 ih1 ih2 =>
    intro ds r
    obtain ⟨es, pe, re⟩ := ih2 r
    obtain ⟨fs, pf, rf⟩ := ih1 re
    exact ⟨fs, pf.trans pe, rf⟩
def dSortedU (B : Int) : RC := fun ds M Q => match ds with
  | [x] => match lsOf M x with
    | some es => es.length < 64 ∧ (∀ e ∈ es, ∃ ns : List Int, e = .tup (ns.map D.int) ∧ ns.length = 2 ∧ ∀ m ∈ ns, 0 ≤ m ∧ m < B) ∧ ∀ es' : List D, es'.Perm es → Q (.lst es') M
    | none => False
  | _ => False
theorem RepAll.each {K : PySem.W.Frag} {F : Hp} : ∀ {xs : List V} {ds : List D}, RepAll K F xs ds → ∀ x ∈ xs, ∃ d ∈ ds, Rep K F x d
  | _, _, .nil, x, h => by cases h
  | _, _, .cons r t, x, h => by
    rcases List.mem_cons.mp h with rfl | h
    · exact ⟨_, List.mem_cons_self, r⟩
    · obtain ⟨d, hd, r'⟩ := RepAll.each t x h
      exact ⟨d, List.mem_cons_of_mem _ hd, r'⟩
theorem cd_sortedU {X : Cx} {F0 : Bs} {B : Int} : CallR X (.builtin "sorted") (liC X.K F0 (dSortedU B)) := by
  refine caImp (cr_sortT (d := 2) (B := B) (by decide)) fun xs H Q ⟨F, R, M, ds, Q', e0, st, ra, q, k⟩ => ?_
  unfold dSortedU at q
  split at q <;> try exact q.elim
  obtain ⟨x, rfl, r⟩ := rep1 ra
  split at q <;> try exact q.elim
  rename_i es h1
  obtain ⟨a, vs, rfl, hs, rv⟩ := ls_get st r h1
  obtain ⟨q1, q2, q3⟩ := q
  refine ⟨a, vs, rfl, hs, by rw [rv.len]; exact q1, fun x hx => ?_, fun ys p hp _ hh => ?_⟩
  · obtain ⟨d, hd, rd⟩ := rv.each x hx
    obtain ⟨ns, rfl, hl, hb⟩ := q2 d hd
    obtain ⟨t, us, rfl, ht, ru⟩ := tp_get st rd
    have := RepAll.ints ru
    subst this
    exact ⟨ns, ⟨t, rfl, ht⟩, hl, hb⟩
  · obtain ⟨es', pe, re⟩ := RepAll.perm hp rv
    exact k.lst st hh re (q3 es' pe)
theorem s_sortedU {B : Int} {es : List D} {x : D} {M : Mp} {Q : QD} (e : lsOf M x = some es) (h1 : es.length < 64) (h2 : ∀ e ∈ es, ∃ ns : List Int, e = .tup (ns.map D.int) ∧ ns.length = 2 ∧ ∀ m ∈ ns, 0 ≤ m ∧ m < B) (h : ∀ es' : List D, es'.Perm es → Q (.lst es') M) : dSortedU B [x] M Q := by
  unfold dSortedU
  simp only [e]
  exact ⟨h1, h2, h⟩
end DL

namespace L2
open PySem PySem.Spec PyProof.Rows
section
variable {prog : Program} {w : World} {A : Around} {E : Value → Shared → Prop} {s : Shared} {Q : Value → Shared → Prop} {t : Addr} {its : List Value} {ns : List Int}
theorem sum_rawT (hh : A.handled = none) (hl : s.heap.IsTuple t its.toArray) (hi : IntsAre its ns)
    (h : ∀ h' tk t', (∀ b o, s.heap.get? b = some o → h'.get? b = some o) → Q (.int ns.sum t') { s with heap := h', toks := tk }) : wpAny (model prog w) A (call (.builtin "sum") [.ref t]) Q E s := by
  obtain ⟨xs, e⟩ := hi.allInts.items
  have hn : numsOf (intItems xs).toList = ns := by rw [← e]; exact hi.numsOf
  rw [nums_intItems] at hn
  rw [e] at hl
  refine PySem.W.ktm_sumG hh hl fun h' tk t' hk => ?_
  have := h h' tk t' hk
  rw [preSum_eq, List.take_of_length_le (by simp), hn]; exact this
end
end L2
namespace DL
open PySem PySem.Spec PyProof.Rows L2 LamX NdefX
/-- sum of a list or a tuple of ints -/
def dSumA : RC := fun ds M Q => match ds with
  | [d] => match sqOf M d with
    | some xs => match intsOf xs with
      | some ns => Q (.int ns.sum) M
      | none => False
    | none => False
  | _ => False
theorem cr_sumA {X : Cx} (hc : X.calm = true) : CallR X (.builtin "sum") (fun vs H Q => ∃ (a : Addr) (ns : List Int), vs = [V.ref a] ∧ (SqL X.K H a (ns.map V.int) ∨ SqT X.K H a (ns.map V.int)) ∧ Q (.int ns.sum) H) := by
  intro pins s σ H vs us Q I r h
  obtain ⟨a, ns, rfl, hs | hs, q⟩ := h
  · exact cr_sum hc pins s σ H _ us Q I r ⟨a, ns, rfl, hs, q⟩
  · obtain ⟨its, rv, hl, _⟩ := I.tuple hs
    rw [Vals.ref1 r]
    exact sum_rawT (I.ok.hd hc) hl rv.ints fun h' tk t' hk => ⟨.int _, H, I.kept hk, ⟨_, rfl⟩, q⟩
theorem cd_sumA {X : Cx} {F0 : Bs} (hc : X.calm = true) : CallR X (.builtin "sum") (liC X.K F0 dSumA) := by
  refine caImp (cr_sumA hc) fun xs H Q ⟨F, R, M, ds, Q', e0, st, rs, q, k⟩ => ?_
  unfold dSumA at q
  split at q <;> try exact q.elim
  obtain ⟨x, rfl, r⟩ := rep1 rs
  split at q <;> try exact q.elim
  rename_i ys h1
  split at q <;> try exact q.elim
  rename_i bs h2
  obtain ⟨a, vs, rfl, hs, ra⟩ := sq_get st r h1
  rw [ints_eq h2] at ra
  have ev := ra.ints
  subst ev
  exact ⟨a, bs, rfl, hs, k _ _ _ _ _ Ext.refl st (.int _) q⟩
theorem s_sumA {ns : List Int} {x : D} {M : Mp} {Q : QD} {ds : List D} (e : sqOf M x = some ds) (e2 : intsOf ds = some ns) (h : Q (.int ns.sum) M) : dSumA [x] M Q := by unfold dSumA; simp only [e, e2]; exact h
/-! two sources, the steps -/
section
variable {τ : SD} {M : Mp} {Q : QD}
def kLc2 (fin : List D → Mp → QD → Prop) (plain : Bool) (is vs : List Nat) (tt : DT) (wi1 : DTI) (plain1 : Bool) (is1 vs1 : List Nat) (tt1 : DT) (te : DE) (τ : SD) (Q : QD) : ItD → Mp → Prop := fun j M1 => ∃ Pv : Nat → List D → Mp → Prop, Pv 0 [] M1 ∧ (∀ i acc M, i ≤ j.n → Pv i acc M → j.ok M) ∧
  (∀ i acc M, i < j.n → Pv i acc M → match bindD plain is (j.at' i) (wipeD τ vs) with
    | some τ2 => tt τ2 M fun b M3 => if b = true then wi1 τ2 M3 fun j1 M4 => ∃ P1 : Nat → List D → Mp → Prop, P1 0 acc M4 ∧ (∀ k acc M, k ≤ j1.n → P1 k acc M → j1.ok M) ∧
        (∀ k acc M, k < j1.n → P1 k acc M → match bindD plain1 is1 (j1.at' k) (wipeD τ2 vs1) with
          | some τ3 => tt1 τ3 M fun b M5 => if b = true then te τ3 M5 fun e M6 => acc.length < sizeLine ∧ P1 (k + 1) (acc ++ [e]) M6 else P1 (k + 1) acc M5
          | none => False) ∧ ∀ acc M, P1 j1.n acc M → Pv (i + 1) acc M
      else Pv (i + 1) acc M3
    | none => False) ∧ ∀ acc M, Pv j.n acc M → fin acc M Q
theorem s_lc2 {fin : List D → Mp → QD → Prop} {wi wi1 : DTI} {plain plain1 : Bool} {is vs is1 vs1 : List Nat} {tt tt1 : DT} {te : DE} (h : wi τ M (kLc2 fin plain is vs tt wi1 plain1 is1 vs1 tt1 te τ Q)) : dLc2G fin wi plain is vs tt wi1 plain1 is1 vs1 tt1 te τ M Q := h
/-- over data that nobody changes, behind each of it over a range -/
theorem s_klc2 {fin : List D → Mp → QD → Prop} {wi1 : DTI} {plain : Bool} {is vs vs1 : List Nat} {i1 : Nat} {te : DE} {α : Type} {x : D} {xs : List α} (enc : α → D) (n : α → Nat) (f : α → Nat → D) (hx : ∀ M, sqOf M x = some (xs.map enc)) (hl : (xs.flatMap fun a => (List.range (n a)).map (f a)).length ≤ sizeLine)
    (hs : ∀ a ∈ xs, ∃ τ2, bindD plain is (enc a) (wipeD τ vs) = some τ2 ∧ (∀ QI : ItD → Mp → Prop, QI (itRng 0 (n a)) M → wi1 τ2 M QI) ∧ ∀ (k : Nat) (Q : QD), k < n a → Q (f a k) M → te ((wipeD τ2 vs1).set i1 (some (.int (0 + (k : Nat))))) M Q)
    (hd : fin (xs.flatMap fun a => (List.range (n a)).map (f a)) M Q) : kLc2 fin plain is vs dYes wi1 true [i1] vs1 dYes te τ Q (itSeq x (xs.map enc)) M := by
  refine ⟨fun i acc M' => M' = M ∧ acc = (xs.take i).flatMap fun a => (List.range (n a)).map (f a), ⟨rfl, rfl⟩, fun i acc M' hi p => hx M', fun i acc M' hi p => ?_, fun acc M' p => ?_⟩
  · obtain ⟨rfl, rfl⟩ := p
    have hi : i < (xs.map enc).length := hi
    rw [List.length_map] at hi
    have e := List.getElem?_eq_getElem hi
    obtain ⟨τ2, e2, k1, k2⟩ := hs xs[i] (List.getElem_mem hi)
    have e3 : (itSeq x (xs.map enc)).at' i = enc xs[i] := getD_of (by rw [List.getElem?_map, e]; rfl)
    have e4 : xs.take (i + 1) = xs.take i ++ [xs[i]] := by rw [List.take_succ, e]; rfl
    have e5 : xs = xs.take i ++ (xs[i] :: xs.drop (i + 1)) := by rw [← List.drop_eq_getElem_cons hi, List.take_append_drop]
    have hl2 : ((xs.take i).flatMap fun a => (List.range (n a)).map (f a)).length + n xs[i] ≤ sizeLine := by
      refine Nat.le_trans ?_ hl
      have : xs.flatMap (fun a => (List.range (n a)).map (f a)) = (xs.take i ++ (xs[i] :: xs.drop (i + 1))).flatMap (fun a => (List.range (n a)).map (f a)) := congrArg (fun l => l.flatMap fun a => (List.range (n a)).map (f a)) e5
      rw [this, List.flatMap_append, List.flatMap_cons, List.length_append, List.length_append, List.length_map, List.length_range]
      omega
    rw [e3, e2]
    refine k1 _ ⟨fun k acc M2 => M2 = M' ∧ acc = ((xs.take i).flatMap fun a => (List.range (n a)).map (f a)) ++ (List.range k).map (f xs[i]), ⟨rfl, by simp⟩, fun _ _ _ _ _ => trivial, fun k acc M2 hk p => ?_, fun acc M2 p => ?_⟩
    · obtain ⟨rfl, rfl⟩ := p
      have hk : k < n xs[i] := hk
      refine k2 k _ hk ⟨?_, rfl, ?_⟩
      · rw [List.length_append, List.length_map, List.length_range]; omega
      · rw [List.range_succ, List.map_append, List.append_assoc]; rfl
    · obtain ⟨rfl, rfl⟩ := p
      refine ⟨rfl, ?_⟩
      rw [e4, List.flatMap_append, List.flatMap_cons, List.flatMap_nil, List.append_nil]; rfl
  · obtain ⟨rfl, rfl⟩ := p
    have e : xs.take (itSeq x (xs.map enc)).n = xs := List.take_of_length_le (by show _ ≤ (xs.map enc).length; rw [List.length_map]; exact Nat.le_refl _)
    rw [e]
    exact hd
end
/-- over data that does not change meanwhile, each item gives one, and M stays -/
theorem s_klcMapM {plain : Bool} {is vs : List Nat} {fin : List D → Mp → QD → Prop} {te : DE} {τ : SD} {M : Mp} {Q : QD} {x : D} {α : Type} {xs : List α} (enc : α → D) (f : α → D) (hx : sqOf M x = some (xs.map enc)) (hl : xs.length ≤ sizeLine)
    (hs : ∀ a ∈ xs, ∃ τ2, bindD plain is (enc a) (wipeD τ vs) = some τ2 ∧ ∀ Q : QD, Q (f a) M → te τ2 M Q) (hd : fin (xs.map f) M Q) : kLc fin plain is vs dYes te τ Q (itSeq x (xs.map enc)) M := by
  refine ⟨fun i acc M' => M' = M ∧ acc = (xs.map f).take i, ⟨rfl, rfl⟩, fun i acc M' hi p => by rw [p.1]; exact hx, fun i acc M' hi p => ?_, fun acc M' p => ?_⟩
  · obtain ⟨rfl, rfl⟩ := p
    have hi : i < (xs.map enc).length := hi
    rw [List.length_map] at hi
    have e := List.getElem?_eq_getElem hi
    obtain ⟨τ2, e2, k⟩ := hs xs[i] (List.getElem_mem hi)
    have e3 : (itSeq x (xs.map enc)).at' i = enc xs[i] := getD_of (by rw [List.getElem?_map, e]; rfl)
    rw [e3, e2]
    refine k _ ⟨?_, rfl, ?_⟩
    · rw [List.length_take, List.length_map]; omega
    · rw [List.take_succ, List.getElem?_map, e]; rfl
  · obtain ⟨rfl, rfl⟩ := p
    have e : (xs.map f).take (itSeq x (xs.map enc)).n = xs.map f := List.take_of_length_le (by show _ ≤ (xs.map enc).length; rw [List.length_map, List.length_map]; exact Nat.le_refl _)
    rw [e]
    exact hd
theorem sq_same {M M' : Mp} {a : Addr} {c : D} (h : ∀ b, b ≠ a → M' b = M b) (hc : c ≠ .ref a) : sqOf M' c = sqOf M c := by
  cases c with
  | ref b =>
    have hb : b ≠ a := fun z => hc (by rw [z])
    show (match M' b with | some (.lst ds) => some ds | _ => none) = (match M b with | some (.lst ds) => some ds | _ => none)
    rw [h b hb]
  | _ => rfl
end DL

namespace DL
open PySem PySem.Spec PyProof.Rows L2
/-- a list, a few times, to be changed in place -/
def dMulM : R2D := fun x y M Q => match y with
  | .int k => match ltOf M x with
    | some xs => -(2 ^ 63) ≤ k ∧ k < 2 ^ 63 ∧ xs.length * k.toNat ≤ sizeLine ∧ ∀ p, M p = none → Q (.ref p) (updM M p (.lst (List.replicate k.toNat xs).flatten))
    | none => False
  | _ => False
/-- xs[i] op= e -/
def dAugS (to ti te : DE) (r : R2D) : DS := fun D τ M => to τ M fun o M1 => ti τ M1 fun i M2 => match o, i with
  | .ref a, .int k => match M2 a with
    | some (.lst xs) => match xs[k.toNat]? with
      | some x => 0 ≤ k ∧ te τ M2 fun y M3 => r x y M3 fun z M4 => dSetL (.ref a) (.int k) z M4 fun M5 => D.nx τ M5
      | none => False
    | _ => False
  | _, _ => False
section
variable {X : Cx} {F0 : Bs}
theorem od_mulM : OpD X F0 (binaryOp .Mult) dMulM := by
  intro pins s σ H x y v u Q I rx ry ⟨F, R, M, d, e, Q', e0, st, rd, re, q, k⟩
  unfold dMulM at q
  split at q
  · split at q
    · rename_i xs h1
      obtain ⟨a, vs, rfl, g1, ra⟩ := lt_get st rd h1
      cases re
      exact op_rep pins s σ H _ _ v u Q I rx ry ⟨a, _, vs, rfl, rfl, g1, q.1, q.2.1, by rw [ra.len]; exact q.2.2.1, fun p hp => k.own st hp (m := .lst _) (ra.reps _) (q.2.2.2 p)⟩
    · exact q.elim
  · exact q.elim
def liGet (K : PySem.W.Frag) : V → V → Hp → VK → Prop := fun x y H Q => ∃ p xs k v, x = .ref p ∧ y = .int k ∧ SqL K H p xs ∧ 0 ≤ k ∧ xs[k.toNat]? = some v ∧ Q v H
theorem pget_list : PGet X (liGet X.K) := by
  intro pins s σ H x y v u Q I rx ry h
  obtain ⟨p, xs, k, z, rfl, rfl, hq, h0, he, q⟩ := h
  cases rx
  obtain ⟨t, rfl⟩ := ry
  obtain ⟨its, r, pl, hz⟩ := I.list hq
  obtain ⟨w, ew, rw'⟩ := r.get he
  have hl := r.length
  have hn := line63
  have hj := (List.getElem?_eq_some_iff.mp he).1
  exact wpAny_getItem_list pl.isList h0 (by omega) (by simpa using ew) ⟨z, H, I, rw', q⟩
theorem sd_augS {o i e : Expr} {to ti te : DE} {op : Operator} {r : R2D} {tpos pos : Pos} (he : PE X e (liE X.K F0 te)) (ho : PE X o (liE X.K F0 to)) (hi : PE X i (liE X.K F0 ti)) (hp : OpD X F0 (inplaceOp op) r)
    (ha : ∀ ov iv new, augStore i ov iv new = (do holding [new, ov, iv] (setItem ov iv new); release [new, ov, iv] []; pure .next) := by intros; rfl) :
    PS X (.AugAssign (.Subscript o i tpos) op e pos) (liS X.K F0 (dAugS to ti te r)) := by
  refine psImp (ps_augS ho hi pget_list he (tip := liR X.K F0 r) hp (std_list (F0 := F0)) ha) fun D σ H ⟨F, R, τ, M, D', e0, st, sl, q, k⟩ => ?_
  refine ⟨F, R, τ, M, _, e0, st, sl, q, fun ov H1 F1 d1 M1 e1 st1 r1 q1 => ?_⟩
  refine ⟨F1, R, τ, M1, _, e0.trans e1, st1, sl.ext e1, q1, fun iv H2 F2 d2 M2 e2 st2 r2 q2 => ?_⟩
  split at q2 <;> try exact q2.elim
  rename_i a kx
  split at q2 <;> try exact q2.elim
  rename_i xs em
  split at q2 <;> try exact q2.elim
  rename_i x0 ex
  obtain ⟨k0, q2⟩ := q2
  have r1' := r1.ext e2
  cases r1'; cases r2
  obtain ⟨_, u, hu, ru⟩ := st2.ow _ _ em
  obtain ⟨vs, rfl, ra⟩ := ru.lst_iff
  obtain ⟨z, ez, rz⟩ := ra.getD ex
  refine ⟨a, vs, kx, z, rfl, rfl, .inl (.inl hu), k0, ez, ?_⟩
  refine ⟨F2, R, τ, M2, _, e0.trans (e1.trans e2), st2, sl.ext (e1.trans e2), q2, fun w H3 F3 d3 M3 e3 st3 r3 q3 => ?_⟩
  refine ⟨F3, R, M3, x0, d3, _, e0.trans (e1.trans (e2.trans e3)), st3, rz.ext e3, r3, q3, fun w2 H4 F4 d4 M4 e4 st4 r4 q4 => ?_⟩
  exact ⟨F4, R, M4, .ref a, .int kx, d4, _, e0.trans (e1.trans (e2.trans (e3.trans e4))), st4, .ref a, .int _, r4, q4, fun H5 F5 M5 e5 st5 q5 => k.nx _ _ _ _ _ (e1.trans (e2.trans (e3.trans (e4.trans e5)))) st5 (sl.ext (e1.trans (e2.trans (e3.trans (e4.trans e5))))) q5⟩
end
section
variable {te to ti : DE} {r : R2D} {τ : SD} {M : Mp} {Q : QD} {nx : SD → Mp → Prop} {rt : QD} {bk ct : SD → Mp → Prop}
theorem s_mulM {x : D} {xs : List D} {k : Int} (e : ltOf M x = some xs) (e1 : -(2 ^ 63) ≤ k) (e2 : k < 2 ^ 63) (e3 : xs.length * k.toNat ≤ sizeLine) (h : ∀ p, M p = none → Q (.ref p) (updM M p (.lst (List.replicate k.toNat xs).flatten))) : dMulM x (.int k) M Q := by
  unfold dMulM; simp only [e]; exact ⟨e1, e2, e3, h⟩
def kAs4 (nx : SD → Mp → Prop) (τ : SD) (a : Addr) (k : Int) : QD := fun z M4 => dSetL (.ref a) (.int k) z M4 fun M5 => nx τ M5
def kAs2 (te : DE) (r : R2D) (nx : SD → Mp → Prop) (τ : SD) (o : D) : QD := fun i M2 => match o, i with
  | .ref a, .int k => match M2 a with
    | some (.lst xs) => match xs[k.toNat]? with
      | some x => 0 ≤ k ∧ te τ M2 (kOp2 r (kAs4 nx τ a k) x)
      | none => False
    | _ => False
  | _, _ => False
def kAs1 (ti te : DE) (r : R2D) (nx : SD → Mp → Prop) (τ : SD) : QD := fun o M1 => ti τ M1 (kAs2 te r nx τ o)
theorem s_augS (h : to τ M (kAs1 ti te r nx τ)) : dAugS to ti te r ⟨nx, rt, bk, ct⟩ τ M := h
theorem s_kas1 {o : D} (h : ti τ M (kAs2 te r nx τ o)) : kAs1 ti te r nx τ o M := h
theorem s_kas2 {a : Addr} {k : Int} {xs : List D} {x : D} (e : M a = some (.lst xs)) (e2 : xs[k.toNat]? = some x) (k0 : 0 ≤ k) (h : te τ M (kOp2 r (kAs4 nx τ a k) x)) : kAs2 te r nx τ (.ref a) (.int k) M := by
  unfold kAs2; simp only [e, e2]; exact ⟨k0, h⟩
theorem s_kas4 {a : Addr} {k : Int} {xs : List D} {jn : Nat} {z : D} (e : M a = some (.lst xs)) (e2 : ixN xs.length k = some jn) (h : nx τ (updM M a (.lst (xs.set jn z)))) : kAs4 nx τ a k z M := by
  show dSetL _ _ _ _ _
  unfold dSetL; simp only [e, e2]; exact h
end
/-! ### a def whose list, told at its end, is never changed again -/
def rtF (Q : QD) : QD := fun d M' => ∃ (a : Addr) (ds : List D) (M2 : Mp), d = .ref a ∧ M' a = some (.lst ds) ∧ (∀ b m, M2 b = some m → M' b = some m) ∧ M2 a = none ∧ Q (.lst ds) M2
abbrev fnF (Q : QD) : EndsD := ⟨fun _ _ => False, rtF Q, fun _ _ => False, fun _ _ => False⟩
def RdsF (t : DS) (N : List Str) (sp : SpD) : Prop := ∀ ds M Q E, sp ds M Q E → t (fnF Q) (startD N ds) M
section
variable {P : Program} {w : World} {K : PySem.W.Frag} {mg : Str → Option Value} {base : Heap}
theorem Stt.frz {F R H : Hp} {M M2 : Mp} {a : Addr} {ds : List D} (st : Stt K F R H M) (e : M a = some (.lst ds)) (le : ∀ b m, M2 b = some m → M b = some m) (n : M2 a = none) : ∃ F2, Ext F F2 ∧ Stt K F2 R H M2 ∧ Rep K F2 (.ref a) (.lst ds) := by
  obtain ⟨fa, o, ho, ro⟩ := st.ow _ _ e
  obtain ⟨vs, rfl, ra⟩ := ro.lst_iff
  have ex : Ext F (upd F a (.lst vs)) := fun b u eb => by
    have : b ≠ a := fun z => by subst z; rw [fa] at eb; cases eb
    rw [upd_ne this]; exact eb
  refine ⟨upd F a (.lst vs), ex, ⟨fun b u eb => ?_, fun b u eb => ?_, fun b m eb => ?_, fun b u eb => ?_, st.nr⟩, .lst upd_same (ra.ext ex)⟩
  · by_cases z : b = a
    · subst z; rw [upd_same] at eb; cases eb; exact ho
    · rw [upd_ne z] at eb; exact st.fz b u eb
  · obtain ⟨h1, h2, h3⟩ := st.rs b u eb
    have z : b ≠ a := fun z => by subst z; rw [e] at h3; cases h3
    refine ⟨h1, by rw [upd_ne z]; exact h2, ?_⟩
    cases e2 : M2 b with
    | none => rfl
    | some m => rw [le b m e2] at h3; cases h3
  · have z : b ≠ a := fun z => by subst z; rw [n] at eb; cases eb
    obtain ⟨h1, o, h2, h3⟩ := st.ow b m (le b m eb)
    exact ⟨by rw [upd_ne z]; exact h1, o, h2, h3.ext ex⟩
  · by_cases z : b = a
    · subst z; rw [upd_same] at eb; cases eb; trivial
    · rw [upd_ne z] at eb; exact st.nf b u eb
theorem Fun.okF {x qual : Str} {st : Stmt} {f : Addr} {fd : FuncData} {N ps : List Str} {k : Nat} {sp : SpD} {T : List (Addr × Str)} (F : Fun K x qual st f fd) (S : FnScope N ps (defScope st)) (len : ∀ ds M Q E, sp ds M Q E → ds.length = ps.length) {t : DS}
    (hbody : ∀ (cdv : Value) (A : Around) (outer : List Env) (s : Shared) (H : Hp) (E : XK) (F0 R0 : Hp), Room k (A.deeper (envOfC qual (defScope st) s.heap.objs.size f cdv)) →
      PSs (cxOf CX0 P w K mg base N qual (defScope st) f cdv A outer s H E).nox (defBody st) (liS K ⟨F0, R0, T⟩ t))
    (hq : RdsF t N sp) : FnOk P w K mg base CX0 (k + 1) f fd ps (liSp K T sp) := by
  refine F.ok S (fun vs H Q E ⟨F, R, ds, M, Q', E', st, _, ra, h, _, _⟩ => by rw [ra.len]; exact len _ _ _ _ h) fun cdv A outer s H vs Q E hr ⟨F, R, ds, M, Q', E', st, tr, ra, h, kQ, kE⟩ => ?_
  refine ⟨_, hbody cdv A outer s H E F R hr, F, R, startD N ds, M, _, ⟨Ext.refl, Ext.refl, tr⟩, st, slots_start ra, hq ds M Q' E' h, ?_⟩
  refine ⟨fun σ2 H2 F2 τ2 M2 e2 st2 sl2 z => z.elim, fun v H2 F2 d M2 e2 st2 r2 ⟨a, ds, M3, ed, ea, le, na, q3⟩ => ?_, fun _ _ _ _ _ _ _ _ z => z, fun _ _ _ _ _ _ _ _ z => z⟩
  subst ed
  cases r2
  obtain ⟨F3, ex, st3, r3⟩ := st2.frz ea le na
  exact kQ _ _ _ _ _ (e2.trans ex) st3 r3 q3
end
theorem s_endF {Q : QD} {a : Addr} {ds : List D} {M M2 : Mp} (e : M a = some (.lst ds)) (le : ∀ b m, M2 b = some m → M b = some m) (n : M2 a = none) (h : Q (.lst ds) M2) : rtF Q (.ref a) M := ⟨a, ds, M2, rfl, e, le, n, h⟩
theorem reps_ints {K : PySem.W.Frag} {F : Hp} : ∀ ns : List Int, RepAll K F (ns.map V.int) (ns.map D.int)
  | [] => .nil
  | n :: ns => .cons (.int n) (reps_ints ns)
theorem cd_sorted {X : Cx} {F0 : Bs} : CallR X (.builtin "sorted") (liC X.K F0 dSorted) := by
  refine caImp cr_sortedI fun xs H Q ⟨F, R, M, ds, Q', e0, st, ra, q, k⟩ => ?_
  unfold dSorted at q
  split at q <;> try exact q.elim
  obtain ⟨x, rfl, r⟩ := rep1 ra
  split at q <;> try exact q.elim
  rename_i es h1
  split at q <;> try exact q.elim
  rename_i ns h2
  obtain ⟨a, vs, rfl, hs, rv⟩ := ls_get st r h1
  rw [ints_eq h2] at rv
  have ev := rv.ints
  subst ev
  exact ⟨a, ns, rfl, hs, fun ns' p hp hsrt hh => k.lst st hh (reps_ints ns') (q ns' hp hsrt)⟩
end DL

namespace DL
open PySem PySem.Spec PyProof.Rows L2
theorem _root_.L2.Room.unitsD {k : Nat} {A : Around} (r : Room k A) : A.units + 65 < cLine := by have := r.un; omega
/-- is True, is False -/
def dIsB : R2D := fun x y M Q => match x, y with
  | .bl a, .bl b => Q (.bl (decide (a = b))) M
  | _, _ => False
def dNotB : R2D := fun x y M Q => match x, y with
  | .bl a, .bl b => Q (.bl (!decide (a = b))) M
  | _, _ => False
/-- in, of data of any depth -/
def dInD (neg : Bool) : R2D := fun x y M Q => match (drf M x).py, (drf M y).py with
  | some p, some (.list qs) => SeqAt.shaped p = true ∧ SeqAt.shaped (.list qs) = true ∧ Q (.bl (if neg then !(qs.any fun z => PyData.eqv z p) else qs.any fun z => PyData.eqv z p)) M
  | _, _ => False
section
variable {X : Cx} {F0 : Bs}
theorem od_isB : OpD X F0 (compareOp .Is) dIsB := by
  refine opImp op_isBl fun x y H Q ⟨F, R, M, d, e, Q', e0, st, rd, re, q, k⟩ => ?_
  unfold dIsB at q
  split at q <;> try exact q.elim
  cases rd; cases re
  exact ⟨_, _, rfl, rfl, k _ _ _ _ _ Ext.refl st (.bl _) q⟩
theorem od_notB : OpD X F0 (compareOp .IsNot) dNotB := by
  refine opImp op_notBl fun x y H Q ⟨F, R, M, d, e, Q', e0, st, rd, re, q, k⟩ => ?_
  unfold dNotB at q
  split at q <;> try exact q.elim
  cases rd; cases re
  exact ⟨_, _, rfl, rfl, k _ _ _ _ _ Ext.refl st (.bl _) q⟩
theorem od_inD (hu : X.A.units + 65 < cLine) : OpD X F0 (compareOp .In) (dInD false) := by
  refine opImp (op_inD hu) fun x y H Q ⟨F, R, M, d, e, Q', e0, st, rd, re, q, k⟩ => ?_
  unfold dInD at q
  split at q <;> try exact q.elim
  rename_i p qs h1 h2
  exact ⟨p, qs, dp_drf st rd h1, dp_drf st re h2, q.1, q.2.1, k _ _ _ _ _ Ext.refl st (.bl _) q.2.2⟩
theorem od_notInD (hu : X.A.units + 65 < cLine) : OpD X F0 (compareOp .NotIn) (dInD true) := by
  refine opImp (op_notInD hu) fun x y H Q ⟨F, R, M, d, e, Q', e0, st, rd, re, q, k⟩ => ?_
  unfold dInD at q
  split at q <;> try exact q.elim
  rename_i p qs h1 h2
  exact ⟨p, qs, dp_drf st rd h1, dp_drf st re h2, q.1, q.2.1, k _ _ _ _ _ Ext.refl st (.bl _) q.2.2⟩
end
theorem s_isB {a b : Bool} {M : Mp} {Q : QD} (h : Q (.bl (decide (a = b))) M) : dIsB (.bl a) (.bl b) M Q := h
theorem s_notB {a b : Bool} {M : Mp} {Q : QD} (h : Q (.bl (!decide (a = b))) M) : dNotB (.bl a) (.bl b) M Q := h
theorem s_inD {neg : Bool} {x y : D} {M : Mp} {Q : QD} {p : PyData} {qs : List PyData} (e1 : (drf M x).py = some p) (e2 : (drf M y).py = some (.list qs)) (h1 : SeqAt.shaped p = true) (h2 : SeqAt.shaped (.list qs) = true) (h : Q (.bl (if neg then !(qs.any fun z => PyData.eqv z p) else qs.any fun z => PyData.eqv z p)) M) : dInD neg x y M Q := by
  unfold dInD; simp only [e1, e2]; exact ⟨h1, h2, h⟩
end DL

namespace DL
open PySem PySem.Spec PyProof.Rows L2 LamX NdefX
/-! g(e1, lambda ..: body, e3), g may raise -/
def dCallLX (C : Ct) (k : Nat) (js : List Nat) (n : Nat) (tb : DE) (sp : SpD) (E : XD) (t1 t3 : DE) : DE := fun τ M Q => t1 τ M fun d1 M1 => ∃ ws : List D, js.map (fun j => τ[j]?) = ws.map (fun d => some (some d)) ∧
  ∀ M2, MoreRaw M1 M2 → t3 τ M2 fun d3 M3 => M3 = M2 ∧ ∀ d Mf, MoreRaw M2 Mf → HasFn C k Mf d (spL tb n ws) → sp [d1, d, d3] Mf (fun r M4 => M4 = Mf ∧ Q r M1) (fun e fs M4 => M4 = Mf ∧ E e fs M1)
section
variable {X : Cx} {F0 : Bs} {kf kb : Nat} {g c P : Addr} {gfd : FuncData} {psg ps fr N : List Str} {gx q : Str} {sp : SpD} {t1 t3 tb : DE} {js : List Nat} {params : Arguments} {body e1 e3 : Expr} {scope : Scope} {p lpos pos : Pos}
theorem pd_callLX {E' : XD} {E : XK} (hE : ∀ e dx H, liX X.K F0 E' e dx H → E e dx H) (hx : Passes (L2.CX X.prog X.w) X E) (Fg : FnOk X.prog X.w X.K X.mg X.base (L2.CX X.prog X.w) kf g gfd psg (liSp X.K F0.T sp)) (hr : Room kf X.A) (hg : Gl X gx) (hm : X.mg gx = some (.ref g)) (hk : PySem.W.keepIn X.K (.ref g) = true) (hb : Binds X.K gfd psg [])
    (TB : TabB X.base X.mg c P) (hcode : X.env.code = .ref c) (hT : (P, q) ∈ F0.T) (hq : X.env.qual ++ "<lambda>" = q) (h1 : PE X e1 (liE X.K F0 t1)) (h3 : PE X e3 (liE X.K F0 t3))
    (hdef : defaultsOf params X.env = ([], [])) (hfn : ∀ x, X.fn x = true) (hsc : ndefB X.env.scope scope fr = true) (S : NScope N ps fr scope) (hN : N.length = ps.length + fr.length) (hjs : js.map (fun j => X.N[j]?) = fr.map some)
    (hbind : ∀ (cl : List (Str × Addr)) (pm cv ctv : Value) (us : List Value), us.length = ps.length → bindArgs (PySem.W.kla_fn "<lambda>" q params body scope cl pm cv ctv) ⟨us, []⟩ = pure (ps.zip us))
    (hbody : ∀ (f c' : Addr) (cl : List (Str × Addr)) (A : Around) (outer : List Env) (s : Shared) (H F0' R0' : Hp), Room kb (A.deeper (envF (lamF q params scope cl c') f s.heap.objs.size)) →
      PE (ncx CX0 X.prog X.w X.K X.mg X.base N (lamF q params scope cl c') f A outer s H E0).nox body (liE X.K ⟨F0', R0', F0.T⟩ tb))
    (hdb : (gx == ("__debug__" : Str)) = false := by decide) (he : starEach [e1, .Lambda params body scope lpos, e3] X.env = [(false, eval e1 X.env), (false, eval (.Lambda params body scope lpos) X.env), (false, eval e3 X.env)] := by rfl) (he1 : starEach [.Lambda params body scope lpos, e3] X.env = [(false, eval (.Lambda params body scope lpos) X.env), (false, eval e3 X.env)] := by rfl) :
    PE X (.Call (.Name gx p) [e1, .Lambda params body scope lpos, e3] [] pos) (liE X.K F0 (dCallLX (ctOf X F0) (kb + 1) js ps.length tb sp E' t1 t3)) := by
  refine ⟨fun pins s σ H Q I ⟨F, R, τ, M, Q', e0, st, sl, ht, kq⟩ => ?_⟩
  refine wpAny_Call_Name_kw (ld_glob I hg hm ?_ hdb)
  refine PySem.W.callWith_K (h₀ := X.base) I.ok.mod.kin hk ?_ (by rw [he, he1]) (by rw [he1]; rfl)
  rw [he]
  show wpAny _ _ (spliced [(false, eval e1 X.env), (false, eval (.Lambda params body scope lpos) X.env), (false, eval e3 X.env)]) _ _ s
  refine Calls.spliced_cons (thn (h1.run pins s σ H (fun v H1 => ∃ F1 d1 M1, Ext F F1 ∧ Stt X.K F1 R H1 M1 ∧ Rep X.K F1 v d1 ∧ ∃ ws : List D, js.map (fun j => τ[j]?) = ws.map (fun d => some (some d)) ∧
    ∀ M2, MoreRaw M1 M2 → t3 τ M2 fun d3 M3 => M3 = M2 ∧ ∀ d Mf, MoreRaw M2 Mf → HasFn (ctOf X F0) (kb + 1) Mf d (spL tb ps.length ws) → sp [d1, d, d3] Mf (fun r M4 => M4 = Mf ∧ Q' r M1) (fun e fs M4 => M4 = Mf ∧ E' e fs M1)) I
    ⟨F, R, τ, M, _, e0, st, sl, ht, fun v H2 F2 d M2 e2 st2 r2 q2 => ⟨F2, d, M2, e2, st2, r2, q2⟩⟩) fun u1 s1 ⟨v1, H1, I1, rl1, F1, d1, M1, ex1, st1, rp1, ws, hws, h2⟩ => ?_)
  have tbl1 : TabS H1 P q := by
    obtain ⟨⟨q', e, t⟩, _, _⟩ := st1.rs _ _ (e0.t _ hT)
    have : q = q' := by cases e; rfl
    rw [this]; exact t
  have nfr := ndef_free hsc
  have hfree : ∀ y ∈ scope.names, y.2 = .free → ∃ c, X.env.cells.lookup y.1 = some c := fun y hy e => (nfr y hy e).elim (fun z => I.ok.has _ (.inl z)) fun z => I.ok.has _ (.inr z)
  refine Calls.spliced_cons (lam_make3 I1 TB hcode hq tbl1 hdef hfree fun f c' pm ctv Ha sa Ia kp Ta nf fc fP hf hc => ?_)
  -- the function object and its code object are known
  let M2 : Mp := fun b => if b = f then some (.raw (PinO f (PySem.W.kla_obj "<lambda>" q params body scope (cloFrom X.env.cells scope.names []) pm c' ctv))) else if b = c' then some (.raw (CodeO c' q)) else M1 b
  have mP : R P = some (.xd [(q, .non)]) := e0.t _ hT
  have hP1 := st1.rs _ _ mP
  have ext_no : ∀ (F : Hp) a φ, F a = some (.ext φ) → (∀ a o, F a = some o → NX o) → False := fun F a φ e n => n a _ e
  have fF : F1 f = none := by
    cases e : F1 f with
    | none => rfl
    | some o => have := st1.fz _ _ e; rw [nf] at this; cases this
  have cF : ∀ o, F1 c' = some o → False := fun o e => by
    by_cases hcP : c' = P
    · subst hcP; rw [hP1.2.1] at e; cases e
    · have h1 := kp _ _ hcP (st1.fz _ _ e)
      rw [hc] at h1
      cases h1
      exact st1.nf _ _ e
  have M1f : M1 f = none := by
    cases e : M1 f with
    | none => rfl
    | some m => obtain ⟨_, o, ho, _⟩ := st1.ow _ _ e; rw [nf] at ho; cases ho
  have M2f : M2 f = some (.raw (PinO f (PySem.W.kla_obj "<lambda>" q params body scope (cloFrom X.env.cells scope.names []) pm c' ctv))) := if_pos rfl
  have M2c : M2 c' = some (.raw (CodeO c' q)) := (if_neg (Ne.symm fc)).trans (if_pos rfl)
  have M2s : ∀ b, b ≠ f → b ≠ c' → M2 b = M1 b := fun b h1 h2 => (if_neg h1).trans (if_neg h2)
  have M1c : ∀ m, M1 c' = some m → m = .raw (CodeO c' q) := fun m e => by
    have hcP : c' ≠ P := fun z => by subst z; rw [hP1.2.2] at e; cases e
    obtain ⟨_, o, ho, ro⟩ := st1.ow _ _ e
    have h1 := kp _ _ hcP ho
    rw [hc] at h1
    cases h1
    unfold CodeO at ro ⊢
    cases m with
    | raw u => have : _ = u := ro; rw [this]
    | _ => exact ro.elim
  have more1 : MoreRaw M1 M2 := ⟨fun a m e => by
    by_cases ha : a = f
    · subst ha; rw [M1f] at e; cases e
    by_cases hc2 : a = c'
    · subst hc2; rw [M2c, M1c m e]
    · rw [M2s a ha hc2]; exact e, fun a m e => by
    by_cases ha : a = f
    · subst ha; rw [M2f] at e; cases e; exact .inr ⟨_, rfl⟩
    by_cases hc2 : a = c'
    · subst hc2; rw [M2c] at e; cases e; exact .inr ⟨_, rfl⟩
    · rw [M2s a ha hc2] at e; exact .inl e⟩
  have sta : Stt X.K F1 R Ha M2 := by
    refine ⟨fun a o e => kp _ _ (fun z => by subst z; rw [hP1.2.1] at e; cases e) (st1.fz a o e), fun a o e => ?_, fun a m e => ?_, st1.nf, st1.nr⟩
    · obtain ⟨g1, g2, g3⟩ := st1.rs a o e
      have af : a ≠ f := fun z => by subst z; exact g1.there nf
      by_cases haP : a = P
      · subst haP
        rw [mP] at e
        cases e
        refine ⟨⟨q, rfl, Ta⟩, g2, ?_⟩
        have ac : a ≠ c' := fun z => by
          obtain ⟨ps', z1, _⟩ := Ta
          rw [z, hc] at z1
          exact codeO_ne ps' (Option.some.inj z1)
        rw [M2s a af ac]; exact g3
      · have ga : RsOk Ha a o := by
          refine g1.step (x := P) (fun b u n eb => kp b u n eb) haP fun q' z => ?_
          obtain ⟨⟨q2, _, ps', z1, _⟩, _⟩ := hP1
          rw [z] at z1
          exact codeO_ne ps' (Option.some.inj z1)
        have ac : a ≠ c' := fun z => by
          subst z
          have nx := st1.nr a o e
          cases o with
          | xd fs =>
            obtain ⟨q2, _, ps', z1, _⟩ := ga
            rw [hc] at z1
            exact codeO_ne ps' (Option.some.inj z1)
          | ext φ => exact nx
          | _ =>
            have ga : Ha a = some _ := ga
            rw [hc] at ga
            unfold CodeO at ga
            cases ga
        exact ⟨ga, g2, by rw [M2s a af ac]; exact g3⟩
    · by_cases haf : a = f
      · subst haf
        rw [M2f] at e
        cases e
        exact ⟨fF, _, hf, (show RepO X.K F1 (PinO _ _) (.raw (PinO _ _)) from rfl)⟩
      by_cases hac : a = c'
      · subst hac
        rw [M2c] at e
        cases e
        refine ⟨?_, _, hc, (show RepO X.K F1 (CodeO _ _) (.raw (CodeO _ _)) from rfl)⟩
        cases ef : F1 a with
        | none => rfl
        | some o => exact (cF o ef).elim
      · rw [M2s a haf hac] at e
        obtain ⟨g1, o, g2, g3⟩ := st1.ow a m e
        exact ⟨g1, o, kp _ _ (fun z => by subst z; rw [hP1.2.2] at e; cases e) g2, g3⟩
  refine Calls.spliced_cons (thn (h3.run pins sa σ Ha (fun v H3 => ∃ F3 d3, Ext F1 F3 ∧ Stt X.K F3 R H3 M2 ∧ Rep X.K F3 v d3 ∧ ∀ d Mf, MoreRaw M2 Mf → HasFn (ctOf X F0) (kb + 1) Mf d (spL tb ps.length ws) → sp [d1, d, d3] Mf (fun r M4 => M4 = Mf ∧ Q' r M1) (fun e fs M4 => M4 = Mf ∧ E' e fs M1)) Ia
    ⟨F1, R, τ, M2, _, e0.trans ex1, sta, sl.ext ex1, h2 M2 more1, fun v H2 F2 d M3 e2 st2 r2 ⟨q1, q2⟩ => by subst q1; exact ⟨F2, d, e2, st2, r2, q2⟩⟩) fun u3 s3 ⟨v3, H3, I3, rl3, F3, d3, ex3, st3, rp3, hsp⟩ => ?_)
  refine Calls.spliced_nil ⟨I3.kIn, ?_⟩
  -- the captured cells
  obtain ⟨wv, hwv, rw_⟩ := caps_get (sl.ext (ex1.trans ex3)) hws
  have cp : Caps X (cloFrom X.env.cells scope.names []) fr js := Caps.made I3.ok nfr (ndef_fr hsc) hjs
  have CA := cells_of I3 cp
  rw [hwv] at CA
  let cl := cloFrom X.env.cells scope.names []
  let cs : List Addr := cl.map (·.2)
  let ob : Addr → Obj := fun b => (s3.heap.get? b).getD default
  have clm : ∀ y b, (y, b) ∈ cl → X.env.cells.lookup y = some b := fun y b hm => by
    rcases cloFrom_mem hm with z | ⟨z1, z2⟩
    · cases z
    · obtain ⟨c1, hc1⟩ := hfree _ z1 rfl
      have hc1 : X.env.cells.lookup y = some c1 := hc1
      rw [z2, hc1]; rfl
  have csm : ∀ b ∈ cs, ∃ y, X.env.cells.lookup y = some b := fun b hb => by
    obtain ⟨⟨y, b'⟩, hm, rfl⟩ := List.mem_map.mp hb
    exact ⟨y, clm y b' hm⟩
  have cn3 : ∀ b ∈ cs, H3 b = none := fun b hb => by
    obtain ⟨y, hy⟩ := csm b hb
    exact I3.freeC y b hy
  have cob : ∀ b ∈ cs, s3.heap.get? b = some (ob b) ∧ ∃ v, (ob b).data = .cell v := fun b hb => by
    obtain ⟨y, hy⟩ := csm b hb
    obtain ⟨v, o, ho, hd⟩ := I3.cell y b hy
    have : ob b = o := by show (s3.heap.get? b).getD default = o; rw [ho]; rfl
    rw [this]
    exact ⟨ho, v, hd⟩
  have cab : ∀ b ∈ cs, X.s_0.heap.objs.size ≤ b := fun b hb => by
    obtain ⟨y, hy⟩ := csm b hb
    exact I3.ok.cab y b (hfn y) hy
  have cfr : ∀ b ∈ cs, b ∉ frs X.stack := fun b hb z => by
    obtain ⟨y, hy⟩ := csm b hb
    rcases List.mem_cons.mp (I3.stkSub b z) with e | e
    · exact I3.cne y b hy e
    · obtain ⟨_, o, ho, _⟩ := I3.ok.funs.mem e
      exact absurd (Nat.lt_of_lt_of_le (Heap.lt_size ho) (cab b hb)) (Nat.lt_irrefl _)
  let H' : Hp := fun b => if b ∈ cs then some (PinO b (ob b)) else H3 b
  let Mf : Mp := fun b => if b ∈ cs then some (.raw (PinO b (ob b))) else M2 b
  have H'n : ∀ b, b ∈ cs → H' b = some (PinO b (ob b)) := fun b h => if_pos h
  have H's : ∀ b, b ∉ cs → H' b = H3 b := fun b h => if_neg h
  have Mfn : ∀ b, b ∈ cs → Mf b = some (.raw (PinO b (ob b))) := fun b h => if_pos h
  have Mfs : ∀ b, b ∉ cs → Mf b = M2 b := fun b h => if_neg h
  have inH : ∀ b u, H3 b = some u → b ∉ cs ∧ H' b = some u := fun b u e => by
    have : b ∉ cs := fun z => by rw [cn3 b z] at e; cases e
    exact ⟨this, by rw [H's b this]; exact e⟩
  have M2n : ∀ b, b ∈ cs → M2 b = none := fun b hb => by
    cases e : M2 b with
    | none => rfl
    | some m => obtain ⟨_, o, ho, _⟩ := st3.ow _ _ e; rw [cn3 b hb] at ho; cases ho
  have F3n : ∀ b, b ∈ cs → F3 b = none := fun b hb => by
    cases e : F3 b with
    | none => rfl
    | some o => have := st3.fz _ _ e; rw [cn3 b hb] at this; cases this
  have more2 : MoreRaw M2 Mf := ⟨fun a m e => by
    have : a ∉ cs := fun z => by rw [M2n a z] at e; cases e
    rw [Mfs a this]; exact e, fun a m e => by
    by_cases ha : a ∈ cs
    · rw [Mfn a ha] at e; cases e; exact .inr ⟨_, rfl⟩
    · rw [Mfs a ha] at e; exact .inl e⟩
  have env3 := I3.env0
  have hok' : HOk X.prog X.w H' s3.heap := fun b u e => by
    by_cases hb : b ∈ cs
    · rw [H'n b hb] at e; cases e; exact pinO_ok (cob b hb).1
    · rw [H's b hb] at e
      exact (I3.hok b u e).stay (fun c v _ z => z) (fun c z => (inH c _ z).2) fun c xs z => (inH c _ z).2
  have env' : Env0 X.prog X.w X.K X.mg X.base X.A X.stack s3 H' := ⟨env3.frames, env3.mod, fun b o e => ⟨(env3.bs b o e).1, by
    have : b ∉ cs := fun z => absurd (Nat.lt_of_lt_of_le (Heap.lt_size e) (Nat.le_trans I3.ok.bsz (cab b z))) (Nat.lt_irrefl _)
    rw [H's b this]; exact (env3.bs b o e).2⟩, env3.bsz, env3.funs, fun b hb => by
    have : b ∉ cs := fun z => cfr b z hb
    rw [H's b this]; exact env3.frf b hb, hok', env3.bare⟩
  have st' : Stt X.K F3 R H' Mf := by
    refine ⟨fun a o e => (inH _ _ (st3.fz a o e)).2, fun a o e => ?_, fun a m e => ?_, st3.nf, st3.nr⟩
    · obtain ⟨g1, g2, g3⟩ := st3.rs a o e
      have ha : a ∉ cs := fun z => g1.there (cn3 a z)
      exact ⟨g1.imp (fun u eu => (inH _ _ eu).2) fun c q ec => (inH _ _ ec).2, g2, by rw [Mfs a ha]; exact g3⟩
    · by_cases ha : a ∈ cs
      · rw [Mfn a ha] at e
        cases e
        exact ⟨F3n a ha, _, H'n a ha, (show RepO X.K F3 (PinO _ _) (.raw (PinO _ _)) from rfl)⟩
      · rw [Mfs a ha] at e
        obtain ⟨g1, o, g2, g3⟩ := st3.ow a m e
        exact ⟨g1, o, (inH _ _ g2).2, g3⟩
  have Mff : Mf f = some (.raw (PinO f (PySem.W.kla_obj "<lambda>" q params body scope cl pm c' ctv))) := more2.1 _ _ M2f
  have Mfc : Mf c' = some (.raw (CodeO c' q)) := more2.1 _ _ M2c
  have has : HasFn (ctOf X F0) (kb + 1) Mf (.fn f F3) (spL tb ps.length ws) := by
    refine ⟨(f, PinO f (PySem.W.kla_obj "<lambda>" q params body scope cl pm c' ctv)) :: (c', CodeO c' q) :: cs.map fun c => (c, PinO c (ob c)), ⟨_, _, _, _, .inl List.mem_cons_self⟩, fun p hp => ?_, ?_⟩
    · rcases List.mem_cons.mp hp with rfl | hp
      · exact Mff
      rcases List.mem_cons.mp hp with rfl | hp
      · exact Mfc
      · obtain ⟨b, hb, rfl⟩ := List.mem_map.mp hp
        exact Mfn b hb
    · refine lam_sem (C := ctOf X F0) (wv := wv) S hN (fun us hl => hbind _ _ _ _ us hl) (fun A outer s H F0' R0' hr => hbody f c' cl A outer s H F0' R0' hr) (fun y b e => List.mem_map.mpr ⟨(y, b), PySem.mem_of_lookup e, rfl⟩) (fun b hb => (cob b hb).2) CA.inj (fun i y e => ?_) ?_ rw_
      · obtain ⟨b, hb1, hb2⟩ := CA.has i y e
        refine ⟨b, hb1, fun v ev => ?_⟩
        obtain ⟨u, ru, o, ho, hd⟩ := hb2 v (by rw [List.getElem?_map, ev]; rfl)
        refine ⟨u, ru, ?_⟩
        have : ob b = o := by show (s3.heap.get? b).getD default = o; rw [ho]; rfl
        rw [this]; exact hd
      · have := CA.len
        rwa [List.length_map] at this
  have hcall := hsp (.fn f F3) Mf more2 has
  have rl : Vals [v1, .ref f, v3] [u1, .ref f, u3] := .cons rl1 (.cons rfl (.cons rl3 .nil))
  have rp : RepAll X.K F3 [v1, .ref f, v3] [d1, .fn f F3, d3] := .cons (rp1.ext ex3) (.cons (.fn Ext.refl) (.cons rp3 .nil))
  have spv : liSp X.K F0.T sp [v1, .ref f, v3] H' (fun v H4 => ∃ F4 r, Ext F3 F4 ∧ Stt X.K F4 R H4 Mf ∧ Rep X.K F4 v r ∧ Q' r M1) (fun e dx H4 => ∃ F4 fs, Ext F3 F4 ∧ Stt X.K F4 R H4 Mf ∧ RepX X.K F4 H4 dx fs ∧ E' e fs M1) :=
    ⟨F3, R, _, Mf, _, _, st', e0.t, rp, hcall, fun v H4 F4 r M4 e4 st4 r4 ⟨z1, z2⟩ => by subst z1; exact ⟨F4, r, e4, st4, r4, z2⟩, fun e dx H4 F4 fs M4 e4 st4 rx ⟨z1, z2⟩ => by subst z1; exact ⟨F4, fs, e4, st4, rx, z2⟩⟩
  have hl3 : [u1, Value.ref f, u3].length = psg.length := by
    rw [← rl.length]; exact Fg.len _ _ _ _ spv
  have hbind3 := hb s3 [u1, .ref f, u3] I3.kIn (by rw [List.append_nil]; exact hl3)
  rw [List.append_nil] at hbind3
  refine wpAny_call (codeAny_mono (Fg.run X.A X.stack s3 H' ⟨[u1, .ref f, u3], []⟩ _ _ _ _ hr env' hbind3 rl spv) fun r s' hq => ?_)
  cases r with
  | error e =>
      obtain ⟨a0, B, H4, cls, dd, rfl, fl, hok4, ub, na, os4, ag, F4, fs, ex4, st4, rx4, q4⟩ := hq
      have obk : ∀ b ∈ cs, H4 b = some (PinO b (ob b)) ∧ B.get? b = some (ob b) := fun b hb => by
        obtain ⟨_, o, ho, ro⟩ := st4.ow _ _ (Mfn b hb)
        have : o = PinO b (ob b) := ro.raw
        subst this
        exact ⟨ho, pinO_at hok4 ho⟩
      let H5 : Hp := fun b => if b ∈ cs then none else H4 b
      have H5n : ∀ b, b ∈ cs → H5 b = none := fun b h => if_pos h
      have H5s : ∀ b, b ∉ cs → H5 b = H4 b := fun b h => if_neg h
      have keepNX : ∀ b u, H4 b = some u → NE u → H5 b = some u := fun b u e n => by
        have : b ∉ cs := fun z => by rw [(obk b z).1] at e; cases e; exact n
        rw [H5s b this]; exact e
      have un5 : UB (frs X.stack) H3 H5 s3.heap B s'.heap := by
        refine ⟨fun b o e n hf => ?_, ub.slot, fun b o e n => ?_, ub.there, fun b xs e => keepNX _ _ (ub.tups b xs (inH _ _ e).2) trivial, fun b o u e => keepNX _ _ (ub.frzs b o u (inH _ _ e).2) trivial, fun b ps e => ?_⟩
        · by_cases hb : b ∈ cs
          · rw [(cob b hb).1] at e; cases e; exact (obk b hb).2
          · exact ub.keep b o e (by rw [H's b hb]; exact n) hf
        · by_cases hb : b ∈ cs
          · exact H5n b hb
          · rw [H5s b hb]; exact ub.free b o e (by rw [H's b hb]; exact n)
        · obtain ⟨more, z⟩ := ub.tbls b ps (inH _ _ e).2
          exact ⟨more, keepNX _ _ z trivial⟩
      have hok5 : HOk X.prog X.w H5 B := fun b u e => by
        by_cases hb : b ∈ cs
        · rw [H5n b hb] at e; cases e
        · rw [H5s b hb] at e
          exact (hok4 b u e).stay (fun c v _ z => z) (fun c z => keepNX _ _ z trivial) fun c xs z => keepNX _ _ z trivial
      have st5 : Stt X.K F4 R H5 M1 := by
        refine ⟨fun a o e => keepNX _ _ (st4.fz a o e) (st4.nf a o e).ne, fun a o e => ?_, fun a m e => ?_, st4.nf, st4.nr⟩
        · obtain ⟨g1, g2, g3⟩ := st4.rs a o e
          have ha : a ∉ cs := fun z => by rw [Mfn a z] at g3; cases g3
          refine ⟨g1.imp (fun u eu => by rw [H5s a ha]; exact eu) (fun b q' eb => ?_), g2, ?_⟩
          · by_cases hb : b ∈ cs
            · obtain ⟨v', hv'⟩ := (cob b hb).2
              exact (cell_code hok4 eb (obk b hb).2 hv').elim
            · rw [H5s b hb]; exact eb
          · cases em : M1 a with
            | none => rfl
            | some m =>
              have := (more1.trans more2).1 a m em
              rw [g3] at this; cases this
        · obtain ⟨g1, o, g2, g3⟩ := st4.ow a m ((more1.trans more2).1 a m e)
          have ha : a ∉ cs := fun z => by
            have := M2n a z
            rw [more1.1 a m e] at this; cases this
          exact ⟨g1, o, by rw [H5s a ha]; exact g2, g3⟩
      have na5 : H5 a0 = none := by
        by_cases hb : a0 ∈ cs
        · exact H5n a0 hb
        · rw [H5s a0 hb]; exact na
      have rx5 : RepX X.K F4 H5 dd fs := by
        cases dd with
        | none => cases fs <;> exact rx4
        | some x =>
          cases fs with
          | none => exact rx4
          | some fs =>
            obtain ⟨vs, h1, h2⟩ := rx4
            exact ⟨vs, h1, h2⟩
      exact hx pins σ H3 s3 _ s' I3 ⟨a0, B, H5, cls, dd, rfl, fl, hok5, un5, na5, os4, ag, hE _ _ _ ⟨F4, R, M1, fs, e0.trans (ex1.trans (ex3.trans ex4)), st5, rx5, q4⟩⟩
  | ok fl =>
    cases fl with
    | next => exact False.elim hq
    | brk => exact False.elim hq
    | cont => exact False.elim hq
    | ret u =>
      obtain ⟨v, H4, os4, bare4, un, hok4, rv, F4, r, ex4, st4, rp4, q4⟩ := hq
      -- the cells are the frame's own again
      have obk : ∀ b ∈ cs, H4 b = some (PinO b (ob b)) ∧ s'.heap.get? b = some (ob b) := fun b hb => by
        obtain ⟨_, o, ho, ro⟩ := st4.ow _ _ (Mfn b hb)
        have : o = PinO b (ob b) := ro.raw
        subst this
        exact ⟨ho, pinO_at hok4 ho⟩
      let H5 : Hp := fun b => if b ∈ cs then none else H4 b
      have H5n : ∀ b, b ∈ cs → H5 b = none := fun b h => if_pos h
      have H5s : ∀ b, b ∉ cs → H5 b = H4 b := fun b h => if_neg h
      have keepNX : ∀ b u, H4 b = some u → NE u → H5 b = some u := fun b u e n => by
        have : b ∉ cs := fun z => by rw [(obk b z).1] at e; cases e; exact n
        rw [H5s b this]; exact e
      have un5 : Un (frs X.stack) [] H3 H5 s3.heap s'.heap := by
        refine ⟨fun b o e n hf hx => ?_, fun b o e n hf hx => ?_, fun b o e n hx => ?_, fun b o e hx => un.there b o e hx, fun b xs e => keepNX _ _ (un.tups b xs (inH _ _ e).2) trivial, fun b o u e => keepNX _ _ (un.frzs b o u (inH _ _ e).2) trivial, fun b ps e => ?_⟩
        · by_cases hb : b ∈ cs
          · rw [(cob b hb).1] at e; cases e; exact (obk b hb).2
          · exact un.keep b o e (by rw [H's b hb]; exact n) hf hx
        · by_cases hb : b ∈ cs
          · exact absurd hf (cfr b hb)
          · exact un.slot b o e (by rw [H's b hb]; exact n) hf hx
        · by_cases hb : b ∈ cs
          · exact H5n b hb
          · rw [H5s b hb]; exact un.free b o e (by rw [H's b hb]; exact n) hx
        · obtain ⟨more, z⟩ := un.tbls b ps (inH _ _ e).2
          exact ⟨more, keepNX _ _ z trivial⟩
      have hok5 : HOk X.prog X.w H5 s'.heap := fun b u e => by
        by_cases hb : b ∈ cs
        · rw [H5n b hb] at e; cases e
        · rw [H5s b hb] at e
          exact (hok4 b u e).stay (fun c v _ z => z) (fun c z => keepNX _ _ z trivial) fun c xs z => keepNX _ _ z trivial
      have st5 : Stt X.K F4 R H5 M1 := by
        refine ⟨fun a o e => keepNX _ _ (st4.fz a o e) (st4.nf a o e).ne, fun a o e => ?_, fun a m e => ?_, st4.nf, st4.nr⟩
        · obtain ⟨g1, g2, g3⟩ := st4.rs a o e
          have ha : a ∉ cs := fun z => by rw [Mfn a z] at g3; cases g3
          refine ⟨g1.imp (fun u eu => by rw [H5s a ha]; exact eu) (fun b q' eb => ?_), g2, ?_⟩
          · by_cases hb : b ∈ cs
            · obtain ⟨v', hv'⟩ := (cob b hb).2
              exact (cell_code hok4 eb (obk b hb).2 hv').elim
            · rw [H5s b hb]; exact eb
          · cases em : M1 a with
            | none => rfl
            | some m =>
              have := (more1.trans more2).1 a m em
              rw [g3] at this; cases this
        · obtain ⟨g1, o, g2, g3⟩ := st4.ow a m ((more1.trans more2).1 a m e)
          have ha : a ∉ cs := fun z => by
            have := M2n a z
            rw [more1.1 a m e] at this; cases this
          exact ⟨g1, o, by rw [H5s a ha]; exact g2, g3⟩
      exact I3.after ⟨v, H5, os4, bare4, un5, hok5, rv, kq v H5 F4 r M1 (ex1.trans (ex3.trans ex4)) st5 rp4 q4⟩
end
section
variable {P : Program} {w : World} {K : PySem.W.Frag} {mg : Str → Option Value} {base : Heap}
/-- a def with lambdas that may raise -/
theorem FunC.okXD {x qual : Str} {st : Stmt} {f c : Addr} {fd : FuncData} {N ps : List Str} {k : Nat} {sp : SpD} {T : List (Addr × Str)} (F : FunC K x qual st f fd c) (S : FnScope N ps (defScope st)) (len : ∀ ds M Q E, sp ds M Q E → ds.length = ps.length) {t : XD → DS}
    (hbody : ∀ (A : Around) (outer : List Env) (s : Shared) (H : Hp) (E : XK) (F0 R0 : Hp) (E' : XD), Room k (A.deeper (envOfC qual (defScope st) s.heap.objs.size f (.ref c))) → (∀ e dx H, liX K ⟨F0, R0, T⟩ E' e dx H → E e dx H) → Takes (cxOf (L2.CX P w) P w K mg base N qual (defScope st) f (.ref c) A outer s H E) (fun cls d _ H => E cls d H) →
      PSs (cxOf (L2.CX P w) P w K mg base N qual (defScope st) f (.ref c) A outer s H E) (defBody st) (liS K ⟨F0, R0, T⟩ (t E')))
    (hq : RdsX t N sp) : FnOk P w K mg base (L2.CX P w) (k + 1) f fd ps (liSp K T sp) := by
  obtain ⟨oc, od, kV, doc, pm, an, ct, osl, rfl, lk, hcd⟩ := F.ex
  refine fn_of lk hcd S (fun vs H Q E ⟨F, R, ds, M, Q', E', st, _, ra, h, _, _⟩ => by rw [ra.len]; exact len _ _ _ _ h) fun A outer s H vs Q E hr ⟨F, R, ds, M, Q', E', st, tr, ra, h, kQ, kE⟩ => ?_
  refine ⟨_, hbody A outer s H E F R E' hr (fun e dx H2 ⟨F2, R2, M2, fs, b2, st2, rx, q2⟩ => kE e dx H2 F2 fs M2 b2.f (st2.lessR b2.r) rx q2) (takes_of rfl rfl rfl rfl), F, R, startD N ds, M, _, ⟨Ext.refl, Ext.refl, tr⟩, st, slots_start ra, hq ds M Q' E' h, ?_⟩
  refine ⟨fun σ2 H2 F2 τ2 M2 e2 st2 sl2 ⟨M3, h3, q3⟩ => kQ _ _ _ _ _ e2 (st2.less h3) .non q3, fun v H2 F2 d M2 e2 st2 r2 ⟨M3, h3, q3⟩ => kQ _ _ _ _ _ e2 (st2.less h3) r2 q3, fun _ _ _ _ _ _ _ _ z => z, fun _ _ _ _ _ _ _ _ z => z⟩
end
/-! what an error leaves behind may be forgotten -/
def rtX (E : XD) : XD := fun e fs M' => ∃ M2 : Mp, (∀ a m, M2 a = some m → M' a = some m) ∧ E e fs M2
theorem s_endX {E : XD} {e : Value} {fs : Option (List (Str × D))} {M M2 : Mp} (h : ∀ a m, M2 a = some m → M a = some m) (q : E e fs M2) : rtX E e fs M := ⟨M2, h, q⟩
def RdsE (t : XD → DS) (N : List Str) (sp : SpD) : Prop := ∀ ds M Q E, sp ds M Q E → t (rtX E) (fnE Q) (startD N ds) M
section
variable {P : Program} {w : World} {K : PySem.W.Frag} {mg : Str → Option Value} {base : Heap}
theorem liX_rt {F0 : Bs} {E' : XD} {e : Value} {dx : Option Addr} {H : Hp} (h : liX K F0 (rtX E') e dx H) : liX K F0 E' e dx H := by
  obtain ⟨F, R, M, fs, b, st, rx, M2, le, q⟩ := h
  exact ⟨F, R, M2, fs, b, st.less le, rx, q⟩
theorem Fun.okXE {x qual : Str} {st : Stmt} {f : Addr} {fd : FuncData} {N ps : List Str} {k : Nat} {sp : SpD} {T : List (Addr × Str)} (F : Fun K x qual st f fd) (S : FnScope N ps (defScope st)) (len : ∀ ds M Q E, sp ds M Q E → ds.length = ps.length) {t : XD → DS}
    (hbody : ∀ (cdv : Value) (A : Around) (outer : List Env) (s : Shared) (H : Hp) (E : XK) (F0 R0 : Hp) (E' : XD), Room k (A.deeper (envOfC qual (defScope st) s.heap.objs.size f cdv)) → (∀ e dx H, liX K ⟨F0, R0, T⟩ E' e dx H → E e dx H) → Takes (cxOf (L2.CX P w) P w K mg base N qual (defScope st) f cdv A outer s H E) (fun cls d _ H => E cls d H) →
      PSs (cxOf (L2.CX P w) P w K mg base N qual (defScope st) f cdv A outer s H E) (defBody st) (liS K ⟨F0, R0, T⟩ (t E')))
    (hq : RdsE t N sp) : FnOk P w K mg base (L2.CX P w) (k + 1) f fd ps (liSp K T sp) :=
  Fun.okXD F S len (t := fun E => t (rtX E)) (fun cdv A outer s H E F0 R0 E' hr hE tk => hbody cdv A outer s H E F0 R0 (rtX E') hr (fun e dx H h => hE _ _ _ (liX_rt h)) tk) hq
theorem FunC.okXE {x qual : Str} {st : Stmt} {f c : Addr} {fd : FuncData} {N ps : List Str} {k : Nat} {sp : SpD} {T : List (Addr × Str)} (F : FunC K x qual st f fd c) (S : FnScope N ps (defScope st)) (len : ∀ ds M Q E, sp ds M Q E → ds.length = ps.length) {t : XD → DS}
    (hbody : ∀ (A : Around) (outer : List Env) (s : Shared) (H : Hp) (E : XK) (F0 R0 : Hp) (E' : XD), Room k (A.deeper (envOfC qual (defScope st) s.heap.objs.size f (.ref c))) → (∀ e dx H, liX K ⟨F0, R0, T⟩ E' e dx H → E e dx H) → Takes (cxOf (L2.CX P w) P w K mg base N qual (defScope st) f (.ref c) A outer s H E) (fun cls d _ H => E cls d H) →
      PSs (cxOf (L2.CX P w) P w K mg base N qual (defScope st) f (.ref c) A outer s H E) (defBody st) (liS K ⟨F0, R0, T⟩ (t E')))
    (hq : RdsE t N sp) : FnOk P w K mg base (L2.CX P w) (k + 1) f fd ps (liSp K T sp) :=
  FunC.okXD F S len (t := fun E => t (rtX E)) (fun A outer s H E F0 R0 E' hr hE tk => hbody A outer s H E F0 R0 (rtX E') hr (fun e dx H h => hE _ _ _ (liX_rt h)) tk) hq
end
section
variable {t1 t3 tb : DE} {τ : SD} {M : Mp} {Q : QD} {C : Ct} {k n : Nat} {js : List Nat} {sp : SpD} {E : XD} {d : D}
def kCallLX (C : Ct) (k : Nat) (js : List Nat) (n : Nat) (tb : DE) (sp : SpD) (E : XD) (t3 : DE) (τ : SD) (Q : QD) : QD := fun d1 M1 => ∃ ws : List D, js.map (fun j => τ[j]?) = ws.map (fun d => some (some d)) ∧
  ∀ M2, MoreRaw M1 M2 → t3 τ M2 fun d3 M3 => M3 = M2 ∧ ∀ d Mf, MoreRaw M2 Mf → HasFn C k Mf d (spL tb n ws) → sp [d1, d, d3] Mf (fun r M4 => M4 = Mf ∧ Q r M1) (fun e fs M4 => M4 = Mf ∧ E e fs M1)
theorem s_callLX (h : t1 τ M (kCallLX C k js n tb sp E t3 τ Q)) : dCallLX C k js n tb sp E t1 t3 τ M Q := h
def kCallLX3 (C : Ct) (k n : Nat) (tb : DE) (sp : SpD) (E : XD) (ws : List D) (d1 : D) (M1 M2 : Mp) (Q : QD) : QD := fun d3 M3 => M3 = M2 ∧ ∀ d Mf, MoreRaw M2 Mf → HasFn C k Mf d (spL tb n ws) → sp [d1, d, d3] Mf (fun r M4 => M4 = Mf ∧ Q r M1) (fun e fs M4 => M4 = Mf ∧ E e fs M1)
theorem s_kcallLX (ws : List D) (e : js.map (fun j => τ[j]?) = ws.map (fun d => some (some d))) (h : ∀ M2, MoreRaw M M2 → t3 τ M2 (kCallLX3 C k n tb sp E ws d M M2 Q)) : kCallLX C k js n tb sp E t3 τ Q d M := ⟨ws, e, h⟩
theorem s_kcallLX3 {ws : List D} {d1 d3 : D} {M1 : Mp} (h : ∀ d Mf, MoreRaw M Mf → HasFn C k Mf d (spL tb n ws) → sp [d1, d, d3] Mf (fun r M4 => M4 = Mf ∧ Q r M1) (fun e fs M4 => M4 = Mf ∧ E e fs M1)) : kCallLX3 C k n tb sp E ws d1 M1 M Q d3 M := ⟨rfl, h⟩
end
end DL

namespace DL
open PySem PySem.Spec PyProof.Rows L2
/-! ### texts: their order, tuples of them -/
def leC (a b : Str) : Bool := !decide (b.cps.toList < a.cps.toList)
def strsOf : List D → Option (List Str)
  | [] => some []
  | .str s :: ds => (strsOf ds).map (s :: ·)
  | _ :: _ => none
theorem strsOf_map : ∀ ss : List Str, strsOf (ss.map .str) = some ss
  | [] => rfl
  | s :: ss => by show (strsOf (ss.map .str)).map (s :: ·) = _; rw [strsOf_map ss]; rfl
theorem strsOf_eq : ∀ {ds : List D} {ss : List Str}, strsOf ds = some ss → ds = ss.map .str
  | [], ss, h => by cases h; rfl
  | .str s :: ds, ss, h => by
    obtain ⟨ts, h1, h2⟩ := Option.map_eq_some_iff.mp (show (strsOf ds).map (s :: ·) = some ss from h)
    subst h2
    rw [strsOf_eq h1]; rfl
  | .non :: _, _, h => by cases h
  | .bl _ :: _, _, h => by cases h
  | .int _ :: _, _, h => by cases h
  | .ref _ :: _, _, h => by cases h
  | .ty _ :: _, _, h => by cases h
  | .fn _ _ :: _, _, h => by cases h
  | .tup _ :: _, _, h => by cases h
  | .lst _ :: _, _, h => by cases h
  | .lsk _ :: _, _, h => by cases h
/-- tuples of texts: from the first pair that differs on -/
def lexS (a b : List Str) : Bool := Ob.lexAt (fun j => decide (a.getD j "" = b.getD j "")) (fun j => leC (a.getD j "") (b.getD j "")) (decide (a.length ≤ b.length)) 0 (min a.length b.length)
def rLeTS (K : PySem.W.Frag) : R2 := fun x y H Q => ∃ (a b : Addr) (ns ms : List Str), x = .ref a ∧ y = .ref b ∧ SqT K H a (ns.map V.str) ∧ SqT K H b (ms.map V.str) ∧ Q (.bl (lexS ns ms)) H
theorem op_leTS {X : Cx} (hu : X.A.units < cLine) : OpR X (compareOp .LtE) (rLeTS X.K) := by
  intro pins s σ H x y v u Q I rx ry h
  obtain ⟨a, b, ns, ms, rfl, rfl, ha, hb, q⟩ := h
  cases rx
  cases ry
  obtain ⟨its, r1, p1, _⟩ := I.tuple ha
  obtain ⟨its2, r2, p2, _⟩ := I.tuple hb
  have i1 := Vals.strs r1
  have i2 := Vals.strs r2
  have l1 := r1.length
  have l2 := r2.length
  rw [List.length_map] at l1 l2
  have e1 : its.toArray.size = ns.length := by rw [List.size_toArray]; exact l1.symm
  have e2 : its2.toArray.size = ms.length := by rw [List.size_toArray]; exact l2.symm
  have at1 : ∀ {its : List Value} {ns : List Str}, Vals (ns.map V.str) its → ∀ j (h1 : j < its.toArray.size), ∃ t, its.toArray[j] = .str (ns.getD j "") t := fun {its ns} r j h1 => by
    have hl := r.length
    rw [List.length_map] at hl
    rw [List.size_toArray] at h1
    have hx : (ns.map V.str)[j]? = some (V.str (ns.getD j "")) := by
      rw [List.getElem?_map, List.getElem?_eq_getElem (show j < ns.length by omega), getD_of (List.getElem?_eq_getElem (show j < ns.length by omega))]; rfl
    obtain ⟨u, hu, ru⟩ := r.get hx
    obtain ⟨t, et⟩ := (show ∃ t, u = Value.str (ns.getD j "") t from ru)
    refine ⟨t, ?_⟩
    rw [← et]
    rw [List.getElem?_eq_getElem h1] at hu
    simpa using Option.some.inj hu
  have R := Ob.RcOp.tuples_le (A := X.A) (s := s) (e := fun j => decide (ns.getD j "" = ms.getD j "")) (r := fun j => leC (ns.getD j "") (ms.getD j "")) p1 p2 hu (fun j h1 h2 => by
    obtain ⟨t, et⟩ := at1 r1 j h1
    obtain ⟨t', et'⟩ := at1 r2 j h2
    rw [et, et']
    have z : (ns.getD j "" == ms.getD j "") = decide (ns.getD j "" = ms.getD j "") := by
      by_cases q : ns.getD j "" = ms.getD j ""
      · rw [decide_eq_true q]; exact beq_iff_eq.mpr q
      · rw [decide_eq_false q]; exact beq_eq_false_iff_ne.mpr q
    rw [← z]
    exact SeqAt.EqAt.str_str _ _ _ _) (fun j h1 h2 _ => by
    obtain ⟨t, et⟩ := at1 r1 j h1
    obtain ⟨t', et'⟩ := at1 r2 j h2
    rw [et, et']
    exact fun prog w E Q h => PySem.P.le_str h)
  rw [e1, e2] at R
  have z : wpAny (model X.prog X.w) X.A (compareOp .LtE (.ref a) (.ref b)) (EP X pins σ Q) X.xe s := R X.prog X.w X.xe (EP X pins σ Q) ⟨.bl _, H, I, rfl, q⟩
  exact z
/-- <= of texts, of tuples of texts -/
def dLeS : R2D := fun x y M Q => match x, y with
  | .str a, .str b => Q (.bl (leC a b)) M
  | .tup xs, .tup ys => match strsOf xs, strsOf ys with
    | some as, some bs => Q (.bl (lexS as bs)) M
    | _, _ => False
  | _, _ => False
theorem RepAll.ofStrs {K : PySem.W.Frag} {F : Hp} {vs : List V} {ds : List D} {ss : List Str} (r : RepAll K F vs ds) (h : strsOf ds = some ss) : vs = ss.map V.str := by
  have e := strsOf_eq h
  subst e
  exact RepAll.strs r
section
variable {X : Cx} {F0 : Bs}
theorem od_leS (hu : X.A.units + 64 < cLine) : OpD X F0 (compareOp .LtE) dLeS := by
  intro pins s σ H x y v u Q I rx ry ⟨F, R, M, d, e, Q', e0, st, rd, re, q, k⟩
  unfold dLeS at q
  split at q
  · cases rd; cases re
    exact op_le_str pins s σ H _ _ v u Q I rx ry ⟨_, _, rfl, rfl, k _ _ _ _ _ Ext.refl st (.bl _) q⟩
  · split at q
    · rename_i as bs h1 h2
      obtain ⟨a, vs, rfl, hs, ra⟩ := tp_get st rd
      obtain ⟨b, us, rfl, hs2, rb⟩ := tp_get st re
      rw [ra.ofStrs h1] at hs
      rw [rb.ofStrs h2] at hs2
      exact op_leTS (by omega) pins s σ H _ _ v u Q I rx ry ⟨a, b, as, bs, rfl, rfl, hs, hs2, k _ _ _ _ _ Ext.refl st (.bl _) q⟩
    · exact q.elim
  · exact q.elim
/-! ### the signs of a text, in turn -/
def itStr (z : Str) : ItD := ⟨z.cps.size, fun i => .str ⟨#[z.cps.getD i 0]⟩, fun _ => True⟩
def iStrD (te : DE) : DTI := fun τ M Q => te τ M fun d M1 => match d with
  | .str z => Q (itStr z) M1
  | _ => False
theorem rel_str {K : PySem.W.Frag} {F : Hp} {z : Str} : ItRel K F (Its z) (itStr z) where
  go := fun i F2 R H M e st _ hi => hi
  yld := fun i F2 R H M x H' e st _ hi y => by
    obtain ⟨rfl, c, hc, rfl⟩ := y
    refine ⟨F2, Ext.refl, st, ?_, fun _ _ => rfl⟩
    have e : z.cps.getD i 0 = c := by
      rw [Array.getD_eq_getD_getElem?, hc]; rfl
    show Rep K F2 _ (.str ⟨#[z.cps.getD i 0]⟩)
    rw [e]
    exact .str _
  stop := fun F2 R H M e st _ => Nat.le_refl _
theorem id_str {tg e : Expr} {te : DE} (he : PE X e (liE X.K F0 te)) : PI X tg e (liI X.K F0 (iStrD te)) := by
  refine piImp (pi_str he) fun σ H Q ⟨F, R, τ, M, Q', e0, st, sl, q, k⟩ => ?_
  refine ⟨F, R, τ, M, _, e0, st, sl, q, fun v H1 F1 d M1 e1 st1 r1 q1 => ?_⟩
  cases d <;> try exact q1.elim
  cases r1
  exact ⟨_, rfl, k _ _ _ _ _ e1 st1 rel_str q1⟩
/-! ### enumerate(a list) -/
def itEnum (d : D) (ds : List D) : ItD := ⟨ds.length, fun i => .tup [.int i, ds.getD i .non], fun M => lsOf M d = some ds⟩
def iEnumD (ta : DA) : DTI := fun τ M Q => ta τ M fun ds M1 => match ds with
  | [d] => match lsOf M1 d with
    | some xs => Q (itEnum d xs) M1
    | none => False
  | _ => False
theorem rel_enum {K : PySem.W.Frag} {F : Hp} {a : Addr} {d : D} {ds : List D} (r : Rep K F (.ref a) d) : ItRel K F (Ite K a) (itEnum d ds) where
  go := fun i F2 R H M e st ok hi => by
    obtain ⟨a', xs, ea, hs, ra⟩ := ls_get st (r.ext e) ok
    cases ea
    have hi : i < ds.length := hi
    exact ⟨xs, xs[i]'(by rw [ra.len]; exact hi), hs, List.getElem?_eq_getElem _⟩
  yld := fun i F2 R H M x H' e st ok hi y => by
    obtain ⟨T, x', rfl, hT, rfl, y⟩ := y
    obtain ⟨a', xs, ea, hs, ra⟩ := ls_get st (r.ext e) ok
    cases ea
    obtain ⟨d', e1, e2⟩ := ra.get (y xs hs)
    obtain ⟨s2, ex⟩ := st.freeze (o := .tup [.int (i : Nat), x']) hT
    refine ⟨_, ex, s2, ?_, fun b hb => ?_⟩
    · show Rep K _ (.ref T) (.tup [.int i, ds.getD i .non])
      rw [getD_of e1]
      exact .tup (.inl (.inl upd_same)) (.cons (.int _) (.cons (e2.ext ex) .nil))
    · refine upd_ne fun z => ?_
      subst z
      cases z : R b with
      | none => exact hb z
      | some o => exact (st.rs b o z).1.there hT
  stop := fun F2 R H M e st ok => by
    obtain ⟨a', xs, ea, hs, ra⟩ := ls_get st (r.ext e) ok
    cases ea
    exact ⟨xs, hs, by rw [ra.len]; exact Nat.le_refl _⟩
theorem id_enum {elts : List Expr} {kk : Nat} {tpos p pos : Pos} {e : Expr} {ta : DA} (hg : Gl X "enumerate") (hm : X.mg "enumerate" = none) (ha : PA X [e] (liA X.K F0 ta)) (hs : starEach [e] X.env = [(false, eval e X.env)] := by rfl) : PI X (.Tuple elts kk tpos) (.Call (.Name "enumerate" p) [e] [] pos) (liI X.K F0 (iEnumD ta)) := by
  refine piImp (pi_enum hg hm ha hs) fun σ H Q ⟨F, R, τ, M, Q', e0, st, sl, q, k⟩ => ?_
  refine ⟨F, R, τ, M, _, e0, st, sl, q, fun v H1 F1 ds M1 e1 st1 r1 q1 => ?_⟩
  split at q1 <;> try exact q1.elim
  obtain ⟨x, rfl, r⟩ := rep1 r1
  split at q1 <;> try exact q1.elim
  rename_i xs h1
  have r0 := r
  obtain ⟨a, vs, rfl, hs, ra⟩ := ls_get st1 r h1
  exact ⟨a, vs, rfl, hs, k _ _ _ _ _ e1 st1 (rel_enum r0) q1⟩
/-! ### sorted(a list of texts) -/
def dSortedS : RC := fun ds M Q => match ds with
  | [d] => match lsOf M d with
    | some xs => match strsOf xs with
      | some ns => ns.length < 64 ∧ ∀ ys : List Str, ys.Perm ns → sortedS ys = true → Q (.lst (ys.map D.str)) M
      | none => False
    | none => False
  | _ => False
theorem RepAll.mkStrs {K : PySem.W.Frag} {F : Hp} : ∀ (ns : List Str), RepAll K F (ns.map V.str) (ns.map D.str)
  | [] => .nil
  | n :: ns => .cons (.str n) (RepAll.mkStrs ns)
theorem cd_sortedS : CallR X (.builtin "sorted") (liC X.K F0 dSortedS) := by
  refine caImp cr_sortedS fun xs H Q ⟨F, R, M, ds, Q', e0, st, rs, q, k⟩ => ?_
  unfold dSortedS at q
  split at q <;> try exact q.elim
  obtain ⟨x, rfl, r⟩ := rep1 rs
  split at q <;> try exact q.elim
  rename_i ys h1
  split at q <;> try exact q.elim
  rename_i ns h2
  obtain ⟨a, vs, rfl, hs, ra⟩ := ls_get st r h1
  rw [ra.ofStrs h2] at hs
  exact ⟨a, ns, rfl, hs, q.1, fun zs p hp hz hn => k.lst st hn (RepAll.mkStrs zs) (q.2 zs hp hz)⟩
end
/-! ### steps -/
theorem s_leS {a b : Str} {M : Mp} {Q : QD} (h : Q (.bl (leC a b)) M) : dLeS (.str a) (.str b) M Q := h
theorem s_leTS {as bs : List Str} {M : Mp} {Q : QD} (h : Q (.bl (lexS as bs)) M) : dLeS (.tup (as.map .str)) (.tup (bs.map .str)) M Q := by
  unfold dLeS; simp only [strsOf_map]; exact h
section
variable {τ : SD} {M : Mp} {QI : ItD → Mp → Prop} {Q : QD} {te : DE} {ta : DA} {x : D} {xs : List D}
def kStrI (QI : ItD → Mp → Prop) : QD := fun d M1 => match d with
  | .str z => QI (itStr z) M1
  | _ => False
theorem s_strI (h : te τ M (kStrI QI)) : iStrD te τ M QI := h
theorem s_kstrI {z : Str} (h : QI (itStr z) M) : kStrI QI (.str z) M := h
def kEnum (QI : ItD → Mp → Prop) : List D → Mp → Prop := fun ds M1 => match ds with
  | [d] => match lsOf M1 d with
    | some xs => QI (itEnum d xs) M1
    | none => False
  | _ => False
theorem s_enum (h : ta τ M (kEnum QI)) : iEnumD ta τ M QI := h
theorem s_kenum (e : lsOf M x = some xs) (h : QI (itEnum x xs) M) : kEnum QI [x] M := by unfold kEnum; simp only [e]; exact h
theorem s_sortedS {ns : List Str} (e : lsOf M x = some (ns.map D.str)) (hl : ns.length < 64) (h : ∀ ys : List Str, ys.Perm ns → sortedS ys = true → Q (.lst (ys.map D.str)) M) : dSortedS [x] M Q := by
  unfold dSortedS; simp only [e, strsOf_map]; exact ⟨hl, h⟩
/-- over the signs of a text, each turn gives one, and M stays -/
theorem s_klcStr {fin : List D → Mp → QD → Prop} {i0 : Nat} {vs : List Nat} {z : Str} (f : Nat → D) (hn : z.cps.size ≤ sizeLine)
    (hs : ∀ i (Q : QD), i < z.cps.size → Q (f i) M → te ((wipeD τ vs).set i0 (some (.str ⟨#[z.cps.getD i 0]⟩))) M Q) (hd : fin ((List.range z.cps.size).map f) M Q) : kLc fin true [i0] vs dYes te τ Q (itStr z) M := by
  refine ⟨fun i acc M' => M' = M ∧ acc = (List.range i).map f, ⟨rfl, rfl⟩, fun _ _ _ _ _ => trivial, fun i acc M' hi p => ?_, fun acc M' p => ?_⟩
  · obtain ⟨rfl, rfl⟩ := p
    have hi : i < z.cps.size := hi
    refine hs i _ hi ⟨?_, rfl, ?_⟩
    · rw [List.length_map, List.length_range]; omega
    · rw [List.range_succ, List.map_append]; rfl
  · obtain ⟨rfl, rfl⟩ := p
    exact hd
/-- over enumerate(a list that nobody changes) -/
theorem s_klcEnum {fin : List D → Mp → QD → Prop} {i0 i1 : Nat} {vs : List Nat} {ds : List D} (f : Nat → D → D) (hx : lsOf M x = some ds) (hn : ds.length ≤ sizeLine)
    (hs : ∀ i d (Q : QD), ds[i]? = some d → Q (f i d) M → te (setAll [i0, i1] [.int i, d] (wipeD τ vs)) M Q) (hd : fin ((List.range ds.length).map fun i => f i (ds.getD i .non)) M Q) : kLc fin false [i0, i1] vs dYes te τ Q (itEnum x ds) M := by
  refine ⟨fun i acc M' => M' = M ∧ acc = (List.range i).map fun i => f i (ds.getD i .non), ⟨rfl, rfl⟩, fun _ _ _ _ p => by rw [p.1]; exact hx, fun i acc M' hi p => ?_, fun acc M' p => ?_⟩
  · obtain ⟨rfl, rfl⟩ := p
    have hi : i < ds.length := hi
    have e := List.getElem?_eq_getElem hi
    have eb : bindD false [i0, i1] ((itEnum x ds).at' i) (wipeD τ vs) = some (setAll [i0, i1] [.int i, ds[i]] (wipeD τ vs)) := by
      show (if [D.int (i : Nat), ds.getD i .non].length = [i0, i1].length then some (setAll [i0, i1] [.int (i : Nat), ds.getD i .non] (wipeD τ vs)) else none) = _
      rw [if_pos (by rfl), getD_of e]
    rw [eb]
    refine hs i _ _ e ⟨?_, rfl, ?_⟩
    · rw [List.length_map, List.length_range]; omega
    · rw [List.range_succ, List.map_append]
      show _ = _ ++ [f i (ds.getD i .non)]
      rw [getD_of e]
  · obtain ⟨rfl, rfl⟩ := p
    exact hd
end
end DL

/-! DL26: dicts. The first part carries the hand layer's rule for dict comprehensions over to any kind of keys (its steps follow dc_core, for a kind kd). -/
namespace L2
open PySem PySem.Spec PyProof.Rows
/-- a kind of dicts: the empty one, and what stands where a pair was put -/
structure DKind where
  e : HO
  put : Hp → Addr → V → V → Hp → Prop
structure DKindOk (kd : DKind) : Prop where
  new : ∀ {P : Program} {w : World} {H : Hp} (h : Heap), sysModules < h.objs.size → ObjOk P w H (h.push { cls := .type "dict", data := .dict #[] }) h.objs.size kd.e
  set : ∀ {X : Cx} {pins : List (Addr × Obj)} {σ : St} {H H' : Hp} {s : Shared} {E : Value → Shared → Prop} {D : Addr} {y z : V} {u r : Value} {Q : Unit → Shared → Prop}, X.A.units + 1 < cLine → Inv X pins σ H s → kd.put H D y z H' → RelV y u → RelV z r → (∀ s', Inv X pins σ H' s' → Q () s') → wpAny (model X.prog X.w) X.A (dictSet D u r) Q E s
section
variable {X : Cx}
def tDcG (kd : DKind) (wi : TI) (g : TG) (tt : TT) (tk tv : TE) (vs : List Nat) : TE := fun σ H Q => wi σ H fun J H1 => ∀ D, H1 D = none → ∃ W : Nat → Nat → Hp → Prop, (∃ m, W 0 m (upd H1 D kd.e)) ∧ ∀ i m H, W i m H →
  (J.stop i H ∧ Q (.ref D) H) ∨ (J.go i H ∧ ∃ Nx : Hp → Prop, (∀ H', Nx H' → ∃ m', m' < m ∧ W (i + 1) m' H') ∧ ∀ x H', J.yld i H x H' → g x (wipe σ vs) H' fun σ2 H2 => wipe σ2 vs = wipe σ vs ∧ tt σ2 H2 fun b H3 =>
    if b = true then tk σ2 H3 fun y H4 => tv σ2 H4 fun z H5 => ∃ H6, kd.put H5 D y z H6 ∧ Nx H6 else Nx H3)
theorem dcG_core {kd : DKind} (ko : DKindOk kd) (hu : X.A.units + 1 < cLine) {pins : List (Addr × Obj)} {s : Shared} {σ : St} {H : Hp} {Q : VK} {kx vx tg iter : Expr} {ifs : List Expr} {scope : Scope} {own : List (Str × Nat)} {pos pos' : Pos} {wi : TI} {g : TG} {tt : TT} {tk tv : TE} {use : Option (Value → Sem Unit)} {Qf : Value → Shared → Prop}
    (hc : X.calm = true) (hN : X.N.Nodup) (I : Inv X pins σ H s) (hi : PI X tg iter wi) (ok : BlkOk X.N X.env.scope scope own)
    (hg : ∀ (s : Shared) (H : Hp) (C : Addr) (cl : List (Str × Addr)) (fp : List Addr), PG (X.blk s H scope (compEnvC scope cl C X.env) fp) tg g) (ht : ∀ (s : Shared) (H : Hp) (C : Addr) (cl : List (Str × Addr)) (fp : List Addr), PTs (X.blk s H scope (compEnvC scope cl C X.env) fp) ifs tt)
    (hk : ∀ (s : Shared) (H : Hp) (C : Addr) (cl : List (Str × Addr)) (fp : List Addr), PE (X.blk s H scope (compEnvC scope cl C X.env) fp) kx tk)
    (he : ∀ (s : Shared) (H : Hp) (C : Addr) (cl : List (Str × Addr)) (fp : List Addr), PE (X.blk s H scope (compEnvC scope cl C X.env) fp) vx tv) (hs : ∀ x, foldedSetIterable iter X.env x = pure x)
    (h : tDcG kd wi g tt tk tv (own.map (·.2)) σ H Q)
    (hRR : ∀ D C s' m H', Inv X pins σ H' s' → Q (.ref D) H' → s'.heap.Ns C m → FpOk X pins H' C → compPost (model X.prog X.w) X.A X.xe use Qf (.ref D) C (.ok .next) s') :
    wpAny (model X.prog X.w) X.A (comprehension (.DictComp kx vx [⟨tg, iter, ifs, 0⟩] scope pos) scope X.env pos' newDict false (eval iter X.env) use) Qf X.xe s := by
  have hfree : ∀ y ∈ scope.names, y.2 = .free → ∃ c, X.env.cells.lookup y.1 = some c := fun y hy e => by
    rcases ok.free y hy e with k | k
    · exact I.ok.has _ (.inl k)
    · exact I.ok.has _ (.inr k)
  refine wpAny_comprehension_free (use := use) rfl hs (closure_ok hfree) ok.kind (fun y hy e => by rw [ok.uniq y hy, e])
    (thn (hi.run pins s σ H _ I h) fun xv s1 hx => thn hx fun itv s2 h2 => ?_)
  obtain ⟨it, fp, tn, J, H2, e, I2, T, st2, f2, q⟩ := h2
  subst e
  refine wpAny_newObj_type (newEnv_comp ?_)
  generalize hD : s2.heap.objs.size = D
  have hDn : H2 D = none := I2.hok.fresh (Nat.le_of_eq hD)
  obtain ⟨W, ⟨m0, w0⟩, turn⟩ := q D hDn
  -- the new list
  generalize hs3 : ({ s2 with heap := s2.heap.push { cls := .type "dict", data := .dict #[] } } : Shared) = s3
  have I3 : Inv X pins σ (upd H2 D kd.e) s3 := by
    rw [← hs3]
    refine I2.laid (t' := s2.toks) (fun b o e => Heap.get?_push_of_some _ e) (Nat.le_of_eq hD) ?_
    rw [← hD]
    exact ko.new s2.heap I2.big
  have h3 : s3.heap = s2.heap.push { cls := .type "dict", data := .dict #[] } := by rw [← hs3]
  have sz : ∀ b ∈ fp, b < s2.heap.objs.size := fun b hb => by
    obtain ⟨o, e, _⟩ := T.obj _ _ st2 b hb
    exact Heap.lt_size e
  have f3 : ∀ b ∈ fp, FpOk X pins (upd H2 D kd.e) b ∧ b < s3.heap.objs.size := fun b hb => by
    have hlt := sz b hb
    refine ⟨⟨?_, (f2 b hb).2⟩, by rw [h3, Heap.size_push]; exact Nat.lt_succ_of_lt hlt⟩
    rw [upd_ne (by rw [← hD]; exact Nat.ne_of_lt hlt)]
    exact (f2 b hb).1
  have st3 : tn 0 s3.heap := T.keep _ _ _ st2 fun b _ o e => by rw [h3]; exact Heap.get?_push_of_some _ e
  have I4 := block_start I3 ok hN f3
  have pg := hg s3 (upd H2 D kd.e) s3.heap.objs.size (cellsFrom (s3.heap.objs.size + 1) scope.names (cloFrom X.env.cells scope.names [])) fp
  have pt := ht s3 (upd H2 D kd.e) s3.heap.objs.size (cellsFrom (s3.heap.objs.size + 1) scope.names (cloFrom X.env.cells scope.names [])) fp
  have pk := hk s3 (upd H2 D kd.e) s3.heap.objs.size (cellsFrom (s3.heap.objs.size + 1) scope.names (cloFrom X.env.cells scope.names [])) fp
  have pe := he s3 (upd H2 D kd.e) s3.heap.objs.size (cellsFrom (s3.heap.objs.size + 1) scope.names (cloFrom X.env.cells scope.names [])) fp
  show codeAny _ _ (.compStart (.DictComp kx vx [⟨tg, iter, ifs, 0⟩] scope pos) 0 (.ref it) (.ref D) (compEnvC scope (cellsFrom (s3.heap.objs.size + 1) scope.names (cloFrom X.env.cells scope.names [])) s3.heap.objs.size X.env)) (compPost (model X.prog X.w) X.A X.xe use Qf (.ref D) s3.heap.objs.size) { s3 with heap := pushCells (s3.heap.push { cls := .type "dict", data := .dict #[] }) scope.names }
  have nfp : ∀ b ∈ fp, (upd H2 D kd.e) b = none := fun b hb => (f3 b hb).1.1
  generalize hce : compEnvC scope (cellsFrom (s3.heap.objs.size + 1) scope.names (cloFrom X.env.cells scope.names [])) s3.heap.objs.size X.env = ce at I4 pg pt pk pe ⊢
  have cL : ce.locals = s3.heap.objs.size := by subst hce; rfl
  generalize hH3 : upd H2 D kd.e = H3 at I3 I4 pg pt pk pe w0 nfp f3
  generalize hs4 : ({ s3 with heap := pushCells (s3.heap.push { cls := .type "dict", data := .dict #[] }) scope.names } : Shared) = s4 at I4 ⊢
  have st4 : tn 0 s4.heap := T.keep _ _ _ st3 fun b _ o e => by rw [← hs4]; exact pushCells_keeps _ _ _ _ (Heap.get?_push_of_some _ e)
  have stat : ∀ {σ' : St} {H' : Hp} {s' : Shared}, Inv (X.blk s3 H3 scope ce fp) [] σ' H' s' → (∀ b ∈ fp, H' b = none) → ∀ b ∈ fp, FpOk (X.blk s3 H3 scope ce fp) [] H' b := fun {σ' H' s'} I' hn b hb =>
    ⟨hn b hb, (I'.ok.exf b hb).1, I'.ok.exfs b hb, .inl hb, fun x c e => (I'.ok.exf b hb).2 x c e, fun p hp => absurd (show p ∈ ([] : List (Addr × Obj)) ++ [] from hp) (by simp)⟩
  have loop : codeAny (model X.prog X.w) X.A (.compLoop (.DictComp kx vx [⟨tg, iter, ifs, 0⟩] scope pos) 0 (.ref it) (.ref D) ce) (compPost (model X.prog X.w) X.A X.xe use Qf (.ref D) s3.heap.objs.size) s4 := by
    refine compLoop_anyD (fun n s' => ∃ i H', Inv (X.blk s3 H3 scope ce fp) [] (wipe σ (own.map (·.2))) H' s' ∧ tn i s'.heap ∧ (∀ b ∈ fp, H' b = none) ∧ W i n H') ?_ m0 ⟨0, H3, I4, st4, nfp, w0⟩
    rintro n s5 ⟨i, H5, I5, st5, n5, w5⟩
    rcases turn i n H5 w5 with ⟨stop, qq⟩ | ⟨go, Nx, hNx, step⟩
    · have td := T.done (X.blk s3 H3 scope ce fp) rfl rfl rfl hc i [] s5 _ H5 (fun _ _ => False) I5 (stat I5 n5) st5 stop
      refine thnF td fun r s6 ⟨hr, I6⟩ => ?_
      subst hr
      -- back in the def's context
      have I7 : Inv X pins σ H5 s6 := I3.call' (ch := fp) I6.os I6.base I6.hok I6.bare fun b hb => ⟨(f3 b hb).1.2.2.2.1, (f3 b hb).1.2.1, (f3 b hb).1.2.2.2.2.1, (f3 b hb).1.2.2.2.2.2⟩
      have nC : H5 s3.heap.objs.size = none := by
        have z : H5 ce.locals = none := I6.free
        rw [cL] at z
        exact z
      obtain ⟨m, hn, _⟩ := I6.loc
      have hn : s6.heap.Ns ce.locals m := hn
      rw [cL] at hn
      exact hRR D s3.heap.objs.size s6 m H5 I7 qq hn (I3.fpOk (Nat.le_refl _) nC)
    · have ti := T.item (X.blk s3 H3 scope ce fp) rfl rfl rfl hc i [] s5 _ H5 (fun _ _ => False) I5 (stat I5 n5) st5 go
      refine thnF ti fun r s6 ⟨u, hr, h6⟩ => ?_
      subst hr
      refine thnF h6 fun _ s7 ⟨x, H7, I7, r7, y7, st7, n7⟩ => ?_
      have I7' := I7.pinned (stat I7 n7) (T.obj _ _ st7)
      refine thnF (pg.run _ s7 _ H7 x u _ I7' r7 (step x H7 y7)) fun _ s8 ⟨σ8, H8, I8, hw8, q8⟩ => ?_
      refine thnF (pt.run _ s8 σ8 H8 _ I8 q8) fun b s9 ⟨H9, I9, q9⟩ => ?_
      -- the turn's end
      have fin : ∀ {s' : Shared} {H' : Hp}, Inv (X.blk s3 H3 scope ce fp) ([] ++ pinsAt fp s7.heap) σ8 H' s' → Nx H' → ∃ m, m < n ∧ ∃ i H', Inv (X.blk s3 H3 scope ce fp) [] (wipe σ (own.map (·.2))) H' s' ∧ tn i s'.heap ∧ (∀ b ∈ fp, H' b = none) ∧ W i m H' := fun {s' H'} I' nx => by
        obtain ⟨m', hm, w'⟩ := hNx H' nx
        have pin' : ∀ b ∈ fp, ∀ o, s7.heap.get? b = some o → s'.heap.get? b = some o ∧ H' b = none := fun b hb o e =>
          let z := I'.pin (b, o) (List.mem_append_right _ (List.mem_append_right _ (mem_pinsAt hb e)))
          ⟨z.1, z.2.1⟩
        have hl : (wipe σ (own.map (·.2))).length = σ8.length := by rw [← hw8, wipe_length]
        refine ⟨m', hm, i + 1, H', (I'.unpinned (pins := [])).weak hl (fun j v e => ?_), T.keep _ _ _ st7 fun b hb o e => (pin' b hb o e).1, fun b hb => ?_, w'⟩
        · rw [← hw8] at e
          exact (wipe_some e).1
        · obtain ⟨o, e, _⟩ := T.obj _ _ st7 b hb
          exact (pin' b hb o e).2
      cases b with
      | false =>
        simp only [Bool.false_eq_true, if_false] at q9 ⊢
        exact fin I9 q9
      | true =>
        simp only [if_true] at q9 ⊢
        refine thnF (pk.run _ s9 σ8 H9 _ I9 q9) fun z s10 ⟨yk, H10, I10, r10, q10⟩ => ?_
        refine thnF (pe.run _ s10 σ8 H10 _ I10 q10) fun z2 s11 ⟨yv, H11, I11, r11, H12, hp, nx⟩ => ?_
        exact ko.set (X := X.blk s3 H3 scope ce fp) hu I11 hp r10 r11 fun s12 I12 => fin I12 nx
  exact codeAny_compStart_dict loop (T.self X.A 0 _ _ _ st4 loop)
theorem pe_dcG {kd : DKind} (ko : DKindOk kd) (hu : X.A.units + 1 < cLine) {kx vx tg iter : Expr} {ifs : List Expr} {scope : Scope} {own : List (Str × Nat)} {pos : Pos} {wi : TI} {g : TG} {tt : TT} {tk tv : TE} (hc : X.calm = true) (hN : X.N.Nodup) (hi : PI X tg iter wi) (ok : BlkOk X.N X.env.scope scope own)
    (hg : ∀ (s : Shared) (H : Hp) (C : Addr) (cl : List (Str × Addr)) (fp : List Addr), PG (X.blk s H scope (compEnvC scope cl C X.env) fp) tg g) (ht : ∀ (s : Shared) (H : Hp) (C : Addr) (cl : List (Str × Addr)) (fp : List Addr), PTs (X.blk s H scope (compEnvC scope cl C X.env) fp) ifs tt)
    (hk : ∀ (s : Shared) (H : Hp) (C : Addr) (cl : List (Str × Addr)) (fp : List Addr), PE (X.blk s H scope (compEnvC scope cl C X.env) fp) kx tk)
    (he : ∀ (s : Shared) (H : Hp) (C : Addr) (cl : List (Str × Addr)) (fp : List Addr), PE (X.blk s H scope (compEnvC scope cl C X.env) fp) vx tv) (hs : ∀ x, foldedSetIterable iter X.env x = pure x := by intro _; rfl) :
    PE X (.DictComp kx vx [⟨tg, iter, ifs, 0⟩] scope pos) (tDcG kd wi g tt tk tv (own.map (·.2))) := by
  refine ⟨fun pins s σ H Q I h => ?_⟩
  rw [arm_eval_DictComp]
  refine dcG_core ko hu hc hN I hi ok hg ht hk he hs h fun D C s' m H' I' q hn f => ⟨m, hn, fun h'' sb => ?_⟩
  obtain ⟨f0, f1, f2, f3, f4, f5⟩ := f
  exact ⟨.ref D, H', I'.turned (t' := s'.toks) (fun b o hb e => (sb.2 b hb).trans e) f0 f1 f3 f4 f5, rfl, q⟩
theorem ps_setDcG {kd : DKind} (ko : DKindOk kd) (hu : X.A.units + 1 < cLine) {i : Nat} {y : Str} {py : Pos} {kx vx tg iter : Expr} {ifs : List Expr} {scope : Scope} {own : List (Str × Nat)} {pos spos : Pos} {wi : TI} {g : TG} {tt : TT} {tk tv : TE} (hc : X.calm = true) (hN : X.N.Nodup) (hy : X.N[i]? = some y) (hyl : X.env.scope.names.lookup y = some .local)
    (hsw : swapsWith (.DictComp kx vx [⟨tg, iter, ifs, 0⟩] scope pos) (some (.Name y py)) spos.line X.env = pure true) (hi : PI X tg iter wi) (ok : BlkOk X.N X.env.scope scope own)
    (hg : ∀ (s : Shared) (H : Hp) (C : Addr) (cl : List (Str × Addr)) (fp : List Addr), PG (X.blk s H scope (compEnvC scope cl C X.env) fp) tg g) (ht : ∀ (s : Shared) (H : Hp) (C : Addr) (cl : List (Str × Addr)) (fp : List Addr), PTs (X.blk s H scope (compEnvC scope cl C X.env) fp) ifs tt)
    (hk : ∀ (s : Shared) (H : Hp) (C : Addr) (cl : List (Str × Addr)) (fp : List Addr), PE (X.blk s H scope (compEnvC scope cl C X.env) fp) kx tk)
    (he : ∀ (s : Shared) (H : Hp) (C : Addr) (cl : List (Str × Addr)) (fp : List Addr), PE (X.blk s H scope (compEnvC scope cl C X.env) fp) vx tv) (hs : ∀ x, foldedSetIterable iter X.env x = pure x := by intro _; rfl) :
    PS X (.Assign [.Name y py] (.DictComp kx vx [⟨tg, iter, ifs, 0⟩] scope pos) spos) (tAsg (tDcG kd wi g tt tk tv (own.map (·.2))) (gName i)) := by
  refine ⟨fun pins s σ H D I h => ?_⟩
  rw [exec_Assign_Name_used _ _ _ _ hsw]
  refine wpAny_bind (wpAny_standAt (wpAny_bind ?_))
  show wpAny _ X.A (do let _ ← comprehension (.DictComp kx vx [⟨tg, iter, ifs, 0⟩] scope pos) scope X.env (firstIterPos [⟨tg, iter, ifs, 0⟩] pos) newDict false (eval iter X.env) (some (assign (.Name y py) X.env))) _ _ s
  have h : tDcG kd wi g tt tk tv (own.map (·.2)) σ H (fun x H1 => gName i x σ H1 D.nx) := h
  refine wpAny_bind (thn (dcG_core ko hu (Qf := fun _ s' => SP X pins D .next s') hc hN I hi ok hg ht hk he hs h fun L C s' m H' I' q hn f => ?_) fun _ s' hq => wpAny_pure (wpAny_pure hq))
  show wpAny _ _ (assign (.Name y py) X.env (.ref L)) _ _ _
  refine wpAny_assign_Name (store_ok2 (v := V.ref L) I' hN hy (.inl hyl) rfl (fun s2 I2 ⟨a, sb, ha⟩ => ?_) (.inr hyl))
  obtain ⟨f0, f1, f2, f3, f4, f5⟩ := f
  have haC : C ≠ a := by
    rcases ha with z | z
    · rw [z]; exact f1
    · exact fun e => f4 y a z e.symm
  refine ⟨m, hn.sameBut sb haC, fun h3 sb3 => ?_⟩
  exact ⟨_, H', I2.turned (t' := s2.toks) (fun b o hb e => (sb3.2 b hb).trans e) f0 f1 f3 f4 f5, q⟩
end
/-- keys that are ints or texts -/
def dkK : DKind := ⟨.dK [], fun H D y z H' => ∃ kvs k, y = kV k ∧ H D = some (.dK kvs) ∧ kvs.length < sizeLine ∧ H' = upd H D (.dK (putK kvs k z))⟩
/-- keys that are tuples of them -/
def dkT : DKind := ⟨.dT [], fun H D y z H' => ∃ kvs k b, y = .ref b ∧ H b = some (.tup (k.map kV)) ∧ H D = some (.dT kvs) ∧ kvs.length < sizeLine ∧ H' = upd H D (.dT (putK kvs k z))⟩
theorem dkK_ok : DKindOk dkK := ⟨fun h hb => dk_empty h hb, fun {X pins σ H H' s E D y z u r Q} hu I ⟨kvs, k, ey, hD, hz, e⟩ ry rz h => by
  subst ey e
  exact d_dictSet I hD hz ry rz h⟩
theorem dkT_ok : DKindOk dkT := ⟨fun h hb => dt_empty h hb, fun {X pins σ H H' s E D y v u r Q} hu I ⟨kvs, k, b, ey, eb, e, l, eH⟩ ry rv h => by
  subst ey eH
  cases (show u = Value.ref b from ry)
  obtain ⟨z, hd, xs, rel, dd⟩ := dt_of I.hok e
  have hz : xs.length ≤ sizeLine := by rw [← Paired.length rel]; exact z
  have hl : (putK kvs k v).length ≤ sizeLine := by have := length_putK kvs k v; omega
  refine wpAny_dictSet_heap (hsz := hz) (show X.A.units < cLine by omega) (key_of I.hok eb) dd fun h' dd' hs => h _ ?_
  obtain ⟨q, es, ep, hq, h2, h3, h4, _, h5⟩ := dd'
  refine d_write I (by rw [e]; exact True.intro) hs ⟨q, hq⟩ ⟨hl, hd, _, (rel.put k eb rv).keeps fun c ys ec => ?_, q, es, ep, hq, h2, h3, h4, h5⟩
  rw [upd_ne (ne_of ec e (fun z => nomatch z))]
  exact ec⟩
/-! a tuple as a key, wherever it stands -/
section
variable {X : Cx} {pins : List (Addr × Obj)} {σ : St} {H : Hp} {s : Shared} {a b : Addr}
theorem key_sq {k : List Key} (I : Inv X pins σ H s) (e : SqT X.K H b (k.map kV)) : (tupleKind (mixKind X.prog X.w)).is s.heap k b := by
  obtain ⟨its, r, ⟨o, ho, hc, n, hd⟩, _⟩ := I.tuple e
  exact ⟨o, its.toArray, n, ho, hc, hd, by simpa using items_are r⟩
theorem op_inT (neg : Bool) (hu : X.A.units + 1 < cLine) : OpR X (compareOp (if neg then .NotIn else .In)) (fun x y H Q => ∃ a b kvs k, x = .ref b ∧ y = .ref a ∧ Rd H a (.dT kvs) ∧ SqT X.K H b (k.map kV) ∧ Q (.bl (if neg then !(valV kvs k).isSome else (valV kvs k).isSome)) H) := by
  intro pins s σ H x y v u Q I rx ry h
  obtain ⟨a, b, kvs, k, rfl, rfl, e, eb, q⟩ := h
  cases rx
  cases ry
  obtain ⟨z, hd, xs, rel, dd⟩ := dt_rd I.hok e
  have qe := (rel.val k).isSome_eq
  rw [Option.isSome_map] at qe
  cases neg with
  | false =>
    refine wpAny_in_heap (tupleKind_room_in1 hu) (key_sq I eb) hd dd ?_
    rw [← qe]
    exact ⟨.bl _, H, I.tok _, rfl, q⟩
  | true =>
    refine wpAny_notIn_heap (tupleKind_room_in1 hu) (key_sq I eb) hd dd ?_
    rw [← qe]
    exact ⟨.bl _, H, I.tok _, rfl, q⟩
/-- d[a, b, ..] -/
def tTGet (K : PySem.W.Frag) (td ty : TE) : TE := fun σ H Q => td σ H fun x H1 => ty σ H1 fun y H2 => ∃ a b kvs k v, x = .ref a ∧ y = .ref b ∧ Rd H2 a (.dT kvs) ∧ SqT K H2 b (k.map kV) ∧ valV kvs k = some v ∧ Q v H2
theorem pe_tget {o i : Expr} {pos : Pos} {td ty : TE} (hu : X.A.units + 1 < cLine) (ho : PE X o td) (hi : PE X i ty) (hs : NoSl i) : PE X (.Subscript o i pos) (tTGet X.K td ty) := by
  refine ⟨fun pins s σ H Q I h => ?_⟩
  refine subD_of PySem.F.slot_dict_getitem.lookup hs (thn (ho.run pins s σ H _ I h) fun u s1 ⟨x, H1, I1, rx, q1⟩ => thn (hi.run pins s1 σ H1 _ I1 q1) fun iv s2 ⟨y, H2, I2, ry, a, b, kvs, k, v, ex, ey, e, eb, l, q2⟩ => ?_)
  subst ex ey
  obtain rfl : u = Value.ref a := rx
  obtain rfl : iv = Value.ref b := ry
  obtain ⟨z, hd, xs, rel, dd⟩ := dt_rd I2.hok e
  obtain ⟨w', hw, rw'⟩ := RelO.some_of (v := v) (o := (atKey xs k).map (·.2)) (by rw [← l]; exact rel.val k)
  obtain ⟨p, hp, hp2⟩ := Option.map_eq_some_iff.mp hw
  refine ⟨dd.typeIs, wpAny_getItem_heap (tupleKind_room_in1 hu) (key_sq I2 eb) dd hp ?_⟩
  rw [hp2]
  exact ⟨v, H2, I2.tok _, rw', q2⟩
end
end L2

namespace DL
open PySem PySem.Spec PyProof.Rows L2
/-! ### tables of data -/
section
variable {κ : Type} [DecidableEq κ]
def valD (kvs : List (κ × D)) (k : κ) : Option D := (kvs.find? fun kv => decide (kv.1 = k)).map (·.2)
def putD (kvs : List (κ × D)) (k : κ) (v : D) : List (κ × D) :=
  if (kvs.any fun kv => decide (kv.1 = k)) = true then kvs.map (fun kv => if kv.1 = k then (kv.1, v) else kv) else kvs ++ [(k, v)]
variable {K : PySem.W.Frag} {F : Hp}
theorem RepKV.val {xs : List (κ × V)} {ys : List (κ × D)} (r : RepKV K F xs ys) (k : κ) : (∃ v d, valV xs k = some v ∧ valD ys k = some d ∧ Rep K F v d) ∨ (valV xs k = none ∧ valD ys k = none) := by
  induction r with
  | nil => exact .inr ⟨rfl, rfl⟩
  | @cons p q ps qs h t ih =>
    by_cases e : p.1 = k
    · have e' : q.1 = k := h.1.symm.trans e
      refine .inl ⟨p.2, q.2, valV_pos e, ?_, h.2⟩
      simp [valD, List.find?_cons, e']
    · have e' : ¬ q.1 = k := fun z => e (h.1.trans z)
      have h2 : valD (q :: qs) k = valD qs k := by simp [valD, List.find?_cons, e']
      rw [valV_neg e, h2]
      exact ih
theorem RepKV.some {xs : List (κ × V)} {ys : List (κ × D)} (r : RepKV K F xs ys) (k : κ) : (valV xs k).isSome = (valD ys k).isSome := by
  rcases r.val k with ⟨v, d, h1, h2, _⟩ | ⟨h1, h2⟩ <;> rw [h1, h2] <;> rfl
theorem RepKV.get {xs : List (κ × V)} {ys : List (κ × D)} (r : RepKV K F xs ys) {k : κ} {d : D} (h : valD ys k = Option.some d) : ∃ v, valV xs k = Option.some v ∧ Rep K F v d := by
  rcases r.val k with ⟨v, d', h1, h2, r2⟩ | ⟨h1, h2⟩
  · rw [h] at h2; cases h2
    exact ⟨v, h1, r2⟩
  · rw [h] at h2; cases h2
theorem RepKV.any {xs : List (κ × V)} {ys : List (κ × D)} (r : RepKV K F xs ys) (k : κ) : (xs.any fun kv => decide (kv.1 = k)) = (ys.any fun kv => decide (kv.1 = k)) := by
  induction r with
  | nil => rfl
  | @cons p q ps qs h t ih => rw [List.any_cons, List.any_cons, ih, h.1]
theorem RepKV.put {xs : List (κ × V)} {ys : List (κ × D)} (r : RepKV K F xs ys) (k : κ) {v : V} {d : D} (rv : Rep K F v d) : RepKV K F (putK xs k v) (putD ys k d) := by
  unfold putK putD
  rw [r.any k]
  by_cases q : (ys.any fun kv => decide (kv.1 = k)) = true
  · rw [if_pos q, if_pos q]
    clear q
    induction r with
    | nil => exact .nil
    | @cons p q ps qs h t ih =>
      rw [List.map_cons, List.map_cons]
      refine .cons ?_ ih
      by_cases e : p.1 = k
      · rw [if_pos e, if_pos (h.1.symm.trans e)]; exact ⟨h.1, rv⟩
      · rw [if_neg e, if_neg fun z => e (h.1.trans z)]; exact h
  · rw [if_neg q, if_neg q]
    exact Paired.snoc r ⟨rfl, rv⟩
end
def keyD : D → Option Key
  | .int i => some (.inl i)
  | .str s => some (.inr s)
  | _ => none
def keysD : List D → Option (List Key)
  | [] => some []
  | d :: ds => match keyD d, keysD ds with
    | some k, some ks => some (k :: ks)
    | _, _ => none
theorem Rep.key {K : PySem.W.Frag} {F : Hp} {v : V} {d : D} {k : Key} (r : Rep K F v d) (h : keyD d = some k) : v = kV k := by
  cases r <;> first | (cases h; rfl) | cases h
theorem RepAll.keys {K : PySem.W.Frag} {F : Hp} : ∀ {vs : List V} {ds : List D} {ks : List Key}, RepAll K F vs ds → keysD ds = some ks → vs = ks.map kV
  | _, [], ks, r, h => by cases h; cases r; rfl
  | _, d :: ds, ks, r, h => by
    cases r with
    | cons r1 r2 =>
      have h : (match keyD d, keysD ds with | some k, some ks => some (k :: ks) | _, _ => none) = some ks := h
      split at h
      · rename_i k ks' h1 h2
        cases h
        rw [r1.key h1, RepAll.keys r2 h2]; rfl
      · cases h
/-! ### what is set aside is made anew, is owned -/
/-- an object that is known as it stands -/
structure Pln (o : HO) : Prop where
  rs : ∀ H a, RsOk H a o → H a = some o
  sr : ∀ H a, H a = some o → RsOk H a o
  nx : NR o
  no : ∀ a q, o ≠ LamX.CodeO a q
theorem pln_dT {kvs : List (List Key × V)} : Pln (.dT kvs) := ⟨fun _ _ h => h, fun _ _ h => h, trivial, fun a q z => by unfold LamX.CodeO at z; cases z⟩
theorem pln_dK {kvs : List (Key × V)} : Pln (.dK kvs) := ⟨fun _ _ h => h, fun _ _ h => h, trivial, fun a q z => by unfold LamX.CodeO at z; cases z⟩
theorem Stt.reputG {K : PySem.W.Frag} {F R H : Hp} {M : Mp} {p : Addr} {o o' : HO} (s : Stt K F (upd R p o) H M) (h : Pln o) (h' : Pln o') : Stt K F (upd R p o') (upd H p o') M := by
  obtain ⟨hp, fp, mp⟩ := s.rs p o upd_same
  have hp : H p = some o := h.rs _ _ hp
  refine ⟨fun a u e => ?_, fun a u e => ?_, fun a m e => ?_, s.nf, fun a u e => ?_⟩
  rotate_left 3
  · by_cases q : a = p
    · subst q; rw [upd_same] at e; cases e; exact h'.nx
    · rw [upd_ne q] at e; exact s.nr a u (by rw [upd_ne q]; exact e)
  · rw [upd_ne (ne_of_none e fp)]; exact s.fz _ _ e
  · by_cases q : a = p
    · subst q; rw [upd_same] at e; cases e; exact ⟨h'.sr _ _ upd_same, fp, mp⟩
    · rw [upd_ne q] at e
      obtain ⟨h1, h2, h3⟩ := s.rs a u (by rw [upd_ne q]; exact e)
      exact ⟨h1.step (fun b v n eb => by rw [upd_ne n]; exact eb) q (fun c z => by rw [hp] at z; exact h.no _ _ (Option.some.inj z)), h2, h3⟩
  · have q : a ≠ p := fun z => by subst z; rw [mp] at e; cases e
    rw [upd_ne q]; exact s.ow a m e
theorem Stt.reownG {K : PySem.W.Frag} {F R H : Hp} {M : Mp} {p : Addr} {o : HO} {m : MO} (s : Stt K F (upd R p o) H M) (h : Pln o) (hr : R p = none) (r : RepO K F o m) : Stt K F R H (updM M p m) := by
  obtain ⟨hp, fp, mp⟩ := s.rs p o upd_same
  have hp : H p = some o := h.rs _ _ hp
  refine ⟨s.fz, fun a u e => ?_, fun a m' e => ?_, s.nf, fun a u e => s.nr a u (by rw [upd_ne (ne_of_none e hr)]; exact e)⟩
  · have q : a ≠ p := ne_of_none e hr
    obtain ⟨h1, h2, h3⟩ := s.rs a u (by rw [upd_ne q]; exact e)
    exact ⟨h1, h2, by rw [updM_ne q]; exact h3⟩
  · by_cases q : a = p
    · subst q; rw [updM_same] at e; cases e; exact ⟨fp, _, hp, r⟩
    · rw [updM_ne q] at e; exact s.ow a m' e
/-! ### dict comprehensions -/
abbrev DKy (κ : Type) := SD → Mp → (κ → Mp → Prop) → Prop
/-- a kind of dicts, in data -/
structure DKd (κ : Type) [DecidableEq κ] where
  kd : DKind
  ok : DKindOk kd
  ho : List (κ × V) → HO
  mo : List (κ × D) → MO
  kat : Hp → V → κ → Prop
  h0 : kd.e = ho []
  hput : ∀ H D y z kvs k, kat H y k → H D = some (ho kvs) → kvs.length < sizeLine → kd.put H D y z (upd H D (ho (putK kvs k z)))
  hrep : ∀ K F kvs kds, RepKV K F kvs kds → RepO K F (ho kvs) (mo kds)
  pl : ∀ kvs, Pln (ho kvs)
  kext : ∀ H H' v k, Ext H H' → kat H v k → kat H' v k
def ddK : DKd Key := ⟨dkK, dkK_ok, .dK, .dK, fun _ v k => v = kV k, rfl, fun H D y z kvs k e h1 h2 => ⟨kvs, k, e, h1, h2, rfl⟩, fun _ _ _ _ h => h, fun _ => pln_dK, fun _ _ _ _ _ h => h⟩
def ddT : DKd (List Key) := ⟨dkT, dkT_ok, .dT, .dT, fun H v k => ∃ b, v = .ref b ∧ H b = some (.tup (k.map kV)), rfl, fun H D y z kvs k ⟨b, e, eb⟩ h1 h2 => ⟨kvs, k, b, e, eb, h1, h2, rfl⟩, fun _ _ _ _ h => h, fun _ => pln_dT, fun _ _ _ _ e ⟨b, h1, h2⟩ => ⟨b, h1, e _ _ h2⟩⟩
/-- how a key is read -/
def KeyOk {κ : Type} [DecidableEq κ] (dk : DKd κ) (K : PySem.W.Frag) (F0 : Bs) (tk : TE) (tkD : DKy κ) : Prop := ∀ {σ : L2.St} {H : Hp} {Q : VK} {F R : Hp} {τ : SD} {M : Mp} {Q' : κ → Mp → Prop}, Bas F0 F R → Stt K F R H M → Slots K F σ τ → tkD τ M Q' →
  (∀ v H2 F2 k M2, Ext F F2 → Stt K F2 R H2 M2 → dk.kat F2 v k → Q' k M2 → Q v H2) → tk σ H Q
/-- a key that is a text or an int -/
def dKeyK (te : DE) : DKy Key := fun τ M Q => te τ M fun d M1 => match keyD d with
  | some k => Q k M1
  | none => False
/-- a key that is a tuple written there -/
def dKeyT (ta : DA) : DKy (List Key) := fun τ M Q => ta τ M fun ds M1 => ds.length ≤ sizeLine ∧ match keysD ds with
  | some k => Q k M1
  | none => False
theorem keyK_ok {K : PySem.W.Frag} {F0 : Bs} {te : DE} : KeyOk ddK K F0 (liE K F0 te) (dKeyK te) := fun {σ H Q F R τ M Q'} e0 st sl h k => by
  refine ⟨F, R, τ, M, _, e0, st, sl, h, fun v H2 F2 d M2 e2 st2 r2 q2 => ?_⟩
  split at q2 <;> try exact q2.elim
  rename_i k' h1
  exact k v H2 F2 k' M2 e2 st2 (r2.key h1) q2
theorem keyT_ok {K : PySem.W.Frag} {F0 : Bs} {ta : DA} : KeyOk ddT K F0 (tTup (liA K F0 ta)) (dKeyT ta) := fun {σ H Q F R τ M Q'} e0 st sl h k => by
  refine ⟨F, R, τ, M, _, e0, st, sl, h, fun vs H2 F2 ds M2 e2 st2 r2 ⟨hl, q2⟩ => ⟨by rw [r2.len]; exact hl, fun p hp => ?_⟩⟩
  split at q2 <;> try exact q2.elim
  rename_i k' h1
  obtain ⟨s3, ex⟩ := st2.freeze (o := .tup vs) hp
  exact k (.ref p) _ _ k' M2 (e2.trans ex) s3 ⟨p, rfl, by rw [upd_same, r2.keys h1]⟩ q2
/-- {k: e for .. in .. if t} -/
def dDc {κ : Type} [DecidableEq κ] (mo : List (κ × D) → MO) (wi : DTI) (plain : Bool) (is vs : List Nat) (tt : DT) (tkD : DKy κ) (te : DE) : DE := fun τ M Q => wi τ M fun j M1 => ∃ Pv : Nat → List (κ × D) → Mp → Prop, Pv 0 [] M1 ∧ (∀ i acc M, i ≤ j.n → Pv i acc M → j.ok M) ∧
  (∀ i acc M, i < j.n → Pv i acc M → match bindD plain is (j.at' i) (wipeD τ vs) with
    | some τ2 => tt τ2 M fun b M3 => if b = true then tkD τ2 M3 fun k M4 => te τ2 M4 fun e M5 => acc.length < sizeLine ∧ Pv (i + 1) (putD acc k e) M5 else Pv (i + 1) acc M3
    | none => False) ∧ ∀ acc M, Pv j.n acc M → ∀ p, M p = none → Q (.ref p) (updM M p (mo acc))
theorem li_dc {κ : Type} [DecidableEq κ] (dk : DKd κ) {K : PySem.W.Frag} {F0 : Bs} {wi : DTI} {g : TG} {plain : Bool} {is vs : List Nat} {tt : DT} {tk : TE} {tkD : DKy κ} {te : DE} (hk : KeyOk dk K F0 tk tkD) (ht : TgOk K g plain is) (hv : ∀ i ∈ is, i ∈ vs) {σ : L2.St} {H : Hp} {Q : VK} (h : liE K F0 (dDc dk.mo wi plain is vs tt tkD te) σ H Q) : tDcG dk.kd (liI K F0 wi) g (liT K F0 tt) tk (liE K F0 te) vs σ H Q := by
  obtain ⟨F, R, τ, M, Q', e0, st, sl, q, k⟩ := h
  refine ⟨F, R, τ, M, _, e0, st, sl, q, fun J H1 F1 j M1 e1 st1 rl ⟨Pv, p0, pk, ps, pd⟩ => fun L hL => ?_⟩
  have rL : R L = none := by
    cases z : R L with
    | none => rfl
    | some o => exact ((st1.rs L o z).1.there hL).elim
  have fL : F1 L = none := by
    cases z : F1 L with
    | none => rfl
    | some o => have := st1.fz L o z; rw [hL] at this; cases this
  have mL : M1 L = none := by
    cases z : M1 L with
    | none => rfl
    | some o => obtain ⟨_, u, hu, _⟩ := st1.ow L o z; rw [hL] at hu; cases hu
  have exR : ∀ o, Ext R (upd R L o) := fun o a u e => by rw [upd_ne (ne_of_none e rL)]; exact e
  have st0 : Stt K F1 (upd R L (dk.ho [])) (upd H1 L (dk.ho [])) M1 := by
    refine ⟨fun a u e => ?_, fun a u e => ?_, fun a m e => ?_, st1.nf, fun a u e => ?_⟩
    rotate_left 3
    · by_cases z : a = L
      · subst z; rw [upd_same] at e; cases e; exact (dk.pl []).nx
      · rw [upd_ne z] at e; exact st1.nr a u e
    · rw [upd_ne (ne_of_none e fL)]; exact st1.fz _ _ e
    · by_cases z : a = L
      · subst z; rw [upd_same] at e; cases e; exact ⟨(dk.pl []).sr _ _ upd_same, fL, mL⟩
      · rw [upd_ne z] at e
        obtain ⟨h1, h2, h3⟩ := st1.rs a u e
        exact ⟨h1.step (fun b v n eb => by rw [upd_ne n]; exact eb) z (fun c y => by rw [hL] at y; cases y), h2, h3⟩
    · have z : a ≠ L := fun z => by subst z; rw [mL] at e; cases e
      rw [upd_ne z]; exact st1.ow a m e
  rw [dk.h0]
  refine ⟨fun i m H => m = j.n - i ∧ i ≤ j.n ∧ ∃ F2 M2 xs acc, Ext F1 F2 ∧ Stt K F2 (upd R L (dk.ho xs)) H M2 ∧ RepKV K F2 xs acc ∧ Pv i acc M2, ⟨j.n, by simp, Nat.zero_le _, F1, M1, [], [], Ext.refl, st0, .nil, p0⟩, ?_⟩
  rintro i m H2 ⟨rfl, hi, F2, M2, xs, acc, e2, st2, ra, p2⟩
  have ok := pk i acc M2 hi p2
  by_cases hlt : i < j.n
  · refine .inr ⟨rl.go i F2 _ H2 M2 e2 st2 ok hlt, fun H' => ∃ F2 M2 xs acc, Ext F1 F2 ∧ Stt K F2 (upd R L (dk.ho xs)) H' M2 ∧ RepKV K F2 xs acc ∧ Pv (i + 1) acc M2, fun H' z => ⟨j.n - (i + 1), by omega, rfl, hlt, z⟩, fun x H3 y => ?_⟩
    obtain ⟨F3, e3, st3, rx, _⟩ := rl.yld i F2 _ H2 M2 x H3 e2 st2 ok hlt y
    have step := ps i acc M2 hlt p2
    split at step
    · rename_i τ3 eb
      have sl3 : Slots K F3 (wipe σ vs) (wipeD τ vs) := (sl.ext (e1.trans (e2.trans e3))).wipe vs
      refine ht.run F3 _ H3 M2 x _ _ _ τ3 _ st3 sl3 rx eb fun σ4 sl4 ⟨ys, hl, e4⟩ => ⟨by rw [e4, wipe_fold is ys _ hv, wipe_wipe], ?_⟩
      have b3 : Bas F0 F3 (upd R L (dk.ho xs)) := ⟨(e0.trans (e1.trans (e2.trans e3))).f, e0.r.trans (exR _), e0.t.ext (exR _)⟩
      refine ⟨F3, _, τ3, M2, _, b3, st3, sl4, step, fun b H5 F5 M5 e5 st5 q5 => ?_⟩
      cases b with
      | false =>
        rw [if_neg Bool.false_ne_true] at q5 ⊢
        exact ⟨F5, M5, xs, acc, e2.trans (e3.trans e5), st5, ra.ext (e3.trans e5), q5⟩
      | true =>
        rw [if_pos rfl] at q5 ⊢
        refine hk (b3.trans e5) st5 (sl4.ext e5) q5 fun yv H6 F6 k6 M6 e6 st6 kat6 q6 => ?_
        refine ⟨F6, _, τ3, M6, _, (b3.trans e5).trans e6, st6, (sl4.ext e5).ext e6, q6, fun z H7 F7 dz M7 e7 st7 r7 ⟨q7, q8⟩ => ?_⟩
        have ra7 := RepKV.ext (e3.trans (e5.trans (e6.trans e7))) ra
        have hL7 := (dk.pl xs).rs _ _ (st7.rs L _ upd_same).1
        refine ⟨_, dk.hput H7 L yv z xs k6 (dk.kext _ _ _ _ st7.fz (dk.kext _ _ _ _ e7 kat6)) hL7 (by rw [Paired.length ra7]; exact q7), F7, M7, _, _, e2.trans (e3.trans (e5.trans (e6.trans e7))), st7.reputG (dk.pl _) (dk.pl _), ra7.put k6 r7, q8⟩
    · exact step.elim
  · have e : i = j.n := by omega
    subst e
    have s3 := st2.reownG (dk.pl _) rL (dk.hrep _ _ _ _ ra)
    exact .inl ⟨rl.stop F2 _ H2 M2 e2 st2 ok, (k.ext (e1.trans e2)) _ _ _ _ _ Ext.refl s3 (.ref L) (pd acc M2 p2 L (st2.rs L _ upd_same).2.2)⟩
section
variable {κ : Type} [DecidableEq κ] {X : Cx} {F0 : Bs} {kx vx tg iter : Expr} {ifs : List Expr} {scope : Scope} {own : List (Str × Nat)} {pos : Pos} {wi : DTI} {g : TG} {plain : Bool} {is vs : List Nat} {tt : DT} {tk : TE} {tkD : DKy κ} {te : DE}
theorem pd_dc (dk : DKd κ) (hu : X.A.units + 64 < cLine) (hk : KeyOk dk X.K F0 tk tkD) (hc : X.calm = true) (hN : X.N.Nodup) (hi : PI X tg iter (liI X.K F0 wi)) (ok : BlkOk X.N X.env.scope scope own) (hvs : own.map (·.2) = vs) (hto : TgOk X.K g plain is) (hv : ∀ i ∈ is, i ∈ vs)
    (hg : ∀ (s : Shared) (H : Hp) (C : Addr) (cl : List (Str × Addr)) (fp : List Addr), PG (X.blk s H scope (compEnvC scope cl C X.env) fp) tg g)
    (ht : ∀ (s : Shared) (H : Hp) (C : Addr) (cl : List (Str × Addr)) (fp : List Addr), PTs (X.blk s H scope (compEnvC scope cl C X.env) fp) ifs (liT X.K F0 tt))
    (hkx : ∀ (s : Shared) (H : Hp) (C : Addr) (cl : List (Str × Addr)) (fp : List Addr), PE (X.blk s H scope (compEnvC scope cl C X.env) fp) kx tk)
    (he : ∀ (s : Shared) (H : Hp) (C : Addr) (cl : List (Str × Addr)) (fp : List Addr), PE (X.blk s H scope (compEnvC scope cl C X.env) fp) vx (liE X.K F0 te)) (hs : ∀ x, foldedSetIterable iter X.env x = pure x := by intro _; rfl) :
    PE X (.DictComp kx vx [⟨tg, iter, ifs, 0⟩] scope pos) (liE X.K F0 (dDc dk.mo wi plain is vs tt tkD te)) := by
  subst hvs
  exact peImp (pe_dcG dk.ok (by omega) hc hN hi ok hg ht hkx he hs) fun _ _ _ h => li_dc dk hk hto hv h
/-- name = {..} on one line -/
theorem sd_setDc (dk : DKd κ) (hu : X.A.units + 64 < cLine) (hk : KeyOk dk X.K F0 tk tkD) {i : Nat} {y : Str} {py spos : Pos} (hc : X.calm = true) (hN : X.N.Nodup) (hy : X.N[i]? = some y) (hyl : X.env.scope.names.lookup y = some .local)
    (hsw : swapsWith (.DictComp kx vx [⟨tg, iter, ifs, 0⟩] scope pos) (some (.Name y py)) spos.line X.env = pure true) (hi : PI X tg iter (liI X.K F0 wi)) (ok : BlkOk X.N X.env.scope scope own) (hvs : own.map (·.2) = vs) (hto : TgOk X.K g plain is) (hv : ∀ i ∈ is, i ∈ vs)
    (hg : ∀ (s : Shared) (H : Hp) (C : Addr) (cl : List (Str × Addr)) (fp : List Addr), PG (X.blk s H scope (compEnvC scope cl C X.env) fp) tg g)
    (ht : ∀ (s : Shared) (H : Hp) (C : Addr) (cl : List (Str × Addr)) (fp : List Addr), PTs (X.blk s H scope (compEnvC scope cl C X.env) fp) ifs (liT X.K F0 tt))
    (hkx : ∀ (s : Shared) (H : Hp) (C : Addr) (cl : List (Str × Addr)) (fp : List Addr), PE (X.blk s H scope (compEnvC scope cl C X.env) fp) kx tk)
    (he : ∀ (s : Shared) (H : Hp) (C : Addr) (cl : List (Str × Addr)) (fp : List Addr), PE (X.blk s H scope (compEnvC scope cl C X.env) fp) vx (liE X.K F0 te)) (hs : ∀ x, foldedSetIterable iter X.env x = pure x := by intro _; rfl) :
    PS X (.Assign [.Name y py] (.DictComp kx vx [⟨tg, iter, ifs, 0⟩] scope pos) spos) (liS X.K F0 (dSet i (dDc dk.mo wi plain is vs tt tkD te))) := by
  subst hvs
  exact psImp (ps_setDcG dk.ok (by omega) hc hN hy hyl hsw hi ok hg ht hkx he hs) fun D σ H ⟨F, R, τ, M, D', e0, st, sl, q, k⟩ =>
    li_dc (Q := fun x H1 => gName i x σ H1 D.nx) dk hk hto hv ⟨F, R, τ, M, _, e0, st, sl, q, fun v H2 F2 d M2 e2 st2 r2 q2 => k.nx _ _ _ _ _ e2 st2 ((sl.ext e2).put r2 i) q2⟩
end
theorem swD_true {kx vx : Expr} {gs : List Comprehension} {scope : Scope} {pos py : Pos} {y : Str} {l : Nat} {env : Env} (hk : env.scope.kind = .function) (hy : env.scope.names.lookup y = some .local) (hl : (py.line == pos.line) = true)
    (ha : (scope.names.any fun (n, k) => n == y && (k == .local || k == .cell)) = false) : swapsWith (.DictComp kx vx gs scope pos) (some (.Name y py)) l env = pure true := by
  have ky : env.kindOf y = some .local := hy
  have hb : env.blockKind = .function := by unfold Env.blockKind; rw [hk]; rfl
  unfold swapsWith
  simp only [hb, ky, ha, Expr.pos, hl]
  rfl
/-! ### in, [..], keys that are tuples -/
def dInT (neg : Bool) : R2D := fun x y M Q => match x, y with
  | .tup ds, .ref a => match keysD ds, M a with
    | some k, some (.dT kvs) => Q (.bl (if neg then !(valD kvs k).isSome else (valD kvs k).isSome)) M
    | _, _ => False
  | _, _ => False
def dTGet (td tk : DE) : DE := fun τ M Q => td τ M fun x M1 => tk τ M1 fun y M2 => match x, y with
  | .ref a, .tup ds => match keysD ds, M2 a with
    | some k, some (.dT kvs) => match valD kvs k with
      | some v => Q v M2
      | none => False
    | _, _ => False
  | _, _ => False
theorem Stt.dT {K : PySem.W.Frag} {F R H : Hp} {M : Mp} {a : Addr} {kds : List (List Key × D)} (st : Stt K F R H M) (h : M a = some (.dT kds)) : ∃ kvs, H a = some (.dT kvs) ∧ RepKV K F kvs kds := by
  obtain ⟨_, o, ho, ro⟩ := st.ow _ _ h
  cases o <;> first | exact ⟨_, ho, ro⟩ | exact ro.elim
theorem Stt.dK {K : PySem.W.Frag} {F R H : Hp} {M : Mp} {a : Addr} {kds : List (Key × D)} (st : Stt K F R H M) (h : M a = some (.dK kds)) : ∃ kvs, H a = some (.dK kvs) ∧ RepKV K F kvs kds := by
  obtain ⟨_, o, ho, ro⟩ := st.ow _ _ h
  cases o <;> first | exact ⟨_, ho, ro⟩ | exact ro.elim
section
variable {X : Cx} {F0 : Bs}
theorem od_inT (hu : X.A.units + 64 < cLine) : OpD X F0 (compareOp .In) (dInT false) := by
  refine opImp (op_inT false (by omega)) fun x y H Q ⟨F, R, M, d, e, Q', e0, st, rd, re, q, k⟩ => ?_
  unfold dInT at q
  split at q <;> try exact q.elim
  rename_i ds a
  split at q <;> try exact q.elim
  rename_i ks kds h1 h2
  obtain ⟨b, xs, rfl, hs, ra⟩ := tp_get st rd
  cases re
  obtain ⟨kvs, hk, rk⟩ := st.dT h2
  rw [ra.keys h1] at hs
  refine ⟨a, b, kvs, ks, rfl, rfl, .inl hk, hs, ?_⟩
  rw [rk.some ks]
  exact k _ _ _ _ _ Ext.refl st (.bl _) q
theorem od_notInT (hu : X.A.units + 64 < cLine) : OpD X F0 (compareOp .NotIn) (dInT true) := by
  refine opImp (op_inT true (by omega)) fun x y H Q ⟨F, R, M, d, e, Q', e0, st, rd, re, q, k⟩ => ?_
  unfold dInT at q
  split at q <;> try exact q.elim
  rename_i ds a
  split at q <;> try exact q.elim
  rename_i ks kds h1 h2
  obtain ⟨b, xs, rfl, hs, ra⟩ := tp_get st rd
  cases re
  obtain ⟨kvs, hk, rk⟩ := st.dT h2
  rw [ra.keys h1] at hs
  refine ⟨a, b, kvs, ks, rfl, rfl, .inl hk, hs, ?_⟩
  rw [rk.some ks]
  exact k _ _ _ _ _ Ext.refl st (.bl _) q
theorem pd_tget {o i : Expr} {pos : Pos} {td ty : DE} (hu : X.A.units + 64 < cLine) (ho : PE X o (liE X.K F0 td)) (hi : PE X i (liE X.K F0 ty)) (hs : NoSl i) : PE X (.Subscript o i pos) (liE X.K F0 (dTGet td ty)) := by
  refine peImp (pe_tget (by omega) ho hi hs) fun σ H Q ⟨F, R, τ, M, Q', e0, st, sl, q, k⟩ => ?_
  refine ⟨F, R, τ, M, _, e0, st, sl, q, fun v H1 F1 d M1 e1 st1 r1 q1 => ?_⟩
  refine ⟨F1, R, τ, M1, _, e0.trans e1, st1, sl.ext e1, q1, fun v2 H2 F2 d2 M2 e2 st2 r2 q2 => ?_⟩
  split at q2 <;> try exact q2.elim
  rename_i a ds
  split at q2 <;> try exact q2.elim
  rename_i ks kds h1 h2
  split at q2 <;> try exact q2.elim
  rename_i dv h3
  cases r1
  obtain ⟨b, xs, rfl, hs, ra⟩ := tp_get st2 r2
  obtain ⟨kvs, hk, rk⟩ := st2.dT h2
  rw [ra.keys h1] at hs
  obtain ⟨v, hv, rv⟩ := rk.get h3
  exact ⟨a, b, kvs, ks, v, rfl, rfl, .inl hk, hs, hv, k _ _ _ _ _ (e1.trans e2) st2 rv q2⟩
end
/-! ### steps -/
section
variable {κ : Type} [DecidableEq κ] {mo : List (κ × D) → MO} {wi : DTI} {plain : Bool} {is vs : List Nat} {tt : DT} {tkD : DKy κ} {te td tk : DE} {ta : DA} {τ : SD} {M : Mp} {Q : QD} {QK : κ → Mp → Prop} {QT : List Key → Mp → Prop}
def kDc (mo : List (κ × D) → MO) (plain : Bool) (is vs : List Nat) (tt : DT) (tkD : DKy κ) (te : DE) (τ : SD) (Q : QD) : ItD → Mp → Prop := fun j M1 => ∃ Pv : Nat → List (κ × D) → Mp → Prop, Pv 0 [] M1 ∧ (∀ i acc M, i ≤ j.n → Pv i acc M → j.ok M) ∧
  (∀ i acc M, i < j.n → Pv i acc M → match bindD plain is (j.at' i) (wipeD τ vs) with
    | some τ2 => tt τ2 M fun b M3 => if b = true then tkD τ2 M3 fun k M4 => te τ2 M4 fun e M5 => acc.length < sizeLine ∧ Pv (i + 1) (putD acc k e) M5 else Pv (i + 1) acc M3
    | none => False) ∧ ∀ acc M, Pv j.n acc M → ∀ p, M p = none → Q (.ref p) (updM M p (mo acc))
theorem s_dc (h : wi τ M (kDc mo plain is vs tt tkD te τ Q)) : dDc mo wi plain is vs tt tkD te τ M Q := h
/-- over data that nobody changes, each turn gives one pair, M stays -/
theorem s_kdcMap {α : Type} {xs : List α} {x : D} {i0 : Nat} (enc : α → D) (kf : α → κ) (vf : α → D) (hx : ∀ M, sqOf M x = some (xs.map enc)) (hl : xs.length < sizeLine)
    (hs : ∀ a (QK : κ → Mp → Prop), a ∈ xs → (∀ (Q : QD), Q (vf a) M → te ((wipeD τ vs).set i0 (some (enc a))) M Q) → QK (kf a) M → tkD ((wipeD τ vs).set i0 (some (enc a))) M QK)
    (hs2 : ∀ a (Q : QD), a ∈ xs → Q (vf a) M → te ((wipeD τ vs).set i0 (some (enc a))) M Q)
    (hd : ∀ p, M p = none → Q (.ref p) (updM M p (mo (xs.foldl (fun acc a => putD acc (kf a) (vf a)) [])))) : kDc mo true [i0] vs dYes tkD te τ Q (itSeq x (xs.map enc)) M := by
  refine ⟨fun i acc M' => M' = M ∧ acc = (xs.take i).foldl (fun acc a => putD acc (kf a) (vf a)) [] ∧ acc.length ≤ i, ⟨rfl, rfl, Nat.le_refl _⟩, fun _ _ M _ _ => hx M, fun i acc M' hi p => ?_, fun acc M' p => ?_⟩
  · obtain ⟨rfl, e, hla⟩ := p
    have hi : i < (xs.map enc).length := hi
    rw [List.length_map] at hi
    have eat : (itSeq x (xs.map enc)).at' i = enc xs[i] := by
      show (xs.map enc).getD i .non = _
      exact getD_of (by rw [List.getElem?_map, List.getElem?_eq_getElem hi]; rfl)
    rw [eat]
    show tkD ((wipeD τ vs).set i0 (some (enc xs[i]))) M' _
    have hm : xs[i] ∈ xs := List.getElem_mem hi
    refine hs _ _ hm (fun Q h => hs2 _ Q hm h) (hs2 _ _ hm ⟨by omega, rfl, ?_, ?_⟩)
    · rw [List.take_succ, List.getElem?_eq_getElem hi, List.foldl_append, e]; rfl
    · have : (putD acc (kf xs[i]) (vf xs[i])).length ≤ acc.length + 1 := by
        unfold putD
        split
        · rw [List.length_map]; omega
        · rw [List.length_append]; exact Nat.le_refl _
      omega
  · obtain ⟨rfl, e, _⟩ := p
    have e2 : (itSeq x (xs.map enc)).n = xs.length := by show (xs.map enc).length = _; rw [List.length_map]
    rw [e2, List.take_length] at e
    rw [e]
    exact hd
def kKeyT (QT : List Key → Mp → Prop) : List D → Mp → Prop := fun ds M1 => ds.length ≤ sizeLine ∧ match keysD ds with
  | some k => QT k M1
  | none => False
theorem s_keyT (h : ta τ M (kKeyT QT)) : dKeyT ta τ M QT := h
theorem s_kkeyT {ds : List D} {k : List Key} (hl : ds.length ≤ sizeLine) (e : keysD ds = some k) (h : QT k M) : kKeyT QT ds M := by unfold kKeyT; simp only [e]; exact ⟨hl, h⟩
theorem s_dinT {neg : Bool} {ds : List D} {a : Addr} {k : List Key} {kvs : List (List Key × D)} (e : keysD ds = some k) (hm : M a = some (.dT kvs)) (h : Q (.bl (if neg then !(valD kvs k).isSome else (valD kvs k).isSome)) M) : dInT neg (.tup ds) (.ref a) M Q := by
  unfold dInT; simp only [e, hm]; exact h
def kTG1 (tk : DE) (τ : SD) (Q : QD) : QD := fun x M1 => tk τ M1 fun y M2 => match x, y with
  | .ref a, .tup ds => match keysD ds, M2 a with
    | some k, some (.dT kvs) => match valD kvs k with
      | some v => Q v M2
      | none => False
    | _, _ => False
  | _, _ => False
def kTG2 (a : Addr) (Q : QD) : QD := fun y M2 => match y with
  | .tup ds => match keysD ds, M2 a with
    | some k, some (.dT kvs) => match valD kvs k with
      | some v => Q v M2
      | none => False
    | _, _ => False
  | _ => False
theorem s_tget (h : td τ M (kTG1 tk τ Q)) : dTGet td tk τ M Q := h
theorem s_ktg1 {a : Addr} (h : tk τ M (kTG2 a Q)) : kTG1 tk τ Q (.ref a) M := by
  unfold kTG1
  have e : (fun (y : D) (M2 : Mp) => match (D.ref a), y with
    | .ref a, .tup ds => match keysD ds, M2 a with
      | some k, some (.dT kvs) => match valD kvs k with
        | some v => Q v M2
        | none => False
      | _, _ => False
    | _, _ => False) = kTG2 a Q := by
    funext y M2
    cases y <;> rfl
  rw [e]
  exact h
theorem s_ktg2 {a : Addr} {ds : List D} {k : List Key} {kvs : List (List Key × D)} {v : D} (e : keysD ds = some k) (hm : M a = some (.dT kvs)) (hv : valD kvs k = some v) (h : Q v M) : kTG2 a Q (.tup ds) M := by
  unfold kTG2; simp only [e, hm, hv]; exact h
end
end DL

namespace DL
open PySem PySem.Spec PyProof.Rows L2
/-! ### the order of data whose places may be of unlike kinds: what decides is the first place that differs -/
mutual
/-- None, numbers, texts, tuples of these -/
def pl : PyData → Bool
  | .none => true
  | .bool _ => false
  | .int _ => true
  | .str x => PyData.strOk x
  | .list _ => false
  | .tuple xs => plAll xs
  | .dict _ => false
def plAll : List PyData → Bool
  | [] => true
  | x :: xs => pl x && plAll xs
end
theorem pl_cons {x : PyData} {xs : List PyData} (h : plAll (x :: xs) = true) : pl x = true ∧ plAll xs = true := by
  rw [plAll, Bool.and_eq_true] at h; exact h
mutual
theorem pl_eqv : ∀ x y : PyData, pl x = true → pl y = true → PyData.eqv x y = true → x = y
  | .none, y, _, h2, e => by cases y <;> first | rfl | (simp [PyData.eqv] at e; done) | (simp [pl] at h2; done)
  | .bool _, _, h, _, _ => by simp [pl] at h
  | .int a, y, _, h2, e => by
    cases y <;> first | (simp [pl] at h2; done) | skip
    case int b => simp [PyData.eqv] at e; rw [e]
    all_goals simp [PyData.eqv] at e
  | .str a, y, _, h2, e => by
    cases y <;> first | (simp [pl] at h2; done) | skip
    case str b => simp [PyData.eqv] at e; rw [e]
    all_goals simp [PyData.eqv] at e
  | .list _, _, h, _, _ => by simp [pl] at h
  | .tuple xs, y, h, h2, e => by
    cases y <;> first | (simp [pl] at h2; done) | skip
    case tuple ys =>
      rw [plAll_eqv xs ys (by simpa [pl] using h) (by simpa [pl] using h2) (by simpa [PyData.eqv] using e)]
    all_goals simp [PyData.eqv] at e
  | .dict _, _, h, _, _ => by simp [pl] at h
theorem plAll_eqv : ∀ xs ys : List PyData, plAll xs = true → plAll ys = true → PyData.eqvAll xs ys = true → xs = ys
  | [], [], _, _, _ => rfl
  | [], _ :: _, _, _, e => by simp [PyData.eqvAll] at e
  | _ :: _, [], _, _, e => by simp [PyData.eqvAll] at e
  | x :: xs, y :: ys, h, h2, e => by
    rw [PyData.eqvAll, Bool.and_eq_true] at e
    obtain ⟨a, b⟩ := pl_cons h
    obtain ⟨c, d⟩ := pl_cons h2
    rw [pl_eqv x y a c e.1, plAll_eqv xs ys b d e.2]
end
mutual
theorem pl_lay : ∀ x : PyData, pl x = true → x.canLay0 = true
  | .none, _ => by simp [PyData.canLay0]
  | .bool _, _ => by simp [PyData.canLay0]
  | .int _, _ => by simp [PyData.canLay0]
  | .str _, h => by simpa [PyData.canLay0, pl] using h
  | .list _, h => by simp [pl] at h
  | .tuple xs, h => by
    have := plAll_lay xs (by simpa [pl] using h)
    simpa [PyData.canLay0] using this
  | .dict _, h => by simp [pl] at h
theorem plAll_lay : ∀ xs : List PyData, plAll xs = true → PyData.canLayAll0 xs = true
  | [], _ => by simp [PyData.canLayAll0]
  | x :: xs, h => by
    obtain ⟨a, b⟩ := pl_cons h
    simp [PyData.canLayAll0, pl_lay x a, plAll_lay xs b]
end
mutual
theorem pl_unique {h : Heap} : ∀ (d d' : PyData) (v : Value) (as as' : List Addr), pl d = true → pl d' = true → Reads h v d as → Reads h v d' as' → d = d'
  | .none, _, _, _, _, _, _, r, r' => by cases r; cases r'; rfl
  | .bool _, _, _, _, _, h, _, _, _ => by simp [pl] at h
  | .int _, _, _, _, _, _, _, r, r' => by cases r; cases r'; rfl
  | .str _, _, _, _, _, _, _, r, r' => by cases r; cases r'; rfl
  | .list _, _, _, _, _, h, _, _, _ => by simp [pl] at h
  | .tuple xs, d', _, _, _, h, h2, r, r' => by
    cases r with
    | tuple h1 h2' h3 h4 =>
      cases r' with
      | tuple k1 k2 k3 k4 =>
        rw [h1] at k1; cases k1
        rw [h3] at k3; cases k3
        rw [plAll_unique xs _ _ _ _ (by simpa [pl] using h) (by simpa [pl] using h2) h4 k4]
      | list k1 k2 k3 k4 => simp [pl] at h2
      | dict k1 k2 k3 k4 k5 => simp [pl] at h2
  | .dict _, _, _, _, _, h, _, _, _ => by simp [pl] at h
theorem plAll_unique {h : Heap} : ∀ (xs ys : List PyData) (vs : List Value) (as as' : List Addr), plAll xs = true → plAll ys = true → ReadsAll h vs xs as → ReadsAll h vs ys as' → xs = ys
  | [], _, _, _, _, _, _, r, r' => by cases r; cases r'; rfl
  | x :: xs, [], _, _, _, _, _, r, r' => by cases r'; cases r
  | x :: xs, y :: ys, _, _, _, h, h2, r, r' => by
    cases r with
    | cons h1 h2' =>
      cases r' with
      | cons k1 k2 => rw [pl_unique x y _ _ _ (pl_cons h).1 (pl_cons h2).1 h1 k1, plAll_unique xs ys _ _ _ (pl_cons h).2 (pl_cons h2).2 h2' k2]
end
/-! ### the order of nested tuples: at each depth the first place that differs decides -/
mutual
def ltOk : PyData → PyData → Bool
  | .int _, .int _ => true
  | .str _, .str _ => true
  | .tuple xs, .tuple ys => cmpN xs ys
  | _, _ => false
/-- the first place that differs can be compared, in the depth as well -/
def cmpN : List PyData → List PyData → Bool
  | x :: xs, y :: ys => if PyData.eqv x y = true then cmpN xs ys else ltOk x y
  | _, _ => true
end
theorem cmpN_cons (x y : PyData) (xs ys : List PyData) : cmpN (x :: xs) (y :: ys) = if PyData.eqv x y = true then cmpN xs ys else ltOk x y := by rw [cmpN]
mutual
theorem toks_ok : ∀ x y : PyData, pl x = true → pl y = true → ltOk x y = true → PyData.eqv x y = false → ∀ l m, PyProof.Rows.lexLt itemOrd (PySem.W.keyToks x ++ l) (PySem.W.keyToks y ++ m) = PyProof.Rows.lexLt itemOrd (PySem.W.keyToks x) (PySem.W.keyToks y)
  | .int a, y, _, _, h, e, l, m => by
    cases y <;> first | (simp [ltOk] at h; done) | exact (PySem.W.toks_eqv _ _ (by simp [PySem.W.alike])).2 e l m
  | .str a, y, _, _, h, e, l, m => by
    cases y <;> first | (simp [ltOk] at h; done) | exact (PySem.W.toks_eqv _ _ (by simp [PySem.W.alike])).2 e l m
  | .tuple xs, y, p, q, h, e, l, m => by
    cases y <;> try (simp [ltOk] at h; done)
    rename_i ys
    have := toksAll_ok xs ys (by simpa [pl] using p) (by simpa [pl] using q) (by simpa [ltOk] using h) (by simpa [PyData.eqv] using e) l m
    simpa only [PySem.W.keyToks] using this
  | .none, y, _, _, h, _, _, _ => by cases y <;> simp [ltOk] at h
  | .bool _, y, _, _, h, _, _, _ => by cases y <;> simp [ltOk] at h
  | .list _, y, _, _, h, _, _, _ => by cases y <;> simp [ltOk] at h
  | .dict _, y, _, _, h, _, _, _ => by cases y <;> simp [ltOk] at h
theorem toksAll_ok : ∀ xs ys : List PyData, plAll xs = true → plAll ys = true → cmpN xs ys = true → PyData.eqvAll xs ys = false → ∀ l m, PyProof.Rows.lexLt itemOrd (PySem.W.keyToksAll xs ++ l) (PySem.W.keyToksAll ys ++ m) = PyProof.Rows.lexLt itemOrd (PySem.W.keyToksAll xs) (PySem.W.keyToksAll ys)
  | [], [], _, _, _, e, _, _ => by simp [PyData.eqvAll] at e
  | [], y :: ys, _, _, _, _, l, m => (PySem.W.toksAll_eqv [] (y :: ys) (by simp [PySem.W.alikeAll])).2 (by simp [PyData.eqvAll]) l m
  | x :: xs, [], _, _, _, _, l, m => (PySem.W.toksAll_eqv (x :: xs) [] (by simp [PySem.W.alikeAll])).2 (by simp [PyData.eqvAll]) l m
  | x :: xs, y :: ys, p, q, h, e, l, m => by
    obtain ⟨p1, p2⟩ := pl_cons p
    obtain ⟨q1, q2⟩ := pl_cons q
    rw [cmpN_cons] at h
    rw [PySem.W.eqv_all_cons] at e
    rw [PySem.W.toks_all_cons, PySem.W.toks_all_cons, List.cons_append, List.cons_append, List.append_assoc, List.append_assoc]
    rw [lex_self (O := itemOrd), lex_self (O := itemOrd)]
    cases hx : PyData.eqv x y with
    | true =>
      obtain rfl := pl_eqv x y p1 q1 hx
      rw [if_pos hx] at h
      rw [hx, Bool.true_and] at e
      rw [PySem.W.lex_pre, PySem.W.lex_pre]
      exact toksAll_ok xs ys p2 q2 h e l m
    | false =>
      rw [if_neg (by rw [hx]; exact Bool.false_ne_true)] at h
      have t := toks_ok x y p1 q1 h hx
      rw [t, t]
end
theorem lt_all_no {x y : PyData} {xs ys : List PyData} (p : pl x = true) (q : pl y = true) (h : ltOk x y = true) (e : PyData.eqv x y = false) : PyProof.Rows.lexLt itemOrd (PySem.W.keyToksAll (x :: xs)) (PySem.W.keyToksAll (y :: ys)) = PySem.W.dataLt x y := by
  rw [PySem.W.toks_all_cons, PySem.W.toks_all_cons, lex_self (O := itemOrd)]
  exact toks_ok x y p q h e _ _
open PySem.W PySem.SeqAt PySem.MeetsSeq PySem.MeetsSeq2 PySem.MeetsSeq3 in
open PySem.AutoSeq1 (wpAny_loadPart') in
/-- t < u of two tuples, where only the first places that differ can be compared -/
theorem tuple_ltFirst (l b : Addr) (items items2 : Array Value) (n n2 : Nat) (dd dd2 : Option Addr) (sl sl2 : Array (Option Value)) (e r : Nat → Bool) :
    Meets (Builtin.«tuple.__lt__» ⟨[.ref l, .ref b], []⟩)
      (fun A R s => s.heap.get? l = some { cls := .type "tuple", dict := dd, data := .seq items n, slots := sl } ∧ s.heap.get? b = some { cls := .type "tuple", dict := dd2, data := .seq items2 n2, slots := sl2 } ∧
        (∀ j (h1 : j < items.size) (h2 : j < items2.size), EqAt A.in1 s items[j] items2[j] (e j)) ∧ (∀ j (h1 : j < items.size) (h2 : j < items2.size), (∀ i, i < j → e i = true) → e j = false → RcLt A.in1 s items[j] items2[j] (r j)) ∧
        R (.ok (.ret (.bool (firstLt e r (decide (items.size < items2.size)) (List.range (min items.size items2.size)))))) s) :=
  .of_wp fun prog w A R s h => by
    obtain ⟨hp, g, d, tk, os⟩ := s; obtain ⟨hl, hb, he, hr, h⟩ := h
    have f2 := AutoSeq1.sub_tuple_tuple
    have hZ : (items.toList.zip items2.toList).length = min items.size items2.size := by simp
    wp_walk using wpAny_loadPart' hl, wpAny_loadPart' hb, wpAny_forIn_list _ (fun rest b s' => b.1 = none ∧ s' = ⟨hp, g, d, tk, os⟩ ∧ ∃ i, (∀ i', i' < i → e i' = true) ∧ rest = (items.toList.zip items2.toList).drop i ∧
      R (.ok (.ret (.bool (firstLt e r (decide (items.size < items2.size)) ((List.range (min items.size items2.size)).drop i))))) ⟨hp, g, d, tk, os⟩) _
    case turn =>
      rintro ⟨y, x⟩ rest b s' ⟨hb', rfl, i, hpre, hz, hR⟩
      have hlt : i < (items.toList.zip items2.toList).length := by
        rcases Nat.lt_or_ge i (items.toList.zip items2.toList).length with h' | h'
        · exact h'
        · rw [List.drop_of_length_le h'] at hz; cases hz
      have hm : i < min items.size items2.size := hZ ▸ hlt
      have h1 : i < items.size := Nat.lt_of_lt_of_le hm (Nat.min_le_left _ _)
      have h2 : i < items2.size := Nat.lt_of_lt_of_le hm (Nat.min_le_right _ _)
      rw [List.drop_eq_getElem_cons hlt] at hz
      injection hz with hyx hrest
      have hy : y = items[i] := by have := congrArg Prod.fst hyx; simpa using this
      have hx : x = items2[i] := by have := congrArg Prod.snd hyx; simpa using this
      subst hy hx
      have hd : (List.range (min items.size items2.size)).drop i = i :: (List.range (min items.size items2.size)).drop (i + 1) := by simp [List.drop_eq_getElem_cons, hm]
      rw [hd] at hR
      refine wpAny_bind (he i h1 h2 prog w _ _ ?_)
      cases hy : e i with
      | true =>
        rw [firstLt_yes hy] at hR
        wp_walk
        exact ⟨rfl, rfl, i + 1, fun i' hi' => (by
          rcases Nat.lt_or_ge i' i with z | z
          · exact hpre i' z
          · rw [show i' = i by omega]; exact hy), hrest, hR⟩
      | false =>
        rw [firstLt_no hy] at hR
        have hri := hr i h1 h2 hpre hy prog w
        wp_walk using hri
        exact ⟨_, rfl, by simpa using hR⟩
    case fin =>
      rintro ⟨b1, b2⟩ s' ⟨hb', rfl, i, hpre, hz, hR⟩
      simp only at hb'
      subst hb'
      have hge : min items.size items2.size ≤ i := by
        rcases Nat.lt_or_ge i (items.toList.zip items2.toList).length with h' | h'
        · rw [List.drop_eq_getElem_cons h'] at hz; cases hz
        · exact hZ ▸ h'
      rw [List.drop_of_length_le (by simpa using hge)] at hR
      wp_walk
      exact ⟨_, rfl, by simpa [Builtin.Tuple.tupleCompareSizes, firstLt] using hR⟩
    case h =>
      exact ⟨rfl, rfl, 0, fun _ z => absurd z (Nat.not_lt_zero _), rfl, by simpa using h⟩
open PySem.W PySem.SeqAt PySem.MeetsSeq PySem.MeetsSeq2 PySem.MeetsSeq3 in
theorem rcLt_tuplesF {A : Around} {s : Shared} {l b : Addr} {items items2 : Array Value} {e r : Nat → Bool} (hl : s.heap.IsTuple l items) (hb : s.heap.IsTuple b items2) (hu : A.units < cLine)
    (he : ∀ j (h1 : j < items.size) (h2 : j < items2.size), EqAt A.in1 s items[j] items2[j] (e j)) (hr : ∀ j (h1 : j < items.size) (h2 : j < items2.size), (∀ i, i < j → e i = true) → e j = false → RcLt A.in1 s items[j] items2[j] (r j)) :
    RcLt A s (.ref l) (.ref b) (firstLt e r (decide (items.size < items2.size)) (List.range (min items.size items2.size))) := fun prog w E Q h => by
  obtain ⟨⟨cls, dd, data, sl⟩, ho, hc, n, hd⟩ := id hl
  obtain ⟨⟨cls2, dd2, data2, sl2⟩, ho2, hc2, n2, hd2⟩ := id hb
  simp only at hc hd hc2 hd2
  subst hc hd hc2 hd2
  exact richCompare_meets_room (op := .Lt) ⟨_, ho, rfl⟩ ⟨_, ho2, rfl⟩ F.slot_tuple_lt F.entry_tuple_lt (F.args_tuple_lt_2 _ _) (tuple_ltFirst l b items items2 n n2 dd dd2 sl sl2 e r)
    ⟨ho, ho2, he, hr, ⟨(fun x => nomatch x), h⟩⟩ hu
section
open PySem.W PySem.SeqAt
theorem firstLt_cmp : ∀ (xs ys : List PyData), plAll xs = true → plAll ys = true → cmpN xs ys = true →
    firstLt (pairEq xs ys) (fun j => dataLt (xs.getD j .none) (ys.getD j .none)) (decide (xs.length < ys.length)) (List.range (min xs.length ys.length)) = PyProof.Rows.lexLt itemOrd (keyToksAll xs) (keyToksAll ys)
  | [], ys, _, _, _ => firstLt_toks [] ys (by simp [alikeAll])
  | x :: xs, [], _, _, _ => firstLt_toks (x :: xs) [] (by simp [alikeAll])
  | x :: xs, y :: ys, p, q, h => by
    obtain ⟨p1, p2⟩ := pl_cons p
    obtain ⟨q1, q2⟩ := pl_cons q
    rw [cmpN_cons] at h
    have em : min (x :: xs).length (y :: ys).length = min xs.length ys.length + 1 := by
      rw [List.length_cons, List.length_cons]; omega
    have ed : decide ((x :: xs).length < (y :: ys).length) = decide (xs.length < ys.length) := by
      rw [List.length_cons, List.length_cons]; exact decide_eq_decide.mpr (by omega)
    rw [em, ed, List.range_succ_eq_map]
    cases hx : PyData.eqv x y with
    | true =>
      rw [if_pos hx] at h
      obtain rfl := pl_eqv x y p1 q1 hx
      rw [firstLt_yes (show pairEq (x :: xs) (x :: ys) 0 = true from hx), firstLt_map, toks_all_cons, toks_all_cons, lex_self (O := itemOrd), lex_pre, ← firstLt_cmp xs ys p2 q2 h]
      rfl
    | false =>
      rw [if_neg (by rw [hx]; exact Bool.false_ne_true)] at h
      rw [firstLt_no (show pairEq (x :: xs) (y :: ys) 0 = false from hx), lt_all_no p1 q1 h hx]
      rfl
theorem eqAtAll_pl : ∀ (xs ys : List PyData) (A : Around) (s : Shared) (vs ws : List Value) (as bs : List Addr), ReadsAll s.heap vs xs as → ReadsAll s.heap ws ys bs → plAll xs = true → plAll ys = true →
    A.units + min (PyData.depthAll xs) (PyData.depthAll ys) < cLine → ∀ j (h1 : j < vs.length) (h2 : j < ws.length), EqAt A s vs[j] ws[j] (pairEq xs ys j)
  | [], _, _, _, _, _, _, _, ra, _, _, _, _, j, h1, _ => by cases ra; exact absurd h1 (Nat.not_lt_zero _)
  | _ :: _, [], _, _, _, _, _, _, _, rb, _, _, _, j, _, h2 => by cases rb; exact absurd h2 (Nat.not_lt_zero _)
  | x :: xs, y :: ys, A, s, _, _, _, _, .cons r rs, .cons r' rs', p, q, hu, 0, _, _ => eqAt_reads x y A s _ _ _ _ r r' (pl_lay x (pl_cons p).1) (pl_lay y (pl_cons q).1) (room_head hu)
  | x :: xs, y :: ys, A, s, _, _, _, _, .cons r rs, .cons r' rs', p, q, hu, j + 1, h1, h2 => eqAtAll_pl xs ys A s _ _ _ _ rs rs' (pl_cons p).2 (pl_cons q).2 (room_tail hu) j (Nat.lt_of_succ_lt_succ h1) (Nat.lt_of_succ_lt_succ h2)
mutual
theorem rcLt_ok : ∀ (x y : PyData) (A : Around) (s : Shared) (a b : Value) (as bs : List Addr), Reads s.heap a x as → Reads s.heap b y bs → pl x = true → pl y = true → ltOk x y = true → A.units + min x.depth y.depth < cLine → RcLt A s a b (dataLt x y)
  | .int i, y, A, s, a, b, as, bs, ra, rb, _, _, h, hu => by
    cases y <;> try (simp [ltOk] at h; done)
    exact rcLt_alike _ _ A s a b as bs ra rb (by simp [alike]) (fun z => nomatch z) hu
  | .str i, y, A, s, a, b, as, bs, ra, rb, _, _, h, hu => by
    cases y <;> try (simp [ltOk] at h; done)
    exact rcLt_alike _ _ A s a b as bs ra rb (by simp [alike]) (fun z => nomatch z) hu
  | .tuple xs, y, A, s, a, b, as, bs, ra, rb, p, q, h, hu => by
    cases y <;> try (simp [ltOk] at h; done)
    rename_i ys
    have h : cmpN xs ys = true := by simpa [ltOk] using h
    have p : plAll xs = true := by simpa [pl] using p
    have q : plAll ys = true := by simpa [pl] using q
    cases ra with
    | @tuple l o vs n _ as₁ h1 h2 h3 h4 =>
      cases rb with
      | @tuple l' o' vs' n' _ bs₁ k1 k2 k3 k4 =>
        have n1 : vs.size = xs.length := by simpa using ReadsAll.length _ _ _ h4
        have n2 : vs'.size = ys.length := by simpa using ReadsAll.length _ _ _ k4
        rw [dataLt_tuple, ← firstLt_cmp xs ys p q h, ← n1, ← n2]
        refine rcLt_tuplesF ⟨_, h1, h2, _, h3⟩ ⟨_, k1, k2, _, k3⟩ (room_here hu) (fun j j1 j2 => ?_) fun j j1 j2 hi hj => ?_
        · have := eqAtAll_pl xs ys A.in1 s vs.toList vs'.toList _ _ h4 k4 p q (room_in hu) j (by simpa using j1) (by simpa using j2)
          simpa using this
        · have := rcLtAll_ok xs ys A.in1 s vs.toList vs'.toList _ _ h4 k4 p q h (room_in hu) j (by simpa using j1) (by simpa using j2) hi hj
          simpa using this
  | .none, y, _, _, _, _, _, _, _, _, _, _, h, _ => by cases y <;> simp [ltOk] at h
  | .bool _, y, _, _, _, _, _, _, _, _, _, _, h, _ => by cases y <;> simp [ltOk] at h
  | .list _, y, _, _, _, _, _, _, _, _, _, _, h, _ => by cases y <;> simp [ltOk] at h
  | .dict _, y, _, _, _, _, _, _, _, _, _, _, h, _ => by cases y <;> simp [ltOk] at h
theorem rcLtAll_ok : ∀ (xs ys : List PyData) (A : Around) (s : Shared) (vs ws : List Value) (as bs : List Addr), ReadsAll s.heap vs xs as → ReadsAll s.heap ws ys bs → plAll xs = true → plAll ys = true → cmpN xs ys = true →
    A.units + min (PyData.depthAll xs) (PyData.depthAll ys) < cLine → ∀ j (h1 : j < vs.length) (h2 : j < ws.length), (∀ i, i < j → pairEq xs ys i = true) → pairEq xs ys j = false → RcLt A s vs[j] ws[j] (dataLt (xs.getD j .none) (ys.getD j .none))
  | [], _, _, _, _, _, _, _, ra, _, _, _, _, _, j, h1, _, _, _ => by cases ra; exact absurd h1 (Nat.not_lt_zero _)
  | _ :: _, [], _, _, _, _, _, _, _, rb, _, _, _, _, j, _, h2, _, _ => by cases rb; exact absurd h2 (Nat.not_lt_zero _)
  | x :: xs, y :: ys, A, s, _, _, _, _, .cons r rs, .cons r' rs', p, q, h, hu, 0, _, _, _, hj => by
    rw [cmpN_cons, if_neg (by rw [show PyData.eqv x y = false from hj]; exact Bool.false_ne_true)] at h
    exact rcLt_ok x y A s _ _ _ _ r r' (pl_cons p).1 (pl_cons q).1 h (room_head hu)
  | x :: xs, y :: ys, A, s, _, _, _, _, .cons r rs, .cons r' rs', p, q, h, hu, j + 1, h1, h2, hi, hj => by
    rw [cmpN_cons, if_pos (show PyData.eqv x y = true from hi 0 (Nat.succ_pos j))] at h
    exact rcLtAll_ok xs ys A s _ _ _ _ rs rs' (pl_cons p).2 (pl_cons q).2 h (room_tail hu) j (Nat.lt_of_succ_lt_succ h1) (Nat.lt_of_succ_lt_succ h2) (fun i z => hi (i + 1) (Nat.succ_lt_succ z)) hj
end
theorem oneLt_ok {prog : Program} {w : World} {A : Around} {E : Value → Shared → Prop} {s : Shared} {f : Bool} {x y : PyData} {a b : Value} {as bs : List Addr} {Q : Bool → Shared → Prop} (hf : f = true → ∀ xs, x ≠ .tuple xs) (ra : Reads s.heap a x as) (rb : Reads s.heap b y bs) (p : pl x = true) (q : pl y = true) (h : ltOk x y = true)
    (hu : A.units + min x.depth y.depth < cLine) (hq : Q (dataLt x y) s) : wpAny (model prog w) A (oneLt' f a b) Q E s := by
  cases f with
  | false =>
    rw [oneLt'_eq]
    simp only [Bool.false_eq_true, if_false]
    exact wpAny_bind (rcLt_ok x y A s a b as bs ra rb p q h hu prog w E _ (wpAny_truthy_bool hq))
  | true =>
    have ha : alike x y = true := by
      cases x with
      | tuple xs => exact absurd rfl (hf rfl xs)
      | int i => cases y <;> first | (simp [ltOk] at h; done) | simp [alike]
      | str i => cases y <;> first | (simp [ltOk] at h; done) | simp [alike]
      | _ => cases y <;> simp [ltOk] at h
    exact oneLt_alike hf ra rb ha (fun z => by subst z; cases y <;> simp [ltOk] at h) hu hq
end
theorem lex_same (x : PyData) (xs ys : List PyData) : PyProof.Rows.lexLt itemOrd (PySem.W.keyToksAll (x :: xs)) (PySem.W.keyToksAll (x :: ys)) = PyProof.Rows.lexLt itemOrd (PySem.W.keyToksAll xs) (PySem.W.keyToksAll ys) := by
  rw [PySem.W.toks_all_cons, PySem.W.toks_all_cons]
  exact (lex_self (O := itemOrd) _ _ _).trans (PySem.W.lex_pre _ _ _)
section
open PySem.W PySem.SeqAt
variable {prog : Program} {w : World} {A : Around} {E : Value → Shared → Prop} {s : Shared}
theorem katLex_cmp {b fin : Bool} {Q : Bool → Shared → Prop} : ∀ (xs ys : List PyData) (i : Nat) (vs ws : List Value) (as bs : List Addr), ReadsAll s.heap vs xs as → ReadsAll s.heap ws ys bs → cmpN xs ys = true → plAll xs = true → plAll ys = true →
    A.units + min (PyData.depthAll xs) (PyData.depthAll ys) < cLine → (b = true → i = 0 → ∀ x r t, xs = x :: r → x ≠ .tuple t) → fin = decide (xs.length < ys.length) → Q (PyProof.Rows.lexLt itemOrd (keyToksAll xs) (keyToksAll ys)) s → KatLex prog w A b fin Q (vs.zip ws) i s
  | [], [], i, _, _, _, _, ra, rb, _, _, _, _, _, hf, hq => by
    cases ra
    cases rb
    have e : fin = false := by rw [hf]; rfl
    subst e
    rw [lex_irrefl] at hq
    exact kat_nil hq
  | [], y :: ys, i, _, _, _, _, ra, rb, _, _, _, _, _, hf, hq => by
    cases ra
    have e : fin = true := by rw [hf]; exact decide_eq_true (Nat.succ_pos _)
    subst e
    rw [toks_all_cons] at hq
    simp only [keyToksAll] at hq
    rw [lex_diff (O := itemOrd) (by simp)] at hq
    rw [List.zip_nil_left]
    exact kat_nil (by simpa [itemLt] using hq)
  | x :: xs, [], i, _, _, _, _, ra, rb, _, _, _, _, _, hf, hq => by
    cases rb
    have e : fin = false := by rw [hf]; exact decide_eq_false (Nat.not_lt_zero _)
    subst e
    rw [toks_all_cons] at hq
    simp only [keyToksAll] at hq
    rw [lex_diff (O := itemOrd) (by simp)] at hq
    rw [List.zip_nil_right]
    exact kat_nil (by simpa [itemLt] using hq)
  | x :: xs, y :: ys, i, _, _, _, _, ra, rb, h, hx, hy, hu, hb, hf, hq => by
    obtain ⟨x1, x2⟩ := pl_cons hx
    obtain ⟨y1, y2⟩ := pl_cons hy
    have hf' : fin = decide (xs.length < ys.length) := by
      rw [hf]
      simp only [List.length_cons, Nat.add_lt_add_iff_right]
    cases ra with
    | cons r rs =>
      cases rb with
      | cons r' rs' =>
        rw [List.zip_cons_cons]
        refine kat_cons (eqAt_reads x y A s _ _ _ _ r r' (pl_lay x x1) (pl_lay y y1) (room_head hu) prog w _ _ ?_)
        rw [cmpN_cons] at h
        cases hxy : PyData.eqv x y with
        | true =>
          replace h : cmpN xs ys = true := by rwa [if_pos hxy] at h
          obtain rfl := pl_eqv x y x1 y1 hxy
          rw [lex_same] at hq
          exact kat_yes (katLex_cmp xs ys (i + 1) _ _ _ _ rs rs' h x2 y2 (room_tail hu) (fun _ hi => absurd hi (Nat.succ_ne_zero i)) hf' hq)
        | false =>
          rw [if_neg (by rw [hxy]; exact Bool.false_ne_true)] at h
          rw [lt_all_no x1 y1 h hxy] at hq
          refine kat_no (oneLt_ok (fun hbi t => ?_) r r' x1 y1 h (room_head hu) hq)
          rw [Bool.and_eq_true] at hbi
          exact hb hbi.1 (by simpa using hbi.2) x xs t rfl
theorem dataKind_pl {h : Heap} {ds : List PyData} (hp : ∀ d ∈ ds, pl d = true) {v : Value} {d : PyData} {as : List Addr} (hd : d ∈ ds) (r : Reads h v d as) : (dataKind h ds).keyOf v = some (keyToks d) := by
  have q : ∃ d, d ∈ ds ∧ ∃ as, Reads h v d as := ⟨d, hd, as, r⟩
  have e : (dataKind h ds).keyOf v = some (keyToks q.choose) := by
    show (open Classical in if q : ∃ d, d ∈ ds ∧ ∃ as, Reads h v d as then some (keyToks q.choose) else none) = _
    rw [dif_pos q]
  obtain ⟨h1, as', h2⟩ := q.choose_spec
  rw [e, pl_unique _ _ _ _ _ (hp _ h1) (hp _ hd) h2 r]
/-- tuples that can be sorted -/
structure MixOk (ds : List PyData) : Prop where
  tup : ∀ d ∈ ds, ∃ x r, d = .tuple (x :: r) ∧ plAll (x :: r) = true
  cmp : ∀ xs ys, PyData.tuple xs ∈ ds → PyData.tuple ys ∈ ds → cmpN xs ys = true
  fst : ∀ x r y t, PyData.tuple (x :: r) ∈ ds → PyData.tuple (y :: t) ∈ ds → dataType x = dataType y
  dep : ∀ d ∈ ds, d.depth ≤ 60
theorem MixOk.pl {ds : List PyData} (h : MixOk ds) : ∀ d ∈ ds, DL.pl d = true := fun d hd => by
  obtain ⟨x, r, rfl, e⟩ := h.tup d hd
  simpa [DL.pl] using e
theorem sortsAt_mix {vs : List Value} {ds : List PyData} (e : EachIs (fun v d => ∃ as, Reads s.heap v d as) vs ds) (hm : MixOk ds) (hu : A.units + 60 < cLine) : SortsAt prog w A s (dataKind s.heap ds) vs := by
  refine ⟨fun v hv => ?_, ?_⟩
  · obtain ⟨d, hd, as, r⟩ := e.left v hv
    exact ⟨_, dataKind_pl hm.pl hd r⟩
  · cases ds with
    | nil =>
      cases e
      exact ⟨general', fun E x y a b Q ha _ _ => (by
        obtain ⟨d, _, hd, _⟩ := dataKind_inv ha
        exact absurd hd (by simp)), fun h2 => absurd h2 (by simp)⟩
    | cons d₀ ds₀ =>
      obtain ⟨x₀, r₀, e₀, _⟩ := hm.tup d₀ (List.mem_cons_self ..)
      have hfirst : ∀ x r, PyData.tuple (x :: r) ∈ d₀ :: ds₀ → dataType x = dataType x₀ := fun x r h => hm.fst x r x₀ r₀ h (by rw [e₀]; exact List.mem_cons_self ..)
      refine ⟨tuples' (dataType x₀ != Value.type "tuple"), ?_, fun h2 E Q hq => ?_⟩
      · intro E x y a b Q ha hb hq
        obtain ⟨d, as, hd, ra, rfl⟩ := dataKind_inv ha
        obtain ⟨d', as', hd', rb, rfl⟩ := dataKind_inv hb
        obtain ⟨x1, r1, rfl, p1⟩ := hm.tup d hd
        obtain ⟨x2, r2, rfl, p2⟩ := hm.tup d' hd'
        have hcm := hm.cmp _ _ hd hd'
        have hdp := hm.dep _ hd
        have hq' : Q (dataLt (.tuple (x1 :: r1)) (.tuple (x2 :: r2))) s := hq
        rw [dataLt_tuple] at hq'
        have hdp2 : PyData.depthAll (x1 :: r1) ≤ 60 := by
          have : (PyData.tuple (x1 :: r1)).depth = PyData.depthAll (x1 :: r1) + 1 := by rw [PyData.depth]
          omega
        cases ra with
        | @tuple l o xs n _ _ h1 h2 h3 h4 =>
          cases rb with
          | @tuple l' o' xs' n' _ _ k1 k2 k3 k4 =>
            have n1 : xs.size = (x1 :: r1).length := by simpa using SeqAt.ReadsAll.length _ _ _ h4
            have n2 : xs'.size = (x2 :: r2).length := by simpa using SeqAt.ReadsAll.length _ _ _ k4
            refine kat_lt h1 h3 k1 k3 (katLex_cmp (x1 :: r1) (x2 :: r2) 0 _ _ _ _ h4 k4 hcm p1 p2 (by omega) (fun hb _ x r t ex => ?_) (by rw [n1, n2]) hq')
            obtain ⟨rfl, rfl⟩ := List.cons.inj ex
            rw [← hfirst _ _ hd] at hb
            exact dataType_tuple hb t
      · obtain ⟨fs, t1, t2, t3⟩ := each_katTups e fun d hd => by
          obtain ⟨x, r, e, _⟩ := hm.tup d hd
          exact ⟨x, r, e⟩
        refine kat_kind (T := dataType x₀) t1 (by omega) (fun f hf => ?_) (beq_self_eq_true _) hq
        obtain ⟨x, r, as, m1, m2⟩ := t3 f hf
        rw [← hfirst x r m1]
        exact looks_reads m2
end
/-! ### sorted(a list of such tuples) -/
theorem each_dp {X : Cx} {pins : List (Addr × Obj)} {σ : L2.St} {H : Hp} {s : Shared} (I : Inv X pins σ H s) : ∀ {ds : List PyData} {vs : List V} {us : List Value}, DpAll X.K H vs ds → Vals vs us → PySem.W.EachIs (fun u d => ∃ as, Reads s.heap u d as) us ds ∧ PySem.W.EachIs (fun u (b : V × PyData) => RelV b.1 u) us (vs.zip ds) ∧ PySem.W.EachIs (fun u (b : V × PyData) => ∃ as, Reads s.heap u b.2 as) us (vs.zip ds)
  | _, _, _, .nil, r => by cases r; exact ⟨.nil, .nil, .nil⟩
  | _, _, _, .cons h t, r => by
    cases r with
    | cons r1 r2 =>
      obtain ⟨a, b, c⟩ := each_dp I t r2
      have q := Dp.reads I _ _ _ h r1
      exact ⟨.cons q a, .cons r1 b, .cons q c⟩
theorem vals_each : ∀ {us : List Value} {bs : List (V × PyData)}, PySem.W.EachIs (fun u (b : V × PyData) => RelV b.1 u) us bs → Vals (bs.map Prod.fst) us
  | _, _, .nil => .nil
  | _, _, .cons h t => .cons h (vals_each t)
def mixLe (a b : V × PyData) : Bool := !PySem.W.dataLt b.2 a.2
theorem dpAll_len {K : PySem.W.Frag} {H : Hp} : ∀ {vs : List V} {ds : List PyData}, DpAll K H vs ds → vs.length = ds.length
  | _, _, .nil => rfl
  | _, _, .cons _ t => congrArg (· + 1) (dpAll_len t)
def rSortedD (K : PySem.W.Frag) : List V → Hp → VK → Prop := fun vs H Q => ∃ (a : Addr) (xs : List V) (ps : List PyData), vs = [V.ref a] ∧ SqL K H a xs ∧ DpAll K H xs ps ∧ MixOk ps ∧ ∀ p, H p = none → Q (.ref p) (upd H p (.lst (((xs.zip ps).mergeSort mixLe).map Prod.fst)))
theorem cr_sortedD {X : Cx} (hu : X.A.units + 64 < cLine) : CallR X (.builtin "sorted") (rSortedD X.K) := by
  intro pins s σ H vs us Q I r h
  obtain ⟨a, xs, ps, rfl, hs, hd, hm, q⟩ := h
  obtain ⟨its, rv, hl, hz⟩ := I.list hs
  rw [Vals.ref1 r]
  obtain ⟨e1, e2, e3⟩ := each_dp I hd rv
  have hL : its.length ≤ sizeLine := by rw [← rv.length]; exact hz
  have keep : PySem.W.EachIs (fun v d => ∃ as, Reads (PySem.W.sortingHeap (PySem.W.copyHeap s.heap its) (s.heap.objs.size + 1) its) v d as) its ps := e1.mono fun _ _ ⟨as, r⟩ => ⟨as, PyProof.Rows.Reads.keeps (fun _ _ => PySem.W.sorting_copy_old) r⟩
  have keep2 : PySem.W.EachIs (fun v (b : V × PyData) => ∃ as, Reads (PySem.W.sortingHeap (PySem.W.copyHeap s.heap its) (s.heap.objs.size + 1) its) v b.2 as) its (xs.zip ps) := e3.mono fun _ _ ⟨as, r⟩ => ⟨as, PyProof.Rows.Reads.keeps (fun _ _ => PySem.W.sorting_copy_old) r⟩
  refine PySem.W.sorted_vals (κ := PySem.W.dataKind (PySem.W.sortingHeap (PySem.W.copyHeap s.heap its) (s.heap.objs.size + 1) its) ps) hl.isList (sortsAt_mix (s := { s with heap := PySem.W.sortingHeap (PySem.W.copyHeap s.heap its) (s.heap.objs.size + 1) its }) keep hm ?_) hL ?_
  · show X.A.units + 2 + 60 < cLine
    omega
  · have ez : (xs.zip ps).map Prod.snd = ps := by
      rw [List.map_snd_zip]; rw [dpAll_len hd]; exact Nat.le_refl _
    have out := PySem.W.sortVals_each (κ := PySem.W.dataKind (PySem.W.sortingHeap (PySem.W.copyHeap s.heap its) (s.heap.objs.size + 1) its) ps) (rev := false) (fun b : V × PyData => PySem.W.keyToks b.2) e2 ((PySem.W.each_mem keep2).mono fun u b ⟨⟨as, r⟩, hb⟩ => dataKind_pl hm.pl (by rw [← ez]; exact List.mem_map.mpr ⟨b, hb, rfl⟩) r)
    obtain ⟨ep, he'⟩ := PyProof.Rows.sortedAll_at s.heap its (PySem.W.sortVals (PySem.W.dataKind (PySem.W.sortingHeap (PySem.W.copyHeap s.heap its) (s.heap.objs.size + 1) its) ps) false its its).toArray
    have out : PySem.W.EachIs (fun u (b : V × PyData) => RelV b.1 u) (PySem.W.sortVals (PySem.W.dataKind (PySem.W.sortingHeap (PySem.W.copyHeap s.heap its) (s.heap.objs.size + 1) its) ps) false its its) ((xs.zip ps).mergeSort mixLe) := out
    have hlen : (((xs.zip ps).mergeSort mixLe).map Prod.fst).length ≤ sizeLine := by
      rw [List.length_map, List.length_mergeSort, List.length_zip, dpAll_len hd, Nat.min_self, ← dpAll_len hd]; exact hz
    exact ⟨.ref _, upd H (s.heap.objs.size + 1) (.lst (((xs.zip ps).mergeSort mixLe).map Prod.fst)), I.laid (t' := s.toks) (fun _ _ => PyProof.Rows.sortedAll_old) (Nat.le_succ _) ⟨hlen, _, ep, by simpa using vals_each out, he'⟩, rfl, q _ (I.hok.fresh (Nat.le_succ _))⟩
/-! ### .. of data -/
def pyD (d : D) : PyData := d.py.getD .none
def ordD (a b : D) : Bool := !PySem.W.dataLt (pyD b) (pyD a)
def sortD (ds : List D) : List D := ds.mergeSort ordD
structure SortOk (ds : List D) : Prop where
  py : ∀ d ∈ ds, d.py = some (pyD d)
  mix : MixOk (ds.map pyD)
theorem pyAll_map : ∀ {ds : List D}, (∀ d ∈ ds, d.py = some (pyD d)) → pyAll ds = some (ds.map pyD)
  | [], _ => rfl
  | d :: ds, h => by
    show (match d.py, pyAll ds with
      | some p, some ps => some (p :: ps)
      | _, _ => none) = _
    rw [h d List.mem_cons_self, pyAll_map fun e he => h e (List.mem_cons_of_mem _ he)]
    rfl
def dSortedD : RC := fun ds M Q => match ds with
  | [x] => match lsOf M x with
    | some es => SortOk es ∧ Q (.lst (sortD es)) M
    | none => False
  | _ => False
theorem repAll_zip {K : PySem.W.Frag} {F : Hp} : ∀ {xs : List V} {es : List D}, RepAll K F xs es → ∀ p ∈ xs.zip es, Rep K F p.1 p.2
  | _, _, .nil, p, h => by cases h
  | _, _, .cons r t, p, h => by
    rw [List.zip_cons_cons] at h
    rcases List.mem_cons.mp h with rfl | h
    · exact r
    · exact repAll_zip t p h
theorem repAll_unzip {K : PySem.W.Frag} {F : Hp} : ∀ {L : List (V × D)}, (∀ p ∈ L, Rep K F p.1 p.2) → RepAll K F (L.map Prod.fst) (L.map Prod.snd)
  | [], _ => .nil
  | p :: L, h => .cons (h p List.mem_cons_self) (repAll_unzip fun q hq => h q (List.mem_cons_of_mem _ hq))
theorem cd_sortedD {X : Cx} {F0 : Bs} (hu : X.A.units + 64 < cLine) : CallR X (.builtin "sorted") (liC X.K F0 dSortedD) := by
  refine caImp (cr_sortedD hu) fun xs H Q ⟨F, R, M, ds, Q', e0, st, ra, q, k⟩ => ?_
  unfold dSortedD at q
  split at q <;> try exact q.elim
  obtain ⟨x, rfl, r⟩ := rep1 ra
  split at q <;> try exact q.elim
  rename_i es h1
  obtain ⟨a, vs, rfl, hs, rv⟩ := ls_get st r h1
  obtain ⟨q1, q2⟩ := q
  refine ⟨a, vs, es.map pyD, rfl, hs, RepAll.dps st.fz _ _ _ rv (pyAll_map q1.py), q1.mix, fun p hp => ?_⟩
  have hl := rv.len
  have e1 : vs.zip (es.map pyD) = (vs.zip es).map (Prod.map id pyD) := by rw [List.zip_map_right]
  have e2 : ((vs.zip es).mergeSort fun a b => ordD a.2 b.2).map (Prod.map id pyD) = ((vs.zip es).map (Prod.map id pyD)).mergeSort mixLe := List.map_mergeSort fun a _ b _ => rfl
  have e3 : ((vs.zip es).mergeSort fun a b => ordD a.2 b.2).map Prod.snd = sortD es := by
    unfold sortD
    rw [List.map_mergeSort (s := ordD) (fun a _ b _ => rfl), List.map_snd_zip (Nat.le_of_eq hl.symm)]
  have e4 : ((vs.zip (es.map pyD)).mergeSort mixLe).map Prod.fst = ((vs.zip es).mergeSort fun a b => ordD a.2 b.2).map Prod.fst := by
    rw [e1, ← e2, List.map_map]; rfl
  rw [e4]
  refine k.lst st hp (repAll_unzip fun p hp => repAll_zip rv p ((List.mergeSort_perm _ _).mem_iff.mp hp)) ?_
  rw [e3]
  exact q2
theorem s_sortedD {x : D} {M : Mp} {Q : QD} {es : List D} (e : lsOf M x = some es) (h : SortOk es) (q : Q (.lst (sortD es)) M) : dSortedD [x] M Q := by
  unfold dSortedD; simp only [e]; exact ⟨h, q⟩
theorem sortD_perm (ds : List D) : (sortD ds).Perm ds := List.mergeSort_perm _ _
theorem dLe_trans {a b c : D} (h : ordD a b = true) (g : ordD b c = true) : ordD a c = true := by
  unfold ordD at *
  rw [Bool.not_eq_true'] at *
  unfold PySem.W.dataLt at *
  cases e : PyProof.Rows.lexLt itemOrd (PySem.W.keyToks (pyD c)) (PySem.W.keyToks (pyD a)) with
  | false => rfl
  | true =>
    rcases lex_negTrans (O := itemOrd) _ (PySem.W.keyToks (pyD b)) _ e with z | z
    · exact absurd (g.symm.trans z) Bool.false_ne_true
    · exact absurd (h.symm.trans z) Bool.false_ne_true
theorem dLe_total {a b : D} : (ordD a b || ordD b a) = true := by
  unfold ordD PySem.W.dataLt
  cases e : PyProof.Rows.lexLt itemOrd (PySem.W.keyToks (pyD b)) (PySem.W.keyToks (pyD a)) with
  | false => rfl
  | true =>
    cases e2 : PyProof.Rows.lexLt itemOrd (PySem.W.keyToks (pyD a)) (PySem.W.keyToks (pyD b)) with
    | false => rfl
    | true =>
      have := lex_trans (O := itemOrd) _ _ _ e e2
      rw [lex_irrefl] at this
      cases this
theorem sortD_sorted (ds : List D) : (sortD ds).Pairwise fun a b => ordD a b = true := List.pairwise_mergeSort (fun a b c => dLe_trans (a := a) (b := b) (c := c)) (fun a b => dLe_total (a := a) (b := b)) ds
/-! ### tables whose keys are numbers or texts -/
def dInK (neg : Bool) : R2D := fun x y M Q => match keyD x, y with
  | some k, .ref a => match M a with
    | some (.dK kvs) => Q (.bl (if neg then !(valD kvs k).isSome else (valD kvs k).isSome)) M
    | _ => False
  | _, _ => False
def kKG1 (Q : QD) (x : D) : QD := fun y M2 => match x, keyD y with
  | .ref a, some k => match M2 a with
    | some (.dK kvs) => match valD kvs k with
      | some v => Q v M2
      | none => False
    | _ => False
  | _, _ => False
def dKGet (td tk : DE) : DE := fun τ M Q => td τ M fun x M1 => tk τ M1 (kKG1 Q x)
section
variable {X : Cx} {F0 : Bs}
theorem op_inK (neg : Bool) (hu : X.A.units + 1 < cLine) : OpR X (compareOp (if neg then .NotIn else .In)) (fun y x H Q => ∃ a o, x = .ref a ∧ DGet H a y o ∧ Q (.bl (if neg then !o.isSome else o.isSome)) H) := by
  intro pins s σ H y x v u Q I ry rx h
  obtain ⟨a, o, rfl, g, q⟩ := h
  cases rx
  cases neg with
  | false => exact d_in hu I g ry fun s' I' => ⟨.bl _, H, I', rfl, q⟩
  | true => exact d_notIn hu I g ry fun s' I' => ⟨.bl _, H, I', rfl, q⟩
theorem dget_rep {K : PySem.W.Frag} {F R H : Hp} {M : Mp} {a : Addr} {y : V} {d : D} {k : Key} {kds : List (Key × D)} (st : Stt K F R H M) (r : Rep K F y d) (e : keyD d = some k) (h : M a = some (.dK kds)) : ∃ kvs, DGet H a y (valV kvs k) ∧ RepKV K F kvs kds := by
  obtain ⟨kvs, hk, rk⟩ := st.dK h
  rw [r.key e]
  exact ⟨kvs, .inl ⟨kvs, k, .inl hk, rfl, rfl⟩, rk⟩
theorem od_inK (hu : X.A.units + 64 < cLine) : OpD X F0 (compareOp .In) (dInK false) := by
  refine opImp (op_inK false (by omega)) fun y x H Q ⟨F, R, M, d, e, Q', e0, st, rd, re, q, k⟩ => ?_
  unfold dInK at q
  split at q <;> try exact q.elim
  rename_i kk a h1
  split at q <;> try exact q.elim
  rename_i kds h2
  cases re
  obtain ⟨kvs, g, rk⟩ := dget_rep st rd h1 h2
  refine ⟨a, _, rfl, g, ?_⟩
  rw [rk.some kk]
  exact k _ _ _ _ _ Ext.refl st (.bl _) q
theorem od_notInK (hu : X.A.units + 64 < cLine) : OpD X F0 (compareOp .NotIn) (dInK true) := by
  refine opImp (op_inK true (by omega)) fun y x H Q ⟨F, R, M, d, e, Q', e0, st, rd, re, q, k⟩ => ?_
  unfold dInK at q
  split at q <;> try exact q.elim
  rename_i kk a h1
  split at q <;> try exact q.elim
  rename_i kds h2
  cases re
  obtain ⟨kvs, g, rk⟩ := dget_rep st rd h1 h2
  refine ⟨a, _, rfl, g, ?_⟩
  rw [rk.some kk]
  exact k _ _ _ _ _ Ext.refl st (.bl _) q
theorem pd_kget {o i : Expr} {pos : Pos} {td ty : DE} (hu : X.A.units + 64 < cLine) (ho : PE X o (liE X.K F0 td)) (hi : PE X i (liE X.K F0 ty)) (hs : NoSl i) : PE X (.Subscript o i pos) (liE X.K F0 (dKGet td ty)) := by
  refine peImp (pe_dget (by omega) ho hi hs) fun σ H Q ⟨F, R, τ, M, Q', e0, st, sl, q, k⟩ => ?_
  refine ⟨F, R, τ, M, _, e0, st, sl, q, fun v H1 F1 d M1 e1 st1 r1 q1 => ?_⟩
  refine ⟨F1, R, τ, M1, _, e0.trans e1, st1, sl.ext e1, q1, fun v2 H2 F2 d2 M2 e2 st2 r2 q2 => ?_⟩
  unfold kKG1 at q2
  split at q2 <;> try exact q2.elim
  rename_i a kk h1
  split at q2 <;> try exact q2.elim
  rename_i kds h2
  split at q2 <;> try exact q2.elim
  rename_i dv h3
  cases r1
  obtain ⟨kvs, g, rk⟩ := dget_rep st2 r2 h1 h2
  obtain ⟨v, hv, rv⟩ := rk.get h3
  rw [hv] at g
  exact ⟨a, v, rfl, g, k _ _ _ _ _ (e1.trans e2) st2 rv q2⟩
/-- a list times a number -/
def dRepL : R2D := fun x y M Q => match x, y with
  | .lst xs, .int k => -(2 ^ 63) ≤ k ∧ k < 2 ^ 63 ∧ xs.length * k.toNat ≤ sizeLine ∧ Q (.lst (List.replicate k.toNat xs).flatten) M
  | _, _ => False
theorem od_repL : OpD X F0 (binaryOp .Mult) dRepL := by
  intro pins s σ H x y v u Q I rx ry ⟨F, R, M, d, e, Q', e0, st, rd, re, q, k⟩
  unfold dRepL at q
  split at q
  · rename_i xs i
    obtain ⟨a, vs, rfl, g1, ra⟩ := lt_get (ds := xs) st rd rfl
    cases re
    exact op_rep pins s σ H _ _ v u Q I rx ry ⟨a, _, vs, rfl, rfl, g1, q.1, q.2.1, by rw [ra.len]; exact q.2.2.1, fun p hp => k.lst st hp (ra.reps _) q.2.2.2⟩
  · exact q.elim
end
/-! steps -/
section
variable {τ : SD} {M : Mp} {Q : QD} {td tk : DE} {te : DE}
theorem s_inK {neg : Bool} {x : D} {a : Addr} {k : Key} {kvs : List (Key × D)} (e : keyD x = some k) (hm : M a = some (.dK kvs)) (h : Q (.bl (if neg then !(valD kvs k).isSome else (valD kvs k).isSome)) M) : dInK neg x (.ref a) M Q := by
  unfold dInK; simp only [e, hm]; exact h
theorem s_kget (h : td τ M fun x M1 => tk τ M1 (kKG1 Q x)) : dKGet td tk τ M Q := h
theorem s_kkg {a : Addr} {y : D} {k : Key} {kvs : List (Key × D)} {v : D} (e : keyD y = some k) (hm : M a = some (.dK kvs)) (hv : valD kvs k = some v) (h : Q v M) : kKG1 Q (.ref a) y M := by
  unfold kKG1; simp only [e, hm, hv]; exact h
theorem s_repL {xs : List D} {k : Int} (e1 : -(2 ^ 63) ≤ k) (e2 : k < 2 ^ 63) (e3 : xs.length * k.toNat ≤ sizeLine) (h : Q (.lst (List.replicate k.toNat xs).flatten) M) : dRepL (.lst xs) (.int k) M Q := ⟨e1, e2, e3, h⟩
def kKeyK (QK : Key → Mp → Prop) : QD := fun d M1 => match keyD d with
  | some k => QK k M1
  | none => False
theorem s_keyK {QK : Key → Mp → Prop} (h : te τ M (kKeyK QK)) : dKeyK te τ M QK := h
theorem s_kkeyK {QK : Key → Mp → Prop} {d : D} {k : Key} (e : keyD d = some k) (h : QK k M) : kKeyK QK d M := by unfold kKeyK; simp only [e]; exact h
end
end DL

namespace DL
open PySem PySem.Spec PyProof.Rows L2
/-! ### list + list, sorted: to be changed in place -/
def dAddM : R2D := fun x y M Q => match ltOf M x, ltOf M y with
  | some xs, some ys => xs.length + ys.length ≤ sizeLine ∧ ∀ p, M p = none → Q (.ref p) (updM M p (.lst (xs ++ ys)))
  | _, _ => False
def dSortedDM : RC := fun ds M Q => match ds with
  | [x] => match lsOf M x with
    | some es => SortOk es ∧ ∀ p, M p = none → Q (.ref p) (updM M p (.lst (sortD es)))
    | none => False
  | _ => False
section
variable {X : Cx} {F0 : Bs}
theorem od_addM : OpD X F0 (binaryOp .Add) dAddM := by
  intro pins s σ H x y v u Q I rx ry ⟨F, R, M, d, e, Q', e0, st, rd, re, q, k⟩
  unfold dAddM at q
  split at q
  · rename_i xs ys h1 h2
    obtain ⟨a, vs, rfl, g1, ra⟩ := lt_get st rd h1
    obtain ⟨b, us, rfl, g2, rb⟩ := lt_get st re h2
    exact op_cat pins s σ H _ _ v u Q I rx ry ⟨a, b, vs, us, rfl, rfl, g1, g2, by rw [ra.len, rb.len]; exact q.1, fun p hp => k.own st hp (m := .lst _) (ra.app rb) (q.2 p)⟩
  · exact q.elim
theorem cd_sortedDM (hu : X.A.units + 64 < cLine) : CallR X (.builtin "sorted") (liC X.K F0 dSortedDM) := by
  refine caImp (cr_sortedD hu) fun xs H Q ⟨F, R, M, ds, Q', e0, st, ra, q, k⟩ => ?_
  unfold dSortedDM at q
  split at q <;> try exact q.elim
  obtain ⟨x, rfl, r⟩ := rep1 ra
  split at q <;> try exact q.elim
  rename_i es h1
  obtain ⟨a, vs, rfl, hs, rv⟩ := ls_get st r h1
  obtain ⟨q1, q2⟩ := q
  refine ⟨a, vs, es.map pyD, rfl, hs, RepAll.dps st.fz _ _ _ rv (pyAll_map q1.py), q1.mix, fun p hp => ?_⟩
  have hl := rv.len
  have e1 : vs.zip (es.map pyD) = (vs.zip es).map (Prod.map id pyD) := by rw [List.zip_map_right]
  have e2 : ((vs.zip es).mergeSort fun a b => ordD a.2 b.2).map (Prod.map id pyD) = ((vs.zip es).map (Prod.map id pyD)).mergeSort mixLe := List.map_mergeSort fun a _ b _ => rfl
  have e3 : ((vs.zip es).mergeSort fun a b => ordD a.2 b.2).map Prod.snd = sortD es := by
    unfold sortD
    rw [List.map_mergeSort (s := ordD) (fun a _ b _ => rfl), List.map_snd_zip (Nat.le_of_eq hl.symm)]
  have e4 : ((vs.zip (es.map pyD)).mergeSort mixLe).map Prod.fst = ((vs.zip es).mergeSort fun a b => ordD a.2 b.2).map Prod.fst := by
    rw [e1, ← e2, List.map_map]; rfl
  rw [e4]
  have rr : RepAll X.K F (((vs.zip es).mergeSort fun a b => ordD a.2 b.2).map Prod.fst) (sortD es) := by
    rw [← e3]
    exact repAll_unzip fun p hp => repAll_zip rv p ((List.mergeSort_perm _ _).mem_iff.mp hp)
  exact k.own st hp (m := .lst _) rr (q2 p)
/-! ### str(a number), sep.join(..) -/
def dStrI : RC := fun ds M Q => match ds with
  | [.int i] => i.natAbs.log2 < 1920 ∧ Q (.str (toString i)) M
  | _ => False
theorem cd_strI : CallR X (.type "str") (liC X.K F0 dStrI) := by
  refine caImp call_str_int fun xs H Q ⟨F, R, M, ds, Q', e0, st, ra, q, k⟩ => ?_
  unfold dStrI at q
  split at q <;> try exact q.elim
  obtain ⟨x, rfl, r⟩ := rep1 ra
  cases r
  exact ⟨_, rfl, q.1, k _ _ _ _ _ Ext.refl st (.str _) q.2⟩
def kJn2 (a : Str) (Q : QD) : QD := fun y M2 => match sqOf M2 y with
  | some es => match strsOf es with
    | some ys => (ys.map (·.length)).sum + ys.length * a.length ≤ 16777216 ∧ Q (.str (Txt.join a ys)) M2
    | none => False
  | none => False
def kJn1 (te : DE) (τ : SD) (Q : QD) : QD := fun x M1 => match x with
  | .str a => te τ M1 (kJn2 a Q)
  | _ => False
def dJoin (to te : DE) : DE := fun τ M Q => to τ M (kJn1 te τ Q)
theorem pd_join {o e : Expr} {to te : DE} {apos pos : Pos} (ho : PE X o (liE X.K F0 to)) (he : PE X e (liE X.K F0 te)) (hs : starEach [e] X.env = [(false, eval e X.env)] := by rfl) (hbase : attributeBase o "join" X.env (eval o X.env) = eval o X.env := by rfl) (hline : (apos.endLine == pos.line) = true := by rfl) :
    PE X (.Call (.Attribute o "join" apos) [e] [] pos) (liE X.K F0 (dJoin to te)) := by
  refine peImp (pe_join ho he hs hbase hline) fun σ H Q ⟨F, R, τ, M, Q', e0, st, sl, q, k⟩ => ?_
  refine ⟨F, R, τ, M, _, e0, st, sl, q, fun v H1 F1 d M1 e1 st1 r1 q1 => ?_⟩
  unfold kJn1 at q1
  split at q1 <;> try exact q1.elim
  rename_i a
  cases r1
  refine ⟨⟨a, rfl⟩, F1, R, τ, M1, _, e0.trans e1, st1, sl.ext e1, q1, fun v2 H2 F2 d2 M2 e2 st2 r2 q2 => ?_⟩
  unfold kJn2 at q2
  split at q2 <;> try exact q2.elim
  rename_i es h1
  split at q2 <;> try exact q2.elim
  rename_i ys h2
  obtain ⟨p, xs, rfl, hp, ra⟩ := sq_get st2 r2 h1
  rw [ra.ofStrs h2] at hp
  exact ⟨a, p, ys, rfl, rfl, hp, q2.1, k _ _ _ _ _ (e1.trans e2) st2 (.str _) q2.2⟩
/-! ### {'a': .., ..}, d['a'] = .. -/
theorem Stt.asideN {K : PySem.W.Frag} {F R H : Hp} {M : Mp} {L : Addr} {o : HO} (s : Stt K F R H M) (hL : H L = none) (h : Pln o) : Stt K F (upd R L o) (upd H L o) M ∧ R L = none ∧ M L = none := by
  have rL : R L = none := by
    cases z : R L with
    | none => rfl
    | some u => exact ((s.rs L u z).1.there hL).elim
  have fL : F L = none := by
    cases z : F L with
    | none => rfl
    | some u => have := s.fz L u z; rw [hL] at this; cases this
  have mL : M L = none := by
    cases z : M L with
    | none => rfl
    | some u => obtain ⟨_, v, hv, _⟩ := s.ow L u z; rw [hL] at hv; cases hv
  refine ⟨⟨fun a u e => ?_, fun a u e => ?_, fun a m e => ?_, s.nf, fun a u e => ?_⟩, rL, mL⟩
  rotate_left 3
  · by_cases z : a = L
    · subst z; rw [upd_same] at e; cases e; exact h.nx
    · rw [upd_ne z] at e; exact s.nr a u e
  · rw [upd_ne (ne_of_none e fL)]; exact s.fz _ _ e
  · by_cases z : a = L
    · subst z; rw [upd_same] at e; cases e; exact ⟨h.sr _ _ upd_same, fL, mL⟩
    · rw [upd_ne z] at e
      obtain ⟨h1, h2, h3⟩ := s.rs a u e
      exact ⟨h1.step (fun b v n eb => by rw [upd_ne n]; exact eb) z (fun c y => by rw [hL] at y; cases y), h2, h3⟩
  · have z : a ≠ L := fun z => by subst z; rw [mL] at e; cases e
    rw [upd_ne z]; exact s.ow a m e
def kPr2 (k : Key) (Q : List (Key × D) → Mp → Prop) (rest : Mp → (List (Key × D) → Mp → Prop) → Prop) : QD := fun y M2 => rest M2 fun ps M3 => Q ((k, y) :: ps) M3
def dPairs : List (DE × DE) → SD → Mp → (List (Key × D) → Mp → Prop) → Prop
  | [], _, M, Q => Q [] M
  | (tk, tv) :: r, τ, M, Q => tk τ M fun x M1 => match keyD x with
    | some k => tv τ M1 (kPr2 k Q (dPairs r τ))
    | none => False
def mergeD (kvs more : List (Key × D)) : List (Key × D) := more.foldl (fun acc kv => putD acc kv.1 kv.2) kvs
theorem RepKV.merge {K : PySem.W.Frag} {F : Hp} {more : List (Key × V)} {mo : List (Key × D)} (r : RepKV K F more mo) : ∀ {kvs : List (Key × V)} {kds : List (Key × D)}, RepKV K F kvs kds → RepKV K F (mergeK kvs more) (mergeD kds mo) := by
  unfold RepKV at r
  induction r with
  | nil => intro kvs kds r0; exact r0
  | @cons p q ps qs h t ih =>
    intro kvs kds r0
    have e := RepKV.put r0 p.1 h.2
    rw [h.1] at e
    exact ih (by show RepKV K F (putK kvs p.1 p.2) (putD kds q.1 q.2); rw [h.1]; exact e)
theorem li_pairs {K : PySem.W.Frag} : ∀ {trs : List (DE × DE)} {σ : L2.St} {H : Hp} {F R : Hp} {τ : SD} {M : Mp} {Q' : List (Key × D) → Mp → Prop} {Q : List (V × V) → Hp → Prop}, Bas F0 F R → Stt K F R H M → Slots K F σ τ → dPairs trs τ M Q' →
    (∀ kvs kds H2 F2 M2, Ext F F2 → Stt K F2 R H2 M2 → RepKV K F2 kvs kds → Q' kds M2 → Q (kvs.map fun kv => (kV kv.1, kv.2)) H2) → tPairs (trs.map fun t => (liE K F0 t.1, liE K F0 t.2)) σ H Q
  | [], σ, H, F, R, τ, M, Q', Q, e0, st, sl, h, k => k [] [] _ _ _ Ext.refl st .nil h
  | (tk, tv) :: trs, σ, H, F, R, τ, M, Q', Q, e0, st, sl, h, k => by
    refine ⟨F, R, τ, M, _, e0, st, sl, h, fun v H1 F1 d M1 e1 st1 r1 q1 => ?_⟩
    split at q1 <;> try exact q1.elim
    rename_i ky hk
    refine ⟨F1, R, τ, M1, _, e0.trans e1, st1, sl.ext e1, q1, fun v2 H2 F2 d2 M2 e2 st2 r2 q2 => ?_⟩
    refine li_pairs (e0.trans (e1.trans e2)) st2 (sl.ext (e1.trans e2)) q2 fun kvs kds H3 F3 M3 e3 st3 rk q3 => ?_
    have z := k ((ky, v2) :: kvs) ((ky, d2) :: kds) H3 F3 M3 (e1.trans (e2.trans e3)) st3 (.cons ⟨rfl, r2.ext e3⟩ rk) q3
    rw [r1.key hk]
    exact z
def dDisp (trs : List (DE × DE)) : DE := fun τ M Q => dPairs trs τ M fun kvs M1 => kvs.length ≤ 15 ∧ ∀ p, M1 p = none → Q (.ref p) (updM M1 p (.dK (mergeD [] kvs)))
theorem li_disp {trs : List (DE × DE)} {σ : L2.St} {H : Hp} {Q : VK} (h : liE X.K F0 (dDisp trs) σ H Q) : tDisp (trs.map fun t => (liE X.K F0 t.1, liE X.K F0 t.2)) σ H Q := by
  obtain ⟨F, R, τ, M, Q', e0, st, sl, q, k⟩ := h
  intro p hp
  obtain ⟨st1, rp, mp⟩ := st.asideN hp pln_dK
  have b1 : Bas F0 F (upd R p (.dK [])) := ⟨e0.f, e0.r.trans fun a u e => by rw [upd_ne (ne_of_none e rp)]; exact e, e0.t.ext fun a u e => by rw [upd_ne (ne_of_none e rp)]; exact e⟩
  refine li_pairs b1 st1 sl q fun kvs kds H2 F2 M2 e2 st2 rk ⟨q1, q2⟩ => ?_
  have h2 := (st2.rs p _ upd_same).1
  refine ⟨pln_dK.rs _ _ h2, kvs, rfl, by rw [Paired.length rk]; exact q1, ?_⟩
  have s3 := (st2.reputG (o' := .dK (mergeK [] kvs)) pln_dK pln_dK).reownG (m := .dK (mergeD [] kds)) pln_dK rp (rk.merge .nil)
  exact k _ _ _ _ _ e2 s3 (.ref p) (q2 p (st2.rs p _ upd_same).2.2)
abbrev DPs (X : Cx) (F0 : Bs) (pos : Pos) (keys : List (Option Expr)) (values : List Expr) (trs : List (DE × DE)) : Prop := PPs X pos keys values (trs.map fun t => (liE X.K F0 t.1, liE X.K F0 t.2))
theorem dps_nil {pos : Pos} : DPs X F0 pos [] [] [] := pps_nil
theorem dps_cons {pos : Pos} {k v : Expr} {ks : List (Option Expr)} {vs : List Expr} {tk tv : DE} {trs : List (DE × DE)} (hk : PE X k (liE X.K F0 tk)) (hv : PE X v (liE X.K F0 tv)) (hr : DPs X F0 pos ks vs trs) : DPs X F0 pos (some k :: ks) (v :: vs) ((tk, tv) :: trs) := pps_cons hk hv hr
theorem pd_disp {pos : Pos} {keys : List (Option Expr)} {values : List Expr} {trs : List (DE × DE)} (h : DPs X F0 pos keys values trs) (hall : keys.all (·.isSome) = true := by rfl) (hl : keys.length = values.length := by rfl) (h0 : keys ≠ [] := by (intro z; cases z))
    (h15 : keys.length ≤ 15 := by decide) : PE X (.Dict keys values pos) (liE X.K F0 (dDisp trs)) := peImp (pe_disp h hall hl h0 h15) fun _ _ _ z => li_disp z
def kPt3 (nx : SD → Mp → Prop) (τ : SD) (v x : D) : QD := fun y M3 => match x, keyD y with
  | .ref a, some k => match M3 a with
    | some (.dK kvs) => kvs.length < sizeLine ∧ nx τ (updM M3 a (.dK (putD kvs k v)))
    | _ => False
  | _, _ => False
def kPt2 (tk : DE) (nx : SD → Mp → Prop) (τ : SD) (v : D) : QD := fun x M2 => tk τ M2 (kPt3 nx τ v x)
def kPt1 (td tk : DE) (nx : SD → Mp → Prop) (τ : SD) : QD := fun v M1 => td τ M1 (kPt2 tk nx τ v)
def dDPut (td tk tv : DE) : DS := fun D τ M => tv τ M (kPt1 td tk D.nx τ)
theorem sd_dput {o i value : Expr} {pos pos' : Pos} {td tk tv : DE} (hu : X.A.units + 64 < cLine) (hv : PE X value (liE X.K F0 tv)) (ho : PE X o (liE X.K F0 td)) (hi : PE X i (liE X.K F0 tk)) (hs : swapsWith value (some (.Subscript o i pos')) pos.line X.env = pure false := by rfl) :
    PS X (.Assign [.Subscript o i pos'] value pos) (liS X.K F0 (dDPut td tk tv)) := by
  refine psImp (ps_dput (by omega) ho hi hv hs) fun D σ H ⟨F, R, τ, M, D', e0, st, sl, q, k⟩ => ?_
  refine ⟨F, R, τ, M, _, e0, st, sl, q, fun v H1 F1 d M1 e1 st1 r1 q1 => ?_⟩
  refine ⟨F1, R, τ, M1, _, e0.trans e1, st1, sl.ext e1, q1, fun v2 H2 F2 d2 M2 e2 st2 r2 q2 => ?_⟩
  refine ⟨F2, R, τ, M2, _, e0.trans (e1.trans e2), st2, sl.ext (e1.trans e2), q2, fun v3 H3 F3 d3 M3 e3 st3 r3 q3 => ?_⟩
  unfold kPt3 at q3
  split at q3 <;> try exact q3.elim
  rename_i a kk h1
  split at q3 <;> try exact q3.elim
  rename_i kds h2
  obtain ⟨q3, q4⟩ := q3
  cases r2
  obtain ⟨_, o, ho, ro⟩ := st3.ow _ _ h2
  cases o <;> try exact ro.elim
  rename_i kvs
  rw [r3.key h1]
  refine ⟨a, _, rfl, DPut.k ho (by rw [Paired.length ro]; exact q3), ?_⟩
  have ro' : RepKV X.K F3 kvs kds := ro
  exact k.nx _ _ _ _ _ (e1.trans (e2.trans e3)) (st3.store h2 (fun _ z => by cases z) (m' := .dK (putD kds kk d)) (ro'.put kk (r1.ext (e2.trans e3)))) (sl.ext (e1.trans (e2.trans e3))) q4
end
/-! steps -/
section
variable {τ : SD} {M : Mp} {Q : QD} {to te td tk tv : DE} {nx : SD → Mp → Prop} {rt : QD} {bk ct : SD → Mp → Prop}
theorem s_addM {x y : D} {xs ys : List D} (e1 : ltOf M x = some xs) (e2 : ltOf M y = some ys) (hl : xs.length + ys.length ≤ sizeLine) (h : ∀ p, M p = none → Q (.ref p) (updM M p (.lst (xs ++ ys)))) : dAddM x y M Q := by
  unfold dAddM; simp only [e1, e2]; exact ⟨hl, h⟩
theorem s_sortedDM {x : D} {es : List D} (e : lsOf M x = some es) (h : SortOk es) (q : ∀ p, M p = none → Q (.ref p) (updM M p (.lst (sortD es)))) : dSortedDM [x] M Q := by
  unfold dSortedDM; simp only [e]; exact ⟨h, q⟩
theorem s_strOf {i : Int} (e : i.natAbs.log2 < 1920) (h : Q (.str (toString i)) M) : dStrI [.int i] M Q := ⟨e, h⟩
theorem s_join (h : to τ M (kJn1 te τ Q)) : dJoin to te τ M Q := h
theorem s_kjn1 {a : Str} (h : te τ M (kJn2 a Q)) : kJn1 te τ Q (.str a) M := h
theorem s_kjn2 {a : Str} {y : D} {es : List D} {ys : List Str} (e1 : sqOf M y = some es) (e2 : strsOf es = some ys) (hl : (ys.map (·.length)).sum + ys.length * a.length ≤ 16777216) (h : Q (.str (Txt.join a ys)) M) : kJn2 a Q y M := by
  unfold kJn2; simp only [e1, e2]; exact ⟨hl, h⟩
def kDs (Q : QD) : List (Key × D) → Mp → Prop := fun kvs M1 => kvs.length ≤ 15 ∧ ∀ p, M1 p = none → Q (.ref p) (updM M1 p (.dK (mergeD [] kvs)))
theorem s_disp {trs : List (DE × DE)} (h : dPairs trs τ M (kDs Q)) : dDisp trs τ M Q := h
theorem s_kds {kvs : List (Key × D)} (e : kvs.length ≤ 15) (h : ∀ p, M p = none → Q (.ref p) (updM M p (.dK (mergeD [] kvs)))) : kDs Q kvs M := ⟨e, h⟩
theorem s_pr0 {QP : List (Key × D) → Mp → Prop} (h : QP [] M) : dPairs [] τ M QP := h
theorem s_pr {QP : List (Key × D) → Mp → Prop} {r : List (DE × DE)} {d : D} {k : Key} (e : keyD d = some k) (h : tv τ M (kPr2 k QP (dPairs r τ))) : dPairs ((dC d, tv) :: r) τ M QP := by
  show dC d τ M _
  show (match keyD d with | some k => tv τ M (kPr2 k QP (dPairs r τ)) | none => False)
  rw [e]; exact h
def kPrC (k : Key) (y : D) (QP : List (Key × D) → Mp → Prop) : List (Key × D) → Mp → Prop := fun ps M3 => QP ((k, y) :: ps) M3
theorem s_kpr2 {k : Key} {QP : List (Key × D) → Mp → Prop} {r : List (DE × DE)} {y : D} (h : dPairs r τ M (kPrC k y QP)) : kPr2 k QP (dPairs r τ) y M := h
theorem s_kprc {k : Key} {y : D} {QP : List (Key × D) → Mp → Prop} {ps : List (Key × D)} (h : QP ((k, y) :: ps) M) : kPrC k y QP ps M := h
theorem s_dput (h : tv τ M (kPt1 td tk nx τ)) : dDPut td tk tv ⟨nx, rt, bk, ct⟩ τ M := h
theorem s_kpt1 {v : D} (h : td τ M (kPt2 tk nx τ v)) : kPt1 td tk nx τ v M := h
theorem s_kpt2 {v x : D} (h : tk τ M (kPt3 nx τ v x)) : kPt2 tk nx τ v x M := h
theorem s_kpt3 {v y : D} {a : Addr} {k : Key} {kvs : List (Key × D)} (e : keyD y = some k) (hm : M a = some (.dK kvs)) (hl : kvs.length < sizeLine) (h : nx τ (updM M a (.dK (putD kvs k v)))) : kPt3 nx τ v (.ref a) y M := by
  unfold kPt3; simp only [e, hm]; exact ⟨hl, h⟩
end
end DL

namespace DL
open PySem PySem.Spec PyProof.Rows L2
/-! ### errors with a field: class X: def __init__(self, y): self.f = y -/
/-- the promise of such an __init__ -/
def spIni (K : PySem.W.Frag) (f : Str) : Sp := fun vs H Q _ => ∃ (a C : Addr) (v : V), vs = [.ref a, v] ∧ OexC K C ∧ PySem.W.findIn K (.ref C) f = some none ∧ H a = some (exo a C none) ∧
  ∀ dx, H dx = none → dx ≠ a → Q .non (upd (upd H dx (exd dx [(f, v)])) a (exo a C (some dx)))
section
variable {P : Program} {w : World} {K : PySem.W.Frag} {mg : Str → Option Value} {base : Heap}
theorem ok_ini {x qual : Str} {st : Stmt} {fI : Addr} {fd : FuncData} {y f : Str} {p p1 p' pos : Pos} (F : Fun K x qual st fI fd) (S : FnScope ["self", y] ["self", y] (defScope st))
    (hb : defBody st = [.Assign [.Attribute (.Name "self" p) f p'] (.Name y p1) pos])
    (hvs : Vis (defScope st) "self") (hvy : Vis (defScope st) y) (hd : (y == ("__debug__" : Str)) = false) (hcd : (y == ("__classdict__" : Str)) = false) :
    FnOk P w K mg base (L2.CX P w) 1 fI fd ["self", y] (spIni K f) := by
  refine F.okX S (fun vs H Q E ⟨a, C, v, e, _⟩ => by rw [e]; rfl) fun cdv A outer s H vs Q E hr ⟨a, C, v, e, T, hno, ea, q⟩ => ?_
  rw [hb]
  refine ⟨_, pss_one (ps_ost (pe_var (i := 0) rfl hvs (by decide) (by decide)) (pe_var (i := 1) rfl hvy hd hcd) rfl), ?_⟩
  subst e
  exact ⟨v, rfl, .ref a, rfl, a, C, rfl, T, hno, .inl ⟨ea, fun dx hn hne => q dx hn hne⟩⟩
end
/-- what is known of an own error's class with a field -/
structure ExcF (K : PySem.W.Frag) (mg : Str → Option Value) (n f qual y : Str) (st : Stmt) where
  c : Addr
  fI : Addr
  fd : FuncData
  g : mg n = some (.ref c)
  T : OexC K c
  no : PySem.W.findIn K (.ref c) f = some none
  iC : PySem.W.findIn K (.ref c) "__init__" = some (some (.ref fI))
  tI : PySem.W.typeIn K (.ref fI) = some (.type "function")
  F : Fun K "__init__" qual st fI fd
  b : Binds K fd ["self", y] []
  m : PySem.W.exmOne K (.ref c) (.ref c) = some true
  xf : XfC K c
  xi : ExcC K c
/-- the name of a class -/
structure ClsA (K : PySem.W.Frag) (mg : Str → Option Value) (n : Str) where
  c : Addr
  g : mg n = some (.ref c)
/-- a def of a class's body -/
def clsDef (s : Stmt) (i : Nat) : Stmt := match s with
  | .ClassDef _ _ _ b _ _ _ _ _ _ _ => b.getD i (.Pass ⟨0, 0, 0, 0⟩)
  | _ => .Pass ⟨0, 0, 0, 0⟩
/-- raise X(y) -/
def dRaiseO (c : Value) (f : Str) (t : DA) (E : XD) : DS := fun _ τ M => t τ M fun ds M1 => ∃ d, ds = [d] ∧ E c (some [(f, d)]) M1
section
variable {X : Cx} {F0 : Bs} {x f y : Str} {p pos pos2 : Pos} {Cc fI : Addr} {fd : FuncData} {cv : Value} {e : Expr} {es : List Expr} {t : DA} {k : Nat}
theorem pass_none : Passes (L2.CX X.prog X.w) X (fun _ _ _ => False) := fun _ _ _ _ _ _ _ ⟨_, _, _, _, _, _, _, _, _, _, _, _, z⟩ => z.elim
theorem sd_raiseO {E' : XD} {E : XK} (hE : ∀ e dx H, liX X.K F0 E' e dx H → E e dx H) (hc : X.calm = true) (tk : Takes X (fun cls d _ H => E cls d H)) (hv : cv = .ref Cc) (T : OexC X.K Cc) (hno : PySem.W.findIn X.K (.ref Cc) f = some none)
    (iC : PySem.W.findIn X.K (.ref Cc) "__init__" = some (some (.ref fI))) (tI : PySem.W.typeIn X.K (.ref fI) = some (.type "function")) (F1 : FnOk X.prog X.w X.K X.mg X.base (L2.CX X.prog X.w) k fI fd ["self", y] (spIni X.K f)) (hr : Room (k + 1) X.A) (hb : Binds X.K fd ["self", y] [])
    (hm : X.mg x = some (.ref Cc)) (hg : Gl X x) (ha : PA X (e :: es) (liA X.K F0 t))
    (hdb : (x == ("__debug__" : Str)) = false := by decide) (he : starEach (e :: es) X.env = (false, eval e X.env) :: starEach es X.env := by rfl) (hpl : (backTo pos (starEach es X.env)).any (·.1) = false := by rfl) :
    PS X (.Raise (some (.Call (.Name x p) (e :: es) [] pos)) none pos2) (liS X.K F0 (dRaiseO cv f t E')) := by
  subst hv
  refine psImp (ps_raise hc tk (pmk_oex T iC tI F1 hr hb .nil pass_none hg hm ha hdb he hpl)) fun D σ H ⟨F, R, τ, M, D', e0, st, sl, q, k⟩ => ?_
  refine ⟨F, R, τ, M, _, e0, st, sl, q, fun vs H1 F1 ds M1 e1 st1 r1 q1 => ?_⟩
  obtain ⟨d, rfl, q1⟩ := q1
  obtain ⟨v, rfl, r⟩ := rep1 r1
  refine ⟨by simp, fun a na => ⟨a, Cc, v, rfl, T, hno, upd_same, fun dx hn hne => ?_⟩⟩
  have h1 : H1 dx = none := by rw [upd_ne hne] at hn; exact hn
  refine ⟨rfl, dx, [(f, v)], upd_same, by rw [upd_ne hne]; exact upd_same, h1, ?_⟩
  have eh : upd (del (upd (upd (upd H1 a (exo a Cc none)) dx (exd dx [(f, v)])) a (exo a Cc (some dx))) a) dx (.xd [(f, v)]) = upd H1 dx (.xd [(f, v)]) := by
    funext b
    by_cases hb : b = dx
    · rw [hb, upd_same, upd_same]
    · rw [upd_ne hb, upd_ne hb]
      by_cases hz : b = a
      · rw [hz, del_same, na]
      · rw [del_ne hz, upd_ne hz, upd_ne hb, upd_ne hz]
  rw [eh]
  obtain ⟨st2, e2⟩ := st1.freeze h1 (o := .xd [(f, v)])
  exact hE _ _ _ ⟨_, R, M1, some [(f, d)], e0.trans (e1.trans e2), st2, ⟨[(f, v)], upd_same, .cons ⟨rfl, r.ext e2⟩ .nil⟩, q1⟩
end
/-! ### try .. except X as e -/
def dTryAs (i : Nat) (tb : (SD → XD) → DS) (c : Value) (ts : Addr → Option (List (Str × D)) → DS) : DS := fun D τ M => tb (fun τ' e fs M' => e = c ∧ ∀ a, ts a fs ⟨fun τ2 M2 => D.nx (τ2.set i none) M2, D.rt, fun τ2 M2 => D.bk (τ2.set i none) M2, fun τ2 M2 => D.ct (τ2.set i none) M2⟩ (τ'.set i (some (.ref a))) M') D τ M
theorem slots_set {K : PySem.W.Frag} {F : Hp} {v : Option V} {d : Option D} (r : RepS K F v d) : ∀ {σ : L2.St} {τ : SD} (i : Nat), Slots K F σ τ → Slots K F (σ.set i v) (τ.set i d)
  | _, _, _, .nil => .nil
  | _, _, 0, .cons _ t => .cons r t
  | _, _, i + 1, .cons q t => .cons q (slots_set r i t)
section
variable {X : Cx} {F0 : Bs} {x n : Str} {Cc : Addr} {cv : Value} {i : Nat} {body suite : List Stmt} {b₀ : Stmt} {np pos pos' : Pos} {tb : (SD → XD) → DS} {ts : Addr → Option (List (Str × D)) → DS}
theorem sd_tryAs (hs : X.stack = X.env :: X.outer) (hf : X.env.frame = some X.env.locals) (hN : X.N.Nodup) (hi : X.N[i]? = some n) (hln : X.env.kindOf n = some .local) (hv : cv = .ref Cc) (hc : Names X x (.ref Cc)) (hcc : PySem.W.exmOne X.K (.ref Cc) (.ref Cc) = some true)
    (hb : ∀ (W : WX) (pn : List (Addr × Obj)) (xe : Value → Shared → Prop) (FF RR : Hp) (E' : SD → XD), (∀ e dx σ H, liXS X.K ⟨FF, RR, F0.T⟩ E' e dx σ H → W e dx σ H) → Takes (X.tr pn xe) W → PSs (X.tr pn xe) body (liS X.K ⟨FF, RR, F0.T⟩ (tb E')))
    (hsu : ∀ (a : Addr) (oe : Obj) (d : Option Addr) (pn : List (Addr × Obj)) (FF RR : Hp) (fs : Option (List (Str × D))), Zc (.ref Cc) d oe → (∃ vs, oe.data = .fields vs) → RepX X.K FF FF d fs → PSs (X.suite a ((a, oe) :: pn)) (b₀ :: suite) (liS X.K ⟨FF, RR, F0.T⟩ (ts a fs))) :
    PS X (.Try body [.ExceptHandler (some (.Name x np)) (some n) (b₀ :: suite) pos'] [] [] pos) (liS X.K F0 (dTryAs i tb cv ts)) := by
  subst hv
  refine ⟨fun pins s σ H D I ⟨F, R, τ, M, D', e0, st, sl, q, k⟩ => ?_⟩
  have T := ps_try_as (X := X) (x := x) (n := n) (np := np) (pos := pos) (pos' := pos') (body := body) (suite := suite) (b₀ := b₀) (i := i) (Wout := fun _ _ _ _ => False)
    (ts := fun a cls d D2 σ2 H2 => ∃ FF RR fs, cls = .ref Cc ∧ RepX X.K FF FF d fs ∧ liS X.K ⟨FF, RR, F0.T⟩ (ts a fs) D2 σ2 H2)
    (tb := fun W D2 σ2 H2 => D2 = D ∧ σ2 = σ ∧ H2 = H ∧ W = wAs X.K (.ref Cc) i (fun a cls d D2 σ2 H2 => ∃ FF RR fs, cls = .ref Cc ∧ RepX X.K FF FF d fs ∧ liS X.K ⟨FF, RR, F0.T⟩ (ts a fs) D2 σ2 H2) (fun _ _ _ _ => False) D) hs hf hN hi hln hc (fun _ _ z => by
      obtain ⟨_, _, _, _, _, _, _, _, _, _, _, _, _, _, _, _, z⟩ := z
      exact z.elim) (fun W pn xe tk _ => ⟨fun pins2 s2 σ2 H2 D2 I2 ⟨eD, eσ, eH, eW⟩ => ?_⟩) (fun a oe cls d pn hz hfl => ⟨fun pins2 s2 σ2 H2 D2 I2 ⟨FF, RR, fs, ec, rx, h2⟩ => ?_⟩)
  · exact T.run pins s σ H D I ⟨rfl, rfl, rfl, rfl⟩
  · subst eD eσ eH
    refine (hb W pn xe F R (fun τ' e fs M' => e = .ref Cc ∧ ∀ a, ts a fs ⟨fun τ2 M2 => D'.nx (τ2.set i none) M2, D'.rt, fun τ2 M2 => D'.bk (τ2.set i none) M2, fun τ2 M2 => D'.ct (τ2.set i none) M2⟩ (τ'.set i (some (.ref a))) M') (fun e dx σ3 H3 h3 => ?_) tk).run pins2 s2 σ2 H2 _ I2 ⟨F, R, τ, M, D', ⟨Ext.refl, Ext.refl, e0.t⟩, st, sl, q, k⟩
    obtain ⟨F3, R3, M3, fs, τ3, b3, st3, sl3, rx, rfl, q3⟩ := h3
    rw [eW]
    refine ⟨true, hcc, fun _ a _ => ⟨F3, R, fs, rfl, ?_, F3, R, τ3.set i (some (.ref a)), M3, _, ⟨Ext.refl, Ext.refl, e0.t⟩, st3.lessR b3.r, slots_set (show RepS X.K F3 (some (.ref a)) (some (.ref a)) from Rep.ref a) i sl3, q3 a, ?_⟩, fun z => by cases z⟩
    · cases dx with
      | none => cases fs <;> exact rx
      | some dd => cases fs <;> exact rx
    · exact ⟨fun σ4 H4 F4 τ4 M4 e4 st4 sl4 q4 => k.nx _ _ _ _ _ (b3.f.trans e4) st4 (slots_set (d := none) (by unfold RepS; trivial) i sl4) q4, fun v H4 F4 d4 M4 e4 st4 r4 q4 => k.rt _ _ _ _ _ (b3.f.trans e4) st4 r4 q4,
        fun σ4 H4 F4 τ4 M4 e4 st4 sl4 q4 => k.bk _ _ _ _ _ (b3.f.trans e4) st4 (slots_set (d := none) (by unfold RepS; trivial) i sl4) q4, fun σ4 H4 F4 τ4 M4 e4 st4 sl4 q4 => k.ct _ _ _ _ _ (b3.f.trans e4) st4 (slots_set (d := none) (by unfold RepS; trivial) i sl4) q4⟩
  · subst ec
    exact (hsu a oe d pn FF RR fs hz hfl rx).run pins2 s2 σ2 H2 D2 I2 h2
end
/-! ### e.f, isinstance(e, X) in the suite -/
def dXf (a : Addr) (fs : Option (List (Str × D))) (n : Str) (te : DE) : DE := fun τ M Q => te τ M fun x M1 => x = .ref a ∧ ∃ ff d, fs = some ff ∧ ff.lookup n = some d ∧ Q d M1
theorem repKV_fld {K : PySem.W.Frag} {F : Hp} {n : Str} : ∀ {vs : List (Str × V)} {fs : List (Str × D)} {d : D}, RepKV K F vs fs → fs.lookup n = some d → ∃ v, vs.lookup n = some v ∧ Rep K F v d
  | _, _, _, .nil, h => by cases h
  | (m, v) :: vs, (m', d') :: fs, d, .cons r t, h => by
    obtain ⟨r1, r2⟩ := r
    dsimp only at r1 r2
    subst r1
    unfold List.lookup at h ⊢
    by_cases e : n = m
    · have e' : (n == m) = true := beq_iff_eq.mpr e
      rw [e'] at h ⊢
      cases h
      exact ⟨v, rfl, r2⟩
    · have e' : (n == m) = false := beq_eq_false_iff_ne.mpr e
      rw [e'] at h ⊢
      exact repKV_fld t h
section
variable {X : Cx} {F0 : Bs} {a Cc C2 : Addr} {oe : Obj} {d : Option Addr} {fs : Option (List (Str × D))} {pn : List (Addr × Obj)} {e : Expr} {te : DE} {pos p1 p2 : Pos} {n x : Str} {cv : Value}
theorem pd_xf (T : XfC X.K Cc) (hno : PySem.W.findIn X.K (.ref Cc) n = some none) (hz : Zc (.ref Cc) d oe) (hf : ∃ vs, oe.data = .fields vs) (rx : RepX X.K F0.F F0.F d fs) (he : PE (X.suite a ((a, oe) :: pn)) e (liE X.K F0 te)) (hb : attributeBase e n X.env (eval e X.env) = eval e X.env := by rfl) :
    PE (X.suite a ((a, oe) :: pn)) (.Attribute e n pos) (liE X.K F0 (dXf a fs n te)) := by
  refine peImp (pe_xf T hno hz hf he hb) fun σ H Q ⟨F, R, τ, M, Q', e0, st, sl, q, k⟩ => ?_
  refine ⟨F, R, τ, M, _, e0, st, sl, q, fun v H1 F1 d1 M1 e1 st1 r1 hq => ?_⟩
  obtain ⟨q1, ff, dv, q2, q3, q4⟩ := hq
  subst q1 q2
  cases r1
  cases d with
  | none => exact rx.elim
  | some dd =>
    obtain ⟨vs, h1, h2⟩ := rx
    obtain ⟨v, l, r⟩ := repKV_fld h2 q3
    exact ⟨rfl, rfl, dd, vs, v, rfl, st1.fz _ _ ((e0.f.trans e1) _ _ h1), l, k _ _ _ _ _ e1 st1 (r.ext (e0.f.trans e1)) q4⟩
/-- the name of a class of the text -/
def dCls (cv : Value) : DE := fun _ M Q => ∀ c, cv = .ref c → Q (.ref c) M
theorem pd_cls (hm : X.mg x = some (.ref C2)) (hv : cv = .ref C2) (hg : Gl X x) (hdb : (x == ("__debug__" : Str)) = false := by decide) : PE X (.Name x pos) (liE X.K F0 (dCls cv)) := by
  subst hv
  refine ⟨fun pins s σ H Q I ⟨F, R, τ, M, Q', e0, st, sl, q, k⟩ => ?_⟩
  have q := q C2 rfl
  exact ld_glob I hg hm ⟨.ref C2, H, I, rfl, k _ _ _ _ _ Ext.refl st (.ref _) q⟩ hdb
def dIsE (a : Addr) (cv : Value) (b : Bool) : RC := fun ds M Q => ∃ c, ds = [.ref a, .ref c] ∧ cv = .ref c ∧ Q (.bl b) M
theorem cd_isE {b : Bool} (T : ExcC X.K Cc) (hz : Zc (.ref Cc) d oe) (hf : ∃ vs, oe.data = .fields vs) (rx : RepX X.K F0.F F0.F d fs) (hv : cv = .ref C2) (hk : PySem.W.kitOne X.K (.ref Cc) (.ref C2) = some b) :
    CallR (X.suite a ((a, oe) :: pn)) (.builtin "isinstance") (liC X.K F0 (dIsE a cv b)) := by
  subst hv
  intro pins s σ H xs us Q I r ⟨F, R, M, ds, Q', e0, st, rr, ⟨c, q1, q2, q⟩, k⟩
  cases q2
  subst q1
  obtain ⟨v1, v2, rfl, r1, r2⟩ := rep2 rr
  cases r1
  cases r2
  cases r with
  | cons ra rb =>
    cases rb with
    | cons rb rc =>
      cases rc
      cases ra
      cases rb
      obtain ⟨hget, _⟩ := I.pin (a, oe) (List.mem_append.mpr (.inl List.mem_cons_self))
      obtain ⟨vs, hd⟩ := hf
      have no : PySem.W.notCls oe = true := by unfold PySem.W.notCls; rw [hd] <;> rfl
      have fin : ∀ od, PySem.W.InstAt s.heap a oe Cc od → wpAny (model (X.suite a ((a, oe) :: pn)).prog (X.suite a ((a, oe) :: pn)).w) (X.suite a ((a, oe) :: pn)).A (call (.builtin "isinstance") [.ref a, .ref C2]) (EP (X.suite a ((a, oe) :: pn)) pins σ Q) (X.suite a ((a, oe) :: pn)).xe s := fun od J =>
        PySem.W.kia_one (PySem.W.kitx_exc (by obtain ⟨cd, hc, _⟩ := PySem.W.any_some T.hd; rw [hc]; rfl) T.hg T.hk T.hs T.ha T.hn T.ht T.hm) I.kIn J hk (fun z => nomatch z) fun tk => ⟨.bl b, H, I.kept (t' := tk) fun _ _ z => z, rfl, k _ _ _ _ _ Ext.refl st (.bl b) q⟩
      cases d with
      | none => exact fin none ⟨hget, hz.1, no, by rw [hz.2]; trivial⟩
      | some dd =>
        cases fs with
        | none => exact rx.elim
        | some ff =>
          obtain ⟨ws, h1, h2⟩ := rx
          have hx : ObjOk X.prog X.w H s.heap dd (.xd ws) := I.hok dd _ (st.fz _ _ (e0.f _ _ h1))
          obtain ⟨mA, hns, hr⟩ := hx
          obtain ⟨od, ho, hl⟩ := lookIn_ns hns
          exact fin (some od) ⟨hget, hz.1, no, by rw [hz.2]; exact ho⟩
end
/-! the steps -/
section
variable {nx bk ct : SD → Mp → Prop} {rt : QD} {τ : SD} {M : Mp} {E : XD} {De : EndsD} {Q : QD} {al : DA} {te : DE}
def kRsO (c : Value) (f : Str) (E : XD) : List D → Mp → Prop := fun ds M1 => ∃ d, ds = [d] ∧ E c (some [(f, d)]) M1
theorem s_raiseO {c : Value} {f : Str} (h : al τ M (kRsO c f E)) : dRaiseO c f al E De τ M := h
theorem s_krsO {c : Value} {f : Str} {d : D} (h : E c (some [(f, d)]) M) : kRsO c f E [d] M := ⟨d, rfl, h⟩
theorem s_tryAs {i : Nat} {tb : (SD → XD) → DS} {c : Value} {ts : Addr → Option (List (Str × D)) → DS} (h : tb (fun τ' e fs M' => e = c ∧ ∀ a, ts a fs ⟨fun τ2 M2 => nx (τ2.set i none) M2, rt, fun τ2 M2 => bk (τ2.set i none) M2, fun τ2 M2 => ct (τ2.set i none) M2⟩ (τ'.set i (some (.ref a))) M') ⟨nx, rt, bk, ct⟩ τ M) : dTryAs i tb c ts ⟨nx, rt, bk, ct⟩ τ M := h
def kXf (a : Addr) (fs : Option (List (Str × D))) (n : Str) (Q : QD) : QD := fun x M1 => x = .ref a ∧ ∃ ff d, fs = some ff ∧ ff.lookup n = some d ∧ Q d M1
theorem s_xf {a : Addr} {fs : Option (List (Str × D))} {n : Str} (h : te τ M (kXf a fs n Q)) : dXf a fs n te τ M Q := h
theorem s_kxf {a : Addr} {ff : List (Str × D)} {n : Str} {d : D} (e : ff.lookup n = some d) (h : Q d M) : kXf a (some ff) n Q (.ref a) M := ⟨rfl, ff, d, rfl, e, h⟩
theorem s_cls {cv : Value} (h : ∀ c, cv = .ref c → Q (.ref c) M) : dCls cv τ M Q := h
theorem s_isE {a c : Addr} {cv : Value} {b : Bool} (e : cv = .ref c) (h : Q (.bl b) M) : dIsE a cv b [.ref a, .ref c] M Q := ⟨c, rfl, e, h⟩
end
end DL

namespace DL
open PySem PySem.Spec PyProof.Rows L2
/-! ### a.partition(b) -/
def kPa2 (a : Str) (Q : QD) : QD := fun y M2 => match y with
  | .str b => (b.length == 0) = false ∧ a.length ≤ sizeLine ∧ Q (.tup [.str (Txt.partition a b).1, .str (Txt.partition a b).2.1, .str (Txt.partition a b).2.2]) M2
  | _ => False
def kPa1 (te : DE) (τ : SD) (Q : QD) : QD := fun x M1 => match x with
  | .str a => te τ M1 (kPa2 a Q)
  | _ => False
def dPart3 (to te : DE) : DE := fun τ M Q => to τ M (kPa1 te τ Q)
section
variable {X : Cx} {F0 : Bs}
theorem pd_partition {o e : Expr} {to te : DE} {apos pos : Pos} (ho : PE X o (liE X.K F0 to)) (he : PE X e (liE X.K F0 te)) (hs : starEach [e] X.env = [(false, eval e X.env)] := by rfl) (hbase : attributeBase o "partition" X.env (eval o X.env) = eval o X.env := by rfl) (hline : (apos.endLine == pos.line) = true := by rfl) :
    PE X (.Call (.Attribute o "partition" apos) [e] [] pos) (liE X.K F0 (dPart3 to te)) := by
  refine peImp (pe_partition ho he hs hbase hline) fun σ H Q ⟨F, R, τ, M, Q', e0, st, sl, q, k⟩ => ?_
  refine ⟨F, R, τ, M, _, e0, st, sl, q, fun v H1 F1 d M1 e1 st1 r1 q1 => ?_⟩
  unfold kPa1 at q1
  split at q1 <;> try exact q1.elim
  rename_i a
  cases r1
  refine ⟨⟨a, rfl⟩, F1, R, τ, M1, _, e0.trans e1, st1, sl.ext e1, q1, fun v2 H2 F2 d2 M2 e2 st2 r2 q2 => ?_⟩
  unfold kPa2 at q2
  split at q2 <;> try exact q2.elim
  rename_i b
  cases r2
  exact ⟨a, b, rfl, rfl, q2.1, q2.2.1, fun p hp => (k.ext (e1.trans e2)).tup st2 hp (.cons (.str _) (.cons (.str _) (.cons (.str _) .nil))) q2.2.2⟩
/-! ### int(a text) -/
def dIntS : RC := fun ds M Q => match ds with
  | [.str a] => ∃ n, PySem.intText? a = some n ∧ a.length ≤ 640 ∧ Q (.int n) M
  | _ => False
theorem cd_intS : CallR X (.type "int") (liC X.K F0 dIntS) := by
  refine caImp call_int_str fun xs H Q ⟨F, R, M, ds, Q', e0, st, ra, q, k⟩ => ?_
  unfold dIntS at q
  split at q <;> try exact q.elim
  obtain ⟨x, rfl, r⟩ := rep1 ra
  cases r
  obtain ⟨n, h1, h2, q⟩ := q
  exact ⟨_, n, rfl, h1, h2, k _ _ _ _ _ Ext.refl st (.int _) q⟩
/-! ### xs.index(a text), xs a list of texts -/
def isLs (M : Mp) (x : D) : Prop := (lsOf M x).isSome = true
def dIndexS : RM := fun x ds M Q => match ds with
  | [.str y] => ∃ (ys : List Str) (j : Nat), lsOf M x = some (ys.map D.str) ∧ ys[j]? = some y ∧ (∀ m, m < j → ys[m]? ≠ some y) ∧ Q (.int (j : Nat)) M
  | _ => False
def dMtLs (r : RM) (to : DE) (t : DA) : DE := fun τ M Q => to τ M fun x M1 => isLs M1 x ∧ t τ M1 fun ds M2 => r x ds M2 Q
theorem ls_there {K : PySem.W.Frag} {F R H : Hp} {M : Mp} {v : V} {d : D} (st : Stt K F R H M) (r : Rep K F v d) (h : isLs M d) : tyV K "list" v H := by
  obtain ⟨es, he⟩ := Option.isSome_iff_exists.mp h
  obtain ⟨a, vs, rfl, hs, ra⟩ := ls_get st r he
  exact .inl ⟨rfl, _, hs⟩
theorem mtd_indexS : MtR X "list.index" (liM X.K F0 dIndexS) := by
  refine mtImp (r := rIndex X.K) mt_index fun x xs H Q ⟨F, R, M, d, ds, Q', e0, st, rx, rs, q, k⟩ => ?_
  unfold dIndexS at q
  split at q <;> try exact q.elim
  rename_i y
  obtain ⟨z, rfl, rz⟩ := rep1 rs
  cases rz
  obtain ⟨ys, j, e1, e2, e3, q⟩ := q
  obtain ⟨a, vs, rfl, hs, ra⟩ := ls_get st rx e1
  have ev := RepAll.strs ra
  subst ev
  refine ⟨a, _, .str y, j, .str y, rfl, rfl, hs, rfl, ?_, by rw [List.getElem?_map, e2]; rfl, ?_, fun m z' hm hz => ?_, k _ _ _ _ _ Ext.refl st (.int _) q⟩
  · rw [List.all_map]
    exact List.all_eq_true.mpr fun _ _ => rfl
  · show (y == y) = true
    exact beq_self_eq_true y
  · rw [List.getElem?_map] at hz
    have h3 := e3 m hm
    cases hw : ys[m]? with
    | none => rw [hw] at hz; cases hz
    | some w =>
      rw [hw] at hz h3
      cases hz
      show (w == y) = false
      exact beq_eq_false_iff_ne.mpr fun e => h3 (by rw [e])
theorem pd_index {o e : Expr} {es : List Expr} {to : DE} {t : DA} {apos cpos : Pos} (ho : PE X o (liE X.K F0 to)) (ha : PA X (e :: es) (liA X.K F0 t)) (hbase : attributeBase o "index" X.env (eval o X.env) = eval o X.env := by rfl)
    (hfew : ((backTo cpos (starEach (e :: es) X.env)).all (fun x => !x.1) && (backToKw cpos (keywordEach [] X.env)).all (fun x => x.1.isSome)
      && decide ((e :: es).length + ([] : List Keyword).length + (if ([] : List Keyword).isEmpty then 0 else 1) < 30)) = true := by rfl)
    (hline : (apos.endLine == cpos.line) = true := by rfl) (hs : starEach (e :: es) X.env = (false, eval e X.env) :: starEach es X.env := by rfl) (hplain : (backTo cpos (starEach es X.env)).any (·.1) = false := by rfl) :
    PE X (.Call (.Attribute o "index" apos) (e :: es) [] cpos) (liE X.K F0 (dMtLs dIndexS to t)) := by
  refine peImp (pe_bm PySem.F.plainAttrs_list PySem.F.slot_list_index PySem.F.type_list_index (mtd_indexS (F0 := F0)) ho ha hbase hfew hline hs hplain) fun σ H Q ⟨F, R, τ, M, Q', e0, st, sl, q, k⟩ => ?_
  refine ⟨F, R, τ, M, _, e0, st, sl, q, fun v H1 F1 d M1 e1 st1 r1 ⟨q0, q1⟩ => ⟨?_, ?_⟩⟩
  · exact ls_there st1 r1 q0
  · refine ⟨F1, R, τ, M1, _, e0.trans e1, st1, sl.ext e1, q1, fun vs H2 F2 ds M2 e2 st2 r2 q2 => ?_⟩
    exact ⟨F2, R, M2, d, ds, Q', e0.trans (e1.trans e2), st2, r1.ext e2, r2, q2, k.ext (e1.trans e2)⟩
end
/-! ### three names at once -/
def dPar3 (i j l : Nat) (al : DA) : DS := fun D τ M => al τ M fun ds M1 => match ds with
  | [a, b, c] => D.nx (((τ.set i (some a)).set j (some b)).set l (some c)) M1
  | _ => False
section
variable {X : Cx} {F0 : Bs}
theorem sd_par3 {i j l : Nat} {x y z : Str} {a b c : Expr} {ta : DA} {px py pz pt pos : Pos} {kt k2 pt2} (hc : X.calm = true) (hN : X.N.Nodup) (hi : X.N[i]? = some x) (hj : X.N[j]? = some y) (hl : X.N[l]? = some z) (hij : i ≠ j) (hil : i ≠ l) (hjl : j ≠ l)
    (hx : X.env.scope.names.lookup x = some .local) (hy : X.env.scope.names.lookup y = some .local) (hz : X.env.scope.names.lookup z = some .local) (ha : PA X [a, b, c] (liA X.K F0 ta))
    (hw : swappedStores [.Tuple [.Name x px, .Name y py, .Name z pz] kt pt] (.Tuple [a, b, c] k2 pt2) X.env = pure (some [x, y, z]))
    (hs : swapsWithSole [.Tuple [.Name x px, .Name y py, .Name z pz] kt pt] (.Tuple [a, b, c] k2 pt2) pos.line X.env = pure false := by rfl) :
    PS X (.Assign [.Tuple [.Name x px, .Name y py, .Name z pz] kt pt] (.Tuple [a, b, c] k2 pt2) pos) (liS X.K F0 (dPar3 i j l ta)) := by
  refine psImp (ps_par3 hc hN hi hj hl hij hil hjl hx hy hz ha hw hs) fun D σ H ⟨F, R, τ, M, D', e0, st, sl, q, k⟩ => ?_
  refine ⟨F, R, τ, M, _, e0, st, sl, q, fun vs H1 F1 ds M1 e1 st1 r1 q1 => ?_⟩
  split at q1 <;> try exact q1.elim
  cases r1 with
  | cons r1 t =>
    obtain ⟨v, w, rfl, r, r'⟩ := rep2 t
    exact ⟨_, _, _, rfl, k.nx _ _ _ _ _ e1 st1 ((((sl.ext e1).put r1 i).put r j).put r' l) q1⟩
end
def kPar3 (nx : SD → Mp → Prop) (i j l : Nat) (τ : SD) : List D → Mp → Prop := fun ds M1 => match ds with
  | [a, b, c] => nx (((τ.set i (some a)).set j (some b)).set l (some c)) M1
  | _ => False
theorem s_par3 {nx bk ct : SD → Mp → Prop} {rt : QD} {τ : SD} {M : Mp} {i j l : Nat} {al : DA} (h : al τ M (kPar3 nx i j l τ)) : dPar3 i j l al ⟨nx, rt, bk, ct⟩ τ M := h
theorem s_kpar3 {nx : SD → Mp → Prop} {τ τ2 : SD} {M : Mp} {i j l : Nat} {a b c : D} (e : ((τ.set i (some a)).set j (some b)).set l (some c) = τ2) (h : nx τ2 M) : kPar3 nx i j l τ [a, b, c] M := by subst e; exact h
/-! the steps -/
section
variable {τ : SD} {M : Mp} {Q : QD} {to te : DE} {t : DA}
theorem s_part3 (h : to τ M (kPa1 te τ Q)) : dPart3 to te τ M Q := h
theorem s_kpa1 {a : Str} (h : te τ M (kPa2 a Q)) : kPa1 te τ Q (.str a) M := h
theorem s_kpa2 {a b : Str} (e : (b.length == 0) = false) (hl : a.length ≤ sizeLine) (h : Q (.tup [.str (Txt.partition a b).1, .str (Txt.partition a b).2.1, .str (Txt.partition a b).2.2]) M) : kPa2 a Q (.str b) M := ⟨e, hl, h⟩
theorem s_intS {a : Str} {n : Int} (e : PySem.intText? a = some n) (hl : a.length ≤ 640) (h : Q (.int n) M) : dIntS [.str a] M Q := ⟨n, e, hl, h⟩
def kMls (r : RM) (t : DA) (τ : SD) (Q : QD) : QD := fun x M1 => isLs M1 x ∧ t τ M1 fun ds M2 => r x ds M2 Q
theorem s_mls {r : RM} (h : to τ M (kMls r t τ Q)) : dMtLs r to t τ M Q := h
def kMlA (r : RM) (x : D) (Q : QD) : List D → Mp → Prop := fun ds M2 => r x ds M2 Q
theorem s_kmls {r : RM} {x : D} {es : List D} (e : lsOf M x = some es) (h : t τ M (kMlA r x Q)) : kMls r t τ Q x M := ⟨by unfold isLs; rw [e]; rfl, h⟩
theorem s_kmlIx {x : D} {y : Str} {ys : List Str} (j : Nat) (e : lsOf M x = some (ys.map D.str)) (e2 : ys[j]? = some y) (e3 : ∀ m, m < j → ys[m]? ≠ some y) (h : Q (.int (j : Nat)) M) : kMlA dIndexS x Q [.str y] M := ⟨ys, j, e, e2, e3, h⟩
end
end DL

/-! DL32: dicts with tuple keys: one pair written, d[k] = v, list(d). -/
namespace L2
open PySem PySem.Spec PyProof.Rows
theorem KT.putS {H : Hp} {kvs : List (List Key × V)} {xs : List (List Key × Addr × Value)} (r : KT H kvs xs) (k : List Key) {b : Addr} {y : V} {u : Value} (hb : H b = some (.tup (k.map kV)) ∨ (valV kvs k).isSome = true) (ry : RelV y u) :
    KT H (putK kvs k y) (storedH xs k b u) := by
  have e : (kvs.any fun kv => decide (kv.1 = k)) = (atKey xs k).isSome := by
    rw [valV_any, (r.val k).isSome_eq, Option.isSome_map]
  unfold putK storedH
  rw [e]
  by_cases q : (atKey xs k).isSome = true
  · rw [if_pos q, if_pos q]; exact r.repl k ry
  · rw [if_neg q, if_neg q]
    rcases hb with hb | hb
    · exact Paired.snoc r ⟨rfl, hb, ry⟩
    · rw [(r.val k).isSome_eq, Option.isSome_map] at hb
      exact absurd hb q
section
variable {X : Cx} {pins : List (Addr × Obj)} {σ : St} {H : Hp} {s : Shared} {a b : Addr}
/-- a[y] = v, y a tuple wherever it stands; where it is new, a tracked one -/
def DPutS (K : PySem.W.Frag) (H : Hp) (a : Addr) (y v : V) (H' : Hp) : Prop := ∃ kvs k b, H a = some (.dT kvs) ∧ y = .ref b ∧ SqT K H b (k.map kV) ∧ (H b = some (.tup (k.map kV)) ∨ (valV kvs k).isSome = true) ∧ kvs.length < sizeLine ∧ H' = upd H a (.dT (putK kvs k v))
theorem d_setItemS {H' : Hp} {y v : V} {u r : Value} {A : Around} {E : Value → Shared → Prop} {Q : Unit → Shared → Prop} (hu : A.units + 1 < cLine) (I : Inv X pins σ H s) (g : DPutS X.K H a y v H') (ry : RelV y u) (rv : RelV v r) (h : ∀ s', Inv X pins σ H' s' → Q () s') :
    wpAny (model X.prog X.w) A (setItem (.ref a) u r) Q E s := by
  obtain ⟨kvs, k, b, e, ey, eb, et, l, eH⟩ := g
  subst ey eH
  cases (show u = Value.ref b from ry)
  obtain ⟨z, hd, xs, rel, dd⟩ := dt_of I.hok e
  have hz : xs.length ≤ sizeLine := by rw [← Paired.length rel]; exact z
  have hl : (putK kvs k v).length ≤ sizeLine := by have := length_putK kvs k v; omega
  refine wpAny_setItem_heap (hsz := hz) (tupleKind_room_in1 hu) (key_sq I eb) dd fun h' dd' hs => h _ ?_
  obtain ⟨q, es, ep, hq, h2, h3, h4, _, h5⟩ := dd'
  refine d_write I (by rw [e]; exact True.intro) hs ⟨q, hq⟩ ⟨hl, hd, _, (rel.putS k et rv).keeps fun c ys ec => ?_, q, es, ep, hq, h2, h3, h4, h5⟩
  rw [upd_ne (ne_of ec e (fun z => nomatch z))]
  exact ec
def sDPutS (K : PySem.W.Frag) (td ty tv : TE) : TS := fun D σ H => tv σ H fun v H1 => td σ H1 fun x H2 => ty σ H2 fun y H3 => ∃ a H4, x = .ref a ∧ DPutS K H3 a y v H4 ∧ D.nx σ H4
theorem ps_dputS {o i value : Expr} {td ty tv : TE} {pos pos' : Pos} (hu : X.A.units + 1 < cLine) (ho : PE X o td) (hi : PE X i ty) (hv : PE X value tv) (hs : swapsWith value (some (.Subscript o i pos')) pos.line X.env = pure false) :
    PS X (.Assign [.Subscript o i pos'] value pos) (sDPutS X.K td ty tv) := by
  refine ⟨fun pins s σ H D I h => ?_⟩
  refine wpAny_Assign_Subscript (thn (hv.run pins s σ H _ I h) fun r s1 ⟨v, H1, I1, rv, q1⟩ => thn (ho.run pins s1 σ H1 _ I1 q1) fun u s2 ⟨x, H2, I2, rx, q2⟩ => thn (hi.run pins s2 σ H2 _ I2 q2) fun iv s3 ⟨y, H3, I3, ry, a, H4, ex, g, q3⟩ => ?_) hs
  subst ex
  obtain rfl : u = Value.ref a := rx
  exact d_setItemS hu I3 g ry rv fun s4 I4 => ⟨σ, H4, I4, q3⟩
/-- {k: v}, k a tracked tuple -/
def tDisp1S (tk tv : TE) : TE := fun σ H Q => ∀ p, H p = none → tk σ (upd H p (.dT [])) fun x H1 => tv σ H1 fun y H2 => H2 p = some (.dT []) ∧ ∃ (k : List Key) (b : Addr), x = .ref b ∧ H2 b = some (.tup (k.map kV)) ∧ Q (.ref p) (upd H2 p (.dT [(k, y)]))
theorem pe_disp1S {ke ve : Expr} {tk tv : TE} {pos : Pos} (hu : X.A.units + 1 < cLine) (hk : PE X ke tk) (hv : PE X ve tv) : PE X (.Dict [some ke] [ve] pos) (tDisp1S tk tv) := by
  refine ⟨fun pins s σ H Q I q => ?_⟩
  have hn := I.hok.fresh (Nat.le_refl s.heap.objs.size)
  have I1 := I.laid (a := s.heap.objs.size) (o := .dT []) (h' := s.heap.push { cls := .type "dict", data := .dict #[] }) (t' := s.toks) (fun _ _ q => Heap.get?_push_of_some _ q) (Nat.le_refl _) (dt_empty s.heap I.big)
  have pp : PPs X pos [some ke] [ve] [(tk, tv)] := pps_cons hk hv pps_nil
  refine wpAny_Dict_any rfl rfl (fun z => by cases z) (show 1 ≤ 15 by decide) (thn (pp.run pins _ σ _ (fun ps H2 => match ps with
    | [(x, y)] => H2 s.heap.objs.size = some (.dT []) ∧ ∃ (k : List Key) (b : Addr), x = .ref b ∧ H2 b = some (.tup (k.map kV)) ∧ Q (.ref s.heap.objs.size) (upd H2 s.heap.objs.size (.dT [(k, y)]))
    | _ => False) I1 (q _ hn)) fun ws s2 hh => ?_)
  obtain ⟨ps, H2, I2, rel, hh⟩ := hh
  split at hh <;> try exact hh.elim
  rename_i x y
  obtain ⟨e, k, b, ex, eb, q2⟩ := hh
  subst ex
  cases rel with
  | cons r t =>
    rename_i w0 wr
    obtain ⟨u, w2⟩ := w0
    cases t
    obtain ⟨r1, r2⟩ := r
    obtain rfl : u = Value.ref b := r1
    unfold storeAll
    rw [List.forIn_cons]
    obtain ⟨z, hd, xs, rr, dd⟩ := dt_of I2.hok e
    have hz : xs.length ≤ sizeLine := by rw [← Paired.length rr]; exact z
    refine wpAny_bind (wpAny_bind (wpAny_dictSet_heap (hsz := hz) (show X.A.units < cLine by omega) (key_of I2.hok eb) dd fun h' dd' hs => ?_))
    refine wpAny_pure ?_
    dsimp only
    rw [List.forIn_nil]
    refine wpAny_pure ?_
    obtain ⟨q, es, ep, hq, h2, h3, h4, _, h5⟩ := dd'
    have J := d_write (t' := s2.toks + (tupleKind (mixKind X.prog X.w)).draws k) I2 (ob := .dT [(k, y)]) (by rw [e]; exact True.intro) hs ⟨q, hq⟩ ⟨by show 1 ≤ sizeLine; decide, hd, _, (rr.put k eb r2).keeps fun c ys ec => (by
      rw [upd_ne (ne_of ec e (fun z => nomatch z))]
      exact ec), q, es, ep, hq, h2, h3, h4, h5⟩
    exact ⟨.ref s.heap.objs.size, _, J, rfl, q2⟩
end
end L2
namespace DL
open PySem PySem.Spec PyProof.Rows L2
/-- the written part has no tuple with such members -/
def NtK (K : PySem.W.Frag) (gk : List Key → Bool) : Prop := ∀ (a : Addr) (o : Obj) (its : Array Value) (n : Nat) (k : List Key), K.lookup a = some o → o.cls = .type "tuple" → o.data = .seq its n → Vals (k.map kV) its.toList → gk k = false
/-! ### d[k] = v -/
def kPT3 (gk : List Key → Bool) (nx : SD → Mp → Prop) (τ : SD) (v x : D) : QD := fun y M3 => match x, y with
  | .ref a, .tup ds => match keysD ds, M3 a with
    | some k, some (.dT kvs) => (gk k = true ∨ (valD kvs k).isSome = true) ∧ kvs.length < sizeLine ∧ nx τ (updM M3 a (.dT (putD kvs k v)))
    | _, _ => False
  | _, _ => False
def kPT2 (gk : List Key → Bool) (tk : DE) (nx : SD → Mp → Prop) (τ : SD) (v : D) : QD := fun x M2 => tk τ M2 (kPT3 gk nx τ v x)
def kPT1 (gk : List Key → Bool) (td tk : DE) (nx : SD → Mp → Prop) (τ : SD) : QD := fun v M1 => td τ M1 (kPT2 gk tk nx τ v)
def dDPutT (gk : List Key → Bool) (td tk tv : DE) : DS := fun D τ M => tv τ M (kPT1 gk td tk D.nx τ)
section
variable {X : Cx} {F0 : Bs}
theorem sd_dputT {gk : List Key → Bool} {o i value : Expr} {pos pos' : Pos} {td tk tv : DE} (nt : NtK X.K gk) (hu : X.A.units + 64 < cLine) (hv : PE X value (liE X.K F0 tv)) (ho : PE X o (liE X.K F0 td)) (hi : PE X i (liE X.K F0 tk)) (hs : swapsWith value (some (.Subscript o i pos')) pos.line X.env = pure false := by rfl) :
    PS X (.Assign [.Subscript o i pos'] value pos) (liS X.K F0 (dDPutT gk td tk tv)) := by
  refine psImp (ps_dputS (by omega) ho hi hv hs) fun D σ H ⟨F, R, τ, M, D', e0, st, sl, q, k⟩ => ?_
  refine ⟨F, R, τ, M, _, e0, st, sl, q, fun v H1 F1 d M1 e1 st1 r1 q1 => ?_⟩
  refine ⟨F1, R, τ, M1, _, e0.trans e1, st1, sl.ext e1, q1, fun v2 H2 F2 d2 M2 e2 st2 r2 q2 => ?_⟩
  refine ⟨F2, R, τ, M2, _, e0.trans (e1.trans e2), st2, sl.ext (e1.trans e2), q2, fun v3 H3 F3 d3 M3 e3 st3 r3 q3 => ?_⟩
  unfold kPT3 at q3
  split at q3 <;> try exact q3.elim
  rename_i a ds
  split at q3 <;> try exact q3.elim
  rename_i kk kds h1 h2
  obtain ⟨q3, q4, q5⟩ := q3
  cases r2
  obtain ⟨kvs, hk, rk⟩ := st3.dT h2
  obtain ⟨b, xs, rfl, hsF, ra⟩ : ∃ b xs, v3 = .ref b ∧ SqT X.K F3 b xs ∧ RepAll X.K F3 xs ds := by
    cases r3 with
    | tup hs ha => exact ⟨_, _, rfl, hs, ha⟩
  rw [ra.keys h1] at hsF
  have hsH := sqTMono st3.fz hsF
  refine ⟨a, _, rfl, ⟨kvs, kk, b, hk, rfl, hsH, ?_, by rw [Paired.length rk]; exact q4, rfl⟩, ?_⟩
  · rcases q3 with g | g
    · rcases hsF with (h | ⟨o, h⟩) | ⟨o, its, n, g1, g2, g3, _, g4⟩
      · exact .inl (st3.fz _ _ h)
      · exact (st3.nf _ _ h).elim
      · rw [nt b o its n kk g1 g2 g3 g4] at g; cases g
    · rw [rk.some kk]; exact .inr g
  · exact k.nx _ _ _ _ _ (e1.trans (e2.trans e3)) (st3.store h2 (fun _ z => by cases z) (m' := .dT (putD kds kk d)) (rk.put kk (r1.ext (e2.trans e3)))) (sl.ext (e1.trans (e2.trans e3))) q5
/-! ### {(..): v} -/
def kD1 (tv : DE) (τ : SD) (Q : QD) : List D → Mp → Prop := fun ds M1 => ds.length ≤ sizeLine ∧ match keysD ds with
  | some k => tv τ M1 fun y M2 => ∀ p, M2 p = none → Q (.ref p) (updM M2 p (.dT [(k, y)]))
  | none => False
def dDisp1T (t : DA) (tv : DE) : DE := fun τ M Q => t τ M (kD1 tv τ Q)
theorem pd_disp1T {x1} {es : List Expr} {ve : Expr} {t : DA} {tv : DE} {pos pos2 : Pos} (hu : X.A.units + 64 < cLine) (ha : PA X es (liA X.K F0 t)) (hv : PE X ve (liE X.K F0 tv)) : PE X (.Dict [some (.Tuple es x1 pos2)] [ve] pos) (liE X.K F0 (dDisp1T t tv)) := by
  refine peImp (pe_disp1S (by omega) (pe_tup ha) hv) fun σ H Q ⟨F, R, τ, M, Q', e0, st, sl, q, k⟩ => ?_
  intro p hp
  obtain ⟨st1, rp, mp⟩ := st.asideN hp pln_dT
  have b1 : Bas F0 F (upd R p (.dT [])) := ⟨e0.f, e0.r.trans fun a u e => by rw [upd_ne (ne_of_none e rp)]; exact e, e0.t.ext fun a u e => by rw [upd_ne (ne_of_none e rp)]; exact e⟩
  refine ⟨F, _, τ, M, _, b1, st1, sl, q, fun vs H1 F1 ds M1 e1 s1 r1 q1 => ?_⟩
  obtain ⟨q1, q2⟩ := q1
  split at q2 <;> try exact q2.elim
  rename_i kk h1
  refine ⟨by rw [r1.len]; exact q1, fun b hb => ?_⟩
  obtain ⟨s2, e2⟩ := s1.freeze hb (o := .tup vs)
  refine ⟨_, _, τ, M1, _, b1.trans (e1.trans e2), s2, sl.ext (e1.trans e2), q2, fun y H2 F3 dy M2 e3 s3 r3 q3 => ?_⟩
  have hpp := (s3.rs p _ upd_same).1
  have hbb : H2 b = some (.tup vs) := s3.fz b _ (e3 b _ upd_same)
  rw [r1.keys h1] at hbb
  refine ⟨pln_dT.rs _ _ hpp, kk, b, rfl, hbb, ?_⟩
  have s4 := (s3.reputG (o' := .dT [(kk, y)]) pln_dT pln_dT).reownG (m := .dT [(kk, dy)]) pln_dT rp (show RepKV X.K F3 [(kk, y)] [(kk, dy)] from .cons ⟨rfl, r3⟩ .nil)
  exact k _ _ _ _ _ (e1.trans (e2.trans e3)) s4 (.ref p) (q3 p (s3.rs p _ upd_same).2.2)
/-! ### list(d) -/
def dkey : Key → D
  | .inl i => .int i
  | .inr s => .str s
def dListT : RC := fun ds M Q => match ds with
  | [.ref a] => (∀ b xs, M b ≠ some (.raw (.tup xs))) ∧ match M a with
    | some (.dT kvs) => kvs.length ≤ sizeLine ∧ Q (.lst (kvs.map fun kv => .tup (kv.1.map dkey))) M
    | _ => False
  | _ => False
theorem rep_dkey {K : PySem.W.Frag} {F : Hp} : ∀ k : List Key, RepAll K F (k.map kV) (k.map dkey)
  | [] => .nil
  | .inl i :: k => .cons (.int i) (rep_dkey k)
  | .inr s :: k => .cons (.str s) (rep_dkey k)
theorem cd_listT (hc : X.calm = true) : CallR X (.type "list") (liC X.K F0 dListT) := by
  refine caImp (call_list_dT hc) fun xs H Q ⟨F, R, M, ds, Q', e0, st, ra, q, k⟩ => ?_
  unfold dListT at q
  split at q <;> try exact q.elim
  rename_i a
  obtain ⟨nr, q⟩ := q
  split at q <;> try exact q.elim
  rename_i kds h2
  obtain ⟨q0, q⟩ := q
  obtain ⟨x, rfl, r⟩ := rep1 ra
  cases r
  obtain ⟨kvs, hk, rk⟩ := st.dT h2
  refine ⟨a, kvs, rfl, .inl hk, fun p bs hp hb => ?_⟩
  have tb : ∀ b ∈ bs, ∃ ys, H b = some (.tup ys) := by
    have : ∀ {l : List (List Key × V)} {m : List Addr}, IsKeys H l m → ∀ b ∈ m, ∃ ys, H b = some (.tup ys) := by
      intro l m h
      unfold IsKeys at h
      induction h with
      | nil => intro b hb; cases hb
      | cons h1 _ ih =>
        intro b hb
        rcases List.mem_cons.mp hb with rfl | hb
        · exact ⟨_, h1⟩
        · exact ih b hb
    exact this hb
  let F2 : Hp := fun b => if b ∈ bs then H b else F b
  have e2 : Ext F F2 := fun b u e => by
    show (if b ∈ bs then H b else F b) = some u
    by_cases z : b ∈ bs
    · rw [if_pos z]; exact st.fz b u e
    · rw [if_neg z]; exact e
  have st2 : Stt X.K F2 R H M := by
    refine ⟨fun b u e => ?_, fun b u e => ?_, fun b m e => ?_, fun b u e => ?_, st.nr⟩
    · have e : (if b ∈ bs then H b else F b) = some u := e
      by_cases z : b ∈ bs
      · rw [if_pos z] at e; exact e
      · rw [if_neg z] at e; exact st.fz b u e
    · obtain ⟨g1, g2, g3⟩ := st.rs b u e
      refine ⟨g1, ?_, g3⟩
      show (if b ∈ bs then H b else F b) = none
      rw [if_neg]
      · exact g2
      · intro z
        obtain ⟨ys, hy⟩ := tb b z
        have n := st.nr b u e
        cases u with
        | xd fs =>
          obtain ⟨q, _, ps, h1, _⟩ := g1
          rw [hy] at h1; cases h1
        | tup zs => exact n
        | _ => have g1 : H b = some _ := g1; rw [hy] at g1; cases g1
    · obtain ⟨g1, o, g2, g3⟩ := st.ow b m e
      refine ⟨?_, o, g2, g3.ext e2⟩
      show (if b ∈ bs then H b else F b) = none
      rw [if_neg]
      · exact g1
      · intro z
        obtain ⟨ys, hy⟩ := tb b z
        rw [hy] at g2
        cases g2
        cases m <;> try exact g3.elim
        have g3 : HO.tup ys = _ := g3
        subst g3
        exact nr b ys e
    · have e : (if b ∈ bs then H b else F b) = some u := e
      by_cases z : b ∈ bs
      · rw [if_pos z] at e
        obtain ⟨ys, hy⟩ := tb b z
        rw [hy] at e; cases e; trivial
      · rw [if_neg z] at e; exact st.nf b u e
  have rr : RepAll X.K F2 (bs.map V.ref) (kds.map fun kv => .tup (kv.1.map dkey)) := by
    have gen : ∀ {l : List (List Key × V)} {m : List Addr} {kd : List (List Key × D)}, IsKeys H l m → RepKV X.K F l kd → (∀ b ∈ m, b ∈ bs) → RepAll X.K F2 (m.map V.ref) (kd.map fun kv => .tup (kv.1.map dkey)) := by
      intro l m kd h
      unfold IsKeys at h
      induction h generalizing kd with
      | nil => intro rk _; cases rk; exact .nil
      | @cons kv b l m h1 _ ih =>
        intro rk hm
        cases rk with
        | cons r1 rt =>
          refine .cons (.tup (xs := kv.1.map kV) (.inl (.inl ?_)) ?_) (ih rt fun b hb => hm b (List.mem_cons_of_mem _ hb))
          · show (if b ∈ bs then H b else F b) = _
            rw [if_pos (hm b List.mem_cons_self)]; exact h1
          · rw [← r1.1]; exact rep_dkey _
    exact gen hb rk fun b hb => hb
  exact (k.ext e2).lst st2 hp rr q
end
/-! ### a text within a text -/
def dInSub (neg : Bool) : R2D := fun x y M Q => match x, y with
  | .str i, .str j => Q (.bl (if neg then (Builtin.Str.occurrences j i 0 j.length 1).isEmpty else !(Builtin.Str.occurrences j i 0 j.length 1).isEmpty)) M
  | _, _ => False
section
variable {X : Cx} {F0 : Bs}
theorem od_inSub : OpD X F0 (compareOp .In) (dInSub false) := by
  refine opImp op_in_str fun x y H Q ⟨F, R, M, d, e, Q', e0, st, rd, re, q, k⟩ => ?_
  unfold dInSub at q
  split at q <;> try exact q.elim
  cases rd; cases re
  exact ⟨_, _, rfl, rfl, k _ _ _ _ _ Ext.refl st (.bl _) q⟩
theorem od_notInSub : OpD X F0 (compareOp .NotIn) (dInSub true) := by
  refine opImp op_notin_str fun x y H Q ⟨F, R, M, d, e, Q', e0, st, rd, re, q, k⟩ => ?_
  unfold dInSub at q
  split at q <;> try exact q.elim
  cases rd; cases re
  rw [if_pos rfl] at q
  refine ⟨_, _, rfl, rfl, ?_⟩
  rw [Bool.not_not]
  exact k _ _ _ _ _ Ext.refl st (.bl _) q
theorem s_inSub {neg : Bool} {i j : Str} {M : Mp} {Q : QD} (h : ∀ b, Q (.bl b) M) : dInSub neg (.str i) (.str j) M Q := h _
end
/-! ### keys that no tuple of the written part has -/
theorem lookup_mem {K : List (Addr × Obj)} {a : Addr} {o : Obj} (h : List.lookup a K = some o) : ∃ p ∈ K, p.2 = o := by
  induction K with
  | nil => cases h
  | cons p K ih =>
    obtain ⟨b, u⟩ := p
    rw [List.lookup_cons] at h
    cases e : a == b
    · simp only [e] at h
      obtain ⟨p, hp, e⟩ := ih h
      exact ⟨p, List.mem_cons_of_mem _ hp, e⟩
    · simp only [e] at h
      cases h
      exact ⟨_, List.mem_cons_self, rfl⟩
def isW (s : Str) : Bool := s == ("seen" : Str) || s == ("stock" : Str) || s == ("town" : Str)
def goodKey : List Key → Bool
  | .inr s :: _ => isW s
  | _ => false
def badV : List Value → Bool
  | .str s _ :: _ => isW s
  | _ => false
def noTupO (o : Obj) : Bool := match o.data with
  | .seq its _ => !(badV its.toList)
  | _ => true
def noTupB (K : PySem.W.Frag) : Bool := List.all K fun p => noTupO p.2
theorem badV_of {k : List Key} {vs : List Value} (h : goodKey k = true) (hv : Vals (k.map kV) vs) : badV vs = true := by
  cases k with
  | nil => cases h
  | cons x r =>
    cases x with
    | inl i => cases h
    | inr s =>
      cases hv with
      | cons r1 _ =>
        obtain ⟨t, rfl⟩ := r1
        exact h
theorem nt_of {K : PySem.W.Frag} (h : noTupB K = true) : NtK K goodKey := by
  intro a o its n k hl _ hd hv
  obtain ⟨p, hp, rfl⟩ := lookup_mem hl
  have hb : noTupO p.2 = true := List.all_eq_true.mp h p hp
  have hc : noTupO p.2 = !(badV its.toList) := by
    unfold noTupO
    rw [hd]
  cases hg : goodKey k with
  | false => rfl
  | true =>
    rw [hc, badV_of hg hv] at hb
    cases hb
/-! ### a law whose first map is known to be empty -/
def spLawE : SpD := fun ds M Q E => M = (fun _ => none) ∧ spLawD ds M Q E
theorem law_spE {K : PySem.W.Frag} {T : List (Addr × Str)} {H : Hp} {a : Addr} {ns : List Int} (hL : ∀ p ∈ T, T.lookup p.1 = some p.2) (hT : ∀ p ∈ T, LamX.TabS H p.1 p.2) (hl : ns.length ≤ 63) (hS : SqL K H a (ns.map V.int)) : liSp K T spLawE [.ref a] H (fun v _ => v = .bl true) fun _ _ _ => False := by
  have mem : ∀ {b : Addr} {q : Str}, T.lookup b = some q → (b, q) ∈ T := fun e => mem_lookupA e
  have rs0 : ∀ (F : Hp), (∀ b o, F b = some o → ∃ xs u, o = .lst xs ∨ o = .frz u (.lst xs)) → (∀ b o, F b = some o → H b = some o) → ∀ b o, (fun b => (T.lookup b).map fun q => HO.xd [(q, V.non)]) b = some o → RsOk H b o ∧ F b = none ∧ (fun _ => none : Mp) b = none := fun F hF hFH b o e => by
    have e : (T.lookup b).map (fun q => HO.xd [(q, V.non)]) = some o := e
    cases eq : T.lookup b with
    | none => rw [eq] at e; cases e
    | some q =>
      rw [eq] at e
      obtain rfl : HO.xd [(q, V.non)] = o := Option.some.inj e
      have tb := hT _ (mem eq)
      refine ⟨⟨q, rfl, tb⟩, ?_, rfl⟩
      cases ef : F b with
      | none => rfl
      | some u =>
        obtain ⟨ps, h1, _⟩ := tb
        have h2 := hFH b u ef
        rw [h1] at h2
        cases h2
        obtain ⟨xs, v, z | z⟩ := hF b _ ef <;> cases z
  have nrT : ∀ b o, (fun b => (T.lookup b).map fun q => HO.xd [(q, V.non)]) b = some o → NR o := fun b o e => by
    have e : (T.lookup b).map (fun q => HO.xd [(q, V.non)]) = some o := e
    cases eq : T.lookup b with
    | none => rw [eq] at e; cases e
    | some q =>
      rw [eq] at e
      obtain rfl : HO.xd [(q, V.non)] = o := Option.some.inj e
      trivial
  have key : ∀ (F : Hp), Stt K F (fun b => (T.lookup b).map fun q => HO.xd [(q, V.non)]) H (fun _ => none) → SqL K F a (ns.map V.int) → liSp K T spLawE [.ref a] H (fun v _ => v = .bl true) fun _ _ _ => False := fun F st hF => by
    refine ⟨_, _, [.lsk (ns.map .int)], _, fun d _ => d = .bl true, fun _ _ _ => False, st, fun p hp => ?_, .cons (.lsk (xs := ns.map V.int) hF (RepAll.ofInts ns)) .nil, ⟨rfl, ns, rfl, hl, fun d M' e => e⟩, fun v H2 F2 d M2 _ _ r e => ?_, fun _ _ _ _ _ _ _ _ _ z => z⟩
    · show (T.lookup p.1).map _ = _
      rw [hL p hp]; rfl
    · subst e
      cases r
      rfl
  have one : ∀ o : HO, (∃ xs u, o = .lst xs ∨ o = .frz u (.lst xs)) → H a = some o → Stt K (fun b => if b = a then some o else none) (fun b => (T.lookup b).map fun q => HO.xd [(q, V.non)]) H (fun _ => none) := fun o ho ha => by
    have k1 : ∀ b u, (fun b => if b = a then some o else none) b = some u → b = a ∧ u = o := fun b u e => by
      have e : (if b = a then some o else none) = some u := e
      by_cases z : b = a
      · rw [if_pos z] at e; exact ⟨z, (Option.some.inj e).symm⟩
      · rw [if_neg z] at e; cases e
    refine ⟨fun b u e => ?_, rs0 _ (fun b u e => ?_) (fun b u e => ?_), fun b u e => (nomatch e), fun b u e => ?_, nrT⟩
    rotate_left 3
    · obtain ⟨rfl, rfl⟩ := k1 b u e
      obtain ⟨xs, v, z | z⟩ := ho <;> subst z <;> trivial
    · obtain ⟨rfl, rfl⟩ := k1 b u e; exact ha
    · obtain ⟨rfl, rfl⟩ := k1 b u e; exact ho
    · obtain ⟨rfl, rfl⟩ := k1 b u e; exact ha
  rcases hS with (h | ⟨o, h⟩) | h
  · exact key _ (one _ ⟨_, default, .inl rfl⟩ h) (.inl (.inl (if_pos rfl)))
  · exact key _ (one _ ⟨_, o, .inr rfl⟩ h) (.inl (.inr ⟨o, if_pos rfl⟩))
  · exact key (fun _ => none) ⟨fun b u e => (nomatch e), rs0 _ (fun b u e => (nomatch e)) (fun b u e => (nomatch e)), fun b u e => (nomatch e), fun b u e => (nomatch e), nrT⟩ (.inr h)
/-! the steps -/
section
variable {τ : SD} {M : Mp} {Q : QD} {td tk tv : DE} {t : DA} {nx : SD → Mp → Prop} {rt : QD} {bk ct : SD → Mp → Prop} {gk : List Key → Bool}
theorem s_dputT (h : tv τ M (kPT1 gk td tk nx τ)) : dDPutT gk td tk tv ⟨nx, rt, bk, ct⟩ τ M := h
theorem s_kpT1 {v : D} (h : td τ M (kPT2 gk tk nx τ v)) : kPT1 gk td tk nx τ v M := h
theorem s_kpT2 {v x : D} (h : tk τ M (kPT3 gk nx τ v x)) : kPT2 gk tk nx τ v x M := h
theorem s_kpT3 {v : D} {a : Addr} {ds : List D} {k : List Key} {kvs : List (List Key × D)} (e : keysD ds = some k) (hm : M a = some (.dT kvs)) (g : gk k = true ∨ (valD kvs k).isSome = true) (hl : kvs.length < sizeLine) (h : nx τ (updM M a (.dT (putD kvs k v)))) : kPT3 gk nx τ v (.ref a) (.tup ds) M := by
  unfold kPT3; simp only [e, hm]; exact ⟨g, hl, h⟩
theorem s_disp1T (h : t τ M (kD1 tv τ Q)) : dDisp1T t tv τ M Q := h
def kD2 (k : List Key) (Q : QD) : QD := fun y M2 => ∀ p, M2 p = none → Q (.ref p) (updM M2 p (.dT [(k, y)]))
theorem s_kd1 {ds : List D} {k : List Key} (hl : ds.length ≤ sizeLine) (e : keysD ds = some k) (h : tv τ M (kD2 k Q)) : kD1 tv τ Q ds M := by
  unfold kD1; simp only [e]; exact ⟨hl, h⟩
theorem s_listT {a : Addr} {kvs : List (List Key × D)} (nr : ∀ b xs, M b ≠ some (.raw (.tup xs))) (hm : M a = some (.dT kvs)) (hl : kvs.length ≤ sizeLine) (h : Q (.lst (kvs.map fun kv => .tup (kv.1.map dkey))) M) : dListT [.ref a] M Q := by
  unfold dListT; simp only [hm]; exact ⟨nr, hl, h⟩
end
end DL

namespace DL
open PySem PySem.Spec PyProof.Rows L2
/-! the steps by name -/
local macro_rules | `(tactic| walk_at "set") => `(tactic| ((try simp only [setAll, updM_updM, Int.reduceToNat, List.set_cons_zero, List.set_cons_succ]); exact rfl))
local macro_rules | `(tactic| walk_at "sq") => `(tactic| first | exact rfl | exact sqOf_ref updM_same | exact sqOf_ref (by assumption))
local macro_rules | `(tactic| walk_at "ls") => `(tactic| first | exact rfl | exact lsOf_ref updM_same | exact lsOf_ref (by assumption))
local macro_rules | `(tactic| walk_at "s") => `(tactic| first
  | with_reducible refine s_seq ?_
  | with_reducible refine s_op ?_
  | ((with_reducible refine' s_var ?e ?_); (case e => exact rfl))
  | with_reducible refine s_kop1 ?_
  | with_reducible refine s_c ?_
  | with_reducible refine s_kop2 ?_
  | with_reducible refine s_ifS ?_
  | with_reducible refine s_test ?_
  | with_reducible refine s_kb ?_
  | with_reducible refine s_set ?_
  | ((with_reducible refine' s_kset ?e ?_); (case e => walk_at "set"))
  | with_reducible refine s_next ?_
  | with_reducible refine s_ret ?_
  | with_reducible refine s_cons ?_
  | with_reducible refine s_kcons1 ?_
  | with_reducible refine s_kcons2 ?_
  | with_reducible refine s_nil ?_
  | with_reducible refine s_cb ?_
  | with_reducible refine s_kcb ?_
  | with_reducible refine s_call ?_
  | with_reducible refine s_kcall ?_
  | with_reducible refine s_I0 ?_
  | with_reducible refine s_B0 ?_
  | with_reducible refine s_add ?_
  | ((with_reducible refine' s_eqS ?e ?_); (case e => exact rfl))
  | ((with_reducible refine' s_neS ?e ?_); (case e => exact rfl))
  | with_reducible refine s_isN ?_
  | with_reducible refine s_notN ?_
  | ((with_reducible refine' s_ix ?e ?e2 ?_); (case e => walk_at "sq"); (case e2 => exact rfl))
  | ((with_reducible refine' s_len ?e ?_); (case e => walk_at "sq"))
  | with_reducible refine s_tup ?_
  | ((with_reducible refine' s_ktup ?e ?_); (case e => (simp only [List.length_cons, List.length_nil]; decide)))
  | with_reducible refine s_lst ?_
  | ((with_reducible refine' s_klst ?e ?_); (case e => (simp only [List.length_cons, List.length_nil]; decide)))
  | with_reducible refine s_lstM ?_
  | ((with_reducible refine' s_klstM ?e ?_); (case e => (simp only [List.length_cons, List.length_nil]; decide)))
  | with_reducible refine s_truth ?_
  | with_reducible refine s_tru_bl ?_
  | with_reducible refine s_tru_non ?_
  | with_reducible refine s_tru_int ?_
  | with_reducible refine s_tru_tup ?_
  | with_reducible refine s_tru_lst ?_
  | with_reducible refine s_tand ?_
  | with_reducible refine s_tor ?_
  | with_reducible refine s_tnot ?_
  | with_reducible refine s_ktnot_t ?_
  | with_reducible refine s_ktnot_f ?_
  | with_reducible refine s_ktnot ?_
  | with_reducible refine s_or ?_
  | with_reducible refine s_and ?_
  | with_reducible refine s_not ?_
  | with_reducible refine s_korv ?_
  | with_reducible refine s_kandv ?_
  | with_reducible refine s_knot_t ?_
  | with_reducible refine s_knot_f ?_
  | with_reducible refine s_knot ?_
  | with_reducible refine s_ifE ?_
  | with_reducible refine s_unp ?_
  | ((with_reducible refine' s_kunp ?e ?e2 ?_); (case e => exact rfl); (case e2 => walk_at "set"))
  | with_reducible refine s_store ?_
  | with_reducible refine s_kst1 ?_
  | with_reducible refine s_kst2 ?_
  | ((with_reducible refine' s_kst3 ?e ?e2 ?e3 ?_); (case e => first | exact updM_same | assumption); (case e2 => exact rfl); (case e3 => walk_at "set"))
  | with_reducible refine s_un ?_
  | with_reducible refine s_kun ?_
  | with_reducible refine s_neg ?_
  | with_reducible refine s_int ?_
  | with_reducible refine s_intB ?_
  | ((with_reducible refine' s_tuple ?e ?_); (case e => walk_at "sq"))
  | ((with_reducible refine' s_list ?e ?_); (case e => walk_at "sq"))
  | ((with_reducible refine' s_isi ?e ?e2 ?e3 ?_); (case e => decide); (case e2 => exact rfl); (case e3 => first | exact (show isiN _ _ = true by decide) | exact (show isiN _ _ = false by decide)))
  | with_reducible refine s_chain ?_
  | with_reducible refine s_kch0 ?_
  | with_reducible refine s_kch1 ?_
  | with_reducible refine s_kch3 ?_
  | with_reducible refine s_sl ?_
  | with_reducible refine s_ksl0 ?_
  | with_reducible refine s_ksl1 ?_
  | with_reducible refine s_ksl2T ?_
  | with_reducible refine s_ksl2L ?_
  | with_reducible refine s_ksl2K ?_
  | with_reducible refine s_nopart ?_
  | with_reducible refine s_part ?_
  | with_reducible refine s_kpart ?_
  | with_reducible refine s_drop ?_
  | with_reducible refine s_kdrop ?_
  | with_reducible refine s_retN ?_
  | with_reducible refine s_mtL ?_
  | ((with_reducible refine' s_kmtL ?e ?_); (case e => first | exact isLst_ref updM_same | exact isLst_ref (by assumption)))
  | with_reducible refine s_kmt ?_
  | with_reducible refine s_mt0 ?_
  | with_reducible refine s_kmt0 ?_
  | with_reducible refine s_lc ?_
  | with_reducible refine s_for ?_
  | with_reducible refine s_seqI ?_
  | ((with_reducible refine' s_kseq ?e ?_); (case e => walk_at "sq"))
  | with_reducible refine s_rng1 ?_
  | with_reducible refine s_rng2 ?_
  | with_reducible refine s_rngA ?_
  | with_reducible refine s_kra ?_
  | with_reducible refine s_max2 ?_
  | with_reducible refine s_min2 ?_
  | with_reducible refine s_wh_t ?_
  | with_reducible refine s_wh_f ?_
  | with_reducible refine s_par ?_
  | ((with_reducible refine' s_kpar ?e ?_); (case e => exact rfl))
  | with_reducible refine s_break ?_
  | with_reducible refine s_cont ?_
  | ((with_reducible refine' s_aug ?e ?_); (case e => exact rfl))
  | with_reducible refine b_true ?_
  | with_reducible refine b_false ?_
  | with_reducible refine s_ktand_t ?_
  | with_reducible refine s_ktand_f ?_
  | with_reducible refine s_ktor_t ?_
  | with_reducible refine s_ktor_f ?_
  | with_reducible refine s_kor_t ?_
  | with_reducible refine s_kor_f ?_
  | with_reducible refine s_kand_t ?_
  | with_reducible refine s_kand_f ?_)
/-! a branch -/
local macro_rules | `(tactic| walk_at "b") => `(tactic| first
  | ((with_reducible_and_instances refine b_dec ?bt ?bf) <;> intro hc)
  | ((with_reducible_and_instances refine b_ndec ?bt ?bf) <;> intro hc)
  | ((with_reducible_and_instances refine s_wh_d ?bt ?bf) <;> intro hc)
  | ((with_reducible_and_instances refine s_wh_nd ?bt ?bf) <;> intro hc)
  | ((with_reducible_and_instances refine s_ktand_d ?bt ?bf) <;> intro hc)
  | ((with_reducible_and_instances refine s_ktor_d ?bt ?bf) <;> intro hc)
  | ((with_reducible_and_instances refine s_ktand_nd ?bt ?bf) <;> intro hc)
  | ((with_reducible_and_instances refine s_ktor_nd ?bt ?bf) <;> intro hc)
  | ((with_reducible_and_instances refine s_kand_d ?bt ?bf) <;> intro hc)
  | ((with_reducible_and_instances refine s_kor_d ?bt ?bf) <;> intro hc)
  | ((with_reducible_and_instances refine s_kifE_d ?bt ?bf) <;> intro hc)
  | ((with_reducible_and_instances refine s_kch2 ?bt ?bf) <;> intro hc))
local macro_rules | `(tactic| walk_at "g") => `(tactic| (repeat' (first | walk_at "s" | walk_at "b")))
local macro_rules | `(tactic| walk_at "w") => `(tactic| (walk_at "g" <;> repeat' (simp only [D.isN, Bool.not_true, Bool.not_false]; walk_at "g")))
local macro_rules | `(tactic| walk_at "y") => `(tactic| ((repeat' (walk_at "s")); first
  | refine b_dec (fun _ => ?_) (fun h => absurd rfl h)
  | refine s_ktand_d (fun _ => ?_) (fun h => absurd rfl h)
  | refine s_ktor_d (fun _ => ?_) (fun h => absurd rfl h)))
local macro_rules | `(tactic| walk_at "n") => `(tactic| ((repeat' (walk_at "s")); first
  | refine b_dec (fun h => absurd h (by decide)) (fun _ => ?_)
  | refine s_ktand_d (fun h => absurd h (by decide)) (fun _ => ?_)
  | refine s_ktor_d (fun h => absurd h (by decide)) (fun _ => ?_)))

/-! steps of DL25, DL27 by name -/
local macro_rules | `(tactic| walk_at "s") => `(tactic| first
  | with_reducible refine s_leS ?_
  | with_reducible refine s_strI ?_
  | with_reducible refine s_kstrI ?_
  | with_reducible refine s_enum ?_
  | with_reducible refine s_dc ?_
  | with_reducible refine s_keyT ?_
  | with_reducible refine s_tget ?_
  | with_reducible refine s_ktg1 ?_)

/-! steps of DL28, DL29 by name -/
local macro_rules | `(tactic| walk_at "s") => `(tactic| first
  | with_reducible refine s_join ?_
  | with_reducible refine s_kjn1 ?_
  | with_reducible refine s_disp ?_
  | ((with_reducible refine' s_pr ?e ?_); (case e => exact rfl))
  | with_reducible refine s_kpr2 ?_
  | with_reducible refine s_pr0 ?_
  | with_reducible refine s_kprc ?_
  | with_reducible refine s_dput ?_
  | with_reducible refine s_kpt1 ?_
  | with_reducible refine s_kpt2 ?_
  | with_reducible refine s_keyK ?_
  | with_reducible refine s_kget ?_)

def ltS (a b : Str) : Prop := ltCps a.cps.toList b.cps.toList = true

/-! the box of the laws about archives: what is drawn, and how far -/
abbrev kRow : Key := .inr "row"
abbrev kAt : Key := .inr "at"
abbrev boxO (ns : List Int) (i : Int) : MO := .dK [(kRow, .lst (ns.map .int)), (kAt, .int i)]
structure StOk (M : Mp) (a : Addr) : Prop where
  ex : ∃ (ns : List Int) (i : Int), M a = some (boxO ns i) ∧ ns ≠ [] ∧ ns.length ≤ 400
structure Drawn (M : Mp) (a : Addr) (M' : Mp) : Prop where
  ok : StOk M' a
  same : ∀ b, b ≠ a → M' b = M b
theorem Drawn.trans {M M1 M2 : Mp} {a : Addr} (h : Drawn M a M1) (g : Drawn M1 a M2) : Drawn M a M2 := ⟨g.ok, fun b hb => (g.same b hb).trans (h.same b hb)⟩
theorem StOk.keep {M M' : Mp} {a : Addr} (h : StOk M a) (e : M' a = M a) : StOk M' a := by
  obtain ⟨ns, i, h1, h2⟩ := h.ex
  exact ⟨⟨ns, i, e.trans h1, h2⟩⟩
theorem StOk.ne {M : Mp} {a t : Addr} (h : StOk M a) (e : M t = none) : a ≠ t := fun z => by
  subst z
  obtain ⟨ns, i, h1, h2⟩ := h.ex
  rw [e] at h1; cases h1
def sp_law_take : SpD := fun ds M Q _ => ∃ a lim, ds = [.ref a, .int lim] ∧ 0 < lim ∧ StOk M a ∧ ∀ d M', 0 ≤ d → d < lim → Drawn M a M' → Q (.int d) M'
def sp_law_digits : SpD := fun ds M Q _ => ∃ c : Int, ds = [.int c, .int 6] ∧ ∀ xs : List Int, xs.length ≤ 6 → Q (.lst (xs.map .int)) M
def sp_law_box : SpD := fun ds M Q _ => ∃ ns : List Int, ds = [.lsk (ns.map .int)] ∧ ns.length ≤ 63 ∧ ∀ a M', M a = none → StOk M' a → (∀ b, b ≠ a → M' b = M b) → Q (.ref a) M'
def sp_law_pick : SpD := fun ds M Q _ => ∃ a x es, ds = [.ref a, x] ∧ (x = .lst es ∨ x = .tup es) ∧ es ≠ [] ∧ es.length ≤ sizeLine ∧ StOk M a ∧ ∀ d M', d ∈ es → Drawn M a M' → Q d M'
/-- small letters -/
def Lw (z : Str) : Prop := ∀ c ∈ z.cps.toList, 97 ≤ c ∧ c ≤ 122
def sp_law_word : SpD := fun ds M Q _ => ∃ (a : Addr) (n : Nat), ds = [.ref a, .int n] ∧ n ≤ 100 ∧ StOk M a ∧ ∀ z M', z.length = n → Lw z → Drawn M a M' → Q (.str z) M'
/-- a name of an office, a kind, a record's own part -/
structure Nw (z : Str) : Prop where
  lw : Lw z
  lo : 1 ≤ z.length
  hi : z.length ≤ 11
structure Nws (ys : List Str) (n : Nat) : Prop where
  len : ys.length = n
  nm : ∀ z ∈ ys, Nw z
  asc : ys.Pairwise ltS
def sp_law_names : SpD := fun ds M Q _ => ∃ (a : Addr) (n : Nat), ds = [.ref a, .int n] ∧ n ≤ 20 ∧ StOk M a ∧ ∀ ys M', Nws ys n → Drawn M a M' → Q (.lst (ys.map .str)) M'

/-! ### archives -/
structure Kd where
  name : Str
  value : Int
  first : Int
  last : Int
def Kd.enc (k : Kd) : D := .tup [.str k.name, .int k.value, .int k.first, .int k.last]
structure Road where
  s : Str
  g : Str
  days : Int
def Road.enc (r : Road) : D := .tup [.str r.s, .str r.g, .int r.days]
inductive Wt where
  | used (ks : List Str) (o : Str) (d : Int)
  | sent (k o : Str) (d : Int) (g : Str) (e : Int)
  | plain (w k o : Str) (d : Int)
def Wt.enc : Wt → D
  | .used ks o d => .tup [.str "used", .tup (ks.map .str), .str o, .int d]
  | .sent k o d g e => .tup [.str "sent", .str k, .str o, .int d, .str g, .int e]
  | .plain w k o d => .tup [.str w, .str k, .str o, .int d]
structure Rec where
  name : Str
  what : Wt
  low : Int
  high : Option Int
  trust : Option Int
def encI : Option Int → D
  | none => .non
  | some i => .int i
def Rec.enc (r : Rec) : D := .tup [.str r.name, r.what.enc, .int r.low, encI r.high, encI r.trust]
structure Arc where
  last : Int
  offices : List Str
  kinds : List Kd
  roads : List Road
  records : List Rec
def Arc.enc (A : Arc) : D := .tup [.int A.last, .tup (A.offices.map .str), .tup (A.kinds.map Kd.enc), .tup (A.roads.map Road.enc), .tup (A.records.map Rec.enc)]
structure KdOk (k : Kd) : Prop where
  nm : Nw k.name
  v0 : 1 ≤ k.value
  v1 : k.value ≤ 100000
  f0 : 0 ≤ k.first
  fl : k.first ≤ k.last
  l1 : k.last ≤ 60
structure KdsOk (ks : List Kd) (n : Nat) : Prop where
  len : ks.length = n
  ok : ∀ k ∈ ks, KdOk k
  asc : (ks.map Kd.name).Pairwise ltS
structure RdOk (os : List Str) (r : Road) : Prop where
  s : r.s ∈ os
  g : r.g ∈ os
  ne : r.s ≠ r.g
  d : r.days = 1 ∨ r.days = 2 ∨ r.days = 60
def RdLt (a b : Road) : Prop := ltS a.s b.s ∨ (a.s = b.s ∧ ltS a.g b.g)
structure RdsOk (os : List Str) (rs : List Road) : Prop where
  len : rs.length ≤ os.length * os.length
  ok : ∀ r ∈ rs, RdOk os r
  asc : rs.Pairwise RdLt
/-- what a record tells: right for these offices and kinds -/
inductive WtOk (last : Int) (os : List Str) (ks : List Kd) : Wt → Prop
  | used {ns o d} (k : Kd) : k ∈ ks → (ns = [k.name] ∨ ns = (ks.filter fun x => decide (x.value = k.value)).map Kd.name) → o ∈ os → 0 ≤ d → d ≤ last → WtOk last os ks (.used ns o d)
  | sent {k o d g e} : k ∈ ks.map Kd.name → o ∈ os → g ∈ os → o ≠ g → 0 ≤ d → d < e → e ≤ last → WtOk last os ks (.sent k o d g e)
  | plain {w k o d} : w ∈ [("made" : Str), "sold", "kept", "burnt"] → k ∈ ks.map Kd.name → o ∈ os → 0 ≤ d → d ≤ last → WtOk last os ks (.plain w k o d)
structure AmOk (low : Int) (high trust : Option Int) : Prop where
  l0 : 0 ≤ low
  l1 : low ≤ 1000000000
  h : ∀ h, high = some h → low ≤ h ∧ h ≤ 1000000000
  t : ∀ t, trust = some t → 1 ≤ t ∧ t ≤ 1000
/-- a record's name: letters, sometimes a stroke and a number behind -/
def Rn (b z : Str) : Prop := Nw b ∧ (z = b ∨ ∃ i : Nat, i < 50 ∧ z = b ++ "/" ++ (toString (i : Int) : Str))
structure RecOk (last : Int) (os : List Str) (ks : List Kd) (r : Rec) : Prop where
  nm : ∃ b, Rn b r.name
  wt : WtOk last os ks r.what
  am : AmOk r.low r.high r.trust
structure RecsOk (last : Int) (os : List Str) (ks : List Kd) (rs : List Rec) : Prop where
  len : rs.length ≤ 20
  ok : ∀ r ∈ rs, RecOk last os ks r
  asc : rs.Pairwise fun a b => ltS a.name b.name
structure ArcOk (A : Arc) : Prop where
  l0 : 0 ≤ A.last
  l1 : A.last < 60
  os : Nws A.offices A.offices.length
  on : A.offices ≠ []
  ol : A.offices.length ≤ 20
  ks : KdsOk A.kinds A.kinds.length
  kn : A.kinds ≠ []
  kl : A.kinds.length ≤ 20
  rd : RdsOk A.offices A.roads
  rc : RecsOk A.last A.offices A.kinds A.records
def sp_law_kinds : SpD := fun ds M Q _ => ∃ (a : Addr) (n : Nat), ds = [.ref a, .int n] ∧ n ≤ 20 ∧ StOk M a ∧ ∀ ks M', KdsOk ks n → Drawn M a M' → Q (.tup (ks.map Kd.enc)) M'
def sp_law_roads : SpD := fun ds M Q _ => ∃ (a : Addr) (os : List Str), ds = [.ref a, .tup (os.map .str)] ∧ os.length ≤ 20 ∧ os.Pairwise ltS ∧ StOk M a ∧ ∀ rs M', RdsOk os rs → Drawn M a M' → Q (.tup (rs.map Road.enc)) M'
def sp_law_what : SpD := fun ds M Q _ => ∃ (a : Addr) (last : Int) (os : List Str) (ks : List Kd), ds = [.ref a, .int last, .tup (os.map .str), .tup (ks.map Kd.enc)] ∧ 0 ≤ last ∧ os ≠ [] ∧ os.length ≤ 20 ∧ ks ≠ [] ∧ ks.length ≤ 20 ∧ StOk M a ∧ ∀ w M', WtOk last os ks w → Drawn M a M' → Q w.enc M'
def sp_law_amounts : SpD := fun ds M Q _ => ∃ (a : Addr) (b : Bool), ds = [.ref a, .bl b] ∧ StOk M a ∧ ∀ low high trust M', AmOk low high trust → Drawn M a M' → Q (.tup [.int low, encI high, encI trust]) M'
def sp_law_records : SpD := fun ds M Q _ => ∃ (a : Addr) (last : Int) (os : List Str) (ks : List Kd) (n : Nat) (b : Bool), ds = [.ref a, .int last, .tup (os.map .str), .tup (ks.map Kd.enc), .int n, .bl b] ∧ 0 ≤ last ∧ os ≠ [] ∧ os.length ≤ 20 ∧ ks ≠ [] ∧ ks.length ≤ 20 ∧ Nws os os.length ∧ KdsOk ks ks.length ∧ n ≤ 20 ∧ StOk M a ∧ ∀ rs M', RecsOk last os ks rs → rs.length = n → Drawn M a M' → Q (.tup (rs.map Rec.enc)) M'
def sp_law_archive : SpD := fun ds M Q _ => ∃ (a : Addr) (d o k r : Int), ds = [.ref a, .int d, .int o, .int k, .int r] ∧ 1 ≤ d ∧ d ≤ 59 ∧ 1 ≤ o ∧ o ≤ 10 ∧ 1 ≤ k ∧ k ≤ 10 ∧ 0 ≤ r ∧ r ≤ 15 ∧ StOk M a ∧ ∀ (A : Arc) M', ArcOk A → A.last < d → (A.offices.length : Int) ≤ o → (A.kinds.length : Int) ≤ k → (A.records.length : Int) ≤ r → Drawn M a M' → Q A.enc M'

/-! ### moves -/
def keD : Key → D
  | .inl i => .int i
  | .inr s => .str s
abbrev tx (s : Str) : Key := .inr s
abbrev nu (i : Int) : Key := .inl i
def mvD (m : List Key) : D := .tup (m.map keD)
def spanB (ks : List Kd) (d : Int) (n : Str) : Bool := ks.any fun k => decide (k.name = n) && (decide (k.first ≤ d) && decide (d ≤ k.last))
def recMv (ks : List Kd) (r : Rec) : List (List Key) := match r.what with
  | .used ns _ d => [tx "seen", tx r.name] :: (ns.filter (spanB ks d)).map fun n => [tx "used", tx r.name, tx n]
  | .sent .. => [[tx "sent", tx r.name]]
  | .plain w _ _ _ => if w = "made" ∨ w = "burnt" then [[tx w, tx r.name]] else []
def spotMv (last : Int) (k o : Str) (d : Int) : List (List Key) := [[tx "kept", tx k, tx o, nu d], [tx "sold", tx k, tx o, nu d], [tx "gone", tx k, tx o, nu d]] ++ if d < last then [[tx "held", tx k, tx o, nu d]] else []
def roadMv (last : Int) (k : Str) (r : Road) : List (List Key) := (List.range (last + 1 - r.days).toNat).map fun i : Nat => [tx "carried", tx k, tx r.s, tx r.g, nu i]
def kindMv (A : Arc) (k : Kd) : List (List Key) := (A.offices.flatMap fun o => (List.range (A.last + 1).toNat).flatMap fun i : Nat => spotMv A.last k.name o i) ++ A.roads.flatMap (roadMv A.last k.name)
def movesL (A : Arc) : List (List Key) := A.records.flatMap (recMv A.kinds) ++ A.kinds.flatMap (kindMv A)
structure Row where
  m : List Key
  s : List Key
  g : List Key
def rowD (r : Row) : D := .tup [mvD r.m, mvD r.s, mvD r.g]
abbrev outK : List Key := [tx "outside"]
def recRows (ks : List Kd) (r : Rec) : List Row := match r.what with
  | .used ns o d => ⟨[tx "seen", tx r.name], [tx "seen", tx r.name], outK⟩ :: (ks.filter fun k => decide (k.name ∈ ns) && (decide (k.first ≤ d) && decide (d ≤ k.last))).map fun k => ⟨[tx "used", tx r.name, tx k.name], [tx "town", tx k.name, tx o, nu d], [tx "seen", tx r.name]⟩
  | .sent k o d g e => [⟨[tx "sent", tx r.name], [tx "stock", tx k, tx o, nu d], [tx "stock", tx k, tx g, nu e]⟩]
  | .plain w k o d => if w = "made" then [⟨[tx "made", tx r.name], outK, [tx "stock", tx k, tx o, nu d]⟩] else if w = "burnt" then [⟨[tx "burnt", tx r.name], [tx "stock", tx k, tx o, nu d], outK⟩] else []
def spotRows (last : Int) (k o : Str) (d : Int) : List Row :=
  [⟨[tx "sold", tx k, tx o, nu d], [tx "stock", tx k, tx o, nu d], [tx "town", tx k, tx o, nu d]⟩, ⟨[tx "gone", tx k, tx o, nu d], [tx "town", tx k, tx o, nu d], outK⟩] ++
  if d = last then [⟨[tx "kept", tx k, tx o, nu d], [tx "stock", tx k, tx o, nu d], outK⟩]
  else [⟨[tx "kept", tx k, tx o, nu d], [tx "stock", tx k, tx o, nu d], [tx "stock", tx k, tx o, nu (d + 1)]⟩, ⟨[tx "held", tx k, tx o, nu d], [tx "town", tx k, tx o, nu d], [tx "town", tx k, tx o, nu (d + 1)]⟩]
def roadRow (k : Str) (d : Int) (r : Road) : Row := ⟨[tx "carried", tx k, tx r.s, tx r.g, nu d], [tx "town", tx k, tx r.s, nu d], [tx "town", tx k, tx r.g, nu (d + r.days)]⟩
def dayRows (A : Arc) (k : Kd) (d : Int) : List Row := (A.offices.flatMap fun o => spotRows A.last k.name o d) ++ (A.roads.filter fun r => decide (d + r.days ≤ A.last)).map (roadRow k.name d)
def rowsL (A : Arc) : List Row := A.records.flatMap (recRows A.kinds) ++ A.kinds.flatMap fun k => (List.range (A.last + 1).toNat).flatMap fun i : Nat => dayRows A k i
def sp_spans_of : SpD := fun ds M Q _ => ∃ ks : List Kd, ds = [.tup (ks.map Kd.enc)] ∧ ks.length ≤ 20 ∧ (ks.map Kd.name).Nodup ∧ ∀ p, M p = none → Q (.ref p) (updM M p (.dK (ks.map fun k => (tx k.name, .tup [.int k.first, .int k.last]))))
def sp_record_moves : SpD := fun ds M Q _ => ∃ (last : Int) (os : List Str) (ks : List Kd) (r : Rec), ds = [.tup (ks.map Kd.enc), r.enc] ∧ KdsOk ks ks.length ∧ ks.length ≤ 20 ∧ RecOk last os ks r ∧ Q (.lst ((recMv ks r).map mvD)) M
def sp_law_record_rows : SpD := fun ds M Q _ => ∃ (last : Int) (os : List Str) (ks : List Kd) (r : Rec), ds = [.tup (ks.map Kd.enc), r.enc] ∧ KdsOk ks ks.length ∧ ks.length ≤ 20 ∧ RecOk last os ks r ∧ Q (.lst ((recRows ks r).map rowD)) M
def sp_law_spot_rows : SpD := fun ds M Q _ => ∃ (last : Int) (k o : Str) (d : Int), ds = [.int last, .str k, .str o, .int d] ∧ Q (.lst ((spotRows last k o d).map rowD)) M
def sp_law_moves : SpD := fun ds M Q _ => ∃ A : Arc, ds = [A.enc] ∧ ArcOk A ∧ ((rowsL A).length ≤ 1000000 → Q (.lst (sortD ((rowsL A).map rowD))) M)

def sp_moves_of : SpD := fun ds M Q _ => ∃ A : Arc, ds = [A.enc] ∧ ArcOk A ∧ ∀ p, M p = none → Q (.ref p) (updM M p (.lst (sortD ((movesL A).map mvD))))

/-! ### the places of an archive, the record of a name, the ends of a move -/
abbrev k_OUTSIDE : D := .tup [.str "outside"]
def seenPl (r : Rec) : List (List Key) := match r.what with
  | .used .. => [[tx "seen", tx r.name]]
  | _ => []
def atPl (L : Int) (w k o : Str) : List (List Key) := (List.range (L + 1).toNat).map fun i : Nat => [tx w, tx k, tx o, nu i]
def wordPl (A : Arc) (w : Str) : List (List Key) := A.kinds.flatMap fun k => A.offices.flatMap fun o => atPl A.last w k.name o
def placesL (A : Arc) : List (List Key) := outK :: (A.records.flatMap seenPl ++ (wordPl A "stock" ++ wordPl A "town"))
/-- the move of whose amount a record tells -/
def toldM (r : Rec) : List Key := match r.what with
  | .used .. => [tx "seen", tx r.name]
  | .sent .. => [tx "sent", tx r.name]
  | .plain w k o d => if w = "made" ∨ w = "burnt" then [tx w, tx r.name] else [tx w, tx k, tx o, nu d]
def recAt (A : Arc) (n : Str) : Option Rec := A.records.find? fun r => decide (r.name = n)
def sp_places_of : SpD := fun ds M Q _ => ∃ A : Arc, ds = [A.enc] ∧ ArcOk A ∧ ∀ p, M p = none → Q (.ref p) (updM M p (.lst ((placesL A).map mvD)))
def sp_record_of (C : Ct) : SpD := fun ds M Q E => ∃ (A : Arc) (n : Str), ds = [A.enc, .str n] ∧ ArcOk A ∧ (∀ r, recAt A n = some r → Q r.enc M) ∧ (recAt A n = none → E (exV C "UnknownName") (some [("name", .str n)]) M)
def sp_told_move : SpD := fun ds M Q _ => ∃ (last : Int) (os : List Str) (ks : List Kd) (r : Rec), ds = [r.enc] ∧ RecOk last os ks r ∧ Q (mvD (toldM r)) M
def sp_move_of (C : Ct) : SpD := fun ds M Q E => ∃ (A : Arc) (n : Str), ds = [A.enc, .str n] ∧ ArcOk A ∧ (∀ r, recAt A n = some r → Q (mvD (toldM r)) M) ∧ (recAt A n = none → E (exV C "UnknownName") (some [("name", .str n)]) M)
def sp_law_told : SpD := sp_told_move
def sp_record_ends : SpD := fun ds M Q _ => ∃ (ks : List Kd) (r : Rec) (w : Row), ds = [r.what.enc, mvD w.m] ∧ w ∈ recRows ks r ∧ Q (.tup [mvD w.s, mvD w.g]) M
def sp_plain_ends : SpD := fun ds M Q _ => ∃ (A : Arc) (k : Kd) (i : Nat) (w : Row), ds = [A.enc, mvD w.m] ∧ ArcOk A ∧ w ∈ dayRows A k i ∧ Q (.tup [mvD w.s, mvD w.g]) M
def sp_ends_of (C : Ct) : SpD := fun ds M Q _ => ∃ (A : Arc) (w : Row), ds = [A.enc, mvD w.m] ∧ ArcOk A ∧ w ∈ rowsL A ∧ Q (.tup [mvD w.s, mvD w.g]) M
def sp_law_found : SpD := fun ds M Q _ => ∃ (A : Arc) (n : Str), ds = [A.enc, .str n] ∧ ArcOk A ∧ recAt A n = none ∧ Q (.str n) M

/-! steps of DL30, DL32 by name -/
local macro_rules | `(tactic| walk_at "s") => `(tactic| first
  | with_reducible refine s_raiseO ?_
  | with_reducible refine s_krsO ?_
  | with_reducible refine s_tryAs ?_
  | with_reducible refine s_callS ?_
  | with_reducible refine s_kcallS ?_
  | with_reducible refine s_xf ?_
  | with_reducible refine s_dputT ?_
  | with_reducible refine s_kpT1 ?_
  | with_reducible refine s_kpT2 ?_
  | with_reducible refine s_disp1T ?_)

abbrev sp_law : SpD := spLawE

def t_spans_of : DS :=
    (dRet (dDc .dK (iSeqD (dVar 0)) true [1] [1] dYes (dKeyK (dOp dIx (dVar 1) (dC (.int 0)))) (dTup (dCons (dOp dIx (dVar 1) (dC (.int 2))) (dCons (dOp dIx (dVar 1) (dC (.int 3))) dNil)))))
abbrev n_spans_of : List Str := ["kinds", "kind"]
def t_places_of : DS :=
    (dSeq (dUnp [1, 2, 3, 4, 5] (dVar 0))
    (dSeq (dSet 6 (dLstM (dCons (dC k_OUTSIDE) dNil)))
    (dSeq (dFor (iSeqD (dVar 5)) (gD true [7]) (dIfS (dTest (dOp dEq (dOp dIx (dOp dIx (dVar 7) (dC (.int 1))) (dC (.int 0))) (dC (.str "used")))) (dDrop (dMtL dAppend (dVar 6) (dCons (dTup (dCons (dC (.str "seen")) (dCons (dOp dIx (dVar 7) (dC (.int 0))) dNil))) dNil))) dNext))
    (dSeq (dFor (iSeqD (dTup (dCons (dC (.str "stock")) (dCons (dC (.str "town")) dNil)))) (gD true [8]) (dFor (iSeqD (dVar 3)) (gD true [9]) (dFor (iSeqD (dVar 2)) (gD true [10]) (dFor (iRng1D (dCons (dOp dAdd (dVar 1) (dC (.int 1))) dNil)) (gD true [11]) (dDrop (dMtL dAppend (dVar 6) (dCons (dTup (dCons (dVar 8) (dCons (dOp dIx (dVar 9) (dC (.int 0))) (dCons (dVar 10) (dCons (dVar 11) dNil))))) dNil)))))))
    (dRet (dVar 6))))))
abbrev n_places_of : List Str := ["archive", "last", "offices", "kinds", "roads", "records", "places", "record", "word", "kind", "office", "day"]
def t_moves_of : DS :=
    (dSeq (dUnp [1, 2, 3, 4, 5] (dVar 0))
    (dSeq (dSet 6 (dLstM dNil))
    (dSeq (dFor (iSeqD (dVar 5)) (gD true [7]) (dSet 6 (dOp dAddM (dVar 6) (dCall sp_record_moves E0D (dCons (dVar 3) (dCons (dVar 7) dNil))))))
    (dSeq (dFor (iSeqD (dVar 3)) (gD true [8]) (dSeq (dFor (iSeqD (dVar 2)) (gD true [9]) (dFor (iRng1D (dCons (dOp dAdd (dVar 1) (dC (.int 1))) dNil)) (gD true [10]) (dSeq (dDrop (dMtL dAppend (dVar 6) (dCons (dTup (dCons (dC (.str "kept")) (dCons (dOp dIx (dVar 8) (dC (.int 0))) (dCons (dVar 9) (dCons (dVar 10) dNil))))) dNil)))
    (dSeq (dDrop (dMtL dAppend (dVar 6) (dCons (dTup (dCons (dC (.str "sold")) (dCons (dOp dIx (dVar 8) (dC (.int 0))) (dCons (dVar 9) (dCons (dVar 10) dNil))))) dNil)))
    (dSeq (dDrop (dMtL dAppend (dVar 6) (dCons (dTup (dCons (dC (.str "gone")) (dCons (dOp dIx (dVar 8) (dC (.int 0))) (dCons (dVar 9) (dCons (dVar 10) dNil))))) dNil)))
    (dIfS (dTest (dOp dLt (dVar 10) (dVar 1))) (dDrop (dMtL dAppend (dVar 6) (dCons (dTup (dCons (dC (.str "held")) (dCons (dOp dIx (dVar 8) (dC (.int 0))) (dCons (dVar 9) (dCons (dVar 10) dNil))))) dNil))) dNext))))))
    (dFor (iSeqD (dVar 4)) (gD false [11, 12, 13]) (dFor (iRng1D (dCons (dOp dSub (dOp dAdd (dVar 1) (dC (.int 1))) (dVar 13)) dNil)) (gD true [10]) (dDrop (dMtL dAppend (dVar 6) (dCons (dTup (dCons (dC (.str "carried")) (dCons (dOp dIx (dVar 8) (dC (.int 0))) (dCons (dVar 11) (dCons (dVar 12) (dCons (dVar 10) dNil)))))) dNil)))))))
    (dRet (dCB dSortedDM (dCons (dVar 6) dNil)))))))
abbrev n_moves_of : List Str := ["archive", "last", "offices", "kinds", "roads", "records", "moves", "record", "kind", "office", "day", "start", "goal", "days"]
def t_record_moves : DS :=
    (dSeq (dPar 2 3 (dCons (dOp dIx (dVar 1) (dC (.int 0))) (dCons (dOp dIx (dVar 1) (dC (.int 1))) dNil)))
    (dSeq (dIfS (dTest (dOp (dIn false) (dOp dIx (dVar 3) (dC (.int 0))) (dTup (dCons (dC (.str "made")) (dCons (dC (.str "sent")) (dCons (dC (.str "burnt")) dNil)))))) (dRet (dLstM (dCons (dTup (dCons (dOp dIx (dVar 3) (dC (.int 0))) (dCons (dVar 2) dNil))) dNil))) dNext)
    (dSeq (dIfS (dTest (dOp dNe (dOp dIx (dVar 3) (dC (.int 0))) (dC (.str "used")))) (dRet (dLstM dNil)) dNext)
    (dSeq (dSet 4 (dCall sp_spans_of E0D (dCons (dVar 0) dNil)))
    (dSeq (dSet 5 (dLstM (dCons (dTup (dCons (dC (.str "seen")) (dCons (dVar 2) dNil))) dNil)))
    (dSeq (dFor (iSeqD (dOp dIx (dVar 3) (dC (.int 1)))) (gD true [6]) (dIfS (dTest (dChain dLe dLe (dOp dIx (dKGet (dVar 4) (dVar 6)) (dC (.int 0))) (dOp dIx (dVar 3) (dC (.int 3))) (dOp dIx (dKGet (dVar 4) (dVar 6)) (dC (.int 1))))) (dDrop (dMtL dAppend (dVar 5) (dCons (dTup (dCons (dC (.str "used")) (dCons (dVar 2) (dCons (dVar 6) dNil)))) dNil))) dNext))
    (dRet (dVar 5))))))))
abbrev n_record_moves : List Str := ["kinds", "record", "name", "what", "spans", "moves", "kind"]
def t_record_of (C : Ct) (E : XD) : DS :=
    (dSeq (dFor (iSeqD (dOp dIx (dVar 0) (dC (.int 4)))) (gD true [2]) (dIfS (dTest (dOp dEq (dOp dIx (dVar 2) (dC (.int 0))) (dVar 1))) (dRet (dVar 2)) dNext))
    (dRaiseO (exV C "UnknownName") "name" (dCons (dVar 1) dNil) E))
abbrev n_record_of : List Str := ["archive", "name", "record"]
def t_move_of (C : Ct) (E : XD) : DS :=
    (dRet (dCall sp_told_move E0D (dCons (dCall (sp_record_of C) E (dCons (dVar 0) (dCons (dVar 1) dNil))) dNil)))
abbrev n_move_of : List Str := ["archive", "name"]
def t_told_move : DS :=
    (dSeq (dPar 1 2 (dCons (dOp dIx (dVar 0) (dC (.int 0))) (dCons (dOp dIx (dVar 0) (dC (.int 1))) dNil)))
    (dSeq (dIfS (dTest (dOp (dIn false) (dOp dIx (dVar 2) (dC (.int 0))) (dTup (dCons (dC (.str "made")) (dCons (dC (.str "sent")) (dCons (dC (.str "burnt")) dNil)))))) (dRet (dTup (dCons (dOp dIx (dVar 2) (dC (.int 0))) (dCons (dVar 1) dNil)))) dNext)
    (dSeq (dIfS (dTest (dOp dEq (dOp dIx (dVar 2) (dC (.int 0))) (dC (.str "used")))) (dRet (dTup (dCons (dC (.str "seen")) (dCons (dVar 1) dNil)))) dNext)
    (dRet (dVar 2)))))
abbrev n_told_move : List Str := ["record", "name", "what"]
def t_ends_of (C : Ct) (E : XD) : DS :=
    (dSeq (dIfS (dTest (dOp (dIn false) (dOp dIx (dVar 1) (dC (.int 0))) (dTup (dCons (dC (.str "made")) (dCons (dC (.str "sent")) (dCons (dC (.str "burnt")) (dCons (dC (.str "used")) (dCons (dC (.str "seen")) dNil)))))))) (dRet (dCall sp_record_ends E0D (dCons (dOp dIx (dCall (sp_record_of C) E (dCons (dVar 0) (dCons (dOp dIx (dVar 1) (dC (.int 1))) dNil))) (dC (.int 1))) (dCons (dVar 1) dNil)))) dNext)
    (dRet (dCall sp_plain_ends E0D (dCons (dVar 0) (dCons (dVar 1) dNil)))))
abbrev n_ends_of : List Str := ["archive", "move"]
def t_record_ends : DS :=
    (dSeq (dIfS (dTest (dOp dEq (dOp dIx (dVar 1) (dC (.int 0))) (dC (.str "seen")))) (dRet (dTup (dCons (dTup (dCons (dC (.str "seen")) (dCons (dOp dIx (dVar 1) (dC (.int 1))) dNil))) (dCons (dC k_OUTSIDE) dNil)))) dNext)
    (dSeq (dIfS (dTest (dOp dEq (dOp dIx (dVar 1) (dC (.int 0))) (dC (.str "used")))) (dRet (dTup (dCons (dTup (dCons (dC (.str "town")) (dCons (dOp dIx (dVar 1) (dC (.int 2))) (dCons (dOp dIx (dVar 0) (dC (.int 2))) (dCons (dOp dIx (dVar 0) (dC (.int 3))) dNil))))) (dCons (dTup (dCons (dC (.str "seen")) (dCons (dOp dIx (dVar 1) (dC (.int 1))) dNil))) dNil)))) dNext)
    (dSeq (dSet 2 (dTup (dCons (dC (.str "stock")) (dCons (dOp dIx (dVar 0) (dC (.int 1))) (dCons (dOp dIx (dVar 0) (dC (.int 2))) (dCons (dOp dIx (dVar 0) (dC (.int 3))) dNil))))))
    (dSeq (dIfS (dTest (dOp dEq (dOp dIx (dVar 1) (dC (.int 0))) (dC (.str "made")))) (dRet (dTup (dCons (dC k_OUTSIDE) (dCons (dVar 2) dNil)))) dNext)
    (dSeq (dIfS (dTest (dOp dEq (dOp dIx (dVar 1) (dC (.int 0))) (dC (.str "burnt")))) (dRet (dTup (dCons (dVar 2) (dCons (dC k_OUTSIDE) dNil)))) dNext)
    (dRet (dTup (dCons (dVar 2) (dCons (dTup (dCons (dC (.str "stock")) (dCons (dOp dIx (dVar 0) (dC (.int 1))) (dCons (dOp dIx (dVar 0) (dC (.int 4))) (dCons (dOp dIx (dVar 0) (dC (.int 5))) dNil))))) dNil)))))))))
abbrev n_record_ends : List Str := ["what", "move", "stock"]
def t_plain_ends : DS :=
    (dSeq (dIfS (dTest (dOp dEq (dOp dIx (dVar 1) (dC (.int 0))) (dC (.str "carried")))) (dSeq (dUnp [2, 3, 4, 5, 6] (dVar 1))
    (dSeq (dSet 7 (dOp dIx (dLc (iSeqD (dOp dIx (dVar 0) (dC (.int 3)))) true [8] [8] (dTest (dOp dEq (dSl (dVar 8) dNoPart (dPart (dC (.int 2)))) (dTup (dCons (dVar 4) (dCons (dVar 5) dNil))))) (dOp dIx (dVar 8) (dC (.int 2)))) (dC (.int 0))))
    (dRet (dTup (dCons (dTup (dCons (dC (.str "town")) (dCons (dVar 3) (dCons (dVar 4) (dCons (dVar 6) dNil))))) (dCons (dTup (dCons (dC (.str "town")) (dCons (dVar 3) (dCons (dVar 5) (dCons (dOp dAdd (dVar 6) (dVar 7)) dNil))))) dNil)))))) dNext)
    (dSeq (dUnp [2, 3, 9, 6] (dVar 1))
    (dSeq (dIfS (dTest (dOp dEq (dVar 2) (dC (.str "gone")))) (dRet (dTup (dCons (dTup (dCons (dC (.str "town")) (dCons (dVar 3) (dCons (dVar 9) (dCons (dVar 6) dNil))))) (dCons (dC k_OUTSIDE) dNil)))) dNext)
    (dSeq (dIfS (dTest (dOp dEq (dVar 2) (dC (.str "held")))) (dRet (dTup (dCons (dTup (dCons (dC (.str "town")) (dCons (dVar 3) (dCons (dVar 9) (dCons (dVar 6) dNil))))) (dCons (dTup (dCons (dC (.str "town")) (dCons (dVar 3) (dCons (dVar 9) (dCons (dOp dAdd (dVar 6) (dC (.int 1))) dNil))))) dNil)))) dNext)
    (dSeq (dIfS (dTest (dOp dEq (dVar 2) (dC (.str "sold")))) (dRet (dTup (dCons (dTup (dCons (dC (.str "stock")) (dCons (dVar 3) (dCons (dVar 9) (dCons (dVar 6) dNil))))) (dCons (dTup (dCons (dC (.str "town")) (dCons (dVar 3) (dCons (dVar 9) (dCons (dVar 6) dNil))))) dNil)))) dNext)
    (dSeq (dIfS (dTest (dOp dEq (dVar 6) (dOp dIx (dVar 0) (dC (.int 0))))) (dRet (dTup (dCons (dTup (dCons (dC (.str "stock")) (dCons (dVar 3) (dCons (dVar 9) (dCons (dVar 6) dNil))))) (dCons (dC k_OUTSIDE) dNil)))) dNext)
    (dRet (dTup (dCons (dTup (dCons (dC (.str "stock")) (dCons (dVar 3) (dCons (dVar 9) (dCons (dVar 6) dNil))))) (dCons (dTup (dCons (dC (.str "stock")) (dCons (dVar 3) (dCons (dVar 9) (dCons (dOp dAdd (dVar 6) (dC (.int 1))) dNil))))) dNil))))))))))
abbrev n_plain_ends : List Str := ["archive", "move", "word", "kind", "start", "goal", "day", "days", "road", "office"]
def t_law_digits_c2 : DS :=
    (dSeq (dSet 3 (dLstM dNil))
    (dSeq (dIfS (dTest (dOp dGe (dVar 2) (dOp dPow (dC (.int 10)) (dC (.int 18))))) (dSeq (dFor (iRng1D (dCons (dVar 1) dNil)) (gD true [4]) (dSeq (dDrop (dMtL dAppend (dVar 3) (dCons (dOp dMod (dCB dInt (dCons (dVar 2) dNil)) (dC (.int 1000003))) dNil)))
    (dSeq (dSet 2 (dOp dFdiv (dVar 2) (dC (.int 1000003))))
    (dIfS (dTest (dOp dEq (dVar 2) (dC (.int 0)))) dBreak dNext))))
    (dRet (dVar 3))) dNext)
    (dSeq (dFor (iRng1D (dCons (dVar 1) dNil)) (gD true [4]) (dSeq (dSet 5 (dOp dMod (dCB dInt (dCons (dOp dMul (dOp dAdd (dOp dAdd (dVar 2) (dOp dMul (dC (.int 11)) (dVar 4))) (dC (.int 3))) (dC (.int 48271))) dNil)) (dC (.int 2147483647))))
    (dSeq (dSet 5 (dOp dMod (dCB dInt (dCons (dOp dAdd (dOp dAdd (dOp dMul (dVar 5) (dC (.int 69621))) (dOp dMul (dC (.int 37)) (dVar 4))) (dC (.int 5))) dNil)) (dC (.int 2147483629))))
    (dDrop (dMtL dAppend (dVar 3) (dCons (dOp dMod (dCB dInt (dCons (dOp dFdiv (dVar 5) (dC (.int 5))) dNil)) (dC (.int 1000003))) dNil))))))
    (dRet (dVar 3)))))
def t_law_digits : DS :=
    (dSeq (dSet 2 (dVar 0))
    (dSeq (dIfS (dTest (dOp dLt (dVar 2) (dC (.int 0)))) (dSet 2 (dOp dSub (dOp dSub (dC (.int 0)) (dC (.int 1))) (dVar 2))) dNext)
    t_law_digits_c2))
abbrev n_law_digits : List Str := ["cell", "count", "number", "row", "k", "mixed"]
def t_law_box : DS :=
    (dSeq (dSet 1 (dLst dNil))
    (dSeq (dFor (iSeqD (dVar 0)) (gD true [2]) (dSet 1 (dOp dAdd (dVar 1) (dCall sp_law_digits E0D (dCons (dVar 2) (dCons (dC (.int 6)) dNil))))))
    (dSeq (dIfS (dTest (dOp dEq (dCB dLen (dCons (dVar 1) dNil)) (dC (.int 0)))) (dSet 1 (dLst (dCons (dC (.int 5)) (dCons (dC (.int 77)) (dCons (dC (.int 1031)) (dCons (dC (.int 40009)) (dCons (dC (.int 3)) (dCons (dC (.int 900001)) (dCons (dC (.int 12)) dNil))))))))) dNext)
    (dRet (dDisp [((dC (.str "row")), (dVar 1)), ((dC (.str "at")), (dC (.int 0)))])))))
abbrev n_law_box : List Str := ["script", "row", "cell"]
def t_law_take : DS :=
    (dSeq (dSet 2 (dKGet (dVar 0) (dC (.str "at"))))
    (dSeq (dDPut (dVar 0) (dC (.str "at")) (dOp dAdd (dVar 2) (dC (.int 1))))
    (dSeq (dSet 3 (dOp dIx (dKGet (dVar 0) (dC (.str "row"))) (dOp dMod (dCB dInt (dCons (dVar 2) dNil)) (dCB dLen (dCons (dKGet (dVar 0) (dC (.str "row"))) dNil)))))
    (dRet (dOp dMod (dCB dInt (dCons (dOp dAdd (dVar 3) (dOp dMul (dC (.int 104729)) (dOp dFdiv (dVar 2) (dCB dLen (dCons (dKGet (dVar 0) (dC (.str "row"))) dNil))))) dNil)) (dVar 1))))))
abbrev n_law_take : List Str := ["box", "many", "at", "number"]
def t_law_pick : DS :=
    (dRet (dOp dIx (dVar 1) (dCall sp_law_take E0D (dCons (dVar 0) (dCons (dCB dLen (dCons (dVar 1) dNil)) dNil)))))
abbrev n_law_pick : List Str := ["box", "row"]
def t_law_word : DS :=
    (dRet (dJoin (dC (.str "")) (dLc (iRng1D (dCons (dVar 1) dNil)) true [2] [2] dYes (dOp dIx (dC (.str "abcdefghijklmnopqrstuvwxyz")) (dCall sp_law_take E0D (dCons (dVar 0) (dCons (dC (.int 26)) dNil)))))))
abbrev n_law_word : List Str := ["box", "size", "k"]
def t_law_names : DS :=
    (dSeq (dSet 2 (dCall sp_law_word E0D (dCons (dVar 0) (dCons (dCall sp_law_take E0D (dCons (dVar 0) (dCons (dC (.int 8)) dNil))) dNil))))
    (dSeq (dSet 3 (dCall sp_law_take E0D (dCons (dVar 0) (dCons (dOp dAdd (dCB dLen (dCons (dVar 2) dNil)) (dC (.int 1))) dNil))))
    (dSeq (dSet 4 (dCall sp_law_take E0D (dCons (dVar 0) (dCons (dC (.int 26)) dNil))))
    (dSeq (dSet 5 (dCall sp_law_take E0D (dCons (dVar 0) (dCons (dC (.int 2)) dNil))))
    (dSeq (dSet 6 (dLstM dNil))
    (dSeq (dFor (iRng1D (dCons (dVar 1) dNil)) (gD true [7]) (dSeq (dSet 8 (dOp dIx (dC (.str "abcdefghijklmnopqrstuvwxyz")) (dOp dMod (dCB dInt (dCons (dOp dAdd (dVar 4) (dOp dMul (dC (.int 5)) (dVar 7))) dNil)) (dC (.int 26)))))
    (dSeq (dSet 9 (dC (.str "")))
    (dSeq (dIfS (dTest (dOp dEq (dVar 5) (dC (.int 1)))) (dSet 9 (dCall sp_law_word E0D (dCons (dVar 0) (dCons (dCall sp_law_take E0D (dCons (dVar 0) (dCons (dC (.int 4)) dNil))) dNil)))) dNext)
    (dDrop (dMtL dAppend (dVar 6) (dCons (dOp dAdd (dOp dAdd (dOp dAdd (dSl (dVar 2) dNoPart (dPart (dVar 3))) (dVar 8)) (dSl (dVar 2) (dPart (dVar 3)) dNoPart)) (dVar 9)) dNil)))))))
    (dRet (dCB dSortedS (dCons (dVar 6) dNil)))))))))
abbrev n_law_names : List Str := ["box", "many", "base", "place", "first", "unlike", "names", "k", "letter", "tail"]
def t_law_kinds : DS :=
    (dSeq (dSet 2 (dLst (dCons (dOp dAdd (dC (.int 1)) (dCall sp_law_take E0D (dCons (dVar 0) (dCons (dC (.int 100000)) dNil)))) (dCons (dOp dAdd (dC (.int 1)) (dCall sp_law_take E0D (dCons (dVar 0) (dCons (dC (.int 12)) dNil)))) dNil))))
    (dSeq (dSet 3 (dLstM dNil))
    (dSeq (dFor (iSeqD (dCall sp_law_names E0D (dCons (dVar 0) (dCons (dVar 1) dNil)))) (gD true [4]) (dSeq (dSet 5 (dC (.int 0)))
    (dSeq (dSet 6 (dC (.int 60)))
    (dSeq (dIfS (dTest (dOp dEq (dCall sp_law_take E0D (dCons (dVar 0) (dCons (dC (.int 4)) dNil))) (dC (.int 0)))) (dSeq (dSet 5 (dCall sp_law_take E0D (dCons (dVar 0) (dCons (dC (.int 3)) dNil))))
    (dSet 6 (dOp dAdd (dVar 5) (dCall sp_law_take E0D (dCons (dVar 0) (dCons (dC (.int 3)) dNil)))))) dNext)
    (dDrop (dMtL dAppend (dVar 3) (dCons (dTup (dCons (dVar 4) (dCons (dOp dIx (dVar 2) (dCB dInt (dCons (dOp dGt (dCall sp_law_take E0D (dCons (dVar 0) (dCons (dC (.int 3)) dNil))) (dC (.int 0))) dNil))) (dCons (dVar 5) (dCons (dVar 6) dNil))))) dNil)))))))
    (dRet (dCB dTuple (dCons (dVar 3) dNil))))))
abbrev n_law_kinds : List Str := ["box", "many", "values", "rows", "name", "first", "until"]
def t_law_roads : DS :=
    (dSeq (dSet 2 (dLstM dNil))
    (dSeq (dFor (iSeqD (dVar 1)) (gD true [3]) (dFor (iSeqD (dVar 1)) (gD true [4]) (dIfS (dTAnd (dTest (dOp dNe (dVar 3) (dVar 4))) (dTest (dOp dGt (dCall sp_law_take E0D (dCons (dVar 0) (dCons (dC (.int 3)) dNil))) (dC (.int 0))))) (dDrop (dMtL dAppend (dVar 2) (dCons (dTup (dCons (dVar 3) (dCons (dVar 4) (dCons (dCall sp_law_pick E0D (dCons (dVar 0) (dCons (dLst (dCons (dC (.int 1)) (dCons (dC (.int 1)) (dCons (dC (.int 2)) (dCons (dC (.int 60)) dNil))))) dNil))) dNil)))) dNil))) dNext)))
    (dRet (dCB dTuple (dCons (dVar 2) dNil)))))
abbrev n_law_roads : List Str := ["box", "offices", "rows", "start", "goal"]
def t_law_what : DS :=
    (dSeq (dSet 4 (dCall sp_law_pick E0D (dCons (dVar 0) (dCons (dLst (dCons (dC (.str "made")) (dCons (dC (.str "made")) (dCons (dC (.str "made")) (dCons (dC (.str "used")) (dCons (dC (.str "used")) (dCons (dC (.str "sold")) (dCons (dC (.str "kept")) (dCons (dC (.str "burnt")) (dCons (dC (.str "sent")) dNil)))))))))) dNil))))
    (dSeq (dSet 5 (dCall sp_law_pick E0D (dCons (dVar 0) (dCons (dVar 3) dNil))))
    (dSeq (dSet 6 (dCall sp_law_pick E0D (dCons (dVar 0) (dCons (dVar 2) dNil))))
    (dSeq (dSet 7 (dCall sp_law_take E0D (dCons (dVar 0) (dCons (dOp dAdd (dVar 1) (dC (.int 1))) dNil))))
    (dSeq (dIfS (dTest (dOp dEq (dVar 4) (dC (.str "used")))) (dSeq (dSet 8 (dLc (iSeqD (dVar 3)) true [9] [9] (dTest (dOp dEq (dOp dIx (dVar 9) (dC (.int 1))) (dOp dIx (dVar 5) (dC (.int 1))))) (dOp dIx (dVar 9) (dC (.int 0)))))
    (dSeq (dIfS (dTest (dOp dEq (dCall sp_law_take E0D (dCons (dVar 0) (dCons (dC (.int 3)) dNil))) (dC (.int 0)))) (dSet 8 (dLst (dCons (dOp dIx (dVar 5) (dC (.int 0))) dNil))) dNext)
    (dRet (dTup (dCons (dC (.str "used")) (dCons (dCB dTuple (dCons (dVar 8) dNil)) (dCons (dVar 6) (dCons (dVar 7) dNil)))))))) dNext)
    (dSeq (dIfS (dTest (dOp dEq (dVar 4) (dC (.str "sent")))) (dSeq (dSet 10 (dLc (iSeqD (dVar 2)) true [9] [9] (dTest (dOp dNe (dVar 9) (dVar 6))) (dVar 9)))
    (dSeq (dIfS (dTAnd (dTest (dOp dGt (dCB dLen (dCons (dVar 10) dNil)) (dC (.int 0)))) (dTest (dOp dGt (dVar 1) (dC (.int 0))))) (dSeq (dSet 7 (dCall sp_law_take E0D (dCons (dVar 0) (dCons (dVar 1) dNil))))
    (dRet (dTup (dCons (dC (.str "sent")) (dCons (dOp dIx (dVar 5) (dC (.int 0))) (dCons (dVar 6) (dCons (dVar 7) (dCons (dCall sp_law_pick E0D (dCons (dVar 0) (dCons (dVar 10) dNil))) (dCons (dOp dAdd (dOp dAdd (dVar 7) (dC (.int 1))) (dCall sp_law_take E0D (dCons (dVar 0) (dCons (dOp dSub (dVar 1) (dVar 7)) dNil)))) dNil))))))))) dNext)
    (dSet 4 (dC (.str "made"))))) dNext)
    (dRet (dTup (dCons (dVar 4) (dCons (dOp dIx (dVar 5) (dC (.int 0))) (dCons (dVar 6) (dCons (dVar 7) dNil))))))))))))
abbrev n_law_what : List Str := ["box", "last", "offices", "kinds", "word", "kind", "office", "day", "alike", "other", "others"]
def t_law_amounts_c4 : DS :=
    (dSeq (dSet 4 (dCall sp_law_pick E0D (dCons (dVar 0) (dCons (dLst (dCons (dC .non) (dCons (dC (.int 1)) (dCons (dOp dAdd (dC (.int 1)) (dCall sp_law_take E0D (dCons (dVar 0) (dCons (dC (.int 5)) dNil)))) (dCons (dOp dAdd (dC (.int 1)) (dCall sp_law_take E0D (dCons (dVar 0) (dCons (dC (.int 1000)) dNil)))) (dCons (dC (.int 1000)) dNil)))))) dNil))))
    (dRet (dTup (dCons (dVar 2) (dCons (dVar 3) (dCons (dVar 4) dNil))))))
def t_law_amounts_c3 : DS :=
    (dSeq (dIfS (dTAnd (dTest (dOp dNotN (dVar 3) (dC .non))) (dTest (dOp dGt (dVar 3) (dOp dPow (dC (.int 10)) (dC (.int 9)))))) (dSet 3 (dOp dPow (dC (.int 10)) (dC (.int 9)))) dNext)
    t_law_amounts_c4)
def t_law_amounts_c2 : DS :=
    (dSeq (dSet 3 (dCall sp_law_pick E0D (dCons (dVar 0) (dCons (dLst (dCons (dC .non) (dCons (dVar 2) (dCons (dVar 2) (dCons (dOp dAdd (dVar 2) (dCall sp_law_take E0D (dCons (dVar 0) (dCons (dC (.int 4)) dNil)))) dNil))))) dNil))))
    t_law_amounts_c3)
def t_law_amounts : DS :=
    (dSeq (dSet 2 (dCall sp_law_take E0D (dCons (dVar 0) (dCons (dC (.int 6)) dNil))))
    (dSeq (dIfS (dTruth (dVar 1)) (dSet 2 (dOp dMod (dOp dMul (dCall sp_law_take E0D (dCons (dVar 0) (dCons (dC (.int 1000)) dNil))) (dCall sp_law_take E0D (dCons (dVar 0) (dCons (dC (.int 1000003)) dNil)))) (dC (.int 1000000001)))) dNext)
    t_law_amounts_c2))
abbrev n_law_amounts : List Str := ["box", "great", "low", "high", "trust"]
def t_law_records_c1_1 : DS :=
    (dSeq (dUnp [8, 9, 10] (dCall sp_law_amounts E0D (dCons (dVar 0) (dCons (dVar 5) dNil))))
    (dDrop (dMtL dAppend (dVar 6) (dCons (dTup (dCons (dVar 7) (dCons (dCall sp_law_what E0D (dCons (dVar 0) (dCons (dVar 1) (dCons (dVar 2) (dCons (dVar 3) dNil))))) (dCons (dVar 8) (dCons (dVar 9) (dCons (dVar 10) dNil)))))) dNil))))
def t_law_records : DS :=
    (dSeq (dSet 6 (dLstM dNil))
    (dSeq (dFor (iSeqD (dCall sp_law_names E0D (dCons (dVar 0) (dCons (dVar 4) dNil)))) (gD true [7]) (dSeq (dIfS (dTest (dOp dEq (dCall sp_law_take E0D (dCons (dVar 0) (dCons (dC (.int 3)) dNil))) (dC (.int 0)))) (dSet 7 (dOp dAdd (dOp dAdd (dVar 7) (dC (.str "/"))) (dCB dStrI (dCons (dCall sp_law_take E0D (dCons (dVar 0) (dCons (dC (.int 50)) dNil))) dNil)))) dNext)
    t_law_records_c1_1))
    (dRet (dCB dTuple (dCons (dCB dSortedD (dCons (dVar 6) dNil)) dNil)))))
abbrev n_law_records : List Str := ["box", "last", "offices", "kinds", "many", "great", "rows", "name", "low", "high", "trust"]
def t_law_archive : DS :=
    (dSeq (dSet 5 (dCall sp_law_take E0D (dCons (dVar 0) (dCons (dVar 1) dNil))))
    (dSeq (dSet 6 (dCB dTuple (dCons (dCall sp_law_names E0D (dCons (dVar 0) (dCons (dOp dAdd (dC (.int 1)) (dCall sp_law_take E0D (dCons (dVar 0) (dCons (dVar 2) dNil)))) dNil))) dNil)))
    (dSeq (dSet 7 (dCall sp_law_kinds E0D (dCons (dVar 0) (dCons (dOp dAdd (dC (.int 1)) (dCall sp_law_take E0D (dCons (dVar 0) (dCons (dVar 3) dNil)))) dNil))))
    (dSeq (dSet 8 (dOp dEq (dCall sp_law_take E0D (dCons (dVar 0) (dCons (dC (.int 4)) dNil))) (dC (.int 0))))
    (dSeq (dSet 9 (dCall sp_law_records E0D (dCons (dVar 0) (dCons (dVar 5) (dCons (dVar 6) (dCons (dVar 7) (dCons (dCall sp_law_take E0D (dCons (dVar 0) (dCons (dOp dAdd (dVar 4) (dC (.int 1))) dNil))) (dCons (dVar 8) dNil))))))))
    (dRet (dTup (dCons (dVar 5) (dCons (dVar 6) (dCons (dVar 7) (dCons (dCall sp_law_roads E0D (dCons (dVar 0) (dCons (dVar 6) dNil))) (dCons (dVar 9) dNil))))))))))))
abbrev n_law_archive : List Str := ["box", "most_days", "most_offices", "most_kinds", "most_records", "last", "offices", "kinds", "great", "records"]
def t_law_told : DS :=
    (dSeq (dUnp [1, 2, 3, 4, 5] (dVar 0))
    (dSeq (dIfS (dTest (dOp (dIn false) (dOp dIx (dVar 2) (dC (.int 0))) (dTup (dCons (dC (.str "made")) (dCons (dC (.str "sent")) (dCons (dC (.str "burnt")) dNil)))))) (dRet (dTup (dCons (dOp dIx (dVar 2) (dC (.int 0))) (dCons (dVar 1) dNil)))) dNext)
    (dSeq (dIfS (dTest (dOp dEq (dOp dIx (dVar 2) (dC (.int 0))) (dC (.str "used")))) (dRet (dTup (dCons (dC (.str "seen")) (dCons (dVar 1) dNil)))) dNext)
    (dRet (dVar 2)))))
abbrev n_law_told : List Str := ["record", "name", "what", "low", "high", "trust"]
def t_law_record_rows : DS :=
    (dSeq (dUnp [2, 3, 4, 5, 6] (dVar 1))
    (dSeq (dSet 7 (dTup (dCons (dC (.str "outside")) dNil)))
    (dSeq (dIfS (dTest (dOp (dIn false) (dOp dIx (dVar 3) (dC (.int 0))) (dTup (dCons (dC (.str "sold")) (dCons (dC (.str "kept")) dNil))))) (dRet (dLstM dNil)) dNext)
    (dSeq (dIfS (dTest (dOp dEq (dOp dIx (dVar 3) (dC (.int 0))) (dC (.str "used")))) (dSeq (dSet 8 (dLstM (dCons (dTup (dCons (dTup (dCons (dC (.str "seen")) (dCons (dVar 2) dNil))) (dCons (dTup (dCons (dC (.str "seen")) (dCons (dVar 2) dNil))) (dCons (dVar 7) dNil)))) dNil)))
    (dSeq (dFor (iSeqD (dVar 0)) (gD true [9]) (dIfS (dTAnd (dTest (dOp (dIn false) (dOp dIx (dVar 9) (dC (.int 0))) (dOp dIx (dVar 3) (dC (.int 1))))) (dTAnd (dTest (dOp dLe (dOp dIx (dVar 9) (dC (.int 2))) (dOp dIx (dVar 3) (dC (.int 3))))) (dTest (dOp dLe (dOp dIx (dVar 3) (dC (.int 3))) (dOp dIx (dVar 9) (dC (.int 3))))))) (dDrop (dMtL dAppend (dVar 8) (dCons (dTup (dCons (dTup (dCons (dC (.str "used")) (dCons (dVar 2) (dCons (dOp dIx (dVar 9) (dC (.int 0))) dNil)))) (dCons (dTup (dCons (dC (.str "town")) (dCons (dOp dIx (dVar 9) (dC (.int 0))) (dCons (dOp dIx (dVar 3) (dC (.int 2))) (dCons (dOp dIx (dVar 3) (dC (.int 3))) dNil))))) (dCons (dTup (dCons (dC (.str "seen")) (dCons (dVar 2) dNil))) dNil)))) dNil))) dNext))
    (dRet (dVar 8)))) dNext)
    (dSeq (dSet 10 (dTup (dCons (dC (.str "stock")) (dCons (dOp dIx (dVar 3) (dC (.int 1))) (dCons (dOp dIx (dVar 3) (dC (.int 2))) (dCons (dOp dIx (dVar 3) (dC (.int 3))) dNil))))))
    (dSeq (dIfS (dTest (dOp dEq (dOp dIx (dVar 3) (dC (.int 0))) (dC (.str "made")))) (dRet (dLstM (dCons (dTup (dCons (dTup (dCons (dC (.str "made")) (dCons (dVar 2) dNil))) (dCons (dVar 7) (dCons (dVar 10) dNil)))) dNil))) dNext)
    (dSeq (dIfS (dTest (dOp dEq (dOp dIx (dVar 3) (dC (.int 0))) (dC (.str "burnt")))) (dRet (dLstM (dCons (dTup (dCons (dTup (dCons (dC (.str "burnt")) (dCons (dVar 2) dNil))) (dCons (dVar 10) (dCons (dVar 7) dNil)))) dNil))) dNext)
    (dRet (dLstM (dCons (dTup (dCons (dTup (dCons (dC (.str "sent")) (dCons (dVar 2) dNil))) (dCons (dVar 10) (dCons (dTup (dCons (dC (.str "stock")) (dCons (dOp dIx (dVar 3) (dC (.int 1))) (dCons (dOp dIx (dVar 3) (dC (.int 4))) (dCons (dOp dIx (dVar 3) (dC (.int 5))) dNil))))) dNil)))) dNil))))))))))
abbrev n_law_record_rows : List Str := ["kinds", "record", "name", "what", "low", "high", "trust", "outside", "rows", "kind", "stock"]
def t_law_spot_rows : DS :=
    (dSeq (dSet 4 (dTup (dCons (dC (.str "stock")) (dCons (dVar 1) (dCons (dVar 2) (dCons (dVar 3) dNil))))))
    (dSeq (dSet 5 (dTup (dCons (dC (.str "town")) (dCons (dVar 1) (dCons (dVar 2) (dCons (dVar 3) dNil))))))
    (dSeq (dSet 6 (dLstM (dCons (dTup (dCons (dTup (dCons (dC (.str "sold")) (dCons (dVar 1) (dCons (dVar 2) (dCons (dVar 3) dNil))))) (dCons (dVar 4) (dCons (dVar 5) dNil)))) (dCons (dTup (dCons (dTup (dCons (dC (.str "gone")) (dCons (dVar 1) (dCons (dVar 2) (dCons (dVar 3) dNil))))) (dCons (dVar 5) (dCons (dTup (dCons (dC (.str "outside")) dNil)) dNil)))) dNil))))
    (dSeq (dIfS (dTest (dOp dEq (dVar 3) (dVar 0))) (dDrop (dMtL dAppend (dVar 6) (dCons (dTup (dCons (dTup (dCons (dC (.str "kept")) (dCons (dVar 1) (dCons (dVar 2) (dCons (dVar 3) dNil))))) (dCons (dVar 4) (dCons (dTup (dCons (dC (.str "outside")) dNil)) dNil)))) dNil))) (dSeq (dDrop (dMtL dAppend (dVar 6) (dCons (dTup (dCons (dTup (dCons (dC (.str "kept")) (dCons (dVar 1) (dCons (dVar 2) (dCons (dVar 3) dNil))))) (dCons (dVar 4) (dCons (dTup (dCons (dC (.str "stock")) (dCons (dVar 1) (dCons (dVar 2) (dCons (dOp dAdd (dVar 3) (dC (.int 1))) dNil))))) dNil)))) dNil)))
    (dDrop (dMtL dAppend (dVar 6) (dCons (dTup (dCons (dTup (dCons (dC (.str "held")) (dCons (dVar 1) (dCons (dVar 2) (dCons (dVar 3) dNil))))) (dCons (dVar 5) (dCons (dTup (dCons (dC (.str "town")) (dCons (dVar 1) (dCons (dVar 2) (dCons (dOp dAdd (dVar 3) (dC (.int 1))) dNil))))) dNil)))) dNil)))))
    (dRet (dVar 6))))))
abbrev n_law_spot_rows : List Str := ["last", "kind", "office", "day", "stock", "town", "rows"]
def t_law_moves : DS :=
    (dSeq (dUnp [1, 2, 3, 4, 5] (dVar 0))
    (dSeq (dSet 6 (dLstM dNil))
    (dSeq (dFor (iSeqD (dVar 5)) (gD true [7]) (dSet 6 (dOp dAddM (dVar 6) (dCall sp_law_record_rows E0D (dCons (dVar 3) (dCons (dVar 7) dNil))))))
    (dSeq (dFor (iSeqD (dVar 3)) (gD true [8]) (dFor (iRng1D (dCons (dOp dAdd (dVar 1) (dC (.int 1))) dNil)) (gD true [9]) (dSeq (dFor (iSeqD (dVar 2)) (gD true [10]) (dSet 6 (dOp dAddM (dVar 6) (dCall sp_law_spot_rows E0D (dCons (dVar 1) (dCons (dOp dIx (dVar 8) (dC (.int 0))) (dCons (dVar 10) (dCons (dVar 9) dNil))))))))
    (dFor (iSeqD (dVar 4)) (gD true [11]) (dIfS (dTest (dOp dLe (dOp dAdd (dVar 9) (dOp dIx (dVar 11) (dC (.int 2)))) (dVar 1))) (dSeq (dSet 12 (dTup (dCons (dC (.str "town")) (dCons (dOp dIx (dVar 8) (dC (.int 0))) (dCons (dOp dIx (dVar 11) (dC (.int 0))) (dCons (dVar 9) dNil))))))
    (dSeq (dSet 13 (dTup (dCons (dC (.str "town")) (dCons (dOp dIx (dVar 8) (dC (.int 0))) (dCons (dOp dIx (dVar 11) (dC (.int 1))) (dCons (dOp dAdd (dVar 9) (dOp dIx (dVar 11) (dC (.int 2)))) dNil))))))
    (dDrop (dMtL dAppend (dVar 6) (dCons (dTup (dCons (dTup (dCons (dC (.str "carried")) (dCons (dOp dIx (dVar 8) (dC (.int 0))) (dCons (dOp dIx (dVar 11) (dC (.int 0))) (dCons (dOp dIx (dVar 11) (dC (.int 1))) (dCons (dVar 9) dNil)))))) (dCons (dVar 12) (dCons (dVar 13) dNil)))) dNil))))) dNext)))))
    (dRet (dCB dSortedD (dCons (dVar 6) dNil)))))))
abbrev n_law_moves : List Str := ["archive", "last", "offices", "kinds", "roads", "records", "rows", "record", "kind", "day", "office", "road", "start", "goal"]
def t_law_found (C : Ct) : DS :=
    (dSeq (dTryAs 2 (fun E => (dDrop (dCallS (sp_move_of C) E (dCons (dVar 0) (dCons (dVar 1) dNil))))) (exV C "UnknownName") (fun a fs => (dSeq (dIfS (dTOr (dTruth (dCB (dIsE a (exV C "TooLarge") false) (dCons (dVar 2) (dCons (dCls (exV C "TooLarge")) dNil)))) (dTOr (dTruth (dCB (dIsE a (exV C "NoHistory") false) (dCons (dVar 2) (dCons (dCls (exV C "NoHistory")) dNil)))) (dTruth (dCB (dIsE a (exV C "InvalidLine") false) (dCons (dVar 2) (dCons (dCls (exV C "InvalidLine")) dNil)))))) (dRet (dC .non)) dNext)
    (dRet (dXf a fs "name" (dVar 2))))))
    (dRet (dC .non)))
abbrev n_law_found : List Str := ["archive", "name", "e"]
def t_law (C : Ct) : DS :=
    (dSeq (dSet 1 (dCall sp_law_box E0D (dCons (dVar 0) dNil)))
    (dSeq (dSet 2 (dCall sp_law_archive E0D (dCons (dVar 1) (dCons (dC (.int 4)) (dCons (dC (.int 3)) (dCons (dC (.int 3)) (dCons (dC (.int 8)) dNil)))))))
    (dSeq (dSet 3 (dCall sp_law_moves E0D (dCons (dVar 2) dNil)))
    (dSeq (dSet 4 (dCall sp_moves_of E0D (dCons (dVar 2) dNil)))
    (dSeq (dSet 5 (dCall sp_places_of E0D (dCons (dVar 2) dNil)))
    (dSeq (dIfS (dTOr (dTNot (dTruth (dCB dIsi (dCons (dVar 4) (dCons (dC (.ty "list")) dNil))))) (dTNot (dTruth (dCB dIsi (dCons (dVar 5) (dCons (dC (.ty "list")) dNil)))))) (dRet (dC (.bl false))) dNext)
    (dSeq (dIfS (dTest (dOp dNe (dVar 4) (dLc (iSeqD (dVar 3)) true [6] [6] dYes (dOp dIx (dVar 6) (dC (.int 0)))))) (dRet (dC (.bl false))) dNext)
    (dSeq (dSet 7 (dDisp1T (dCons (dC (.str "outside")) dNil) (dC (.bl true))))
    (dSeq (dFor (iSeqD (dVar 3)) (gD false [8, 9, 10]) (dSeq (dDPutT goodKey (dVar 7) (dVar 9) (dC (.bl true)))
    (dSeq (dDPutT goodKey (dVar 7) (dVar 10) (dC (.bl true)))
    (dIfS (dTest (dOp dNe (dCall (sp_ends_of C) E0D (dCons (dVar 2) (dCons (dVar 8) dNil))) (dTup (dCons (dVar 9) (dCons (dVar 10) dNil))))) (dRet (dC (.bl false))) dNext))))
    (dSeq (dIfS (dTest (dOp dNe (dVar 5) (dCB dSortedD (dCons (dCB dListT (dCons (dVar 7) dNil)) dNil)))) (dRet (dC (.bl false))) dNext)
    (dSeq (dFor (iSeqD (dOp dIx (dVar 2) (dC (.int 4)))) (gD true [11]) (dIfS (dTest (dOp dNe (dCall (sp_move_of C) E0D (dCons (dVar 2) (dCons (dOp dIx (dVar 11) (dC (.int 0))) dNil))) (dCall sp_law_told E0D (dCons (dVar 11) dNil)))) (dRet (dC (.bl false))) dNext))
    (dSeq (dSet 12 (dLc (iSeqD (dOp dIx (dVar 2) (dC (.int 4)))) true [11] [11] dYes (dOp dIx (dVar 11) (dC (.int 0)))))
    (dSeq (dFor (iSeqD (dOp dAdd (dLst (dCons (dC (.str "qqqqqqqqqqqq")) (dCons (dC (.str "qqqqqqqqqqqq/7")) dNil))) (dLc (iSeqD (dVar 12)) true [13] [13] (dTest (dOp (dInSub true) (dC (.str "/")) (dVar 13))) (dOp dAdd (dVar 13) (dC (.str "/3")))))) (gD true [13]) (dIfS (dTAnd (dTest (dOp (dIn true) (dVar 13) (dVar 12))) (dTest (dOp dNe (dCall sp_law_found E0D (dCons (dVar 2) (dCons (dVar 13) dNil))) (dVar 13)))) (dRet (dC (.bl false))) dNext))
    (dSeq (dDrop (dMtL dAppend (dVar 4) (dCons (dTup (dCons (dC (.str "made")) (dCons (dC (.str "stranger")) dNil))) dNil)))
    (dSeq (dDrop (dMt0 dPop (dVar 5)))
    (dRet (dAnd (dOp dEq (dCall sp_moves_of E0D (dCons (dVar 2) dNil)) (dLc (iSeqD (dVar 3)) true [6] [6] dYes (dOp dIx (dVar 6) (dC (.int 0))))) (dOp dEq (dCall sp_places_of E0D (dCons (dVar 2) dNil)) (dCB dSortedD (dCons (dCB dListT (dCons (dVar 7) dNil)) dNil))))))))))))))))))))
abbrev n_law : List Str := ["script", "box", "archive", "rows", "moves", "places", "row", "due", "move", "start", "goal", "record", "names", "name"]

theorem ipow_le {a m n : Nat} (h : m ≤ n) (ha : 0 < a) : (a : Int) ^ m ≤ (a : Int) ^ n := by
  rw [← Int.natCast_pow, ← Int.natCast_pow]
  exact Int.ofNat_le.mpr (Nat.pow_le_pow_right ha h)
theorem Drawn.self {M : Mp} {a : Addr} (h : StOk M a) : Drawn M a M := ⟨h, fun _ _ => rfl⟩
theorem cut_to {α : Type} (xs : List α) {i : Nat} (h : i ≤ xs.length) : cutD xs none (some (i : Int)) = xs.take i := by
  unfold cutD
  rw [HT.sIx_none, HT.sIx_nat, Nat.min_eq_left h, List.drop_zero, Nat.sub_zero]
theorem cut_from {α : Type} (xs : List α) {i : Nat} (h : i ≤ xs.length) : cutD xs (some (i : Int)) none = xs.drop i := by
  unfold cutD
  rw [HT.sIx_none, HT.sIx_nat, Nat.min_eq_left h]
  exact List.take_of_length_le (by rw [List.length_drop]; omega)
theorem put_set {α : Type} (xs : List α) {i : Nat} (d : α) (h : i < xs.length) : xs.take i ++ [d] ++ xs.drop (i + 1) = xs.set i d := by
  rw [List.set_eq_take_append_cons_drop, if_pos h]
  simp
theorem small_line {n : Nat} (h : n ≤ 1000000) : n ≤ sizeLine := Nat.le_trans h (by decide)

theorem two_pow_le {a b : Nat} (h : a ≤ b) : 2 ^ a ≤ 2 ^ b := Nat.pow_le_pow_right (by decide) h
theorem nat_mul_lt {a b x y : Nat} (h : a < 2 ^ x) (g : b ≤ 2 ^ y) : a * b < 2 ^ (x + y) := by
  rw [Nat.pow_add]
  have h9 : 0 < 2 ^ y := Nat.pow_pos (by decide)
  calc a * b ≤ a * 2 ^ y := Nat.mul_le_mul_left _ g
    _ < 2 ^ x * 2 ^ y := Nat.mul_lt_mul_of_pos_right h h9
theorem log2_20 {i : Int} (h : i.natAbs < 2 ^ 20) : i.natAbs.log2 < 9000 := Nat.lt_of_lt_of_le (PySem.Flt.log2_lt_of (k := 20) (by decide) h) (by decide)
theorem log2_w {i : Int} {n : Nat} (h : i.natAbs < 2 ^ n) (hn : 0 < n) (h2 : n ≤ 9000) : i.natAbs.log2 < 9000 := Nat.lt_of_lt_of_le (PySem.Flt.log2_lt_of hn h) h2
theorem sm64 {i : Int} (h : i.natAbs ≤ 1000000000) : -(2 ^ 64) < i ∧ i < 2 ^ 64 := by omega
theorem scal_int (i j : Int) : scalD (.int i) (.int j) = some (decide (i = j)) := rfl
theorem intsOf_mapG {α : Type} (g : α → Int) : ∀ xs : List α, intsOf (xs.map fun a => D.int (g a)) = some (xs.map g)
  | [] => rfl
  | x :: xs => by
    show (intsOf (xs.map fun a => D.int (g a))).map (g x :: ·) = _
    rw [intsOf_mapG g xs]; rfl
theorem s_minL {x : D} {M : Mp} {Q : QD} {ds : List D} {ns : List Int} (e : lsOf M x = some ds) (e2 : intsOf ds = some ns) (hl : 0 < ns.length) (h : ∀ m, m ∈ ns → (∀ y, y ∈ ns → m ≤ y) → Q (.int m) M) (hx : ∀ i, x ≠ .int i) : dMin [x] M Q := by
  unfold dMin
  simp only [e, e2]
  exact ⟨hl, h⟩
theorem s_abs {i : Int} {M : Mp} {Q : QD} (h : Q (.int (if i < 0 then -i else i)) M) : dAbs [.int i] M Q := h
theorem s_eqD {p q : PyData} {x y : D} {M : Mp} {Q : QD} (e0 : scalD x y = none) (e1 : (drf M x).py = some p) (e2 : (drf M y).py = some q) (h1 : SeqAt.shaped p = true) (h2 : SeqAt.shaped q = true) (h : Q (.bl (PyData.eqv p q)) M) : dEq x y M Q := by
  unfold dEq dEqS
  simp only [e0, e1, e2]
  exact ⟨h1, h2, h⟩
theorem s_neDF {p q : PyData} {x y : D} {M : Mp} {Q : QD} (e0 : scalD x y = none) (e1 : (drf M x).py = some p) (e2 : (drf M y).py = some q) (h1 : SeqAt.shaped p = true) (h2 : SeqAt.shaped q = true) (h : Q (.bl (!PyData.eqv p q)) M) : dNe x y M Q := by
  unfold dNe dEqS
  simp only [e0, e1, e2]
  exact ⟨h1, h2, h⟩

theorem s_kch2b {tc : DE} {τ : SD} {M : Mp} {Q : QD} {y : D} {r' : R2D} {b : Bool} (h : b = true → tc τ M (kCh3 r' y Q)) (h2 : b = false → Q (.bl false) M) : kCh2 r' tc τ Q y (.bl b) M := by
  cases b with
  | true => exact s_kch2 (p := True) (fun _ => h rfl) (fun z => absurd trivial z)
  | false => exact s_kch2 (p := False) (fun z => z.elim) (fun _ => h2 rfl)
theorem s_lenS {z : Str} {M : Mp} {Q : QD} (h : z.length ≤ sizeLine) (q : Q (.int z.length) M) : dLen [.str z] M Q := ⟨h, q⟩
theorem s_ksl2S {z : Str} {lo hi : Option Int} {M : Mp} {Q : QD} (h : z.length ≤ sizeLine) (q : Q (.str (cutS z lo hi)) M) : kSl2 (.str z) lo Q hi M := ⟨h, q⟩
theorem cut_to2 {α : Type} (xs : List α) (i : Nat) : cutD xs none (some (i : Int)) = xs.take i := by
  by_cases h : i ≤ xs.length
  · exact cut_to xs h
  · unfold cutD HT.sIx
    simp only [List.drop_zero, Nat.sub_zero]
    rw [List.take_of_length_le (by omega : xs.length ≤ i)]
    exact List.take_of_length_le (by first | omega | (split <;> omega))

theorem s_ixAny {is : List Int} {k : Int} {M : Mp} {Q : QD} (h0 : 0 ≤ k) (h1 : k < is.length) (h : ∀ i ∈ is, Q (.int i) M) : dIx (.lst (is.map .int)) (.int k) M Q := by
  have hk : k.toNat < is.length := by omega
  exact s_ix (d := .int is[k.toNat]) rfl (by rw [atI_toNat h0, List.getElem?_map, List.getElem?_eq_getElem hk]; rfl) (h _ (List.getElem_mem hk))
theorem s_ixMem {xs : List D} {d : Int} {M : Mp} {Q : QD} (d0 : 0 ≤ d) (d1 : d < xs.length) (h : ∀ x ∈ xs, Q x M) : dIx (.lst xs) (.int d) M Q := by
  have hk : d.toNat < xs.length := by omega
  exact s_ix (d := xs[d.toNat]) rfl (by rw [atI_toNat d0, List.getElem?_eq_getElem hk]) (h _ (List.getElem_mem hk))
theorem s_ixB {xs : List D} {x y : D} {M : Mp} {Q : QD} {b : Bool} (h : Q (if b then y else x) M) : dIx (.lst [x, y]) (.int (if b = true then 1 else 0)) M Q := by
  cases b with
  | true => exact s_ix (d := y) rfl rfl h
  | false => exact s_ix (d := x) rfl rfl h
theorem all_flat_int : ∀ xs : List Int, (xs.map D.int).all D.flat = true
  | [] => rfl
  | x :: xs => by
    show (true && (xs.map D.int).all D.flat) = true
    rw [all_flat_int xs]; rfl

/-- a cell left out -/
def dropM (M : Mp) (t : Addr) : Mp := fun b => if b = t then none else M b
theorem dropM_le {M : Mp} {t : Addr} : ∀ b m, dropM M t b = some m → M b = some m := fun b m e => by
  unfold dropM at e
  by_cases c : b = t
  · rw [if_pos c] at e; cases e
  · rwa [if_neg c] at e
theorem dropM_ne {M : Mp} {t b : Addr} (h : b ≠ t) : dropM M t b = M b := if_neg h
theorem dropM_same {M : Mp} {t : Addr} : dropM M t t = none := if_pos rfl

theorem ltCps_irrefl : ∀ a : List Nat, ltCps a a = false
  | [] => rfl
  | x :: xs => by
    show (decide (x < x) || (x == x && ltCps xs xs)) = false
    rw [ltCps_irrefl xs, decide_eq_false (Nat.lt_irrefl x)]; simp
theorem ltCps_cons {a b : Nat} {r t : List Nat} : ltCps (a :: r) (b :: t) = true ↔ a < b ∨ (a = b ∧ ltCps r t = true) := by
  show (decide (a < b) || (a == b && ltCps r t)) = true ↔ _
  simp
theorem ltCps_trans : ∀ {a b c : List Nat}, ltCps a b = true → ltCps b c = true → ltCps a c = true
  | [], b, [], _, h2 => by cases b <;> simp [ltCps] at h2
  | [], _, _ :: _, _, _ => rfl
  | _ :: _, [], _, h1, _ => by cases h1
  | _ :: _, _ :: _, [], _, h2 => by cases h2
  | x :: xs, y :: ys, z :: zs, h1, h2 => by
    rw [ltCps_cons] at h1 h2 ⊢
    rcases h1 with h1 | ⟨rfl, h1⟩
    · rcases h2 with h2 | ⟨rfl, _⟩
      · exact .inl (by omega)
      · exact .inl h1
    · rcases h2 with h2 | ⟨rfl, h2⟩
      · exact .inl h2
      · exact .inr ⟨rfl, ltCps_trans h1 h2⟩
theorem ltCps_tri : ∀ a b : List Nat, ltCps a b = true ∨ a = b ∨ ltCps b a = true
  | [], [] => .inr (.inl rfl)
  | [], _ :: _ => .inl rfl
  | _ :: _, [] => .inr (.inr rfl)
  | x :: xs, y :: ys => by
    rw [ltCps_cons, ltCps_cons]
    by_cases h : x < y
    · exact .inl (.inl h)
    · by_cases h2 : y < x
      · exact .inr (.inr (.inl h2))
      · obtain rfl : x = y := by omega
        rcases ltCps_tri xs ys with h | h | h
        · exact .inl (.inr ⟨rfl, h⟩)
        · exact .inr (.inl (by rw [h]))
        · exact .inr (.inr (.inr ⟨rfl, h⟩))
theorem ltCps_lt : ∀ a b : List Nat, a < b ↔ ltCps a b = true
  | [], [] => by simp [ltCps]
  | [], _ :: _ => by simp [ltCps]
  | _ :: _, [] => by simp [ltCps]
  | x :: xs, y :: ys => by
    rw [ltCps_cons, List.cons_lt_cons_iff, ltCps_lt xs ys]
theorem leC_iff {a b : Str} : leC a b = true ↔ ¬ ltS b a := by
  unfold leC ltS
  rw [Bool.not_eq_true', decide_eq_false_iff_not, ltCps_lt]
theorem str_ext {a b : Str} (h : a.cps.toList = b.cps.toList) : a = b := by
  cases a; cases b
  exact congrArg Str.mk (Array.toList_inj.mp h)
theorem ltS_irrefl {a : Str} : ¬ ltS a a := by unfold ltS; rw [ltCps_irrefl]; exact Bool.false_ne_true
theorem ltS_trans {a b c : Str} (h : ltS a b) (g : ltS b c) : ltS a c := ltCps_trans h g
theorem ltS_tri (a b : Str) : ltS a b ∨ a = b ∨ ltS b a := (ltCps_tri a.cps.toList b.cps.toList).imp id (Or.imp str_ext id)
theorem ltS_asymm {a b : Str} (h : ltS a b) : ¬ ltS b a := fun g => ltS_irrefl (ltS_trans h g)
/-- of pairs -/
theorem lexS_two {a b c d : Str} : lexS [a, b] [c, d] = if a = c then (if b = d then true else leC b d) else leC a c := by
  unfold lexS
  show Ob.lexAt _ _ _ 0 2 = _
  rw [Ob.lexAt_succ, Ob.lexAt_succ, Ob.lexAt_zero]
  show (if decide (a = c) = true then (if decide (b = d) = true then decide ((2 : Nat) ≤ 2) else leC b d) else leC a c) = _
  by_cases h1 : a = c
  · rw [if_pos (decide_eq_true h1), if_pos h1]
    by_cases h2 : b = d
    · rw [if_pos (decide_eq_true h2), if_pos h2]; rfl
    · rw [if_neg (by simpa using h2), if_neg h2]
  · rw [if_neg (by simpa using h1), if_neg h1]
/-- sorted and without doubles -/
theorem rising_lt : ∀ {p : Str} {r : List Str}, risingS p r = true → (p :: r).Nodup → (p :: r).Pairwise ltS
  | p, [], _, _ => by simp
  | p, x :: r, h, hn => by
    have h : (!ltCps x.cps.toList p.cps.toList && risingS x r) = true := h
    rw [Bool.and_eq_true] at h
    have hn2 := List.nodup_cons.mp hn
    have px : ltS p x := by
      rcases ltS_tri p x with h1 | h1 | h1
      · exact h1
      · exact absurd (h1 ▸ List.mem_cons_self) hn2.1
      · have := h.1
        rw [show ltCps x.cps.toList p.cps.toList = true from h1] at this
        cases this
    have ih := rising_lt h.2 hn2.2
    refine List.pairwise_cons.mpr ⟨fun y hy => ?_, ih⟩
    rcases List.mem_cons.mp hy with rfl | hy
    · exact px
    · exact ltS_trans px ((List.pairwise_cons.mp ih).1 y hy)
theorem sorted_lt {ys : List Str} (h : sortedS ys = true) (hn : ys.Nodup) : ys.Pairwise ltS := by
  cases ys with
  | nil => exact .nil
  | cons x r => exact rising_lt h hn

theorem lsOf_at {M : Mp} {t : Addr} {xs : List D} (h : M t = some (.lst xs)) : lsOf M (.ref t) = some xs := lsOf_ref h
theorem asc_at {ys : List Str} (h : ys.Pairwise ltS) {i j : Nat} {x y : Str} (hx : ys[i]? = some x) (hy : ys[j]? = some y) (hij : i < j) : ltS x y := by
  have hi : i < ys.length := by
    by_cases c : i < ys.length
    · exact c
    · rw [List.getElem?_eq_none (by omega)] at hx; cases hx
  have hj : j < ys.length := by
    by_cases c : j < ys.length
    · exact c
    · rw [List.getElem?_eq_none (by omega)] at hy; cases hy
  rw [List.getElem?_eq_getElem hi] at hx
  rw [List.getElem?_eq_getElem hj] at hy
  cases hx; cases hy
  exact List.pairwise_iff_getElem.mp h i j hi hj hij
theorem any_str {z : Str} : ∀ ys : List Str, ((ys.map D.str).any fun e => eqD e (.str z)) = decide (z ∈ ys)
  | [] => rfl
  | y :: ys => by
    rw [List.map_cons, List.any_cons, any_str ys]
    show ((y == z) || decide (z ∈ ys)) = _
    by_cases h : y = z
    · subst h; simp
    · rw [show (y == z) = false from beq_eq_false_iff_ne.mpr h, Bool.false_or]
      exact decide_eq_decide.mpr ⟨fun h2 => List.mem_cons_of_mem _ h2, fun h2 => (List.mem_cons.mp h2).elim (fun e => absurd e.symm h) id⟩
theorem flat_strs (ys : List Str) : (ys.map D.str).all D.flat = true := by
  rw [List.all_map, List.all_eq_true]
  exact fun _ _ => rfl

theorem letters_at {d : Int} (h0 : 0 ≤ d) (h1 : d < 26) : ∃ c : Nat, atI (("abcdefghijklmnopqrstuvwxyz" : Str).cps.toList) d = some c ∧ c = 97 + d.toNat := by
  have e : ("abcdefghijklmnopqrstuvwxyz" : Str).cps.toList = (List.range 26).map (97 + ·) := by decide +kernel
  rw [e, atI_toNat h0]
  refine ⟨97 + d.toNat, ?_, rfl⟩
  rw [List.getElem?_map, List.getElem?_range (by omega)]; rfl
theorem letters_len : ("abcdefghijklmnopqrstuvwxyz" : Str).length ≤ sizeLine := by rw [sizeLine_eq]; decide +kernel
theorem s_ixS {z : Str} {i : Int} {c : Nat} {M : Mp} {Q : QD} (hl : z.length ≤ sizeLine) (e : atI z.cps.toList i = some c) (h : Q (.str ⟨#[c]⟩) M) : dIx (.str z) (.int i) M Q := by
  show (match atI z.cps.toList i with
    | some c => z.length ≤ sizeLine ∧ Q (.str ⟨#[c]⟩) M
    | none => False)
  rw [e]; exact ⟨hl, h⟩
theorem s_addS {a b : Str} {M : Mp} {Q : QD} (hl : a.length + b.length ≤ sizeLine) (h : Q (.str (a ++ b)) M) : dAdd (.str a) (.str b) M Q := ⟨hl, h⟩
theorem cps_add {a b : Str} : (a ++ b).cps.toList = a.cps.toList ++ b.cps.toList := by
  show (a.cps ++ b.cps).toList = _
  simp
theorem len_add {a b : Str} : (a ++ b).length = a.length + b.length := by
  show (a.cps ++ b.cps).size = a.cps.size + b.cps.size
  simp

/-- a list that grows beside the box -/
structure Gr (M : Mp) (a t : Addr) (xs : List D) (M' : Mp) : Prop where
  st : StOk M' a
  at' : M' t = some (.lst xs)
  same : ∀ b, b ≠ a → b ≠ t → M' b = M b
theorem Gr.drawn {M M' M2 : Mp} {a t : Addr} {xs : List D} (h : Gr M a t xs M') (hat : a ≠ t) (D : Drawn M' a M2) : Gr M a t xs M2 := ⟨D.ok, by rw [D.same t (Ne.symm hat)]; exact h.at', fun b n1 n2 => by rw [D.same b n1, h.same b n1 n2]⟩
theorem Gr.add {M M' : Mp} {a t : Addr} {xs : List D} (h : Gr M a t xs M') (hat : a ≠ t) (ys : List D) : Gr M a t ys (updM M' t (.lst ys)) := ⟨h.st.keep (updM_ne hat), updM_same, fun b n1 n2 => by rw [updM_ne n2, h.same b n1 n2]⟩
theorem Gr.start {M M1 : Mp} {a t : Addr} (D : Drawn M a M1) (ht : M1 t = none) : a ≠ t ∧ Gr M a t [] (updM M1 t (.lst [])) := by
  have hat : a ≠ t := D.ok.ne ht
  exact ⟨hat, D.ok.keep (updM_ne hat), updM_same, fun b n1 n2 => by rw [updM_ne n2]; exact D.same b n1⟩
theorem Gr.drop {M M' : Mp} {a t : Addr} {xs : List D} (h : Gr M a t xs M') (hat : a ≠ t) (ht : M t = none) : Drawn M a (dropM M' t) := by
  refine ⟨h.st.keep (dropM_ne hat), fun b hb => ?_⟩
  by_cases z : b = t
  · rw [z, dropM_same, ht]
  · rw [dropM_ne z, h.same b hb z]
/-- the box's own cell, and what may be told at the end -/
structure Kp (M : Mp) (a : Addr) (M' : Mp) : Prop where
  st : StOk M' a
  fin : ∃ M2 : Mp, (∀ b m, M2 b = some m → M' b = some m) ∧ Drawn M a M2
theorem Kp.self {M : Mp} {a : Addr} (h : StOk M a) : Kp M a M := ⟨h, M, fun _ _ e => e, Drawn.self h⟩
theorem Kp.drawn {M M' M2 : Mp} {a : Addr} (h : Kp M a M') (D : Drawn M' a M2) : Kp M a M2 := by
  obtain ⟨N, h1, h2⟩ := h.fin
  refine ⟨D.ok, fun b => if b = a then M2 a else N b, fun b m e => ?_, D.ok.keep (if_pos rfl), fun b hb => ?_⟩
  · have e : (if b = a then M2 a else N b) = some m := e
    by_cases z : b = a
    · rw [if_pos z] at e; rw [z]; exact e
    · rw [if_neg z] at e; rw [D.same b z]; exact h1 b m e
  · show (if b = a then M2 a else N b) = M b
    rw [if_neg hb]; exact h2.same b hb
theorem Kp.new {M M' : Mp} {a t : Addr} {m : MO} (h : Kp M a M') (ht : M' t = none) : a ≠ t ∧ Kp M a (updM M' t m) := by
  have hat : a ≠ t := h.st.ne ht
  obtain ⟨N, h1, h2⟩ := h.fin
  refine ⟨hat, h.st.keep (updM_ne hat), N, fun b m' e => ?_, h2⟩
  rw [updM_ne (fun z => by subst z; rw [h1 _ m' e] at ht; cases ht)]; exact h1 b m' e
theorem Kp.end {M M' : Mp} {a : Addr} {Q : QD} {d : D} (h : Kp M a M') (q : ∀ M2, Drawn M a M2 → Q d M2) : rtQ Q d M' := by
  obtain ⟨N, h1, h2⟩ := h.fin
  exact s_endL (M2 := N) h1 (q N h2)
theorem Gr.kp {M M' : Mp} {a t : Addr} {xs : List D} (h : Gr M a t xs M') (hat : a ≠ t) (ht : M t = none) : Kp M a M' := ⟨h.st, dropM M' t, dropM_le, h.drop hat ht⟩

theorem row_at : ¬ ("row" : Str) = "at" := by decide
theorem valD_at {x y : D} : valD [(kRow, x), (kAt, y)] kAt = some y := by simp [valD, List.find?_cons, row_at]
theorem valD_row {x y : D} : valD [(kRow, x), (kAt, y)] kRow = some x := by simp [valD, List.find?_cons]
theorem putD_at {x y z : D} : putD [(kRow, x), (kAt, y)] kAt z = [(kRow, x), (kAt, z)] := by simp [putD, row_at]
theorem merge_box {x y : D} : mergeD [] [(kRow, x), (kAt, y)] = [(kRow, x), (kAt, y)] := by
  show putD (putD [] kRow x) kAt y = _
  simp [putD, row_at]
theorem len_law_take : ∀ ds M Q E, sp_law_take ds M Q E → ds.length = 2 := by rintro _ _ _ _ ⟨_, _, rfl, _⟩; rfl
theorem rd_law_take : Rds t_law_take n_law_take sp_law_take := by
  rintro _ M Q E ⟨a, lim, rfl, h0, ⟨ns, i, hM, hne, hl⟩, q⟩
  show t_law_take _ [some (.ref a), some (.int lim), none, none] M
  unfold t_law_take
  have np := List.length_pos_iff.mpr hne
  walk_at "g"
  refine s_kkg (k := kAt) rfl hM valD_at ?_
  walk_at "g"
  refine s_kpt3 (k := kAt) rfl hM (by show 2 < sizeLine; decide) ?_
  rw [putD_at]
  walk_at "g"
  refine s_kkg (k := kRow) rfl updM_same valD_row ?_
  walk_at "g"
  refine s_kkg (k := kRow) rfl updM_same valD_row ?_
  walk_at "g"
  rw [List.length_map]
  refine s_I (by omega) ?_
  have b0 := Int.emod_nonneg i (b := (ns.length : Int)) (by omega)
  have b1 := Int.emod_lt_of_pos i (b := (ns.length : Int)) (by omega)
  generalize hj : i % (ns.length : Int) = j at b0 b1
  walk_at "g"
  refine s_ixAny b0 b1 fun n _ => ?_
  walk_at "g"
  refine s_kkg (k := kRow) rfl updM_same valD_row ?_
  walk_at "g"
  rw [List.length_map]
  refine s_I (wide_div (b := 64) (by omega) (by omega) (by decide) (by decide)) ?_
  walk_at "g"
  refine s_mul (.inl (.inl ⟨by decide, by decide⟩)) ?_
  walk_at "g"
  refine s_I h0 ?_
  walk_at "g"
  refine s_end (q _ _ (Int.emod_nonneg _ (by omega)) (Int.emod_lt_of_pos _ h0) ⟨⟨ns, i + 1, updM_same, hne, hl⟩, fun b h => updM_ne h⟩)
theorem len_law_pick : ∀ ds M Q E, sp_law_pick ds M Q E → ds.length = 2 := by rintro _ _ _ _ ⟨_, _, _, rfl, _⟩; rfl
theorem rd_law_pick : Rds t_law_pick n_law_pick sp_law_pick := by
  rintro _ M Q E ⟨a, x, es, rfl, hx, hne, hl, st, q⟩
  have np := List.length_pos_iff.mpr hne
  show t_law_pick _ [some (.ref a), some x] M
  unfold t_law_pick
  have hs : ∀ M, sqOf M x = some es := fun M => by rcases hx with rfl | rfl <;> rfl
  walk_at "g"
  refine s_len (hs _) ?_
  walk_at "g"
  refine ⟨a, es.length, rfl, by omega, st, fun d M1 d0 d1 D1 => ?_⟩
  have hk : d.toNat < es.length := by omega
  refine s_kop2 (s_ix (d := es[d.toNat]) (hs _) (by rw [atI_toNat d0, List.getElem?_eq_getElem hk]) ?_)
  exact s_end (q _ _ (List.getElem_mem hk) D1)

theorem len_law_digits : ∀ ds M Q E, sp_law_digits ds M Q E → ds.length = 2 := by rintro _ _ _ _ ⟨_, rfl, _⟩; rfl
theorem updM_le {M : Mp} {t : Addr} {m : MO} (ht : M t = none) : ∀ b u, M b = some u → updM M t m b = some u := fun b u e => by
  rw [updM_ne (fun z => by subst z; rw [ht] at e; cases e)]; exact e
theorem rd_law_digits : RdsF t_law_digits n_law_digits sp_law_digits := by
  rintro _ M Q E ⟨c, rfl, q⟩
  show t_law_digits _ [some (.int c), some (.int 6), none, none, none, none] M
  unfold t_law_digits
  have fin : ∀ (t : Addr) (xs : List Int) (x2 x4 x5 : Option D), M t = none → xs.length ≤ 6 → dRet (dVar 3) (fnF Q) [some (.int c), some (.int 6), x2, some (.ref t), x4, x5] (updM M t (.lst (xs.map .int))) := fun t xs x2 x4 x5 ht hx => by
    walk_at "g"
    exact s_endF updM_same (updM_le ht) ht (q xs hx)
  have half : ∀ w : Int, t_law_digits_c2 (fnF Q) [some (.int c), some (.int 6), some (.int w), none, none, none] M := fun w => by
    unfold t_law_digits_c2
    walk_at "g"
    intro t ht
    walk_at "g"
    refine s_I ⟨by decide, by decide, by decide⟩ ?_
    walk_at "g"
    · refine s_kr1 (by decide) (by decide) ?_
      refine s_kforR (fun i τ M' => ∃ (xs : List Int) (w : Int) (x4 : Option D), xs.length ≤ i ∧ M' = updM M t (.lst (xs.map .int)) ∧ τ = [some (.int c), some (.int 6), some (.int w), some (.ref t), x4, none]) ⟨[], w, _, Nat.le_refl _, rfl, rfl⟩ (fun i τ M' hi ⟨xs, w, x4, hx, eM, e⟩ => ?_) (fun τ M' ⟨xs, w, x4, hx, eM, e⟩ => ?_)
      · subst eM; subst e
        have hi : i < 6 := hi
        show dSeq _ _ _ [some (.int c), some (.int 6), some (.int w), some (.ref t), some (.int (0 + i)), none] _
        walk_at "g"
        refine s_I (by decide) ?_
        walk_at "g"
        refine s_append updM_same (small_line (by rw [List.length_map]; omega)) ?_
        rw [updM_updM]
        walk_at "g"
        refine s_I (wide_div (b := 64) (by decide) (by decide) (by decide) (by decide)) ?_
        walk_at "g"
        · have := fin t (xs ++ [w % 1000003]) (some (.int (w / 1000003))) (some (.int (0 + i))) none ht (by rw [List.length_append]; show _ + 1 ≤ 6; omega)
          rw [List.map_append] at this
          exact this
        · refine ⟨xs ++ [w % 1000003], _, _, by rw [List.length_append]; show _ + 1 ≤ _; omega, by rw [List.map_append]; rfl, rfl⟩
      · subst eM; subst e
        exact fin _ _ _ _ _ ht hx
    · refine s_kr1 (by decide) (by decide) ?_
      refine s_kforR (fun i τ M' => ∃ (xs : List Int) (x4 x5 : Option D), xs.length ≤ i ∧ M' = updM M t (.lst (xs.map .int)) ∧ τ = [some (.int c), some (.int 6), some (.int w), some (.ref t), x4, x5]) ⟨[], _, _, Nat.le_refl _, rfl, rfl⟩ (fun i τ M' hi ⟨xs, x4, x5, hx, eM, e⟩ => ?_) (fun τ M' ⟨xs, x4, x5, hx, eM, e⟩ => ?_)
      · subst eM; subst e
        have hi : i < 6 := hi
        show dSeq _ _ _ [some (.int c), some (.int 6), some (.int w), some (.ref t), some (.int (0 + i)), x5] _
        walk_at "g"
        refine s_mul (.inl (.inl ⟨by decide, by decide⟩)) ?_
        walk_at "g"
        refine s_mul (.inl (.inr ⟨by decide, by decide⟩)) ?_
        walk_at "g"
        refine s_I (by decide) ?_
        walk_at "g"
        refine s_mul (.inl (.inr ⟨by decide, by decide⟩)) ?_
        walk_at "g"
        refine s_mul (.inl (.inl ⟨by decide, by decide⟩)) ?_
        walk_at "g"
        refine s_I (by decide) ?_
        walk_at "g"
        refine s_I (wide_div (b := 64) (by decide) (by decide) (by decide) (by decide)) ?_
        walk_at "g"
        refine s_I (by decide) ?_
        walk_at "g"
        refine s_append updM_same (small_line (by rw [List.length_map]; omega)) ?_
        rw [updM_updM]
        refine s_kdrop ?_
        exact ⟨xs ++ [_], _, _, by rw [List.length_append]; show _ + 1 ≤ _; omega, by rw [List.map_append]; rfl, rfl⟩
      · subst eM; subst e
        exact fin _ _ _ _ _ ht hx
  walk_at "g"
  all_goals exact half _
theorem len_law_box : ∀ ds M Q E, sp_law_box ds M Q E → ds.length = 1 := by rintro _ _ _ _ ⟨a, rfl, _⟩; rfl
theorem rd_law_box : Rds t_law_box n_law_box sp_law_box := by
  rintro _ M Q E ⟨ns, rfl, hl, q⟩
  show t_law_box _ [some (.lsk (ns.map .int)), none, none] M
  unfold t_law_box
  walk_at "g"
  refine s_kforT (ds := ns.map .int) (fun i τ M' => ∃ (xs : List Int) (x2 : Option D), M' = M ∧ xs.length ≤ 6 * i ∧ τ = [some (.lsk (ns.map .int)), some (.lst (xs.map .int)), x2]) (fun _ => rfl) ⟨[], none, rfl, by decide, rfl⟩ (fun i d τ M' hx ⟨xs, x2, eM, hxs, e⟩ => ?_) (fun τ M' ⟨xs, x2, eM, hxs, e⟩ => ?_)
  · subst eM; subst e
    have hi : i < (ns.map D.int).length := (List.getElem?_eq_some_iff.mp hx).1
    rw [List.length_map] at hi
    rw [List.getElem?_map] at hx
    obtain ⟨n, _, rfl⟩ := Option.map_eq_some_iff.mp hx
    refine s_gname ?_
    show dSet _ _ _ [some (.lsk (ns.map .int)), some (.lst (xs.map .int)), some (.int n)] _
    walk_at "g"
    refine ⟨n, rfl, fun ys hy => ?_⟩
    walk_at "g"
    refine s_addL (small_line (by rw [List.length_map, List.length_map]; omega)) ?_
    walk_at "g"
    exact ⟨xs ++ ys, _, rfl, by rw [List.length_append]; omega, by rw [List.map_append]⟩
  · subst eM; subst e
    rw [List.length_map] at hxs
    have fin : ∀ zs : List Int, zs ≠ [] → zs.length ≤ 400 → dRet (dDisp [((dC (.str "row")), (dVar 1)), ((dC (.str "at")), (dC (.int 0)))]) (fnE Q) [some (.lsk (ns.map .int)), some (.lst (zs.map .int)), x2] M' := fun zs h1 h2 => by
      walk_at "g"
      refine s_kds (by show 2 ≤ 15; decide) fun p hp => ?_
      rw [merge_box]
      exact s_end (q p _ hp ⟨⟨zs, 0, updM_same, h1, h2⟩⟩ fun b h => updM_ne h)
    walk_at "g"
    · exact fin [5, 77, 1031, 40009, 3, 900001, 12] (by simp) (by decide)
    · rename_i hc
      rw [List.length_map] at hc
      exact fin xs (fun z => hc (by rw [z]; rfl)) (by omega)

theorem joinL_nil : ∀ ps : List (List Nat), TL.joinL [] ps = ps.flatten
  | [] => rfl
  | [p] => by simp [TL.joinL]
  | p :: q :: r => by
    show p ++ ([] ++ TL.joinL [] (q :: r)) = _
    rw [joinL_nil (q :: r)]; simp
theorem tl_joined (ys : List Str) : (Txt.join "" ys).cps.toList = (ys.map TL.tl).flatten := by
  rw [TL.join_eq]
  exact (TL.tl_join "" ys).trans (joinL_nil _)
def cS (c : Nat) : Str := ⟨#[c]⟩
theorem tl_cS (l : List Nat) : (Txt.join "" (l.map cS)).cps.toList = l := by
  rw [tl_joined, List.map_map]
  induction l with
  | nil => rfl
  | cons c l ih =>
    rw [List.map_cons, List.flatten_cons, ih]; rfl
theorem len_tl {z : Str} : z.length = z.cps.toList.length := by show z.cps.size = _; simp
theorem len_law_word : ∀ ds M Q E, sp_law_word ds M Q E → ds.length = 2 := by rintro _ _ _ _ ⟨_, _, rfl, _⟩; rfl
theorem rd_law_word : Rds t_law_word n_law_word sp_law_word := by
  rintro _ M Q E ⟨a, n, rfl, hn, st, q⟩
  show t_law_word _ [some (.ref a), some (.int n), none] M
  unfold t_law_word
  walk_at "g"
  refine s_kr1 (by omega) (by omega) ?_
  refine s_klcDraw (fun c : Nat => D.str (cS c)) (fun c => 97 ≤ c ∧ c ≤ 122) (fun M' => Drawn M a M') (small_line (by omega)) (Drawn.self st) (fun i M1 QQ hi D1 k => ?_) (fun l hl hp M2 D2 => ?_)
  · show dOp _ _ _ [some (.ref a), some (.int n), some (.int (0 + (i : Nat)))] M1 QQ
    walk_at "g"
    refine ⟨a, 26, rfl, by decide, D1.ok, fun d M5 d0 d1 D5 => ?_⟩
    obtain ⟨c, ec, hc2⟩ := letters_at d0 d1
    walk_at "g"
    exact s_ixS letters_len ec (k c _ (by omega) (D1.trans D5))
  · have e0 : l.map (fun c : Nat => D.str (cS c)) = (l.map cS).map .str := by rw [List.map_map]; rfl
    rw [e0]
    have e1 : ((l.map cS).map (·.length)).sum = l.length := by
      rw [List.map_map]
      clear hp hl e0
      induction l with
      | nil => rfl
      | cons c l ih =>
        rw [List.map_cons, List.sum_cons, ih]
        show 1 + l.length = l.length + 1
        omega
    have hl' : l.length = n := by omega
    refine s_kjn2 rfl (strsOf_map _) (by rw [e1]; show l.length + _ * 0 ≤ _; omega) ?_
    refine s_end (q _ _ ?_ (fun c hc => ?_) D2)
    · rw [len_tl, tl_cS]; exact hl'
    · rw [tl_cS] at hc; exact hp c hc
theorem tl_cutTo (z : Str) (p : Nat) : (cutS z none (some (p : Int))).cps.toList = z.cps.toList.take p := by
  unfold cutS HT.sIx
  simp only [List.drop_zero, Nat.sub_zero]
  rw [if_neg (by omega), show ((p : Int)).toNat = p from rfl, len_tl]
  by_cases h : p ≤ z.cps.toList.length
  · rw [Nat.min_eq_left h]
  · rw [Nat.min_eq_right (by omega), List.take_of_length_le (Nat.le_refl _), List.take_of_length_le (by omega)]
theorem tl_cutFrom (z : Str) (p : Nat) : (cutS z (some (p : Int)) none).cps.toList = z.cps.toList.drop p := by
  unfold cutS HT.sIx
  simp only
  rw [if_neg (by omega), show ((p : Int)).toNat = p from rfl, len_tl]
  by_cases h : p ≤ z.cps.toList.length
  · rw [Nat.min_eq_left h, List.take_of_length_le (by rw [List.length_drop]; exact Nat.le_refl _)]
  · rw [Nat.min_eq_right (by omega), List.drop_of_length_le (Nat.le_refl _), List.drop_of_length_le (by omega), List.take_nil]
theorem lw_add {a b : Str} (h : Lw a) (g : Lw b) : Lw (a ++ b) := fun c hc => by
  rw [cps_add] at hc
  rcases List.mem_append.mp hc with h1 | h1
  · exact h c h1
  · exact g c h1
/-- the k-th sign of a list of names -/
def sgn (f : Int) (k : Nat) : Nat := 97 + ((f + 5 * (k : Int)) % 26).toNat
theorem sgn_ne {f : Int} {i j : Nat} (h : i < j) (hj : j < 26) : sgn f i ≠ sgn f j := by
  unfold sgn
  have h1 := Int.emod_nonneg (f + 5 * (i : Int)) (b := 26) (by decide)
  have h2 := Int.emod_nonneg (f + 5 * (j : Int)) (b := 26) (by decide)
  omega
structure NmsI (p : Nat) (f : Int) (zs : List Str) : Prop where
  nm : ∀ z ∈ zs, Nw z
  at' : ∀ i z, zs[i]? = some z → z.cps.toList[p]? = some (sgn f i)
theorem NmsI.nodup {p : Nat} {f : Int} {zs : List Str} (h : NmsI p f zs) (hl : zs.length ≤ 20) : zs.Nodup := by
  rw [List.nodup_iff_pairwise_ne, List.pairwise_iff_getElem]
  intro i j hi hj hij e
  have h1 := h.at' i _ (List.getElem?_eq_getElem hi)
  have h2 := h.at' j _ (List.getElem?_eq_getElem hj)
  rw [e, h2] at h1
  exact sgn_ne hij (by omega) (Option.some.inj h1).symm
theorem NmsI.snoc {p : Nat} {f : Int} {zs : List Str} {b t : Str} {c : Nat} (h : NmsI p f zs) (hb : Lw b) (hbl : b.length ≤ 7) (hp : p ≤ b.length) (ht : Lw t) (htl : t.length ≤ 3) (hc : c = sgn f zs.length) (hc2 : 97 ≤ c ∧ c ≤ 122) :
    NmsI p f (zs ++ [cutS b none (some (p : Int)) ++ cS c ++ cutS b (some (p : Int)) none ++ t]) := by
  have e : (cutS b none (some (p : Int)) ++ cS c ++ cutS b (some (p : Int)) none ++ t).cps.toList = b.cps.toList.take p ++ [c] ++ b.cps.toList.drop p ++ t.cps.toList := by
    rw [cps_add, cps_add, cps_add, tl_cutTo, tl_cutFrom]; rfl
  rw [len_tl] at hbl hp htl
  have el : (b.cps.toList.take p ++ [c] ++ b.cps.toList.drop p ++ t.cps.toList).length = b.cps.toList.length + 1 + t.cps.toList.length := by
    rw [List.length_append, List.length_append, List.length_append, List.length_take, List.length_drop, Nat.min_eq_left hp]
    show p + 1 + _ + _ = _
    omega
  refine ⟨fun z hz => ?_, fun i z hz => ?_⟩
  · rcases List.mem_append.mp hz with h1 | h1
    · exact h.nm z h1
    · rw [List.mem_singleton] at h1
      subst h1
      refine ⟨fun x hx => ?_, by rw [len_tl, e, el]; omega, by rw [len_tl, e, el]; omega⟩
      rw [e] at hx
      simp only [List.mem_append, List.mem_singleton] at hx
      rcases hx with ((hx | hx) | hx) | hx
      · exact hb x (List.mem_of_mem_take hx)
      · omega
      · exact hb x (List.mem_of_mem_drop hx)
      · exact ht x hx
  · by_cases hi : i < zs.length
    · rw [List.getElem?_append_left hi] at hz
      exact h.at' i z hz
    · rw [List.getElem?_append_right (by omega)] at hz
      have hi0 : i - zs.length = 0 := by
        by_cases z0 : i - zs.length = 0
        · exact z0
        · rw [List.getElem?_eq_none (by show 1 ≤ _; omega)] at hz; cases hz
      rw [hi0] at hz
      cases hz
      have : i = zs.length := by omega
      subst this
      rw [e, List.append_assoc, List.append_assoc, List.getElem?_append_right (by rw [List.length_take]; omega), List.length_take, Nat.min_eq_left hp, Nat.sub_self, hc]
      rfl
theorem len_law_names : ∀ ds M Q E, sp_law_names ds M Q E → ds.length = 2 := by rintro _ _ _ _ ⟨_, _, rfl, _⟩; rfl
theorem rd_law_names : Rds t_law_names n_law_names sp_law_names := by
  rintro _ M Q E ⟨a, n, rfl, hn, st, q⟩
  show t_law_names _ [some (.ref a), some (.int n), none, none, none, none, none, none, none, none] M
  unfold t_law_names
  walk_at "g"
  refine ⟨a, 8, rfl, by decide, st, fun d1 M1 d10 d11 D1 => ?_⟩
  walk_at "g"
  refine ⟨a, d1.toNat, by rw [Int.toNat_of_nonneg d10], by omega, D1.ok, fun b M2 bl bw D2 => ?_⟩
  have D2 := D1.trans D2
  walk_at "g"
  refine s_lenS (small_line (by omega)) ?_
  walk_at "g"
  refine ⟨a, _, rfl, by omega, D2.ok, fun p M3 p0 p1 D3 => ?_⟩
  have D3 := D2.trans D3
  walk_at "g"
  refine ⟨a, 26, rfl, by decide, D3.ok, fun f M4 f0 f1 D4 => ?_⟩
  have D4 := D3.trans D4
  walk_at "g"
  refine ⟨a, 2, rfl, by decide, D4.ok, fun u M5 u0 u1 D5 => ?_⟩
  have D5 := D4.trans D5
  walk_at "g"
  intro t ht
  obtain ⟨hat, G⟩ := Gr.start D5 ht
  have ht0 : M t = none := by rw [← D5.same t (Ne.symm hat)]; exact ht
  walk_at "g"
  refine s_kr1 (by omega) (by omega) ?_
  obtain ⟨pn, hpn⟩ : ∃ pn : Nat, p = pn := ⟨p.toNat, by omega⟩
  subst hpn
  rw [show ((n : Int)).toNat = n from rfl]
  refine s_kforR (fun i τ M' => ∃ (zs : List Str) (x7 x8 x9 : Option D), Gr M a t (zs.map .str) M' ∧ NmsI pn f zs ∧ zs.length = i ∧ τ = [some (.ref a), some (.int n), some (.str b), some (.int pn), some (.int f), some (.int u), some (.ref t), x7, x8, x9]) ⟨[], _, _, _, G, ⟨(fun z hz => by cases hz), fun i z hz => by simp at hz⟩, rfl, rfl⟩ (fun i τ M' hi ⟨zs, x7, x8, x9, G, N, hz, e⟩ => ?_) (fun τ M' ⟨zs, x7, x8, x9, G, N, hz, e⟩ => ?_)
  · subst e
    show dSeq _ _ _ [some (.ref a), some (.int n), some (.str b), some (.int pn), some (.int f), some (.int u), some (.ref t), some (.int (0 + i)), x8, x9] M'
    walk_at "g"
    refine s_mul (.inl (.inl ⟨by decide, by decide⟩)) ?_
    walk_at "g"
    refine s_I (by decide) ?_
    have b0 := Int.emod_nonneg (f + 5 * (0 + (i : Int))) (b := 26) (by decide)
    have b1 := Int.emod_lt_of_pos (f + 5 * (0 + (i : Int))) (b := 26) (by decide)
    obtain ⟨c, ec, hc2⟩ := letters_at b0 b1
    refine s_kop2 (s_ixS letters_len ec ?_)
    have hcs : c = sgn f zs.length := by
      unfold sgn
      rw [hc2, hz, Int.zero_add]
    have hc3 : 97 ≤ c ∧ c ≤ 122 := by omega
    have fin : ∀ (w : Str) (M6 : Mp), Lw w → w.length ≤ 3 → Gr M a t (zs.map .str) M6 → dDrop (dMtL dAppend (dVar 6) (dCons (dOp dAdd (dOp dAdd (dOp dAdd (dSl (dVar 2) dNoPart (dPart (dVar 3))) (dVar 8)) (dSl (dVar 2) (dPart (dVar 3)) dNoPart)) (dVar 9)) dNil))
        ⟨fun τ M' => ∃ (zs : List Str) (x7 x8 x9 : Option D), Gr M a t (zs.map .str) M' ∧ NmsI pn f zs ∧ zs.length = i + 1 ∧ τ = [some (.ref a), some (.int n), some (.str b), some (.int pn), some (.int f), some (.int u), some (.ref t), x7, x8, x9], rtQ Q, fun _ _ => True, fun _ _ => True⟩ [some (.ref a), some (.int n), some (.str b), some (.int pn), some (.int f), some (.int u), some (.ref t), some (.int (0 + i)), some (.str ⟨#[c]⟩), some (.str w)] M6 := fun w M6 lw lwl G6 => by
      have l1 : (cutS b none (some (pn : Int))).length ≤ 7 := Nat.le_trans (cutS_length _ _ _) (by omega)
      have l2 : (cutS b (some (pn : Int)) none).length ≤ 7 := Nat.le_trans (cutS_length _ _ _) (by omega)
      have l0 : (⟨#[c]⟩ : Str).length = 1 := rfl
      have hGt := G6.at'
      walk_at "g"
      refine s_ksl2S (small_line (by omega)) ?_
      walk_at "g"
      refine s_addS (small_line (by omega)) ?_
      walk_at "g"
      refine s_ksl2S (small_line (by omega)) ?_
      walk_at "g"
      refine s_addS (small_line (by rw [len_add]; omega)) ?_
      walk_at "g"
      refine s_addS (small_line (by rw [len_add, len_add]; omega)) ?_
      walk_at "g"
      refine s_append G6.at' (small_line (by rw [List.length_map]; omega)) ?_
      have G7 := G6.add hat (zs.map .str ++ [.str (cutS b none (some (pn : Int)) ++ cS c ++ cutS b (some (pn : Int)) none ++ w)])
      refine s_kdrop ?_
      refine ⟨zs ++ [cutS b none (some (pn : Int)) ++ cS c ++ cutS b (some (pn : Int)) none ++ w], _, _, _, by rw [List.map_append]; exact G7, N.snoc bw (by omega) (by omega) lw lwl hcs hc3, by rw [List.length_append, hz]; rfl, rfl⟩
    walk_at "g"
    · refine ⟨a, 4, rfl, by decide, G.st, fun d M6 d0 d1 D6 => ?_⟩
      walk_at "g"
      refine ⟨a, d.toNat, by rw [Int.toNat_of_nonneg d0], by omega, D6.ok, fun w M7 wl ww D7 => ?_⟩
      walk_at "g"
      exact fin w _ ww (by omega) (G.drawn hat (D6.trans D7))
    · exact fin "" _ (fun c hc => by cases hc) (by decide) G
  · subst e
    have hGt := G.at'
    walk_at "g"
    refine s_sortedS (ns := zs) (lsOf_at G.at') (by omega) fun ys hp hs => ?_
    walk_at "g"
    refine (G.kp hat ht0).end fun M6 D6 => q ys _ ⟨by rw [hp.length_eq]; exact hz, fun z h => N.nm z (hp.mem_iff.mp h), sorted_lt hs (hp.nodup_iff.mpr (N.nodup (by omega)))⟩ D6

theorem len_law_kinds : ∀ ds M Q E, sp_law_kinds ds M Q E → ds.length = 2 := by rintro _ _ _ _ ⟨_, _, rfl, _⟩; rfl
theorem rd_law_kinds : Rds t_law_kinds n_law_kinds sp_law_kinds := by
  rintro _ M Q E ⟨a, n, rfl, hn, st, q⟩
  show t_law_kinds _ [some (.ref a), some (.int n), none, none, none, none, none] M
  unfold t_law_kinds
  walk_at "g"
  refine ⟨a, 100000, rfl, by decide, st, fun v1 M1 v10 v11 D1 => ?_⟩
  walk_at "g"
  refine ⟨a, 12, rfl, by decide, D1.ok, fun v2 M2 v20 v21 D2 => ?_⟩
  have D2 := D1.trans D2
  walk_at "g"
  intro t ht
  obtain ⟨hat, G⟩ := Gr.start D2 ht
  have ht0 : M t = none := by rw [← D2.same t (Ne.symm hat)]; exact ht
  walk_at "g"
  refine ⟨a, n, rfl, hn, G.st, fun ys M3 N D3 => ?_⟩
  have G := G.drawn hat D3
  walk_at "g"
  refine s_kforT (ds := ys.map .str) (fun i τ M' => ∃ (ks : List Kd) (x4 x5 x6 : Option D), Gr M a t (ks.map Kd.enc) M' ∧ ks.map Kd.name = ys.take i ∧ (∀ k ∈ ks, KdOk k) ∧ τ = [some (.ref a), some (.int n), some (.lst [.int (1 + v1), .int (1 + v2)]), some (.ref t), x4, x5, x6]) (fun _ => rfl) ⟨[], _, _, _, G, rfl, (fun k hk => by cases hk), rfl⟩ (fun i d τ M' hd ⟨ks, x4, x5, x6, G, hk, ok, e⟩ => ?_) (fun τ M' ⟨ks, x4, x5, x6, G, hk, ok, e⟩ => ?_)
  · subst e
    rw [List.getElem?_map] at hd
    obtain ⟨z, hz, rfl⟩ := Option.map_eq_some_iff.mp hd
    have hi := (List.getElem?_eq_some_iff.mp hz).1
    have kl : ks.length ≤ 20 := by
      have := congrArg List.length hk
      rw [List.length_map, List.length_take] at this
      have := N.len
      omega
    refine s_gname ?_
    show dSeq _ _ _ [some (.ref a), some (.int n), some (.lst [.int (1 + v1), .int (1 + v2)]), some (.ref t), some (.str z), x5, x6] M'
    have fin : ∀ (f l : Int) (M6 : Mp), 0 ≤ f → f ≤ l → l ≤ 60 → Gr M a t (ks.map Kd.enc) M6 → dDrop (dMtL dAppend (dVar 3) (dCons (dTup (dCons (dVar 4) (dCons (dOp dIx (dVar 2) (dCB dInt (dCons (dOp dGt (dCall sp_law_take E0D (dCons (dVar 0) (dCons (dC (.int 3)) dNil))) (dC (.int 0))) dNil))) (dCons (dVar 5) (dCons (dVar 6) dNil))))) dNil))
        ⟨fun τ M' => ∃ (ks : List Kd) (x4 x5 x6 : Option D), Gr M a t (ks.map Kd.enc) M' ∧ ks.map Kd.name = ys.take (i + 1) ∧ (∀ k ∈ ks, KdOk k) ∧ τ = [some (.ref a), some (.int n), some (.lst [.int (1 + v1), .int (1 + v2)]), some (.ref t), x4, x5, x6], rtQ Q, fun _ _ => True, fun _ _ => True⟩ [some (.ref a), some (.int n), some (.lst [.int (1 + v1), .int (1 + v2)]), some (.ref t), some (.str z), some (.int f), some (.int l)] M6 := fun f l M6 f0 fl l1 G6 => by
      have hGt := G6.at'
      walk_at "g"
      refine ⟨a, 3, rfl, by decide, G6.st, fun d M7 d0 d1 D7 => ?_⟩
      have G7 := G6.drawn hat D7
      have hG7 := G7.at'
      walk_at "g"
      refine s_ixB (xs := []) ?_
      have hv : ∀ b : Bool, (if b = true then D.int (1 + v2) else D.int (1 + v1)) = .int (if b = true then 1 + v2 else 1 + v1) := fun b => by cases b <;> rfl
      rw [hv]
      generalize hw : (if decide (d > 0) = true then 1 + v2 else 1 + v1) = w
      have w0 : 1 ≤ w ∧ w ≤ 100000 := by rw [← hw]; split <;> omega
      walk_at "g"
      refine s_append G7.at' (small_line (by rw [List.length_map]; omega)) ?_
      have G8 := G7.add hat ((ks ++ [(⟨z, w, f, l⟩ : Kd)]).map Kd.enc)
      refine s_kdrop ?_
      refine ⟨ks ++ [⟨z, w, f, l⟩], _, _, _, by rw [List.map_append] at G8 ⊢; exact G8, ?_, fun k hk' => ?_, rfl⟩
      · rw [List.map_append, hk, List.take_succ, hz]; rfl
      · rcases List.mem_append.mp hk' with h | h
        · exact ok k h
        · rw [List.mem_singleton.mp h]
          exact ⟨N.nm z (List.mem_of_getElem? hz), w0.1, w0.2, f0, fl, l1⟩
    walk_at "g"
    refine ⟨a, 4, rfl, by decide, G.st, fun d M6 d0 d1 D6 => ?_⟩
    have G := G.drawn hat D6
    walk_at "g"
    · refine ⟨a, 3, rfl, by decide, G.st, fun f M7 f0 f1 D7 => ?_⟩
      have G := G.drawn hat D7
      walk_at "g"
      refine ⟨a, 3, rfl, by decide, G.st, fun l M8 l0 l1 D8 => ?_⟩
      have G := G.drawn hat D8
      walk_at "g"
      exact fin f _ _ f0 (by omega) (by omega) G
    · exact fin 0 60 _ (by decide) (by decide) (by decide) G
  · subst e
    have hGt := G.at'
    rw [List.length_map, List.take_length] at hk
    walk_at "g"
    refine (G.kp hat ht0).end fun M5 D5 => q ks _ ⟨?_, ok, by rw [hk]; exact N.asc⟩ D5
    have := congrArg List.length hk
    rw [List.length_map, N.len] at this
    exact this
theorem len_law_roads : ∀ ds M Q E, sp_law_roads ds M Q E → ds.length = 2 := by rintro _ _ _ _ ⟨_, _, rfl, _⟩; rfl
theorem rd_law_roads : Rds t_law_roads n_law_roads sp_law_roads := by
  rintro _ M Q E ⟨a, os, rfl, ol, asc, st, q⟩
  show t_law_roads _ [some (.ref a), some (.tup (os.map .str)), none, none, none] M
  unfold t_law_roads
  walk_at "g"
  intro t ht
  obtain ⟨hat, G⟩ := Gr.start (Drawn.self st) ht
  walk_at "g"
  refine s_kforT (ds := os.map .str) (fun i τ M' => ∃ (rs : List Road) (x3 x4 : Option D), Gr M a t (rs.map Road.enc) M' ∧ rs.length ≤ i * os.length ∧ (∀ r ∈ rs, RdOk os r ∧ r.s ∈ os.take i) ∧ rs.Pairwise RdLt ∧ τ = [some (.ref a), some (.tup (os.map .str)), some (.ref t), x3, x4]) (fun _ => rfl) ⟨[], _, _, G, Nat.zero_le _, (fun r hr => by cases hr), .nil, rfl⟩ (fun i d τ M' hd ⟨rs, x3, x4, G, rl, ok, pw, e⟩ => ?_) (fun τ M' ⟨rs, x3, x4, G, rl, ok, pw, e⟩ => ?_)
  · subst e
    rw [List.getElem?_map] at hd
    obtain ⟨z, hz, rfl⟩ := Option.map_eq_some_iff.mp hd
    have hi := (List.getElem?_eq_some_iff.mp hz).1
    have hle : i * os.length ≤ 20 * 20 := Nat.mul_le_mul (by omega) ol
    refine s_gname ?_
    show dFor _ _ _ _ [some (.ref a), some (.tup (os.map .str)), some (.ref t), some (.str z), x4] M'
    walk_at "g"
    refine s_kforT (ds := os.map .str) (fun j τ M' => ∃ (rs : List Road) (x4 : Option D), Gr M a t (rs.map Road.enc) M' ∧ rs.length ≤ i * os.length + j ∧ (∀ r ∈ rs, RdOk os r ∧ ((∃ i', i' < i ∧ os[i']? = some r.s) ∨ (r.s = z ∧ ∃ j', j' < j ∧ os[j']? = some r.g))) ∧ rs.Pairwise RdLt ∧ τ = [some (.ref a), some (.tup (os.map .str)), some (.ref t), some (.str z), x4]) (fun _ => rfl) ⟨rs, _, G, rl, (fun r hr => ⟨(ok r hr).1, .inl ?_⟩), pw, rfl⟩ (fun j d τ M' hd ⟨rs, x4, G, rl, ok, pw, e⟩ => ?_) (fun τ M' ⟨rs, x4, G, rl, ok, pw, e⟩ => ?_)
    · obtain ⟨i', h1, h2⟩ := List.getElem_of_mem (ok r hr).2
      rw [List.length_take] at h1
      refine ⟨i', by omega, ?_⟩
      rw [List.getElem_take] at h2
      rw [List.getElem?_eq_getElem (by omega), h2]
    · subst e
      rw [List.getElem?_map] at hd
      obtain ⟨g, hg, rfl⟩ := Option.map_eq_some_iff.mp hd
      have hj := (List.getElem?_eq_some_iff.mp hg).1
      refine s_gname ?_
      show dIfS _ _ _ _ [some (.ref a), some (.tup (os.map .str)), some (.ref t), some (.str z), some (.str g)] M'
      have more : ∀ r ∈ rs, RdOk os r ∧ ((∃ i', i' < i ∧ os[i']? = some r.s) ∨ (r.s = z ∧ ∃ j', j' < j + 1 ∧ os[j']? = some r.g)) := fun r hr => ⟨(ok r hr).1, (ok r hr).2.imp id fun ⟨e, j', h1, h2⟩ => ⟨e, j', by omega, h2⟩⟩
      have hGt := G.at'
      walk_at "g"
      · rename_i hc
        refine ⟨a, 3, rfl, by decide, G.st, fun d M6 d0 d1 D6 => ?_⟩
        have G := G.drawn hat D6
        have hG6 := G.at'
        walk_at "g"
        · refine ⟨a, _, _, rfl, .inl rfl, by simp, small_line (by decide), G.st, fun w M7 hw D7 => ?_⟩
          have G := G.drawn hat D7
          have hG7 := G.at'
          obtain ⟨m, rfl, hm⟩ : ∃ m : Int, w = .int m ∧ (m = 1 ∨ m = 2 ∨ m = 60) := by
            simp only [List.mem_cons, List.not_mem_nil, or_false] at hw
            rcases hw with rfl | rfl | rfl | rfl <;> exact ⟨_, rfl, by decide⟩
          walk_at "g"
          refine s_append G.at' (small_line (by rw [List.length_map]; omega)) ?_
          have G8 := G.add hat ((rs ++ [(⟨z, g, m⟩ : Road)]).map Road.enc)
          refine s_kdrop ?_
          refine ⟨rs ++ [⟨z, g, m⟩], _, by rw [List.map_append] at G8 ⊢; exact G8, by rw [List.length_append]; show rs.length + 1 ≤ _; omega, fun r hr => ?_, List.pairwise_append.mpr ⟨pw, by simp, fun r hr x hx => ?_⟩, rfl⟩
          · rcases List.mem_append.mp hr with h | h
            · exact more r h
            · rw [List.mem_singleton.mp h]
              exact ⟨⟨List.mem_of_getElem? hz, List.mem_of_getElem? hg, hc, hm⟩, .inr ⟨rfl, j, by omega, hg⟩⟩
          · rw [List.mem_singleton.mp hx]
            rcases (ok r hr).2 with ⟨i', h1, h2⟩ | ⟨h1, j', h2, h3⟩
            · exact .inl (asc_at asc h2 hz h1)
            · exact .inr ⟨h1, asc_at asc h3 hg h2⟩
        · exact ⟨rs, _, G, by omega, more, pw, rfl⟩
      · exact ⟨rs, _, G, by omega, more, pw, rfl⟩
    · subst e
      rw [List.length_map] at rl ok
      refine ⟨rs, _, _, G, by rw [Nat.succ_mul]; exact rl, fun r hr => ⟨(ok r hr).1, ?_⟩, pw, rfl⟩
      rcases (ok r hr).2 with ⟨i', h1, h2⟩ | ⟨h1, _⟩
      · exact List.mem_of_getElem? (i := i') (by rw [List.getElem?_take, if_pos (by omega)]; exact h2)
      · rw [h1]
        exact List.mem_of_getElem? (i := i) (by rw [List.getElem?_take, if_pos (by omega)]; exact hz)
  · subst e
    have hGt := G.at'
    rw [List.length_map] at rl
    walk_at "g"
    refine (G.kp hat ht).end fun M5 D5 => q rs _ ⟨rl, fun r hr => (ok r hr).1, pw⟩ D5

theorem s_klcFil {plain : Bool} {is vs : List Nat} {fin : List D → Mp → QD → Prop} {tt : DT} {te : DE} {τ : SD} {M : Mp} {Q : QD} {x : D} {α : Type} {xs : List α} (enc : α → D) (p : α → Bool) (f : α → D) (hx : ∀ M, sqOf M x = some (xs.map enc)) (hl : xs.length ≤ sizeLine)
    (hs : ∀ a ∈ xs, ∃ τ2, bindD plain is (enc a) (wipeD τ vs) = some τ2 ∧ (∀ QB : Bool → Mp → Prop, QB (p a) M → tt τ2 M QB) ∧ ∀ Q : QD, p a = true → Q (f a) M → te τ2 M Q) (hd : fin ((xs.filter p).map f) M Q) : kLc fin plain is vs tt te τ Q (itSeq x (xs.map enc)) M := by
  refine ⟨fun i acc M' => M' = M ∧ acc = ((xs.take i).filter p).map f, ⟨rfl, rfl⟩, fun i acc M' hi p => hx M', fun i acc M' hi pp => ?_, fun acc M' pp => ?_⟩
  · obtain ⟨rfl, rfl⟩ := pp
    have hi : i < (xs.map enc).length := hi
    rw [List.length_map] at hi
    have e := List.getElem?_eq_getElem hi
    obtain ⟨τ2, e2, k1, k2⟩ := hs xs[i] (List.getElem_mem hi)
    have e3 : (itSeq x (xs.map enc)).at' i = enc xs[i] := getD_of (by rw [List.getElem?_map, e]; rfl)
    have e4 : xs.take (i + 1) = xs.take i ++ [xs[i]] := by rw [List.take_succ, e]; rfl
    rw [e3, e2]
    refine k1 _ ?_
    cases hp : p xs[i] with
    | true =>
      rw [if_pos rfl]
      refine k2 _ hp ⟨?_, rfl, ?_⟩
      · rw [List.length_map]
        have := List.length_filter_le p (xs.take i)
        rw [List.length_take] at this
        omega
      · rw [e4, List.filter_append, List.map_append]
        simp [hp]
    | false =>
      rw [if_neg Bool.false_ne_true]
      refine ⟨rfl, ?_⟩
      rw [e4, List.filter_append, List.map_append]
      simp [hp]
  · obtain ⟨rfl, rfl⟩ := pp
    have e : xs.take (itSeq x (xs.map enc)).n = xs := List.take_of_length_le (by show _ ≤ (xs.map enc).length; rw [List.length_map]; exact Nat.le_refl _)
    rw [e]
    exact hd

theorem len_law_what : ∀ ds M Q E, sp_law_what ds M Q E → ds.length = 4 := by rintro _ _ _ _ ⟨_, _, _, _, rfl, _⟩; rfl
theorem rd_law_what : Rds t_law_what n_law_what sp_law_what := by
  rintro _ M Q E ⟨a, last, os, ks, rfl, l0, on, ol, kn, kl, st, q⟩
  show t_law_what _ [some (.ref a), some (.int last), some (.tup (os.map .str)), some (.tup (ks.map Kd.enc)), none, none, none, none, none, none, none] M
  unfold t_law_what
  walk_at "g"
  refine ⟨a, _, _, rfl, .inl rfl, by simp, small_line (by decide), st, fun w M1 hw D1 => ?_⟩
  walk_at "g"
  refine ⟨a, _, _, rfl, .inr rfl, by simpa using kn, small_line (by rw [List.length_map]; omega), D1.ok, fun kd M2 hkd D2 => ?_⟩
  have D2 := D1.trans D2
  obtain ⟨k, hk, rfl⟩ := List.mem_map.mp hkd
  walk_at "g"
  refine ⟨a, _, _, rfl, .inr rfl, by simpa using on, small_line (by rw [List.length_map]; omega), D2.ok, fun od M3 hod D3 => ?_⟩
  have D3 := D2.trans D3
  obtain ⟨o, ho, rfl⟩ := List.mem_map.mp hod
  walk_at "g"
  refine ⟨a, _, rfl, by omega, D3.ok, fun d M4 d0 d1 D4 => ?_⟩
  have D4 := D3.trans D4
  have plain : ∀ z : Str, z ∈ [("made" : Str), "sold", "kept", "burnt"] → Q (.tup [.str z, .str k.name, .str o, .int d]) M4 := fun z hz => q (.plain z k.name o d) _ (.plain hz (List.mem_map_of_mem hk) ho d0 (by omega)) D4
  have hcase : w = .str "used" ∨ w = .str "sent" ∨ ∃ z : Str, w = .str z ∧ z ∈ [("made" : Str), "sold", "kept", "burnt"] ∧ z ≠ "used" ∧ z ≠ "sent" := by
    simp only [List.mem_cons, List.not_mem_nil, or_false] at hw
    rcases hw with rfl | rfl | rfl | rfl | rfl | rfl | rfl | rfl | rfl
    · exact .inr (.inr ⟨_, rfl, by simp, by decide, by decide⟩)
    · exact .inr (.inr ⟨_, rfl, by simp, by decide, by decide⟩)
    · exact .inr (.inr ⟨_, rfl, by simp, by decide, by decide⟩)
    · exact .inl rfl
    · exact .inl rfl
    · exact .inr (.inr ⟨_, rfl, by simp, by decide, by decide⟩)
    · exact .inr (.inr ⟨_, rfl, by simp, by decide, by decide⟩)
    · exact .inr (.inr ⟨_, rfl, by simp, by decide, by decide⟩)
    · exact .inr (.inl rfl)
  rcases hcase with rfl | rfl | ⟨z, rfl, hz, zu, zs⟩
  · walk_at "y"
    walk_at "g"
    refine s_klcFil Kd.enc (fun x => decide (x.value = k.value)) (fun x => .str x.name) (fun _ => rfl) (small_line (by omega)) (fun x hx => ⟨_, rfl, fun QB kq => ?_, fun QQ hq kq => ?_⟩) ?_
    · unfold Kd.enc
      walk_at "g"
      exact kq
    · unfold Kd.enc
      walk_at "g"
      exact kq
    walk_at "g"
    refine ⟨a, 3, rfl, by decide, D4.ok, fun e M5 e0 e1 D5 => ?_⟩
    have D5 := D4.trans D5
    walk_at "g"
    · walk_at "g"
      exact s_end (q (.used [k.name] o d) _ (.used k hk (.inl rfl) ho d0 (by omega)) D5)
    · have e2 : ((ks.filter fun x => decide (x.value = k.value)).map fun x : Kd => D.str x.name) = ((ks.filter fun x => decide (x.value = k.value)).map Kd.name).map .str := by rw [List.map_map]; rfl
      rw [e2]
      exact s_end (q (.used ((ks.filter fun x : Kd => decide (x.value = k.value)).map Kd.name) o d) _ (.used k hk (.inr rfl) ho d0 (by omega)) D5)
  · walk_at "n"
    walk_at "y"
    walk_at "g"
    refine s_klcFil D.str (fun x => !decide (x = o)) D.str (fun _ => rfl) (small_line (by omega)) (fun x hx => ⟨_, rfl, fun QB kq => ?_, fun QQ hq kq => ?_⟩) ?_
    · walk_at "g"
      exact kq
    · walk_at "g"
      exact kq
    walk_at "g"
    · rename_i hc hl
      rw [List.length_map] at hc
      refine ⟨a, _, rfl, by omega, D4.ok, fun d2 M5 d20 d21 D5 => ?_⟩
      have D5 := D4.trans D5
      walk_at "g"
      refine ⟨a, _, _, rfl, .inl rfl, fun z => ?_, small_line ?_, D5.ok, fun gd M6 hgd D6 => ?_⟩
      · have := congrArg List.length z
        rw [List.length_map] at this
        have : (List.filter (fun x => !decide (x = o)) os).length = 0 := this
        omega
      · rw [List.length_map]
        have := List.length_filter_le (fun x => !decide (x = o)) os
        omega
      have D6 := D5.trans D6
      obtain ⟨g, hgm, rfl⟩ := List.mem_map.mp hgd
      obtain ⟨hg, hgo⟩ := List.mem_filter.mp hgm
      have hgo : ¬ g = o := by simpa using hgo
      walk_at "g"
      refine ⟨a, _, rfl, by omega, D6.ok, fun e M7 e0 e1 D7 => ?_⟩
      walk_at "g"
      exact s_end (q (.sent k.name o d2 g (d2 + 1 + e)) _ (.sent (List.mem_map_of_mem hk) ho hg (fun z => hgo z.symm) d20 (by omega) (by omega)) (D6.trans D7))
    all_goals (walk_at "g"; exact s_end (plain "made" (by simp)))
  · walk_at "g"
    · rename_i hc; exact absurd hc zu
    · rename_i hc; exact absurd hc zs
    · walk_at "g"
      exact s_end (plain z hz)
theorem len_law_amounts : ∀ ds M Q E, sp_law_amounts ds M Q E → ds.length = 2 := by rintro _ _ _ _ ⟨_, _, rfl, _⟩; rfl
theorem rd_law_amounts : Rds t_law_amounts n_law_amounts sp_law_amounts := by
  rintro _ M Q E ⟨a, b, rfl, st, q⟩
  show t_law_amounts _ [some (.ref a), some (.bl b), none, none, none] M
  unfold t_law_amounts
  walk_at "g"
  refine ⟨a, 6, rfl, by decide, st, fun lo M1 lo0 lo1 D1 => ?_⟩
  have rest : ∀ (l : Int) (M2 : Mp), 0 ≤ l → l ≤ 1000000000 → Drawn M a M2 → t_law_amounts_c2 (fnE Q) [some (.ref a), some (.bl b), some (.int l), none, none] M2 := fun l M2 l0 l1 D2 => by
    unfold t_law_amounts_c2
    walk_at "g"
    refine ⟨a, 4, rfl, by decide, D2.ok, fun h M3 h0 h1 D3 => ?_⟩
    have D3 := D2.trans D3
    walk_at "g"
    refine ⟨a, _, _, rfl, .inl rfl, by simp, small_line (by simp), D3.ok, fun hd M4 hh D4 => ?_⟩
    have D4 := D3.trans D4
    have last : ∀ (hv : Option Int), (∀ v, hv = some v → l ≤ v ∧ v ≤ 1000000000) → t_law_amounts_c4 (fnE Q) [some (.ref a), some (.bl b), some (.int l), some (encI hv), none] M4 := fun hv hhv => by
      unfold t_law_amounts_c4
      walk_at "g"
      refine ⟨a, 5, rfl, by decide, D4.ok, fun t1 M5 t10 t11 D5 => ?_⟩
      have D5 := D4.trans D5
      walk_at "g"
      refine ⟨a, 1000, rfl, by decide, D5.ok, fun t2 M6 t20 t21 D6 => ?_⟩
      have D6 := D5.trans D6
      walk_at "g"
      refine ⟨a, _, _, rfl, .inl rfl, by simp, small_line (by simp), D6.ok, fun td M7 ht D7 => ?_⟩
      have D7 := D6.trans D7
      obtain ⟨tv, rfl, htv⟩ : ∃ tv : Option Int, td = encI tv ∧ ∀ t, tv = some t → 1 ≤ t ∧ t ≤ 1000 := by
        simp only [List.mem_cons, List.not_mem_nil, or_false] at ht
        rcases ht with rfl | rfl | rfl | rfl | rfl
        · exact ⟨none, rfl, fun t e => by cases e⟩
        · exact ⟨some 1, rfl, fun t e => by cases e; omega⟩
        · exact ⟨some (1 + t1), rfl, fun t e => by cases e; omega⟩
        · exact ⟨some (1 + t2), rfl, fun t e => by cases e; omega⟩
        · exact ⟨some 1000, rfl, fun t e => by cases e; omega⟩
      walk_at "g"
      exact s_end (q _ _ _ _ ⟨l0, l1, hhv, htv⟩ D7)
    simp only [List.mem_cons, List.not_mem_nil, or_false] at hh
    have some' : ∀ v : Int, hd = .int v → l ≤ v → t_law_amounts_c3 (fnE Q) [some (.ref a), some (.bl b), some (.int l), some hd, none] M4 := fun v e hv => by
      subst e
      unfold t_law_amounts_c3
      walk_at "w"
      refine s_I ⟨by decide, by decide, by decide⟩ ?_
      rw [show (10 : Int) ^ (9 : Int).toNat = 1000000000 by decide]
      walk_at "g"
      · refine s_I ⟨by decide, by decide, by decide⟩ ?_
        rw [show (10 : Int) ^ (9 : Int).toNat = 1000000000 by decide]
        walk_at "g"
        exact last (some 1000000000) fun v e => by cases e; omega
      · exact last (some v) fun v' e => by cases e; omega
    rcases hh with rfl | rfl | rfl | rfl
    · walk_at "g"
      show t_law_amounts_c3 (fnE Q) [some (.ref a), some (.bl b), some (.int l), some .non, none] M4
      unfold t_law_amounts_c3
      walk_at "w"
      exact last none fun v e => by cases e
    · walk_at "g"
      exact some' l rfl (by omega)
    · walk_at "g"
      exact some' l rfl (by omega)
    · walk_at "g"
      exact some' (l + h) rfl (by omega)
  cases b with
  | true =>
    walk_at "g"
    refine ⟨a, 1000, rfl, by decide, D1.ok, fun x M2 x0 x1 D2 => ?_⟩
    have D2 := D1.trans D2
    walk_at "g"
    refine ⟨a, 1000003, rfl, by decide, D2.ok, fun y M3 y0 y1 D3 => ?_⟩
    have D3 := D2.trans D3
    walk_at "g"
    refine s_mul (.inl (.inl ⟨by omega, by omega⟩)) ?_
    walk_at "g"
    refine s_I (by decide) ?_
    walk_at "g"
    have h0 := Int.emod_nonneg (x * y) (b := 1000000001) (by decide)
    have h1 := Int.emod_lt_of_pos (x * y) (b := 1000000001) (by decide)
    exact rest _ _ h0 (by omega) D3
  | false =>
    walk_at "g"
    exact rest _ _ lo0 (by omega) D1

/-! ### what can be sorted -/
/-- plain data of at most this depth -/
def dok : Nat → D → Bool
  | _, .non => true
  | _, .int _ => true
  | _, .str x => PyData.strOk x
  | n + 1, .tup ds => ds.all (dok n)
  | _, _ => false
theorem depthAll_le {n : Nat} : ∀ {ps : List PyData}, (∀ p ∈ ps, p.depth ≤ n) → PyData.depthAll ps ≤ n
  | [], _ => by simp [PyData.depthAll]
  | p :: ps, h => by
    rw [PyData.depthAll]
    exact Nat.max_le.mpr ⟨h p List.mem_cons_self, depthAll_le fun q hq => h q (List.mem_cons_of_mem _ hq)⟩
theorem plAll_of : ∀ {ps : List PyData}, (∀ p ∈ ps, pl p = true) → plAll ps = true
  | [], _ => by simp [plAll]
  | p :: ps, h => by
    rw [plAll, h p List.mem_cons_self, plAll_of fun q hq => h q (List.mem_cons_of_mem _ hq)]; rfl
theorem py_tup {ds : List D} (h : ∀ d ∈ ds, d.py = some (pyD d)) : D.py (.tup ds) = some (.tuple (ds.map pyD)) := by
  show (match pyAll ds with | some ps => some (PyData.tuple ps) | none => none) = _
  rw [pyAll_map h]
theorem dok_py : ∀ (n : Nat) (d : D), dok n d = true → d.py = some (pyD d) ∧ pl (pyD d) = true ∧ (pyD d).depth ≤ n
  | n, .non, _ => ⟨rfl, by show pl .none = true; simp [pl], by show PyData.depth .none ≤ n; simp [PyData.depth]⟩
  | n, .int i, _ => ⟨rfl, by show pl (.int i) = true; simp [pl], by show PyData.depth (.int i) ≤ n; simp [PyData.depth]⟩
  | n, .str x, h => by
    have h : PyData.strOk x = true := by cases n <;> exact h
    exact ⟨rfl, by show pl (.str x) = true; simpa [pl] using h, by show PyData.depth (.str x) ≤ n; simp [PyData.depth]⟩
  | n + 1, .tup ds, h => by
    have h : ds.all (dok n) = true := h
    have a := fun d hd => dok_py n d (List.all_eq_true.mp h d hd)
    have e := py_tup fun d hd => (a d hd).1
    have e2 : pyD (.tup ds) = .tuple (ds.map pyD) := by unfold pyD; rw [e]; rfl
    refine ⟨by rw [e2, e], ?_, ?_⟩
    · rw [e2, pl]
      exact plAll_of fun p hp => by
        obtain ⟨d, hd, rfl⟩ := List.mem_map.mp hp
        exact (a d hd).2.1
    · rw [e2, PyData.depth]
      exact Nat.succ_le_succ (depthAll_le fun p hp => by
        obtain ⟨d, hd, rfl⟩ := List.mem_map.mp hp
        exact (a d hd).2.2)
  | 0, .tup _, h => by cases h
  | n, .bl _, h => by cases n <;> cases h
  | n, .lst _, h => by cases n <;> cases h
  | n, .lsk _, h => by cases n <;> cases h
  | n, .ref _, h => by cases n <;> cases h
  | n, .ty _, h => by cases n <;> cases h
  | n, .fn _ _, h => by cases n <;> cases h
theorem dok_tup {n : Nat} {ds : List D} (h : dok (n + 1) (.tup ds) = true) : pyD (.tup ds) = .tuple (ds.map pyD) ∧ ∀ d ∈ ds, dok n d = true := by
  have h : ds.all (dok n) = true := h
  have a := List.all_eq_true.mp h
  refine ⟨?_, a⟩
  unfold pyD
  rw [py_tup fun d hd => (dok_py n d (a d hd)).1]; rfl
mutual
theorem pl_self : ∀ x : PyData, pl x = true → PyData.eqv x x = true
  | .none, _ => by simp [PyData.eqv]
  | .bool _, h => by simp [pl] at h
  | .int _, _ => by simp [PyData.eqv]
  | .str _, _ => by simp [PyData.eqv]
  | .list _, h => by simp [pl] at h
  | .tuple xs, h => by rw [PyData.eqv]; exact plAll_self xs (by simpa [pl] using h)
  | .dict _, h => by simp [pl] at h
theorem plAll_self : ∀ xs : List PyData, plAll xs = true → PyData.eqvAll xs xs = true
  | [], _ => by simp [PyData.eqvAll]
  | x :: xs, h => by rw [PySem.W.eqv_all_cons, pl_self x (pl_cons h).1, plAll_self xs (pl_cons h).2]; rfl
end
theorem cmpN_self : ∀ {xs : List PyData}, plAll xs = true → cmpN xs xs = true
  | [], _ => by simp [cmpN]
  | x :: xs, h => by rw [cmpN_cons, if_pos (pl_self x (pl_cons h).1)]; exact cmpN_self (pl_cons h).2
theorem cmpN_str {a b : Str} {xs ys : List PyData} (h : a = b → cmpN xs ys = true) : cmpN (.str a :: xs) (.str b :: ys) = true := by
  rw [cmpN_cons]
  by_cases e : a = b
  · rw [if_pos (by rw [PyData.eqv, e]; simp)]; exact h e
  · rw [if_neg (by rw [PyData.eqv]; simpa using e), ltOk]
theorem cmpN_int {a b : Int} {xs ys : List PyData} (h : a = b → cmpN xs ys = true) : cmpN (.int a :: xs) (.int b :: ys) = true := by
  rw [cmpN_cons]
  by_cases e : a = b
  · rw [if_pos (by rw [PyData.eqv, e]; simp)]; exact h e
  · rw [if_neg (by rw [PyData.eqv]; simpa using e), ltOk]
theorem cmpN_nil {xs : List PyData} : cmpN [] xs = true := by cases xs <;> simp [cmpN]
theorem sortD_map {α : Type} (enc : α → D) (xs : List α) : sortD (xs.map enc) = (xs.mergeSort fun a b => ordD (enc a) (enc b)).map enc :=
  (List.map_mergeSort (s := ordD) (f := enc) fun a _ b _ => rfl).symm
theorem ord_str {n m : Nat} {x y : Str} {r t : List D} (h : dok (n + 1) (.tup (.str x :: r)) = true) (g : dok (m + 1) (.tup (.str y :: t)) = true) (ne : x ≠ y) (o : ordD (.tup (.str x :: r)) (.tup (.str y :: t)) = true) : ltS x y := by
  unfold ordD at o
  rw [(dok_tup h).1, (dok_tup g).1, PySem.W.dataLt_tuple, List.map_cons, List.map_cons] at o
  have ex : pl (pyD (.str x)) = true := (dok_py n _ ((dok_tup h).2 _ List.mem_cons_self)).2.1
  have ey : pl (pyD (.str y)) = true := (dok_py m _ ((dok_tup g).2 _ List.mem_cons_self)).2.1
  rw [lt_all_no ey ex (by show ltOk (.str y) (.str x) = true; rw [ltOk]) (by show PyData.eqv (.str y) (.str x) = false; rw [PyData.eqv]; simpa using fun z => ne z.symm)] at o
  rw [show PySem.W.dataLt (pyD (.str y)) (pyD (.str x)) = decide (y.cps.toList < x.cps.toList) from PySem.W.dataLt_str y x] at o
  rcases ltS_tri x y with h1 | h1 | h1
  · exact h1
  · exact absurd h1 ne
  · rw [decide_eq_true ((ltCps_lt _ _).mpr h1)] at o; cases o
theorem sort_named {α : Type} {enc : α → D} {nm : α → Str} {xs : List α} {n : Nat} (hn : n < 60) (h1 : ∀ a ∈ xs, ∃ r, enc a = .tup (.str (nm a) :: r)) (h2 : ∀ a ∈ xs, dok (n + 1) (enc a) = true) (h3 : (xs.map nm).Nodup) :
    SortOk (xs.map enc) ∧ ∃ ys : List α, ys.Perm xs ∧ sortD (xs.map enc) = ys.map enc ∧ ys.Pairwise fun a b => ltS (nm a) (nm b) := by
  have inj : ∀ a ∈ xs, ∀ b ∈ xs, nm a = nm b → a = b := fun a ha b hb e => by
    obtain ⟨i, hi, rfl⟩ := List.getElem_of_mem ha
    obtain ⟨j, hj, rfl⟩ := List.getElem_of_mem hb
    have hp := List.pairwise_iff_getElem.mp (List.pairwise_map.mp (List.nodup_iff_pairwise_ne.mp h3))
    rcases Nat.lt_trichotomy i j with z | z | z
    · exact absurd e (hp i j hi hj z)
    · subst z; rfl
    · exact absurd e.symm (hp j i hj hi z)
  refine ⟨⟨fun d hd => ?_, ⟨fun d hd => ?_, fun ps qs hp hq => ?_, fun x r y t hx hy => ?_, fun d hd => ?_⟩⟩, xs.mergeSort fun a b => ordD (enc a) (enc b), List.mergeSort_perm _ _, sortD_map enc xs, ?_⟩
  · obtain ⟨a, ha, rfl⟩ := List.mem_map.mp hd
    exact (dok_py _ _ (h2 a ha)).1
  · obtain ⟨e, he, rfl⟩ := List.mem_map.mp hd
    obtain ⟨a, ha, rfl⟩ := List.mem_map.mp he
    obtain ⟨r, er⟩ := h1 a ha
    have hk := h2 a ha
    rw [er] at hk ⊢
    refine ⟨pyD (.str (nm a)), r.map pyD, (dok_tup hk).1, ?_⟩
    have := (dok_py _ _ hk).2.1
    rw [(dok_tup hk).1, pl] at this
    exact this
  · obtain ⟨e, he, ep⟩ := List.mem_map.mp hp
    obtain ⟨a, ha, rfl⟩ := List.mem_map.mp he
    obtain ⟨f, hf, eq⟩ := List.mem_map.mp hq
    obtain ⟨b, hb, rfl⟩ := List.mem_map.mp hf
    by_cases z : a = b
    · subst z
      have : ps = qs := by
        rw [ep] at eq
        exact PyData.tuple.inj eq
      subst this
      have := (dok_py _ _ (h2 a ha)).2.1
      rw [ep, pl] at this
      exact cmpN_self this
    · obtain ⟨r, er⟩ := h1 a ha
      obtain ⟨t, et⟩ := h1 b hb
      have ka := h2 a ha
      have kb := h2 b hb
      rw [er] at ka ep
      rw [et] at kb eq
      rw [(dok_tup ka).1] at ep
      rw [(dok_tup kb).1] at eq
      cases ep; cases eq
      exact cmpN_str fun w => absurd (inj a ha b hb w) z
  · obtain ⟨e, he, ep⟩ := List.mem_map.mp hx
    obtain ⟨a, ha, rfl⟩ := List.mem_map.mp he
    obtain ⟨f, hf, eq⟩ := List.mem_map.mp hy
    obtain ⟨b, hb, rfl⟩ := List.mem_map.mp hf
    obtain ⟨u, er⟩ := h1 a ha
    obtain ⟨v, et⟩ := h1 b hb
    have ka := h2 a ha
    have kb := h2 b hb
    rw [er] at ka ep
    rw [et] at kb eq
    rw [(dok_tup ka).1] at ep
    rw [(dok_tup kb).1] at eq
    cases ep; cases eq
    rfl
  · obtain ⟨e, he, rfl⟩ := List.mem_map.mp hd
    obtain ⟨a, ha, rfl⟩ := List.mem_map.mp he
    exact Nat.le_trans (dok_py _ _ (h2 a ha)).2.2 hn
  · have hs := List.pairwise_mergeSort (le := fun a b => ordD (enc a) (enc b)) (fun a b c => dLe_trans) (fun a b => dLe_total) xs
    have hnd : ((xs.mergeSort fun a b => ordD (enc a) (enc b)).map nm).Nodup := ((List.mergeSort_perm xs _).map nm).nodup_iff.mpr h3
    have hnd := List.pairwise_map.mp (List.nodup_iff_pairwise_ne.mp hnd)
    refine List.Pairwise.imp_of_mem (fun {a b} ha hb h => ?_) (List.Pairwise.and hs hnd)
    have ha := (List.mergeSort_perm xs _).mem_iff.mp ha
    have hb := (List.mergeSort_perm xs _).mem_iff.mp hb
    obtain ⟨r, er⟩ := h1 a ha
    obtain ⟨t, et⟩ := h1 b hb
    have ka := h2 a ha
    have kb := h2 b hb
    have o := h.1
    rw [er] at ka
    rw [et] at kb
    rw [er, et] at o
    exact ord_str ka kb h.2 o

theorem strOk_iff {z : Str} : PyData.strOk z = true ↔ ∀ c ∈ z.cps.toList, c < 0x110000 := by
  unfold PyData.strOk
  rw [← Array.all_toList, List.all_eq_true]
  exact ⟨fun h c hc => of_decide_eq_true (h c hc), fun h c hc => decide_eq_true (h c hc)⟩
theorem lw_ok {z : Str} (h : Lw z) : PyData.strOk z = true := strOk_iff.mpr fun c hc => by have := h c hc; omega
theorem num50 : ∀ k, k < 50 → PyData.strOk (toString ((k : Nat) : Int) : Str) = true ∧ (toString ((k : Nat) : Int) : Str).length ≤ 2 ∧ ((toString ((k : Nat) : Int) : Str)).cps.toList.all (fun c => decide (48 ≤ c ∧ c ≤ 57)) = true := by decide +kernel
theorem sl_tl : ("/" : Str).cps.toList = [47] := by decide +kernel
theorem takeW_all {p : Nat → Bool} : ∀ {xs ys : List Nat}, (∀ x ∈ xs, p x = true) → (xs ++ ys).takeWhile p = xs ++ ys.takeWhile p
  | [], _, _ => rfl
  | x :: xs, ys, h => by
    rw [List.cons_append, List.takeWhile_cons, if_pos (h x List.mem_cons_self), takeW_all fun y hy => h y (List.mem_cons_of_mem _ hy)]; rfl
def bse (z : Str) : List Nat := z.cps.toList.takeWhile fun c => decide (c ≠ 47)
theorem rn_base {b z : Str} (h : Rn b z) : bse z = b.cps.toList := by
  obtain ⟨nb, h⟩ := h
  have hb : ∀ x ∈ b.cps.toList, decide (x ≠ 47) = true := fun x hx => by
    have := nb.lw x hx
    exact decide_eq_true (by omega)
  unfold bse
  rcases h with rfl | ⟨i, hi, rfl⟩
  · have := takeW_all (ys := []) hb
    rw [List.append_nil] at this
    rw [this]; simp
  · rw [cps_add, cps_add, sl_tl, List.append_assoc, takeW_all hb, List.singleton_append, List.takeWhile_cons, if_neg (by simp), List.append_nil]
theorem rn_ok {b z : Str} (h : Rn b z) : PyData.strOk z = true := by
  obtain ⟨nb, h⟩ := h
  rcases h with rfl | ⟨i, hi, rfl⟩
  · exact lw_ok nb.lw
  · refine strOk_iff.mpr fun c hc => ?_
    rw [cps_add, cps_add, sl_tl] at hc
    simp only [List.mem_append, List.mem_singleton] at hc
    rcases hc with (hc | hc) | hc
    · have := nb.lw c hc; omega
    · omega
    · exact strOk_iff.mp (num50 i hi).1 c hc
theorem rn_len {b z : Str} (h : Rn b z) : z.length ≤ 14 := by
  obtain ⟨nb, h⟩ := h
  have := nb.hi
  rcases h with rfl | ⟨i, hi, rfl⟩
  · omega
  · rw [len_add, len_add]
    have := (num50 i hi).2.1
    show b.length + 1 + _ ≤ 14
    omega
theorem dok_str {n : Nat} {z : Str} (h : PyData.strOk z = true) : dok n (.str z) = true := by cases n <;> exact h
theorem dok_encI {n : Nat} (o : Option Int) : dok n (encI o) = true := by cases o <;> cases n <;> rfl
theorem dok_int {n : Nat} (i : Int) : dok n (.int i) = true := by cases n <;> rfl
theorem dok_tupOf {n : Nat} {ds : List D} (h : ∀ d ∈ ds, dok n d = true) : dok (n + 1) (.tup ds) = true := List.all_eq_true.mpr h
/-- the texts of a record are texts -/
theorem wt_dok {last : Int} {os : List Str} {ks : List Kd} {w : Wt} (ho : ∀ o ∈ os, Nw o) (hk : ∀ k ∈ ks, KdOk k) (h : WtOk last os ks w) : dok 2 w.enc = true := by
  have hk' : ∀ n ∈ ks.map Kd.name, PyData.strOk n = true := fun n hn => by
    obtain ⟨k, h1, rfl⟩ := List.mem_map.mp hn
    exact lw_ok (hk k h1).nm.lw
  have cn : ∀ w ∈ [("used" : Str), "sent", "made", "sold", "kept", "burnt"], PyData.strOk w = true := by decide +kernel
  cases h with
  | @used ns o d k h1 h2 h3 h4 h5 =>
    refine dok_tupOf fun d hd => ?_
    simp only [List.mem_cons, List.not_mem_nil, or_false] at hd
    rcases hd with rfl | rfl | rfl | rfl
    · exact dok_str (cn _ (by simp))
    · refine dok_tupOf fun d hd => ?_
      obtain ⟨n, hn, rfl⟩ := List.mem_map.mp hd
      refine dok_str ?_
      rcases h2 with rfl | rfl
      · rw [List.mem_singleton.mp hn]; exact lw_ok (hk k h1).nm.lw
      · obtain ⟨x, hx, rfl⟩ := List.mem_map.mp hn
        exact lw_ok (hk x (List.mem_filter.mp hx).1).nm.lw
    · exact dok_str (lw_ok (ho _ h3).lw)
    · exact dok_int _
  | sent h1 h2 h3 h4 h5 h6 h7 =>
    refine dok_tupOf fun d hd => ?_
    simp only [List.mem_cons, List.not_mem_nil, or_false] at hd
    rcases hd with rfl | rfl | rfl | rfl | rfl | rfl
    · exact dok_str (cn _ (by simp))
    · exact dok_str (hk' _ h1)
    · exact dok_str (lw_ok (ho _ h2).lw)
    · exact dok_int _
    · exact dok_str (lw_ok (ho _ h3).lw)
    · exact dok_int _
  | plain h1 h2 h3 h4 h5 =>
    refine dok_tupOf fun d hd => ?_
    simp only [List.mem_cons, List.not_mem_nil, or_false] at hd
    rcases hd with rfl | rfl | rfl | rfl
    · simp only [List.mem_cons, List.not_mem_nil, or_false] at h1
      rcases h1 with rfl | rfl | rfl | rfl <;> exact dok_str (cn _ (by simp))
    · exact dok_str (hk' _ h2)
    · exact dok_str (lw_ok (ho _ h3).lw)
    · exact dok_int _
theorem rec_dok {last : Int} {os : List Str} {ks : List Kd} {r : Rec} (ho : ∀ o ∈ os, Nw o) (hk : ∀ k ∈ ks, KdOk k) (h : RecOk last os ks r) : dok 3 r.enc = true := by
  refine dok_tupOf fun d hd => ?_
  simp only [List.mem_cons, List.not_mem_nil, or_false] at hd
  rcases hd with rfl | rfl | rfl | rfl | rfl
  · obtain ⟨b, hb⟩ := h.nm
    exact dok_str (rn_ok hb)
  · exact wt_dok ho hk h.wt
  · exact dok_int _
  · exact dok_encI _
  · exact dok_encI _
theorem len_law_records : ∀ ds M Q E, sp_law_records ds M Q E → ds.length = 6 := by rintro _ _ _ _ ⟨_, _, _, _, _, _, rfl, _⟩; rfl
theorem rd_law_records : Rds t_law_records n_law_records sp_law_records := by
  rintro _ M Q E ⟨a, last, os, ks, n, b, rfl, l0, on, ol, kn, kl, os', ks', hn, st, q⟩
  show t_law_records _ [some (.ref a), some (.int last), some (.tup (os.map .str)), some (.tup (ks.map Kd.enc)), some (.int n), some (.bl b), none, none, none, none, none] M
  unfold t_law_records
  walk_at "g"
  intro t ht
  obtain ⟨hat, G⟩ := Gr.start (Drawn.self st) ht
  walk_at "g"
  refine ⟨a, n, rfl, hn, G.st, fun ys M3 N D3 => ?_⟩
  have G := G.drawn hat D3
  walk_at "g"
  refine s_kforT (ds := ys.map .str) (fun i τ M' => ∃ (rs : List Rec) (x7 x8 x9 x10 : Option D), Gr M a t (rs.map Rec.enc) M' ∧ rs.length = i ∧ (∀ (j : Nat) r, rs[j]? = some r → ∃ z, ys[j]? = some z ∧ Rn z r.name) ∧ (∀ r ∈ rs, RecOk last os ks r) ∧ τ = [some (.ref a), some (.int last), some (.tup (os.map .str)), some (.tup (ks.map Kd.enc)), some (.int n), some (.bl b), some (.ref t), x7, x8, x9, x10]) (fun _ => rfl) ⟨[], _, _, _, _, G, rfl, (fun j r h => by simp at h), (fun k hk => by cases hk), rfl⟩ (fun i d τ M' hd ⟨rs, x7, x8, x9, x10, G, rl, bn, ok, e⟩ => ?_) (fun τ M' ⟨rs, x7, x8, x9, x10, G, rl, bn, ok, e⟩ => ?_)
  · subst e
    rw [List.getElem?_map] at hd
    obtain ⟨z, hz, rfl⟩ := Option.map_eq_some_iff.mp hd
    have hi := (List.getElem?_eq_some_iff.mp hz).1
    have hyn := N.len
    have nz := N.nm z (List.mem_of_getElem? hz)
    refine s_gname ?_
    show dSeq _ _ _ [some (.ref a), some (.int last), some (.tup (os.map .str)), some (.tup (ks.map Kd.enc)), some (.int n), some (.bl b), some (.ref t), some (.str z), x8, x9, x10] M'
    have fin : ∀ (w : Str) (M6 : Mp), Rn z w → Gr M a t (rs.map Rec.enc) M6 → t_law_records_c1_1
        ⟨fun τ M' => ∃ (rs : List Rec) (x7 x8 x9 x10 : Option D), Gr M a t (rs.map Rec.enc) M' ∧ rs.length = i + 1 ∧ (∀ (j : Nat) r, rs[j]? = some r → ∃ z, ys[j]? = some z ∧ Rn z r.name) ∧ (∀ r ∈ rs, RecOk last os ks r) ∧ τ = [some (.ref a), some (.int last), some (.tup (os.map .str)), some (.tup (ks.map Kd.enc)), some (.int n), some (.bl b), some (.ref t), x7, x8, x9, x10], rtQ Q, fun _ _ => True, fun _ _ => True⟩ [some (.ref a), some (.int last), some (.tup (os.map .str)), some (.tup (ks.map Kd.enc)), some (.int n), some (.bl b), some (.ref t), some (.str w), x8, x9, x10] M6 := fun w M6 hw G => by
      unfold t_law_records_c1_1
      walk_at "g"
      refine ⟨a, b, rfl, G.st, fun low high trust M7 am D7 => ?_⟩
      have G := G.drawn hat D7
      have hGt := G.at'
      walk_at "g"
      refine ⟨a, last, os, ks, rfl, l0, on, ol, kn, kl, G.st, fun wt M8 hwt D8 => ?_⟩
      have G := G.drawn hat D8
      have hGt := G.at'
      walk_at "g"
      refine s_append G.at' (small_line (by rw [List.length_map]; omega)) ?_
      have G8 := G.add hat ((rs ++ [(⟨w, wt, low, high, trust⟩ : Rec)]).map Rec.enc)
      refine s_kdrop ?_
      refine ⟨rs ++ [⟨w, wt, low, high, trust⟩], _, _, _, _, by rw [List.map_append] at G8 ⊢; exact G8, by rw [List.length_append, rl]; rfl, fun j r hj => ?_, fun r hr => ?_, rfl⟩
      · by_cases c : j < rs.length
        · rw [List.getElem?_append_left c] at hj
          exact bn j r hj
        · rw [List.getElem?_append_right (by omega)] at hj
          have c0 : j - rs.length = 0 := by
            by_cases z0 : j - rs.length = 0
            · exact z0
            · rw [List.getElem?_eq_none (by show 1 ≤ _; omega)] at hj; cases hj
          rw [c0] at hj
          cases hj
          exact ⟨z, by rw [show j = i by omega]; exact hz, hw⟩
      · rcases List.mem_append.mp hr with h | h
        · exact ok r h
        · rw [List.mem_singleton.mp h]
          exact ⟨⟨z, hw⟩, hwt, am⟩
    walk_at "g"
    refine ⟨a, 3, rfl, by decide, G.st, fun d M6 d0 d1 D6 => ?_⟩
    have G := G.drawn hat D6
    walk_at "g"
    · refine s_addS (small_line (by have := nz.hi; show z.length + 1 ≤ _; omega)) ?_
      walk_at "g"
      refine ⟨a, 50, rfl, by decide, G.st, fun m M7 m0 m1 D7 => ?_⟩
      have G := G.drawn hat D7
      obtain ⟨mn, rfl⟩ : ∃ mn : Nat, m = mn := ⟨m.toNat, by omega⟩
      have hm : mn < 50 := by omega
      walk_at "g"
      refine s_strOf (Nat.lt_of_lt_of_le (PySem.Flt.log2_lt_of (k := 6) (by decide) (by show mn < 2 ^ 6; omega)) (by decide)) ?_
      walk_at "g"
      refine s_addS (small_line (by rw [len_add]; have := nz.hi; have := (num50 mn hm).2.1; show z.length + 1 + _ ≤ _; omega)) ?_
      walk_at "g"
      exact fin _ _ ⟨nz, .inr ⟨mn, hm, rfl⟩⟩ G
    · exact fin z _ ⟨nz, .inl rfl⟩ G
  · subst e
    have hGt := G.at'
    rw [List.length_map] at rl
    have hyn := N.len
    have nd : (rs.map Rec.name).Nodup := by
      rw [List.nodup_iff_pairwise_ne, List.pairwise_map, List.pairwise_iff_getElem]
      intro i j hi hj hij e
      obtain ⟨z1, h1, r1⟩ := bn i _ (List.getElem?_eq_getElem hi)
      obtain ⟨z2, h2, r2⟩ := bn j _ (List.getElem?_eq_getElem hj)
      have := asc_at N.asc h1 h2 hij
      have e1 := rn_base r1
      rw [e, rn_base r2] at e1
      rw [str_ext e1] at this
      exact ltS_irrefl this
    obtain ⟨so, ys', hp, he, asc⟩ := sort_named (n := 2) (xs := rs) (enc := Rec.enc) (nm := Rec.name) (by decide) (fun r _ => ⟨_, rfl⟩) (fun r hr => rec_dok os'.nm ks'.ok (ok r hr)) nd
    walk_at "g"
    refine s_sortedD (lsOf_at G.at') so ?_
    rw [he]
    walk_at "g"
    refine (G.kp hat ht).end fun M5 D5 => q ys' _ ⟨by rw [hp.length_eq]; omega, fun r hr => ok r (hp.mem_iff.mp hr), asc⟩ (by rw [hp.length_eq]; omega) D5
theorem len_law_archive : ∀ ds M Q E, sp_law_archive ds M Q E → ds.length = 5 := by rintro _ _ _ _ ⟨_, _, _, _, _, rfl, _⟩; rfl
theorem rd_law_archive : Rds t_law_archive n_law_archive sp_law_archive := by
  rintro _ M Q E ⟨a, d, o, k, r, rfl, d1, d2, o1, o2, k1, k2, r0, r1, st, q⟩
  show t_law_archive _ [some (.ref a), some (.int d), some (.int o), some (.int k), some (.int r), none, none, none, none, none] M
  unfold t_law_archive
  walk_at "g"
  refine ⟨a, d, rfl, by omega, st, fun last M1 l0 l1 D1 => ?_⟩
  walk_at "g"
  refine ⟨a, o, rfl, by omega, D1.ok, fun on M2 on0 on1 D2 => ?_⟩
  have D2 := D1.trans D2
  walk_at "g"
  obtain ⟨om, hom⟩ : ∃ om : Nat, 1 + on = om := ⟨(1 + on).toNat, by omega⟩
  refine ⟨a, om, by rw [hom], by omega, D2.ok, fun os M3 N D3 => ?_⟩
  have D3 := D2.trans D3
  walk_at "g"
  refine ⟨a, k, rfl, by omega, D3.ok, fun kn M4 kn0 kn1 D4 => ?_⟩
  have D4 := D3.trans D4
  walk_at "g"
  obtain ⟨km, hkm⟩ : ∃ km : Nat, 1 + kn = km := ⟨(1 + kn).toNat, by omega⟩
  refine ⟨a, km, by rw [hkm], by omega, D4.ok, fun ks M5 K D5 => ?_⟩
  have D5 := D4.trans D5
  walk_at "g"
  refine ⟨a, 4, rfl, by decide, D5.ok, fun g M6 g0 g1 D6 => ?_⟩
  have D6 := D5.trans D6
  walk_at "g"
  refine ⟨a, _, rfl, by omega, D6.ok, fun m M7 m0 m1 D7 => ?_⟩
  have D7 := D6.trans D7
  obtain ⟨mn, rfl⟩ : ∃ mn : Nat, m = mn := ⟨m.toNat, by omega⟩
  have hol := N.len
  have hkl := K.len
  have one : os ≠ [] := fun z => by rw [z] at hol; simp at hol; omega
  have kne : ks ≠ [] := fun z => by rw [z] at hkl; simp at hkl; omega
  have N' : Nws os os.length := ⟨rfl, N.nm, N.asc⟩
  have K' : KdsOk ks ks.length := ⟨rfl, K.ok, K.asc⟩
  walk_at "g"
  refine ⟨a, last, os, ks, mn, _, rfl, l0, one, by omega, kne, by omega, N', K', by omega, D7.ok, fun rs M8 R rl D8 => ?_⟩
  have D8 := D7.trans D8
  walk_at "g"
  refine ⟨a, os, rfl, by omega, N.asc, D8.ok, fun rd M9 RD D9 => ?_⟩
  walk_at "g"
  exact s_end (q ⟨last, os, ks, rd, rs⟩ _ ⟨l0, by show last < 60; omega, N', one, by show os.length ≤ 20; omega, K', kne, by show ks.length ≤ 20; omega, RD, R⟩ l1 (by show (os.length : Int) ≤ o; omega) (by show (ks.length : Int) ≤ k; omega) (by show (rs.length : Int) ≤ r; omega) (D8.trans D9))

theorem nodup_asc {ys : List Str} (h : ys.Pairwise ltS) : ys.Nodup := List.nodup_iff_pairwise_ne.mpr (h.imp fun {a b} h e => by subst e; exact ltS_irrefl h)
/-- a table made of pairs whose keys differ -/
theorem foldPut {α κ : Type} [DecidableEq κ] (kf : α → κ) (vf : α → D) : ∀ (xs : List α) (acc : List (κ × D)), (xs.map kf).Nodup → (∀ a ∈ xs, ∀ p ∈ acc, p.1 ≠ kf a) → xs.foldl (fun acc a => putD acc (kf a) (vf a)) acc = acc ++ xs.map fun a => (kf a, vf a)
  | [], acc, _, _ => by simp
  | a :: xs, acc, hn, ha => by
    rw [List.map_cons] at hn
    obtain ⟨h1, h2⟩ := List.nodup_cons.mp hn
    have e : putD acc (kf a) (vf a) = acc ++ [(kf a, vf a)] := by
      unfold putD
      rw [if_neg]
      rw [List.any_eq_true]
      rintro ⟨p, hp, z⟩
      exact ha a List.mem_cons_self p hp (of_decide_eq_true z)
    rw [List.foldl_cons, e, foldPut kf vf xs _ h2 fun b hb p hp => ?_, List.append_assoc]
    · rfl
    · rcases List.mem_append.mp hp with h | h
      · exact ha b (List.mem_cons_of_mem _ hb) p h
      · rw [List.mem_singleton.mp h]
        exact fun z => h1 (List.mem_map.mpr ⟨b, hb, z.symm⟩)

theorem s_inS {neg : Bool} {y : D} {ws : List Str} {z : Str} {M : Mp} {Q : QD} (e : sqOf M y = some (ws.map .str)) (h : Q (.bl (if neg then !decide (z ∈ ws) else decide (z ∈ ws))) M) : dIn neg (.str z) y M Q :=
  s_in e rfl (flat_strs ws) (by rw [any_str]; exact h)
theorem s_inY {y : D} (ws : List Str) {z : Str} {M : Mp} {Q : QD} (e : sqOf M y = some (ws.map .str)) (hz : z ∈ ws) (h : Q (.bl true) M) : dIn false (.str z) y M Q := s_inS e (by rw [decide_eq_true hz]; exact h)
theorem s_inN {y : D} (ws : List Str) {z : Str} {M : Mp} {Q : QD} (e : sqOf M y = some (ws.map .str)) (hz : z ∉ ws) (h : Q (.bl false) M) : dIn false (.str z) y M Q := s_inS e (by rw [decide_eq_false hz]; exact h)
theorem s_niY {y : D} (ws : List Str) {z : Str} {M : Mp} {Q : QD} (e : sqOf M y = some (ws.map .str)) (hz : z ∈ ws) (h : Q (.bl false) M) : dIn true (.str z) y M Q := s_inS e (by rw [decide_eq_true hz]; exact h)
theorem s_niN {y : D} (ws : List Str) {z : Str} {M : Mp} {Q : QD} (e : sqOf M y = some (ws.map .str)) (hz : z ∉ ws) (h : Q (.bl true) M) : dIn true (.str z) y M Q := s_inS e (by rw [decide_eq_false hz]; exact h)

theorem len_spans_of : ∀ ds M Q E, sp_spans_of ds M Q E → ds.length = 1 := by rintro _ _ _ _ ⟨_, rfl, _⟩; rfl
theorem rd_spans_of : Rds t_spans_of n_spans_of sp_spans_of := by
  rintro _ M Q E ⟨ks, rfl, kl, kn, q⟩
  show t_spans_of _ [some (.tup (ks.map Kd.enc)), none] M
  unfold t_spans_of
  walk_at "g"
  refine s_kdcMap Kd.enc (fun k => tx k.name) (fun k => .tup [.int k.first, .int k.last]) (fun _ => rfl) (by rw [sizeLine_eq]; omega) (fun k QK hk hv h => ?_) (fun k QQ hk h => ?_) fun p hp => ?_
  · show dKeyK (dOp dIx (dVar 1) (dC (.int 0))) [some (.tup (ks.map Kd.enc)), some (.tup [.str k.name, .int k.value, .int k.first, .int k.last])] M QK
    walk_at "g"
    exact s_kkeyK rfl h
  · show dTup _ [some (.tup (ks.map Kd.enc)), some (.tup [.str k.name, .int k.value, .int k.first, .int k.last])] M QQ
    walk_at "g"
    exact h
  · have e := foldPut (fun k : Kd => tx k.name) (fun k : Kd => D.tup [.int k.first, .int k.last]) ks [] (by
      have : (ks.map fun k : Kd => tx k.name) = (ks.map Kd.name).map tx := by rw [List.map_map]; rfl
      rw [this, List.nodup_iff_pairwise_ne, List.pairwise_map]
      exact (List.nodup_iff_pairwise_ne.mp kn).imp fun {a b} h e => h (Sum.inr.inj e)) (fun a _ p hp => by cases hp)
    rw [e, List.nil_append]
    exact s_end (q p hp)
theorem valD_kinds {f : Kd → D} : ∀ {ks : List Kd} {k : Kd}, (ks.map Kd.name).Nodup → k ∈ ks → valD (ks.map fun k => (tx k.name, f k)) (tx k.name) = some (f k)
  | x :: ks, k, hn, hk => by
    rw [List.map_cons] at hn ⊢
    obtain ⟨h1, h2⟩ := List.nodup_cons.mp hn
    rcases List.mem_cons.mp hk with rfl | hk
    · simp [valD, List.find?_cons]
    · have : ¬ x.name = k.name := fun e => h1 (e ▸ List.mem_map_of_mem hk)
      have ih := valD_kinds (f := f) h2 hk
      unfold valD at ih ⊢
      rw [List.find?_cons, decide_eq_false (fun z => this (Sum.inr.inj z))]
      exact ih
theorem spanB_mem {ks : List Kd} {k : Kd} {d : Int} (hn : (ks.map Kd.name).Nodup) (hk : k ∈ ks) : spanB ks d k.name = (decide (k.first ≤ d) && decide (d ≤ k.last)) := by
  unfold spanB
  rw [Bool.eq_iff_iff, List.any_eq_true]
  constructor
  · rintro ⟨x, hx, h⟩
    rw [Bool.and_eq_true] at h
    have e : x.name = k.name := of_decide_eq_true h.1
    obtain ⟨i, hi, rfl⟩ := List.getElem_of_mem hx
    obtain ⟨j, hj, rfl⟩ := List.getElem_of_mem hk
    have hp := List.pairwise_iff_getElem.mp (List.pairwise_map.mp (List.nodup_iff_pairwise_ne.mp hn))
    rcases Nat.lt_trichotomy i j with z | z | z
    · exact absurd e (hp i j hi hj z)
    · subst z; exact h.2
    · exact absurd e.symm (hp j i hj hi z)
  · exact fun h => ⟨k, hk, by rw [decide_eq_true rfl, h]; rfl⟩
theorem wt_used_mem {last : Int} {os : List Str} {ks : List Kd} {ns : List Str} {o : Str} {d : Int} (h : WtOk last os ks (.used ns o d)) : ns.length ≤ ks.length ∧ ∀ n ∈ ns, ∃ k ∈ ks, k.name = n := by
  cases h with
  | used k h1 h2 h3 h4 h5 =>
    rcases h2 with rfl | rfl
    · exact ⟨List.length_pos_of_mem h1, fun n hn => ⟨k, h1, (List.mem_singleton.mp hn).symm⟩⟩
    · refine ⟨by rw [List.length_map]; exact List.length_filter_le _ _, fun n hn => ?_⟩
      obtain ⟨x, hx, rfl⟩ := List.mem_map.mp hn
      exact ⟨x, (List.mem_filter.mp hx).1, rfl⟩
theorem filter_succ {α : Type} {p : α → Bool} {xs : List α} {i : Nat} {x : α} (h : xs[i]? = some x) : (xs.take (i + 1)).filter p = (xs.take i).filter p ++ if p x = true then [x] else [] := by
  rw [List.take_succ, h, List.filter_append]
  congr 1
  show List.filter p [x] = _
  by_cases c : p x = true
  · rw [if_pos c, List.filter_cons, if_pos c]; rfl
  · rw [if_neg c, List.filter_cons, if_neg c]; rfl
theorem len_record_moves : ∀ ds M Q E, sp_record_moves ds M Q E → ds.length = 2 := by rintro _ _ _ _ ⟨_, _, _, _, rfl, _⟩; rfl
theorem rd_record_moves : RdsF t_record_moves n_record_moves sp_record_moves := by
  rintro _ M Q E ⟨last, os, ks, r, rfl, K, kl, R, q⟩
  obtain ⟨nm, wt, low, high, trust⟩ := r
  have hw := R.wt
  have hnd := nodup_asc K.asc
  show t_record_moves _ [some (.tup (ks.map Kd.enc)), some (.tup [.str nm, wt.enc, .int low, encI high, encI trust]), none, none, none, none, none] M
  unfold t_record_moves
  walk_at "g"
  have one : ∀ (w : Str) (p : Addr), M p = none → recMv ks ⟨nm, wt, low, high, trust⟩ = [[tx w, tx nm]] → rtF Q (.ref p) (updM M p (.lst [.tup [.str w, .str nm]])) := fun w p hp e => by
    rw [e] at q
    exact s_endF updM_same (updM_le hp) hp q
  have nil : ∀ (p : Addr), M p = none → recMv ks ⟨nm, wt, low, high, trust⟩ = [] → rtF Q (.ref p) (updM M p (.lst [])) := fun p hp e => by
    rw [e] at q
    exact s_endF updM_same (updM_le hp) hp q
  have hw : WtOk last os ks wt := hw
  cases wt with
  | used ns o d =>
    obtain ⟨nl, nk⟩ := wt_used_mem hw
    unfold Wt.enc
    walk_at "g"
    refine s_inN ["made", "sent", "burnt"] rfl (by decide) ?_
    walk_at "g"
    · rename_i hc; exact absurd rfl hc
    refine ⟨ks, rfl, kl, hnd, fun p hp => ?_⟩
    walk_at "g"
    intro t ht
    have hpt : p ≠ t := fun z => by subst z; rw [updM_same] at ht; cases ht
    rw [updM_ne (Ne.symm hpt)] at ht
    walk_at "g"
    refine s_kforT (ds := ns.map .str) (fun i τ M' => ∃ (x6 : Option D), M' = updM (updM M p (.dK (ks.map fun k => (tx k.name, .tup [.int k.first, .int k.last])))) t (.lst (mvD [tx "seen", tx nm] :: ((ns.take i).filter (spanB ks d)).map fun n => mvD [tx "used", tx nm, tx n])) ∧ τ = [some (.tup (ks.map Kd.enc)), some (.tup [.str nm, .tup [.str "used", .tup (ns.map .str), .str o, .int d], .int low, encI high, encI trust]), some (.str nm), some (.tup [.str "used", .tup (ns.map .str), .str o, .int d]), some (.ref p), some (.ref t), x6]) (fun _ => rfl) ⟨_, rfl, rfl⟩ (fun i dd τ M' hd ⟨x6, eM, e⟩ => ?_) (fun τ M' ⟨x6, eM, e⟩ => ?_)
    · subst eM; subst e
      rw [List.getElem?_map] at hd
      obtain ⟨n, hn, rfl⟩ := Option.map_eq_some_iff.mp hd
      obtain ⟨k, hk, rfl⟩ := nk n (List.mem_of_getElem? hn)
      have hM : ∀ o, (updM (updM M p (.dK (ks.map fun k => (tx k.name, .tup [.int k.first, .int k.last])))) t o) p = some (.dK (ks.map fun k => (tx k.name, .tup [.int k.first, .int k.last]))) := fun o => by rw [updM_ne hpt, updM_same]
      have fl := List.length_filter_le (spanB ks d) (ns.take i)
      have tl := List.length_take_le i ns
      rw [List.length_take] at fl
      refine s_gname ?_
      show dIfS _ _ _ _ [some (.tup (ks.map Kd.enc)), some (.tup [.str nm, .tup [.str "used", .tup (ns.map .str), .str o, .int d], .int low, encI high, encI trust]), some (.str nm), some (.tup [.str "used", .tup (ns.map .str), .str o, .int d]), some (.ref p), some (.ref t), some (.str k.name)] _
      walk_at "g"
      refine s_kkg (k := tx k.name) rfl (hM _) (valD_kinds hnd hk) ?_
      have hs := spanB_mem (d := d) hnd hk
      have out : spanB ks d k.name = false → ∃ (x6 : Option D), updM (updM M p (.dK (ks.map fun k => (tx k.name, .tup [.int k.first, .int k.last])))) t (.lst (mvD [tx "seen", tx nm] :: ((ns.take i).filter (spanB ks d)).map fun n => mvD [tx "used", tx nm, tx n])) = updM (updM M p (.dK (ks.map fun k => (tx k.name, .tup [.int k.first, .int k.last])))) t (.lst (mvD [tx "seen", tx nm] :: ((ns.take (i + 1)).filter (spanB ks d)).map fun n => mvD [tx "used", tx nm, tx n])) ∧ [some (.tup (ks.map Kd.enc)), some (.tup [.str nm, .tup [.str "used", .tup (ns.map .str), .str o, .int d], .int low, encI high, encI trust]), some (.str nm), some (.tup [.str "used", .tup (ns.map .str), .str o, .int d]), some (.ref p), some (.ref t), some (D.str k.name)] = [some (.tup (ks.map Kd.enc)), some (.tup [.str nm, .tup [.str "used", .tup (ns.map .str), .str o, .int d], .int low, encI high, encI trust]), some (.str nm), some (.tup [.str "used", .tup (ns.map .str), .str o, .int d]), some (.ref p), some (.ref t), x6] := fun z => by
        refine ⟨_, ?_, rfl⟩
        rw [filter_succ hn, if_neg (by rw [z]; exact Bool.false_ne_true), List.append_nil]
      walk_at "g"
      · rename_i c1
        refine s_kkg (k := tx k.name) rfl (hM _) (valD_kinds hnd hk) ?_
        walk_at "g"
        · rename_i c2
          rw [decide_eq_true c1, decide_eq_true c2, Bool.and_true] at hs
          refine s_append updM_same (by rw [List.length_cons, List.length_map, sizeLine_eq]; omega) ?_
          rw [updM_updM]
          refine s_kdrop ?_
          refine ⟨_, ?_, rfl⟩
          rw [filter_succ hn, if_pos hs, List.map_append]
          rfl
        · rename_i c2
          rw [decide_eq_false c2, Bool.and_false] at hs
          exact out hs
      · rename_i c1
        rw [decide_eq_false c1, Bool.false_and] at hs
        exact out hs
    · subst eM; subst e
      rw [List.length_map, List.take_length]
      walk_at "g"
      refine s_endF updM_same (M2 := M) (fun b m e => ?_) ht ?_
      · rw [updM_ne (fun z => by subst z; rw [ht] at e; cases e), updM_ne (fun z => by subst z; rw [hp] at e; cases e)]; exact e
      · have e2 : (recMv ks ⟨nm, .used ns o d, low, high, trust⟩).map mvD = mvD [tx "seen", tx nm] :: (ns.filter (spanB ks d)).map fun n => mvD [tx "used", tx nm, tx n] := by
          show (_ :: _ : List (List Key)).map mvD = _
          rw [List.map_cons, List.map_map]; rfl
        rw [e2] at q
        exact q
  | sent k o d g e =>
    unfold Wt.enc
    walk_at "g"
    refine s_inY ["made", "sent", "burnt"] rfl (by decide) ?_
    walk_at "g"
    intro p hp
    exact one "sent" p hp rfl
  | plain w k o d =>
    unfold Wt.enc
    have hwm : w ∈ [("made" : Str), "sold", "kept", "burnt"] := by cases hw with | plain h _ _ _ _ => exact h
    walk_at "g"
    simp only [List.mem_cons, List.not_mem_nil, or_false] at hwm
    rcases hwm with rfl | rfl | rfl | rfl
    · refine s_inY ["made", "sent", "burnt"] rfl (by decide) ?_
      walk_at "g"
      intro p hp
      exact one "made" p hp rfl
    · refine s_inN ["made", "sent", "burnt"] rfl (by decide) ?_
      walk_at "g"
      · intro p hp
        exact nil p hp rfl
      · rename_i hc; exact absurd hc (by decide)
    · refine s_inN ["made", "sent", "burnt"] rfl (by decide) ?_
      walk_at "g"
      · intro p hp
        exact nil p hp rfl
      · rename_i hc; exact absurd hc (by decide)
    · refine s_inY ["made", "sent", "burnt"] rfl (by decide) ?_
      walk_at "g"
      intro p hp
      exact one "burnt" p hp rfl

/-! ### moves and rows can be sorted -/
def keP : Key → PyData
  | .inl i => .int i
  | .inr s => .str s
theorem pyD_ke (k : Key) : pyD (keD k) = keP k := by cases k <;> rfl
def keyOk : Key → Bool
  | .inl _ => true
  | .inr s => PyData.strOk s
theorem dok_ke {n : Nat} {k : Key} (h : keyOk k = true) : dok n (keD k) = true := by cases k <;> cases n <;> exact h
theorem dok_mv {n : Nat} {m : List Key} (h : ∀ k ∈ m, keyOk k = true) : dok (n + 1) (mvD m) = true := dok_tupOf fun d hd => by
  obtain ⟨k, hk, rfl⟩ := List.mem_map.mp hd
  exact dok_ke (h k hk)
theorem pyD_mv {m : List Key} (h : ∀ k ∈ m, keyOk k = true) : pyD (mvD m) = .tuple (m.map keP) := by
  have := (dok_tup (n := 0) (dok_mv h)).1
  unfold mvD
  rw [this, List.map_map]
  congr 1
  exact List.map_congr_left fun k _ => pyD_ke k
abbrev twoW : List Str := ["made", "sent", "burnt", "seen"]
abbrev spotW : List Str := ["kept", "sold", "gone", "held"]
inductive MvS : List Key → Prop
  | two {w n} : w ∈ twoW → MvS [tx w, tx n]
  | used {n k} : MvS [tx "used", tx n, tx k]
  | spot {w k o d} : w ∈ spotW → MvS [tx w, tx k, tx o, nu d]
  | road {k s g d} : MvS [tx "carried", tx k, tx s, tx g, nu d]
inductive PlS : List Key → Prop
  | out : PlS outK
  | seen {n} : PlS [tx "seen", tx n]
  | at' {w k o d} : w ∈ [("stock" : Str), "town"] → PlS [tx w, tx k, tx o, nu d]
theorem w_ne {a b : Str} {xs ys : List Str} (ha : a ∈ xs) (hb : b ∈ ys) (h : ∀ x ∈ xs, x ∉ ys) : a ≠ b := fun e => h a ha (e ▸ hb)
theorem ne_of {a b : Str} {xs : List Str} (h : a ∈ xs) (g : b ∉ xs) : a ≠ b := fun e => g (e ▸ h)
theorem cmp_mv {m m' : List Key} (h : MvS m) (h' : MvS m') : cmpN (m.map keP) (m'.map keP) = true := by
  cases h <;> cases h' <;> refine cmpN_str fun e => ?_
  case two.two => exact cmpN_str fun _ => cmpN_nil
  case two.used => exact absurd e (ne_of ‹_ ∈ twoW› (by decide))
  case two.spot => exact absurd e (w_ne ‹_ ∈ twoW› ‹_ ∈ spotW› (by decide))
  case two.road => exact absurd e (ne_of ‹_ ∈ twoW› (by decide))
  case used.two => exact absurd e.symm (ne_of ‹_ ∈ twoW› (by decide))
  case used.used => exact cmpN_str fun _ => cmpN_str fun _ => cmpN_nil
  case used.spot => exact absurd e.symm (ne_of ‹_ ∈ spotW› (by decide))
  case used.road => exact absurd e (by decide)
  case spot.two => exact absurd e.symm (w_ne ‹_ ∈ twoW› ‹_ ∈ spotW› (by decide))
  case spot.used => exact absurd e (ne_of ‹_ ∈ spotW› (by decide))
  case spot.spot => exact cmpN_str fun _ => cmpN_str fun _ => cmpN_int fun _ => cmpN_nil
  case spot.road => exact absurd e (ne_of ‹_ ∈ spotW› (by decide))
  case road.two => exact absurd e.symm (ne_of ‹_ ∈ twoW› (by decide))
  case road.used => exact absurd e (by decide)
  case road.spot => exact absurd e.symm (ne_of ‹_ ∈ spotW› (by decide))
  case road.road => exact cmpN_str fun _ => cmpN_str fun _ => cmpN_str fun _ => cmpN_int fun _ => cmpN_nil
theorem cmp_pl {m m' : List Key} (h : PlS m) (h' : PlS m') : cmpN (m.map keP) (m'.map keP) = true := by
  cases h <;> cases h' <;> refine cmpN_str fun e => ?_
  case out.out => exact cmpN_nil
  case out.seen => exact absurd e (by decide)
  case out.at' => exact absurd e.symm (ne_of ‹_ ∈ [("stock" : Str), "town"]› (by decide))
  case seen.out => exact absurd e (by decide)
  case seen.seen => exact cmpN_str fun _ => cmpN_nil
  case seen.at' => exact absurd e.symm (ne_of ‹_ ∈ [("stock" : Str), "town"]› (by decide))
  case at'.out => exact absurd e (ne_of ‹_ ∈ [("stock" : Str), "town"]› (by decide))
  case at'.seen => exact absurd e (ne_of ‹_ ∈ [("stock" : Str), "town"]› (by decide))
  case at'.at' => exact cmpN_str fun _ => cmpN_str fun _ => cmpN_int fun _ => cmpN_nil
theorem MvS.ne {m : List Key} (h : MvS m) : ∃ w r, m = tx w :: r := by cases h <;> exact ⟨_, _, rfl⟩
theorem sort_moves {ms : List (List Key)} (h : ∀ m ∈ ms, MvS m) (hk : ∀ m ∈ ms, ∀ k ∈ m, keyOk k = true) : SortOk (ms.map mvD) := by
  have at' : ∀ d ∈ (ms.map mvD).map pyD, ∃ m ∈ ms, d = .tuple (m.map keP) := fun d hd => by
    obtain ⟨e, he, rfl⟩ := List.mem_map.mp hd
    obtain ⟨m, hm, rfl⟩ := List.mem_map.mp he
    exact ⟨m, hm, pyD_mv (hk m hm)⟩
  refine ⟨fun d hd => ?_, ⟨fun d hd => ?_, fun ps qs hp hq => ?_, fun x r y t hx hy => ?_, fun d hd => ?_⟩⟩
  · obtain ⟨m, hm, rfl⟩ := List.mem_map.mp hd
    exact (dok_py 1 _ (dok_mv (hk m hm))).1
  · obtain ⟨m, hm, rfl⟩ := at' d hd
    have e := (dok_py 1 _ (dok_mv (hk m hm))).2.1
    rw [pyD_mv (hk m hm), pl] at e
    obtain ⟨w, r, rfl⟩ := (h m hm).ne
    exact ⟨_, _, rfl, e⟩
  · obtain ⟨m, hm, e⟩ := at' _ hp
    obtain ⟨m', hm', e'⟩ := at' _ hq
    rw [PyData.tuple.inj e, PyData.tuple.inj e']
    exact cmp_mv (h m hm) (h m' hm')
  · obtain ⟨m, hm, e⟩ := at' _ hx
    obtain ⟨m', hm', e'⟩ := at' _ hy
    obtain ⟨w, r', rfl⟩ := (h m hm).ne
    obtain ⟨w', r'', rfl⟩ := (h m' hm').ne
    rw [(List.cons.inj (PyData.tuple.inj e)).1, (List.cons.inj (PyData.tuple.inj e')).1]
    rfl
  · obtain ⟨m, hm, rfl⟩ := at' d hd
    have e := (dok_py 1 _ (dok_mv (hk m hm))).2.2
    rw [pyD_mv (hk m hm)] at e
    exact Nat.le_trans e (by decide)
theorem cmpN_tup {xs ys ps qs : List PyData} (px : plAll xs = true) (py : plAll ys = true) (h : cmpN xs ys = true) (h2 : cmpN ps qs = true) : cmpN (.tuple xs :: ps) (.tuple ys :: qs) = true := by
  rw [cmpN_cons]
  split
  · exact h2
  · rw [ltOk]; exact h
structure RwS (r : Row) : Prop where
  m : MvS r.m
  s : PlS r.s
  g : PlS r.g
structure RwK (r : Row) : Prop where
  m : ∀ k ∈ r.m, keyOk k = true
  s : ∀ k ∈ r.s, keyOk k = true
  g : ∀ k ∈ r.g, keyOk k = true
theorem dok_row {r : Row} (h : RwK r) : dok 2 (rowD r) = true := dok_tupOf fun d hd => by
  simp only [List.mem_cons, List.not_mem_nil, or_false] at hd
  rcases hd with rfl | rfl | rfl
  · exact dok_mv h.m
  · exact dok_mv h.s
  · exact dok_mv h.g
theorem pl_mv {m : List Key} (h : ∀ k ∈ m, keyOk k = true) : plAll (m.map keP) = true := by
  have e := (dok_py 1 _ (dok_mv h)).2.1
  rw [pyD_mv h, pl] at e
  exact e
theorem pyD_row {r : Row} (h : RwK r) : pyD (rowD r) = .tuple [.tuple (r.m.map keP), .tuple (r.s.map keP), .tuple (r.g.map keP)] := by
  have := (dok_tup (n := 1) (dok_row h)).1
  unfold rowD
  rw [this, List.map_cons, List.map_cons, List.map_cons, List.map_nil, pyD_mv h.m, pyD_mv h.s, pyD_mv h.g]
theorem sort_rows {rs : List Row} (h : ∀ r ∈ rs, RwS r) (hk : ∀ r ∈ rs, RwK r) : SortOk (rs.map rowD) := by
  have at' : ∀ d ∈ (rs.map rowD).map pyD, ∃ r ∈ rs, d = .tuple [.tuple (r.m.map keP), .tuple (r.s.map keP), .tuple (r.g.map keP)] := fun d hd => by
    obtain ⟨e, he, rfl⟩ := List.mem_map.mp hd
    obtain ⟨r, hr, rfl⟩ := List.mem_map.mp he
    exact ⟨r, hr, pyD_row (hk r hr)⟩
  refine ⟨fun d hd => ?_, ⟨fun d hd => ?_, fun ps qs hp hq => ?_, fun x r y t hx hy => ?_, fun d hd => ?_⟩⟩
  · obtain ⟨r, hr, rfl⟩ := List.mem_map.mp hd
    exact (dok_py 2 _ (dok_row (hk r hr))).1
  · obtain ⟨r, hr, rfl⟩ := at' d hd
    have e := (dok_py 2 _ (dok_row (hk r hr))).2.1
    rw [pyD_row (hk r hr), pl] at e
    exact ⟨_, _, rfl, e⟩
  · obtain ⟨r, hr, e⟩ := at' _ hp
    obtain ⟨r', hr', e'⟩ := at' _ hq
    rw [PyData.tuple.inj e, PyData.tuple.inj e']
    have a := hk r hr
    have b := hk r' hr'
    exact cmpN_tup (pl_mv a.m) (pl_mv b.m) (cmp_mv (h r hr).m (h r' hr').m) (cmpN_tup (pl_mv a.s) (pl_mv b.s) (cmp_pl (h r hr).s (h r' hr').s) (cmpN_tup (pl_mv a.g) (pl_mv b.g) (cmp_pl (h r hr).g (h r' hr').g) cmpN_nil))
  · obtain ⟨r', hr, e⟩ := at' _ hx
    obtain ⟨r'', hr', e'⟩ := at' _ hy
    rw [(List.cons.inj (PyData.tuple.inj e)).1, (List.cons.inj (PyData.tuple.inj e')).1]
    rfl
  · obtain ⟨r, hr, rfl⟩ := at' d hd
    have e := (dok_py 2 _ (dok_row (hk r hr))).2.2
    rw [pyD_row (hk r hr)] at e
    exact Nat.le_trans e (by decide)
/-! the moves of an archive are such -/
theorem ko_tx {s : Str} (h : PyData.strOk s = true) : keyOk (tx s) = true := h
theorem word_ok : ∀ w ∈ [("made" : Str), "sent", "burnt", "seen", "used", "kept", "sold", "gone", "held", "carried", "outside", "stock", "town"], PyData.strOk w = true := by decide +kernel
theorem ks_all {P : Key → Prop} {a b : Key} (h : P a) (h2 : P b) : ∀ k ∈ [a, b], P k := fun k hk => by
  simp only [List.mem_cons, List.not_mem_nil, or_false] at hk
  rcases hk with rfl | rfl <;> assumption
theorem ks_all3 {P : Key → Prop} {a b c : Key} (h : P a) (h2 : P b) (h3 : P c) : ∀ k ∈ [a, b, c], P k := fun k hk => by
  simp only [List.mem_cons, List.not_mem_nil, or_false] at hk
  rcases hk with rfl | rfl | rfl <;> assumption
theorem ks_all4 {P : Key → Prop} {a b c d : Key} (h : P a) (h2 : P b) (h3 : P c) (h4 : P d) : ∀ k ∈ [a, b, c, d], P k := fun k hk => by
  simp only [List.mem_cons, List.not_mem_nil, or_false] at hk
  rcases hk with rfl | rfl | rfl | rfl <;> assumption
theorem ks_all5 {P : Key → Prop} {a b c d e : Key} (h : P a) (h2 : P b) (h3 : P c) (h4 : P d) (h5 : P e) : ∀ k ∈ [a, b, c, d, e], P k := fun k hk => by
  simp only [List.mem_cons, List.not_mem_nil, or_false] at hk
  rcases hk with rfl | rfl | rfl | rfl | rfl <;> assumption
theorem kw {w : Str} (h : w ∈ [("made" : Str), "sent", "burnt", "seen", "used", "kept", "sold", "gone", "held", "carried", "outside", "stock", "town"]) : keyOk (tx w) = true := word_ok w h
theorem ki (i : Int) : keyOk (nu i) = true := rfl
section
variable {A : Arc} (hA : ArcOk A)
include hA
theorem ArcOk.ko {o : Str} (h : o ∈ A.offices) : keyOk (tx o) = true := lw_ok (hA.os.nm o h).lw
theorem ArcOk.kk {k : Kd} (h : k ∈ A.kinds) : keyOk (tx k.name) = true := lw_ok (hA.ks.ok k h).nm.lw
theorem ArcOk.kkn {n : Str} (h : n ∈ A.kinds.map Kd.name) : keyOk (tx n) = true := by
  obtain ⟨k, hk, rfl⟩ := List.mem_map.mp h
  exact hA.kk hk
theorem ArcOk.kr {r : Rec} (h : r ∈ A.records) : keyOk (tx r.name) = true := by
  obtain ⟨b, hb⟩ := (hA.rc.ok r h).nm
  exact rn_ok hb
theorem moves_shape : ∀ m ∈ movesL A, MvS m ∧ ∀ k ∈ m, keyOk k = true := fun m hm => by
  unfold movesL at hm
  rcases List.mem_append.mp hm with h | h
  · obtain ⟨r, hr, h⟩ := List.mem_flatMap.mp h
    have R := hA.rc.ok r hr
    have kn := hA.kr hr
    unfold recMv at h
    split at h
    · rename_i ns o d e
      rcases List.mem_cons.mp h with rfl | h
      · exact ⟨.two (by decide), ks_all (kw (by simp)) kn⟩
      · obtain ⟨n, hn, rfl⟩ := List.mem_map.mp h
        have hw := R.wt
        rw [e] at hw
        obtain ⟨k, hk, rfl⟩ := (wt_used_mem hw).2 n (List.mem_filter.mp hn).1
        exact ⟨.used, ks_all3 (kw (by simp)) kn (hA.kk hk)⟩
    · rw [List.mem_singleton.mp h]
      exact ⟨.two (by decide), ks_all (kw (by simp)) kn⟩
    · rename_i w k o d e
      split at h
      · rename_i hw
        rw [List.mem_singleton.mp h]
        rcases hw with rfl | rfl
        · exact ⟨.two (by decide), ks_all (kw (by simp)) kn⟩
        · exact ⟨.two (by decide), ks_all (kw (by simp)) kn⟩
      · cases h
  · obtain ⟨k, hk, h⟩ := List.mem_flatMap.mp h
    have kk := hA.kk hk
    unfold kindMv at h
    rcases List.mem_append.mp h with h | h
    · obtain ⟨o, ho, h⟩ := List.mem_flatMap.mp h
      obtain ⟨i, _, h⟩ := List.mem_flatMap.mp h
      have ko := hA.ko ho
      unfold spotMv at h
      have four : ∀ w ∈ spotW, m = [tx w, tx k.name, tx o, nu i] → MvS m ∧ ∀ k ∈ m, keyOk k = true := fun w hw e => by
        subst e
        refine ⟨.spot hw, ks_all4 (kw ?_) kk ko (ki _)⟩
        simp only [List.mem_cons, List.not_mem_nil, or_false] at hw
        rcases hw with rfl | rfl | rfl | rfl <;> simp
      rcases List.mem_append.mp h with h | h
      · simp only [List.mem_cons, List.not_mem_nil, or_false] at h
        rcases h with h | h | h
        · exact four _ (by simp) h
        · exact four _ (by simp) h
        · exact four _ (by simp) h
      · split at h
        · exact four _ (by simp) (List.mem_singleton.mp h)
        · cases h
    · obtain ⟨r, hr, h⟩ := List.mem_flatMap.mp h
      obtain ⟨i, _, rfl⟩ := List.mem_map.mp h
      have ro := hA.rd.ok r hr
      exact ⟨.road, ks_all5 (kw (by simp)) kk (hA.ko ro.s) (hA.ko ro.g) (ki _)⟩
theorem moves_sort : SortOk ((movesL A).map mvD) := sort_moves (fun m hm => (moves_shape hA m hm).1) fun m hm => (moves_shape hA m hm).2
end

/-- a list that grows beside what was there -/
structure Ac (M : Mp) (t : Addr) (xs : List D) (M' : Mp) : Prop where
  at' : M' t = some (.lst xs)
  nw : M t = none
  le : ∀ b m, M b = some m → M' b = some m
theorem Ac.put {M M' : Mp} {t : Addr} {xs : List D} (h : Ac M t xs M') (ys : List D) : Ac M t ys (updM M' t (.lst ys)) := ⟨updM_same, h.nw, fun b m e => by
  rw [updM_ne (fun z => by subst z; rw [h.nw] at e; cases e)]; exact h.le b m e⟩
theorem Ac.new {M M' : Mp} {t : Addr} {ys : List D} (le : ∀ b m, M b = some m → M' b = some m) (ht : M' t = none) : Ac M t ys (updM M' t (.lst ys)) := ⟨updM_same, (by
  cases e : M t with
  | none => rfl
  | some m => rw [le t m e] at ht; cases ht), fun b m e => by
  rw [updM_ne (fun z => by subst z; rw [le _ m e] at ht; cases ht)]; exact le b m e⟩
theorem Ac.again {M M' : Mp} {t p : Addr} {xs ys : List D} (h : Ac M t xs M') (hp : M' p = none) : Ac M p ys (updM M' p (.lst ys)) := Ac.new h.le hp
theorem flat_succ {α β : Type} {f : α → List β} {xs : List α} {i : Nat} {x : α} (h : xs[i]? = some x) : (xs.take (i + 1)).flatMap f = (xs.take i).flatMap f ++ f x := by
  rw [List.take_succ, h, List.flatMap_append]; simp
theorem flat_rng {β : Type} {f : Nat → List β} {i : Nat} : (List.range (i + 1)).flatMap f = (List.range i).flatMap f ++ f i := by
  rw [List.range_succ, List.flatMap_append]; simp
theorem map_rng {β : Type} {f : Nat → β} {i : Nat} : (List.range (i + 1)).map f = (List.range i).map f ++ [f i] := by
  rw [List.range_succ, List.map_append]; rfl
theorem ltOf_at {M : Mp} {t : Addr} {xs : List D} (h : M t = some (.lst xs)) : ltOf M (.ref t) = some xs := by
  show (match M t with | some (.lst ds) => some ds | _ => none) = some xs
  rw [h]
theorem recMv_len {ks : List Kd} {r : Rec} {last : Int} {os : List Str} (h : RecOk last os ks r) (hk : ks.length ≤ 20) : (recMv ks r).length ≤ 21 := by
  have hw := h.wt
  unfold recMv
  split
  · rename_i ns o d e
    rw [e] at hw
    have := (wt_used_mem hw).1
    rw [List.length_cons, List.length_map]
    have := List.length_filter_le (spanB ks d) ns
    omega
  · show 1 ≤ 21; decide
  · split
    · show 1 ≤ 21; decide
    · show 0 ≤ 21; decide

theorem len_moves_of : ∀ ds M Q E, sp_moves_of ds M Q E → ds.length = 1 := by rintro _ _ _ _ ⟨_, rfl, _⟩; rfl
theorem rd_moves_of : Rds t_moves_of n_moves_of sp_moves_of := by
  rintro _ M Q E ⟨A, rfl, hA, q⟩
  have h1 := hA.l0
  have h2 := hA.l1
  have h3 := hA.ol
  have h4 := hA.kl
  have h5 := hA.rc.len
  have h6 : A.roads.length ≤ 400 := Nat.le_trans hA.rd.len (Nat.le_trans (Nat.mul_le_mul h3 h3) (by decide))
  obtain ⟨L, hL⟩ : ∃ L : Nat, A.last = L := ⟨A.last.toNat, by omega⟩

  show t_moves_of _ [some (.tup [.int A.last, .tup (A.offices.map .str), .tup (A.kinds.map Kd.enc), .tup (A.roads.map Road.enc), .tup (A.records.map Rec.enc)]), none, none, none, none, none, none, none, none, none, none, none, none, none] M
  unfold t_moves_of
  walk_at "g"
  intro t ht
  have G : Ac M t [] (updM M t (.lst [])) := Ac.new (fun _ _ e => e) ht
  walk_at "g"
  refine s_kforT (ds := A.records.map Rec.enc) (fun i τ M' => ∃ (t : Addr) (x7 : Option D), Ac M t (((A.records.take i).flatMap (recMv A.kinds)).map mvD) M' ∧ ((A.records.take i).flatMap (recMv A.kinds)).length ≤ 21 * i ∧ τ = [some (.tup [.int A.last, .tup (A.offices.map .str), .tup (A.kinds.map Kd.enc), .tup (A.roads.map Road.enc), .tup (A.records.map Rec.enc)]), some (.int A.last), some (.tup (A.offices.map .str)), some (.tup (A.kinds.map Kd.enc)), some (.tup (A.roads.map Road.enc)), some (.tup (A.records.map Rec.enc)), some (.ref t), x7, none, none, none, none, none, none]) (fun _ => rfl) ⟨t, _, G, by simp, rfl⟩ (fun i d τ M' hd ⟨t, x7, G, gl, e⟩ => ?_) (fun τ M' ⟨t, x7, G, gl, e⟩ => ?_)
  · subst e
    rw [List.getElem?_map] at hd
    obtain ⟨r, hr, rfl⟩ := Option.map_eq_some_iff.mp hd
    have hi := (List.getElem?_eq_some_iff.mp hr).1
    have R := hA.rc.ok r (List.mem_of_getElem? hr)
    have rl := recMv_len R h4
    refine s_gname ?_
    show dSet _ _ _ [some (.tup [.int A.last, .tup (A.offices.map .str), .tup (A.kinds.map Kd.enc), .tup (A.roads.map Road.enc), .tup (A.records.map Rec.enc)]), some (.int A.last), some (.tup (A.offices.map .str)), some (.tup (A.kinds.map Kd.enc)), some (.tup (A.roads.map Road.enc)), some (.tup (A.records.map Rec.enc)), some (.ref t), some r.enc, none, none, none, none, none, none] M'
    walk_at "g"
    refine ⟨A.last, A.offices, A.kinds, r, rfl, hA.ks, h4, R, ?_⟩
    walk_at "g"
    refine s_addM (ltOf_at G.at') rfl (small_line (by rw [List.length_map, List.length_map]; omega)) fun p hp => ?_
    walk_at "g"
    have G := G.again (ys := ((A.records.take (i + 1)).flatMap (recMv A.kinds)).map mvD) hp
    rw [flat_succ hr, List.map_append] at G
    refine ⟨p, _, by rw [flat_succ hr, List.map_append]; exact G, by rw [flat_succ hr, List.length_append]; omega, rfl⟩
  · subst e
    rw [List.length_map, List.take_length] at G gl
    walk_at "g"
    refine s_kforT (ds := A.kinds.map Kd.enc) (fun i τ M' => ∃ (x7 x8 x9 x10 x11 x12 x13 : Option D), Ac M t ((A.records.flatMap (recMv A.kinds) ++ (A.kinds.take i).flatMap (kindMv A)).map mvD) M' ∧ (A.records.flatMap (recMv A.kinds) ++ (A.kinds.take i).flatMap (kindMv A)).length ≤ 500 + 30000 * i ∧ τ = [some (.tup [.int A.last, .tup (A.offices.map .str), .tup (A.kinds.map Kd.enc), .tup (A.roads.map Road.enc), .tup (A.records.map Rec.enc)]), some (.int A.last), some (.tup (A.offices.map .str)), some (.tup (A.kinds.map Kd.enc)), some (.tup (A.roads.map Road.enc)), some (.tup (A.records.map Rec.enc)), some (.ref t), x7, x8, x9, x10, x11, x12, x13]) (fun _ => rfl) ⟨_, _, _, _, _, _, _, by simpa using G, by have := gl; simp only [List.take_zero, List.flatMap_nil, List.append_nil]; omega, rfl⟩ (fun i d τ M' hd ⟨x7, x8, x9, x10, x11, x12, x13, G, gl, e⟩ => ?_) (fun τ M' ⟨x7, x8, x9, x10, x11, x12, x13, G, gl, e⟩ => ?_)
    · subst e
      rw [List.getElem?_map] at hd
      obtain ⟨k, hk, rfl⟩ := Option.map_eq_some_iff.mp hd
      have hi := (List.getElem?_eq_some_iff.mp hk).1
      refine s_gname ?_
      show dSeq _ _ _ [some (.tup [.int A.last, .tup (A.offices.map .str), .tup (A.kinds.map Kd.enc), .tup (A.roads.map Road.enc), .tup (A.records.map Rec.enc)]), some (.int A.last), some (.tup (A.offices.map .str)), some (.tup (A.kinds.map Kd.enc)), some (.tup (A.roads.map Road.enc)), some (.tup (A.records.map Rec.enc)), some (.ref t), x7, some k.enc, x9, x10, x11, x12, x13] M'
      generalize hB : (A.records.flatMap (recMv A.kinds) ++ (A.kinds.take i).flatMap (kindMv A)) = B at G gl
      walk_at "g"
      refine s_kforT (ds := A.offices.map .str) (fun j τ M' => ∃ (x9 x10 x11 x12 x13 : Option D), Ac M t ((B ++ (A.offices.take j).flatMap fun o => (List.range (A.last + 1).toNat).flatMap fun i : Nat => spotMv A.last k.name o i).map mvD) M' ∧ (B ++ (A.offices.take j).flatMap fun o => (List.range (A.last + 1).toNat).flatMap fun i : Nat => spotMv A.last k.name o i).length ≤ 500 + 30000 * i + 240 * j ∧ τ = [some (.tup [.int A.last, .tup (A.offices.map .str), .tup (A.kinds.map Kd.enc), .tup (A.roads.map Road.enc), .tup (A.records.map Rec.enc)]), some (.int A.last), some (.tup (A.offices.map .str)), some (.tup (A.kinds.map Kd.enc)), some (.tup (A.roads.map Road.enc)), some (.tup (A.records.map Rec.enc)), some (.ref t), x7, some k.enc, x9, x10, x11, x12, x13]) (fun _ => rfl) ⟨_, _, _, _, _, by simpa using G, by simpa using gl, rfl⟩ (fun j d τ M' hd ⟨x9, x10, x11, x12, x13, G, gl, e⟩ => ?_) (fun τ M' ⟨x9, x10, x11, x12, x13, G, gl, e⟩ => ?_)
      · subst e
        rw [List.getElem?_map] at hd
        obtain ⟨o, ho, rfl⟩ := Option.map_eq_some_iff.mp hd
        have hj := (List.getElem?_eq_some_iff.mp ho).1
        refine s_gname ?_
        show dFor _ _ _ _ [some (.tup [.int A.last, .tup (A.offices.map .str), .tup (A.kinds.map Kd.enc), .tup (A.roads.map Road.enc), .tup (A.records.map Rec.enc)]), some (.int A.last), some (.tup (A.offices.map .str)), some (.tup (A.kinds.map Kd.enc)), some (.tup (A.roads.map Road.enc)), some (.tup (A.records.map Rec.enc)), some (.ref t), x7, some k.enc, some (.str o), x10, x11, x12, x13] M'
        generalize hC : (B ++ (A.offices.take j).flatMap fun o => (List.range (A.last + 1).toNat).flatMap fun i : Nat => spotMv A.last k.name o i) = C at G gl
        walk_at "g"
        refine s_kr1 (by omega) (by omega) ?_
        refine s_kforR (fun d τ M' => ∃ (x10 x11 x12 x13 : Option D), Ac M t ((C ++ (List.range d).flatMap fun i : Nat => spotMv A.last k.name o i).map mvD) M' ∧ (C ++ (List.range d).flatMap fun i : Nat => spotMv A.last k.name o i).length ≤ 500 + 30000 * i + 240 * j + 4 * d ∧ τ = [some (.tup [.int A.last, .tup (A.offices.map .str), .tup (A.kinds.map Kd.enc), .tup (A.roads.map Road.enc), .tup (A.records.map Rec.enc)]), some (.int A.last), some (.tup (A.offices.map .str)), some (.tup (A.kinds.map Kd.enc)), some (.tup (A.roads.map Road.enc)), some (.tup (A.records.map Rec.enc)), some (.ref t), x7, some k.enc, some (.str o), x10, x11, x12, x13]) ⟨_, _, _, _, by simpa using G, by simpa using gl, rfl⟩ (fun d τ M' hd ⟨x10, x11, x12, x13, G, gl, e⟩ => ?_) (fun τ M' ⟨x10, x11, x12, x13, G, gl, e⟩ => ?_)
        · subst e
          show dSeq _ _ _ [some (.tup [.int A.last, .tup (A.offices.map .str), .tup (A.kinds.map Kd.enc), .tup (A.roads.map Road.enc), .tup (A.records.map Rec.enc)]), some (.int A.last), some (.tup (A.offices.map .str)), some (.tup (A.kinds.map Kd.enc)), some (.tup (A.roads.map Road.enc)), some (.tup (A.records.map Rec.enc)), some (.ref t), x7, some k.enc, some (.str o), some (.int (0 + d)), x11, x12, x13] M'
          rw [Int.zero_add]
          generalize hB2 : (C ++ (List.range d).flatMap fun i : Nat => spotMv A.last k.name o i) = B2 at G gl
          have hGt := G.at'
          walk_at "g"
          refine s_append G.at' (small_line (by rw [List.length_map]; omega)) ?_
          have G := G.put (B2.map mvD ++ [mvD [tx "kept", tx k.name, tx o, nu d]])
          walk_at "g"
          refine s_append G.at' (small_line (by rw [List.length_append, List.length_map]; show B2.length + 1 + 1 ≤ _; omega)) ?_
          have G := G.put (B2.map mvD ++ [mvD [tx "kept", tx k.name, tx o, nu d]] ++ [mvD [tx "sold", tx k.name, tx o, nu d]])
          walk_at "g"
          refine s_append G.at' (small_line (by rw [List.length_append, List.length_append, List.length_map]; show B2.length + 1 + 1 + 1 ≤ _; omega)) ?_
          have G := G.put (B2.map mvD ++ [mvD [tx "kept", tx k.name, tx o, nu d]] ++ [mvD [tx "sold", tx k.name, tx o, nu d]] ++ [mvD [tx "gone", tx k.name, tx o, nu d]])
          have el : (spotMv A.last k.name o d).length ≤ 4 := by
            unfold spotMv
            rw [List.length_append]
            show 3 + _ ≤ 4
            split
            · show 3 + 1 ≤ 4; decide
            · show 3 + 0 ≤ 4; decide
          walk_at "g"
          · rename_i hc
            refine s_append G.at' (small_line (by rw [List.length_append, List.length_append, List.length_append, List.length_map]; show B2.length + 1 + 1 + 1 + 1 ≤ _; omega)) ?_
            have G := G.put (B2.map mvD ++ [mvD [tx "kept", tx k.name, tx o, nu d]] ++ [mvD [tx "sold", tx k.name, tx o, nu d]] ++ [mvD [tx "gone", tx k.name, tx o, nu d]] ++ [mvD [tx "held", tx k.name, tx o, nu d]])
            refine s_kdrop ?_
            refine ⟨_, _, _, _, ?_, by rw [flat_rng, ← List.append_assoc, hB2, List.length_append]; omega, rfl⟩
            rw [flat_rng, ← List.append_assoc, hB2, List.map_append]
            have e2 : (spotMv A.last k.name o d).map mvD = [mvD [tx "kept", tx k.name, tx o, nu d], mvD [tx "sold", tx k.name, tx o, nu d], mvD [tx "gone", tx k.name, tx o, nu d], mvD [tx "held", tx k.name, tx o, nu d]] := by
              unfold spotMv
              rw [if_pos hc]; rfl
            have e3 : B2.map mvD ++ (spotMv A.last k.name o d).map mvD = B2.map mvD ++ [mvD [tx "kept", tx k.name, tx o, nu d]] ++ [mvD [tx "sold", tx k.name, tx o, nu d]] ++ [mvD [tx "gone", tx k.name, tx o, nu d]] ++ [mvD [tx "held", tx k.name, tx o, nu d]] := by rw [e2]; simp
            rw [e3]
            exact G
          · rename_i hc
            refine ⟨_, _, _, _, ?_, by rw [flat_rng, ← List.append_assoc, hB2, List.length_append]; omega, rfl⟩
            rw [flat_rng, ← List.append_assoc, hB2, List.map_append]
            have e2 : (spotMv A.last k.name o d).map mvD = [mvD [tx "kept", tx k.name, tx o, nu d], mvD [tx "sold", tx k.name, tx o, nu d], mvD [tx "gone", tx k.name, tx o, nu d]] := by
              unfold spotMv
              rw [if_neg hc]; rfl
            have e3 : B2.map mvD ++ (spotMv A.last k.name o d).map mvD = B2.map mvD ++ [mvD [tx "kept", tx k.name, tx o, nu d]] ++ [mvD [tx "sold", tx k.name, tx o, nu d]] ++ [mvD [tx "gone", tx k.name, tx o, nu d]] := by rw [e2]; simp
            rw [e3]
            exact G
        · subst e
          refine ⟨_, _, _, _, _, by rw [flat_succ ho, ← List.append_assoc, hC]; exact G, ?_, rfl⟩
          rw [flat_succ ho, ← List.append_assoc, hC]
          omega
      · subst e
        rw [List.length_map, List.take_length] at G
        rw [List.length_map] at gl
        rw [List.take_length] at gl
        generalize hC : (B ++ A.offices.flatMap fun o => (List.range (A.last + 1).toNat).flatMap fun i : Nat => spotMv A.last k.name o i) = C at G gl
        walk_at "g"
        refine s_kforT (ds := A.roads.map Road.enc) (fun j τ M' => ∃ (x10 x11 x12 x13 : Option D), Ac M t ((C ++ (A.roads.take j).flatMap (roadMv A.last k.name)).map mvD) M' ∧ (C ++ (A.roads.take j).flatMap (roadMv A.last k.name)).length ≤ 500 + 30000 * i + 4800 + 60 * j ∧ τ = [some (.tup [.int A.last, .tup (A.offices.map .str), .tup (A.kinds.map Kd.enc), .tup (A.roads.map Road.enc), .tup (A.records.map Rec.enc)]), some (.int A.last), some (.tup (A.offices.map .str)), some (.tup (A.kinds.map Kd.enc)), some (.tup (A.roads.map Road.enc)), some (.tup (A.records.map Rec.enc)), some (.ref t), x7, some k.enc, x9, x10, x11, x12, x13]) (fun _ => rfl) ⟨_, _, _, _, by simpa using G, by simp; omega, rfl⟩ (fun j d τ M' hd ⟨x10, x11, x12, x13, G, gl, e⟩ => ?_) (fun τ M' ⟨x10, x11, x12, x13, G, gl, e⟩ => ?_)
        · subst e
          rw [List.getElem?_map] at hd
          obtain ⟨r, hr, rfl⟩ := Option.map_eq_some_iff.mp hd
          have hj := (List.getElem?_eq_some_iff.mp hr).1
          have hdy : 0 ≤ r.days ∧ r.days ≤ 60 := by
            rcases (hA.rd.ok r (List.mem_of_getElem? hr)).d with z | z | z <;> rw [z] <;> decide
          refine s_gtup rfl ?_
          show dFor _ _ _ _ [some (.tup [.int A.last, .tup (A.offices.map .str), .tup (A.kinds.map Kd.enc), .tup (A.roads.map Road.enc), .tup (A.records.map Rec.enc)]), some (.int A.last), some (.tup (A.offices.map .str)), some (.tup (A.kinds.map Kd.enc)), some (.tup (A.roads.map Road.enc)), some (.tup (A.records.map Rec.enc)), some (.ref t), x7, some k.enc, x9, x10, some (.str r.s), some (.str r.g), some (.int r.days)] M'
          generalize hB2 : (C ++ (A.roads.take j).flatMap (roadMv A.last k.name)) = B2 at G gl
          walk_at "g"
          refine s_kr1 (by omega) (by omega) ?_
          refine s_kforR (fun d τ M' => ∃ (x10 : Option D), Ac M t ((B2 ++ (List.range d).map fun i : Nat => [tx "carried", tx k.name, tx r.s, tx r.g, nu i]).map mvD) M' ∧ (B2 ++ (List.range d).map fun i : Nat => [tx "carried", tx k.name, tx r.s, tx r.g, nu i]).length ≤ 500 + 30000 * i + 4800 + 60 * j + d ∧ τ = [some (.tup [.int A.last, .tup (A.offices.map .str), .tup (A.kinds.map Kd.enc), .tup (A.roads.map Road.enc), .tup (A.records.map Rec.enc)]), some (.int A.last), some (.tup (A.offices.map .str)), some (.tup (A.kinds.map Kd.enc)), some (.tup (A.roads.map Road.enc)), some (.tup (A.records.map Rec.enc)), some (.ref t), x7, some k.enc, x9, x10, some (.str r.s), some (.str r.g), some (.int r.days)]) ⟨_, by simpa using G, by simpa using gl, rfl⟩ (fun d τ M' hd ⟨x10, G, gl, e⟩ => ?_) (fun τ M' ⟨x10, G, gl, e⟩ => ?_)
          · subst e
            show dDrop _ _ [some (.tup [.int A.last, .tup (A.offices.map .str), .tup (A.kinds.map Kd.enc), .tup (A.roads.map Road.enc), .tup (A.records.map Rec.enc)]), some (.int A.last), some (.tup (A.offices.map .str)), some (.tup (A.kinds.map Kd.enc)), some (.tup (A.roads.map Road.enc)), some (.tup (A.records.map Rec.enc)), some (.ref t), x7, some k.enc, x9, some (.int (0 + d)), some (.str r.s), some (.str r.g), some (.int r.days)] M'
            rw [Int.zero_add]
            have hGt := G.at'
            walk_at "g"
            refine s_append G.at' (small_line (by rw [List.length_map]; omega)) ?_
            have G := G.put ((B2 ++ (List.range d).map fun i : Nat => [tx "carried", tx k.name, tx r.s, tx r.g, nu i]).map mvD ++ [mvD [tx "carried", tx k.name, tx r.s, tx r.g, nu d]])
            refine s_kdrop ?_
            refine ⟨_, ?_, ?_, rfl⟩
            · rw [map_rng, ← List.append_assoc, List.map_append]; exact G
            · rw [map_rng, ← List.append_assoc, List.length_append]; show _ + 1 ≤ _; omega
          · subst e
            refine ⟨_, _, _, _, by rw [flat_succ hr, ← List.append_assoc, hB2]; exact G, ?_, rfl⟩
            rw [flat_succ hr, ← List.append_assoc, hB2]
            unfold roadMv
            omega
        · subst e
          rw [List.length_map, List.take_length] at G
          rw [List.length_map] at gl
          rw [List.take_length] at gl
          have e2 : (A.records.flatMap (recMv A.kinds) ++ (A.kinds.take (i + 1)).flatMap (kindMv A)) = C ++ A.roads.flatMap (roadMv A.last k.name) := by
            rw [flat_succ hk, ← List.append_assoc, hB, ← hC]
            unfold kindMv
            rw [List.append_assoc]
          refine ⟨_, _, _, _, _, _, _, by rw [e2]; exact G, ?_, rfl⟩
          rw [e2]
          omega
    · subst e
      rw [List.length_map, List.take_length] at G
      have hGt := G.at'
      walk_at "g"
      refine s_sortedDM (lsOf_at G.at') (moves_sort hA) fun p hp => ?_
      walk_at "g"
      have G2 := G.again (ys := sortD ((movesL A).map mvD)) hp
      have hn := G2.nw
      refine s_endL (fun b m e => ?_) (q p hn)
      by_cases z : b = p
      · subst z
        rw [updM_same] at e
        cases e
        exact G2.at'
      · rw [updM_ne z] at e
        exact G2.le b m e

theorem len_law_record_rows : ∀ ds M Q E, sp_law_record_rows ds M Q E → ds.length = 2 := by rintro _ _ _ _ ⟨_, _, _, _, rfl, _⟩; rfl
theorem rd_law_record_rows : RdsF t_law_record_rows n_law_record_rows sp_law_record_rows := by
  rintro _ M Q E ⟨last, os, ks, r, rfl, K, kl, R, q⟩
  obtain ⟨nm, wt, low, high, trust⟩ := r
  have hw := R.wt
  show t_law_record_rows _ [some (.tup (ks.map Kd.enc)), some (.tup [.str nm, wt.enc, .int low, encI high, encI trust]), none, none, none, none, none, none, none, none, none] M
  unfold t_law_record_rows
  walk_at "g"
  have fin : ∀ (p : Addr) (rs : List Row), M p = none → recRows ks ⟨nm, wt, low, high, trust⟩ = rs → rtF Q (.ref p) (updM M p (.lst (rs.map rowD))) := fun p rs hp e => by
    rw [e] at q
    exact s_endF updM_same (updM_le hp) hp q
  have hw : WtOk last os ks wt := hw
  cases wt with
  | used ns o d =>
    obtain ⟨nl, nk⟩ := wt_used_mem hw
    unfold Wt.enc
    walk_at "g"
    refine s_inN ["sold", "kept"] rfl (by decide) ?_
    walk_at "y"
    walk_at "g"
    intro t ht
    walk_at "g"
    refine s_kforT (ds := ks.map Kd.enc) (fun i τ M' => ∃ (x9 : Option D), M' = updM M t (.lst (rowD ⟨[tx "seen", tx nm], [tx "seen", tx nm], outK⟩ :: ((ks.take i).filter fun k => decide (k.name ∈ ns) && (decide (k.first ≤ d) && decide (d ≤ k.last))).map fun k => rowD ⟨[tx "used", tx nm, tx k.name], [tx "town", tx k.name, tx o, nu d], [tx "seen", tx nm]⟩)) ∧ τ = [some (.tup (ks.map Kd.enc)), some (.tup [.str nm, .tup [.str "used", .tup (ns.map .str), .str o, .int d], .int low, encI high, encI trust]), some (.str nm), some (.tup [.str "used", .tup (ns.map .str), .str o, .int d]), some (.int low), some (encI high), some (encI trust), some (.tup [.str "outside"]), some (.ref t), x9, none]) (fun _ => rfl) ⟨_, rfl, rfl⟩ (fun i dd τ M' hd ⟨x9, eM, e⟩ => ?_) (fun τ M' ⟨x9, eM, e⟩ => ?_)
    · subst eM; subst e
      rw [List.getElem?_map] at hd
      obtain ⟨k, hk, rfl⟩ := Option.map_eq_some_iff.mp hd
      have fl := List.length_filter_le (fun k : Kd => decide (k.name ∈ ns) && (decide (k.first ≤ d) && decide (d ≤ k.last))) (ks.take i)
      rw [List.length_take] at fl
      refine s_gname ?_
      show dIfS _ _ _ _ [some (.tup (ks.map Kd.enc)), some (.tup [.str nm, .tup [.str "used", .tup (ns.map .str), .str o, .int d], .int low, encI high, encI trust]), some (.str nm), some (.tup [.str "used", .tup (ns.map .str), .str o, .int d]), some (.int low), some (encI high), some (encI trust), some (.tup [.str "outside"]), some (.ref t), some k.enc, none] _
      have out : (decide (k.name ∈ ns) && (decide (k.first ≤ d) && decide (d ≤ k.last))) = false → ∃ (x9 : Option D), updM M t (.lst (rowD ⟨[tx "seen", tx nm], [tx "seen", tx nm], outK⟩ :: ((ks.take i).filter fun k => decide (k.name ∈ ns) && (decide (k.first ≤ d) && decide (d ≤ k.last))).map fun k => rowD ⟨[tx "used", tx nm, tx k.name], [tx "town", tx k.name, tx o, nu d], [tx "seen", tx nm]⟩)) = updM M t (.lst (rowD ⟨[tx "seen", tx nm], [tx "seen", tx nm], outK⟩ :: ((ks.take (i + 1)).filter fun k => decide (k.name ∈ ns) && (decide (k.first ≤ d) && decide (d ≤ k.last))).map fun k => rowD ⟨[tx "used", tx nm, tx k.name], [tx "town", tx k.name, tx o, nu d], [tx "seen", tx nm]⟩)) ∧ [some (.tup (ks.map Kd.enc)), some (.tup [.str nm, .tup [.str "used", .tup (ns.map .str), .str o, .int d], .int low, encI high, encI trust]), some (.str nm), some (.tup [.str "used", .tup (ns.map .str), .str o, .int d]), some (.int low), some (encI high), some (encI trust), some (.tup [.str "outside"]), some (.ref t), some k.enc, none] = [some (.tup (ks.map Kd.enc)), some (.tup [.str nm, .tup [.str "used", .tup (ns.map .str), .str o, .int d], .int low, encI high, encI trust]), some (.str nm), some (.tup [.str "used", .tup (ns.map .str), .str o, .int d]), some (.int low), some (encI high), some (encI trust), some (.tup [.str "outside"]), some (.ref t), x9, none] := fun z => by
        refine ⟨_, ?_, rfl⟩
        rw [filter_succ hk, if_neg (by rw [z]; exact Bool.false_ne_true), List.append_nil]
      walk_at "g"
      by_cases c0 : k.name ∈ ns
      · refine s_inY ns rfl c0 ?_
        rw [decide_eq_true c0, Bool.true_and] at out
        walk_at "g"
        · rename_i c1
          rename_i c2
          refine s_append updM_same (by rw [List.length_cons, List.length_map, sizeLine_eq]; omega) ?_
          rw [updM_updM]
          refine s_kdrop ?_
          refine ⟨_, ?_, rfl⟩
          rw [filter_succ hk, if_pos (by rw [decide_eq_true c0]; simp; omega), List.map_append]
          rfl
        all_goals (rename_i c1; exact out (by simp; omega))
      · refine s_inN ns rfl c0 ?_
        rw [decide_eq_false c0, Bool.false_and] at out
        walk_at "g"
        exact out rfl
    · subst eM; subst e
      rw [List.length_map, List.take_length]
      walk_at "g"
      refine s_endF updM_same (updM_le ht) ht ?_
      have e2 : (recRows ks ⟨nm, .used ns o d, low, high, trust⟩).map rowD = rowD ⟨[tx "seen", tx nm], [tx "seen", tx nm], outK⟩ :: (ks.filter fun k => decide (k.name ∈ ns) && (decide (k.first ≤ d) && decide (d ≤ k.last))).map fun k => rowD ⟨[tx "used", tx nm, tx k.name], [tx "town", tx k.name, tx o, nu d], [tx "seen", tx nm]⟩ := by
        show (_ :: _ : List Row).map rowD = _
        rw [List.map_cons, List.map_map]; rfl
      rw [e2] at q
      exact q
  | sent k o d g e =>
    unfold Wt.enc
    walk_at "g"
    refine s_inN ["sold", "kept"] rfl (by decide) ?_
    walk_at "n"
    walk_at "n"
    walk_at "n"
    walk_at "g"
    intro p hp
    exact fin p _ hp rfl
  | plain w k o d =>
    unfold Wt.enc
    have hwm : w ∈ [("made" : Str), "sold", "kept", "burnt"] := by cases hw with | plain h _ _ _ _ => exact h
    walk_at "g"
    simp only [List.mem_cons, List.not_mem_nil, or_false] at hwm
    rcases hwm with rfl | rfl | rfl | rfl
    · refine s_inN ["sold", "kept"] rfl (by decide) ?_
      walk_at "n"
      walk_at "y"
      walk_at "g"
      intro p hp
      exact fin p _ hp rfl
    · refine s_inY ["sold", "kept"] rfl (by decide) ?_
      walk_at "g"
      intro p hp
      exact fin p _ hp rfl
    · refine s_inY ["sold", "kept"] rfl (by decide) ?_
      walk_at "g"
      intro p hp
      exact fin p _ hp rfl
    · refine s_inN ["sold", "kept"] rfl (by decide) ?_
      walk_at "n"
      walk_at "n"
      walk_at "y"
      walk_at "g"
      intro p hp
      exact fin p _ hp rfl
theorem len_law_spot_rows : ∀ ds M Q E, sp_law_spot_rows ds M Q E → ds.length = 4 := by rintro _ _ _ _ ⟨_, _, _, _, rfl, _⟩; rfl
theorem rd_law_spot_rows : RdsF t_law_spot_rows n_law_spot_rows sp_law_spot_rows := by
  rintro _ M Q E ⟨last, k, o, d, rfl, q⟩
  show t_law_spot_rows _ [some (.int last), some (.str k), some (.str o), some (.int d), none, none, none] M
  unfold t_law_spot_rows
  walk_at "g"
  intro t ht
  walk_at "g"
  · rename_i hc
    refine s_append updM_same (small_line (by show 3 ≤ _; decide)) ?_
    rw [updM_updM]
    walk_at "g"
    refine s_endF updM_same (updM_le ht) ht ?_
    unfold spotRows at q
    rw [if_pos hc] at q
    exact q
  · rename_i hc
    refine s_append updM_same (small_line (by show 3 ≤ _; decide)) ?_
    rw [updM_updM]
    walk_at "g"
    refine s_append updM_same (small_line (by show 4 ≤ _; decide)) ?_
    rw [updM_updM]
    walk_at "g"
    refine s_endF updM_same (updM_le ht) ht ?_
    unfold spotRows at q
    rw [if_neg hc] at q
    exact q

theorem recRows_len {ks : List Kd} {r : Rec} (hk : ks.length ≤ 20) : (recRows ks r).length ≤ 21 := by
  unfold recRows
  split
  · rename_i ns o d e
    rw [List.length_cons, List.length_map]
    have := List.length_filter_le (fun k : Kd => decide (k.name ∈ ns) && (decide (k.first ≤ d) && decide (d ≤ k.last))) ks
    omega
  · show 1 ≤ 21; decide
  · split
    · show 1 ≤ 21; decide
    · split
      · show 1 ≤ 21; decide
      · show 0 ≤ 21; decide
theorem spotRows_len {last d : Int} {k o : Str} : (spotRows last k o d).length ≤ 4 := by
  unfold spotRows
  rw [List.length_append]
  split
  · show 2 + 1 ≤ 4; decide
  · show 2 + 2 ≤ 4; decide
section
variable {A : Arc} (hA : ArcOk A)
include hA
theorem rows_shape : ∀ r ∈ rowsL A, RwS r ∧ RwK r := fun x hx => by
  unfold rowsL at hx
  have two : ∀ {w n : Str}, w ∈ twoW → keyOk (tx n) = true → MvS [tx w, tx n] ∧ ∀ k ∈ [tx w, tx n], keyOk k = true := fun {w n} hw hn => by
    refine ⟨.two hw, ks_all (kw ?_) hn⟩
    simp only [List.mem_cons, List.not_mem_nil, or_false] at hw
    rcases hw with rfl | rfl | rfl | rfl <;> simp
  have oK : PlS outK ∧ ∀ k ∈ outK, keyOk k = true := ⟨.out, fun k hk => by rw [List.mem_singleton.mp hk]; exact kw (by simp)⟩
  have seenK : ∀ {n : Str}, keyOk (tx n) = true → PlS [tx "seen", tx n] ∧ ∀ k ∈ [tx "seen", tx n], keyOk k = true := fun hn => ⟨.seen, ks_all (kw (by simp)) hn⟩
  have plc : ∀ {w k o : Str} {d : Int}, w ∈ [("stock" : Str), "town"] → keyOk (tx k) = true → keyOk (tx o) = true → PlS [tx w, tx k, tx o, nu d] ∧ ∀ k' ∈ [tx w, tx k, tx o, nu d], keyOk k' = true := fun {w k o d} hw hk ho => by
    refine ⟨.at' hw, ks_all4 (kw ?_) hk ho (ki _)⟩
    simp only [List.mem_cons, List.not_mem_nil, or_false] at hw
    rcases hw with rfl | rfl <;> simp
  rcases List.mem_append.mp hx with h | h
  · obtain ⟨r, hr, h⟩ := List.mem_flatMap.mp h
    have R := hA.rc.ok r hr
    have kn := hA.kr hr
    have hw := R.wt
    unfold recRows at h
    split at h
    · rename_i ns o d e
      rw [e] at hw
      rcases List.mem_cons.mp h with rfl | h
      · have a := two (w := "seen") (by decide) kn
        have b := seenK kn
        exact ⟨⟨a.1, b.1, oK.1⟩, ⟨a.2, b.2, oK.2⟩⟩
      · obtain ⟨k, hk, rfl⟩ := List.mem_map.mp h
        have hk := (List.mem_filter.mp hk).1
        have ho : o ∈ A.offices := by cases hw with | used _ _ _ h _ _ => exact h
        have b := plc (w := "town") (d := d) (by simp) (hA.kk hk) (hA.ko ho)
        have c := seenK kn
        exact ⟨⟨.used, b.1, c.1⟩, ⟨ks_all3 (kw (by simp)) kn (hA.kk hk), b.2, c.2⟩⟩
    · rename_i k o d g e' e
      rw [e] at hw
      rw [List.mem_singleton.mp h]
      cases hw with
      | sent h1 h2 h3 _ _ _ _ =>
        have a := two (w := "sent") (by decide) kn
        have b := plc (w := "stock") (d := d) (by simp) (hA.kkn h1) (hA.ko h2)
        have c := plc (w := "stock") (d := e') (by simp) (hA.kkn h1) (hA.ko h3)
        exact ⟨⟨a.1, b.1, c.1⟩, ⟨a.2, b.2, c.2⟩⟩
    · rename_i w k o d e
      rw [e] at hw
      cases hw with
      | plain _ h1 h2 _ _ =>
        have b := plc (w := "stock") (d := d) (by simp) (hA.kkn h1) (hA.ko h2)
        split at h
        · rw [List.mem_singleton.mp h]
          have a := two (w := "made") (by decide) kn
          exact ⟨⟨a.1, oK.1, b.1⟩, ⟨a.2, oK.2, b.2⟩⟩
        · split at h
          · rw [List.mem_singleton.mp h]
            have a := two (w := "burnt") (by decide) kn
            exact ⟨⟨a.1, b.1, oK.1⟩, ⟨a.2, b.2, oK.2⟩⟩
          · cases h
  · obtain ⟨k, hk, h⟩ := List.mem_flatMap.mp h
    obtain ⟨i, _, h⟩ := List.mem_flatMap.mp h
    have kk := hA.kk hk
    unfold dayRows at h
    rcases List.mem_append.mp h with h | h
    · obtain ⟨o, ho, h⟩ := List.mem_flatMap.mp h
      have ko := hA.ko ho
      have mv : ∀ {w : Str}, w ∈ spotW → MvS [tx w, tx k.name, tx o, nu i] ∧ ∀ k' ∈ [tx w, tx k.name, tx o, nu i], keyOk k' = true := fun {w} hw => by
        refine ⟨.spot hw, ks_all4 (kw ?_) kk ko (ki _)⟩
        simp only [List.mem_cons, List.not_mem_nil, or_false] at hw
        rcases hw with rfl | rfl | rfl | rfl <;> simp
      have st := fun d : Int => plc (w := "stock") (d := d) (by simp) kk ko
      have tw := fun d : Int => plc (w := "town") (d := d) (by simp) kk ko
      have m1 := mv (w := "sold") (by simp)
      have m2 := mv (w := "gone") (by simp)
      have m3 := mv (w := "kept") (by simp)
      have m4 := mv (w := "held") (by simp)
      unfold spotRows at h
      rcases List.mem_append.mp h with h | h
      · simp only [List.mem_cons, List.not_mem_nil, or_false] at h
        rcases h with rfl | rfl
        · exact ⟨⟨m1.1, (st _).1, (tw _).1⟩, ⟨m1.2, (st _).2, (tw _).2⟩⟩
        · exact ⟨⟨m2.1, (tw _).1, oK.1⟩, ⟨m2.2, (tw _).2, oK.2⟩⟩
      · split at h
        · rw [List.mem_singleton.mp h]
          exact ⟨⟨m3.1, (st _).1, oK.1⟩, ⟨m3.2, (st _).2, oK.2⟩⟩
        · simp only [List.mem_cons, List.not_mem_nil, or_false] at h
          rcases h with rfl | rfl
          · exact ⟨⟨m3.1, (st _).1, (st _).1⟩, ⟨m3.2, (st _).2, (st _).2⟩⟩
          · exact ⟨⟨m4.1, (tw _).1, (tw _).1⟩, ⟨m4.2, (tw _).2, (tw _).2⟩⟩
    · obtain ⟨r, hr, rfl⟩ := List.mem_map.mp h
      have ro := hA.rd.ok r (List.mem_filter.mp hr).1
      have a := plc (w := "town") (d := (i : Int)) (by simp) kk (hA.ko ro.s)
      have b := plc (w := "town") (d := (i : Int) + r.days) (by simp) kk (hA.ko ro.g)
      exact ⟨⟨.road, a.1, b.1⟩, ⟨ks_all5 (kw (by simp)) kk (hA.ko ro.s) (hA.ko ro.g) (ki _), a.2, b.2⟩⟩
theorem rows_sort : SortOk ((rowsL A).map rowD) := sort_rows (fun m hm => (rows_shape hA m hm).1) fun m hm => (rows_shape hA m hm).2
end
theorem len_law_moves : ∀ ds M Q E, sp_law_moves ds M Q E → ds.length = 1 := by rintro _ _ _ _ ⟨_, rfl, _⟩; rfl
theorem rd_law_moves : Rds t_law_moves n_law_moves sp_law_moves := by
  rintro _ M Q E ⟨A, rfl, hA, q⟩
  have h1 := hA.l0
  have h2 := hA.l1
  have h3 := hA.ol
  have h4 := hA.kl
  have h5 := hA.rc.len
  have h6 : A.roads.length ≤ 400 := Nat.le_trans hA.rd.len (Nat.le_trans (Nat.mul_le_mul h3 h3) (by decide))

  show t_law_moves _ [some (.tup [.int A.last, .tup (A.offices.map .str), .tup (A.kinds.map Kd.enc), .tup (A.roads.map Road.enc), .tup (A.records.map Rec.enc)]), none, none, none, none, none, none, none, none, none, none, none, none, none] M
  unfold t_law_moves
  walk_at "g"
  intro t ht
  have G : Ac M t [] (updM M t (.lst [])) := Ac.new (fun _ _ e => e) ht
  walk_at "g"
  refine s_kforT (ds := A.records.map Rec.enc) (fun i τ M' => ∃ (t : Addr) (x7 : Option D), Ac M t (((A.records.take i).flatMap (recRows A.kinds)).map rowD) M' ∧ ((A.records.take i).flatMap (recRows A.kinds)).length ≤ 21 * i ∧ τ = [some (.tup [.int A.last, .tup (A.offices.map .str), .tup (A.kinds.map Kd.enc), .tup (A.roads.map Road.enc), .tup (A.records.map Rec.enc)]), some (.int A.last), some (.tup (A.offices.map .str)), some (.tup (A.kinds.map Kd.enc)), some (.tup (A.roads.map Road.enc)), some (.tup (A.records.map Rec.enc)), some (.ref t), x7, none, none, none, none, none, none]) (fun _ => rfl) ⟨t, _, G, by simp, rfl⟩ (fun i d τ M' hd ⟨t, x7, G, gl, e⟩ => ?_) (fun τ M' ⟨t, x7, G, gl, e⟩ => ?_)
  · subst e
    rw [List.getElem?_map] at hd
    obtain ⟨r, hr, rfl⟩ := Option.map_eq_some_iff.mp hd
    have hi := (List.getElem?_eq_some_iff.mp hr).1
    have R := hA.rc.ok r (List.mem_of_getElem? hr)
    have rl := recRows_len (r := r) h4
    refine s_gname ?_
    show dSet _ _ _ [some (.tup [.int A.last, .tup (A.offices.map .str), .tup (A.kinds.map Kd.enc), .tup (A.roads.map Road.enc), .tup (A.records.map Rec.enc)]), some (.int A.last), some (.tup (A.offices.map .str)), some (.tup (A.kinds.map Kd.enc)), some (.tup (A.roads.map Road.enc)), some (.tup (A.records.map Rec.enc)), some (.ref t), some r.enc, none, none, none, none, none, none] M'
    walk_at "g"
    refine ⟨A.last, A.offices, A.kinds, r, rfl, hA.ks, h4, R, ?_⟩
    walk_at "g"
    refine s_addM (ltOf_at G.at') rfl (small_line (by rw [List.length_map, List.length_map]; omega)) fun p hp => ?_
    walk_at "g"
    have G := G.again (ys := ((A.records.take (i + 1)).flatMap (recRows A.kinds)).map rowD) hp
    rw [flat_succ hr, List.map_append] at G
    refine ⟨p, _, by rw [flat_succ hr, List.map_append]; exact G, by rw [flat_succ hr, List.length_append]; omega, rfl⟩
  · subst e
    rw [List.length_map, List.take_length] at G gl
    walk_at "g"
    refine s_kforT (ds := A.kinds.map Kd.enc) (fun i τ M' => ∃ (t : Addr) (x7 x8 x9 x10 x11 x12 x13 : Option D), Ac M t ((A.records.flatMap (recRows A.kinds) ++ (A.kinds.take i).flatMap (fun k : Kd => (List.range (A.last + 1).toNat).flatMap fun i : Nat => dayRows A k i)).map rowD) M' ∧ (A.records.flatMap (recRows A.kinds) ++ (A.kinds.take i).flatMap (fun k : Kd => (List.range (A.last + 1).toNat).flatMap fun i : Nat => dayRows A k i)).length ≤ 500 + 30000 * i ∧ τ = [some (.tup [.int A.last, .tup (A.offices.map .str), .tup (A.kinds.map Kd.enc), .tup (A.roads.map Road.enc), .tup (A.records.map Rec.enc)]), some (.int A.last), some (.tup (A.offices.map .str)), some (.tup (A.kinds.map Kd.enc)), some (.tup (A.roads.map Road.enc)), some (.tup (A.records.map Rec.enc)), some (.ref t), x7, x8, x9, x10, x11, x12, x13]) (fun _ => rfl) ⟨_, _, _, _, _, _, _, _, by simpa using G, by have := gl; simp only [List.take_zero, List.flatMap_nil, List.append_nil]; omega, rfl⟩ (fun i d τ M' hd ⟨t, x7, x8, x9, x10, x11, x12, x13, G, gl, e⟩ => ?_) (fun τ M' ⟨t, x7, x8, x9, x10, x11, x12, x13, G, gl, e⟩ => ?_)
    · subst e
      rw [List.getElem?_map] at hd
      obtain ⟨k, hk, rfl⟩ := Option.map_eq_some_iff.mp hd
      have hi := (List.getElem?_eq_some_iff.mp hk).1
      refine s_gname ?_
      show dFor _ _ _ _ [some (.tup [.int A.last, .tup (A.offices.map .str), .tup (A.kinds.map Kd.enc), .tup (A.roads.map Road.enc), .tup (A.records.map Rec.enc)]), some (.int A.last), some (.tup (A.offices.map .str)), some (.tup (A.kinds.map Kd.enc)), some (.tup (A.roads.map Road.enc)), some (.tup (A.records.map Rec.enc)), some (.ref t), x7, some k.enc, x9, x10, x11, x12, x13] M'
      generalize hB : (A.records.flatMap (recRows A.kinds) ++ (A.kinds.take i).flatMap (fun k : Kd => (List.range (A.last + 1).toNat).flatMap fun i : Nat => dayRows A k i)) = B at G gl
      walk_at "g"
      refine s_kr1 (by omega) (by omega) ?_
      refine s_kforR (fun d τ M' => ∃ (t : Addr) (x9 x10 x11 x12 x13 : Option D), Ac M t ((B ++ (List.range d).flatMap fun i : Nat => dayRows A k i).map rowD) M' ∧ (B ++ (List.range d).flatMap fun i : Nat => dayRows A k i).length ≤ 500 + 30000 * i + 480 * d ∧ τ = [some (.tup [.int A.last, .tup (A.offices.map .str), .tup (A.kinds.map Kd.enc), .tup (A.roads.map Road.enc), .tup (A.records.map Rec.enc)]), some (.int A.last), some (.tup (A.offices.map .str)), some (.tup (A.kinds.map Kd.enc)), some (.tup (A.roads.map Road.enc)), some (.tup (A.records.map Rec.enc)), some (.ref t), x7, some k.enc, x9, x10, x11, x12, x13]) ⟨_, _, _, _, _, _, by simpa using G, by simpa using gl, rfl⟩ (fun d τ M' hd ⟨t, x9, x10, x11, x12, x13, G, gl, e⟩ => ?_) (fun τ M' ⟨t, x9, x10, x11, x12, x13, G, gl, e⟩ => ?_)
      · subst e
        show dSeq _ _ _ [some (.tup [.int A.last, .tup (A.offices.map .str), .tup (A.kinds.map Kd.enc), .tup (A.roads.map Road.enc), .tup (A.records.map Rec.enc)]), some (.int A.last), some (.tup (A.offices.map .str)), some (.tup (A.kinds.map Kd.enc)), some (.tup (A.roads.map Road.enc)), some (.tup (A.records.map Rec.enc)), some (.ref t), x7, some k.enc, some (.int (0 + d)), x10, x11, x12, x13] M'
        rw [Int.zero_add]
        generalize hC : (B ++ (List.range d).flatMap fun i : Nat => dayRows A k i) = C at G gl
        walk_at "g"
        refine s_kforT (ds := A.offices.map .str) (fun j τ M' => ∃ (t : Addr) (x10 x11 x12 x13 : Option D), Ac M t ((C ++ (A.offices.take j).flatMap fun o => spotRows A.last k.name o d).map rowD) M' ∧ (C ++ (A.offices.take j).flatMap fun o => spotRows A.last k.name o d).length ≤ 500 + 30000 * i + 480 * d + 4 * j ∧ τ = [some (.tup [.int A.last, .tup (A.offices.map .str), .tup (A.kinds.map Kd.enc), .tup (A.roads.map Road.enc), .tup (A.records.map Rec.enc)]), some (.int A.last), some (.tup (A.offices.map .str)), some (.tup (A.kinds.map Kd.enc)), some (.tup (A.roads.map Road.enc)), some (.tup (A.records.map Rec.enc)), some (.ref t), x7, some k.enc, some (.int d), x10, x11, x12, x13]) (fun _ => rfl) ⟨_, _, _, _, _, by simpa using G, by simpa using gl, rfl⟩ (fun j dd τ M' hd2 ⟨t, x10, x11, x12, x13, G, gl, e⟩ => ?_) (fun τ M' ⟨t, x10, x11, x12, x13, G, gl, e⟩ => ?_)
        · subst e
          rw [List.getElem?_map] at hd2
          obtain ⟨o, ho, rfl⟩ := Option.map_eq_some_iff.mp hd2
          have hj := (List.getElem?_eq_some_iff.mp ho).1
          refine s_gname ?_
          show dSet _ _ _ [some (.tup [.int A.last, .tup (A.offices.map .str), .tup (A.kinds.map Kd.enc), .tup (A.roads.map Road.enc), .tup (A.records.map Rec.enc)]), some (.int A.last), some (.tup (A.offices.map .str)), some (.tup (A.kinds.map Kd.enc)), some (.tup (A.roads.map Road.enc)), some (.tup (A.records.map Rec.enc)), some (.ref t), x7, some k.enc, some (.int d), some (.str o), x11, x12, x13] M'
          have el := spotRows_len (last := A.last) (d := d) (k := k.name) (o := o)
          walk_at "g"
          refine ⟨A.last, k.name, o, d, rfl, ?_⟩
          walk_at "g"
          refine s_addM (ltOf_at G.at') rfl (small_line (by rw [List.length_map, List.length_map]; omega)) fun p hp => ?_
          walk_at "g"
          have G := G.again (ys := ((C ++ (A.offices.take j).flatMap fun o => spotRows A.last k.name o d) ++ spotRows A.last k.name o d).map rowD) hp
          rw [List.map_append] at G
          refine ⟨p, _, _, _, _, by rw [flat_succ ho, ← List.append_assoc, List.map_append]; exact G, ?_, rfl⟩
          rw [flat_succ ho, ← List.append_assoc, List.length_append]
          omega
        · subst e
          rw [List.length_map, List.take_length] at G
          rw [List.length_map] at gl
          rw [List.take_length] at gl
          generalize hC2 : (C ++ A.offices.flatMap fun o => spotRows A.last k.name o d) = C2 at G gl
          walk_at "g"
          refine s_kforT (ds := A.roads.map Road.enc) (fun j τ M' => ∃ (x11 x12 x13 : Option D), Ac M t ((C2 ++ ((A.roads.take j).filter fun r => decide ((d : Int) + r.days ≤ A.last)).map (roadRow k.name d)).map rowD) M' ∧ (C2 ++ ((A.roads.take j).filter fun r => decide ((d : Int) + r.days ≤ A.last)).map (roadRow k.name d)).length ≤ 500 + 30000 * i + 480 * d + 80 + j ∧ τ = [some (.tup [.int A.last, .tup (A.offices.map .str), .tup (A.kinds.map Kd.enc), .tup (A.roads.map Road.enc), .tup (A.records.map Rec.enc)]), some (.int A.last), some (.tup (A.offices.map .str)), some (.tup (A.kinds.map Kd.enc)), some (.tup (A.roads.map Road.enc)), some (.tup (A.records.map Rec.enc)), some (.ref t), x7, some k.enc, some (.int d), x10, x11, x12, x13]) (fun _ => rfl) ⟨_, _, _, by simpa using G, by have := gl; simp only [List.take_zero, List.filter_nil, List.map_nil, List.append_nil]; omega, rfl⟩ (fun j dd τ M' hd2 ⟨x11, x12, x13, G, gl, e⟩ => ?_) (fun τ M' ⟨x11, x12, x13, G, gl, e⟩ => ?_)
          · subst e
            rw [List.getElem?_map] at hd2
            obtain ⟨r, hr, rfl⟩ := Option.map_eq_some_iff.mp hd2
            have hj := (List.getElem?_eq_some_iff.mp hr).1
            refine s_gname ?_
            show dIfS _ _ _ _ [some (.tup [.int A.last, .tup (A.offices.map .str), .tup (A.kinds.map Kd.enc), .tup (A.roads.map Road.enc), .tup (A.records.map Rec.enc)]), some (.int A.last), some (.tup (A.offices.map .str)), some (.tup (A.kinds.map Kd.enc)), some (.tup (A.roads.map Road.enc)), some (.tup (A.records.map Rec.enc)), some (.ref t), x7, some k.enc, some (.int d), x10, some r.enc, x12, x13] M'
            generalize hD : (C2 ++ ((A.roads.take j).filter fun r => decide ((d : Int) + r.days ≤ A.last)).map (roadRow k.name d)) = Dl at G gl
            have hGt := G.at'
            walk_at "g"
            · rename_i hc
              refine s_append G.at' (small_line (by rw [List.length_map]; omega)) ?_
              have G := G.put (Dl.map rowD ++ [rowD (roadRow k.name d r)])
              refine s_kdrop ?_
              have e3 : (C2 ++ ((A.roads.take (j + 1)).filter fun r => decide ((d : Int) + r.days ≤ A.last)).map (roadRow k.name d)) = Dl ++ [roadRow k.name d r] := by
                rw [filter_succ hr, if_pos (decide_eq_true hc), List.map_append, ← List.append_assoc, hD]; rfl
              refine ⟨_, _, _, by rw [e3, List.map_append]; exact G, ?_, rfl⟩
              rw [e3, List.length_append]
              show _ + 1 ≤ _
              omega
            · rename_i hc
              refine ⟨_, _, _, by rw [filter_succ hr, if_neg (by rw [decide_eq_false hc]; exact Bool.false_ne_true), List.append_nil, hD]; exact G, ?_, rfl⟩
              rw [filter_succ hr, if_neg (by rw [decide_eq_false hc]; exact Bool.false_ne_true), List.append_nil, hD]
              omega
          · subst e
            rw [List.length_map, List.take_length] at G
            rw [List.length_map] at gl
            rw [List.take_length] at gl
            have e2 : (B ++ (List.range (d + 1)).flatMap fun i : Nat => dayRows A k i) = C2 ++ (A.roads.filter fun r => decide ((d : Int) + r.days ≤ A.last)).map (roadRow k.name d) := by
              rw [flat_rng, ← List.append_assoc, hC, ← hC2]
              unfold dayRows
              rw [List.append_assoc]
            refine ⟨_, _, _, _, _, _, by rw [e2]; exact G, ?_, rfl⟩
            rw [e2]
            omega
      · subst e
        have e2 : (A.records.flatMap (recRows A.kinds) ++ (A.kinds.take (i + 1)).flatMap (fun k : Kd => (List.range (A.last + 1).toNat).flatMap fun i : Nat => dayRows A k i)) = B ++ (List.range (A.last + 1).toNat).flatMap fun i : Nat => dayRows A k i := by
          rw [flat_succ hk, ← List.append_assoc, hB]
        refine ⟨_, _, _, _, _, _, _, _, by rw [e2]; exact G, ?_, rfl⟩
        rw [e2]
        omega
    · subst e
      rw [List.length_map, List.take_length] at G
      rw [List.length_map] at gl
      rw [List.take_length] at gl
      have hGt := G.at'
      walk_at "g"
      refine s_sortedD (lsOf_at G.at') (rows_sort hA) ?_
      walk_at "g"
      exact s_endL G.le (q (by unfold rowsL; omega))

theorem keP_inj {a b : Key} (h : keP a = keP b) : a = b := by
  cases a <;> cases b <;> first | (cases h; rfl) | cases h
theorem mapP_inj : ∀ {a b : List Key}, a.map keP = b.map keP → a = b
  | [], [], _ => rfl
  | [], _ :: _, h => by cases h
  | _ :: _, [], h => by cases h
  | x :: a, y :: b, h => by
    rw [List.map_cons, List.map_cons] at h
    injection h with h1 h2
    rw [keP_inj h1, mapP_inj h2]

/-! ### the order of moves and of places, told by their members -/
def k1 : Key → Key → Prop
  | .inl i, .inl j => i < j
  | .inr s, .inr t => ltS s t
  | _, _ => False
def kLt : List Key → List Key → Prop
  | [], [] => False
  | [], _ :: _ => True
  | _ :: _, [] => False
  | x :: xs, y :: ys => (x = y ∧ kLt xs ys) ∨ (x ≠ y ∧ k1 x y)
theorem pl_ke {k : Key} (h : keyOk k = true) : pl (keP k) = true := by
  cases k
  · show pl (.int _) = true
    rw [pl]
  · show pl (.str _) = true
    rw [pl]; exact h
theorem lex_k : ∀ {xs ys : List Key}, (∀ k ∈ xs, keyOk k = true) → (∀ k ∈ ys, keyOk k = true) → cmpN (xs.map keP) (ys.map keP) = true →
    (PyProof.Rows.lexLt itemOrd (PySem.W.keyToksAll (xs.map keP)) (PySem.W.keyToksAll (ys.map keP)) = true ↔ kLt xs ys)
  | [], [], _, _, _ => by
    constructor
    · intro h
      rw [show PyProof.Rows.lexLt itemOrd (PySem.W.keyToksAll (([] : List Key).map keP)) (PySem.W.keyToksAll (([] : List Key).map keP)) = false from by
        show PyProof.Rows.lexLt itemOrd (PySem.W.keyToksAll []) (PySem.W.keyToksAll []) = false
        rw [PySem.W.keyToksAll]; rfl] at h
      cases h
    · intro h; exact h.elim
  | [], y :: ys, _, _, _ => by
    refine ⟨fun _ => trivial, fun _ => ?_⟩
    show PyProof.Rows.lexLt itemOrd (PySem.W.keyToksAll []) (PySem.W.keyToksAll (keP y :: ys.map keP)) = true
    rw [PySem.W.keyToksAll, PySem.W.keyToksAll]; rfl
  | x :: xs, [], _, _, _ => by
    refine ⟨fun h => ?_, fun h => h.elim⟩
    rw [show PyProof.Rows.lexLt itemOrd (PySem.W.keyToksAll ((x :: xs).map keP)) (PySem.W.keyToksAll (([] : List Key).map keP)) = false from by
      show PyProof.Rows.lexLt itemOrd (PySem.W.keyToksAll (keP x :: xs.map keP)) (PySem.W.keyToksAll []) = false
      rw [PySem.W.keyToksAll, PySem.W.keyToksAll]; rfl] at h
    cases h
  | x :: xs, y :: ys, hx, hy, hc => by
    rw [List.map_cons, List.map_cons] at hc ⊢
    rw [cmpN_cons] at hc
    have px := pl_ke (hx x List.mem_cons_self)
    have py := pl_ke (hy y List.mem_cons_self)
    by_cases e : x = y
    · subst e
      rw [if_pos (pl_self _ px)] at hc
      rw [lex_same, lex_k (fun k hk => hx k (List.mem_cons_of_mem _ hk)) (fun k hk => hy k (List.mem_cons_of_mem _ hk)) hc]
      exact ⟨fun h => .inl ⟨rfl, h⟩, fun h => h.elim (fun h => h.2) fun h => absurd rfl h.1⟩
    · have en : PyData.eqv (keP x) (keP y) = false := Bool.eq_false_iff.mpr fun z => e (keP_inj (pl_eqv _ _ px py z))
      rw [if_neg (by rw [en]; exact Bool.false_ne_true)] at hc
      rw [lt_all_no px py hc en]
      have k : PySem.W.dataLt (keP x) (keP y) = true ↔ k1 x y := by
        cases x <;> cases y
        · show PySem.W.dataLt (.int _) (.int _) = true ↔ _
          rw [PySem.W.dataLt_int]; exact decide_eq_true_iff
        · have : ltOk (.int _) (.str _) = true := hc
          simp [ltOk] at this
        · have : ltOk (.str _) (.int _) = true := hc
          simp [ltOk] at this
        · rename_i a b
          show PySem.W.dataLt (.str a) (.str b) = true ↔ ltS a b
          rw [PySem.W.dataLt_str, decide_eq_true_iff]; exact ltCps_lt _ _
      rw [k]
      exact ⟨fun h => .inr ⟨e, h⟩, fun h => h.elim (fun h => absurd h.1 e) fun h => h.2⟩
theorem ord_k {xs ys : List Key} (hx : ∀ k ∈ xs, keyOk k = true) (hy : ∀ k ∈ ys, keyOk k = true) (hc : cmpN (ys.map keP) (xs.map keP) = true) : ordD (mvD xs) (mvD ys) = true ↔ ¬ kLt ys xs := by
  unfold ordD
  rw [pyD_mv hx, pyD_mv hy, PySem.W.dataLt_tuple, ← lex_k hy hx hc]
  cases PyProof.Rows.lexLt itemOrd (PySem.W.keyToksAll (ys.map keP)) (PySem.W.keyToksAll (xs.map keP)) <;> simp
theorem ltS_irr {a : Str} (h : ltS a a) : False := by
  have := (ltCps_lt _ _).mpr h
  exact absurd this (List.lt_irrefl _)
theorem k1_asymm {x y : Key} (h : k1 x y) (g : k1 y x) : False := by
  cases x <;> cases y
  · exact absurd h (Int.lt_asymm g)
  · exact h
  · exact h
  · exact ltS_irr (ltS_trans h g)
theorem kLt_asymm : ∀ {xs ys : List Key}, kLt xs ys → kLt ys xs → False
  | [], [], h, _ => h
  | [], _ :: _, _, g => g
  | _ :: _, [], h, _ => h
  | x :: xs, y :: ys, h, g => by
    rcases h with ⟨e, h⟩ | ⟨e, h⟩
    · rcases g with ⟨_, g⟩ | ⟨f, g⟩
      · exact kLt_asymm h g
      · exact f e.symm
    · rcases g with ⟨f, _⟩ | ⟨_, g⟩
      · exact e f.symm
      · exact k1_asymm h g
theorem kLt_irr {xs : List Key} (h : kLt xs xs) : False := kLt_asymm h h
theorem kLt_tri : ∀ {xs ys : List Key}, cmpN (xs.map keP) (ys.map keP) = true → (∀ k ∈ xs, keyOk k = true) → (∀ k ∈ ys, keyOk k = true) → kLt xs ys ∨ xs = ys ∨ kLt ys xs
  | [], [], _, _, _ => .inr (.inl rfl)
  | [], _ :: _, _, _, _ => .inl trivial
  | _ :: _, [], _, _, _ => .inr (.inr trivial)
  | x :: xs, y :: ys, hc, hx, hy => by
    rw [List.map_cons, List.map_cons, cmpN_cons] at hc
    have px := pl_ke (hx x List.mem_cons_self)
    have py := pl_ke (hy y List.mem_cons_self)
    by_cases e : x = y
    · subst e
      rw [if_pos (pl_self _ px)] at hc
      rcases kLt_tri hc (fun k hk => hx k (List.mem_cons_of_mem _ hk)) (fun k hk => hy k (List.mem_cons_of_mem _ hk)) with h | h | h
      · exact .inl (.inl ⟨rfl, h⟩)
      · exact .inr (.inl (by rw [h]))
      · exact .inr (.inr (.inl ⟨rfl, h⟩))
    · have en : PyData.eqv (keP x) (keP y) = false := Bool.eq_false_iff.mpr fun z => e (keP_inj (pl_eqv _ _ px py z))
      rw [if_neg (by rw [en]; exact Bool.false_ne_true)] at hc
      have k : k1 x y ∨ k1 y x := by
        cases x <;> cases y
        · rename_i a b
          rcases Int.lt_trichotomy a b with h | h | h
          · exact .inl h
          · exact absurd (congrArg Sum.inl h) e
          · exact .inr h
        · have : ltOk (.int _) (.str _) = true := hc
          simp [ltOk] at this
        · have : ltOk (.str _) (.int _) = true := hc
          simp [ltOk] at this
        · rename_i a b
          rcases ltS_tri a b with h | h | h
          · exact .inl h
          · exact absurd (congrArg Sum.inr h) e
          · exact .inr h
      rcases k with k | k
      · exact .inl (.inr ⟨e, k⟩)
      · exact .inr (.inr (.inr ⟨fun z => e z.symm, k⟩))
/-- lists of one kind that can be compared and sorted -/
structure Cls (S : List Key → Prop) : Prop where
  ok : ∀ m, S m → ∀ k ∈ m, keyOk k = true
  cmp : ∀ m m', S m → S m' → cmpN (m.map keP) (m'.map keP) = true
theorem sort_same {S : List Key → Prop} (C : Cls S) {l ms : List (List Key)} (hS : ∀ m ∈ ms, S m) (hp : l.Perm ms) (hl : l.Pairwise fun a b => ¬ kLt b a) : sortD (ms.map mvD) = l.map mvD := by
  rw [sortD_map]
  congr 1
  have hs := List.pairwise_mergeSort (le := fun a b => ordD (mvD a) (mvD b)) (fun a b c => dLe_trans) (fun a b => dLe_total) ms
  have pm := List.mergeSort_perm ms fun a b => ordD (mvD a) (mvD b)
  have s1 : ∀ m ∈ ms.mergeSort fun a b => ordD (mvD a) (mvD b), S m := fun m hm => hS m (pm.mem_iff.mp hm)
  have s2 : ∀ m ∈ l, S m := fun m hm => hS m (hp.mem_iff.mp hm)
  refine List.Perm.eq_of_pairwise (le := fun a b => ¬ kLt b a) (fun a b ha hb h1 h2 => ?_) ?_ hl (pm.trans hp.symm)
  · have sa := s1 a ha
    have sb := s2 b hb
    rcases kLt_tri (C.cmp a b sa sb) (C.ok a sa) (C.ok b sb) with h | h | h
    · exact absurd h h2
    · exact h
    · exact absurd h h1
  · refine List.Pairwise.imp_of_mem (fun {a b} ha hb h => ?_) hs
    have sa := s1 a ha
    have sb := s1 b hb
    exact (ord_k (C.ok a sa) (C.ok b sb) (C.cmp b a sb sa)).mp h

/-! ### the rows of an archive tell its moves, each once -/
theorem flat_app {α β : Type} {f g : α → List β} : ∀ xs : List α, (xs.flatMap fun x => f x ++ g x).Perm (xs.flatMap f ++ xs.flatMap g)
  | [] => .nil
  | x :: xs => by
    rw [List.flatMap_cons, List.flatMap_cons, List.flatMap_cons]
    refine ((List.Perm.refl _).append (flat_app xs)).trans ?_
    rw [List.append_assoc, List.append_assoc]
    refine (List.Perm.refl _).append ?_
    rw [← List.append_assoc, ← List.append_assoc]
    exact List.perm_append_comm.append (.refl _)
theorem flat_swap {α β γ : Type} {f : α → β → List γ} : ∀ (xs : List α) (ys : List β), (xs.flatMap fun x => ys.flatMap (f x)).Perm (ys.flatMap fun y => xs.flatMap fun x => f x y)
  | [], ys => by
    have : (ys.flatMap fun _ => ([] : List γ)) = [] := by induction ys with
      | nil => rfl
      | cons y ys ih => rw [List.flatMap_cons, ih]; rfl
    show List.Perm [] (ys.flatMap fun y => [])
    rw [this]
  | x :: xs, ys => by
    rw [List.flatMap_cons]
    refine ((List.Perm.refl _).append (flat_swap xs ys)).trans ?_
    exact (flat_app ys).symm
theorem flat_perm {α β : Type} {f g : α → List β} : ∀ {xs : List α}, (∀ x ∈ xs, (f x).Perm (g x)) → (xs.flatMap f).Perm (xs.flatMap g)
  | [], _ => .nil
  | x :: xs, h => by
    rw [List.flatMap_cons, List.flatMap_cons]
    exact (h x List.mem_cons_self).append (flat_perm fun y hy => h y (List.mem_cons_of_mem _ hy))
theorem flat_filter {α β : Type} {p : α → Bool} {f : α → β} : ∀ xs : List α, (xs.filter p).map f = xs.flatMap fun x => if p x = true then [f x] else []
  | [] => rfl
  | x :: xs => by
    rw [List.flatMap_cons, ← flat_filter xs]
    by_cases h : p x = true
    · rw [List.filter_cons_of_pos h, if_pos h]; rfl
    · rw [List.filter_cons_of_neg h, if_neg h]; rfl
theorem filter_name {ks : List Kd} {k : Kd} (hn : (ks.map Kd.name).Nodup) (hk : k ∈ ks) : (ks.filter fun x => decide (x.name = k.name)) = [k] := by
  induction ks with
  | nil => cases hk
  | cons x ks ih =>
    rw [List.map_cons] at hn
    obtain ⟨h1, h2⟩ := List.nodup_cons.mp hn
    rcases List.mem_cons.mp hk with rfl | hk
    · rw [List.filter_cons_of_pos (by simp)]
      congr 1
      rw [List.filter_eq_nil_iff]
      intro y hy z
      exact h1 ((of_decide_eq_true z) ▸ List.mem_map_of_mem hy)
    · have : ¬ x.name = k.name := fun e => h1 (e ▸ List.mem_map_of_mem hk)
      rw [List.filter_cons_of_neg (by simpa using this)]
      exact ih h2 hk
theorem name_inj {ks : List Kd} (hn : (ks.map Kd.name).Nodup) {a b : Kd} (ha : a ∈ ks) (hb : b ∈ ks) (e : a.name = b.name) : a = b := by
  have h1 := filter_name hn ha
  have : b ∈ ks.filter fun x => decide (x.name = a.name) := List.mem_filter.mpr ⟨hb, decide_eq_true e.symm⟩
  rw [h1] at this
  exact (List.mem_singleton.mp this).symm
theorem recRows_m {last : Int} {os : List Str} {ks : List Kd} {r : Rec} (hn : (ks.map Kd.name).Nodup) (R : RecOk last os ks r) : (recRows ks r).map Row.m = recMv ks r := by
  have hw := R.wt
  unfold recRows recMv
  split
  · rename_i ns o d e
    rw [e] at hw
    rw [List.map_cons, List.map_map]
    congr 1
    obtain ⟨v, hv⟩ : ∃ v : Kd → Bool, ns = (ks.filter v).map Kd.name := by
      cases hw with
      | used k hk h2 _ _ _ =>
        rcases h2 with rfl | h2
        · exact ⟨fun x => decide (x.name = k.name), by rw [filter_name hn hk]; rfl⟩
        · exact ⟨_, h2⟩
    subst hv
    rw [List.filter_map, List.map_map, List.filter_filter]
    show List.map (fun k : Kd => [tx "used", tx r.name, tx k.name]) _ = List.map (fun k : Kd => [tx "used", tx r.name, tx k.name]) _
    congr 1
    refine List.filter_congr fun k hk => ?_
    show (decide (k.name ∈ _) && _) = (spanB ks d k.name && v k)
    rw [spanB_mem hn hk, Bool.and_comm]
    congr 1
    cases h : v k with
    | true => exact decide_eq_true (List.mem_map.mpr ⟨k, List.mem_filter.mpr ⟨hk, h⟩, rfl⟩)
    | false =>
      refine decide_eq_false fun z => ?_
      obtain ⟨x, hx, e⟩ := List.mem_map.mp z
      obtain ⟨hx, h2⟩ := List.mem_filter.mp hx
      rw [name_inj hn hx hk e, h] at h2
      cases h2
  · rfl
  · split
    · rename_i h
      rw [if_pos (.inl h), h]; rfl
    · split
      · rename_i h
        rw [if_pos (.inr h), h]; rfl
      · rename_i h1 h2
        rw [if_neg (fun z => z.elim h1 h2)]; rfl
theorem spotRows_m {last d : Int} {k o : Str} (h : d ≤ last) : ((spotRows last k o d).map Row.m).Perm (spotMv last k o d) := by
  unfold spotRows spotMv
  by_cases e : d = last
  · rw [if_pos e, if_neg (by omega)]
    show List.Perm [[tx "sold", tx k, tx o, nu d], [tx "gone", tx k, tx o, nu d], [tx "kept", tx k, tx o, nu d]] [[tx "kept", tx k, tx o, nu d], [tx "sold", tx k, tx o, nu d], [tx "gone", tx k, tx o, nu d]]
    exact List.perm_append_comm (l₁ := [[tx "sold", tx k, tx o, nu d], [tx "gone", tx k, tx o, nu d]]) (l₂ := [[tx "kept", tx k, tx o, nu d]])
  · rw [if_neg e, if_pos (by omega)]
    show List.Perm ([[tx "sold", tx k, tx o, nu d], [tx "gone", tx k, tx o, nu d], [tx "kept", tx k, tx o, nu d]] ++ [[tx "held", tx k, tx o, nu d]]) ([[tx "kept", tx k, tx o, nu d], [tx "sold", tx k, tx o, nu d], [tx "gone", tx k, tx o, nu d]] ++ [[tx "held", tx k, tx o, nu d]])
    exact (List.perm_append_comm (l₁ := [[tx "sold", tx k, tx o, nu d], [tx "gone", tx k, tx o, nu d]]) (l₂ := [[tx "kept", tx k, tx o, nu d]])).append (.refl _)
theorem range_cut {β : Type} {c : Nat → β} {D L : Int} (hD : 0 ≤ D) (hL : 0 ≤ L) : ((List.range (L + 1).toNat).flatMap fun i : Nat => if decide ((i : Int) + D ≤ L) = true then [c i] else []) = (List.range (L + 1 - D).toNat).map c := by
  have hn : (L + 1).toNat = (L + 1 - D).toNat + ((L + 1).toNat - (L + 1 - D).toNat) := by omega
  rw [hn, List.range_add, List.flatMap_append]
  have a : ((List.range (L + 1 - D).toNat).flatMap fun i : Nat => if decide ((i : Int) + D ≤ L) = true then [c i] else []) = (List.range (L + 1 - D).toNat).map c := by
    rw [← flat_filter (p := fun i : Nat => decide ((i : Int) + D ≤ L)), List.filter_eq_self.mpr]
    intro i hi
    have := List.mem_range.mp hi
    exact decide_eq_true (by omega)
  have b : (((List.range ((L + 1).toNat - (L + 1 - D).toNat)).map fun x => (L + 1 - D).toNat + x).flatMap fun i : Nat => if decide ((i : Int) + D ≤ L) = true then [c i] else []) = [] := by
    rw [← flat_filter (p := fun i : Nat => decide ((i : Int) + D ≤ L)), List.filter_eq_nil_iff.mpr]
    · rfl
    · intro i hi
      obtain ⟨j, hj, rfl⟩ := List.mem_map.mp hi
      have := List.mem_range.mp hj
      intro z
      have := of_decide_eq_true z
      omega
  rw [a, b, List.append_nil]
theorem rows_perm {A : Arc} (hA : ArcOk A) : ((rowsL A).map Row.m).Perm (movesL A) := by
  unfold rowsL movesL
  rw [List.map_append, List.map_flatMap, List.map_flatMap]
  refine List.Perm.append ?_ ?_
  · exact flat_perm fun r hr => by rw [recRows_m (nodup_asc hA.ks.asc) (hA.rc.ok r hr)]
  · refine flat_perm fun k hk => ?_
    rw [List.map_flatMap]
    unfold kindMv dayRows
    have e1 : ((List.range (A.last + 1).toNat).flatMap fun i : Nat => ((A.offices.flatMap fun o => spotRows A.last k.name o i) ++ (A.roads.filter fun r => decide ((i : Int) + r.days ≤ A.last)).map (roadRow k.name i)).map Row.m) =
        (List.range (A.last + 1).toNat).flatMap fun i : Nat => (A.offices.flatMap fun o => (spotRows A.last k.name o i).map Row.m) ++ A.roads.flatMap fun r => if decide ((i : Int) + r.days ≤ A.last) = true then [[tx "carried", tx k.name, tx r.s, tx r.g, nu i]] else [] := by
      congr 1
      funext i
      rw [List.map_append, List.map_flatMap, List.map_map, flat_filter]
      rfl
    rw [e1]
    refine (flat_app _).trans (List.Perm.append ?_ ?_)
    · refine (flat_perm (g := fun i : Nat => A.offices.flatMap fun o => spotMv A.last k.name o i) fun i hi => flat_perm fun o _ => spotRows_m ?_).trans (flat_swap _ _)
      have := List.mem_range.mp hi
      have := hA.l0
      omega
    · refine (flat_swap _ _).trans (flat_perm fun r hr => ?_)
      have hd : 0 ≤ r.days := by
        rcases (hA.rd.ok r hr).d with z | z | z <;> rw [z] <;> decide
      rw [range_cut (c := fun i : Nat => [tx "carried", tx k.name, tx r.s, tx r.g, nu i]) hd hA.l0]
      exact .refl _
def MvC (m : List Key) : Prop := MvS m ∧ ∀ k ∈ m, keyOk k = true
def PlC (m : List Key) : Prop := PlS m ∧ ∀ k ∈ m, keyOk k = true
theorem cls_mv : Cls MvC := ⟨fun m h => h.2, fun m m' h g => cmp_mv h.1 g.1⟩
theorem cls_pl : Cls PlC := ⟨fun m h => h.2, fun m m' h g => cmp_pl h.1 g.1⟩
/-- the sorted rows tell the sorted moves -/
theorem rows_sorted {A : Arc} (hA : ArcOk A) : ∃ rs : List Row, rs.Perm (rowsL A) ∧ sortD ((rowsL A).map rowD) = rs.map rowD ∧ sortD ((movesL A).map mvD) = rs.map fun r => mvD r.m := by
  have pm := List.mergeSort_perm (rowsL A) fun a b => ordD (rowD a) (rowD b)
  refine ⟨_, pm, sortD_map rowD _, ?_⟩
  rw [sort_same cls_mv (l := ((rowsL A).mergeSort fun a b => ordD (rowD a) (rowD b)).map Row.m) (moves_shape hA) ((pm.map _).trans (rows_perm hA)), List.map_map]
  · rfl
  · rw [List.pairwise_map]
    have hs := List.pairwise_mergeSort (le := fun a b => ordD (rowD a) (rowD b)) (fun a b c => dLe_trans) (fun a b => dLe_total) (rowsL A)
    refine List.Pairwise.imp_of_mem (fun {a b} ha hb h => ?_) hs
    obtain ⟨sa, ka⟩ := rows_shape hA a (pm.mem_iff.mp ha)
    obtain ⟨sb, kb⟩ := rows_shape hA b (pm.mem_iff.mp hb)
    intro hl
    have hc := cmp_mv sb.m sa.m
    have ht := (lex_k kb.m ka.m hc).mpr hl
    have ne : b.m ≠ a.m := fun e => by rw [e] at hl; exact kLt_irr hl
    unfold ordD at h
    rw [pyD_row ka, pyD_row kb, PySem.W.dataLt_tuple] at h
    have pa : pl (.tuple (a.m.map keP)) = true := by rw [pl]; exact pl_mv ka.m
    have pb : pl (.tuple (b.m.map keP)) = true := by rw [pl]; exact pl_mv kb.m
    rw [lt_all_no pb pa (by rw [ltOk]; exact hc) (Bool.eq_false_iff.mpr fun z => ne (mapP_inj (PyData.tuple.inj (pl_eqv _ _ pb pa z)))), PySem.W.dataLt_tuple, ht] at h
    cases h

/-! ### places: ascending, and just the ends of the rows -/
theorem ltS_w {a b : Str} (h : a.cps.toList < b.cps.toList) : ltS a b := (ltCps_lt _ _).mp h
theorem ltS_ne {a b : Str} (h : ltS a b) : a ≠ b := fun e => by subst e; exact ltS_irr h
theorem kLt_word {a b : Str} {xs ys : List Key} (h : ltS a b) : kLt (tx a :: xs) (tx b :: ys) := .inr ⟨fun e => ltS_ne h (Sum.inr.inj e), h⟩
theorem kLt_same {x : Key} {xs ys : List Key} (h : kLt xs ys) : kLt (x :: xs) (x :: ys) := .inl ⟨rfl, h⟩
theorem kLt_int {a b : Int} {xs ys : List Key} (h : a < b) : kLt (nu a :: xs) (nu b :: ys) := .inr ⟨fun e => by have := Sum.inl.inj e; omega, h⟩
section
variable {A : Arc} (hA : ArcOk A)
include hA
theorem atPl_asc (w k o : Str) : (atPl A.last w k o).Pairwise kLt := by
  unfold atPl
  rw [List.pairwise_map]
  exact List.Pairwise.imp (fun {a b} h => kLt_same (kLt_same (kLt_same (kLt_int (by omega))))) (List.pairwise_lt_range)
theorem wordPl_asc (w : Str) : (wordPl A w).Pairwise kLt := by
  unfold wordPl
  rw [List.pairwise_flatMap]
  constructor
  · intro k _
    rw [List.pairwise_flatMap]
    refine ⟨fun o _ => atPl_asc hA w k.name o, ?_⟩
    refine hA.os.asc.imp fun {a b} h x hx y hy => ?_
    unfold atPl at hx hy
    obtain ⟨i, _, rfl⟩ := List.mem_map.mp hx
    obtain ⟨j, _, rfl⟩ := List.mem_map.mp hy
    exact kLt_same (kLt_same (kLt_word h))
  · refine (List.pairwise_map.mp hA.ks.asc).imp fun {a b} h x hx y hy => ?_
    obtain ⟨o, _, hx⟩ := List.mem_flatMap.mp hx
    obtain ⟨o', _, hy⟩ := List.mem_flatMap.mp hy
    unfold atPl at hx hy
    obtain ⟨i, _, rfl⟩ := List.mem_map.mp hx
    obtain ⟨j, _, rfl⟩ := List.mem_map.mp hy
    exact kLt_same (kLt_word h)
theorem places_asc : (placesL A).Pairwise kLt := by
  have word : ∀ w, ∀ x ∈ wordPl A w, ∃ r, x = tx w :: r := fun w x hx => by
    unfold wordPl at hx
    obtain ⟨k, _, hx⟩ := List.mem_flatMap.mp hx
    obtain ⟨o, _, hx⟩ := List.mem_flatMap.mp hx
    unfold atPl at hx
    obtain ⟨i, _, rfl⟩ := List.mem_map.mp hx
    exact ⟨_, rfl⟩
  have seen : ∀ r, ∀ x ∈ seenPl r, x = [tx "seen", tx r.name] := fun r x hx => by
    unfold seenPl at hx
    split at hx
    · exact List.mem_singleton.mp hx
    · cases hx
  have w1 : ltS "outside" "seen" := ltS_w (by decide)
  have w2 : ltS "outside" "stock" := ltS_w (by decide)
  have w3 : ltS "outside" "town" := ltS_w (by decide)
  have w4 : ltS "seen" "stock" := ltS_w (by decide)
  have w5 : ltS "seen" "town" := ltS_w (by decide)
  have w6 : ltS "stock" "town" := ltS_w (by decide)
  unfold placesL
  rw [List.pairwise_cons, List.pairwise_append, List.pairwise_append, List.pairwise_flatMap]
  refine ⟨fun x hx => ?_, ⟨fun r _ => ?_, ?_⟩, ⟨wordPl_asc hA _, wordPl_asc hA _, fun x hx y hy => ?_⟩, fun x hx y hy => ?_⟩
  · rcases List.mem_append.mp hx with h | h
    · obtain ⟨r, _, h⟩ := List.mem_flatMap.mp h
      rw [seen r x h]
      exact kLt_word w1
    · rcases List.mem_append.mp h with h | h
      · obtain ⟨r, rfl⟩ := word _ x h; exact kLt_word w2
      · obtain ⟨r, rfl⟩ := word _ x h; exact kLt_word w3
  · unfold seenPl
    split
    · exact List.pairwise_singleton _ _
    · exact .nil
  · refine hA.rc.asc.imp fun {a b} h x hx y hy => ?_
    rw [seen a x hx, seen b y hy]
    exact kLt_same (kLt_word h)
  · obtain ⟨r, rfl⟩ := word _ x hx
    obtain ⟨r', rfl⟩ := word _ y hy
    exact kLt_word w6
  · obtain ⟨r, _, hx⟩ := List.mem_flatMap.mp hx
    rw [seen r x hx]
    rcases List.mem_append.mp hy with h | h
    · obtain ⟨r, rfl⟩ := word _ y h; exact kLt_word w4
    · obtain ⟨r, rfl⟩ := word _ y h; exact kLt_word w5
theorem at_mem {w : Str} (hw : w = "stock" ∨ w = "town") {k o : Str} {d : Int} (hk : k ∈ A.kinds.map Kd.name) (ho : o ∈ A.offices) (h0 : 0 ≤ d) (h1 : d ≤ A.last) : [tx w, tx k, tx o, nu d] ∈ placesL A := by
  obtain ⟨kd, hkd, rfl⟩ := List.mem_map.mp hk
  have : [tx w, tx kd.name, tx o, nu d] ∈ wordPl A w := by
    unfold wordPl
    refine List.mem_flatMap.mpr ⟨kd, hkd, List.mem_flatMap.mpr ⟨o, ho, ?_⟩⟩
    unfold atPl
    exact List.mem_map.mpr ⟨d.toNat, List.mem_range.mpr (by omega), by rw [Int.toNat_of_nonneg h0]⟩
  unfold placesL
  refine List.mem_cons_of_mem _ (List.mem_append_right _ ?_)
  rcases hw with rfl | rfl
  · exact List.mem_append_left _ this
  · exact List.mem_append_right _ this
theorem out_mem : outK ∈ placesL A := List.mem_cons_self
theorem rows_places : ∀ r ∈ rowsL A, r.s ∈ placesL A ∧ r.g ∈ placesL A := fun x hx => by
  have out : outK ∈ placesL A := out_mem hA
  unfold rowsL at hx
  rcases List.mem_append.mp hx with h | h
  · obtain ⟨r, hr, h⟩ := List.mem_flatMap.mp h
    have R := hA.rc.ok r hr
    have hw := R.wt
    unfold recRows at h
    split at h
    · rename_i ns o d e
      rw [e] at hw
      have sn : [tx "seen", tx r.name] ∈ placesL A := by
        unfold placesL
        refine List.mem_cons_of_mem _ (List.mem_append_left _ (List.mem_flatMap.mpr ⟨r, hr, ?_⟩))
        unfold seenPl
        rw [e]
        exact List.mem_singleton.mpr rfl
      rcases List.mem_cons.mp h with rfl | h
      · exact ⟨sn, out⟩
      · obtain ⟨k, hk, rfl⟩ := List.mem_map.mp h
        have hk := (List.mem_filter.mp hk).1
        cases hw with
        | used k' _ _ ho h0 h1 => exact ⟨at_mem hA (.inr rfl) (List.mem_map_of_mem hk) ho h0 h1, sn⟩
    · rename_i k o d g e' e
      rw [e] at hw
      rw [List.mem_singleton.mp h]
      cases hw with
      | sent hk ho hg ne h0 h1 h2 => exact ⟨at_mem hA (.inl rfl) hk ho h0 (by omega), at_mem hA (.inl rfl) hk hg (by omega) h2⟩
    · rename_i w k o d e
      rw [e] at hw
      cases hw with
      | plain hw hk ho h0 h1 =>
        have st := at_mem hA (.inl rfl) hk ho h0 h1
        split at h
        · rw [List.mem_singleton.mp h]; exact ⟨out, st⟩
        · split at h
          · rw [List.mem_singleton.mp h]; exact ⟨st, out⟩
          · cases h
  · obtain ⟨k, hk, h⟩ := List.mem_flatMap.mp h
    obtain ⟨i, hi, h⟩ := List.mem_flatMap.mp h
    have hi := List.mem_range.mp hi
    have hkn : k.name ∈ A.kinds.map Kd.name := List.mem_map_of_mem hk
    have l0 := hA.l0
    unfold dayRows at h
    rcases List.mem_append.mp h with h | h
    · obtain ⟨o, ho, h⟩ := List.mem_flatMap.mp h
      have st := at_mem hA (.inl rfl) hkn ho (d := i) (by omega) (by omega)
      have tn := at_mem hA (.inr rfl) hkn ho (d := i) (by omega) (by omega)
      unfold spotRows at h
      rcases List.mem_append.mp h with h | h
      · simp only [List.mem_cons, List.not_mem_nil, or_false] at h
        rcases h with rfl | rfl
        · exact ⟨st, tn⟩
        · exact ⟨tn, out⟩
      · split at h
        · rw [List.mem_singleton.mp h]; exact ⟨st, out⟩
        · simp only [List.mem_cons, List.not_mem_nil, or_false] at h
          rcases h with rfl | rfl
          · exact ⟨st, at_mem hA (.inl rfl) hkn ho (by omega) (by omega)⟩
          · exact ⟨tn, at_mem hA (.inr rfl) hkn ho (by omega) (by omega)⟩
    · obtain ⟨r, hr, rfl⟩ := List.mem_map.mp h
      obtain ⟨hr, hd⟩ := List.mem_filter.mp hr
      have hd := of_decide_eq_true hd
      have ro := hA.rd.ok r hr
      have hdy : 0 ≤ r.days := by
        rcases ro.d with z | z | z <;> rw [z] <;> decide
      exact ⟨at_mem hA (.inr rfl) hkn ro.s (by omega) (by omega), at_mem hA (.inr rfl) hkn ro.g (by omega) hd⟩
theorem places_rows : ∀ p ∈ placesL A, p = outK ∨ ∃ r ∈ rowsL A, p = r.s ∨ p = r.g := fun p hp => by
  unfold placesL at hp
  rcases List.mem_cons.mp hp with rfl | h
  · exact .inl rfl
  refine .inr ?_
  rcases List.mem_append.mp h with h | h
  · obtain ⟨r, hr, h⟩ := List.mem_flatMap.mp h
    unfold seenPl at h
    split at h
    · rename_i ns o d e
      refine ⟨⟨[tx "seen", tx r.name], [tx "seen", tx r.name], outK⟩, ?_, .inl (List.mem_singleton.mp h)⟩
      unfold rowsL
      refine List.mem_append_left _ (List.mem_flatMap.mpr ⟨r, hr, ?_⟩)
      unfold recRows
      rw [e]
      exact List.mem_cons_self
    · cases h
  · have spot : ∀ k ∈ A.kinds, ∀ o ∈ A.offices, ∀ i ∈ List.range (A.last + 1).toNat, (⟨[tx "sold", tx k.name, tx o, nu (i : Nat)], [tx "stock", tx k.name, tx o, nu (i : Nat)], [tx "town", tx k.name, tx o, nu (i : Nat)]⟩ : Row) ∈ rowsL A := fun k hk o ho i hi => by
      unfold rowsL
      refine List.mem_append_right _ (List.mem_flatMap.mpr ⟨k, hk, List.mem_flatMap.mpr ⟨i, hi, ?_⟩⟩)
      unfold dayRows
      refine List.mem_append_left _ (List.mem_flatMap.mpr ⟨o, ho, ?_⟩)
      unfold spotRows
      simp
    rcases List.mem_append.mp h with h | h
    all_goals
      unfold wordPl at h
      obtain ⟨k, hk, h⟩ := List.mem_flatMap.mp h
      obtain ⟨o, ho, h⟩ := List.mem_flatMap.mp h
      unfold atPl at h
      obtain ⟨i, hi, rfl⟩ := List.mem_map.mp h
    · exact ⟨_, spot k hk o ho i hi, .inl rfl⟩
    · exact ⟨_, spot k hk o ho i hi, .inr rfl⟩
theorem places_cls : ∀ p ∈ placesL A, PlC p := fun p hp => by
  rcases places_rows hA p hp with rfl | ⟨r, hr, rfl | rfl⟩
  · exact ⟨.out, fun k hk => by rw [List.mem_singleton.mp hk]; exact kw (by simp)⟩
  · have := rows_shape hA r hr; exact ⟨this.1.s, this.2.s⟩
  · have := rows_shape hA r hr; exact ⟨this.1.g, this.2.g⟩
end

theorem shaped_of {n : Nat} {d : D} (h : dok n d = true) (hn : n ≤ 64) : SeqAt.shaped (pyD d) = true := by
  obtain ⟨_, a, b⟩ := dok_py n d h
  unfold SeqAt.shaped
  rw [pl_lay _ a, decide_eq_true (Nat.le_trans b hn)]; rfl
theorem layAll_of : ∀ {ps : List PyData}, (∀ p ∈ ps, p.canLay0 = true) → PyData.canLayAll0 ps = true
  | [], _ => by simp [PyData.canLayAll0]
  | p :: ps, h => by simp [PyData.canLayAll0, h p List.mem_cons_self, layAll_of fun q hq => h q (List.mem_cons_of_mem _ hq)]

/-! ### sorting, and the keys of a dict of places -/
theorem sort_cls {S : List Key → Prop} (C : Cls S) (ne : ∀ m, S m → ∃ w r, m = tx w :: r) {ms : List (List Key)} (h : ∀ m ∈ ms, S m) : SortOk (ms.map mvD) := by
  have hk : ∀ m ∈ ms, ∀ k ∈ m, keyOk k = true := fun m hm => C.ok m (h m hm)
  have at' : ∀ d ∈ (ms.map mvD).map pyD, ∃ m ∈ ms, d = .tuple (m.map keP) := fun d hd => by
    obtain ⟨e, he, rfl⟩ := List.mem_map.mp hd
    obtain ⟨m, hm, rfl⟩ := List.mem_map.mp he
    exact ⟨m, hm, pyD_mv (hk m hm)⟩
  refine ⟨fun d hd => ?_, ⟨fun d hd => ?_, fun ps qs hp hq => ?_, fun x r y t hx hy => ?_, fun d hd => ?_⟩⟩
  · obtain ⟨m, hm, rfl⟩ := List.mem_map.mp hd
    exact (dok_py 1 _ (dok_mv (hk m hm))).1
  · obtain ⟨m, hm, rfl⟩ := at' d hd
    have e := (dok_py 1 _ (dok_mv (hk m hm))).2.1
    rw [pyD_mv (hk m hm), pl] at e
    obtain ⟨w, r, rfl⟩ := ne m (h m hm)
    exact ⟨_, _, rfl, e⟩
  · obtain ⟨m, hm, e⟩ := at' _ hp
    obtain ⟨m', hm', e'⟩ := at' _ hq
    rw [PyData.tuple.inj e, PyData.tuple.inj e']
    exact C.cmp _ _ (h m hm) (h m' hm')
  · obtain ⟨m, hm, e⟩ := at' _ hx
    obtain ⟨m', hm', e'⟩ := at' _ hy
    obtain ⟨w, r', rfl⟩ := ne m (h m hm)
    obtain ⟨w', r'', rfl⟩ := ne m' (h m' hm')
    rw [(List.cons.inj (PyData.tuple.inj e)).1, (List.cons.inj (PyData.tuple.inj e')).1]
    rfl
  · obtain ⟨m, hm, rfl⟩ := at' d hd
    have e := (dok_py 1 _ (dok_mv (hk m hm))).2.2
    rw [pyD_mv (hk m hm)] at e
    exact Nat.le_trans e (by decide)
theorem plc_ne : ∀ m, PlC m → ∃ w r, m = tx w :: r := fun m h => by
  obtain ⟨h, _⟩ := h
  cases h <;> exact ⟨_, _, rfl⟩
theorem keD_dkey : dkey = keD := by funext k; cases k <;> rfl
theorem keysD_ke : ∀ m : List Key, keysD (m.map keD) = some m
  | [] => rfl
  | .inl i :: m => by
    show keysD (.int i :: m.map keD) = _
    unfold keysD
    simp [keysD_ke m]
    try rfl
  | .inr i :: m => by
    show keysD (.str i :: m.map keD) = _
    unfold keysD
    simp [keysD_ke m]
    try rfl
theorem putD_keys {κ : Type} [DecidableEq κ] (kvs : List (κ × D)) (k : κ) (v : D) : (putD kvs k v).map Prod.fst = if k ∈ kvs.map Prod.fst then kvs.map Prod.fst else kvs.map Prod.fst ++ [k] := by
  have e : (kvs.any fun kv => decide (kv.1 = k)) = true ↔ k ∈ kvs.map Prod.fst := by
    rw [List.any_eq_true, List.mem_map]
    exact ⟨fun ⟨x, h, e⟩ => ⟨x, h, of_decide_eq_true e⟩, fun ⟨x, h, e⟩ => ⟨x, h, decide_eq_true e⟩⟩
  unfold putD
  by_cases h : k ∈ kvs.map Prod.fst
  · rw [if_pos (e.mpr h), if_pos h, List.map_map]
    refine List.map_congr_left fun x _ => ?_
    show (if x.1 = k then (x.1, v) else x).1 = x.1
    split <;> rfl
  · rw [if_neg (fun z => h (e.mp z)), if_neg h, List.map_append]; rfl
/-- the dict's keys: the ends of these rows, each once, and outside -/
structure Due (rs : List Row) (kvs : List (List Key × D)) : Prop where
  nd : (kvs.map Prod.fst).Nodup
  mem : ∀ k, k ∈ kvs.map Prod.fst ↔ k = outK ∨ ∃ r ∈ rs, k = r.s ∨ k = r.g
  len : kvs.length ≤ 1 + 2 * rs.length
theorem putD_len {κ : Type} [DecidableEq κ] (kvs : List (κ × D)) (k : κ) (v : D) : (putD kvs k v).length ≤ kvs.length + 1 := by
  unfold putD
  split
  · rw [List.length_map]; omega
  · rw [List.length_append]; exact Nat.le_refl _
theorem putD_mem {κ : Type} [DecidableEq κ] (kvs : List (κ × D)) (k : κ) (v : D) (x : κ) : x ∈ (putD kvs k v).map Prod.fst ↔ x ∈ kvs.map Prod.fst ∨ x = k := by
  rw [putD_keys]
  split
  · rename_i h
    exact ⟨.inl, fun g => g.elim id fun e => e ▸ h⟩
  · rw [List.mem_append, List.mem_singleton]
theorem putD_nd {κ : Type} [DecidableEq κ] {kvs : List (κ × D)} (h : (kvs.map Prod.fst).Nodup) (k : κ) (v : D) : ((putD kvs k v).map Prod.fst).Nodup := by
  rw [putD_keys]
  split
  · exact h
  · rename_i n
    rw [List.nodup_append]
    exact ⟨h, by simp, fun a ha b hb e => n (by rw [List.mem_singleton.mp hb] at e; exact e ▸ ha)⟩
theorem Due.first (v : D) : Due [] [(outK, v)] := ⟨by simp, fun k => by simp, by simp⟩
theorem Due.put {rs : List Row} {kvs : List (List Key × D)} (h : Due rs kvs) (r : Row) (v w : D) : Due (rs ++ [r]) (putD (putD kvs r.s v) r.g w) := by
  refine ⟨putD_nd (putD_nd h.nd _ _) _ _, fun k => ?_, ?_⟩
  · rw [putD_mem, putD_mem, h.mem]
    constructor
    · rintro (((e | ⟨r', hr, e⟩) | e) | e)
      · exact .inl e
      · exact .inr ⟨r', List.mem_append_left _ hr, e⟩
      · exact .inr ⟨r, List.mem_append_right _ (List.mem_singleton.mpr rfl), .inl e⟩
      · exact .inr ⟨r, List.mem_append_right _ (List.mem_singleton.mpr rfl), .inr e⟩
    · rintro (e | ⟨r', hr, e⟩)
      · exact .inl (.inl (.inl e))
      · rcases List.mem_append.mp hr with hr | hr
        · exact .inl (.inl (.inr ⟨r', hr, e⟩))
        · rw [List.mem_singleton.mp hr] at e
          exact e.elim (fun e => .inl (.inr e)) fun e => .inr e
  · have := putD_len (putD kvs r.s v) r.g w
    have := putD_len kvs r.s v
    have := h.len
    rw [List.length_append]
    show _ ≤ 1 + 2 * (rs.length + 1)
    omega
theorem val_mem {kvs : List (List Key × D)} {k : List Key} (h : k ∈ kvs.map Prod.fst) : (valD kvs k).isSome = true := by
  obtain ⟨x, hx, rfl⟩ := List.mem_map.mp h
  unfold valD
  rw [Option.isSome_map, List.find?_isSome]
  exact ⟨x, hx, decide_eq_true rfl⟩
theorem good_place {A : Arc} (hA : ArcOk A) {p : List Key} (h : p ∈ placesL A) : p = outK ∨ goodKey p = true := by
  have := (places_cls hA p h).1
  cases this with
  | out => exact .inl rfl
  | seen => exact .inr (by show isW "seen" = true; decide)
  | at' hw =>
    refine .inr ?_
    simp only [List.mem_cons, List.not_mem_nil, or_false] at hw
    rcases hw with rfl | rfl
    · show isW "stock" = true; decide
    · show isW "town" = true; decide
/-- sorted, the keys are the places -/
theorem due_sort {A : Arc} (hA : ArcOk A) {rs : List Row} {kvs : List (List Key × D)} (hp : rs.Perm (rowsL A)) (h : Due rs kvs) :
    SortOk (kvs.map fun kv => D.tup (kv.1.map dkey)) ∧ sortD (kvs.map fun kv => D.tup (kv.1.map dkey)) = (placesL A).map mvD := by
  have e : (kvs.map fun kv => D.tup (kv.1.map dkey)) = (kvs.map Prod.fst).map mvD := by
    rw [keD_dkey, List.map_map]; rfl
  have mm : ∀ k, k ∈ kvs.map Prod.fst ↔ k ∈ placesL A := fun k => by
    rw [h.mem]
    constructor
    · rintro (rfl | ⟨r, hr, rfl | rfl⟩)
      · exact out_mem hA
      · exact (rows_places hA r (hp.mem_iff.mp hr)).1
      · exact (rows_places hA r (hp.mem_iff.mp hr)).2
    · intro hk
      rcases places_rows hA k hk with e | ⟨r, hr, e⟩
      · exact .inl e
      · exact .inr ⟨r, hp.mem_iff.mpr hr, e⟩
  have cl : ∀ m ∈ kvs.map Prod.fst, PlC m := fun m hm => places_cls hA m ((mm m).mp hm)
  rw [e]
  refine ⟨sort_cls cls_pl plc_ne cl, sort_same cls_pl cl ?_ ?_⟩
  · have nd : (placesL A).Nodup := (List.nodup_iff_pairwise_ne).mpr ((places_asc hA).imp fun h e => by subst e; exact kLt_irr h)
    exact (List.perm_ext_iff_of_nodup nd h.nd).mpr fun k => (mm k).symm
  · exact (places_asc hA).imp fun h g => kLt_asymm h g
/-- a list of moves or places, compared with itself -/
theorem list_py {ms : List (List Key)} (hk : ∀ m ∈ ms, ∀ k ∈ m, keyOk k = true) : D.py (.lst (ms.map mvD)) = some (.list ((ms.map mvD).map pyD)) ∧ SeqAt.shaped (.list ((ms.map mvD).map pyD)) = true ∧ PyData.eqv (.list ((ms.map mvD).map pyD)) (.list ((ms.map mvD).map pyD)) = true := by
  have dk : ∀ d ∈ ms.map mvD, dok 1 d = true := fun d hd => by
    obtain ⟨m, hm, rfl⟩ := List.mem_map.mp hd
    exact dok_mv (hk m hm)
  refine ⟨?_, ?_, ?_⟩
  · show (match pyAll (ms.map mvD) with | some ps => some (PyData.list ps) | none => none) = _
    rw [pyAll_map fun d hd => (dok_py 1 d (dk d hd)).1]
  · unfold SeqAt.shaped
    rw [Bool.and_eq_true]
    constructor
    · rw [PyData.canLay0]
      exact layAll_of fun p hp => by
        obtain ⟨d, hd, rfl⟩ := List.mem_map.mp hp
        exact pl_lay _ (dok_py 1 d (dk d hd)).2.1
    · refine decide_eq_true ?_
      rw [PyData.depth]
      exact Nat.le_trans (Nat.succ_le_succ (depthAll_le (n := 1) fun p hp => by
        obtain ⟨d, hd, rfl⟩ := List.mem_map.mp hp
        exact (dok_py 1 d (dk d hd)).2.2)) (by decide)
  · rw [PyData.eqv]
    exact plAll_self _ (plAll_of fun p hp => by
      obtain ⟨d, hd, rfl⟩ := List.mem_map.mp hp
      exact (dok_py 1 d (dk d hd)).2.1)

theorem len_told_move : ∀ ds M Q E, sp_told_move ds M Q E → ds.length = 1 := by rintro _ _ _ _ ⟨_, _, _, _, rfl, _⟩; rfl
theorem rd_told_move : Rds t_told_move n_told_move sp_told_move := by
  rintro _ M Q E ⟨last, os, ks, r, rfl, R, q⟩
  obtain ⟨nm, wt, low, high, trust⟩ := r
  have hw := R.wt
  show t_told_move _ [some (.tup [.str nm, wt.enc, .int low, encI high, encI trust]), none, none] M
  unfold t_told_move
  walk_at "g"
  have hw : WtOk last os ks wt := hw
  cases wt with
  | used ns o d =>
    unfold Wt.enc
    walk_at "g"
    refine s_inN ["made", "sent", "burnt"] rfl (by decide) ?_
    walk_at "g"
    · exact s_end q
    · rename_i hc; exact absurd rfl hc
  | sent k o d g e =>
    unfold Wt.enc
    walk_at "g"
    refine s_inY ["made", "sent", "burnt"] rfl (by decide) ?_
    walk_at "g"
    exact s_end q
  | plain w k o d =>
    unfold Wt.enc
    walk_at "g"
    have q : Q (mvD (if w = "made" ∨ w = "burnt" then [tx w, tx nm] else [tx w, tx k, tx o, nu d])) M := q
    cases hw with
    | plain hw _ _ _ _ =>
      simp only [List.mem_cons, List.not_mem_nil, or_false] at hw
      rcases hw with rfl | rfl | rfl | rfl
      · rw [if_pos (.inl rfl)] at q
        refine s_inY ["made", "sent", "burnt"] rfl (by decide) ?_
        walk_at "g"
        exact s_end q
      · rw [if_neg (by decide)] at q
        refine s_inN ["made", "sent", "burnt"] rfl (by decide) ?_
        walk_at "g"
        · rename_i hc; exact absurd hc (by decide)
        · exact s_end q
      · rw [if_neg (by decide)] at q
        refine s_inN ["made", "sent", "burnt"] rfl (by decide) ?_
        walk_at "g"
        · rename_i hc; exact absurd hc (by decide)
        · exact s_end q
      · rw [if_pos (.inr rfl)] at q
        refine s_inY ["made", "sent", "burnt"] rfl (by decide) ?_
        walk_at "g"
        exact s_end q
theorem len_law_told : ∀ ds M Q E, sp_law_told ds M Q E → ds.length = 1 := by rintro _ _ _ _ ⟨_, _, _, _, rfl, _⟩; rfl
theorem rd_law_told : Rds t_law_told n_law_told sp_law_told := by
  rintro _ M Q E ⟨last, os, ks, r, rfl, R, q⟩
  obtain ⟨nm, wt, low, high, trust⟩ := r
  have hw := R.wt
  show t_law_told _ [some (.tup [.str nm, wt.enc, .int low, encI high, encI trust]), none, none, none, none, none] M
  unfold t_law_told
  walk_at "g"
  have hw : WtOk last os ks wt := hw
  cases wt with
  | used ns o d =>
    unfold Wt.enc
    walk_at "g"
    refine s_inN ["made", "sent", "burnt"] rfl (by decide) ?_
    walk_at "g"
    · exact s_end q
    · rename_i hc; exact absurd rfl hc
  | sent k o d g e =>
    unfold Wt.enc
    walk_at "g"
    refine s_inY ["made", "sent", "burnt"] rfl (by decide) ?_
    walk_at "g"
    exact s_end q
  | plain w k o d =>
    unfold Wt.enc
    walk_at "g"
    have q : Q (mvD (if w = "made" ∨ w = "burnt" then [tx w, tx nm] else [tx w, tx k, tx o, nu d])) M := q
    cases hw with
    | plain hw _ _ _ _ =>
      simp only [List.mem_cons, List.not_mem_nil, or_false] at hw
      rcases hw with rfl | rfl | rfl | rfl
      · rw [if_pos (.inl rfl)] at q
        refine s_inY ["made", "sent", "burnt"] rfl (by decide) ?_
        walk_at "g"
        exact s_end q
      · rw [if_neg (by decide)] at q
        refine s_inN ["made", "sent", "burnt"] rfl (by decide) ?_
        walk_at "g"
        · rename_i hc; exact absurd hc (by decide)
        · exact s_end q
      · rw [if_neg (by decide)] at q
        refine s_inN ["made", "sent", "burnt"] rfl (by decide) ?_
        walk_at "g"
        · rename_i hc; exact absurd hc (by decide)
        · exact s_end q
      · rw [if_pos (.inr rfl)] at q
        refine s_inY ["made", "sent", "burnt"] rfl (by decide) ?_
        walk_at "g"
        exact s_end q
/-! record_of, move_of -/
theorem len_record_of (C : Ct) : ∀ ds M Q E, (sp_record_of C) ds M Q E → ds.length = 2 := by rintro _ _ _ _ ⟨_, _, rfl, _⟩; rfl
theorem rd_record_of (C : Ct) : RdsX (t_record_of C) n_record_of (sp_record_of C) := by
  rintro _ M Q E ⟨A, n, rfl, hA, q, qE⟩
  show t_record_of C E _ [some (.tup [.int A.last, .tup (A.offices.map .str), .tup (A.kinds.map Kd.enc), .tup (A.roads.map Road.enc), .tup (A.records.map Rec.enc)]), some (.str n), none] M
  unfold t_record_of
  walk_at "g"
  refine s_kforT (ds := A.records.map Rec.enc) (fun i τ M' => M' = M ∧ ((A.records.take i).find? fun r => decide (r.name = n)) = none ∧ ∃ x2, τ = [some (.tup [.int A.last, .tup (A.offices.map .str), .tup (A.kinds.map Kd.enc), .tup (A.roads.map Road.enc), .tup (A.records.map Rec.enc)]), some (.str n), x2]) (fun _ => rfl) ⟨rfl, rfl, _, rfl⟩ (fun i d τ M' hd ⟨eM, hn, x2, e⟩ => ?_) (fun τ M' ⟨eM, hn, x2, e⟩ => ?_)
  · subst eM; subst e
    rw [List.getElem?_map] at hd
    obtain ⟨r, hr, rfl⟩ := Option.map_eq_some_iff.mp hd
    refine s_gname ?_
    show dIfS _ _ _ _ [some (.tup [.int A.last, .tup (A.offices.map .str), .tup (A.kinds.map Kd.enc), .tup (A.roads.map Road.enc), .tup (A.records.map Rec.enc)]), some (.str n), some (.tup [.str r.name, r.what.enc, .int r.low, encI r.high, encI r.trust])] M'
    walk_at "g"
    · rename_i hc
      refine s_end (q r ?_)
      unfold recAt
      have hs : A.records = A.records.take i ++ r :: A.records.drop (i + 1) := by
        obtain ⟨hi, e⟩ := List.getElem?_eq_some_iff.mp hr
        rw [← e, List.getElem_cons_drop, List.take_append_drop]
      rw [hs, List.find?_append, hn, List.find?_cons_of_pos (by exact decide_eq_true hc)]
      rfl
    · rename_i hc
      refine ⟨rfl, ?_, _, rfl⟩
      rw [List.take_succ, hr, List.find?_append, hn]
      show (none : Option Rec).or (List.find? (fun r => decide (r.name = n)) [r]) = none
      rw [List.find?_cons_of_neg (by simpa using hc)]
      rfl
  · subst eM; subst e
    rw [List.length_map, List.take_length] at hn
    walk_at "g"
    exact qE hn
theorem len_move_of (C : Ct) : ∀ ds M Q E, (sp_move_of C) ds M Q E → ds.length = 2 := by rintro _ _ _ _ ⟨_, _, rfl, _⟩; rfl
theorem rd_move_of (C : Ct) : RdsX (t_move_of C) n_move_of (sp_move_of C) := by
  rintro _ M Q E ⟨A, n, rfl, hA, q, qE⟩
  show t_move_of C E _ [some A.enc, some (.str n)] M
  unfold t_move_of
  walk_at "g"
  refine ⟨A, n, rfl, hA, fun r hr => ?_, qE⟩
  have hm : r ∈ A.records := List.mem_of_find?_eq_some hr
  walk_at "g"
  refine ⟨A.last, A.offices, A.kinds, r, rfl, hA.rc.ok r hm, ?_⟩
  walk_at "g"
  exact s_end (q r hr)

theorem len_record_ends : ∀ ds M Q E, sp_record_ends ds M Q E → ds.length = 2 := by rintro _ _ _ _ ⟨_, _, _, rfl, _⟩; rfl
theorem rd_record_ends : Rds t_record_ends n_record_ends sp_record_ends := by
  rintro _ M Q E ⟨ks, r, w, rfl, hw, q⟩
  obtain ⟨nm, wt, low, high, trust⟩ := r
  unfold recRows at hw
  cases wt with
  | used ns o d =>
    rcases List.mem_cons.mp hw with rfl | hw
    · show t_record_ends _ [some (.tup [.str "used", .tup (ns.map .str), .str o, .int d]), some (.tup [.str "seen", .str nm]), none] M
      unfold t_record_ends
      walk_at "y"
      walk_at "g"
      exact s_end q
    · obtain ⟨k, hk, rfl⟩ := List.mem_map.mp hw
      show t_record_ends _ [some (.tup [.str "used", .tup (ns.map .str), .str o, .int d]), some (.tup [.str "used", .str nm, .str k.name]), none] M
      unfold t_record_ends
      walk_at "n"
      walk_at "y"
      walk_at "g"
      exact s_end q
  | sent k o d g e =>
    rw [List.mem_singleton.mp hw] at q ⊢
    show t_record_ends _ [some (.tup [.str "sent", .str k, .str o, .int d, .str g, .int e]), some (.tup [.str "sent", .str nm]), none] M
    unfold t_record_ends
    walk_at "n"
    walk_at "n"
    walk_at "n"
    walk_at "n"
    walk_at "g"
    exact s_end q
  | plain wd k o d =>
    have hw : w ∈ (if wd = "made" then [(⟨[tx "made", tx nm], outK, [tx "stock", tx k, tx o, nu d]⟩ : Row)] else if wd = "burnt" then [⟨[tx "burnt", tx nm], [tx "stock", tx k, tx o, nu d], outK⟩] else []) := hw
    split at hw
    · rename_i e
      subst e
      rw [List.mem_singleton.mp hw] at q ⊢
      show t_record_ends _ [some (.tup [.str "made", .str k, .str o, .int d]), some (.tup [.str "made", .str nm]), none] M
      unfold t_record_ends
      walk_at "n"
      walk_at "n"
      walk_at "y"
      walk_at "g"
      exact s_end q
    · split at hw
      · rename_i e
        subst e
        rw [List.mem_singleton.mp hw] at q ⊢
        show t_record_ends _ [some (.tup [.str "burnt", .str k, .str o, .int d]), some (.tup [.str "burnt", .str nm]), none] M
        unfold t_record_ends
        walk_at "n"
        walk_at "n"
        walk_at "n"
        walk_at "y"
        walk_at "g"
        exact s_end q
      · cases hw
theorem road_one {os : List Str} {rs : List Road} (h : RdsOk os rs) {r : Road} (hr : r ∈ rs) : (rs.filter fun x => decide (x.s = r.s ∧ x.g = r.g)) = [r] := by
  have irr : ∀ a b : Road, RdLt a b → ¬ (a.s = b.s ∧ a.g = b.g) := fun a b h e => by
    rcases h with h | h
    · rw [e.1] at h; exact ltS_irr h
    · rw [e.2] at h; exact ltS_irr h.2
  have asc := h.asc
  clear h
  induction rs with
  | nil => cases hr
  | cons x rs ih =>
    obtain ⟨h1, h2⟩ := List.pairwise_cons.mp asc
    rcases List.mem_cons.mp hr with rfl | hr
    · rw [List.filter_cons_of_pos (by simp)]
      congr 1
      rw [List.filter_eq_nil_iff]
      intro y hy z
      have z := of_decide_eq_true z
      exact irr _ _ (h1 y hy) ⟨z.1.symm, z.2.symm⟩
    · rw [List.filter_cons_of_neg (by simpa using fun e1 e2 => irr _ _ (h1 r hr) ⟨e1, e2⟩)]
      exact ih hr h2
theorem len_plain_ends : ∀ ds M Q E, sp_plain_ends ds M Q E → ds.length = 2 := by rintro _ _ _ _ ⟨_, _, _, _, rfl, _⟩; rfl
theorem rd_plain_ends : Rds t_plain_ends n_plain_ends sp_plain_ends := by
  rintro _ M Q E ⟨A, k, i, w, rfl, hA, hw, q⟩
  unfold dayRows at hw
  rcases List.mem_append.mp hw with h | h
  · obtain ⟨o, ho, h⟩ := List.mem_flatMap.mp h
    unfold spotRows at h
    have one : ∀ wd : Str, w.m = [tx wd, tx k.name, tx o, nu (i : Int)] → t_plain_ends (fnE Q) [some (.tup [.int A.last, .tup (A.offices.map .str), .tup (A.kinds.map Kd.enc), .tup (A.roads.map Road.enc), .tup (A.records.map Rec.enc)]), some (.tup [.str wd, .str k.name, .str o, .int (i : Int)]), none, none, none, none, none, none, none, none] M → t_plain_ends (fnE Q) (startD n_plain_ends [A.enc, mvD w.m]) M := fun wd e h => by
      rw [e]; exact h
    rcases List.mem_append.mp h with h | h
    · simp only [List.mem_cons, List.not_mem_nil, or_false] at h
      rcases h with rfl | rfl
      · refine one "sold" rfl ?_
        unfold t_plain_ends
        walk_at "n"
        walk_at "n"
        walk_at "n"
        walk_at "y"
        walk_at "g"
        exact s_end q
      · refine one "gone" rfl ?_
        unfold t_plain_ends
        walk_at "n"
        walk_at "y"
        walk_at "g"
        exact s_end q
    · split at h
      · rename_i e
        rw [List.mem_singleton.mp h] at q one ⊢
        refine one "kept" rfl ?_
        unfold t_plain_ends
        walk_at "n"
        walk_at "n"
        walk_at "n"
        walk_at "n"
        walk_at "g"
        · exact s_end q
        · rename_i hc; exact absurd e hc
      · rename_i e
        simp only [List.mem_cons, List.not_mem_nil, or_false] at h
        rcases h with rfl | rfl
        · refine one "kept" rfl ?_
          unfold t_plain_ends
          walk_at "n"
          walk_at "n"
          walk_at "n"
          walk_at "n"
          walk_at "g"
          · rename_i hc; exact absurd hc e
          · exact s_end q
        · refine one "held" rfl ?_
          unfold t_plain_ends
          walk_at "n"
          walk_at "n"
          walk_at "y"
          walk_at "g"
          exact s_end q
  · obtain ⟨r, hr, rfl⟩ := List.mem_map.mp h
    obtain ⟨hr, hd⟩ := List.mem_filter.mp hr
    have h3 := hA.ol
    have h6 : A.roads.length ≤ 400 := Nat.le_trans hA.rd.len (Nat.le_trans (Nat.mul_le_mul h3 h3) (by decide))
    show t_plain_ends (fnE Q) [some (.tup [.int A.last, .tup (A.offices.map .str), .tup (A.kinds.map Kd.enc), .tup (A.roads.map Road.enc), .tup (A.records.map Rec.enc)]), some (.tup [.str "carried", .str k.name, .str r.s, .str r.g, .int (i : Int)]), none, none, none, none, none, none, none, none] M
    unfold t_plain_ends
    walk_at "y"
    walk_at "g"
    refine s_klcFil Road.enc (fun x => decide (x.s = r.s ∧ x.g = r.g)) (fun x => .int x.days) (fun _ => rfl) (small_line (by omega)) (fun x hx => ⟨_, rfl, fun QB kq => ?_, fun QQ hq kq => ?_⟩) ?_
    · show dTest _ [some (.tup [.int A.last, .tup (A.offices.map .str), .tup (A.kinds.map Kd.enc), .tup (A.roads.map Road.enc), .tup (A.records.map Rec.enc)]), some (.tup [.str "carried", .str k.name, .str r.s, .str r.g, .int (i : Int)]), some (.str "carried"), some (.str k.name), some (.str r.s), some (.str r.g), some (.int (i : Int)), none, some (.tup [.str x.s, .str x.g, .int x.days]), none] M QB
      walk_at "g"
      have sh : ∀ y ∈ A.roads, SeqAt.shaped (.tuple [.str y.s, .str y.g]) = true := fun y hy => by
        have ro := hA.rd.ok y hy
        have hk : ∀ k ∈ [tx y.s, tx y.g], keyOk k = true := ks_all (hA.ko ro.s) (hA.ko ro.g)
        have := shaped_of (n := 1) (dok_mv hk) (by decide)
        rw [pyD_mv hk] at this
        exact this
      refine s_eqD (p := .tuple [.str x.s, .str x.g]) (q := .tuple [.str r.s, .str r.g]) rfl rfl rfl (sh x hx) (sh r hr) ?_
      have e : PyData.eqv (.tuple [.str x.s, .str x.g]) (.tuple [.str r.s, .str r.g]) = decide (x.s = r.s ∧ x.g = r.g) := by
        rw [Bool.eq_iff_iff]
        simp [PyData.eqv, PyData.eqvAll]
      rw [e]
      walk_at "g"
      exact kq
    · show dOp _ _ _ [some (.tup [.int A.last, .tup (A.offices.map .str), .tup (A.kinds.map Kd.enc), .tup (A.roads.map Road.enc), .tup (A.records.map Rec.enc)]), some (.tup [.str "carried", .str k.name, .str r.s, .str r.g, .int (i : Int)]), some (.str "carried"), some (.str k.name), some (.str r.s), some (.str r.g), some (.int (i : Int)), none, some (.tup [.str x.s, .str x.g, .int x.days]), none] M QQ
      walk_at "g"
      exact kq
    · rw [road_one hA.rd hr]
      walk_at "g"
      exact s_end q

theorem atI_0 (x : D) (xs : List D) : atI (x :: xs) 0 = some x := atI_ofNat (x :: xs) 0
theorem atI_1 (x y : D) (xs : List D) : atI (x :: y :: xs) 1 = some y := atI_ofNat (x :: y :: xs) 1
theorem recAt_self {A : Arc} (hA : ArcOk A) {r : Rec} (hr : r ∈ A.records) : recAt A r.name = some r := by
  have asc := hA.rc.asc
  unfold recAt
  generalize A.records = rs at hr asc
  induction rs with
  | nil => cases hr
  | cons x rs ih =>
    obtain ⟨h1, h2⟩ := List.pairwise_cons.mp asc
    rcases List.mem_cons.mp hr with rfl | hr
    · rw [List.find?_cons_of_pos (by simp)]
    · rw [List.find?_cons_of_neg (by simpa using ltS_ne (h1 r hr))]
      exact ih hr h2
theorem recRows_head {ks : List Kd} {r : Rec} {w : Row} (h : w ∈ recRows ks r) : ∃ wd rest, w.m = tx wd :: tx r.name :: rest ∧ wd ∈ [("made" : Str), "sent", "burnt", "used", "seen"] := by
  unfold recRows at h
  split at h
  · rcases List.mem_cons.mp h with rfl | h
    · exact ⟨_, _, rfl, by simp⟩
    · obtain ⟨k, _, rfl⟩ := List.mem_map.mp h
      exact ⟨_, _, rfl, by simp⟩
  · rw [List.mem_singleton.mp h]; exact ⟨_, _, rfl, by simp⟩
  · split at h
    · rw [List.mem_singleton.mp h]; exact ⟨_, _, rfl, by simp⟩
    · split at h
      · rw [List.mem_singleton.mp h]; exact ⟨_, _, rfl, by simp⟩
      · cases h
theorem dayRows_head {A : Arc} {k : Kd} {d : Int} {w : Row} (h : w ∈ dayRows A k d) : ∃ wd rest, w.m = tx wd :: rest ∧ wd ∉ [("made" : Str), "sent", "burnt", "used", "seen"] := by
  unfold dayRows at h
  rcases List.mem_append.mp h with h | h
  · obtain ⟨o, _, h⟩ := List.mem_flatMap.mp h
    unfold spotRows at h
    rcases List.mem_append.mp h with h | h
    · simp only [List.mem_cons, List.not_mem_nil, or_false] at h
      rcases h with rfl | rfl <;> exact ⟨_, _, rfl, by decide⟩
    · split at h
      · rw [List.mem_singleton.mp h]; exact ⟨_, _, rfl, by decide⟩
      · simp only [List.mem_cons, List.not_mem_nil, or_false] at h
        rcases h with rfl | rfl <;> exact ⟨_, _, rfl, by decide⟩
  · obtain ⟨r, _, rfl⟩ := List.mem_map.mp h
    exact ⟨_, _, rfl, by decide⟩
theorem len_ends_of (C : Ct) : ∀ ds M Q E, (sp_ends_of C) ds M Q E → ds.length = 2 := by rintro _ _ _ _ ⟨_, _, rfl, _⟩; rfl
theorem rd_ends_of (C : Ct) : RdsX (t_ends_of C) n_ends_of (sp_ends_of C) := by
  rintro _ M Q E ⟨A, w, rfl, hA, hw, q⟩
  unfold rowsL at hw
  rcases List.mem_append.mp hw with h | h
  · obtain ⟨r, hr, h⟩ := List.mem_flatMap.mp h
    obtain ⟨wd, rest, e, hwd⟩ := recRows_head h
    show t_ends_of C E (fnE Q) [some A.enc, some (.tup (w.m.map keD))] M
    rw [e]
    show t_ends_of C E (fnE Q) [some A.enc, some (.tup (.str wd :: .str r.name :: rest.map keD))] M
    unfold t_ends_of
    walk_at "g"
    refine s_ix rfl (atI_0 _ _) ?_
    walk_at "g"
    refine s_inY ["made", "sent", "burnt", "used", "seen"] rfl hwd ?_
    walk_at "g"
    refine s_ix rfl (atI_1 _ _ _) ?_
    walk_at "g"
    refine ⟨A, r.name, rfl, hA, fun r' hr' => ?_, fun hn => ?_⟩
    · rw [recAt_self hA hr] at hr'
      cases hr'
      walk_at "g"
      refine ⟨A.kinds, r, w, ?_, h, ?_⟩
      · unfold mvD
        rw [e]
        rfl
      · walk_at "g"
        exact s_end q
    · rw [recAt_self hA hr] at hn
      cases hn
  · obtain ⟨k, hk, h⟩ := List.mem_flatMap.mp h
    obtain ⟨i, hi, h⟩ := List.mem_flatMap.mp h
    obtain ⟨wd, rest, e, hwd⟩ := dayRows_head h
    show t_ends_of C E (fnE Q) [some A.enc, some (.tup (w.m.map keD))] M
    rw [e]
    show t_ends_of C E (fnE Q) [some A.enc, some (.tup (.str wd :: rest.map keD))] M
    unfold t_ends_of
    walk_at "g"
    refine s_ix rfl (atI_0 _ _) ?_
    walk_at "g"
    refine s_inN ["made", "sent", "burnt", "used", "seen"] rfl hwd ?_
    walk_at "g"
    refine ⟨A, k, i, w, ?_, hA, h, ?_⟩
    · unfold mvD
      rw [e]
      rfl
    · walk_at "g"
      exact s_end q
theorem len_law_found : ∀ ds M Q E, sp_law_found ds M Q E → ds.length = 2 := by rintro _ _ _ _ ⟨_, _, rfl, _⟩; rfl
theorem rd_law_found (C : Ct) : Rds (t_law_found C) n_law_found sp_law_found := by
  rintro _ M Q E ⟨A, n, rfl, hA, hn, q⟩
  show t_law_found C _ [some A.enc, some (.str n), none] M
  unfold t_law_found
  walk_at "g"
  refine ⟨A, n, rfl, hA, fun r hr => ?_, fun _ => ⟨rfl, fun a => ?_⟩⟩
  · rw [hn] at hr; cases hr
  · walk_at "g"
    refine s_cls fun c hc => ?_
    walk_at "g"
    refine s_isE hc ?_
    walk_at "g"
    refine s_cls fun c hc => ?_
    walk_at "g"
    refine s_isE hc ?_
    walk_at "g"
    refine s_cls fun c hc => ?_
    walk_at "g"
    refine s_isE hc ?_
    walk_at "g"
    refine s_kxf rfl ?_
    walk_at "g"
    exact s_end q
theorem len_places_of : ∀ ds M Q E, sp_places_of ds M Q E → ds.length = 1 := by rintro _ _ _ _ ⟨_, rfl, _⟩; rfl
theorem rd_places_of : Rds t_places_of n_places_of sp_places_of := by
  rintro _ M Q E ⟨A, rfl, hA, q⟩
  have h1 := hA.l0
  have h2 := hA.l1
  have h3 := hA.ol
  have h4 := hA.kl
  have h5 := hA.rc.len
  obtain ⟨L, hL⟩ : ∃ L : Nat, A.last = L := ⟨A.last.toNat, by omega⟩
  have hL60 : L < 60 := by omega
  show t_places_of _ [some (.tup [.int A.last, .tup (A.offices.map .str), .tup (A.kinds.map Kd.enc), .tup (A.roads.map Road.enc), .tup (A.records.map Rec.enc)]), none, none, none, none, none, none, none, none, none, none, none] M
  unfold t_places_of
  walk_at "g"
  intro t ht
  have G : Ac M t [mvD outK] (updM M t (.lst [mvD outK])) := Ac.new (fun _ _ e => e) ht
  walk_at "g"
  refine s_kforT (ds := A.records.map Rec.enc) (fun i τ M' => ∃ (x7 : Option D), Ac M t ((outK :: (A.records.take i).flatMap seenPl).map mvD) M' ∧ ((A.records.take i).flatMap seenPl).length ≤ i ∧ τ = [some (.tup [.int A.last, .tup (A.offices.map .str), .tup (A.kinds.map Kd.enc), .tup (A.roads.map Road.enc), .tup (A.records.map Rec.enc)]), some (.int A.last), some (.tup (A.offices.map .str)), some (.tup (A.kinds.map Kd.enc)), some (.tup (A.roads.map Road.enc)), some (.tup (A.records.map Rec.enc)), some (.ref t), x7, none, none, none, none]) (fun _ => rfl) ⟨_, G, Nat.le_refl _, rfl⟩ (fun i d τ M' hd ⟨x7, G, gl, e⟩ => ?_) (fun τ M' ⟨x7, G, gl, e⟩ => ?_)
  · subst e
    rw [List.getElem?_map] at hd
    obtain ⟨r, hr, rfl⟩ := Option.map_eq_some_iff.mp hd
    have hi := (List.getElem?_eq_some_iff.mp hr).1
    have R := hA.rc.ok r (List.mem_of_getElem? hr)
    obtain ⟨nm, wt, low, high, trust⟩ := r
    refine s_gname ?_
    show dIfS _ _ _ _ [some (.tup [.int A.last, .tup (A.offices.map .str), .tup (A.kinds.map Kd.enc), .tup (A.roads.map Road.enc), .tup (A.records.map Rec.enc)]), some (.int A.last), some (.tup (A.offices.map .str)), some (.tup (A.kinds.map Kd.enc)), some (.tup (A.roads.map Road.enc)), some (.tup (A.records.map Rec.enc)), some (.ref t), some (.tup [.str nm, wt.enc, .int low, encI high, encI trust]), none, none, none, none] M'
    have no : seenPl ⟨nm, wt, low, high, trust⟩ = [] → ∃ x7 : Option D, Ac M t ((outK :: (A.records.take (i + 1)).flatMap seenPl).map mvD) M' ∧ ((A.records.take (i + 1)).flatMap seenPl).length ≤ i + 1 ∧ ([some (.tup [.int A.last, .tup (A.offices.map .str), .tup (A.kinds.map Kd.enc), .tup (A.roads.map Road.enc), .tup (A.records.map Rec.enc)]), some (.int A.last), some (.tup (A.offices.map .str)), some (.tup (A.kinds.map Kd.enc)), some (.tup (A.roads.map Road.enc)), some (.tup (A.records.map Rec.enc)), some (.ref t), some (.tup [.str nm, wt.enc, .int low, encI high, encI trust]), none, none, none, none] : SD) = [some (.tup [.int A.last, .tup (A.offices.map .str), .tup (A.kinds.map Kd.enc), .tup (A.roads.map Road.enc), .tup (A.records.map Rec.enc)]), some (.int A.last), some (.tup (A.offices.map .str)), some (.tup (A.kinds.map Kd.enc)), some (.tup (A.roads.map Road.enc)), some (.tup (A.records.map Rec.enc)), some (.ref t), x7, none, none, none, none] := fun e => by
      refine ⟨_, ?_, ?_, rfl⟩
      · rw [flat_succ hr, e, List.append_nil]; exact G
      · rw [flat_succ hr, e, List.append_nil]; omega
    cases wt with
    | used ns o d =>
      unfold Wt.enc
      have hGt := G.at'
      walk_at "y"
      walk_at "g"
      refine s_append G.at' (small_line (by rw [List.length_map, List.length_cons]; omega)) ?_
      have G := G.put ((outK :: (A.records.take i).flatMap seenPl).map mvD ++ [mvD [tx "seen", tx nm]])
      refine s_kdrop ?_
      refine ⟨_, ?_, ?_, rfl⟩
      · rw [flat_succ hr]
        have : (outK :: ((A.records.take i).flatMap seenPl ++ seenPl ⟨nm, .used ns o d, low, high, trust⟩)).map mvD = (outK :: (A.records.take i).flatMap seenPl).map mvD ++ [mvD [tx "seen", tx nm]] := by
          rw [← List.cons_append, List.map_append]; rfl
        rw [this]
        exact G
      · rw [flat_succ hr, List.length_append]
        show _ + 1 ≤ _
        omega
    | sent k o d g e =>
      unfold Wt.enc
      walk_at "n"
      walk_at "g"
      exact no rfl
    | plain w k o d =>
      unfold Wt.enc
      have hw : WtOk A.last A.offices A.kinds (.plain w k o d) := R.wt
      have ne : w ≠ "used" := by
        cases hw with
        | plain hw _ _ _ _ =>
          simp only [List.mem_cons, List.not_mem_nil, or_false] at hw
          rcases hw with rfl | rfl | rfl | rfl <;> decide
      walk_at "g"
      · rename_i hc; exact absurd hc ne
      · exact no rfl
  · subst e
    rw [List.length_map, List.take_length] at G gl
    generalize hS : outK :: A.records.flatMap seenPl = S at G
    have sl : S.length ≤ 21 := by rw [← hS, List.length_cons]; omega
    walk_at "g"
    refine s_kforT (ds := [("stock" : Str), "town"].map .str) (fun i τ M' => ∃ (x8 x9 x10 x11 : Option D), Ac M t ((S ++ ([("stock" : Str), "town"].take i).flatMap (wordPl A)).map mvD) M' ∧ (S ++ ([("stock" : Str), "town"].take i).flatMap (wordPl A)).length ≤ 21 + 24000 * i ∧ τ = [some (.tup [.int A.last, .tup (A.offices.map .str), .tup (A.kinds.map Kd.enc), .tup (A.roads.map Road.enc), .tup (A.records.map Rec.enc)]), some (.int A.last), some (.tup (A.offices.map .str)), some (.tup (A.kinds.map Kd.enc)), some (.tup (A.roads.map Road.enc)), some (.tup (A.records.map Rec.enc)), some (.ref t), x7, x8, x9, x10, x11]) (fun _ => rfl) ⟨_, _, _, _, by rw [List.take_zero, List.flatMap_nil, List.append_nil]; exact G, by rw [List.take_zero, List.flatMap_nil, List.append_nil]; omega, rfl⟩ (fun i d τ M' hd ⟨x8, x9, x10, x11, G, gl, e⟩ => ?_) (fun τ M' ⟨x8, x9, x10, x11, G, gl, e⟩ => ?_)
    · subst e
      rw [List.getElem?_map] at hd
      obtain ⟨w, hw, rfl⟩ := Option.map_eq_some_iff.mp hd
      have hi := (List.getElem?_eq_some_iff.mp hw).1
      have hi : i < 2 := hi
      refine s_gname ?_
      show dFor _ _ _ _ [some (.tup [.int A.last, .tup (A.offices.map .str), .tup (A.kinds.map Kd.enc), .tup (A.roads.map Road.enc), .tup (A.records.map Rec.enc)]), some (.int A.last), some (.tup (A.offices.map .str)), some (.tup (A.kinds.map Kd.enc)), some (.tup (A.roads.map Road.enc)), some (.tup (A.records.map Rec.enc)), some (.ref t), x7, some (.str w), x9, x10, x11] M'
      generalize hB : (S ++ ([("stock" : Str), "town"].take i).flatMap (wordPl A)) = B at G gl
      walk_at "g"
      refine s_kforT (ds := A.kinds.map Kd.enc) (fun j τ M' => ∃ (x9 x10 x11 : Option D), Ac M t ((B ++ (A.kinds.take j).flatMap fun k => A.offices.flatMap fun o => atPl A.last w k.name o).map mvD) M' ∧ (B ++ (A.kinds.take j).flatMap fun k => A.offices.flatMap fun o => atPl A.last w k.name o).length ≤ 21 + 24000 * i + 1200 * j ∧ τ = [some (.tup [.int A.last, .tup (A.offices.map .str), .tup (A.kinds.map Kd.enc), .tup (A.roads.map Road.enc), .tup (A.records.map Rec.enc)]), some (.int A.last), some (.tup (A.offices.map .str)), some (.tup (A.kinds.map Kd.enc)), some (.tup (A.roads.map Road.enc)), some (.tup (A.records.map Rec.enc)), some (.ref t), x7, some (.str w), x9, x10, x11]) (fun _ => rfl) ⟨_, _, _, by rw [List.take_zero, List.flatMap_nil, List.append_nil]; exact G, by rw [List.take_zero, List.flatMap_nil, List.append_nil]; omega, rfl⟩ (fun j d τ M' hd ⟨x9, x10, x11, G, gl, e⟩ => ?_) (fun τ M' ⟨x9, x10, x11, G, gl, e⟩ => ?_)
      · subst e
        rw [List.getElem?_map] at hd
        obtain ⟨k, hk, rfl⟩ := Option.map_eq_some_iff.mp hd
        have hj := (List.getElem?_eq_some_iff.mp hk).1
        refine s_gname ?_
        show dFor _ _ _ _ [some (.tup [.int A.last, .tup (A.offices.map .str), .tup (A.kinds.map Kd.enc), .tup (A.roads.map Road.enc), .tup (A.records.map Rec.enc)]), some (.int A.last), some (.tup (A.offices.map .str)), some (.tup (A.kinds.map Kd.enc)), some (.tup (A.roads.map Road.enc)), some (.tup (A.records.map Rec.enc)), some (.ref t), x7, some (.str w), some (.tup [.str k.name, .int k.value, .int k.first, .int k.last]), x10, x11] M'
        generalize hC : (B ++ (A.kinds.take j).flatMap fun k => A.offices.flatMap fun o => atPl A.last w k.name o) = C at G gl
        walk_at "g"
        refine s_kforT (ds := A.offices.map .str) (fun m τ M' => ∃ (x10 x11 : Option D), Ac M t ((C ++ (A.offices.take m).flatMap fun o => atPl A.last w k.name o).map mvD) M' ∧ (C ++ (A.offices.take m).flatMap fun o => atPl A.last w k.name o).length ≤ 21 + 24000 * i + 1200 * j + 60 * m ∧ τ = [some (.tup [.int A.last, .tup (A.offices.map .str), .tup (A.kinds.map Kd.enc), .tup (A.roads.map Road.enc), .tup (A.records.map Rec.enc)]), some (.int A.last), some (.tup (A.offices.map .str)), some (.tup (A.kinds.map Kd.enc)), some (.tup (A.roads.map Road.enc)), some (.tup (A.records.map Rec.enc)), some (.ref t), x7, some (.str w), some (.tup [.str k.name, .int k.value, .int k.first, .int k.last]), x10, x11]) (fun _ => rfl) ⟨_, _, by rw [List.take_zero, List.flatMap_nil, List.append_nil]; exact G, by rw [List.take_zero, List.flatMap_nil, List.append_nil]; omega, rfl⟩ (fun m d τ M' hd ⟨x10, x11, G, gl, e⟩ => ?_) (fun τ M' ⟨x10, x11, G, gl, e⟩ => ?_)
        · subst e
          rw [List.getElem?_map] at hd
          obtain ⟨o, ho, rfl⟩ := Option.map_eq_some_iff.mp hd
          have hm := (List.getElem?_eq_some_iff.mp ho).1
          refine s_gname ?_
          show dFor _ _ _ _ [some (.tup [.int A.last, .tup (A.offices.map .str), .tup (A.kinds.map Kd.enc), .tup (A.roads.map Road.enc), .tup (A.records.map Rec.enc)]), some (.int A.last), some (.tup (A.offices.map .str)), some (.tup (A.kinds.map Kd.enc)), some (.tup (A.roads.map Road.enc)), some (.tup (A.records.map Rec.enc)), some (.ref t), x7, some (.str w), some (.tup [.str k.name, .int k.value, .int k.first, .int k.last]), some (.str o), x11] M'
          generalize hZ : (C ++ (A.offices.take m).flatMap fun o => atPl A.last w k.name o) = Z at G gl
          walk_at "g"
          refine s_kr1 (by omega) (by omega) ?_
          refine s_kforR (fun d τ M' => ∃ (x11 : Option D), Ac M t ((Z ++ (List.range d).map fun i : Nat => [tx w, tx k.name, tx o, nu i]).map mvD) M' ∧ τ = [some (.tup [.int A.last, .tup (A.offices.map .str), .tup (A.kinds.map Kd.enc), .tup (A.roads.map Road.enc), .tup (A.records.map Rec.enc)]), some (.int A.last), some (.tup (A.offices.map .str)), some (.tup (A.kinds.map Kd.enc)), some (.tup (A.roads.map Road.enc)), some (.tup (A.records.map Rec.enc)), some (.ref t), x7, some (.str w), some (.tup [.str k.name, .int k.value, .int k.first, .int k.last]), some (.str o), x11]) ⟨_, by simpa using G, rfl⟩ (fun d τ M' hd ⟨x11, G, e⟩ => ?_) (fun τ M' ⟨x11, G, e⟩ => ?_)
          · subst e
            show dDrop _ _ [some (.tup [.int A.last, .tup (A.offices.map .str), .tup (A.kinds.map Kd.enc), .tup (A.roads.map Road.enc), .tup (A.records.map Rec.enc)]), some (.int A.last), some (.tup (A.offices.map .str)), some (.tup (A.kinds.map Kd.enc)), some (.tup (A.roads.map Road.enc)), some (.tup (A.records.map Rec.enc)), some (.ref t), x7, some (.str w), some (.tup [.str k.name, .int k.value, .int k.first, .int k.last]), some (.str o), some (.int (0 + (d : Nat)))] M'
            rw [Int.zero_add]
            have hGt := G.at'
            walk_at "g"
            refine s_append G.at' (small_line (by rw [List.length_map, List.length_append, List.length_map, List.length_range]; omega)) ?_
            have G := G.put ((Z ++ (List.range d).map fun i : Nat => [tx w, tx k.name, tx o, nu i]).map mvD ++ [mvD [tx w, tx k.name, tx o, nu d]])
            refine s_kdrop ?_
            refine ⟨_, ?_, rfl⟩
            rw [map_rng, ← List.append_assoc, List.map_append]; exact G
          · subst e
            have ea : (List.range (A.last + 1).toNat).map (fun i : Nat => [tx w, tx k.name, tx o, nu i]) = atPl A.last w k.name o := rfl
            refine ⟨_, _, by rw [flat_succ ho, ← List.append_assoc, hZ, ← ea]; exact G, ?_, rfl⟩
            rw [flat_succ ho, ← List.append_assoc, hZ, List.length_append]
            have : (atPl A.last w k.name o).length = (A.last + 1).toNat := by rw [← ea, List.length_map, List.length_range]
            omega
        · subst e
          rw [List.length_map, List.take_length] at G
          rw [List.length_map] at gl
          rw [List.take_length] at gl
          refine ⟨_, _, _, by rw [flat_succ hk, ← List.append_assoc, hC]; exact G, ?_, rfl⟩
          rw [flat_succ hk, ← List.append_assoc, hC]
          omega
      · subst e
        rw [List.length_map, List.take_length] at G
        rw [List.length_map] at gl
        rw [List.take_length] at gl
        refine ⟨_, _, _, _, by rw [flat_succ hw, ← List.append_assoc, hB]; exact G, ?_, rfl⟩
        rw [flat_succ hw, ← List.append_assoc, hB]
        show (B ++ A.kinds.flatMap fun k => A.offices.flatMap fun o => atPl A.last w k.name o).length ≤ _
        omega
    · subst e
      have ep : S ++ ([("stock" : Str), "town"].take ([("stock" : Str), "town"].map D.str).length).flatMap (wordPl A) = placesL A := by
        rw [← hS]
        show outK :: A.records.flatMap seenPl ++ (wordPl A "stock" ++ (wordPl A "town" ++ [])) = _
        rw [List.append_nil]; rfl
      rw [ep] at G
      walk_at "g"
      refine s_endL (fun b m e => ?_) (q t G.nw)
      by_cases z : b = t
      · subst z
        rw [updM_same] at e
        cases e
        exact G.at'
      · rw [updM_ne z] at e
        exact G.le b m e

def Nr (M : Mp) : Prop := ∀ b xs, M b ≠ some (.raw (.tup xs))
theorem Nr.set {M : Mp} (h : Nr M) (p : Addr) {o : MO} (ho : ∀ u, o ≠ .raw u) : Nr (updM M p o) := fun b xs e => by
  by_cases z : b = p
  · subst z
    rw [updM_same] at e
    exact ho _ (Option.some.inj e)
  · rw [updM_ne z] at e
    exact h b xs e
theorem Nr.box {M : Mp} {a : Addr} (hs : StOk M a) (h : ∀ b, b ≠ a → M b = none) : Nr M := fun b xs e => by
  by_cases z : b = a
  · subst z
    obtain ⟨ns, i, h1, _⟩ := hs.ex
    rw [h1] at e; cases e
  · rw [h b z] at e; cases e
theorem s_inSubX {neg : Bool} {i j : Str} {M : Mp} {Q : QD} (h : Q (.bl (if neg then (Builtin.Str.occurrences j i 0 j.length 1).isEmpty else !(Builtin.Str.occurrences j i 0 j.length 1).isEmpty)) M) : dInSub neg (.str i) (.str j) M Q := h
theorem s_popL {a : Addr} {xs : List D} {x : D} {M : Mp} {Q : QD} (e : M a = some (.lst (xs ++ [x]))) (h : Q x (updM M a (.lst xs))) : dPop (.ref a) [] M Q := by
  have el : (xs ++ [x])[(xs ++ [x]).length - 1]? = some x := by simp
  unfold dPop
  simp only [e, el, List.dropLast_concat]
  exact h
theorem s_neSame {ms : PyData} {x y : D} {M : Mp} {Q : QD} (e0 : scalD x y = none) (e1 : (drf M x).py = some ms) (e2 : (drf M y).py = some ms) (hs : SeqAt.shaped ms = true) (hq : PyData.eqv ms ms = true) (h : Q (.bl false) M) : dNe x y M Q := by
  refine s_neDF e0 e1 e2 hs hs ?_
  rw [hq]; exact h
theorem s_eqSame {ms : PyData} {x y : D} {M : Mp} {Q : QD} (e0 : scalD x y = none) (e1 : (drf M x).py = some ms) (e2 : (drf M y).py = some ms) (hs : SeqAt.shaped ms = true) (hq : PyData.eqv ms ms = true) (h : Q (.bl true) M) : dEq x y M Q := by
  refine s_eqD e0 e1 e2 hs hs ?_
  rw [hq]; exact h
theorem drf_at {M : Mp} {a : Addr} {xs : List D} (h : M a = some (.lst xs)) : drf M (.ref a) = .lst xs := by
  show (match M a with | some (.lst ds) => D.lst ds | _ => .ref a) = .lst xs
  rw [h]
theorem keyOk_word {w : Str} (h : w ∈ [("made" : Str), "sent", "burnt", "seen", "used", "kept", "sold", "gone", "held", "carried", "outside", "stock", "town"]) : keyOk (tx w) = true := word_ok w h
theorem told_ok {A : Arc} (hA : ArcOk A) {r : Rec} (hr : r ∈ A.records) : ∀ k ∈ toldM r, keyOk k = true := by
  have R := hA.rc.ok r hr
  have kn := hA.kr hr
  have hw := R.wt
  unfold toldM
  split
  · exact ks_all (kw (by simp)) kn
  · exact ks_all (kw (by simp)) kn
  · rename_i w k o d e
    rw [e] at hw
    cases hw with
    | plain hw hk ho _ _ =>
      have kw' : keyOk (tx w) = true := by
        simp only [List.mem_cons, List.not_mem_nil, or_false] at hw
        rcases hw with rfl | rfl | rfl | rfl <;> exact kw (by simp)
      split
      · exact ks_all kw' kn
      · exact ks_all4 kw' (hA.kkn hk) (hA.ko ho) (ki _)
theorem tup_same {m : List Key} (h : ∀ k ∈ m, keyOk k = true) : D.py (mvD m) = some (pyD (mvD m)) ∧ SeqAt.shaped (pyD (mvD m)) = true ∧ PyData.eqv (pyD (mvD m)) (pyD (mvD m)) = true :=
  ⟨(dok_py 1 _ (dok_mv h)).1, shaped_of (n := 1) (dok_mv h) (by decide), pl_self _ (dok_py 1 _ (dok_mv h)).2.1⟩
theorem pair_same {m n : List Key} (h : ∀ k ∈ m, keyOk k = true) (g : ∀ k ∈ n, keyOk k = true) : D.py (.tup [mvD m, mvD n]) = some (pyD (.tup [mvD m, mvD n])) ∧ SeqAt.shaped (pyD (.tup [mvD m, mvD n])) = true ∧ PyData.eqv (pyD (.tup [mvD m, mvD n])) (pyD (.tup [mvD m, mvD n])) = true := by
  have k : dok 2 (.tup [mvD m, mvD n]) = true := dok_tupOf fun d hd => by
    simp only [List.mem_cons, List.not_mem_nil, or_false] at hd
    rcases hd with rfl | rfl
    · exact dok_mv h
    · exact dok_mv g
  exact ⟨(dok_py 2 _ k).1, shaped_of (n := 2) k (by decide), pl_self _ (dok_py 2 _ k).2.1⟩
theorem recAt_none {A : Arc} {n : Str} (h : n ∉ A.records.map Rec.name) : recAt A n = none := by
  unfold recAt
  rw [List.find?_eq_none]
  intro r hr z
  exact h (List.mem_map.mpr ⟨r, hr, of_decide_eq_true z⟩)

theorem len_law : ∀ ds M Q E, sp_law ds M Q E → ds.length = 1 := by rintro _ _ _ _ ⟨_, _, rfl, _⟩; rfl
theorem rd_law (C : Ct) : Rds (t_law C) n_law sp_law := by
  rintro _ M Q E ⟨hM, ns, rfl, hl, q⟩
  subst hM
  show t_law C _ [some (.lsk (ns.map .int)), none, none, none, none, none, none, none, none, none, none, none, none, none] _
  unfold t_law
  walk_at "g"
  refine ⟨ns, rfl, hl, fun a M1 ha st hs => ?_⟩
  have hs : ∀ b, b ≠ a → M1 b = none := hs
  walk_at "g"
  refine ⟨a, 4, 3, 3, 8, rfl, by decide, by decide, by decide, by decide, by decide, by decide, by decide, by decide, st, fun A M2 hA _ _ _ _ D2 => ?_⟩
  have nr2 : Nr M2 := Nr.box D2.ok fun b hb => (D2.same b hb).trans (hs b hb)
  clear hs ha
  walk_at "g"
  refine ⟨A, rfl, hA, fun rl => ?_⟩
  obtain ⟨rs, hp, e1, e2⟩ := rows_sorted hA
  have rln : rs.length ≤ 1000000 := by rw [hp.length_eq]; exact rl
  rw [e1]
  walk_at "g"
  refine ⟨A, rfl, hA, fun p4 h4 => ?_⟩
  have nr3 := nr2.set p4 (o := .lst (sortD ((movesL A).map mvD))) (fun u z => nomatch z)
  generalize h3 : updM M2 p4 (.lst (sortD ((movesL A).map mvD))) = M3 at nr3
  have m34 : M3 p4 = some (.lst (sortD ((movesL A).map mvD))) := by rw [← h3]; exact updM_same
  clear h3
  walk_at "g"
  refine ⟨A, rfl, hA, fun p5 h5 => ?_⟩
  have nr4 := nr3.set p5 (o := .lst ((placesL A).map mvD)) (fun u z => nomatch z)
  generalize h6 : updM M3 p5 (.lst ((placesL A).map mvD)) = M4 at nr4
  have m45 : M4 p5 = some (.lst ((placesL A).map mvD)) := by rw [← h6]; exact updM_same
  have m44 : M4 p4 = some (.lst (sortD ((movesL A).map mvD))) := by
    rw [← h6, updM_ne (fun z => by rw [z] at m34; rw [m34] at h5; cases h5)]; exact m34
  have n54 : p5 ≠ p4 := fun z => by rw [z, m34] at h5; cases h5
  clear h6 h5 m34 nr3
  walk_at "g"
  refine s_isi (b := true) rfl (by show (match M4 p4 with | some (.lst _) => some "list" | some (.dK _) => some "dict" | _ => none) = some "list"; rw [m44]) rfl ?_
  walk_at "g"
  refine s_isi (b := true) rfl (by show (match M4 p5 with | some (.lst _) => some "list" | some (.dK _) => some "dict" | _ => none) = some "list"; rw [m45]) rfl ?_
  walk_at "g"
  refine s_klcMap rowD (fun r => mvD r.m) (fun _ => rfl) (small_line rln) (fun r hr => ⟨_, rfl, fun QQ k => ?_⟩) ?_
  · unfold rowD
    walk_at "g"
    exact k
  have mk : ∀ m ∈ rs.map Row.m, ∀ k ∈ m, keyOk k = true := fun m hm => by
    obtain ⟨r, hr, rfl⟩ := List.mem_map.mp hm
    exact (rows_shape hA r (hp.mem_iff.mp hr)).2.m
  have e3 : sortD ((movesL A).map mvD) = (rs.map Row.m).map mvD := by rw [e2, List.map_map]; rfl
  have e4 : (rs.map fun r => mvD r.m) = (rs.map Row.m).map mvD := by rw [List.map_map]; rfl
  obtain ⟨l1, l2, l3⟩ := list_py mk
  have pk : ∀ m ∈ placesL A, ∀ k ∈ m, keyOk k = true := fun m hm => (places_cls hA m hm).2
  obtain ⟨g1, g2, g3⟩ := list_py pk
  rw [e4]
  rw [e3] at m44
  walk_at "g"
  refine s_neSame rfl (by rw [drf_at m44]; exact l1) l1 l2 l3 ?_
  refine s_kb ?_
  refine b_false ?_
  walk_at "g"
  refine s_kd1 (by show 1 ≤ sizeLine; decide) rfl ?_
  walk_at "g"
  intro p7 h7
  have n74 : p7 ≠ p4 := fun z => by rw [z, m44] at h7; cases h7
  have n75 : p7 ≠ p5 := fun z => by rw [z, m45] at h7; cases h7
  walk_at "g"
  refine s_kforT (ds := rs.map rowD) (fun i τ M' => ∃ (kvs : List (List Key × D)) (x8 x9 x10 : Option D), Due (rs.take i) kvs ∧ M' = updM M4 p7 (.dT kvs) ∧ τ = [some (.lsk (ns.map .int)), some (.ref a), some A.enc, some (.lst (rs.map rowD)), some (.ref p4), some (.ref p5), none, some (.ref p7), x8, x9, x10, none, none, none]) (fun _ => rfl) ⟨_, _, _, _, Due.first _, rfl, rfl⟩ (fun i d τ M' hd ⟨kvs, x8, x9, x10, du, eM, e⟩ => ?_) (fun τ M' ⟨kvs, x8, x9, x10, du, eM, e⟩ => ?_)
  · subst eM; subst e
    rw [List.getElem?_map] at hd
    obtain ⟨r, hr, rfl⟩ := Option.map_eq_some_iff.mp hd
    have hi := (List.getElem?_eq_some_iff.mp hr).1
    have hm : r ∈ rowsL A := hp.mem_iff.mp (List.mem_of_getElem? hr)
    have pl := rows_places hA r hm
    have kl : kvs.length ≤ 1 + 2 * 1000000 := by
      have := du.len
      rw [List.length_take] at this
      omega
    have du2 := du.put r (.bl true) (.bl true)
    have ok : ∀ (q : List Key) (ks : List (List Key × D)), q ∈ placesL A → outK ∈ ks.map Prod.fst → goodKey q = true ∨ (valD ks q).isSome = true := fun q ks hq ho => by
      rcases good_place hA hq with rfl | h
      · exact .inr (val_mem ho)
      · exact .inl h
    have o1 : outK ∈ kvs.map Prod.fst := (du.mem outK).mpr (.inl rfl)
    have o2 : outK ∈ (putD kvs r.s (.bl true)).map Prod.fst := (putD_mem _ _ _ _).mpr (.inl o1)
    have pln := putD_len kvs r.s (.bl true)
    refine s_gtup rfl ?_
    show dSeq _ _ _ [some (.lsk (ns.map .int)), some (.ref a), some A.enc, some (.lst (rs.map rowD)), some (.ref p4), some (.ref p5), none, some (.ref p7), some (mvD r.m), some (mvD r.s), some (mvD r.g), none, none, none] _
    walk_at "g"
    refine s_kpT3 (keysD_ke _) updM_same (ok _ _ pl.1 o1) (by rw [sizeLine_eq]; omega) ?_
    rw [updM_updM]
    walk_at "g"
    refine s_kpT3 (keysD_ke _) updM_same (ok _ _ pl.2 o2) (by rw [sizeLine_eq]; omega) ?_
    rw [updM_updM]
    walk_at "g"
    refine ⟨A, r, rfl, hA, hm, ?_⟩
    walk_at "g"
    have rk := (rows_shape hA r hm).2
    obtain ⟨t1, t2, t3⟩ := pair_same rk.s rk.g
    refine s_neSame rfl t1 t1 t2 t3 ?_
    refine s_kb ?_
    refine b_false ?_
    walk_at "g"
    refine ⟨_, _, _, _, ?_, rfl, rfl⟩
    rw [List.take_succ, hr]
    exact du2
  · subst eM; subst e
    rw [List.length_map, List.take_length] at du
    obtain ⟨so, se⟩ := due_sort hA hp du
    have kl : kvs.length ≤ 1 + 2 * 1000000 := by have := du.len; omega
    have nr7 : Nr (updM M4 p7 (.dT kvs)) := nr4.set p7 (fun u z => nomatch z)
    have m75 : (updM M4 p7 (.dT kvs)) p5 = some (.lst ((placesL A).map mvD)) := by rw [updM_ne (Ne.symm n75)]; exact m45
    have m74 : (updM M4 p7 (.dT kvs)) p4 = some (.lst ((rs.map Row.m).map mvD)) := by rw [updM_ne (Ne.symm n74)]; exact m44
    walk_at "g"
    refine s_listT nr7 updM_same (by rw [sizeLine_eq]; omega) ?_
    walk_at "g"
    refine s_sortedD rfl so ?_
    rw [se]
    walk_at "g"
    refine s_neSame rfl (by rw [drf_at m75]; exact g1) g1 g2 g3 ?_
    refine s_kb ?_
    refine b_false ?_
    walk_at "g"
    refine s_kforT (ds := A.records.map Rec.enc) (fun i τ M' => ∃ (x11 : Option D), M' = updM M4 p7 (.dT kvs) ∧ τ = [some (.lsk (ns.map .int)), some (.ref a), some A.enc, some (.lst (rs.map rowD)), some (.ref p4), some (.ref p5), none, some (.ref p7), x8, x9, x10, x11, none, none]) (fun _ => rfl) ⟨_, rfl, rfl⟩ (fun i d τ M' hd ⟨x11, eM, e⟩ => ?_) (fun τ M' ⟨x11, eM, e⟩ => ?_)
    · subst eM; subst e
      rw [List.getElem?_map] at hd
      obtain ⟨r, hr, rfl⟩ := Option.map_eq_some_iff.mp hd
      have hm := List.mem_of_getElem? hr
      refine s_gname ?_
      show dIfS _ _ _ _ [some (.lsk (ns.map .int)), some (.ref a), some A.enc, some (.lst (rs.map rowD)), some (.ref p4), some (.ref p5), none, some (.ref p7), x8, x9, x10, some r.enc, none, none] _
      walk_at "g"
      refine ⟨A, r.name, rfl, hA, fun r' hr' => ?_, fun hn => ?_⟩
      · rw [recAt_self hA hm] at hr'
        cases hr'
        walk_at "g"
        refine ⟨A.last, A.offices, A.kinds, r, rfl, hA.rc.ok r hm, ?_⟩
        walk_at "g"
        obtain ⟨t1, t2, t3⟩ := tup_same (told_ok hA hm)
        refine s_neSame rfl t1 t1 t2 t3 ?_
        refine s_kb ?_
        refine b_false ?_
        walk_at "g"
        exact ⟨_, rfl, rfl⟩
      · rw [recAt_self hA hm] at hn
        cases hn
    · subst eM; subst e
      walk_at "g"
      refine s_klcMap Rec.enc (fun r => .str r.name) (fun _ => rfl) (small_line (by have := hA.rc.len; omega)) (fun r hr => ⟨_, rfl, fun QQ k => ?_⟩) ?_
      · unfold Rec.enc
        walk_at "g"
        exact k
      have en : (A.records.map fun r => D.str r.name) = (A.records.map Rec.name).map .str := by rw [List.map_map]; rfl
      rw [en]
      have nln : (A.records.map Rec.name).length ≤ 20 := by rw [List.length_map]; exact hA.rc.len
      have zl : ∀ z ∈ A.records.map Rec.name, z.length ≤ 1000 := fun z hz => by
        obtain ⟨r, hr, rfl⟩ := List.mem_map.mp hz
        obtain ⟨b, hb⟩ := (hA.rc.ok r hr).nm
        exact Nat.le_trans (rn_len hb) (by decide)
      have nin : ∀ z, z ∉ A.records.map Rec.name → recAt A z = none := fun z h => recAt_none h
      generalize A.records.map Rec.name = names at nln zl nin
      walk_at "g"
      refine s_klcFil D.str (fun z => (Builtin.Str.occurrences z "/" 0 z.length 1).isEmpty) (fun z => .str (z ++ "/3")) (fun _ => rfl) (small_line (by omega)) (fun z hz => ⟨_, rfl, fun QB kq => ?_, fun QQ hq kq => ?_⟩) ?_
      · show dTest _ [some (.lsk (ns.map .int)), some (.ref a), some A.enc, some (.lst (rs.map rowD)), some (.ref p4), some (.ref p5), none, some (.ref p7), x8, x9, x10, x11, some (.lst (names.map .str)), some (.str z)] _ QB
        walk_at "g"
        refine s_inSubX ?_
        walk_at "g"
        exact kq
      · show dOp _ _ _ [some (.lsk (ns.map .int)), some (.ref a), some A.enc, some (.lst (rs.map rowD)), some (.ref p4), some (.ref p5), none, some (.ref p7), x8, x9, x10, x11, some (.lst (names.map .str)), some (.str z)] _ QQ
        walk_at "g"
        refine s_addS (small_line (by have := zl z hz; show z.length + 2 ≤ _; omega)) ?_
        exact kq
      have fl := List.length_filter_le (fun z => (Builtin.Str.occurrences z "/" 0 z.length 1).isEmpty) names
      generalize names.filter (fun z => (Builtin.Str.occurrences z "/" 0 z.length 1).isEmpty) = fs at fl
      walk_at "g"
      refine s_addL (by rw [List.length_map, sizeLine_eq]; show 2 + fs.length ≤ _; omega) ?_
      have el : ([D.str "qqqqqqqqqqqq", D.str "qqqqqqqqqqqq/7"] ++ fs.map fun z => D.str (z ++ "/3")) = (([("qqqqqqqqqqqq" : Str), ("qqqqqqqqqqqq/7" : Str)] : List Str) ++ fs.map fun z : Str => (z ++ ("/3" : Str) : Str)).map D.str := by
        rw [List.map_append, List.map_map]; rfl
      rw [el]
      generalize (([("qqqqqqqqqqqq" : Str), ("qqqqqqqqqqqq/7" : Str)] : List Str) ++ fs.map fun z : Str => (z ++ ("/3" : Str) : Str)) = zs
      walk_at "g"
      refine s_kforT (ds := zs.map .str) (fun i τ M' => ∃ (x13 : Option D), M' = updM M4 p7 (.dT kvs) ∧ τ = [some (.lsk (ns.map .int)), some (.ref a), some A.enc, some (.lst (rs.map rowD)), some (.ref p4), some (.ref p5), none, some (.ref p7), x8, x9, x10, x11, some (.lst (names.map .str)), x13]) (fun _ => rfl) ⟨_, rfl, rfl⟩ (fun i d τ M' hd ⟨x13, eM, e⟩ => ?_) (fun τ M' ⟨x13, eM, e⟩ => ?_)
      · subst eM; subst e
        rw [List.getElem?_map] at hd
        obtain ⟨z, hz, rfl⟩ := Option.map_eq_some_iff.mp hd
        refine s_gname ?_
        show dIfS _ _ _ _ [some (.lsk (ns.map .int)), some (.ref a), some A.enc, some (.lst (rs.map rowD)), some (.ref p4), some (.ref p5), none, some (.ref p7), x8, x9, x10, x11, some (.lst (names.map .str)), some (.str z)] _
        walk_at "g"
        by_cases hn : z ∈ names
        · refine s_niY names rfl hn ?_
          walk_at "g"
          exact ⟨_, rfl, rfl⟩
        · refine s_niN names rfl hn ?_
          walk_at "g"
          refine ⟨A, z, rfl, hA, nin z hn, ?_⟩
          walk_at "g"
          · rename_i h; exact absurd rfl h
          · exact ⟨_, rfl, rfl⟩
      · subst eM; subst e
        walk_at "g"
        refine s_append m74 (by rw [List.length_map, List.length_map, sizeLine_eq]; omega) ?_
        refine s_kdrop ?_
        have m95 : (updM (updM M4 p7 (.dT kvs)) p4 (.lst ((rs.map Row.m).map mvD ++ [D.tup [D.str "made", D.str "stranger"]]))) p5 = some (.lst ((placesL A).map mvD)) := by rw [updM_ne n54]; exact m75
        have m97 : (updM (updM M4 p7 (.dT kvs)) p4 (.lst ((rs.map Row.m).map mvD ++ [D.tup [D.str "made", D.str "stranger"]]))) p7 = some (.dT kvs) := by rw [updM_ne n74]; exact updM_same
        have nr9 := nr7.set p4 (o := .lst ((rs.map Row.m).map mvD ++ [D.tup [D.str "made", D.str "stranger"]])) (fun u z => nomatch z)
        generalize updM (updM M4 p7 (.dT kvs)) p4 (.lst ((rs.map Row.m).map mvD ++ [D.tup [D.str "made", D.str "stranger"]])) = M9 at m95 m97 nr9
        walk_at "g"
        have ne : (placesL A).map mvD ≠ [] := fun z => by cases z
        refine s_popL (xs := ((placesL A).map mvD).dropLast) (x := ((placesL A).map mvD).getLast ne) (by rw [List.dropLast_concat_getLast]; exact m95) ?_
        refine s_kdrop ?_
        have m07 : (updM M9 p5 (.lst ((placesL A).map mvD).dropLast)) p7 = some (.dT kvs) := by rw [updM_ne n75]; exact m97
        have nr0 := nr9.set p5 (o := .lst ((placesL A).map mvD).dropLast) (fun u z => nomatch z)
        generalize updM M9 p5 (.lst ((placesL A).map mvD).dropLast) = M0 at m07 nr0
        walk_at "g"
        refine ⟨A, rfl, hA, fun p8 h8 => ?_⟩
        rw [e3]
        walk_at "g"
        refine s_klcMap rowD (fun r => mvD r.m) (fun _ => rfl) (small_line rln) (fun r hr => ⟨_, rfl, fun QQ k => ?_⟩) ?_
        · unfold rowD
          walk_at "g"
          exact k
        rw [e4]
        walk_at "g"
        refine s_eqSame rfl (by rw [drf_at updM_same]; exact l1) l1 l2 l3 ?_
        walk_at "g"
        refine ⟨A, rfl, hA, fun p9 h9 => ?_⟩
        have n78 : p7 ≠ p8 := fun z => by rw [z, h8] at m07; cases m07
        have m87 : (updM M0 p8 (.lst ((rs.map Row.m).map mvD))) p7 = some (.dT kvs) := by rw [updM_ne n78]; exact m07
        have n79 : p7 ≠ p9 := fun z => by rw [z, h9] at m87; cases m87
        walk_at "g"
        refine s_listT ((nr0.set p8 (o := .lst ((rs.map Row.m).map mvD)) (fun u z => nomatch z)).set p9 (o := .lst ((placesL A).map mvD)) (fun u z => nomatch z)) (by rw [updM_ne n79]; exact m87) (by rw [sizeLine_eq]; omega) ?_
        walk_at "g"
        refine s_sortedD rfl so ?_
        rw [se]
        walk_at "g"
        refine s_eqSame rfl (by rw [drf_at updM_same]; exact g1) g1 g2 g3 ?_
        walk_at "g"
        exact s_end (q _ _ rfl)

def topS (i : Nat) : Stmt := PySem.Challenge.pw_postsooth_k31_places_and_moves.main.body.getD i (.Pass ⟨0, 0, 0, 0⟩)
abbrev s_spans_of : Stmt := topS 8
theorem sc_spans_of : FnScope n_spans_of ["kinds"] (defScope s_spans_of) := ⟨rfl, rfl, rfl, by decide +kernel, rfl, by decide +kernel, by decide +kernel⟩
abbrev s_places_of : Stmt := topS 9
theorem sc_places_of : FnScope n_places_of ["archive"] (defScope s_places_of) := ⟨rfl, rfl, rfl, by decide +kernel, rfl, by decide +kernel, by decide +kernel⟩
abbrev s_moves_of : Stmt := topS 10
theorem sc_moves_of : FnScope n_moves_of ["archive"] (defScope s_moves_of) := ⟨rfl, rfl, rfl, by decide +kernel, rfl, by decide +kernel, by decide +kernel⟩
abbrev s_record_moves : Stmt := topS 11
theorem sc_record_moves : FnScope n_record_moves ["kinds", "record"] (defScope s_record_moves) := ⟨rfl, rfl, rfl, by decide +kernel, rfl, by decide +kernel, by decide +kernel⟩
abbrev s_record_of : Stmt := topS 12
theorem sc_record_of : FnScope n_record_of ["archive", "name"] (defScope s_record_of) := ⟨rfl, rfl, rfl, by decide +kernel, rfl, by decide +kernel, by decide +kernel⟩
abbrev s_move_of : Stmt := topS 13
theorem sc_move_of : FnScope n_move_of ["archive", "name"] (defScope s_move_of) := ⟨rfl, rfl, rfl, by decide +kernel, rfl, by decide +kernel, by decide +kernel⟩
abbrev s_told_move : Stmt := topS 14
theorem sc_told_move : FnScope n_told_move ["record"] (defScope s_told_move) := ⟨rfl, rfl, rfl, by decide +kernel, rfl, by decide +kernel, by decide +kernel⟩
abbrev s_ends_of : Stmt := topS 15
theorem sc_ends_of : FnScope n_ends_of ["archive", "move"] (defScope s_ends_of) := ⟨rfl, rfl, rfl, by decide +kernel, rfl, by decide +kernel, by decide +kernel⟩
abbrev s_record_ends : Stmt := topS 16
theorem sc_record_ends : FnScope n_record_ends ["what", "move"] (defScope s_record_ends) := ⟨rfl, rfl, rfl, by decide +kernel, rfl, by decide +kernel, by decide +kernel⟩
abbrev s_plain_ends : Stmt := topS 17
theorem sc_plain_ends : FnScope n_plain_ends ["archive", "move"] (defScope s_plain_ends) := ⟨rfl, rfl, rfl, by decide +kernel, rfl, by decide +kernel, by decide +kernel⟩
abbrev s_law_digits : Stmt := topS 19
theorem sc_law_digits : FnScope n_law_digits ["cell", "count"] (defScope s_law_digits) := ⟨rfl, rfl, rfl, by decide +kernel, rfl, by decide +kernel, by decide +kernel⟩
abbrev s_law_box : Stmt := topS 20
theorem sc_law_box : FnScope n_law_box ["script"] (defScope s_law_box) := ⟨rfl, rfl, rfl, by decide +kernel, rfl, by decide +kernel, by decide +kernel⟩
abbrev s_law_take : Stmt := topS 21
theorem sc_law_take : FnScope n_law_take ["box", "many"] (defScope s_law_take) := ⟨rfl, rfl, rfl, by decide +kernel, rfl, by decide +kernel, by decide +kernel⟩
abbrev s_law_pick : Stmt := topS 22
theorem sc_law_pick : FnScope n_law_pick ["box", "row"] (defScope s_law_pick) := ⟨rfl, rfl, rfl, by decide +kernel, rfl, by decide +kernel, by decide +kernel⟩
abbrev s_law_word : Stmt := topS 23
theorem sc_law_word : FnScope n_law_word ["box", "size"] (defScope s_law_word) := ⟨rfl, rfl, rfl, by decide +kernel, rfl, by decide +kernel, by decide +kernel⟩
abbrev s_law_names : Stmt := topS 24
theorem sc_law_names : FnScope n_law_names ["box", "many"] (defScope s_law_names) := ⟨rfl, rfl, rfl, by decide +kernel, rfl, by decide +kernel, by decide +kernel⟩
abbrev s_law_kinds : Stmt := topS 25
theorem sc_law_kinds : FnScope n_law_kinds ["box", "many"] (defScope s_law_kinds) := ⟨rfl, rfl, rfl, by decide +kernel, rfl, by decide +kernel, by decide +kernel⟩
abbrev s_law_roads : Stmt := topS 26
theorem sc_law_roads : FnScope n_law_roads ["box", "offices"] (defScope s_law_roads) := ⟨rfl, rfl, rfl, by decide +kernel, rfl, by decide +kernel, by decide +kernel⟩
abbrev s_law_what : Stmt := topS 27
theorem sc_law_what : FnScope n_law_what ["box", "last", "offices", "kinds"] (defScope s_law_what) := ⟨rfl, rfl, rfl, by decide +kernel, rfl, by decide +kernel, by decide +kernel⟩
abbrev s_law_amounts : Stmt := topS 28
theorem sc_law_amounts : FnScope n_law_amounts ["box", "great"] (defScope s_law_amounts) := ⟨rfl, rfl, rfl, by decide +kernel, rfl, by decide +kernel, by decide +kernel⟩
abbrev s_law_records : Stmt := topS 29
theorem sc_law_records : FnScope n_law_records ["box", "last", "offices", "kinds", "many", "great"] (defScope s_law_records) := ⟨rfl, rfl, rfl, by decide +kernel, rfl, by decide +kernel, by decide +kernel⟩
abbrev s_law_archive : Stmt := topS 30
theorem sc_law_archive : FnScope n_law_archive ["box", "most_days", "most_offices", "most_kinds", "most_records"] (defScope s_law_archive) := ⟨rfl, rfl, rfl, by decide +kernel, rfl, by decide +kernel, by decide +kernel⟩
abbrev s_law_told : Stmt := topS 31
theorem sc_law_told : FnScope n_law_told ["record"] (defScope s_law_told) := ⟨rfl, rfl, rfl, by decide +kernel, rfl, by decide +kernel, by decide +kernel⟩
abbrev s_law_record_rows : Stmt := topS 32
theorem sc_law_record_rows : FnScope n_law_record_rows ["kinds", "record"] (defScope s_law_record_rows) := ⟨rfl, rfl, rfl, by decide +kernel, rfl, by decide +kernel, by decide +kernel⟩
abbrev s_law_spot_rows : Stmt := topS 33
theorem sc_law_spot_rows : FnScope n_law_spot_rows ["last", "kind", "office", "day"] (defScope s_law_spot_rows) := ⟨rfl, rfl, rfl, by decide +kernel, rfl, by decide +kernel, by decide +kernel⟩
abbrev s_law_moves : Stmt := topS 34
theorem sc_law_moves : FnScope n_law_moves ["archive"] (defScope s_law_moves) := ⟨rfl, rfl, rfl, by decide +kernel, rfl, by decide +kernel, by decide +kernel⟩
abbrev s_law_found : Stmt := topS 35
theorem sc_law_found : FnScope n_law_found ["archive", "name"] (defScope s_law_found) := ⟨rfl, rfl, rfl, by decide +kernel, rfl, by decide +kernel, by decide +kernel⟩
abbrev s_law : Stmt := topS 36
theorem sc_law : FnScope n_law ["script"] (defScope s_law) := ⟨rfl, rfl, rfl, by decide +kernel, rfl, by decide +kernel, by decide +kernel⟩
abbrev s_ini_UnknownName : Stmt := clsDef (topS 4) 0
theorem sc_ini_UnknownName : FnScope ["self", "name"] ["self", "name"] (defScope s_ini_UnknownName) := ⟨rfl, rfl, rfl, by decide +kernel, rfl, by decide +kernel, by decide +kernel⟩
theorem ok_ini_UnknownName {P : Program} {w : World} {K : PySem.W.Frag} {mg : Str → Option Value} {base : Heap} {fI : Addr} {fd : FuncData} (F : Fun K "__init__" "UnknownName.__init__" s_ini_UnknownName fI fd) : FnOk P w K mg base (L2.CX P w) 1 fI fd ["self", "name"] (spIni K "name") := ok_ini F sc_ini_UnknownName rfl (Or.inl rfl) (Or.inl rfl) (by decide) (by decide)
structure Tx0 (K : PySem.W.Frag) (mg : Str → Option Value) (base : Heap) (tb : List (Addr × Str)) where
  f_spans_of : Addr
  d_spans_of : FuncData
  F_spans_of : Fun K "spans_of" "spans_of" s_spans_of f_spans_of d_spans_of
  g_spans_of : mg "spans_of" = some (.ref f_spans_of)
  b_spans_of : Binds K d_spans_of ["kinds"] []
  f_places_of : Addr
  d_places_of : FuncData
  F_places_of : Fun K "places_of" "places_of" s_places_of f_places_of d_places_of
  g_places_of : mg "places_of" = some (.ref f_places_of)
  b_places_of : Binds K d_places_of ["archive"] []
  f_moves_of : Addr
  d_moves_of : FuncData
  F_moves_of : Fun K "moves_of" "moves_of" s_moves_of f_moves_of d_moves_of
  g_moves_of : mg "moves_of" = some (.ref f_moves_of)
  b_moves_of : Binds K d_moves_of ["archive"] []
  f_record_moves : Addr
  d_record_moves : FuncData
  F_record_moves : Fun K "record_moves" "record_moves" s_record_moves f_record_moves d_record_moves
  g_record_moves : mg "record_moves" = some (.ref f_record_moves)
  b_record_moves : Binds K d_record_moves ["kinds", "record"] []
  f_record_of : Addr
  d_record_of : FuncData
  F_record_of : Fun K "record_of" "record_of" s_record_of f_record_of d_record_of
  g_record_of : mg "record_of" = some (.ref f_record_of)
  b_record_of : Binds K d_record_of ["archive", "name"] []
  f_move_of : Addr
  d_move_of : FuncData
  F_move_of : Fun K "move_of" "move_of" s_move_of f_move_of d_move_of
  g_move_of : mg "move_of" = some (.ref f_move_of)
  b_move_of : Binds K d_move_of ["archive", "name"] []
  f_told_move : Addr
  d_told_move : FuncData
  F_told_move : Fun K "told_move" "told_move" s_told_move f_told_move d_told_move
  g_told_move : mg "told_move" = some (.ref f_told_move)
  b_told_move : Binds K d_told_move ["record"] []
  f_ends_of : Addr
  d_ends_of : FuncData
  F_ends_of : Fun K "ends_of" "ends_of" s_ends_of f_ends_of d_ends_of
  g_ends_of : mg "ends_of" = some (.ref f_ends_of)
  b_ends_of : Binds K d_ends_of ["archive", "move"] []
structure Tx1 (K : PySem.W.Frag) (mg : Str → Option Value) (base : Heap) (tb : List (Addr × Str)) where
  f_record_ends : Addr
  d_record_ends : FuncData
  F_record_ends : Fun K "record_ends" "record_ends" s_record_ends f_record_ends d_record_ends
  g_record_ends : mg "record_ends" = some (.ref f_record_ends)
  b_record_ends : Binds K d_record_ends ["what", "move"] []
  f_plain_ends : Addr
  d_plain_ends : FuncData
  F_plain_ends : Fun K "plain_ends" "plain_ends" s_plain_ends f_plain_ends d_plain_ends
  g_plain_ends : mg "plain_ends" = some (.ref f_plain_ends)
  b_plain_ends : Binds K d_plain_ends ["archive", "move"] []
  f_law_digits : Addr
  d_law_digits : FuncData
  F_law_digits : Fun K "_law_digits" "_law_digits" s_law_digits f_law_digits d_law_digits
  g_law_digits : mg "_law_digits" = some (.ref f_law_digits)
  b_law_digits : Binds K d_law_digits ["cell", "count"] []
  f_law_box : Addr
  d_law_box : FuncData
  F_law_box : Fun K "_law_box" "_law_box" s_law_box f_law_box d_law_box
  g_law_box : mg "_law_box" = some (.ref f_law_box)
  b_law_box : Binds K d_law_box ["script"] []
  f_law_take : Addr
  d_law_take : FuncData
  F_law_take : Fun K "_law_take" "_law_take" s_law_take f_law_take d_law_take
  g_law_take : mg "_law_take" = some (.ref f_law_take)
  b_law_take : Binds K d_law_take ["box", "many"] []
  f_law_pick : Addr
  d_law_pick : FuncData
  F_law_pick : Fun K "_law_pick" "_law_pick" s_law_pick f_law_pick d_law_pick
  g_law_pick : mg "_law_pick" = some (.ref f_law_pick)
  b_law_pick : Binds K d_law_pick ["box", "row"] []
  f_law_word : Addr
  d_law_word : FuncData
  F_law_word : Fun K "_law_word" "_law_word" s_law_word f_law_word d_law_word
  g_law_word : mg "_law_word" = some (.ref f_law_word)
  b_law_word : Binds K d_law_word ["box", "size"] []
  f_law_names : Addr
  d_law_names : FuncData
  F_law_names : Fun K "_law_names" "_law_names" s_law_names f_law_names d_law_names
  g_law_names : mg "_law_names" = some (.ref f_law_names)
  b_law_names : Binds K d_law_names ["box", "many"] []
structure Tx2 (K : PySem.W.Frag) (mg : Str → Option Value) (base : Heap) (tb : List (Addr × Str)) where
  f_law_kinds : Addr
  d_law_kinds : FuncData
  F_law_kinds : Fun K "_law_kinds" "_law_kinds" s_law_kinds f_law_kinds d_law_kinds
  g_law_kinds : mg "_law_kinds" = some (.ref f_law_kinds)
  b_law_kinds : Binds K d_law_kinds ["box", "many"] []
  f_law_roads : Addr
  d_law_roads : FuncData
  F_law_roads : Fun K "_law_roads" "_law_roads" s_law_roads f_law_roads d_law_roads
  g_law_roads : mg "_law_roads" = some (.ref f_law_roads)
  b_law_roads : Binds K d_law_roads ["box", "offices"] []
  f_law_what : Addr
  d_law_what : FuncData
  F_law_what : Fun K "_law_what" "_law_what" s_law_what f_law_what d_law_what
  g_law_what : mg "_law_what" = some (.ref f_law_what)
  b_law_what : Binds K d_law_what ["box", "last", "offices", "kinds"] []
  f_law_amounts : Addr
  d_law_amounts : FuncData
  F_law_amounts : Fun K "_law_amounts" "_law_amounts" s_law_amounts f_law_amounts d_law_amounts
  g_law_amounts : mg "_law_amounts" = some (.ref f_law_amounts)
  b_law_amounts : Binds K d_law_amounts ["box", "great"] []
  f_law_records : Addr
  d_law_records : FuncData
  F_law_records : Fun K "_law_records" "_law_records" s_law_records f_law_records d_law_records
  g_law_records : mg "_law_records" = some (.ref f_law_records)
  b_law_records : Binds K d_law_records ["box", "last", "offices", "kinds", "many", "great"] []
  f_law_archive : Addr
  d_law_archive : FuncData
  F_law_archive : Fun K "_law_archive" "_law_archive" s_law_archive f_law_archive d_law_archive
  g_law_archive : mg "_law_archive" = some (.ref f_law_archive)
  b_law_archive : Binds K d_law_archive ["box", "most_days", "most_offices", "most_kinds", "most_records"] []
  f_law_told : Addr
  d_law_told : FuncData
  F_law_told : Fun K "_law_told" "_law_told" s_law_told f_law_told d_law_told
  g_law_told : mg "_law_told" = some (.ref f_law_told)
  b_law_told : Binds K d_law_told ["record"] []
  f_law_record_rows : Addr
  d_law_record_rows : FuncData
  F_law_record_rows : Fun K "_law_record_rows" "_law_record_rows" s_law_record_rows f_law_record_rows d_law_record_rows
  g_law_record_rows : mg "_law_record_rows" = some (.ref f_law_record_rows)
  b_law_record_rows : Binds K d_law_record_rows ["kinds", "record"] []
structure Tx3 (K : PySem.W.Frag) (mg : Str → Option Value) (base : Heap) (tb : List (Addr × Str)) where
  f_law_spot_rows : Addr
  d_law_spot_rows : FuncData
  F_law_spot_rows : Fun K "_law_spot_rows" "_law_spot_rows" s_law_spot_rows f_law_spot_rows d_law_spot_rows
  g_law_spot_rows : mg "_law_spot_rows" = some (.ref f_law_spot_rows)
  b_law_spot_rows : Binds K d_law_spot_rows ["last", "kind", "office", "day"] []
  f_law_moves : Addr
  d_law_moves : FuncData
  F_law_moves : Fun K "_law_moves" "_law_moves" s_law_moves f_law_moves d_law_moves
  g_law_moves : mg "_law_moves" = some (.ref f_law_moves)
  b_law_moves : Binds K d_law_moves ["archive"] []
  f_law_found : Addr
  d_law_found : FuncData
  F_law_found : Fun K "_law_found" "_law_found" s_law_found f_law_found d_law_found
  g_law_found : mg "_law_found" = some (.ref f_law_found)
  b_law_found : Binds K d_law_found ["archive", "name"] []
  f_law : Addr
  d_law : FuncData
  F_law : Fun K "law" "law" s_law f_law d_law
  g_law : mg "law" = some (.ref f_law)
  b_law : Binds K d_law ["script"] []
structure Tx4 (K : PySem.W.Frag) (mg : Str → Option Value) (base : Heap) (tb : List (Addr × Str)) where
  n_int : mg "int" = none
  n_isinstance : mg "isinstance" = none
  n_len : mg "len" = none
  n_list : mg "list" = none
  n_range : mg "range" = none
  n_sorted : mg "sorted" = none
  n_str : mg "str" = none
  n_tuple : mg "tuple" = none
  x_UnknownName : ExcF K mg "UnknownName" "name" "UnknownName.__init__" "name" s_ini_UnknownName
  y_InvalidLine : ClsA K mg "InvalidLine"
  y_NoHistory : ClsA K mg "NoHistory"
  y_TooLarge : ClsA K mg "TooLarge"
  z_UnknownName_InvalidLine : PySem.W.kitOne K (.ref x_UnknownName.c) (.ref y_InvalidLine.c) = some false
  z_UnknownName_NoHistory : PySem.W.kitOne K (.ref x_UnknownName.c) (.ref y_NoHistory.c) = some false
  z_UnknownName_TooLarge : PySem.W.kitOne K (.ref x_UnknownName.c) (.ref y_TooLarge.c) = some false
  nt_K : NtK K goodKey
  c_OUTSIDE : CnD K mg "OUTSIDE" k_OUTSIDE
structure Tx (K : PySem.W.Frag) (mg : Str → Option Value) (base : Heap) (tb : List (Addr × Str)) where
  q0 : Tx0 K mg base tb
  q1 : Tx1 K mg base tb
  q2 : Tx2 K mg base tb
  q3 : Tx3 K mg base tb
  q4 : Tx4 K mg base tb
section
variable {P : Program} {w : World} {K : PySem.W.Frag} {mg : Str → Option Value} {base : Heap}
theorem ok_spans_of (T : Tx K mg base tb) : FnOk P w K mg base CX0 1 T.q0.f_spans_of T.q0.d_spans_of ["kinds"] (liSp K tb sp_spans_of) :=
  Fun.okD T.q0.F_spans_of sc_spans_of (len_spans_of) (t := t_spans_of) (fun cdv A outer s H E F0 R0 hr =>
    (sds_one (sd_ret (pd_dc ddK hr.units keyK_ok rfl sc_spans_of.nd (id_seq (dv 0)) (blkOk_by (own := [("kind", 1)]) (N := n_spans_of) (sc := defScope s_spans_of) (by decide +kernel)) rfl tg_name (by decide) (fun _ _ _ _ _ => (pg_name (i := 1) sc_spans_of.nd rfl (by first | exact Or.inl rfl | exact Or.inr rfl))) (fun _ _ _ _ _ => tsd_nil) (fun _ _ _ _ _ => (pd_ix (dv 1) pd_int (fun _ _ => rfl))) (fun _ _ _ _ _ => (pd_tup (ad_cons (pd_ix (dv 1) pd_int (fun _ _ => rfl)) (ad_cons (pd_ix (dv 1) pd_int (fun _ _ => rfl)) ad_nil)))))))) (rd_spans_of)
theorem ok_places_of (T : Tx K mg base tb) : FnOk P w K mg base CX0 1 T.q0.f_places_of T.q0.d_places_of ["archive"] (liSp K tb sp_places_of) :=
  Fun.okD T.q0.F_places_of sc_places_of (len_places_of) (t := t_places_of) (fun cdv A outer s H E F0 R0 hr =>
    (sds_cons (sd_unp rfl (GNames.cons (pg_name (i := 1) sc_places_of.nd rfl (by first | exact Or.inl rfl | exact Or.inr rfl)) (GNames.cons (pg_name (i := 2) sc_places_of.nd rfl (by first | exact Or.inl rfl | exact Or.inr rfl)) (GNames.cons (pg_name (i := 3) sc_places_of.nd rfl (by first | exact Or.inl rfl | exact Or.inr rfl)) (GNames.cons (pg_name (i := 4) sc_places_of.nd rfl (by first | exact Or.inl rfl | exact Or.inr rfl)) (GNames.cons (pg_name (i := 5) sc_places_of.nd rfl (by first | exact Or.inl rfl | exact Or.inr rfl)) GNames.nil rfl) rfl) rfl) rfl) rfl) (dv 0))
    (sds_cons (sd_set (i := 6) sc_places_of.nd rfl (by first | exact Or.inl rfl | exact Or.inr rfl) (pd_lstM (ad_cons T.q4.c_OUTSIDE.pd ad_nil)))
    (sds_cons (sd_for PassesOwn.never rfl (id_seq (dv 5)) (pg_name (i := 7) sc_places_of.nd rfl (by first | exact Or.inl rfl | exact Or.inr rfl)) tg_name (sds_one (sd_if (td_cmp (od_eq hr.units) (pd_ix (pd_ix (dv 7) pd_int (fun _ _ => rfl)) pd_int (fun _ _ => rfl)) pd_str (nomark _)) (sds_one (sd_expr (pd_append (dv 6) (ad_cons (pd_tup (ad_cons pd_str (ad_cons (pd_ix (dv 7) pd_int (fun _ _ => rfl)) ad_nil))) ad_nil)))) sds_nil)))
    (sds_cons (sd_for PassesOwn.never rfl (id_seq (pd_tup (ad_cons pd_str (ad_cons pd_str ad_nil)))) (pg_name (i := 8) sc_places_of.nd rfl (by first | exact Or.inl rfl | exact Or.inr rfl)) tg_name (sds_one (sd_for PassesOwn.never rfl (id_seq (dv 3)) (pg_name (i := 9) sc_places_of.nd rfl (by first | exact Or.inl rfl | exact Or.inr rfl)) tg_name (sds_one (sd_for PassesOwn.never rfl (id_seq (dv 2)) (pg_name (i := 10) sc_places_of.nd rfl (by first | exact Or.inl rfl | exact Or.inr rfl)) tg_name (sds_one (sd_for PassesOwn.never rfl (id_rng1 (by rfl) T.q4.n_range (ad_cons (pd_op od_add (dv 1) pd_int) ad_nil)) (pg_name (i := 11) sc_places_of.nd rfl (by first | exact Or.inl rfl | exact Or.inr rfl)) tg_name (sds_one (sd_expr (pd_append (dv 6) (ad_cons (pd_tup (ad_cons (dv 8) (ad_cons (pd_ix (dv 9) pd_int (fun _ _ => rfl)) (ad_cons (dv 10) (ad_cons (dv 11) ad_nil))))) ad_nil)))))))))))
    (sds_one (sd_ret (dv 6)))))))) (rd_places_of)
theorem ok_record_moves (T : Tx K mg base tb) : FnOk P w K mg base CX0 2 T.q0.f_record_moves T.q0.d_record_moves ["kinds", "record"] (liSp K tb sp_record_moves) :=
  Fun.okF T.q0.F_record_moves sc_record_moves (len_record_moves) (t := t_record_moves) (fun cdv A outer s H E F0 R0 hr =>
    (sds_cons (sd_par (i := 2) (j := 3) rfl sc_record_moves.nd rfl rfl (by decide) rfl rfl (ad_cons (pd_ix (dv 1) pd_int (fun _ _ => rfl)) (ad_cons (pd_ix (dv 1) pd_int (fun _ _ => rfl)) ad_nil)) rfl)
    (sds_cons (sd_if (td_cmp od_in (pd_ix (dv 3) pd_int (fun _ _ => rfl)) (pd_tup (ad_cons pd_str (ad_cons pd_str (ad_cons pd_str ad_nil)))) rfl) (sds_one (sd_ret (pd_lstM (ad_cons (pd_tup (ad_cons (pd_ix (dv 3) pd_int (fun _ _ => rfl)) (ad_cons (dv 2) ad_nil))) ad_nil)))) sds_nil)
    (sds_cons (sd_if (td_cmp (od_ne hr.units) (pd_ix (dv 3) pd_int (fun _ _ => rfl)) pd_str (nomark _)) (sds_one (sd_ret (pd_lstM ad_nil))) sds_nil)
    (sds_cons (sd_set (i := 4) sc_record_moves.nd rfl (by first | exact Or.inl rfl | exact Or.inr rfl) (pd_call (ok_spans_of T) (hr.mono (by decide)) (by rfl) T.q0.g_spans_of T.q0.F_spans_of.kp T.q0.b_spans_of (ad_cons (dv 0) ad_nil)))
    (sds_cons (sd_set (i := 5) sc_record_moves.nd rfl (by first | exact Or.inl rfl | exact Or.inr rfl) (pd_lstM (ad_cons (pd_tup (ad_cons pd_str (ad_cons (dv 2) ad_nil))) ad_nil)))
    (sds_cons (sd_for PassesOwn.never rfl (id_seq (pd_ix (dv 3) pd_int (fun _ _ => rfl))) (pg_name (i := 6) sc_record_moves.nd rfl (by first | exact Or.inl rfl | exact Or.inr rfl)) tg_name (sds_one (sd_if (td_chain od_le od_le (pd_ix (pd_kget hr.units (dv 4) (dv 6) (fun _ _ => rfl)) pd_int (fun _ _ => rfl)) (pd_ix (dv 3) pd_int (fun _ _ => rfl)) (pd_ix (pd_kget hr.units (dv 4) (dv 6) (fun _ _ => rfl)) pd_int (fun _ _ => rfl))) (sds_one (sd_expr (pd_append (dv 5) (ad_cons (pd_tup (ad_cons pd_str (ad_cons (dv 2) (ad_cons (dv 6) ad_nil)))) ad_nil)))) sds_nil)))
    (sds_one (sd_ret (dv 5)))))))))) (rd_record_moves)
theorem ok_moves_of (T : Tx K mg base tb) : FnOk P w K mg base CX0 3 T.q0.f_moves_of T.q0.d_moves_of ["archive"] (liSp K tb sp_moves_of) :=
  Fun.okD T.q0.F_moves_of sc_moves_of (len_moves_of) (t := t_moves_of) (fun cdv A outer s H E F0 R0 hr =>
    (sds_cons (sd_unp rfl (GNames.cons (pg_name (i := 1) sc_moves_of.nd rfl (by first | exact Or.inl rfl | exact Or.inr rfl)) (GNames.cons (pg_name (i := 2) sc_moves_of.nd rfl (by first | exact Or.inl rfl | exact Or.inr rfl)) (GNames.cons (pg_name (i := 3) sc_moves_of.nd rfl (by first | exact Or.inl rfl | exact Or.inr rfl)) (GNames.cons (pg_name (i := 4) sc_moves_of.nd rfl (by first | exact Or.inl rfl | exact Or.inr rfl)) (GNames.cons (pg_name (i := 5) sc_moves_of.nd rfl (by first | exact Or.inl rfl | exact Or.inr rfl)) GNames.nil rfl) rfl) rfl) rfl) rfl) (dv 0))
    (sds_cons (sd_set (i := 6) sc_moves_of.nd rfl (by first | exact Or.inl rfl | exact Or.inr rfl) (pd_lstM ad_nil))
    (sds_cons (sd_for PassesOwn.never rfl (id_seq (dv 5)) (pg_name (i := 7) sc_moves_of.nd rfl (by first | exact Or.inl rfl | exact Or.inr rfl)) tg_name (sds_one (sd_set (i := 6) sc_moves_of.nd rfl (by first | exact Or.inl rfl | exact Or.inr rfl) (pd_op od_addM (dv 6) (pd_call (ok_record_moves T) (hr.mono (by decide)) (by rfl) T.q0.g_record_moves T.q0.F_record_moves.kp T.q0.b_record_moves (ad_cons (dv 3) (ad_cons (dv 7) ad_nil)))))))
    (sds_cons (sd_for PassesOwn.never rfl (id_seq (dv 3)) (pg_name (i := 8) sc_moves_of.nd rfl (by first | exact Or.inl rfl | exact Or.inr rfl)) tg_name (sds_cons (sd_for PassesOwn.never rfl (id_seq (dv 2)) (pg_name (i := 9) sc_moves_of.nd rfl (by first | exact Or.inl rfl | exact Or.inr rfl)) tg_name (sds_one (sd_for PassesOwn.never rfl (id_rng1 (by rfl) T.q4.n_range (ad_cons (pd_op od_add (dv 1) pd_int) ad_nil)) (pg_name (i := 10) sc_moves_of.nd rfl (by first | exact Or.inl rfl | exact Or.inr rfl)) tg_name (sds_cons (sd_expr (pd_append (dv 6) (ad_cons (pd_tup (ad_cons pd_str (ad_cons (pd_ix (dv 8) pd_int (fun _ _ => rfl)) (ad_cons (dv 9) (ad_cons (dv 10) ad_nil))))) ad_nil)))
    (sds_cons (sd_expr (pd_append (dv 6) (ad_cons (pd_tup (ad_cons pd_str (ad_cons (pd_ix (dv 8) pd_int (fun _ _ => rfl)) (ad_cons (dv 9) (ad_cons (dv 10) ad_nil))))) ad_nil)))
    (sds_cons (sd_expr (pd_append (dv 6) (ad_cons (pd_tup (ad_cons pd_str (ad_cons (pd_ix (dv 8) pd_int (fun _ _ => rfl)) (ad_cons (dv 9) (ad_cons (dv 10) ad_nil))))) ad_nil)))
    (sds_one (sd_if (td_cmp od_lt (dv 10) (dv 1) (nomark _)) (sds_one (sd_expr (pd_append (dv 6) (ad_cons (pd_tup (ad_cons pd_str (ad_cons (pd_ix (dv 8) pd_int (fun _ _ => rfl)) (ad_cons (dv 9) (ad_cons (dv 10) ad_nil))))) ad_nil)))) sds_nil))))))))
    (sds_one (sd_for PassesOwn.never rfl (id_seq (dv 4)) (pg_tup rfl (GNames.cons (pg_name (i := 11) sc_moves_of.nd rfl (by first | exact Or.inl rfl | exact Or.inr rfl)) (GNames.cons (pg_name (i := 12) sc_moves_of.nd rfl (by first | exact Or.inl rfl | exact Or.inr rfl)) (GNames.cons (pg_name (i := 13) sc_moves_of.nd rfl (by first | exact Or.inl rfl | exact Or.inr rfl)) GNames.nil rfl) rfl) rfl).pgs) (tg_of [11, 12, 13]) (sds_one (sd_for PassesOwn.never rfl (id_rng1 (by rfl) T.q4.n_range (ad_cons (pd_op od_sub (pd_op od_add (dv 1) pd_int) (dv 13)) ad_nil)) (pg_name (i := 10) sc_moves_of.nd rfl (by first | exact Or.inl rfl | exact Or.inr rfl)) tg_name (sds_one (sd_expr (pd_append (dv 6) (ad_cons (pd_tup (ad_cons pd_str (ad_cons (pd_ix (dv 8) pd_int (fun _ _ => rfl)) (ad_cons (dv 11) (ad_cons (dv 12) (ad_cons (dv 10) ad_nil)))))) ad_nil))))))))))
    (sds_one (sd_ret (pd_callB (cd_sortedDM hr.units) (by rfl) T.q4.n_sorted (by decide +kernel) (ad_cons (dv 6) ad_nil))))))))) (rd_moves_of)
theorem ok_record_of (T : Tx K mg base tb) : FnOk P w K mg base (L2.CX P w) 3 T.q0.f_record_of T.q0.d_record_of ["archive", "name"] (liSp K tb (sp_record_of ⟨P, w, K, mg, base, tb⟩)) :=
  Fun.okXD T.q0.F_record_of sc_record_of (len_record_of ⟨P, w, K, mg, base, tb⟩) (t := (t_record_of ⟨P, w, K, mg, base, tb⟩)) (fun cdv A outer s H E F0 R0 E2 hr hE tk =>
    (sds_cons (sd_for (passes_of rfl) rfl (id_seq (pd_ix (dv 0) pd_int (fun _ _ => rfl))) (pg_name (i := 2) sc_record_of.nd rfl (by first | exact Or.inl rfl | exact Or.inr rfl)) tg_name (sds_one (sd_if (td_cmp (od_eq hr.units) (pd_ix (dv 2) pd_int (fun _ _ => rfl)) (dv 1) (nomark _)) (sds_one (sd_ret (dv 2))) sds_nil)))
    (sds_one (sd_raiseO (cv := exV ⟨P, w, K, mg, base, tb⟩ "UnknownName") hE rfl tk (exV_of T.q4.x_UnknownName.g) T.q4.x_UnknownName.T T.q4.x_UnknownName.no T.q4.x_UnknownName.iC T.q4.x_UnknownName.tI (ok_ini_UnknownName T.q4.x_UnknownName.F) (hr.mono (by decide)) T.q4.x_UnknownName.b T.q4.x_UnknownName.g (by rfl) (ad_cons (dv 1) ad_nil))))) (rd_record_of ⟨P, w, K, mg, base, tb⟩)
theorem ok_told_move (T : Tx K mg base tb) : FnOk P w K mg base CX0 1 T.q0.f_told_move T.q0.d_told_move ["record"] (liSp K tb sp_told_move) :=
  Fun.okD T.q0.F_told_move sc_told_move (len_told_move) (t := t_told_move) (fun cdv A outer s H E F0 R0 hr =>
    (sds_cons (sd_par (i := 1) (j := 2) rfl sc_told_move.nd rfl rfl (by decide) rfl rfl (ad_cons (pd_ix (dv 0) pd_int (fun _ _ => rfl)) (ad_cons (pd_ix (dv 0) pd_int (fun _ _ => rfl)) ad_nil)) rfl)
    (sds_cons (sd_if (td_cmp od_in (pd_ix (dv 2) pd_int (fun _ _ => rfl)) (pd_tup (ad_cons pd_str (ad_cons pd_str (ad_cons pd_str ad_nil)))) rfl) (sds_one (sd_ret (pd_tup (ad_cons (pd_ix (dv 2) pd_int (fun _ _ => rfl)) (ad_cons (dv 1) ad_nil))))) sds_nil)
    (sds_cons (sd_if (td_cmp (od_eq hr.units) (pd_ix (dv 2) pd_int (fun _ _ => rfl)) pd_str (nomark _)) (sds_one (sd_ret (pd_tup (ad_cons pd_str (ad_cons (dv 1) ad_nil))))) sds_nil)
    (sds_one (sd_ret (dv 2))))))) (rd_told_move)
theorem ok_move_of (T : Tx K mg base tb) : FnOk P w K mg base (L2.CX P w) 4 T.q0.f_move_of T.q0.d_move_of ["archive", "name"] (liSp K tb (sp_move_of ⟨P, w, K, mg, base, tb⟩)) :=
  Fun.okXD T.q0.F_move_of sc_move_of (len_move_of ⟨P, w, K, mg, base, tb⟩) (t := (t_move_of ⟨P, w, K, mg, base, tb⟩)) (fun cdv A outer s H E F0 R0 E2 hr hE tk =>
    (sds_one (sd_ret (pd_call (ok_told_move T) (hr.mono (by decide)) (by rfl) T.q0.g_told_move T.q0.F_told_move.kp T.q0.b_told_move (ad_cons (pd_callX hE (ok_record_of T) (hr.mono (by decide)) (by rfl) T.q0.g_record_of T.q0.F_record_of.kp T.q0.b_record_of (passes_call tk (fun _ _ _ _ h => h)) (ad_cons (dv 0) (ad_cons (dv 1) ad_nil))) ad_nil))))) (rd_move_of ⟨P, w, K, mg, base, tb⟩)
theorem ok_plain_ends (T : Tx K mg base tb) : FnOk P w K mg base CX0 1 T.q1.f_plain_ends T.q1.d_plain_ends ["archive", "move"] (liSp K tb sp_plain_ends) :=
  Fun.okD T.q1.F_plain_ends sc_plain_ends (len_plain_ends) (t := t_plain_ends) (fun cdv A outer s H E F0 R0 hr =>
    (sds_cons (sd_if (td_cmp (od_eq hr.units) (pd_ix (dv 1) pd_int (fun _ _ => rfl)) pd_str (nomark _)) (sds_cons (sd_unp rfl (GNames.cons (pg_name (i := 2) sc_plain_ends.nd rfl (by first | exact Or.inl rfl | exact Or.inr rfl)) (GNames.cons (pg_name (i := 3) sc_plain_ends.nd rfl (by first | exact Or.inl rfl | exact Or.inr rfl)) (GNames.cons (pg_name (i := 4) sc_plain_ends.nd rfl (by first | exact Or.inl rfl | exact Or.inr rfl)) (GNames.cons (pg_name (i := 5) sc_plain_ends.nd rfl (by first | exact Or.inl rfl | exact Or.inr rfl)) (GNames.cons (pg_name (i := 6) sc_plain_ends.nd rfl (by first | exact Or.inl rfl | exact Or.inr rfl)) GNames.nil rfl) rfl) rfl) rfl) rfl) (dv 1))
    (sds_cons (sd_set (i := 7) sc_plain_ends.nd rfl (by first | exact Or.inl rfl | exact Or.inr rfl) (pd_ix (pd_lcG fin_lst rfl sc_plain_ends.nd (id_seq (pd_ix (dv 0) pd_int (fun _ _ => rfl))) (blkOk_by (own := [("road", 8)]) (N := n_plain_ends) (sc := defScope s_plain_ends) (by decide +kernel)) rfl tg_name (by decide) (fun _ _ _ _ _ => (pg_name (i := 8) sc_plain_ends.nd rfl (by first | exact Or.inl rfl | exact Or.inr rfl))) (fun _ _ _ _ _ => (tsd_one (td_cmp (od_eq hr.units) (pd_slice (dv 8) od_none (od_some pd_int)) (pd_tup (ad_cons (dv 4) (ad_cons (dv 5) ad_nil))) (nomark _)))) (fun _ _ _ _ _ => (pd_ix (dv 8) pd_int (fun _ _ => rfl)))) pd_int (fun _ _ => rfl)))
    (sds_one (sd_ret (pd_tup (ad_cons (pd_tup (ad_cons pd_str (ad_cons (dv 3) (ad_cons (dv 4) (ad_cons (dv 6) ad_nil))))) (ad_cons (pd_tup (ad_cons pd_str (ad_cons (dv 3) (ad_cons (dv 5) (ad_cons (pd_op od_add (dv 6) (dv 7)) ad_nil))))) ad_nil))))))) sds_nil)
    (sds_cons (sd_unp rfl (GNames.cons (pg_name (i := 2) sc_plain_ends.nd rfl (by first | exact Or.inl rfl | exact Or.inr rfl)) (GNames.cons (pg_name (i := 3) sc_plain_ends.nd rfl (by first | exact Or.inl rfl | exact Or.inr rfl)) (GNames.cons (pg_name (i := 9) sc_plain_ends.nd rfl (by first | exact Or.inl rfl | exact Or.inr rfl)) (GNames.cons (pg_name (i := 6) sc_plain_ends.nd rfl (by first | exact Or.inl rfl | exact Or.inr rfl)) GNames.nil rfl) rfl) rfl) rfl) (dv 1))
    (sds_cons (sd_if (td_cmp (od_eq hr.units) (dv 2) pd_str (nomark _)) (sds_one (sd_ret (pd_tup (ad_cons (pd_tup (ad_cons pd_str (ad_cons (dv 3) (ad_cons (dv 9) (ad_cons (dv 6) ad_nil))))) (ad_cons T.q4.c_OUTSIDE.pd ad_nil))))) sds_nil)
    (sds_cons (sd_if (td_cmp (od_eq hr.units) (dv 2) pd_str (nomark _)) (sds_one (sd_ret (pd_tup (ad_cons (pd_tup (ad_cons pd_str (ad_cons (dv 3) (ad_cons (dv 9) (ad_cons (dv 6) ad_nil))))) (ad_cons (pd_tup (ad_cons pd_str (ad_cons (dv 3) (ad_cons (dv 9) (ad_cons (pd_op od_add (dv 6) pd_int) ad_nil))))) ad_nil))))) sds_nil)
    (sds_cons (sd_if (td_cmp (od_eq hr.units) (dv 2) pd_str (nomark _)) (sds_one (sd_ret (pd_tup (ad_cons (pd_tup (ad_cons pd_str (ad_cons (dv 3) (ad_cons (dv 9) (ad_cons (dv 6) ad_nil))))) (ad_cons (pd_tup (ad_cons pd_str (ad_cons (dv 3) (ad_cons (dv 9) (ad_cons (dv 6) ad_nil))))) ad_nil))))) sds_nil)
    (sds_cons (sd_if (td_cmp (od_eq hr.units) (dv 6) (pd_ix (dv 0) pd_int (fun _ _ => rfl)) (nomark _)) (sds_one (sd_ret (pd_tup (ad_cons (pd_tup (ad_cons pd_str (ad_cons (dv 3) (ad_cons (dv 9) (ad_cons (dv 6) ad_nil))))) (ad_cons T.q4.c_OUTSIDE.pd ad_nil))))) sds_nil)
    (sds_one (sd_ret (pd_tup (ad_cons (pd_tup (ad_cons pd_str (ad_cons (dv 3) (ad_cons (dv 9) (ad_cons (dv 6) ad_nil))))) (ad_cons (pd_tup (ad_cons pd_str (ad_cons (dv 3) (ad_cons (dv 9) (ad_cons (pd_op od_add (dv 6) pd_int) ad_nil))))) ad_nil)))))))))))) (rd_plain_ends)
theorem ok_record_ends (T : Tx K mg base tb) : FnOk P w K mg base CX0 1 T.q1.f_record_ends T.q1.d_record_ends ["what", "move"] (liSp K tb sp_record_ends) :=
  Fun.okD T.q1.F_record_ends sc_record_ends (len_record_ends) (t := t_record_ends) (fun cdv A outer s H E F0 R0 hr =>
    (sds_cons (sd_if (td_cmp (od_eq hr.units) (pd_ix (dv 1) pd_int (fun _ _ => rfl)) pd_str (nomark _)) (sds_one (sd_ret (pd_tup (ad_cons (pd_tup (ad_cons pd_str (ad_cons (pd_ix (dv 1) pd_int (fun _ _ => rfl)) ad_nil))) (ad_cons T.q4.c_OUTSIDE.pd ad_nil))))) sds_nil)
    (sds_cons (sd_if (td_cmp (od_eq hr.units) (pd_ix (dv 1) pd_int (fun _ _ => rfl)) pd_str (nomark _)) (sds_one (sd_ret (pd_tup (ad_cons (pd_tup (ad_cons pd_str (ad_cons (pd_ix (dv 1) pd_int (fun _ _ => rfl)) (ad_cons (pd_ix (dv 0) pd_int (fun _ _ => rfl)) (ad_cons (pd_ix (dv 0) pd_int (fun _ _ => rfl)) ad_nil))))) (ad_cons (pd_tup (ad_cons pd_str (ad_cons (pd_ix (dv 1) pd_int (fun _ _ => rfl)) ad_nil))) ad_nil))))) sds_nil)
    (sds_cons (sd_set (i := 2) sc_record_ends.nd rfl (by first | exact Or.inl rfl | exact Or.inr rfl) (pd_tup (ad_cons pd_str (ad_cons (pd_ix (dv 0) pd_int (fun _ _ => rfl)) (ad_cons (pd_ix (dv 0) pd_int (fun _ _ => rfl)) (ad_cons (pd_ix (dv 0) pd_int (fun _ _ => rfl)) ad_nil))))))
    (sds_cons (sd_if (td_cmp (od_eq hr.units) (pd_ix (dv 1) pd_int (fun _ _ => rfl)) pd_str (nomark _)) (sds_one (sd_ret (pd_tup (ad_cons T.q4.c_OUTSIDE.pd (ad_cons (dv 2) ad_nil))))) sds_nil)
    (sds_cons (sd_if (td_cmp (od_eq hr.units) (pd_ix (dv 1) pd_int (fun _ _ => rfl)) pd_str (nomark _)) (sds_one (sd_ret (pd_tup (ad_cons (dv 2) (ad_cons T.q4.c_OUTSIDE.pd ad_nil))))) sds_nil)
    (sds_one (sd_ret (pd_tup (ad_cons (dv 2) (ad_cons (pd_tup (ad_cons pd_str (ad_cons (pd_ix (dv 0) pd_int (fun _ _ => rfl)) (ad_cons (pd_ix (dv 0) pd_int (fun _ _ => rfl)) (ad_cons (pd_ix (dv 0) pd_int (fun _ _ => rfl)) ad_nil))))) ad_nil))))))))))) (rd_record_ends)
theorem ok_ends_of (T : Tx K mg base tb) : FnOk P w K mg base (L2.CX P w) 4 T.q0.f_ends_of T.q0.d_ends_of ["archive", "move"] (liSp K tb (sp_ends_of ⟨P, w, K, mg, base, tb⟩)) :=
  Fun.okXD T.q0.F_ends_of sc_ends_of (len_ends_of ⟨P, w, K, mg, base, tb⟩) (t := (t_ends_of ⟨P, w, K, mg, base, tb⟩)) (fun cdv A outer s H E F0 R0 E2 hr hE tk =>
    (sds_cons (sd_if (td_cmp od_in (pd_ix (dv 1) pd_int (fun _ _ => rfl)) (pd_tup (ad_cons pd_str (ad_cons pd_str (ad_cons pd_str (ad_cons pd_str (ad_cons pd_str ad_nil)))))) rfl) (sds_one (sd_ret (pd_call (ok_record_ends T) (hr.mono (by decide)) (by rfl) T.q1.g_record_ends T.q1.F_record_ends.kp T.q1.b_record_ends (ad_cons (pd_ix (pd_callX hE (ok_record_of T) (hr.mono (by decide)) (by rfl) T.q0.g_record_of T.q0.F_record_of.kp T.q0.b_record_of (passes_call tk (fun _ _ _ _ h => h)) (ad_cons (dv 0) (ad_cons (pd_ix (dv 1) pd_int (fun _ _ => rfl)) ad_nil))) pd_int (fun _ _ => rfl)) (ad_cons (dv 1) ad_nil))))) sds_nil)
    (sds_one (sd_ret (pd_call (ok_plain_ends T) (hr.mono (by decide)) (by rfl) T.q1.g_plain_ends T.q1.F_plain_ends.kp T.q1.b_plain_ends (ad_cons (dv 0) (ad_cons (dv 1) ad_nil))))))) (rd_ends_of ⟨P, w, K, mg, base, tb⟩)
theorem ok_law_digits (T : Tx K mg base tb) : FnOk P w K mg base CX0 1 T.q1.f_law_digits T.q1.d_law_digits ["cell", "count"] (liSp K tb sp_law_digits) :=
  Fun.okF T.q1.F_law_digits sc_law_digits (len_law_digits) (t := t_law_digits) (fun cdv A outer s H E F0 R0 hr =>
    (sds_cons (sd_set (i := 2) sc_law_digits.nd rfl (by first | exact Or.inl rfl | exact Or.inr rfl) (dv 0))
    (sds_cons (sd_if (td_cmp od_lt (dv 2) pd_int (nomark _)) (sds_one (sd_set (i := 2) sc_law_digits.nd rfl (by first | exact Or.inl rfl | exact Or.inr rfl) (pd_op od_sub (pd_op od_sub pd_int pd_int) (dv 2)))) sds_nil)
    (sds_cons (sd_set (i := 3) sc_law_digits.nd rfl (by first | exact Or.inl rfl | exact Or.inr rfl) (pd_lstM ad_nil))
    (sds_cons (sd_if (td_cmp od_ge (dv 2) (pd_op od_pow pd_int pd_int) (nomark _)) (sds_cons (sd_for PassesOwn.never rfl (id_rng1 (by rfl) T.q4.n_range (ad_cons (dv 1) ad_nil)) (pg_name (i := 4) sc_law_digits.nd rfl (by first | exact Or.inl rfl | exact Or.inr rfl)) tg_name (sds_cons (sd_expr (pd_append (dv 3) (ad_cons (pd_op od_mod (pd_callTy cd_int (by rfl) T.q4.n_int (by decide +kernel) (ad_cons (dv 2) ad_nil)) pd_int) ad_nil)))
    (sds_cons (sd_set (i := 2) sc_law_digits.nd rfl (by first | exact Or.inl rfl | exact Or.inr rfl) (pd_op od_fdiv (dv 2) pd_int))
    (sds_one (sd_if (td_cmp (od_eq hr.units) (dv 2) pd_int (nomark _)) (sds_one sd_break) sds_nil)))))
    (sds_one (sd_ret (dv 3)))) sds_nil)
    (sds_cons (sd_for PassesOwn.never rfl (id_rng1 (by rfl) T.q4.n_range (ad_cons (dv 1) ad_nil)) (pg_name (i := 4) sc_law_digits.nd rfl (by first | exact Or.inl rfl | exact Or.inr rfl)) tg_name (sds_cons (sd_set (i := 5) sc_law_digits.nd rfl (by first | exact Or.inl rfl | exact Or.inr rfl) (pd_op od_mod (pd_callTy cd_int (by rfl) T.q4.n_int (by decide +kernel) (ad_cons (pd_op od_mul (pd_op od_add (pd_op od_add (dv 2) (pd_op od_mul pd_int (dv 4))) pd_int) pd_int) ad_nil)) pd_int))
    (sds_cons (sd_set (i := 5) sc_law_digits.nd rfl (by first | exact Or.inl rfl | exact Or.inr rfl) (pd_op od_mod (pd_callTy cd_int (by rfl) T.q4.n_int (by decide +kernel) (ad_cons (pd_op od_add (pd_op od_add (pd_op od_mul (dv 5) pd_int) (pd_op od_mul pd_int (dv 4))) pd_int) ad_nil)) pd_int))
    (sds_one (sd_expr (pd_append (dv 3) (ad_cons (pd_op od_mod (pd_callTy cd_int (by rfl) T.q4.n_int (by decide +kernel) (ad_cons (pd_op od_fdiv (dv 5) pd_int) ad_nil)) pd_int) ad_nil)))))))
    (sds_one (sd_ret (dv 3))))))))) (rd_law_digits)
theorem ok_law_box (T : Tx K mg base tb) : FnOk P w K mg base CX0 2 T.q1.f_law_box T.q1.d_law_box ["script"] (liSp K tb sp_law_box) :=
  Fun.okD T.q1.F_law_box sc_law_box (len_law_box) (t := t_law_box) (fun cdv A outer s H E F0 R0 hr =>
    (sds_cons (sd_set (i := 1) sc_law_box.nd rfl (by first | exact Or.inl rfl | exact Or.inr rfl) (pd_lst ad_nil))
    (sds_cons (sd_for PassesOwn.never rfl (id_seq (dv 0)) (pg_name (i := 2) sc_law_box.nd rfl (by first | exact Or.inl rfl | exact Or.inr rfl)) tg_name (sds_one (sd_set (i := 1) sc_law_box.nd rfl (by first | exact Or.inl rfl | exact Or.inr rfl) (pd_op od_add (dv 1) (pd_call (ok_law_digits T) (hr.mono (by decide)) (by rfl) T.q1.g_law_digits T.q1.F_law_digits.kp T.q1.b_law_digits (ad_cons (dv 2) (ad_cons pd_int ad_nil)))))))
    (sds_cons (sd_if (td_cmp (od_eq hr.units) (pd_callB cd_len (by rfl) T.q4.n_len PySem.boot_len (ad_cons (dv 1) ad_nil)) pd_int (nomark _)) (sds_one (sd_set (i := 1) sc_law_box.nd rfl (by first | exact Or.inl rfl | exact Or.inr rfl) (pd_lst (ad_cons pd_int (ad_cons pd_int (ad_cons pd_int (ad_cons pd_int (ad_cons pd_int (ad_cons pd_int (ad_cons pd_int ad_nil)))))))))) sds_nil)
    (sds_one (sd_ret (pd_disp (dps_cons pd_str (dv 1) (dps_cons pd_str pd_int dps_nil))))))))) (rd_law_box)
theorem ok_law_take (T : Tx K mg base tb) : FnOk P w K mg base CX0 1 T.q1.f_law_take T.q1.d_law_take ["box", "many"] (liSp K tb sp_law_take) :=
  Fun.okD T.q1.F_law_take sc_law_take (len_law_take) (t := t_law_take) (fun cdv A outer s H E F0 R0 hr =>
    (sds_cons (sd_set (i := 2) sc_law_take.nd rfl (by first | exact Or.inl rfl | exact Or.inr rfl) (pd_kget hr.units (dv 0) pd_str (fun _ _ => rfl)))
    (sds_cons (sd_dput hr.units (pd_op od_add (dv 2) pd_int) (dv 0) pd_str)
    (sds_cons (sd_set (i := 3) sc_law_take.nd rfl (by first | exact Or.inl rfl | exact Or.inr rfl) (pd_ix (pd_kget hr.units (dv 0) pd_str (fun _ _ => rfl)) (pd_op od_mod (pd_callTy cd_int (by rfl) T.q4.n_int (by decide +kernel) (ad_cons (dv 2) ad_nil)) (pd_callB cd_len (by rfl) T.q4.n_len PySem.boot_len (ad_cons (pd_kget hr.units (dv 0) pd_str (fun _ _ => rfl)) ad_nil))) (fun _ _ => rfl)))
    (sds_one (sd_ret (pd_op od_mod (pd_callTy cd_int (by rfl) T.q4.n_int (by decide +kernel) (ad_cons (pd_op od_add (dv 3) (pd_op od_mul pd_int (pd_op od_fdiv (dv 2) (pd_callB cd_len (by rfl) T.q4.n_len PySem.boot_len (ad_cons (pd_kget hr.units (dv 0) pd_str (fun _ _ => rfl)) ad_nil))))) ad_nil)) (dv 1)))))))) (rd_law_take)
theorem ok_law_pick (T : Tx K mg base tb) : FnOk P w K mg base CX0 2 T.q1.f_law_pick T.q1.d_law_pick ["box", "row"] (liSp K tb sp_law_pick) :=
  Fun.okD T.q1.F_law_pick sc_law_pick (len_law_pick) (t := t_law_pick) (fun cdv A outer s H E F0 R0 hr =>
    (sds_one (sd_ret (pd_ix (dv 1) (pd_call (ok_law_take T) (hr.mono (by decide)) (by rfl) T.q1.g_law_take T.q1.F_law_take.kp T.q1.b_law_take (ad_cons (dv 0) (ad_cons (pd_callB cd_len (by rfl) T.q4.n_len PySem.boot_len (ad_cons (dv 1) ad_nil)) ad_nil))) (fun _ _ => rfl))))) (rd_law_pick)
theorem ok_law_word (T : Tx K mg base tb) : FnOk P w K mg base CX0 2 T.q1.f_law_word T.q1.d_law_word ["box", "size"] (liSp K tb sp_law_word) :=
  Fun.okD T.q1.F_law_word sc_law_word (len_law_word) (t := t_law_word) (fun cdv A outer s H E F0 R0 hr =>
    (sds_one (sd_ret (pd_join pd_str (pd_lcG fin_lst rfl sc_law_word.nd (id_rng1 (by rfl) T.q4.n_range (ad_cons (dv 1) ad_nil)) (blkOk_by (own := [("k", 2)]) (N := n_law_word) (sc := defScope s_law_word) (by decide +kernel)) rfl tg_name (by decide) (fun _ _ _ _ _ => (pg_name (i := 2) sc_law_word.nd rfl (by first | exact Or.inl rfl | exact Or.inr rfl))) (fun _ _ _ _ _ => tsd_nil) (fun _ _ _ _ _ => (pd_ix pd_str (pd_call (ok_law_take T) (hr.mono (by decide)) (by rfl) T.q1.g_law_take T.q1.F_law_take.kp T.q1.b_law_take (ad_cons (dv 0) (ad_cons pd_int ad_nil))) (fun _ _ => rfl)))))))) (rd_law_word)
theorem ok_law_names (T : Tx K mg base tb) : FnOk P w K mg base CX0 3 T.q1.f_law_names T.q1.d_law_names ["box", "many"] (liSp K tb sp_law_names) :=
  Fun.okD T.q1.F_law_names sc_law_names (len_law_names) (t := t_law_names) (fun cdv A outer s H E F0 R0 hr =>
    (sds_cons (sd_set (i := 2) sc_law_names.nd rfl (by first | exact Or.inl rfl | exact Or.inr rfl) (pd_call (ok_law_word T) (hr.mono (by decide)) (by rfl) T.q1.g_law_word T.q1.F_law_word.kp T.q1.b_law_word (ad_cons (dv 0) (ad_cons (pd_call (ok_law_take T) (hr.mono (by decide)) (by rfl) T.q1.g_law_take T.q1.F_law_take.kp T.q1.b_law_take (ad_cons (dv 0) (ad_cons pd_int ad_nil))) ad_nil))))
    (sds_cons (sd_set (i := 3) sc_law_names.nd rfl (by first | exact Or.inl rfl | exact Or.inr rfl) (pd_call (ok_law_take T) (hr.mono (by decide)) (by rfl) T.q1.g_law_take T.q1.F_law_take.kp T.q1.b_law_take (ad_cons (dv 0) (ad_cons (pd_op od_add (pd_callB cd_len (by rfl) T.q4.n_len PySem.boot_len (ad_cons (dv 2) ad_nil)) pd_int) ad_nil))))
    (sds_cons (sd_set (i := 4) sc_law_names.nd rfl (by first | exact Or.inl rfl | exact Or.inr rfl) (pd_call (ok_law_take T) (hr.mono (by decide)) (by rfl) T.q1.g_law_take T.q1.F_law_take.kp T.q1.b_law_take (ad_cons (dv 0) (ad_cons pd_int ad_nil))))
    (sds_cons (sd_set (i := 5) sc_law_names.nd rfl (by first | exact Or.inl rfl | exact Or.inr rfl) (pd_call (ok_law_take T) (hr.mono (by decide)) (by rfl) T.q1.g_law_take T.q1.F_law_take.kp T.q1.b_law_take (ad_cons (dv 0) (ad_cons pd_int ad_nil))))
    (sds_cons (sd_set (i := 6) sc_law_names.nd rfl (by first | exact Or.inl rfl | exact Or.inr rfl) (pd_lstM ad_nil))
    (sds_cons (sd_for PassesOwn.never rfl (id_rng1 (by rfl) T.q4.n_range (ad_cons (dv 1) ad_nil)) (pg_name (i := 7) sc_law_names.nd rfl (by first | exact Or.inl rfl | exact Or.inr rfl)) tg_name (sds_cons (sd_set (i := 8) sc_law_names.nd rfl (by first | exact Or.inl rfl | exact Or.inr rfl) (pd_ix pd_str (pd_op od_mod (pd_callTy cd_int (by rfl) T.q4.n_int (by decide +kernel) (ad_cons (pd_op od_add (dv 4) (pd_op od_mul pd_int (dv 7))) ad_nil)) pd_int) (fun _ _ => rfl)))
    (sds_cons (sd_set (i := 9) sc_law_names.nd rfl (by first | exact Or.inl rfl | exact Or.inr rfl) pd_str)
    (sds_cons (sd_if (td_cmp (od_eq hr.units) (dv 5) pd_int (nomark _)) (sds_one (sd_set (i := 9) sc_law_names.nd rfl (by first | exact Or.inl rfl | exact Or.inr rfl) (pd_call (ok_law_word T) (hr.mono (by decide)) (by rfl) T.q1.g_law_word T.q1.F_law_word.kp T.q1.b_law_word (ad_cons (dv 0) (ad_cons (pd_call (ok_law_take T) (hr.mono (by decide)) (by rfl) T.q1.g_law_take T.q1.F_law_take.kp T.q1.b_law_take (ad_cons (dv 0) (ad_cons pd_int ad_nil))) ad_nil))))) sds_nil)
    (sds_one (sd_expr (pd_append (dv 6) (ad_cons (pd_op od_add (pd_op od_add (pd_op od_add (pd_slice (dv 2) od_none (od_some (dv 3))) (dv 8)) (pd_slice (dv 2) (od_some (dv 3)) od_none)) (dv 9)) ad_nil))))))))
    (sds_one (sd_ret (pd_callB cd_sortedS (by rfl) T.q4.n_sorted (by decide +kernel) (ad_cons (dv 6) ad_nil))))))))))) (rd_law_names)
theorem ok_law_kinds (T : Tx K mg base tb) : FnOk P w K mg base CX0 4 T.q2.f_law_kinds T.q2.d_law_kinds ["box", "many"] (liSp K tb sp_law_kinds) :=
  Fun.okD T.q2.F_law_kinds sc_law_kinds (len_law_kinds) (t := t_law_kinds) (fun cdv A outer s H E F0 R0 hr =>
    (sds_cons (sd_set (i := 2) sc_law_kinds.nd rfl (by first | exact Or.inl rfl | exact Or.inr rfl) (pd_lst (ad_cons (pd_op od_add pd_int (pd_call (ok_law_take T) (hr.mono (by decide)) (by rfl) T.q1.g_law_take T.q1.F_law_take.kp T.q1.b_law_take (ad_cons (dv 0) (ad_cons pd_int ad_nil)))) (ad_cons (pd_op od_add pd_int (pd_call (ok_law_take T) (hr.mono (by decide)) (by rfl) T.q1.g_law_take T.q1.F_law_take.kp T.q1.b_law_take (ad_cons (dv 0) (ad_cons pd_int ad_nil)))) ad_nil))))
    (sds_cons (sd_set (i := 3) sc_law_kinds.nd rfl (by first | exact Or.inl rfl | exact Or.inr rfl) (pd_lstM ad_nil))
    (sds_cons (sd_for PassesOwn.never rfl (id_seq (pd_call (ok_law_names T) (hr.mono (by decide)) (by rfl) T.q1.g_law_names T.q1.F_law_names.kp T.q1.b_law_names (ad_cons (dv 0) (ad_cons (dv 1) ad_nil)))) (pg_name (i := 4) sc_law_kinds.nd rfl (by first | exact Or.inl rfl | exact Or.inr rfl)) tg_name (sds_cons (sd_set (i := 5) sc_law_kinds.nd rfl (by first | exact Or.inl rfl | exact Or.inr rfl) pd_int)
    (sds_cons (sd_set (i := 6) sc_law_kinds.nd rfl (by first | exact Or.inl rfl | exact Or.inr rfl) pd_int)
    (sds_cons (sd_if (td_cmp (od_eq hr.units) (pd_call (ok_law_take T) (hr.mono (by decide)) (by rfl) T.q1.g_law_take T.q1.F_law_take.kp T.q1.b_law_take (ad_cons (dv 0) (ad_cons pd_int ad_nil))) pd_int (nomark _)) (sds_cons (sd_set (i := 5) sc_law_kinds.nd rfl (by first | exact Or.inl rfl | exact Or.inr rfl) (pd_call (ok_law_take T) (hr.mono (by decide)) (by rfl) T.q1.g_law_take T.q1.F_law_take.kp T.q1.b_law_take (ad_cons (dv 0) (ad_cons pd_int ad_nil))))
    (sds_one (sd_set (i := 6) sc_law_kinds.nd rfl (by first | exact Or.inl rfl | exact Or.inr rfl) (pd_op od_add (dv 5) (pd_call (ok_law_take T) (hr.mono (by decide)) (by rfl) T.q1.g_law_take T.q1.F_law_take.kp T.q1.b_law_take (ad_cons (dv 0) (ad_cons pd_int ad_nil))))))) sds_nil)
    (sds_one (sd_expr (pd_append (dv 3) (ad_cons (pd_tup (ad_cons (dv 4) (ad_cons (pd_ix (dv 2) (pd_callTy cd_int (by rfl) T.q4.n_int (by decide +kernel) (ad_cons (pd_cmp od_gt (pd_call (ok_law_take T) (hr.mono (by decide)) (by rfl) T.q1.g_law_take T.q1.F_law_take.kp T.q1.b_law_take (ad_cons (dv 0) (ad_cons pd_int ad_nil))) pd_int (nomark _)) ad_nil)) (fun _ _ => rfl)) (ad_cons (dv 5) (ad_cons (dv 6) ad_nil))))) ad_nil))))))))
    (sds_one (sd_ret (pd_callTy cd_tuple (by rfl) T.q4.n_tuple (by decide +kernel) (ad_cons (dv 3) ad_nil)))))))) (rd_law_kinds)
theorem ok_law_roads (T : Tx K mg base tb) : FnOk P w K mg base CX0 3 T.q2.f_law_roads T.q2.d_law_roads ["box", "offices"] (liSp K tb sp_law_roads) :=
  Fun.okD T.q2.F_law_roads sc_law_roads (len_law_roads) (t := t_law_roads) (fun cdv A outer s H E F0 R0 hr =>
    (sds_cons (sd_set (i := 2) sc_law_roads.nd rfl (by first | exact Or.inl rfl | exact Or.inr rfl) (pd_lstM ad_nil))
    (sds_cons (sd_for PassesOwn.never rfl (id_seq (dv 1)) (pg_name (i := 3) sc_law_roads.nd rfl (by first | exact Or.inl rfl | exact Or.inr rfl)) tg_name (sds_one (sd_for PassesOwn.never rfl (id_seq (dv 1)) (pg_name (i := 4) sc_law_roads.nd rfl (by first | exact Or.inl rfl | exact Or.inr rfl)) tg_name (sds_one (sd_if (PW.pt (wd_and (td_cmp (od_ne hr.units) (dv 3) (dv 4) (nomark _)) (wd_and1 (td_cmp od_gt (pd_call (ok_law_take T) (hr.mono (by decide)) (by rfl) T.q1.g_law_take T.q1.F_law_take.kp T.q1.b_law_take (ad_cons (dv 0) (ad_cons pd_int ad_nil))) pd_int (nomark _))))) (sds_one (sd_expr (pd_append (dv 2) (ad_cons (pd_tup (ad_cons (dv 3) (ad_cons (dv 4) (ad_cons (pd_call (ok_law_pick T) (hr.mono (by decide)) (by rfl) T.q1.g_law_pick T.q1.F_law_pick.kp T.q1.b_law_pick (ad_cons (dv 0) (ad_cons (pd_lst (ad_cons pd_int (ad_cons pd_int (ad_cons pd_int (ad_cons pd_int ad_nil))))) ad_nil))) ad_nil)))) ad_nil)))) sds_nil)))))
    (sds_one (sd_ret (pd_callTy cd_tuple (by rfl) T.q4.n_tuple (by decide +kernel) (ad_cons (dv 2) ad_nil))))))) (rd_law_roads)
theorem ok_law_what (T : Tx K mg base tb) : FnOk P w K mg base CX0 3 T.q2.f_law_what T.q2.d_law_what ["box", "last", "offices", "kinds"] (liSp K tb sp_law_what) :=
  Fun.okD T.q2.F_law_what sc_law_what (len_law_what) (t := t_law_what) (fun cdv A outer s H E F0 R0 hr =>
    (sds_cons (sd_set (i := 4) sc_law_what.nd rfl (by first | exact Or.inl rfl | exact Or.inr rfl) (pd_call (ok_law_pick T) (hr.mono (by decide)) (by rfl) T.q1.g_law_pick T.q1.F_law_pick.kp T.q1.b_law_pick (ad_cons (dv 0) (ad_cons (pd_lst (ad_cons pd_str (ad_cons pd_str (ad_cons pd_str (ad_cons pd_str (ad_cons pd_str (ad_cons pd_str (ad_cons pd_str (ad_cons pd_str (ad_cons pd_str ad_nil)))))))))) ad_nil))))
    (sds_cons (sd_set (i := 5) sc_law_what.nd rfl (by first | exact Or.inl rfl | exact Or.inr rfl) (pd_call (ok_law_pick T) (hr.mono (by decide)) (by rfl) T.q1.g_law_pick T.q1.F_law_pick.kp T.q1.b_law_pick (ad_cons (dv 0) (ad_cons (dv 3) ad_nil))))
    (sds_cons (sd_set (i := 6) sc_law_what.nd rfl (by first | exact Or.inl rfl | exact Or.inr rfl) (pd_call (ok_law_pick T) (hr.mono (by decide)) (by rfl) T.q1.g_law_pick T.q1.F_law_pick.kp T.q1.b_law_pick (ad_cons (dv 0) (ad_cons (dv 2) ad_nil))))
    (sds_cons (sd_set (i := 7) sc_law_what.nd rfl (by first | exact Or.inl rfl | exact Or.inr rfl) (pd_call (ok_law_take T) (hr.mono (by decide)) (by rfl) T.q1.g_law_take T.q1.F_law_take.kp T.q1.b_law_take (ad_cons (dv 0) (ad_cons (pd_op od_add (dv 1) pd_int) ad_nil))))
    (sds_cons (sd_if (td_cmp (od_eq hr.units) (dv 4) pd_str (nomark _)) (sds_cons (sd_setLcG (i := 8) fin_lst rfl sc_law_what.nd rfl rfl (sw_true rfl rfl rfl (by decide +kernel)) (id_seq (dv 3)) (blkOk_by (own := [("other", 9)]) (N := n_law_what) (sc := defScope s_law_what) (by decide +kernel)) rfl tg_name (by decide) (fun _ _ _ _ _ => (pg_name (i := 9) sc_law_what.nd rfl (by first | exact Or.inl rfl | exact Or.inr rfl))) (fun _ _ _ _ _ => (tsd_one (td_cmp (od_eq hr.units) (pd_ix (dv 9) pd_int (fun _ _ => rfl)) (pd_ix (dv 5) pd_int (fun _ _ => rfl)) (nomark _)))) (fun _ _ _ _ _ => (pd_ix (dv 9) pd_int (fun _ _ => rfl))))
    (sds_cons (sd_if (td_cmp (od_eq hr.units) (pd_call (ok_law_take T) (hr.mono (by decide)) (by rfl) T.q1.g_law_take T.q1.F_law_take.kp T.q1.b_law_take (ad_cons (dv 0) (ad_cons pd_int ad_nil))) pd_int (nomark _)) (sds_one (sd_set (i := 8) sc_law_what.nd rfl (by first | exact Or.inl rfl | exact Or.inr rfl) (pd_lst (ad_cons (pd_ix (dv 5) pd_int (fun _ _ => rfl)) ad_nil)))) sds_nil)
    (sds_one (sd_ret (pd_tup (ad_cons pd_str (ad_cons (pd_callTy cd_tuple (by rfl) T.q4.n_tuple (by decide +kernel) (ad_cons (dv 8) ad_nil)) (ad_cons (dv 6) (ad_cons (dv 7) ad_nil))))))))) sds_nil)
    (sds_cons (sd_if (td_cmp (od_eq hr.units) (dv 4) pd_str (nomark _)) (sds_cons (sd_setLcG (i := 10) fin_lst rfl sc_law_what.nd rfl rfl (sw_true rfl rfl rfl (by decide +kernel)) (id_seq (dv 2)) (blkOk_by (own := [("other", 9)]) (N := n_law_what) (sc := defScope s_law_what) (by decide +kernel)) rfl tg_name (by decide) (fun _ _ _ _ _ => (pg_name (i := 9) sc_law_what.nd rfl (by first | exact Or.inl rfl | exact Or.inr rfl))) (fun _ _ _ _ _ => (tsd_one (td_cmp (od_ne hr.units) (dv 9) (dv 6) (nomark _)))) (fun _ _ _ _ _ => (dv 9)))
    (sds_cons (sd_if (PW.pt (wd_and (td_cmp od_gt (pd_callB cd_len (by rfl) T.q4.n_len PySem.boot_len (ad_cons (dv 10) ad_nil)) pd_int (nomark _)) (wd_and1 (td_cmp od_gt (dv 1) pd_int (nomark _))))) (sds_cons (sd_set (i := 7) sc_law_what.nd rfl (by first | exact Or.inl rfl | exact Or.inr rfl) (pd_call (ok_law_take T) (hr.mono (by decide)) (by rfl) T.q1.g_law_take T.q1.F_law_take.kp T.q1.b_law_take (ad_cons (dv 0) (ad_cons (dv 1) ad_nil))))
    (sds_one (sd_ret (pd_tup (ad_cons pd_str (ad_cons (pd_ix (dv 5) pd_int (fun _ _ => rfl)) (ad_cons (dv 6) (ad_cons (dv 7) (ad_cons (pd_call (ok_law_pick T) (hr.mono (by decide)) (by rfl) T.q1.g_law_pick T.q1.F_law_pick.kp T.q1.b_law_pick (ad_cons (dv 0) (ad_cons (dv 10) ad_nil))) (ad_cons (pd_op od_add (pd_op od_add (dv 7) pd_int) (pd_call (ok_law_take T) (hr.mono (by decide)) (by rfl) T.q1.g_law_take T.q1.F_law_take.kp T.q1.b_law_take (ad_cons (dv 0) (ad_cons (pd_op od_sub (dv 1) (dv 7)) ad_nil)))) ad_nil)))))))))) sds_nil)
    (sds_one (sd_set (i := 4) sc_law_what.nd rfl (by first | exact Or.inl rfl | exact Or.inr rfl) pd_str)))) sds_nil)
    (sds_one (sd_ret (pd_tup (ad_cons (dv 4) (ad_cons (pd_ix (dv 5) pd_int (fun _ _ => rfl)) (ad_cons (dv 6) (ad_cons (dv 7) ad_nil)))))))))))))) (rd_law_what)
theorem ok_law_amounts (T : Tx K mg base tb) : FnOk P w K mg base CX0 3 T.q2.f_law_amounts T.q2.d_law_amounts ["box", "great"] (liSp K tb sp_law_amounts) :=
  Fun.okD T.q2.F_law_amounts sc_law_amounts (len_law_amounts) (t := t_law_amounts) (fun cdv A outer s H E F0 R0 hr =>
    (sds_cons (sd_set (i := 2) sc_law_amounts.nd rfl (by first | exact Or.inl rfl | exact Or.inr rfl) (pd_call (ok_law_take T) (hr.mono (by decide)) (by rfl) T.q1.g_law_take T.q1.F_law_take.kp T.q1.b_law_take (ad_cons (dv 0) (ad_cons pd_int ad_nil))))
    (sds_cons (sd_if (td_tru (dv 1)) (sds_one (sd_set (i := 2) sc_law_amounts.nd rfl (by first | exact Or.inl rfl | exact Or.inr rfl) (pd_op od_mod (pd_op od_mul (pd_call (ok_law_take T) (hr.mono (by decide)) (by rfl) T.q1.g_law_take T.q1.F_law_take.kp T.q1.b_law_take (ad_cons (dv 0) (ad_cons pd_int ad_nil))) (pd_call (ok_law_take T) (hr.mono (by decide)) (by rfl) T.q1.g_law_take T.q1.F_law_take.kp T.q1.b_law_take (ad_cons (dv 0) (ad_cons pd_int ad_nil)))) pd_int))) sds_nil)
    (sds_cons (sd_set (i := 3) sc_law_amounts.nd rfl (by first | exact Or.inl rfl | exact Or.inr rfl) (pd_call (ok_law_pick T) (hr.mono (by decide)) (by rfl) T.q1.g_law_pick T.q1.F_law_pick.kp T.q1.b_law_pick (ad_cons (dv 0) (ad_cons (pd_lst (ad_cons pd_non (ad_cons (dv 2) (ad_cons (dv 2) (ad_cons (pd_op od_add (dv 2) (pd_call (ok_law_take T) (hr.mono (by decide)) (by rfl) T.q1.g_law_take T.q1.F_law_take.kp T.q1.b_law_take (ad_cons (dv 0) (ad_cons pd_int ad_nil)))) ad_nil))))) ad_nil))))
    (sds_cons (sd_if (PW.pt (wd_and (td_cmp od_notN (dv 3) pd_non (nomark _)) (wd_and1 (td_cmp od_gt (dv 3) (pd_op od_pow pd_int pd_int) (nomark _))))) (sds_one (sd_set (i := 3) sc_law_amounts.nd rfl (by first | exact Or.inl rfl | exact Or.inr rfl) (pd_op od_pow pd_int pd_int))) sds_nil)
    (sds_cons (sd_set (i := 4) sc_law_amounts.nd rfl (by first | exact Or.inl rfl | exact Or.inr rfl) (pd_call (ok_law_pick T) (hr.mono (by decide)) (by rfl) T.q1.g_law_pick T.q1.F_law_pick.kp T.q1.b_law_pick (ad_cons (dv 0) (ad_cons (pd_lst (ad_cons pd_non (ad_cons pd_int (ad_cons (pd_op od_add pd_int (pd_call (ok_law_take T) (hr.mono (by decide)) (by rfl) T.q1.g_law_take T.q1.F_law_take.kp T.q1.b_law_take (ad_cons (dv 0) (ad_cons pd_int ad_nil)))) (ad_cons (pd_op od_add pd_int (pd_call (ok_law_take T) (hr.mono (by decide)) (by rfl) T.q1.g_law_take T.q1.F_law_take.kp T.q1.b_law_take (ad_cons (dv 0) (ad_cons pd_int ad_nil)))) (ad_cons pd_int ad_nil)))))) ad_nil))))
    (sds_one (sd_ret (pd_tup (ad_cons (dv 2) (ad_cons (dv 3) (ad_cons (dv 4) ad_nil)))))))))))) (rd_law_amounts)
theorem ok_law_records (T : Tx K mg base tb) : FnOk P w K mg base CX0 4 T.q2.f_law_records T.q2.d_law_records ["box", "last", "offices", "kinds", "many", "great"] (liSp K tb sp_law_records) :=
  Fun.okD T.q2.F_law_records sc_law_records (len_law_records) (t := t_law_records) (fun cdv A outer s H E F0 R0 hr =>
    (sds_cons (sd_set (i := 6) sc_law_records.nd rfl (by first | exact Or.inl rfl | exact Or.inr rfl) (pd_lstM ad_nil))
    (sds_cons (sd_for PassesOwn.never rfl (id_seq (pd_call (ok_law_names T) (hr.mono (by decide)) (by rfl) T.q1.g_law_names T.q1.F_law_names.kp T.q1.b_law_names (ad_cons (dv 0) (ad_cons (dv 4) ad_nil)))) (pg_name (i := 7) sc_law_records.nd rfl (by first | exact Or.inl rfl | exact Or.inr rfl)) tg_name (sds_cons (sd_if (td_cmp (od_eq hr.units) (pd_call (ok_law_take T) (hr.mono (by decide)) (by rfl) T.q1.g_law_take T.q1.F_law_take.kp T.q1.b_law_take (ad_cons (dv 0) (ad_cons pd_int ad_nil))) pd_int (nomark _)) (sds_one (sd_set (i := 7) sc_law_records.nd rfl (by first | exact Or.inl rfl | exact Or.inr rfl) (pd_op od_add (pd_op od_add (dv 7) pd_str) (pd_callTy cd_strI (by rfl) T.q4.n_str (by decide +kernel) (ad_cons (pd_call (ok_law_take T) (hr.mono (by decide)) (by rfl) T.q1.g_law_take T.q1.F_law_take.kp T.q1.b_law_take (ad_cons (dv 0) (ad_cons pd_int ad_nil))) ad_nil))))) sds_nil)
    (sds_cons (sd_unp rfl (GNames.cons (pg_name (i := 8) sc_law_records.nd rfl (by first | exact Or.inl rfl | exact Or.inr rfl)) (GNames.cons (pg_name (i := 9) sc_law_records.nd rfl (by first | exact Or.inl rfl | exact Or.inr rfl)) (GNames.cons (pg_name (i := 10) sc_law_records.nd rfl (by first | exact Or.inl rfl | exact Or.inr rfl)) GNames.nil rfl) rfl) rfl) (pd_call (ok_law_amounts T) (hr.mono (by decide)) (by rfl) T.q2.g_law_amounts T.q2.F_law_amounts.kp T.q2.b_law_amounts (ad_cons (dv 0) (ad_cons (dv 5) ad_nil))))
    (sds_one (sd_expr (pd_append (dv 6) (ad_cons (pd_tup (ad_cons (dv 7) (ad_cons (pd_call (ok_law_what T) (hr.mono (by decide)) (by rfl) T.q2.g_law_what T.q2.F_law_what.kp T.q2.b_law_what (ad_cons (dv 0) (ad_cons (dv 1) (ad_cons (dv 2) (ad_cons (dv 3) ad_nil))))) (ad_cons (dv 8) (ad_cons (dv 9) (ad_cons (dv 10) ad_nil)))))) ad_nil)))))))
    (sds_one (sd_ret (pd_callTy cd_tuple (by rfl) T.q4.n_tuple (by decide +kernel) (ad_cons (pd_callB (cd_sortedD hr.units) (by rfl) T.q4.n_sorted (by decide +kernel) (ad_cons (dv 6) ad_nil)) ad_nil))))))) (rd_law_records)
theorem ok_law_archive (T : Tx K mg base tb) : FnOk P w K mg base CX0 5 T.q2.f_law_archive T.q2.d_law_archive ["box", "most_days", "most_offices", "most_kinds", "most_records"] (liSp K tb sp_law_archive) :=
  Fun.okD T.q2.F_law_archive sc_law_archive (len_law_archive) (t := t_law_archive) (fun cdv A outer s H E F0 R0 hr =>
    (sds_cons (sd_set (i := 5) sc_law_archive.nd rfl (by first | exact Or.inl rfl | exact Or.inr rfl) (pd_call (ok_law_take T) (hr.mono (by decide)) (by rfl) T.q1.g_law_take T.q1.F_law_take.kp T.q1.b_law_take (ad_cons (dv 0) (ad_cons (dv 1) ad_nil))))
    (sds_cons (sd_set (i := 6) sc_law_archive.nd rfl (by first | exact Or.inl rfl | exact Or.inr rfl) (pd_callTy cd_tuple (by rfl) T.q4.n_tuple (by decide +kernel) (ad_cons (pd_call (ok_law_names T) (hr.mono (by decide)) (by rfl) T.q1.g_law_names T.q1.F_law_names.kp T.q1.b_law_names (ad_cons (dv 0) (ad_cons (pd_op od_add pd_int (pd_call (ok_law_take T) (hr.mono (by decide)) (by rfl) T.q1.g_law_take T.q1.F_law_take.kp T.q1.b_law_take (ad_cons (dv 0) (ad_cons (dv 2) ad_nil)))) ad_nil))) ad_nil)))
    (sds_cons (sd_set (i := 7) sc_law_archive.nd rfl (by first | exact Or.inl rfl | exact Or.inr rfl) (pd_call (ok_law_kinds T) (hr.mono (by decide)) (by rfl) T.q2.g_law_kinds T.q2.F_law_kinds.kp T.q2.b_law_kinds (ad_cons (dv 0) (ad_cons (pd_op od_add pd_int (pd_call (ok_law_take T) (hr.mono (by decide)) (by rfl) T.q1.g_law_take T.q1.F_law_take.kp T.q1.b_law_take (ad_cons (dv 0) (ad_cons (dv 3) ad_nil)))) ad_nil))))
    (sds_cons (sd_set (i := 8) sc_law_archive.nd rfl (by first | exact Or.inl rfl | exact Or.inr rfl) (pd_cmp (od_eq hr.units) (pd_call (ok_law_take T) (hr.mono (by decide)) (by rfl) T.q1.g_law_take T.q1.F_law_take.kp T.q1.b_law_take (ad_cons (dv 0) (ad_cons pd_int ad_nil))) pd_int (nomark _)))
    (sds_cons (sd_set (i := 9) sc_law_archive.nd rfl (by first | exact Or.inl rfl | exact Or.inr rfl) (pd_call (ok_law_records T) (hr.mono (by decide)) (by rfl) T.q2.g_law_records T.q2.F_law_records.kp T.q2.b_law_records (ad_cons (dv 0) (ad_cons (dv 5) (ad_cons (dv 6) (ad_cons (dv 7) (ad_cons (pd_call (ok_law_take T) (hr.mono (by decide)) (by rfl) T.q1.g_law_take T.q1.F_law_take.kp T.q1.b_law_take (ad_cons (dv 0) (ad_cons (pd_op od_add (dv 4) pd_int) ad_nil))) (ad_cons (dv 8) ad_nil))))))))
    (sds_one (sd_ret (pd_tup (ad_cons (dv 5) (ad_cons (dv 6) (ad_cons (dv 7) (ad_cons (pd_call (ok_law_roads T) (hr.mono (by decide)) (by rfl) T.q2.g_law_roads T.q2.F_law_roads.kp T.q2.b_law_roads (ad_cons (dv 0) (ad_cons (dv 6) ad_nil))) (ad_cons (dv 9) ad_nil)))))))))))))) (rd_law_archive)
theorem ok_law_told (T : Tx K mg base tb) : FnOk P w K mg base CX0 1 T.q2.f_law_told T.q2.d_law_told ["record"] (liSp K tb sp_law_told) :=
  Fun.okD T.q2.F_law_told sc_law_told (len_law_told) (t := t_law_told) (fun cdv A outer s H E F0 R0 hr =>
    (sds_cons (sd_unp rfl (GNames.cons (pg_name (i := 1) sc_law_told.nd rfl (by first | exact Or.inl rfl | exact Or.inr rfl)) (GNames.cons (pg_name (i := 2) sc_law_told.nd rfl (by first | exact Or.inl rfl | exact Or.inr rfl)) (GNames.cons (pg_name (i := 3) sc_law_told.nd rfl (by first | exact Or.inl rfl | exact Or.inr rfl)) (GNames.cons (pg_name (i := 4) sc_law_told.nd rfl (by first | exact Or.inl rfl | exact Or.inr rfl)) (GNames.cons (pg_name (i := 5) sc_law_told.nd rfl (by first | exact Or.inl rfl | exact Or.inr rfl)) GNames.nil rfl) rfl) rfl) rfl) rfl) (dv 0))
    (sds_cons (sd_if (td_cmp od_in (pd_ix (dv 2) pd_int (fun _ _ => rfl)) (pd_tup (ad_cons pd_str (ad_cons pd_str (ad_cons pd_str ad_nil)))) rfl) (sds_one (sd_ret (pd_tup (ad_cons (pd_ix (dv 2) pd_int (fun _ _ => rfl)) (ad_cons (dv 1) ad_nil))))) sds_nil)
    (sds_cons (sd_if (td_cmp (od_eq hr.units) (pd_ix (dv 2) pd_int (fun _ _ => rfl)) pd_str (nomark _)) (sds_one (sd_ret (pd_tup (ad_cons pd_str (ad_cons (dv 1) ad_nil))))) sds_nil)
    (sds_one (sd_ret (dv 2))))))) (rd_law_told)
theorem ok_law_record_rows (T : Tx K mg base tb) : FnOk P w K mg base CX0 1 T.q2.f_law_record_rows T.q2.d_law_record_rows ["kinds", "record"] (liSp K tb sp_law_record_rows) :=
  Fun.okF T.q2.F_law_record_rows sc_law_record_rows (len_law_record_rows) (t := t_law_record_rows) (fun cdv A outer s H E F0 R0 hr =>
    (sds_cons (sd_unp rfl (GNames.cons (pg_name (i := 2) sc_law_record_rows.nd rfl (by first | exact Or.inl rfl | exact Or.inr rfl)) (GNames.cons (pg_name (i := 3) sc_law_record_rows.nd rfl (by first | exact Or.inl rfl | exact Or.inr rfl)) (GNames.cons (pg_name (i := 4) sc_law_record_rows.nd rfl (by first | exact Or.inl rfl | exact Or.inr rfl)) (GNames.cons (pg_name (i := 5) sc_law_record_rows.nd rfl (by first | exact Or.inl rfl | exact Or.inr rfl)) (GNames.cons (pg_name (i := 6) sc_law_record_rows.nd rfl (by first | exact Or.inl rfl | exact Or.inr rfl)) GNames.nil rfl) rfl) rfl) rfl) rfl) (dv 1))
    (sds_cons (sd_set (i := 7) sc_law_record_rows.nd rfl (by first | exact Or.inl rfl | exact Or.inr rfl) (pd_tup (ad_cons pd_str ad_nil)))
    (sds_cons (sd_if (td_cmp od_in (pd_ix (dv 3) pd_int (fun _ _ => rfl)) (pd_tup (ad_cons pd_str (ad_cons pd_str ad_nil))) rfl) (sds_one (sd_ret (pd_lstM ad_nil))) sds_nil)
    (sds_cons (sd_if (td_cmp (od_eq hr.units) (pd_ix (dv 3) pd_int (fun _ _ => rfl)) pd_str (nomark _)) (sds_cons (sd_set (i := 8) sc_law_record_rows.nd rfl (by first | exact Or.inl rfl | exact Or.inr rfl) (pd_lstM (ad_cons (pd_tup (ad_cons (pd_tup (ad_cons pd_str (ad_cons (dv 2) ad_nil))) (ad_cons (pd_tup (ad_cons pd_str (ad_cons (dv 2) ad_nil))) (ad_cons (dv 7) ad_nil)))) ad_nil)))
    (sds_cons (sd_for PassesOwn.never rfl (id_seq (dv 0)) (pg_name (i := 9) sc_law_record_rows.nd rfl (by first | exact Or.inl rfl | exact Or.inr rfl)) tg_name (sds_one (sd_if (PW.pt (wd_and (td_cmp od_in (pd_ix (dv 9) pd_int (fun _ _ => rfl)) (pd_ix (dv 3) pd_int (fun _ _ => rfl)) rfl) (wd_and (td_cmp od_le (pd_ix (dv 9) pd_int (fun _ _ => rfl)) (pd_ix (dv 3) pd_int (fun _ _ => rfl)) (nomark _)) (wd_and1 (td_cmp od_le (pd_ix (dv 3) pd_int (fun _ _ => rfl)) (pd_ix (dv 9) pd_int (fun _ _ => rfl)) (nomark _)))))) (sds_one (sd_expr (pd_append (dv 8) (ad_cons (pd_tup (ad_cons (pd_tup (ad_cons pd_str (ad_cons (dv 2) (ad_cons (pd_ix (dv 9) pd_int (fun _ _ => rfl)) ad_nil)))) (ad_cons (pd_tup (ad_cons pd_str (ad_cons (pd_ix (dv 9) pd_int (fun _ _ => rfl)) (ad_cons (pd_ix (dv 3) pd_int (fun _ _ => rfl)) (ad_cons (pd_ix (dv 3) pd_int (fun _ _ => rfl)) ad_nil))))) (ad_cons (pd_tup (ad_cons pd_str (ad_cons (dv 2) ad_nil))) ad_nil)))) ad_nil)))) sds_nil)))
    (sds_one (sd_ret (dv 8))))) sds_nil)
    (sds_cons (sd_set (i := 10) sc_law_record_rows.nd rfl (by first | exact Or.inl rfl | exact Or.inr rfl) (pd_tup (ad_cons pd_str (ad_cons (pd_ix (dv 3) pd_int (fun _ _ => rfl)) (ad_cons (pd_ix (dv 3) pd_int (fun _ _ => rfl)) (ad_cons (pd_ix (dv 3) pd_int (fun _ _ => rfl)) ad_nil))))))
    (sds_cons (sd_if (td_cmp (od_eq hr.units) (pd_ix (dv 3) pd_int (fun _ _ => rfl)) pd_str (nomark _)) (sds_one (sd_ret (pd_lstM (ad_cons (pd_tup (ad_cons (pd_tup (ad_cons pd_str (ad_cons (dv 2) ad_nil))) (ad_cons (dv 7) (ad_cons (dv 10) ad_nil)))) ad_nil)))) sds_nil)
    (sds_cons (sd_if (td_cmp (od_eq hr.units) (pd_ix (dv 3) pd_int (fun _ _ => rfl)) pd_str (nomark _)) (sds_one (sd_ret (pd_lstM (ad_cons (pd_tup (ad_cons (pd_tup (ad_cons pd_str (ad_cons (dv 2) ad_nil))) (ad_cons (dv 10) (ad_cons (dv 7) ad_nil)))) ad_nil)))) sds_nil)
    (sds_one (sd_ret (pd_lstM (ad_cons (pd_tup (ad_cons (pd_tup (ad_cons pd_str (ad_cons (dv 2) ad_nil))) (ad_cons (dv 10) (ad_cons (pd_tup (ad_cons pd_str (ad_cons (pd_ix (dv 3) pd_int (fun _ _ => rfl)) (ad_cons (pd_ix (dv 3) pd_int (fun _ _ => rfl)) (ad_cons (pd_ix (dv 3) pd_int (fun _ _ => rfl)) ad_nil))))) ad_nil)))) ad_nil)))))))))))) (rd_law_record_rows)
theorem ok_law_spot_rows (T : Tx K mg base tb) : FnOk P w K mg base CX0 1 T.q3.f_law_spot_rows T.q3.d_law_spot_rows ["last", "kind", "office", "day"] (liSp K tb sp_law_spot_rows) :=
  Fun.okF T.q3.F_law_spot_rows sc_law_spot_rows (len_law_spot_rows) (t := t_law_spot_rows) (fun cdv A outer s H E F0 R0 hr =>
    (sds_cons (sd_set (i := 4) sc_law_spot_rows.nd rfl (by first | exact Or.inl rfl | exact Or.inr rfl) (pd_tup (ad_cons pd_str (ad_cons (dv 1) (ad_cons (dv 2) (ad_cons (dv 3) ad_nil))))))
    (sds_cons (sd_set (i := 5) sc_law_spot_rows.nd rfl (by first | exact Or.inl rfl | exact Or.inr rfl) (pd_tup (ad_cons pd_str (ad_cons (dv 1) (ad_cons (dv 2) (ad_cons (dv 3) ad_nil))))))
    (sds_cons (sd_set (i := 6) sc_law_spot_rows.nd rfl (by first | exact Or.inl rfl | exact Or.inr rfl) (pd_lstM (ad_cons (pd_tup (ad_cons (pd_tup (ad_cons pd_str (ad_cons (dv 1) (ad_cons (dv 2) (ad_cons (dv 3) ad_nil))))) (ad_cons (dv 4) (ad_cons (dv 5) ad_nil)))) (ad_cons (pd_tup (ad_cons (pd_tup (ad_cons pd_str (ad_cons (dv 1) (ad_cons (dv 2) (ad_cons (dv 3) ad_nil))))) (ad_cons (dv 5) (ad_cons (pd_tup (ad_cons pd_str ad_nil)) ad_nil)))) ad_nil))))
    (sds_cons (sd_if (td_cmp (od_eq hr.units) (dv 3) (dv 0) (nomark _)) (sds_one (sd_expr (pd_append (dv 6) (ad_cons (pd_tup (ad_cons (pd_tup (ad_cons pd_str (ad_cons (dv 1) (ad_cons (dv 2) (ad_cons (dv 3) ad_nil))))) (ad_cons (dv 4) (ad_cons (pd_tup (ad_cons pd_str ad_nil)) ad_nil)))) ad_nil)))) (sds_cons (sd_expr (pd_append (dv 6) (ad_cons (pd_tup (ad_cons (pd_tup (ad_cons pd_str (ad_cons (dv 1) (ad_cons (dv 2) (ad_cons (dv 3) ad_nil))))) (ad_cons (dv 4) (ad_cons (pd_tup (ad_cons pd_str (ad_cons (dv 1) (ad_cons (dv 2) (ad_cons (pd_op od_add (dv 3) pd_int) ad_nil))))) ad_nil)))) ad_nil)))
    (sds_one (sd_expr (pd_append (dv 6) (ad_cons (pd_tup (ad_cons (pd_tup (ad_cons pd_str (ad_cons (dv 1) (ad_cons (dv 2) (ad_cons (dv 3) ad_nil))))) (ad_cons (dv 5) (ad_cons (pd_tup (ad_cons pd_str (ad_cons (dv 1) (ad_cons (dv 2) (ad_cons (pd_op od_add (dv 3) pd_int) ad_nil))))) ad_nil)))) ad_nil))))))
    (sds_one (sd_ret (dv 6)))))))) (rd_law_spot_rows)
theorem ok_law_moves (T : Tx K mg base tb) : FnOk P w K mg base CX0 2 T.q3.f_law_moves T.q3.d_law_moves ["archive"] (liSp K tb sp_law_moves) :=
  Fun.okD T.q3.F_law_moves sc_law_moves (len_law_moves) (t := t_law_moves) (fun cdv A outer s H E F0 R0 hr =>
    (sds_cons (sd_unp rfl (GNames.cons (pg_name (i := 1) sc_law_moves.nd rfl (by first | exact Or.inl rfl | exact Or.inr rfl)) (GNames.cons (pg_name (i := 2) sc_law_moves.nd rfl (by first | exact Or.inl rfl | exact Or.inr rfl)) (GNames.cons (pg_name (i := 3) sc_law_moves.nd rfl (by first | exact Or.inl rfl | exact Or.inr rfl)) (GNames.cons (pg_name (i := 4) sc_law_moves.nd rfl (by first | exact Or.inl rfl | exact Or.inr rfl)) (GNames.cons (pg_name (i := 5) sc_law_moves.nd rfl (by first | exact Or.inl rfl | exact Or.inr rfl)) GNames.nil rfl) rfl) rfl) rfl) rfl) (dv 0))
    (sds_cons (sd_set (i := 6) sc_law_moves.nd rfl (by first | exact Or.inl rfl | exact Or.inr rfl) (pd_lstM ad_nil))
    (sds_cons (sd_for PassesOwn.never rfl (id_seq (dv 5)) (pg_name (i := 7) sc_law_moves.nd rfl (by first | exact Or.inl rfl | exact Or.inr rfl)) tg_name (sds_one (sd_set (i := 6) sc_law_moves.nd rfl (by first | exact Or.inl rfl | exact Or.inr rfl) (pd_op od_addM (dv 6) (pd_call (ok_law_record_rows T) (hr.mono (by decide)) (by rfl) T.q2.g_law_record_rows T.q2.F_law_record_rows.kp T.q2.b_law_record_rows (ad_cons (dv 3) (ad_cons (dv 7) ad_nil)))))))
    (sds_cons (sd_for PassesOwn.never rfl (id_seq (dv 3)) (pg_name (i := 8) sc_law_moves.nd rfl (by first | exact Or.inl rfl | exact Or.inr rfl)) tg_name (sds_one (sd_for PassesOwn.never rfl (id_rng1 (by rfl) T.q4.n_range (ad_cons (pd_op od_add (dv 1) pd_int) ad_nil)) (pg_name (i := 9) sc_law_moves.nd rfl (by first | exact Or.inl rfl | exact Or.inr rfl)) tg_name (sds_cons (sd_for PassesOwn.never rfl (id_seq (dv 2)) (pg_name (i := 10) sc_law_moves.nd rfl (by first | exact Or.inl rfl | exact Or.inr rfl)) tg_name (sds_one (sd_set (i := 6) sc_law_moves.nd rfl (by first | exact Or.inl rfl | exact Or.inr rfl) (pd_op od_addM (dv 6) (pd_call (ok_law_spot_rows T) (hr.mono (by decide)) (by rfl) T.q3.g_law_spot_rows T.q3.F_law_spot_rows.kp T.q3.b_law_spot_rows (ad_cons (dv 1) (ad_cons (pd_ix (dv 8) pd_int (fun _ _ => rfl)) (ad_cons (dv 10) (ad_cons (dv 9) ad_nil)))))))))
    (sds_one (sd_for PassesOwn.never rfl (id_seq (dv 4)) (pg_name (i := 11) sc_law_moves.nd rfl (by first | exact Or.inl rfl | exact Or.inr rfl)) tg_name (sds_one (sd_if (td_cmp od_le (pd_op od_add (dv 9) (pd_ix (dv 11) pd_int (fun _ _ => rfl))) (dv 1) (nomark _)) (sds_cons (sd_set (i := 12) sc_law_moves.nd rfl (by first | exact Or.inl rfl | exact Or.inr rfl) (pd_tup (ad_cons pd_str (ad_cons (pd_ix (dv 8) pd_int (fun _ _ => rfl)) (ad_cons (pd_ix (dv 11) pd_int (fun _ _ => rfl)) (ad_cons (dv 9) ad_nil))))))
    (sds_cons (sd_set (i := 13) sc_law_moves.nd rfl (by first | exact Or.inl rfl | exact Or.inr rfl) (pd_tup (ad_cons pd_str (ad_cons (pd_ix (dv 8) pd_int (fun _ _ => rfl)) (ad_cons (pd_ix (dv 11) pd_int (fun _ _ => rfl)) (ad_cons (pd_op od_add (dv 9) (pd_ix (dv 11) pd_int (fun _ _ => rfl))) ad_nil))))))
    (sds_one (sd_expr (pd_append (dv 6) (ad_cons (pd_tup (ad_cons (pd_tup (ad_cons pd_str (ad_cons (pd_ix (dv 8) pd_int (fun _ _ => rfl)) (ad_cons (pd_ix (dv 11) pd_int (fun _ _ => rfl)) (ad_cons (pd_ix (dv 11) pd_int (fun _ _ => rfl)) (ad_cons (dv 9) ad_nil)))))) (ad_cons (dv 12) (ad_cons (dv 13) ad_nil)))) ad_nil)))))) sds_nil))))))))
    (sds_one (sd_ret (pd_callB (cd_sortedD hr.units) (by rfl) T.q4.n_sorted (by decide +kernel) (ad_cons (dv 6) ad_nil))))))))) (rd_law_moves)
theorem ok_law_found (T : Tx K mg base tb) : FnOk P w K mg base CX0 5 T.q3.f_law_found T.q3.d_law_found ["archive", "name"] (liSp K tb sp_law_found) :=
  Fun.okD T.q3.F_law_found sc_law_found (len_law_found) (t := (t_law_found ⟨P, w, K, mg, base, tb⟩)) (fun cdv A outer s H E F0 R0 hr =>
    (sds_cons (sd_tryAs (i := 2) rfl rfl sc_law_found.nd rfl rfl (cv := exV ⟨P, w, K, mg, base, tb⟩ "UnknownName") (exV_of T.q4.x_UnknownName.g) ⟨by rfl, by decide, Or.inl T.q4.x_UnknownName.g⟩ T.q4.x_UnknownName.m (fun W pn xe FF RR E2 hE2 tk2 => (sds_one (sd_expr (pd_callS hE2 tk2 (ok_move_of T) (hr.mono (by decide)) (by rfl) T.q0.g_move_of T.q0.F_move_of.kp T.q0.b_move_of (ad_cons (dv 0) (ad_cons (dv 1) ad_nil)))))) (fun a oe d pn FF RR fs hz hf rx => (sds_cons (sd_if (PW.pt (wd_or (td_tru (pd_callB (cd_isE T.q4.x_UnknownName.xi hz hf rx (exV_of T.q4.y_TooLarge.g) T.q4.z_UnknownName_TooLarge) (by rfl) T.q4.n_isinstance (by decide +kernel) (ad_cons (dv 2) (ad_cons (pd_cls T.q4.y_TooLarge.g (exV_of (C := ⟨P, w, K, mg, base, tb⟩) T.q4.y_TooLarge.g) (by rfl)) ad_nil)))) (wd_or (td_tru (pd_callB (cd_isE T.q4.x_UnknownName.xi hz hf rx (exV_of T.q4.y_NoHistory.g) T.q4.z_UnknownName_NoHistory) (by rfl) T.q4.n_isinstance (by decide +kernel) (ad_cons (dv 2) (ad_cons (pd_cls T.q4.y_NoHistory.g (exV_of (C := ⟨P, w, K, mg, base, tb⟩) T.q4.y_NoHistory.g) (by rfl)) ad_nil)))) (wd_or1 (td_tru (pd_callB (cd_isE T.q4.x_UnknownName.xi hz hf rx (exV_of T.q4.y_InvalidLine.g) T.q4.z_UnknownName_InvalidLine) (by rfl) T.q4.n_isinstance (by decide +kernel) (ad_cons (dv 2) (ad_cons (pd_cls T.q4.y_InvalidLine.g (exV_of (C := ⟨P, w, K, mg, base, tb⟩) T.q4.y_InvalidLine.g) (by rfl)) ad_nil)))))))) (sds_one (sd_ret pd_non)) sds_nil)
    (sds_one (sd_ret (pd_xf T.q4.x_UnknownName.xf T.q4.x_UnknownName.no hz hf rx (dv 2)))))))
    (sds_one (sd_ret pd_non)))) (rd_law_found ⟨P, w, K, mg, base, tb⟩)
theorem ok_law (T : Tx K mg base tb) : FnOk P w K mg base CX0 6 T.q3.f_law T.q3.d_law ["script"] (liSp K tb sp_law) :=
  Fun.okD T.q3.F_law sc_law (len_law) (t := (t_law ⟨P, w, K, mg, base, tb⟩)) (fun cdv A outer s H E F0 R0 hr =>
    (sds_cons (sd_set (i := 1) sc_law.nd rfl (by first | exact Or.inl rfl | exact Or.inr rfl) (pd_call (ok_law_box T) (hr.mono (by decide)) (by rfl) T.q1.g_law_box T.q1.F_law_box.kp T.q1.b_law_box (ad_cons (dv 0) ad_nil)))
    (sds_cons (sd_set (i := 2) sc_law.nd rfl (by first | exact Or.inl rfl | exact Or.inr rfl) (pd_call (ok_law_archive T) (hr.mono (by decide)) (by rfl) T.q2.g_law_archive T.q2.F_law_archive.kp T.q2.b_law_archive (ad_cons (dv 1) (ad_cons pd_int (ad_cons pd_int (ad_cons pd_int (ad_cons pd_int ad_nil)))))))
    (sds_cons (sd_set (i := 3) sc_law.nd rfl (by first | exact Or.inl rfl | exact Or.inr rfl) (pd_call (ok_law_moves T) (hr.mono (by decide)) (by rfl) T.q3.g_law_moves T.q3.F_law_moves.kp T.q3.b_law_moves (ad_cons (dv 2) ad_nil)))
    (sds_cons (sd_set (i := 4) sc_law.nd rfl (by first | exact Or.inl rfl | exact Or.inr rfl) (pd_call (ok_moves_of T) (hr.mono (by decide)) (by rfl) T.q0.g_moves_of T.q0.F_moves_of.kp T.q0.b_moves_of (ad_cons (dv 2) ad_nil)))
    (sds_cons (sd_set (i := 5) sc_law.nd rfl (by first | exact Or.inl rfl | exact Or.inr rfl) (pd_call (ok_places_of T) (hr.mono (by decide)) (by rfl) T.q0.g_places_of T.q0.F_places_of.kp T.q0.b_places_of (ad_cons (dv 2) ad_nil)))
    (sds_cons (sd_if (PW.pt (wd_or (td_not (td_tru (pd_callB cd_isi (by rfl) T.q4.n_isinstance (by decide +kernel) (ad_cons (dv 4) (ad_cons (pd_ty (by rfl) T.q4.n_list (by decide +kernel)) ad_nil))))) (wd_or1 (td_not (td_tru (pd_callB cd_isi (by rfl) T.q4.n_isinstance (by decide +kernel) (ad_cons (dv 5) (ad_cons (pd_ty (by rfl) T.q4.n_list (by decide +kernel)) ad_nil)))))))) (sds_one (sd_ret pd_bl)) sds_nil)
    (sds_cons (sd_if (td_cmp (od_ne hr.units) (dv 4) (pd_lcG fin_lst rfl sc_law.nd (id_seq (dv 3)) (blkOk_by (own := [("row", 6)]) (N := n_law) (sc := defScope s_law) (by decide +kernel)) rfl tg_name (by decide) (fun _ _ _ _ _ => (pg_name (i := 6) sc_law.nd rfl (by first | exact Or.inl rfl | exact Or.inr rfl))) (fun _ _ _ _ _ => tsd_nil) (fun _ _ _ _ _ => (pd_ix (dv 6) pd_int (fun _ _ => rfl)))) (nomark _)) (sds_one (sd_ret pd_bl)) sds_nil)
    (sds_cons (sd_set (i := 7) sc_law.nd rfl (by first | exact Or.inl rfl | exact Or.inr rfl) (pd_disp1T hr.units (ad_cons pd_str ad_nil) pd_bl))
    (sds_cons (sd_for PassesOwn.never rfl (id_seq (dv 3)) (pg_tup rfl (GNames.cons (pg_name (i := 8) sc_law.nd rfl (by first | exact Or.inl rfl | exact Or.inr rfl)) (GNames.cons (pg_name (i := 9) sc_law.nd rfl (by first | exact Or.inl rfl | exact Or.inr rfl)) (GNames.cons (pg_name (i := 10) sc_law.nd rfl (by first | exact Or.inl rfl | exact Or.inr rfl)) GNames.nil rfl) rfl) rfl).pgs) (tg_of [8, 9, 10]) (sds_cons (sd_dputT T.q4.nt_K hr.units pd_bl (dv 7) (dv 9))
    (sds_cons (sd_dputT T.q4.nt_K hr.units pd_bl (dv 7) (dv 10))
    (sds_one (sd_if (td_cmp (od_ne hr.units) (pd_callX noX (ok_ends_of T) (hr.mono (by decide)) (by rfl) T.q0.g_ends_of T.q0.F_ends_of.kp T.q0.b_ends_of passL (ad_cons (dv 2) (ad_cons (dv 8) ad_nil))) (pd_tup (ad_cons (dv 9) (ad_cons (dv 10) ad_nil))) (nomark _)) (sds_one (sd_ret pd_bl)) sds_nil)))))
    (sds_cons (sd_if (td_cmp (od_ne hr.units) (dv 5) (pd_callB (cd_sortedD hr.units) (by rfl) T.q4.n_sorted (by decide +kernel) (ad_cons (pd_callTy (cd_listT rfl) (by rfl) T.q4.n_list (by decide +kernel) (ad_cons (dv 7) ad_nil)) ad_nil)) (nomark _)) (sds_one (sd_ret pd_bl)) sds_nil)
    (sds_cons (sd_for PassesOwn.never rfl (id_seq (pd_ix (dv 2) pd_int (fun _ _ => rfl))) (pg_name (i := 11) sc_law.nd rfl (by first | exact Or.inl rfl | exact Or.inr rfl)) tg_name (sds_one (sd_if (td_cmp (od_ne hr.units) (pd_callX noX (ok_move_of T) (hr.mono (by decide)) (by rfl) T.q0.g_move_of T.q0.F_move_of.kp T.q0.b_move_of passL (ad_cons (dv 2) (ad_cons (pd_ix (dv 11) pd_int (fun _ _ => rfl)) ad_nil))) (pd_call (ok_law_told T) (hr.mono (by decide)) (by rfl) T.q2.g_law_told T.q2.F_law_told.kp T.q2.b_law_told (ad_cons (dv 11) ad_nil)) (nomark _)) (sds_one (sd_ret pd_bl)) sds_nil)))
    (sds_cons (sd_setLcG (i := 12) fin_lst rfl sc_law.nd rfl rfl (sw_true rfl rfl rfl (by decide +kernel)) (id_seq (pd_ix (dv 2) pd_int (fun _ _ => rfl))) (blkOk_by (own := [("record", 11)]) (N := n_law) (sc := defScope s_law) (by decide +kernel)) rfl tg_name (by decide) (fun _ _ _ _ _ => (pg_name (i := 11) sc_law.nd rfl (by first | exact Or.inl rfl | exact Or.inr rfl))) (fun _ _ _ _ _ => tsd_nil) (fun _ _ _ _ _ => (pd_ix (dv 11) pd_int (fun _ _ => rfl))))
    (sds_cons (sd_for PassesOwn.never rfl (id_seq (pd_op od_add (pd_lst (ad_cons pd_str (ad_cons pd_str ad_nil))) (pd_lcG fin_lst rfl sc_law.nd (id_seq (dv 12)) (blkOk_by (own := [("name", 13)]) (N := n_law) (sc := defScope s_law) (by decide +kernel)) rfl tg_name (by decide) (fun _ _ _ _ _ => (pg_name (i := 13) sc_law.nd rfl (by first | exact Or.inl rfl | exact Or.inr rfl))) (fun _ _ _ _ _ => (tsd_one (td_cmp od_notInSub pd_str (dv 13) rfl))) (fun _ _ _ _ _ => (pd_op od_add (dv 13) pd_str))))) (pg_name (i := 13) sc_law.nd rfl (by first | exact Or.inl rfl | exact Or.inr rfl)) tg_name (sds_one (sd_if (PW.pt (wd_and (td_cmp od_notIn (dv 13) (dv 12) rfl) (wd_and1 (td_cmp (od_ne hr.units) (pd_call (ok_law_found T) (hr.mono (by decide)) (by rfl) T.q3.g_law_found T.q3.F_law_found.kp T.q3.b_law_found (ad_cons (dv 2) (ad_cons (dv 13) ad_nil))) (dv 13) (nomark _))))) (sds_one (sd_ret pd_bl)) sds_nil)))
    (sds_cons (sd_expr (pd_append (dv 4) (ad_cons (pd_tup (ad_cons pd_str (ad_cons pd_str ad_nil))) ad_nil)))
    (sds_cons (sd_expr (pd_pop (dv 5)))
    (sds_one (sd_ret (pd_and (pd_cmp (od_eq hr.units) (pd_call (ok_moves_of T) (hr.mono (by decide)) (by rfl) T.q0.g_moves_of T.q0.F_moves_of.kp T.q0.b_moves_of (ad_cons (dv 2) ad_nil)) (pd_lcG fin_lst rfl sc_law.nd (id_seq (dv 3)) (blkOk_by (own := [("row", 6)]) (N := n_law) (sc := defScope s_law) (by decide +kernel)) rfl tg_name (by decide) (fun _ _ _ _ _ => (pg_name (i := 6) sc_law.nd rfl (by first | exact Or.inl rfl | exact Or.inr rfl))) (fun _ _ _ _ _ => tsd_nil) (fun _ _ _ _ _ => (pd_ix (dv 6) pd_int (fun _ _ => rfl)))) (nomark _)) (pd_one (pd_cmp (od_eq hr.units) (pd_call (ok_places_of T) (hr.mono (by decide)) (by rfl) T.q0.g_places_of T.q0.F_places_of.kp T.q0.b_places_of (ad_cons (dv 2) ad_nil)) (pd_callB (cd_sortedD hr.units) (by rfl) T.q4.n_sorted (by decide +kernel) (ad_cons (pd_callTy (cd_listT rfl) (by rfl) T.q4.n_list (by decide +kernel) (ad_cons (dv 7) ad_nil)) ad_nil)) (nomark _)))))))))))))))))))))) (rd_law ⟨P, w, K, mg, base, tb⟩)
end
set_option maxHeartbeats 8000000 in
theorem all_mk {l : PySem.W.OpenLaw} {w : World} {K : PySem.W.Frag} {h : Heap} {mg : Str → Option Value} {fa : Addr} (X : K.In h) (G : h.Ns mainGlobals mg) (hfa : mg "law" = some (.ref fa))
    {f0 : Addr} {od0 an0 : Option Addr} {sl0 : Array (Option Value)} {oc0 kV0 dc0 pm0 ct0 : Value} {cd0 : Value}
    (a0 : PySem.W.nsIn K mainGlobals "spans_of" = some (some (.ref f0)))
    (l0 : K.lookup f0 = some ⟨oc0, od0, .func (PySem.W.fnOf "spans_of" "spans_of" (defArgs s_spans_of) (defBody s_spans_of) (defScope s_spans_of) .none kV0 dc0 pm0 an0 cd0 ct0), sl0⟩)
    (c0 : PySem.W.codeIn K cd0 "spans_of" = true) (k0 : PySem.W.keepIn K (.ref f0) = true)
    {f1 : Addr} {od1 an1 : Option Addr} {sl1 : Array (Option Value)} {oc1 kV1 dc1 pm1 ct1 : Value} {cd1 : Value}
    (a1 : PySem.W.nsIn K mainGlobals "places_of" = some (some (.ref f1)))
    (l1 : K.lookup f1 = some ⟨oc1, od1, .func (PySem.W.fnOf "places_of" "places_of" (defArgs s_places_of) (defBody s_places_of) (defScope s_places_of) .none kV1 dc1 pm1 an1 cd1 ct1), sl1⟩)
    (c1 : PySem.W.codeIn K cd1 "places_of" = true) (k1 : PySem.W.keepIn K (.ref f1) = true)
    {f2 : Addr} {od2 an2 : Option Addr} {sl2 : Array (Option Value)} {oc2 kV2 dc2 pm2 ct2 : Value} {cd2 : Value}
    (a2 : PySem.W.nsIn K mainGlobals "moves_of" = some (some (.ref f2)))
    (l2 : K.lookup f2 = some ⟨oc2, od2, .func (PySem.W.fnOf "moves_of" "moves_of" (defArgs s_moves_of) (defBody s_moves_of) (defScope s_moves_of) .none kV2 dc2 pm2 an2 cd2 ct2), sl2⟩)
    (c2 : PySem.W.codeIn K cd2 "moves_of" = true) (k2 : PySem.W.keepIn K (.ref f2) = true)
    {f3 : Addr} {od3 an3 : Option Addr} {sl3 : Array (Option Value)} {oc3 kV3 dc3 pm3 ct3 : Value} {cd3 : Value}
    (a3 : PySem.W.nsIn K mainGlobals "record_moves" = some (some (.ref f3)))
    (l3 : K.lookup f3 = some ⟨oc3, od3, .func (PySem.W.fnOf "record_moves" "record_moves" (defArgs s_record_moves) (defBody s_record_moves) (defScope s_record_moves) .none kV3 dc3 pm3 an3 cd3 ct3), sl3⟩)
    (c3 : PySem.W.codeIn K cd3 "record_moves" = true) (k3 : PySem.W.keepIn K (.ref f3) = true)
    {f4 : Addr} {od4 an4 : Option Addr} {sl4 : Array (Option Value)} {oc4 kV4 dc4 pm4 ct4 : Value} {cd4 : Value}
    (a4 : PySem.W.nsIn K mainGlobals "record_of" = some (some (.ref f4)))
    (l4 : K.lookup f4 = some ⟨oc4, od4, .func (PySem.W.fnOf "record_of" "record_of" (defArgs s_record_of) (defBody s_record_of) (defScope s_record_of) .none kV4 dc4 pm4 an4 cd4 ct4), sl4⟩)
    (c4 : PySem.W.codeIn K cd4 "record_of" = true) (k4 : PySem.W.keepIn K (.ref f4) = true)
    {f5 : Addr} {od5 an5 : Option Addr} {sl5 : Array (Option Value)} {oc5 kV5 dc5 pm5 ct5 : Value} {cd5 : Value}
    (a5 : PySem.W.nsIn K mainGlobals "move_of" = some (some (.ref f5)))
    (l5 : K.lookup f5 = some ⟨oc5, od5, .func (PySem.W.fnOf "move_of" "move_of" (defArgs s_move_of) (defBody s_move_of) (defScope s_move_of) .none kV5 dc5 pm5 an5 cd5 ct5), sl5⟩)
    (c5 : PySem.W.codeIn K cd5 "move_of" = true) (k5 : PySem.W.keepIn K (.ref f5) = true)
    {f6 : Addr} {od6 an6 : Option Addr} {sl6 : Array (Option Value)} {oc6 kV6 dc6 pm6 ct6 : Value} {cd6 : Value}
    (a6 : PySem.W.nsIn K mainGlobals "told_move" = some (some (.ref f6)))
    (l6 : K.lookup f6 = some ⟨oc6, od6, .func (PySem.W.fnOf "told_move" "told_move" (defArgs s_told_move) (defBody s_told_move) (defScope s_told_move) .none kV6 dc6 pm6 an6 cd6 ct6), sl6⟩)
    (c6 : PySem.W.codeIn K cd6 "told_move" = true) (k6 : PySem.W.keepIn K (.ref f6) = true)
    {f7 : Addr} {od7 an7 : Option Addr} {sl7 : Array (Option Value)} {oc7 kV7 dc7 pm7 ct7 : Value} {cd7 : Value}
    (a7 : PySem.W.nsIn K mainGlobals "ends_of" = some (some (.ref f7)))
    (l7 : K.lookup f7 = some ⟨oc7, od7, .func (PySem.W.fnOf "ends_of" "ends_of" (defArgs s_ends_of) (defBody s_ends_of) (defScope s_ends_of) .none kV7 dc7 pm7 an7 cd7 ct7), sl7⟩)
    (c7 : PySem.W.codeIn K cd7 "ends_of" = true) (k7 : PySem.W.keepIn K (.ref f7) = true)
    {f8 : Addr} {od8 an8 : Option Addr} {sl8 : Array (Option Value)} {oc8 kV8 dc8 pm8 ct8 : Value} {cd8 : Value}
    (a8 : PySem.W.nsIn K mainGlobals "record_ends" = some (some (.ref f8)))
    (l8 : K.lookup f8 = some ⟨oc8, od8, .func (PySem.W.fnOf "record_ends" "record_ends" (defArgs s_record_ends) (defBody s_record_ends) (defScope s_record_ends) .none kV8 dc8 pm8 an8 cd8 ct8), sl8⟩)
    (c8 : PySem.W.codeIn K cd8 "record_ends" = true) (k8 : PySem.W.keepIn K (.ref f8) = true)
    {f9 : Addr} {od9 an9 : Option Addr} {sl9 : Array (Option Value)} {oc9 kV9 dc9 pm9 ct9 : Value} {cd9 : Value}
    (a9 : PySem.W.nsIn K mainGlobals "plain_ends" = some (some (.ref f9)))
    (l9 : K.lookup f9 = some ⟨oc9, od9, .func (PySem.W.fnOf "plain_ends" "plain_ends" (defArgs s_plain_ends) (defBody s_plain_ends) (defScope s_plain_ends) .none kV9 dc9 pm9 an9 cd9 ct9), sl9⟩)
    (c9 : PySem.W.codeIn K cd9 "plain_ends" = true) (k9 : PySem.W.keepIn K (.ref f9) = true)
    {f10 : Addr} {od10 an10 : Option Addr} {sl10 : Array (Option Value)} {oc10 kV10 dc10 pm10 ct10 : Value} {cd10 : Value}
    (a10 : PySem.W.nsIn K mainGlobals "_law_digits" = some (some (.ref f10)))
    (l10 : K.lookup f10 = some ⟨oc10, od10, .func (PySem.W.fnOf "_law_digits" "_law_digits" (defArgs s_law_digits) (defBody s_law_digits) (defScope s_law_digits) .none kV10 dc10 pm10 an10 cd10 ct10), sl10⟩)
    (c10 : PySem.W.codeIn K cd10 "_law_digits" = true) (k10 : PySem.W.keepIn K (.ref f10) = true)
    {f11 : Addr} {od11 an11 : Option Addr} {sl11 : Array (Option Value)} {oc11 kV11 dc11 pm11 ct11 : Value} {cd11 : Value}
    (a11 : PySem.W.nsIn K mainGlobals "_law_box" = some (some (.ref f11)))
    (l11 : K.lookup f11 = some ⟨oc11, od11, .func (PySem.W.fnOf "_law_box" "_law_box" (defArgs s_law_box) (defBody s_law_box) (defScope s_law_box) .none kV11 dc11 pm11 an11 cd11 ct11), sl11⟩)
    (c11 : PySem.W.codeIn K cd11 "_law_box" = true) (k11 : PySem.W.keepIn K (.ref f11) = true)
    {f12 : Addr} {od12 an12 : Option Addr} {sl12 : Array (Option Value)} {oc12 kV12 dc12 pm12 ct12 : Value} {cd12 : Value}
    (a12 : PySem.W.nsIn K mainGlobals "_law_take" = some (some (.ref f12)))
    (l12 : K.lookup f12 = some ⟨oc12, od12, .func (PySem.W.fnOf "_law_take" "_law_take" (defArgs s_law_take) (defBody s_law_take) (defScope s_law_take) .none kV12 dc12 pm12 an12 cd12 ct12), sl12⟩)
    (c12 : PySem.W.codeIn K cd12 "_law_take" = true) (k12 : PySem.W.keepIn K (.ref f12) = true)
    {f13 : Addr} {od13 an13 : Option Addr} {sl13 : Array (Option Value)} {oc13 kV13 dc13 pm13 ct13 : Value} {cd13 : Value}
    (a13 : PySem.W.nsIn K mainGlobals "_law_pick" = some (some (.ref f13)))
    (l13 : K.lookup f13 = some ⟨oc13, od13, .func (PySem.W.fnOf "_law_pick" "_law_pick" (defArgs s_law_pick) (defBody s_law_pick) (defScope s_law_pick) .none kV13 dc13 pm13 an13 cd13 ct13), sl13⟩)
    (c13 : PySem.W.codeIn K cd13 "_law_pick" = true) (k13 : PySem.W.keepIn K (.ref f13) = true)
    {f14 : Addr} {od14 an14 : Option Addr} {sl14 : Array (Option Value)} {oc14 kV14 dc14 pm14 ct14 : Value} {cd14 : Value}
    (a14 : PySem.W.nsIn K mainGlobals "_law_word" = some (some (.ref f14)))
    (l14 : K.lookup f14 = some ⟨oc14, od14, .func (PySem.W.fnOf "_law_word" "_law_word" (defArgs s_law_word) (defBody s_law_word) (defScope s_law_word) .none kV14 dc14 pm14 an14 cd14 ct14), sl14⟩)
    (c14 : PySem.W.codeIn K cd14 "_law_word" = true) (k14 : PySem.W.keepIn K (.ref f14) = true)
    {f15 : Addr} {od15 an15 : Option Addr} {sl15 : Array (Option Value)} {oc15 kV15 dc15 pm15 ct15 : Value} {cd15 : Value}
    (a15 : PySem.W.nsIn K mainGlobals "_law_names" = some (some (.ref f15)))
    (l15 : K.lookup f15 = some ⟨oc15, od15, .func (PySem.W.fnOf "_law_names" "_law_names" (defArgs s_law_names) (defBody s_law_names) (defScope s_law_names) .none kV15 dc15 pm15 an15 cd15 ct15), sl15⟩)
    (c15 : PySem.W.codeIn K cd15 "_law_names" = true) (k15 : PySem.W.keepIn K (.ref f15) = true)
    {f16 : Addr} {od16 an16 : Option Addr} {sl16 : Array (Option Value)} {oc16 kV16 dc16 pm16 ct16 : Value} {cd16 : Value}
    (a16 : PySem.W.nsIn K mainGlobals "_law_kinds" = some (some (.ref f16)))
    (l16 : K.lookup f16 = some ⟨oc16, od16, .func (PySem.W.fnOf "_law_kinds" "_law_kinds" (defArgs s_law_kinds) (defBody s_law_kinds) (defScope s_law_kinds) .none kV16 dc16 pm16 an16 cd16 ct16), sl16⟩)
    (c16 : PySem.W.codeIn K cd16 "_law_kinds" = true) (k16 : PySem.W.keepIn K (.ref f16) = true)
    {f17 : Addr} {od17 an17 : Option Addr} {sl17 : Array (Option Value)} {oc17 kV17 dc17 pm17 ct17 : Value} {cd17 : Value}
    (a17 : PySem.W.nsIn K mainGlobals "_law_roads" = some (some (.ref f17)))
    (l17 : K.lookup f17 = some ⟨oc17, od17, .func (PySem.W.fnOf "_law_roads" "_law_roads" (defArgs s_law_roads) (defBody s_law_roads) (defScope s_law_roads) .none kV17 dc17 pm17 an17 cd17 ct17), sl17⟩)
    (c17 : PySem.W.codeIn K cd17 "_law_roads" = true) (k17 : PySem.W.keepIn K (.ref f17) = true)
    {f18 : Addr} {od18 an18 : Option Addr} {sl18 : Array (Option Value)} {oc18 kV18 dc18 pm18 ct18 : Value} {cd18 : Value}
    (a18 : PySem.W.nsIn K mainGlobals "_law_what" = some (some (.ref f18)))
    (l18 : K.lookup f18 = some ⟨oc18, od18, .func (PySem.W.fnOf "_law_what" "_law_what" (defArgs s_law_what) (defBody s_law_what) (defScope s_law_what) .none kV18 dc18 pm18 an18 cd18 ct18), sl18⟩)
    (c18 : PySem.W.codeIn K cd18 "_law_what" = true) (k18 : PySem.W.keepIn K (.ref f18) = true)
    {f19 : Addr} {od19 an19 : Option Addr} {sl19 : Array (Option Value)} {oc19 kV19 dc19 pm19 ct19 : Value} {cd19 : Value}
    (a19 : PySem.W.nsIn K mainGlobals "_law_amounts" = some (some (.ref f19)))
    (l19 : K.lookup f19 = some ⟨oc19, od19, .func (PySem.W.fnOf "_law_amounts" "_law_amounts" (defArgs s_law_amounts) (defBody s_law_amounts) (defScope s_law_amounts) .none kV19 dc19 pm19 an19 cd19 ct19), sl19⟩)
    (c19 : PySem.W.codeIn K cd19 "_law_amounts" = true) (k19 : PySem.W.keepIn K (.ref f19) = true)
    {f20 : Addr} {od20 an20 : Option Addr} {sl20 : Array (Option Value)} {oc20 kV20 dc20 pm20 ct20 : Value} {cd20 : Value}
    (a20 : PySem.W.nsIn K mainGlobals "_law_records" = some (some (.ref f20)))
    (l20 : K.lookup f20 = some ⟨oc20, od20, .func (PySem.W.fnOf "_law_records" "_law_records" (defArgs s_law_records) (defBody s_law_records) (defScope s_law_records) .none kV20 dc20 pm20 an20 cd20 ct20), sl20⟩)
    (c20 : PySem.W.codeIn K cd20 "_law_records" = true) (k20 : PySem.W.keepIn K (.ref f20) = true)
    {f21 : Addr} {od21 an21 : Option Addr} {sl21 : Array (Option Value)} {oc21 kV21 dc21 pm21 ct21 : Value} {cd21 : Value}
    (a21 : PySem.W.nsIn K mainGlobals "_law_archive" = some (some (.ref f21)))
    (l21 : K.lookup f21 = some ⟨oc21, od21, .func (PySem.W.fnOf "_law_archive" "_law_archive" (defArgs s_law_archive) (defBody s_law_archive) (defScope s_law_archive) .none kV21 dc21 pm21 an21 cd21 ct21), sl21⟩)
    (c21 : PySem.W.codeIn K cd21 "_law_archive" = true) (k21 : PySem.W.keepIn K (.ref f21) = true)
    {f22 : Addr} {od22 an22 : Option Addr} {sl22 : Array (Option Value)} {oc22 kV22 dc22 pm22 ct22 : Value} {cd22 : Value}
    (a22 : PySem.W.nsIn K mainGlobals "_law_told" = some (some (.ref f22)))
    (l22 : K.lookup f22 = some ⟨oc22, od22, .func (PySem.W.fnOf "_law_told" "_law_told" (defArgs s_law_told) (defBody s_law_told) (defScope s_law_told) .none kV22 dc22 pm22 an22 cd22 ct22), sl22⟩)
    (c22 : PySem.W.codeIn K cd22 "_law_told" = true) (k22 : PySem.W.keepIn K (.ref f22) = true)
    {f23 : Addr} {od23 an23 : Option Addr} {sl23 : Array (Option Value)} {oc23 kV23 dc23 pm23 ct23 : Value} {cd23 : Value}
    (a23 : PySem.W.nsIn K mainGlobals "_law_record_rows" = some (some (.ref f23)))
    (l23 : K.lookup f23 = some ⟨oc23, od23, .func (PySem.W.fnOf "_law_record_rows" "_law_record_rows" (defArgs s_law_record_rows) (defBody s_law_record_rows) (defScope s_law_record_rows) .none kV23 dc23 pm23 an23 cd23 ct23), sl23⟩)
    (c23 : PySem.W.codeIn K cd23 "_law_record_rows" = true) (k23 : PySem.W.keepIn K (.ref f23) = true)
    {f24 : Addr} {od24 an24 : Option Addr} {sl24 : Array (Option Value)} {oc24 kV24 dc24 pm24 ct24 : Value} {cd24 : Value}
    (a24 : PySem.W.nsIn K mainGlobals "_law_spot_rows" = some (some (.ref f24)))
    (l24 : K.lookup f24 = some ⟨oc24, od24, .func (PySem.W.fnOf "_law_spot_rows" "_law_spot_rows" (defArgs s_law_spot_rows) (defBody s_law_spot_rows) (defScope s_law_spot_rows) .none kV24 dc24 pm24 an24 cd24 ct24), sl24⟩)
    (c24 : PySem.W.codeIn K cd24 "_law_spot_rows" = true) (k24 : PySem.W.keepIn K (.ref f24) = true)
    {f25 : Addr} {od25 an25 : Option Addr} {sl25 : Array (Option Value)} {oc25 kV25 dc25 pm25 ct25 : Value} {cd25 : Value}
    (a25 : PySem.W.nsIn K mainGlobals "_law_moves" = some (some (.ref f25)))
    (l25 : K.lookup f25 = some ⟨oc25, od25, .func (PySem.W.fnOf "_law_moves" "_law_moves" (defArgs s_law_moves) (defBody s_law_moves) (defScope s_law_moves) .none kV25 dc25 pm25 an25 cd25 ct25), sl25⟩)
    (c25 : PySem.W.codeIn K cd25 "_law_moves" = true) (k25 : PySem.W.keepIn K (.ref f25) = true)
    {f26 : Addr} {od26 an26 : Option Addr} {sl26 : Array (Option Value)} {oc26 kV26 dc26 pm26 ct26 : Value} {cd26 : Value}
    (a26 : PySem.W.nsIn K mainGlobals "_law_found" = some (some (.ref f26)))
    (l26 : K.lookup f26 = some ⟨oc26, od26, .func (PySem.W.fnOf "_law_found" "_law_found" (defArgs s_law_found) (defBody s_law_found) (defScope s_law_found) .none kV26 dc26 pm26 an26 cd26 ct26), sl26⟩)
    (c26 : PySem.W.codeIn K cd26 "_law_found" = true) (k26 : PySem.W.keepIn K (.ref f26) = true)
    {f27 : Addr} {od27 an27 : Option Addr} {sl27 : Array (Option Value)} {oc27 kV27 dc27 pm27 ct27 : Value} {cd27 : Value}
    (a27 : PySem.W.nsIn K mainGlobals "law" = some (some (.ref f27)))
    (l27 : K.lookup f27 = some ⟨oc27, od27, .func (PySem.W.fnOf "law" "law" (defArgs s_law) (defBody s_law) (defScope s_law) .none kV27 dc27 pm27 an27 cd27 ct27), sl27⟩)
    (c27 : PySem.W.codeIn K cd27 "law" = true) (k27 : PySem.W.keepIn K (.ref f27) = true)
    (z_int : PySem.W.nsIn K mainGlobals "int" = some none)
    (z_isinstance : PySem.W.nsIn K mainGlobals "isinstance" = some none)
    (z_len : PySem.W.nsIn K mainGlobals "len" = some none)
    (z_list : PySem.W.nsIn K mainGlobals "list" = some none)
    (z_range : PySem.W.nsIn K mainGlobals "range" = some none)
    (z_sorted : PySem.W.nsIn K mainGlobals "sorted" = some none)
    (z_str : PySem.W.nsIn K mainGlobals "str" = some none)
    (z_tuple : PySem.W.nsIn K mainGlobals "tuple" = some none)
    {xc_UnknownName xf_UnknownName : Addr} (xg_UnknownName : PySem.W.nsIn K mainGlobals "UnknownName" = some (some (.ref xc_UnknownName)))
    {nm_UnknownName qq_UnknownName : Str} {N_UnknownName : Addr} {bs_UnknownName bm_UnknownName : List Value} {sn_UnknownName : List Str} {sb_UnknownName : List Value} {ab_UnknownName : Bool} {col_UnknownName : Option Bool} {dd_UnknownName : Option Addr} {k0_UnknownName k1_UnknownName k2_UnknownName k3_UnknownName k5_UnknownName : Option Value} (xl_UnknownName : K.lookup xc_UnknownName = some (excClassObj nm_UnknownName qq_UnknownName xc_UnknownName N_UnknownName bs_UnknownName bm_UnknownName true sn_UnknownName sb_UnknownName ab_UnknownName col_UnknownName dd_UnknownName k0_UnknownName k1_UnknownName k2_UnknownName k3_UnknownName k5_UnknownName "ValueError.__new__")) (xv_UnknownName : PySem.HandSPX.refsVE bm_UnknownName = true)
    (xa_UnknownName : PySem.W.findIn K (.ref xc_UnknownName) "__setattr__" = some (some (.builtin "object.__setattr__"))) (xs_UnknownName : PySem.W.subIn K (.ref xc_UnknownName) (.type "BaseException") = some true) (xt_UnknownName : PySem.W.typeIn K (.ref xc_UnknownName) = some (.type "type")) (xk_UnknownName : PySem.W.keepIn K (.ref xc_UnknownName) = true)
    (xo_UnknownName : PySem.W.findIn K (.ref xc_UnknownName) "name" = some none) (xn_UnknownName : PySem.W.findIn K (.ref xc_UnknownName) "__init__" = some (some (.ref xf_UnknownName))) (xu_UnknownName : PySem.W.typeIn K (.ref xf_UnknownName) = some (.type "function"))
    {fo_UnknownName : Option Addr} {fs_UnknownName : Array (Option Value)} {fc_UnknownName fV_UnknownName fd_UnknownName fp_UnknownName ft_UnknownName fcd_UnknownName : Value} {fan_UnknownName : Option Addr} (xL_UnknownName : K.lookup xf_UnknownName = some ⟨fc_UnknownName, fo_UnknownName, .func (PySem.W.fnOf "__init__" "UnknownName.__init__" (defArgs s_ini_UnknownName) (defBody s_ini_UnknownName) (defScope s_ini_UnknownName) .none fV_UnknownName fd_UnknownName fp_UnknownName fan_UnknownName fcd_UnknownName ft_UnknownName), fs_UnknownName⟩) (xC_UnknownName : PySem.W.codeIn K fcd_UnknownName "UnknownName.__init__" = true) (xK_UnknownName : PySem.W.keepIn K (.ref xf_UnknownName) = true)
    (xi_UnknownName : PySem.W.isClsIn K xc_UnknownName = true) (xr_UnknownName : PySem.W.subIn K (.ref xc_UnknownName) (.ref xc_UnknownName) = some true)
    (xb_UnknownName : PySem.W.findIn K (.ref xc_UnknownName) "__getattribute__" = some (some (.builtin "BaseException.__getattribute__"))) (xd_UnknownName : PySem.W.findIn K (.ref xc_UnknownName) "__getattr__" = some none) (xe_UnknownName : PySem.W.hasDictIn K xc_UnknownName = true) (xh_UnknownName : PySem.W.findIn K (.ref xc_UnknownName) "__class__" = some (some (.builtin "object.__class__"))) (xj_UnknownName : PySem.W.specialIn K (.builtin "object.__class__") "__get__" = some (some (.builtin "getset_descriptor.__get__"))) (xm_UnknownName : PySem.W.takesIn K (.builtin "object.__class__") = some true) (xp_UnknownName : PySem.W.mroIn K xc_UnknownName (.type "object") = some true)
    {yc_InvalidLine : Addr} (yg_InvalidLine : PySem.W.nsIn K mainGlobals "InvalidLine" = some (some (.ref yc_InvalidLine)))
    {yc_NoHistory : Addr} (yg_NoHistory : PySem.W.nsIn K mainGlobals "NoHistory" = some (some (.ref yc_NoHistory)))
    {yc_TooLarge : Addr} (yg_TooLarge : PySem.W.nsIn K mainGlobals "TooLarge" = some (some (.ref yc_TooLarge)))
    (zz_UnknownName_InvalidLine : PySem.W.kitOne K (.ref xc_UnknownName) (.ref yc_InvalidLine) = some false)
    (zz_UnknownName_NoHistory : PySem.W.kitOne K (.ref xc_UnknownName) (.ref yc_NoHistory) = some false)
    (zz_UnknownName_TooLarge : PySem.W.kitOne K (.ref xc_UnknownName) (.ref yc_TooLarge) = some false)
    (xnt : noTupB K = true)
    {ad_OUTSIDE nn_OUTSIDE : Nat} {od_OUTSIDE : Option Addr} {sl_OUTSIDE : Array (Option Value)} {tk_OUTSIDE_0 : Tok} (y_OUTSIDE : PySem.W.nsIn K mainGlobals "OUTSIDE" = some (some (.ref ad_OUTSIDE))) (w_OUTSIDE : K.lookup ad_OUTSIDE = some ⟨.type "tuple", od_OUTSIDE, .seq #[.str "outside" tk_OUTSIDE_0] nn_OUTSIDE, sl_OUTSIDE⟩) :
    ∃ fd : FuncData, (∀ (s : Shared) (v : Value), BindsTo s fd ⟨[v], []⟩ [("script", v)]) ∧ ∀ base : Heap, K.In base → base.Ns mainGlobals mg → FnOk l.prog w K mg base CX0 6 fa fd ["script"] (liSp K [] sp_law) := by
  have e := hfa.symm.trans (PySem.W.mg_of X G a27)
  cases e
  have F0 := fun_mk (st := s_spans_of) l0 c0 k0
  have F1 := fun_mk (st := s_places_of) l1 c1 k1
  have F2 := fun_mk (st := s_moves_of) l2 c2 k2
  have F3 := fun_mk (st := s_record_moves) l3 c3 k3
  have F4 := fun_mk (st := s_record_of) l4 c4 k4
  have F5 := fun_mk (st := s_move_of) l5 c5 k5
  have F6 := fun_mk (st := s_told_move) l6 c6 k6
  have F7 := fun_mk (st := s_ends_of) l7 c7 k7
  have F8 := fun_mk (st := s_record_ends) l8 c8 k8
  have F9 := fun_mk (st := s_plain_ends) l9 c9 k9
  have F10 := fun_mk (st := s_law_digits) l10 c10 k10
  have F11 := fun_mk (st := s_law_box) l11 c11 k11
  have F12 := fun_mk (st := s_law_take) l12 c12 k12
  have F13 := fun_mk (st := s_law_pick) l13 c13 k13
  have F14 := fun_mk (st := s_law_word) l14 c14 k14
  have F15 := fun_mk (st := s_law_names) l15 c15 k15
  have F16 := fun_mk (st := s_law_kinds) l16 c16 k16
  have F17 := fun_mk (st := s_law_roads) l17 c17 k17
  have F18 := fun_mk (st := s_law_what) l18 c18 k18
  have F19 := fun_mk (st := s_law_amounts) l19 c19 k19
  have F20 := fun_mk (st := s_law_records) l20 c20 k20
  have F21 := fun_mk (st := s_law_archive) l21 c21 k21
  have F22 := fun_mk (st := s_law_told) l22 c22 k22
  have F23 := fun_mk (st := s_law_record_rows) l23 c23 k23
  have F24 := fun_mk (st := s_law_spot_rows) l24 c24 k24
  have F25 := fun_mk (st := s_law_moves) l25 c25 k25
  have F26 := fun_mk (st := s_law_found) l26 c26 k26
  have F27 := fun_mk (st := s_law) l27 c27 k27
  refine ⟨(PySem.W.fnOf "law" "law" (defArgs s_law) (defBody s_law) (defScope s_law) .none kV27 dc27 pm27 an27 cd27 ct27), fun s v => .of_eq rfl, fun base _ _ => ?_⟩
  let T : Tx K mg base [] := {
    q0 := {
    f_spans_of := _
    d_spans_of := _
    F_spans_of := F0
    g_spans_of := PySem.W.mg_of X G a0
    b_spans_of := ((F0).binds (ps := ["kinds"]) fun _ _ _ _ _ _ us hl => match us, hl with | [_], _ => rfl)
    f_places_of := _
    d_places_of := _
    F_places_of := F1
    g_places_of := PySem.W.mg_of X G a1
    b_places_of := ((F1).binds (ps := ["archive"]) fun _ _ _ _ _ _ us hl => match us, hl with | [_], _ => rfl)
    f_moves_of := _
    d_moves_of := _
    F_moves_of := F2
    g_moves_of := PySem.W.mg_of X G a2
    b_moves_of := ((F2).binds (ps := ["archive"]) fun _ _ _ _ _ _ us hl => match us, hl with | [_], _ => rfl)
    f_record_moves := _
    d_record_moves := _
    F_record_moves := F3
    g_record_moves := PySem.W.mg_of X G a3
    b_record_moves := ((F3).binds (ps := ["kinds", "record"]) fun _ _ _ _ _ _ us hl => match us, hl with | [_, _], _ => rfl)
    f_record_of := _
    d_record_of := _
    F_record_of := F4
    g_record_of := PySem.W.mg_of X G a4
    b_record_of := ((F4).binds (ps := ["archive", "name"]) fun _ _ _ _ _ _ us hl => match us, hl with | [_, _], _ => rfl)
    f_move_of := _
    d_move_of := _
    F_move_of := F5
    g_move_of := PySem.W.mg_of X G a5
    b_move_of := ((F5).binds (ps := ["archive", "name"]) fun _ _ _ _ _ _ us hl => match us, hl with | [_, _], _ => rfl)
    f_told_move := _
    d_told_move := _
    F_told_move := F6
    g_told_move := PySem.W.mg_of X G a6
    b_told_move := ((F6).binds (ps := ["record"]) fun _ _ _ _ _ _ us hl => match us, hl with | [_], _ => rfl)
    f_ends_of := _
    d_ends_of := _
    F_ends_of := F7
    g_ends_of := PySem.W.mg_of X G a7
    b_ends_of := ((F7).binds (ps := ["archive", "move"]) fun _ _ _ _ _ _ us hl => match us, hl with | [_, _], _ => rfl) }
    q1 := {
    f_record_ends := _
    d_record_ends := _
    F_record_ends := F8
    g_record_ends := PySem.W.mg_of X G a8
    b_record_ends := ((F8).binds (ps := ["what", "move"]) fun _ _ _ _ _ _ us hl => match us, hl with | [_, _], _ => rfl)
    f_plain_ends := _
    d_plain_ends := _
    F_plain_ends := F9
    g_plain_ends := PySem.W.mg_of X G a9
    b_plain_ends := ((F9).binds (ps := ["archive", "move"]) fun _ _ _ _ _ _ us hl => match us, hl with | [_, _], _ => rfl)
    f_law_digits := _
    d_law_digits := _
    F_law_digits := F10
    g_law_digits := PySem.W.mg_of X G a10
    b_law_digits := ((F10).binds (ps := ["cell", "count"]) fun _ _ _ _ _ _ us hl => match us, hl with | [_, _], _ => rfl)
    f_law_box := _
    d_law_box := _
    F_law_box := F11
    g_law_box := PySem.W.mg_of X G a11
    b_law_box := ((F11).binds (ps := ["script"]) fun _ _ _ _ _ _ us hl => match us, hl with | [_], _ => rfl)
    f_law_take := _
    d_law_take := _
    F_law_take := F12
    g_law_take := PySem.W.mg_of X G a12
    b_law_take := ((F12).binds (ps := ["box", "many"]) fun _ _ _ _ _ _ us hl => match us, hl with | [_, _], _ => rfl)
    f_law_pick := _
    d_law_pick := _
    F_law_pick := F13
    g_law_pick := PySem.W.mg_of X G a13
    b_law_pick := ((F13).binds (ps := ["box", "row"]) fun _ _ _ _ _ _ us hl => match us, hl with | [_, _], _ => rfl)
    f_law_word := _
    d_law_word := _
    F_law_word := F14
    g_law_word := PySem.W.mg_of X G a14
    b_law_word := ((F14).binds (ps := ["box", "size"]) fun _ _ _ _ _ _ us hl => match us, hl with | [_, _], _ => rfl)
    f_law_names := _
    d_law_names := _
    F_law_names := F15
    g_law_names := PySem.W.mg_of X G a15
    b_law_names := ((F15).binds (ps := ["box", "many"]) fun _ _ _ _ _ _ us hl => match us, hl with | [_, _], _ => rfl) }
    q2 := {
    f_law_kinds := _
    d_law_kinds := _
    F_law_kinds := F16
    g_law_kinds := PySem.W.mg_of X G a16
    b_law_kinds := ((F16).binds (ps := ["box", "many"]) fun _ _ _ _ _ _ us hl => match us, hl with | [_, _], _ => rfl)
    f_law_roads := _
    d_law_roads := _
    F_law_roads := F17
    g_law_roads := PySem.W.mg_of X G a17
    b_law_roads := ((F17).binds (ps := ["box", "offices"]) fun _ _ _ _ _ _ us hl => match us, hl with | [_, _], _ => rfl)
    f_law_what := _
    d_law_what := _
    F_law_what := F18
    g_law_what := PySem.W.mg_of X G a18
    b_law_what := ((F18).binds (ps := ["box", "last", "offices", "kinds"]) fun _ _ _ _ _ _ us hl => match us, hl with | [_, _, _, _], _ => rfl)
    f_law_amounts := _
    d_law_amounts := _
    F_law_amounts := F19
    g_law_amounts := PySem.W.mg_of X G a19
    b_law_amounts := ((F19).binds (ps := ["box", "great"]) fun _ _ _ _ _ _ us hl => match us, hl with | [_, _], _ => rfl)
    f_law_records := _
    d_law_records := _
    F_law_records := F20
    g_law_records := PySem.W.mg_of X G a20
    b_law_records := ((F20).binds (ps := ["box", "last", "offices", "kinds", "many", "great"]) fun _ _ _ _ _ _ us hl => match us, hl with | [_, _, _, _, _, _], _ => rfl)
    f_law_archive := _
    d_law_archive := _
    F_law_archive := F21
    g_law_archive := PySem.W.mg_of X G a21
    b_law_archive := ((F21).binds (ps := ["box", "most_days", "most_offices", "most_kinds", "most_records"]) fun _ _ _ _ _ _ us hl => match us, hl with | [_, _, _, _, _], _ => rfl)
    f_law_told := _
    d_law_told := _
    F_law_told := F22
    g_law_told := PySem.W.mg_of X G a22
    b_law_told := ((F22).binds (ps := ["record"]) fun _ _ _ _ _ _ us hl => match us, hl with | [_], _ => rfl)
    f_law_record_rows := _
    d_law_record_rows := _
    F_law_record_rows := F23
    g_law_record_rows := PySem.W.mg_of X G a23
    b_law_record_rows := ((F23).binds (ps := ["kinds", "record"]) fun _ _ _ _ _ _ us hl => match us, hl with | [_, _], _ => rfl) }
    q3 := {
    f_law_spot_rows := _
    d_law_spot_rows := _
    F_law_spot_rows := F24
    g_law_spot_rows := PySem.W.mg_of X G a24
    b_law_spot_rows := ((F24).binds (ps := ["last", "kind", "office", "day"]) fun _ _ _ _ _ _ us hl => match us, hl with | [_, _, _, _], _ => rfl)
    f_law_moves := _
    d_law_moves := _
    F_law_moves := F25
    g_law_moves := PySem.W.mg_of X G a25
    b_law_moves := ((F25).binds (ps := ["archive"]) fun _ _ _ _ _ _ us hl => match us, hl with | [_], _ => rfl)
    f_law_found := _
    d_law_found := _
    F_law_found := F26
    g_law_found := PySem.W.mg_of X G a26
    b_law_found := ((F26).binds (ps := ["archive", "name"]) fun _ _ _ _ _ _ us hl => match us, hl with | [_, _], _ => rfl)
    f_law := _
    d_law := _
    F_law := F27
    g_law := PySem.W.mg_of X G a27
    b_law := ((F27).binds (ps := ["script"]) fun _ _ _ _ _ _ us hl => match us, hl with | [_], _ => rfl) }
    q4 := {
    n_int := PySem.W.mg_none_of X G z_int
    n_isinstance := PySem.W.mg_none_of X G z_isinstance
    n_len := PySem.W.mg_none_of X G z_len
    n_list := PySem.W.mg_none_of X G z_list
    n_range := PySem.W.mg_none_of X G z_range
    n_sorted := PySem.W.mg_none_of X G z_sorted
    n_str := PySem.W.mg_none_of X G z_str
    n_tuple := PySem.W.mg_none_of X G z_tuple
    x_UnknownName := ⟨_, _, _, PySem.W.mg_of X G xg_UnknownName, ⟨⟨_, _, _, _, _, _, _, _, _, _, _, _, _, _, _, xl_UnknownName, xv_UnknownName⟩, xa_UnknownName, xs_UnknownName, xt_UnknownName, xk_UnknownName⟩, xo_UnknownName, xn_UnknownName, xu_UnknownName, fun_mk (st := s_ini_UnknownName) xL_UnknownName xC_UnknownName xK_UnknownName, (fun_mk (st := s_ini_UnknownName) xL_UnknownName xC_UnknownName xK_UnknownName).binds (ps := ["self", "name"]) (fun _ _ _ _ _ _ us hl => match us, hl with | [_, _], _ => rfl), exm_self xs_UnknownName xi_UnknownName xt_UnknownName xr_UnknownName, ⟨xb_UnknownName, xd_UnknownName, xs_UnknownName, xe_UnknownName⟩, ⟨xb_UnknownName, xd_UnknownName, xs_UnknownName, xe_UnknownName, xh_UnknownName, xj_UnknownName, xm_UnknownName, xp_UnknownName⟩⟩
    y_InvalidLine := ⟨_, PySem.W.mg_of X G yg_InvalidLine⟩
    y_NoHistory := ⟨_, PySem.W.mg_of X G yg_NoHistory⟩
    y_TooLarge := ⟨_, PySem.W.mg_of X G yg_TooLarge⟩
    z_UnknownName_InvalidLine := zz_UnknownName_InvalidLine
    z_UnknownName_NoHistory := zz_UnknownName_NoHistory
    z_UnknownName_TooLarge := zz_UnknownName_TooLarge
    nt_K := nt_of xnt
    c_OUTSIDE := ⟨_, .ref ad_OUTSIDE, PySem.W.mg_of X G y_OUTSIDE, rfl, fun F => .tup (.inr ⟨_, _, _, w_OUTSIDE, rfl, rfl, (show 1 ≤ sizeLine by decide), (.cons (show RelV (.str "outside") (.str "outside" tk_OUTSIDE_0) from ⟨_, rfl⟩) .nil)⟩) (.cons (.str _) .nil)⟩ } }
  exact ok_law T
end DL
open PySem PySem.W PyProof.Rows
set_option maxRecDepth 100000 in
set_option maxHeartbeats 0 in
theorem PySem.Challenge.cw_postsooth_k31_places_and_moves_holds : PySem.Challenge.rw_postsooth_k31_places_and_moves.Holds := by
  w_on; o_law; k_head; (case hw => w_witness2)
  k_fill
  refine L2.walk_of (l := PySem.Challenge.rw_postsooth_k31_places_and_moves) (n := 63) (k := 6) (x := "script") (CX := fun _ => L2.CX0) (sp := fun w => DL.liSp _ [] DL.sp_law) rfl (by decide) rfl ⟨rfl, by decide, by decide⟩ (fun w h Y => PySem.W.kIn_of Y) ?F (fun _ _ a ns hl _ hS => DL.law_spE (fun p hp => (nomatch hp)) (fun p hp => (nomatch hp)) hl hS) (fun _ _ _ _ _ h => h)
  case F =>
    intro w mg fa h KX G hmg
    refine' DL.all_mk KX G hmg ?a0 ?l0 ?c0 ?k0 ?a1 ?l1 ?c1 ?k1 ?a2 ?l2 ?c2 ?k2 ?a3 ?l3 ?c3 ?k3 ?a4 ?l4 ?c4 ?k4 ?a5 ?l5 ?c5 ?k5 ?a6 ?l6 ?c6 ?k6 ?a7 ?l7 ?c7 ?k7 ?a8 ?l8 ?c8 ?k8 ?a9 ?l9 ?c9 ?k9 ?a10 ?l10 ?c10 ?k10 ?a11 ?l11 ?c11 ?k11 ?a12 ?l12 ?c12 ?k12 ?a13 ?l13 ?c13 ?k13 ?a14 ?l14 ?c14 ?k14 ?a15 ?l15 ?c15 ?k15 ?a16 ?l16 ?c16 ?k16 ?a17 ?l17 ?c17 ?k17 ?a18 ?l18 ?c18 ?k18 ?a19 ?l19 ?c19 ?k19 ?a20 ?l20 ?c20 ?k20 ?a21 ?l21 ?c21 ?k21 ?a22 ?l22 ?c22 ?k22 ?a23 ?l23 ?c23 ?k23 ?a24 ?l24 ?c24 ?k24 ?a25 ?l25 ?c25 ?k25 ?a26 ?l26 ?c26 ?k26 ?a27 ?l27 ?c27 ?k27 ?z_int ?z_isinstance ?z_len ?z_list ?z_range ?z_sorted ?z_str ?z_tuple ?xg_UnknownName ?xl_UnknownName ?xv_UnknownName ?xa_UnknownName ?xs_UnknownName ?xt_UnknownName ?xk_UnknownName ?xo_UnknownName ?xn_UnknownName ?xu_UnknownName ?xL_UnknownName ?xC_UnknownName ?xK_UnknownName ?xi_UnknownName ?xr_UnknownName ?xb_UnknownName ?xd_UnknownName ?xe_UnknownName ?xh_UnknownName ?xj_UnknownName ?xm_UnknownName ?xp_UnknownName ?yg_InvalidLine ?yg_NoHistory ?yg_TooLarge ?zz_UnknownName_InvalidLine ?zz_UnknownName_NoHistory ?zz_UnknownName_TooLarge ?xnt ?y_OUTSIDE ?w_OUTSIDE
    (case a0 => k_is)
    (case l0 => k_is)
    (case c0 => k_is)
    (case k0 => k_is)
    (case a1 => k_is)
    (case l1 => k_is)
    (case c1 => k_is)
    (case k1 => k_is)
    (case a2 => k_is)
    (case l2 => k_is)
    (case c2 => k_is)
    (case k2 => k_is)
    (case a3 => k_is)
    (case l3 => k_is)
    (case c3 => k_is)
    (case k3 => k_is)
    (case a4 => k_is)
    (case l4 => k_is)
    (case c4 => k_is)
    (case k4 => k_is)
    (case a5 => k_is)
    (case l5 => k_is)
    (case c5 => k_is)
    (case k5 => k_is)
    (case a6 => k_is)
    (case l6 => k_is)
    (case c6 => k_is)
    (case k6 => k_is)
    (case a7 => k_is)
    (case l7 => k_is)
    (case c7 => k_is)
    (case k7 => k_is)
    (case a8 => k_is)
    (case l8 => k_is)
    (case c8 => k_is)
    (case k8 => k_is)
    (case a9 => k_is)
    (case l9 => k_is)
    (case c9 => k_is)
    (case k9 => k_is)
    (case a10 => k_is)
    (case l10 => k_is)
    (case c10 => k_is)
    (case k10 => k_is)
    (case a11 => k_is)
    (case l11 => k_is)
    (case c11 => k_is)
    (case k11 => k_is)
    (case a12 => k_is)
    (case l12 => k_is)
    (case c12 => k_is)
    (case k12 => k_is)
    (case a13 => k_is)
    (case l13 => k_is)
    (case c13 => k_is)
    (case k13 => k_is)
    (case a14 => k_is)
    (case l14 => k_is)
    (case c14 => k_is)
    (case k14 => k_is)
    (case a15 => k_is)
    (case l15 => k_is)
    (case c15 => k_is)
    (case k15 => k_is)
    (case a16 => k_is)
    (case l16 => k_is)
    (case c16 => k_is)
    (case k16 => k_is)
    (case a17 => k_is)
    (case l17 => k_is)
    (case c17 => k_is)
    (case k17 => k_is)
    (case a18 => k_is)
    (case l18 => k_is)
    (case c18 => k_is)
    (case k18 => k_is)
    (case a19 => k_is)
    (case l19 => k_is)
    (case c19 => k_is)
    (case k19 => k_is)
    (case a20 => k_is)
    (case l20 => k_is)
    (case c20 => k_is)
    (case k20 => k_is)
    (case a21 => k_is)
    (case l21 => k_is)
    (case c21 => k_is)
    (case k21 => k_is)
    (case a22 => k_is)
    (case l22 => k_is)
    (case c22 => k_is)
    (case k22 => k_is)
    (case a23 => k_is)
    (case l23 => k_is)
    (case c23 => k_is)
    (case k23 => k_is)
    (case a24 => k_is)
    (case l24 => k_is)
    (case c24 => k_is)
    (case k24 => k_is)
    (case a25 => k_is)
    (case l25 => k_is)
    (case c25 => k_is)
    (case k25 => k_is)
    (case a26 => k_is)
    (case l26 => k_is)
    (case c26 => k_is)
    (case k26 => k_is)
    (case a27 => k_is)
    (case l27 => k_is)
    (case c27 => k_is)
    (case k27 => k_is)
    (case z_int => k_is)
    (case z_isinstance => k_is)
    (case z_len => k_is)
    (case z_list => k_is)
    (case z_range => k_is)
    (case z_sorted => k_is)
    (case z_str => k_is)
    (case z_tuple => k_is)
    (case xg_UnknownName => k_is)
    (case xl_UnknownName => k_is)
    (case xv_UnknownName => first | rfl | kernel_rfl)
    (case xa_UnknownName => k_is)
    (case xs_UnknownName => k_is)
    (case xt_UnknownName => k_is)
    (case xk_UnknownName => k_is)
    (case xo_UnknownName => k_is)
    (case xn_UnknownName => k_is)
    (case xu_UnknownName => k_is)
    (case xL_UnknownName => k_is)
    (case xC_UnknownName => k_is)
    (case xK_UnknownName => k_is)
    (case xi_UnknownName => k_is)
    (case xr_UnknownName => first | rfl | k_is)
    (case xb_UnknownName => k_is)
    (case xd_UnknownName => k_is)
    (case xe_UnknownName => k_is)
    (case xh_UnknownName => k_is)
    (case xj_UnknownName => k_is)
    (case xm_UnknownName => k_is)
    (case xp_UnknownName => k_is)
    (case yg_InvalidLine => k_is)
    (case yg_NoHistory => k_is)
    (case yg_TooLarge => k_is)
    (case zz_UnknownName_InvalidLine => kernel_rfl)
    (case zz_UnknownName_NoHistory => kernel_rfl)
    (case zz_UnknownName_TooLarge => kernel_rfl)
    (case xnt => kernel_rfl)
    (case y_OUTSIDE => k_is)
    (case w_OUTSIDE => k_is)
