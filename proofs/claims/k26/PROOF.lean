import PyProof.Rows.All
import Wide.All
import OpenK.AllK
import Wide.FinOn
import HandS.ForMost
import HandS.IsInst
import HandS.TupAny
import HandS.TupMul
import HandS.Wide
import HandS.Nested
import HandS.Flow
import HandS.WordsExc
import HandS.SortInts
import PyProof.LongRange
import HandS.Gcd
import HandS.SortKw
import HandS.EndTab
import KE.KNestM
import KE.DataMinMax
import HandS.Rev
import HandS.Style
import HandS.TryOnly
import HandS.TryElse
import KE.DataCmp
import HandS.TupSets
import KE.KTupSum
import HandS.Deep
import HandS.Iter
import HandS.Text
import HandS.TupLe
import HandS.DictComp
import HandS.DictTup
import PySem.Challenge.RW_postsooth_k26_whole_postage_of_all_weigh
set_option Elab.async false
set_option linter.all false
set_option maxRecDepth 100000
/-! DL: a layer of immutable data over the hand layer. Data are trees (D); only what is changed in place stands in M (Mp). -/
namespace DL
open PySem PySem.Spec PyProof.Rows L2

/-- data: tuples and frozen lists as trees (lsk: a list that was there before, as the script); ref: an object that is changed in place, or any other thing at an address; fn: a function made when G was never changed again -/
inductive D where
  | non | bl (b : Bool) | int (i : Int) | str (x : Str) | ref (a : Addr) | ty (n : String) | fn (a : Addr) (G : Hp)
  | tup (xs : List D) | lst (xs : List D) | lsk (xs : List D)

/-- what stands at an address that may be changed -/
inductive MO where
  | lst (xs : List D)
  | dK (kvs : List (Key × D))
  | dT (kvs : List (List Key × D))
  | ins (C : Addr) (fs : List (Str × D))
  | raw (o : HO)
abbrev Mp := Addr → Option MO
def updM (M : Mp) (a : Addr) (o : MO) : Mp := fun b => if b = a then some o else M b
theorem updM_same {M : Mp} {a : Addr} {o : MO} : updM M a o a = some o := by unfold updM; rw [if_pos rfl]
theorem updM_ne {M : Mp} {a b : Addr} {o : MO} (h : b ≠ a) : updM M a o b = M b := by unfold updM; rw [if_neg h]
theorem updM_updM {M : Mp} {a : Addr} {o u : MO} : updM (updM M a o) a u = updM M a u := by
  funext b; unfold updM; split <;> rfl

def Ext (F F' : Hp) : Prop := ∀ a o, F a = some o → F' a = some o
theorem Ext.refl {F : Hp} : Ext F F := fun _ _ h => h
theorem Ext.trans {F F1 F2 : Hp} (a : Ext F F1) (b : Ext F1 F2) : Ext F F2 := fun c o h => b c o (a c o h)
section
variable (K : PySem.W.Frag)
mutual
/-- the value v stands for the data d; F holds what is never changed again -/
inductive Rep (F : Hp) : V → D → Prop
  | non : Rep F .non .non
  | bl (b : Bool) : Rep F (.bl b) (.bl b)
  | int (i : Int) : Rep F (.int i) (.int i)
  | str (x : Str) : Rep F (.str x) (.str x)
  | ref (a : Addr) : Rep F (.ref a) (.ref a)
  | ty (n : String) : Rep F (.ty n) (.ty n)
  | fn {a : Addr} {G : Hp} : Ext G F → Rep F (.ref a) (.fn a G)
  | tup {a : Addr} {xs : List V} {ds : List D} : SqT K F a xs → RepAll F xs ds → Rep F (.ref a) (.tup ds)
  | lst {a : Addr} {xs : List V} {ds : List D} : F a = some (.lst xs) → RepAll F xs ds → Rep F (.ref a) (.lst ds)
  | lsk {a : Addr} {xs : List V} {ds : List D} : SqL K F a xs → RepAll F xs ds → Rep F (.ref a) (.lsk ds)
inductive RepAll (F : Hp) : List V → List D → Prop
  | nil : RepAll F [] []
  | cons {v : V} {vs : List V} {d : D} {ds : List D} : Rep F v d → RepAll F vs ds → RepAll F (v :: vs) (d :: ds)
end
end
section
variable {K : PySem.W.Frag} {F F' : Hp}
theorem rdMono {a : Addr} {o : HO} (e : Ext F F') (h : Rd F a o) : Rd F' a o := by
  rcases h with h | ⟨u, h⟩
  · exact .inl (e _ _ h)
  · exact .inr ⟨u, e _ _ h⟩
theorem sqLMono {a : Addr} {xs : List V} (e : Ext F F') (h : SqL K F a xs) : SqL K F' a xs := h.elim (fun q => .inl (rdMono e q)) .inr
theorem sqTMono {a : Addr} {xs : List V} (e : Ext F F') (h : SqT K F a xs) : SqT K F' a xs := h.elim (fun q => .inl (rdMono e q)) .inr
mutual
theorem Rep.mono (e : Ext F F') : ∀ (d : D) (v : V), Rep K F v d → Rep K F' v d
  | .non, _, h => by cases h; exact .non
  | .bl b, _, h => by cases h; exact .bl b
  | .int i, _, h => by cases h; exact .int i
  | .str x, _, h => by cases h; exact .str x
  | .ref a, _, h => by cases h; exact .ref a
  | .ty n, _, h => by cases h; exact .ty n
  | .fn a G, _, h => by
    cases h with
    | fn g => exact .fn (g.trans e)
  | .tup ds, _, h => by
    cases h with
    | tup hs ha => exact .tup (sqTMono e hs) (RepAll.mono e ds _ ha)
  | .lst ds, _, h => by
    cases h with
    | lst hs ha => exact .lst (e _ _ hs) (RepAll.mono e ds _ ha)
  | .lsk ds, _, h => by
    cases h with
    | lsk hs ha => exact .lsk (sqLMono e hs) (RepAll.mono e ds _ ha)
theorem RepAll.mono (e : Ext F F') : ∀ (ds : List D) (vs : List V), RepAll K F vs ds → RepAll K F' vs ds
  | [], _, h => by cases h; exact .nil
  | d :: ds, _, h => by
    cases h with
    | cons h1 h2 => exact .cons (Rep.mono e d _ h1) (RepAll.mono e ds _ h2)
end
theorem Rep.ext {v : V} {d : D} (h : Rep K F v d) (e : Ext F F') : Rep K F' v d := Rep.mono e d v h
theorem RepAll.ext {vs : List V} {ds : List D} (h : RepAll K F vs ds) (e : Ext F F') : RepAll K F' vs ds := RepAll.mono e ds vs h
theorem RepAll.len : ∀ {vs : List V} {ds : List D}, RepAll K F vs ds → vs.length = ds.length
  | _, _, .nil => rfl
  | _, _, .cons _ t => congrArg (· + 1) (RepAll.len t)
theorem RepAll.get : ∀ {vs : List V} {ds : List D} {i : Nat} {v : V}, RepAll K F vs ds → vs[i]? = some v → ∃ d, ds[i]? = some d ∧ Rep K F v d
  | _, _, _, _, .nil, e => by simp at e
  | _, _, 0, _, .cons r _, e => by simp at e; subst e; exact ⟨_, rfl, r⟩
  | _, _, i + 1, v, .cons _ t, e => by
    obtain ⟨d, h1, h2⟩ := RepAll.get (i := i) (v := v) t (by simpa using e)
    exact ⟨d, by simpa using h1, h2⟩
theorem RepAll.getD : ∀ {vs : List V} {ds : List D} {i : Nat} {d : D}, RepAll K F vs ds → ds[i]? = some d → ∃ v, vs[i]? = some v ∧ Rep K F v d
  | _, _, _, _, .nil, e => by simp at e
  | _, _, 0, _, .cons r _, e => by simp at e; subst e; exact ⟨_, rfl, r⟩
  | _, _, i + 1, d, .cons _ t, e => by
    obtain ⟨v, h1, h2⟩ := RepAll.getD (i := i) (d := d) t (by simpa using e)
    exact ⟨v, by simpa using h1, h2⟩
theorem RepAll.app : ∀ {xs ys : List V} {ds es : List D}, RepAll K F xs ds → RepAll K F ys es → RepAll K F (xs ++ ys) (ds ++ es)
  | _, _, _, _, .nil, s => s
  | _, _, _, _, .cons r t, s => .cons r (RepAll.app t s)
theorem RepAll.tk : ∀ {xs : List V} {ds : List D} (n : Nat), RepAll K F xs ds → RepAll K F (xs.take n) (ds.take n)
  | _, _, 0, _ => .nil
  | _, _, _ + 1, .nil => .nil
  | _, _, n + 1, .cons r t => .cons r (RepAll.tk n t)
theorem RepAll.dp : ∀ {xs : List V} {ds : List D} (n : Nat), RepAll K F xs ds → RepAll K F (xs.drop n) (ds.drop n)
  | _, _, 0, r => r
  | _, _, _ + 1, .nil => .nil
  | _, _, n + 1, .cons _ t => RepAll.dp n t
theorem RepAll.put {v : V} {d : D} (r : Rep K F v d) : ∀ {xs : List V} {ds : List D} (i : Nat), RepAll K F xs ds → RepAll K F (xs.set i v) (ds.set i d)
  | _, _, _, .nil => .nil
  | _, _, 0, .cons _ t => .cons r t
  | _, _, i + 1, .cons q t => .cons q (RepAll.put r i t)
theorem RepAll.rev : ∀ {xs : List V} {ds : List D}, RepAll K F xs ds → RepAll K F xs.reverse ds.reverse
  | _, _, .nil => .nil
  | _, _, .cons r t => by
    rw [List.reverse_cons, List.reverse_cons]
    exact RepAll.app (RepAll.rev t) (.cons r .nil)
theorem RepAll.rpl {v : V} {d : D} (r : Rep K F v d) : ∀ n : Nat, RepAll K F (List.replicate n v) (List.replicate n d)
  | 0 => .nil
  | n + 1 => .cons r (RepAll.rpl r n)
theorem RepAll.ints : ∀ {vs : List V} {ns : List Int}, RepAll K F vs (ns.map D.int) → vs = ns.map V.int
  | _, [], h => by cases h; rfl
  | _, n :: ns, h => by
    cases h with
    | cons h1 h2 => cases h1; rw [RepAll.ints h2]; rfl
theorem RepAll.bls : ∀ {vs : List V} {ns : List Bool}, RepAll K F vs (ns.map D.bl) → vs = ns.map V.bl
  | _, [], h => by cases h; rfl
  | _, n :: ns, h => by
    cases h with
    | cons h1 h2 => cases h1; rw [RepAll.bls h2]; rfl
theorem RepAll.strs : ∀ {vs : List V} {ns : List Str}, RepAll K F vs (ns.map D.str) → vs = ns.map V.str
  | _, [], h => by cases h; rfl
  | _, n :: ns, h => by
    cases h with
    | cons h1 h2 => cases h1; rw [RepAll.strs h2]; rfl
theorem RepAll.ofInts : ∀ (ns : List Int), RepAll K F (ns.map V.int) (ns.map D.int)
  | [] => .nil
  | n :: ns => .cons (.int n) (RepAll.ofInts ns)
end

/-- the entries of a dict; the attributes of an instance -/
def RepKV (K : PySem.W.Frag) (F : Hp) {κ : Type} : List (κ × V) → List (κ × D) → Prop := Paired fun p q => p.1 = q.1 ∧ Rep K F p.2 q.2
theorem RepKV.ext {K : PySem.W.Frag} {F F' : Hp} {κ : Type} (e : Ext F F') : ∀ {xs : List (κ × V)} {ys : List (κ × D)}, RepKV K F xs ys → RepKV K F' xs ys
  | _, _, .nil => .nil
  | _, _, .cons r t => .cons ⟨r.1, r.2.ext e⟩ (RepKV.ext e t)
def RepO (K : PySem.W.Frag) (F : Hp) : HO → MO → Prop
  | .lst xs, .lst ds => RepAll K F xs ds
  | .dK kvs, .dK kds => RepKV K F kvs kds
  | .dT kvs, .dT kds => RepKV K F kvs kds
  | .ins C _ fs, .ins C' fs' => C = C' ∧ RepKV K F fs fs'
  | o, .raw o' => o = o'
  | _, _ => False
theorem RepO.ext {K : PySem.W.Frag} {F F' : Hp} (e : Ext F F') {o : HO} {m : MO} (h : RepO K F o m) : RepO K F' o m := by
  cases m with
  | lst ds => cases o <;> first | exact RepAll.ext h e | exact h
  | dK ds => cases o <;> first | exact RepKV.ext e h | exact h
  | dT ds => cases o <;> first | exact RepKV.ext e h | exact h
  | ins C fs => cases o <;> first | exact ⟨h.1, RepKV.ext e h.2⟩ | exact h
  | raw u => cases o <;> exact h
theorem RepO.lst_iff {K : PySem.W.Frag} {F : Hp} {o : HO} {ds : List D} (h : RepO K F o (.lst ds)) : ∃ xs, o = .lst xs ∧ RepAll K F xs ds := by
  cases o <;> first | exact ⟨_, rfl, h⟩ | exact h.elim

/-- what is set aside: known to the object; but where a code object's table stands, with the name of the lambdas of that code -/
def RsOk (H : Hp) (a : Addr) : HO → Prop
  | .xd fs => ∃ q : Str, fs = [(q, .non)] ∧ LamX.TabS H a q
  | o => H a = some o
theorem RsOk.there {H : Hp} {a : Addr} {o : HO} (h : RsOk H a o) (e : H a = none) : False := by
  cases o with
  | xd fs =>
    obtain ⟨q, _, ps, h1, _⟩ := h
    rw [e] at h1; cases h1
  | _ => have h : H a = some _ := h; rw [e] at h; cases h
/-- only what stands at x changes, and that is no code object -/
theorem RsOk.step {H H' : Hp} {a x : Addr} {o : HO} (h : RsOk H a o) (k : ∀ b u, b ≠ x → H b = some u → H' b = some u) (hx : a ≠ x) (hn : ∀ q, H x ≠ some (LamX.CodeO x q)) : RsOk H' a o := by
  cases o with
  | xd fs =>
    obtain ⟨q, e, ps, h1, h2, h3⟩ := h
    refine ⟨q, e, ps, k _ _ hx h1, h2, fun pos cv hc => ?_⟩
    obtain ⟨c, e1, e2⟩ := h3 pos cv hc
    exact ⟨c, e1, k _ _ (fun z => by subst z; exact hn q e2) e2⟩
  | _ => exact k _ _ hx h
/-- no thing of the free kind -/
def NX : HO → Prop
  | .ext _ => False
  | _ => True
/-- where the tables of T stand -/
def TabR (T : List (Addr × Str)) (R : Hp) : Prop := ∀ p ∈ T, R p.1 = some (.xd [(p.2, .non)])
theorem TabR.ext {T : List (Addr × Str)} {R R' : Hp} (h : TabR T R) (e : Ext R R') : TabR T R' := fun p hp => e _ _ (h p hp)
/-- the heap H: F never changed again, R set aside, M changed in place -/
structure Stt (K : PySem.W.Frag) (F R H : Hp) (M : Mp) : Prop where
  fz : ∀ a o, F a = some o → H a = some o
  rs : ∀ a o, R a = some o → RsOk H a o ∧ F a = none ∧ M a = none
  ow : ∀ a m, M a = some m → F a = none ∧ ∃ o, H a = some o ∧ RepO K F o m
  nf : ∀ a o, F a = some o → NX o
  nr : ∀ a o, R a = some o → NX o

abbrev SD := List (Option D)
abbrev QD := D → Mp → Prop
abbrev DE := SD → Mp → QD → Prop
abbrev DT := SD → Mp → (Bool → Mp → Prop) → Prop
abbrev DA := SD → Mp → (List D → Mp → Prop) → Prop
structure EndsD where
  nx : SD → Mp → Prop
  rt : QD
  bk : SD → Mp → Prop := fun _ _ => False
  ct : SD → Mp → Prop := fun _ _ => False
abbrev DS := EndsD → SD → Mp → Prop

def RepS (K : PySem.W.Frag) (F : Hp) : Option V → Option D → Prop
  | some v, some d => Rep K F v d
  | _, none => True
  | none, some _ => False
abbrev Slots (K : PySem.W.Frag) (F : Hp) : L2.St → SD → Prop := Paired (RepS K F)
section
variable {K : PySem.W.Frag} {F F' : Hp}
theorem RepS.ext (e : Ext F F') {x : Option V} {y : Option D} (h : RepS K F x y) : RepS K F' x y := by
  cases x <;> cases y <;> first | exact True.intro | exact h.elim | exact Rep.ext h e
theorem Slots.ext (e : Ext F F') : ∀ {σ : L2.St} {τ : SD}, Slots K F σ τ → Slots K F' σ τ
  | _, _, .nil => .nil
  | _, _, .cons r t => .cons (r.ext e) (Slots.ext e t)
theorem Slots.get : ∀ {σ : L2.St} {τ : SD} {i : Nat} {d : D}, Slots K F σ τ → τ[i]? = some (some d) → ∃ v, σ[i]? = some (some v) ∧ Rep K F v d
  | _, _, _, _, .nil, e => by simp at e
  | x :: _, _, 0, d, .cons r _, e => by
    simp at e; subst e
    cases x with
    | none => exact r.elim
    | some v => exact ⟨v, rfl, r⟩
  | _, _, i + 1, d, .cons _ t, e => by
    obtain ⟨v, h1, h2⟩ := Slots.get (i := i) (d := d) t (by simpa using e)
    exact ⟨v, by simpa using h1, h2⟩
theorem Slots.put {v : V} {d : D} (r : Rep K F v d) : ∀ {σ : L2.St} {τ : SD} (i : Nat), Slots K F σ τ → Slots K F (σ.set i (some v)) (τ.set i (some d))
  | _, _, _, .nil => .nil
  | _, _, 0, .cons _ t => .cons r t
  | _, _, i + 1, .cons q t => .cons q (Slots.put r i t)
theorem Slots.drop1 : ∀ {σ : L2.St} {τ : SD} (i : Nat), Slots K F σ τ → Slots K F (σ.set i none) (τ.set i none)
  | _, _, _, .nil => .nil
  | _, _, 0, .cons _ t => .cons True.intro t
  | _, _, i + 1, .cons q t => .cons q (Slots.drop1 i t)
end

/-- where a def's body began -/
structure Bs where
  F : Hp
  R : Hp
  T : List (Addr × Str)
structure Bas (b : Bs) (F R : Hp) : Prop where
  f : Ext b.F F
  r : Ext b.R R
  t : TabR b.T R
theorem Bas.trans {b : Bs} {F F2 R : Hp} (h : Bas b F R) (e : Ext F F2) : Bas b F2 R := ⟨h.f.trans e, h.r, h.t⟩
section
variable (K : PySem.W.Frag) (F0 : Bs)
/-- how what is wanted of a value carries over -/
def KE (F R : Hp) (Q' : QD) (Q : VK) : Prop := ∀ v H2 F2 d M2, Ext F F2 → Stt K F2 R H2 M2 → Rep K F2 v d → Q' d M2 → Q v H2
def liE (t : DE) : TE := fun σ H Q => ∃ F R τ M Q', Bas F0 F R ∧ Stt K F R H M ∧ Slots K F σ τ ∧ t τ M Q' ∧ KE K F R Q' Q
def KT (F R : Hp) (Q' : Bool → Mp → Prop) (Q : Bool → Hp → Prop) : Prop := ∀ b H2 F2 M2, Ext F F2 → Stt K F2 R H2 M2 → Q' b M2 → Q b H2
def liT (t : DT) : TT := fun σ H Q => ∃ F R τ M Q', Bas F0 F R ∧ Stt K F R H M ∧ Slots K F σ τ ∧ t τ M Q' ∧ KT K F R Q' Q
def KA (F R : Hp) (Q' : List D → Mp → Prop) (Q : List V → Hp → Prop) : Prop := ∀ vs H2 F2 ds M2, Ext F F2 → Stt K F2 R H2 M2 → RepAll K F2 vs ds → Q' ds M2 → Q vs H2
def liA (t : DA) : TA := fun σ H Q => ∃ F R τ M Q', Bas F0 F R ∧ Stt K F R H M ∧ Slots K F σ τ ∧ t τ M Q' ∧ KA K F R Q' Q
def KN (F R : Hp) (Q' : SD → Mp → Prop) (Q : L2.St → Hp → Prop) : Prop := ∀ σ2 H2 F2 τ2 M2, Ext F F2 → Stt K F2 R H2 M2 → Slots K F2 σ2 τ2 → Q' τ2 M2 → Q σ2 H2
structure KS (F R : Hp) (D' : EndsD) (D : Ends) : Prop where
  nx : KN K F R D'.nx D.nx
  rt : KE K F R D'.rt D.rt
  bk : KN K F R D'.bk D.bk
  ct : KN K F R D'.ct D.ct
def liS (t : DS) : TS := fun D σ H => ∃ F R τ M D', Bas F0 F R ∧ Stt K F R H M ∧ Slots K F σ τ ∧ t D' τ M ∧ KS K F R D' D
/-- values that are given: an operator's, a call's reading -/
def liR (r : D → D → Mp → QD → Prop) : R2 := fun x y H Q => ∃ F R M d e Q', Bas F0 F R ∧ Stt K F R H M ∧ Rep K F x d ∧ Rep K F y e ∧ r d e M Q' ∧ KE K F R Q' Q
def liU (r : D → Mp → QD → Prop) : V → Hp → VK → Prop := fun x H Q => ∃ F R M d Q', Bas F0 F R ∧ Stt K F R H M ∧ Rep K F x d ∧ r d M Q' ∧ KE K F R Q' Q
def liC (r : List D → Mp → QD → Prop) : List V → Hp → VK → Prop := fun xs H Q => ∃ F R M ds Q', Bas F0 F R ∧ Stt K F R H M ∧ RepAll K F xs ds ∧ r ds M Q' ∧ KE K F R Q' Q
def liM (r : D → List D → Mp → QD → Prop) : V → List V → Hp → VK → Prop := fun x xs H Q => ∃ F R M d ds Q', Bas F0 F R ∧ Stt K F R H M ∧ Rep K F x d ∧ RepAll K F xs ds ∧ r d ds M Q' ∧ KE K F R Q' Q
def liG (g : D → SD → Mp → (SD → Mp → Prop) → Prop) : TG := fun v σ H Q => ∃ F R τ M d Q', Bas F0 F R ∧ Stt K F R H M ∧ Slots K F σ τ ∧ Rep K F v d ∧ g d τ M Q' ∧ KN K F R Q' Q
end
section
variable {K : PySem.W.Frag} {F F2 R : Hp}
theorem KE.ext {Q' : QD} {Q : VK} (k : KE K F R Q' Q) (e : Ext F F2) : KE K F2 R Q' Q := fun v H2 F3 d M2 e2 => k v H2 F3 d M2 (e.trans e2)
theorem KT.ext {Q' : Bool → Mp → Prop} {Q : Bool → Hp → Prop} (k : KT K F R Q' Q) (e : Ext F F2) : KT K F2 R Q' Q := fun b H2 F3 M2 e2 => k b H2 F3 M2 (e.trans e2)
theorem KA.ext {Q' : List D → Mp → Prop} {Q : List V → Hp → Prop} (k : KA K F R Q' Q) (e : Ext F F2) : KA K F2 R Q' Q := fun b H2 F3 d M2 e2 => k b H2 F3 d M2 (e.trans e2)
theorem KN.ext {Q' : SD → Mp → Prop} {Q : L2.St → Hp → Prop} (k : KN K F R Q' Q) (e : Ext F F2) : KN K F2 R Q' Q := fun b H2 F3 d M2 e2 => k b H2 F3 d M2 (e.trans e2)
theorem KS.ext {D' : EndsD} {D : Ends} (k : KS K F R D' D) (e : Ext F F2) : KS K F2 R D' D := ⟨k.nx.ext e, k.rt.ext e, k.bk.ext e, k.ct.ext e⟩
end
/-- new at p, never changed again -/
theorem Stt.freeze {K : PySem.W.Frag} {F R H : Hp} {M : Mp} {p : Addr} {o : HO} (s : Stt K F R H M) (h : H p = none) (hx : NX o := by trivial) : Stt K (upd F p o) R (upd H p o) M ∧ Ext F (upd F p o) := by
  have fp : F p = none := by
    cases e : F p with
    | none => rfl
    | some u => rw [s.fz _ _ e] at h; cases h
  have ex : Ext F (upd F p o) := fun a u e => by rw [upd_ne (ne_of_none e fp)]; exact e
  have mp : ∀ a m, M a = some m → a ≠ p := fun a m e z => by
    subst z
    obtain ⟨_, u, e2, _⟩ := s.ow _ _ e
    rw [h] at e2; cases e2
  refine ⟨⟨fun a u e => ?_, fun a u e => ?_, fun a m e => ?_, fun a u e => ?_, s.nr⟩, ex⟩
  rotate_left 3
  · by_cases q : a = p
    · subst q; rw [upd_same] at e; cases e; exact hx
    · rw [upd_ne q] at e; exact s.nf a u e
  · by_cases q : a = p
    · subst q; rw [upd_same] at e ⊢; exact e
    · rw [upd_ne q] at e ⊢; exact s.fz _ _ e
  · obtain ⟨h1, h2, h3⟩ := s.rs _ _ e
    have q : a ≠ p := fun z => by subst z; exact h1.there h
    rw [upd_ne q]
    exact ⟨h1.step (fun b u n eb => by rw [upd_ne n]; exact eb) q (fun c z => by rw [h] at z; cases z), h2, h3⟩
  · obtain ⟨h1, u, h2, h3⟩ := s.ow _ _ e
    have q := mp _ _ e
    rw [upd_ne q, upd_ne q]
    exact ⟨h1, u, h2, h3.ext ex⟩
/-- new at p, to be changed in place -/
theorem Stt.own {K : PySem.W.Frag} {F R H : Hp} {M : Mp} {p : Addr} {o : HO} {m : MO} (s : Stt K F R H M) (h : H p = none) (r : RepO K F o m) : Stt K F R (upd H p o) (updM M p m) ∧ M p = none := by
  have fp : F p = none := by
    cases e : F p with
    | none => rfl
    | some u => rw [s.fz _ _ e] at h; cases h
  have mp : M p = none := by
    cases e : M p with
    | none => rfl
    | some u =>
      obtain ⟨_, u, e2, _⟩ := s.ow _ _ e
      rw [h] at e2; cases e2
  refine ⟨⟨fun a u e => ?_, fun a u e => ?_, fun a u e => ?_, s.nf, s.nr⟩, mp⟩
  · rw [upd_ne (ne_of_none e fp)]; exact s.fz _ _ e
  · obtain ⟨h1, h2, h3⟩ := s.rs _ _ e
    have q : a ≠ p := fun z => by subst z; exact h1.there h
    rw [updM_ne q]
    exact ⟨h1.step (fun b u n eb => by rw [upd_ne n]; exact eb) q (fun c z => by rw [h] at z; cases z), h2, h3⟩
  · by_cases q : a = p
    · subst q
      rw [updM_same] at e
      cases e
      exact ⟨fp, o, upd_same, r⟩
    · rw [updM_ne q] at e
      obtain ⟨h1, u, h2, h3⟩ := s.ow _ _ e
      exact ⟨h1, u, by rw [upd_ne q]; exact h2, h3⟩
/-- what stands at a is changed in place -/
theorem Stt.store {K : PySem.W.Frag} {F R H : Hp} {M : Mp} {a : Addr} {o : HO} {m m' : MO} (s : Stt K F R H M) (h : M a = some m) (hm : ∀ u, m ≠ .raw u) (r : RepO K F o m') : Stt K F R (upd H a o) (updM M a m') := by
  obtain ⟨fa, u, ha, ru⟩ := s.ow _ _ h
  have hn : ∀ q, H a ≠ some (LamX.CodeO a q) := fun q z => by
    rw [ha] at z
    cases z
    unfold LamX.CodeO at ru
    cases m with
    | raw v => exact hm v rfl
    | _ => exact ru
  refine ⟨fun b u e => ?_, fun b u e => ?_, fun b u e => ?_, s.nf, s.nr⟩
  · rw [upd_ne (ne_of_none e fa)]; exact s.fz _ _ e
  · obtain ⟨h1, h2, h3⟩ := s.rs _ _ e
    have q : b ≠ a := fun z => by subst z; rw [h] at h3; cases h3
    rw [updM_ne q]
    exact ⟨h1.step (fun c v n ec => by rw [upd_ne n]; exact ec) q hn, h2, h3⟩
  · by_cases q : b = a
    · subst q
      rw [updM_same] at e
      cases e
      exact ⟨fa, o, upd_same, r⟩
    · rw [updM_ne q] at e
      obtain ⟨h1, u, h2, h3⟩ := s.ow _ _ e
      exact ⟨h1, u, by rw [upd_ne q]; exact h2, h3⟩
/-- part of M is forgotten -/
theorem Stt.less {K : PySem.W.Frag} {F R H : Hp} {M M' : Mp} (s : Stt K F R H M) (h : ∀ a m, M' a = some m → M a = some m) : Stt K F R H M' :=
  ⟨s.fz, fun a o e => by
    obtain ⟨h1, h2, h3⟩ := s.rs a o e
    refine ⟨h1, h2, ?_⟩
    exact (match q : M' a with
      | none => rfl
      | some m => by rw [h _ _ q] at h3; cases h3), fun a m e => s.ow a m (h a m e), s.nf, s.nr⟩
/-- what was set aside is given up -/
theorem Stt.unset {K : PySem.W.Frag} {F R R' H : Hp} {M : Mp} (s : Stt K F R H M) (h : ∀ a o, R' a = some o → R a = some o) : Stt K F R' H M :=
  ⟨s.fz, fun a o e => s.rs a o (h a o e), s.ow, s.nf, fun a o e => s.nr a o (h a o e)⟩
/-- a part of M is set aside -/
theorem Stt.aside {K : PySem.W.Frag} {F R H : Hp} {M : Mp} {p : Addr} {o : HO} (s : Stt K F R H M) (h : RsOk H p o) (hf : F p = none) (hm : M p = none) (hx : NX o := by trivial) : Stt K F (upd R p o) H M :=
  ⟨s.fz, fun a u e => by
    exact if q : a = p then by subst q; rw [upd_same] at e; cases e; exact ⟨h, hf, hm⟩
      else by rw [upd_ne q] at e; exact s.rs a u e, s.ow, s.nf, fun a u e => if q : a = p then by subst q; rw [upd_same] at e; cases e; exact hx else by rw [upd_ne q] at e; exact s.nr a u e⟩
end DL

/-! DL, the rules: expressions -/
namespace DL
open PySem PySem.Spec PyProof.Rows L2

/-! ### readings are weakened -/
section
variable {X : Cx}
theorem peImp {e : Expr} {t t' : TE} (h : PE X e t) (k : ∀ σ H Q, t' σ H Q → t σ H Q) : PE X e t' := ⟨fun pins s σ H Q I q => h.run pins s σ H Q I (k _ _ _ q)⟩
theorem ptImp {e : Expr} {t t' : TT} (h : PT X e t) (k : ∀ σ H Q, t' σ H Q → t σ H Q) : PT X e t' := ⟨fun pins s σ H Q I q => h.run pins s σ H Q I (k _ _ _ q)⟩
theorem pwImp {e : Expr} {t t' : TT} (h : PW X e t) (k : ∀ σ H Q, t' σ H Q → t σ H Q) : PW X e t' := ⟨fun wh pins s σ H Q I q => h.run wh pins s σ H Q I (k _ _ _ q)⟩
theorem paImp {es : List Expr} {t t' : TA} (h : PA X es t) (k : ∀ σ H Q, t' σ H Q → t σ H Q) : PA X es t' := ⟨fun pos pins s σ H Q I q => h.run pos pins s σ H Q I (k _ _ _ q)⟩
theorem psImp {st : Stmt} {t t' : TS} (h : PS X st t) (k : ∀ D σ H, t' D σ H → t D σ H) : PS X st t' := ⟨fun pins s σ H D I q => h.run pins s σ H D I (k _ _ _ q)⟩
theorem pssImp {st : List Stmt} {t t' : TS} (h : PSs X st t) (k : ∀ D σ H, t' D σ H → t D σ H) : PSs X st t' := ⟨fun pins s σ H D I q => h.run pins s σ H D I (k _ _ _ q)⟩
theorem pgImp {e : Expr} {t t' : TG} (h : PG X e t) (k : ∀ v σ H Q, t' v σ H Q → t v σ H Q) : PG X e t' := ⟨fun pins s σ H v u Q I r q => h.run pins s σ H v u Q I r (k _ _ _ _ q)⟩
theorem opImp {f : Value → Value → Sem Value} {r r' : R2} (h : OpR X f r) (k : ∀ x y H Q, r' x y H Q → r x y H Q) : OpR X f r' := fun pins s σ H x y v u Q I rx ry q => h pins s σ H x y v u Q I rx ry (k _ _ _ _ q)
theorem unImp {f : Value → Sem Value} {r r' : V → Hp → VK → Prop} (h : UnR X f r) (k : ∀ x H Q, r' x H Q → r x H Q) : UnR X f r' := fun pins s σ H x v Q I rx q => h pins s σ H x v Q I rx (k _ _ _ q)
theorem caImp {f : Value} {r r' : List V → Hp → VK → Prop} (h : CallR X f r) (k : ∀ xs H Q, r' xs H Q → r xs H Q) : CallR X f r' := fun pins s σ H xs us Q I rx q => h pins s σ H xs us Q I rx (k _ _ _ q)
theorem ixImp {r r' : R2} (h : IxR X r) (k : ∀ x y H Q, r' x y H Q → r x y H Q) : IxR X r' := fun value slice pins s σ H x y v u Q I rx ry q => h value slice pins s σ H x y v u Q I rx ry (k _ _ _ _ q)
theorem mtImp {id : String} {r r' : V → List V → Hp → VK → Prop} (h : MtR X id r) (k : ∀ x xs H Q, r' x xs H Q → r x xs H Q) : MtR X id r' := fun pins s σ H x xs v us Q I rx rs q => h pins s σ H x xs v us Q I rx rs (k _ _ _ _ q)
end

/-- the items of a list; of a list or a tuple -/
def lsOf (M : Mp) : D → Option (List D)
  | .lst ds => some ds
  | .lsk ds => some ds
  | .ref a => match M a with
    | some (.lst ds) => some ds
    | _ => none
  | _ => none
/-- .. of a list that is tracked by itself -/
def ltOf (M : Mp) : D → Option (List D)
  | .lst ds => some ds
  | .ref a => match M a with
    | some (.lst ds) => some ds
    | _ => none
  | _ => none
def sqOf (M : Mp) : D → Option (List D)
  | .tup ds => some ds
  | .lst ds => some ds
  | .lsk ds => some ds
  | .ref a => match M a with
    | some (.lst ds) => some ds
    | _ => none
  | _ => none
theorem sqOf_cases {M : Mp} {d : D} {ds : List D} (h : sqOf M d = some ds) : d = .tup ds ∨ lsOf M d = some ds := by
  cases d with
  | tup es => exact .inl (congrArg D.tup (Option.some.inj h))
  | lst es => exact .inr h
  | lsk es => exact .inr h
  | ref a => exact .inr h
  | _ => cases h
section
variable {K : PySem.W.Frag} {F R H : Hp} {M : Mp}
theorem lt_get {x : V} {d : D} {ds : List D} (s : Stt K F R H M) (r : Rep K F x d) (h : ltOf M d = some ds) : ∃ a xs, x = .ref a ∧ H a = some (.lst xs) ∧ RepAll K F xs ds := by
  cases d with
  | lst es =>
    cases Option.some.inj h
    cases r with
    | lst hs ha => exact ⟨_, _, rfl, s.fz _ _ hs, ha⟩
  | ref a =>
    cases r
    have h' : (match M a with | some (.lst ds) => some ds | _ => none) = some ds := h
    split at h'
    · rename_i es e
      cases h'
      obtain ⟨_, o, ho, ro⟩ := s.ow _ _ e
      obtain ⟨xs, rfl, ra⟩ := ro.lst_iff
      exact ⟨a, xs, rfl, ho, ra⟩
    · cases h'
  | _ => cases h
theorem ls_get {x : V} {d : D} {ds : List D} (s : Stt K F R H M) (r : Rep K F x d) (h : lsOf M d = some ds) : ∃ a xs, x = .ref a ∧ SqL K H a xs ∧ RepAll K F xs ds := by
  cases d with
  | lst es =>
    cases Option.some.inj h
    cases r with
    | lst hs ha => exact ⟨_, _, rfl, .inl (.inl (s.fz _ _ hs)), ha⟩
  | lsk es =>
    cases Option.some.inj h
    cases r with
    | lsk hs ha => exact ⟨_, _, rfl, sqLMono s.fz hs, ha⟩
  | ref a =>
    cases r
    have h' : (match M a with | some (.lst ds) => some ds | _ => none) = some ds := h
    split at h'
    · rename_i es e
      cases h'
      obtain ⟨_, o, ho, ro⟩ := s.ow _ _ e
      obtain ⟨xs, rfl, ra⟩ := ro.lst_iff
      exact ⟨a, xs, rfl, .inl (.inl ho), ra⟩
    · cases h'
  | _ => cases h
theorem tp_get {x : V} {ds : List D} (s : Stt K F R H M) (r : Rep K F x (.tup ds)) : ∃ a xs, x = .ref a ∧ SqT K H a xs ∧ RepAll K F xs ds := by
  cases r with
  | tup hs ha => exact ⟨_, _, rfl, sqTMono s.fz hs, ha⟩
theorem sq_get {x : V} {d : D} {ds : List D} (s : Stt K F R H M) (r : Rep K F x d) (h : sqOf M d = some ds) : ∃ a xs, x = .ref a ∧ (SqL K H a xs ∨ SqT K H a xs) ∧ RepAll K F xs ds := by
  rcases sqOf_cases h with rfl | h
  · obtain ⟨a, xs, e, q, ra⟩ := tp_get s r
    exact ⟨a, xs, e, .inr q, ra⟩
  · obtain ⟨a, xs, e, q, ra⟩ := ls_get s r h
    exact ⟨a, xs, e, .inl q, ra⟩
/-- a new tuple, a new list: data from then on -/
theorem KE.tup {Q' : QD} {Q : VK} {xs : List V} {ds : List D} {p : Addr} (k : KE K F R Q' Q) (s : Stt K F R H M) (hp : H p = none) (r : RepAll K F xs ds) (q : Q' (.tup ds) M) : Q (.ref p) (upd H p (.tup xs)) := by
  obtain ⟨s2, e⟩ := s.freeze (o := .tup xs) hp
  exact k _ _ _ _ _ e s2 (.tup (.inl (.inl upd_same)) (r.ext e)) q
theorem KE.lst {Q' : QD} {Q : VK} {xs : List V} {ds : List D} {p : Addr} (k : KE K F R Q' Q) (s : Stt K F R H M) (hp : H p = none) (r : RepAll K F xs ds) (q : Q' (.lst ds) M) : Q (.ref p) (upd H p (.lst xs)) := by
  obtain ⟨s2, e⟩ := s.freeze (o := .lst xs) hp
  exact k _ _ _ _ _ e s2 (.lst upd_same (r.ext e)) q
theorem KE.own {Q' : QD} {Q : VK} {o : HO} {m : MO} {p : Addr} (k : KE K F R Q' Q) (s : Stt K F R H M) (hp : H p = none) (r : RepO K F o m) (q : M p = none → Q' (.ref p) (updM M p m)) : Q (.ref p) (upd H p o) := by
  obtain ⟨s2, mp⟩ := s.own hp r
  exact k _ _ _ _ _ Ext.refl s2 (.ref p) (q mp)
end

/-! ### names, constants -/
def dVar (i : Nat) : DE := fun τ M Q => match τ[i]? with
  | some (some d) => Q d M
  | _ => False
def dC (d : D) : DE := fun _ M Q => Q d M
section
variable {X : Cx} {F0 : Bs}
theorem pd_var {e : Expr} {i : Nat} (h : PE X e (tVar i)) : PE X e (liE X.K F0 (dVar i)) := by
  refine peImp h fun σ H Q ⟨F, R, τ, M, Q', e0, st, sl, q, k⟩ => ?_
  unfold dVar at q
  split at q
  · rename_i d ed
    obtain ⟨v, ev, r⟩ := sl.get ed
    exact ⟨v, ev, k _ _ _ _ _ Ext.refl st r q⟩
  · exact q.elim
theorem pd_c {e : Expr} {v : V} {d : D} (h : PE X e (tC v)) (r : ∀ F, Rep X.K F v d) : PE X e (liE X.K F0 (dC d)) :=
  peImp h fun σ H Q ⟨F, R, τ, M, Q', e0, st, sl, q, k⟩ => k _ _ _ _ _ Ext.refl st (r F) q
theorem pd_int {i j pos} : PE X (.Constant (.int i) j pos) (liE X.K F0 (dC (.int i))) := pd_c pe_int fun _ => .int i
theorem pd_bl {b j pos} : PE X (.Constant (.bool b) j pos) (liE X.K F0 (dC (.bl b))) := pd_c pe_bl fun _ => .bl b
theorem pd_non {j pos} : PE X (.Constant .none j pos) (liE X.K F0 (dC .non)) := pd_c pe_non fun _ => .non
theorem pd_str {x j pos} : PE X (.Constant (.str x) j pos) (liE X.K F0 (dC (.str x))) := pd_c pe_str fun _ => .str x
/-- the name in the i-th slot -/
theorem dv (i : Nat) {x : Str} {pos : Pos} (hN : X.N[i]? = some x := by rfl) (hv : Vis X.env.scope x := by first | exact Or.inl rfl | exact Or.inr (Or.inl rfl) | exact Or.inr (Or.inr rfl)) (hd : (x == ("__debug__" : Str)) = false := by decide)
    (hcd : (x == ("__classdict__" : Str)) = false := by decide) : PE X (.Name x pos) (liE X.K F0 (dVar i)) := pd_var (pe_var hN hv hd hcd)
/-- a module's constant -/
theorem pd_glob {x : Str} {v : V} {d : D} {u : Value} {pos : Pos} (hg : Gl X x) (hm : X.mg x = some u) (r : RelV v u) (rd : ∀ F, Rep X.K F v d) (hd : (x == ("__debug__" : Str)) = false := by decide) : PE X (.Name x pos) (liE X.K F0 (dC d)) := pd_c (pe_glob hg hm r hd) rd
theorem pd_bltn {x : Str} {v : V} {d : D} {u : Value} {pos : Pos} (hg : Gl X x) (hm : X.mg x = none) (hv : bootBuiltins x = some u) (r : RelV v u) (rd : ∀ F, Rep X.K F v d) (hn : x ≠ "__name__" := by decide) (hd : (x == ("__debug__" : Str)) = false := by decide) : PE X (.Name x pos) (liE X.K F0 (dC d)) := pd_c (pe_bltn hg hm hv r hn hd) rd
end

/-! ### two places -/
abbrev R2D := D → D → Mp → QD → Prop
def dOp (r : R2D) (ta tb : DE) : DE := fun τ M Q => ta τ M fun x M1 => tb τ M1 fun y M2 => r x y M2 Q
def dUn (r : D → Mp → QD → Prop) (ta : DE) : DE := fun τ M Q => ta τ M fun x M1 => r x M1 Q
theorem li_op {K : PySem.W.Frag} {F0 : Bs} {r : R2D} {ta tb : DE} {σ : L2.St} {H : Hp} {Q : VK} (h : liE K F0 (dOp r ta tb) σ H Q) : tOp (liR K F0 r) (liE K F0 ta) (liE K F0 tb) σ H Q := by
  obtain ⟨F, R, τ, M, Q', e0, st, sl, q, k⟩ := h
  refine ⟨F, R, τ, M, _, e0, st, sl, q, fun v H1 F1 d M1 e1 st1 r1 q1 => ?_⟩
  refine ⟨F1, R, τ, M1, _, e0.trans e1, st1, sl.ext e1, q1, fun u H2 F2 d2 M2 e2 st2 r2 q2 => ?_⟩
  exact ⟨F2, R, M2, d, d2, Q', e0.trans (e1.trans e2), st2, r1.ext e2, r2, q2, k.ext (e1.trans e2)⟩
theorem li_un {K : PySem.W.Frag} {F0 : Bs} {r : D → Mp → QD → Prop} {ta : DE} {σ : L2.St} {H : Hp} {Q : VK} (h : liE K F0 (dUn r ta) σ H Q) : tUn (liU K F0 r) (liE K F0 ta) σ H Q := by
  obtain ⟨F, R, τ, M, Q', e0, st, sl, q, k⟩ := h
  refine ⟨F, R, τ, M, _, e0, st, sl, q, fun v H1 F1 d M1 e1 st1 r1 q1 => ?_⟩
  exact ⟨F1, R, M1, d, Q', e0.trans e1, st1, r1, q1, k.ext e1⟩
section
variable {X : Cx} {F0 : Bs} {a b c : Expr} {ta tb tc : DE} {pos : Pos}
abbrev OpD (X : Cx) (F0 : Bs) (f : Value → Value → Sem Value) (r : R2D) : Prop := OpR X f (liR X.K F0 r)
theorem pd_op {op : Operator} {r : R2D} (ho : OpD X F0 (binaryOp op) r) (ha : PE X a (liE X.K F0 ta)) (hb : PE X b (liE X.K F0 tb)) : PE X (.BinOp a op b pos) (liE X.K F0 (dOp r ta tb)) :=
  peImp (pe_op ho ha hb) fun _ _ _ => li_op
theorem pd_un {op : UnaryOp} {r : D → Mp → QD → Prop} (ho : UnR X (unaryOp op) (liU X.K F0 r)) (ha : PE X a (liE X.K F0 ta)) : PE X (.UnaryOp op a pos) (liE X.K F0 (dUn r ta)) :=
  peImp (pe_un ho ha) fun _ _ _ => li_un
theorem pd_cmp {op : CmpOp} {r : R2D} (ho : OpD X F0 (compareOp op) r) (ha : PE X a (liE X.K F0 ta)) (hb : PE X b (liE X.K F0 tb)) (hm : behindInMarks op b = false) : PE X (.Compare a [op] [b] pos) (liE X.K F0 (dOp r ta tb)) :=
  peImp (pe_cmpR ho ha hb hm) fun _ _ _ => li_op
/-- a value as a test -/
def dTest (t : DE) : DT := fun τ M Q => t τ M fun d M1 => match d with
  | .bl k => Q k M1
  | _ => False
theorem li_test {K : PySem.W.Frag} {t : DE} {t0 : TE} (h0 : ∀ σ H Q, liE K F0 t σ H Q → t0 σ H Q) {σ : L2.St} {H : Hp} {Q : Bool → Hp → Prop} (h : liT K F0 (dTest t) σ H Q) : tTest t0 σ H Q := by
  obtain ⟨F, R, τ, M, Q', e0, st, sl, q, k⟩ := h
  refine h0 _ _ _ ⟨F, R, τ, M, _, e0, st, sl, q, fun v H1 F1 d M1 e1 st1 r1 q1 => ?_⟩
  cases d with
  | bl b => cases r1; exact ⟨b, rfl, k _ _ _ _ e1 st1 q1⟩
  | _ => exact q1.elim
theorem td_cmp {op : CmpOp} {r : R2D} (ho : OpD X F0 (compareOp op) r) (ha : PE X a (liE X.K F0 ta)) (hb : PE X b (liE X.K F0 tb)) (hm : behindInMarks op b = false) : PT X (.Compare a [op] [b] pos) (liT X.K F0 (dTest (dOp r ta tb))) :=
  ptImp (pt_cmpR ho ha hb hm) fun _ _ _ => li_test fun _ _ _ => li_op
def dChain (r r' : R2D) (ta tb tc : DE) : DE := fun τ M Q => ta τ M fun x M1 => tb τ M1 fun y M2 => r x y M2 fun z M3 => match z with
  | .bl true => tc τ M3 fun w M4 => r' y w M4 Q
  | .bl false => Q (.bl false) M3
  | _ => False
theorem li_chain {K : PySem.W.Frag} {r r' : R2D} {σ : L2.St} {H : Hp} {Q : VK} (h : liE K F0 (dChain r r' ta tb tc) σ H Q) : tChain (liR K F0 r) (liR K F0 r') (liE K F0 ta) (liE K F0 tb) (liE K F0 tc) σ H Q := by
  obtain ⟨F, R, τ, M, Q', e0, st, sl, q, k⟩ := h
  refine ⟨F, R, τ, M, _, e0, st, sl, q, fun v H1 F1 d M1 e1 st1 r1 q1 => ?_⟩
  refine ⟨F1, R, τ, M1, _, e0.trans e1, st1, sl.ext e1, q1, fun u H2 F2 d2 M2 e2 st2 r2 q2 => ?_⟩
  refine ⟨F2, R, M2, d, d2, _, e0.trans (e1.trans e2), st2, r1.ext e2, r2, q2, fun z H3 F3 dz M3 e3 st3 r3 q3 => ?_⟩
  cases dz with
  | bl b =>
    cases r3
    cases b with
    | true =>
      refine ⟨true, rfl, ?_⟩
      rw [if_pos rfl]
      refine ⟨F3, R, τ, M3, _, e0.trans (e1.trans (e2.trans e3)), st3, sl.ext (e1.trans (e2.trans e3)), q3, fun z2 H4 F4 d4 M4 e4 st4 r4 q4 => ?_⟩
      exact ⟨F4, R, M4, d2, d4, Q', e0.trans (e1.trans (e2.trans (e3.trans e4))), st4, r2.ext (e3.trans e4), r4, q4, k.ext (e1.trans (e2.trans (e3.trans e4)))⟩
    | false => exact ⟨false, rfl, by rw [if_neg Bool.false_ne_true]; exact k _ _ _ _ _ (e1.trans (e2.trans e3)) st3 (.bl false) q3⟩
  | _ => exact q3.elim
theorem pd_chain {op op' : CmpOp} {r r' : R2D} (ho : OpD X F0 (compareOp op) r) (ho' : OpD X F0 (compareOp op') r') (ha : PE X a (liE X.K F0 ta)) (hb : PE X b (liE X.K F0 tb)) (hc : PE X c (liE X.K F0 tc))
    (hm : lastMarks [op, op'] [b, c] = false := by with_unfolding_all rfl) : PE X (.Compare a [op, op'] [b, c] pos) (liE X.K F0 (dChain r r' ta tb tc)) :=
  peImp (pe_chain ho ho' ha hb hc hm) fun _ _ _ => li_chain
theorem td_chain {op op' : CmpOp} {r r' : R2D} (ho : OpD X F0 (compareOp op) r) (ho' : OpD X F0 (compareOp op') r') (ha : PE X a (liE X.K F0 ta)) (hb : PE X b (liE X.K F0 tb)) (hc : PE X c (liE X.K F0 tc))
    (hm : lastMarks [op, op'] [b, c] = false := by with_unfolding_all rfl) : PT X (.Compare a [op, op'] [b, c] pos) (liT X.K F0 (dTest (dChain r r' ta tb tc))) :=
  ptImp (pt_chain ho ho' ha hb hc hm) fun _ _ _ => li_test fun _ _ _ => li_chain
end

/-! ### a value's truth -/
def dTru (d : D) (M : Mp) (Q : Bool → Mp → Prop) : Prop := match d with
  | .non => Q false M
  | .bl b => Q b M
  | .int i => Q (i != 0) M
  | .str x => x.length ≤ sizeLine ∧ Q ((x.length : Int) != 0) M
  | .tup ds => Q (!ds.isEmpty) M
  | .lst ds => Q (!ds.isEmpty) M
  | .lsk ds => Q (!ds.isEmpty) M
  | .ref a => match M a with
    | some (.lst ds) => Q (!ds.isEmpty) M
    | some (.dK kvs) => Q (!kvs.isEmpty) M
    | _ => False
  | _ => False
theorem RepAll.emp {K : PySem.W.Frag} {F : Hp} {xs : List V} {ds : List D} (r : RepAll K F xs ds) : ds.isEmpty = xs.isEmpty := by cases r <;> rfl
theorem RepKV.emp {K : PySem.W.Frag} {F : Hp} {κ : Type} {xs : List (κ × V)} {ds : List (κ × D)} (r : RepKV K F xs ds) : ds.isEmpty = xs.isEmpty := by cases r <;> rfl
theorem tru_get {K : PySem.W.Frag} {F R H : Hp} {M : Mp} {x : V} {d : D} {Q' : Bool → Mp → Prop} {Q : Bool → Hp → Prop} (s : Stt K F R H M) (r : Rep K F x d) (h : dTru d M Q') (k : KT K F R Q' Q) : ∃ b, TruV K x H b ∧ Q b H := by
  cases d with
  | non => cases r; exact ⟨false, rfl, k _ _ _ _ Ext.refl s h⟩
  | bl b => cases r; exact ⟨b, rfl, k _ _ _ _ Ext.refl s h⟩
  | int i => cases r; exact ⟨_, rfl, k _ _ _ _ Ext.refl s h⟩
  | str x => cases r; exact ⟨_, ⟨h.1, rfl⟩, k _ _ _ _ Ext.refl s h.2⟩
  | tup ds =>
    obtain ⟨a, xs, rfl, q, ra⟩ := tp_get s r
    have h : Q' (!ds.isEmpty) M := h
    rw [ra.emp] at h
    exact ⟨_, .inr (.inl ⟨xs, q, rfl⟩), k _ _ _ _ Ext.refl s h⟩
  | lst ds =>
    obtain ⟨a, xs, rfl, q, ra⟩ := ls_get (M := M) (ds := ds) s r rfl
    have h : Q' (!ds.isEmpty) M := h
    rw [ra.emp] at h
    exact ⟨_, .inl ⟨xs, q, rfl⟩, k _ _ _ _ Ext.refl s h⟩
  | lsk ds =>
    obtain ⟨a, xs, rfl, q, ra⟩ := ls_get (M := M) (ds := ds) s r rfl
    have h : Q' (!ds.isEmpty) M := h
    rw [ra.emp] at h
    exact ⟨_, .inl ⟨xs, q, rfl⟩, k _ _ _ _ Ext.refl s h⟩
  | ref a =>
    have h : (match M a with
      | some (.lst ds) => Q' (!ds.isEmpty) M
      | some (.dK kvs) => Q' (!kvs.isEmpty) M
      | _ => False) := h
    cases r
    split at h
    · rename_i ds e
      obtain ⟨_, o, ho, ro⟩ := s.ow _ _ e
      obtain ⟨xs, rfl, ra⟩ := ro.lst_iff
      rw [ra.emp] at h
      exact ⟨_, .inl ⟨xs, .inl (.inl ho), rfl⟩, k _ _ _ _ Ext.refl s h⟩
    · rename_i kvs e
      obtain ⟨_, o, ho, ro⟩ := s.ow _ _ e
      cases o <;> try exact ro.elim
      rename_i kvs'
      have ra : RepKV K F kvs' kvs := ro
      rw [ra.emp] at h
      exact ⟨_, .inr (.inr ⟨kvs', ho, rfl⟩), k _ _ _ _ Ext.refl s h⟩
    · exact h.elim
  | ty n => exact h.elim
  | fn a G => exact h.elim
def dTruth (t : DE) : DT := fun τ M Q => t τ M fun d M1 => dTru d M1 Q
section
variable {X : Cx} {F0 : Bs} {a b c : Expr} {ta tb tc : DE} {rest : List Expr} {pos : Pos}
theorem td_tru (ha : PE X a (liE X.K F0 ta)) (he : ∀ whole, isTrue a X.env whole = (do let v ← whole; standAt a.pos; holding [v] (truthy v)) := by intro _; rfl) : PT X a (liT X.K F0 (dTruth ta)) := by
  refine ptImp (pt_truth ha he) fun σ H Q ⟨F, R, τ, M, Q', e0, st, sl, q, k⟩ => ?_
  exact ⟨F, R, τ, M, _, e0, st, sl, q, fun v H1 F1 d M1 e1 st1 r1 q1 => tru_get st1 r1 q1 (k.ext e1)⟩
/-- x or y, x and y, not x as values -/
def dOr (ta tb : DE) : DE := fun τ M Q => ta τ M fun x M1 => dTru x M1 fun k M2 => if k = true then Q x M2 else tb τ M2 Q
def dAnd (ta tb : DE) : DE := fun τ M Q => ta τ M fun x M1 => dTru x M1 fun k M2 => if k = true then tb τ M2 Q else Q x M2
def dNot (ta : DE) : DE := fun τ M Q => ta τ M fun x M1 => dTru x M1 fun k M2 => Q (.bl (!k)) M2
/-- the truth of a value leaves everything -/
theorem dTru_pure {d : D} {M : Mp} {Q : Bool → Mp → Prop} (h : dTru d M Q) : ∃ b, Q b M ∧ ∀ Q2 : Bool → Mp → Prop, Q2 b M → dTru d M Q2 := by
  cases d with
  | non => exact ⟨_, h, fun _ z => z⟩
  | bl b => exact ⟨_, h, fun _ z => z⟩
  | int b => exact ⟨_, h, fun _ z => z⟩
  | str b => exact ⟨_, h.2, fun _ z => ⟨h.1, z⟩⟩
  | tup ds => exact ⟨_, h, fun _ z => z⟩
  | lst ds => exact ⟨_, h, fun _ z => z⟩
  | lsk ds => exact ⟨_, h, fun _ z => z⟩
  | ty n => exact h.elim
  | fn a G => exact h.elim
  | ref a =>
    have h : (match M a with
      | some (.lst ds) => Q (!ds.isEmpty) M
      | some (.dK kvs) => Q (!kvs.isEmpty) M
      | _ => False) := h
    show ∃ b, Q b M ∧ ∀ Q2 : Bool → Mp → Prop, Q2 b M → (match M a with
      | some (.lst ds) => Q2 (!ds.isEmpty) M
      | some (.dK kvs) => Q2 (!kvs.isEmpty) M
      | _ => False)
    split at h
    · exact ⟨_, h, fun Q2 z => z⟩
    · exact ⟨_, h, fun Q2 z => z⟩
    · exact h.elim
theorem tru_get2 {K : PySem.W.Frag} {F R H : Hp} {M : Mp} {x : V} {d : D} {Q' : Bool → Mp → Prop} (s : Stt K F R H M) (r : Rep K F x d) (h : dTru d M Q') : ∃ b, TruV K x H b ∧ Q' b M := by
  obtain ⟨b, q, h2⟩ := dTru_pure h
  have h3 := h2 (fun c M2 => c = b ∧ M2 = M) ⟨rfl, rfl⟩
  obtain ⟨c, t, e⟩ := tru_get (Q := fun c H2 => c = b) s r h3 fun c H2 F2 M2 _ _ z => z.1
  subst e
  exact ⟨c, t, q⟩
theorem pd_or (ha : PE X a (liE X.K F0 ta)) (hb : PE X (.BoolOp .Or (b :: rest) pos) (liE X.K F0 tb)) : PE X (.BoolOp .Or (a :: b :: rest) pos) (liE X.K F0 (dOr ta tb)) := by
  refine peImp (pe_orT ha hb) fun σ H Q ⟨F, R, τ, M, Q', e0, st, sl, q, k⟩ => ?_
  refine ⟨F, R, τ, M, _, e0, st, sl, q, fun v H1 F1 d M1 e1 st1 r1 q1 => ?_⟩
  obtain ⟨b, t, q2⟩ := tru_get2 st1 r1 q1
  refine ⟨b, t, ?_⟩
  cases b with
  | true => rw [if_pos rfl] at q2 ⊢; exact k _ _ _ _ _ e1 st1 r1 q2
  | false =>
    rw [if_neg Bool.false_ne_true] at q2 ⊢
    exact ⟨F1, R, τ, M1, _, e0.trans e1, st1, sl.ext e1, q2, k.ext e1⟩
theorem pd_and (ha : PE X a (liE X.K F0 ta)) (hb : PE X (.BoolOp .And (b :: rest) pos) (liE X.K F0 tb)) : PE X (.BoolOp .And (a :: b :: rest) pos) (liE X.K F0 (dAnd ta tb)) := by
  refine peImp (pe_andT ha hb) fun σ H Q ⟨F, R, τ, M, Q', e0, st, sl, q, k⟩ => ?_
  refine ⟨F, R, τ, M, _, e0, st, sl, q, fun v H1 F1 d M1 e1 st1 r1 q1 => ?_⟩
  obtain ⟨b, t, q2⟩ := tru_get2 st1 r1 q1
  refine ⟨b, t, ?_⟩
  cases b with
  | false => rw [if_neg Bool.false_ne_true] at q2 ⊢; exact k _ _ _ _ _ e1 st1 r1 q2
  | true =>
    rw [if_pos rfl] at q2 ⊢
    exact ⟨F1, R, τ, M1, _, e0.trans e1, st1, sl.ext e1, q2, k.ext e1⟩
theorem pd_one {op} (ha : PE X a (liE X.K F0 ta)) : PE X (.BoolOp op [a] pos) (liE X.K F0 ta) := pe_one ha
theorem pd_not (ha : PE X a (liE X.K F0 ta)) : PE X (.UnaryOp .Not a pos) (liE X.K F0 (dNot ta)) := by
  refine peImp (pe_notT ha) fun σ H Q ⟨F, R, τ, M, Q', e0, st, sl, q, k⟩ => ?_
  refine ⟨F, R, τ, M, _, e0, st, sl, q, fun v H1 F1 d M1 e1 st1 r1 q1 => ?_⟩
  obtain ⟨b, t, q2⟩ := tru_get2 st1 r1 q1
  exact ⟨b, t, k _ _ _ _ _ e1 st1 (.bl _) q2⟩
/-- tests: and, or, not -/
def dTAnd (t u : DT) : DT := fun τ M Q => t τ M fun c M1 => if c = true then u τ M1 Q else Q false M1
def dTOr (t u : DT) : DT := fun τ M Q => t τ M fun c M1 => if c = true then Q true M1 else u τ M1 Q
def dTNot (t : DT) : DT := fun τ M Q => t τ M fun c M1 => Q (!c) M1
variable {tA tB' : DT}
theorem wd_and1 (ha : PT X a (liT X.K F0 tA)) : PW X (.BoolOp .And [a] pos) (liT X.K F0 tA) := pw_and1 ha
theorem wd_or1 (ha : PT X a (liT X.K F0 tA)) : PW X (.BoolOp .Or [a] pos) (liT X.K F0 tA) := pw_or1 ha
theorem wd_and (ha : PT X a (liT X.K F0 tA)) (hb : PW X (.BoolOp .And (b :: rest) pos) (liT X.K F0 tB')) : PW X (.BoolOp .And (a :: b :: rest) pos) (liT X.K F0 (dTAnd tA tB')) := by
  refine pwImp (pw_and ha hb) fun σ H Q ⟨F, R, τ, M, Q', e0, st, sl, q, k⟩ => ?_
  refine ⟨F, R, τ, M, _, e0, st, sl, q, fun b H1 F1 M1 e1 st1 q1 => ?_⟩
  cases b with
  | true => rw [if_pos rfl] at q1 ⊢; exact ⟨F1, R, τ, M1, _, e0.trans e1, st1, sl.ext e1, q1, k.ext e1⟩
  | false => rw [if_neg Bool.false_ne_true] at q1 ⊢; exact k _ _ _ _ e1 st1 q1
theorem wd_or (ha : PT X a (liT X.K F0 tA)) (hb : PW X (.BoolOp .Or (b :: rest) pos) (liT X.K F0 tB')) : PW X (.BoolOp .Or (a :: b :: rest) pos) (liT X.K F0 (dTOr tA tB')) := by
  refine pwImp (pw_or ha hb) fun σ H Q ⟨F, R, τ, M, Q', e0, st, sl, q, k⟩ => ?_
  refine ⟨F, R, τ, M, _, e0, st, sl, q, fun b H1 F1 M1 e1 st1 q1 => ?_⟩
  cases b with
  | false => rw [if_neg Bool.false_ne_true] at q1 ⊢; exact ⟨F1, R, τ, M1, _, e0.trans e1, st1, sl.ext e1, q1, k.ext e1⟩
  | true => rw [if_pos rfl] at q1 ⊢; exact k _ _ _ _ e1 st1 q1
theorem td_not (ha : PT X a (liT X.K F0 tA)) : PT X (.UnaryOp .Not a pos) (liT X.K F0 (dTNot tA)) :=
  ptImp (pt_not ha) fun σ H Q ⟨F, R, τ, M, Q', e0, st, sl, q, k⟩ => ⟨F, R, τ, M, _, e0, st, sl, q, fun b H1 F1 M1 e1 st1 q1 => k _ _ _ _ e1 st1 q1⟩
/-- a if t else b -/
def dIf (t : DT) (ta tb : DE) : DE := fun τ M Q => t τ M fun c M1 => if c = true then ta τ M1 Q else tb τ M1 Q
theorem pd_if (hc : PT X c (liT X.K F0 tA)) (ha : PE X a (liE X.K F0 ta)) (hb : PE X b (liE X.K F0 tb)) : PE X (.IfExp c a b pos) (liE X.K F0 (dIf tA ta tb)) := by
  refine peImp (pe_ifExp hc ha hb) fun σ H Q ⟨F, R, τ, M, Q', e0, st, sl, q, k⟩ => ?_
  refine ⟨F, R, τ, M, _, e0, st, sl, q, fun b H1 F1 M1 e1 st1 q1 => ?_⟩
  cases b with
  | true => rw [if_pos rfl] at q1 ⊢; exact ⟨F1, R, τ, M1, _, e0.trans e1, st1, sl.ext e1, q1, k.ext e1⟩
  | false => rw [if_neg Bool.false_ne_true] at q1 ⊢; exact ⟨F1, R, τ, M1, _, e0.trans e1, st1, sl.ext e1, q1, k.ext e1⟩
end
end DL

/-! DL, the rules: operators, displays, subscripts -/
namespace DL
open PySem PySem.Spec PyProof.Rows L2

/-! ### ints -/
def dI (C : Int → Int → Prop) (g : Int → Int → Int) : R2D := fun x y M Q => match x, y with
  | .int i, .int j => C i j ∧ Q (.int (g i j)) M
  | _, _ => False
def dI0 (g : Int → Int → Int) : R2D := fun x y M Q => match x, y with
  | .int i, .int j => Q (.int (g i j)) M
  | _, _ => False
def dB0 (g : Int → Int → Bool) : R2D := fun x y M Q => match x, y with
  | .int i, .int j => Q (.bl (g i j)) M
  | _, _ => False
section
variable {X : Cx} {F0 : Bs} {f : Value → Value → Sem Value}
theorem od_I {C : Int → Int → Prop} {g : Int → Int → Int} (h : OpR X f (rI C fun i j => .int (g i j))) : OpD X F0 f (dI C g) := by
  refine opImp h fun x y H Q ⟨F, R, M, d, e, Q', e0, st, rx, ry, q, k⟩ => ?_
  cases d <;> try exact q.elim
  cases e <;> try exact q.elim
  cases rx; cases ry
  exact ⟨_, _, rfl, rfl, q.1, k _ _ _ _ _ Ext.refl st (.int _) q.2⟩
theorem od_I0 {g : Int → Int → Int} (h : OpR X f (rI0 fun i j => .int (g i j))) : OpD X F0 f (dI0 g) := by
  refine opImp h fun x y H Q ⟨F, R, M, d, e, Q', e0, st, rx, ry, q, k⟩ => ?_
  cases d <;> try exact q.elim
  cases e <;> try exact q.elim
  cases rx; cases ry
  exact ⟨_, _, rfl, rfl, k _ _ _ _ _ Ext.refl st (.int _) q⟩
theorem od_B0 {g : Int → Int → Bool} (h : OpR X f (rI0 fun i j => .bl (g i j))) : OpD X F0 f (dB0 g) := by
  refine opImp h fun x y H Q ⟨F, R, M, d, e, Q', e0, st, rx, ry, q, k⟩ => ?_
  cases d <;> try exact q.elim
  cases e <;> try exact q.elim
  cases rx; cases ry
  exact ⟨_, _, rfl, rfl, k _ _ _ _ _ Ext.refl st (.bl _) q⟩
abbrev dSub : R2D := dI0 fun i j => i - j
abbrev dFdiv : R2D := dI CDivW fun i j => i / j
abbrev dMod : R2D := dI (fun _ j => 0 < j) fun i j => i % j
abbrev dPow : R2D := dI CPow fun i j => i ^ j.toNat
abbrev dLt : R2D := dB0 fun i j => decide (i < j)
abbrev dLe : R2D := dB0 fun i j => decide (i ≤ j)
abbrev dGt : R2D := dB0 fun i j => decide (j < i)
abbrev dGe : R2D := dB0 fun i j => decide (j ≤ i)
theorem od_sub : OpD X F0 (binaryOp .Sub) dSub := od_I0 op_sub
theorem od_fdiv : OpD X F0 (binaryOp .FloorDiv) dFdiv := od_I op_fdivW
theorem od_mod : OpD X F0 (binaryOp .Mod) dMod := od_I op_mod
theorem od_pow : OpD X F0 (binaryOp .Pow) dPow := od_I op_pow
theorem od_lt : OpD X F0 (compareOp .Lt) dLt := od_B0 op_lt
theorem od_le : OpD X F0 (compareOp .LtE) dLe := od_B0 op_le
theorem od_gt : OpD X F0 (compareOp .Gt) dGt := od_B0 op_gt
theorem od_ge : OpD X F0 (compareOp .GtE) dGe := od_B0 op_ge
def dNeg : D → Mp → QD → Prop := fun x M Q => match x with
  | .int i => Q (.int (-i)) M
  | _ => False
theorem ud_neg : UnR X (unaryOp .USub) (liU X.K F0 dNeg) := by
  refine unImp un_neg fun x H Q ⟨F, R, M, d, Q', e0, st, rx, q, k⟩ => ?_
  cases d <;> try exact q.elim
  cases rx
  exact ⟨_, rfl, k _ _ _ _ _ Ext.refl st (.int _) q⟩

/-- + of ints, texts, tuples, lists (a new list) -/
def dAdd : R2D := fun x y M Q => match x, y with
  | .int i, .int j => Q (.int (i + j)) M
  | .str a, .str b => a.length + b.length ≤ sizeLine ∧ Q (.str (a ++ b)) M
  | .tup xs, .tup ys => xs.length + ys.length ≤ sizeLine ∧ Q (.tup (xs ++ ys)) M
  | x, y => match ltOf M x, ltOf M y with
    | some xs, some ys => xs.length + ys.length ≤ sizeLine ∧ Q (.lst (xs ++ ys)) M
    | _, _ => False
theorem od_add : OpD X F0 (binaryOp .Add) dAdd := by
  intro pins s σ H x y v u Q I rx ry ⟨F, R, M, d, e, Q', e0, st, rd, re, q, k⟩
  unfold dAdd at q
  split at q
  · cases rd; cases re
    exact op_add pins s σ H _ _ v u Q I rx ry ⟨_, _, rfl, rfl, k _ _ _ _ _ Ext.refl st (.int _) q⟩
  · cases rd; cases re
    exact op_add_str pins s σ H _ _ v u Q I rx ry ⟨_, _, rfl, rfl, q.1, k _ _ _ _ _ Ext.refl st (.str _) q.2⟩
  · rename_i xs ys
    have rd0 := rd
    have re0 := re
    obtain ⟨a, vs, rfl, h1, ra⟩ := tp_get st rd
    obtain ⟨b, us, rfl, h2, rb⟩ := tp_get st re
    refine op_catA pins s σ H _ _ v u Q I rx ry ⟨a, b, vs, us, rfl, rfl, h1, h2, by rw [ra.len, rb.len]; exact q.1, fun z => ?_, fun _ z => ?_, fun _ _ p hp => k.tup st hp (ra.app rb) q.2⟩
    · subst z
      cases ra
      exact k _ _ _ _ _ Ext.refl st re0 q.2
    · subst z
      cases rb
      have q2 := q.2
      rw [List.append_nil] at q2
      exact k _ _ _ _ _ Ext.refl st rd0 q2
  · split at q
    · rename_i xs ys h1 h2
      obtain ⟨a, vs, rfl, g1, ra⟩ := lt_get st rd h1
      obtain ⟨b, us, rfl, g2, rb⟩ := lt_get st re h2
      exact op_cat pins s σ H _ _ v u Q I rx ry ⟨a, b, vs, us, rfl, rfl, g1, g2, by rw [ra.len, rb.len]; exact q.1, fun p hp => k.lst st hp (ra.app rb) q.2⟩
    · exact q.elim
/-- a tuple, a few times -/
theorem op_repN : OpR X (binaryOp .Mult) (fun x y H Q => ∃ l k xs, x = .ref l ∧ y = .int k ∧ SqT X.K H l xs ∧ xs ≠ [] ∧ 2 ≤ k ∧ xs.length * k.toNat ≤ 1000000 ∧ ∀ p, H p = none → Q (.ref p) (upd H p (.tup (List.replicate k.toNat xs).flatten))) := by
  intro pins s σ H x y v u Q I rx ry h
  obtain ⟨l, k, xs, rfl, rfl, hT, hne, h1, hz, q⟩ := h
  cases rx
  obtain ⟨t, rfl⟩ := ry
  obtain ⟨its, r, ⟨⟨cls, dd, data, sl⟩, ho, hc, n, hd⟩, hs⟩ := I.tuple hT
  simp only at hc hd
  subst hc hd
  have hle : its.length = xs.length := r.length.symm
  have hn : its ≠ [] := fun e => hne (List.eq_nil_of_length_eq_zero (by rw [← hle, e]; rfl))
  have hpos : 1 ≤ xs.length := by
    cases xs with
    | nil => exact absurd rfl hne
    | cons a b => simp
  have hk : k.toNat ≤ 1000000 := Nat.le_trans (Nat.le_mul_of_pos_left k.toNat hpos) hz
  have hi : its.toArray.isEmpty = false := by
    cases its with
    | nil => exact absurd rfl hn
    | cons a b => rfl
  have hk2 : ((k.toNat : Nat) : Int) = k := Int.toNat_of_nonneg (by omega)
  have hm : ((its.toArray.size : Nat) : Int) * k ≤ 1000000 := by
    have z : ((xs.length * k.toNat : Nat) : Int) ≤ ((1000000 : Nat) : Int) := Int.ofNat_le.mpr hz
    rw [Int.natCast_mul, hk2] at z
    rw [List.size_toArray, hle]
    exact z
  have flen : (List.replicate k.toNat its).flatten.length ≤ sizeLine := by
    rw [PyProof.Rows.lm_len_rep_flat, hle, sizeLine_eq, Nat.mul_comm]
    omega
  have c4 : Builtin.Tuple.tupleTooMany (((its.toArray.size : Nat) : Int) * k) = false := by
    unfold Builtin.Tuple.tupleTooMany
    rw [sizeLine_eq]
    exact decide_eq_false (by omega)
  refine wpAny_binaryOp_repeat_ref (T := "tuple") (U := "int") (by decide) ⟨_, ho, rfl⟩ (fun s' => typeIs_int s' k t) noFill_tuple_mul F.fills_int_mul F.slot_int_rmul repeat_tuple F.slot_int_index.lookup
    (call_meets F.slot_int_rmul (typeIs_int s k t) F.entry_int_rmul (F.args_int_rmul_2 _ _) (int_rmul_tuple k t l its.toArray n dd sl)
      ⟨ho, rfl, ⟨_, ho, rfl⟩, call_meets F.slot_tuple_mul ⟨_, ho, rfl⟩ F.entry_tuple_mul (F.args_tuple_mul_2 _ _)
        (tuple_mulW l its.toArray n dd sl k t (by rw [decide_eq_false (by omega), decide_eq_false (by omega)] <;> rfl) (by rw [hi, Bool.false_or]; exact beq_eq_false_iff_ne.mpr (by omega)) (by rw [hi, Bool.or_false]; exact decide_eq_false (by omega)) (by omega) c4 (by rw [size_rep, List.size_toArray]; exact flen)) ⟨ho, ?_⟩⟩)
  rw [size_rep]
  refine ⟨.ref s.heap.objs.size, _, I.laid (t' := s.toks) (o := .tup (List.replicate k.toNat xs).flatten) (fun b ob q => Heap.get?_push_of_some _ q) (Nat.le_refl _) ?_, rfl, q _ (I.hok.fresh (Nat.le_refl _))⟩
  exact ⟨by rw [PyProof.Rows.lm_len_rep_flat, sizeLine_eq, Nat.mul_comm]; omega, _, r.rep k.toNat, IsTup.new _ _⟩
theorem RepAll.reps {K : PySem.W.Frag} {F : Hp} {xs : List V} {ds : List D} (r : RepAll K F xs ds) : ∀ k : Nat, RepAll K F (List.replicate k xs).flatten (List.replicate k ds).flatten
  | 0 => .nil
  | k + 1 => by
    rw [List.replicate_succ, List.replicate_succ, List.flatten_cons, List.flatten_cons]
    exact r.app (RepAll.reps r k)
/-- * of ints (one of them below 2 ^ 64, or together below a million bits), of a tuple or a list and a number -/
def CMulA (i j : Int) : Prop := CMul i j ∨ CMulW i j
def dMul : R2D := fun x y M Q => match x, y with
  | .int i, .int j => CMulA i j ∧ Q (.int (i * j)) M
  | .tup xs, .int k => xs ≠ [] ∧ 2 ≤ k ∧ xs.length * k.toNat ≤ 1000000 ∧ Q (.tup (List.replicate k.toNat xs).flatten) M
  | x, .int k => match ltOf M x with
    | some xs => -(2 ^ 63) ≤ k ∧ k < 2 ^ 63 ∧ xs.length * k.toNat ≤ sizeLine ∧ Q (.lst (List.replicate k.toNat xs).flatten) M
    | none => False
  | _, _ => False
theorem od_mul : OpD X F0 (binaryOp .Mult) dMul := by
  intro pins s σ H x y v u Q I rx ry ⟨F, R, M, d, e, Q', e0, st, rd, re, q, k⟩
  unfold dMul at q
  split at q
  · cases rd; cases re
    obtain ⟨c, q⟩ := q
    rcases c with c | c
    · exact op_mul pins s σ H _ _ v u Q I rx ry ⟨_, _, rfl, rfl, c, k _ _ _ _ _ Ext.refl st (.int _) q⟩
    · exact op_mulW pins s σ H _ _ v u Q I rx ry ⟨_, _, rfl, rfl, c, k _ _ _ _ _ Ext.refl st (.int _) q⟩
  · obtain ⟨a, vs, rfl, h1, ra⟩ := tp_get st rd
    cases re
    refine op_repN pins s σ H _ _ v u Q I rx ry ⟨a, _, vs, rfl, rfl, h1, fun z => q.1 ?_, q.2.1, by rw [ra.len]; exact q.2.2.1, fun p hp => k.tup st hp (ra.reps _) q.2.2.2⟩
    subst z; cases ra; rfl
  · split at q
    · rename_i xs h1
      obtain ⟨a, vs, rfl, g1, ra⟩ := lt_get st rd h1
      cases re
      exact op_rep pins s σ H _ _ v u Q I rx ry ⟨a, _, vs, rfl, rfl, g1, q.1, q.2.1, by rw [ra.len]; exact q.2.2.1, fun p hp => k.lst st hp (ra.reps _) q.2.2.2⟩
    · exact q.elim
  · exact q.elim
end

/-! ### ==, != of data; is None -/
mutual
def D.py : D → Option PyData
  | .non => some .none
  | .bl b => some (.bool b)
  | .int i => some (.int i)
  | .str x => some (.str x)
  | .tup ds => match pyAll ds with
    | some ps => some (.tuple ps)
    | none => none
  | .lst ds => match pyAll ds with
    | some ps => some (.list ps)
    | none => none
  | .lsk ds => match pyAll ds with
    | some ps => some (.list ps)
    | none => none
  | .ref _ => none
  | .ty _ => none
  | .fn _ _ => none
def pyAll : List D → Option (List PyData)
  | [] => some []
  | d :: ds => match d.py, pyAll ds with
    | some p, some ps => some (p :: ps)
    | _, _ => none
end
/-- a list that is changed in place, read as data -/
def drf (M : Mp) : D → D
  | .ref a => match M a with
    | some (.lst ds) => .lst ds
    | _ => .ref a
  | d => d
section
variable {K : PySem.W.Frag} {F H : Hp}
mutual
theorem Rep.dp (hF : Ext F H) : ∀ (d : D) (p : PyData) (v : V), Rep K F v d → d.py = some p → Dp K H v p
  | .non, _, _, h, e => by cases h; cases e; exact .non
  | .bl b, _, _, h, e => by cases h; cases e; exact .bl b
  | .int b, _, _, h, e => by cases h; cases e; exact .int b
  | .str b, _, _, h, e => by cases h; cases e; exact .str b
  | .ref a, _, _, h, e => by cases e
  | .ty a, _, _, h, e => by cases e
  | .fn a G, _, _, h, e => by cases e
  | .tup ds, p, _, h, e => by
    cases h with
    | tup hs ha =>
      have e : (match pyAll ds with | some ps => some (PyData.tuple ps) | none => none) = some p := e
      split at e
      · rename_i ps ep
        cases e
        exact .tup (sqTMono hF hs) (RepAll.dps hF ds ps _ ha ep)
      · cases e
  | .lst ds, p, _, h, e => by
    cases h with
    | lst hs ha =>
      have e : (match pyAll ds with | some ps => some (PyData.list ps) | none => none) = some p := e
      split at e
      · rename_i ps ep
        cases e
        exact .lst (.inl (.inl (hF _ _ hs))) (RepAll.dps hF ds ps _ ha ep)
      · cases e
  | .lsk ds, p, _, h, e => by
    cases h with
    | lsk hs ha =>
      have e : (match pyAll ds with | some ps => some (PyData.list ps) | none => none) = some p := e
      split at e
      · rename_i ps ep
        cases e
        exact .lst (sqLMono hF hs) (RepAll.dps hF ds ps _ ha ep)
      · cases e
theorem RepAll.dps (hF : Ext F H) : ∀ (ds : List D) (ps : List PyData) (vs : List V), RepAll K F vs ds → pyAll ds = some ps → DpAll K H vs ps
  | [], _, _, h, e => by cases h; cases e; exact .nil
  | d :: ds, qs, _, h, e => by
    cases h with
    | cons h1 h2 =>
      have e : (match d.py, pyAll ds with | some p, some ps => some (p :: ps) | _, _ => none) = some qs := e
      split at e
      · rename_i p ps e1 e2
        cases e
        exact .cons (Rep.dp hF d p _ h1 e1) (RepAll.dps hF ds ps _ h2 e2)
      · cases e
end
theorem dp_drf {R : Hp} {M : Mp} {v : V} {d : D} {p : PyData} (st : Stt K F R H M) (r : Rep K F v d) (e : (drf M d).py = some p) : Dp K H v p := by
  cases d with
  | ref a =>
    cases r
    have e : D.py (match M a with | some (.lst ds) => D.lst ds | _ => .ref a) = some p := e
    split at e
    · rename_i ds em
      obtain ⟨_, o, ho, ro⟩ := st.ow _ _ em
      obtain ⟨xs, rfl, ra⟩ := ro.lst_iff
      have e : (match pyAll ds with | some ps => some (PyData.list ps) | none => none) = some p := e
      split at e
      · rename_i ps ep
        cases e
        exact .lst (.inl (.inl ho)) (RepAll.dps st.fz ds ps _ ra ep)
      · cases e
    · cases e
  | _ => exact Rep.dp st.fz _ p v r e
end
/-- the plain ones, straight -/
def scalD : D → D → Option Bool
  | .int i, .int j => some (decide (i = j))
  | .str a, .str b => some (decide (a = b))
  | .bl a, .bl b => some (decide (a = b))
  | .non, .non => some true
  | .non, .int _ => some false
  | .int _, .non => some false
  | .non, .bl _ => some false
  | .bl _, .non => some false
  | .non, .str _ => some false
  | .str _, .non => some false
  | .int _, .str _ => some false
  | .str _, .int _ => some false
  | .bl _, .str _ => some false
  | .str _, .bl _ => some false
  | _, _ => none
def dEqS (x y : D) (M : Mp) (Q : Bool → Prop) : Prop := match (drf M x).py, (drf M y).py with
  | some p, some q => SeqAt.shaped p = true ∧ SeqAt.shaped q = true ∧ Q (PyData.eqv p q)
  | _, _ => False
def dEq : R2D := fun x y M Q => match scalD x y with
  | some b => Q (.bl b) M
  | none => dEqS x y M fun b => Q (.bl b) M
def dNe : R2D := fun x y M Q => match scalD x y with
  | some b => Q (.bl (!b)) M
  | none => dEqS x y M fun b => Q (.bl (!b)) M
theorem scalD_ok {K : PySem.W.Frag} {F : Hp} {x y : V} {d e : D} {b : Bool} (r : Rep K F x d) (s : Rep K F y e) (h : scalD d e = some b) : scal x y = true ∧ decide (x = y) = b := by
  cases r <;> cases s <;> first | (cases h; exact ⟨rfl, by simp⟩) | cases h
def D.isN : D → Bool
  | .non => true
  | _ => false
def dIsN : R2D := fun x y M Q => match y with
  | .non => Q (.bl x.isN) M
  | _ => False
def dNotN : R2D := fun x y M Q => match y with
  | .non => Q (.bl (!x.isN)) M
  | _ => False
section
variable {X : Cx} {F0 : Bs}
theorem od_eq (hu : X.A.units + 64 < cLine) : OpD X F0 (compareOp .Eq) dEq := by
  intro pins s σ H x y v u Q I rx ry ⟨F, R, M, d, e, Q', e0, st, rd, re, q, k⟩
  unfold dEq at q
  split at q
  · rename_i b hb
    obtain ⟨h1, h2⟩ := scalD_ok rd re hb
    exact op_eq pins s σ H x y v u Q I rx ry ⟨h1, by rw [h2]; exact k _ _ _ _ _ Ext.refl st (.bl _) q⟩
  · unfold dEqS at q
    split at q
    · rename_i p q' h1 h2
      exact op_eqD hu pins s σ H x y v u Q I rx ry ⟨p, q', dp_drf st rd h1, dp_drf st re h2, q.1, q.2.1, k _ _ _ _ _ Ext.refl st (.bl _) q.2.2⟩
    · exact q.elim
theorem od_ne (hu : X.A.units + 64 < cLine) : OpD X F0 (compareOp .NotEq) dNe := by
  intro pins s σ H x y v u Q I rx ry ⟨F, R, M, d, e, Q', e0, st, rd, re, q, k⟩
  unfold dNe at q
  split at q
  · rename_i b hb
    obtain ⟨h1, h2⟩ := scalD_ok rd re hb
    exact op_ne pins s σ H x y v u Q I rx ry ⟨h1, by rw [h2]; exact k _ _ _ _ _ Ext.refl st (.bl _) q⟩
  · unfold dEqS at q
    split at q
    · rename_i p q' h1 h2
      exact op_neD hu pins s σ H x y v u Q I rx ry ⟨p, q', dp_drf st rd h1, dp_drf st re h2, q.1, q.2.1, k _ _ _ _ _ Ext.refl st (.bl _) q.2.2⟩
    · exact q.elim
theorem rep_non {K : PySem.W.Frag} {F : Hp} {x : V} {d : D} (r : Rep K F x d) : d.isN = decide (x = .non) := by
  cases r <;> simp [D.isN]
theorem od_isN : OpD X F0 (compareOp .Is) dIsN := by
  refine opImp op_isN fun x y H Q ⟨F, R, M, d, e, Q', e0, st, rd, re, q, k⟩ => ?_
  cases e <;> try exact q.elim
  cases re
  have q : Q' (.bl d.isN) M := q
  rw [rep_non rd] at q
  exact ⟨rfl, k _ _ _ _ _ Ext.refl st (.bl _) q⟩
theorem od_notN : OpD X F0 (compareOp .IsNot) dNotN := by
  refine opImp op_notN fun x y H Q ⟨F, R, M, d, e, Q', e0, st, rd, re, q, k⟩ => ?_
  cases e <;> try exact q.elim
  cases re
  have q : Q' (.bl (!d.isN)) M := q
  rw [rep_non rd] at q
  exact ⟨rfl, k _ _ _ _ _ Ext.refl st (.bl _) q⟩
end

/-! ### x in xs, of flat things -/
def D.flat : D → Bool
  | .non => true
  | .bl _ => true
  | .int _ => true
  | .str _ => true
  | _ => false
def eqD : D → D → Bool
  | .non, .non => true
  | .bl a, .bl b => a == b
  | .bl a, .int b => (if a then 1 else 0) == b
  | .int a, .bl b => a == (if b then 1 else 0)
  | .int a, .int b => a == b
  | .str a, .str b => a == b
  | _, _ => false
def dIn (neg : Bool) : R2D := fun x y M Q => match sqOf M y with
  | some ds => x.flat = true ∧ ds.all D.flat = true ∧ Q (.bl (if neg then !(ds.any fun e => eqD e x) else ds.any fun e => eqD e x)) M
  | none => False
section
variable {K : PySem.W.Frag} {F : Hp}
theorem Rep.flat {x : V} {d : D} (r : Rep K F x d) (h : d.flat = true) : flatV x = true := by cases r <;> first | rfl | cases h
theorem Rep.eqv {x y : V} {d e : D} (r : Rep K F x d) (s : Rep K F y e) (h : d.flat = true) (h2 : e.flat = true) : eqV x y = eqD d e := by
  cases r <;> cases h <;> cases s <;> first | cases h2 | rfl
  all_goals rfl
theorem RepAll.flat : ∀ {xs : List V} {ds : List D}, RepAll K F xs ds → ds.all D.flat = true → xs.all flatV = true
  | _, _, .nil, _ => rfl
  | _, _, .cons r t, h => by
    rw [List.all_cons, Bool.and_eq_true] at h ⊢
    exact ⟨r.flat h.1, RepAll.flat t h.2⟩
theorem RepAll.inv {x : V} {d : D} (r : Rep K F x d) (h0 : d.flat = true) : ∀ {xs : List V} {ds : List D}, RepAll K F xs ds → ds.all D.flat = true → inV x xs = ds.any fun e => eqD e d
  | _, _, .nil, _ => rfl
  | y :: xs, e :: ds, .cons s t, h => by
    rw [List.all_cons, Bool.and_eq_true] at h
    have ih := RepAll.inv r h0 t h.2
    show (eqV y x || inV x xs) = (eqD e d || ds.any fun e => eqD e d)
    rw [ih, Rep.eqv s r h.1 h0]
end
section
variable {X : Cx} {F0 : Bs}
theorem od_in : OpD X F0 (compareOp .In) (dIn false) := by
  refine opImp op_in_seq fun x y H Q ⟨F, R, M, d, e, Q', e0, st, rd, re, q, k⟩ => ?_
  unfold dIn at q
  split at q
  · rename_i ds h1
    obtain ⟨a, xs, rfl, hs, ra⟩ := sq_get st re h1
    refine ⟨a, xs, rfl, hs, rd.flat q.1, ra.flat q.2.1, ?_⟩
    have q2 := q.2.2
    rw [← RepAll.inv rd q.1 ra q.2.1] at q2
    exact k _ _ _ _ _ Ext.refl st (.bl _) q2
  · exact q.elim
theorem od_notIn : OpD X F0 (compareOp .NotIn) (dIn true) := by
  refine opImp op_notIn_seq fun x y H Q ⟨F, R, M, d, e, Q', e0, st, rd, re, q, k⟩ => ?_
  unfold dIn at q
  split at q
  · rename_i ds h1
    obtain ⟨a, xs, rfl, hs, ra⟩ := sq_get st re h1
    refine ⟨a, xs, rfl, hs, rd.flat q.1, ra.flat q.2.1, ?_⟩
    have q2 := q.2.2
    rw [← RepAll.inv rd q.1 ra q.2.1] at q2
    exact k _ _ _ _ _ Ext.refl st (.bl _) q2
  · exact q.elim
end

/-! ### displays -/
def dNil : DA := fun _ M Q => Q [] M
def dCons (ta : DE) (tr : DA) : DA := fun τ M Q => ta τ M fun x M1 => tr τ M1 fun xs M2 => Q (x :: xs) M2
def dTup (t : DA) : DE := fun τ M Q => t τ M fun xs M1 => xs.length ≤ sizeLine ∧ Q (.tup xs) M1
def dLst (t : DA) : DE := fun τ M Q => t τ M fun xs M1 => xs.length ≤ sizeLine ∧ Q (.lst xs) M1
/-- a list that will be changed in place -/
def dLstM (t : DA) : DE := fun τ M Q => t τ M fun xs M1 => xs.length ≤ sizeLine ∧ ∀ p, M1 p = none → Q (.ref p) (updM M1 p (.lst xs))
section
variable {X : Cx} {F0 : Bs} {e : Expr} {es : List Expr} {te : DE} {t : DA} {pos : Pos}
theorem ad_nil : PA X [] (liA X.K F0 dNil) := paImp pa_nil fun σ H Q ⟨F, R, τ, M, Q', e0, st, sl, q, k⟩ => k _ _ _ _ _ Ext.refl st .nil q
theorem ad_cons (ha : PE X e (liE X.K F0 te)) (hr : PA X es (liA X.K F0 t)) (hs : starEach (e :: es) X.env = (false, eval e X.env) :: starEach es X.env := by rfl) : PA X (e :: es) (liA X.K F0 (dCons te t)) := by
  refine paImp (pa_cons ha hr hs) fun σ H Q ⟨F, R, τ, M, Q', e0, st, sl, q, k⟩ => ?_
  refine ⟨F, R, τ, M, _, e0, st, sl, q, fun v H1 F1 d M1 e1 st1 r1 q1 => ?_⟩
  refine ⟨F1, R, τ, M1, _, e0.trans e1, st1, sl.ext e1, q1, fun vs H2 F2 ds M2 e2 st2 r2 q2 => ?_⟩
  exact k _ _ _ _ _ (e1.trans e2) st2 (.cons (r1.ext e2) r2) q2
theorem pd_tup {x1} (h : PA X es (liA X.K F0 t)) : PE X (.Tuple es x1 pos) (liE X.K F0 (dTup t)) := by
  refine peImp (pe_tup h) fun σ H Q ⟨F, R, τ, M, Q', e0, st, sl, q, k⟩ => ?_
  refine ⟨F, R, τ, M, _, e0, st, sl, q, fun vs H1 F1 ds M1 e1 st1 r1 q1 => ?_⟩
  exact ⟨by rw [r1.len]; exact q1.1, fun p hp => (k.ext e1).tup st1 hp r1 q1.2⟩
theorem pd_lst (h : PA X es (liA X.K F0 t)) : PE X (.List es pos) (liE X.K F0 (dLst t)) := by
  refine peImp (pe_lst h) fun σ H Q ⟨F, R, τ, M, Q', e0, st, sl, q, k⟩ => ?_
  refine ⟨F, R, τ, M, _, e0, st, sl, q, fun vs H1 F1 ds M1 e1 st1 r1 q1 => ?_⟩
  exact ⟨by rw [r1.len]; exact q1.1, fun p hp => (k.ext e1).lst st1 hp r1 q1.2⟩
theorem pd_lstM (h : PA X es (liA X.K F0 t)) : PE X (.List es pos) (liE X.K F0 (dLstM t)) := by
  refine peImp (pe_lst h) fun σ H Q ⟨F, R, τ, M, Q', e0, st, sl, q, k⟩ => ?_
  refine ⟨F, R, τ, M, _, e0, st, sl, q, fun vs H1 F1 ds M1 e1 st1 r1 q1 => ?_⟩
  exact ⟨by rw [r1.len]; exact q1.1, fun p hp => (k.ext e1).own st1 hp (m := .lst ds) r1 (q1.2 p)⟩
end

/-! ### xs[i] -/
def dIx : R2D := fun x y M Q => match y with
  | .int i => match x with
    | .str z => match atI z.cps.toList i with
      | some c => z.length ≤ sizeLine ∧ Q (.str ⟨#[c]⟩) M
      | none => False
    | x => match sqOf M x with
      | some ds => match atI ds i with
        | some d => Q d M
        | none => False
      | none => False
  | _ => False
theorem atI_rep {K : PySem.W.Frag} {F : Hp} {xs : List V} {ds : List D} {i : Int} {d : D} (r : RepAll K F xs ds) (h : atI ds i = some d) : ∃ v, atI xs i = some v ∧ Rep K F v d := by
  unfold atI at h ⊢
  rw [r.len]
  cases e : ixN ds.length i with
  | none => rw [e] at h; cases h
  | some j =>
    rw [e] at h
    obtain ⟨v, h1, h2⟩ := r.getD (i := j) h
    exact ⟨v, h1, h2⟩
section
variable {X : Cx} {F0 : Bs} {a b : Expr} {ta tb : DE} {pos : Pos}
theorem ixd : IxR X (liR X.K F0 dIx) := by
  refine ixImp ix_seq fun x y H Q ⟨F, R, M, d, e, Q', e0, st, rd, re, q, k⟩ => ?_
  cases e <;> try exact q.elim
  rename_i i
  cases re
  have seq : (match sqOf M d with | some ds => (match atI ds i with | some d => Q' d M | none => False) | none => False) → rIx X.K x (.int i) H Q := fun q => by
    split at q
    · rename_i ds h1
      split at q
      · rename_i d' h2
        obtain ⟨a, xs, rfl, hs, ra⟩ := sq_get st rd h1
        obtain ⟨v, ev, rv⟩ := atI_rep ra h2
        rcases hs with hs | hs
        · exact .inl ⟨a, xs, i, v, rfl, rfl, hs, ev, k _ _ _ _ _ Ext.refl st rv q⟩
        · exact .inr (.inl ⟨a, xs, i, v, rfl, rfl, hs, ev, k _ _ _ _ _ Ext.refl st rv q⟩)
      · exact q.elim
    · exact q.elim
  cases d with
  | str z =>
    have q : (match atI z.cps.toList i with | some c => z.length ≤ sizeLine ∧ Q' (.str ⟨#[c]⟩) M | none => False) := q
    split at q
    · rename_i c h1
      cases rd
      exact .inr (.inr ⟨z, i, c, rfl, rfl, q.1, h1, k _ _ _ _ _ Ext.refl st (.str _) q.2⟩)
    · exact q.elim
  | _ => exact seq q
theorem pd_ix (ha : PE X a (liE X.K F0 ta)) (hb : PE X b (liE X.K F0 tb)) (hs : PlainIx b) : PE X (.Subscript a b pos) (liE X.K F0 (dOp dIx ta tb)) :=
  peImp (pe_ix ixd ha hb hs) fun _ _ _ => li_op
end

/-! ### xs[a:b] -/
abbrev DO := SD → Mp → (Option Int → Mp → Prop) → Prop
def KO (K : PySem.W.Frag) (F R : Hp) (Q' : Option Int → Mp → Prop) (Q : Option Int → Hp → Prop) : Prop := ∀ b H2 F2 M2, Ext F F2 → Stt K F2 R H2 M2 → Q' b M2 → Q b H2
theorem KO.ext {K : PySem.W.Frag} {F F2 R : Hp} {Q' : Option Int → Mp → Prop} {Q : Option Int → Hp → Prop} (k : KO K F R Q' Q) (e : Ext F F2) : KO K F2 R Q' Q := fun b H2 F3 M2 e2 => k b H2 F3 M2 (e.trans e2)
def liO (K : PySem.W.Frag) (F0 : Bs) (t : DO) : TO := fun σ H Q => ∃ F R τ M Q', Bas F0 F R ∧ Stt K F R H M ∧ Slots K F σ τ ∧ t τ M Q' ∧ KO K F R Q' Q
def dNoPart : DO := fun _ M Q => Q none M
def dPart (t : DE) : DO := fun τ M Q => t τ M fun d M1 => match d with
  | .int i => Q (some i) M1
  | _ => False
def cutD {α : Type} (xs : List α) (lo hi : Option Int) : List α := (xs.drop (HT.sIx xs.length 0 lo)).take (HT.sIx xs.length xs.length hi - HT.sIx xs.length 0 lo)
def dSlr (x : D) (lo hi : Option Int) (M : Mp) (Q : QD) : Prop := match x with
  | .tup ds => Q (.tup (cutD ds lo hi)) M
  | .str z => z.length ≤ sizeLine ∧ Q (.str (cutS z lo hi)) M
  | x => match lsOf M x with
    | some ds => Q (.lst (cutD ds lo hi)) M
    | none => False
def dSl (te : DE) (tl th : DO) : DE := fun τ M Q => te τ M fun x M1 => tl τ M1 fun l M2 => th τ M2 fun u M3 => dSlr x l u M3 Q
theorem RepAll.cut {K : PySem.W.Frag} {F : Hp} {xs : List V} {ds : List D} (r : RepAll K F xs ds) (lo hi : Option Int) : RepAll K F (cutV xs lo hi) (cutD ds lo hi) := by
  unfold cutV cutD
  rw [r.len]
  exact (r.dp _).tk _
theorem cutD_whole {α : Type} {xs : List α} {lo hi : Option Int} (h : HT.sIx xs.length 0 lo = 0 ∧ HT.sIx xs.length xs.length hi = xs.length) : cutD xs lo hi = xs := by
  unfold cutD
  rw [h.1, h.2]
  simp
section
variable {X : Cx} {F0 : Bs} {e : Expr} {te : DE} {lo hi : Option Expr} {tl th : DO} {pos p2 : Pos}
theorem od_none : PO X none (liO X.K F0 dNoPart) := ⟨fun pins s σ H Q I ⟨F, R, τ, M, Q', e0, st, sl, q, k⟩ => po_none.run pins s σ H Q I (k _ _ _ _ Ext.refl st q)⟩
theorem od_some (h : PE X e (liE X.K F0 te)) : PO X (some e) (liO X.K F0 (dPart te)) := by
  refine ⟨fun pins s σ H Q I ⟨F, R, τ, M, Q', e0, st, sl, q, k⟩ => (po_some h).run pins s σ H Q I ?_⟩
  refine ⟨F, R, τ, M, _, e0, st, sl, q, fun v H1 F1 d M1 e1 st1 r1 q1 => ?_⟩
  cases d <;> try exact q1.elim
  cases r1
  exact ⟨_, rfl, k _ _ _ _ e1 st1 q1⟩
theorem sl_any : SlR X (fun x lo hi H Q => rSlA X.K x lo hi H Q ∨ rSlL X.K x lo hi H Q ∨ ∃ z, x = .str z ∧ z.length ≤ sizeLine ∧ Q (.str (cutS z lo hi)) H) := sl_tupA.or (sl_list.or sl_str)
theorem pd_slice (he : PE X e (liE X.K F0 te)) (hl : PO X lo (liO X.K F0 tl)) (hu : PO X hi (liO X.K F0 th)) : PE X (.Subscript e (.Slice lo hi none p2) pos) (liE X.K F0 (dSl te tl th)) := by
  refine peImp (pe_slice sl_any he hl hu) fun σ H Q ⟨F, R, τ, M, Q', e0, st, sl, q, k⟩ => ?_
  refine ⟨F, R, τ, M, _, e0, st, sl, q, fun v H1 F1 d M1 e1 st1 r1 q1 => ?_⟩
  refine ⟨F1, R, τ, M1, _, e0.trans e1, st1, sl.ext e1, q1, fun l H2 F2 M2 e2 st2 q2 => ?_⟩
  refine ⟨F2, R, τ, M2, _, e0.trans (e1.trans e2), st2, sl.ext (e1.trans e2), q2, fun u H3 F3 M3 e3 st3 q3 => ?_⟩
  have rd := r1.ext (e2.trans e3)
  have k3 := k.ext (e1.trans (e2.trans e3))
  unfold dSlr at q3
  split at q3
  · have rd0 := rd
    obtain ⟨a, xs, rfl, hs, ra⟩ := tp_get st3 rd
    refine .inl ⟨a, xs, rfl, hs, fun z => ?_, fun z p hp => k3.tup st3 hp (ra.cut l u) q3⟩
    rw [ra.len] at z
    rw [cutD_whole z] at q3
    exact k3 _ _ _ _ _ Ext.refl st3 rd0 q3
  · cases rd
    exact .inr (.inr ⟨_, rfl, q3.1, k3 _ _ _ _ _ Ext.refl st3 (.str _) q3.2⟩)
  · split at q3
    · rename_i ds h1
      obtain ⟨a, xs, rfl, hs, ra⟩ := ls_get st3 rd h1
      exact .inr (.inl ⟨a, xs, rfl, hs, fun p hp => k3.lst st3 hp (ra.cut l u) q3⟩)
    · exact q3.elim
end
end DL

/-! DL, the rules: calls, statements, loops, defs -/
namespace DL
open PySem PySem.Spec PyProof.Rows L2

/-! ### calls of built-ins -/
abbrev RC := List D → Mp → QD → Prop
def dCB (r : RC) (t : DA) : DE := fun τ M Q => t τ M fun ds M1 => r ds M1 Q
theorem li_cb {K : PySem.W.Frag} {F0 : Bs} {r : RC} {t : DA} {σ : L2.St} {H : Hp} {Q : VK} (h : liE K F0 (dCB r t) σ H Q) : tCB (liC K F0 r) (liA K F0 t) σ H Q := by
  obtain ⟨F, R, τ, M, Q', e0, st, sl, q, k⟩ := h
  exact ⟨F, R, τ, M, _, e0, st, sl, q, fun vs H1 F1 ds M1 e1 st1 r1 q1 => ⟨F1, R, M1, ds, Q', e0.trans e1, st1, r1, q1, k.ext e1⟩⟩
section
variable {X : Cx} {F0 : Bs} {x : Str} {p pos : Pos} {e : Expr} {es : List Expr} {t : DA} {id T : String} {r : RC}
theorem pd_callB (hc : CallR X (.builtin id) (liC X.K F0 r)) (hg : Gl X x) (hm : X.mg x = none) (hv : bootBuiltins x = some (.builtin id)) (ha : PA X (e :: es) (liA X.K F0 t)) (hn : x ≠ "__name__" := by decide) (hdb : (x == ("__debug__" : Str)) = false := by decide)
    (he : starEach (e :: es) X.env = (false, eval e X.env) :: starEach es X.env := by rfl) (hpl : (backTo pos (starEach es X.env)).any (·.1) = false := by rfl) : PE X (.Call (.Name x p) (e :: es) [] pos) (liE X.K F0 (dCB r t)) :=
  peImp (pe_callB hc hg hm hv ha hn hdb he hpl) fun _ _ _ => li_cb
theorem pd_callTy (hc : CallR X (.type T) (liC X.K F0 r)) (hg : Gl X x) (hm : X.mg x = none) (hv : bootBuiltins x = some (.type T)) (ha : PA X (e :: es) (liA X.K F0 t)) (hn : x ≠ "__name__" := by decide) (hdb : (x == ("__debug__" : Str)) = false := by decide)
    (he : starEach (e :: es) X.env = (false, eval e X.env) :: starEach es X.env := by rfl) (hpl : (backTo pos (starEach es X.env)).any (·.1) = false := by rfl) : PE X (.Call (.Name x p) (e :: es) [] pos) (liE X.K F0 (dCB r t)) :=
  peImp (pe_callTy hc hg hm hv ha hn hdb he hpl) fun _ _ _ => li_cb
end
theorem rep1 {K : PySem.W.Frag} {F : Hp} {xs : List V} {d : D} (r : RepAll K F xs [d]) : ∃ x, xs = [x] ∧ Rep K F x d := by
  cases r with
  | cons h t => cases t; exact ⟨_, rfl, h⟩
theorem rep2 {K : PySem.W.Frag} {F : Hp} {xs : List V} {d e : D} (r : RepAll K F xs [d, e]) : ∃ x y, xs = [x, y] ∧ Rep K F x d ∧ Rep K F y e := by
  cases r with
  | cons h t =>
    obtain ⟨y, rfl, h2⟩ := rep1 t
    exact ⟨_, y, rfl, h, h2⟩
/-- len -/
def dLen : RC := fun ds M Q => match ds with
  | [.str z] => z.length ≤ sizeLine ∧ Q (.int z.length) M
  | [d] => match sqOf M d with
    | some xs => Q (.int xs.length) M
    | none => False
  | _ => False
/-- all, any of a list of True, False -/
def D.isB : D → Option Bool
  | .bl b => some b
  | _ => none
def blsOf : List D → Option (List Bool)
  | [] => some []
  | .bl b :: ds => (blsOf ds).map (b :: ·)
  | _ => none
def intsOf : List D → Option (List Int)
  | [] => some []
  | .int b :: ds => (intsOf ds).map (b :: ·)
  | _ => none
theorem blsOf_map : ∀ bs : List Bool, blsOf (bs.map D.bl) = some bs
  | [] => rfl
  | b :: bs => by show (blsOf (bs.map D.bl)).map (b :: ·) = _; rw [blsOf_map bs]; rfl
theorem intsOf_map : ∀ bs : List Int, intsOf (bs.map D.int) = some bs
  | [] => rfl
  | b :: bs => by show (intsOf (bs.map D.int)).map (b :: ·) = _; rw [intsOf_map bs]; rfl
theorem bls_eq : ∀ {ds : List D} {bs : List Bool}, blsOf ds = some bs → ds = bs.map D.bl
  | [], bs, h => by cases h; rfl
  | d :: ds, bs, h => by
    cases d <;> try cases h
    rename_i b
    have h : (blsOf ds).map (b :: ·) = some bs := h
    cases e : blsOf ds with
    | none => rw [e] at h; cases h
    | some cs => rw [e] at h; cases h; rw [bls_eq e]; rfl
theorem ints_eq : ∀ {ds : List D} {bs : List Int}, intsOf ds = some bs → ds = bs.map D.int
  | [], bs, h => by cases h; rfl
  | d :: ds, bs, h => by
    cases d <;> try cases h
    rename_i b
    have h : (intsOf ds).map (b :: ·) = some bs := h
    cases e : intsOf ds with
    | none => rw [e] at h; cases h
    | some cs => rw [e] at h; cases h; rw [ints_eq e]; rfl
def dAll : RC := fun ds M Q => match ds with
  | [d] => match lsOf M d with
    | some xs => match blsOf xs with
      | some bs => Q (.bl (bs.all id)) M
      | none => False
    | none => False
  | _ => False
def dAny : RC := fun ds M Q => match ds with
  | [d] => match lsOf M d with
    | some xs => match blsOf xs with
      | some bs => Q (.bl (bs.any id)) M
      | none => False
    | none => False
  | _ => False
def dSum : RC := fun ds M Q => match ds with
  | [d] => match lsOf M d with
    | some xs => match intsOf xs with
      | some ns => Q (.int ns.sum) M
      | none => False
    | none => False
  | _ => False
/-- max, min of a list of ints, of two ints -/
def dMax : RC := fun ds M Q => match ds with
  | [.int i, .int j] => Q (.int (if j > i then j else i)) M
  | [d] => match lsOf M d with
    | some xs => match intsOf xs with
      | some ns => 0 < ns.length ∧ ∀ m, m ∈ ns → (∀ y, y ∈ ns → y ≤ m) → Q (.int m) M
      | none => False
    | none => False
  | _ => False
def dMin : RC := fun ds M Q => match ds with
  | [.int i, .int j] => Q (.int (if j < i then j else i)) M
  | [d] => match lsOf M d with
    | some xs => match intsOf xs with
      | some ns => 0 < ns.length ∧ ∀ m, m ∈ ns → (∀ y, y ∈ ns → m ≤ y) → Q (.int m) M
      | none => False
    | none => False
  | _ => False
def dAbs : RC := fun ds M Q => match ds with
  | [.int i] => Q (.int (if i < 0 then -i else i)) M
  | _ => False
def dInt : RC := fun ds M Q => match ds with
  | [.int i] => Q (.int i) M
  | [.bl b] => Q (.int (if b then 1 else 0)) M
  | _ => False
def dTuple : RC := fun ds M Q => match ds with
  | [d] => match sqOf M d with
    | some xs => Q (.tup xs) M
    | none => False
  | _ => False
def dList : RC := fun ds M Q => match ds with
  | [d] => match sqOf M d with
    | some xs => Q (.lst xs) M
    | none => False
  | _ => False
def dListM : RC := fun ds M Q => match ds with
  | [d] => match sqOf M d with
    | some xs => ∀ p, M p = none → Q (.ref p) (updM M p (.lst xs))
    | none => False
  | _ => False
/-- sorted of a list of ints -/
def dSorted : RC := fun ds M Q => match ds with
  | [d] => match lsOf M d with
    | some xs => match intsOf xs with
      | some ns => ∀ ns' : List Int, ns'.Perm ns → ns'.Pairwise (· ≤ ·) → Q (.lst (ns'.map D.int)) M
      | none => False
    | none => False
  | _ => False
/-- isinstance by a built-in class -/
def tyName (M : Mp) : D → Option String
  | .non => some "NoneType"
  | .bl _ => some "bool"
  | .int _ => some "int"
  | .str _ => some "str"
  | .tup _ => some "tuple"
  | .lst _ => some "list"
  | .lsk _ => some "list"
  | .ref a => match M a with
    | some (.lst _) => some "list"
    | some (.dK _) => some "dict"
    | _ => none
  | .ty _ => none
  | .fn _ _ => none
def isiN (a n : String) : Bool := a == n || (a == "bool" && n == "int")
def kitNames : List String := ["NoneType", "bool", "int", "str", "tuple", "list", "dict"]
theorem kit_table : (kitNames.all fun a => (["bool", "int", "str", "tuple", "list", "dict"] : List String).all fun n => kitB a n == some (isiN a n)) = true := by decide +kernel
def dIsi : RC := fun ds M Q => match ds with
  | [d, .ty n] => (["bool", "int", "str", "tuple", "list", "dict"] : List String).contains n = true ∧ match tyName M d with
    | some a => Q (.bl (isiN a n)) M
    | none => False
  | _ => False
section
variable {X : Cx} {F0 : Bs}
theorem cd_len : CallR X (.builtin "len") (liC X.K F0 dLen) := by
  refine caImp call_len fun xs H Q ⟨F, R, M, ds, Q', e0, st, rs, q, k⟩ => ?_
  unfold dLen at q
  split at q
  · obtain ⟨x, rfl, r⟩ := rep1 rs
    cases r
    exact ⟨_, _, rfl, ⟨q.1, rfl⟩, k _ _ _ _ _ Ext.refl st (.int _) q.2⟩
  · obtain ⟨x, rfl, r⟩ := rep1 rs
    split at q
    · rename_i ys h1
      obtain ⟨a, vs, rfl, hs, ra⟩ := sq_get st r h1
      rw [← ra.len] at q
      exact ⟨_, _, rfl, hs.elim (fun z => .inl ⟨_, z, rfl⟩) (fun z => .inr ⟨_, z, rfl⟩), k _ _ _ _ _ Ext.refl st (.int _) q⟩
    · exact q.elim
  · exact q.elim
theorem cd_all (hc : X.calm = true) : CallR X (.builtin "all") (liC X.K F0 dAll) := by
  refine caImp (cr_all hc) fun xs H Q ⟨F, R, M, ds, Q', e0, st, rs, q, k⟩ => ?_
  unfold dAll at q
  split at q <;> try exact q.elim
  obtain ⟨x, rfl, r⟩ := rep1 rs
  split at q <;> try exact q.elim
  rename_i ys h1
  split at q <;> try exact q.elim
  rename_i bs h2
  obtain ⟨a, vs, rfl, hs, ra⟩ := ls_get st r h1
  rw [bls_eq h2] at ra
  have ev := ra.bls
  subst ev
  exact ⟨a, bs, rfl, hs, k _ _ _ _ _ Ext.refl st (.bl _) q⟩
theorem cd_any (hc : X.calm = true) : CallR X (.builtin "any") (liC X.K F0 dAny) := by
  refine caImp (cr_any hc) fun xs H Q ⟨F, R, M, ds, Q', e0, st, rs, q, k⟩ => ?_
  unfold dAny at q
  split at q <;> try exact q.elim
  obtain ⟨x, rfl, r⟩ := rep1 rs
  split at q <;> try exact q.elim
  rename_i ys h1
  split at q <;> try exact q.elim
  rename_i bs h2
  obtain ⟨a, vs, rfl, hs, ra⟩ := ls_get st r h1
  rw [bls_eq h2] at ra
  have ev := ra.bls
  subst ev
  exact ⟨a, bs, rfl, hs, k _ _ _ _ _ Ext.refl st (.bl _) q⟩
theorem cd_sum (hc : X.calm = true) : CallR X (.builtin "sum") (liC X.K F0 dSum) := by
  refine caImp (cr_sum hc) fun xs H Q ⟨F, R, M, ds, Q', e0, st, rs, q, k⟩ => ?_
  unfold dSum at q
  split at q <;> try exact q.elim
  obtain ⟨x, rfl, r⟩ := rep1 rs
  split at q <;> try exact q.elim
  rename_i ys h1
  split at q <;> try exact q.elim
  rename_i bs h2
  obtain ⟨a, vs, rfl, hs, ra⟩ := ls_get st r h1
  rw [ints_eq h2] at ra
  have ev := ra.ints
  subst ev
  exact ⟨a, bs, rfl, hs, k _ _ _ _ _ Ext.refl st (.int _) q⟩
theorem cd_max (hc : X.calm = true) : CallR X (.builtin "max") (liC X.K F0 dMax) := by
  intro pins s σ H xs us Q I rv ⟨F, R, M, ds, Q', e0, st, rs, q, k⟩
  unfold dMax at q
  split at q <;> try exact q.elim
  · obtain ⟨x, y, rfl, r1, r2⟩ := rep2 rs
    cases r1; cases r2
    exact call_max2 hc pins s σ H _ us Q I rv ⟨_, _, rfl, k _ _ _ _ _ Ext.refl st (.int _) q⟩
  · obtain ⟨x, rfl, r⟩ := rep1 rs
    split at q <;> try exact q.elim
    rename_i ys h1
    split at q <;> try exact q.elim
    rename_i bs h2
    obtain ⟨a, vs, rfl, hs, ra⟩ := ls_get st r h1
    rw [ints_eq h2] at ra
    have ev := ra.ints
    subst ev
    exact cr_max hc pins s σ H _ us Q I rv ⟨a, bs, rfl, hs, q.1, fun m h1 h2 => k _ _ _ _ _ Ext.refl st (.int _) (q.2 m h1 h2)⟩
theorem cd_min (hc : X.calm = true) : CallR X (.builtin "min") (liC X.K F0 dMin) := by
  intro pins s σ H xs us Q I rv ⟨F, R, M, ds, Q', e0, st, rs, q, k⟩
  unfold dMin at q
  split at q <;> try exact q.elim
  · obtain ⟨x, y, rfl, r1, r2⟩ := rep2 rs
    cases r1; cases r2
    exact call_min2 hc pins s σ H _ us Q I rv ⟨_, _, rfl, k _ _ _ _ _ Ext.refl st (.int _) q⟩
  · obtain ⟨x, rfl, r⟩ := rep1 rs
    split at q <;> try exact q.elim
    rename_i ys h1
    split at q <;> try exact q.elim
    rename_i bs h2
    obtain ⟨a, vs, rfl, hs, ra⟩ := ls_get st r h1
    rw [ints_eq h2] at ra
    have ev := ra.ints
    subst ev
    exact cr_min hc pins s σ H _ us Q I rv ⟨a, bs, rfl, hs, q.1, fun m h1 h2 => k _ _ _ _ _ Ext.refl st (.int _) (q.2 m h1 h2)⟩
theorem cd_abs : CallR X (.builtin "abs") (liC X.K F0 dAbs) := by
  refine caImp call_abs fun xs H Q ⟨F, R, M, ds, Q', e0, st, rs, q, k⟩ => ?_
  unfold dAbs at q
  split at q <;> try exact q.elim
  obtain ⟨x, rfl, r⟩ := rep1 rs
  cases r
  exact ⟨_, rfl, k _ _ _ _ _ Ext.refl st (.int _) q⟩
theorem cd_int : CallR X (.type "int") (liC X.K F0 dInt) := by
  refine caImp call_int1 fun xs H Q ⟨F, R, M, ds, Q', e0, st, rs, q, k⟩ => ?_
  unfold dInt at q
  split at q <;> try exact q.elim
  · obtain ⟨x, rfl, r⟩ := rep1 rs
    cases r
    exact .inl ⟨_, rfl, k _ _ _ _ _ Ext.refl st (.int _) q⟩
  · obtain ⟨x, rfl, r⟩ := rep1 rs
    cases r
    exact .inr ⟨_, rfl, k _ _ _ _ _ Ext.refl st (.int _) q⟩
theorem cd_tuple : CallR X (.type "tuple") (liC X.K F0 dTuple) := by
  refine caImp call_tuple_of fun xs H Q ⟨F, R, M, ds, Q', e0, st, rs, q, k⟩ => ?_
  unfold dTuple at q
  split at q <;> try exact q.elim
  obtain ⟨x, rfl, r⟩ := rep1 rs
  split at q <;> try exact q.elim
  rename_i ys h1
  rcases sqOf_cases h1 with rfl | h1
  · have r0 := r
    obtain ⟨a, vs, rfl, hs, ra⟩ := tp_get st r
    exact ⟨a, vs, rfl, .inr ⟨hs, k _ _ _ _ _ Ext.refl st r0 q⟩⟩
  · obtain ⟨a, vs, rfl, hs, ra⟩ := ls_get st r h1
    exact ⟨a, vs, rfl, .inl ⟨hs, fun p hp => k.tup st hp ra q⟩⟩
theorem cd_list : CallR X (.type "list") (liC X.K F0 dList) := by
  refine caImp call_list_of fun xs H Q ⟨F, R, M, ds, Q', e0, st, rs, q, k⟩ => ?_
  unfold dList at q
  split at q <;> try exact q.elim
  obtain ⟨x, rfl, r⟩ := rep1 rs
  split at q <;> try exact q.elim
  rename_i ys h1
  obtain ⟨a, vs, rfl, hs, ra⟩ := sq_get st r h1
  exact ⟨a, vs, rfl, hs, fun p hp => k.lst st hp ra q⟩
theorem cd_listM : CallR X (.type "list") (liC X.K F0 dListM) := by
  refine caImp call_list_of fun xs H Q ⟨F, R, M, ds, Q', e0, st, rs, q, k⟩ => ?_
  unfold dListM at q
  split at q <;> try exact q.elim
  obtain ⟨x, rfl, r⟩ := rep1 rs
  split at q <;> try exact q.elim
  rename_i ys h1
  obtain ⟨a, vs, rfl, hs, ra⟩ := sq_get st r h1
  exact ⟨a, vs, rfl, hs, fun p hp => k.own st hp (m := .lst ys) ra (q p)⟩
theorem cd_isi : CallR X (.builtin "isinstance") (liC X.K F0 dIsi) := by
  refine caImp call_isi fun xs H Q ⟨F, R, M, ds, Q', e0, st, rs, q, k⟩ => ?_
  unfold dIsi at q
  split at q <;> try exact q.elim
  rename_i d n
  obtain ⟨x, y, rfl, r1, r2⟩ := rep2 rs
  cases r2
  obtain ⟨hn, q⟩ := q
  split at q <;> try exact q.elim
  rename_i a ea
  have go : ∀ {t : Value}, t = .type a → kitNames.contains a = true → TyX X.K H x t → rIsi X.K [x, .ty n] H Q := fun {t} et ha ty => by
    subst et
    refine ⟨x, .ty n, _, .type n, isiN a n, rfl, .ty n, ty, kit_ty ?_, k _ _ _ _ _ Ext.refl st (.bl _) q⟩
    have z := kit_table
    rw [List.all_eq_true] at z
    have z2 := z a (by simpa using ha)
    rw [List.all_eq_true] at z2
    exact eq_of_beq (z2 n (by simpa using hn))
  have seqL : ∀ {a' : Addr} {xs : List V}, x = .ref a' → SqL X.K H a' xs → TyX X.K H x (.type "list") := fun {a' xs} e hs => by
    subst e
    rcases hs with (hs | ⟨o, hs⟩) | ⟨o, its, n, e1, e2, _⟩
    · exact .base (.lst hs)
    · exact .base (.frz hs)
    · exact .kList e1 e2
  cases d with
  | non => cases r1; cases ea; exact go rfl (by decide) (.base .non)
  | bl b => cases r1; cases ea; exact go rfl (by decide) (.base (.bl b))
  | int b => cases r1; cases ea; exact go rfl (by decide) (.base (.int b))
  | str b => cases r1; cases ea; exact go rfl (by decide) (.base (.str b))
  | tup ys =>
    cases ea
    obtain ⟨a', vs, e, hs, ra⟩ := tp_get st r1
    refine go rfl (by decide) ?_
    subst e
    rcases hs with (hs | ⟨o, hs⟩) | ⟨o, its, n, e1, e2, _⟩
    · exact .base (.tup hs)
    · exact .fTuple hs
    · exact .kTuple e1 e2
  | lst ys =>
    cases ea
    obtain ⟨a', vs, e, hs, ra⟩ := ls_get (M := M) (ds := ys) st r1 rfl
    exact go rfl (by decide) (seqL e hs)
  | lsk ys =>
    cases ea
    obtain ⟨a', vs, e, hs, ra⟩ := ls_get (M := M) (ds := ys) st r1 rfl
    exact go rfl (by decide) (seqL e hs)
  | ref a' =>
    have ea : (match M a' with | some (.lst _) => some "list" | some (.dK _) => some "dict" | _ => none) = some a := ea
    cases r1
    split at ea
    · rename_i ys em
      cases ea
      obtain ⟨_, o, ho, ro⟩ := st.ow _ _ em
      obtain ⟨vs, rfl, ra⟩ := ro.lst_iff
      exact go rfl (by decide) (.base (.lst ho))
    · rename_i ys em
      cases ea
      obtain ⟨_, o, ho, ro⟩ := st.ow _ _ em
      cases o <;> try exact ro.elim
      exact go rfl (by decide) (.base (.dK ho))
    · cases ea
  | ty m => cases ea
  | fn a G => cases ea
end

/-! ### what a def promises, over data -/
abbrev XD := Value → Option (List (Str × D)) → Mp → Prop
abbrev SpD := List D → Mp → QD → XD → Prop
def RepX (K : PySem.W.Frag) (F H : Hp) : Option Addr → Option (List (Str × D)) → Prop
  | none, none => True
  | some a, some fs => ∃ vs, H a = some (.xd vs) ∧ RepKV K F vs fs
  | _, _ => False
def KX (K : PySem.W.Frag) (F R : Hp) (E' : XD) (E : XK) : Prop := ∀ e dx H2 F2 fs M2, Ext F F2 → Stt K F2 R H2 M2 → RepX K F2 H2 dx fs → E' e fs M2 → E e dx H2
theorem KX.ext {K : PySem.W.Frag} {F F2 R : Hp} {E' : XD} {E : XK} (k : KX K F R E' E) (e : Ext F F2) : KX K F2 R E' E := fun v dx H2 F3 fs M2 e2 => k v dx H2 F3 fs M2 (e.trans e2)
def liSp (K : PySem.W.Frag) (T : List (Addr × Str)) (sp : SpD) : Sp := fun vs H Q E => ∃ F R ds M Q' E', Stt K F R H M ∧ TabR T R ∧ RepAll K F vs ds ∧ sp ds M Q' E' ∧ KE K F R Q' Q ∧ KX K F R E' E
/-- what is wanted of an error that leaves a def, by what the def's promise wants -/
def liX (K : PySem.W.Frag) (F0 : Bs) (E' : XD) : XK := fun e dx H => ∃ F R M fs, Bas F0 F R ∧ Stt K F R H M ∧ RepX K F H dx fs ∧ E' e fs M
def E0D : XD := fun _ _ _ => False
def dCall (sp : SpD) (E : XD) (t : DA) : DE := fun τ M Q => t τ M fun ds M1 => sp ds M1 Q E
section
variable {X : Cx} {F0 : Bs} {CX : CXT} {k : Nat} {f : Addr} {fd : FuncData} {ps : List Str} {sp : SpD} {x : Str} {p pos : Pos} {e : Expr} {es : List Expr} {t : DA}
theorem li_call {E' : XD} {E : XK} (hE : ∀ e dx H, liX X.K F0 E' e dx H → E e dx H) {σ : L2.St} {H : Hp} {Q : VK} (h : liE X.K F0 (dCall sp E' t) σ H Q) : tCall (liSp X.K F0.T sp) [] E (liA X.K F0 t) σ H Q := by
  obtain ⟨F, R, τ, M, Q', e0, st, sl, q, k⟩ := h
  refine ⟨F, R, τ, M, _, e0, st, sl, q, fun vs H1 F1 ds M1 e1 st1 r1 q1 => ?_⟩
  refine ⟨F1, R, ds, M1, Q', E', st1, e0.t, by rw [List.append_nil]; exact r1, q1, k.ext e1, fun e dx H2 F2 fs M2 e2 st2 rx qx => hE _ _ _ ⟨F2, R, M2, fs, e0.trans (e1.trans e2), st2, rx, qx⟩⟩
/-- f(..), no exception leaves f -/
theorem pd_call (F : FnOk X.prog X.w X.K X.mg X.base CX0 k f fd ps (liSp X.K F0.T sp)) (hr : Room k X.A) (hg : Gl X x) (hm : X.mg x = some (.ref f)) (hk : PySem.W.keepIn X.K (.ref f) = true) (hb : Binds X.K fd ps [])
    (ha : PA X (e :: es) (liA X.K F0 t)) (hdb : (x == ("__debug__" : Str)) = false := by decide) (he : starEach (e :: es) X.env = (false, eval e X.env) :: starEach es X.env := by rfl) (hpl : (backTo pos (starEach es X.env)).any (·.1) = false := by rfl) :
    PE X (.Call (.Name x p) (e :: es) [] pos) (liE X.K F0 (dCall sp E0D t)) :=
  peImp (pe_call F hr hg hm hk hb .nil pass0 ha hdb he hpl) fun _ _ _ h => li_call (fun _ _ _ ⟨_, _, _, _, _, _, _, z⟩ => z) h
theorem pd_call0 (F : FnOk X.prog X.w X.K X.mg X.base CX0 k f fd ps (liSp X.K F0.T sp)) (hr : Room k X.A) (hg : Gl X x) (hm : X.mg x = some (.ref f)) (hk : PySem.W.keepIn X.K (.ref f) = true) (hb : Binds X.K fd ps [])
    (hdb : (x == ("__debug__" : Str)) = false := by decide) : PE X (.Call (.Name x p) [] [] pos) (liE X.K F0 (dCall sp E0D dNil)) := by
  refine peImp (pe_call0 F hr hg hm hk hb .nil pass0 hdb) fun σ H Q ⟨F, R, τ, M, Q', e0, st, sl, q, k⟩ => ?_
  exact ⟨F, R, [], M, Q', E0D, st, e0.t, .nil, q, k, fun _ _ _ _ _ _ _ _ _ z => z⟩
/-- f(..), f may raise: E is what the own def wants -/
theorem pd_callX {E' : XD} {E : XK} (hE : ∀ e dx H, liX X.K F0 E' e dx H → E e dx H) (F : FnOk X.prog X.w X.K X.mg X.base CX k f fd ps (liSp X.K F0.T sp)) (hr : Room k X.A) (hg : Gl X x) (hm : X.mg x = some (.ref f)) (hk : PySem.W.keepIn X.K (.ref f) = true) (hb : Binds X.K fd ps [])
    (hx : Passes CX X E) (ha : PA X (e :: es) (liA X.K F0 t)) (hdb : (x == ("__debug__" : Str)) = false := by decide) (he : starEach (e :: es) X.env = (false, eval e X.env) :: starEach es X.env := by rfl) (hpl : (backTo pos (starEach es X.env)).any (·.1) = false := by rfl) :
    PE X (.Call (.Name x p) (e :: es) [] pos) (liE X.K F0 (dCall sp E' t)) :=
  peImp (pe_call F hr hg hm hk hb .nil hx ha hdb he hpl) fun _ _ _ h => li_call hE h
end

/-! ### statements -/
def dNext : DS := fun D τ M => D.nx τ M
def dSeq (t u : DS) : DS := fun D τ M => t { D with nx := u D } τ M
def dBreak : DS := fun D τ M => D.bk τ M
def dCont : DS := fun D τ M => D.ct τ M
def dDrop (te : DE) : DS := fun D τ M => te τ M fun _ M1 => D.nx τ M1
def dRet (te : DE) : DS := fun D τ M => te τ M D.rt
def dRetN : DS := fun D _ M => D.rt .non M
def dIfS (c : DT) (t u : DS) : DS := fun D τ M => c τ M fun b M1 => if b = true then t D τ M1 else u D τ M1
def dSet (i : Nat) (te : DE) : DS := fun D τ M => te τ M fun d M1 => D.nx (τ.set i (some d)) M1
/-- the values of targets: names alone -/
def setAll : List Nat → List D → SD → SD
  | i :: is, d :: ds, τ => setAll is ds (τ.set i (some d))
  | _, _, τ => τ
def dUnp (is : List Nat) (te : DE) : DS := fun D τ M => te τ M fun d M1 => match d with
  | .tup ds => ds.length = is.length ∧ D.nx (setAll is ds τ) M1
  | _ => False
section
variable {X : Cx} {F0 : Bs} {st : Stmt} {rest : List Stmt} {t u : DS} {e : Expr} {te : DE} {pos : Pos}
theorem sds_nil : PSs X [] (liS X.K F0 dNext) := pssImp pss_nil fun D σ H ⟨F, R, τ, M, D', e0, st, sl, q, k⟩ => k.nx _ _ _ _ _ Ext.refl st sl q
theorem sds_cons (h1 : PS X st (liS X.K F0 t)) (h2 : PSs X rest (liS X.K F0 u)) : PSs X (st :: rest) (liS X.K F0 (dSeq t u)) := by
  refine pssImp (pss_cons h1 h2) fun D σ H ⟨F, R, τ, M, D', e0, st, sl, q, k⟩ => ?_
  refine ⟨F, R, τ, M, _, e0, st, sl, q, ⟨fun σ2 H2 F2 τ2 M2 e2 st2 sl2 q2 => ?_, k.rt, k.bk, k.ct⟩⟩
  exact ⟨F2, R, τ2, M2, D', e0.trans e2, st2, sl2, q2, k.ext e2⟩
theorem sds_one (h1 : PS X st (liS X.K F0 t)) : PSs X [st] (liS X.K F0 t) := pss_one h1
theorem sd_pass : PS X (.Pass pos) (liS X.K F0 dNext) := psImp ps_pass fun D σ H ⟨F, R, τ, M, D', e0, st, sl, q, k⟩ => k.nx _ _ _ _ _ Ext.refl st sl q
theorem sd_break : PS X (.Break pos) (liS X.K F0 dBreak) := psImp ps_break fun D σ H ⟨F, R, τ, M, D', e0, st, sl, q, k⟩ => k.bk _ _ _ _ _ Ext.refl st sl q
theorem sd_cont : PS X (.Continue pos) (liS X.K F0 dCont) := psImp ps_continue fun D σ H ⟨F, R, τ, M, D', e0, st, sl, q, k⟩ => k.ct _ _ _ _ _ Ext.refl st sl q
theorem sd_expr (he : PE X e (liE X.K F0 te)) (hs : swapsWith e none pos.line X.env = pure false := by rfl) : PS X (.Expr e pos) (liS X.K F0 (dDrop te)) :=
  psImp (ps_expr he hs) fun D σ H ⟨F, R, τ, M, D', e0, st, sl, q, k⟩ => ⟨F, R, τ, M, _, e0, st, sl, q, fun v H2 F2 d M2 e2 st2 r2 q2 => k.nx _ _ _ _ _ e2 st2 (sl.ext e2) q2⟩
theorem sd_ret (he : PE X e (liE X.K F0 te)) : PS X (.Return (some e) pos) (liS X.K F0 (dRet te)) :=
  psImp (ps_ret he) fun D σ H ⟨F, R, τ, M, D', e0, st, sl, q, k⟩ => ⟨F, R, τ, M, _, e0, st, sl, q, k.rt⟩
theorem sd_retN : PS X (.Return none pos) (liS X.K F0 dRetN) :=
  psImp ps_retN fun D σ H ⟨F, R, τ, M, D', e0, st, sl, q, k⟩ => k.rt _ _ _ _ _ Ext.refl st .non q
theorem sd_if {c : Expr} {a b : List Stmt} {tc : DT} (hc : PT X c (liT X.K F0 tc)) (ha : PSs X a (liS X.K F0 t)) (hb : PSs X b (liS X.K F0 u)) : PS X (.If c a b pos) (liS X.K F0 (dIfS tc t u)) := by
  refine psImp (ps_if hc ha hb) fun D σ H ⟨F, R, τ, M, D', e0, st, sl, q, k⟩ => ?_
  refine ⟨F, R, τ, M, _, e0, st, sl, q, fun b H1 F1 M1 e1 st1 q1 => ?_⟩
  cases b with
  | true => rw [if_pos rfl] at q1 ⊢; exact ⟨F1, R, τ, M1, D', e0.trans e1, st1, sl.ext e1, q1, k.ext e1⟩
  | false => rw [if_neg Bool.false_ne_true] at q1 ⊢; exact ⟨F1, R, τ, M1, D', e0.trans e1, st1, sl.ext e1, q1, k.ext e1⟩
/-- name = value -/
theorem sd_set {i : Nat} {x : Str} {pos' : Pos} (hN : X.N.Nodup) (hi : X.N[i]? = some x) (hx : Loc X.env.scope x) (he : PE X e (liE X.K F0 te)) (hs : swapsWith e (some (.Name x pos')) pos.line X.env = pure false := by rfl) (hf : X.fn x = true ∨ X.env.scope.names.lookup x = some .local := by first | exact .inl rfl | exact .inr rfl | assumption) :
    PS X (.Assign [.Name x pos'] e pos) (liS X.K F0 (dSet i te)) :=
  psImp (ps_set hN hi hx he hs hf) fun D σ H ⟨F, R, τ, M, D', e0, st, sl, q, k⟩ => ⟨F, R, τ, M, _, e0, st, sl, q, fun v H2 F2 d M2 e2 st2 r2 q2 => k.nx _ _ _ _ _ e2 st2 ((sl.ext e2).put r2 i) q2⟩
/-- a, b, .. = a tuple -/
inductive GNames (X : Cx) : List Expr → List Nat → TGs → Prop
  | nil : GNames X [] [] gNil
  | cons {i : Nat} {x : Str} {p : Pos} {es : List Expr} {is : List Nat} {u : TGs} : PG X (.Name x p) (gName i) → GNames X es is u → (assignEach (.Name x p :: es) X.env).map (·.2) = assign (.Name x p) X.env :: (assignEach es X.env).map (·.2) →
      GNames X (.Name x p :: es) (i :: is) (gCons (gName i) u)
theorem GNames.pgs {es : List Expr} {is : List Nat} {u : TGs} (h : GNames X es is u) : PGs X es u := by
  induction h with
  | nil => exact pgs_nil
  | cons h _ hs ih => exact pgs_cons h ih hs
theorem GNames.run {es : List Expr} {is : List Nat} {u : TGs} (h : GNames X es is u) {K : PySem.W.Frag} {F R : Hp} {M : Mp} {D' : EndsD} {E2 : Ends} (k : KS K F R D' E2) : ∀ {xs : List V} {ds : List D} {σ : L2.St} {H : Hp} {τ : SD},
    Stt K F R H M → Slots K F σ τ → RepAll K F xs ds → ds.length = is.length → D'.nx (setAll is ds τ) M → u xs σ H E2.nx := by
  induction h with
  | nil =>
    intro xs ds σ H τ st sl ra hl q
    cases ra with
    | nil => exact ⟨rfl, k.nx _ _ _ _ _ Ext.refl st sl q⟩
    | cons _ _ => cases hl
  | @cons i x p es is u h _ hs ih =>
    intro xs ds σ H τ st sl ra hl q
    cases ra with
    | nil => cases hl
    | cons r ra => exact ⟨_, _, rfl, ih st (sl.put r i) ra (Nat.succ.inj hl) q⟩
theorem sd_unp {es : List Expr} {is : List Nat} {kk : Nat} {p2 : Pos} {ug : TGs} (hc : X.calm = true) (g : GNames X es is ug) (he : PE X e (liE X.K F0 te)) (hn : (assignEach es X.env).length = is.length := by rfl) (hst : (assignEach es X.env).findIdx? (·.1) = none := by rfl)
    (hs : swapsWithSole [.Tuple es kk p2] e pos.line X.env = pure false := by rfl) (hw : swappedStores [.Tuple es kk p2] e X.env = pure none := by rfl)
    (h1 : (assignEach [.Tuple es kk p2] X.env).map (·.2) = [assign (.Tuple es kk p2) X.env] := by rfl) : PS X (.Assign [.Tuple es kk p2] e pos) (liS X.K F0 (dUnp is te)) := by
  refine psImp (ps_asg he (pg_tup hc g.pgs hn hst) hs hw h1) fun D σ H ⟨F, R, τ, M, D', e0, st, sl, q, k⟩ => ?_
  refine ⟨F, R, τ, M, _, e0, st, sl, q, fun v H2 F2 d M2 e2 st2 r2 q2 => ?_⟩
  cases d <;> try exact q2.elim
  rename_i ds
  obtain ⟨a, xs, rfl, hq, ra⟩ := tp_get st2 r2
  exact ⟨a, xs, rfl, hq, by rw [ra.len]; exact q2.1, g.run (k.ext e2) st2 (sl.ext e2) ra q2.1 q2.2⟩
/-- name op= e -/
def dAug (i : Nat) (te : DE) (r : R2D) : DS := fun D τ M => match τ[i]? with
  | some (some x) => te τ M fun y M1 => r x y M1 fun z M2 => D.nx (τ.set i (some z)) M2
  | _ => False
theorem sd_aug {i : Nat} {x : Str} {op : Operator} {r : R2D} {pos' : Pos} (hN : X.N.Nodup) (hi : X.N[i]? = some x) (hx : Loc X.env.scope x) (he : PE X e (liE X.K F0 te)) (ho : OpD X F0 (inplaceOp op) r) (hf : X.fn x = true ∨ X.env.scope.names.lookup x = some .local := by first | exact .inl rfl | exact .inr rfl | assumption) :
    PS X (.AugAssign (.Name x pos') op e pos) (liS X.K F0 (dAug i te r)) := by
  refine psImp (ps_aug hN hi hx he (ti := liR X.K F0 r) ho hf) fun D σ H ⟨F, R, τ, M, D', e0, st, sl, q, k⟩ => ?_
  unfold dAug at q
  split at q <;> try exact q.elim
  rename_i x0 e1
  obtain ⟨v, ev, rv⟩ := sl.get e1
  refine ⟨v, ev, F, R, τ, M, _, e0, st, sl, q, fun w H2 F2 d M2 e2 st2 r2 q2 => ?_⟩
  refine ⟨F2, R, M2, x0, d, _, e0.trans e2, st2, rv.ext e2, r2, q2, fun z H3 F3 dz M3 e3 st3 r3 q3 => ?_⟩
  exact k.nx _ _ _ _ _ (e2.trans e3) st3 ((sl.ext (e2.trans e3)).put r3 i) q3
/-- xs[i] = e -/
abbrev RSet := D → D → D → Mp → (Mp → Prop) → Prop
def dStore (te to ti : DE) (r : RSet) : DS := fun D τ M => te τ M fun v M1 => to τ M1 fun o M2 => ti τ M2 fun i M3 => r o i v M3 fun M4 => D.nx τ M4
def liSet (K : PySem.W.Frag) (F0 : Bs) (r : RSet) : TSet := fun o i v H Q => ∃ F R M o' i' v' Q', Bas F0 F R ∧ Stt K F R H M ∧ Rep K F o o' ∧ Rep K F i i' ∧ Rep K F v v' ∧ r o' i' v' M Q' ∧ ∀ H2 F2 M2, Ext F F2 → Stt K F2 R H2 M2 → Q' M2 → Q H2
def dSetL : RSet := fun o i v M Q => match o, i with
  | .ref a, .int k => match M a with
    | some (.lst xs) => match ixN xs.length k with
      | some j => Q (updM M a (.lst (xs.set j v)))
      | none => False
    | _ => False
  | _, _ => False
theorem std_list : PSet X (liSet X.K F0 dSetL) := by
  intro pins s σ H o i v ov iv u Q I ro ri rv ⟨F, R, M, o', i', v', Q', e0, st, r1, r2, r3, q, k⟩
  unfold dSetL at q
  split at q <;> try exact q.elim
  rename_i a kx
  split at q <;> try exact q.elim
  rename_i xs em
  split at q <;> try exact q.elim
  rename_i j ej
  cases r1; cases r2
  obtain ⟨_, ho, hh, rr⟩ := st.ow _ _ em
  obtain ⟨vs, rfl, ra⟩ := rr.lst_iff
  refine set_list pins s σ H _ _ v ov iv u Q I ro ri rv ⟨a, vs, kx, j, rfl, rfl, hh, by rw [ra.len]; exact ej, ?_⟩
  exact k _ _ _ Ext.refl (st.store em (fun _ z => by cases z) (m' := .lst (xs.set j v')) (ra.put r3 j)) q
theorem sd_store {o i : Expr} {to ti : DE} {r : RSet} {p2 : Pos} (he : PE X e (liE X.K F0 te)) (ho : PE X o (liE X.K F0 to)) (hi : PE X i (liE X.K F0 ti)) (hs : PSet X (liSet X.K F0 r))
    (ha : ∀ v, assign (.Subscript o i p2) X.env v = (do
      let ov ← holding [v] (eval o X.env)
      let iv ← holding [v, ov] (eval i X.env)
      standAt p2
      holding [v, ov, iv] (setItem ov iv v)
      release [v, ov, iv] []) := by intro _; rfl)
    (hs1 : swapsWithSole [.Subscript o i p2] e pos.line X.env = pure false := by rfl) (hw : swappedStores [.Subscript o i p2] e X.env = pure none := by rfl)
    (h1 : (assignEach [.Subscript o i p2] X.env).map (·.2) = [assign (.Subscript o i p2) X.env] := by rfl) : PS X (.Assign [.Subscript o i p2] e pos) (liS X.K F0 (dStore te to ti r)) := by
  refine psImp (ps_asg he (pg_sub ho hi hs ha) hs1 hw h1) fun D σ H ⟨F, R, τ, M, D', e0, st, sl, q, k⟩ => ?_
  refine ⟨F, R, τ, M, _, e0, st, sl, q, fun v H1 F1 d M1 e1 st1 r1 q1 => ?_⟩
  refine ⟨F1, R, τ, M1, _, e0.trans e1, st1, sl.ext e1, q1, fun ov H2 F2 d2 M2 e2 st2 r2 q2 => ?_⟩
  refine ⟨F2, R, τ, M2, _, e0.trans (e1.trans e2), st2, sl.ext (e1.trans e2), q2, fun iv H3 F3 d3 M3 e3 st3 r3 q3 => ?_⟩
  exact ⟨F3, R, M3, d2, d3, d, _, e0.trans (e1.trans (e2.trans e3)), st3, r2.ext e3, r3, r1.ext (e2.trans e3), q3, fun H4 F4 M4 e4 st4 q4 => k.nx _ _ _ _ _ (e1.trans (e2.trans (e3.trans e4))) st4 (sl.ext (e1.trans (e2.trans (e3.trans e4)))) q4⟩
/-- while -/
def dWhile (c : DT) (tb : DS) : DS := fun D τ M => ∃ W : Nat → SD → Mp → Prop, (∃ m, W m τ M) ∧ ∀ m τ M, W m τ M →
  c τ M fun b M1 => if b = true then tb { D with nx := fun τ2 M2 => ∃ m', m' < m ∧ W m' τ2 M2, ct := fun τ2 M2 => ∃ m', m' < m ∧ W m' τ2 M2, bk := D.nx } τ M1 else D.nx τ M1
theorem sd_while {c : Expr} {body : List Stmt} {tc : DT} {tb : DS} (hp : PassesOwn (model X.prog X.w) X.A X.env X.xe) (hc : PT X c (liT X.K F0 tc)) (hb : PSs X body (liS X.K F0 tb)) : PS X (.While c body [] pos) (liS X.K F0 (dWhile tc tb)) := by
  refine psImp (ps_while hp hc hb) fun D σ H ⟨F, R, τ, M, D', e0, st, sl, ⟨W, ⟨m0, w0⟩, turn⟩, k⟩ => ?_
  refine ⟨fun m σ H => ∃ F1 τ1 M1, Ext F F1 ∧ Stt X.K F1 R H M1 ∧ Slots X.K F1 σ τ1 ∧ W m τ1 M1, ⟨m0, F, τ, M, Ext.refl, st, sl, w0⟩, fun m σ1 H1 ⟨F1, τ1, M1, e1, st1, sl1, w1⟩ => ?_⟩
  refine ⟨F1, R, τ1, M1, _, e0.trans e1, st1, sl1, turn m τ1 M1 w1, fun b H2 F2 M2 e2 st2 q2 => ?_⟩
  cases b with
  | false => rw [if_neg Bool.false_ne_true] at q2 ⊢; exact k.nx _ _ _ _ _ (e1.trans e2) st2 (sl1.ext e2) q2
  | true =>
    rw [if_pos rfl] at q2 ⊢
    refine ⟨fun σ' H' => ∃ m', m' < m ∧ ∃ F3 τ3 M3, Ext F F3 ∧ Stt X.K F3 R H' M3 ∧ Slots X.K F3 σ' τ3 ∧ W m' τ3 M3, fun σ' H' ⟨m', hm, z⟩ => ⟨m', hm, z⟩, ?_⟩
    refine ⟨F2, R, τ1, M2, _, e0.trans (e1.trans e2), st2, sl1.ext e2, q2, ⟨?_, k.rt.ext (e1.trans e2), k.nx.ext (e1.trans e2), ?_⟩⟩
    · exact fun σ3 H3 F3 τ3 M3 e3 st3 sl3 ⟨m', hm, w3⟩ => ⟨m', hm, F3, τ3, M3, e1.trans (e2.trans e3), st3, sl3, w3⟩
    · exact fun σ3 H3 F3 τ3 M3 e3 st3 sl3 ⟨m', hm, w3⟩ => ⟨m', hm, F3, τ3, M3, e1.trans (e2.trans e3), st3, sl3, w3⟩
end
end DL

/-! DL, the rules: for, comprehensions, defs -/
namespace DL
open PySem PySem.Spec PyProof.Rows L2

/-! ### what is walked -/
structure ItD where
  n : Nat
  at' : Nat → D
  ok : Mp → Prop
structure ItRel (K : PySem.W.Frag) (F : Hp) (J : It) (j : ItD) : Prop where
  go : ∀ i F2 R H M, Ext F F2 → Stt K F2 R H M → j.ok M → i < j.n → J.go i H
  yld : ∀ i F2 R H M x H', Ext F F2 → Stt K F2 R H M → j.ok M → i < j.n → J.yld i H x H' → ∃ F3, Ext F2 F3 ∧ Stt K F3 R H' M ∧ Rep K F3 x (j.at' i) ∧ ∀ b, R b ≠ none → H' b = H b
  stop : ∀ F2 R H M, Ext F F2 → Stt K F2 R H M → j.ok M → J.stop j.n H
theorem ItRel.ext {K : PySem.W.Frag} {F F2 : Hp} {J : It} {j : ItD} (r : ItRel K F J j) (e : Ext F F2) : ItRel K F2 J j :=
  ⟨fun i F3 R H M e3 => r.go i F3 R H M (e.trans e3), fun i F3 R H M x H' e3 => r.yld i F3 R H M x H' (e.trans e3), fun F3 R H M e3 => r.stop F3 R H M (e.trans e3)⟩
abbrev DTI := SD → Mp → (ItD → Mp → Prop) → Prop
def KI (K : PySem.W.Frag) (F R : Hp) (Q' : ItD → Mp → Prop) (Q : It → Hp → Prop) : Prop := ∀ J H2 F2 j M2, Ext F F2 → Stt K F2 R H2 M2 → ItRel K F2 J j → Q' j M2 → Q J H2
def liI (K : PySem.W.Frag) (F0 : Bs) (t : DTI) : TI := fun σ H Q => ∃ F R τ M Q', Bas F0 F R ∧ Stt K F R H M ∧ Slots K F σ τ ∧ t τ M Q' ∧ KI K F R Q' Q
theorem piImp {X : Cx} {tg e : Expr} {t t' : TI} (h : PI X tg e t) (k : ∀ σ H Q, t' σ H Q → t σ H Q) : PI X tg e t' := ⟨fun pins s σ H R I q => h.run pins s σ H R I (k _ _ _ q)⟩
/-- the items of a list or a tuple -/
def itSeq (d : D) (ds : List D) : ItD := ⟨ds.length, fun i => ds.getD i .non, fun M => sqOf M d = some ds⟩
def iSeqD (te : DE) : DTI := fun τ M Q => te τ M fun d M1 => match sqOf M1 d with
  | some ds => Q (itSeq d ds) M1
  | none => False
def itRng (lo : Int) (n : Nat) : ItD := ⟨n, fun i => .int (lo + i), fun _ => True⟩
def iRng1D (ta : DA) : DTI := fun τ M Q => ta τ M fun ds M1 => match ds with
  | [.int j] => -(2 ^ 62) ≤ j ∧ j < 2 ^ 62 ∧ Q (itRng 0 j.toNat) M1
  | _ => False
def iRng2D (ta : DA) : DTI := fun τ M Q => ta τ M fun ds M1 => match ds with
  | [.int i, .int j] => (-(2 ^ 62) ≤ i ∧ i < 2 ^ 62 ∧ -(2 ^ 62) ≤ j ∧ j < 2 ^ 62) ∧ Q (itRng i (j - i).toNat) M1
  | _ => False
/-- either of the two -/
def iBoth (K : PySem.W.Frag) (tl : TE) : TI := fun σ H R => tl σ H fun x H1 => ∃ a, x = .ref a ∧ (((∃ xs, SqL K H1 a xs) ∧ R (Itl K a) H1) ∨ ((∃ xs, SqT K H1 a xs) ∧ R (Itt K a) H1))
section
variable {X : Cx} {F0 : Bs} {tg l : Expr} {te : DE}
theorem pi_both {tl : TE} (hl : PE X l tl) : PI X tg l (iBoth X.K tl) := by
  constructor
  intro pins s σ H R I h
  refine thn (hl.run pins s σ H _ I h) fun v s1 ⟨x, H1, I1, r1, a, ex, q⟩ => ?_
  subst ex
  cases r1
  have new : ∀ b ∈ [s1.heap.objs.size], FpOk X pins H1 b := fun b hb => by
    have e2 : b = s1.heap.objs.size := List.mem_singleton.mp hb
    rw [e2]
    exact I1.fpOk (Nat.le_refl _) (I1.hok.fresh (Nat.le_refl _))
  rcases q with ⟨⟨xs, hq⟩, q⟩ | ⟨⟨xs, hq⟩, q⟩
  · obtain ⟨its, rv, p, hz⟩ := I1.list hq
    exact wpAny_pyIter_list p.isList ⟨s1.heap.objs.size, [s1.heap.objs.size], _, _, H1, rfl, I1.kept (t' := s1.toks) fun b o e => Heap.get?_push_of_some _ e, turn_list a _, ⟨_, Heap.get?_push_size _ rfl, rfl, rfl⟩, new, q⟩
  · obtain ⟨its, rv, p, hz⟩ := I1.tuple hq
    exact wpAny_pyIter_tuple (show s1.heap.IsTuple a its.toArray from p) ⟨s1.heap.objs.size, [s1.heap.objs.size], _, _, H1, rfl, I1.kept (t' := s1.toks) fun b o e => Heap.get?_push_of_some _ e, turn_tuple a _, ⟨_, Heap.get?_push_size _ rfl, rfl, rfl⟩, new, q⟩
theorem getD_of {α : Type} {ds : List α} {i : Nat} {d z : α} (h : ds[i]? = some d) : ds.getD i z = d := by rw [List.getD_eq_getElem?_getD, h]; rfl
theorem rel_list {K : PySem.W.Frag} {F R H : Hp} {M : Mp} {a : Addr} {d : D} {ds : List D} (st : Stt K F R H M) (r : Rep K F (.ref a) d) (h : lsOf M d = some ds) (h2 : ∀ M, sqOf M d = some ds → lsOf M d = some ds) : ItRel K F (Itl K a) (itSeq d ds) where
  go := fun i F2 R H M e st ok hi => by
    obtain ⟨a', xs, ea, hs, ra⟩ := ls_get st (r.ext e) (h2 M ok)
    cases ea
    have hi : i < ds.length := hi
    exact ⟨xs, xs[i]'(by rw [ra.len]; exact hi), hs, List.getElem?_eq_getElem _⟩
  yld := fun i F2 R H M x H' e st ok hi y => by
    obtain ⟨rfl, y⟩ := y
    obtain ⟨a', xs, ea, hs, ra⟩ := ls_get st (r.ext e) (h2 M ok)
    cases ea
    obtain ⟨d', e1, e2⟩ := ra.get (y xs hs)
    exact ⟨F2, Ext.refl, st, by show Rep K F2 x (ds.getD i .non); rw [getD_of e1]; exact e2, fun _ _ => rfl⟩
  stop := fun F2 R H M e st ok => by
    obtain ⟨a', xs, ea, hs, ra⟩ := ls_get st (r.ext e) (h2 M ok)
    cases ea
    exact ⟨xs, hs, by rw [ra.len]; exact Nat.le_refl _⟩
theorem rel_tup {K : PySem.W.Frag} {F : Hp} {a : Addr} {ds : List D} (r : Rep K F (.ref a) (.tup ds)) : ItRel K F (Itt K a) (itSeq (.tup ds) ds) where
  go := fun i F2 R H M e st ok hi => by
    obtain ⟨a', xs, ea, hs, ra⟩ := tp_get st (r.ext e)
    cases ea
    have hi : i < ds.length := hi
    exact ⟨xs, xs[i]'(by rw [ra.len]; exact hi), hs, List.getElem?_eq_getElem _⟩
  yld := fun i F2 R H M x H' e st ok hi y => by
    obtain ⟨rfl, y⟩ := y
    obtain ⟨a', xs, ea, hs, ra⟩ := tp_get st (r.ext e)
    cases ea
    obtain ⟨d', e1, e2⟩ := ra.get (y xs hs)
    exact ⟨F2, Ext.refl, st, by show Rep K F2 x (ds.getD i .non); rw [getD_of e1]; exact e2, fun _ _ => rfl⟩
  stop := fun F2 R H M e st ok => by
    obtain ⟨a', xs, ea, hs, ra⟩ := tp_get st (r.ext e)
    cases ea
    exact ⟨xs, hs, by rw [ra.len]; exact Nat.le_refl _⟩
theorem rel_rng {K : PySem.W.Frag} {F : Hp} {lo : Int} {n : Nat} : ItRel K F (Itr lo n) (itRng lo n) where
  go := fun i F2 R H M e st ok hi => hi
  yld := fun i F2 R H M x H' e st ok hi y => by
    obtain ⟨rfl, rfl⟩ := y
    exact ⟨F2, Ext.refl, st, .int _, fun _ _ => rfl⟩
  stop := fun F2 R H M e st ok => Nat.le_refl _
theorem id_seq (hl : PE X l (liE X.K F0 te)) : PI X tg l (liI X.K F0 (iSeqD te)) := by
  refine piImp (pi_both hl) fun σ H Q ⟨F, R, τ, M, Q', e0, st, sl, q, k⟩ => ?_
  refine ⟨F, R, τ, M, _, e0, st, sl, q, fun v H1 F1 d M1 e1 st1 r1 q1 => ?_⟩
  split at q1 <;> try exact q1.elim
  rename_i ds h1
  rcases sqOf_cases h1 with rfl | h2
  · have r0 := r1
    obtain ⟨a, xs, rfl, hs, ra⟩ := tp_get st1 r1
    exact ⟨a, rfl, .inr ⟨⟨xs, hs⟩, k _ _ _ _ _ e1 st1 (rel_tup r0) q1⟩⟩
  · have r0 := r1
    obtain ⟨a, xs, rfl, hs, ra⟩ := ls_get st1 r1 h2
    refine ⟨a, rfl, .inl ⟨⟨xs, hs⟩, k _ _ _ _ _ e1 st1 (rel_list st1 r0 h2 fun M2 z => ?_) q1⟩⟩
    rcases sqOf_cases z with rfl | z
    · cases h2
    · exact z
theorem id_rng1 {a : Expr} {ta : DA} {p pos : Pos} (hg : Gl X "range") (hm : X.mg "range" = none) (ha : PA X [a] (liA X.K F0 ta)) (hs : starEach [a] X.env = [(false, eval a X.env)] := by rfl) : PI X tg (.Call (.Name "range" p) [a] [] pos) (liI X.K F0 (iRng1D ta)) := by
  refine piImp (pi_range1 hg hm ha hs) fun σ H Q ⟨F, R, τ, M, Q', e0, st, sl, q, k⟩ => ?_
  refine ⟨F, R, τ, M, _, e0, st, sl, q, fun v H1 F1 ds M1 e1 st1 r1 q1 => ?_⟩
  split at q1 <;> try exact q1.elim
  obtain ⟨x, rfl, r⟩ := rep1 r1
  cases r
  exact ⟨_, rfl, q1.1, q1.2.1, k _ _ _ _ _ e1 st1 rel_rng q1.2.2⟩
theorem id_rng2 {a b : Expr} {ta : DA} {p pos : Pos} (hg : Gl X "range") (hm : X.mg "range" = none) (ha : PA X [a, b] (liA X.K F0 ta)) (hs : starEach [a, b] X.env = [(false, eval a X.env), (false, eval b X.env)] := by rfl) (hs2 : starEach [b] X.env = [(false, eval b X.env)] := by rfl) :
    PI X tg (.Call (.Name "range" p) [a, b] [] pos) (liI X.K F0 (iRng2D ta)) := by
  refine piImp (pi_range2 hg hm ha hs hs2) fun σ H Q ⟨F, R, τ, M, Q', e0, st, sl, q, k⟩ => ?_
  refine ⟨F, R, τ, M, _, e0, st, sl, q, fun v H1 F1 ds M1 e1 st1 r1 q1 => ?_⟩
  split at q1 <;> try exact q1.elim
  obtain ⟨x, y, rfl, r, r'⟩ := rep2 r1
  cases r; cases r'
  exact ⟨_, _, rfl, q1.1, k _ _ _ _ _ e1 st1 rel_rng q1.2⟩
end

/-! ### targets -/
/-- one name (is = [i], plain), or a tuple of names -/
def bindD (plain : Bool) (is : List Nat) (d : D) (τ : SD) : Option SD :=
  if plain then (match is with | [i] => some (τ.set i (some d)) | _ => none)
  else match d with
    | .tup ds => if ds.length = is.length then some (setAll is ds τ) else none
    | _ => none
def gD (plain : Bool) (is : List Nat) : D → SD → Mp → (SD → Mp → Prop) → Prop := fun d τ M Q => match bindD plain is d τ with
  | some τ2 => Q τ2 M
  | none => False
/-- a target's concrete reading does what bindD says -/
structure TgOk (K : PySem.W.Frag) (g : TG) (plain : Bool) (is : List Nat) : Prop where
  run : ∀ F R H M v d σ τ τ2 (Q : L2.St → Hp → Prop), Stt K F R H M → Slots K F σ τ → Rep K F v d → bindD plain is d τ = some τ2 → (∀ σ2, Slots K F σ2 τ2 → (∃ xs : List V, (is.length = xs.length) ∧ σ2 = (is.zip xs).foldl (fun s p => s.set p.1 (some p.2)) σ) → Q σ2 H) → g v σ H Q
theorem tg_name {K : PySem.W.Frag} {i : Nat} : TgOk K (gName i) true [i] := by
  constructor
  intro F R H M v d σ τ τ2 Q st sl r e q
  have e : some (τ.set i (some d)) = some τ2 := e
  cases e
  exact q _ (sl.put r i) ⟨[v], rfl, rfl⟩
theorem names_run {K : PySem.W.Frag} {F : Hp} {X : Cx} {es : List Expr} {is : List Nat} {u : TGs} (h : GNames X es is u) : ∀ {xs : List V} {ds : List D} {σ : L2.St} {H : Hp} {τ : SD} {Q : L2.St → Hp → Prop}, Slots K F σ τ → RepAll K F xs ds → ds.length = is.length →
    (∀ σ2, Slots K F σ2 (setAll is ds τ) → (∃ xs : List V, (is.length = xs.length) ∧ σ2 = (is.zip xs).foldl (fun s p => s.set p.1 (some p.2)) σ) → Q σ2 H) → u xs σ H Q := by
  induction h with
  | nil =>
    intro xs ds σ H τ Q sl ra hl q
    cases ra with
    | nil => exact ⟨rfl, q _ sl ⟨[], rfl, rfl⟩⟩
    | cons _ _ => cases hl
  | @cons i x p es is u h _ hs ih =>
    intro xs ds σ H τ Q sl ra hl q
    cases ra with
    | nil => cases hl
    | cons r ra =>
      rename_i v vs d ds
      refine ⟨_, _, rfl, ih (sl.put r i) ra (Nat.succ.inj hl) fun σ2 s2 ⟨ys, h1, h2⟩ => ?_⟩
      exact q σ2 s2 ⟨v :: ys, by simp [h1], by rw [h2]; rfl⟩
theorem tg_tup {K : PySem.W.Frag} {X : Cx} {es : List Expr} {is : List Nat} {u : TGs} (h : GNames X es is u) : TgOk K (gTup K is.length u) false is := by
  constructor
  intro F R H M v d σ τ τ2 Q st sl r e q
  cases d <;> try (exact nomatch (show (none : Option SD) = some τ2 from e))
  rename_i ds
  have e : (if ds.length = is.length then some (setAll is ds τ) else none) = some τ2 := e
  split at e
  · rename_i hl
    cases e
    obtain ⟨a, xs, rfl, hs, ra⟩ := tp_get st r
    exact ⟨a, xs, rfl, hs, by rw [ra.len]; exact hl, names_run h sl ra hl q⟩
  · cases e
/-! ### for -/
def dFor (wi : DTI) (g : D → SD → Mp → (SD → Mp → Prop) → Prop) (tb : DS) : DS := fun D τ M => wi τ M fun j M1 => ∃ Pv : Nat → SD → Mp → Prop, Pv 0 τ M1 ∧ (∀ i τ M, i ≤ j.n → Pv i τ M → j.ok M) ∧
  (∀ i τ M, i < j.n → Pv i τ M → g (j.at' i) τ M fun τ2 M2 => tb { D with nx := Pv (i + 1), ct := Pv (i + 1), bk := D.nx } τ2 M2) ∧ ∀ τ M, Pv j.n τ M → D.nx τ M
section
variable {X : Cx} {F0 : Bs} {tg iter : Expr} {body : List Stmt} {wi : DTI} {g : TG} {tb : DS} {plain : Bool} {is : List Nat} {pos : Pos}
theorem sd_for (hp : PassesOwn (model X.prog X.w) X.A X.env X.xe) (hc : X.calm = true) (hi : PI X tg iter (liI X.K F0 wi)) (hg : PG X tg g) (ht : TgOk X.K g plain is) (hb : PSs X body (liS X.K F0 tb))
    (hs : ∀ x, foldedSetIterable iter X.env x = pure x := by intro _; rfl) : PS X (.For tg iter body [] pos) (liS X.K F0 (dFor wi (gD plain is) tb)) := by
  refine psImp (ps_for hp hc hi hg hb hs) fun D σ H ⟨F, R, τ, M, D', e0, st, sl, q, k⟩ => ?_
  refine ⟨F, R, τ, M, _, e0, st, sl, q, fun J H1 F1 j M1 e1 st1 rl ⟨Pv, p0, pk, ps, pd⟩ => ?_⟩
  refine ⟨fun i m σ H => m = j.n - i ∧ i ≤ j.n ∧ ∃ F2 τ2 M2, Ext F1 F2 ∧ Stt X.K F2 R H M2 ∧ Slots X.K F2 σ τ2 ∧ Pv i τ2 M2, ⟨j.n, by simp, Nat.zero_le _, F1, τ, M1, Ext.refl, st1, sl.ext e1, p0⟩, ?_⟩
  rintro i m σ2 H2 ⟨rfl, hi, F2, τ2, M2, e2, st2, sl2, p2⟩
  have ok := pk i τ2 M2 hi p2
  by_cases hlt : i < j.n
  · refine .inr ⟨rl.go i F2 R H2 M2 e2 st2 ok hlt, fun σ' H' => ∃ F2 τ2 M2, Ext F1 F2 ∧ Stt X.K F2 R H' M2 ∧ Slots X.K F2 σ' τ2 ∧ Pv (i + 1) τ2 M2, fun σ' H' z => ⟨j.n - (i + 1), by omega, rfl, hlt, z⟩, fun x H3 y => ?_⟩
    obtain ⟨F3, e3, st3, rx, _⟩ := rl.yld i F2 R H2 M2 x H3 e2 st2 ok hlt y
    have step := ps i τ2 M2 hlt p2
    unfold gD at step
    split at step
    · rename_i τ3 eb
      refine ht.run F3 R H3 M2 x _ σ2 τ2 τ3 _ st3 (sl2.ext e3) rx eb fun σ3 sl3 _ => ?_
      refine ⟨F3, R, τ3, M2, _, e0.trans (e1.trans (e2.trans e3)), st3, sl3, step, ⟨?_, k.rt.ext (e1.trans (e2.trans e3)), k.nx.ext (e1.trans (e2.trans e3)), ?_⟩⟩
      · exact fun σ4 H4 F4 τ4 M4 e4 st4 sl4 q4 => ⟨F4, τ4, M4, e2.trans (e3.trans e4), st4, sl4, q4⟩
      · exact fun σ4 H4 F4 τ4 M4 e4 st4 sl4 q4 => ⟨F4, τ4, M4, e2.trans (e3.trans e4), st4, sl4, q4⟩
    · exact step.elim
  · have e : i = j.n := by omega
    subst e
    exact .inl ⟨rl.stop F2 R H2 M2 e2 st2 ok, k.nx _ _ _ _ _ (e1.trans e2) st2 sl2 (pd τ2 M2 p2)⟩
end

/-! ### comprehensions -/
def wipeD (τ : SD) : List Nat → SD
  | [] => τ
  | v :: vs => (wipeD τ vs).set v none
theorem Slots.wipe {K : PySem.W.Frag} {F : Hp} {σ : L2.St} {τ : SD} (h : Slots K F σ τ) : ∀ vs : List Nat, Slots K F (wipe σ vs) (wipeD τ vs)
  | [] => h
  | v :: vs => (Slots.wipe h vs).drop1 v
theorem wipe_get (σ : L2.St) (k : Nat) : ∀ vs : List Nat, (wipe σ vs)[k]? = if k ∈ vs then (σ[k]?).map (fun _ => none) else σ[k]?
  | [] => by simp [wipe]
  | v :: vs => by
    show ((wipe σ vs).set v none)[k]? = _
    rw [List.getElem?_set]
    have ih := wipe_get σ k vs
    by_cases h : v = k
    · subst h
      rw [if_pos rfl, if_pos List.mem_cons_self, wipe_length]
      by_cases hk : v < σ.length
      · rw [if_pos hk, List.getElem?_eq_getElem hk]; rfl
      · rw [if_neg hk, List.getElem?_eq_none (by omega)]; rfl
    · rw [if_neg h, ih]
      by_cases hm : k ∈ vs
      · rw [if_pos hm, if_pos (List.mem_cons_of_mem _ hm)]
      · rw [if_neg hm, if_neg fun z => (List.mem_cons.mp z).elim (fun q => h q.symm) hm]
theorem wipe_set {σ : L2.St} {i : Nat} {x : Option V} {vs : List Nat} (h : i ∈ vs) : wipe (σ.set i x) vs = wipe σ vs := by
  apply List.ext_getElem?
  intro k
  rw [wipe_get, wipe_get, List.getElem?_set]
  by_cases e : i = k
  · subst e
    rw [if_pos h, if_pos h, if_pos rfl]
    by_cases hk : i < σ.length
    · rw [if_pos hk, List.getElem?_eq_getElem hk]; rfl
    · rw [if_neg hk, List.getElem?_eq_none (by omega)]
  · rw [if_neg e]
theorem wipe_wipe {σ : L2.St} {vs : List Nat} : wipe (wipe σ vs) vs = wipe σ vs := by
  apply List.ext_getElem?
  intro k
  rw [wipe_get, wipe_get]
  by_cases h : k ∈ vs
  · simp only [if_pos h]
    cases σ[k]? <;> rfl
  · simp only [if_neg h]
theorem wipe_fold {vs : List Nat} : ∀ (is : List Nat) (xs : List V) (σ : L2.St), (∀ i ∈ is, i ∈ vs) → wipe ((is.zip xs).foldl (fun s p => s.set p.1 (some p.2)) σ) vs = wipe σ vs
  | [], _, _, _ => rfl
  | i :: is, [], _, _ => rfl
  | i :: is, x :: xs, σ, h => by
    show wipe ((is.zip xs).foldl (fun s p => s.set p.1 (some p.2)) (σ.set i (some x))) vs = _
    rw [wipe_fold is xs _ fun j hj => h j (List.mem_cons_of_mem _ hj), wipe_set (h i List.mem_cons_self)]
theorem Stt.reput {K : PySem.W.Frag} {F R H : Hp} {M : Mp} {p : Addr} {xs xs' : List V} (s : Stt K F (upd R p (.lst xs)) H M) : Stt K F (upd R p (.lst xs')) (upd H p (.lst xs')) M := by
  obtain ⟨hp, fp, mp⟩ := s.rs p (.lst xs) upd_same
  have hp : H p = some (.lst xs) := hp
  refine ⟨fun a u e => ?_, fun a u e => ?_, fun a m e => ?_, s.nf, fun a u e => ?_⟩
  rotate_left 3
  · by_cases q : a = p
    · subst q; rw [upd_same] at e; cases e; trivial
    · rw [upd_ne q] at e; exact s.nr a u (by rw [upd_ne q]; exact e)
  · rw [upd_ne (ne_of_none e fp)]; exact s.fz _ _ e
  · by_cases q : a = p
    · subst q; rw [upd_same] at e; cases e; exact ⟨upd_same, fp, mp⟩
    · rw [upd_ne q] at e
      obtain ⟨h1, h2, h3⟩ := s.rs a u (by rw [upd_ne q]; exact e)
      exact ⟨h1.step (fun b v n eb => by rw [upd_ne n]; exact eb) q (fun c z => by rw [hp] at z; unfold LamX.CodeO at z; cases z), h2, h3⟩
  · have q : a ≠ p := fun z => by subst z; rw [mp] at e; cases e
    rw [upd_ne q]; exact s.ow a m e
theorem Stt.refreeze {K : PySem.W.Frag} {F R H : Hp} {M : Mp} {p : Addr} {xs : List V} (s : Stt K F (upd R p (.lst xs)) H M) (hr : R p = none) : Stt K (upd F p (.lst xs)) R H M ∧ Ext F (upd F p (.lst xs)) := by
  obtain ⟨hp, fp, mp⟩ := s.rs p (.lst xs) upd_same
  have ex : Ext F (upd F p (.lst xs)) := fun a u e => by rw [upd_ne (ne_of_none e fp)]; exact e
  refine ⟨⟨fun a u e => ?_, fun a u e => ?_, fun a m e => ?_, fun a u e => ?_, fun a u e => s.nr a u (by rw [upd_ne (ne_of_none e hr)]; exact e)⟩, ex⟩
  rotate_left 3
  · by_cases q : a = p
    · subst q; rw [upd_same] at e; cases e; trivial
    · rw [upd_ne q] at e; exact s.nf a u e
  · by_cases q : a = p
    · subst q; rw [upd_same] at e; cases e; exact hp
    · rw [upd_ne q] at e; exact s.fz _ _ e
  · have q : a ≠ p := ne_of_none e hr
    obtain ⟨h1, h2, h3⟩ := s.rs a u (by rw [upd_ne q]; exact e)
    exact ⟨h1, by rw [upd_ne q]; exact h2, h3⟩
  · have q : a ≠ p := fun z => by subst z; rw [mp] at e; cases e
    obtain ⟨h1, u, h2, h3⟩ := s.ow a m e
    exact ⟨by rw [upd_ne q]; exact h1, u, h2, h3.ext ex⟩
theorem Stt.reown {K : PySem.W.Frag} {F R H : Hp} {M : Mp} {p : Addr} {xs : List V} {m : MO} (s : Stt K F (upd R p (.lst xs)) H M) (hr : R p = none) (r : RepO K F (.lst xs) m) : Stt K F R H (updM M p m) := by
  obtain ⟨hp, fp, mp⟩ := s.rs p (.lst xs) upd_same
  refine ⟨s.fz, fun a u e => ?_, fun a m' e => ?_, s.nf, fun a u e => s.nr a u (by rw [upd_ne (ne_of_none e hr)]; exact e)⟩
  · have q : a ≠ p := ne_of_none e hr
    obtain ⟨h1, h2, h3⟩ := s.rs a u (by rw [upd_ne q]; exact e)
    exact ⟨h1, h2, by rw [updM_ne q]; exact h3⟩
  · by_cases q : a = p
    · subst q; rw [updM_same] at e; cases e; exact ⟨fp, _, hp, r⟩
    · rw [updM_ne q] at e; exact s.ow a m' e
def dYes : DT := fun _ M Q => Q true M
/-- [e for .. in .. if t]; fin: what becomes of the new list -/
def dLcG (fin : List D → Mp → QD → Prop) (wi : DTI) (plain : Bool) (is vs : List Nat) (tt : DT) (te : DE) : DE := fun τ M Q => wi τ M fun j M1 => ∃ Pv : Nat → List D → Mp → Prop, Pv 0 [] M1 ∧ (∀ i acc M, i ≤ j.n → Pv i acc M → j.ok M) ∧
  (∀ i acc M, i < j.n → Pv i acc M → match bindD plain is (j.at' i) (wipeD τ vs) with
    | some τ2 => tt τ2 M fun b M3 => if b = true then te τ2 M3 fun e M4 => acc.length < sizeLine ∧ Pv (i + 1) (acc ++ [e]) M4 else Pv (i + 1) acc M3
    | none => False) ∧ ∀ acc M, Pv j.n acc M → fin acc M Q
abbrev dLc := dLcG fun acc M Q => Q (.lst acc) M
abbrev dLcM := dLcG fun acc M Q => ∀ p, M p = none → Q (.ref p) (updM M p (.lst acc))
/-- how the new list is handed on -/
def FinOk (K : PySem.W.Frag) (fin : List D → Mp → QD → Prop) : Prop := ∀ F R H M p xs acc Q' Q, Stt K F (upd R p (.lst xs)) H M → R p = none → RepAll K F xs acc → fin acc M Q' → KE K F R Q' Q → Q (.ref p) H
theorem fin_lst {K : PySem.W.Frag} : FinOk K fun acc M Q => Q (.lst acc) M := fun F R H M p xs acc Q' Q st hr ra q k => by
  obtain ⟨s2, e⟩ := st.refreeze hr
  exact k _ _ _ _ _ e s2 (.lst upd_same (ra.ext e)) q
theorem fin_own {K : PySem.W.Frag} : FinOk K fun acc M Q => ∀ p, M p = none → Q (.ref p) (updM M p (.lst acc)) := fun F R H M p xs acc Q' Q st hr ra q k =>
  k _ _ _ _ _ Ext.refl (st.reown hr (m := .lst acc) ra) (.ref p) (q p (st.rs p _ upd_same).2.2)
section
variable {K : PySem.W.Frag} {F0 : Bs} {fin : List D → Mp → QD → Prop} {wi : DTI} {g : TG} {plain : Bool} {is vs : List Nat} {tt : DT} {te : DE}
theorem li_lc (hf : FinOk K fin) (ht : TgOk K g plain is) (hv : ∀ i ∈ is, i ∈ vs) {σ : L2.St} {H : Hp} {Q : VK} (h : liE K F0 (dLcG fin wi plain is vs tt te) σ H Q) : tLc (liI K F0 wi) g (liT K F0 tt) (liE K F0 te) vs σ H Q := by
  obtain ⟨F, R, τ, M, Q', e0, st, sl, q, k⟩ := h
  refine ⟨F, R, τ, M, _, e0, st, sl, q, fun J H1 F1 j M1 e1 st1 rl ⟨Pv, p0, pk, ps, pd⟩ => fun L hL => ?_⟩
  have rL : R L = none := by
    cases z : R L with
    | none => rfl
    | some o => exact ((st1.rs L o z).1.there hL).elim
  have fL : F1 L = none := by
    cases z : F1 L with
    | none => rfl
    | some o => have := st1.fz L o z; rw [hL] at this; cases this
  have mL : M1 L = none := by
    cases z : M1 L with
    | none => rfl
    | some o => obtain ⟨_, u, hu, _⟩ := st1.ow L o z; rw [hL] at hu; cases hu
  have exR : ∀ o, Ext R (upd R L o) := fun o a u e => by rw [upd_ne (ne_of_none e rL)]; exact e
  have st0 : Stt K F1 (upd R L (.lst [])) (upd H1 L (.lst [])) M1 := by
    refine ⟨fun a u e => ?_, fun a u e => ?_, fun a m e => ?_, st1.nf, fun a u e => ?_⟩
    rotate_left 3
    · by_cases z : a = L
      · subst z; rw [upd_same] at e; cases e; trivial
      · rw [upd_ne z] at e; exact st1.nr a u e
    · rw [upd_ne (ne_of_none e fL)]; exact st1.fz _ _ e
    · by_cases z : a = L
      · subst z; rw [upd_same] at e; cases e; exact ⟨upd_same, fL, mL⟩
      · rw [upd_ne z] at e
        obtain ⟨h1, h2, h3⟩ := st1.rs a u e
        exact ⟨h1.step (fun b v n eb => by rw [upd_ne n]; exact eb) z (fun c y => by rw [hL] at y; cases y), h2, h3⟩
    · have z : a ≠ L := fun z => by subst z; rw [mL] at e; cases e
      rw [upd_ne z]; exact st1.ow a m e
  refine ⟨fun i m H => m = j.n - i ∧ i ≤ j.n ∧ ∃ F2 M2 xs acc, Ext F1 F2 ∧ Stt K F2 (upd R L (.lst xs)) H M2 ∧ RepAll K F2 xs acc ∧ Pv i acc M2, ⟨j.n, by simp, Nat.zero_le _, F1, M1, [], [], Ext.refl, st0, .nil, p0⟩, ?_⟩
  rintro i m H2 ⟨rfl, hi, F2, M2, xs, acc, e2, st2, ra, p2⟩
  have ok := pk i acc M2 hi p2
  by_cases hlt : i < j.n
  · refine .inr ⟨rl.go i F2 _ H2 M2 e2 st2 ok hlt, fun H' => ∃ F2 M2 xs acc, Ext F1 F2 ∧ Stt K F2 (upd R L (.lst xs)) H' M2 ∧ RepAll K F2 xs acc ∧ Pv (i + 1) acc M2, fun H' z => ⟨j.n - (i + 1), by omega, rfl, hlt, z⟩, fun x H3 y => ?_⟩
    obtain ⟨F3, e3, st3, rx, _⟩ := rl.yld i F2 _ H2 M2 x H3 e2 st2 ok hlt y
    have step := ps i acc M2 hlt p2
    split at step
    · rename_i τ3 eb
      have sl3 : Slots K F3 (wipe σ vs) (wipeD τ vs) := (sl.ext (e1.trans (e2.trans e3))).wipe vs
      refine ht.run F3 _ H3 M2 x _ _ _ τ3 _ st3 sl3 rx eb fun σ4 sl4 ⟨ys, hl, e4⟩ => ⟨by rw [e4, wipe_fold is ys _ hv, wipe_wipe], ?_⟩
      have b3 : Bas F0 F3 (upd R L (.lst xs)) := ⟨(e0.trans (e1.trans (e2.trans e3))).f, e0.r.trans (exR _), e0.t.ext (exR _)⟩
      refine ⟨F3, _, τ3, M2, _, b3, st3, sl4, step, fun b H5 F5 M5 e5 st5 q5 => ?_⟩
      cases b with
      | false =>
        rw [if_neg Bool.false_ne_true] at q5 ⊢
        exact ⟨F5, M5, xs, acc, e2.trans (e3.trans e5), st5, ra.ext (e3.trans e5), q5⟩
      | true =>
        rw [if_pos rfl] at q5 ⊢
        refine ⟨F5, _, τ3, M5, _, b3.trans e5, st5, sl4.ext e5, q5, fun z H6 F6 dz M6 e6 st6 r6 ⟨q6, q7⟩ => ?_⟩
        have ra6 := ra.ext (e3.trans (e5.trans e6))
        exact ⟨xs, (st6.rs L _ upd_same).1, by rw [ra6.len]; exact q6, F6, M6, xs ++ [z], acc ++ [dz], e2.trans (e3.trans (e5.trans e6)), st6.reput, ra6.app (.cons r6 .nil), q7⟩
    · exact step.elim
  · have e : i = j.n := by omega
    subst e
    exact .inl ⟨rl.stop F2 _ H2 M2 e2 st2 ok, hf F2 R H2 M2 L xs acc Q' Q st2 rL ra (pd acc M2 p2) (k.ext (e1.trans e2))⟩
end
section
variable {X : Cx} {F0 : Bs} {elt tg iter : Expr} {ifs : List Expr} {scope : Scope} {own : List (Str × Nat)} {pos : Pos} {wi : DTI} {g : TG} {plain : Bool} {is vs : List Nat} {tt : DT} {te : DE} {fin : List D → Mp → QD → Prop}
theorem pd_lcG (hf : FinOk X.K fin) (hc : X.calm = true) (hN : X.N.Nodup) (hi : PI X tg iter (liI X.K F0 wi)) (ok : BlkOk X.N X.env.scope scope own) (hvs : own.map (·.2) = vs) (hto : TgOk X.K g plain is) (hv : ∀ i ∈ is, i ∈ vs)
    (hg : ∀ (s : Shared) (H : Hp) (C : Addr) (cl : List (Str × Addr)) (fp : List Addr), PG (X.blk s H scope (compEnvC scope cl C X.env) fp) tg g)
    (ht : ∀ (s : Shared) (H : Hp) (C : Addr) (cl : List (Str × Addr)) (fp : List Addr), PTs (X.blk s H scope (compEnvC scope cl C X.env) fp) ifs (liT X.K F0 tt))
    (he : ∀ (s : Shared) (H : Hp) (C : Addr) (cl : List (Str × Addr)) (fp : List Addr), PE (X.blk s H scope (compEnvC scope cl C X.env) fp) elt (liE X.K F0 te)) (hs : ∀ x, foldedSetIterable iter X.env x = pure x := by intro _; rfl) :
    PE X (.ListComp elt [⟨tg, iter, ifs, 0⟩] scope pos) (liE X.K F0 (dLcG fin wi plain is vs tt te)) := by
  subst hvs
  exact peImp (pe_lc hc hN hi ok hg ht he hs) fun _ _ _ h => li_lc hf hto hv h
/-- name = [..] on one line -/
theorem sd_setLcG {i : Nat} {y : Str} {py spos : Pos} (hf : FinOk X.K fin) (hc : X.calm = true) (hN : X.N.Nodup) (hy : X.N[i]? = some y) (hyl : X.env.scope.names.lookup y = some .local)
    (hsw : swapsWith (.ListComp elt [⟨tg, iter, ifs, 0⟩] scope pos) (some (.Name y py)) spos.line X.env = pure true) (hi : PI X tg iter (liI X.K F0 wi)) (ok : BlkOk X.N X.env.scope scope own) (hvs : own.map (·.2) = vs) (hto : TgOk X.K g plain is) (hv : ∀ i ∈ is, i ∈ vs)
    (hg : ∀ (s : Shared) (H : Hp) (C : Addr) (cl : List (Str × Addr)) (fp : List Addr), PG (X.blk s H scope (compEnvC scope cl C X.env) fp) tg g)
    (ht : ∀ (s : Shared) (H : Hp) (C : Addr) (cl : List (Str × Addr)) (fp : List Addr), PTs (X.blk s H scope (compEnvC scope cl C X.env) fp) ifs (liT X.K F0 tt))
    (he : ∀ (s : Shared) (H : Hp) (C : Addr) (cl : List (Str × Addr)) (fp : List Addr), PE (X.blk s H scope (compEnvC scope cl C X.env) fp) elt (liE X.K F0 te)) (hs : ∀ x, foldedSetIterable iter X.env x = pure x := by intro _; rfl) :
    PS X (.Assign [.Name y py] (.ListComp elt [⟨tg, iter, ifs, 0⟩] scope pos) spos) (liS X.K F0 (dSet i (dLcG fin wi plain is vs tt te))) := by
  subst hvs
  exact psImp (ps_setLc hc hN hy hyl hsw hi ok hg ht he hs) fun D σ H ⟨F, R, τ, M, D', e0, st, sl, q, k⟩ =>
    li_lc (Q := fun x H1 => gName i x σ H1 D.nx) hf hto hv ⟨F, R, τ, M, _, e0, st, sl, q, fun v H2 F2 d M2 e2 st2 r2 q2 => k.nx _ _ _ _ _ e2 st2 ((sl.ext e2).put r2 i) q2⟩
theorem tsd_nil : PTs X [] (liT X.K F0 dYes) := ⟨fun pins s σ H Q I ⟨F, R, τ, M, Q', e0, st, sl, q, k⟩ => pts_nil.run pins s σ H Q I (k _ _ _ _ Ext.refl st q)⟩
theorem tsd_one {c : Expr} {t : DT} (h : PT X c (liT X.K F0 t)) : PTs X [c] (liT X.K F0 t) := pts_one h
end

/-! ### a def's body keeps its promise -/
def startD (N : List Str) (ds : List D) : SD := ds.map some ++ List.replicate (N.length - ds.length) none
theorem slots_start {K : PySem.W.Frag} {F : Hp} {N : List Str} {vs : List V} {ds : List D} (r : RepAll K F vs ds) : Slots K F (L2.start N vs) (startD N ds) := by
  unfold L2.start startD
  rw [r.len]
  have nn : ∀ n : Nat, Slots K F (List.replicate n none) (List.replicate n none) := fun n => by
    induction n with
    | zero => exact .nil
    | succ n ih => exact .cons True.intro ih
  have go : ∀ {vs : List V} {ds : List D} {σ : L2.St} {τ : SD}, RepAll K F vs ds → Slots K F σ τ → Slots K F (vs.map some ++ σ) (ds.map some ++ τ) := fun {vs ds σ τ} r s => by
    induction vs generalizing ds with
    | nil => cases r; exact s
    | cons v vs ih =>
      cases r with
      | cons h t => exact .cons h (ih t)
  exact go r (nn _)
/-- what is wanted at a def's end: what it made for itself may be forgotten -/
def rtQ (Q : QD) : QD := fun d M' => ∃ M2 : Mp, (∀ a m, M2 a = some m → M' a = some m) ∧ Q d M2
abbrev fnE (Q : QD) : EndsD := ⟨fun _ M' => rtQ Q .non M', rtQ Q, fun _ _ => False, fun _ _ => False⟩
def Rds (t : DS) (N : List Str) (sp : SpD) : Prop := ∀ ds M Q E, sp ds M Q E → t (fnE Q) (startD N ds) M
section
variable {P : Program} {w : World} {K : PySem.W.Frag} {mg : Str → Option Value} {base : Heap}
/-- THE RULE for a def that lets no exception out -/
theorem Fun.okD {x qual : Str} {st : Stmt} {f : Addr} {fd : FuncData} {N ps : List Str} {k : Nat} {sp : SpD} {T : List (Addr × Str)} (F : Fun K x qual st f fd) (S : FnScope N ps (defScope st)) (len : ∀ ds M Q E, sp ds M Q E → ds.length = ps.length) {t : DS}
    (hbody : ∀ (cdv : Value) (A : Around) (outer : List Env) (s : Shared) (H : Hp) (E : XK) (F0 R0 : Hp), Room k (A.deeper (envOfC qual (defScope st) s.heap.objs.size f cdv)) →
      PSs (cxOf CX0 P w K mg base N qual (defScope st) f cdv A outer s H E).nox (defBody st) (liS K ⟨F0, R0, T⟩ t))
    (hq : Rds t N sp) : FnOk P w K mg base CX0 (k + 1) f fd ps (liSp K T sp) := by
  refine F.ok S (fun vs H Q E ⟨F, R, ds, M, Q', E', st, _, ra, h, _, _⟩ => by rw [ra.len]; exact len _ _ _ _ h) fun cdv A outer s H vs Q E hr ⟨F, R, ds, M, Q', E', st, tr, ra, h, kQ, kE⟩ => ?_
  refine ⟨_, hbody cdv A outer s H E F R hr, F, R, startD N ds, M, _, ⟨Ext.refl, Ext.refl, tr⟩, st, slots_start ra, hq ds M Q' E' h, ?_⟩
  refine ⟨fun σ2 H2 F2 τ2 M2 e2 st2 sl2 ⟨M3, h3, q3⟩ => kQ _ _ _ _ _ e2 (st2.less h3) .non q3, fun v H2 F2 d M2 e2 st2 r2 ⟨M3, h3, q3⟩ => kQ _ _ _ _ _ e2 (st2.less h3) r2 q3, fun _ _ _ _ _ _ _ _ z => z, fun _ _ _ _ _ _ _ _ z => z⟩
end
end DL

/-! DL, the rules: constants, methods of lists, the law's entry -/
namespace DL
open PySem PySem.Spec PyProof.Rows L2

/-- a constant of the module -/
structure CnD (K : PySem.W.Frag) (mg : Str → Option Value) (x : Str) (d : D) : Prop where
  ex : ∃ u v, mg x = some u ∧ RelV v u ∧ ∀ F, Rep K F v d
theorem CnD.pd {X : Cx} {F0 : Bs} {x : Str} {d : D} {pos : Pos} (h : CnD X.K X.mg x d) (hg : Gl X x := by rfl) (hd : (x == ("__debug__" : Str)) = false := by decide) : PE X (.Name x pos) (liE X.K F0 (dC d)) := by
  obtain ⟨u, v, h1, h2, h3⟩ := h.ex
  exact pd_glob hg h1 h2 h3 hd
/-- a built-in class as a value -/
theorem pd_ty {X : Cx} {F0 : Bs} {x : Str} {n : String} {pos : Pos} (hg : Gl X x) (hm : X.mg x = none) (hv : bootBuiltins x = some (.type n)) (hn : x ≠ "__name__" := by decide) (hd : (x == ("__debug__" : Str)) = false := by decide) : PE X (.Name x pos) (liE X.K F0 (dC (.ty n))) :=
  pd_bltn hg hm hv (v := .ty n) rfl (fun _ => .ty n) hn hd
/-! ### methods -/
abbrev RM := D → List D → Mp → QD → Prop
def dMt (r : RM) (to : DE) (t : DA) : DE := fun τ M Q => to τ M fun x M1 => t τ M1 fun ds M2 => r x ds M2 Q
def dMt0 (r : RM) (to : DE) : DE := fun τ M Q => to τ M fun x M1 => r x [] M1 Q
/-- x stands for an object that is changed in place -/
def lstRef (x : D) : Prop := match x with
  | .ref _ => True
  | _ => False
def dAppend : RM := fun x ds M Q => match x, ds with
  | .ref a, [d] => match M a with
    | some (.lst xs) => xs.length < sizeLine ∧ Q .non (updM M a (.lst (xs ++ [d])))
    | _ => False
  | _, _ => False
def dPop : RM := fun x ds M Q => match x, ds with
  | .ref a, [] => match M a with
    | some (.lst xs) => match xs[xs.length - 1]? with
      | some y => Q y (updM M a (.lst xs.dropLast))
      | none => False
    | _ => False
  | _, _ => False
/-- the list stands there ahead of the arguments -/
def isLst (M : Mp) : D → Prop
  | .ref a => match M a with
    | some (.lst _) => True
    | _ => False
  | _ => False
def dMtL (r : RM) (to : DE) (t : DA) : DE := fun τ M Q => to τ M fun x M1 => isLst M1 x ∧ t τ M1 fun ds M2 => r x ds M2 Q
theorem lst_there {K : PySem.W.Frag} {F R H : Hp} {M : Mp} {v : V} {d : D} (st : Stt K F R H M) (r : Rep K F v d) (h : isLst M d) : tyV K "list" v H := by
  cases r <;> try exact h.elim
  rename_i a
  have h : (match M a with | some (.lst _) => True | _ => False) := h
  split at h <;> try exact h.elim
  rename_i ys em
  obtain ⟨_, u, hu, ru⟩ := st.ow _ _ em
  obtain ⟨vs, rfl, ra⟩ := ru.lst_iff
  exact .inl ⟨rfl, _, .inl (.inl hu)⟩
section
variable {X : Cx} {F0 : Bs} {o e : Expr} {es : List Expr} {to : DE} {t : DA} {apos cpos : Pos}
theorem RepAll.dropLast {K : PySem.W.Frag} {F : Hp} {xs : List V} {ds : List D} (r : RepAll K F xs ds) : RepAll K F xs.dropLast ds.dropLast := by
  rw [List.dropLast_eq_take, List.dropLast_eq_take, r.len]
  exact r.tk _
theorem mtd_append : MtR X "list.append" (liM X.K F0 dAppend) := by
  refine mtImp (r := rAppend) mt_append fun x xs H Q ⟨F, R, M, d, ds, Q', e0, st, rx, rs, q, k⟩ => ?_
  unfold dAppend at q
  split at q <;> try exact q.elim
  rename_i a d
  split at q <;> try exact q.elim
  rename_i ys em
  obtain ⟨z, rfl, rz⟩ := rep1 rs
  cases rx
  obtain ⟨_, u, hu, ru⟩ := st.ow _ _ em
  obtain ⟨vs, rfl, ra⟩ := ru.lst_iff
  exact ⟨a, vs, z, rfl, rfl, hu, by rw [ra.len]; exact q.1, k _ _ _ _ _ Ext.refl (st.store em (fun _ z => by cases z) (m' := .lst (ys ++ [d])) (ra.app (.cons rz .nil))) .non q.2⟩
theorem mtd_pop : MtR X "list.pop" (liM X.K F0 dPop) := by
  refine mtImp (r := rPop) mt_pop fun x xs H Q ⟨F, R, M, d, ds, Q', e0, st, rx, rs, q, k⟩ => ?_
  unfold dPop at q
  split at q <;> try exact q.elim
  rename_i a
  split at q <;> try exact q.elim
  rename_i ys em
  split at q <;> try exact q.elim
  rename_i y ey
  cases rs
  cases rx
  obtain ⟨_, u, hu, ru⟩ := st.ow _ _ em
  obtain ⟨vs, rfl, ra⟩ := ru.lst_iff
  obtain ⟨z, ez, rz⟩ := ra.getD ey
  exact ⟨a, vs, z, rfl, rfl, hu, by rw [ra.len]; exact ez, k _ _ _ _ _ Ext.refl (st.store em (fun _ z => by cases z) (m' := .lst ys.dropLast) ra.dropLast) rz q⟩
/-- o.append(e) -/
theorem pd_append (ho : PE X o (liE X.K F0 to)) (ha : PA X (e :: es) (liA X.K F0 t)) (hbase : attributeBase o "append" X.env (eval o X.env) = eval o X.env := by rfl)
    (hfew : ((backTo cpos (starEach (e :: es) X.env)).all (fun x => !x.1) && (backToKw cpos (keywordEach [] X.env)).all (fun x => x.1.isSome)
      && decide ((e :: es).length + ([] : List Keyword).length + (if ([] : List Keyword).isEmpty then 0 else 1) < 30)) = true := by rfl)
    (hline : (apos.endLine == cpos.line) = true := by rfl) (hs : starEach (e :: es) X.env = (false, eval e X.env) :: starEach es X.env := by rfl) (hplain : (backTo cpos (starEach es X.env)).any (·.1) = false := by rfl) :
    PE X (.Call (.Attribute o "append" apos) (e :: es) [] cpos) (liE X.K F0 (dMtL dAppend to t)) := by
  refine peImp (pe_bm PySem.F.plainAttrs_list PySem.F.slot_list_append PySem.F.type_list_append (mtd_append (F0 := F0)) ho ha hbase hfew hline hs hplain) fun σ H Q ⟨F, R, τ, M, Q', e0, st, sl, q, k⟩ => ?_
  refine ⟨F, R, τ, M, _, e0, st, sl, q, fun v H1 F1 d M1 e1 st1 r1 ⟨q0, q1⟩ => ⟨?_, ?_⟩⟩
  · exact lst_there st1 r1 q0
  · refine ⟨F1, R, τ, M1, _, e0.trans e1, st1, sl.ext e1, q1, fun vs H2 F2 ds M2 e2 st2 r2 q2 => ?_⟩
    exact ⟨F2, R, M2, d, ds, Q', e0.trans (e1.trans e2), st2, r1.ext e2, r2, q2, k.ext (e1.trans e2)⟩
theorem pd_pop (ho : PE X o (liE X.K F0 to)) (hbase : attributeBase o "pop" X.env (eval o X.env) = eval o X.env := by rfl) (hline : (apos.endLine == cpos.line) = true := by rfl) :
    PE X (.Call (.Attribute o "pop" apos) [] [] cpos) (liE X.K F0 (dMt0 dPop to)) := by
  refine peImp (pe_bm0 PySem.F.plainAttrs_list PySem.F.slot_list_pop PySem.F.type_list_pop (mtd_pop (F0 := F0)) ho hbase hline) fun σ H Q ⟨F, R, τ, M, Q', e0, st, sl, q, k⟩ => ?_
  refine ⟨F, R, τ, M, _, e0, st, sl, q, fun v H1 F1 d M1 e1 st1 r1 q1 => ⟨?_, F1, R, M1, d, [], Q', e0.trans e1, st1, r1, .nil, q1, k.ext e1⟩⟩
  unfold dPop at q1
  split at q1 <;> try exact q1.elim
  split at q1 <;> try exact q1.elim
  rename_i ys em
  cases r1
  obtain ⟨_, u, hu, ru⟩ := st1.ow _ _ em
  obtain ⟨vs, rfl, ra⟩ := ru.lst_iff
  exact .inl ⟨rfl, _, .inl (.inl hu)⟩
end
/-! ### x += e -/
section
variable {X : Cx} {F0 : Bs}
theorem iod_sub : OpD X F0 (inplaceOp .Sub) dSub := od_I0 iop_sub
theorem iod_addI : OpD X F0 (inplaceOp .Add) (dI0 fun i j => i + j) := od_I0 iop_add
theorem iod_mul : OpD X F0 (inplaceOp .Mult) (dI CMul fun i j => i * j) := od_I iop_mul
end
/-! ### the law's own promise -/
def spLawD : SpD := fun ds M Q _ => ∃ ns : List Int, ds = [.lsk (ns.map .int)] ∧ ns.length ≤ 63 ∧ ∀ d M', d = .bl true → Q d M'
theorem mem_lookupA : ∀ {T : List (Addr × Str)} {b : Addr} {q : Str}, T.lookup b = some q → (b, q) ∈ T
  | [], _, _, e => by cases e
  | (a, p) :: T, b, q, e => by
    rw [List.lookup_cons] at e
    by_cases z : b = a
    · subst z
      rw [beq_self_eq_true] at e
      cases e
      exact List.mem_cons_self
    · rw [show (b == a) = false by simpa using z] at e
      exact List.mem_cons_of_mem _ (mem_lookupA e)
theorem law_sp {K : PySem.W.Frag} {T : List (Addr × Str)} {H : Hp} {a : Addr} {ns : List Int} (hL : ∀ p ∈ T, T.lookup p.1 = some p.2) (hT : ∀ p ∈ T, LamX.TabS H p.1 p.2) (hl : ns.length ≤ 63) (hS : SqL K H a (ns.map V.int)) : liSp K T spLawD [.ref a] H (fun v _ => v = .bl true) fun _ _ _ => False := by
  have mem : ∀ {b : Addr} {q : Str}, T.lookup b = some q → (b, q) ∈ T := fun e => mem_lookupA e
  have rs0 : ∀ (F : Hp), (∀ b o, F b = some o → ∃ xs u, o = .lst xs ∨ o = .frz u (.lst xs)) → (∀ b o, F b = some o → H b = some o) → ∀ b o, (fun b => (T.lookup b).map fun q => HO.xd [(q, V.non)]) b = some o → RsOk H b o ∧ F b = none ∧ (fun _ => none : Mp) b = none := fun F hF hFH b o e => by
    have e : (T.lookup b).map (fun q => HO.xd [(q, V.non)]) = some o := e
    cases eq : T.lookup b with
    | none => rw [eq] at e; cases e
    | some q =>
      rw [eq] at e
      obtain rfl : HO.xd [(q, V.non)] = o := Option.some.inj e
      have tb := hT _ (mem eq)
      refine ⟨⟨q, rfl, tb⟩, ?_, rfl⟩
      cases ef : F b with
      | none => rfl
      | some u =>
        obtain ⟨ps, h1, _⟩ := tb
        have h2 := hFH b u ef
        rw [h1] at h2
        cases h2
        obtain ⟨xs, v, z | z⟩ := hF b _ ef <;> cases z
  have nrT : ∀ b o, (fun b => (T.lookup b).map fun q => HO.xd [(q, V.non)]) b = some o → NX o := fun b o e => by
    have e : (T.lookup b).map (fun q => HO.xd [(q, V.non)]) = some o := e
    cases eq : T.lookup b with
    | none => rw [eq] at e; cases e
    | some q =>
      rw [eq] at e
      obtain rfl : HO.xd [(q, V.non)] = o := Option.some.inj e
      trivial
  have key : ∀ (F : Hp), Stt K F (fun b => (T.lookup b).map fun q => HO.xd [(q, V.non)]) H (fun _ => none) → SqL K F a (ns.map V.int) → liSp K T spLawD [.ref a] H (fun v _ => v = .bl true) fun _ _ _ => False := fun F st hF => by
    refine ⟨_, _, [.lsk (ns.map .int)], _, fun d _ => d = .bl true, fun _ _ _ => False, st, fun p hp => ?_, .cons (.lsk (xs := ns.map V.int) hF (RepAll.ofInts ns)) .nil, ⟨ns, rfl, hl, fun d M' e => e⟩, fun v H2 F2 d M2 _ _ r e => ?_, fun _ _ _ _ _ _ _ _ _ z => z⟩
    · show (T.lookup p.1).map _ = _
      rw [hL p hp]; rfl
    · subst e
      cases r
      rfl
  have one : ∀ o : HO, (∃ xs u, o = .lst xs ∨ o = .frz u (.lst xs)) → H a = some o → Stt K (fun b => if b = a then some o else none) (fun b => (T.lookup b).map fun q => HO.xd [(q, V.non)]) H (fun _ => none) := fun o ho ha => by
    have k1 : ∀ b u, (fun b => if b = a then some o else none) b = some u → b = a ∧ u = o := fun b u e => by
      have e : (if b = a then some o else none) = some u := e
      by_cases z : b = a
      · rw [if_pos z] at e; exact ⟨z, (Option.some.inj e).symm⟩
      · rw [if_neg z] at e; cases e
    refine ⟨fun b u e => ?_, rs0 _ (fun b u e => ?_) (fun b u e => ?_), fun b u e => (nomatch e), fun b u e => ?_, nrT⟩
    rotate_left 3
    · obtain ⟨rfl, rfl⟩ := k1 b u e
      obtain ⟨xs, v, z | z⟩ := ho <;> subst z <;> trivial
    · obtain ⟨rfl, rfl⟩ := k1 b u e; exact ha
    · obtain ⟨rfl, rfl⟩ := k1 b u e; exact ho
    · obtain ⟨rfl, rfl⟩ := k1 b u e; exact ha
  rcases hS with (h | ⟨o, h⟩) | h
  · exact key _ (one _ ⟨_, default, .inl rfl⟩ h) (.inl (.inl (if_pos rfl)))
  · exact key _ (one _ ⟨_, o, .inr rfl⟩ h) (.inl (.inr ⟨o, if_pos rfl⟩))
  · exact key (fun _ => none) ⟨fun b u e => (nomatch e), rs0 _ (fun b u e => (nomatch e)) (fun b u e => (nomatch e)), fun b u e => (nomatch e), fun b u e => (nomatch e), nrT⟩ (.inr h)
end DL

/-! DL, steps: a reading is gone through from its head -/
namespace DL
open PySem PySem.Spec PyProof.Rows L2

section
variable {nx bk ct : SD → Mp → Prop} {rt : QD} {t u : DS} {te ta tb tc : DE} {τ : SD} {M : Mp} {Q : QD} {d x y z : D}
/-! statements -/
theorem s_seq (h : t ⟨u ⟨nx, rt, bk, ct⟩, rt, bk, ct⟩ τ M) : dSeq t u ⟨nx, rt, bk, ct⟩ τ M := h
theorem s_next (h : nx τ M) : dNext ⟨nx, rt, bk, ct⟩ τ M := h
theorem s_break (h : bk τ M) : dBreak ⟨nx, rt, bk, ct⟩ τ M := h
theorem s_cont (h : ct τ M) : dCont ⟨nx, rt, bk, ct⟩ τ M := h
def kDrop (nx : SD → Mp → Prop) (τ : SD) : QD := fun _ M1 => nx τ M1
theorem s_drop (h : te τ M (kDrop nx τ)) : dDrop te ⟨nx, rt, bk, ct⟩ τ M := h
theorem s_kdrop (h : nx τ M) : kDrop nx τ d M := h
theorem s_ret (h : te τ M rt) : dRet te ⟨nx, rt, bk, ct⟩ τ M := h
theorem s_retN (h : rt .non M) : dRetN ⟨nx, rt, bk, ct⟩ τ M := h
def kSet (nx : SD → Mp → Prop) (i : Nat) (τ : SD) : QD := fun d M1 => nx (τ.set i (some d)) M1
theorem s_set {i : Nat} (h : te τ M (kSet nx i τ)) : dSet i te ⟨nx, rt, bk, ct⟩ τ M := h
theorem s_kset {i : Nat} {τ2 : SD} (e : τ.set i (some d) = τ2) (h : nx τ2 M) : kSet nx i τ d M := by subst e; exact h
def kUnp (nx : SD → Mp → Prop) (is : List Nat) (τ : SD) : QD := fun d M1 => match d with
  | .tup ds => ds.length = is.length ∧ nx (setAll is ds τ) M1
  | _ => False
theorem s_unp {is : List Nat} (h : te τ M (kUnp nx is τ)) : dUnp is te ⟨nx, rt, bk, ct⟩ τ M := h
theorem s_kunp {is : List Nat} {ds : List D} {τ2 : SD} (e : ds.length = is.length) (e2 : setAll is ds τ = τ2) (h : nx τ2 M) : kUnp nx is τ (.tup ds) M := by subst e2; exact ⟨e, h⟩
def kIf (t u : DS) (D : EndsD) (τ : SD) : Bool → Mp → Prop := fun b M1 => if b = true then t D τ M1 else u D τ M1
variable {c : DT} {E : EndsD} {b : Bool} {p : Prop} {dp : Decidable p}
theorem s_ifS (h : c τ M (kIf t u E τ)) : dIfS c t u E τ M := h
theorem b_dec (h : p → t E τ M) (h2 : ¬ p → u E τ M) : kIf t u E τ (decide p) M := by
  unfold kIf
  by_cases q : p
  · rw [decide_eq_true q, if_pos rfl]; exact h q
  · rw [decide_eq_false q, if_neg Bool.false_ne_true]; exact h2 q
theorem b_ndec (h : ¬ p → t E τ M) (h2 : p → u E τ M) : kIf t u E τ (!decide p) M := by
  unfold kIf
  by_cases q : p
  · rw [decide_eq_true q, Bool.not_true, if_neg Bool.false_ne_true]; exact h2 q
  · rw [decide_eq_false q, Bool.not_false, if_pos rfl]; exact h q
theorem b_true (h : t E τ M) : kIf t u E τ true M := h
theorem b_false (h : u E τ M) : kIf t u E τ false M := by unfold kIf; rw [if_neg Bool.false_ne_true]; exact h
theorem b_not (h : b = false → t E τ M) (h2 : b = true → u E τ M) : kIf t u E τ (!b) M := by
  cases b with
  | true => exact b_false (h2 rfl)
  | false => exact b_true (h rfl)
theorem b_any (h : b = true → t E τ M) (h2 : b = false → u E τ M) : kIf t u E τ b M := by
  cases b with
  | true => exact b_true (h rfl)
  | false => exact b_false (h2 rfl)
/-! tests -/
variable {QB : Bool → Mp → Prop} {tt tu : DT}
def kB (Q : Bool → Mp → Prop) : QD := fun d M1 => match d with
  | .bl k => Q k M1
  | _ => False
theorem s_test (h : te τ M (kB QB)) : dTest te τ M QB := h
theorem s_kb (h : QB b M) : kB QB (.bl b) M := h
def kTru (Q : Bool → Mp → Prop) : QD := fun d M1 => dTru d M1 Q
theorem s_truth (h : te τ M (kTru QB)) : dTruth te τ M QB := h
theorem s_tru_bl (h : QB b M) : kTru QB (.bl b) M := h
theorem s_tru_non (h : QB false M) : kTru QB .non M := h
theorem s_tru_int {i : Int} (h : QB (i != 0) M) : kTru QB (.int i) M := h
theorem s_tru_tup {ds : List D} (h : QB (!ds.isEmpty) M) : kTru QB (.tup ds) M := h
theorem s_tru_lst {ds : List D} (h : QB (!ds.isEmpty) M) : kTru QB (.lst ds) M := h
theorem s_tru_ref {a : Addr} {ds : List D} (e : M a = some (.lst ds)) (h : QB (!ds.isEmpty) M) : kTru QB (.ref a) M := by
  show (match M a with | some (.lst ds) => QB (!ds.isEmpty) M | some (.dK kvs) => QB (!kvs.isEmpty) M | _ => False)
  rw [e]; exact h
def kTAnd (u : DT) (τ : SD) (Q : Bool → Mp → Prop) : Bool → Mp → Prop := fun c M1 => if c = true then u τ M1 Q else Q false M1
def kTOr (u : DT) (τ : SD) (Q : Bool → Mp → Prop) : Bool → Mp → Prop := fun c M1 => if c = true then Q true M1 else u τ M1 Q
def kTNot (Q : Bool → Mp → Prop) : Bool → Mp → Prop := fun c M1 => Q (!c) M1
theorem s_tand (h : tt τ M (kTAnd tu τ QB)) : dTAnd tt tu τ M QB := h
theorem s_tor (h : tt τ M (kTOr tu τ QB)) : dTOr tt tu τ M QB := h
theorem s_tnot (h : tt τ M (kTNot QB)) : dTNot tt τ M QB := h
theorem s_ktnot_t (h : QB false M) : kTNot QB true M := h
theorem s_ktnot_f (h : QB true M) : kTNot QB false M := h
theorem s_ktnot (h : QB (!b) M) : kTNot QB b M := h
theorem s_ktand (h : b = true → tu τ M QB) (h2 : b = false → QB false M) : kTAnd tu τ QB b M := by
  unfold kTAnd
  cases b with
  | true => rw [if_pos rfl]; exact h rfl
  | false => rw [if_neg Bool.false_ne_true]; exact h2 rfl
theorem s_ktor (h : b = true → QB true M) (h2 : b = false → tu τ M QB) : kTOr tu τ QB b M := by
  unfold kTOr
  cases b with
  | true => rw [if_pos rfl]; exact h rfl
  | false => rw [if_neg Bool.false_ne_true]; exact h2 rfl
theorem s_ktand_d (h : p → tu τ M QB) (h2 : ¬ p → QB false M) : kTAnd tu τ QB (decide p) M := s_ktand (fun e => h (of_decide_eq_true e)) fun e => h2 (of_decide_eq_false e)
theorem s_ktor_d (h : p → QB true M) (h2 : ¬ p → tu τ M QB) : kTOr tu τ QB (decide p) M := s_ktor (fun e => h (of_decide_eq_true e)) fun e => h2 (of_decide_eq_false e)
theorem s_ktand_nd (h : ¬ p → tu τ M QB) (h2 : p → QB false M) : kTAnd tu τ QB (!decide p) M := s_ktand (fun e => h (by simpa using e)) fun e => h2 (by simpa using e)
theorem s_ktor_nd (h : ¬ p → QB true M) (h2 : p → tu τ M QB) : kTOr tu τ QB (!decide p) M := s_ktor (fun e => h (by simpa using e)) fun e => h2 (by simpa using e)
theorem s_ktand_t (h : tu τ M QB) : kTAnd tu τ QB true M := h
theorem s_ktand_f (h : QB false M) : kTAnd tu τ QB false M := s_ktand (fun e => by cases e) fun _ => h
theorem s_ktor_t (h : QB true M) : kTOr tu τ QB true M := h
theorem s_ktor_f (h : tu τ M QB) : kTOr tu τ QB false M := s_ktor (fun e => by cases e) fun _ => h
/-! values by truth -/
def kOr (tb : DE) (τ : SD) (Q : QD) (x : D) : Bool → Mp → Prop := fun k M2 => if k = true then Q x M2 else tb τ M2 Q
def kAnd (tb : DE) (τ : SD) (Q : QD) (x : D) : Bool → Mp → Prop := fun k M2 => if k = true then tb τ M2 Q else Q x M2
def kNot (Q : QD) : Bool → Mp → Prop := fun k M2 => Q (.bl (!k)) M2
def kOrV (tb : DE) (τ : SD) (Q : QD) : QD := fun x M1 => kTru (kOr tb τ Q x) x M1
def kAndV (tb : DE) (τ : SD) (Q : QD) : QD := fun x M1 => kTru (kAnd tb τ Q x) x M1
theorem s_or (h : ta τ M (kOrV tb τ Q)) : dOr ta tb τ M Q := h
theorem s_and (h : ta τ M (kAndV tb τ Q)) : dAnd ta tb τ M Q := h
theorem s_not (h : ta τ M (kTru (kNot Q))) : dNot ta τ M Q := h
theorem s_korv (h : kTru (kOr tb τ Q x) x M) : kOrV tb τ Q x M := h
theorem s_kandv (h : kTru (kAnd tb τ Q x) x M) : kAndV tb τ Q x M := h
theorem s_knot_t (h : Q (.bl false) M) : kNot Q true M := h
theorem s_knot_f (h : Q (.bl true) M) : kNot Q false M := h
theorem s_knot (h : Q (.bl (!b)) M) : kNot Q b M := h
theorem s_kor_d (h : p → Q x M) (h2 : ¬ p → tb τ M Q) : kOr tb τ Q x (decide p) M := by
  unfold kOr
  by_cases q : p
  · rw [decide_eq_true q, if_pos rfl]; exact h q
  · rw [decide_eq_false q, if_neg Bool.false_ne_true]; exact h2 q
theorem s_kand_d (h : p → tb τ M Q) (h2 : ¬ p → Q x M) : kAnd tb τ Q x (decide p) M := by
  unfold kAnd
  by_cases q : p
  · rw [decide_eq_true q, if_pos rfl]; exact h q
  · rw [decide_eq_false q, if_neg Bool.false_ne_true]; exact h2 q
theorem s_kor_t (h : Q x M) : kOr tb τ Q x true M := h
theorem s_kor_f (h : tb τ M Q) : kOr tb τ Q x false M := by unfold kOr; rw [if_neg Bool.false_ne_true]; exact h
theorem s_kand_t (h : tb τ M Q) : kAnd tb τ Q x true M := h
theorem s_kand_f (h : Q x M) : kAnd tb τ Q x false M := by unfold kAnd; rw [if_neg Bool.false_ne_true]; exact h
theorem s_kor (h : b = true → Q x M) (h2 : b = false → tb τ M Q) : kOr tb τ Q x b M := by
  cases b with
  | true => exact h rfl
  | false => exact s_kor_f (h2 rfl)
theorem s_kand (h : b = true → tb τ M Q) (h2 : b = false → Q x M) : kAnd tb τ Q x b M := by
  cases b with
  | true => exact h rfl
  | false => exact s_kand_f (h2 rfl)
def kIfE (ta tb : DE) (τ : SD) (Q : QD) : Bool → Mp → Prop := fun c M1 => if c = true then ta τ M1 Q else tb τ M1 Q
theorem s_ifE (h : tt τ M (kIfE ta tb τ Q)) : dIf tt ta tb τ M Q := h
theorem s_kifE_d (h : p → ta τ M Q) (h2 : ¬ p → tb τ M Q) : kIfE ta tb τ Q (decide p) M := by
  unfold kIfE
  by_cases q : p
  · rw [decide_eq_true q, if_pos rfl]; exact h q
  · rw [decide_eq_false q, if_neg Bool.false_ne_true]; exact h2 q
theorem s_kifE (h : b = true → ta τ M Q) (h2 : b = false → tb τ M Q) : kIfE ta tb τ Q b M := by
  unfold kIfE
  cases b with
  | true => rw [if_pos rfl]; exact h rfl
  | false => rw [if_neg Bool.false_ne_true]; exact h2 rfl
/-! expressions -/
theorem s_var {i : Nat} (e : τ[i]? = some (some d)) (h : Q d M) : dVar i τ M Q := by unfold dVar; rw [e]; exact h
theorem s_c (h : Q d M) : dC d τ M Q := h
def kOp2 (r : R2D) (Q : QD) (x : D) : QD := fun y M2 => r x y M2 Q
def kOp1 (r : R2D) (tb : DE) (τ : SD) (Q : QD) : QD := fun x M1 => tb τ M1 (kOp2 r Q x)
theorem s_op {r : R2D} (h : ta τ M (kOp1 r tb τ Q)) : dOp r ta tb τ M Q := h
theorem s_kop1 {r : R2D} (h : tb τ M (kOp2 r Q x)) : kOp1 r tb τ Q x M := h
theorem s_kop2 {r : R2D} (h : r x y M Q) : kOp2 r Q x y M := h
def kUn (r : D → Mp → QD → Prop) (Q : QD) : QD := fun x M1 => r x M1 Q
theorem s_un {r : D → Mp → QD → Prop} (h : ta τ M (kUn r Q)) : dUn r ta τ M Q := h
theorem s_kun {r : D → Mp → QD → Prop} (h : r x M Q) : kUn r Q x M := h
def kCh3 (r' : R2D) (y : D) (Q : QD) : QD := fun w M4 => r' y w M4 Q
def kCh2 (r' : R2D) (tc : DE) (τ : SD) (Q : QD) (y : D) : QD := fun z M3 => match z with
  | .bl true => tc τ M3 fun w M4 => r' y w M4 Q
  | .bl false => Q (.bl false) M3
  | _ => False
def kCh1 (r r' : R2D) (tc : DE) (τ : SD) (Q : QD) (x : D) : QD := fun y M2 => r x y M2 (kCh2 r' tc τ Q y)
def kCh0 (r r' : R2D) (tb tc : DE) (τ : SD) (Q : QD) : QD := fun x M1 => tb τ M1 (kCh1 r r' tc τ Q x)
theorem s_chain {r r' : R2D} (h : ta τ M (kCh0 r r' tb tc τ Q)) : dChain r r' ta tb tc τ M Q := h
theorem s_kch0 {r r' : R2D} (h : tb τ M (kCh1 r r' tc τ Q x)) : kCh0 r r' tb tc τ Q x M := h
theorem s_kch1 {r r' : R2D} (h : r x y M (kCh2 r' tc τ Q y)) : kCh1 r r' tc τ Q x y M := h
theorem s_kch2 {r' : R2D} (h : p → tc τ M (kCh3 r' y Q)) (h2 : ¬ p → Q (.bl false) M) : kCh2 r' tc τ Q y (.bl (decide p)) M := by
  by_cases q : p
  · rw [decide_eq_true q]; exact h q
  · rw [decide_eq_false q]; exact h2 q
theorem s_kch3 {r' : R2D} (h : r' y z M Q) : kCh3 r' y Q z M := h
variable {QL : List D → Mp → Prop} {al : DA} {ds : List D}
theorem s_nil (h : QL [] M) : dNil τ M QL := h
def kCons2 (QL : List D → Mp → Prop) (x : D) : List D → Mp → Prop := fun xs M2 => QL (x :: xs) M2
def kCons1 (al : DA) (τ : SD) (QL : List D → Mp → Prop) : QD := fun x M1 => al τ M1 (kCons2 QL x)
theorem s_cons (h : ta τ M (kCons1 al τ QL)) : dCons ta al τ M QL := h
theorem s_kcons1 (h : al τ M (kCons2 QL x)) : kCons1 al τ QL x M := h
theorem s_kcons2 (h : QL (x :: ds) M) : kCons2 QL x ds M := h
def kTup (Q : QD) : List D → Mp → Prop := fun xs M1 => xs.length ≤ sizeLine ∧ Q (.tup xs) M1
def kLst (Q : QD) : List D → Mp → Prop := fun xs M1 => xs.length ≤ sizeLine ∧ Q (.lst xs) M1
def kLstM (Q : QD) : List D → Mp → Prop := fun xs M1 => xs.length ≤ sizeLine ∧ ∀ p, M1 p = none → Q (.ref p) (updM M1 p (.lst xs))
theorem s_tup (h : al τ M (kTup Q)) : dTup al τ M Q := h
theorem s_lst (h : al τ M (kLst Q)) : dLst al τ M Q := h
theorem s_lstM (h : al τ M (kLstM Q)) : dLstM al τ M Q := h
theorem s_ktup (e : ds.length ≤ sizeLine) (h : Q (.tup ds) M) : kTup Q ds M := ⟨e, h⟩
theorem s_klst (e : ds.length ≤ sizeLine) (h : Q (.lst ds) M) : kLst Q ds M := ⟨e, h⟩
theorem s_klstM (e : ds.length ≤ sizeLine) (h : ∀ p, M p = none → Q (.ref p) (updM M p (.lst ds))) : kLstM Q ds M := ⟨e, h⟩
def kCB (r : RC) (Q : QD) : List D → Mp → Prop := fun ds M1 => r ds M1 Q
theorem s_cb {r : RC} (h : al τ M (kCB r Q)) : dCB r al τ M Q := h
theorem s_kcb {r : RC} (h : r ds M Q) : kCB r Q ds M := h
def kCall (sp : SpD) (X : XD) (Q : QD) : List D → Mp → Prop := fun ds M1 => sp ds M1 Q X
theorem s_call {sp : SpD} {X : XD} (h : al τ M (kCall sp X Q)) : dCall sp X al τ M Q := h
theorem s_kcall {sp : SpD} {X : XD} (h : sp ds M Q X) : kCall sp X Q ds M := h
/-! operators -/
variable {i j : Int} {g : Int → Int → Int} {gb : Int → Int → Bool} {C : Int → Int → Prop}
theorem s_I (hc : C i j) (h : Q (.int (g i j)) M) : dI C g (.int i) (.int j) M Q := ⟨hc, h⟩
theorem s_I0 (h : Q (.int (g i j)) M) : dI0 g (.int i) (.int j) M Q := h
theorem s_B0 (h : Q (.bl (gb i j)) M) : dB0 gb (.int i) (.int j) M Q := h
theorem s_neg (h : Q (.int (-i)) M) : dNeg (.int i) M Q := h
theorem s_add (h : Q (.int (i + j)) M) : dAdd (.int i) (.int j) M Q := h
theorem s_addT {xs ys : List D} (e : xs.length + ys.length ≤ sizeLine) (h : Q (.tup (xs ++ ys)) M) : dAdd (.tup xs) (.tup ys) M Q := ⟨e, h⟩
theorem s_addL {xs ys : List D} (e : xs.length + ys.length ≤ sizeLine) (h : Q (.lst (xs ++ ys)) M) : dAdd (.lst xs) (.lst ys) M Q := ⟨e, h⟩
theorem s_mul (hc : CMulA i j) (h : Q (.int (i * j)) M) : dMul (.int i) (.int j) M Q := ⟨hc, h⟩
theorem s_mulT {xs : List D} {k : Int} (e : xs ≠ []) (e1 : 2 ≤ k) (e2 : xs.length * k.toNat ≤ 1000000) (h : Q (.tup (List.replicate k.toNat xs).flatten) M) : dMul (.tup xs) (.int k) M Q := ⟨e, e1, e2, h⟩
theorem s_eqS {b : Bool} (e : scalD x y = some b) (h : Q (.bl b) M) : dEq x y M Q := by unfold dEq; rw [e]; exact h
theorem s_neS {b : Bool} (e : scalD x y = some b) (h : Q (.bl (!b)) M) : dNe x y M Q := by unfold dNe; rw [e]; exact h
theorem s_isN (h : Q (.bl x.isN) M) : dIsN x .non M Q := h
theorem s_notN (h : Q (.bl (!x.isN)) M) : dNotN x .non M Q := h
theorem s_ix {ds : List D} (e : sqOf M x = some ds) (e2 : atI ds i = some d) (h : Q d M) : dIx x (.int i) M Q := by
  cases x with
  | str z => cases e
  | _ => unfold dIx; simp only [e, e2]; exact h
theorem s_len {ds : List D} (e : sqOf M x = some ds) (h : Q (.int ds.length) M) : dLen [x] M Q := by
  cases x with
  | str z => cases e
  | _ => unfold dLen; simp only [e]; exact h
theorem s_int (h : Q (.int i) M) : dInt [.int i] M Q := h
theorem s_intB (h : Q (.int (if b then 1 else 0)) M) : dInt [.bl b] M Q := h
theorem s_tuple {ds : List D} (e : sqOf M x = some ds) (h : Q (.tup ds) M) : dTuple [x] M Q := by unfold dTuple; simp only [e]; exact h
theorem s_list {ds : List D} (e : sqOf M x = some ds) (h : Q (.lst ds) M) : dList [x] M Q := by unfold dList; simp only [e]; exact h
theorem s_listM {ds : List D} (e : sqOf M x = some ds) (h : ∀ p, M p = none → Q (.ref p) (updM M p (.lst ds))) : dListM [x] M Q := by unfold dListM; simp only [e]; exact h
theorem s_isi {a n : String} {b : Bool} (e : (["bool", "int", "str", "tuple", "list", "dict"] : List String).contains n = true) (e2 : tyName M x = some a) (e3 : isiN a n = b) (h : Q (.bl b) M) : dIsi [x, .ty n] M Q := ⟨e, by simp only [e2, e3]; exact h⟩
theorem s_all {bs : List Bool} {ds : List D} (e : lsOf M x = some ds) (e2 : blsOf ds = some bs) (h : Q (.bl (bs.all id)) M) : dAll [x] M Q := by unfold dAll; simp only [e, e2]; exact h
theorem s_any {bs : List Bool} {ds : List D} (e : lsOf M x = some ds) (e2 : blsOf ds = some bs) (h : Q (.bl (bs.any id)) M) : dAny [x] M Q := by unfold dAny; simp only [e, e2]; exact h
theorem s_sum {ns : List Int} {ds : List D} (e : lsOf M x = some ds) (e2 : intsOf ds = some ns) (h : Q (.int ns.sum) M) : dSum [x] M Q := by unfold dSum; simp only [e, e2]; exact h
theorem s_max2 (h : Q (.int (if j > i then j else i)) M) : dMax [.int i, .int j] M Q := h
theorem s_min2 (h : Q (.int (if j < i then j else i)) M) : dMin [.int i, .int j] M Q := h
theorem s_in {neg : Bool} {ds : List D} (e : sqOf M y = some ds) (e1 : x.flat = true) (e2 : ds.all D.flat = true) (h : Q (.bl (if neg then !(ds.any fun e => eqD e x) else ds.any fun e => eqD e x)) M) : dIn neg x y M Q := by unfold dIn; simp only [e]; exact ⟨e1, e2, h⟩
/-! subscripts, slices -/
variable {tl th : DO} {QO : Option Int → Mp → Prop} {lo hi : Option Int}
theorem s_nopart (h : QO none M) : dNoPart τ M QO := h
def kPart (QO : Option Int → Mp → Prop) : QD := fun d M1 => match d with
  | .int i => QO (some i) M1
  | _ => False
theorem s_part (h : te τ M (kPart QO)) : dPart te τ M QO := h
theorem s_kpart (h : QO (some i) M) : kPart QO (.int i) M := h
def kSl2 (x : D) (lo : Option Int) (Q : QD) : Option Int → Mp → Prop := fun u M3 => dSlr x lo u M3 Q
def kSl1 (x : D) (th : DO) (τ : SD) (Q : QD) : Option Int → Mp → Prop := fun l M2 => th τ M2 (kSl2 x l Q)
def kSl0 (tl th : DO) (τ : SD) (Q : QD) : QD := fun x M1 => tl τ M1 (kSl1 x th τ Q)
theorem s_sl (h : te τ M (kSl0 tl th τ Q)) : dSl te tl th τ M Q := h
theorem s_ksl0 (h : tl τ M (kSl1 x th τ Q)) : kSl0 tl th τ Q x M := h
theorem s_ksl1 (h : th τ M (kSl2 x lo Q)) : kSl1 x th τ Q lo M := h
theorem s_ksl2T {ds : List D} (h : Q (.tup (cutD ds lo hi)) M) : kSl2 (.tup ds) lo Q hi M := h
theorem s_ksl2L {ds : List D} (h : Q (.lst (cutD ds lo hi)) M) : kSl2 (.lst ds) lo Q hi M := h
theorem s_ksl2K {ds : List D} (h : Q (.lst (cutD ds lo hi)) M) : kSl2 (.lsk ds) lo Q hi M := h
/-! stores -/
variable {to ti : DE} {rs : RSet}
def kSt3 (rs : RSet) (nx : SD → Mp → Prop) (τ : SD) (v o : D) : QD := fun i M3 => rs o i v M3 fun M4 => nx τ M4
def kSt2 (rs : RSet) (nx : SD → Mp → Prop) (τ : SD) (ti : DE) (v : D) : QD := fun o M2 => ti τ M2 (kSt3 rs nx τ v o)
def kSt1 (rs : RSet) (nx : SD → Mp → Prop) (τ : SD) (to ti : DE) : QD := fun v M1 => to τ M1 (kSt2 rs nx τ ti v)
theorem s_store (h : te τ M (kSt1 rs nx τ to ti)) : dStore te to ti rs ⟨nx, rt, bk, ct⟩ τ M := h
theorem s_kst1 (h : to τ M (kSt2 rs nx τ ti x)) : kSt1 rs nx τ to ti x M := h
theorem s_kst2 (h : ti τ M (kSt3 rs nx τ x y)) : kSt2 rs nx τ ti x y M := h
theorem s_kst3 {a : Addr} {xs : List D} {jn : Nat} {v : D} {M2 : Mp} (e : M a = some (.lst xs)) (e2 : ixN xs.length i = some jn) (e3 : updM M a (.lst (xs.set jn v)) = M2) (h : nx τ M2) : kSt3 dSetL nx τ v (.ref a) (.int i) M := by
  subst e3
  show dSetL (.ref a) (.int i) v M fun M4 => nx τ M4
  unfold dSetL; simp only [e, e2]; exact h
def kAug (nx : SD → Mp → Prop) (i : Nat) (τ : SD) : QD := fun z M2 => nx (τ.set i (some z)) M2
theorem s_aug {r : R2D} {i : Nat} (e : τ[i]? = some (some x)) (h : te τ M (kOp2 r (kSet nx i τ) x)) : dAug i te r ⟨nx, rt, bk, ct⟩ τ M := by unfold dAug; rw [e]; exact h
/-! methods -/
variable {rm : RM}
def kMt (rm : RM) (x : D) (Q : QD) : List D → Mp → Prop := fun ds M2 => rm x ds M2 Q
def kMtL (rm : RM) (al : DA) (τ : SD) (Q : QD) : QD := fun x M1 => isLst M1 x ∧ al τ M1 (kMt rm x Q)
theorem s_mtL (h : to τ M (kMtL rm al τ Q)) : dMtL rm to al τ M Q := h
theorem s_kmtL (e : isLst M x) (h : al τ M (kMt rm x Q)) : kMtL rm al τ Q x M := ⟨e, h⟩
theorem s_kmt (h : rm x ds M Q) : kMt rm x Q ds M := h
theorem s_append {a : Addr} {xs : List D} (e : M a = some (.lst xs)) (e2 : xs.length < sizeLine) (h : Q .non (updM M a (.lst (xs ++ [d])))) : dAppend (.ref a) [d] M Q := by unfold dAppend; simp only [e]; exact ⟨e2, h⟩
def kMt0 (rm : RM) (Q : QD) : QD := fun x M1 => rm x [] M1 Q
theorem s_mt0 (h : to τ M (kMt0 rm Q)) : dMt0 rm to τ M Q := h
theorem s_kmt0 (h : rm x [] M Q) : kMt0 rm Q x M := h
/-! what is walked -/
variable {QI : ItD → Mp → Prop}
def kSeq (QI : ItD → Mp → Prop) : QD := fun d M1 => match sqOf M1 d with
  | some ds => QI (itSeq d ds) M1
  | none => False
theorem s_seqI (h : te τ M (kSeq QI)) : iSeqD te τ M QI := h
theorem s_kseq {ds : List D} (e : sqOf M x = some ds) (h : QI (itSeq x ds) M) : kSeq QI x M := by unfold kSeq; simp only [e]; exact h
def kR1 (QI : ItD → Mp → Prop) : List D → Mp → Prop := fun ds M1 => match ds with
  | [.int j] => -(2 ^ 62) ≤ j ∧ j < 2 ^ 62 ∧ QI (itRng 0 j.toNat) M1
  | _ => False
theorem s_rng1 (h : al τ M (kR1 QI)) : iRng1D al τ M QI := h
theorem s_kr1 (e : -(2 ^ 62) ≤ j) (e2 : j < 2 ^ 62) (h : QI (itRng 0 j.toNat) M) : kR1 QI [.int j] M := ⟨e, e2, h⟩
def kR2 (QI : ItD → Mp → Prop) : List D → Mp → Prop := fun ds M1 => match ds with
  | [.int i, .int j] => (-(2 ^ 62) ≤ i ∧ i < 2 ^ 62 ∧ -(2 ^ 62) ≤ j ∧ j < 2 ^ 62) ∧ QI (itRng i (j - i).toNat) M1
  | _ => False
theorem s_rng2 (h : al τ M (kR2 QI)) : iRng2D al τ M QI := h
theorem s_kr2 (e : -(2 ^ 62) ≤ i ∧ i < 2 ^ 62 ∧ -(2 ^ 62) ≤ j ∧ j < 2 ^ 62) (h : QI (itRng i (j - i).toNat) M) : kR2 QI [.int i, .int j] M := ⟨e, h⟩
/-- for -/
def kFor (g : D → SD → Mp → (SD → Mp → Prop) → Prop) (tb : DS) (D : EndsD) (τ : SD) : ItD → Mp → Prop := fun j M1 => ∃ Pv : Nat → SD → Mp → Prop, Pv 0 τ M1 ∧ (∀ i τ M, i ≤ j.n → Pv i τ M → j.ok M) ∧
  (∀ i τ M, i < j.n → Pv i τ M → g (j.at' i) τ M fun τ2 M2 => tb { D with nx := Pv (i + 1), ct := Pv (i + 1), bk := D.nx } τ2 M2) ∧ ∀ τ M, Pv j.n τ M → D.nx τ M
theorem s_for {wi : DTI} {g : D → SD → Mp → (SD → Mp → Prop) → Prop} {tb : DS} (h : wi τ M (kFor g tb E τ)) : dFor wi g tb E τ M := h
/-- over data that nobody changes -/
theorem s_kforT {tb : DS} {is : List Nat} {plain : Bool} {ds : List D} {x : D} (Pv : Nat → SD → Mp → Prop) (hx : ∀ M, sqOf M x = some ds) (h0 : Pv 0 τ M)
    (hs : ∀ i d τ M, ds[i]? = some d → Pv i τ M → gD plain is d τ M fun τ2 M2 => tb ⟨Pv (i + 1), rt, nx, Pv (i + 1)⟩ τ2 M2) (hd : ∀ τ M, Pv ds.length τ M → nx τ M) : kFor (gD plain is) tb ⟨nx, rt, bk, ct⟩ τ (itSeq x ds) M :=
  ⟨Pv, h0, fun _ _ M _ _ => hx M, fun i τ M hi p => by
    have hi : i < ds.length := hi
    have e := List.getElem?_eq_getElem hi
    show gD plain is (ds.getD i .non) τ M _
    rw [getD_of e]
    exact hs i _ τ M e p, hd⟩
theorem s_kforR {tb : DS} {i0 : Nat} {lo : Int} {n : Nat} (Pv : Nat → SD → Mp → Prop) (h0 : Pv 0 τ M)
    (hs : ∀ i τ M, i < n → Pv i τ M → tb ⟨Pv (i + 1), rt, nx, Pv (i + 1)⟩ (τ.set i0 (some (.int (lo + i)))) M) (hd : ∀ τ M, Pv n τ M → nx τ M) : kFor (gD true [i0]) tb ⟨nx, rt, bk, ct⟩ τ (itRng lo n) M :=
  ⟨Pv, h0, fun _ _ M _ _ => trivial, fun i τ M hi p => hs i τ M hi p, hd⟩
theorem s_gname {i0 : Nat} {QS : SD → Mp → Prop} (h : QS (τ.set i0 (some d)) M) : gD true [i0] d τ M QS := h
theorem s_gtup {is : List Nat} {ds : List D} {QS : SD → Mp → Prop} (e : ds.length = is.length) (h : QS (setAll is ds τ) M) : gD false is (.tup ds) τ M QS := by
  show (match (if ds.length = is.length then some (setAll is ds τ) else none) with | some τ2 => QS τ2 M | none => False)
  rw [if_pos e]; exact h
/-! comprehensions -/
def kLc (fin : List D → Mp → QD → Prop) (plain : Bool) (is vs : List Nat) (tt : DT) (te : DE) (τ : SD) (Q : QD) : ItD → Mp → Prop := fun j M1 => ∃ Pv : Nat → List D → Mp → Prop, Pv 0 [] M1 ∧ (∀ i acc M, i ≤ j.n → Pv i acc M → j.ok M) ∧
  (∀ i acc M, i < j.n → Pv i acc M → match bindD plain is (j.at' i) (wipeD τ vs) with
    | some τ2 => tt τ2 M fun b M3 => if b = true then te τ2 M3 fun e M4 => acc.length < sizeLine ∧ Pv (i + 1) (acc ++ [e]) M4 else Pv (i + 1) acc M3
    | none => False) ∧ ∀ acc M, Pv j.n acc M → fin acc M Q
theorem s_lc {fin : List D → Mp → QD → Prop} {wi : DTI} {plain : Bool} {is vs : List Nat} (h : wi τ M (kLc fin plain is vs tt te τ Q)) : dLcG fin wi plain is vs tt te τ M Q := h
/-- over data that nobody changes, each item gives one, and M stays -/
theorem s_klcMap {plain : Bool} {is vs : List Nat} {fin : List D → Mp → QD → Prop} {α : Type} {xs : List α} (enc : α → D) (f : α → D) (hx : ∀ M, sqOf M x = some (xs.map enc)) (hl : xs.length ≤ sizeLine)
    (hs : ∀ a ∈ xs, ∃ τ2, bindD plain is (enc a) (wipeD τ vs) = some τ2 ∧ ∀ Q : QD, Q (f a) M → te τ2 M Q) (hd : fin (xs.map f) M Q) : kLc fin plain is vs dYes te τ Q (itSeq x (xs.map enc)) M := by
  refine ⟨fun i acc M' => M' = M ∧ acc = (xs.map f).take i, ⟨rfl, rfl⟩, fun i acc M' hi p => hx M', fun i acc M' hi p => ?_, fun acc M' p => ?_⟩
  · obtain ⟨rfl, rfl⟩ := p
    have hi : i < (xs.map enc).length := hi
    rw [List.length_map] at hi
    have e := List.getElem?_eq_getElem hi
    obtain ⟨τ2, e2, k⟩ := hs xs[i] (List.getElem_mem hi)
    have e3 : (itSeq x (xs.map enc)).at' i = enc xs[i] := getD_of (by rw [List.getElem?_map, e]; rfl)
    rw [e3, e2]
    refine k _ ⟨?_, rfl, ?_⟩
    · rw [List.length_take, List.length_map]; omega
    · rw [List.take_succ, List.getElem?_map, e]; rfl
  · obtain ⟨rfl, rfl⟩ := p
    have e : (xs.map f).take (itSeq x (xs.map enc)).n = xs.map f := List.take_of_length_le (by show _ ≤ (xs.map enc).length; rw [List.length_map, List.length_map]; exact Nat.le_refl _)
    rw [e]
    exact hd
end
/-- over data that nobody changes -/
theorem s_klcD {plain : Bool} {is vs : List Nat} {fin : List D → Mp → QD → Prop} {te : DE} {τ : SD} {M : Mp} {Q : QD} {x : D} {ds : List D} (f : D → D) (hx : ∀ M, sqOf M x = some ds) (hl : ds.length ≤ sizeLine)
    (hs : ∀ d ∈ ds, ∃ τ2, bindD plain is d (wipeD τ vs) = some τ2 ∧ ∀ Q : QD, Q (f d) M → te τ2 M Q) (hd : fin (ds.map f) M Q) : kLc fin plain is vs dYes te τ Q (itSeq x ds) M := by
  have h := s_klcMap (x := x) (fin := fin) (Q := Q) (plain := plain) (is := is) (vs := vs) (τ := τ) (M := M) (te := te) (xs := ds) (fun d => d) f (by simpa using hx) hl hs hd
  simpa using h
theorem blsOf_fun {α : Type} (g : α → Bool) : ∀ xs : List α, blsOf (xs.map fun a => D.bl (g a)) = some (xs.map g)
  | [] => rfl
  | x :: xs => by
    show (blsOf (xs.map fun a => D.bl (g a))).map (g x :: ·) = _
    rw [blsOf_fun g xs]; rfl
/-- each turn draws one -/
theorem s_klcDraw {α : Type} {fin : List D → Mp → QD → Prop} {te : DE} {τ : SD} {M : Mp} {Q : QD} {i0 : Nat} {vs : List Nat} {lo : Int} {n : Nat} (enc : α → D) (P : α → Prop) (Inv : Mp → Prop) (hn : n ≤ sizeLine) (h0 : Inv M)
    (hs : ∀ i M1 Q, i < n → Inv M1 → (∀ x M2, P x → Inv M2 → Q (enc x) M2) → te ((wipeD τ vs).set i0 (some (.int (lo + (i : Nat))))) M1 Q)
    (hd : ∀ l : List α, l.length = n → (∀ x ∈ l, P x) → ∀ M2, Inv M2 → fin (l.map enc) M2 Q) : kLc fin true [i0] vs dYes te τ Q (itRng lo n) M := by
  refine ⟨fun i acc M' => ∃ l : List α, acc = l.map enc ∧ l.length = i ∧ (∀ x ∈ l, P x) ∧ Inv M', ⟨[], rfl, rfl, by simp, h0⟩, fun _ _ _ _ _ => trivial, fun i acc M' hi p => ?_, fun acc M' p => ?_⟩
  · obtain ⟨l, rfl, hl, hp, hv⟩ := p
    have hi : i < n := hi
    refine hs i M' _ hi hv fun x M2 hx h2 => ⟨?_, l ++ [x], ?_, ?_, ?_, h2⟩
    · rw [List.length_map]; omega
    · rw [List.map_append]; rfl
    · rw [List.length_append, hl]; rfl
    · intro y hy
      rcases List.mem_append.mp hy with hy | hy
      · exact hp y hy
      · rw [List.mem_singleton.mp hy]; exact hx
  · obtain ⟨l, rfl, hl, hp, hv⟩ := p
    exact hd l hl hp M' hv
theorem s_end {Q : QD} {d : D} {M : Mp} (h : Q d M) : rtQ Q d M := ⟨M, fun _ _ z => z, h⟩
theorem s_endL {Q : QD} {d : D} {M M2 : Mp} (e : ∀ a m, M2 a = some m → M a = some m) (h : Q d M2) : rtQ Q d M := ⟨M2, e, h⟩
theorem sqOf_ref {M : Mp} {a : Addr} {ds : List D} (h : M a = some (.lst ds)) : sqOf M (.ref a) = some ds := by
  show (match M a with | some (.lst ds) => some ds | _ => none) = some ds
  rw [h]
theorem lsOf_ref {M : Mp} {a : Addr} {ds : List D} (h : M a = some (.lst ds)) : lsOf M (.ref a) = some ds := by
  show (match M a with | some (.lst ds) => some ds | _ => none) = some ds
  rw [h]
theorem isLst_ref {M : Mp} {a : Addr} {ds : List D} (h : M a = some (.lst ds)) : isLst M (.ref a) := by
  show (match M a with | some (.lst _) => True | _ => False)
  rw [h]; trivial
theorem atI_ofNat {α : Type} (xs : List α) (k : Nat) : atI xs (OfNat.ofNat k : Int) = xs[k]? := by
  show atI xs (k : Int) = xs[k]?
  unfold atI ixN
  rw [if_pos (by omega)]
  by_cases h : k < xs.length
  · rw [if_pos (by omega)]; rfl
  · rw [if_neg (by omega), List.getElem?_eq_none (by omega)]; rfl
theorem atI_toNat {α : Type} {xs : List α} {i : Int} (h : 0 ≤ i) : atI xs i = xs[i.toNat]? := by
  have := atI_ofNat xs i.toNat
  rw [show (OfNat.ofNat i.toNat : Int) = i from Int.toNat_of_nonneg h] at this
  exact this
end DL

namespace L2
open PySem PySem.Spec PyProof.Rows
/-! ranges of any size -/
theorem turn_long {P : Program} {w : World} {K : PySem.W.Frag} {tg : Expr} (it : Addr) (lo : Int) (n : Nat) : Turn P w K tg (Itr lo n) [it] it (fun i h => IsLongIter h it (lo + (i : Nat) * 1) ((n : Int) - (i : Nat)) 1) where
  mem := by simp
  obj := fun i h st b hb => by
    obtain rfl : b = it := by simpa using hb
    exact ⟨_, st, fun v z => by
      have z' : Data.fields _ = Data.cell v := z
      cases z'⟩
  keep := fun i h h' st k => k it (by simp) _ st
  item := fun X hP hw hK hc i pins s σ H E I hf st hg => by
    subst hP hw hK
    obtain ⟨f0, f1, f2, f3, f4, f5⟩ := hf it (by simp)
    refine (Walks.longrange (prog := X.prog) (w := X.w) (I.ok.hd hc) it lo 1 n).item i s _ _ hg st fun v h' tk hv st' kk => ?_
    obtain ⟨t, rfl⟩ := hv
    refine ⟨_, rfl, go_of (s := { s with heap := h', toks := tk }) (n := "longrange_iterator") st' rfl rfl (by decide) ⟨.int (lo + i), H, I.turned (fun b o hb e => kk b o (by simpa using hb) e) f0 f1 f3 f4 f5, ⟨t, ?_⟩, ⟨rfl, rfl⟩, st', fun b hb => (hf b hb).1⟩⟩
    rw [Int.mul_one]
  done := fun X hP hw hK hc i pins s σ H E I hf st hg => by
    subst hP hw hK
    obtain ⟨f0, f1, f2, f3, f4, f5⟩ := hf it (by simp)
    refine wpAny_pyNext_long_end (I.ok.hd hc) st (by have h9 : n ≤ i := hg; omega) fun h' eb => ?_
    exact ⟨rfl, I.turned (t' := s.toks) (fun b o hb e => eb b o hb e) f0 f1 f3 f4 f5⟩
  self := fun _ _ _ _ _ st h => wpAny_pyIter_longiter st h
section
variable {X : Cx} {tg : Expr}
theorem range_any {pins : List (Addr × Obj)} {σ : St} {H : Hp} {s : Shared} {R : It → Hp → Prop} {E : Value → Shared → Prop} {lo hi : Int} {t u v : Tok} {tk : Nat} (I : Inv X pins σ H s)
    (q : R (Itr lo (hi - lo).toNat) H) : wpAny (model X.prog X.w) X.A (pyIter (.ref s.heap.objs.size)) (PIE X pins σ tg R) E { s with heap := s.heap.push { cls := .type "range", data := .fields #[.int lo t, .int hi u, .int 1 v] }, toks := tk } := by
  have e1 : lo + ((0 : Nat) : Int) * 1 = lo := by simp
  have e2 : (((hi - lo).toNat : Nat) : Int) - ((0 : Nat) : Int) = Builtin.Range.rangeSize lo hi 1 := by rw [rangeSize_one]; split <;> omega
  have I1 : Inv X pins σ H { s with heap := s.heap.push { cls := .type "range", data := .fields #[.int lo t, .int hi u, .int 1 v] }, toks := tk } := I.kept fun b o e => Heap.get?_push_of_some _ e
  cases hb : Builtin.Range.small lo hi 1 with
  | true =>
    refine wpAny_pyIter_range (IsRange.new ..) hb ?_
    refine ⟨_, [(s.heap.push { cls := .type "range", data := .fields #[.int lo t, .int hi u, .int 1 v] }).objs.size], _, _, H, rfl, I1.kept (t' := tk) fun b o e => Heap.get?_push_of_some _ e, turn_range _ lo (hi - lo).toNat, ?_, fun b hb => ?_, q⟩
    · show IsRangeIter _ _ (lo + ((0 : Nat) : Int) * 1) ((((hi - lo).toNat : Nat) : Int) - ((0 : Nat) : Int)) 1
      rw [e1, e2]
      exact Heap.get?_push_size _ rfl
    · obtain rfl : b = (s.heap.push { cls := .type "range", data := .fields #[.int lo t, .int hi u, .int 1 v] }).objs.size := by simpa using hb
      exact I1.fpOk (Nat.le_refl _) (I1.hok.fresh (Nat.le_refl _))
  | false =>
    refine wpAny_pyIter_longrange (IsRange.new ..) hb ?_
    refine ⟨_, [(s.heap.push { cls := .type "range", data := .fields #[.int lo t, .int hi u, .int 1 v] }).objs.size], _, _, H, rfl, I1.kept (t' := tk) fun b o e => Heap.get?_push_of_some _ e, turn_long _ lo (hi - lo).toNat, ?_, fun b hb => ?_, q⟩
    · show IsLongIter _ _ (lo + ((0 : Nat) : Int) * 1) ((((hi - lo).toNat : Nat) : Int) - ((0 : Nat) : Int)) 1
      rw [e1, e2]
      exact Heap.get?_push_size _ rfl
    · obtain rfl : b = (s.heap.push { cls := .type "range", data := .fields #[.int lo t, .int hi u, .int 1 v] }).objs.size := by simpa using hb
      exact I1.fpOk (Nat.le_refl _) (I1.hok.fresh (Nat.le_refl _))
def iRngAny (ta : TA) : TI := fun σ H R => ta σ H fun vs H1 => ∃ i j : Int, vs = [.int i, .int j] ∧ R (Itr i (j - i).toNat) H1
theorem pi_rangeAny {a b : Expr} {ta : TA} {p pos : Pos} (hg : Gl X "range") (hm : X.mg "range" = none) (ha : PA X [a, b] ta) (hs : starEach [a, b] X.env = [(false, eval a X.env), (false, eval b X.env)] := by rfl) (hs2 : starEach [b] X.env = [(false, eval b X.env)] := by rfl) :
    PI X tg (.Call (.Name "range" p) [a, b] [] pos) (iRngAny ta) := by
  refine ⟨fun pins s σ H R I h => Call_ (ld_blt I hg hm boot_range (PyProof.Rows.callWith_type1 (thn (ha.run pos pins s σ H _ I h) fun us s1 ⟨vs, H1, I1, r1, i, j, e, q⟩ => ?_) (by rw [hs, hs2]) (by rw [hs2]; rfl)))⟩
  subst e
  obtain - | ⟨⟨t, rfl⟩, rr⟩ := r1
  obtain - | ⟨⟨t', rfl⟩, rr⟩ := rr
  obtain - | _ := rr
  exact call_range_2 (range_any I1 q)
end
end L2
namespace DL
open PySem PySem.Spec PyProof.Rows L2
def iRngAD (ta : DA) : DTI := fun τ M Q => ta τ M fun ds M1 => match ds with
  | [.int i, .int j] => Q (itRng i (j - i).toNat) M1
  | _ => False
section
variable {X : Cx} {F0 : Bs} {tg : Expr}
theorem id_rngA {a b : Expr} {ta : DA} {p pos : Pos} (hg : Gl X "range") (hm : X.mg "range" = none) (ha : PA X [a, b] (liA X.K F0 ta)) (hs : starEach [a, b] X.env = [(false, eval a X.env), (false, eval b X.env)] := by rfl) (hs2 : starEach [b] X.env = [(false, eval b X.env)] := by rfl) :
    PI X tg (.Call (.Name "range" p) [a, b] [] pos) (liI X.K F0 (iRngAD ta)) := by
  refine piImp (pi_rangeAny hg hm ha hs hs2) fun σ H Q ⟨F, R, τ, M, Q', e0, st, sl, q, k⟩ => ?_
  refine ⟨F, R, τ, M, _, e0, st, sl, q, fun v H1 F1 ds M1 e1 st1 r1 q1 => ?_⟩
  split at q1 <;> try exact q1.elim
  obtain ⟨x, y, rfl, r, r'⟩ := rep2 r1
  cases r; cases r'
  exact ⟨_, _, rfl, k _ _ _ _ _ e1 st1 rel_rng q1⟩
end
section
variable {τ : SD} {M : Mp} {QI : ItD → Mp → Prop} {al : DA} {i j : Int}
def kRA (QI : ItD → Mp → Prop) : List D → Mp → Prop := fun ds M1 => match ds with
  | [.int i, .int j] => QI (itRng i (j - i).toNat) M1
  | _ => False
theorem s_rngA (h : al τ M (kRA QI)) : iRngAD al τ M QI := h
theorem s_kra (h : QI (itRng i (j - i).toNat) M) : kRA QI [.int i, .int j] M := h
end
/-! while -/
def kWh (W : Nat → SD → Mp → Prop) (m : Nat) (tb : DS) (nx : SD → Mp → Prop) (rt : QD) (τ : SD) : Bool → Mp → Prop := fun b M1 => if b = true then tb ⟨fun τ2 M2 => ∃ m', m' < m ∧ W m' τ2 M2, rt, nx, fun τ2 M2 => ∃ m', m' < m ∧ W m' τ2 M2⟩ τ M1 else nx τ M1
section
variable {nx bk ct : SD → Mp → Prop} {rt : QD} {tb : DS} {tc : DT} {τ : SD} {M : Mp} {W : Nat → SD → Mp → Prop} {m : Nat} {p : Prop} [Decidable p] {b : Bool}
theorem s_while (W : Nat → SD → Mp → Prop) (m0 : Nat) (h0 : W m0 τ M) (hs : ∀ m τ M, W m τ M → tc τ M (kWh W m tb nx rt τ)) : dWhile tc tb ⟨nx, rt, bk, ct⟩ τ M := ⟨W, ⟨m0, h0⟩, fun m τ M w => hs m τ M w⟩
theorem s_wh_t (h : tb ⟨fun τ2 M2 => ∃ m', m' < m ∧ W m' τ2 M2, rt, nx, fun τ2 M2 => ∃ m', m' < m ∧ W m' τ2 M2⟩ τ M) : kWh W m tb nx rt τ true M := h
theorem s_wh_f (h : nx τ M) : kWh W m tb nx rt τ false M := by unfold kWh; rw [if_neg Bool.false_ne_true]; exact h
theorem s_wh_d (h : p → tb ⟨fun τ2 M2 => ∃ m', m' < m ∧ W m' τ2 M2, rt, nx, fun τ2 M2 => ∃ m', m' < m ∧ W m' τ2 M2⟩ τ M) (h2 : ¬ p → nx τ M) : kWh W m tb nx rt τ (decide p) M := by
  by_cases e : p
  · rw [decide_eq_true e]; exact s_wh_t (h e)
  · rw [decide_eq_false e]; exact s_wh_f (h2 e)
theorem s_wh_nd (h : ¬ p → tb ⟨fun τ2 M2 => ∃ m', m' < m ∧ W m' τ2 M2, rt, nx, fun τ2 M2 => ∃ m', m' < m ∧ W m' τ2 M2⟩ τ M) (h2 : p → nx τ M) : kWh W m tb nx rt τ (!decide p) M := by
  by_cases e : p
  · rw [decide_eq_true e]; exact s_wh_f (h2 e)
  · rw [decide_eq_false e]; exact s_wh_t (h e)
end
/-- over a range, each turn gives one, and M stays -/
theorem s_klcRng {fin : List D → Mp → QD → Prop} {te : DE} {τ : SD} {M : Mp} {Q : QD} {i0 : Nat} {vs : List Nat} {lo : Int} {n : Nat} (f : Nat → D) (hn : n ≤ sizeLine)
    (hs : ∀ i (Q : QD), i < n → Q (f i) M → te ((wipeD τ vs).set i0 (some (.int (lo + (i : Nat))))) M Q) (hd : fin ((List.range n).map f) M Q) : kLc fin true [i0] vs dYes te τ Q (itRng lo n) M := by
  refine ⟨fun i acc M' => M' = M ∧ acc = (List.range i).map f, ⟨rfl, rfl⟩, fun _ _ _ _ _ => trivial, fun i acc M' hi p => ?_, fun acc M' p => ?_⟩
  · obtain ⟨rfl, rfl⟩ := p
    have hi : i < n := hi
    refine hs i _ hi ⟨?_, rfl, ?_⟩
    · rw [List.length_map, List.length_range]; omega
    · rw [List.range_succ, List.map_append]; rfl
  · obtain ⟨rfl, rfl⟩ := p
    exact hd
/-! a tuple of names, by the places alone -/
def gOf : List Nat → TGs
  | [] => gNil
  | i :: is => gCons (gName i) (gOf is)
theorem gOf_run {K : PySem.W.Frag} {F H : Hp} : ∀ (is : List Nat) {xs : List V} {ds : List D} {σ : L2.St} {τ : SD} {Q : L2.St → Hp → Prop}, Slots K F σ τ → RepAll K F xs ds → ds.length = is.length →
    (∀ σ2, Slots K F σ2 (setAll is ds τ) → (∃ xs : List V, is.length = xs.length ∧ σ2 = (is.zip xs).foldl (fun s p => s.set p.1 (some p.2)) σ) → Q σ2 H) → gOf is xs σ H Q
  | [], xs, ds, σ, τ, Q, sl, ra, hl, q => by
    cases ra with
    | nil => exact ⟨rfl, q σ sl ⟨[], rfl, rfl⟩⟩
    | cons _ _ => cases hl
  | i :: is, xs, ds, σ, τ, Q, sl, ra, hl, q => by
    cases ra with
    | nil => cases hl
    | cons r ra =>
      refine ⟨_, _, rfl, gOf_run is (sl.put r i) ra (Nat.succ.inj hl) fun σ2 s2 ⟨ys, h1, h2⟩ => ?_⟩
      exact q σ2 s2 ⟨_ :: ys, congrArg (· + 1) h1, h2⟩
theorem tg_of {K : PySem.W.Frag} (is : List Nat) : TgOk K (gTup K is.length (gOf is)) false is := by
  constructor
  intro F R H M v d σ τ τ2 Q st sl r e q
  cases d with
  | tup ds =>
    have e : (if ds.length = is.length then some (setAll is ds τ) else none) = some τ2 := e
    by_cases hl : ds.length = is.length
    · rw [if_pos hl] at e
      cases e
      obtain ⟨a, xs, rfl, hs, ra⟩ := tp_get st r
      exact ⟨a, xs, rfl, hs, ra.len.trans hl, gOf_run is sl ra hl q⟩
    · rw [if_neg hl] at e; cases e
  | _ => exact nomatch (show (none : Option SD) = some τ2 from e)
end DL

namespace L2
open PySem PySem.Spec PyProof.Rows
theorem tuple_mul1 (l : Addr) (items : Array Value) (n : Nat) (dd : Option Addr) (sl : Array (Option Value)) (u : Tok) :
    Meets (Builtin.«tuple.__mul__» ⟨[.ref l, .int 1 u], []⟩) (fun _ R s => s.heap.get? l = some { cls := .type "tuple", dict := dd, data := .seq items n, slots := sl } ∧ R (.ok (.ret (Value.ref l))) s) :=
  .of_wp fun prog w A R s h => by
    obtain ⟨hp, g, d, tk, os⟩ := s
    obtain ⟨hl, h⟩ := h
    have f1 := AutoSeq1.idx_int
    wp_walk using wpAny_loadPart' hl
    exact ⟨_, rfl, h⟩
theorem tuple_mul0 (l : Addr) (items : Array Value) (n : Nat) (dd : Option Addr) (sl : Array (Option Value)) (x : Int) (u : Tok) (c0 : (decide (x < -(2 ^ 63)) || decide (x ≥ 2 ^ 63)) = false) (c1 : (items.isEmpty || x == 1) = false) (c2 : (decide (x ≤ 0) || items.isEmpty) = true) :
    Meets (Builtin.«tuple.__mul__» ⟨[.ref l, .int x u], []⟩) (fun _ R s => s.heap.get? l = some { cls := .type "tuple", dict := dd, data := .seq items n, slots := sl } ∧
      R (.ok (.ret (Value.ref s.heap.objs.size))) { s with heap := s.heap.push { cls := Value.type "tuple", data := Data.seq #[] }, toks := s.toks }) :=
  .of_wp fun prog w A R s h => by
    obtain ⟨hp, g, d, tk, os⟩ := s
    obtain ⟨hl, h⟩ := h
    have f1 := AutoSeq1.idx_int
    wp_walk using wpAny_loadPart' hl
    repeat (first
      | (refine wpAny_ite_false (decide_eq_false (by rw [c0]; exact Bool.false_ne_true)) ?_; wp_walk using wpAny_loadPart' hl)
      | (refine wpAny_ite_false (decide_eq_false (by rw [c1]; exact Bool.false_ne_true)) ?_; wp_walk using wpAny_loadPart' hl)
      | (refine wpAny_ite_true (decide_eq_true c2) ?_; wp_walk using wpAny_loadPart' hl))
    exact ⟨_, rfl, h⟩
/-- a tuple, any number of times -/
theorem op_repAny {X : Cx} : OpR X (binaryOp .Mult) (fun x y H Q => ∃ l k xs, x = .ref l ∧ y = .int k ∧ SqT X.K H l xs ∧ xs ≠ [] ∧ -(2 ^ 62) ≤ k ∧ xs.length * k.toNat ≤ 1000000 ∧ (k = 1 → Q (.ref l) H) ∧
    (k ≠ 1 → ∀ p, H p = none → Q (.ref p) (upd H p (.tup (List.replicate k.toNat xs).flatten)))) := by
  rintro pins s σ H x y v u Q I rx ry ⟨l, k, xs, rfl, rfl, hT, hne, hk, hz, q1, q2⟩
  by_cases k2 : 2 ≤ k
  · exact DL.op_repN pins s σ H _ _ v u Q I rx ry ⟨l, k, xs, rfl, rfl, hT, hne, k2, hz, q2 (by omega)⟩
  cases rx
  obtain ⟨t, rfl⟩ := ry
  obtain ⟨its, r, ⟨⟨cls, dd, data, sl⟩, ho, hc, n, hd⟩, hs⟩ := I.tuple hT
  simp only at hc hd
  subst hc hd
  have hle : its.length = xs.length := r.length.symm
  have hn : its ≠ [] := fun e => hne (List.eq_nil_of_length_eq_zero (by rw [← hle, e]; rfl))
  have hi : its.toArray.isEmpty = false := by
    cases its with
    | nil => exact absurd rfl hn
    | cons a b => rfl
  by_cases k1 : k = 1
  · subst k1
    refine wpAny_binaryOp_repeat_ref (T := "tuple") (U := "int") (by decide) ⟨_, ho, rfl⟩ (fun s' => typeIs_int s' 1 t) noFill_tuple_mul F.fills_int_mul F.slot_int_rmul repeat_tuple F.slot_int_index.lookup
      (call_meets F.slot_int_rmul (typeIs_int s 1 t) F.entry_int_rmul (F.args_int_rmul_2 _ _) (int_rmul_tuple 1 t l its.toArray n dd sl)
        ⟨ho, rfl, ⟨_, ho, rfl⟩, call_meets F.slot_tuple_mul ⟨_, ho, rfl⟩ F.entry_tuple_mul (F.args_tuple_mul_2 _ _) (tuple_mul1 l its.toArray n dd sl t) ⟨ho, ?_⟩⟩)
    exact ⟨.ref l, H, I, rfl, q1 rfl⟩
  · refine wpAny_binaryOp_repeat_ref (T := "tuple") (U := "int") (by decide) ⟨_, ho, rfl⟩ (fun s' => typeIs_int s' k t) noFill_tuple_mul F.fills_int_mul F.slot_int_rmul repeat_tuple F.slot_int_index.lookup
      (call_meets F.slot_int_rmul (typeIs_int s k t) F.entry_int_rmul (F.args_int_rmul_2 _ _) (int_rmul_tuple k t l its.toArray n dd sl)
        ⟨ho, rfl, ⟨_, ho, rfl⟩, call_meets F.slot_tuple_mul ⟨_, ho, rfl⟩ F.entry_tuple_mul (F.args_tuple_mul_2 _ _)
          (tuple_mul0 l its.toArray n dd sl k t (by rw [decide_eq_false (by omega), decide_eq_false (by omega)] <;> rfl) (by rw [hi, Bool.false_or]; exact beq_eq_false_iff_ne.mpr (by omega)) (by rw [decide_eq_true (by omega)]; rfl)) ⟨ho, ?_⟩⟩)
    have e0 : (List.replicate k.toNat xs).flatten = [] := by rw [show k.toNat = 0 by omega]; rfl
    have q2 := q2 k1
    rw [e0] at q2
    refine ⟨.ref s.heap.objs.size, _, I.laid (t' := s.toks) (o := .tup []) (fun b ob q => Heap.get?_push_of_some _ q) (Nat.le_refl _) ?_, rfl, q2 _ (I.hok.fresh (Nat.le_refl _))⟩
    exact ⟨Nat.zero_le _, [], .nil, IsTup.new _ _⟩
/-- // of any sign -/
def CDivG (_ j : Int) : Prop := j ≠ 0 ∧ j.natAbs.log2 < 9000
theorem op_fdivG {X : Cx} : OpR X (binaryOp .FloorDiv) (rI CDivG fun i j => .int (i.fdiv j)) := opI fun _ _ _ _ _ _ _ hc q => floordiv_int hc.1 q (.inl (PyProof.noPylong_of_log2 hc.2))
end L2
namespace DL
open PySem PySem.Spec PyProof.Rows L2
abbrev dFdivG : R2D := dI CDivG fun i j => i.fdiv j
def dMulA : R2D := fun x y M Q => match x, y with
  | .tup xs, .int k => xs ≠ [] ∧ -(2 ^ 62) ≤ k ∧ xs.length * k.toNat ≤ 1000000 ∧ Q (.tup (List.replicate k.toNat xs).flatten) M
  | _, _ => False
section
variable {X : Cx} {F0 : Bs}
theorem od_fdivG : OpD X F0 (binaryOp .FloorDiv) dFdivG := od_I op_fdivG
theorem od_mulA : OpD X F0 (binaryOp .Mult) dMulA := by
  intro pins s σ H x y v u Q I rx ry ⟨F, R, M, d, e, Q', e0, st, rd, re, q, k⟩
  unfold dMulA at q
  split at q
  · obtain ⟨a, vs, rfl, h1, ra⟩ := tp_get st rd
    rename_i ds j
    have rd2 := rd
    cases re
    refine op_repAny pins s σ H _ _ v u Q I rx ry ⟨a, _, vs, rfl, rfl, h1, fun z => q.1 ?_, q.2.1, by rw [ra.len]; exact q.2.2.1, fun e1 => ?_, fun e1 p hp => k.tup st hp (ra.reps _) q.2.2.2⟩
    · subst z; cases ra; rfl
    · have q4 := q.2.2.2
      subst e1
      rw [show (List.replicate (1 : Int).toNat ds).flatten = ds by show (ds ++ []) = ds; simp] at q4
      exact k _ _ _ _ _ Ext.refl st rd2 q4
  · exact q.elim
end
theorem s_mulA {xs : List D} {k : Int} {M : Mp} {Q : QD} (e : xs ≠ []) (e1 : -(2 ^ 62) ≤ k) (e2 : xs.length * k.toNat ≤ 1000000) (h : Q (.tup (List.replicate k.toNat xs).flatten) M) : dMulA (.tup xs) (.int k) M Q := ⟨e, e1, e2, h⟩
end DL

namespace L2
open PySem PySem.Spec PyProof.Rows
/-- sum of a list of bools -/
theorem sum_bools {prog : Program} {w : World} {A : Around} {E : Value → Shared → Prop} {s : Shared} {l : Addr} {items : Array Value} {bs : List Bool} {Q : Value → Shared → Prop} (hh : A.handled = none) (hl : s.heap.IsList l items) (hi : items.toList = bs.map Value.bool)
    (h : ∀ h' tk t', (∀ b o, s.heap.get? b = some o → h'.get? b = some o) → Q (.int ((bs.countP id : Nat) : Int) t') { s with heap := h', toks := tk }) : wpAny (model prog w) A (call (.builtin "sum") [.ref l]) Q E s := by
  have hlt : l < s.heap.objs.size := by obtain ⟨_, e, _⟩ := hl; exact Heap.lt_size e
  have sz : items.size = bs.length := by rw [← Array.length_toList, hi, List.length_map]
  refine call_sum_walkAnyB (wpAny_pyIter_list hl ?_)
  refine ⟨_, _, _, _, _, _, _, fun i => if bs.getD i false = true then 1 else 0, rfl, (Walks.list (A := A.in1) hh _ l (Nat.ne_of_lt hlt) items).toS, ⟨⟨_, Heap.get?_push_size _ rfl, rfl, rfl⟩, hl.push _⟩, fun b hb => ?_, fun i v hv => ?_, fun s' t' hm => ?_⟩
  · show b < (s.heap.push _).objs.size
    rw [show (s.heap.push { cls := .type "list_iterator", data := .fields #[.ref l, .int 0 0] }).objs.size = s.heap.objs.size + 1 from Array.size_push ..]
    rcases List.mem_cons.mp hb with rfl | hb
    · exact Nat.lt_succ_self _
    · rw [List.mem_singleton.mp hb]; exact Nat.lt_succ_of_lt hlt
  · have hv2 : items.toList[i]? = some v := by simpa using hv
    rw [hi, List.getElem?_map] at hv2
    cases e : bs[i]? with
    | none => rw [e] at hv2; cases hv2
    | some b =>
      rw [e] at hv2
      cases hv2
      refine .inr ⟨b, rfl, ?_⟩
      show (if bs.getD i false = true then (1 : Int) else 0) = _
      rw [List.getD_eq_getElem?_getD, e]; rfl
  · have e0 : ∀ n, n ≤ bs.length → preSum (fun i => if bs.getD i false = true then 1 else 0) n = (((bs.take n).countP id : Nat) : Int) := by
      intro n
      induction n with
      | zero => intro _; rfl
      | succ n ih =>
        intro hn
        have hx : bs[n]? = some bs[n] := List.getElem?_eq_getElem hn
        rw [preSum, ih (by omega), List.take_succ, hx, List.countP_append, List.getD_eq_getElem?_getD, hx]
        cases bs[n] <;> simp
    have e1 := e0 items.size (by omega)
    rw [sz, List.take_length] at e1
    rw [sz, e1]
    obtain ⟨hp, g, d, tk, os⟩ := s'
    obtain ⟨m1, m2, m3, m4, m5⟩ := hm
    have m2 : g = s.gens := m2
    have m3 : d = s.drawn := m3
    have m4 : os = s.os := m4
    subst m2 m3 m4
    refine h hp tk t' fun b o e => m1 b o ?_ (Heap.get?_push_of_some _ e)
    simp only [List.mem_singleton]
    intro z
    subst z
    exact Nat.lt_irrefl _ (Heap.lt_size e)
theorem cr_sumB {X : Cx} (hc : X.calm = true) : CallR X (.builtin "sum") (fun vs H Q => ∃ (a : Addr) (bs : List Bool), vs = [V.ref a] ∧ SqL X.K H a (bs.map V.bl) ∧ Q (.int ((bs.countP id : Nat) : Int)) H) := by
  intro pins s σ H vs us Q I r h
  obtain ⟨a, bs, rfl, hs, q⟩ := h
  obtain ⟨its, rv, hl, _⟩ := I.list hs
  rw [Vals.ref1 r]
  have hv : ∀ (bs : List Bool) (us : List Value), Vals (bs.map V.bl) us → us = bs.map Value.bool := by
    intro bs
    induction bs with
    | nil => intro us r; cases r; rfl
    | cons b bs ih =>
      intro us r
      cases r with
      | cons r t => cases r; rw [ih _ t]; rfl
  exact sum_bools (I.ok.hd hc) hl.isList (by simpa using hv bs its rv) fun h' tk t' hk => ⟨.int _, H, I.kept hk, ⟨_, rfl⟩, q⟩
end L2
namespace DL
open PySem PySem.Spec PyProof.Rows L2
/-- sum of a list of bools -/
def dSumB : RC := fun ds M Q => match ds with
  | [d] => match lsOf M d with
    | some xs => match blsOf xs with
      | some bs => Q (.int ((bs.countP id : Nat) : Int)) M
      | none => False
    | none => False
  | _ => False
def dGcd : RC := fun ds M Q => match ds with
  | [.int a, .int b] => Q (.int ((Nat.gcd a.natAbs b.natAbs : Nat) : Int)) M
  | _ => False
section
variable {X : Cx} {F0 : Bs} {x : Str} {p pos : Pos} {e : Expr} {es : List Expr} {t : DA} {r : RC} {id : String}
theorem pd_callBf (hc : CallR X (.builtin id) (liC X.K F0 r)) (hg : Gl X x) (hm : X.mg x = some (.builtin id)) (ha : PA X (e :: es) (liA X.K F0 t)) (hdb : (x == ("__debug__" : Str)) = false := by decide)
    (he : starEach (e :: es) X.env = (false, eval e X.env) :: starEach es X.env := by rfl) (hpl : (backTo pos (starEach es X.env)).any (·.1) = false := by rfl) : PE X (.Call (.Name x p) (e :: es) [] pos) (liE X.K F0 (dCB r t)) :=
  peImp (pe_callBfun hc hg hm ha hdb he hpl) fun _ _ _ => li_cb
theorem cd_gcd : CallR X (.builtin "math.gcd") (liC X.K F0 dGcd) := by
  refine caImp cr_gcd fun xs H Q ⟨F, R, M, ds, Q', e0, st, rs, q, k⟩ => ?_
  unfold dGcd at q
  split at q <;> try exact q.elim
  obtain ⟨x, y, rfl, r, r'⟩ := rep2 rs
  cases r; cases r'
  exact ⟨_, _, rfl, k _ _ _ _ _ Ext.refl st (.int _) q⟩
theorem cd_sumB (hc : X.calm = true) : CallR X (.builtin "sum") (liC X.K F0 dSumB) := by
  refine caImp (cr_sumB hc) fun xs H Q ⟨F, R, M, ds, Q', e0, st, rs, q, k⟩ => ?_
  unfold dSumB at q
  split at q <;> try exact q.elim
  obtain ⟨x, rfl, r⟩ := rep1 rs
  split at q <;> try exact q.elim
  rename_i ys h1
  split at q <;> try exact q.elim
  rename_i bs h2
  obtain ⟨a, vs, rfl, hs, ra⟩ := ls_get st r h1
  rw [bls_eq h2] at ra
  have ev := ra.bls
  subst ev
  exact ⟨a, bs, rfl, hs, k _ _ _ _ _ Ext.refl st (.int _) q⟩
end
theorem s_sumB {bs : List Bool} {x : D} {M : Mp} {Q : QD} {ds : List D} (e : lsOf M x = some ds) (e2 : blsOf ds = some bs) (h : Q (.int ((bs.countP id : Nat) : Int)) M) : dSumB [x] M Q := by unfold dSumB; simp only [e, e2]; exact h
theorem s_gcd {a b : Int} {M : Mp} {Q : QD} (h : Q (.int ((Nat.gcd a.natAbs b.natAbs : Nat) : Int)) M) : dGcd [.int a, .int b] M Q := h
/-! two names at once -/
def dPar (i j : Nat) (al : DA) : DS := fun D τ M => al τ M fun ds M1 => match ds with
  | [a, b] => D.nx ((τ.set i (some a)).set j (some b)) M1
  | _ => False
section
variable {X : Cx} {F0 : Bs}
theorem sd_par {i j : Nat} {x y : Str} {a b : Expr} {ta : DA} {px py pt pos : Pos} {kt k2 pt2} (hc : X.calm = true) (hN : X.N.Nodup) (hi : X.N[i]? = some x) (hj : X.N[j]? = some y) (hij : i ≠ j)
    (hx : X.env.scope.names.lookup x = some .local) (hy : X.env.scope.names.lookup y = some .local) (ha : PA X [a, b] (liA X.K F0 ta))
    (hw : swappedStores [.Tuple [.Name x px, .Name y py] kt pt] (.Tuple [a, b] k2 pt2) X.env = pure (some [x, y]))
    (hs : swapsWithSole [.Tuple [.Name x px, .Name y py] kt pt] (.Tuple [a, b] k2 pt2) pos.line X.env = pure false := by rfl) :
    PS X (.Assign [.Tuple [.Name x px, .Name y py] kt pt] (.Tuple [a, b] k2 pt2) pos) (liS X.K F0 (dPar i j ta)) := by
  refine psImp (ps_par hc hN hi hj hij hx hy ha hw hs) fun D σ H ⟨F, R, τ, M, D', e0, st, sl, q, k⟩ => ?_
  refine ⟨F, R, τ, M, _, e0, st, sl, q, fun vs H1 F1 ds M1 e1 st1 r1 q1 => ?_⟩
  split at q1 <;> try exact q1.elim
  obtain ⟨v, w, rfl, r, r'⟩ := rep2 r1
  exact ⟨_, _, rfl, k.nx _ _ _ _ _ e1 st1 (((sl.ext e1).put r i).put r' j) q1⟩
end
def kPar (nx : SD → Mp → Prop) (i j : Nat) (τ : SD) : List D → Mp → Prop := fun ds M1 => match ds with
  | [a, b] => nx ((τ.set i (some a)).set j (some b)) M1
  | _ => False
theorem s_par {nx bk ct : SD → Mp → Prop} {rt : QD} {τ : SD} {M : Mp} {i j : Nat} {al : DA} (h : al τ M (kPar nx i j τ)) : dPar i j al ⟨nx, rt, bk, ct⟩ τ M := h
theorem s_kpar {nx : SD → Mp → Prop} {τ τ2 : SD} {M : Mp} {i j : Nat} {a b : D} (e : (τ.set i (some a)).set j (some b) = τ2) (h : nx τ2 M) : kPar nx i j τ [a, b] M := by subst e; exact h
end DL

namespace DL
open PySem PySem.Spec PyProof.Rows L2
/-! math.lcm -/
theorem cr_lcm {X : Cx} : CallR X (.builtin "math.lcm") (fun vs H Q => ∃ a b : Nat, vs = [.int a, .int b] ∧ a < 2 ^ 30 ∧ b < 2 ^ 30 ∧ Q (.int ((Nat.lcm a b : Nat) : Int)) H) := by
  intro pins s σ H vs us Q I r h
  obtain ⟨a, b, rfl, ha, hb, q⟩ := h
  obtain ⟨t, u, rfl⟩ := Vals.int2 r
  have e0 : Nat.lcm (Nat.lcm 1 (a : Int).natAbs) (b : Int).natAbs = Nat.lcm a b := by rw [Int.natAbs_natCast, Int.natAbs_natCast, Nat.lcm_one_left]
  have lb : Nat.lcm a b < 2 ^ 60 := by
    have := Nat.lcm_le_mul (m := a) (n := b)
    by_cases h0 : a = 0
    · subst h0; rw [Nat.lcm_zero_left]; decide
    by_cases h1 : b = 0
    · subst h1; rw [Nat.lcm_zero_right]; decide
    have l1 := Nat.le_of_dvd (Nat.mul_pos (by omega) (by omega)) (Nat.lcm_dvd_mul a b)
    have l2 : a * b < 2 ^ 30 * 2 ^ 30 := Nat.mul_lt_mul'' ha hb
    have e : (2 : Nat) ^ 30 * 2 ^ 30 = 2 ^ 60 := by decide
    omega
  refine PySem.W.mg_lcm (by omega) (by omega) ?_ ?_
  · rw [e0, Int.natAbs_natCast]
    exact Nat.lt_of_lt_of_le (PySem.Flt.log2_lt_of (k := 60) (by decide) lb) (by decide)
  · rw [e0]
    exact ⟨.int _, H, I.tok _, ⟨_, rfl⟩, q⟩
def dLcm : RC := fun ds M Q => match ds with
  | [.int a, .int b] => 0 ≤ a ∧ a < 2 ^ 30 ∧ 0 ≤ b ∧ b < 2 ^ 30 ∧ Q (.int ((Nat.lcm a.toNat b.toNat : Nat) : Int)) M
  | _ => False
theorem cd_lcm {X : Cx} {F0 : Bs} : CallR X (.builtin "math.lcm") (liC X.K F0 dLcm) := by
  refine caImp cr_lcm fun xs H Q ⟨F, R, M, ds, Q', e0, st, rs, q, k⟩ => ?_
  unfold dLcm at q
  split at q <;> try exact q.elim
  obtain ⟨x, y, rfl, r, r'⟩ := rep2 rs
  cases r; cases r'
  rename_i a b _
  refine ⟨a.toNat, b.toNat, ?_, by omega, by omega, k _ _ _ _ _ Ext.refl st (.int _) q.2.2.2.2⟩
  rw [Int.toNat_of_nonneg q.1, Int.toNat_of_nonneg q.2.2.1]
theorem s_lcm {a b : Nat} {M : Mp} {Q : QD} (ha : a < 2 ^ 30) (hb : b < 2 ^ 30) (h : Q (.int ((Nat.lcm a b : Nat) : Int)) M) : dLcm [.int a, .int b] M Q := by
  refine ⟨by omega, by omega, by omega, by omega, ?_⟩
  rw [Int.toNat_natCast, Int.toNat_natCast]
  exact h
end DL

/-! DL: lambdas with parameters, handed to a def, called there by a name -/
namespace DL
open PySem PySem.Spec PyProof.Rows L2 LamX NdefX

/-! ### objects known exactly -/
def PinO (a : Addr) (o : Obj) : HO := .ext fun h => h.get? a = some o
theorem pinO_at {P : Program} {w : World} {H : Hp} {h : Heap} {a : Addr} {o : Obj} (hok : HOk P w H h) (e : H a = some (PinO a o)) : h.get? a = some o := (hok a _ e).1
theorem pinO_ok {P : Program} {w : World} {H : Hp} {h : Heap} {a : Addr} {o : Obj} (e : h.get? a = some o) : ObjOk P w H h a (PinO a o) := ⟨e, ⟨o, e⟩, fun h1 h2 e1 st => st _ e1⟩
theorem pinO_inj {a : Addr} {o o' : Obj} {P : Program} {w : World} {H : Hp} {h : Heap} (hok : HOk P w H h) (e : H a = some (PinO a o)) (e2 : h.get? a = some o') : o = o' := by
  have := pinO_at hok e
  rw [e2] at this
  exact (Option.some.inj this).symm
/-! ### the making -/
section
variable {X : Cx} {pins : List (Addr × Obj)} {σ : L2.St} {H : Hp} {s : Shared}
theorem inv_pin {o : Obj} {t' : Nat} (I : Inv X pins σ H s) (hz : o.isFreed = false := by rfl) : Inv X pins σ (upd H s.heap.objs.size (PinO s.heap.objs.size o)) { s with heap := s.heap.push o, toks := t' } :=
  I.laid (a := s.heap.objs.size) (fun b u e => Heap.get?_push_of_some _ e) (Nat.le_refl _) (pinO_ok (Heap.get?_push_size _ hz))
/-- the lambda is made: its code object is new, or found in the table; the function object is known from then on -/
theorem lam_make3 {q : Str} {c P : Addr} {params : Arguments} {body : Expr} {scope : Scope} {pos : Pos} {E : Value → Shared → Prop} {Q : Value → Shared → Prop} (I : Inv X pins σ H s) (TB : TabB X.base X.mg c P) (hcode : X.env.code = .ref c)
    (hq : X.env.qual ++ "<lambda>" = q) (hT : TabS H P q) (hdef : defaultsOf params X.env = ([], [])) (hfree : ∀ y ∈ scope.names, y.2 = .free → ∃ c, X.env.cells.lookup y.1 = some c)
    (h : ∀ (f c' : Addr) (pm ctv : Value) (H1 : Hp) (s' : Shared), Inv X pins σ H1 s' → (∀ b o, b ≠ P → H b = some o → H1 b = some o) → TabS H1 P q → H f = none → f ≠ c' → f ≠ P → 
      H1 f = some (PinO f (PySem.W.kla_obj "<lambda>" q params body scope (cloFrom X.env.cells scope.names []) pm c' ctv)) → H1 c' = some (CodeO c' q) → Q (.ref f) s') :
    wpAny (model X.prog X.w) X.A (eval (.Lambda params body scope pos) X.env) Q E s := by
  subst hq
  obtain ⟨ps, hP, ht, ha⟩ := hT
  refine PySem.W.kla_eval hdef ?_
  have bP : s.heap.BuiltinsAt X.mg P := TB.bm.keeps I.bk
  have hP' : s.heap.get? P = some { cls := .none, data := .fields ps } := I.hok P _ hP
  cases hc : codeAmong pos ps.toList with
  | none =>
    refine PySem.W.kla_makeFunction (mg := X.mg) (c := c) (P := P) (ps := ps) (closure_ok hfree) I.ok.glob (I.mod.glob.keeps I.bk) hcode (TB.code.keeps I.bk) hP' ht hc TB.gP bP fun c' ctv h' tk hx hge hlt hrec htb => ?_
    obtain ⟨c2, oc, vs, t, e2, hoc, hd, hv⟩ := hrec
    cases e2
    have nC : H c' = none := I.hok.fresh hge
    have I1 := inv_table (t' := tk) (more := #[rawInt pos.line, rawInt pos.col, .ref c']) (h' := h') I hP (fun b o hb e => hx b o hb e) htb hge ⟨oc, vs, t, hoc, hd, hv⟩
    have hE : ∀ b o, b ≠ P → H b = some o → upd (upd H P (.tbl (ps ++ #[rawInt pos.line, rawInt pos.col, .ref c']))) c' (CodeO c' (X.env.qual ++ "<lambda>")) b = some o := fun b o n e => by
      rw [upd_ne (ne_of_none e nC), upd_ne n]
      exact e
    have eL : (ps ++ #[rawInt pos.line, rawInt pos.col, .ref c']).toList = ps.toList ++ [rawInt pos.line, rawInt pos.col, .ref c'] := by simp
    have T1 : TabS (upd (upd H P (.tbl (ps ++ #[rawInt pos.line, rawInt pos.col, .ref c']))) c' (CodeO c' (X.env.qual ++ "<lambda>"))) P (X.env.qual ++ "<lambda>") := by
      refine ⟨_, by rw [upd_ne (ne_of_none hP nC), upd_same], by rw [eL]; exact PySem.TriplesOk_snoc _ _ _ _ ht, fun p' cv hcv => ?_⟩
      rw [eL] at hcv
      rcases among_app _ ht hcv with z | z
      · obtain ⟨c0, e1, e2⟩ := ha p' cv z
        exact ⟨c0, e1, hE _ _ (ne_of e2 hP (codeO_ne _)) e2⟩
      · exact ⟨c', z, upd_same⟩
    have I2 := inv_pin (t' := tk) (o := PySem.W.kla_obj "<lambda>" (X.env.qual ++ "<lambda>") params body scope (cloFrom X.env.cells scope.names []) ((X.mg "__name__").getD .none) c' ctv) I1
    have nF := I1.hok.fresh (Nat.le_refl h'.objs.size)
    have fc : h'.objs.size ≠ c' := Nat.ne_of_gt hlt
    have fP : h'.objs.size ≠ P := fun z => by
      have : H P = none := by rw [← z]; exact I.hok.fresh (Nat.le_trans hge (Nat.le_of_lt hlt))
      rw [hP] at this; cases this
    refine h h'.objs.size c' ((X.mg "__name__").getD .none) ctv _ _ I2 (fun b o n e => ?_) (T1.ext fun b o e => ?_) (I.hok.fresh (Nat.le_trans hge (Nat.le_of_lt hlt))) fc fP upd_same ?_
    · have e1 := hE b o n e
      exact (upd_ne (ne_of_none e1 nF)).trans e1
    · exact (upd_ne (ne_of_none e nF)).trans e
    · exact (upd_ne (Ne.symm fc)).trans upd_same
  | some cv =>
    obtain ⟨c', e, hco⟩ := ha pos cv hc
    subst e
    refine PySem.W.kla_makeFunctionHit (mg := X.mg) (c := c) (P := P) (ps := ps) (closure_ok hfree) I.ok.glob (I.mod.glob.keeps I.bk) hcode (TB.code.keeps I.bk) hP' ht hc bP fun ctv h' tk hx hsz => ?_
    have I1 : Inv X pins σ H { s with heap := h', toks := tk } := I.kept hx
    have nF : H h'.objs.size = none := I1.hok.fresh (Nat.le_refl _)
    have I2 := inv_pin (t' := tk) (o := PySem.W.kla_obj "<lambda>" (X.env.qual ++ "<lambda>") params body scope (cloFrom X.env.cells scope.names []) ((X.mg "__name__").getD .none) c' ctv) I1
    have T0 : TabS H P (X.env.qual ++ "<lambda>") := ⟨ps, hP, ht, ha⟩
    refine h h'.objs.size c' ((X.mg "__name__").getD .none) ctv _ _ I2 (fun b o n e => ?_) (T0.ext fun b o e => ?_) nF (Ne.symm (ne_of_none hco nF)) (Ne.symm (ne_of_none hP nF)) upd_same ?_
    · exact (upd_ne (ne_of_none e nF)).trans e
    · exact (upd_ne (ne_of_none e nF)).trans e
    · exact (upd_ne (ne_of_none hco nF)).trans hco
end

theorem RepO.raw {K : PySem.W.Frag} {F : Hp} {o u : HO} (h : RepO K F o (.raw u)) : o = u := by
  cases o <;> exact h
/-! ### what a function at hand promises -/
structure Ct where
  P : Program
  w : World
  K : PySem.W.Frag
  mg : Str → Option Value
  base : Heap
  T : List (Addr × Str)
def FnSem (C : Ct) (k : Nat) (f : Addr) (G : Hp) (deps : List (Addr × HO)) (sp : SpD) : Prop :=
  ∀ (A : Around) (outer : List Env) (s : Shared) (H F R : Hp) (M : Mp) (ds : List D) (us : List Value) (vs : List V) (Q' : QD) (Q : VK),
    Room k A → Env0 C.P C.w C.K C.mg C.base A outer s H → Stt C.K F R H M → TabR C.T R → Ext G F → (∀ p ∈ deps, M p.1 = some (.raw p.2)) → RepAll C.K F vs ds → Vals vs us → sp ds M Q' E0D → KE C.K F R Q' Q →
    codeAny (model C.P C.w) A (.call (.ref f) ⟨us, []⟩) (CR CX0 outer C.P C.w H s Q fun _ _ _ => False) s
/-- in M, d is a function that keeps sp -/
def HasFn (C : Ct) (k : Nat) (M : Mp) (d : D) (sp : SpD) : Prop := match d with
  | .fn f G => ∃ deps : List (Addr × HO), (∃ oc od fd sl, (f, PinO f ⟨oc, od, .func fd, sl⟩) ∈ deps ∨ C.K.lookup f = some ⟨oc, od, .func fd, sl⟩) ∧ (∀ p ∈ deps, M p.1 = some (.raw p.2)) ∧ FnSem C k f G deps sp
  | _ => False
theorem HasFn.imp {C : Ct} {k : Nat} {M : Mp} {d : D} {sp sp' : SpD} (h : HasFn C k M d sp) (e : ∀ ds M Q E, sp' ds M Q E → sp ds M Q E) : HasFn C k M d sp' := by
  cases d with
  | fn f G =>
    obtain ⟨deps, h1, h2, h3⟩ := h
    exact ⟨deps, h1, h2, fun A outer s H F R M ds us vs Q' Q a b c t g dd ra r q kq => h3 A outer s H F R M ds us vs Q' Q a b c t g dd ra r (e _ _ _ _ q) kq⟩
  | _ => exact h
theorem HasFn.more {C : Ct} {k : Nat} {M M' : Mp} {d : D} {sp : SpD} (h : HasFn C k M d sp) (e : ∀ a o, M a = some (.raw o) → M' a = some (.raw o)) : HasFn C k M' d sp := by
  cases d with
  | fn f G =>
    obtain ⟨deps, h1, h2, h3⟩ := h
    exact ⟨deps, h1, fun p hp => e _ _ (h2 p hp), h3⟩
  | _ => exact h
/-- another thing is new, or is changed -/
theorem HasFn.upd {C : Ct} {k : Nat} {M : Mp} {d : D} {sp : SpD} {p : Addr} {m : MO} (h : HasFn C k M d sp) (hp : ∀ o, M p ≠ some (.raw o)) : HasFn C k (updM M p m) d sp :=
  h.more fun a o e => by rw [updM_ne (fun z => by subst z; exact hp o e)]; exact e
def dCallV (C : Ct) (k i : Nat) (t : DA) : DE := fun τ M Q => ∃ d sp, τ[i]? = some (some d) ∧ HasFn C k M d sp ∧ t τ M fun ds M1 => HasFn C k M1 d sp ∧ sp ds M1 Q E0D
abbrev ctOf (X : Cx) (F0 : Bs) : Ct := ⟨X.prog, X.w, X.K, X.mg, X.base, F0.T⟩
section
variable {X : Cx} {F0 : Bs} {i k : Nat} {x : Str} {p pos : Pos} {e : Expr} {es : List Expr} {t : DA}
theorem hasFn_at {F R H : Hp} {M : Mp} {s : Shared} {pins : List (Addr × Obj)} {σ : L2.St} {k : Nat} {f : Addr} {G : Hp} {sp : SpD} (I : Inv X pins σ H s) (st : Stt X.K F R H M) (h : HasFn (ctOf X F0) k M (.fn f G) sp) : PySem.W.FnAt f s.heap := by
  obtain ⟨deps, ⟨oc, od, fd, sl, h1⟩, h2, _⟩ := h
  rcases h1 with h1 | h1
  · obtain ⟨_, o, ho, ro⟩ := st.ow _ _ (h2 _ h1)
    have e : o = PinO f ⟨oc, od, .func fd, sl⟩ := ro.raw
    subst e
    exact ⟨oc, od, fd, sl, pinO_at I.hok ho⟩
  · exact ⟨oc, od, fd, sl, I.kIn _ _ h1⟩
theorem pd_callV (hr : Room k X.A) (hN : X.N[i]? = some x) (hv : Vis X.env.scope x) (ha : PA X (e :: es) (liA X.K F0 t)) (hd : (x == ("__debug__" : Str)) = false := by decide) (hcd : (x == ("__classdict__" : Str)) = false := by decide)
    (he : starEach (e :: es) X.env = (false, eval e X.env) :: starEach es X.env := by rfl) (hpl : (backTo pos (starEach es X.env)).any (·.1) = false := by rfl) :
    PE X (.Call (.Name x p) (e :: es) [] pos) (liE X.K F0 (dCallV (ctOf X F0) k i t)) := by
  refine ⟨fun pins s σ H Q I ⟨F, R, τ, M, Q', e0, st, sl, ⟨d, sp, hs, hf, ht⟩, kq⟩ => ?_⟩
  obtain ⟨v, hσ, rv⟩ := sl.get hs
  cases d with
  | fn f G =>
    cases rv with
    | fn eG =>
      refine wpAny_Call_Name_kw (thn ((pe_var (pos := p) hN hv hd hcd).run pins s σ H (fun v H1 => v = .ref f ∧ H1 = H) I ⟨.ref f, hσ, rfl, rfl⟩) fun u s1 ⟨v, H1, I1, r1, q1⟩ => ?_)
      obtain ⟨ev, eH⟩ := q1
      subst ev
      rw [eH] at I1
      obtain rfl : u = Value.ref f := r1
      refine PySem.W.callWith_F (first := []) (hasFn_at I1 st hf) (thn (ha.run pos pins s1 σ H (fun vs H2 => ∃ F2 ds M2, Ext F F2 ∧ Stt X.K F2 R H2 M2 ∧ RepAll X.K F2 vs ds ∧ HasFn (ctOf X F0) k M2 (.fn f G) sp ∧ sp ds M2 Q' E0D) I1
        ⟨F, R, τ, M, _, e0, st, sl, ht, fun vs H2 F2 ds M2 e2 st2 r2 ⟨q1, q2⟩ => ⟨F2, ds, M2, e2, st2, r2, q1, q2⟩⟩) fun us s2 ⟨vs, H2, I2, r, F2, ds, M2, e2, st2, r2, q1, q2⟩ => ⟨hasFn_at I2 st2 q1, ?_⟩) he hpl
      show wpAny _ _ (call (.ref f) us) _ _ _
      obtain ⟨deps, _, h2, h3⟩ := q1
      refine wpAny_call (codeAny_mono (h3 X.A X.stack s2 H2 F2 R M2 ds us vs Q' Q hr I2.env0 st2 e0.t (eG.trans e2) h2 r2 r q2 (kq.ext e2)) fun r s' hq => ?_)
      cases r with
      | error e => exact False.elim hq
      | ok fl =>
        cases fl with
        | ret u => exact I2.after hq
        | next => exact False.elim hq
        | brk => exact False.elim hq
        | cont => exact False.elim hq
  | _ => exact False.elim hf
end
end DL

namespace DL
open PySem PySem.Spec PyProof.Rows L2 LamX NdefX
/-! ### a lambda keeps what its body's reading says -/
/-- what stands in M as data stands in M' -/
def AgreeL (M M' : Mp) : Prop := ∀ a m, M a = some m → (∀ o, m ≠ .raw o) → M' a = some m
/-- the body's reading at its names: the parameters, then what was captured -/
def spL (tb : DE) (n : Nat) (ws : List D) : SpD := fun ds M Q _ => ds.length = n ∧ ∃ P : D → Prop, (∀ M', AgreeL M M' → tb (ds.map some ++ ws.map some) M' fun d M2 => M2 = M' ∧ P d) ∧ ∀ d, P d → Q d M
abbrev lamF (q : Str) (params : Arguments) (scope : Scope) (cl : List (Str × Addr)) (c' : Addr) : NF := ⟨"<lambda>", q, params, [], scope, cl, c'⟩
theorem RsOk.imp {H H' : Hp} {a : Addr} {o : HO} (h : RsOk H a o) (k : ∀ u, H a = some u → H' a = some u) (kc : ∀ c q, H c = some (CodeO c q) → H' c = some (CodeO c q)) : RsOk H' a o := by
  cases o with
  | xd fs =>
    obtain ⟨q, e, ps, h1, h2, h3⟩ := h
    refine ⟨q, e, ps, k _ h1, h2, fun pos cv hc => ?_⟩
    obtain ⟨c, e1, e2⟩ := h3 pos cv hc
    exact ⟨c, e1, kc _ _ e2⟩
  | _ => exact k _ h
theorem slots_all {K : PySem.W.Frag} {F : Hp} : ∀ {vs : List V} {ds : List D}, RepAll K F vs ds → Slots K F (vs.map some) (ds.map some)
  | _, _, .nil => .nil
  | _, _, .cons r t => .cons r (slots_all t)
theorem Slots.app {K : PySem.W.Frag} {F : Hp} : ∀ {σ σ' : L2.St} {τ τ' : SD}, Slots K F σ τ → Slots K F σ' τ' → Slots K F (σ ++ σ') (τ ++ τ')
  | _, _, _, _, .nil, h => h
  | _, _, _, _, .cons r t, h => .cons r (Slots.app t h)
/-- a cell's object is no code object -/
theorem cell_code {P : Program} {w : World} {H : Hp} {h : Heap} {c : Addr} {q : Str} {o : Obj} {v : Option Value} (hok : HOk P w H h) (e : H c = some (CodeO c q)) (ho : h.get? c = some o) (hd : o.data = .cell v) : False := by
  obtain ⟨⟨oc, vs, t, h1, h2, _⟩, _⟩ := hok c _ e
  rw [ho] at h1
  cases h1
  rw [hd] at h2; cases h2
theorem lam_sem {C : Ct} {k : Nat} {params : Arguments} {body : Expr} {scope : Scope} {q : Str} {pm ctv : Value} {c' f : Addr} {cl : List (Str × Addr)} {N ps fr : List Str} {G : Hp} {tb : DE} {ws : List D} {wv : List V} {cs : List Addr} {ob : Addr → Obj}
    (S : NScope N ps fr scope) (hN : N.length = ps.length + fr.length)
    (hbind : ∀ us : List Value, us.length = ps.length → bindArgs (PySem.W.kla_fn "<lambda>" q params body scope cl pm (.ref c') ctv) ⟨us, []⟩ = pure (ps.zip us))
    (hbody : ∀ (A : Around) (outer : List Env) (s : Shared) (H F0 R0 : Hp), Room k (A.deeper (envF (lamF q params scope cl c') f s.heap.objs.size)) → PE (ncx CX0 C.P C.w C.K C.mg C.base N (lamF q params scope cl c') f A outer s H E0).nox body (liE C.K ⟨F0, R0, C.T⟩ tb))
    (hin : ∀ y c, cl.lookup y = some c → c ∈ cs) (hcell : ∀ c ∈ cs, ∃ v, (ob c).data = .cell v) (inj : ∀ x y c, cl.lookup x = some c → cl.lookup y = some c → x = y)
    (hval : ∀ (i : Nat) (y : Str), fr[i]? = some y → ∃ c, cl.lookup y = some c ∧ ∀ v, wv[i]? = some v → ∃ u, L2.RelV v u ∧ (ob c).data = .cell (some u))
    (hwl : wv.length = fr.length) (rep : RepAll C.K G wv ws) :
    FnSem C (k + 1) f G ((f, PinO f (PySem.W.kla_obj "<lambda>" q params body scope cl pm c' ctv)) :: (c', CodeO c' q) :: cs.map fun c => (c, PinO c (ob c))) (spL tb ps.length ws) := by
  intro A outer s H F R M ds us vs Q' Q hr e0 st tr eG hd ra r hsp kq
  obtain ⟨hl, P, hP, hQ⟩ := hsp
  have at_ : ∀ p ∈ ((f, PinO f (PySem.W.kla_obj "<lambda>" q params body scope cl pm c' ctv)) :: (c', CodeO c' q) :: cs.map fun c => (c, PinO c (ob c))), F p.1 = none ∧ H p.1 = some p.2 := fun p hp => by
    obtain ⟨h1, o, h2, h3⟩ := st.ow _ _ (hd p hp)
    exact ⟨h1, by rw [h2, h3.raw]⟩
  have Hf := (at_ _ List.mem_cons_self).2
  have Hc := (at_ _ (List.mem_cons_of_mem _ List.mem_cons_self)).2
  have Hcs : ∀ c ∈ cs, F c = none ∧ H c = some (PinO c (ob c)) ∧ M c = some (.raw (PinO c (ob c))) := fun c hc => by
    have hm : (c, PinO c (ob c)) ∈ ((f, PinO f (PySem.W.kla_obj "<lambda>" q params body scope cl pm c' ctv)) :: (c', CodeO c' q) :: cs.map fun c => (c, PinO c (ob c))) := List.mem_cons_of_mem _ (List.mem_cons_of_mem _ (List.mem_map.mpr ⟨c, hc, rfl⟩))
    exact ⟨(at_ _ hm).1, (at_ _ hm).2, hd _ hm⟩
  have hob : ∀ c ∈ cs, s.heap.get? c = some (ob c) := fun c hc => pinO_at e0.hok (Hcs c hc).2.1
  have ncode : ∀ c ∈ cs, ∀ q, H c ≠ some (CodeO c q) := fun c hc q z => by
    obtain ⟨v, hv⟩ := hcell c hc
    exact cell_code e0.hok z (hob c hc) hv
  have hext : ∀ c ∈ cs, ∀ u, H c = some u → ¬ NX u := fun c hc u e => by
    rw [(Hcs c hc).2.1] at e
    cases e
    exact id
  -- the cells are let go
  let H0 : Hp := fun b => if b ∈ cs then none else H b
  let M0 : Mp := fun b => if b ∈ cs then none else M b
  have H0n : ∀ b, b ∈ cs → H0 b = none := fun b h => if_pos h
  have H0s : ∀ b, b ∉ cs → H0 b = H b := fun b h => if_neg h
  have M0n : ∀ b, b ∈ cs → M0 b = none := fun b h => if_pos h
  have M0s : ∀ b, b ∉ cs → M0 b = M b := fun b h => if_neg h
  have H0sub : ∀ b u, H0 b = some u → b ∉ cs ∧ H b = some u := fun b u e => by
    by_cases hb : b ∈ cs
    · rw [H0n b hb] at e; cases e
    · exact ⟨hb, by rw [← H0s b hb]; exact e⟩
  have H0nx : ∀ b u, H b = some u → NX u → H0 b = some u := fun b u e n => by
    by_cases hb : b ∈ cs
    · exact absurd n (hext b hb u e)
    · rw [H0s b hb]; exact e
  have hok0 : HOk C.P C.w H0 s.heap := fun b u e => by
    obtain ⟨hb, e1⟩ := H0sub b u e
    exact (e0.hok b u e1).stay (fun c v _ z => z) (fun c z => H0nx c _ z trivial) fun c xs z => H0nx c _ z trivial
  have e00 : Env0 C.P C.w C.K C.mg C.base A outer s H0 := ⟨e0.frames, e0.mod, fun b o e => ⟨(e0.bs b o e).1, by
    by_cases hb : b ∈ cs
    · exact H0n b hb
    · rw [H0s b hb]; exact (e0.bs b o e).2⟩, e0.bsz, e0.funs, fun b hb => by
    by_cases hb2 : b ∈ cs
    · exact H0n b hb2
    · rw [H0s b hb2]; exact e0.frf b hb, hok0, e0.bare⟩
  have nfr : ∀ c ∈ cs, c ∉ frs outer := fun c hc z => by
    have := e0.frf c z
    rw [(Hcs c hc).2.1] at this; cases this
  have st0 : Stt C.K F R H0 M0 := by
    refine ⟨fun a o e => ?_, fun a o e => ?_, fun a m e => ?_, st.nf, st.nr⟩
    · have : a ∉ cs := fun z => by rw [(Hcs a z).1] at e; cases e
      rw [H0s a this]; exact st.fz a o e
    · obtain ⟨h1, h2, h3⟩ := st.rs a o e
      have na : a ∉ cs := fun z => by rw [(Hcs a z).2.2] at h3; cases h3
      refine ⟨h1.imp (fun u eu => by rw [H0s a na]; exact eu) (fun c q ec => ?_), h2, by rw [M0s a na]; exact h3⟩
      by_cases hc : c ∈ cs
      · exact absurd ec (ncode c hc q)
      · rw [H0s c hc]; exact ec
    · by_cases ha : a ∈ cs
      · rw [M0n a ha] at e; cases e
      · rw [M0s a ha] at e
        obtain ⟨h1, o, h2, h3⟩ := st.ow a m e
        exact ⟨h1, o, by rw [H0s a ha]; exact h2, h3⟩
  have agree : AgreeL M M0 := fun a m e n => by
    by_cases ha : a ∈ cs
    · rw [(Hcs a ha).2.2] at e
      cases e
      exact absurd rfl (n _)
    · rw [M0s a ha]; exact e
  have lim : s.heap.NoLimit := e0.mod.nolimit.keeps fun b o e => (e0.bs b o e).1
  have hvl : vs.length = ps.length := by rw [ra.len]; exact hl
  have CA : CellsAt cl fr (wv.map some) s.heap H0 := ⟨by rw [List.length_map]; exact hwl, fun y c e => ⟨H0n c (hin y c e), by
    obtain ⟨v, hv⟩ := hcell c (hin y c e)
    exact ⟨v, ob c, hob c (hin y c e), hv⟩⟩, inj, fun i y e => by
    obtain ⟨c, hc, hv⟩ := hval i y e
    refine ⟨c, hc, fun v ev => ?_⟩
    have ev : wv[i]? = some v := by
      rw [List.getElem?_map] at ev
      cases ew : wv[i]? with
      | none => rw [ew] at ev; cases ev
      | some z => rw [ew] at ev; cases ev; rfl
    obtain ⟨u, ru, hu⟩ := hv v ev
    exact ⟨u, ru, ob c, hob c (hin y c hc), hu⟩⟩
  refine PySem.W.kla_callFunE hr.depth (pinO_at e0.hok Hf) rfl S.co S.gen rfl (codeO_at e0.hok Hc) ?_
  rw [hbind us (by rw [← r.length]; exact hvl)]
  refine wpAny_pure (wpAny_newFunctionEnv S.nocell (fun ⟨n, _⟩ hy => S.par n (List.of_mem_zip hy).1) (fun h₁ hns hsb => ⟨lim.fresh _ hsb, ?_⟩) S.kind)
  show codeAny _ _ (.expr body (envF (lamF q params scope cl c') f s.heap.objs.size)) _ _
  have kp : ∀ b o, s.heap.get? b = some o → h₁.get? b = some o := fun b o e => hsb.extBut b o (Nat.ne_of_lt (Heap.lt_size e)) (Heap.get?_push_of_some _ e)
  have J : Inv (ncx CX0 C.P C.w C.K C.mg C.base N (lamF q params scope cl c') f A outer s H0 E0) [] (startF N vs (wv.map some)) H0 { s with heap := h₁, toks := s.toks + (ps.zip us).length } := inv_startN S hr.hd e00 hvl r CA hns kp
  have sl : Slots C.K F (startF N vs (wv.map some)) (ds.map some ++ ws.map some) := by
    unfold startF
    rw [List.length_map, hwl, hvl, hN, show ps.length + fr.length - ps.length - fr.length = 0 by omega, List.replicate_zero, List.append_nil]
    exact (slots_all ra).app (slots_all (rep.ext eG))
  refine PySem.W.kla_codeExpr (wpAny_mono ((hbody A outer s H0 F R (hr.deeper _)).run [] _ _ H0 (fun v H2 => ∃ F2 d, Ext F F2 ∧ Stt C.K F2 R H2 M0 ∧ Rep C.K F2 v d ∧ P d) (J.wish _)
    ⟨F, R, _, M0, _, ⟨Ext.refl, Ext.refl, tr⟩, st0, sl, hP M0 agree, fun v H2 F2 d M2 e2 st2 r2 ⟨eM, pd⟩ => by subst eM; exact ⟨F2, d, e2, st2, r2, pd⟩⟩) (fun v s' hq => ?_) fun e s' hq => False.elim hq)
  obtain ⟨w', H', J', rv, F2, d, e2, st2, r2, pd⟩ := hq
  have J' := J'.unwish
  -- the cells are known again
  have un := J'.base
  have Hn : ∀ c ∈ cs, H' c = none := fun c hc => un.free c (ob c) (hob c hc) (H0n c hc) (by simp [ncx])
  have obk : ∀ c ∈ cs, s'.heap.get? c = some (ob c) := fun c hc => un.keep c (ob c) (hob c hc) (H0n c hc) (nfr c hc) (by simp [ncx])
  let H2 : Hp := fun b => if b ∈ cs then H b else H' b
  have H2n : ∀ b, b ∈ cs → H2 b = H b := fun b h => if_pos h
  have H2s : ∀ b, b ∉ cs → H2 b = H' b := fun b h => if_neg h
  have H2of : ∀ b u, H' b = some u → H2 b = some u := fun b u e => by
    have : b ∉ cs := fun z => by rw [Hn b z] at e; cases e
    rw [H2s b this]; exact e
  have old : ∀ b u, H b = some u → NX u → b ∉ cs ∧ H0 b = some u := fun b u e n => by
    have hb : b ∉ cs := fun z => hext b z u e n
    exact ⟨hb, by rw [H0s b hb]; exact e⟩
  have H0of : ∀ b, H b = none → H0 b = none := fun b e => by
    by_cases hb : b ∈ cs
    · exact H0n b hb
    · rw [H0s b hb]; exact e
  have ncs : ∀ b, H b = none → b ∉ cs := fun b e z => by rw [(Hcs b z).2.1] at e; cases e
  refine ⟨w', H2, J'.os, J'.bare, ⟨fun b o e n hf hx => un.keep b o e (H0of b n) hf (by simp [ncx]), fun b o e n hf hx => un.slot b o e (H0of b n) hf (by simp [ncx]), fun b o e n hx => by
      rw [H2s b (ncs b n)]; exact un.free b o e (H0of b n) (by simp [ncx]), fun b o e hx => un.there b o e (by simp [ncx]), fun b xs e => H2of _ _ (un.tups b xs (old b _ e trivial).2), fun b o u e => H2of _ _ (un.frzs b o u (old b _ e trivial).2), fun b ps e => by
      obtain ⟨more, z⟩ := un.tbls b ps (old b _ e trivial).2
      exact ⟨more, H2of _ _ z⟩⟩, ?_, rv, ?_⟩
  · intro b u e
    by_cases hb : b ∈ cs
    · rw [H2n b hb, (Hcs b hb).2.1] at e
      cases e
      exact pinO_ok (obk b hb)
    · rw [H2s b hb] at e
      exact (J'.hok b u e).stay (fun c v _ z => z) (fun c z => H2of _ _ z) fun c xs z => H2of _ _ z
  · refine kq w' H2 F2 d M e2 ?_ r2 (hQ d pd)
    refine ⟨fun a o e => H2of _ _ (st2.fz a o e), fun a o e => ?_, fun a m e => ?_, st2.nf, st2.nr⟩
    · obtain ⟨h1, h2, h3⟩ := st2.rs a o e
      exact ⟨h1.imp (fun u eu => H2of _ _ eu) fun c q ec => H2of _ _ ec, h2, (st.rs a o e).2.2⟩
    · by_cases ha : a ∈ cs
      · rw [(Hcs a ha).2.2] at e
        cases e
        refine ⟨?_, PinO a (ob a), by rw [H2n a ha]; exact (Hcs a ha).2.1, (show RepO C.K F2 (PinO a (ob a)) (.raw (PinO a (ob a))) from rfl)⟩
        cases ef : F2 a with
        | none => rfl
        | some o =>
          have := st2.fz a o ef
          rw [Hn a ha] at this; cases this
      · obtain ⟨h1, o, h2, h3⟩ := st2.ow a m (by rw [M0s a ha]; exact e)
        exact ⟨h1, o, H2of _ _ h2, h3⟩
end DL

namespace DL
open PySem PySem.Spec PyProof.Rows L2 LamX NdefX
/-- more things of the free kind are known -/
def MoreRaw (M M' : Mp) : Prop := (∀ a m, M a = some m → M' a = some m) ∧ ∀ a m, M' a = some m → M a = some m ∨ ∃ o, m = .raw o
theorem MoreRaw.trans {M M1 M2 : Mp} (h : MoreRaw M M1) (g : MoreRaw M1 M2) : MoreRaw M M2 := ⟨fun a m e => g.1 a m (h.1 a m e), fun a m e => (g.2 a m e).elim (fun z => h.2 a m z) .inr⟩
/-- g(e1, lambda ..: body, e3) -/
def dCallL (C : Ct) (k : Nat) (js : List Nat) (n : Nat) (tb : DE) (sp : SpD) (t1 t3 : DE) : DE := fun τ M Q => t1 τ M fun d1 M1 => ∃ ws : List D, js.map (fun j => τ[j]?) = ws.map (fun d => some (some d)) ∧
  ∀ M2, MoreRaw M1 M2 → t3 τ M2 fun d3 M3 => M3 = M2 ∧ ∀ d Mf, MoreRaw M2 Mf → HasFn C k Mf d (spL tb n ws) → sp [d1, d, d3] Mf (fun r M4 => M4 = Mf ∧ Q r M1) E0D
theorem caps_get {K : PySem.W.Frag} {F : Hp} {σ : L2.St} {τ : SD} (sl : Slots K F σ τ) : ∀ {js : List Nat} {ws : List D}, js.map (fun j => τ[j]?) = ws.map (fun d => some (some d)) → ∃ wv : List V, js.map (slotAt σ) = wv.map some ∧ RepAll K F wv ws
  | [], [], _ => ⟨[], rfl, .nil⟩
  | [], _ :: _, e => by cases e
  | _ :: _, [], e => by cases e
  | j :: js, w :: ws, e => by
    rw [List.map_cons, List.map_cons] at e
    have e1 := (List.cons.inj e).1
    have e2 := (List.cons.inj e).2
    obtain ⟨v, hv, rv⟩ := sl.get e1
    obtain ⟨wv, h1, h2⟩ := caps_get sl e2
    exact ⟨v :: wv, by rw [List.map_cons, List.map_cons, h1, slotAt_of hv], .cons rv h2⟩
section
variable {X : Cx} {F0 : Bs} {kf kb : Nat} {g c P : Addr} {gfd : FuncData} {psg ps fr N : List Str} {gx q : Str} {sp : SpD} {t1 t3 tb : DE} {js : List Nat} {params : Arguments} {body e1 e3 : Expr} {scope : Scope} {p lpos pos : Pos}
theorem pd_callL (Fg : FnOk X.prog X.w X.K X.mg X.base CX0 kf g gfd psg (liSp X.K F0.T sp)) (hr : Room kf X.A) (hg : Gl X gx) (hm : X.mg gx = some (.ref g)) (hk : PySem.W.keepIn X.K (.ref g) = true) (hb : Binds X.K gfd psg [])
    (TB : TabB X.base X.mg c P) (hcode : X.env.code = .ref c) (hT : (P, q) ∈ F0.T) (hq : X.env.qual ++ "<lambda>" = q) (h1 : PE X e1 (liE X.K F0 t1)) (h3 : PE X e3 (liE X.K F0 t3))
    (hdef : defaultsOf params X.env = ([], [])) (hfn : ∀ x, X.fn x = true) (hsc : ndefB X.env.scope scope fr = true) (S : NScope N ps fr scope) (hN : N.length = ps.length + fr.length) (hjs : js.map (fun j => X.N[j]?) = fr.map some)
    (hbind : ∀ (cl : List (Str × Addr)) (pm cv ctv : Value) (us : List Value), us.length = ps.length → bindArgs (PySem.W.kla_fn "<lambda>" q params body scope cl pm cv ctv) ⟨us, []⟩ = pure (ps.zip us))
    (hbody : ∀ (f c' : Addr) (cl : List (Str × Addr)) (A : Around) (outer : List Env) (s : Shared) (H F0' R0' : Hp), Room kb (A.deeper (envF (lamF q params scope cl c') f s.heap.objs.size)) →
      PE (ncx CX0 X.prog X.w X.K X.mg X.base N (lamF q params scope cl c') f A outer s H E0).nox body (liE X.K ⟨F0', R0', F0.T⟩ tb))
    (hdb : (gx == ("__debug__" : Str)) = false := by decide) (he : starEach [e1, .Lambda params body scope lpos, e3] X.env = [(false, eval e1 X.env), (false, eval (.Lambda params body scope lpos) X.env), (false, eval e3 X.env)] := by rfl) (he1 : starEach [.Lambda params body scope lpos, e3] X.env = [(false, eval (.Lambda params body scope lpos) X.env), (false, eval e3 X.env)] := by rfl) :
    PE X (.Call (.Name gx p) [e1, .Lambda params body scope lpos, e3] [] pos) (liE X.K F0 (dCallL (ctOf X F0) (kb + 1) js ps.length tb sp t1 t3)) := by
  refine ⟨fun pins s σ H Q I ⟨F, R, τ, M, Q', e0, st, sl, ht, kq⟩ => ?_⟩
  refine wpAny_Call_Name_kw (ld_glob I hg hm ?_ hdb)
  refine PySem.W.callWith_K (h₀ := X.base) I.ok.mod.kin hk ?_ (by rw [he, he1]) (by rw [he1]; rfl)
  rw [he]
  show wpAny _ _ (spliced [(false, eval e1 X.env), (false, eval (.Lambda params body scope lpos) X.env), (false, eval e3 X.env)]) _ _ s
  refine Calls.spliced_cons (thn (h1.run pins s σ H (fun v H1 => ∃ F1 d1 M1, Ext F F1 ∧ Stt X.K F1 R H1 M1 ∧ Rep X.K F1 v d1 ∧ ∃ ws : List D, js.map (fun j => τ[j]?) = ws.map (fun d => some (some d)) ∧
    ∀ M2, MoreRaw M1 M2 → t3 τ M2 fun d3 M3 => M3 = M2 ∧ ∀ d Mf, MoreRaw M2 Mf → HasFn (ctOf X F0) (kb + 1) Mf d (spL tb ps.length ws) → sp [d1, d, d3] Mf (fun r M4 => M4 = Mf ∧ Q' r M1) E0D) I
    ⟨F, R, τ, M, _, e0, st, sl, ht, fun v H2 F2 d M2 e2 st2 r2 q2 => ⟨F2, d, M2, e2, st2, r2, q2⟩⟩) fun u1 s1 ⟨v1, H1, I1, rl1, F1, d1, M1, ex1, st1, rp1, ws, hws, h2⟩ => ?_)
  have tbl1 : TabS H1 P q := by
    obtain ⟨⟨q', e, t⟩, _, _⟩ := st1.rs _ _ (e0.t _ hT)
    have : q = q' := by cases e; rfl
    rw [this]; exact t
  have nfr := ndef_free hsc
  have hfree : ∀ y ∈ scope.names, y.2 = .free → ∃ c, X.env.cells.lookup y.1 = some c := fun y hy e => (nfr y hy e).elim (fun z => I.ok.has _ (.inl z)) fun z => I.ok.has _ (.inr z)
  refine Calls.spliced_cons (lam_make3 I1 TB hcode hq tbl1 hdef hfree fun f c' pm ctv Ha sa Ia kp Ta nf fc fP hf hc => ?_)
  -- the function object and its code object are known
  let M2 : Mp := fun b => if b = f then some (.raw (PinO f (PySem.W.kla_obj "<lambda>" q params body scope (cloFrom X.env.cells scope.names []) pm c' ctv))) else if b = c' then some (.raw (CodeO c' q)) else M1 b
  have mP : R P = some (.xd [(q, .non)]) := e0.t _ hT
  have hP1 := st1.rs _ _ mP
  have ext_no : ∀ (F : Hp) a φ, F a = some (.ext φ) → (∀ a o, F a = some o → NX o) → False := fun F a φ e n => n a _ e
  have fF : F1 f = none := by
    cases e : F1 f with
    | none => rfl
    | some o => have := st1.fz _ _ e; rw [nf] at this; cases this
  have cF : ∀ o, F1 c' = some o → False := fun o e => by
    by_cases hcP : c' = P
    · subst hcP; rw [hP1.2.1] at e; cases e
    · have h1 := kp _ _ hcP (st1.fz _ _ e)
      rw [hc] at h1
      cases h1
      exact st1.nf _ _ e
  have M1f : M1 f = none := by
    cases e : M1 f with
    | none => rfl
    | some m => obtain ⟨_, o, ho, _⟩ := st1.ow _ _ e; rw [nf] at ho; cases ho
  have M2f : M2 f = some (.raw (PinO f (PySem.W.kla_obj "<lambda>" q params body scope (cloFrom X.env.cells scope.names []) pm c' ctv))) := if_pos rfl
  have M2c : M2 c' = some (.raw (CodeO c' q)) := (if_neg (Ne.symm fc)).trans (if_pos rfl)
  have M2s : ∀ b, b ≠ f → b ≠ c' → M2 b = M1 b := fun b h1 h2 => (if_neg h1).trans (if_neg h2)
  have M1c : ∀ m, M1 c' = some m → m = .raw (CodeO c' q) := fun m e => by
    have hcP : c' ≠ P := fun z => by subst z; rw [hP1.2.2] at e; cases e
    obtain ⟨_, o, ho, ro⟩ := st1.ow _ _ e
    have h1 := kp _ _ hcP ho
    rw [hc] at h1
    cases h1
    unfold CodeO at ro ⊢
    cases m with
    | raw u => have : _ = u := ro; rw [this]
    | _ => exact ro.elim
  have more1 : MoreRaw M1 M2 := ⟨fun a m e => by
    by_cases ha : a = f
    · subst ha; rw [M1f] at e; cases e
    by_cases hc2 : a = c'
    · subst hc2; rw [M2c, M1c m e]
    · rw [M2s a ha hc2]; exact e, fun a m e => by
    by_cases ha : a = f
    · subst ha; rw [M2f] at e; cases e; exact .inr ⟨_, rfl⟩
    by_cases hc2 : a = c'
    · subst hc2; rw [M2c] at e; cases e; exact .inr ⟨_, rfl⟩
    · rw [M2s a ha hc2] at e; exact .inl e⟩
  have sta : Stt X.K F1 R Ha M2 := by
    refine ⟨fun a o e => kp _ _ (fun z => by subst z; rw [hP1.2.1] at e; cases e) (st1.fz a o e), fun a o e => ?_, fun a m e => ?_, st1.nf, st1.nr⟩
    · obtain ⟨g1, g2, g3⟩ := st1.rs a o e
      have af : a ≠ f := fun z => by subst z; exact g1.there nf
      by_cases haP : a = P
      · subst haP
        rw [mP] at e
        cases e
        refine ⟨⟨q, rfl, Ta⟩, g2, ?_⟩
        have ac : a ≠ c' := fun z => by
          obtain ⟨ps', z1, _⟩ := Ta
          rw [z, hc] at z1
          exact codeO_ne ps' (Option.some.inj z1)
        rw [M2s a af ac]; exact g3
      · have ga : RsOk Ha a o := by
          refine g1.step (x := P) (fun b u n eb => kp b u n eb) haP fun q' z => ?_
          obtain ⟨⟨q2, _, ps', z1, _⟩, _⟩ := hP1
          rw [z] at z1
          exact codeO_ne ps' (Option.some.inj z1)
        have ac : a ≠ c' := fun z => by
          subst z
          have nx := st1.nr a o e
          cases o with
          | xd fs =>
            obtain ⟨q2, _, ps', z1, _⟩ := ga
            rw [hc] at z1
            exact codeO_ne ps' (Option.some.inj z1)
          | ext φ => exact nx
          | _ =>
            have ga : Ha a = some _ := ga
            rw [hc] at ga
            unfold CodeO at ga
            cases ga
        exact ⟨ga, g2, by rw [M2s a af ac]; exact g3⟩
    · by_cases haf : a = f
      · subst haf
        rw [M2f] at e
        cases e
        exact ⟨fF, _, hf, (show RepO X.K F1 (PinO _ _) (.raw (PinO _ _)) from rfl)⟩
      by_cases hac : a = c'
      · subst hac
        rw [M2c] at e
        cases e
        refine ⟨?_, _, hc, (show RepO X.K F1 (CodeO _ _) (.raw (CodeO _ _)) from rfl)⟩
        cases ef : F1 a with
        | none => rfl
        | some o => exact (cF o ef).elim
      · rw [M2s a haf hac] at e
        obtain ⟨g1, o, g2, g3⟩ := st1.ow a m e
        exact ⟨g1, o, kp _ _ (fun z => by subst z; rw [hP1.2.2] at e; cases e) g2, g3⟩
  refine Calls.spliced_cons (thn (h3.run pins sa σ Ha (fun v H3 => ∃ F3 d3, Ext F1 F3 ∧ Stt X.K F3 R H3 M2 ∧ Rep X.K F3 v d3 ∧ ∀ d Mf, MoreRaw M2 Mf → HasFn (ctOf X F0) (kb + 1) Mf d (spL tb ps.length ws) → sp [d1, d, d3] Mf (fun r M4 => M4 = Mf ∧ Q' r M1) E0D) Ia
    ⟨F1, R, τ, M2, _, e0.trans ex1, sta, sl.ext ex1, h2 M2 more1, fun v H2 F2 d M3 e2 st2 r2 ⟨q1, q2⟩ => by subst q1; exact ⟨F2, d, e2, st2, r2, q2⟩⟩) fun u3 s3 ⟨v3, H3, I3, rl3, F3, d3, ex3, st3, rp3, hsp⟩ => ?_)
  refine Calls.spliced_nil ⟨I3.kIn, ?_⟩
  -- the captured cells
  obtain ⟨wv, hwv, rw_⟩ := caps_get (sl.ext (ex1.trans ex3)) hws
  have cp : Caps X (cloFrom X.env.cells scope.names []) fr js := Caps.made I3.ok nfr (ndef_fr hsc) hjs
  have CA := cells_of I3 cp
  rw [hwv] at CA
  let cl := cloFrom X.env.cells scope.names []
  let cs : List Addr := cl.map (·.2)
  let ob : Addr → Obj := fun b => (s3.heap.get? b).getD default
  have clm : ∀ y b, (y, b) ∈ cl → X.env.cells.lookup y = some b := fun y b hm => by
    rcases cloFrom_mem hm with z | ⟨z1, z2⟩
    · cases z
    · obtain ⟨c1, hc1⟩ := hfree _ z1 rfl
      have hc1 : X.env.cells.lookup y = some c1 := hc1
      rw [z2, hc1]; rfl
  have csm : ∀ b ∈ cs, ∃ y, X.env.cells.lookup y = some b := fun b hb => by
    obtain ⟨⟨y, b'⟩, hm, rfl⟩ := List.mem_map.mp hb
    exact ⟨y, clm y b' hm⟩
  have cn3 : ∀ b ∈ cs, H3 b = none := fun b hb => by
    obtain ⟨y, hy⟩ := csm b hb
    exact I3.freeC y b hy
  have cob : ∀ b ∈ cs, s3.heap.get? b = some (ob b) ∧ ∃ v, (ob b).data = .cell v := fun b hb => by
    obtain ⟨y, hy⟩ := csm b hb
    obtain ⟨v, o, ho, hd⟩ := I3.cell y b hy
    have : ob b = o := by show (s3.heap.get? b).getD default = o; rw [ho]; rfl
    rw [this]
    exact ⟨ho, v, hd⟩
  have cab : ∀ b ∈ cs, X.s_0.heap.objs.size ≤ b := fun b hb => by
    obtain ⟨y, hy⟩ := csm b hb
    exact I3.ok.cab y b (hfn y) hy
  have cfr : ∀ b ∈ cs, b ∉ frs X.stack := fun b hb z => by
    obtain ⟨y, hy⟩ := csm b hb
    rcases List.mem_cons.mp (I3.stkSub b z) with e | e
    · exact I3.cne y b hy e
    · obtain ⟨_, o, ho, _⟩ := I3.ok.funs.mem e
      exact absurd (Nat.lt_of_lt_of_le (Heap.lt_size ho) (cab b hb)) (Nat.lt_irrefl _)
  let H' : Hp := fun b => if b ∈ cs then some (PinO b (ob b)) else H3 b
  let Mf : Mp := fun b => if b ∈ cs then some (.raw (PinO b (ob b))) else M2 b
  have H'n : ∀ b, b ∈ cs → H' b = some (PinO b (ob b)) := fun b h => if_pos h
  have H's : ∀ b, b ∉ cs → H' b = H3 b := fun b h => if_neg h
  have Mfn : ∀ b, b ∈ cs → Mf b = some (.raw (PinO b (ob b))) := fun b h => if_pos h
  have Mfs : ∀ b, b ∉ cs → Mf b = M2 b := fun b h => if_neg h
  have inH : ∀ b u, H3 b = some u → b ∉ cs ∧ H' b = some u := fun b u e => by
    have : b ∉ cs := fun z => by rw [cn3 b z] at e; cases e
    exact ⟨this, by rw [H's b this]; exact e⟩
  have M2n : ∀ b, b ∈ cs → M2 b = none := fun b hb => by
    cases e : M2 b with
    | none => rfl
    | some m => obtain ⟨_, o, ho, _⟩ := st3.ow _ _ e; rw [cn3 b hb] at ho; cases ho
  have F3n : ∀ b, b ∈ cs → F3 b = none := fun b hb => by
    cases e : F3 b with
    | none => rfl
    | some o => have := st3.fz _ _ e; rw [cn3 b hb] at this; cases this
  have more2 : MoreRaw M2 Mf := ⟨fun a m e => by
    have : a ∉ cs := fun z => by rw [M2n a z] at e; cases e
    rw [Mfs a this]; exact e, fun a m e => by
    by_cases ha : a ∈ cs
    · rw [Mfn a ha] at e; cases e; exact .inr ⟨_, rfl⟩
    · rw [Mfs a ha] at e; exact .inl e⟩
  have env3 := I3.env0
  have hok' : HOk X.prog X.w H' s3.heap := fun b u e => by
    by_cases hb : b ∈ cs
    · rw [H'n b hb] at e; cases e; exact pinO_ok (cob b hb).1
    · rw [H's b hb] at e
      exact (I3.hok b u e).stay (fun c v _ z => z) (fun c z => (inH c _ z).2) fun c xs z => (inH c _ z).2
  have env' : Env0 X.prog X.w X.K X.mg X.base X.A X.stack s3 H' := ⟨env3.frames, env3.mod, fun b o e => ⟨(env3.bs b o e).1, by
    have : b ∉ cs := fun z => absurd (Nat.lt_of_lt_of_le (Heap.lt_size e) (Nat.le_trans I3.ok.bsz (cab b z))) (Nat.lt_irrefl _)
    rw [H's b this]; exact (env3.bs b o e).2⟩, env3.bsz, env3.funs, fun b hb => by
    have : b ∉ cs := fun z => cfr b z hb
    rw [H's b this]; exact env3.frf b hb, hok', env3.bare⟩
  have st' : Stt X.K F3 R H' Mf := by
    refine ⟨fun a o e => (inH _ _ (st3.fz a o e)).2, fun a o e => ?_, fun a m e => ?_, st3.nf, st3.nr⟩
    · obtain ⟨g1, g2, g3⟩ := st3.rs a o e
      have ha : a ∉ cs := fun z => g1.there (cn3 a z)
      exact ⟨g1.imp (fun u eu => (inH _ _ eu).2) fun c q ec => (inH _ _ ec).2, g2, by rw [Mfs a ha]; exact g3⟩
    · by_cases ha : a ∈ cs
      · rw [Mfn a ha] at e
        cases e
        exact ⟨F3n a ha, _, H'n a ha, (show RepO X.K F3 (PinO _ _) (.raw (PinO _ _)) from rfl)⟩
      · rw [Mfs a ha] at e
        obtain ⟨g1, o, g2, g3⟩ := st3.ow a m e
        exact ⟨g1, o, (inH _ _ g2).2, g3⟩
  have Mff : Mf f = some (.raw (PinO f (PySem.W.kla_obj "<lambda>" q params body scope cl pm c' ctv))) := more2.1 _ _ M2f
  have Mfc : Mf c' = some (.raw (CodeO c' q)) := more2.1 _ _ M2c
  have has : HasFn (ctOf X F0) (kb + 1) Mf (.fn f F3) (spL tb ps.length ws) := by
    refine ⟨(f, PinO f (PySem.W.kla_obj "<lambda>" q params body scope cl pm c' ctv)) :: (c', CodeO c' q) :: cs.map fun c => (c, PinO c (ob c)), ⟨_, _, _, _, .inl List.mem_cons_self⟩, fun p hp => ?_, ?_⟩
    · rcases List.mem_cons.mp hp with rfl | hp
      · exact Mff
      rcases List.mem_cons.mp hp with rfl | hp
      · exact Mfc
      · obtain ⟨b, hb, rfl⟩ := List.mem_map.mp hp
        exact Mfn b hb
    · refine lam_sem (C := ctOf X F0) (wv := wv) S hN (fun us hl => hbind _ _ _ _ us hl) (fun A outer s H F0' R0' hr => hbody f c' cl A outer s H F0' R0' hr) (fun y b e => List.mem_map.mpr ⟨(y, b), PySem.mem_of_lookup e, rfl⟩) (fun b hb => (cob b hb).2) CA.inj (fun i y e => ?_) ?_ rw_
      · obtain ⟨b, hb1, hb2⟩ := CA.has i y e
        refine ⟨b, hb1, fun v ev => ?_⟩
        obtain ⟨u, ru, o, ho, hd⟩ := hb2 v (by rw [List.getElem?_map, ev]; rfl)
        refine ⟨u, ru, ?_⟩
        have : ob b = o := by show (s3.heap.get? b).getD default = o; rw [ho]; rfl
        rw [this]; exact hd
      · have := CA.len
        rwa [List.length_map] at this
  have hcall := hsp (.fn f F3) Mf more2 has
  have rl : Vals [v1, .ref f, v3] [u1, .ref f, u3] := .cons rl1 (.cons rfl (.cons rl3 .nil))
  have rp : RepAll X.K F3 [v1, .ref f, v3] [d1, .fn f F3, d3] := .cons (rp1.ext ex3) (.cons (.fn Ext.refl) (.cons rp3 .nil))
  have spv : liSp X.K F0.T sp [v1, .ref f, v3] H' (fun v H4 => ∃ F4 r, Ext F3 F4 ∧ Stt X.K F4 R H4 Mf ∧ Rep X.K F4 v r ∧ Q' r M1) E0 :=
    ⟨F3, R, _, Mf, _, _, st', e0.t, rp, hcall, fun v H4 F4 r M4 e4 st4 r4 ⟨z1, z2⟩ => by subst z1; exact ⟨F4, r, e4, st4, r4, z2⟩, fun _ _ _ _ _ _ _ _ _ z => z⟩
  have hl3 : [u1, Value.ref f, u3].length = psg.length := by
    rw [← rl.length]; exact Fg.len _ _ _ _ spv
  have hbind3 := hb s3 [u1, .ref f, u3] I3.kIn (by rw [List.append_nil]; exact hl3)
  rw [List.append_nil] at hbind3
  refine wpAny_call (codeAny_mono (Fg.run X.A X.stack s3 H' ⟨[u1, .ref f, u3], []⟩ _ _ _ _ hr env' hbind3 rl spv) fun r s' hq => ?_)
  cases r with
  | error e => exact False.elim hq
  | ok fl =>
    cases fl with
    | next => exact False.elim hq
    | brk => exact False.elim hq
    | cont => exact False.elim hq
    | ret u =>
      obtain ⟨v, H4, os4, bare4, un, hok4, rv, F4, r, ex4, st4, rp4, q4⟩ := hq
      -- the cells are the frame's own again
      have obk : ∀ b ∈ cs, H4 b = some (PinO b (ob b)) ∧ s'.heap.get? b = some (ob b) := fun b hb => by
        obtain ⟨_, o, ho, ro⟩ := st4.ow _ _ (Mfn b hb)
        have : o = PinO b (ob b) := ro.raw
        subst this
        exact ⟨ho, pinO_at hok4 ho⟩
      let H5 : Hp := fun b => if b ∈ cs then none else H4 b
      have H5n : ∀ b, b ∈ cs → H5 b = none := fun b h => if_pos h
      have H5s : ∀ b, b ∉ cs → H5 b = H4 b := fun b h => if_neg h
      have keepNX : ∀ b u, H4 b = some u → NX u → H5 b = some u := fun b u e n => by
        have : b ∉ cs := fun z => by rw [(obk b z).1] at e; cases e; exact n
        rw [H5s b this]; exact e
      have un5 : Un (frs X.stack) [] H3 H5 s3.heap s'.heap := by
        refine ⟨fun b o e n hf hx => ?_, fun b o e n hf hx => ?_, fun b o e n hx => ?_, fun b o e hx => un.there b o e hx, fun b xs e => keepNX _ _ (un.tups b xs (inH _ _ e).2) trivial, fun b o u e => keepNX _ _ (un.frzs b o u (inH _ _ e).2) trivial, fun b ps e => ?_⟩
        · by_cases hb : b ∈ cs
          · rw [(cob b hb).1] at e; cases e; exact (obk b hb).2
          · exact un.keep b o e (by rw [H's b hb]; exact n) hf hx
        · by_cases hb : b ∈ cs
          · exact absurd hf (cfr b hb)
          · exact un.slot b o e (by rw [H's b hb]; exact n) hf hx
        · by_cases hb : b ∈ cs
          · exact H5n b hb
          · rw [H5s b hb]; exact un.free b o e (by rw [H's b hb]; exact n) hx
        · obtain ⟨more, z⟩ := un.tbls b ps (inH _ _ e).2
          exact ⟨more, keepNX _ _ z trivial⟩
      have hok5 : HOk X.prog X.w H5 s'.heap := fun b u e => by
        by_cases hb : b ∈ cs
        · rw [H5n b hb] at e; cases e
        · rw [H5s b hb] at e
          exact (hok4 b u e).stay (fun c v _ z => z) (fun c z => keepNX _ _ z trivial) fun c xs z => keepNX _ _ z trivial
      have st5 : Stt X.K F4 R H5 M1 := by
        refine ⟨fun a o e => keepNX _ _ (st4.fz a o e) (st4.nf a o e), fun a o e => ?_, fun a m e => ?_, st4.nf, st4.nr⟩
        · obtain ⟨g1, g2, g3⟩ := st4.rs a o e
          have ha : a ∉ cs := fun z => by rw [Mfn a z] at g3; cases g3
          refine ⟨g1.imp (fun u eu => by rw [H5s a ha]; exact eu) (fun b q' eb => ?_), g2, ?_⟩
          · by_cases hb : b ∈ cs
            · obtain ⟨v', hv'⟩ := (cob b hb).2
              exact (cell_code hok4 eb (obk b hb).2 hv').elim
            · rw [H5s b hb]; exact eb
          · cases em : M1 a with
            | none => rfl
            | some m =>
              have := (more1.trans more2).1 a m em
              rw [g3] at this; cases this
        · obtain ⟨g1, o, g2, g3⟩ := st4.ow a m ((more1.trans more2).1 a m e)
          have ha : a ∉ cs := fun z => by
            have := M2n a z
            rw [more1.1 a m e] at this; cases this
          exact ⟨g1, o, by rw [H5s a ha]; exact g2, g3⟩
      exact I3.after ⟨v, H5, os4, bare4, un5, hok5, rv, kq v H5 F4 r M1 (ex1.trans (ex3.trans ex4)) st5 rp4 q4⟩
end
end DL

namespace DL
open PySem PySem.Spec PyProof.Rows L2 LamX NdefX
/-! ### a def whose code object is known -/
structure FunC (K : PySem.W.Frag) (x qual : Str) (st : Stmt) (f : Addr) (fd : FuncData) (c : Addr) : Prop where
  ex : ∃ (oc : Value) (od : Option Addr) (kV doc pm : Value) (an : Option Addr) (ct : Value) (osl : Array (Option Value)),
    fd = PySem.W.fnOf x qual (defArgs st) (defBody st) (defScope st) .none kV doc pm an (.ref c) ct ∧ K.lookup f = some ⟨oc, od, .func fd, osl⟩ ∧ PySem.W.codeIn K (.ref c) qual = true
  kp : PySem.W.keepIn K (.ref f) = true
section
variable {P : Program} {w : World} {K : PySem.W.Frag} {mg : Str → Option Value} {base : Heap}
theorem FunC.to {x qual : Str} {st : Stmt} {f c : Addr} {fd : FuncData} (F : FunC K x qual st f fd c) : Fun K x qual st f fd := by
  obtain ⟨oc, od, kV, doc, pm, an, ct, osl, h1, h2, h3⟩ := F.ex
  exact ⟨⟨oc, od, kV, doc, pm, an, .ref c, ct, osl, h1, h2, h3⟩, F.kp⟩
theorem funC_mk {x qual : Str} {st : Stmt} {f c : Addr} {oc : Value} {od an : Option Addr} {osl : Array (Option Value)} {kV doc pm ct : Value} (l : K.lookup f = some ⟨oc, od, .func (PySem.W.fnOf x qual (defArgs st) (defBody st) (defScope st) .none kV doc pm an (.ref c) ct), osl⟩)
    (cc : PySem.W.codeIn K (.ref c) qual = true) (k : PySem.W.keepIn K (.ref f) = true) : FunC K x qual st f (PySem.W.fnOf x qual (defArgs st) (defBody st) (defScope st) .none kV doc pm an (.ref c) ct) c := ⟨⟨oc, od, kV, doc, pm, an, ct, osl, rfl, l, cc⟩, k⟩
theorem FunC.okD {x qual : Str} {st : Stmt} {f c : Addr} {fd : FuncData} {N ps : List Str} {k : Nat} {sp : SpD} {T : List (Addr × Str)} (F : FunC K x qual st f fd c) (S : FnScope N ps (defScope st)) (len : ∀ ds M Q E, sp ds M Q E → ds.length = ps.length) {t : DS}
    (hbody : ∀ (A : Around) (outer : List Env) (s : Shared) (H : Hp) (E : XK) (F0 R0 : Hp), Room k (A.deeper (envOfC qual (defScope st) s.heap.objs.size f (.ref c))) →
      PSs (cxOf CX0 P w K mg base N qual (defScope st) f (.ref c) A outer s H E).nox (defBody st) (liS K ⟨F0, R0, T⟩ t))
    (hq : Rds t N sp) : FnOk P w K mg base CX0 (k + 1) f fd ps (liSp K T sp) := by
  obtain ⟨oc, od, kV, doc, pm, an, ct, osl, rfl, lk, hcd⟩ := F.ex
  refine fn_of lk hcd S (fun vs H Q E ⟨F, R, ds, M, Q', E', st, _, ra, h, _, _⟩ => by rw [ra.len]; exact len _ _ _ _ h) fun A outer s H vs Q E hr ⟨F, R, ds, M, Q', E', st, tr, ra, h, kQ, kE⟩ => ?_
  refine ⟨_, (hbody A outer s H E F R hr).nox, F, R, startD N ds, M, _, ⟨Ext.refl, Ext.refl, tr⟩, st, slots_start ra, hq ds M Q' E' h, ?_⟩
  refine ⟨fun σ2 H2 F2 τ2 M2 e2 st2 sl2 ⟨M3, h3, q3⟩ => kQ _ _ _ _ _ e2 (st2.less h3) .non q3, fun v H2 F2 d M2 e2 st2 r2 ⟨M3, h3, q3⟩ => kQ _ _ _ _ _ e2 (st2.less h3) r2 q3, fun _ _ _ _ _ _ _ _ z => z, fun _ _ _ _ _ _ _ _ z => z⟩
end
/-! ### what is never reached -/
def dNever : DS := fun _ _ _ => False
theorem sd_never {X : Cx} {F0 : Bs} {st : Stmt} : PS X st (liS X.K F0 dNever) := ⟨fun pins s σ H D I ⟨_, _, _, _, _, _, _, _, q, _⟩ => q.elim⟩
/-! ### max(xs, default=d) -/
theorem foldl_max : ∀ (ns : List Int) (n : Int), ns.foldl max n ∈ n :: ns ∧ ∀ y ∈ n :: ns, y ≤ ns.foldl max n
  | [], n => ⟨List.mem_cons_self, fun y hy => by rw [List.mem_singleton.mp hy]; exact Int.le_refl _⟩
  | m :: ns, n => by
    obtain ⟨h1, h2⟩ := foldl_max ns (max n m)
    show ns.foldl max (max n m) ∈ _ ∧ ∀ y ∈ _, y ≤ ns.foldl max (max n m)
    have hm : max n m ≤ ns.foldl max (max n m) := h2 _ List.mem_cons_self
    refine ⟨?_, fun y hy => ?_⟩
    · rcases List.mem_cons.mp h1 with z | z
      · rw [z]
        by_cases h : n ≤ m
        · rw [Int.max_eq_right h]; exact List.mem_cons_of_mem _ List.mem_cons_self
        · rw [Int.max_eq_left (by omega)]; exact List.mem_cons_self
      · exact List.mem_cons_of_mem _ (List.mem_cons_of_mem _ z)
    · rcases List.mem_cons.mp hy with rfl | hy
      · omega
      rcases List.mem_cons.mp hy with rfl | hy
      · omega
      · exact h2 y (List.mem_cons_of_mem _ hy)
def rMaxDf (K : PySem.W.Frag) : List V → List V → Hp → VK → Prop := fun vs zs H Q => ∃ (a : Addr) (ns : List Int) (d : V), vs = [V.ref a] ∧ zs = [d] ∧ SqL K H a (ns.map V.int) ∧ (ns = [] → Q d H) ∧ ∀ m, m ∈ ns → (∀ y, y ∈ ns → y ≤ m) → Q (.int m) H
theorem reads_ints {h : Heap} : ∀ {its : List Value} {ns : List Int}, Vals (ns.map V.int) its → ∃ as, ReadsAll h its (ns.map PyData.int) as
  | _, [], .nil => ⟨[], .nil⟩
  | _, n :: ns, .cons r t => by
    obtain ⟨tk, rfl⟩ := r
    obtain ⟨as, h2⟩ := reads_ints (ns := ns) t
    exact ⟨[] ++ as, .cons (.int n tk) h2⟩
theorem depth_ints : ∀ ns : List Int, PyData.depthAll (ns.map PyData.int) ≤ 1
  | [] => by simp [PyData.depthAll]
  | n :: ns => by
    have := depth_ints ns
    simp [PyData.depthAll, PyData.depth]; omega
section
variable {X : Cx}
theorem cr_maxDf (hc : X.calm = true) (hu : X.A.units + 64 < cLine) : CallRK X (.builtin "max") [Str.ofString "default"] (rMaxDf X.K) := by
  intro pins s σ H vs zs us ws Q I r rz h
  obtain ⟨a, ns, d, rfl, rfl, hs, q0, q⟩ := h
  obtain rfl := Vals.ref1 r
  obtain ⟨w1, rfl, e1⟩ := vals1 rz
  obtain ⟨its, rv, hl, _⟩ := I.list hs
  obtain ⟨as, ra⟩ := reads_ints (h := s.heap) rv
  have ha : PySem.W.AlikeAll (ns.map PyData.int) := ⟨fun x hx y hy => by
    obtain ⟨i, _, rfl⟩ := List.mem_map.mp hx
    obtain ⟨j, _, rfl⟩ := List.mem_map.mp hy
    rfl, fun x hx z => by
    obtain ⟨i, _, rfl⟩ := List.mem_map.mp hx
    cases z⟩
  refine PySem.W.max_list_default (as := as) (I.ok.hd hc) hl.isList (by simpa using ra) ha (by have := depth_ints ns; omega) (fun e h' tk hk => ?_) fun y ys i v h' tk bs e hv hr hk => ?_
  · have : ns = [] := by cases ns <;> first | rfl | cases e
    exact ⟨d, H, I.kept hk, e1, q0 this⟩
  · cases ns with
    | nil => cases e
    | cons n ns =>
      cases e
      rw [PySem.W.maxD_ints] at hr
      cases hr
      obtain ⟨h1, h2⟩ := foldl_max ns n
      exact ⟨.int _, H, I.kept hk, ⟨_, rfl⟩, q _ h1 h2⟩
variable {F0 : Bs} {p pos kpos : Pos} {e d : Expr} {te td : DE}
def dMaxDf (te td : DE) : DE := fun τ M Q => te τ M fun x M1 => td τ M1 fun y M2 => match lsOf M2 x with
  | some xs => match intsOf xs with
    | some ns => (ns = [] → Q y M2) ∧ ∀ m, m ∈ ns → (∀ z, z ∈ ns → z ≤ m) → Q (.int m) M2
    | none => False
  | none => False
theorem pd_maxDf (hc : X.calm = true) (hu : X.A.units + 64 < cLine) (hg : Gl X "max") (hm : X.mg "max" = none) (hv : bootBuiltins "max" = some (.builtin "max")) (ha : PE X e (liE X.K F0 te)) (hd : PE X d (liE X.K F0 td))
    (hs : starEach [e] X.env = [(false, eval e X.env)] := by rfl) :
    PE X (.Call (.Name "max" p) [e] [⟨some "default", d, kpos⟩] pos) (liE X.K F0 (dMaxDf te td)) := by
  refine peImp (pe_callBK (cr_maxDf hc hu) hg hm hv (pa_cons ha pa_nil hs) (pk_cons hd pk_nil) (by decide) (by decide) (by rw [hs]; rfl) (by rw [hs]; rfl) rfl rfl rfl) fun σ H Q ⟨F, R, τ, M, Q', e0, st, sl, q, k⟩ => ?_
  refine ⟨F, R, τ, M, _, e0, st, sl, q, fun v H1 F1 x M1 e1 st1 r1 q1 => ?_⟩
  refine ⟨F1, R, τ, M1, _, e0.trans e1, st1, sl.ext e1, q1, fun v2 H2 F2 y M2 e2 st2 r2 q2 => ?_⟩
  split at q2 <;> try exact q2.elim
  rename_i xs hx
  split at q2 <;> try exact q2.elim
  rename_i ns hn
  obtain ⟨a, vs, rfl, g1, ra⟩ := ls_get st2 (r1.ext e2) hx
  obtain rfl := ints_eq hn
  obtain rfl := ra.ints
  exact ⟨a, ns, v2, rfl, rfl, g1, fun z => k _ _ _ _ _ (e1.trans e2) st2 r2 (q2.1 z), fun m h1 h2 => k _ _ _ _ _ (e1.trans e2) st2 (.int m) (q2.2 m h1 h2)⟩
end
def kMaxDf2 (x : D) (Q : QD) : QD := fun y M2 => match lsOf M2 x with
  | some xs => match intsOf xs with
    | some ns => (ns = [] → Q y M2) ∧ ∀ m, m ∈ ns → (∀ z, z ∈ ns → z ≤ m) → Q (.int m) M2
    | none => False
  | none => False
def kMaxDf1 (td : DE) (τ : SD) (Q : QD) : QD := fun x M1 => td τ M1 (kMaxDf2 x Q)
theorem s_maxDf {te td : DE} {τ : SD} {M : Mp} {Q : QD} (h : te τ M (kMaxDf1 td τ Q)) : dMaxDf te td τ M Q := h
theorem s_kmaxDf1 {td : DE} {τ : SD} {M : Mp} {Q : QD} {x : D} (h : td τ M (kMaxDf2 x Q)) : kMaxDf1 td τ Q x M := h
theorem s_kmaxDf2 {M : Mp} {Q : QD} {x y : D} {ds : List D} {ns : List Int} (e : lsOf M x = some ds) (e2 : intsOf ds = some ns) (h0 : ns = [] → Q y M) (h : ∀ m, m ∈ ns → (∀ z, z ∈ ns → z ≤ m) → Q (.int m) M) : kMaxDf2 x Q y M := by
  unfold kMaxDf2
  simp only [e, e2]
  exact ⟨h0, h⟩
/-! steps -/
section
variable {τ : SD} {M : Mp} {Q : QD} {C : Ct} {k i : Nat} {t : DA} {d : D} {sp : SpD}
def kCallV (C : Ct) (k : Nat) (d : D) (sp : SpD) (Q : QD) : List D → Mp → Prop := fun ds M1 => HasFn C k M1 d sp ∧ sp ds M1 Q E0D
theorem s_callV (sp : SpD) (e : τ[i]? = some (some d)) (h : HasFn C k M d sp) (q : t τ M (kCallV C k d sp Q)) : dCallV C k i t τ M Q := ⟨d, sp, e, h, q⟩
theorem s_kcallV {ds : List D} (h : HasFn C k M d sp) (q : sp ds M Q E0D) : kCallV C k d sp Q ds M := ⟨h, q⟩
variable {js : List Nat} {n : Nat} {tb t1 t3 : DE}
def kCallL (C : Ct) (k : Nat) (js : List Nat) (n : Nat) (tb : DE) (sp : SpD) (t3 : DE) (τ : SD) (Q : QD) : QD := fun d1 M1 => ∃ ws : List D, js.map (fun j => τ[j]?) = ws.map (fun d => some (some d)) ∧
  ∀ M2, MoreRaw M1 M2 → t3 τ M2 fun d3 M3 => M3 = M2 ∧ ∀ d Mf, MoreRaw M2 Mf → HasFn C k Mf d (spL tb n ws) → sp [d1, d, d3] Mf (fun r M4 => M4 = Mf ∧ Q r M1) E0D
theorem s_callL (h : t1 τ M (kCallL C k js n tb sp t3 τ Q)) : dCallL C k js n tb sp t1 t3 τ M Q := h
def kCallL3 (C : Ct) (k n : Nat) (tb : DE) (sp : SpD) (ws : List D) (d1 : D) (M1 M2 : Mp) (Q : QD) : QD := fun d3 M3 => M3 = M2 ∧ ∀ d Mf, MoreRaw M2 Mf → HasFn C k Mf d (spL tb n ws) → sp [d1, d, d3] Mf (fun r M4 => M4 = Mf ∧ Q r M1) E0D
theorem s_kcallL (ws : List D) (e : js.map (fun j => τ[j]?) = ws.map (fun d => some (some d))) (h : ∀ M2, MoreRaw M M2 → t3 τ M2 (kCallL3 C k n tb sp ws d M M2 Q)) : kCallL C k js n tb sp t3 τ Q d M := ⟨ws, e, h⟩
theorem s_kcallL3 {ws : List D} {d1 d3 : D} {M1 : Mp} (h : ∀ d Mf, MoreRaw M Mf → HasFn C k Mf d (spL tb n ws) → sp [d1, d, d3] Mf (fun r M4 => M4 = Mf ∧ Q r M1) E0D) : kCallL3 C k n tb sp ws d1 M1 M Q d3 M := ⟨rfl, h⟩
end
/-- over data that nobody changes, each item gives one that is related to it, and M stays -/
theorem s_klcRel {α β : Type} {plain : Bool} {is vs : List Nat} {fin : List D → Mp → QD → Prop} {te : DE} {τ : SD} {M : Mp} {Q : QD} {x : D} {xs : List α} (enc : α → D) (enc' : β → D) (Rl : α → β → Prop) (hx : ∀ M, sqOf M x = some (xs.map enc)) (hl : xs.length ≤ sizeLine)
    (hs : ∀ a ∈ xs, ∃ τ2, bindD plain is (enc a) (wipeD τ vs) = some τ2 ∧ ∀ Q : QD, (∀ b, Rl a b → Q (enc' b) M) → te τ2 M Q)
    (hd : ∀ l : List β, l.length = xs.length → (∀ (i : Nat) (a : α) (b : β), xs[i]? = some a → l[i]? = some b → Rl a b) → fin (l.map enc') M Q) : kLc fin plain is vs dYes te τ Q (itSeq x (xs.map enc)) M := by
  refine ⟨fun i acc M' => M' = M ∧ ∃ l : List β, acc = l.map enc' ∧ l.length = i ∧ ∀ (j : Nat) (a : α) (b : β), xs[j]? = some a → l[j]? = some b → Rl a b, ⟨rfl, [], rfl, rfl, fun j a b _ e => by simp at e⟩, fun i acc M' hi p => hx M', fun i acc M' hi p => ?_, fun acc M' p => ?_⟩
  · obtain ⟨rfl, l, rfl, hll, hr⟩ := p
    have hi : i < (xs.map enc).length := hi
    rw [List.length_map] at hi
    have e := List.getElem?_eq_getElem hi
    obtain ⟨τ2, e2, h2⟩ := hs _ (List.getElem_mem hi)
    have e3 : (itSeq x (xs.map enc)).at' i = enc xs[i] := by
      show (xs.map enc).getD i .non = _
      refine getD_of ?_
      rw [List.getElem?_map, e]; rfl
    rw [e3, e2]
    show te τ2 M' _
    refine h2 _ fun b hb => ⟨?_, rfl, l ++ [b], ?_, ?_, ?_⟩
    · rw [List.length_map]; omega
    · rw [List.map_append]; rfl
    · rw [List.length_append, hll]; rfl
    · intro j a c ea ec
      by_cases hj : j < i
      · rw [List.getElem?_append_left (by omega)] at ec
        exact hr j a c ea ec
      · rw [List.getElem?_append_right (by omega)] at ec
        have hj2 : j = i := by
          by_cases z : j - l.length = 0
          · omega
          · rw [show j - l.length = (j - l.length - 1) + 1 by omega] at ec
            simp at ec
        subst hj2
        rw [e] at ea
        rw [show j - l.length = 0 by omega] at ec
        cases ea
        simp at ec
        subst ec
        exact hb
  · obtain ⟨rfl, l, rfl, hll, hr⟩ := p
    refine hd l ?_ hr
    rw [hll]
    show (xs.map enc).length = _
    rw [List.length_map]
end DL

namespace DL
open PySem PySem.Spec PyProof.Rows L2 LamX NdefX
/-! ### a def of the module as a value -/
def dGFn (C : Ct) (k : Nat) (sp : SpD) : DE := fun _ M Q => ∀ d, (∀ M, HasFn C k M d sp) → Q d M
section
variable {X : Cx} {F0 : Bs}
theorem fun_lookup {K : PySem.W.Frag} {x qual : Str} {st : Stmt} {f : Addr} {fd : FuncData} (F : Fun K x qual st f fd) : ∃ oc od sl, K.lookup f = some ⟨oc, od, .func fd, sl⟩ := by
  obtain ⟨oc, od, kV, doc, pm, an, cdv, ct, osl, rfl, lk, hcd⟩ := F.ex
  exact ⟨oc, od, osl, lk⟩
theorem pd_gfn {k : Nat} {f : Addr} {fd : FuncData} {ps : List Str} {sp : SpD} {x : Str} {pos : Pos} {st : Stmt} {qx : Str} (F : FnOk X.prog X.w X.K X.mg X.base CX0 k f fd ps (liSp X.K F0.T sp)) (hl : ∀ ds M Q E, sp ds M Q E → ds.length = ps.length) (hF : Fun X.K x qx st f fd) (hg : Gl X x) (hm : X.mg x = some (.ref f)) (hb : Binds X.K fd ps [])
    (hdb : (x == ("__debug__" : Str)) = false := by decide) : PE X (.Name x pos) (liE X.K F0 (dGFn (ctOf X F0) k sp)) := by
  refine ⟨fun pins s σ H Q I ⟨F1, R, τ, M, Q', e0, st, sl, q, kq⟩ => ?_⟩
  refine ld_glob I hg hm ?_ hdb
  refine ⟨.ref f, H, I, rfl, kq _ _ F1 (.fn f fun _ => none) M Ext.refl st (.fn fun a o e => by cases e) (q _ fun M2 => ?_)⟩
  obtain ⟨oc, od, osl, lk⟩ := fun_lookup hF
  refine ⟨[], ⟨oc, od, fd, osl, .inr lk⟩, fun p hp => (nomatch hp), ?_⟩
  intro A outer s2 H2 F2 R2 M3 ds us vs Q2' Q2 hr en st2 tr eG hd ra r hsp kq2
  have hl2 : us.length = ps.length := by rw [← r.length, ra.len]; exact hl _ _ _ _ hsp
  have KX : X.K.In s2.heap := en.mod.kin.keeps fun b o e => (en.bs b o e).1
  have hb2 := hb s2 us KX (by rw [List.append_nil]; exact hl2)
  rw [List.append_nil] at hb2
  exact codeAny_mono (F.run A outer s2 H2 ⟨us, []⟩ us vs Q2 (fun _ _ _ => False) hr en hb2 r ⟨F2, R2, ds, M3, Q2', E0D, st2, tr, ra, hsp, kq2, fun _ _ _ _ _ _ _ _ _ z => z⟩) fun r s' h => h
end
theorem s_gfn {C : Ct} {k : Nat} {sp : SpD} {τ : SD} {M : Mp} {Q : QD} (h : ∀ d, (∀ M, HasFn C k M d sp) → Q d M) : dGFn C k sp τ M Q := h
theorem HasFn.lvl {C : Ct} {j k : Nat} {M : Mp} {d : D} {sp : SpD} (h : HasFn C j M d sp) (e : j ≤ k) : HasFn C k M d sp := by
  cases d with
  | fn f G =>
    obtain ⟨deps, h1, h2, h3⟩ := h
    exact ⟨deps, h1, h2, fun A outer s H F R M ds us vs Q' Q a => h3 A outer s H F R M ds us vs Q' Q (a.mono e)⟩
  | _ => exact h
/-! ### a loop over a list that stays -/
section
variable {nx bk ct : SD → Mp → Prop} {rt : QD} {τ : SD} {M : Mp}
theorem s_kforI {tb : DS} {is : List Nat} {plain : Bool} {ds : List D} {x : D} (Pv : Nat → SD → Mp → Prop) (hx : ∀ i τ M, i ≤ ds.length → Pv i τ M → sqOf M x = some ds) (h0 : Pv 0 τ M)
    (hs : ∀ i d τ M, ds[i]? = some d → Pv i τ M → gD plain is d τ M fun τ2 M2 => tb ⟨Pv (i + 1), rt, nx, Pv (i + 1)⟩ τ2 M2) (hd : ∀ τ M, Pv ds.length τ M → nx τ M) : kFor (gD plain is) tb ⟨nx, rt, bk, ct⟩ τ (itSeq x ds) M :=
  ⟨Pv, h0, fun i τ M hi p => hx i τ M hi p, fun i τ M hi p => by
    have hi : i < ds.length := hi
    have e := List.getElem?_eq_getElem hi
    show gD plain is (ds.getD i .non) τ M _
    rw [getD_of e]
    exact hs i _ τ M e p, hd⟩
end
end DL

namespace DL
open PySem PySem.Spec PyProof.Rows L2 LamX NdefX
/-! ### an expression that is never reached -/
def dNeverE : DE := fun _ _ _ => False
theorem pd_never {X : Cx} {F0 : Bs} {e : Expr} : PE X e (liE X.K F0 dNeverE) := ⟨fun pins s σ H Q I ⟨_, _, _, _, _, _, _, _, q, _⟩ => q.elim⟩
/-- over data that nobody changes, each item gives one that is related to it, and M stays -/
theorem s_klcRelM {α β : Type} {plain : Bool} {is vs : List Nat} {fin : List D → Mp → QD → Prop} {te : DE} {τ : SD} {M : Mp} {Q : QD} {x : D} {xs : List α} (enc : α → D) (enc' : β → D) (Rl : α → β → Prop) (hx : sqOf M x = some (xs.map enc)) (hl : xs.length ≤ sizeLine)
    (hs : ∀ a ∈ xs, ∃ τ2, bindD plain is (enc a) (wipeD τ vs) = some τ2 ∧ ∀ Q : QD, (∀ b, Rl a b → Q (enc' b) M) → te τ2 M Q)
    (hd : ∀ l : List β, l.length = xs.length → (∀ (i : Nat) (a : α) (b : β), xs[i]? = some a → l[i]? = some b → Rl a b) → fin (l.map enc') M Q) : kLc fin plain is vs dYes te τ Q (itSeq x (xs.map enc)) M := by
  refine ⟨fun i acc M' => M' = M ∧ ∃ l : List β, acc = l.map enc' ∧ l.length = i ∧ ∀ (j : Nat) (a : α) (b : β), xs[j]? = some a → l[j]? = some b → Rl a b, ⟨rfl, [], rfl, rfl, fun j a b _ e => by simp at e⟩, fun i acc M' hi p => by rw [p.1]; exact hx, fun i acc M' hi p => ?_, fun acc M' p => ?_⟩
  · obtain ⟨rfl, l, rfl, hll, hr⟩ := p
    have hi : i < (xs.map enc).length := hi
    rw [List.length_map] at hi
    have e := List.getElem?_eq_getElem hi
    obtain ⟨τ2, e2, h2⟩ := hs _ (List.getElem_mem hi)
    have e3 : (itSeq x (xs.map enc)).at' i = enc xs[i] := by
      show (xs.map enc).getD i .non = _
      refine getD_of ?_
      rw [List.getElem?_map, e]; rfl
    rw [e3, e2]
    show te τ2 M' _
    refine h2 _ fun b hb => ⟨?_, rfl, l ++ [b], ?_, ?_, ?_⟩
    · rw [List.length_map]; omega
    · rw [List.map_append]; rfl
    · rw [List.length_append, hll]; rfl
    · intro j a c ea ec
      by_cases hj : j < i
      · rw [List.getElem?_append_left (by omega)] at ec
        exact hr j a c ea ec
      · rw [List.getElem?_append_right (by omega)] at ec
        have hj2 : j = i := by
          by_cases z : j - l.length = 0
          · omega
          · rw [show j - l.length = (j - l.length - 1) + 1 by omega] at ec
            simp at ec
        subst hj2
        rw [e] at ea
        rw [show j - l.length = 0 by omega] at ec
        cases ea
        simp at ec
        subst ec
        exact hb
  · obtain ⟨rfl, l, rfl, hll, hr⟩ := p
    refine hd l ?_ hr
    rw [hll]
    show (xs.map enc).length = _
    rw [List.length_map]
end DL

namespace DL
open PySem PySem.Spec PyProof.Rows L2 LamX NdefX
/-! ### for x in reversed(a tuple) -/
def itRev (ds : List D) : ItD := ⟨ds.length, fun i => ds.getD (ds.length - 1 - i) .non, fun _ => True⟩
def iRevD (te : DE) : DTI := fun τ M Q => te τ M fun d M1 => match d with
  | .tup ds => Q (itRev ds) M1
  | _ => False
theorem rel_rev {K : PySem.W.Frag} {F : Hp} {a : Addr} {xs : List V} {ds : List D} (hs : SqT K F a xs) (ra : RepAll K F xs ds) : ItRel K F (RT.ItvT K a xs.length) (itRev ds) where
  go := fun i F2 R H M e st _ hi => by
    have hi : i < ds.length := hi
    have hl := ra.len
    exact ⟨by omega, xs, xs[xs.length - 1 - i]'(by omega), sqTMono st.fz (sqTMono e hs), List.getElem?_eq_getElem _⟩
  yld := fun i F2 R H M x H' e st _ hi y => by
    obtain ⟨rfl, y⟩ := y
    have hi : i < ds.length := hi
    have hl := ra.len
    obtain ⟨d', e1, e2⟩ := (ra.ext e).get (y xs (sqTMono st.fz (sqTMono e hs)))
    rw [hl] at e1
    exact ⟨F2, Ext.refl, st, by show Rep K F2 x (ds.getD (ds.length - 1 - i) .non); rw [getD_of e1]; exact e2, fun _ _ => rfl⟩
  stop := fun F2 R H M e st _ => by
    show xs.length ≤ ds.length
    rw [ra.len]; exact Nat.le_refl _
section
variable {X : Cx} {F0 : Bs} {tg e : Expr} {te : DE}
theorem id_rev {p pos : Pos} (hg : Gl X "reversed") (hm : X.mg "reversed" = none) (he : PE X e (liE X.K F0 te)) (hs : starEach [e] X.env = (false, eval e X.env) :: starEach [] X.env := by rfl) : PI X tg (.Call (.Name "reversed" p) [e] [] pos) (liI X.K F0 (iRevD te)) := by
  refine piImp (RT.pi_revA hg hm he hs) fun σ H Q ⟨F, R, τ, M, Q', e0, st, sl, q, k⟩ => ?_
  refine ⟨F, R, τ, M, _, e0, st, sl, q, fun v H1 F1 d M1 e1 st1 r1 q1 => ?_⟩
  cases d <;> try exact q1.elim
  cases r1 with
  | tup hs ra => exact ⟨_, _, rfl, .inr ⟨sqTMono st1.fz hs, k _ _ _ _ _ e1 st1 (rel_rev hs ra) q1⟩⟩
/-! ### xs[::-1] -/
def dRevL (te : DE) : DE := fun τ M Q => te τ M fun d M1 => match lsOf M1 d with
  | some ds => Q (.lst ds.reverse) M1
  | none => False
theorem pd_revL {k : Nat} {p1 p2 p3 pos : Pos} (he : PE X e (liE X.K F0 te)) : PE X (.Subscript e (.Slice none none (some (.UnaryOp .USub (.Constant (.int 1) k p1) p2)) p3) pos) (liE X.K F0 (dRevL te)) := by
  refine peImp (pe_revL he) fun σ H Q ⟨F, R, τ, M, Q', e0, st, sl, q, kk⟩ => ?_
  refine ⟨F, R, τ, M, _, e0, st, sl, q, fun v H1 F1 d M1 e1 st1 r1 q1 => ?_⟩
  split at q1 <;> try exact q1.elim
  rename_i ds h1
  obtain ⟨a, xs, rfl, hs, ra⟩ := ls_get st1 r1 h1
  exact ⟨a, xs, rfl, hs, fun p hp => (kk.ext e1).lst st1 hp ra.rev q1⟩
end
section
variable {nx bk ct : SD → Mp → Prop} {rt : QD} {E : EndsD} {τ : SD} {M : Mp} {QI : ItD → Mp → Prop} {Q : QD} {te : DE} {x : D} {ds : List D}
def kRev (QI : ItD → Mp → Prop) : QD := fun d M1 => match d with
  | .tup ds => QI (itRev ds) M1
  | _ => False
theorem s_revI (h : te τ M (kRev QI)) : iRevD te τ M QI := h
theorem s_krev (h : QI (itRev ds) M) : kRev QI (.tup ds) M := h
theorem s_kforV {tb : DS} {is : List Nat} {plain : Bool} (Pv : Nat → SD → Mp → Prop) (h0 : Pv 0 τ M)
    (hs : ∀ i d τ M, i < ds.length → ds[ds.length - 1 - i]? = some d → Pv i τ M → gD plain is d τ M fun τ2 M2 => tb ⟨Pv (i + 1), rt, nx, Pv (i + 1)⟩ τ2 M2) (hd : ∀ τ M, Pv ds.length τ M → nx τ M) : kFor (gD plain is) tb ⟨nx, rt, bk, ct⟩ τ (itRev ds) M :=
  ⟨Pv, h0, fun _ _ M _ _ => trivial, fun i τ M hi p => by
    have hi : i < ds.length := hi
    have e := List.getElem?_eq_getElem (l := ds) (i := ds.length - 1 - i) (by omega)
    show gD plain is (ds.getD (ds.length - 1 - i) .non) τ M _
    rw [getD_of e]
    exact hs i _ τ M hi e p, hd⟩
def kRevL (Q : QD) : QD := fun d M1 => match lsOf M1 d with
  | some ds => Q (.lst ds.reverse) M1
  | none => False
theorem s_revL (h : te τ M (kRevL Q)) : dRevL te τ M Q := h
theorem s_krevL (e : lsOf M x = some ds) (h : Q (.lst ds.reverse) M) : kRevL Q x M := by unfold kRevL; simp only [e]; exact h
end
end DL

namespace DL
open PySem PySem.Spec PyProof.Rows L2 LamX NdefX
/-! ### errors -/
theorem Stt.lessR {K : PySem.W.Frag} {F R R2 H : Hp} {M : Mp} (s : Stt K F R2 H M) (e : Ext R R2) : Stt K F R H M := ⟨s.fz, fun a o h => s.rs a o (e a o h), s.ow, s.nf, fun a o h => s.nr a o (e a o h)⟩
/-- the class of this name -/
def exV (C : Ct) (n : Str) : Value := (C.mg n).getD .none
theorem exV_of {C : Ct} {n : Str} {v : Value} (h : C.mg n = some v) : exV C n = v := by unfold exV; rw [h]; rfl
/-- raise X('..') -/
def dRaise (c : Value) (E : XD) : DS := fun _ _ M => E c none M
section
variable {X : Cx} {F0 : Bs} {x m : Str} {j : Nat} {p p2 pos pos2 : Pos} {Cc : Addr} {cv : Value} {B newId initId : String} {bmB : List Value}
theorem sd_raise {E' : XD} {E : XK} (hE : ∀ e dx H, liX X.K F0 E' e dx H → E e dx H) (hc : X.calm = true) (tk : Takes X (fun cls d _ H => E cls d H)) (hv : cv = .ref Cc) (F : ExcBaseFacts B newId initId bmB) (q : PySem.W.excIn X.K Cc bmB newId = true) (gC : X.mg x = some (.ref Cc)) (kC : PySem.W.keepIn X.K (.ref Cc) = true) (r : Raises X (.ref Cc)) (hg : Gl X x)
    (hdb : (x == ("__debug__" : Str)) = false := by decide) : PS X (.Raise (some (.Call (.Name x p) [.Constant (.str m) j p2] [] pos)) none pos2) (liS X.K F0 (dRaise cv E')) := by
  subst hv
  exact psImp (ps_raise hc tk (pmk_own F q gC kC r hg hdb)) fun D σ H ⟨F, R, τ, M, D', e0, st, sl, q, k⟩ => hE _ _ _ ⟨F, R, M, none, e0, st, trivial, q⟩
end
/-! what is wanted of an error, by the slots where it comes -/
def liXS (K : PySem.W.Frag) (F0 : Bs) (E' : SD → XD) : WX := fun e dx σ H => ∃ F R M fs τ, Bas F0 F R ∧ Stt K F R H M ∧ Slots K F σ τ ∧ RepX K F H dx fs ∧ E' τ e fs M
def dCallS (sp : SpD) (E : SD → XD) (t : DA) : DE := fun τ M Q => t τ M fun ds M1 => sp ds M1 Q (E τ)
section
variable {X : Cx} {F0 : Bs} {k : Nat} {f : Addr} {fd : FuncData} {ps : List Str} {sp : SpD} {x : Str} {p pos : Pos} {e : Expr} {es : List Expr} {t : DA}
/-- f(..) within a try -/
theorem pd_callS {W : WX} {E' : SD → XD} (hE : ∀ e dx σ H, liXS X.K F0 E' e dx σ H → W e dx σ H) (tk : Takes X W) (F : FnOk X.prog X.w X.K X.mg X.base (L2.CX X.prog X.w) k f fd ps (liSp X.K F0.T sp)) (hr : Room k X.A) (hg : Gl X x) (hm : X.mg x = some (.ref f)) (hk : PySem.W.keepIn X.K (.ref f) = true) (hb : Binds X.K fd ps [])
    (ha : PA X (e :: es) (liA X.K F0 t)) (hdb : (x == ("__debug__" : Str)) = false := by decide) (he : starEach (e :: es) X.env = (false, eval e X.env) :: starEach es X.env := by rfl) (hpl : (backTo pos (starEach es X.env)).any (·.1) = false := by rfl) :
    PE X (.Call (.Name x p) (e :: es) [] pos) (liE X.K F0 (dCallS sp E' t)) := by
  refine peImp (pe_callS F hr hg hm hk hb (fun σ => passAt tk σ) ha hdb he hpl) fun σ H Q ⟨F, R, τ, M, Q', e0, st, sl, q, k⟩ => ?_
  refine ⟨F, R, τ, M, _, e0, st, sl, q, fun vs H1 F1 ds M1 e1 st1 r1 q1 => ?_⟩
  exact ⟨F1, R, ds, M1, Q', E' τ, st1, e0.t, r1, q1, k.ext e1, fun e dx H2 F2 fs M2 e2 st2 rx qx => hE _ _ _ _ ⟨F2, R, M2, fs, τ, e0.trans (e1.trans e2), st2, sl.ext (e1.trans e2), rx, qx⟩⟩
end
/-- try .. except X .. else -/
def dTry (tb : (SD → XD) → DS) (c : Value) (ts u : DS) : DS := fun D τ M => tb (fun τ' e fs M' => e = c ∧ ts D τ' M') { D with nx := u D } τ M
section
variable {X : Cx} {F0 : Bs} {x : Str} {Cc : Addr} {cv : Value} {body suite orelse : List Stmt} {b₀ : Stmt} {np pos pos' : Pos} {tb : (SD → XD) → DS} {ts u : DS}
theorem sd_try (hs : X.stack = X.env :: X.outer) (hf : X.env.frame = some X.env.locals) (hv : cv = .ref Cc) (hc : Names X x (.ref Cc)) (hcc : PySem.W.exmOne X.K (.ref Cc) (.ref Cc) = some true) (ho : PSs X orelse (liS X.K F0 u))
    (hb : ∀ (W : WX) (pn : List (Addr × Obj)) (xe : Value → Shared → Prop) (FF RR : Hp) (E' : SD → XD), (∀ e dx σ H, liXS X.K ⟨FF, RR, F0.T⟩ E' e dx σ H → W e dx σ H) → Takes (X.tr pn xe) W → PSs (X.tr pn xe) body (liS X.K ⟨FF, RR, F0.T⟩ (tb E')))
    (hsu : ∀ (a : Addr) (oe : Obj) (cls : Value) (d : Option Addr) (pn : List (Addr × Obj)), Zc cls d oe → (∃ vs, oe.data = .fields vs) → PSs (X.suite a ((a, oe) :: pn)) (b₀ :: suite) (liS X.K F0 ts)) :
    PS X (.Try body [.ExceptHandler (some (.Name x np)) none (b₀ :: suite) pos'] orelse [] pos) (liS X.K F0 (dTry tb cv ts u)) := by
  subst hv
  refine ⟨fun pins s σ H D I ⟨F, R, τ, M, D', e0, st, sl, q, k⟩ => ?_⟩
  have T := ps_try_onlyE (X := X) (x := x) (np := np) (pos := pos) (pos' := pos') (body := body) (suite := suite) (b₀ := b₀) (Wout := fun _ _ _ _ => False) (ts := fun _ _ _ => liS X.K F0 ts) (u := liS X.K F0 u)
    (tb := fun W D2 σ2 H2 => D2 = { D with nx := liS X.K F0 u D } ∧ σ2 = σ ∧ H2 = H ∧ W = wOnly X.K (.ref Cc) (fun _ _ _ => liS X.K F0 ts) (fun _ _ _ _ => False) D) ho hs hf hc (fun _ _ z => by
      obtain ⟨_, _, _, _, _, _, _, _, _, _, _, _, _, _, _, _, z⟩ := z
      exact z.elim) (fun W pn xe tk _ => ⟨fun pins2 s2 σ2 H2 D2 I2 ⟨eD, eσ, eH, eW⟩ => ?_⟩) hsu
  · exact T.run pins s σ H D I ⟨rfl, rfl, rfl, rfl⟩
  · subst eD eσ eH
    refine (hb W pn xe F R (fun τ' e fs M' => e = .ref Cc ∧ ts D' τ' M') (fun e dx σ3 H3 h3 => ?_) tk).run pins2 s2 σ2 H2 _ I2 ⟨F, R, τ, M, { D' with nx := u D' }, ⟨Ext.refl, Ext.refl, e0.t⟩, st, sl, q, ⟨fun σ4 H4 F4 τ4 M4 e4 st4 sl4 q4 => ?_, k.rt, k.bk, k.ct⟩⟩
    · obtain ⟨F3, R3, M3, fs, τ3, b3, st3, sl3, rx, rfl, q3⟩ := h3
      rw [eW]
      refine ⟨true, hcc, fun _ a _ => ?_, fun z => by cases z⟩
      exact ⟨F3, R, τ3, M3, D', e0.trans b3.f, st3.lessR b3.r, sl3, q3, k.ext b3.f⟩
    · exact ⟨F4, R, τ4, M4, D', e0.trans e4, st4, sl4, q4, k.ext e4⟩
end
section
variable {P : Program} {w : World} {K : PySem.W.Frag} {mg : Str → Option Value} {base : Heap}
def RdsX (t : XD → DS) (N : List Str) (sp : SpD) : Prop := ∀ ds M Q E, sp ds M Q E → t E (fnE Q) (startD N ds) M
/-- a def that may raise -/
theorem Fun.okXD {x qual : Str} {st : Stmt} {f : Addr} {fd : FuncData} {N ps : List Str} {k : Nat} {sp : SpD} {T : List (Addr × Str)} (F : Fun K x qual st f fd) (S : FnScope N ps (defScope st)) (len : ∀ ds M Q E, sp ds M Q E → ds.length = ps.length) {t : XD → DS}
    (hbody : ∀ (cdv : Value) (A : Around) (outer : List Env) (s : Shared) (H : Hp) (E : XK) (F0 R0 : Hp) (E' : XD), Room k (A.deeper (envOfC qual (defScope st) s.heap.objs.size f cdv)) → (∀ e dx H, liX K ⟨F0, R0, T⟩ E' e dx H → E e dx H) → Takes (cxOf (L2.CX P w) P w K mg base N qual (defScope st) f cdv A outer s H E) (fun cls d _ H => E cls d H) →
      PSs (cxOf (L2.CX P w) P w K mg base N qual (defScope st) f cdv A outer s H E) (defBody st) (liS K ⟨F0, R0, T⟩ (t E')))
    (hq : RdsX t N sp) : FnOk P w K mg base (L2.CX P w) (k + 1) f fd ps (liSp K T sp) := by
  refine F.okX S (fun vs H Q E ⟨F, R, ds, M, Q', E', st, _, ra, h, _, _⟩ => by rw [ra.len]; exact len _ _ _ _ h) fun cdv A outer s H vs Q E hr ⟨F, R, ds, M, Q', E', st, tr, ra, h, kQ, kE⟩ => ?_
  refine ⟨_, hbody cdv A outer s H E F R E' hr (fun e dx H2 ⟨F2, R2, M2, fs, b2, st2, rx, q2⟩ => kE e dx H2 F2 fs M2 b2.f (st2.lessR b2.r) rx q2) (takes_of rfl rfl rfl rfl), F, R, startD N ds, M, _, ⟨Ext.refl, Ext.refl, tr⟩, st, slots_start ra, hq ds M Q' E' h, ?_⟩
  refine ⟨fun σ2 H2 F2 τ2 M2 e2 st2 sl2 ⟨M3, h3, q3⟩ => kQ _ _ _ _ _ e2 (st2.less h3) .non q3, fun v H2 F2 d M2 e2 st2 r2 ⟨M3, h3, q3⟩ => kQ _ _ _ _ _ e2 (st2.less h3) r2 q3, fun _ _ _ _ _ _ _ _ z => z, fun _ _ _ _ _ _ _ _ z => z⟩
end
/-- no error comes -/
theorem noX {K : PySem.W.Frag} {F0 : Bs} : ∀ e dx H, liX K F0 E0D e dx H → E0 e dx H := fun _ _ _ ⟨_, _, _, _, _, _, _, z⟩ => z
/-! the steps -/
section
variable {nx bk ct : SD → Mp → Prop} {rt : QD} {τ : SD} {M : Mp} {E : XD} {De : EndsD} {Q : QD} {al : DA} {sp : SpD}
theorem s_raise {c : Value} (h : E c none M) : dRaise c E De τ M := h
def kCallS (sp : SpD) (E : SD → XD) (τ : SD) (Q : QD) : List D → Mp → Prop := fun ds M1 => sp ds M1 Q (E τ)
theorem s_callS {E : SD → XD} (h : al τ M (kCallS sp E τ Q)) : dCallS sp E al τ M Q := h
theorem s_kcallS {E : SD → XD} {ds : List D} (h : sp ds M Q (E τ)) : kCallS sp E τ Q ds M := h
theorem s_try {tb : (SD → XD) → DS} {c : Value} {ts u : DS} (h : tb (fun τ' e fs M' => e = c ∧ ts ⟨nx, rt, bk, ct⟩ τ' M') ⟨u ⟨nx, rt, bk, ct⟩, rt, bk, ct⟩ τ M) : dTry tb c ts u ⟨nx, rt, bk, ct⟩ τ M := h
end
/-- what is known of an own error's class -/
structure ExcD (K : PySem.W.Frag) (mg : Str → Option Value) (n : Str) where
  c : Addr
  g : mg n = some (.ref c)
  q : PySem.W.excIn K c [.type "ValueError", .type "Exception", .type "BaseException", .type "object"] "ValueError.__new__" = true
  k : PySem.W.keepIn K (.ref c) = true
  s : PySem.W.subIn K (.ref c) (.type "BaseException") = some true
  t : PySem.W.typeIn K (.ref c) = some (.type "type")
  m : PySem.W.exmOne K (.ref c) (.ref c) = some true
theorem exm_self {K : PySem.W.Frag} {S : Addr} (h1 : PySem.W.subIn K (.ref S) (.type "BaseException") = some true) (h2 : PySem.W.isClsIn K S = true) (h3 : PySem.W.typeIn K (.ref S) = some (.type "type")) (h4 : PySem.W.subIn K (.ref S) (.ref S) = some true) :
    PySem.W.exmOne K (.ref S) (.ref S) = some true := by
  have h2 : (PySem.W.clsIn K S).isSome = true := h2
  have e1 : (PySem.W.subIn K (.ref S) (.type "BaseException") == some true) = true := by rw [h1]; rfl
  have e2 : ((PySem.W.clsIn K S).isSome && PySem.W.typeIn K (.ref S) == some (.type "type")) = true := by rw [h2, h3]; rfl
  show (if (PySem.W.subIn K (.ref S) (.type "BaseException") == some true) = true then (if ((PySem.W.clsIn K S).isSome && PySem.W.typeIn K (.ref S) == some (.type "type")) = true then PySem.W.subIn K (.ref S) (.ref S) else none) else none) = some true
  rw [if_pos e1, if_pos e2]
  exact h4
end DL

namespace DL
open PySem PySem.Spec PyProof.Rows L2 LamX NdefX
/-! ### the order of data -/
def dLtD : R2D := fun x y M Q => match (drf M x).py, (drf M y).py with
  | some p, some q => PySem.W.alike p q = true ∧ p ≠ .none ∧ min p.depth q.depth ≤ 64 ∧ Q (.bl (PySem.W.dataLt p q)) M
  | _, _ => False
section
variable {X : Cx} {F0 : Bs}
theorem od_ltD (hu : X.A.units + 64 < cLine) : OpD X F0 (compareOp .Lt) dLtD := by
  intro pins s σ H x y v u Q I rx ry ⟨F, R, M, d, e, Q', e0, st, rd, re, q, k⟩
  unfold dLtD at q
  split at q
  · rename_i p q' h1 h2
    obtain ⟨as, r1⟩ := Dp.reads I p x v (dp_drf st rd h1) rx
    obtain ⟨bs, r2⟩ := Dp.reads I q' y u (dp_drf st re h2) ry
    exact PySem.W.lt_data r1 r2 q.1 q.2.1 (by omega) ⟨.bl _, H, I, rfl, k _ _ _ _ _ Ext.refl st (.bl _) q.2.2.2⟩
  · exact q.elim
end
theorem s_ltD {p q : PyData} {x y : D} {M : Mp} {Q : QD} (e1 : (drf M x).py = some p) (e2 : (drf M y).py = some q) (h1 : PySem.W.alike p q = true) (h2 : p ≠ .none) (h3 : p.depth ≤ 64) (h : Q (.bl (PySem.W.dataLt p q)) M) : dLtD x y M Q := by
  unfold dLtD
  simp only [e1, e2]
  exact ⟨h1, h2, Nat.le_trans (Nat.min_le_left _ _) h3, h⟩
/-! ### for x in reversed(a list or a tuple that nobody changes) -/
def iRevA (te : DE) : DTI := fun τ M Q => te τ M fun d M1 => match d with
  | .tup ds => Q (itRev ds) M1
  | .lst ds => Q (itRev ds) M1
  | _ => False
theorem rel_revL {K : PySem.W.Frag} {F : Hp} {a : Addr} {xs : List V} {ds : List D} (hs : F a = some (.lst xs)) (ra : RepAll K F xs ds) : ItRel K F (Itv K a xs.length) (itRev ds) where
  go := fun i F2 R H M e st _ hi => by
    have hi : i < ds.length := hi
    have hl := ra.len
    exact ⟨by omega, xs, xs[xs.length - 1 - i]'(by omega), .inl (.inl (st.fz _ _ (e _ _ hs))), List.getElem?_eq_getElem _⟩
  yld := fun i F2 R H M x H' e st _ hi y => by
    obtain ⟨rfl, y⟩ := y
    have hi : i < ds.length := hi
    have hl := ra.len
    obtain ⟨d', e1, e2⟩ := (ra.ext e).get (y xs (.inl (.inl (st.fz _ _ (e _ _ hs)))))
    rw [hl] at e1
    exact ⟨F2, Ext.refl, st, by show Rep K F2 x (ds.getD (ds.length - 1 - i) .non); rw [getD_of e1]; exact e2, fun _ _ => rfl⟩
  stop := fun F2 R H M e st _ => by
    show xs.length ≤ ds.length
    rw [ra.len]; exact Nat.le_refl _
section
variable {X : Cx} {F0 : Bs} {tg e : Expr} {te : DE}
theorem id_revA {p pos : Pos} (hg : Gl X "reversed") (hm : X.mg "reversed" = none) (he : PE X e (liE X.K F0 te)) (hs : starEach [e] X.env = (false, eval e X.env) :: starEach [] X.env := by rfl) : PI X tg (.Call (.Name "reversed" p) [e] [] pos) (liI X.K F0 (iRevA te)) := by
  refine piImp (RT.pi_revA hg hm he hs) fun σ H Q ⟨F, R, τ, M, Q', e0, st, sl, q, k⟩ => ?_
  refine ⟨F, R, τ, M, _, e0, st, sl, q, fun v H1 F1 d M1 e1 st1 r1 q1 => ?_⟩
  cases d <;> try exact q1.elim
  · cases r1 with
    | tup hs ra => exact ⟨_, _, rfl, .inr ⟨sqTMono st1.fz hs, k _ _ _ _ _ e1 st1 (rel_rev hs ra) q1⟩⟩
  · cases r1 with
    | lst hs ra => exact ⟨_, _, rfl, .inl ⟨.inl (.inl (st1.fz _ _ hs)), k _ _ _ _ _ e1 st1 (rel_revL hs ra) q1⟩⟩
end
def kRevA (QI : ItD → Mp → Prop) : QD := fun d M1 => match d with
  | .tup ds => QI (itRev ds) M1
  | .lst ds => QI (itRev ds) M1
  | _ => False
theorem s_revA {te : DE} {τ : SD} {M : Mp} {QI : ItD → Mp → Prop} (h : te τ M (kRevA QI)) : iRevA te τ M QI := h
theorem s_krevaL {ds : List D} {M : Mp} {QI : ItD → Mp → Prop} (h : QI (itRev ds) M) : kRevA QI (.lst ds) M := h
theorem s_krevaT {ds : List D} {M : Mp} {QI : ItD → Mp → Prop} (h : QI (itRev ds) M) : kRevA QI (.tup ds) M := h
/-- over reversed(data that nobody changes), each item gives one, and M stays -/
theorem s_klcRev {plain : Bool} {is vs : List Nat} {fin : List D → Mp → QD → Prop} {te : DE} {τ : SD} {M : Mp} {Q : QD} {α : Type} {xs : List α} (enc : α → D) (f : α → D) (hl : xs.length ≤ sizeLine)
    (hs : ∀ a ∈ xs, ∃ τ2, bindD plain is (enc a) (wipeD τ vs) = some τ2 ∧ ∀ Q : QD, Q (f a) M → te τ2 M Q) (hd : fin (xs.reverse.map f) M Q) : kLc fin plain is vs dYes te τ Q (itRev (xs.map enc)) M := by
  refine ⟨fun i acc M' => M' = M ∧ acc = (xs.reverse.map f).take i, ⟨rfl, rfl⟩, fun _ _ _ _ _ => trivial, fun i acc M' hi p => ?_, fun acc M' p => ?_⟩
  · obtain ⟨rfl, rfl⟩ := p
    have hi : i < (xs.map enc).length := hi
    rw [List.length_map] at hi
    have e := List.getElem?_eq_getElem (l := xs) (i := xs.length - 1 - i) (by omega)
    obtain ⟨τ2, e2, k⟩ := hs xs[xs.length - 1 - i] (List.getElem_mem _)
    have e3 : (itRev (xs.map enc)).at' i = enc xs[xs.length - 1 - i] := getD_of (by rw [List.length_map, List.getElem?_map, e]; rfl)
    rw [e3, e2]
    refine k _ ⟨?_, rfl, ?_⟩
    · rw [List.length_take, List.length_map, List.length_reverse]; omega
    · rw [List.take_succ, List.getElem?_map, List.getElem?_reverse hi, e]; rfl
  · obtain ⟨rfl, rfl⟩ := p
    have e : (xs.reverse.map f).take (itRev (xs.map enc)).n = xs.reverse.map f := List.take_of_length_le (by show _ ≤ (xs.map enc).length; rw [List.length_map, List.length_map, List.length_reverse]; exact Nat.le_refl _)
    rw [e]
    exact hd
/-! ### two sources in one comprehension -/
def dLc2G (fin : List D → Mp → QD → Prop) (wi : DTI) (plain : Bool) (is vs : List Nat) (tt : DT) (wi1 : DTI) (plain1 : Bool) (is1 vs1 : List Nat) (tt1 : DT) (te : DE) : DE := fun τ M Q => wi τ M fun j M1 => ∃ Pv : Nat → List D → Mp → Prop, Pv 0 [] M1 ∧ (∀ i acc M, i ≤ j.n → Pv i acc M → j.ok M) ∧
  (∀ i acc M, i < j.n → Pv i acc M → match bindD plain is (j.at' i) (wipeD τ vs) with
    | some τ2 => tt τ2 M fun b M3 => if b = true then wi1 τ2 M3 fun j1 M4 => ∃ P1 : Nat → List D → Mp → Prop, P1 0 acc M4 ∧ (∀ k acc M, k ≤ j1.n → P1 k acc M → j1.ok M) ∧
        (∀ k acc M, k < j1.n → P1 k acc M → match bindD plain1 is1 (j1.at' k) (wipeD τ2 vs1) with
          | some τ3 => tt1 τ3 M fun b M5 => if b = true then te τ3 M5 fun e M6 => acc.length < sizeLine ∧ P1 (k + 1) (acc ++ [e]) M6 else P1 (k + 1) acc M5
          | none => False) ∧ ∀ acc M, P1 j1.n acc M → Pv (i + 1) acc M
      else Pv (i + 1) acc M3
    | none => False) ∧ ∀ acc M, Pv j.n acc M → fin acc M Q
abbrev dLc2 := dLc2G fun acc M Q => Q (.lst acc) M
section
variable {K : PySem.W.Frag} {F0 : Bs} {fin : List D → Mp → QD → Prop} {wi wi1 : DTI} {g g1 : TG} {plain plain1 : Bool} {is vs is1 vs1 : List Nat} {tt tt1 : DT} {te : DE}
theorem li_lc2 (hf : FinOk K fin) (ht : TgOk K g plain is) (hv : ∀ i ∈ is, i ∈ vs) (ht1 : TgOk K g1 plain1 is1) (hv1 : ∀ i ∈ is1, i ∈ vs1) {σ : L2.St} {H : Hp} {Q : VK} (h : liE K F0 (dLc2G fin wi plain is vs tt wi1 plain1 is1 vs1 tt1 te) σ H Q) : tLc2 (liI K F0 wi) g (liT K F0 tt) (liI K F0 wi1) g1 (liT K F0 tt1) (liE K F0 te) vs vs1 σ H Q := by
  obtain ⟨F, R, τ, M, Q', e0, st, sl, q, k⟩ := h
  refine ⟨F, R, τ, M, _, e0, st, sl, q, fun J H1 F1 j M1 e1 st1 rl ⟨Pv, p0, pk, ps, pd⟩ => fun L hL => ?_⟩
  have rL : R L = none := by
    cases z : R L with
    | none => rfl
    | some o => exact ((st1.rs L o z).1.there hL).elim
  have fL : F1 L = none := by
    cases z : F1 L with
    | none => rfl
    | some o => have := st1.fz L o z; rw [hL] at this; cases this
  have mL : M1 L = none := by
    cases z : M1 L with
    | none => rfl
    | some o => obtain ⟨_, u, hu, _⟩ := st1.ow L o z; rw [hL] at hu; cases hu
  have exR : ∀ o, Ext R (upd R L o) := fun o a u e => by rw [upd_ne (ne_of_none e rL)]; exact e
  have st0 : Stt K F1 (upd R L (.lst [])) (upd H1 L (.lst [])) M1 := by
    refine ⟨fun a u e => ?_, fun a u e => ?_, fun a m e => ?_, st1.nf, fun a u e => ?_⟩
    rotate_left 3
    · by_cases z : a = L
      · subst z; rw [upd_same] at e; cases e; trivial
      · rw [upd_ne z] at e; exact st1.nr a u e
    · rw [upd_ne (ne_of_none e fL)]; exact st1.fz _ _ e
    · by_cases z : a = L
      · subst z; rw [upd_same] at e; cases e; exact ⟨upd_same, fL, mL⟩
      · rw [upd_ne z] at e
        obtain ⟨h1, h2, h3⟩ := st1.rs a u e
        exact ⟨h1.step (fun b v n eb => by rw [upd_ne n]; exact eb) z (fun c y => by rw [hL] at y; cases y), h2, h3⟩
    · have z : a ≠ L := fun z => by subst z; rw [mL] at e; cases e
      rw [upd_ne z]; exact st1.ow a m e
  refine ⟨fun i m H => m = j.n - i ∧ i ≤ j.n ∧ ∃ F2 M2 xs acc, Ext F1 F2 ∧ Stt K F2 (upd R L (.lst xs)) H M2 ∧ RepAll K F2 xs acc ∧ Pv i acc M2, ⟨j.n, by simp, Nat.zero_le _, F1, M1, [], [], Ext.refl, st0, .nil, p0⟩, ?_⟩
  rintro i m H2 ⟨rfl, hi, F2, M2, xs, acc, e2, st2, ra, p2⟩
  have ok := pk i acc M2 hi p2
  by_cases hlt : i < j.n
  · refine .inr ⟨rl.go i F2 _ H2 M2 e2 st2 ok hlt, fun H' => ∃ F2 M2 xs acc, Ext F1 F2 ∧ Stt K F2 (upd R L (.lst xs)) H' M2 ∧ RepAll K F2 xs acc ∧ Pv (i + 1) acc M2, fun H' z => ⟨j.n - (i + 1), by omega, rfl, hlt, z⟩, fun x H3 y => ?_⟩
    obtain ⟨F3, e3, st3, rx, _⟩ := rl.yld i F2 _ H2 M2 x H3 e2 st2 ok hlt y
    have step := ps i acc M2 hlt p2
    split at step
    · rename_i τ3 eb
      have sl3 : Slots K F3 (wipe σ vs) (wipeD τ vs) := (sl.ext (e1.trans (e2.trans e3))).wipe vs
      refine ht.run F3 _ H3 M2 x _ _ _ τ3 _ st3 sl3 rx eb fun σ4 sl4 ⟨ys, hl, e4⟩ => ⟨by rw [e4, wipe_fold is ys _ hv, wipe_wipe], ?_⟩
      have b3 : Bas F0 F3 (upd R L (.lst xs)) := ⟨(e0.trans (e1.trans (e2.trans e3))).f, e0.r.trans (exR _), e0.t.ext (exR _)⟩
      refine ⟨F3, _, τ3, M2, _, b3, st3, sl4, step, fun b H5 F5 M5 e5 st5 q5 => ?_⟩
      cases b with
      | false =>
        rw [if_neg Bool.false_ne_true] at q5 ⊢
        exact ⟨F5, M5, xs, acc, e2.trans (e3.trans e5), st5, ra.ext (e3.trans e5), q5⟩
      | true =>
        rw [if_pos rfl] at q5 ⊢
        refine ⟨F5, _, τ3, M5, _, b3.trans e5, st5, sl4.ext e5, q5, fun J1 H6 F6 j1 M6 e6 st6 rl1 ⟨P1, a0, ak, as, ad⟩ => ?_⟩
        have x6 : Ext F1 F6 := e2.trans (e3.trans (e5.trans e6))
        refine ⟨fun k m H => m = j1.n - k ∧ k ≤ j1.n ∧ ∃ F7 M7 xs acc, Ext F6 F7 ∧ Stt K F7 (upd R L (.lst xs)) H M7 ∧ RepAll K F7 xs acc ∧ P1 k acc M7, ⟨j1.n, by simp, Nat.zero_le _, F6, M6, xs, acc, Ext.refl, st6, ra.ext (e3.trans (e5.trans e6)), a0⟩, ?_⟩
        rintro k' m' H7 ⟨rfl, hk', F7, M7, xs7, acc7, e7, st7, ra7, p7⟩
        have ok1 := ak k' acc7 M7 hk' p7
        by_cases hlt1 : k' < j1.n
        · refine .inr ⟨rl1.go k' F7 _ H7 M7 e7 st7 ok1 hlt1, fun H' => ∃ F7 M7 xs acc, Ext F6 F7 ∧ Stt K F7 (upd R L (.lst xs)) H' M7 ∧ RepAll K F7 xs acc ∧ P1 (k' + 1) acc M7, fun H' z => ⟨j1.n - (k' + 1), by omega, rfl, hlt1, z⟩, fun x8 H8 y8 => ?_⟩
          obtain ⟨F8, e8, st8, rx8, _⟩ := rl1.yld k' F7 _ H7 M7 x8 H8 e7 st7 ok1 hlt1 y8
          have step1 := as k' acc7 M7 hlt1 p7
          split at step1
          · rename_i τ8 eb8
            have sl8 : Slots K F8 (wipe σ4 vs1) (wipeD τ3 vs1) := (sl4.ext (e5.trans (e6.trans (e7.trans e8)))).wipe vs1
            refine ht1.run F8 _ H8 M7 x8 _ _ _ τ8 _ st8 sl8 rx8 eb8 fun σ9 sl9 ⟨ys9, hl9, e9⟩ => ⟨by rw [e9, wipe_fold is1 ys9 _ hv1, wipe_wipe], ?_⟩
            have b8 : Bas F0 F8 (upd R L (.lst xs7)) := ⟨((e0.trans e1).trans (x6.trans (e7.trans e8))).f, e0.r.trans (exR _), e0.t.ext (exR _)⟩
            refine ⟨F8, _, τ8, M7, _, b8, st8, sl9, step1, fun b H10 F10 M10 e10 st10 q10 => ?_⟩
            cases b with
            | false =>
              rw [if_neg Bool.false_ne_true] at q10 ⊢
              exact ⟨F10, M10, xs7, acc7, e7.trans (e8.trans e10), st10, ra7.ext (e8.trans e10), q10⟩
            | true =>
              rw [if_pos rfl] at q10 ⊢
              refine ⟨F10, _, τ8, M10, _, b8.trans e10, st10, sl9.ext e10, q10, fun z H11 F11 dz M11 e11 st11 r11 ⟨q11, q12⟩ => ?_⟩
              have ra11 := ra7.ext (e8.trans (e10.trans e11))
              exact ⟨xs7, (st11.rs L _ upd_same).1, by rw [ra11.len]; exact q11, F11, M11, xs7 ++ [z], acc7 ++ [dz], e7.trans (e8.trans (e10.trans e11)), st11.reput, ra11.app (.cons r11 .nil), q12⟩
          · exact step1.elim
        · have e : k' = j1.n := by omega
          subst e
          exact .inl ⟨rl1.stop F7 _ H7 M7 e7 st7 ok1, F7, M7, xs7, acc7, x6.trans e7, st7, ra7, ad acc7 M7 p7⟩
    · exact step.elim
  · have e : i = j.n := by omega
    subst e
    exact .inl ⟨rl.stop F2 _ H2 M2 e2 st2 ok, hf F2 R H2 M2 L xs acc Q' Q st2 rL ra (pd acc M2 p2) (k.ext (e1.trans e2))⟩
end
section
variable {X : Cx} {F0 : Bs} {elt tg iter tg1 iter1 : Expr} {ifs ifs1 : List Expr} {scope : Scope} {own : List (Str × Nat)} {pos : Pos} {wi wi1 : DTI} {g g1 : TG} {plain plain1 : Bool} {is vs is1 vs1 : List Nat} {tt tt1 : DT} {te : DE} {fin : List D → Mp → QD → Prop}
theorem sd_setLc2G {i : Nat} {y : Str} {py spos : Pos} (hf : FinOk X.K fin) (hc : X.calm = true) (hN : X.N.Nodup) (hy : X.N[i]? = some y) (hyl : X.env.scope.names.lookup y = some .local)
    (hsw : swapsWith (.ListComp elt [⟨tg, iter, ifs, 0⟩, ⟨tg1, iter1, ifs1, 0⟩] scope pos) (some (.Name y py)) spos.line X.env = pure true) (hi : PI X tg iter (liI X.K F0 wi)) (ok : BlkOk X.N X.env.scope scope own) (hvs : own.map (·.2) = vs) (hto : TgOk X.K g plain is) (hv : ∀ i ∈ is, i ∈ vs) (hto1 : TgOk X.K g1 plain1 is1) (hv1 : ∀ i ∈ is1, i ∈ vs1) (hvv : ∀ i ∈ vs1, i ∈ vs)
    (hg : ∀ (s : Shared) (H : Hp) (C : Addr) (cl : List (Str × Addr)) (fp : List Addr), PG (X.blk s H scope (compEnvC scope cl C X.env) fp) tg g)
    (ht : ∀ (s : Shared) (H : Hp) (C : Addr) (cl : List (Str × Addr)) (fp : List Addr), PTs (X.blk s H scope (compEnvC scope cl C X.env) fp) ifs (liT X.K F0 tt))
    (hi1 : ∀ (s : Shared) (H : Hp) (C : Addr) (cl : List (Str × Addr)) (fp : List Addr), PI (X.blk s H scope (compEnvC scope cl C X.env) fp) tg1 iter1 (liI X.K F0 wi1))
    (hg1 : ∀ (s : Shared) (H : Hp) (C : Addr) (cl : List (Str × Addr)) (fp : List Addr), PG (X.blk s H scope (compEnvC scope cl C X.env) fp) tg1 g1)
    (ht1 : ∀ (s : Shared) (H : Hp) (C : Addr) (cl : List (Str × Addr)) (fp : List Addr), PTs (X.blk s H scope (compEnvC scope cl C X.env) fp) ifs1 (liT X.K F0 tt1))
    (he : ∀ (s : Shared) (H : Hp) (C : Addr) (cl : List (Str × Addr)) (fp : List Addr), PE (X.blk s H scope (compEnvC scope cl C X.env) fp) elt (liE X.K F0 te)) (hs : ∀ x, foldedSetIterable iter X.env x = pure x := by intro _; rfl) (hs1 : ∀ env x, foldedSetIterable iter1 env x = pure x := by intro _ _; rfl) :
    PS X (.Assign [.Name y py] (.ListComp elt [⟨tg, iter, ifs, 0⟩, ⟨tg1, iter1, ifs1, 0⟩] scope pos) spos) (liS X.K F0 (dSet i (dLc2G fin wi plain is vs tt wi1 plain1 is1 vs1 tt1 te))) := by
  subst hvs
  exact psImp (ps_setLc2 hc hN hy hyl hsw hi ok hvv hg ht hi1 hg1 ht1 he hs hs1) fun D σ H ⟨F, R, τ, M, D', e0, st, sl, q, k⟩ =>
    li_lc2 (Q := fun x H1 => gName i x σ H1 D.nx) hf hto hv hto1 hv1 ⟨F, R, τ, M, _, e0, st, sl, q, fun v H2 F2 d M2 e2 st2 r2 q2 => k.nx _ _ _ _ _ e2 st2 ((sl.ext e2).put r2 i) q2⟩
end
/-! ### sorted(a list of pairs of ints): the same pairs in some order -/
theorem RepAll.perm {K : PySem.W.Frag} {F : Hp} {ys xs : List V} (p : ys.Perm xs) : ∀ {ds : List D}, RepAll K F xs ds → ∃ es : List D, es.Perm ds ∧ RepAll K F ys es := by
  induction p with
  | nil => intro ds r; exact ⟨ds, List.Perm.refl _, r⟩
  | cons x p ih =>
    intro ds r
    cases r with
    | cons h t =>
      obtain ⟨es, pe, re⟩ := ih t
      exact ⟨_ :: es, pe.cons _, .cons h re⟩
  | swap x y l =>
    intro ds r
    cases r with
    | cons h t =>
      cases t with
      | cons h2 t => exact ⟨_ :: _ :: _, List.Perm.swap _ _ _, .cons h2 (.cons h t)⟩
  | trans p1 p2 ih1 ih2 =>
    intro ds r
    obtain ⟨es, pe, re⟩ := ih2 r
    obtain ⟨fs, pf, rf⟩ := ih1 re
    exact ⟨fs, pf.trans pe, rf⟩
def dSortedU (B : Int) : RC := fun ds M Q => match ds with
  | [x] => match lsOf M x with
    | some es => es.length < 64 ∧ (∀ e ∈ es, ∃ ns : List Int, e = .tup (ns.map D.int) ∧ ns.length = 2 ∧ ∀ m ∈ ns, 0 ≤ m ∧ m < B) ∧ ∀ es' : List D, es'.Perm es → Q (.lst es') M
    | none => False
  | _ => False
theorem RepAll.each {K : PySem.W.Frag} {F : Hp} : ∀ {xs : List V} {ds : List D}, RepAll K F xs ds → ∀ x ∈ xs, ∃ d ∈ ds, Rep K F x d
  | _, _, .nil, x, h => by cases h
  | _, _, .cons r t, x, h => by
    rcases List.mem_cons.mp h with rfl | h
    · exact ⟨_, List.mem_cons_self, r⟩
    · obtain ⟨d, hd, r'⟩ := RepAll.each t x h
      exact ⟨d, List.mem_cons_of_mem _ hd, r'⟩
theorem cd_sortedU {X : Cx} {F0 : Bs} {B : Int} : CallR X (.builtin "sorted") (liC X.K F0 (dSortedU B)) := by
  refine caImp (cr_sortT (d := 2) (B := B) (by decide)) fun xs H Q ⟨F, R, M, ds, Q', e0, st, ra, q, k⟩ => ?_
  unfold dSortedU at q
  split at q <;> try exact q.elim
  obtain ⟨x, rfl, r⟩ := rep1 ra
  split at q <;> try exact q.elim
  rename_i es h1
  obtain ⟨a, vs, rfl, hs, rv⟩ := ls_get st r h1
  obtain ⟨q1, q2, q3⟩ := q
  refine ⟨a, vs, rfl, hs, by rw [rv.len]; exact q1, fun x hx => ?_, fun ys p hp _ hh => ?_⟩
  · obtain ⟨d, hd, rd⟩ := rv.each x hx
    obtain ⟨ns, rfl, hl, hb⟩ := q2 d hd
    obtain ⟨t, us, rfl, ht, ru⟩ := tp_get st rd
    have := RepAll.ints ru
    subst this
    exact ⟨ns, ⟨t, rfl, ht⟩, hl, hb⟩
  · obtain ⟨es', pe, re⟩ := RepAll.perm hp rv
    exact k.lst st hh re (q3 es' pe)
theorem s_sortedU {B : Int} {es : List D} {x : D} {M : Mp} {Q : QD} (e : lsOf M x = some es) (h1 : es.length < 64) (h2 : ∀ e ∈ es, ∃ ns : List Int, e = .tup (ns.map D.int) ∧ ns.length = 2 ∧ ∀ m ∈ ns, 0 ≤ m ∧ m < B) (h : ∀ es' : List D, es'.Perm es → Q (.lst es') M) : dSortedU B [x] M Q := by
  unfold dSortedU
  simp only [e]
  exact ⟨h1, h2, h⟩
end DL

namespace L2
open PySem PySem.Spec PyProof.Rows
section
variable {prog : Program} {w : World} {A : Around} {E : Value → Shared → Prop} {s : Shared} {Q : Value → Shared → Prop} {t : Addr} {its : List Value} {ns : List Int}
theorem sum_rawT (hh : A.handled = none) (hl : s.heap.IsTuple t its.toArray) (hi : IntsAre its ns)
    (h : ∀ h' tk t', (∀ b o, s.heap.get? b = some o → h'.get? b = some o) → Q (.int ns.sum t') { s with heap := h', toks := tk }) : wpAny (model prog w) A (call (.builtin "sum") [.ref t]) Q E s := by
  obtain ⟨xs, e⟩ := hi.allInts.items
  have hn : numsOf (intItems xs).toList = ns := by rw [← e]; exact hi.numsOf
  rw [nums_intItems] at hn
  rw [e] at hl
  refine PySem.W.ktm_sumG hh hl fun h' tk t' hk => ?_
  have := h h' tk t' hk
  rw [preSum_eq, List.take_of_length_le (by simp), hn]; exact this
end
end L2
namespace DL
open PySem PySem.Spec PyProof.Rows L2 LamX NdefX
/-- sum of a list or a tuple of ints -/
def dSumA : RC := fun ds M Q => match ds with
  | [d] => match sqOf M d with
    | some xs => match intsOf xs with
      | some ns => Q (.int ns.sum) M
      | none => False
    | none => False
  | _ => False
theorem cr_sumA {X : Cx} (hc : X.calm = true) : CallR X (.builtin "sum") (fun vs H Q => ∃ (a : Addr) (ns : List Int), vs = [V.ref a] ∧ (SqL X.K H a (ns.map V.int) ∨ SqT X.K H a (ns.map V.int)) ∧ Q (.int ns.sum) H) := by
  intro pins s σ H vs us Q I r h
  obtain ⟨a, ns, rfl, hs | hs, q⟩ := h
  · exact cr_sum hc pins s σ H _ us Q I r ⟨a, ns, rfl, hs, q⟩
  · obtain ⟨its, rv, hl, _⟩ := I.tuple hs
    rw [Vals.ref1 r]
    exact sum_rawT (I.ok.hd hc) hl rv.ints fun h' tk t' hk => ⟨.int _, H, I.kept hk, ⟨_, rfl⟩, q⟩
theorem cd_sumA {X : Cx} {F0 : Bs} (hc : X.calm = true) : CallR X (.builtin "sum") (liC X.K F0 dSumA) := by
  refine caImp (cr_sumA hc) fun xs H Q ⟨F, R, M, ds, Q', e0, st, rs, q, k⟩ => ?_
  unfold dSumA at q
  split at q <;> try exact q.elim
  obtain ⟨x, rfl, r⟩ := rep1 rs
  split at q <;> try exact q.elim
  rename_i ys h1
  split at q <;> try exact q.elim
  rename_i bs h2
  obtain ⟨a, vs, rfl, hs, ra⟩ := sq_get st r h1
  rw [ints_eq h2] at ra
  have ev := ra.ints
  subst ev
  exact ⟨a, bs, rfl, hs, k _ _ _ _ _ Ext.refl st (.int _) q⟩
theorem s_sumA {ns : List Int} {x : D} {M : Mp} {Q : QD} {ds : List D} (e : sqOf M x = some ds) (e2 : intsOf ds = some ns) (h : Q (.int ns.sum) M) : dSumA [x] M Q := by unfold dSumA; simp only [e, e2]; exact h
/-! two sources, the steps -/
section
variable {τ : SD} {M : Mp} {Q : QD}
def kLc2 (fin : List D → Mp → QD → Prop) (plain : Bool) (is vs : List Nat) (tt : DT) (wi1 : DTI) (plain1 : Bool) (is1 vs1 : List Nat) (tt1 : DT) (te : DE) (τ : SD) (Q : QD) : ItD → Mp → Prop := fun j M1 => ∃ Pv : Nat → List D → Mp → Prop, Pv 0 [] M1 ∧ (∀ i acc M, i ≤ j.n → Pv i acc M → j.ok M) ∧
  (∀ i acc M, i < j.n → Pv i acc M → match bindD plain is (j.at' i) (wipeD τ vs) with
    | some τ2 => tt τ2 M fun b M3 => if b = true then wi1 τ2 M3 fun j1 M4 => ∃ P1 : Nat → List D → Mp → Prop, P1 0 acc M4 ∧ (∀ k acc M, k ≤ j1.n → P1 k acc M → j1.ok M) ∧
        (∀ k acc M, k < j1.n → P1 k acc M → match bindD plain1 is1 (j1.at' k) (wipeD τ2 vs1) with
          | some τ3 => tt1 τ3 M fun b M5 => if b = true then te τ3 M5 fun e M6 => acc.length < sizeLine ∧ P1 (k + 1) (acc ++ [e]) M6 else P1 (k + 1) acc M5
          | none => False) ∧ ∀ acc M, P1 j1.n acc M → Pv (i + 1) acc M
      else Pv (i + 1) acc M3
    | none => False) ∧ ∀ acc M, Pv j.n acc M → fin acc M Q
theorem s_lc2 {fin : List D → Mp → QD → Prop} {wi wi1 : DTI} {plain plain1 : Bool} {is vs is1 vs1 : List Nat} {tt tt1 : DT} {te : DE} (h : wi τ M (kLc2 fin plain is vs tt wi1 plain1 is1 vs1 tt1 te τ Q)) : dLc2G fin wi plain is vs tt wi1 plain1 is1 vs1 tt1 te τ M Q := h
/-- over data that nobody changes, behind each of it over a range -/
theorem s_klc2 {fin : List D → Mp → QD → Prop} {wi1 : DTI} {plain : Bool} {is vs vs1 : List Nat} {i1 : Nat} {te : DE} {α : Type} {x : D} {xs : List α} (enc : α → D) (n : α → Nat) (f : α → Nat → D) (hx : ∀ M, sqOf M x = some (xs.map enc)) (hl : (xs.flatMap fun a => (List.range (n a)).map (f a)).length ≤ sizeLine)
    (hs : ∀ a ∈ xs, ∃ τ2, bindD plain is (enc a) (wipeD τ vs) = some τ2 ∧ (∀ QI : ItD → Mp → Prop, QI (itRng 0 (n a)) M → wi1 τ2 M QI) ∧ ∀ (k : Nat) (Q : QD), k < n a → Q (f a k) M → te ((wipeD τ2 vs1).set i1 (some (.int (0 + (k : Nat))))) M Q)
    (hd : fin (xs.flatMap fun a => (List.range (n a)).map (f a)) M Q) : kLc2 fin plain is vs dYes wi1 true [i1] vs1 dYes te τ Q (itSeq x (xs.map enc)) M := by
  refine ⟨fun i acc M' => M' = M ∧ acc = (xs.take i).flatMap fun a => (List.range (n a)).map (f a), ⟨rfl, rfl⟩, fun i acc M' hi p => hx M', fun i acc M' hi p => ?_, fun acc M' p => ?_⟩
  · obtain ⟨rfl, rfl⟩ := p
    have hi : i < (xs.map enc).length := hi
    rw [List.length_map] at hi
    have e := List.getElem?_eq_getElem hi
    obtain ⟨τ2, e2, k1, k2⟩ := hs xs[i] (List.getElem_mem hi)
    have e3 : (itSeq x (xs.map enc)).at' i = enc xs[i] := getD_of (by rw [List.getElem?_map, e]; rfl)
    have e4 : xs.take (i + 1) = xs.take i ++ [xs[i]] := by rw [List.take_succ, e]; rfl
    have e5 : xs = xs.take i ++ (xs[i] :: xs.drop (i + 1)) := by rw [← List.drop_eq_getElem_cons hi, List.take_append_drop]
    have hl2 : ((xs.take i).flatMap fun a => (List.range (n a)).map (f a)).length + n xs[i] ≤ sizeLine := by
      refine Nat.le_trans ?_ hl
      have : xs.flatMap (fun a => (List.range (n a)).map (f a)) = (xs.take i ++ (xs[i] :: xs.drop (i + 1))).flatMap (fun a => (List.range (n a)).map (f a)) := congrArg (fun l => l.flatMap fun a => (List.range (n a)).map (f a)) e5
      rw [this, List.flatMap_append, List.flatMap_cons, List.length_append, List.length_append, List.length_map, List.length_range]
      omega
    rw [e3, e2]
    refine k1 _ ⟨fun k acc M2 => M2 = M' ∧ acc = ((xs.take i).flatMap fun a => (List.range (n a)).map (f a)) ++ (List.range k).map (f xs[i]), ⟨rfl, by simp⟩, fun _ _ _ _ _ => trivial, fun k acc M2 hk p => ?_, fun acc M2 p => ?_⟩
    · obtain ⟨rfl, rfl⟩ := p
      have hk : k < n xs[i] := hk
      refine k2 k _ hk ⟨?_, rfl, ?_⟩
      · rw [List.length_append, List.length_map, List.length_range]; omega
      · rw [List.range_succ, List.map_append, List.append_assoc]; rfl
    · obtain ⟨rfl, rfl⟩ := p
      refine ⟨rfl, ?_⟩
      rw [e4, List.flatMap_append, List.flatMap_cons, List.flatMap_nil, List.append_nil]; rfl
  · obtain ⟨rfl, rfl⟩ := p
    have e : xs.take (itSeq x (xs.map enc)).n = xs := List.take_of_length_le (by show _ ≤ (xs.map enc).length; rw [List.length_map]; exact Nat.le_refl _)
    rw [e]
    exact hd
end
/-- over data that does not change meanwhile, each item gives one, and M stays -/
theorem s_klcMapM {plain : Bool} {is vs : List Nat} {fin : List D → Mp → QD → Prop} {te : DE} {τ : SD} {M : Mp} {Q : QD} {x : D} {α : Type} {xs : List α} (enc : α → D) (f : α → D) (hx : sqOf M x = some (xs.map enc)) (hl : xs.length ≤ sizeLine)
    (hs : ∀ a ∈ xs, ∃ τ2, bindD plain is (enc a) (wipeD τ vs) = some τ2 ∧ ∀ Q : QD, Q (f a) M → te τ2 M Q) (hd : fin (xs.map f) M Q) : kLc fin plain is vs dYes te τ Q (itSeq x (xs.map enc)) M := by
  refine ⟨fun i acc M' => M' = M ∧ acc = (xs.map f).take i, ⟨rfl, rfl⟩, fun i acc M' hi p => by rw [p.1]; exact hx, fun i acc M' hi p => ?_, fun acc M' p => ?_⟩
  · obtain ⟨rfl, rfl⟩ := p
    have hi : i < (xs.map enc).length := hi
    rw [List.length_map] at hi
    have e := List.getElem?_eq_getElem hi
    obtain ⟨τ2, e2, k⟩ := hs xs[i] (List.getElem_mem hi)
    have e3 : (itSeq x (xs.map enc)).at' i = enc xs[i] := getD_of (by rw [List.getElem?_map, e]; rfl)
    rw [e3, e2]
    refine k _ ⟨?_, rfl, ?_⟩
    · rw [List.length_take, List.length_map]; omega
    · rw [List.take_succ, List.getElem?_map, e]; rfl
  · obtain ⟨rfl, rfl⟩ := p
    have e : (xs.map f).take (itSeq x (xs.map enc)).n = xs.map f := List.take_of_length_le (by show _ ≤ (xs.map enc).length; rw [List.length_map, List.length_map]; exact Nat.le_refl _)
    rw [e]
    exact hd
theorem sq_same {M M' : Mp} {a : Addr} {c : D} (h : ∀ b, b ≠ a → M' b = M b) (hc : c ≠ .ref a) : sqOf M' c = sqOf M c := by
  cases c with
  | ref b =>
    have hb : b ≠ a := fun z => hc (by rw [z])
    show (match M' b with | some (.lst ds) => some ds | _ => none) = (match M b with | some (.lst ds) => some ds | _ => none)
    rw [h b hb]
  | _ => rfl
end DL

namespace DL
open PySem PySem.Spec PyProof.Rows L2
/-- a list, a few times, to be changed in place -/
def dMulM : R2D := fun x y M Q => match y with
  | .int k => match ltOf M x with
    | some xs => -(2 ^ 63) ≤ k ∧ k < 2 ^ 63 ∧ xs.length * k.toNat ≤ sizeLine ∧ ∀ p, M p = none → Q (.ref p) (updM M p (.lst (List.replicate k.toNat xs).flatten))
    | none => False
  | _ => False
/-- xs[i] op= e -/
def dAugS (to ti te : DE) (r : R2D) : DS := fun D τ M => to τ M fun o M1 => ti τ M1 fun i M2 => match o, i with
  | .ref a, .int k => match M2 a with
    | some (.lst xs) => match xs[k.toNat]? with
      | some x => 0 ≤ k ∧ te τ M2 fun y M3 => r x y M3 fun z M4 => dSetL (.ref a) (.int k) z M4 fun M5 => D.nx τ M5
      | none => False
    | _ => False
  | _, _ => False
section
variable {X : Cx} {F0 : Bs}
theorem od_mulM : OpD X F0 (binaryOp .Mult) dMulM := by
  intro pins s σ H x y v u Q I rx ry ⟨F, R, M, d, e, Q', e0, st, rd, re, q, k⟩
  unfold dMulM at q
  split at q
  · split at q
    · rename_i xs h1
      obtain ⟨a, vs, rfl, g1, ra⟩ := lt_get st rd h1
      cases re
      exact op_rep pins s σ H _ _ v u Q I rx ry ⟨a, _, vs, rfl, rfl, g1, q.1, q.2.1, by rw [ra.len]; exact q.2.2.1, fun p hp => k.own st hp (m := .lst _) (ra.reps _) (q.2.2.2 p)⟩
    · exact q.elim
  · exact q.elim
def liGet (K : PySem.W.Frag) : V → V → Hp → VK → Prop := fun x y H Q => ∃ p xs k v, x = .ref p ∧ y = .int k ∧ SqL K H p xs ∧ 0 ≤ k ∧ xs[k.toNat]? = some v ∧ Q v H
theorem pget_list : PGet X (liGet X.K) := by
  intro pins s σ H x y v u Q I rx ry h
  obtain ⟨p, xs, k, z, rfl, rfl, hq, h0, he, q⟩ := h
  cases rx
  obtain ⟨t, rfl⟩ := ry
  obtain ⟨its, r, pl, hz⟩ := I.list hq
  obtain ⟨w, ew, rw'⟩ := r.get he
  have hl := r.length
  have hn := line63
  have hj := (List.getElem?_eq_some_iff.mp he).1
  exact wpAny_getItem_list pl.isList h0 (by omega) (by simpa using ew) ⟨z, H, I, rw', q⟩
theorem sd_augS {o i e : Expr} {to ti te : DE} {op : Operator} {r : R2D} {tpos pos : Pos} (he : PE X e (liE X.K F0 te)) (ho : PE X o (liE X.K F0 to)) (hi : PE X i (liE X.K F0 ti)) (hp : OpD X F0 (inplaceOp op) r)
    (ha : ∀ ov iv new, augStore i ov iv new = (do holding [new, ov, iv] (setItem ov iv new); release [new, ov, iv] []; pure .next) := by intros; rfl) :
    PS X (.AugAssign (.Subscript o i tpos) op e pos) (liS X.K F0 (dAugS to ti te r)) := by
  refine psImp (ps_augS ho hi pget_list he (tip := liR X.K F0 r) hp (std_list (F0 := F0)) ha) fun D σ H ⟨F, R, τ, M, D', e0, st, sl, q, k⟩ => ?_
  refine ⟨F, R, τ, M, _, e0, st, sl, q, fun ov H1 F1 d1 M1 e1 st1 r1 q1 => ?_⟩
  refine ⟨F1, R, τ, M1, _, e0.trans e1, st1, sl.ext e1, q1, fun iv H2 F2 d2 M2 e2 st2 r2 q2 => ?_⟩
  split at q2 <;> try exact q2.elim
  rename_i a kx
  split at q2 <;> try exact q2.elim
  rename_i xs em
  split at q2 <;> try exact q2.elim
  rename_i x0 ex
  obtain ⟨k0, q2⟩ := q2
  have r1' := r1.ext e2
  cases r1'; cases r2
  obtain ⟨_, u, hu, ru⟩ := st2.ow _ _ em
  obtain ⟨vs, rfl, ra⟩ := ru.lst_iff
  obtain ⟨z, ez, rz⟩ := ra.getD ex
  refine ⟨a, vs, kx, z, rfl, rfl, .inl (.inl hu), k0, ez, ?_⟩
  refine ⟨F2, R, τ, M2, _, e0.trans (e1.trans e2), st2, sl.ext (e1.trans e2), q2, fun w H3 F3 d3 M3 e3 st3 r3 q3 => ?_⟩
  refine ⟨F3, R, M3, x0, d3, _, e0.trans (e1.trans (e2.trans e3)), st3, rz.ext e3, r3, q3, fun w2 H4 F4 d4 M4 e4 st4 r4 q4 => ?_⟩
  exact ⟨F4, R, M4, .ref a, .int kx, d4, _, e0.trans (e1.trans (e2.trans (e3.trans e4))), st4, .ref a, .int _, r4, q4, fun H5 F5 M5 e5 st5 q5 => k.nx _ _ _ _ _ (e1.trans (e2.trans (e3.trans (e4.trans e5)))) st5 (sl.ext (e1.trans (e2.trans (e3.trans (e4.trans e5))))) q5⟩
end
section
variable {te to ti : DE} {r : R2D} {τ : SD} {M : Mp} {Q : QD} {nx : SD → Mp → Prop} {rt : QD} {bk ct : SD → Mp → Prop}
theorem s_mulM {x : D} {xs : List D} {k : Int} (e : ltOf M x = some xs) (e1 : -(2 ^ 63) ≤ k) (e2 : k < 2 ^ 63) (e3 : xs.length * k.toNat ≤ sizeLine) (h : ∀ p, M p = none → Q (.ref p) (updM M p (.lst (List.replicate k.toNat xs).flatten))) : dMulM x (.int k) M Q := by
  unfold dMulM; simp only [e]; exact ⟨e1, e2, e3, h⟩
def kAs4 (nx : SD → Mp → Prop) (τ : SD) (a : Addr) (k : Int) : QD := fun z M4 => dSetL (.ref a) (.int k) z M4 fun M5 => nx τ M5
def kAs2 (te : DE) (r : R2D) (nx : SD → Mp → Prop) (τ : SD) (o : D) : QD := fun i M2 => match o, i with
  | .ref a, .int k => match M2 a with
    | some (.lst xs) => match xs[k.toNat]? with
      | some x => 0 ≤ k ∧ te τ M2 (kOp2 r (kAs4 nx τ a k) x)
      | none => False
    | _ => False
  | _, _ => False
def kAs1 (ti te : DE) (r : R2D) (nx : SD → Mp → Prop) (τ : SD) : QD := fun o M1 => ti τ M1 (kAs2 te r nx τ o)
theorem s_augS (h : to τ M (kAs1 ti te r nx τ)) : dAugS to ti te r ⟨nx, rt, bk, ct⟩ τ M := h
theorem s_kas1 {o : D} (h : ti τ M (kAs2 te r nx τ o)) : kAs1 ti te r nx τ o M := h
theorem s_kas2 {a : Addr} {k : Int} {xs : List D} {x : D} (e : M a = some (.lst xs)) (e2 : xs[k.toNat]? = some x) (k0 : 0 ≤ k) (h : te τ M (kOp2 r (kAs4 nx τ a k) x)) : kAs2 te r nx τ (.ref a) (.int k) M := by
  unfold kAs2; simp only [e, e2]; exact ⟨k0, h⟩
theorem s_kas4 {a : Addr} {k : Int} {xs : List D} {jn : Nat} {z : D} (e : M a = some (.lst xs)) (e2 : ixN xs.length k = some jn) (h : nx τ (updM M a (.lst (xs.set jn z)))) : kAs4 nx τ a k z M := by
  show dSetL _ _ _ _ _
  unfold dSetL; simp only [e, e2]; exact h
end
/-! ### a def whose list, told at its end, is never changed again -/
def rtF (Q : QD) : QD := fun d M' => ∃ (a : Addr) (ds : List D) (M2 : Mp), d = .ref a ∧ M' a = some (.lst ds) ∧ (∀ b m, M2 b = some m → M' b = some m) ∧ M2 a = none ∧ Q (.lst ds) M2
abbrev fnF (Q : QD) : EndsD := ⟨fun _ _ => False, rtF Q, fun _ _ => False, fun _ _ => False⟩
def RdsF (t : DS) (N : List Str) (sp : SpD) : Prop := ∀ ds M Q E, sp ds M Q E → t (fnF Q) (startD N ds) M
section
variable {P : Program} {w : World} {K : PySem.W.Frag} {mg : Str → Option Value} {base : Heap}
theorem Stt.frz {F R H : Hp} {M M2 : Mp} {a : Addr} {ds : List D} (st : Stt K F R H M) (e : M a = some (.lst ds)) (le : ∀ b m, M2 b = some m → M b = some m) (n : M2 a = none) : ∃ F2, Ext F F2 ∧ Stt K F2 R H M2 ∧ Rep K F2 (.ref a) (.lst ds) := by
  obtain ⟨fa, o, ho, ro⟩ := st.ow _ _ e
  obtain ⟨vs, rfl, ra⟩ := ro.lst_iff
  have ex : Ext F (upd F a (.lst vs)) := fun b u eb => by
    have : b ≠ a := fun z => by subst z; rw [fa] at eb; cases eb
    rw [upd_ne this]; exact eb
  refine ⟨upd F a (.lst vs), ex, ⟨fun b u eb => ?_, fun b u eb => ?_, fun b m eb => ?_, fun b u eb => ?_, st.nr⟩, .lst upd_same (ra.ext ex)⟩
  · by_cases z : b = a
    · subst z; rw [upd_same] at eb; cases eb; exact ho
    · rw [upd_ne z] at eb; exact st.fz b u eb
  · obtain ⟨h1, h2, h3⟩ := st.rs b u eb
    have z : b ≠ a := fun z => by subst z; rw [e] at h3; cases h3
    refine ⟨h1, by rw [upd_ne z]; exact h2, ?_⟩
    cases e2 : M2 b with
    | none => rfl
    | some m => rw [le b m e2] at h3; cases h3
  · have z : b ≠ a := fun z => by subst z; rw [n] at eb; cases eb
    obtain ⟨h1, o, h2, h3⟩ := st.ow b m (le b m eb)
    exact ⟨by rw [upd_ne z]; exact h1, o, h2, h3.ext ex⟩
  · by_cases z : b = a
    · subst z; rw [upd_same] at eb; cases eb; trivial
    · rw [upd_ne z] at eb; exact st.nf b u eb
theorem Fun.okF {x qual : Str} {st : Stmt} {f : Addr} {fd : FuncData} {N ps : List Str} {k : Nat} {sp : SpD} {T : List (Addr × Str)} (F : Fun K x qual st f fd) (S : FnScope N ps (defScope st)) (len : ∀ ds M Q E, sp ds M Q E → ds.length = ps.length) {t : DS}
    (hbody : ∀ (cdv : Value) (A : Around) (outer : List Env) (s : Shared) (H : Hp) (E : XK) (F0 R0 : Hp), Room k (A.deeper (envOfC qual (defScope st) s.heap.objs.size f cdv)) →
      PSs (cxOf CX0 P w K mg base N qual (defScope st) f cdv A outer s H E).nox (defBody st) (liS K ⟨F0, R0, T⟩ t))
    (hq : RdsF t N sp) : FnOk P w K mg base CX0 (k + 1) f fd ps (liSp K T sp) := by
  refine F.ok S (fun vs H Q E ⟨F, R, ds, M, Q', E', st, _, ra, h, _, _⟩ => by rw [ra.len]; exact len _ _ _ _ h) fun cdv A outer s H vs Q E hr ⟨F, R, ds, M, Q', E', st, tr, ra, h, kQ, kE⟩ => ?_
  refine ⟨_, hbody cdv A outer s H E F R hr, F, R, startD N ds, M, _, ⟨Ext.refl, Ext.refl, tr⟩, st, slots_start ra, hq ds M Q' E' h, ?_⟩
  refine ⟨fun σ2 H2 F2 τ2 M2 e2 st2 sl2 z => z.elim, fun v H2 F2 d M2 e2 st2 r2 ⟨a, ds, M3, ed, ea, le, na, q3⟩ => ?_, fun _ _ _ _ _ _ _ _ z => z, fun _ _ _ _ _ _ _ _ z => z⟩
  subst ed
  cases r2
  obtain ⟨F3, ex, st3, r3⟩ := st2.frz ea le na
  exact kQ _ _ _ _ _ (e2.trans ex) st3 r3 q3
end
theorem s_endF {Q : QD} {a : Addr} {ds : List D} {M M2 : Mp} (e : M a = some (.lst ds)) (le : ∀ b m, M2 b = some m → M b = some m) (n : M2 a = none) (h : Q (.lst ds) M2) : rtF Q (.ref a) M := ⟨a, ds, M2, rfl, e, le, n, h⟩
theorem reps_ints {K : PySem.W.Frag} {F : Hp} : ∀ ns : List Int, RepAll K F (ns.map V.int) (ns.map D.int)
  | [] => .nil
  | n :: ns => .cons (.int n) (reps_ints ns)
theorem cd_sorted {X : Cx} {F0 : Bs} : CallR X (.builtin "sorted") (liC X.K F0 dSorted) := by
  refine caImp cr_sortedI fun xs H Q ⟨F, R, M, ds, Q', e0, st, ra, q, k⟩ => ?_
  unfold dSorted at q
  split at q <;> try exact q.elim
  obtain ⟨x, rfl, r⟩ := rep1 ra
  split at q <;> try exact q.elim
  rename_i es h1
  split at q <;> try exact q.elim
  rename_i ns h2
  obtain ⟨a, vs, rfl, hs, rv⟩ := ls_get st r h1
  rw [ints_eq h2] at rv
  have ev := rv.ints
  subst ev
  exact ⟨a, ns, rfl, hs, fun ns' p hp hsrt hh => k.lst st hh (reps_ints ns') (q ns' hp hsrt)⟩
end DL

namespace DL
open PySem PySem.Spec PyProof.Rows L2
theorem _root_.L2.Room.unitsD {k : Nat} {A : Around} (r : Room k A) : A.units + 65 < cLine := by have := r.un; omega
/-- is True, is False -/
def dIsB : R2D := fun x y M Q => match x, y with
  | .bl a, .bl b => Q (.bl (decide (a = b))) M
  | _, _ => False
def dNotB : R2D := fun x y M Q => match x, y with
  | .bl a, .bl b => Q (.bl (!decide (a = b))) M
  | _, _ => False
/-- in, of data of any depth -/
def dInD (neg : Bool) : R2D := fun x y M Q => match (drf M x).py, (drf M y).py with
  | some p, some (.list qs) => SeqAt.shaped p = true ∧ SeqAt.shaped (.list qs) = true ∧ Q (.bl (if neg then !(qs.any fun z => PyData.eqv z p) else qs.any fun z => PyData.eqv z p)) M
  | _, _ => False
section
variable {X : Cx} {F0 : Bs}
theorem od_isB : OpD X F0 (compareOp .Is) dIsB := by
  refine opImp op_isBl fun x y H Q ⟨F, R, M, d, e, Q', e0, st, rd, re, q, k⟩ => ?_
  unfold dIsB at q
  split at q <;> try exact q.elim
  cases rd; cases re
  exact ⟨_, _, rfl, rfl, k _ _ _ _ _ Ext.refl st (.bl _) q⟩
theorem od_notB : OpD X F0 (compareOp .IsNot) dNotB := by
  refine opImp op_notBl fun x y H Q ⟨F, R, M, d, e, Q', e0, st, rd, re, q, k⟩ => ?_
  unfold dNotB at q
  split at q <;> try exact q.elim
  cases rd; cases re
  exact ⟨_, _, rfl, rfl, k _ _ _ _ _ Ext.refl st (.bl _) q⟩
theorem od_inD (hu : X.A.units + 65 < cLine) : OpD X F0 (compareOp .In) (dInD false) := by
  refine opImp (op_inD hu) fun x y H Q ⟨F, R, M, d, e, Q', e0, st, rd, re, q, k⟩ => ?_
  unfold dInD at q
  split at q <;> try exact q.elim
  rename_i p qs h1 h2
  exact ⟨p, qs, dp_drf st rd h1, dp_drf st re h2, q.1, q.2.1, k _ _ _ _ _ Ext.refl st (.bl _) q.2.2⟩
theorem od_notInD (hu : X.A.units + 65 < cLine) : OpD X F0 (compareOp .NotIn) (dInD true) := by
  refine opImp (op_notInD hu) fun x y H Q ⟨F, R, M, d, e, Q', e0, st, rd, re, q, k⟩ => ?_
  unfold dInD at q
  split at q <;> try exact q.elim
  rename_i p qs h1 h2
  exact ⟨p, qs, dp_drf st rd h1, dp_drf st re h2, q.1, q.2.1, k _ _ _ _ _ Ext.refl st (.bl _) q.2.2⟩
end
theorem s_isB {a b : Bool} {M : Mp} {Q : QD} (h : Q (.bl (decide (a = b))) M) : dIsB (.bl a) (.bl b) M Q := h
theorem s_notB {a b : Bool} {M : Mp} {Q : QD} (h : Q (.bl (!decide (a = b))) M) : dNotB (.bl a) (.bl b) M Q := h
theorem s_inD {neg : Bool} {x y : D} {M : Mp} {Q : QD} {p : PyData} {qs : List PyData} (e1 : (drf M x).py = some p) (e2 : (drf M y).py = some (.list qs)) (h1 : SeqAt.shaped p = true) (h2 : SeqAt.shaped (.list qs) = true) (h : Q (.bl (if neg then !(qs.any fun z => PyData.eqv z p) else qs.any fun z => PyData.eqv z p)) M) : dInD neg x y M Q := by
  unfold dInD; simp only [e1, e2]; exact ⟨h1, h2, h⟩
end DL

namespace DL
open PySem PySem.Spec PyProof.Rows L2 LamX NdefX
/-! g(e1, lambda ..: body, e3), g may raise -/
def dCallLX (C : Ct) (k : Nat) (js : List Nat) (n : Nat) (tb : DE) (sp : SpD) (E : XD) (t1 t3 : DE) : DE := fun τ M Q => t1 τ M fun d1 M1 => ∃ ws : List D, js.map (fun j => τ[j]?) = ws.map (fun d => some (some d)) ∧
  ∀ M2, MoreRaw M1 M2 → t3 τ M2 fun d3 M3 => M3 = M2 ∧ ∀ d Mf, MoreRaw M2 Mf → HasFn C k Mf d (spL tb n ws) → sp [d1, d, d3] Mf (fun r M4 => M4 = Mf ∧ Q r M1) (fun e fs M4 => M4 = Mf ∧ E e fs M1)
section
variable {X : Cx} {F0 : Bs} {kf kb : Nat} {g c P : Addr} {gfd : FuncData} {psg ps fr N : List Str} {gx q : Str} {sp : SpD} {t1 t3 tb : DE} {js : List Nat} {params : Arguments} {body e1 e3 : Expr} {scope : Scope} {p lpos pos : Pos}
theorem pd_callLX {E' : XD} {E : XK} (hE : ∀ e dx H, liX X.K F0 E' e dx H → E e dx H) (hx : Passes (L2.CX X.prog X.w) X E) (Fg : FnOk X.prog X.w X.K X.mg X.base (L2.CX X.prog X.w) kf g gfd psg (liSp X.K F0.T sp)) (hr : Room kf X.A) (hg : Gl X gx) (hm : X.mg gx = some (.ref g)) (hk : PySem.W.keepIn X.K (.ref g) = true) (hb : Binds X.K gfd psg [])
    (TB : TabB X.base X.mg c P) (hcode : X.env.code = .ref c) (hT : (P, q) ∈ F0.T) (hq : X.env.qual ++ "<lambda>" = q) (h1 : PE X e1 (liE X.K F0 t1)) (h3 : PE X e3 (liE X.K F0 t3))
    (hdef : defaultsOf params X.env = ([], [])) (hfn : ∀ x, X.fn x = true) (hsc : ndefB X.env.scope scope fr = true) (S : NScope N ps fr scope) (hN : N.length = ps.length + fr.length) (hjs : js.map (fun j => X.N[j]?) = fr.map some)
    (hbind : ∀ (cl : List (Str × Addr)) (pm cv ctv : Value) (us : List Value), us.length = ps.length → bindArgs (PySem.W.kla_fn "<lambda>" q params body scope cl pm cv ctv) ⟨us, []⟩ = pure (ps.zip us))
    (hbody : ∀ (f c' : Addr) (cl : List (Str × Addr)) (A : Around) (outer : List Env) (s : Shared) (H F0' R0' : Hp), Room kb (A.deeper (envF (lamF q params scope cl c') f s.heap.objs.size)) →
      PE (ncx CX0 X.prog X.w X.K X.mg X.base N (lamF q params scope cl c') f A outer s H E0).nox body (liE X.K ⟨F0', R0', F0.T⟩ tb))
    (hdb : (gx == ("__debug__" : Str)) = false := by decide) (he : starEach [e1, .Lambda params body scope lpos, e3] X.env = [(false, eval e1 X.env), (false, eval (.Lambda params body scope lpos) X.env), (false, eval e3 X.env)] := by rfl) (he1 : starEach [.Lambda params body scope lpos, e3] X.env = [(false, eval (.Lambda params body scope lpos) X.env), (false, eval e3 X.env)] := by rfl) :
    PE X (.Call (.Name gx p) [e1, .Lambda params body scope lpos, e3] [] pos) (liE X.K F0 (dCallLX (ctOf X F0) (kb + 1) js ps.length tb sp E' t1 t3)) := by
  refine ⟨fun pins s σ H Q I ⟨F, R, τ, M, Q', e0, st, sl, ht, kq⟩ => ?_⟩
  refine wpAny_Call_Name_kw (ld_glob I hg hm ?_ hdb)
  refine PySem.W.callWith_K (h₀ := X.base) I.ok.mod.kin hk ?_ (by rw [he, he1]) (by rw [he1]; rfl)
  rw [he]
  show wpAny _ _ (spliced [(false, eval e1 X.env), (false, eval (.Lambda params body scope lpos) X.env), (false, eval e3 X.env)]) _ _ s
  refine Calls.spliced_cons (thn (h1.run pins s σ H (fun v H1 => ∃ F1 d1 M1, Ext F F1 ∧ Stt X.K F1 R H1 M1 ∧ Rep X.K F1 v d1 ∧ ∃ ws : List D, js.map (fun j => τ[j]?) = ws.map (fun d => some (some d)) ∧
    ∀ M2, MoreRaw M1 M2 → t3 τ M2 fun d3 M3 => M3 = M2 ∧ ∀ d Mf, MoreRaw M2 Mf → HasFn (ctOf X F0) (kb + 1) Mf d (spL tb ps.length ws) → sp [d1, d, d3] Mf (fun r M4 => M4 = Mf ∧ Q' r M1) (fun e fs M4 => M4 = Mf ∧ E' e fs M1)) I
    ⟨F, R, τ, M, _, e0, st, sl, ht, fun v H2 F2 d M2 e2 st2 r2 q2 => ⟨F2, d, M2, e2, st2, r2, q2⟩⟩) fun u1 s1 ⟨v1, H1, I1, rl1, F1, d1, M1, ex1, st1, rp1, ws, hws, h2⟩ => ?_)
  have tbl1 : TabS H1 P q := by
    obtain ⟨⟨q', e, t⟩, _, _⟩ := st1.rs _ _ (e0.t _ hT)
    have : q = q' := by cases e; rfl
    rw [this]; exact t
  have nfr := ndef_free hsc
  have hfree : ∀ y ∈ scope.names, y.2 = .free → ∃ c, X.env.cells.lookup y.1 = some c := fun y hy e => (nfr y hy e).elim (fun z => I.ok.has _ (.inl z)) fun z => I.ok.has _ (.inr z)
  refine Calls.spliced_cons (lam_make3 I1 TB hcode hq tbl1 hdef hfree fun f c' pm ctv Ha sa Ia kp Ta nf fc fP hf hc => ?_)
  -- the function object and its code object are known
  let M2 : Mp := fun b => if b = f then some (.raw (PinO f (PySem.W.kla_obj "<lambda>" q params body scope (cloFrom X.env.cells scope.names []) pm c' ctv))) else if b = c' then some (.raw (CodeO c' q)) else M1 b
  have mP : R P = some (.xd [(q, .non)]) := e0.t _ hT
  have hP1 := st1.rs _ _ mP
  have ext_no : ∀ (F : Hp) a φ, F a = some (.ext φ) → (∀ a o, F a = some o → NX o) → False := fun F a φ e n => n a _ e
  have fF : F1 f = none := by
    cases e : F1 f with
    | none => rfl
    | some o => have := st1.fz _ _ e; rw [nf] at this; cases this
  have cF : ∀ o, F1 c' = some o → False := fun o e => by
    by_cases hcP : c' = P
    · subst hcP; rw [hP1.2.1] at e; cases e
    · have h1 := kp _ _ hcP (st1.fz _ _ e)
      rw [hc] at h1
      cases h1
      exact st1.nf _ _ e
  have M1f : M1 f = none := by
    cases e : M1 f with
    | none => rfl
    | some m => obtain ⟨_, o, ho, _⟩ := st1.ow _ _ e; rw [nf] at ho; cases ho
  have M2f : M2 f = some (.raw (PinO f (PySem.W.kla_obj "<lambda>" q params body scope (cloFrom X.env.cells scope.names []) pm c' ctv))) := if_pos rfl
  have M2c : M2 c' = some (.raw (CodeO c' q)) := (if_neg (Ne.symm fc)).trans (if_pos rfl)
  have M2s : ∀ b, b ≠ f → b ≠ c' → M2 b = M1 b := fun b h1 h2 => (if_neg h1).trans (if_neg h2)
  have M1c : ∀ m, M1 c' = some m → m = .raw (CodeO c' q) := fun m e => by
    have hcP : c' ≠ P := fun z => by subst z; rw [hP1.2.2] at e; cases e
    obtain ⟨_, o, ho, ro⟩ := st1.ow _ _ e
    have h1 := kp _ _ hcP ho
    rw [hc] at h1
    cases h1
    unfold CodeO at ro ⊢
    cases m with
    | raw u => have : _ = u := ro; rw [this]
    | _ => exact ro.elim
  have more1 : MoreRaw M1 M2 := ⟨fun a m e => by
    by_cases ha : a = f
    · subst ha; rw [M1f] at e; cases e
    by_cases hc2 : a = c'
    · subst hc2; rw [M2c, M1c m e]
    · rw [M2s a ha hc2]; exact e, fun a m e => by
    by_cases ha : a = f
    · subst ha; rw [M2f] at e; cases e; exact .inr ⟨_, rfl⟩
    by_cases hc2 : a = c'
    · subst hc2; rw [M2c] at e; cases e; exact .inr ⟨_, rfl⟩
    · rw [M2s a ha hc2] at e; exact .inl e⟩
  have sta : Stt X.K F1 R Ha M2 := by
    refine ⟨fun a o e => kp _ _ (fun z => by subst z; rw [hP1.2.1] at e; cases e) (st1.fz a o e), fun a o e => ?_, fun a m e => ?_, st1.nf, st1.nr⟩
    · obtain ⟨g1, g2, g3⟩ := st1.rs a o e
      have af : a ≠ f := fun z => by subst z; exact g1.there nf
      by_cases haP : a = P
      · subst haP
        rw [mP] at e
        cases e
        refine ⟨⟨q, rfl, Ta⟩, g2, ?_⟩
        have ac : a ≠ c' := fun z => by
          obtain ⟨ps', z1, _⟩ := Ta
          rw [z, hc] at z1
          exact codeO_ne ps' (Option.some.inj z1)
        rw [M2s a af ac]; exact g3
      · have ga : RsOk Ha a o := by
          refine g1.step (x := P) (fun b u n eb => kp b u n eb) haP fun q' z => ?_
          obtain ⟨⟨q2, _, ps', z1, _⟩, _⟩ := hP1
          rw [z] at z1
          exact codeO_ne ps' (Option.some.inj z1)
        have ac : a ≠ c' := fun z => by
          subst z
          have nx := st1.nr a o e
          cases o with
          | xd fs =>
            obtain ⟨q2, _, ps', z1, _⟩ := ga
            rw [hc] at z1
            exact codeO_ne ps' (Option.some.inj z1)
          | ext φ => exact nx
          | _ =>
            have ga : Ha a = some _ := ga
            rw [hc] at ga
            unfold CodeO at ga
            cases ga
        exact ⟨ga, g2, by rw [M2s a af ac]; exact g3⟩
    · by_cases haf : a = f
      · subst haf
        rw [M2f] at e
        cases e
        exact ⟨fF, _, hf, (show RepO X.K F1 (PinO _ _) (.raw (PinO _ _)) from rfl)⟩
      by_cases hac : a = c'
      · subst hac
        rw [M2c] at e
        cases e
        refine ⟨?_, _, hc, (show RepO X.K F1 (CodeO _ _) (.raw (CodeO _ _)) from rfl)⟩
        cases ef : F1 a with
        | none => rfl
        | some o => exact (cF o ef).elim
      · rw [M2s a haf hac] at e
        obtain ⟨g1, o, g2, g3⟩ := st1.ow a m e
        exact ⟨g1, o, kp _ _ (fun z => by subst z; rw [hP1.2.2] at e; cases e) g2, g3⟩
  refine Calls.spliced_cons (thn (h3.run pins sa σ Ha (fun v H3 => ∃ F3 d3, Ext F1 F3 ∧ Stt X.K F3 R H3 M2 ∧ Rep X.K F3 v d3 ∧ ∀ d Mf, MoreRaw M2 Mf → HasFn (ctOf X F0) (kb + 1) Mf d (spL tb ps.length ws) → sp [d1, d, d3] Mf (fun r M4 => M4 = Mf ∧ Q' r M1) (fun e fs M4 => M4 = Mf ∧ E' e fs M1)) Ia
    ⟨F1, R, τ, M2, _, e0.trans ex1, sta, sl.ext ex1, h2 M2 more1, fun v H2 F2 d M3 e2 st2 r2 ⟨q1, q2⟩ => by subst q1; exact ⟨F2, d, e2, st2, r2, q2⟩⟩) fun u3 s3 ⟨v3, H3, I3, rl3, F3, d3, ex3, st3, rp3, hsp⟩ => ?_)
  refine Calls.spliced_nil ⟨I3.kIn, ?_⟩
  -- the captured cells
  obtain ⟨wv, hwv, rw_⟩ := caps_get (sl.ext (ex1.trans ex3)) hws
  have cp : Caps X (cloFrom X.env.cells scope.names []) fr js := Caps.made I3.ok nfr (ndef_fr hsc) hjs
  have CA := cells_of I3 cp
  rw [hwv] at CA
  let cl := cloFrom X.env.cells scope.names []
  let cs : List Addr := cl.map (·.2)
  let ob : Addr → Obj := fun b => (s3.heap.get? b).getD default
  have clm : ∀ y b, (y, b) ∈ cl → X.env.cells.lookup y = some b := fun y b hm => by
    rcases cloFrom_mem hm with z | ⟨z1, z2⟩
    · cases z
    · obtain ⟨c1, hc1⟩ := hfree _ z1 rfl
      have hc1 : X.env.cells.lookup y = some c1 := hc1
      rw [z2, hc1]; rfl
  have csm : ∀ b ∈ cs, ∃ y, X.env.cells.lookup y = some b := fun b hb => by
    obtain ⟨⟨y, b'⟩, hm, rfl⟩ := List.mem_map.mp hb
    exact ⟨y, clm y b' hm⟩
  have cn3 : ∀ b ∈ cs, H3 b = none := fun b hb => by
    obtain ⟨y, hy⟩ := csm b hb
    exact I3.freeC y b hy
  have cob : ∀ b ∈ cs, s3.heap.get? b = some (ob b) ∧ ∃ v, (ob b).data = .cell v := fun b hb => by
    obtain ⟨y, hy⟩ := csm b hb
    obtain ⟨v, o, ho, hd⟩ := I3.cell y b hy
    have : ob b = o := by show (s3.heap.get? b).getD default = o; rw [ho]; rfl
    rw [this]
    exact ⟨ho, v, hd⟩
  have cab : ∀ b ∈ cs, X.s_0.heap.objs.size ≤ b := fun b hb => by
    obtain ⟨y, hy⟩ := csm b hb
    exact I3.ok.cab y b (hfn y) hy
  have cfr : ∀ b ∈ cs, b ∉ frs X.stack := fun b hb z => by
    obtain ⟨y, hy⟩ := csm b hb
    rcases List.mem_cons.mp (I3.stkSub b z) with e | e
    · exact I3.cne y b hy e
    · obtain ⟨_, o, ho, _⟩ := I3.ok.funs.mem e
      exact absurd (Nat.lt_of_lt_of_le (Heap.lt_size ho) (cab b hb)) (Nat.lt_irrefl _)
  let H' : Hp := fun b => if b ∈ cs then some (PinO b (ob b)) else H3 b
  let Mf : Mp := fun b => if b ∈ cs then some (.raw (PinO b (ob b))) else M2 b
  have H'n : ∀ b, b ∈ cs → H' b = some (PinO b (ob b)) := fun b h => if_pos h
  have H's : ∀ b, b ∉ cs → H' b = H3 b := fun b h => if_neg h
  have Mfn : ∀ b, b ∈ cs → Mf b = some (.raw (PinO b (ob b))) := fun b h => if_pos h
  have Mfs : ∀ b, b ∉ cs → Mf b = M2 b := fun b h => if_neg h
  have inH : ∀ b u, H3 b = some u → b ∉ cs ∧ H' b = some u := fun b u e => by
    have : b ∉ cs := fun z => by rw [cn3 b z] at e; cases e
    exact ⟨this, by rw [H's b this]; exact e⟩
  have M2n : ∀ b, b ∈ cs → M2 b = none := fun b hb => by
    cases e : M2 b with
    | none => rfl
    | some m => obtain ⟨_, o, ho, _⟩ := st3.ow _ _ e; rw [cn3 b hb] at ho; cases ho
  have F3n : ∀ b, b ∈ cs → F3 b = none := fun b hb => by
    cases e : F3 b with
    | none => rfl
    | some o => have := st3.fz _ _ e; rw [cn3 b hb] at this; cases this
  have more2 : MoreRaw M2 Mf := ⟨fun a m e => by
    have : a ∉ cs := fun z => by rw [M2n a z] at e; cases e
    rw [Mfs a this]; exact e, fun a m e => by
    by_cases ha : a ∈ cs
    · rw [Mfn a ha] at e; cases e; exact .inr ⟨_, rfl⟩
    · rw [Mfs a ha] at e; exact .inl e⟩
  have env3 := I3.env0
  have hok' : HOk X.prog X.w H' s3.heap := fun b u e => by
    by_cases hb : b ∈ cs
    · rw [H'n b hb] at e; cases e; exact pinO_ok (cob b hb).1
    · rw [H's b hb] at e
      exact (I3.hok b u e).stay (fun c v _ z => z) (fun c z => (inH c _ z).2) fun c xs z => (inH c _ z).2
  have env' : Env0 X.prog X.w X.K X.mg X.base X.A X.stack s3 H' := ⟨env3.frames, env3.mod, fun b o e => ⟨(env3.bs b o e).1, by
    have : b ∉ cs := fun z => absurd (Nat.lt_of_lt_of_le (Heap.lt_size e) (Nat.le_trans I3.ok.bsz (cab b z))) (Nat.lt_irrefl _)
    rw [H's b this]; exact (env3.bs b o e).2⟩, env3.bsz, env3.funs, fun b hb => by
    have : b ∉ cs := fun z => cfr b z hb
    rw [H's b this]; exact env3.frf b hb, hok', env3.bare⟩
  have st' : Stt X.K F3 R H' Mf := by
    refine ⟨fun a o e => (inH _ _ (st3.fz a o e)).2, fun a o e => ?_, fun a m e => ?_, st3.nf, st3.nr⟩
    · obtain ⟨g1, g2, g3⟩ := st3.rs a o e
      have ha : a ∉ cs := fun z => g1.there (cn3 a z)
      exact ⟨g1.imp (fun u eu => (inH _ _ eu).2) fun c q ec => (inH _ _ ec).2, g2, by rw [Mfs a ha]; exact g3⟩
    · by_cases ha : a ∈ cs
      · rw [Mfn a ha] at e
        cases e
        exact ⟨F3n a ha, _, H'n a ha, (show RepO X.K F3 (PinO _ _) (.raw (PinO _ _)) from rfl)⟩
      · rw [Mfs a ha] at e
        obtain ⟨g1, o, g2, g3⟩ := st3.ow a m e
        exact ⟨g1, o, (inH _ _ g2).2, g3⟩
  have Mff : Mf f = some (.raw (PinO f (PySem.W.kla_obj "<lambda>" q params body scope cl pm c' ctv))) := more2.1 _ _ M2f
  have Mfc : Mf c' = some (.raw (CodeO c' q)) := more2.1 _ _ M2c
  have has : HasFn (ctOf X F0) (kb + 1) Mf (.fn f F3) (spL tb ps.length ws) := by
    refine ⟨(f, PinO f (PySem.W.kla_obj "<lambda>" q params body scope cl pm c' ctv)) :: (c', CodeO c' q) :: cs.map fun c => (c, PinO c (ob c)), ⟨_, _, _, _, .inl List.mem_cons_self⟩, fun p hp => ?_, ?_⟩
    · rcases List.mem_cons.mp hp with rfl | hp
      · exact Mff
      rcases List.mem_cons.mp hp with rfl | hp
      · exact Mfc
      · obtain ⟨b, hb, rfl⟩ := List.mem_map.mp hp
        exact Mfn b hb
    · refine lam_sem (C := ctOf X F0) (wv := wv) S hN (fun us hl => hbind _ _ _ _ us hl) (fun A outer s H F0' R0' hr => hbody f c' cl A outer s H F0' R0' hr) (fun y b e => List.mem_map.mpr ⟨(y, b), PySem.mem_of_lookup e, rfl⟩) (fun b hb => (cob b hb).2) CA.inj (fun i y e => ?_) ?_ rw_
      · obtain ⟨b, hb1, hb2⟩ := CA.has i y e
        refine ⟨b, hb1, fun v ev => ?_⟩
        obtain ⟨u, ru, o, ho, hd⟩ := hb2 v (by rw [List.getElem?_map, ev]; rfl)
        refine ⟨u, ru, ?_⟩
        have : ob b = o := by show (s3.heap.get? b).getD default = o; rw [ho]; rfl
        rw [this]; exact hd
      · have := CA.len
        rwa [List.length_map] at this
  have hcall := hsp (.fn f F3) Mf more2 has
  have rl : Vals [v1, .ref f, v3] [u1, .ref f, u3] := .cons rl1 (.cons rfl (.cons rl3 .nil))
  have rp : RepAll X.K F3 [v1, .ref f, v3] [d1, .fn f F3, d3] := .cons (rp1.ext ex3) (.cons (.fn Ext.refl) (.cons rp3 .nil))
  have spv : liSp X.K F0.T sp [v1, .ref f, v3] H' (fun v H4 => ∃ F4 r, Ext F3 F4 ∧ Stt X.K F4 R H4 Mf ∧ Rep X.K F4 v r ∧ Q' r M1) (fun e dx H4 => ∃ F4 fs, Ext F3 F4 ∧ Stt X.K F4 R H4 Mf ∧ RepX X.K F4 H4 dx fs ∧ E' e fs M1) :=
    ⟨F3, R, _, Mf, _, _, st', e0.t, rp, hcall, fun v H4 F4 r M4 e4 st4 r4 ⟨z1, z2⟩ => by subst z1; exact ⟨F4, r, e4, st4, r4, z2⟩, fun e dx H4 F4 fs M4 e4 st4 rx ⟨z1, z2⟩ => by subst z1; exact ⟨F4, fs, e4, st4, rx, z2⟩⟩
  have hl3 : [u1, Value.ref f, u3].length = psg.length := by
    rw [← rl.length]; exact Fg.len _ _ _ _ spv
  have hbind3 := hb s3 [u1, .ref f, u3] I3.kIn (by rw [List.append_nil]; exact hl3)
  rw [List.append_nil] at hbind3
  refine wpAny_call (codeAny_mono (Fg.run X.A X.stack s3 H' ⟨[u1, .ref f, u3], []⟩ _ _ _ _ hr env' hbind3 rl spv) fun r s' hq => ?_)
  cases r with
  | error e =>
      obtain ⟨a0, B, H4, cls, dd, rfl, fl, hok4, ub, na, os4, ag, F4, fs, ex4, st4, rx4, q4⟩ := hq
      have obk : ∀ b ∈ cs, H4 b = some (PinO b (ob b)) ∧ B.get? b = some (ob b) := fun b hb => by
        obtain ⟨_, o, ho, ro⟩ := st4.ow _ _ (Mfn b hb)
        have : o = PinO b (ob b) := ro.raw
        subst this
        exact ⟨ho, pinO_at hok4 ho⟩
      let H5 : Hp := fun b => if b ∈ cs then none else H4 b
      have H5n : ∀ b, b ∈ cs → H5 b = none := fun b h => if_pos h
      have H5s : ∀ b, b ∉ cs → H5 b = H4 b := fun b h => if_neg h
      have keepNX : ∀ b u, H4 b = some u → NX u → H5 b = some u := fun b u e n => by
        have : b ∉ cs := fun z => by rw [(obk b z).1] at e; cases e; exact n
        rw [H5s b this]; exact e
      have un5 : UB (frs X.stack) H3 H5 s3.heap B s'.heap := by
        refine ⟨fun b o e n hf => ?_, ub.slot, fun b o e n => ?_, ub.there, fun b xs e => keepNX _ _ (ub.tups b xs (inH _ _ e).2) trivial, fun b o u e => keepNX _ _ (ub.frzs b o u (inH _ _ e).2) trivial, fun b ps e => ?_⟩
        · by_cases hb : b ∈ cs
          · rw [(cob b hb).1] at e; cases e; exact (obk b hb).2
          · exact ub.keep b o e (by rw [H's b hb]; exact n) hf
        · by_cases hb : b ∈ cs
          · exact H5n b hb
          · rw [H5s b hb]; exact ub.free b o e (by rw [H's b hb]; exact n)
        · obtain ⟨more, z⟩ := ub.tbls b ps (inH _ _ e).2
          exact ⟨more, keepNX _ _ z trivial⟩
      have hok5 : HOk X.prog X.w H5 B := fun b u e => by
        by_cases hb : b ∈ cs
        · rw [H5n b hb] at e; cases e
        · rw [H5s b hb] at e
          exact (hok4 b u e).stay (fun c v _ z => z) (fun c z => keepNX _ _ z trivial) fun c xs z => keepNX _ _ z trivial
      have st5 : Stt X.K F4 R H5 M1 := by
        refine ⟨fun a o e => keepNX _ _ (st4.fz a o e) (st4.nf a o e), fun a o e => ?_, fun a m e => ?_, st4.nf, st4.nr⟩
        · obtain ⟨g1, g2, g3⟩ := st4.rs a o e
          have ha : a ∉ cs := fun z => by rw [Mfn a z] at g3; cases g3
          refine ⟨g1.imp (fun u eu => by rw [H5s a ha]; exact eu) (fun b q' eb => ?_), g2, ?_⟩
          · by_cases hb : b ∈ cs
            · obtain ⟨v', hv'⟩ := (cob b hb).2
              exact (cell_code hok4 eb (obk b hb).2 hv').elim
            · rw [H5s b hb]; exact eb
          · cases em : M1 a with
            | none => rfl
            | some m =>
              have := (more1.trans more2).1 a m em
              rw [g3] at this; cases this
        · obtain ⟨g1, o, g2, g3⟩ := st4.ow a m ((more1.trans more2).1 a m e)
          have ha : a ∉ cs := fun z => by
            have := M2n a z
            rw [more1.1 a m e] at this; cases this
          exact ⟨g1, o, by rw [H5s a ha]; exact g2, g3⟩
      have na5 : H5 a0 = none := by
        by_cases hb : a0 ∈ cs
        · exact H5n a0 hb
        · rw [H5s a0 hb]; exact na
      have rx5 : RepX X.K F4 H5 dd fs := by
        cases dd with
        | none => cases fs <;> exact rx4
        | some x =>
          cases fs with
          | none => exact rx4
          | some fs =>
            obtain ⟨vs, h1, h2⟩ := rx4
            exact ⟨vs, keepNX _ _ h1 trivial, h2⟩
      exact hx pins σ H3 s3 _ s' I3 ⟨a0, B, H5, cls, dd, rfl, fl, hok5, un5, na5, os4, ag, hE _ _ _ ⟨F4, R, M1, fs, e0.trans (ex1.trans (ex3.trans ex4)), st5, rx5, q4⟩⟩
  | ok fl =>
    cases fl with
    | next => exact False.elim hq
    | brk => exact False.elim hq
    | cont => exact False.elim hq
    | ret u =>
      obtain ⟨v, H4, os4, bare4, un, hok4, rv, F4, r, ex4, st4, rp4, q4⟩ := hq
      -- the cells are the frame's own again
      have obk : ∀ b ∈ cs, H4 b = some (PinO b (ob b)) ∧ s'.heap.get? b = some (ob b) := fun b hb => by
        obtain ⟨_, o, ho, ro⟩ := st4.ow _ _ (Mfn b hb)
        have : o = PinO b (ob b) := ro.raw
        subst this
        exact ⟨ho, pinO_at hok4 ho⟩
      let H5 : Hp := fun b => if b ∈ cs then none else H4 b
      have H5n : ∀ b, b ∈ cs → H5 b = none := fun b h => if_pos h
      have H5s : ∀ b, b ∉ cs → H5 b = H4 b := fun b h => if_neg h
      have keepNX : ∀ b u, H4 b = some u → NX u → H5 b = some u := fun b u e n => by
        have : b ∉ cs := fun z => by rw [(obk b z).1] at e; cases e; exact n
        rw [H5s b this]; exact e
      have un5 : Un (frs X.stack) [] H3 H5 s3.heap s'.heap := by
        refine ⟨fun b o e n hf hx => ?_, fun b o e n hf hx => ?_, fun b o e n hx => ?_, fun b o e hx => un.there b o e hx, fun b xs e => keepNX _ _ (un.tups b xs (inH _ _ e).2) trivial, fun b o u e => keepNX _ _ (un.frzs b o u (inH _ _ e).2) trivial, fun b ps e => ?_⟩
        · by_cases hb : b ∈ cs
          · rw [(cob b hb).1] at e; cases e; exact (obk b hb).2
          · exact un.keep b o e (by rw [H's b hb]; exact n) hf hx
        · by_cases hb : b ∈ cs
          · exact absurd hf (cfr b hb)
          · exact un.slot b o e (by rw [H's b hb]; exact n) hf hx
        · by_cases hb : b ∈ cs
          · exact H5n b hb
          · rw [H5s b hb]; exact un.free b o e (by rw [H's b hb]; exact n) hx
        · obtain ⟨more, z⟩ := un.tbls b ps (inH _ _ e).2
          exact ⟨more, keepNX _ _ z trivial⟩
      have hok5 : HOk X.prog X.w H5 s'.heap := fun b u e => by
        by_cases hb : b ∈ cs
        · rw [H5n b hb] at e; cases e
        · rw [H5s b hb] at e
          exact (hok4 b u e).stay (fun c v _ z => z) (fun c z => keepNX _ _ z trivial) fun c xs z => keepNX _ _ z trivial
      have st5 : Stt X.K F4 R H5 M1 := by
        refine ⟨fun a o e => keepNX _ _ (st4.fz a o e) (st4.nf a o e), fun a o e => ?_, fun a m e => ?_, st4.nf, st4.nr⟩
        · obtain ⟨g1, g2, g3⟩ := st4.rs a o e
          have ha : a ∉ cs := fun z => by rw [Mfn a z] at g3; cases g3
          refine ⟨g1.imp (fun u eu => by rw [H5s a ha]; exact eu) (fun b q' eb => ?_), g2, ?_⟩
          · by_cases hb : b ∈ cs
            · obtain ⟨v', hv'⟩ := (cob b hb).2
              exact (cell_code hok4 eb (obk b hb).2 hv').elim
            · rw [H5s b hb]; exact eb
          · cases em : M1 a with
            | none => rfl
            | some m =>
              have := (more1.trans more2).1 a m em
              rw [g3] at this; cases this
        · obtain ⟨g1, o, g2, g3⟩ := st4.ow a m ((more1.trans more2).1 a m e)
          have ha : a ∉ cs := fun z => by
            have := M2n a z
            rw [more1.1 a m e] at this; cases this
          exact ⟨g1, o, by rw [H5s a ha]; exact g2, g3⟩
      exact I3.after ⟨v, H5, os4, bare4, un5, hok5, rv, kq v H5 F4 r M1 (ex1.trans (ex3.trans ex4)) st5 rp4 q4⟩
end
section
variable {P : Program} {w : World} {K : PySem.W.Frag} {mg : Str → Option Value} {base : Heap}
/-- a def with lambdas that may raise -/
theorem FunC.okXD {x qual : Str} {st : Stmt} {f c : Addr} {fd : FuncData} {N ps : List Str} {k : Nat} {sp : SpD} {T : List (Addr × Str)} (F : FunC K x qual st f fd c) (S : FnScope N ps (defScope st)) (len : ∀ ds M Q E, sp ds M Q E → ds.length = ps.length) {t : XD → DS}
    (hbody : ∀ (A : Around) (outer : List Env) (s : Shared) (H : Hp) (E : XK) (F0 R0 : Hp) (E' : XD), Room k (A.deeper (envOfC qual (defScope st) s.heap.objs.size f (.ref c))) → (∀ e dx H, liX K ⟨F0, R0, T⟩ E' e dx H → E e dx H) → Takes (cxOf (L2.CX P w) P w K mg base N qual (defScope st) f (.ref c) A outer s H E) (fun cls d _ H => E cls d H) →
      PSs (cxOf (L2.CX P w) P w K mg base N qual (defScope st) f (.ref c) A outer s H E) (defBody st) (liS K ⟨F0, R0, T⟩ (t E')))
    (hq : RdsX t N sp) : FnOk P w K mg base (L2.CX P w) (k + 1) f fd ps (liSp K T sp) := by
  obtain ⟨oc, od, kV, doc, pm, an, ct, osl, rfl, lk, hcd⟩ := F.ex
  refine fn_of lk hcd S (fun vs H Q E ⟨F, R, ds, M, Q', E', st, _, ra, h, _, _⟩ => by rw [ra.len]; exact len _ _ _ _ h) fun A outer s H vs Q E hr ⟨F, R, ds, M, Q', E', st, tr, ra, h, kQ, kE⟩ => ?_
  refine ⟨_, hbody A outer s H E F R E' hr (fun e dx H2 ⟨F2, R2, M2, fs, b2, st2, rx, q2⟩ => kE e dx H2 F2 fs M2 b2.f (st2.lessR b2.r) rx q2) (takes_of rfl rfl rfl rfl), F, R, startD N ds, M, _, ⟨Ext.refl, Ext.refl, tr⟩, st, slots_start ra, hq ds M Q' E' h, ?_⟩
  refine ⟨fun σ2 H2 F2 τ2 M2 e2 st2 sl2 ⟨M3, h3, q3⟩ => kQ _ _ _ _ _ e2 (st2.less h3) .non q3, fun v H2 F2 d M2 e2 st2 r2 ⟨M3, h3, q3⟩ => kQ _ _ _ _ _ e2 (st2.less h3) r2 q3, fun _ _ _ _ _ _ _ _ z => z, fun _ _ _ _ _ _ _ _ z => z⟩
end
/-! what an error leaves behind may be forgotten -/
def rtX (E : XD) : XD := fun e fs M' => ∃ M2 : Mp, (∀ a m, M2 a = some m → M' a = some m) ∧ E e fs M2
theorem s_endX {E : XD} {e : Value} {fs : Option (List (Str × D))} {M M2 : Mp} (h : ∀ a m, M2 a = some m → M a = some m) (q : E e fs M2) : rtX E e fs M := ⟨M2, h, q⟩
def RdsE (t : XD → DS) (N : List Str) (sp : SpD) : Prop := ∀ ds M Q E, sp ds M Q E → t (rtX E) (fnE Q) (startD N ds) M
section
variable {P : Program} {w : World} {K : PySem.W.Frag} {mg : Str → Option Value} {base : Heap}
theorem liX_rt {F0 : Bs} {E' : XD} {e : Value} {dx : Option Addr} {H : Hp} (h : liX K F0 (rtX E') e dx H) : liX K F0 E' e dx H := by
  obtain ⟨F, R, M, fs, b, st, rx, M2, le, q⟩ := h
  exact ⟨F, R, M2, fs, b, st.less le, rx, q⟩
theorem Fun.okXE {x qual : Str} {st : Stmt} {f : Addr} {fd : FuncData} {N ps : List Str} {k : Nat} {sp : SpD} {T : List (Addr × Str)} (F : Fun K x qual st f fd) (S : FnScope N ps (defScope st)) (len : ∀ ds M Q E, sp ds M Q E → ds.length = ps.length) {t : XD → DS}
    (hbody : ∀ (cdv : Value) (A : Around) (outer : List Env) (s : Shared) (H : Hp) (E : XK) (F0 R0 : Hp) (E' : XD), Room k (A.deeper (envOfC qual (defScope st) s.heap.objs.size f cdv)) → (∀ e dx H, liX K ⟨F0, R0, T⟩ E' e dx H → E e dx H) → Takes (cxOf (L2.CX P w) P w K mg base N qual (defScope st) f cdv A outer s H E) (fun cls d _ H => E cls d H) →
      PSs (cxOf (L2.CX P w) P w K mg base N qual (defScope st) f cdv A outer s H E) (defBody st) (liS K ⟨F0, R0, T⟩ (t E')))
    (hq : RdsE t N sp) : FnOk P w K mg base (L2.CX P w) (k + 1) f fd ps (liSp K T sp) :=
  Fun.okXD F S len (t := fun E => t (rtX E)) (fun cdv A outer s H E F0 R0 E' hr hE tk => hbody cdv A outer s H E F0 R0 (rtX E') hr (fun e dx H h => hE _ _ _ (liX_rt h)) tk) hq
theorem FunC.okXE {x qual : Str} {st : Stmt} {f c : Addr} {fd : FuncData} {N ps : List Str} {k : Nat} {sp : SpD} {T : List (Addr × Str)} (F : FunC K x qual st f fd c) (S : FnScope N ps (defScope st)) (len : ∀ ds M Q E, sp ds M Q E → ds.length = ps.length) {t : XD → DS}
    (hbody : ∀ (A : Around) (outer : List Env) (s : Shared) (H : Hp) (E : XK) (F0 R0 : Hp) (E' : XD), Room k (A.deeper (envOfC qual (defScope st) s.heap.objs.size f (.ref c))) → (∀ e dx H, liX K ⟨F0, R0, T⟩ E' e dx H → E e dx H) → Takes (cxOf (L2.CX P w) P w K mg base N qual (defScope st) f (.ref c) A outer s H E) (fun cls d _ H => E cls d H) →
      PSs (cxOf (L2.CX P w) P w K mg base N qual (defScope st) f (.ref c) A outer s H E) (defBody st) (liS K ⟨F0, R0, T⟩ (t E')))
    (hq : RdsE t N sp) : FnOk P w K mg base (L2.CX P w) (k + 1) f fd ps (liSp K T sp) :=
  FunC.okXD F S len (t := fun E => t (rtX E)) (fun A outer s H E F0 R0 E' hr hE tk => hbody A outer s H E F0 R0 (rtX E') hr (fun e dx H h => hE _ _ _ (liX_rt h)) tk) hq
end
section
variable {t1 t3 tb : DE} {τ : SD} {M : Mp} {Q : QD} {C : Ct} {k n : Nat} {js : List Nat} {sp : SpD} {E : XD} {d : D}
def kCallLX (C : Ct) (k : Nat) (js : List Nat) (n : Nat) (tb : DE) (sp : SpD) (E : XD) (t3 : DE) (τ : SD) (Q : QD) : QD := fun d1 M1 => ∃ ws : List D, js.map (fun j => τ[j]?) = ws.map (fun d => some (some d)) ∧
  ∀ M2, MoreRaw M1 M2 → t3 τ M2 fun d3 M3 => M3 = M2 ∧ ∀ d Mf, MoreRaw M2 Mf → HasFn C k Mf d (spL tb n ws) → sp [d1, d, d3] Mf (fun r M4 => M4 = Mf ∧ Q r M1) (fun e fs M4 => M4 = Mf ∧ E e fs M1)
theorem s_callLX (h : t1 τ M (kCallLX C k js n tb sp E t3 τ Q)) : dCallLX C k js n tb sp E t1 t3 τ M Q := h
def kCallLX3 (C : Ct) (k n : Nat) (tb : DE) (sp : SpD) (E : XD) (ws : List D) (d1 : D) (M1 M2 : Mp) (Q : QD) : QD := fun d3 M3 => M3 = M2 ∧ ∀ d Mf, MoreRaw M2 Mf → HasFn C k Mf d (spL tb n ws) → sp [d1, d, d3] Mf (fun r M4 => M4 = Mf ∧ Q r M1) (fun e fs M4 => M4 = Mf ∧ E e fs M1)
theorem s_kcallLX (ws : List D) (e : js.map (fun j => τ[j]?) = ws.map (fun d => some (some d))) (h : ∀ M2, MoreRaw M M2 → t3 τ M2 (kCallLX3 C k n tb sp E ws d M M2 Q)) : kCallLX C k js n tb sp E t3 τ Q d M := ⟨ws, e, h⟩
theorem s_kcallLX3 {ws : List D} {d1 d3 : D} {M1 : Mp} (h : ∀ d Mf, MoreRaw M Mf → HasFn C k Mf d (spL tb n ws) → sp [d1, d, d3] Mf (fun r M4 => M4 = Mf ∧ Q r M1) (fun e fs M4 => M4 = Mf ∧ E e fs M1)) : kCallLX3 C k n tb sp E ws d1 M1 M Q d3 M := ⟨rfl, h⟩
end
end DL

namespace DL
open PySem PySem.Spec PyProof.Rows L2
/-! ### texts: their order, tuples of them -/
def leC (a b : Str) : Bool := !decide (b.cps.toList < a.cps.toList)
def strsOf : List D → Option (List Str)
  | [] => some []
  | .str s :: ds => (strsOf ds).map (s :: ·)
  | _ :: _ => none
theorem strsOf_map : ∀ ss : List Str, strsOf (ss.map .str) = some ss
  | [] => rfl
  | s :: ss => by show (strsOf (ss.map .str)).map (s :: ·) = _; rw [strsOf_map ss]; rfl
theorem strsOf_eq : ∀ {ds : List D} {ss : List Str}, strsOf ds = some ss → ds = ss.map .str
  | [], ss, h => by cases h; rfl
  | .str s :: ds, ss, h => by
    obtain ⟨ts, h1, h2⟩ := Option.map_eq_some_iff.mp (show (strsOf ds).map (s :: ·) = some ss from h)
    subst h2
    rw [strsOf_eq h1]; rfl
  | .non :: _, _, h => by cases h
  | .bl _ :: _, _, h => by cases h
  | .int _ :: _, _, h => by cases h
  | .ref _ :: _, _, h => by cases h
  | .ty _ :: _, _, h => by cases h
  | .fn _ _ :: _, _, h => by cases h
  | .tup _ :: _, _, h => by cases h
  | .lst _ :: _, _, h => by cases h
  | .lsk _ :: _, _, h => by cases h
/-- tuples of texts: from the first pair that differs on -/
def lexS (a b : List Str) : Bool := Ob.lexAt (fun j => decide (a.getD j "" = b.getD j "")) (fun j => leC (a.getD j "") (b.getD j "")) (decide (a.length ≤ b.length)) 0 (min a.length b.length)
def rLeTS (K : PySem.W.Frag) : R2 := fun x y H Q => ∃ (a b : Addr) (ns ms : List Str), x = .ref a ∧ y = .ref b ∧ SqT K H a (ns.map V.str) ∧ SqT K H b (ms.map V.str) ∧ Q (.bl (lexS ns ms)) H
theorem op_leTS {X : Cx} (hu : X.A.units < cLine) : OpR X (compareOp .LtE) (rLeTS X.K) := by
  intro pins s σ H x y v u Q I rx ry h
  obtain ⟨a, b, ns, ms, rfl, rfl, ha, hb, q⟩ := h
  cases rx
  cases ry
  obtain ⟨its, r1, p1, _⟩ := I.tuple ha
  obtain ⟨its2, r2, p2, _⟩ := I.tuple hb
  have i1 := Vals.strs r1
  have i2 := Vals.strs r2
  have l1 := r1.length
  have l2 := r2.length
  rw [List.length_map] at l1 l2
  have e1 : its.toArray.size = ns.length := by rw [List.size_toArray]; exact l1.symm
  have e2 : its2.toArray.size = ms.length := by rw [List.size_toArray]; exact l2.symm
  have at1 : ∀ {its : List Value} {ns : List Str}, Vals (ns.map V.str) its → ∀ j (h1 : j < its.toArray.size), ∃ t, its.toArray[j] = .str (ns.getD j "") t := fun {its ns} r j h1 => by
    have hl := r.length
    rw [List.length_map] at hl
    rw [List.size_toArray] at h1
    have hx : (ns.map V.str)[j]? = some (V.str (ns.getD j "")) := by
      rw [List.getElem?_map, List.getElem?_eq_getElem (show j < ns.length by omega), getD_of (List.getElem?_eq_getElem (show j < ns.length by omega))]; rfl
    obtain ⟨u, hu, ru⟩ := r.get hx
    obtain ⟨t, et⟩ := (show ∃ t, u = Value.str (ns.getD j "") t from ru)
    refine ⟨t, ?_⟩
    rw [← et]
    rw [List.getElem?_eq_getElem h1] at hu
    simpa using Option.some.inj hu
  have R := Ob.RcOp.tuples_le (A := X.A) (s := s) (e := fun j => decide (ns.getD j "" = ms.getD j "")) (r := fun j => leC (ns.getD j "") (ms.getD j "")) p1 p2 hu (fun j h1 h2 => by
    obtain ⟨t, et⟩ := at1 r1 j h1
    obtain ⟨t', et'⟩ := at1 r2 j h2
    rw [et, et']
    have z : (ns.getD j "" == ms.getD j "") = decide (ns.getD j "" = ms.getD j "") := by
      by_cases q : ns.getD j "" = ms.getD j ""
      · rw [decide_eq_true q]; exact beq_iff_eq.mpr q
      · rw [decide_eq_false q]; exact beq_eq_false_iff_ne.mpr q
    rw [← z]
    exact SeqAt.EqAt.str_str _ _ _ _) (fun j h1 h2 _ => by
    obtain ⟨t, et⟩ := at1 r1 j h1
    obtain ⟨t', et'⟩ := at1 r2 j h2
    rw [et, et']
    exact fun prog w E Q h => PySem.P.le_str h)
  rw [e1, e2] at R
  have z : wpAny (model X.prog X.w) X.A (compareOp .LtE (.ref a) (.ref b)) (EP X pins σ Q) X.xe s := R X.prog X.w X.xe (EP X pins σ Q) ⟨.bl _, H, I, rfl, q⟩
  exact z
/-- <= of texts, of tuples of texts -/
def dLeS : R2D := fun x y M Q => match x, y with
  | .str a, .str b => Q (.bl (leC a b)) M
  | .tup xs, .tup ys => match strsOf xs, strsOf ys with
    | some as, some bs => Q (.bl (lexS as bs)) M
    | _, _ => False
  | _, _ => False
theorem RepAll.ofStrs {K : PySem.W.Frag} {F : Hp} {vs : List V} {ds : List D} {ss : List Str} (r : RepAll K F vs ds) (h : strsOf ds = some ss) : vs = ss.map V.str := by
  have e := strsOf_eq h
  subst e
  exact RepAll.strs r
section
variable {X : Cx} {F0 : Bs}
theorem od_leS (hu : X.A.units + 64 < cLine) : OpD X F0 (compareOp .LtE) dLeS := by
  intro pins s σ H x y v u Q I rx ry ⟨F, R, M, d, e, Q', e0, st, rd, re, q, k⟩
  unfold dLeS at q
  split at q
  · cases rd; cases re
    exact op_le_str pins s σ H _ _ v u Q I rx ry ⟨_, _, rfl, rfl, k _ _ _ _ _ Ext.refl st (.bl _) q⟩
  · split at q
    · rename_i as bs h1 h2
      obtain ⟨a, vs, rfl, hs, ra⟩ := tp_get st rd
      obtain ⟨b, us, rfl, hs2, rb⟩ := tp_get st re
      rw [ra.ofStrs h1] at hs
      rw [rb.ofStrs h2] at hs2
      exact op_leTS (by omega) pins s σ H _ _ v u Q I rx ry ⟨a, b, as, bs, rfl, rfl, hs, hs2, k _ _ _ _ _ Ext.refl st (.bl _) q⟩
    · exact q.elim
  · exact q.elim
/-! ### the signs of a text, in turn -/
def itStr (z : Str) : ItD := ⟨z.cps.size, fun i => .str ⟨#[z.cps.getD i 0]⟩, fun _ => True⟩
def iStrD (te : DE) : DTI := fun τ M Q => te τ M fun d M1 => match d with
  | .str z => Q (itStr z) M1
  | _ => False
theorem rel_str {K : PySem.W.Frag} {F : Hp} {z : Str} : ItRel K F (Its z) (itStr z) where
  go := fun i F2 R H M e st _ hi => hi
  yld := fun i F2 R H M x H' e st _ hi y => by
    obtain ⟨rfl, c, hc, rfl⟩ := y
    refine ⟨F2, Ext.refl, st, ?_, fun _ _ => rfl⟩
    have e : z.cps.getD i 0 = c := by
      rw [Array.getD_eq_getD_getElem?, hc]; rfl
    show Rep K F2 _ (.str ⟨#[z.cps.getD i 0]⟩)
    rw [e]
    exact .str _
  stop := fun F2 R H M e st _ => Nat.le_refl _
theorem id_str {tg e : Expr} {te : DE} (he : PE X e (liE X.K F0 te)) : PI X tg e (liI X.K F0 (iStrD te)) := by
  refine piImp (pi_str he) fun σ H Q ⟨F, R, τ, M, Q', e0, st, sl, q, k⟩ => ?_
  refine ⟨F, R, τ, M, _, e0, st, sl, q, fun v H1 F1 d M1 e1 st1 r1 q1 => ?_⟩
  cases d <;> try exact q1.elim
  cases r1
  exact ⟨_, rfl, k _ _ _ _ _ e1 st1 rel_str q1⟩
/-! ### enumerate(a list) -/
def itEnum (d : D) (ds : List D) : ItD := ⟨ds.length, fun i => .tup [.int i, ds.getD i .non], fun M => lsOf M d = some ds⟩
def iEnumD (ta : DA) : DTI := fun τ M Q => ta τ M fun ds M1 => match ds with
  | [d] => match lsOf M1 d with
    | some xs => Q (itEnum d xs) M1
    | none => False
  | _ => False
theorem rel_enum {K : PySem.W.Frag} {F : Hp} {a : Addr} {d : D} {ds : List D} (r : Rep K F (.ref a) d) : ItRel K F (Ite K a) (itEnum d ds) where
  go := fun i F2 R H M e st ok hi => by
    obtain ⟨a', xs, ea, hs, ra⟩ := ls_get st (r.ext e) ok
    cases ea
    have hi : i < ds.length := hi
    exact ⟨xs, xs[i]'(by rw [ra.len]; exact hi), hs, List.getElem?_eq_getElem _⟩
  yld := fun i F2 R H M x H' e st ok hi y => by
    obtain ⟨T, x', rfl, hT, rfl, y⟩ := y
    obtain ⟨a', xs, ea, hs, ra⟩ := ls_get st (r.ext e) ok
    cases ea
    obtain ⟨d', e1, e2⟩ := ra.get (y xs hs)
    obtain ⟨s2, ex⟩ := st.freeze (o := .tup [.int (i : Nat), x']) hT
    refine ⟨_, ex, s2, ?_, fun b hb => ?_⟩
    · show Rep K _ (.ref T) (.tup [.int i, ds.getD i .non])
      rw [getD_of e1]
      exact .tup (.inl (.inl upd_same)) (.cons (.int _) (.cons (e2.ext ex) .nil))
    · refine upd_ne fun z => ?_
      subst z
      cases z : R b with
      | none => exact hb z
      | some o => exact (st.rs b o z).1.there hT
  stop := fun F2 R H M e st ok => by
    obtain ⟨a', xs, ea, hs, ra⟩ := ls_get st (r.ext e) ok
    cases ea
    exact ⟨xs, hs, by rw [ra.len]; exact Nat.le_refl _⟩
theorem id_enum {elts : List Expr} {kk : Nat} {tpos p pos : Pos} {e : Expr} {ta : DA} (hg : Gl X "enumerate") (hm : X.mg "enumerate" = none) (ha : PA X [e] (liA X.K F0 ta)) (hs : starEach [e] X.env = [(false, eval e X.env)] := by rfl) : PI X (.Tuple elts kk tpos) (.Call (.Name "enumerate" p) [e] [] pos) (liI X.K F0 (iEnumD ta)) := by
  refine piImp (pi_enum hg hm ha hs) fun σ H Q ⟨F, R, τ, M, Q', e0, st, sl, q, k⟩ => ?_
  refine ⟨F, R, τ, M, _, e0, st, sl, q, fun v H1 F1 ds M1 e1 st1 r1 q1 => ?_⟩
  split at q1 <;> try exact q1.elim
  obtain ⟨x, rfl, r⟩ := rep1 r1
  split at q1 <;> try exact q1.elim
  rename_i xs h1
  have r0 := r
  obtain ⟨a, vs, rfl, hs, ra⟩ := ls_get st1 r h1
  exact ⟨a, vs, rfl, hs, k _ _ _ _ _ e1 st1 (rel_enum r0) q1⟩
/-! ### sorted(a list of texts) -/
def dSortedS : RC := fun ds M Q => match ds with
  | [d] => match lsOf M d with
    | some xs => match strsOf xs with
      | some ns => ns.length < 64 ∧ ∀ ys : List Str, ys.Perm ns → sortedS ys = true → Q (.lst (ys.map D.str)) M
      | none => False
    | none => False
  | _ => False
theorem RepAll.mkStrs {K : PySem.W.Frag} {F : Hp} : ∀ (ns : List Str), RepAll K F (ns.map V.str) (ns.map D.str)
  | [] => .nil
  | n :: ns => .cons (.str n) (RepAll.mkStrs ns)
theorem cd_sortedS : CallR X (.builtin "sorted") (liC X.K F0 dSortedS) := by
  refine caImp cr_sortedS fun xs H Q ⟨F, R, M, ds, Q', e0, st, rs, q, k⟩ => ?_
  unfold dSortedS at q
  split at q <;> try exact q.elim
  obtain ⟨x, rfl, r⟩ := rep1 rs
  split at q <;> try exact q.elim
  rename_i ys h1
  split at q <;> try exact q.elim
  rename_i ns h2
  obtain ⟨a, vs, rfl, hs, ra⟩ := ls_get st r h1
  rw [ra.ofStrs h2] at hs
  exact ⟨a, ns, rfl, hs, q.1, fun zs p hp hz hn => k.lst st hn (RepAll.mkStrs zs) (q.2 zs hp hz)⟩
end
/-! ### steps -/
theorem s_leS {a b : Str} {M : Mp} {Q : QD} (h : Q (.bl (leC a b)) M) : dLeS (.str a) (.str b) M Q := h
theorem s_leTS {as bs : List Str} {M : Mp} {Q : QD} (h : Q (.bl (lexS as bs)) M) : dLeS (.tup (as.map .str)) (.tup (bs.map .str)) M Q := by
  unfold dLeS; simp only [strsOf_map]; exact h
section
variable {τ : SD} {M : Mp} {QI : ItD → Mp → Prop} {Q : QD} {te : DE} {ta : DA} {x : D} {xs : List D}
def kStrI (QI : ItD → Mp → Prop) : QD := fun d M1 => match d with
  | .str z => QI (itStr z) M1
  | _ => False
theorem s_strI (h : te τ M (kStrI QI)) : iStrD te τ M QI := h
theorem s_kstrI {z : Str} (h : QI (itStr z) M) : kStrI QI (.str z) M := h
def kEnum (QI : ItD → Mp → Prop) : List D → Mp → Prop := fun ds M1 => match ds with
  | [d] => match lsOf M1 d with
    | some xs => QI (itEnum d xs) M1
    | none => False
  | _ => False
theorem s_enum (h : ta τ M (kEnum QI)) : iEnumD ta τ M QI := h
theorem s_kenum (e : lsOf M x = some xs) (h : QI (itEnum x xs) M) : kEnum QI [x] M := by unfold kEnum; simp only [e]; exact h
theorem s_sortedS {ns : List Str} (e : lsOf M x = some (ns.map D.str)) (hl : ns.length < 64) (h : ∀ ys : List Str, ys.Perm ns → sortedS ys = true → Q (.lst (ys.map D.str)) M) : dSortedS [x] M Q := by
  unfold dSortedS; simp only [e, strsOf_map]; exact ⟨hl, h⟩
/-- over the signs of a text, each turn gives one, and M stays -/
theorem s_klcStr {fin : List D → Mp → QD → Prop} {i0 : Nat} {vs : List Nat} {z : Str} (f : Nat → D) (hn : z.cps.size ≤ sizeLine)
    (hs : ∀ i (Q : QD), i < z.cps.size → Q (f i) M → te ((wipeD τ vs).set i0 (some (.str ⟨#[z.cps.getD i 0]⟩))) M Q) (hd : fin ((List.range z.cps.size).map f) M Q) : kLc fin true [i0] vs dYes te τ Q (itStr z) M := by
  refine ⟨fun i acc M' => M' = M ∧ acc = (List.range i).map f, ⟨rfl, rfl⟩, fun _ _ _ _ _ => trivial, fun i acc M' hi p => ?_, fun acc M' p => ?_⟩
  · obtain ⟨rfl, rfl⟩ := p
    have hi : i < z.cps.size := hi
    refine hs i _ hi ⟨?_, rfl, ?_⟩
    · rw [List.length_map, List.length_range]; omega
    · rw [List.range_succ, List.map_append]; rfl
  · obtain ⟨rfl, rfl⟩ := p
    exact hd
/-- over enumerate(a list that nobody changes) -/
theorem s_klcEnum {fin : List D → Mp → QD → Prop} {i0 i1 : Nat} {vs : List Nat} {ds : List D} (f : Nat → D → D) (hx : lsOf M x = some ds) (hn : ds.length ≤ sizeLine)
    (hs : ∀ i d (Q : QD), ds[i]? = some d → Q (f i d) M → te (setAll [i0, i1] [.int i, d] (wipeD τ vs)) M Q) (hd : fin ((List.range ds.length).map fun i => f i (ds.getD i .non)) M Q) : kLc fin false [i0, i1] vs dYes te τ Q (itEnum x ds) M := by
  refine ⟨fun i acc M' => M' = M ∧ acc = (List.range i).map fun i => f i (ds.getD i .non), ⟨rfl, rfl⟩, fun _ _ _ _ p => by rw [p.1]; exact hx, fun i acc M' hi p => ?_, fun acc M' p => ?_⟩
  · obtain ⟨rfl, rfl⟩ := p
    have hi : i < ds.length := hi
    have e := List.getElem?_eq_getElem hi
    have eb : bindD false [i0, i1] ((itEnum x ds).at' i) (wipeD τ vs) = some (setAll [i0, i1] [.int i, ds[i]] (wipeD τ vs)) := by
      show (if [D.int (i : Nat), ds.getD i .non].length = [i0, i1].length then some (setAll [i0, i1] [.int (i : Nat), ds.getD i .non] (wipeD τ vs)) else none) = _
      rw [if_pos (by rfl), getD_of e]
    rw [eb]
    refine hs i _ _ e ⟨?_, rfl, ?_⟩
    · rw [List.length_map, List.length_range]; omega
    · rw [List.range_succ, List.map_append]
      show _ = _ ++ [f i (ds.getD i .non)]
      rw [getD_of e]
  · obtain ⟨rfl, rfl⟩ := p
    exact hd
end
end DL

/-! DL26: dicts. The first part carries the hand layer's rule for dict comprehensions over to any kind of keys (its steps follow dc_core, for a kind kd). -/
namespace L2
open PySem PySem.Spec PyProof.Rows
/-- a kind of dicts: the empty one, and what stands where a pair was put -/
structure DKind where
  e : HO
  put : Hp → Addr → V → V → Hp → Prop
structure DKindOk (kd : DKind) : Prop where
  new : ∀ {P : Program} {w : World} {H : Hp} (h : Heap), sysModules < h.objs.size → ObjOk P w H (h.push { cls := .type "dict", data := .dict #[] }) h.objs.size kd.e
  set : ∀ {X : Cx} {pins : List (Addr × Obj)} {σ : St} {H H' : Hp} {s : Shared} {E : Value → Shared → Prop} {D : Addr} {y z : V} {u r : Value} {Q : Unit → Shared → Prop}, X.A.units + 1 < cLine → Inv X pins σ H s → kd.put H D y z H' → RelV y u → RelV z r → (∀ s', Inv X pins σ H' s' → Q () s') → wpAny (model X.prog X.w) X.A (dictSet D u r) Q E s
section
variable {X : Cx}
def tDcG (kd : DKind) (wi : TI) (g : TG) (tt : TT) (tk tv : TE) (vs : List Nat) : TE := fun σ H Q => wi σ H fun J H1 => ∀ D, H1 D = none → ∃ W : Nat → Nat → Hp → Prop, (∃ m, W 0 m (upd H1 D kd.e)) ∧ ∀ i m H, W i m H →
  (J.stop i H ∧ Q (.ref D) H) ∨ (J.go i H ∧ ∃ Nx : Hp → Prop, (∀ H', Nx H' → ∃ m', m' < m ∧ W (i + 1) m' H') ∧ ∀ x H', J.yld i H x H' → g x (wipe σ vs) H' fun σ2 H2 => wipe σ2 vs = wipe σ vs ∧ tt σ2 H2 fun b H3 =>
    if b = true then tk σ2 H3 fun y H4 => tv σ2 H4 fun z H5 => ∃ H6, kd.put H5 D y z H6 ∧ Nx H6 else Nx H3)
theorem dcG_core {kd : DKind} (ko : DKindOk kd) (hu : X.A.units + 1 < cLine) {pins : List (Addr × Obj)} {s : Shared} {σ : St} {H : Hp} {Q : VK} {kx vx tg iter : Expr} {ifs : List Expr} {scope : Scope} {own : List (Str × Nat)} {pos pos' : Pos} {wi : TI} {g : TG} {tt : TT} {tk tv : TE} {use : Option (Value → Sem Unit)} {Qf : Value → Shared → Prop}
    (hc : X.calm = true) (hN : X.N.Nodup) (I : Inv X pins σ H s) (hi : PI X tg iter wi) (ok : BlkOk X.N X.env.scope scope own)
    (hg : ∀ (s : Shared) (H : Hp) (C : Addr) (cl : List (Str × Addr)) (fp : List Addr), PG (X.blk s H scope (compEnvC scope cl C X.env) fp) tg g) (ht : ∀ (s : Shared) (H : Hp) (C : Addr) (cl : List (Str × Addr)) (fp : List Addr), PTs (X.blk s H scope (compEnvC scope cl C X.env) fp) ifs tt)
    (hk : ∀ (s : Shared) (H : Hp) (C : Addr) (cl : List (Str × Addr)) (fp : List Addr), PE (X.blk s H scope (compEnvC scope cl C X.env) fp) kx tk)
    (he : ∀ (s : Shared) (H : Hp) (C : Addr) (cl : List (Str × Addr)) (fp : List Addr), PE (X.blk s H scope (compEnvC scope cl C X.env) fp) vx tv) (hs : ∀ x, foldedSetIterable iter X.env x = pure x)
    (h : tDcG kd wi g tt tk tv (own.map (·.2)) σ H Q)
    (hRR : ∀ D C s' m H', Inv X pins σ H' s' → Q (.ref D) H' → s'.heap.Ns C m → FpOk X pins H' C → compPost (model X.prog X.w) X.A X.xe use Qf (.ref D) C (.ok .next) s') :
    wpAny (model X.prog X.w) X.A (comprehension (.DictComp kx vx [⟨tg, iter, ifs, 0⟩] scope pos) scope X.env pos' newDict false (eval iter X.env) use) Qf X.xe s := by
  have hfree : ∀ y ∈ scope.names, y.2 = .free → ∃ c, X.env.cells.lookup y.1 = some c := fun y hy e => by
    rcases ok.free y hy e with k | k
    · exact I.ok.has _ (.inl k)
    · exact I.ok.has _ (.inr k)
  refine wpAny_comprehension_free (use := use) rfl hs (closure_ok hfree) ok.kind (fun y hy e => by rw [ok.uniq y hy, e])
    (thn (hi.run pins s σ H _ I h) fun xv s1 hx => thn hx fun itv s2 h2 => ?_)
  obtain ⟨it, fp, tn, J, H2, e, I2, T, st2, f2, q⟩ := h2
  subst e
  refine wpAny_newObj_type (newEnv_comp ?_)
  generalize hD : s2.heap.objs.size = D
  have hDn : H2 D = none := I2.hok.fresh (Nat.le_of_eq hD)
  obtain ⟨W, ⟨m0, w0⟩, turn⟩ := q D hDn
  -- the new list
  generalize hs3 : ({ s2 with heap := s2.heap.push { cls := .type "dict", data := .dict #[] } } : Shared) = s3
  have I3 : Inv X pins σ (upd H2 D kd.e) s3 := by
    rw [← hs3]
    refine I2.laid (t' := s2.toks) (fun b o e => Heap.get?_push_of_some _ e) (Nat.le_of_eq hD) ?_
    rw [← hD]
    exact ko.new s2.heap I2.big
  have h3 : s3.heap = s2.heap.push { cls := .type "dict", data := .dict #[] } := by rw [← hs3]
  have sz : ∀ b ∈ fp, b < s2.heap.objs.size := fun b hb => by
    obtain ⟨o, e, _⟩ := T.obj _ _ st2 b hb
    exact Heap.lt_size e
  have f3 : ∀ b ∈ fp, FpOk X pins (upd H2 D kd.e) b ∧ b < s3.heap.objs.size := fun b hb => by
    have hlt := sz b hb
    refine ⟨⟨?_, (f2 b hb).2⟩, by rw [h3, Heap.size_push]; exact Nat.lt_succ_of_lt hlt⟩
    rw [upd_ne (by rw [← hD]; exact Nat.ne_of_lt hlt)]
    exact (f2 b hb).1
  have st3 : tn 0 s3.heap := T.keep _ _ _ st2 fun b _ o e => by rw [h3]; exact Heap.get?_push_of_some _ e
  have I4 := block_start I3 ok hN f3
  have pg := hg s3 (upd H2 D kd.e) s3.heap.objs.size (cellsFrom (s3.heap.objs.size + 1) scope.names (cloFrom X.env.cells scope.names [])) fp
  have pt := ht s3 (upd H2 D kd.e) s3.heap.objs.size (cellsFrom (s3.heap.objs.size + 1) scope.names (cloFrom X.env.cells scope.names [])) fp
  have pk := hk s3 (upd H2 D kd.e) s3.heap.objs.size (cellsFrom (s3.heap.objs.size + 1) scope.names (cloFrom X.env.cells scope.names [])) fp
  have pe := he s3 (upd H2 D kd.e) s3.heap.objs.size (cellsFrom (s3.heap.objs.size + 1) scope.names (cloFrom X.env.cells scope.names [])) fp
  show codeAny _ _ (.compStart (.DictComp kx vx [⟨tg, iter, ifs, 0⟩] scope pos) 0 (.ref it) (.ref D) (compEnvC scope (cellsFrom (s3.heap.objs.size + 1) scope.names (cloFrom X.env.cells scope.names [])) s3.heap.objs.size X.env)) (compPost (model X.prog X.w) X.A X.xe use Qf (.ref D) s3.heap.objs.size) { s3 with heap := pushCells (s3.heap.push { cls := .type "dict", data := .dict #[] }) scope.names }
  have nfp : ∀ b ∈ fp, (upd H2 D kd.e) b = none := fun b hb => (f3 b hb).1.1
  generalize hce : compEnvC scope (cellsFrom (s3.heap.objs.size + 1) scope.names (cloFrom X.env.cells scope.names [])) s3.heap.objs.size X.env = ce at I4 pg pt pk pe ⊢
  have cL : ce.locals = s3.heap.objs.size := by subst hce; rfl
  generalize hH3 : upd H2 D kd.e = H3 at I3 I4 pg pt pk pe w0 nfp f3
  generalize hs4 : ({ s3 with heap := pushCells (s3.heap.push { cls := .type "dict", data := .dict #[] }) scope.names } : Shared) = s4 at I4 ⊢
  have st4 : tn 0 s4.heap := T.keep _ _ _ st3 fun b _ o e => by rw [← hs4]; exact pushCells_keeps _ _ _ _ (Heap.get?_push_of_some _ e)
  have stat : ∀ {σ' : St} {H' : Hp} {s' : Shared}, Inv (X.blk s3 H3 scope ce fp) [] σ' H' s' → (∀ b ∈ fp, H' b = none) → ∀ b ∈ fp, FpOk (X.blk s3 H3 scope ce fp) [] H' b := fun {σ' H' s'} I' hn b hb =>
    ⟨hn b hb, (I'.ok.exf b hb).1, I'.ok.exfs b hb, .inl hb, fun x c e => (I'.ok.exf b hb).2 x c e, fun p hp => absurd (show p ∈ ([] : List (Addr × Obj)) ++ [] from hp) (by simp)⟩
  have loop : codeAny (model X.prog X.w) X.A (.compLoop (.DictComp kx vx [⟨tg, iter, ifs, 0⟩] scope pos) 0 (.ref it) (.ref D) ce) (compPost (model X.prog X.w) X.A X.xe use Qf (.ref D) s3.heap.objs.size) s4 := by
    refine compLoop_anyD (fun n s' => ∃ i H', Inv (X.blk s3 H3 scope ce fp) [] (wipe σ (own.map (·.2))) H' s' ∧ tn i s'.heap ∧ (∀ b ∈ fp, H' b = none) ∧ W i n H') ?_ m0 ⟨0, H3, I4, st4, nfp, w0⟩
    rintro n s5 ⟨i, H5, I5, st5, n5, w5⟩
    rcases turn i n H5 w5 with ⟨stop, qq⟩ | ⟨go, Nx, hNx, step⟩
    · have td := T.done (X.blk s3 H3 scope ce fp) rfl rfl rfl hc i [] s5 _ H5 (fun _ _ => False) I5 (stat I5 n5) st5 stop
      refine thnF td fun r s6 ⟨hr, I6⟩ => ?_
      subst hr
      -- back in the def's context
      have I7 : Inv X pins σ H5 s6 := I3.call' (ch := fp) I6.os I6.base I6.hok I6.bare fun b hb => ⟨(f3 b hb).1.2.2.2.1, (f3 b hb).1.2.1, (f3 b hb).1.2.2.2.2.1, (f3 b hb).1.2.2.2.2.2⟩
      have nC : H5 s3.heap.objs.size = none := by
        have z : H5 ce.locals = none := I6.free
        rw [cL] at z
        exact z
      obtain ⟨m, hn, _⟩ := I6.loc
      have hn : s6.heap.Ns ce.locals m := hn
      rw [cL] at hn
      exact hRR D s3.heap.objs.size s6 m H5 I7 qq hn (I3.fpOk (Nat.le_refl _) nC)
    · have ti := T.item (X.blk s3 H3 scope ce fp) rfl rfl rfl hc i [] s5 _ H5 (fun _ _ => False) I5 (stat I5 n5) st5 go
      refine thnF ti fun r s6 ⟨u, hr, h6⟩ => ?_
      subst hr
      refine thnF h6 fun _ s7 ⟨x, H7, I7, r7, y7, st7, n7⟩ => ?_
      have I7' := I7.pinned (stat I7 n7) (T.obj _ _ st7)
      refine thnF (pg.run _ s7 _ H7 x u _ I7' r7 (step x H7 y7)) fun _ s8 ⟨σ8, H8, I8, hw8, q8⟩ => ?_
      refine thnF (pt.run _ s8 σ8 H8 _ I8 q8) fun b s9 ⟨H9, I9, q9⟩ => ?_
      -- the turn's end
      have fin : ∀ {s' : Shared} {H' : Hp}, Inv (X.blk s3 H3 scope ce fp) ([] ++ pinsAt fp s7.heap) σ8 H' s' → Nx H' → ∃ m, m < n ∧ ∃ i H', Inv (X.blk s3 H3 scope ce fp) [] (wipe σ (own.map (·.2))) H' s' ∧ tn i s'.heap ∧ (∀ b ∈ fp, H' b = none) ∧ W i m H' := fun {s' H'} I' nx => by
        obtain ⟨m', hm, w'⟩ := hNx H' nx
        have pin' : ∀ b ∈ fp, ∀ o, s7.heap.get? b = some o → s'.heap.get? b = some o ∧ H' b = none := fun b hb o e =>
          let z := I'.pin (b, o) (List.mem_append_right _ (List.mem_append_right _ (mem_pinsAt hb e)))
          ⟨z.1, z.2.1⟩
        have hl : (wipe σ (own.map (·.2))).length = σ8.length := by rw [← hw8, wipe_length]
        refine ⟨m', hm, i + 1, H', (I'.unpinned (pins := [])).weak hl (fun j v e => ?_), T.keep _ _ _ st7 fun b hb o e => (pin' b hb o e).1, fun b hb => ?_, w'⟩
        · rw [← hw8] at e
          exact (wipe_some e).1
        · obtain ⟨o, e, _⟩ := T.obj _ _ st7 b hb
          exact (pin' b hb o e).2
      cases b with
      | false =>
        simp only [Bool.false_eq_true, if_false] at q9 ⊢
        exact fin I9 q9
      | true =>
        simp only [if_true] at q9 ⊢
        refine thnF (pk.run _ s9 σ8 H9 _ I9 q9) fun z s10 ⟨yk, H10, I10, r10, q10⟩ => ?_
        refine thnF (pe.run _ s10 σ8 H10 _ I10 q10) fun z2 s11 ⟨yv, H11, I11, r11, H12, hp, nx⟩ => ?_
        exact ko.set (X := X.blk s3 H3 scope ce fp) hu I11 hp r10 r11 fun s12 I12 => fin I12 nx
  exact codeAny_compStart_dict loop (T.self X.A 0 _ _ _ st4 loop)
theorem pe_dcG {kd : DKind} (ko : DKindOk kd) (hu : X.A.units + 1 < cLine) {kx vx tg iter : Expr} {ifs : List Expr} {scope : Scope} {own : List (Str × Nat)} {pos : Pos} {wi : TI} {g : TG} {tt : TT} {tk tv : TE} (hc : X.calm = true) (hN : X.N.Nodup) (hi : PI X tg iter wi) (ok : BlkOk X.N X.env.scope scope own)
    (hg : ∀ (s : Shared) (H : Hp) (C : Addr) (cl : List (Str × Addr)) (fp : List Addr), PG (X.blk s H scope (compEnvC scope cl C X.env) fp) tg g) (ht : ∀ (s : Shared) (H : Hp) (C : Addr) (cl : List (Str × Addr)) (fp : List Addr), PTs (X.blk s H scope (compEnvC scope cl C X.env) fp) ifs tt)
    (hk : ∀ (s : Shared) (H : Hp) (C : Addr) (cl : List (Str × Addr)) (fp : List Addr), PE (X.blk s H scope (compEnvC scope cl C X.env) fp) kx tk)
    (he : ∀ (s : Shared) (H : Hp) (C : Addr) (cl : List (Str × Addr)) (fp : List Addr), PE (X.blk s H scope (compEnvC scope cl C X.env) fp) vx tv) (hs : ∀ x, foldedSetIterable iter X.env x = pure x := by intro _; rfl) :
    PE X (.DictComp kx vx [⟨tg, iter, ifs, 0⟩] scope pos) (tDcG kd wi g tt tk tv (own.map (·.2))) := by
  refine ⟨fun pins s σ H Q I h => ?_⟩
  rw [arm_eval_DictComp]
  refine dcG_core ko hu hc hN I hi ok hg ht hk he hs h fun D C s' m H' I' q hn f => ⟨m, hn, fun h'' sb => ?_⟩
  obtain ⟨f0, f1, f2, f3, f4, f5⟩ := f
  exact ⟨.ref D, H', I'.turned (t' := s'.toks) (fun b o hb e => (sb.2 b hb).trans e) f0 f1 f3 f4 f5, rfl, q⟩
theorem ps_setDcG {kd : DKind} (ko : DKindOk kd) (hu : X.A.units + 1 < cLine) {i : Nat} {y : Str} {py : Pos} {kx vx tg iter : Expr} {ifs : List Expr} {scope : Scope} {own : List (Str × Nat)} {pos spos : Pos} {wi : TI} {g : TG} {tt : TT} {tk tv : TE} (hc : X.calm = true) (hN : X.N.Nodup) (hy : X.N[i]? = some y) (hyl : X.env.scope.names.lookup y = some .local)
    (hsw : swapsWith (.DictComp kx vx [⟨tg, iter, ifs, 0⟩] scope pos) (some (.Name y py)) spos.line X.env = pure true) (hi : PI X tg iter wi) (ok : BlkOk X.N X.env.scope scope own)
    (hg : ∀ (s : Shared) (H : Hp) (C : Addr) (cl : List (Str × Addr)) (fp : List Addr), PG (X.blk s H scope (compEnvC scope cl C X.env) fp) tg g) (ht : ∀ (s : Shared) (H : Hp) (C : Addr) (cl : List (Str × Addr)) (fp : List Addr), PTs (X.blk s H scope (compEnvC scope cl C X.env) fp) ifs tt)
    (hk : ∀ (s : Shared) (H : Hp) (C : Addr) (cl : List (Str × Addr)) (fp : List Addr), PE (X.blk s H scope (compEnvC scope cl C X.env) fp) kx tk)
    (he : ∀ (s : Shared) (H : Hp) (C : Addr) (cl : List (Str × Addr)) (fp : List Addr), PE (X.blk s H scope (compEnvC scope cl C X.env) fp) vx tv) (hs : ∀ x, foldedSetIterable iter X.env x = pure x := by intro _; rfl) :
    PS X (.Assign [.Name y py] (.DictComp kx vx [⟨tg, iter, ifs, 0⟩] scope pos) spos) (tAsg (tDcG kd wi g tt tk tv (own.map (·.2))) (gName i)) := by
  refine ⟨fun pins s σ H D I h => ?_⟩
  rw [exec_Assign_Name_used _ _ _ _ hsw]
  refine wpAny_bind (wpAny_standAt (wpAny_bind ?_))
  show wpAny _ X.A (do let _ ← comprehension (.DictComp kx vx [⟨tg, iter, ifs, 0⟩] scope pos) scope X.env (firstIterPos [⟨tg, iter, ifs, 0⟩] pos) newDict false (eval iter X.env) (some (assign (.Name y py) X.env))) _ _ s
  have h : tDcG kd wi g tt tk tv (own.map (·.2)) σ H (fun x H1 => gName i x σ H1 D.nx) := h
  refine wpAny_bind (thn (dcG_core ko hu (Qf := fun _ s' => SP X pins D .next s') hc hN I hi ok hg ht hk he hs h fun L C s' m H' I' q hn f => ?_) fun _ s' hq => wpAny_pure (wpAny_pure hq))
  show wpAny _ _ (assign (.Name y py) X.env (.ref L)) _ _ _
  refine wpAny_assign_Name (store_ok2 (v := V.ref L) I' hN hy (.inl hyl) rfl (fun s2 I2 ⟨a, sb, ha⟩ => ?_) (.inr hyl))
  obtain ⟨f0, f1, f2, f3, f4, f5⟩ := f
  have haC : C ≠ a := by
    rcases ha with z | z
    · rw [z]; exact f1
    · exact fun e => f4 y a z e.symm
  refine ⟨m, hn.sameBut sb haC, fun h3 sb3 => ?_⟩
  exact ⟨_, H', I2.turned (t' := s2.toks) (fun b o hb e => (sb3.2 b hb).trans e) f0 f1 f3 f4 f5, q⟩
end
/-- keys that are ints or texts -/
def dkK : DKind := ⟨.dK [], fun H D y z H' => ∃ kvs k, y = kV k ∧ H D = some (.dK kvs) ∧ kvs.length < sizeLine ∧ H' = upd H D (.dK (putK kvs k z))⟩
/-- keys that are tuples of them -/
def dkT : DKind := ⟨.dT [], fun H D y z H' => ∃ kvs k b, y = .ref b ∧ H b = some (.tup (k.map kV)) ∧ H D = some (.dT kvs) ∧ kvs.length < sizeLine ∧ H' = upd H D (.dT (putK kvs k z))⟩
theorem dkK_ok : DKindOk dkK := ⟨fun h hb => dk_empty h hb, fun {X pins σ H H' s E D y z u r Q} hu I ⟨kvs, k, ey, hD, hz, e⟩ ry rz h => by
  subst ey e
  exact d_dictSet I hD hz ry rz h⟩
theorem dkT_ok : DKindOk dkT := ⟨fun h hb => dt_empty h hb, fun {X pins σ H H' s E D y v u r Q} hu I ⟨kvs, k, b, ey, eb, e, l, eH⟩ ry rv h => by
  subst ey eH
  cases (show u = Value.ref b from ry)
  obtain ⟨z, hd, xs, rel, dd⟩ := dt_of I.hok e
  have hz : xs.length ≤ sizeLine := by rw [← Paired.length rel]; exact z
  have hl : (putK kvs k v).length ≤ sizeLine := by have := length_putK kvs k v; omega
  refine wpAny_dictSet_heap (hsz := hz) (show X.A.units < cLine by omega) (key_of I.hok eb) dd fun h' dd' hs => h _ ?_
  obtain ⟨q, es, ep, hq, h2, h3, h4, _, h5⟩ := dd'
  refine d_write I (by rw [e]; exact True.intro) hs ⟨q, hq⟩ ⟨hl, hd, _, (rel.put k eb rv).keeps fun c ys ec => ?_, q, es, ep, hq, h2, h3, h4, h5⟩
  rw [upd_ne (ne_of ec e (fun z => nomatch z))]
  exact ec⟩
/-! a tuple as a key, wherever it stands -/
section
variable {X : Cx} {pins : List (Addr × Obj)} {σ : St} {H : Hp} {s : Shared} {a b : Addr}
theorem key_sq {k : List Key} (I : Inv X pins σ H s) (e : SqT X.K H b (k.map kV)) : (tupleKind (mixKind X.prog X.w)).is s.heap k b := by
  obtain ⟨its, r, ⟨o, ho, hc, n, hd⟩, _⟩ := I.tuple e
  exact ⟨o, its.toArray, n, ho, hc, hd, by simpa using items_are r⟩
theorem op_inT (neg : Bool) (hu : X.A.units + 1 < cLine) : OpR X (compareOp (if neg then .NotIn else .In)) (fun x y H Q => ∃ a b kvs k, x = .ref b ∧ y = .ref a ∧ Rd H a (.dT kvs) ∧ SqT X.K H b (k.map kV) ∧ Q (.bl (if neg then !(valV kvs k).isSome else (valV kvs k).isSome)) H) := by
  intro pins s σ H x y v u Q I rx ry h
  obtain ⟨a, b, kvs, k, rfl, rfl, e, eb, q⟩ := h
  cases rx
  cases ry
  obtain ⟨z, hd, xs, rel, dd⟩ := dt_rd I.hok e
  have qe := (rel.val k).isSome_eq
  rw [Option.isSome_map] at qe
  cases neg with
  | false =>
    refine wpAny_in_heap (tupleKind_room_in1 hu) (key_sq I eb) hd dd ?_
    rw [← qe]
    exact ⟨.bl _, H, I.tok _, rfl, q⟩
  | true =>
    refine wpAny_notIn_heap (tupleKind_room_in1 hu) (key_sq I eb) hd dd ?_
    rw [← qe]
    exact ⟨.bl _, H, I.tok _, rfl, q⟩
/-- d[a, b, ..] -/
def tTGet (K : PySem.W.Frag) (td ty : TE) : TE := fun σ H Q => td σ H fun x H1 => ty σ H1 fun y H2 => ∃ a b kvs k v, x = .ref a ∧ y = .ref b ∧ Rd H2 a (.dT kvs) ∧ SqT K H2 b (k.map kV) ∧ valV kvs k = some v ∧ Q v H2
theorem pe_tget {o i : Expr} {pos : Pos} {td ty : TE} (hu : X.A.units + 1 < cLine) (ho : PE X o td) (hi : PE X i ty) (hs : NoSl i) : PE X (.Subscript o i pos) (tTGet X.K td ty) := by
  refine ⟨fun pins s σ H Q I h => ?_⟩
  refine subD_of PySem.F.slot_dict_getitem.lookup hs (thn (ho.run pins s σ H _ I h) fun u s1 ⟨x, H1, I1, rx, q1⟩ => thn (hi.run pins s1 σ H1 _ I1 q1) fun iv s2 ⟨y, H2, I2, ry, a, b, kvs, k, v, ex, ey, e, eb, l, q2⟩ => ?_)
  subst ex ey
  obtain rfl : u = Value.ref a := rx
  obtain rfl : iv = Value.ref b := ry
  obtain ⟨z, hd, xs, rel, dd⟩ := dt_rd I2.hok e
  obtain ⟨w', hw, rw'⟩ := RelO.some_of (v := v) (o := (atKey xs k).map (·.2)) (by rw [← l]; exact rel.val k)
  obtain ⟨p, hp, hp2⟩ := Option.map_eq_some_iff.mp hw
  refine ⟨dd.typeIs, wpAny_getItem_heap (tupleKind_room_in1 hu) (key_sq I2 eb) dd hp ?_⟩
  rw [hp2]
  exact ⟨v, H2, I2.tok _, rw', q2⟩
end
end L2

namespace DL
open PySem PySem.Spec PyProof.Rows L2
/-! ### tables of data -/
section
variable {κ : Type} [DecidableEq κ]
def valD (kvs : List (κ × D)) (k : κ) : Option D := (kvs.find? fun kv => decide (kv.1 = k)).map (·.2)
def putD (kvs : List (κ × D)) (k : κ) (v : D) : List (κ × D) :=
  if (kvs.any fun kv => decide (kv.1 = k)) = true then kvs.map (fun kv => if kv.1 = k then (kv.1, v) else kv) else kvs ++ [(k, v)]
variable {K : PySem.W.Frag} {F : Hp}
theorem RepKV.val {xs : List (κ × V)} {ys : List (κ × D)} (r : RepKV K F xs ys) (k : κ) : (∃ v d, valV xs k = some v ∧ valD ys k = some d ∧ Rep K F v d) ∨ (valV xs k = none ∧ valD ys k = none) := by
  induction r with
  | nil => exact .inr ⟨rfl, rfl⟩
  | @cons p q ps qs h t ih =>
    by_cases e : p.1 = k
    · have e' : q.1 = k := h.1.symm.trans e
      refine .inl ⟨p.2, q.2, valV_pos e, ?_, h.2⟩
      simp [valD, List.find?_cons, e']
    · have e' : ¬ q.1 = k := fun z => e (h.1.trans z)
      have h2 : valD (q :: qs) k = valD qs k := by simp [valD, List.find?_cons, e']
      rw [valV_neg e, h2]
      exact ih
theorem RepKV.some {xs : List (κ × V)} {ys : List (κ × D)} (r : RepKV K F xs ys) (k : κ) : (valV xs k).isSome = (valD ys k).isSome := by
  rcases r.val k with ⟨v, d, h1, h2, _⟩ | ⟨h1, h2⟩ <;> rw [h1, h2] <;> rfl
theorem RepKV.get {xs : List (κ × V)} {ys : List (κ × D)} (r : RepKV K F xs ys) {k : κ} {d : D} (h : valD ys k = Option.some d) : ∃ v, valV xs k = Option.some v ∧ Rep K F v d := by
  rcases r.val k with ⟨v, d', h1, h2, r2⟩ | ⟨h1, h2⟩
  · rw [h] at h2; cases h2
    exact ⟨v, h1, r2⟩
  · rw [h] at h2; cases h2
theorem RepKV.any {xs : List (κ × V)} {ys : List (κ × D)} (r : RepKV K F xs ys) (k : κ) : (xs.any fun kv => decide (kv.1 = k)) = (ys.any fun kv => decide (kv.1 = k)) := by
  induction r with
  | nil => rfl
  | @cons p q ps qs h t ih => rw [List.any_cons, List.any_cons, ih, h.1]
theorem RepKV.put {xs : List (κ × V)} {ys : List (κ × D)} (r : RepKV K F xs ys) (k : κ) {v : V} {d : D} (rv : Rep K F v d) : RepKV K F (putK xs k v) (putD ys k d) := by
  unfold putK putD
  rw [r.any k]
  by_cases q : (ys.any fun kv => decide (kv.1 = k)) = true
  · rw [if_pos q, if_pos q]
    clear q
    induction r with
    | nil => exact .nil
    | @cons p q ps qs h t ih =>
      rw [List.map_cons, List.map_cons]
      refine .cons ?_ ih
      by_cases e : p.1 = k
      · rw [if_pos e, if_pos (h.1.symm.trans e)]; exact ⟨h.1, rv⟩
      · rw [if_neg e, if_neg fun z => e (h.1.trans z)]; exact h
  · rw [if_neg q, if_neg q]
    exact Paired.snoc r ⟨rfl, rv⟩
end
def keyD : D → Option Key
  | .int i => some (.inl i)
  | .str s => some (.inr s)
  | _ => none
def keysD : List D → Option (List Key)
  | [] => some []
  | d :: ds => match keyD d, keysD ds with
    | some k, some ks => some (k :: ks)
    | _, _ => none
theorem Rep.key {K : PySem.W.Frag} {F : Hp} {v : V} {d : D} {k : Key} (r : Rep K F v d) (h : keyD d = some k) : v = kV k := by
  cases r <;> first | (cases h; rfl) | cases h
theorem RepAll.keys {K : PySem.W.Frag} {F : Hp} : ∀ {vs : List V} {ds : List D} {ks : List Key}, RepAll K F vs ds → keysD ds = some ks → vs = ks.map kV
  | _, [], ks, r, h => by cases h; cases r; rfl
  | _, d :: ds, ks, r, h => by
    cases r with
    | cons r1 r2 =>
      have h : (match keyD d, keysD ds with | some k, some ks => some (k :: ks) | _, _ => none) = some ks := h
      split at h
      · rename_i k ks' h1 h2
        cases h
        rw [r1.key h1, RepAll.keys r2 h2]; rfl
      · cases h
/-! ### what is set aside is made anew, is owned -/
/-- an object that is known as it stands -/
structure Pln (o : HO) : Prop where
  rs : ∀ H a, RsOk H a o → H a = some o
  sr : ∀ H a, H a = some o → RsOk H a o
  nx : NX o
  no : ∀ a q, o ≠ LamX.CodeO a q
theorem pln_dT {kvs : List (List Key × V)} : Pln (.dT kvs) := ⟨fun _ _ h => h, fun _ _ h => h, trivial, fun a q z => by unfold LamX.CodeO at z; cases z⟩
theorem pln_dK {kvs : List (Key × V)} : Pln (.dK kvs) := ⟨fun _ _ h => h, fun _ _ h => h, trivial, fun a q z => by unfold LamX.CodeO at z; cases z⟩
theorem Stt.reputG {K : PySem.W.Frag} {F R H : Hp} {M : Mp} {p : Addr} {o o' : HO} (s : Stt K F (upd R p o) H M) (h : Pln o) (h' : Pln o') : Stt K F (upd R p o') (upd H p o') M := by
  obtain ⟨hp, fp, mp⟩ := s.rs p o upd_same
  have hp : H p = some o := h.rs _ _ hp
  refine ⟨fun a u e => ?_, fun a u e => ?_, fun a m e => ?_, s.nf, fun a u e => ?_⟩
  rotate_left 3
  · by_cases q : a = p
    · subst q; rw [upd_same] at e; cases e; exact h'.nx
    · rw [upd_ne q] at e; exact s.nr a u (by rw [upd_ne q]; exact e)
  · rw [upd_ne (ne_of_none e fp)]; exact s.fz _ _ e
  · by_cases q : a = p
    · subst q; rw [upd_same] at e; cases e; exact ⟨h'.sr _ _ upd_same, fp, mp⟩
    · rw [upd_ne q] at e
      obtain ⟨h1, h2, h3⟩ := s.rs a u (by rw [upd_ne q]; exact e)
      exact ⟨h1.step (fun b v n eb => by rw [upd_ne n]; exact eb) q (fun c z => by rw [hp] at z; exact h.no _ _ (Option.some.inj z)), h2, h3⟩
  · have q : a ≠ p := fun z => by subst z; rw [mp] at e; cases e
    rw [upd_ne q]; exact s.ow a m e
theorem Stt.reownG {K : PySem.W.Frag} {F R H : Hp} {M : Mp} {p : Addr} {o : HO} {m : MO} (s : Stt K F (upd R p o) H M) (h : Pln o) (hr : R p = none) (r : RepO K F o m) : Stt K F R H (updM M p m) := by
  obtain ⟨hp, fp, mp⟩ := s.rs p o upd_same
  have hp : H p = some o := h.rs _ _ hp
  refine ⟨s.fz, fun a u e => ?_, fun a m' e => ?_, s.nf, fun a u e => s.nr a u (by rw [upd_ne (ne_of_none e hr)]; exact e)⟩
  · have q : a ≠ p := ne_of_none e hr
    obtain ⟨h1, h2, h3⟩ := s.rs a u (by rw [upd_ne q]; exact e)
    exact ⟨h1, h2, by rw [updM_ne q]; exact h3⟩
  · by_cases q : a = p
    · subst q; rw [updM_same] at e; cases e; exact ⟨fp, _, hp, r⟩
    · rw [updM_ne q] at e; exact s.ow a m' e
/-! ### dict comprehensions -/
abbrev DKy (κ : Type) := SD → Mp → (κ → Mp → Prop) → Prop
/-- a kind of dicts, in data -/
structure DKd (κ : Type) [DecidableEq κ] where
  kd : DKind
  ok : DKindOk kd
  ho : List (κ × V) → HO
  mo : List (κ × D) → MO
  kat : Hp → V → κ → Prop
  h0 : kd.e = ho []
  hput : ∀ H D y z kvs k, kat H y k → H D = some (ho kvs) → kvs.length < sizeLine → kd.put H D y z (upd H D (ho (putK kvs k z)))
  hrep : ∀ K F kvs kds, RepKV K F kvs kds → RepO K F (ho kvs) (mo kds)
  pl : ∀ kvs, Pln (ho kvs)
  kext : ∀ H H' v k, Ext H H' → kat H v k → kat H' v k
def ddK : DKd Key := ⟨dkK, dkK_ok, .dK, .dK, fun _ v k => v = kV k, rfl, fun H D y z kvs k e h1 h2 => ⟨kvs, k, e, h1, h2, rfl⟩, fun _ _ _ _ h => h, fun _ => pln_dK, fun _ _ _ _ _ h => h⟩
def ddT : DKd (List Key) := ⟨dkT, dkT_ok, .dT, .dT, fun H v k => ∃ b, v = .ref b ∧ H b = some (.tup (k.map kV)), rfl, fun H D y z kvs k ⟨b, e, eb⟩ h1 h2 => ⟨kvs, k, b, e, eb, h1, h2, rfl⟩, fun _ _ _ _ h => h, fun _ => pln_dT, fun _ _ _ _ e ⟨b, h1, h2⟩ => ⟨b, h1, e _ _ h2⟩⟩
/-- how a key is read -/
def KeyOk {κ : Type} [DecidableEq κ] (dk : DKd κ) (K : PySem.W.Frag) (F0 : Bs) (tk : TE) (tkD : DKy κ) : Prop := ∀ {σ : L2.St} {H : Hp} {Q : VK} {F R : Hp} {τ : SD} {M : Mp} {Q' : κ → Mp → Prop}, Bas F0 F R → Stt K F R H M → Slots K F σ τ → tkD τ M Q' →
  (∀ v H2 F2 k M2, Ext F F2 → Stt K F2 R H2 M2 → dk.kat F2 v k → Q' k M2 → Q v H2) → tk σ H Q
/-- a key that is a text or an int -/
def dKeyK (te : DE) : DKy Key := fun τ M Q => te τ M fun d M1 => match keyD d with
  | some k => Q k M1
  | none => False
/-- a key that is a tuple written there -/
def dKeyT (ta : DA) : DKy (List Key) := fun τ M Q => ta τ M fun ds M1 => ds.length ≤ sizeLine ∧ match keysD ds with
  | some k => Q k M1
  | none => False
theorem keyK_ok {K : PySem.W.Frag} {F0 : Bs} {te : DE} : KeyOk ddK K F0 (liE K F0 te) (dKeyK te) := fun {σ H Q F R τ M Q'} e0 st sl h k => by
  refine ⟨F, R, τ, M, _, e0, st, sl, h, fun v H2 F2 d M2 e2 st2 r2 q2 => ?_⟩
  split at q2 <;> try exact q2.elim
  rename_i k' h1
  exact k v H2 F2 k' M2 e2 st2 (r2.key h1) q2
theorem keyT_ok {K : PySem.W.Frag} {F0 : Bs} {ta : DA} : KeyOk ddT K F0 (tTup (liA K F0 ta)) (dKeyT ta) := fun {σ H Q F R τ M Q'} e0 st sl h k => by
  refine ⟨F, R, τ, M, _, e0, st, sl, h, fun vs H2 F2 ds M2 e2 st2 r2 ⟨hl, q2⟩ => ⟨by rw [r2.len]; exact hl, fun p hp => ?_⟩⟩
  split at q2 <;> try exact q2.elim
  rename_i k' h1
  obtain ⟨s3, ex⟩ := st2.freeze (o := .tup vs) hp
  exact k (.ref p) _ _ k' M2 (e2.trans ex) s3 ⟨p, rfl, by rw [upd_same, r2.keys h1]⟩ q2
/-- {k: e for .. in .. if t} -/
def dDc {κ : Type} [DecidableEq κ] (mo : List (κ × D) → MO) (wi : DTI) (plain : Bool) (is vs : List Nat) (tt : DT) (tkD : DKy κ) (te : DE) : DE := fun τ M Q => wi τ M fun j M1 => ∃ Pv : Nat → List (κ × D) → Mp → Prop, Pv 0 [] M1 ∧ (∀ i acc M, i ≤ j.n → Pv i acc M → j.ok M) ∧
  (∀ i acc M, i < j.n → Pv i acc M → match bindD plain is (j.at' i) (wipeD τ vs) with
    | some τ2 => tt τ2 M fun b M3 => if b = true then tkD τ2 M3 fun k M4 => te τ2 M4 fun e M5 => acc.length < sizeLine ∧ Pv (i + 1) (putD acc k e) M5 else Pv (i + 1) acc M3
    | none => False) ∧ ∀ acc M, Pv j.n acc M → ∀ p, M p = none → Q (.ref p) (updM M p (mo acc))
theorem li_dc {κ : Type} [DecidableEq κ] (dk : DKd κ) {K : PySem.W.Frag} {F0 : Bs} {wi : DTI} {g : TG} {plain : Bool} {is vs : List Nat} {tt : DT} {tk : TE} {tkD : DKy κ} {te : DE} (hk : KeyOk dk K F0 tk tkD) (ht : TgOk K g plain is) (hv : ∀ i ∈ is, i ∈ vs) {σ : L2.St} {H : Hp} {Q : VK} (h : liE K F0 (dDc dk.mo wi plain is vs tt tkD te) σ H Q) : tDcG dk.kd (liI K F0 wi) g (liT K F0 tt) tk (liE K F0 te) vs σ H Q := by
  obtain ⟨F, R, τ, M, Q', e0, st, sl, q, k⟩ := h
  refine ⟨F, R, τ, M, _, e0, st, sl, q, fun J H1 F1 j M1 e1 st1 rl ⟨Pv, p0, pk, ps, pd⟩ => fun L hL => ?_⟩
  have rL : R L = none := by
    cases z : R L with
    | none => rfl
    | some o => exact ((st1.rs L o z).1.there hL).elim
  have fL : F1 L = none := by
    cases z : F1 L with
    | none => rfl
    | some o => have := st1.fz L o z; rw [hL] at this; cases this
  have mL : M1 L = none := by
    cases z : M1 L with
    | none => rfl
    | some o => obtain ⟨_, u, hu, _⟩ := st1.ow L o z; rw [hL] at hu; cases hu
  have exR : ∀ o, Ext R (upd R L o) := fun o a u e => by rw [upd_ne (ne_of_none e rL)]; exact e
  have st0 : Stt K F1 (upd R L (dk.ho [])) (upd H1 L (dk.ho [])) M1 := by
    refine ⟨fun a u e => ?_, fun a u e => ?_, fun a m e => ?_, st1.nf, fun a u e => ?_⟩
    rotate_left 3
    · by_cases z : a = L
      · subst z; rw [upd_same] at e; cases e; exact (dk.pl []).nx
      · rw [upd_ne z] at e; exact st1.nr a u e
    · rw [upd_ne (ne_of_none e fL)]; exact st1.fz _ _ e
    · by_cases z : a = L
      · subst z; rw [upd_same] at e; cases e; exact ⟨(dk.pl []).sr _ _ upd_same, fL, mL⟩
      · rw [upd_ne z] at e
        obtain ⟨h1, h2, h3⟩ := st1.rs a u e
        exact ⟨h1.step (fun b v n eb => by rw [upd_ne n]; exact eb) z (fun c y => by rw [hL] at y; cases y), h2, h3⟩
    · have z : a ≠ L := fun z => by subst z; rw [mL] at e; cases e
      rw [upd_ne z]; exact st1.ow a m e
  rw [dk.h0]
  refine ⟨fun i m H => m = j.n - i ∧ i ≤ j.n ∧ ∃ F2 M2 xs acc, Ext F1 F2 ∧ Stt K F2 (upd R L (dk.ho xs)) H M2 ∧ RepKV K F2 xs acc ∧ Pv i acc M2, ⟨j.n, by simp, Nat.zero_le _, F1, M1, [], [], Ext.refl, st0, .nil, p0⟩, ?_⟩
  rintro i m H2 ⟨rfl, hi, F2, M2, xs, acc, e2, st2, ra, p2⟩
  have ok := pk i acc M2 hi p2
  by_cases hlt : i < j.n
  · refine .inr ⟨rl.go i F2 _ H2 M2 e2 st2 ok hlt, fun H' => ∃ F2 M2 xs acc, Ext F1 F2 ∧ Stt K F2 (upd R L (dk.ho xs)) H' M2 ∧ RepKV K F2 xs acc ∧ Pv (i + 1) acc M2, fun H' z => ⟨j.n - (i + 1), by omega, rfl, hlt, z⟩, fun x H3 y => ?_⟩
    obtain ⟨F3, e3, st3, rx, _⟩ := rl.yld i F2 _ H2 M2 x H3 e2 st2 ok hlt y
    have step := ps i acc M2 hlt p2
    split at step
    · rename_i τ3 eb
      have sl3 : Slots K F3 (wipe σ vs) (wipeD τ vs) := (sl.ext (e1.trans (e2.trans e3))).wipe vs
      refine ht.run F3 _ H3 M2 x _ _ _ τ3 _ st3 sl3 rx eb fun σ4 sl4 ⟨ys, hl, e4⟩ => ⟨by rw [e4, wipe_fold is ys _ hv, wipe_wipe], ?_⟩
      have b3 : Bas F0 F3 (upd R L (dk.ho xs)) := ⟨(e0.trans (e1.trans (e2.trans e3))).f, e0.r.trans (exR _), e0.t.ext (exR _)⟩
      refine ⟨F3, _, τ3, M2, _, b3, st3, sl4, step, fun b H5 F5 M5 e5 st5 q5 => ?_⟩
      cases b with
      | false =>
        rw [if_neg Bool.false_ne_true] at q5 ⊢
        exact ⟨F5, M5, xs, acc, e2.trans (e3.trans e5), st5, ra.ext (e3.trans e5), q5⟩
      | true =>
        rw [if_pos rfl] at q5 ⊢
        refine hk (b3.trans e5) st5 (sl4.ext e5) q5 fun yv H6 F6 k6 M6 e6 st6 kat6 q6 => ?_
        refine ⟨F6, _, τ3, M6, _, (b3.trans e5).trans e6, st6, (sl4.ext e5).ext e6, q6, fun z H7 F7 dz M7 e7 st7 r7 ⟨q7, q8⟩ => ?_⟩
        have ra7 := RepKV.ext (e3.trans (e5.trans (e6.trans e7))) ra
        have hL7 := (dk.pl xs).rs _ _ (st7.rs L _ upd_same).1
        refine ⟨_, dk.hput H7 L yv z xs k6 (dk.kext _ _ _ _ st7.fz (dk.kext _ _ _ _ e7 kat6)) hL7 (by rw [Paired.length ra7]; exact q7), F7, M7, _, _, e2.trans (e3.trans (e5.trans (e6.trans e7))), st7.reputG (dk.pl _) (dk.pl _), ra7.put k6 r7, q8⟩
    · exact step.elim
  · have e : i = j.n := by omega
    subst e
    have s3 := st2.reownG (dk.pl _) rL (dk.hrep _ _ _ _ ra)
    exact .inl ⟨rl.stop F2 _ H2 M2 e2 st2 ok, (k.ext (e1.trans e2)) _ _ _ _ _ Ext.refl s3 (.ref L) (pd acc M2 p2 L (st2.rs L _ upd_same).2.2)⟩
section
variable {κ : Type} [DecidableEq κ] {X : Cx} {F0 : Bs} {kx vx tg iter : Expr} {ifs : List Expr} {scope : Scope} {own : List (Str × Nat)} {pos : Pos} {wi : DTI} {g : TG} {plain : Bool} {is vs : List Nat} {tt : DT} {tk : TE} {tkD : DKy κ} {te : DE}
theorem pd_dc (dk : DKd κ) (hu : X.A.units + 64 < cLine) (hk : KeyOk dk X.K F0 tk tkD) (hc : X.calm = true) (hN : X.N.Nodup) (hi : PI X tg iter (liI X.K F0 wi)) (ok : BlkOk X.N X.env.scope scope own) (hvs : own.map (·.2) = vs) (hto : TgOk X.K g plain is) (hv : ∀ i ∈ is, i ∈ vs)
    (hg : ∀ (s : Shared) (H : Hp) (C : Addr) (cl : List (Str × Addr)) (fp : List Addr), PG (X.blk s H scope (compEnvC scope cl C X.env) fp) tg g)
    (ht : ∀ (s : Shared) (H : Hp) (C : Addr) (cl : List (Str × Addr)) (fp : List Addr), PTs (X.blk s H scope (compEnvC scope cl C X.env) fp) ifs (liT X.K F0 tt))
    (hkx : ∀ (s : Shared) (H : Hp) (C : Addr) (cl : List (Str × Addr)) (fp : List Addr), PE (X.blk s H scope (compEnvC scope cl C X.env) fp) kx tk)
    (he : ∀ (s : Shared) (H : Hp) (C : Addr) (cl : List (Str × Addr)) (fp : List Addr), PE (X.blk s H scope (compEnvC scope cl C X.env) fp) vx (liE X.K F0 te)) (hs : ∀ x, foldedSetIterable iter X.env x = pure x := by intro _; rfl) :
    PE X (.DictComp kx vx [⟨tg, iter, ifs, 0⟩] scope pos) (liE X.K F0 (dDc dk.mo wi plain is vs tt tkD te)) := by
  subst hvs
  exact peImp (pe_dcG dk.ok (by omega) hc hN hi ok hg ht hkx he hs) fun _ _ _ h => li_dc dk hk hto hv h
/-- name = {..} on one line -/
theorem sd_setDc (dk : DKd κ) (hu : X.A.units + 64 < cLine) (hk : KeyOk dk X.K F0 tk tkD) {i : Nat} {y : Str} {py spos : Pos} (hc : X.calm = true) (hN : X.N.Nodup) (hy : X.N[i]? = some y) (hyl : X.env.scope.names.lookup y = some .local)
    (hsw : swapsWith (.DictComp kx vx [⟨tg, iter, ifs, 0⟩] scope pos) (some (.Name y py)) spos.line X.env = pure true) (hi : PI X tg iter (liI X.K F0 wi)) (ok : BlkOk X.N X.env.scope scope own) (hvs : own.map (·.2) = vs) (hto : TgOk X.K g plain is) (hv : ∀ i ∈ is, i ∈ vs)
    (hg : ∀ (s : Shared) (H : Hp) (C : Addr) (cl : List (Str × Addr)) (fp : List Addr), PG (X.blk s H scope (compEnvC scope cl C X.env) fp) tg g)
    (ht : ∀ (s : Shared) (H : Hp) (C : Addr) (cl : List (Str × Addr)) (fp : List Addr), PTs (X.blk s H scope (compEnvC scope cl C X.env) fp) ifs (liT X.K F0 tt))
    (hkx : ∀ (s : Shared) (H : Hp) (C : Addr) (cl : List (Str × Addr)) (fp : List Addr), PE (X.blk s H scope (compEnvC scope cl C X.env) fp) kx tk)
    (he : ∀ (s : Shared) (H : Hp) (C : Addr) (cl : List (Str × Addr)) (fp : List Addr), PE (X.blk s H scope (compEnvC scope cl C X.env) fp) vx (liE X.K F0 te)) (hs : ∀ x, foldedSetIterable iter X.env x = pure x := by intro _; rfl) :
    PS X (.Assign [.Name y py] (.DictComp kx vx [⟨tg, iter, ifs, 0⟩] scope pos) spos) (liS X.K F0 (dSet i (dDc dk.mo wi plain is vs tt tkD te))) := by
  subst hvs
  exact psImp (ps_setDcG dk.ok (by omega) hc hN hy hyl hsw hi ok hg ht hkx he hs) fun D σ H ⟨F, R, τ, M, D', e0, st, sl, q, k⟩ =>
    li_dc (Q := fun x H1 => gName i x σ H1 D.nx) dk hk hto hv ⟨F, R, τ, M, _, e0, st, sl, q, fun v H2 F2 d M2 e2 st2 r2 q2 => k.nx _ _ _ _ _ e2 st2 ((sl.ext e2).put r2 i) q2⟩
end
theorem swD_true {kx vx : Expr} {gs : List Comprehension} {scope : Scope} {pos py : Pos} {y : Str} {l : Nat} {env : Env} (hk : env.scope.kind = .function) (hy : env.scope.names.lookup y = some .local) (hl : (py.line == pos.line) = true)
    (ha : (scope.names.any fun (n, k) => n == y && (k == .local || k == .cell)) = false) : swapsWith (.DictComp kx vx gs scope pos) (some (.Name y py)) l env = pure true := by
  have ky : env.kindOf y = some .local := hy
  have hb : env.blockKind = .function := by unfold Env.blockKind; rw [hk]; rfl
  unfold swapsWith
  simp only [hb, ky, ha, Expr.pos, hl]
  rfl
/-! ### in, [..], keys that are tuples -/
def dInT (neg : Bool) : R2D := fun x y M Q => match x, y with
  | .tup ds, .ref a => match keysD ds, M a with
    | some k, some (.dT kvs) => Q (.bl (if neg then !(valD kvs k).isSome else (valD kvs k).isSome)) M
    | _, _ => False
  | _, _ => False
def dTGet (td tk : DE) : DE := fun τ M Q => td τ M fun x M1 => tk τ M1 fun y M2 => match x, y with
  | .ref a, .tup ds => match keysD ds, M2 a with
    | some k, some (.dT kvs) => match valD kvs k with
      | some v => Q v M2
      | none => False
    | _, _ => False
  | _, _ => False
theorem Stt.dT {K : PySem.W.Frag} {F R H : Hp} {M : Mp} {a : Addr} {kds : List (List Key × D)} (st : Stt K F R H M) (h : M a = some (.dT kds)) : ∃ kvs, H a = some (.dT kvs) ∧ RepKV K F kvs kds := by
  obtain ⟨_, o, ho, ro⟩ := st.ow _ _ h
  cases o <;> first | exact ⟨_, ho, ro⟩ | exact ro.elim
theorem Stt.dK {K : PySem.W.Frag} {F R H : Hp} {M : Mp} {a : Addr} {kds : List (Key × D)} (st : Stt K F R H M) (h : M a = some (.dK kds)) : ∃ kvs, H a = some (.dK kvs) ∧ RepKV K F kvs kds := by
  obtain ⟨_, o, ho, ro⟩ := st.ow _ _ h
  cases o <;> first | exact ⟨_, ho, ro⟩ | exact ro.elim
section
variable {X : Cx} {F0 : Bs}
theorem od_inT (hu : X.A.units + 64 < cLine) : OpD X F0 (compareOp .In) (dInT false) := by
  refine opImp (op_inT false (by omega)) fun x y H Q ⟨F, R, M, d, e, Q', e0, st, rd, re, q, k⟩ => ?_
  unfold dInT at q
  split at q <;> try exact q.elim
  rename_i ds a
  split at q <;> try exact q.elim
  rename_i ks kds h1 h2
  obtain ⟨b, xs, rfl, hs, ra⟩ := tp_get st rd
  cases re
  obtain ⟨kvs, hk, rk⟩ := st.dT h2
  rw [ra.keys h1] at hs
  refine ⟨a, b, kvs, ks, rfl, rfl, .inl hk, hs, ?_⟩
  rw [rk.some ks]
  exact k _ _ _ _ _ Ext.refl st (.bl _) q
theorem od_notInT (hu : X.A.units + 64 < cLine) : OpD X F0 (compareOp .NotIn) (dInT true) := by
  refine opImp (op_inT true (by omega)) fun x y H Q ⟨F, R, M, d, e, Q', e0, st, rd, re, q, k⟩ => ?_
  unfold dInT at q
  split at q <;> try exact q.elim
  rename_i ds a
  split at q <;> try exact q.elim
  rename_i ks kds h1 h2
  obtain ⟨b, xs, rfl, hs, ra⟩ := tp_get st rd
  cases re
  obtain ⟨kvs, hk, rk⟩ := st.dT h2
  rw [ra.keys h1] at hs
  refine ⟨a, b, kvs, ks, rfl, rfl, .inl hk, hs, ?_⟩
  rw [rk.some ks]
  exact k _ _ _ _ _ Ext.refl st (.bl _) q
theorem pd_tget {o i : Expr} {pos : Pos} {td ty : DE} (hu : X.A.units + 64 < cLine) (ho : PE X o (liE X.K F0 td)) (hi : PE X i (liE X.K F0 ty)) (hs : NoSl i) : PE X (.Subscript o i pos) (liE X.K F0 (dTGet td ty)) := by
  refine peImp (pe_tget (by omega) ho hi hs) fun σ H Q ⟨F, R, τ, M, Q', e0, st, sl, q, k⟩ => ?_
  refine ⟨F, R, τ, M, _, e0, st, sl, q, fun v H1 F1 d M1 e1 st1 r1 q1 => ?_⟩
  refine ⟨F1, R, τ, M1, _, e0.trans e1, st1, sl.ext e1, q1, fun v2 H2 F2 d2 M2 e2 st2 r2 q2 => ?_⟩
  split at q2 <;> try exact q2.elim
  rename_i a ds
  split at q2 <;> try exact q2.elim
  rename_i ks kds h1 h2
  split at q2 <;> try exact q2.elim
  rename_i dv h3
  cases r1
  obtain ⟨b, xs, rfl, hs, ra⟩ := tp_get st2 r2
  obtain ⟨kvs, hk, rk⟩ := st2.dT h2
  rw [ra.keys h1] at hs
  obtain ⟨v, hv, rv⟩ := rk.get h3
  exact ⟨a, b, kvs, ks, v, rfl, rfl, .inl hk, hs, hv, k _ _ _ _ _ (e1.trans e2) st2 rv q2⟩
end
/-! ### steps -/
section
variable {κ : Type} [DecidableEq κ] {mo : List (κ × D) → MO} {wi : DTI} {plain : Bool} {is vs : List Nat} {tt : DT} {tkD : DKy κ} {te td tk : DE} {ta : DA} {τ : SD} {M : Mp} {Q : QD} {QK : κ → Mp → Prop} {QT : List Key → Mp → Prop}
def kDc (mo : List (κ × D) → MO) (plain : Bool) (is vs : List Nat) (tt : DT) (tkD : DKy κ) (te : DE) (τ : SD) (Q : QD) : ItD → Mp → Prop := fun j M1 => ∃ Pv : Nat → List (κ × D) → Mp → Prop, Pv 0 [] M1 ∧ (∀ i acc M, i ≤ j.n → Pv i acc M → j.ok M) ∧
  (∀ i acc M, i < j.n → Pv i acc M → match bindD plain is (j.at' i) (wipeD τ vs) with
    | some τ2 => tt τ2 M fun b M3 => if b = true then tkD τ2 M3 fun k M4 => te τ2 M4 fun e M5 => acc.length < sizeLine ∧ Pv (i + 1) (putD acc k e) M5 else Pv (i + 1) acc M3
    | none => False) ∧ ∀ acc M, Pv j.n acc M → ∀ p, M p = none → Q (.ref p) (updM M p (mo acc))
theorem s_dc (h : wi τ M (kDc mo plain is vs tt tkD te τ Q)) : dDc mo wi plain is vs tt tkD te τ M Q := h
/-- over data that nobody changes, each turn gives one pair, M stays -/
theorem s_kdcMap {α : Type} {xs : List α} {x : D} {i0 : Nat} (enc : α → D) (kf : α → κ) (vf : α → D) (hx : ∀ M, sqOf M x = some (xs.map enc)) (hl : xs.length < sizeLine)
    (hs : ∀ a (QK : κ → Mp → Prop), a ∈ xs → (∀ (Q : QD), Q (vf a) M → te ((wipeD τ vs).set i0 (some (enc a))) M Q) → QK (kf a) M → tkD ((wipeD τ vs).set i0 (some (enc a))) M QK)
    (hs2 : ∀ a (Q : QD), a ∈ xs → Q (vf a) M → te ((wipeD τ vs).set i0 (some (enc a))) M Q)
    (hd : ∀ p, M p = none → Q (.ref p) (updM M p (mo (xs.foldl (fun acc a => putD acc (kf a) (vf a)) [])))) : kDc mo true [i0] vs dYes tkD te τ Q (itSeq x (xs.map enc)) M := by
  refine ⟨fun i acc M' => M' = M ∧ acc = (xs.take i).foldl (fun acc a => putD acc (kf a) (vf a)) [] ∧ acc.length ≤ i, ⟨rfl, rfl, Nat.le_refl _⟩, fun _ _ M _ _ => hx M, fun i acc M' hi p => ?_, fun acc M' p => ?_⟩
  · obtain ⟨rfl, e, hla⟩ := p
    have hi : i < (xs.map enc).length := hi
    rw [List.length_map] at hi
    have eat : (itSeq x (xs.map enc)).at' i = enc xs[i] := by
      show (xs.map enc).getD i .non = _
      exact getD_of (by rw [List.getElem?_map, List.getElem?_eq_getElem hi]; rfl)
    rw [eat]
    show tkD ((wipeD τ vs).set i0 (some (enc xs[i]))) M' _
    have hm : xs[i] ∈ xs := List.getElem_mem hi
    refine hs _ _ hm (fun Q h => hs2 _ Q hm h) (hs2 _ _ hm ⟨by omega, rfl, ?_, ?_⟩)
    · rw [List.take_succ, List.getElem?_eq_getElem hi, List.foldl_append, e]; rfl
    · have : (putD acc (kf xs[i]) (vf xs[i])).length ≤ acc.length + 1 := by
        unfold putD
        split
        · rw [List.length_map]; omega
        · rw [List.length_append]; exact Nat.le_refl _
      omega
  · obtain ⟨rfl, e, _⟩ := p
    have e2 : (itSeq x (xs.map enc)).n = xs.length := by show (xs.map enc).length = _; rw [List.length_map]
    rw [e2, List.take_length] at e
    rw [e]
    exact hd
def kKeyT (QT : List Key → Mp → Prop) : List D → Mp → Prop := fun ds M1 => ds.length ≤ sizeLine ∧ match keysD ds with
  | some k => QT k M1
  | none => False
theorem s_keyT (h : ta τ M (kKeyT QT)) : dKeyT ta τ M QT := h
theorem s_kkeyT {ds : List D} {k : List Key} (hl : ds.length ≤ sizeLine) (e : keysD ds = some k) (h : QT k M) : kKeyT QT ds M := by unfold kKeyT; simp only [e]; exact ⟨hl, h⟩
theorem s_dinT {neg : Bool} {ds : List D} {a : Addr} {k : List Key} {kvs : List (List Key × D)} (e : keysD ds = some k) (hm : M a = some (.dT kvs)) (h : Q (.bl (if neg then !(valD kvs k).isSome else (valD kvs k).isSome)) M) : dInT neg (.tup ds) (.ref a) M Q := by
  unfold dInT; simp only [e, hm]; exact h
def kTG1 (tk : DE) (τ : SD) (Q : QD) : QD := fun x M1 => tk τ M1 fun y M2 => match x, y with
  | .ref a, .tup ds => match keysD ds, M2 a with
    | some k, some (.dT kvs) => match valD kvs k with
      | some v => Q v M2
      | none => False
    | _, _ => False
  | _, _ => False
def kTG2 (a : Addr) (Q : QD) : QD := fun y M2 => match y with
  | .tup ds => match keysD ds, M2 a with
    | some k, some (.dT kvs) => match valD kvs k with
      | some v => Q v M2
      | none => False
    | _, _ => False
  | _ => False
theorem s_tget (h : td τ M (kTG1 tk τ Q)) : dTGet td tk τ M Q := h
theorem s_ktg1 {a : Addr} (h : tk τ M (kTG2 a Q)) : kTG1 tk τ Q (.ref a) M := by
  unfold kTG1
  have e : (fun (y : D) (M2 : Mp) => match (D.ref a), y with
    | .ref a, .tup ds => match keysD ds, M2 a with
      | some k, some (.dT kvs) => match valD kvs k with
        | some v => Q v M2
        | none => False
      | _, _ => False
    | _, _ => False) = kTG2 a Q := by
    funext y M2
    cases y <;> rfl
  rw [e]
  exact h
theorem s_ktg2 {a : Addr} {ds : List D} {k : List Key} {kvs : List (List Key × D)} {v : D} (e : keysD ds = some k) (hm : M a = some (.dT kvs)) (hv : valD kvs k = some v) (h : Q v M) : kTG2 a Q (.tup ds) M := by
  unfold kTG2; simp only [e, hm, hv]; exact h
end
end DL

namespace DL
open PySem PySem.Spec PyProof.Rows L2
/-! the steps by name -/
local macro_rules | `(tactic| walk_at "set") => `(tactic| ((try simp only [setAll, updM_updM, Int.reduceToNat, List.set_cons_zero, List.set_cons_succ]); exact rfl))
local macro_rules | `(tactic| walk_at "sq") => `(tactic| first | exact rfl | exact sqOf_ref updM_same | exact sqOf_ref (by assumption))
local macro_rules | `(tactic| walk_at "ls") => `(tactic| first | exact rfl | exact lsOf_ref updM_same | exact lsOf_ref (by assumption))
local macro_rules | `(tactic| walk_at "s") => `(tactic| first
  | with_reducible refine s_seq ?_
  | with_reducible refine s_op ?_
  | ((with_reducible refine' s_var ?e ?_); (case e => exact rfl))
  | with_reducible refine s_kop1 ?_
  | with_reducible refine s_c ?_
  | with_reducible refine s_kop2 ?_
  | with_reducible refine s_ifS ?_
  | with_reducible refine s_test ?_
  | with_reducible refine s_kb ?_
  | with_reducible refine s_set ?_
  | ((with_reducible refine' s_kset ?e ?_); (case e => walk_at "set"))
  | with_reducible refine s_next ?_
  | with_reducible refine s_ret ?_
  | with_reducible refine s_cons ?_
  | with_reducible refine s_kcons1 ?_
  | with_reducible refine s_kcons2 ?_
  | with_reducible refine s_nil ?_
  | with_reducible refine s_cb ?_
  | with_reducible refine s_kcb ?_
  | with_reducible refine s_call ?_
  | with_reducible refine s_kcall ?_
  | with_reducible refine s_I0 ?_
  | with_reducible refine s_B0 ?_
  | with_reducible refine s_add ?_
  | ((with_reducible refine' s_eqS ?e ?_); (case e => exact rfl))
  | ((with_reducible refine' s_neS ?e ?_); (case e => exact rfl))
  | with_reducible refine s_isN ?_
  | with_reducible refine s_notN ?_
  | ((with_reducible refine' s_ix ?e ?e2 ?_); (case e => walk_at "sq"); (case e2 => exact rfl))
  | ((with_reducible refine' s_len ?e ?_); (case e => walk_at "sq"))
  | with_reducible refine s_tup ?_
  | ((with_reducible refine' s_ktup ?e ?_); (case e => (simp only [List.length_cons, List.length_nil]; decide)))
  | with_reducible refine s_lst ?_
  | ((with_reducible refine' s_klst ?e ?_); (case e => (simp only [List.length_cons, List.length_nil]; decide)))
  | with_reducible refine s_lstM ?_
  | ((with_reducible refine' s_klstM ?e ?_); (case e => (simp only [List.length_cons, List.length_nil]; decide)))
  | with_reducible refine s_truth ?_
  | with_reducible refine s_tru_bl ?_
  | with_reducible refine s_tru_non ?_
  | with_reducible refine s_tru_int ?_
  | with_reducible refine s_tru_tup ?_
  | with_reducible refine s_tru_lst ?_
  | with_reducible refine s_tand ?_
  | with_reducible refine s_tor ?_
  | with_reducible refine s_tnot ?_
  | with_reducible refine s_ktnot_t ?_
  | with_reducible refine s_ktnot_f ?_
  | with_reducible refine s_ktnot ?_
  | with_reducible refine s_or ?_
  | with_reducible refine s_and ?_
  | with_reducible refine s_not ?_
  | with_reducible refine s_korv ?_
  | with_reducible refine s_kandv ?_
  | with_reducible refine s_knot_t ?_
  | with_reducible refine s_knot_f ?_
  | with_reducible refine s_knot ?_
  | with_reducible refine s_ifE ?_
  | with_reducible refine s_unp ?_
  | ((with_reducible refine' s_kunp ?e ?e2 ?_); (case e => exact rfl); (case e2 => walk_at "set"))
  | with_reducible refine s_store ?_
  | with_reducible refine s_kst1 ?_
  | with_reducible refine s_kst2 ?_
  | ((with_reducible refine' s_kst3 ?e ?e2 ?e3 ?_); (case e => first | exact updM_same | assumption); (case e2 => exact rfl); (case e3 => walk_at "set"))
  | with_reducible refine s_un ?_
  | with_reducible refine s_kun ?_
  | with_reducible refine s_neg ?_
  | with_reducible refine s_int ?_
  | with_reducible refine s_intB ?_
  | ((with_reducible refine' s_tuple ?e ?_); (case e => walk_at "sq"))
  | ((with_reducible refine' s_list ?e ?_); (case e => walk_at "sq"))
  | ((with_reducible refine' s_isi ?e ?e2 ?e3 ?_); (case e => decide); (case e2 => exact rfl); (case e3 => first | exact (show isiN _ _ = true by decide) | exact (show isiN _ _ = false by decide)))
  | with_reducible refine s_chain ?_
  | with_reducible refine s_kch0 ?_
  | with_reducible refine s_kch1 ?_
  | with_reducible refine s_kch3 ?_
  | with_reducible refine s_sl ?_
  | with_reducible refine s_ksl0 ?_
  | with_reducible refine s_ksl1 ?_
  | with_reducible refine s_ksl2T ?_
  | with_reducible refine s_ksl2L ?_
  | with_reducible refine s_ksl2K ?_
  | with_reducible refine s_nopart ?_
  | with_reducible refine s_part ?_
  | with_reducible refine s_kpart ?_
  | with_reducible refine s_drop ?_
  | with_reducible refine s_kdrop ?_
  | with_reducible refine s_retN ?_
  | with_reducible refine s_mtL ?_
  | ((with_reducible refine' s_kmtL ?e ?_); (case e => first | exact isLst_ref updM_same | exact isLst_ref (by assumption)))
  | with_reducible refine s_kmt ?_
  | with_reducible refine s_mt0 ?_
  | with_reducible refine s_kmt0 ?_
  | with_reducible refine s_lc ?_
  | with_reducible refine s_for ?_
  | with_reducible refine s_seqI ?_
  | ((with_reducible refine' s_kseq ?e ?_); (case e => walk_at "sq"))
  | with_reducible refine s_rng1 ?_
  | with_reducible refine s_rng2 ?_
  | with_reducible refine s_rngA ?_
  | with_reducible refine s_kra ?_
  | with_reducible refine s_max2 ?_
  | with_reducible refine s_min2 ?_
  | with_reducible refine s_wh_t ?_
  | with_reducible refine s_wh_f ?_
  | with_reducible refine s_par ?_
  | ((with_reducible refine' s_kpar ?e ?_); (case e => exact rfl))
  | with_reducible refine s_break ?_
  | with_reducible refine s_cont ?_
  | ((with_reducible refine' s_aug ?e ?_); (case e => exact rfl))
  | with_reducible refine b_true ?_
  | with_reducible refine b_false ?_
  | with_reducible refine s_ktand_t ?_
  | with_reducible refine s_ktand_f ?_
  | with_reducible refine s_ktor_t ?_
  | with_reducible refine s_ktor_f ?_
  | with_reducible refine s_kor_t ?_
  | with_reducible refine s_kor_f ?_
  | with_reducible refine s_kand_t ?_
  | with_reducible refine s_kand_f ?_)
/-! a branch -/
local macro_rules | `(tactic| walk_at "b") => `(tactic| first
  | ((with_reducible_and_instances refine b_dec ?bt ?bf) <;> intro hc)
  | ((with_reducible_and_instances refine b_ndec ?bt ?bf) <;> intro hc)
  | ((with_reducible_and_instances refine s_wh_d ?bt ?bf) <;> intro hc)
  | ((with_reducible_and_instances refine s_wh_nd ?bt ?bf) <;> intro hc)
  | ((with_reducible_and_instances refine s_ktand_d ?bt ?bf) <;> intro hc)
  | ((with_reducible_and_instances refine s_ktor_d ?bt ?bf) <;> intro hc)
  | ((with_reducible_and_instances refine s_ktand_nd ?bt ?bf) <;> intro hc)
  | ((with_reducible_and_instances refine s_ktor_nd ?bt ?bf) <;> intro hc)
  | ((with_reducible_and_instances refine s_kand_d ?bt ?bf) <;> intro hc)
  | ((with_reducible_and_instances refine s_kor_d ?bt ?bf) <;> intro hc)
  | ((with_reducible_and_instances refine s_kifE_d ?bt ?bf) <;> intro hc)
  | ((with_reducible_and_instances refine s_kch2 ?bt ?bf) <;> intro hc))
local macro_rules | `(tactic| walk_at "g") => `(tactic| (repeat' (first | walk_at "s" | walk_at "b")))
local macro_rules | `(tactic| walk_at "w") => `(tactic| (walk_at "g" <;> repeat' (simp only [D.isN, Bool.not_true, Bool.not_false]; walk_at "g")))
local macro_rules | `(tactic| walk_at "y") => `(tactic| ((repeat' (walk_at "s")); first
  | refine b_dec (fun _ => ?_) (fun h => absurd rfl h)
  | refine s_ktand_d (fun _ => ?_) (fun h => absurd rfl h)
  | refine s_ktor_d (fun _ => ?_) (fun h => absurd rfl h)))
local macro_rules | `(tactic| walk_at "n") => `(tactic| ((repeat' (walk_at "s")); first
  | refine b_dec (fun h => absurd h (by decide)) (fun _ => ?_)
  | refine s_ktand_d (fun h => absurd h (by decide)) (fun _ => ?_)
  | refine s_ktor_d (fun h => absurd h (by decide)) (fun _ => ?_)))

/-! steps of DL25, DL27 by name -/
local macro_rules | `(tactic| walk_at "s") => `(tactic| first
  | with_reducible refine s_leS ?_
  | with_reducible refine s_strI ?_
  | with_reducible refine s_kstrI ?_
  | with_reducible refine s_enum ?_
  | with_reducible refine s_dc ?_
  | with_reducible refine s_keyT ?_
  | with_reducible refine s_tget ?_
  | with_reducible refine s_ktg1 ?_)

structure StOk (M : Mp) (a : Addr) : Prop where
  ex : ∃ (ns : List Int) (i c k : Int) (b : Bool), M a = some (.lst [.lst (ns.map .int), .int i, .int c, .int k, .bl b]) ∧ 0 ≤ i
structure Drawn (M : Mp) (a : Addr) (M' : Mp) : Prop where
  ok : StOk M' a
  same : ∀ b, b ≠ a → M' b = M b
theorem Drawn.trans {M M1 M2 : Mp} {a : Addr} (h : Drawn M a M1) (g : Drawn M1 a M2) : Drawn M a M2 := ⟨g.ok, fun b hb => (g.same b hb).trans (h.same b hb)⟩
theorem Drawn.of {M : Mp} {a : Addr} {ns : List Int} {i c k : Int} {b : Bool} (hi : 0 ≤ i) : Drawn M a (updM M a (.lst [.lst (ns.map .int), .int i, .int c, .int k, .bl b])) := ⟨⟨_, _, _, _, _, updM_same, hi⟩, fun _ h => updM_ne h⟩
def sp_law_draw : SpD := fun ds M Q _ => ∃ a lim, ds = [.ref a, .int lim] ∧ 0 < lim ∧ lim < 2 ^ 64 ∧ StOk M a ∧ ∀ d M', 0 ≤ d → d < lim → Drawn M a M' → Q (.int d) M'
def sp_law_state : SpD := fun ds M Q _ => ∃ ns : List Int, ds = [.lsk (ns.map .int)] ∧ ns.length ≤ 63 ∧ ∀ a M', M a = none → StOk M' a → (∀ b, b ≠ a → M' b = M b) → Q (.ref a) M'

/-! ### forms, the plain part -/
def encO : Option Int → D
  | none => .non
  | some i => .int i
def encP (p : Option Int × Int) : D := .tup [encO p.1, .int p.2]
structure Frm where
  head : List (Option Int)
  tail : List (Option Int × Int)
def Frm.enc (f : Frm) : D := .tup [.tup (f.head.map encO), .tup (f.tail.map encP)]
def tailVal (p : Option Int × Int) (k : Int) : Option Int := p.1.map fun v => v + p.2 * k
/-- the value at x -/
def Frm.val (f : Frm) (x : Int) : Option Int :=
  if x < 0 then none else if x < f.head.length then f.head.getD x.toNat none
  else tailVal (f.tail.getD ((x - f.head.length) % f.tail.length).toNat (none, 0)) ((x - f.head.length) / f.tail.length)
/-- its numbers are below 2 ^ n in size -/
def Frm.bd (f : Frm) (n : Nat) : Prop := ∀ p ∈ f.tail, p.2.natAbs < 2 ^ n
theorem encO_isN (v : Option Int) : (encO v).isN = v.isNone := by cases v <;> rfl
abbrev k_MAX_HEAD : D := .int 4000
abbrev k_MAX_PERIOD : D := .int 1000
def sp_value_at : SpD := fun ds M Q _ => ∃ (f : Frm) (x : Int) (n m : Nat), ds = [f.enc, .int x] ∧ 0 < f.tail.length ∧ f.tail.length ≤ 1000000 ∧ f.bd n ∧ x.natAbs < 2 ^ m ∧ 0 < n ∧ 0 < m ∧ n + m ≤ 1000000 ∧ f.head.length < 2 ^ m ∧ Q (encO (f.val x)) M

/-! ### the law's own -/
def small (i : Int) : Prop := i.natAbs < 2 ^ 100
def smallO (v : Option Int) : Prop := ∀ i, v = some i → small i
def smallP (p : Option Int × Int) : Prop := smallO p.1 ∧ small p.2 ∧ (p.1 = none → p.2 = 0)
structure GoodF (f : Frm) (heads size : Nat) : Prop where
  hl : f.head.length ≤ heads
  t0 : 0 < f.tail.length
  tl : f.tail.length ≤ size
  sm : ∀ p ∈ f.tail, smallP p
def Dr (a : Addr) (M : Mp) (d : D) (Q : QD) : Prop := ∀ M', Drawn M a M' → Q d M'
def sp_law_number : SpD := fun ds M Q _ => ∃ a, ds = [.ref a] ∧ StOk M a ∧ ∀ i M', small i → Drawn M a M' → Q (.int i) M'
def sp_law_far : SpD := fun ds M Q _ => ∃ a, ds = [.ref a] ∧ StOk M a ∧ ∀ i M', 0 ≤ i → i < 2 ^ 190 → Drawn M a M' → Q (.int i) M'
def sp_law_member : SpD := fun ds M Q _ => ∃ a, ds = [.ref a] ∧ StOk M a ∧ ∀ v M', smallO v → Drawn M a M' → Q (encO v) M'
def sp_law_pair : SpD := fun ds M Q _ => ∃ a k, ds = [.ref a, .int k] ∧ 0 ≤ k ∧ k < 10 ∧ StOk M a ∧ ∀ p M', smallP p → Drawn M a M' → Q (encP p) M'
def sp_law_form : SpD := fun ds M Q _ => ∃ (a : Addr) (heads size : Int) (kinds : List Int), ds = [.ref a, .int heads, .int size, .lst (kinds.map .int)] ∧ 0 ≤ heads ∧ heads < 1000 ∧ 0 < size ∧ size < 1000 ∧ 0 < kinds.length ∧ kinds.length < 100 ∧ (∀ k ∈ kinds, 0 ≤ k ∧ k < 10) ∧ StOk M a ∧
  ∀ f M', GoodF f heads.toNat size.toNat → (∀ v ∈ f.head, smallO v) → Drawn M a M' → Q f.enc M'
def sp_law_value : SpD := sp_value_at

/-! ### tails and normal forms, the plain part -/
def bdO (n : Nat) (v : Option Int) : Prop := ∀ i, v = some i → i.natAbs < 2 ^ n
def bdP (n : Nat) (p : Option Int × Int) : Prop := bdO n p.1 ∧ p.2.natAbs < 2 ^ n ∧ (p.1 = none → p.2 = 0)
abbrev Tl := List (Option Int × Int)
structure TOk (t : Tl) (n : Nat) : Prop where
  t0 : 0 < t.length
  tl : t.length ≤ 100000
  th : ∀ p ∈ t, bdP n p
  n0 : 0 < n
structure FOk (f : Frm) (n : Nat) : Prop where
  tk : TOk f.tail n
  hl : f.head.length ≤ 100000
  hd : ∀ v ∈ f.head, bdO n v
def tailAt (t : Tl) (k : Int) : Option Int × Int := t.getD (k % t.length).toNat (none, 0)
def tv (t : Tl) (k : Int) : Option Int := tailVal (tailAt t k) (k / t.length)
def ts (t : Tl) (k : Int) : Int := (tailAt t k).2
/-- q places on: the line goes on -/
def Lk (t : Tl) (q : Int) (k : Int) : Prop := (tv t k = none ∧ tv t (k + q) = none) ∨ ∃ a b, tv t k = some a ∧ tv t (k + q) = some b ∧ ts t k = ts t (k + q) ∧ (b - a) * t.length = ts t k * q
def HP (t : Tl) (q : Nat) : Prop := ∀ k : Int, 0 ≤ k → k < t.length → Lk t q k
def shrunk (t : Tl) (q : Nat) : Tl := (t.take q).map fun p => (p.1, p.2 * q / t.length)
def nrm (t : Tl) (head : List (Option Int)) (l : Nat) : Frm := ⟨head.take l, (List.range t.length).map fun i : Nat => (tv t ((i : Int) - ((head.length : Int) - l)), ts t ((i : Int) - ((head.length : Int) - l)))⟩
def sp_has_period : SpD := fun ds M Q _ => ∃ (t : Tl) (n q : Nat), ds = [.tup (t.map encP), .int q] ∧ TOk t n ∧ 0 < q ∧ q < t.length ∧ ∀ b, (b = true ↔ HP t q) → Q (.bl b) M
def sp_shortest_tail : SpD := fun ds M Q _ => ∃ (t : Tl) (n : Nat), ds = [.tup (t.map encP)] ∧ TOk t n ∧ ∀ t' : Tl, TOk t' (n + 20) → (∀ k, 0 ≤ k → tv t' k = tv t k) → t'.length ∣ t.length → (∀ q, 0 < q → q < t'.length → q ∣ t.length → ¬ HP t q) → Q (.tup (t'.map encP)) M
def sp_continued : SpD := fun ds M Q _ => ∃ (t : Tl) (n : Nat) (k : Int), ds = [.tup (t.map encP), .int k] ∧ TOk t n ∧ k.natAbs ≤ 200000 ∧ Q (encP (tv t k, ts t k)) M
/-- no shorter tail and no shorter head could replace it -/
structure IsNorm (f : Frm) : Prop where
  mn : ∀ q : Nat, 0 < q → q < f.tail.length → q ∣ f.tail.length → ¬ HP f.tail q
  hd : 0 < f.head.length → f.head.getD (f.head.length - 1) none ≠ tv f.tail (-1)
def sp_normal : SpD := fun ds M Q _ => ∃ (f : Frm) (n : Nat), ds = [f.enc] ∧ FOk f n ∧ ∀ g : Frm, FOk g (n + 40) → g.head.length ≤ f.head.length → g.tail.length ≤ f.tail.length → (∀ x, g.val x = f.val x) → IsNorm g → Q g.enc M

/-! ### another form of the same function; multiples -/
def sp_law_stretched : SpD := fun ds M Q _ => ∃ (a : Addr) (f : Frm) (n : Nat), ds = [.ref a, f.enc] ∧ StOk M a ∧ FOk f n ∧ n ≤ 1000 ∧ f.head.length ≤ 10000 ∧ f.tail.length ≤ 10000 ∧ ∀ (g : Frm) M', FOk g (n + 40) → g.head.length ≤ f.head.length + 3 → g.tail.length ≤ 3 * f.tail.length → (∀ x, g.val x = f.val x) → Drawn M a M' → Q g.enc M'
def timesO (k : Int) (v : Option Int) : Option Int := v.map (· * k)
def timesF (k : Int) (f : Frm) : Frm := ⟨f.head.map (timesO k), f.tail.map fun p => (timesO k p.1, p.2 * k)⟩
def sp_multiplied : SpD := fun ds M Q _ => ∃ (v : Option Int) (k : Int) (n : Nat), ds = [encO v, .int k] ∧ bdO n v ∧ 0 < n ∧ n ≤ 800000 ∧ k.natAbs < 2 ^ 100 ∧ Q (encO (timesO k v)) M
def sp_times : SpD := fun ds M Q _ => ∃ (f : Frm) (n : Nat) (k : Int), ds = [f.enc, .int k] ∧ k.natAbs < 2 ^ 100 ∧ FOk f n ∧ n ≤ 800000 ∧ ∀ g : Frm, FOk g (n + 140) → g.head.length ≤ f.head.length → g.tail.length ≤ f.tail.length → (∀ x, g.val x = timesO k (f.val x)) → IsNorm g → Q g.enc M

abbrev k_ITSELF : D := .tup [.tup [], .tup [.tup [.int 0, .int 1]]]
abbrev k_NOTHING : D := .tup [.tup [], .tup [.tup [.non, .int 0]]]
def sp_law_int : SpD := fun ds M Q _ => ∃ i : Int, ds = [.int i] ∧ Q (.bl true) M
def sp_law_is_form : SpD := fun ds M Q _ => ∃ f : Frm, ds = [f.enc] ∧ 0 < f.tail.length ∧ (∀ p ∈ f.tail, p.1 = none → p.2 = 0) ∧ Q (.bl true) M
def sp_law_is_even : SpD := fun ds M Q _ => ∃ (f : Frm) (n s : Nat), ds = [f.enc, .int s] ∧ FOk f n ∧ n ≤ 2000 ∧ 0 < s ∧ s ∣ f.tail.length ∧ ∀ b, (b = true → HP f.tail s) → Q (.bl b) M
def sp_law_is_normal : SpD := fun ds M Q _ => ∃ (f : Frm) (n : Nat), ds = [f.enc] ∧ FOk f n ∧ n ≤ 2000 ∧ IsNorm f ∧ Q (.bl true) M

/-! ### assembling a form from its lines -/
def spT (v : Int → Option Int) (P : Int → Prop) : SpD := fun ds M Q _ => ∃ x, ds = [.int x] ∧ P x ∧ Q (encO (v x)) M
def sp_first_of_class : SpD := fun ds M Q _ => ∃ r l p : Int, ds = [.int r, .int l, .int p] ∧ 0 < p ∧ Q (.int (l + (r - l) % p)) M
structure LineR (v : Int → Option Int) (p start x s : Int) : Prop where
  x0 : 0 ≤ x
  cls : ∃ j : Int, 0 ≤ j ∧ start = x + p * j
  run : ∀ j : Int, 0 ≤ j → x + p * j ≤ start → v (x + p * j) = (v x).map (· + s * j)
  stop : x < p ∨ v (x - p) ≠ (v x).map (· - s)
  s1 : ∀ a b, v start = some a → v (start + p) = some b → s = b - a
  s0 : v start = none → s = 0
def sp_line (C : Ct) : SpD := fun ds M Q _ => ∃ (p start : Int) (d : D) (v : Int → Option Int) (P : Int → Prop), ds = [.int p, d, .int start] ∧ 0 < p ∧ 0 ≤ start ∧ HasFn C 10 M d (spT v P) ∧ (∀ x, 0 ≤ x → x ≤ start + p → P x) ∧ (v start ≠ none → v (start + p) ≠ none) ∧
  ∀ x s, LineR v p start x s → Q (.tup [.int x, encO (v x), .int s]) M
/-- each class goes on evenly from its own start; how long the head is, is not known -/
structure AsmX (C : Ct) (M : Mp) (p : Nat) (d : D) (starts : List Int) (v : Int → Option Int) (P : Int → Prop) (B : Int) (n : Nat) : Prop where
  p0 : 0 < p
  pl : p ≤ 100000
  fn : HasFn C 10 M d (spT v P)
  len : starts.length = p
  st : ∀ (r : Nat) (s : Int), starts[r]? = some s → 0 ≤ s ∧ s % p = r ∧ s ≤ B
  P : ∀ x, 0 ≤ x → x ≤ B + p → P x
  lin : ∀ s ∈ starts, ∃ sl : Int, ∀ m, 0 ≤ m → v (s + p * m) = (v s).map (· + sl * m)
  bd : ∀ x, 0 ≤ x → x ≤ B + p → bdO n (v x)
  n0 : 0 < n
/-- no form of v has a head of up to 4000 members -/
def NoForm (v : Int → Option Int) : Prop := ∀ g : Frm, 0 < g.tail.length → (∀ x, 0 ≤ x → g.val x = v x) → 4000 < g.head.length
def sp_assemble (C : Ct) : SpD := fun ds M Q E => ∃ (p : Nat) (d st : D) (starts : List Int) (v : Int → Option Int) (P : Int → Prop) (B : Int) (n : Nat), ds = [.int p, d, st] ∧ sqOf M st = some (starts.map .int) ∧ AsmX C M p d starts v P B n ∧
  (∀ g : Frm, FOk g (n + 41) → IsNorm g → g.head.length ≤ 4000 → (g.head.length : Int) ≤ B → g.tail.length ≤ p → (∀ x, 0 ≤ x → g.val x = v x) → Q g.enc M) ∧ (NoForm v → E (exV C "TooLarge") none M)

/-! ### working periods that may be too great -/
def startsD (L : Int) (p : Nat) : List Int := (List.range p).map fun i : Nat => L + ((i : Int) - L) % p
def sp_check_period (C : Ct) : SpD := fun ds M Q E => ∃ p : Int, ds = [.int p] ∧ (p ≤ 1000 → Q .non M) ∧ (1000 < p → E (exV C "TooLarge") none M)

/-! ### operations that may be too large -/
structure NrmOf (f g : Frm) (N : Nat) : Prop where
  k : FOk g (N + 40)
  nm : IsNorm g
  hl : g.head.length ≤ f.head.length
  tl : g.tail.length ≤ f.tail.length
  ev : ∀ x, g.val x = f.val x
/-- the form of v is told, or it is too large -/
structure OpE (C : Ct) (v : Int → Option Int) (p n : Nat) (M : Mp) (Q : QD) (E : XD) : Prop where
  q : ∀ h : Frm, FOk h n → IsNorm h → h.head.length ≤ 4000 → h.tail.length ≤ p → (∀ x, 0 ≤ x → h.val x = v x) → Q h.enc M
  e : NoForm v → E (exV C "TooLarge") none M
/-- .. with a working period -/
structure PerE (C : Ct) (p : Nat) (v : Int → Option Int) (n : Nat) (M : Mp) (Q : QD) (E : XD) : Prop where
  big : 1000 < p → E (exV C "TooLarge") none M
  op : p ≤ 1000 → OpE C v p n M Q E
def spF2 (op : Option Int → Option Int → Option Int) : SpD := fun ds M Q _ => ∃ u w, ds = [encO u, encO w] ∧ Q (encO (op u w)) M
structure OpOk (op : Option Int → Option Int → Option Int) : Prop where
  lin : ∃ sl : Option Int → Option Int → Int → Int → Int, ∀ u w s t m, 0 ≤ m → op (u.map (· + s * m)) (w.map (· + t * m)) = (op u w).map (· + sl u w s t * m)
  bd : ∀ n u w, bdO n u → bdO n w → bdO (n + 1) (op u w)
def addO : Option Int → Option Int → Option Int
  | some a, some b => some (a + b)
  | _, _ => none
def subO : Option Int → Option Int → Option Int
  | some a, some b => some (a - b)
  | _, _ => none
def fstO : Option Int → Option Int → Option Int
  | none, b => b
  | some a, _ => some a
def sp_added : SpD := spF2 addO
def sp_taken : SpD := spF2 subO
def sp_first : SpD := spF2 fstO
def mxH (f g : Frm) : Int := max (f.head.length : Int) g.head.length
def sp_common_period (C : Ct) : SpD := fun ds M Q E => ∃ (f g : Frm), ds = [f.enc, g.enc] ∧ 0 < f.tail.length ∧ 0 < g.tail.length ∧ f.tail.length ≤ 100000 ∧ g.tail.length ≤ 100000 ∧ (Nat.lcm f.tail.length g.tail.length ≤ 1000 → Q (.int (Nat.lcm f.tail.length g.tail.length : Nat)) M) ∧ (1000 < Nat.lcm f.tail.length g.tail.length → E (exV C "TooLarge") none M)
def sp_common_starts : SpD := fun ds M Q _ => ∃ (f g : Frm) (p : Nat), ds = [f.enc, g.enc, .int p] ∧ 0 < p ∧ p ≤ 100000 ∧ Q (.lst ((startsD (mxH f g) p).map .int)) M
def sp_even (C : Ct) : SpD := fun ds M Q E => ∃ (f g : Frm) (d : D) (op : Option Int → Option Int → Option Int) (N : Nat), ds = [f.enc, g.enc, d] ∧ FOk f N ∧ FOk g N ∧ N ≤ 5000 ∧ OpOk op ∧ (∀ M, HasFn C 5 M d (spF2 op)) ∧
  ∀ f2 g2, NrmOf f f2 N → NrmOf g g2 N → PerE C (Nat.lcm f2.tail.length g2.tail.length) (fun x => op (f.val x) (g.val x)) (N + 30) M Q E
def spOp (C : Ct) (op : Option Int → Option Int → Option Int) : SpD := fun ds M Q E => ∃ (f g : Frm) (N : Nat), ds = [f.enc, g.enc] ∧ FOk f N ∧ FOk g N ∧ N ≤ 900 ∧
  ∀ f2 g2, NrmOf f f2 N → NrmOf g g2 N → PerE C (Nat.lcm f2.tail.length g2.tail.length) (fun x => op (f.val x) (g.val x)) (N + 30) M Q E
def sp_sum_of (C : Ct) : SpD := spOp C addO
def sp_difference (C : Ct) : SpD := spOp C subO
def sp_otherwise (C : Ct) : SpD := spOp C fstO

/-! ### tariffs -/
abbrev k_MAX_ROWS : D := .int 40
abbrev k_MAX_STEPS : D := .int 60
abbrev k_MAX_TOP : D := .int 3999
abbrev k_MAX_PRICE : D := .int 1000000000
mutual
/-- data of any depth, texts not too long -/
def good : D → Bool
  | .non => true
  | .bl _ => true
  | .int _ => true
  | .str z => decide (z.length ≤ 1000)
  | .tup xs => goods xs
  | .lst _ => false
  | .lsk _ => false
  | .ref _ => false
  | .ty _ => false
  | .fn _ _ => false
def goods : List D → Bool
  | [] => true
  | d :: ds => good d && goods ds
end
def isIntD : D → Bool
  | .int _ => true
  | _ => false
def betw (d : D) (lo : Int) (hi : Option Int) : Bool := match d with
  | .int i => decide (lo ≤ i) && (match hi with
    | none => true
    | some h => decide (i ≤ h))
  | _ => false
def isRow (d : D) (n : Nat) : Bool := match d with
  | .tup xs => decide (xs.length = n)
  | _ => false
def letC (c : Nat) : Bool := leC "a" ⟨#[c]⟩ && leC ⟨#[c]⟩ "z"
def nameOk : D → Bool
  | .str z => decide (1 ≤ z.length) && (decide (z.length ≤ 12) && ((List.range z.cps.size).map fun i => letC (z.cps.getD i 0)).all id)
  | _ => false
def ascB (ns : List Int) : Bool := ((List.range (ns.length - 1)).map fun i => decide (ns.getD i 0 < ns.getD (i + 1) 0)).all id
def intD : D → Int
  | .int i => i
  | _ => 0
def fstD : D → D
  | .tup (x :: _) => x
  | _ => .non
def sndD : D → D
  | .tup (_ :: y :: _) => y
  | _ => .non
def stepOk (d : D) : Bool := betw (fstD d) 0 (some 3999) && (D.isN (sndD d) || betw (sndD d) 0 (some 1000000000))
def stepsOk : D → Bool
  | .tup xs => decide (xs.length ≤ 60) && ((xs.map fun x => isRow x 2).all id && (xs.all stepOk && ascB (xs.map fun x => intD (fstD x))))
  | _ => false
def moreOk : D → Bool
  | .non => true
  | .tup [a, b] => betw a 1 (some 1000) && betw b 0 (some 1000000000)
  | _ => false
def strD : D → Str
  | .str s => s
  | _ => ""
def optS : Option Str → D
  | none => .non
  | some s => .str s
def encB : Option (List Str) → D
  | none => .non
  | some b => .tup (b.map .str)
def rowFault (row : D) (before : Option (List Str)) : Option Str := match row with
  | .tup [z, s, st, m] => if nameOk z = false then some "zone" else if nameOk s = false then some "service" else if (before.any fun b => lexS [strD z, strD s] b) = true then some "order" else if stepsOk st = false then some "steps" else if moreOk m = false then some "more" else none
  | _ => none
def keyS (row : D) : List Str := [strD (fstD row), strD (sndD row)]
def rowsFault : List D → Option (List Str) → Option Str
  | [], _ => none
  | r :: rs, b => match rowFault r b with
    | some w => some w
    | none => rowsFault rs (some (keyS r))
def tariffFault : D → Option Str
  | .tup rs => if rs.length ≤ 40 ∧ (rs.map fun r => isRow r 4).all id = true then rowsFault rs none else some "form"
  | _ => some "form"
def sp_is_integer : SpD := fun ds M Q _ => ∃ d, ds = [d] ∧ good d = true ∧ Q (.bl (isIntD d)) M
def sp_is_between : SpD := fun ds M Q _ => ∃ d lo hi, ds = [d, .int lo, encO hi] ∧ good d = true ∧ Q (.bl (betw d lo hi)) M
def sp_is_row : SpD := fun ds M Q _ => ∃ d n, ds = [d, .int (n : Nat)] ∧ good d = true ∧ Q (.bl (isRow d n)) M
def sp_is_name : SpD := fun ds M Q _ => ∃ d, ds = [d] ∧ good d = true ∧ Q (.bl (nameOk d)) M
def sp_is_ascending : SpD := fun ds M Q _ => ∃ ns : List Int, ds = [.lst (ns.map .int)] ∧ ns.length ≤ 100000 ∧ Q (.bl (ascB ns)) M
def sp_are_steps : SpD := fun ds M Q _ => ∃ d, ds = [d] ∧ good d = true ∧ Q (.bl (stepsOk d)) M
def sp_is_more : SpD := fun ds M Q _ => ∃ d, ds = [d] ∧ good d = true ∧ Q (.bl (moreOk d)) M
def sp_row_fault : SpD := fun ds M Q _ => ∃ z s st m before, ds = [.tup [z, s, st, m], encB before] ∧ good z = true ∧ good s = true ∧ good st = true ∧ good m = true ∧ Q (optS (rowFault (.tup [z, s, st, m]) before)) M
def sp_tariff_fault : SpD := fun ds M Q _ => ∃ d, ds = [d] ∧ good d = true ∧ Q (optS (tariffFault d)) M

/-! ### prices -/
structure TRow where
  zone : Str
  service : Str
  steps : List (Int × Option Int)
  more : Option (Int × Int)
def encS (p : Int × Option Int) : D := .tup [.int p.1, encO p.2]
def encM : Option (Int × Int) → D
  | none => .non
  | some p => .tup [.int p.1, .int p.2]
def TRow.enc (r : TRow) : D := .tup [.str r.zone, .str r.service, .tup (r.steps.map encS), encM r.more]
structure TRow.Ok (r : TRow) : Prop where
  sl : r.steps.length ≤ 100
  st : ∀ p ∈ r.steps, 0 ≤ p.1 ∧ p.1 ≤ 10000
  mo : ∀ p, r.more = some p → 1 ≤ p.1 ∧ p.1 ≤ 1000 ∧ 0 ≤ p.2 ∧ p.2 ≤ 1000000000
def lastS (r : TRow) : Int × Option Int := r.steps.getLast?.getD (0, some 0)
def rowPrice (r : TRow) (w : Int) : Option Int := match r.steps.find? fun p => decide (w ≤ p.1) with
  | some p => p.2
  | none => match (lastS r).2, r.more with
    | some b, some m => some (b - m.2 * (((lastS r).1 - w) / m.1))
    | _, _ => none
def lookR (rows : List TRow) (z s : Str) : Option TRow := rows.find? fun r => decide (r.zone = z ∧ r.service = s)
def rowsFor (rows : List TRow) (z : Str) (ss : List Str) : Option (List TRow) := if (ss.all fun s => (lookR rows z s).isSome) = true then some (ss.filterMap (lookR rows z)) else none
def priceO (rows : List TRow) (z : Str) (ss : List Str) (w : Int) : Option Int := match rowsFor rows z ss with
  | none => none
  | some rs => if (rs.all fun r => (rowPrice r w).isSome) = true then some ((rs.filterMap fun r => rowPrice r w).sum) else none
def KeysD (rows : List TRow) : Prop := rows.Pairwise fun a b => ¬ (a.zone = b.zone ∧ a.service = b.service)
def encRs : Option (List TRow) → D
  | none => .non
  | some rs => .lst (rs.map TRow.enc)
def sp_last_step : SpD := fun ds M Q _ => ∃ r : TRow, ds = [r.enc] ∧ Q (encS (lastS r)) M
def sp_row_price : SpD := fun ds M Q _ => ∃ (r : TRow) (w : Int), ds = [r.enc, .int w] ∧ r.Ok ∧ Q (encO (rowPrice r w)) M
def sp_law_row_price : SpD := sp_row_price
def sp_rows_for : SpD := fun ds M Q _ => ∃ (rows : List TRow) (z : Str) (ss : List Str), ds = [.tup (rows.map TRow.enc), .str z, .tup (ss.map .str)] ∧ rows.length ≤ 1000 ∧ ss.length ≤ 1000 ∧ KeysD rows ∧ Q (encRs (rowsFor rows z ss)) M
def spPr : SpD := fun ds M Q _ => ∃ (rows : List TRow) (z : Str) (ss : List Str) (w : Int), ds = [.tup (rows.map TRow.enc), .str z, .tup (ss.map .str), .int w] ∧ rows.length ≤ 1000 ∧ ss.length ≤ 1000 ∧ KeysD rows ∧ (∀ r ∈ rows, r.Ok) ∧ Q (encO (priceO rows z ss w)) M
def sp_price : SpD := spPr
def sp_law_price : SpD := spPr

/-! ### the order of texts, right tariffs -/
def ltS (a b : Str) : Prop := ltCps a.cps.toList b.cps.toList = true
def KeyLt (a b : TRow) : Prop := ltS a.zone b.zone ∨ (a.zone = b.zone ∧ ltS a.service b.service)
def isNm (z : Str) : Prop := nameOk (.str z) = true
structure StepsOk (ps : List (Int × Option Int)) (n : Nat) : Prop where
  len : ps.length ≤ n
  asc : ps.Pairwise fun p q => p.1 < q.1
  top : ∀ p ∈ ps, 0 ≤ p.1 ∧ p.1 ≤ 3999
  am : ∀ p ∈ ps, ∀ v, p.2 = some v → 0 ≤ v ∧ v ≤ 1000000000
def MoreOk (m : Option (Int × Int)) : Prop := ∀ p, m = some p → 1 ≤ p.1 ∧ p.1 ≤ 1000 ∧ 0 ≤ p.2 ∧ p.2 ≤ 1000000000
structure RowOk (r : TRow) : Prop where
  z : isNm r.zone
  s : isNm r.service
  st : StepsOk r.steps 60
  mo : MoreOk r.more
structure TarOk (rows : List TRow) : Prop where
  ne : rows ≠ []
  len : rows.length ≤ 20
  row : ∀ r ∈ rows, RowOk r
  asc : rows.Pairwise KeyLt
def sp_law_name : SpD := fun ds M Q _ => ∃ a, ds = [.ref a] ∧ StOk M a ∧ ∀ z M', isNm z → Drawn M a M' → Q (.str z) M'
def sp_law_amount : SpD := fun ds M Q _ => ∃ a, ds = [.ref a] ∧ StOk M a ∧ ∀ v M', 0 ≤ v → v ≤ 1000000000 → Drawn M a M' → Q (.int v) M'
def sp_law_steps : SpD := fun ds M Q _ => ∃ a, ds = [.ref a] ∧ StOk M a ∧ ∀ ps M', StepsOk ps 8 → Drawn M a M' → Q (.tup (ps.map encS)) M'
def sp_law_more : SpD := fun ds M Q _ => ∃ a, ds = [.ref a] ∧ StOk M a ∧ ∀ m M', MoreOk m → Drawn M a M' → Q (encM m) M'
structure NmsOk (ys : List Str) (n : Nat) : Prop where
  ne : ys ≠ []
  len : ys.length ≤ n
  nm : ∀ z ∈ ys, isNm z
  asc : ys.Pairwise ltS
def sp_law_some_names : SpD := fun ds M Q _ => ∃ (a : Addr) (n : Nat), ds = [.ref a, .int n] ∧ 1 ≤ n ∧ n ≤ 10 ∧ StOk M a ∧ ∀ ys M', NmsOk ys n → Drawn M a M' → Q (.lst (ys.map .str)) M'
def sp_law_tariff : SpD := fun ds M Q _ => ∃ a, ds = [.ref a] ∧ StOk M a ∧ ∀ rows M', TarOk rows → Drawn M a M' → Q (.tup (rows.map TRow.enc)) M'

/-! ### postage -/
def perR (r : TRow) : Nat := match r.more with
  | none => 1
  | some m => if m.2 = 0 then 1 else if (lastS r).2 = none then 1 else m.1.toNat
def lcmR (rs : List TRow) : Nat := rs.foldl (fun n r => Nat.lcm n (perR r)) 1
def topR (r : TRow) : Nat := (lastS r).1.toNat
def rowF (r : TRow) : Frm := ⟨(List.range (topR r + 1)).map fun i : Nat => rowPrice r i, match (lastS r).2, r.more with
  | some b, some m => List.replicate m.1.toNat (some (b + m.2), m.2)
  | _, _ => [(none, 0)]⟩
/-- the form of a row -/
structure PF (r : TRow) (g : Frm) : Prop where
  k : FOk g 80
  nm : IsNorm g
  hl : g.head.length ≤ 4000
  tl : g.tail.length = perR r
  v : ∀ x, 0 ≤ x → g.val x = rowPrice r x
def sumP (rs : List TRow) (w : Int) : Option Int := if (rs.all fun r => (rowPrice r w).isSome) = true then some ((rs.filterMap fun r => rowPrice r w).sum) else none
/-- the form of some rows -/
structure PG (rs : List TRow) (g : Frm) (N : Nat) : Prop where
  k : FOk g N
  nm : IsNorm g
  hl : g.head.length ≤ 4000
  tl : g.tail.length ∣ lcmR rs
  v : ∀ x, 0 ≤ x → g.val x = sumP rs x
structure RwsOk (rows : List TRow) : Prop where
  len : rows.length ≤ 20
  row : ∀ r ∈ rows, RowOk r
  keys : KeysD rows
def sp_row_form : SpD := fun ds M Q _ => ∃ r : TRow, ds = [r.enc] ∧ RowOk r ∧ ∀ g, PF r g → Q g.enc M
def spPost (told : Frm → QD → Mp → Prop) (big : QD → XD → Mp → Prop) (non : QD → Mp → Prop) : SpD := fun ds M Q E => ∃ (rows : List TRow) (z : Str) (ss : List Str), ds = [.tup (rows.map TRow.enc), .str z, .tup (ss.map .str)] ∧ RwsOk rows ∧ ss.length ≤ 25 ∧ ss ≠ [] ∧ (rowsFor rows z ss = none → non Q M) ∧
  ∀ rs, rowsFor rows z ss = some rs → (rs.length ≤ 2 ∨ lcmR rs ≤ 1000) ∧ (1000 < lcmR rs → big Q E M) ∧ (lcmR rs ≤ 1000 → ∀ g, PG rs g 2000 → told g Q M)
def sp_postage (C : Ct) : SpD := spPost (fun g Q M => Q g.enc M) (fun _ E M => E (exV C "TooLarge") none M) (fun Q M => Q k_NOTHING M)
def sp_law_told (_ : Ct) : SpD := spPost (fun g Q M => Q (.tup [.str "told", g.enc]) M) (fun Q _ M => Q (.tup [.str "large", .non]) M) (fun Q M => Q (.tup [.str "told", k_NOTHING]) M)

def sp_law_common : SpD := fun ds M Q _ => ∃ (a b : Nat), ds = [.int a, .int b] ∧ Q (.int (Nat.gcd a b : Nat)) M

def lcmS (rows : List TRow) (z : Str) (ss : List Str) : Nat := lcmR (rows.filter fun r => decide (r.zone = z ∧ r.service ∈ ss))
def sp_law_services : SpD := fun ds M Q _ => ∃ (a : Addr) (rows : List TRow), ds = [.ref a, .tup (rows.map TRow.enc)] ∧ TarOk rows ∧ StOk M a ∧ ∀ (z : Str) (ss : List Str) M', isNm z → ss.length ≤ 20 → ss ≠ [] → (∀ s ∈ ss, ∃ r ∈ rows, r.zone = z ∧ r.service = s) → Drawn M a M' → Q (.tup [.str z, .tup (ss.map .str)]) M'
def sp_law_edges : SpD := fun ds M Q _ => ∃ (rows : List TRow) (z : Str), ds = [.tup (rows.map TRow.enc), .str z] ∧ RwsOk rows ∧ ∀ ws : List Int, ws.length ≤ 10000 → (∀ w ∈ ws, 0 ≤ w ∧ w ≤ 1000000) → Q (.lst (ws.map .int)) M
def sp_law_period : SpD := fun ds M Q _ => ∃ r : TRow, ds = [r.enc] ∧ RowOk r ∧ Q (.int (perR r : Nat)) M
def sp_law_periods : SpD := fun ds M Q _ => ∃ (rows : List TRow) (z : Str) (ss : List Str), ds = [.tup (rows.map TRow.enc), .str z, .tup (ss.map .str)] ∧ RwsOk rows ∧ Q (.int (lcmS rows z ss : Nat)) M
def sp_law_two : SpD := fun ds M Q _ => ∃ a, ds = [.ref a] ∧ StOk M a ∧ ∀ rows M', RwsOk rows → (∀ s ∈ [("basic" : Str), "extra"], ∃ r ∈ rows, r.zone = "far" ∧ r.service = s) → Drawn M a M' → Q (.tup (rows.map TRow.enc)) M'
def sp_law_holds : SpD := fun ds M Q _ => ∃ (a : Addr) (rows : List TRow) (z : Str) (ss : List Str), ds = [.ref a, .tup (rows.map TRow.enc), .str z, .tup (ss.map .str)] ∧ RwsOk rows ∧ ss.length ≤ 20 ∧ ss ≠ [] ∧ (∀ s ∈ ss, ∃ r ∈ rows, r.zone = z ∧ r.service = s) ∧ (ss.length ≤ 2 ∨ lcmS rows z ss ≤ 1000) ∧ StOk M a ∧ ∀ M', Drawn M a M' → Q (.bl true) M'
abbrev sp_law : SpD := spLawD

def t_value_at : DS :=
    (dSeq (dUnp [2, 3] (dVar 0))
    (dSeq (dIfS (dTest (dOp dLt (dVar 1) (dC (.int 0)))) (dRet (dC .non)) dNext)
    (dSeq (dIfS (dTest (dOp dLt (dVar 1) (dCB dLen (dCons (dVar 2) dNil)))) (dRet (dOp dIx (dVar 2) (dVar 1))) dNext)
    (dSeq (dSet 4 (dOp dSub (dVar 1) (dCB dLen (dCons (dVar 2) dNil))))
    (dSeq (dUnp [5, 6] (dOp dIx (dVar 3) (dOp dMod (dVar 4) (dCB dLen (dCons (dVar 3) dNil)))))
    (dSeq (dIfS (dTest (dOp dIsN (dVar 5) (dC .non))) (dRet (dC .non)) dNext)
    (dRet (dOp dAdd (dVar 5) (dOp dMul (dVar 6) (dOp dFdiv (dVar 4) (dCB dLen (dCons (dVar 3) dNil))))))))))))
abbrev n_value_at : List Str := ["form", "x", "head", "tail", "behind", "value", "step"]
def t_has_period : DS :=
    (dSeq (dSet 2 (dCB dLen (dCons (dVar 0) dNil)))
    (dSeq (dFor (iRng1D (dCons (dVar 2) dNil)) (gD true [3]) (dSeq (dUnp [4, 5] (dOp dIx (dVar 0) (dVar 3)))
    (dSeq (dSet 6 (dOp dFdiv (dOp dAdd (dVar 3) (dVar 1)) (dVar 2)))
    (dSeq (dUnp [7, 8] (dOp dIx (dVar 0) (dOp dSub (dOp dAdd (dVar 3) (dVar 1)) (dOp dMul (dVar 2) (dVar 6)))))
    (dIfS (dTOr (dTest (dOp dIsN (dVar 4) (dC .non))) (dTest (dOp dIsN (dVar 7) (dC .non)))) (dIfS (dTOr (dTest (dOp dNotN (dVar 4) (dC .non))) (dTest (dOp dNotN (dVar 7) (dC .non)))) (dRet (dC (.bl false))) dNext) (dIfS (dTOr (dTest (dOp dNe (dVar 5) (dVar 8))) (dTest (dOp dNe (dOp dMul (dOp dSub (dOp dAdd (dVar 7) (dOp dMul (dVar 5) (dVar 6))) (dVar 4)) (dVar 2)) (dOp dMul (dVar 5) (dVar 1))))) (dRet (dC (.bl false))) dNext))))))
    (dRet (dC (.bl true)))))
abbrev n_has_period : List Str := ["tail", "size", "period", "index", "value", "step", "wraps", "later", "later_step"]
def t_shortest_tail : DS :=
    (dSeq (dSet 1 (dCB dLen (dCons (dVar 0) dNil)))
    (dSeq (dFor (iRngAD (dCons (dC (.int 1)) (dCons (dVar 1) dNil))) (gD true [2]) (dIfS (dTAnd (dTest (dOp dEq (dOp dMod (dVar 1) (dVar 2)) (dC (.int 0)))) (dTruth (dCall sp_has_period E0D (dCons (dVar 0) (dCons (dVar 2) dNil))))) (dRet (dCB dTuple (dCons (dLc (iSeqD (dSl (dVar 0) dNoPart (dPart (dVar 2)))) false [3, 4] [3, 4] dYes (dTup (dCons (dVar 3) (dCons (dOp dFdiv (dOp dMul (dVar 4) (dVar 2)) (dVar 1)) dNil)))) dNil))) dNext))
    (dRet (dVar 0))))
abbrev n_shortest_tail : List Str := ["tail", "period", "size", "value", "step"]
def t_continued : DS :=
    (dSeq (dUnp [2, 3] (dOp dIx (dVar 0) (dOp dMod (dVar 1) (dCB dLen (dCons (dVar 0) dNil)))))
    (dSeq (dIfS (dTest (dOp dIsN (dVar 2) (dC .non))) (dRet (dTup (dCons (dC .non) (dCons (dC (.int 0)) dNil)))) dNext)
    (dRet (dTup (dCons (dOp dAdd (dVar 2) (dOp dMul (dVar 3) (dOp dFdiv (dVar 1) (dCB dLen (dCons (dVar 0) dNil))))) (dCons (dVar 3) dNil))))))
abbrev n_continued : List Str := ["tail", "places", "value", "step"]
def t_normal_c4 : DS :=
    (dSeq (dSet 6 (dOp dSub (dCB dLen (dCons (dVar 1) dNil)) (dVar 3)))
    (dRet (dTup (dCons (dSl (dVar 1) dNoPart (dPart (dVar 3))) (dCons (dCB dTuple (dCons (dLc (iRng1D (dCons (dCB dLen (dCons (dVar 2) dNil)) dNil)) true [7] [7] dYes (dCall sp_continued E0D (dCons (dVar 2) (dCons (dOp dSub (dVar 7) (dVar 6)) dNil)))) dNil)) dNil)))))
def t_normal : DS :=
    (dSeq (dSet 1 (dOp dIx (dVar 0) (dC (.int 0))))
    (dSeq (dSet 2 (dCall sp_shortest_tail E0D (dCons (dOp dIx (dVar 0) (dC (.int 1))) dNil)))
    (dSeq (dSet 3 (dCB dLen (dCons (dVar 1) dNil)))
    (dSeq (dWhile (dTest (dOp dGt (dVar 3) (dC (.int 0)))) (dSeq (dUnp [4, 5] (dCall sp_continued E0D (dCons (dVar 2) (dCons (dOp dSub (dOp dSub (dVar 3) (dC (.int 1))) (dCB dLen (dCons (dVar 1) dNil))) dNil))))
    (dSeq (dIfS (dTest (dOp dNe (dVar 4) (dOp dIx (dVar 1) (dOp dSub (dVar 3) (dC (.int 1)))))) dBreak dNext)
    (dAug 3 (dC (.int 1)) dSub))))
    t_normal_c4))))
abbrev n_normal : List Str := ["form", "head", "tail", "length", "value", "_", "back", "index"]
def t_check_period (C : Ct) (E : XD) : DS :=
    (dIfS (dTest (dOp dGt (dVar 0) (dC k_MAX_PERIOD))) (dRaise (exV C "TooLarge") E) dNext)
abbrev n_check_period : List Str := ["period"]
def t_first_of_class : DS :=
    (dRet (dOp dAdd (dVar 1) (dOp dMod (dOp dSub (dVar 0) (dVar 1)) (dVar 2))))
abbrev n_first_of_class : List Str := ["rest", "least", "period"]
def t_line_c4 (C : Ct) : DS :=
    (dSeq (dWhile (dTest (dOp dGe (dVar 3) (dVar 0))) (dSeq (dSet 6 (dIf (dTest (dOp dIsN (dVar 4) (dC .non))) (dC .non) (dOp dSub (dVar 4) (dVar 5))))
    (dSeq (dIfS (dTest (dOp dNe (dCallV C 10 1 (dCons (dOp dSub (dVar 3) (dVar 0)) dNil)) (dVar 6))) dBreak dNext)
    (dSeq (dAug 3 (dVar 0) dSub)
    (dSet 4 (dVar 6))))))
    (dRet (dTup (dCons (dVar 3) (dCons (dVar 4) (dCons (dVar 5) dNil))))))
def t_line (C : Ct) : DS :=
    (dSeq (dSet 3 (dVar 2))
    (dSeq (dSet 4 (dCallV C 10 1 (dCons (dVar 3) dNil)))
    (dSeq (dSet 5 (dC (.int 0)))
    (dSeq (dIfS (dTest (dOp dNotN (dVar 4) (dC .non))) (dSet 5 (dOp dSub (dCallV C 10 1 (dCons (dOp dAdd (dVar 3) (dVar 0)) dNil)) (dVar 4))) dNext)
    (t_line_c4 C)))))
abbrev n_line : List Str := ["period", "tell", "start", "x", "value", "step", "due"]
def t_assemble_c4 (C : Ct) : DS :=
    (dSeq (dFor (iRngAD (dCons (dVar 5) (dCons (dOp dAdd (dVar 5) (dVar 0)) dNil))) (gD true [6]) (dSeq (dUnp [9, 10, 11] (dOp dIx (dVar 3) (dOp dMod (dVar 6) (dVar 0))))
    (dIfS (dTest (dOp dIsN (dVar 10) (dC .non))) (dDrop (dMtL dAppend (dVar 8) (dCons (dTup (dCons (dC .non) (dCons (dC (.int 0)) dNil))) dNil))) (dDrop (dMtL dAppend (dVar 8) (dCons (dTup (dCons (dOp dAdd (dVar 10) (dOp dMul (dVar 11) (dOp dFdiv (dOp dSub (dVar 6) (dVar 9)) (dVar 0)))) (dCons (dVar 11) dNil))) dNil))))))
    (dRet (dCall sp_normal E0D (dCons (dTup (dCons (dCB dTuple (dCons (dLc (iRng1D (dCons (dVar 5) dNil)) true [6] [6] dYes (dCallV C 10 1 (dCons (dVar 6) dNil))) dNil)) (dCons (dCB dTuple (dCons (dVar 8) dNil)) dNil))) dNil))))
def t_assemble_c2 (C : Ct) (E : XD) : DS :=
    (dSeq (dIfS (dTest (dOp dGt (dVar 5) (dC k_MAX_HEAD))) (dRaise (exV C "TooLarge") E) dNext)
    (dSeq (dSet 8 (dLstM dNil))
    (t_assemble_c4 C)))
def t_assemble (C : Ct) (E : XD) : DS :=
    (dSeq (dSet 3 (dLc (iSeqD (dVar 2)) true [4] [4] dYes (dCall (sp_line C) E0D (dCons (dVar 0) (dCons (dVar 1) (dCons (dVar 4) dNil))))))
    (dSeq (dSet 5 (dMaxDf (dLc (iSeqD (dVar 3)) false [6, 7, 7] [6, 7] (dTest (dOp dGe (dVar 6) (dVar 0))) (dOp dAdd (dOp dSub (dVar 6) (dVar 0)) (dC (.int 1)))) (dC (.int 0))))
    (t_assemble_c2 C E)))
abbrev n_assemble : List Str := ["period", "tell", "starts", "lines", "start", "length", "x", "_", "tail", "begin", "value", "step"]
def t_common_starts : DS :=
    (dSeq (dSet 3 (dCB dMax (dCons (dCB dLen (dCons (dOp dIx (dVar 0) (dC (.int 0))) dNil)) (dCons (dCB dLen (dCons (dOp dIx (dVar 1) (dC (.int 0))) dNil)) dNil))))
    (dRet (dLc (iRng1D (dCons (dVar 2) dNil)) true [4] [4] dYes (dCall sp_first_of_class E0D (dCons (dVar 4) (dCons (dVar 3) (dCons (dVar 2) dNil)))))))
abbrev n_common_starts : List Str := ["one", "two", "period", "length", "rest"]
def t_common_period (C : Ct) (E : XD) : DS :=
    (dSeq (dSet 2 (dCB dLcm (dCons (dCB dLen (dCons (dOp dIx (dVar 0) (dC (.int 1))) dNil)) (dCons (dCB dLen (dCons (dOp dIx (dVar 1) (dC (.int 1))) dNil)) dNil))))
    (dSeq (dDrop (dCall (sp_check_period C) E (dCons (dVar 2) dNil)))
    (dRet (dVar 2))))
abbrev n_common_period : List Str := ["one", "two", "period"]
def t_added : DS :=
    (dSeq (dIfS (dTOr (dTest (dOp dIsN (dVar 0) (dC .non))) (dTest (dOp dIsN (dVar 1) (dC .non)))) (dRet (dC .non)) dNext)
    (dRet (dOp dAdd (dVar 0) (dVar 1))))
abbrev n_added : List Str := ["one", "two"]
def t_even (C : Ct) (E : XD) : DS :=
    (dSeq (dSet 3 (dCall sp_normal E0D (dCons (dVar 0) dNil)))
    (dSeq (dSet 4 (dCall sp_normal E0D (dCons (dVar 1) dNil)))
    (dSeq (dSet 5 (dCall (sp_common_period C) E (dCons (dVar 3) (dCons (dVar 4) dNil))))
    (dSeq (dSet 6 (dCall sp_common_starts E0D (dCons (dVar 3) (dCons (dVar 4) (dCons (dVar 5) dNil)))))
    (dRet (dCallLX C 10 [2, 3, 4] 1 (dCallV C 5 1 (dCons (dCall sp_value_at E0D (dCons (dVar 2) (dCons (dVar 0) dNil))) (dCons (dCall sp_value_at E0D (dCons (dVar 3) (dCons (dVar 0) dNil))) dNil))) (sp_assemble C) E (dVar 5) (dVar 6)))))))
abbrev n_even : List Str := ["a", "b", "combine", "one", "two", "period", "starts"]
def t_sum_of (C : Ct) (E : XD) : DS :=
    (dRet (dCall (sp_even C) E (dCons (dVar 0) (dCons (dVar 1) (dCons (dGFn C 1 sp_added) dNil)))))
abbrev n_sum_of : List Str := ["a", "b"]
def t_last_step : DS :=
    (dRet (dIf (dTruth (dOp dIx (dVar 0) (dC (.int 2)))) (dOp dIx (dOp dIx (dVar 0) (dC (.int 2))) (dUn dNeg (dC (.int 1)))) (dTup (dCons (dC (.int 0)) (dCons (dC (.int 0)) dNil)))))
abbrev n_last_step : List Str := ["row"]
def t_row_price : DS :=
    (dSeq (dFor (iSeqD (dOp dIx (dVar 0) (dC (.int 2)))) (gD false [2, 3]) (dIfS (dTest (dOp dLe (dVar 1) (dVar 2))) (dRet (dVar 3)) dNext))
    (dSeq (dUnp [2, 4] (dCall sp_last_step E0D (dCons (dVar 0) dNil)))
    (dSeq (dIfS (dTOr (dTest (dOp dIsN (dVar 4) (dC .non))) (dTest (dOp dIsN (dOp dIx (dVar 0) (dC (.int 3))) (dC .non)))) (dRet (dC .non)) dNext)
    (dSeq (dUnp [5, 6] (dOp dIx (dVar 0) (dC (.int 3))))
    (dRet (dOp dSub (dVar 4) (dOp dMul (dVar 6) (dOp dFdiv (dOp dSub (dVar 2) (dVar 1)) (dVar 5)))))))))
abbrev n_row_price : List Str := ["row", "weight", "top", "amount", "base", "grams", "further"]
def t_rows_for : DS :=
    (dSeq (dSet 3 (dDc .dT (iSeqD (dVar 0)) true [4] [4] dYes (dKeyT (dCons (dOp dIx (dVar 4) (dC (.int 0))) (dCons (dOp dIx (dVar 4) (dC (.int 1))) dNil))) (dVar 4)))
    (dSeq (dIfS (dTNot (dTruth (dCB dAll (dCons (dLc (iSeqD (dVar 2)) true [5] [5] dYes (dOp (dInT false) (dTup (dCons (dVar 1) (dCons (dVar 5) dNil))) (dVar 3))) dNil)))) (dRet (dC .non)) dNext)
    (dRet (dLc (iSeqD (dVar 2)) true [5] [5] dYes (dTGet (dVar 3) (dTup (dCons (dVar 1) (dCons (dVar 5) dNil))))))))
abbrev n_rows_for : List Str := ["tariff", "zone", "services", "found", "row", "service"]
def t_price : DS :=
    (dSeq (dSet 4 (dCall sp_rows_for E0D (dCons (dVar 0) (dCons (dVar 1) (dCons (dVar 2) dNil)))))
    (dSeq (dIfS (dTest (dOp dIsN (dVar 4) (dC .non))) (dRet (dC .non)) dNext)
    (dSeq (dSet 5 (dLc (iSeqD (dVar 4)) true [6] [6] dYes (dCall sp_row_price E0D (dCons (dVar 6) (dCons (dVar 3) dNil)))))
    (dSeq (dIfS (dTNot (dTruth (dCB dAll (dCons (dLc (iSeqD (dVar 5)) true [7] [7] dYes (dOp dNotN (dVar 7) (dC .non))) dNil)))) (dRet (dC .non)) dNext)
    (dRet (dCB dSum (dCons (dVar 5) dNil)))))))
abbrev n_price : List Str := ["tariff", "zone", "services", "weight", "rows", "amounts", "row", "amount"]
def t_row_form : DS :=
    (dSeq (dUnp [1, 2] (dCall sp_last_step E0D (dCons (dVar 0) dNil)))
    (dSeq (dSet 3 (dCB dTuple (dCons (dLc (iRng1D (dCons (dOp dAdd (dVar 1) (dC (.int 1))) dNil)) true [4] [4] dYes (dCall sp_row_price E0D (dCons (dVar 0) (dCons (dVar 4) dNil)))) dNil)))
    (dSeq (dIfS (dTOr (dTest (dOp dIsN (dVar 2) (dC .non))) (dTest (dOp dIsN (dOp dIx (dVar 0) (dC (.int 3))) (dC .non)))) (dRet (dCall sp_normal E0D (dCons (dTup (dCons (dVar 3) (dCons (dTup (dCons (dTup (dCons (dC .non) (dCons (dC (.int 0)) dNil))) dNil)) dNil))) dNil))) dNext)
    (dSeq (dUnp [5, 6] (dOp dIx (dVar 0) (dC (.int 3))))
    (dRet (dCall sp_normal E0D (dCons (dTup (dCons (dVar 3) (dCons (dOp dMulA (dTup (dCons (dTup (dCons (dOp dAdd (dVar 2) (dVar 6)) (dCons (dVar 6) dNil))) dNil)) (dVar 5)) dNil))) dNil)))))))
abbrev n_row_form : List Str := ["row", "top", "base", "head", "weight", "grams", "further"]
def t_postage (C : Ct) (E : XD) : DS :=
    (dSeq (dSet 3 (dCall sp_rows_for E0D (dCons (dVar 0) (dCons (dVar 1) (dCons (dVar 2) dNil)))))
    (dSeq (dIfS (dTest (dOp dIsN (dVar 3) (dC .non))) (dRet (dC k_NOTHING)) dNext)
    (dSeq (dSet 4 (dCall sp_row_form E0D (dCons (dOp dIx (dVar 3) (dC (.int 0))) dNil)))
    (dSeq (dFor (iSeqD (dSl (dVar 3) (dPart (dC (.int 1))) dNoPart)) (gD true [5]) (dSet 4 (dCall (sp_sum_of C) E (dCons (dVar 4) (dCons (dCall sp_row_form E0D (dCons (dVar 5) dNil)) dNil)))))
    (dRet (dVar 4))))))
abbrev n_postage : List Str := ["tariff", "zone", "services", "rows", "form", "row"]
def t_law_state : DS :=
    (dRet (dLstM (dCons (dCB dList (dCons (dVar 0) dNil)) (dCons (dC (.int 0)) (dCons (dC (.int 0)) (dCons (dC (.int 0)) (dCons (dC (.bl false)) dNil)))))))
abbrev n_law_state : List Str := ["script"]
def t_law_draw : DS :=
    (dSeq (dIfS (dTest (dOp dEq (dOp dIx (dVar 0) (dC (.int 3))) (dC (.int 0)))) (dSeq (dIfS (dTest (dOp dGe (dOp dIx (dVar 0) (dC (.int 1))) (dCB dLen (dCons (dOp dIx (dVar 0) (dC (.int 0))) dNil)))) (dRet (dC (.int 0))) dNext)
    (dSeq (dSet 2 (dOp dIx (dOp dIx (dVar 0) (dC (.int 0))) (dOp dIx (dVar 0) (dC (.int 1)))))
    (dSeq (dIfS (dTest (dOp dLt (dVar 2) (dC (.int 0)))) (dSet 2 (dOp dSub (dUn dNeg (dC (.int 1))) (dVar 2))) dNext)
    (dSeq (dStore (dOp dAdd (dOp dIx (dVar 0) (dC (.int 1))) (dC (.int 1))) (dVar 0) (dC (.int 1)) dSetL)
    (dSeq (dStore (dVar 2) (dVar 0) (dC (.int 2)) dSetL)
    (dSeq (dStore (dOp dGe (dVar 2) (dOp dPow (dC (.int 10)) (dC (.int 18)))) (dVar 0) (dC (.int 4)) dSetL)
    (dSeq (dStore (dC (.int 6)) (dVar 0) (dC (.int 3)) dSetL)
    (dIfS (dTruth (dOp dIx (dVar 0) (dC (.int 4)))) (dStore (dC (.int 60)) (dVar 0) (dC (.int 3)) dSetL) dNext)))))))) dNext)
    (dSeq (dStore (dOp dSub (dOp dIx (dVar 0) (dC (.int 3))) (dC (.int 1))) (dVar 0) (dC (.int 3)) dSetL)
    (dSeq (dIfS (dTruth (dOp dIx (dVar 0) (dC (.int 4)))) (dSeq (dSet 3 (dOp dMod (dCB dInt (dCons (dOp dIx (dVar 0) (dC (.int 2))) dNil)) (dVar 1)))
    (dSeq (dStore (dOp dFdiv (dOp dIx (dVar 0) (dC (.int 2))) (dVar 1)) (dVar 0) (dC (.int 2)) dSetL)
    (dSeq (dIfS (dTest (dOp dEq (dOp dIx (dVar 0) (dC (.int 2))) (dC (.int 0)))) (dStore (dC (.int 0)) (dVar 0) (dC (.int 3)) dSetL) dNext)
    (dRet (dVar 3))))) dNext)
    (dSeq (dSet 4 (dOp dMod (dCB dInt (dCons (dOp dAdd (dOp dAdd (dOp dMul (dOp dIx (dVar 0) (dC (.int 2))) (dC (.int 48271))) (dOp dMul (dOp dIx (dVar 0) (dC (.int 3))) (dC (.int 69621)))) (dC (.int 7))) dNil)) (dC (.int 2147483647))))
    (dSeq (dSet 4 (dOp dMod (dCB dInt (dCons (dOp dAdd (dOp dAdd (dOp dMul (dVar 4) (dVar 4)) (dOp dMul (dOp dIx (dVar 0) (dC (.int 2))) (dC (.int 31)))) (dOp dIx (dVar 0) (dC (.int 3)))) dNil)) (dC (.int 1000003))))
    (dRet (dOp dMod (dCB dInt (dCons (dVar 4) dNil)) (dVar 1))))))))
abbrev n_law_draw : List Str := ["state", "limit", "cell", "digit", "mixed"]
def t_law_far : DS :=
    (dSeq (dSet 1 (dCall sp_law_draw E0D (dCons (dVar 0) (dCons (dC (.int 1000)) dNil))))
    (dSeq (dFor (iRng1D (dCons (dCall sp_law_draw E0D (dCons (dVar 0) (dCons (dC (.int 9)) dNil))) dNil)) (gD true [2]) (dSet 1 (dOp dAdd (dOp dMul (dVar 1) (dC (.int 1009))) (dCall sp_law_draw E0D (dCons (dVar 0) (dCons (dC (.int 1000)) dNil))))))
    (dRet (dVar 1))))
abbrev n_law_far : List Str := ["state", "far", "k"]
def t_law_name : DS :=
    (dSeq (dSet 1 (dC (.str "abcdefghijklmnopqrstuvwxyz")))
    (dSeq (dSet 2 (dOp dAdd (dC (.int 1)) (dOp dIx (dLst (dCons (dCall sp_law_draw E0D (dCons (dVar 0) (dCons (dC (.int 3)) dNil))) (dCons (dCall sp_law_draw E0D (dCons (dVar 0) (dCons (dC (.int 12)) dNil))) dNil))) (dCall sp_law_draw E0D (dCons (dVar 0) (dCons (dC (.int 2)) dNil))))))
    (dSeq (dSet 3 (dC (.str "")))
    (dSeq (dFor (iRng1D (dCons (dVar 2) dNil)) (gD true [4]) (dSet 3 (dOp dAdd (dVar 3) (dOp dIx (dVar 1) (dCall sp_law_draw E0D (dCons (dVar 0) (dCons (dC (.int 26)) dNil)))))))
    (dRet (dVar 3))))))
abbrev n_law_name : List Str := ["state", "letters", "size", "name", "k"]
def t_law_value : DS :=
    (dSeq (dIfS (dTest (dOp dLt (dVar 1) (dC (.int 0)))) (dRet (dC .non)) dNext)
    (dSeq (dIfS (dTest (dOp dLt (dVar 1) (dCB dLen (dCons (dOp dIx (dVar 0) (dC (.int 0))) dNil)))) (dRet (dOp dIx (dOp dIx (dVar 0) (dC (.int 0))) (dVar 1))) dNext)
    (dSeq (dSet 2 (dOp dSub (dVar 1) (dCB dLen (dCons (dOp dIx (dVar 0) (dC (.int 0))) dNil))))
    (dSeq (dUnp [3, 4] (dOp dIx (dOp dIx (dVar 0) (dC (.int 1))) (dOp dMod (dCB dInt (dCons (dVar 2) dNil)) (dCB dLen (dCons (dOp dIx (dVar 0) (dC (.int 1))) dNil)))))
    (dSeq (dIfS (dTest (dOp dIsN (dVar 3) (dC .non))) (dRet (dC .non)) dNext)
    (dRet (dOp dAdd (dVar 3) (dOp dMul (dVar 4) (dOp dFdiv (dVar 2) (dCB dLen (dCons (dOp dIx (dVar 0) (dC (.int 1))) dNil)))))))))))
abbrev n_law_value : List Str := ["form", "x", "behind", "value", "step"]
def t_law_int : DS :=
    (dRet (dAnd (dCB dIsi (dCons (dVar 0) (dCons (dC (.ty "int")) dNil))) (dNot (dCB dIsi (dCons (dVar 0) (dCons (dC (.ty "bool")) dNil))))))
abbrev n_law_int : List Str := ["value"]
def t_law_is_form : DS :=
    (dSeq (dIfS (dTOr (dTNot (dTruth (dCB dIsi (dCons (dVar 0) (dCons (dC (.ty "tuple")) dNil))))) (dTest (dOp dNe (dCB dLen (dCons (dVar 0) dNil)) (dC (.int 2))))) (dRet (dC (.bl false))) dNext)
    (dSeq (dIfS (dTOr (dTNot (dTruth (dCB dIsi (dCons (dOp dIx (dVar 0) (dC (.int 0))) (dCons (dC (.ty "tuple")) dNil))))) (dTOr (dTNot (dTruth (dCB dIsi (dCons (dOp dIx (dVar 0) (dC (.int 1))) (dCons (dC (.ty "tuple")) dNil))))) (dTest (dOp dEq (dCB dLen (dCons (dOp dIx (dVar 0) (dC (.int 1))) dNil)) (dC (.int 0)))))) (dRet (dC (.bl false))) dNext)
    (dSeq (dFor (iSeqD (dOp dIx (dVar 0) (dC (.int 0)))) (gD true [1]) (dIfS (dTAnd (dTest (dOp dNotN (dVar 1) (dC .non))) (dTNot (dTruth (dCall sp_law_int E0D (dCons (dVar 1) dNil))))) (dRet (dC (.bl false))) dNext))
    (dSeq (dFor (iSeqD (dOp dIx (dVar 0) (dC (.int 1)))) (gD true [2]) (dSeq (dIfS (dTOr (dTNot (dTruth (dCB dIsi (dCons (dVar 2) (dCons (dC (.ty "tuple")) dNil))))) (dTOr (dTest (dOp dNe (dCB dLen (dCons (dVar 2) dNil)) (dC (.int 2)))) (dTNot (dTruth (dCall sp_law_int E0D (dCons (dOp dIx (dVar 2) (dC (.int 1))) dNil)))))) (dRet (dC (.bl false))) dNext)
    (dSeq (dIfS (dTAnd (dTest (dOp dIsN (dOp dIx (dVar 2) (dC (.int 0))) (dC .non))) (dTest (dOp dNe (dOp dIx (dVar 2) (dC (.int 1))) (dC (.int 0))))) (dRet (dC (.bl false))) dNext)
    (dIfS (dTAnd (dTest (dOp dNotN (dOp dIx (dVar 2) (dC (.int 0))) (dC .non))) (dTNot (dTruth (dCall sp_law_int E0D (dCons (dOp dIx (dVar 2) (dC (.int 0))) dNil))))) (dRet (dC (.bl false))) dNext))))
    (dRet (dC (.bl true)))))))
abbrev n_law_is_form : List Str := ["form", "value", "pair"]
def t_law_is_even : DS :=
    (dSeq (dFor (iRngAD (dCons (dCB dLen (dCons (dOp dIx (dVar 0) (dC (.int 0))) dNil)) (dCons (dOp dAdd (dCB dLen (dCons (dOp dIx (dVar 0) (dC (.int 0))) dNil)) (dOp dMul (dC (.int 2)) (dCB dLen (dCons (dOp dIx (dVar 0) (dC (.int 1))) dNil)))) dNil))) (gD true [2]) (dSeq (dSet 3 (dCall sp_law_value E0D (dCons (dVar 0) (dCons (dVar 2) dNil))))
    (dSeq (dSet 4 (dCall sp_law_value E0D (dCons (dVar 0) (dCons (dOp dAdd (dVar 2) (dVar 1)) dNil))))
    (dSeq (dSet 5 (dCall sp_law_value E0D (dCons (dVar 0) (dCons (dOp dAdd (dVar 2) (dOp dMul (dC (.int 2)) (dVar 1))) dNil))))
    (dIfS (dTOr (dTest (dOp dIsN (dVar 3) (dC .non))) (dTOr (dTest (dOp dIsN (dVar 4) (dC .non))) (dTest (dOp dIsN (dVar 5) (dC .non))))) (dIfS (dTOr (dTest (dOp dNotN (dVar 3) (dC .non))) (dTOr (dTest (dOp dNotN (dVar 4) (dC .non))) (dTest (dOp dNotN (dVar 5) (dC .non))))) (dRet (dC (.bl false))) dNext) (dIfS (dTest (dOp dNe (dOp dSub (dVar 5) (dVar 4)) (dOp dSub (dVar 4) (dVar 3)))) (dRet (dC (.bl false))) dNext))))))
    (dRet (dC (.bl true))))
abbrev n_law_is_even : List Str := ["form", "size", "x", "one", "two", "three"]
def t_law_is_normal : DS :=
    (dSeq (dIfS (dTNot (dTruth (dCall sp_law_is_form E0D (dCons (dVar 0) dNil)))) (dRet (dC (.bl false))) dNext)
    (dSeq (dFor (iRngAD (dCons (dC (.int 1)) (dCons (dCB dLen (dCons (dOp dIx (dVar 0) (dC (.int 1))) dNil)) dNil))) (gD true [1]) (dIfS (dTAnd (dTest (dOp dEq (dOp dMod (dCB dInt (dCons (dCB dLen (dCons (dOp dIx (dVar 0) (dC (.int 1))) dNil)) dNil)) (dVar 1)) (dC (.int 0)))) (dTruth (dCall sp_law_is_even E0D (dCons (dVar 0) (dCons (dVar 1) dNil))))) (dRet (dC (.bl false))) dNext))
    (dSeq (dIfS (dTest (dOp dEq (dCB dLen (dCons (dOp dIx (dVar 0) (dC (.int 0))) dNil)) (dC (.int 0)))) (dRet (dC (.bl true))) dNext)
    (dSeq (dUnp [2, 3] (dOp dIx (dOp dIx (dVar 0) (dC (.int 1))) (dOp dSub (dCB dLen (dCons (dOp dIx (dVar 0) (dC (.int 1))) dNil)) (dC (.int 1)))))
    (dSeq (dIfS (dTest (dOp dNotN (dVar 2) (dC .non))) (dSet 2 (dOp dSub (dVar 2) (dVar 3))) dNext)
    (dRet (dOp dNe (dOp dIx (dOp dIx (dVar 0) (dC (.int 0))) (dOp dSub (dCB dLen (dCons (dOp dIx (dVar 0) (dC (.int 0))) dNil)) (dC (.int 1)))) (dVar 2))))))))
abbrev n_law_is_normal : List Str := ["form", "size", "value", "step"]
def t_law_amount : DS :=
    (dSeq (dSet 1 (dCall sp_law_draw E0D (dCons (dVar 0) (dCons (dC (.int 9)) dNil))))
    (dSeq (dIfS (dTest (dOp dEq (dVar 1) (dC (.int 0)))) (dRet (dC (.int 0))) dNext)
    (dSeq (dIfS (dTest (dOp dEq (dVar 1) (dC (.int 1)))) (dRet (dOp dSub (dOp dPow (dC (.int 10)) (dC (.int 9))) (dCall sp_law_draw E0D (dCons (dVar 0) (dCons (dC (.int 3)) dNil))))) dNext)
    (dRet (dCall sp_law_draw E0D (dCons (dVar 0) (dCons (dOp dIx (dLst (dCons (dC (.int 12)) (dCons (dC (.int 300)) (dCons (dC (.int 5000)) dNil)))) (dOp dMod (dCB dInt (dCons (dVar 1) dNil)) (dC (.int 3)))) dNil)))))))
abbrev n_law_amount : List Str := ["state", "kind"]
def t_law_steps_c2_1 : DS :=
    (dSet 2 (dOp dAdd (dOp dAdd (dVar 2) (dC (.int 1))) (dOp dIx (dLst (dCons (dCall sp_law_draw E0D (dCons (dVar 0) (dCons (dC (.int 3)) dNil))) (dCons (dCall sp_law_draw E0D (dCons (dVar 0) (dCons (dC (.int 25)) dNil))) (dCons (dCall sp_law_draw E0D (dCons (dVar 0) (dCons (dC (.int 1500)) dNil))) dNil)))) (dOp dIx (dLst (dCons (dC (.int 0)) (dCons (dC (.int 0)) (dCons (dC (.int 0)) (dCons (dC (.int 1)) (dCons (dC (.int 1)) (dCons (dC (.int 1)) (dCons (dC (.int 1)) (dCons (dC (.int 2)) dNil))))))))) (dCall sp_law_draw E0D (dCons (dVar 0) (dCons (dC (.int 8)) dNil)))))))
def t_law_steps_c3 : DS :=
    (dSeq (dIfS (dTAnd (dTest (dOp dEq (dCall sp_law_draw E0D (dCons (dVar 0) (dCons (dC (.int 12)) dNil))) (dC (.int 0)))) (dTest (dOp dLe (dVar 2) (dC (.int 3999))))) (dDrop (dMtL dAppend (dVar 1) (dCons (dTup (dCons (dC (.int 3999)) (dCons (dCall sp_law_amount E0D (dCons (dVar 0) dNil)) dNil))) dNil))) dNext)
    (dRet (dCB dTuple (dCons (dVar 1) dNil))))
def t_law_steps : DS :=
    (dSeq (dSet 1 (dLstM dNil))
    (dSeq (dSet 2 (dOp dMul (dCall sp_law_draw E0D (dCons (dVar 0) (dCons (dC (.int 3)) dNil))) (dCall sp_law_draw E0D (dCons (dVar 0) (dCons (dC (.int 20)) dNil)))))
    (dSeq (dFor (iRng1D (dCons (dCall sp_law_draw E0D (dCons (dVar 0) (dCons (dC (.int 7)) dNil))) dNil)) (gD true [3]) (dSeq (dIfS (dTest (dOp dLe (dVar 2) (dC (.int 3999)))) (dSeq (dSet 4 (dCall sp_law_amount E0D (dCons (dVar 0) dNil)))
    (dSeq (dIfS (dTest (dOp dEq (dCall sp_law_draw E0D (dCons (dVar 0) (dCons (dC (.int 8)) dNil))) (dC (.int 0)))) (dSet 4 (dC .non)) dNext)
    (dDrop (dMtL dAppend (dVar 1) (dCons (dTup (dCons (dVar 2) (dCons (dVar 4) dNil))) dNil))))) dNext)
    t_law_steps_c2_1))
    t_law_steps_c3)))
abbrev n_law_steps : List Str := ["state", "steps", "top", "k", "amount"]
def t_law_more : DS :=
    (dSeq (dIfS (dTest (dOp dEq (dCall sp_law_draw E0D (dCons (dVar 0) (dCons (dC (.int 4)) dNil))) (dC (.int 0)))) (dRet (dC .non)) dNext)
    (dSeq (dSet 1 (dOp dIx (dLst (dCons (dOp dAdd (dC (.int 1)) (dCall sp_law_draw E0D (dCons (dVar 0) (dCons (dC (.int 6)) dNil)))) (dCons (dOp dAdd (dC (.int 1)) (dCall sp_law_draw E0D (dCons (dVar 0) (dCons (dC (.int 20)) dNil)))) (dCons (dOp dAdd (dC (.int 1)) (dCall sp_law_draw E0D (dCons (dVar 0) (dCons (dC (.int 1000)) dNil)))) dNil)))) (dCall sp_law_draw E0D (dCons (dVar 0) (dCons (dC (.int 3)) dNil)))))
    (dRet (dTup (dCons (dVar 1) (dCons (dCall sp_law_amount E0D (dCons (dVar 0) dNil)) dNil))))))
abbrev n_law_more : List Str := ["state", "grams"]
def t_law_some_names : DS :=
    (dSeq (dSet 2 (dLstM dNil))
    (dSeq (dFor (iRng1D (dCons (dVar 1) dNil)) (gD true [3]) (dSeq (dSet 4 (dCall sp_law_name E0D (dCons (dVar 0) dNil)))
    (dIfS (dTest (dOp (dIn true) (dVar 4) (dVar 2))) (dDrop (dMtL dAppend (dVar 2) (dCons (dVar 4) dNil))) dNext)))
    (dRet (dCB dSortedS (dCons (dVar 2) dNil)))))
abbrev n_law_some_names : List Str := ["state", "count", "names", "k", "name"]
def t_law_tariff : DS :=
    (dSeq (dSet 1 (dLstM dNil))
    (dSeq (dSet 2 (dCall sp_law_some_names E0D (dCons (dVar 0) (dCons (dOp dAdd (dC (.int 1)) (dOp dIx (dLst (dCons (dCall sp_law_draw E0D (dCons (dVar 0) (dCons (dC (.int 3)) dNil))) (dCons (dCall sp_law_draw E0D (dCons (dVar 0) (dCons (dC (.int 6)) dNil))) dNil))) (dCall sp_law_draw E0D (dCons (dVar 0) (dCons (dC (.int 2)) dNil))))) dNil))))
    (dSeq (dFor (iSeqD (dCall sp_law_some_names E0D (dCons (dVar 0) (dCons (dOp dAdd (dC (.int 1)) (dCall sp_law_draw E0D (dCons (dVar 0) (dCons (dC (.int 3)) dNil)))) dNil)))) (gD true [3]) (dFor (iSeqD (dVar 2)) (gD true [4]) (dIfS (dTest (dOp dGt (dCall sp_law_draw E0D (dCons (dVar 0) (dCons (dC (.int 6)) dNil))) (dC (.int 0)))) (dDrop (dMtL dAppend (dVar 1) (dCons (dTup (dCons (dVar 3) (dCons (dVar 4) (dCons (dCall sp_law_steps E0D (dCons (dVar 0) dNil)) (dCons (dCall sp_law_more E0D (dCons (dVar 0) dNil)) dNil))))) dNil))) dNext)))
    (dSeq (dIfS (dTest (dOp dEq (dCB dLen (dCons (dVar 1) dNil)) (dC (.int 0)))) (dDrop (dMtL dAppend (dVar 1) (dCons (dTup (dCons (dC (.str "home")) (dCons (dOp dIx (dVar 2) (dC (.int 0))) (dCons (dTup (dCons (dTup (dCons (dC (.int 20)) (dCons (dC (.int 85)) dNil))) dNil)) (dCons (dTup (dCons (dC (.int 100)) (dCons (dC (.int 60)) dNil))) dNil))))) dNil))) dNext)
    (dRet (dCB dTuple (dCons (dVar 1) dNil)))))))
abbrev n_law_tariff : List Str := ["state", "rows", "services", "zone", "service"]
def t_law_row_price : DS :=
    (dSeq (dSet 2 (dC (.int 0)))
    (dSeq (dSet 3 (dC (.int 0)))
    (dSeq (dFor (iSeqD (dOp dIx (dVar 0) (dC (.int 2)))) (gD true [4]) (dSeq (dUnp [2, 3] (dVar 4))
    (dIfS (dTest (dOp dLe (dVar 1) (dVar 2))) (dRet (dVar 3)) dNext)))
    (dSeq (dIfS (dTOr (dTest (dOp dIsN (dVar 3) (dC .non))) (dTest (dOp dIsN (dOp dIx (dVar 0) (dC (.int 3))) (dC .non)))) (dRet (dC .non)) dNext)
    (dRet (dOp dAdd (dVar 3) (dOp dMul (dOp dIx (dOp dIx (dVar 0) (dC (.int 3))) (dC (.int 1))) (dOp dFdiv (dOp dSub (dOp dAdd (dOp dSub (dVar 1) (dVar 2)) (dOp dIx (dOp dIx (dVar 0) (dC (.int 3))) (dC (.int 0)))) (dC (.int 1))) (dOp dIx (dOp dIx (dVar 0) (dC (.int 3))) (dC (.int 0)))))))))))
abbrev n_law_row_price : List Str := ["row", "weight", "top", "amount", "step"]
def t_law_price : DS :=
    (dSeq (dSet 4 (dC (.int 0)))
    (dSeq (dFor (iSeqD (dVar 2)) (gD true [5]) (dSeq (dSet 6 (dLc (iSeqD (dVar 0)) true [7] [7] (dTAnd (dTest (dOp dEq (dOp dIx (dVar 7) (dC (.int 0))) (dVar 1))) (dTest (dOp dEq (dOp dIx (dVar 7) (dC (.int 1))) (dVar 5)))) (dVar 7)))
    (dSeq (dIfS (dTOr (dTest (dOp dEq (dCB dLen (dCons (dVar 6) dNil)) (dC (.int 0)))) (dTest (dOp dIsN (dCall sp_law_row_price E0D (dCons (dOp dIx (dVar 6) (dC (.int 0))) (dCons (dVar 3) dNil))) (dC .non)))) (dRet (dC .non)) dNext)
    (dSet 4 (dOp dAdd (dVar 4) (dCall sp_law_row_price E0D (dCons (dOp dIx (dVar 6) (dC (.int 0))) (dCons (dVar 3) dNil))))))))
    (dRet (dVar 4))))
abbrev n_law_price : List Str := ["tariff", "zone", "services", "weight", "total", "service", "found", "row"]
def t_law_services : DS :=
    (dSeq (dSet 2 (dOp dIx (dOp dIx (dVar 1) (dCall sp_law_draw E0D (dCons (dVar 0) (dCons (dCB dLen (dCons (dVar 1) dNil)) dNil)))) (dC (.int 0))))
    (dSeq (dSet 3 (dLstM dNil))
    (dSeq (dFor (iSeqD (dVar 1)) (gD true [4]) (dIfS (dTAnd (dTest (dOp dEq (dOp dIx (dVar 4) (dC (.int 0))) (dVar 2))) (dTOr (dTest (dOp dEq (dCall sp_law_draw E0D (dCons (dVar 0) (dCons (dC (.int 2)) dNil))) (dC (.int 1)))) (dTest (dOp dEq (dCB dLen (dCons (dVar 3) dNil)) (dC (.int 0)))))) (dDrop (dMtL dAppend (dVar 3) (dCons (dOp dIx (dVar 4) (dC (.int 1))) dNil))) dNext))
    (dRet (dTup (dCons (dVar 2) (dCons (dCB dTuple (dCons (dVar 3) dNil)) dNil)))))))
abbrev n_law_services : List Str := ["state", "tariff", "zone", "chosen", "row"]
def t_law_edges : DS :=
    (dSeq (dSet 2 (dLst (dCons (dC (.int 0)) (dCons (dC (.int 1)) dNil))))
    (dSeq (dFor (iSeqD (dVar 0)) (gD true [3]) (dIfS (dTest (dOp dEq (dOp dIx (dVar 3) (dC (.int 0))) (dVar 1))) (dSeq (dSet 4 (dC (.int 0)))
    (dSeq (dFor (iSeqD (dOp dIx (dVar 3) (dC (.int 2)))) (gD true [5]) (dSeq (dSet 4 (dOp dIx (dVar 5) (dC (.int 0))))
    (dSet 2 (dOp dAdd (dVar 2) (dLst (dCons (dCB dMax (dCons (dC (.int 0)) (dCons (dOp dSub (dVar 4) (dC (.int 1))) dNil))) (dCons (dVar 4) (dCons (dOp dAdd (dVar 4) (dC (.int 1))) dNil))))))))
    (dIfS (dTest (dOp dNotN (dOp dIx (dVar 3) (dC (.int 3))) (dC .non))) (dFor (iSeqD (dLst (dCons (dC (.int 1)) (dCons (dC (.int 2)) (dCons (dC (.int 3)) (dCons (dC (.int 50)) dNil)))))) (gD true [6]) (dSet 2 (dOp dAdd (dVar 2) (dLst (dCons (dOp dAdd (dVar 4) (dOp dMul (dVar 6) (dOp dIx (dOp dIx (dVar 3) (dC (.int 3))) (dC (.int 0))))) (dCons (dOp dAdd (dOp dAdd (dVar 4) (dOp dMul (dVar 6) (dOp dIx (dOp dIx (dVar 3) (dC (.int 3))) (dC (.int 0))))) (dC (.int 1))) dNil)))))) dNext))) dNext))
    (dRet (dVar 2))))
abbrev n_law_edges : List Str := ["tariff", "zone", "found", "row", "top", "step", "k"]
def t_law_common : DS :=
    (dSeq (dWhile (dTest (dOp dNe (dVar 1) (dC (.int 0)))) (dPar 0 1 (dCons (dVar 1) (dCons (dOp dMod (dCB dInt (dCons (dVar 0) dNil)) (dVar 1)) dNil))))
    (dRet (dVar 0)))
abbrev n_law_common : List Str := ["one", "two"]
def t_law_period : DS :=
    (dSeq (dIfS (dTOr (dTest (dOp dIsN (dOp dIx (dVar 0) (dC (.int 3))) (dC .non))) (dTest (dOp dEq (dOp dIx (dOp dIx (dVar 0) (dC (.int 3))) (dC (.int 1))) (dC (.int 0))))) (dRet (dC (.int 1))) dNext)
    (dSeq (dIfS (dTAnd (dTest (dOp dGt (dCB dLen (dCons (dOp dIx (dVar 0) (dC (.int 2))) dNil)) (dC (.int 0)))) (dTest (dOp dIsN (dOp dIx (dOp dIx (dOp dIx (dVar 0) (dC (.int 2))) (dOp dSub (dCB dLen (dCons (dOp dIx (dVar 0) (dC (.int 2))) dNil)) (dC (.int 1)))) (dC (.int 1))) (dC .non)))) (dRet (dC (.int 1))) dNext)
    (dRet (dOp dIx (dOp dIx (dVar 0) (dC (.int 3))) (dC (.int 0))))))
abbrev n_law_period : List Str := ["row"]
def t_law_periods : DS :=
    (dSeq (dSet 3 (dC (.int 1)))
    (dSeq (dFor (iSeqD (dVar 0)) (gD true [4]) (dIfS (dTAnd (dTest (dOp dEq (dOp dIx (dVar 4) (dC (.int 0))) (dVar 1))) (dTest (dOp (dIn false) (dOp dIx (dVar 4) (dC (.int 1))) (dVar 2)))) (dSeq (dSet 5 (dCall sp_law_period E0D (dCons (dVar 4) dNil)))
    (dSet 3 (dOp dFdiv (dOp dMul (dVar 3) (dVar 5)) (dCall sp_law_common E0D (dCons (dVar 3) (dCons (dVar 5) dNil)))))) dNext))
    (dRet (dVar 3))))
abbrev n_law_periods : List Str := ["tariff", "zone", "services", "period", "row", "more"]
def t_law_told (C : Ct) : DS :=
    (dTry (fun E => (dRet (dTup (dCons (dC (.str "told")) (dCons (dCallS (sp_postage C) E (dCons (dVar 0) (dCons (dVar 1) (dCons (dVar 2) dNil)))) dNil))))) (exV C "TooLarge") (dRet (dTup (dCons (dC (.str "large")) (dCons (dC .non) dNil)))) dNext)
abbrev n_law_told : List Str := ["tariff", "zone", "services"]
def t_law_holds (C : Ct) : DS :=
    (dSeq (dUnp [4, 5] (dCall (sp_law_told C) E0D (dCons (dVar 1) (dCons (dVar 2) (dCons (dVar 3) dNil)))))
    (dSeq (dIfS (dTest (dOp dGt (dCall sp_law_periods E0D (dCons (dVar 1) (dCons (dVar 2) (dCons (dVar 3) dNil)))) (dC (.int 1000)))) (dRet (dOp dEq (dVar 4) (dC (.str "large")))) dNext)
    (dSeq (dIfS (dTOr (dTest (dOp dNe (dVar 4) (dC (.str "told")))) (dTNot (dTruth (dCall sp_law_is_form E0D (dCons (dVar 5) dNil))))) (dRet (dC (.bl false))) dNext)
    (dSeq (dIfS (dTAnd (dTest (dOp dLe (dCall sp_law_periods E0D (dCons (dVar 1) (dCons (dVar 2) (dCons (dVar 3) dNil)))) (dC (.int 60)))) (dTNot (dTruth (dCall sp_law_is_normal E0D (dCons (dVar 5) dNil))))) (dRet (dC (.bl false))) dNext)
    (dSeq (dSet 6 (dOp dAdd (dOp dAdd (dLc (iRng1D (dCons (dC (.int 41)) dNil)) true [7] [7] dYes (dVar 7)) (dCall sp_law_edges E0D (dCons (dVar 1) (dCons (dVar 2) dNil)))) (dLst (dCons (dCall sp_law_draw E0D (dCons (dVar 0) (dCons (dC (.int 6000)) dNil))) (dCons (dCall sp_law_far E0D (dCons (dVar 0) dNil)) (dCons (dCall sp_law_far E0D (dCons (dVar 0) dNil)) dNil))))))
    (dSeq (dFor (iSeqD (dVar 6)) (gD true [7]) (dSeq (dSet 8 (dCall sp_law_price E0D (dCons (dVar 1) (dCons (dVar 2) (dCons (dVar 3) (dCons (dVar 7) dNil))))))
    (dIfS (dTOr (dTest (dOp dNe (dCall sp_law_value E0D (dCons (dVar 5) (dCons (dVar 7) dNil))) (dVar 8))) (dTest (dOp dNe (dCall sp_price E0D (dCons (dVar 1) (dCons (dVar 2) (dCons (dVar 3) (dCons (dVar 7) dNil))))) (dVar 8)))) (dRet (dC (.bl false))) dNext)))
    (dRet (dC (.bl true)))))))))
abbrev n_law_holds : List Str := ["state", "tariff", "zone", "services", "answer", "told", "places", "x", "due"]
def t_law_two : DS :=
    (dSeq (dSet 1 (dOp dAdd (dC (.int 20)) (dCall sp_law_draw E0D (dCons (dVar 0) (dCons (dC (.int 30)) dNil)))))
    (dSeq (dSet 2 (dCB dMax (dCons (dC (.int 1)) (dCons (dOp dSub (dOp dAdd (dOp dFdiv (dC (.int 1000)) (dVar 1)) (dCall sp_law_draw E0D (dCons (dVar 0) (dCons (dC (.int 7)) dNil)))) (dC (.int 3))) dNil))))
    (dSeq (dSet 3 (dLstM dNil))
    (dSeq (dFor (iSeqD (dLst (dCons (dTup (dCons (dC (.str "basic")) (dCons (dVar 1) dNil))) (dCons (dTup (dCons (dC (.str "extra")) (dCons (dVar 2) dNil))) dNil)))) (gD false [4, 5]) (dDrop (dMtL dAppend (dVar 3) (dCons (dTup (dCons (dC (.str "far")) (dCons (dVar 4) (dCons (dCall sp_law_steps E0D (dCons (dVar 0) dNil)) (dCons (dTup (dCons (dVar 5) (dCons (dOp dAdd (dC (.int 1)) (dCall sp_law_draw E0D (dCons (dVar 0) (dCons (dC (.int 90)) dNil)))) dNil))) dNil))))) dNil))))
    (dRet (dCB dTuple (dCons (dVar 3) dNil)))))))
abbrev n_law_two : List Str := ["state", "one", "two", "rows", "service", "grams"]
def t_law_c9 (C : Ct) : DS :=
    (dSeq (dSet 8 (dSl (dOp dAdd (dVar 3) (dC (.str "q"))) dNoPart (dPart (dC (.int 12)))))
    (dRet (dOr (dOp dGt (dCB dLen (dCons (dLc (iSeqD (dVar 2)) true [7] [7] (dTest (dOp dEq (dOp dIx (dVar 7) (dC (.int 0))) (dVar 8))) (dVar 7)) dNil)) (dC (.int 0))) (dOp dEq (dCall (sp_postage C) E0D (dCons (dVar 2) (dCons (dVar 8) (dCons (dVar 4) dNil)))) (dC k_NOTHING)))))
def t_law_c4 (C : Ct) : DS :=
    (dSeq (dIfS (dTOr (dTNot (dTruth (dCall sp_law_holds E0D (dCons (dVar 1) (dCons (dVar 2) (dCons (dVar 3) (dCons (dVar 4) dNil))))))) (dTNot (dTruth (dCall sp_law_holds E0D (dCons (dVar 1) (dCons (dVar 2) (dCons (dVar 3) (dCons (dSl (dVar 4) dNoPart (dPart (dC (.int 1)))) dNil)))))))) (dRet (dC (.bl false))) dNext)
    (dSeq (dIfS (dTNot (dTruth (dCall sp_law_holds E0D (dCons (dVar 1) (dCons (dCall sp_law_two E0D (dCons (dVar 1) dNil)) (dCons (dC (.str "far")) (dCons (dTup (dCons (dC (.str "basic")) (dCons (dC (.str "extra")) dNil))) dNil))))))) (dRet (dC (.bl false))) dNext)
    (dSeq (dSet 5 (dCall sp_law_name E0D (dCons (dVar 1) dNil)))
    (dSeq (dSet 6 (dLc (iSeqD (dVar 2)) true [7] [7] (dTest (dOp dEq (dOp dIx (dVar 7) (dC (.int 0))) (dVar 3))) (dOp dIx (dVar 7) (dC (.int 1)))))
    (dSeq (dIfS (dTAnd (dTest (dOp (dIn true) (dVar 5) (dVar 6))) (dTest (dOp dNe (dCall (sp_postage C) E0D (dCons (dVar 2) (dCons (dVar 3) (dCons (dCB dTuple (dCons (dCB dSortedS (dCons (dOp dAdd (dLst (dCons (dVar 5) dNil)) (dCB dList (dCons (dVar 4) dNil))) dNil)) dNil)) dNil)))) (dC k_NOTHING)))) (dRet (dC (.bl false))) dNext)
    (t_law_c9 C))))))
def t_law (C : Ct) : DS :=
    (dSeq (dSet 1 (dCall sp_law_state E0D (dCons (dVar 0) dNil)))
    (dSeq (dSet 2 (dCall sp_law_tariff E0D (dCons (dVar 1) dNil)))
    (dSeq (dUnp [3, 4] (dCall sp_law_services E0D (dCons (dVar 1) (dCons (dVar 2) dNil))))
    (dSeq (dIfS (dTAnd (dTest (dOp dGt (dCB dLen (dCons (dVar 4) dNil)) (dC (.int 2)))) (dTest (dOp dGt (dCall sp_law_periods E0D (dCons (dVar 2) (dCons (dVar 3) (dCons (dVar 4) dNil)))) (dC (.int 1000))))) (dSet 4 (dSl (dVar 4) dNoPart (dPart (dC (.int 2))))) dNext)
    (t_law_c4 C)))))
abbrev n_law : List Str := ["script", "state", "tariff", "zone", "services", "other", "known", "row", "away"]

theorem len_law_draw : ∀ ds M Q E, sp_law_draw ds M Q E → ds.length = 2 := by rintro _ _ _ _ ⟨a, l, rfl, _⟩; rfl
def t_draw_half : DS :=
    (dSeq (dStore (dOp dSub (dOp dIx (dVar 0) (dC (.int 3))) (dC (.int 1))) (dVar 0) (dC (.int 3)) dSetL)
    (dSeq (dIfS (dTruth (dOp dIx (dVar 0) (dC (.int 4)))) (dSeq (dSet 3 (dOp dMod (dCB dInt (dCons (dOp dIx (dVar 0) (dC (.int 2))) dNil)) (dVar 1)))
    (dSeq (dStore (dOp dFdiv (dOp dIx (dVar 0) (dC (.int 2))) (dVar 1)) (dVar 0) (dC (.int 2)) dSetL)
    (dSeq (dIfS (dTest (dOp dEq (dOp dIx (dVar 0) (dC (.int 2))) (dC (.int 0)))) (dStore (dC (.int 0)) (dVar 0) (dC (.int 3)) dSetL) dNext)
    (dRet (dVar 3))))) dNext)
    (dSeq (dSet 4 (dOp dMod (dCB dInt (dCons (dOp dAdd (dOp dAdd (dOp dMul (dOp dIx (dVar 0) (dC (.int 2))) (dC (.int 48271))) (dOp dMul (dOp dIx (dVar 0) (dC (.int 3))) (dC (.int 69621)))) (dC (.int 7))) dNil)) (dC (.int 2147483647))))
    (dSeq (dSet 4 (dOp dMod (dCB dInt (dCons (dOp dAdd (dOp dAdd (dOp dMul (dVar 4) (dVar 4)) (dOp dMul (dOp dIx (dVar 0) (dC (.int 2))) (dC (.int 31)))) (dOp dIx (dVar 0) (dC (.int 3)))) dNil)) (dC (.int 1000003))))
    (dRet (dOp dMod (dCB dInt (dCons (dVar 4) dNil)) (dVar 1)))))))
theorem draw_half (M : Mp) (Q : QD) (a : Addr) (lim : Int) (h0 : 0 < lim) (h1 : lim < 2 ^ 64) (x y z : Option D) (q : ∀ (d : Int) (M' : Mp), 0 ≤ d → d < lim → Drawn M a M' → Q (.int d) M') (h : StOk M a) :
    t_draw_half (fnE Q) [some (.ref a), some (.int lim), x, y, z] M := by
  obtain ⟨ns, i, c, k, b, hM, hi⟩ := h
  unfold t_draw_half
  walk_at "g"
  refine b_any (fun e => ?_) (fun e => ?_) <;> subst e
  · walk_at "g"
    refine s_I h0 ?_
    walk_at "g"
    refine s_I (wide_div (b := 64) h0 (by omega) (by decide) (by decide)) ?_
    walk_at "g"
    all_goals exact s_end (q _ _ (Int.emod_nonneg _ (by omega)) (Int.emod_lt_of_pos _ h0) (.of hi))
  · walk_at "g"
    refine s_mul (.inl (.inr ⟨by decide, by decide⟩)) ?_
    walk_at "g"
    refine s_mul (.inl (.inr ⟨by decide, by decide⟩)) ?_
    walk_at "g"
    refine s_I (by decide) ?_
    walk_at "g"
    refine s_mul (.inl (.inr ?_)) ?_
    · generalize c * 48271 + (k - 1) * 69621 + 7 = w
      have := Int.emod_nonneg w (b := 2147483647) (by decide)
      have := Int.emod_lt_of_pos w (b := 2147483647) (by decide)
      omega
    walk_at "g"
    refine s_mul (.inl (.inr ⟨by decide, by decide⟩)) ?_
    walk_at "g"
    refine s_I (by decide) ?_
    walk_at "g"
    refine s_I h0 ?_
    exact s_end (q _ _ (Int.emod_nonneg _ (by omega)) (Int.emod_lt_of_pos _ h0) (.of hi))
theorem rd_law_draw : Rds t_law_draw n_law_draw sp_law_draw := by
  rintro _ M Q E ⟨a, lim, rfl, h0, h1, ⟨ns, i, c, k, b, hM, hi⟩, q⟩
  show dSeq _ t_draw_half (fnE Q) [some (.ref a), some (.int lim), none, none, none] M
  with_reducible refine s_seq ?_
  have q' : ∀ M1, Drawn M a M1 → ∀ (d : Int) (M' : Mp), 0 ≤ d → d < lim → Drawn M1 a M' → Q (.int d) M' := fun M1 h d M' e1 e2 e3 => q d M' e1 e2 (h.trans e3)
  have self : Drawn M a M := ⟨⟨ns, i, c, k, b, hM, hi⟩, fun _ _ => rfl⟩
  walk_at "g"
  · exact s_end (q 0 M (by omega) h0 self)
  · rename_i hk hl
    rw [List.length_map] at hl
    have hl2 : i.toNat < ns.length := by omega
    refine s_ix (d := .int ns[i.toNat]) rfl (by rw [atI_toNat hi, List.getElem?_map, List.getElem?_eq_getElem hl2]; rfl) ?_
    walk_at "g"
    all_goals refine s_I ⟨by decide, by decide, by decide⟩ ?_
    all_goals walk_at "g"
    all_goals exact draw_half _ _ _ _ h0 h1 _ _ _ (q' _ (.of (by omega))) (Drawn.of (M := M) (by omega)).ok
  · exact draw_half _ _ _ _ h0 h1 _ _ _ (q' _ self) self.ok
theorem len_law_state : ∀ ds M Q E, sp_law_state ds M Q E → ds.length = 1 := by rintro _ _ _ _ ⟨a, rfl, _⟩; rfl
theorem rd_law_state : Rds t_law_state n_law_state sp_law_state := by
  rintro _ M Q E ⟨ns, rfl, hl, q⟩
  show t_law_state _ [some (.lsk (ns.map .int))] M
  unfold t_law_state
  walk_at "g"
  intro p hp
  exact s_end (q p _ hp ⟨_, _, _, _, _, updM_same, by decide⟩ fun b h => updM_ne h)

theorem len_value_at : ∀ ds M Q E, sp_value_at ds M Q E → ds.length = 2 := by rintro _ _ _ _ ⟨_, _, _, _, rfl, _⟩; rfl
theorem fdiv_small {x L P : Int} {m : Nat} (h0 : 0 ≤ x) (h1 : x.natAbs < 2 ^ m) (h2 : 0 ≤ L) (h3 : L ≤ x) (h4 : 0 < P) : ((x - L) / P).natAbs < 2 ^ m := by
  have h5 : 0 ≤ (x - L) / P := Int.ediv_nonneg (by omega) (by omega)
  have h6 : (x - L) / P ≤ x - L := Int.ediv_le_self _ (by omega)
  omega

theorem rd_value_at : Rds t_value_at n_value_at sp_value_at := by
  rintro _ M Q E ⟨f, x, n, m, rfl, hp, hP, hb, hx, hn, hm, hnm, hL, q⟩
  show t_value_at _ [some (.tup [.tup (f.head.map encO), .tup (f.tail.map encP)]), some (.int x), none, none, none, none, none] M
  unfold t_value_at
  walk_at "g"
  · rename_i h
    unfold Frm.val at q
    rw [if_pos h] at q
    exact s_end q
  · rename_i h0 h1
    rw [List.length_map] at h1
    unfold Frm.val at q
    rw [if_neg h0, if_pos h1] at q
    have h2 : x.toNat < f.head.length := by omega
    refine s_ix (d := encO (f.head.getD x.toNat none)) rfl ?_ (s_end q)
    rw [atI_toNat (by omega), List.getElem?_map, List.getElem?_eq_getElem h2, getD_of (List.getElem?_eq_getElem h2)]; rfl
  · rename_i h0 h1
    rw [List.length_map] at h1
    unfold Frm.val at q
    rw [if_neg h0, if_neg h1] at q
    have hP0 : (0 : Int) < f.tail.length := by omega
    refine s_I (by show (0 : Int) < ((f.tail.map encP).length : Int); rw [List.length_map]; exact hP0) ?_
    rw [List.length_map, List.length_map]
    generalize hj : (x - (f.head.length : Int)) % (f.tail.length : Int) = j at q ⊢
    have j0 : 0 ≤ j := by rw [← hj]; exact Int.emod_nonneg _ (by omega)
    have j1 : j < f.tail.length := by rw [← hj]; exact Int.emod_lt_of_pos _ hP0
    have j2 : j.toNat < f.tail.length := by omega
    rw [getD_of (List.getElem?_eq_getElem j2)] at q
    walk_at "g"
    refine s_ix (d := encP f.tail[j.toNat]) rfl (by rw [atI_toNat j0, List.getElem?_map, List.getElem?_eq_getElem j2]; rfl) ?_
    have hmem := hb _ (List.getElem_mem j2)
    generalize f.tail[j.toNat] = p at q hmem ⊢
    obtain ⟨v, s⟩ := p
    unfold encP
    walk_at "g"
    rw [encO_isN]
    cases v with
    | none => exact b_true (by walk_at "g"; exact s_end q)
    | some v =>
      refine b_false ?_
      simp only [encO]
      walk_at "g"
      refine s_I ⟨by rw [List.length_map]; omega, ?_⟩ ?_
      · rw [List.length_map]
        exact Nat.lt_of_lt_of_le (PySem.Flt.log2_lt_of (k := 20) (by decide) (by omega)) (by decide)
      simp only [List.length_map]
      walk_at "g"
      refine s_mul (.inr (wide_mul hmem (fdiv_small (by omega) hx (by omega) (by omega) hP0) hn hm hnm)) ?_
      walk_at "g"
      exact s_end q

theorem ipow_le {a m n : Nat} (h : m ≤ n) (ha : 0 < a) : (a : Int) ^ m ≤ (a : Int) ^ n := by
  rw [← Int.natCast_pow, ← Int.natCast_pow]
  exact Int.ofNat_le.mpr (Nat.pow_le_pow_right ha h)
theorem Drawn.self {M : Mp} {a : Addr} (h : StOk M a) : Drawn M a M := ⟨h, fun _ _ => rfl⟩
theorem cut_to {α : Type} (xs : List α) {i : Nat} (h : i ≤ xs.length) : cutD xs none (some (i : Int)) = xs.take i := by
  unfold cutD
  rw [HT.sIx_none, HT.sIx_nat, Nat.min_eq_left h, List.drop_zero, Nat.sub_zero]
theorem cut_from {α : Type} (xs : List α) {i : Nat} (h : i ≤ xs.length) : cutD xs (some (i : Int)) none = xs.drop i := by
  unfold cutD
  rw [HT.sIx_none, HT.sIx_nat, Nat.min_eq_left h]
  exact List.take_of_length_le (by rw [List.length_drop]; omega)
theorem put_set {α : Type} (xs : List α) {i : Nat} (d : α) (h : i < xs.length) : xs.take i ++ [d] ++ xs.drop (i + 1) = xs.set i d := by
  rw [List.set_eq_take_append_cons_drop, if_pos h]
  simp
theorem small_line {n : Nat} (h : n ≤ 1000000) : n ≤ sizeLine := Nat.le_trans h (by decide)

theorem len_law_value : ∀ ds M Q E, sp_law_value ds M Q E → ds.length = 2 := len_value_at
theorem rd_law_value : Rds t_law_value n_law_value sp_law_value := by
  rintro _ M Q E ⟨f, x, n, m, rfl, hp, hP, hb, hx, hn, hm, hnm, hL, q⟩
  show t_law_value _ [some (.tup [.tup (f.head.map encO), .tup (f.tail.map encP)]), some (.int x), none, none, none] M
  unfold t_law_value
  walk_at "g"
  · rename_i h
    unfold Frm.val at q
    rw [if_pos h] at q
    exact s_end q
  · rename_i h0 h1
    rw [List.length_map] at h1
    unfold Frm.val at q
    rw [if_neg h0, if_pos h1] at q
    have h2 : x.toNat < f.head.length := by omega
    refine s_ix (d := encO (f.head.getD x.toNat none)) rfl ?_ (s_end q)
    rw [atI_toNat (by omega), List.getElem?_map, List.getElem?_eq_getElem h2, getD_of (List.getElem?_eq_getElem h2)]; rfl
  · rename_i h0 h1
    rw [List.length_map] at h1
    unfold Frm.val at q
    rw [if_neg h0, if_neg h1] at q
    have hP0 : (0 : Int) < f.tail.length := by omega
    refine s_I (by show (0 : Int) < ((f.tail.map encP).length : Int); rw [List.length_map]; exact hP0) ?_
    rw [List.length_map, List.length_map]
    generalize hj : (x - (f.head.length : Int)) % (f.tail.length : Int) = j at q ⊢
    have j0 : 0 ≤ j := by rw [← hj]; exact Int.emod_nonneg _ (by omega)
    have j1 : j < f.tail.length := by rw [← hj]; exact Int.emod_lt_of_pos _ hP0
    have j2 : j.toNat < f.tail.length := by omega
    rw [getD_of (List.getElem?_eq_getElem j2)] at q
    walk_at "g"
    refine s_ix (d := encP f.tail[j.toNat]) rfl (by rw [atI_toNat j0, List.getElem?_map, List.getElem?_eq_getElem j2]; rfl) ?_
    have hmem := hb _ (List.getElem_mem j2)
    generalize f.tail[j.toNat] = p at q hmem ⊢
    obtain ⟨v, s⟩ := p
    unfold encP
    walk_at "g"
    rw [encO_isN]
    cases v with
    | none => exact b_true (by walk_at "g"; exact s_end q)
    | some v =>
      refine b_false ?_
      simp only [encO]
      walk_at "g"
      refine s_I ⟨by rw [List.length_map]; omega, ?_⟩ ?_
      · rw [List.length_map]
        exact Nat.lt_of_lt_of_le (PySem.Flt.log2_lt_of (k := 20) (by decide) (by omega)) (by decide)
      simp only [List.length_map]
      walk_at "g"
      refine s_mul (.inr (wide_mul hmem (fdiv_small (by omega) hx (by omega) (by omega) hP0) hn hm hnm)) ?_
      walk_at "g"
      exact s_end q

theorem two_pow_le {a b : Nat} (h : a ≤ b) : 2 ^ a ≤ 2 ^ b := Nat.pow_le_pow_right (by decide) h
theorem nat_mul_lt {a b x y : Nat} (h : a < 2 ^ x) (g : b ≤ 2 ^ y) : a * b < 2 ^ (x + y) := by
  rw [Nat.pow_add]
  have h9 : 0 < 2 ^ y := Nat.pow_pos (by decide)
  calc a * b ≤ a * 2 ^ y := Nat.mul_le_mul_left _ g
    _ < 2 ^ x * 2 ^ y := Nat.mul_lt_mul_of_pos_right h h9
theorem log2_20 {i : Int} (h : i.natAbs < 2 ^ 20) : i.natAbs.log2 < 9000 := Nat.lt_of_lt_of_le (PySem.Flt.log2_lt_of (k := 20) (by decide) h) (by decide)
theorem log2_w {i : Int} {n : Nat} (h : i.natAbs < 2 ^ n) (hn : 0 < n) (h2 : n ≤ 9000) : i.natAbs.log2 < 9000 := Nat.lt_of_lt_of_le (PySem.Flt.log2_lt_of hn h) h2
theorem sm64 {i : Int} (h : i.natAbs ≤ 1000000000) : -(2 ^ 64) < i ∧ i < 2 ^ 64 := by omega
theorem scal_int (i j : Int) : scalD (.int i) (.int j) = some (decide (i = j)) := rfl
theorem intsOf_mapG {α : Type} (g : α → Int) : ∀ xs : List α, intsOf (xs.map fun a => D.int (g a)) = some (xs.map g)
  | [] => rfl
  | x :: xs => by
    show (intsOf (xs.map fun a => D.int (g a))).map (g x :: ·) = _
    rw [intsOf_mapG g xs]; rfl
theorem s_minL {x : D} {M : Mp} {Q : QD} {ds : List D} {ns : List Int} (e : lsOf M x = some ds) (e2 : intsOf ds = some ns) (hl : 0 < ns.length) (h : ∀ m, m ∈ ns → (∀ y, y ∈ ns → m ≤ y) → Q (.int m) M) (hx : ∀ i, x ≠ .int i) : dMin [x] M Q := by
  unfold dMin
  simp only [e, e2]
  exact ⟨hl, h⟩
theorem s_abs {i : Int} {M : Mp} {Q : QD} (h : Q (.int (if i < 0 then -i else i)) M) : dAbs [.int i] M Q := h
theorem s_eqD {p q : PyData} {x y : D} {M : Mp} {Q : QD} (e0 : scalD x y = none) (e1 : (drf M x).py = some p) (e2 : (drf M y).py = some q) (h1 : SeqAt.shaped p = true) (h2 : SeqAt.shaped q = true) (h : Q (.bl (PyData.eqv p q)) M) : dEq x y M Q := by
  unfold dEq dEqS
  simp only [e0, e1, e2]
  exact ⟨h1, h2, h⟩
theorem s_neDF {p q : PyData} {x y : D} {M : Mp} {Q : QD} (e0 : scalD x y = none) (e1 : (drf M x).py = some p) (e2 : (drf M y).py = some q) (h1 : SeqAt.shaped p = true) (h2 : SeqAt.shaped q = true) (h : Q (.bl (!PyData.eqv p q)) M) : dNe x y M Q := by
  unfold dNe dEqS
  simp only [e0, e1, e2]
  exact ⟨h1, h2, h⟩

theorem tailVal_add (p : Option Int × Int) (j m : Int) : tailVal p (j + m) = (tailVal p j).map (· + p.2 * m) := by
  obtain ⟨v, s⟩ := p
  cases v with
  | none => rfl
  | some v =>
    show some _ = some _
    congr 1
    show v + s * (j + m) = v + s * j + s * m
    rw [Int.mul_add, Int.add_assoc]
theorem tailAt_shift (t : Tl) (k m : Int) : tailAt t (k + t.length * m) = tailAt t k := by unfold tailAt; rw [Int.add_mul_emod_self_left]
theorem ts_shift (t : Tl) (k m : Int) : ts t (k + t.length * m) = ts t k := by unfold ts; rw [tailAt_shift]
theorem tv_shift {t : Tl} (h : 0 < t.length) (k m : Int) : tv t (k + t.length * m) = (tv t k).map (· + ts t k * m) := by
  unfold tv
  rw [tailAt_shift, Int.add_mul_ediv_left _ _ (by omega), tailVal_add]
  rfl
theorem HP.all {t : Tl} {q : Nat} (h0 : 0 < t.length) (h : HP t q) (k : Int) : Lk t q k := by
  have hp : (0 : Int) < t.length := by omega
  have e := Int.emod_add_mul_ediv k t.length
  have := h (k % t.length) (Int.emod_nonneg _ (by omega)) (Int.emod_lt_of_pos _ hp)
  generalize k % t.length = i at e this
  generalize k / t.length = m at e
  subst e
  have e2 : i + t.length * m + q = i + q + t.length * m := by omega
  unfold Lk at this ⊢
  rw [e2, tv_shift h0, tv_shift h0, ts_shift, ts_shift]
  rcases this with ⟨a, b⟩ | ⟨a, b, ha, hb, hs, hq⟩
  · left; rw [a, b]; exact ⟨rfl, rfl⟩
  · right
    rw [ha, hb, ← hs]
    refine ⟨_, _, rfl, rfl, rfl, ?_⟩
    rw [← hq]
    congr 1
    show (b + ts t i * m) - (a + ts t i * m) = b - a
    omega
theorem HP.run {t : Tl} {q : Nat} (h0 : 0 < t.length) (h : HP t q) (k : Int) : ∀ m : Nat, tv t (k + q * m) = (tv t k).map (· + ts t k * q / t.length * m) ∧ (tv t k ≠ none → ts t (k + q * m) = ts t k)
  | 0 => by
    rw [show k + (q : Int) * ((0 : Nat) : Int) = k by simp]
    refine ⟨?_, fun _ => rfl⟩
    cases tv t k <;> simp
  | m + 1 => by
    obtain ⟨e1, e2⟩ := HP.run h0 h k m
    have e3 : k + (q : Int) * ((m + 1 : Nat) : Int) = k + q * m + q := by rw [Int.natCast_add, Int.mul_add]; omega
    rw [e3]
    rcases h.all h0 (k + q * m) with ⟨a, b⟩ | ⟨a, b, ha, hb, hs, hq⟩
    · rw [b]
      rw [a] at e1
      cases e4 : tv t k with
      | none => exact ⟨rfl, fun z => absurd rfl z⟩
      | some x => rw [e4] at e1; cases e1
    · cases e4 : tv t k with
      | none => rw [e4] at e1; rw [e1] at ha; cases ha
      | some x =>
        have e5 := e2 (by rw [e4]; exact fun z => by cases z)
        rw [e4] at e1
        rw [e5] at hq hs
        refine ⟨?_, fun _ => by rw [← hs]⟩
        rw [hb]
        rw [e1] at ha
        have ha : x + ts t k * q / t.length * m = a := Option.some.inj ha
        have hc : ts t k * q / t.length = b - a := by rw [← hq, Int.mul_ediv_cancel _ (by omega)]
        show some b = some (x + ts t k * q / t.length * ((m + 1 : Nat) : Int))
        rw [Int.natCast_add, Int.mul_add, ← Int.add_assoc, ha, hc]
        congr 1
        omega
theorem shrunk_len {t : Tl} {q : Nat} (h : q ≤ t.length) : (shrunk t q).length = q := by unfold shrunk; rw [List.length_map, List.length_take]; omega
theorem tv_shrunk {t : Tl} {q : Nat} (h0 : 0 < q) (h1 : q ≤ t.length) (h : HP t q) (k : Int) (hk : 0 ≤ k) : tv (shrunk t q) k = tv t k := by
  have e := Int.emod_add_mul_ediv k q
  have i0 : 0 ≤ k % q := Int.emod_nonneg _ (by omega)
  have i1 : k % q < q := Int.emod_lt_of_pos _ (by omega)
  have m0 : 0 ≤ k / q := Int.ediv_nonneg hk (by omega)
  unfold tv tailAt
  rw [shrunk_len h1]
  generalize hi : k % q = i at *
  generalize hm : k / q = m at *
  have hj : i.toNat < t.length := by omega
  have e1 : (shrunk t q).getD i.toNat (none, 0) = (t[i.toNat].1, t[i.toNat].2 * q / t.length) := by
    unfold shrunk
    refine getD_of ?_
    rw [List.getElem?_map, List.getElem?_take_of_lt (by omega), List.getElem?_eq_getElem hj]; rfl
  rw [e1]
  have e2 := (h.run (by omega) i m.toNat).1
  have e3 : (m.toNat : Int) = m := by omega
  have e4 : tailAt t i = t[i.toNat] := by
    unfold tailAt
    rw [Int.emod_eq_of_lt i0 (by omega)]
    exact getD_of (List.getElem?_eq_getElem hj)
  have e5 : tv t i = t[i.toNat].1 := by
    unfold tv
    rw [e4, Int.ediv_eq_zero_of_lt i0 (by omega)]
    unfold tailVal
    cases t[i.toNat].1 <;> simp
  rw [e3, e, e5] at e2
  show _ = tv t k
  rw [e2]
  unfold tailVal ts
  rw [e4]
theorem TOk.mono {t : Tl} {n m : Nat} (h : TOk t n) (hn : n ≤ m) : TOk t m := ⟨h.t0, h.tl, fun p hp => by
  obtain ⟨a, b, c⟩ := h.th p hp
  exact ⟨fun i e => Nat.lt_of_lt_of_le (a i e) (two_pow_le hn), Nat.lt_of_lt_of_le b (two_pow_le hn), c⟩, by have := h.n0; omega⟩
theorem shrunk_ok {t : Tl} {n q : Nat} (h : TOk t n) (h0 : 0 < q) (h1 : q ≤ t.length) : TOk (shrunk t q) (n + 20) := by
  refine ⟨by rw [shrunk_len h1]; exact h0, by rw [shrunk_len h1]; have := h.tl; omega, fun p hp => ?_, by omega⟩
  unfold shrunk at hp
  obtain ⟨r, hr, rfl⟩ := List.mem_map.mp hp
  obtain ⟨a, b, c⟩ := h.th r (List.mem_of_mem_take hr)
  refine ⟨fun i e => Nat.lt_of_lt_of_le (a i e) (two_pow_le (by omega)), ?_, fun e => ?_⟩
  · refine Nat.lt_of_le_of_lt (Int.natAbs_ediv_le_natAbs _ _) ?_
    rw [Int.natAbs_mul]
    refine nat_mul_lt b ?_
    have := h.tl
    have : (2 : Nat) ^ 20 = 1048576 := by decide
    omega
  · show r.2 * q / t.length = 0
    rw [c e]; simp
theorem tailAt_bd {t : Tl} {n : Nat} (h : TOk t n) (k : Int) : bdP n (tailAt t k) := by
  have h0 := h.t0
  have i0 : 0 ≤ k % t.length := Int.emod_nonneg _ (by omega)
  have i1 : k % t.length < t.length := Int.emod_lt_of_pos _ (by omega)
  unfold tailAt
  have hj : (k % t.length).toNat < t.length := by omega
  rw [getD_of (List.getElem?_eq_getElem hj)]
  exact h.th _ (List.getElem_mem hj)
theorem tv_bd {t : Tl} {n m : Nat} (h : TOk t n) {k : Int} (hk : k.natAbs ≤ 2 ^ m) : bdO (n + m + 1) (tv t k) := by
  obtain ⟨a, b, _⟩ := tailAt_bd h k
  intro i e
  unfold tv tailVal at e
  cases e1 : (tailAt t k).1 with
  | none => rw [e1] at e; cases e
  | some v =>
    rw [e1] at e
    have e : v + (tailAt t k).2 * (k / t.length) = i := Option.some.inj e
    have h1 := a v e1
    have h2 : (k / (t.length : Int)).natAbs ≤ 2 ^ m := Nat.le_trans (Int.natAbs_ediv_le_natAbs _ _) hk
    have h3 : ((tailAt t k).2 * (k / t.length)).natAbs < 2 ^ (n + m) := by rw [Int.natAbs_mul]; exact nat_mul_lt b h2
    have h4 : 2 ^ n ≤ 2 ^ (n + m) := two_pow_le (by omega)
    rw [Nat.pow_succ]
    omega
theorem ts_none {t : Tl} {n : Nat} (h : TOk t n) {k : Int} (e : tv t k = none) : ts t k = 0 := by
  refine (tailAt_bd h k).2.2 ?_
  unfold tv tailVal at e
  cases e1 : (tailAt t k).1 with
  | none => rfl
  | some v => rw [e1] at e; cases e
theorem tail_ix {t : Tl} {n : Nat} (h : TOk t n) {k : Int} (h0 : 0 ≤ k) (h1 : k < t.length) : (t.map encP)[k.toNat]? = some (encP (tailAt t k)) := by
  have hj : k.toNat < t.length := by omega
  unfold tailAt
  rw [Int.emod_eq_of_lt h0 h1, List.getElem?_map, List.getElem?_eq_getElem hj, getD_of (List.getElem?_eq_getElem hj)]; rfl
theorem encP_mk (v : Option Int) (s : Int) : encP (v, s) = .tup [encO v, .int s] := rfl
theorem len_continued : ∀ ds M Q E, sp_continued ds M Q E → ds.length = 2 := by rintro _ _ _ _ ⟨_, _, _, rfl, _⟩; rfl
theorem rd_continued : Rds t_continued n_continued sp_continued := by
  rintro _ M Q E ⟨t, n, k, rfl, h, hk, q⟩
  show t_continued _ [some (.tup (t.map encP)), some (.int k), none, none] M
  unfold t_continued
  have h0 := h.t0
  have hl := h.tl
  have i0 : 0 ≤ k % t.length := Int.emod_nonneg _ (by omega)
  have i1 : k % t.length < t.length := Int.emod_lt_of_pos _ (by omega)
  walk_at "g"
  refine s_I (by show (0 : Int) < ((t.map encP).length : Int); rw [List.length_map]; omega) ?_
  rw [List.length_map]
  walk_at "g"
  refine s_ix (d := encP (tailAt t k)) rfl (by rw [atI_toNat i0, tail_ix h i0 i1]; unfold tailAt; rw [Int.emod_emod_of_dvd _ (Int.dvd_refl _)]) ?_
  have hb := tailAt_bd h k
  have ht : ∀ v, (tailAt t k).1 = some v → tv t k = some (v + ts t k * (k / t.length)) := fun v e => by unfold tv tailVal; rw [e]; rfl
  have hn : (tailAt t k).1 = none → tv t k = none := fun e => by unfold tv tailVal; rw [e]; rfl
  have hz : tv t k = none → ts t k = 0 := ts_none h
  have hs : ts t k = (tailAt t k).2 := rfl
  rw [hs] at q ht hz
  generalize tailAt t k = p at *
  obtain ⟨v, s⟩ := p
  unfold encP
  walk_at "g"
  rw [encO_isN]
  cases v with
  | none =>
    rw [hn rfl] at q
    have hz : s = 0 := hz (hn rfl)
    subst hz
    exact b_true (by walk_at "g"; exact s_end q)
  | some v =>
    refine b_false ?_
    rw [ht v rfl] at q
    simp only [encO]
    walk_at "g"
    refine s_I ⟨by rw [List.length_map]; omega, ?_⟩ ?_
    · rw [List.length_map]; exact log2_20 (by omega)
    rw [List.length_map]
    walk_at "g"
    refine s_mul (.inl (.inr (sm64 ?_))) ?_
    · have := Int.natAbs_ediv_le_natAbs k t.length; omega
    walk_at "g"
    exact s_end q
theorem tk_line {t : Tl} {n : Nat} (h : TOk t n) : t.length ≤ sizeLine := Nat.le_trans h.tl (by decide)
theorem len_has_period : ∀ ds M Q E, sp_has_period ds M Q E → ds.length = 2 := by rintro _ _ _ _ ⟨_, _, _, rfl, _⟩; rfl
theorem rd_has_period : Rds t_has_period n_has_period sp_has_period := by
  rintro _ M Q E ⟨t, n, z, rfl, h, hz0, hz1, q⟩
  show t_has_period _ [some (.tup (t.map encP)), some (.int z), none, none, none, none, none, none, none] M
  unfold t_has_period
  have h0 := h.t0
  have hl := h.tl
  walk_at "g"
  rw [List.length_map]
  refine s_kr1 (by omega) (by omega) ?_
  refine s_kforR (fun i τ M' => M' = M ∧ (∀ k : Int, 0 ≤ k → k < i → Lk t z k) ∧ ∃ a b c d e f, τ = [some (.tup (t.map encP)), some (.int z), some (.int t.length), a, b, c, d, e, f]) ⟨rfl, fun k k0 k1 => by omega, _, _, _, _, _, _, rfl⟩ (fun i τ M' hi ⟨e, hk, a, b, c, d, e', f, e2⟩ => ?_) (fun τ M' ⟨e, hk, a, b, c, d, e', f, e2⟩ => ?_)
  · subst e; subst e2
    have hi : i < t.length := by omega
    show dSeq _ _ _ [some (.tup (t.map encP)), some (.int z), some (.int t.length), some (.int (0 + i)), b, c, d, e', f] M'
    rw [Int.zero_add]
    walk_at "g"
    have hb := tailAt_bd h (i : Int)
    have e1 : tv t i = (tailAt t i).1 := by
      unfold tv
      rw [Int.ediv_eq_zero_of_lt (by omega) (by omega)]
      unfold tailVal
      cases (tailAt t i).1 <;> simp
    have e3 : ts t i = (tailAt t i).2 := rfl
    refine s_ix (d := encP (tailAt t i)) rfl (by rw [atI_toNat (by omega), tail_ix h (by omega) (by omega)]) ?_
    generalize tailAt t (i : Int) = p at *
    obtain ⟨v, s⟩ := p
    rw [encP_mk]
    walk_at "g"
    refine s_I ⟨by omega, log2_20 (by omega)⟩ ?_
    walk_at "g"
    have j0 : 0 ≤ ((i : Int) + z) / t.length := Int.ediv_nonneg (by omega) (by omega)
    have j1 : ((i : Int) + z) / t.length ≤ (i : Int) + z := Int.ediv_le_self _ (by omega)
    refine s_mul (.inl (.inr (sm64 (by omega)))) ?_
    walk_at "g"
    have e4 : (i : Int) + z - t.length * (((i : Int) + z) / t.length) = ((i : Int) + z) % t.length := by have := Int.emod_add_mul_ediv ((i : Int) + z) t.length; omega
    have i0 : 0 ≤ ((i : Int) + z) % t.length := Int.emod_nonneg _ (by omega)
    have i1 : ((i : Int) + z) % t.length < t.length := Int.emod_lt_of_pos _ (by omega)
    have hb2 := tailAt_bd h ((i : Int) + z)
    have e5 : tailAt t (((i : Int) + z) % t.length) = tailAt t ((i : Int) + z) := by unfold tailAt; rw [Int.emod_emod_of_dvd _ (Int.dvd_refl _)]
    have e6 : tv t ((i : Int) + z) = tailVal (tailAt t ((i : Int) + z)) (((i : Int) + z) / t.length) := rfl
    have e7 : ts t ((i : Int) + z) = (tailAt t ((i : Int) + z)).2 := rfl
    refine s_ix (d := encP (tailAt t ((i : Int) + z))) rfl (by rw [e4, atI_toNat i0, tail_ix h i0 i1, e5]) ?_
    generalize tailAt t ((i : Int) + z) = p2 at *
    obtain ⟨v2, s2⟩ := p2
    generalize hw : ((i : Int) + z) / t.length = wr at *
    have next : Lk t z i → ∀ (a b c d e f : Option D), M' = M' ∧ (∀ k : Int, 0 ≤ k → k < (i + 1 : Nat) → Lk t z k) ∧ ∃ a' b' c' d' e' f', ([some (.tup (t.map encP)), some (.int z), some (.int t.length), a, b, c, d, e, f] : SD) = [some (.tup (t.map encP)), some (.int z), some (.int t.length), a', b', c', d', e', f'] := by
      intro hL a b c d e f
      refine ⟨rfl, fun k k0 k1 => ?_, _, _, _, _, _, _, rfl⟩
      by_cases z : k = i
      · subst z; exact hL
      · exact hk k k0 (by omega)
    have stop : ¬ Lk t z i → rtQ Q (.bl false) M' := fun hL => s_end (q false ⟨fun y => (by cases y), fun y => absurd (y i (by omega) (by omega)) hL⟩)
    have hLk : Lk t z i ↔ (v = none ∧ tailVal (v2, s2) wr = none ∨ ∃ a b, v = some a ∧ tailVal (v2, s2) wr = some b ∧ s = s2 ∧ (b - a) * t.length = s * z) := by
      unfold Lk
      rw [e1, e3, e6, e7]
    rw [encP_mk]
    walk_at "g"
    rw [encO_isN]
    cases v with
    | none =>
      simp only [Option.isNone_none]
      walk_at "g"
      simp only [encO_isN, Option.isNone_none, Bool.not_true]
      walk_at "g"
      simp only [encO_isN]
      cases v2 with
      | none =>
        simp only [Option.isNone_none, Bool.not_true]
        walk_at "g"
        exact next (hLk.mpr (.inl ⟨rfl, rfl⟩)) _ _ _ _ _ _
      | some v2 =>
        simp only [Option.isNone_some, Bool.not_false]
        walk_at "g"
        exact stop (fun y => by rcases hLk.mp y with ⟨_, y⟩ | ⟨_, _, y, _⟩ <;> cases y)
    | some v =>
      simp only [Option.isNone_some]
      walk_at "g"
      rw [encO_isN]
      cases v2 with
      | none =>
        simp only [Option.isNone_none]
        walk_at "g"
        simp only [encO_isN, Option.isNone_some, Bool.not_false]
        walk_at "g"
        exact stop (fun y => by rcases hLk.mp y with ⟨y, _⟩ | ⟨_, _, _, y, _⟩ <;> cases y)
      | some v2 =>
        simp only [encO, Option.isNone_some]
        walk_at "g"
        · rename_i hne
          refine stop fun y => ?_
          rcases hLk.mp y with ⟨y, _⟩ | ⟨_, _, _, _, y, _⟩
          · cases y
          · exact hne y
        · refine s_mul (.inl (.inr (sm64 (by omega)))) ?_
          walk_at "g"
          refine s_mul (.inl (.inr (sm64 (by omega)))) ?_
          walk_at "g"
          refine s_mul (.inl (.inr (sm64 (by omega)))) ?_
          walk_at "g"
          · rename_i he hne
            refine stop fun y => ?_
            rcases hLk.mp y with ⟨y, _⟩ | ⟨a, b, y1, y2, y3, y4⟩
            · cases y
            · cases y1; cases y2; subst y3
              exact hne y4
          · rename_i he heq
            have he : s = s2 := by simpa using he
            subst he
            exact next (hLk.mpr (.inr ⟨_, _, rfl, rfl, rfl, heq⟩)) _ _ _ _ _ _
  · subst e; subst e2
    walk_at "g"
    exact s_end (q true ⟨fun _ k k0 k1 => hk k k0 k1, fun _ => rfl⟩)
theorem len_shortest_tail : ∀ ds M Q E, sp_shortest_tail ds M Q E → ds.length = 1 := by rintro _ _ _ _ ⟨_, _, rfl, _⟩; rfl
theorem rd_shortest_tail : Rds t_shortest_tail n_shortest_tail sp_shortest_tail := by
  rintro _ M Q E ⟨t, n, rfl, h, q⟩
  show t_shortest_tail _ [some (.tup (t.map encP)), none, none, none, none] M
  unfold t_shortest_tail
  have h0 := h.t0
  have hl := h.tl
  walk_at "g"
  rw [List.length_map]
  refine s_kforR (fun i τ M' => M' = M ∧ (∀ z : Nat, 0 < z → z < i + 1 → z ∣ t.length → ¬ HP t z) ∧ ∃ a b c, τ = [some (.tup (t.map encP)), some (.int t.length), a, b, c]) ⟨rfl, fun z z0 z1 => by omega, _, _, _, rfl⟩ (fun i τ M' hi ⟨e, hk, a, b, c, e2⟩ => ?_) (fun τ M' ⟨e, hk, a, b, c, e2⟩ => ?_)
  · subst e; subst e2
    have hi : i + 1 < t.length := by omega
    show dIfS _ _ _ _ [some (.tup (t.map encP)), some (.int t.length), some (.int (1 + i)), b, c] M'
    rw [show (1 : Int) + i = ((i + 1 : Nat) : Int) by omega]
    generalize hz : i + 1 = z at *
    have next : ¬ (z ∣ t.length ∧ HP t z) → ∀ a b c : Option D, M' = M' ∧ (∀ y : Nat, 0 < y → y < z + 1 → y ∣ t.length → ¬ HP t y) ∧ ∃ a' b' c', ([some (.tup (t.map encP)), some (.int t.length), a, b, c] : SD) = [some (.tup (t.map encP)), some (.int t.length), a', b', c'] := by
      intro hn a b c
      refine ⟨rfl, fun y y0 y1 yd yh => ?_, _, _, _, rfl⟩
      by_cases e : y = z
      · subst e; exact hn ⟨yd, yh⟩
      · exact hk y y0 (by omega) yd yh
    walk_at "g"
    refine s_I (by omega) ?_
    walk_at "g"
    · rename_i hd
      have hd : z ∣ t.length := by
        have : ((t.length % z : Nat) : Int) = 0 := by rw [← hd]; rfl
        exact Nat.dvd_of_mod_eq_zero (by omega)
      refine ⟨t, n, z, rfl, h, by omega, hi, fun b hb => ?_⟩
      walk_at "g"
      refine b_any (fun e => ?_) (fun e => ?_)
      · have hh := hb.mp e
        walk_at "g"
        rw [cut_to _ (by rw [List.length_map]; omega), ← List.map_take]
        walk_at "g"
        refine s_klcMap encP (fun p => encP (p.1, p.2 * z / t.length)) (fun _ => rfl) (by rw [List.length_take]; have := tk_line h; omega) (fun p hp => ⟨_, rfl, fun Q k => ?_⟩) ?_
        · obtain ⟨v, s⟩ := p
          show dTup _ [some (.tup (t.map encP)), some (.int t.length), some (.int z), some (encO v), some (.int s)] M' Q
          walk_at "g"
          refine s_mul (.inl (.inr (sm64 (by omega)))) ?_
          walk_at "g"
          refine s_I ⟨by omega, log2_20 (by omega)⟩ ?_
          walk_at "g"
          exact k
        · walk_at "g"
          have e3 : (t.take z).map (fun p => encP (p.1, p.2 * z / t.length)) = (shrunk t z).map encP := by unfold shrunk; rw [List.map_map]; rfl
          rw [e3]
          refine s_end (q _ (shrunk_ok h (by omega) (by omega)) (fun k hk => tv_shrunk (by omega) (by omega) hh k hk) (by rw [shrunk_len (by omega)]; exact hd) fun y y0 y1 yd => ?_)
          rw [shrunk_len (by omega)] at y1
          exact hk y y0 (by omega) yd
      · walk_at "g"
        exact next (fun y => by have := hb.mpr y.2; rw [e] at this; cases this) _ _ _
    · rename_i hd
      refine next (fun y => hd ?_) _ _ _
      show ((t.length : Int)) % z = 0
      have := Nat.mod_eq_zero_of_dvd y.1
      omega
  · subst e; subst e2
    walk_at "g"
    refine s_end (q t (h.mono (by omega)) (fun _ _ => rfl) (Nat.dvd_refl _) fun y y0 y1 yd => hk y y0 (by omega) yd)
theorem val_nrm {t : Tl} {head : List (Option Int)} {l : Nat} (h0 : 0 < t.length) (hl : l ≤ head.length) (hh : ∀ x : Int, l ≤ x → x < head.length → head.getD x.toNat none = tv t (x - head.length)) (x : Int) :
    (nrm t head l).val x = if x < 0 then none else if x < head.length then head.getD x.toNat none else tv t (x - head.length) := by
  unfold nrm Frm.val
  by_cases h1 : x < 0
  · rw [if_pos h1, if_pos h1]
  rw [if_neg h1, if_neg h1]
  have e1 : (head.take l).length = l := by rw [List.length_take]; omega
  simp only [e1, List.length_map, List.length_range]
  by_cases h2 : x < l
  · rw [if_pos h2, if_pos (by omega)]
    rw [List.getD_eq_getElem?_getD, List.getD_eq_getElem?_getD, List.getElem?_take_of_lt (by omega)]
  · rw [if_neg h2]
    have e2 : (if x < head.length then head.getD x.toNat none else tv t (x - head.length)) = tv t (x - head.length) := by
      split
      · exact hh x (by omega) (by omega)
      · rfl
    rw [e2]
    have hp : (0 : Int) < t.length := by omega
    have e := Int.emod_add_mul_ediv (x - l) t.length
    have i0 : 0 ≤ (x - l) % t.length := Int.emod_nonneg _ (by omega)
    have i1 : (x - l) % t.length < t.length := Int.emod_lt_of_pos _ hp
    generalize (x - l) % (t.length : Int) = i at *
    generalize (x - l) / (t.length : Int) = m at *
    have hi : i.toNat < t.length := by omega
    rw [getD_of (show _ = some (tv t (i - ((head.length : Int) - l)), ts t (i - ((head.length : Int) - l))) by
      rw [List.getElem?_map, List.getElem?_range hi]
      show some (tv t (((i.toNat : Nat) : Int) - ((head.length : Int) - l)), ts t (((i.toNat : Nat) : Int) - ((head.length : Int) - l))) = _
      rw [show ((i.toNat : Nat) : Int) = i by omega])]
    have e3 : x - head.length = (i - ((head.length : Int) - l)) + t.length * m := by omega
    rw [e3, tv_shift h0]
    rfl
theorem nrm_ok {t : Tl} {n : Nat} {f : Frm} {l : Nat} (hll : l ≤ f.head.length) (h : TOk t (n + 20)) (hf : FOk f n) : FOk (nrm t f.head l) (n + 40) := by
  have hl := hf.hl
  have htl := h.tl
  have ht0 := h.t0
  refine ⟨⟨?_, ?_, fun p hp => ?_, by omega⟩, ?_, fun v hv => ?_⟩
  · show 0 < ((List.range t.length).map _).length; rw [List.length_map, List.length_range]; exact h.t0
  · show ((List.range t.length).map _).length ≤ _; rw [List.length_map, List.length_range]; exact h.tl
  · obtain ⟨i, hi, rfl⟩ := List.mem_map.mp hp
    have hi := List.mem_range.mp hi
    · refine ⟨fun j e => ?_, ?_, fun e => ts_none h e⟩
      · have := tv_bd h (m := 18) (k := (i : Int) - ((f.head.length : Int) - l)) (by have : (2 : Nat) ^ 18 = 262144 := (by decide); omega) j e
        exact Nat.lt_of_lt_of_le this (two_pow_le (by omega))
      · exact Nat.lt_of_lt_of_le (tailAt_bd h _).2.1 (two_pow_le (by omega))
  · show (f.head.take l).length ≤ _; rw [List.length_take]; omega
  · have := hf.hd v (List.mem_of_mem_take hv)
    exact fun i e => Nat.lt_of_lt_of_le (this i e) (two_pow_le (by omega))
theorem tv_nrm {t : Tl} {head : List (Option Int)} {l : Nat} (h0 : 0 < t.length) (k : Int) : tv (nrm t head l).tail k = tv t (k - ((head.length : Int) - l)) ∧ ts (nrm t head l).tail k = ts t (k - ((head.length : Int) - l)) := by
  have hl : (nrm t head l).tail.length = t.length := by show ((List.range t.length).map _).length = _; rw [List.length_map, List.length_range]
  have i0 : 0 ≤ k % t.length := Int.emod_nonneg _ (by omega)
  have i1 : k % t.length < t.length := Int.emod_lt_of_pos _ (by omega)
  have e := Int.emod_add_mul_ediv k t.length
  have ea : tailAt (nrm t head l).tail k = (tv t (k % t.length - ((head.length : Int) - l)), ts t (k % t.length - ((head.length : Int) - l))) := by
    unfold tailAt
    rw [hl]
    generalize k % (t.length : Int) = i at *
    have hi : i.toNat < t.length := by omega
    refine getD_of ?_
    show ((List.range t.length).map _)[i.toNat]? = _
    rw [List.getElem?_map, List.getElem?_range hi]
    show some (tv t (((i.toNat : Nat) : Int) - ((head.length : Int) - l)), ts t (((i.toNat : Nat) : Int) - ((head.length : Int) - l))) = _
    rw [show ((i.toNat : Nat) : Int) = i by omega]
  have e3 : k - ((head.length : Int) - l) = (k % t.length - ((head.length : Int) - l)) + t.length * (k / t.length) := by omega
  refine ⟨?_, ?_⟩
  · unfold tv
    rw [ea, hl]
    show Option.map _ _ = _
    rw [show tailVal (tailAt t (k - (↑head.length - ↑l))) ((k - (↑head.length - ↑l)) / ↑t.length) = tv t (k - ((head.length : Int) - l)) from rfl, e3, tv_shift h0]
  · unfold ts
    rw [ea, show (tailAt t (k - ((head.length : Int) - l))).2 = ts t (k - ((head.length : Int) - l)) from rfl, e3, ts_shift]
theorem HP.of_val {t t' : Tl} {q : Nat} (h0 : 0 < t.length) (h0' : 0 < t'.length) (hd : t'.length ∣ t.length) (hv : ∀ k, 0 ≤ k → tv t' k = tv t k) (h : HP t' q) : HP t q := by
  obtain ⟨c, hc⟩ := hd
  have slope : ∀ k : Int, 0 ≤ k → tv t k ≠ none → ts t k = ts t' k * c := fun k k0 hn => by
    have a1 := tv_shift h0 k 1
    have a2 := tv_shift h0' k c
    have e : (t.length : Int) * 1 = t'.length * c := by rw [Int.mul_one, hc, Int.natCast_mul]
    rw [e] at a1
    rw [hv _ (by have : (0 : Int) ≤ t'.length * c := Int.mul_nonneg (by omega) (by omega); omega), a1, hv k k0] at a2
    cases e4 : tv t k with
    | none => exact absurd e4 hn
    | some v =>
      rw [e4] at a2
      have a2 : v + ts t k * 1 = v + ts t' k * c := Option.some.inj a2
      omega
  intro k k0 k1
  rcases h.all h0' k with ⟨a, b⟩ | ⟨a, b, ha, hb, hs, hq⟩
  · rw [hv _ (by omega)] at a b
    exact .inl ⟨a, b⟩
  · rw [hv _ (by omega)] at ha hb
    refine .inr ⟨a, b, ha, hb, ?_, ?_⟩
    · rw [slope k k0 (by rw [ha]; exact fun z => by cases z), slope (k + q) (by omega) (by rw [hb]; exact fun z => by cases z), hs]
    · rw [slope k k0 (by rw [ha]; exact fun z => by cases z), hc, Int.natCast_mul, ← Int.mul_assoc, hq, Int.mul_right_comm]
theorem norm_nrm {t t0 : Tl} {head : List (Option Int)} {l : Nat} (h0 : 0 < t.length) (h00 : 0 < t0.length) (hd : t.length ∣ t0.length) (hv : ∀ k, 0 ≤ k → tv t k = tv t0 k) (hm : ∀ q, 0 < q → q < t.length → q ∣ t0.length → ¬ HP t0 q) (hl : l ≤ head.length)
    (hh : 0 < l → head.getD (l - 1) none ≠ tv t ((l : Int) - 1 - head.length)) : IsNorm (nrm t head l) := by
  have hlen : (nrm t head l).tail.length = t.length := by show ((List.range t.length).map _).length = _; rw [List.length_map, List.length_range]
  have e1 : (nrm t head l).head.length = l := by show (head.take l).length = l; rw [List.length_take]; omega
  refine ⟨fun q q0 q1 qd z => ?_, fun hp => ?_⟩
  · rw [hlen] at q1 qd
    refine hm q q0 q1 (Nat.dvd_trans qd hd) (HP.of_val h00 h0 hd hv fun k k0 k1 => ?_)
    have := z.all (by rw [hlen]; exact h0) (k + ((head.length : Int) - l))
    unfold Lk at this ⊢
    rw [(tv_nrm h0 _).1, (tv_nrm h0 _).1, (tv_nrm h0 _).2, (tv_nrm h0 _).2, hlen, show k + ((head.length : Int) - l) - ((head.length : Int) - l) = k by omega, show k + ((head.length : Int) - l) + q - ((head.length : Int) - l) = k + q by omega] at this
    exact this
  · rw [e1] at hp ⊢
    rw [(tv_nrm h0 _).1, show (-1 : Int) - ((head.length : Int) - l) = (l : Int) - 1 - head.length by omega]
    have : (nrm t head l).head.getD (l - 1) none = head.getD (l - 1) none := by
      show (head.take l).getD (l - 1) none = _
      rw [List.getD_eq_getElem?_getD, List.getD_eq_getElem?_getD, List.getElem?_take_of_lt (by omega)]
    rw [this]
    exact hh hp
theorem len_normal : ∀ ds M Q E, sp_normal ds M Q E → ds.length = 1 := by rintro _ _ _ _ ⟨_, _, rfl, _⟩; rfl
theorem rd_normal : Rds t_normal n_normal sp_normal := by
  rintro _ M Q E ⟨f, n, rfl, h, q⟩
  show t_normal _ [some (.tup [.tup (f.head.map encO), .tup (f.tail.map encP)]), none, none, none, none, none, none, none] M
  unfold t_normal
  have hl := h.hl
  have h0 := h.tk.t0
  walk_at "g"
  refine ⟨f.tail, n, rfl, h.tk, fun t ht hv hd hmin => ?_⟩
  have ht0 := ht.t0
  have htl := ht.tl
  walk_at "g"
  rw [List.length_map]
  have fin : ∀ (l : Nat) (a b c d : Option D), l ≤ f.head.length → (∀ x : Int, l ≤ x → x < f.head.length → f.head.getD x.toNat none = tv t (x - f.head.length)) → (0 < l → f.head.getD (l - 1) none ≠ tv t ((l : Int) - 1 - f.head.length)) →
      t_normal_c4 (fnE Q) [some (.tup [.tup (f.head.map encO), .tup (f.tail.map encP)]), some (.tup (f.head.map encO)), some (.tup (t.map encP)), some (.int l), a, b, c, d] M := by
    intro l a b c d hll hh hst
    unfold t_normal_c4
    walk_at "g"
    rw [cut_to _ (by rw [List.length_map]; exact hll), ← List.map_take]
    walk_at "g"
    rw [List.length_map, List.length_map]
    refine s_kr1 (by omega) (by omega) ?_
    refine s_klcRng (fun i : Nat => encP (tv t ((i : Int) - ((f.head.length : Int) - l)), ts t ((i : Int) - ((f.head.length : Int) - l)))) (by have := tk_line ht; omega) (fun i Q hi k => ?_) ?_
    · rw [Int.zero_add]
      show dCall _ _ _ [some (.tup [.tup (f.head.map encO), .tup (f.tail.map encP)]), some (.tup (f.head.map encO)), some (.tup (t.map encP)), some (.int l), a, b, some (.int ((f.head.length : Int) - l)), some (.int i)] M Q
      walk_at "g"
      exact ⟨t, _, _, rfl, ht, by omega, k⟩
    · walk_at "g"
      have e3 : (List.range ((t.length : Int)).toNat).map (fun i : Nat => encP (tv t ((i : Int) - ((f.head.length : Int) - l)), ts t ((i : Int) - ((f.head.length : Int) - l)))) = (nrm t f.head l).tail.map encP := by
        unfold nrm
        rw [List.map_map, show ((t.length : Int)).toNat = t.length by omega]
        rfl
      rw [e3]
      refine s_end (q (nrm t f.head l) (nrm_ok hll ht h) (by show (f.head.take l).length ≤ _; rw [List.length_take]; omega) (by show ((List.range t.length).map _).length ≤ _; rw [List.length_map, List.length_range]; exact Nat.le_of_dvd h0 hd) (fun x => ?_) (norm_nrm ht0 h0 hd hv hmin hll hst))
      rw [val_nrm ht0 hll hh]
      unfold Frm.val
      split
      · rfl
      split
      · rfl
      · exact hv _ (by omega)
  refine s_while (fun m τ M' => M' = M ∧ m ≤ f.head.length ∧ (∀ x : Int, m ≤ x → x < f.head.length → f.head.getD x.toNat none = tv t (x - f.head.length)) ∧ ∃ a b c d, τ = [some (.tup [.tup (f.head.map encO), .tup (f.tail.map encP)]), some (.tup (f.head.map encO)), some (.tup (t.map encP)), some (.int m), a, b, c, d]) f.head.length ⟨rfl, Nat.le_refl _, fun x x0 x1 => by omega, _, _, _, _, rfl⟩ (fun m τ M' ⟨e, hm, hh, a, b, c, d, e2⟩ => ?_)
  subst e; subst e2
  walk_at "g"
  · rename_i hm0
    refine ⟨t, _, _, rfl, ht, by rw [List.length_map]; omega, ?_⟩
    rw [encP_mk, List.length_map]
    walk_at "g"
    have hj : m - 1 < f.head.length := by omega
    refine s_ix (d := encO (f.head.getD (m - 1) none)) rfl ?_ ?_
    · rw [atI_toNat (by omega), List.getElem?_map, show ((m : Int) - 1).toNat = m - 1 by omega, List.getElem?_eq_getElem hj, getD_of (List.getElem?_eq_getElem hj)]; rfl
    have e5 : (m : Int) - 1 - f.head.length = ((m - 1 : Nat) : Int) - f.head.length := by omega
    rw [e5]
    refine s_neS (b := decide (tv t (((m - 1 : Nat) : Int) - f.head.length) = f.head.getD (m - 1) none)) ?_ ?_
    · generalize tv t (((m - 1 : Nat) : Int) - f.head.length) = u
      generalize f.head.getD (m - 1) none = w
      cases u <;> cases w <;> simp [encO, scalD]
    walk_at "g"
    · rename_i he
      have he : ¬ tv t (((m - 1 : Nat) : Int) - f.head.length) = f.head.getD (m - 1) none := by simpa using he
      exact fin m _ _ _ _ hm hh fun _ z => he (by rw [z]; congr 1; omega)
    · rename_i he
      have he : tv t (((m - 1 : Nat) : Int) - f.head.length) = f.head.getD (m - 1) none := by simpa using he
      have e7 : (m : Int) - 1 = ((m - 1 : Nat) : Int) := by omega
      rw [e7]
      refine ⟨m - 1, by omega, rfl, by omega, fun x x0 x1 => ?_, _, _, _, _, rfl⟩
      by_cases e6 : x = ((m - 1 : Nat) : Int)
      · subst e6; rw [he]; rfl
      · exact hh x (by omega) x1
  · exact fin m _ _ _ _ hm hh fun _ => by omega

theorem FOk.val_at {f : Frm} {n m : Nat} {x : Int} {M : Mp} {Q : QD} {E : XD} (h : FOk f n) (hx : x.natAbs < 2 ^ m) (hm : 20 ≤ m) (hnm : n + m ≤ 1000000) (q : Q (encO (f.val x)) M) : sp_value_at [f.enc, .int x] M Q E := by
  have h1 := h.tk.tl
  have h2 := h.hl
  have h3 : 2 ^ 20 ≤ 2 ^ m := two_pow_le hm
  have h4 : (2 : Nat) ^ 20 = 1048576 := by decide
  exact ⟨f, x, n, m, rfl, h.tk.t0, by omega, fun p hp => (h.tk.th p hp).2.1, hx, h.tk.n0, by omega, hnm, by omega, q⟩
theorem val_tv {f : Frm} {x : Int} (h : f.head.length ≤ x) : f.val x = tv f.tail (x - f.head.length) := by
  unfold Frm.val
  rw [if_neg (by omega), if_neg (by omega)]; rfl
def stF (f : Frm) (w r : Nat) : Frm := ⟨(List.range (f.head.length + w)).map fun i : Nat => f.val i, (List.range (f.tail.length * r)).map fun k : Nat => (f.val ((f.head.length : Int) + w + k), ts f.tail ((w : Int) + k) * r)⟩
theorem val_stF {f : Frm} {w r : Nat} (h0 : 0 < f.tail.length) (hr : 0 < r) (x : Int) : (stF f w r).val x = f.val x := by
  have hpr : 0 < f.tail.length * r := Nat.mul_pos h0 hr
  by_cases h1 : x < 0
  · unfold Frm.val; rw [if_pos h1, if_pos h1]
  by_cases h2 : x < f.head.length + w
  · show (if x < 0 then none else _) = _
    rw [if_neg h1]
    have e1 : (stF f w r).head.length = f.head.length + w := by unfold stF; rw [List.length_map, List.length_range]
    rw [if_pos (by rw [e1]; omega)]
    refine getD_of ?_
    unfold stF
    rw [List.getElem?_map, List.getElem?_range (by omega)]
    show some (f.val ((x.toNat : Nat) : Int)) = _
    rw [show ((x.toNat : Nat) : Int) = x by omega]
  · have e1 : (stF f w r).head.length = f.head.length + w := by unfold stF; rw [List.length_map, List.length_range]
    have e2 : (stF f w r).tail.length = f.tail.length * r := by unfold stF; rw [List.length_map, List.length_range]
    rw [val_tv (by rw [e1]; omega), e1]
    unfold tv tailAt
    rw [e2]
    have e := Int.emod_add_mul_ediv (x - ((f.head.length + w : Nat) : Int)) ((f.tail.length * r : Nat) : Int)
    have i0 : 0 ≤ (x - ((f.head.length + w : Nat) : Int)) % ((f.tail.length * r : Nat) : Int) := Int.emod_nonneg _ (by omega)
    have i1 : (x - ((f.head.length + w : Nat) : Int)) % ((f.tail.length * r : Nat) : Int) < ((f.tail.length * r : Nat) : Int) := Int.emod_lt_of_pos _ (by omega)
    generalize (x - ((f.head.length + w : Nat) : Int)) % ((f.tail.length * r : Nat) : Int) = i at *
    generalize (x - ((f.head.length + w : Nat) : Int)) / ((f.tail.length * r : Nat) : Int) = m at *
    have e3 : (stF f w r).tail.getD i.toNat (none, 0) = (f.val ((f.head.length : Int) + w + i), ts f.tail ((w : Int) + i) * r) := by
      refine getD_of ?_
      unfold stF
      rw [List.getElem?_map, List.getElem?_range (by omega)]
      show some (f.val ((f.head.length : Int) + w + (i.toNat : Nat)), ts f.tail ((w : Int) + (i.toNat : Nat)) * r) = _
      rw [show ((i.toNat : Nat) : Int) = i by omega]
    rw [e3, val_tv (by omega : (f.head.length : Int) ≤ x)]
    have e4 : x - f.head.length = (w + i) + f.tail.length * (r * m) := by
      have e5 : ((f.tail.length * r : Nat) : Int) * m = f.tail.length * (r * m) := by rw [Int.natCast_mul, Int.mul_assoc]
      rw [e5] at e
      omega
    rw [e4, tv_shift h0, val_tv (by omega : (f.head.length : Int) ≤ (f.head.length : Int) + w + i)]
    unfold tailVal
    rw [show (f.head.length : Int) + w + i - f.head.length = w + i by omega]
    simp only [Int.mul_assoc]
theorem val_bd {f : Frm} {n m : Nat} (h : FOk f n) {x : Int} (hx : x.natAbs ≤ 2 ^ m) (hm : 18 ≤ m) : bdO (n + m + 2) (f.val x) := by
  intro i e
  have h3 : 2 ^ 18 ≤ 2 ^ m := two_pow_le hm
  have h4 : (2 : Nat) ^ 18 = 262144 := by decide
  by_cases h1 : x < 0
  · unfold Frm.val at e; rw [if_pos h1] at e; cases e
  by_cases h2 : x < f.head.length
  · unfold Frm.val at e
    rw [if_neg h1, if_pos h2] at e
    have hj : x.toNat < f.head.length := by omega
    rw [getD_of (List.getElem?_eq_getElem hj)] at e
    exact Nat.lt_of_lt_of_le (h.hd _ (List.getElem_mem hj) i e) (two_pow_le (by omega))
  · rw [val_tv (by omega)] at e
    exact Nat.lt_of_lt_of_le (tv_bd h.tk (m := m) (k := x - f.head.length) (by omega) i e) (two_pow_le (by omega))
theorem stF_ok {f : Frm} {n w r : Nat} (h : FOk f n) (hr : 0 < r) (hr2 : r ≤ 1000) (h1 : f.head.length + w ≤ 20000) (h2 : f.tail.length * r ≤ 40000) : FOk (stF f w r) (n + 40) := by
  have h0 := h.tk.t0
  have hp : 0 < f.tail.length * r := Nat.mul_pos h0 hr
  have h4 : (2 : Nat) ^ 18 = 262144 := by decide
  refine ⟨⟨?_, ?_, fun p hq => ?_, by have := h.tk.n0; omega⟩, ?_, fun v hv => ?_⟩
  · show 0 < ((List.range _).map _).length; rw [List.length_map, List.length_range]; exact hp
  · show ((List.range _).map _).length ≤ _; rw [List.length_map, List.length_range]; omega
  · obtain ⟨i, hi, rfl⟩ := List.mem_map.mp hq
    have hi := List.mem_range.mp hi
    refine ⟨fun j e => ?_, ?_, fun e => ?_⟩
    · exact Nat.lt_of_lt_of_le (val_bd h (m := 18) (x := (f.head.length : Int) + w + i) (by omega) (by omega) j e) (two_pow_le (by omega))
    · show (ts f.tail ((w : Int) + i) * r).natAbs < _
      rw [Int.natAbs_mul]
      exact Nat.lt_of_lt_of_le (nat_mul_lt (y := 10) (tailAt_bd h.tk _).2.1 (by omega)) (two_pow_le (by omega))
    · have e : f.val ((f.head.length : Int) + w + i) = none := e
      rw [val_tv (by omega)] at e
      show ts f.tail ((w : Int) + i) * r = 0
      rw [show (w : Int) + i = (f.head.length : Int) + w + i - f.head.length by omega, ts_none h.tk e]; simp
  · show ((List.range _).map _).length ≤ _; rw [List.length_map, List.length_range]; omega
  · obtain ⟨i, hi, rfl⟩ := List.mem_map.mp hv
    have hi := List.mem_range.mp hi
    exact fun j e => Nat.lt_of_lt_of_le (val_bd h (m := 18) (x := (i : Int)) (by omega) (by omega) j e) (two_pow_le (by omega))
theorem tailAt_mem {t : Tl} (h : 0 < t.length) (k : Int) : tailAt t k ∈ t := by
  have i0 : 0 ≤ k % t.length := Int.emod_nonneg _ (by omega)
  have i1 : k % t.length < t.length := Int.emod_lt_of_pos _ (by omega)
  unfold tailAt
  rw [getD_of (List.getElem?_eq_getElem (by omega))]
  exact List.getElem_mem _

theorem val_shift {f : Frm} (h0 : 0 < f.tail.length) {y m : Int} (hy : f.head.length ≤ y) (m0 : 0 ≤ m) : f.val (y + f.tail.length * m) = (f.val y).map (· + ts f.tail (y - f.head.length) * m) := by
  have : 0 ≤ f.tail.length * m := Int.mul_nonneg (by omega) m0
  rw [val_tv (by omega), val_tv hy, show y + f.tail.length * m - f.head.length = y - f.head.length + f.tail.length * m by omega, tv_shift h0]
theorem p602 : (2 : Nat) ^ 602 = 4 * 2 ^ 600 := by rw [show 602 = 600 + 2 from rfl, Nat.pow_add, Nat.mul_comm]
theorem p604 : (2 : Nat) ^ 604 = 16 * 2 ^ 600 := by rw [show 604 = 600 + 4 from rfl, Nat.pow_add, Nat.mul_comm]
theorem pbig : 1000000000 < (2 : Nat) ^ 600 := Nat.lt_of_lt_of_le (by decide : 1000000000 < 2 ^ 30) (two_pow_le (by decide))
/-- x behind the head: its class and its round -/
theorem val_class {f : Frm} (h0 : 0 < f.tail.length) {x : Int} (hx : f.head.length ≤ x) : f.val x = (f.val (f.head.length + (x - f.head.length) % f.tail.length)).map (· + ts f.tail ((x - f.head.length) % f.tail.length) * ((x - f.head.length) / f.tail.length)) := by
  have i0 : 0 ≤ (x - f.head.length) % f.tail.length := Int.emod_nonneg _ (by omega)
  have e := Int.emod_add_mul_ediv (x - f.head.length) f.tail.length
  rw [val_tv hx, val_tv (by omega)]
  conv => lhs; rw [← e]
  rw [tv_shift h0]
  congr 2
  omega
theorem val_round {f : Frm} (h0 : 0 < f.tail.length) {k m : Int} (k0 : 0 ≤ k) (m0 : 0 ≤ m) : f.val (f.head.length + k + f.tail.length * m) = (f.val (f.head.length + k)).map (· + ts f.tail k * m) := by
  have : 0 ≤ f.tail.length * m := Int.mul_nonneg (by omega) m0
  rw [val_tv (by omega), val_tv (by omega)]
  rw [show (f.head.length : Int) + k + f.tail.length * m - f.head.length = k + f.tail.length * m by omega, tv_shift h0]
  congr 2
  omega
theorem tv_first {t : Tl} {k : Int} (k0 : 0 ≤ k) (k1 : k < t.length) : tv t k = (tailAt t k).1 := by
  unfold tv
  rw [Int.ediv_eq_zero_of_lt k0 k1]
  unfold tailVal
  cases (tailAt t k).1 <;> simp
theorem val_first {f : Frm} {k : Int} (k0 : 0 ≤ k) (k1 : k < f.tail.length) : f.val (f.head.length + k) = (tailAt f.tail k).1 := by
  rw [val_tv (by omega), show (f.head.length : Int) + k - f.head.length = k by omega, tv_first k0 k1]
theorem GoodF.ok {f : Frm} {a b : Nat} (h : GoodF f a b) (ha : a ≤ 100000) (hb : b ≤ 100000) (hs : ∀ v ∈ f.head, smallO v) : FOk f 100 :=
  ⟨⟨h.t0, Nat.le_trans h.tl hb, fun p hp => h.sm p hp, by decide⟩, Nat.le_trans h.hl ha, hs⟩
theorem FOk.mono {f : Frm} {n m : Nat} (h : FOk f n) (hn : n ≤ m) : FOk f m := ⟨h.tk.mono hn, h.hl, fun v hv i e => Nat.lt_of_lt_of_le (h.hd v hv i e) (two_pow_le hn)⟩
theorem val_neg {f : Frm} {x : Int} (h : x < 0) : f.val x = none := by unfold Frm.val; rw [if_pos h]
theorem val_nn {f : Frm} {y a : Int} (e : f.val y = some a) : 0 ≤ y := by
  by_cases q : 0 ≤ y
  · exact q
  · rw [val_neg (by omega)] at e; cases e

/-! == of forms -/
def pyO : Option Int → PyData
  | none => .none
  | some i => .int i
def pyP (p : Option Int × Int) : PyData := .tuple [pyO p.1, .int p.2]
def pyF (f : Frm) : PyData := .tuple [.tuple (f.head.map pyO), .tuple (f.tail.map pyP)]
theorem pyAll_O : ∀ xs : List (Option Int), pyAll (xs.map encO) = some (xs.map pyO)
  | [] => rfl
  | x :: xs => by
    have h := pyAll_O xs
    rw [List.map_cons, List.map_cons]
    cases x <;> simp [pyAll, encO, D.py, pyO, h]
theorem pyAll_P : ∀ xs : Tl, pyAll (xs.map encP) = some (xs.map pyP)
  | [] => rfl
  | (v, s) :: xs => by
    have h := pyAll_P xs
    rw [List.map_cons, List.map_cons]
    cases v <;> simp [pyAll, encP, encO, D.py, pyP, pyO, h]
theorem py_enc (f : Frm) : f.enc.py = some (pyF f) := by
  unfold Frm.enc pyF
  simp [D.py, pyAll, pyAll_O, pyAll_P]
theorem lay_O : ∀ xs : List (Option Int), PyData.canLayAll0 (xs.map pyO) = true ∧ PyData.depthAll (xs.map pyO) ≤ 1
  | [] => by simp [PyData.canLayAll0, PyData.depthAll]
  | x :: xs => by
    have h := lay_O xs
    cases x <;> simp [PyData.canLayAll0, PyData.depthAll, pyO, PyData.canLay0, PyData.depth, h.1, h.2]
theorem lay_P : ∀ xs : Tl, PyData.canLayAll0 (xs.map pyP) = true ∧ PyData.depthAll (xs.map pyP) ≤ 2
  | [] => by simp [PyData.canLayAll0, PyData.depthAll]
  | (v, s) :: xs => by
    have h := lay_P xs
    cases v <;> simp [PyData.canLayAll0, PyData.depthAll, pyP, pyO, PyData.canLay0, PyData.depth, h.1] <;> omega
theorem shaped_F (f : Frm) : SeqAt.shaped (pyF f) = true := by
  have h1 := lay_O f.head
  have h2 := lay_P f.tail
  simp [SeqAt.shaped, pyF, PyData.canLay0, PyData.canLayAll0, PyData.depth, PyData.depthAll, h1.1, h2.1]
  omega
theorem beq_dec (a b : Int) : (a == b) = decide (a = b) := by
  by_cases h : a = b
  · subst h; simp
  · rw [decide_eq_false h]; simpa using h
theorem eqvAll_O : ∀ xs ys : List (Option Int), PyData.eqvAll (xs.map pyO) (ys.map pyO) = decide (xs = ys)
  | [], [] => by simp [PyData.eqvAll]
  | [], _ :: _ => by simp [PyData.eqvAll]
  | _ :: _, [] => by simp [PyData.eqvAll]
  | x :: xs, y :: ys => by
    have h := eqvAll_O xs ys
    cases x <;> cases y <;> simp [PyData.eqvAll, pyO, PyData.eqv, h, beq_dec]
theorem eqvAll_P : ∀ xs ys : Tl, PyData.eqvAll (xs.map pyP) (ys.map pyP) = decide (xs = ys)
  | [], [] => by simp [PyData.eqvAll]
  | [], _ :: _ => by simp [PyData.eqvAll]
  | _ :: _, [] => by simp [PyData.eqvAll]
  | (v, s) :: xs, (w, t) :: ys => by
    have h := eqvAll_P xs ys
    cases v <;> cases w <;> simp [PyData.eqvAll, pyP, pyO, PyData.eqv, h, beq_dec, Bool.and_assoc]
instance : DecidableEq Frm := fun f g => decidable_of_iff (f.head = g.head ∧ f.tail = g.tail) (by obtain ⟨a, b⟩ := f; obtain ⟨c, d⟩ := g; simp)
theorem eqv_F (f g : Frm) : PyData.eqv (pyF f) (pyF g) = decide (f = g) := by
  obtain ⟨a, b⟩ := f
  obtain ⟨c, d⟩ := g
  have e : decide ((⟨a, b⟩ : Frm) = ⟨c, d⟩) = (decide (a = c) && decide (b = d)) := by
    rw [← Bool.decide_and]
    exact decide_eq_decide.mpr (by simp)
  rw [e]
  simp [pyF, PyData.eqv, PyData.eqvAll, eqvAll_O, eqvAll_P]
theorem s_eqF {f g : Frm} {M : Mp} {Q : QD} (h : Q (.bl (decide (f = g))) M) : dEq f.enc g.enc M Q := by
  refine s_eqD (p := pyF f) (q := pyF g) rfl (py_enc f) (py_enc g) (shaped_F f) (shaped_F g) ?_
  rw [eqv_F]; exact h
theorem scal_O (u w : Option Int) : scalD (encO u) (encO w) = some (decide (u = w)) := by
  cases u <;> cases w <;> simp [encO, scalD]
theorem s_neF {f g : Frm} {M : Mp} {Q : QD} (h : Q (.bl (!decide (f = g))) M) : dNe f.enc g.enc M Q := by
  refine s_neDF (p := pyF f) (q := pyF g) rfl (py_enc f) (py_enc g) (shaped_F f) (shaped_F g) ?_
  rw [eqv_F]; exact h

/-! normal forms of one function are equal -/
def AL (t : Tl) (d : Int) : Prop := ∀ k, Lk t d k
theorem AL.neg {t : Tl} {d : Int} (h : AL t d) : AL t (-d) := fun k => by
  have := h (k + -d)
  unfold Lk at this ⊢
  rw [show k + -d + d = k by omega] at this
  rcases this with ⟨a, b⟩ | ⟨a, b, ha, hb, hs, hq⟩
  · exact .inl ⟨b, a⟩
  · refine .inr ⟨b, a, hb, ha, hs.symm, ?_⟩
    rw [← hs, Int.mul_neg, ← hq, ← Int.neg_mul]
    congr 1; omega
theorem AL.add {t : Tl} {d e : Int} (h : AL t d) (g : AL t e) : AL t (d + e) := fun k => by
  have a1 := h k
  have a2 := g (k + d)
  unfold Lk at a1 a2 ⊢
  rw [show k + d + e = k + (d + e) by omega] at a2
  rcases a1 with ⟨a, b⟩ | ⟨a, b, ha, hb, hs, hq⟩
  · rcases a2 with ⟨c, c2⟩ | ⟨c, c2, hc, _, _, _⟩
    · exact .inl ⟨a, c2⟩
    · rw [b] at hc; cases hc
  · rcases a2 with ⟨c, c2⟩ | ⟨c, c2, hc, hc2, hs2, hq2⟩
    · rw [hb] at c; cases c
    · rw [hb] at hc; cases hc
      refine .inr ⟨a, c2, ha, hc2, by rw [hs, hs2], ?_⟩
      rw [Int.mul_add, ← hq, hs, ← hq2, ← Int.add_mul]
      congr 1; omega
theorem AL.zero {t : Tl} : AL t 0 := fun k => by
  unfold Lk
  rw [Int.add_zero]
  cases e : tv t k with
  | none => exact .inl ⟨rfl, rfl⟩
  | some a => exact .inr ⟨a, a, rfl, rfl, rfl, by simp⟩
theorem AL.mul {t : Tl} {d : Int} (h : AL t d) : ∀ n : Nat, AL t (d * n)
  | 0 => by rw [show d * ((0 : Nat) : Int) = 0 by simp]; exact .zero
  | n + 1 => by
    have := (AL.mul h n).add h
    rwa [show d * (n : Int) + d = d * ((n + 1 : Nat) : Int) by rw [Int.natCast_add, Int.mul_add]; simp] at this
theorem AL.gcd {t : Tl} (m n : Nat) : AL t m → AL t n → AL t (Nat.gcd m n : Nat) := by
  induction m, n using Nat.gcd.induction with
  | H0 n => intro _ h; rw [Nat.gcd_zero_left]; exact h
  | H1 m n h0 ih =>
    intro a b
    rw [Nat.gcd_rec]
    refine ih ?_ a
    have h := b.add (a.mul (n / m)).neg
    have e := Nat.mod_add_div n m
    have e2 : (n : Int) + -((m : Int) * ((n / m : Nat) : Int)) = ((n % m : Nat) : Int) := by
      rw [← Int.natCast_mul]; omega
    rwa [e2] at h
theorem AL.self {t : Tl} (h0 : 0 < t.length) : AL t t.length := fun k => by
  have h := tv_shift h0 k 1
  have h2 := ts_shift t k 1
  rw [Int.mul_one] at h h2
  unfold Lk
  rw [h, h2]
  cases e : tv t k with
  | none => exact .inl ⟨rfl, rfl⟩
  | some a => exact .inr ⟨a, _, rfl, rfl, rfl, by rw [Int.mul_one]; show (a + ts t k - a) * (t.length : Int) = _; congr 1; omega⟩
/-- two tails that tell the same far out tell the same everywhere -/
theorem tails_all {t u : Tl} (ht : 0 < t.length) (hu : 0 < u.length) {a b B : Int} (h : ∀ x, B ≤ x → tv t (x - a) = tv u (x - b)) (x : Int) :
    tv t (x - a) = tv u (x - b) ∧ (tv t (x - a) ≠ none → ts t (x - a) * u.length = ts u (x - b) * t.length) := by
  have key : ∀ m : Int, B ≤ x + t.length * u.length * m → (tv t (x - a)).map (· + ts t (x - a) * (u.length * m)) = (tv u (x - b)).map (· + ts u (x - b) * (t.length * m)) := fun m hm => by
    have e := h _ hm
    rw [show x + (t.length : Int) * u.length * m - a = x - a + t.length * (u.length * m) by rw [Int.mul_assoc]; omega, tv_shift ht] at e
    rw [show x + (t.length : Int) * u.length * m - b = x - b + u.length * (t.length * m) by rw [Int.mul_comm (t.length : Int) u.length, Int.mul_assoc]; omega, tv_shift hu] at e
    exact e
  have hp : (1 : Int) ≤ (t.length : Int) * u.length := by
    have := Int.mul_le_mul (show (1 : Int) ≤ t.length by omega) (show (1 : Int) ≤ u.length by omega) (by omega) (by omega)
    simpa using this
  have big : ∀ m : Int, 0 ≤ m → m ≤ (t.length : Int) * u.length * m := fun m m0 => by
    have := Int.mul_le_mul_of_nonneg_right hp m0
    omega
  have m0 : (0 : Int) ≤ ((B - x).toNat : Int) := by omega
  have k1 := key ((B - x).toNat : Int) (by have := big _ m0; omega)
  have k2 := key (((B - x).toNat : Int) + 1) (by have := big (((B - x).toNat : Int) + 1) (by omega); omega)
  generalize ((B - x).toNat : Int) = m at *
  cases e1 : tv t (x - a) with
  | none =>
    rw [e1] at k1
    cases e2 : tv u (x - b) with
    | none => exact ⟨rfl, fun z => absurd rfl z⟩
    | some c => rw [e2] at k1; cases k1
  | some c =>
    rw [e1] at k1 k2
    cases e2 : tv u (x - b) with
    | none => rw [e2] at k1; cases k1
    | some d =>
      rw [e2] at k1 k2
      have k1 : c + ts t (x - a) * (u.length * m) = d + ts u (x - b) * (t.length * m) := Option.some.inj k1
      have k2 : c + ts t (x - a) * (u.length * (m + 1)) = d + ts u (x - b) * (t.length * (m + 1)) := Option.some.inj k2
      rw [← Int.mul_assoc, ← Int.mul_assoc] at k1 k2
      rw [Int.mul_add, Int.mul_add, Int.mul_one, Int.mul_one] at k2
      have e : ts t (x - a) * u.length = ts u (x - b) * t.length := by omega
      rw [e] at k1
      exact ⟨by congr 1; omega, fun _ => e⟩
theorem AL.other {t u : Tl} (ht : 0 < t.length) (hu : 0 < u.length) {a b : Int} (h : ∀ x, tv t (x - a) = tv u (x - b) ∧ (tv t (x - a) ≠ none → ts t (x - a) * u.length = ts u (x - b) * t.length)) : AL t u.length := fun k => by
  obtain ⟨h1, h2⟩ := h (k + a)
  obtain ⟨h3, h4⟩ := h (k + a + u.length)
  rw [show k + a - a = k by omega] at h1 h2
  rw [show k + a + (u.length : Int) - a = k + u.length by omega, show k + a + (u.length : Int) - b = k + a - b + u.length * 1 by omega, tv_shift hu, ← h1] at h3
  rw [show k + a + (u.length : Int) - a = k + u.length by omega, show k + a + (u.length : Int) - b = k + a - b + u.length * 1 by omega, ts_shift] at h4
  unfold Lk
  cases e : tv t k with
  | none => rw [e] at h3; exact .inl ⟨rfl, h3⟩
  | some c =>
    rw [e] at h3
    have h2 := h2 (by rw [e]; exact fun z => by cases z)
    have h4 := h4 (by rw [h3]; exact fun z => by cases z)
    refine .inr ⟨c, _, rfl, h3, ?_, ?_⟩
    · rw [← h2] at h4
      exact (Int.eq_of_mul_eq_mul_right (by omega) h4).symm
    · rw [h2, Int.mul_one]; show (c + ts u (k + a - b) - c) * (t.length : Int) = _; congr 1; omega
theorem AL.hp {t : Tl} {q : Nat} (h : AL t q) : HP t q := fun k _ _ => h k
theorem tail_elt {t : Tl} {i : Nat} (h : i < t.length) : t[i] = (tv t i, ts t i) := by
  have e : tailAt t i = t[i] := by
    unfold tailAt
    rw [Int.emod_eq_of_lt (by omega) (by omega)]
    exact getD_of (List.getElem?_eq_getElem h)
  rw [tv_first (by omega) (by omega)]
  unfold ts
  rw [e]
theorem head_elt {f : Frm} {i : Nat} (h : i < f.head.length) : f.head[i] = f.val i := by
  unfold Frm.val
  rw [if_neg (by omega), if_pos (by omega)]
  exact (getD_of (List.getElem?_eq_getElem h)).symm
theorem norm_unique {f g : Frm} {n m : Nat} (hf : FOk f n) (hg : FOk g m) (nf : IsNorm f) (ng : IsNorm g) (hv : ∀ x, 0 ≤ x → f.val x = g.val x) : f = g := by
  have f0 := hf.tk.t0
  have g0 := hg.tk.t0
  have h1 : ∀ x, tv f.tail (x - f.head.length) = tv g.tail (x - g.head.length) ∧ (tv f.tail (x - f.head.length) ≠ none → ts f.tail (x - f.head.length) * g.tail.length = ts g.tail (x - g.head.length) * f.tail.length) :=
    tails_all (B := (f.head.length : Int) + g.head.length) f0 g0 fun x hx => by rw [← val_tv (by omega), ← val_tv (by omega)]; exact hv x (by omega)
  have h2 : ∀ x, tv g.tail (x - g.head.length) = tv f.tail (x - f.head.length) ∧ (tv g.tail (x - g.head.length) ≠ none → ts g.tail (x - g.head.length) * f.tail.length = ts f.tail (x - f.head.length) * g.tail.length) :=
    fun x => ⟨(h1 x).1.symm, fun z => ((h1 x).2 (by rw [(h1 x).1]; exact z)).symm⟩
  have d1 := (AL.gcd _ _ (AL.self f0) (AL.other f0 g0 h1)).hp
  have d2 := (AL.gcd _ _ (AL.other g0 f0 h2) (AL.self g0)).hp
  have gp : 0 < Nat.gcd f.tail.length g.tail.length := Nat.gcd_pos_of_pos_left _ f0
  have l1 : f.tail.length = Nat.gcd f.tail.length g.tail.length := by
    have := Nat.le_of_dvd f0 (Nat.gcd_dvd_left f.tail.length g.tail.length)
    by_cases l : Nat.gcd f.tail.length g.tail.length < f.tail.length
    · exact absurd d1 (nf.mn _ gp l (Nat.gcd_dvd_left _ _))
    · omega
  have l2 : g.tail.length = Nat.gcd f.tail.length g.tail.length := by
    have := Nat.le_of_dvd g0 (Nat.gcd_dvd_right f.tail.length g.tail.length)
    by_cases l : Nat.gcd f.tail.length g.tail.length < g.tail.length
    · exact absurd d2 (ng.mn _ gp l (Nat.gcd_dvd_right _ _))
    · omega
  have ll : f.tail.length = g.tail.length := l1.trans l2.symm
  have hh : f.head.length = g.head.length := by
    by_cases c : f.head.length < g.head.length
    · have := ng.hd (by omega)
      have e := hv ((g.head.length - 1 : Nat) : Int) (by omega)
      rw [val_tv (by omega), (h1 _).1, ← head_elt (f := g) (by omega)] at e
      rw [getD_of (List.getElem?_eq_getElem (by omega)), ← e] at this
      exact absurd (by congr 1; omega) this
    by_cases c2 : g.head.length < f.head.length
    · have := nf.hd (by omega)
      have e := (hv ((f.head.length - 1 : Nat) : Int) (by omega)).symm
      rw [val_tv (by omega), (h2 _).1, ← head_elt (f := f) (by omega)] at e
      rw [getD_of (List.getElem?_eq_getElem (by omega)), ← e] at this
      exact absurd (by congr 1; omega) this
    omega
  have eh : f.head = g.head := List.ext_getElem hh fun i i1 i2 => by rw [head_elt i1, head_elt i2]; exact hv _ (by omega)
  have et : f.tail = g.tail := List.ext_getElem ll fun i i1 i2 => by
    have a := h1 ((i : Int) + f.head.length)
    rw [show (i : Int) + f.head.length - f.head.length = i by omega, show (i : Int) + f.head.length - g.head.length = i by omega] at a
    rw [tail_elt i1, tail_elt i2, a.1]
    congr 1
    cases e : tv f.tail i with
    | none =>
      have e2 := e
      rw [a.1] at e2
      rw [ts_none hf.tk e, ts_none hg.tk e2]
    | some c =>
      have := a.2 (by rw [e]; exact fun z => by cases z)
      rw [ll] at this
      exact Int.eq_of_mul_eq_mul_right (by omega) this
  obtain ⟨a, b⟩ := f
  obtain ⟨c, d⟩ := g
  have eh : a = c := eh
  have et : b = d := et
  subst eh; subst et; rfl

theorem len_law_int : ∀ ds M Q E, sp_law_int ds M Q E → ds.length = 1 := by rintro _ _ _ _ ⟨_, rfl, _⟩; rfl
theorem rd_law_int : Rds t_law_int n_law_int sp_law_int := by
  rintro _ M Q E ⟨i, rfl, q⟩
  show t_law_int _ [some (.int i)] M
  unfold t_law_int
  walk_at "g"
  exact s_end q
theorem len_law_is_form : ∀ ds M Q E, sp_law_is_form ds M Q E → ds.length = 1 := by rintro _ _ _ _ ⟨_, rfl, _⟩; rfl
theorem rd_law_is_form : Rds t_law_is_form n_law_is_form sp_law_is_form := by
  rintro _ M Q E ⟨f, rfl, h0, hz, q⟩
  show t_law_is_form _ [some (.tup [.tup (f.head.map encO), .tup (f.tail.map encP)]), none, none] M
  unfold t_law_is_form
  walk_at "g"
  · rename_i hc
    exact absurd (rfl) hc
  · rename_i hc
    rw [List.length_map] at hc
    omega
  · · refine s_kforT (ds := f.head.map encO) (fun i τ M' => M' = M ∧ ∃ c, τ = [some (.tup [.tup (f.head.map encO), .tup (f.tail.map encP)]), c, none]) (fun _ => rfl) ⟨rfl, _, rfl⟩ (fun i d τ M' hd ⟨e, c, e2⟩ => ?_) (fun τ M' ⟨e, c, e2⟩ => ?_)
      · subst e; subst e2
        obtain ⟨v, _, rfl⟩ := List.mem_map.mp (List.mem_of_getElem? hd)
        refine s_gname ?_
        walk_at "g"
        rw [encO_isN]
        cases v with
        | none =>
          simp only [Option.isNone_none, Bool.not_true]
          walk_at "g"
          exact ⟨rfl, _, rfl⟩
        | some v =>
          simp only [Option.isNone_some, Bool.not_false]
          walk_at "g"
          refine ⟨v, rfl, ?_⟩
          walk_at "g"
          exact ⟨rfl, _, rfl⟩
      · subst e; subst e2
        walk_at "g"
        refine s_kforT (ds := f.tail.map encP) (fun i τ M2 => M2 = M' ∧ ∃ d, τ = [some (.tup [.tup (f.head.map encO), .tup (f.tail.map encP)]), c, d]) (fun _ => rfl) ⟨rfl, _, rfl⟩ (fun i d τ M2 hd ⟨e, c2, e2⟩ => ?_) (fun τ M2 ⟨e, c2, e2⟩ => ?_)
        · subst e; subst e2
          obtain ⟨⟨v, s⟩, hp, rfl⟩ := List.mem_map.mp (List.mem_of_getElem? hd)
          have hz := hz _ hp
          refine s_gname ?_
          rw [encP_mk]
          walk_at "g"
          · rename_i hc; exact absurd rfl hc
          · refine ⟨s, rfl, ?_⟩
            walk_at "g"
            rw [encO_isN]
            cases v with
            | none =>
              obtain rfl : s = 0 := hz rfl
              simp only [Option.isNone_none, encO]
              walk_at "g"
              · rename_i hc; exact absurd rfl hc
              · simp only [D.isN]
                walk_at "g"
                exact ⟨rfl, _, rfl⟩
            | some v =>
              simp only [Option.isNone_some, encO]
              walk_at "g"
              simp only [D.isN]
              walk_at "g"
              refine ⟨v, rfl, ?_⟩
              walk_at "g"
              exact ⟨rfl, _, rfl⟩
        · subst e; subst e2
          walk_at "g"
          exact s_end q
def AP3 : Option Int → Option Int → Option Int → Prop
  | none, none, none => True
  | some a, some b, some c => c - b = b - a
  | _, _, _ => False
theorem even_run {t : Tl} {s : Nat} {k x d : Int} (h : ∀ k : Int, 0 ≤ k → k < 2 * t.length → AP3 (tv t k) (tv t (k + s)) (tv t (k + 2 * s))) (k0 : 0 ≤ k) (e0 : tv t k = some x) (e1 : tv t (k + s) = some (x + d)) :
    ∀ j : Nat, k + s * (j : Int) < 2 * t.length → tv t (k + s * (j : Int)) = some (x + d * j) ∧ tv t (k + s * ((j + 1 : Nat) : Int)) = some (x + d * ((j + 1 : Nat) : Int))
  | 0, _ => by simpa using ⟨e0, e1⟩
  | j + 1, hl => by
    have e3 : (s : Int) * ((j + 1 : Nat) : Int) = s * (j : Int) + s := by rw [Int.natCast_add, Int.mul_add]; simp
    have e4 : (s : Int) * ((j + 1 + 1 : Nat) : Int) = s * (j : Int) + 2 * s := by rw [Int.natCast_add, Int.natCast_add, Int.mul_add, Int.mul_add]; simp; omega
    have e5 : d * ((j + 1 : Nat) : Int) = d * (j : Int) + d := by rw [Int.natCast_add, Int.mul_add]; simp
    have e6 : d * ((j + 1 + 1 : Nat) : Int) = d * (j : Int) + d + d := by rw [Int.natCast_add, Int.natCast_add, Int.mul_add, Int.mul_add]; simp
    rw [e3] at hl
    obtain ⟨a, b⟩ := even_run h k0 e0 e1 j (by omega)
    refine ⟨b, ?_⟩
    have h3 := h (k + s * (j : Int)) (by have : (0 : Int) ≤ s * (j : Int) := Int.mul_nonneg (by omega) (by omega); omega) (by omega)
    rw [e3, e5] at b
    rw [e4, e6]
    rw [a, show k + (s : Int) * (j : Int) + s = k + (s * (j : Int) + s) by omega, b, show k + (s : Int) * (j : Int) + 2 * s = k + (s * (j : Int) + 2 * s) by omega] at h3
    cases e7 : tv t (k + (s * (j : Int) + 2 * s)) with
    | none => rw [e7] at h3; exact h3.elim
    | some z =>
      rw [e7] at h3
      have h3 : z - (x + (d * j + d)) = x + (d * j + d) - (x + d * j) := h3
      congr 1; omega
theorem even_hp {t : Tl} {s : Nat} (h0 : 0 < t.length) (s0 : 0 < s) (hd : s ∣ t.length) (h : ∀ k : Int, 0 ≤ k → k < 2 * t.length → AP3 (tv t k) (tv t (k + s)) (tv t (k + 2 * s))) : HP t s := by
  obtain ⟨r, hr⟩ := hd
  intro k k0 k1
  have h3 := h k k0 (by omega)
  unfold Lk
  cases e0 : tv t k with
  | none =>
    cases e1 : tv t (k + s) with
    | none => exact .inl ⟨rfl, rfl⟩
    | some b => rw [e0, e1] at h3; exact h3.elim
  | some x =>
    cases e1 : tv t (k + s) with
    | none => rw [e0, e1] at h3; exact h3.elim
    | some b =>
      obtain ⟨d, rfl⟩ : ∃ d, b = x + d := ⟨b - x, by omega⟩
      have hrs : (t.length : Int) = s * (r : Int) := by rw [hr, Int.natCast_mul]
      obtain ⟨a1, a2⟩ := even_run h k0 e0 e1 r (by rw [← hrs]; omega)
      have t1 := tv_shift h0 k 1
      have t2 := tv_shift h0 (k + s) 1
      rw [Int.mul_one, Int.mul_one] at t1 t2
      rw [← hrs, t1, e0] at a1
      have e3 : (s : Int) * ((r + 1 : Nat) : Int) = s * (r : Int) + s := by rw [Int.natCast_add, Int.mul_add]; simp
      have e5 : d * ((r + 1 : Nat) : Int) = d * (r : Int) + d := by rw [Int.natCast_add, Int.mul_add]; simp
      rw [e3, e5, ← hrs, show k + ((t.length : Int) + s) = k + s + t.length by omega, t2, e1] at a2
      have a1 : x + ts t k = x + d * r := Option.some.inj a1
      have a2 : x + d + ts t (k + s) = x + (d * r + d) := Option.some.inj a2
      refine .inr ⟨x, x + d, rfl, rfl, by omega, ?_⟩
      rw [show ts t k = d * r by omega, hrs, show x + d - x = d by omega, Int.mul_assoc, Int.mul_comm (r : Int)]
theorem len_law_is_even : ∀ ds M Q E, sp_law_is_even ds M Q E → ds.length = 2 := by rintro _ _ _ _ ⟨_, _, _, rfl, _⟩; rfl
theorem rd_law_is_even : Rds t_law_is_even n_law_is_even sp_law_is_even := by
  rintro _ M Q E ⟨f, n, s, rfl, h, hn, s0, sd, q⟩
  show t_law_is_even _ [some (.tup [.tup (f.head.map encO), .tup (f.tail.map encP)]), some (.int s), none, none, none, none] M
  unfold t_law_is_even
  have h0 := h.tk.t0
  have k1 := h.hl
  have k2 := h.tk.tl
  have sl := Nat.le_of_dvd h0 sd
  have h40 : (2 : Nat) ^ 40 = 1099511627776 := by decide
  walk_at "g"
  simp only [List.length_map]
  refine s_mul (.inl (.inl (by decide))) ?_
  walk_at "g"
  refine s_kforR (fun i τ M' => M' = M ∧ (∀ k : Int, 0 ≤ k → k < i → AP3 (tv f.tail k) (tv f.tail (k + s)) (tv f.tail (k + 2 * s))) ∧ ∃ a b c d, τ = [some (.tup [.tup (f.head.map encO), .tup (f.tail.map encP)]), some (.int s), a, b, c, d]) ⟨rfl, fun k k0 k1 => by omega, _, _, _, _, rfl⟩ (fun i τ M' hi ⟨e, hk, a, b, c, d, e2⟩ => ?_) (fun τ M' ⟨e, hk, a, b, c, d, e2⟩ => ?_)
  · subst e; subst e2
    have hi : i < 2 * f.tail.length := by omega
    walk_at "g"
    refine h.val_at (m := 40) (by rw [h40]; omega) (by decide) (by omega) ?_
    walk_at "g"
    refine h.val_at (m := 40) (by rw [h40]; omega) (by decide) (by omega) ?_
    walk_at "g"
    refine s_mul (.inl (.inl (by decide))) ?_
    walk_at "g"
    refine h.val_at (m := 40) (by rw [h40]; omega) (by decide) (by omega) ?_
    rw [val_tv (by omega), val_tv (by omega), val_tv (by omega), show (f.head.length : Int) + i - f.head.length = i by omega, show (f.head.length : Int) + i + s - f.head.length = i + s by omega, show (f.head.length : Int) + i + 2 * s - f.head.length = i + 2 * s by omega]
    have next : AP3 (tv f.tail i) (tv f.tail (i + s)) (tv f.tail (i + 2 * s)) → ∀ k : Int, 0 ≤ k → k < ((i + 1 : Nat) : Int) → AP3 (tv f.tail k) (tv f.tail (k + s)) (tv f.tail (k + 2 * s)) := fun h k k0 k1 => by
      by_cases e : k = i
      · subst e; exact h
      · exact hk k k0 (by omega)
    generalize tv f.tail (i : Int) = u at *
    generalize tv f.tail ((i : Int) + s) = v at *
    generalize tv f.tail ((i : Int) + 2 * s) = w at *
    cases u <;> cases v <;> cases w <;> simp only [encO] <;> walk_at "g" <;> simp only [D.isN] <;> walk_at "g" <;> (try simp only [D.isN]) <;> walk_at "g" <;> (try simp only [D.isN]) <;> walk_at "g" <;> (try simp only [D.isN, Bool.not_true, Bool.not_false]) <;> walk_at "g" <;> (try simp only [D.isN, Bool.not_true, Bool.not_false]) <;> walk_at "g" <;> (try simp only [D.isN, Bool.not_true, Bool.not_false]) <;> walk_at "g" <;> first
      | exact s_end (q false fun e => by cases e)
      | exact ⟨by trivial, next trivial, _, _, _, _, rfl⟩
      | (rename_i hc; exact ⟨by trivial, next (show _ - _ = _ - _ by simpa using hc), _, _, _, _, rfl⟩)
  · subst e; subst e2
    walk_at "g"
    exact s_end (q true fun _ => even_hp h0 s0 sd fun k k0 k1 => hk k k0 (by omega))
theorem len_law_is_normal : ∀ ds M Q E, sp_law_is_normal ds M Q E → ds.length = 1 := by rintro _ _ _ _ ⟨_, _, rfl, _⟩; rfl
theorem rd_law_is_normal : Rds t_law_is_normal n_law_is_normal sp_law_is_normal := by
  rintro _ M Q E ⟨f, n, rfl, h, hn, nf, q⟩
  show t_law_is_normal _ [some (.tup [.tup (f.head.map encO), .tup (f.tail.map encP)]), none, none, none] M
  unfold t_law_is_normal
  have h0 := h.tk.t0
  have k1 := h.hl
  have k2 := h.tk.tl
  walk_at "g"
  refine ⟨f, rfl, h0, fun p hp => (h.tk.th p hp).2.2, ?_⟩
  walk_at "g"
  simp only [List.length_map]
  refine s_kforR (fun i τ M' => M' = M ∧ ∃ a, τ = [some (.tup [.tup (f.head.map encO), .tup (f.tail.map encP)]), a, none, none]) ⟨rfl, _, rfl⟩ (fun i τ M' hi ⟨e, a, e2⟩ => ?_) (fun τ M' ⟨e, a, e2⟩ => ?_)
  · subst e; subst e2
    have hi : i + 1 < f.tail.length := by omega
    rw [show (1 : Int) + i = ((i + 1 : Nat) : Int) by omega]
    walk_at "g"
    simp only [List.length_map]
    refine s_I (by omega) ?_
    walk_at "g"
    · rename_i hd
      have hd : (i + 1) ∣ f.tail.length := by
        have : ((f.tail.length % (i + 1) : Nat) : Int) = 0 := by rw [← hd]; rfl
        exact Nat.dvd_of_mod_eq_zero (by omega)
      refine ⟨f, n, i + 1, rfl, h, hn, by omega, hd, fun b hb => ?_⟩
      cases b with
      | true => exact absurd (hb rfl) (nf.mn _ (by omega) hi hd)
      | false =>
        walk_at "g"
        exact ⟨rfl, _, rfl⟩
    · exact ⟨rfl, _, rfl⟩
  · subst e; subst e2
    walk_at "g"
    · exact s_end q
    · rename_i hc
      simp only [List.length_map] at hc ⊢
      have hl : 0 < f.head.length := by omega
      have nh := nf.hd hl
      have eix : ((f.tail.length : Int) - 1) % f.tail.length = f.tail.length - 1 := Int.emod_eq_of_lt (by omega) (by omega)
      have et : tailAt f.tail (-1) = tailAt f.tail ((f.tail.length : Int) - 1) := by
        rw [show (f.tail.length : Int) - 1 = -1 + f.tail.length * 1 by omega, tailAt_shift]
      have ed : (-1 : Int) / f.tail.length = -1 := by
        have := Int.add_mul_ediv_left (-1 + (f.tail.length : Int)) (-1) (show (f.tail.length : Int) ≠ 0 by omega)
        rw [show (-1 : Int) + f.tail.length + f.tail.length * -1 = -1 by omega, show (-1 + (f.tail.length : Int)) / f.tail.length = 0 from Int.ediv_eq_zero_of_lt (by omega) (by omega)] at this
        omega
      have etv : tv f.tail (-1) = (tailAt f.tail ((f.tail.length : Int) - 1)).1.map fun v => v - (tailAt f.tail ((f.tail.length : Int) - 1)).2 := by
        unfold tv
        rw [et, ed]
        unfold tailVal
        congr 1; funext v
        omega
      refine s_ix (d := encP (tailAt f.tail ((f.tail.length : Int) - 1))) rfl (by rw [atI_toNat (by omega), tail_ix h.tk (by omega) (by omega)]) ?_
      rw [etv] at nh
      generalize tailAt f.tail ((f.tail.length : Int) - 1) = pr at *
      obtain ⟨v, s⟩ := pr
      rw [encP_mk]
      walk_at "g"
      rw [encO_isN]
      have hix : atI (f.head.map encO) ((f.head.length : Int) - 1) = some (encO (f.head.getD (f.head.length - 1) none)) := by
        rw [atI_toNat (by omega), List.getElem?_map, show ((f.head.length : Int) - 1).toNat = f.head.length - 1 by omega, List.getElem?_eq_getElem (by omega), getD_of (List.getElem?_eq_getElem (by omega))]; rfl
      cases v with
      | none =>
        simp only [Option.isNone_none, Bool.not_true]
        walk_at "g"
        simp only [List.length_map]
        refine s_ix (d := encO (f.head.getD (f.head.length - 1) none)) rfl hix ?_
        walk_at "g"
        refine s_neS (scal_O _ none) ?_
        rw [decide_eq_false (show ¬ f.head.getD (f.head.length - 1) none = none from nh)]
        exact s_end q
      | some v =>
        simp only [Option.isNone_some, Bool.not_false]
        rw [show encO (some v) = .int v from rfl]
        walk_at "g"
        simp only [List.length_map]
        refine s_ix (d := encO (f.head.getD (f.head.length - 1) none)) rfl hix ?_
        walk_at "g"
        refine s_neS (scal_O _ (some (v - s))) ?_
        rw [decide_eq_false (show ¬ f.head.getD (f.head.length - 1) none = some (v - s) from nh)]
        exact s_end q

theorem len_law_far : ∀ ds M Q E, sp_law_far ds M Q E → ds.length = 1 := by rintro _ _ _ _ ⟨a, rfl, _⟩; rfl
theorem rd_law_far : Rds t_law_far n_law_far sp_law_far := by
  rintro _ M Q E ⟨a, rfl, hs, q⟩
  show t_law_far _ [some (.ref a), none, none] M
  unfold t_law_far
  walk_at "g"
  refine ⟨a, 1000, rfl, by decide, by decide, hs, fun d M1 h0 h1 D1 => ?_⟩
  walk_at "g"
  refine ⟨a, 9, rfl, by decide, by decide, D1.ok, fun n M2 g0 g1 D2 => ?_⟩
  walk_at "g"
  refine s_kr1 (by omega) (by omega) ?_
  refine s_kforR (fun i τ M' => ∃ x y, τ = [some (.ref a), some (.int x), y] ∧ 0 ≤ x ∧ x < 1000 * 1010 ^ i ∧ Drawn M a M') ⟨d, none, rfl, h0, by simpa using h1, D1.trans D2⟩ (fun i τ M' hi ⟨x, y, e, x0, x1, D3⟩ => ?_) (fun τ M' ⟨x, y, e, x0, x1, D3⟩ => ?_)
  · subst e
    show dSet 1 _ _ [some (.ref a), some (.int x), some (.int (0 + i))] M'
    walk_at "g"
    refine s_mul (.inl (.inr (by decide))) ?_
    walk_at "g"
    refine ⟨a, 1000, rfl, by decide, by decide, D3.ok, fun e M4 e0 e1 D4 => ?_⟩
    walk_at "g"
    refine ⟨_, _, rfl, by omega, ?_, D3.trans D4⟩
    have : (1000 : Int) * 1010 ^ (i + 1) = 1010 * (1000 * 1010 ^ i) := by rw [Int.pow_succ]; omega
    rw [this]
    have h1 : (0 : Int) < 1010 ^ i := Int.pow_pos (by decide)
    omega
  · subst e
    walk_at "g"
    refine s_end (q _ _ x0 ?_ D3)
    have hn : n.toNat ≤ 8 := by omega
    have : (1010 : Int) ^ n.toNat ≤ 1010 ^ 8 := ipow_le (a := 1010) hn (by decide)
    have e8 : (1000 : Int) * 1010 ^ 8 < 2 ^ 190 := by decide
    omega

theorem s_klcFil {plain : Bool} {is vs : List Nat} {fin : List D → Mp → QD → Prop} {tt : DT} {te : DE} {τ : SD} {M : Mp} {Q : QD} {x : D} {α : Type} {xs : List α} (enc : α → D) (p : α → Bool) (f : α → D) (hx : ∀ M, sqOf M x = some (xs.map enc)) (hl : xs.length ≤ sizeLine)
    (hs : ∀ a ∈ xs, ∃ τ2, bindD plain is (enc a) (wipeD τ vs) = some τ2 ∧ (∀ QB : Bool → Mp → Prop, QB (p a) M → tt τ2 M QB) ∧ ∀ Q : QD, p a = true → Q (f a) M → te τ2 M Q) (hd : fin ((xs.filter p).map f) M Q) : kLc fin plain is vs tt te τ Q (itSeq x (xs.map enc)) M := by
  refine ⟨fun i acc M' => M' = M ∧ acc = ((xs.take i).filter p).map f, ⟨rfl, rfl⟩, fun i acc M' hi p => hx M', fun i acc M' hi pp => ?_, fun acc M' pp => ?_⟩
  · obtain ⟨rfl, rfl⟩ := pp
    have hi : i < (xs.map enc).length := hi
    rw [List.length_map] at hi
    have e := List.getElem?_eq_getElem hi
    obtain ⟨τ2, e2, k1, k2⟩ := hs xs[i] (List.getElem_mem hi)
    have e3 : (itSeq x (xs.map enc)).at' i = enc xs[i] := getD_of (by rw [List.getElem?_map, e]; rfl)
    have e4 : xs.take (i + 1) = xs.take i ++ [xs[i]] := by rw [List.take_succ, e]; rfl
    rw [e3, e2]
    refine k1 _ ?_
    cases hp : p xs[i] with
    | true =>
      rw [if_pos rfl]
      refine k2 _ hp ⟨?_, rfl, ?_⟩
      · rw [List.length_map]
        have := List.length_filter_le p (xs.take i)
        rw [List.length_take] at this
        omega
      · rw [e4, List.filter_append, List.map_append]
        simp [hp]
    | false =>
      rw [if_neg Bool.false_ne_true]
      refine ⟨rfl, ?_⟩
      rw [e4, List.filter_append, List.map_append]
      simp [hp]
  · obtain ⟨rfl, rfl⟩ := pp
    have e : xs.take (itSeq x (xs.map enc)).n = xs := List.take_of_length_le (by show _ ≤ (xs.map enc).length; rw [List.length_map]; exact Nat.le_refl _)
    rw [e]
    exact hd

theorem len_first_of_class : ∀ ds M Q E, sp_first_of_class ds M Q E → ds.length = 3 := by rintro _ _ _ _ ⟨_, _, _, rfl, _⟩; rfl
theorem rd_first_of_class : Rds t_first_of_class n_first_of_class sp_first_of_class := by
  rintro _ M Q E ⟨r, l, p, rfl, hp, q⟩
  show t_first_of_class _ [some (.int r), some (.int l), some (.int p)] M
  unfold t_first_of_class
  walk_at "g"
  refine s_I hp ?_
  walk_at "g"
  exact s_end q
theorem len_line (C : Ct) : ∀ ds M Q E, sp_line C ds M Q E → ds.length = 3 := by rintro _ _ _ _ ⟨_, _, _, _, _, rfl, _⟩; rfl
theorem rd_line (C : Ct) : Rds (t_line C) n_line (sp_line C) := by
  rintro _ M Q E ⟨p, start, d, v, P, rfl, hp, h0, hf, hP, hs, q⟩
  show t_line C _ [some (.int p), some d, some (.int start), none, none, none, none] M
  unfold t_line
  have loop : ∀ s, (∀ a b, v start = some a → v (start + p) = some b → s = b - a) → (v start = none → s = 0) → t_line_c4 C (fnE Q) [some (.int p), some d, some (.int start), some (.int start), some (encO (v start)), some (.int s), none] M := by
    intro s s1 s0
    unfold t_line_c4
    walk_at "g"
    refine s_while (fun m τ M' => M' = M ∧ ∃ x w, (m : Int) = x ∧ (∃ j : Int, 0 ≤ j ∧ start = x + p * j) ∧ (∀ j : Int, 0 ≤ j → x + p * j ≤ start → v (x + p * j) = (v x).map (· + s * j)) ∧ τ = [some (.int p), some d, some (.int start), some (.int x), some (encO (v x)), some (.int s), w]) start.toNat
      ⟨rfl, start, _, by omega, ⟨0, by decide, by omega⟩, fun j j0 jl => ?_, rfl⟩ (fun m τ M' ⟨e, x, w, hm, ⟨j, j0, ej⟩, run, e2⟩ => ?_)
    · have : p * j ≤ 0 := by omega
      have j1 : j = 0 := by
        by_cases z : j = 0
        · exact z
        · have := Int.mul_pos hp (show 0 < j by omega); omega
      subst j1
      rw [show start + p * 0 = start by omega]
      cases v start with
      | none => rfl
      | some a => show some a = some (a + s * 0); congr 1; omega
    · subst e; subst e2
      have xl : x ≤ start := by have := Int.mul_nonneg (show 0 ≤ p by omega) j0; omega
      have fin : (x < p ∨ v (x - p) ≠ (v x).map (· - s)) → rtQ Q (D.tup [.int x, encO (v x), .int s]) M' := fun stop => s_end (q x s ⟨by omega, ⟨j, j0, ej⟩, run, stop, s1, s0⟩)
      walk_at "g"
      · rename_i hc
        have du : ∀ QQ : QD, QQ (encO ((v x).map (· - s))) M' → dIf (dTest (dOp dIsN (dVar 4) (dC .non))) (dC .non) (dOp dSub (dVar 4) (dVar 5)) [some (.int p), some d, some (.int start), some (.int x), some (encO (v x)), some (.int s), w] M' QQ := fun QQ k => by
          walk_at "g"
          rw [encO_isN]
          cases e : v x with
          | none =>
            rw [e] at k
            simp only [Option.isNone_none]
            refine s_kifE (fun _ => ?_) (fun z => by cases z)
            walk_at "g"
            exact k
          | some a =>
            rw [e] at k
            simp only [Option.isNone_some]
            refine s_kifE (fun z => by cases z) (fun _ => ?_)
            rw [show encO (some a) = .int a from rfl]
            walk_at "g"
            exact k
        refine du _ ?_
        walk_at "g"
        refine s_callV _ rfl hf ?_
        walk_at "g"
        refine s_kcallV hf ⟨x - p, rfl, hP _ (by omega) (by omega), ?_⟩
        walk_at "g"
        refine s_neS (scal_O _ _) ?_
        walk_at "g"
        · rename_i hne
          exact fin (.inr hne)
        · rename_i heq
          have heq : v (x - p) = (v x).map (· - s) := by simpa using heq
          rw [← heq]
          refine ⟨(x - p).toNat, by omega, rfl, x - p, _, by omega, ⟨j + 1, by omega, by rw [Int.mul_add]; omega⟩, fun i i0 il => ?_, rfl⟩
          by_cases z : i = 0
          · subst z
            rw [show x - p + p * 0 = x - p by omega]
            cases v (x - p) <;> simp
          · have e1 : x - p + p * i = x + p * (i - 1) := by rw [Int.mul_sub]; omega
            rw [e1] at il ⊢
            rw [run (i - 1) (by omega) il, heq]
            cases v x with
            | none => rfl
            | some a =>
              show some _ = some _
              congr 1
              show a + s * (i - 1) = a - s + s * i
              rw [Int.mul_sub]; omega
      · exact fin (.inl (by omega))
  walk_at "g"
  refine s_callV _ rfl hf ?_
  walk_at "g"
  refine s_kcallV hf ⟨start, rfl, hP _ h0 (by omega), ?_⟩
  walk_at "g"
  rw [encO_isN]
  cases e : v start with
  | none =>
    have := loop 0 (fun a b ea => by rw [e] at ea; cases ea) (fun _ => rfl)
    rw [e] at this
    simp only [Option.isNone_none, Bool.not_true]
    walk_at "g"
    exact this
  | some a =>
    simp only [Option.isNone_some, Bool.not_false]
    walk_at "g"
    refine s_callV _ rfl hf ?_
    walk_at "g"
    refine s_kcallV hf ⟨start + p, rfl, hP _ (by omega) (by omega), ?_⟩
    cases eb : v (start + p) with
    | none => exact absurd eb (hs (by rw [e]; exact fun z => by cases z))
    | some b =>
      have := loop (b - a) (fun a' b' ea eb' => by rw [e] at ea; rw [eb] at eb'; cases ea; cases eb'; rfl) (fun z => by rw [e] at z; cases z)
      rw [e] at this
      simp only [encO] at this ⊢
      walk_at "g"
      exact this
/-- a line goes on for ever -/
theorem line_glob {v : Int → Option Int} {p start x s : Int} (hp : 0 < p) (hl : ∃ sl : Int, ∀ m, 0 ≤ m → v (start + p * m) = (v start).map (· + sl * m)) (h : LineR v p start x s) :
    ∀ j : Int, 0 ≤ j → v (x + p * j) = (v x).map (· + s * j) := by
  obtain ⟨sl, hl⟩ := hl
  obtain ⟨j0, j00, ej⟩ := h.cls
  intro j hj
  by_cases c : x + p * j ≤ start
  · exact h.run j hj c
  have hjj : j0 ≤ j := by
    by_cases z : j0 ≤ j
    · exact z
    · have := Int.mul_le_mul_of_nonneg_left (show j ≤ j0 by omega) (show 0 ≤ p by omega); omega
  have e1 : x + p * j = start + p * (j - j0) := by rw [Int.mul_sub]; omega
  have h1 := hl 1 (by decide)
  have h2 := hl (j - j0) (by omega)
  have h3 := h.run j0 j00 (by omega)
  rw [← ej] at h3
  rw [Int.mul_one, Int.mul_one] at h1
  rw [e1, h2, h3]
  cases e : v x with
  | none => rfl
  | some a =>
    rw [e] at h3
    have h3 : v start = some (a + s * j0) := h3
    rw [h3] at h1
    have hs := h.s1 _ _ h3 h1
    have hs : s = sl := by show s = sl; rw [hs]; show a + s * j0 + sl - (a + s * j0) = sl; omega
    rw [← hs]
    show some _ = some _
    congr 1
    show a + s * j0 + s * (j - j0) = a + s * j
    rw [Int.mul_sub]; omega
/-- .. and does not begin behind L by more than a round -/
theorem line_low {v : Int → Option Int} {p start x s L : Int} (hp : 0 < p) (hl : ∃ sl : Int → Int, ∀ x, L ≤ x → ∀ m, 0 ≤ m → v (x + p * m) = (v x).map (· + sl x * m)) (hL : L ≤ start) (h : LineR v p start x s) : x < p ∨ x - p < L := by
  rcases h.stop with z | z
  · exact .inl z
  · by_cases c : x - p < L
    · exact .inr c
    exfalso
    obtain ⟨sl, hl⟩ := hl
    have g := line_glob hp ⟨sl start, hl start hL⟩ h
    have h1 := hl (x - p) (by omega) 1 (by decide)
    have h2 := hl (x - p) (by omega) 2 (by decide)
    have g1 := g 1 (by decide)
    rw [Int.mul_one, show x - p + p = x by omega] at h1
    rw [show x - p + p * 2 = x + p * 1 by omega, g1] at h2
    refine z ?_
    cases e : v (x - p) with
    | none => rw [e] at h1; rw [h1]; rfl
    | some a =>
      rw [e] at h1 h2
      rw [h1] at h2 ⊢
      have h2 : a + sl (x - p) * 1 + s * 1 = a + sl (x - p) * 2 := Option.some.inj h2
      show some a = some (a + sl (x - p) * 1 - s)
      congr 1; omega
def asmT (v : Int → Option Int) (len : Nat) (p : Nat) (ln : List (Int × Int)) : Tl := (List.range p).map fun i : Nat => (v ((len : Int) + i), if v ((len : Int) + i) = none then 0 else (ln.getD ((((len : Int) + i) % p).toNat) (0, 0)).2)
theorem val_asm {v : Int → Option Int} {len p : Nat} {ln : List (Int × Int)} (hp : 0 < p) (hg : ∀ i : Nat, i < p → ∀ m : Int, 0 ≤ m → v ((len : Int) + i + p * m) = (v ((len : Int) + i)).map (· + (ln.getD ((((len : Int) + i) % p).toNat) (0, 0)).2 * m)) (x : Int) (x0 : 0 ≤ x) :
    Frm.val ⟨(List.range len).map fun i : Nat => v i, asmT v len p ln⟩ x = v x := by
  have l1 : ((List.range len).map fun i : Nat => v i).length = len := by rw [List.length_map, List.length_range]
  have l2 : (asmT v len p ln).length = p := by unfold asmT; rw [List.length_map, List.length_range]
  by_cases h : x < len
  · unfold Frm.val
    simp only [l1]
    rw [if_neg (by omega), if_pos h]
    refine getD_of ?_
    rw [List.getElem?_map, List.getElem?_range (by omega)]
    show some (v ((x.toNat : Nat) : Int)) = _
    rw [show ((x.toNat : Nat) : Int) = x by omega]
  · rw [val_tv (by simp only [l1]; omega)]
    simp only [l1]
    unfold tv tailAt
    simp only [l2]
    have i0 : 0 ≤ (x - len) % (p : Int) := Int.emod_nonneg _ (by omega)
    have i1 : (x - len) % (p : Int) < p := Int.emod_lt_of_pos _ (by omega)
    have m0 : 0 ≤ (x - len) / (p : Int) := Int.ediv_nonneg (by omega) (by omega)
    have e := Int.emod_add_mul_ediv (x - len) p
    generalize (x - len) % (p : Int) = i at *
    generalize (x - len) / (p : Int) = m at *
    obtain ⟨k, rfl⟩ : ∃ k : Nat, i = k := ⟨i.toNat, by omega⟩
    have g := hg k (by omega) m m0
    rw [show (len : Int) + k + p * m = x by omega] at g
    rw [g]
    have et : (asmT v len p ln).getD ((k : Int)).toNat (none, 0) = (v ((len : Int) + k), if v ((len : Int) + k) = none then 0 else (ln.getD ((((len : Int) + k) % p).toNat) (0, 0)).2) := by
      refine getD_of ?_
      unfold asmT
      rw [show ((k : Int)).toNat = k by omega, List.getElem?_map, List.getElem?_range (by omega)]; rfl
    rw [et]
    unfold tailVal
    cases ev : v ((len : Int) + k) with
    | none => rfl
    | some a => simp
def encL (v : Int → Option Int) (q : Int × Int) : D := .tup [.int q.1, encO (v q.1), .int q.2]
/-- a line that begins late: no form has a shorter head -/
theorem line_far {v : Int → Option Int} {p start x s : Int} {g : Frm} (hp : 0 < p) (hl : ∃ sl : Int, ∀ m, 0 ≤ m → v (start + p * m) = (v start).map (· + sl * m)) (h : LineR v p start x s) (hx : p ≤ x) (g0 : 0 < g.tail.length) (hv : ∀ x, 0 ≤ x → g.val x = v x) : x - p + 1 ≤ g.head.length := by
  by_cases c : x - p + 1 ≤ g.head.length
  · exact c
  exfalso
  have gl := line_glob hp hl h
  rcases h.stop with z | z
  · omega
  refine z ?_
  have T0 : (0 : Int) < g.tail.length := by omega
  have s1 := val_shift g0 (f := g) (y := x - p) (m := p) (by omega) (by omega)
  have s2 := val_shift g0 (f := g) (y := x - p) (m := p * 2) (by omega) (by omega)
  have e1 : x - p + g.tail.length * p = x + p * (g.tail.length - 1) := by rw [Int.mul_sub, Int.mul_comm p]; omega
  have e2 : x - p + g.tail.length * (p * 2) = x + p * (g.tail.length * 2 - 1) := by
    rw [Int.mul_sub, ← Int.mul_assoc, Int.mul_comm _ p, Int.mul_assoc]; omega
  have n1 : 0 ≤ p * ((g.tail.length : Int) - 1) := Int.mul_nonneg (by omega) (by omega)
  have n2 : 0 ≤ p * ((g.tail.length : Int) * 2 - 1) := Int.mul_nonneg (by omega) (by omega)
  rw [e1, hv _ (by omega), hv _ (by omega), gl _ (by omega)] at s1
  rw [e2, hv _ (by omega), hv _ (by omega), gl _ (by omega)] at s2
  generalize ts g.tail (x - p - g.head.length) = c2 at *
  cases ex : v x with
  | none =>
    rw [ex] at s1
    cases ey : v (x - p) with
    | none => rfl
    | some b => rw [ey] at s1; cases s1
  | some a =>
    rw [ex] at s1 s2
    cases ey : v (x - p) with
    | none => rw [ey] at s1; cases s1
    | some b =>
      rw [ey] at s1 s2
      have s1 : a + s * ((g.tail.length : Int) - 1) = b + c2 * p := Option.some.inj s1
      have s2 : a + s * ((g.tail.length : Int) * 2 - 1) = b + c2 * (p * 2) := Option.some.inj s2
      rw [Int.mul_sub] at s1 s2
      rw [← Int.mul_assoc] at s2
      rw [← Int.mul_assoc c2] at s2
      show some b = some (a - s)
      congr 1
      omega
theorem len_assemble (C : Ct) : ∀ ds M Q E, sp_assemble C ds M Q E → ds.length = 3 := by rintro _ _ _ _ ⟨_, _, _, _, _, _, _, _, rfl, _⟩; rfl
theorem rd_assemble (C : Ct) : RdsX (t_assemble C) n_assemble (sp_assemble C) := by
  rintro _ M Q E ⟨p, d, st, starts, v, P, B, n, rfl, hst, h, q, qe⟩
  show t_assemble C E _ [some (.int p), some d, some st, none, none, none, none, none, none, none, none, none] M
  unfold t_assemble
  have p0 := h.p0
  have pl := h.pl
  have hp : (0 : Int) < p := by omega
  have B0 : 0 ≤ B := by
    have := h.len
    have e := List.getElem?_eq_getElem (show 0 < starts.length by omega)
    obtain ⟨a, b, c⟩ := h.st _ _ e
    omega
  have sm : ∀ s ∈ starts, 0 ≤ s ∧ s ≤ B := fun s hs => by
    obtain ⟨i, hi, e⟩ := List.getElem_of_mem hs
    obtain ⟨a, b, c⟩ := h.st i s (by rw [List.getElem?_eq_getElem hi, e])
    exact ⟨a, c⟩
  walk_at "g"
  refine s_kseq hst ?_
  refine s_klcRelM (fun s => .int s) (encL v) (fun s q => LineR v p s q.1 q.2) hst (small_line (by rw [h.len]; omega)) (fun s hs => ⟨_, rfl, fun Q k => ?_⟩) (fun ln hln hrl => ?_)
  · obtain ⟨s1, s2⟩ := sm s hs
    walk_at "g"
    refine ⟨p, s, d, v, P, rfl, hp, by omega, h.fn, fun x x0 x1 => h.P x x0 (by omega), fun hn => ?_, fun x t hl => k (x, t) hl⟩
    obtain ⟨sl, hsl⟩ := h.lin s hs
    have := hsl 1 (by decide)
    rw [Int.mul_one] at this
    rw [this]
    cases e : v s with
    | none => exact absurd e hn
    | some a => exact fun z => by cases z
  rw [h.len] at hln
  have lnr : ∀ i : Nat, i < p → ∃ s : Int, starts[i]? = some s ∧ 0 ≤ s ∧ s % p = i ∧ s ≤ B ∧ LineR v p s (ln.getD i (0, 0)).1 (ln.getD i (0, 0)).2 := fun i hi => by
    have e1 := List.getElem?_eq_getElem (show i < starts.length by rw [h.len]; exact hi)
    have e2 := List.getElem?_eq_getElem (show i < ln.length by omega)
    obtain ⟨a, b, c⟩ := h.st _ _ e1
    have := hrl i _ _ e1 e2
    refine ⟨_, e1, a, b, c, ?_⟩
    rw [getD_of e2]; exact this
  walk_at "g"
  refine s_maxDf ?_
  walk_at "g"
  refine s_klcFil (encL v) (fun q => decide (q.1 ≥ (p : Int))) (fun q => .int (q.1 - p + 1)) (fun _ => rfl) (small_line (by omega)) (fun q hq => ⟨_, rfl, fun QB k => ?_, fun Q hq k => ?_⟩) ?_
  · show dTest (dOp dGe (dVar 6) (dVar 0)) [some (.int p), some d, some st, some (.lst (ln.map (encL v))), none, none, some (.int q.1), some (.int q.2), none, none, none, none] M QB
    walk_at "g"
    exact k
  · show dOp dAdd (dOp dSub (dVar 6) (dVar 0)) (dC (.int 1)) [some (.int p), some d, some st, some (.lst (ln.map (encL v))), none, none, some (.int q.1), some (.int q.2), none, none, none, none] M Q
    walk_at "g"
    exact k
  refine s_kmaxDf1 ?_
  walk_at "g"
  have main : ∀ len : Nat, (len : Int) ≤ B → (∀ q ∈ ln, q.1 - p + 1 ≤ len) → (4000 < len → NoForm v) → t_assemble_c2 C E (fnE Q) [some (.int p), some d, some st, some (.lst (ln.map (encL v))), none, some (.int len), none, none, none, none, none, none] M := by
    intro len hlB hmax hno
    unfold t_assemble_c2
    walk_at "g"
    · rename_i hc
      exact s_raise (qe (hno (by omega)))
    · rename_i hc
      have hlen : (len : Int) ≤ 4000 := by omega
      refine fun t ht => ?_
      walk_at "g"
      unfold t_assemble_c4
      walk_at "g"
      have nxf : ∀ o, M t ≠ some (.raw o) := fun o z => by rw [ht] at z; cases z
      have glob : ∀ i : Nat, i < p → (ln.getD ((((len : Int) + i) % p).toNat) (0, 0)).1 ≤ (len : Int) + i ∧ (∃ j : Int, 0 ≤ j ∧ (len : Int) + i = (ln.getD ((((len : Int) + i) % p).toNat) (0, 0)).1 + p * j) ∧ (∀ j : Int, 0 ≤ j → v ((ln.getD ((((len : Int) + i) % p).toNat) (0, 0)).1 + p * j) = (v (ln.getD ((((len : Int) + i) % p).toNat) (0, 0)).1).map (· + (ln.getD ((((len : Int) + i) % p).toNat) (0, 0)).2 * j)) := fun i hi => by
        have r0 : 0 ≤ ((len : Int) + i) % (p : Int) := Int.emod_nonneg _ (by omega)
        have r1 : ((len : Int) + i) % (p : Int) < p := Int.emod_lt_of_pos _ (by omega)
        have hr : (((len : Int) + i) % (p : Int)).toNat < p := by omega
        obtain ⟨s, es, sL, sr, sB, lr⟩ := lnr _ hr
        have hm := hmax _ (show ln.getD ((((len : Int) + i) % p).toNat) (0, 0) ∈ ln by rw [getD_of (List.getElem?_eq_getElem (by omega))]; exact List.getElem_mem _)
        generalize ln.getD ((((len : Int) + i) % p).toNat) (0, 0) = b at *
        have gl := line_glob hp (h.lin s (List.mem_of_getElem? es)) lr
        obtain ⟨j, j0, ej⟩ := lr.cls
        -- b ≡ len + i mod p
        have cg : ((len : Int) + i - b.1) % p = 0 := by
          have e1 : s % p = ((len : Int) + i) % p := by rw [sr]; omega
          have e2 : (b.1 + p * j) % p = ((len : Int) + i) % p := by rw [← ej]; exact e1
          rw [Int.add_mul_emod_self_left] at e2
          rw [Int.sub_emod, ← e2, Int.sub_self]; rfl
        have e3 := Int.emod_add_mul_ediv ((len : Int) + i - b.1) p
        rw [cg, Int.zero_add] at e3
        have k0 : 0 ≤ ((len : Int) + i - b.1) / p := by
          by_cases z : 0 ≤ ((len : Int) + i - b.1) / p
          · exact z
          · have := Int.mul_le_mul_of_nonneg_left (show ((len : Int) + i - b.1) / p ≤ -1 by omega) (show 0 ≤ (p : Int) by omega)
            omega
        have := Int.mul_nonneg (show 0 ≤ (p : Int) by omega) k0
        exact ⟨by omega, ⟨_, k0, by omega⟩, gl⟩
      refine s_kforR (fun i τ M' => M' = updM M t (.lst (((asmT v len p ln).take i).map encP)) ∧ ∃ a b c e, τ = [some (.int p), some d, some st, some (.lst (ln.map (encL v))), none, some (.int len), a, none, some (.ref t), b, c, e]) ⟨rfl, _, _, _, _, rfl⟩ (fun i τ M' hi ⟨e, a, b, c, e', e2⟩ => ?_) (fun τ M' ⟨e, a, b, c, e', e2⟩ => ?_)
      · subst e; subst e2
        have hi : i < p := by omega
        have lT : (asmT v len p ln).length = p := by unfold asmT; rw [List.length_map, List.length_range]
        have eT : (asmT v len p ln)[i]? = some (v ((len : Int) + i), if v ((len : Int) + i) = none then 0 else (ln.getD ((((len : Int) + i) % p).toNat) (0, 0)).2) := by
          unfold asmT
          rw [List.getElem?_map, List.getElem?_range hi]; rfl
        have next : ∀ (a b c e' : Option D), updM (updM M t (.lst (((asmT v len p ln).take i).map encP))) t (.lst (((asmT v len p ln).take i).map encP ++ [encP (v ((len : Int) + i), if v ((len : Int) + i) = none then 0 else (ln.getD ((((len : Int) + i) % p).toNat) (0, 0)).2)])) = updM M t (.lst (((asmT v len p ln).take (i + 1)).map encP)) ∧ ∃ a2 b2 c2 e2, ([some (.int p), some d, some st, some (.lst (ln.map (encL v))), none, some (.int len), a, none, some (.ref t), b, c, e'] : SD) = [some (.int p), some d, some st, some (.lst (ln.map (encL v))), none, some (.int len), a2, none, some (.ref t), b2, c2, e2] := fun a b c e' => by
          refine ⟨?_, _, _, _, _, rfl⟩
          rw [updM_updM, List.take_succ, eT, List.map_append]; rfl
        have hsz : (((asmT v len p ln).take i).map encP).length < sizeLine := Nat.lt_of_le_of_lt (m := 100000) (by rw [List.length_map, List.length_take]; omega) (by decide)
        obtain ⟨g1, ⟨j, j0, ej⟩, g3⟩ := glob i hi
        have r0 : 0 ≤ ((len : Int) + i) % (p : Int) := Int.emod_nonneg _ (by omega)
        have r1 : ((len : Int) + i) % (p : Int) < p := Int.emod_lt_of_pos _ (by omega)
        have hr : (((len : Int) + i) % (p : Int)).toNat < ln.length := by omega
        have eln := List.getElem?_eq_getElem hr
        have egd := getD_of (z := ((0, 0) : Int × Int)) eln
        walk_at "g"
        refine s_I (by omega) ?_
        walk_at "g"
        refine s_ix (d := encL v (ln.getD ((((len : Int) + i) % p).toNat) (0, 0))) rfl (by rw [atI_toNat r0, List.getElem?_map, eln, egd]; rfl) ?_
        generalize ln.getD ((((len : Int) + i) % p).toNat) (0, 0) = bq at *
        obtain ⟨b0, s0⟩ := bq
        show kUnp _ _ _ (.tup [.int b0, encO (v b0), .int s0]) _
        walk_at "g"
        rw [encO_isN]
        have gj := g3 j j0
        rw [← ej] at gj
        cases ev : v b0 with
        | none =>
          simp only [Option.isNone_none]
          walk_at "g"
          refine s_append updM_same hsz ?_
          walk_at "g"
          have : v ((len : Int) + i) = none := by rw [gj]; show (v b0).map _ = none; rw [ev]; rfl
          have nx := next (some (.int ((len : Int) + i))) (some (.int b0)) (some .non) (some (.int s0))
          rw [this] at nx
          exact nx
        | some a0 =>
          simp only [Option.isNone_some]
          rw [show encO (some a0) = .int a0 from rfl]
          walk_at "g"
          have ed : ((len : Int) + i - b0) / p = j := by
            have : (len : Int) + i - b0 = p * j := by have ej : (len : Int) + i = b0 + p * j := ej; omega
            rw [this, Int.mul_ediv_cancel_left _ (by omega)]
          refine s_I ⟨by omega, log2_20 (by omega)⟩ ?_
          rw [ed]
          walk_at "g"
          have jb : j.natAbs ≤ 1000000000 := by
            have : j ≤ (p : Int) * j := by have := Int.mul_le_mul_of_nonneg_right (show (1 : Int) ≤ p by omega) j0; omega
            have ej : (len : Int) + i = b0 + p * j := ej
            have lb : 0 ≤ b0 := by
              obtain ⟨s, es, sL, sr, sB, lr⟩ := lnr _ (show (((len : Int) + i) % (p : Int)).toNat < p by omega)
              rw [getD_of eln, ← egd] at lr
              exact lr.x0
            omega
          refine s_mul (.inl (.inr (sm64 jb))) ?_
          walk_at "g"
          refine s_append updM_same hsz ?_
          walk_at "g"
          have hv : v ((len : Int) + i) = some (a0 + s0 * j) := by rw [gj]; show (v b0).map _ = _; rw [ev]; rfl
          have nx := next (some (.int ((len : Int) + i))) (some (.int b0)) (some (.int a0)) (some (.int s0))
          rw [hv, if_neg (fun z => by cases z)] at nx
          exact nx
      · subst e; subst e2
        have lT : (asmT v len p ln).length = p := by unfold asmT; rw [List.length_map, List.length_range]
        rw [show ((len : Int) + p - len).toNat = p by omega, List.take_of_length_le (by omega)]
        walk_at "g"
        refine s_kr1 (by omega) (by omega) ?_
        refine s_klcRng (fun i : Nat => encO (v i)) (small_line (by omega)) (fun i QQ hi k => ?_) ?_
        · rw [Int.zero_add]
          show dCallV C 10 1 (dCons (dVar 6) dNil) [some (.int p), some d, some st, some (.lst (ln.map (encL v))), none, some (.int len), some (.int i), none, some (.ref t), b, c, e'] _ QQ
          have hf := h.fn.upd (p := t) (m := .lst ((asmT v len p ln).map encP)) nxf
          refine s_callV _ rfl hf ?_
          walk_at "g"
          exact s_kcallV hf ⟨i, rfl, h.P i (by omega) (by omega), k⟩
        rw [show ((len : Int)).toNat = len by omega]
        walk_at "g"
        have eF : (D.tup [.tup ((List.range len).map fun i : Nat => encO (v i)), .tup ((asmT v len p ln).map encP)]) = Frm.enc ⟨(List.range len).map fun i : Nat => v i, asmT v len p ln⟩ := by
          unfold Frm.enc; rw [List.map_map]; rfl
        rw [eF]
        have slb : ∀ i : Nat, i < p → v ((len : Int) + i) ≠ none → (ln.getD ((((len : Int) + i) % p).toNat) (0, 0)).2.natAbs < 2 ^ (n + 1) := fun i hi hn => by
          obtain ⟨s, es, sL, sr, sB, lr⟩ := lnr _ (show (((len : Int) + i) % (p : Int)).toNat < p by have := Int.emod_nonneg ((len : Int) + i) (b := (p : Int)) (by omega); have := Int.emod_lt_of_pos ((len : Int) + i) hp; omega)
          obtain ⟨g1, ⟨j, j0, ej⟩, g3⟩ := glob i hi
          generalize ln.getD ((((len : Int) + i) % p).toNat) (0, 0) = bq at *
          obtain ⟨j1, j10, ej1⟩ := lr.cls
          have gs := g3 j1 j10
          rw [← ej1] at gs
          have gs1 := g3 (j1 + 1) (by omega)
          rw [Int.mul_add, Int.mul_one, ← Int.add_assoc, ← ej1] at gs1
          have gi := g3 j j0
          rw [← ej] at gi
          cases eb : v bq.1 with
          | none => rw [eb] at gi; exact absurd gi hn
          | some a =>
            rw [eb] at gs gs1
            have b1 : (a + bq.2 * j1).natAbs < 2 ^ n := h.bd s (by omega) (by omega) _ gs
            have b2 : (a + bq.2 * (j1 + 1)).natAbs < 2 ^ n := h.bd (s + p) (by omega) (by omega) _ gs1
            have : bq.2 = a + bq.2 * (j1 + 1) - (a + bq.2 * j1) := by rw [Int.mul_add]; omega
            rw [this, Nat.pow_succ]
            generalize a + bq.2 * (j1 + 1) = z1 at *
            generalize a + bq.2 * j1 = z2 at *
            omega
        have n0 := h.n0
        have p2 : 2 ^ n ≤ 2 ^ (n + 1) := two_pow_le (by omega)
        have ok : FOk ⟨(List.range len).map fun i : Nat => v i, asmT v len p ln⟩ (n + 1) := by
          refine ⟨⟨by show 0 < (asmT v len p ln).length; omega, by show (asmT v len p ln).length ≤ _; omega, fun r hr => ?_, by omega⟩, by show ((List.range len).map _).length ≤ _; rw [List.length_map, List.length_range]; omega, fun w hw => ?_⟩
          · obtain ⟨i, hi, rfl⟩ := List.mem_map.mp (show r ∈ (List.range p).map _ from hr)
            have hi := List.mem_range.mp hi
            refine ⟨fun z ez => Nat.lt_of_lt_of_le (h.bd ((len : Int) + i) (by omega) (by omega) z ez) p2, ?_, fun ez => if_pos ez⟩
            show (if v ((len : Int) + i) = none then (0 : Int) else _).natAbs < _
            by_cases z : v ((len : Int) + i) = none
            · rw [if_pos z]; exact Nat.pow_pos (by decide)
            · rw [if_neg z]; exact slb i hi z
          · obtain ⟨i, hi, rfl⟩ := List.mem_map.mp hw
            have hi := List.mem_range.mp hi
            exact fun z ez => Nat.lt_of_lt_of_le (h.bd i (by omega) (by omega) z ez) p2
        refine ⟨_, n + 1, rfl, ok, fun g hg gl gt gv gn => ?_⟩
        refine s_endL (M2 := M) (fun b' m e => ?_) (q g hg gn ?_ ?_ ?_ fun x x0 => ?_)
        · rw [updM_ne (fun z => by subst z; rw [ht] at e; cases e)]; exact e
        · have gl : g.head.length ≤ ((List.range len).map fun i : Nat => v i).length := gl
          rw [List.length_map, List.length_range] at gl; omega
        · have gl : g.head.length ≤ ((List.range len).map fun i : Nat => v i).length := gl
          rw [List.length_map, List.length_range] at gl; omega
        · have gt : g.tail.length ≤ (asmT v len p ln).length := gt
          omega
        · rw [gv]
          refine val_asm p0 (fun i hi m m0 => ?_) x x0
          obtain ⟨g1, ⟨j, j0, ej⟩, g3⟩ := glob i hi
          generalize ln.getD ((((len : Int) + i) % p).toNat) (0, 0) = bq at *
          have a1 := g3 j j0
          have a2 := g3 (j + m) (by omega)
          rw [Int.mul_add, ← Int.add_assoc, ← ej] at a2
          rw [← ej] at a1
          rw [a2, a1]
          cases v bq.1 with
          | none => rfl
          | some a =>
            show some _ = some _
            congr 1
            show a + bq.2 * (j + m) = a + bq.2 * j + bq.2 * m
            rw [Int.mul_add]; omega
  have hfar : ∀ q ∈ ln, (p : Int) ≤ q.1 → ∀ g : Frm, 0 < g.tail.length → (∀ x, 0 ≤ x → g.val x = v x) → q.1 - p + 1 ≤ g.head.length := fun q hq hqp g g0 gv => by
    obtain ⟨i, hi, e⟩ := List.getElem_of_mem hq
    obtain ⟨s, es, sL, sr, sB, lr⟩ := lnr i (by omega)
    rw [getD_of (List.getElem?_eq_getElem hi), e] at lr
    exact line_far hp (h.lin s (List.mem_of_getElem? es)) lr hqp g0 gv
  have hB : ∀ q ∈ ln, q.1 ≤ B := fun q hq => by
    obtain ⟨i, hi, e⟩ := List.getElem_of_mem hq
    obtain ⟨s, es, sL, sr, sB, lr⟩ := lnr i (by omega)
    rw [getD_of (List.getElem?_eq_getElem hi), e] at lr
    obtain ⟨j, j0, ej⟩ := lr.cls
    have := Int.mul_nonneg (show 0 ≤ (p : Int) by omega) j0
    omega
  refine s_kmaxDf2 rfl (intsOf_mapG (fun q : Int × Int => q.1 - p + 1) _) (fun e => ?_) (fun m hm hall => ?_)
  · walk_at "g"
    refine main 0 (by omega) (fun q hq => ?_) (fun z => by omega)
    by_cases z : q.1 ≥ (p : Int)
    · have : q ∈ ln.filter fun q => decide (q.1 ≥ (p : Int)) := List.mem_filter.mpr ⟨hq, by simpa using z⟩
      have e := List.map_eq_nil_iff.mp e
      rw [e] at this; cases this
    · omega
  · obtain ⟨q0, hq0, rfl⟩ := List.mem_map.mp hm
    obtain ⟨h1, h2⟩ := List.mem_filter.mp hq0
    have h2 : q0.1 ≥ (p : Int) := by simpa using h2
    have h3 := hfar q0 h1 h2
    have h4 := hB q0 h1
    walk_at "g"
    obtain ⟨len, hl⟩ : ∃ len : Nat, q0.1 - p + 1 = len := ⟨(q0.1 - p + 1).toNat, by omega⟩
    rw [hl]
    refine main len (by omega) (fun q hq => ?_) (fun z g g0 gv => by have := h3 g g0 gv; omega)
    by_cases z : q.1 ≥ (p : Int)
    · have := hall _ (List.mem_map.mpr ⟨q, List.mem_filter.mpr ⟨hq, by simpa using z⟩, rfl⟩)
      omega
    · omega

theorem lcm_le {a b c : Nat} (ha : 0 < a) (hb : 0 < b) (h : a * b ≤ c) : 0 < Nat.lcm a b ∧ Nat.lcm a b ≤ c ∧ (∃ i : Int, 0 ≤ i ∧ ((Nat.lcm a b : Nat) : Int) = a * i) ∧ ∃ j : Int, 0 ≤ j ∧ ((Nat.lcm a b : Nat) : Int) = b * j := by
  refine ⟨Nat.lcm_pos ha hb, Nat.le_trans (Nat.le_of_dvd (Nat.mul_pos ha hb) (Nat.lcm_dvd_mul a b)) h, ?_, ?_⟩
  · obtain ⟨i, e⟩ := Nat.dvd_lcm_left a b
    exact ⟨i, by omega, by rw [e, Int.natCast_mul]⟩
  · obtain ⟨i, e⟩ := Nat.dvd_lcm_right a b
    exact ⟨i, by omega, by rw [e, Int.natCast_mul]⟩
theorem factor_le {a b c : Nat} (hb : 0 < b) (h : a * b ≤ c) : a ≤ c := Nat.le_trans (Nat.le_mul_of_pos_right a hb) h
theorem firstsD {p : Nat} {L : Int} (hp : 0 < p) (r : Nat) (s : Int) (h : (startsD L p)[r]? = some s) : L ≤ s ∧ s % p = r ∧ s ≤ L + p := by
  unfold startsD at h
  rw [List.getElem?_map] at h
  have hr : r < p := by
    by_cases z : r < p
    · exact z
    · rw [List.getElem?_eq_none (by rw [List.length_range]; omega)] at h; cases h
  rw [List.getElem?_range hr] at h
  obtain rfl : L + ((r : Int) - L) % p = s := Option.some.inj h
  have i0 : 0 ≤ ((r : Int) - L) % p := Int.emod_nonneg _ (by omega)
  have i1 : ((r : Int) - L) % p < p := Int.emod_lt_of_pos _ (by omega)
  refine ⟨by omega, ?_, by omega⟩
  rw [Int.add_emod_emod, show L + ((r : Int) - L) = r by omega]
  exact Int.emod_eq_of_lt (by omega) (by omega)
theorem val_per {f : Frm} (h0 : 0 < f.tail.length) {p i x m : Int} (ei : p = f.tail.length * i) (i0 : 0 ≤ i) (hx : f.head.length ≤ x) (m0 : 0 ≤ m) : f.val (x + p * m) = (f.val x).map (· + ts f.tail (x - f.head.length) * i * m) := by
  have := val_shift h0 (y := x) (m := i * m) hx (Int.mul_nonneg i0 m0)
  rw [← Int.mul_assoc, ← ei] at this
  rw [this]
  simp only [Int.mul_assoc]

/-- a normal form's tail divides every other one's, and its steps with it -/
theorem norm_like {f g : Frm} {n m : Nat} (hf : FOk f n) (hg : FOk g m) (gn : IsNorm g) (hv : ∀ x, 0 ≤ x → f.val x = g.val x) :
    ∃ c : Nat, 0 < c ∧ f.tail.length = g.tail.length * c ∧ ∀ k : Int, tv g.tail k ≠ none → tv f.tail (k + g.head.length - f.head.length) ≠ none ∧ ts f.tail (k + g.head.length - f.head.length) = ts g.tail k * c := by
  have f0 := hf.tk.t0
  have g0 := hg.tk.t0
  have h1 : ∀ x, tv g.tail (x - g.head.length) = tv f.tail (x - f.head.length) ∧ (tv g.tail (x - g.head.length) ≠ none → ts g.tail (x - g.head.length) * f.tail.length = ts f.tail (x - f.head.length) * g.tail.length) :=
    tails_all (B := (f.head.length : Int) + g.head.length) g0 f0 fun x hx => by rw [← val_tv (by omega), ← val_tv (by omega)]; exact (hv x (by omega)).symm
  have d := (AL.gcd _ _ (AL.self g0) (AL.other g0 f0 h1)).hp
  have gp : 0 < Nat.gcd g.tail.length f.tail.length := Nat.gcd_pos_of_pos_left _ g0
  have l1 : g.tail.length = Nat.gcd g.tail.length f.tail.length := by
    have := Nat.le_of_dvd g0 (Nat.gcd_dvd_left g.tail.length f.tail.length)
    by_cases l : Nat.gcd g.tail.length f.tail.length < g.tail.length
    · exact absurd d (gn.mn _ gp l (Nat.gcd_dvd_left _ _))
    · omega
  have dv : g.tail.length ∣ f.tail.length := by rw [l1]; exact Nat.gcd_dvd_right _ _
  obtain ⟨c, hc⟩ := dv
  have c0 : 0 < c := by
    by_cases z : 0 < c
    · exact z
    · have : c = 0 := by omega
      rw [this] at hc; omega
  refine ⟨c, c0, hc, fun k hk => ?_⟩
  obtain ⟨a, b⟩ := h1 (k + g.head.length)
  rw [show k + (g.head.length : Int) - g.head.length = k by omega] at a b
  refine ⟨by rw [← a]; exact hk, ?_⟩
  have b := b hk
  rw [hc, Int.natCast_mul, Int.mul_comm (g.tail.length : Int), ← Int.mul_assoc] at b
  exact (Int.eq_of_mul_eq_mul_right (by omega) b).symm
theorem tv_none {t : Tl} {k : Int} : tv t k = none ↔ (tailAt t k).1 = none := by
  unfold tv tailVal
  cases (tailAt t k).1 <;> simp
theorem mulW {i j : Int} {n m : Nat} (h : i.natAbs < 2 ^ n) (g : j.natAbs < 2 ^ m) (hn : 0 < n) (hm : 0 < m) (hl : n + m ≤ 1000000) : CMulA i j := .inr (by
  have h1 := PySem.Flt.log2_lt_of hn h
  have h2 := PySem.Flt.log2_lt_of hm g
  show i.natAbs.log2 + j.natAbs.log2 < 1000000
  omega)

theorem len_check_period (C : Ct) : ∀ ds M Q E, sp_check_period C ds M Q E → ds.length = 1 := by rintro _ _ _ _ ⟨_, rfl, _⟩; rfl
theorem rd_check_period (C : Ct) : RdsX (t_check_period C) n_check_period (sp_check_period C) := by
  rintro _ M Q E ⟨p, rfl, q, qe⟩
  show t_check_period C E _ [some (.int p)] M
  unfold t_check_period
  walk_at "g"
  · rename_i hc
    exact s_raise (qe hc)
  · rename_i hc
    exact s_end (q (by omega))

theorem len_common_period (C : Ct) : ∀ ds M Q E, sp_common_period C ds M Q E → ds.length = 2 := by rintro _ _ _ _ ⟨_, _, rfl, _⟩; rfl
theorem rd_common_period (C : Ct) : RdsX (t_common_period C) n_common_period (sp_common_period C) := by
  rintro _ M Q E ⟨f, g, rfl, h1, h2, l1, l2, q, qe⟩
  show t_common_period C E _ [some (.tup [.tup (f.head.map encO), .tup (f.tail.map encP)]), some (.tup [.tup (g.head.map encO), .tup (g.tail.map encP)]), none] M
  unfold t_common_period
  walk_at "g"
  simp only [List.length_map]
  refine s_lcm (by omega) (by omega) ?_
  walk_at "g"
  refine ⟨_, rfl, fun hz => ?_, fun hz => qe (by omega)⟩
  walk_at "g"
  exact s_end (q (by omega))

theorem len_common_starts : ∀ ds M Q E, sp_common_starts ds M Q E → ds.length = 3 := by rintro _ _ _ _ ⟨_, _, _, rfl, _⟩; rfl
theorem rd_common_starts : Rds t_common_starts n_common_starts sp_common_starts := by
  rintro _ M Q E ⟨f, g, p, rfl, p0, p1, q⟩
  show t_common_starts _ [some (.tup [.tup (f.head.map encO), .tup (f.tail.map encP)]), some (.tup [.tup (g.head.map encO), .tup (g.tail.map encP)]), some (.int p), none, none] M
  unfold t_common_starts
  walk_at "g"
  simp only [List.length_map]
  have eL : (if (g.head.length : Int) > f.head.length then (g.head.length : Int) else f.head.length) = mxH f g := by
    unfold mxH
    split <;> omega
  rw [eL]
  refine s_kr1 (by omega) (by omega) ?_
  refine s_klcRng (fun i : Nat => .int (mxH f g + ((i : Int) - mxH f g) % p)) (small_line (by omega)) (fun i QQ hi k' => ?_) ?_
  · rw [Int.zero_add]
    show dCall sp_first_of_class E0D _ [some f.enc, some g.enc, some (.int p), some (.int (mxH f g)), some (.int i)] M QQ
    walk_at "g"
    exact ⟨_, _, _, rfl, by omega, k'⟩
  rw [show ((p : Int)).toNat = p by omega]
  have eS : (List.range p).map (fun i : Nat => D.int (mxH f g + ((i : Int) - mxH f g) % p)) = (startsD (mxH f g) p).map .int := by unfold startsD; rw [List.map_map]; rfl
  rw [eS]
  exact s_end q

theorem add_ok : OpOk addO := ⟨⟨fun _ _ s t => s + t, fun u w s t m _ => by
  cases u <;> cases w <;> first | rfl | skip
  rename_i a b
  show some (a + s * m + (b + t * m)) = some (a + b + (s + t) * m)
  congr 1
  rw [Int.add_mul]; omega⟩, fun n u w hu hw i e => by
  cases u <;> cases w <;> first | (cases e; done) | skip
  rename_i a b
  have h1 := hu a rfl
  have h2 := hw b rfl
  obtain rfl : a + b = i := Option.some.inj e
  rw [Nat.pow_succ]; omega⟩
theorem len_added : ∀ ds M Q E, sp_added ds M Q E → ds.length = 2 := by rintro _ _ _ _ ⟨_, _, rfl, _⟩; rfl
theorem rd_added : Rds t_added n_added sp_added := by
  rintro _ M Q E ⟨u, w, rfl, q⟩
  show t_added _ [some (encO u), some (encO w)] M
  unfold t_added
  cases u <;> cases w <;> (simp only [encO]; walk_at "g"; simp only [D.isN]; walk_at "g"; (try simp only [D.isN]); walk_at "g"; exact s_end q)
/-- the end of a def -/
theorem OpE.rt {C : Ct} {v : Int → Option Int} {p n : Nat} {M : Mp} {Q : QD} {E : XD} (h : OpE C v p n M Q E) : OpE C v p n M (rtQ Q) (rtX E) := ⟨fun g a b c d e => s_end (h.q g a b c d e), fun z => s_endX (fun _ _ y => y) (h.e z)⟩
theorem PerE.rt {C : Ct} {v : Int → Option Int} {p n : Nat} {M : Mp} {Q : QD} {E : XD} (h : PerE C p v n M Q E) : PerE C p v n M (rtQ Q) (rtX E) := ⟨fun z => s_endX (fun _ _ y => y) (h.big z), fun z => (h.op z).rt⟩
/-- how big the numbers of a told form are -/
theorem fok_small {h : Frm} {n k : Nat} {v : Int → Option Int} (hk : FOk h n) (hl : h.head.length ≤ 4000) (tl : h.tail.length ≤ 1000) (hv : ∀ x, 0 ≤ x → h.val x = v x) (hb : ∀ x, 0 ≤ x → x ≤ 10000 → bdO k (v x)) : FOk h (k + 1) := by
  have p2 : 2 ^ k ≤ 2 ^ (k + 1) := two_pow_le (by omega)
  refine ⟨⟨hk.tk.t0, hk.tk.tl, fun p hp => ?_, by omega⟩, hk.hl, fun w hw i e => ?_⟩
  · obtain ⟨i, hi, rfl⟩ := List.getElem_of_mem hp
    have e1 : (tailAt h.tail i).1 = h.tail[i].1 ∧ (tailAt h.tail i).2 = h.tail[i].2 := by
      unfold tailAt
      rw [Int.emod_eq_of_lt (by omega) (by omega), getD_of (List.getElem?_eq_getElem (show ((i : Int)).toNat < h.tail.length by omega))]
      exact ⟨rfl, rfl⟩
    have ef := val_first (f := h) (k := i) (by omega) (by omega)
    have es := val_round hk.tk.t0 (k := i) (m := 1) (by omega) (by decide)
    rw [Int.mul_one, Int.mul_one] at es
    unfold ts at es
    rw [e1.2] at es
    rw [e1.1] at ef
    have b1 := hb (h.head.length + i) (by omega) (by omega)
    have b2 := hb (h.head.length + i + h.tail.length) (by omega) (by omega)
    rw [← hv _ (by omega), ef] at b1
    rw [← hv _ (by omega), es, ef] at b2
    refine ⟨fun z ez => Nat.lt_of_lt_of_le (b1 z ez) p2, ?_, (hk.tk.th _ hp).2.2⟩
    cases ea : h.tail[i].1 with
    | none => rw [(hk.tk.th _ hp).2.2 ea]; exact Nat.pow_pos (by decide)
    | some a =>
      have c1 := b1 a ea
      have c2 := b2 (a + h.tail[i].2) (by rw [ea]; rfl)
      rw [Nat.pow_succ]
      omega
  · obtain ⟨j, hj, rfl⟩ := List.getElem_of_mem hw
    have b1 := hb j (by omega) (by omega)
    rw [← hv _ (by omega), ← head_elt hj] at b1
    exact Nat.lt_of_lt_of_le (b1 i e) p2
theorem NrmOf.small {f g : Frm} {N : Nat} (h : NrmOf f g N) (hf : FOk f N) {x : Int} (x0 : 0 ≤ x) (x1 : x ≤ 10000) : bdO (N + 20) (f.val x) := fun i e => Nat.lt_of_lt_of_le (val_bd hf (m := 18) (x := x) (by rw [show (2 : Nat) ^ 18 = 262144 by decide]; omega) (by decide) i e) (two_pow_le (by omega))
theorem len_even (C : Ct) : ∀ ds M Q E, sp_even C ds M Q E → ds.length = 3 := by rintro _ _ _ _ ⟨_, _, _, _, _, rfl, _⟩; rfl
theorem rd_even (C : Ct) : RdsE (t_even C) n_even (sp_even C) := by
  rintro _ M Q E ⟨f, g, d, op, N, rfl, hf, hg, hN, hop, hd, q⟩
  show t_even C (rtX E) _ [some f.enc, some g.enc, some d, none, none, none, none] M
  unfold t_even
  walk_at "g"
  refine ⟨f, N, rfl, hf, fun f2 h1 l1 t1 v1 n1 => ?_⟩
  walk_at "g"
  refine ⟨g, N, rfl, hg, fun g2 h2 l2 t2 v2 n2 => ?_⟩
  have q := q f2 g2 ⟨h1, n1, l1, t1, v1⟩ ⟨h2, n2, l2, t2, v2⟩
  have f0 := h1.tk.t0
  have g0 := h2.tk.t0
  have fl := h1.tk.tl
  have gl := h2.tk.tl
  have fh := h1.hl
  have gh := h2.hl
  walk_at "g"
  refine ⟨f2, g2, rfl, f0, g0, fl, gl, fun hp => ?_, fun hp => s_endX (fun _ _ y => y) (q.big hp)⟩
  have q := q.op hp
  have p0 : 0 < Nat.lcm f2.tail.length g2.tail.length := Nat.lcm_pos f0 g0
  obtain ⟨i, i0, ei⟩ : ∃ i : Int, 0 ≤ i ∧ ((Nat.lcm f2.tail.length g2.tail.length : Nat) : Int) = f2.tail.length * i := by
    obtain ⟨c, hc⟩ := Nat.dvd_lcm_left f2.tail.length g2.tail.length
    exact ⟨c, by omega, by rw [← Int.natCast_mul, ← hc]⟩
  obtain ⟨j, j0, ej⟩ : ∃ j : Int, 0 ≤ j ∧ ((Nat.lcm f2.tail.length g2.tail.length : Nat) : Int) = g2.tail.length * j := by
    obtain ⟨c, hc⟩ := Nat.dvd_lcm_right f2.tail.length g2.tail.length
    exact ⟨c, by omega, by rw [← Int.natCast_mul, ← hc]⟩
  generalize Nat.lcm f2.tail.length g2.tail.length = p at *
  walk_at "g"
  refine ⟨f2, g2, p, rfl, p0, by omega, ?_⟩
  have mx0 : 0 ≤ mxH f2 g2 ∧ mxH f2 g2 ≤ 100000 ∧ f2.head.length ≤ mxH f2 g2 ∧ g2.head.length ≤ mxH f2 g2 := by unfold mxH; omega
  obtain ⟨m0, m1, m2, m3⟩ := mx0
  walk_at "g"
  refine s_callLX ?_
  walk_at "g"
  refine s_kcallLX [d, f2.enc, g2.enc] rfl fun M2 hm => ?_
  walk_at "g"
  refine s_kcallLX3 fun dl Mf hm2 hfn => ?_
  have e20 : (2 : Nat) ^ 20 = 1048576 := by decide
  have e18 : (2 : Nat) ^ 18 = 262144 := by decide
  obtain ⟨sl, hsl⟩ := hop.lin
  have ev : (fun x => op (f.val x) (g.val x)) = fun x => op (f2.val x) (g2.val x) := by funext x; rw [v1, v2]
  rw [ev] at q
  have hb : ∀ x, 0 ≤ x → x ≤ 202000 → bdO (N + 61) (op (f2.val x) (g2.val x)) := fun x x0 x1 => hop.bd _ _ _ (val_bd h1 (m := 18) (x := x) (by omega) (by decide)) (val_bd h2 (m := 18) (x := x) (by omega) (by decide))
  have hb2 : ∀ x, 0 ≤ x → x ≤ 10000 → bdO (N + 21) (op (f2.val x) (g2.val x)) := fun x x0 x1 => by
    rw [v1, v2]
    exact hop.bd _ _ _ (val_bd hf (m := 18) (x := x) (by omega) (by decide)) (val_bd hg (m := 18) (x := x) (by omega) (by decide))
  refine ⟨p, dl, _, startsD (mxH f2 g2) p, fun x => op (f2.val x) (g2.val x), fun x => 0 ≤ x ∧ x ≤ 202000, mxH f2 g2 + p, N + 61, rfl, rfl, ⟨p0, by omega, hfn.imp fun ds M3 QQ EE h => ?_, by unfold startsD; rw [List.length_map, List.length_range], fun r s hs => ?_, fun x x0 x1 => ⟨x0, by omega⟩,
    fun s hs => ?_, fun x x0 x1 => hb x x0 (by omega), by omega⟩, fun h hh hn' k1 _ k2 hv => ⟨rfl, s_end (q.q h ((fok_small hh k1 (by omega) hv hb2).mono (by omega)) hn' k1 k2 hv)⟩, fun hno => ⟨rfl, s_endX (fun _ _ y => y) (q.e hno)⟩⟩
  · obtain ⟨x, rfl, hx2, kk⟩ := h
    refine ⟨rfl, fun d => d = encO (op (f2.val x) (g2.val x)), fun M' _ => ?_, fun d e => by rw [e]; exact kk⟩
    show dCallV C 5 1 _ [some (.int x), some d, some f2.enc, some g2.enc] M' _
    refine s_callV _ rfl (hd M') ?_
    walk_at "g"
    refine h1.val_at (m := 20) (by omega) (by decide) (by omega) ?_
    walk_at "g"
    refine h2.val_at (m := 20) (by omega) (by decide) (by omega) ?_
    walk_at "g"
    exact s_kcallV (hd M') ⟨_, _, rfl, rfl, rfl⟩
  · obtain ⟨a1, a2, a3⟩ := firstsD p0 r s hs
    exact ⟨by omega, a2, a3⟩
  · obtain ⟨r, hr, e⟩ := List.getElem_of_mem hs
    obtain ⟨a1, a2, a3⟩ := firstsD p0 r s (by rw [List.getElem?_eq_getElem hr, e])
    refine ⟨sl (f2.val s) (g2.val s) (ts f2.tail (s - f2.head.length) * i) (ts g2.tail (s - g2.head.length) * j), fun m m0 => ?_⟩
    show op (f2.val (s + p * m)) (g2.val (s + p * m)) = _
    rw [val_per f0 ei i0 (by omega) m0, val_per g0 ej j0 (by omega) m0]
    exact hsl _ _ _ _ m m0
theorem len_sum_of (C : Ct) : ∀ ds M Q E, sp_sum_of C ds M Q E → ds.length = 2 := by rintro _ _ _ _ ⟨_, _, _, rfl, _⟩; rfl
theorem rd_sum_of (C : Ct) : RdsE (t_sum_of C) n_sum_of (sp_sum_of C) := by
  rintro _ M Q E ⟨f, g, N, rfl, hf, hg, hn, q⟩
  show t_sum_of C (rtX E) _ [some f.enc, some g.enc] M
  unfold t_sum_of
  walk_at "g"
  refine s_gfn fun d hd => ?_
  walk_at "g"
  exact ⟨f, g, d, addO, N, rfl, hf, hg, by omega, add_ok, fun M => (hd M).lvl (by decide), fun f2 g2 a b => (q f2 g2 a b).rt⟩

theorem s_kch2b {tc : DE} {τ : SD} {M : Mp} {Q : QD} {y : D} {r' : R2D} {b : Bool} (h : b = true → tc τ M (kCh3 r' y Q)) (h2 : b = false → Q (.bl false) M) : kCh2 r' tc τ Q y (.bl b) M := by
  cases b with
  | true => exact s_kch2 (p := True) (fun _ => h rfl) (fun z => absurd trivial z)
  | false => exact s_kch2 (p := False) (fun z => z.elim) (fun _ => h2 rfl)
theorem s_lenS {z : Str} {M : Mp} {Q : QD} (h : z.length ≤ sizeLine) (q : Q (.int z.length) M) : dLen [.str z] M Q := ⟨h, q⟩
theorem goods_mem : ∀ {xs : List D}, goods xs = true → ∀ x ∈ xs, good x = true
  | [], _, x, hx => by cases hx
  | y :: ys, h, x, hx => by
    have h : (good y && goods ys) = true := by simpa [goods] using h
    rcases List.mem_cons.mp hx with e | e
    · subst e; exact (Bool.and_eq_true _ _ ▸ h).1
    · exact goods_mem (Bool.and_eq_true _ _ ▸ h).2 x e
theorem good_tup {xs : List D} (h : good (.tup xs) = true) : ∀ x ∈ xs, good x = true := goods_mem (by simpa [good] using h)
theorem s_ksl2S {z : Str} {lo hi : Option Int} {M : Mp} {Q : QD} (h : z.length ≤ sizeLine) (q : Q (.str (cutS z lo hi)) M) : kSl2 (.str z) lo Q hi M := ⟨h, q⟩
theorem cut_to2 {α : Type} (xs : List α) (i : Nat) : cutD xs none (some (i : Int)) = xs.take i := by
  by_cases h : i ≤ xs.length
  · exact cut_to xs h
  · unfold cutD HT.sIx
    simp only [List.drop_zero, Nat.sub_zero]
    rw [List.take_of_length_le (by omega : xs.length ≤ i)]
    exact List.take_of_length_le (by first | omega | (split <;> omega))

theorem atI_last {α : Type} {xs : List α} : atI xs (-1) = xs.getLast? := by
  rw [List.getLast?_eq_getElem?]
  unfold atI ixN
  by_cases h : xs.length = 0
  · have : xs = [] := List.eq_nil_of_length_eq_zero h
    subst this; rfl
  · rw [if_neg (by decide), if_pos (by omega)]
    show xs[((-1 : Int) + xs.length).toNat]? = xs[xs.length - 1]?
    rw [show ((-1 : Int) + xs.length).toNat = xs.length - 1 by omega]
theorem len_last_step : ∀ ds M Q E, sp_last_step ds M Q E → ds.length = 1 := by rintro _ _ _ _ ⟨_, rfl, _⟩; rfl
theorem rd_last_step : Rds t_last_step n_last_step sp_last_step := by
  rintro _ M Q E ⟨r, rfl, q⟩
  show t_last_step _ [some r.enc] M
  unfold t_last_step
  unfold lastS at q
  unfold TRow.enc
  walk_at "g"
  cases e : r.steps with
  | nil =>
    rw [e] at q
    refine s_kifE (fun z => by cases z) (fun _ => ?_)
    walk_at "g"
    exact s_end q
  | cons p ps =>
    rw [e] at q
    refine s_kifE (fun _ => ?_) (fun z => by cases z)
    walk_at "g"
    have hl : atI ((p :: ps).map encS) (-1) = some (encS (((p :: ps).getLast?).getD (0, some 0))) := by
      rw [atI_last, List.getLast?_map]
      rw [List.getLast?_eq_getLast (List.cons_ne_nil p ps)]; rfl
    refine s_ix rfl hl ?_
    exact s_end q
/-- the price beyond the last step, told in two ways -/
theorem beyond {a g : Int} (g0 : 0 < g) : -(a / g) = (-a + g - 1) / g := by
  have e := Int.emod_add_mul_ediv a g
  have r0 := Int.emod_nonneg a (show g ≠ 0 by omega)
  have r1 := Int.emod_lt_of_pos a g0
  generalize a / g = k at *
  generalize a % g = r at *
  have : -a + g - 1 = (g - 1 - r) + g * (-k) := by rw [Int.mul_neg]; omega
  rw [this, Int.add_mul_ediv_left _ _ (by omega), Int.ediv_eq_zero_of_lt (by omega) (by omega), Int.zero_add]
theorem len_row_price : ∀ ds M Q E, sp_row_price ds M Q E → ds.length = 2 := by rintro _ _ _ _ ⟨_, _, rfl, _⟩; rfl
theorem find_drop {α : Type} {p : α → Bool} {xs : List α} {i : Nat} {x : α} (hx : xs[i]? = some x) (h : xs.find? p = (xs.drop i).find? p) : (p x = true → xs.find? p = some x) ∧ (p x = false → xs.find? p = (xs.drop (i + 1)).find? p) := by
  have hi : i < xs.length := by
    by_cases c : i < xs.length
    · exact c
    · rw [List.getElem?_eq_none (by omega)] at hx; cases hx
  rw [List.getElem?_eq_getElem hi] at hx
  have hx := Option.some.inj hx
  rw [List.drop_eq_getElem_cons hi, hx, List.find?_cons] at h
  exact ⟨fun z => by rw [h, z], fun z => by rw [h, z]⟩
theorem rd_row_price : Rds t_row_price n_row_price sp_row_price := by
  rintro _ M Q E ⟨r, w, rfl, k, q⟩
  show t_row_price _ [some r.enc, some (.int w), none, none, none, none, none] M
  unfold t_row_price
  unfold TRow.enc
  walk_at "g"
  refine s_kforT (ds := r.steps.map encS) (fun i τ M' => M' = M ∧ (r.steps.find? fun p => decide (w ≤ p.1)) = ((r.steps.drop i).find? fun p => decide (w ≤ p.1)) ∧ ∃ x2 x3 x4 x5 x6, τ = [some (.tup [.str r.zone, .str r.service, .tup (r.steps.map encS), encM r.more]), some (.int w), x2, x3, x4, x5, x6]) (fun _ => rfl) ⟨rfl, rfl, _, _, _, _, _, rfl⟩ (fun i d τ M' hd ⟨eM, hf, x2, x3, x4, x5, x6, e⟩ => ?_) (fun τ M' ⟨eM, hf, x2, x3, x4, x5, x6, e⟩ => ?_)
  · subst eM; subst e
    rw [List.getElem?_map] at hd
    obtain ⟨p, hp, rfl⟩ := Option.map_eq_some_iff.mp hd
    obtain ⟨f1, f2⟩ := find_drop hp hf
    refine s_gtup rfl ?_
    show dIfS _ _ _ _ [some (.tup [.str r.zone, .str r.service, .tup (r.steps.map encS), encM r.more]), some (.int w), some (.int p.1), some (encO p.2), x4, x5, x6] M'
    walk_at "g"
    · rename_i hc
      have e := f1 (decide_eq_true hc)
      unfold rowPrice at q
      rw [e] at q
      exact s_end q
    · rename_i hc
      exact ⟨rfl, f2 (decide_eq_false hc), _, _, _, _, _, rfl⟩
  · subst eM; subst e
    rw [List.length_map, List.drop_length] at hf
    unfold rowPrice at q
    rw [hf] at q
    have q : Q (encO (match (lastS r).2, r.more with
      | some b, some m => some (b - m.2 * (((lastS r).1 - w) / m.1))
      | _, _ => none)) M' := q
    walk_at "g"
    refine ⟨r, rfl, ?_⟩
    unfold encS
    walk_at "g"
    cases e1 : (lastS r).2 with
    | none =>
      rw [e1] at q
      simp only [encO]
      walk_at "w"
      exact s_end q
    | some b =>
      rw [e1] at q
      simp only [encO]
      cases e2 : r.more with
      | none =>
        rw [e2] at q
        simp only [encM]
        walk_at "w"
        exact s_end q
      | some m =>
        rw [e2] at q
        obtain ⟨m1, m2, m3, m4⟩ := k.mo m e2
        simp only [encM]
        walk_at "w"
        refine s_I ⟨by omega, log2_20 (by rw [show (2 : Nat) ^ 20 = 1048576 by decide]; omega)⟩ ?_
        walk_at "g"
        refine s_mul (.inl (.inl (sm64 (by omega)))) ?_
        walk_at "g"
        exact s_end q
theorem len_law_row_price : ∀ ds M Q E, sp_law_row_price ds M Q E → ds.length = 2 := len_row_price
theorem rd_law_row_price : Rds t_law_row_price n_law_row_price sp_law_row_price := by
  rintro _ M Q E ⟨r, w, rfl, k, q⟩
  show t_law_row_price _ [some r.enc, some (.int w), none, none, none] M
  unfold t_law_row_price
  unfold TRow.enc
  walk_at "g"
  refine s_kforT (ds := r.steps.map encS) (fun i τ M' => M' = M ∧ (r.steps.find? fun p => decide (w ≤ p.1)) = ((r.steps.drop i).find? fun p => decide (w ≤ p.1)) ∧ ∃ x4, τ = [some (.tup [.str r.zone, .str r.service, .tup (r.steps.map encS), encM r.more]), some (.int w), some (.int (((r.steps.take i).getLast?).getD (0, some 0)).1), some (encO (((r.steps.take i).getLast?).getD (0, some 0)).2), x4]) (fun _ => rfl) ⟨rfl, rfl, _, rfl⟩ (fun i d τ M' hd ⟨eM, hf, x4, e⟩ => ?_) (fun τ M' ⟨eM, hf, x4, e⟩ => ?_)
  · subst eM; subst e
    rw [List.getElem?_map] at hd
    obtain ⟨p, hp, rfl⟩ := Option.map_eq_some_iff.mp hd
    obtain ⟨f1, f2⟩ := find_drop hp hf
    refine s_gname ?_
    unfold encS
    walk_at "g"
    · rename_i hc
      have e := f1 (decide_eq_true hc)
      unfold rowPrice at q
      rw [e] at q
      exact s_end q
    · rename_i hc
      refine ⟨rfl, f2 (decide_eq_false hc), some (.tup [.int p.1, encO p.2]), ?_⟩
      have : ((r.steps.take (i + 1)).getLast?).getD (0, some 0) = p := by
        rw [List.take_succ, hp]
        show ((r.steps.take i ++ [p]).getLast?).getD _ = p
        rw [List.getLast?_append]; rfl
      rw [this]
  · subst eM; subst e
    rw [List.length_map, List.take_length]
    rw [List.length_map, List.drop_length] at hf
    unfold rowPrice at q
    rw [hf] at q
    have q : Q (encO (match (lastS r).2, r.more with
      | some b, some m => some (b - m.2 * (((lastS r).1 - w) / m.1))
      | _, _ => none)) M' := q
    have eL : r.steps.getLast?.getD (0, some 0) = lastS r := rfl
    rw [eL]
    cases e1 : (lastS r).2 with
    | none =>
      rw [e1] at q
      simp only [encO]
      walk_at "w"
      exact s_end q
    | some b =>
      rw [e1] at q
      simp only [encO]
      cases e2 : r.more with
      | none =>
        rw [e2] at q
        simp only [encM]
        walk_at "w"
        exact s_end q
      | some m =>
        rw [e2] at q
        obtain ⟨m1, m2, m3, m4⟩ := k.mo m e2
        have q : Q (.int (b - m.2 * (((lastS r).1 - w) / m.1))) M' := q
        simp only [encM]
        walk_at "w"
        refine s_I ⟨by omega, log2_20 (by rw [show (2 : Nat) ^ 20 = 1048576 by decide]; omega)⟩ ?_
        walk_at "g"
        refine s_mul (.inl (.inl (sm64 (by omega)))) ?_
        walk_at "g"
        have e3 : b + m.2 * ((w - (lastS r).1 + m.1 - 1) / m.1) = b - m.2 * (((lastS r).1 - w) / m.1) := by
          have := beyond (a := (lastS r).1 - w) (g := m.1) (by omega)
          rw [show -((lastS r).1 - w) + m.1 - 1 = w - (lastS r).1 + m.1 - 1 by omega] at this
          rw [← this, Int.mul_neg]; omega
        rw [e3]
        exact s_end q
/-! the table of the rows -/
def keyT (z s : Str) : List Key := [.inr z, .inr s]
theorem keyT_eq {z s z' s' : Str} : keyT z s = keyT z' s' ↔ z = z' ∧ s = s' := by
  unfold keyT
  constructor
  · intro h
    injection h with h1 h2
    injection h2 with h2 _
    exact ⟨Sum.inr.inj h1, Sum.inr.inj h2⟩
  · rintro ⟨rfl, rfl⟩; rfl
theorem putD_new {κ : Type} [DecidableEq κ] {kvs : List (κ × D)} {k : κ} {v : D} (h : ∀ p ∈ kvs, p.1 ≠ k) : putD kvs k v = kvs ++ [(k, v)] := by
  unfold putD
  rw [if_neg]
  intro z
  obtain ⟨p, hp, e⟩ := List.any_eq_true.mp z
  exact h p hp (of_decide_eq_true e)
theorem fold_rows : ∀ (rows : List TRow) (acc : List (List Key × D)), KeysD rows → (∀ r ∈ rows, ∀ p ∈ acc, p.1 ≠ keyT r.zone r.service) → rows.foldl (fun acc r => putD acc (keyT r.zone r.service) r.enc) acc = acc ++ rows.map fun r => (keyT r.zone r.service, r.enc)
  | [], acc, _, _ => by simp
  | r :: rs, acc, hk, h => by
    have hk := List.pairwise_cons.mp hk
    rw [List.foldl_cons, putD_new (h r List.mem_cons_self), fold_rows rs _ hk.2 fun r2 h2 p hp => ?_, List.map_cons, List.append_assoc]
    · rfl
    · rcases List.mem_append.mp hp with hp | hp
      · exact h r2 (List.mem_cons_of_mem _ h2) p hp
      · rw [List.mem_singleton.mp hp]
        exact fun z => hk.1 r2 h2 (keyT_eq.mp z)
theorem valD_rows : ∀ (rows : List TRow) (z s : Str), valD (rows.map fun r => (keyT r.zone r.service, r.enc)) (keyT z s) = (lookR rows z s).map TRow.enc
  | [], _, _ => rfl
  | r :: rs, z, s => by
    unfold valD lookR
    rw [List.map_cons, List.find?_cons, List.find?_cons]
    by_cases e : r.zone = z ∧ r.service = s
    · rw [decide_eq_true e, show decide ((keyT r.zone r.service, r.enc).1 = keyT z s) = true from decide_eq_true (keyT_eq.mpr e)]; rfl
    · rw [decide_eq_false e, show decide ((keyT r.zone r.service, r.enc).1 = keyT z s) = false from decide_eq_false fun z => e (keyT_eq.mp z)]
      exact valD_rows rs z s
theorem fil_look {rows : List TRow} {z : Str} : ∀ {ss : List Str}, (ss.all fun s => (lookR rows z s).isSome) = true → ss.map (fun s => ((lookR rows z s).map TRow.enc).getD .non) = (ss.filterMap (lookR rows z)).map TRow.enc
  | [], _ => rfl
  | s :: ss, h => by
    rw [List.all_cons, Bool.and_eq_true] at h
    obtain ⟨r, hr⟩ := Option.isSome_iff_exists.mp h.1
    rw [List.map_cons, fil_look h.2, List.filterMap_cons, hr]; rfl
theorem len_rows_for : ∀ ds M Q E, sp_rows_for ds M Q E → ds.length = 3 := by rintro _ _ _ _ ⟨_, _, _, rfl, _⟩; rfl
theorem rd_rows_for : Rds t_rows_for n_rows_for sp_rows_for := by
  rintro _ M Q E ⟨rows, z, ss, rfl, hl, hs, hk, q⟩
  show t_rows_for _ [some (.tup (rows.map TRow.enc)), some (.str z), some (.tup (ss.map .str)), none, none, none] M
  unfold t_rows_for
  walk_at "g"
  refine s_kdcMap TRow.enc (fun r => keyT r.zone r.service) TRow.enc (fun _ => rfl) (by rw [sizeLine_eq]; omega) (fun r QK hr _ k => ?_) (fun r QQ hr k => ?_) (fun p hp => ?_)
  · unfold TRow.enc
    walk_at "g"
    exact s_kkeyT (small_line (by show 2 ≤ _; decide)) rfl k
  · walk_at "g"
    exact k
  rw [fold_rows rows [] hk (fun r hr p hp => by cases hp), List.nil_append]
  have drop : ∀ b m, M b = some m → (updM M p (.dT (rows.map fun r => (keyT r.zone r.service, r.enc)))) b = some m := fun b m e => by
    rw [updM_ne (fun z => by subst z; rw [hp] at e; cases e)]; exact e
  walk_at "g"
  refine s_klcMap D.str (fun s => .bl (lookR rows z s).isSome) (fun _ => rfl) (small_line (by omega)) (fun s hs => ⟨_, rfl, fun QQ k => ?_⟩) ?_
  · walk_at "g"
    refine s_dinT (k := keyT z s) rfl updM_same ?_
    rw [valD_rows, Option.isSome_map]
    exact k
  walk_at "g"
  refine s_all rfl (blsOf_fun (fun s => (lookR rows z s).isSome) ss) ?_
  have ea : (ss.map fun s => (lookR rows z s).isSome).all id = ss.all fun s => (lookR rows z s).isSome := by rw [List.all_map]; rfl
  rw [ea]
  unfold rowsFor at q
  by_cases h : (ss.all fun s => (lookR rows z s).isSome) = true
  · rw [if_pos h] at q
    rw [h]
    walk_at "g"
    refine s_klcMap D.str (fun s => ((lookR rows z s).map TRow.enc).getD .non) (fun _ => rfl) (small_line (by omega)) (fun s hs => ⟨_, rfl, fun QQ k => ?_⟩) ?_
    · obtain ⟨r, hr⟩ := Option.isSome_iff_exists.mp (List.all_eq_true.mp h s hs)
      rw [hr] at k
      walk_at "g"
      exact s_ktg2 (k := keyT z s) rfl updM_same (by rw [valD_rows, hr]; rfl) k
    · rw [fil_look h]
      walk_at "g"
      exact ⟨M, drop, q⟩
  · rw [if_neg h] at q
    rw [Bool.eq_false_iff.mpr h]
    walk_at "g"
    exact ⟨M, drop, q⟩

def pr1 (rows : List TRow) (z : Str) (w : Int) (s : Str) : Option Int := (lookR rows z s).bind fun r => rowPrice r w
theorem look_mem {rows : List TRow} {z s : Str} {r : TRow} (h : lookR rows z s = some r) : r ∈ rows ∧ r.zone = z ∧ r.service = s := by
  unfold lookR at h
  have h2 := List.find?_some (p := fun r : TRow => decide (r.zone = z ∧ r.service = s)) h
  exact ⟨List.mem_of_find?_eq_some h, of_decide_eq_true h2⟩
theorem pr1_fil {rows : List TRow} {z : Str} {w : Int} : ∀ {ss : List Str}, (ss.all fun s => (lookR rows z s).isSome) = true → ((ss.filterMap (lookR rows z)).all fun r => (rowPrice r w).isSome) = (ss.all fun s => (pr1 rows z w s).isSome) ∧ ((ss.filterMap (lookR rows z)).filterMap fun r => rowPrice r w) = ss.filterMap (pr1 rows z w)
  | [], _ => ⟨rfl, rfl⟩
  | s :: ss, h => by
    rw [List.all_cons, Bool.and_eq_true] at h
    obtain ⟨r, hr⟩ := Option.isSome_iff_exists.mp h.1
    obtain ⟨i1, i2⟩ := pr1_fil (w := w) h.2
    have e : pr1 rows z w s = rowPrice r w := by unfold pr1; rw [hr]; rfl
    constructor
    · rw [List.filterMap_cons, hr]
      show (_ :: _).all _ = _
      rw [List.all_cons, List.all_cons, i1, e]
    · rw [List.filterMap_cons, hr]
      show (_ :: _).filterMap _ = _
      rw [List.filterMap_cons, List.filterMap_cons, i2, e]
theorem price_eq {rows : List TRow} {z : Str} {ss : List Str} {w : Int} : priceO rows z ss w = if (ss.all fun s => (pr1 rows z w s).isSome) = true then some (ss.filterMap (pr1 rows z w)).sum else none := by
  unfold priceO rowsFor
  by_cases h : (ss.all fun s => (lookR rows z s).isSome) = true
  · obtain ⟨i1, i2⟩ := pr1_fil (w := w) h
    rw [if_pos h]
    show (if ((ss.filterMap (lookR rows z)).all fun r => (rowPrice r w).isSome) = true then some ((ss.filterMap (lookR rows z)).filterMap fun r => rowPrice r w).sum else none) = _
    rw [i1, i2]
  · rw [if_neg h, if_neg]
    intro z2
    apply h
    rw [List.all_eq_true] at z2 ⊢
    intro s hs
    have := z2 s hs
    unfold pr1 at this
    cases e : lookR rows z s with
    | none => rw [e] at this; cases this
    | some r => rfl
theorem ints_opt : ∀ {vs : List (Option Int)}, (vs.all Option.isSome) = true → intsOf (vs.map encO) = some (vs.filterMap id)
  | [], _ => rfl
  | none :: _, h => by cases h
  | some i :: vs, h => by
    have h : vs.all Option.isSome = true := h
    show (intsOf (vs.map encO)).map (i :: ·) = _
    rw [ints_opt h]; rfl
theorem len_price : ∀ ds M Q E, sp_price ds M Q E → ds.length = 4 := by rintro _ _ _ _ ⟨_, _, _, _, rfl, _⟩; rfl
theorem rd_price : Rds t_price n_price sp_price := by
  rintro _ M Q E ⟨rows, z, ss, w, rfl, hl, hs, hk, ok, q⟩
  show t_price _ [some (.tup (rows.map TRow.enc)), some (.str z), some (.tup (ss.map .str)), some (.int w), none, none, none, none] M
  unfold t_price
  walk_at "g"
  refine ⟨rows, z, ss, rfl, hl, hs, hk, ?_⟩
  unfold priceO at q
  cases e : rowsFor rows z ss with
  | none =>
    rw [e] at q
    simp only [encRs]
    walk_at "w"
    exact s_end q
  | some rs =>
    rw [e] at q
    have q : Q (encO (if (rs.all fun r => (rowPrice r w).isSome) = true then some ((rs.filterMap fun r => rowPrice r w).sum) else none)) M := q
    have hrs : rs.length ≤ 1000 ∧ ∀ r ∈ rs, r ∈ rows := by
      unfold rowsFor at e
      split at e
      · cases e
        refine ⟨Nat.le_trans (List.length_filterMap_le _ _) hs, fun r hr => ?_⟩
        obtain ⟨s, _, h⟩ := List.mem_filterMap.mp hr
        exact (look_mem h).1
      · cases e
    simp only [encRs]
    walk_at "w"
    refine s_klcMap TRow.enc (fun r => encO (rowPrice r w)) (fun _ => rfl) (small_line (by omega)) (fun r hr => ⟨_, rfl, fun QQ k => ?_⟩) ?_
    · walk_at "g"
      exact ⟨r, w, rfl, ok r (hrs.2 r hr), k⟩
    rw [show (rs.map fun r => encO (rowPrice r w)) = (rs.map fun r => rowPrice r w).map encO by rw [List.map_map]; rfl]
    walk_at "g"
    refine s_klcMap encO (fun v => .bl v.isSome) (fun _ => rfl) (small_line (by rw [List.length_map]; omega)) (fun v hv => ⟨_, rfl, fun QQ k => ?_⟩) ?_
    · walk_at "g"
      rw [encO_isN]
      cases v <;> exact k
    walk_at "g"
    refine s_all rfl (blsOf_fun Option.isSome _) ?_
    have ea : ((rs.map fun r => rowPrice r w).map Option.isSome).all id = rs.all fun r => (rowPrice r w).isSome := by rw [List.map_map, List.all_map]; rfl
    rw [ea]
    by_cases h : (rs.all fun r => (rowPrice r w).isSome) = true
    · rw [if_pos h] at q
      rw [h]
      walk_at "g"
      refine s_sum rfl (ints_opt (by rw [List.all_map]; exact h)) ?_
      rw [List.filterMap_map]
      exact s_end q
    · rw [if_neg h] at q
      rw [Bool.eq_false_iff.mpr h]
      walk_at "g"
      exact s_end q
theorem len_law_price : ∀ ds M Q E, sp_law_price ds M Q E → ds.length = 4 := len_price
theorem rd_law_price : Rds t_law_price n_law_price sp_law_price := by
  rintro _ M Q E ⟨rows, z, ss, w, rfl, hl, hs, hk, ok, q⟩
  show t_law_price _ [some (.tup (rows.map TRow.enc)), some (.str z), some (.tup (ss.map .str)), some (.int w), none, none, none, none] M
  unfold t_law_price
  rw [price_eq] at q
  walk_at "g"
  refine s_kforT (ds := ss.map .str) (fun i τ M' => M' = M ∧ (∀ s ∈ ss.take i, (pr1 rows z w s).isSome = true) ∧ ∃ x5 x6 x7, τ = [some (.tup (rows.map TRow.enc)), some (.str z), some (.tup (ss.map .str)), some (.int w), some (.int ((ss.take i).filterMap (pr1 rows z w)).sum), x5, x6, x7]) (fun _ => rfl) ⟨rfl, (fun s hs => by cases hs), _, _, _, rfl⟩ (fun i d τ M' hd ⟨eM, hall, x5, x6, x7, e⟩ => ?_) (fun τ M' ⟨eM, hall, x5, x6, x7, e⟩ => ?_)
  · subst eM; subst e
    rw [List.getElem?_map] at hd
    obtain ⟨s, hp, rfl⟩ := Option.map_eq_some_iff.mp hd
    have hm := List.mem_of_getElem? hp
    have bad : pr1 rows z w s = none → Q .non M' := fun h => by
      rw [if_neg] at q
      · exact q
      · intro h2
        have := List.all_eq_true.mp h2 s hm
        rw [h] at this; cases this
    refine s_gname ?_
    walk_at "g"
    refine s_klcFil TRow.enc (fun r => decide (r.zone = z ∧ r.service = s)) TRow.enc (fun _ => rfl) (small_line (by omega)) (fun r hr => ⟨_, rfl, fun QB k => ?_, fun QQ hq k => ?_⟩) ?_
    · unfold TRow.enc
      walk_at "g"
      · rename_i h1
        have k : QB (decide (r.zone = z ∧ r.service = s)) M' := k
        rw [show decide (r.service = s) = decide (r.zone = z ∧ r.service = s) from decide_eq_decide.mpr ⟨fun h2 => ⟨h1, h2⟩, fun h => h.2⟩]
        exact k
      · rename_i h1
        have k : QB (decide (r.zone = z ∧ r.service = s)) M' := k
        rw [decide_eq_false (fun h => h1 h.1)] at k
        first | exact k | (rw [decide_eq_false h1]; exact k)
    · walk_at "g"
      exact k
    have hd2 : (rows.filter fun r => decide (r.zone = z ∧ r.service = s)).head? = lookR rows z s := List.head?_filter
    cases ef : rows.filter fun r => decide (r.zone = z ∧ r.service = s) with
    | nil =>
      rw [ef] at hd2
      walk_at "w"
      · exact s_end (bad (by unfold pr1; rw [← hd2]; rfl))
      · rename_i hc
        exact absurd rfl hc
    | cons r rs =>
      rw [ef] at hd2
      have hd2 : some r = lookR rows z s := hd2
      have ep : pr1 rows z w s = rowPrice r w := by unfold pr1; rw [← hd2]; rfl
      have hr : r ∈ rows := (look_mem hd2.symm).1
      walk_at "w"
      · rename_i hc
        exact absurd hc (by simp; omega)
      refine s_ix (d := r.enc) rfl (by rw [atI_toNat (by decide)]; rfl) ?_
      walk_at "g"
      refine ⟨r, w, rfl, ok r hr, ?_⟩
      rw [← ep]
      cases e1 : pr1 rows z w s with
      | none =>
        simp only [encO]
        walk_at "w"
        exact s_end (bad e1)
      | some v =>
        simp only [encO]
        walk_at "w"
        refine s_ix (d := r.enc) rfl (by rw [atI_toNat (by decide)]; rfl) ?_
        walk_at "g"
        refine ⟨r, w, rfl, ok r hr, ?_⟩
        rw [← ep, e1]
        simp only [encO]
        walk_at "w"
        have et : ss.take (i + 1) = ss.take i ++ [s] := by rw [List.take_succ, hp]; rfl
        refine ⟨by trivial, fun s' hs' => ?_, some (.str s), some (.lst ((r :: rs).map TRow.enc)), x7, ?_⟩
        · rw [et] at hs'
          rcases List.mem_append.mp hs' with h | h
          · exact hall s' h
          · rw [List.mem_singleton.mp h, e1]; rfl
        · rw [et, List.filterMap_append, List.sum_append]
          have : [s].filterMap (pr1 rows z w) = [v] := by rw [List.filterMap_cons, e1]; rfl
          rw [this, show [v].sum = v by simp]
  · subst eM; subst e
    rw [List.length_map, List.take_length] at hall ⊢
    rw [if_pos (List.all_eq_true.mpr hall)] at q
    walk_at "g"
    exact s_end q

theorem ltCps_irrefl : ∀ a : List Nat, ltCps a a = false
  | [] => rfl
  | x :: xs => by
    show (decide (x < x) || (x == x && ltCps xs xs)) = false
    rw [ltCps_irrefl xs, decide_eq_false (Nat.lt_irrefl x)]; simp
theorem ltCps_cons {a b : Nat} {r t : List Nat} : ltCps (a :: r) (b :: t) = true ↔ a < b ∨ (a = b ∧ ltCps r t = true) := by
  show (decide (a < b) || (a == b && ltCps r t)) = true ↔ _
  simp
theorem ltCps_trans : ∀ {a b c : List Nat}, ltCps a b = true → ltCps b c = true → ltCps a c = true
  | [], b, [], _, h2 => by cases b <;> simp [ltCps] at h2
  | [], _, _ :: _, _, _ => rfl
  | _ :: _, [], _, h1, _ => by cases h1
  | _ :: _, _ :: _, [], _, h2 => by cases h2
  | x :: xs, y :: ys, z :: zs, h1, h2 => by
    rw [ltCps_cons] at h1 h2 ⊢
    rcases h1 with h1 | ⟨rfl, h1⟩
    · rcases h2 with h2 | ⟨rfl, _⟩
      · exact .inl (by omega)
      · exact .inl h1
    · rcases h2 with h2 | ⟨rfl, h2⟩
      · exact .inl h2
      · exact .inr ⟨rfl, ltCps_trans h1 h2⟩
theorem ltCps_tri : ∀ a b : List Nat, ltCps a b = true ∨ a = b ∨ ltCps b a = true
  | [], [] => .inr (.inl rfl)
  | [], _ :: _ => .inl rfl
  | _ :: _, [] => .inr (.inr rfl)
  | x :: xs, y :: ys => by
    rw [ltCps_cons, ltCps_cons]
    by_cases h : x < y
    · exact .inl (.inl h)
    · by_cases h2 : y < x
      · exact .inr (.inr (.inl h2))
      · obtain rfl : x = y := by omega
        rcases ltCps_tri xs ys with h | h | h
        · exact .inl (.inr ⟨rfl, h⟩)
        · exact .inr (.inl (by rw [h]))
        · exact .inr (.inr (.inr ⟨rfl, h⟩))
theorem ltCps_lt : ∀ a b : List Nat, a < b ↔ ltCps a b = true
  | [], [] => by simp [ltCps]
  | [], _ :: _ => by simp [ltCps]
  | _ :: _, [] => by simp [ltCps]
  | x :: xs, y :: ys => by
    rw [ltCps_cons, List.cons_lt_cons_iff, ltCps_lt xs ys]
theorem leC_iff {a b : Str} : leC a b = true ↔ ¬ ltS b a := by
  unfold leC ltS
  rw [Bool.not_eq_true', decide_eq_false_iff_not, ltCps_lt]
theorem str_ext {a b : Str} (h : a.cps.toList = b.cps.toList) : a = b := by
  cases a; cases b
  exact congrArg Str.mk (Array.toList_inj.mp h)
theorem ltS_irrefl {a : Str} : ¬ ltS a a := by unfold ltS; rw [ltCps_irrefl]; exact Bool.false_ne_true
theorem ltS_trans {a b c : Str} (h : ltS a b) (g : ltS b c) : ltS a c := ltCps_trans h g
theorem ltS_tri (a b : Str) : ltS a b ∨ a = b ∨ ltS b a := (ltCps_tri a.cps.toList b.cps.toList).imp id (Or.imp str_ext id)
theorem ltS_asymm {a b : Str} (h : ltS a b) : ¬ ltS b a := fun g => ltS_irrefl (ltS_trans h g)
/-- of pairs -/
theorem lexS_two {a b c d : Str} : lexS [a, b] [c, d] = if a = c then (if b = d then true else leC b d) else leC a c := by
  unfold lexS
  show Ob.lexAt _ _ _ 0 2 = _
  rw [Ob.lexAt_succ, Ob.lexAt_succ, Ob.lexAt_zero]
  show (if decide (a = c) = true then (if decide (b = d) = true then decide ((2 : Nat) ≤ 2) else leC b d) else leC a c) = _
  by_cases h1 : a = c
  · rw [if_pos (decide_eq_true h1), if_pos h1]
    by_cases h2 : b = d
    · rw [if_pos (decide_eq_true h2), if_pos h2]; rfl
    · rw [if_neg (by simpa using h2), if_neg h2]
  · rw [if_neg (by simpa using h1), if_neg h1]
theorem lexS_lt {r q : TRow} (h : KeyLt r q) : lexS [q.zone, q.service] [r.zone, r.service] = false := by
  rw [lexS_two]
  rcases h with h | ⟨e, h⟩
  · rw [if_neg (fun e => ltS_irrefl (e ▸ h)), Bool.eq_false_iff]
    exact fun z => leC_iff.mp z h
  · rw [if_pos e.symm, if_neg (fun e2 => ltS_irrefl (e2 ▸ h)), Bool.eq_false_iff]
    exact fun z => leC_iff.mp z h
theorem lexS_self {a b : Str} : lexS [a, b] [a, b] = true := by rw [lexS_two, if_pos rfl, if_pos rfl]
theorem KeyLt.ne {r q : TRow} (h : KeyLt r q) : ¬ (r.zone = q.zone ∧ r.service = q.service) := by
  rintro ⟨e1, e2⟩
  rcases h with h | ⟨_, h⟩
  · rw [e1] at h; exact ltS_irrefl h
  · rw [e2] at h; exact ltS_irrefl h
theorem keysD_of {rows : List TRow} (h : rows.Pairwise KeyLt) : KeysD rows := h.imp fun h => h.ne
/-- sorted and without doubles -/
theorem rising_lt : ∀ {p : Str} {r : List Str}, risingS p r = true → (p :: r).Nodup → (p :: r).Pairwise ltS
  | p, [], _, _ => by simp
  | p, x :: r, h, hn => by
    have h : (!ltCps x.cps.toList p.cps.toList && risingS x r) = true := h
    rw [Bool.and_eq_true] at h
    have hn2 := List.nodup_cons.mp hn
    have px : ltS p x := by
      rcases ltS_tri p x with h1 | h1 | h1
      · exact h1
      · exact absurd (h1 ▸ List.mem_cons_self) hn2.1
      · have := h.1
        rw [show ltCps x.cps.toList p.cps.toList = true from h1] at this
        cases this
    have ih := rising_lt h.2 hn2.2
    refine List.pairwise_cons.mpr ⟨fun y hy => ?_, ih⟩
    rcases List.mem_cons.mp hy with rfl | hy
    · exact px
    · exact ltS_trans px ((List.pairwise_cons.mp ih).1 y hy)
theorem sorted_lt {ys : List Str} (h : sortedS ys = true) (hn : ys.Nodup) : ys.Pairwise ltS := by
  cases ys with
  | nil => exact .nil
  | cons x r => exact rising_lt h hn
/-! names -/
theorem letC_iff {c : Nat} : letC c = true ↔ 97 ≤ c ∧ c ≤ 122 := by
  unfold letC
  rw [Bool.and_eq_true, leC_iff, leC_iff]
  unfold ltS
  have e1 : ("a" : Str).cps.toList = [97] := by decide +kernel
  have e2 : ("z" : Str).cps.toList = [122] := by decide +kernel
  rw [e1, e2]
  show ¬ ltCps [c] [97] = true ∧ ¬ ltCps [122] [c] = true ↔ _
  rw [ltCps_cons, ltCps_cons]
  show ¬ (c < 97 ∨ (c = 97 ∧ false = true)) ∧ ¬ (122 < c ∨ (122 = c ∧ false = true)) ↔ _
  simp
theorem isNm_iff {z : Str} : isNm z ↔ 1 ≤ z.length ∧ z.length ≤ 12 ∧ ∀ c ∈ z.cps.toList, 97 ≤ c ∧ c ≤ 122 := by
  unfold isNm
  show (decide (1 ≤ z.length) && (decide (z.length ≤ 12) && ((List.range z.cps.size).map fun i => letC (z.cps.getD i 0)).all id)) = true ↔ _
  rw [Bool.and_eq_true, Bool.and_eq_true, decide_eq_true_iff, decide_eq_true_iff, List.all_map, List.all_eq_true]
  refine and_congr Iff.rfl (and_congr Iff.rfl ⟨fun h c hc => ?_, fun h i hi => ?_⟩)
  · obtain ⟨i, hi, rfl⟩ := List.getElem_of_mem hc
    have hi2 : i < z.cps.size := by simpa using hi
    have := h i (List.mem_range.mpr hi2)
    have := letC_iff.mp this
    rw [Array.getD_eq_getD_getElem?, Array.getElem?_eq_getElem hi2] at this
    simpa using this
  · have hi2 := List.mem_range.mp hi
    refine letC_iff.mpr ?_
    rw [Array.getD_eq_getD_getElem?, Array.getElem?_eq_getElem hi2]
    exact h _ (by simp)
/-! right rows have no fault -/
theorem stepsOk_of {ps : List (Int × Option Int)} (h : StepsOk ps 60) : stepsOk (.tup (ps.map encS)) = true := by
  show (decide ((ps.map encS).length ≤ 60) && (((ps.map encS).map fun x => isRow x 2).all id && ((ps.map encS).all stepOk && ascB ((ps.map encS).map fun x => intD (fstD x))))) = true
  rw [List.length_map, decide_eq_true h.len, Bool.true_and, Bool.and_eq_true, Bool.and_eq_true]
  refine ⟨?_, ?_, ?_⟩
  · rw [List.all_map, List.all_map, List.all_eq_true]
    exact fun p _ => rfl
  · rw [List.all_map, List.all_eq_true]
    intro p hp
    obtain ⟨t0, t1⟩ := h.top p hp
    show ((decide (0 ≤ p.1) && decide (p.1 ≤ 3999)) && (D.isN (encO p.2) || betw (encO p.2) 0 (some 1000000000))) = true
    rw [decide_eq_true t0, decide_eq_true t1]
    cases e : p.2 with
    | none => rfl
    | some v =>
      obtain ⟨v0, v1⟩ := h.am p hp v e
      show (true && true && (false || (decide (0 ≤ v) && decide (v ≤ 1000000000)))) = true
      rw [decide_eq_true v0, decide_eq_true v1]; rfl
  · rw [List.map_map]
    unfold ascB
    rw [List.all_map, List.all_eq_true, List.length_map]
    intro i hi
    have hi := List.mem_range.mp hi
    refine decide_eq_true ?_
    have g : ∀ j (hj : j < ps.length), (ps.map ((fun x => intD (fstD x)) ∘ encS)).getD j 0 = ps[j].1 := fun j hj => getD_of (by rw [List.getElem?_map, List.getElem?_eq_getElem hj]; rfl)
    rw [g i (by omega), g (i + 1) (by omega)]
    exact List.pairwise_iff_getElem.mp h.asc i (i + 1) (by omega) (by omega) (by omega)
theorem moreOk_of {m : Option (Int × Int)} (h : MoreOk m) : moreOk (encM m) = true := by
  cases m with
  | none => rfl
  | some p =>
    obtain ⟨h1, h2, h3, h4⟩ := h p rfl
    show (decide (1 ≤ p.1) && decide (p.1 ≤ 1000) && (decide (0 ≤ p.2) && decide (p.2 ≤ 1000000000))) = true
    rw [decide_eq_true h1, decide_eq_true h2, decide_eq_true h3, decide_eq_true h4]; rfl
def keyR (r : TRow) : List Str := [r.zone, r.service]
theorem rowFault_ok {r : TRow} (h : RowOk r) {b : Option (List Str)} (hb : (b.any fun b => lexS [r.zone, r.service] b) = false) : rowFault r.enc b = none := by
  show (if nameOk (.str r.zone) = false then some ("zone" : Str) else if nameOk (.str r.service) = false then some "service" else if (b.any fun b => lexS [r.zone, r.service] b) = true then some "order" else if stepsOk (.tup (r.steps.map encS)) = false then some "steps" else if moreOk (encM r.more) = false then some "more" else none) = none
  rw [if_neg (by rw [show nameOk (.str r.zone) = true from h.z]; simp), if_neg (by rw [show nameOk (.str r.service) = true from h.s]; simp), if_neg (by rw [hb]; simp), if_neg (by rw [stepsOk_of h.st]; simp), if_neg (by rw [moreOk_of h.mo]; simp)]
theorem rowsFault_ok : ∀ {rows : List TRow} {b : Option (List Str)}, (∀ r ∈ rows, RowOk r) → rows.Pairwise KeyLt → (∀ k, b = some k → ∃ q : TRow, k = keyR q ∧ ∀ r ∈ rows, KeyLt q r) → rowsFault (rows.map TRow.enc) b = none
  | [], _, _, _, _ => rfl
  | r :: rs, b, h1, h2, h3 => by
    have h2 := List.pairwise_cons.mp h2
    have e := rowFault_ok (h1 r List.mem_cons_self) (b := b) (by
      cases b with
      | none => rfl
      | some k =>
        obtain ⟨q, rfl, hq⟩ := h3 k rfl
        exact lexS_lt (hq r List.mem_cons_self))
    show (match rowFault r.enc b with
      | some w => some w
      | none => rowsFault (rs.map TRow.enc) (some (keyS r.enc))) = none
    rw [e]
    exact rowsFault_ok (fun r hr => h1 r (List.mem_cons_of_mem _ hr)) h2.2 fun k ek => by cases ek; exact ⟨r, rfl, h2.1⟩
theorem goods_of {xs : List D} (h : ∀ x ∈ xs, good x = true) : goods xs = true := by
  induction xs with
  | nil => simp [goods]
  | cons x xs ih =>
    simp only [goods, Bool.and_eq_true]
    exact ⟨h x List.mem_cons_self, ih fun y hy => h y (List.mem_cons_of_mem _ hy)⟩
theorem good_of {xs : List D} (h : ∀ x ∈ xs, good x = true) : good (.tup xs) = true := by
  simp only [good]; exact goods_of h
theorem good_O (v : Option Int) : good (encO v) = true := by cases v <;> simp [encO, good]
theorem good_nm {z : Str} (h : isNm z) : good (.str z) = true := by
  have := (isNm_iff.mp h).2.1
  simp only [good]
  exact decide_eq_true (by omega)
theorem good_steps (ps : List (Int × Option Int)) : good (.tup (ps.map encS)) = true := good_of fun x hx => by
  obtain ⟨p, _, rfl⟩ := List.mem_map.mp hx
  refine good_of fun y hy => ?_
  simp only [List.mem_cons, List.not_mem_nil, or_false] at hy
  rcases hy with rfl | rfl
  · simp [good]
  · exact good_O _
theorem good_M (m : Option (Int × Int)) : good (encM m) = true := by
  cases m with
  | none => simp [encM, good]
  | some p => simp [encM, good, goods]
theorem good_row {r : TRow} (h : RowOk r) : good r.enc = true := good_of fun x hx => by
  simp only [List.mem_cons, List.not_mem_nil, or_false] at hx
  rcases hx with rfl | rfl | rfl | rfl
  · exact good_nm h.z
  · exact good_nm h.s
  · exact good_steps _
  · exact good_M _
theorem good_tar {rows : List TRow} (h : ∀ r ∈ rows, RowOk r) : good (.tup (rows.map TRow.enc)) = true := good_of fun x hx => by
  obtain ⟨r, hr, rfl⟩ := List.mem_map.mp hx
  exact good_row (h r hr)
theorem rows_four (rows : List TRow) : ((rows.map TRow.enc).map fun r => isRow r 4).all id = true := by
  rw [List.all_map, List.all_map, List.all_eq_true]
  exact fun _ _ => rfl
theorem tariff_ok {rows : List TRow} (hl : rows.length ≤ 40) (h1 : ∀ r ∈ rows, RowOk r) (h2 : rows.Pairwise KeyLt) : tariffFault (.tup (rows.map TRow.enc)) = none := by
  show (if (rows.map TRow.enc).length ≤ 40 ∧ ((rows.map TRow.enc).map fun r => isRow r 4).all id = true then rowsFault (rows.map TRow.enc) none else some "form") = none
  rw [if_pos ⟨by rw [List.length_map]; exact hl, rows_four rows⟩]
  exact rowsFault_ok h1 h2 fun k e => by cases e
theorem rowsOk_of {r : TRow} (h : RowOk r) : r.Ok := ⟨Nat.le_trans h.st.len (by decide), fun p hp => by have := h.st.top p hp; omega, h.mo⟩

/-- a cell left out -/
def dropM (M : Mp) (t : Addr) : Mp := fun b => if b = t then none else M b
theorem dropM_le {M : Mp} {t : Addr} : ∀ b m, dropM M t b = some m → M b = some m := fun b m e => by
  unfold dropM at e
  by_cases c : b = t
  · rw [if_pos c] at e; cases e
  · rwa [if_neg c] at e
theorem dropM_ne {M : Mp} {t b : Addr} (h : b ≠ t) : dropM M t b = M b := if_neg h
theorem dropM_same {M : Mp} {t : Addr} : dropM M t t = none := if_pos rfl

/-- a list that grows beside the script -/
structure Gr (M : Mp) (a t : Addr) (xs : List D) (M' : Mp) : Prop where
  st : StOk M' a
  at' : M' t = some (.lst xs)
  same : ∀ b, b ≠ a → b ≠ t → M' b = M b
theorem Gr.drawn {M M' M2 : Mp} {a t : Addr} {xs : List D} (h : Gr M a t xs M') (hat : a ≠ t) (D : Drawn M' a M2) : Gr M a t xs M2 := ⟨D.ok, by rw [D.same t (Ne.symm hat)]; exact h.at', fun b n1 n2 => by rw [D.same b n1, h.same b n1 n2]⟩
theorem Gr.add {M M' : Mp} {a t : Addr} {xs : List D} (h : Gr M a t xs M') (hat : a ≠ t) (ys : List D) : Gr M a t ys (updM M' t (.lst ys)) := by
  refine ⟨?_, updM_same, fun b n1 n2 => by rw [updM_ne n2, h.same b n1 n2]⟩
  obtain ⟨ns, i, c, k, b, hM, hi⟩ := h.st.ex
  exact ⟨⟨ns, i, c, k, b, by rw [updM_ne hat]; exact hM, hi⟩⟩
theorem Gr.start {M M1 : Mp} {a t : Addr} (D : Drawn M a M1) (ht : M1 t = none) : a ≠ t ∧ Gr M a t [] (updM M1 t (.lst [])) := by
  have hat : a ≠ t := fun z => by
    subst z
    obtain ⟨ns, i, c, k, b, hM, _⟩ := D.ok.ex
    rw [ht] at hM; cases hM
  refine ⟨hat, ?_, updM_same, fun b n1 n2 => by rw [updM_ne n2]; exact D.same b n1⟩
  obtain ⟨ns, i, c, k, b, hM, hi⟩ := D.ok.ex
  exact ⟨⟨ns, i, c, k, b, by rw [updM_ne hat]; exact hM, hi⟩⟩
theorem Gr.drop {M M' : Mp} {a t : Addr} {xs : List D} (h : Gr M a t xs M') (hat : a ≠ t) (ht : M t = none) : Drawn M a (dropM M' t) := by
  obtain ⟨ns, i, c, k, b, hM, hi⟩ := h.st.ex
  refine ⟨⟨ns, i, c, k, b, by rw [dropM_ne hat]; exact hM, hi⟩, fun b hb => ?_⟩
  by_cases z : b = t
  · rw [z, dropM_same, ht]
  · rw [dropM_ne z, h.same b hb z]
theorem s_ixB {xs : List D} {x y : D} {M : Mp} {Q : QD} {b : Bool} (h : Q (if b then y else x) M) : dIx (.lst [x, y]) (.int (if b = true then 1 else 0)) M Q := by
  cases b with
  | true => exact s_ix (d := y) rfl rfl h
  | false => exact s_ix (d := x) rfl rfl h

/-- the state's own cell, and what may be told at the end -/
structure Kp (M : Mp) (a : Addr) (M' : Mp) : Prop where
  st : StOk M' a
  fin : ∃ M2 : Mp, (∀ b m, M2 b = some m → M' b = some m) ∧ Drawn M a M2
theorem Kp.self {M : Mp} {a : Addr} (h : StOk M a) : Kp M a M := ⟨h, M, fun _ _ e => e, Drawn.self h⟩
theorem Kp.drawn {M M' M2 : Mp} {a : Addr} (h : Kp M a M') (D : Drawn M' a M2) : Kp M a M2 := by
  obtain ⟨N, h1, h2⟩ := h.fin
  refine ⟨D.ok, fun b => if b = a then M2 a else N b, fun b m e => ?_, ?_, fun b hb => ?_⟩
  · have e : (if b = a then M2 a else N b) = some m := e
    by_cases z : b = a
    · rw [if_pos z] at e; rw [z]; exact e
    · rw [if_neg z] at e; rw [D.same b z]; exact h1 b m e
  · obtain ⟨ns, i, c, k, b, hM, hi⟩ := D.ok.ex
    exact ⟨⟨ns, i, c, k, b, by show (if a = a then M2 a else N a) = _; rw [if_pos rfl]; exact hM, hi⟩⟩
  · show (if b = a then M2 a else N b) = M b
    rw [if_neg hb]; exact h2.same b hb
theorem Kp.new {M M' : Mp} {a t : Addr} {m : MO} (h : Kp M a M') (ht : M' t = none) : a ≠ t ∧ Kp M a (updM M' t m) := by
  have hat : a ≠ t := fun z => by
    subst z
    obtain ⟨ns, i, c, k, b, hM, _⟩ := h.st.ex
    rw [ht] at hM; cases hM
  obtain ⟨N, h1, h2⟩ := h.fin
  refine ⟨hat, ?_, N, fun b m' e => ?_, h2⟩
  · obtain ⟨ns, i, c, k, b, hM, hi⟩ := h.st.ex
    exact ⟨⟨ns, i, c, k, b, by rw [updM_ne hat]; exact hM, hi⟩⟩
  · rw [updM_ne (fun z => by subst z; rw [h1 _ m' e] at ht; cases ht)]; exact h1 b m' e
theorem Kp.end {M M' : Mp} {a : Addr} {Q : QD} {d : D} (h : Kp M a M') (q : ∀ M2, Drawn M a M2 → Q d M2) : rtQ Q d M' := by
  obtain ⟨N, h1, h2⟩ := h.fin
  exact s_endL (M2 := N) h1 (q N h2)
theorem Gr.kp {M M' : Mp} {a t : Addr} {xs : List D} (h : Gr M a t xs M') (hat : a ≠ t) (ht : M t = none) : Kp M a M' := ⟨h.st, dropM M' t, dropM_le, h.drop hat ht⟩
theorem all_flat_int : ∀ xs : List Int, (xs.map D.int).all D.flat = true
  | [] => rfl
  | x :: xs => by
    show (true && (xs.map D.int).all D.flat) = true
    rw [all_flat_int xs]; rfl

theorem s_ixAny {is : List Int} {k : Int} {M : Mp} {Q : QD} (h0 : 0 ≤ k) (h1 : k < is.length) (h : ∀ i ∈ is, Q (.int i) M) : dIx (.lst (is.map .int)) (.int k) M Q := by
  have hk : k.toNat < is.length := by omega
  exact s_ix (d := .int is[k.toNat]) rfl (by rw [atI_toNat h0, List.getElem?_map, List.getElem?_eq_getElem hk]; rfl) (h _ (List.getElem_mem hk))
theorem s_ixMem {xs : List D} {d : Int} {M : Mp} {Q : QD} (d0 : 0 ≤ d) (d1 : d < xs.length) (h : ∀ x ∈ xs, Q x M) : dIx (.lst xs) (.int d) M Q := by
  have hk : d.toNat < xs.length := by omega
  exact s_ix (d := xs[d.toNat]) rfl (by rw [atI_toNat d0, List.getElem?_eq_getElem hk]) (h _ (List.getElem_mem hk))

theorem letters_at {d : Int} (h0 : 0 ≤ d) (h1 : d < 26) : ∃ c : Nat, atI (("abcdefghijklmnopqrstuvwxyz" : Str).cps.toList) d = some c ∧ c = 97 + d.toNat := by
  have e : ("abcdefghijklmnopqrstuvwxyz" : Str).cps.toList = (List.range 26).map (97 + ·) := by decide +kernel
  rw [e, atI_toNat h0]
  refine ⟨97 + d.toNat, ?_, rfl⟩
  rw [List.getElem?_map, List.getElem?_range (by omega)]; rfl
theorem letters_len : ("abcdefghijklmnopqrstuvwxyz" : Str).length ≤ sizeLine := by rw [sizeLine_eq]; decide +kernel
theorem s_ixS {z : Str} {i : Int} {c : Nat} {M : Mp} {Q : QD} (hl : z.length ≤ sizeLine) (e : atI z.cps.toList i = some c) (h : Q (.str ⟨#[c]⟩) M) : dIx (.str z) (.int i) M Q := by
  show (match atI z.cps.toList i with
    | some c => z.length ≤ sizeLine ∧ Q (.str ⟨#[c]⟩) M
    | none => False)
  rw [e]; exact ⟨hl, h⟩
theorem s_addS {a b : Str} {M : Mp} {Q : QD} (hl : a.length + b.length ≤ sizeLine) (h : Q (.str (a ++ b)) M) : dAdd (.str a) (.str b) M Q := ⟨hl, h⟩
theorem cps_add {a b : Str} : (a ++ b).cps.toList = a.cps.toList ++ b.cps.toList := by
  show (a.cps ++ b.cps).toList = _
  simp
theorem len_add {a b : Str} : (a ++ b).length = a.length + b.length := by
  show (a.cps ++ b.cps).size = a.cps.size + b.cps.size
  simp
theorem len_law_name : ∀ ds M Q E, sp_law_name ds M Q E → ds.length = 1 := by rintro _ _ _ _ ⟨_, rfl, _⟩; rfl
theorem rd_law_name : Rds t_law_name n_law_name sp_law_name := by
  rintro _ M Q E ⟨a, rfl, st, q⟩
  show t_law_name _ [some (.ref a), none, none, none, none] M
  unfold t_law_name
  walk_at "g"
  refine ⟨a, 3, rfl, by decide, by decide, st, fun d1 M1 d10 d11 D1 => ?_⟩
  walk_at "g"
  refine ⟨a, 12, rfl, by decide, by decide, D1.ok, fun d2 M2 d20 d21 D2 => ?_⟩
  walk_at "g"
  refine ⟨a, 2, rfl, by decide, by decide, D2.ok, fun d3 M3 d30 d31 D3 => ?_⟩
  have DD := D1.trans (D2.trans D3)
  refine s_kop2 ?_
  refine s_ixAny (is := [d1, d2]) d30 d31 fun L hL => ?_
  have hL : 0 ≤ L ∧ L ≤ 11 := by
    simp only [List.mem_cons, List.not_mem_nil, or_false] at hL
    rcases hL with rfl | rfl <;> omega
  walk_at "g"
  refine s_kr1 (by omega) (by omega) ?_
  obtain ⟨n, hn⟩ : ∃ n : Nat, (1 + L).toNat = n := ⟨_, rfl⟩
  rw [hn]
  refine s_kforR (fun i τ M' => Drawn M a M' ∧ ∃ (z : Str) (x4 : Option D), z.length = i ∧ (∀ c ∈ z.cps.toList, 97 ≤ c ∧ c ≤ 122) ∧ τ = [some (.ref a), some (.str "abcdefghijklmnopqrstuvwxyz"), some (.int (1 + L)), some (.str z), x4]) ⟨DD, "", none, rfl, (fun c hc => by cases hc), rfl⟩ (fun i τ M' hi ⟨D4, z, x4, hz, hc, e⟩ => ?_) (fun τ M' ⟨D4, z, x4, hz, hc, e⟩ => ?_)
  · subst e
    show dSet _ _ _ [some (.ref a), some (.str "abcdefghijklmnopqrstuvwxyz"), some (.int (1 + L)), some (.str z), some (.int (0 + i))] M'
    walk_at "g"
    refine ⟨a, 26, rfl, by decide, by decide, D4.ok, fun d M5 d0 d1 D5 => ?_⟩
    obtain ⟨c, ec, hc2⟩ := letters_at d0 d1
    walk_at "g"
    refine s_ixS letters_len ec ?_
    walk_at "g"
    refine s_addS (small_line (by show z.length + 1 ≤ _; omega)) ?_
    walk_at "g"
    refine ⟨D4.trans D5, z ++ ⟨#[c]⟩, _, by rw [len_add, hz]; rfl, fun c' hc' => ?_, rfl⟩
    rw [cps_add] at hc'
    rcases List.mem_append.mp hc' with h | h
    · exact hc c' h
    · have : c' = c := by simpa using h
      omega
  · subst e
    walk_at "g"
    exact s_end (q z _ (isNm_iff.mpr ⟨by omega, by omega, hc⟩) D4)
theorem len_law_amount : ∀ ds M Q E, sp_law_amount ds M Q E → ds.length = 1 := by rintro _ _ _ _ ⟨_, rfl, _⟩; rfl
theorem rd_law_amount : Rds t_law_amount n_law_amount sp_law_amount := by
  rintro _ M Q E ⟨a, rfl, st, q⟩
  show t_law_amount _ [some (.ref a), none] M
  unfold t_law_amount
  walk_at "g"
  refine ⟨a, 9, rfl, by decide, by decide, st, fun kd M1 d0 d1 D1 => ?_⟩
  walk_at "g"
  · exact s_end (q 0 _ (by decide) (by decide) D1)
  · refine s_I ⟨by decide, by decide, by decide⟩ ?_
    rw [show (10 : Int) ^ (9 : Int).toNat = 1000000000 by decide]
    walk_at "g"
    refine ⟨a, 3, rfl, by decide, by decide, D1.ok, fun e M2 e0 e1 D2 => ?_⟩
    walk_at "g"
    exact s_end (q _ _ (by omega) (by omega) (D1.trans D2))
  · refine s_I (by decide) ?_
    refine s_kop2 ?_
    refine s_ixAny (is := [12, 300, 5000]) (Int.emod_nonneg _ (by decide)) (Int.emod_lt_of_pos _ (by decide)) fun L hL => ?_
    have hL : 0 < L ∧ L ≤ 5000 := by
      simp only [List.mem_cons, List.not_mem_nil, or_false] at hL
      rcases hL with rfl | rfl | rfl <;> omega
    walk_at "g"
    refine ⟨a, L, rfl, by omega, by omega, D1.ok, fun e M2 e0 e1 D2 => ?_⟩
    walk_at "g"
    exact s_end (q _ _ e0 (by omega) (D1.trans D2))
theorem len_law_more : ∀ ds M Q E, sp_law_more ds M Q E → ds.length = 1 := by rintro _ _ _ _ ⟨_, rfl, _⟩; rfl
theorem rd_law_more : Rds t_law_more n_law_more sp_law_more := by
  rintro _ M Q E ⟨a, rfl, st, q⟩
  show t_law_more _ [some (.ref a), none] M
  unfold t_law_more
  walk_at "g"
  refine ⟨a, 4, rfl, by decide, by decide, st, fun kd M1 d0 d1 D1 => ?_⟩
  walk_at "g"
  · exact s_end (q none _ (fun p e => by cases e) D1)
  · refine ⟨a, 6, rfl, by decide, by decide, D1.ok, fun e1 M2 e10 e11 D2 => ?_⟩
    walk_at "g"
    refine ⟨a, 20, rfl, by decide, by decide, D2.ok, fun e2 M3 e20 e21 D3 => ?_⟩
    walk_at "g"
    refine ⟨a, 1000, rfl, by decide, by decide, D3.ok, fun e3 M4 e30 e31 D4 => ?_⟩
    walk_at "g"
    refine ⟨a, 3, rfl, by decide, by decide, D4.ok, fun e4 M5 e40 e41 D5 => ?_⟩
    refine s_kop2 ?_
    refine s_ixAny (is := [1 + e1, 1 + e2, 1 + e3]) e40 e41 fun L hL => ?_
    have hL : 1 ≤ L ∧ L ≤ 1000 := by
      simp only [List.mem_cons, List.not_mem_nil, or_false] at hL
      rcases hL with rfl | rfl | rfl <;> omega
    walk_at "g"
    refine ⟨a, rfl, D5.ok, fun v M6 v0 v1 D6 => ?_⟩
    walk_at "g"
    exact s_end (q (some (L, v)) _ (fun p e => by cases e; exact ⟨hL.1, hL.2, v0, v1⟩) (D1.trans (D2.trans (D3.trans (D4.trans (D5.trans D6))))))
theorem StepsOk.snoc {ps : List (Int × Option Int)} {n : Nat} {top : Int} {v : Option Int} (h : StepsOk ps n) (ht : ∀ p ∈ ps, p.1 < top) (t0 : 0 ≤ top) (t1 : top ≤ 3999) (hv : ∀ x, v = some x → 0 ≤ x ∧ x ≤ 1000000000) : StepsOk (ps ++ [(top, v)]) (n + 1) := by
  refine ⟨by rw [List.length_append]; show _ + 1 ≤ _; have := h.len; omega, List.pairwise_append.mpr ⟨h.asc, by simp, fun p hp q hq => ?_⟩, fun p hp => ?_, fun p hp => ?_⟩
  · rw [List.mem_singleton.mp hq]; exact ht p hp
  · rcases List.mem_append.mp hp with hp | hp
    · exact h.top p hp
    · rw [List.mem_singleton.mp hp]; exact ⟨t0, t1⟩
  · rcases List.mem_append.mp hp with hp | hp
    · exact h.am p hp
    · rw [List.mem_singleton.mp hp]; exact hv
theorem StepsOk.mono {ps : List (Int × Option Int)} {n m : Nat} (h : StepsOk ps n) (hm : n ≤ m) : StepsOk ps m := ⟨Nat.le_trans h.len hm, h.asc, h.top, h.am⟩
theorem steps_next {M M' : Mp} {a t : Addr} {ps : List (Int × Option Int)} {n i : Nat} {top : Int} {x4 : Option D} {nx bk ct : SD → Mp → Prop} {rt : QD} (G : Gr M a t (ps.map encS) M') (hat : a ≠ t) (h1 : StepsOk ps n) (h2 : ∀ p ∈ ps, p.1 < top + 1) (t0 : 0 ≤ top) (h : ∀ top' M', Gr M a t (ps.map encS) M' → (∀ p ∈ ps, p.1 < top') → 0 ≤ top' → nx [some (.ref a), some (.ref t), some (.int top'), some (.int (0 + i)), x4] M') :
    t_law_steps_c2_1 ⟨nx, rt, bk, ct⟩ [some (.ref a), some (.ref t), some (.int top), some (.int (0 + i)), x4] M' := by
  unfold t_law_steps_c2_1
  walk_at "g"
  refine ⟨a, 3, rfl, by decide, by decide, G.st, fun e1 M1 e10 e11 D1 => ?_⟩
  have G := G.drawn hat D1
  walk_at "g"
  refine ⟨a, 25, rfl, by decide, by decide, G.st, fun e2 M2 e20 e21 D2 => ?_⟩
  have G := G.drawn hat D2
  walk_at "g"
  refine ⟨a, 1500, rfl, by decide, by decide, G.st, fun e3 M3 e30 e31 D3 => ?_⟩
  have G := G.drawn hat D3
  walk_at "g"
  refine ⟨a, 8, rfl, by decide, by decide, G.st, fun e4 M4 e40 e41 D4 => ?_⟩
  have G := G.drawn hat D4
  refine s_kop2 ?_
  refine s_ixAny (is := [0, 0, 0, 1, 1, 1, 1, 2]) e40 e41 fun k hk => ?_
  have hk : 0 ≤ k ∧ k ≤ 2 := by
    simp only [List.mem_cons, List.not_mem_nil, or_false] at hk
    omega
  refine s_kop2 ?_
  refine s_ixAny (is := [e1, e2, e3]) hk.1 (by show k < 3; omega) fun L hL => ?_
  have hL : 0 ≤ L := by
    simp only [List.mem_cons, List.not_mem_nil, or_false] at hL
    rcases hL with rfl | rfl | rfl <;> omega
  walk_at "g"
  exact h _ _ G (fun p hp => by have := h2 p hp; omega) (by omega)
theorem len_law_steps : ∀ ds M Q E, sp_law_steps ds M Q E → ds.length = 1 := by rintro _ _ _ _ ⟨_, rfl, _⟩; rfl
theorem rd_law_steps : Rds t_law_steps n_law_steps sp_law_steps := by
  rintro _ M Q E ⟨a, rfl, st, q⟩
  show t_law_steps _ [some (.ref a), none, none, none, none] M
  unfold t_law_steps
  walk_at "g"
  refine fun t ht => ?_
  obtain ⟨hat, G⟩ := Gr.start (Drawn.self st) ht
  show kSet _ 1 _ (.ref t) (updM M t (.lst []))
  generalize updM M t (.lst []) = M0 at *
  walk_at "g"
  refine ⟨a, 3, rfl, by decide, by decide, G.st, fun d1 M1 d10 d11 D1 => ?_⟩
  have G := G.drawn hat D1
  walk_at "g"
  refine ⟨a, 20, rfl, by decide, by decide, G.st, fun d2 M2 d20 d21 D2 => ?_⟩
  have G := G.drawn hat D2
  walk_at "g"
  refine s_mul (.inl (.inl (sm64 (by omega)))) ?_
  have top0 : 0 ≤ d1 * d2 := Int.mul_nonneg d10 d20
  generalize d1 * d2 = top at *
  walk_at "g"
  refine ⟨a, 7, rfl, by decide, by decide, G.st, fun n M3 n0 n1 D3 => ?_⟩
  have G := G.drawn hat D3
  walk_at "g"
  refine s_kr1 (by omega) (by omega) ?_
  obtain ⟨m, hm⟩ : ∃ m : Nat, n.toNat = m := ⟨_, rfl⟩
  rw [hm]
  refine s_kforR (fun i τ M' => ∃ (ps : List (Int × Option Int)) (top : Int) (x3 x4 : Option D), Gr M a t (ps.map encS) M' ∧ StepsOk ps i ∧ (∀ p ∈ ps, p.1 < top) ∧ 0 ≤ top ∧ τ = [some (.ref a), some (.ref t), some (.int top), x3, x4]) ⟨[], top, _, _, G, ⟨by simp, by simp, (fun p hp => by cases hp), (fun p hp => by cases hp)⟩, (fun p hp => by cases hp), top0, rfl⟩ (fun i τ M' hi ⟨ps, top, x3, x4, G, hps, hlt, t0, e⟩ => ?_) (fun τ M' ⟨ps, top, x3, x4, G, hps, hlt, t0, e⟩ => ?_)
  · subst e
    show dSeq _ _ _ [some (.ref a), some (.ref t), some (.int top), some (.int (0 + i)), x4] M'
    walk_at "g"
    · refine ⟨a, rfl, G.st, fun v M1 v0 v1 D1 => ?_⟩
      have G := G.drawn hat D1
      walk_at "g"
      refine ⟨a, 8, rfl, by decide, by decide, G.st, fun e M2 e0 e1 D2 => ?_⟩
      have G := G.drawn hat D2
      have hGt := G.at'
      have lt1 : ∀ o : Option Int, ∀ p ∈ ps ++ [(top, o)], p.1 < top + 1 := fun o p hp => by
        rcases List.mem_append.mp hp with hp | hp
        · have := hlt p hp; omega
        · rw [List.mem_singleton.mp hp]; show top < top + 1; omega
      have G2 : ∀ o : Option Int, Gr M a t ((ps ++ [(top, o)]).map encS) (updM M2 t (.lst (ps.map encS ++ [encS (top, o)]))) := fun o => by rw [List.map_append]; exact G.add hat _
      have hl := hps.len
      walk_at "g"
      · refine s_append G.at' (by rw [List.length_map, sizeLine_eq]; omega) ?_
        walk_at "g"
        exact steps_next (x4 := some .non) (G2 none) hat (hps.snoc hlt (by omega) (by omega) (fun x e => by cases e)) (lt1 none) (by omega) fun top' M' G hl t0 => ⟨_, top', _, _, G, hps.snoc hlt (by assumption) (by omega) (fun x e => by cases e), hl, t0, rfl⟩
      · refine s_append G.at' (by rw [List.length_map, sizeLine_eq]; omega) ?_
        walk_at "g"
        exact steps_next (x4 := some (.int v)) (G2 (some v)) hat (hps.snoc hlt (by omega) (by omega) fun x e => by cases e; exact ⟨v0, v1⟩) (lt1 (some v)) (by omega) fun top' M' G hl t0' => ⟨_, top', _, _, G, hps.snoc hlt (by omega) (by omega) (fun x e => by cases e; exact ⟨v0, v1⟩), hl, t0', rfl⟩
    · exact steps_next (n := i + 1) G hat (hps.mono (by omega)) (fun p hp => by have := hlt p hp; omega) t0 fun top' M' G hl t0 => ⟨ps, top', _, _, G, hps.mono (by omega), hl, t0, rfl⟩
  · subst e
    unfold t_law_steps_c3
    have hm6 : m ≤ 6 := by omega
    walk_at "g"
    refine ⟨a, 12, rfl, by decide, by decide, G.st, fun e M2 e0 e1 D2 => ?_⟩
    have G := G.drawn hat D2
    have hGt := G.at'
    have hl := hps.len
    walk_at "g"
    · refine ⟨a, rfl, G.st, fun v M3 v0 v1 D3 => ?_⟩
      have G := G.drawn hat D3
      have hGt := G.at'
      walk_at "g"
      refine s_append G.at' (by rw [List.length_map, sizeLine_eq]; omega) ?_
      have G := G.add hat (ps.map encS ++ [encS (3999, some v)])
      have hGt := G.at'
      show kDrop _ _ _ (updM M3 t (.lst (ps.map encS ++ [encS (3999, some v)])))
      generalize updM M3 t (.lst (ps.map encS ++ [encS (3999, some v)])) = M4 at *
      walk_at "g"
      rw [show ps.map encS ++ [encS (3999, some v)] = (ps ++ [(3999, some v)]).map encS by rw [List.map_append]; rfl]
      refine (G.kp hat ht).end fun M5 D5 => q _ _ ((hps.snoc (fun p hp => ?_) (by decide) (by decide) fun x e => by cases e; exact ⟨v0, v1⟩).mono (by omega)) D5
      have := hlt p hp; omega
    · exact (G.kp hat ht).end fun M5 D5 => q _ _ (hps.mono (by omega)) D5
    · exact (G.kp hat ht).end fun M5 D5 => q _ _ (hps.mono (by omega)) D5

theorem any_str {z : Str} : ∀ ys : List Str, ((ys.map D.str).any fun e => eqD e (.str z)) = decide (z ∈ ys)
  | [] => rfl
  | y :: ys => by
    rw [List.map_cons, List.any_cons, any_str ys]
    show ((y == z) || decide (z ∈ ys)) = _
    by_cases h : y = z
    · subst h; simp
    · rw [show (y == z) = false from beq_eq_false_iff_ne.mpr h, Bool.false_or]
      exact decide_eq_decide.mpr ⟨fun h2 => List.mem_cons_of_mem _ h2, fun h2 => (List.mem_cons.mp h2).elim (fun e => absurd e.symm h) id⟩
theorem flat_strs (ys : List Str) : (ys.map D.str).all D.flat = true := by
  rw [List.all_map, List.all_eq_true]
  exact fun _ _ => rfl
theorem lsOf_at {M : Mp} {t : Addr} {xs : List D} (h : M t = some (.lst xs)) : lsOf M (.ref t) = some xs := lsOf_ref h
theorem len_law_some_names : ∀ ds M Q E, sp_law_some_names ds M Q E → ds.length = 2 := by rintro _ _ _ _ ⟨_, _, rfl, _⟩; rfl
theorem rd_law_some_names : Rds t_law_some_names n_law_some_names sp_law_some_names := by
  rintro _ M Q E ⟨a, n, rfl, n0, n1, st, q⟩
  show t_law_some_names _ [some (.ref a), some (.int n), none, none, none] M
  unfold t_law_some_names
  walk_at "g"
  refine fun t ht => ?_
  obtain ⟨hat, G⟩ := Gr.start (Drawn.self st) ht
  show kSet _ 2 _ (.ref t) (updM M t (.lst []))
  generalize updM M t (.lst []) = M0 at *
  walk_at "g"
  refine s_kr1 (by omega) (by omega) ?_
  rw [show ((n : Int)).toNat = n by omega]
  refine s_kforR (fun i τ M' => ∃ (ys : List Str) (x3 x4 : Option D), Gr M a t (ys.map .str) M' ∧ ys.Nodup ∧ (∀ z ∈ ys, isNm z) ∧ ys.length ≤ i ∧ (0 < i → ys ≠ []) ∧ τ = [some (.ref a), some (.int n), some (.ref t), x3, x4]) ⟨[], _, _, G, by simp, by simp, by simp, fun z => by omega, rfl⟩ (fun i τ M' hi ⟨ys, x3, x4, G, hn, hz, hl, hne, e⟩ => ?_) (fun τ M' ⟨ys, x3, x4, G, hn, hz, hl, hne, e⟩ => ?_)
  · subst e
    show dSeq _ _ _ [some (.ref a), some (.int n), some (.ref t), some (.int (0 + i)), x4] M'
    walk_at "g"
    refine ⟨a, rfl, G.st, fun z M1 nz D1 => ?_⟩
    have G := G.drawn hat D1
    have hGt := G.at'
    walk_at "g"
    refine s_in (sqOf_ref G.at') rfl (flat_strs ys) ?_
    rw [any_str]
    by_cases hm : z ∈ ys
    · rw [decide_eq_true hm]
      simp only [if_true, Bool.not_true]
      walk_at "g"
      exact ⟨ys, _, _, G, hn, hz, by omega, (fun _ e => by rw [e] at hm; cases hm), rfl⟩
    · rw [decide_eq_false hm]
      simp only [if_true, Bool.not_false]
      walk_at "g"
      refine s_append G.at' (by rw [List.length_map, sizeLine_eq]; omega) ?_
      have G := G.add hat (ys.map .str ++ [.str z])
      walk_at "g"
      refine ⟨ys ++ [z], _, _, by rw [List.map_append]; exact G, ?_, fun y hy => ?_, by rw [List.length_append]; show ys.length + 1 ≤ _; omega, fun _ => by simp, rfl⟩
      · exact List.nodup_append.mpr ⟨hn, by simp, fun x hx y hy => by rw [List.mem_singleton.mp hy]; exact fun e => hm (e ▸ hx)⟩
      · rcases List.mem_append.mp hy with h | h
        · exact hz y h
        · rw [List.mem_singleton.mp h]; exact nz
  · subst e
    have hGt := G.at'
    walk_at "g"
    refine s_sortedS (ns := ys) (lsOf_at G.at') (by omega) fun zs hp hs => ?_
    walk_at "g"
    refine (G.kp hat ht).end fun M5 D5 => q zs _ ⟨fun e => hne (by omega) ?_, by rw [hp.length_eq]; exact hl, fun z h => hz z (hp.mem_iff.mp h), sorted_lt hs (hp.nodup_iff.mpr hn)⟩ D5
    rw [e] at hp
    exact List.nil_perm.mp hp
theorem KeyLt_append {rows : List TRow} {r : TRow} (h : rows.Pairwise KeyLt) (hr : ∀ q ∈ rows, KeyLt q r) : (rows ++ [r]).Pairwise KeyLt :=
  List.pairwise_append.mpr ⟨h, by simp, fun q hq x hx => by rw [List.mem_singleton.mp hx]; exact hr q hq⟩
theorem asc_at {ys : List Str} (h : ys.Pairwise ltS) {i j : Nat} {x y : Str} (hx : ys[i]? = some x) (hy : ys[j]? = some y) (hij : i < j) : ltS x y := by
  have hi : i < ys.length := by
    by_cases c : i < ys.length
    · exact c
    · rw [List.getElem?_eq_none (by omega)] at hx; cases hx
  have hj : j < ys.length := by
    by_cases c : j < ys.length
    · exact c
    · rw [List.getElem?_eq_none (by omega)] at hy; cases hy
  rw [List.getElem?_eq_getElem hi] at hx
  rw [List.getElem?_eq_getElem hj] at hy
  cases hx; cases hy
  exact List.pairwise_iff_getElem.mp h i j hi hj hij
def homeR (s : Str) : TRow := ⟨"home", s, [(20, some 85)], some (100, 60)⟩
theorem homeR_ok {s : Str} (h : isNm s) : RowOk (homeR s) := by
  refine ⟨?_, h, ⟨by show 1 ≤ 60; decide, by simp [homeR], fun p hp => ?_, fun p hp v e => ?_⟩, fun p e => by cases e; decide⟩
  · show nameOk (.str "home") = true
    decide +kernel
  · rw [List.mem_singleton.mp (show p ∈ [((20 : Int), some (85 : Int))] from hp)]; decide
  · rw [List.mem_singleton.mp (show p ∈ [((20 : Int), some (85 : Int))] from hp)] at e
    cases e; decide
theorem len_law_tariff : ∀ ds M Q E, sp_law_tariff ds M Q E → ds.length = 1 := by rintro _ _ _ _ ⟨_, rfl, _⟩; rfl
theorem rd_law_tariff : Rds t_law_tariff n_law_tariff sp_law_tariff := by
  rintro _ M Q E ⟨a, rfl, st, q⟩
  show t_law_tariff _ [some (.ref a), none, none, none, none] M
  unfold t_law_tariff
  walk_at "g"
  refine fun t ht => ?_
  obtain ⟨hat, G⟩ := Gr.start (Drawn.self st) ht
  show kSet _ 1 _ (.ref t) (updM M t (.lst []))
  generalize updM M t (.lst []) = M0 at *
  walk_at "g"
  refine ⟨a, 3, rfl, by decide, by decide, G.st, fun d1 M1 d10 d11 D1 => ?_⟩
  have G := G.drawn hat D1
  walk_at "g"
  refine ⟨a, 6, rfl, by decide, by decide, G.st, fun d2 M2 d20 d21 D2 => ?_⟩
  have G := G.drawn hat D2
  walk_at "g"
  refine ⟨a, 2, rfl, by decide, by decide, G.st, fun d3 M3 d30 d31 D3 => ?_⟩
  have G := G.drawn hat D3
  refine s_kop2 ?_
  refine s_ixAny (is := [d1, d2]) d30 d31 fun L hL => ?_
  have hL : 0 ≤ L ∧ L ≤ 5 := by
    simp only [List.mem_cons, List.not_mem_nil, or_false] at hL
    rcases hL with rfl | rfl <;> omega
  obtain ⟨n, hn⟩ : ∃ n : Nat, 1 + L = (n : Int) := Int.eq_ofNat_of_zero_le (by omega)
  refine s_kop2 ?_
  refine s_add ?_
  rw [hn]
  walk_at "g"
  refine ⟨a, n, rfl, by omega, by omega, G.st, fun ss M4 hss D4 => ?_⟩
  have G := G.drawn hat D4
  walk_at "g"
  refine ⟨a, 3, rfl, by decide, by decide, G.st, fun d5 M5 d50 d51 D5 => ?_⟩
  have G := G.drawn hat D5
  obtain ⟨m, hm⟩ : ∃ m : Nat, 1 + d5 = (m : Int) := Int.eq_ofNat_of_zero_le (by omega)
  refine s_kop2 ?_
  refine s_add ?_
  rw [hm]
  walk_at "g"
  refine ⟨a, m, rfl, by omega, by omega, G.st, fun zs M6 hzs D6 => ?_⟩
  have G := G.drawn hat D6
  have s6 : ss.length ≤ 6 := Nat.le_trans hss.len (by omega)
  have z3 : zs.length ≤ 3 := Nat.le_trans hzs.len (by omega)
  walk_at "g"
  refine s_kforT (ds := zs.map .str) (fun i τ M' => ∃ (rows : List TRow) (x3 x4 : Option D), Gr M a t (rows.map TRow.enc) M' ∧ rows.length ≤ 6 * i ∧ i ≤ zs.length ∧ (∀ r ∈ rows, RowOk r) ∧ rows.Pairwise KeyLt ∧ (∀ r ∈ rows, ∃ j, j < i ∧ zs[j]? = some r.zone) ∧ τ = [some (.ref a), some (.ref t), some (.lst (ss.map .str)), x3, x4]) (fun _ => rfl) ⟨[], _, _, G, by simp, by omega, by simp, by simp, by simp, rfl⟩ (fun i d τ M' hd ⟨rows, x3, x4, G, hl, hi, ho, ha, hz, e⟩ => ?_) (fun τ M' ⟨rows, x3, x4, G, hl, hi, ho, ha, hz, e⟩ => ?_)
  · subst e
    rw [List.getElem?_map] at hd
    obtain ⟨z, hzi, rfl⟩ := Option.map_eq_some_iff.mp hd
    have hi2 : i < zs.length := by
      by_cases c : i < zs.length
      · exact c
      · rw [List.getElem?_eq_none (by omega)] at hzi; cases hzi
    refine s_gname ?_
    walk_at "g"
    refine s_kforT (ds := ss.map .str) (fun j τ M' => ∃ (rows : List TRow) (x4 : Option D), Gr M a t (rows.map TRow.enc) M' ∧ rows.length ≤ 6 * i + j ∧ (∀ r ∈ rows, RowOk r) ∧ rows.Pairwise KeyLt ∧ (∀ r ∈ rows, (∃ k, k < i ∧ zs[k]? = some r.zone) ∨ (r.zone = z ∧ ∃ k, k < j ∧ ss[k]? = some r.service)) ∧ τ = [some (.ref a), some (.ref t), some (.lst (ss.map .str)), some (.str z), x4]) (fun _ => rfl) ⟨rows, _, G, by omega, ho, ha, fun r hr => .inl (hz r hr), rfl⟩ (fun j d τ M' hd ⟨rows, x4, G, hl, ho, ha, hz, e⟩ => ?_) (fun τ M' ⟨rows, x4, G, hl, ho, ha, hz, e⟩ => ?_)
    · subst e
      rw [List.getElem?_map] at hd
      obtain ⟨s, hsj, rfl⟩ := Option.map_eq_some_iff.mp hd
      have hj2 : j < ss.length := by
        by_cases c : j < ss.length
        · exact c
        · rw [List.getElem?_eq_none (by omega)] at hsj; cases hsj
      refine s_gname ?_
      walk_at "g"
      refine ⟨a, 6, rfl, by decide, by decide, G.st, fun e M1 e0 e1 D1 => ?_⟩
      have G := G.drawn hat D1
      have wk : ∀ r ∈ rows, (∃ k, k < i ∧ zs[k]? = some r.zone) ∨ (r.zone = z ∧ ∃ k, k < j + 1 ∧ ss[k]? = some r.service) := fun r hr => (hz r hr).imp id fun ⟨e, k, hk, h⟩ => ⟨e, k, by omega, h⟩
      have hGt := G.at'
      walk_at "g"
      · refine ⟨a, rfl, G.st, fun ps M2 hps D2 => ?_⟩
        have G := G.drawn hat D2
        have hGt := G.at'
        walk_at "g"
        refine ⟨a, rfl, G.st, fun mo M3 hmo D3 => ?_⟩
        have G := G.drawn hat D3
        have hGt := G.at'
        walk_at "g"
        refine s_append G.at' (by rw [List.length_map, sizeLine_eq]; omega) ?_
        have G := G.add hat (rows.map TRow.enc ++ [(TRow.mk z s ps mo).enc])
        walk_at "g"
        refine ⟨rows ++ [⟨z, s, ps, mo⟩], _, by rw [List.map_append]; exact G, by rw [List.length_append]; show rows.length + 1 ≤ _; omega, fun r hr => ?_, KeyLt_append ha fun r hr => ?_, fun r hr => ?_, rfl⟩
        · rcases List.mem_append.mp hr with h | h
          · exact ho r h
          · rw [List.mem_singleton.mp h]
            exact ⟨hzs.nm z (List.mem_of_getElem? hzi), hss.nm s (List.mem_of_getElem? hsj), hps.mono (by decide), hmo⟩
        · rcases hz r hr with ⟨k, hk, h⟩ | ⟨e, k, hk, h⟩
          · exact .inl (asc_at hzs.asc h hzi hk)
          · exact .inr ⟨e, asc_at hss.asc h hsj hk⟩
        · rcases List.mem_append.mp hr with h | h
          · exact wk r h
          · rw [List.mem_singleton.mp h]
            exact .inr ⟨rfl, j, by omega, hsj⟩
      · exact ⟨rows, _, G, by omega, ho, ha, wk, rfl⟩
    · subst e
      rw [List.length_map] at hl hz
      exact ⟨rows, _, _, G, by omega, by omega, ho, ha, fun r hr => (hz r hr).elim (fun ⟨k, hk, h⟩ => ⟨k, by omega, h⟩) fun ⟨e, _⟩ => ⟨i, by omega, by rw [e]; exact hzi⟩, rfl⟩
  · subst e
    have hGt := G.at'
    obtain ⟨s0, ss', ess⟩ : ∃ s0 ss', ss = s0 :: ss' := List.exists_cons_of_ne_nil hss.ne
    rw [List.length_map] at hl
    walk_at "g"
    · rename_i hc
      refine s_ix (d := .str s0) rfl (by rw [ess, atI_toNat (by decide)]; rfl) ?_
      walk_at "g"
      refine s_append G.at' (by rw [List.length_map, sizeLine_eq]; omega) ?_
      have er : rows = [] := by
        rw [List.length_map] at hc
        exact List.eq_nil_of_length_eq_zero (by omega)
      subst er
      have G := G.add hat ([homeR s0].map TRow.enc)
      show kDrop _ _ _ (updM M' t (.lst ([homeR s0].map TRow.enc)))
      generalize updM M' t (.lst ([homeR s0].map TRow.enc)) = M7 at *
      have hGt := G.at'
      walk_at "g"
      refine (G.kp hat ht).end fun M8 D8 => q [homeR s0] _ ⟨by simp, by simp, fun r hr => ?_, by simp⟩ D8
      rw [List.mem_singleton.mp hr]
      exact homeR_ok (hss.nm s0 (by rw [ess]; exact List.mem_cons_self))
    · rename_i hc
      refine (G.kp hat ht).end fun M8 D8 => q rows _ ⟨fun e => hc (by rw [e]; rfl), by omega, ho, ha⟩ D8

/-! ### a function that goes on evenly has a form -/
def linF (v : Int → Option Int) (len p : Nat) (sl : Nat → Int) : Frm := ⟨(List.range len).map fun i : Nat => v i, (List.range p).map fun i : Nat => (v ((len : Int) + i), if v ((len : Int) + i) = none then 0 else sl i)⟩
theorem linF_len {v : Int → Option Int} {len p : Nat} {sl : Nat → Int} : (linF v len p sl).head.length = len ∧ (linF v len p sl).tail.length = p := by
  unfold linF
  exact ⟨by rw [List.length_map, List.length_range], by rw [List.length_map, List.length_range]⟩
theorem linF_val {v : Int → Option Int} {len p : Nat} {sl : Nat → Int} (hp : 0 < p) (hg : ∀ i : Nat, i < p → ∀ m : Int, 0 ≤ m → v ((len : Int) + i + p * m) = (v ((len : Int) + i)).map (· + sl i * m)) (x : Int) (x0 : 0 ≤ x) : (linF v len p sl).val x = v x := by
  obtain ⟨l1, l2⟩ := linF_len (v := v) (len := len) (p := p) (sl := sl)
  by_cases h : x < len
  · unfold Frm.val
    rw [l1, if_neg (by omega), if_pos h]
    refine getD_of ?_
    show ((List.range len).map fun i : Nat => v i)[x.toNat]? = _
    rw [List.getElem?_map, List.getElem?_range (by omega)]
    show some (v ((x.toNat : Nat) : Int)) = _
    rw [show ((x.toNat : Nat) : Int) = x by omega]
  · rw [val_tv (by rw [l1]; omega)]
    unfold tv tailAt
    rw [l1, l2]
    have i0 : 0 ≤ (x - len) % (p : Int) := Int.emod_nonneg _ (by omega)
    have i1 : (x - len) % (p : Int) < p := Int.emod_lt_of_pos _ (by omega)
    have m0 : 0 ≤ (x - len) / (p : Int) := Int.ediv_nonneg (by omega) (by omega)
    have e := Int.emod_add_mul_ediv (x - len) p
    generalize (x - len) % (p : Int) = i at *
    generalize (x - len) / (p : Int) = m at *
    obtain ⟨k, rfl⟩ : ∃ k : Nat, i = k := ⟨i.toNat, by omega⟩
    have g := hg k (by omega) m m0
    rw [show (len : Int) + k + p * m = x by omega] at g
    rw [g]
    have et : (linF v len p sl).tail.getD ((k : Int)).toNat (none, 0) = (v ((len : Int) + k), if v ((len : Int) + k) = none then 0 else sl k) := by
      refine getD_of ?_
      show ((List.range p).map fun i : Nat => (v ((len : Int) + i), if v ((len : Int) + i) = none then 0 else sl i))[((k : Int)).toNat]? = _
      rw [show ((k : Int)).toNat = k by omega, List.getElem?_map, List.getElem?_range (by omega)]; rfl
    rw [et]
    unfold tailVal
    cases ev : v ((len : Int) + k) with
    | none => rfl
    | some a => simp
theorem NoForm.no {v : Int → Option Int} {len p : Nat} (h : NoForm v) (hp : 0 < p) (hl : len ≤ 4000) (hv : ∀ x : Int, len ≤ x → ∃ sl : Int, ∀ m, 0 ≤ m → v (x + p * m) = (v x).map (· + sl * m)) : False := by
  obtain ⟨sl, hs⟩ := Classical.axiomOfChoice fun i : Nat => hv ((len : Int) + i) (by omega)
  obtain ⟨l1, l2⟩ := linF_len (v := v) (len := len) (p := p) (sl := sl)
  have := h (linF v len p sl) (by omega) fun x x0 => linF_val hp (fun i _ => hs i) x x0
  omega
/-- a normal form has the shortest head -/
theorem norm_head_le {f g : Frm} {n : Nat} (hf : FOk f n) (nf : IsNorm f) (g0 : 0 < g.tail.length) (hv : ∀ x, 0 ≤ x → f.val x = g.val x) : f.head.length ≤ g.head.length := by
  by_cases c : f.head.length ≤ g.head.length
  · exact c
  exfalso
  have f0 := hf.tk.t0
  refine nf.hd (by omega) ?_
  have e0 : f.head.getD (f.head.length - 1) none = f.val ((f.head.length : Int) - 1) := by
    unfold Frm.val
    rw [if_neg (by omega), if_pos (by omega), show ((f.head.length : Int) - 1).toNat = f.head.length - 1 by omega]
  rw [e0]
  have G : ∀ j : Int, 0 ≤ j → f.val ((f.head.length : Int) - 1 + g.tail.length * (f.tail.length * j)) = (f.val ((f.head.length : Int) - 1)).map (· + ts g.tail ((f.head.length : Int) - 1 - g.head.length) * (f.tail.length * j)) := fun j j0 => by
    have n1 : 0 ≤ (f.tail.length : Int) * j := Int.mul_nonneg (by omega) j0
    have n2 : 0 ≤ (g.tail.length : Int) * (f.tail.length * j) := Int.mul_nonneg (by omega) n1
    rw [hv _ (by omega), hv _ (by omega)]
    exact val_shift g0 (by omega) n1
  have T : ∀ j : Int, 1 ≤ j → f.val ((f.head.length : Int) - 1 + g.tail.length * (f.tail.length * j)) = (tv f.tail (-1)).map (· + ts f.tail (-1) * (g.tail.length * j)) := fun j j0 => by
    have n1 : 1 * 1 ≤ (f.tail.length : Int) * j := Int.mul_le_mul (by omega) j0 (by omega) (by omega)
    have n2 : 1 * 1 ≤ (g.tail.length : Int) * (f.tail.length * j) := Int.mul_le_mul (by omega) (by omega) (by omega) (by omega)
    rw [val_tv (by omega), show (f.head.length : Int) - 1 + g.tail.length * (f.tail.length * j) - f.head.length = -1 + f.tail.length * (g.tail.length * j) by
      rw [← Int.mul_assoc, ← Int.mul_assoc, Int.mul_comm (g.tail.length : Int)]; omega]
    exact tv_shift f0 _ _
  have a1 := (G 1 (by decide)).symm.trans (T 1 (by decide))
  have a2 := (G 2 (by decide)).symm.trans (T 2 (by decide))
  generalize ts g.tail ((f.head.length : Int) - 1 - g.head.length) = s1 at *
  generalize ts f.tail (-1) = s2 at *
  cases e1 : f.val ((f.head.length : Int) - 1) with
  | none =>
    rw [e1] at a1
    cases e2 : tv f.tail (-1) with
    | none => rfl
    | some b => rw [e2] at a1; cases a1
  | some a =>
    rw [e1] at a1 a2
    cases e2 : tv f.tail (-1) with
    | none => rw [e2] at a1; cases a1
    | some b =>
      rw [e2] at a1 a2
      have a1 : a + s1 * (f.tail.length * 1) = b + s2 * (g.tail.length * 1) := Option.some.inj a1
      have a2 : a + s1 * (f.tail.length * 2) = b + s2 * (g.tail.length * 2) := Option.some.inj a2
      rw [Int.mul_one, Int.mul_one] at a1
      rw [← Int.mul_assoc, ← Int.mul_assoc] at a2
      congr 1; omega

theorem NormDvd {f : Frm} {n p : Nat} {L : Nat} {v : Int → Option Int} (hf : FOk f n) (nf : IsNorm f) (p0 : 0 < p) (hv : ∀ x, 0 ≤ x → f.val x = v x) (he : ∀ x : Int, L ≤ x → ∃ sl : Int, ∀ m, 0 ≤ m → v (x + p * m) = (v x).map (· + sl * m)) : f.tail.length ∣ p := by
  obtain ⟨sl, hs⟩ := Classical.axiomOfChoice fun i : Nat => he ((L : Int) + i) (by omega)
  obtain ⟨l1, l2⟩ := linF_len (v := v) (len := L) (p := p) (sl := sl)
  have gv := linF_val p0 (len := L) (v := v) (sl := sl) fun i _ => hs i
  have f0 := hf.tk.t0
  generalize linF v L p sl = g at *
  rw [← l2]
  have g0 : 0 < g.tail.length := by omega
  have h1 : ∀ x, tv f.tail (x - f.head.length) = tv g.tail (x - g.head.length) ∧ (tv f.tail (x - f.head.length) ≠ none → ts f.tail (x - f.head.length) * g.tail.length = ts g.tail (x - g.head.length) * f.tail.length) :=
    tails_all (B := (f.head.length : Int) + g.head.length) f0 g0 fun x hx => by rw [← val_tv (by omega), ← val_tv (by omega), hv x (by omega), gv x (by omega)]
  have d := (AL.gcd _ _ (AL.self f0) (AL.other f0 g0 h1)).hp
  have gp : 0 < Nat.gcd f.tail.length g.tail.length := Nat.gcd_pos_of_pos_left _ f0
  have l1 : f.tail.length = Nat.gcd f.tail.length g.tail.length := by
    have := Nat.le_of_dvd f0 (Nat.gcd_dvd_left f.tail.length g.tail.length)
    by_cases l : Nat.gcd f.tail.length g.tail.length < f.tail.length
    · exact absurd d (nf.mn _ gp l (Nat.gcd_dvd_left _ _))
    · omega
  rw [l1]; exact Nat.gcd_dvd_right _ _
/-! the price of a row, far out -/
theorem last_top {r : TRow} (h : RowOk r) : 0 ≤ (lastS r).1 ∧ (lastS r).1 ≤ 3999 ∧ (∀ p ∈ r.steps, p.1 ≤ (lastS r).1) ∧ ∀ b, (lastS r).2 = some b → 0 ≤ b ∧ b ≤ 1000000000 := by
  unfold lastS
  cases e : r.steps with
  | nil => exact ⟨by decide, by decide, by simp, fun b eb => by cases eb; decide⟩
  | cons p ps =>
    have hl : ((p :: ps).getLast?).getD (0, some 0) = (p :: ps).getLast (List.cons_ne_nil p ps) := by rw [List.getLast?_eq_getLast (List.cons_ne_nil p ps)]; rfl
    rw [hl]
    have hm : (p :: ps).getLast (List.cons_ne_nil p ps) ∈ r.steps := by rw [e]; exact List.getLast_mem _
    refine ⟨(h.st.top _ hm).1, (h.st.top _ hm).2, fun q hq => ?_, fun b eb => h.st.am _ hm b eb⟩
    have ha := h.st.asc
    rw [e] at ha
    obtain ⟨i, hi, rfl⟩ := List.getElem_of_mem hq
    rw [List.getLast_eq_getElem]
    by_cases c : i = (p :: ps).length - 1
    · subst c; exact Int.le_refl _
    · exact Int.le_of_lt (List.pairwise_iff_getElem.mp ha i _ hi (by simp) (by omega))
theorem row_far {r : TRow} (h : RowOk r) {x : Int} (hx : (lastS r).1 < x) : rowPrice r x = match (lastS r).2, r.more with
    | some b, some m => some (b - m.2 * (((lastS r).1 - x) / m.1))
    | _, _ => none := by
  have e : (r.steps.find? fun p => decide (x ≤ p.1)) = none := by
    rw [List.find?_eq_none]
    intro p hp z
    have := (last_top h).2.2.1 p hp
    have := of_decide_eq_true z
    omega
  unfold rowPrice
  rw [e]
  all_goals (cases (lastS r).2 <;> cases r.more <;> rfl)
theorem rowF_tail {r : TRow} (h : RowOk r) {b : Int} {m : Int × Int} (eb : (lastS r).2 = some b) (em : r.more = some m) : (rowF r).tail = List.replicate m.1.toNat (some (b + m.2), m.2) := by
  unfold rowF
  rw [eb, em]
theorem rowF_tail0 {r : TRow} (h : (lastS r).2 = none ∨ r.more = none) : (rowF r).tail = [(none, 0)] := by
  unfold rowF
  rcases h with h | h
  · rw [h]
  · rw [h]
    cases (lastS r).2 <;> rfl
theorem rowF_head {r : TRow} : (rowF r).head.length = topR r + 1 := by unfold rowF; simp
theorem row_bd {r : TRow} (h : RowOk r) {x : Int} (x0 : 0 ≤ x) (hx : x ≤ (lastS r).1) : bdO 30 (rowPrice r x) := fun i e => by
  unfold rowPrice at e
  cases ef : r.steps.find? fun p => decide (x ≤ p.1) with
  | some p =>
    rw [ef] at e
    have := h.st.am p (List.mem_of_find?_eq_some ef) i e
    rw [show (2 : Nat) ^ 30 = 1073741824 by decide]
    omega
  | none =>
    rw [ef] at e
    cases es : r.steps with
    | nil =>
      have el : lastS r = (0, some 0) := by unfold lastS; rw [es]; rfl
      rw [el] at e hx
      cases em : r.more with
      | none => rw [em] at e; cases e
      | some m =>
        rw [em] at e
        have e : some (0 - m.2 * ((0 - x) / m.1)) = some i := e
        have : x = 0 := by have hx : x ≤ 0 := hx; omega
        subst this
        rw [show ((0 : Int) - 0) / m.1 = 0 by simp] at e
        have := Option.some.inj e
        rw [show (2 : Nat) ^ 30 = 1073741824 by decide]
        omega
    | cons p ps =>
      rw [es] at ef
      have hm : (p :: ps).getLast (List.cons_ne_nil p ps) ∈ p :: ps := List.getLast_mem _
      have := List.find?_eq_none.mp ef _ hm
      have el : lastS r = (p :: ps).getLast (List.cons_ne_nil p ps) := by unfold lastS; rw [es, List.getLast?_eq_getLast (List.cons_ne_nil p ps)]; rfl
      rw [← el] at this
      exact absurd (decide_eq_true hx) this
theorem rowF_ok {r : TRow} (h : RowOk r) : FOk (rowF r) 40 := by
  obtain ⟨t0, t1, _, hb⟩ := last_top h
  have e40 : (2 : Nat) ^ 40 = 1099511627776 := by decide
  refine ⟨?_, by rw [rowF_head]; unfold topR; omega, fun v hv => ?_⟩
  · cases eb : (lastS r).2 with
    | none =>
      rw [rowF_tail0 (.inl eb)]
      exact ⟨by decide, by decide, fun p hp => by rw [List.mem_singleton.mp hp]; exact ⟨fun i e => (by cases e), by decide, fun _ => rfl⟩, by decide⟩
    | some b =>
      cases em : r.more with
      | none =>
        rw [rowF_tail0 (.inr em)]
        exact ⟨by decide, by decide, fun p hp => by rw [List.mem_singleton.mp hp]; exact ⟨fun i e => (by cases e), by decide, fun _ => rfl⟩, by decide⟩
      | some m =>
        rw [rowF_tail h eb em]
        obtain ⟨m1, m2, m3, m4⟩ := h.mo m em
        obtain ⟨b0, b1⟩ := hb b eb
        refine ⟨by rw [List.length_replicate]; omega, by rw [List.length_replicate]; omega, fun p hp => ?_, by decide⟩
        obtain rfl := (List.mem_replicate.mp hp).2
        exact ⟨fun i e => by cases e; omega, by show m.2.natAbs < _; omega, fun z => by cases z⟩
  · obtain ⟨i, hi, rfl⟩ := List.mem_map.mp hv
    have := List.mem_range.mp hi
    unfold topR at this
    exact fun j e => Nat.lt_of_lt_of_le (row_bd h (by omega) (by omega) j e) (two_pow_le (by decide))
theorem rowF_val {r : TRow} (h : RowOk r) {x : Int} (x0 : 0 ≤ x) : (rowF r).val x = rowPrice r x := by
  obtain ⟨t0, t1, _, hb⟩ := last_top h
  by_cases hx : x ≤ (lastS r).1
  · unfold Frm.val
    rw [if_neg (by omega), if_pos (by rw [rowF_head]; unfold topR; omega)]
    refine getD_of ?_
    show ((List.range (topR r + 1)).map fun i : Nat => rowPrice r i)[x.toNat]? = _
    rw [List.getElem?_map, List.getElem?_range (by unfold topR; omega)]
    show some (rowPrice r ((x.toNat : Nat) : Int)) = _
    rw [show ((x.toNat : Nat) : Int) = x by omega]
  · have hx : (lastS r).1 < x := by omega
    rw [row_far h hx]
    have hh : ((rowF r).head.length : Int) = (lastS r).1 + 1 := by rw [rowF_head]; unfold topR; omega
    rw [val_tv (by omega), hh]
    have none' : (rowF r).tail = [(none, 0)] → tv (rowF r).tail (x - ((lastS r).1 + 1)) = none := fun e => by
      rw [e]
      unfold tv tailAt
      rw [show ((x - ((lastS r).1 + 1)) % (([(none, 0)] : Tl).length : Int)).toNat = 0 by show ((x - ((lastS r).1 + 1)) % ((1 : Nat) : Int)).toNat = 0; omega]
      rfl
    cases eb : (lastS r).2 with
    | none => exact none' (rowF_tail0 (.inl eb))
    | some b =>
      cases em : r.more with
      | none => exact none' (rowF_tail0 (.inr em))
      | some m =>
        obtain ⟨m1, m2, m3, m4⟩ := h.mo m em
        rw [rowF_tail h eb em]
        show tv _ _ = some (b - m.2 * (((lastS r).1 - x) / m.1))
        unfold tv tailAt
        rw [List.length_replicate, show ((m.1.toNat : Nat) : Int) = m.1 by omega]
        have i0 : 0 ≤ (x - ((lastS r).1 + 1)) % m.1 := Int.emod_nonneg _ (by omega)
        have i1 : (x - ((lastS r).1 + 1)) % m.1 < m.1 := Int.emod_lt_of_pos _ (by omega)
        rw [getD_of (List.getElem?_replicate_of_lt (by omega))]
        show some (b + m.2 + m.2 * ((x - ((lastS r).1 + 1)) / m.1)) = _
        congr 1
        have e1 := beyond (a := (lastS r).1 - x) (g := m.1) (by omega)
        have e2 : (-((lastS r).1 - x) + m.1 - 1) / m.1 = (x - ((lastS r).1 + 1)) / m.1 + 1 := by
          rw [show -((lastS r).1 - x) + m.1 - 1 = x - ((lastS r).1 + 1) + m.1 * 1 by omega, Int.add_mul_ediv_left _ _ (by omega)]
        have e3 : ((lastS r).1 - x) / m.1 = -((x - ((lastS r).1 + 1)) / m.1 + 1) := by omega
        rw [e3, Int.mul_neg, Int.mul_add]
        omega
/-- far out a row goes on evenly -/
theorem row_lin {r : TRow} (h : RowOk r) : 0 < perR r ∧ perR r ≤ 1000 ∧ ∀ x : Int, 4000 ≤ x → ∃ sl : Int, ∀ m, 0 ≤ m → rowPrice r (x + perR r * m) = (rowPrice r x).map (· + sl * m) := by
  obtain ⟨t0, t1, _, hb⟩ := last_top h
  have far : ∀ x : Int, 4000 ≤ x → (lastS r).1 < x := fun x hx => by omega
  cases em : r.more with
  | none =>
    have ep : perR r = 1 := by unfold perR; rw [em]
    rw [ep]
    refine ⟨by decide, by decide, fun x hx => ⟨0, fun m m0 => ?_⟩⟩
    rw [row_far h (far _ (by omega)), row_far h (far _ hx), em]
    cases (lastS r).2 <;> rfl
  | some g =>
    obtain ⟨m1, m2, m3, m4⟩ := h.mo g em
    cases eb : (lastS r).2 with
    | none =>
      have ep : perR r = 1 := by
        unfold perR; rw [em]; show (if g.2 = 0 then 1 else if (lastS r).2 = none then 1 else g.1.toNat) = 1
        rw [if_pos eb]; split <;> rfl
      rw [ep]
      refine ⟨by decide, by decide, fun x hx => ⟨0, fun m m0 => ?_⟩⟩
      rw [row_far h (far _ (by omega)), row_far h (far _ hx), eb]
      rfl
    | some b =>
      by_cases c : g.2 = 0
      · have ep : perR r = 1 := by
          unfold perR; rw [em]; show (if g.2 = 0 then 1 else if (lastS r).2 = none then 1 else g.1.toNat) = 1
          rw [if_pos c]
        rw [ep]
        refine ⟨by decide, by decide, fun x hx => ⟨0, fun m m0 => ?_⟩⟩
        rw [row_far h (far _ (by omega)), row_far h (far _ hx), eb, em]
        show some (b - g.2 * _) = some (b - g.2 * _ + 0 * m)
        rw [c, Int.zero_mul, Int.zero_mul, Int.zero_mul]
        congr 1; omega
      · have ep : perR r = g.1.toNat := by
          unfold perR; rw [em]; show (if g.2 = 0 then 1 else if (lastS r).2 = none then 1 else g.1.toNat) = _
          rw [if_neg c, if_neg (by rw [eb]; simp)]
        rw [ep, show ((g.1.toNat : Nat) : Int) = g.1 by omega]
        refine ⟨by omega, by omega, fun x hx => ⟨g.2, fun m m0 => ?_⟩⟩
        have n0 : 0 ≤ g.1 * m := Int.mul_nonneg (by omega) m0
        rw [row_far h (far _ (by omega)), row_far h (far _ hx), eb, em]
        show some (b - g.2 * (((lastS r).1 - (x + g.1 * m)) / g.1)) = some (b - g.2 * (((lastS r).1 - x) / g.1) + g.2 * m)
        rw [show (lastS r).1 - (x + g.1 * m) = (lastS r).1 - x + g.1 * (-m) by rw [Int.mul_neg]; omega, Int.add_mul_ediv_left _ _ (by omega), Int.mul_add, Int.mul_neg]
        congr 1
        omega
/-- the length of the tail -/
theorem row_per {r : TRow} (h : RowOk r) {f : Frm} {n : Nat} (hf : FOk f n) (nf : IsNorm f) (hv : ∀ x, 0 ≤ x → f.val x = rowPrice r x) : f.tail.length = perR r := by
  obtain ⟨p0, p1, pl⟩ := row_lin h
  have dv : f.tail.length ∣ perR r := NormDvd (L := 4000) hf nf p0 hv pl
  obtain ⟨t0, t1, _, hb⟩ := last_top h
  have f0 := hf.tk.t0
  by_cases c1 : perR r = 1
  · rw [c1] at dv ⊢
    exact Nat.dvd_one.mp dv
  obtain ⟨g, em⟩ : ∃ g, r.more = some g := by
    cases em : r.more with
    | none => exact absurd (by unfold perR; rw [em]) c1
    | some g => exact ⟨g, rfl⟩
  obtain ⟨m1, m2, m3, m4⟩ := h.mo g em
  have ep : perR r = if g.2 = 0 then 1 else if (lastS r).2 = none then 1 else g.1.toNat := by unfold perR; rw [em]
  have c2 : ¬ g.2 = 0 := fun z => c1 (by rw [ep, if_pos z])
  have c3 : ¬ (lastS r).2 = none := fun z => c1 (by rw [ep, if_neg c2, if_pos z])
  rw [if_neg c2, if_neg c3] at ep
  obtain ⟨b, eb⟩ := Option.ne_none_iff_exists'.mp c3
  by_cases c : f.tail.length = perR r
  · exact c
  exfalso
  have hq : f.tail.length < perR r := by
    have := Nat.le_of_dvd p0 dv
    omega
  obtain ⟨q, hq1⟩ : ∃ q : Int, q = f.tail.length := ⟨_, rfl⟩
  -- a place at the beginning of a step, behind the head
  have hL := hf.hl
  obtain ⟨x, ex⟩ : ∃ x : Int, x = (lastS r).1 + 1 + g.1 * 200000 := ⟨_, rfl⟩
  have big : 200000 ≤ g.1 * 200000 := by omega
  have val : ∀ k j : Int, 0 ≤ k → k < g.1 → 0 ≤ j → rowPrice r (x + k + g.1 * j) = some (b + g.2 * (200001 + j)) := fun k j k0 k1 j0 => by
    have n0 : 0 ≤ g.1 * j := Int.mul_nonneg (by omega) j0
    rw [row_far h (by omega), eb, em]
    show some (b - g.2 * (((lastS r).1 - (x + k + g.1 * j)) / g.1)) = _
    rw [ex, show (lastS r).1 - ((lastS r).1 + 1 + g.1 * 200000 + k + g.1 * j) = g.1 - 1 - k + g.1 * (-(200001 + j)) by rw [Int.mul_neg, Int.mul_add]; omega, Int.add_mul_ediv_left _ _ (by omega), Int.ediv_eq_zero_of_lt (by omega) (by omega), Int.zero_add, Int.mul_neg]
    congr 1; omega
  have v0 := val 0 0 (by decide) (by omega) (by decide)
  have v1 := val q 0 (by omega) (by omega) (by decide)
  have v2 := val 0 q (by decide) (by omega) (by omega)
  rw [Int.mul_zero, Int.add_zero, Int.add_zero] at v0
  rw [Int.mul_zero, Int.add_zero] at v1
  rw [Int.add_zero] at v2
  have n2 : 0 ≤ g.1 * q := Int.mul_nonneg (by omega) (by omega)
  rw [← hv _ (by omega)] at v0 v1 v2
  have s1 := val_shift f0 (y := x) (m := 1) (by omega) (by decide)
  have s2 := val_shift f0 (y := x) (m := g.1) (by omega) (by omega)
  rw [Int.mul_one, Int.mul_one, ← hq1, v0, v1] at s1
  rw [← hq1, Int.mul_comm q, v0, v2] at s2
  have s1 : b + g.2 * (200001 + 0) = b + g.2 * (200001 + 0) + ts f.tail (x - f.head.length) := Option.some.inj s1
  have s2 : b + g.2 * (200001 + q) = b + g.2 * (200001 + 0) + ts f.tail (x - f.head.length) * g.1 := Option.some.inj s2
  have : ts f.tail (x - f.head.length) = 0 := by omega
  rw [this, Int.zero_mul, Int.mul_add] at s2
  have : g.2 * q = 0 := by
    have := Int.mul_add g.2 200001 0
    omega
  rcases Int.mul_eq_zero.mp this with z | z
  · exact c2 z
  · omega
theorem len_row_form : ∀ ds M Q E, sp_row_form ds M Q E → ds.length = 1 := by rintro _ _ _ _ ⟨_, rfl, _⟩; rfl
theorem rd_row_form : Rds t_row_form n_row_form sp_row_form := by
  rintro _ M Q E ⟨r, rfl, h, q⟩
  show t_row_form _ [some r.enc, none, none, none, none, none, none] M
  obtain ⟨t0, t1, _, hb⟩ := last_top h
  have fin : ∀ (f : Frm) (n : Nat), f = rowF r → n = 40 → sp_normal [f.enc] M (rtQ Q) E0D := fun f n e en => by
    subst e
    refine ⟨rowF r, 40, rfl, rowF_ok h, fun g k hl tl v nm => s_end (q g ⟨k, nm, ?_, ?_, fun x x0 => ?_⟩)⟩
    · rw [rowF_head] at hl; unfold topR at hl; omega
    · exact row_per h k nm fun x x0 => by rw [v, rowF_val h x0]
    · rw [v, rowF_val h x0]
  unfold t_row_form
  walk_at "g"
  refine ⟨r, rfl, ?_⟩
  unfold encS
  walk_at "g"
  refine s_kr1 (by omega) (by omega) ?_
  refine s_klcRng (fun i : Nat => encO (rowPrice r i)) (small_line (by omega)) (fun i QQ hi k => ?_) ?_
  · rw [Int.zero_add]
    walk_at "g"
    exact ⟨r, i, rfl, rowsOk_of h, k⟩
  have eh : (List.range ((lastS r).1 + 1).toNat).map (fun i : Nat => encO (rowPrice r i)) = (rowF r).head.map encO := by
    unfold rowF topR
    rw [List.map_map, show ((lastS r).1 + 1).toNat = (lastS r).1.toNat + 1 by omega]
    rfl
  rw [eh]
  walk_at "g"
  have nop : (rowF r).tail = [(none, 0)] → sp_normal [.tup [.tup ((rowF r).head.map encO), .tup [.tup [.non, .int 0]]]] M (rtQ Q) E0D := fun e => by
    have := fin (rowF r) 40 rfl rfl
    unfold Frm.enc at this
    rw [e] at this
    exact this
  unfold TRow.enc
  cases eb : (lastS r).2 with
  | none =>
    simp only [encO]
    walk_at "w"
    exact nop (rowF_tail0 (.inl eb))
  | some b =>
    simp only [encO]
    cases em : r.more with
    | none =>
      simp only [encM]
      walk_at "w"
      exact nop (rowF_tail0 (.inr em))
    | some m =>
      obtain ⟨m1, m2, m3, m4⟩ := h.mo m em
      simp only [encM]
      walk_at "w"
      refine s_mulA (by simp) (by omega) (by show 1 * _ ≤ _; omega) ?_
      walk_at "g"
      have := fin (rowF r) 40 rfl rfl
      unfold Frm.enc at this
      rw [rowF_tail h eb em, List.map_replicate] at this
      rw [show (List.replicate m.1.toNat [D.tup [.int (b + m.2), .int m.2]]).flatten = List.replicate m.1.toNat (encP (some (b + m.2), m.2)) by
        generalize m.1.toNat = k
        induction k with
        | zero => rfl
        | succ k ih => rw [List.replicate_succ, List.flatten_cons, ih, List.replicate_succ]; rfl]
      exact this

theorem lcmR_snoc {rs : List TRow} {r : TRow} : lcmR (rs ++ [r]) = Nat.lcm (lcmR rs) (perR r) := by unfold lcmR; rw [List.foldl_append]; rfl
theorem lcmF_dvd {k : Nat} : ∀ {rs : List TRow} {n : Nat}, (rs.foldl (fun n r => Nat.lcm n (perR r)) n) ∣ k ↔ n ∣ k ∧ ∀ r ∈ rs, perR r ∣ k
  | [], n => by simp
  | r :: rs, n => by
    rw [List.foldl_cons, lcmF_dvd, Nat.lcm_dvd_iff]
    simp only [List.mem_cons, forall_eq_or_imp, and_assoc]
theorem lcmR_dvd {rs : List TRow} {k : Nat} : lcmR rs ∣ k ↔ ∀ r ∈ rs, perR r ∣ k := by
  unfold lcmR; rw [lcmF_dvd]; simp
theorem lcmR_mono {xs ys : List TRow} (h : ∀ r ∈ xs, r ∈ ys) : lcmR xs ∣ lcmR ys := lcmR_dvd.mpr fun r hr => lcmR_dvd.mp (Nat.dvd_refl _) r (h r hr)
theorem lcmR_pos {rs : List TRow} (h : ∀ r ∈ rs, RowOk r) : 0 < lcmR rs := by
  suffices H : ∀ (rs : List TRow) (n : Nat), 0 < n → (∀ r ∈ rs, RowOk r) → 0 < rs.foldl (fun n r => Nat.lcm n (perR r)) n from H rs 1 (by decide) h
  intro rs
  induction rs with
  | nil => exact fun n h _ => h
  | cons r rs ih => exact fun n hn h => ih _ (Nat.lcm_pos hn (row_lin (h r List.mem_cons_self)).1) fun q hq => h q (List.mem_cons_of_mem _ hq)
theorem lcmR_one {r : TRow} : lcmR [r] = perR r := by show Nat.lcm 1 (perR r) = _; exact Nat.lcm_one_left _
theorem sumP_snoc {rs : List TRow} {r : TRow} {w : Int} : sumP (rs ++ [r]) w = addO (sumP rs w) (rowPrice r w) := by
  unfold sumP
  rw [List.all_append, List.filterMap_append, List.sum_append]
  cases e : rowPrice r w with
  | none =>
    have : ([r].all fun r => (rowPrice r w).isSome) = false := by simp [e]
    rw [this, Bool.and_false, if_neg Bool.false_ne_true]
    unfold addO
    split
    · rename_i h; cases h
    · rfl
  | some v =>
    have : ([r].all fun r => (rowPrice r w).isSome) = true := by simp [e]
    rw [this, Bool.and_true]
    have : ([r].filterMap fun r => rowPrice r w).sum = v := by simp [e]
    rw [this]
    by_cases c : (rs.all fun r => (rowPrice r w).isSome) = true
    · rw [if_pos c, if_pos c]; rfl
    · rw [if_neg c, if_neg c]; rfl
theorem sumP_one {r : TRow} {w : Int} : sumP [r] w = rowPrice r w := by
  unfold sumP
  cases e : rowPrice r w with
  | none => simp [e]
  | some v => simp [e]
theorem price_sum {rows rs : List TRow} {z : Str} {ss : List Str} (h : rowsFor rows z ss = some rs) (w : Int) : priceO rows z ss w = sumP rs w := by
  unfold priceO sumP; rw [h]
theorem rows_mem {rows rs : List TRow} {z : Str} {ss : List Str} (h : rowsFor rows z ss = some rs) : rs.length = ss.length ∧ (∀ r, r ∈ rs ↔ ∃ s ∈ ss, lookR rows z s = some r) ∧ rs = ss.filterMap (lookR rows z) ∧ (ss.all fun s => (lookR rows z s).isSome) = true := by
  unfold rowsFor at h
  split at h
  · rename_i c
    cases h
    refine ⟨?_, fun r => List.mem_filterMap, rfl, c⟩
    have := congrArg List.length (fil_look c)
    rw [List.length_map, List.length_map] at this
    exact this.symm
  · cases h
theorem add_lin {f g : Frm} (f0 : 0 < f.tail.length) (g0 : 0 < g.tail.length) (hf : f.head.length ≤ 4000) (hg : g.head.length ≤ 4000) (x : Int) (hx : 4000 ≤ x) : ∃ sl : Int, ∀ m, 0 ≤ m → addO (f.val (x + (Nat.lcm f.tail.length g.tail.length : Nat) * m)) (g.val (x + (Nat.lcm f.tail.length g.tail.length : Nat) * m)) = (addO (f.val x) (g.val x)).map (· + sl * m) := by
  obtain ⟨i, i0, ei⟩ : ∃ i : Int, 0 ≤ i ∧ ((Nat.lcm f.tail.length g.tail.length : Nat) : Int) = f.tail.length * i := by
    obtain ⟨c, hc⟩ := Nat.dvd_lcm_left f.tail.length g.tail.length
    exact ⟨c, by omega, by rw [← Int.natCast_mul, ← hc]⟩
  obtain ⟨j, j0, ej⟩ : ∃ j : Int, 0 ≤ j ∧ ((Nat.lcm f.tail.length g.tail.length : Nat) : Int) = g.tail.length * j := by
    obtain ⟨c, hc⟩ := Nat.dvd_lcm_right f.tail.length g.tail.length
    exact ⟨c, by omega, by rw [← Int.natCast_mul, ← hc]⟩
  obtain ⟨sl, hsl⟩ := add_ok.lin
  refine ⟨sl (f.val x) (g.val x) (ts f.tail (x - f.head.length) * i) (ts g.tail (x - g.head.length) * j), fun m m0 => ?_⟩
  rw [val_per f0 ei i0 (by omega) m0, val_per g0 ej j0 (by omega) m0]
  exact hsl _ _ _ _ m m0
theorem len_postage (C : Ct) : ∀ ds M Q E, sp_postage C ds M Q E → ds.length = 3 := by rintro _ _ _ _ ⟨_, _, _, rfl, _⟩; rfl
theorem rd_postage (C : Ct) : RdsE (t_postage C) n_postage (sp_postage C) := by
  rintro _ M Q E ⟨rows, z, ss, rfl, R, sl, sne, qn, q⟩
  show t_postage C (rtX E) _ [some (.tup (rows.map TRow.enc)), some (.str z), some (.tup (ss.map .str)), none, none, none] M
  have hl := R.len
  unfold t_postage
  walk_at "g"
  refine ⟨rows, z, ss, rfl, by omega, by omega, R.keys, ?_⟩
  cases e : rowsFor rows z ss with
  | none =>
    simp only [encRs]
    walk_at "w"
    exact s_end (qn e)
  | some rs =>
    obtain ⟨q1, q2, q3⟩ := q rs e
    obtain ⟨m1, m2, _, _⟩ := rows_mem e
    have ok : ∀ r ∈ rs, RowOk r := fun r hr => by
      obtain ⟨s, _, hs⟩ := (m2 r).mp hr
      exact R.row r (look_mem hs).1
    have Lp := lcmR_pos ok
    cases rs with
    | nil =>
      have : 0 < ss.length := List.length_pos_iff.mpr sne
      simp at m1; omega
    | cons r0 rs =>
    simp only [encRs]
    walk_at "w"
    refine s_ix (d := r0.enc) rfl (by rw [atI_toNat (by decide)]; rfl) ?_
    walk_at "g"
    refine ⟨r0, rfl, ok r0 List.mem_cons_self, fun g0 G0 => ?_⟩
    walk_at "g"
    have ec : cutD ((r0 :: rs).map TRow.enc) (some 1) none = rs.map TRow.enc := by
      have := cut_from ((r0 :: rs).map TRow.enc) (i := 1) (by simp)
      exact this
    rw [ec]
    refine s_kforT (ds := rs.map TRow.enc) (fun i τ M' => M' = M ∧ ∃ (g : Frm) (x5 : Option D), PG (r0 :: rs.take i) g (80 + 30 * i) ∧ i ≤ rs.length ∧ (i = 0 → g.tail.length = perR r0) ∧ (i ≤ 1 → lcmR (r0 :: rs.take i) ≤ 1000) ∧ τ = [some (.tup (rows.map TRow.enc)), some (.str z), some (.tup (ss.map .str)), some (.lst ((r0 :: rs).map TRow.enc)), some g.enc, x5]) (fun _ => rfl) ⟨rfl, g0, _, ⟨G0.k, G0.nm, G0.hl, by rw [List.take_zero, lcmR_one, G0.tl]; exact Nat.dvd_refl _, fun x x0 => by rw [List.take_zero, sumP_one]; exact G0.v x x0⟩, by omega, fun _ => G0.tl, fun _ => by rw [List.take_zero, lcmR_one]; exact (row_lin (ok r0 List.mem_cons_self)).2.1, rfl⟩ (fun i d τ M' hd ⟨eM, g, x5, G, hi, h0, h1, e⟩ => ?_) (fun τ M' ⟨eM, g, x5, G, hi, h0, h1, e⟩ => ?_)
    · subst eM; subst e
      rw [List.getElem?_map] at hd
      obtain ⟨r, hr, rfl⟩ := Option.map_eq_some_iff.mp hd
      have hi : i < rs.length := by
        by_cases c : i < rs.length
        · exact c
        · rw [List.getElem?_eq_none (by omega)] at hr; cases hr
      have hrm : r ∈ r0 :: rs := List.mem_cons_of_mem _ (List.mem_of_getElem? hr)
      have et : r0 :: rs.take (i + 1) = (r0 :: rs.take i) ++ [r] := by rw [List.take_succ, hr]; rfl
      have rl : rs.length + 1 ≤ 25 := by rw [List.length_cons] at m1; omega
      refine s_gname ?_
      walk_at "g"
      refine ⟨r, rfl, ok r hrm, fun g1 G1 => ?_⟩
      walk_at "g"
      refine ⟨g, g1, 80 + 30 * i, rfl, G.k, G1.k.mono (by omega), by omega, fun f2 g2 N1 N2 => ?_⟩
      obtain rfl : f2 = g := norm_unique N1.k G.k N1.nm G.nm fun x _ => N1.ev x
      obtain rfl : g2 = g1 := norm_unique N2.k G1.k N2.nm G1.nm fun x _ => N2.ev x
      obtain ⟨r0p, r1p, rlin⟩ := row_lin (ok r hrm)
      have dvL : Nat.lcm f2.tail.length g2.tail.length ∣ lcmR (r0 :: rs.take (i + 1)) := by
        rw [et, lcmR_snoc, G1.tl]
        exact Nat.lcm_dvd_lcm_of_dvd_left _ G.tl
      have dvA : lcmR (r0 :: rs.take (i + 1)) ∣ lcmR (r0 :: rs) := lcmR_mono fun x hx => by
        rcases List.mem_cons.mp hx with rfl | hx
        · exact List.mem_cons_self
        · exact List.mem_cons_of_mem _ (List.mem_of_mem_take hx)
      have f0 := G.k.tk.t0
      have g0 := G1.k.tk.t0
      refine ⟨fun hbig => s_endX (fun _ _ y => y) (q2 ?_), fun hp => ⟨fun h hk hn h4 hp2 hv => ?_, fun hno => ?_⟩⟩
      · have := Nat.le_of_dvd Lp (Nat.dvd_trans dvL dvA)
        omega
      · -- the next form
        have hv' : ∀ x, 0 ≤ x → h.val x = sumP (r0 :: rs.take (i + 1)) x := fun x x0 => by rw [hv x x0, et, sumP_snoc, G.v x x0, G1.v x x0]
        have p0 : 0 < Nat.lcm f2.tail.length g2.tail.length := Nat.lcm_pos f0 g0
        refine ⟨rfl, h, _, ⟨hk.mono (by omega), hn, h4, ?_, hv'⟩, by omega, (fun z => by omega), fun z => ?_, rfl⟩
        · exact Nat.dvd_trans (NormDvd (L := 4000) hk hn p0 hv (add_lin f0 g0 G.hl G1.hl)) dvL
        · have : i = 0 := by omega
          subst this
          rw [et, List.take_zero, lcmR_snoc, lcmR_one, ← G1.tl, ← h0 rfl]
          exact hp
      · exact (hno.no (len := 4000) (Nat.lcm_pos f0 g0) (by decide) (add_lin f0 g0 G.hl G1.hl)).elim
    · subst eM; subst e
      rw [List.length_map, List.take_length] at G h1
      walk_at "g"
      refine s_end (q3 ?_ g ⟨G.k.mono (by rw [List.length_cons] at m1; omega), G.nm, G.hl, G.tl, G.v⟩)
      rcases q1 with h | h
      · exact h1 (by rw [List.length_cons] at h; omega)
      · exact h
theorem len_law_told (C : Ct) : ∀ ds M Q E, sp_law_told C ds M Q E → ds.length = 3 := by rintro _ _ _ _ ⟨_, _, _, rfl, _⟩; rfl
theorem rd_law_told (C : Ct) : Rds (t_law_told C) n_law_told (sp_law_told C) := by
  rintro _ M Q E ⟨rows, z, ss, rfl, R, sl, sne, qn, q⟩
  show t_law_told C _ [some (.tup (rows.map TRow.enc)), some (.str z), some (.tup (ss.map .str))] M
  unfold t_law_told
  refine s_try ?_
  walk_at "g"
  refine s_callS ?_
  walk_at "g"
  refine s_kcallS ?_
  refine ⟨rows, z, ss, rfl, R, sl, sne, fun e => ?_, fun rs e => ?_⟩
  · walk_at "g"
    exact s_end (qn e)
  · obtain ⟨q1, q2, q3⟩ := q rs e
    refine ⟨q1, fun h => ⟨rfl, ?_⟩, fun h g G => ?_⟩
    · walk_at "g"
      exact s_end (q2 h)
    · walk_at "g"
      exact s_end (q3 h g G)

theorem len_law_common : ∀ ds M Q E, sp_law_common ds M Q E → ds.length = 2 := by rintro _ _ _ _ ⟨_, _, rfl, _⟩; rfl
theorem rd_law_common : Rds t_law_common n_law_common sp_law_common := by
  rintro _ M Q E ⟨a, b, rfl, q⟩
  show t_law_common _ [some (.int a), some (.int b)] M
  unfold t_law_common
  walk_at "g"
  refine s_while (fun m τ M' => M' = M ∧ ∃ x : Nat, Nat.gcd x m = Nat.gcd a b ∧ τ = [some (.int x), some (.int m)]) b ⟨rfl, a, rfl, rfl⟩ (fun m τ M' ⟨e, x, hg, e2⟩ => ?_)
  subst e; subst e2
  walk_at "g"
  · rename_i hne
    have hm : 0 < m := by
      have hne : ¬ (m : Int) = 0 := hne
      omega
    refine s_I (by omega) ?_
    walk_at "g"
    exact ⟨x % m, Nat.mod_lt _ hm, rfl, m, by rw [Nat.gcd_comm, ← Nat.gcd_rec, Nat.gcd_comm]; exact hg, rfl⟩
  · rename_i he
    have he : (m : Int) = 0 := by simpa using he
    have : m = 0 := by omega
    subst this
    rw [Nat.gcd_zero_right] at hg
    rw [hg]
    exact s_end q

def WsB (ws : List Int) : Prop := ∀ w ∈ ws, 0 ≤ w ∧ w ≤ 1000000
theorem WsB.two : WsB [0, 1] := fun w h => by simp only [List.mem_cons, List.not_mem_nil, or_false] at h; omega
theorem WsB.app {ws us : List Int} (h : WsB ws) (g : WsB us) : WsB (ws ++ us) := fun w hw => (List.mem_append.mp hw).elim (h w) (g w)
theorem len_law_services : ∀ ds M Q E, sp_law_services ds M Q E → ds.length = 2 := by rintro _ _ _ _ ⟨_, _, rfl, _⟩; rfl
theorem rd_law_services : Rds t_law_services n_law_services sp_law_services := by
  rintro _ M Q E ⟨a, rows, rfl, T, st, q⟩
  show t_law_services _ [some (.ref a), some (.tup (rows.map TRow.enc)), none, none, none] M
  unfold t_law_services
  have hl := T.len
  have hne : 0 < rows.length := List.length_pos_iff.mpr T.ne
  walk_at "g"
  rw [List.length_map]
  refine ⟨a, rows.length, rfl, by omega, by omega, st, fun d M1 d0 d1 D1 => ?_⟩
  have hd : d.toNat < rows.length := by omega
  refine s_kop2 ?_
  refine s_ix (d := (rows[d.toNat]).enc) rfl (by rw [atI_toNat d0, List.getElem?_map, List.getElem?_eq_getElem hd]; rfl) ?_
  have hm : rows[d.toNat] ∈ rows := List.getElem_mem hd
  generalize rows[d.toNat] = r0 at *
  unfold TRow.enc
  walk_at "g"
  refine fun t ht => ?_
  obtain ⟨hat, G⟩ := Gr.start D1 ht
  have ht0 : M t = none := by rw [← D1.same t (Ne.symm hat)]; exact ht
  show kSet _ 3 _ (.ref t) (updM M1 t (.lst []))
  generalize updM M1 t (.lst []) = M2 at *
  have eE : (rows.map fun r : TRow => D.tup [.str r.zone, .str r.service, .tup (r.steps.map encS), encM r.more]) = rows.map TRow.enc := rfl
  walk_at "g"
  refine s_kforT (ds := rows.map TRow.enc) (fun i τ M' => ∃ (ss : List Str) (x4 : Option D), Gr M a t (ss.map .str) M' ∧ ss.length ≤ i ∧ (∀ s ∈ ss, ∃ r ∈ rows, r.zone = r0.zone ∧ r.service = s) ∧ (ss = [] → ∀ r ∈ rows.take i, r.zone ≠ r0.zone) ∧ τ = [some (.ref a), some (.tup (rows.map TRow.enc)), some (.str r0.zone), some (.ref t), x4]) (fun _ => rfl) ⟨[], _, G, by simp, by simp, fun _ => by simp, rfl⟩ (fun i dd τ M' hdd ⟨ss, x4, G, hs, hn, hz, e⟩ => ?_) (fun τ M' ⟨ss, x4, G, hs, hn, hz, e⟩ => ?_)
  · subst e
    rw [List.getElem?_map] at hdd
    obtain ⟨r, hr, rfl⟩ := Option.map_eq_some_iff.mp hdd
    have hrm := List.mem_of_getElem? hr
    have hi : i < rows.length := by
      by_cases c : i < rows.length
      · exact c
      · rw [List.getElem?_eq_none (by omega)] at hr; cases hr
    have et : rows.take (i + 1) = rows.take i ++ [r] := by rw [List.take_succ, hr]; rfl
    refine s_gname ?_
    unfold TRow.enc
    rw [eE]
    have hGt := G.at'
    have app : r.zone = r0.zone → ∀ M2 (G : Gr M a t (ss.map .str) M2) (x : Option D), ∃ (ss' : List Str) (x4 : Option D), Gr M a t (ss'.map .str) (updM M2 t (.lst (ss.map .str ++ [.str r.service]))) ∧ ss'.length ≤ i + 1 ∧ (∀ s ∈ ss', ∃ r ∈ rows, r.zone = r0.zone ∧ r.service = s) ∧ (ss' = [] → ∀ r ∈ rows.take (i + 1), r.zone ≠ r0.zone) ∧ [some (.ref a), some (.tup (rows.map TRow.enc)), some (.str r0.zone), some (.ref t), x] = [some (.ref a), some (.tup (rows.map TRow.enc)), some (.str r0.zone), some (.ref t), x4] := fun hzr M2 G x =>
      ⟨ss ++ [r.service], x, by rw [List.map_append]; exact G.add hat _, by rw [List.length_append]; show ss.length + 1 ≤ _; omega, fun s h => (List.mem_append.mp h).elim (hn s) (fun h => by rw [List.mem_singleton.mp h]; exact ⟨r, hrm, hzr, rfl⟩), fun e => by simp at e, rfl⟩
    walk_at "g"
    · refine ⟨a, 2, rfl, by decide, by decide, G.st, fun e M3 e0 e1 D3 => ?_⟩
      have G := G.drawn hat D3
      have hGt := G.at'
      walk_at "g"
      · refine s_append G.at' (by rw [List.length_map, sizeLine_eq]; omega) ?_
        walk_at "g"
        exact app (by assumption) M3 G _
      · refine s_append G.at' (by rw [List.length_map, sizeLine_eq]; omega) ?_
        walk_at "g"
        exact app (by assumption) M3 G _
      · rename_i hc
        exact ⟨ss, _, G, by omega, hn, fun e => absurd (by rw [e]; rfl) hc, rfl⟩
    · rename_i hc
      refine ⟨ss, _, G, by omega, hn, fun e r' hr' => ?_, rfl⟩
      rw [et] at hr'
      rcases List.mem_append.mp hr' with h | h
      · exact hz e r' h
      · rw [List.mem_singleton.mp h]; exact hc
  · subst e
    rw [List.length_map] at hs hz
    rw [List.take_length] at hz
    have hGt := G.at'
    walk_at "g"
    exact (G.kp hat ht0).end fun M5 D5 => q r0.zone ss _ (T.row r0 hm).z (by omega) (fun e => hz e r0 hm rfl) hn D5
theorem len_law_edges : ∀ ds M Q E, sp_law_edges ds M Q E → ds.length = 2 := by rintro _ _ _ _ ⟨_, _, rfl, _⟩; rfl
theorem rd_law_edges : Rds t_law_edges n_law_edges sp_law_edges := by
  rintro _ M Q E ⟨rows, z, rfl, T, q⟩
  show t_law_edges _ [some (.tup (rows.map TRow.enc)), some (.str z), none, none, none, none, none] M
  unfold t_law_edges
  have hl := T.len
  walk_at "g"
  refine s_kforT (ds := rows.map TRow.enc) (fun i τ M' => M' = M ∧ ∃ (ws : List Int) (x3 x4 x5 x6 : Option D), WsB ws ∧ ws.length ≤ 2 + 200 * i ∧ i ≤ rows.length ∧ τ = [some (.tup (rows.map TRow.enc)), some (.str z), some (.lst (ws.map .int)), x3, x4, x5, x6]) (fun _ => rfl) ⟨rfl, [0, 1], _, _, _, _, WsB.two, by simp, by omega, rfl⟩ (fun i d τ M' hd ⟨eM, ws, x3, x4, x5, x6, hB, hw, hi, e⟩ => ?_) (fun τ M' ⟨eM, ws, x3, x4, x5, x6, hB, hw, hi, e⟩ => ?_)
  · subst eM; subst e
    rw [List.getElem?_map] at hd
    obtain ⟨r, hr, rfl⟩ := Option.map_eq_some_iff.mp hd
    have hi : i < rows.length := by
      by_cases c : i < rows.length
      · exact c
      · rw [List.getElem?_eq_none (by omega)] at hr; cases hr
    have R := T.row r (List.mem_of_getElem? hr)
    have hst := R.st.len
    refine s_gname ?_
    have eE : (rows.map fun r : TRow => D.tup [.str r.zone, .str r.service, .tup (r.steps.map encS), encM r.more]) = rows.map TRow.enc := rfl
    unfold TRow.enc
    rw [eE]
    walk_at "g"
    · refine s_kforT (ds := r.steps.map encS) (fun j τ M2 => M2 = M' ∧ ∃ (ws : List Int) (top : Int) (x5 : Option D), WsB ws ∧ (0 ≤ top ∧ top ≤ 3999) ∧ ws.length ≤ 2 + 200 * i + 3 * j ∧ j ≤ r.steps.length ∧ τ = [some (.tup (rows.map TRow.enc)), some (.str z), some (.lst (ws.map .int)), some (.tup [.str r.zone, .str r.service, .tup (r.steps.map encS), encM r.more]), some (.int top), x5, x6]) (fun _ => rfl) ⟨rfl, ws, 0, _, hB, by decide, by omega, by omega, rfl⟩ (fun j d τ M2 hd ⟨eM, ws, top, x5, hB, ht, hw, hj, e⟩ => ?_) (fun τ M2 ⟨eM, ws, top, x5, hB, ht, hw, hj, e⟩ => ?_)
      · subst eM; subst e
        rw [List.getElem?_map] at hd
        obtain ⟨p, hp, rfl⟩ := Option.map_eq_some_iff.mp hd
        have hpt := R.st.top p (List.mem_of_getElem? hp)
        have hj : j < r.steps.length := by
          by_cases c : j < r.steps.length
          · exact c
          · rw [List.getElem?_eq_none (by omega)] at hp; cases hp
        refine s_gname ?_
        unfold encS
        walk_at "g"
        refine s_addL (small_line (by rw [List.length_map]; show _ + 3 ≤ _; omega)) ?_
        walk_at "g"
        exact ⟨rfl, ws ++ [if p.1 - 1 > 0 then p.1 - 1 else 0, p.1, p.1 + 1], _, _, hB.app (fun w h => by simp only [List.mem_cons, List.not_mem_nil, or_false] at h; rcases h with rfl | rfl | rfl <;> first | omega | (split <;> omega)), hpt, by rw [List.length_append]; show ws.length + 3 ≤ _; omega, by omega, by rw [List.map_append]; rfl⟩
      · subst eM; subst e
        rw [List.length_map] at hw
        cases e2 : r.more with
        | none =>
          simp only [encM]
          walk_at "w"
          exact ⟨by trivial, ws, _, _, _, _, hB, by omega, by omega, rfl⟩
        | some g =>
          simp only [encM]
          walk_at "w"
          refine s_kforT (ds := [1, 2, 3, 50].map .int) (fun j τ M3 => M3 = M2 ∧ ∃ (ws : List Int) (x6 : Option D), WsB ws ∧ ws.length ≤ 2 + 200 * i + 180 + 2 * j ∧ j ≤ 4 ∧ τ = [some (.tup (rows.map TRow.enc)), some (.str z), some (.lst (ws.map .int)), some (.tup [.str r.zone, .str r.service, .tup (r.steps.map encS), .tup [.int g.1, .int g.2]]), some (.int top), x5, x6]) (fun _ => rfl) ⟨rfl, ws, _, hB, by omega, by omega, rfl⟩ (fun j d τ M3 hd ⟨eM, ws, x6, hB, hw, hj, e⟩ => ?_) (fun τ M3 ⟨eM, ws, x6, hB, hw, hj, e⟩ => ?_)
          · subst eM; subst e
            rw [List.getElem?_map] at hd
            obtain ⟨k, hk, rfl⟩ := Option.map_eq_some_iff.mp hd
            have hk1 : k = 1 ∨ k = 2 ∨ k = 3 ∨ k = 50 := by
              have := List.mem_of_getElem? hk
              simpa only [List.mem_cons, List.not_mem_nil, or_false] using this
            have hk2 : 0 ≤ k ∧ k ≤ 50 := by omega
            have hkg : 0 ≤ k * g.1 ∧ k * g.1 ≤ 50000 := by
              obtain ⟨g1, g2, _⟩ := R.mo g e2
              rcases hk1 with rfl | rfl | rfl | rfl <;> omega
            have hj : j < 4 := by
              by_cases c : j < 4
              · exact c
              · rw [List.getElem?_eq_none (by show 4 ≤ j; omega)] at hk; cases hk
            refine s_gname ?_
            walk_at "g"
            refine s_mul (.inl (.inl (sm64 (by omega)))) ?_
            walk_at "g"
            refine s_mul (.inl (.inl (sm64 (by omega)))) ?_
            walk_at "g"
            refine s_addL (small_line (by rw [List.length_map]; show _ + 2 ≤ _; omega)) ?_
            walk_at "g"
            exact ⟨rfl, ws ++ [top + k * g.1, top + k * g.1 + 1], _, hB.app (fun w h => by simp only [List.mem_cons, List.not_mem_nil, or_false] at h; rcases h with rfl | rfl <;> omega), by rw [List.length_append]; show ws.length + 2 ≤ _; omega, by omega, by rw [List.map_append]; rfl⟩
          · subst eM; subst e
            have hw : ws.length ≤ 2 + 200 * i + 180 + 2 * 4 := hw
            exact ⟨by trivial, ws, _, _, _, _, hB, by omega, by omega, rfl⟩
    · exact ⟨rfl, ws, _, _, _, _, hB, by omega, by omega, rfl⟩
  · subst eM; subst e
    rw [List.length_map] at hw
    walk_at "g"
    exact s_end (q ws (by omega) hB)
theorem len_law_period : ∀ ds M Q E, sp_law_period ds M Q E → ds.length = 1 := by rintro _ _ _ _ ⟨_, rfl, _⟩; rfl
theorem rd_law_period : Rds t_law_period n_law_period sp_law_period := by
  rintro _ M Q E ⟨r, rfl, h, q⟩
  show t_law_period _ [some r.enc] M
  unfold t_law_period TRow.enc
  cases em : r.more with
  | none =>
    have ep : perR r = 1 := by unfold perR; rw [em]
    rw [ep] at q
    simp only [encM]
    walk_at "w"
    exact s_end q
  | some m =>
    obtain ⟨m1, m2, m3, m4⟩ := h.mo m em
    have ep : perR r = if m.2 = 0 then 1 else if (lastS r).2 = none then 1 else m.1.toNat := by unfold perR; rw [em]
    simp only [encM]
    refine s_seq ?_
    refine s_ifS ?_
    refine s_tor ?_
    walk_at "w"
    · rename_i hc
      rw [if_pos hc] at ep
      rw [ep] at q
      exact s_end q
    · rename_i hc hl
      rw [if_neg hc] at ep
      rw [List.length_map]
      have hl : (r.steps.length : Int) > 0 := by rw [List.length_map] at hl; exact hl
      have hk : r.steps.length - 1 < r.steps.length := by omega
      refine s_ix (d := encS (lastS r)) rfl ?_ ?_
      · rw [atI_toNat (by omega), List.getElem?_map, show ((r.steps.length : Int) - 1).toNat = r.steps.length - 1 by omega]
        unfold lastS
        rw [← List.getLast?_eq_getElem?, List.getLast?_eq_getLast (List.ne_nil_of_length_pos (by omega))]; rfl
      unfold encS
      walk_at "g"
      cases eb : (lastS r).2 with
      | none =>
        rw [if_pos eb] at ep
        rw [ep] at q
        simp only [encO]
        walk_at "w"
        exact s_end q
      | some b =>
        rw [if_neg (by rw [eb]; simp)] at ep
        rw [ep, show ((m.1.toNat : Nat) : Int) = m.1 by omega] at q
        simp only [encO]
        walk_at "w"
        exact s_end q
    · rename_i hc hl
      rw [if_neg (by assumption)] at ep
      have hn : r.steps = [] := by
        cases e : r.steps with
        | nil => rfl
        | cons p ps => rw [e] at hl; exact absurd (show (0 : Int) < ((p :: ps).map encS).length by simp) hl
      have : (lastS r).2 = some 0 := by unfold lastS; rw [hn]; rfl
      rw [if_neg (by rw [this]; simp)] at ep
      rw [ep, show ((m.1.toNat : Nat) : Int) = m.1 by omega] at q
      exact s_end q
theorem lcm_div {n p : Nat} : ((n : Int) * (p : Int)) / ((Nat.gcd n p : Nat) : Int) = ((Nat.lcm n p : Nat) : Int) := by
  rw [← Int.natCast_mul, ← Int.natCast_ediv]; rfl
theorem len_law_periods : ∀ ds M Q E, sp_law_periods ds M Q E → ds.length = 3 := by rintro _ _ _ _ ⟨_, _, _, rfl, _⟩; rfl
theorem rd_law_periods : Rds t_law_periods n_law_periods sp_law_periods := by
  rintro _ M Q E ⟨rows, z, ss, rfl, R, q⟩
  show t_law_periods _ [some (.tup (rows.map TRow.enc)), some (.str z), some (.tup (ss.map .str)), none, none, none] M
  unfold t_law_periods
  walk_at "g"
  refine s_kforT (ds := rows.map TRow.enc) (fun i τ M' => M' = M ∧ ∃ x4 x5, τ = [some (.tup (rows.map TRow.enc)), some (.str z), some (.tup (ss.map .str)), some (.int (lcmS (rows.take i) z ss : Nat)), x4, x5]) (fun _ => rfl) ⟨rfl, _, _, rfl⟩ (fun i d τ M' hd ⟨eM, x4, x5, e⟩ => ?_) (fun τ M' ⟨eM, x4, x5, e⟩ => ?_)
  · subst eM; subst e
    rw [List.getElem?_map] at hd
    obtain ⟨r, hr, rfl⟩ := Option.map_eq_some_iff.mp hd
    have hrm := List.mem_of_getElem? hr
    have et : rows.take (i + 1) = rows.take i ++ [r] := by rw [List.take_succ, hr]; rfl
    have yes : r.zone = z → r.service ∈ ss → lcmS (rows.take (i + 1)) z ss = Nat.lcm (lcmS (rows.take i) z ss) (perR r) := fun h1 h2 => by
      unfold lcmS
      rw [et, List.filter_append, show [r].filter (fun r => decide (r.zone = z ∧ r.service ∈ ss)) = [r] by simp [h1, h2], lcmR_snoc]
    have no : ¬ (r.zone = z ∧ r.service ∈ ss) → lcmS (rows.take (i + 1)) z ss = lcmS (rows.take i) z ss := fun h1 => by
      unfold lcmS
      rw [et, List.filter_append, show [r].filter (fun r => decide (r.zone = z ∧ r.service ∈ ss)) = [] by simp [h1], List.append_nil]
    obtain ⟨p0, p1, _⟩ := row_lin (R.row r hrm)
    have lp : 0 < lcmS (rows.take i) z ss := lcmR_pos fun x hx => R.row x (List.mem_of_mem_take (List.mem_filter.mp hx).1)
    generalize lcmS (rows.take i) z ss = n at *
    refine s_gname ?_
    have eE : D.tup [.str r.zone, .str r.service, .tup (r.steps.map encS), encM r.more] = r.enc := rfl
    unfold TRow.enc
    walk_at "g"
    · refine s_in rfl rfl (flat_strs ss) ?_
      rw [any_str]
      by_cases hm : r.service ∈ ss
      · rw [decide_eq_true hm]
        walk_at "w"
        refine ⟨r, rfl, R.row r hrm, ?_⟩
        walk_at "g"
        refine s_mul (.inl (.inr (sm64 (by omega)))) ?_
        walk_at "g"
        refine ⟨n, perR r, rfl, ?_⟩
        have g0 : 0 < Nat.gcd n (perR r) := Nat.gcd_pos_of_pos_left _ lp
        have g1 : Nat.gcd n (perR r) ≤ perR r := Nat.gcd_le_right _ p0
        walk_at "g"
        refine s_I ⟨by omega, log2_20 (by rw [show (2 : Nat) ^ 20 = 1048576 by decide]; omega)⟩ ?_
        rw [lcm_div]
        walk_at "g"
        rename_i h1
        rw [yes h1 hm]
        exact ⟨rfl, _, _, rfl⟩
      · rw [decide_eq_false hm]
        walk_at "w"
        have := no fun z => hm z.2
        rw [this]
        exact ⟨rfl, _, _, rfl⟩
    · rename_i h1
      have := no fun z => h1 z.1
      rw [this]
      exact ⟨rfl, _, _, rfl⟩
  · subst eM; subst e
    rw [List.length_map, List.take_length]
    walk_at "g"
    exact s_end q
theorem look_self {rows : List TRow} (hk : KeysD rows) {r : TRow} (hr : r ∈ rows) : lookR rows r.zone r.service = some r := by
  cases e : lookR rows r.zone r.service with
  | none =>
    have := List.find?_eq_none.mp e r hr
    exact absurd (decide_eq_true ⟨rfl, rfl⟩) this
  | some r' =>
    obtain ⟨h1, h2, h3⟩ := look_mem e
    obtain ⟨i, hi, rfl⟩ := List.getElem_of_mem hr
    obtain ⟨j, hj, rfl⟩ := List.getElem_of_mem h1
    rcases Nat.lt_trichotomy i j with c | c | c
    · exact absurd ⟨h2.symm, h3.symm⟩ (List.pairwise_iff_getElem.mp hk i j hi hj c)
    · subst c; rfl
    · exact absurd ⟨h2, h3⟩ (List.pairwise_iff_getElem.mp hk j i hj hi c)
theorem lcm_rows {rows rs : List TRow} {z : Str} {ss : List Str} (hk : KeysD rows) (h : rowsFor rows z ss = some rs) : lcmS rows z ss = lcmR rs := by
  obtain ⟨m1, m2, _, _⟩ := rows_mem h
  refine Nat.dvd_antisymm (lcmR_mono fun r hr => ?_) (lcmR_mono fun r hr => ?_)
  · obtain ⟨h1, h2⟩ := List.mem_filter.mp hr
    obtain ⟨h3, h4⟩ := of_decide_eq_true h2
    exact (m2 r).mpr ⟨r.service, h4, by rw [← h3]; exact look_self hk h1⟩
  · obtain ⟨s, hs, e⟩ := (m2 r).mp hr
    obtain ⟨h1, h2, h3⟩ := look_mem e
    exact List.mem_filter.mpr ⟨h1, decide_eq_true ⟨h2, by rw [h3]; exact hs⟩⟩
theorem rows_some {rows : List TRow} {z : Str} {ss : List Str} (h : ∀ s ∈ ss, ∃ r ∈ rows, r.zone = z ∧ r.service = s) : ∃ rs, rowsFor rows z ss = some rs := by
  refine ⟨_, if_pos (List.all_eq_true.mpr fun s hs => ?_)⟩
  obtain ⟨r, hr, h1, h2⟩ := h s hs
  unfold lookR
  rw [List.find?_isSome]
  exact ⟨r, hr, decide_eq_true ⟨h1, h2⟩⟩
theorem rows_none {rows : List TRow} {z s : Str} {ss : List Str} (hs : s ∈ ss) (h : ∀ r ∈ rows, ¬ (r.zone = z ∧ r.service = s)) : rowsFor rows z ss = none := by
  refine if_neg fun h2 => ?_
  have := List.all_eq_true.mp h2 s hs
  unfold lookR at this
  rw [List.find?_isSome] at this
  obtain ⟨r, hr, e⟩ := this
  exact h r hr (of_decide_eq_true e)

theorem far_row {s : Str} {ps : List (Int × Option Int)} {g f : Int} (hs : isNm s) (hp : StepsOk ps 8) (g0 : 1 ≤ g) (g1 : g ≤ 1000) (f0 : 0 ≤ f) (f1 : f ≤ 1000) : RowOk ⟨"far", s, ps, some (g, f)⟩ :=
  ⟨by show nameOk (.str "far") = true; decide +kernel, hs, hp.mono (by decide), fun p e => by cases e; exact ⟨g0, g1, f0, by omega⟩⟩
theorem len_law_two : ∀ ds M Q E, sp_law_two ds M Q E → ds.length = 1 := by rintro _ _ _ _ ⟨_, rfl, _⟩; rfl
theorem rd_law_two : Rds t_law_two n_law_two sp_law_two := by
  rintro _ M Q E ⟨a, rfl, st, q⟩
  show t_law_two _ [some (.ref a), none, none, none, none, none] M
  unfold t_law_two
  walk_at "g"
  refine ⟨a, 30, rfl, by decide, by decide, st, fun d1 M1 d10 d11 D1 => ?_⟩
  obtain ⟨one, e1⟩ : ∃ one, 20 + d1 = one := ⟨_, rfl⟩
  refine s_kop2 ?_
  refine s_add ?_
  rw [e1]
  walk_at "g"
  refine s_I ⟨by omega, log2_20 (by rw [show (2 : Nat) ^ 20 = 1048576 by decide]; omega)⟩ ?_
  walk_at "g"
  refine ⟨a, 7, rfl, by decide, by decide, D1.ok, fun d2 M2 d20 d21 D2 => ?_⟩
  have D2 := D1.trans D2
  have b0 : 0 ≤ 1000 / one := Int.ediv_nonneg (by decide) (by omega)
  have b1 : 1000 / one ≤ 50 := Int.ediv_le_of_le_mul (by omega) (by omega)
  walk_at "g"
  obtain ⟨two, e2, t0, t1⟩ : ∃ two : Int, (if 1000 / one + d2 - 3 > 1 then 1000 / one + d2 - 3 else 1) = two ∧ 1 ≤ two ∧ two ≤ 1000 := ⟨_, rfl, by split <;> omega, by split <;> omega⟩
  rw [e2]
  walk_at "g"
  refine fun t ht => ?_
  obtain ⟨hat, G⟩ := Gr.start D2 ht
  have ht0 : M t = none := by rw [← D2.same t (Ne.symm hat)]; exact ht
  show kSet _ 3 _ (.ref t) (updM M2 t (.lst []))
  generalize updM M2 t (.lst []) = M3 at *
  walk_at "g"
  refine s_kforT (ds := [.tup [.str "basic", .int one], .tup [.str "extra", .int two]]) (fun i τ M' => ∃ (rows : List TRow) (x4 x5 : Option D), Gr M a t (rows.map TRow.enc) M' ∧ (∀ r ∈ rows, RowOk r) ∧ (∀ r ∈ rows, r.zone = "far") ∧ rows.map TRow.service = [("basic" : Str), "extra"].take i ∧ τ = [some (.ref a), some (.int one), some (.int two), some (.ref t), x4, x5]) (fun _ => rfl) ⟨[], _, _, G, by simp, by simp, rfl, rfl⟩ (fun i d τ M' hd ⟨rows, x4, x5, G, hr, hz, hs, e⟩ => ?_) (fun τ M' ⟨rows, x4, x5, G, hr, hz, hs, e⟩ => ?_)
  · subst e
    obtain ⟨s, g, hs1, g0, g1, hs2, hi, rfl⟩ : ∃ (s : Str) (g : Int), isNm s ∧ 1 ≤ g ∧ g ≤ 1000 ∧ [("basic" : Str), "extra"].take (i + 1) = [("basic" : Str), "extra"].take i ++ [s] ∧ i < 2 ∧ d = .tup [.str s, .int g] := by
      rcases i with _ | _ | i
      · exact ⟨"basic", one, by show nameOk (.str "basic") = true; decide +kernel, by omega, by omega, rfl, by decide, (Option.some.inj hd).symm⟩
      · exact ⟨"extra", two, by show nameOk (.str "extra") = true; decide +kernel, by omega, by omega, rfl, by decide, (Option.some.inj hd).symm⟩
      · cases hd
    have hl : rows.length ≤ 2 := by
      have := congrArg List.length hs
      rw [List.length_map, List.length_take] at this
      have e2 : [("basic" : Str), "extra"].length = 2 := rfl
      omega
    refine s_gtup rfl ?_
    show dDrop _ _ [some (.ref a), some (.int one), some (.int two), some (.ref t), some (.str s), some (.int g)] M'
    have hGt := G.at'
    walk_at "g"
    refine ⟨a, rfl, G.st, fun ps M5 hps D5 => ?_⟩
    have G := G.drawn hat D5
    have hGt := G.at'
    walk_at "g"
    refine ⟨a, 90, rfl, by decide, by decide, G.st, fun f M6 f0 f1 D6 => ?_⟩
    have G := G.drawn hat D6
    have hGt := G.at'
    walk_at "g"
    refine s_append G.at' (by rw [List.length_map, sizeLine_eq]; omega) ?_
    have R := far_row hs1 hps g0 g1 (show 0 ≤ 1 + f by omega) (by omega)
    have G := G.add hat ((rows ++ [TRow.mk "far" s ps (some (g, 1 + f))]).map TRow.enc)
    rw [show rows.map TRow.enc ++ [.tup [.str "far", .str s, .tup (ps.map encS), .tup [.int g, .int (1 + f)]]] = (rows ++ [TRow.mk "far" s ps (some (g, 1 + f))]).map TRow.enc by rw [List.map_append]; rfl]
    walk_at "g"
    refine ⟨_, _, _, G, fun r h => ?_, fun r h => ?_, ?_, rfl⟩
    · rcases List.mem_append.mp h with h | h
      · exact hr r h
      · rw [List.mem_singleton.mp h]; exact R
    · rcases List.mem_append.mp h with h | h
      · exact hz r h
      · rw [List.mem_singleton.mp h]
    · rw [List.map_append, hs, hs2]; rfl
  · subst e
    have hs : rows.map TRow.service = [("basic" : Str), "extra"] := hs
    have hGt := G.at'
    walk_at "g"
    have hl : rows.length = 2 := by
      have := congrArg List.length hs
      rw [List.length_map] at this
      exact this
    refine (G.kp hat ht0).end fun M5 D5 => q rows _ ⟨by omega, hr, ?_⟩ (fun s h => ?_) D5
    · refine List.pairwise_iff_getElem.mpr fun i j hi hj hij z => ?_
      obtain rfl : i = 0 := by omega
      obtain rfl : j = 1 := by omega
      have e1 : rows[0].service = "basic" := by
        have := congrArg (·[0]?) hs
        simp only [List.getElem?_map, List.getElem?_eq_getElem hi] at this
        exact Option.some.inj this
      have e2 : rows[1].service = "extra" := by
        have := congrArg (·[1]?) hs
        simp only [List.getElem?_map, List.getElem?_eq_getElem hj] at this
        exact Option.some.inj this
      have := z.2
      rw [e1, e2] at this
      exact absurd this (by decide)
    · rw [← hs] at h
      obtain ⟨r, h1, h2⟩ := List.mem_map.mp h
      exact ⟨r, h1, hz r h1, h2⟩

theorem len_law_holds : ∀ ds M Q E, sp_law_holds ds M Q E → ds.length = 4 := by rintro _ _ _ _ ⟨_, _, _, _, rfl, _⟩; rfl
theorem rd_law_holds (C : Ct) : Rds (t_law_holds C) n_law_holds sp_law_holds := by
  rintro _ M Q E ⟨a, rows, z, ss, rfl, R, sl, sne, sn, s2, st, q⟩
  show t_law_holds C _ [some (.ref a), some (.tup (rows.map TRow.enc)), some (.str z), some (.tup (ss.map .str)), none, none, none, none, none] M
  have hl := R.len
  have p190 : (2 : Int) ^ 190 < 2 ^ 200 := by decide
  obtain ⟨rs, hrs⟩ := rows_some sn
  have eL := lcm_rows R.keys hrs
  have ml := (rows_mem hrs).1
  rw [eL] at s2
  have okR : ∀ r ∈ rows, r.Ok := fun r hr => rowsOk_of (R.row r hr)
  unfold t_law_holds
  walk_at "g"
  refine ⟨rows, z, ss, rfl, R, by omega, sne, fun e => ?_, fun rs' e => ?_⟩
  · rw [e] at hrs; cases hrs
  obtain rfl : rs' = rs := by rw [e] at hrs; exact Option.some.inj hrs
  refine ⟨by rw [ml]; exact s2, fun hb => ?_, fun hle g G => ?_⟩
  · walk_at "g"
    refine ⟨rows, z, ss, rfl, R, ?_⟩
    rw [eL]
    walk_at "w"
    · exact s_end (q _ (Drawn.self st))
    all_goals exact absurd hb (by omega)
  · have gk := G.k
    walk_at "g"
    refine ⟨rows, z, ss, rfl, R, ?_⟩
    rw [eL]
    have skip : ∀ {P : Prop}, ¬ (("told" : Str) = "told") → P := fun z => absurd rfl z
    walk_at "w"
    · rename_i hc
      exact absurd hle (by omega)
    any_goals (refine skip ?_; assumption)
    refine ⟨g, rfl, gk.tk.t0, fun p hp => (gk.tk.th p hp).2.2, ?_⟩
    have rest : ∀ M', M' = M → (dSeq (dSet 6 (dOp dAdd (dOp dAdd (dLc (iRng1D (dCons (dC (.int 41)) dNil)) true [7] [7] dYes (dVar 7)) (dCall sp_law_edges E0D (dCons (dVar 1) (dCons (dVar 2) dNil)))) (dLst (dCons (dCall sp_law_draw E0D (dCons (dVar 0) (dCons (dC (.int 6000)) dNil))) (dCons (dCall sp_law_far E0D (dCons (dVar 0) dNil)) (dCons (dCall sp_law_far E0D (dCons (dVar 0) dNil)) dNil))))))
    (dSeq (dFor (iSeqD (dVar 6)) (gD true [7]) (dSeq (dSet 8 (dCall sp_law_price E0D (dCons (dVar 1) (dCons (dVar 2) (dCons (dVar 3) (dCons (dVar 7) dNil))))))
    (dIfS (dTOr (dTest (dOp dNe (dCall sp_law_value E0D (dCons (dVar 5) (dCons (dVar 7) dNil))) (dVar 8))) (dTest (dOp dNe (dCall sp_price E0D (dCons (dVar 1) (dCons (dVar 2) (dCons (dVar 3) (dCons (dVar 7) dNil))))) (dVar 8)))) (dRet (dC (.bl false))) dNext)))
    (dRet (dC (.bl true))))) (fnE Q) [some (.ref a), some (.tup (rows.map TRow.enc)), some (.str z), some (.tup (ss.map .str)), some (.str "told"), some g.enc, none, none, none] M' := fun M' eM => by
      subst eM
      walk_at "g"
      refine s_kr1 (by decide) (by decide) ?_
      refine s_klcRng (fun i : Nat => .int i) (small_line (by decide)) (fun i QQ hi k => ?_) ?_
      · rw [Int.zero_add]
        walk_at "g"
        exact k
      rw [show (41 : Int).toNat = 41 from rfl, show (List.range 41).map (fun i : Nat => D.int i) = ((List.range 41).map fun i : Nat => (i : Int)).map .int by rw [List.map_map]; rfl]
      walk_at "g"
      refine ⟨rows, z, rfl, R, fun ws hw hB => ?_⟩
      walk_at "g"
      refine s_addL (small_line (by rw [List.length_map, List.length_map, List.length_map, List.length_range]; omega)) ?_
      walk_at "g"
      refine ⟨a, 6000, rfl, by decide, by decide, st, fun d1 M1 d10 d11 D1 => ?_⟩
      walk_at "g"
      refine ⟨a, rfl, D1.ok, fun d2 M2 d20 d21 D2 => ?_⟩
      have D2 := D1.trans D2
      clear D1
      walk_at "g"
      refine ⟨a, rfl, D2.ok, fun d3 M3 d30 d31 D3 => ?_⟩
      have D3 := D2.trans D3
      clear D2
      obtain ⟨us, hus⟩ : ∃ us, (((List.range 41).map fun i : Nat => (i : Int)) ++ ws) ++ [d1, d2, d3] = us := ⟨_, rfl⟩
      have hU : ∀ u ∈ us, 0 ≤ u ∧ u < 2 ^ 190 := fun u hu => by
        have p20 : (2000000 : Int) < 2 ^ 190 := by decide
        rw [← hus] at hu
        rcases List.mem_append.mp hu with hu | hu
        · rcases List.mem_append.mp hu with hu | hu
          · obtain ⟨i, hi, rfl⟩ := List.mem_map.mp hu
            have := List.mem_range.mp hi
            generalize (2 : Int) ^ 190 = P at *
            omega
          · have := hB u hu
            generalize (2 : Int) ^ 190 = P at *
            omega
        · simp only [List.mem_cons, List.not_mem_nil, or_false] at hu
          generalize (2 : Int) ^ 190 = P at *
          rcases hu with rfl | rfl | rfl <;> omega
      clear d21 d31
      walk_at "g"
      refine s_addL (small_line (by rw [List.length_append, List.length_map, List.length_map, List.length_map, List.length_range]; show _ + 3 ≤ _; omega)) ?_
      rw [show ((List.range 41).map fun i : Nat => (i : Int)).map D.int ++ ws.map D.int ++ [.int d1, .int d2, .int d3] = us.map .int by rw [← hus]; simp only [List.map_append, List.map_cons, List.map_nil]]
      clear hus
      walk_at "g"
      refine s_kforT (ds := us.map .int) (fun k τ M' => M' = M3 ∧ ∃ x7 x8, τ = [some (.ref a), some (.tup (rows.map TRow.enc)), some (.str z), some (.tup (ss.map .str)), some (.str "told"), some g.enc, some (.lst (us.map .int)), x7, x8]) (fun _ => rfl) ⟨rfl, _, _, rfl⟩ (fun k d τ M' hd ⟨eM, x7, x8, eτ⟩ => ?_) (fun τ M' ⟨eM, x7, x8, eτ⟩ => ?_)
      · subst eM; subst eτ
        obtain ⟨i, hi, rfl⟩ : ∃ i, i ∈ us ∧ d = .int i := by
          obtain ⟨i, hi, e⟩ := List.mem_map.mp (List.mem_of_getElem? hd)
          exact ⟨i, hi, e.symm⟩
        obtain ⟨i0, i1⟩ := hU i hi
        refine s_gname ?_
        walk_at "g"
        refine ⟨rows, z, ss, i, rfl, by omega, by omega, R.keys, okR, ?_⟩
        walk_at "g"
        refine gk.val_at (m := 200) (by omega) (by decide) (by decide) ?_
        rw [G.v i i0, price_sum hrs]
        walk_at "g"
        refine s_neS (scal_O _ _) ?_
        rw [decide_eq_true rfl]
        walk_at "w"
        refine ⟨rows, z, ss, i, rfl, by omega, by omega, R.keys, okR, ?_⟩
        rw [price_sum hrs]
        walk_at "g"
        refine s_neS (scal_O _ _) ?_
        rw [decide_eq_true rfl]
        walk_at "w"
        exact ⟨by trivial, _, _, rfl⟩
      · subst eM; subst eτ
        walk_at "g"
        exact s_end (q _ D3)
    walk_at "w"
    all_goals
      refine ⟨rows, z, ss, rfl, R, ?_⟩
      rw [eL]
      walk_at "g"
      · refine ⟨g, 2000, rfl, gk, by decide, G.nm, ?_⟩
        walk_at "w"
        exact rest _ rfl
      · exact rest _ rfl

def nothF : Frm := ⟨[], [(none, 0)]⟩
theorem nothF_enc : nothF.enc = k_NOTHING := rfl
theorem law_c9 (C : Ct) {x0 x1 x5 x6 : Option D} {rows : List TRow} {z : Str} {ss : List Str} {M : Mp} {Q : QD} (R : RwsOk rows) (nz : isNm z) (sl : ss.length ≤ 20) (sne : ss ≠ []) (q : Q (.bl true) M) :
    t_law_c9 C (fnE fun d M' => Q d M') [x0, x1, some (.tup (rows.map TRow.enc)), some (.str z), some (.tup (ss.map .str)), x5, x6, none, none] M := by
  unfold t_law_c9
  have hl := R.len
  have nlen : z.length ≤ 12 := (isNm_iff.mp nz).2.1
  obtain ⟨s0, ss', es⟩ := List.exists_cons_of_ne_nil sne
  walk_at "g"
  refine s_addS (small_line (by show z.length + 1 ≤ _; omega)) ?_
  walk_at "g"
  refine s_ksl2S (small_line (by rw [len_add]; show z.length + 1 ≤ _; omega)) ?_
  generalize cutS (z ++ "q") none (some 12) = w
  walk_at "g"
  refine s_klcFil TRow.enc (fun r => decide (r.zone = w)) TRow.enc (fun _ => rfl) (small_line (by omega)) (fun r hr => ⟨_, rfl, fun QB k => ?_, fun QQ hq k => ?_⟩) ?_
  · unfold TRow.enc
    walk_at "g"
    exact k
  · walk_at "g"
    exact k
  walk_at "g"
  · rename_i hc
    rw [decide_eq_true hc]
    exact s_end q
  · rename_i hc
    rw [List.length_map] at hc
    refine ⟨rows, w, ss, rfl, R, by omega, sne, fun e => ?_, fun rs e => ?_⟩
    · walk_at "g"
      refine s_eqF (f := nothF) (g := nothF) ?_
      rw [decide_eq_true rfl]
      exact s_end q
    · exfalso
      obtain ⟨_, _, _, h⟩ := rows_mem e
      have h0 := List.all_eq_true.mp h s0 (by rw [es]; exact List.mem_cons_self)
      obtain ⟨r, hr⟩ := Option.isSome_iff_exists.mp h0
      obtain ⟨h1, h2, _⟩ := look_mem hr
      have : 0 < (rows.filter fun r => decide (r.zone = w)).length := List.length_pos_of_mem (List.mem_filter.mpr ⟨h1, decide_eq_true h2⟩)
      exact hc (by omega)
theorem law_c4 (C : Ct) {x0 : Option D} {a : Addr} {rows : List TRow} {z : Str} {ss : List Str} {M0 M : Mp} {Q : QD} (R : RwsOk rows) (nz : isNm z) (sl : ss.length ≤ 20) (sne : ss ≠ []) (sn : ∀ s ∈ ss, ∃ r ∈ rows, r.zone = z ∧ r.service = s) (s2 : ss.length ≤ 2 ∨ lcmS rows z ss ≤ 1000) (D0 : Drawn M0 a M) (q : ∀ M', Drawn M0 a M' → Q (.bl true) M') :
    t_law_c4 C (fnE fun d M' => Q d M') [x0, some (.ref a), some (.tup (rows.map TRow.enc)), some (.str z), some (.tup (ss.map .str)), none, none, none, none] M := by
  unfold t_law_c4
  have hl := R.len
  have sp := List.length_pos_iff.mpr sne
  walk_at "g"
  refine ⟨a, rows, z, ss, rfl, R, sl, sne, sn, s2, D0.ok, fun M1 D1 => ?_⟩
  have D1 := D0.trans D1
  walk_at "w"
  rw [show (1 : Int) = ((1 : Nat) : Int) from rfl, cut_to2, ← List.map_take]
  refine ⟨a, rows, z, ss.take 1, rfl, R, by rw [List.length_take]; omega, fun e => ?_, fun s h => sn s (List.mem_of_mem_take h), .inl (by rw [List.length_take]; omega), D1.ok, fun M2 D2 => ?_⟩
  · have := congrArg List.length e
    rw [List.length_take] at this
    have : min 1 ss.length = 0 := this
    omega
  have D2 := D1.trans D2
  walk_at "w"
  refine ⟨a, rfl, D2.ok, fun rw2 M3 R2 h2 D3 => ?_⟩
  have D3 := D2.trans D3
  walk_at "g"
  refine ⟨a, rw2, "far", ["basic", "extra"], rfl, R2, by decide, by simp, h2, .inl (by decide), D3.ok, fun M4 D4 => ?_⟩
  have D4 := D3.trans D4
  walk_at "w"
  refine ⟨a, rfl, D4.ok, fun o M5 no D5 => ?_⟩
  have D5 := D4.trans D5
  walk_at "g"
  refine s_klcFil TRow.enc (fun r => decide (r.zone = z)) (fun r => .str r.service) (fun _ => rfl) (small_line (by omega)) (fun r hr => ⟨_, rfl, fun QB k => ?_, fun QQ hq k => ?_⟩) ?_
  · unfold TRow.enc
    walk_at "g"
    exact k
  · unfold TRow.enc
    walk_at "g"
    exact k
  have eK : ((rows.filter fun r => decide (r.zone = z)).map fun r => D.str r.service) = ((rows.filter fun r => decide (r.zone = z)).map TRow.service).map .str := by rw [List.map_map]; rfl
  rw [eK]
  walk_at "g"
  refine s_in rfl rfl (flat_strs _) ?_
  rw [any_str]
  by_cases hm : o ∈ (rows.filter fun r => decide (r.zone = z)).map TRow.service
  · rw [decide_eq_true hm]
    simp only [if_true, Bool.not_true]
    walk_at "g"
    exact law_c9 C R nz sl sne (q _ D5)
  · rw [decide_eq_false hm]
    simp only [if_true, Bool.not_false]
    walk_at "g"
    refine s_addL (small_line (by rw [List.length_map]; show 1 + _ ≤ _; omega)) ?_
    walk_at "g"
    refine s_sortedS (ns := o :: ss) rfl (by rw [List.length_cons]; omega) fun ys hp hs => ?_
    walk_at "g"
    have yl : ys.length = ss.length + 1 := by rw [hp.length_eq, List.length_cons]
    refine ⟨rows, z, ys, rfl, R, by omega, fun e => by rw [e] at yl; simp at yl, fun e => ?_, fun rs e => ?_⟩
    · walk_at "g"
      refine s_neF (f := nothF) (g := nothF) ?_
      rw [decide_eq_true rfl]
      walk_at "w"
      exact law_c9 C R nz sl sne (q _ D5)
    · rw [rows_none (hp.mem_iff.mpr List.mem_cons_self) fun r hr h => hm (List.mem_map.mpr ⟨r, List.mem_filter.mpr ⟨hr, decide_eq_true h.1⟩, h.2⟩)] at e
      cases e
theorem len_law : ∀ ds M Q E, sp_law ds M Q E → ds.length = 1 := by rintro _ _ _ _ ⟨_, rfl, _⟩; rfl
theorem rd_law (C : Ct) : Rds (t_law C) n_law sp_law := by
  rintro _ M Q E ⟨ns, rfl, hl, q⟩
  show t_law C _ [some (.lsk (ns.map .int)), none, none, none, none, none, none, none, none] M
  unfold t_law
  walk_at "g"
  refine ⟨ns, rfl, hl, fun a M1 ha st hs => ?_⟩
  walk_at "g"
  refine ⟨a, rfl, st, fun rows M2 T D2 => ?_⟩
  have hlr := T.len
  have R : RwsOk rows := ⟨T.len, T.row, keysD_of T.asc⟩
  walk_at "g"
  refine ⟨a, rows, rfl, T, D2.ok, fun z ss M3 nz sl sne sn D3 => ?_⟩
  walk_at "g"
  · refine ⟨rows, z, ss, rfl, R, ?_⟩
    walk_at "g"
    · rw [show (2 : Int) = ((2 : Nat) : Int) from rfl, cut_to2, ← List.map_take]
      refine law_c4 C R nz (by rw [List.length_take]; omega) (fun e => ?_) (fun s h => sn s (List.mem_of_mem_take h)) (.inl (by rw [List.length_take]; omega)) D3 fun M' _ => q _ _ rfl
      have sp := List.length_pos_iff.mpr sne
      have := congrArg List.length e
      rw [List.length_take] at this
      have : min 2 ss.length = 0 := this
      omega
    · rename_i hc
      exact law_c4 C R nz sl sne sn (.inr (by omega)) D3 fun M' _ => q _ _ rfl
  · rename_i hc
    rw [List.length_map] at hc
    exact law_c4 C R nz sl sne sn (.inl (by omega)) D3 fun M' _ => q _ _ rfl

def topS (i : Nat) : Stmt := PySem.Challenge.pw_postsooth_k26_whole_postage_of_all_weigh.main.body.getD i (.Pass ⟨0, 0, 0, 0⟩)
abbrev s_value_at : Stmt := topS 8
theorem sc_value_at : FnScope n_value_at ["form", "x"] (defScope s_value_at) := ⟨rfl, rfl, rfl, by decide +kernel, rfl, by decide +kernel, by decide +kernel⟩
abbrev s_has_period : Stmt := topS 9
theorem sc_has_period : FnScope n_has_period ["tail", "size"] (defScope s_has_period) := ⟨rfl, rfl, rfl, by decide +kernel, rfl, by decide +kernel, by decide +kernel⟩
abbrev s_shortest_tail : Stmt := topS 10
theorem sc_shortest_tail : FnScope n_shortest_tail ["tail"] (defScope s_shortest_tail) := ⟨rfl, rfl, rfl, by decide +kernel, rfl, by decide +kernel, by decide +kernel⟩
abbrev s_continued : Stmt := topS 11
theorem sc_continued : FnScope n_continued ["tail", "places"] (defScope s_continued) := ⟨rfl, rfl, rfl, by decide +kernel, rfl, by decide +kernel, by decide +kernel⟩
abbrev s_normal : Stmt := topS 12
theorem sc_normal : FnScope n_normal ["form"] (defScope s_normal) := ⟨rfl, rfl, rfl, by decide +kernel, rfl, by decide +kernel, by decide +kernel⟩
abbrev s_check_period : Stmt := topS 13
theorem sc_check_period : FnScope n_check_period ["period"] (defScope s_check_period) := ⟨rfl, rfl, rfl, by decide +kernel, rfl, by decide +kernel, by decide +kernel⟩
abbrev s_first_of_class : Stmt := topS 14
theorem sc_first_of_class : FnScope n_first_of_class ["rest", "least", "period"] (defScope s_first_of_class) := ⟨rfl, rfl, rfl, by decide +kernel, rfl, by decide +kernel, by decide +kernel⟩
abbrev s_line : Stmt := topS 15
theorem sc_line : FnScope n_line ["period", "tell", "start"] (defScope s_line) := ⟨rfl, rfl, rfl, by decide +kernel, rfl, by decide +kernel, by decide +kernel⟩
abbrev s_assemble : Stmt := topS 16
theorem sc_assemble : FnScope n_assemble ["period", "tell", "starts"] (defScope s_assemble) := ⟨rfl, rfl, rfl, by decide +kernel, rfl, by decide +kernel, by decide +kernel⟩
abbrev s_common_starts : Stmt := topS 18
theorem sc_common_starts : FnScope n_common_starts ["one", "two", "period"] (defScope s_common_starts) := ⟨rfl, rfl, rfl, by decide +kernel, rfl, by decide +kernel, by decide +kernel⟩
abbrev s_common_period : Stmt := topS 19
theorem sc_common_period : FnScope n_common_period ["one", "two"] (defScope s_common_period) := ⟨rfl, rfl, rfl, by decide +kernel, rfl, by decide +kernel, by decide +kernel⟩
abbrev s_added : Stmt := topS 20
theorem sc_added : FnScope n_added ["one", "two"] (defScope s_added) := ⟨rfl, rfl, rfl, by decide +kernel, rfl, by decide +kernel, by decide +kernel⟩
abbrev s_even : Stmt := topS 21
theorem sc_even : FnScope n_even ["a", "b", "combine"] (defScope s_even) := ⟨rfl, rfl, rfl, by decide +kernel, rfl, by decide +kernel, by decide +kernel⟩
abbrev s_sum_of : Stmt := topS 22
theorem sc_sum_of : FnScope n_sum_of ["a", "b"] (defScope s_sum_of) := ⟨rfl, rfl, rfl, by decide +kernel, rfl, by decide +kernel, by decide +kernel⟩
abbrev s_last_step : Stmt := topS 24
theorem sc_last_step : FnScope n_last_step ["row"] (defScope s_last_step) := ⟨rfl, rfl, rfl, by decide +kernel, rfl, by decide +kernel, by decide +kernel⟩
abbrev s_row_price : Stmt := topS 25
theorem sc_row_price : FnScope n_row_price ["row", "weight"] (defScope s_row_price) := ⟨rfl, rfl, rfl, by decide +kernel, rfl, by decide +kernel, by decide +kernel⟩
abbrev s_rows_for : Stmt := topS 26
theorem sc_rows_for : FnScope n_rows_for ["tariff", "zone", "services"] (defScope s_rows_for) := ⟨rfl, rfl, rfl, by decide +kernel, rfl, by decide +kernel, by decide +kernel⟩
abbrev s_price : Stmt := topS 27
theorem sc_price : FnScope n_price ["tariff", "zone", "services", "weight"] (defScope s_price) := ⟨rfl, rfl, rfl, by decide +kernel, rfl, by decide +kernel, by decide +kernel⟩
abbrev s_row_form : Stmt := topS 28
theorem sc_row_form : FnScope n_row_form ["row"] (defScope s_row_form) := ⟨rfl, rfl, rfl, by decide +kernel, rfl, by decide +kernel, by decide +kernel⟩
abbrev s_postage : Stmt := topS 29
theorem sc_postage : FnScope n_postage ["tariff", "zone", "services"] (defScope s_postage) := ⟨rfl, rfl, rfl, by decide +kernel, rfl, by decide +kernel, by decide +kernel⟩
abbrev s_law_state : Stmt := topS 31
theorem sc_law_state : FnScope n_law_state ["script"] (defScope s_law_state) := ⟨rfl, rfl, rfl, by decide +kernel, rfl, by decide +kernel, by decide +kernel⟩
abbrev s_law_draw : Stmt := topS 32
theorem sc_law_draw : FnScope n_law_draw ["state", "limit"] (defScope s_law_draw) := ⟨rfl, rfl, rfl, by decide +kernel, rfl, by decide +kernel, by decide +kernel⟩
abbrev s_law_far : Stmt := topS 33
theorem sc_law_far : FnScope n_law_far ["state"] (defScope s_law_far) := ⟨rfl, rfl, rfl, by decide +kernel, rfl, by decide +kernel, by decide +kernel⟩
abbrev s_law_name : Stmt := topS 34
theorem sc_law_name : FnScope n_law_name ["state"] (defScope s_law_name) := ⟨rfl, rfl, rfl, by decide +kernel, rfl, by decide +kernel, by decide +kernel⟩
abbrev s_law_value : Stmt := topS 35
theorem sc_law_value : FnScope n_law_value ["form", "x"] (defScope s_law_value) := ⟨rfl, rfl, rfl, by decide +kernel, rfl, by decide +kernel, by decide +kernel⟩
abbrev s_law_int : Stmt := topS 36
theorem sc_law_int : FnScope n_law_int ["value"] (defScope s_law_int) := ⟨rfl, rfl, rfl, by decide +kernel, rfl, by decide +kernel, by decide +kernel⟩
abbrev s_law_is_form : Stmt := topS 37
theorem sc_law_is_form : FnScope n_law_is_form ["form"] (defScope s_law_is_form) := ⟨rfl, rfl, rfl, by decide +kernel, rfl, by decide +kernel, by decide +kernel⟩
abbrev s_law_is_even : Stmt := topS 38
theorem sc_law_is_even : FnScope n_law_is_even ["form", "size"] (defScope s_law_is_even) := ⟨rfl, rfl, rfl, by decide +kernel, rfl, by decide +kernel, by decide +kernel⟩
abbrev s_law_is_normal : Stmt := topS 39
theorem sc_law_is_normal : FnScope n_law_is_normal ["form"] (defScope s_law_is_normal) := ⟨rfl, rfl, rfl, by decide +kernel, rfl, by decide +kernel, by decide +kernel⟩
abbrev s_law_amount : Stmt := topS 40
theorem sc_law_amount : FnScope n_law_amount ["state"] (defScope s_law_amount) := ⟨rfl, rfl, rfl, by decide +kernel, rfl, by decide +kernel, by decide +kernel⟩
abbrev s_law_steps : Stmt := topS 41
theorem sc_law_steps : FnScope n_law_steps ["state"] (defScope s_law_steps) := ⟨rfl, rfl, rfl, by decide +kernel, rfl, by decide +kernel, by decide +kernel⟩
abbrev s_law_more : Stmt := topS 42
theorem sc_law_more : FnScope n_law_more ["state"] (defScope s_law_more) := ⟨rfl, rfl, rfl, by decide +kernel, rfl, by decide +kernel, by decide +kernel⟩
abbrev s_law_some_names : Stmt := topS 43
theorem sc_law_some_names : FnScope n_law_some_names ["state", "count"] (defScope s_law_some_names) := ⟨rfl, rfl, rfl, by decide +kernel, rfl, by decide +kernel, by decide +kernel⟩
abbrev s_law_tariff : Stmt := topS 44
theorem sc_law_tariff : FnScope n_law_tariff ["state"] (defScope s_law_tariff) := ⟨rfl, rfl, rfl, by decide +kernel, rfl, by decide +kernel, by decide +kernel⟩
abbrev s_law_row_price : Stmt := topS 45
theorem sc_law_row_price : FnScope n_law_row_price ["row", "weight"] (defScope s_law_row_price) := ⟨rfl, rfl, rfl, by decide +kernel, rfl, by decide +kernel, by decide +kernel⟩
abbrev s_law_price : Stmt := topS 46
theorem sc_law_price : FnScope n_law_price ["tariff", "zone", "services", "weight"] (defScope s_law_price) := ⟨rfl, rfl, rfl, by decide +kernel, rfl, by decide +kernel, by decide +kernel⟩
abbrev s_law_services : Stmt := topS 47
theorem sc_law_services : FnScope n_law_services ["state", "tariff"] (defScope s_law_services) := ⟨rfl, rfl, rfl, by decide +kernel, rfl, by decide +kernel, by decide +kernel⟩
abbrev s_law_edges : Stmt := topS 48
theorem sc_law_edges : FnScope n_law_edges ["tariff", "zone"] (defScope s_law_edges) := ⟨rfl, rfl, rfl, by decide +kernel, rfl, by decide +kernel, by decide +kernel⟩
abbrev s_law_common : Stmt := topS 49
theorem sc_law_common : FnScope n_law_common ["one", "two"] (defScope s_law_common) := ⟨rfl, rfl, rfl, by decide +kernel, rfl, by decide +kernel, by decide +kernel⟩
abbrev s_law_period : Stmt := topS 50
theorem sc_law_period : FnScope n_law_period ["row"] (defScope s_law_period) := ⟨rfl, rfl, rfl, by decide +kernel, rfl, by decide +kernel, by decide +kernel⟩
abbrev s_law_periods : Stmt := topS 51
theorem sc_law_periods : FnScope n_law_periods ["tariff", "zone", "services"] (defScope s_law_periods) := ⟨rfl, rfl, rfl, by decide +kernel, rfl, by decide +kernel, by decide +kernel⟩
abbrev s_law_told : Stmt := topS 52
theorem sc_law_told : FnScope n_law_told ["tariff", "zone", "services"] (defScope s_law_told) := ⟨rfl, rfl, rfl, by decide +kernel, rfl, by decide +kernel, by decide +kernel⟩
abbrev s_law_holds : Stmt := topS 53
theorem sc_law_holds : FnScope n_law_holds ["state", "tariff", "zone", "services"] (defScope s_law_holds) := ⟨rfl, rfl, rfl, by decide +kernel, rfl, by decide +kernel, by decide +kernel⟩
abbrev s_law_two : Stmt := topS 54
theorem sc_law_two : FnScope n_law_two ["state"] (defScope s_law_two) := ⟨rfl, rfl, rfl, by decide +kernel, rfl, by decide +kernel, by decide +kernel⟩
abbrev s_law : Stmt := topS 55
theorem sc_law : FnScope n_law ["script"] (defScope s_law) := ⟨rfl, rfl, rfl, by decide +kernel, rfl, by decide +kernel, by decide +kernel⟩
structure Tx0 (K : PySem.W.Frag) (mg : Str → Option Value) (base : Heap) (tb : List (Addr × Str)) where
  f_value_at : Addr
  d_value_at : FuncData
  F_value_at : Fun K "value_at" "value_at" s_value_at f_value_at d_value_at
  g_value_at : mg "value_at" = some (.ref f_value_at)
  b_value_at : Binds K d_value_at ["form", "x"] []
  f_has_period : Addr
  d_has_period : FuncData
  F_has_period : Fun K "_has_period" "_has_period" s_has_period f_has_period d_has_period
  g_has_period : mg "_has_period" = some (.ref f_has_period)
  b_has_period : Binds K d_has_period ["tail", "size"] []
  f_shortest_tail : Addr
  d_shortest_tail : FuncData
  F_shortest_tail : Fun K "_shortest_tail" "_shortest_tail" s_shortest_tail f_shortest_tail d_shortest_tail
  g_shortest_tail : mg "_shortest_tail" = some (.ref f_shortest_tail)
  b_shortest_tail : Binds K d_shortest_tail ["tail"] []
  f_continued : Addr
  d_continued : FuncData
  F_continued : Fun K "_continued" "_continued" s_continued f_continued d_continued
  g_continued : mg "_continued" = some (.ref f_continued)
  b_continued : Binds K d_continued ["tail", "places"] []
  f_normal : Addr
  d_normal : FuncData
  F_normal : Fun K "normal" "normal" s_normal f_normal d_normal
  g_normal : mg "normal" = some (.ref f_normal)
  b_normal : Binds K d_normal ["form"] []
  f_check_period : Addr
  d_check_period : FuncData
  F_check_period : Fun K "check_period" "check_period" s_check_period f_check_period d_check_period
  g_check_period : mg "check_period" = some (.ref f_check_period)
  b_check_period : Binds K d_check_period ["period"] []
  f_first_of_class : Addr
  d_first_of_class : FuncData
  F_first_of_class : Fun K "first_of_class" "first_of_class" s_first_of_class f_first_of_class d_first_of_class
  g_first_of_class : mg "first_of_class" = some (.ref f_first_of_class)
  b_first_of_class : Binds K d_first_of_class ["rest", "least", "period"] []
  f_line : Addr
  d_line : FuncData
  F_line : Fun K "_line" "_line" s_line f_line d_line
  g_line : mg "_line" = some (.ref f_line)
  b_line : Binds K d_line ["period", "tell", "start"] []
structure Tx1 (K : PySem.W.Frag) (mg : Str → Option Value) (base : Heap) (tb : List (Addr × Str)) where
  f_assemble : Addr
  d_assemble : FuncData
  F_assemble : Fun K "assemble" "assemble" s_assemble f_assemble d_assemble
  g_assemble : mg "assemble" = some (.ref f_assemble)
  b_assemble : Binds K d_assemble ["period", "tell", "starts"] []
  f_common_starts : Addr
  d_common_starts : FuncData
  F_common_starts : Fun K "common_starts" "common_starts" s_common_starts f_common_starts d_common_starts
  g_common_starts : mg "common_starts" = some (.ref f_common_starts)
  b_common_starts : Binds K d_common_starts ["one", "two", "period"] []
  f_common_period : Addr
  d_common_period : FuncData
  F_common_period : Fun K "common_period" "common_period" s_common_period f_common_period d_common_period
  g_common_period : mg "common_period" = some (.ref f_common_period)
  b_common_period : Binds K d_common_period ["one", "two"] []
  f_added : Addr
  d_added : FuncData
  F_added : Fun K "_added" "_added" s_added f_added d_added
  g_added : mg "_added" = some (.ref f_added)
  b_added : Binds K d_added ["one", "two"] []
  cc_even : Addr
  pp_even : Addr
  B_even : LamX.TabB base mg cc_even pp_even
  m_even : (pp_even, ("_even" : Str) ++ ".<locals>." ++ "<lambda>") ∈ tb
  f_even : Addr
  d_even : FuncData
  F_even : FunC K "_even" "_even" s_even f_even d_even cc_even
  g_even : mg "_even" = some (.ref f_even)
  b_even : Binds K d_even ["a", "b", "combine"] []
  f_sum_of : Addr
  d_sum_of : FuncData
  F_sum_of : Fun K "sum_of" "sum_of" s_sum_of f_sum_of d_sum_of
  g_sum_of : mg "sum_of" = some (.ref f_sum_of)
  b_sum_of : Binds K d_sum_of ["a", "b"] []
  f_last_step : Addr
  d_last_step : FuncData
  F_last_step : Fun K "_last_step" "_last_step" s_last_step f_last_step d_last_step
  g_last_step : mg "_last_step" = some (.ref f_last_step)
  b_last_step : Binds K d_last_step ["row"] []
  f_row_price : Addr
  d_row_price : FuncData
  F_row_price : Fun K "_row_price" "_row_price" s_row_price f_row_price d_row_price
  g_row_price : mg "_row_price" = some (.ref f_row_price)
  b_row_price : Binds K d_row_price ["row", "weight"] []
structure Tx2 (K : PySem.W.Frag) (mg : Str → Option Value) (base : Heap) (tb : List (Addr × Str)) where
  f_rows_for : Addr
  d_rows_for : FuncData
  F_rows_for : Fun K "_rows_for" "_rows_for" s_rows_for f_rows_for d_rows_for
  g_rows_for : mg "_rows_for" = some (.ref f_rows_for)
  b_rows_for : Binds K d_rows_for ["tariff", "zone", "services"] []
  f_price : Addr
  d_price : FuncData
  F_price : Fun K "price" "price" s_price f_price d_price
  g_price : mg "price" = some (.ref f_price)
  b_price : Binds K d_price ["tariff", "zone", "services", "weight"] []
  f_row_form : Addr
  d_row_form : FuncData
  F_row_form : Fun K "_row_form" "_row_form" s_row_form f_row_form d_row_form
  g_row_form : mg "_row_form" = some (.ref f_row_form)
  b_row_form : Binds K d_row_form ["row"] []
  f_postage : Addr
  d_postage : FuncData
  F_postage : Fun K "postage" "postage" s_postage f_postage d_postage
  g_postage : mg "postage" = some (.ref f_postage)
  b_postage : Binds K d_postage ["tariff", "zone", "services"] []
  f_law_state : Addr
  d_law_state : FuncData
  F_law_state : Fun K "_law_state" "_law_state" s_law_state f_law_state d_law_state
  g_law_state : mg "_law_state" = some (.ref f_law_state)
  b_law_state : Binds K d_law_state ["script"] []
  f_law_draw : Addr
  d_law_draw : FuncData
  F_law_draw : Fun K "_law_draw" "_law_draw" s_law_draw f_law_draw d_law_draw
  g_law_draw : mg "_law_draw" = some (.ref f_law_draw)
  b_law_draw : Binds K d_law_draw ["state", "limit"] []
  f_law_far : Addr
  d_law_far : FuncData
  F_law_far : Fun K "_law_far" "_law_far" s_law_far f_law_far d_law_far
  g_law_far : mg "_law_far" = some (.ref f_law_far)
  b_law_far : Binds K d_law_far ["state"] []
  f_law_name : Addr
  d_law_name : FuncData
  F_law_name : Fun K "_law_name" "_law_name" s_law_name f_law_name d_law_name
  g_law_name : mg "_law_name" = some (.ref f_law_name)
  b_law_name : Binds K d_law_name ["state"] []
structure Tx3 (K : PySem.W.Frag) (mg : Str → Option Value) (base : Heap) (tb : List (Addr × Str)) where
  f_law_value : Addr
  d_law_value : FuncData
  F_law_value : Fun K "_law_value" "_law_value" s_law_value f_law_value d_law_value
  g_law_value : mg "_law_value" = some (.ref f_law_value)
  b_law_value : Binds K d_law_value ["form", "x"] []
  f_law_int : Addr
  d_law_int : FuncData
  F_law_int : Fun K "_law_int" "_law_int" s_law_int f_law_int d_law_int
  g_law_int : mg "_law_int" = some (.ref f_law_int)
  b_law_int : Binds K d_law_int ["value"] []
  f_law_is_form : Addr
  d_law_is_form : FuncData
  F_law_is_form : Fun K "_law_is_form" "_law_is_form" s_law_is_form f_law_is_form d_law_is_form
  g_law_is_form : mg "_law_is_form" = some (.ref f_law_is_form)
  b_law_is_form : Binds K d_law_is_form ["form"] []
  f_law_is_even : Addr
  d_law_is_even : FuncData
  F_law_is_even : Fun K "_law_is_even" "_law_is_even" s_law_is_even f_law_is_even d_law_is_even
  g_law_is_even : mg "_law_is_even" = some (.ref f_law_is_even)
  b_law_is_even : Binds K d_law_is_even ["form", "size"] []
  f_law_is_normal : Addr
  d_law_is_normal : FuncData
  F_law_is_normal : Fun K "_law_is_normal" "_law_is_normal" s_law_is_normal f_law_is_normal d_law_is_normal
  g_law_is_normal : mg "_law_is_normal" = some (.ref f_law_is_normal)
  b_law_is_normal : Binds K d_law_is_normal ["form"] []
  f_law_amount : Addr
  d_law_amount : FuncData
  F_law_amount : Fun K "_law_amount" "_law_amount" s_law_amount f_law_amount d_law_amount
  g_law_amount : mg "_law_amount" = some (.ref f_law_amount)
  b_law_amount : Binds K d_law_amount ["state"] []
  f_law_steps : Addr
  d_law_steps : FuncData
  F_law_steps : Fun K "_law_steps" "_law_steps" s_law_steps f_law_steps d_law_steps
  g_law_steps : mg "_law_steps" = some (.ref f_law_steps)
  b_law_steps : Binds K d_law_steps ["state"] []
  f_law_more : Addr
  d_law_more : FuncData
  F_law_more : Fun K "_law_more" "_law_more" s_law_more f_law_more d_law_more
  g_law_more : mg "_law_more" = some (.ref f_law_more)
  b_law_more : Binds K d_law_more ["state"] []
structure Tx4 (K : PySem.W.Frag) (mg : Str → Option Value) (base : Heap) (tb : List (Addr × Str)) where
  f_law_some_names : Addr
  d_law_some_names : FuncData
  F_law_some_names : Fun K "_law_some_names" "_law_some_names" s_law_some_names f_law_some_names d_law_some_names
  g_law_some_names : mg "_law_some_names" = some (.ref f_law_some_names)
  b_law_some_names : Binds K d_law_some_names ["state", "count"] []
  f_law_tariff : Addr
  d_law_tariff : FuncData
  F_law_tariff : Fun K "_law_tariff" "_law_tariff" s_law_tariff f_law_tariff d_law_tariff
  g_law_tariff : mg "_law_tariff" = some (.ref f_law_tariff)
  b_law_tariff : Binds K d_law_tariff ["state"] []
  f_law_row_price : Addr
  d_law_row_price : FuncData
  F_law_row_price : Fun K "_law_row_price" "_law_row_price" s_law_row_price f_law_row_price d_law_row_price
  g_law_row_price : mg "_law_row_price" = some (.ref f_law_row_price)
  b_law_row_price : Binds K d_law_row_price ["row", "weight"] []
  f_law_price : Addr
  d_law_price : FuncData
  F_law_price : Fun K "_law_price" "_law_price" s_law_price f_law_price d_law_price
  g_law_price : mg "_law_price" = some (.ref f_law_price)
  b_law_price : Binds K d_law_price ["tariff", "zone", "services", "weight"] []
  f_law_services : Addr
  d_law_services : FuncData
  F_law_services : Fun K "_law_services" "_law_services" s_law_services f_law_services d_law_services
  g_law_services : mg "_law_services" = some (.ref f_law_services)
  b_law_services : Binds K d_law_services ["state", "tariff"] []
  f_law_edges : Addr
  d_law_edges : FuncData
  F_law_edges : Fun K "_law_edges" "_law_edges" s_law_edges f_law_edges d_law_edges
  g_law_edges : mg "_law_edges" = some (.ref f_law_edges)
  b_law_edges : Binds K d_law_edges ["tariff", "zone"] []
  f_law_common : Addr
  d_law_common : FuncData
  F_law_common : Fun K "_law_common" "_law_common" s_law_common f_law_common d_law_common
  g_law_common : mg "_law_common" = some (.ref f_law_common)
  b_law_common : Binds K d_law_common ["one", "two"] []
  f_law_period : Addr
  d_law_period : FuncData
  F_law_period : Fun K "_law_period" "_law_period" s_law_period f_law_period d_law_period
  g_law_period : mg "_law_period" = some (.ref f_law_period)
  b_law_period : Binds K d_law_period ["row"] []
structure Tx5 (K : PySem.W.Frag) (mg : Str → Option Value) (base : Heap) (tb : List (Addr × Str)) where
  f_law_periods : Addr
  d_law_periods : FuncData
  F_law_periods : Fun K "_law_periods" "_law_periods" s_law_periods f_law_periods d_law_periods
  g_law_periods : mg "_law_periods" = some (.ref f_law_periods)
  b_law_periods : Binds K d_law_periods ["tariff", "zone", "services"] []
  f_law_told : Addr
  d_law_told : FuncData
  F_law_told : Fun K "_law_told" "_law_told" s_law_told f_law_told d_law_told
  g_law_told : mg "_law_told" = some (.ref f_law_told)
  b_law_told : Binds K d_law_told ["tariff", "zone", "services"] []
  f_law_holds : Addr
  d_law_holds : FuncData
  F_law_holds : Fun K "_law_holds" "_law_holds" s_law_holds f_law_holds d_law_holds
  g_law_holds : mg "_law_holds" = some (.ref f_law_holds)
  b_law_holds : Binds K d_law_holds ["state", "tariff", "zone", "services"] []
  f_law_two : Addr
  d_law_two : FuncData
  F_law_two : Fun K "_law_two" "_law_two" s_law_two f_law_two d_law_two
  g_law_two : mg "_law_two" = some (.ref f_law_two)
  b_law_two : Binds K d_law_two ["state"] []
  f_law : Addr
  d_law : FuncData
  F_law : Fun K "law" "law" s_law f_law d_law
  g_law : mg "law" = some (.ref f_law)
  b_law : Binds K d_law ["script"] []
structure Tx6 (K : PySem.W.Frag) (mg : Str → Option Value) (base : Heap) (tb : List (Addr × Str)) where
  n_all : mg "all" = none
  n_bool : mg "bool" = none
  n_int : mg "int" = none
  n_isinstance : mg "isinstance" = none
  n_len : mg "len" = none
  n_list : mg "list" = none
  n_max : mg "max" = none
  n_range : mg "range" = none
  n_sorted : mg "sorted" = none
  n_sum : mg "sum" = none
  n_tuple : mg "tuple" = none
  m_lcm : mg "lcm" = some (.builtin "math.lcm")
  x_TooLarge : ExcD K mg "TooLarge"
  c_MAX_HEAD : CnD K mg "MAX_HEAD" k_MAX_HEAD
  c_MAX_PERIOD : CnD K mg "MAX_PERIOD" k_MAX_PERIOD
  c_NOTHING : CnD K mg "NOTHING" k_NOTHING
structure Tx (K : PySem.W.Frag) (mg : Str → Option Value) (base : Heap) (tb : List (Addr × Str)) where
  q0 : Tx0 K mg base tb
  q1 : Tx1 K mg base tb
  q2 : Tx2 K mg base tb
  q3 : Tx3 K mg base tb
  q4 : Tx4 K mg base tb
  q5 : Tx5 K mg base tb
  q6 : Tx6 K mg base tb
section
variable {P : Program} {w : World} {K : PySem.W.Frag} {mg : Str → Option Value} {base : Heap}
theorem ok_value_at (T : Tx K mg base tb) : FnOk P w K mg base CX0 1 T.q0.f_value_at T.q0.d_value_at ["form", "x"] (liSp K tb sp_value_at) :=
  Fun.okD T.q0.F_value_at sc_value_at (len_value_at) (t := t_value_at) (fun cdv A outer s H E F0 R0 hr =>
    (sds_cons (sd_unp rfl (GNames.cons (pg_name (i := 2) sc_value_at.nd rfl (by first | exact Or.inl rfl | exact Or.inr rfl)) (GNames.cons (pg_name (i := 3) sc_value_at.nd rfl (by first | exact Or.inl rfl | exact Or.inr rfl)) GNames.nil rfl) rfl) (dv 0))
    (sds_cons (sd_if (td_cmp od_lt (dv 1) pd_int (nomark _)) (sds_one (sd_ret pd_non)) sds_nil)
    (sds_cons (sd_if (td_cmp od_lt (dv 1) (pd_callB cd_len (by rfl) T.q6.n_len PySem.boot_len (ad_cons (dv 2) ad_nil)) (nomark _)) (sds_one (sd_ret (pd_ix (dv 2) (dv 1) (fun _ _ => rfl)))) sds_nil)
    (sds_cons (sd_set (i := 4) sc_value_at.nd rfl (by first | exact Or.inl rfl | exact Or.inr rfl) (pd_op od_sub (dv 1) (pd_callB cd_len (by rfl) T.q6.n_len PySem.boot_len (ad_cons (dv 2) ad_nil))))
    (sds_cons (sd_unp rfl (GNames.cons (pg_name (i := 5) sc_value_at.nd rfl (by first | exact Or.inl rfl | exact Or.inr rfl)) (GNames.cons (pg_name (i := 6) sc_value_at.nd rfl (by first | exact Or.inl rfl | exact Or.inr rfl)) GNames.nil rfl) rfl) (pd_ix (dv 3) (pd_op od_mod (dv 4) (pd_callB cd_len (by rfl) T.q6.n_len PySem.boot_len (ad_cons (dv 3) ad_nil))) (fun _ _ => rfl)))
    (sds_cons (sd_if (td_cmp od_isN (dv 5) pd_non (nomark _)) (sds_one (sd_ret pd_non)) sds_nil)
    (sds_one (sd_ret (pd_op od_add (dv 5) (pd_op od_mul (dv 6) (pd_op od_fdiv (dv 4) (pd_callB cd_len (by rfl) T.q6.n_len PySem.boot_len (ad_cons (dv 3) ad_nil)))))))))))))) (rd_value_at)
theorem ok_has_period (T : Tx K mg base tb) : FnOk P w K mg base CX0 1 T.q0.f_has_period T.q0.d_has_period ["tail", "size"] (liSp K tb sp_has_period) :=
  Fun.okD T.q0.F_has_period sc_has_period (len_has_period) (t := t_has_period) (fun cdv A outer s H E F0 R0 hr =>
    (sds_cons (sd_set (i := 2) sc_has_period.nd rfl (by first | exact Or.inl rfl | exact Or.inr rfl) (pd_callB cd_len (by rfl) T.q6.n_len PySem.boot_len (ad_cons (dv 0) ad_nil)))
    (sds_cons (sd_for PassesOwn.never rfl (id_rng1 (by rfl) T.q6.n_range (ad_cons (dv 2) ad_nil)) (pg_name (i := 3) sc_has_period.nd rfl (by first | exact Or.inl rfl | exact Or.inr rfl)) tg_name (sds_cons (sd_unp rfl (GNames.cons (pg_name (i := 4) sc_has_period.nd rfl (by first | exact Or.inl rfl | exact Or.inr rfl)) (GNames.cons (pg_name (i := 5) sc_has_period.nd rfl (by first | exact Or.inl rfl | exact Or.inr rfl)) GNames.nil rfl) rfl) (pd_ix (dv 0) (dv 3) (fun _ _ => rfl)))
    (sds_cons (sd_set (i := 6) sc_has_period.nd rfl (by first | exact Or.inl rfl | exact Or.inr rfl) (pd_op od_fdiv (pd_op od_add (dv 3) (dv 1)) (dv 2)))
    (sds_cons (sd_unp rfl (GNames.cons (pg_name (i := 7) sc_has_period.nd rfl (by first | exact Or.inl rfl | exact Or.inr rfl)) (GNames.cons (pg_name (i := 8) sc_has_period.nd rfl (by first | exact Or.inl rfl | exact Or.inr rfl)) GNames.nil rfl) rfl) (pd_ix (dv 0) (pd_op od_sub (pd_op od_add (dv 3) (dv 1)) (pd_op od_mul (dv 2) (dv 6))) (fun _ _ => rfl)))
    (sds_one (sd_if (PW.pt (wd_or (td_cmp od_isN (dv 4) pd_non (nomark _)) (wd_or1 (td_cmp od_isN (dv 7) pd_non (nomark _))))) (sds_one (sd_if (PW.pt (wd_or (td_cmp od_notN (dv 4) pd_non (nomark _)) (wd_or1 (td_cmp od_notN (dv 7) pd_non (nomark _))))) (sds_one (sd_ret pd_bl)) sds_nil)) (sds_one (sd_if (PW.pt (wd_or (td_cmp (od_ne hr.units) (dv 5) (dv 8) (nomark _)) (wd_or1 (td_cmp (od_ne hr.units) (pd_op od_mul (pd_op od_sub (pd_op od_add (dv 7) (pd_op od_mul (dv 5) (dv 6))) (dv 4)) (dv 2)) (pd_op od_mul (dv 5) (dv 1)) (nomark _))))) (sds_one (sd_ret pd_bl)) sds_nil))))))))
    (sds_one (sd_ret pd_bl))))) (rd_has_period)
theorem ok_shortest_tail (T : Tx K mg base tb) : FnOk P w K mg base CX0 2 T.q0.f_shortest_tail T.q0.d_shortest_tail ["tail"] (liSp K tb sp_shortest_tail) :=
  Fun.okD T.q0.F_shortest_tail sc_shortest_tail (len_shortest_tail) (t := t_shortest_tail) (fun cdv A outer s H E F0 R0 hr =>
    (sds_cons (sd_set (i := 1) sc_shortest_tail.nd rfl (by first | exact Or.inl rfl | exact Or.inr rfl) (pd_callB cd_len (by rfl) T.q6.n_len PySem.boot_len (ad_cons (dv 0) ad_nil)))
    (sds_cons (sd_for PassesOwn.never rfl (id_rngA (by rfl) T.q6.n_range (ad_cons pd_int (ad_cons (dv 1) ad_nil))) (pg_name (i := 2) sc_shortest_tail.nd rfl (by first | exact Or.inl rfl | exact Or.inr rfl)) tg_name (sds_one (sd_if (PW.pt (wd_and (td_cmp (od_eq hr.units) (pd_op od_mod (dv 1) (dv 2)) pd_int (nomark _)) (wd_and1 (td_tru (pd_call (ok_has_period T) (hr.mono (by decide)) (by rfl) T.q0.g_has_period T.q0.F_has_period.kp T.q0.b_has_period (ad_cons (dv 0) (ad_cons (dv 2) ad_nil))))))) (sds_one (sd_ret (pd_callTy cd_tuple (by rfl) T.q6.n_tuple (by decide +kernel) (ad_cons (pd_lcG fin_lst rfl sc_shortest_tail.nd (id_seq (pd_slice (dv 0) od_none (od_some (dv 2)))) (blkOk_by (own := [("value", 3), ("step", 4)]) (N := n_shortest_tail) (sc := defScope s_shortest_tail) (by decide +kernel)) rfl (tg_of [3, 4]) (by decide) (fun _ _ _ _ _ => (pg_tup rfl (GNames.cons (pg_name (i := 3) sc_shortest_tail.nd rfl (by first | exact Or.inl rfl | exact Or.inr rfl)) (GNames.cons (pg_name (i := 4) sc_shortest_tail.nd rfl (by first | exact Or.inl rfl | exact Or.inr rfl)) GNames.nil rfl) rfl).pgs)) (fun _ _ _ _ _ => tsd_nil) (fun _ _ _ _ _ => (pd_tup (ad_cons (dv 3) (ad_cons (pd_op od_fdiv (pd_op od_mul (dv 4) (dv 2)) (dv 1)) ad_nil))))) ad_nil)))) sds_nil)))
    (sds_one (sd_ret (dv 0)))))) (rd_shortest_tail)
theorem ok_continued (T : Tx K mg base tb) : FnOk P w K mg base CX0 1 T.q0.f_continued T.q0.d_continued ["tail", "places"] (liSp K tb sp_continued) :=
  Fun.okD T.q0.F_continued sc_continued (len_continued) (t := t_continued) (fun cdv A outer s H E F0 R0 hr =>
    (sds_cons (sd_unp rfl (GNames.cons (pg_name (i := 2) sc_continued.nd rfl (by first | exact Or.inl rfl | exact Or.inr rfl)) (GNames.cons (pg_name (i := 3) sc_continued.nd rfl (by first | exact Or.inl rfl | exact Or.inr rfl)) GNames.nil rfl) rfl) (pd_ix (dv 0) (pd_op od_mod (dv 1) (pd_callB cd_len (by rfl) T.q6.n_len PySem.boot_len (ad_cons (dv 0) ad_nil))) (fun _ _ => rfl)))
    (sds_cons (sd_if (td_cmp od_isN (dv 2) pd_non (nomark _)) (sds_one (sd_ret (pd_tup (ad_cons pd_non (ad_cons pd_int ad_nil))))) sds_nil)
    (sds_one (sd_ret (pd_tup (ad_cons (pd_op od_add (dv 2) (pd_op od_mul (dv 3) (pd_op od_fdiv (dv 1) (pd_callB cd_len (by rfl) T.q6.n_len PySem.boot_len (ad_cons (dv 0) ad_nil))))) (ad_cons (dv 3) ad_nil)))))))) (rd_continued)
theorem ok_normal (T : Tx K mg base tb) : FnOk P w K mg base CX0 3 T.q0.f_normal T.q0.d_normal ["form"] (liSp K tb sp_normal) :=
  Fun.okD T.q0.F_normal sc_normal (len_normal) (t := t_normal) (fun cdv A outer s H E F0 R0 hr =>
    (sds_cons (sd_set (i := 1) sc_normal.nd rfl (by first | exact Or.inl rfl | exact Or.inr rfl) (pd_ix (dv 0) pd_int (fun _ _ => rfl)))
    (sds_cons (sd_set (i := 2) sc_normal.nd rfl (by first | exact Or.inl rfl | exact Or.inr rfl) (pd_call (ok_shortest_tail T) (hr.mono (by decide)) (by rfl) T.q0.g_shortest_tail T.q0.F_shortest_tail.kp T.q0.b_shortest_tail (ad_cons (pd_ix (dv 0) pd_int (fun _ _ => rfl)) ad_nil)))
    (sds_cons (sd_set (i := 3) sc_normal.nd rfl (by first | exact Or.inl rfl | exact Or.inr rfl) (pd_callB cd_len (by rfl) T.q6.n_len PySem.boot_len (ad_cons (dv 1) ad_nil)))
    (sds_cons (sd_while PassesOwn.never (td_cmp od_gt (dv 3) pd_int (nomark _)) (sds_cons (sd_unp rfl (GNames.cons (pg_name (i := 4) sc_normal.nd rfl (by first | exact Or.inl rfl | exact Or.inr rfl)) (GNames.cons (pg_name (i := 5) sc_normal.nd rfl (by first | exact Or.inl rfl | exact Or.inr rfl)) GNames.nil rfl) rfl) (pd_call (ok_continued T) (hr.mono (by decide)) (by rfl) T.q0.g_continued T.q0.F_continued.kp T.q0.b_continued (ad_cons (dv 2) (ad_cons (pd_op od_sub (pd_op od_sub (dv 3) pd_int) (pd_callB cd_len (by rfl) T.q6.n_len PySem.boot_len (ad_cons (dv 1) ad_nil))) ad_nil))))
    (sds_cons (sd_if (td_cmp (od_ne hr.units) (dv 4) (pd_ix (dv 1) (pd_op od_sub (dv 3) pd_int) (fun _ _ => rfl)) (nomark _)) (sds_one sd_break) sds_nil)
    (sds_one (sd_aug (i := 3) sc_normal.nd rfl (by first | exact Or.inl rfl | exact Or.inr rfl) pd_int iod_sub)))))
    (sds_cons (sd_set (i := 6) sc_normal.nd rfl (by first | exact Or.inl rfl | exact Or.inr rfl) (pd_op od_sub (pd_callB cd_len (by rfl) T.q6.n_len PySem.boot_len (ad_cons (dv 1) ad_nil)) (dv 3)))
    (sds_one (sd_ret (pd_tup (ad_cons (pd_slice (dv 1) od_none (od_some (dv 3))) (ad_cons (pd_callTy cd_tuple (by rfl) T.q6.n_tuple (by decide +kernel) (ad_cons (pd_lcG fin_lst rfl sc_normal.nd (id_rng1 (by rfl) T.q6.n_range (ad_cons (pd_callB cd_len (by rfl) T.q6.n_len PySem.boot_len (ad_cons (dv 2) ad_nil)) ad_nil)) (blkOk_by (own := [("index", 7)]) (N := n_normal) (sc := defScope s_normal) (by decide +kernel)) rfl tg_name (by decide) (fun _ _ _ _ _ => (pg_name (i := 7) sc_normal.nd rfl (by first | exact Or.inl rfl | exact Or.inr rfl))) (fun _ _ _ _ _ => tsd_nil) (fun _ _ _ _ _ => (pd_call (ok_continued T) (hr.mono (by decide)) (by rfl) T.q0.g_continued T.q0.F_continued.kp T.q0.b_continued (ad_cons (dv 2) (ad_cons (pd_op od_sub (dv 7) (dv 6)) ad_nil))))) ad_nil)) ad_nil))))))))))) (rd_normal)
theorem ok_check_period (T : Tx K mg base tb) : FnOk P w K mg base (L2.CX P w) 1 T.q0.f_check_period T.q0.d_check_period ["period"] (liSp K tb (sp_check_period ⟨P, w, K, mg, base, tb⟩)) :=
  Fun.okXD T.q0.F_check_period sc_check_period (len_check_period ⟨P, w, K, mg, base, tb⟩) (t := (t_check_period ⟨P, w, K, mg, base, tb⟩)) (fun cdv A outer s H E F0 R0 E2 hr hE tk =>
    (sds_one (sd_if (td_cmp od_gt (dv 0) T.q6.c_MAX_PERIOD.pd (nomark _)) (sds_one (sd_raise (cv := exV ⟨P, w, K, mg, base, tb⟩ "TooLarge") hE rfl tk (exV_of T.q6.x_TooLarge.g) PySem.F.excBase_ValueError T.q6.x_TooLarge.q T.q6.x_TooLarge.g T.q6.x_TooLarge.k (raises_own T.q6.x_TooLarge.s T.q6.x_TooLarge.t) (by rfl))) sds_nil))) (rd_check_period ⟨P, w, K, mg, base, tb⟩)
theorem ok_first_of_class (T : Tx K mg base tb) : FnOk P w K mg base CX0 1 T.q0.f_first_of_class T.q0.d_first_of_class ["rest", "least", "period"] (liSp K tb sp_first_of_class) :=
  Fun.okD T.q0.F_first_of_class sc_first_of_class (len_first_of_class) (t := t_first_of_class) (fun cdv A outer s H E F0 R0 hr =>
    (sds_one (sd_ret (pd_op od_add (dv 1) (pd_op od_mod (pd_op od_sub (dv 0) (dv 1)) (dv 2)))))) (rd_first_of_class)
theorem ok_line (T : Tx K mg base tb) : FnOk P w K mg base CX0 11 T.q0.f_line T.q0.d_line ["period", "tell", "start"] (liSp K tb (sp_line ⟨P, w, K, mg, base, tb⟩)) :=
  Fun.okD T.q0.F_line sc_line (len_line ⟨P, w, K, mg, base, tb⟩) (t := (t_line ⟨P, w, K, mg, base, tb⟩)) (fun cdv A outer s H E F0 R0 hr =>
    (sds_cons (sd_set (i := 3) sc_line.nd rfl (by first | exact Or.inl rfl | exact Or.inr rfl) (dv 2))
    (sds_cons (sd_set (i := 4) sc_line.nd rfl (by first | exact Or.inl rfl | exact Or.inr rfl) (pd_callV (k := 10) (i := 1) (hr.mono (by decide)) rfl (by first | exact Or.inl rfl | exact Or.inr (Or.inl rfl) | exact Or.inr (Or.inr rfl)) (ad_cons (dv 3) ad_nil)))
    (sds_cons (sd_set (i := 5) sc_line.nd rfl (by first | exact Or.inl rfl | exact Or.inr rfl) pd_int)
    (sds_cons (sd_if (td_cmp od_notN (dv 4) pd_non (nomark _)) (sds_one (sd_set (i := 5) sc_line.nd rfl (by first | exact Or.inl rfl | exact Or.inr rfl) (pd_op od_sub (pd_callV (k := 10) (i := 1) (hr.mono (by decide)) rfl (by first | exact Or.inl rfl | exact Or.inr (Or.inl rfl) | exact Or.inr (Or.inr rfl)) (ad_cons (pd_op od_add (dv 3) (dv 0)) ad_nil)) (dv 4)))) sds_nil)
    (sds_cons (sd_while PassesOwn.never (td_cmp od_ge (dv 3) (dv 0) (nomark _)) (sds_cons (sd_set (i := 6) sc_line.nd rfl (by first | exact Or.inl rfl | exact Or.inr rfl) (pd_if (td_cmp od_isN (dv 4) pd_non (nomark _)) pd_non (pd_op od_sub (dv 4) (dv 5))))
    (sds_cons (sd_if (td_cmp (od_ne hr.units) (pd_callV (k := 10) (i := 1) (hr.mono (by decide)) rfl (by first | exact Or.inl rfl | exact Or.inr (Or.inl rfl) | exact Or.inr (Or.inr rfl)) (ad_cons (pd_op od_sub (dv 3) (dv 0)) ad_nil)) (dv 6) (nomark _)) (sds_one sd_break) sds_nil)
    (sds_cons (sd_aug (i := 3) sc_line.nd rfl (by first | exact Or.inl rfl | exact Or.inr rfl) (dv 0) iod_sub)
    (sds_one (sd_set (i := 4) sc_line.nd rfl (by first | exact Or.inl rfl | exact Or.inr rfl) (dv 6)))))))
    (sds_one (sd_ret (pd_tup (ad_cons (dv 3) (ad_cons (dv 4) (ad_cons (dv 5) ad_nil)))))))))))) (rd_line ⟨P, w, K, mg, base, tb⟩)
theorem ok_assemble (T : Tx K mg base tb) : FnOk P w K mg base (L2.CX P w) 12 T.q1.f_assemble T.q1.d_assemble ["period", "tell", "starts"] (liSp K tb (sp_assemble ⟨P, w, K, mg, base, tb⟩)) :=
  Fun.okXD T.q1.F_assemble sc_assemble (len_assemble ⟨P, w, K, mg, base, tb⟩) (t := (t_assemble ⟨P, w, K, mg, base, tb⟩)) (fun cdv A outer s H E F0 R0 E2 hr hE tk =>
    (sds_cons (sd_setLcG (i := 3) fin_lst rfl sc_assemble.nd rfl rfl (sw_true rfl rfl rfl (by decide +kernel)) (id_seq (dv 2)) (blkOk_by (own := [("start", 4)]) (N := n_assemble) (sc := defScope s_assemble) (by decide +kernel)) rfl tg_name (by decide) (fun _ _ _ _ _ => (pg_name (i := 4) sc_assemble.nd rfl (by first | exact Or.inl rfl | exact Or.inr rfl))) (fun _ _ _ _ _ => tsd_nil) (fun _ _ _ _ _ => (pd_call (ok_line T) (hr.mono (by decide)) (by rfl) T.q0.g_line T.q0.F_line.kp T.q0.b_line (ad_cons (dv 0) (ad_cons (dv 1) (ad_cons (dv 4) ad_nil))))))
    (sds_cons (sd_set (i := 5) sc_assemble.nd rfl (by first | exact Or.inl rfl | exact Or.inr rfl) (pd_maxDf rfl hr.units (by rfl) T.q6.n_max (by decide +kernel) (pd_lcG fin_lst rfl sc_assemble.nd (id_seq (dv 3)) (blkOk_by (own := [("x", 6), ("_", 7)]) (N := n_assemble) (sc := defScope s_assemble) (by decide +kernel)) rfl (tg_of [6, 7, 7]) (by decide) (fun _ _ _ _ _ => (pg_tup rfl (GNames.cons (pg_name (i := 6) sc_assemble.nd rfl (by first | exact Or.inl rfl | exact Or.inr rfl)) (GNames.cons (pg_name (i := 7) sc_assemble.nd rfl (by first | exact Or.inl rfl | exact Or.inr rfl)) (GNames.cons (pg_name (i := 7) sc_assemble.nd rfl (by first | exact Or.inl rfl | exact Or.inr rfl)) GNames.nil rfl) rfl) rfl).pgs)) (fun _ _ _ _ _ => (tsd_one (td_cmp od_ge (dv 6) (dv 0) (nomark _)))) (fun _ _ _ _ _ => (pd_op od_add (pd_op od_sub (dv 6) (dv 0)) pd_int))) pd_int))
    (sds_cons (sd_if (td_cmp od_gt (dv 5) T.q6.c_MAX_HEAD.pd (nomark _)) (sds_one (sd_raise (cv := exV ⟨P, w, K, mg, base, tb⟩ "TooLarge") hE rfl tk (exV_of T.q6.x_TooLarge.g) PySem.F.excBase_ValueError T.q6.x_TooLarge.q T.q6.x_TooLarge.g T.q6.x_TooLarge.k (raises_own T.q6.x_TooLarge.s T.q6.x_TooLarge.t) (by rfl))) sds_nil)
    (sds_cons (sd_set (i := 8) sc_assemble.nd rfl (by first | exact Or.inl rfl | exact Or.inr rfl) (pd_lstM ad_nil))
    (sds_cons (sd_for (passes_of rfl) rfl (id_rngA (by rfl) T.q6.n_range (ad_cons (dv 5) (ad_cons (pd_op od_add (dv 5) (dv 0)) ad_nil))) (pg_name (i := 6) sc_assemble.nd rfl (by first | exact Or.inl rfl | exact Or.inr rfl)) tg_name (sds_cons (sd_unp rfl (GNames.cons (pg_name (i := 9) sc_assemble.nd rfl (by first | exact Or.inl rfl | exact Or.inr rfl)) (GNames.cons (pg_name (i := 10) sc_assemble.nd rfl (by first | exact Or.inl rfl | exact Or.inr rfl)) (GNames.cons (pg_name (i := 11) sc_assemble.nd rfl (by first | exact Or.inl rfl | exact Or.inr rfl)) GNames.nil rfl) rfl) rfl) (pd_ix (dv 3) (pd_op od_mod (dv 6) (dv 0)) (fun _ _ => rfl)))
    (sds_one (sd_if (td_cmp od_isN (dv 10) pd_non (nomark _)) (sds_one (sd_expr (pd_append (dv 8) (ad_cons (pd_tup (ad_cons pd_non (ad_cons pd_int ad_nil))) ad_nil)))) (sds_one (sd_expr (pd_append (dv 8) (ad_cons (pd_tup (ad_cons (pd_op od_add (dv 10) (pd_op od_mul (dv 11) (pd_op od_fdiv (pd_op od_sub (dv 6) (dv 9)) (dv 0)))) (ad_cons (dv 11) ad_nil))) ad_nil))))))))
    (sds_one (sd_ret (pd_call (ok_normal T) (hr.mono (by decide)) (by rfl) T.q0.g_normal T.q0.F_normal.kp T.q0.b_normal (ad_cons (pd_tup (ad_cons (pd_callTy cd_tuple (by rfl) T.q6.n_tuple (by decide +kernel) (ad_cons (pd_lcG fin_lst rfl sc_assemble.nd (id_rng1 (by rfl) T.q6.n_range (ad_cons (dv 5) ad_nil)) (blkOk_by (own := [("x", 6)]) (N := n_assemble) (sc := defScope s_assemble) (by decide +kernel)) rfl tg_name (by decide) (fun _ _ _ _ _ => (pg_name (i := 6) sc_assemble.nd rfl (by first | exact Or.inl rfl | exact Or.inr rfl))) (fun _ _ _ _ _ => tsd_nil) (fun _ _ _ _ _ => (pd_callV (k := 10) (i := 1) (hr.mono (by decide)) rfl (by first | exact Or.inl rfl | exact Or.inr (Or.inl rfl) | exact Or.inr (Or.inr rfl)) (ad_cons (dv 6) ad_nil)))) ad_nil)) (ad_cons (pd_callTy cd_tuple (by rfl) T.q6.n_tuple (by decide +kernel) (ad_cons (dv 8) ad_nil)) ad_nil))) ad_nil)))))))))) (rd_assemble ⟨P, w, K, mg, base, tb⟩)
theorem ok_common_starts (T : Tx K mg base tb) : FnOk P w K mg base CX0 2 T.q1.f_common_starts T.q1.d_common_starts ["one", "two", "period"] (liSp K tb sp_common_starts) :=
  Fun.okD T.q1.F_common_starts sc_common_starts (len_common_starts) (t := t_common_starts) (fun cdv A outer s H E F0 R0 hr =>
    (sds_cons (sd_set (i := 3) sc_common_starts.nd rfl (by first | exact Or.inl rfl | exact Or.inr rfl) (pd_callB (cd_max rfl) (by rfl) T.q6.n_max (by decide +kernel) (ad_cons (pd_callB cd_len (by rfl) T.q6.n_len PySem.boot_len (ad_cons (pd_ix (dv 0) pd_int (fun _ _ => rfl)) ad_nil)) (ad_cons (pd_callB cd_len (by rfl) T.q6.n_len PySem.boot_len (ad_cons (pd_ix (dv 1) pd_int (fun _ _ => rfl)) ad_nil)) ad_nil))))
    (sds_one (sd_ret (pd_lcG fin_lst rfl sc_common_starts.nd (id_rng1 (by rfl) T.q6.n_range (ad_cons (dv 2) ad_nil)) (blkOk_by (own := [("rest", 4)]) (N := n_common_starts) (sc := defScope s_common_starts) (by decide +kernel)) rfl tg_name (by decide) (fun _ _ _ _ _ => (pg_name (i := 4) sc_common_starts.nd rfl (by first | exact Or.inl rfl | exact Or.inr rfl))) (fun _ _ _ _ _ => tsd_nil) (fun _ _ _ _ _ => (pd_call (ok_first_of_class T) (hr.mono (by decide)) (by rfl) T.q0.g_first_of_class T.q0.F_first_of_class.kp T.q0.b_first_of_class (ad_cons (dv 4) (ad_cons (dv 3) (ad_cons (dv 2) ad_nil)))))))))) (rd_common_starts)
theorem ok_common_period (T : Tx K mg base tb) : FnOk P w K mg base (L2.CX P w) 2 T.q1.f_common_period T.q1.d_common_period ["one", "two"] (liSp K tb (sp_common_period ⟨P, w, K, mg, base, tb⟩)) :=
  Fun.okXD T.q1.F_common_period sc_common_period (len_common_period ⟨P, w, K, mg, base, tb⟩) (t := (t_common_period ⟨P, w, K, mg, base, tb⟩)) (fun cdv A outer s H E F0 R0 E2 hr hE tk =>
    (sds_cons (sd_set (i := 2) sc_common_period.nd rfl (by first | exact Or.inl rfl | exact Or.inr rfl) (pd_callBf cd_lcm (by rfl) T.q6.m_lcm (ad_cons (pd_callB cd_len (by rfl) T.q6.n_len PySem.boot_len (ad_cons (pd_ix (dv 0) pd_int (fun _ _ => rfl)) ad_nil)) (ad_cons (pd_callB cd_len (by rfl) T.q6.n_len PySem.boot_len (ad_cons (pd_ix (dv 1) pd_int (fun _ _ => rfl)) ad_nil)) ad_nil))))
    (sds_cons (sd_expr (pd_callX hE (ok_check_period T) (hr.mono (by decide)) (by rfl) T.q0.g_check_period T.q0.F_check_period.kp T.q0.b_check_period (passes_call tk (fun _ _ _ _ h => h)) (ad_cons (dv 2) ad_nil)))
    (sds_one (sd_ret (dv 2)))))) (rd_common_period ⟨P, w, K, mg, base, tb⟩)
theorem ok_added (T : Tx K mg base tb) : FnOk P w K mg base CX0 1 T.q1.f_added T.q1.d_added ["one", "two"] (liSp K tb sp_added) :=
  Fun.okD T.q1.F_added sc_added (len_added) (t := t_added) (fun cdv A outer s H E F0 R0 hr =>
    (sds_cons (sd_if (PW.pt (wd_or (td_cmp od_isN (dv 0) pd_non (nomark _)) (wd_or1 (td_cmp od_isN (dv 1) pd_non (nomark _))))) (sds_one (sd_ret pd_non)) sds_nil)
    (sds_one (sd_ret (pd_op od_add (dv 0) (dv 1)))))) (rd_added)
theorem ok_even (T : Tx K mg base tb) : FnOk P w K mg base (L2.CX P w) 13 T.q1.f_even T.q1.d_even ["a", "b", "combine"] (liSp K tb (sp_even ⟨P, w, K, mg, base, tb⟩)) :=
  FunC.okXE T.q1.F_even sc_even (len_even ⟨P, w, K, mg, base, tb⟩) (t := (t_even ⟨P, w, K, mg, base, tb⟩)) (fun A outer s H E F0 R0 E2 hr hE tk =>
    (sds_cons (sd_set (i := 3) sc_even.nd rfl (by first | exact Or.inl rfl | exact Or.inr rfl) (pd_call (ok_normal T) (hr.mono (by decide)) (by rfl) T.q0.g_normal T.q0.F_normal.kp T.q0.b_normal (ad_cons (dv 0) ad_nil)))
    (sds_cons (sd_set (i := 4) sc_even.nd rfl (by first | exact Or.inl rfl | exact Or.inr rfl) (pd_call (ok_normal T) (hr.mono (by decide)) (by rfl) T.q0.g_normal T.q0.F_normal.kp T.q0.b_normal (ad_cons (dv 1) ad_nil)))
    (sds_cons (sd_set (i := 5) sc_even.nd rfl (by first | exact Or.inl rfl | exact Or.inr rfl) (pd_callX hE (ok_common_period T) (hr.mono (by decide)) (by rfl) T.q1.g_common_period T.q1.F_common_period.kp T.q1.b_common_period (passes_call tk (fun _ _ _ _ h => h)) (ad_cons (dv 3) (ad_cons (dv 4) ad_nil))))
    (sds_cons (sd_set (i := 6) sc_even.nd rfl (by first | exact Or.inl rfl | exact Or.inr rfl) (pd_call (ok_common_starts T) (hr.mono (by decide)) (by rfl) T.q1.g_common_starts T.q1.F_common_starts.kp T.q1.b_common_starts (ad_cons (dv 3) (ad_cons (dv 4) (ad_cons (dv 5) ad_nil)))))
    (sds_one (sd_ret (pd_callLX hE (passes_call tk (fun _ _ _ _ h => h)) (kb := 9) (N := ["x", "combine", "one", "two"]) (ps := ["x"]) (fr := ["combine", "one", "two"]) (js := [2, 3, 4]) (ok_assemble T) (hr.mono (by decide)) (by rfl) T.q1.g_assemble T.q1.F_assemble.kp T.q1.b_assemble T.q1.B_even rfl T.q1.m_even rfl (dv 5) (dv 6) rfl (fun _ => rfl) (show NdefX.ndefB (defScope s_even) _ _ = true from by decide +kernel) (NdefX.nscope_by (by decide +kernel)) rfl rfl (fun _ _ _ _ us hl => match us, hl with | [_], _ => rfl) (fun f c' cl A outer s H F0 R0 hr => (pd_callV (k := 5) (i := 1) (hr.mono (by decide)) rfl (by first | exact Or.inl rfl | exact Or.inr (Or.inl rfl) | exact Or.inr (Or.inr rfl)) (ad_cons (pd_call (ok_value_at T) (hr.mono (by decide)) (by rfl) T.q0.g_value_at T.q0.F_value_at.kp T.q0.b_value_at (ad_cons (dv 2) (ad_cons (dv 0) ad_nil))) (ad_cons (pd_call (ok_value_at T) (hr.mono (by decide)) (by rfl) T.q0.g_value_at T.q0.F_value_at.kp T.q0.b_value_at (ad_cons (dv 3) (ad_cons (dv 0) ad_nil))) ad_nil)))))))))))) (rd_even ⟨P, w, K, mg, base, tb⟩)
theorem ok_sum_of (T : Tx K mg base tb) : FnOk P w K mg base (L2.CX P w) 14 T.q1.f_sum_of T.q1.d_sum_of ["a", "b"] (liSp K tb (sp_sum_of ⟨P, w, K, mg, base, tb⟩)) :=
  Fun.okXE T.q1.F_sum_of sc_sum_of (len_sum_of ⟨P, w, K, mg, base, tb⟩) (t := (t_sum_of ⟨P, w, K, mg, base, tb⟩)) (fun cdv A outer s H E F0 R0 E2 hr hE tk =>
    (sds_one (sd_ret (pd_callX hE (ok_even T) (hr.mono (by decide)) (by rfl) T.q1.g_even T.q1.F_even.kp T.q1.b_even (passes_call tk (fun _ _ _ _ h => h)) (ad_cons (dv 0) (ad_cons (dv 1) (ad_cons (pd_gfn (ok_added T) len_added T.q1.F_added (by rfl) T.q1.g_added T.q1.b_added) ad_nil))))))) (rd_sum_of ⟨P, w, K, mg, base, tb⟩)
theorem ok_last_step (T : Tx K mg base tb) : FnOk P w K mg base CX0 1 T.q1.f_last_step T.q1.d_last_step ["row"] (liSp K tb sp_last_step) :=
  Fun.okD T.q1.F_last_step sc_last_step (len_last_step) (t := t_last_step) (fun cdv A outer s H E F0 R0 hr =>
    (sds_one (sd_ret (pd_if (td_tru (pd_ix (dv 0) pd_int (fun _ _ => rfl))) (pd_ix (pd_ix (dv 0) pd_int (fun _ _ => rfl)) (pd_un ud_neg pd_int) (fun _ _ => rfl)) (pd_tup (ad_cons pd_int (ad_cons pd_int ad_nil))))))) (rd_last_step)
theorem ok_row_price (T : Tx K mg base tb) : FnOk P w K mg base CX0 2 T.q1.f_row_price T.q1.d_row_price ["row", "weight"] (liSp K tb sp_row_price) :=
  Fun.okD T.q1.F_row_price sc_row_price (len_row_price) (t := t_row_price) (fun cdv A outer s H E F0 R0 hr =>
    (sds_cons (sd_for PassesOwn.never rfl (id_seq (pd_ix (dv 0) pd_int (fun _ _ => rfl))) (pg_tup rfl (GNames.cons (pg_name (i := 2) sc_row_price.nd rfl (by first | exact Or.inl rfl | exact Or.inr rfl)) (GNames.cons (pg_name (i := 3) sc_row_price.nd rfl (by first | exact Or.inl rfl | exact Or.inr rfl)) GNames.nil rfl) rfl).pgs) (tg_of [2, 3]) (sds_one (sd_if (td_cmp od_le (dv 1) (dv 2) (nomark _)) (sds_one (sd_ret (dv 3))) sds_nil)))
    (sds_cons (sd_unp rfl (GNames.cons (pg_name (i := 2) sc_row_price.nd rfl (by first | exact Or.inl rfl | exact Or.inr rfl)) (GNames.cons (pg_name (i := 4) sc_row_price.nd rfl (by first | exact Or.inl rfl | exact Or.inr rfl)) GNames.nil rfl) rfl) (pd_call (ok_last_step T) (hr.mono (by decide)) (by rfl) T.q1.g_last_step T.q1.F_last_step.kp T.q1.b_last_step (ad_cons (dv 0) ad_nil)))
    (sds_cons (sd_if (PW.pt (wd_or (td_cmp od_isN (dv 4) pd_non (nomark _)) (wd_or1 (td_cmp od_isN (pd_ix (dv 0) pd_int (fun _ _ => rfl)) pd_non (nomark _))))) (sds_one (sd_ret pd_non)) sds_nil)
    (sds_cons (sd_unp rfl (GNames.cons (pg_name (i := 5) sc_row_price.nd rfl (by first | exact Or.inl rfl | exact Or.inr rfl)) (GNames.cons (pg_name (i := 6) sc_row_price.nd rfl (by first | exact Or.inl rfl | exact Or.inr rfl)) GNames.nil rfl) rfl) (pd_ix (dv 0) pd_int (fun _ _ => rfl)))
    (sds_one (sd_ret (pd_op od_sub (dv 4) (pd_op od_mul (dv 6) (pd_op od_fdiv (pd_op od_sub (dv 2) (dv 1)) (dv 5))))))))))) (rd_row_price)
theorem ok_rows_for (T : Tx K mg base tb) : FnOk P w K mg base CX0 1 T.q2.f_rows_for T.q2.d_rows_for ["tariff", "zone", "services"] (liSp K tb sp_rows_for) :=
  Fun.okD T.q2.F_rows_for sc_rows_for (len_rows_for) (t := t_rows_for) (fun cdv A outer s H E F0 R0 hr =>
    (sds_cons (sd_set (i := 3) sc_rows_for.nd rfl (by first | exact Or.inl rfl | exact Or.inr rfl) (pd_dc ddT hr.units keyT_ok rfl sc_rows_for.nd (id_seq (dv 0)) (blkOk_by (own := [("row", 4)]) (N := n_rows_for) (sc := defScope s_rows_for) (by decide +kernel)) rfl tg_name (by decide) (fun _ _ _ _ _ => (pg_name (i := 4) sc_rows_for.nd rfl (by first | exact Or.inl rfl | exact Or.inr rfl))) (fun _ _ _ _ _ => tsd_nil) (fun _ _ _ _ _ => (pe_tup (ad_cons (pd_ix (dv 4) pd_int (fun _ _ => rfl)) (ad_cons (pd_ix (dv 4) pd_int (fun _ _ => rfl)) ad_nil)))) (fun _ _ _ _ _ => (dv 4))))
    (sds_cons (sd_if (td_not (td_tru (pd_callB (cd_all rfl) (by rfl) T.q6.n_all (by decide +kernel) (ad_cons (pd_lcG fin_lst rfl sc_rows_for.nd (id_seq (dv 2)) (blkOk_by (own := [("service", 5)]) (N := n_rows_for) (sc := defScope s_rows_for) (by decide +kernel)) rfl tg_name (by decide) (fun _ _ _ _ _ => (pg_name (i := 5) sc_rows_for.nd rfl (by first | exact Or.inl rfl | exact Or.inr rfl))) (fun _ _ _ _ _ => tsd_nil) (fun _ _ _ _ _ => (pd_cmp (od_inT hr.units) (pd_tup (ad_cons (dv 1) (ad_cons (dv 5) ad_nil))) (dv 3) rfl))) ad_nil)))) (sds_one (sd_ret pd_non)) sds_nil)
    (sds_one (sd_ret (pd_lcG fin_lst rfl sc_rows_for.nd (id_seq (dv 2)) (blkOk_by (own := [("service", 5)]) (N := n_rows_for) (sc := defScope s_rows_for) (by decide +kernel)) rfl tg_name (by decide) (fun _ _ _ _ _ => (pg_name (i := 5) sc_rows_for.nd rfl (by first | exact Or.inl rfl | exact Or.inr rfl))) (fun _ _ _ _ _ => tsd_nil) (fun _ _ _ _ _ => (pd_tget hr.units (dv 3) (pd_tup (ad_cons (dv 1) (ad_cons (dv 5) ad_nil))) (fun _ _ => rfl))))))))) (rd_rows_for)
theorem ok_price (T : Tx K mg base tb) : FnOk P w K mg base CX0 3 T.q2.f_price T.q2.d_price ["tariff", "zone", "services", "weight"] (liSp K tb sp_price) :=
  Fun.okD T.q2.F_price sc_price (len_price) (t := t_price) (fun cdv A outer s H E F0 R0 hr =>
    (sds_cons (sd_set (i := 4) sc_price.nd rfl (by first | exact Or.inl rfl | exact Or.inr rfl) (pd_call (ok_rows_for T) (hr.mono (by decide)) (by rfl) T.q2.g_rows_for T.q2.F_rows_for.kp T.q2.b_rows_for (ad_cons (dv 0) (ad_cons (dv 1) (ad_cons (dv 2) ad_nil)))))
    (sds_cons (sd_if (td_cmp od_isN (dv 4) pd_non (nomark _)) (sds_one (sd_ret pd_non)) sds_nil)
    (sds_cons (sd_setLcG (i := 5) fin_lst rfl sc_price.nd rfl rfl (sw_true rfl rfl rfl (by decide +kernel)) (id_seq (dv 4)) (blkOk_by (own := [("row", 6)]) (N := n_price) (sc := defScope s_price) (by decide +kernel)) rfl tg_name (by decide) (fun _ _ _ _ _ => (pg_name (i := 6) sc_price.nd rfl (by first | exact Or.inl rfl | exact Or.inr rfl))) (fun _ _ _ _ _ => tsd_nil) (fun _ _ _ _ _ => (pd_call (ok_row_price T) (hr.mono (by decide)) (by rfl) T.q1.g_row_price T.q1.F_row_price.kp T.q1.b_row_price (ad_cons (dv 6) (ad_cons (dv 3) ad_nil)))))
    (sds_cons (sd_if (td_not (td_tru (pd_callB (cd_all rfl) (by rfl) T.q6.n_all (by decide +kernel) (ad_cons (pd_lcG fin_lst rfl sc_price.nd (id_seq (dv 5)) (blkOk_by (own := [("amount", 7)]) (N := n_price) (sc := defScope s_price) (by decide +kernel)) rfl tg_name (by decide) (fun _ _ _ _ _ => (pg_name (i := 7) sc_price.nd rfl (by first | exact Or.inl rfl | exact Or.inr rfl))) (fun _ _ _ _ _ => tsd_nil) (fun _ _ _ _ _ => (pd_cmp od_notN (dv 7) pd_non (nomark _)))) ad_nil)))) (sds_one (sd_ret pd_non)) sds_nil)
    (sds_one (sd_ret (pd_callB (cd_sum rfl) (by rfl) T.q6.n_sum (by decide +kernel) (ad_cons (dv 5) ad_nil))))))))) (rd_price)
theorem ok_row_form (T : Tx K mg base tb) : FnOk P w K mg base CX0 4 T.q2.f_row_form T.q2.d_row_form ["row"] (liSp K tb sp_row_form) :=
  Fun.okD T.q2.F_row_form sc_row_form (len_row_form) (t := t_row_form) (fun cdv A outer s H E F0 R0 hr =>
    (sds_cons (sd_unp rfl (GNames.cons (pg_name (i := 1) sc_row_form.nd rfl (by first | exact Or.inl rfl | exact Or.inr rfl)) (GNames.cons (pg_name (i := 2) sc_row_form.nd rfl (by first | exact Or.inl rfl | exact Or.inr rfl)) GNames.nil rfl) rfl) (pd_call (ok_last_step T) (hr.mono (by decide)) (by rfl) T.q1.g_last_step T.q1.F_last_step.kp T.q1.b_last_step (ad_cons (dv 0) ad_nil)))
    (sds_cons (sd_set (i := 3) sc_row_form.nd rfl (by first | exact Or.inl rfl | exact Or.inr rfl) (pd_callTy cd_tuple (by rfl) T.q6.n_tuple (by decide +kernel) (ad_cons (pd_lcG fin_lst rfl sc_row_form.nd (id_rng1 (by rfl) T.q6.n_range (ad_cons (pd_op od_add (dv 1) pd_int) ad_nil)) (blkOk_by (own := [("weight", 4)]) (N := n_row_form) (sc := defScope s_row_form) (by decide +kernel)) rfl tg_name (by decide) (fun _ _ _ _ _ => (pg_name (i := 4) sc_row_form.nd rfl (by first | exact Or.inl rfl | exact Or.inr rfl))) (fun _ _ _ _ _ => tsd_nil) (fun _ _ _ _ _ => (pd_call (ok_row_price T) (hr.mono (by decide)) (by rfl) T.q1.g_row_price T.q1.F_row_price.kp T.q1.b_row_price (ad_cons (dv 0) (ad_cons (dv 4) ad_nil))))) ad_nil)))
    (sds_cons (sd_if (PW.pt (wd_or (td_cmp od_isN (dv 2) pd_non (nomark _)) (wd_or1 (td_cmp od_isN (pd_ix (dv 0) pd_int (fun _ _ => rfl)) pd_non (nomark _))))) (sds_one (sd_ret (pd_call (ok_normal T) (hr.mono (by decide)) (by rfl) T.q0.g_normal T.q0.F_normal.kp T.q0.b_normal (ad_cons (pd_tup (ad_cons (dv 3) (ad_cons (pd_tup (ad_cons (pd_tup (ad_cons pd_non (ad_cons pd_int ad_nil))) ad_nil)) ad_nil))) ad_nil)))) sds_nil)
    (sds_cons (sd_unp rfl (GNames.cons (pg_name (i := 5) sc_row_form.nd rfl (by first | exact Or.inl rfl | exact Or.inr rfl)) (GNames.cons (pg_name (i := 6) sc_row_form.nd rfl (by first | exact Or.inl rfl | exact Or.inr rfl)) GNames.nil rfl) rfl) (pd_ix (dv 0) pd_int (fun _ _ => rfl)))
    (sds_one (sd_ret (pd_call (ok_normal T) (hr.mono (by decide)) (by rfl) T.q0.g_normal T.q0.F_normal.kp T.q0.b_normal (ad_cons (pd_tup (ad_cons (dv 3) (ad_cons (pd_op od_mulA (pd_tup (ad_cons (pd_tup (ad_cons (pd_op od_add (dv 2) (dv 6)) (ad_cons (dv 6) ad_nil))) ad_nil)) (dv 5)) ad_nil))) ad_nil))))))))) (rd_row_form)
theorem ok_postage (T : Tx K mg base tb) : FnOk P w K mg base (L2.CX P w) 15 T.q2.f_postage T.q2.d_postage ["tariff", "zone", "services"] (liSp K tb (sp_postage ⟨P, w, K, mg, base, tb⟩)) :=
  Fun.okXE T.q2.F_postage sc_postage (len_postage ⟨P, w, K, mg, base, tb⟩) (t := (t_postage ⟨P, w, K, mg, base, tb⟩)) (fun cdv A outer s H E F0 R0 E2 hr hE tk =>
    (sds_cons (sd_set (i := 3) sc_postage.nd rfl (by first | exact Or.inl rfl | exact Or.inr rfl) (pd_call (ok_rows_for T) (hr.mono (by decide)) (by rfl) T.q2.g_rows_for T.q2.F_rows_for.kp T.q2.b_rows_for (ad_cons (dv 0) (ad_cons (dv 1) (ad_cons (dv 2) ad_nil)))))
    (sds_cons (sd_if (td_cmp od_isN (dv 3) pd_non (nomark _)) (sds_one (sd_ret T.q6.c_NOTHING.pd)) sds_nil)
    (sds_cons (sd_set (i := 4) sc_postage.nd rfl (by first | exact Or.inl rfl | exact Or.inr rfl) (pd_call (ok_row_form T) (hr.mono (by decide)) (by rfl) T.q2.g_row_form T.q2.F_row_form.kp T.q2.b_row_form (ad_cons (pd_ix (dv 3) pd_int (fun _ _ => rfl)) ad_nil)))
    (sds_cons (sd_for (passes_of rfl) rfl (id_seq (pd_slice (dv 3) (od_some pd_int) od_none)) (pg_name (i := 5) sc_postage.nd rfl (by first | exact Or.inl rfl | exact Or.inr rfl)) tg_name (sds_one (sd_set (i := 4) sc_postage.nd rfl (by first | exact Or.inl rfl | exact Or.inr rfl) (pd_callX hE (ok_sum_of T) (hr.mono (by decide)) (by rfl) T.q1.g_sum_of T.q1.F_sum_of.kp T.q1.b_sum_of (passes_call tk (fun _ _ _ _ h => h)) (ad_cons (dv 4) (ad_cons (pd_call (ok_row_form T) (hr.mono (by decide)) (by rfl) T.q2.g_row_form T.q2.F_row_form.kp T.q2.b_row_form (ad_cons (dv 5) ad_nil)) ad_nil))))))
    (sds_one (sd_ret (dv 4)))))))) (rd_postage ⟨P, w, K, mg, base, tb⟩)
theorem ok_law_state (T : Tx K mg base tb) : FnOk P w K mg base CX0 1 T.q2.f_law_state T.q2.d_law_state ["script"] (liSp K tb sp_law_state) :=
  Fun.okD T.q2.F_law_state sc_law_state (len_law_state) (t := t_law_state) (fun cdv A outer s H E F0 R0 hr =>
    (sds_one (sd_ret (pd_lstM (ad_cons (pd_callTy cd_list (by rfl) T.q6.n_list (by decide +kernel) (ad_cons (dv 0) ad_nil)) (ad_cons pd_int (ad_cons pd_int (ad_cons pd_int (ad_cons pd_bl ad_nil))))))))) (rd_law_state)
theorem ok_law_draw (T : Tx K mg base tb) : FnOk P w K mg base CX0 1 T.q2.f_law_draw T.q2.d_law_draw ["state", "limit"] (liSp K tb sp_law_draw) :=
  Fun.okD T.q2.F_law_draw sc_law_draw (len_law_draw) (t := t_law_draw) (fun cdv A outer s H E F0 R0 hr =>
    (sds_cons (sd_if (td_cmp (od_eq hr.units) (pd_ix (dv 0) pd_int (fun _ _ => rfl)) pd_int (nomark _)) (sds_cons (sd_if (td_cmp od_ge (pd_ix (dv 0) pd_int (fun _ _ => rfl)) (pd_callB cd_len (by rfl) T.q6.n_len PySem.boot_len (ad_cons (pd_ix (dv 0) pd_int (fun _ _ => rfl)) ad_nil)) (nomark _)) (sds_one (sd_ret pd_int)) sds_nil)
    (sds_cons (sd_set (i := 2) sc_law_draw.nd rfl (by first | exact Or.inl rfl | exact Or.inr rfl) (pd_ix (pd_ix (dv 0) pd_int (fun _ _ => rfl)) (pd_ix (dv 0) pd_int (fun _ _ => rfl)) (fun _ _ => rfl)))
    (sds_cons (sd_if (td_cmp od_lt (dv 2) pd_int (nomark _)) (sds_one (sd_set (i := 2) sc_law_draw.nd rfl (by first | exact Or.inl rfl | exact Or.inr rfl) (pd_op od_sub (pd_un ud_neg pd_int) (dv 2)))) sds_nil)
    (sds_cons (sd_store (pd_op od_add (pd_ix (dv 0) pd_int (fun _ _ => rfl)) pd_int) (dv 0) pd_int std_list)
    (sds_cons (sd_store (dv 2) (dv 0) pd_int std_list)
    (sds_cons (sd_store (pd_cmp od_ge (dv 2) (pd_op od_pow pd_int pd_int) (nomark _)) (dv 0) pd_int std_list)
    (sds_cons (sd_store pd_int (dv 0) pd_int std_list)
    (sds_one (sd_if (td_tru (pd_ix (dv 0) pd_int (fun _ _ => rfl))) (sds_one (sd_store pd_int (dv 0) pd_int std_list)) sds_nil))))))))) sds_nil)
    (sds_cons (sd_store (pd_op od_sub (pd_ix (dv 0) pd_int (fun _ _ => rfl)) pd_int) (dv 0) pd_int std_list)
    (sds_cons (sd_if (td_tru (pd_ix (dv 0) pd_int (fun _ _ => rfl))) (sds_cons (sd_set (i := 3) sc_law_draw.nd rfl (by first | exact Or.inl rfl | exact Or.inr rfl) (pd_op od_mod (pd_callTy cd_int (by rfl) T.q6.n_int (by decide +kernel) (ad_cons (pd_ix (dv 0) pd_int (fun _ _ => rfl)) ad_nil)) (dv 1)))
    (sds_cons (sd_store (pd_op od_fdiv (pd_ix (dv 0) pd_int (fun _ _ => rfl)) (dv 1)) (dv 0) pd_int std_list)
    (sds_cons (sd_if (td_cmp (od_eq hr.units) (pd_ix (dv 0) pd_int (fun _ _ => rfl)) pd_int (nomark _)) (sds_one (sd_store pd_int (dv 0) pd_int std_list)) sds_nil)
    (sds_one (sd_ret (dv 3)))))) sds_nil)
    (sds_cons (sd_set (i := 4) sc_law_draw.nd rfl (by first | exact Or.inl rfl | exact Or.inr rfl) (pd_op od_mod (pd_callTy cd_int (by rfl) T.q6.n_int (by decide +kernel) (ad_cons (pd_op od_add (pd_op od_add (pd_op od_mul (pd_ix (dv 0) pd_int (fun _ _ => rfl)) pd_int) (pd_op od_mul (pd_ix (dv 0) pd_int (fun _ _ => rfl)) pd_int)) pd_int) ad_nil)) pd_int))
    (sds_cons (sd_set (i := 4) sc_law_draw.nd rfl (by first | exact Or.inl rfl | exact Or.inr rfl) (pd_op od_mod (pd_callTy cd_int (by rfl) T.q6.n_int (by decide +kernel) (ad_cons (pd_op od_add (pd_op od_add (pd_op od_mul (dv 4) (dv 4)) (pd_op od_mul (pd_ix (dv 0) pd_int (fun _ _ => rfl)) pd_int)) (pd_ix (dv 0) pd_int (fun _ _ => rfl))) ad_nil)) pd_int))
    (sds_one (sd_ret (pd_op od_mod (pd_callTy cd_int (by rfl) T.q6.n_int (by decide +kernel) (ad_cons (dv 4) ad_nil)) (dv 1)))))))))) (rd_law_draw)
theorem ok_law_far (T : Tx K mg base tb) : FnOk P w K mg base CX0 2 T.q2.f_law_far T.q2.d_law_far ["state"] (liSp K tb sp_law_far) :=
  Fun.okD T.q2.F_law_far sc_law_far (len_law_far) (t := t_law_far) (fun cdv A outer s H E F0 R0 hr =>
    (sds_cons (sd_set (i := 1) sc_law_far.nd rfl (by first | exact Or.inl rfl | exact Or.inr rfl) (pd_call (ok_law_draw T) (hr.mono (by decide)) (by rfl) T.q2.g_law_draw T.q2.F_law_draw.kp T.q2.b_law_draw (ad_cons (dv 0) (ad_cons pd_int ad_nil))))
    (sds_cons (sd_for PassesOwn.never rfl (id_rng1 (by rfl) T.q6.n_range (ad_cons (pd_call (ok_law_draw T) (hr.mono (by decide)) (by rfl) T.q2.g_law_draw T.q2.F_law_draw.kp T.q2.b_law_draw (ad_cons (dv 0) (ad_cons pd_int ad_nil))) ad_nil)) (pg_name (i := 2) sc_law_far.nd rfl (by first | exact Or.inl rfl | exact Or.inr rfl)) tg_name (sds_one (sd_set (i := 1) sc_law_far.nd rfl (by first | exact Or.inl rfl | exact Or.inr rfl) (pd_op od_add (pd_op od_mul (dv 1) pd_int) (pd_call (ok_law_draw T) (hr.mono (by decide)) (by rfl) T.q2.g_law_draw T.q2.F_law_draw.kp T.q2.b_law_draw (ad_cons (dv 0) (ad_cons pd_int ad_nil)))))))
    (sds_one (sd_ret (dv 1)))))) (rd_law_far)
theorem ok_law_name (T : Tx K mg base tb) : FnOk P w K mg base CX0 2 T.q2.f_law_name T.q2.d_law_name ["state"] (liSp K tb sp_law_name) :=
  Fun.okD T.q2.F_law_name sc_law_name (len_law_name) (t := t_law_name) (fun cdv A outer s H E F0 R0 hr =>
    (sds_cons (sd_set (i := 1) sc_law_name.nd rfl (by first | exact Or.inl rfl | exact Or.inr rfl) pd_str)
    (sds_cons (sd_set (i := 2) sc_law_name.nd rfl (by first | exact Or.inl rfl | exact Or.inr rfl) (pd_op od_add pd_int (pd_ix (pd_lst (ad_cons (pd_call (ok_law_draw T) (hr.mono (by decide)) (by rfl) T.q2.g_law_draw T.q2.F_law_draw.kp T.q2.b_law_draw (ad_cons (dv 0) (ad_cons pd_int ad_nil))) (ad_cons (pd_call (ok_law_draw T) (hr.mono (by decide)) (by rfl) T.q2.g_law_draw T.q2.F_law_draw.kp T.q2.b_law_draw (ad_cons (dv 0) (ad_cons pd_int ad_nil))) ad_nil))) (pd_call (ok_law_draw T) (hr.mono (by decide)) (by rfl) T.q2.g_law_draw T.q2.F_law_draw.kp T.q2.b_law_draw (ad_cons (dv 0) (ad_cons pd_int ad_nil))) (fun _ _ => rfl))))
    (sds_cons (sd_set (i := 3) sc_law_name.nd rfl (by first | exact Or.inl rfl | exact Or.inr rfl) pd_str)
    (sds_cons (sd_for PassesOwn.never rfl (id_rng1 (by rfl) T.q6.n_range (ad_cons (dv 2) ad_nil)) (pg_name (i := 4) sc_law_name.nd rfl (by first | exact Or.inl rfl | exact Or.inr rfl)) tg_name (sds_one (sd_set (i := 3) sc_law_name.nd rfl (by first | exact Or.inl rfl | exact Or.inr rfl) (pd_op od_add (dv 3) (pd_ix (dv 1) (pd_call (ok_law_draw T) (hr.mono (by decide)) (by rfl) T.q2.g_law_draw T.q2.F_law_draw.kp T.q2.b_law_draw (ad_cons (dv 0) (ad_cons pd_int ad_nil))) (fun _ _ => rfl))))))
    (sds_one (sd_ret (dv 3)))))))) (rd_law_name)
theorem ok_law_value (T : Tx K mg base tb) : FnOk P w K mg base CX0 1 T.q3.f_law_value T.q3.d_law_value ["form", "x"] (liSp K tb sp_law_value) :=
  Fun.okD T.q3.F_law_value sc_law_value (len_law_value) (t := t_law_value) (fun cdv A outer s H E F0 R0 hr =>
    (sds_cons (sd_if (td_cmp od_lt (dv 1) pd_int (nomark _)) (sds_one (sd_ret pd_non)) sds_nil)
    (sds_cons (sd_if (td_cmp od_lt (dv 1) (pd_callB cd_len (by rfl) T.q6.n_len PySem.boot_len (ad_cons (pd_ix (dv 0) pd_int (fun _ _ => rfl)) ad_nil)) (nomark _)) (sds_one (sd_ret (pd_ix (pd_ix (dv 0) pd_int (fun _ _ => rfl)) (dv 1) (fun _ _ => rfl)))) sds_nil)
    (sds_cons (sd_set (i := 2) sc_law_value.nd rfl (by first | exact Or.inl rfl | exact Or.inr rfl) (pd_op od_sub (dv 1) (pd_callB cd_len (by rfl) T.q6.n_len PySem.boot_len (ad_cons (pd_ix (dv 0) pd_int (fun _ _ => rfl)) ad_nil))))
    (sds_cons (sd_unp rfl (GNames.cons (pg_name (i := 3) sc_law_value.nd rfl (by first | exact Or.inl rfl | exact Or.inr rfl)) (GNames.cons (pg_name (i := 4) sc_law_value.nd rfl (by first | exact Or.inl rfl | exact Or.inr rfl)) GNames.nil rfl) rfl) (pd_ix (pd_ix (dv 0) pd_int (fun _ _ => rfl)) (pd_op od_mod (pd_callTy cd_int (by rfl) T.q6.n_int (by decide +kernel) (ad_cons (dv 2) ad_nil)) (pd_callB cd_len (by rfl) T.q6.n_len PySem.boot_len (ad_cons (pd_ix (dv 0) pd_int (fun _ _ => rfl)) ad_nil))) (fun _ _ => rfl)))
    (sds_cons (sd_if (td_cmp od_isN (dv 3) pd_non (nomark _)) (sds_one (sd_ret pd_non)) sds_nil)
    (sds_one (sd_ret (pd_op od_add (dv 3) (pd_op od_mul (dv 4) (pd_op od_fdiv (dv 2) (pd_callB cd_len (by rfl) T.q6.n_len PySem.boot_len (ad_cons (pd_ix (dv 0) pd_int (fun _ _ => rfl)) ad_nil))))))))))))) (rd_law_value)
theorem ok_law_int (T : Tx K mg base tb) : FnOk P w K mg base CX0 1 T.q3.f_law_int T.q3.d_law_int ["value"] (liSp K tb sp_law_int) :=
  Fun.okD T.q3.F_law_int sc_law_int (len_law_int) (t := t_law_int) (fun cdv A outer s H E F0 R0 hr =>
    (sds_one (sd_ret (pd_and (pd_callB cd_isi (by rfl) T.q6.n_isinstance (by decide +kernel) (ad_cons (dv 0) (ad_cons (pd_ty (by rfl) T.q6.n_int (by decide +kernel)) ad_nil))) (pd_one (pd_not (pd_callB cd_isi (by rfl) T.q6.n_isinstance (by decide +kernel) (ad_cons (dv 0) (ad_cons (pd_ty (by rfl) T.q6.n_bool (by decide +kernel)) ad_nil))))))))) (rd_law_int)
theorem ok_law_is_form (T : Tx K mg base tb) : FnOk P w K mg base CX0 2 T.q3.f_law_is_form T.q3.d_law_is_form ["form"] (liSp K tb sp_law_is_form) :=
  Fun.okD T.q3.F_law_is_form sc_law_is_form (len_law_is_form) (t := t_law_is_form) (fun cdv A outer s H E F0 R0 hr =>
    (sds_cons (sd_if (PW.pt (wd_or (td_not (td_tru (pd_callB cd_isi (by rfl) T.q6.n_isinstance (by decide +kernel) (ad_cons (dv 0) (ad_cons (pd_ty (by rfl) T.q6.n_tuple (by decide +kernel)) ad_nil))))) (wd_or1 (td_cmp (od_ne hr.units) (pd_callB cd_len (by rfl) T.q6.n_len PySem.boot_len (ad_cons (dv 0) ad_nil)) pd_int (nomark _))))) (sds_one (sd_ret pd_bl)) sds_nil)
    (sds_cons (sd_if (PW.pt (wd_or (td_not (td_tru (pd_callB cd_isi (by rfl) T.q6.n_isinstance (by decide +kernel) (ad_cons (pd_ix (dv 0) pd_int (fun _ _ => rfl)) (ad_cons (pd_ty (by rfl) T.q6.n_tuple (by decide +kernel)) ad_nil))))) (wd_or (td_not (td_tru (pd_callB cd_isi (by rfl) T.q6.n_isinstance (by decide +kernel) (ad_cons (pd_ix (dv 0) pd_int (fun _ _ => rfl)) (ad_cons (pd_ty (by rfl) T.q6.n_tuple (by decide +kernel)) ad_nil))))) (wd_or1 (td_cmp (od_eq hr.units) (pd_callB cd_len (by rfl) T.q6.n_len PySem.boot_len (ad_cons (pd_ix (dv 0) pd_int (fun _ _ => rfl)) ad_nil)) pd_int (nomark _)))))) (sds_one (sd_ret pd_bl)) sds_nil)
    (sds_cons (sd_for PassesOwn.never rfl (id_seq (pd_ix (dv 0) pd_int (fun _ _ => rfl))) (pg_name (i := 1) sc_law_is_form.nd rfl (by first | exact Or.inl rfl | exact Or.inr rfl)) tg_name (sds_one (sd_if (PW.pt (wd_and (td_cmp od_notN (dv 1) pd_non (nomark _)) (wd_and1 (td_not (td_tru (pd_call (ok_law_int T) (hr.mono (by decide)) (by rfl) T.q3.g_law_int T.q3.F_law_int.kp T.q3.b_law_int (ad_cons (dv 1) ad_nil))))))) (sds_one (sd_ret pd_bl)) sds_nil)))
    (sds_cons (sd_for PassesOwn.never rfl (id_seq (pd_ix (dv 0) pd_int (fun _ _ => rfl))) (pg_name (i := 2) sc_law_is_form.nd rfl (by first | exact Or.inl rfl | exact Or.inr rfl)) tg_name (sds_cons (sd_if (PW.pt (wd_or (td_not (td_tru (pd_callB cd_isi (by rfl) T.q6.n_isinstance (by decide +kernel) (ad_cons (dv 2) (ad_cons (pd_ty (by rfl) T.q6.n_tuple (by decide +kernel)) ad_nil))))) (wd_or (td_cmp (od_ne hr.units) (pd_callB cd_len (by rfl) T.q6.n_len PySem.boot_len (ad_cons (dv 2) ad_nil)) pd_int (nomark _)) (wd_or1 (td_not (td_tru (pd_call (ok_law_int T) (hr.mono (by decide)) (by rfl) T.q3.g_law_int T.q3.F_law_int.kp T.q3.b_law_int (ad_cons (pd_ix (dv 2) pd_int (fun _ _ => rfl)) ad_nil)))))))) (sds_one (sd_ret pd_bl)) sds_nil)
    (sds_cons (sd_if (PW.pt (wd_and (td_cmp od_isN (pd_ix (dv 2) pd_int (fun _ _ => rfl)) pd_non (nomark _)) (wd_and1 (td_cmp (od_ne hr.units) (pd_ix (dv 2) pd_int (fun _ _ => rfl)) pd_int (nomark _))))) (sds_one (sd_ret pd_bl)) sds_nil)
    (sds_one (sd_if (PW.pt (wd_and (td_cmp od_notN (pd_ix (dv 2) pd_int (fun _ _ => rfl)) pd_non (nomark _)) (wd_and1 (td_not (td_tru (pd_call (ok_law_int T) (hr.mono (by decide)) (by rfl) T.q3.g_law_int T.q3.F_law_int.kp T.q3.b_law_int (ad_cons (pd_ix (dv 2) pd_int (fun _ _ => rfl)) ad_nil))))))) (sds_one (sd_ret pd_bl)) sds_nil)))))
    (sds_one (sd_ret pd_bl))))))) (rd_law_is_form)
theorem ok_law_is_even (T : Tx K mg base tb) : FnOk P w K mg base CX0 2 T.q3.f_law_is_even T.q3.d_law_is_even ["form", "size"] (liSp K tb sp_law_is_even) :=
  Fun.okD T.q3.F_law_is_even sc_law_is_even (len_law_is_even) (t := t_law_is_even) (fun cdv A outer s H E F0 R0 hr =>
    (sds_cons (sd_for PassesOwn.never rfl (id_rngA (by rfl) T.q6.n_range (ad_cons (pd_callB cd_len (by rfl) T.q6.n_len PySem.boot_len (ad_cons (pd_ix (dv 0) pd_int (fun _ _ => rfl)) ad_nil)) (ad_cons (pd_op od_add (pd_callB cd_len (by rfl) T.q6.n_len PySem.boot_len (ad_cons (pd_ix (dv 0) pd_int (fun _ _ => rfl)) ad_nil)) (pd_op od_mul pd_int (pd_callB cd_len (by rfl) T.q6.n_len PySem.boot_len (ad_cons (pd_ix (dv 0) pd_int (fun _ _ => rfl)) ad_nil)))) ad_nil))) (pg_name (i := 2) sc_law_is_even.nd rfl (by first | exact Or.inl rfl | exact Or.inr rfl)) tg_name (sds_cons (sd_set (i := 3) sc_law_is_even.nd rfl (by first | exact Or.inl rfl | exact Or.inr rfl) (pd_call (ok_law_value T) (hr.mono (by decide)) (by rfl) T.q3.g_law_value T.q3.F_law_value.kp T.q3.b_law_value (ad_cons (dv 0) (ad_cons (dv 2) ad_nil))))
    (sds_cons (sd_set (i := 4) sc_law_is_even.nd rfl (by first | exact Or.inl rfl | exact Or.inr rfl) (pd_call (ok_law_value T) (hr.mono (by decide)) (by rfl) T.q3.g_law_value T.q3.F_law_value.kp T.q3.b_law_value (ad_cons (dv 0) (ad_cons (pd_op od_add (dv 2) (dv 1)) ad_nil))))
    (sds_cons (sd_set (i := 5) sc_law_is_even.nd rfl (by first | exact Or.inl rfl | exact Or.inr rfl) (pd_call (ok_law_value T) (hr.mono (by decide)) (by rfl) T.q3.g_law_value T.q3.F_law_value.kp T.q3.b_law_value (ad_cons (dv 0) (ad_cons (pd_op od_add (dv 2) (pd_op od_mul pd_int (dv 1))) ad_nil))))
    (sds_one (sd_if (PW.pt (wd_or (td_cmp od_isN (dv 3) pd_non (nomark _)) (wd_or (td_cmp od_isN (dv 4) pd_non (nomark _)) (wd_or1 (td_cmp od_isN (dv 5) pd_non (nomark _)))))) (sds_one (sd_if (PW.pt (wd_or (td_cmp od_notN (dv 3) pd_non (nomark _)) (wd_or (td_cmp od_notN (dv 4) pd_non (nomark _)) (wd_or1 (td_cmp od_notN (dv 5) pd_non (nomark _)))))) (sds_one (sd_ret pd_bl)) sds_nil)) (sds_one (sd_if (td_cmp (od_ne hr.units) (pd_op od_sub (dv 5) (dv 4)) (pd_op od_sub (dv 4) (dv 3)) (nomark _)) (sds_one (sd_ret pd_bl)) sds_nil))))))))
    (sds_one (sd_ret pd_bl)))) (rd_law_is_even)
theorem ok_law_is_normal (T : Tx K mg base tb) : FnOk P w K mg base CX0 3 T.q3.f_law_is_normal T.q3.d_law_is_normal ["form"] (liSp K tb sp_law_is_normal) :=
  Fun.okD T.q3.F_law_is_normal sc_law_is_normal (len_law_is_normal) (t := t_law_is_normal) (fun cdv A outer s H E F0 R0 hr =>
    (sds_cons (sd_if (td_not (td_tru (pd_call (ok_law_is_form T) (hr.mono (by decide)) (by rfl) T.q3.g_law_is_form T.q3.F_law_is_form.kp T.q3.b_law_is_form (ad_cons (dv 0) ad_nil)))) (sds_one (sd_ret pd_bl)) sds_nil)
    (sds_cons (sd_for PassesOwn.never rfl (id_rngA (by rfl) T.q6.n_range (ad_cons pd_int (ad_cons (pd_callB cd_len (by rfl) T.q6.n_len PySem.boot_len (ad_cons (pd_ix (dv 0) pd_int (fun _ _ => rfl)) ad_nil)) ad_nil))) (pg_name (i := 1) sc_law_is_normal.nd rfl (by first | exact Or.inl rfl | exact Or.inr rfl)) tg_name (sds_one (sd_if (PW.pt (wd_and (td_cmp (od_eq hr.units) (pd_op od_mod (pd_callTy cd_int (by rfl) T.q6.n_int (by decide +kernel) (ad_cons (pd_callB cd_len (by rfl) T.q6.n_len PySem.boot_len (ad_cons (pd_ix (dv 0) pd_int (fun _ _ => rfl)) ad_nil)) ad_nil)) (dv 1)) pd_int (nomark _)) (wd_and1 (td_tru (pd_call (ok_law_is_even T) (hr.mono (by decide)) (by rfl) T.q3.g_law_is_even T.q3.F_law_is_even.kp T.q3.b_law_is_even (ad_cons (dv 0) (ad_cons (dv 1) ad_nil))))))) (sds_one (sd_ret pd_bl)) sds_nil)))
    (sds_cons (sd_if (td_cmp (od_eq hr.units) (pd_callB cd_len (by rfl) T.q6.n_len PySem.boot_len (ad_cons (pd_ix (dv 0) pd_int (fun _ _ => rfl)) ad_nil)) pd_int (nomark _)) (sds_one (sd_ret pd_bl)) sds_nil)
    (sds_cons (sd_unp rfl (GNames.cons (pg_name (i := 2) sc_law_is_normal.nd rfl (by first | exact Or.inl rfl | exact Or.inr rfl)) (GNames.cons (pg_name (i := 3) sc_law_is_normal.nd rfl (by first | exact Or.inl rfl | exact Or.inr rfl)) GNames.nil rfl) rfl) (pd_ix (pd_ix (dv 0) pd_int (fun _ _ => rfl)) (pd_op od_sub (pd_callB cd_len (by rfl) T.q6.n_len PySem.boot_len (ad_cons (pd_ix (dv 0) pd_int (fun _ _ => rfl)) ad_nil)) pd_int) (fun _ _ => rfl)))
    (sds_cons (sd_if (td_cmp od_notN (dv 2) pd_non (nomark _)) (sds_one (sd_set (i := 2) sc_law_is_normal.nd rfl (by first | exact Or.inl rfl | exact Or.inr rfl) (pd_op od_sub (dv 2) (dv 3)))) sds_nil)
    (sds_one (sd_ret (pd_cmp (od_ne hr.units) (pd_ix (pd_ix (dv 0) pd_int (fun _ _ => rfl)) (pd_op od_sub (pd_callB cd_len (by rfl) T.q6.n_len PySem.boot_len (ad_cons (pd_ix (dv 0) pd_int (fun _ _ => rfl)) ad_nil)) pd_int) (fun _ _ => rfl)) (dv 2) (nomark _)))))))))) (rd_law_is_normal)
theorem ok_law_amount (T : Tx K mg base tb) : FnOk P w K mg base CX0 2 T.q3.f_law_amount T.q3.d_law_amount ["state"] (liSp K tb sp_law_amount) :=
  Fun.okD T.q3.F_law_amount sc_law_amount (len_law_amount) (t := t_law_amount) (fun cdv A outer s H E F0 R0 hr =>
    (sds_cons (sd_set (i := 1) sc_law_amount.nd rfl (by first | exact Or.inl rfl | exact Or.inr rfl) (pd_call (ok_law_draw T) (hr.mono (by decide)) (by rfl) T.q2.g_law_draw T.q2.F_law_draw.kp T.q2.b_law_draw (ad_cons (dv 0) (ad_cons pd_int ad_nil))))
    (sds_cons (sd_if (td_cmp (od_eq hr.units) (dv 1) pd_int (nomark _)) (sds_one (sd_ret pd_int)) sds_nil)
    (sds_cons (sd_if (td_cmp (od_eq hr.units) (dv 1) pd_int (nomark _)) (sds_one (sd_ret (pd_op od_sub (pd_op od_pow pd_int pd_int) (pd_call (ok_law_draw T) (hr.mono (by decide)) (by rfl) T.q2.g_law_draw T.q2.F_law_draw.kp T.q2.b_law_draw (ad_cons (dv 0) (ad_cons pd_int ad_nil)))))) sds_nil)
    (sds_one (sd_ret (pd_call (ok_law_draw T) (hr.mono (by decide)) (by rfl) T.q2.g_law_draw T.q2.F_law_draw.kp T.q2.b_law_draw (ad_cons (dv 0) (ad_cons (pd_ix (pd_lst (ad_cons pd_int (ad_cons pd_int (ad_cons pd_int ad_nil)))) (pd_op od_mod (pd_callTy cd_int (by rfl) T.q6.n_int (by decide +kernel) (ad_cons (dv 1) ad_nil)) pd_int) (fun _ _ => rfl)) ad_nil))))))))) (rd_law_amount)
theorem ok_law_steps (T : Tx K mg base tb) : FnOk P w K mg base CX0 3 T.q3.f_law_steps T.q3.d_law_steps ["state"] (liSp K tb sp_law_steps) :=
  Fun.okD T.q3.F_law_steps sc_law_steps (len_law_steps) (t := t_law_steps) (fun cdv A outer s H E F0 R0 hr =>
    (sds_cons (sd_set (i := 1) sc_law_steps.nd rfl (by first | exact Or.inl rfl | exact Or.inr rfl) (pd_lstM ad_nil))
    (sds_cons (sd_set (i := 2) sc_law_steps.nd rfl (by first | exact Or.inl rfl | exact Or.inr rfl) (pd_op od_mul (pd_call (ok_law_draw T) (hr.mono (by decide)) (by rfl) T.q2.g_law_draw T.q2.F_law_draw.kp T.q2.b_law_draw (ad_cons (dv 0) (ad_cons pd_int ad_nil))) (pd_call (ok_law_draw T) (hr.mono (by decide)) (by rfl) T.q2.g_law_draw T.q2.F_law_draw.kp T.q2.b_law_draw (ad_cons (dv 0) (ad_cons pd_int ad_nil)))))
    (sds_cons (sd_for PassesOwn.never rfl (id_rng1 (by rfl) T.q6.n_range (ad_cons (pd_call (ok_law_draw T) (hr.mono (by decide)) (by rfl) T.q2.g_law_draw T.q2.F_law_draw.kp T.q2.b_law_draw (ad_cons (dv 0) (ad_cons pd_int ad_nil))) ad_nil)) (pg_name (i := 3) sc_law_steps.nd rfl (by first | exact Or.inl rfl | exact Or.inr rfl)) tg_name (sds_cons (sd_if (td_cmp od_le (dv 2) pd_int (nomark _)) (sds_cons (sd_set (i := 4) sc_law_steps.nd rfl (by first | exact Or.inl rfl | exact Or.inr rfl) (pd_call (ok_law_amount T) (hr.mono (by decide)) (by rfl) T.q3.g_law_amount T.q3.F_law_amount.kp T.q3.b_law_amount (ad_cons (dv 0) ad_nil)))
    (sds_cons (sd_if (td_cmp (od_eq hr.units) (pd_call (ok_law_draw T) (hr.mono (by decide)) (by rfl) T.q2.g_law_draw T.q2.F_law_draw.kp T.q2.b_law_draw (ad_cons (dv 0) (ad_cons pd_int ad_nil))) pd_int (nomark _)) (sds_one (sd_set (i := 4) sc_law_steps.nd rfl (by first | exact Or.inl rfl | exact Or.inr rfl) pd_non)) sds_nil)
    (sds_one (sd_expr (pd_append (dv 1) (ad_cons (pd_tup (ad_cons (dv 2) (ad_cons (dv 4) ad_nil))) ad_nil)))))) sds_nil)
    (sds_one (sd_set (i := 2) sc_law_steps.nd rfl (by first | exact Or.inl rfl | exact Or.inr rfl) (pd_op od_add (pd_op od_add (dv 2) pd_int) (pd_ix (pd_lst (ad_cons (pd_call (ok_law_draw T) (hr.mono (by decide)) (by rfl) T.q2.g_law_draw T.q2.F_law_draw.kp T.q2.b_law_draw (ad_cons (dv 0) (ad_cons pd_int ad_nil))) (ad_cons (pd_call (ok_law_draw T) (hr.mono (by decide)) (by rfl) T.q2.g_law_draw T.q2.F_law_draw.kp T.q2.b_law_draw (ad_cons (dv 0) (ad_cons pd_int ad_nil))) (ad_cons (pd_call (ok_law_draw T) (hr.mono (by decide)) (by rfl) T.q2.g_law_draw T.q2.F_law_draw.kp T.q2.b_law_draw (ad_cons (dv 0) (ad_cons pd_int ad_nil))) ad_nil)))) (pd_ix (pd_lst (ad_cons pd_int (ad_cons pd_int (ad_cons pd_int (ad_cons pd_int (ad_cons pd_int (ad_cons pd_int (ad_cons pd_int (ad_cons pd_int ad_nil))))))))) (pd_call (ok_law_draw T) (hr.mono (by decide)) (by rfl) T.q2.g_law_draw T.q2.F_law_draw.kp T.q2.b_law_draw (ad_cons (dv 0) (ad_cons pd_int ad_nil))) (fun _ _ => rfl)) (fun _ _ => rfl)))))))
    (sds_cons (sd_if (PW.pt (wd_and (td_cmp (od_eq hr.units) (pd_call (ok_law_draw T) (hr.mono (by decide)) (by rfl) T.q2.g_law_draw T.q2.F_law_draw.kp T.q2.b_law_draw (ad_cons (dv 0) (ad_cons pd_int ad_nil))) pd_int (nomark _)) (wd_and1 (td_cmp od_le (dv 2) pd_int (nomark _))))) (sds_one (sd_expr (pd_append (dv 1) (ad_cons (pd_tup (ad_cons pd_int (ad_cons (pd_call (ok_law_amount T) (hr.mono (by decide)) (by rfl) T.q3.g_law_amount T.q3.F_law_amount.kp T.q3.b_law_amount (ad_cons (dv 0) ad_nil)) ad_nil))) ad_nil)))) sds_nil)
    (sds_one (sd_ret (pd_callTy cd_tuple (by rfl) T.q6.n_tuple (by decide +kernel) (ad_cons (dv 1) ad_nil))))))))) (rd_law_steps)
theorem ok_law_more (T : Tx K mg base tb) : FnOk P w K mg base CX0 3 T.q3.f_law_more T.q3.d_law_more ["state"] (liSp K tb sp_law_more) :=
  Fun.okD T.q3.F_law_more sc_law_more (len_law_more) (t := t_law_more) (fun cdv A outer s H E F0 R0 hr =>
    (sds_cons (sd_if (td_cmp (od_eq hr.units) (pd_call (ok_law_draw T) (hr.mono (by decide)) (by rfl) T.q2.g_law_draw T.q2.F_law_draw.kp T.q2.b_law_draw (ad_cons (dv 0) (ad_cons pd_int ad_nil))) pd_int (nomark _)) (sds_one (sd_ret pd_non)) sds_nil)
    (sds_cons (sd_set (i := 1) sc_law_more.nd rfl (by first | exact Or.inl rfl | exact Or.inr rfl) (pd_ix (pd_lst (ad_cons (pd_op od_add pd_int (pd_call (ok_law_draw T) (hr.mono (by decide)) (by rfl) T.q2.g_law_draw T.q2.F_law_draw.kp T.q2.b_law_draw (ad_cons (dv 0) (ad_cons pd_int ad_nil)))) (ad_cons (pd_op od_add pd_int (pd_call (ok_law_draw T) (hr.mono (by decide)) (by rfl) T.q2.g_law_draw T.q2.F_law_draw.kp T.q2.b_law_draw (ad_cons (dv 0) (ad_cons pd_int ad_nil)))) (ad_cons (pd_op od_add pd_int (pd_call (ok_law_draw T) (hr.mono (by decide)) (by rfl) T.q2.g_law_draw T.q2.F_law_draw.kp T.q2.b_law_draw (ad_cons (dv 0) (ad_cons pd_int ad_nil)))) ad_nil)))) (pd_call (ok_law_draw T) (hr.mono (by decide)) (by rfl) T.q2.g_law_draw T.q2.F_law_draw.kp T.q2.b_law_draw (ad_cons (dv 0) (ad_cons pd_int ad_nil))) (fun _ _ => rfl)))
    (sds_one (sd_ret (pd_tup (ad_cons (dv 1) (ad_cons (pd_call (ok_law_amount T) (hr.mono (by decide)) (by rfl) T.q3.g_law_amount T.q3.F_law_amount.kp T.q3.b_law_amount (ad_cons (dv 0) ad_nil)) ad_nil)))))))) (rd_law_more)
theorem ok_law_some_names (T : Tx K mg base tb) : FnOk P w K mg base CX0 3 T.q4.f_law_some_names T.q4.d_law_some_names ["state", "count"] (liSp K tb sp_law_some_names) :=
  Fun.okD T.q4.F_law_some_names sc_law_some_names (len_law_some_names) (t := t_law_some_names) (fun cdv A outer s H E F0 R0 hr =>
    (sds_cons (sd_set (i := 2) sc_law_some_names.nd rfl (by first | exact Or.inl rfl | exact Or.inr rfl) (pd_lstM ad_nil))
    (sds_cons (sd_for PassesOwn.never rfl (id_rng1 (by rfl) T.q6.n_range (ad_cons (dv 1) ad_nil)) (pg_name (i := 3) sc_law_some_names.nd rfl (by first | exact Or.inl rfl | exact Or.inr rfl)) tg_name (sds_cons (sd_set (i := 4) sc_law_some_names.nd rfl (by first | exact Or.inl rfl | exact Or.inr rfl) (pd_call (ok_law_name T) (hr.mono (by decide)) (by rfl) T.q2.g_law_name T.q2.F_law_name.kp T.q2.b_law_name (ad_cons (dv 0) ad_nil)))
    (sds_one (sd_if (td_cmp od_notIn (dv 4) (dv 2) rfl) (sds_one (sd_expr (pd_append (dv 2) (ad_cons (dv 4) ad_nil)))) sds_nil))))
    (sds_one (sd_ret (pd_callB cd_sortedS (by rfl) T.q6.n_sorted (by decide +kernel) (ad_cons (dv 2) ad_nil))))))) (rd_law_some_names)
theorem ok_law_tariff (T : Tx K mg base tb) : FnOk P w K mg base CX0 4 T.q4.f_law_tariff T.q4.d_law_tariff ["state"] (liSp K tb sp_law_tariff) :=
  Fun.okD T.q4.F_law_tariff sc_law_tariff (len_law_tariff) (t := t_law_tariff) (fun cdv A outer s H E F0 R0 hr =>
    (sds_cons (sd_set (i := 1) sc_law_tariff.nd rfl (by first | exact Or.inl rfl | exact Or.inr rfl) (pd_lstM ad_nil))
    (sds_cons (sd_set (i := 2) sc_law_tariff.nd rfl (by first | exact Or.inl rfl | exact Or.inr rfl) (pd_call (ok_law_some_names T) (hr.mono (by decide)) (by rfl) T.q4.g_law_some_names T.q4.F_law_some_names.kp T.q4.b_law_some_names (ad_cons (dv 0) (ad_cons (pd_op od_add pd_int (pd_ix (pd_lst (ad_cons (pd_call (ok_law_draw T) (hr.mono (by decide)) (by rfl) T.q2.g_law_draw T.q2.F_law_draw.kp T.q2.b_law_draw (ad_cons (dv 0) (ad_cons pd_int ad_nil))) (ad_cons (pd_call (ok_law_draw T) (hr.mono (by decide)) (by rfl) T.q2.g_law_draw T.q2.F_law_draw.kp T.q2.b_law_draw (ad_cons (dv 0) (ad_cons pd_int ad_nil))) ad_nil))) (pd_call (ok_law_draw T) (hr.mono (by decide)) (by rfl) T.q2.g_law_draw T.q2.F_law_draw.kp T.q2.b_law_draw (ad_cons (dv 0) (ad_cons pd_int ad_nil))) (fun _ _ => rfl))) ad_nil))))
    (sds_cons (sd_for PassesOwn.never rfl (id_seq (pd_call (ok_law_some_names T) (hr.mono (by decide)) (by rfl) T.q4.g_law_some_names T.q4.F_law_some_names.kp T.q4.b_law_some_names (ad_cons (dv 0) (ad_cons (pd_op od_add pd_int (pd_call (ok_law_draw T) (hr.mono (by decide)) (by rfl) T.q2.g_law_draw T.q2.F_law_draw.kp T.q2.b_law_draw (ad_cons (dv 0) (ad_cons pd_int ad_nil)))) ad_nil)))) (pg_name (i := 3) sc_law_tariff.nd rfl (by first | exact Or.inl rfl | exact Or.inr rfl)) tg_name (sds_one (sd_for PassesOwn.never rfl (id_seq (dv 2)) (pg_name (i := 4) sc_law_tariff.nd rfl (by first | exact Or.inl rfl | exact Or.inr rfl)) tg_name (sds_one (sd_if (td_cmp od_gt (pd_call (ok_law_draw T) (hr.mono (by decide)) (by rfl) T.q2.g_law_draw T.q2.F_law_draw.kp T.q2.b_law_draw (ad_cons (dv 0) (ad_cons pd_int ad_nil))) pd_int (nomark _)) (sds_one (sd_expr (pd_append (dv 1) (ad_cons (pd_tup (ad_cons (dv 3) (ad_cons (dv 4) (ad_cons (pd_call (ok_law_steps T) (hr.mono (by decide)) (by rfl) T.q3.g_law_steps T.q3.F_law_steps.kp T.q3.b_law_steps (ad_cons (dv 0) ad_nil)) (ad_cons (pd_call (ok_law_more T) (hr.mono (by decide)) (by rfl) T.q3.g_law_more T.q3.F_law_more.kp T.q3.b_law_more (ad_cons (dv 0) ad_nil)) ad_nil))))) ad_nil)))) sds_nil)))))
    (sds_cons (sd_if (td_cmp (od_eq hr.units) (pd_callB cd_len (by rfl) T.q6.n_len PySem.boot_len (ad_cons (dv 1) ad_nil)) pd_int (nomark _)) (sds_one (sd_expr (pd_append (dv 1) (ad_cons (pd_tup (ad_cons pd_str (ad_cons (pd_ix (dv 2) pd_int (fun _ _ => rfl)) (ad_cons (pd_tup (ad_cons (pd_tup (ad_cons pd_int (ad_cons pd_int ad_nil))) ad_nil)) (ad_cons (pd_tup (ad_cons pd_int (ad_cons pd_int ad_nil))) ad_nil))))) ad_nil)))) sds_nil)
    (sds_one (sd_ret (pd_callTy cd_tuple (by rfl) T.q6.n_tuple (by decide +kernel) (ad_cons (dv 1) ad_nil))))))))) (rd_law_tariff)
theorem ok_law_row_price (T : Tx K mg base tb) : FnOk P w K mg base CX0 1 T.q4.f_law_row_price T.q4.d_law_row_price ["row", "weight"] (liSp K tb sp_law_row_price) :=
  Fun.okD T.q4.F_law_row_price sc_law_row_price (len_law_row_price) (t := t_law_row_price) (fun cdv A outer s H E F0 R0 hr =>
    (sds_cons (sd_set (i := 2) sc_law_row_price.nd rfl (by first | exact Or.inl rfl | exact Or.inr rfl) pd_int)
    (sds_cons (sd_set (i := 3) sc_law_row_price.nd rfl (by first | exact Or.inl rfl | exact Or.inr rfl) pd_int)
    (sds_cons (sd_for PassesOwn.never rfl (id_seq (pd_ix (dv 0) pd_int (fun _ _ => rfl))) (pg_name (i := 4) sc_law_row_price.nd rfl (by first | exact Or.inl rfl | exact Or.inr rfl)) tg_name (sds_cons (sd_unp rfl (GNames.cons (pg_name (i := 2) sc_law_row_price.nd rfl (by first | exact Or.inl rfl | exact Or.inr rfl)) (GNames.cons (pg_name (i := 3) sc_law_row_price.nd rfl (by first | exact Or.inl rfl | exact Or.inr rfl)) GNames.nil rfl) rfl) (dv 4))
    (sds_one (sd_if (td_cmp od_le (dv 1) (dv 2) (nomark _)) (sds_one (sd_ret (dv 3))) sds_nil))))
    (sds_cons (sd_if (PW.pt (wd_or (td_cmp od_isN (dv 3) pd_non (nomark _)) (wd_or1 (td_cmp od_isN (pd_ix (dv 0) pd_int (fun _ _ => rfl)) pd_non (nomark _))))) (sds_one (sd_ret pd_non)) sds_nil)
    (sds_one (sd_ret (pd_op od_add (dv 3) (pd_op od_mul (pd_ix (pd_ix (dv 0) pd_int (fun _ _ => rfl)) pd_int (fun _ _ => rfl)) (pd_op od_fdiv (pd_op od_sub (pd_op od_add (pd_op od_sub (dv 1) (dv 2)) (pd_ix (pd_ix (dv 0) pd_int (fun _ _ => rfl)) pd_int (fun _ _ => rfl))) pd_int) (pd_ix (pd_ix (dv 0) pd_int (fun _ _ => rfl)) pd_int (fun _ _ => rfl)))))))))))) (rd_law_row_price)
theorem ok_law_price (T : Tx K mg base tb) : FnOk P w K mg base CX0 2 T.q4.f_law_price T.q4.d_law_price ["tariff", "zone", "services", "weight"] (liSp K tb sp_law_price) :=
  Fun.okD T.q4.F_law_price sc_law_price (len_law_price) (t := t_law_price) (fun cdv A outer s H E F0 R0 hr =>
    (sds_cons (sd_set (i := 4) sc_law_price.nd rfl (by first | exact Or.inl rfl | exact Or.inr rfl) pd_int)
    (sds_cons (sd_for PassesOwn.never rfl (id_seq (dv 2)) (pg_name (i := 5) sc_law_price.nd rfl (by first | exact Or.inl rfl | exact Or.inr rfl)) tg_name (sds_cons (sd_setLcG (i := 6) fin_lst rfl sc_law_price.nd rfl rfl (sw_true rfl rfl rfl (by decide +kernel)) (id_seq (dv 0)) (blkOk_by (own := [("row", 7)]) (N := n_law_price) (sc := defScope s_law_price) (by decide +kernel)) rfl tg_name (by decide) (fun _ _ _ _ _ => (pg_name (i := 7) sc_law_price.nd rfl (by first | exact Or.inl rfl | exact Or.inr rfl))) (fun _ _ _ _ _ => (tsd_one (PW.pt (wd_and (td_cmp (od_eq hr.units) (pd_ix (dv 7) pd_int (fun _ _ => rfl)) (dv 1) (nomark _)) (wd_and1 (td_cmp (od_eq hr.units) (pd_ix (dv 7) pd_int (fun _ _ => rfl)) (dv 5) (nomark _))))))) (fun _ _ _ _ _ => (dv 7)))
    (sds_cons (sd_if (PW.pt (wd_or (td_cmp (od_eq hr.units) (pd_callB cd_len (by rfl) T.q6.n_len PySem.boot_len (ad_cons (dv 6) ad_nil)) pd_int (nomark _)) (wd_or1 (td_cmp od_isN (pd_call (ok_law_row_price T) (hr.mono (by decide)) (by rfl) T.q4.g_law_row_price T.q4.F_law_row_price.kp T.q4.b_law_row_price (ad_cons (pd_ix (dv 6) pd_int (fun _ _ => rfl)) (ad_cons (dv 3) ad_nil))) pd_non (nomark _))))) (sds_one (sd_ret pd_non)) sds_nil)
    (sds_one (sd_set (i := 4) sc_law_price.nd rfl (by first | exact Or.inl rfl | exact Or.inr rfl) (pd_op od_add (dv 4) (pd_call (ok_law_row_price T) (hr.mono (by decide)) (by rfl) T.q4.g_law_row_price T.q4.F_law_row_price.kp T.q4.b_law_row_price (ad_cons (pd_ix (dv 6) pd_int (fun _ _ => rfl)) (ad_cons (dv 3) ad_nil)))))))))
    (sds_one (sd_ret (dv 4)))))) (rd_law_price)
theorem ok_law_services (T : Tx K mg base tb) : FnOk P w K mg base CX0 2 T.q4.f_law_services T.q4.d_law_services ["state", "tariff"] (liSp K tb sp_law_services) :=
  Fun.okD T.q4.F_law_services sc_law_services (len_law_services) (t := t_law_services) (fun cdv A outer s H E F0 R0 hr =>
    (sds_cons (sd_set (i := 2) sc_law_services.nd rfl (by first | exact Or.inl rfl | exact Or.inr rfl) (pd_ix (pd_ix (dv 1) (pd_call (ok_law_draw T) (hr.mono (by decide)) (by rfl) T.q2.g_law_draw T.q2.F_law_draw.kp T.q2.b_law_draw (ad_cons (dv 0) (ad_cons (pd_callB cd_len (by rfl) T.q6.n_len PySem.boot_len (ad_cons (dv 1) ad_nil)) ad_nil))) (fun _ _ => rfl)) pd_int (fun _ _ => rfl)))
    (sds_cons (sd_set (i := 3) sc_law_services.nd rfl (by first | exact Or.inl rfl | exact Or.inr rfl) (pd_lstM ad_nil))
    (sds_cons (sd_for PassesOwn.never rfl (id_seq (dv 1)) (pg_name (i := 4) sc_law_services.nd rfl (by first | exact Or.inl rfl | exact Or.inr rfl)) tg_name (sds_one (sd_if (PW.pt (wd_and (td_cmp (od_eq hr.units) (pd_ix (dv 4) pd_int (fun _ _ => rfl)) (dv 2) (nomark _)) (wd_and1 (PW.pt (wd_or (td_cmp (od_eq hr.units) (pd_call (ok_law_draw T) (hr.mono (by decide)) (by rfl) T.q2.g_law_draw T.q2.F_law_draw.kp T.q2.b_law_draw (ad_cons (dv 0) (ad_cons pd_int ad_nil))) pd_int (nomark _)) (wd_or1 (td_cmp (od_eq hr.units) (pd_callB cd_len (by rfl) T.q6.n_len PySem.boot_len (ad_cons (dv 3) ad_nil)) pd_int (nomark _)))))))) (sds_one (sd_expr (pd_append (dv 3) (ad_cons (pd_ix (dv 4) pd_int (fun _ _ => rfl)) ad_nil)))) sds_nil)))
    (sds_one (sd_ret (pd_tup (ad_cons (dv 2) (ad_cons (pd_callTy cd_tuple (by rfl) T.q6.n_tuple (by decide +kernel) (ad_cons (dv 3) ad_nil)) ad_nil))))))))) (rd_law_services)
theorem ok_law_edges (T : Tx K mg base tb) : FnOk P w K mg base CX0 1 T.q4.f_law_edges T.q4.d_law_edges ["tariff", "zone"] (liSp K tb sp_law_edges) :=
  Fun.okD T.q4.F_law_edges sc_law_edges (len_law_edges) (t := t_law_edges) (fun cdv A outer s H E F0 R0 hr =>
    (sds_cons (sd_set (i := 2) sc_law_edges.nd rfl (by first | exact Or.inl rfl | exact Or.inr rfl) (pd_lst (ad_cons pd_int (ad_cons pd_int ad_nil))))
    (sds_cons (sd_for PassesOwn.never rfl (id_seq (dv 0)) (pg_name (i := 3) sc_law_edges.nd rfl (by first | exact Or.inl rfl | exact Or.inr rfl)) tg_name (sds_one (sd_if (td_cmp (od_eq hr.units) (pd_ix (dv 3) pd_int (fun _ _ => rfl)) (dv 1) (nomark _)) (sds_cons (sd_set (i := 4) sc_law_edges.nd rfl (by first | exact Or.inl rfl | exact Or.inr rfl) pd_int)
    (sds_cons (sd_for PassesOwn.never rfl (id_seq (pd_ix (dv 3) pd_int (fun _ _ => rfl))) (pg_name (i := 5) sc_law_edges.nd rfl (by first | exact Or.inl rfl | exact Or.inr rfl)) tg_name (sds_cons (sd_set (i := 4) sc_law_edges.nd rfl (by first | exact Or.inl rfl | exact Or.inr rfl) (pd_ix (dv 5) pd_int (fun _ _ => rfl)))
    (sds_one (sd_set (i := 2) sc_law_edges.nd rfl (by first | exact Or.inl rfl | exact Or.inr rfl) (pd_op od_add (dv 2) (pd_lst (ad_cons (pd_callB (cd_max rfl) (by rfl) T.q6.n_max (by decide +kernel) (ad_cons pd_int (ad_cons (pd_op od_sub (dv 4) pd_int) ad_nil))) (ad_cons (dv 4) (ad_cons (pd_op od_add (dv 4) pd_int) ad_nil)))))))))
    (sds_one (sd_if (td_cmp od_notN (pd_ix (dv 3) pd_int (fun _ _ => rfl)) pd_non (nomark _)) (sds_one (sd_for PassesOwn.never rfl (id_seq (pd_lst (ad_cons pd_int (ad_cons pd_int (ad_cons pd_int (ad_cons pd_int ad_nil)))))) (pg_name (i := 6) sc_law_edges.nd rfl (by first | exact Or.inl rfl | exact Or.inr rfl)) tg_name (sds_one (sd_set (i := 2) sc_law_edges.nd rfl (by first | exact Or.inl rfl | exact Or.inr rfl) (pd_op od_add (dv 2) (pd_lst (ad_cons (pd_op od_add (dv 4) (pd_op od_mul (dv 6) (pd_ix (pd_ix (dv 3) pd_int (fun _ _ => rfl)) pd_int (fun _ _ => rfl)))) (ad_cons (pd_op od_add (pd_op od_add (dv 4) (pd_op od_mul (dv 6) (pd_ix (pd_ix (dv 3) pd_int (fun _ _ => rfl)) pd_int (fun _ _ => rfl)))) pd_int) ad_nil)))))))) sds_nil)))) sds_nil)))
    (sds_one (sd_ret (dv 2)))))) (rd_law_edges)
theorem ok_law_common (T : Tx K mg base tb) : FnOk P w K mg base CX0 1 T.q4.f_law_common T.q4.d_law_common ["one", "two"] (liSp K tb sp_law_common) :=
  Fun.okD T.q4.F_law_common sc_law_common (len_law_common) (t := t_law_common) (fun cdv A outer s H E F0 R0 hr =>
    (sds_cons (sd_while PassesOwn.never (td_cmp (od_ne hr.units) (dv 1) pd_int (nomark _)) (sds_one (sd_par (i := 0) (j := 1) rfl sc_law_common.nd rfl rfl (by decide) rfl rfl (ad_cons (dv 1) (ad_cons (pd_op od_mod (pd_callTy cd_int (by rfl) T.q6.n_int (by decide +kernel) (ad_cons (dv 0) ad_nil)) (dv 1)) ad_nil)) rfl)))
    (sds_one (sd_ret (dv 0))))) (rd_law_common)
theorem ok_law_period (T : Tx K mg base tb) : FnOk P w K mg base CX0 1 T.q4.f_law_period T.q4.d_law_period ["row"] (liSp K tb sp_law_period) :=
  Fun.okD T.q4.F_law_period sc_law_period (len_law_period) (t := t_law_period) (fun cdv A outer s H E F0 R0 hr =>
    (sds_cons (sd_if (PW.pt (wd_or (td_cmp od_isN (pd_ix (dv 0) pd_int (fun _ _ => rfl)) pd_non (nomark _)) (wd_or1 (td_cmp (od_eq hr.units) (pd_ix (pd_ix (dv 0) pd_int (fun _ _ => rfl)) pd_int (fun _ _ => rfl)) pd_int (nomark _))))) (sds_one (sd_ret pd_int)) sds_nil)
    (sds_cons (sd_if (PW.pt (wd_and (td_cmp od_gt (pd_callB cd_len (by rfl) T.q6.n_len PySem.boot_len (ad_cons (pd_ix (dv 0) pd_int (fun _ _ => rfl)) ad_nil)) pd_int (nomark _)) (wd_and1 (td_cmp od_isN (pd_ix (pd_ix (pd_ix (dv 0) pd_int (fun _ _ => rfl)) (pd_op od_sub (pd_callB cd_len (by rfl) T.q6.n_len PySem.boot_len (ad_cons (pd_ix (dv 0) pd_int (fun _ _ => rfl)) ad_nil)) pd_int) (fun _ _ => rfl)) pd_int (fun _ _ => rfl)) pd_non (nomark _))))) (sds_one (sd_ret pd_int)) sds_nil)
    (sds_one (sd_ret (pd_ix (pd_ix (dv 0) pd_int (fun _ _ => rfl)) pd_int (fun _ _ => rfl))))))) (rd_law_period)
theorem ok_law_periods (T : Tx K mg base tb) : FnOk P w K mg base CX0 2 T.q5.f_law_periods T.q5.d_law_periods ["tariff", "zone", "services"] (liSp K tb sp_law_periods) :=
  Fun.okD T.q5.F_law_periods sc_law_periods (len_law_periods) (t := t_law_periods) (fun cdv A outer s H E F0 R0 hr =>
    (sds_cons (sd_set (i := 3) sc_law_periods.nd rfl (by first | exact Or.inl rfl | exact Or.inr rfl) pd_int)
    (sds_cons (sd_for PassesOwn.never rfl (id_seq (dv 0)) (pg_name (i := 4) sc_law_periods.nd rfl (by first | exact Or.inl rfl | exact Or.inr rfl)) tg_name (sds_one (sd_if (PW.pt (wd_and (td_cmp (od_eq hr.units) (pd_ix (dv 4) pd_int (fun _ _ => rfl)) (dv 1) (nomark _)) (wd_and1 (td_cmp od_in (pd_ix (dv 4) pd_int (fun _ _ => rfl)) (dv 2) rfl)))) (sds_cons (sd_set (i := 5) sc_law_periods.nd rfl (by first | exact Or.inl rfl | exact Or.inr rfl) (pd_call (ok_law_period T) (hr.mono (by decide)) (by rfl) T.q4.g_law_period T.q4.F_law_period.kp T.q4.b_law_period (ad_cons (dv 4) ad_nil)))
    (sds_one (sd_set (i := 3) sc_law_periods.nd rfl (by first | exact Or.inl rfl | exact Or.inr rfl) (pd_op od_fdiv (pd_op od_mul (dv 3) (dv 5)) (pd_call (ok_law_common T) (hr.mono (by decide)) (by rfl) T.q4.g_law_common T.q4.F_law_common.kp T.q4.b_law_common (ad_cons (dv 3) (ad_cons (dv 5) ad_nil))))))) sds_nil)))
    (sds_one (sd_ret (dv 3)))))) (rd_law_periods)
theorem ok_law_told (T : Tx K mg base tb) : FnOk P w K mg base CX0 16 T.q5.f_law_told T.q5.d_law_told ["tariff", "zone", "services"] (liSp K tb (sp_law_told ⟨P, w, K, mg, base, tb⟩)) :=
  Fun.okD T.q5.F_law_told sc_law_told (len_law_told ⟨P, w, K, mg, base, tb⟩) (t := (t_law_told ⟨P, w, K, mg, base, tb⟩)) (fun cdv A outer s H E F0 R0 hr =>
    (sds_one (sd_try rfl rfl (cv := exV ⟨P, w, K, mg, base, tb⟩ "TooLarge") (exV_of T.q6.x_TooLarge.g) ⟨by rfl, by decide, Or.inl T.q6.x_TooLarge.g⟩ T.q6.x_TooLarge.m sds_nil (fun W pn xe FF RR E2 hE2 tk2 => (sds_one (sd_ret (pd_tup (ad_cons pd_str (ad_cons (pd_callS hE2 tk2 (ok_postage T) (hr.mono (by decide)) (by rfl) T.q2.g_postage T.q2.F_postage.kp T.q2.b_postage (ad_cons (dv 0) (ad_cons (dv 1) (ad_cons (dv 2) ad_nil)))) ad_nil)))))) (fun a oe cls d pn hz hf => (sds_one (sd_ret (pd_tup (ad_cons pd_str (ad_cons pd_non ad_nil))))))))) (rd_law_told ⟨P, w, K, mg, base, tb⟩)
theorem ok_law_holds (T : Tx K mg base tb) : FnOk P w K mg base CX0 17 T.q5.f_law_holds T.q5.d_law_holds ["state", "tariff", "zone", "services"] (liSp K tb sp_law_holds) :=
  Fun.okD T.q5.F_law_holds sc_law_holds (len_law_holds) (t := (t_law_holds ⟨P, w, K, mg, base, tb⟩)) (fun cdv A outer s H E F0 R0 hr =>
    (sds_cons (sd_unp rfl (GNames.cons (pg_name (i := 4) sc_law_holds.nd rfl (by first | exact Or.inl rfl | exact Or.inr rfl)) (GNames.cons (pg_name (i := 5) sc_law_holds.nd rfl (by first | exact Or.inl rfl | exact Or.inr rfl)) GNames.nil rfl) rfl) (pd_call (ok_law_told T) (hr.mono (by decide)) (by rfl) T.q5.g_law_told T.q5.F_law_told.kp T.q5.b_law_told (ad_cons (dv 1) (ad_cons (dv 2) (ad_cons (dv 3) ad_nil)))))
    (sds_cons (sd_if (td_cmp od_gt (pd_call (ok_law_periods T) (hr.mono (by decide)) (by rfl) T.q5.g_law_periods T.q5.F_law_periods.kp T.q5.b_law_periods (ad_cons (dv 1) (ad_cons (dv 2) (ad_cons (dv 3) ad_nil)))) pd_int (nomark _)) (sds_one (sd_ret (pd_cmp (od_eq hr.units) (dv 4) pd_str (nomark _)))) sds_nil)
    (sds_cons (sd_if (PW.pt (wd_or (td_cmp (od_ne hr.units) (dv 4) pd_str (nomark _)) (wd_or1 (td_not (td_tru (pd_call (ok_law_is_form T) (hr.mono (by decide)) (by rfl) T.q3.g_law_is_form T.q3.F_law_is_form.kp T.q3.b_law_is_form (ad_cons (dv 5) ad_nil))))))) (sds_one (sd_ret pd_bl)) sds_nil)
    (sds_cons (sd_if (PW.pt (wd_and (td_cmp od_le (pd_call (ok_law_periods T) (hr.mono (by decide)) (by rfl) T.q5.g_law_periods T.q5.F_law_periods.kp T.q5.b_law_periods (ad_cons (dv 1) (ad_cons (dv 2) (ad_cons (dv 3) ad_nil)))) pd_int (nomark _)) (wd_and1 (td_not (td_tru (pd_call (ok_law_is_normal T) (hr.mono (by decide)) (by rfl) T.q3.g_law_is_normal T.q3.F_law_is_normal.kp T.q3.b_law_is_normal (ad_cons (dv 5) ad_nil))))))) (sds_one (sd_ret pd_bl)) sds_nil)
    (sds_cons (sd_set (i := 6) sc_law_holds.nd rfl (by first | exact Or.inl rfl | exact Or.inr rfl) (pd_op od_add (pd_op od_add (pd_lcG fin_lst rfl sc_law_holds.nd (id_rng1 (by rfl) T.q6.n_range (ad_cons pd_int ad_nil)) (blkOk_by (own := [("x", 7)]) (N := n_law_holds) (sc := defScope s_law_holds) (by decide +kernel)) rfl tg_name (by decide) (fun _ _ _ _ _ => (pg_name (i := 7) sc_law_holds.nd rfl (by first | exact Or.inl rfl | exact Or.inr rfl))) (fun _ _ _ _ _ => tsd_nil) (fun _ _ _ _ _ => (dv 7))) (pd_call (ok_law_edges T) (hr.mono (by decide)) (by rfl) T.q4.g_law_edges T.q4.F_law_edges.kp T.q4.b_law_edges (ad_cons (dv 1) (ad_cons (dv 2) ad_nil)))) (pd_lst (ad_cons (pd_call (ok_law_draw T) (hr.mono (by decide)) (by rfl) T.q2.g_law_draw T.q2.F_law_draw.kp T.q2.b_law_draw (ad_cons (dv 0) (ad_cons pd_int ad_nil))) (ad_cons (pd_call (ok_law_far T) (hr.mono (by decide)) (by rfl) T.q2.g_law_far T.q2.F_law_far.kp T.q2.b_law_far (ad_cons (dv 0) ad_nil)) (ad_cons (pd_call (ok_law_far T) (hr.mono (by decide)) (by rfl) T.q2.g_law_far T.q2.F_law_far.kp T.q2.b_law_far (ad_cons (dv 0) ad_nil)) ad_nil))))))
    (sds_cons (sd_for PassesOwn.never rfl (id_seq (dv 6)) (pg_name (i := 7) sc_law_holds.nd rfl (by first | exact Or.inl rfl | exact Or.inr rfl)) tg_name (sds_cons (sd_set (i := 8) sc_law_holds.nd rfl (by first | exact Or.inl rfl | exact Or.inr rfl) (pd_call (ok_law_price T) (hr.mono (by decide)) (by rfl) T.q4.g_law_price T.q4.F_law_price.kp T.q4.b_law_price (ad_cons (dv 1) (ad_cons (dv 2) (ad_cons (dv 3) (ad_cons (dv 7) ad_nil))))))
    (sds_one (sd_if (PW.pt (wd_or (td_cmp (od_ne hr.units) (pd_call (ok_law_value T) (hr.mono (by decide)) (by rfl) T.q3.g_law_value T.q3.F_law_value.kp T.q3.b_law_value (ad_cons (dv 5) (ad_cons (dv 7) ad_nil))) (dv 8) (nomark _)) (wd_or1 (td_cmp (od_ne hr.units) (pd_call (ok_price T) (hr.mono (by decide)) (by rfl) T.q2.g_price T.q2.F_price.kp T.q2.b_price (ad_cons (dv 1) (ad_cons (dv 2) (ad_cons (dv 3) (ad_cons (dv 7) ad_nil))))) (dv 8) (nomark _))))) (sds_one (sd_ret pd_bl)) sds_nil))))
    (sds_one (sd_ret pd_bl))))))))) (rd_law_holds ⟨P, w, K, mg, base, tb⟩)
theorem ok_law_two (T : Tx K mg base tb) : FnOk P w K mg base CX0 4 T.q5.f_law_two T.q5.d_law_two ["state"] (liSp K tb sp_law_two) :=
  Fun.okD T.q5.F_law_two sc_law_two (len_law_two) (t := t_law_two) (fun cdv A outer s H E F0 R0 hr =>
    (sds_cons (sd_set (i := 1) sc_law_two.nd rfl (by first | exact Or.inl rfl | exact Or.inr rfl) (pd_op od_add pd_int (pd_call (ok_law_draw T) (hr.mono (by decide)) (by rfl) T.q2.g_law_draw T.q2.F_law_draw.kp T.q2.b_law_draw (ad_cons (dv 0) (ad_cons pd_int ad_nil)))))
    (sds_cons (sd_set (i := 2) sc_law_two.nd rfl (by first | exact Or.inl rfl | exact Or.inr rfl) (pd_callB (cd_max rfl) (by rfl) T.q6.n_max (by decide +kernel) (ad_cons pd_int (ad_cons (pd_op od_sub (pd_op od_add (pd_op od_fdiv pd_int (dv 1)) (pd_call (ok_law_draw T) (hr.mono (by decide)) (by rfl) T.q2.g_law_draw T.q2.F_law_draw.kp T.q2.b_law_draw (ad_cons (dv 0) (ad_cons pd_int ad_nil)))) pd_int) ad_nil))))
    (sds_cons (sd_set (i := 3) sc_law_two.nd rfl (by first | exact Or.inl rfl | exact Or.inr rfl) (pd_lstM ad_nil))
    (sds_cons (sd_for PassesOwn.never rfl (id_seq (pd_lst (ad_cons (pd_tup (ad_cons pd_str (ad_cons (dv 1) ad_nil))) (ad_cons (pd_tup (ad_cons pd_str (ad_cons (dv 2) ad_nil))) ad_nil)))) (pg_tup rfl (GNames.cons (pg_name (i := 4) sc_law_two.nd rfl (by first | exact Or.inl rfl | exact Or.inr rfl)) (GNames.cons (pg_name (i := 5) sc_law_two.nd rfl (by first | exact Or.inl rfl | exact Or.inr rfl)) GNames.nil rfl) rfl).pgs) (tg_of [4, 5]) (sds_one (sd_expr (pd_append (dv 3) (ad_cons (pd_tup (ad_cons pd_str (ad_cons (dv 4) (ad_cons (pd_call (ok_law_steps T) (hr.mono (by decide)) (by rfl) T.q3.g_law_steps T.q3.F_law_steps.kp T.q3.b_law_steps (ad_cons (dv 0) ad_nil)) (ad_cons (pd_tup (ad_cons (dv 5) (ad_cons (pd_op od_add pd_int (pd_call (ok_law_draw T) (hr.mono (by decide)) (by rfl) T.q2.g_law_draw T.q2.F_law_draw.kp T.q2.b_law_draw (ad_cons (dv 0) (ad_cons pd_int ad_nil)))) ad_nil))) ad_nil))))) ad_nil)))))
    (sds_one (sd_ret (pd_callTy cd_tuple (by rfl) T.q6.n_tuple (by decide +kernel) (ad_cons (dv 3) ad_nil))))))))) (rd_law_two)
theorem ok_law (T : Tx K mg base tb) : FnOk P w K mg base CX0 18 T.q5.f_law T.q5.d_law ["script"] (liSp K tb sp_law) :=
  Fun.okD T.q5.F_law sc_law (len_law) (t := (t_law ⟨P, w, K, mg, base, tb⟩)) (fun cdv A outer s H E F0 R0 hr =>
    (sds_cons (sd_set (i := 1) sc_law.nd rfl (by first | exact Or.inl rfl | exact Or.inr rfl) (pd_call (ok_law_state T) (hr.mono (by decide)) (by rfl) T.q2.g_law_state T.q2.F_law_state.kp T.q2.b_law_state (ad_cons (dv 0) ad_nil)))
    (sds_cons (sd_set (i := 2) sc_law.nd rfl (by first | exact Or.inl rfl | exact Or.inr rfl) (pd_call (ok_law_tariff T) (hr.mono (by decide)) (by rfl) T.q4.g_law_tariff T.q4.F_law_tariff.kp T.q4.b_law_tariff (ad_cons (dv 1) ad_nil)))
    (sds_cons (sd_unp rfl (GNames.cons (pg_name (i := 3) sc_law.nd rfl (by first | exact Or.inl rfl | exact Or.inr rfl)) (GNames.cons (pg_name (i := 4) sc_law.nd rfl (by first | exact Or.inl rfl | exact Or.inr rfl)) GNames.nil rfl) rfl) (pd_call (ok_law_services T) (hr.mono (by decide)) (by rfl) T.q4.g_law_services T.q4.F_law_services.kp T.q4.b_law_services (ad_cons (dv 1) (ad_cons (dv 2) ad_nil))))
    (sds_cons (sd_if (PW.pt (wd_and (td_cmp od_gt (pd_callB cd_len (by rfl) T.q6.n_len PySem.boot_len (ad_cons (dv 4) ad_nil)) pd_int (nomark _)) (wd_and1 (td_cmp od_gt (pd_call (ok_law_periods T) (hr.mono (by decide)) (by rfl) T.q5.g_law_periods T.q5.F_law_periods.kp T.q5.b_law_periods (ad_cons (dv 2) (ad_cons (dv 3) (ad_cons (dv 4) ad_nil)))) pd_int (nomark _))))) (sds_one (sd_set (i := 4) sc_law.nd rfl (by first | exact Or.inl rfl | exact Or.inr rfl) (pd_slice (dv 4) od_none (od_some pd_int)))) sds_nil)
    (sds_cons (sd_if (PW.pt (wd_or (td_not (td_tru (pd_call (ok_law_holds T) (hr.mono (by decide)) (by rfl) T.q5.g_law_holds T.q5.F_law_holds.kp T.q5.b_law_holds (ad_cons (dv 1) (ad_cons (dv 2) (ad_cons (dv 3) (ad_cons (dv 4) ad_nil))))))) (wd_or1 (td_not (td_tru (pd_call (ok_law_holds T) (hr.mono (by decide)) (by rfl) T.q5.g_law_holds T.q5.F_law_holds.kp T.q5.b_law_holds (ad_cons (dv 1) (ad_cons (dv 2) (ad_cons (dv 3) (ad_cons (pd_slice (dv 4) od_none (od_some pd_int)) ad_nil)))))))))) (sds_one (sd_ret pd_bl)) sds_nil)
    (sds_cons (sd_if (td_not (td_tru (pd_call (ok_law_holds T) (hr.mono (by decide)) (by rfl) T.q5.g_law_holds T.q5.F_law_holds.kp T.q5.b_law_holds (ad_cons (dv 1) (ad_cons (pd_call (ok_law_two T) (hr.mono (by decide)) (by rfl) T.q5.g_law_two T.q5.F_law_two.kp T.q5.b_law_two (ad_cons (dv 1) ad_nil)) (ad_cons pd_str (ad_cons (pd_tup (ad_cons pd_str (ad_cons pd_str ad_nil))) ad_nil))))))) (sds_one (sd_ret pd_bl)) sds_nil)
    (sds_cons (sd_set (i := 5) sc_law.nd rfl (by first | exact Or.inl rfl | exact Or.inr rfl) (pd_call (ok_law_name T) (hr.mono (by decide)) (by rfl) T.q2.g_law_name T.q2.F_law_name.kp T.q2.b_law_name (ad_cons (dv 1) ad_nil)))
    (sds_cons (sd_setLcG (i := 6) fin_lst rfl sc_law.nd rfl rfl (sw_true rfl rfl rfl (by decide +kernel)) (id_seq (dv 2)) (blkOk_by (own := [("row", 7)]) (N := n_law) (sc := defScope s_law) (by decide +kernel)) rfl tg_name (by decide) (fun _ _ _ _ _ => (pg_name (i := 7) sc_law.nd rfl (by first | exact Or.inl rfl | exact Or.inr rfl))) (fun _ _ _ _ _ => (tsd_one (td_cmp (od_eq hr.units) (pd_ix (dv 7) pd_int (fun _ _ => rfl)) (dv 3) (nomark _)))) (fun _ _ _ _ _ => (pd_ix (dv 7) pd_int (fun _ _ => rfl))))
    (sds_cons (sd_if (PW.pt (wd_and (td_cmp od_notIn (dv 5) (dv 6) rfl) (wd_and1 (td_cmp (od_ne hr.units) (pd_callX noX (ok_postage T) (hr.mono (by decide)) (by rfl) T.q2.g_postage T.q2.F_postage.kp T.q2.b_postage passL (ad_cons (dv 2) (ad_cons (dv 3) (ad_cons (pd_callTy cd_tuple (by rfl) T.q6.n_tuple (by decide +kernel) (ad_cons (pd_callB cd_sortedS (by rfl) T.q6.n_sorted (by decide +kernel) (ad_cons (pd_op od_add (pd_lst (ad_cons (dv 5) ad_nil)) (pd_callTy cd_list (by rfl) T.q6.n_list (by decide +kernel) (ad_cons (dv 4) ad_nil))) ad_nil)) ad_nil)) ad_nil)))) T.q6.c_NOTHING.pd (nomark _))))) (sds_one (sd_ret pd_bl)) sds_nil)
    (sds_cons (sd_set (i := 8) sc_law.nd rfl (by first | exact Or.inl rfl | exact Or.inr rfl) (pd_slice (pd_op od_add (dv 3) pd_str) od_none (od_some pd_int)))
    (sds_one (sd_ret (pd_or (pd_cmp od_gt (pd_callB cd_len (by rfl) T.q6.n_len PySem.boot_len (ad_cons (pd_lcG fin_lst rfl sc_law.nd (id_seq (dv 2)) (blkOk_by (own := [("row", 7)]) (N := n_law) (sc := defScope s_law) (by decide +kernel)) rfl tg_name (by decide) (fun _ _ _ _ _ => (pg_name (i := 7) sc_law.nd rfl (by first | exact Or.inl rfl | exact Or.inr rfl))) (fun _ _ _ _ _ => (tsd_one (td_cmp (od_eq hr.units) (pd_ix (dv 7) pd_int (fun _ _ => rfl)) (dv 8) (nomark _)))) (fun _ _ _ _ _ => (dv 7))) ad_nil)) pd_int (nomark _)) (pd_one (pd_cmp (od_eq hr.units) (pd_callX noX (ok_postage T) (hr.mono (by decide)) (by rfl) T.q2.g_postage T.q2.F_postage.kp T.q2.b_postage passL (ad_cons (dv 2) (ad_cons (dv 8) (ad_cons (dv 4) ad_nil)))) T.q6.c_NOTHING.pd (nomark _))))))))))))))))) (rd_law ⟨P, w, K, mg, base, tb⟩)
end
set_option maxHeartbeats 8000000 in
theorem all_mk {l : PySem.W.OpenLaw} {w : World} {K : PySem.W.Frag} {h : Heap} {mg : Str → Option Value} {fa : Addr} (X : K.In h) (G : h.Ns mainGlobals mg) (hfa : mg "law" = some (.ref fa))
    {f0 : Addr} {od0 an0 : Option Addr} {sl0 : Array (Option Value)} {oc0 kV0 dc0 pm0 ct0 : Value} {cd0 : Value}
    (a0 : PySem.W.nsIn K mainGlobals "value_at" = some (some (.ref f0)))
    (l0 : K.lookup f0 = some ⟨oc0, od0, .func (PySem.W.fnOf "value_at" "value_at" (defArgs s_value_at) (defBody s_value_at) (defScope s_value_at) .none kV0 dc0 pm0 an0 cd0 ct0), sl0⟩)
    (c0 : PySem.W.codeIn K cd0 "value_at" = true) (k0 : PySem.W.keepIn K (.ref f0) = true)
    {f1 : Addr} {od1 an1 : Option Addr} {sl1 : Array (Option Value)} {oc1 kV1 dc1 pm1 ct1 : Value} {cd1 : Value}
    (a1 : PySem.W.nsIn K mainGlobals "_has_period" = some (some (.ref f1)))
    (l1 : K.lookup f1 = some ⟨oc1, od1, .func (PySem.W.fnOf "_has_period" "_has_period" (defArgs s_has_period) (defBody s_has_period) (defScope s_has_period) .none kV1 dc1 pm1 an1 cd1 ct1), sl1⟩)
    (c1 : PySem.W.codeIn K cd1 "_has_period" = true) (k1 : PySem.W.keepIn K (.ref f1) = true)
    {f2 : Addr} {od2 an2 : Option Addr} {sl2 : Array (Option Value)} {oc2 kV2 dc2 pm2 ct2 : Value} {cd2 : Value}
    (a2 : PySem.W.nsIn K mainGlobals "_shortest_tail" = some (some (.ref f2)))
    (l2 : K.lookup f2 = some ⟨oc2, od2, .func (PySem.W.fnOf "_shortest_tail" "_shortest_tail" (defArgs s_shortest_tail) (defBody s_shortest_tail) (defScope s_shortest_tail) .none kV2 dc2 pm2 an2 cd2 ct2), sl2⟩)
    (c2 : PySem.W.codeIn K cd2 "_shortest_tail" = true) (k2 : PySem.W.keepIn K (.ref f2) = true)
    {f3 : Addr} {od3 an3 : Option Addr} {sl3 : Array (Option Value)} {oc3 kV3 dc3 pm3 ct3 : Value} {cd3 : Value}
    (a3 : PySem.W.nsIn K mainGlobals "_continued" = some (some (.ref f3)))
    (l3 : K.lookup f3 = some ⟨oc3, od3, .func (PySem.W.fnOf "_continued" "_continued" (defArgs s_continued) (defBody s_continued) (defScope s_continued) .none kV3 dc3 pm3 an3 cd3 ct3), sl3⟩)
    (c3 : PySem.W.codeIn K cd3 "_continued" = true) (k3 : PySem.W.keepIn K (.ref f3) = true)
    {f4 : Addr} {od4 an4 : Option Addr} {sl4 : Array (Option Value)} {oc4 kV4 dc4 pm4 ct4 : Value} {cd4 : Value}
    (a4 : PySem.W.nsIn K mainGlobals "normal" = some (some (.ref f4)))
    (l4 : K.lookup f4 = some ⟨oc4, od4, .func (PySem.W.fnOf "normal" "normal" (defArgs s_normal) (defBody s_normal) (defScope s_normal) .none kV4 dc4 pm4 an4 cd4 ct4), sl4⟩)
    (c4 : PySem.W.codeIn K cd4 "normal" = true) (k4 : PySem.W.keepIn K (.ref f4) = true)
    {f5 : Addr} {od5 an5 : Option Addr} {sl5 : Array (Option Value)} {oc5 kV5 dc5 pm5 ct5 : Value} {cd5 : Value}
    (a5 : PySem.W.nsIn K mainGlobals "check_period" = some (some (.ref f5)))
    (l5 : K.lookup f5 = some ⟨oc5, od5, .func (PySem.W.fnOf "check_period" "check_period" (defArgs s_check_period) (defBody s_check_period) (defScope s_check_period) .none kV5 dc5 pm5 an5 cd5 ct5), sl5⟩)
    (c5 : PySem.W.codeIn K cd5 "check_period" = true) (k5 : PySem.W.keepIn K (.ref f5) = true)
    {f6 : Addr} {od6 an6 : Option Addr} {sl6 : Array (Option Value)} {oc6 kV6 dc6 pm6 ct6 : Value} {cd6 : Value}
    (a6 : PySem.W.nsIn K mainGlobals "first_of_class" = some (some (.ref f6)))
    (l6 : K.lookup f6 = some ⟨oc6, od6, .func (PySem.W.fnOf "first_of_class" "first_of_class" (defArgs s_first_of_class) (defBody s_first_of_class) (defScope s_first_of_class) .none kV6 dc6 pm6 an6 cd6 ct6), sl6⟩)
    (c6 : PySem.W.codeIn K cd6 "first_of_class" = true) (k6 : PySem.W.keepIn K (.ref f6) = true)
    {f7 : Addr} {od7 an7 : Option Addr} {sl7 : Array (Option Value)} {oc7 kV7 dc7 pm7 ct7 : Value} {cd7 : Value}
    (a7 : PySem.W.nsIn K mainGlobals "_line" = some (some (.ref f7)))
    (l7 : K.lookup f7 = some ⟨oc7, od7, .func (PySem.W.fnOf "_line" "_line" (defArgs s_line) (defBody s_line) (defScope s_line) .none kV7 dc7 pm7 an7 cd7 ct7), sl7⟩)
    (c7 : PySem.W.codeIn K cd7 "_line" = true) (k7 : PySem.W.keepIn K (.ref f7) = true)
    {f8 : Addr} {od8 an8 : Option Addr} {sl8 : Array (Option Value)} {oc8 kV8 dc8 pm8 ct8 : Value} {cd8 : Value}
    (a8 : PySem.W.nsIn K mainGlobals "assemble" = some (some (.ref f8)))
    (l8 : K.lookup f8 = some ⟨oc8, od8, .func (PySem.W.fnOf "assemble" "assemble" (defArgs s_assemble) (defBody s_assemble) (defScope s_assemble) .none kV8 dc8 pm8 an8 cd8 ct8), sl8⟩)
    (c8 : PySem.W.codeIn K cd8 "assemble" = true) (k8 : PySem.W.keepIn K (.ref f8) = true)
    {f9 : Addr} {od9 an9 : Option Addr} {sl9 : Array (Option Value)} {oc9 kV9 dc9 pm9 ct9 : Value} {cd9 : Value}
    (a9 : PySem.W.nsIn K mainGlobals "common_starts" = some (some (.ref f9)))
    (l9 : K.lookup f9 = some ⟨oc9, od9, .func (PySem.W.fnOf "common_starts" "common_starts" (defArgs s_common_starts) (defBody s_common_starts) (defScope s_common_starts) .none kV9 dc9 pm9 an9 cd9 ct9), sl9⟩)
    (c9 : PySem.W.codeIn K cd9 "common_starts" = true) (k9 : PySem.W.keepIn K (.ref f9) = true)
    {f10 : Addr} {od10 an10 : Option Addr} {sl10 : Array (Option Value)} {oc10 kV10 dc10 pm10 ct10 : Value} {cd10 : Value}
    (a10 : PySem.W.nsIn K mainGlobals "common_period" = some (some (.ref f10)))
    (l10 : K.lookup f10 = some ⟨oc10, od10, .func (PySem.W.fnOf "common_period" "common_period" (defArgs s_common_period) (defBody s_common_period) (defScope s_common_period) .none kV10 dc10 pm10 an10 cd10 ct10), sl10⟩)
    (c10 : PySem.W.codeIn K cd10 "common_period" = true) (k10 : PySem.W.keepIn K (.ref f10) = true)
    {f11 : Addr} {od11 an11 : Option Addr} {sl11 : Array (Option Value)} {oc11 kV11 dc11 pm11 ct11 : Value} {cd11 : Value}
    (a11 : PySem.W.nsIn K mainGlobals "_added" = some (some (.ref f11)))
    (l11 : K.lookup f11 = some ⟨oc11, od11, .func (PySem.W.fnOf "_added" "_added" (defArgs s_added) (defBody s_added) (defScope s_added) .none kV11 dc11 pm11 an11 cd11 ct11), sl11⟩)
    (c11 : PySem.W.codeIn K cd11 "_added" = true) (k11 : PySem.W.keepIn K (.ref f11) = true)
    {f12 : Addr} {od12 an12 : Option Addr} {sl12 : Array (Option Value)} {oc12 kV12 dc12 pm12 ct12 : Value} {cd12 : Addr}
    (a12 : PySem.W.nsIn K mainGlobals "_even" = some (some (.ref f12)))
    (l12 : K.lookup f12 = some ⟨oc12, od12, .func (PySem.W.fnOf "_even" "_even" (defArgs s_even) (defBody s_even) (defScope s_even) .none kV12 dc12 pm12 an12 (.ref cd12) ct12), sl12⟩)
    (c12 : PySem.W.codeIn K (.ref cd12) "_even" = true) (k12 : PySem.W.keepIn K (.ref f12) = true)
    {xc12 : Value} {xd12 : Option Addr} {xv12 : Array Value} {xn12 : Array (Option Value)} {pp12 : Addr} (o12 : K.lookup cd12 = some ⟨xc12, xd12, .fields xv12, xn12⟩) (v12 : xv12[11]? = some (.ref pp12)) (h12 : PySem.W.codeHdIn K cd12 pp12 = true) (n12 : K.lookup pp12 = none) (t12 : h.get? pp12 = some (PySem.W.tabObj #[]))
    {f13 : Addr} {od13 an13 : Option Addr} {sl13 : Array (Option Value)} {oc13 kV13 dc13 pm13 ct13 : Value} {cd13 : Value}
    (a13 : PySem.W.nsIn K mainGlobals "sum_of" = some (some (.ref f13)))
    (l13 : K.lookup f13 = some ⟨oc13, od13, .func (PySem.W.fnOf "sum_of" "sum_of" (defArgs s_sum_of) (defBody s_sum_of) (defScope s_sum_of) .none kV13 dc13 pm13 an13 cd13 ct13), sl13⟩)
    (c13 : PySem.W.codeIn K cd13 "sum_of" = true) (k13 : PySem.W.keepIn K (.ref f13) = true)
    {f14 : Addr} {od14 an14 : Option Addr} {sl14 : Array (Option Value)} {oc14 kV14 dc14 pm14 ct14 : Value} {cd14 : Value}
    (a14 : PySem.W.nsIn K mainGlobals "_last_step" = some (some (.ref f14)))
    (l14 : K.lookup f14 = some ⟨oc14, od14, .func (PySem.W.fnOf "_last_step" "_last_step" (defArgs s_last_step) (defBody s_last_step) (defScope s_last_step) .none kV14 dc14 pm14 an14 cd14 ct14), sl14⟩)
    (c14 : PySem.W.codeIn K cd14 "_last_step" = true) (k14 : PySem.W.keepIn K (.ref f14) = true)
    {f15 : Addr} {od15 an15 : Option Addr} {sl15 : Array (Option Value)} {oc15 kV15 dc15 pm15 ct15 : Value} {cd15 : Value}
    (a15 : PySem.W.nsIn K mainGlobals "_row_price" = some (some (.ref f15)))
    (l15 : K.lookup f15 = some ⟨oc15, od15, .func (PySem.W.fnOf "_row_price" "_row_price" (defArgs s_row_price) (defBody s_row_price) (defScope s_row_price) .none kV15 dc15 pm15 an15 cd15 ct15), sl15⟩)
    (c15 : PySem.W.codeIn K cd15 "_row_price" = true) (k15 : PySem.W.keepIn K (.ref f15) = true)
    {f16 : Addr} {od16 an16 : Option Addr} {sl16 : Array (Option Value)} {oc16 kV16 dc16 pm16 ct16 : Value} {cd16 : Value}
    (a16 : PySem.W.nsIn K mainGlobals "_rows_for" = some (some (.ref f16)))
    (l16 : K.lookup f16 = some ⟨oc16, od16, .func (PySem.W.fnOf "_rows_for" "_rows_for" (defArgs s_rows_for) (defBody s_rows_for) (defScope s_rows_for) .none kV16 dc16 pm16 an16 cd16 ct16), sl16⟩)
    (c16 : PySem.W.codeIn K cd16 "_rows_for" = true) (k16 : PySem.W.keepIn K (.ref f16) = true)
    {f17 : Addr} {od17 an17 : Option Addr} {sl17 : Array (Option Value)} {oc17 kV17 dc17 pm17 ct17 : Value} {cd17 : Value}
    (a17 : PySem.W.nsIn K mainGlobals "price" = some (some (.ref f17)))
    (l17 : K.lookup f17 = some ⟨oc17, od17, .func (PySem.W.fnOf "price" "price" (defArgs s_price) (defBody s_price) (defScope s_price) .none kV17 dc17 pm17 an17 cd17 ct17), sl17⟩)
    (c17 : PySem.W.codeIn K cd17 "price" = true) (k17 : PySem.W.keepIn K (.ref f17) = true)
    {f18 : Addr} {od18 an18 : Option Addr} {sl18 : Array (Option Value)} {oc18 kV18 dc18 pm18 ct18 : Value} {cd18 : Value}
    (a18 : PySem.W.nsIn K mainGlobals "_row_form" = some (some (.ref f18)))
    (l18 : K.lookup f18 = some ⟨oc18, od18, .func (PySem.W.fnOf "_row_form" "_row_form" (defArgs s_row_form) (defBody s_row_form) (defScope s_row_form) .none kV18 dc18 pm18 an18 cd18 ct18), sl18⟩)
    (c18 : PySem.W.codeIn K cd18 "_row_form" = true) (k18 : PySem.W.keepIn K (.ref f18) = true)
    {f19 : Addr} {od19 an19 : Option Addr} {sl19 : Array (Option Value)} {oc19 kV19 dc19 pm19 ct19 : Value} {cd19 : Value}
    (a19 : PySem.W.nsIn K mainGlobals "postage" = some (some (.ref f19)))
    (l19 : K.lookup f19 = some ⟨oc19, od19, .func (PySem.W.fnOf "postage" "postage" (defArgs s_postage) (defBody s_postage) (defScope s_postage) .none kV19 dc19 pm19 an19 cd19 ct19), sl19⟩)
    (c19 : PySem.W.codeIn K cd19 "postage" = true) (k19 : PySem.W.keepIn K (.ref f19) = true)
    {f20 : Addr} {od20 an20 : Option Addr} {sl20 : Array (Option Value)} {oc20 kV20 dc20 pm20 ct20 : Value} {cd20 : Value}
    (a20 : PySem.W.nsIn K mainGlobals "_law_state" = some (some (.ref f20)))
    (l20 : K.lookup f20 = some ⟨oc20, od20, .func (PySem.W.fnOf "_law_state" "_law_state" (defArgs s_law_state) (defBody s_law_state) (defScope s_law_state) .none kV20 dc20 pm20 an20 cd20 ct20), sl20⟩)
    (c20 : PySem.W.codeIn K cd20 "_law_state" = true) (k20 : PySem.W.keepIn K (.ref f20) = true)
    {f21 : Addr} {od21 an21 : Option Addr} {sl21 : Array (Option Value)} {oc21 kV21 dc21 pm21 ct21 : Value} {cd21 : Value}
    (a21 : PySem.W.nsIn K mainGlobals "_law_draw" = some (some (.ref f21)))
    (l21 : K.lookup f21 = some ⟨oc21, od21, .func (PySem.W.fnOf "_law_draw" "_law_draw" (defArgs s_law_draw) (defBody s_law_draw) (defScope s_law_draw) .none kV21 dc21 pm21 an21 cd21 ct21), sl21⟩)
    (c21 : PySem.W.codeIn K cd21 "_law_draw" = true) (k21 : PySem.W.keepIn K (.ref f21) = true)
    {f22 : Addr} {od22 an22 : Option Addr} {sl22 : Array (Option Value)} {oc22 kV22 dc22 pm22 ct22 : Value} {cd22 : Value}
    (a22 : PySem.W.nsIn K mainGlobals "_law_far" = some (some (.ref f22)))
    (l22 : K.lookup f22 = some ⟨oc22, od22, .func (PySem.W.fnOf "_law_far" "_law_far" (defArgs s_law_far) (defBody s_law_far) (defScope s_law_far) .none kV22 dc22 pm22 an22 cd22 ct22), sl22⟩)
    (c22 : PySem.W.codeIn K cd22 "_law_far" = true) (k22 : PySem.W.keepIn K (.ref f22) = true)
    {f23 : Addr} {od23 an23 : Option Addr} {sl23 : Array (Option Value)} {oc23 kV23 dc23 pm23 ct23 : Value} {cd23 : Value}
    (a23 : PySem.W.nsIn K mainGlobals "_law_name" = some (some (.ref f23)))
    (l23 : K.lookup f23 = some ⟨oc23, od23, .func (PySem.W.fnOf "_law_name" "_law_name" (defArgs s_law_name) (defBody s_law_name) (defScope s_law_name) .none kV23 dc23 pm23 an23 cd23 ct23), sl23⟩)
    (c23 : PySem.W.codeIn K cd23 "_law_name" = true) (k23 : PySem.W.keepIn K (.ref f23) = true)
    {f24 : Addr} {od24 an24 : Option Addr} {sl24 : Array (Option Value)} {oc24 kV24 dc24 pm24 ct24 : Value} {cd24 : Value}
    (a24 : PySem.W.nsIn K mainGlobals "_law_value" = some (some (.ref f24)))
    (l24 : K.lookup f24 = some ⟨oc24, od24, .func (PySem.W.fnOf "_law_value" "_law_value" (defArgs s_law_value) (defBody s_law_value) (defScope s_law_value) .none kV24 dc24 pm24 an24 cd24 ct24), sl24⟩)
    (c24 : PySem.W.codeIn K cd24 "_law_value" = true) (k24 : PySem.W.keepIn K (.ref f24) = true)
    {f25 : Addr} {od25 an25 : Option Addr} {sl25 : Array (Option Value)} {oc25 kV25 dc25 pm25 ct25 : Value} {cd25 : Value}
    (a25 : PySem.W.nsIn K mainGlobals "_law_int" = some (some (.ref f25)))
    (l25 : K.lookup f25 = some ⟨oc25, od25, .func (PySem.W.fnOf "_law_int" "_law_int" (defArgs s_law_int) (defBody s_law_int) (defScope s_law_int) .none kV25 dc25 pm25 an25 cd25 ct25), sl25⟩)
    (c25 : PySem.W.codeIn K cd25 "_law_int" = true) (k25 : PySem.W.keepIn K (.ref f25) = true)
    {f26 : Addr} {od26 an26 : Option Addr} {sl26 : Array (Option Value)} {oc26 kV26 dc26 pm26 ct26 : Value} {cd26 : Value}
    (a26 : PySem.W.nsIn K mainGlobals "_law_is_form" = some (some (.ref f26)))
    (l26 : K.lookup f26 = some ⟨oc26, od26, .func (PySem.W.fnOf "_law_is_form" "_law_is_form" (defArgs s_law_is_form) (defBody s_law_is_form) (defScope s_law_is_form) .none kV26 dc26 pm26 an26 cd26 ct26), sl26⟩)
    (c26 : PySem.W.codeIn K cd26 "_law_is_form" = true) (k26 : PySem.W.keepIn K (.ref f26) = true)
    {f27 : Addr} {od27 an27 : Option Addr} {sl27 : Array (Option Value)} {oc27 kV27 dc27 pm27 ct27 : Value} {cd27 : Value}
    (a27 : PySem.W.nsIn K mainGlobals "_law_is_even" = some (some (.ref f27)))
    (l27 : K.lookup f27 = some ⟨oc27, od27, .func (PySem.W.fnOf "_law_is_even" "_law_is_even" (defArgs s_law_is_even) (defBody s_law_is_even) (defScope s_law_is_even) .none kV27 dc27 pm27 an27 cd27 ct27), sl27⟩)
    (c27 : PySem.W.codeIn K cd27 "_law_is_even" = true) (k27 : PySem.W.keepIn K (.ref f27) = true)
    {f28 : Addr} {od28 an28 : Option Addr} {sl28 : Array (Option Value)} {oc28 kV28 dc28 pm28 ct28 : Value} {cd28 : Value}
    (a28 : PySem.W.nsIn K mainGlobals "_law_is_normal" = some (some (.ref f28)))
    (l28 : K.lookup f28 = some ⟨oc28, od28, .func (PySem.W.fnOf "_law_is_normal" "_law_is_normal" (defArgs s_law_is_normal) (defBody s_law_is_normal) (defScope s_law_is_normal) .none kV28 dc28 pm28 an28 cd28 ct28), sl28⟩)
    (c28 : PySem.W.codeIn K cd28 "_law_is_normal" = true) (k28 : PySem.W.keepIn K (.ref f28) = true)
    {f29 : Addr} {od29 an29 : Option Addr} {sl29 : Array (Option Value)} {oc29 kV29 dc29 pm29 ct29 : Value} {cd29 : Value}
    (a29 : PySem.W.nsIn K mainGlobals "_law_amount" = some (some (.ref f29)))
    (l29 : K.lookup f29 = some ⟨oc29, od29, .func (PySem.W.fnOf "_law_amount" "_law_amount" (defArgs s_law_amount) (defBody s_law_amount) (defScope s_law_amount) .none kV29 dc29 pm29 an29 cd29 ct29), sl29⟩)
    (c29 : PySem.W.codeIn K cd29 "_law_amount" = true) (k29 : PySem.W.keepIn K (.ref f29) = true)
    {f30 : Addr} {od30 an30 : Option Addr} {sl30 : Array (Option Value)} {oc30 kV30 dc30 pm30 ct30 : Value} {cd30 : Value}
    (a30 : PySem.W.nsIn K mainGlobals "_law_steps" = some (some (.ref f30)))
    (l30 : K.lookup f30 = some ⟨oc30, od30, .func (PySem.W.fnOf "_law_steps" "_law_steps" (defArgs s_law_steps) (defBody s_law_steps) (defScope s_law_steps) .none kV30 dc30 pm30 an30 cd30 ct30), sl30⟩)
    (c30 : PySem.W.codeIn K cd30 "_law_steps" = true) (k30 : PySem.W.keepIn K (.ref f30) = true)
    {f31 : Addr} {od31 an31 : Option Addr} {sl31 : Array (Option Value)} {oc31 kV31 dc31 pm31 ct31 : Value} {cd31 : Value}
    (a31 : PySem.W.nsIn K mainGlobals "_law_more" = some (some (.ref f31)))
    (l31 : K.lookup f31 = some ⟨oc31, od31, .func (PySem.W.fnOf "_law_more" "_law_more" (defArgs s_law_more) (defBody s_law_more) (defScope s_law_more) .none kV31 dc31 pm31 an31 cd31 ct31), sl31⟩)
    (c31 : PySem.W.codeIn K cd31 "_law_more" = true) (k31 : PySem.W.keepIn K (.ref f31) = true)
    {f32 : Addr} {od32 an32 : Option Addr} {sl32 : Array (Option Value)} {oc32 kV32 dc32 pm32 ct32 : Value} {cd32 : Value}
    (a32 : PySem.W.nsIn K mainGlobals "_law_some_names" = some (some (.ref f32)))
    (l32 : K.lookup f32 = some ⟨oc32, od32, .func (PySem.W.fnOf "_law_some_names" "_law_some_names" (defArgs s_law_some_names) (defBody s_law_some_names) (defScope s_law_some_names) .none kV32 dc32 pm32 an32 cd32 ct32), sl32⟩)
    (c32 : PySem.W.codeIn K cd32 "_law_some_names" = true) (k32 : PySem.W.keepIn K (.ref f32) = true)
    {f33 : Addr} {od33 an33 : Option Addr} {sl33 : Array (Option Value)} {oc33 kV33 dc33 pm33 ct33 : Value} {cd33 : Value}
    (a33 : PySem.W.nsIn K mainGlobals "_law_tariff" = some (some (.ref f33)))
    (l33 : K.lookup f33 = some ⟨oc33, od33, .func (PySem.W.fnOf "_law_tariff" "_law_tariff" (defArgs s_law_tariff) (defBody s_law_tariff) (defScope s_law_tariff) .none kV33 dc33 pm33 an33 cd33 ct33), sl33⟩)
    (c33 : PySem.W.codeIn K cd33 "_law_tariff" = true) (k33 : PySem.W.keepIn K (.ref f33) = true)
    {f34 : Addr} {od34 an34 : Option Addr} {sl34 : Array (Option Value)} {oc34 kV34 dc34 pm34 ct34 : Value} {cd34 : Value}
    (a34 : PySem.W.nsIn K mainGlobals "_law_row_price" = some (some (.ref f34)))
    (l34 : K.lookup f34 = some ⟨oc34, od34, .func (PySem.W.fnOf "_law_row_price" "_law_row_price" (defArgs s_law_row_price) (defBody s_law_row_price) (defScope s_law_row_price) .none kV34 dc34 pm34 an34 cd34 ct34), sl34⟩)
    (c34 : PySem.W.codeIn K cd34 "_law_row_price" = true) (k34 : PySem.W.keepIn K (.ref f34) = true)
    {f35 : Addr} {od35 an35 : Option Addr} {sl35 : Array (Option Value)} {oc35 kV35 dc35 pm35 ct35 : Value} {cd35 : Value}
    (a35 : PySem.W.nsIn K mainGlobals "_law_price" = some (some (.ref f35)))
    (l35 : K.lookup f35 = some ⟨oc35, od35, .func (PySem.W.fnOf "_law_price" "_law_price" (defArgs s_law_price) (defBody s_law_price) (defScope s_law_price) .none kV35 dc35 pm35 an35 cd35 ct35), sl35⟩)
    (c35 : PySem.W.codeIn K cd35 "_law_price" = true) (k35 : PySem.W.keepIn K (.ref f35) = true)
    {f36 : Addr} {od36 an36 : Option Addr} {sl36 : Array (Option Value)} {oc36 kV36 dc36 pm36 ct36 : Value} {cd36 : Value}
    (a36 : PySem.W.nsIn K mainGlobals "_law_services" = some (some (.ref f36)))
    (l36 : K.lookup f36 = some ⟨oc36, od36, .func (PySem.W.fnOf "_law_services" "_law_services" (defArgs s_law_services) (defBody s_law_services) (defScope s_law_services) .none kV36 dc36 pm36 an36 cd36 ct36), sl36⟩)
    (c36 : PySem.W.codeIn K cd36 "_law_services" = true) (k36 : PySem.W.keepIn K (.ref f36) = true)
    {f37 : Addr} {od37 an37 : Option Addr} {sl37 : Array (Option Value)} {oc37 kV37 dc37 pm37 ct37 : Value} {cd37 : Value}
    (a37 : PySem.W.nsIn K mainGlobals "_law_edges" = some (some (.ref f37)))
    (l37 : K.lookup f37 = some ⟨oc37, od37, .func (PySem.W.fnOf "_law_edges" "_law_edges" (defArgs s_law_edges) (defBody s_law_edges) (defScope s_law_edges) .none kV37 dc37 pm37 an37 cd37 ct37), sl37⟩)
    (c37 : PySem.W.codeIn K cd37 "_law_edges" = true) (k37 : PySem.W.keepIn K (.ref f37) = true)
    {f38 : Addr} {od38 an38 : Option Addr} {sl38 : Array (Option Value)} {oc38 kV38 dc38 pm38 ct38 : Value} {cd38 : Value}
    (a38 : PySem.W.nsIn K mainGlobals "_law_common" = some (some (.ref f38)))
    (l38 : K.lookup f38 = some ⟨oc38, od38, .func (PySem.W.fnOf "_law_common" "_law_common" (defArgs s_law_common) (defBody s_law_common) (defScope s_law_common) .none kV38 dc38 pm38 an38 cd38 ct38), sl38⟩)
    (c38 : PySem.W.codeIn K cd38 "_law_common" = true) (k38 : PySem.W.keepIn K (.ref f38) = true)
    {f39 : Addr} {od39 an39 : Option Addr} {sl39 : Array (Option Value)} {oc39 kV39 dc39 pm39 ct39 : Value} {cd39 : Value}
    (a39 : PySem.W.nsIn K mainGlobals "_law_period" = some (some (.ref f39)))
    (l39 : K.lookup f39 = some ⟨oc39, od39, .func (PySem.W.fnOf "_law_period" "_law_period" (defArgs s_law_period) (defBody s_law_period) (defScope s_law_period) .none kV39 dc39 pm39 an39 cd39 ct39), sl39⟩)
    (c39 : PySem.W.codeIn K cd39 "_law_period" = true) (k39 : PySem.W.keepIn K (.ref f39) = true)
    {f40 : Addr} {od40 an40 : Option Addr} {sl40 : Array (Option Value)} {oc40 kV40 dc40 pm40 ct40 : Value} {cd40 : Value}
    (a40 : PySem.W.nsIn K mainGlobals "_law_periods" = some (some (.ref f40)))
    (l40 : K.lookup f40 = some ⟨oc40, od40, .func (PySem.W.fnOf "_law_periods" "_law_periods" (defArgs s_law_periods) (defBody s_law_periods) (defScope s_law_periods) .none kV40 dc40 pm40 an40 cd40 ct40), sl40⟩)
    (c40 : PySem.W.codeIn K cd40 "_law_periods" = true) (k40 : PySem.W.keepIn K (.ref f40) = true)
    {f41 : Addr} {od41 an41 : Option Addr} {sl41 : Array (Option Value)} {oc41 kV41 dc41 pm41 ct41 : Value} {cd41 : Value}
    (a41 : PySem.W.nsIn K mainGlobals "_law_told" = some (some (.ref f41)))
    (l41 : K.lookup f41 = some ⟨oc41, od41, .func (PySem.W.fnOf "_law_told" "_law_told" (defArgs s_law_told) (defBody s_law_told) (defScope s_law_told) .none kV41 dc41 pm41 an41 cd41 ct41), sl41⟩)
    (c41 : PySem.W.codeIn K cd41 "_law_told" = true) (k41 : PySem.W.keepIn K (.ref f41) = true)
    {f42 : Addr} {od42 an42 : Option Addr} {sl42 : Array (Option Value)} {oc42 kV42 dc42 pm42 ct42 : Value} {cd42 : Value}
    (a42 : PySem.W.nsIn K mainGlobals "_law_holds" = some (some (.ref f42)))
    (l42 : K.lookup f42 = some ⟨oc42, od42, .func (PySem.W.fnOf "_law_holds" "_law_holds" (defArgs s_law_holds) (defBody s_law_holds) (defScope s_law_holds) .none kV42 dc42 pm42 an42 cd42 ct42), sl42⟩)
    (c42 : PySem.W.codeIn K cd42 "_law_holds" = true) (k42 : PySem.W.keepIn K (.ref f42) = true)
    {f43 : Addr} {od43 an43 : Option Addr} {sl43 : Array (Option Value)} {oc43 kV43 dc43 pm43 ct43 : Value} {cd43 : Value}
    (a43 : PySem.W.nsIn K mainGlobals "_law_two" = some (some (.ref f43)))
    (l43 : K.lookup f43 = some ⟨oc43, od43, .func (PySem.W.fnOf "_law_two" "_law_two" (defArgs s_law_two) (defBody s_law_two) (defScope s_law_two) .none kV43 dc43 pm43 an43 cd43 ct43), sl43⟩)
    (c43 : PySem.W.codeIn K cd43 "_law_two" = true) (k43 : PySem.W.keepIn K (.ref f43) = true)
    {f44 : Addr} {od44 an44 : Option Addr} {sl44 : Array (Option Value)} {oc44 kV44 dc44 pm44 ct44 : Value} {cd44 : Value}
    (a44 : PySem.W.nsIn K mainGlobals "law" = some (some (.ref f44)))
    (l44 : K.lookup f44 = some ⟨oc44, od44, .func (PySem.W.fnOf "law" "law" (defArgs s_law) (defBody s_law) (defScope s_law) .none kV44 dc44 pm44 an44 cd44 ct44), sl44⟩)
    (c44 : PySem.W.codeIn K cd44 "law" = true) (k44 : PySem.W.keepIn K (.ref f44) = true)
    (z_all : PySem.W.nsIn K mainGlobals "all" = some none)
    (z_bool : PySem.W.nsIn K mainGlobals "bool" = some none)
    (z_int : PySem.W.nsIn K mainGlobals "int" = some none)
    (z_isinstance : PySem.W.nsIn K mainGlobals "isinstance" = some none)
    (z_len : PySem.W.nsIn K mainGlobals "len" = some none)
    (z_list : PySem.W.nsIn K mainGlobals "list" = some none)
    (z_max : PySem.W.nsIn K mainGlobals "max" = some none)
    (z_range : PySem.W.nsIn K mainGlobals "range" = some none)
    (z_sorted : PySem.W.nsIn K mainGlobals "sorted" = some none)
    (z_sum : PySem.W.nsIn K mainGlobals "sum" = some none)
    (z_tuple : PySem.W.nsIn K mainGlobals "tuple" = some none)
    (v_lcm : PySem.W.nsIn K mainGlobals "lcm" = some (some (.builtin "math.lcm")))
    {xc_TooLarge : Addr} (xg_TooLarge : PySem.W.nsIn K mainGlobals "TooLarge" = some (some (.ref xc_TooLarge))) (xq_TooLarge : PySem.W.excIn K xc_TooLarge [.type "ValueError", .type "Exception", .type "BaseException", .type "object"] "ValueError.__new__" = true) (xk_TooLarge : PySem.W.keepIn K (.ref xc_TooLarge) = true) (xs_TooLarge : PySem.W.subIn K (.ref xc_TooLarge) (.type "BaseException") = some true) (xt_TooLarge : PySem.W.typeIn K (.ref xc_TooLarge) = some (.type "type")) (xi_TooLarge : PySem.W.isClsIn K xc_TooLarge = true) (xr_TooLarge : PySem.W.subIn K (.ref xc_TooLarge) (.ref xc_TooLarge) = some true)
    {tk_MAX_HEAD : Tok} (y_MAX_HEAD : PySem.W.nsIn K mainGlobals "MAX_HEAD" = some (some (.int (4000) tk_MAX_HEAD)))
    {tk_MAX_PERIOD : Tok} (y_MAX_PERIOD : PySem.W.nsIn K mainGlobals "MAX_PERIOD" = some (some (.int (1000) tk_MAX_PERIOD)))
    {ad_NOTHING nn_NOTHING : Nat} {od_NOTHING : Option Addr} {sl_NOTHING : Array (Option Value)} {ad_NOTHING_0 nn_NOTHING_0 : Nat} {od_NOTHING_0 : Option Addr} {sl_NOTHING_0 : Array (Option Value)} {ad_NOTHING_1 nn_NOTHING_1 : Nat} {od_NOTHING_1 : Option Addr} {sl_NOTHING_1 : Array (Option Value)} {ad_NOTHING_1_0 nn_NOTHING_1_0 : Nat} {od_NOTHING_1_0 : Option Addr} {sl_NOTHING_1_0 : Array (Option Value)} {tk_NOTHING_1_0_1 : Tok} (y_NOTHING : PySem.W.nsIn K mainGlobals "NOTHING" = some (some (.ref ad_NOTHING))) (w_NOTHING : K.lookup ad_NOTHING = some ⟨.type "tuple", od_NOTHING, .seq #[.ref ad_NOTHING_0, .ref ad_NOTHING_1] nn_NOTHING, sl_NOTHING⟩) (w_NOTHING_0 : K.lookup ad_NOTHING_0 = some ⟨.type "tuple", od_NOTHING_0, .seq #[] nn_NOTHING_0, sl_NOTHING_0⟩) (w_NOTHING_1 : K.lookup ad_NOTHING_1 = some ⟨.type "tuple", od_NOTHING_1, .seq #[.ref ad_NOTHING_1_0] nn_NOTHING_1, sl_NOTHING_1⟩) (w_NOTHING_1_0 : K.lookup ad_NOTHING_1_0 = some ⟨.type "tuple", od_NOTHING_1_0, .seq #[.none, .int (0) tk_NOTHING_1_0_1] nn_NOTHING_1_0, sl_NOTHING_1_0⟩)
    (dj : ∀ p ∈ ([(pp12, ("_even" : Str) ++ ".<locals>." ++ "<lambda>")] : List (Addr × Str)), ([(pp12, ("_even" : Str) ++ ".<locals>." ++ "<lambda>")] : List (Addr × Str)).lookup p.1 = some p.2) :
    LamX.LawAtS l w K CX0 18 63 "script" mg fa h := by
  have e := hfa.symm.trans (PySem.W.mg_of X G a44)
  cases e
  have F0 := fun_mk (st := s_value_at) l0 c0 k0
  have F1 := fun_mk (st := s_has_period) l1 c1 k1
  have F2 := fun_mk (st := s_shortest_tail) l2 c2 k2
  have F3 := fun_mk (st := s_continued) l3 c3 k3
  have F4 := fun_mk (st := s_normal) l4 c4 k4
  have F5 := fun_mk (st := s_check_period) l5 c5 k5
  have F6 := fun_mk (st := s_first_of_class) l6 c6 k6
  have F7 := fun_mk (st := s_line) l7 c7 k7
  have F8 := fun_mk (st := s_assemble) l8 c8 k8
  have F9 := fun_mk (st := s_common_starts) l9 c9 k9
  have F10 := fun_mk (st := s_common_period) l10 c10 k10
  have F11 := fun_mk (st := s_added) l11 c11 k11
  have F12 := funC_mk (st := s_even) l12 c12 k12
  have F13 := fun_mk (st := s_sum_of) l13 c13 k13
  have F14 := fun_mk (st := s_last_step) l14 c14 k14
  have F15 := fun_mk (st := s_row_price) l15 c15 k15
  have F16 := fun_mk (st := s_rows_for) l16 c16 k16
  have F17 := fun_mk (st := s_price) l17 c17 k17
  have F18 := fun_mk (st := s_row_form) l18 c18 k18
  have F19 := fun_mk (st := s_postage) l19 c19 k19
  have F20 := fun_mk (st := s_law_state) l20 c20 k20
  have F21 := fun_mk (st := s_law_draw) l21 c21 k21
  have F22 := fun_mk (st := s_law_far) l22 c22 k22
  have F23 := fun_mk (st := s_law_name) l23 c23 k23
  have F24 := fun_mk (st := s_law_value) l24 c24 k24
  have F25 := fun_mk (st := s_law_int) l25 c25 k25
  have F26 := fun_mk (st := s_law_is_form) l26 c26 k26
  have F27 := fun_mk (st := s_law_is_even) l27 c27 k27
  have F28 := fun_mk (st := s_law_is_normal) l28 c28 k28
  have F29 := fun_mk (st := s_law_amount) l29 c29 k29
  have F30 := fun_mk (st := s_law_steps) l30 c30 k30
  have F31 := fun_mk (st := s_law_more) l31 c31 k31
  have F32 := fun_mk (st := s_law_some_names) l32 c32 k32
  have F33 := fun_mk (st := s_law_tariff) l33 c33 k33
  have F34 := fun_mk (st := s_law_row_price) l34 c34 k34
  have F35 := fun_mk (st := s_law_price) l35 c35 k35
  have F36 := fun_mk (st := s_law_services) l36 c36 k36
  have F37 := fun_mk (st := s_law_edges) l37 c37 k37
  have F38 := fun_mk (st := s_law_common) l38 c38 k38
  have F39 := fun_mk (st := s_law_period) l39 c39 k39
  have F40 := fun_mk (st := s_law_periods) l40 c40 k40
  have F41 := fun_mk (st := s_law_told) l41 c41 k41
  have F42 := fun_mk (st := s_law_holds) l42 c42 k42
  have F43 := fun_mk (st := s_law_two) l43 c43 k43
  have F44 := fun_mk (st := s_law) l44 c44 k44
  refine ⟨(PySem.W.fnOf "law" "law" (defArgs s_law) (defBody s_law) (defScope s_law) .none kV44 dc44 pm44 an44 cd44 ct44), [(cd12, pp12)], liSp K [(pp12, ("_even" : Str) ++ ".<locals>." ++ "<lambda>")] sp_law, ?_, ?_, ?_, fun s v => .of_eq rfl, fun H a ns hl _ hH hS => law_sp dj ?_ hl hS, fun base KX GX hB => ?_⟩
  · intro p hp; simp only [List.mem_cons, List.not_mem_nil, or_false] at hp; rcases hp with rfl
    · exact t12
  · intro p hp; simp only [List.mem_cons, List.not_mem_nil, or_false] at hp; rcases hp with rfl
    · exact n12
  · intro p hp; simp only [List.mem_cons, List.not_mem_nil, or_false] at hp; rcases hp with rfl
    · exact PySem.W.codeHd_of_K X h12
  · intro p hp; simp only [List.mem_cons, List.not_mem_nil, or_false] at hp; rcases hp with rfl
    · exact LamX.TabS.nil (hH (cd12, pp12) (by simp))
  let T : Tx K mg base [(pp12, ("_even" : Str) ++ ".<locals>." ++ "<lambda>")] := {
    q0 := {
    f_value_at := _
    d_value_at := _
    F_value_at := F0
    g_value_at := PySem.W.mg_of X G a0
    b_value_at := ((F0).binds (ps := ["form", "x"]) fun _ _ _ _ _ _ us hl => match us, hl with | [_, _], _ => rfl)
    f_has_period := _
    d_has_period := _
    F_has_period := F1
    g_has_period := PySem.W.mg_of X G a1
    b_has_period := ((F1).binds (ps := ["tail", "size"]) fun _ _ _ _ _ _ us hl => match us, hl with | [_, _], _ => rfl)
    f_shortest_tail := _
    d_shortest_tail := _
    F_shortest_tail := F2
    g_shortest_tail := PySem.W.mg_of X G a2
    b_shortest_tail := ((F2).binds (ps := ["tail"]) fun _ _ _ _ _ _ us hl => match us, hl with | [_], _ => rfl)
    f_continued := _
    d_continued := _
    F_continued := F3
    g_continued := PySem.W.mg_of X G a3
    b_continued := ((F3).binds (ps := ["tail", "places"]) fun _ _ _ _ _ _ us hl => match us, hl with | [_, _], _ => rfl)
    f_normal := _
    d_normal := _
    F_normal := F4
    g_normal := PySem.W.mg_of X G a4
    b_normal := ((F4).binds (ps := ["form"]) fun _ _ _ _ _ _ us hl => match us, hl with | [_], _ => rfl)
    f_check_period := _
    d_check_period := _
    F_check_period := F5
    g_check_period := PySem.W.mg_of X G a5
    b_check_period := ((F5).binds (ps := ["period"]) fun _ _ _ _ _ _ us hl => match us, hl with | [_], _ => rfl)
    f_first_of_class := _
    d_first_of_class := _
    F_first_of_class := F6
    g_first_of_class := PySem.W.mg_of X G a6
    b_first_of_class := ((F6).binds (ps := ["rest", "least", "period"]) fun _ _ _ _ _ _ us hl => match us, hl with | [_, _, _], _ => rfl)
    f_line := _
    d_line := _
    F_line := F7
    g_line := PySem.W.mg_of X G a7
    b_line := ((F7).binds (ps := ["period", "tell", "start"]) fun _ _ _ _ _ _ us hl => match us, hl with | [_, _, _], _ => rfl) }
    q1 := {
    f_assemble := _
    d_assemble := _
    F_assemble := F8
    g_assemble := PySem.W.mg_of X G a8
    b_assemble := ((F8).binds (ps := ["period", "tell", "starts"]) fun _ _ _ _ _ _ us hl => match us, hl with | [_, _, _], _ => rfl)
    f_common_starts := _
    d_common_starts := _
    F_common_starts := F9
    g_common_starts := PySem.W.mg_of X G a9
    b_common_starts := ((F9).binds (ps := ["one", "two", "period"]) fun _ _ _ _ _ _ us hl => match us, hl with | [_, _, _], _ => rfl)
    f_common_period := _
    d_common_period := _
    F_common_period := F10
    g_common_period := PySem.W.mg_of X G a10
    b_common_period := ((F10).binds (ps := ["one", "two"]) fun _ _ _ _ _ _ us hl => match us, hl with | [_, _], _ => rfl)
    f_added := _
    d_added := _
    F_added := F11
    g_added := PySem.W.mg_of X G a11
    b_added := ((F11).binds (ps := ["one", "two"]) fun _ _ _ _ _ _ us hl => match us, hl with | [_, _], _ => rfl)
    cc_even := cd12
    pp_even := pp12
    B_even := hB (cd12, pp12) (by simp)
    m_even := by simp
    f_even := _
    d_even := _
    F_even := F12
    g_even := PySem.W.mg_of X G a12
    b_even := ((F12.to).binds (ps := ["a", "b", "combine"]) fun _ _ _ _ _ _ us hl => match us, hl with | [_, _, _], _ => rfl)
    f_sum_of := _
    d_sum_of := _
    F_sum_of := F13
    g_sum_of := PySem.W.mg_of X G a13
    b_sum_of := ((F13).binds (ps := ["a", "b"]) fun _ _ _ _ _ _ us hl => match us, hl with | [_, _], _ => rfl)
    f_last_step := _
    d_last_step := _
    F_last_step := F14
    g_last_step := PySem.W.mg_of X G a14
    b_last_step := ((F14).binds (ps := ["row"]) fun _ _ _ _ _ _ us hl => match us, hl with | [_], _ => rfl)
    f_row_price := _
    d_row_price := _
    F_row_price := F15
    g_row_price := PySem.W.mg_of X G a15
    b_row_price := ((F15).binds (ps := ["row", "weight"]) fun _ _ _ _ _ _ us hl => match us, hl with | [_, _], _ => rfl) }
    q2 := {
    f_rows_for := _
    d_rows_for := _
    F_rows_for := F16
    g_rows_for := PySem.W.mg_of X G a16
    b_rows_for := ((F16).binds (ps := ["tariff", "zone", "services"]) fun _ _ _ _ _ _ us hl => match us, hl with | [_, _, _], _ => rfl)
    f_price := _
    d_price := _
    F_price := F17
    g_price := PySem.W.mg_of X G a17
    b_price := ((F17).binds (ps := ["tariff", "zone", "services", "weight"]) fun _ _ _ _ _ _ us hl => match us, hl with | [_, _, _, _], _ => rfl)
    f_row_form := _
    d_row_form := _
    F_row_form := F18
    g_row_form := PySem.W.mg_of X G a18
    b_row_form := ((F18).binds (ps := ["row"]) fun _ _ _ _ _ _ us hl => match us, hl with | [_], _ => rfl)
    f_postage := _
    d_postage := _
    F_postage := F19
    g_postage := PySem.W.mg_of X G a19
    b_postage := ((F19).binds (ps := ["tariff", "zone", "services"]) fun _ _ _ _ _ _ us hl => match us, hl with | [_, _, _], _ => rfl)
    f_law_state := _
    d_law_state := _
    F_law_state := F20
    g_law_state := PySem.W.mg_of X G a20
    b_law_state := ((F20).binds (ps := ["script"]) fun _ _ _ _ _ _ us hl => match us, hl with | [_], _ => rfl)
    f_law_draw := _
    d_law_draw := _
    F_law_draw := F21
    g_law_draw := PySem.W.mg_of X G a21
    b_law_draw := ((F21).binds (ps := ["state", "limit"]) fun _ _ _ _ _ _ us hl => match us, hl with | [_, _], _ => rfl)
    f_law_far := _
    d_law_far := _
    F_law_far := F22
    g_law_far := PySem.W.mg_of X G a22
    b_law_far := ((F22).binds (ps := ["state"]) fun _ _ _ _ _ _ us hl => match us, hl with | [_], _ => rfl)
    f_law_name := _
    d_law_name := _
    F_law_name := F23
    g_law_name := PySem.W.mg_of X G a23
    b_law_name := ((F23).binds (ps := ["state"]) fun _ _ _ _ _ _ us hl => match us, hl with | [_], _ => rfl) }
    q3 := {
    f_law_value := _
    d_law_value := _
    F_law_value := F24
    g_law_value := PySem.W.mg_of X G a24
    b_law_value := ((F24).binds (ps := ["form", "x"]) fun _ _ _ _ _ _ us hl => match us, hl with | [_, _], _ => rfl)
    f_law_int := _
    d_law_int := _
    F_law_int := F25
    g_law_int := PySem.W.mg_of X G a25
    b_law_int := ((F25).binds (ps := ["value"]) fun _ _ _ _ _ _ us hl => match us, hl with | [_], _ => rfl)
    f_law_is_form := _
    d_law_is_form := _
    F_law_is_form := F26
    g_law_is_form := PySem.W.mg_of X G a26
    b_law_is_form := ((F26).binds (ps := ["form"]) fun _ _ _ _ _ _ us hl => match us, hl with | [_], _ => rfl)
    f_law_is_even := _
    d_law_is_even := _
    F_law_is_even := F27
    g_law_is_even := PySem.W.mg_of X G a27
    b_law_is_even := ((F27).binds (ps := ["form", "size"]) fun _ _ _ _ _ _ us hl => match us, hl with | [_, _], _ => rfl)
    f_law_is_normal := _
    d_law_is_normal := _
    F_law_is_normal := F28
    g_law_is_normal := PySem.W.mg_of X G a28
    b_law_is_normal := ((F28).binds (ps := ["form"]) fun _ _ _ _ _ _ us hl => match us, hl with | [_], _ => rfl)
    f_law_amount := _
    d_law_amount := _
    F_law_amount := F29
    g_law_amount := PySem.W.mg_of X G a29
    b_law_amount := ((F29).binds (ps := ["state"]) fun _ _ _ _ _ _ us hl => match us, hl with | [_], _ => rfl)
    f_law_steps := _
    d_law_steps := _
    F_law_steps := F30
    g_law_steps := PySem.W.mg_of X G a30
    b_law_steps := ((F30).binds (ps := ["state"]) fun _ _ _ _ _ _ us hl => match us, hl with | [_], _ => rfl)
    f_law_more := _
    d_law_more := _
    F_law_more := F31
    g_law_more := PySem.W.mg_of X G a31
    b_law_more := ((F31).binds (ps := ["state"]) fun _ _ _ _ _ _ us hl => match us, hl with | [_], _ => rfl) }
    q4 := {
    f_law_some_names := _
    d_law_some_names := _
    F_law_some_names := F32
    g_law_some_names := PySem.W.mg_of X G a32
    b_law_some_names := ((F32).binds (ps := ["state", "count"]) fun _ _ _ _ _ _ us hl => match us, hl with | [_, _], _ => rfl)
    f_law_tariff := _
    d_law_tariff := _
    F_law_tariff := F33
    g_law_tariff := PySem.W.mg_of X G a33
    b_law_tariff := ((F33).binds (ps := ["state"]) fun _ _ _ _ _ _ us hl => match us, hl with | [_], _ => rfl)
    f_law_row_price := _
    d_law_row_price := _
    F_law_row_price := F34
    g_law_row_price := PySem.W.mg_of X G a34
    b_law_row_price := ((F34).binds (ps := ["row", "weight"]) fun _ _ _ _ _ _ us hl => match us, hl with | [_, _], _ => rfl)
    f_law_price := _
    d_law_price := _
    F_law_price := F35
    g_law_price := PySem.W.mg_of X G a35
    b_law_price := ((F35).binds (ps := ["tariff", "zone", "services", "weight"]) fun _ _ _ _ _ _ us hl => match us, hl with | [_, _, _, _], _ => rfl)
    f_law_services := _
    d_law_services := _
    F_law_services := F36
    g_law_services := PySem.W.mg_of X G a36
    b_law_services := ((F36).binds (ps := ["state", "tariff"]) fun _ _ _ _ _ _ us hl => match us, hl with | [_, _], _ => rfl)
    f_law_edges := _
    d_law_edges := _
    F_law_edges := F37
    g_law_edges := PySem.W.mg_of X G a37
    b_law_edges := ((F37).binds (ps := ["tariff", "zone"]) fun _ _ _ _ _ _ us hl => match us, hl with | [_, _], _ => rfl)
    f_law_common := _
    d_law_common := _
    F_law_common := F38
    g_law_common := PySem.W.mg_of X G a38
    b_law_common := ((F38).binds (ps := ["one", "two"]) fun _ _ _ _ _ _ us hl => match us, hl with | [_, _], _ => rfl)
    f_law_period := _
    d_law_period := _
    F_law_period := F39
    g_law_period := PySem.W.mg_of X G a39
    b_law_period := ((F39).binds (ps := ["row"]) fun _ _ _ _ _ _ us hl => match us, hl with | [_], _ => rfl) }
    q5 := {
    f_law_periods := _
    d_law_periods := _
    F_law_periods := F40
    g_law_periods := PySem.W.mg_of X G a40
    b_law_periods := ((F40).binds (ps := ["tariff", "zone", "services"]) fun _ _ _ _ _ _ us hl => match us, hl with | [_, _, _], _ => rfl)
    f_law_told := _
    d_law_told := _
    F_law_told := F41
    g_law_told := PySem.W.mg_of X G a41
    b_law_told := ((F41).binds (ps := ["tariff", "zone", "services"]) fun _ _ _ _ _ _ us hl => match us, hl with | [_, _, _], _ => rfl)
    f_law_holds := _
    d_law_holds := _
    F_law_holds := F42
    g_law_holds := PySem.W.mg_of X G a42
    b_law_holds := ((F42).binds (ps := ["state", "tariff", "zone", "services"]) fun _ _ _ _ _ _ us hl => match us, hl with | [_, _, _, _], _ => rfl)
    f_law_two := _
    d_law_two := _
    F_law_two := F43
    g_law_two := PySem.W.mg_of X G a43
    b_law_two := ((F43).binds (ps := ["state"]) fun _ _ _ _ _ _ us hl => match us, hl with | [_], _ => rfl)
    f_law := _
    d_law := _
    F_law := F44
    g_law := PySem.W.mg_of X G a44
    b_law := ((F44).binds (ps := ["script"]) fun _ _ _ _ _ _ us hl => match us, hl with | [_], _ => rfl) }
    q6 := {
    n_all := PySem.W.mg_none_of X G z_all
    n_bool := PySem.W.mg_none_of X G z_bool
    n_int := PySem.W.mg_none_of X G z_int
    n_isinstance := PySem.W.mg_none_of X G z_isinstance
    n_len := PySem.W.mg_none_of X G z_len
    n_list := PySem.W.mg_none_of X G z_list
    n_max := PySem.W.mg_none_of X G z_max
    n_range := PySem.W.mg_none_of X G z_range
    n_sorted := PySem.W.mg_none_of X G z_sorted
    n_sum := PySem.W.mg_none_of X G z_sum
    n_tuple := PySem.W.mg_none_of X G z_tuple
    m_lcm := PySem.W.mg_of X G v_lcm
    x_TooLarge := ⟨_, PySem.W.mg_of X G xg_TooLarge, xq_TooLarge, xk_TooLarge, xs_TooLarge, xt_TooLarge, exm_self xs_TooLarge xi_TooLarge xt_TooLarge xr_TooLarge⟩
    c_MAX_HEAD := ⟨_, .int (4000), PySem.W.mg_of X G y_MAX_HEAD, ⟨_, rfl⟩, fun F => .int _⟩
    c_MAX_PERIOD := ⟨_, .int (1000), PySem.W.mg_of X G y_MAX_PERIOD, ⟨_, rfl⟩, fun F => .int _⟩
    c_NOTHING := ⟨_, .ref ad_NOTHING, PySem.W.mg_of X G y_NOTHING, rfl, fun F => .tup (.inr ⟨_, _, _, w_NOTHING, rfl, rfl, (show 2 ≤ sizeLine by decide), (.cons (show RelV (.ref ad_NOTHING_0) (.ref ad_NOTHING_0) from rfl) (.cons (show RelV (.ref ad_NOTHING_1) (.ref ad_NOTHING_1) from rfl) .nil))⟩) (.cons (.tup (.inr ⟨_, _, _, w_NOTHING_0, rfl, rfl, (show 0 ≤ sizeLine by decide), .nil⟩) .nil) (.cons (.tup (.inr ⟨_, _, _, w_NOTHING_1, rfl, rfl, (show 1 ≤ sizeLine by decide), (.cons (show RelV (.ref ad_NOTHING_1_0) (.ref ad_NOTHING_1_0) from rfl) .nil)⟩) (.cons (.tup (.inr ⟨_, _, _, w_NOTHING_1_0, rfl, rfl, (show 2 ≤ sizeLine by decide), (.cons (show RelV (.non) (.none) from rfl) (.cons (show RelV (.int (0)) (.int (0) tk_NOTHING_1_0_1) from ⟨_, rfl⟩) .nil))⟩) (.cons (.non) (.cons (.int _) .nil))) .nil)) .nil))⟩ } }
  exact ok_law T
end DL
open PySem PySem.W PyProof.Rows
set_option maxRecDepth 100000 in
set_option maxHeartbeats 0 in
theorem PySem.Challenge.cw_postsooth_k26_whole_postage_of_all_weigh_holds : PySem.Challenge.rw_postsooth_k26_whole_postage_of_all_weigh.Holds := by
  w_on; o_law; k_head; (case hw => w_witness2)
  k_fill
  refine LamX.walk_ofTs (l := PySem.Challenge.rw_postsooth_k26_whole_postage_of_all_weigh) (n := 63) (k := 18) (x := "script") (CX := fun _ => L2.CX0) rfl (by decide) rfl ⟨rfl, by decide, by decide⟩ (fun w h Y => PySem.W.km_in_of Y) ?F (fun _ _ _ _ _ h => h)
  case F =>
    intro w mg fa h Y KX G hmg
    refine' DL.all_mk KX G hmg ?a0 ?l0 ?c0 ?k0 ?a1 ?l1 ?c1 ?k1 ?a2 ?l2 ?c2 ?k2 ?a3 ?l3 ?c3 ?k3 ?a4 ?l4 ?c4 ?k4 ?a5 ?l5 ?c5 ?k5 ?a6 ?l6 ?c6 ?k6 ?a7 ?l7 ?c7 ?k7 ?a8 ?l8 ?c8 ?k8 ?a9 ?l9 ?c9 ?k9 ?a10 ?l10 ?c10 ?k10 ?a11 ?l11 ?c11 ?k11 ?a12 ?l12 ?c12 ?k12 ?o12 ?v12 ?h12 ?n12 ?t12 ?a13 ?l13 ?c13 ?k13 ?a14 ?l14 ?c14 ?k14 ?a15 ?l15 ?c15 ?k15 ?a16 ?l16 ?c16 ?k16 ?a17 ?l17 ?c17 ?k17 ?a18 ?l18 ?c18 ?k18 ?a19 ?l19 ?c19 ?k19 ?a20 ?l20 ?c20 ?k20 ?a21 ?l21 ?c21 ?k21 ?a22 ?l22 ?c22 ?k22 ?a23 ?l23 ?c23 ?k23 ?a24 ?l24 ?c24 ?k24 ?a25 ?l25 ?c25 ?k25 ?a26 ?l26 ?c26 ?k26 ?a27 ?l27 ?c27 ?k27 ?a28 ?l28 ?c28 ?k28 ?a29 ?l29 ?c29 ?k29 ?a30 ?l30 ?c30 ?k30 ?a31 ?l31 ?c31 ?k31 ?a32 ?l32 ?c32 ?k32 ?a33 ?l33 ?c33 ?k33 ?a34 ?l34 ?c34 ?k34 ?a35 ?l35 ?c35 ?k35 ?a36 ?l36 ?c36 ?k36 ?a37 ?l37 ?c37 ?k37 ?a38 ?l38 ?c38 ?k38 ?a39 ?l39 ?c39 ?k39 ?a40 ?l40 ?c40 ?k40 ?a41 ?l41 ?c41 ?k41 ?a42 ?l42 ?c42 ?k42 ?a43 ?l43 ?c43 ?k43 ?a44 ?l44 ?c44 ?k44 ?z_all ?z_bool ?z_int ?z_isinstance ?z_len ?z_list ?z_max ?z_range ?z_sorted ?z_sum ?z_tuple ?v_lcm ?xg_TooLarge ?xq_TooLarge ?xk_TooLarge ?xs_TooLarge ?xt_TooLarge ?xi_TooLarge ?xr_TooLarge ?y_MAX_HEAD ?y_MAX_PERIOD ?y_NOTHING ?w_NOTHING ?w_NOTHING_0 ?w_NOTHING_1 ?w_NOTHING_1_0 ?dj
    (case a0 => k_is)
    (case l0 => k_is)
    (case c0 => k_is)
    (case k0 => k_is)
    (case a1 => k_is)
    (case l1 => k_is)
    (case c1 => k_is)
    (case k1 => k_is)
    (case a2 => k_is)
    (case l2 => k_is)
    (case c2 => k_is)
    (case k2 => k_is)
    (case a3 => k_is)
    (case l3 => k_is)
    (case c3 => k_is)
    (case k3 => k_is)
    (case a4 => k_is)
    (case l4 => k_is)
    (case c4 => k_is)
    (case k4 => k_is)
    (case a5 => k_is)
    (case l5 => k_is)
    (case c5 => k_is)
    (case k5 => k_is)
    (case a6 => k_is)
    (case l6 => k_is)
    (case c6 => k_is)
    (case k6 => k_is)
    (case a7 => k_is)
    (case l7 => k_is)
    (case c7 => k_is)
    (case k7 => k_is)
    (case a8 => k_is)
    (case l8 => k_is)
    (case c8 => k_is)
    (case k8 => k_is)
    (case a9 => k_is)
    (case l9 => k_is)
    (case c9 => k_is)
    (case k9 => k_is)
    (case a10 => k_is)
    (case l10 => k_is)
    (case c10 => k_is)
    (case k10 => k_is)
    (case a11 => k_is)
    (case l11 => k_is)
    (case c11 => k_is)
    (case k11 => k_is)
    (case a12 => k_is)
    (case l12 => k_is)
    (case c12 => k_is)
    (case k12 => k_is)
    (case o12 => k_is)
    (case v12 => exact rfl)
    (case h12 => kernel_rfl)
    (case n12 => kernel_rfl)
    (case t12 => exact PySem.W.km_tabs_of Y _ (by decide))
    (case a13 => k_is)
    (case l13 => k_is)
    (case c13 => k_is)
    (case k13 => k_is)
    (case a14 => k_is)
    (case l14 => k_is)
    (case c14 => k_is)
    (case k14 => k_is)
    (case a15 => k_is)
    (case l15 => k_is)
    (case c15 => k_is)
    (case k15 => k_is)
    (case a16 => k_is)
    (case l16 => k_is)
    (case c16 => k_is)
    (case k16 => k_is)
    (case a17 => k_is)
    (case l17 => k_is)
    (case c17 => k_is)
    (case k17 => k_is)
    (case a18 => k_is)
    (case l18 => k_is)
    (case c18 => k_is)
    (case k18 => k_is)
    (case a19 => k_is)
    (case l19 => k_is)
    (case c19 => k_is)
    (case k19 => k_is)
    (case a20 => k_is)
    (case l20 => k_is)
    (case c20 => k_is)
    (case k20 => k_is)
    (case a21 => k_is)
    (case l21 => k_is)
    (case c21 => k_is)
    (case k21 => k_is)
    (case a22 => k_is)
    (case l22 => k_is)
    (case c22 => k_is)
    (case k22 => k_is)
    (case a23 => k_is)
    (case l23 => k_is)
    (case c23 => k_is)
    (case k23 => k_is)
    (case a24 => k_is)
    (case l24 => k_is)
    (case c24 => k_is)
    (case k24 => k_is)
    (case a25 => k_is)
    (case l25 => k_is)
    (case c25 => k_is)
    (case k25 => k_is)
    (case a26 => k_is)
    (case l26 => k_is)
    (case c26 => k_is)
    (case k26 => k_is)
    (case a27 => k_is)
    (case l27 => k_is)
    (case c27 => k_is)
    (case k27 => k_is)
    (case a28 => k_is)
    (case l28 => k_is)
    (case c28 => k_is)
    (case k28 => k_is)
    (case a29 => k_is)
    (case l29 => k_is)
    (case c29 => k_is)
    (case k29 => k_is)
    (case a30 => k_is)
    (case l30 => k_is)
    (case c30 => k_is)
    (case k30 => k_is)
    (case a31 => k_is)
    (case l31 => k_is)
    (case c31 => k_is)
    (case k31 => k_is)
    (case a32 => k_is)
    (case l32 => k_is)
    (case c32 => k_is)
    (case k32 => k_is)
    (case a33 => k_is)
    (case l33 => k_is)
    (case c33 => k_is)
    (case k33 => k_is)
    (case a34 => k_is)
    (case l34 => k_is)
    (case c34 => k_is)
    (case k34 => k_is)
    (case a35 => k_is)
    (case l35 => k_is)
    (case c35 => k_is)
    (case k35 => k_is)
    (case a36 => k_is)
    (case l36 => k_is)
    (case c36 => k_is)
    (case k36 => k_is)
    (case a37 => k_is)
    (case l37 => k_is)
    (case c37 => k_is)
    (case k37 => k_is)
    (case a38 => k_is)
    (case l38 => k_is)
    (case c38 => k_is)
    (case k38 => k_is)
    (case a39 => k_is)
    (case l39 => k_is)
    (case c39 => k_is)
    (case k39 => k_is)
    (case a40 => k_is)
    (case l40 => k_is)
    (case c40 => k_is)
    (case k40 => k_is)
    (case a41 => k_is)
    (case l41 => k_is)
    (case c41 => k_is)
    (case k41 => k_is)
    (case a42 => k_is)
    (case l42 => k_is)
    (case c42 => k_is)
    (case k42 => k_is)
    (case a43 => k_is)
    (case l43 => k_is)
    (case c43 => k_is)
    (case k43 => k_is)
    (case a44 => k_is)
    (case l44 => k_is)
    (case c44 => k_is)
    (case k44 => k_is)
    (case z_all => k_is)
    (case z_bool => k_is)
    (case z_int => k_is)
    (case z_isinstance => k_is)
    (case z_len => k_is)
    (case z_list => k_is)
    (case z_max => k_is)
    (case z_range => k_is)
    (case z_sorted => k_is)
    (case z_sum => k_is)
    (case z_tuple => k_is)
    (case v_lcm => k_is)
    (case xg_TooLarge => k_is)
    (case xq_TooLarge => k_exc)
    (case xk_TooLarge => k_is)
    (case xs_TooLarge => k_is)
    (case xt_TooLarge => k_is)
    (case xi_TooLarge => k_is)
    (case xr_TooLarge => first | rfl | k_is)
    (case y_MAX_HEAD => k_is)
    (case y_MAX_PERIOD => k_is)
    (case y_NOTHING => k_is)
    (case w_NOTHING => k_is)
    (case w_NOTHING_0 => k_is)
    (case w_NOTHING_1 => k_is)
    (case w_NOTHING_1_0 => k_is)
    (case dj => decide +kernel)
