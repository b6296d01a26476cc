import PyProof.Rows.All
import Wide.All
import OpenK.AllK
import Wide.FinOn
import HandS.ForMost
import HandS.IsInst
import HandS.TupAny
import HandS.TupMul
import HandS.Wide
import HandS.Nested
import HandS.Flow
import HandS.WordsExc
import HandS.SortInts
import PyProof.LongRange
import HandS.Gcd
import HandS.SortKw
import HandS.EndTab
import KE.KNestM
import KE.DataMinMax
import HandS.Rev
import HandS.Style
import HandS.TryOnly
import HandS.TryElse
import KE.DataCmp
import HandS.TupSets
import KE.KTupSum
import PySem.Challenge.RW_postsooth_k21_whole_payments_from_a_hold
set_option Elab.async false
set_option linter.all false
set_option maxRecDepth 100000
/-! DL: a layer of immutable data over the hand layer. Data are trees (D); only what is changed in place stands in M (Mp). -/
namespace DL
open PySem PySem.Spec PyProof.Rows L2

/-- data: tuples and frozen lists as trees (lsk: a list that was there before, as the script); ref: an object that is changed in place, or any other thing at an address; fn: a function made when G was never changed again -/
inductive D where
  | non | bl (b : Bool) | int (i : Int) | str (x : Str) | ref (a : Addr) | ty (n : String) | fn (a : Addr) (G : Hp)
  | tup (xs : List D) | lst (xs : List D) | lsk (xs : List D)

/-- what stands at an address that may be changed -/
inductive MO where
  | lst (xs : List D)
  | dK (kvs : List (Key × D))
  | dT (kvs : List (List Key × D))
  | ins (C : Addr) (fs : List (Str × D))
  | raw (o : HO)
abbrev Mp := Addr → Option MO
def updM (M : Mp) (a : Addr) (o : MO) : Mp := fun b => if b = a then some o else M b
theorem updM_same {M : Mp} {a : Addr} {o : MO} : updM M a o a = some o := by unfold updM; rw [if_pos rfl]
theorem updM_ne {M : Mp} {a b : Addr} {o : MO} (h : b ≠ a) : updM M a o b = M b := by unfold updM; rw [if_neg h]
theorem updM_updM {M : Mp} {a : Addr} {o u : MO} : updM (updM M a o) a u = updM M a u := by
  funext b; unfold updM; split <;> rfl

def Ext (F F' : Hp) : Prop := ∀ a o, F a = some o → F' a = some o
theorem Ext.refl {F : Hp} : Ext F F := fun _ _ h => h
theorem Ext.trans {F F1 F2 : Hp} (a : Ext F F1) (b : Ext F1 F2) : Ext F F2 := fun c o h => b c o (a c o h)
section
variable (K : PySem.W.Frag)
mutual
/-- the value v stands for the data d; F holds what is never changed again -/
inductive Rep (F : Hp) : V → D → Prop
  | non : Rep F .non .non
  | bl (b : Bool) : Rep F (.bl b) (.bl b)
  | int (i : Int) : Rep F (.int i) (.int i)
  | str (x : Str) : Rep F (.str x) (.str x)
  | ref (a : Addr) : Rep F (.ref a) (.ref a)
  | ty (n : String) : Rep F (.ty n) (.ty n)
  | fn {a : Addr} {G : Hp} : Ext G F → Rep F (.ref a) (.fn a G)
  | tup {a : Addr} {xs : List V} {ds : List D} : SqT K F a xs → RepAll F xs ds → Rep F (.ref a) (.tup ds)
  | lst {a : Addr} {xs : List V} {ds : List D} : F a = some (.lst xs) → RepAll F xs ds → Rep F (.ref a) (.lst ds)
  | lsk {a : Addr} {xs : List V} {ds : List D} : SqL K F a xs → RepAll F xs ds → Rep F (.ref a) (.lsk ds)
inductive RepAll (F : Hp) : List V → List D → Prop
  | nil : RepAll F [] []
  | cons {v : V} {vs : List V} {d : D} {ds : List D} : Rep F v d → RepAll F vs ds → RepAll F (v :: vs) (d :: ds)
end
end
section
variable {K : PySem.W.Frag} {F F' : Hp}
theorem rdMono {a : Addr} {o : HO} (e : Ext F F') (h : Rd F a o) : Rd F' a o := by
  rcases h with h | ⟨u, h⟩
  · exact .inl (e _ _ h)
  · exact .inr ⟨u, e _ _ h⟩
theorem sqLMono {a : Addr} {xs : List V} (e : Ext F F') (h : SqL K F a xs) : SqL K F' a xs := h.elim (fun q => .inl (rdMono e q)) .inr
theorem sqTMono {a : Addr} {xs : List V} (e : Ext F F') (h : SqT K F a xs) : SqT K F' a xs := h.elim (fun q => .inl (rdMono e q)) .inr
mutual
theorem Rep.mono (e : Ext F F') : ∀ (d : D) (v : V), Rep K F v d → Rep K F' v d
  | .non, _, h => by cases h; exact .non
  | .bl b, _, h => by cases h; exact .bl b
  | .int i, _, h => by cases h; exact .int i
  | .str x, _, h => by cases h; exact .str x
  | .ref a, _, h => by cases h; exact .ref a
  | .ty n, _, h => by cases h; exact .ty n
  | .fn a G, _, h => by
    cases h with
    | fn g => exact .fn (g.trans e)
  | .tup ds, _, h => by
    cases h with
    | tup hs ha => exact .tup (sqTMono e hs) (RepAll.mono e ds _ ha)
  | .lst ds, _, h => by
    cases h with
    | lst hs ha => exact .lst (e _ _ hs) (RepAll.mono e ds _ ha)
  | .lsk ds, _, h => by
    cases h with
    | lsk hs ha => exact .lsk (sqLMono e hs) (RepAll.mono e ds _ ha)
theorem RepAll.mono (e : Ext F F') : ∀ (ds : List D) (vs : List V), RepAll K F vs ds → RepAll K F' vs ds
  | [], _, h => by cases h; exact .nil
  | d :: ds, _, h => by
    cases h with
    | cons h1 h2 => exact .cons (Rep.mono e d _ h1) (RepAll.mono e ds _ h2)
end
theorem Rep.ext {v : V} {d : D} (h : Rep K F v d) (e : Ext F F') : Rep K F' v d := Rep.mono e d v h
theorem RepAll.ext {vs : List V} {ds : List D} (h : RepAll K F vs ds) (e : Ext F F') : RepAll K F' vs ds := RepAll.mono e ds vs h
theorem RepAll.len : ∀ {vs : List V} {ds : List D}, RepAll K F vs ds → vs.length = ds.length
  | _, _, .nil => rfl
  | _, _, .cons _ t => congrArg (· + 1) (RepAll.len t)
theorem RepAll.get : ∀ {vs : List V} {ds : List D} {i : Nat} {v : V}, RepAll K F vs ds → vs[i]? = some v → ∃ d, ds[i]? = some d ∧ Rep K F v d
  | _, _, _, _, .nil, e => by simp at e
  | _, _, 0, _, .cons r _, e => by simp at e; subst e; exact ⟨_, rfl, r⟩
  | _, _, i + 1, v, .cons _ t, e => by
    obtain ⟨d, h1, h2⟩ := RepAll.get (i := i) (v := v) t (by simpa using e)
    exact ⟨d, by simpa using h1, h2⟩
theorem RepAll.getD : ∀ {vs : List V} {ds : List D} {i : Nat} {d : D}, RepAll K F vs ds → ds[i]? = some d → ∃ v, vs[i]? = some v ∧ Rep K F v d
  | _, _, _, _, .nil, e => by simp at e
  | _, _, 0, _, .cons r _, e => by simp at e; subst e; exact ⟨_, rfl, r⟩
  | _, _, i + 1, d, .cons _ t, e => by
    obtain ⟨v, h1, h2⟩ := RepAll.getD (i := i) (d := d) t (by simpa using e)
    exact ⟨v, by simpa using h1, h2⟩
theorem RepAll.app : ∀ {xs ys : List V} {ds es : List D}, RepAll K F xs ds → RepAll K F ys es → RepAll K F (xs ++ ys) (ds ++ es)
  | _, _, _, _, .nil, s => s
  | _, _, _, _, .cons r t, s => .cons r (RepAll.app t s)
theorem RepAll.tk : ∀ {xs : List V} {ds : List D} (n : Nat), RepAll K F xs ds → RepAll K F (xs.take n) (ds.take n)
  | _, _, 0, _ => .nil
  | _, _, _ + 1, .nil => .nil
  | _, _, n + 1, .cons r t => .cons r (RepAll.tk n t)
theorem RepAll.dp : ∀ {xs : List V} {ds : List D} (n : Nat), RepAll K F xs ds → RepAll K F (xs.drop n) (ds.drop n)
  | _, _, 0, r => r
  | _, _, _ + 1, .nil => .nil
  | _, _, n + 1, .cons _ t => RepAll.dp n t
theorem RepAll.put {v : V} {d : D} (r : Rep K F v d) : ∀ {xs : List V} {ds : List D} (i : Nat), RepAll K F xs ds → RepAll K F (xs.set i v) (ds.set i d)
  | _, _, _, .nil => .nil
  | _, _, 0, .cons _ t => .cons r t
  | _, _, i + 1, .cons q t => .cons q (RepAll.put r i t)
theorem RepAll.rev : ∀ {xs : List V} {ds : List D}, RepAll K F xs ds → RepAll K F xs.reverse ds.reverse
  | _, _, .nil => .nil
  | _, _, .cons r t => by
    rw [List.reverse_cons, List.reverse_cons]
    exact RepAll.app (RepAll.rev t) (.cons r .nil)
theorem RepAll.rpl {v : V} {d : D} (r : Rep K F v d) : ∀ n : Nat, RepAll K F (List.replicate n v) (List.replicate n d)
  | 0 => .nil
  | n + 1 => .cons r (RepAll.rpl r n)
theorem RepAll.ints : ∀ {vs : List V} {ns : List Int}, RepAll K F vs (ns.map D.int) → vs = ns.map V.int
  | _, [], h => by cases h; rfl
  | _, n :: ns, h => by
    cases h with
    | cons h1 h2 => cases h1; rw [RepAll.ints h2]; rfl
theorem RepAll.bls : ∀ {vs : List V} {ns : List Bool}, RepAll K F vs (ns.map D.bl) → vs = ns.map V.bl
  | _, [], h => by cases h; rfl
  | _, n :: ns, h => by
    cases h with
    | cons h1 h2 => cases h1; rw [RepAll.bls h2]; rfl
theorem RepAll.strs : ∀ {vs : List V} {ns : List Str}, RepAll K F vs (ns.map D.str) → vs = ns.map V.str
  | _, [], h => by cases h; rfl
  | _, n :: ns, h => by
    cases h with
    | cons h1 h2 => cases h1; rw [RepAll.strs h2]; rfl
theorem RepAll.ofInts : ∀ (ns : List Int), RepAll K F (ns.map V.int) (ns.map D.int)
  | [] => .nil
  | n :: ns => .cons (.int n) (RepAll.ofInts ns)
end

/-- the entries of a dict; the attributes of an instance -/
def RepKV (K : PySem.W.Frag) (F : Hp) {κ : Type} : List (κ × V) → List (κ × D) → Prop := Paired fun p q => p.1 = q.1 ∧ Rep K F p.2 q.2
theorem RepKV.ext {K : PySem.W.Frag} {F F' : Hp} {κ : Type} (e : Ext F F') : ∀ {xs : List (κ × V)} {ys : List (κ × D)}, RepKV K F xs ys → RepKV K F' xs ys
  | _, _, .nil => .nil
  | _, _, .cons r t => .cons ⟨r.1, r.2.ext e⟩ (RepKV.ext e t)
def RepO (K : PySem.W.Frag) (F : Hp) : HO → MO → Prop
  | .lst xs, .lst ds => RepAll K F xs ds
  | .dK kvs, .dK kds => RepKV K F kvs kds
  | .dT kvs, .dT kds => RepKV K F kvs kds
  | .ins C _ fs, .ins C' fs' => C = C' ∧ RepKV K F fs fs'
  | o, .raw o' => o = o'
  | _, _ => False
theorem RepO.ext {K : PySem.W.Frag} {F F' : Hp} (e : Ext F F') {o : HO} {m : MO} (h : RepO K F o m) : RepO K F' o m := by
  cases m with
  | lst ds => cases o <;> first | exact RepAll.ext h e | exact h
  | dK ds => cases o <;> first | exact RepKV.ext e h | exact h
  | dT ds => cases o <;> first | exact RepKV.ext e h | exact h
  | ins C fs => cases o <;> first | exact ⟨h.1, RepKV.ext e h.2⟩ | exact h
  | raw u => cases o <;> exact h
theorem RepO.lst_iff {K : PySem.W.Frag} {F : Hp} {o : HO} {ds : List D} (h : RepO K F o (.lst ds)) : ∃ xs, o = .lst xs ∧ RepAll K F xs ds := by
  cases o <;> first | exact ⟨_, rfl, h⟩ | exact h.elim

/-- what is set aside: known to the object; but where a code object's table stands, with the name of the lambdas of that code -/
def RsOk (H : Hp) (a : Addr) : HO → Prop
  | .xd fs => ∃ q : Str, fs = [(q, .non)] ∧ LamX.TabS H a q
  | o => H a = some o
theorem RsOk.there {H : Hp} {a : Addr} {o : HO} (h : RsOk H a o) (e : H a = none) : False := by
  cases o with
  | xd fs =>
    obtain ⟨q, _, ps, h1, _⟩ := h
    rw [e] at h1; cases h1
  | _ => have h : H a = some _ := h; rw [e] at h; cases h
/-- only what stands at x changes, and that is no code object -/
theorem RsOk.step {H H' : Hp} {a x : Addr} {o : HO} (h : RsOk H a o) (k : ∀ b u, b ≠ x → H b = some u → H' b = some u) (hx : a ≠ x) (hn : ∀ q, H x ≠ some (LamX.CodeO x q)) : RsOk H' a o := by
  cases o with
  | xd fs =>
    obtain ⟨q, e, ps, h1, h2, h3⟩ := h
    refine ⟨q, e, ps, k _ _ hx h1, h2, fun pos cv hc => ?_⟩
    obtain ⟨c, e1, e2⟩ := h3 pos cv hc
    exact ⟨c, e1, k _ _ (fun z => by subst z; exact hn q e2) e2⟩
  | _ => exact k _ _ hx h
/-- no thing of the free kind -/
def NX : HO → Prop
  | .ext _ => False
  | _ => True
/-- where the tables of T stand -/
def TabR (T : List (Addr × Str)) (R : Hp) : Prop := ∀ p ∈ T, R p.1 = some (.xd [(p.2, .non)])
theorem TabR.ext {T : List (Addr × Str)} {R R' : Hp} (h : TabR T R) (e : Ext R R') : TabR T R' := fun p hp => e _ _ (h p hp)
/-- the heap H: F never changed again, R set aside, M changed in place -/
structure Stt (K : PySem.W.Frag) (F R H : Hp) (M : Mp) : Prop where
  fz : ∀ a o, F a = some o → H a = some o
  rs : ∀ a o, R a = some o → RsOk H a o ∧ F a = none ∧ M a = none
  ow : ∀ a m, M a = some m → F a = none ∧ ∃ o, H a = some o ∧ RepO K F o m
  nf : ∀ a o, F a = some o → NX o
  nr : ∀ a o, R a = some o → NX o

abbrev SD := List (Option D)
abbrev QD := D → Mp → Prop
abbrev DE := SD → Mp → QD → Prop
abbrev DT := SD → Mp → (Bool → Mp → Prop) → Prop
abbrev DA := SD → Mp → (List D → Mp → Prop) → Prop
structure EndsD where
  nx : SD → Mp → Prop
  rt : QD
  bk : SD → Mp → Prop := fun _ _ => False
  ct : SD → Mp → Prop := fun _ _ => False
abbrev DS := EndsD → SD → Mp → Prop

def RepS (K : PySem.W.Frag) (F : Hp) : Option V → Option D → Prop
  | some v, some d => Rep K F v d
  | _, none => True
  | none, some _ => False
abbrev Slots (K : PySem.W.Frag) (F : Hp) : L2.St → SD → Prop := Paired (RepS K F)
section
variable {K : PySem.W.Frag} {F F' : Hp}
theorem RepS.ext (e : Ext F F') {x : Option V} {y : Option D} (h : RepS K F x y) : RepS K F' x y := by
  cases x <;> cases y <;> first | exact True.intro | exact h.elim | exact Rep.ext h e
theorem Slots.ext (e : Ext F F') : ∀ {σ : L2.St} {τ : SD}, Slots K F σ τ → Slots K F' σ τ
  | _, _, .nil => .nil
  | _, _, .cons r t => .cons (r.ext e) (Slots.ext e t)
theorem Slots.get : ∀ {σ : L2.St} {τ : SD} {i : Nat} {d : D}, Slots K F σ τ → τ[i]? = some (some d) → ∃ v, σ[i]? = some (some v) ∧ Rep K F v d
  | _, _, _, _, .nil, e => by simp at e
  | x :: _, _, 0, d, .cons r _, e => by
    simp at e; subst e
    cases x with
    | none => exact r.elim
    | some v => exact ⟨v, rfl, r⟩
  | _, _, i + 1, d, .cons _ t, e => by
    obtain ⟨v, h1, h2⟩ := Slots.get (i := i) (d := d) t (by simpa using e)
    exact ⟨v, by simpa using h1, h2⟩
theorem Slots.put {v : V} {d : D} (r : Rep K F v d) : ∀ {σ : L2.St} {τ : SD} (i : Nat), Slots K F σ τ → Slots K F (σ.set i (some v)) (τ.set i (some d))
  | _, _, _, .nil => .nil
  | _, _, 0, .cons _ t => .cons r t
  | _, _, i + 1, .cons q t => .cons q (Slots.put r i t)
theorem Slots.drop1 : ∀ {σ : L2.St} {τ : SD} (i : Nat), Slots K F σ τ → Slots K F (σ.set i none) (τ.set i none)
  | _, _, _, .nil => .nil
  | _, _, 0, .cons _ t => .cons True.intro t
  | _, _, i + 1, .cons q t => .cons q (Slots.drop1 i t)
end

/-- where a def's body began -/
structure Bs where
  F : Hp
  R : Hp
  T : List (Addr × Str)
structure Bas (b : Bs) (F R : Hp) : Prop where
  f : Ext b.F F
  r : Ext b.R R
  t : TabR b.T R
theorem Bas.trans {b : Bs} {F F2 R : Hp} (h : Bas b F R) (e : Ext F F2) : Bas b F2 R := ⟨h.f.trans e, h.r, h.t⟩
section
variable (K : PySem.W.Frag) (F0 : Bs)
/-- how what is wanted of a value carries over -/
def KE (F R : Hp) (Q' : QD) (Q : VK) : Prop := ∀ v H2 F2 d M2, Ext F F2 → Stt K F2 R H2 M2 → Rep K F2 v d → Q' d M2 → Q v H2
def liE (t : DE) : TE := fun σ H Q => ∃ F R τ M Q', Bas F0 F R ∧ Stt K F R H M ∧ Slots K F σ τ ∧ t τ M Q' ∧ KE K F R Q' Q
def KT (F R : Hp) (Q' : Bool → Mp → Prop) (Q : Bool → Hp → Prop) : Prop := ∀ b H2 F2 M2, Ext F F2 → Stt K F2 R H2 M2 → Q' b M2 → Q b H2
def liT (t : DT) : TT := fun σ H Q => ∃ F R τ M Q', Bas F0 F R ∧ Stt K F R H M ∧ Slots K F σ τ ∧ t τ M Q' ∧ KT K F R Q' Q
def KA (F R : Hp) (Q' : List D → Mp → Prop) (Q : List V → Hp → Prop) : Prop := ∀ vs H2 F2 ds M2, Ext F F2 → Stt K F2 R H2 M2 → RepAll K F2 vs ds → Q' ds M2 → Q vs H2
def liA (t : DA) : TA := fun σ H Q => ∃ F R τ M Q', Bas F0 F R ∧ Stt K F R H M ∧ Slots K F σ τ ∧ t τ M Q' ∧ KA K F R Q' Q
def KN (F R : Hp) (Q' : SD → Mp → Prop) (Q : L2.St → Hp → Prop) : Prop := ∀ σ2 H2 F2 τ2 M2, Ext F F2 → Stt K F2 R H2 M2 → Slots K F2 σ2 τ2 → Q' τ2 M2 → Q σ2 H2
structure KS (F R : Hp) (D' : EndsD) (D : Ends) : Prop where
  nx : KN K F R D'.nx D.nx
  rt : KE K F R D'.rt D.rt
  bk : KN K F R D'.bk D.bk
  ct : KN K F R D'.ct D.ct
def liS (t : DS) : TS := fun D σ H => ∃ F R τ M D', Bas F0 F R ∧ Stt K F R H M ∧ Slots K F σ τ ∧ t D' τ M ∧ KS K F R D' D
/-- values that are given: an operator's, a call's reading -/
def liR (r : D → D → Mp → QD → Prop) : R2 := fun x y H Q => ∃ F R M d e Q', Bas F0 F R ∧ Stt K F R H M ∧ Rep K F x d ∧ Rep K F y e ∧ r d e M Q' ∧ KE K F R Q' Q
def liU (r : D → Mp → QD → Prop) : V → Hp → VK → Prop := fun x H Q => ∃ F R M d Q', Bas F0 F R ∧ Stt K F R H M ∧ Rep K F x d ∧ r d M Q' ∧ KE K F R Q' Q
def liC (r : List D → Mp → QD → Prop) : List V → Hp → VK → Prop := fun xs H Q => ∃ F R M ds Q', Bas F0 F R ∧ Stt K F R H M ∧ RepAll K F xs ds ∧ r ds M Q' ∧ KE K F R Q' Q
def liM (r : D → List D → Mp → QD → Prop) : V → List V → Hp → VK → Prop := fun x xs H Q => ∃ F R M d ds Q', Bas F0 F R ∧ Stt K F R H M ∧ Rep K F x d ∧ RepAll K F xs ds ∧ r d ds M Q' ∧ KE K F R Q' Q
def liG (g : D → SD → Mp → (SD → Mp → Prop) → Prop) : TG := fun v σ H Q => ∃ F R τ M d Q', Bas F0 F R ∧ Stt K F R H M ∧ Slots K F σ τ ∧ Rep K F v d ∧ g d τ M Q' ∧ KN K F R Q' Q
end
section
variable {K : PySem.W.Frag} {F F2 R : Hp}
theorem KE.ext {Q' : QD} {Q : VK} (k : KE K F R Q' Q) (e : Ext F F2) : KE K F2 R Q' Q := fun v H2 F3 d M2 e2 => k v H2 F3 d M2 (e.trans e2)
theorem KT.ext {Q' : Bool → Mp → Prop} {Q : Bool → Hp → Prop} (k : KT K F R Q' Q) (e : Ext F F2) : KT K F2 R Q' Q := fun b H2 F3 M2 e2 => k b H2 F3 M2 (e.trans e2)
theorem KA.ext {Q' : List D → Mp → Prop} {Q : List V → Hp → Prop} (k : KA K F R Q' Q) (e : Ext F F2) : KA K F2 R Q' Q := fun b H2 F3 d M2 e2 => k b H2 F3 d M2 (e.trans e2)
theorem KN.ext {Q' : SD → Mp → Prop} {Q : L2.St → Hp → Prop} (k : KN K F R Q' Q) (e : Ext F F2) : KN K F2 R Q' Q := fun b H2 F3 d M2 e2 => k b H2 F3 d M2 (e.trans e2)
theorem KS.ext {D' : EndsD} {D : Ends} (k : KS K F R D' D) (e : Ext F F2) : KS K F2 R D' D := ⟨k.nx.ext e, k.rt.ext e, k.bk.ext e, k.ct.ext e⟩
end
/-- new at p, never changed again -/
theorem Stt.freeze {K : PySem.W.Frag} {F R H : Hp} {M : Mp} {p : Addr} {o : HO} (s : Stt K F R H M) (h : H p = none) (hx : NX o := by trivial) : Stt K (upd F p o) R (upd H p o) M ∧ Ext F (upd F p o) := by
  have fp : F p = none := by
    cases e : F p with
    | none => rfl
    | some u => rw [s.fz _ _ e] at h; cases h
  have ex : Ext F (upd F p o) := fun a u e => by rw [upd_ne (ne_of_none e fp)]; exact e
  have mp : ∀ a m, M a = some m → a ≠ p := fun a m e z => by
    subst z
    obtain ⟨_, u, e2, _⟩ := s.ow _ _ e
    rw [h] at e2; cases e2
  refine ⟨⟨fun a u e => ?_, fun a u e => ?_, fun a m e => ?_, fun a u e => ?_, s.nr⟩, ex⟩
  rotate_left 3
  · by_cases q : a = p
    · subst q; rw [upd_same] at e; cases e; exact hx
    · rw [upd_ne q] at e; exact s.nf a u e
  · by_cases q : a = p
    · subst q; rw [upd_same] at e ⊢; exact e
    · rw [upd_ne q] at e ⊢; exact s.fz _ _ e
  · obtain ⟨h1, h2, h3⟩ := s.rs _ _ e
    have q : a ≠ p := fun z => by subst z; exact h1.there h
    rw [upd_ne q]
    exact ⟨h1.step (fun b u n eb => by rw [upd_ne n]; exact eb) q (fun c z => by rw [h] at z; cases z), h2, h3⟩
  · obtain ⟨h1, u, h2, h3⟩ := s.ow _ _ e
    have q := mp _ _ e
    rw [upd_ne q, upd_ne q]
    exact ⟨h1, u, h2, h3.ext ex⟩
/-- new at p, to be changed in place -/
theorem Stt.own {K : PySem.W.Frag} {F R H : Hp} {M : Mp} {p : Addr} {o : HO} {m : MO} (s : Stt K F R H M) (h : H p = none) (r : RepO K F o m) : Stt K F R (upd H p o) (updM M p m) ∧ M p = none := by
  have fp : F p = none := by
    cases e : F p with
    | none => rfl
    | some u => rw [s.fz _ _ e] at h; cases h
  have mp : M p = none := by
    cases e : M p with
    | none => rfl
    | some u =>
      obtain ⟨_, u, e2, _⟩ := s.ow _ _ e
      rw [h] at e2; cases e2
  refine ⟨⟨fun a u e => ?_, fun a u e => ?_, fun a u e => ?_, s.nf, s.nr⟩, mp⟩
  · rw [upd_ne (ne_of_none e fp)]; exact s.fz _ _ e
  · obtain ⟨h1, h2, h3⟩ := s.rs _ _ e
    have q : a ≠ p := fun z => by subst z; exact h1.there h
    rw [updM_ne q]
    exact ⟨h1.step (fun b u n eb => by rw [upd_ne n]; exact eb) q (fun c z => by rw [h] at z; cases z), h2, h3⟩
  · by_cases q : a = p
    · subst q
      rw [updM_same] at e
      cases e
      exact ⟨fp, o, upd_same, r⟩
    · rw [updM_ne q] at e
      obtain ⟨h1, u, h2, h3⟩ := s.ow _ _ e
      exact ⟨h1, u, by rw [upd_ne q]; exact h2, h3⟩
/-- what stands at a is changed in place -/
theorem Stt.store {K : PySem.W.Frag} {F R H : Hp} {M : Mp} {a : Addr} {o : HO} {m m' : MO} (s : Stt K F R H M) (h : M a = some m) (hm : ∀ u, m ≠ .raw u) (r : RepO K F o m') : Stt K F R (upd H a o) (updM M a m') := by
  obtain ⟨fa, u, ha, ru⟩ := s.ow _ _ h
  have hn : ∀ q, H a ≠ some (LamX.CodeO a q) := fun q z => by
    rw [ha] at z
    cases z
    unfold LamX.CodeO at ru
    cases m with
    | raw v => exact hm v rfl
    | _ => exact ru
  refine ⟨fun b u e => ?_, fun b u e => ?_, fun b u e => ?_, s.nf, s.nr⟩
  · rw [upd_ne (ne_of_none e fa)]; exact s.fz _ _ e
  · obtain ⟨h1, h2, h3⟩ := s.rs _ _ e
    have q : b ≠ a := fun z => by subst z; rw [h] at h3; cases h3
    rw [updM_ne q]
    exact ⟨h1.step (fun c v n ec => by rw [upd_ne n]; exact ec) q hn, h2, h3⟩
  · by_cases q : b = a
    · subst q
      rw [updM_same] at e
      cases e
      exact ⟨fa, o, upd_same, r⟩
    · rw [updM_ne q] at e
      obtain ⟨h1, u, h2, h3⟩ := s.ow _ _ e
      exact ⟨h1, u, by rw [upd_ne q]; exact h2, h3⟩
/-- part of M is forgotten -/
theorem Stt.less {K : PySem.W.Frag} {F R H : Hp} {M M' : Mp} (s : Stt K F R H M) (h : ∀ a m, M' a = some m → M a = some m) : Stt K F R H M' :=
  ⟨s.fz, fun a o e => by
    obtain ⟨h1, h2, h3⟩ := s.rs a o e
    refine ⟨h1, h2, ?_⟩
    exact (match q : M' a with
      | none => rfl
      | some m => by rw [h _ _ q] at h3; cases h3), fun a m e => s.ow a m (h a m e), s.nf, s.nr⟩
/-- what was set aside is given up -/
theorem Stt.unset {K : PySem.W.Frag} {F R R' H : Hp} {M : Mp} (s : Stt K F R H M) (h : ∀ a o, R' a = some o → R a = some o) : Stt K F R' H M :=
  ⟨s.fz, fun a o e => s.rs a o (h a o e), s.ow, s.nf, fun a o e => s.nr a o (h a o e)⟩
/-- a part of M is set aside -/
theorem Stt.aside {K : PySem.W.Frag} {F R H : Hp} {M : Mp} {p : Addr} {o : HO} (s : Stt K F R H M) (h : RsOk H p o) (hf : F p = none) (hm : M p = none) (hx : NX o := by trivial) : Stt K F (upd R p o) H M :=
  ⟨s.fz, fun a u e => by
    exact if q : a = p then by subst q; rw [upd_same] at e; cases e; exact ⟨h, hf, hm⟩
      else by rw [upd_ne q] at e; exact s.rs a u e, s.ow, s.nf, fun a u e => if q : a = p then by subst q; rw [upd_same] at e; cases e; exact hx else by rw [upd_ne q] at e; exact s.nr a u e⟩
end DL

/-! DL, the rules: expressions -/
namespace DL
open PySem PySem.Spec PyProof.Rows L2

/-! ### readings are weakened -/
section
variable {X : Cx}
theorem peImp {e : Expr} {t t' : TE} (h : PE X e t) (k : ∀ σ H Q, t' σ H Q → t σ H Q) : PE X e t' := ⟨fun pins s σ H Q I q => h.run pins s σ H Q I (k _ _ _ q)⟩
theorem ptImp {e : Expr} {t t' : TT} (h : PT X e t) (k : ∀ σ H Q, t' σ H Q → t σ H Q) : PT X e t' := ⟨fun pins s σ H Q I q => h.run pins s σ H Q I (k _ _ _ q)⟩
theorem pwImp {e : Expr} {t t' : TT} (h : PW X e t) (k : ∀ σ H Q, t' σ H Q → t σ H Q) : PW X e t' := ⟨fun wh pins s σ H Q I q => h.run wh pins s σ H Q I (k _ _ _ q)⟩
theorem paImp {es : List Expr} {t t' : TA} (h : PA X es t) (k : ∀ σ H Q, t' σ H Q → t σ H Q) : PA X es t' := ⟨fun pos pins s σ H Q I q => h.run pos pins s σ H Q I (k _ _ _ q)⟩
theorem psImp {st : Stmt} {t t' : TS} (h : PS X st t) (k : ∀ D σ H, t' D σ H → t D σ H) : PS X st t' := ⟨fun pins s σ H D I q => h.run pins s σ H D I (k _ _ _ q)⟩
theorem pssImp {st : List Stmt} {t t' : TS} (h : PSs X st t) (k : ∀ D σ H, t' D σ H → t D σ H) : PSs X st t' := ⟨fun pins s σ H D I q => h.run pins s σ H D I (k _ _ _ q)⟩
theorem pgImp {e : Expr} {t t' : TG} (h : PG X e t) (k : ∀ v σ H Q, t' v σ H Q → t v σ H Q) : PG X e t' := ⟨fun pins s σ H v u Q I r q => h.run pins s σ H v u Q I r (k _ _ _ _ q)⟩
theorem opImp {f : Value → Value → Sem Value} {r r' : R2} (h : OpR X f r) (k : ∀ x y H Q, r' x y H Q → r x y H Q) : OpR X f r' := fun pins s σ H x y v u Q I rx ry q => h pins s σ H x y v u Q I rx ry (k _ _ _ _ q)
theorem unImp {f : Value → Sem Value} {r r' : V → Hp → VK → Prop} (h : UnR X f r) (k : ∀ x H Q, r' x H Q → r x H Q) : UnR X f r' := fun pins s σ H x v Q I rx q => h pins s σ H x v Q I rx (k _ _ _ q)
theorem caImp {f : Value} {r r' : List V → Hp → VK → Prop} (h : CallR X f r) (k : ∀ xs H Q, r' xs H Q → r xs H Q) : CallR X f r' := fun pins s σ H xs us Q I rx q => h pins s σ H xs us Q I rx (k _ _ _ q)
theorem ixImp {r r' : R2} (h : IxR X r) (k : ∀ x y H Q, r' x y H Q → r x y H Q) : IxR X r' := fun value slice pins s σ H x y v u Q I rx ry q => h value slice pins s σ H x y v u Q I rx ry (k _ _ _ _ q)
theorem mtImp {id : String} {r r' : V → List V → Hp → VK → Prop} (h : MtR X id r) (k : ∀ x xs H Q, r' x xs H Q → r x xs H Q) : MtR X id r' := fun pins s σ H x xs v us Q I rx rs q => h pins s σ H x xs v us Q I rx rs (k _ _ _ _ q)
end

/-- the items of a list; of a list or a tuple -/
def lsOf (M : Mp) : D → Option (List D)
  | .lst ds => some ds
  | .lsk ds => some ds
  | .ref a => match M a with
    | some (.lst ds) => some ds
    | _ => none
  | _ => none
/-- .. of a list that is tracked by itself -/
def ltOf (M : Mp) : D → Option (List D)
  | .lst ds => some ds
  | .ref a => match M a with
    | some (.lst ds) => some ds
    | _ => none
  | _ => none
def sqOf (M : Mp) : D → Option (List D)
  | .tup ds => some ds
  | .lst ds => some ds
  | .lsk ds => some ds
  | .ref a => match M a with
    | some (.lst ds) => some ds
    | _ => none
  | _ => none
theorem sqOf_cases {M : Mp} {d : D} {ds : List D} (h : sqOf M d = some ds) : d = .tup ds ∨ lsOf M d = some ds := by
  cases d with
  | tup es => exact .inl (congrArg D.tup (Option.some.inj h))
  | lst es => exact .inr h
  | lsk es => exact .inr h
  | ref a => exact .inr h
  | _ => cases h
section
variable {K : PySem.W.Frag} {F R H : Hp} {M : Mp}
theorem lt_get {x : V} {d : D} {ds : List D} (s : Stt K F R H M) (r : Rep K F x d) (h : ltOf M d = some ds) : ∃ a xs, x = .ref a ∧ H a = some (.lst xs) ∧ RepAll K F xs ds := by
  cases d with
  | lst es =>
    cases Option.some.inj h
    cases r with
    | lst hs ha => exact ⟨_, _, rfl, s.fz _ _ hs, ha⟩
  | ref a =>
    cases r
    have h' : (match M a with | some (.lst ds) => some ds | _ => none) = some ds := h
    split at h'
    · rename_i es e
      cases h'
      obtain ⟨_, o, ho, ro⟩ := s.ow _ _ e
      obtain ⟨xs, rfl, ra⟩ := ro.lst_iff
      exact ⟨a, xs, rfl, ho, ra⟩
    · cases h'
  | _ => cases h
theorem ls_get {x : V} {d : D} {ds : List D} (s : Stt K F R H M) (r : Rep K F x d) (h : lsOf M d = some ds) : ∃ a xs, x = .ref a ∧ SqL K H a xs ∧ RepAll K F xs ds := by
  cases d with
  | lst es =>
    cases Option.some.inj h
    cases r with
    | lst hs ha => exact ⟨_, _, rfl, .inl (.inl (s.fz _ _ hs)), ha⟩
  | lsk es =>
    cases Option.some.inj h
    cases r with
    | lsk hs ha => exact ⟨_, _, rfl, sqLMono s.fz hs, ha⟩
  | ref a =>
    cases r
    have h' : (match M a with | some (.lst ds) => some ds | _ => none) = some ds := h
    split at h'
    · rename_i es e
      cases h'
      obtain ⟨_, o, ho, ro⟩ := s.ow _ _ e
      obtain ⟨xs, rfl, ra⟩ := ro.lst_iff
      exact ⟨a, xs, rfl, .inl (.inl ho), ra⟩
    · cases h'
  | _ => cases h
theorem tp_get {x : V} {ds : List D} (s : Stt K F R H M) (r : Rep K F x (.tup ds)) : ∃ a xs, x = .ref a ∧ SqT K H a xs ∧ RepAll K F xs ds := by
  cases r with
  | tup hs ha => exact ⟨_, _, rfl, sqTMono s.fz hs, ha⟩
theorem sq_get {x : V} {d : D} {ds : List D} (s : Stt K F R H M) (r : Rep K F x d) (h : sqOf M d = some ds) : ∃ a xs, x = .ref a ∧ (SqL K H a xs ∨ SqT K H a xs) ∧ RepAll K F xs ds := by
  rcases sqOf_cases h with rfl | h
  · obtain ⟨a, xs, e, q, ra⟩ := tp_get s r
    exact ⟨a, xs, e, .inr q, ra⟩
  · obtain ⟨a, xs, e, q, ra⟩ := ls_get s r h
    exact ⟨a, xs, e, .inl q, ra⟩
/-- a new tuple, a new list: data from then on -/
theorem KE.tup {Q' : QD} {Q : VK} {xs : List V} {ds : List D} {p : Addr} (k : KE K F R Q' Q) (s : Stt K F R H M) (hp : H p = none) (r : RepAll K F xs ds) (q : Q' (.tup ds) M) : Q (.ref p) (upd H p (.tup xs)) := by
  obtain ⟨s2, e⟩ := s.freeze (o := .tup xs) hp
  exact k _ _ _ _ _ e s2 (.tup (.inl (.inl upd_same)) (r.ext e)) q
theorem KE.lst {Q' : QD} {Q : VK} {xs : List V} {ds : List D} {p : Addr} (k : KE K F R Q' Q) (s : Stt K F R H M) (hp : H p = none) (r : RepAll K F xs ds) (q : Q' (.lst ds) M) : Q (.ref p) (upd H p (.lst xs)) := by
  obtain ⟨s2, e⟩ := s.freeze (o := .lst xs) hp
  exact k _ _ _ _ _ e s2 (.lst upd_same (r.ext e)) q
theorem KE.own {Q' : QD} {Q : VK} {o : HO} {m : MO} {p : Addr} (k : KE K F R Q' Q) (s : Stt K F R H M) (hp : H p = none) (r : RepO K F o m) (q : M p = none → Q' (.ref p) (updM M p m)) : Q (.ref p) (upd H p o) := by
  obtain ⟨s2, mp⟩ := s.own hp r
  exact k _ _ _ _ _ Ext.refl s2 (.ref p) (q mp)
end

/-! ### names, constants -/
def dVar (i : Nat) : DE := fun τ M Q => match τ[i]? with
  | some (some d) => Q d M
  | _ => False
def dC (d : D) : DE := fun _ M Q => Q d M
section
variable {X : Cx} {F0 : Bs}
theorem pd_var {e : Expr} {i : Nat} (h : PE X e (tVar i)) : PE X e (liE X.K F0 (dVar i)) := by
  refine peImp h fun σ H Q ⟨F, R, τ, M, Q', e0, st, sl, q, k⟩ => ?_
  unfold dVar at q
  split at q
  · rename_i d ed
    obtain ⟨v, ev, r⟩ := sl.get ed
    exact ⟨v, ev, k _ _ _ _ _ Ext.refl st r q⟩
  · exact q.elim
theorem pd_c {e : Expr} {v : V} {d : D} (h : PE X e (tC v)) (r : ∀ F, Rep X.K F v d) : PE X e (liE X.K F0 (dC d)) :=
  peImp h fun σ H Q ⟨F, R, τ, M, Q', e0, st, sl, q, k⟩ => k _ _ _ _ _ Ext.refl st (r F) q
theorem pd_int {i j pos} : PE X (.Constant (.int i) j pos) (liE X.K F0 (dC (.int i))) := pd_c pe_int fun _ => .int i
theorem pd_bl {b j pos} : PE X (.Constant (.bool b) j pos) (liE X.K F0 (dC (.bl b))) := pd_c pe_bl fun _ => .bl b
theorem pd_non {j pos} : PE X (.Constant .none j pos) (liE X.K F0 (dC .non)) := pd_c pe_non fun _ => .non
theorem pd_str {x j pos} : PE X (.Constant (.str x) j pos) (liE X.K F0 (dC (.str x))) := pd_c pe_str fun _ => .str x
/-- the name in the i-th slot -/
theorem dv (i : Nat) {x : Str} {pos : Pos} (hN : X.N[i]? = some x := by rfl) (hv : Vis X.env.scope x := by first | exact Or.inl rfl | exact Or.inr (Or.inl rfl) | exact Or.inr (Or.inr rfl)) (hd : (x == ("__debug__" : Str)) = false := by decide)
    (hcd : (x == ("__classdict__" : Str)) = false := by decide) : PE X (.Name x pos) (liE X.K F0 (dVar i)) := pd_var (pe_var hN hv hd hcd)
/-- a module's constant -/
theorem pd_glob {x : Str} {v : V} {d : D} {u : Value} {pos : Pos} (hg : Gl X x) (hm : X.mg x = some u) (r : RelV v u) (rd : ∀ F, Rep X.K F v d) (hd : (x == ("__debug__" : Str)) = false := by decide) : PE X (.Name x pos) (liE X.K F0 (dC d)) := pd_c (pe_glob hg hm r hd) rd
theorem pd_bltn {x : Str} {v : V} {d : D} {u : Value} {pos : Pos} (hg : Gl X x) (hm : X.mg x = none) (hv : bootBuiltins x = some u) (r : RelV v u) (rd : ∀ F, Rep X.K F v d) (hn : x ≠ "__name__" := by decide) (hd : (x == ("__debug__" : Str)) = false := by decide) : PE X (.Name x pos) (liE X.K F0 (dC d)) := pd_c (pe_bltn hg hm hv r hn hd) rd
end

/-! ### two places -/
abbrev R2D := D → D → Mp → QD → Prop
def dOp (r : R2D) (ta tb : DE) : DE := fun τ M Q => ta τ M fun x M1 => tb τ M1 fun y M2 => r x y M2 Q
def dUn (r : D → Mp → QD → Prop) (ta : DE) : DE := fun τ M Q => ta τ M fun x M1 => r x M1 Q
theorem li_op {K : PySem.W.Frag} {F0 : Bs} {r : R2D} {ta tb : DE} {σ : L2.St} {H : Hp} {Q : VK} (h : liE K F0 (dOp r ta tb) σ H Q) : tOp (liR K F0 r) (liE K F0 ta) (liE K F0 tb) σ H Q := by
  obtain ⟨F, R, τ, M, Q', e0, st, sl, q, k⟩ := h
  refine ⟨F, R, τ, M, _, e0, st, sl, q, fun v H1 F1 d M1 e1 st1 r1 q1 => ?_⟩
  refine ⟨F1, R, τ, M1, _, e0.trans e1, st1, sl.ext e1, q1, fun u H2 F2 d2 M2 e2 st2 r2 q2 => ?_⟩
  exact ⟨F2, R, M2, d, d2, Q', e0.trans (e1.trans e2), st2, r1.ext e2, r2, q2, k.ext (e1.trans e2)⟩
theorem li_un {K : PySem.W.Frag} {F0 : Bs} {r : D → Mp → QD → Prop} {ta : DE} {σ : L2.St} {H : Hp} {Q : VK} (h : liE K F0 (dUn r ta) σ H Q) : tUn (liU K F0 r) (liE K F0 ta) σ H Q := by
  obtain ⟨F, R, τ, M, Q', e0, st, sl, q, k⟩ := h
  refine ⟨F, R, τ, M, _, e0, st, sl, q, fun v H1 F1 d M1 e1 st1 r1 q1 => ?_⟩
  exact ⟨F1, R, M1, d, Q', e0.trans e1, st1, r1, q1, k.ext e1⟩
section
variable {X : Cx} {F0 : Bs} {a b c : Expr} {ta tb tc : DE} {pos : Pos}
abbrev OpD (X : Cx) (F0 : Bs) (f : Value → Value → Sem Value) (r : R2D) : Prop := OpR X f (liR X.K F0 r)
theorem pd_op {op : Operator} {r : R2D} (ho : OpD X F0 (binaryOp op) r) (ha : PE X a (liE X.K F0 ta)) (hb : PE X b (liE X.K F0 tb)) : PE X (.BinOp a op b pos) (liE X.K F0 (dOp r ta tb)) :=
  peImp (pe_op ho ha hb) fun _ _ _ => li_op
theorem pd_un {op : UnaryOp} {r : D → Mp → QD → Prop} (ho : UnR X (unaryOp op) (liU X.K F0 r)) (ha : PE X a (liE X.K F0 ta)) : PE X (.UnaryOp op a pos) (liE X.K F0 (dUn r ta)) :=
  peImp (pe_un ho ha) fun _ _ _ => li_un
theorem pd_cmp {op : CmpOp} {r : R2D} (ho : OpD X F0 (compareOp op) r) (ha : PE X a (liE X.K F0 ta)) (hb : PE X b (liE X.K F0 tb)) (hm : behindInMarks op b = false) : PE X (.Compare a [op] [b] pos) (liE X.K F0 (dOp r ta tb)) :=
  peImp (pe_cmpR ho ha hb hm) fun _ _ _ => li_op
/-- a value as a test -/
def dTest (t : DE) : DT := fun τ M Q => t τ M fun d M1 => match d with
  | .bl k => Q k M1
  | _ => False
theorem li_test {K : PySem.W.Frag} {t : DE} {t0 : TE} (h0 : ∀ σ H Q, liE K F0 t σ H Q → t0 σ H Q) {σ : L2.St} {H : Hp} {Q : Bool → Hp → Prop} (h : liT K F0 (dTest t) σ H Q) : tTest t0 σ H Q := by
  obtain ⟨F, R, τ, M, Q', e0, st, sl, q, k⟩ := h
  refine h0 _ _ _ ⟨F, R, τ, M, _, e0, st, sl, q, fun v H1 F1 d M1 e1 st1 r1 q1 => ?_⟩
  cases d with
  | bl b => cases r1; exact ⟨b, rfl, k _ _ _ _ e1 st1 q1⟩
  | _ => exact q1.elim
theorem td_cmp {op : CmpOp} {r : R2D} (ho : OpD X F0 (compareOp op) r) (ha : PE X a (liE X.K F0 ta)) (hb : PE X b (liE X.K F0 tb)) (hm : behindInMarks op b = false) : PT X (.Compare a [op] [b] pos) (liT X.K F0 (dTest (dOp r ta tb))) :=
  ptImp (pt_cmpR ho ha hb hm) fun _ _ _ => li_test fun _ _ _ => li_op
def dChain (r r' : R2D) (ta tb tc : DE) : DE := fun τ M Q => ta τ M fun x M1 => tb τ M1 fun y M2 => r x y M2 fun z M3 => match z with
  | .bl true => tc τ M3 fun w M4 => r' y w M4 Q
  | .bl false => Q (.bl false) M3
  | _ => False
theorem li_chain {K : PySem.W.Frag} {r r' : R2D} {σ : L2.St} {H : Hp} {Q : VK} (h : liE K F0 (dChain r r' ta tb tc) σ H Q) : tChain (liR K F0 r) (liR K F0 r') (liE K F0 ta) (liE K F0 tb) (liE K F0 tc) σ H Q := by
  obtain ⟨F, R, τ, M, Q', e0, st, sl, q, k⟩ := h
  refine ⟨F, R, τ, M, _, e0, st, sl, q, fun v H1 F1 d M1 e1 st1 r1 q1 => ?_⟩
  refine ⟨F1, R, τ, M1, _, e0.trans e1, st1, sl.ext e1, q1, fun u H2 F2 d2 M2 e2 st2 r2 q2 => ?_⟩
  refine ⟨F2, R, M2, d, d2, _, e0.trans (e1.trans e2), st2, r1.ext e2, r2, q2, fun z H3 F3 dz M3 e3 st3 r3 q3 => ?_⟩
  cases dz with
  | bl b =>
    cases r3
    cases b with
    | true =>
      refine ⟨true, rfl, ?_⟩
      rw [if_pos rfl]
      refine ⟨F3, R, τ, M3, _, e0.trans (e1.trans (e2.trans e3)), st3, sl.ext (e1.trans (e2.trans e3)), q3, fun z2 H4 F4 d4 M4 e4 st4 r4 q4 => ?_⟩
      exact ⟨F4, R, M4, d2, d4, Q', e0.trans (e1.trans (e2.trans (e3.trans e4))), st4, r2.ext (e3.trans e4), r4, q4, k.ext (e1.trans (e2.trans (e3.trans e4)))⟩
    | false => exact ⟨false, rfl, by rw [if_neg Bool.false_ne_true]; exact k _ _ _ _ _ (e1.trans (e2.trans e3)) st3 (.bl false) q3⟩
  | _ => exact q3.elim
theorem pd_chain {op op' : CmpOp} {r r' : R2D} (ho : OpD X F0 (compareOp op) r) (ho' : OpD X F0 (compareOp op') r') (ha : PE X a (liE X.K F0 ta)) (hb : PE X b (liE X.K F0 tb)) (hc : PE X c (liE X.K F0 tc))
    (hm : lastMarks [op, op'] [b, c] = false := by with_unfolding_all rfl) : PE X (.Compare a [op, op'] [b, c] pos) (liE X.K F0 (dChain r r' ta tb tc)) :=
  peImp (pe_chain ho ho' ha hb hc hm) fun _ _ _ => li_chain
theorem td_chain {op op' : CmpOp} {r r' : R2D} (ho : OpD X F0 (compareOp op) r) (ho' : OpD X F0 (compareOp op') r') (ha : PE X a (liE X.K F0 ta)) (hb : PE X b (liE X.K F0 tb)) (hc : PE X c (liE X.K F0 tc))
    (hm : lastMarks [op, op'] [b, c] = false := by with_unfolding_all rfl) : PT X (.Compare a [op, op'] [b, c] pos) (liT X.K F0 (dTest (dChain r r' ta tb tc))) :=
  ptImp (pt_chain ho ho' ha hb hc hm) fun _ _ _ => li_test fun _ _ _ => li_chain
end

/-! ### a value's truth -/
def dTru (d : D) (M : Mp) (Q : Bool → Mp → Prop) : Prop := match d with
  | .non => Q false M
  | .bl b => Q b M
  | .int i => Q (i != 0) M
  | .str x => x.length ≤ sizeLine ∧ Q ((x.length : Int) != 0) M
  | .tup ds => Q (!ds.isEmpty) M
  | .lst ds => Q (!ds.isEmpty) M
  | .lsk ds => Q (!ds.isEmpty) M
  | .ref a => match M a with
    | some (.lst ds) => Q (!ds.isEmpty) M
    | some (.dK kvs) => Q (!kvs.isEmpty) M
    | _ => False
  | _ => False
theorem RepAll.emp {K : PySem.W.Frag} {F : Hp} {xs : List V} {ds : List D} (r : RepAll K F xs ds) : ds.isEmpty = xs.isEmpty := by cases r <;> rfl
theorem RepKV.emp {K : PySem.W.Frag} {F : Hp} {κ : Type} {xs : List (κ × V)} {ds : List (κ × D)} (r : RepKV K F xs ds) : ds.isEmpty = xs.isEmpty := by cases r <;> rfl
theorem tru_get {K : PySem.W.Frag} {F R H : Hp} {M : Mp} {x : V} {d : D} {Q' : Bool → Mp → Prop} {Q : Bool → Hp → Prop} (s : Stt K F R H M) (r : Rep K F x d) (h : dTru d M Q') (k : KT K F R Q' Q) : ∃ b, TruV K x H b ∧ Q b H := by
  cases d with
  | non => cases r; exact ⟨false, rfl, k _ _ _ _ Ext.refl s h⟩
  | bl b => cases r; exact ⟨b, rfl, k _ _ _ _ Ext.refl s h⟩
  | int i => cases r; exact ⟨_, rfl, k _ _ _ _ Ext.refl s h⟩
  | str x => cases r; exact ⟨_, ⟨h.1, rfl⟩, k _ _ _ _ Ext.refl s h.2⟩
  | tup ds =>
    obtain ⟨a, xs, rfl, q, ra⟩ := tp_get s r
    have h : Q' (!ds.isEmpty) M := h
    rw [ra.emp] at h
    exact ⟨_, .inr (.inl ⟨xs, q, rfl⟩), k _ _ _ _ Ext.refl s h⟩
  | lst ds =>
    obtain ⟨a, xs, rfl, q, ra⟩ := ls_get (M := M) (ds := ds) s r rfl
    have h : Q' (!ds.isEmpty) M := h
    rw [ra.emp] at h
    exact ⟨_, .inl ⟨xs, q, rfl⟩, k _ _ _ _ Ext.refl s h⟩
  | lsk ds =>
    obtain ⟨a, xs, rfl, q, ra⟩ := ls_get (M := M) (ds := ds) s r rfl
    have h : Q' (!ds.isEmpty) M := h
    rw [ra.emp] at h
    exact ⟨_, .inl ⟨xs, q, rfl⟩, k _ _ _ _ Ext.refl s h⟩
  | ref a =>
    have h : (match M a with
      | some (.lst ds) => Q' (!ds.isEmpty) M
      | some (.dK kvs) => Q' (!kvs.isEmpty) M
      | _ => False) := h
    cases r
    split at h
    · rename_i ds e
      obtain ⟨_, o, ho, ro⟩ := s.ow _ _ e
      obtain ⟨xs, rfl, ra⟩ := ro.lst_iff
      rw [ra.emp] at h
      exact ⟨_, .inl ⟨xs, .inl (.inl ho), rfl⟩, k _ _ _ _ Ext.refl s h⟩
    · rename_i kvs e
      obtain ⟨_, o, ho, ro⟩ := s.ow _ _ e
      cases o <;> try exact ro.elim
      rename_i kvs'
      have ra : RepKV K F kvs' kvs := ro
      rw [ra.emp] at h
      exact ⟨_, .inr (.inr ⟨kvs', ho, rfl⟩), k _ _ _ _ Ext.refl s h⟩
    · exact h.elim
  | ty n => exact h.elim
  | fn a G => exact h.elim
def dTruth (t : DE) : DT := fun τ M Q => t τ M fun d M1 => dTru d M1 Q
section
variable {X : Cx} {F0 : Bs} {a b c : Expr} {ta tb tc : DE} {rest : List Expr} {pos : Pos}
theorem td_tru (ha : PE X a (liE X.K F0 ta)) (he : ∀ whole, isTrue a X.env whole = (do let v ← whole; standAt a.pos; holding [v] (truthy v)) := by intro _; rfl) : PT X a (liT X.K F0 (dTruth ta)) := by
  refine ptImp (pt_truth ha he) fun σ H Q ⟨F, R, τ, M, Q', e0, st, sl, q, k⟩ => ?_
  exact ⟨F, R, τ, M, _, e0, st, sl, q, fun v H1 F1 d M1 e1 st1 r1 q1 => tru_get st1 r1 q1 (k.ext e1)⟩
/-- x or y, x and y, not x as values -/
def dOr (ta tb : DE) : DE := fun τ M Q => ta τ M fun x M1 => dTru x M1 fun k M2 => if k = true then Q x M2 else tb τ M2 Q
def dAnd (ta tb : DE) : DE := fun τ M Q => ta τ M fun x M1 => dTru x M1 fun k M2 => if k = true then tb τ M2 Q else Q x M2
def dNot (ta : DE) : DE := fun τ M Q => ta τ M fun x M1 => dTru x M1 fun k M2 => Q (.bl (!k)) M2
/-- the truth of a value leaves everything -/
theorem dTru_pure {d : D} {M : Mp} {Q : Bool → Mp → Prop} (h : dTru d M Q) : ∃ b, Q b M ∧ ∀ Q2 : Bool → Mp → Prop, Q2 b M → dTru d M Q2 := by
  cases d with
  | non => exact ⟨_, h, fun _ z => z⟩
  | bl b => exact ⟨_, h, fun _ z => z⟩
  | int b => exact ⟨_, h, fun _ z => z⟩
  | str b => exact ⟨_, h.2, fun _ z => ⟨h.1, z⟩⟩
  | tup ds => exact ⟨_, h, fun _ z => z⟩
  | lst ds => exact ⟨_, h, fun _ z => z⟩
  | lsk ds => exact ⟨_, h, fun _ z => z⟩
  | ty n => exact h.elim
  | fn a G => exact h.elim
  | ref a =>
    have h : (match M a with
      | some (.lst ds) => Q (!ds.isEmpty) M
      | some (.dK kvs) => Q (!kvs.isEmpty) M
      | _ => False) := h
    show ∃ b, Q b M ∧ ∀ Q2 : Bool → Mp → Prop, Q2 b M → (match M a with
      | some (.lst ds) => Q2 (!ds.isEmpty) M
      | some (.dK kvs) => Q2 (!kvs.isEmpty) M
      | _ => False)
    split at h
    · exact ⟨_, h, fun Q2 z => z⟩
    · exact ⟨_, h, fun Q2 z => z⟩
    · exact h.elim
theorem tru_get2 {K : PySem.W.Frag} {F R H : Hp} {M : Mp} {x : V} {d : D} {Q' : Bool → Mp → Prop} (s : Stt K F R H M) (r : Rep K F x d) (h : dTru d M Q') : ∃ b, TruV K x H b ∧ Q' b M := by
  obtain ⟨b, q, h2⟩ := dTru_pure h
  have h3 := h2 (fun c M2 => c = b ∧ M2 = M) ⟨rfl, rfl⟩
  obtain ⟨c, t, e⟩ := tru_get (Q := fun c H2 => c = b) s r h3 fun c H2 F2 M2 _ _ z => z.1
  subst e
  exact ⟨c, t, q⟩
theorem pd_or (ha : PE X a (liE X.K F0 ta)) (hb : PE X (.BoolOp .Or (b :: rest) pos) (liE X.K F0 tb)) : PE X (.BoolOp .Or (a :: b :: rest) pos) (liE X.K F0 (dOr ta tb)) := by
  refine peImp (pe_orT ha hb) fun σ H Q ⟨F, R, τ, M, Q', e0, st, sl, q, k⟩ => ?_
  refine ⟨F, R, τ, M, _, e0, st, sl, q, fun v H1 F1 d M1 e1 st1 r1 q1 => ?_⟩
  obtain ⟨b, t, q2⟩ := tru_get2 st1 r1 q1
  refine ⟨b, t, ?_⟩
  cases b with
  | true => rw [if_pos rfl] at q2 ⊢; exact k _ _ _ _ _ e1 st1 r1 q2
  | false =>
    rw [if_neg Bool.false_ne_true] at q2 ⊢
    exact ⟨F1, R, τ, M1, _, e0.trans e1, st1, sl.ext e1, q2, k.ext e1⟩
theorem pd_and (ha : PE X a (liE X.K F0 ta)) (hb : PE X (.BoolOp .And (b :: rest) pos) (liE X.K F0 tb)) : PE X (.BoolOp .And (a :: b :: rest) pos) (liE X.K F0 (dAnd ta tb)) := by
  refine peImp (pe_andT ha hb) fun σ H Q ⟨F, R, τ, M, Q', e0, st, sl, q, k⟩ => ?_
  refine ⟨F, R, τ, M, _, e0, st, sl, q, fun v H1 F1 d M1 e1 st1 r1 q1 => ?_⟩
  obtain ⟨b, t, q2⟩ := tru_get2 st1 r1 q1
  refine ⟨b, t, ?_⟩
  cases b with
  | false => rw [if_neg Bool.false_ne_true] at q2 ⊢; exact k _ _ _ _ _ e1 st1 r1 q2
  | true =>
    rw [if_pos rfl] at q2 ⊢
    exact ⟨F1, R, τ, M1, _, e0.trans e1, st1, sl.ext e1, q2, k.ext e1⟩
theorem pd_one {op} (ha : PE X a (liE X.K F0 ta)) : PE X (.BoolOp op [a] pos) (liE X.K F0 ta) := pe_one ha
theorem pd_not (ha : PE X a (liE X.K F0 ta)) : PE X (.UnaryOp .Not a pos) (liE X.K F0 (dNot ta)) := by
  refine peImp (pe_notT ha) fun σ H Q ⟨F, R, τ, M, Q', e0, st, sl, q, k⟩ => ?_
  refine ⟨F, R, τ, M, _, e0, st, sl, q, fun v H1 F1 d M1 e1 st1 r1 q1 => ?_⟩
  obtain ⟨b, t, q2⟩ := tru_get2 st1 r1 q1
  exact ⟨b, t, k _ _ _ _ _ e1 st1 (.bl _) q2⟩
/-- tests: and, or, not -/
def dTAnd (t u : DT) : DT := fun τ M Q => t τ M fun c M1 => if c = true then u τ M1 Q else Q false M1
def dTOr (t u : DT) : DT := fun τ M Q => t τ M fun c M1 => if c = true then Q true M1 else u τ M1 Q
def dTNot (t : DT) : DT := fun τ M Q => t τ M fun c M1 => Q (!c) M1
variable {tA tB' : DT}
theorem wd_and1 (ha : PT X a (liT X.K F0 tA)) : PW X (.BoolOp .And [a] pos) (liT X.K F0 tA) := pw_and1 ha
theorem wd_or1 (ha : PT X a (liT X.K F0 tA)) : PW X (.BoolOp .Or [a] pos) (liT X.K F0 tA) := pw_or1 ha
theorem wd_and (ha : PT X a (liT X.K F0 tA)) (hb : PW X (.BoolOp .And (b :: rest) pos) (liT X.K F0 tB')) : PW X (.BoolOp .And (a :: b :: rest) pos) (liT X.K F0 (dTAnd tA tB')) := by
  refine pwImp (pw_and ha hb) fun σ H Q ⟨F, R, τ, M, Q', e0, st, sl, q, k⟩ => ?_
  refine ⟨F, R, τ, M, _, e0, st, sl, q, fun b H1 F1 M1 e1 st1 q1 => ?_⟩
  cases b with
  | true => rw [if_pos rfl] at q1 ⊢; exact ⟨F1, R, τ, M1, _, e0.trans e1, st1, sl.ext e1, q1, k.ext e1⟩
  | false => rw [if_neg Bool.false_ne_true] at q1 ⊢; exact k _ _ _ _ e1 st1 q1
theorem wd_or (ha : PT X a (liT X.K F0 tA)) (hb : PW X (.BoolOp .Or (b :: rest) pos) (liT X.K F0 tB')) : PW X (.BoolOp .Or (a :: b :: rest) pos) (liT X.K F0 (dTOr tA tB')) := by
  refine pwImp (pw_or ha hb) fun σ H Q ⟨F, R, τ, M, Q', e0, st, sl, q, k⟩ => ?_
  refine ⟨F, R, τ, M, _, e0, st, sl, q, fun b H1 F1 M1 e1 st1 q1 => ?_⟩
  cases b with
  | false => rw [if_neg Bool.false_ne_true] at q1 ⊢; exact ⟨F1, R, τ, M1, _, e0.trans e1, st1, sl.ext e1, q1, k.ext e1⟩
  | true => rw [if_pos rfl] at q1 ⊢; exact k _ _ _ _ e1 st1 q1
theorem td_not (ha : PT X a (liT X.K F0 tA)) : PT X (.UnaryOp .Not a pos) (liT X.K F0 (dTNot tA)) :=
  ptImp (pt_not ha) fun σ H Q ⟨F, R, τ, M, Q', e0, st, sl, q, k⟩ => ⟨F, R, τ, M, _, e0, st, sl, q, fun b H1 F1 M1 e1 st1 q1 => k _ _ _ _ e1 st1 q1⟩
/-- a if t else b -/
def dIf (t : DT) (ta tb : DE) : DE := fun τ M Q => t τ M fun c M1 => if c = true then ta τ M1 Q else tb τ M1 Q
theorem pd_if (hc : PT X c (liT X.K F0 tA)) (ha : PE X a (liE X.K F0 ta)) (hb : PE X b (liE X.K F0 tb)) : PE X (.IfExp c a b pos) (liE X.K F0 (dIf tA ta tb)) := by
  refine peImp (pe_ifExp hc ha hb) fun σ H Q ⟨F, R, τ, M, Q', e0, st, sl, q, k⟩ => ?_
  refine ⟨F, R, τ, M, _, e0, st, sl, q, fun b H1 F1 M1 e1 st1 q1 => ?_⟩
  cases b with
  | true => rw [if_pos rfl] at q1 ⊢; exact ⟨F1, R, τ, M1, _, e0.trans e1, st1, sl.ext e1, q1, k.ext e1⟩
  | false => rw [if_neg Bool.false_ne_true] at q1 ⊢; exact ⟨F1, R, τ, M1, _, e0.trans e1, st1, sl.ext e1, q1, k.ext e1⟩
end
end DL

/-! DL, the rules: operators, displays, subscripts -/
namespace DL
open PySem PySem.Spec PyProof.Rows L2

/-! ### ints -/
def dI (C : Int → Int → Prop) (g : Int → Int → Int) : R2D := fun x y M Q => match x, y with
  | .int i, .int j => C i j ∧ Q (.int (g i j)) M
  | _, _ => False
def dI0 (g : Int → Int → Int) : R2D := fun x y M Q => match x, y with
  | .int i, .int j => Q (.int (g i j)) M
  | _, _ => False
def dB0 (g : Int → Int → Bool) : R2D := fun x y M Q => match x, y with
  | .int i, .int j => Q (.bl (g i j)) M
  | _, _ => False
section
variable {X : Cx} {F0 : Bs} {f : Value → Value → Sem Value}
theorem od_I {C : Int → Int → Prop} {g : Int → Int → Int} (h : OpR X f (rI C fun i j => .int (g i j))) : OpD X F0 f (dI C g) := by
  refine opImp h fun x y H Q ⟨F, R, M, d, e, Q', e0, st, rx, ry, q, k⟩ => ?_
  cases d <;> try exact q.elim
  cases e <;> try exact q.elim
  cases rx; cases ry
  exact ⟨_, _, rfl, rfl, q.1, k _ _ _ _ _ Ext.refl st (.int _) q.2⟩
theorem od_I0 {g : Int → Int → Int} (h : OpR X f (rI0 fun i j => .int (g i j))) : OpD X F0 f (dI0 g) := by
  refine opImp h fun x y H Q ⟨F, R, M, d, e, Q', e0, st, rx, ry, q, k⟩ => ?_
  cases d <;> try exact q.elim
  cases e <;> try exact q.elim
  cases rx; cases ry
  exact ⟨_, _, rfl, rfl, k _ _ _ _ _ Ext.refl st (.int _) q⟩
theorem od_B0 {g : Int → Int → Bool} (h : OpR X f (rI0 fun i j => .bl (g i j))) : OpD X F0 f (dB0 g) := by
  refine opImp h fun x y H Q ⟨F, R, M, d, e, Q', e0, st, rx, ry, q, k⟩ => ?_
  cases d <;> try exact q.elim
  cases e <;> try exact q.elim
  cases rx; cases ry
  exact ⟨_, _, rfl, rfl, k _ _ _ _ _ Ext.refl st (.bl _) q⟩
abbrev dSub : R2D := dI0 fun i j => i - j
abbrev dFdiv : R2D := dI CDivW fun i j => i / j
abbrev dMod : R2D := dI (fun _ j => 0 < j) fun i j => i % j
abbrev dPow : R2D := dI CPow fun i j => i ^ j.toNat
abbrev dLt : R2D := dB0 fun i j => decide (i < j)
abbrev dLe : R2D := dB0 fun i j => decide (i ≤ j)
abbrev dGt : R2D := dB0 fun i j => decide (j < i)
abbrev dGe : R2D := dB0 fun i j => decide (j ≤ i)
theorem od_sub : OpD X F0 (binaryOp .Sub) dSub := od_I0 op_sub
theorem od_fdiv : OpD X F0 (binaryOp .FloorDiv) dFdiv := od_I op_fdivW
theorem od_mod : OpD X F0 (binaryOp .Mod) dMod := od_I op_mod
theorem od_pow : OpD X F0 (binaryOp .Pow) dPow := od_I op_pow
theorem od_lt : OpD X F0 (compareOp .Lt) dLt := od_B0 op_lt
theorem od_le : OpD X F0 (compareOp .LtE) dLe := od_B0 op_le
theorem od_gt : OpD X F0 (compareOp .Gt) dGt := od_B0 op_gt
theorem od_ge : OpD X F0 (compareOp .GtE) dGe := od_B0 op_ge
def dNeg : D → Mp → QD → Prop := fun x M Q => match x with
  | .int i => Q (.int (-i)) M
  | _ => False
theorem ud_neg : UnR X (unaryOp .USub) (liU X.K F0 dNeg) := by
  refine unImp un_neg fun x H Q ⟨F, R, M, d, Q', e0, st, rx, q, k⟩ => ?_
  cases d <;> try exact q.elim
  cases rx
  exact ⟨_, rfl, k _ _ _ _ _ Ext.refl st (.int _) q⟩

/-- + of ints, texts, tuples, lists (a new list) -/
def dAdd : R2D := fun x y M Q => match x, y with
  | .int i, .int j => Q (.int (i + j)) M
  | .str a, .str b => a.length + b.length ≤ sizeLine ∧ Q (.str (a ++ b)) M
  | .tup xs, .tup ys => xs.length + ys.length ≤ sizeLine ∧ Q (.tup (xs ++ ys)) M
  | x, y => match ltOf M x, ltOf M y with
    | some xs, some ys => xs.length + ys.length ≤ sizeLine ∧ Q (.lst (xs ++ ys)) M
    | _, _ => False
theorem od_add : OpD X F0 (binaryOp .Add) dAdd := by
  intro pins s σ H x y v u Q I rx ry ⟨F, R, M, d, e, Q', e0, st, rd, re, q, k⟩
  unfold dAdd at q
  split at q
  · cases rd; cases re
    exact op_add pins s σ H _ _ v u Q I rx ry ⟨_, _, rfl, rfl, k _ _ _ _ _ Ext.refl st (.int _) q⟩
  · cases rd; cases re
    exact op_add_str pins s σ H _ _ v u Q I rx ry ⟨_, _, rfl, rfl, q.1, k _ _ _ _ _ Ext.refl st (.str _) q.2⟩
  · rename_i xs ys
    have rd0 := rd
    have re0 := re
    obtain ⟨a, vs, rfl, h1, ra⟩ := tp_get st rd
    obtain ⟨b, us, rfl, h2, rb⟩ := tp_get st re
    refine op_catA pins s σ H _ _ v u Q I rx ry ⟨a, b, vs, us, rfl, rfl, h1, h2, by rw [ra.len, rb.len]; exact q.1, fun z => ?_, fun _ z => ?_, fun _ _ p hp => k.tup st hp (ra.app rb) q.2⟩
    · subst z
      cases ra
      exact k _ _ _ _ _ Ext.refl st re0 q.2
    · subst z
      cases rb
      have q2 := q.2
      rw [List.append_nil] at q2
      exact k _ _ _ _ _ Ext.refl st rd0 q2
  · split at q
    · rename_i xs ys h1 h2
      obtain ⟨a, vs, rfl, g1, ra⟩ := lt_get st rd h1
      obtain ⟨b, us, rfl, g2, rb⟩ := lt_get st re h2
      exact op_cat pins s σ H _ _ v u Q I rx ry ⟨a, b, vs, us, rfl, rfl, g1, g2, by rw [ra.len, rb.len]; exact q.1, fun p hp => k.lst st hp (ra.app rb) q.2⟩
    · exact q.elim
/-- a tuple, a few times -/
theorem op_repN : OpR X (binaryOp .Mult) (fun x y H Q => ∃ l k xs, x = .ref l ∧ y = .int k ∧ SqT X.K H l xs ∧ xs ≠ [] ∧ 2 ≤ k ∧ xs.length * k.toNat ≤ 1000000 ∧ ∀ p, H p = none → Q (.ref p) (upd H p (.tup (List.replicate k.toNat xs).flatten))) := by
  intro pins s σ H x y v u Q I rx ry h
  obtain ⟨l, k, xs, rfl, rfl, hT, hne, h1, hz, q⟩ := h
  cases rx
  obtain ⟨t, rfl⟩ := ry
  obtain ⟨its, r, ⟨⟨cls, dd, data, sl⟩, ho, hc, n, hd⟩, hs⟩ := I.tuple hT
  simp only at hc hd
  subst hc hd
  have hle : its.length = xs.length := r.length.symm
  have hn : its ≠ [] := fun e => hne (List.eq_nil_of_length_eq_zero (by rw [← hle, e]; rfl))
  have hpos : 1 ≤ xs.length := by
    cases xs with
    | nil => exact absurd rfl hne
    | cons a b => simp
  have hk : k.toNat ≤ 1000000 := Nat.le_trans (Nat.le_mul_of_pos_left k.toNat hpos) hz
  have hi : its.toArray.isEmpty = false := by
    cases its with
    | nil => exact absurd rfl hn
    | cons a b => rfl
  have hk2 : ((k.toNat : Nat) : Int) = k := Int.toNat_of_nonneg (by omega)
  have hm : ((its.toArray.size : Nat) : Int) * k ≤ 1000000 := by
    have z : ((xs.length * k.toNat : Nat) : Int) ≤ ((1000000 : Nat) : Int) := Int.ofNat_le.mpr hz
    rw [Int.natCast_mul, hk2] at z
    rw [List.size_toArray, hle]
    exact z
  have flen : (List.replicate k.toNat its).flatten.length ≤ sizeLine := by
    rw [PyProof.Rows.lm_len_rep_flat, hle, sizeLine_eq, Nat.mul_comm]
    omega
  have c4 : Builtin.Tuple.tupleTooMany (((its.toArray.size : Nat) : Int) * k) = false := by
    unfold Builtin.Tuple.tupleTooMany
    rw [sizeLine_eq]
    exact decide_eq_false (by omega)
  refine wpAny_binaryOp_repeat_ref (T := "tuple") (U := "int") (by decide) ⟨_, ho, rfl⟩ (fun s' => typeIs_int s' k t) noFill_tuple_mul F.fills_int_mul F.slot_int_rmul repeat_tuple F.slot_int_index.lookup
    (call_meets F.slot_int_rmul (typeIs_int s k t) F.entry_int_rmul (F.args_int_rmul_2 _ _) (int_rmul_tuple k t l its.toArray n dd sl)
      ⟨ho, rfl, ⟨_, ho, rfl⟩, call_meets F.slot_tuple_mul ⟨_, ho, rfl⟩ F.entry_tuple_mul (F.args_tuple_mul_2 _ _)
        (tuple_mulW l its.toArray n dd sl k t (by rw [decide_eq_false (by omega), decide_eq_false (by omega)] <;> rfl) (by rw [hi, Bool.false_or]; exact beq_eq_false_iff_ne.mpr (by omega)) (by rw [hi, Bool.or_false]; exact decide_eq_false (by omega)) (by omega) c4 (by rw [size_rep, List.size_toArray]; exact flen)) ⟨ho, ?_⟩⟩)
  rw [size_rep]
  refine ⟨.ref s.heap.objs.size, _, I.laid (t' := s.toks) (o := .tup (List.replicate k.toNat xs).flatten) (fun b ob q => Heap.get?_push_of_some _ q) (Nat.le_refl _) ?_, rfl, q _ (I.hok.fresh (Nat.le_refl _))⟩
  exact ⟨by rw [PyProof.Rows.lm_len_rep_flat, sizeLine_eq, Nat.mul_comm]; omega, _, r.rep k.toNat, IsTup.new _ _⟩
theorem RepAll.reps {K : PySem.W.Frag} {F : Hp} {xs : List V} {ds : List D} (r : RepAll K F xs ds) : ∀ k : Nat, RepAll K F (List.replicate k xs).flatten (List.replicate k ds).flatten
  | 0 => .nil
  | k + 1 => by
    rw [List.replicate_succ, List.replicate_succ, List.flatten_cons, List.flatten_cons]
    exact r.app (RepAll.reps r k)
/-- * of ints (one of them below 2 ^ 64, or together below a million bits), of a tuple or a list and a number -/
def CMulA (i j : Int) : Prop := CMul i j ∨ CMulW i j
def dMul : R2D := fun x y M Q => match x, y with
  | .int i, .int j => CMulA i j ∧ Q (.int (i * j)) M
  | .tup xs, .int k => xs ≠ [] ∧ 2 ≤ k ∧ xs.length * k.toNat ≤ 1000000 ∧ Q (.tup (List.replicate k.toNat xs).flatten) M
  | x, .int k => match ltOf M x with
    | some xs => -(2 ^ 63) ≤ k ∧ k < 2 ^ 63 ∧ xs.length * k.toNat ≤ sizeLine ∧ Q (.lst (List.replicate k.toNat xs).flatten) M
    | none => False
  | _, _ => False
theorem od_mul : OpD X F0 (binaryOp .Mult) dMul := by
  intro pins s σ H x y v u Q I rx ry ⟨F, R, M, d, e, Q', e0, st, rd, re, q, k⟩
  unfold dMul at q
  split at q
  · cases rd; cases re
    obtain ⟨c, q⟩ := q
    rcases c with c | c
    · exact op_mul pins s σ H _ _ v u Q I rx ry ⟨_, _, rfl, rfl, c, k _ _ _ _ _ Ext.refl st (.int _) q⟩
    · exact op_mulW pins s σ H _ _ v u Q I rx ry ⟨_, _, rfl, rfl, c, k _ _ _ _ _ Ext.refl st (.int _) q⟩
  · obtain ⟨a, vs, rfl, h1, ra⟩ := tp_get st rd
    cases re
    refine op_repN pins s σ H _ _ v u Q I rx ry ⟨a, _, vs, rfl, rfl, h1, fun z => q.1 ?_, q.2.1, by rw [ra.len]; exact q.2.2.1, fun p hp => k.tup st hp (ra.reps _) q.2.2.2⟩
    subst z; cases ra; rfl
  · split at q
    · rename_i xs h1
      obtain ⟨a, vs, rfl, g1, ra⟩ := lt_get st rd h1
      cases re
      exact op_rep pins s σ H _ _ v u Q I rx ry ⟨a, _, vs, rfl, rfl, g1, q.1, q.2.1, by rw [ra.len]; exact q.2.2.1, fun p hp => k.lst st hp (ra.reps _) q.2.2.2⟩
    · exact q.elim
  · exact q.elim
end

/-! ### ==, != of data; is None -/
mutual
def D.py : D → Option PyData
  | .non => some .none
  | .bl b => some (.bool b)
  | .int i => some (.int i)
  | .str x => some (.str x)
  | .tup ds => match pyAll ds with
    | some ps => some (.tuple ps)
    | none => none
  | .lst ds => match pyAll ds with
    | some ps => some (.list ps)
    | none => none
  | .lsk ds => match pyAll ds with
    | some ps => some (.list ps)
    | none => none
  | .ref _ => none
  | .ty _ => none
  | .fn _ _ => none
def pyAll : List D → Option (List PyData)
  | [] => some []
  | d :: ds => match d.py, pyAll ds with
    | some p, some ps => some (p :: ps)
    | _, _ => none
end
/-- a list that is changed in place, read as data -/
def drf (M : Mp) : D → D
  | .ref a => match M a with
    | some (.lst ds) => .lst ds
    | _ => .ref a
  | d => d
section
variable {K : PySem.W.Frag} {F H : Hp}
mutual
theorem Rep.dp (hF : Ext F H) : ∀ (d : D) (p : PyData) (v : V), Rep K F v d → d.py = some p → Dp K H v p
  | .non, _, _, h, e => by cases h; cases e; exact .non
  | .bl b, _, _, h, e => by cases h; cases e; exact .bl b
  | .int b, _, _, h, e => by cases h; cases e; exact .int b
  | .str b, _, _, h, e => by cases h; cases e; exact .str b
  | .ref a, _, _, h, e => by cases e
  | .ty a, _, _, h, e => by cases e
  | .fn a G, _, _, h, e => by cases e
  | .tup ds, p, _, h, e => by
    cases h with
    | tup hs ha =>
      have e : (match pyAll ds with | some ps => some (PyData.tuple ps) | none => none) = some p := e
      split at e
      · rename_i ps ep
        cases e
        exact .tup (sqTMono hF hs) (RepAll.dps hF ds ps _ ha ep)
      · cases e
  | .lst ds, p, _, h, e => by
    cases h with
    | lst hs ha =>
      have e : (match pyAll ds with | some ps => some (PyData.list ps) | none => none) = some p := e
      split at e
      · rename_i ps ep
        cases e
        exact .lst (.inl (.inl (hF _ _ hs))) (RepAll.dps hF ds ps _ ha ep)
      · cases e
  | .lsk ds, p, _, h, e => by
    cases h with
    | lsk hs ha =>
      have e : (match pyAll ds with | some ps => some (PyData.list ps) | none => none) = some p := e
      split at e
      · rename_i ps ep
        cases e
        exact .lst (sqLMono hF hs) (RepAll.dps hF ds ps _ ha ep)
      · cases e
theorem RepAll.dps (hF : Ext F H) : ∀ (ds : List D) (ps : List PyData) (vs : List V), RepAll K F vs ds → pyAll ds = some ps → DpAll K H vs ps
  | [], _, _, h, e => by cases h; cases e; exact .nil
  | d :: ds, qs, _, h, e => by
    cases h with
    | cons h1 h2 =>
      have e : (match d.py, pyAll ds with | some p, some ps => some (p :: ps) | _, _ => none) = some qs := e
      split at e
      · rename_i p ps e1 e2
        cases e
        exact .cons (Rep.dp hF d p _ h1 e1) (RepAll.dps hF ds ps _ h2 e2)
      · cases e
end
theorem dp_drf {R : Hp} {M : Mp} {v : V} {d : D} {p : PyData} (st : Stt K F R H M) (r : Rep K F v d) (e : (drf M d).py = some p) : Dp K H v p := by
  cases d with
  | ref a =>
    cases r
    have e : D.py (match M a with | some (.lst ds) => D.lst ds | _ => .ref a) = some p := e
    split at e
    · rename_i ds em
      obtain ⟨_, o, ho, ro⟩ := st.ow _ _ em
      obtain ⟨xs, rfl, ra⟩ := ro.lst_iff
      have e : (match pyAll ds with | some ps => some (PyData.list ps) | none => none) = some p := e
      split at e
      · rename_i ps ep
        cases e
        exact .lst (.inl (.inl ho)) (RepAll.dps st.fz ds ps _ ra ep)
      · cases e
    · cases e
  | _ => exact Rep.dp st.fz _ p v r e
end
/-- the plain ones, straight -/
def scalD : D → D → Option Bool
  | .int i, .int j => some (decide (i = j))
  | .str a, .str b => some (decide (a = b))
  | .bl a, .bl b => some (decide (a = b))
  | .non, .non => some true
  | .non, .int _ => some false
  | .int _, .non => some false
  | .non, .bl _ => some false
  | .bl _, .non => some false
  | .non, .str _ => some false
  | .str _, .non => some false
  | .int _, .str _ => some false
  | .str _, .int _ => some false
  | .bl _, .str _ => some false
  | .str _, .bl _ => some false
  | _, _ => none
def dEqS (x y : D) (M : Mp) (Q : Bool → Prop) : Prop := match (drf M x).py, (drf M y).py with
  | some p, some q => SeqAt.shaped p = true ∧ SeqAt.shaped q = true ∧ Q (PyData.eqv p q)
  | _, _ => False
def dEq : R2D := fun x y M Q => match scalD x y with
  | some b => Q (.bl b) M
  | none => dEqS x y M fun b => Q (.bl b) M
def dNe : R2D := fun x y M Q => match scalD x y with
  | some b => Q (.bl (!b)) M
  | none => dEqS x y M fun b => Q (.bl (!b)) M
theorem scalD_ok {K : PySem.W.Frag} {F : Hp} {x y : V} {d e : D} {b : Bool} (r : Rep K F x d) (s : Rep K F y e) (h : scalD d e = some b) : scal x y = true ∧ decide (x = y) = b := by
  cases r <;> cases s <;> first | (cases h; exact ⟨rfl, by simp⟩) | cases h
def D.isN : D → Bool
  | .non => true
  | _ => false
def dIsN : R2D := fun x y M Q => match y with
  | .non => Q (.bl x.isN) M
  | _ => False
def dNotN : R2D := fun x y M Q => match y with
  | .non => Q (.bl (!x.isN)) M
  | _ => False
section
variable {X : Cx} {F0 : Bs}
theorem od_eq (hu : X.A.units + 64 < cLine) : OpD X F0 (compareOp .Eq) dEq := by
  intro pins s σ H x y v u Q I rx ry ⟨F, R, M, d, e, Q', e0, st, rd, re, q, k⟩
  unfold dEq at q
  split at q
  · rename_i b hb
    obtain ⟨h1, h2⟩ := scalD_ok rd re hb
    exact op_eq pins s σ H x y v u Q I rx ry ⟨h1, by rw [h2]; exact k _ _ _ _ _ Ext.refl st (.bl _) q⟩
  · unfold dEqS at q
    split at q
    · rename_i p q' h1 h2
      exact op_eqD hu pins s σ H x y v u Q I rx ry ⟨p, q', dp_drf st rd h1, dp_drf st re h2, q.1, q.2.1, k _ _ _ _ _ Ext.refl st (.bl _) q.2.2⟩
    · exact q.elim
theorem od_ne (hu : X.A.units + 64 < cLine) : OpD X F0 (compareOp .NotEq) dNe := by
  intro pins s σ H x y v u Q I rx ry ⟨F, R, M, d, e, Q', e0, st, rd, re, q, k⟩
  unfold dNe at q
  split at q
  · rename_i b hb
    obtain ⟨h1, h2⟩ := scalD_ok rd re hb
    exact op_ne pins s σ H x y v u Q I rx ry ⟨h1, by rw [h2]; exact k _ _ _ _ _ Ext.refl st (.bl _) q⟩
  · unfold dEqS at q
    split at q
    · rename_i p q' h1 h2
      exact op_neD hu pins s σ H x y v u Q I rx ry ⟨p, q', dp_drf st rd h1, dp_drf st re h2, q.1, q.2.1, k _ _ _ _ _ Ext.refl st (.bl _) q.2.2⟩
    · exact q.elim
theorem rep_non {K : PySem.W.Frag} {F : Hp} {x : V} {d : D} (r : Rep K F x d) : d.isN = decide (x = .non) := by
  cases r <;> simp [D.isN]
theorem od_isN : OpD X F0 (compareOp .Is) dIsN := by
  refine opImp op_isN fun x y H Q ⟨F, R, M, d, e, Q', e0, st, rd, re, q, k⟩ => ?_
  cases e <;> try exact q.elim
  cases re
  have q : Q' (.bl d.isN) M := q
  rw [rep_non rd] at q
  exact ⟨rfl, k _ _ _ _ _ Ext.refl st (.bl _) q⟩
theorem od_notN : OpD X F0 (compareOp .IsNot) dNotN := by
  refine opImp op_notN fun x y H Q ⟨F, R, M, d, e, Q', e0, st, rd, re, q, k⟩ => ?_
  cases e <;> try exact q.elim
  cases re
  have q : Q' (.bl (!d.isN)) M := q
  rw [rep_non rd] at q
  exact ⟨rfl, k _ _ _ _ _ Ext.refl st (.bl _) q⟩
end

/-! ### x in xs, of flat things -/
def D.flat : D → Bool
  | .non => true
  | .bl _ => true
  | .int _ => true
  | .str _ => true
  | _ => false
def eqD : D → D → Bool
  | .non, .non => true
  | .bl a, .bl b => a == b
  | .bl a, .int b => (if a then 1 else 0) == b
  | .int a, .bl b => a == (if b then 1 else 0)
  | .int a, .int b => a == b
  | .str a, .str b => a == b
  | _, _ => false
def dIn (neg : Bool) : R2D := fun x y M Q => match sqOf M y with
  | some ds => x.flat = true ∧ ds.all D.flat = true ∧ Q (.bl (if neg then !(ds.any fun e => eqD e x) else ds.any fun e => eqD e x)) M
  | none => False
section
variable {K : PySem.W.Frag} {F : Hp}
theorem Rep.flat {x : V} {d : D} (r : Rep K F x d) (h : d.flat = true) : flatV x = true := by cases r <;> first | rfl | cases h
theorem Rep.eqv {x y : V} {d e : D} (r : Rep K F x d) (s : Rep K F y e) (h : d.flat = true) (h2 : e.flat = true) : eqV x y = eqD d e := by
  cases r <;> cases h <;> cases s <;> first | cases h2 | rfl
  all_goals rfl
theorem RepAll.flat : ∀ {xs : List V} {ds : List D}, RepAll K F xs ds → ds.all D.flat = true → xs.all flatV = true
  | _, _, .nil, _ => rfl
  | _, _, .cons r t, h => by
    rw [List.all_cons, Bool.and_eq_true] at h ⊢
    exact ⟨r.flat h.1, RepAll.flat t h.2⟩
theorem RepAll.inv {x : V} {d : D} (r : Rep K F x d) (h0 : d.flat = true) : ∀ {xs : List V} {ds : List D}, RepAll K F xs ds → ds.all D.flat = true → inV x xs = ds.any fun e => eqD e d
  | _, _, .nil, _ => rfl
  | y :: xs, e :: ds, .cons s t, h => by
    rw [List.all_cons, Bool.and_eq_true] at h
    have ih := RepAll.inv r h0 t h.2
    show (eqV y x || inV x xs) = (eqD e d || ds.any fun e => eqD e d)
    rw [ih, Rep.eqv s r h.1 h0]
end
section
variable {X : Cx} {F0 : Bs}
theorem od_in : OpD X F0 (compareOp .In) (dIn false) := by
  refine opImp op_in_seq fun x y H Q ⟨F, R, M, d, e, Q', e0, st, rd, re, q, k⟩ => ?_
  unfold dIn at q
  split at q
  · rename_i ds h1
    obtain ⟨a, xs, rfl, hs, ra⟩ := sq_get st re h1
    refine ⟨a, xs, rfl, hs, rd.flat q.1, ra.flat q.2.1, ?_⟩
    have q2 := q.2.2
    rw [← RepAll.inv rd q.1 ra q.2.1] at q2
    exact k _ _ _ _ _ Ext.refl st (.bl _) q2
  · exact q.elim
theorem od_notIn : OpD X F0 (compareOp .NotIn) (dIn true) := by
  refine opImp op_notIn_seq fun x y H Q ⟨F, R, M, d, e, Q', e0, st, rd, re, q, k⟩ => ?_
  unfold dIn at q
  split at q
  · rename_i ds h1
    obtain ⟨a, xs, rfl, hs, ra⟩ := sq_get st re h1
    refine ⟨a, xs, rfl, hs, rd.flat q.1, ra.flat q.2.1, ?_⟩
    have q2 := q.2.2
    rw [← RepAll.inv rd q.1 ra q.2.1] at q2
    exact k _ _ _ _ _ Ext.refl st (.bl _) q2
  · exact q.elim
end

/-! ### displays -/
def dNil : DA := fun _ M Q => Q [] M
def dCons (ta : DE) (tr : DA) : DA := fun τ M Q => ta τ M fun x M1 => tr τ M1 fun xs M2 => Q (x :: xs) M2
def dTup (t : DA) : DE := fun τ M Q => t τ M fun xs M1 => xs.length ≤ sizeLine ∧ Q (.tup xs) M1
def dLst (t : DA) : DE := fun τ M Q => t τ M fun xs M1 => xs.length ≤ sizeLine ∧ Q (.lst xs) M1
/-- a list that will be changed in place -/
def dLstM (t : DA) : DE := fun τ M Q => t τ M fun xs M1 => xs.length ≤ sizeLine ∧ ∀ p, M1 p = none → Q (.ref p) (updM M1 p (.lst xs))
section
variable {X : Cx} {F0 : Bs} {e : Expr} {es : List Expr} {te : DE} {t : DA} {pos : Pos}
theorem ad_nil : PA X [] (liA X.K F0 dNil) := paImp pa_nil fun σ H Q ⟨F, R, τ, M, Q', e0, st, sl, q, k⟩ => k _ _ _ _ _ Ext.refl st .nil q
theorem ad_cons (ha : PE X e (liE X.K F0 te)) (hr : PA X es (liA X.K F0 t)) (hs : starEach (e :: es) X.env = (false, eval e X.env) :: starEach es X.env := by rfl) : PA X (e :: es) (liA X.K F0 (dCons te t)) := by
  refine paImp (pa_cons ha hr hs) fun σ H Q ⟨F, R, τ, M, Q', e0, st, sl, q, k⟩ => ?_
  refine ⟨F, R, τ, M, _, e0, st, sl, q, fun v H1 F1 d M1 e1 st1 r1 q1 => ?_⟩
  refine ⟨F1, R, τ, M1, _, e0.trans e1, st1, sl.ext e1, q1, fun vs H2 F2 ds M2 e2 st2 r2 q2 => ?_⟩
  exact k _ _ _ _ _ (e1.trans e2) st2 (.cons (r1.ext e2) r2) q2
theorem pd_tup {x1} (h : PA X es (liA X.K F0 t)) : PE X (.Tuple es x1 pos) (liE X.K F0 (dTup t)) := by
  refine peImp (pe_tup h) fun σ H Q ⟨F, R, τ, M, Q', e0, st, sl, q, k⟩ => ?_
  refine ⟨F, R, τ, M, _, e0, st, sl, q, fun vs H1 F1 ds M1 e1 st1 r1 q1 => ?_⟩
  exact ⟨by rw [r1.len]; exact q1.1, fun p hp => (k.ext e1).tup st1 hp r1 q1.2⟩
theorem pd_lst (h : PA X es (liA X.K F0 t)) : PE X (.List es pos) (liE X.K F0 (dLst t)) := by
  refine peImp (pe_lst h) fun σ H Q ⟨F, R, τ, M, Q', e0, st, sl, q, k⟩ => ?_
  refine ⟨F, R, τ, M, _, e0, st, sl, q, fun vs H1 F1 ds M1 e1 st1 r1 q1 => ?_⟩
  exact ⟨by rw [r1.len]; exact q1.1, fun p hp => (k.ext e1).lst st1 hp r1 q1.2⟩
theorem pd_lstM (h : PA X es (liA X.K F0 t)) : PE X (.List es pos) (liE X.K F0 (dLstM t)) := by
  refine peImp (pe_lst h) fun σ H Q ⟨F, R, τ, M, Q', e0, st, sl, q, k⟩ => ?_
  refine ⟨F, R, τ, M, _, e0, st, sl, q, fun vs H1 F1 ds M1 e1 st1 r1 q1 => ?_⟩
  exact ⟨by rw [r1.len]; exact q1.1, fun p hp => (k.ext e1).own st1 hp (m := .lst ds) r1 (q1.2 p)⟩
end

/-! ### xs[i] -/
def dIx : R2D := fun x y M Q => match y with
  | .int i => match x with
    | .str z => match atI z.cps.toList i with
      | some c => z.length ≤ sizeLine ∧ Q (.str ⟨#[c]⟩) M
      | none => False
    | x => match sqOf M x with
      | some ds => match atI ds i with
        | some d => Q d M
        | none => False
      | none => False
  | _ => False
theorem atI_rep {K : PySem.W.Frag} {F : Hp} {xs : List V} {ds : List D} {i : Int} {d : D} (r : RepAll K F xs ds) (h : atI ds i = some d) : ∃ v, atI xs i = some v ∧ Rep K F v d := by
  unfold atI at h ⊢
  rw [r.len]
  cases e : ixN ds.length i with
  | none => rw [e] at h; cases h
  | some j =>
    rw [e] at h
    obtain ⟨v, h1, h2⟩ := r.getD (i := j) h
    exact ⟨v, h1, h2⟩
section
variable {X : Cx} {F0 : Bs} {a b : Expr} {ta tb : DE} {pos : Pos}
theorem ixd : IxR X (liR X.K F0 dIx) := by
  refine ixImp ix_seq fun x y H Q ⟨F, R, M, d, e, Q', e0, st, rd, re, q, k⟩ => ?_
  cases e <;> try exact q.elim
  rename_i i
  cases re
  have seq : (match sqOf M d with | some ds => (match atI ds i with | some d => Q' d M | none => False) | none => False) → rIx X.K x (.int i) H Q := fun q => by
    split at q
    · rename_i ds h1
      split at q
      · rename_i d' h2
        obtain ⟨a, xs, rfl, hs, ra⟩ := sq_get st rd h1
        obtain ⟨v, ev, rv⟩ := atI_rep ra h2
        rcases hs with hs | hs
        · exact .inl ⟨a, xs, i, v, rfl, rfl, hs, ev, k _ _ _ _ _ Ext.refl st rv q⟩
        · exact .inr (.inl ⟨a, xs, i, v, rfl, rfl, hs, ev, k _ _ _ _ _ Ext.refl st rv q⟩)
      · exact q.elim
    · exact q.elim
  cases d with
  | str z =>
    have q : (match atI z.cps.toList i with | some c => z.length ≤ sizeLine ∧ Q' (.str ⟨#[c]⟩) M | none => False) := q
    split at q
    · rename_i c h1
      cases rd
      exact .inr (.inr ⟨z, i, c, rfl, rfl, q.1, h1, k _ _ _ _ _ Ext.refl st (.str _) q.2⟩)
    · exact q.elim
  | _ => exact seq q
theorem pd_ix (ha : PE X a (liE X.K F0 ta)) (hb : PE X b (liE X.K F0 tb)) (hs : PlainIx b) : PE X (.Subscript a b pos) (liE X.K F0 (dOp dIx ta tb)) :=
  peImp (pe_ix ixd ha hb hs) fun _ _ _ => li_op
end

/-! ### xs[a:b] -/
abbrev DO := SD → Mp → (Option Int → Mp → Prop) → Prop
def KO (K : PySem.W.Frag) (F R : Hp) (Q' : Option Int → Mp → Prop) (Q : Option Int → Hp → Prop) : Prop := ∀ b H2 F2 M2, Ext F F2 → Stt K F2 R H2 M2 → Q' b M2 → Q b H2
theorem KO.ext {K : PySem.W.Frag} {F F2 R : Hp} {Q' : Option Int → Mp → Prop} {Q : Option Int → Hp → Prop} (k : KO K F R Q' Q) (e : Ext F F2) : KO K F2 R Q' Q := fun b H2 F3 M2 e2 => k b H2 F3 M2 (e.trans e2)
def liO (K : PySem.W.Frag) (F0 : Bs) (t : DO) : TO := fun σ H Q => ∃ F R τ M Q', Bas F0 F R ∧ Stt K F R H M ∧ Slots K F σ τ ∧ t τ M Q' ∧ KO K F R Q' Q
def dNoPart : DO := fun _ M Q => Q none M
def dPart (t : DE) : DO := fun τ M Q => t τ M fun d M1 => match d with
  | .int i => Q (some i) M1
  | _ => False
def cutD {α : Type} (xs : List α) (lo hi : Option Int) : List α := (xs.drop (HT.sIx xs.length 0 lo)).take (HT.sIx xs.length xs.length hi - HT.sIx xs.length 0 lo)
def dSlr (x : D) (lo hi : Option Int) (M : Mp) (Q : QD) : Prop := match x with
  | .tup ds => Q (.tup (cutD ds lo hi)) M
  | .str z => z.length ≤ sizeLine ∧ Q (.str (cutS z lo hi)) M
  | x => match lsOf M x with
    | some ds => Q (.lst (cutD ds lo hi)) M
    | none => False
def dSl (te : DE) (tl th : DO) : DE := fun τ M Q => te τ M fun x M1 => tl τ M1 fun l M2 => th τ M2 fun u M3 => dSlr x l u M3 Q
theorem RepAll.cut {K : PySem.W.Frag} {F : Hp} {xs : List V} {ds : List D} (r : RepAll K F xs ds) (lo hi : Option Int) : RepAll K F (cutV xs lo hi) (cutD ds lo hi) := by
  unfold cutV cutD
  rw [r.len]
  exact (r.dp _).tk _
theorem cutD_whole {α : Type} {xs : List α} {lo hi : Option Int} (h : HT.sIx xs.length 0 lo = 0 ∧ HT.sIx xs.length xs.length hi = xs.length) : cutD xs lo hi = xs := by
  unfold cutD
  rw [h.1, h.2]
  simp
section
variable {X : Cx} {F0 : Bs} {e : Expr} {te : DE} {lo hi : Option Expr} {tl th : DO} {pos p2 : Pos}
theorem od_none : PO X none (liO X.K F0 dNoPart) := ⟨fun pins s σ H Q I ⟨F, R, τ, M, Q', e0, st, sl, q, k⟩ => po_none.run pins s σ H Q I (k _ _ _ _ Ext.refl st q)⟩
theorem od_some (h : PE X e (liE X.K F0 te)) : PO X (some e) (liO X.K F0 (dPart te)) := by
  refine ⟨fun pins s σ H Q I ⟨F, R, τ, M, Q', e0, st, sl, q, k⟩ => (po_some h).run pins s σ H Q I ?_⟩
  refine ⟨F, R, τ, M, _, e0, st, sl, q, fun v H1 F1 d M1 e1 st1 r1 q1 => ?_⟩
  cases d <;> try exact q1.elim
  cases r1
  exact ⟨_, rfl, k _ _ _ _ e1 st1 q1⟩
theorem sl_any : SlR X (fun x lo hi H Q => rSlA X.K x lo hi H Q ∨ rSlL X.K x lo hi H Q ∨ ∃ z, x = .str z ∧ z.length ≤ sizeLine ∧ Q (.str (cutS z lo hi)) H) := sl_tupA.or (sl_list.or sl_str)
theorem pd_slice (he : PE X e (liE X.K F0 te)) (hl : PO X lo (liO X.K F0 tl)) (hu : PO X hi (liO X.K F0 th)) : PE X (.Subscript e (.Slice lo hi none p2) pos) (liE X.K F0 (dSl te tl th)) := by
  refine peImp (pe_slice sl_any he hl hu) fun σ H Q ⟨F, R, τ, M, Q', e0, st, sl, q, k⟩ => ?_
  refine ⟨F, R, τ, M, _, e0, st, sl, q, fun v H1 F1 d M1 e1 st1 r1 q1 => ?_⟩
  refine ⟨F1, R, τ, M1, _, e0.trans e1, st1, sl.ext e1, q1, fun l H2 F2 M2 e2 st2 q2 => ?_⟩
  refine ⟨F2, R, τ, M2, _, e0.trans (e1.trans e2), st2, sl.ext (e1.trans e2), q2, fun u H3 F3 M3 e3 st3 q3 => ?_⟩
  have rd := r1.ext (e2.trans e3)
  have k3 := k.ext (e1.trans (e2.trans e3))
  unfold dSlr at q3
  split at q3
  · have rd0 := rd
    obtain ⟨a, xs, rfl, hs, ra⟩ := tp_get st3 rd
    refine .inl ⟨a, xs, rfl, hs, fun z => ?_, fun z p hp => k3.tup st3 hp (ra.cut l u) q3⟩
    rw [ra.len] at z
    rw [cutD_whole z] at q3
    exact k3 _ _ _ _ _ Ext.refl st3 rd0 q3
  · cases rd
    exact .inr (.inr ⟨_, rfl, q3.1, k3 _ _ _ _ _ Ext.refl st3 (.str _) q3.2⟩)
  · split at q3
    · rename_i ds h1
      obtain ⟨a, xs, rfl, hs, ra⟩ := ls_get st3 rd h1
      exact .inr (.inl ⟨a, xs, rfl, hs, fun p hp => k3.lst st3 hp (ra.cut l u) q3⟩)
    · exact q3.elim
end
end DL

/-! DL, the rules: calls, statements, loops, defs -/
namespace DL
open PySem PySem.Spec PyProof.Rows L2

/-! ### calls of built-ins -/
abbrev RC := List D → Mp → QD → Prop
def dCB (r : RC) (t : DA) : DE := fun τ M Q => t τ M fun ds M1 => r ds M1 Q
theorem li_cb {K : PySem.W.Frag} {F0 : Bs} {r : RC} {t : DA} {σ : L2.St} {H : Hp} {Q : VK} (h : liE K F0 (dCB r t) σ H Q) : tCB (liC K F0 r) (liA K F0 t) σ H Q := by
  obtain ⟨F, R, τ, M, Q', e0, st, sl, q, k⟩ := h
  exact ⟨F, R, τ, M, _, e0, st, sl, q, fun vs H1 F1 ds M1 e1 st1 r1 q1 => ⟨F1, R, M1, ds, Q', e0.trans e1, st1, r1, q1, k.ext e1⟩⟩
section
variable {X : Cx} {F0 : Bs} {x : Str} {p pos : Pos} {e : Expr} {es : List Expr} {t : DA} {id T : String} {r : RC}
theorem pd_callB (hc : CallR X (.builtin id) (liC X.K F0 r)) (hg : Gl X x) (hm : X.mg x = none) (hv : bootBuiltins x = some (.builtin id)) (ha : PA X (e :: es) (liA X.K F0 t)) (hn : x ≠ "__name__" := by decide) (hdb : (x == ("__debug__" : Str)) = false := by decide)
    (he : starEach (e :: es) X.env = (false, eval e X.env) :: starEach es X.env := by rfl) (hpl : (backTo pos (starEach es X.env)).any (·.1) = false := by rfl) : PE X (.Call (.Name x p) (e :: es) [] pos) (liE X.K F0 (dCB r t)) :=
  peImp (pe_callB hc hg hm hv ha hn hdb he hpl) fun _ _ _ => li_cb
theorem pd_callTy (hc : CallR X (.type T) (liC X.K F0 r)) (hg : Gl X x) (hm : X.mg x = none) (hv : bootBuiltins x = some (.type T)) (ha : PA X (e :: es) (liA X.K F0 t)) (hn : x ≠ "__name__" := by decide) (hdb : (x == ("__debug__" : Str)) = false := by decide)
    (he : starEach (e :: es) X.env = (false, eval e X.env) :: starEach es X.env := by rfl) (hpl : (backTo pos (starEach es X.env)).any (·.1) = false := by rfl) : PE X (.Call (.Name x p) (e :: es) [] pos) (liE X.K F0 (dCB r t)) :=
  peImp (pe_callTy hc hg hm hv ha hn hdb he hpl) fun _ _ _ => li_cb
end
theorem rep1 {K : PySem.W.Frag} {F : Hp} {xs : List V} {d : D} (r : RepAll K F xs [d]) : ∃ x, xs = [x] ∧ Rep K F x d := by
  cases r with
  | cons h t => cases t; exact ⟨_, rfl, h⟩
theorem rep2 {K : PySem.W.Frag} {F : Hp} {xs : List V} {d e : D} (r : RepAll K F xs [d, e]) : ∃ x y, xs = [x, y] ∧ Rep K F x d ∧ Rep K F y e := by
  cases r with
  | cons h t =>
    obtain ⟨y, rfl, h2⟩ := rep1 t
    exact ⟨_, y, rfl, h, h2⟩
/-- len -/
def dLen : RC := fun ds M Q => match ds with
  | [.str z] => z.length ≤ sizeLine ∧ Q (.int z.length) M
  | [d] => match sqOf M d with
    | some xs => Q (.int xs.length) M
    | none => False
  | _ => False
/-- all, any of a list of True, False -/
def D.isB : D → Option Bool
  | .bl b => some b
  | _ => none
def blsOf : List D → Option (List Bool)
  | [] => some []
  | .bl b :: ds => (blsOf ds).map (b :: ·)
  | _ => none
def intsOf : List D → Option (List Int)
  | [] => some []
  | .int b :: ds => (intsOf ds).map (b :: ·)
  | _ => none
theorem blsOf_map : ∀ bs : List Bool, blsOf (bs.map D.bl) = some bs
  | [] => rfl
  | b :: bs => by show (blsOf (bs.map D.bl)).map (b :: ·) = _; rw [blsOf_map bs]; rfl
theorem intsOf_map : ∀ bs : List Int, intsOf (bs.map D.int) = some bs
  | [] => rfl
  | b :: bs => by show (intsOf (bs.map D.int)).map (b :: ·) = _; rw [intsOf_map bs]; rfl
theorem bls_eq : ∀ {ds : List D} {bs : List Bool}, blsOf ds = some bs → ds = bs.map D.bl
  | [], bs, h => by cases h; rfl
  | d :: ds, bs, h => by
    cases d <;> try cases h
    rename_i b
    have h : (blsOf ds).map (b :: ·) = some bs := h
    cases e : blsOf ds with
    | none => rw [e] at h; cases h
    | some cs => rw [e] at h; cases h; rw [bls_eq e]; rfl
theorem ints_eq : ∀ {ds : List D} {bs : List Int}, intsOf ds = some bs → ds = bs.map D.int
  | [], bs, h => by cases h; rfl
  | d :: ds, bs, h => by
    cases d <;> try cases h
    rename_i b
    have h : (intsOf ds).map (b :: ·) = some bs := h
    cases e : intsOf ds with
    | none => rw [e] at h; cases h
    | some cs => rw [e] at h; cases h; rw [ints_eq e]; rfl
def dAll : RC := fun ds M Q => match ds with
  | [d] => match lsOf M d with
    | some xs => match blsOf xs with
      | some bs => Q (.bl (bs.all id)) M
      | none => False
    | none => False
  | _ => False
def dAny : RC := fun ds M Q => match ds with
  | [d] => match lsOf M d with
    | some xs => match blsOf xs with
      | some bs => Q (.bl (bs.any id)) M
      | none => False
    | none => False
  | _ => False
def dSum : RC := fun ds M Q => match ds with
  | [d] => match lsOf M d with
    | some xs => match intsOf xs with
      | some ns => Q (.int ns.sum) M
      | none => False
    | none => False
  | _ => False
/-- max, min of a list of ints, of two ints -/
def dMax : RC := fun ds M Q => match ds with
  | [.int i, .int j] => Q (.int (if j > i then j else i)) M
  | [d] => match lsOf M d with
    | some xs => match intsOf xs with
      | some ns => 0 < ns.length ∧ ∀ m, m ∈ ns → (∀ y, y ∈ ns → y ≤ m) → Q (.int m) M
      | none => False
    | none => False
  | _ => False
def dMin : RC := fun ds M Q => match ds with
  | [.int i, .int j] => Q (.int (if j < i then j else i)) M
  | [d] => match lsOf M d with
    | some xs => match intsOf xs with
      | some ns => 0 < ns.length ∧ ∀ m, m ∈ ns → (∀ y, y ∈ ns → m ≤ y) → Q (.int m) M
      | none => False
    | none => False
  | _ => False
def dAbs : RC := fun ds M Q => match ds with
  | [.int i] => Q (.int (if i < 0 then -i else i)) M
  | _ => False
def dInt : RC := fun ds M Q => match ds with
  | [.int i] => Q (.int i) M
  | [.bl b] => Q (.int (if b then 1 else 0)) M
  | _ => False
def dTuple : RC := fun ds M Q => match ds with
  | [d] => match sqOf M d with
    | some xs => Q (.tup xs) M
    | none => False
  | _ => False
def dList : RC := fun ds M Q => match ds with
  | [d] => match sqOf M d with
    | some xs => Q (.lst xs) M
    | none => False
  | _ => False
def dListM : RC := fun ds M Q => match ds with
  | [d] => match sqOf M d with
    | some xs => ∀ p, M p = none → Q (.ref p) (updM M p (.lst xs))
    | none => False
  | _ => False
/-- sorted of a list of ints -/
def dSorted : RC := fun ds M Q => match ds with
  | [d] => match lsOf M d with
    | some xs => match intsOf xs with
      | some ns => ∀ ns' : List Int, ns'.Perm ns → ns'.Pairwise (· ≤ ·) → Q (.lst (ns'.map D.int)) M
      | none => False
    | none => False
  | _ => False
/-- isinstance by a built-in class -/
def tyName (M : Mp) : D → Option String
  | .non => some "NoneType"
  | .bl _ => some "bool"
  | .int _ => some "int"
  | .str _ => some "str"
  | .tup _ => some "tuple"
  | .lst _ => some "list"
  | .lsk _ => some "list"
  | .ref a => match M a with
    | some (.lst _) => some "list"
    | some (.dK _) => some "dict"
    | _ => none
  | .ty _ => none
  | .fn _ _ => none
def isiN (a n : String) : Bool := a == n || (a == "bool" && n == "int")
def kitNames : List String := ["NoneType", "bool", "int", "str", "tuple", "list", "dict"]
theorem kit_table : (kitNames.all fun a => (["bool", "int", "str", "tuple", "list", "dict"] : List String).all fun n => kitB a n == some (isiN a n)) = true := by decide +kernel
def dIsi : RC := fun ds M Q => match ds with
  | [d, .ty n] => (["bool", "int", "str", "tuple", "list", "dict"] : List String).contains n = true ∧ match tyName M d with
    | some a => Q (.bl (isiN a n)) M
    | none => False
  | _ => False
section
variable {X : Cx} {F0 : Bs}
theorem cd_len : CallR X (.builtin "len") (liC X.K F0 dLen) := by
  refine caImp call_len fun xs H Q ⟨F, R, M, ds, Q', e0, st, rs, q, k⟩ => ?_
  unfold dLen at q
  split at q
  · obtain ⟨x, rfl, r⟩ := rep1 rs
    cases r
    exact ⟨_, _, rfl, ⟨q.1, rfl⟩, k _ _ _ _ _ Ext.refl st (.int _) q.2⟩
  · obtain ⟨x, rfl, r⟩ := rep1 rs
    split at q
    · rename_i ys h1
      obtain ⟨a, vs, rfl, hs, ra⟩ := sq_get st r h1
      rw [← ra.len] at q
      exact ⟨_, _, rfl, hs.elim (fun z => .inl ⟨_, z, rfl⟩) (fun z => .inr ⟨_, z, rfl⟩), k _ _ _ _ _ Ext.refl st (.int _) q⟩
    · exact q.elim
  · exact q.elim
theorem cd_all (hc : X.calm = true) : CallR X (.builtin "all") (liC X.K F0 dAll) := by
  refine caImp (cr_all hc) fun xs H Q ⟨F, R, M, ds, Q', e0, st, rs, q, k⟩ => ?_
  unfold dAll at q
  split at q <;> try exact q.elim
  obtain ⟨x, rfl, r⟩ := rep1 rs
  split at q <;> try exact q.elim
  rename_i ys h1
  split at q <;> try exact q.elim
  rename_i bs h2
  obtain ⟨a, vs, rfl, hs, ra⟩ := ls_get st r h1
  rw [bls_eq h2] at ra
  have ev := ra.bls
  subst ev
  exact ⟨a, bs, rfl, hs, k _ _ _ _ _ Ext.refl st (.bl _) q⟩
theorem cd_any (hc : X.calm = true) : CallR X (.builtin "any") (liC X.K F0 dAny) := by
  refine caImp (cr_any hc) fun xs H Q ⟨F, R, M, ds, Q', e0, st, rs, q, k⟩ => ?_
  unfold dAny at q
  split at q <;> try exact q.elim
  obtain ⟨x, rfl, r⟩ := rep1 rs
  split at q <;> try exact q.elim
  rename_i ys h1
  split at q <;> try exact q.elim
  rename_i bs h2
  obtain ⟨a, vs, rfl, hs, ra⟩ := ls_get st r h1
  rw [bls_eq h2] at ra
  have ev := ra.bls
  subst ev
  exact ⟨a, bs, rfl, hs, k _ _ _ _ _ Ext.refl st (.bl _) q⟩
theorem cd_sum (hc : X.calm = true) : CallR X (.builtin "sum") (liC X.K F0 dSum) := by
  refine caImp (cr_sum hc) fun xs H Q ⟨F, R, M, ds, Q', e0, st, rs, q, k⟩ => ?_
  unfold dSum at q
  split at q <;> try exact q.elim
  obtain ⟨x, rfl, r⟩ := rep1 rs
  split at q <;> try exact q.elim
  rename_i ys h1
  split at q <;> try exact q.elim
  rename_i bs h2
  obtain ⟨a, vs, rfl, hs, ra⟩ := ls_get st r h1
  rw [ints_eq h2] at ra
  have ev := ra.ints
  subst ev
  exact ⟨a, bs, rfl, hs, k _ _ _ _ _ Ext.refl st (.int _) q⟩
theorem cd_max (hc : X.calm = true) : CallR X (.builtin "max") (liC X.K F0 dMax) := by
  intro pins s σ H xs us Q I rv ⟨F, R, M, ds, Q', e0, st, rs, q, k⟩
  unfold dMax at q
  split at q <;> try exact q.elim
  · obtain ⟨x, y, rfl, r1, r2⟩ := rep2 rs
    cases r1; cases r2
    exact call_max2 hc pins s σ H _ us Q I rv ⟨_, _, rfl, k _ _ _ _ _ Ext.refl st (.int _) q⟩
  · obtain ⟨x, rfl, r⟩ := rep1 rs
    split at q <;> try exact q.elim
    rename_i ys h1
    split at q <;> try exact q.elim
    rename_i bs h2
    obtain ⟨a, vs, rfl, hs, ra⟩ := ls_get st r h1
    rw [ints_eq h2] at ra
    have ev := ra.ints
    subst ev
    exact cr_max hc pins s σ H _ us Q I rv ⟨a, bs, rfl, hs, q.1, fun m h1 h2 => k _ _ _ _ _ Ext.refl st (.int _) (q.2 m h1 h2)⟩
theorem cd_min (hc : X.calm = true) : CallR X (.builtin "min") (liC X.K F0 dMin) := by
  intro pins s σ H xs us Q I rv ⟨F, R, M, ds, Q', e0, st, rs, q, k⟩
  unfold dMin at q
  split at q <;> try exact q.elim
  · obtain ⟨x, y, rfl, r1, r2⟩ := rep2 rs
    cases r1; cases r2
    exact call_min2 hc pins s σ H _ us Q I rv ⟨_, _, rfl, k _ _ _ _ _ Ext.refl st (.int _) q⟩
  · obtain ⟨x, rfl, r⟩ := rep1 rs
    split at q <;> try exact q.elim
    rename_i ys h1
    split at q <;> try exact q.elim
    rename_i bs h2
    obtain ⟨a, vs, rfl, hs, ra⟩ := ls_get st r h1
    rw [ints_eq h2] at ra
    have ev := ra.ints
    subst ev
    exact cr_min hc pins s σ H _ us Q I rv ⟨a, bs, rfl, hs, q.1, fun m h1 h2 => k _ _ _ _ _ Ext.refl st (.int _) (q.2 m h1 h2)⟩
theorem cd_abs : CallR X (.builtin "abs") (liC X.K F0 dAbs) := by
  refine caImp call_abs fun xs H Q ⟨F, R, M, ds, Q', e0, st, rs, q, k⟩ => ?_
  unfold dAbs at q
  split at q <;> try exact q.elim
  obtain ⟨x, rfl, r⟩ := rep1 rs
  cases r
  exact ⟨_, rfl, k _ _ _ _ _ Ext.refl st (.int _) q⟩
theorem cd_int : CallR X (.type "int") (liC X.K F0 dInt) := by
  refine caImp call_int1 fun xs H Q ⟨F, R, M, ds, Q', e0, st, rs, q, k⟩ => ?_
  unfold dInt at q
  split at q <;> try exact q.elim
  · obtain ⟨x, rfl, r⟩ := rep1 rs
    cases r
    exact .inl ⟨_, rfl, k _ _ _ _ _ Ext.refl st (.int _) q⟩
  · obtain ⟨x, rfl, r⟩ := rep1 rs
    cases r
    exact .inr ⟨_, rfl, k _ _ _ _ _ Ext.refl st (.int _) q⟩
theorem cd_tuple : CallR X (.type "tuple") (liC X.K F0 dTuple) := by
  refine caImp call_tuple_of fun xs H Q ⟨F, R, M, ds, Q', e0, st, rs, q, k⟩ => ?_
  unfold dTuple at q
  split at q <;> try exact q.elim
  obtain ⟨x, rfl, r⟩ := rep1 rs
  split at q <;> try exact q.elim
  rename_i ys h1
  rcases sqOf_cases h1 with rfl | h1
  · have r0 := r
    obtain ⟨a, vs, rfl, hs, ra⟩ := tp_get st r
    exact ⟨a, vs, rfl, .inr ⟨hs, k _ _ _ _ _ Ext.refl st r0 q⟩⟩
  · obtain ⟨a, vs, rfl, hs, ra⟩ := ls_get st r h1
    exact ⟨a, vs, rfl, .inl ⟨hs, fun p hp => k.tup st hp ra q⟩⟩
theorem cd_list : CallR X (.type "list") (liC X.K F0 dList) := by
  refine caImp call_list_of fun xs H Q ⟨F, R, M, ds, Q', e0, st, rs, q, k⟩ => ?_
  unfold dList at q
  split at q <;> try exact q.elim
  obtain ⟨x, rfl, r⟩ := rep1 rs
  split at q <;> try exact q.elim
  rename_i ys h1
  obtain ⟨a, vs, rfl, hs, ra⟩ := sq_get st r h1
  exact ⟨a, vs, rfl, hs, fun p hp => k.lst st hp ra q⟩
theorem cd_listM : CallR X (.type "list") (liC X.K F0 dListM) := by
  refine caImp call_list_of fun xs H Q ⟨F, R, M, ds, Q', e0, st, rs, q, k⟩ => ?_
  unfold dListM at q
  split at q <;> try exact q.elim
  obtain ⟨x, rfl, r⟩ := rep1 rs
  split at q <;> try exact q.elim
  rename_i ys h1
  obtain ⟨a, vs, rfl, hs, ra⟩ := sq_get st r h1
  exact ⟨a, vs, rfl, hs, fun p hp => k.own st hp (m := .lst ys) ra (q p)⟩
theorem cd_isi : CallR X (.builtin "isinstance") (liC X.K F0 dIsi) := by
  refine caImp call_isi fun xs H Q ⟨F, R, M, ds, Q', e0, st, rs, q, k⟩ => ?_
  unfold dIsi at q
  split at q <;> try exact q.elim
  rename_i d n
  obtain ⟨x, y, rfl, r1, r2⟩ := rep2 rs
  cases r2
  obtain ⟨hn, q⟩ := q
  split at q <;> try exact q.elim
  rename_i a ea
  have go : ∀ {t : Value}, t = .type a → kitNames.contains a = true → TyX X.K H x t → rIsi X.K [x, .ty n] H Q := fun {t} et ha ty => by
    subst et
    refine ⟨x, .ty n, _, .type n, isiN a n, rfl, .ty n, ty, kit_ty ?_, k _ _ _ _ _ Ext.refl st (.bl _) q⟩
    have z := kit_table
    rw [List.all_eq_true] at z
    have z2 := z a (by simpa using ha)
    rw [List.all_eq_true] at z2
    exact eq_of_beq (z2 n (by simpa using hn))
  have seqL : ∀ {a' : Addr} {xs : List V}, x = .ref a' → SqL X.K H a' xs → TyX X.K H x (.type "list") := fun {a' xs} e hs => by
    subst e
    rcases hs with (hs | ⟨o, hs⟩) | ⟨o, its, n, e1, e2, _⟩
    · exact .base (.lst hs)
    · exact .base (.frz hs)
    · exact .kList e1 e2
  cases d with
  | non => cases r1; cases ea; exact go rfl (by decide) (.base .non)
  | bl b => cases r1; cases ea; exact go rfl (by decide) (.base (.bl b))
  | int b => cases r1; cases ea; exact go rfl (by decide) (.base (.int b))
  | str b => cases r1; cases ea; exact go rfl (by decide) (.base (.str b))
  | tup ys =>
    cases ea
    obtain ⟨a', vs, e, hs, ra⟩ := tp_get st r1
    refine go rfl (by decide) ?_
    subst e
    rcases hs with (hs | ⟨o, hs⟩) | ⟨o, its, n, e1, e2, _⟩
    · exact .base (.tup hs)
    · exact .fTuple hs
    · exact .kTuple e1 e2
  | lst ys =>
    cases ea
    obtain ⟨a', vs, e, hs, ra⟩ := ls_get (M := M) (ds := ys) st r1 rfl
    exact go rfl (by decide) (seqL e hs)
  | lsk ys =>
    cases ea
    obtain ⟨a', vs, e, hs, ra⟩ := ls_get (M := M) (ds := ys) st r1 rfl
    exact go rfl (by decide) (seqL e hs)
  | ref a' =>
    have ea : (match M a' with | some (.lst _) => some "list" | some (.dK _) => some "dict" | _ => none) = some a := ea
    cases r1
    split at ea
    · rename_i ys em
      cases ea
      obtain ⟨_, o, ho, ro⟩ := st.ow _ _ em
      obtain ⟨vs, rfl, ra⟩ := ro.lst_iff
      exact go rfl (by decide) (.base (.lst ho))
    · rename_i ys em
      cases ea
      obtain ⟨_, o, ho, ro⟩ := st.ow _ _ em
      cases o <;> try exact ro.elim
      exact go rfl (by decide) (.base (.dK ho))
    · cases ea
  | ty m => cases ea
  | fn a G => cases ea
end

/-! ### what a def promises, over data -/
abbrev XD := Value → Option (List (Str × D)) → Mp → Prop
abbrev SpD := List D → Mp → QD → XD → Prop
def RepX (K : PySem.W.Frag) (F H : Hp) : Option Addr → Option (List (Str × D)) → Prop
  | none, none => True
  | some a, some fs => ∃ vs, H a = some (.xd vs) ∧ RepKV K F vs fs
  | _, _ => False
def KX (K : PySem.W.Frag) (F R : Hp) (E' : XD) (E : XK) : Prop := ∀ e dx H2 F2 fs M2, Ext F F2 → Stt K F2 R H2 M2 → RepX K F2 H2 dx fs → E' e fs M2 → E e dx H2
theorem KX.ext {K : PySem.W.Frag} {F F2 R : Hp} {E' : XD} {E : XK} (k : KX K F R E' E) (e : Ext F F2) : KX K F2 R E' E := fun v dx H2 F3 fs M2 e2 => k v dx H2 F3 fs M2 (e.trans e2)
def liSp (K : PySem.W.Frag) (T : List (Addr × Str)) (sp : SpD) : Sp := fun vs H Q E => ∃ F R ds M Q' E', Stt K F R H M ∧ TabR T R ∧ RepAll K F vs ds ∧ sp ds M Q' E' ∧ KE K F R Q' Q ∧ KX K F R E' E
/-- what is wanted of an error that leaves a def, by what the def's promise wants -/
def liX (K : PySem.W.Frag) (F0 : Bs) (E' : XD) : XK := fun e dx H => ∃ F R M fs, Bas F0 F R ∧ Stt K F R H M ∧ RepX K F H dx fs ∧ E' e fs M
def E0D : XD := fun _ _ _ => False
def dCall (sp : SpD) (E : XD) (t : DA) : DE := fun τ M Q => t τ M fun ds M1 => sp ds M1 Q E
section
variable {X : Cx} {F0 : Bs} {CX : CXT} {k : Nat} {f : Addr} {fd : FuncData} {ps : List Str} {sp : SpD} {x : Str} {p pos : Pos} {e : Expr} {es : List Expr} {t : DA}
theorem li_call {E' : XD} {E : XK} (hE : ∀ e dx H, liX X.K F0 E' e dx H → E e dx H) {σ : L2.St} {H : Hp} {Q : VK} (h : liE X.K F0 (dCall sp E' t) σ H Q) : tCall (liSp X.K F0.T sp) [] E (liA X.K F0 t) σ H Q := by
  obtain ⟨F, R, τ, M, Q', e0, st, sl, q, k⟩ := h
  refine ⟨F, R, τ, M, _, e0, st, sl, q, fun vs H1 F1 ds M1 e1 st1 r1 q1 => ?_⟩
  refine ⟨F1, R, ds, M1, Q', E', st1, e0.t, by rw [List.append_nil]; exact r1, q1, k.ext e1, fun e dx H2 F2 fs M2 e2 st2 rx qx => hE _ _ _ ⟨F2, R, M2, fs, e0.trans (e1.trans e2), st2, rx, qx⟩⟩
/-- f(..), no exception leaves f -/
theorem pd_call (F : FnOk X.prog X.w X.K X.mg X.base CX0 k f fd ps (liSp X.K F0.T sp)) (hr : Room k X.A) (hg : Gl X x) (hm : X.mg x = some (.ref f)) (hk : PySem.W.keepIn X.K (.ref f) = true) (hb : Binds X.K fd ps [])
    (ha : PA X (e :: es) (liA X.K F0 t)) (hdb : (x == ("__debug__" : Str)) = false := by decide) (he : starEach (e :: es) X.env = (false, eval e X.env) :: starEach es X.env := by rfl) (hpl : (backTo pos (starEach es X.env)).any (·.1) = false := by rfl) :
    PE X (.Call (.Name x p) (e :: es) [] pos) (liE X.K F0 (dCall sp E0D t)) :=
  peImp (pe_call F hr hg hm hk hb .nil pass0 ha hdb he hpl) fun _ _ _ h => li_call (fun _ _ _ ⟨_, _, _, _, _, _, _, z⟩ => z) h
theorem pd_call0 (F : FnOk X.prog X.w X.K X.mg X.base CX0 k f fd ps (liSp X.K F0.T sp)) (hr : Room k X.A) (hg : Gl X x) (hm : X.mg x = some (.ref f)) (hk : PySem.W.keepIn X.K (.ref f) = true) (hb : Binds X.K fd ps [])
    (hdb : (x == ("__debug__" : Str)) = false := by decide) : PE X (.Call (.Name x p) [] [] pos) (liE X.K F0 (dCall sp E0D dNil)) := by
  refine peImp (pe_call0 F hr hg hm hk hb .nil pass0 hdb) fun σ H Q ⟨F, R, τ, M, Q', e0, st, sl, q, k⟩ => ?_
  exact ⟨F, R, [], M, Q', E0D, st, e0.t, .nil, q, k, fun _ _ _ _ _ _ _ _ _ z => z⟩
/-- f(..), f may raise: E is what the own def wants -/
theorem pd_callX {E' : XD} {E : XK} (hE : ∀ e dx H, liX X.K F0 E' e dx H → E e dx H) (F : FnOk X.prog X.w X.K X.mg X.base CX k f fd ps (liSp X.K F0.T sp)) (hr : Room k X.A) (hg : Gl X x) (hm : X.mg x = some (.ref f)) (hk : PySem.W.keepIn X.K (.ref f) = true) (hb : Binds X.K fd ps [])
    (hx : Passes CX X E) (ha : PA X (e :: es) (liA X.K F0 t)) (hdb : (x == ("__debug__" : Str)) = false := by decide) (he : starEach (e :: es) X.env = (false, eval e X.env) :: starEach es X.env := by rfl) (hpl : (backTo pos (starEach es X.env)).any (·.1) = false := by rfl) :
    PE X (.Call (.Name x p) (e :: es) [] pos) (liE X.K F0 (dCall sp E' t)) :=
  peImp (pe_call F hr hg hm hk hb .nil hx ha hdb he hpl) fun _ _ _ h => li_call hE h
end

/-! ### statements -/
def dNext : DS := fun D τ M => D.nx τ M
def dSeq (t u : DS) : DS := fun D τ M => t { D with nx := u D } τ M
def dBreak : DS := fun D τ M => D.bk τ M
def dCont : DS := fun D τ M => D.ct τ M
def dDrop (te : DE) : DS := fun D τ M => te τ M fun _ M1 => D.nx τ M1
def dRet (te : DE) : DS := fun D τ M => te τ M D.rt
def dRetN : DS := fun D _ M => D.rt .non M
def dIfS (c : DT) (t u : DS) : DS := fun D τ M => c τ M fun b M1 => if b = true then t D τ M1 else u D τ M1
def dSet (i : Nat) (te : DE) : DS := fun D τ M => te τ M fun d M1 => D.nx (τ.set i (some d)) M1
/-- the values of targets: names alone -/
def setAll : List Nat → List D → SD → SD
  | i :: is, d :: ds, τ => setAll is ds (τ.set i (some d))
  | _, _, τ => τ
def dUnp (is : List Nat) (te : DE) : DS := fun D τ M => te τ M fun d M1 => match d with
  | .tup ds => ds.length = is.length ∧ D.nx (setAll is ds τ) M1
  | _ => False
section
variable {X : Cx} {F0 : Bs} {st : Stmt} {rest : List Stmt} {t u : DS} {e : Expr} {te : DE} {pos : Pos}
theorem sds_nil : PSs X [] (liS X.K F0 dNext) := pssImp pss_nil fun D σ H ⟨F, R, τ, M, D', e0, st, sl, q, k⟩ => k.nx _ _ _ _ _ Ext.refl st sl q
theorem sds_cons (h1 : PS X st (liS X.K F0 t)) (h2 : PSs X rest (liS X.K F0 u)) : PSs X (st :: rest) (liS X.K F0 (dSeq t u)) := by
  refine pssImp (pss_cons h1 h2) fun D σ H ⟨F, R, τ, M, D', e0, st, sl, q, k⟩ => ?_
  refine ⟨F, R, τ, M, _, e0, st, sl, q, ⟨fun σ2 H2 F2 τ2 M2 e2 st2 sl2 q2 => ?_, k.rt, k.bk, k.ct⟩⟩
  exact ⟨F2, R, τ2, M2, D', e0.trans e2, st2, sl2, q2, k.ext e2⟩
theorem sds_one (h1 : PS X st (liS X.K F0 t)) : PSs X [st] (liS X.K F0 t) := pss_one h1
theorem sd_pass : PS X (.Pass pos) (liS X.K F0 dNext) := psImp ps_pass fun D σ H ⟨F, R, τ, M, D', e0, st, sl, q, k⟩ => k.nx _ _ _ _ _ Ext.refl st sl q
theorem sd_break : PS X (.Break pos) (liS X.K F0 dBreak) := psImp ps_break fun D σ H ⟨F, R, τ, M, D', e0, st, sl, q, k⟩ => k.bk _ _ _ _ _ Ext.refl st sl q
theorem sd_cont : PS X (.Continue pos) (liS X.K F0 dCont) := psImp ps_continue fun D σ H ⟨F, R, τ, M, D', e0, st, sl, q, k⟩ => k.ct _ _ _ _ _ Ext.refl st sl q
theorem sd_expr (he : PE X e (liE X.K F0 te)) (hs : swapsWith e none pos.line X.env = pure false := by rfl) : PS X (.Expr e pos) (liS X.K F0 (dDrop te)) :=
  psImp (ps_expr he hs) fun D σ H ⟨F, R, τ, M, D', e0, st, sl, q, k⟩ => ⟨F, R, τ, M, _, e0, st, sl, q, fun v H2 F2 d M2 e2 st2 r2 q2 => k.nx _ _ _ _ _ e2 st2 (sl.ext e2) q2⟩
theorem sd_ret (he : PE X e (liE X.K F0 te)) : PS X (.Return (some e) pos) (liS X.K F0 (dRet te)) :=
  psImp (ps_ret he) fun D σ H ⟨F, R, τ, M, D', e0, st, sl, q, k⟩ => ⟨F, R, τ, M, _, e0, st, sl, q, k.rt⟩
theorem sd_retN : PS X (.Return none pos) (liS X.K F0 dRetN) :=
  psImp ps_retN fun D σ H ⟨F, R, τ, M, D', e0, st, sl, q, k⟩ => k.rt _ _ _ _ _ Ext.refl st .non q
theorem sd_if {c : Expr} {a b : List Stmt} {tc : DT} (hc : PT X c (liT X.K F0 tc)) (ha : PSs X a (liS X.K F0 t)) (hb : PSs X b (liS X.K F0 u)) : PS X (.If c a b pos) (liS X.K F0 (dIfS tc t u)) := by
  refine psImp (ps_if hc ha hb) fun D σ H ⟨F, R, τ, M, D', e0, st, sl, q, k⟩ => ?_
  refine ⟨F, R, τ, M, _, e0, st, sl, q, fun b H1 F1 M1 e1 st1 q1 => ?_⟩
  cases b with
  | true => rw [if_pos rfl] at q1 ⊢; exact ⟨F1, R, τ, M1, D', e0.trans e1, st1, sl.ext e1, q1, k.ext e1⟩
  | false => rw [if_neg Bool.false_ne_true] at q1 ⊢; exact ⟨F1, R, τ, M1, D', e0.trans e1, st1, sl.ext e1, q1, k.ext e1⟩
/-- name = value -/
theorem sd_set {i : Nat} {x : Str} {pos' : Pos} (hN : X.N.Nodup) (hi : X.N[i]? = some x) (hx : Loc X.env.scope x) (he : PE X e (liE X.K F0 te)) (hs : swapsWith e (some (.Name x pos')) pos.line X.env = pure false := by rfl) (hf : X.fn x = true ∨ X.env.scope.names.lookup x = some .local := by first | exact .inl rfl | exact .inr rfl | assumption) :
    PS X (.Assign [.Name x pos'] e pos) (liS X.K F0 (dSet i te)) :=
  psImp (ps_set hN hi hx he hs hf) fun D σ H ⟨F, R, τ, M, D', e0, st, sl, q, k⟩ => ⟨F, R, τ, M, _, e0, st, sl, q, fun v H2 F2 d M2 e2 st2 r2 q2 => k.nx _ _ _ _ _ e2 st2 ((sl.ext e2).put r2 i) q2⟩
/-- a, b, .. = a tuple -/
inductive GNames (X : Cx) : List Expr → List Nat → TGs → Prop
  | nil : GNames X [] [] gNil
  | cons {i : Nat} {x : Str} {p : Pos} {es : List Expr} {is : List Nat} {u : TGs} : PG X (.Name x p) (gName i) → GNames X es is u → (assignEach (.Name x p :: es) X.env).map (·.2) = assign (.Name x p) X.env :: (assignEach es X.env).map (·.2) →
      GNames X (.Name x p :: es) (i :: is) (gCons (gName i) u)
theorem GNames.pgs {es : List Expr} {is : List Nat} {u : TGs} (h : GNames X es is u) : PGs X es u := by
  induction h with
  | nil => exact pgs_nil
  | cons h _ hs ih => exact pgs_cons h ih hs
theorem GNames.run {es : List Expr} {is : List Nat} {u : TGs} (h : GNames X es is u) {K : PySem.W.Frag} {F R : Hp} {M : Mp} {D' : EndsD} {E2 : Ends} (k : KS K F R D' E2) : ∀ {xs : List V} {ds : List D} {σ : L2.St} {H : Hp} {τ : SD},
    Stt K F R H M → Slots K F σ τ → RepAll K F xs ds → ds.length = is.length → D'.nx (setAll is ds τ) M → u xs σ H E2.nx := by
  induction h with
  | nil =>
    intro xs ds σ H τ st sl ra hl q
    cases ra with
    | nil => exact ⟨rfl, k.nx _ _ _ _ _ Ext.refl st sl q⟩
    | cons _ _ => cases hl
  | @cons i x p es is u h _ hs ih =>
    intro xs ds σ H τ st sl ra hl q
    cases ra with
    | nil => cases hl
    | cons r ra => exact ⟨_, _, rfl, ih st (sl.put r i) ra (Nat.succ.inj hl) q⟩
theorem sd_unp {es : List Expr} {is : List Nat} {kk : Nat} {p2 : Pos} {ug : TGs} (hc : X.calm = true) (g : GNames X es is ug) (he : PE X e (liE X.K F0 te)) (hn : (assignEach es X.env).length = is.length := by rfl) (hst : (assignEach es X.env).findIdx? (·.1) = none := by rfl)
    (hs : swapsWithSole [.Tuple es kk p2] e pos.line X.env = pure false := by rfl) (hw : swappedStores [.Tuple es kk p2] e X.env = pure none := by rfl)
    (h1 : (assignEach [.Tuple es kk p2] X.env).map (·.2) = [assign (.Tuple es kk p2) X.env] := by rfl) : PS X (.Assign [.Tuple es kk p2] e pos) (liS X.K F0 (dUnp is te)) := by
  refine psImp (ps_asg he (pg_tup hc g.pgs hn hst) hs hw h1) fun D σ H ⟨F, R, τ, M, D', e0, st, sl, q, k⟩ => ?_
  refine ⟨F, R, τ, M, _, e0, st, sl, q, fun v H2 F2 d M2 e2 st2 r2 q2 => ?_⟩
  cases d <;> try exact q2.elim
  rename_i ds
  obtain ⟨a, xs, rfl, hq, ra⟩ := tp_get st2 r2
  exact ⟨a, xs, rfl, hq, by rw [ra.len]; exact q2.1, g.run (k.ext e2) st2 (sl.ext e2) ra q2.1 q2.2⟩
/-- name op= e -/
def dAug (i : Nat) (te : DE) (r : R2D) : DS := fun D τ M => match τ[i]? with
  | some (some x) => te τ M fun y M1 => r x y M1 fun z M2 => D.nx (τ.set i (some z)) M2
  | _ => False
theorem sd_aug {i : Nat} {x : Str} {op : Operator} {r : R2D} {pos' : Pos} (hN : X.N.Nodup) (hi : X.N[i]? = some x) (hx : Loc X.env.scope x) (he : PE X e (liE X.K F0 te)) (ho : OpD X F0 (inplaceOp op) r) (hf : X.fn x = true ∨ X.env.scope.names.lookup x = some .local := by first | exact .inl rfl | exact .inr rfl | assumption) :
    PS X (.AugAssign (.Name x pos') op e pos) (liS X.K F0 (dAug i te r)) := by
  refine psImp (ps_aug hN hi hx he (ti := liR X.K F0 r) ho hf) fun D σ H ⟨F, R, τ, M, D', e0, st, sl, q, k⟩ => ?_
  unfold dAug at q
  split at q <;> try exact q.elim
  rename_i x0 e1
  obtain ⟨v, ev, rv⟩ := sl.get e1
  refine ⟨v, ev, F, R, τ, M, _, e0, st, sl, q, fun w H2 F2 d M2 e2 st2 r2 q2 => ?_⟩
  refine ⟨F2, R, M2, x0, d, _, e0.trans e2, st2, rv.ext e2, r2, q2, fun z H3 F3 dz M3 e3 st3 r3 q3 => ?_⟩
  exact k.nx _ _ _ _ _ (e2.trans e3) st3 ((sl.ext (e2.trans e3)).put r3 i) q3
/-- xs[i] = e -/
abbrev RSet := D → D → D → Mp → (Mp → Prop) → Prop
def dStore (te to ti : DE) (r : RSet) : DS := fun D τ M => te τ M fun v M1 => to τ M1 fun o M2 => ti τ M2 fun i M3 => r o i v M3 fun M4 => D.nx τ M4
def liSet (K : PySem.W.Frag) (F0 : Bs) (r : RSet) : TSet := fun o i v H Q => ∃ F R M o' i' v' Q', Bas F0 F R ∧ Stt K F R H M ∧ Rep K F o o' ∧ Rep K F i i' ∧ Rep K F v v' ∧ r o' i' v' M Q' ∧ ∀ H2 F2 M2, Ext F F2 → Stt K F2 R H2 M2 → Q' M2 → Q H2
def dSetL : RSet := fun o i v M Q => match o, i with
  | .ref a, .int k => match M a with
    | some (.lst xs) => match ixN xs.length k with
      | some j => Q (updM M a (.lst (xs.set j v)))
      | none => False
    | _ => False
  | _, _ => False
theorem std_list : PSet X (liSet X.K F0 dSetL) := by
  intro pins s σ H o i v ov iv u Q I ro ri rv ⟨F, R, M, o', i', v', Q', e0, st, r1, r2, r3, q, k⟩
  unfold dSetL at q
  split at q <;> try exact q.elim
  rename_i a kx
  split at q <;> try exact q.elim
  rename_i xs em
  split at q <;> try exact q.elim
  rename_i j ej
  cases r1; cases r2
  obtain ⟨_, ho, hh, rr⟩ := st.ow _ _ em
  obtain ⟨vs, rfl, ra⟩ := rr.lst_iff
  refine set_list pins s σ H _ _ v ov iv u Q I ro ri rv ⟨a, vs, kx, j, rfl, rfl, hh, by rw [ra.len]; exact ej, ?_⟩
  exact k _ _ _ Ext.refl (st.store em (fun _ z => by cases z) (m' := .lst (xs.set j v')) (ra.put r3 j)) q
theorem sd_store {o i : Expr} {to ti : DE} {r : RSet} {p2 : Pos} (he : PE X e (liE X.K F0 te)) (ho : PE X o (liE X.K F0 to)) (hi : PE X i (liE X.K F0 ti)) (hs : PSet X (liSet X.K F0 r))
    (ha : ∀ v, assign (.Subscript o i p2) X.env v = (do
      let ov ← holding [v] (eval o X.env)
      let iv ← holding [v, ov] (eval i X.env)
      standAt p2
      holding [v, ov, iv] (setItem ov iv v)
      release [v, ov, iv] []) := by intro _; rfl)
    (hs1 : swapsWithSole [.Subscript o i p2] e pos.line X.env = pure false := by rfl) (hw : swappedStores [.Subscript o i p2] e X.env = pure none := by rfl)
    (h1 : (assignEach [.Subscript o i p2] X.env).map (·.2) = [assign (.Subscript o i p2) X.env] := by rfl) : PS X (.Assign [.Subscript o i p2] e pos) (liS X.K F0 (dStore te to ti r)) := by
  refine psImp (ps_asg he (pg_sub ho hi hs ha) hs1 hw h1) fun D σ H ⟨F, R, τ, M, D', e0, st, sl, q, k⟩ => ?_
  refine ⟨F, R, τ, M, _, e0, st, sl, q, fun v H1 F1 d M1 e1 st1 r1 q1 => ?_⟩
  refine ⟨F1, R, τ, M1, _, e0.trans e1, st1, sl.ext e1, q1, fun ov H2 F2 d2 M2 e2 st2 r2 q2 => ?_⟩
  refine ⟨F2, R, τ, M2, _, e0.trans (e1.trans e2), st2, sl.ext (e1.trans e2), q2, fun iv H3 F3 d3 M3 e3 st3 r3 q3 => ?_⟩
  exact ⟨F3, R, M3, d2, d3, d, _, e0.trans (e1.trans (e2.trans e3)), st3, r2.ext e3, r3, r1.ext (e2.trans e3), q3, fun H4 F4 M4 e4 st4 q4 => k.nx _ _ _ _ _ (e1.trans (e2.trans (e3.trans e4))) st4 (sl.ext (e1.trans (e2.trans (e3.trans e4)))) q4⟩
/-- while -/
def dWhile (c : DT) (tb : DS) : DS := fun D τ M => ∃ W : Nat → SD → Mp → Prop, (∃ m, W m τ M) ∧ ∀ m τ M, W m τ M →
  c τ M fun b M1 => if b = true then tb { D with nx := fun τ2 M2 => ∃ m', m' < m ∧ W m' τ2 M2, ct := fun τ2 M2 => ∃ m', m' < m ∧ W m' τ2 M2, bk := D.nx } τ M1 else D.nx τ M1
theorem sd_while {c : Expr} {body : List Stmt} {tc : DT} {tb : DS} (hp : PassesOwn (model X.prog X.w) X.A X.env X.xe) (hc : PT X c (liT X.K F0 tc)) (hb : PSs X body (liS X.K F0 tb)) : PS X (.While c body [] pos) (liS X.K F0 (dWhile tc tb)) := by
  refine psImp (ps_while hp hc hb) fun D σ H ⟨F, R, τ, M, D', e0, st, sl, ⟨W, ⟨m0, w0⟩, turn⟩, k⟩ => ?_
  refine ⟨fun m σ H => ∃ F1 τ1 M1, Ext F F1 ∧ Stt X.K F1 R H M1 ∧ Slots X.K F1 σ τ1 ∧ W m τ1 M1, ⟨m0, F, τ, M, Ext.refl, st, sl, w0⟩, fun m σ1 H1 ⟨F1, τ1, M1, e1, st1, sl1, w1⟩ => ?_⟩
  refine ⟨F1, R, τ1, M1, _, e0.trans e1, st1, sl1, turn m τ1 M1 w1, fun b H2 F2 M2 e2 st2 q2 => ?_⟩
  cases b with
  | false => rw [if_neg Bool.false_ne_true] at q2 ⊢; exact k.nx _ _ _ _ _ (e1.trans e2) st2 (sl1.ext e2) q2
  | true =>
    rw [if_pos rfl] at q2 ⊢
    refine ⟨fun σ' H' => ∃ m', m' < m ∧ ∃ F3 τ3 M3, Ext F F3 ∧ Stt X.K F3 R H' M3 ∧ Slots X.K F3 σ' τ3 ∧ W m' τ3 M3, fun σ' H' ⟨m', hm, z⟩ => ⟨m', hm, z⟩, ?_⟩
    refine ⟨F2, R, τ1, M2, _, e0.trans (e1.trans e2), st2, sl1.ext e2, q2, ⟨?_, k.rt.ext (e1.trans e2), k.nx.ext (e1.trans e2), ?_⟩⟩
    · exact fun σ3 H3 F3 τ3 M3 e3 st3 sl3 ⟨m', hm, w3⟩ => ⟨m', hm, F3, τ3, M3, e1.trans (e2.trans e3), st3, sl3, w3⟩
    · exact fun σ3 H3 F3 τ3 M3 e3 st3 sl3 ⟨m', hm, w3⟩ => ⟨m', hm, F3, τ3, M3, e1.trans (e2.trans e3), st3, sl3, w3⟩
end
end DL

/-! DL, the rules: for, comprehensions, defs -/
namespace DL
open PySem PySem.Spec PyProof.Rows L2

/-! ### what is walked -/
structure ItD where
  n : Nat
  at' : Nat → D
  ok : Mp → Prop
structure ItRel (K : PySem.W.Frag) (F : Hp) (J : It) (j : ItD) : Prop where
  go : ∀ i F2 R H M, Ext F F2 → Stt K F2 R H M → j.ok M → i < j.n → J.go i H
  yld : ∀ i F2 R H M x H', Ext F F2 → Stt K F2 R H M → j.ok M → i < j.n → J.yld i H x H' → ∃ F3, Ext F2 F3 ∧ Stt K F3 R H' M ∧ Rep K F3 x (j.at' i) ∧ ∀ b, R b ≠ none → H' b = H b
  stop : ∀ F2 R H M, Ext F F2 → Stt K F2 R H M → j.ok M → J.stop j.n H
theorem ItRel.ext {K : PySem.W.Frag} {F F2 : Hp} {J : It} {j : ItD} (r : ItRel K F J j) (e : Ext F F2) : ItRel K F2 J j :=
  ⟨fun i F3 R H M e3 => r.go i F3 R H M (e.trans e3), fun i F3 R H M x H' e3 => r.yld i F3 R H M x H' (e.trans e3), fun F3 R H M e3 => r.stop F3 R H M (e.trans e3)⟩
abbrev DTI := SD → Mp → (ItD → Mp → Prop) → Prop
def KI (K : PySem.W.Frag) (F R : Hp) (Q' : ItD → Mp → Prop) (Q : It → Hp → Prop) : Prop := ∀ J H2 F2 j M2, Ext F F2 → Stt K F2 R H2 M2 → ItRel K F2 J j → Q' j M2 → Q J H2
def liI (K : PySem.W.Frag) (F0 : Bs) (t : DTI) : TI := fun σ H Q => ∃ F R τ M Q', Bas F0 F R ∧ Stt K F R H M ∧ Slots K F σ τ ∧ t τ M Q' ∧ KI K F R Q' Q
theorem piImp {X : Cx} {tg e : Expr} {t t' : TI} (h : PI X tg e t) (k : ∀ σ H Q, t' σ H Q → t σ H Q) : PI X tg e t' := ⟨fun pins s σ H R I q => h.run pins s σ H R I (k _ _ _ q)⟩
/-- the items of a list or a tuple -/
def itSeq (d : D) (ds : List D) : ItD := ⟨ds.length, fun i => ds.getD i .non, fun M => sqOf M d = some ds⟩
def iSeqD (te : DE) : DTI := fun τ M Q => te τ M fun d M1 => match sqOf M1 d with
  | some ds => Q (itSeq d ds) M1
  | none => False
def itRng (lo : Int) (n : Nat) : ItD := ⟨n, fun i => .int (lo + i), fun _ => True⟩
def iRng1D (ta : DA) : DTI := fun τ M Q => ta τ M fun ds M1 => match ds with
  | [.int j] => -(2 ^ 62) ≤ j ∧ j < 2 ^ 62 ∧ Q (itRng 0 j.toNat) M1
  | _ => False
def iRng2D (ta : DA) : DTI := fun τ M Q => ta τ M fun ds M1 => match ds with
  | [.int i, .int j] => (-(2 ^ 62) ≤ i ∧ i < 2 ^ 62 ∧ -(2 ^ 62) ≤ j ∧ j < 2 ^ 62) ∧ Q (itRng i (j - i).toNat) M1
  | _ => False
/-- either of the two -/
def iBoth (K : PySem.W.Frag) (tl : TE) : TI := fun σ H R => tl σ H fun x H1 => ∃ a, x = .ref a ∧ (((∃ xs, SqL K H1 a xs) ∧ R (Itl K a) H1) ∨ ((∃ xs, SqT K H1 a xs) ∧ R (Itt K a) H1))
section
variable {X : Cx} {F0 : Bs} {tg l : Expr} {te : DE}
theorem pi_both {tl : TE} (hl : PE X l tl) : PI X tg l (iBoth X.K tl) := by
  constructor
  intro pins s σ H R I h
  refine thn (hl.run pins s σ H _ I h) fun v s1 ⟨x, H1, I1, r1, a, ex, q⟩ => ?_
  subst ex
  cases r1
  have new : ∀ b ∈ [s1.heap.objs.size], FpOk X pins H1 b := fun b hb => by
    have e2 : b = s1.heap.objs.size := List.mem_singleton.mp hb
    rw [e2]
    exact I1.fpOk (Nat.le_refl _) (I1.hok.fresh (Nat.le_refl _))
  rcases q with ⟨⟨xs, hq⟩, q⟩ | ⟨⟨xs, hq⟩, q⟩
  · obtain ⟨its, rv, p, hz⟩ := I1.list hq
    exact wpAny_pyIter_list p.isList ⟨s1.heap.objs.size, [s1.heap.objs.size], _, _, H1, rfl, I1.kept (t' := s1.toks) fun b o e => Heap.get?_push_of_some _ e, turn_list a _, ⟨_, Heap.get?_push_size _ rfl, rfl, rfl⟩, new, q⟩
  · obtain ⟨its, rv, p, hz⟩ := I1.tuple hq
    exact wpAny_pyIter_tuple (show s1.heap.IsTuple a its.toArray from p) ⟨s1.heap.objs.size, [s1.heap.objs.size], _, _, H1, rfl, I1.kept (t' := s1.toks) fun b o e => Heap.get?_push_of_some _ e, turn_tuple a _, ⟨_, Heap.get?_push_size _ rfl, rfl, rfl⟩, new, q⟩
theorem getD_of {α : Type} {ds : List α} {i : Nat} {d z : α} (h : ds[i]? = some d) : ds.getD i z = d := by rw [List.getD_eq_getElem?_getD, h]; rfl
theorem rel_list {K : PySem.W.Frag} {F R H : Hp} {M : Mp} {a : Addr} {d : D} {ds : List D} (st : Stt K F R H M) (r : Rep K F (.ref a) d) (h : lsOf M d = some ds) (h2 : ∀ M, sqOf M d = some ds → lsOf M d = some ds) : ItRel K F (Itl K a) (itSeq d ds) where
  go := fun i F2 R H M e st ok hi => by
    obtain ⟨a', xs, ea, hs, ra⟩ := ls_get st (r.ext e) (h2 M ok)
    cases ea
    have hi : i < ds.length := hi
    exact ⟨xs, xs[i]'(by rw [ra.len]; exact hi), hs, List.getElem?_eq_getElem _⟩
  yld := fun i F2 R H M x H' e st ok hi y => by
    obtain ⟨rfl, y⟩ := y
    obtain ⟨a', xs, ea, hs, ra⟩ := ls_get st (r.ext e) (h2 M ok)
    cases ea
    obtain ⟨d', e1, e2⟩ := ra.get (y xs hs)
    exact ⟨F2, Ext.refl, st, by show Rep K F2 x (ds.getD i .non); rw [getD_of e1]; exact e2, fun _ _ => rfl⟩
  stop := fun F2 R H M e st ok => by
    obtain ⟨a', xs, ea, hs, ra⟩ := ls_get st (r.ext e) (h2 M ok)
    cases ea
    exact ⟨xs, hs, by rw [ra.len]; exact Nat.le_refl _⟩
theorem rel_tup {K : PySem.W.Frag} {F : Hp} {a : Addr} {ds : List D} (r : Rep K F (.ref a) (.tup ds)) : ItRel K F (Itt K a) (itSeq (.tup ds) ds) where
  go := fun i F2 R H M e st ok hi => by
    obtain ⟨a', xs, ea, hs, ra⟩ := tp_get st (r.ext e)
    cases ea
    have hi : i < ds.length := hi
    exact ⟨xs, xs[i]'(by rw [ra.len]; exact hi), hs, List.getElem?_eq_getElem _⟩
  yld := fun i F2 R H M x H' e st ok hi y => by
    obtain ⟨rfl, y⟩ := y
    obtain ⟨a', xs, ea, hs, ra⟩ := tp_get st (r.ext e)
    cases ea
    obtain ⟨d', e1, e2⟩ := ra.get (y xs hs)
    exact ⟨F2, Ext.refl, st, by show Rep K F2 x (ds.getD i .non); rw [getD_of e1]; exact e2, fun _ _ => rfl⟩
  stop := fun F2 R H M e st ok => by
    obtain ⟨a', xs, ea, hs, ra⟩ := tp_get st (r.ext e)
    cases ea
    exact ⟨xs, hs, by rw [ra.len]; exact Nat.le_refl _⟩
theorem rel_rng {K : PySem.W.Frag} {F : Hp} {lo : Int} {n : Nat} : ItRel K F (Itr lo n) (itRng lo n) where
  go := fun i F2 R H M e st ok hi => hi
  yld := fun i F2 R H M x H' e st ok hi y => by
    obtain ⟨rfl, rfl⟩ := y
    exact ⟨F2, Ext.refl, st, .int _, fun _ _ => rfl⟩
  stop := fun F2 R H M e st ok => Nat.le_refl _
theorem id_seq (hl : PE X l (liE X.K F0 te)) : PI X tg l (liI X.K F0 (iSeqD te)) := by
  refine piImp (pi_both hl) fun σ H Q ⟨F, R, τ, M, Q', e0, st, sl, q, k⟩ => ?_
  refine ⟨F, R, τ, M, _, e0, st, sl, q, fun v H1 F1 d M1 e1 st1 r1 q1 => ?_⟩
  split at q1 <;> try exact q1.elim
  rename_i ds h1
  rcases sqOf_cases h1 with rfl | h2
  · have r0 := r1
    obtain ⟨a, xs, rfl, hs, ra⟩ := tp_get st1 r1
    exact ⟨a, rfl, .inr ⟨⟨xs, hs⟩, k _ _ _ _ _ e1 st1 (rel_tup r0) q1⟩⟩
  · have r0 := r1
    obtain ⟨a, xs, rfl, hs, ra⟩ := ls_get st1 r1 h2
    refine ⟨a, rfl, .inl ⟨⟨xs, hs⟩, k _ _ _ _ _ e1 st1 (rel_list st1 r0 h2 fun M2 z => ?_) q1⟩⟩
    rcases sqOf_cases z with rfl | z
    · cases h2
    · exact z
theorem id_rng1 {a : Expr} {ta : DA} {p pos : Pos} (hg : Gl X "range") (hm : X.mg "range" = none) (ha : PA X [a] (liA X.K F0 ta)) (hs : starEach [a] X.env = [(false, eval a X.env)] := by rfl) : PI X tg (.Call (.Name "range" p) [a] [] pos) (liI X.K F0 (iRng1D ta)) := by
  refine piImp (pi_range1 hg hm ha hs) fun σ H Q ⟨F, R, τ, M, Q', e0, st, sl, q, k⟩ => ?_
  refine ⟨F, R, τ, M, _, e0, st, sl, q, fun v H1 F1 ds M1 e1 st1 r1 q1 => ?_⟩
  split at q1 <;> try exact q1.elim
  obtain ⟨x, rfl, r⟩ := rep1 r1
  cases r
  exact ⟨_, rfl, q1.1, q1.2.1, k _ _ _ _ _ e1 st1 rel_rng q1.2.2⟩
theorem id_rng2 {a b : Expr} {ta : DA} {p pos : Pos} (hg : Gl X "range") (hm : X.mg "range" = none) (ha : PA X [a, b] (liA X.K F0 ta)) (hs : starEach [a, b] X.env = [(false, eval a X.env), (false, eval b X.env)] := by rfl) (hs2 : starEach [b] X.env = [(false, eval b X.env)] := by rfl) :
    PI X tg (.Call (.Name "range" p) [a, b] [] pos) (liI X.K F0 (iRng2D ta)) := by
  refine piImp (pi_range2 hg hm ha hs hs2) fun σ H Q ⟨F, R, τ, M, Q', e0, st, sl, q, k⟩ => ?_
  refine ⟨F, R, τ, M, _, e0, st, sl, q, fun v H1 F1 ds M1 e1 st1 r1 q1 => ?_⟩
  split at q1 <;> try exact q1.elim
  obtain ⟨x, y, rfl, r, r'⟩ := rep2 r1
  cases r; cases r'
  exact ⟨_, _, rfl, q1.1, k _ _ _ _ _ e1 st1 rel_rng q1.2⟩
end

/-! ### targets -/
/-- one name (is = [i], plain), or a tuple of names -/
def bindD (plain : Bool) (is : List Nat) (d : D) (τ : SD) : Option SD :=
  if plain then (match is with | [i] => some (τ.set i (some d)) | _ => none)
  else match d with
    | .tup ds => if ds.length = is.length then some (setAll is ds τ) else none
    | _ => none
def gD (plain : Bool) (is : List Nat) : D → SD → Mp → (SD → Mp → Prop) → Prop := fun d τ M Q => match bindD plain is d τ with
  | some τ2 => Q τ2 M
  | none => False
/-- a target's concrete reading does what bindD says -/
structure TgOk (K : PySem.W.Frag) (g : TG) (plain : Bool) (is : List Nat) : Prop where
  run : ∀ F R H M v d σ τ τ2 (Q : L2.St → Hp → Prop), Stt K F R H M → Slots K F σ τ → Rep K F v d → bindD plain is d τ = some τ2 → (∀ σ2, Slots K F σ2 τ2 → (∃ xs : List V, (is.length = xs.length) ∧ σ2 = (is.zip xs).foldl (fun s p => s.set p.1 (some p.2)) σ) → Q σ2 H) → g v σ H Q
theorem tg_name {K : PySem.W.Frag} {i : Nat} : TgOk K (gName i) true [i] := by
  constructor
  intro F R H M v d σ τ τ2 Q st sl r e q
  have e : some (τ.set i (some d)) = some τ2 := e
  cases e
  exact q _ (sl.put r i) ⟨[v], rfl, rfl⟩
theorem names_run {K : PySem.W.Frag} {F : Hp} {X : Cx} {es : List Expr} {is : List Nat} {u : TGs} (h : GNames X es is u) : ∀ {xs : List V} {ds : List D} {σ : L2.St} {H : Hp} {τ : SD} {Q : L2.St → Hp → Prop}, Slots K F σ τ → RepAll K F xs ds → ds.length = is.length →
    (∀ σ2, Slots K F σ2 (setAll is ds τ) → (∃ xs : List V, (is.length = xs.length) ∧ σ2 = (is.zip xs).foldl (fun s p => s.set p.1 (some p.2)) σ) → Q σ2 H) → u xs σ H Q := by
  induction h with
  | nil =>
    intro xs ds σ H τ Q sl ra hl q
    cases ra with
    | nil => exact ⟨rfl, q _ sl ⟨[], rfl, rfl⟩⟩
    | cons _ _ => cases hl
  | @cons i x p es is u h _ hs ih =>
    intro xs ds σ H τ Q sl ra hl q
    cases ra with
    | nil => cases hl
    | cons r ra =>
      rename_i v vs d ds
      refine ⟨_, _, rfl, ih (sl.put r i) ra (Nat.succ.inj hl) fun σ2 s2 ⟨ys, h1, h2⟩ => ?_⟩
      exact q σ2 s2 ⟨v :: ys, by simp [h1], by rw [h2]; rfl⟩
theorem tg_tup {K : PySem.W.Frag} {X : Cx} {es : List Expr} {is : List Nat} {u : TGs} (h : GNames X es is u) : TgOk K (gTup K is.length u) false is := by
  constructor
  intro F R H M v d σ τ τ2 Q st sl r e q
  cases d <;> try (exact nomatch (show (none : Option SD) = some τ2 from e))
  rename_i ds
  have e : (if ds.length = is.length then some (setAll is ds τ) else none) = some τ2 := e
  split at e
  · rename_i hl
    cases e
    obtain ⟨a, xs, rfl, hs, ra⟩ := tp_get st r
    exact ⟨a, xs, rfl, hs, by rw [ra.len]; exact hl, names_run h sl ra hl q⟩
  · cases e
/-! ### for -/
def dFor (wi : DTI) (g : D → SD → Mp → (SD → Mp → Prop) → Prop) (tb : DS) : DS := fun D τ M => wi τ M fun j M1 => ∃ Pv : Nat → SD → Mp → Prop, Pv 0 τ M1 ∧ (∀ i τ M, i ≤ j.n → Pv i τ M → j.ok M) ∧
  (∀ i τ M, i < j.n → Pv i τ M → g (j.at' i) τ M fun τ2 M2 => tb { D with nx := Pv (i + 1), ct := Pv (i + 1), bk := D.nx } τ2 M2) ∧ ∀ τ M, Pv j.n τ M → D.nx τ M
section
variable {X : Cx} {F0 : Bs} {tg iter : Expr} {body : List Stmt} {wi : DTI} {g : TG} {tb : DS} {plain : Bool} {is : List Nat} {pos : Pos}
theorem sd_for (hp : PassesOwn (model X.prog X.w) X.A X.env X.xe) (hc : X.calm = true) (hi : PI X tg iter (liI X.K F0 wi)) (hg : PG X tg g) (ht : TgOk X.K g plain is) (hb : PSs X body (liS X.K F0 tb))
    (hs : ∀ x, foldedSetIterable iter X.env x = pure x := by intro _; rfl) : PS X (.For tg iter body [] pos) (liS X.K F0 (dFor wi (gD plain is) tb)) := by
  refine psImp (ps_for hp hc hi hg hb hs) fun D σ H ⟨F, R, τ, M, D', e0, st, sl, q, k⟩ => ?_
  refine ⟨F, R, τ, M, _, e0, st, sl, q, fun J H1 F1 j M1 e1 st1 rl ⟨Pv, p0, pk, ps, pd⟩ => ?_⟩
  refine ⟨fun i m σ H => m = j.n - i ∧ i ≤ j.n ∧ ∃ F2 τ2 M2, Ext F1 F2 ∧ Stt X.K F2 R H M2 ∧ Slots X.K F2 σ τ2 ∧ Pv i τ2 M2, ⟨j.n, by simp, Nat.zero_le _, F1, τ, M1, Ext.refl, st1, sl.ext e1, p0⟩, ?_⟩
  rintro i m σ2 H2 ⟨rfl, hi, F2, τ2, M2, e2, st2, sl2, p2⟩
  have ok := pk i τ2 M2 hi p2
  by_cases hlt : i < j.n
  · refine .inr ⟨rl.go i F2 R H2 M2 e2 st2 ok hlt, fun σ' H' => ∃ F2 τ2 M2, Ext F1 F2 ∧ Stt X.K F2 R H' M2 ∧ Slots X.K F2 σ' τ2 ∧ Pv (i + 1) τ2 M2, fun σ' H' z => ⟨j.n - (i + 1), by omega, rfl, hlt, z⟩, fun x H3 y => ?_⟩
    obtain ⟨F3, e3, st3, rx, _⟩ := rl.yld i F2 R H2 M2 x H3 e2 st2 ok hlt y
    have step := ps i τ2 M2 hlt p2
    unfold gD at step
    split at step
    · rename_i τ3 eb
      refine ht.run F3 R H3 M2 x _ σ2 τ2 τ3 _ st3 (sl2.ext e3) rx eb fun σ3 sl3 _ => ?_
      refine ⟨F3, R, τ3, M2, _, e0.trans (e1.trans (e2.trans e3)), st3, sl3, step, ⟨?_, k.rt.ext (e1.trans (e2.trans e3)), k.nx.ext (e1.trans (e2.trans e3)), ?_⟩⟩
      · exact fun σ4 H4 F4 τ4 M4 e4 st4 sl4 q4 => ⟨F4, τ4, M4, e2.trans (e3.trans e4), st4, sl4, q4⟩
      · exact fun σ4 H4 F4 τ4 M4 e4 st4 sl4 q4 => ⟨F4, τ4, M4, e2.trans (e3.trans e4), st4, sl4, q4⟩
    · exact step.elim
  · have e : i = j.n := by omega
    subst e
    exact .inl ⟨rl.stop F2 R H2 M2 e2 st2 ok, k.nx _ _ _ _ _ (e1.trans e2) st2 sl2 (pd τ2 M2 p2)⟩
end

/-! ### comprehensions -/
def wipeD (τ : SD) : List Nat → SD
  | [] => τ
  | v :: vs => (wipeD τ vs).set v none
theorem Slots.wipe {K : PySem.W.Frag} {F : Hp} {σ : L2.St} {τ : SD} (h : Slots K F σ τ) : ∀ vs : List Nat, Slots K F (wipe σ vs) (wipeD τ vs)
  | [] => h
  | v :: vs => (Slots.wipe h vs).drop1 v
theorem wipe_get (σ : L2.St) (k : Nat) : ∀ vs : List Nat, (wipe σ vs)[k]? = if k ∈ vs then (σ[k]?).map (fun _ => none) else σ[k]?
  | [] => by simp [wipe]
  | v :: vs => by
    show ((wipe σ vs).set v none)[k]? = _
    rw [List.getElem?_set]
    have ih := wipe_get σ k vs
    by_cases h : v = k
    · subst h
      rw [if_pos rfl, if_pos List.mem_cons_self, wipe_length]
      by_cases hk : v < σ.length
      · rw [if_pos hk, List.getElem?_eq_getElem hk]; rfl
      · rw [if_neg hk, List.getElem?_eq_none (by omega)]; rfl
    · rw [if_neg h, ih]
      by_cases hm : k ∈ vs
      · rw [if_pos hm, if_pos (List.mem_cons_of_mem _ hm)]
      · rw [if_neg hm, if_neg fun z => (List.mem_cons.mp z).elim (fun q => h q.symm) hm]
theorem wipe_set {σ : L2.St} {i : Nat} {x : Option V} {vs : List Nat} (h : i ∈ vs) : wipe (σ.set i x) vs = wipe σ vs := by
  apply List.ext_getElem?
  intro k
  rw [wipe_get, wipe_get, List.getElem?_set]
  by_cases e : i = k
  · subst e
    rw [if_pos h, if_pos h, if_pos rfl]
    by_cases hk : i < σ.length
    · rw [if_pos hk, List.getElem?_eq_getElem hk]; rfl
    · rw [if_neg hk, List.getElem?_eq_none (by omega)]
  · rw [if_neg e]
theorem wipe_wipe {σ : L2.St} {vs : List Nat} : wipe (wipe σ vs) vs = wipe σ vs := by
  apply List.ext_getElem?
  intro k
  rw [wipe_get, wipe_get]
  by_cases h : k ∈ vs
  · simp only [if_pos h]
    cases σ[k]? <;> rfl
  · simp only [if_neg h]
theorem wipe_fold {vs : List Nat} : ∀ (is : List Nat) (xs : List V) (σ : L2.St), (∀ i ∈ is, i ∈ vs) → wipe ((is.zip xs).foldl (fun s p => s.set p.1 (some p.2)) σ) vs = wipe σ vs
  | [], _, _, _ => rfl
  | i :: is, [], _, _ => rfl
  | i :: is, x :: xs, σ, h => by
    show wipe ((is.zip xs).foldl (fun s p => s.set p.1 (some p.2)) (σ.set i (some x))) vs = _
    rw [wipe_fold is xs _ fun j hj => h j (List.mem_cons_of_mem _ hj), wipe_set (h i List.mem_cons_self)]
theorem Stt.reput {K : PySem.W.Frag} {F R H : Hp} {M : Mp} {p : Addr} {xs xs' : List V} (s : Stt K F (upd R p (.lst xs)) H M) : Stt K F (upd R p (.lst xs')) (upd H p (.lst xs')) M := by
  obtain ⟨hp, fp, mp⟩ := s.rs p (.lst xs) upd_same
  have hp : H p = some (.lst xs) := hp
  refine ⟨fun a u e => ?_, fun a u e => ?_, fun a m e => ?_, s.nf, fun a u e => ?_⟩
  rotate_left 3
  · by_cases q : a = p
    · subst q; rw [upd_same] at e; cases e; trivial
    · rw [upd_ne q] at e; exact s.nr a u (by rw [upd_ne q]; exact e)
  · rw [upd_ne (ne_of_none e fp)]; exact s.fz _ _ e
  · by_cases q : a = p
    · subst q; rw [upd_same] at e; cases e; exact ⟨upd_same, fp, mp⟩
    · rw [upd_ne q] at e
      obtain ⟨h1, h2, h3⟩ := s.rs a u (by rw [upd_ne q]; exact e)
      exact ⟨h1.step (fun b v n eb => by rw [upd_ne n]; exact eb) q (fun c z => by rw [hp] at z; unfold LamX.CodeO at z; cases z), h2, h3⟩
  · have q : a ≠ p := fun z => by subst z; rw [mp] at e; cases e
    rw [upd_ne q]; exact s.ow a m e
theorem Stt.refreeze {K : PySem.W.Frag} {F R H : Hp} {M : Mp} {p : Addr} {xs : List V} (s : Stt K F (upd R p (.lst xs)) H M) (hr : R p = none) : Stt K (upd F p (.lst xs)) R H M ∧ Ext F (upd F p (.lst xs)) := by
  obtain ⟨hp, fp, mp⟩ := s.rs p (.lst xs) upd_same
  have ex : Ext F (upd F p (.lst xs)) := fun a u e => by rw [upd_ne (ne_of_none e fp)]; exact e
  refine ⟨⟨fun a u e => ?_, fun a u e => ?_, fun a m e => ?_, fun a u e => ?_, fun a u e => s.nr a u (by rw [upd_ne (ne_of_none e hr)]; exact e)⟩, ex⟩
  rotate_left 3
  · by_cases q : a = p
    · subst q; rw [upd_same] at e; cases e; trivial
    · rw [upd_ne q] at e; exact s.nf a u e
  · by_cases q : a = p
    · subst q; rw [upd_same] at e; cases e; exact hp
    · rw [upd_ne q] at e; exact s.fz _ _ e
  · have q : a ≠ p := ne_of_none e hr
    obtain ⟨h1, h2, h3⟩ := s.rs a u (by rw [upd_ne q]; exact e)
    exact ⟨h1, by rw [upd_ne q]; exact h2, h3⟩
  · have q : a ≠ p := fun z => by subst z; rw [mp] at e; cases e
    obtain ⟨h1, u, h2, h3⟩ := s.ow a m e
    exact ⟨by rw [upd_ne q]; exact h1, u, h2, h3.ext ex⟩
theorem Stt.reown {K : PySem.W.Frag} {F R H : Hp} {M : Mp} {p : Addr} {xs : List V} {m : MO} (s : Stt K F (upd R p (.lst xs)) H M) (hr : R p = none) (r : RepO K F (.lst xs) m) : Stt K F R H (updM M p m) := by
  obtain ⟨hp, fp, mp⟩ := s.rs p (.lst xs) upd_same
  refine ⟨s.fz, fun a u e => ?_, fun a m' e => ?_, s.nf, fun a u e => s.nr a u (by rw [upd_ne (ne_of_none e hr)]; exact e)⟩
  · have q : a ≠ p := ne_of_none e hr
    obtain ⟨h1, h2, h3⟩ := s.rs a u (by rw [upd_ne q]; exact e)
    exact ⟨h1, h2, by rw [updM_ne q]; exact h3⟩
  · by_cases q : a = p
    · subst q; rw [updM_same] at e; cases e; exact ⟨fp, _, hp, r⟩
    · rw [updM_ne q] at e; exact s.ow a m' e
def dYes : DT := fun _ M Q => Q true M
/-- [e for .. in .. if t]; fin: what becomes of the new list -/
def dLcG (fin : List D → Mp → QD → Prop) (wi : DTI) (plain : Bool) (is vs : List Nat) (tt : DT) (te : DE) : DE := fun τ M Q => wi τ M fun j M1 => ∃ Pv : Nat → List D → Mp → Prop, Pv 0 [] M1 ∧ (∀ i acc M, i ≤ j.n → Pv i acc M → j.ok M) ∧
  (∀ i acc M, i < j.n → Pv i acc M → match bindD plain is (j.at' i) (wipeD τ vs) with
    | some τ2 => tt τ2 M fun b M3 => if b = true then te τ2 M3 fun e M4 => acc.length < sizeLine ∧ Pv (i + 1) (acc ++ [e]) M4 else Pv (i + 1) acc M3
    | none => False) ∧ ∀ acc M, Pv j.n acc M → fin acc M Q
abbrev dLc := dLcG fun acc M Q => Q (.lst acc) M
abbrev dLcM := dLcG fun acc M Q => ∀ p, M p = none → Q (.ref p) (updM M p (.lst acc))
/-- how the new list is handed on -/
def FinOk (K : PySem.W.Frag) (fin : List D → Mp → QD → Prop) : Prop := ∀ F R H M p xs acc Q' Q, Stt K F (upd R p (.lst xs)) H M → R p = none → RepAll K F xs acc → fin acc M Q' → KE K F R Q' Q → Q (.ref p) H
theorem fin_lst {K : PySem.W.Frag} : FinOk K fun acc M Q => Q (.lst acc) M := fun F R H M p xs acc Q' Q st hr ra q k => by
  obtain ⟨s2, e⟩ := st.refreeze hr
  exact k _ _ _ _ _ e s2 (.lst upd_same (ra.ext e)) q
theorem fin_own {K : PySem.W.Frag} : FinOk K fun acc M Q => ∀ p, M p = none → Q (.ref p) (updM M p (.lst acc)) := fun F R H M p xs acc Q' Q st hr ra q k =>
  k _ _ _ _ _ Ext.refl (st.reown hr (m := .lst acc) ra) (.ref p) (q p (st.rs p _ upd_same).2.2)
section
variable {K : PySem.W.Frag} {F0 : Bs} {fin : List D → Mp → QD → Prop} {wi : DTI} {g : TG} {plain : Bool} {is vs : List Nat} {tt : DT} {te : DE}
theorem li_lc (hf : FinOk K fin) (ht : TgOk K g plain is) (hv : ∀ i ∈ is, i ∈ vs) {σ : L2.St} {H : Hp} {Q : VK} (h : liE K F0 (dLcG fin wi plain is vs tt te) σ H Q) : tLc (liI K F0 wi) g (liT K F0 tt) (liE K F0 te) vs σ H Q := by
  obtain ⟨F, R, τ, M, Q', e0, st, sl, q, k⟩ := h
  refine ⟨F, R, τ, M, _, e0, st, sl, q, fun J H1 F1 j M1 e1 st1 rl ⟨Pv, p0, pk, ps, pd⟩ => fun L hL => ?_⟩
  have rL : R L = none := by
    cases z : R L with
    | none => rfl
    | some o => exact ((st1.rs L o z).1.there hL).elim
  have fL : F1 L = none := by
    cases z : F1 L with
    | none => rfl
    | some o => have := st1.fz L o z; rw [hL] at this; cases this
  have mL : M1 L = none := by
    cases z : M1 L with
    | none => rfl
    | some o => obtain ⟨_, u, hu, _⟩ := st1.ow L o z; rw [hL] at hu; cases hu
  have exR : ∀ o, Ext R (upd R L o) := fun o a u e => by rw [upd_ne (ne_of_none e rL)]; exact e
  have st0 : Stt K F1 (upd R L (.lst [])) (upd H1 L (.lst [])) M1 := by
    refine ⟨fun a u e => ?_, fun a u e => ?_, fun a m e => ?_, st1.nf, fun a u e => ?_⟩
    rotate_left 3
    · by_cases z : a = L
      · subst z; rw [upd_same] at e; cases e; trivial
      · rw [upd_ne z] at e; exact st1.nr a u e
    · rw [upd_ne (ne_of_none e fL)]; exact st1.fz _ _ e
    · by_cases z : a = L
      · subst z; rw [upd_same] at e; cases e; exact ⟨upd_same, fL, mL⟩
      · rw [upd_ne z] at e
        obtain ⟨h1, h2, h3⟩ := st1.rs a u e
        exact ⟨h1.step (fun b v n eb => by rw [upd_ne n]; exact eb) z (fun c y => by rw [hL] at y; cases y), h2, h3⟩
    · have z : a ≠ L := fun z => by subst z; rw [mL] at e; cases e
      rw [upd_ne z]; exact st1.ow a m e
  refine ⟨fun i m H => m = j.n - i ∧ i ≤ j.n ∧ ∃ F2 M2 xs acc, Ext F1 F2 ∧ Stt K F2 (upd R L (.lst xs)) H M2 ∧ RepAll K F2 xs acc ∧ Pv i acc M2, ⟨j.n, by simp, Nat.zero_le _, F1, M1, [], [], Ext.refl, st0, .nil, p0⟩, ?_⟩
  rintro i m H2 ⟨rfl, hi, F2, M2, xs, acc, e2, st2, ra, p2⟩
  have ok := pk i acc M2 hi p2
  by_cases hlt : i < j.n
  · refine .inr ⟨rl.go i F2 _ H2 M2 e2 st2 ok hlt, fun H' => ∃ F2 M2 xs acc, Ext F1 F2 ∧ Stt K F2 (upd R L (.lst xs)) H' M2 ∧ RepAll K F2 xs acc ∧ Pv (i + 1) acc M2, fun H' z => ⟨j.n - (i + 1), by omega, rfl, hlt, z⟩, fun x H3 y => ?_⟩
    obtain ⟨F3, e3, st3, rx, _⟩ := rl.yld i F2 _ H2 M2 x H3 e2 st2 ok hlt y
    have step := ps i acc M2 hlt p2
    split at step
    · rename_i τ3 eb
      have sl3 : Slots K F3 (wipe σ vs) (wipeD τ vs) := (sl.ext (e1.trans (e2.trans e3))).wipe vs
      refine ht.run F3 _ H3 M2 x _ _ _ τ3 _ st3 sl3 rx eb fun σ4 sl4 ⟨ys, hl, e4⟩ => ⟨by rw [e4, wipe_fold is ys _ hv, wipe_wipe], ?_⟩
      have b3 : Bas F0 F3 (upd R L (.lst xs)) := ⟨(e0.trans (e1.trans (e2.trans e3))).f, e0.r.trans (exR _), e0.t.ext (exR _)⟩
      refine ⟨F3, _, τ3, M2, _, b3, st3, sl4, step, fun b H5 F5 M5 e5 st5 q5 => ?_⟩
      cases b with
      | false =>
        rw [if_neg Bool.false_ne_true] at q5 ⊢
        exact ⟨F5, M5, xs, acc, e2.trans (e3.trans e5), st5, ra.ext (e3.trans e5), q5⟩
      | true =>
        rw [if_pos rfl] at q5 ⊢
        refine ⟨F5, _, τ3, M5, _, b3.trans e5, st5, sl4.ext e5, q5, fun z H6 F6 dz M6 e6 st6 r6 ⟨q6, q7⟩ => ?_⟩
        have ra6 := ra.ext (e3.trans (e5.trans e6))
        exact ⟨xs, (st6.rs L _ upd_same).1, by rw [ra6.len]; exact q6, F6, M6, xs ++ [z], acc ++ [dz], e2.trans (e3.trans (e5.trans e6)), st6.reput, ra6.app (.cons r6 .nil), q7⟩
    · exact step.elim
  · have e : i = j.n := by omega
    subst e
    exact .inl ⟨rl.stop F2 _ H2 M2 e2 st2 ok, hf F2 R H2 M2 L xs acc Q' Q st2 rL ra (pd acc M2 p2) (k.ext (e1.trans e2))⟩
end
section
variable {X : Cx} {F0 : Bs} {elt tg iter : Expr} {ifs : List Expr} {scope : Scope} {own : List (Str × Nat)} {pos : Pos} {wi : DTI} {g : TG} {plain : Bool} {is vs : List Nat} {tt : DT} {te : DE} {fin : List D → Mp → QD → Prop}
theorem pd_lcG (hf : FinOk X.K fin) (hc : X.calm = true) (hN : X.N.Nodup) (hi : PI X tg iter (liI X.K F0 wi)) (ok : BlkOk X.N X.env.scope scope own) (hvs : own.map (·.2) = vs) (hto : TgOk X.K g plain is) (hv : ∀ i ∈ is, i ∈ vs)
    (hg : ∀ (s : Shared) (H : Hp) (C : Addr) (cl : List (Str × Addr)) (fp : List Addr), PG (X.blk s H scope (compEnvC scope cl C X.env) fp) tg g)
    (ht : ∀ (s : Shared) (H : Hp) (C : Addr) (cl : List (Str × Addr)) (fp : List Addr), PTs (X.blk s H scope (compEnvC scope cl C X.env) fp) ifs (liT X.K F0 tt))
    (he : ∀ (s : Shared) (H : Hp) (C : Addr) (cl : List (Str × Addr)) (fp : List Addr), PE (X.blk s H scope (compEnvC scope cl C X.env) fp) elt (liE X.K F0 te)) (hs : ∀ x, foldedSetIterable iter X.env x = pure x := by intro _; rfl) :
    PE X (.ListComp elt [⟨tg, iter, ifs, 0⟩] scope pos) (liE X.K F0 (dLcG fin wi plain is vs tt te)) := by
  subst hvs
  exact peImp (pe_lc hc hN hi ok hg ht he hs) fun _ _ _ h => li_lc hf hto hv h
/-- name = [..] on one line -/
theorem sd_setLcG {i : Nat} {y : Str} {py spos : Pos} (hf : FinOk X.K fin) (hc : X.calm = true) (hN : X.N.Nodup) (hy : X.N[i]? = some y) (hyl : X.env.scope.names.lookup y = some .local)
    (hsw : swapsWith (.ListComp elt [⟨tg, iter, ifs, 0⟩] scope pos) (some (.Name y py)) spos.line X.env = pure true) (hi : PI X tg iter (liI X.K F0 wi)) (ok : BlkOk X.N X.env.scope scope own) (hvs : own.map (·.2) = vs) (hto : TgOk X.K g plain is) (hv : ∀ i ∈ is, i ∈ vs)
    (hg : ∀ (s : Shared) (H : Hp) (C : Addr) (cl : List (Str × Addr)) (fp : List Addr), PG (X.blk s H scope (compEnvC scope cl C X.env) fp) tg g)
    (ht : ∀ (s : Shared) (H : Hp) (C : Addr) (cl : List (Str × Addr)) (fp : List Addr), PTs (X.blk s H scope (compEnvC scope cl C X.env) fp) ifs (liT X.K F0 tt))
    (he : ∀ (s : Shared) (H : Hp) (C : Addr) (cl : List (Str × Addr)) (fp : List Addr), PE (X.blk s H scope (compEnvC scope cl C X.env) fp) elt (liE X.K F0 te)) (hs : ∀ x, foldedSetIterable iter X.env x = pure x := by intro _; rfl) :
    PS X (.Assign [.Name y py] (.ListComp elt [⟨tg, iter, ifs, 0⟩] scope pos) spos) (liS X.K F0 (dSet i (dLcG fin wi plain is vs tt te))) := by
  subst hvs
  exact psImp (ps_setLc hc hN hy hyl hsw hi ok hg ht he hs) fun D σ H ⟨F, R, τ, M, D', e0, st, sl, q, k⟩ =>
    li_lc (Q := fun x H1 => gName i x σ H1 D.nx) hf hto hv ⟨F, R, τ, M, _, e0, st, sl, q, fun v H2 F2 d M2 e2 st2 r2 q2 => k.nx _ _ _ _ _ e2 st2 ((sl.ext e2).put r2 i) q2⟩
theorem tsd_nil : PTs X [] (liT X.K F0 dYes) := ⟨fun pins s σ H Q I ⟨F, R, τ, M, Q', e0, st, sl, q, k⟩ => pts_nil.run pins s σ H Q I (k _ _ _ _ Ext.refl st q)⟩
theorem tsd_one {c : Expr} {t : DT} (h : PT X c (liT X.K F0 t)) : PTs X [c] (liT X.K F0 t) := pts_one h
end

/-! ### a def's body keeps its promise -/
def startD (N : List Str) (ds : List D) : SD := ds.map some ++ List.replicate (N.length - ds.length) none
theorem slots_start {K : PySem.W.Frag} {F : Hp} {N : List Str} {vs : List V} {ds : List D} (r : RepAll K F vs ds) : Slots K F (L2.start N vs) (startD N ds) := by
  unfold L2.start startD
  rw [r.len]
  have nn : ∀ n : Nat, Slots K F (List.replicate n none) (List.replicate n none) := fun n => by
    induction n with
    | zero => exact .nil
    | succ n ih => exact .cons True.intro ih
  have go : ∀ {vs : List V} {ds : List D} {σ : L2.St} {τ : SD}, RepAll K F vs ds → Slots K F σ τ → Slots K F (vs.map some ++ σ) (ds.map some ++ τ) := fun {vs ds σ τ} r s => by
    induction vs generalizing ds with
    | nil => cases r; exact s
    | cons v vs ih =>
      cases r with
      | cons h t => exact .cons h (ih t)
  exact go r (nn _)
/-- what is wanted at a def's end: what it made for itself may be forgotten -/
def rtQ (Q : QD) : QD := fun d M' => ∃ M2 : Mp, (∀ a m, M2 a = some m → M' a = some m) ∧ Q d M2
abbrev fnE (Q : QD) : EndsD := ⟨fun _ M' => rtQ Q .non M', rtQ Q, fun _ _ => False, fun _ _ => False⟩
def Rds (t : DS) (N : List Str) (sp : SpD) : Prop := ∀ ds M Q E, sp ds M Q E → t (fnE Q) (startD N ds) M
section
variable {P : Program} {w : World} {K : PySem.W.Frag} {mg : Str → Option Value} {base : Heap}
/-- THE RULE for a def that lets no exception out -/
theorem Fun.okD {x qual : Str} {st : Stmt} {f : Addr} {fd : FuncData} {N ps : List Str} {k : Nat} {sp : SpD} {T : List (Addr × Str)} (F : Fun K x qual st f fd) (S : FnScope N ps (defScope st)) (len : ∀ ds M Q E, sp ds M Q E → ds.length = ps.length) {t : DS}
    (hbody : ∀ (cdv : Value) (A : Around) (outer : List Env) (s : Shared) (H : Hp) (E : XK) (F0 R0 : Hp), Room k (A.deeper (envOfC qual (defScope st) s.heap.objs.size f cdv)) →
      PSs (cxOf CX0 P w K mg base N qual (defScope st) f cdv A outer s H E).nox (defBody st) (liS K ⟨F0, R0, T⟩ t))
    (hq : Rds t N sp) : FnOk P w K mg base CX0 (k + 1) f fd ps (liSp K T sp) := by
  refine F.ok S (fun vs H Q E ⟨F, R, ds, M, Q', E', st, _, ra, h, _, _⟩ => by rw [ra.len]; exact len _ _ _ _ h) fun cdv A outer s H vs Q E hr ⟨F, R, ds, M, Q', E', st, tr, ra, h, kQ, kE⟩ => ?_
  refine ⟨_, hbody cdv A outer s H E F R hr, F, R, startD N ds, M, _, ⟨Ext.refl, Ext.refl, tr⟩, st, slots_start ra, hq ds M Q' E' h, ?_⟩
  refine ⟨fun σ2 H2 F2 τ2 M2 e2 st2 sl2 ⟨M3, h3, q3⟩ => kQ _ _ _ _ _ e2 (st2.less h3) .non q3, fun v H2 F2 d M2 e2 st2 r2 ⟨M3, h3, q3⟩ => kQ _ _ _ _ _ e2 (st2.less h3) r2 q3, fun _ _ _ _ _ _ _ _ z => z, fun _ _ _ _ _ _ _ _ z => z⟩
end
end DL

/-! DL, the rules: constants, methods of lists, the law's entry -/
namespace DL
open PySem PySem.Spec PyProof.Rows L2

/-- a constant of the module -/
structure CnD (K : PySem.W.Frag) (mg : Str → Option Value) (x : Str) (d : D) : Prop where
  ex : ∃ u v, mg x = some u ∧ RelV v u ∧ ∀ F, Rep K F v d
theorem CnD.pd {X : Cx} {F0 : Bs} {x : Str} {d : D} {pos : Pos} (h : CnD X.K X.mg x d) (hg : Gl X x := by rfl) (hd : (x == ("__debug__" : Str)) = false := by decide) : PE X (.Name x pos) (liE X.K F0 (dC d)) := by
  obtain ⟨u, v, h1, h2, h3⟩ := h.ex
  exact pd_glob hg h1 h2 h3 hd
/-- a built-in class as a value -/
theorem pd_ty {X : Cx} {F0 : Bs} {x : Str} {n : String} {pos : Pos} (hg : Gl X x) (hm : X.mg x = none) (hv : bootBuiltins x = some (.type n)) (hn : x ≠ "__name__" := by decide) (hd : (x == ("__debug__" : Str)) = false := by decide) : PE X (.Name x pos) (liE X.K F0 (dC (.ty n))) :=
  pd_bltn hg hm hv (v := .ty n) rfl (fun _ => .ty n) hn hd
/-! ### methods -/
abbrev RM := D → List D → Mp → QD → Prop
def dMt (r : RM) (to : DE) (t : DA) : DE := fun τ M Q => to τ M fun x M1 => t τ M1 fun ds M2 => r x ds M2 Q
def dMt0 (r : RM) (to : DE) : DE := fun τ M Q => to τ M fun x M1 => r x [] M1 Q
/-- x stands for an object that is changed in place -/
def lstRef (x : D) : Prop := match x with
  | .ref _ => True
  | _ => False
def dAppend : RM := fun x ds M Q => match x, ds with
  | .ref a, [d] => match M a with
    | some (.lst xs) => xs.length < sizeLine ∧ Q .non (updM M a (.lst (xs ++ [d])))
    | _ => False
  | _, _ => False
def dPop : RM := fun x ds M Q => match x, ds with
  | .ref a, [] => match M a with
    | some (.lst xs) => match xs[xs.length - 1]? with
      | some y => Q y (updM M a (.lst xs.dropLast))
      | none => False
    | _ => False
  | _, _ => False
/-- the list stands there ahead of the arguments -/
def isLst (M : Mp) : D → Prop
  | .ref a => match M a with
    | some (.lst _) => True
    | _ => False
  | _ => False
def dMtL (r : RM) (to : DE) (t : DA) : DE := fun τ M Q => to τ M fun x M1 => isLst M1 x ∧ t τ M1 fun ds M2 => r x ds M2 Q
theorem lst_there {K : PySem.W.Frag} {F R H : Hp} {M : Mp} {v : V} {d : D} (st : Stt K F R H M) (r : Rep K F v d) (h : isLst M d) : tyV K "list" v H := by
  cases r <;> try exact h.elim
  rename_i a
  have h : (match M a with | some (.lst _) => True | _ => False) := h
  split at h <;> try exact h.elim
  rename_i ys em
  obtain ⟨_, u, hu, ru⟩ := st.ow _ _ em
  obtain ⟨vs, rfl, ra⟩ := ru.lst_iff
  exact .inl ⟨rfl, _, .inl (.inl hu)⟩
section
variable {X : Cx} {F0 : Bs} {o e : Expr} {es : List Expr} {to : DE} {t : DA} {apos cpos : Pos}
theorem RepAll.dropLast {K : PySem.W.Frag} {F : Hp} {xs : List V} {ds : List D} (r : RepAll K F xs ds) : RepAll K F xs.dropLast ds.dropLast := by
  rw [List.dropLast_eq_take, List.dropLast_eq_take, r.len]
  exact r.tk _
theorem mtd_append : MtR X "list.append" (liM X.K F0 dAppend) := by
  refine mtImp (r := rAppend) mt_append fun x xs H Q ⟨F, R, M, d, ds, Q', e0, st, rx, rs, q, k⟩ => ?_
  unfold dAppend at q
  split at q <;> try exact q.elim
  rename_i a d
  split at q <;> try exact q.elim
  rename_i ys em
  obtain ⟨z, rfl, rz⟩ := rep1 rs
  cases rx
  obtain ⟨_, u, hu, ru⟩ := st.ow _ _ em
  obtain ⟨vs, rfl, ra⟩ := ru.lst_iff
  exact ⟨a, vs, z, rfl, rfl, hu, by rw [ra.len]; exact q.1, k _ _ _ _ _ Ext.refl (st.store em (fun _ z => by cases z) (m' := .lst (ys ++ [d])) (ra.app (.cons rz .nil))) .non q.2⟩
theorem mtd_pop : MtR X "list.pop" (liM X.K F0 dPop) := by
  refine mtImp (r := rPop) mt_pop fun x xs H Q ⟨F, R, M, d, ds, Q', e0, st, rx, rs, q, k⟩ => ?_
  unfold dPop at q
  split at q <;> try exact q.elim
  rename_i a
  split at q <;> try exact q.elim
  rename_i ys em
  split at q <;> try exact q.elim
  rename_i y ey
  cases rs
  cases rx
  obtain ⟨_, u, hu, ru⟩ := st.ow _ _ em
  obtain ⟨vs, rfl, ra⟩ := ru.lst_iff
  obtain ⟨z, ez, rz⟩ := ra.getD ey
  exact ⟨a, vs, z, rfl, rfl, hu, by rw [ra.len]; exact ez, k _ _ _ _ _ Ext.refl (st.store em (fun _ z => by cases z) (m' := .lst ys.dropLast) ra.dropLast) rz q⟩
/-- o.append(e) -/
theorem pd_append (ho : PE X o (liE X.K F0 to)) (ha : PA X (e :: es) (liA X.K F0 t)) (hbase : attributeBase o "append" X.env (eval o X.env) = eval o X.env := by rfl)
    (hfew : ((backTo cpos (starEach (e :: es) X.env)).all (fun x => !x.1) && (backToKw cpos (keywordEach [] X.env)).all (fun x => x.1.isSome)
      && decide ((e :: es).length + ([] : List Keyword).length + (if ([] : List Keyword).isEmpty then 0 else 1) < 30)) = true := by rfl)
    (hline : (apos.endLine == cpos.line) = true := by rfl) (hs : starEach (e :: es) X.env = (false, eval e X.env) :: starEach es X.env := by rfl) (hplain : (backTo cpos (starEach es X.env)).any (·.1) = false := by rfl) :
    PE X (.Call (.Attribute o "append" apos) (e :: es) [] cpos) (liE X.K F0 (dMtL dAppend to t)) := by
  refine peImp (pe_bm PySem.F.plainAttrs_list PySem.F.slot_list_append PySem.F.type_list_append (mtd_append (F0 := F0)) ho ha hbase hfew hline hs hplain) fun σ H Q ⟨F, R, τ, M, Q', e0, st, sl, q, k⟩ => ?_
  refine ⟨F, R, τ, M, _, e0, st, sl, q, fun v H1 F1 d M1 e1 st1 r1 ⟨q0, q1⟩ => ⟨?_, ?_⟩⟩
  · exact lst_there st1 r1 q0
  · refine ⟨F1, R, τ, M1, _, e0.trans e1, st1, sl.ext e1, q1, fun vs H2 F2 ds M2 e2 st2 r2 q2 => ?_⟩
    exact ⟨F2, R, M2, d, ds, Q', e0.trans (e1.trans e2), st2, r1.ext e2, r2, q2, k.ext (e1.trans e2)⟩
theorem pd_pop (ho : PE X o (liE X.K F0 to)) (hbase : attributeBase o "pop" X.env (eval o X.env) = eval o X.env := by rfl) (hline : (apos.endLine == cpos.line) = true := by rfl) :
    PE X (.Call (.Attribute o "pop" apos) [] [] cpos) (liE X.K F0 (dMt0 dPop to)) := by
  refine peImp (pe_bm0 PySem.F.plainAttrs_list PySem.F.slot_list_pop PySem.F.type_list_pop (mtd_pop (F0 := F0)) ho hbase hline) fun σ H Q ⟨F, R, τ, M, Q', e0, st, sl, q, k⟩ => ?_
  refine ⟨F, R, τ, M, _, e0, st, sl, q, fun v H1 F1 d M1 e1 st1 r1 q1 => ⟨?_, F1, R, M1, d, [], Q', e0.trans e1, st1, r1, .nil, q1, k.ext e1⟩⟩
  unfold dPop at q1
  split at q1 <;> try exact q1.elim
  split at q1 <;> try exact q1.elim
  rename_i ys em
  cases r1
  obtain ⟨_, u, hu, ru⟩ := st1.ow _ _ em
  obtain ⟨vs, rfl, ra⟩ := ru.lst_iff
  exact .inl ⟨rfl, _, .inl (.inl hu)⟩
end
/-! ### x += e -/
section
variable {X : Cx} {F0 : Bs}
theorem iod_sub : OpD X F0 (inplaceOp .Sub) dSub := od_I0 iop_sub
theorem iod_addI : OpD X F0 (inplaceOp .Add) (dI0 fun i j => i + j) := od_I0 iop_add
theorem iod_mul : OpD X F0 (inplaceOp .Mult) (dI CMul fun i j => i * j) := od_I iop_mul
end
/-! ### the law's own promise -/
def spLawD : SpD := fun ds M Q _ => ∃ ns : List Int, ds = [.lsk (ns.map .int)] ∧ ns.length ≤ 63 ∧ ∀ d M', d = .bl true → Q d M'
theorem mem_lookupA : ∀ {T : List (Addr × Str)} {b : Addr} {q : Str}, T.lookup b = some q → (b, q) ∈ T
  | [], _, _, e => by cases e
  | (a, p) :: T, b, q, e => by
    rw [List.lookup_cons] at e
    by_cases z : b = a
    · subst z
      rw [beq_self_eq_true] at e
      cases e
      exact List.mem_cons_self
    · rw [show (b == a) = false by simpa using z] at e
      exact List.mem_cons_of_mem _ (mem_lookupA e)
theorem law_sp {K : PySem.W.Frag} {T : List (Addr × Str)} {H : Hp} {a : Addr} {ns : List Int} (hL : ∀ p ∈ T, T.lookup p.1 = some p.2) (hT : ∀ p ∈ T, LamX.TabS H p.1 p.2) (hl : ns.length ≤ 63) (hS : SqL K H a (ns.map V.int)) : liSp K T spLawD [.ref a] H (fun v _ => v = .bl true) fun _ _ _ => False := by
  have mem : ∀ {b : Addr} {q : Str}, T.lookup b = some q → (b, q) ∈ T := fun e => mem_lookupA e
  have rs0 : ∀ (F : Hp), (∀ b o, F b = some o → ∃ xs u, o = .lst xs ∨ o = .frz u (.lst xs)) → (∀ b o, F b = some o → H b = some o) → ∀ b o, (fun b => (T.lookup b).map fun q => HO.xd [(q, V.non)]) b = some o → RsOk H b o ∧ F b = none ∧ (fun _ => none : Mp) b = none := fun F hF hFH b o e => by
    have e : (T.lookup b).map (fun q => HO.xd [(q, V.non)]) = some o := e
    cases eq : T.lookup b with
    | none => rw [eq] at e; cases e
    | some q =>
      rw [eq] at e
      obtain rfl : HO.xd [(q, V.non)] = o := Option.some.inj e
      have tb := hT _ (mem eq)
      refine ⟨⟨q, rfl, tb⟩, ?_, rfl⟩
      cases ef : F b with
      | none => rfl
      | some u =>
        obtain ⟨ps, h1, _⟩ := tb
        have h2 := hFH b u ef
        rw [h1] at h2
        cases h2
        obtain ⟨xs, v, z | z⟩ := hF b _ ef <;> cases z
  have nrT : ∀ b o, (fun b => (T.lookup b).map fun q => HO.xd [(q, V.non)]) b = some o → NX o := fun b o e => by
    have e : (T.lookup b).map (fun q => HO.xd [(q, V.non)]) = some o := e
    cases eq : T.lookup b with
    | none => rw [eq] at e; cases e
    | some q =>
      rw [eq] at e
      obtain rfl : HO.xd [(q, V.non)] = o := Option.some.inj e
      trivial
  have key : ∀ (F : Hp), Stt K F (fun b => (T.lookup b).map fun q => HO.xd [(q, V.non)]) H (fun _ => none) → SqL K F a (ns.map V.int) → liSp K T spLawD [.ref a] H (fun v _ => v = .bl true) fun _ _ _ => False := fun F st hF => by
    refine ⟨_, _, [.lsk (ns.map .int)], _, fun d _ => d = .bl true, fun _ _ _ => False, st, fun p hp => ?_, .cons (.lsk (xs := ns.map V.int) hF (RepAll.ofInts ns)) .nil, ⟨ns, rfl, hl, fun d M' e => e⟩, fun v H2 F2 d M2 _ _ r e => ?_, fun _ _ _ _ _ _ _ _ _ z => z⟩
    · show (T.lookup p.1).map _ = _
      rw [hL p hp]; rfl
    · subst e
      cases r
      rfl
  have one : ∀ o : HO, (∃ xs u, o = .lst xs ∨ o = .frz u (.lst xs)) → H a = some o → Stt K (fun b => if b = a then some o else none) (fun b => (T.lookup b).map fun q => HO.xd [(q, V.non)]) H (fun _ => none) := fun o ho ha => by
    have k1 : ∀ b u, (fun b => if b = a then some o else none) b = some u → b = a ∧ u = o := fun b u e => by
      have e : (if b = a then some o else none) = some u := e
      by_cases z : b = a
      · rw [if_pos z] at e; exact ⟨z, (Option.some.inj e).symm⟩
      · rw [if_neg z] at e; cases e
    refine ⟨fun b u e => ?_, rs0 _ (fun b u e => ?_) (fun b u e => ?_), fun b u e => (nomatch e), fun b u e => ?_, nrT⟩
    rotate_left 3
    · obtain ⟨rfl, rfl⟩ := k1 b u e
      obtain ⟨xs, v, z | z⟩ := ho <;> subst z <;> trivial
    · obtain ⟨rfl, rfl⟩ := k1 b u e; exact ha
    · obtain ⟨rfl, rfl⟩ := k1 b u e; exact ho
    · obtain ⟨rfl, rfl⟩ := k1 b u e; exact ha
  rcases hS with (h | ⟨o, h⟩) | h
  · exact key _ (one _ ⟨_, default, .inl rfl⟩ h) (.inl (.inl (if_pos rfl)))
  · exact key _ (one _ ⟨_, o, .inr rfl⟩ h) (.inl (.inr ⟨o, if_pos rfl⟩))
  · exact key (fun _ => none) ⟨fun b u e => (nomatch e), rs0 _ (fun b u e => (nomatch e)) (fun b u e => (nomatch e)), fun b u e => (nomatch e), fun b u e => (nomatch e), nrT⟩ (.inr h)
end DL

/-! DL, steps: a reading is gone through from its head -/
namespace DL
open PySem PySem.Spec PyProof.Rows L2

section
variable {nx bk ct : SD → Mp → Prop} {rt : QD} {t u : DS} {te ta tb tc : DE} {τ : SD} {M : Mp} {Q : QD} {d x y z : D}
/-! statements -/
theorem s_seq (h : t ⟨u ⟨nx, rt, bk, ct⟩, rt, bk, ct⟩ τ M) : dSeq t u ⟨nx, rt, bk, ct⟩ τ M := h
theorem s_next (h : nx τ M) : dNext ⟨nx, rt, bk, ct⟩ τ M := h
theorem s_break (h : bk τ M) : dBreak ⟨nx, rt, bk, ct⟩ τ M := h
theorem s_cont (h : ct τ M) : dCont ⟨nx, rt, bk, ct⟩ τ M := h
def kDrop (nx : SD → Mp → Prop) (τ : SD) : QD := fun _ M1 => nx τ M1
theorem s_drop (h : te τ M (kDrop nx τ)) : dDrop te ⟨nx, rt, bk, ct⟩ τ M := h
theorem s_kdrop (h : nx τ M) : kDrop nx τ d M := h
theorem s_ret (h : te τ M rt) : dRet te ⟨nx, rt, bk, ct⟩ τ M := h
theorem s_retN (h : rt .non M) : dRetN ⟨nx, rt, bk, ct⟩ τ M := h
def kSet (nx : SD → Mp → Prop) (i : Nat) (τ : SD) : QD := fun d M1 => nx (τ.set i (some d)) M1
theorem s_set {i : Nat} (h : te τ M (kSet nx i τ)) : dSet i te ⟨nx, rt, bk, ct⟩ τ M := h
theorem s_kset {i : Nat} {τ2 : SD} (e : τ.set i (some d) = τ2) (h : nx τ2 M) : kSet nx i τ d M := by subst e; exact h
def kUnp (nx : SD → Mp → Prop) (is : List Nat) (τ : SD) : QD := fun d M1 => match d with
  | .tup ds => ds.length = is.length ∧ nx (setAll is ds τ) M1
  | _ => False
theorem s_unp {is : List Nat} (h : te τ M (kUnp nx is τ)) : dUnp is te ⟨nx, rt, bk, ct⟩ τ M := h
theorem s_kunp {is : List Nat} {ds : List D} {τ2 : SD} (e : ds.length = is.length) (e2 : setAll is ds τ = τ2) (h : nx τ2 M) : kUnp nx is τ (.tup ds) M := by subst e2; exact ⟨e, h⟩
def kIf (t u : DS) (D : EndsD) (τ : SD) : Bool → Mp → Prop := fun b M1 => if b = true then t D τ M1 else u D τ M1
variable {c : DT} {E : EndsD} {b : Bool} {p : Prop} {dp : Decidable p}
theorem s_ifS (h : c τ M (kIf t u E τ)) : dIfS c t u E τ M := h
theorem b_dec (h : p → t E τ M) (h2 : ¬ p → u E τ M) : kIf t u E τ (decide p) M := by
  unfold kIf
  by_cases q : p
  · rw [decide_eq_true q, if_pos rfl]; exact h q
  · rw [decide_eq_false q, if_neg Bool.false_ne_true]; exact h2 q
theorem b_ndec (h : ¬ p → t E τ M) (h2 : p → u E τ M) : kIf t u E τ (!decide p) M := by
  unfold kIf
  by_cases q : p
  · rw [decide_eq_true q, Bool.not_true, if_neg Bool.false_ne_true]; exact h2 q
  · rw [decide_eq_false q, Bool.not_false, if_pos rfl]; exact h q
theorem b_true (h : t E τ M) : kIf t u E τ true M := h
theorem b_false (h : u E τ M) : kIf t u E τ false M := by unfold kIf; rw [if_neg Bool.false_ne_true]; exact h
theorem b_not (h : b = false → t E τ M) (h2 : b = true → u E τ M) : kIf t u E τ (!b) M := by
  cases b with
  | true => exact b_false (h2 rfl)
  | false => exact b_true (h rfl)
theorem b_any (h : b = true → t E τ M) (h2 : b = false → u E τ M) : kIf t u E τ b M := by
  cases b with
  | true => exact b_true (h rfl)
  | false => exact b_false (h2 rfl)
/-! tests -/
variable {QB : Bool → Mp → Prop} {tt tu : DT}
def kB (Q : Bool → Mp → Prop) : QD := fun d M1 => match d with
  | .bl k => Q k M1
  | _ => False
theorem s_test (h : te τ M (kB QB)) : dTest te τ M QB := h
theorem s_kb (h : QB b M) : kB QB (.bl b) M := h
def kTru (Q : Bool → Mp → Prop) : QD := fun d M1 => dTru d M1 Q
theorem s_truth (h : te τ M (kTru QB)) : dTruth te τ M QB := h
theorem s_tru_bl (h : QB b M) : kTru QB (.bl b) M := h
theorem s_tru_non (h : QB false M) : kTru QB .non M := h
theorem s_tru_int {i : Int} (h : QB (i != 0) M) : kTru QB (.int i) M := h
theorem s_tru_tup {ds : List D} (h : QB (!ds.isEmpty) M) : kTru QB (.tup ds) M := h
theorem s_tru_lst {ds : List D} (h : QB (!ds.isEmpty) M) : kTru QB (.lst ds) M := h
theorem s_tru_ref {a : Addr} {ds : List D} (e : M a = some (.lst ds)) (h : QB (!ds.isEmpty) M) : kTru QB (.ref a) M := by
  show (match M a with | some (.lst ds) => QB (!ds.isEmpty) M | some (.dK kvs) => QB (!kvs.isEmpty) M | _ => False)
  rw [e]; exact h
def kTAnd (u : DT) (τ : SD) (Q : Bool → Mp → Prop) : Bool → Mp → Prop := fun c M1 => if c = true then u τ M1 Q else Q false M1
def kTOr (u : DT) (τ : SD) (Q : Bool → Mp → Prop) : Bool → Mp → Prop := fun c M1 => if c = true then Q true M1 else u τ M1 Q
def kTNot (Q : Bool → Mp → Prop) : Bool → Mp → Prop := fun c M1 => Q (!c) M1
theorem s_tand (h : tt τ M (kTAnd tu τ QB)) : dTAnd tt tu τ M QB := h
theorem s_tor (h : tt τ M (kTOr tu τ QB)) : dTOr tt tu τ M QB := h
theorem s_tnot (h : tt τ M (kTNot QB)) : dTNot tt τ M QB := h
theorem s_ktnot_t (h : QB false M) : kTNot QB true M := h
theorem s_ktnot_f (h : QB true M) : kTNot QB false M := h
theorem s_ktnot (h : QB (!b) M) : kTNot QB b M := h
theorem s_ktand (h : b = true → tu τ M QB) (h2 : b = false → QB false M) : kTAnd tu τ QB b M := by
  unfold kTAnd
  cases b with
  | true => rw [if_pos rfl]; exact h rfl
  | false => rw [if_neg Bool.false_ne_true]; exact h2 rfl
theorem s_ktor (h : b = true → QB true M) (h2 : b = false → tu τ M QB) : kTOr tu τ QB b M := by
  unfold kTOr
  cases b with
  | true => rw [if_pos rfl]; exact h rfl
  | false => rw [if_neg Bool.false_ne_true]; exact h2 rfl
theorem s_ktand_d (h : p → tu τ M QB) (h2 : ¬ p → QB false M) : kTAnd tu τ QB (decide p) M := s_ktand (fun e => h (of_decide_eq_true e)) fun e => h2 (of_decide_eq_false e)
theorem s_ktor_d (h : p → QB true M) (h2 : ¬ p → tu τ M QB) : kTOr tu τ QB (decide p) M := s_ktor (fun e => h (of_decide_eq_true e)) fun e => h2 (of_decide_eq_false e)
theorem s_ktand_nd (h : ¬ p → tu τ M QB) (h2 : p → QB false M) : kTAnd tu τ QB (!decide p) M := s_ktand (fun e => h (by simpa using e)) fun e => h2 (by simpa using e)
theorem s_ktor_nd (h : ¬ p → QB true M) (h2 : p → tu τ M QB) : kTOr tu τ QB (!decide p) M := s_ktor (fun e => h (by simpa using e)) fun e => h2 (by simpa using e)
theorem s_ktand_t (h : tu τ M QB) : kTAnd tu τ QB true M := h
theorem s_ktand_f (h : QB false M) : kTAnd tu τ QB false M := s_ktand (fun e => by cases e) fun _ => h
theorem s_ktor_t (h : QB true M) : kTOr tu τ QB true M := h
theorem s_ktor_f (h : tu τ M QB) : kTOr tu τ QB false M := s_ktor (fun e => by cases e) fun _ => h
/-! values by truth -/
def kOr (tb : DE) (τ : SD) (Q : QD) (x : D) : Bool → Mp → Prop := fun k M2 => if k = true then Q x M2 else tb τ M2 Q
def kAnd (tb : DE) (τ : SD) (Q : QD) (x : D) : Bool → Mp → Prop := fun k M2 => if k = true then tb τ M2 Q else Q x M2
def kNot (Q : QD) : Bool → Mp → Prop := fun k M2 => Q (.bl (!k)) M2
def kOrV (tb : DE) (τ : SD) (Q : QD) : QD := fun x M1 => kTru (kOr tb τ Q x) x M1
def kAndV (tb : DE) (τ : SD) (Q : QD) : QD := fun x M1 => kTru (kAnd tb τ Q x) x M1
theorem s_or (h : ta τ M (kOrV tb τ Q)) : dOr ta tb τ M Q := h
theorem s_and (h : ta τ M (kAndV tb τ Q)) : dAnd ta tb τ M Q := h
theorem s_not (h : ta τ M (kTru (kNot Q))) : dNot ta τ M Q := h
theorem s_korv (h : kTru (kOr tb τ Q x) x M) : kOrV tb τ Q x M := h
theorem s_kandv (h : kTru (kAnd tb τ Q x) x M) : kAndV tb τ Q x M := h
theorem s_knot_t (h : Q (.bl false) M) : kNot Q true M := h
theorem s_knot_f (h : Q (.bl true) M) : kNot Q false M := h
theorem s_knot (h : Q (.bl (!b)) M) : kNot Q b M := h
theorem s_kor_d (h : p → Q x M) (h2 : ¬ p → tb τ M Q) : kOr tb τ Q x (decide p) M := by
  unfold kOr
  by_cases q : p
  · rw [decide_eq_true q, if_pos rfl]; exact h q
  · rw [decide_eq_false q, if_neg Bool.false_ne_true]; exact h2 q
theorem s_kand_d (h : p → tb τ M Q) (h2 : ¬ p → Q x M) : kAnd tb τ Q x (decide p) M := by
  unfold kAnd
  by_cases q : p
  · rw [decide_eq_true q, if_pos rfl]; exact h q
  · rw [decide_eq_false q, if_neg Bool.false_ne_true]; exact h2 q
theorem s_kor_t (h : Q x M) : kOr tb τ Q x true M := h
theorem s_kor_f (h : tb τ M Q) : kOr tb τ Q x false M := by unfold kOr; rw [if_neg Bool.false_ne_true]; exact h
theorem s_kand_t (h : tb τ M Q) : kAnd tb τ Q x true M := h
theorem s_kand_f (h : Q x M) : kAnd tb τ Q x false M := by unfold kAnd; rw [if_neg Bool.false_ne_true]; exact h
theorem s_kor (h : b = true → Q x M) (h2 : b = false → tb τ M Q) : kOr tb τ Q x b M := by
  cases b with
  | true => exact h rfl
  | false => exact s_kor_f (h2 rfl)
theorem s_kand (h : b = true → tb τ M Q) (h2 : b = false → Q x M) : kAnd tb τ Q x b M := by
  cases b with
  | true => exact h rfl
  | false => exact s_kand_f (h2 rfl)
def kIfE (ta tb : DE) (τ : SD) (Q : QD) : Bool → Mp → Prop := fun c M1 => if c = true then ta τ M1 Q else tb τ M1 Q
theorem s_ifE (h : tt τ M (kIfE ta tb τ Q)) : dIf tt ta tb τ M Q := h
theorem s_kifE_d (h : p → ta τ M Q) (h2 : ¬ p → tb τ M Q) : kIfE ta tb τ Q (decide p) M := by
  unfold kIfE
  by_cases q : p
  · rw [decide_eq_true q, if_pos rfl]; exact h q
  · rw [decide_eq_false q, if_neg Bool.false_ne_true]; exact h2 q
theorem s_kifE (h : b = true → ta τ M Q) (h2 : b = false → tb τ M Q) : kIfE ta tb τ Q b M := by
  unfold kIfE
  cases b with
  | true => rw [if_pos rfl]; exact h rfl
  | false => rw [if_neg Bool.false_ne_true]; exact h2 rfl
/-! expressions -/
theorem s_var {i : Nat} (e : τ[i]? = some (some d)) (h : Q d M) : dVar i τ M Q := by unfold dVar; rw [e]; exact h
theorem s_c (h : Q d M) : dC d τ M Q := h
def kOp2 (r : R2D) (Q : QD) (x : D) : QD := fun y M2 => r x y M2 Q
def kOp1 (r : R2D) (tb : DE) (τ : SD) (Q : QD) : QD := fun x M1 => tb τ M1 (kOp2 r Q x)
theorem s_op {r : R2D} (h : ta τ M (kOp1 r tb τ Q)) : dOp r ta tb τ M Q := h
theorem s_kop1 {r : R2D} (h : tb τ M (kOp2 r Q x)) : kOp1 r tb τ Q x M := h
theorem s_kop2 {r : R2D} (h : r x y M Q) : kOp2 r Q x y M := h
def kUn (r : D → Mp → QD → Prop) (Q : QD) : QD := fun x M1 => r x M1 Q
theorem s_un {r : D → Mp → QD → Prop} (h : ta τ M (kUn r Q)) : dUn r ta τ M Q := h
theorem s_kun {r : D → Mp → QD → Prop} (h : r x M Q) : kUn r Q x M := h
def kCh3 (r' : R2D) (y : D) (Q : QD) : QD := fun w M4 => r' y w M4 Q
def kCh2 (r' : R2D) (tc : DE) (τ : SD) (Q : QD) (y : D) : QD := fun z M3 => match z with
  | .bl true => tc τ M3 fun w M4 => r' y w M4 Q
  | .bl false => Q (.bl false) M3
  | _ => False
def kCh1 (r r' : R2D) (tc : DE) (τ : SD) (Q : QD) (x : D) : QD := fun y M2 => r x y M2 (kCh2 r' tc τ Q y)
def kCh0 (r r' : R2D) (tb tc : DE) (τ : SD) (Q : QD) : QD := fun x M1 => tb τ M1 (kCh1 r r' tc τ Q x)
theorem s_chain {r r' : R2D} (h : ta τ M (kCh0 r r' tb tc τ Q)) : dChain r r' ta tb tc τ M Q := h
theorem s_kch0 {r r' : R2D} (h : tb τ M (kCh1 r r' tc τ Q x)) : kCh0 r r' tb tc τ Q x M := h
theorem s_kch1 {r r' : R2D} (h : r x y M (kCh2 r' tc τ Q y)) : kCh1 r r' tc τ Q x y M := h
theorem s_kch2 {r' : R2D} (h : p → tc τ M (kCh3 r' y Q)) (h2 : ¬ p → Q (.bl false) M) : kCh2 r' tc τ Q y (.bl (decide p)) M := by
  by_cases q : p
  · rw [decide_eq_true q]; exact h q
  · rw [decide_eq_false q]; exact h2 q
theorem s_kch3 {r' : R2D} (h : r' y z M Q) : kCh3 r' y Q z M := h
variable {QL : List D → Mp → Prop} {al : DA} {ds : List D}
theorem s_nil (h : QL [] M) : dNil τ M QL := h
def kCons2 (QL : List D → Mp → Prop) (x : D) : List D → Mp → Prop := fun xs M2 => QL (x :: xs) M2
def kCons1 (al : DA) (τ : SD) (QL : List D → Mp → Prop) : QD := fun x M1 => al τ M1 (kCons2 QL x)
theorem s_cons (h : ta τ M (kCons1 al τ QL)) : dCons ta al τ M QL := h
theorem s_kcons1 (h : al τ M (kCons2 QL x)) : kCons1 al τ QL x M := h
theorem s_kcons2 (h : QL (x :: ds) M) : kCons2 QL x ds M := h
def kTup (Q : QD) : List D → Mp → Prop := fun xs M1 => xs.length ≤ sizeLine ∧ Q (.tup xs) M1
def kLst (Q : QD) : List D → Mp → Prop := fun xs M1 => xs.length ≤ sizeLine ∧ Q (.lst xs) M1
def kLstM (Q : QD) : List D → Mp → Prop := fun xs M1 => xs.length ≤ sizeLine ∧ ∀ p, M1 p = none → Q (.ref p) (updM M1 p (.lst xs))
theorem s_tup (h : al τ M (kTup Q)) : dTup al τ M Q := h
theorem s_lst (h : al τ M (kLst Q)) : dLst al τ M Q := h
theorem s_lstM (h : al τ M (kLstM Q)) : dLstM al τ M Q := h
theorem s_ktup (e : ds.length ≤ sizeLine) (h : Q (.tup ds) M) : kTup Q ds M := ⟨e, h⟩
theorem s_klst (e : ds.length ≤ sizeLine) (h : Q (.lst ds) M) : kLst Q ds M := ⟨e, h⟩
theorem s_klstM (e : ds.length ≤ sizeLine) (h : ∀ p, M p = none → Q (.ref p) (updM M p (.lst ds))) : kLstM Q ds M := ⟨e, h⟩
def kCB (r : RC) (Q : QD) : List D → Mp → Prop := fun ds M1 => r ds M1 Q
theorem s_cb {r : RC} (h : al τ M (kCB r Q)) : dCB r al τ M Q := h
theorem s_kcb {r : RC} (h : r ds M Q) : kCB r Q ds M := h
def kCall (sp : SpD) (X : XD) (Q : QD) : List D → Mp → Prop := fun ds M1 => sp ds M1 Q X
theorem s_call {sp : SpD} {X : XD} (h : al τ M (kCall sp X Q)) : dCall sp X al τ M Q := h
theorem s_kcall {sp : SpD} {X : XD} (h : sp ds M Q X) : kCall sp X Q ds M := h
/-! operators -/
variable {i j : Int} {g : Int → Int → Int} {gb : Int → Int → Bool} {C : Int → Int → Prop}
theorem s_I (hc : C i j) (h : Q (.int (g i j)) M) : dI C g (.int i) (.int j) M Q := ⟨hc, h⟩
theorem s_I0 (h : Q (.int (g i j)) M) : dI0 g (.int i) (.int j) M Q := h
theorem s_B0 (h : Q (.bl (gb i j)) M) : dB0 gb (.int i) (.int j) M Q := h
theorem s_neg (h : Q (.int (-i)) M) : dNeg (.int i) M Q := h
theorem s_add (h : Q (.int (i + j)) M) : dAdd (.int i) (.int j) M Q := h
theorem s_addT {xs ys : List D} (e : xs.length + ys.length ≤ sizeLine) (h : Q (.tup (xs ++ ys)) M) : dAdd (.tup xs) (.tup ys) M Q := ⟨e, h⟩
theorem s_addL {xs ys : List D} (e : xs.length + ys.length ≤ sizeLine) (h : Q (.lst (xs ++ ys)) M) : dAdd (.lst xs) (.lst ys) M Q := ⟨e, h⟩
theorem s_mul (hc : CMulA i j) (h : Q (.int (i * j)) M) : dMul (.int i) (.int j) M Q := ⟨hc, h⟩
theorem s_mulT {xs : List D} {k : Int} (e : xs ≠ []) (e1 : 2 ≤ k) (e2 : xs.length * k.toNat ≤ 1000000) (h : Q (.tup (List.replicate k.toNat xs).flatten) M) : dMul (.tup xs) (.int k) M Q := ⟨e, e1, e2, h⟩
theorem s_eqS {b : Bool} (e : scalD x y = some b) (h : Q (.bl b) M) : dEq x y M Q := by unfold dEq; rw [e]; exact h
theorem s_neS {b : Bool} (e : scalD x y = some b) (h : Q (.bl (!b)) M) : dNe x y M Q := by unfold dNe; rw [e]; exact h
theorem s_isN (h : Q (.bl x.isN) M) : dIsN x .non M Q := h
theorem s_notN (h : Q (.bl (!x.isN)) M) : dNotN x .non M Q := h
theorem s_ix {ds : List D} (e : sqOf M x = some ds) (e2 : atI ds i = some d) (h : Q d M) : dIx x (.int i) M Q := by
  cases x with
  | str z => cases e
  | _ => unfold dIx; simp only [e, e2]; exact h
theorem s_len {ds : List D} (e : sqOf M x = some ds) (h : Q (.int ds.length) M) : dLen [x] M Q := by
  cases x with
  | str z => cases e
  | _ => unfold dLen; simp only [e]; exact h
theorem s_int (h : Q (.int i) M) : dInt [.int i] M Q := h
theorem s_intB (h : Q (.int (if b then 1 else 0)) M) : dInt [.bl b] M Q := h
theorem s_tuple {ds : List D} (e : sqOf M x = some ds) (h : Q (.tup ds) M) : dTuple [x] M Q := by unfold dTuple; simp only [e]; exact h
theorem s_list {ds : List D} (e : sqOf M x = some ds) (h : Q (.lst ds) M) : dList [x] M Q := by unfold dList; simp only [e]; exact h
theorem s_listM {ds : List D} (e : sqOf M x = some ds) (h : ∀ p, M p = none → Q (.ref p) (updM M p (.lst ds))) : dListM [x] M Q := by unfold dListM; simp only [e]; exact h
theorem s_isi {a n : String} {b : Bool} (e : (["bool", "int", "str", "tuple", "list", "dict"] : List String).contains n = true) (e2 : tyName M x = some a) (e3 : isiN a n = b) (h : Q (.bl b) M) : dIsi [x, .ty n] M Q := ⟨e, by simp only [e2, e3]; exact h⟩
theorem s_all {bs : List Bool} {ds : List D} (e : lsOf M x = some ds) (e2 : blsOf ds = some bs) (h : Q (.bl (bs.all id)) M) : dAll [x] M Q := by unfold dAll; simp only [e, e2]; exact h
theorem s_any {bs : List Bool} {ds : List D} (e : lsOf M x = some ds) (e2 : blsOf ds = some bs) (h : Q (.bl (bs.any id)) M) : dAny [x] M Q := by unfold dAny; simp only [e, e2]; exact h
theorem s_sum {ns : List Int} {ds : List D} (e : lsOf M x = some ds) (e2 : intsOf ds = some ns) (h : Q (.int ns.sum) M) : dSum [x] M Q := by unfold dSum; simp only [e, e2]; exact h
theorem s_max2 (h : Q (.int (if j > i then j else i)) M) : dMax [.int i, .int j] M Q := h
theorem s_min2 (h : Q (.int (if j < i then j else i)) M) : dMin [.int i, .int j] M Q := h
theorem s_in {neg : Bool} {ds : List D} (e : sqOf M y = some ds) (e1 : x.flat = true) (e2 : ds.all D.flat = true) (h : Q (.bl (if neg then !(ds.any fun e => eqD e x) else ds.any fun e => eqD e x)) M) : dIn neg x y M Q := by unfold dIn; simp only [e]; exact ⟨e1, e2, h⟩
/-! subscripts, slices -/
variable {tl th : DO} {QO : Option Int → Mp → Prop} {lo hi : Option Int}
theorem s_nopart (h : QO none M) : dNoPart τ M QO := h
def kPart (QO : Option Int → Mp → Prop) : QD := fun d M1 => match d with
  | .int i => QO (some i) M1
  | _ => False
theorem s_part (h : te τ M (kPart QO)) : dPart te τ M QO := h
theorem s_kpart (h : QO (some i) M) : kPart QO (.int i) M := h
def kSl2 (x : D) (lo : Option Int) (Q : QD) : Option Int → Mp → Prop := fun u M3 => dSlr x lo u M3 Q
def kSl1 (x : D) (th : DO) (τ : SD) (Q : QD) : Option Int → Mp → Prop := fun l M2 => th τ M2 (kSl2 x l Q)
def kSl0 (tl th : DO) (τ : SD) (Q : QD) : QD := fun x M1 => tl τ M1 (kSl1 x th τ Q)
theorem s_sl (h : te τ M (kSl0 tl th τ Q)) : dSl te tl th τ M Q := h
theorem s_ksl0 (h : tl τ M (kSl1 x th τ Q)) : kSl0 tl th τ Q x M := h
theorem s_ksl1 (h : th τ M (kSl2 x lo Q)) : kSl1 x th τ Q lo M := h
theorem s_ksl2T {ds : List D} (h : Q (.tup (cutD ds lo hi)) M) : kSl2 (.tup ds) lo Q hi M := h
theorem s_ksl2L {ds : List D} (h : Q (.lst (cutD ds lo hi)) M) : kSl2 (.lst ds) lo Q hi M := h
theorem s_ksl2K {ds : List D} (h : Q (.lst (cutD ds lo hi)) M) : kSl2 (.lsk ds) lo Q hi M := h
/-! stores -/
variable {to ti : DE} {rs : RSet}
def kSt3 (rs : RSet) (nx : SD → Mp → Prop) (τ : SD) (v o : D) : QD := fun i M3 => rs o i v M3 fun M4 => nx τ M4
def kSt2 (rs : RSet) (nx : SD → Mp → Prop) (τ : SD) (ti : DE) (v : D) : QD := fun o M2 => ti τ M2 (kSt3 rs nx τ v o)
def kSt1 (rs : RSet) (nx : SD → Mp → Prop) (τ : SD) (to ti : DE) : QD := fun v M1 => to τ M1 (kSt2 rs nx τ ti v)
theorem s_store (h : te τ M (kSt1 rs nx τ to ti)) : dStore te to ti rs ⟨nx, rt, bk, ct⟩ τ M := h
theorem s_kst1 (h : to τ M (kSt2 rs nx τ ti x)) : kSt1 rs nx τ to ti x M := h
theorem s_kst2 (h : ti τ M (kSt3 rs nx τ x y)) : kSt2 rs nx τ ti x y M := h
theorem s_kst3 {a : Addr} {xs : List D} {jn : Nat} {v : D} {M2 : Mp} (e : M a = some (.lst xs)) (e2 : ixN xs.length i = some jn) (e3 : updM M a (.lst (xs.set jn v)) = M2) (h : nx τ M2) : kSt3 dSetL nx τ v (.ref a) (.int i) M := by
  subst e3
  show dSetL (.ref a) (.int i) v M fun M4 => nx τ M4
  unfold dSetL; simp only [e, e2]; exact h
def kAug (nx : SD → Mp → Prop) (i : Nat) (τ : SD) : QD := fun z M2 => nx (τ.set i (some z)) M2
theorem s_aug {r : R2D} {i : Nat} (e : τ[i]? = some (some x)) (h : te τ M (kOp2 r (kSet nx i τ) x)) : dAug i te r ⟨nx, rt, bk, ct⟩ τ M := by unfold dAug; rw [e]; exact h
/-! methods -/
variable {rm : RM}
def kMt (rm : RM) (x : D) (Q : QD) : List D → Mp → Prop := fun ds M2 => rm x ds M2 Q
def kMtL (rm : RM) (al : DA) (τ : SD) (Q : QD) : QD := fun x M1 => isLst M1 x ∧ al τ M1 (kMt rm x Q)
theorem s_mtL (h : to τ M (kMtL rm al τ Q)) : dMtL rm to al τ M Q := h
theorem s_kmtL (e : isLst M x) (h : al τ M (kMt rm x Q)) : kMtL rm al τ Q x M := ⟨e, h⟩
theorem s_kmt (h : rm x ds M Q) : kMt rm x Q ds M := h
theorem s_append {a : Addr} {xs : List D} (e : M a = some (.lst xs)) (e2 : xs.length < sizeLine) (h : Q .non (updM M a (.lst (xs ++ [d])))) : dAppend (.ref a) [d] M Q := by unfold dAppend; simp only [e]; exact ⟨e2, h⟩
def kMt0 (rm : RM) (Q : QD) : QD := fun x M1 => rm x [] M1 Q
theorem s_mt0 (h : to τ M (kMt0 rm Q)) : dMt0 rm to τ M Q := h
theorem s_kmt0 (h : rm x [] M Q) : kMt0 rm Q x M := h
/-! what is walked -/
variable {QI : ItD → Mp → Prop}
def kSeq (QI : ItD → Mp → Prop) : QD := fun d M1 => match sqOf M1 d with
  | some ds => QI (itSeq d ds) M1
  | none => False
theorem s_seqI (h : te τ M (kSeq QI)) : iSeqD te τ M QI := h
theorem s_kseq {ds : List D} (e : sqOf M x = some ds) (h : QI (itSeq x ds) M) : kSeq QI x M := by unfold kSeq; simp only [e]; exact h
def kR1 (QI : ItD → Mp → Prop) : List D → Mp → Prop := fun ds M1 => match ds with
  | [.int j] => -(2 ^ 62) ≤ j ∧ j < 2 ^ 62 ∧ QI (itRng 0 j.toNat) M1
  | _ => False
theorem s_rng1 (h : al τ M (kR1 QI)) : iRng1D al τ M QI := h
theorem s_kr1 (e : -(2 ^ 62) ≤ j) (e2 : j < 2 ^ 62) (h : QI (itRng 0 j.toNat) M) : kR1 QI [.int j] M := ⟨e, e2, h⟩
def kR2 (QI : ItD → Mp → Prop) : List D → Mp → Prop := fun ds M1 => match ds with
  | [.int i, .int j] => (-(2 ^ 62) ≤ i ∧ i < 2 ^ 62 ∧ -(2 ^ 62) ≤ j ∧ j < 2 ^ 62) ∧ QI (itRng i (j - i).toNat) M1
  | _ => False
theorem s_rng2 (h : al τ M (kR2 QI)) : iRng2D al τ M QI := h
theorem s_kr2 (e : -(2 ^ 62) ≤ i ∧ i < 2 ^ 62 ∧ -(2 ^ 62) ≤ j ∧ j < 2 ^ 62) (h : QI (itRng i (j - i).toNat) M) : kR2 QI [.int i, .int j] M := ⟨e, h⟩
/-- for -/
def kFor (g : D → SD → Mp → (SD → Mp → Prop) → Prop) (tb : DS) (D : EndsD) (τ : SD) : ItD → Mp → Prop := fun j M1 => ∃ Pv : Nat → SD → Mp → Prop, Pv 0 τ M1 ∧ (∀ i τ M, i ≤ j.n → Pv i τ M → j.ok M) ∧
  (∀ i τ M, i < j.n → Pv i τ M → g (j.at' i) τ M fun τ2 M2 => tb { D with nx := Pv (i + 1), ct := Pv (i + 1), bk := D.nx } τ2 M2) ∧ ∀ τ M, Pv j.n τ M → D.nx τ M
theorem s_for {wi : DTI} {g : D → SD → Mp → (SD → Mp → Prop) → Prop} {tb : DS} (h : wi τ M (kFor g tb E τ)) : dFor wi g tb E τ M := h
/-- over data that nobody changes -/
theorem s_kforT {tb : DS} {is : List Nat} {plain : Bool} {ds : List D} {x : D} (Pv : Nat → SD → Mp → Prop) (hx : ∀ M, sqOf M x = some ds) (h0 : Pv 0 τ M)
    (hs : ∀ i d τ M, ds[i]? = some d → Pv i τ M → gD plain is d τ M fun τ2 M2 => tb ⟨Pv (i + 1), rt, nx, Pv (i + 1)⟩ τ2 M2) (hd : ∀ τ M, Pv ds.length τ M → nx τ M) : kFor (gD plain is) tb ⟨nx, rt, bk, ct⟩ τ (itSeq x ds) M :=
  ⟨Pv, h0, fun _ _ M _ _ => hx M, fun i τ M hi p => by
    have hi : i < ds.length := hi
    have e := List.getElem?_eq_getElem hi
    show gD plain is (ds.getD i .non) τ M _
    rw [getD_of e]
    exact hs i _ τ M e p, hd⟩
theorem s_kforR {tb : DS} {i0 : Nat} {lo : Int} {n : Nat} (Pv : Nat → SD → Mp → Prop) (h0 : Pv 0 τ M)
    (hs : ∀ i τ M, i < n → Pv i τ M → tb ⟨Pv (i + 1), rt, nx, Pv (i + 1)⟩ (τ.set i0 (some (.int (lo + i)))) M) (hd : ∀ τ M, Pv n τ M → nx τ M) : kFor (gD true [i0]) tb ⟨nx, rt, bk, ct⟩ τ (itRng lo n) M :=
  ⟨Pv, h0, fun _ _ M _ _ => trivial, fun i τ M hi p => hs i τ M hi p, hd⟩
theorem s_gname {i0 : Nat} {QS : SD → Mp → Prop} (h : QS (τ.set i0 (some d)) M) : gD true [i0] d τ M QS := h
theorem s_gtup {is : List Nat} {ds : List D} {QS : SD → Mp → Prop} (e : ds.length = is.length) (h : QS (setAll is ds τ) M) : gD false is (.tup ds) τ M QS := by
  show (match (if ds.length = is.length then some (setAll is ds τ) else none) with | some τ2 => QS τ2 M | none => False)
  rw [if_pos e]; exact h
/-! comprehensions -/
def kLc (fin : List D → Mp → QD → Prop) (plain : Bool) (is vs : List Nat) (tt : DT) (te : DE) (τ : SD) (Q : QD) : ItD → Mp → Prop := fun j M1 => ∃ Pv : Nat → List D → Mp → Prop, Pv 0 [] M1 ∧ (∀ i acc M, i ≤ j.n → Pv i acc M → j.ok M) ∧
  (∀ i acc M, i < j.n → Pv i acc M → match bindD plain is (j.at' i) (wipeD τ vs) with
    | some τ2 => tt τ2 M fun b M3 => if b = true then te τ2 M3 fun e M4 => acc.length < sizeLine ∧ Pv (i + 1) (acc ++ [e]) M4 else Pv (i + 1) acc M3
    | none => False) ∧ ∀ acc M, Pv j.n acc M → fin acc M Q
theorem s_lc {fin : List D → Mp → QD → Prop} {wi : DTI} {plain : Bool} {is vs : List Nat} (h : wi τ M (kLc fin plain is vs tt te τ Q)) : dLcG fin wi plain is vs tt te τ M Q := h
/-- over data that nobody changes, each item gives one, and M stays -/
theorem s_klcMap {plain : Bool} {is vs : List Nat} {fin : List D → Mp → QD → Prop} {α : Type} {xs : List α} (enc : α → D) (f : α → D) (hx : ∀ M, sqOf M x = some (xs.map enc)) (hl : xs.length ≤ sizeLine)
    (hs : ∀ a ∈ xs, ∃ τ2, bindD plain is (enc a) (wipeD τ vs) = some τ2 ∧ ∀ Q : QD, Q (f a) M → te τ2 M Q) (hd : fin (xs.map f) M Q) : kLc fin plain is vs dYes te τ Q (itSeq x (xs.map enc)) M := by
  refine ⟨fun i acc M' => M' = M ∧ acc = (xs.map f).take i, ⟨rfl, rfl⟩, fun i acc M' hi p => hx M', fun i acc M' hi p => ?_, fun acc M' p => ?_⟩
  · obtain ⟨rfl, rfl⟩ := p
    have hi : i < (xs.map enc).length := hi
    rw [List.length_map] at hi
    have e := List.getElem?_eq_getElem hi
    obtain ⟨τ2, e2, k⟩ := hs xs[i] (List.getElem_mem hi)
    have e3 : (itSeq x (xs.map enc)).at' i = enc xs[i] := getD_of (by rw [List.getElem?_map, e]; rfl)
    rw [e3, e2]
    refine k _ ⟨?_, rfl, ?_⟩
    · rw [List.length_take, List.length_map]; omega
    · rw [List.take_succ, List.getElem?_map, e]; rfl
  · obtain ⟨rfl, rfl⟩ := p
    have e : (xs.map f).take (itSeq x (xs.map enc)).n = xs.map f := List.take_of_length_le (by show _ ≤ (xs.map enc).length; rw [List.length_map, List.length_map]; exact Nat.le_refl _)
    rw [e]
    exact hd
end
/-- over data that nobody changes -/
theorem s_klcD {plain : Bool} {is vs : List Nat} {fin : List D → Mp → QD → Prop} {te : DE} {τ : SD} {M : Mp} {Q : QD} {x : D} {ds : List D} (f : D → D) (hx : ∀ M, sqOf M x = some ds) (hl : ds.length ≤ sizeLine)
    (hs : ∀ d ∈ ds, ∃ τ2, bindD plain is d (wipeD τ vs) = some τ2 ∧ ∀ Q : QD, Q (f d) M → te τ2 M Q) (hd : fin (ds.map f) M Q) : kLc fin plain is vs dYes te τ Q (itSeq x ds) M := by
  have h := s_klcMap (x := x) (fin := fin) (Q := Q) (plain := plain) (is := is) (vs := vs) (τ := τ) (M := M) (te := te) (xs := ds) (fun d => d) f (by simpa using hx) hl hs hd
  simpa using h
theorem blsOf_fun {α : Type} (g : α → Bool) : ∀ xs : List α, blsOf (xs.map fun a => D.bl (g a)) = some (xs.map g)
  | [] => rfl
  | x :: xs => by
    show (blsOf (xs.map fun a => D.bl (g a))).map (g x :: ·) = _
    rw [blsOf_fun g xs]; rfl
/-- each turn draws one -/
theorem s_klcDraw {α : Type} {fin : List D → Mp → QD → Prop} {te : DE} {τ : SD} {M : Mp} {Q : QD} {i0 : Nat} {vs : List Nat} {lo : Int} {n : Nat} (enc : α → D) (P : α → Prop) (Inv : Mp → Prop) (hn : n ≤ sizeLine) (h0 : Inv M)
    (hs : ∀ i M1 Q, i < n → Inv M1 → (∀ x M2, P x → Inv M2 → Q (enc x) M2) → te ((wipeD τ vs).set i0 (some (.int (lo + (i : Nat))))) M1 Q)
    (hd : ∀ l : List α, l.length = n → (∀ x ∈ l, P x) → ∀ M2, Inv M2 → fin (l.map enc) M2 Q) : kLc fin true [i0] vs dYes te τ Q (itRng lo n) M := by
  refine ⟨fun i acc M' => ∃ l : List α, acc = l.map enc ∧ l.length = i ∧ (∀ x ∈ l, P x) ∧ Inv M', ⟨[], rfl, rfl, by simp, h0⟩, fun _ _ _ _ _ => trivial, fun i acc M' hi p => ?_, fun acc M' p => ?_⟩
  · obtain ⟨l, rfl, hl, hp, hv⟩ := p
    have hi : i < n := hi
    refine hs i M' _ hi hv fun x M2 hx h2 => ⟨?_, l ++ [x], ?_, ?_, ?_, h2⟩
    · rw [List.length_map]; omega
    · rw [List.map_append]; rfl
    · rw [List.length_append, hl]; rfl
    · intro y hy
      rcases List.mem_append.mp hy with hy | hy
      · exact hp y hy
      · rw [List.mem_singleton.mp hy]; exact hx
  · obtain ⟨l, rfl, hl, hp, hv⟩ := p
    exact hd l hl hp M' hv
theorem s_end {Q : QD} {d : D} {M : Mp} (h : Q d M) : rtQ Q d M := ⟨M, fun _ _ z => z, h⟩
theorem s_endL {Q : QD} {d : D} {M M2 : Mp} (e : ∀ a m, M2 a = some m → M a = some m) (h : Q d M2) : rtQ Q d M := ⟨M2, e, h⟩
theorem sqOf_ref {M : Mp} {a : Addr} {ds : List D} (h : M a = some (.lst ds)) : sqOf M (.ref a) = some ds := by
  show (match M a with | some (.lst ds) => some ds | _ => none) = some ds
  rw [h]
theorem lsOf_ref {M : Mp} {a : Addr} {ds : List D} (h : M a = some (.lst ds)) : lsOf M (.ref a) = some ds := by
  show (match M a with | some (.lst ds) => some ds | _ => none) = some ds
  rw [h]
theorem isLst_ref {M : Mp} {a : Addr} {ds : List D} (h : M a = some (.lst ds)) : isLst M (.ref a) := by
  show (match M a with | some (.lst _) => True | _ => False)
  rw [h]; trivial
theorem atI_ofNat {α : Type} (xs : List α) (k : Nat) : atI xs (OfNat.ofNat k : Int) = xs[k]? := by
  show atI xs (k : Int) = xs[k]?
  unfold atI ixN
  rw [if_pos (by omega)]
  by_cases h : k < xs.length
  · rw [if_pos (by omega)]; rfl
  · rw [if_neg (by omega), List.getElem?_eq_none (by omega)]; rfl
theorem atI_toNat {α : Type} {xs : List α} {i : Int} (h : 0 ≤ i) : atI xs i = xs[i.toNat]? := by
  have := atI_ofNat xs i.toNat
  rw [show (OfNat.ofNat i.toNat : Int) = i from Int.toNat_of_nonneg h] at this
  exact this
end DL

namespace L2
open PySem PySem.Spec PyProof.Rows
/-! ranges of any size -/
theorem turn_long {P : Program} {w : World} {K : PySem.W.Frag} {tg : Expr} (it : Addr) (lo : Int) (n : Nat) : Turn P w K tg (Itr lo n) [it] it (fun i h => IsLongIter h it (lo + (i : Nat) * 1) ((n : Int) - (i : Nat)) 1) where
  mem := by simp
  obj := fun i h st b hb => by
    obtain rfl : b = it := by simpa using hb
    exact ⟨_, st, fun v z => by
      have z' : Data.fields _ = Data.cell v := z
      cases z'⟩
  keep := fun i h h' st k => k it (by simp) _ st
  item := fun X hP hw hK hc i pins s σ H E I hf st hg => by
    subst hP hw hK
    obtain ⟨f0, f1, f2, f3, f4, f5⟩ := hf it (by simp)
    refine (Walks.longrange (prog := X.prog) (w := X.w) (I.ok.hd hc) it lo 1 n).item i s _ _ hg st fun v h' tk hv st' kk => ?_
    obtain ⟨t, rfl⟩ := hv
    refine ⟨_, rfl, go_of (s := { s with heap := h', toks := tk }) (n := "longrange_iterator") st' rfl rfl (by decide) ⟨.int (lo + i), H, I.turned (fun b o hb e => kk b o (by simpa using hb) e) f0 f1 f3 f4 f5, ⟨t, ?_⟩, ⟨rfl, rfl⟩, st', fun b hb => (hf b hb).1⟩⟩
    rw [Int.mul_one]
  done := fun X hP hw hK hc i pins s σ H E I hf st hg => by
    subst hP hw hK
    obtain ⟨f0, f1, f2, f3, f4, f5⟩ := hf it (by simp)
    refine wpAny_pyNext_long_end (I.ok.hd hc) st (by have h9 : n ≤ i := hg; omega) fun h' eb => ?_
    exact ⟨rfl, I.turned (t' := s.toks) (fun b o hb e => eb b o hb e) f0 f1 f3 f4 f5⟩
  self := fun _ _ _ _ _ st h => wpAny_pyIter_longiter st h
section
variable {X : Cx} {tg : Expr}
theorem range_any {pins : List (Addr × Obj)} {σ : St} {H : Hp} {s : Shared} {R : It → Hp → Prop} {E : Value → Shared → Prop} {lo hi : Int} {t u v : Tok} {tk : Nat} (I : Inv X pins σ H s)
    (q : R (Itr lo (hi - lo).toNat) H) : wpAny (model X.prog X.w) X.A (pyIter (.ref s.heap.objs.size)) (PIE X pins σ tg R) E { s with heap := s.heap.push { cls := .type "range", data := .fields #[.int lo t, .int hi u, .int 1 v] }, toks := tk } := by
  have e1 : lo + ((0 : Nat) : Int) * 1 = lo := by simp
  have e2 : (((hi - lo).toNat : Nat) : Int) - ((0 : Nat) : Int) = Builtin.Range.rangeSize lo hi 1 := by rw [rangeSize_one]; split <;> omega
  have I1 : Inv X pins σ H { s with heap := s.heap.push { cls := .type "range", data := .fields #[.int lo t, .int hi u, .int 1 v] }, toks := tk } := I.kept fun b o e => Heap.get?_push_of_some _ e
  cases hb : Builtin.Range.small lo hi 1 with
  | true =>
    refine wpAny_pyIter_range (IsRange.new ..) hb ?_
    refine ⟨_, [(s.heap.push { cls := .type "range", data := .fields #[.int lo t, .int hi u, .int 1 v] }).objs.size], _, _, H, rfl, I1.kept (t' := tk) fun b o e => Heap.get?_push_of_some _ e, turn_range _ lo (hi - lo).toNat, ?_, fun b hb => ?_, q⟩
    · show IsRangeIter _ _ (lo + ((0 : Nat) : Int) * 1) ((((hi - lo).toNat : Nat) : Int) - ((0 : Nat) : Int)) 1
      rw [e1, e2]
      exact Heap.get?_push_size _ rfl
    · obtain rfl : b = (s.heap.push { cls := .type "range", data := .fields #[.int lo t, .int hi u, .int 1 v] }).objs.size := by simpa using hb
      exact I1.fpOk (Nat.le_refl _) (I1.hok.fresh (Nat.le_refl _))
  | false =>
    refine wpAny_pyIter_longrange (IsRange.new ..) hb ?_
    refine ⟨_, [(s.heap.push { cls := .type "range", data := .fields #[.int lo t, .int hi u, .int 1 v] }).objs.size], _, _, H, rfl, I1.kept (t' := tk) fun b o e => Heap.get?_push_of_some _ e, turn_long _ lo (hi - lo).toNat, ?_, fun b hb => ?_, q⟩
    · show IsLongIter _ _ (lo + ((0 : Nat) : Int) * 1) ((((hi - lo).toNat : Nat) : Int) - ((0 : Nat) : Int)) 1
      rw [e1, e2]
      exact Heap.get?_push_size _ rfl
    · obtain rfl : b = (s.heap.push { cls := .type "range", data := .fields #[.int lo t, .int hi u, .int 1 v] }).objs.size := by simpa using hb
      exact I1.fpOk (Nat.le_refl _) (I1.hok.fresh (Nat.le_refl _))
def iRngAny (ta : TA) : TI := fun σ H R => ta σ H fun vs H1 => ∃ i j : Int, vs = [.int i, .int j] ∧ R (Itr i (j - i).toNat) H1
theorem pi_rangeAny {a b : Expr} {ta : TA} {p pos : Pos} (hg : Gl X "range") (hm : X.mg "range" = none) (ha : PA X [a, b] ta) (hs : starEach [a, b] X.env = [(false, eval a X.env), (false, eval b X.env)] := by rfl) (hs2 : starEach [b] X.env = [(false, eval b X.env)] := by rfl) :
    PI X tg (.Call (.Name "range" p) [a, b] [] pos) (iRngAny ta) := by
  refine ⟨fun pins s σ H R I h => Call_ (ld_blt I hg hm boot_range (PyProof.Rows.callWith_type1 (thn (ha.run pos pins s σ H _ I h) fun us s1 ⟨vs, H1, I1, r1, i, j, e, q⟩ => ?_) (by rw [hs, hs2]) (by rw [hs2]; rfl)))⟩
  subst e
  obtain - | ⟨⟨t, rfl⟩, rr⟩ := r1
  obtain - | ⟨⟨t', rfl⟩, rr⟩ := rr
  obtain - | _ := rr
  exact call_range_2 (range_any I1 q)
end
end L2
namespace DL
open PySem PySem.Spec PyProof.Rows L2
def iRngAD (ta : DA) : DTI := fun τ M Q => ta τ M fun ds M1 => match ds with
  | [.int i, .int j] => Q (itRng i (j - i).toNat) M1
  | _ => False
section
variable {X : Cx} {F0 : Bs} {tg : Expr}
theorem id_rngA {a b : Expr} {ta : DA} {p pos : Pos} (hg : Gl X "range") (hm : X.mg "range" = none) (ha : PA X [a, b] (liA X.K F0 ta)) (hs : starEach [a, b] X.env = [(false, eval a X.env), (false, eval b X.env)] := by rfl) (hs2 : starEach [b] X.env = [(false, eval b X.env)] := by rfl) :
    PI X tg (.Call (.Name "range" p) [a, b] [] pos) (liI X.K F0 (iRngAD ta)) := by
  refine piImp (pi_rangeAny hg hm ha hs hs2) fun σ H Q ⟨F, R, τ, M, Q', e0, st, sl, q, k⟩ => ?_
  refine ⟨F, R, τ, M, _, e0, st, sl, q, fun v H1 F1 ds M1 e1 st1 r1 q1 => ?_⟩
  split at q1 <;> try exact q1.elim
  obtain ⟨x, y, rfl, r, r'⟩ := rep2 r1
  cases r; cases r'
  exact ⟨_, _, rfl, k _ _ _ _ _ e1 st1 rel_rng q1⟩
end
section
variable {τ : SD} {M : Mp} {QI : ItD → Mp → Prop} {al : DA} {i j : Int}
def kRA (QI : ItD → Mp → Prop) : List D → Mp → Prop := fun ds M1 => match ds with
  | [.int i, .int j] => QI (itRng i (j - i).toNat) M1
  | _ => False
theorem s_rngA (h : al τ M (kRA QI)) : iRngAD al τ M QI := h
theorem s_kra (h : QI (itRng i (j - i).toNat) M) : kRA QI [.int i, .int j] M := h
end
/-! while -/
def kWh (W : Nat → SD → Mp → Prop) (m : Nat) (tb : DS) (nx : SD → Mp → Prop) (rt : QD) (τ : SD) : Bool → Mp → Prop := fun b M1 => if b = true then tb ⟨fun τ2 M2 => ∃ m', m' < m ∧ W m' τ2 M2, rt, nx, fun τ2 M2 => ∃ m', m' < m ∧ W m' τ2 M2⟩ τ M1 else nx τ M1
section
variable {nx bk ct : SD → Mp → Prop} {rt : QD} {tb : DS} {tc : DT} {τ : SD} {M : Mp} {W : Nat → SD → Mp → Prop} {m : Nat} {p : Prop} [Decidable p] {b : Bool}
theorem s_while (W : Nat → SD → Mp → Prop) (m0 : Nat) (h0 : W m0 τ M) (hs : ∀ m τ M, W m τ M → tc τ M (kWh W m tb nx rt τ)) : dWhile tc tb ⟨nx, rt, bk, ct⟩ τ M := ⟨W, ⟨m0, h0⟩, fun m τ M w => hs m τ M w⟩
theorem s_wh_t (h : tb ⟨fun τ2 M2 => ∃ m', m' < m ∧ W m' τ2 M2, rt, nx, fun τ2 M2 => ∃ m', m' < m ∧ W m' τ2 M2⟩ τ M) : kWh W m tb nx rt τ true M := h
theorem s_wh_f (h : nx τ M) : kWh W m tb nx rt τ false M := by unfold kWh; rw [if_neg Bool.false_ne_true]; exact h
theorem s_wh_d (h : p → tb ⟨fun τ2 M2 => ∃ m', m' < m ∧ W m' τ2 M2, rt, nx, fun τ2 M2 => ∃ m', m' < m ∧ W m' τ2 M2⟩ τ M) (h2 : ¬ p → nx τ M) : kWh W m tb nx rt τ (decide p) M := by
  by_cases e : p
  · rw [decide_eq_true e]; exact s_wh_t (h e)
  · rw [decide_eq_false e]; exact s_wh_f (h2 e)
theorem s_wh_nd (h : ¬ p → tb ⟨fun τ2 M2 => ∃ m', m' < m ∧ W m' τ2 M2, rt, nx, fun τ2 M2 => ∃ m', m' < m ∧ W m' τ2 M2⟩ τ M) (h2 : p → nx τ M) : kWh W m tb nx rt τ (!decide p) M := by
  by_cases e : p
  · rw [decide_eq_true e]; exact s_wh_f (h2 e)
  · rw [decide_eq_false e]; exact s_wh_t (h e)
end
/-- over a range, each turn gives one, and M stays -/
theorem s_klcRng {fin : List D → Mp → QD → Prop} {te : DE} {τ : SD} {M : Mp} {Q : QD} {i0 : Nat} {vs : List Nat} {lo : Int} {n : Nat} (f : Nat → D) (hn : n ≤ sizeLine)
    (hs : ∀ i (Q : QD), i < n → Q (f i) M → te ((wipeD τ vs).set i0 (some (.int (lo + (i : Nat))))) M Q) (hd : fin ((List.range n).map f) M Q) : kLc fin true [i0] vs dYes te τ Q (itRng lo n) M := by
  refine ⟨fun i acc M' => M' = M ∧ acc = (List.range i).map f, ⟨rfl, rfl⟩, fun _ _ _ _ _ => trivial, fun i acc M' hi p => ?_, fun acc M' p => ?_⟩
  · obtain ⟨rfl, rfl⟩ := p
    have hi : i < n := hi
    refine hs i _ hi ⟨?_, rfl, ?_⟩
    · rw [List.length_map, List.length_range]; omega
    · rw [List.range_succ, List.map_append]; rfl
  · obtain ⟨rfl, rfl⟩ := p
    exact hd
/-! a tuple of names, by the places alone -/
def gOf : List Nat → TGs
  | [] => gNil
  | i :: is => gCons (gName i) (gOf is)
theorem gOf_run {K : PySem.W.Frag} {F H : Hp} : ∀ (is : List Nat) {xs : List V} {ds : List D} {σ : L2.St} {τ : SD} {Q : L2.St → Hp → Prop}, Slots K F σ τ → RepAll K F xs ds → ds.length = is.length →
    (∀ σ2, Slots K F σ2 (setAll is ds τ) → (∃ xs : List V, is.length = xs.length ∧ σ2 = (is.zip xs).foldl (fun s p => s.set p.1 (some p.2)) σ) → Q σ2 H) → gOf is xs σ H Q
  | [], xs, ds, σ, τ, Q, sl, ra, hl, q => by
    cases ra with
    | nil => exact ⟨rfl, q σ sl ⟨[], rfl, rfl⟩⟩
    | cons _ _ => cases hl
  | i :: is, xs, ds, σ, τ, Q, sl, ra, hl, q => by
    cases ra with
    | nil => cases hl
    | cons r ra =>
      refine ⟨_, _, rfl, gOf_run is (sl.put r i) ra (Nat.succ.inj hl) fun σ2 s2 ⟨ys, h1, h2⟩ => ?_⟩
      exact q σ2 s2 ⟨_ :: ys, congrArg (· + 1) h1, h2⟩
theorem tg_of {K : PySem.W.Frag} (is : List Nat) : TgOk K (gTup K is.length (gOf is)) false is := by
  constructor
  intro F R H M v d σ τ τ2 Q st sl r e q
  cases d with
  | tup ds =>
    have e : (if ds.length = is.length then some (setAll is ds τ) else none) = some τ2 := e
    by_cases hl : ds.length = is.length
    · rw [if_pos hl] at e
      cases e
      obtain ⟨a, xs, rfl, hs, ra⟩ := tp_get st r
      exact ⟨a, xs, rfl, hs, ra.len.trans hl, gOf_run is sl ra hl q⟩
    · rw [if_neg hl] at e; cases e
  | _ => exact nomatch (show (none : Option SD) = some τ2 from e)
end DL

namespace L2
open PySem PySem.Spec PyProof.Rows
theorem tuple_mul1 (l : Addr) (items : Array Value) (n : Nat) (dd : Option Addr) (sl : Array (Option Value)) (u : Tok) :
    Meets (Builtin.«tuple.__mul__» ⟨[.ref l, .int 1 u], []⟩) (fun _ R s => s.heap.get? l = some { cls := .type "tuple", dict := dd, data := .seq items n, slots := sl } ∧ R (.ok (.ret (Value.ref l))) s) :=
  .of_wp fun prog w A R s h => by
    obtain ⟨hp, g, d, tk, os⟩ := s
    obtain ⟨hl, h⟩ := h
    have f1 := AutoSeq1.idx_int
    wp_walk using wpAny_loadPart' hl
    exact ⟨_, rfl, h⟩
theorem tuple_mul0 (l : Addr) (items : Array Value) (n : Nat) (dd : Option Addr) (sl : Array (Option Value)) (x : Int) (u : Tok) (c0 : (decide (x < -(2 ^ 63)) || decide (x ≥ 2 ^ 63)) = false) (c1 : (items.isEmpty || x == 1) = false) (c2 : (decide (x ≤ 0) || items.isEmpty) = true) :
    Meets (Builtin.«tuple.__mul__» ⟨[.ref l, .int x u], []⟩) (fun _ R s => s.heap.get? l = some { cls := .type "tuple", dict := dd, data := .seq items n, slots := sl } ∧
      R (.ok (.ret (Value.ref s.heap.objs.size))) { s with heap := s.heap.push { cls := Value.type "tuple", data := Data.seq #[] }, toks := s.toks }) :=
  .of_wp fun prog w A R s h => by
    obtain ⟨hp, g, d, tk, os⟩ := s
    obtain ⟨hl, h⟩ := h
    have f1 := AutoSeq1.idx_int
    wp_walk using wpAny_loadPart' hl
    repeat (first
      | (refine wpAny_ite_false (decide_eq_false (by rw [c0]; exact Bool.false_ne_true)) ?_; wp_walk using wpAny_loadPart' hl)
      | (refine wpAny_ite_false (decide_eq_false (by rw [c1]; exact Bool.false_ne_true)) ?_; wp_walk using wpAny_loadPart' hl)
      | (refine wpAny_ite_true (decide_eq_true c2) ?_; wp_walk using wpAny_loadPart' hl))
    exact ⟨_, rfl, h⟩
/-- a tuple, any number of times -/
theorem op_repAny {X : Cx} : OpR X (binaryOp .Mult) (fun x y H Q => ∃ l k xs, x = .ref l ∧ y = .int k ∧ SqT X.K H l xs ∧ xs ≠ [] ∧ -(2 ^ 62) ≤ k ∧ xs.length * k.toNat ≤ 1000000 ∧ (k = 1 → Q (.ref l) H) ∧
    (k ≠ 1 → ∀ p, H p = none → Q (.ref p) (upd H p (.tup (List.replicate k.toNat xs).flatten)))) := by
  rintro pins s σ H x y v u Q I rx ry ⟨l, k, xs, rfl, rfl, hT, hne, hk, hz, q1, q2⟩
  by_cases k2 : 2 ≤ k
  · exact DL.op_repN pins s σ H _ _ v u Q I rx ry ⟨l, k, xs, rfl, rfl, hT, hne, k2, hz, q2 (by omega)⟩
  cases rx
  obtain ⟨t, rfl⟩ := ry
  obtain ⟨its, r, ⟨⟨cls, dd, data, sl⟩, ho, hc, n, hd⟩, hs⟩ := I.tuple hT
  simp only at hc hd
  subst hc hd
  have hle : its.length = xs.length := r.length.symm
  have hn : its ≠ [] := fun e => hne (List.eq_nil_of_length_eq_zero (by rw [← hle, e]; rfl))
  have hi : its.toArray.isEmpty = false := by
    cases its with
    | nil => exact absurd rfl hn
    | cons a b => rfl
  by_cases k1 : k = 1
  · subst k1
    refine wpAny_binaryOp_repeat_ref (T := "tuple") (U := "int") (by decide) ⟨_, ho, rfl⟩ (fun s' => typeIs_int s' 1 t) noFill_tuple_mul F.fills_int_mul F.slot_int_rmul repeat_tuple F.slot_int_index.lookup
      (call_meets F.slot_int_rmul (typeIs_int s 1 t) F.entry_int_rmul (F.args_int_rmul_2 _ _) (int_rmul_tuple 1 t l its.toArray n dd sl)
        ⟨ho, rfl, ⟨_, ho, rfl⟩, call_meets F.slot_tuple_mul ⟨_, ho, rfl⟩ F.entry_tuple_mul (F.args_tuple_mul_2 _ _) (tuple_mul1 l its.toArray n dd sl t) ⟨ho, ?_⟩⟩)
    exact ⟨.ref l, H, I, rfl, q1 rfl⟩
  · refine wpAny_binaryOp_repeat_ref (T := "tuple") (U := "int") (by decide) ⟨_, ho, rfl⟩ (fun s' => typeIs_int s' k t) noFill_tuple_mul F.fills_int_mul F.slot_int_rmul repeat_tuple F.slot_int_index.lookup
      (call_meets F.slot_int_rmul (typeIs_int s k t) F.entry_int_rmul (F.args_int_rmul_2 _ _) (int_rmul_tuple k t l its.toArray n dd sl)
        ⟨ho, rfl, ⟨_, ho, rfl⟩, call_meets F.slot_tuple_mul ⟨_, ho, rfl⟩ F.entry_tuple_mul (F.args_tuple_mul_2 _ _)
          (tuple_mul0 l its.toArray n dd sl k t (by rw [decide_eq_false (by omega), decide_eq_false (by omega)] <;> rfl) (by rw [hi, Bool.false_or]; exact beq_eq_false_iff_ne.mpr (by omega)) (by rw [decide_eq_true (by omega)]; rfl)) ⟨ho, ?_⟩⟩)
    have e0 : (List.replicate k.toNat xs).flatten = [] := by rw [show k.toNat = 0 by omega]; rfl
    have q2 := q2 k1
    rw [e0] at q2
    refine ⟨.ref s.heap.objs.size, _, I.laid (t' := s.toks) (o := .tup []) (fun b ob q => Heap.get?_push_of_some _ q) (Nat.le_refl _) ?_, rfl, q2 _ (I.hok.fresh (Nat.le_refl _))⟩
    exact ⟨Nat.zero_le _, [], .nil, IsTup.new _ _⟩
/-- // of any sign -/
def CDivG (_ j : Int) : Prop := j ≠ 0 ∧ j.natAbs.log2 < 9000
theorem op_fdivG {X : Cx} : OpR X (binaryOp .FloorDiv) (rI CDivG fun i j => .int (i.fdiv j)) := opI fun _ _ _ _ _ _ _ hc q => floordiv_int hc.1 q (.inl (PyProof.noPylong_of_log2 hc.2))
end L2
namespace DL
open PySem PySem.Spec PyProof.Rows L2
abbrev dFdivG : R2D := dI CDivG fun i j => i.fdiv j
def dMulA : R2D := fun x y M Q => match x, y with
  | .tup xs, .int k => xs ≠ [] ∧ -(2 ^ 62) ≤ k ∧ xs.length * k.toNat ≤ 1000000 ∧ Q (.tup (List.replicate k.toNat xs).flatten) M
  | _, _ => False
section
variable {X : Cx} {F0 : Bs}
theorem od_fdivG : OpD X F0 (binaryOp .FloorDiv) dFdivG := od_I op_fdivG
theorem od_mulA : OpD X F0 (binaryOp .Mult) dMulA := by
  intro pins s σ H x y v u Q I rx ry ⟨F, R, M, d, e, Q', e0, st, rd, re, q, k⟩
  unfold dMulA at q
  split at q
  · obtain ⟨a, vs, rfl, h1, ra⟩ := tp_get st rd
    rename_i ds j
    have rd2 := rd
    cases re
    refine op_repAny pins s σ H _ _ v u Q I rx ry ⟨a, _, vs, rfl, rfl, h1, fun z => q.1 ?_, q.2.1, by rw [ra.len]; exact q.2.2.1, fun e1 => ?_, fun e1 p hp => k.tup st hp (ra.reps _) q.2.2.2⟩
    · subst z; cases ra; rfl
    · have q4 := q.2.2.2
      subst e1
      rw [show (List.replicate (1 : Int).toNat ds).flatten = ds by show (ds ++ []) = ds; simp] at q4
      exact k _ _ _ _ _ Ext.refl st rd2 q4
  · exact q.elim
end
theorem s_mulA {xs : List D} {k : Int} {M : Mp} {Q : QD} (e : xs ≠ []) (e1 : -(2 ^ 62) ≤ k) (e2 : xs.length * k.toNat ≤ 1000000) (h : Q (.tup (List.replicate k.toNat xs).flatten) M) : dMulA (.tup xs) (.int k) M Q := ⟨e, e1, e2, h⟩
end DL

namespace L2
open PySem PySem.Spec PyProof.Rows
/-- sum of a list of bools -/
theorem sum_bools {prog : Program} {w : World} {A : Around} {E : Value → Shared → Prop} {s : Shared} {l : Addr} {items : Array Value} {bs : List Bool} {Q : Value → Shared → Prop} (hh : A.handled = none) (hl : s.heap.IsList l items) (hi : items.toList = bs.map Value.bool)
    (h : ∀ h' tk t', (∀ b o, s.heap.get? b = some o → h'.get? b = some o) → Q (.int ((bs.countP id : Nat) : Int) t') { s with heap := h', toks := tk }) : wpAny (model prog w) A (call (.builtin "sum") [.ref l]) Q E s := by
  have hlt : l < s.heap.objs.size := by obtain ⟨_, e, _⟩ := hl; exact Heap.lt_size e
  have sz : items.size = bs.length := by rw [← Array.length_toList, hi, List.length_map]
  refine call_sum_walkAnyB (wpAny_pyIter_list hl ?_)
  refine ⟨_, _, _, _, _, _, _, fun i => if bs.getD i false = true then 1 else 0, rfl, (Walks.list (A := A.in1) hh _ l (Nat.ne_of_lt hlt) items).toS, ⟨⟨_, Heap.get?_push_size _ rfl, rfl, rfl⟩, hl.push _⟩, fun b hb => ?_, fun i v hv => ?_, fun s' t' hm => ?_⟩
  · show b < (s.heap.push _).objs.size
    rw [show (s.heap.push { cls := .type "list_iterator", data := .fields #[.ref l, .int 0 0] }).objs.size = s.heap.objs.size + 1 from Array.size_push ..]
    rcases List.mem_cons.mp hb with rfl | hb
    · exact Nat.lt_succ_self _
    · rw [List.mem_singleton.mp hb]; exact Nat.lt_succ_of_lt hlt
  · have hv2 : items.toList[i]? = some v := by simpa using hv
    rw [hi, List.getElem?_map] at hv2
    cases e : bs[i]? with
    | none => rw [e] at hv2; cases hv2
    | some b =>
      rw [e] at hv2
      cases hv2
      refine .inr ⟨b, rfl, ?_⟩
      show (if bs.getD i false = true then (1 : Int) else 0) = _
      rw [List.getD_eq_getElem?_getD, e]; rfl
  · have e0 : ∀ n, n ≤ bs.length → preSum (fun i => if bs.getD i false = true then 1 else 0) n = (((bs.take n).countP id : Nat) : Int) := by
      intro n
      induction n with
      | zero => intro _; rfl
      | succ n ih =>
        intro hn
        have hx : bs[n]? = some bs[n] := List.getElem?_eq_getElem hn
        rw [preSum, ih (by omega), List.take_succ, hx, List.countP_append, List.getD_eq_getElem?_getD, hx]
        cases bs[n] <;> simp
    have e1 := e0 items.size (by omega)
    rw [sz, List.take_length] at e1
    rw [sz, e1]
    obtain ⟨hp, g, d, tk, os⟩ := s'
    obtain ⟨m1, m2, m3, m4, m5⟩ := hm
    have m2 : g = s.gens := m2
    have m3 : d = s.drawn := m3
    have m4 : os = s.os := m4
    subst m2 m3 m4
    refine h hp tk t' fun b o e => m1 b o ?_ (Heap.get?_push_of_some _ e)
    simp only [List.mem_singleton]
    intro z
    subst z
    exact Nat.lt_irrefl _ (Heap.lt_size e)
theorem cr_sumB {X : Cx} (hc : X.calm = true) : CallR X (.builtin "sum") (fun vs H Q => ∃ (a : Addr) (bs : List Bool), vs = [V.ref a] ∧ SqL X.K H a (bs.map V.bl) ∧ Q (.int ((bs.countP id : Nat) : Int)) H) := by
  intro pins s σ H vs us Q I r h
  obtain ⟨a, bs, rfl, hs, q⟩ := h
  obtain ⟨its, rv, hl, _⟩ := I.list hs
  rw [Vals.ref1 r]
  have hv : ∀ (bs : List Bool) (us : List Value), Vals (bs.map V.bl) us → us = bs.map Value.bool := by
    intro bs
    induction bs with
    | nil => intro us r; cases r; rfl
    | cons b bs ih =>
      intro us r
      cases r with
      | cons r t => cases r; rw [ih _ t]; rfl
  exact sum_bools (I.ok.hd hc) hl.isList (by simpa using hv bs its rv) fun h' tk t' hk => ⟨.int _, H, I.kept hk, ⟨_, rfl⟩, q⟩
end L2
namespace DL
open PySem PySem.Spec PyProof.Rows L2
/-- sum of a list of bools -/
def dSumB : RC := fun ds M Q => match ds with
  | [d] => match lsOf M d with
    | some xs => match blsOf xs with
      | some bs => Q (.int ((bs.countP id : Nat) : Int)) M
      | none => False
    | none => False
  | _ => False
def dGcd : RC := fun ds M Q => match ds with
  | [.int a, .int b] => Q (.int ((Nat.gcd a.natAbs b.natAbs : Nat) : Int)) M
  | _ => False
section
variable {X : Cx} {F0 : Bs} {x : Str} {p pos : Pos} {e : Expr} {es : List Expr} {t : DA} {r : RC} {id : String}
theorem pd_callBf (hc : CallR X (.builtin id) (liC X.K F0 r)) (hg : Gl X x) (hm : X.mg x = some (.builtin id)) (ha : PA X (e :: es) (liA X.K F0 t)) (hdb : (x == ("__debug__" : Str)) = false := by decide)
    (he : starEach (e :: es) X.env = (false, eval e X.env) :: starEach es X.env := by rfl) (hpl : (backTo pos (starEach es X.env)).any (·.1) = false := by rfl) : PE X (.Call (.Name x p) (e :: es) [] pos) (liE X.K F0 (dCB r t)) :=
  peImp (pe_callBfun hc hg hm ha hdb he hpl) fun _ _ _ => li_cb
theorem cd_gcd : CallR X (.builtin "math.gcd") (liC X.K F0 dGcd) := by
  refine caImp cr_gcd fun xs H Q ⟨F, R, M, ds, Q', e0, st, rs, q, k⟩ => ?_
  unfold dGcd at q
  split at q <;> try exact q.elim
  obtain ⟨x, y, rfl, r, r'⟩ := rep2 rs
  cases r; cases r'
  exact ⟨_, _, rfl, k _ _ _ _ _ Ext.refl st (.int _) q⟩
theorem cd_sumB (hc : X.calm = true) : CallR X (.builtin "sum") (liC X.K F0 dSumB) := by
  refine caImp (cr_sumB hc) fun xs H Q ⟨F, R, M, ds, Q', e0, st, rs, q, k⟩ => ?_
  unfold dSumB at q
  split at q <;> try exact q.elim
  obtain ⟨x, rfl, r⟩ := rep1 rs
  split at q <;> try exact q.elim
  rename_i ys h1
  split at q <;> try exact q.elim
  rename_i bs h2
  obtain ⟨a, vs, rfl, hs, ra⟩ := ls_get st r h1
  rw [bls_eq h2] at ra
  have ev := ra.bls
  subst ev
  exact ⟨a, bs, rfl, hs, k _ _ _ _ _ Ext.refl st (.int _) q⟩
end
theorem s_sumB {bs : List Bool} {x : D} {M : Mp} {Q : QD} {ds : List D} (e : lsOf M x = some ds) (e2 : blsOf ds = some bs) (h : Q (.int ((bs.countP id : Nat) : Int)) M) : dSumB [x] M Q := by unfold dSumB; simp only [e, e2]; exact h
theorem s_gcd {a b : Int} {M : Mp} {Q : QD} (h : Q (.int ((Nat.gcd a.natAbs b.natAbs : Nat) : Int)) M) : dGcd [.int a, .int b] M Q := h
/-! two names at once -/
def dPar (i j : Nat) (al : DA) : DS := fun D τ M => al τ M fun ds M1 => match ds with
  | [a, b] => D.nx ((τ.set i (some a)).set j (some b)) M1
  | _ => False
section
variable {X : Cx} {F0 : Bs}
theorem sd_par {i j : Nat} {x y : Str} {a b : Expr} {ta : DA} {px py pt pos : Pos} {kt k2 pt2} (hc : X.calm = true) (hN : X.N.Nodup) (hi : X.N[i]? = some x) (hj : X.N[j]? = some y) (hij : i ≠ j)
    (hx : X.env.scope.names.lookup x = some .local) (hy : X.env.scope.names.lookup y = some .local) (ha : PA X [a, b] (liA X.K F0 ta))
    (hw : swappedStores [.Tuple [.Name x px, .Name y py] kt pt] (.Tuple [a, b] k2 pt2) X.env = pure (some [x, y]))
    (hs : swapsWithSole [.Tuple [.Name x px, .Name y py] kt pt] (.Tuple [a, b] k2 pt2) pos.line X.env = pure false := by rfl) :
    PS X (.Assign [.Tuple [.Name x px, .Name y py] kt pt] (.Tuple [a, b] k2 pt2) pos) (liS X.K F0 (dPar i j ta)) := by
  refine psImp (ps_par hc hN hi hj hij hx hy ha hw hs) fun D σ H ⟨F, R, τ, M, D', e0, st, sl, q, k⟩ => ?_
  refine ⟨F, R, τ, M, _, e0, st, sl, q, fun vs H1 F1 ds M1 e1 st1 r1 q1 => ?_⟩
  split at q1 <;> try exact q1.elim
  obtain ⟨v, w, rfl, r, r'⟩ := rep2 r1
  exact ⟨_, _, rfl, k.nx _ _ _ _ _ e1 st1 (((sl.ext e1).put r i).put r' j) q1⟩
end
def kPar (nx : SD → Mp → Prop) (i j : Nat) (τ : SD) : List D → Mp → Prop := fun ds M1 => match ds with
  | [a, b] => nx ((τ.set i (some a)).set j (some b)) M1
  | _ => False
theorem s_par {nx bk ct : SD → Mp → Prop} {rt : QD} {τ : SD} {M : Mp} {i j : Nat} {al : DA} (h : al τ M (kPar nx i j τ)) : dPar i j al ⟨nx, rt, bk, ct⟩ τ M := h
theorem s_kpar {nx : SD → Mp → Prop} {τ τ2 : SD} {M : Mp} {i j : Nat} {a b : D} (e : (τ.set i (some a)).set j (some b) = τ2) (h : nx τ2 M) : kPar nx i j τ [a, b] M := by subst e; exact h
end DL

namespace DL
open PySem PySem.Spec PyProof.Rows L2
/-! math.lcm -/
theorem cr_lcm {X : Cx} : CallR X (.builtin "math.lcm") (fun vs H Q => ∃ a b : Nat, vs = [.int a, .int b] ∧ a < 2 ^ 30 ∧ b < 2 ^ 30 ∧ Q (.int ((Nat.lcm a b : Nat) : Int)) H) := by
  intro pins s σ H vs us Q I r h
  obtain ⟨a, b, rfl, ha, hb, q⟩ := h
  obtain ⟨t, u, rfl⟩ := Vals.int2 r
  have e0 : Nat.lcm (Nat.lcm 1 (a : Int).natAbs) (b : Int).natAbs = Nat.lcm a b := by rw [Int.natAbs_natCast, Int.natAbs_natCast, Nat.lcm_one_left]
  have lb : Nat.lcm a b < 2 ^ 60 := by
    have := Nat.lcm_le_mul (m := a) (n := b)
    by_cases h0 : a = 0
    · subst h0; rw [Nat.lcm_zero_left]; decide
    by_cases h1 : b = 0
    · subst h1; rw [Nat.lcm_zero_right]; decide
    have l1 := Nat.le_of_dvd (Nat.mul_pos (by omega) (by omega)) (Nat.lcm_dvd_mul a b)
    have l2 : a * b < 2 ^ 30 * 2 ^ 30 := Nat.mul_lt_mul'' ha hb
    have e : (2 : Nat) ^ 30 * 2 ^ 30 = 2 ^ 60 := by decide
    omega
  refine PySem.W.mg_lcm (by omega) (by omega) ?_ ?_
  · rw [e0, Int.natAbs_natCast]
    exact Nat.lt_of_lt_of_le (PySem.Flt.log2_lt_of (k := 60) (by decide) lb) (by decide)
  · rw [e0]
    exact ⟨.int _, H, I.tok _, ⟨_, rfl⟩, q⟩
def dLcm : RC := fun ds M Q => match ds with
  | [.int a, .int b] => 0 ≤ a ∧ a < 2 ^ 30 ∧ 0 ≤ b ∧ b < 2 ^ 30 ∧ Q (.int ((Nat.lcm a.toNat b.toNat : Nat) : Int)) M
  | _ => False
theorem cd_lcm {X : Cx} {F0 : Bs} : CallR X (.builtin "math.lcm") (liC X.K F0 dLcm) := by
  refine caImp cr_lcm fun xs H Q ⟨F, R, M, ds, Q', e0, st, rs, q, k⟩ => ?_
  unfold dLcm at q
  split at q <;> try exact q.elim
  obtain ⟨x, y, rfl, r, r'⟩ := rep2 rs
  cases r; cases r'
  rename_i a b _
  refine ⟨a.toNat, b.toNat, ?_, by omega, by omega, k _ _ _ _ _ Ext.refl st (.int _) q.2.2.2.2⟩
  rw [Int.toNat_of_nonneg q.1, Int.toNat_of_nonneg q.2.2.1]
theorem s_lcm {a b : Nat} {M : Mp} {Q : QD} (ha : a < 2 ^ 30) (hb : b < 2 ^ 30) (h : Q (.int ((Nat.lcm a b : Nat) : Int)) M) : dLcm [.int a, .int b] M Q := by
  refine ⟨by omega, by omega, by omega, by omega, ?_⟩
  rw [Int.toNat_natCast, Int.toNat_natCast]
  exact h
end DL

/-! DL: lambdas with parameters, handed to a def, called there by a name -/
namespace DL
open PySem PySem.Spec PyProof.Rows L2 LamX NdefX

/-! ### objects known exactly -/
def PinO (a : Addr) (o : Obj) : HO := .ext fun h => h.get? a = some o
theorem pinO_at {P : Program} {w : World} {H : Hp} {h : Heap} {a : Addr} {o : Obj} (hok : HOk P w H h) (e : H a = some (PinO a o)) : h.get? a = some o := (hok a _ e).1
theorem pinO_ok {P : Program} {w : World} {H : Hp} {h : Heap} {a : Addr} {o : Obj} (e : h.get? a = some o) : ObjOk P w H h a (PinO a o) := ⟨e, ⟨o, e⟩, fun h1 h2 e1 st => st _ e1⟩
theorem pinO_inj {a : Addr} {o o' : Obj} {P : Program} {w : World} {H : Hp} {h : Heap} (hok : HOk P w H h) (e : H a = some (PinO a o)) (e2 : h.get? a = some o') : o = o' := by
  have := pinO_at hok e
  rw [e2] at this
  exact (Option.some.inj this).symm
/-! ### the making -/
section
variable {X : Cx} {pins : List (Addr × Obj)} {σ : L2.St} {H : Hp} {s : Shared}
theorem inv_pin {o : Obj} {t' : Nat} (I : Inv X pins σ H s) (hz : o.isFreed = false := by rfl) : Inv X pins σ (upd H s.heap.objs.size (PinO s.heap.objs.size o)) { s with heap := s.heap.push o, toks := t' } :=
  I.laid (a := s.heap.objs.size) (fun b u e => Heap.get?_push_of_some _ e) (Nat.le_refl _) (pinO_ok (Heap.get?_push_size _ hz))
/-- the lambda is made: its code object is new, or found in the table; the function object is known from then on -/
theorem lam_make3 {q : Str} {c P : Addr} {params : Arguments} {body : Expr} {scope : Scope} {pos : Pos} {E : Value → Shared → Prop} {Q : Value → Shared → Prop} (I : Inv X pins σ H s) (TB : TabB X.base X.mg c P) (hcode : X.env.code = .ref c)
    (hq : X.env.qual ++ "<lambda>" = q) (hT : TabS H P q) (hdef : defaultsOf params X.env = ([], [])) (hfree : ∀ y ∈ scope.names, y.2 = .free → ∃ c, X.env.cells.lookup y.1 = some c)
    (h : ∀ (f c' : Addr) (pm ctv : Value) (H1 : Hp) (s' : Shared), Inv X pins σ H1 s' → (∀ b o, b ≠ P → H b = some o → H1 b = some o) → TabS H1 P q → H f = none → f ≠ c' → f ≠ P → 
      H1 f = some (PinO f (PySem.W.kla_obj "<lambda>" q params body scope (cloFrom X.env.cells scope.names []) pm c' ctv)) → H1 c' = some (CodeO c' q) → Q (.ref f) s') :
    wpAny (model X.prog X.w) X.A (eval (.Lambda params body scope pos) X.env) Q E s := by
  subst hq
  obtain ⟨ps, hP, ht, ha⟩ := hT
  refine PySem.W.kla_eval hdef ?_
  have bP : s.heap.BuiltinsAt X.mg P := TB.bm.keeps I.bk
  have hP' : s.heap.get? P = some { cls := .none, data := .fields ps } := I.hok P _ hP
  cases hc : codeAmong pos ps.toList with
  | none =>
    refine PySem.W.kla_makeFunction (mg := X.mg) (c := c) (P := P) (ps := ps) (closure_ok hfree) I.ok.glob (I.mod.glob.keeps I.bk) hcode (TB.code.keeps I.bk) hP' ht hc TB.gP bP fun c' ctv h' tk hx hge hlt hrec htb => ?_
    obtain ⟨c2, oc, vs, t, e2, hoc, hd, hv⟩ := hrec
    cases e2
    have nC : H c' = none := I.hok.fresh hge
    have I1 := inv_table (t' := tk) (more := #[rawInt pos.line, rawInt pos.col, .ref c']) (h' := h') I hP (fun b o hb e => hx b o hb e) htb hge ⟨oc, vs, t, hoc, hd, hv⟩
    have hE : ∀ b o, b ≠ P → H b = some o → upd (upd H P (.tbl (ps ++ #[rawInt pos.line, rawInt pos.col, .ref c']))) c' (CodeO c' (X.env.qual ++ "<lambda>")) b = some o := fun b o n e => by
      rw [upd_ne (ne_of_none e nC), upd_ne n]
      exact e
    have eL : (ps ++ #[rawInt pos.line, rawInt pos.col, .ref c']).toList = ps.toList ++ [rawInt pos.line, rawInt pos.col, .ref c'] := by simp
    have T1 : TabS (upd (upd H P (.tbl (ps ++ #[rawInt pos.line, rawInt pos.col, .ref c']))) c' (CodeO c' (X.env.qual ++ "<lambda>"))) P (X.env.qual ++ "<lambda>") := by
      refine ⟨_, by rw [upd_ne (ne_of_none hP nC), upd_same], by rw [eL]; exact PySem.TriplesOk_snoc _ _ _ _ ht, fun p' cv hcv => ?_⟩
      rw [eL] at hcv
      rcases among_app _ ht hcv with z | z
      · obtain ⟨c0, e1, e2⟩ := ha p' cv z
        exact ⟨c0, e1, hE _ _ (ne_of e2 hP (codeO_ne _)) e2⟩
      · exact ⟨c', z, upd_same⟩
    have I2 := inv_pin (t' := tk) (o := PySem.W.kla_obj "<lambda>" (X.env.qual ++ "<lambda>") params body scope (cloFrom X.env.cells scope.names []) ((X.mg "__name__").getD .none) c' ctv) I1
    have nF := I1.hok.fresh (Nat.le_refl h'.objs.size)
    have fc : h'.objs.size ≠ c' := Nat.ne_of_gt hlt
    have fP : h'.objs.size ≠ P := fun z => by
      have : H P = none := by rw [← z]; exact I.hok.fresh (Nat.le_trans hge (Nat.le_of_lt hlt))
      rw [hP] at this; cases this
    refine h h'.objs.size c' ((X.mg "__name__").getD .none) ctv _ _ I2 (fun b o n e => ?_) (T1.ext fun b o e => ?_) (I.hok.fresh (Nat.le_trans hge (Nat.le_of_lt hlt))) fc fP upd_same ?_
    · have e1 := hE b o n e
      exact (upd_ne (ne_of_none e1 nF)).trans e1
    · exact (upd_ne (ne_of_none e nF)).trans e
    · exact (upd_ne (Ne.symm fc)).trans upd_same
  | some cv =>
    obtain ⟨c', e, hco⟩ := ha pos cv hc
    subst e
    refine PySem.W.kla_makeFunctionHit (mg := X.mg) (c := c) (P := P) (ps := ps) (closure_ok hfree) I.ok.glob (I.mod.glob.keeps I.bk) hcode (TB.code.keeps I.bk) hP' ht hc bP fun ctv h' tk hx hsz => ?_
    have I1 : Inv X pins σ H { s with heap := h', toks := tk } := I.kept hx
    have nF : H h'.objs.size = none := I1.hok.fresh (Nat.le_refl _)
    have I2 := inv_pin (t' := tk) (o := PySem.W.kla_obj "<lambda>" (X.env.qual ++ "<lambda>") params body scope (cloFrom X.env.cells scope.names []) ((X.mg "__name__").getD .none) c' ctv) I1
    have T0 : TabS H P (X.env.qual ++ "<lambda>") := ⟨ps, hP, ht, ha⟩
    refine h h'.objs.size c' ((X.mg "__name__").getD .none) ctv _ _ I2 (fun b o n e => ?_) (T0.ext fun b o e => ?_) nF (Ne.symm (ne_of_none hco nF)) (Ne.symm (ne_of_none hP nF)) upd_same ?_
    · exact (upd_ne (ne_of_none e nF)).trans e
    · exact (upd_ne (ne_of_none e nF)).trans e
    · exact (upd_ne (ne_of_none hco nF)).trans hco
end

theorem RepO.raw {K : PySem.W.Frag} {F : Hp} {o u : HO} (h : RepO K F o (.raw u)) : o = u := by
  cases o <;> exact h
/-! ### what a function at hand promises -/
structure Ct where
  P : Program
  w : World
  K : PySem.W.Frag
  mg : Str → Option Value
  base : Heap
  T : List (Addr × Str)
def FnSem (C : Ct) (k : Nat) (f : Addr) (G : Hp) (deps : List (Addr × HO)) (sp : SpD) : Prop :=
  ∀ (A : Around) (outer : List Env) (s : Shared) (H F R : Hp) (M : Mp) (ds : List D) (us : List Value) (vs : List V) (Q' : QD) (Q : VK),
    Room k A → Env0 C.P C.w C.K C.mg C.base A outer s H → Stt C.K F R H M → TabR C.T R → Ext G F → (∀ p ∈ deps, M p.1 = some (.raw p.2)) → RepAll C.K F vs ds → Vals vs us → sp ds M Q' E0D → KE C.K F R Q' Q →
    codeAny (model C.P C.w) A (.call (.ref f) ⟨us, []⟩) (CR CX0 outer C.P C.w H s Q fun _ _ _ => False) s
/-- in M, d is a function that keeps sp -/
def HasFn (C : Ct) (k : Nat) (M : Mp) (d : D) (sp : SpD) : Prop := match d with
  | .fn f G => ∃ deps : List (Addr × HO), (∃ oc od fd sl, (f, PinO f ⟨oc, od, .func fd, sl⟩) ∈ deps ∨ C.K.lookup f = some ⟨oc, od, .func fd, sl⟩) ∧ (∀ p ∈ deps, M p.1 = some (.raw p.2)) ∧ FnSem C k f G deps sp
  | _ => False
theorem HasFn.imp {C : Ct} {k : Nat} {M : Mp} {d : D} {sp sp' : SpD} (h : HasFn C k M d sp) (e : ∀ ds M Q E, sp' ds M Q E → sp ds M Q E) : HasFn C k M d sp' := by
  cases d with
  | fn f G =>
    obtain ⟨deps, h1, h2, h3⟩ := h
    exact ⟨deps, h1, h2, fun A outer s H F R M ds us vs Q' Q a b c t g dd ra r q kq => h3 A outer s H F R M ds us vs Q' Q a b c t g dd ra r (e _ _ _ _ q) kq⟩
  | _ => exact h
theorem HasFn.more {C : Ct} {k : Nat} {M M' : Mp} {d : D} {sp : SpD} (h : HasFn C k M d sp) (e : ∀ a o, M a = some (.raw o) → M' a = some (.raw o)) : HasFn C k M' d sp := by
  cases d with
  | fn f G =>
    obtain ⟨deps, h1, h2, h3⟩ := h
    exact ⟨deps, h1, fun p hp => e _ _ (h2 p hp), h3⟩
  | _ => exact h
/-- another thing is new, or is changed -/
theorem HasFn.upd {C : Ct} {k : Nat} {M : Mp} {d : D} {sp : SpD} {p : Addr} {m : MO} (h : HasFn C k M d sp) (hp : ∀ o, M p ≠ some (.raw o)) : HasFn C k (updM M p m) d sp :=
  h.more fun a o e => by rw [updM_ne (fun z => by subst z; exact hp o e)]; exact e
def dCallV (C : Ct) (k i : Nat) (t : DA) : DE := fun τ M Q => ∃ d sp, τ[i]? = some (some d) ∧ HasFn C k M d sp ∧ t τ M fun ds M1 => HasFn C k M1 d sp ∧ sp ds M1 Q E0D
abbrev ctOf (X : Cx) (F0 : Bs) : Ct := ⟨X.prog, X.w, X.K, X.mg, X.base, F0.T⟩
section
variable {X : Cx} {F0 : Bs} {i k : Nat} {x : Str} {p pos : Pos} {e : Expr} {es : List Expr} {t : DA}
theorem hasFn_at {F R H : Hp} {M : Mp} {s : Shared} {pins : List (Addr × Obj)} {σ : L2.St} {k : Nat} {f : Addr} {G : Hp} {sp : SpD} (I : Inv X pins σ H s) (st : Stt X.K F R H M) (h : HasFn (ctOf X F0) k M (.fn f G) sp) : PySem.W.FnAt f s.heap := by
  obtain ⟨deps, ⟨oc, od, fd, sl, h1⟩, h2, _⟩ := h
  rcases h1 with h1 | h1
  · obtain ⟨_, o, ho, ro⟩ := st.ow _ _ (h2 _ h1)
    have e : o = PinO f ⟨oc, od, .func fd, sl⟩ := ro.raw
    subst e
    exact ⟨oc, od, fd, sl, pinO_at I.hok ho⟩
  · exact ⟨oc, od, fd, sl, I.kIn _ _ h1⟩
theorem pd_callV (hr : Room k X.A) (hN : X.N[i]? = some x) (hv : Vis X.env.scope x) (ha : PA X (e :: es) (liA X.K F0 t)) (hd : (x == ("__debug__" : Str)) = false := by decide) (hcd : (x == ("__classdict__" : Str)) = false := by decide)
    (he : starEach (e :: es) X.env = (false, eval e X.env) :: starEach es X.env := by rfl) (hpl : (backTo pos (starEach es X.env)).any (·.1) = false := by rfl) :
    PE X (.Call (.Name x p) (e :: es) [] pos) (liE X.K F0 (dCallV (ctOf X F0) k i t)) := by
  refine ⟨fun pins s σ H Q I ⟨F, R, τ, M, Q', e0, st, sl, ⟨d, sp, hs, hf, ht⟩, kq⟩ => ?_⟩
  obtain ⟨v, hσ, rv⟩ := sl.get hs
  cases d with
  | fn f G =>
    cases rv with
    | fn eG =>
      refine wpAny_Call_Name_kw (thn ((pe_var (pos := p) hN hv hd hcd).run pins s σ H (fun v H1 => v = .ref f ∧ H1 = H) I ⟨.ref f, hσ, rfl, rfl⟩) fun u s1 ⟨v, H1, I1, r1, q1⟩ => ?_)
      obtain ⟨ev, eH⟩ := q1
      subst ev
      rw [eH] at I1
      obtain rfl : u = Value.ref f := r1
      refine PySem.W.callWith_F (first := []) (hasFn_at I1 st hf) (thn (ha.run pos pins s1 σ H (fun vs H2 => ∃ F2 ds M2, Ext F F2 ∧ Stt X.K F2 R H2 M2 ∧ RepAll X.K F2 vs ds ∧ HasFn (ctOf X F0) k M2 (.fn f G) sp ∧ sp ds M2 Q' E0D) I1
        ⟨F, R, τ, M, _, e0, st, sl, ht, fun vs H2 F2 ds M2 e2 st2 r2 ⟨q1, q2⟩ => ⟨F2, ds, M2, e2, st2, r2, q1, q2⟩⟩) fun us s2 ⟨vs, H2, I2, r, F2, ds, M2, e2, st2, r2, q1, q2⟩ => ⟨hasFn_at I2 st2 q1, ?_⟩) he hpl
      show wpAny _ _ (call (.ref f) us) _ _ _
      obtain ⟨deps, _, h2, h3⟩ := q1
      refine wpAny_call (codeAny_mono (h3 X.A X.stack s2 H2 F2 R M2 ds us vs Q' Q hr I2.env0 st2 e0.t (eG.trans e2) h2 r2 r q2 (kq.ext e2)) fun r s' hq => ?_)
      cases r with
      | error e => exact False.elim hq
      | ok fl =>
        cases fl with
        | ret u => exact I2.after hq
        | next => exact False.elim hq
        | brk => exact False.elim hq
        | cont => exact False.elim hq
  | _ => exact False.elim hf
end
end DL

namespace DL
open PySem PySem.Spec PyProof.Rows L2 LamX NdefX
/-! ### a lambda keeps what its body's reading says -/
/-- what stands in M as data stands in M' -/
def AgreeL (M M' : Mp) : Prop := ∀ a m, M a = some m → (∀ o, m ≠ .raw o) → M' a = some m
/-- the body's reading at its names: the parameters, then what was captured -/
def spL (tb : DE) (n : Nat) (ws : List D) : SpD := fun ds M Q _ => ds.length = n ∧ ∃ P : D → Prop, (∀ M', AgreeL M M' → tb (ds.map some ++ ws.map some) M' fun d M2 => M2 = M' ∧ P d) ∧ ∀ d, P d → Q d M
abbrev lamF (q : Str) (params : Arguments) (scope : Scope) (cl : List (Str × Addr)) (c' : Addr) : NF := ⟨"<lambda>", q, params, [], scope, cl, c'⟩
theorem RsOk.imp {H H' : Hp} {a : Addr} {o : HO} (h : RsOk H a o) (k : ∀ u, H a = some u → H' a = some u) (kc : ∀ c q, H c = some (CodeO c q) → H' c = some (CodeO c q)) : RsOk H' a o := by
  cases o with
  | xd fs =>
    obtain ⟨q, e, ps, h1, h2, h3⟩ := h
    refine ⟨q, e, ps, k _ h1, h2, fun pos cv hc => ?_⟩
    obtain ⟨c, e1, e2⟩ := h3 pos cv hc
    exact ⟨c, e1, kc _ _ e2⟩
  | _ => exact k _ h
theorem slots_all {K : PySem.W.Frag} {F : Hp} : ∀ {vs : List V} {ds : List D}, RepAll K F vs ds → Slots K F (vs.map some) (ds.map some)
  | _, _, .nil => .nil
  | _, _, .cons r t => .cons r (slots_all t)
theorem Slots.app {K : PySem.W.Frag} {F : Hp} : ∀ {σ σ' : L2.St} {τ τ' : SD}, Slots K F σ τ → Slots K F σ' τ' → Slots K F (σ ++ σ') (τ ++ τ')
  | _, _, _, _, .nil, h => h
  | _, _, _, _, .cons r t, h => .cons r (Slots.app t h)
/-- a cell's object is no code object -/
theorem cell_code {P : Program} {w : World} {H : Hp} {h : Heap} {c : Addr} {q : Str} {o : Obj} {v : Option Value} (hok : HOk P w H h) (e : H c = some (CodeO c q)) (ho : h.get? c = some o) (hd : o.data = .cell v) : False := by
  obtain ⟨⟨oc, vs, t, h1, h2, _⟩, _⟩ := hok c _ e
  rw [ho] at h1
  cases h1
  rw [hd] at h2; cases h2
theorem lam_sem {C : Ct} {k : Nat} {params : Arguments} {body : Expr} {scope : Scope} {q : Str} {pm ctv : Value} {c' f : Addr} {cl : List (Str × Addr)} {N ps fr : List Str} {G : Hp} {tb : DE} {ws : List D} {wv : List V} {cs : List Addr} {ob : Addr → Obj}
    (S : NScope N ps fr scope) (hN : N.length = ps.length + fr.length)
    (hbind : ∀ us : List Value, us.length = ps.length → bindArgs (PySem.W.kla_fn "<lambda>" q params body scope cl pm (.ref c') ctv) ⟨us, []⟩ = pure (ps.zip us))
    (hbody : ∀ (A : Around) (outer : List Env) (s : Shared) (H F0 R0 : Hp), Room k (A.deeper (envF (lamF q params scope cl c') f s.heap.objs.size)) → PE (ncx CX0 C.P C.w C.K C.mg C.base N (lamF q params scope cl c') f A outer s H E0).nox body (liE C.K ⟨F0, R0, C.T⟩ tb))
    (hin : ∀ y c, cl.lookup y = some c → c ∈ cs) (hcell : ∀ c ∈ cs, ∃ v, (ob c).data = .cell v) (inj : ∀ x y c, cl.lookup x = some c → cl.lookup y = some c → x = y)
    (hval : ∀ (i : Nat) (y : Str), fr[i]? = some y → ∃ c, cl.lookup y = some c ∧ ∀ v, wv[i]? = some v → ∃ u, L2.RelV v u ∧ (ob c).data = .cell (some u))
    (hwl : wv.length = fr.length) (rep : RepAll C.K G wv ws) :
    FnSem C (k + 1) f G ((f, PinO f (PySem.W.kla_obj "<lambda>" q params body scope cl pm c' ctv)) :: (c', CodeO c' q) :: cs.map fun c => (c, PinO c (ob c))) (spL tb ps.length ws) := by
  intro A outer s H F R M ds us vs Q' Q hr e0 st tr eG hd ra r hsp kq
  obtain ⟨hl, P, hP, hQ⟩ := hsp
  have at_ : ∀ p ∈ ((f, PinO f (PySem.W.kla_obj "<lambda>" q params body scope cl pm c' ctv)) :: (c', CodeO c' q) :: cs.map fun c => (c, PinO c (ob c))), F p.1 = none ∧ H p.1 = some p.2 := fun p hp => by
    obtain ⟨h1, o, h2, h3⟩ := st.ow _ _ (hd p hp)
    exact ⟨h1, by rw [h2, h3.raw]⟩
  have Hf := (at_ _ List.mem_cons_self).2
  have Hc := (at_ _ (List.mem_cons_of_mem _ List.mem_cons_self)).2
  have Hcs : ∀ c ∈ cs, F c = none ∧ H c = some (PinO c (ob c)) ∧ M c = some (.raw (PinO c (ob c))) := fun c hc => by
    have hm : (c, PinO c (ob c)) ∈ ((f, PinO f (PySem.W.kla_obj "<lambda>" q params body scope cl pm c' ctv)) :: (c', CodeO c' q) :: cs.map fun c => (c, PinO c (ob c))) := List.mem_cons_of_mem _ (List.mem_cons_of_mem _ (List.mem_map.mpr ⟨c, hc, rfl⟩))
    exact ⟨(at_ _ hm).1, (at_ _ hm).2, hd _ hm⟩
  have hob : ∀ c ∈ cs, s.heap.get? c = some (ob c) := fun c hc => pinO_at e0.hok (Hcs c hc).2.1
  have ncode : ∀ c ∈ cs, ∀ q, H c ≠ some (CodeO c q) := fun c hc q z => by
    obtain ⟨v, hv⟩ := hcell c hc
    exact cell_code e0.hok z (hob c hc) hv
  have hext : ∀ c ∈ cs, ∀ u, H c = some u → ¬ NX u := fun c hc u e => by
    rw [(Hcs c hc).2.1] at e
    cases e
    exact id
  -- the cells are let go
  let H0 : Hp := fun b => if b ∈ cs then none else H b
  let M0 : Mp := fun b => if b ∈ cs then none else M b
  have H0n : ∀ b, b ∈ cs → H0 b = none := fun b h => if_pos h
  have H0s : ∀ b, b ∉ cs → H0 b = H b := fun b h => if_neg h
  have M0n : ∀ b, b ∈ cs → M0 b = none := fun b h => if_pos h
  have M0s : ∀ b, b ∉ cs → M0 b = M b := fun b h => if_neg h
  have H0sub : ∀ b u, H0 b = some u → b ∉ cs ∧ H b = some u := fun b u e => by
    by_cases hb : b ∈ cs
    · rw [H0n b hb] at e; cases e
    · exact ⟨hb, by rw [← H0s b hb]; exact e⟩
  have H0nx : ∀ b u, H b = some u → NX u → H0 b = some u := fun b u e n => by
    by_cases hb : b ∈ cs
    · exact absurd n (hext b hb u e)
    · rw [H0s b hb]; exact e
  have hok0 : HOk C.P C.w H0 s.heap := fun b u e => by
    obtain ⟨hb, e1⟩ := H0sub b u e
    exact (e0.hok b u e1).stay (fun c v _ z => z) (fun c z => H0nx c _ z trivial) fun c xs z => H0nx c _ z trivial
  have e00 : Env0 C.P C.w C.K C.mg C.base A outer s H0 := ⟨e0.frames, e0.mod, fun b o e => ⟨(e0.bs b o e).1, by
    by_cases hb : b ∈ cs
    · exact H0n b hb
    · rw [H0s b hb]; exact (e0.bs b o e).2⟩, e0.bsz, e0.funs, fun b hb => by
    by_cases hb2 : b ∈ cs
    · exact H0n b hb2
    · rw [H0s b hb2]; exact e0.frf b hb, hok0, e0.bare⟩
  have nfr : ∀ c ∈ cs, c ∉ frs outer := fun c hc z => by
    have := e0.frf c z
    rw [(Hcs c hc).2.1] at this; cases this
  have st0 : Stt C.K F R H0 M0 := by
    refine ⟨fun a o e => ?_, fun a o e => ?_, fun a m e => ?_, st.nf, st.nr⟩
    · have : a ∉ cs := fun z => by rw [(Hcs a z).1] at e; cases e
      rw [H0s a this]; exact st.fz a o e
    · obtain ⟨h1, h2, h3⟩ := st.rs a o e
      have na : a ∉ cs := fun z => by rw [(Hcs a z).2.2] at h3; cases h3
      refine ⟨h1.imp (fun u eu => by rw [H0s a na]; exact eu) (fun c q ec => ?_), h2, by rw [M0s a na]; exact h3⟩
      by_cases hc : c ∈ cs
      · exact absurd ec (ncode c hc q)
      · rw [H0s c hc]; exact ec
    · by_cases ha : a ∈ cs
      · rw [M0n a ha] at e; cases e
      · rw [M0s a ha] at e
        obtain ⟨h1, o, h2, h3⟩ := st.ow a m e
        exact ⟨h1, o, by rw [H0s a ha]; exact h2, h3⟩
  have agree : AgreeL M M0 := fun a m e n => by
    by_cases ha : a ∈ cs
    · rw [(Hcs a ha).2.2] at e
      cases e
      exact absurd rfl (n _)
    · rw [M0s a ha]; exact e
  have lim : s.heap.NoLimit := e0.mod.nolimit.keeps fun b o e => (e0.bs b o e).1
  have hvl : vs.length = ps.length := by rw [ra.len]; exact hl
  have CA : CellsAt cl fr (wv.map some) s.heap H0 := ⟨by rw [List.length_map]; exact hwl, fun y c e => ⟨H0n c (hin y c e), by
    obtain ⟨v, hv⟩ := hcell c (hin y c e)
    exact ⟨v, ob c, hob c (hin y c e), hv⟩⟩, inj, fun i y e => by
    obtain ⟨c, hc, hv⟩ := hval i y e
    refine ⟨c, hc, fun v ev => ?_⟩
    have ev : wv[i]? = some v := by
      rw [List.getElem?_map] at ev
      cases ew : wv[i]? with
      | none => rw [ew] at ev; cases ev
      | some z => rw [ew] at ev; cases ev; rfl
    obtain ⟨u, ru, hu⟩ := hv v ev
    exact ⟨u, ru, ob c, hob c (hin y c hc), hu⟩⟩
  refine PySem.W.kla_callFunE hr.depth (pinO_at e0.hok Hf) rfl S.co S.gen rfl (codeO_at e0.hok Hc) ?_
  rw [hbind us (by rw [← r.length]; exact hvl)]
  refine wpAny_pure (wpAny_newFunctionEnv S.nocell (fun ⟨n, _⟩ hy => S.par n (List.of_mem_zip hy).1) (fun h₁ hns hsb => ⟨lim.fresh _ hsb, ?_⟩) S.kind)
  show codeAny _ _ (.expr body (envF (lamF q params scope cl c') f s.heap.objs.size)) _ _
  have kp : ∀ b o, s.heap.get? b = some o → h₁.get? b = some o := fun b o e => hsb.extBut b o (Nat.ne_of_lt (Heap.lt_size e)) (Heap.get?_push_of_some _ e)
  have J : Inv (ncx CX0 C.P C.w C.K C.mg C.base N (lamF q params scope cl c') f A outer s H0 E0) [] (startF N vs (wv.map some)) H0 { s with heap := h₁, toks := s.toks + (ps.zip us).length } := inv_startN S hr.hd e00 hvl r CA hns kp
  have sl : Slots C.K F (startF N vs (wv.map some)) (ds.map some ++ ws.map some) := by
    unfold startF
    rw [List.length_map, hwl, hvl, hN, show ps.length + fr.length - ps.length - fr.length = 0 by omega, List.replicate_zero, List.append_nil]
    exact (slots_all ra).app (slots_all (rep.ext eG))
  refine PySem.W.kla_codeExpr (wpAny_mono ((hbody A outer s H0 F R (hr.deeper _)).run [] _ _ H0 (fun v H2 => ∃ F2 d, Ext F F2 ∧ Stt C.K F2 R H2 M0 ∧ Rep C.K F2 v d ∧ P d) (J.wish _)
    ⟨F, R, _, M0, _, ⟨Ext.refl, Ext.refl, tr⟩, st0, sl, hP M0 agree, fun v H2 F2 d M2 e2 st2 r2 ⟨eM, pd⟩ => by subst eM; exact ⟨F2, d, e2, st2, r2, pd⟩⟩) (fun v s' hq => ?_) fun e s' hq => False.elim hq)
  obtain ⟨w', H', J', rv, F2, d, e2, st2, r2, pd⟩ := hq
  have J' := J'.unwish
  -- the cells are known again
  have un := J'.base
  have Hn : ∀ c ∈ cs, H' c = none := fun c hc => un.free c (ob c) (hob c hc) (H0n c hc) (by simp [ncx])
  have obk : ∀ c ∈ cs, s'.heap.get? c = some (ob c) := fun c hc => un.keep c (ob c) (hob c hc) (H0n c hc) (nfr c hc) (by simp [ncx])
  let H2 : Hp := fun b => if b ∈ cs then H b else H' b
  have H2n : ∀ b, b ∈ cs → H2 b = H b := fun b h => if_pos h
  have H2s : ∀ b, b ∉ cs → H2 b = H' b := fun b h => if_neg h
  have H2of : ∀ b u, H' b = some u → H2 b = some u := fun b u e => by
    have : b ∉ cs := fun z => by rw [Hn b z] at e; cases e
    rw [H2s b this]; exact e
  have old : ∀ b u, H b = some u → NX u → b ∉ cs ∧ H0 b = some u := fun b u e n => by
    have hb : b ∉ cs := fun z => hext b z u e n
    exact ⟨hb, by rw [H0s b hb]; exact e⟩
  have H0of : ∀ b, H b = none → H0 b = none := fun b e => by
    by_cases hb : b ∈ cs
    · exact H0n b hb
    · rw [H0s b hb]; exact e
  have ncs : ∀ b, H b = none → b ∉ cs := fun b e z => by rw [(Hcs b z).2.1] at e; cases e
  refine ⟨w', H2, J'.os, J'.bare, ⟨fun b o e n hf hx => un.keep b o e (H0of b n) hf (by simp [ncx]), fun b o e n hf hx => un.slot b o e (H0of b n) hf (by simp [ncx]), fun b o e n hx => by
      rw [H2s b (ncs b n)]; exact un.free b o e (H0of b n) (by simp [ncx]), fun b o e hx => un.there b o e (by simp [ncx]), fun b xs e => H2of _ _ (un.tups b xs (old b _ e trivial).2), fun b o u e => H2of _ _ (un.frzs b o u (old b _ e trivial).2), fun b ps e => by
      obtain ⟨more, z⟩ := un.tbls b ps (old b _ e trivial).2
      exact ⟨more, H2of _ _ z⟩⟩, ?_, rv, ?_⟩
  · intro b u e
    by_cases hb : b ∈ cs
    · rw [H2n b hb, (Hcs b hb).2.1] at e
      cases e
      exact pinO_ok (obk b hb)
    · rw [H2s b hb] at e
      exact (J'.hok b u e).stay (fun c v _ z => z) (fun c z => H2of _ _ z) fun c xs z => H2of _ _ z
  · refine kq w' H2 F2 d M e2 ?_ r2 (hQ d pd)
    refine ⟨fun a o e => H2of _ _ (st2.fz a o e), fun a o e => ?_, fun a m e => ?_, st2.nf, st2.nr⟩
    · obtain ⟨h1, h2, h3⟩ := st2.rs a o e
      exact ⟨h1.imp (fun u eu => H2of _ _ eu) fun c q ec => H2of _ _ ec, h2, (st.rs a o e).2.2⟩
    · by_cases ha : a ∈ cs
      · rw [(Hcs a ha).2.2] at e
        cases e
        refine ⟨?_, PinO a (ob a), by rw [H2n a ha]; exact (Hcs a ha).2.1, (show RepO C.K F2 (PinO a (ob a)) (.raw (PinO a (ob a))) from rfl)⟩
        cases ef : F2 a with
        | none => rfl
        | some o =>
          have := st2.fz a o ef
          rw [Hn a ha] at this; cases this
      · obtain ⟨h1, o, h2, h3⟩ := st2.ow a m (by rw [M0s a ha]; exact e)
        exact ⟨h1, o, H2of _ _ h2, h3⟩
end DL

namespace DL
open PySem PySem.Spec PyProof.Rows L2 LamX NdefX
/-- more things of the free kind are known -/
def MoreRaw (M M' : Mp) : Prop := (∀ a m, M a = some m → M' a = some m) ∧ ∀ a m, M' a = some m → M a = some m ∨ ∃ o, m = .raw o
theorem MoreRaw.trans {M M1 M2 : Mp} (h : MoreRaw M M1) (g : MoreRaw M1 M2) : MoreRaw M M2 := ⟨fun a m e => g.1 a m (h.1 a m e), fun a m e => (g.2 a m e).elim (fun z => h.2 a m z) .inr⟩
/-- g(e1, lambda ..: body, e3) -/
def dCallL (C : Ct) (k : Nat) (js : List Nat) (n : Nat) (tb : DE) (sp : SpD) (t1 t3 : DE) : DE := fun τ M Q => t1 τ M fun d1 M1 => ∃ ws : List D, js.map (fun j => τ[j]?) = ws.map (fun d => some (some d)) ∧
  ∀ M2, MoreRaw M1 M2 → t3 τ M2 fun d3 M3 => M3 = M2 ∧ ∀ d Mf, MoreRaw M2 Mf → HasFn C k Mf d (spL tb n ws) → sp [d1, d, d3] Mf (fun r M4 => M4 = Mf ∧ Q r M1) E0D
theorem caps_get {K : PySem.W.Frag} {F : Hp} {σ : L2.St} {τ : SD} (sl : Slots K F σ τ) : ∀ {js : List Nat} {ws : List D}, js.map (fun j => τ[j]?) = ws.map (fun d => some (some d)) → ∃ wv : List V, js.map (slotAt σ) = wv.map some ∧ RepAll K F wv ws
  | [], [], _ => ⟨[], rfl, .nil⟩
  | [], _ :: _, e => by cases e
  | _ :: _, [], e => by cases e
  | j :: js, w :: ws, e => by
    rw [List.map_cons, List.map_cons] at e
    have e1 := (List.cons.inj e).1
    have e2 := (List.cons.inj e).2
    obtain ⟨v, hv, rv⟩ := sl.get e1
    obtain ⟨wv, h1, h2⟩ := caps_get sl e2
    exact ⟨v :: wv, by rw [List.map_cons, List.map_cons, h1, slotAt_of hv], .cons rv h2⟩
section
variable {X : Cx} {F0 : Bs} {kf kb : Nat} {g c P : Addr} {gfd : FuncData} {psg ps fr N : List Str} {gx q : Str} {sp : SpD} {t1 t3 tb : DE} {js : List Nat} {params : Arguments} {body e1 e3 : Expr} {scope : Scope} {p lpos pos : Pos}
theorem pd_callL (Fg : FnOk X.prog X.w X.K X.mg X.base CX0 kf g gfd psg (liSp X.K F0.T sp)) (hr : Room kf X.A) (hg : Gl X gx) (hm : X.mg gx = some (.ref g)) (hk : PySem.W.keepIn X.K (.ref g) = true) (hb : Binds X.K gfd psg [])
    (TB : TabB X.base X.mg c P) (hcode : X.env.code = .ref c) (hT : (P, q) ∈ F0.T) (hq : X.env.qual ++ "<lambda>" = q) (h1 : PE X e1 (liE X.K F0 t1)) (h3 : PE X e3 (liE X.K F0 t3))
    (hdef : defaultsOf params X.env = ([], [])) (hfn : ∀ x, X.fn x = true) (hsc : ndefB X.env.scope scope fr = true) (S : NScope N ps fr scope) (hN : N.length = ps.length + fr.length) (hjs : js.map (fun j => X.N[j]?) = fr.map some)
    (hbind : ∀ (cl : List (Str × Addr)) (pm cv ctv : Value) (us : List Value), us.length = ps.length → bindArgs (PySem.W.kla_fn "<lambda>" q params body scope cl pm cv ctv) ⟨us, []⟩ = pure (ps.zip us))
    (hbody : ∀ (f c' : Addr) (cl : List (Str × Addr)) (A : Around) (outer : List Env) (s : Shared) (H F0' R0' : Hp), Room kb (A.deeper (envF (lamF q params scope cl c') f s.heap.objs.size)) →
      PE (ncx CX0 X.prog X.w X.K X.mg X.base N (lamF q params scope cl c') f A outer s H E0).nox body (liE X.K ⟨F0', R0', F0.T⟩ tb))
    (hdb : (gx == ("__debug__" : Str)) = false := by decide) (he : starEach [e1, .Lambda params body scope lpos, e3] X.env = [(false, eval e1 X.env), (false, eval (.Lambda params body scope lpos) X.env), (false, eval e3 X.env)] := by rfl) (he1 : starEach [.Lambda params body scope lpos, e3] X.env = [(false, eval (.Lambda params body scope lpos) X.env), (false, eval e3 X.env)] := by rfl) :
    PE X (.Call (.Name gx p) [e1, .Lambda params body scope lpos, e3] [] pos) (liE X.K F0 (dCallL (ctOf X F0) (kb + 1) js ps.length tb sp t1 t3)) := by
  refine ⟨fun pins s σ H Q I ⟨F, R, τ, M, Q', e0, st, sl, ht, kq⟩ => ?_⟩
  refine wpAny_Call_Name_kw (ld_glob I hg hm ?_ hdb)
  refine PySem.W.callWith_K (h₀ := X.base) I.ok.mod.kin hk ?_ (by rw [he, he1]) (by rw [he1]; rfl)
  rw [he]
  show wpAny _ _ (spliced [(false, eval e1 X.env), (false, eval (.Lambda params body scope lpos) X.env), (false, eval e3 X.env)]) _ _ s
  refine Calls.spliced_cons (thn (h1.run pins s σ H (fun v H1 => ∃ F1 d1 M1, Ext F F1 ∧ Stt X.K F1 R H1 M1 ∧ Rep X.K F1 v d1 ∧ ∃ ws : List D, js.map (fun j => τ[j]?) = ws.map (fun d => some (some d)) ∧
    ∀ M2, MoreRaw M1 M2 → t3 τ M2 fun d3 M3 => M3 = M2 ∧ ∀ d Mf, MoreRaw M2 Mf → HasFn (ctOf X F0) (kb + 1) Mf d (spL tb ps.length ws) → sp [d1, d, d3] Mf (fun r M4 => M4 = Mf ∧ Q' r M1) E0D) I
    ⟨F, R, τ, M, _, e0, st, sl, ht, fun v H2 F2 d M2 e2 st2 r2 q2 => ⟨F2, d, M2, e2, st2, r2, q2⟩⟩) fun u1 s1 ⟨v1, H1, I1, rl1, F1, d1, M1, ex1, st1, rp1, ws, hws, h2⟩ => ?_)
  have tbl1 : TabS H1 P q := by
    obtain ⟨⟨q', e, t⟩, _, _⟩ := st1.rs _ _ (e0.t _ hT)
    have : q = q' := by cases e; rfl
    rw [this]; exact t
  have nfr := ndef_free hsc
  have hfree : ∀ y ∈ scope.names, y.2 = .free → ∃ c, X.env.cells.lookup y.1 = some c := fun y hy e => (nfr y hy e).elim (fun z => I.ok.has _ (.inl z)) fun z => I.ok.has _ (.inr z)
  refine Calls.spliced_cons (lam_make3 I1 TB hcode hq tbl1 hdef hfree fun f c' pm ctv Ha sa Ia kp Ta nf fc fP hf hc => ?_)
  -- the function object and its code object are known
  let M2 : Mp := fun b => if b = f then some (.raw (PinO f (PySem.W.kla_obj "<lambda>" q params body scope (cloFrom X.env.cells scope.names []) pm c' ctv))) else if b = c' then some (.raw (CodeO c' q)) else M1 b
  have mP : R P = some (.xd [(q, .non)]) := e0.t _ hT
  have hP1 := st1.rs _ _ mP
  have ext_no : ∀ (F : Hp) a φ, F a = some (.ext φ) → (∀ a o, F a = some o → NX o) → False := fun F a φ e n => n a _ e
  have fF : F1 f = none := by
    cases e : F1 f with
    | none => rfl
    | some o => have := st1.fz _ _ e; rw [nf] at this; cases this
  have cF : ∀ o, F1 c' = some o → False := fun o e => by
    by_cases hcP : c' = P
    · subst hcP; rw [hP1.2.1] at e; cases e
    · have h1 := kp _ _ hcP (st1.fz _ _ e)
      rw [hc] at h1
      cases h1
      exact st1.nf _ _ e
  have M1f : M1 f = none := by
    cases e : M1 f with
    | none => rfl
    | some m => obtain ⟨_, o, ho, _⟩ := st1.ow _ _ e; rw [nf] at ho; cases ho
  have M2f : M2 f = some (.raw (PinO f (PySem.W.kla_obj "<lambda>" q params body scope (cloFrom X.env.cells scope.names []) pm c' ctv))) := if_pos rfl
  have M2c : M2 c' = some (.raw (CodeO c' q)) := (if_neg (Ne.symm fc)).trans (if_pos rfl)
  have M2s : ∀ b, b ≠ f → b ≠ c' → M2 b = M1 b := fun b h1 h2 => (if_neg h1).trans (if_neg h2)
  have M1c : ∀ m, M1 c' = some m → m = .raw (CodeO c' q) := fun m e => by
    have hcP : c' ≠ P := fun z => by subst z; rw [hP1.2.2] at e; cases e
    obtain ⟨_, o, ho, ro⟩ := st1.ow _ _ e
    have h1 := kp _ _ hcP ho
    rw [hc] at h1
    cases h1
    unfold CodeO at ro ⊢
    cases m with
    | raw u => have : _ = u := ro; rw [this]
    | _ => exact ro.elim
  have more1 : MoreRaw M1 M2 := ⟨fun a m e => by
    by_cases ha : a = f
    · subst ha; rw [M1f] at e; cases e
    by_cases hc2 : a = c'
    · subst hc2; rw [M2c, M1c m e]
    · rw [M2s a ha hc2]; exact e, fun a m e => by
    by_cases ha : a = f
    · subst ha; rw [M2f] at e; cases e; exact .inr ⟨_, rfl⟩
    by_cases hc2 : a = c'
    · subst hc2; rw [M2c] at e; cases e; exact .inr ⟨_, rfl⟩
    · rw [M2s a ha hc2] at e; exact .inl e⟩
  have sta : Stt X.K F1 R Ha M2 := by
    refine ⟨fun a o e => kp _ _ (fun z => by subst z; rw [hP1.2.1] at e; cases e) (st1.fz a o e), fun a o e => ?_, fun a m e => ?_, st1.nf, st1.nr⟩
    · obtain ⟨g1, g2, g3⟩ := st1.rs a o e
      have af : a ≠ f := fun z => by subst z; exact g1.there nf
      by_cases haP : a = P
      · subst haP
        rw [mP] at e
        cases e
        refine ⟨⟨q, rfl, Ta⟩, g2, ?_⟩
        have ac : a ≠ c' := fun z => by
          obtain ⟨ps', z1, _⟩ := Ta
          rw [z, hc] at z1
          exact codeO_ne ps' (Option.some.inj z1)
        rw [M2s a af ac]; exact g3
      · have ga : RsOk Ha a o := by
          refine g1.step (x := P) (fun b u n eb => kp b u n eb) haP fun q' z => ?_
          obtain ⟨⟨q2, _, ps', z1, _⟩, _⟩ := hP1
          rw [z] at z1
          exact codeO_ne ps' (Option.some.inj z1)
        have ac : a ≠ c' := fun z => by
          subst z
          have nx := st1.nr a o e
          cases o with
          | xd fs =>
            obtain ⟨q2, _, ps', z1, _⟩ := ga
            rw [hc] at z1
            exact codeO_ne ps' (Option.some.inj z1)
          | ext φ => exact nx
          | _ =>
            have ga : Ha a = some _ := ga
            rw [hc] at ga
            unfold CodeO at ga
            cases ga
        exact ⟨ga, g2, by rw [M2s a af ac]; exact g3⟩
    · by_cases haf : a = f
      · subst haf
        rw [M2f] at e
        cases e
        exact ⟨fF, _, hf, (show RepO X.K F1 (PinO _ _) (.raw (PinO _ _)) from rfl)⟩
      by_cases hac : a = c'
      · subst hac
        rw [M2c] at e
        cases e
        refine ⟨?_, _, hc, (show RepO X.K F1 (CodeO _ _) (.raw (CodeO _ _)) from rfl)⟩
        cases ef : F1 a with
        | none => rfl
        | some o => exact (cF o ef).elim
      · rw [M2s a haf hac] at e
        obtain ⟨g1, o, g2, g3⟩ := st1.ow a m e
        exact ⟨g1, o, kp _ _ (fun z => by subst z; rw [hP1.2.2] at e; cases e) g2, g3⟩
  refine Calls.spliced_cons (thn (h3.run pins sa σ Ha (fun v H3 => ∃ F3 d3, Ext F1 F3 ∧ Stt X.K F3 R H3 M2 ∧ Rep X.K F3 v d3 ∧ ∀ d Mf, MoreRaw M2 Mf → HasFn (ctOf X F0) (kb + 1) Mf d (spL tb ps.length ws) → sp [d1, d, d3] Mf (fun r M4 => M4 = Mf ∧ Q' r M1) E0D) Ia
    ⟨F1, R, τ, M2, _, e0.trans ex1, sta, sl.ext ex1, h2 M2 more1, fun v H2 F2 d M3 e2 st2 r2 ⟨q1, q2⟩ => by subst q1; exact ⟨F2, d, e2, st2, r2, q2⟩⟩) fun u3 s3 ⟨v3, H3, I3, rl3, F3, d3, ex3, st3, rp3, hsp⟩ => ?_)
  refine Calls.spliced_nil ⟨I3.kIn, ?_⟩
  -- the captured cells
  obtain ⟨wv, hwv, rw_⟩ := caps_get (sl.ext (ex1.trans ex3)) hws
  have cp : Caps X (cloFrom X.env.cells scope.names []) fr js := Caps.made I3.ok nfr (ndef_fr hsc) hjs
  have CA := cells_of I3 cp
  rw [hwv] at CA
  let cl := cloFrom X.env.cells scope.names []
  let cs : List Addr := cl.map (·.2)
  let ob : Addr → Obj := fun b => (s3.heap.get? b).getD default
  have clm : ∀ y b, (y, b) ∈ cl → X.env.cells.lookup y = some b := fun y b hm => by
    rcases cloFrom_mem hm with z | ⟨z1, z2⟩
    · cases z
    · obtain ⟨c1, hc1⟩ := hfree _ z1 rfl
      have hc1 : X.env.cells.lookup y = some c1 := hc1
      rw [z2, hc1]; rfl
  have csm : ∀ b ∈ cs, ∃ y, X.env.cells.lookup y = some b := fun b hb => by
    obtain ⟨⟨y, b'⟩, hm, rfl⟩ := List.mem_map.mp hb
    exact ⟨y, clm y b' hm⟩
  have cn3 : ∀ b ∈ cs, H3 b = none := fun b hb => by
    obtain ⟨y, hy⟩ := csm b hb
    exact I3.freeC y b hy
  have cob : ∀ b ∈ cs, s3.heap.get? b = some (ob b) ∧ ∃ v, (ob b).data = .cell v := fun b hb => by
    obtain ⟨y, hy⟩ := csm b hb
    obtain ⟨v, o, ho, hd⟩ := I3.cell y b hy
    have : ob b = o := by show (s3.heap.get? b).getD default = o; rw [ho]; rfl
    rw [this]
    exact ⟨ho, v, hd⟩
  have cab : ∀ b ∈ cs, X.s_0.heap.objs.size ≤ b := fun b hb => by
    obtain ⟨y, hy⟩ := csm b hb
    exact I3.ok.cab y b (hfn y) hy
  have cfr : ∀ b ∈ cs, b ∉ frs X.stack := fun b hb z => by
    obtain ⟨y, hy⟩ := csm b hb
    rcases List.mem_cons.mp (I3.stkSub b z) with e | e
    · exact I3.cne y b hy e
    · obtain ⟨_, o, ho, _⟩ := I3.ok.funs.mem e
      exact absurd (Nat.lt_of_lt_of_le (Heap.lt_size ho) (cab b hb)) (Nat.lt_irrefl _)
  let H' : Hp := fun b => if b ∈ cs then some (PinO b (ob b)) else H3 b
  let Mf : Mp := fun b => if b ∈ cs then some (.raw (PinO b (ob b))) else M2 b
  have H'n : ∀ b, b ∈ cs → H' b = some (PinO b (ob b)) := fun b h => if_pos h
  have H's : ∀ b, b ∉ cs → H' b = H3 b := fun b h => if_neg h
  have Mfn : ∀ b, b ∈ cs → Mf b = some (.raw (PinO b (ob b))) := fun b h => if_pos h
  have Mfs : ∀ b, b ∉ cs → Mf b = M2 b := fun b h => if_neg h
  have inH : ∀ b u, H3 b = some u → b ∉ cs ∧ H' b = some u := fun b u e => by
    have : b ∉ cs := fun z => by rw [cn3 b z] at e; cases e
    exact ⟨this, by rw [H's b this]; exact e⟩
  have M2n : ∀ b, b ∈ cs → M2 b = none := fun b hb => by
    cases e : M2 b with
    | none => rfl
    | some m => obtain ⟨_, o, ho, _⟩ := st3.ow _ _ e; rw [cn3 b hb] at ho; cases ho
  have F3n : ∀ b, b ∈ cs → F3 b = none := fun b hb => by
    cases e : F3 b with
    | none => rfl
    | some o => have := st3.fz _ _ e; rw [cn3 b hb] at this; cases this
  have more2 : MoreRaw M2 Mf := ⟨fun a m e => by
    have : a ∉ cs := fun z => by rw [M2n a z] at e; cases e
    rw [Mfs a this]; exact e, fun a m e => by
    by_cases ha : a ∈ cs
    · rw [Mfn a ha] at e; cases e; exact .inr ⟨_, rfl⟩
    · rw [Mfs a ha] at e; exact .inl e⟩
  have env3 := I3.env0
  have hok' : HOk X.prog X.w H' s3.heap := fun b u e => by
    by_cases hb : b ∈ cs
    · rw [H'n b hb] at e; cases e; exact pinO_ok (cob b hb).1
    · rw [H's b hb] at e
      exact (I3.hok b u e).stay (fun c v _ z => z) (fun c z => (inH c _ z).2) fun c xs z => (inH c _ z).2
  have env' : Env0 X.prog X.w X.K X.mg X.base X.A X.stack s3 H' := ⟨env3.frames, env3.mod, fun b o e => ⟨(env3.bs b o e).1, by
    have : b ∉ cs := fun z => absurd (Nat.lt_of_lt_of_le (Heap.lt_size e) (Nat.le_trans I3.ok.bsz (cab b z))) (Nat.lt_irrefl _)
    rw [H's b this]; exact (env3.bs b o e).2⟩, env3.bsz, env3.funs, fun b hb => by
    have : b ∉ cs := fun z => cfr b z hb
    rw [H's b this]; exact env3.frf b hb, hok', env3.bare⟩
  have st' : Stt X.K F3 R H' Mf := by
    refine ⟨fun a o e => (inH _ _ (st3.fz a o e)).2, fun a o e => ?_, fun a m e => ?_, st3.nf, st3.nr⟩
    · obtain ⟨g1, g2, g3⟩ := st3.rs a o e
      have ha : a ∉ cs := fun z => g1.there (cn3 a z)
      exact ⟨g1.imp (fun u eu => (inH _ _ eu).2) fun c q ec => (inH _ _ ec).2, g2, by rw [Mfs a ha]; exact g3⟩
    · by_cases ha : a ∈ cs
      · rw [Mfn a ha] at e
        cases e
        exact ⟨F3n a ha, _, H'n a ha, (show RepO X.K F3 (PinO _ _) (.raw (PinO _ _)) from rfl)⟩
      · rw [Mfs a ha] at e
        obtain ⟨g1, o, g2, g3⟩ := st3.ow a m e
        exact ⟨g1, o, (inH _ _ g2).2, g3⟩
  have Mff : Mf f = some (.raw (PinO f (PySem.W.kla_obj "<lambda>" q params body scope cl pm c' ctv))) := more2.1 _ _ M2f
  have Mfc : Mf c' = some (.raw (CodeO c' q)) := more2.1 _ _ M2c
  have has : HasFn (ctOf X F0) (kb + 1) Mf (.fn f F3) (spL tb ps.length ws) := by
    refine ⟨(f, PinO f (PySem.W.kla_obj "<lambda>" q params body scope cl pm c' ctv)) :: (c', CodeO c' q) :: cs.map fun c => (c, PinO c (ob c)), ⟨_, _, _, _, .inl List.mem_cons_self⟩, fun p hp => ?_, ?_⟩
    · rcases List.mem_cons.mp hp with rfl | hp
      · exact Mff
      rcases List.mem_cons.mp hp with rfl | hp
      · exact Mfc
      · obtain ⟨b, hb, rfl⟩ := List.mem_map.mp hp
        exact Mfn b hb
    · refine lam_sem (C := ctOf X F0) (wv := wv) S hN (fun us hl => hbind _ _ _ _ us hl) (fun A outer s H F0' R0' hr => hbody f c' cl A outer s H F0' R0' hr) (fun y b e => List.mem_map.mpr ⟨(y, b), PySem.mem_of_lookup e, rfl⟩) (fun b hb => (cob b hb).2) CA.inj (fun i y e => ?_) ?_ rw_
      · obtain ⟨b, hb1, hb2⟩ := CA.has i y e
        refine ⟨b, hb1, fun v ev => ?_⟩
        obtain ⟨u, ru, o, ho, hd⟩ := hb2 v (by rw [List.getElem?_map, ev]; rfl)
        refine ⟨u, ru, ?_⟩
        have : ob b = o := by show (s3.heap.get? b).getD default = o; rw [ho]; rfl
        rw [this]; exact hd
      · have := CA.len
        rwa [List.length_map] at this
  have hcall := hsp (.fn f F3) Mf more2 has
  have rl : Vals [v1, .ref f, v3] [u1, .ref f, u3] := .cons rl1 (.cons rfl (.cons rl3 .nil))
  have rp : RepAll X.K F3 [v1, .ref f, v3] [d1, .fn f F3, d3] := .cons (rp1.ext ex3) (.cons (.fn Ext.refl) (.cons rp3 .nil))
  have spv : liSp X.K F0.T sp [v1, .ref f, v3] H' (fun v H4 => ∃ F4 r, Ext F3 F4 ∧ Stt X.K F4 R H4 Mf ∧ Rep X.K F4 v r ∧ Q' r M1) E0 :=
    ⟨F3, R, _, Mf, _, _, st', e0.t, rp, hcall, fun v H4 F4 r M4 e4 st4 r4 ⟨z1, z2⟩ => by subst z1; exact ⟨F4, r, e4, st4, r4, z2⟩, fun _ _ _ _ _ _ _ _ _ z => z⟩
  have hl3 : [u1, Value.ref f, u3].length = psg.length := by
    rw [← rl.length]; exact Fg.len _ _ _ _ spv
  have hbind3 := hb s3 [u1, .ref f, u3] I3.kIn (by rw [List.append_nil]; exact hl3)
  rw [List.append_nil] at hbind3
  refine wpAny_call (codeAny_mono (Fg.run X.A X.stack s3 H' ⟨[u1, .ref f, u3], []⟩ _ _ _ _ hr env' hbind3 rl spv) fun r s' hq => ?_)
  cases r with
  | error e => exact False.elim hq
  | ok fl =>
    cases fl with
    | next => exact False.elim hq
    | brk => exact False.elim hq
    | cont => exact False.elim hq
    | ret u =>
      obtain ⟨v, H4, os4, bare4, un, hok4, rv, F4, r, ex4, st4, rp4, q4⟩ := hq
      -- the cells are the frame's own again
      have obk : ∀ b ∈ cs, H4 b = some (PinO b (ob b)) ∧ s'.heap.get? b = some (ob b) := fun b hb => by
        obtain ⟨_, o, ho, ro⟩ := st4.ow _ _ (Mfn b hb)
        have : o = PinO b (ob b) := ro.raw
        subst this
        exact ⟨ho, pinO_at hok4 ho⟩
      let H5 : Hp := fun b => if b ∈ cs then none else H4 b
      have H5n : ∀ b, b ∈ cs → H5 b = none := fun b h => if_pos h
      have H5s : ∀ b, b ∉ cs → H5 b = H4 b := fun b h => if_neg h
      have keepNX : ∀ b u, H4 b = some u → NX u → H5 b = some u := fun b u e n => by
        have : b ∉ cs := fun z => by rw [(obk b z).1] at e; cases e; exact n
        rw [H5s b this]; exact e
      have un5 : Un (frs X.stack) [] H3 H5 s3.heap s'.heap := by
        refine ⟨fun b o e n hf hx => ?_, fun b o e n hf hx => ?_, fun b o e n hx => ?_, fun b o e hx => un.there b o e hx, fun b xs e => keepNX _ _ (un.tups b xs (inH _ _ e).2) trivial, fun b o u e => keepNX _ _ (un.frzs b o u (inH _ _ e).2) trivial, fun b ps e => ?_⟩
        · by_cases hb : b ∈ cs
          · rw [(cob b hb).1] at e; cases e; exact (obk b hb).2
          · exact un.keep b o e (by rw [H's b hb]; exact n) hf hx
        · by_cases hb : b ∈ cs
          · exact absurd hf (cfr b hb)
          · exact un.slot b o e (by rw [H's b hb]; exact n) hf hx
        · by_cases hb : b ∈ cs
          · exact H5n b hb
          · rw [H5s b hb]; exact un.free b o e (by rw [H's b hb]; exact n) hx
        · obtain ⟨more, z⟩ := un.tbls b ps (inH _ _ e).2
          exact ⟨more, keepNX _ _ z trivial⟩
      have hok5 : HOk X.prog X.w H5 s'.heap := fun b u e => by
        by_cases hb : b ∈ cs
        · rw [H5n b hb] at e; cases e
        · rw [H5s b hb] at e
          exact (hok4 b u e).stay (fun c v _ z => z) (fun c z => keepNX _ _ z trivial) fun c xs z => keepNX _ _ z trivial
      have st5 : Stt X.K F4 R H5 M1 := by
        refine ⟨fun a o e => keepNX _ _ (st4.fz a o e) (st4.nf a o e), fun a o e => ?_, fun a m e => ?_, st4.nf, st4.nr⟩
        · obtain ⟨g1, g2, g3⟩ := st4.rs a o e
          have ha : a ∉ cs := fun z => by rw [Mfn a z] at g3; cases g3
          refine ⟨g1.imp (fun u eu => by rw [H5s a ha]; exact eu) (fun b q' eb => ?_), g2, ?_⟩
          · by_cases hb : b ∈ cs
            · obtain ⟨v', hv'⟩ := (cob b hb).2
              exact (cell_code hok4 eb (obk b hb).2 hv').elim
            · rw [H5s b hb]; exact eb
          · cases em : M1 a with
            | none => rfl
            | some m =>
              have := (more1.trans more2).1 a m em
              rw [g3] at this; cases this
        · obtain ⟨g1, o, g2, g3⟩ := st4.ow a m ((more1.trans more2).1 a m e)
          have ha : a ∉ cs := fun z => by
            have := M2n a z
            rw [more1.1 a m e] at this; cases this
          exact ⟨g1, o, by rw [H5s a ha]; exact g2, g3⟩
      exact I3.after ⟨v, H5, os4, bare4, un5, hok5, rv, kq v H5 F4 r M1 (ex1.trans (ex3.trans ex4)) st5 rp4 q4⟩
end
end DL

namespace DL
open PySem PySem.Spec PyProof.Rows L2 LamX NdefX
/-! ### a def whose code object is known -/
structure FunC (K : PySem.W.Frag) (x qual : Str) (st : Stmt) (f : Addr) (fd : FuncData) (c : Addr) : Prop where
  ex : ∃ (oc : Value) (od : Option Addr) (kV doc pm : Value) (an : Option Addr) (ct : Value) (osl : Array (Option Value)),
    fd = PySem.W.fnOf x qual (defArgs st) (defBody st) (defScope st) .none kV doc pm an (.ref c) ct ∧ K.lookup f = some ⟨oc, od, .func fd, osl⟩ ∧ PySem.W.codeIn K (.ref c) qual = true
  kp : PySem.W.keepIn K (.ref f) = true
section
variable {P : Program} {w : World} {K : PySem.W.Frag} {mg : Str → Option Value} {base : Heap}
theorem FunC.to {x qual : Str} {st : Stmt} {f c : Addr} {fd : FuncData} (F : FunC K x qual st f fd c) : Fun K x qual st f fd := by
  obtain ⟨oc, od, kV, doc, pm, an, ct, osl, h1, h2, h3⟩ := F.ex
  exact ⟨⟨oc, od, kV, doc, pm, an, .ref c, ct, osl, h1, h2, h3⟩, F.kp⟩
theorem funC_mk {x qual : Str} {st : Stmt} {f c : Addr} {oc : Value} {od an : Option Addr} {osl : Array (Option Value)} {kV doc pm ct : Value} (l : K.lookup f = some ⟨oc, od, .func (PySem.W.fnOf x qual (defArgs st) (defBody st) (defScope st) .none kV doc pm an (.ref c) ct), osl⟩)
    (cc : PySem.W.codeIn K (.ref c) qual = true) (k : PySem.W.keepIn K (.ref f) = true) : FunC K x qual st f (PySem.W.fnOf x qual (defArgs st) (defBody st) (defScope st) .none kV doc pm an (.ref c) ct) c := ⟨⟨oc, od, kV, doc, pm, an, ct, osl, rfl, l, cc⟩, k⟩
theorem FunC.okD {x qual : Str} {st : Stmt} {f c : Addr} {fd : FuncData} {N ps : List Str} {k : Nat} {sp : SpD} {T : List (Addr × Str)} (F : FunC K x qual st f fd c) (S : FnScope N ps (defScope st)) (len : ∀ ds M Q E, sp ds M Q E → ds.length = ps.length) {t : DS}
    (hbody : ∀ (A : Around) (outer : List Env) (s : Shared) (H : Hp) (E : XK) (F0 R0 : Hp), Room k (A.deeper (envOfC qual (defScope st) s.heap.objs.size f (.ref c))) →
      PSs (cxOf CX0 P w K mg base N qual (defScope st) f (.ref c) A outer s H E).nox (defBody st) (liS K ⟨F0, R0, T⟩ t))
    (hq : Rds t N sp) : FnOk P w K mg base CX0 (k + 1) f fd ps (liSp K T sp) := by
  obtain ⟨oc, od, kV, doc, pm, an, ct, osl, rfl, lk, hcd⟩ := F.ex
  refine fn_of lk hcd S (fun vs H Q E ⟨F, R, ds, M, Q', E', st, _, ra, h, _, _⟩ => by rw [ra.len]; exact len _ _ _ _ h) fun A outer s H vs Q E hr ⟨F, R, ds, M, Q', E', st, tr, ra, h, kQ, kE⟩ => ?_
  refine ⟨_, (hbody A outer s H E F R hr).nox, F, R, startD N ds, M, _, ⟨Ext.refl, Ext.refl, tr⟩, st, slots_start ra, hq ds M Q' E' h, ?_⟩
  refine ⟨fun σ2 H2 F2 τ2 M2 e2 st2 sl2 ⟨M3, h3, q3⟩ => kQ _ _ _ _ _ e2 (st2.less h3) .non q3, fun v H2 F2 d M2 e2 st2 r2 ⟨M3, h3, q3⟩ => kQ _ _ _ _ _ e2 (st2.less h3) r2 q3, fun _ _ _ _ _ _ _ _ z => z, fun _ _ _ _ _ _ _ _ z => z⟩
end
/-! ### what is never reached -/
def dNever : DS := fun _ _ _ => False
theorem sd_never {X : Cx} {F0 : Bs} {st : Stmt} : PS X st (liS X.K F0 dNever) := ⟨fun pins s σ H D I ⟨_, _, _, _, _, _, _, _, q, _⟩ => q.elim⟩
/-! ### max(xs, default=d) -/
theorem foldl_max : ∀ (ns : List Int) (n : Int), ns.foldl max n ∈ n :: ns ∧ ∀ y ∈ n :: ns, y ≤ ns.foldl max n
  | [], n => ⟨List.mem_cons_self, fun y hy => by rw [List.mem_singleton.mp hy]; exact Int.le_refl _⟩
  | m :: ns, n => by
    obtain ⟨h1, h2⟩ := foldl_max ns (max n m)
    show ns.foldl max (max n m) ∈ _ ∧ ∀ y ∈ _, y ≤ ns.foldl max (max n m)
    have hm : max n m ≤ ns.foldl max (max n m) := h2 _ List.mem_cons_self
    refine ⟨?_, fun y hy => ?_⟩
    · rcases List.mem_cons.mp h1 with z | z
      · rw [z]
        by_cases h : n ≤ m
        · rw [Int.max_eq_right h]; exact List.mem_cons_of_mem _ List.mem_cons_self
        · rw [Int.max_eq_left (by omega)]; exact List.mem_cons_self
      · exact List.mem_cons_of_mem _ (List.mem_cons_of_mem _ z)
    · rcases List.mem_cons.mp hy with rfl | hy
      · omega
      rcases List.mem_cons.mp hy with rfl | hy
      · omega
      · exact h2 y (List.mem_cons_of_mem _ hy)
def rMaxDf (K : PySem.W.Frag) : List V → List V → Hp → VK → Prop := fun vs zs H Q => ∃ (a : Addr) (ns : List Int) (d : V), vs = [V.ref a] ∧ zs = [d] ∧ SqL K H a (ns.map V.int) ∧ (ns = [] → Q d H) ∧ ∀ m, m ∈ ns → (∀ y, y ∈ ns → y ≤ m) → Q (.int m) H
theorem reads_ints {h : Heap} : ∀ {its : List Value} {ns : List Int}, Vals (ns.map V.int) its → ∃ as, ReadsAll h its (ns.map PyData.int) as
  | _, [], .nil => ⟨[], .nil⟩
  | _, n :: ns, .cons r t => by
    obtain ⟨tk, rfl⟩ := r
    obtain ⟨as, h2⟩ := reads_ints (ns := ns) t
    exact ⟨[] ++ as, .cons (.int n tk) h2⟩
theorem depth_ints : ∀ ns : List Int, PyData.depthAll (ns.map PyData.int) ≤ 1
  | [] => by simp [PyData.depthAll]
  | n :: ns => by
    have := depth_ints ns
    simp [PyData.depthAll, PyData.depth]; omega
section
variable {X : Cx}
theorem cr_maxDf (hc : X.calm = true) (hu : X.A.units + 64 < cLine) : CallRK X (.builtin "max") [Str.ofString "default"] (rMaxDf X.K) := by
  intro pins s σ H vs zs us ws Q I r rz h
  obtain ⟨a, ns, d, rfl, rfl, hs, q0, q⟩ := h
  obtain rfl := Vals.ref1 r
  obtain ⟨w1, rfl, e1⟩ := vals1 rz
  obtain ⟨its, rv, hl, _⟩ := I.list hs
  obtain ⟨as, ra⟩ := reads_ints (h := s.heap) rv
  have ha : PySem.W.AlikeAll (ns.map PyData.int) := ⟨fun x hx y hy => by
    obtain ⟨i, _, rfl⟩ := List.mem_map.mp hx
    obtain ⟨j, _, rfl⟩ := List.mem_map.mp hy
    rfl, fun x hx z => by
    obtain ⟨i, _, rfl⟩ := List.mem_map.mp hx
    cases z⟩
  refine PySem.W.max_list_default (as := as) (I.ok.hd hc) hl.isList (by simpa using ra) ha (by have := depth_ints ns; omega) (fun e h' tk hk => ?_) fun y ys i v h' tk bs e hv hr hk => ?_
  · have : ns = [] := by cases ns <;> first | rfl | cases e
    exact ⟨d, H, I.kept hk, e1, q0 this⟩
  · cases ns with
    | nil => cases e
    | cons n ns =>
      cases e
      rw [PySem.W.maxD_ints] at hr
      cases hr
      obtain ⟨h1, h2⟩ := foldl_max ns n
      exact ⟨.int _, H, I.kept hk, ⟨_, rfl⟩, q _ h1 h2⟩
variable {F0 : Bs} {p pos kpos : Pos} {e d : Expr} {te td : DE}
def dMaxDf (te td : DE) : DE := fun τ M Q => te τ M fun x M1 => td τ M1 fun y M2 => match lsOf M2 x with
  | some xs => match intsOf xs with
    | some ns => (ns = [] → Q y M2) ∧ ∀ m, m ∈ ns → (∀ z, z ∈ ns → z ≤ m) → Q (.int m) M2
    | none => False
  | none => False
theorem pd_maxDf (hc : X.calm = true) (hu : X.A.units + 64 < cLine) (hg : Gl X "max") (hm : X.mg "max" = none) (hv : bootBuiltins "max" = some (.builtin "max")) (ha : PE X e (liE X.K F0 te)) (hd : PE X d (liE X.K F0 td))
    (hs : starEach [e] X.env = [(false, eval e X.env)] := by rfl) :
    PE X (.Call (.Name "max" p) [e] [⟨some "default", d, kpos⟩] pos) (liE X.K F0 (dMaxDf te td)) := by
  refine peImp (pe_callBK (cr_maxDf hc hu) hg hm hv (pa_cons ha pa_nil hs) (pk_cons hd pk_nil) (by decide) (by decide) (by rw [hs]; rfl) (by rw [hs]; rfl) rfl rfl rfl) fun σ H Q ⟨F, R, τ, M, Q', e0, st, sl, q, k⟩ => ?_
  refine ⟨F, R, τ, M, _, e0, st, sl, q, fun v H1 F1 x M1 e1 st1 r1 q1 => ?_⟩
  refine ⟨F1, R, τ, M1, _, e0.trans e1, st1, sl.ext e1, q1, fun v2 H2 F2 y M2 e2 st2 r2 q2 => ?_⟩
  split at q2 <;> try exact q2.elim
  rename_i xs hx
  split at q2 <;> try exact q2.elim
  rename_i ns hn
  obtain ⟨a, vs, rfl, g1, ra⟩ := ls_get st2 (r1.ext e2) hx
  obtain rfl := ints_eq hn
  obtain rfl := ra.ints
  exact ⟨a, ns, v2, rfl, rfl, g1, fun z => k _ _ _ _ _ (e1.trans e2) st2 r2 (q2.1 z), fun m h1 h2 => k _ _ _ _ _ (e1.trans e2) st2 (.int m) (q2.2 m h1 h2)⟩
end
def kMaxDf2 (x : D) (Q : QD) : QD := fun y M2 => match lsOf M2 x with
  | some xs => match intsOf xs with
    | some ns => (ns = [] → Q y M2) ∧ ∀ m, m ∈ ns → (∀ z, z ∈ ns → z ≤ m) → Q (.int m) M2
    | none => False
  | none => False
def kMaxDf1 (td : DE) (τ : SD) (Q : QD) : QD := fun x M1 => td τ M1 (kMaxDf2 x Q)
theorem s_maxDf {te td : DE} {τ : SD} {M : Mp} {Q : QD} (h : te τ M (kMaxDf1 td τ Q)) : dMaxDf te td τ M Q := h
theorem s_kmaxDf1 {td : DE} {τ : SD} {M : Mp} {Q : QD} {x : D} (h : td τ M (kMaxDf2 x Q)) : kMaxDf1 td τ Q x M := h
theorem s_kmaxDf2 {M : Mp} {Q : QD} {x y : D} {ds : List D} {ns : List Int} (e : lsOf M x = some ds) (e2 : intsOf ds = some ns) (h0 : ns = [] → Q y M) (h : ∀ m, m ∈ ns → (∀ z, z ∈ ns → z ≤ m) → Q (.int m) M) : kMaxDf2 x Q y M := by
  unfold kMaxDf2
  simp only [e, e2]
  exact ⟨h0, h⟩
/-! steps -/
section
variable {τ : SD} {M : Mp} {Q : QD} {C : Ct} {k i : Nat} {t : DA} {d : D} {sp : SpD}
def kCallV (C : Ct) (k : Nat) (d : D) (sp : SpD) (Q : QD) : List D → Mp → Prop := fun ds M1 => HasFn C k M1 d sp ∧ sp ds M1 Q E0D
theorem s_callV (sp : SpD) (e : τ[i]? = some (some d)) (h : HasFn C k M d sp) (q : t τ M (kCallV C k d sp Q)) : dCallV C k i t τ M Q := ⟨d, sp, e, h, q⟩
theorem s_kcallV {ds : List D} (h : HasFn C k M d sp) (q : sp ds M Q E0D) : kCallV C k d sp Q ds M := ⟨h, q⟩
variable {js : List Nat} {n : Nat} {tb t1 t3 : DE}
def kCallL (C : Ct) (k : Nat) (js : List Nat) (n : Nat) (tb : DE) (sp : SpD) (t3 : DE) (τ : SD) (Q : QD) : QD := fun d1 M1 => ∃ ws : List D, js.map (fun j => τ[j]?) = ws.map (fun d => some (some d)) ∧
  ∀ M2, MoreRaw M1 M2 → t3 τ M2 fun d3 M3 => M3 = M2 ∧ ∀ d Mf, MoreRaw M2 Mf → HasFn C k Mf d (spL tb n ws) → sp [d1, d, d3] Mf (fun r M4 => M4 = Mf ∧ Q r M1) E0D
theorem s_callL (h : t1 τ M (kCallL C k js n tb sp t3 τ Q)) : dCallL C k js n tb sp t1 t3 τ M Q := h
def kCallL3 (C : Ct) (k n : Nat) (tb : DE) (sp : SpD) (ws : List D) (d1 : D) (M1 M2 : Mp) (Q : QD) : QD := fun d3 M3 => M3 = M2 ∧ ∀ d Mf, MoreRaw M2 Mf → HasFn C k Mf d (spL tb n ws) → sp [d1, d, d3] Mf (fun r M4 => M4 = Mf ∧ Q r M1) E0D
theorem s_kcallL (ws : List D) (e : js.map (fun j => τ[j]?) = ws.map (fun d => some (some d))) (h : ∀ M2, MoreRaw M M2 → t3 τ M2 (kCallL3 C k n tb sp ws d M M2 Q)) : kCallL C k js n tb sp t3 τ Q d M := ⟨ws, e, h⟩
theorem s_kcallL3 {ws : List D} {d1 d3 : D} {M1 : Mp} (h : ∀ d Mf, MoreRaw M Mf → HasFn C k Mf d (spL tb n ws) → sp [d1, d, d3] Mf (fun r M4 => M4 = Mf ∧ Q r M1) E0D) : kCallL3 C k n tb sp ws d1 M1 M Q d3 M := ⟨rfl, h⟩
end
/-- over data that nobody changes, each item gives one that is related to it, and M stays -/
theorem s_klcRel {α β : Type} {plain : Bool} {is vs : List Nat} {fin : List D → Mp → QD → Prop} {te : DE} {τ : SD} {M : Mp} {Q : QD} {x : D} {xs : List α} (enc : α → D) (enc' : β → D) (Rl : α → β → Prop) (hx : ∀ M, sqOf M x = some (xs.map enc)) (hl : xs.length ≤ sizeLine)
    (hs : ∀ a ∈ xs, ∃ τ2, bindD plain is (enc a) (wipeD τ vs) = some τ2 ∧ ∀ Q : QD, (∀ b, Rl a b → Q (enc' b) M) → te τ2 M Q)
    (hd : ∀ l : List β, l.length = xs.length → (∀ (i : Nat) (a : α) (b : β), xs[i]? = some a → l[i]? = some b → Rl a b) → fin (l.map enc') M Q) : kLc fin plain is vs dYes te τ Q (itSeq x (xs.map enc)) M := by
  refine ⟨fun i acc M' => M' = M ∧ ∃ l : List β, acc = l.map enc' ∧ l.length = i ∧ ∀ (j : Nat) (a : α) (b : β), xs[j]? = some a → l[j]? = some b → Rl a b, ⟨rfl, [], rfl, rfl, fun j a b _ e => by simp at e⟩, fun i acc M' hi p => hx M', fun i acc M' hi p => ?_, fun acc M' p => ?_⟩
  · obtain ⟨rfl, l, rfl, hll, hr⟩ := p
    have hi : i < (xs.map enc).length := hi
    rw [List.length_map] at hi
    have e := List.getElem?_eq_getElem hi
    obtain ⟨τ2, e2, h2⟩ := hs _ (List.getElem_mem hi)
    have e3 : (itSeq x (xs.map enc)).at' i = enc xs[i] := by
      show (xs.map enc).getD i .non = _
      refine getD_of ?_
      rw [List.getElem?_map, e]; rfl
    rw [e3, e2]
    show te τ2 M' _
    refine h2 _ fun b hb => ⟨?_, rfl, l ++ [b], ?_, ?_, ?_⟩
    · rw [List.length_map]; omega
    · rw [List.map_append]; rfl
    · rw [List.length_append, hll]; rfl
    · intro j a c ea ec
      by_cases hj : j < i
      · rw [List.getElem?_append_left (by omega)] at ec
        exact hr j a c ea ec
      · rw [List.getElem?_append_right (by omega)] at ec
        have hj2 : j = i := by
          by_cases z : j - l.length = 0
          · omega
          · rw [show j - l.length = (j - l.length - 1) + 1 by omega] at ec
            simp at ec
        subst hj2
        rw [e] at ea
        rw [show j - l.length = 0 by omega] at ec
        cases ea
        simp at ec
        subst ec
        exact hb
  · obtain ⟨rfl, l, rfl, hll, hr⟩ := p
    refine hd l ?_ hr
    rw [hll]
    show (xs.map enc).length = _
    rw [List.length_map]
end DL

namespace DL
open PySem PySem.Spec PyProof.Rows L2 LamX NdefX
/-! ### a def of the module as a value -/
def dGFn (C : Ct) (k : Nat) (sp : SpD) : DE := fun _ M Q => ∀ d, (∀ M, HasFn C k M d sp) → Q d M
section
variable {X : Cx} {F0 : Bs}
theorem fun_lookup {K : PySem.W.Frag} {x qual : Str} {st : Stmt} {f : Addr} {fd : FuncData} (F : Fun K x qual st f fd) : ∃ oc od sl, K.lookup f = some ⟨oc, od, .func fd, sl⟩ := by
  obtain ⟨oc, od, kV, doc, pm, an, cdv, ct, osl, rfl, lk, hcd⟩ := F.ex
  exact ⟨oc, od, osl, lk⟩
theorem pd_gfn {k : Nat} {f : Addr} {fd : FuncData} {ps : List Str} {sp : SpD} {x : Str} {pos : Pos} {st : Stmt} {qx : Str} (F : FnOk X.prog X.w X.K X.mg X.base CX0 k f fd ps (liSp X.K F0.T sp)) (hl : ∀ ds M Q E, sp ds M Q E → ds.length = ps.length) (hF : Fun X.K x qx st f fd) (hg : Gl X x) (hm : X.mg x = some (.ref f)) (hb : Binds X.K fd ps [])
    (hdb : (x == ("__debug__" : Str)) = false := by decide) : PE X (.Name x pos) (liE X.K F0 (dGFn (ctOf X F0) k sp)) := by
  refine ⟨fun pins s σ H Q I ⟨F1, R, τ, M, Q', e0, st, sl, q, kq⟩ => ?_⟩
  refine ld_glob I hg hm ?_ hdb
  refine ⟨.ref f, H, I, rfl, kq _ _ F1 (.fn f fun _ => none) M Ext.refl st (.fn fun a o e => by cases e) (q _ fun M2 => ?_)⟩
  obtain ⟨oc, od, osl, lk⟩ := fun_lookup hF
  refine ⟨[], ⟨oc, od, fd, osl, .inr lk⟩, fun p hp => (nomatch hp), ?_⟩
  intro A outer s2 H2 F2 R2 M3 ds us vs Q2' Q2 hr en st2 tr eG hd ra r hsp kq2
  have hl2 : us.length = ps.length := by rw [← r.length, ra.len]; exact hl _ _ _ _ hsp
  have KX : X.K.In s2.heap := en.mod.kin.keeps fun b o e => (en.bs b o e).1
  have hb2 := hb s2 us KX (by rw [List.append_nil]; exact hl2)
  rw [List.append_nil] at hb2
  exact codeAny_mono (F.run A outer s2 H2 ⟨us, []⟩ us vs Q2 (fun _ _ _ => False) hr en hb2 r ⟨F2, R2, ds, M3, Q2', E0D, st2, tr, ra, hsp, kq2, fun _ _ _ _ _ _ _ _ _ z => z⟩) fun r s' h => h
end
theorem s_gfn {C : Ct} {k : Nat} {sp : SpD} {τ : SD} {M : Mp} {Q : QD} (h : ∀ d, (∀ M, HasFn C k M d sp) → Q d M) : dGFn C k sp τ M Q := h
theorem HasFn.lvl {C : Ct} {j k : Nat} {M : Mp} {d : D} {sp : SpD} (h : HasFn C j M d sp) (e : j ≤ k) : HasFn C k M d sp := by
  cases d with
  | fn f G =>
    obtain ⟨deps, h1, h2, h3⟩ := h
    exact ⟨deps, h1, h2, fun A outer s H F R M ds us vs Q' Q a => h3 A outer s H F R M ds us vs Q' Q (a.mono e)⟩
  | _ => exact h
/-! ### a loop over a list that stays -/
section
variable {nx bk ct : SD → Mp → Prop} {rt : QD} {τ : SD} {M : Mp}
theorem s_kforI {tb : DS} {is : List Nat} {plain : Bool} {ds : List D} {x : D} (Pv : Nat → SD → Mp → Prop) (hx : ∀ i τ M, i ≤ ds.length → Pv i τ M → sqOf M x = some ds) (h0 : Pv 0 τ M)
    (hs : ∀ i d τ M, ds[i]? = some d → Pv i τ M → gD plain is d τ M fun τ2 M2 => tb ⟨Pv (i + 1), rt, nx, Pv (i + 1)⟩ τ2 M2) (hd : ∀ τ M, Pv ds.length τ M → nx τ M) : kFor (gD plain is) tb ⟨nx, rt, bk, ct⟩ τ (itSeq x ds) M :=
  ⟨Pv, h0, fun i τ M hi p => hx i τ M hi p, fun i τ M hi p => by
    have hi : i < ds.length := hi
    have e := List.getElem?_eq_getElem hi
    show gD plain is (ds.getD i .non) τ M _
    rw [getD_of e]
    exact hs i _ τ M e p, hd⟩
end
end DL

namespace DL
open PySem PySem.Spec PyProof.Rows L2 LamX NdefX
/-! ### an expression that is never reached -/
def dNeverE : DE := fun _ _ _ => False
theorem pd_never {X : Cx} {F0 : Bs} {e : Expr} : PE X e (liE X.K F0 dNeverE) := ⟨fun pins s σ H Q I ⟨_, _, _, _, _, _, _, _, q, _⟩ => q.elim⟩
/-- over data that nobody changes, each item gives one that is related to it, and M stays -/
theorem s_klcRelM {α β : Type} {plain : Bool} {is vs : List Nat} {fin : List D → Mp → QD → Prop} {te : DE} {τ : SD} {M : Mp} {Q : QD} {x : D} {xs : List α} (enc : α → D) (enc' : β → D) (Rl : α → β → Prop) (hx : sqOf M x = some (xs.map enc)) (hl : xs.length ≤ sizeLine)
    (hs : ∀ a ∈ xs, ∃ τ2, bindD plain is (enc a) (wipeD τ vs) = some τ2 ∧ ∀ Q : QD, (∀ b, Rl a b → Q (enc' b) M) → te τ2 M Q)
    (hd : ∀ l : List β, l.length = xs.length → (∀ (i : Nat) (a : α) (b : β), xs[i]? = some a → l[i]? = some b → Rl a b) → fin (l.map enc') M Q) : kLc fin plain is vs dYes te τ Q (itSeq x (xs.map enc)) M := by
  refine ⟨fun i acc M' => M' = M ∧ ∃ l : List β, acc = l.map enc' ∧ l.length = i ∧ ∀ (j : Nat) (a : α) (b : β), xs[j]? = some a → l[j]? = some b → Rl a b, ⟨rfl, [], rfl, rfl, fun j a b _ e => by simp at e⟩, fun i acc M' hi p => by rw [p.1]; exact hx, fun i acc M' hi p => ?_, fun acc M' p => ?_⟩
  · obtain ⟨rfl, l, rfl, hll, hr⟩ := p
    have hi : i < (xs.map enc).length := hi
    rw [List.length_map] at hi
    have e := List.getElem?_eq_getElem hi
    obtain ⟨τ2, e2, h2⟩ := hs _ (List.getElem_mem hi)
    have e3 : (itSeq x (xs.map enc)).at' i = enc xs[i] := by
      show (xs.map enc).getD i .non = _
      refine getD_of ?_
      rw [List.getElem?_map, e]; rfl
    rw [e3, e2]
    show te τ2 M' _
    refine h2 _ fun b hb => ⟨?_, rfl, l ++ [b], ?_, ?_, ?_⟩
    · rw [List.length_map]; omega
    · rw [List.map_append]; rfl
    · rw [List.length_append, hll]; rfl
    · intro j a c ea ec
      by_cases hj : j < i
      · rw [List.getElem?_append_left (by omega)] at ec
        exact hr j a c ea ec
      · rw [List.getElem?_append_right (by omega)] at ec
        have hj2 : j = i := by
          by_cases z : j - l.length = 0
          · omega
          · rw [show j - l.length = (j - l.length - 1) + 1 by omega] at ec
            simp at ec
        subst hj2
        rw [e] at ea
        rw [show j - l.length = 0 by omega] at ec
        cases ea
        simp at ec
        subst ec
        exact hb
  · obtain ⟨rfl, l, rfl, hll, hr⟩ := p
    refine hd l ?_ hr
    rw [hll]
    show (xs.map enc).length = _
    rw [List.length_map]
end DL

namespace DL
open PySem PySem.Spec PyProof.Rows L2 LamX NdefX
/-! ### for x in reversed(a tuple) -/
def itRev (ds : List D) : ItD := ⟨ds.length, fun i => ds.getD (ds.length - 1 - i) .non, fun _ => True⟩
def iRevD (te : DE) : DTI := fun τ M Q => te τ M fun d M1 => match d with
  | .tup ds => Q (itRev ds) M1
  | _ => False
theorem rel_rev {K : PySem.W.Frag} {F : Hp} {a : Addr} {xs : List V} {ds : List D} (hs : SqT K F a xs) (ra : RepAll K F xs ds) : ItRel K F (RT.ItvT K a xs.length) (itRev ds) where
  go := fun i F2 R H M e st _ hi => by
    have hi : i < ds.length := hi
    have hl := ra.len
    exact ⟨by omega, xs, xs[xs.length - 1 - i]'(by omega), sqTMono st.fz (sqTMono e hs), List.getElem?_eq_getElem _⟩
  yld := fun i F2 R H M x H' e st _ hi y => by
    obtain ⟨rfl, y⟩ := y
    have hi : i < ds.length := hi
    have hl := ra.len
    obtain ⟨d', e1, e2⟩ := (ra.ext e).get (y xs (sqTMono st.fz (sqTMono e hs)))
    rw [hl] at e1
    exact ⟨F2, Ext.refl, st, by show Rep K F2 x (ds.getD (ds.length - 1 - i) .non); rw [getD_of e1]; exact e2, fun _ _ => rfl⟩
  stop := fun F2 R H M e st _ => by
    show xs.length ≤ ds.length
    rw [ra.len]; exact Nat.le_refl _
section
variable {X : Cx} {F0 : Bs} {tg e : Expr} {te : DE}
theorem id_rev {p pos : Pos} (hg : Gl X "reversed") (hm : X.mg "reversed" = none) (he : PE X e (liE X.K F0 te)) (hs : starEach [e] X.env = (false, eval e X.env) :: starEach [] X.env := by rfl) : PI X tg (.Call (.Name "reversed" p) [e] [] pos) (liI X.K F0 (iRevD te)) := by
  refine piImp (RT.pi_revA hg hm he hs) fun σ H Q ⟨F, R, τ, M, Q', e0, st, sl, q, k⟩ => ?_
  refine ⟨F, R, τ, M, _, e0, st, sl, q, fun v H1 F1 d M1 e1 st1 r1 q1 => ?_⟩
  cases d <;> try exact q1.elim
  cases r1 with
  | tup hs ra => exact ⟨_, _, rfl, .inr ⟨sqTMono st1.fz hs, k _ _ _ _ _ e1 st1 (rel_rev hs ra) q1⟩⟩
/-! ### xs[::-1] -/
def dRevL (te : DE) : DE := fun τ M Q => te τ M fun d M1 => match lsOf M1 d with
  | some ds => Q (.lst ds.reverse) M1
  | none => False
theorem pd_revL {k : Nat} {p1 p2 p3 pos : Pos} (he : PE X e (liE X.K F0 te)) : PE X (.Subscript e (.Slice none none (some (.UnaryOp .USub (.Constant (.int 1) k p1) p2)) p3) pos) (liE X.K F0 (dRevL te)) := by
  refine peImp (pe_revL he) fun σ H Q ⟨F, R, τ, M, Q', e0, st, sl, q, kk⟩ => ?_
  refine ⟨F, R, τ, M, _, e0, st, sl, q, fun v H1 F1 d M1 e1 st1 r1 q1 => ?_⟩
  split at q1 <;> try exact q1.elim
  rename_i ds h1
  obtain ⟨a, xs, rfl, hs, ra⟩ := ls_get st1 r1 h1
  exact ⟨a, xs, rfl, hs, fun p hp => (kk.ext e1).lst st1 hp ra.rev q1⟩
end
section
variable {nx bk ct : SD → Mp → Prop} {rt : QD} {E : EndsD} {τ : SD} {M : Mp} {QI : ItD → Mp → Prop} {Q : QD} {te : DE} {x : D} {ds : List D}
def kRev (QI : ItD → Mp → Prop) : QD := fun d M1 => match d with
  | .tup ds => QI (itRev ds) M1
  | _ => False
theorem s_revI (h : te τ M (kRev QI)) : iRevD te τ M QI := h
theorem s_krev (h : QI (itRev ds) M) : kRev QI (.tup ds) M := h
theorem s_kforV {tb : DS} {is : List Nat} {plain : Bool} (Pv : Nat → SD → Mp → Prop) (h0 : Pv 0 τ M)
    (hs : ∀ i d τ M, i < ds.length → ds[ds.length - 1 - i]? = some d → Pv i τ M → gD plain is d τ M fun τ2 M2 => tb ⟨Pv (i + 1), rt, nx, Pv (i + 1)⟩ τ2 M2) (hd : ∀ τ M, Pv ds.length τ M → nx τ M) : kFor (gD plain is) tb ⟨nx, rt, bk, ct⟩ τ (itRev ds) M :=
  ⟨Pv, h0, fun _ _ M _ _ => trivial, fun i τ M hi p => by
    have hi : i < ds.length := hi
    have e := List.getElem?_eq_getElem (l := ds) (i := ds.length - 1 - i) (by omega)
    show gD plain is (ds.getD (ds.length - 1 - i) .non) τ M _
    rw [getD_of e]
    exact hs i _ τ M hi e p, hd⟩
def kRevL (Q : QD) : QD := fun d M1 => match lsOf M1 d with
  | some ds => Q (.lst ds.reverse) M1
  | none => False
theorem s_revL (h : te τ M (kRevL Q)) : dRevL te τ M Q := h
theorem s_krevL (e : lsOf M x = some ds) (h : Q (.lst ds.reverse) M) : kRevL Q x M := by unfold kRevL; simp only [e]; exact h
end
end DL

namespace DL
open PySem PySem.Spec PyProof.Rows L2 LamX NdefX
/-! ### errors -/
theorem Stt.lessR {K : PySem.W.Frag} {F R R2 H : Hp} {M : Mp} (s : Stt K F R2 H M) (e : Ext R R2) : Stt K F R H M := ⟨s.fz, fun a o h => s.rs a o (e a o h), s.ow, s.nf, fun a o h => s.nr a o (e a o h)⟩
/-- the class of this name -/
def exV (C : Ct) (n : Str) : Value := (C.mg n).getD .none
theorem exV_of {C : Ct} {n : Str} {v : Value} (h : C.mg n = some v) : exV C n = v := by unfold exV; rw [h]; rfl
/-- raise X('..') -/
def dRaise (c : Value) (E : XD) : DS := fun _ _ M => E c none M
section
variable {X : Cx} {F0 : Bs} {x m : Str} {j : Nat} {p p2 pos pos2 : Pos} {Cc : Addr} {cv : Value} {B newId initId : String} {bmB : List Value}
theorem sd_raise {E' : XD} {E : XK} (hE : ∀ e dx H, liX X.K F0 E' e dx H → E e dx H) (hc : X.calm = true) (tk : Takes X (fun cls d _ H => E cls d H)) (hv : cv = .ref Cc) (F : ExcBaseFacts B newId initId bmB) (q : PySem.W.excIn X.K Cc bmB newId = true) (gC : X.mg x = some (.ref Cc)) (kC : PySem.W.keepIn X.K (.ref Cc) = true) (r : Raises X (.ref Cc)) (hg : Gl X x)
    (hdb : (x == ("__debug__" : Str)) = false := by decide) : PS X (.Raise (some (.Call (.Name x p) [.Constant (.str m) j p2] [] pos)) none pos2) (liS X.K F0 (dRaise cv E')) := by
  subst hv
  exact psImp (ps_raise hc tk (pmk_own F q gC kC r hg hdb)) fun D σ H ⟨F, R, τ, M, D', e0, st, sl, q, k⟩ => hE _ _ _ ⟨F, R, M, none, e0, st, trivial, q⟩
end
/-! what is wanted of an error, by the slots where it comes -/
def liXS (K : PySem.W.Frag) (F0 : Bs) (E' : SD → XD) : WX := fun e dx σ H => ∃ F R M fs τ, Bas F0 F R ∧ Stt K F R H M ∧ Slots K F σ τ ∧ RepX K F H dx fs ∧ E' τ e fs M
def dCallS (sp : SpD) (E : SD → XD) (t : DA) : DE := fun τ M Q => t τ M fun ds M1 => sp ds M1 Q (E τ)
section
variable {X : Cx} {F0 : Bs} {k : Nat} {f : Addr} {fd : FuncData} {ps : List Str} {sp : SpD} {x : Str} {p pos : Pos} {e : Expr} {es : List Expr} {t : DA}
/-- f(..) within a try -/
theorem pd_callS {W : WX} {E' : SD → XD} (hE : ∀ e dx σ H, liXS X.K F0 E' e dx σ H → W e dx σ H) (tk : Takes X W) (F : FnOk X.prog X.w X.K X.mg X.base (L2.CX X.prog X.w) k f fd ps (liSp X.K F0.T sp)) (hr : Room k X.A) (hg : Gl X x) (hm : X.mg x = some (.ref f)) (hk : PySem.W.keepIn X.K (.ref f) = true) (hb : Binds X.K fd ps [])
    (ha : PA X (e :: es) (liA X.K F0 t)) (hdb : (x == ("__debug__" : Str)) = false := by decide) (he : starEach (e :: es) X.env = (false, eval e X.env) :: starEach es X.env := by rfl) (hpl : (backTo pos (starEach es X.env)).any (·.1) = false := by rfl) :
    PE X (.Call (.Name x p) (e :: es) [] pos) (liE X.K F0 (dCallS sp E' t)) := by
  refine peImp (pe_callS F hr hg hm hk hb (fun σ => passAt tk σ) ha hdb he hpl) fun σ H Q ⟨F, R, τ, M, Q', e0, st, sl, q, k⟩ => ?_
  refine ⟨F, R, τ, M, _, e0, st, sl, q, fun vs H1 F1 ds M1 e1 st1 r1 q1 => ?_⟩
  exact ⟨F1, R, ds, M1, Q', E' τ, st1, e0.t, r1, q1, k.ext e1, fun e dx H2 F2 fs M2 e2 st2 rx qx => hE _ _ _ _ ⟨F2, R, M2, fs, τ, e0.trans (e1.trans e2), st2, sl.ext (e1.trans e2), rx, qx⟩⟩
end
/-- try .. except X .. else -/
def dTry (tb : (SD → XD) → DS) (c : Value) (ts u : DS) : DS := fun D τ M => tb (fun τ' e fs M' => e = c ∧ ts D τ' M') { D with nx := u D } τ M
section
variable {X : Cx} {F0 : Bs} {x : Str} {Cc : Addr} {cv : Value} {body suite orelse : List Stmt} {b₀ : Stmt} {np pos pos' : Pos} {tb : (SD → XD) → DS} {ts u : DS}
theorem sd_try (hs : X.stack = X.env :: X.outer) (hf : X.env.frame = some X.env.locals) (hv : cv = .ref Cc) (hc : Names X x (.ref Cc)) (hcc : PySem.W.exmOne X.K (.ref Cc) (.ref Cc) = some true) (ho : PSs X orelse (liS X.K F0 u))
    (hb : ∀ (W : WX) (pn : List (Addr × Obj)) (xe : Value → Shared → Prop) (FF RR : Hp) (E' : SD → XD), (∀ e dx σ H, liXS X.K ⟨FF, RR, F0.T⟩ E' e dx σ H → W e dx σ H) → Takes (X.tr pn xe) W → PSs (X.tr pn xe) body (liS X.K ⟨FF, RR, F0.T⟩ (tb E')))
    (hsu : ∀ (a : Addr) (oe : Obj) (cls : Value) (d : Option Addr) (pn : List (Addr × Obj)), Zc cls d oe → (∃ vs, oe.data = .fields vs) → PSs (X.suite a ((a, oe) :: pn)) (b₀ :: suite) (liS X.K F0 ts)) :
    PS X (.Try body [.ExceptHandler (some (.Name x np)) none (b₀ :: suite) pos'] orelse [] pos) (liS X.K F0 (dTry tb cv ts u)) := by
  subst hv
  refine ⟨fun pins s σ H D I ⟨F, R, τ, M, D', e0, st, sl, q, k⟩ => ?_⟩
  have T := ps_try_onlyE (X := X) (x := x) (np := np) (pos := pos) (pos' := pos') (body := body) (suite := suite) (b₀ := b₀) (Wout := fun _ _ _ _ => False) (ts := fun _ _ _ => liS X.K F0 ts) (u := liS X.K F0 u)
    (tb := fun W D2 σ2 H2 => D2 = { D with nx := liS X.K F0 u D } ∧ σ2 = σ ∧ H2 = H ∧ W = wOnly X.K (.ref Cc) (fun _ _ _ => liS X.K F0 ts) (fun _ _ _ _ => False) D) ho hs hf hc (fun _ _ z => by
      obtain ⟨_, _, _, _, _, _, _, _, _, _, _, _, _, _, _, _, z⟩ := z
      exact z.elim) (fun W pn xe tk _ => ⟨fun pins2 s2 σ2 H2 D2 I2 ⟨eD, eσ, eH, eW⟩ => ?_⟩) hsu
  · exact T.run pins s σ H D I ⟨rfl, rfl, rfl, rfl⟩
  · subst eD eσ eH
    refine (hb W pn xe F R (fun τ' e fs M' => e = .ref Cc ∧ ts D' τ' M') (fun e dx σ3 H3 h3 => ?_) tk).run pins2 s2 σ2 H2 _ I2 ⟨F, R, τ, M, { D' with nx := u D' }, ⟨Ext.refl, Ext.refl, e0.t⟩, st, sl, q, ⟨fun σ4 H4 F4 τ4 M4 e4 st4 sl4 q4 => ?_, k.rt, k.bk, k.ct⟩⟩
    · obtain ⟨F3, R3, M3, fs, τ3, b3, st3, sl3, rx, rfl, q3⟩ := h3
      rw [eW]
      refine ⟨true, hcc, fun _ a _ => ?_, fun z => by cases z⟩
      exact ⟨F3, R, τ3, M3, D', e0.trans b3.f, st3.lessR b3.r, sl3, q3, k.ext b3.f⟩
    · exact ⟨F4, R, τ4, M4, D', e0.trans e4, st4, sl4, q4, k.ext e4⟩
end
section
variable {P : Program} {w : World} {K : PySem.W.Frag} {mg : Str → Option Value} {base : Heap}
def RdsX (t : XD → DS) (N : List Str) (sp : SpD) : Prop := ∀ ds M Q E, sp ds M Q E → t E (fnE Q) (startD N ds) M
/-- a def that may raise -/
theorem Fun.okXD {x qual : Str} {st : Stmt} {f : Addr} {fd : FuncData} {N ps : List Str} {k : Nat} {sp : SpD} {T : List (Addr × Str)} (F : Fun K x qual st f fd) (S : FnScope N ps (defScope st)) (len : ∀ ds M Q E, sp ds M Q E → ds.length = ps.length) {t : XD → DS}
    (hbody : ∀ (cdv : Value) (A : Around) (outer : List Env) (s : Shared) (H : Hp) (E : XK) (F0 R0 : Hp) (E' : XD), Room k (A.deeper (envOfC qual (defScope st) s.heap.objs.size f cdv)) → (∀ e dx H, liX K ⟨F0, R0, T⟩ E' e dx H → E e dx H) → Takes (cxOf (L2.CX P w) P w K mg base N qual (defScope st) f cdv A outer s H E) (fun cls d _ H => E cls d H) →
      PSs (cxOf (L2.CX P w) P w K mg base N qual (defScope st) f cdv A outer s H E) (defBody st) (liS K ⟨F0, R0, T⟩ (t E')))
    (hq : RdsX t N sp) : FnOk P w K mg base (L2.CX P w) (k + 1) f fd ps (liSp K T sp) := by
  refine F.okX S (fun vs H Q E ⟨F, R, ds, M, Q', E', st, _, ra, h, _, _⟩ => by rw [ra.len]; exact len _ _ _ _ h) fun cdv A outer s H vs Q E hr ⟨F, R, ds, M, Q', E', st, tr, ra, h, kQ, kE⟩ => ?_
  refine ⟨_, hbody cdv A outer s H E F R E' hr (fun e dx H2 ⟨F2, R2, M2, fs, b2, st2, rx, q2⟩ => kE e dx H2 F2 fs M2 b2.f (st2.lessR b2.r) rx q2) (takes_of rfl rfl rfl rfl), F, R, startD N ds, M, _, ⟨Ext.refl, Ext.refl, tr⟩, st, slots_start ra, hq ds M Q' E' h, ?_⟩
  refine ⟨fun σ2 H2 F2 τ2 M2 e2 st2 sl2 ⟨M3, h3, q3⟩ => kQ _ _ _ _ _ e2 (st2.less h3) .non q3, fun v H2 F2 d M2 e2 st2 r2 ⟨M3, h3, q3⟩ => kQ _ _ _ _ _ e2 (st2.less h3) r2 q3, fun _ _ _ _ _ _ _ _ z => z, fun _ _ _ _ _ _ _ _ z => z⟩
end
/-- no error comes -/
theorem noX {K : PySem.W.Frag} {F0 : Bs} : ∀ e dx H, liX K F0 E0D e dx H → E0 e dx H := fun _ _ _ ⟨_, _, _, _, _, _, _, z⟩ => z
/-! the steps -/
section
variable {nx bk ct : SD → Mp → Prop} {rt : QD} {τ : SD} {M : Mp} {E : XD} {De : EndsD} {Q : QD} {al : DA} {sp : SpD}
theorem s_raise {c : Value} (h : E c none M) : dRaise c E De τ M := h
def kCallS (sp : SpD) (E : SD → XD) (τ : SD) (Q : QD) : List D → Mp → Prop := fun ds M1 => sp ds M1 Q (E τ)
theorem s_callS {E : SD → XD} (h : al τ M (kCallS sp E τ Q)) : dCallS sp E al τ M Q := h
theorem s_kcallS {E : SD → XD} {ds : List D} (h : sp ds M Q (E τ)) : kCallS sp E τ Q ds M := h
theorem s_try {tb : (SD → XD) → DS} {c : Value} {ts u : DS} (h : tb (fun τ' e fs M' => e = c ∧ ts ⟨nx, rt, bk, ct⟩ τ' M') ⟨u ⟨nx, rt, bk, ct⟩, rt, bk, ct⟩ τ M) : dTry tb c ts u ⟨nx, rt, bk, ct⟩ τ M := h
end
/-- what is known of an own error's class -/
structure ExcD (K : PySem.W.Frag) (mg : Str → Option Value) (n : Str) where
  c : Addr
  g : mg n = some (.ref c)
  q : PySem.W.excIn K c [.type "ValueError", .type "Exception", .type "BaseException", .type "object"] "ValueError.__new__" = true
  k : PySem.W.keepIn K (.ref c) = true
  s : PySem.W.subIn K (.ref c) (.type "BaseException") = some true
  t : PySem.W.typeIn K (.ref c) = some (.type "type")
  m : PySem.W.exmOne K (.ref c) (.ref c) = some true
theorem exm_self {K : PySem.W.Frag} {S : Addr} (h1 : PySem.W.subIn K (.ref S) (.type "BaseException") = some true) (h2 : PySem.W.isClsIn K S = true) (h3 : PySem.W.typeIn K (.ref S) = some (.type "type")) (h4 : PySem.W.subIn K (.ref S) (.ref S) = some true) :
    PySem.W.exmOne K (.ref S) (.ref S) = some true := by
  have h2 : (PySem.W.clsIn K S).isSome = true := h2
  have e1 : (PySem.W.subIn K (.ref S) (.type "BaseException") == some true) = true := by rw [h1]; rfl
  have e2 : ((PySem.W.clsIn K S).isSome && PySem.W.typeIn K (.ref S) == some (.type "type")) = true := by rw [h2, h3]; rfl
  show (if (PySem.W.subIn K (.ref S) (.type "BaseException") == some true) = true then (if ((PySem.W.clsIn K S).isSome && PySem.W.typeIn K (.ref S) == some (.type "type")) = true then PySem.W.subIn K (.ref S) (.ref S) else none) else none) = some true
  rw [if_pos e1, if_pos e2]
  exact h4
end DL

namespace DL
open PySem PySem.Spec PyProof.Rows L2 LamX NdefX
/-! ### the order of data -/
def dLtD : R2D := fun x y M Q => match (drf M x).py, (drf M y).py with
  | some p, some q => PySem.W.alike p q = true ∧ p ≠ .none ∧ min p.depth q.depth ≤ 64 ∧ Q (.bl (PySem.W.dataLt p q)) M
  | _, _ => False
section
variable {X : Cx} {F0 : Bs}
theorem od_ltD (hu : X.A.units + 64 < cLine) : OpD X F0 (compareOp .Lt) dLtD := by
  intro pins s σ H x y v u Q I rx ry ⟨F, R, M, d, e, Q', e0, st, rd, re, q, k⟩
  unfold dLtD at q
  split at q
  · rename_i p q' h1 h2
    obtain ⟨as, r1⟩ := Dp.reads I p x v (dp_drf st rd h1) rx
    obtain ⟨bs, r2⟩ := Dp.reads I q' y u (dp_drf st re h2) ry
    exact PySem.W.lt_data r1 r2 q.1 q.2.1 (by omega) ⟨.bl _, H, I, rfl, k _ _ _ _ _ Ext.refl st (.bl _) q.2.2.2⟩
  · exact q.elim
end
theorem s_ltD {p q : PyData} {x y : D} {M : Mp} {Q : QD} (e1 : (drf M x).py = some p) (e2 : (drf M y).py = some q) (h1 : PySem.W.alike p q = true) (h2 : p ≠ .none) (h3 : p.depth ≤ 64) (h : Q (.bl (PySem.W.dataLt p q)) M) : dLtD x y M Q := by
  unfold dLtD
  simp only [e1, e2]
  exact ⟨h1, h2, Nat.le_trans (Nat.min_le_left _ _) h3, h⟩
/-! ### for x in reversed(a list or a tuple that nobody changes) -/
def iRevA (te : DE) : DTI := fun τ M Q => te τ M fun d M1 => match d with
  | .tup ds => Q (itRev ds) M1
  | .lst ds => Q (itRev ds) M1
  | _ => False
theorem rel_revL {K : PySem.W.Frag} {F : Hp} {a : Addr} {xs : List V} {ds : List D} (hs : F a = some (.lst xs)) (ra : RepAll K F xs ds) : ItRel K F (Itv K a xs.length) (itRev ds) where
  go := fun i F2 R H M e st _ hi => by
    have hi : i < ds.length := hi
    have hl := ra.len
    exact ⟨by omega, xs, xs[xs.length - 1 - i]'(by omega), .inl (.inl (st.fz _ _ (e _ _ hs))), List.getElem?_eq_getElem _⟩
  yld := fun i F2 R H M x H' e st _ hi y => by
    obtain ⟨rfl, y⟩ := y
    have hi : i < ds.length := hi
    have hl := ra.len
    obtain ⟨d', e1, e2⟩ := (ra.ext e).get (y xs (.inl (.inl (st.fz _ _ (e _ _ hs)))))
    rw [hl] at e1
    exact ⟨F2, Ext.refl, st, by show Rep K F2 x (ds.getD (ds.length - 1 - i) .non); rw [getD_of e1]; exact e2, fun _ _ => rfl⟩
  stop := fun F2 R H M e st _ => by
    show xs.length ≤ ds.length
    rw [ra.len]; exact Nat.le_refl _
section
variable {X : Cx} {F0 : Bs} {tg e : Expr} {te : DE}
theorem id_revA {p pos : Pos} (hg : Gl X "reversed") (hm : X.mg "reversed" = none) (he : PE X e (liE X.K F0 te)) (hs : starEach [e] X.env = (false, eval e X.env) :: starEach [] X.env := by rfl) : PI X tg (.Call (.Name "reversed" p) [e] [] pos) (liI X.K F0 (iRevA te)) := by
  refine piImp (RT.pi_revA hg hm he hs) fun σ H Q ⟨F, R, τ, M, Q', e0, st, sl, q, k⟩ => ?_
  refine ⟨F, R, τ, M, _, e0, st, sl, q, fun v H1 F1 d M1 e1 st1 r1 q1 => ?_⟩
  cases d <;> try exact q1.elim
  · cases r1 with
    | tup hs ra => exact ⟨_, _, rfl, .inr ⟨sqTMono st1.fz hs, k _ _ _ _ _ e1 st1 (rel_rev hs ra) q1⟩⟩
  · cases r1 with
    | lst hs ra => exact ⟨_, _, rfl, .inl ⟨.inl (.inl (st1.fz _ _ hs)), k _ _ _ _ _ e1 st1 (rel_revL hs ra) q1⟩⟩
end
def kRevA (QI : ItD → Mp → Prop) : QD := fun d M1 => match d with
  | .tup ds => QI (itRev ds) M1
  | .lst ds => QI (itRev ds) M1
  | _ => False
theorem s_revA {te : DE} {τ : SD} {M : Mp} {QI : ItD → Mp → Prop} (h : te τ M (kRevA QI)) : iRevA te τ M QI := h
theorem s_krevaL {ds : List D} {M : Mp} {QI : ItD → Mp → Prop} (h : QI (itRev ds) M) : kRevA QI (.lst ds) M := h
theorem s_krevaT {ds : List D} {M : Mp} {QI : ItD → Mp → Prop} (h : QI (itRev ds) M) : kRevA QI (.tup ds) M := h
/-- over reversed(data that nobody changes), each item gives one, and M stays -/
theorem s_klcRev {plain : Bool} {is vs : List Nat} {fin : List D → Mp → QD → Prop} {te : DE} {τ : SD} {M : Mp} {Q : QD} {α : Type} {xs : List α} (enc : α → D) (f : α → D) (hl : xs.length ≤ sizeLine)
    (hs : ∀ a ∈ xs, ∃ τ2, bindD plain is (enc a) (wipeD τ vs) = some τ2 ∧ ∀ Q : QD, Q (f a) M → te τ2 M Q) (hd : fin (xs.reverse.map f) M Q) : kLc fin plain is vs dYes te τ Q (itRev (xs.map enc)) M := by
  refine ⟨fun i acc M' => M' = M ∧ acc = (xs.reverse.map f).take i, ⟨rfl, rfl⟩, fun _ _ _ _ _ => trivial, fun i acc M' hi p => ?_, fun acc M' p => ?_⟩
  · obtain ⟨rfl, rfl⟩ := p
    have hi : i < (xs.map enc).length := hi
    rw [List.length_map] at hi
    have e := List.getElem?_eq_getElem (l := xs) (i := xs.length - 1 - i) (by omega)
    obtain ⟨τ2, e2, k⟩ := hs xs[xs.length - 1 - i] (List.getElem_mem _)
    have e3 : (itRev (xs.map enc)).at' i = enc xs[xs.length - 1 - i] := getD_of (by rw [List.length_map, List.getElem?_map, e]; rfl)
    rw [e3, e2]
    refine k _ ⟨?_, rfl, ?_⟩
    · rw [List.length_take, List.length_map, List.length_reverse]; omega
    · rw [List.take_succ, List.getElem?_map, List.getElem?_reverse hi, e]; rfl
  · obtain ⟨rfl, rfl⟩ := p
    have e : (xs.reverse.map f).take (itRev (xs.map enc)).n = xs.reverse.map f := List.take_of_length_le (by show _ ≤ (xs.map enc).length; rw [List.length_map, List.length_map, List.length_reverse]; exact Nat.le_refl _)
    rw [e]
    exact hd
/-! ### two sources in one comprehension -/
def dLc2G (fin : List D → Mp → QD → Prop) (wi : DTI) (plain : Bool) (is vs : List Nat) (tt : DT) (wi1 : DTI) (plain1 : Bool) (is1 vs1 : List Nat) (tt1 : DT) (te : DE) : DE := fun τ M Q => wi τ M fun j M1 => ∃ Pv : Nat → List D → Mp → Prop, Pv 0 [] M1 ∧ (∀ i acc M, i ≤ j.n → Pv i acc M → j.ok M) ∧
  (∀ i acc M, i < j.n → Pv i acc M → match bindD plain is (j.at' i) (wipeD τ vs) with
    | some τ2 => tt τ2 M fun b M3 => if b = true then wi1 τ2 M3 fun j1 M4 => ∃ P1 : Nat → List D → Mp → Prop, P1 0 acc M4 ∧ (∀ k acc M, k ≤ j1.n → P1 k acc M → j1.ok M) ∧
        (∀ k acc M, k < j1.n → P1 k acc M → match bindD plain1 is1 (j1.at' k) (wipeD τ2 vs1) with
          | some τ3 => tt1 τ3 M fun b M5 => if b = true then te τ3 M5 fun e M6 => acc.length < sizeLine ∧ P1 (k + 1) (acc ++ [e]) M6 else P1 (k + 1) acc M5
          | none => False) ∧ ∀ acc M, P1 j1.n acc M → Pv (i + 1) acc M
      else Pv (i + 1) acc M3
    | none => False) ∧ ∀ acc M, Pv j.n acc M → fin acc M Q
abbrev dLc2 := dLc2G fun acc M Q => Q (.lst acc) M
section
variable {K : PySem.W.Frag} {F0 : Bs} {fin : List D → Mp → QD → Prop} {wi wi1 : DTI} {g g1 : TG} {plain plain1 : Bool} {is vs is1 vs1 : List Nat} {tt tt1 : DT} {te : DE}
theorem li_lc2 (hf : FinOk K fin) (ht : TgOk K g plain is) (hv : ∀ i ∈ is, i ∈ vs) (ht1 : TgOk K g1 plain1 is1) (hv1 : ∀ i ∈ is1, i ∈ vs1) {σ : L2.St} {H : Hp} {Q : VK} (h : liE K F0 (dLc2G fin wi plain is vs tt wi1 plain1 is1 vs1 tt1 te) σ H Q) : tLc2 (liI K F0 wi) g (liT K F0 tt) (liI K F0 wi1) g1 (liT K F0 tt1) (liE K F0 te) vs vs1 σ H Q := by
  obtain ⟨F, R, τ, M, Q', e0, st, sl, q, k⟩ := h
  refine ⟨F, R, τ, M, _, e0, st, sl, q, fun J H1 F1 j M1 e1 st1 rl ⟨Pv, p0, pk, ps, pd⟩ => fun L hL => ?_⟩
  have rL : R L = none := by
    cases z : R L with
    | none => rfl
    | some o => exact ((st1.rs L o z).1.there hL).elim
  have fL : F1 L = none := by
    cases z : F1 L with
    | none => rfl
    | some o => have := st1.fz L o z; rw [hL] at this; cases this
  have mL : M1 L = none := by
    cases z : M1 L with
    | none => rfl
    | some o => obtain ⟨_, u, hu, _⟩ := st1.ow L o z; rw [hL] at hu; cases hu
  have exR : ∀ o, Ext R (upd R L o) := fun o a u e => by rw [upd_ne (ne_of_none e rL)]; exact e
  have st0 : Stt K F1 (upd R L (.lst [])) (upd H1 L (.lst [])) M1 := by
    refine ⟨fun a u e => ?_, fun a u e => ?_, fun a m e => ?_, st1.nf, fun a u e => ?_⟩
    rotate_left 3
    · by_cases z : a = L
      · subst z; rw [upd_same] at e; cases e; trivial
      · rw [upd_ne z] at e; exact st1.nr a u e
    · rw [upd_ne (ne_of_none e fL)]; exact st1.fz _ _ e
    · by_cases z : a = L
      · subst z; rw [upd_same] at e; cases e; exact ⟨upd_same, fL, mL⟩
      · rw [upd_ne z] at e
        obtain ⟨h1, h2, h3⟩ := st1.rs a u e
        exact ⟨h1.step (fun b v n eb => by rw [upd_ne n]; exact eb) z (fun c y => by rw [hL] at y; cases y), h2, h3⟩
    · have z : a ≠ L := fun z => by subst z; rw [mL] at e; cases e
      rw [upd_ne z]; exact st1.ow a m e
  refine ⟨fun i m H => m = j.n - i ∧ i ≤ j.n ∧ ∃ F2 M2 xs acc, Ext F1 F2 ∧ Stt K F2 (upd R L (.lst xs)) H M2 ∧ RepAll K F2 xs acc ∧ Pv i acc M2, ⟨j.n, by simp, Nat.zero_le _, F1, M1, [], [], Ext.refl, st0, .nil, p0⟩, ?_⟩
  rintro i m H2 ⟨rfl, hi, F2, M2, xs, acc, e2, st2, ra, p2⟩
  have ok := pk i acc M2 hi p2
  by_cases hlt : i < j.n
  · refine .inr ⟨rl.go i F2 _ H2 M2 e2 st2 ok hlt, fun H' => ∃ F2 M2 xs acc, Ext F1 F2 ∧ Stt K F2 (upd R L (.lst xs)) H' M2 ∧ RepAll K F2 xs acc ∧ Pv (i + 1) acc M2, fun H' z => ⟨j.n - (i + 1), by omega, rfl, hlt, z⟩, fun x H3 y => ?_⟩
    obtain ⟨F3, e3, st3, rx, _⟩ := rl.yld i F2 _ H2 M2 x H3 e2 st2 ok hlt y
    have step := ps i acc M2 hlt p2
    split at step
    · rename_i τ3 eb
      have sl3 : Slots K F3 (wipe σ vs) (wipeD τ vs) := (sl.ext (e1.trans (e2.trans e3))).wipe vs
      refine ht.run F3 _ H3 M2 x _ _ _ τ3 _ st3 sl3 rx eb fun σ4 sl4 ⟨ys, hl, e4⟩ => ⟨by rw [e4, wipe_fold is ys _ hv, wipe_wipe], ?_⟩
      have b3 : Bas F0 F3 (upd R L (.lst xs)) := ⟨(e0.trans (e1.trans (e2.trans e3))).f, e0.r.trans (exR _), e0.t.ext (exR _)⟩
      refine ⟨F3, _, τ3, M2, _, b3, st3, sl4, step, fun b H5 F5 M5 e5 st5 q5 => ?_⟩
      cases b with
      | false =>
        rw [if_neg Bool.false_ne_true] at q5 ⊢
        exact ⟨F5, M5, xs, acc, e2.trans (e3.trans e5), st5, ra.ext (e3.trans e5), q5⟩
      | true =>
        rw [if_pos rfl] at q5 ⊢
        refine ⟨F5, _, τ3, M5, _, b3.trans e5, st5, sl4.ext e5, q5, fun J1 H6 F6 j1 M6 e6 st6 rl1 ⟨P1, a0, ak, as, ad⟩ => ?_⟩
        have x6 : Ext F1 F6 := e2.trans (e3.trans (e5.trans e6))
        refine ⟨fun k m H => m = j1.n - k ∧ k ≤ j1.n ∧ ∃ F7 M7 xs acc, Ext F6 F7 ∧ Stt K F7 (upd R L (.lst xs)) H M7 ∧ RepAll K F7 xs acc ∧ P1 k acc M7, ⟨j1.n, by simp, Nat.zero_le _, F6, M6, xs, acc, Ext.refl, st6, ra.ext (e3.trans (e5.trans e6)), a0⟩, ?_⟩
        rintro k' m' H7 ⟨rfl, hk', F7, M7, xs7, acc7, e7, st7, ra7, p7⟩
        have ok1 := ak k' acc7 M7 hk' p7
        by_cases hlt1 : k' < j1.n
        · refine .inr ⟨rl1.go k' F7 _ H7 M7 e7 st7 ok1 hlt1, fun H' => ∃ F7 M7 xs acc, Ext F6 F7 ∧ Stt K F7 (upd R L (.lst xs)) H' M7 ∧ RepAll K F7 xs acc ∧ P1 (k' + 1) acc M7, fun H' z => ⟨j1.n - (k' + 1), by omega, rfl, hlt1, z⟩, fun x8 H8 y8 => ?_⟩
          obtain ⟨F8, e8, st8, rx8, _⟩ := rl1.yld k' F7 _ H7 M7 x8 H8 e7 st7 ok1 hlt1 y8
          have step1 := as k' acc7 M7 hlt1 p7
          split at step1
          · rename_i τ8 eb8
            have sl8 : Slots K F8 (wipe σ4 vs1) (wipeD τ3 vs1) := (sl4.ext (e5.trans (e6.trans (e7.trans e8)))).wipe vs1
            refine ht1.run F8 _ H8 M7 x8 _ _ _ τ8 _ st8 sl8 rx8 eb8 fun σ9 sl9 ⟨ys9, hl9, e9⟩ => ⟨by rw [e9, wipe_fold is1 ys9 _ hv1, wipe_wipe], ?_⟩
            have b8 : Bas F0 F8 (upd R L (.lst xs7)) := ⟨((e0.trans e1).trans (x6.trans (e7.trans e8))).f, e0.r.trans (exR _), e0.t.ext (exR _)⟩
            refine ⟨F8, _, τ8, M7, _, b8, st8, sl9, step1, fun b H10 F10 M10 e10 st10 q10 => ?_⟩
            cases b with
            | false =>
              rw [if_neg Bool.false_ne_true] at q10 ⊢
              exact ⟨F10, M10, xs7, acc7, e7.trans (e8.trans e10), st10, ra7.ext (e8.trans e10), q10⟩
            | true =>
              rw [if_pos rfl] at q10 ⊢
              refine ⟨F10, _, τ8, M10, _, b8.trans e10, st10, sl9.ext e10, q10, fun z H11 F11 dz M11 e11 st11 r11 ⟨q11, q12⟩ => ?_⟩
              have ra11 := ra7.ext (e8.trans (e10.trans e11))
              exact ⟨xs7, (st11.rs L _ upd_same).1, by rw [ra11.len]; exact q11, F11, M11, xs7 ++ [z], acc7 ++ [dz], e7.trans (e8.trans (e10.trans e11)), st11.reput, ra11.app (.cons r11 .nil), q12⟩
          · exact step1.elim
        · have e : k' = j1.n := by omega
          subst e
          exact .inl ⟨rl1.stop F7 _ H7 M7 e7 st7 ok1, F7, M7, xs7, acc7, x6.trans e7, st7, ra7, ad acc7 M7 p7⟩
    · exact step.elim
  · have e : i = j.n := by omega
    subst e
    exact .inl ⟨rl.stop F2 _ H2 M2 e2 st2 ok, hf F2 R H2 M2 L xs acc Q' Q st2 rL ra (pd acc M2 p2) (k.ext (e1.trans e2))⟩
end
section
variable {X : Cx} {F0 : Bs} {elt tg iter tg1 iter1 : Expr} {ifs ifs1 : List Expr} {scope : Scope} {own : List (Str × Nat)} {pos : Pos} {wi wi1 : DTI} {g g1 : TG} {plain plain1 : Bool} {is vs is1 vs1 : List Nat} {tt tt1 : DT} {te : DE} {fin : List D → Mp → QD → Prop}
theorem sd_setLc2G {i : Nat} {y : Str} {py spos : Pos} (hf : FinOk X.K fin) (hc : X.calm = true) (hN : X.N.Nodup) (hy : X.N[i]? = some y) (hyl : X.env.scope.names.lookup y = some .local)
    (hsw : swapsWith (.ListComp elt [⟨tg, iter, ifs, 0⟩, ⟨tg1, iter1, ifs1, 0⟩] scope pos) (some (.Name y py)) spos.line X.env = pure true) (hi : PI X tg iter (liI X.K F0 wi)) (ok : BlkOk X.N X.env.scope scope own) (hvs : own.map (·.2) = vs) (hto : TgOk X.K g plain is) (hv : ∀ i ∈ is, i ∈ vs) (hto1 : TgOk X.K g1 plain1 is1) (hv1 : ∀ i ∈ is1, i ∈ vs1) (hvv : ∀ i ∈ vs1, i ∈ vs)
    (hg : ∀ (s : Shared) (H : Hp) (C : Addr) (cl : List (Str × Addr)) (fp : List Addr), PG (X.blk s H scope (compEnvC scope cl C X.env) fp) tg g)
    (ht : ∀ (s : Shared) (H : Hp) (C : Addr) (cl : List (Str × Addr)) (fp : List Addr), PTs (X.blk s H scope (compEnvC scope cl C X.env) fp) ifs (liT X.K F0 tt))
    (hi1 : ∀ (s : Shared) (H : Hp) (C : Addr) (cl : List (Str × Addr)) (fp : List Addr), PI (X.blk s H scope (compEnvC scope cl C X.env) fp) tg1 iter1 (liI X.K F0 wi1))
    (hg1 : ∀ (s : Shared) (H : Hp) (C : Addr) (cl : List (Str × Addr)) (fp : List Addr), PG (X.blk s H scope (compEnvC scope cl C X.env) fp) tg1 g1)
    (ht1 : ∀ (s : Shared) (H : Hp) (C : Addr) (cl : List (Str × Addr)) (fp : List Addr), PTs (X.blk s H scope (compEnvC scope cl C X.env) fp) ifs1 (liT X.K F0 tt1))
    (he : ∀ (s : Shared) (H : Hp) (C : Addr) (cl : List (Str × Addr)) (fp : List Addr), PE (X.blk s H scope (compEnvC scope cl C X.env) fp) elt (liE X.K F0 te)) (hs : ∀ x, foldedSetIterable iter X.env x = pure x := by intro _; rfl) (hs1 : ∀ env x, foldedSetIterable iter1 env x = pure x := by intro _ _; rfl) :
    PS X (.Assign [.Name y py] (.ListComp elt [⟨tg, iter, ifs, 0⟩, ⟨tg1, iter1, ifs1, 0⟩] scope pos) spos) (liS X.K F0 (dSet i (dLc2G fin wi plain is vs tt wi1 plain1 is1 vs1 tt1 te))) := by
  subst hvs
  exact psImp (ps_setLc2 hc hN hy hyl hsw hi ok hvv hg ht hi1 hg1 ht1 he hs hs1) fun D σ H ⟨F, R, τ, M, D', e0, st, sl, q, k⟩ =>
    li_lc2 (Q := fun x H1 => gName i x σ H1 D.nx) hf hto hv hto1 hv1 ⟨F, R, τ, M, _, e0, st, sl, q, fun v H2 F2 d M2 e2 st2 r2 q2 => k.nx _ _ _ _ _ e2 st2 ((sl.ext e2).put r2 i) q2⟩
end
/-! ### sorted(a list of pairs of ints): the same pairs in some order -/
theorem RepAll.perm {K : PySem.W.Frag} {F : Hp} {ys xs : List V} (p : ys.Perm xs) : ∀ {ds : List D}, RepAll K F xs ds → ∃ es : List D, es.Perm ds ∧ RepAll K F ys es := by
  induction p with
  | nil => intro ds r; exact ⟨ds, List.Perm.refl _, r⟩
  | cons x p ih =>
    intro ds r
    cases r with
    | cons h t =>
      obtain ⟨es, pe, re⟩ := ih t
      exact ⟨_ :: es, pe.cons _, .cons h re⟩
  | swap x y l =>
    intro ds r
    cases r with
    | cons h t =>
      cases t with
      | cons h2 t => exact ⟨_ :: _ :: _, List.Perm.swap _ _ _, .cons h2 (.cons h t)⟩
  | trans p1 p2 ih1 ih2 =>
    intro ds r
    obtain ⟨es, pe, re⟩ := ih2 r
    obtain ⟨fs, pf, rf⟩ := ih1 re
    exact ⟨fs, pf.trans pe, rf⟩
def dSortedU (B : Int) : RC := fun ds M Q => match ds with
  | [x] => match lsOf M x with
    | some es => es.length < 64 ∧ (∀ e ∈ es, ∃ ns : List Int, e = .tup (ns.map D.int) ∧ ns.length = 2 ∧ ∀ m ∈ ns, 0 ≤ m ∧ m < B) ∧ ∀ es' : List D, es'.Perm es → Q (.lst es') M
    | none => False
  | _ => False
theorem RepAll.each {K : PySem.W.Frag} {F : Hp} : ∀ {xs : List V} {ds : List D}, RepAll K F xs ds → ∀ x ∈ xs, ∃ d ∈ ds, Rep K F x d
  | _, _, .nil, x, h => by cases h
  | _, _, .cons r t, x, h => by
    rcases List.mem_cons.mp h with rfl | h
    · exact ⟨_, List.mem_cons_self, r⟩
    · obtain ⟨d, hd, r'⟩ := RepAll.each t x h
      exact ⟨d, List.mem_cons_of_mem _ hd, r'⟩
theorem cd_sortedU {X : Cx} {F0 : Bs} {B : Int} : CallR X (.builtin "sorted") (liC X.K F0 (dSortedU B)) := by
  refine caImp (cr_sortT (d := 2) (B := B) (by decide)) fun xs H Q ⟨F, R, M, ds, Q', e0, st, ra, q, k⟩ => ?_
  unfold dSortedU at q
  split at q <;> try exact q.elim
  obtain ⟨x, rfl, r⟩ := rep1 ra
  split at q <;> try exact q.elim
  rename_i es h1
  obtain ⟨a, vs, rfl, hs, rv⟩ := ls_get st r h1
  obtain ⟨q1, q2, q3⟩ := q
  refine ⟨a, vs, rfl, hs, by rw [rv.len]; exact q1, fun x hx => ?_, fun ys p hp _ hh => ?_⟩
  · obtain ⟨d, hd, rd⟩ := rv.each x hx
    obtain ⟨ns, rfl, hl, hb⟩ := q2 d hd
    obtain ⟨t, us, rfl, ht, ru⟩ := tp_get st rd
    have := RepAll.ints ru
    subst this
    exact ⟨ns, ⟨t, rfl, ht⟩, hl, hb⟩
  · obtain ⟨es', pe, re⟩ := RepAll.perm hp rv
    exact k.lst st hh re (q3 es' pe)
theorem s_sortedU {B : Int} {es : List D} {x : D} {M : Mp} {Q : QD} (e : lsOf M x = some es) (h1 : es.length < 64) (h2 : ∀ e ∈ es, ∃ ns : List Int, e = .tup (ns.map D.int) ∧ ns.length = 2 ∧ ∀ m ∈ ns, 0 ≤ m ∧ m < B) (h : ∀ es' : List D, es'.Perm es → Q (.lst es') M) : dSortedU B [x] M Q := by
  unfold dSortedU
  simp only [e]
  exact ⟨h1, h2, h⟩
end DL

namespace L2
open PySem PySem.Spec PyProof.Rows
section
variable {prog : Program} {w : World} {A : Around} {E : Value → Shared → Prop} {s : Shared} {Q : Value → Shared → Prop} {t : Addr} {its : List Value} {ns : List Int}
theorem sum_rawT (hh : A.handled = none) (hl : s.heap.IsTuple t its.toArray) (hi : IntsAre its ns)
    (h : ∀ h' tk t', (∀ b o, s.heap.get? b = some o → h'.get? b = some o) → Q (.int ns.sum t') { s with heap := h', toks := tk }) : wpAny (model prog w) A (call (.builtin "sum") [.ref t]) Q E s := by
  obtain ⟨xs, e⟩ := hi.allInts.items
  have hn : numsOf (intItems xs).toList = ns := by rw [← e]; exact hi.numsOf
  rw [nums_intItems] at hn
  rw [e] at hl
  refine PySem.W.ktm_sumG hh hl fun h' tk t' hk => ?_
  have := h h' tk t' hk
  rw [preSum_eq, List.take_of_length_le (by simp), hn]; exact this
end
end L2
namespace DL
open PySem PySem.Spec PyProof.Rows L2 LamX NdefX
/-- sum of a list or a tuple of ints -/
def dSumA : RC := fun ds M Q => match ds with
  | [d] => match sqOf M d with
    | some xs => match intsOf xs with
      | some ns => Q (.int ns.sum) M
      | none => False
    | none => False
  | _ => False
theorem cr_sumA {X : Cx} (hc : X.calm = true) : CallR X (.builtin "sum") (fun vs H Q => ∃ (a : Addr) (ns : List Int), vs = [V.ref a] ∧ (SqL X.K H a (ns.map V.int) ∨ SqT X.K H a (ns.map V.int)) ∧ Q (.int ns.sum) H) := by
  intro pins s σ H vs us Q I r h
  obtain ⟨a, ns, rfl, hs | hs, q⟩ := h
  · exact cr_sum hc pins s σ H _ us Q I r ⟨a, ns, rfl, hs, q⟩
  · obtain ⟨its, rv, hl, _⟩ := I.tuple hs
    rw [Vals.ref1 r]
    exact sum_rawT (I.ok.hd hc) hl rv.ints fun h' tk t' hk => ⟨.int _, H, I.kept hk, ⟨_, rfl⟩, q⟩
theorem cd_sumA {X : Cx} {F0 : Bs} (hc : X.calm = true) : CallR X (.builtin "sum") (liC X.K F0 dSumA) := by
  refine caImp (cr_sumA hc) fun xs H Q ⟨F, R, M, ds, Q', e0, st, rs, q, k⟩ => ?_
  unfold dSumA at q
  split at q <;> try exact q.elim
  obtain ⟨x, rfl, r⟩ := rep1 rs
  split at q <;> try exact q.elim
  rename_i ys h1
  split at q <;> try exact q.elim
  rename_i bs h2
  obtain ⟨a, vs, rfl, hs, ra⟩ := sq_get st r h1
  rw [ints_eq h2] at ra
  have ev := ra.ints
  subst ev
  exact ⟨a, bs, rfl, hs, k _ _ _ _ _ Ext.refl st (.int _) q⟩
theorem s_sumA {ns : List Int} {x : D} {M : Mp} {Q : QD} {ds : List D} (e : sqOf M x = some ds) (e2 : intsOf ds = some ns) (h : Q (.int ns.sum) M) : dSumA [x] M Q := by unfold dSumA; simp only [e, e2]; exact h
/-! two sources, the steps -/
section
variable {τ : SD} {M : Mp} {Q : QD}
def kLc2 (fin : List D → Mp → QD → Prop) (plain : Bool) (is vs : List Nat) (tt : DT) (wi1 : DTI) (plain1 : Bool) (is1 vs1 : List Nat) (tt1 : DT) (te : DE) (τ : SD) (Q : QD) : ItD → Mp → Prop := fun j M1 => ∃ Pv : Nat → List D → Mp → Prop, Pv 0 [] M1 ∧ (∀ i acc M, i ≤ j.n → Pv i acc M → j.ok M) ∧
  (∀ i acc M, i < j.n → Pv i acc M → match bindD plain is (j.at' i) (wipeD τ vs) with
    | some τ2 => tt τ2 M fun b M3 => if b = true then wi1 τ2 M3 fun j1 M4 => ∃ P1 : Nat → List D → Mp → Prop, P1 0 acc M4 ∧ (∀ k acc M, k ≤ j1.n → P1 k acc M → j1.ok M) ∧
        (∀ k acc M, k < j1.n → P1 k acc M → match bindD plain1 is1 (j1.at' k) (wipeD τ2 vs1) with
          | some τ3 => tt1 τ3 M fun b M5 => if b = true then te τ3 M5 fun e M6 => acc.length < sizeLine ∧ P1 (k + 1) (acc ++ [e]) M6 else P1 (k + 1) acc M5
          | none => False) ∧ ∀ acc M, P1 j1.n acc M → Pv (i + 1) acc M
      else Pv (i + 1) acc M3
    | none => False) ∧ ∀ acc M, Pv j.n acc M → fin acc M Q
theorem s_lc2 {fin : List D → Mp → QD → Prop} {wi wi1 : DTI} {plain plain1 : Bool} {is vs is1 vs1 : List Nat} {tt tt1 : DT} {te : DE} (h : wi τ M (kLc2 fin plain is vs tt wi1 plain1 is1 vs1 tt1 te τ Q)) : dLc2G fin wi plain is vs tt wi1 plain1 is1 vs1 tt1 te τ M Q := h
/-- over data that nobody changes, behind each of it over a range -/
theorem s_klc2 {fin : List D → Mp → QD → Prop} {wi1 : DTI} {plain : Bool} {is vs vs1 : List Nat} {i1 : Nat} {te : DE} {α : Type} {x : D} {xs : List α} (enc : α → D) (n : α → Nat) (f : α → Nat → D) (hx : ∀ M, sqOf M x = some (xs.map enc)) (hl : (xs.flatMap fun a => (List.range (n a)).map (f a)).length ≤ sizeLine)
    (hs : ∀ a ∈ xs, ∃ τ2, bindD plain is (enc a) (wipeD τ vs) = some τ2 ∧ (∀ QI : ItD → Mp → Prop, QI (itRng 0 (n a)) M → wi1 τ2 M QI) ∧ ∀ (k : Nat) (Q : QD), k < n a → Q (f a k) M → te ((wipeD τ2 vs1).set i1 (some (.int (0 + (k : Nat))))) M Q)
    (hd : fin (xs.flatMap fun a => (List.range (n a)).map (f a)) M Q) : kLc2 fin plain is vs dYes wi1 true [i1] vs1 dYes te τ Q (itSeq x (xs.map enc)) M := by
  refine ⟨fun i acc M' => M' = M ∧ acc = (xs.take i).flatMap fun a => (List.range (n a)).map (f a), ⟨rfl, rfl⟩, fun i acc M' hi p => hx M', fun i acc M' hi p => ?_, fun acc M' p => ?_⟩
  · obtain ⟨rfl, rfl⟩ := p
    have hi : i < (xs.map enc).length := hi
    rw [List.length_map] at hi
    have e := List.getElem?_eq_getElem hi
    obtain ⟨τ2, e2, k1, k2⟩ := hs xs[i] (List.getElem_mem hi)
    have e3 : (itSeq x (xs.map enc)).at' i = enc xs[i] := getD_of (by rw [List.getElem?_map, e]; rfl)
    have e4 : xs.take (i + 1) = xs.take i ++ [xs[i]] := by rw [List.take_succ, e]; rfl
    have e5 : xs = xs.take i ++ (xs[i] :: xs.drop (i + 1)) := by rw [← List.drop_eq_getElem_cons hi, List.take_append_drop]
    have hl2 : ((xs.take i).flatMap fun a => (List.range (n a)).map (f a)).length + n xs[i] ≤ sizeLine := by
      refine Nat.le_trans ?_ hl
      have : xs.flatMap (fun a => (List.range (n a)).map (f a)) = (xs.take i ++ (xs[i] :: xs.drop (i + 1))).flatMap (fun a => (List.range (n a)).map (f a)) := congrArg (fun l => l.flatMap fun a => (List.range (n a)).map (f a)) e5
      rw [this, List.flatMap_append, List.flatMap_cons, List.length_append, List.length_append, List.length_map, List.length_range]
      omega
    rw [e3, e2]
    refine k1 _ ⟨fun k acc M2 => M2 = M' ∧ acc = ((xs.take i).flatMap fun a => (List.range (n a)).map (f a)) ++ (List.range k).map (f xs[i]), ⟨rfl, by simp⟩, fun _ _ _ _ _ => trivial, fun k acc M2 hk p => ?_, fun acc M2 p => ?_⟩
    · obtain ⟨rfl, rfl⟩ := p
      have hk : k < n xs[i] := hk
      refine k2 k _ hk ⟨?_, rfl, ?_⟩
      · rw [List.length_append, List.length_map, List.length_range]; omega
      · rw [List.range_succ, List.map_append, List.append_assoc]; rfl
    · obtain ⟨rfl, rfl⟩ := p
      refine ⟨rfl, ?_⟩
      rw [e4, List.flatMap_append, List.flatMap_cons, List.flatMap_nil, List.append_nil]; rfl
  · obtain ⟨rfl, rfl⟩ := p
    have e : xs.take (itSeq x (xs.map enc)).n = xs := List.take_of_length_le (by show _ ≤ (xs.map enc).length; rw [List.length_map]; exact Nat.le_refl _)
    rw [e]
    exact hd
end
/-- over data that does not change meanwhile, each item gives one, and M stays -/
theorem s_klcMapM {plain : Bool} {is vs : List Nat} {fin : List D → Mp → QD → Prop} {te : DE} {τ : SD} {M : Mp} {Q : QD} {x : D} {α : Type} {xs : List α} (enc : α → D) (f : α → D) (hx : sqOf M x = some (xs.map enc)) (hl : xs.length ≤ sizeLine)
    (hs : ∀ a ∈ xs, ∃ τ2, bindD plain is (enc a) (wipeD τ vs) = some τ2 ∧ ∀ Q : QD, Q (f a) M → te τ2 M Q) (hd : fin (xs.map f) M Q) : kLc fin plain is vs dYes te τ Q (itSeq x (xs.map enc)) M := by
  refine ⟨fun i acc M' => M' = M ∧ acc = (xs.map f).take i, ⟨rfl, rfl⟩, fun i acc M' hi p => by rw [p.1]; exact hx, fun i acc M' hi p => ?_, fun acc M' p => ?_⟩
  · obtain ⟨rfl, rfl⟩ := p
    have hi : i < (xs.map enc).length := hi
    rw [List.length_map] at hi
    have e := List.getElem?_eq_getElem hi
    obtain ⟨τ2, e2, k⟩ := hs xs[i] (List.getElem_mem hi)
    have e3 : (itSeq x (xs.map enc)).at' i = enc xs[i] := getD_of (by rw [List.getElem?_map, e]; rfl)
    rw [e3, e2]
    refine k _ ⟨?_, rfl, ?_⟩
    · rw [List.length_take, List.length_map]; omega
    · rw [List.take_succ, List.getElem?_map, e]; rfl
  · obtain ⟨rfl, rfl⟩ := p
    have e : (xs.map f).take (itSeq x (xs.map enc)).n = xs.map f := List.take_of_length_le (by show _ ≤ (xs.map enc).length; rw [List.length_map, List.length_map]; exact Nat.le_refl _)
    rw [e]
    exact hd
theorem sq_same {M M' : Mp} {a : Addr} {c : D} (h : ∀ b, b ≠ a → M' b = M b) (hc : c ≠ .ref a) : sqOf M' c = sqOf M c := by
  cases c with
  | ref b =>
    have hb : b ≠ a := fun z => hc (by rw [z])
    show (match M' b with | some (.lst ds) => some ds | _ => none) = (match M b with | some (.lst ds) => some ds | _ => none)
    rw [h b hb]
  | _ => rfl
end DL

namespace DL
open PySem PySem.Spec PyProof.Rows L2
/-! the steps by name -/
local macro_rules | `(tactic| walk_at "set") => `(tactic| ((try simp only [setAll, updM_updM, Int.reduceToNat, List.set_cons_zero, List.set_cons_succ]); exact rfl))
local macro_rules | `(tactic| walk_at "sq") => `(tactic| first | exact rfl | exact sqOf_ref (by assumption) | exact sqOf_ref updM_same)
local macro_rules | `(tactic| walk_at "ls") => `(tactic| first | exact rfl | exact lsOf_ref (by assumption) | exact lsOf_ref updM_same)
local macro_rules | `(tactic| walk_at "s") => `(tactic| first
  | with_reducible refine s_seq ?_
  | with_reducible refine s_op ?_
  | ((with_reducible refine' s_var ?e ?_); (case e => exact rfl))
  | with_reducible refine s_kop1 ?_
  | with_reducible refine s_c ?_
  | with_reducible refine s_kop2 ?_
  | with_reducible refine s_ifS ?_
  | with_reducible refine s_test ?_
  | with_reducible refine s_kb ?_
  | with_reducible refine s_set ?_
  | ((with_reducible refine' s_kset ?e ?_); (case e => walk_at "set"))
  | with_reducible refine s_next ?_
  | with_reducible refine s_ret ?_
  | with_reducible refine s_cons ?_
  | with_reducible refine s_kcons1 ?_
  | with_reducible refine s_kcons2 ?_
  | with_reducible refine s_nil ?_
  | with_reducible refine s_cb ?_
  | with_reducible refine s_kcb ?_
  | with_reducible refine s_call ?_
  | with_reducible refine s_kcall ?_
  | with_reducible refine s_I0 ?_
  | with_reducible refine s_B0 ?_
  | with_reducible refine s_add ?_
  | ((with_reducible refine' s_eqS ?e ?_); (case e => exact rfl))
  | ((with_reducible refine' s_neS ?e ?_); (case e => exact rfl))
  | with_reducible refine s_isN ?_
  | with_reducible refine s_notN ?_
  | ((with_reducible refine' s_ix ?e ?e2 ?_); (case e => walk_at "sq"); (case e2 => exact rfl))
  | ((with_reducible refine' s_len ?e ?_); (case e => walk_at "sq"))
  | with_reducible refine s_tup ?_
  | ((with_reducible refine' s_ktup ?e ?_); (case e => (simp only [List.length_cons, List.length_nil]; decide)))
  | with_reducible refine s_lst ?_
  | ((with_reducible refine' s_klst ?e ?_); (case e => (simp only [List.length_cons, List.length_nil]; decide)))
  | with_reducible refine s_lstM ?_
  | ((with_reducible refine' s_klstM ?e ?_); (case e => (simp only [List.length_cons, List.length_nil]; decide)))
  | with_reducible refine s_truth ?_
  | with_reducible refine s_tru_bl ?_
  | with_reducible refine s_tru_non ?_
  | with_reducible refine s_tru_int ?_
  | with_reducible refine s_tru_tup ?_
  | with_reducible refine s_tru_lst ?_
  | with_reducible refine s_tand ?_
  | with_reducible refine s_tor ?_
  | with_reducible refine s_tnot ?_
  | with_reducible refine s_ktnot_t ?_
  | with_reducible refine s_ktnot_f ?_
  | with_reducible refine s_ktnot ?_
  | with_reducible refine s_or ?_
  | with_reducible refine s_and ?_
  | with_reducible refine s_not ?_
  | with_reducible refine s_korv ?_
  | with_reducible refine s_kandv ?_
  | with_reducible refine s_knot_t ?_
  | with_reducible refine s_knot_f ?_
  | with_reducible refine s_knot ?_
  | with_reducible refine s_ifE ?_
  | with_reducible refine s_unp ?_
  | ((with_reducible refine' s_kunp ?e ?e2 ?_); (case e => exact rfl); (case e2 => walk_at "set"))
  | with_reducible refine s_store ?_
  | with_reducible refine s_kst1 ?_
  | with_reducible refine s_kst2 ?_
  | ((with_reducible refine' s_kst3 ?e ?e2 ?e3 ?_); (case e => first | assumption | exact updM_same); (case e2 => exact rfl); (case e3 => walk_at "set"))
  | with_reducible refine s_un ?_
  | with_reducible refine s_kun ?_
  | with_reducible refine s_neg ?_
  | with_reducible refine s_int ?_
  | with_reducible refine s_intB ?_
  | ((with_reducible refine' s_tuple ?e ?_); (case e => walk_at "sq"))
  | ((with_reducible refine' s_list ?e ?_); (case e => walk_at "sq"))
  | ((with_reducible refine' s_isi ?e ?e2 ?e3 ?_); (case e => decide); (case e2 => exact rfl); (case e3 => first | exact (show isiN _ _ = true by decide) | exact (show isiN _ _ = false by decide)))
  | with_reducible refine s_chain ?_
  | with_reducible refine s_kch0 ?_
  | with_reducible refine s_kch1 ?_
  | with_reducible refine s_kch3 ?_
  | with_reducible refine s_sl ?_
  | with_reducible refine s_ksl0 ?_
  | with_reducible refine s_ksl1 ?_
  | with_reducible refine s_ksl2T ?_
  | with_reducible refine s_ksl2L ?_
  | with_reducible refine s_ksl2K ?_
  | with_reducible refine s_nopart ?_
  | with_reducible refine s_part ?_
  | with_reducible refine s_kpart ?_
  | with_reducible refine s_drop ?_
  | with_reducible refine s_kdrop ?_
  | with_reducible refine s_retN ?_
  | with_reducible refine s_mtL ?_
  | ((with_reducible refine' s_kmtL ?e ?_); (case e => first | exact isLst_ref (by assumption) | exact isLst_ref updM_same))
  | with_reducible refine s_kmt ?_
  | with_reducible refine s_mt0 ?_
  | with_reducible refine s_kmt0 ?_
  | with_reducible refine s_lc ?_
  | with_reducible refine s_for ?_
  | with_reducible refine s_seqI ?_
  | ((with_reducible refine' s_kseq ?e ?_); (case e => walk_at "sq"))
  | with_reducible refine s_rng1 ?_
  | with_reducible refine s_rng2 ?_
  | with_reducible refine s_rngA ?_
  | with_reducible refine s_kra ?_
  | with_reducible refine s_max2 ?_
  | with_reducible refine s_min2 ?_
  | with_reducible refine s_wh_t ?_
  | with_reducible refine s_wh_f ?_
  | with_reducible refine s_par ?_
  | ((with_reducible refine' s_kpar ?e ?_); (case e => exact rfl))
  | with_reducible refine s_break ?_
  | with_reducible refine s_cont ?_
  | ((with_reducible refine' s_aug ?e ?_); (case e => exact rfl))
  | with_reducible refine b_true ?_
  | with_reducible refine b_false ?_
  | with_reducible refine s_ktand_t ?_
  | with_reducible refine s_ktand_f ?_
  | with_reducible refine s_ktor_t ?_
  | with_reducible refine s_ktor_f ?_
  | with_reducible refine s_kor_t ?_
  | with_reducible refine s_kor_f ?_
  | with_reducible refine s_kand_t ?_
  | with_reducible refine s_kand_f ?_)
/-! a branch -/
local macro_rules | `(tactic| walk_at "b") => `(tactic| first
  | ((with_reducible_and_instances refine b_dec ?bt ?bf) <;> intro hc)
  | ((with_reducible_and_instances refine b_ndec ?bt ?bf) <;> intro hc)
  | ((with_reducible_and_instances refine s_wh_d ?bt ?bf) <;> intro hc)
  | ((with_reducible_and_instances refine s_wh_nd ?bt ?bf) <;> intro hc)
  | ((with_reducible_and_instances refine s_ktand_d ?bt ?bf) <;> intro hc)
  | ((with_reducible_and_instances refine s_ktor_d ?bt ?bf) <;> intro hc)
  | ((with_reducible_and_instances refine s_ktand_nd ?bt ?bf) <;> intro hc)
  | ((with_reducible_and_instances refine s_ktor_nd ?bt ?bf) <;> intro hc)
  | ((with_reducible_and_instances refine s_kand_d ?bt ?bf) <;> intro hc)
  | ((with_reducible_and_instances refine s_kor_d ?bt ?bf) <;> intro hc)
  | ((with_reducible_and_instances refine s_kifE_d ?bt ?bf) <;> intro hc)
  | ((with_reducible_and_instances refine s_kch2 ?bt ?bf) <;> intro hc))
local macro_rules | `(tactic| walk_at "g") => `(tactic| (repeat' (first | walk_at "s" | walk_at "b")))
local macro_rules | `(tactic| walk_at "w") => `(tactic| (walk_at "g" <;> repeat' (simp only [D.isN, Bool.not_true, Bool.not_false]; walk_at "g")))

structure StOk (M : Mp) (a : Addr) : Prop where
  ex : ∃ (ns : List Int) (i c k : Int) (b : Bool), M a = some (.lst [.lst (ns.map .int), .int i, .int c, .int k, .bl b]) ∧ 0 ≤ i
structure Drawn (M : Mp) (a : Addr) (M' : Mp) : Prop where
  ok : StOk M' a
  same : ∀ b, b ≠ a → M' b = M b
theorem Drawn.trans {M M1 M2 : Mp} {a : Addr} (h : Drawn M a M1) (g : Drawn M1 a M2) : Drawn M a M2 := ⟨g.ok, fun b hb => (g.same b hb).trans (h.same b hb)⟩
theorem Drawn.of {M : Mp} {a : Addr} {ns : List Int} {i c k : Int} {b : Bool} (hi : 0 ≤ i) : Drawn M a (updM M a (.lst [.lst (ns.map .int), .int i, .int c, .int k, .bl b])) := ⟨⟨_, _, _, _, _, updM_same, hi⟩, fun _ h => updM_ne h⟩
def sp_law_draw : SpD := fun ds M Q _ => ∃ a lim, ds = [.ref a, .int lim] ∧ 0 < lim ∧ lim < 2 ^ 64 ∧ StOk M a ∧ ∀ d M', 0 ≤ d → d < lim → Drawn M a M' → Q (.int d) M'
def sp_law_state : SpD := fun ds M Q _ => ∃ ns : List Int, ds = [.lsk (ns.map .int)] ∧ ns.length ≤ 63 ∧ ∀ a M', M a = none → StOk M' a → (∀ b, b ≠ a → M' b = M b) → Q (.ref a) M'

/-! ### forms, the plain part -/
def encO : Option Int → D
  | none => .non
  | some i => .int i
def encP (p : Option Int × Int) : D := .tup [encO p.1, .int p.2]
structure Frm where
  head : List (Option Int)
  tail : List (Option Int × Int)
def Frm.enc (f : Frm) : D := .tup [.tup (f.head.map encO), .tup (f.tail.map encP)]
def tailVal (p : Option Int × Int) (k : Int) : Option Int := p.1.map fun v => v + p.2 * k
/-- the value at x -/
def Frm.val (f : Frm) (x : Int) : Option Int :=
  if x < 0 then none else if x < f.head.length then f.head.getD x.toNat none
  else tailVal (f.tail.getD ((x - f.head.length) % f.tail.length).toNat (none, 0)) ((x - f.head.length) / f.tail.length)
/-- its numbers are below 2 ^ n in size -/
def Frm.bd (f : Frm) (n : Nat) : Prop := ∀ p ∈ f.tail, p.2.natAbs < 2 ^ n
theorem encO_isN (v : Option Int) : (encO v).isN = v.isNone := by cases v <;> rfl
abbrev k_MAX_HEAD : D := .int 4000
abbrev k_MAX_PERIOD : D := .int 1000
def sp_value_at : SpD := fun ds M Q _ => ∃ (f : Frm) (x : Int) (n m : Nat), ds = [f.enc, .int x] ∧ 0 < f.tail.length ∧ f.tail.length ≤ 1000000 ∧ f.bd n ∧ x.natAbs < 2 ^ m ∧ 0 < n ∧ 0 < m ∧ n + m ≤ 1000000 ∧ f.head.length < 2 ^ m ∧ Q (encO (f.val x)) M

/-! ### the law's own -/
def small (i : Int) : Prop := i.natAbs < 2 ^ 100
def smallO (v : Option Int) : Prop := ∀ i, v = some i → small i
def smallP (p : Option Int × Int) : Prop := smallO p.1 ∧ small p.2 ∧ (p.1 = none → p.2 = 0)
structure GoodF (f : Frm) (heads size : Nat) : Prop where
  hl : f.head.length ≤ heads
  t0 : 0 < f.tail.length
  tl : f.tail.length ≤ size
  sm : ∀ p ∈ f.tail, smallP p
def Dr (a : Addr) (M : Mp) (d : D) (Q : QD) : Prop := ∀ M', Drawn M a M' → Q d M'
def sp_law_number : SpD := fun ds M Q _ => ∃ a, ds = [.ref a] ∧ StOk M a ∧ ∀ i M', small i → Drawn M a M' → Q (.int i) M'
def sp_law_far : SpD := fun ds M Q _ => ∃ a, ds = [.ref a] ∧ StOk M a ∧ ∀ i M', 0 ≤ i → i < 2 ^ 190 → Drawn M a M' → Q (.int i) M'
def sp_law_member : SpD := fun ds M Q _ => ∃ a, ds = [.ref a] ∧ StOk M a ∧ ∀ v M', smallO v → Drawn M a M' → Q (encO v) M'
def sp_law_pair : SpD := fun ds M Q _ => ∃ a k, ds = [.ref a, .int k] ∧ 0 ≤ k ∧ k < 10 ∧ StOk M a ∧ ∀ p M', smallP p → Drawn M a M' → Q (encP p) M'
def sp_law_form : SpD := fun ds M Q _ => ∃ (a : Addr) (heads size : Int) (kinds : List Int), ds = [.ref a, .int heads, .int size, .lst (kinds.map .int)] ∧ 0 ≤ heads ∧ heads < 1000 ∧ 0 < size ∧ size < 1000 ∧ 0 < kinds.length ∧ kinds.length < 100 ∧ (∀ k ∈ kinds, 0 ≤ k ∧ k < 10) ∧ StOk M a ∧
  ∀ f M', GoodF f heads.toNat size.toNat → (∀ v ∈ f.head, smallO v) → Drawn M a M' → Q f.enc M'
def sp_law_value : SpD := sp_value_at

/-! ### payments from a holding -/
abbrev k_MAX_CHOICES : D := .int 20000
abbrev encI (r : List Int) : D := .lst (r.map .int)
abbrev encT (r : List Int) : D := .tup (r.map .int)
abbrev encH (p : Int × Int) : D := .tup [.int p.1, .int p.2]
def wide (found : List (List Int)) (t : Int) : List (List Int) := found.flatMap fun row => (List.range (t + 1).toNat).map fun k : Nat => row ++ [(k : Int)]
def allR (ts : List Int) (found : List (List Int)) : List (List Int) := ts.foldl wide found
def rowsOf (ts : List Int) : List (List Int) := allR ts [[]]
def prodN : List Int → Nat
  | [] => 1
  | t :: ts => (t + 1).toNat * prodN ts
def wor (hs : List (Int × Int)) (r : List Int) : Int := ((List.range r.length).map fun i => (hs.getD i (0, 0)).1 * r.getD i 0).sum
def rankD (hs : List (Int × Int)) (r : List Int) : D := .tup [.int (wor hs r), .int r.sum, .lst (r.reverse.map fun x => .int (-x))]
def rankP (hs : List (Int × Int)) (r : List Int) : PyData := .tuple [.int (wor hs r), .int r.sum, .list (r.reverse.map fun x => .int (-x))]
def ltR (hs : List (Int × Int)) (r b : List Int) : Bool := PySem.W.dataLt (rankP hs r) (rankP hs b)
def stepB (hs : List (Int × Int)) (price most : Int) (b : Option (List Int)) (r : List Int) : Option (List Int) :=
  if r.sum ≤ most ∧ price ≤ wor hs r then (match b with
    | none => some r
    | some b => if ltR hs r b = true then some r else some b) else b
def bestO (hs : List (Int × Int)) (price most : Int) (rows : List (List Int)) : Option (List Int) := rows.foldl (stepB hs price most) none
def encR (hs : List (Int × Int)) : Option (List Int) → D
  | none => .non
  | some r => .tup [.int (wor hs r), encT r]
def Tops (ts : List Int) : Prop := ts.length ≤ 100 ∧ (∀ t ∈ ts, 0 ≤ t ∧ t ≤ 1000) ∧ prodN ts ≤ 1000000
def Hol (hs : List (Int × Int)) : Prop := Tops (hs.map (·.2)) ∧ ∀ p ∈ hs, 0 ≤ p.1 ∧ p.1 ≤ 1000000
def RowOk (hs : List (Int × Int)) (r : List Int) : Prop := r.length = hs.length ∧ ∀ x ∈ r, 0 ≤ x ∧ x ≤ 1000
def sp_all_numbers : SpD := fun ds M Q _ => ∃ ts : List Int, ds = [encI ts] ∧ Tops ts ∧ Q (.lst ((rowsOf ts).map encI)) M
def sp_best_from (C : Ct) : SpD := fun ds M Q E => ∃ (hs : List (Int × Int)) (price most : Int), ds = [.tup (hs.map encH), .int price, .int most] ∧ Hol hs ∧
  (prodN (hs.map (·.2)) ≤ 20000 → Q (encR hs (bestO hs price most (rowsOf (hs.map (·.2))))) M) ∧ (20000 < prodN (hs.map (·.2)) → E (exV C "TooLarge") none M)
def sp_law_all : SpD := fun ds M Q _ => ∃ hs : List (Int × Int), ds = [.tup (hs.map encH)] ∧ Hol hs ∧ ∀ d M', (d = .lst ((rowsOf (hs.map (·.2))).map encT) ∧ M' = M ∨ ∃ t, M t = none ∧ d = .ref t ∧ M' = updM M t (.lst ((rowsOf (hs.map (·.2))).map encT))) → Q d M'
def sp_law_worth : SpD := fun ds M Q _ => ∃ (x : D) (hs : List (Int × Int)) (r : List Int), ds = [x, encT r] ∧ sqOf M x = some (hs.map encH) ∧ RowOk hs r ∧ (∀ p ∈ hs, 0 ≤ p.1 ∧ p.1 ≤ 1000000) ∧ hs.length ≤ 100 ∧ Q (.int (wor hs r)) M
def sp_law_best : SpD := fun ds M Q _ => ∃ (x c : D) (hs : List (Int × Int)) (rows : List (List Int)) (price most : Int), ds = [x, c, .int price, .int most] ∧ sqOf M x = some (hs.map encH) ∧ sqOf M c = some (rows.map encT) ∧ (∀ r ∈ rows, RowOk hs r) ∧ (∀ p ∈ hs, 0 ≤ p.1 ∧ p.1 ≤ 1000000) ∧ hs.length ≤ 100 ∧ Q (encR hs (bestO hs price most rows)) M
def sp_law_is : SpD := fun ds M Q _ => ∃ (hs : List (Int × Int)) (o : Option (List Int)), ds = [encR hs o, encR hs o] ∧ (∀ r, o = some r → r.length ≤ 100) ∧ Q (.bl true) M

def sp_law_holding : SpD := fun ds M Q _ => ∃ a, ds = [.ref a] ∧ StOk M a ∧ ∀ (hs : List (Int × Int)) M', Hol hs → prodN (hs.map (·.2)) ≤ 20000 → hs.length ≤ 10 → Drawn M a M' → Q (.tup (hs.map encH)) M'
def sp_law_wide_holds : SpD := fun ds M Q _ => ∃ a, ds = [.ref a] ∧ StOk M a ∧ ∀ M', Drawn M a M' → Q (.bl true) M'
def sp_law_many : SpD := fun ds M Q _ => ∃ a, ds = [.ref a] ∧ StOk M a ∧ ∀ d M', d = .bl true → Q d M'
abbrev sp_law : SpD := spLawD

def t_all_numbers : DS :=
    (dSeq (dSet 1 (dLst (dCons (dLst dNil) dNil)))
    (dSeq (dFor (iSeqD (dVar 0)) (gD true [2]) (dSet 1 (dLc2 (iSeqD (dVar 1)) true [3] [3, 4] dYes (iRng1D (dCons (dOp dAdd (dVar 2) (dC (.int 1))) dNil)) true [4] [4] dYes (dOp dAdd (dVar 3) (dLst (dCons (dVar 4) dNil))))))
    (dRet (dVar 1))))
abbrev n_all_numbers : List Str := ["tops", "found", "top", "row", "number"]
def t_best_from_c3 : DS :=
    (dSeq (dSet 6 (dC .non))
    (dSeq (dFor (iSeqD (dCall sp_all_numbers E0D (dCons (dLc (iSeqD (dVar 0)) false [4, 5] [4, 5] dYes (dVar 5)) dNil))) (gD true [7]) (dSeq (dSet 8 (dCB dSumA (dCons (dVar 7) dNil)))
    (dSeq (dSet 9 (dCB dSumA (dCons (dLc (iRng1D (dCons (dCB dLen (dCons (dVar 7) dNil)) dNil)) true [10] [10] dYes (dOp dMul (dOp dIx (dOp dIx (dVar 0) (dVar 10)) (dC (.int 0))) (dOp dIx (dVar 7) (dVar 10)))) dNil)))
    (dIfS (dTAnd (dTest (dOp dLe (dVar 8) (dVar 2))) (dTest (dOp dGe (dVar 9) (dVar 1)))) (dSeq (dSet 11 (dTup (dCons (dVar 9) (dCons (dVar 8) (dCons (dLc (iRevA (dVar 7)) true [5] [5] dYes (dUn dNeg (dVar 5))) dNil)))))
    (dIfS (dTOr (dTest (dOp dIsN (dVar 6) (dC .non))) (dTest (dOp dLtD (dVar 11) (dOp dIx (dVar 6) (dC (.int 0)))))) (dSet 6 (dTup (dCons (dVar 11) (dCons (dCB dTuple (dCons (dVar 7) dNil)) dNil)))) dNext)) dNext))))
    (dRet (dIf (dTest (dOp dIsN (dVar 6) (dC .non))) (dC .non) (dTup (dCons (dOp dIx (dOp dIx (dVar 6) (dC (.int 0))) (dC (.int 0))) (dCons (dOp dIx (dVar 6) (dC (.int 1))) dNil)))))))
def t_best_from (C : Ct) (E : XD) : DS :=
    (dSeq (dSet 3 (dC (.int 1)))
    (dSeq (dFor (iSeqD (dVar 0)) (gD false [4, 5]) (dAug 3 (dOp dAdd (dVar 5) (dC (.int 1))) (dI CMul fun i j => i * j)))
    (dSeq (dIfS (dTest (dOp dGt (dVar 3) (dC k_MAX_CHOICES))) (dRaise (exV C "TooLarge") E) dNext)
    t_best_from_c3)))
abbrev n_best_from : List Str := ["holding", "price", "most", "choices", "_", "number", "best", "numbers", "count", "worth", "index", "rank"]
def t_law_state : DS :=
    (dRet (dLstM (dCons (dCB dList (dCons (dVar 0) dNil)) (dCons (dC (.int 0)) (dCons (dC (.int 0)) (dCons (dC (.int 0)) (dCons (dC (.bl false)) dNil)))))))
abbrev n_law_state : List Str := ["script"]
def t_law_draw : DS :=
    (dSeq (dIfS (dTest (dOp dEq (dOp dIx (dVar 0) (dC (.int 3))) (dC (.int 0)))) (dSeq (dIfS (dTest (dOp dGe (dOp dIx (dVar 0) (dC (.int 1))) (dCB dLen (dCons (dOp dIx (dVar 0) (dC (.int 0))) dNil)))) (dRet (dC (.int 0))) dNext)
    (dSeq (dSet 2 (dOp dIx (dOp dIx (dVar 0) (dC (.int 0))) (dOp dIx (dVar 0) (dC (.int 1)))))
    (dSeq (dIfS (dTest (dOp dLt (dVar 2) (dC (.int 0)))) (dSet 2 (dOp dSub (dUn dNeg (dC (.int 1))) (dVar 2))) dNext)
    (dSeq (dStore (dOp dAdd (dOp dIx (dVar 0) (dC (.int 1))) (dC (.int 1))) (dVar 0) (dC (.int 1)) dSetL)
    (dSeq (dStore (dVar 2) (dVar 0) (dC (.int 2)) dSetL)
    (dSeq (dStore (dOp dGe (dVar 2) (dOp dPow (dC (.int 10)) (dC (.int 18)))) (dVar 0) (dC (.int 4)) dSetL)
    (dSeq (dStore (dC (.int 6)) (dVar 0) (dC (.int 3)) dSetL)
    (dIfS (dTruth (dOp dIx (dVar 0) (dC (.int 4)))) (dStore (dC (.int 60)) (dVar 0) (dC (.int 3)) dSetL) dNext)))))))) dNext)
    (dSeq (dStore (dOp dSub (dOp dIx (dVar 0) (dC (.int 3))) (dC (.int 1))) (dVar 0) (dC (.int 3)) dSetL)
    (dSeq (dIfS (dTruth (dOp dIx (dVar 0) (dC (.int 4)))) (dSeq (dSet 3 (dOp dMod (dCB dInt (dCons (dOp dIx (dVar 0) (dC (.int 2))) dNil)) (dVar 1)))
    (dSeq (dStore (dOp dFdiv (dOp dIx (dVar 0) (dC (.int 2))) (dVar 1)) (dVar 0) (dC (.int 2)) dSetL)
    (dSeq (dIfS (dTest (dOp dEq (dOp dIx (dVar 0) (dC (.int 2))) (dC (.int 0)))) (dStore (dC (.int 0)) (dVar 0) (dC (.int 3)) dSetL) dNext)
    (dRet (dVar 3))))) dNext)
    (dSeq (dSet 4 (dOp dMod (dCB dInt (dCons (dOp dAdd (dOp dAdd (dOp dMul (dOp dIx (dVar 0) (dC (.int 2))) (dC (.int 48271))) (dOp dMul (dOp dIx (dVar 0) (dC (.int 3))) (dC (.int 69621)))) (dC (.int 7))) dNil)) (dC (.int 2147483647))))
    (dSeq (dSet 4 (dOp dMod (dCB dInt (dCons (dOp dAdd (dOp dAdd (dOp dMul (dVar 4) (dVar 4)) (dOp dMul (dOp dIx (dVar 0) (dC (.int 2))) (dC (.int 31)))) (dOp dIx (dVar 0) (dC (.int 3)))) dNil)) (dC (.int 1000003))))
    (dRet (dOp dMod (dCB dInt (dCons (dVar 4) dNil)) (dVar 1))))))))
abbrev n_law_draw : List Str := ["state", "limit", "cell", "digit", "mixed"]
def t_law_holding : DS :=
    (dSeq (dSet 1 (dOp dAdd (dC (.int 1)) (dOp dIx (dLst (dCons (dCall sp_law_draw E0D (dCons (dVar 0) (dCons (dC (.int 9)) dNil))) (dCons (dCall sp_law_draw E0D (dCons (dVar 0) (dCons (dC (.int 300)) dNil))) (dCons (dCall sp_law_draw E0D (dCons (dVar 0) (dCons (dC (.int 90000)) dNil))) dNil)))) (dCall sp_law_draw E0D (dCons (dVar 0) (dCons (dC (.int 3)) dNil))))))
    (dSeq (dSet 2 (dLstM dNil))
    (dSeq (dFor (iRng1D (dCons (dCall sp_law_draw E0D (dCons (dVar 0) (dCons (dC (.int 5)) dNil))) dNil)) (gD true [3]) (dSeq (dSet 4 (dOp dIx (dLst (dCons (dOp dAdd (dVar 1) (dCall sp_law_draw E0D (dCons (dVar 0) (dCons (dC (.int 9)) dNil)))) (dCons (dOp dAdd (dC (.int 1)) (dCall sp_law_draw E0D (dCons (dVar 0) (dCons (dC (.int 20)) dNil)))) (dCons (dCB dMin (dCons (dC (.int 100000)) (dCons (dOp dMul (dVar 1) (dOp dAdd (dC (.int 1)) (dCall sp_law_draw E0D (dCons (dVar 0) (dCons (dC (.int 4)) dNil))))) dNil))) dNil)))) (dCall sp_law_draw E0D (dCons (dVar 0) (dCons (dC (.int 3)) dNil)))))
    (dIfS (dTest (dOp (dIn true) (dVar 4) (dLc (iSeqD (dVar 2)) true [5] [5] dYes (dOp dIx (dVar 5) (dC (.int 0)))))) (dDrop (dMtL dAppend (dVar 2) (dCons (dTup (dCons (dVar 4) (dCons (dOp dAdd (dC (.int 1)) (dCall sp_law_draw E0D (dCons (dVar 0) (dCons (dOp dAdd (dC (.int 4)) (dOp dMul (dC (.int 3)) (dCB dInt (dCons (dOp dLt (dVar 3) (dC (.int 2))) dNil)))) dNil)))) dNil))) dNil))) dNext)))
    (dRet (dCB dTuple (dCons (dCB (dSortedU 1000001) (dCons (dVar 2) dNil)) dNil))))))
abbrev n_law_holding : List Str := ["state", "base", "found", "k", "value", "pair"]
def t_law_all : DS :=
    (dSeq (dSet 1 (dLst (dCons (dTup dNil) dNil)))
    (dSeq (dFor (iSeqD (dVar 0)) (gD false [2, 3]) (dSeq (dSet 4 (dLstM dNil))
    (dSeq (dFor (iSeqD (dVar 1)) (gD true [5]) (dFor (iRng1D (dCons (dOp dAdd (dVar 3) (dC (.int 1))) dNil)) (gD true [6]) (dDrop (dMtL dAppend (dVar 4) (dCons (dOp dAdd (dVar 5) (dTup (dCons (dVar 6) dNil))) dNil)))))
    (dSet 1 (dVar 4)))))
    (dRet (dVar 1))))
abbrev n_law_all : List Str := ["holding", "found", "value", "number", "wider", "row", "k"]
def t_law_worth : DS :=
    (dRet (dCB dSum (dCons (dLc (iRng1D (dCons (dCB dLen (dCons (dVar 1) dNil)) dNil)) true [2] [2] dYes (dOp dMul (dOp dIx (dOp dIx (dVar 0) (dVar 2)) (dC (.int 0))) (dOp dIx (dVar 1) (dVar 2)))) dNil)))
abbrev n_law_worth : List Str := ["holding", "numbers", "at"]
def t_law_best : DS :=
    (dSeq (dSet 4 (dC .non))
    (dSeq (dFor (iSeqD (dVar 1)) (gD true [5]) (dSeq (dSet 6 (dCall sp_law_worth E0D (dCons (dVar 0) (dCons (dVar 5) dNil))))
    (dIfS (dTAnd (dTest (dOp dGe (dVar 6) (dVar 2))) (dTest (dOp dLe (dCB dSumA (dCons (dVar 5) dNil)) (dVar 3)))) (dSeq (dSet 7 (dTup (dCons (dVar 6) (dCons (dCB dSumA (dCons (dVar 5) dNil)) (dCons (dLc (iRevA (dVar 5)) true [8] [8] dYes (dOp dSub (dC (.int 0)) (dVar 8))) dNil)))))
    (dIfS (dTOr (dTest (dOp dIsN (dVar 4) (dC .non))) (dTest (dOp dLtD (dVar 7) (dOp dIx (dVar 4) (dC (.int 0)))))) (dSet 4 (dTup (dCons (dVar 7) (dCons (dTup (dCons (dVar 6) (dCons (dVar 5) dNil))) dNil)))) dNext)) dNext)))
    (dSeq (dIfS (dTest (dOp dIsN (dVar 4) (dC .non))) (dRet (dC .non)) dNext)
    (dRet (dOp dIx (dVar 4) (dC (.int 1)))))))
abbrev n_law_best : List Str := ["holding", "choices", "price", "most", "best", "numbers", "worth", "rank", "k"]
def t_law_is : DS :=
    (dSeq (dIfS (dTest (dOp dIsN (dVar 1) (dC .non))) (dRet (dOp dIsN (dVar 0) (dC .non))) dNext)
    (dSeq (dIfS (dTOr (dTNot (dTruth (dCB dIsi (dCons (dVar 0) (dCons (dC (.ty "tuple")) dNil))))) (dTOr (dTest (dOp dNe (dCB dLen (dCons (dVar 0) dNil)) (dC (.int 2)))) (dTOr (dTNot (dTruth (dCB dIsi (dCons (dOp dIx (dVar 0) (dC (.int 1))) (dCons (dC (.ty "tuple")) dNil))))) (dTest (dOp dNe (dCB dLen (dCons (dOp dIx (dVar 0) (dC (.int 1))) dNil)) (dCB dLen (dCons (dOp dIx (dVar 1) (dC (.int 1))) dNil))))))) (dRet (dC (.bl false))) dNext)
    (dSeq (dFor (iSeqD (dOp dAdd (dTup (dCons (dOp dIx (dVar 0) (dC (.int 0))) dNil)) (dOp dIx (dVar 0) (dC (.int 1))))) (gD true [2]) (dIfS (dTOr (dTNot (dTruth (dCB dIsi (dCons (dVar 2) (dCons (dC (.ty "int")) dNil))))) (dTruth (dCB dIsi (dCons (dVar 2) (dCons (dC (.ty "bool")) dNil))))) (dRet (dC (.bl false))) dNext))
    (dRet (dOp dEq (dVar 0) (dVar 1))))))
abbrev n_law_is : List Str := ["told", "due", "part"]
def t_law_many_c6 (C : Ct) : DS :=
    (dSeq (dFor (iSeqD (dLst (dCons (dVar 6) (dCons (dOp dAdd (dVar 6) (dC (.int 1))) dNil)))) (gD true [9]) (dTry (fun E => (dSet 10 (dCallS (sp_best_from C) E (dCons (dCB dTuple (dCons (dVar 3) dNil)) (dCons (dVar 9) (dCons (dC (.int 500)) dNil)))))) (exV C "TooLarge") (dIfS (dTest (dOp dLe (dVar 4) (dC (.int 20000)))) (dRet (dC (.bl false))) dNext) (dSeq (dIfS (dTest (dOp dGt (dVar 4) (dC (.int 20000)))) (dRet (dC (.bl false))) dNext)
    (dIfS (dTNot (dTruth (dCall sp_law_is E0D (dCons (dVar 10) (dCons (dOp dIx (dLst (dCons (dC .non) (dCons (dTup (dCons (dVar 6) (dCons (dCB dTuple (dCons (dVar 2) dNil)) dNil))) dNil))) (dCB dInt (dCons (dOp dEq (dVar 9) (dVar 6)) dNil))) dNil))))) (dRet (dC (.bl false))) dNext))))
    (dRet (dC (.bl true))))
def t_law_many_c4 (C : Ct) : DS :=
    (dSeq (dFor (iRng1D (dCons (dCB dLen (dCons (dVar 2) dNil)) dNil)) (gD true [5]) (dSeq (dSet 4 (dOp dMul (dVar 4) (dOp dAdd (dOp dIx (dVar 2) (dVar 5)) (dC (.int 1)))))
    (dDrop (dMtL dAppend (dVar 3) (dCons (dTup (dCons (dOp dAdd (dC (.int 1)) (dOp dMul (dC (.int 100)) (dVar 5))) (dCons (dOp dIx (dVar 2) (dVar 5)) dNil))) dNil)))))
    (dSeq (dSet 6 (dCB dSum (dCons (dLc (iSeqD (dVar 3)) false [7, 8] [7, 8] dYes (dOp dMul (dVar 7) (dVar 8))) dNil)))
    (t_law_many_c6 C)))
def t_law_many (C : Ct) : DS :=
    (dSeq (dSet 1 (dLst (dCons (dLst (dCons (dC (.int 4)) (dCons (dC (.int 50)) (dCons (dC (.int 50)) (dCons (dC (.int 1)) (dCons (dC (.int 1)) dNil)))))) (dCons (dLst (dCons (dC (.int 24)) (dCons (dC (.int 15)) (dCons (dC (.int 49)) dNil)))) (dCons (dLst (dCons (dC (.int 25)) (dCons (dC (.int 15)) (dCons (dC (.int 49)) dNil)))) (dCons (dLst (dCons (dC (.int 24)) (dCons (dC (.int 15)) (dCons (dC (.int 50)) dNil)))) (dCons (dLst (dCons (dC (.int 1)) (dCons (dC (.int 1)) (dCons (dC (.int 1)) (dCons (dC (.int 24)) (dCons (dC (.int 49)) (dCons (dC (.int 1)) dNil))))))) (dCons (dLst (dCons (dC (.int 18)) (dCons (dC (.int 18)) (dCons (dC (.int 50)) dNil)))) (dCons (dLst (dCons (dC (.int 27)) (dCons (dC (.int 27)) (dCons (dC (.int 24)) dNil)))) dNil)))))))))
    (dSeq (dSet 2 (dOp dIx (dVar 1) (dCall sp_law_draw E0D (dCons (dVar 0) (dCons (dCB dLen (dCons (dVar 1) dNil)) dNil)))))
    (dSeq (dSet 3 (dLstM dNil))
    (dSeq (dSet 4 (dC (.int 1)))
    (t_law_many_c4 C)))))
abbrev n_law_many : List Str := ["state", "rows", "row", "holding", "choices", "k", "worth", "value", "number", "price", "told"]
def t_law_wide_holds_c4 (C : Ct) : DS :=
    (dSeq (dSet 6 (dCall sp_law_all E0D (dCons (dCB dTuple (dCons (dVar 3) dNil)) dNil)))
    (dSeq (dSet 7 (dOp dIx (dVar 6) (dCall sp_law_draw E0D (dCons (dVar 0) (dCons (dCB dLen (dCons (dVar 6) dNil)) dNil)))))
    (dSeq (dSet 8 (dOp dAdd (dCall sp_law_worth E0D (dCons (dVar 3) (dCons (dVar 7) dNil))) (dCall sp_law_draw E0D (dCons (dVar 0) (dCons (dC (.int 2)) dNil)))))
    (dSeq (dSet 9 (dOp dAdd (dCB dSumA (dCons (dVar 7) dNil)) (dCall sp_law_draw E0D (dCons (dVar 0) (dCons (dC (.int 3)) dNil)))))
    (dRet (dCall sp_law_is E0D (dCons (dCall (sp_best_from C) E0D (dCons (dCB dTuple (dCons (dVar 3) dNil)) (dCons (dVar 8) (dCons (dVar 9) dNil)))) (dCons (dCall sp_law_best E0D (dCons (dVar 3) (dCons (dVar 6) (dCons (dVar 8) (dCons (dVar 9) dNil))))) dNil))))))))
def t_law_wide_holds (C : Ct) : DS :=
    (dSeq (dSet 1 (dOp dAdd (dC (.int 1)) (dCall sp_law_draw E0D (dCons (dVar 0) (dCons (dC (.int 300)) dNil)))))
    (dSeq (dSet 2 (dOp dIx (dLst (dCons (dC (.int 10)) (dCons (dC (.int 2)) dNil))) (dCall sp_law_draw E0D (dCons (dVar 0) (dCons (dC (.int 2)) dNil)))))
    (dSeq (dSet 3 (dLstM dNil))
    (dSeq (dFor (iRng1D (dCons (dVar 2) dNil)) (gD true [4]) (dSeq (dSet 5 (dC (.int 1)))
    (dSeq (dIfS (dTest (dOp dEq (dVar 2) (dC (.int 2)))) (dSet 5 (dOp dAdd (dC (.int 8)) (dCall sp_law_draw E0D (dCons (dVar 0) (dCons (dC (.int 43)) dNil))))) dNext)
    (dDrop (dMtL dAppend (dVar 3) (dCons (dTup (dCons (dOp dAdd (dOp dAdd (dVar 1) (dOp dMul (dVar 4) (dOp dAdd (dC (.int 1)) (dCall sp_law_draw E0D (dCons (dVar 0) (dCons (dC (.int 9)) dNil)))))) (dOp dMul (dC (.int 10)) (dVar 4))) (dCons (dVar 5) dNil))) dNil))))))
    (t_law_wide_holds_c4 C)))))
abbrev n_law_wide_holds : List Str := ["state", "base", "count", "holding", "k", "number", "choices", "numbers", "price", "most"]
def t_law_c4_3 (C : Ct) : DS :=
    (dSeq (dSet 7 (dOp dIx (dLst (dCons (dC (.int 12)) (dCons (dCB dSumA (dCons (dVar 5) dNil)) (dCons (dCall sp_law_draw E0D (dCons (dVar 1) (dCons (dC (.int 13)) dNil))) (dCons (dCB dMax (dCons (dC (.int 0)) (dCons (dOp dSub (dCB dSumA (dCons (dVar 5) dNil)) (dC (.int 1))) dNil))) dNil))))) (dCall sp_law_draw E0D (dCons (dVar 1) (dCons (dC (.int 4)) dNil)))))
    (dIfS (dTNot (dTruth (dCall sp_law_is E0D (dCons (dCall (sp_best_from C) E0D (dCons (dVar 2) (dCons (dVar 6) (dCons (dVar 7) dNil)))) (dCons (dCall sp_law_best E0D (dCons (dVar 2) (dCons (dVar 3) (dCons (dVar 6) (dCons (dVar 7) dNil))))) dNil))))) (dRet (dC (.bl false))) dNext))
def t_law_c4 (C : Ct) : DS :=
    (dSeq (dFor (iRng1D (dCons (dC (.int 4)) dNil)) (gD true [4]) (dSeq (dSet 5 (dOp dIx (dVar 3) (dCall sp_law_draw E0D (dCons (dVar 1) (dCons (dCB dLen (dCons (dVar 3) dNil)) dNil)))))
    (dSeq (dSet 6 (dOp dSub (dOp dAdd (dCall sp_law_worth E0D (dCons (dVar 2) (dCons (dVar 5) dNil))) (dCall sp_law_draw E0D (dCons (dVar 1) (dCons (dC (.int 3)) dNil)))) (dC (.int 1))))
    (dSeq (dIfS (dTest (dOp dEq (dVar 4) (dC (.int 3)))) (dSet 6 (dOp dSub (dCall sp_law_draw E0D (dCons (dVar 1) (dCons (dC (.int 400)) dNil))) (dC (.int 100)))) dNext)
    (t_law_c4_3 C)))))
    (dRet (dOr (dOp dGt (dCall sp_law_draw E0D (dCons (dVar 1) (dCons (dC (.int 12)) dNil))) (dC (.int 0))) (dCall sp_law_many E0D (dCons (dVar 1) dNil)))))
def t_law_c2 (C : Ct) : DS :=
    (dSeq (dSet 2 (dCall sp_law_holding E0D (dCons (dVar 1) dNil)))
    (dSeq (dSet 3 (dCall sp_law_all E0D (dCons (dVar 2) dNil)))
    (t_law_c4 C)))
def t_law (C : Ct) : DS :=
    (dSeq (dSet 1 (dCall sp_law_state E0D (dCons (dVar 0) dNil)))
    (dSeq (dIfS (dTAnd (dTest (dOp dEq (dCall sp_law_draw E0D (dCons (dVar 1) (dCons (dC (.int 8)) dNil))) (dC (.int 0)))) (dTNot (dTruth (dCall sp_law_wide_holds E0D (dCons (dVar 1) dNil))))) (dRet (dC (.bl false))) dNext)
    (t_law_c2 C)))
abbrev n_law : List Str := ["script", "state", "holding", "choices", "k", "numbers", "price", "most"]

theorem len_law_draw : ∀ ds M Q E, sp_law_draw ds M Q E → ds.length = 2 := by rintro _ _ _ _ ⟨a, l, rfl, _⟩; rfl
def t_draw_half : DS :=
    (dSeq (dStore (dOp dSub (dOp dIx (dVar 0) (dC (.int 3))) (dC (.int 1))) (dVar 0) (dC (.int 3)) dSetL)
    (dSeq (dIfS (dTruth (dOp dIx (dVar 0) (dC (.int 4)))) (dSeq (dSet 3 (dOp dMod (dCB dInt (dCons (dOp dIx (dVar 0) (dC (.int 2))) dNil)) (dVar 1)))
    (dSeq (dStore (dOp dFdiv (dOp dIx (dVar 0) (dC (.int 2))) (dVar 1)) (dVar 0) (dC (.int 2)) dSetL)
    (dSeq (dIfS (dTest (dOp dEq (dOp dIx (dVar 0) (dC (.int 2))) (dC (.int 0)))) (dStore (dC (.int 0)) (dVar 0) (dC (.int 3)) dSetL) dNext)
    (dRet (dVar 3))))) dNext)
    (dSeq (dSet 4 (dOp dMod (dCB dInt (dCons (dOp dAdd (dOp dAdd (dOp dMul (dOp dIx (dVar 0) (dC (.int 2))) (dC (.int 48271))) (dOp dMul (dOp dIx (dVar 0) (dC (.int 3))) (dC (.int 69621)))) (dC (.int 7))) dNil)) (dC (.int 2147483647))))
    (dSeq (dSet 4 (dOp dMod (dCB dInt (dCons (dOp dAdd (dOp dAdd (dOp dMul (dVar 4) (dVar 4)) (dOp dMul (dOp dIx (dVar 0) (dC (.int 2))) (dC (.int 31)))) (dOp dIx (dVar 0) (dC (.int 3)))) dNil)) (dC (.int 1000003))))
    (dRet (dOp dMod (dCB dInt (dCons (dVar 4) dNil)) (dVar 1)))))))
theorem draw_half (M : Mp) (Q : QD) (a : Addr) (lim : Int) (h0 : 0 < lim) (h1 : lim < 2 ^ 64) (x y z : Option D) (q : ∀ (d : Int) (M' : Mp), 0 ≤ d → d < lim → Drawn M a M' → Q (.int d) M') (h : StOk M a) :
    t_draw_half (fnE Q) [some (.ref a), some (.int lim), x, y, z] M := by
  obtain ⟨ns, i, c, k, b, hM, hi⟩ := h
  unfold t_draw_half
  walk_at "g"
  refine b_any (fun e => ?_) (fun e => ?_) <;> subst e
  · walk_at "g"
    refine s_I h0 ?_
    walk_at "g"
    refine s_I (wide_div (b := 64) h0 (by omega) (by decide) (by decide)) ?_
    walk_at "g"
    all_goals exact s_end (q _ _ (Int.emod_nonneg _ (by omega)) (Int.emod_lt_of_pos _ h0) (.of hi))
  · walk_at "g"
    refine s_mul (.inl (.inr ⟨by decide, by decide⟩)) ?_
    walk_at "g"
    refine s_mul (.inl (.inr ⟨by decide, by decide⟩)) ?_
    walk_at "g"
    refine s_I (by decide) ?_
    walk_at "g"
    refine s_mul (.inl (.inr ?_)) ?_
    · generalize c * 48271 + (k - 1) * 69621 + 7 = w
      have := Int.emod_nonneg w (b := 2147483647) (by decide)
      have := Int.emod_lt_of_pos w (b := 2147483647) (by decide)
      omega
    walk_at "g"
    refine s_mul (.inl (.inr ⟨by decide, by decide⟩)) ?_
    walk_at "g"
    refine s_I (by decide) ?_
    walk_at "g"
    refine s_I h0 ?_
    exact s_end (q _ _ (Int.emod_nonneg _ (by omega)) (Int.emod_lt_of_pos _ h0) (.of hi))
theorem rd_law_draw : Rds t_law_draw n_law_draw sp_law_draw := by
  rintro _ M Q E ⟨a, lim, rfl, h0, h1, ⟨ns, i, c, k, b, hM, hi⟩, q⟩
  show dSeq _ t_draw_half (fnE Q) [some (.ref a), some (.int lim), none, none, none] M
  with_reducible refine s_seq ?_
  have q' : ∀ M1, Drawn M a M1 → ∀ (d : Int) (M' : Mp), 0 ≤ d → d < lim → Drawn M1 a M' → Q (.int d) M' := fun M1 h d M' e1 e2 e3 => q d M' e1 e2 (h.trans e3)
  have self : Drawn M a M := ⟨⟨ns, i, c, k, b, hM, hi⟩, fun _ _ => rfl⟩
  walk_at "g"
  · exact s_end (q 0 M (by omega) h0 self)
  · rename_i hk hl
    rw [List.length_map] at hl
    have hl2 : i.toNat < ns.length := by omega
    refine s_ix (d := .int ns[i.toNat]) rfl (by rw [atI_toNat hi, List.getElem?_map, List.getElem?_eq_getElem hl2]; rfl) ?_
    walk_at "g"
    all_goals refine s_I ⟨by decide, by decide, by decide⟩ ?_
    all_goals walk_at "g"
    all_goals exact draw_half _ _ _ _ h0 h1 _ _ _ (q' _ (.of (by omega))) (Drawn.of (M := M) (by omega)).ok
  · exact draw_half _ _ _ _ h0 h1 _ _ _ (q' _ self) self.ok
theorem len_law_state : ∀ ds M Q E, sp_law_state ds M Q E → ds.length = 1 := by rintro _ _ _ _ ⟨a, rfl, _⟩; rfl
theorem rd_law_state : Rds t_law_state n_law_state sp_law_state := by
  rintro _ M Q E ⟨ns, rfl, hl, q⟩
  show t_law_state _ [some (.lsk (ns.map .int))] M
  unfold t_law_state
  walk_at "g"
  intro p hp
  exact s_end (q p _ hp ⟨_, _, _, _, _, updM_same, by decide⟩ fun b h => updM_ne h)

theorem ipow_le {a m n : Nat} (h : m ≤ n) (ha : 0 < a) : (a : Int) ^ m ≤ (a : Int) ^ n := by
  rw [← Int.natCast_pow, ← Int.natCast_pow]
  exact Int.ofNat_le.mpr (Nat.pow_le_pow_right ha h)
theorem Drawn.self {M : Mp} {a : Addr} (h : StOk M a) : Drawn M a M := ⟨h, fun _ _ => rfl⟩
theorem cut_to {α : Type} (xs : List α) {i : Nat} (h : i ≤ xs.length) : cutD xs none (some (i : Int)) = xs.take i := by
  unfold cutD
  rw [HT.sIx_none, HT.sIx_nat, Nat.min_eq_left h, List.drop_zero, Nat.sub_zero]
theorem cut_from {α : Type} (xs : List α) {i : Nat} (h : i ≤ xs.length) : cutD xs (some (i : Int)) none = xs.drop i := by
  unfold cutD
  rw [HT.sIx_none, HT.sIx_nat, Nat.min_eq_left h]
  exact List.take_of_length_le (by rw [List.length_drop]; omega)
theorem put_set {α : Type} (xs : List α) {i : Nat} (d : α) (h : i < xs.length) : xs.take i ++ [d] ++ xs.drop (i + 1) = xs.set i d := by
  rw [List.set_eq_take_append_cons_drop, if_pos h]
  simp
theorem small_line {n : Nat} (h : n ≤ 1000000) : n ≤ sizeLine := Nat.le_trans h (by decide)

theorem two_pow_le {a b : Nat} (h : a ≤ b) : 2 ^ a ≤ 2 ^ b := Nat.pow_le_pow_right (by decide) h
theorem nat_mul_lt {a b x y : Nat} (h : a < 2 ^ x) (g : b ≤ 2 ^ y) : a * b < 2 ^ (x + y) := by
  rw [Nat.pow_add]
  have h9 : 0 < 2 ^ y := Nat.pow_pos (by decide)
  calc a * b ≤ a * 2 ^ y := Nat.mul_le_mul_left _ g
    _ < 2 ^ x * 2 ^ y := Nat.mul_lt_mul_of_pos_right h h9
theorem log2_20 {i : Int} (h : i.natAbs < 2 ^ 20) : i.natAbs.log2 < 9000 := Nat.lt_of_lt_of_le (PySem.Flt.log2_lt_of (k := 20) (by decide) h) (by decide)
theorem log2_w {i : Int} {n : Nat} (h : i.natAbs < 2 ^ n) (hn : 0 < n) (h2 : n ≤ 9000) : i.natAbs.log2 < 9000 := Nat.lt_of_lt_of_le (PySem.Flt.log2_lt_of hn h) h2
theorem sm64 {i : Int} (h : i.natAbs ≤ 1000000000) : -(2 ^ 64) < i ∧ i < 2 ^ 64 := by omega
theorem scal_int (i j : Int) : scalD (.int i) (.int j) = some (decide (i = j)) := rfl
theorem intsOf_mapG {α : Type} (g : α → Int) : ∀ xs : List α, intsOf (xs.map fun a => D.int (g a)) = some (xs.map g)
  | [] => rfl
  | x :: xs => by
    show (intsOf (xs.map fun a => D.int (g a))).map (g x :: ·) = _
    rw [intsOf_mapG g xs]; rfl
theorem s_minL {x : D} {M : Mp} {Q : QD} {ds : List D} {ns : List Int} (e : lsOf M x = some ds) (e2 : intsOf ds = some ns) (hl : 0 < ns.length) (h : ∀ m, m ∈ ns → (∀ y, y ∈ ns → m ≤ y) → Q (.int m) M) (hx : ∀ i, x ≠ .int i) : dMin [x] M Q := by
  unfold dMin
  simp only [e, e2]
  exact ⟨hl, h⟩
theorem s_abs {i : Int} {M : Mp} {Q : QD} (h : Q (.int (if i < 0 then -i else i)) M) : dAbs [.int i] M Q := h
theorem s_eqD {p q : PyData} {x y : D} {M : Mp} {Q : QD} (e0 : scalD x y = none) (e1 : (drf M x).py = some p) (e2 : (drf M y).py = some q) (h1 : SeqAt.shaped p = true) (h2 : SeqAt.shaped q = true) (h : Q (.bl (PyData.eqv p q)) M) : dEq x y M Q := by
  unfold dEq dEqS
  simp only [e0, e1, e2]
  exact ⟨h1, h2, h⟩
theorem s_neDF {p q : PyData} {x y : D} {M : Mp} {Q : QD} (e0 : scalD x y = none) (e1 : (drf M x).py = some p) (e2 : (drf M y).py = some q) (h1 : SeqAt.shaped p = true) (h2 : SeqAt.shaped q = true) (h : Q (.bl (!PyData.eqv p q)) M) : dNe x y M Q := by
  unfold dNe dEqS
  simp only [e0, e1, e2]
  exact ⟨h1, h2, h⟩

theorem prodN_app : ∀ (as bs : List Int), prodN (as ++ bs) = prodN as * prodN bs
  | [], bs => by show prodN bs = 1 * prodN bs; rw [Nat.one_mul]
  | a :: as, bs => by show (a + 1).toNat * prodN (as ++ bs) = (a + 1).toNat * prodN as * prodN bs; rw [prodN_app as bs, Nat.mul_assoc]
theorem prodN_pos : ∀ {ts : List Int}, (∀ t ∈ ts, 0 ≤ t) → 0 < prodN ts
  | [], _ => Nat.one_pos
  | t :: ts, h => Nat.mul_pos (by have := h t (List.mem_cons_self ..); omega) (prodN_pos fun t ht => h t (List.mem_cons_of_mem _ ht))
theorem prodN_take {ts : List Int} (h : ∀ t ∈ ts, 0 ≤ t) (i : Nat) : prodN (ts.take i) ≤ prodN ts := by
  have e := prodN_app (ts.take i) (ts.drop i)
  rw [List.take_append_drop] at e
  rw [e]
  exact Nat.le_mul_of_pos_right _ (prodN_pos fun t ht => h t (List.mem_of_mem_drop ht))
theorem wide_len {found : List (List Int)} {t : Int} : (wide found t).length = found.length * (t + 1).toNat := by
  induction found with
  | nil => show 0 = 0 * _; rw [Nat.zero_mul]
  | cons r rs ih =>
    show ((List.range (t + 1).toNat).map _ ++ wide rs t).length = _
    rw [List.length_append, ih, List.length_map, List.length_range, List.length_cons, Nat.add_mul, Nat.one_mul, Nat.add_comm]
theorem allR_len : ∀ (ts : List Int) (found : List (List Int)), (allR ts found).length = found.length * prodN ts
  | [], found => by show found.length = found.length * 1; rw [Nat.mul_one]
  | t :: ts, found => by
    show (allR ts (wide found t)).length = found.length * ((t + 1).toNat * prodN ts)
    rw [allR_len ts, wide_len, Nat.mul_assoc]
theorem allR_snoc (ts : List Int) (t : Int) (found : List (List Int)) : allR (ts ++ [t]) found = wide (allR ts found) t := by unfold allR; rw [List.foldl_append]; rfl
theorem mem_wide {found : List (List Int)} {t : Int} {r : List Int} (h : r ∈ wide found t) : ∃ row ∈ found, ∃ k : Int, 0 ≤ k ∧ k ≤ t ∧ r = row ++ [k] := by
  obtain ⟨row, h1, h2⟩ := List.mem_flatMap.mp h
  obtain ⟨k, h3, rfl⟩ := List.mem_map.mp h2
  have := List.mem_range.mp h3
  exact ⟨row, h1, k, by omega, by omega, rfl⟩
/-- what a row is -/
theorem rows_ok : ∀ (n : Nat) {ts : List Int}, ts.length = n → ∀ r ∈ rowsOf ts, r.length = ts.length ∧ ∀ (i : Nat) (x t : Int), r[i]? = some x → ts[i]? = some t → 0 ≤ x ∧ x ≤ t
  | 0, ts, hn, r, hr => by
    rw [List.eq_nil_of_length_eq_zero hn] at hr ⊢
    rw [List.mem_singleton.mp hr]
    exact ⟨rfl, fun i x t e => by simp at e⟩
  | n + 1, ts, hn, r, hr => by
    obtain ⟨us, t, rfl⟩ : ∃ us t, ts = us ++ [t] := ⟨ts.dropLast, ts.getLast (fun z => by rw [z] at hn; cases hn), (List.dropLast_concat_getLast _).symm⟩
    have hn : us.length = n := by rw [List.length_append] at hn; simpa using hn
    unfold rowsOf at hr
    rw [allR_snoc] at hr
    obtain ⟨row, h1, k, k0, k1, rfl⟩ := mem_wide hr
    obtain ⟨l1, l2⟩ := rows_ok n hn row h1
    refine ⟨by rw [List.length_append, List.length_append, l1]; rfl, fun i x t' e1 e2 => ?_⟩
    by_cases c : i < us.length
    · rw [List.getElem?_append_left (by omega)] at e1 e2
      exact l2 i x t' e1 e2
    · rw [List.getElem?_append_right (by omega)] at e1 e2
      rw [l1] at e1
      by_cases d : i - us.length = 0
      · rw [d] at e1 e2
        cases e1; cases e2
        exact ⟨k0, k1⟩
      · rw [show i - us.length = (i - us.length - 1) + 1 by omega] at e1
        simp at e1
theorem row_ok {hs : List (Int × Int)} (h : Hol hs) {r : List Int} (hr : r ∈ rowsOf (hs.map (·.2))) : RowOk hs r := by
  obtain ⟨l1, l2⟩ := rows_ok _ rfl r hr
  rw [List.length_map] at l1
  refine ⟨l1, fun x hx => ?_⟩
  obtain ⟨i, hi, e⟩ := List.getElem_of_mem hx
  have hi2 : i < (hs.map (·.2)).length := by rw [List.length_map]; omega
  have := l2 i x ((hs.map (·.2))[i]) (by rw [List.getElem?_eq_getElem hi, e]) (List.getElem?_eq_getElem hi2)
  have := (h.1.2.1 _ (List.getElem_mem hi2)).2
  omega
theorem len_all_numbers : ∀ ds M Q E, sp_all_numbers ds M Q E → ds.length = 1 := by rintro _ _ _ _ ⟨_, rfl, _⟩; rfl
theorem rd_all_numbers : Rds t_all_numbers n_all_numbers sp_all_numbers := by
  rintro _ M Q E ⟨ts, rfl, ⟨hl, ht, hp⟩, q⟩
  show t_all_numbers _ [some (encI ts), none, none, none, none] M
  unfold t_all_numbers
  have h0 : ∀ t ∈ ts, 0 ≤ t := fun t h => (ht t h).1
  walk_at "g"
  refine s_kforT (ds := ts.map .int) (fun i τ M' => M' = M ∧ ∃ a b c, τ = [some (encI ts), some (.lst ((rowsOf (ts.take i)).map encI)), a, b, c]) (fun _ => rfl) ⟨rfl, _, _, _, rfl⟩ (fun i d τ M' hd ⟨e, a, b, c, e2⟩ => ?_) (fun τ M' ⟨e, a, b, c, e2⟩ => ?_)
  · subst e; subst e2
    obtain ⟨t, hq, rfl⟩ : ∃ t, ts[i]? = some t ∧ d = .int t := by
      rw [List.getElem?_map] at hd
      cases e : ts[i]? with
      | none => rw [e] at hd; cases hd
      | some m => rw [e] at hd; cases hd; exact ⟨m, rfl, rfl⟩
    obtain ⟨t0, t1⟩ := ht t (List.mem_of_getElem? hq)
    have et : ts.take (i + 1) = ts.take i ++ [t] := by rw [List.take_succ, hq]; rfl
    have el : (wide (rowsOf (ts.take i)) t).length ≤ 1000000 := by
      have e1 : wide (rowsOf (ts.take i)) t = rowsOf (ts.take (i + 1)) := by rw [et]; unfold rowsOf; rw [allR_snoc]
      rw [e1]
      unfold rowsOf
      rw [allR_len]
      have := prodN_take h0 (i + 1)
      simp only [List.length_singleton, Nat.one_mul]
      omega
    have ew : (rowsOf (ts.take i)).flatMap (fun row => (List.range (t + 1).toNat).map fun k : Nat => encI (row ++ [(k : Int)])) = (wide (rowsOf (ts.take i)) t).map encI := by
      unfold wide
      rw [List.map_flatMap]
      congr 1
      funext row
      rw [List.map_map]; rfl
    have er : ∀ row ∈ rowsOf (ts.take i), row.length ≤ 100 := fun row hr => by
      rw [(rows_ok _ rfl row hr).1, List.length_take]; omega
    have step : rowsOf (ts.take (i + 1)) = wide (rowsOf (ts.take i)) t := by rw [et]; unfold rowsOf; rw [allR_snoc]
    rw [step]
    generalize rowsOf (ts.take i) = found at *
    refine s_gname ?_
    walk_at "g"
    refine s_lc2 ?_
    walk_at "g"
    refine s_klc2 encI (fun _ => (t + 1).toNat) (fun row k => encI (row ++ [(k : Int)])) (fun _ => rfl) (by rw [ew, List.length_map]; exact small_line el) (fun row hr => ⟨_, rfl, fun QI k => ?_, fun k Q hk q => ?_⟩) ?_
    · show iRng1D (dCons (dOp dAdd (dVar 2) (dC (.int 1))) dNil) [some (encI ts), some (.lst (found.map encI)), some (.int t), some (encI row), none] M' QI
      walk_at "g"
      exact s_kr1 (by omega) (by omega) k
    · rw [Int.zero_add]
      show dOp dAdd (dVar 3) (dLst (dCons (dVar 4) dNil)) [some (encI ts), some (.lst (found.map encI)), some (.int t), some (.lst (row.map .int)), some (.int k)] M' Q
      walk_at "g"
      have := er row hr
      refine s_addL (small_line (by rw [List.length_map]; show _ + 1 ≤ _; omega)) ?_
      have e : (row.map D.int ++ [.int (k : Int)]) = (row ++ [(k : Int)]).map .int := by rw [List.map_append]; rfl
      rw [e]
      exact q
    rw [ew]
    walk_at "g"
    exact ⟨rfl, _, _, _, rfl⟩
  · subst e; subst e2
    rw [List.length_map, List.take_of_length_le (Nat.le_refl _)]
    walk_at "g"
    exact s_end q
theorem alike_negs : ∀ xs ys : List Int, PySem.W.alikeAll (xs.map fun x => PyData.int (-x)) (ys.map fun x => PyData.int (-x)) = true
  | [], ys => by cases ys <;> simp [PySem.W.alikeAll]
  | x :: xs, [] => by simp [PySem.W.alikeAll]
  | x :: xs, y :: ys => by
    have := alike_negs xs ys
    simp [PySem.W.alikeAll, PySem.W.alike, this]
theorem alike_rank (hs : List (Int × Int)) (r b : List Int) : PySem.W.alike (rankP hs r) (rankP hs b) = true := by
  unfold rankP
  generalize r.reverse = x
  generalize b.reverse = y
  simp [PySem.W.alike, PySem.W.alikeAll, alike_negs]
theorem depth_negs : ∀ xs : List Int, PyData.depthAll (xs.map fun x => PyData.int (-x)) ≤ 1
  | [] => by simp [PyData.depthAll]
  | x :: xs => by
    have h := depth_negs xs
    simp [PyData.depthAll, PyData.depth, h]
theorem depth_rank (hs : List (Int × Int)) (r : List Int) : (rankP hs r).depth ≤ 64 := by
  unfold rankP
  generalize r.reverse = x
  have h := depth_negs x
  simp [PyData.depthAll, PyData.depth]
  omega
theorem pyAll_neg : ∀ xs : List Int, pyAll (xs.map fun x => D.int (-x)) = some (xs.map fun x => PyData.int (-x))
  | [] => rfl
  | x :: xs => by
    have h := pyAll_neg xs
    simp [pyAll, D.py, h]
theorem py_rank (hs : List (Int × Int)) (r : List Int) : (rankD hs r).py = some (rankP hs r) := by
  unfold rankD rankP
  generalize r.reverse = x
  simp [D.py, pyAll, pyAll_neg]
theorem s_ltRank {hs : List (Int × Int)} {r b : List Int} {M : Mp} {Q : QD} (h : Q (.bl (ltR hs r b)) M) : dLtD (rankD hs r) (rankD hs b) M Q :=
  s_ltD (p := rankP hs r) (q := rankP hs b) (py_rank hs r) (py_rank hs b) (alike_rank hs r b) (by unfold rankP; intro z; cases z) (depth_rank hs r) h
theorem getD_row {hs : List (Int × Int)} {r : List Int} (h : RowOk hs r) {i : Nat} (hi : i < r.length) : ∃ (p : Int × Int) (x : Int), hs[i]? = some p ∧ r[i]? = some x ∧ hs.getD i (0, 0) = p ∧ r.getD i 0 = x ∧ 0 ≤ x ∧ x ≤ 1000 := by
  have h1 : i < hs.length := by rw [← h.1]; exact hi
  have e1 := List.getElem?_eq_getElem h1
  have e2 := List.getElem?_eq_getElem hi
  have := h.2 _ (List.getElem_mem hi)
  exact ⟨_, _, e1, e2, getD_of e1, getD_of e2, this.1, this.2⟩
theorem wor_ints (hs : List (Int × Int)) (r : List Int) : intsOf ((List.range r.length).map fun i : Nat => D.int ((hs.getD i (0, 0)).1 * r.getD i 0)) = some ((List.range r.length).map fun i => (hs.getD i (0, 0)).1 * r.getD i 0) := intsOf_mapG (fun i : Nat => (hs.getD i (0, 0)).1 * r.getD i 0) _
theorem len_best_from (C : Ct) : ∀ ds M Q E, sp_best_from C ds M Q E → ds.length = 3 := by rintro _ _ _ _ ⟨_, _, _, rfl, _⟩; rfl
def encB (hs : List (Int × Int)) : Option (List Int) → D
  | none => .non
  | some r => .tup [rankD hs r, encT r]
theorem best_c3 (Q : QD) (M : Mp) (hs : List (Int × Int)) (price most : Int) (h : Hol hs) (c a b : Option D) (q : Q (encR hs (bestO hs price most (rowsOf (hs.map (·.2))))) M) : t_best_from_c3 (fnE Q) [some (.tup (hs.map encH)), some (.int price), some (.int most), c, a, b, none, none, none, none, none, none] M := by
  unfold t_best_from_c3
  have hl : hs.length ≤ 100 := by have := h.1.1; rwa [List.length_map] at this
  walk_at "g"
  refine s_klcMap encH (fun p => .int p.2) (fun _ => rfl) (small_line (by omega)) (fun p hp => ⟨_, rfl, fun Q k => ?_⟩) ?_
  · obtain ⟨v, s⟩ := p
    show dVar 5 [some (.tup (hs.map encH)), some (.int price), some (.int most), c, some (.int v), some (.int s), some .non, none, none, none, none, none] M Q
    walk_at "g"
    exact k
  walk_at "g"
  refine ⟨hs.map (·.2), by show [D.lst _] = [D.lst _]; rw [List.map_map]; rfl, h.1, ?_⟩
  walk_at "g"
  have hrow : ∀ r ∈ rowsOf (hs.map (·.2)), RowOk hs r := fun r hr => row_ok h hr
  generalize rowsOf (hs.map (·.2)) = rows at *
  refine s_kforT (ds := rows.map encI) (fun i τ M' => M' = M ∧ ∃ x0 x1 x2 x3 x4 x5 x6, τ = [some (.tup (hs.map encH)), some (.int price), some (.int most), c, x0, x1, some (encB hs (bestO hs price most (rows.take i))), x2, x3, x4, x5, x6]) (fun _ => rfl) ⟨rfl, _, _, _, _, _, _, _, rfl⟩ (fun i d τ M' hd ⟨e, x0, x1, x2, x3, x4, x5, x6, e2⟩ => ?_) (fun τ M' ⟨e, x0, x1, x2, x3, x4, x5, x6, e2⟩ => ?_)
  · subst e; subst e2
    obtain ⟨r, hq, rfl⟩ : ∃ r, rows[i]? = some r ∧ d = encI r := by
      rw [List.getElem?_map] at hd
      cases e : rows[i]? with
      | none => rw [e] at hd; cases hd
      | some m => rw [e] at hd; cases hd; exact ⟨m, rfl, rfl⟩
    have hr := hrow r (List.mem_of_getElem? hq)
    have rl : r.length ≤ 100 := by rw [hr.1]; exact hl
    have step : bestO hs price most (rows.take (i + 1)) = stepB hs price most (bestO hs price most (rows.take i)) r := by
      unfold bestO
      rw [List.take_succ, hq, List.foldl_append]; rfl
    have next : ∀ x0 x1 x2 x3 x4 x5 x6 : Option D, M' = M' ∧ ∃ y0 y1 y2 y3 y4 y5 y6, ([some (.tup (hs.map encH)), some (.int price), some (.int most), c, x0, x1, some (encB hs (stepB hs price most (bestO hs price most (rows.take i)) r)), x2, x3, x4, x5, x6] : SD) = [some (.tup (hs.map encH)), some (.int price), some (.int most), c, y0, y1, some (encB hs (bestO hs price most (rows.take (i + 1)))), y2, y3, y4, y5, y6] := fun x0 x1 x2 x3 x4 x5 x6 => ⟨rfl, _, _, _, _, _, _, _, by rw [step]⟩
    generalize bestO hs price most (rows.take i) = o at *
    unfold stepB at next
    refine s_gname ?_
    walk_at "g"
    refine s_sumA rfl (intsOf_mapG (fun x : Int => x) r) ?_
    rw [List.map_id']
    walk_at "g"
    simp only [List.length_map]
    refine s_kr1 (by omega) (by omega) ?_
    rw [show ((r.length : Int)).toNat = r.length by omega]
    refine s_klcRng (fun i : Nat => .int ((hs.getD i (0, 0)).1 * r.getD i 0)) (small_line (by omega)) (fun i Q hi k => ?_) ?_
    · rw [Int.zero_add]
      obtain ⟨p, x, e1, e2, e3, e4, z0, z1⟩ := getD_row hr hi
      rw [e3, e4] at k
      have pb := h.2 p (List.mem_of_getElem? e1)
      show dOp dMul (dOp dIx (dOp dIx (dVar 0) (dVar 10)) (dC (.int 0))) (dOp dIx (dVar 7) (dVar 10)) [some (.tup (hs.map encH)), some (.int price), some (.int most), c, x0, x1, some (encB hs o), some (.lst (r.map .int)), some (.int r.sum), x4, some (.int i), x6] M' Q
      walk_at "g"
      refine s_ix (d := encH p) rfl (by rw [atI_toNat (by omega), List.getElem?_map, show ((i : Int)).toNat = i by omega, e1]; rfl) ?_
      walk_at "g"
      refine s_ix (d := .int x) rfl (by rw [atI_toNat (by omega), List.getElem?_map, show ((i : Int)).toNat = i by omega, e2]; rfl) ?_
      walk_at "g"
      exact s_mul (.inl (.inl (sm64 (by omega)))) k
    walk_at "g"
    refine s_sumA rfl (wor_ints hs r) ?_
    rw [show ((List.range r.length).map fun i => (hs.getD i (0, 0)).1 * r.getD i 0).sum = wor hs r from rfl]
    walk_at "g"
    · rename_i c1 c2
      have c1 : r.sum ≤ most := c1
      have c2 : price ≤ wor hs r := c2
      rw [if_pos ⟨c1, c2⟩] at next
      refine s_revA ?_
      walk_at "g"
      refine s_krevaL ?_
      refine s_klcRev (xs := r) .int (fun x => .int (-x)) (small_line (by omega)) (fun x hx => ⟨_, rfl, fun Q k => ?_⟩) ?_
      · show dUn dNeg (dVar 5) [some (.tup (hs.map encH)), some (.int price), some (.int most), c, x0, some (.int x), some (encB hs o), some (.lst (r.map .int)), some (.int r.sum), some (.int (wor hs r)), x5, x6] M' Q
        walk_at "g"
        exact k
      walk_at "g"
      rw [show (D.tup [.int (wor hs r), .int r.sum, .lst (r.reverse.map fun x => .int (-x))]) = rankD hs r from rfl]
      cases o with
      | none =>
        have next := next
        simp only [encB]
        walk_at "w"
        exact ⟨trivial, (next _ _ _ _ _ _ _).2⟩
      | some b =>
        simp only [encB]
        walk_at "w"
        refine s_ltRank ?_
        walk_at "g"
        by_cases cl : ltR hs r b = true
        · have next := next
          simp only [if_pos cl] at next
          rw [cl]
          walk_at "g"
          exact ⟨rfl, (next _ _ _ _ _ _ _).2⟩
        · have next := next
          simp only [if_neg cl] at next
          rw [Bool.eq_false_iff.mpr cl]
          walk_at "g"
          exact ⟨rfl, (next _ _ _ _ _ _ _).2⟩
    · rename_i c1 c2
      have c2 : ¬ price ≤ wor hs r := c2
      rw [if_neg (fun z => c2 z.2)] at next
      exact next _ _ _ _ _ _ _
    · rename_i c1
      have c1 : ¬ r.sum ≤ most := c1
      rw [if_neg (fun z => c1 z.1)] at next
      exact next _ _ _ _ _ _ _
  · subst e; subst e2
    rw [List.length_map, List.take_of_length_le (Nat.le_refl _)]
    generalize bestO hs price most rows = o at *
    walk_at "g"
    cases o with
    | none =>
      simp only [encB]
      walk_at "g"
      simp only [D.isN]
      refine s_kifE (fun _ => ?_) (fun z => by cases z)
      walk_at "g"
      exact s_end q
    | some b =>
      simp only [encB, rankD]
      walk_at "g"
      simp only [D.isN]
      refine s_kifE (fun z => by cases z) (fun _ => ?_)
      walk_at "g"
      exact s_end q
theorem rd_best_from (C : Ct) : RdsX (t_best_from C) n_best_from (sp_best_from C) := by
  rintro _ M Q E ⟨hs, price, most, rfl, h, q, qe⟩
  show t_best_from C E _ [some (.tup (hs.map encH)), some (.int price), some (.int most), none, none, none, none, none, none, none, none, none] M
  unfold t_best_from
  obtain ⟨⟨hl, ht, hp⟩, _⟩ := id h
  have h0 : ∀ t ∈ hs.map (·.2), 0 ≤ t := fun t h => (ht t h).1
  walk_at "g"
  refine s_kforT (ds := hs.map encH) (fun i τ M' => M' = M ∧ ∃ a b, τ = [some (.tup (hs.map encH)), some (.int price), some (.int most), some (.int (prodN ((hs.map (·.2)).take i))), a, b, none, none, none, none, none, none]) (fun _ => rfl) ⟨rfl, _, _, rfl⟩ (fun i d τ M' hd ⟨e, a, b, e2⟩ => ?_) (fun τ M' ⟨e, a, b, e2⟩ => ?_)
  · subst e; subst e2
    obtain ⟨⟨v, s⟩, hq, rfl⟩ : ∃ p, hs[i]? = some p ∧ d = encH p := by
      rw [List.getElem?_map] at hd
      cases e : hs[i]? with
      | none => rw [e] at hd; cases hd
      | some m => rw [e] at hd; cases hd; exact ⟨m, rfl, rfl⟩
    obtain ⟨s0, s1⟩ := ht s (List.mem_map.mpr ⟨_, List.mem_of_getElem? hq, rfl⟩)
    have step : prodN ((hs.map (·.2)).take (i + 1)) = prodN ((hs.map (·.2)).take i) * (s + 1).toNat := by
      rw [List.take_succ, List.getElem?_map, hq, prodN_app]
      show _ * ((s + 1).toNat * 1) = _
      rw [Nat.mul_one]
    have bd := prodN_take h0 i
    refine s_gtup rfl ?_
    walk_at "g"
    refine s_I (.inl (sm64 (by omega))) ?_
    walk_at "g"
    have e : ((prodN ((hs.map (·.2)).take i) : Nat) : Int) * (s + 1) = ((prodN ((hs.map (·.2)).take (i + 1)) : Nat) : Int) := by
      rw [step, Int.natCast_mul, show (((s + 1).toNat : Nat) : Int) = s + 1 by omega]
    rw [e]
    exact ⟨rfl, _, _, rfl⟩
  · subst e; subst e2
    rw [List.length_map, List.take_of_length_le (by rw [List.length_map]; exact Nat.le_refl _)]
    walk_at "g"
    · rename_i hc
      have hc : ((prodN (hs.map (·.2)) : Nat) : Int) > 20000 := hc
      exact s_raise (qe (by omega))
    · rename_i hc
      have hc : ¬ ((prodN (hs.map (·.2)) : Nat) : Int) > 20000 := hc
      exact best_c3 Q M' hs price most h _ _ _ (q (by omega))

theorem len_law_worth : ∀ ds M Q E, sp_law_worth ds M Q E → ds.length = 2 := by rintro _ _ _ _ ⟨_, _, _, rfl, _⟩; rfl
theorem rd_law_worth : Rds t_law_worth n_law_worth sp_law_worth := by
  rintro _ M Q E ⟨x, hs, r, rfl, hx, hr, hv, hl, q⟩
  show t_law_worth _ [some x, some (.tup (r.map .int)), none] M
  unfold t_law_worth
  have rl : r.length ≤ 100 := by rw [hr.1]; exact hl
  walk_at "g"
  simp only [List.length_map]
  refine s_kr1 (by omega) (by omega) ?_
  rw [show ((r.length : Int)).toNat = r.length by omega]
  refine s_klcRng (fun i : Nat => .int ((hs.getD i (0, 0)).1 * r.getD i 0)) (small_line (by omega)) (fun i Q hi k => ?_) ?_
  · rw [Int.zero_add]
    obtain ⟨p, y, e1, e2, e3, e4, z0, z1⟩ := getD_row hr hi
    rw [e3, e4] at k
    have pb := hv p (List.mem_of_getElem? e1)
    show dOp dMul (dOp dIx (dOp dIx (dVar 0) (dVar 2)) (dC (.int 0))) (dOp dIx (dVar 1) (dVar 2)) [some x, some (.tup (r.map .int)), some (.int i)] M Q
    walk_at "g"
    refine s_ix (d := encH p) hx (by rw [atI_toNat (by omega), List.getElem?_map, show ((i : Int)).toNat = i by omega, e1]; rfl) ?_
    walk_at "g"
    refine s_ix (d := .int y) rfl (by rw [atI_toNat (by omega), List.getElem?_map, show ((i : Int)).toNat = i by omega, e2]; rfl) ?_
    walk_at "g"
    exact s_mul (.inl (.inl (sm64 (by omega)))) k
  walk_at "g"
  exact s_sum rfl (wor_ints hs r) (s_end q)
theorem len_law_best : ∀ ds M Q E, sp_law_best ds M Q E → ds.length = 4 := by rintro _ _ _ _ ⟨_, _, _, _, _, _, rfl, _⟩; rfl
def encL (hs : List (Int × Int)) : Option (List Int) → D
  | none => .non
  | some r => .tup [rankD hs r, .tup [.int (wor hs r), encT r]]
theorem rd_law_best : Rds t_law_best n_law_best sp_law_best := by
  rintro _ M Q E ⟨x, ch, hs, rows, price, most, rfl, hx, hc, hrow, hv, hl, q⟩
  show t_law_best _ [some x, some ch, some (.int price), some (.int most), none, none, none, none, none] M
  unfold t_law_best
  walk_at "g"
  refine s_kseq hc ?_
  refine s_kforI (ds := rows.map encT) (fun i τ M' => M' = M ∧ ∃ x0 x1 x2 x3, τ = [some x, some ch, some (.int price), some (.int most), some (encL hs (bestO hs price most (rows.take i))), x0, x1, x2, x3]) (fun i τ M' _ ⟨e, _⟩ => by rw [e]; exact hc) ⟨rfl, _, _, _, _, rfl⟩ (fun i d τ M' hd ⟨e, x0, x1, x2, x3, e2⟩ => ?_) (fun τ M' ⟨e, x0, x1, x2, x3, e2⟩ => ?_)
  · subst e; subst e2
    obtain ⟨r, hq, rfl⟩ : ∃ r, rows[i]? = some r ∧ d = encT r := by
      rw [List.getElem?_map] at hd
      cases e : rows[i]? with
      | none => rw [e] at hd; cases hd
      | some m => rw [e] at hd; cases hd; exact ⟨m, rfl, rfl⟩
    have hr := hrow r (List.mem_of_getElem? hq)
    have rl : r.length ≤ 100 := by rw [hr.1]; exact hl
    have step : bestO hs price most (rows.take (i + 1)) = stepB hs price most (bestO hs price most (rows.take i)) r := by
      unfold bestO
      rw [List.take_succ, hq, List.foldl_append]; rfl
    have next : ∀ x0 x1 x2 x3 : Option D, M' = M' ∧ ∃ y0 y1 y2 y3, ([some x, some ch, some (.int price), some (.int most), some (encL hs (stepB hs price most (bestO hs price most (rows.take i)) r)), x0, x1, x2, x3] : SD) = [some x, some ch, some (.int price), some (.int most), some (encL hs (bestO hs price most (rows.take (i + 1)))), y0, y1, y2, y3] := fun x0 x1 x2 x3 => ⟨rfl, _, _, _, _, by rw [step]⟩
    generalize bestO hs price most (rows.take i) = o at *
    unfold stepB at next
    refine s_gname ?_
    walk_at "g"
    refine ⟨x, hs, r, rfl, hx, hr, hv, hl, ?_⟩
    walk_at "g"
    · rename_i c2
      have c2 : price ≤ wor hs r := c2
      refine s_sumA rfl (intsOf_mapG (fun x : Int => x) r) ?_
      rw [List.map_id']
      walk_at "g"
      · rename_i c1
        have c1 : r.sum ≤ most := c1
        rw [if_pos ⟨c1, c2⟩] at next
        refine s_sumA rfl (intsOf_mapG (fun x : Int => x) r) ?_
        rw [List.map_id']
        walk_at "g"
        refine s_revA ?_
        walk_at "g"
        refine s_krevaT ?_
        refine s_klcRev (xs := r) .int (fun x => .int (-x)) (small_line (by omega)) (fun y hy => ⟨_, rfl, fun Q k => ?_⟩) ?_
        · show dOp dSub (dC (.int 0)) (dVar 8) [some x, some ch, some (.int price), some (.int most), some (encL hs o), some (.tup (r.map .int)), some (.int (wor hs r)), x2, some (.int y)] M' Q
          walk_at "g"
          rw [Int.zero_sub]
          exact k
        walk_at "g"
        rw [show (D.tup [.int (wor hs r), .int r.sum, .lst (r.reverse.map fun x => .int (-x))]) = rankD hs r from rfl]
        cases o with
        | none =>
          have next := next
          simp only [encL]
          walk_at "w"
          exact ⟨trivial, (next _ _ _ _).2⟩
        | some b =>
          simp only [encL]
          walk_at "w"
          refine s_ltRank ?_
          walk_at "g"
          by_cases cl : ltR hs r b = true
          · have next := next
            simp only [if_pos cl] at next
            rw [cl]
            walk_at "g"
            exact ⟨rfl, (next _ _ _ _).2⟩
          · have next := next
            simp only [if_neg cl] at next
            rw [Bool.eq_false_iff.mpr cl]
            walk_at "g"
            exact ⟨rfl, (next _ _ _ _).2⟩
      · rename_i c1
        have c1 : ¬ r.sum ≤ most := c1
        rw [if_neg (fun z => c1 z.1)] at next
        exact next _ _ _ _
    · rename_i c2
      have c2 : ¬ price ≤ wor hs r := c2
      rw [if_neg (fun z => c2 z.2)] at next
      exact next _ _ _ _
  · subst e; subst e2
    rw [List.length_map, List.take_of_length_le (Nat.le_refl _)]
    generalize bestO hs price most rows = o at *
    walk_at "g"
    cases o with
    | none =>
      simp only [encL, D.isN]
      walk_at "g"
      exact s_end q
    | some b =>
      simp only [encL, D.isN]
      walk_at "g"
      exact s_end q
theorem len_law_all : ∀ ds M Q E, sp_law_all ds M Q E → ds.length = 1 := by rintro _ _ _ _ ⟨_, rfl, _⟩; rfl
theorem rd_law_all : Rds t_law_all n_law_all sp_law_all := by
  rintro _ M Q E ⟨hs, rfl, ⟨⟨hl, ht, hp⟩, hv⟩, q⟩
  show t_law_all _ [some (.tup (hs.map encH)), none, none, none, none, none, none] M
  unfold t_law_all
  have h0 : ∀ t ∈ hs.map (·.2), 0 ≤ t := fun t h => (ht t h).1
  walk_at "g"
  refine s_kforT (ds := hs.map encH) (fun i τ M' => (∀ b m, M b = some m → M' b = some m) ∧ ∃ (d : D) (x0 x1 x2 x3 x4 : Option D), sqOf M' d = some ((rowsOf ((hs.map (·.2)).take i)).map encT) ∧ (i = 0 ∧ d = .lst [encT []] ∧ M' = M ∨ ∃ t, M t = none ∧ d = .ref t) ∧ τ = [some (.tup (hs.map encH)), some d, x0, x1, x2, x3, x4]) (fun _ => rfl) ⟨fun _ _ e => e, _, _, _, _, _, _, rfl, .inl ⟨rfl, rfl, rfl⟩, rfl⟩ (fun i d τ M' hd ⟨hM, c, x0, x1, x2, x3, x4, hc, hk, e2⟩ => ?_) (fun τ M' ⟨hM, c, x0, x1, x2, x3, x4, hc, hk, e2⟩ => ?_)
  · subst e2
    obtain ⟨⟨v, s⟩, hq, rfl⟩ : ∃ p, hs[i]? = some p ∧ d = encH p := by
      rw [List.getElem?_map] at hd
      cases e : hs[i]? with
      | none => rw [e] at hd; cases hd
      | some m => rw [e] at hd; cases hd; exact ⟨m, rfl, rfl⟩
    obtain ⟨s0, s1⟩ := ht s (List.mem_map.mpr ⟨_, List.mem_of_getElem? hq, rfl⟩)
    have et : (hs.map (·.2)).take (i + 1) = (hs.map (·.2)).take i ++ [s] := by rw [List.take_succ, List.getElem?_map, hq]; rfl
    have step : rowsOf ((hs.map (·.2)).take (i + 1)) = wide (rowsOf ((hs.map (·.2)).take i)) s := by rw [et]; unfold rowsOf; rw [allR_snoc]
    have el : (wide (rowsOf ((hs.map (·.2)).take i)) s).length ≤ 1000000 := by
      rw [← step]
      unfold rowsOf
      rw [allR_len]
      have := prodN_take h0 (i + 1)
      simp only [List.length_singleton, Nat.one_mul]
      omega
    have er : ∀ row ∈ rowsOf ((hs.map (·.2)).take i), row.length ≤ 100 := fun row hr => by
      rw [(rows_ok _ rfl row hr).1, List.length_take]; omega
    rw [step]
    generalize rowsOf ((hs.map (·.2)).take i) = found at *
    refine s_gtup rfl ?_
    walk_at "g"
    refine fun t htM => ?_
    have hct : c ≠ .ref t := fun z => by
      subst z
      have hc : (match M' t with | some (.lst ds) => some ds | _ => none) = some (found.map encT) := hc
      rw [htM] at hc; cases hc
    have hMt : M t = none := by
      cases e : M t with
      | none => rfl
      | some m => rw [hM t m e] at htM; cases htM
    have hcu : ∀ m, sqOf (updM M' t m) c = some (found.map encT) := fun m => by
      rw [sq_same (M := M') (a := t) (fun b hb => updM_ne hb) hct]; exact hc
    walk_at "g"
    refine s_kseq (hcu _) ?_
    refine s_kforI (ds := found.map encT) (fun j τ M2 => M2 = updM M' t (.lst ((wide (found.take j) s).map encT)) ∧ ∃ y0 y1, τ = [some (.tup (hs.map encH)), some c, some (.int v), some (.int s), some (.ref t), y0, y1]) (fun j τ M2 _ ⟨e, _⟩ => by rw [e]; exact hcu _) ⟨rfl, _, _, rfl⟩ (fun j d τ M2 hd ⟨e, y0, y1, e2⟩ => ?_) (fun τ M2 ⟨e, y0, y1, e2⟩ => ?_)
    · subst e; subst e2
      obtain ⟨row, hq2, rfl⟩ : ∃ r, found[j]? = some r ∧ d = encT r := by
        rw [List.getElem?_map] at hd
        cases e : found[j]? with
        | none => rw [e] at hd; cases hd
        | some m => rw [e] at hd; cases hd; exact ⟨m, rfl, rfl⟩
      have rl := er row (List.mem_of_getElem? hq2)
      have ew : wide (found.take (j + 1)) s = wide (found.take j) s ++ (List.range (s + 1).toNat).map fun k : Nat => row ++ [(k : Int)] := by
        rw [List.take_succ, hq2]
        unfold wide
        rw [List.flatMap_append]
        show _ ++ (List.flatMap _ [row]) = _
        rw [List.flatMap_cons, List.flatMap_nil, List.append_nil]
      have ell : (wide (found.take j) s).length + (s + 1).toNat ≤ 1000000 := by
        have e1 : found = found.take j ++ (row :: found.drop (j + 1)) := by
          have hj : j < found.length := (List.getElem?_eq_some_iff.mp hq2).1
          have : found[j] = row := by rw [List.getElem?_eq_getElem hj] at hq2; exact Option.some.inj hq2
          rw [← this, ← List.drop_eq_getElem_cons hj, List.take_append_drop]
        have e2 := wide_len (found := found) (t := s)
        have e3 := wide_len (found := found.take j) (t := s)
        have e4 : (found.take j).length + 1 ≤ found.length := by
          have hj : j < found.length := (List.getElem?_eq_some_iff.mp hq2).1
          rw [List.length_take]; omega
        have e5 := Nat.mul_le_mul_right (s + 1).toNat e4
        rw [Nat.add_mul, Nat.one_mul] at e5
        omega
      refine s_gname ?_
      walk_at "g"
      refine s_kr1 (by omega) (by omega) ?_
      refine s_kforR (fun k τ M3 => M3 = updM M' t (.lst ((wide (found.take j) s ++ (List.range k).map fun k : Nat => row ++ [(k : Int)]).map encT)) ∧ ∃ z0, τ = [some (.tup (hs.map encH)), some c, some (.int v), some (.int s), some (.ref t), some (.tup (row.map .int)), z0]) ⟨by simp, _, rfl⟩ (fun k τ M3 hk ⟨e, z0, e2⟩ => ?_) (fun τ M3 ⟨e, z0, e2⟩ => ?_)
      · subst e; subst e2
        rw [Int.zero_add]
        walk_at "g"
        refine s_addT (small_line (by rw [List.length_map]; show _ + 1 ≤ _; omega)) ?_
        walk_at "g"
        refine s_append updM_same (Nat.lt_of_le_of_lt (m := 1000000) (by rw [List.length_map, List.length_append, List.length_map, List.length_range]; omega) (by decide)) ?_
        walk_at "g"
        refine ⟨?_, _, rfl⟩
        simp only [updM_updM, List.range_succ, List.map_append, List.map_cons, List.map_nil, List.append_assoc, encT]
      · subst e; subst e2
        refine ⟨?_, _, _, rfl⟩
        rw [ew]
    · subst e; subst e2
      rw [List.length_map, List.take_of_length_le (Nat.le_refl _)]
      walk_at "g"
      refine ⟨fun b m e => ?_, .ref t, _, _, _, _, _, sqOf_ref updM_same, .inr ⟨t, hMt, rfl⟩, rfl⟩
      rw [updM_ne (fun z => by subst z; rw [hMt] at e; cases e)]
      exact hM b m e
  · subst e2
    rw [List.length_map, List.take_of_length_le (by rw [List.length_map]; exact Nat.le_refl _)] at hc
    walk_at "g"
    rcases hk with ⟨hz, rfl, rfl⟩ | ⟨t, htM, rfl⟩
    · rw [List.length_map] at hz
      have : hs = [] := List.eq_nil_of_length_eq_zero hz
      subst this
      exact s_end (q _ _ (.inl ⟨rfl, rfl⟩))
    · have hc : (match M' t with | some (.lst ds) => some ds | _ => none) = some ((rowsOf (hs.map (·.2))).map encT) := hc
      refine s_endL (M2 := updM M t (.lst ((rowsOf (hs.map (·.2))).map encT))) (fun b m e => ?_) (q _ _ (.inr ⟨t, htM, rfl, rfl⟩))
      by_cases z : b = t
      · subst z
        rw [updM_same] at e
        cases e
        split at hc
        · rename_i ds hh
          rw [hh]; cases hc; rfl
        · cases hc
      · rw [updM_ne z] at e
        exact hM b m e
theorem len_law_is : ∀ ds M Q E, sp_law_is ds M Q E → ds.length = 2 := by rintro _ _ _ _ ⟨_, _, rfl, _⟩; rfl
theorem eqv_ints : ∀ xs : List Int, PyData.eqvAll (xs.map PyData.int) (xs.map PyData.int) = true
  | [] => by simp [PyData.eqvAll]
  | x :: xs => by
    have h := eqv_ints xs
    simp [PyData.eqvAll, PyData.eqv, h]
theorem py_ints : ∀ xs : List Int, pyAll (xs.map D.int) = some (xs.map PyData.int)
  | [] => rfl
  | x :: xs => by
    have h := py_ints xs
    simp [pyAll, D.py, h]
theorem lay_ints : ∀ xs : List Int, PyData.canLayAll0 (xs.map PyData.int) = true ∧ PyData.depthAll (xs.map PyData.int) ≤ 1
  | [] => by simp [PyData.canLayAll0, PyData.depthAll]
  | x :: xs => by
    have h := lay_ints xs
    simp [PyData.canLayAll0, PyData.depthAll, PyData.canLay0, PyData.depth, h.1, h.2]
theorem s_eqR {w : Int} {r : List Int} {M : Mp} {Q : QD} (h : Q (.bl true) M) : dEq (.tup [.int w, encT r]) (.tup [.int w, encT r]) M Q := by
  have e : (D.tup [.int w, encT r]).py = some (.tuple [.int w, .tuple (r.map PyData.int)]) := by simp [D.py, pyAll, py_ints]
  have sh : SeqAt.shaped (.tuple [.int w, .tuple (r.map PyData.int)]) = true := by
    have h1 := lay_ints r
    simp [SeqAt.shaped, PyData.canLay0, PyData.canLayAll0, PyData.depth, PyData.depthAll, h1.1]
    omega
  refine s_eqD rfl e e sh sh ?_
  have : PyData.eqv (.tuple [.int w, .tuple (r.map PyData.int)]) (.tuple [.int w, .tuple (r.map PyData.int)]) = true := by
    simp [PyData.eqv, PyData.eqvAll, eqv_ints]
  rw [this]
  exact h
theorem rd_law_is : Rds t_law_is n_law_is sp_law_is := by
  rintro _ M Q E ⟨hs, o, rfl, hr, q⟩
  show t_law_is _ [some (encR hs o), some (encR hs o), none] M
  unfold t_law_is
  cases o with
  | none =>
    simp only [encR]
    walk_at "g"
    simp only [D.isN]
    walk_at "g"
    exact s_end q
  | some r =>
    have hr := hr r rfl
    simp only [encR]
    walk_at "w"
    · rename_i c; exact absurd rfl c
    · rename_i c; exact absurd rfl c
    refine s_addT (small_line (by rw [List.length_map]; show 1 + _ ≤ _; omega)) ?_
    walk_at "g"
    refine s_kforT (ds := (wor hs r :: r).map .int) (fun i τ M' => M' = M ∧ ∃ x, τ = [some (.tup [.int (wor hs r), encT r]), some (.tup [.int (wor hs r), encT r]), x]) (fun _ => rfl) ⟨rfl, _, rfl⟩ (fun i d τ M' hd ⟨e, x, e2⟩ => ?_) (fun τ M' ⟨e, x, e2⟩ => ?_)
    · subst e; subst e2
      obtain ⟨y, _, rfl⟩ := List.mem_map.mp (List.mem_of_getElem? hd)
      refine s_gname ?_
      walk_at "g"
      exact ⟨rfl, _, rfl⟩
    · subst e; subst e2
      walk_at "g"
      exact s_eqR (s_end q)

/-- a cell left out -/
def dropM (M : Mp) (t : Addr) : Mp := fun b => if b = t then none else M b
theorem dropM_le {M : Mp} {t : Addr} : ∀ b m, dropM M t b = some m → M b = some m := fun b m e => by
  unfold dropM at e
  by_cases c : b = t
  · rw [if_pos c] at e; cases e
  · rwa [if_neg c] at e
theorem dropM_ne {M : Mp} {t b : Addr} (h : b ≠ t) : dropM M t b = M b := if_neg h
theorem dropM_same {M : Mp} {t : Addr} : dropM M t t = none := if_pos rfl

/-- a list that grows beside the script -/
structure Gr (M : Mp) (a t : Addr) (xs : List D) (M' : Mp) : Prop where
  st : StOk M' a
  at' : M' t = some (.lst xs)
  same : ∀ b, b ≠ a → b ≠ t → M' b = M b
theorem Gr.drawn {M M' M2 : Mp} {a t : Addr} {xs : List D} (h : Gr M a t xs M') (hat : a ≠ t) (D : Drawn M' a M2) : Gr M a t xs M2 := ⟨D.ok, by rw [D.same t (Ne.symm hat)]; exact h.at', fun b n1 n2 => by rw [D.same b n1, h.same b n1 n2]⟩
theorem Gr.add {M M' : Mp} {a t : Addr} {xs : List D} (h : Gr M a t xs M') (hat : a ≠ t) (ys : List D) : Gr M a t ys (updM M' t (.lst ys)) := by
  refine ⟨?_, updM_same, fun b n1 n2 => by rw [updM_ne n2, h.same b n1 n2]⟩
  obtain ⟨ns, i, c, k, b, hM, hi⟩ := h.st.ex
  exact ⟨⟨ns, i, c, k, b, by rw [updM_ne hat]; exact hM, hi⟩⟩
theorem Gr.start {M M1 : Mp} {a t : Addr} (D : Drawn M a M1) (ht : M1 t = none) : a ≠ t ∧ Gr M a t [] (updM M1 t (.lst [])) := by
  have hat : a ≠ t := fun z => by
    subst z
    obtain ⟨ns, i, c, k, b, hM, _⟩ := D.ok.ex
    rw [ht] at hM; cases hM
  refine ⟨hat, ?_, updM_same, fun b n1 n2 => by rw [updM_ne n2]; exact D.same b n1⟩
  obtain ⟨ns, i, c, k, b, hM, hi⟩ := D.ok.ex
  exact ⟨⟨ns, i, c, k, b, by rw [updM_ne hat]; exact hM, hi⟩⟩
theorem Gr.drop {M M' : Mp} {a t : Addr} {xs : List D} (h : Gr M a t xs M') (hat : a ≠ t) (ht : M t = none) : Drawn M a (dropM M' t) := by
  obtain ⟨ns, i, c, k, b, hM, hi⟩ := h.st.ex
  refine ⟨⟨ns, i, c, k, b, by rw [dropM_ne hat]; exact hM, hi⟩, fun b hb => ?_⟩
  by_cases z : b = t
  · rw [z, dropM_same, ht]
  · rw [dropM_ne z, h.same b hb z]
theorem s_ixB {xs : List D} {x y : D} {M : Mp} {Q : QD} {b : Bool} (h : Q (if b then y else x) M) : dIx (.lst [x, y]) (.int (if b = true then 1 else 0)) M Q := by
  cases b with
  | true => exact s_ix (d := y) rfl rfl h
  | false => exact s_ix (d := x) rfl rfl h

theorem s_ixAny {is : List Int} {k : Int} {M : Mp} {Q : QD} (h0 : 0 ≤ k) (h1 : k < is.length) (h : ∀ i ∈ is, Q (.int i) M) : dIx (.lst (is.map .int)) (.int k) M Q := by
  have hk : k.toNat < is.length := by omega
  exact s_ix (d := .int is[k.toNat]) rfl (by rw [atI_toNat h0, List.getElem?_map, List.getElem?_eq_getElem hk]; rfl) (h _ (List.getElem_mem hk))

/-- the state's own cell, and what may be told at the end -/
structure Kp (M : Mp) (a : Addr) (M' : Mp) : Prop where
  st : StOk M' a
  fin : ∃ M2 : Mp, (∀ b m, M2 b = some m → M' b = some m) ∧ Drawn M a M2
theorem Kp.self {M : Mp} {a : Addr} (h : StOk M a) : Kp M a M := ⟨h, M, fun _ _ e => e, Drawn.self h⟩
theorem Kp.drawn {M M' M2 : Mp} {a : Addr} (h : Kp M a M') (D : Drawn M' a M2) : Kp M a M2 := by
  obtain ⟨N, h1, h2⟩ := h.fin
  refine ⟨D.ok, fun b => if b = a then M2 a else N b, fun b m e => ?_, ?_, fun b hb => ?_⟩
  · have e : (if b = a then M2 a else N b) = some m := e
    by_cases z : b = a
    · rw [if_pos z] at e; rw [z]; exact e
    · rw [if_neg z] at e; rw [D.same b z]; exact h1 b m e
  · obtain ⟨ns, i, c, k, b, hM, hi⟩ := D.ok.ex
    exact ⟨⟨ns, i, c, k, b, by show (if a = a then M2 a else N a) = _; rw [if_pos rfl]; exact hM, hi⟩⟩
  · show (if b = a then M2 a else N b) = M b
    rw [if_neg hb]; exact h2.same b hb
theorem Kp.new {M M' : Mp} {a t : Addr} {m : MO} (h : Kp M a M') (ht : M' t = none) : a ≠ t ∧ Kp M a (updM M' t m) := by
  have hat : a ≠ t := fun z => by
    subst z
    obtain ⟨ns, i, c, k, b, hM, _⟩ := h.st.ex
    rw [ht] at hM; cases hM
  obtain ⟨N, h1, h2⟩ := h.fin
  refine ⟨hat, ?_, N, fun b m' e => ?_, h2⟩
  · obtain ⟨ns, i, c, k, b, hM, hi⟩ := h.st.ex
    exact ⟨⟨ns, i, c, k, b, by rw [updM_ne hat]; exact hM, hi⟩⟩
  · rw [updM_ne (fun z => by subst z; rw [h1 _ m' e] at ht; cases ht)]; exact h1 b m' e
theorem Kp.end {M M' : Mp} {a : Addr} {Q : QD} {d : D} (h : Kp M a M') (q : ∀ M2, Drawn M a M2 → Q d M2) : rtQ Q d M' := by
  obtain ⟨N, h1, h2⟩ := h.fin
  exact s_endL (M2 := N) h1 (q N h2)
theorem Gr.kp {M M' : Mp} {a t : Addr} {xs : List D} (h : Gr M a t xs M') (hat : a ≠ t) (ht : M t = none) : Kp M a M' := ⟨h.st, dropM M' t, dropM_le, h.drop hat ht⟩
theorem all_flat_int : ∀ xs : List Int, (xs.map D.int).all D.flat = true
  | [] => rfl
  | x :: xs => by
    show (true && (xs.map D.int).all D.flat) = true
    rw [all_flat_int xs]; rfl
theorem prodN_le {b : Nat} : ∀ {ts : List Int}, (∀ t ∈ ts, 0 ≤ t ∧ (t + 1).toNat ≤ b) → 0 < b → prodN ts ≤ b ^ ts.length
  | [], _, _ => by show 1 ≤ 1; exact Nat.le_refl _
  | t :: ts, h, hb => by
    show (t + 1).toNat * prodN ts ≤ b ^ (ts.length + 1)
    rw [Nat.pow_succ, Nat.mul_comm]
    exact Nat.mul_le_mul (prodN_le (fun t ht => h t (List.mem_cons_of_mem _ ht)) hb) (h t (List.mem_cons_self ..)).2
def decH : D → Int × Int
  | .tup [.int a, .int b] => (a, b)
  | _ => (0, 0)
theorem perm_enc {T : List (Int × Int)} {es : List D} (h : es.Perm (T.map encH)) : ∃ hs : List (Int × Int), hs.Perm T ∧ es = hs.map encH := by
  refine ⟨es.map decH, ?_, ?_⟩
  · have := h.map decH
    rw [List.map_map] at this
    have e : (decH ∘ encH) = id := by funext p; rfl
    rw [e, List.map_id] at this
    exact this
  · rw [List.map_map]
    have : ∀ e ∈ es, (encH ∘ decH) e = e := fun e he => by
      obtain ⟨p, _, rfl⟩ := List.mem_map.mp (h.mem_iff.mp he)
      rfl
    exact (List.map_congr_left this).symm ▸ (List.map_id _).symm
theorem len_law_holding : ∀ ds M Q E, sp_law_holding ds M Q E → ds.length = 1 := by rintro _ _ _ _ ⟨_, rfl, _⟩; rfl
theorem rd_law_holding : Rds t_law_holding n_law_holding sp_law_holding := by
  rintro _ M Q E ⟨a, rfl, st, q⟩
  show t_law_holding _ [some (.ref a), none, none, none, none, none] M
  unfold t_law_holding
  walk_at "g"
  refine ⟨a, 9, rfl, by decide, by decide, st, fun b1 M1 b10 b11 D1 => ?_⟩
  walk_at "g"
  refine ⟨a, 300, rfl, by decide, by decide, D1.ok, fun b2 M2 b20 b21 D2 => ?_⟩
  walk_at "g"
  refine ⟨a, 90000, rfl, by decide, by decide, D2.ok, fun b3 M3 b30 b31 D3 => ?_⟩
  walk_at "g"
  refine ⟨a, 3, rfl, by decide, by decide, D3.ok, fun b4 M4 b40 b41 D4 => ?_⟩
  walk_at "g"
  refine s_ixAny (is := [b1, b2, b3]) b40 b41 fun b hb => ?_
  have hb : 0 ≤ b ∧ b ≤ 90000 := by
    simp only [List.mem_cons, List.not_mem_nil, or_false] at hb
    rcases hb with rfl | rfl | rfl <;> omega
  have DD := D1.trans (D2.trans (D3.trans D4))
  walk_at "g"
  refine fun t htM => ?_
  obtain ⟨hat, G⟩ := Gr.start DD htM
  have hMt : M t = none := by rw [← DD.same t (Ne.symm hat)]; exact htM
  walk_at "g"
  refine ⟨a, 5, rfl, by decide, by decide, G.st, fun cnt M5 c0 c1 D5 => ?_⟩
  have G := G.drawn hat D5
  walk_at "g"
  refine s_kr1 (by omega) (by omega) ?_
  refine s_kforR (fun i τ M' => ∃ (T : List (Int × Int)) (x y z : Option D), Gr M a t (T.map encH) M' ∧ T.length ≤ i ∧ (∀ p ∈ T, (0 ≤ p.1 ∧ p.1 ≤ 1000000) ∧ 0 ≤ p.2 ∧ p.2 ≤ 7) ∧ τ = [some (.ref a), some (.int (1 + b)), some (.ref t), x, y, z]) ⟨[], _, _, _, G, Nat.le_refl _, (fun p hp => by cases hp), rfl⟩ (fun i τ M' hi ⟨T, x, y, z, G, hT, hTp, e2⟩ => ?_) (fun τ M' ⟨T, x, y, z, G, hT, hTp, e2⟩ => ?_)
  · subst e2
    rw [Int.zero_add]
    have hsz : (T.map encH).length < sizeLine := Nat.lt_of_le_of_lt (m := 100) (by rw [List.length_map]; omega) (by decide)
    walk_at "g"
    refine ⟨a, 9, rfl, by decide, by decide, G.st, fun d1 M6 d10 d11 D6 => ?_⟩
    have G := G.drawn hat D6
    walk_at "g"
    refine ⟨a, 20, rfl, by decide, by decide, G.st, fun d2 M7 d20 d21 D7 => ?_⟩
    have G := G.drawn hat D7
    walk_at "g"
    refine ⟨a, 4, rfl, by decide, by decide, G.st, fun d3 M8 d30 d31 D8 => ?_⟩
    have G := G.drawn hat D8
    walk_at "g"
    refine s_mul (.inl (.inl (sm64 (by omega)))) ?_
    walk_at "g"
    refine ⟨a, 3, rfl, by decide, by decide, G.st, fun d4 M9 d40 d41 D9 => ?_⟩
    have G := G.drawn hat D9
    walk_at "g"
    have m0 := Int.mul_nonneg (show 0 ≤ 1 + b by omega) (show 0 ≤ 1 + d3 by omega)
    generalize (1 + b) * (1 + d3) = bd at *
    refine s_ixAny (is := [1 + b + d1, 1 + d2, if bd < 100000 then bd else 100000]) d40 d41 fun v hv => ?_
    have hv : 0 ≤ v ∧ v ≤ 1000000 := by
      simp only [List.mem_cons, List.not_mem_nil, or_false] at hv
      rcases hv with rfl | rfl | rfl
      · omega
      · omega
      · split <;> omega
    have hGt := G.at'
    walk_at "g"
    refine s_klcMapM encH (fun p => .int p.1) (sqOf_ref hGt) (small_line (by omega)) (fun p hp => ⟨_, rfl, fun Q k => ?_⟩) ?_
    · obtain ⟨v1, s1⟩ := p
      show dOp dIx (dVar 5) (dC (.int 0)) [some (.ref a), some (.int (1 + b)), some (.ref t), some (.int i), some (.int v), some (.tup [.int v1, .int s1])] M9 Q
      walk_at "g"
      exact k
    walk_at "g"
    have ef : (T.map fun p => D.int p.1) = (T.map (·.1)).map D.int := by rw [List.map_map]; rfl
    refine s_in rfl rfl (by rw [ef]; exact all_flat_int _) ?_
    walk_at "g"
    refine b_any (fun _ => ?_) (fun _ => ?_)
    · walk_at "g"
      have kb : ∃ k : Int, (if decide ((i : Int) < 2) = true then (1 : Int) else 0) = k ∧ 0 ≤ k ∧ k ≤ 1 := ⟨_, rfl, by split <;> omega, by split <;> omega⟩
      obtain ⟨k, ek, k0, k1⟩ := kb
      rw [ek]
      refine s_mul (.inl (.inl (by decide))) ?_
      walk_at "g"
      refine ⟨a, 4 + 3 * k, rfl, by omega, by omega, G.st, fun d5 M10 d50 d51 D10 => ?_⟩
      have G := G.drawn hat D10
      have hGt := G.at'
      walk_at "g"
      refine s_append G.at' hsz ?_
      walk_at "g"
      refine ⟨T ++ [(v, 1 + d5)], _, _, _, by rw [List.map_append]; exact G.add hat _, by rw [List.length_append]; show _ + 1 ≤ _; omega, fun w hw => ?_, rfl⟩
      rcases List.mem_append.mp hw with hw | hw
      · exact hTp w hw
      · rw [List.mem_singleton.mp hw]
        exact ⟨hv, by show 0 ≤ 1 + d5; omega, by show 1 + d5 ≤ 7; omega⟩
    · walk_at "g"
      exact ⟨T, _, _, _, G, by omega, hTp, rfl⟩
  · subst e2
    have hGt := G.at'
    walk_at "g"
    refine s_sortedU (lsOf_ref hGt) (by rw [List.length_map]; omega) (fun e he => ?_) (fun es hp => ?_)
    · obtain ⟨p, hp, rfl⟩ := List.mem_map.mp he
      obtain ⟨⟨h1, h2⟩, h3, h4⟩ := hTp p hp
      refine ⟨[p.1, p.2], rfl, rfl, fun m hm => ?_⟩
      simp only [List.mem_cons, List.not_mem_nil, or_false] at hm
      rcases hm with rfl | rfl <;> omega
    obtain ⟨hs, hperm, rfl⟩ := perm_enc hp
    have hl : hs.length ≤ 4 := by have := hperm.length_eq; omega
    have hm : ∀ p ∈ hs, (0 ≤ p.1 ∧ p.1 ≤ 1000000) ∧ 0 ≤ p.2 ∧ p.2 ≤ 7 := fun p hp => hTp p (hperm.mem_iff.mp hp)
    have hm2 : ∀ t ∈ hs.map (·.2), 0 ≤ t ∧ (t + 1).toNat ≤ 8 := fun t ht => by
      obtain ⟨p, hp, rfl⟩ := List.mem_map.mp ht
      have := (hm p hp).2
      omega
    have hpr : prodN (hs.map (·.2)) ≤ 4096 := by
      refine Nat.le_trans (prodN_le hm2 (by decide)) ?_
      rw [List.length_map]
      exact Nat.le_trans (Nat.pow_le_pow_right (by decide) hl) (by decide)
    walk_at "g"
    refine s_endL (M2 := dropM M' t) dropM_le (q hs _ ⟨⟨by rw [List.length_map]; omega, fun t ht => by have := hm2 t ht; omega, by omega⟩, fun p hp => (hm p hp).1⟩ (by omega) (by omega) (G.drop hat hMt))
theorem best_len {hs : List (Int × Int)} {price most : Int} (h : Hol hs) (hl : hs.length ≤ 100) (r : List Int) (hr : bestO hs price most (rowsOf (hs.map (·.2))) = some r) : r.length ≤ 100 := by
  have : ∀ (rows : List (List Int)) (o : Option (List Int)), (∀ r ∈ rows, RowOk hs r) → (∀ r, o = some r → RowOk hs r) → ∀ r, rows.foldl (stepB hs price most) o = some r → RowOk hs r := fun rows => by
    induction rows with
    | nil => intro o _ ho r e; exact ho r e
    | cons x xs ih =>
      intro o hr ho r e
      refine ih (stepB hs price most o x) (fun r h => hr r (List.mem_cons_of_mem _ h)) (fun r e => ?_) r e
      have hx := hr x (List.mem_cons_self ..)
      unfold stepB at e
      split at e
      · cases o with
        | none => cases e; exact hx
        | some b =>
          have e : (if ltR hs x b = true then some x else some b) = some r := e
          split at e
          · cases e; exact hx
          · cases e; exact ho _ rfl
      · exact ho r e
  have := this _ none (fun r hr => row_ok h hr) (fun r e => by cases e) r hr
  rw [this.1]; exact hl
theorem row_sq {rows : List (List Int)} {c : D} {M : Mp} {d : Int} {Q : QD} (hc : sqOf M c = some (rows.map encT)) (d0 : 0 ≤ d) (d1 : d < rows.length) (h : ∀ r ∈ rows, Q (encT r) M) : dIx c (.int d) M Q := by
  have hk : d.toNat < rows.length := by omega
  exact s_ix (d := encT rows[d.toNat]) hc (by rw [atI_toNat d0, List.getElem?_map, List.getElem?_eq_getElem hk]; rfl) (h _ (List.getElem_mem hk))
theorem rows_pos {hs : List (Int × Int)} (h : Hol hs) : 0 < (rowsOf (hs.map (·.2))).length ∧ (rowsOf (hs.map (·.2))).length ≤ 1000000 := by
  unfold rowsOf
  rw [allR_len]
  have := prodN_pos (fun t ht => (h.1.2.1 t ht).1)
  have := h.1.2.2
  simp only [List.length_singleton, Nat.one_mul]
  omega
theorem row_sum {hs : List (Int × Int)} (h : hs.length ≤ 100) {r : List Int} (hr : RowOk hs r) : 0 ≤ r.sum ∧ r.sum ≤ 100000 := by
  have : ∀ xs : List Int, (∀ x ∈ xs, 0 ≤ x ∧ x ≤ 1000) → 0 ≤ xs.sum ∧ xs.sum ≤ 1000 * xs.length := fun xs => by
    induction xs with
    | nil => intro _; simp
    | cons x xs ih =>
      intro hx
      have := hx x (List.mem_cons_self ..)
      have := ih fun y hy => hx y (List.mem_cons_of_mem _ hy)
      rw [List.sum_cons, List.length_cons]
      omega
  have := this r hr.2
  rw [hr.1] at this
  omega
theorem len_law_wide_holds : ∀ ds M Q E, sp_law_wide_holds ds M Q E → ds.length = 1 := by rintro _ _ _ _ ⟨_, rfl, _⟩; rfl
theorem wide_c4 (C : Ct) (Q : QD) (M M' : Mp) (a t : Addr) (hs : List (Int × Int)) (x1 x2 x4 x5 : Option D) (h : Hol hs) (hp : prodN (hs.map (·.2)) ≤ 20000) (hl : hs.length ≤ 100) (hat : a ≠ t) (G : Gr M a t (hs.map encH) M') (hMt : M t = none) (q : ∀ M', Drawn M a M' → Q (.bl true) M') :
    t_law_wide_holds_c4 C (fnE Q) [some (.ref a), x1, x2, some (.ref t), x4, x5, none, none, none, none] M' := by
  unfold t_law_wide_holds_c4
  have hGt := G.at'
  have K := G.kp hat hMt
  have st := G.st
  walk_at "g"
  refine ⟨hs, rfl, h, fun c M2 hc => ?_⟩
  obtain ⟨hct, hca, K2, hsq, hMt2⟩ : c ≠ .ref t ∧ c ≠ .ref a ∧ Kp M a M2 ∧ sqOf M2 c = some ((rowsOf (hs.map (·.2))).map encT) ∧ M2 t = some (.lst (hs.map encH)) := by
    rcases hc with ⟨rfl, rfl⟩ | ⟨t2, h2, rfl, rfl⟩
    · exact ⟨(by intro z; cases z), (by intro z; cases z), K, rfl, hGt⟩
    · obtain ⟨n1, K2⟩ := K.new (m := .lst ((rowsOf (hs.map (·.2))).map encT)) h2
      have n2 : t ≠ t2 := fun z => by subst z; rw [hGt] at h2; cases h2
      exact ⟨(by intro z; cases z; exact n2 rfl), (by intro z; cases z; exact n1 rfl), K2, sqOf_ref updM_same, by rw [updM_ne n2]; exact hGt⟩
  obtain ⟨r0, r1⟩ := rows_pos h
  have hrow : ∀ r ∈ rowsOf (hs.map (·.2)), RowOk hs r := fun r hr => row_ok h hr
  walk_at "g"
  refine s_len hsq ?_
  walk_at "g"
  refine ⟨a, _, rfl, by rw [List.length_map]; omega, by rw [List.length_map]; omega, K2.st, fun d M3 d0 d1 D3 => ?_⟩
  rw [List.length_map] at d1
  have sq3 : sqOf M3 c = some ((rowsOf (hs.map (·.2))).map encT) := by rw [sq_same D3.same hca]; exact hsq
  have t3 : M3 t = some (.lst (hs.map encH)) := by rw [D3.same t (Ne.symm hat)]; exact hMt2
  have K3 := K2.drawn D3
  walk_at "g"
  refine row_sq sq3 d0 d1 fun r hr => ?_
  have rk := hrow r hr
  walk_at "g"
  refine ⟨.ref t, hs, r, rfl, sqOf_ref t3, rk, h.2, hl, ?_⟩
  walk_at "g"
  refine ⟨a, 2, rfl, by decide, by decide, K3.st, fun e M4 e0 e1 D4 => ?_⟩
  have sq4 : sqOf M4 c = some ((rowsOf (hs.map (·.2))).map encT) := by rw [sq_same D4.same hca]; exact sq3
  have t4 : M4 t = some (.lst (hs.map encH)) := by rw [D4.same t (Ne.symm hat)]; exact t3
  have K4 := K3.drawn D4
  walk_at "g"
  refine s_sumA rfl (intsOf_mapG (fun x : Int => x) r) ?_
  rw [List.map_id']
  walk_at "g"
  refine ⟨a, 3, rfl, by decide, by decide, K4.st, fun g M5 g0 g1 D5 => ?_⟩
  have sq5 : sqOf M5 c = some ((rowsOf (hs.map (·.2))).map encT) := by rw [sq_same D5.same hca]; exact sq4
  have t5 : M5 t = some (.lst (hs.map encH)) := by rw [D5.same t (Ne.symm hat)]; exact t4
  have K5 := K4.drawn D5
  walk_at "g"
  refine ⟨hs, _, _, rfl, h, fun _ => ?_, fun z => by omega⟩
  walk_at "g"
  refine ⟨.ref t, c, hs, _, _, _, rfl, sqOf_ref t5, sq5, hrow, h.2, hl, ?_⟩
  walk_at "g"
  exact ⟨hs, _, rfl, fun r hr => best_len h hl r hr, K5.end q⟩
theorem rd_law_wide_holds (C : Ct) : Rds (t_law_wide_holds C) n_law_wide_holds sp_law_wide_holds := by
  rintro _ M Q E ⟨a, rfl, st, q⟩
  show t_law_wide_holds C _ [some (.ref a), none, none, none, none, none, none, none, none, none] M
  unfold t_law_wide_holds
  walk_at "g"
  refine ⟨a, 300, rfl, by decide, by decide, st, fun b M1 b0 b1 D1 => ?_⟩
  walk_at "g"
  refine ⟨a, 2, rfl, by decide, by decide, D1.ok, fun cd M2 c0 c1 D2 => ?_⟩
  have DD := D1.trans D2
  walk_at "g"
  refine s_ixAny (is := [10, 2]) c0 c1 fun cn hcn => ?_
  walk_at "g"
  refine fun t htM => ?_
  obtain ⟨hat, G⟩ := Gr.start DD htM
  have hMt : M t = none := by rw [← DD.same t (Ne.symm hat)]; exact htM
  walk_at "g"
  have hcn : cn = 10 ∨ cn = 2 := by
    simp only [List.mem_cons, List.not_mem_nil, or_false] at hcn
    exact hcn
  refine s_kr1 (by omega) (by omega) ?_
  refine s_kforR (fun i τ M' => ∃ (T : List (Int × Int)) (x y : Option D), Gr M a t (T.map encH) M' ∧ T.length = i ∧ (∀ p ∈ T, (0 ≤ p.1 ∧ p.1 ≤ 1000000) ∧ 0 ≤ p.2 ∧ (p.2 ≤ 50 ∧ cn = 2 ∨ p.2 ≤ 1)) ∧ τ = [some (.ref a), some (.int (1 + b)), some (.int cn), some (.ref t), x, y, none, none, none, none]) ⟨[], _, _, G, rfl, (fun p hp => by cases hp), rfl⟩ (fun i τ M' hi ⟨T, x, y, G, hT, hTp, e2⟩ => ?_) (fun τ M' ⟨T, x, y, G, hT, hTp, e2⟩ => ?_)
  · subst e2
    rw [Int.zero_add]
    have hi : (i : Int) < 10 := by omega
    have hsz : (T.map encH).length < sizeLine := Nat.lt_of_le_of_lt (m := 100) (by rw [List.length_map]; omega) (by decide)
    have fin : ∀ (M'' : Mp) (n v : Int), 0 ≤ v → v ≤ 1000000 → 0 ≤ n → (n ≤ 50 ∧ cn = 2 ∨ n ≤ 1) → Gr M a t ((T ++ [(v, n)]).map encH) M'' → ∃ (T' : List (Int × Int)) (x' y' : Option D), Gr M a t (T'.map encH) M'' ∧ T'.length = i + 1 ∧ (∀ p ∈ T', (0 ≤ p.1 ∧ p.1 ≤ 1000000) ∧ 0 ≤ p.2 ∧ (p.2 ≤ 50 ∧ cn = 2 ∨ p.2 ≤ 1)) ∧ ([some (.ref a), some (.int (1 + b)), some (.int cn), some (.ref t), some (.int i), some (.int n), none, none, none, none] : SD) = [some (.ref a), some (.int (1 + b)), some (.int cn), some (.ref t), x', y', none, none, none, none] := fun M'' n v v0 v1 n0 n1 G => by
      refine ⟨T ++ [(v, n)], _, _, G, by rw [List.length_append, hT]; rfl, fun w hw => ?_, rfl⟩
      rcases List.mem_append.mp hw with hw | hw
      · exact hTp w hw
      · rw [List.mem_singleton.mp hw]
        exact ⟨⟨v0, v1⟩, n0, n1⟩
    have hGt := G.at'
    walk_at "g"
    · rename_i hc
      have hc : cn = 2 := hc
      refine ⟨a, 43, rfl, by decide, by decide, G.st, fun d0 M5 d00 d01 D5 => ?_⟩
      have G := G.drawn hat D5
      have hGt := G.at'
      walk_at "g"
      refine ⟨a, 9, rfl, by decide, by decide, G.st, fun d1 M6 d10 d11 D6 => ?_⟩
      have G := G.drawn hat D6
      walk_at "g"
      refine s_mul (.inl (.inl (sm64 (by omega)))) ?_
      walk_at "g"
      refine s_mul (.inl (.inl (by decide))) ?_
      walk_at "g"
      have m0 := Int.mul_nonneg (show (0 : Int) ≤ i by omega) (show 0 ≤ 1 + d1 by omega)
      have m1 := Int.mul_le_mul (show (i : Int) ≤ 10 by omega) (show 1 + d1 ≤ 9 by omega) (show 0 ≤ 1 + d1 by omega) (by decide)
      generalize (i : Int) * (1 + d1) = id at *
      refine s_append G.at' hsz ?_
      walk_at "g"
      refine fin _ (8 + d0) (1 + b + id + 10 * i) (by omega) (by omega) (by omega) (.inl ⟨by omega, hc⟩) ?_
      rw [List.map_append]
      exact G.add hat _
    · rename_i hc
      refine ⟨a, 9, rfl, by decide, by decide, G.st, fun d1 M6 d10 d11 D6 => ?_⟩
      have G := G.drawn hat D6
      walk_at "g"
      refine s_mul (.inl (.inl (sm64 (by omega)))) ?_
      walk_at "g"
      refine s_mul (.inl (.inl (by decide))) ?_
      walk_at "g"
      have m0 := Int.mul_nonneg (show (0 : Int) ≤ i by omega) (show 0 ≤ 1 + d1 by omega)
      have m1 := Int.mul_le_mul (show (i : Int) ≤ 10 by omega) (show 1 + d1 ≤ 9 by omega) (show 0 ≤ 1 + d1 by omega) (by decide)
      generalize (i : Int) * (1 + d1) = id at *
      refine s_append G.at' hsz ?_
      walk_at "g"
      refine fin _ 1 (1 + b + id + 10 * i) (by omega) (by omega) (by decide) (.inr (by decide)) ?_
      rw [List.map_append]
      exact G.add hat _
  · subst e2
    have hl : T.length ≤ 10 := by omega
    have hm : ∀ t ∈ T.map (·.2), 0 ≤ t ∧ t ≤ 50 := fun t ht => by
      obtain ⟨p, hp, rfl⟩ := List.mem_map.mp ht
      have := (hTp p hp).2
      omega
    have hpr : prodN (T.map (·.2)) ≤ 2601 := by
      rcases hcn with rfl | rfl
      · have h2 : ∀ t ∈ T.map (·.2), 0 ≤ t ∧ (t + 1).toNat ≤ 2 := fun t ht => by
          obtain ⟨p, hp, rfl⟩ := List.mem_map.mp ht
          have := (hTp p hp).2
          omega
        refine Nat.le_trans (prodN_le h2 (by decide)) ?_
        rw [List.length_map]
        exact Nat.le_trans (Nat.pow_le_pow_right (by decide) hl) (by decide)
      · have h2 : ∀ t ∈ T.map (·.2), 0 ≤ t ∧ (t + 1).toNat ≤ 51 := fun t ht => by
          have := hm t ht
          omega
        refine Nat.le_trans (prodN_le h2 (by decide)) ?_
        rw [List.length_map]
        have : T.length ≤ 2 := by omega
        exact Nat.le_trans (Nat.pow_le_pow_right (by decide) this) (by decide)
    exact wide_c4 C Q M M' a t T _ _ _ _ ⟨⟨by rw [List.length_map]; omega, fun t ht => by have := hm t ht; omega, by omega⟩, fun p hp => (hTp p hp).1⟩ (by omega) (by omega) hat G hMt q

theorem s_ixMem {xs : List D} {d : Int} {M : Mp} {Q : QD} (d0 : 0 ≤ d) (d1 : d < xs.length) (h : ∀ x ∈ xs, Q x M) : dIx (.lst xs) (.int d) M Q := by
  have hk : d.toNat < xs.length := by omega
  exact s_ix (d := xs[d.toNat]) rfl (by rw [atI_toNat d0, List.getElem?_eq_getElem hk]) (h _ (List.getElem_mem hk))
/-- the whole holding is worth most -/
theorem wor_le {hs : List (Int × Int)} (hv : ∀ p ∈ hs, 1 ≤ p.1) {r : List Int} (hl : r.length = hs.length) (hr : ∀ (i : Nat) (x t : Int), r[i]? = some x → (hs.map (·.2))[i]? = some t → 0 ≤ x ∧ x ≤ t) :
    wor hs r ≤ wor hs (hs.map (·.2)) ∧ (wor hs r = wor hs (hs.map (·.2)) → r = hs.map (·.2)) := by
  have key : ∀ n, n ≤ hs.length → ((List.range n).map fun i => (hs.getD i (0, 0)).1 * r.getD i 0).sum ≤ ((List.range n).map fun i => (hs.getD i (0, 0)).1 * (hs.map (·.2)).getD i 0).sum ∧ (((List.range n).map fun i => (hs.getD i (0, 0)).1 * r.getD i 0).sum = ((List.range n).map fun i => (hs.getD i (0, 0)).1 * (hs.map (·.2)).getD i 0).sum → ∀ i, i < n → r.getD i 0 = (hs.map (·.2)).getD i 0) := fun n => by
    induction n with
    | zero => intro _; exact ⟨by simp, fun _ i hi => by omega⟩
    | succ n ih =>
      intro hn
      obtain ⟨h1, h2⟩ := ih (by omega)
      have e1 := List.getElem?_eq_getElem (l := hs) (i := n) (by omega)
      have e2 := List.getElem?_eq_getElem (l := r) (i := n) (by omega)
      have e3 : (hs.map (·.2))[n]? = some hs[n].2 := by rw [List.getElem?_map, e1]; rfl
      have g1 := getD_of (z := ((0, 0) : Int × Int)) e1
      have g2 := getD_of (z := (0 : Int)) e2
      have g3 := getD_of (z := (0 : Int)) e3
      have v1 := hv _ (List.getElem_mem (l := hs) (n := n) (by omega))
      obtain ⟨x0, x1⟩ := hr n _ _ e2 e3
      rw [List.range_succ, List.map_append, List.map_append, List.sum_append, List.sum_append]
      simp only [List.map_cons, List.map_nil, List.sum_cons, List.sum_nil, Int.add_zero]
      rw [g1, g2, g3]
      have m := Int.mul_le_mul_of_nonneg_left x1 (show 0 ≤ hs[n].1 by omega)
      refine ⟨by omega, fun e i hi => ?_⟩
      by_cases c : i = n
      · subst c
        rw [g2, g3]
        have me : hs[i].1 * r[i] = hs[i].1 * hs[i].2 := by omega
        exact Int.eq_of_mul_eq_mul_left (by omega) me
      · exact h2 (by omega) i (by omega)
  obtain ⟨h1, h2⟩ := key hs.length (Nat.le_refl _)
  have ll : (hs.map (·.2)).length = hs.length := List.length_map _
  unfold wor
  rw [hl, ll]
  refine ⟨h1, fun e => ?_⟩
  have := h2 e
  apply List.ext_getElem
  · rw [hl, ll]
  · intro i i1 i2
    have := this i (by omega)
    rwa [getD_of (List.getElem?_eq_getElem i1), getD_of (List.getElem?_eq_getElem i2)] at this
theorem full_mem : ∀ (n : Nat) {ts : List Int}, ts.length = n → (∀ t ∈ ts, 0 ≤ t) → ts ∈ rowsOf ts
  | 0, ts, hn, _ => by rw [List.eq_nil_of_length_eq_zero hn]; exact List.mem_singleton.mpr rfl
  | n + 1, ts, hn, h => by
    obtain ⟨us, t, rfl⟩ : ∃ us t, ts = us ++ [t] := ⟨ts.dropLast, ts.getLast (fun z => by rw [z] at hn; cases hn), (List.dropLast_concat_getLast _).symm⟩
    have hn : us.length = n := by rw [List.length_append] at hn; simpa using hn
    have ih := full_mem n hn fun t ht => h t (List.mem_append_left _ ht)
    have t0 := h t (List.mem_append_right _ (List.mem_singleton.mpr rfl))
    unfold rowsOf
    rw [allR_snoc]
    refine List.mem_flatMap.mpr ⟨us, ih, List.mem_map.mpr ⟨t.toNat, List.mem_range.mpr (by omega), ?_⟩⟩
    rw [show ((t.toNat : Nat) : Int) = t by omega]
theorem fold_none {hs : List (Int × Int)} {price most : Int} : ∀ (rows : List (List Int)) (o : Option (List Int)), (∀ r ∈ rows, ¬ (r.sum ≤ most ∧ price ≤ wor hs r)) → rows.foldl (stepB hs price most) o = o
  | [], _, _ => rfl
  | r :: rs, o, h => by
    have : stepB hs price most o r = o := by unfold stepB; rw [if_neg (h r (List.mem_cons_self ..))]
    rw [List.foldl_cons, this]
    exact fold_none rs o fun r hr => h r (List.mem_cons_of_mem _ hr)
theorem fold_one {hs : List (Int × Int)} {price most : Int} {b : List Int} (hb : b.sum ≤ most ∧ price ≤ wor hs b) : ∀ (rows : List (List Int)) (o : Option (List Int)), (∀ r ∈ rows, r.sum ≤ most ∧ price ≤ wor hs r → r = b) → (o = none ∧ b ∈ rows ∨ o = some b) → rows.foldl (stepB hs price most) o = some b
  | [], o, _, ho => by
    rcases ho with ⟨_, h⟩ | h
    · cases h
    · exact h
  | r :: rs, o, h, ho => by
    rw [List.foldl_cons]
    refine fold_one hb rs _ (fun r hr => h r (List.mem_cons_of_mem _ hr)) ?_
    by_cases c : r.sum ≤ most ∧ price ≤ wor hs r
    · have e := h r (List.mem_cons_self ..) c
      subst e
      right
      unfold stepB
      rw [if_pos c]
      rcases ho with ⟨rfl, _⟩ | rfl
      · rfl
      · show (if ltR hs r r = true then some r else some r) = some r
        split <;> rfl
    · have e : stepB hs price most o r = o := by unfold stepB; rw [if_neg c]
      rw [e]
      rcases ho with ⟨rfl, hm⟩ | rfl
      · left
        refine ⟨rfl, ?_⟩
        rcases List.mem_cons.mp hm with rfl | hm
        · exact absurd hb c
        · exact hm
      · exact .inr rfl
theorem best_full {hs : List (Int × Int)} {most : Int} (hv : ∀ p ∈ hs, 1 ≤ p.1) (h0 : ∀ t ∈ hs.map (·.2), 0 ≤ t) (hm : (hs.map (·.2)).sum ≤ most) :
    bestO hs (wor hs (hs.map (·.2))) most (rowsOf (hs.map (·.2))) = some (hs.map (·.2)) ∧ bestO hs (wor hs (hs.map (·.2)) + 1) most (rowsOf (hs.map (·.2))) = none := by
  have key : ∀ r ∈ rowsOf (hs.map (·.2)), wor hs r ≤ wor hs (hs.map (·.2)) ∧ (wor hs r = wor hs (hs.map (·.2)) → r = hs.map (·.2)) := fun r hr => by
    obtain ⟨l1, l2⟩ := rows_ok _ rfl r hr
    exact wor_le hv (by rw [l1, List.length_map]) l2
  refine ⟨fold_one ⟨hm, Int.le_refl _⟩ _ _ (fun r hr ⟨_, c⟩ => ?_) (.inl ⟨rfl, full_mem _ rfl h0⟩), fold_none _ _ fun r hr ⟨_, c⟩ => ?_⟩
  · obtain ⟨k1, k2⟩ := key r hr
    exact k2 (by omega)
  · have := (key r hr).1
    omega
/-- the great holdings -/
def manyH (r : List Int) (n : Nat) : List (Int × Int) := (List.range n).map fun k : Nat => (1 + 100 * (k : Int), r.getD k 0)
theorem many_snd (r : List Int) : (manyH r r.length).map (·.2) = r := by
  unfold manyH
  rw [List.map_map]
  apply List.ext_getElem
  · simp
  · intro i h1 h2
    simp only [List.getElem_map, List.getElem_range, Function.comp_apply]
    exact getD_of (List.getElem?_eq_getElem h2)
theorem many_wor (r : List Int) : ((manyH r r.length).map fun p => p.1 * p.2).sum = wor (manyH r r.length) r := by
  unfold wor
  congr 1
  unfold manyH
  rw [List.map_map]
  refine List.map_congr_left fun i hi => ?_
  have hi := List.mem_range.mp hi
  show (1 + 100 * (i : Int)) * r.getD i 0 = _
  rw [show ((List.range r.length).map fun k : Nat => ((1 + 100 * (k : Int), r.getD k 0) : Int × Int)).getD i (0, 0) = (1 + 100 * (i : Int), r.getD i 0) from getD_of (by rw [List.getElem?_map, List.getElem?_range hi]; rfl)]
structure RowG (r : List Int) : Prop where
  hl : r.length ≤ 6
  ht : ∀ t ∈ r, 1 ≤ t ∧ t ≤ 50
  hs : r.sum ≤ 500
  hp : prodN r ≤ 100000
theorem many_hol {r : List Int} (h : RowG r) : Hol (manyH r r.length) := by
  refine ⟨?_, fun p hp => ?_⟩
  · rw [many_snd]
    exact ⟨by have := h.hl; omega, fun t ht => by have := h.ht t ht; omega, by have := h.hp; omega⟩
  · obtain ⟨k, hk, rfl⟩ := List.mem_map.mp hp
    have := List.mem_range.mp hk
    have := h.hl
    show 0 ≤ 1 + 100 * (k : Int) ∧ 1 + 100 * (k : Int) ≤ 1000000
    omega
theorem len_law_many : ∀ ds M Q E, sp_law_many ds M Q E → ds.length = 1 := by rintro _ _ _ _ ⟨_, rfl, _⟩; rfl
theorem many_c6 (C : Ct) (Q : QD) (M : Mp) (r : List Int) (x0 x1 x5 x7 x8 : Option D) (t : Addr) (h : RowG r) (ht : M t = some (.lst ((manyH r r.length).map encH))) (q : ∀ d M', d = .bl true → Q d M') :
    t_law_many_c6 C (fnE Q) [x0, x1, some (.lst (r.map .int)), some (.ref t), some (.int (prodN r : Nat)), x5, some (.int (wor (manyH r r.length) r)), x7, x8, none, none] M := by
  unfold t_law_many_c6
  have hol := many_hol h
  have e2 := many_snd r
  have bf := best_full (hs := manyH r r.length) (most := 500) (fun p hp => by
    obtain ⟨k, hk, rfl⟩ := List.mem_map.mp hp
    show 1 ≤ 1 + 100 * (k : Int)
    omega) (by rw [e2]; exact fun t ht => by have := h.ht t ht; omega) (by rw [e2]; exact h.hs)
  rw [e2] at bf
  generalize hW : wor (manyH r r.length) r = W at *
  walk_at "g"
  refine s_kforT (ds := [W, W + 1].map .int) (fun i τ M' => M' = M ∧ ∃ x y, τ = [x0, x1, some (.lst (r.map .int)), some (.ref t), some (.int (prodN r : Nat)), x5, some (.int W), x7, x8, x, y]) (fun _ => rfl) ⟨rfl, _, _, rfl⟩ (fun i d τ M' hd ⟨e, x, y, e3⟩ => ?_) (fun τ M' ⟨e, x, y, e3⟩ => ?_)
  · subst e; subst e3
    obtain ⟨pr, hpr, rfl⟩ := List.mem_map.mp (List.mem_of_getElem? hd)
    have hpr : pr = W ∨ pr = W + 1 := by
      simp only [List.mem_cons, List.not_mem_nil, or_false] at hpr
      exact hpr
    refine s_gname ?_
    refine s_try ?_
    walk_at "g"
    refine s_callS ?_
    walk_at "g"
    refine s_kcallS ⟨manyH r r.length, pr, 500, rfl, hol, fun hle => ?_, fun hgt => ⟨rfl, ?_⟩⟩
    · rw [e2] at hle ⊢
      walk_at "g"
      · rename_i hc
        have hc : ((prodN r : Nat) : Int) > 20000 := hc
        omega
      refine s_ixB (xs := []) ?_
      walk_at "g"
      refine ⟨manyH r r.length, bestO (manyH r r.length) pr 500 (rowsOf r), ?_, fun b hb => best_len hol (by unfold manyH; rw [List.length_map, List.length_range]; have := h.hl; omega) b (by rw [e2]; exact hb), ?_⟩
      · rcases hpr with rfl | rfl
        · rw [bf.1, decide_eq_true rfl, if_pos rfl]
          simp only [encR, hW]
        · rw [bf.2, decide_eq_false (by omega), if_neg Bool.false_ne_true]
          rfl
      walk_at "g"
      exact ⟨rfl, _, _, rfl⟩
    · rw [e2] at hgt
      walk_at "g"
      · rename_i hc
        have hc : ((prodN r : Nat) : Int) ≤ 20000 := hc
        omega
      · exact ⟨rfl, _, _, rfl⟩
  · subst e; subst e3
    walk_at "g"
    exact s_end (q _ _ rfl)
theorem rd_law_many (C : Ct) : Rds (t_law_many C) n_law_many sp_law_many := by
  rintro _ M Q E ⟨a, rfl, st, q⟩
  show t_law_many C _ [some (.ref a), none, none, none, none, none, none, none, none, none, none] M
  unfold t_law_many
  walk_at "g"
  refine ⟨a, 7, rfl, by decide, by decide, st, fun d M1 d0 d1 D1 => ?_⟩
  walk_at "g"
  refine s_ixMem d0 d1 fun x hx => ?_
  obtain ⟨r, rfl, h⟩ : ∃ r : List Int, x = .lst (r.map .int) ∧ RowG r := by
    simp only [List.mem_cons, List.not_mem_nil, or_false] at hx
    rcases hx with rfl | rfl | rfl | rfl | rfl | rfl | rfl
    · exact ⟨[4, 50, 50, 1, 1], rfl, by decide, by decide, by decide, by decide⟩
    · exact ⟨[24, 15, 49], rfl, by decide, by decide, by decide, by decide⟩
    · exact ⟨[25, 15, 49], rfl, by decide, by decide, by decide, by decide⟩
    · exact ⟨[24, 15, 50], rfl, by decide, by decide, by decide, by decide⟩
    · exact ⟨[1, 1, 1, 24, 49, 1], rfl, by decide, by decide, by decide, by decide⟩
    · exact ⟨[18, 18, 50], rfl, by decide, by decide, by decide, by decide⟩
    · exact ⟨[27, 27, 24], rfl, by decide, by decide, by decide, by decide⟩
  generalize hR : (D.lst [_, _, _, _, _, _, _]) = R
  clear hR
  have hl := h.hl
  have h0 : ∀ t ∈ r, 0 ≤ t := fun t ht => by have := h.ht t ht; omega
  walk_at "g"
  refine fun t htM => ?_
  walk_at "g"
  unfold t_law_many_c4
  walk_at "g"
  simp only [List.length_map]
  refine s_kr1 (by omega) (by omega) ?_
  rw [show ((r.length : Int)).toNat = r.length by omega]
  refine s_kforR (fun i τ M' => M' = updM M1 t (.lst ((manyH r i).map encH)) ∧ ∃ x, τ = [some (.ref a), some R, some (.lst (r.map .int)), some (.ref t), some (.int (prodN (r.take i) : Nat)), x, none, none, none, none, none]) ⟨rfl, _, rfl⟩ (fun i τ M' hi ⟨e, x, e2⟩ => ?_) (fun τ M' ⟨e, x, e2⟩ => ?_)
  · subst e; subst e2
    rw [Int.zero_add]
    have ei := List.getElem?_eq_getElem hi
    obtain ⟨v1, v2⟩ := h.ht _ (List.getElem_mem hi)
    have bd := prodN_take h0 i
    have hp := h.hp
    have step : ((prodN (r.take i) : Nat) : Int) * (r[i] + 1) = ((prodN (r.take (i + 1)) : Nat) : Int) := by
      rw [List.take_succ, ei, prodN_app]
      show _ = ((prodN (r.take i) * ((r[i] + 1).toNat * 1) : Nat) : Int)
      rw [Nat.mul_one, Int.natCast_mul, show (((r[i] + 1).toNat : Nat) : Int) = r[i] + 1 by omega]
    have mh : manyH r (i + 1) = manyH r i ++ [(1 + 100 * (i : Int), r[i])] := by
      unfold manyH
      rw [List.range_succ, List.map_append]
      show _ ++ [(1 + 100 * (i : Int), r.getD i 0)] = _
      rw [getD_of ei]
    have hsz : ((manyH r i).map encH).length < sizeLine := Nat.lt_of_le_of_lt (m := 100) (by unfold manyH; rw [List.length_map, List.length_map, List.length_range]; omega) (by decide)
    have gx : ∀ {Q : QD} {M : Mp}, Q (.int r[i]) M → dIx (.lst (r.map .int)) (.int i) M Q := fun k => s_ix (d := .int r[i]) rfl (by rw [atI_toNat (by omega), List.getElem?_map, show ((i : Int)).toNat = i by omega, ei]; rfl) k
    walk_at "g"
    refine gx ?_
    walk_at "g"
    refine s_mul (.inl (.inl (sm64 (by omega)))) ?_
    walk_at "g"
    refine s_mul (.inl (.inl (by decide))) ?_
    walk_at "g"
    refine gx ?_
    walk_at "g"
    refine s_append updM_same hsz ?_
    walk_at "g"
    rw [step]
    refine ⟨?_, _, rfl⟩
    rw [updM_updM, mh, List.map_append]; rfl
  · subst e; subst e2
    rw [List.take_of_length_le (Nat.le_refl _)]
    have hsq : sqOf (updM M1 t (.lst ((manyH r r.length).map encH))) (.ref t) = some ((manyH r r.length).map encH) := sqOf_ref updM_same
    walk_at "g"
    refine s_klcMapM encH (fun p => .int (p.1 * p.2)) hsq (small_line (by unfold manyH; rw [List.length_map, List.length_range]; omega)) (fun p hp => ⟨_, rfl, fun Q k => ?_⟩) ?_
    · obtain ⟨v, s⟩ := p
      obtain ⟨k', hk', e⟩ := List.mem_map.mp hp
      have hk' := List.mem_range.mp hk'
      cases e
      show dOp dMul (dVar 7) (dVar 8) [some (.ref a), some R, some (.lst (r.map .int)), some (.ref t), some (.int (prodN r : Nat)), x, none, some (.int (1 + 100 * (k' : Int))), some (.int (r.getD k' 0)), none, none] _ Q
      walk_at "g"
      exact s_mul (.inl (.inl (sm64 (by omega)))) k
    walk_at "g"
    refine s_sum rfl (intsOf_mapG (fun p : Int × Int => p.1 * p.2) _) ?_
    rw [many_wor]
    walk_at "g"
    exact many_c6 C Q _ r _ _ _ _ _ t h updM_same q
theorem len_law : ∀ ds M Q E, sp_law ds M Q E → ds.length = 1 := by rintro _ _ _ _ ⟨_, rfl, _⟩; rfl
theorem law_c43 (C : Ct) {Q : QD} {nx bk ct : SD → Mp → Prop} {M2 : Mp} {a : Addr} {x0 c : D} {hs : List (Int × Int)} {r : List Int} {pr : Int} {i w : Option D} (h : Hol hs) (hp : prodN (hs.map (·.2)) ≤ 20000) (hl : hs.length ≤ 100) (hca : c ≠ .ref a) (st2 : StOk M2 a) (hc2 : sqOf M2 c = some ((rowsOf (hs.map (·.2))).map encT))
    (k : ∀ M' x, StOk M' a → sqOf M' c = some ((rowsOf (hs.map (·.2))).map encT) → nx [some x0, some (.ref a), some (.tup (hs.map encH)), some c, i, some (encT r), some (.int pr), x] M') :
    t_law_c4_3 C ⟨nx, rtQ Q, bk, ct⟩ [some x0, some (.ref a), some (.tup (hs.map encH)), some c, i, some (encT r), some (.int pr), w] M2 := by
  unfold t_law_c4_3
  have hrow : ∀ r ∈ rowsOf (hs.map (·.2)), RowOk hs r := fun r hr => row_ok h hr
  walk_at "g"
  refine s_sumA rfl (intsOf_mapG (fun x : Int => x) r) ?_
  rw [List.map_id']
  walk_at "g"
  refine ⟨a, 13, rfl, by decide, by decide, st2, fun f M3 f0 f1 D3 => ?_⟩
  have hc3 : sqOf M3 c = some ((rowsOf (hs.map (·.2))).map encT) := by rw [sq_same D3.same hca]; exact hc2
  walk_at "g"
  refine s_sumA rfl (intsOf_mapG (fun x : Int => x) r) ?_
  rw [List.map_id']
  walk_at "g"
  refine ⟨a, 4, rfl, by decide, by decide, D3.ok, fun g M4 g0 g1 D4 => ?_⟩
  have hc4 : sqOf M4 c = some ((rowsOf (hs.map (·.2))).map encT) := by rw [sq_same D4.same hca]; exact hc3
  walk_at "g"
  refine s_ixAny (is := [12, r.sum, f, if r.sum - 1 > 0 then r.sum - 1 else 0]) g0 g1 fun mo _ => ?_
  walk_at "g"
  refine ⟨hs, _, _, rfl, h, fun _ => ?_, fun z => by omega⟩
  walk_at "g"
  refine ⟨.tup (hs.map encH), c, hs, _, _, _, rfl, rfl, hc4, hrow, h.2, hl, ?_⟩
  walk_at "g"
  refine ⟨hs, _, rfl, fun r hr => best_len h hl r hr, ?_⟩
  walk_at "g"
  exact k _ _ D4.ok hc4
theorem law_c4 (C : Ct) (Q : QD) (M : Mp) (a : Addr) (x0 c : D) (hs : List (Int × Int)) (h : Hol hs) (hp : prodN (hs.map (·.2)) ≤ 20000) (hl : hs.length ≤ 100) (st : StOk M a) (hca : c ≠ .ref a) (hc : sqOf M c = some ((rowsOf (hs.map (·.2))).map encT)) (q : ∀ d M', d = .bl true → Q d M') :
    t_law_c4 C (fnE Q) [some x0, some (.ref a), some (.tup (hs.map encH)), some c, none, none, none, none] M := by
  unfold t_law_c4
  obtain ⟨r0, r1⟩ := rows_pos h
  have hrow : ∀ r ∈ rowsOf (hs.map (·.2)), RowOk hs r := fun r hr => row_ok h hr
  walk_at "g"
  refine s_kr1 (by decide) (by decide) ?_
  refine s_kforR (fun i τ M' => StOk M' a ∧ sqOf M' c = some ((rowsOf (hs.map (·.2))).map encT) ∧ ∃ x y z w, τ = [some x0, some (.ref a), some (.tup (hs.map encH)), some c, x, y, z, w]) ⟨st, hc, _, _, _, _, rfl⟩ (fun i τ M' hi ⟨st, hc, x, y, z, w, e2⟩ => ?_) (fun τ M' ⟨st, hc, x, y, z, w, e2⟩ => ?_)
  · subst e2
    rw [Int.zero_add]
    walk_at "g"
    refine s_len hc ?_
    walk_at "g"
    refine ⟨a, _, rfl, by rw [List.length_map]; omega, by rw [List.length_map]; omega, st, fun d M1 d0 d1 D1 => ?_⟩
    rw [List.length_map] at d1
    have hc1 : sqOf M1 c = some ((rowsOf (hs.map (·.2))).map encT) := by rw [sq_same D1.same hca]; exact hc
    walk_at "g"
    refine row_sq hc1 d0 d1 fun r hr => ?_
    have rk := hrow r hr
    obtain ⟨s0, s1⟩ := row_sum hl rk
    walk_at "g"
    refine ⟨.tup (hs.map encH), hs, r, rfl, rfl, rk, h.2, hl, ?_⟩
    walk_at "g"
    refine ⟨a, 3, rfl, by decide, by decide, D1.ok, fun e M2 e0 e1 D2 => ?_⟩
    have hc2 : sqOf M2 c = some ((rowsOf (hs.map (·.2))).map encT) := by rw [sq_same D2.same hca]; exact hc1
    walk_at "g"
    · refine ⟨a, 400, rfl, by decide, by decide, D2.ok, fun f M3 f0 f1 D3 => ?_⟩
      have hc3 : sqOf M3 c = some ((rowsOf (hs.map (·.2))).map encT) := by rw [sq_same D3.same hca]; exact hc2
      walk_at "g"
      exact law_c43 C h hp hl hca D3.ok hc3 fun M' x st hc => ⟨st, hc, _, _, _, _, rfl⟩
    · exact law_c43 C h hp hl hca D2.ok hc2 fun M' x st hc => ⟨st, hc, _, _, _, _, rfl⟩
  · subst e2
    walk_at "g"
    refine ⟨a, 12, rfl, by decide, by decide, st, fun d M1 d0 d1 D1 => ?_⟩
    walk_at "g"
    · rename_i hc
      have hc : 0 < d := hc
      exact s_end (q _ _ (by rw [decide_eq_true hc]))
    · exact ⟨a, rfl, D1.ok, fun d M' e => s_end (q d M' e)⟩
theorem rd_law (C : Ct) : Rds (t_law C) n_law sp_law := by
  refine fun ds M Q E h => ?_
  obtain ⟨ns, rfl, hl, q⟩ := h
  show t_law C _ [some (.lsk (ns.map .int)), none, none, none, none, none, none, none] M
  unfold t_law
  walk_at "g"
  refine ⟨ns, rfl, hl, fun a M1 ha st hs => ?_⟩
  have main : ∀ M, StOk M a → t_law_c2 C (fnE Q) [some (.lsk (ns.map .int)), some (.ref a), none, none, none, none, none, none] M := fun M st => by
    unfold t_law_c2
    walk_at "g"
    refine ⟨a, rfl, st, fun hs M2 h hp hl D2 => ?_⟩
    walk_at "g"
    refine ⟨hs, rfl, h, fun c M3 hc => ?_⟩
    obtain ⟨hca, st3, hsq⟩ : c ≠ .ref a ∧ StOk M3 a ∧ sqOf M3 c = some ((rowsOf (hs.map (·.2))).map encT) := by
      rcases hc with ⟨rfl, rfl⟩ | ⟨t2, h2, rfl, rfl⟩
      · exact ⟨(by intro z; cases z), D2.ok, rfl⟩
      · obtain ⟨n1, K2⟩ := (Kp.self D2.ok).new (m := .lst ((rowsOf (hs.map (·.2))).map encT)) h2
        exact ⟨(by intro z; cases z; exact n1 rfl), K2.st, sqOf_ref updM_same⟩
    walk_at "g"
    exact law_c4 C Q M3 a _ c hs h hp (by omega) st3 hca hsq q
  walk_at "g"
  refine ⟨a, 8, rfl, by decide, by decide, st, fun d M2 d0 d1 D2 => ?_⟩
  walk_at "g"
  · refine ⟨a, rfl, D2.ok, fun M3 D3 => ?_⟩
    walk_at "g"
    exact main _ D3.ok
  · exact main _ D2.ok

def topS (i : Nat) : Stmt := PySem.Challenge.pw_postsooth_k21_whole_payments_from_a_hold.main.body.getD i (.Pass ⟨0, 0, 0, 0⟩)
abbrev s_all_numbers : Stmt := topS 5
theorem sc_all_numbers : FnScope n_all_numbers ["tops"] (defScope s_all_numbers) := ⟨rfl, rfl, rfl, by decide +kernel, rfl, by decide +kernel, by decide +kernel⟩
abbrev s_best_from : Stmt := topS 6
theorem sc_best_from : FnScope n_best_from ["holding", "price", "most"] (defScope s_best_from) := ⟨rfl, rfl, rfl, by decide +kernel, rfl, by decide +kernel, by decide +kernel⟩
abbrev s_law_state : Stmt := topS 8
theorem sc_law_state : FnScope n_law_state ["script"] (defScope s_law_state) := ⟨rfl, rfl, rfl, by decide +kernel, rfl, by decide +kernel, by decide +kernel⟩
abbrev s_law_draw : Stmt := topS 9
theorem sc_law_draw : FnScope n_law_draw ["state", "limit"] (defScope s_law_draw) := ⟨rfl, rfl, rfl, by decide +kernel, rfl, by decide +kernel, by decide +kernel⟩
abbrev s_law_holding : Stmt := topS 10
theorem sc_law_holding : FnScope n_law_holding ["state"] (defScope s_law_holding) := ⟨rfl, rfl, rfl, by decide +kernel, rfl, by decide +kernel, by decide +kernel⟩
abbrev s_law_all : Stmt := topS 11
theorem sc_law_all : FnScope n_law_all ["holding"] (defScope s_law_all) := ⟨rfl, rfl, rfl, by decide +kernel, rfl, by decide +kernel, by decide +kernel⟩
abbrev s_law_worth : Stmt := topS 12
theorem sc_law_worth : FnScope n_law_worth ["holding", "numbers"] (defScope s_law_worth) := ⟨rfl, rfl, rfl, by decide +kernel, rfl, by decide +kernel, by decide +kernel⟩
abbrev s_law_best : Stmt := topS 13
theorem sc_law_best : FnScope n_law_best ["holding", "choices", "price", "most"] (defScope s_law_best) := ⟨rfl, rfl, rfl, by decide +kernel, rfl, by decide +kernel, by decide +kernel⟩
abbrev s_law_is : Stmt := topS 14
theorem sc_law_is : FnScope n_law_is ["told", "due"] (defScope s_law_is) := ⟨rfl, rfl, rfl, by decide +kernel, rfl, by decide +kernel, by decide +kernel⟩
abbrev s_law_many : Stmt := topS 15
theorem sc_law_many : FnScope n_law_many ["state"] (defScope s_law_many) := ⟨rfl, rfl, rfl, by decide +kernel, rfl, by decide +kernel, by decide +kernel⟩
abbrev s_law_wide_holds : Stmt := topS 16
theorem sc_law_wide_holds : FnScope n_law_wide_holds ["state"] (defScope s_law_wide_holds) := ⟨rfl, rfl, rfl, by decide +kernel, rfl, by decide +kernel, by decide +kernel⟩
abbrev s_law : Stmt := topS 17
theorem sc_law : FnScope n_law ["script"] (defScope s_law) := ⟨rfl, rfl, rfl, by decide +kernel, rfl, by decide +kernel, by decide +kernel⟩
structure Tx (K : PySem.W.Frag) (mg : Str → Option Value) (base : Heap) (tb : List (Addr × Str)) where
  f_all_numbers : Addr
  d_all_numbers : FuncData
  F_all_numbers : Fun K "_all_numbers" "_all_numbers" s_all_numbers f_all_numbers d_all_numbers
  g_all_numbers : mg "_all_numbers" = some (.ref f_all_numbers)
  b_all_numbers : Binds K d_all_numbers ["tops"] []
  f_best_from : Addr
  d_best_from : FuncData
  F_best_from : Fun K "best_from" "best_from" s_best_from f_best_from d_best_from
  g_best_from : mg "best_from" = some (.ref f_best_from)
  b_best_from : Binds K d_best_from ["holding", "price", "most"] []
  f_law_state : Addr
  d_law_state : FuncData
  F_law_state : Fun K "_law_state" "_law_state" s_law_state f_law_state d_law_state
  g_law_state : mg "_law_state" = some (.ref f_law_state)
  b_law_state : Binds K d_law_state ["script"] []
  f_law_draw : Addr
  d_law_draw : FuncData
  F_law_draw : Fun K "_law_draw" "_law_draw" s_law_draw f_law_draw d_law_draw
  g_law_draw : mg "_law_draw" = some (.ref f_law_draw)
  b_law_draw : Binds K d_law_draw ["state", "limit"] []
  f_law_holding : Addr
  d_law_holding : FuncData
  F_law_holding : Fun K "_law_holding" "_law_holding" s_law_holding f_law_holding d_law_holding
  g_law_holding : mg "_law_holding" = some (.ref f_law_holding)
  b_law_holding : Binds K d_law_holding ["state"] []
  f_law_all : Addr
  d_law_all : FuncData
  F_law_all : Fun K "_law_all" "_law_all" s_law_all f_law_all d_law_all
  g_law_all : mg "_law_all" = some (.ref f_law_all)
  b_law_all : Binds K d_law_all ["holding"] []
  f_law_worth : Addr
  d_law_worth : FuncData
  F_law_worth : Fun K "_law_worth" "_law_worth" s_law_worth f_law_worth d_law_worth
  g_law_worth : mg "_law_worth" = some (.ref f_law_worth)
  b_law_worth : Binds K d_law_worth ["holding", "numbers"] []
  f_law_best : Addr
  d_law_best : FuncData
  F_law_best : Fun K "_law_best" "_law_best" s_law_best f_law_best d_law_best
  g_law_best : mg "_law_best" = some (.ref f_law_best)
  b_law_best : Binds K d_law_best ["holding", "choices", "price", "most"] []
  f_law_is : Addr
  d_law_is : FuncData
  F_law_is : Fun K "_law_is" "_law_is" s_law_is f_law_is d_law_is
  g_law_is : mg "_law_is" = some (.ref f_law_is)
  b_law_is : Binds K d_law_is ["told", "due"] []
  f_law_many : Addr
  d_law_many : FuncData
  F_law_many : Fun K "_law_many" "_law_many" s_law_many f_law_many d_law_many
  g_law_many : mg "_law_many" = some (.ref f_law_many)
  b_law_many : Binds K d_law_many ["state"] []
  f_law_wide_holds : Addr
  d_law_wide_holds : FuncData
  F_law_wide_holds : Fun K "_law_wide_holds" "_law_wide_holds" s_law_wide_holds f_law_wide_holds d_law_wide_holds
  g_law_wide_holds : mg "_law_wide_holds" = some (.ref f_law_wide_holds)
  b_law_wide_holds : Binds K d_law_wide_holds ["state"] []
  f_law : Addr
  d_law : FuncData
  F_law : Fun K "law" "law" s_law f_law d_law
  g_law : mg "law" = some (.ref f_law)
  b_law : Binds K d_law ["script"] []
  n_bool : mg "bool" = none
  n_int : mg "int" = none
  n_isinstance : mg "isinstance" = none
  n_len : mg "len" = none
  n_list : mg "list" = none
  n_max : mg "max" = none
  n_min : mg "min" = none
  n_range : mg "range" = none
  n_reversed : mg "reversed" = none
  n_sorted : mg "sorted" = none
  n_sum : mg "sum" = none
  n_tuple : mg "tuple" = none
  x_TooLarge : ExcD K mg "TooLarge"
  c_MAX_CHOICES : CnD K mg "MAX_CHOICES" k_MAX_CHOICES
section
variable {P : Program} {w : World} {K : PySem.W.Frag} {mg : Str → Option Value} {base : Heap}
theorem ok_all_numbers (T : Tx K mg base tb) : FnOk P w K mg base CX0 1 T.f_all_numbers T.d_all_numbers ["tops"] (liSp K tb sp_all_numbers) :=
  Fun.okD T.F_all_numbers sc_all_numbers (len_all_numbers) (t := t_all_numbers) (fun cdv A outer s H E F0 R0 hr =>
    (sds_cons (sd_set (i := 1) sc_all_numbers.nd rfl (by first | exact Or.inl rfl | exact Or.inr rfl) (pd_lst (ad_cons (pd_lst ad_nil) ad_nil)))
    (sds_cons (sd_for PassesOwn.never rfl (id_seq (dv 0)) (pg_name (i := 2) sc_all_numbers.nd rfl (by first | exact Or.inl rfl | exact Or.inr rfl)) tg_name (sds_one (sd_setLc2G (i := 1) fin_lst rfl sc_all_numbers.nd rfl rfl (sw_true rfl rfl rfl (by decide +kernel)) (id_seq (dv 1)) (blkOk_by (own := [("row", 3), ("number", 4)]) (N := n_all_numbers) (sc := defScope s_all_numbers) (by decide +kernel)) rfl tg_name (by decide) tg_name (by decide) (by decide) (fun _ _ _ _ _ => (pg_name (i := 3) sc_all_numbers.nd rfl (by first | exact Or.inl rfl | exact Or.inr rfl))) (fun _ _ _ _ _ => tsd_nil) (fun _ _ _ _ _ => (id_rng1 (by rfl) T.n_range (ad_cons (pd_op od_add (dv 2) pd_int) ad_nil))) (fun _ _ _ _ _ => (pg_name (i := 4) sc_all_numbers.nd rfl (by first | exact Or.inl rfl | exact Or.inr rfl))) (fun _ _ _ _ _ => tsd_nil) (fun _ _ _ _ _ => (pd_op od_add (dv 3) (pd_lst (ad_cons (dv 4) ad_nil)))))))
    (sds_one (sd_ret (dv 1)))))) (rd_all_numbers)
theorem ok_best_from (T : Tx K mg base tb) : FnOk P w K mg base (L2.CX P w) 2 T.f_best_from T.d_best_from ["holding", "price", "most"] (liSp K tb (sp_best_from ⟨P, w, K, mg, base, tb⟩)) :=
  Fun.okXD T.F_best_from sc_best_from (len_best_from ⟨P, w, K, mg, base, tb⟩) (t := (t_best_from ⟨P, w, K, mg, base, tb⟩)) (fun cdv A outer s H E F0 R0 E2 hr hE tk =>
    (sds_cons (sd_set (i := 3) sc_best_from.nd rfl (by first | exact Or.inl rfl | exact Or.inr rfl) pd_int)
    (sds_cons (sd_for (passes_of rfl) rfl (id_seq (dv 0)) (pg_tup rfl (GNames.cons (pg_name (i := 4) sc_best_from.nd rfl (by first | exact Or.inl rfl | exact Or.inr rfl)) (GNames.cons (pg_name (i := 5) sc_best_from.nd rfl (by first | exact Or.inl rfl | exact Or.inr rfl)) GNames.nil rfl) rfl).pgs) (tg_of [4, 5]) (sds_one (sd_aug (i := 3) sc_best_from.nd rfl (by first | exact Or.inl rfl | exact Or.inr rfl) (pd_op od_add (dv 5) pd_int) iod_mul)))
    (sds_cons (sd_if (td_cmp od_gt (dv 3) T.c_MAX_CHOICES.pd (nomark _)) (sds_one (sd_raise (cv := exV ⟨P, w, K, mg, base, tb⟩ "TooLarge") hE rfl tk (exV_of T.x_TooLarge.g) PySem.F.excBase_ValueError T.x_TooLarge.q T.x_TooLarge.g T.x_TooLarge.k (raises_own T.x_TooLarge.s T.x_TooLarge.t) (by rfl))) sds_nil)
    (sds_cons (sd_set (i := 6) sc_best_from.nd rfl (by first | exact Or.inl rfl | exact Or.inr rfl) pd_non)
    (sds_cons (sd_for (passes_of rfl) rfl (id_seq (pd_call (ok_all_numbers T) (hr.mono (by decide)) (by rfl) T.g_all_numbers T.F_all_numbers.kp T.b_all_numbers (ad_cons (pd_lcG fin_lst rfl sc_best_from.nd (id_seq (dv 0)) (blkOk_by (own := [("_", 4), ("number", 5)]) (N := n_best_from) (sc := defScope s_best_from) (by decide +kernel)) rfl (tg_of [4, 5]) (by decide) (fun _ _ _ _ _ => (pg_tup rfl (GNames.cons (pg_name (i := 4) sc_best_from.nd rfl (by first | exact Or.inl rfl | exact Or.inr rfl)) (GNames.cons (pg_name (i := 5) sc_best_from.nd rfl (by first | exact Or.inl rfl | exact Or.inr rfl)) GNames.nil rfl) rfl).pgs)) (fun _ _ _ _ _ => tsd_nil) (fun _ _ _ _ _ => (dv 5))) ad_nil))) (pg_name (i := 7) sc_best_from.nd rfl (by first | exact Or.inl rfl | exact Or.inr rfl)) tg_name (sds_cons (sd_set (i := 8) sc_best_from.nd rfl (by first | exact Or.inl rfl | exact Or.inr rfl) (pd_callB (cd_sumA rfl) (by rfl) T.n_sum (by decide +kernel) (ad_cons (dv 7) ad_nil)))
    (sds_cons (sd_set (i := 9) sc_best_from.nd rfl (by first | exact Or.inl rfl | exact Or.inr rfl) (pd_callB (cd_sumA rfl) (by rfl) T.n_sum (by decide +kernel) (ad_cons (pd_lcG fin_lst rfl sc_best_from.nd (id_rng1 (by rfl) T.n_range (ad_cons (pd_callB cd_len (by rfl) T.n_len PySem.boot_len (ad_cons (dv 7) ad_nil)) ad_nil)) (blkOk_by (own := [("index", 10)]) (N := n_best_from) (sc := defScope s_best_from) (by decide +kernel)) rfl tg_name (by decide) (fun _ _ _ _ _ => (pg_name (i := 10) sc_best_from.nd rfl (by first | exact Or.inl rfl | exact Or.inr rfl))) (fun _ _ _ _ _ => tsd_nil) (fun _ _ _ _ _ => (pd_op od_mul (pd_ix (pd_ix (dv 0) (dv 10) (fun _ _ => rfl)) pd_int (fun _ _ => rfl)) (pd_ix (dv 7) (dv 10) (fun _ _ => rfl))))) ad_nil)))
    (sds_one (sd_if (PW.pt (wd_and (td_cmp od_le (dv 8) (dv 2) (nomark _)) (wd_and1 (td_cmp od_ge (dv 9) (dv 1) (nomark _))))) (sds_cons (sd_set (i := 11) sc_best_from.nd rfl (by first | exact Or.inl rfl | exact Or.inr rfl) (pd_tup (ad_cons (dv 9) (ad_cons (dv 8) (ad_cons (pd_lcG fin_lst rfl sc_best_from.nd (id_revA (by rfl) T.n_reversed (dv 7)) (blkOk_by (own := [("number", 5)]) (N := n_best_from) (sc := defScope s_best_from) (by decide +kernel)) rfl tg_name (by decide) (fun _ _ _ _ _ => (pg_name (i := 5) sc_best_from.nd rfl (by first | exact Or.inl rfl | exact Or.inr rfl))) (fun _ _ _ _ _ => tsd_nil) (fun _ _ _ _ _ => (pd_un ud_neg (dv 5)))) ad_nil)))))
    (sds_one (sd_if (PW.pt (wd_or (td_cmp od_isN (dv 6) pd_non (nomark _)) (wd_or1 (td_cmp (od_ltD hr.units) (dv 11) (pd_ix (dv 6) pd_int (fun _ _ => rfl)) (nomark _))))) (sds_one (sd_set (i := 6) sc_best_from.nd rfl (by first | exact Or.inl rfl | exact Or.inr rfl) (pd_tup (ad_cons (dv 11) (ad_cons (pd_callTy cd_tuple (by rfl) T.n_tuple (by decide +kernel) (ad_cons (dv 7) ad_nil)) ad_nil))))) sds_nil))) sds_nil)))))
    (sds_one (sd_ret (pd_if (td_cmp od_isN (dv 6) pd_non (nomark _)) pd_non (pd_tup (ad_cons (pd_ix (pd_ix (dv 6) pd_int (fun _ _ => rfl)) pd_int (fun _ _ => rfl)) (ad_cons (pd_ix (dv 6) pd_int (fun _ _ => rfl)) ad_nil)))))))))))) (rd_best_from ⟨P, w, K, mg, base, tb⟩)
theorem ok_law_state (T : Tx K mg base tb) : FnOk P w K mg base CX0 1 T.f_law_state T.d_law_state ["script"] (liSp K tb sp_law_state) :=
  Fun.okD T.F_law_state sc_law_state (len_law_state) (t := t_law_state) (fun cdv A outer s H E F0 R0 hr =>
    (sds_one (sd_ret (pd_lstM (ad_cons (pd_callTy cd_list (by rfl) T.n_list (by decide +kernel) (ad_cons (dv 0) ad_nil)) (ad_cons pd_int (ad_cons pd_int (ad_cons pd_int (ad_cons pd_bl ad_nil))))))))) (rd_law_state)
theorem ok_law_draw (T : Tx K mg base tb) : FnOk P w K mg base CX0 1 T.f_law_draw T.d_law_draw ["state", "limit"] (liSp K tb sp_law_draw) :=
  Fun.okD T.F_law_draw sc_law_draw (len_law_draw) (t := t_law_draw) (fun cdv A outer s H E F0 R0 hr =>
    (sds_cons (sd_if (td_cmp (od_eq hr.units) (pd_ix (dv 0) pd_int (fun _ _ => rfl)) pd_int (nomark _)) (sds_cons (sd_if (td_cmp od_ge (pd_ix (dv 0) pd_int (fun _ _ => rfl)) (pd_callB cd_len (by rfl) T.n_len PySem.boot_len (ad_cons (pd_ix (dv 0) pd_int (fun _ _ => rfl)) ad_nil)) (nomark _)) (sds_one (sd_ret pd_int)) sds_nil)
    (sds_cons (sd_set (i := 2) sc_law_draw.nd rfl (by first | exact Or.inl rfl | exact Or.inr rfl) (pd_ix (pd_ix (dv 0) pd_int (fun _ _ => rfl)) (pd_ix (dv 0) pd_int (fun _ _ => rfl)) (fun _ _ => rfl)))
    (sds_cons (sd_if (td_cmp od_lt (dv 2) pd_int (nomark _)) (sds_one (sd_set (i := 2) sc_law_draw.nd rfl (by first | exact Or.inl rfl | exact Or.inr rfl) (pd_op od_sub (pd_un ud_neg pd_int) (dv 2)))) sds_nil)
    (sds_cons (sd_store (pd_op od_add (pd_ix (dv 0) pd_int (fun _ _ => rfl)) pd_int) (dv 0) pd_int std_list)
    (sds_cons (sd_store (dv 2) (dv 0) pd_int std_list)
    (sds_cons (sd_store (pd_cmp od_ge (dv 2) (pd_op od_pow pd_int pd_int) (nomark _)) (dv 0) pd_int std_list)
    (sds_cons (sd_store pd_int (dv 0) pd_int std_list)
    (sds_one (sd_if (td_tru (pd_ix (dv 0) pd_int (fun _ _ => rfl))) (sds_one (sd_store pd_int (dv 0) pd_int std_list)) sds_nil))))))))) sds_nil)
    (sds_cons (sd_store (pd_op od_sub (pd_ix (dv 0) pd_int (fun _ _ => rfl)) pd_int) (dv 0) pd_int std_list)
    (sds_cons (sd_if (td_tru (pd_ix (dv 0) pd_int (fun _ _ => rfl))) (sds_cons (sd_set (i := 3) sc_law_draw.nd rfl (by first | exact Or.inl rfl | exact Or.inr rfl) (pd_op od_mod (pd_callTy cd_int (by rfl) T.n_int (by decide +kernel) (ad_cons (pd_ix (dv 0) pd_int (fun _ _ => rfl)) ad_nil)) (dv 1)))
    (sds_cons (sd_store (pd_op od_fdiv (pd_ix (dv 0) pd_int (fun _ _ => rfl)) (dv 1)) (dv 0) pd_int std_list)
    (sds_cons (sd_if (td_cmp (od_eq hr.units) (pd_ix (dv 0) pd_int (fun _ _ => rfl)) pd_int (nomark _)) (sds_one (sd_store pd_int (dv 0) pd_int std_list)) sds_nil)
    (sds_one (sd_ret (dv 3)))))) sds_nil)
    (sds_cons (sd_set (i := 4) sc_law_draw.nd rfl (by first | exact Or.inl rfl | exact Or.inr rfl) (pd_op od_mod (pd_callTy cd_int (by rfl) T.n_int (by decide +kernel) (ad_cons (pd_op od_add (pd_op od_add (pd_op od_mul (pd_ix (dv 0) pd_int (fun _ _ => rfl)) pd_int) (pd_op od_mul (pd_ix (dv 0) pd_int (fun _ _ => rfl)) pd_int)) pd_int) ad_nil)) pd_int))
    (sds_cons (sd_set (i := 4) sc_law_draw.nd rfl (by first | exact Or.inl rfl | exact Or.inr rfl) (pd_op od_mod (pd_callTy cd_int (by rfl) T.n_int (by decide +kernel) (ad_cons (pd_op od_add (pd_op od_add (pd_op od_mul (dv 4) (dv 4)) (pd_op od_mul (pd_ix (dv 0) pd_int (fun _ _ => rfl)) pd_int)) (pd_ix (dv 0) pd_int (fun _ _ => rfl))) ad_nil)) pd_int))
    (sds_one (sd_ret (pd_op od_mod (pd_callTy cd_int (by rfl) T.n_int (by decide +kernel) (ad_cons (dv 4) ad_nil)) (dv 1)))))))))) (rd_law_draw)
theorem ok_law_holding (T : Tx K mg base tb) : FnOk P w K mg base CX0 2 T.f_law_holding T.d_law_holding ["state"] (liSp K tb sp_law_holding) :=
  Fun.okD T.F_law_holding sc_law_holding (len_law_holding) (t := t_law_holding) (fun cdv A outer s H E F0 R0 hr =>
    (sds_cons (sd_set (i := 1) sc_law_holding.nd rfl (by first | exact Or.inl rfl | exact Or.inr rfl) (pd_op od_add pd_int (pd_ix (pd_lst (ad_cons (pd_call (ok_law_draw T) (hr.mono (by decide)) (by rfl) T.g_law_draw T.F_law_draw.kp T.b_law_draw (ad_cons (dv 0) (ad_cons pd_int ad_nil))) (ad_cons (pd_call (ok_law_draw T) (hr.mono (by decide)) (by rfl) T.g_law_draw T.F_law_draw.kp T.b_law_draw (ad_cons (dv 0) (ad_cons pd_int ad_nil))) (ad_cons (pd_call (ok_law_draw T) (hr.mono (by decide)) (by rfl) T.g_law_draw T.F_law_draw.kp T.b_law_draw (ad_cons (dv 0) (ad_cons pd_int ad_nil))) ad_nil)))) (pd_call (ok_law_draw T) (hr.mono (by decide)) (by rfl) T.g_law_draw T.F_law_draw.kp T.b_law_draw (ad_cons (dv 0) (ad_cons pd_int ad_nil))) (fun _ _ => rfl))))
    (sds_cons (sd_set (i := 2) sc_law_holding.nd rfl (by first | exact Or.inl rfl | exact Or.inr rfl) (pd_lstM ad_nil))
    (sds_cons (sd_for PassesOwn.never rfl (id_rng1 (by rfl) T.n_range (ad_cons (pd_call (ok_law_draw T) (hr.mono (by decide)) (by rfl) T.g_law_draw T.F_law_draw.kp T.b_law_draw (ad_cons (dv 0) (ad_cons pd_int ad_nil))) ad_nil)) (pg_name (i := 3) sc_law_holding.nd rfl (by first | exact Or.inl rfl | exact Or.inr rfl)) tg_name (sds_cons (sd_set (i := 4) sc_law_holding.nd rfl (by first | exact Or.inl rfl | exact Or.inr rfl) (pd_ix (pd_lst (ad_cons (pd_op od_add (dv 1) (pd_call (ok_law_draw T) (hr.mono (by decide)) (by rfl) T.g_law_draw T.F_law_draw.kp T.b_law_draw (ad_cons (dv 0) (ad_cons pd_int ad_nil)))) (ad_cons (pd_op od_add pd_int (pd_call (ok_law_draw T) (hr.mono (by decide)) (by rfl) T.g_law_draw T.F_law_draw.kp T.b_law_draw (ad_cons (dv 0) (ad_cons pd_int ad_nil)))) (ad_cons (pd_callB (cd_min rfl) (by rfl) T.n_min (by decide +kernel) (ad_cons pd_int (ad_cons (pd_op od_mul (dv 1) (pd_op od_add pd_int (pd_call (ok_law_draw T) (hr.mono (by decide)) (by rfl) T.g_law_draw T.F_law_draw.kp T.b_law_draw (ad_cons (dv 0) (ad_cons pd_int ad_nil))))) ad_nil))) ad_nil)))) (pd_call (ok_law_draw T) (hr.mono (by decide)) (by rfl) T.g_law_draw T.F_law_draw.kp T.b_law_draw (ad_cons (dv 0) (ad_cons pd_int ad_nil))) (fun _ _ => rfl)))
    (sds_one (sd_if (td_cmp od_notIn (dv 4) (pd_lcG fin_lst rfl sc_law_holding.nd (id_seq (dv 2)) (blkOk_by (own := [("pair", 5)]) (N := n_law_holding) (sc := defScope s_law_holding) (by decide +kernel)) rfl tg_name (by decide) (fun _ _ _ _ _ => (pg_name (i := 5) sc_law_holding.nd rfl (by first | exact Or.inl rfl | exact Or.inr rfl))) (fun _ _ _ _ _ => tsd_nil) (fun _ _ _ _ _ => (pd_ix (dv 5) pd_int (fun _ _ => rfl)))) rfl) (sds_one (sd_expr (pd_append (dv 2) (ad_cons (pd_tup (ad_cons (dv 4) (ad_cons (pd_op od_add pd_int (pd_call (ok_law_draw T) (hr.mono (by decide)) (by rfl) T.g_law_draw T.F_law_draw.kp T.b_law_draw (ad_cons (dv 0) (ad_cons (pd_op od_add pd_int (pd_op od_mul pd_int (pd_callTy cd_int (by rfl) T.n_int (by decide +kernel) (ad_cons (pd_cmp od_lt (dv 3) pd_int (nomark _)) ad_nil)))) ad_nil)))) ad_nil))) ad_nil)))) sds_nil))))
    (sds_one (sd_ret (pd_callTy cd_tuple (by rfl) T.n_tuple (by decide +kernel) (ad_cons (pd_callB (cd_sortedU (B := 1000001)) (by rfl) T.n_sorted (by decide +kernel) (ad_cons (dv 2) ad_nil)) ad_nil)))))))) (rd_law_holding)
theorem ok_law_all (T : Tx K mg base tb) : FnOk P w K mg base CX0 1 T.f_law_all T.d_law_all ["holding"] (liSp K tb sp_law_all) :=
  Fun.okD T.F_law_all sc_law_all (len_law_all) (t := t_law_all) (fun cdv A outer s H E F0 R0 hr =>
    (sds_cons (sd_set (i := 1) sc_law_all.nd rfl (by first | exact Or.inl rfl | exact Or.inr rfl) (pd_lst (ad_cons (pd_tup ad_nil) ad_nil)))
    (sds_cons (sd_for PassesOwn.never rfl (id_seq (dv 0)) (pg_tup rfl (GNames.cons (pg_name (i := 2) sc_law_all.nd rfl (by first | exact Or.inl rfl | exact Or.inr rfl)) (GNames.cons (pg_name (i := 3) sc_law_all.nd rfl (by first | exact Or.inl rfl | exact Or.inr rfl)) GNames.nil rfl) rfl).pgs) (tg_of [2, 3]) (sds_cons (sd_set (i := 4) sc_law_all.nd rfl (by first | exact Or.inl rfl | exact Or.inr rfl) (pd_lstM ad_nil))
    (sds_cons (sd_for PassesOwn.never rfl (id_seq (dv 1)) (pg_name (i := 5) sc_law_all.nd rfl (by first | exact Or.inl rfl | exact Or.inr rfl)) tg_name (sds_one (sd_for PassesOwn.never rfl (id_rng1 (by rfl) T.n_range (ad_cons (pd_op od_add (dv 3) pd_int) ad_nil)) (pg_name (i := 6) sc_law_all.nd rfl (by first | exact Or.inl rfl | exact Or.inr rfl)) tg_name (sds_one (sd_expr (pd_append (dv 4) (ad_cons (pd_op od_add (dv 5) (pd_tup (ad_cons (dv 6) ad_nil))) ad_nil)))))))
    (sds_one (sd_set (i := 1) sc_law_all.nd rfl (by first | exact Or.inl rfl | exact Or.inr rfl) (dv 4))))))
    (sds_one (sd_ret (dv 1)))))) (rd_law_all)
theorem ok_law_worth (T : Tx K mg base tb) : FnOk P w K mg base CX0 1 T.f_law_worth T.d_law_worth ["holding", "numbers"] (liSp K tb sp_law_worth) :=
  Fun.okD T.F_law_worth sc_law_worth (len_law_worth) (t := t_law_worth) (fun cdv A outer s H E F0 R0 hr =>
    (sds_one (sd_ret (pd_callB (cd_sum rfl) (by rfl) T.n_sum (by decide +kernel) (ad_cons (pd_lcG fin_lst rfl sc_law_worth.nd (id_rng1 (by rfl) T.n_range (ad_cons (pd_callB cd_len (by rfl) T.n_len PySem.boot_len (ad_cons (dv 1) ad_nil)) ad_nil)) (blkOk_by (own := [("at", 2)]) (N := n_law_worth) (sc := defScope s_law_worth) (by decide +kernel)) rfl tg_name (by decide) (fun _ _ _ _ _ => (pg_name (i := 2) sc_law_worth.nd rfl (by first | exact Or.inl rfl | exact Or.inr rfl))) (fun _ _ _ _ _ => tsd_nil) (fun _ _ _ _ _ => (pd_op od_mul (pd_ix (pd_ix (dv 0) (dv 2) (fun _ _ => rfl)) pd_int (fun _ _ => rfl)) (pd_ix (dv 1) (dv 2) (fun _ _ => rfl))))) ad_nil))))) (rd_law_worth)
theorem ok_law_best (T : Tx K mg base tb) : FnOk P w K mg base CX0 2 T.f_law_best T.d_law_best ["holding", "choices", "price", "most"] (liSp K tb sp_law_best) :=
  Fun.okD T.F_law_best sc_law_best (len_law_best) (t := t_law_best) (fun cdv A outer s H E F0 R0 hr =>
    (sds_cons (sd_set (i := 4) sc_law_best.nd rfl (by first | exact Or.inl rfl | exact Or.inr rfl) pd_non)
    (sds_cons (sd_for PassesOwn.never rfl (id_seq (dv 1)) (pg_name (i := 5) sc_law_best.nd rfl (by first | exact Or.inl rfl | exact Or.inr rfl)) tg_name (sds_cons (sd_set (i := 6) sc_law_best.nd rfl (by first | exact Or.inl rfl | exact Or.inr rfl) (pd_call (ok_law_worth T) (hr.mono (by decide)) (by rfl) T.g_law_worth T.F_law_worth.kp T.b_law_worth (ad_cons (dv 0) (ad_cons (dv 5) ad_nil))))
    (sds_one (sd_if (PW.pt (wd_and (td_cmp od_ge (dv 6) (dv 2) (nomark _)) (wd_and1 (td_cmp od_le (pd_callB (cd_sumA rfl) (by rfl) T.n_sum (by decide +kernel) (ad_cons (dv 5) ad_nil)) (dv 3) (nomark _))))) (sds_cons (sd_set (i := 7) sc_law_best.nd rfl (by first | exact Or.inl rfl | exact Or.inr rfl) (pd_tup (ad_cons (dv 6) (ad_cons (pd_callB (cd_sumA rfl) (by rfl) T.n_sum (by decide +kernel) (ad_cons (dv 5) ad_nil)) (ad_cons (pd_lcG fin_lst rfl sc_law_best.nd (id_revA (by rfl) T.n_reversed (dv 5)) (blkOk_by (own := [("k", 8)]) (N := n_law_best) (sc := defScope s_law_best) (by decide +kernel)) rfl tg_name (by decide) (fun _ _ _ _ _ => (pg_name (i := 8) sc_law_best.nd rfl (by first | exact Or.inl rfl | exact Or.inr rfl))) (fun _ _ _ _ _ => tsd_nil) (fun _ _ _ _ _ => (pd_op od_sub pd_int (dv 8)))) ad_nil)))))
    (sds_one (sd_if (PW.pt (wd_or (td_cmp od_isN (dv 4) pd_non (nomark _)) (wd_or1 (td_cmp (od_ltD hr.units) (dv 7) (pd_ix (dv 4) pd_int (fun _ _ => rfl)) (nomark _))))) (sds_one (sd_set (i := 4) sc_law_best.nd rfl (by first | exact Or.inl rfl | exact Or.inr rfl) (pd_tup (ad_cons (dv 7) (ad_cons (pd_tup (ad_cons (dv 6) (ad_cons (dv 5) ad_nil))) ad_nil))))) sds_nil))) sds_nil))))
    (sds_cons (sd_if (td_cmp od_isN (dv 4) pd_non (nomark _)) (sds_one (sd_ret pd_non)) sds_nil)
    (sds_one (sd_ret (pd_ix (dv 4) pd_int (fun _ _ => rfl)))))))) (rd_law_best)
theorem ok_law_is (T : Tx K mg base tb) : FnOk P w K mg base CX0 1 T.f_law_is T.d_law_is ["told", "due"] (liSp K tb sp_law_is) :=
  Fun.okD T.F_law_is sc_law_is (len_law_is) (t := t_law_is) (fun cdv A outer s H E F0 R0 hr =>
    (sds_cons (sd_if (td_cmp od_isN (dv 1) pd_non (nomark _)) (sds_one (sd_ret (pd_cmp od_isN (dv 0) pd_non (nomark _)))) sds_nil)
    (sds_cons (sd_if (PW.pt (wd_or (td_not (td_tru (pd_callB cd_isi (by rfl) T.n_isinstance (by decide +kernel) (ad_cons (dv 0) (ad_cons (pd_ty (by rfl) T.n_tuple (by decide +kernel)) ad_nil))))) (wd_or (td_cmp (od_ne hr.units) (pd_callB cd_len (by rfl) T.n_len PySem.boot_len (ad_cons (dv 0) ad_nil)) pd_int (nomark _)) (wd_or (td_not (td_tru (pd_callB cd_isi (by rfl) T.n_isinstance (by decide +kernel) (ad_cons (pd_ix (dv 0) pd_int (fun _ _ => rfl)) (ad_cons (pd_ty (by rfl) T.n_tuple (by decide +kernel)) ad_nil))))) (wd_or1 (td_cmp (od_ne hr.units) (pd_callB cd_len (by rfl) T.n_len PySem.boot_len (ad_cons (pd_ix (dv 0) pd_int (fun _ _ => rfl)) ad_nil)) (pd_callB cd_len (by rfl) T.n_len PySem.boot_len (ad_cons (pd_ix (dv 1) pd_int (fun _ _ => rfl)) ad_nil)) (nomark _))))))) (sds_one (sd_ret pd_bl)) sds_nil)
    (sds_cons (sd_for PassesOwn.never rfl (id_seq (pd_op od_add (pd_tup (ad_cons (pd_ix (dv 0) pd_int (fun _ _ => rfl)) ad_nil)) (pd_ix (dv 0) pd_int (fun _ _ => rfl)))) (pg_name (i := 2) sc_law_is.nd rfl (by first | exact Or.inl rfl | exact Or.inr rfl)) tg_name (sds_one (sd_if (PW.pt (wd_or (td_not (td_tru (pd_callB cd_isi (by rfl) T.n_isinstance (by decide +kernel) (ad_cons (dv 2) (ad_cons (pd_ty (by rfl) T.n_int (by decide +kernel)) ad_nil))))) (wd_or1 (td_tru (pd_callB cd_isi (by rfl) T.n_isinstance (by decide +kernel) (ad_cons (dv 2) (ad_cons (pd_ty (by rfl) T.n_bool (by decide +kernel)) ad_nil))))))) (sds_one (sd_ret pd_bl)) sds_nil)))
    (sds_one (sd_ret (pd_cmp (od_eq hr.units) (dv 0) (dv 1) (nomark _)))))))) (rd_law_is)
theorem ok_law_many (T : Tx K mg base tb) : FnOk P w K mg base CX0 3 T.f_law_many T.d_law_many ["state"] (liSp K tb sp_law_many) :=
  Fun.okD T.F_law_many sc_law_many (len_law_many) (t := (t_law_many ⟨P, w, K, mg, base, tb⟩)) (fun cdv A outer s H E F0 R0 hr =>
    (sds_cons (sd_set (i := 1) sc_law_many.nd rfl (by first | exact Or.inl rfl | exact Or.inr rfl) (pd_lst (ad_cons (pd_lst (ad_cons pd_int (ad_cons pd_int (ad_cons pd_int (ad_cons pd_int (ad_cons pd_int ad_nil)))))) (ad_cons (pd_lst (ad_cons pd_int (ad_cons pd_int (ad_cons pd_int ad_nil)))) (ad_cons (pd_lst (ad_cons pd_int (ad_cons pd_int (ad_cons pd_int ad_nil)))) (ad_cons (pd_lst (ad_cons pd_int (ad_cons pd_int (ad_cons pd_int ad_nil)))) (ad_cons (pd_lst (ad_cons pd_int (ad_cons pd_int (ad_cons pd_int (ad_cons pd_int (ad_cons pd_int (ad_cons pd_int ad_nil))))))) (ad_cons (pd_lst (ad_cons pd_int (ad_cons pd_int (ad_cons pd_int ad_nil)))) (ad_cons (pd_lst (ad_cons pd_int (ad_cons pd_int (ad_cons pd_int ad_nil)))) ad_nil)))))))))
    (sds_cons (sd_set (i := 2) sc_law_many.nd rfl (by first | exact Or.inl rfl | exact Or.inr rfl) (pd_ix (dv 1) (pd_call (ok_law_draw T) (hr.mono (by decide)) (by rfl) T.g_law_draw T.F_law_draw.kp T.b_law_draw (ad_cons (dv 0) (ad_cons (pd_callB cd_len (by rfl) T.n_len PySem.boot_len (ad_cons (dv 1) ad_nil)) ad_nil))) (fun _ _ => rfl)))
    (sds_cons (sd_set (i := 3) sc_law_many.nd rfl (by first | exact Or.inl rfl | exact Or.inr rfl) (pd_lstM ad_nil))
    (sds_cons (sd_set (i := 4) sc_law_many.nd rfl (by first | exact Or.inl rfl | exact Or.inr rfl) pd_int)
    (sds_cons (sd_for PassesOwn.never rfl (id_rng1 (by rfl) T.n_range (ad_cons (pd_callB cd_len (by rfl) T.n_len PySem.boot_len (ad_cons (dv 2) ad_nil)) ad_nil)) (pg_name (i := 5) sc_law_many.nd rfl (by first | exact Or.inl rfl | exact Or.inr rfl)) tg_name (sds_cons (sd_set (i := 4) sc_law_many.nd rfl (by first | exact Or.inl rfl | exact Or.inr rfl) (pd_op od_mul (dv 4) (pd_op od_add (pd_ix (dv 2) (dv 5) (fun _ _ => rfl)) pd_int)))
    (sds_one (sd_expr (pd_append (dv 3) (ad_cons (pd_tup (ad_cons (pd_op od_add pd_int (pd_op od_mul pd_int (dv 5))) (ad_cons (pd_ix (dv 2) (dv 5) (fun _ _ => rfl)) ad_nil))) ad_nil))))))
    (sds_cons (sd_set (i := 6) sc_law_many.nd rfl (by first | exact Or.inl rfl | exact Or.inr rfl) (pd_callB (cd_sum rfl) (by rfl) T.n_sum (by decide +kernel) (ad_cons (pd_lcG fin_lst rfl sc_law_many.nd (id_seq (dv 3)) (blkOk_by (own := [("value", 7), ("number", 8)]) (N := n_law_many) (sc := defScope s_law_many) (by decide +kernel)) rfl (tg_of [7, 8]) (by decide) (fun _ _ _ _ _ => (pg_tup rfl (GNames.cons (pg_name (i := 7) sc_law_many.nd rfl (by first | exact Or.inl rfl | exact Or.inr rfl)) (GNames.cons (pg_name (i := 8) sc_law_many.nd rfl (by first | exact Or.inl rfl | exact Or.inr rfl)) GNames.nil rfl) rfl).pgs)) (fun _ _ _ _ _ => tsd_nil) (fun _ _ _ _ _ => (pd_op od_mul (dv 7) (dv 8)))) ad_nil)))
    (sds_cons (sd_for PassesOwn.never rfl (id_seq (pd_lst (ad_cons (dv 6) (ad_cons (pd_op od_add (dv 6) pd_int) ad_nil)))) (pg_name (i := 9) sc_law_many.nd rfl (by first | exact Or.inl rfl | exact Or.inr rfl)) tg_name (sds_one (sd_try rfl rfl (cv := exV ⟨P, w, K, mg, base, tb⟩ "TooLarge") (exV_of T.x_TooLarge.g) ⟨by rfl, by decide, Or.inl T.x_TooLarge.g⟩ T.x_TooLarge.m (sds_cons (sd_if (td_cmp od_gt (dv 4) pd_int (nomark _)) (sds_one (sd_ret pd_bl)) sds_nil)
    (sds_one (sd_if (td_not (td_tru (pd_call (ok_law_is T) (hr.mono (by decide)) (by rfl) T.g_law_is T.F_law_is.kp T.b_law_is (ad_cons (dv 10) (ad_cons (pd_ix (pd_lst (ad_cons pd_non (ad_cons (pd_tup (ad_cons (dv 6) (ad_cons (pd_callTy cd_tuple (by rfl) T.n_tuple (by decide +kernel) (ad_cons (dv 2) ad_nil)) ad_nil))) ad_nil))) (pd_callTy cd_int (by rfl) T.n_int (by decide +kernel) (ad_cons (pd_cmp (od_eq hr.units) (dv 9) (dv 6) (nomark _)) ad_nil)) (fun _ _ => rfl)) ad_nil))))) (sds_one (sd_ret pd_bl)) sds_nil))) (fun W pn xe FF RR E2 hE2 tk2 => (sds_one (sd_set (i := 10) sc_law_many.nd rfl (by first | exact Or.inl rfl | exact Or.inr rfl) (pd_callS hE2 tk2 (ok_best_from T) (hr.mono (by decide)) (by rfl) T.g_best_from T.F_best_from.kp T.b_best_from (ad_cons (pd_callTy cd_tuple (by rfl) T.n_tuple (by decide +kernel) (ad_cons (dv 3) ad_nil)) (ad_cons (dv 9) (ad_cons pd_int ad_nil))))))) (fun a oe cls d pn hz hf => (sds_one (sd_if (td_cmp od_le (dv 4) pd_int (nomark _)) (sds_one (sd_ret pd_bl)) sds_nil))))))
    (sds_one (sd_ret pd_bl)))))))))) (rd_law_many ⟨P, w, K, mg, base, tb⟩)
theorem ok_law_wide_holds (T : Tx K mg base tb) : FnOk P w K mg base CX0 3 T.f_law_wide_holds T.d_law_wide_holds ["state"] (liSp K tb sp_law_wide_holds) :=
  Fun.okD T.F_law_wide_holds sc_law_wide_holds (len_law_wide_holds) (t := (t_law_wide_holds ⟨P, w, K, mg, base, tb⟩)) (fun cdv A outer s H E F0 R0 hr =>
    (sds_cons (sd_set (i := 1) sc_law_wide_holds.nd rfl (by first | exact Or.inl rfl | exact Or.inr rfl) (pd_op od_add pd_int (pd_call (ok_law_draw T) (hr.mono (by decide)) (by rfl) T.g_law_draw T.F_law_draw.kp T.b_law_draw (ad_cons (dv 0) (ad_cons pd_int ad_nil)))))
    (sds_cons (sd_set (i := 2) sc_law_wide_holds.nd rfl (by first | exact Or.inl rfl | exact Or.inr rfl) (pd_ix (pd_lst (ad_cons pd_int (ad_cons pd_int ad_nil))) (pd_call (ok_law_draw T) (hr.mono (by decide)) (by rfl) T.g_law_draw T.F_law_draw.kp T.b_law_draw (ad_cons (dv 0) (ad_cons pd_int ad_nil))) (fun _ _ => rfl)))
    (sds_cons (sd_set (i := 3) sc_law_wide_holds.nd rfl (by first | exact Or.inl rfl | exact Or.inr rfl) (pd_lstM ad_nil))
    (sds_cons (sd_for PassesOwn.never rfl (id_rng1 (by rfl) T.n_range (ad_cons (dv 2) ad_nil)) (pg_name (i := 4) sc_law_wide_holds.nd rfl (by first | exact Or.inl rfl | exact Or.inr rfl)) tg_name (sds_cons (sd_set (i := 5) sc_law_wide_holds.nd rfl (by first | exact Or.inl rfl | exact Or.inr rfl) pd_int)
    (sds_cons (sd_if (td_cmp (od_eq hr.units) (dv 2) pd_int (nomark _)) (sds_one (sd_set (i := 5) sc_law_wide_holds.nd rfl (by first | exact Or.inl rfl | exact Or.inr rfl) (pd_op od_add pd_int (pd_call (ok_law_draw T) (hr.mono (by decide)) (by rfl) T.g_law_draw T.F_law_draw.kp T.b_law_draw (ad_cons (dv 0) (ad_cons pd_int ad_nil)))))) sds_nil)
    (sds_one (sd_expr (pd_append (dv 3) (ad_cons (pd_tup (ad_cons (pd_op od_add (pd_op od_add (dv 1) (pd_op od_mul (dv 4) (pd_op od_add pd_int (pd_call (ok_law_draw T) (hr.mono (by decide)) (by rfl) T.g_law_draw T.F_law_draw.kp T.b_law_draw (ad_cons (dv 0) (ad_cons pd_int ad_nil)))))) (pd_op od_mul pd_int (dv 4))) (ad_cons (dv 5) ad_nil))) ad_nil)))))))
    (sds_cons (sd_set (i := 6) sc_law_wide_holds.nd rfl (by first | exact Or.inl rfl | exact Or.inr rfl) (pd_call (ok_law_all T) (hr.mono (by decide)) (by rfl) T.g_law_all T.F_law_all.kp T.b_law_all (ad_cons (pd_callTy cd_tuple (by rfl) T.n_tuple (by decide +kernel) (ad_cons (dv 3) ad_nil)) ad_nil)))
    (sds_cons (sd_set (i := 7) sc_law_wide_holds.nd rfl (by first | exact Or.inl rfl | exact Or.inr rfl) (pd_ix (dv 6) (pd_call (ok_law_draw T) (hr.mono (by decide)) (by rfl) T.g_law_draw T.F_law_draw.kp T.b_law_draw (ad_cons (dv 0) (ad_cons (pd_callB cd_len (by rfl) T.n_len PySem.boot_len (ad_cons (dv 6) ad_nil)) ad_nil))) (fun _ _ => rfl)))
    (sds_cons (sd_set (i := 8) sc_law_wide_holds.nd rfl (by first | exact Or.inl rfl | exact Or.inr rfl) (pd_op od_add (pd_call (ok_law_worth T) (hr.mono (by decide)) (by rfl) T.g_law_worth T.F_law_worth.kp T.b_law_worth (ad_cons (dv 3) (ad_cons (dv 7) ad_nil))) (pd_call (ok_law_draw T) (hr.mono (by decide)) (by rfl) T.g_law_draw T.F_law_draw.kp T.b_law_draw (ad_cons (dv 0) (ad_cons pd_int ad_nil)))))
    (sds_cons (sd_set (i := 9) sc_law_wide_holds.nd rfl (by first | exact Or.inl rfl | exact Or.inr rfl) (pd_op od_add (pd_callB (cd_sumA rfl) (by rfl) T.n_sum (by decide +kernel) (ad_cons (dv 7) ad_nil)) (pd_call (ok_law_draw T) (hr.mono (by decide)) (by rfl) T.g_law_draw T.F_law_draw.kp T.b_law_draw (ad_cons (dv 0) (ad_cons pd_int ad_nil)))))
    (sds_one (sd_ret (pd_call (ok_law_is T) (hr.mono (by decide)) (by rfl) T.g_law_is T.F_law_is.kp T.b_law_is (ad_cons (pd_callX noX (ok_best_from T) (hr.mono (by decide)) (by rfl) T.g_best_from T.F_best_from.kp T.b_best_from passL (ad_cons (pd_callTy cd_tuple (by rfl) T.n_tuple (by decide +kernel) (ad_cons (dv 3) ad_nil)) (ad_cons (dv 8) (ad_cons (dv 9) ad_nil)))) (ad_cons (pd_call (ok_law_best T) (hr.mono (by decide)) (by rfl) T.g_law_best T.F_law_best.kp T.b_law_best (ad_cons (dv 3) (ad_cons (dv 6) (ad_cons (dv 8) (ad_cons (dv 9) ad_nil))))) ad_nil)))))))))))))) (rd_law_wide_holds ⟨P, w, K, mg, base, tb⟩)
theorem ok_law (T : Tx K mg base tb) : FnOk P w K mg base CX0 4 T.f_law T.d_law ["script"] (liSp K tb sp_law) :=
  Fun.okD T.F_law sc_law (len_law) (t := (t_law ⟨P, w, K, mg, base, tb⟩)) (fun cdv A outer s H E F0 R0 hr =>
    (sds_cons (sd_set (i := 1) sc_law.nd rfl (by first | exact Or.inl rfl | exact Or.inr rfl) (pd_call (ok_law_state T) (hr.mono (by decide)) (by rfl) T.g_law_state T.F_law_state.kp T.b_law_state (ad_cons (dv 0) ad_nil)))
    (sds_cons (sd_if (PW.pt (wd_and (td_cmp (od_eq hr.units) (pd_call (ok_law_draw T) (hr.mono (by decide)) (by rfl) T.g_law_draw T.F_law_draw.kp T.b_law_draw (ad_cons (dv 1) (ad_cons pd_int ad_nil))) pd_int (nomark _)) (wd_and1 (td_not (td_tru (pd_call (ok_law_wide_holds T) (hr.mono (by decide)) (by rfl) T.g_law_wide_holds T.F_law_wide_holds.kp T.b_law_wide_holds (ad_cons (dv 1) ad_nil))))))) (sds_one (sd_ret pd_bl)) sds_nil)
    (sds_cons (sd_set (i := 2) sc_law.nd rfl (by first | exact Or.inl rfl | exact Or.inr rfl) (pd_call (ok_law_holding T) (hr.mono (by decide)) (by rfl) T.g_law_holding T.F_law_holding.kp T.b_law_holding (ad_cons (dv 1) ad_nil)))
    (sds_cons (sd_set (i := 3) sc_law.nd rfl (by first | exact Or.inl rfl | exact Or.inr rfl) (pd_call (ok_law_all T) (hr.mono (by decide)) (by rfl) T.g_law_all T.F_law_all.kp T.b_law_all (ad_cons (dv 2) ad_nil)))
    (sds_cons (sd_for PassesOwn.never rfl (id_rng1 (by rfl) T.n_range (ad_cons pd_int ad_nil)) (pg_name (i := 4) sc_law.nd rfl (by first | exact Or.inl rfl | exact Or.inr rfl)) tg_name (sds_cons (sd_set (i := 5) sc_law.nd rfl (by first | exact Or.inl rfl | exact Or.inr rfl) (pd_ix (dv 3) (pd_call (ok_law_draw T) (hr.mono (by decide)) (by rfl) T.g_law_draw T.F_law_draw.kp T.b_law_draw (ad_cons (dv 1) (ad_cons (pd_callB cd_len (by rfl) T.n_len PySem.boot_len (ad_cons (dv 3) ad_nil)) ad_nil))) (fun _ _ => rfl)))
    (sds_cons (sd_set (i := 6) sc_law.nd rfl (by first | exact Or.inl rfl | exact Or.inr rfl) (pd_op od_sub (pd_op od_add (pd_call (ok_law_worth T) (hr.mono (by decide)) (by rfl) T.g_law_worth T.F_law_worth.kp T.b_law_worth (ad_cons (dv 2) (ad_cons (dv 5) ad_nil))) (pd_call (ok_law_draw T) (hr.mono (by decide)) (by rfl) T.g_law_draw T.F_law_draw.kp T.b_law_draw (ad_cons (dv 1) (ad_cons pd_int ad_nil)))) pd_int))
    (sds_cons (sd_if (td_cmp (od_eq hr.units) (dv 4) pd_int (nomark _)) (sds_one (sd_set (i := 6) sc_law.nd rfl (by first | exact Or.inl rfl | exact Or.inr rfl) (pd_op od_sub (pd_call (ok_law_draw T) (hr.mono (by decide)) (by rfl) T.g_law_draw T.F_law_draw.kp T.b_law_draw (ad_cons (dv 1) (ad_cons pd_int ad_nil))) pd_int))) sds_nil)
    (sds_cons (sd_set (i := 7) sc_law.nd rfl (by first | exact Or.inl rfl | exact Or.inr rfl) (pd_ix (pd_lst (ad_cons pd_int (ad_cons (pd_callB (cd_sumA rfl) (by rfl) T.n_sum (by decide +kernel) (ad_cons (dv 5) ad_nil)) (ad_cons (pd_call (ok_law_draw T) (hr.mono (by decide)) (by rfl) T.g_law_draw T.F_law_draw.kp T.b_law_draw (ad_cons (dv 1) (ad_cons pd_int ad_nil))) (ad_cons (pd_callB (cd_max rfl) (by rfl) T.n_max (by decide +kernel) (ad_cons pd_int (ad_cons (pd_op od_sub (pd_callB (cd_sumA rfl) (by rfl) T.n_sum (by decide +kernel) (ad_cons (dv 5) ad_nil)) pd_int) ad_nil))) ad_nil))))) (pd_call (ok_law_draw T) (hr.mono (by decide)) (by rfl) T.g_law_draw T.F_law_draw.kp T.b_law_draw (ad_cons (dv 1) (ad_cons pd_int ad_nil))) (fun _ _ => rfl)))
    (sds_one (sd_if (td_not (td_tru (pd_call (ok_law_is T) (hr.mono (by decide)) (by rfl) T.g_law_is T.F_law_is.kp T.b_law_is (ad_cons (pd_callX noX (ok_best_from T) (hr.mono (by decide)) (by rfl) T.g_best_from T.F_best_from.kp T.b_best_from passL (ad_cons (dv 2) (ad_cons (dv 6) (ad_cons (dv 7) ad_nil)))) (ad_cons (pd_call (ok_law_best T) (hr.mono (by decide)) (by rfl) T.g_law_best T.F_law_best.kp T.b_law_best (ad_cons (dv 2) (ad_cons (dv 3) (ad_cons (dv 6) (ad_cons (dv 7) ad_nil))))) ad_nil))))) (sds_one (sd_ret pd_bl)) sds_nil)))))))
    (sds_one (sd_ret (pd_or (pd_cmp od_gt (pd_call (ok_law_draw T) (hr.mono (by decide)) (by rfl) T.g_law_draw T.F_law_draw.kp T.b_law_draw (ad_cons (dv 1) (ad_cons pd_int ad_nil))) pd_int (nomark _)) (pd_one (pd_call (ok_law_many T) (hr.mono (by decide)) (by rfl) T.g_law_many T.F_law_many.kp T.b_law_many (ad_cons (dv 1) ad_nil)))))))))))) (rd_law ⟨P, w, K, mg, base, tb⟩)
end
set_option maxHeartbeats 8000000 in
theorem all_mk {l : PySem.W.OpenLaw} {w : World} {K : PySem.W.Frag} {h : Heap} {mg : Str → Option Value} {fa : Addr} (X : K.In h) (G : h.Ns mainGlobals mg) (hfa : mg "law" = some (.ref fa))
    {f0 : Addr} {od0 an0 : Option Addr} {sl0 : Array (Option Value)} {oc0 kV0 dc0 pm0 ct0 : Value} {cd0 : Value}
    (a0 : PySem.W.nsIn K mainGlobals "_all_numbers" = some (some (.ref f0)))
    (l0 : K.lookup f0 = some ⟨oc0, od0, .func (PySem.W.fnOf "_all_numbers" "_all_numbers" (defArgs s_all_numbers) (defBody s_all_numbers) (defScope s_all_numbers) .none kV0 dc0 pm0 an0 cd0 ct0), sl0⟩)
    (c0 : PySem.W.codeIn K cd0 "_all_numbers" = true) (k0 : PySem.W.keepIn K (.ref f0) = true)
    {f1 : Addr} {od1 an1 : Option Addr} {sl1 : Array (Option Value)} {oc1 kV1 dc1 pm1 ct1 : Value} {cd1 : Value}
    (a1 : PySem.W.nsIn K mainGlobals "best_from" = some (some (.ref f1)))
    (l1 : K.lookup f1 = some ⟨oc1, od1, .func (PySem.W.fnOf "best_from" "best_from" (defArgs s_best_from) (defBody s_best_from) (defScope s_best_from) .none kV1 dc1 pm1 an1 cd1 ct1), sl1⟩)
    (c1 : PySem.W.codeIn K cd1 "best_from" = true) (k1 : PySem.W.keepIn K (.ref f1) = true)
    {f2 : Addr} {od2 an2 : Option Addr} {sl2 : Array (Option Value)} {oc2 kV2 dc2 pm2 ct2 : Value} {cd2 : Value}
    (a2 : PySem.W.nsIn K mainGlobals "_law_state" = some (some (.ref f2)))
    (l2 : K.lookup f2 = some ⟨oc2, od2, .func (PySem.W.fnOf "_law_state" "_law_state" (defArgs s_law_state) (defBody s_law_state) (defScope s_law_state) .none kV2 dc2 pm2 an2 cd2 ct2), sl2⟩)
    (c2 : PySem.W.codeIn K cd2 "_law_state" = true) (k2 : PySem.W.keepIn K (.ref f2) = true)
    {f3 : Addr} {od3 an3 : Option Addr} {sl3 : Array (Option Value)} {oc3 kV3 dc3 pm3 ct3 : Value} {cd3 : Value}
    (a3 : PySem.W.nsIn K mainGlobals "_law_draw" = some (some (.ref f3)))
    (l3 : K.lookup f3 = some ⟨oc3, od3, .func (PySem.W.fnOf "_law_draw" "_law_draw" (defArgs s_law_draw) (defBody s_law_draw) (defScope s_law_draw) .none kV3 dc3 pm3 an3 cd3 ct3), sl3⟩)
    (c3 : PySem.W.codeIn K cd3 "_law_draw" = true) (k3 : PySem.W.keepIn K (.ref f3) = true)
    {f4 : Addr} {od4 an4 : Option Addr} {sl4 : Array (Option Value)} {oc4 kV4 dc4 pm4 ct4 : Value} {cd4 : Value}
    (a4 : PySem.W.nsIn K mainGlobals "_law_holding" = some (some (.ref f4)))
    (l4 : K.lookup f4 = some ⟨oc4, od4, .func (PySem.W.fnOf "_law_holding" "_law_holding" (defArgs s_law_holding) (defBody s_law_holding) (defScope s_law_holding) .none kV4 dc4 pm4 an4 cd4 ct4), sl4⟩)
    (c4 : PySem.W.codeIn K cd4 "_law_holding" = true) (k4 : PySem.W.keepIn K (.ref f4) = true)
    {f5 : Addr} {od5 an5 : Option Addr} {sl5 : Array (Option Value)} {oc5 kV5 dc5 pm5 ct5 : Value} {cd5 : Value}
    (a5 : PySem.W.nsIn K mainGlobals "_law_all" = some (some (.ref f5)))
    (l5 : K.lookup f5 = some ⟨oc5, od5, .func (PySem.W.fnOf "_law_all" "_law_all" (defArgs s_law_all) (defBody s_law_all) (defScope s_law_all) .none kV5 dc5 pm5 an5 cd5 ct5), sl5⟩)
    (c5 : PySem.W.codeIn K cd5 "_law_all" = true) (k5 : PySem.W.keepIn K (.ref f5) = true)
    {f6 : Addr} {od6 an6 : Option Addr} {sl6 : Array (Option Value)} {oc6 kV6 dc6 pm6 ct6 : Value} {cd6 : Value}
    (a6 : PySem.W.nsIn K mainGlobals "_law_worth" = some (some (.ref f6)))
    (l6 : K.lookup f6 = some ⟨oc6, od6, .func (PySem.W.fnOf "_law_worth" "_law_worth" (defArgs s_law_worth) (defBody s_law_worth) (defScope s_law_worth) .none kV6 dc6 pm6 an6 cd6 ct6), sl6⟩)
    (c6 : PySem.W.codeIn K cd6 "_law_worth" = true) (k6 : PySem.W.keepIn K (.ref f6) = true)
    {f7 : Addr} {od7 an7 : Option Addr} {sl7 : Array (Option Value)} {oc7 kV7 dc7 pm7 ct7 : Value} {cd7 : Value}
    (a7 : PySem.W.nsIn K mainGlobals "_law_best" = some (some (.ref f7)))
    (l7 : K.lookup f7 = some ⟨oc7, od7, .func (PySem.W.fnOf "_law_best" "_law_best" (defArgs s_law_best) (defBody s_law_best) (defScope s_law_best) .none kV7 dc7 pm7 an7 cd7 ct7), sl7⟩)
    (c7 : PySem.W.codeIn K cd7 "_law_best" = true) (k7 : PySem.W.keepIn K (.ref f7) = true)
    {f8 : Addr} {od8 an8 : Option Addr} {sl8 : Array (Option Value)} {oc8 kV8 dc8 pm8 ct8 : Value} {cd8 : Value}
    (a8 : PySem.W.nsIn K mainGlobals "_law_is" = some (some (.ref f8)))
    (l8 : K.lookup f8 = some ⟨oc8, od8, .func (PySem.W.fnOf "_law_is" "_law_is" (defArgs s_law_is) (defBody s_law_is) (defScope s_law_is) .none kV8 dc8 pm8 an8 cd8 ct8), sl8⟩)
    (c8 : PySem.W.codeIn K cd8 "_law_is" = true) (k8 : PySem.W.keepIn K (.ref f8) = true)
    {f9 : Addr} {od9 an9 : Option Addr} {sl9 : Array (Option Value)} {oc9 kV9 dc9 pm9 ct9 : Value} {cd9 : Value}
    (a9 : PySem.W.nsIn K mainGlobals "_law_many" = some (some (.ref f9)))
    (l9 : K.lookup f9 = some ⟨oc9, od9, .func (PySem.W.fnOf "_law_many" "_law_many" (defArgs s_law_many) (defBody s_law_many) (defScope s_law_many) .none kV9 dc9 pm9 an9 cd9 ct9), sl9⟩)
    (c9 : PySem.W.codeIn K cd9 "_law_many" = true) (k9 : PySem.W.keepIn K (.ref f9) = true)
    {f10 : Addr} {od10 an10 : Option Addr} {sl10 : Array (Option Value)} {oc10 kV10 dc10 pm10 ct10 : Value} {cd10 : Value}
    (a10 : PySem.W.nsIn K mainGlobals "_law_wide_holds" = some (some (.ref f10)))
    (l10 : K.lookup f10 = some ⟨oc10, od10, .func (PySem.W.fnOf "_law_wide_holds" "_law_wide_holds" (defArgs s_law_wide_holds) (defBody s_law_wide_holds) (defScope s_law_wide_holds) .none kV10 dc10 pm10 an10 cd10 ct10), sl10⟩)
    (c10 : PySem.W.codeIn K cd10 "_law_wide_holds" = true) (k10 : PySem.W.keepIn K (.ref f10) = true)
    {f11 : Addr} {od11 an11 : Option Addr} {sl11 : Array (Option Value)} {oc11 kV11 dc11 pm11 ct11 : Value} {cd11 : Value}
    (a11 : PySem.W.nsIn K mainGlobals "law" = some (some (.ref f11)))
    (l11 : K.lookup f11 = some ⟨oc11, od11, .func (PySem.W.fnOf "law" "law" (defArgs s_law) (defBody s_law) (defScope s_law) .none kV11 dc11 pm11 an11 cd11 ct11), sl11⟩)
    (c11 : PySem.W.codeIn K cd11 "law" = true) (k11 : PySem.W.keepIn K (.ref f11) = true)
    (z_bool : PySem.W.nsIn K mainGlobals "bool" = some none)
    (z_int : PySem.W.nsIn K mainGlobals "int" = some none)
    (z_isinstance : PySem.W.nsIn K mainGlobals "isinstance" = some none)
    (z_len : PySem.W.nsIn K mainGlobals "len" = some none)
    (z_list : PySem.W.nsIn K mainGlobals "list" = some none)
    (z_max : PySem.W.nsIn K mainGlobals "max" = some none)
    (z_min : PySem.W.nsIn K mainGlobals "min" = some none)
    (z_range : PySem.W.nsIn K mainGlobals "range" = some none)
    (z_reversed : PySem.W.nsIn K mainGlobals "reversed" = some none)
    (z_sorted : PySem.W.nsIn K mainGlobals "sorted" = some none)
    (z_sum : PySem.W.nsIn K mainGlobals "sum" = some none)
    (z_tuple : PySem.W.nsIn K mainGlobals "tuple" = some none)
    {xc_TooLarge : Addr} (xg_TooLarge : PySem.W.nsIn K mainGlobals "TooLarge" = some (some (.ref xc_TooLarge))) (xq_TooLarge : PySem.W.excIn K xc_TooLarge [.type "ValueError", .type "Exception", .type "BaseException", .type "object"] "ValueError.__new__" = true) (xk_TooLarge : PySem.W.keepIn K (.ref xc_TooLarge) = true) (xs_TooLarge : PySem.W.subIn K (.ref xc_TooLarge) (.type "BaseException") = some true) (xt_TooLarge : PySem.W.typeIn K (.ref xc_TooLarge) = some (.type "type")) (xi_TooLarge : PySem.W.isClsIn K xc_TooLarge = true) (xr_TooLarge : PySem.W.subIn K (.ref xc_TooLarge) (.ref xc_TooLarge) = some true)
    {tk_MAX_CHOICES : Tok} (y_MAX_CHOICES : PySem.W.nsIn K mainGlobals "MAX_CHOICES" = some (some (.int (20000) tk_MAX_CHOICES))) :
    ∃ fd : FuncData, (∀ (s : Shared) (v : Value), BindsTo s fd ⟨[v], []⟩ [("script", v)]) ∧ ∀ base : Heap, K.In base → base.Ns mainGlobals mg → FnOk l.prog w K mg base CX0 4 fa fd ["script"] (liSp K [] sp_law) := by
  have e := hfa.symm.trans (PySem.W.mg_of X G a11)
  cases e
  have F0 := fun_mk (st := s_all_numbers) l0 c0 k0
  have F1 := fun_mk (st := s_best_from) l1 c1 k1
  have F2 := fun_mk (st := s_law_state) l2 c2 k2
  have F3 := fun_mk (st := s_law_draw) l3 c3 k3
  have F4 := fun_mk (st := s_law_holding) l4 c4 k4
  have F5 := fun_mk (st := s_law_all) l5 c5 k5
  have F6 := fun_mk (st := s_law_worth) l6 c6 k6
  have F7 := fun_mk (st := s_law_best) l7 c7 k7
  have F8 := fun_mk (st := s_law_is) l8 c8 k8
  have F9 := fun_mk (st := s_law_many) l9 c9 k9
  have F10 := fun_mk (st := s_law_wide_holds) l10 c10 k10
  have F11 := fun_mk (st := s_law) l11 c11 k11
  refine ⟨(PySem.W.fnOf "law" "law" (defArgs s_law) (defBody s_law) (defScope s_law) .none kV11 dc11 pm11 an11 cd11 ct11), fun s v => .of_eq rfl, fun base _ _ => ?_⟩
  let T : Tx K mg base [] := {
    f_all_numbers := _
    d_all_numbers := _
    F_all_numbers := F0
    g_all_numbers := PySem.W.mg_of X G a0
    b_all_numbers := ((F0).binds (ps := ["tops"]) fun _ _ _ _ _ _ us hl => match us, hl with | [_], _ => rfl)
    f_best_from := _
    d_best_from := _
    F_best_from := F1
    g_best_from := PySem.W.mg_of X G a1
    b_best_from := ((F1).binds (ps := ["holding", "price", "most"]) fun _ _ _ _ _ _ us hl => match us, hl with | [_, _, _], _ => rfl)
    f_law_state := _
    d_law_state := _
    F_law_state := F2
    g_law_state := PySem.W.mg_of X G a2
    b_law_state := ((F2).binds (ps := ["script"]) fun _ _ _ _ _ _ us hl => match us, hl with | [_], _ => rfl)
    f_law_draw := _
    d_law_draw := _
    F_law_draw := F3
    g_law_draw := PySem.W.mg_of X G a3
    b_law_draw := ((F3).binds (ps := ["state", "limit"]) fun _ _ _ _ _ _ us hl => match us, hl with | [_, _], _ => rfl)
    f_law_holding := _
    d_law_holding := _
    F_law_holding := F4
    g_law_holding := PySem.W.mg_of X G a4
    b_law_holding := ((F4).binds (ps := ["state"]) fun _ _ _ _ _ _ us hl => match us, hl with | [_], _ => rfl)
    f_law_all := _
    d_law_all := _
    F_law_all := F5
    g_law_all := PySem.W.mg_of X G a5
    b_law_all := ((F5).binds (ps := ["holding"]) fun _ _ _ _ _ _ us hl => match us, hl with | [_], _ => rfl)
    f_law_worth := _
    d_law_worth := _
    F_law_worth := F6
    g_law_worth := PySem.W.mg_of X G a6
    b_law_worth := ((F6).binds (ps := ["holding", "numbers"]) fun _ _ _ _ _ _ us hl => match us, hl with | [_, _], _ => rfl)
    f_law_best := _
    d_law_best := _
    F_law_best := F7
    g_law_best := PySem.W.mg_of X G a7
    b_law_best := ((F7).binds (ps := ["holding", "choices", "price", "most"]) fun _ _ _ _ _ _ us hl => match us, hl with | [_, _, _, _], _ => rfl)
    f_law_is := _
    d_law_is := _
    F_law_is := F8
    g_law_is := PySem.W.mg_of X G a8
    b_law_is := ((F8).binds (ps := ["told", "due"]) fun _ _ _ _ _ _ us hl => match us, hl with | [_, _], _ => rfl)
    f_law_many := _
    d_law_many := _
    F_law_many := F9
    g_law_many := PySem.W.mg_of X G a9
    b_law_many := ((F9).binds (ps := ["state"]) fun _ _ _ _ _ _ us hl => match us, hl with | [_], _ => rfl)
    f_law_wide_holds := _
    d_law_wide_holds := _
    F_law_wide_holds := F10
    g_law_wide_holds := PySem.W.mg_of X G a10
    b_law_wide_holds := ((F10).binds (ps := ["state"]) fun _ _ _ _ _ _ us hl => match us, hl with | [_], _ => rfl)
    f_law := _
    d_law := _
    F_law := F11
    g_law := PySem.W.mg_of X G a11
    b_law := ((F11).binds (ps := ["script"]) fun _ _ _ _ _ _ us hl => match us, hl with | [_], _ => rfl)
    n_bool := PySem.W.mg_none_of X G z_bool
    n_int := PySem.W.mg_none_of X G z_int
    n_isinstance := PySem.W.mg_none_of X G z_isinstance
    n_len := PySem.W.mg_none_of X G z_len
    n_list := PySem.W.mg_none_of X G z_list
    n_max := PySem.W.mg_none_of X G z_max
    n_min := PySem.W.mg_none_of X G z_min
    n_range := PySem.W.mg_none_of X G z_range
    n_reversed := PySem.W.mg_none_of X G z_reversed
    n_sorted := PySem.W.mg_none_of X G z_sorted
    n_sum := PySem.W.mg_none_of X G z_sum
    n_tuple := PySem.W.mg_none_of X G z_tuple
    x_TooLarge := ⟨_, PySem.W.mg_of X G xg_TooLarge, xq_TooLarge, xk_TooLarge, xs_TooLarge, xt_TooLarge, exm_self xs_TooLarge xi_TooLarge xt_TooLarge xr_TooLarge⟩
    c_MAX_CHOICES := ⟨_, .int (20000), PySem.W.mg_of X G y_MAX_CHOICES, ⟨_, rfl⟩, fun F => .int _⟩ }
  exact ok_law T
end DL
open PySem PySem.W PyProof.Rows
set_option maxRecDepth 100000 in
set_option maxHeartbeats 0 in
theorem PySem.Challenge.cw_postsooth_k21_whole_payments_from_a_hold_holds : PySem.Challenge.rw_postsooth_k21_whole_payments_from_a_hold.Holds := by
  w_on; o_law; k_head; (case hw => w_witness2)
  k_fill
  refine L2.walk_of (l := PySem.Challenge.rw_postsooth_k21_whole_payments_from_a_hold) (n := 63) (k := 4) (x := "script") (CX := fun _ => L2.CX0) (sp := fun w => DL.liSp _ [] DL.sp_law) rfl (by decide) rfl ⟨rfl, by decide, by decide⟩ (fun w h Y => PySem.W.kIn_of Y) ?F (fun _ _ a ns hl _ hS => DL.law_sp (fun p hp => (nomatch hp)) (fun p hp => (nomatch hp)) hl hS) (fun _ _ _ _ _ h => h)
  case F =>
    intro w mg fa h KX G hmg
    refine' DL.all_mk KX G hmg ?a0 ?l0 ?c0 ?k0 ?a1 ?l1 ?c1 ?k1 ?a2 ?l2 ?c2 ?k2 ?a3 ?l3 ?c3 ?k3 ?a4 ?l4 ?c4 ?k4 ?a5 ?l5 ?c5 ?k5 ?a6 ?l6 ?c6 ?k6 ?a7 ?l7 ?c7 ?k7 ?a8 ?l8 ?c8 ?k8 ?a9 ?l9 ?c9 ?k9 ?a10 ?l10 ?c10 ?k10 ?a11 ?l11 ?c11 ?k11 ?z_bool ?z_int ?z_isinstance ?z_len ?z_list ?z_max ?z_min ?z_range ?z_reversed ?z_sorted ?z_sum ?z_tuple ?xg_TooLarge ?xq_TooLarge ?xk_TooLarge ?xs_TooLarge ?xt_TooLarge ?xi_TooLarge ?xr_TooLarge ?y_MAX_CHOICES
    (case a0 => k_is)
    (case l0 => k_is)
    (case c0 => k_is)
    (case k0 => k_is)
    (case a1 => k_is)
    (case l1 => k_is)
    (case c1 => k_is)
    (case k1 => k_is)
    (case a2 => k_is)
    (case l2 => k_is)
    (case c2 => k_is)
    (case k2 => k_is)
    (case a3 => k_is)
    (case l3 => k_is)
    (case c3 => k_is)
    (case k3 => k_is)
    (case a4 => k_is)
    (case l4 => k_is)
    (case c4 => k_is)
    (case k4 => k_is)
    (case a5 => k_is)
    (case l5 => k_is)
    (case c5 => k_is)
    (case k5 => k_is)
    (case a6 => k_is)
    (case l6 => k_is)
    (case c6 => k_is)
    (case k6 => k_is)
    (case a7 => k_is)
    (case l7 => k_is)
    (case c7 => k_is)
    (case k7 => k_is)
    (case a8 => k_is)
    (case l8 => k_is)
    (case c8 => k_is)
    (case k8 => k_is)
    (case a9 => k_is)
    (case l9 => k_is)
    (case c9 => k_is)
    (case k9 => k_is)
    (case a10 => k_is)
    (case l10 => k_is)
    (case c10 => k_is)
    (case k10 => k_is)
    (case a11 => k_is)
    (case l11 => k_is)
    (case c11 => k_is)
    (case k11 => k_is)
    (case z_bool => k_is)
    (case z_int => k_is)
    (case z_isinstance => k_is)
    (case z_len => k_is)
    (case z_list => k_is)
    (case z_max => k_is)
    (case z_min => k_is)
    (case z_range => k_is)
    (case z_reversed => k_is)
    (case z_sorted => k_is)
    (case z_sum => k_is)
    (case z_tuple => k_is)
    (case xg_TooLarge => k_is)
    (case xq_TooLarge => k_exc)
    (case xk_TooLarge => k_is)
    (case xs_TooLarge => k_is)
    (case xt_TooLarge => k_is)
    (case xi_TooLarge => k_is)
    (case xr_TooLarge => first | rfl | k_is)
    (case y_MAX_CHOICES => k_is)
