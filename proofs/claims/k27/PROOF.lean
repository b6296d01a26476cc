import PyProof.Rows.All
import Wide.All
import OpenK.AllK
import Wide.FinOn
import HandS.ForMost
import HandS.IsInst
import HandS.TupAny
import HandS.TupMul
import HandS.Wide
import HandS.Nested
import HandS.Flow
import HandS.WordsExc
import HandS.SortInts
import PyProof.LongRange
import HandS.Gcd
import HandS.SortKw
import HandS.EndTab
import KE.KNestM
import KE.DataMinMax
import HandS.Rev
import HandS.Style
import HandS.TryOnly
import HandS.TryElse
import KE.DataCmp
import HandS.TupSets
import KE.KTupSum
import HandS.Deep
import PySem.Challenge.RW_postsooth_k27_whole_what_is_due_for_all
set_option Elab.async false
set_option linter.all false
set_option maxRecDepth 100000
/-! DL: a layer of immutable data over the hand layer. Data are trees (D); only what is changed in place stands in M (Mp). -/
namespace DL
open PySem PySem.Spec PyProof.Rows L2

/-- data: tuples and frozen lists as trees (lsk: a list that was there before, as the script); ref: an object that is changed in place, or any other thing at an address; fn: a function made when G was never changed again -/
inductive D where
  | non | bl (b : Bool) | int (i : Int) | str (x : Str) | ref (a : Addr) | ty (n : String) | fn (a : Addr) (G : Hp)
  | tup (xs : List D) | lst (xs : List D) | lsk (xs : List D)

/-- what stands at an address that may be changed -/
inductive MO where
  | lst (xs : List D)
  | dK (kvs : List (Key × D))
  | dT (kvs : List (List Key × D))
  | ins (C : Addr) (fs : List (Str × D))
  | raw (o : HO)
abbrev Mp := Addr → Option MO
def updM (M : Mp) (a : Addr) (o : MO) : Mp := fun b => if b = a then some o else M b
theorem updM_same {M : Mp} {a : Addr} {o : MO} : updM M a o a = some o := by unfold updM; rw [if_pos rfl]
theorem updM_ne {M : Mp} {a b : Addr} {o : MO} (h : b ≠ a) : updM M a o b = M b := by unfold updM; rw [if_neg h]
theorem updM_updM {M : Mp} {a : Addr} {o u : MO} : updM (updM M a o) a u = updM M a u := by
  funext b; unfold updM; split <;> rfl

def Ext (F F' : Hp) : Prop := ∀ a o, F a = some o → F' a = some o
theorem Ext.refl {F : Hp} : Ext F F := fun _ _ h => h
theorem Ext.trans {F F1 F2 : Hp} (a : Ext F F1) (b : Ext F1 F2) : Ext F F2 := fun c o h => b c o (a c o h)
section
variable (K : PySem.W.Frag)
mutual
/-- the value v stands for the data d; F holds what is never changed again -/
inductive Rep (F : Hp) : V → D → Prop
  | non : Rep F .non .non
  | bl (b : Bool) : Rep F (.bl b) (.bl b)
  | int (i : Int) : Rep F (.int i) (.int i)
  | str (x : Str) : Rep F (.str x) (.str x)
  | ref (a : Addr) : Rep F (.ref a) (.ref a)
  | ty (n : String) : Rep F (.ty n) (.ty n)
  | fn {a : Addr} {G : Hp} : Ext G F → Rep F (.ref a) (.fn a G)
  | tup {a : Addr} {xs : List V} {ds : List D} : SqT K F a xs → RepAll F xs ds → Rep F (.ref a) (.tup ds)
  | lst {a : Addr} {xs : List V} {ds : List D} : F a = some (.lst xs) → RepAll F xs ds → Rep F (.ref a) (.lst ds)
  | lsk {a : Addr} {xs : List V} {ds : List D} : SqL K F a xs → RepAll F xs ds → Rep F (.ref a) (.lsk ds)
inductive RepAll (F : Hp) : List V → List D → Prop
  | nil : RepAll F [] []
  | cons {v : V} {vs : List V} {d : D} {ds : List D} : Rep F v d → RepAll F vs ds → RepAll F (v :: vs) (d :: ds)
end
end
section
variable {K : PySem.W.Frag} {F F' : Hp}
theorem rdMono {a : Addr} {o : HO} (e : Ext F F') (h : Rd F a o) : Rd F' a o := by
  rcases h with h | ⟨u, h⟩
  · exact .inl (e _ _ h)
  · exact .inr ⟨u, e _ _ h⟩
theorem sqLMono {a : Addr} {xs : List V} (e : Ext F F') (h : SqL K F a xs) : SqL K F' a xs := h.elim (fun q => .inl (rdMono e q)) .inr
theorem sqTMono {a : Addr} {xs : List V} (e : Ext F F') (h : SqT K F a xs) : SqT K F' a xs := h.elim (fun q => .inl (rdMono e q)) .inr
mutual
theorem Rep.mono (e : Ext F F') : ∀ (d : D) (v : V), Rep K F v d → Rep K F' v d
  | .non, _, h => by cases h; exact .non
  | .bl b, _, h => by cases h; exact .bl b
  | .int i, _, h => by cases h; exact .int i
  | .str x, _, h => by cases h; exact .str x
  | .ref a, _, h => by cases h; exact .ref a
  | .ty n, _, h => by cases h; exact .ty n
  | .fn a G, _, h => by
    cases h with
    | fn g => exact .fn (g.trans e)
  | .tup ds, _, h => by
    cases h with
    | tup hs ha => exact .tup (sqTMono e hs) (RepAll.mono e ds _ ha)
  | .lst ds, _, h => by
    cases h with
    | lst hs ha => exact .lst (e _ _ hs) (RepAll.mono e ds _ ha)
  | .lsk ds, _, h => by
    cases h with
    | lsk hs ha => exact .lsk (sqLMono e hs) (RepAll.mono e ds _ ha)
theorem RepAll.mono (e : Ext F F') : ∀ (ds : List D) (vs : List V), RepAll K F vs ds → RepAll K F' vs ds
  | [], _, h => by cases h; exact .nil
  | d :: ds, _, h => by
    cases h with
    | cons h1 h2 => exact .cons (Rep.mono e d _ h1) (RepAll.mono e ds _ h2)
end
theorem Rep.ext {v : V} {d : D} (h : Rep K F v d) (e : Ext F F') : Rep K F' v d := Rep.mono e d v h
theorem RepAll.ext {vs : List V} {ds : List D} (h : RepAll K F vs ds) (e : Ext F F') : RepAll K F' vs ds := RepAll.mono e ds vs h
theorem RepAll.len : ∀ {vs : List V} {ds : List D}, RepAll K F vs ds → vs.length = ds.length
  | _, _, .nil => rfl
  | _, _, .cons _ t => congrArg (· + 1) (RepAll.len t)
theorem RepAll.get : ∀ {vs : List V} {ds : List D} {i : Nat} {v : V}, RepAll K F vs ds → vs[i]? = some v → ∃ d, ds[i]? = some d ∧ Rep K F v d
  | _, _, _, _, .nil, e => by simp at e
  | _, _, 0, _, .cons r _, e => by simp at e; subst e; exact ⟨_, rfl, r⟩
  | _, _, i + 1, v, .cons _ t, e => by
    obtain ⟨d, h1, h2⟩ := RepAll.get (i := i) (v := v) t (by simpa using e)
    exact ⟨d, by simpa using h1, h2⟩
theorem RepAll.getD : ∀ {vs : List V} {ds : List D} {i : Nat} {d : D}, RepAll K F vs ds → ds[i]? = some d → ∃ v, vs[i]? = some v ∧ Rep K F v d
  | _, _, _, _, .nil, e => by simp at e
  | _, _, 0, _, .cons r _, e => by simp at e; subst e; exact ⟨_, rfl, r⟩
  | _, _, i + 1, d, .cons _ t, e => by
    obtain ⟨v, h1, h2⟩ := RepAll.getD (i := i) (d := d) t (by simpa using e)
    exact ⟨v, by simpa using h1, h2⟩
theorem RepAll.app : ∀ {xs ys : List V} {ds es : List D}, RepAll K F xs ds → RepAll K F ys es → RepAll K F (xs ++ ys) (ds ++ es)
  | _, _, _, _, .nil, s => s
  | _, _, _, _, .cons r t, s => .cons r (RepAll.app t s)
theorem RepAll.tk : ∀ {xs : List V} {ds : List D} (n : Nat), RepAll K F xs ds → RepAll K F (xs.take n) (ds.take n)
  | _, _, 0, _ => .nil
  | _, _, _ + 1, .nil => .nil
  | _, _, n + 1, .cons r t => .cons r (RepAll.tk n t)
theorem RepAll.dp : ∀ {xs : List V} {ds : List D} (n : Nat), RepAll K F xs ds → RepAll K F (xs.drop n) (ds.drop n)
  | _, _, 0, r => r
  | _, _, _ + 1, .nil => .nil
  | _, _, n + 1, .cons _ t => RepAll.dp n t
theorem RepAll.put {v : V} {d : D} (r : Rep K F v d) : ∀ {xs : List V} {ds : List D} (i : Nat), RepAll K F xs ds → RepAll K F (xs.set i v) (ds.set i d)
  | _, _, _, .nil => .nil
  | _, _, 0, .cons _ t => .cons r t
  | _, _, i + 1, .cons q t => .cons q (RepAll.put r i t)
theorem RepAll.rev : ∀ {xs : List V} {ds : List D}, RepAll K F xs ds → RepAll K F xs.reverse ds.reverse
  | _, _, .nil => .nil
  | _, _, .cons r t => by
    rw [List.reverse_cons, List.reverse_cons]
    exact RepAll.app (RepAll.rev t) (.cons r .nil)
theorem RepAll.rpl {v : V} {d : D} (r : Rep K F v d) : ∀ n : Nat, RepAll K F (List.replicate n v) (List.replicate n d)
  | 0 => .nil
  | n + 1 => .cons r (RepAll.rpl r n)
theorem RepAll.ints : ∀ {vs : List V} {ns : List Int}, RepAll K F vs (ns.map D.int) → vs = ns.map V.int
  | _, [], h => by cases h; rfl
  | _, n :: ns, h => by
    cases h with
    | cons h1 h2 => cases h1; rw [RepAll.ints h2]; rfl
theorem RepAll.bls : ∀ {vs : List V} {ns : List Bool}, RepAll K F vs (ns.map D.bl) → vs = ns.map V.bl
  | _, [], h => by cases h; rfl
  | _, n :: ns, h => by
    cases h with
    | cons h1 h2 => cases h1; rw [RepAll.bls h2]; rfl
theorem RepAll.strs : ∀ {vs : List V} {ns : List Str}, RepAll K F vs (ns.map D.str) → vs = ns.map V.str
  | _, [], h => by cases h; rfl
  | _, n :: ns, h => by
    cases h with
    | cons h1 h2 => cases h1; rw [RepAll.strs h2]; rfl
theorem RepAll.ofInts : ∀ (ns : List Int), RepAll K F (ns.map V.int) (ns.map D.int)
  | [] => .nil
  | n :: ns => .cons (.int n) (RepAll.ofInts ns)
end

/-- the entries of a dict; the attributes of an instance -/
def RepKV (K : PySem.W.Frag) (F : Hp) {κ : Type} : List (κ × V) → List (κ × D) → Prop := Paired fun p q => p.1 = q.1 ∧ Rep K F p.2 q.2
theorem RepKV.ext {K : PySem.W.Frag} {F F' : Hp} {κ : Type} (e : Ext F F') : ∀ {xs : List (κ × V)} {ys : List (κ × D)}, RepKV K F xs ys → RepKV K F' xs ys
  | _, _, .nil => .nil
  | _, _, .cons r t => .cons ⟨r.1, r.2.ext e⟩ (RepKV.ext e t)
def RepO (K : PySem.W.Frag) (F : Hp) : HO → MO → Prop
  | .lst xs, .lst ds => RepAll K F xs ds
  | .dK kvs, .dK kds => RepKV K F kvs kds
  | .dT kvs, .dT kds => RepKV K F kvs kds
  | .ins C _ fs, .ins C' fs' => C = C' ∧ RepKV K F fs fs'
  | o, .raw o' => o = o'
  | _, _ => False
theorem RepO.ext {K : PySem.W.Frag} {F F' : Hp} (e : Ext F F') {o : HO} {m : MO} (h : RepO K F o m) : RepO K F' o m := by
  cases m with
  | lst ds => cases o <;> first | exact RepAll.ext h e | exact h
  | dK ds => cases o <;> first | exact RepKV.ext e h | exact h
  | dT ds => cases o <;> first | exact RepKV.ext e h | exact h
  | ins C fs => cases o <;> first | exact ⟨h.1, RepKV.ext e h.2⟩ | exact h
  | raw u => cases o <;> exact h
theorem RepO.lst_iff {K : PySem.W.Frag} {F : Hp} {o : HO} {ds : List D} (h : RepO K F o (.lst ds)) : ∃ xs, o = .lst xs ∧ RepAll K F xs ds := by
  cases o <;> first | exact ⟨_, rfl, h⟩ | exact h.elim

/-- what is set aside: known to the object; but where a code object's table stands, with the name of the lambdas of that code -/
def RsOk (H : Hp) (a : Addr) : HO → Prop
  | .xd fs => ∃ q : Str, fs = [(q, .non)] ∧ LamX.TabS H a q
  | o => H a = some o
theorem RsOk.there {H : Hp} {a : Addr} {o : HO} (h : RsOk H a o) (e : H a = none) : False := by
  cases o with
  | xd fs =>
    obtain ⟨q, _, ps, h1, _⟩ := h
    rw [e] at h1; cases h1
  | _ => have h : H a = some _ := h; rw [e] at h; cases h
/-- only what stands at x changes, and that is no code object -/
theorem RsOk.step {H H' : Hp} {a x : Addr} {o : HO} (h : RsOk H a o) (k : ∀ b u, b ≠ x → H b = some u → H' b = some u) (hx : a ≠ x) (hn : ∀ q, H x ≠ some (LamX.CodeO x q)) : RsOk H' a o := by
  cases o with
  | xd fs =>
    obtain ⟨q, e, ps, h1, h2, h3⟩ := h
    refine ⟨q, e, ps, k _ _ hx h1, h2, fun pos cv hc => ?_⟩
    obtain ⟨c, e1, e2⟩ := h3 pos cv hc
    exact ⟨c, e1, k _ _ (fun z => by subst z; exact hn q e2) e2⟩
  | _ => exact k _ _ hx h
/-- no thing of the free kind -/
def NX : HO → Prop
  | .ext _ => False
  | _ => True
/-- where the tables of T stand -/
def TabR (T : List (Addr × Str)) (R : Hp) : Prop := ∀ p ∈ T, R p.1 = some (.xd [(p.2, .non)])
theorem TabR.ext {T : List (Addr × Str)} {R R' : Hp} (h : TabR T R) (e : Ext R R') : TabR T R' := fun p hp => e _ _ (h p hp)
/-- the heap H: F never changed again, R set aside, M changed in place -/
structure Stt (K : PySem.W.Frag) (F R H : Hp) (M : Mp) : Prop where
  fz : ∀ a o, F a = some o → H a = some o
  rs : ∀ a o, R a = some o → RsOk H a o ∧ F a = none ∧ M a = none
  ow : ∀ a m, M a = some m → F a = none ∧ ∃ o, H a = some o ∧ RepO K F o m
  nf : ∀ a o, F a = some o → NX o
  nr : ∀ a o, R a = some o → NX o

abbrev SD := List (Option D)
abbrev QD := D → Mp → Prop
abbrev DE := SD → Mp → QD → Prop
abbrev DT := SD → Mp → (Bool → Mp → Prop) → Prop
abbrev DA := SD → Mp → (List D → Mp → Prop) → Prop
structure EndsD where
  nx : SD → Mp → Prop
  rt : QD
  bk : SD → Mp → Prop := fun _ _ => False
  ct : SD → Mp → Prop := fun _ _ => False
abbrev DS := EndsD → SD → Mp → Prop

def RepS (K : PySem.W.Frag) (F : Hp) : Option V → Option D → Prop
  | some v, some d => Rep K F v d
  | _, none => True
  | none, some _ => False
abbrev Slots (K : PySem.W.Frag) (F : Hp) : L2.St → SD → Prop := Paired (RepS K F)
section
variable {K : PySem.W.Frag} {F F' : Hp}
theorem RepS.ext (e : Ext F F') {x : Option V} {y : Option D} (h : RepS K F x y) : RepS K F' x y := by
  cases x <;> cases y <;> first | exact True.intro | exact h.elim | exact Rep.ext h e
theorem Slots.ext (e : Ext F F') : ∀ {σ : L2.St} {τ : SD}, Slots K F σ τ → Slots K F' σ τ
  | _, _, .nil => .nil
  | _, _, .cons r t => .cons (r.ext e) (Slots.ext e t)
theorem Slots.get : ∀ {σ : L2.St} {τ : SD} {i : Nat} {d : D}, Slots K F σ τ → τ[i]? = some (some d) → ∃ v, σ[i]? = some (some v) ∧ Rep K F v d
  | _, _, _, _, .nil, e => by simp at e
  | x :: _, _, 0, d, .cons r _, e => by
    simp at e; subst e
    cases x with
    | none => exact r.elim
    | some v => exact ⟨v, rfl, r⟩
  | _, _, i + 1, d, .cons _ t, e => by
    obtain ⟨v, h1, h2⟩ := Slots.get (i := i) (d := d) t (by simpa using e)
    exact ⟨v, by simpa using h1, h2⟩
theorem Slots.put {v : V} {d : D} (r : Rep K F v d) : ∀ {σ : L2.St} {τ : SD} (i : Nat), Slots K F σ τ → Slots K F (σ.set i (some v)) (τ.set i (some d))
  | _, _, _, .nil => .nil
  | _, _, 0, .cons _ t => .cons r t
  | _, _, i + 1, .cons q t => .cons q (Slots.put r i t)
theorem Slots.drop1 : ∀ {σ : L2.St} {τ : SD} (i : Nat), Slots K F σ τ → Slots K F (σ.set i none) (τ.set i none)
  | _, _, _, .nil => .nil
  | _, _, 0, .cons _ t => .cons True.intro t
  | _, _, i + 1, .cons q t => .cons q (Slots.drop1 i t)
end

/-- where a def's body began -/
structure Bs where
  F : Hp
  R : Hp
  T : List (Addr × Str)
structure Bas (b : Bs) (F R : Hp) : Prop where
  f : Ext b.F F
  r : Ext b.R R
  t : TabR b.T R
theorem Bas.trans {b : Bs} {F F2 R : Hp} (h : Bas b F R) (e : Ext F F2) : Bas b F2 R := ⟨h.f.trans e, h.r, h.t⟩
section
variable (K : PySem.W.Frag) (F0 : Bs)
/-- how what is wanted of a value carries over -/
def KE (F R : Hp) (Q' : QD) (Q : VK) : Prop := ∀ v H2 F2 d M2, Ext F F2 → Stt K F2 R H2 M2 → Rep K F2 v d → Q' d M2 → Q v H2
def liE (t : DE) : TE := fun σ H Q => ∃ F R τ M Q', Bas F0 F R ∧ Stt K F R H M ∧ Slots K F σ τ ∧ t τ M Q' ∧ KE K F R Q' Q
def KT (F R : Hp) (Q' : Bool → Mp → Prop) (Q : Bool → Hp → Prop) : Prop := ∀ b H2 F2 M2, Ext F F2 → Stt K F2 R H2 M2 → Q' b M2 → Q b H2
def liT (t : DT) : TT := fun σ H Q => ∃ F R τ M Q', Bas F0 F R ∧ Stt K F R H M ∧ Slots K F σ τ ∧ t τ M Q' ∧ KT K F R Q' Q
def KA (F R : Hp) (Q' : List D → Mp → Prop) (Q : List V → Hp → Prop) : Prop := ∀ vs H2 F2 ds M2, Ext F F2 → Stt K F2 R H2 M2 → RepAll K F2 vs ds → Q' ds M2 → Q vs H2
def liA (t : DA) : TA := fun σ H Q => ∃ F R τ M Q', Bas F0 F R ∧ Stt K F R H M ∧ Slots K F σ τ ∧ t τ M Q' ∧ KA K F R Q' Q
def KN (F R : Hp) (Q' : SD → Mp → Prop) (Q : L2.St → Hp → Prop) : Prop := ∀ σ2 H2 F2 τ2 M2, Ext F F2 → Stt K F2 R H2 M2 → Slots K F2 σ2 τ2 → Q' τ2 M2 → Q σ2 H2
structure KS (F R : Hp) (D' : EndsD) (D : Ends) : Prop where
  nx : KN K F R D'.nx D.nx
  rt : KE K F R D'.rt D.rt
  bk : KN K F R D'.bk D.bk
  ct : KN K F R D'.ct D.ct
def liS (t : DS) : TS := fun D σ H => ∃ F R τ M D', Bas F0 F R ∧ Stt K F R H M ∧ Slots K F σ τ ∧ t D' τ M ∧ KS K F R D' D
/-- values that are given: an operator's, a call's reading -/
def liR (r : D → D → Mp → QD → Prop) : R2 := fun x y H Q => ∃ F R M d e Q', Bas F0 F R ∧ Stt K F R H M ∧ Rep K F x d ∧ Rep K F y e ∧ r d e M Q' ∧ KE K F R Q' Q
def liU (r : D → Mp → QD → Prop) : V → Hp → VK → Prop := fun x H Q => ∃ F R M d Q', Bas F0 F R ∧ Stt K F R H M ∧ Rep K F x d ∧ r d M Q' ∧ KE K F R Q' Q
def liC (r : List D → Mp → QD → Prop) : List V → Hp → VK → Prop := fun xs H Q => ∃ F R M ds Q', Bas F0 F R ∧ Stt K F R H M ∧ RepAll K F xs ds ∧ r ds M Q' ∧ KE K F R Q' Q
def liM (r : D → List D → Mp → QD → Prop) : V → List V → Hp → VK → Prop := fun x xs H Q => ∃ F R M d ds Q', Bas F0 F R ∧ Stt K F R H M ∧ Rep K F x d ∧ RepAll K F xs ds ∧ r d ds M Q' ∧ KE K F R Q' Q
def liG (g : D → SD → Mp → (SD → Mp → Prop) → Prop) : TG := fun v σ H Q => ∃ F R τ M d Q', Bas F0 F R ∧ Stt K F R H M ∧ Slots K F σ τ ∧ Rep K F v d ∧ g d τ M Q' ∧ KN K F R Q' Q
end
section
variable {K : PySem.W.Frag} {F F2 R : Hp}
theorem KE.ext {Q' : QD} {Q : VK} (k : KE K F R Q' Q) (e : Ext F F2) : KE K F2 R Q' Q := fun v H2 F3 d M2 e2 => k v H2 F3 d M2 (e.trans e2)
theorem KT.ext {Q' : Bool → Mp → Prop} {Q : Bool → Hp → Prop} (k : KT K F R Q' Q) (e : Ext F F2) : KT K F2 R Q' Q := fun b H2 F3 M2 e2 => k b H2 F3 M2 (e.trans e2)
theorem KA.ext {Q' : List D → Mp → Prop} {Q : List V → Hp → Prop} (k : KA K F R Q' Q) (e : Ext F F2) : KA K F2 R Q' Q := fun b H2 F3 d M2 e2 => k b H2 F3 d M2 (e.trans e2)
theorem KN.ext {Q' : SD → Mp → Prop} {Q : L2.St → Hp → Prop} (k : KN K F R Q' Q) (e : Ext F F2) : KN K F2 R Q' Q := fun b H2 F3 d M2 e2 => k b H2 F3 d M2 (e.trans e2)
theorem KS.ext {D' : EndsD} {D : Ends} (k : KS K F R D' D) (e : Ext F F2) : KS K F2 R D' D := ⟨k.nx.ext e, k.rt.ext e, k.bk.ext e, k.ct.ext e⟩
end
/-- new at p, never changed again -/
theorem Stt.freeze {K : PySem.W.Frag} {F R H : Hp} {M : Mp} {p : Addr} {o : HO} (s : Stt K F R H M) (h : H p = none) (hx : NX o := by trivial) : Stt K (upd F p o) R (upd H p o) M ∧ Ext F (upd F p o) := by
  have fp : F p = none := by
    cases e : F p with
    | none => rfl
    | some u => rw [s.fz _ _ e] at h; cases h
  have ex : Ext F (upd F p o) := fun a u e => by rw [upd_ne (ne_of_none e fp)]; exact e
  have mp : ∀ a m, M a = some m → a ≠ p := fun a m e z => by
    subst z
    obtain ⟨_, u, e2, _⟩ := s.ow _ _ e
    rw [h] at e2; cases e2
  refine ⟨⟨fun a u e => ?_, fun a u e => ?_, fun a m e => ?_, fun a u e => ?_, s.nr⟩, ex⟩
  rotate_left 3
  · by_cases q : a = p
    · subst q; rw [upd_same] at e; cases e; exact hx
    · rw [upd_ne q] at e; exact s.nf a u e
  · by_cases q : a = p
    · subst q; rw [upd_same] at e ⊢; exact e
    · rw [upd_ne q] at e ⊢; exact s.fz _ _ e
  · obtain ⟨h1, h2, h3⟩ := s.rs _ _ e
    have q : a ≠ p := fun z => by subst z; exact h1.there h
    rw [upd_ne q]
    exact ⟨h1.step (fun b u n eb => by rw [upd_ne n]; exact eb) q (fun c z => by rw [h] at z; cases z), h2, h3⟩
  · obtain ⟨h1, u, h2, h3⟩ := s.ow _ _ e
    have q := mp _ _ e
    rw [upd_ne q, upd_ne q]
    exact ⟨h1, u, h2, h3.ext ex⟩
/-- new at p, to be changed in place -/
theorem Stt.own {K : PySem.W.Frag} {F R H : Hp} {M : Mp} {p : Addr} {o : HO} {m : MO} (s : Stt K F R H M) (h : H p = none) (r : RepO K F o m) : Stt K F R (upd H p o) (updM M p m) ∧ M p = none := by
  have fp : F p = none := by
    cases e : F p with
    | none => rfl
    | some u => rw [s.fz _ _ e] at h; cases h
  have mp : M p = none := by
    cases e : M p with
    | none => rfl
    | some u =>
      obtain ⟨_, u, e2, _⟩ := s.ow _ _ e
      rw [h] at e2; cases e2
  refine ⟨⟨fun a u e => ?_, fun a u e => ?_, fun a u e => ?_, s.nf, s.nr⟩, mp⟩
  · rw [upd_ne (ne_of_none e fp)]; exact s.fz _ _ e
  · obtain ⟨h1, h2, h3⟩ := s.rs _ _ e
    have q : a ≠ p := fun z => by subst z; exact h1.there h
    rw [updM_ne q]
    exact ⟨h1.step (fun b u n eb => by rw [upd_ne n]; exact eb) q (fun c z => by rw [h] at z; cases z), h2, h3⟩
  · by_cases q : a = p
    · subst q
      rw [updM_same] at e
      cases e
      exact ⟨fp, o, upd_same, r⟩
    · rw [updM_ne q] at e
      obtain ⟨h1, u, h2, h3⟩ := s.ow _ _ e
      exact ⟨h1, u, by rw [upd_ne q]; exact h2, h3⟩
/-- what stands at a is changed in place -/
theorem Stt.store {K : PySem.W.Frag} {F R H : Hp} {M : Mp} {a : Addr} {o : HO} {m m' : MO} (s : Stt K F R H M) (h : M a = some m) (hm : ∀ u, m ≠ .raw u) (r : RepO K F o m') : Stt K F R (upd H a o) (updM M a m') := by
  obtain ⟨fa, u, ha, ru⟩ := s.ow _ _ h
  have hn : ∀ q, H a ≠ some (LamX.CodeO a q) := fun q z => by
    rw [ha] at z
    cases z
    unfold LamX.CodeO at ru
    cases m with
    | raw v => exact hm v rfl
    | _ => exact ru
  refine ⟨fun b u e => ?_, fun b u e => ?_, fun b u e => ?_, s.nf, s.nr⟩
  · rw [upd_ne (ne_of_none e fa)]; exact s.fz _ _ e
  · obtain ⟨h1, h2, h3⟩ := s.rs _ _ e
    have q : b ≠ a := fun z => by subst z; rw [h] at h3; cases h3
    rw [updM_ne q]
    exact ⟨h1.step (fun c v n ec => by rw [upd_ne n]; exact ec) q hn, h2, h3⟩
  · by_cases q : b = a
    · subst q
      rw [updM_same] at e
      cases e
      exact ⟨fa, o, upd_same, r⟩
    · rw [updM_ne q] at e
      obtain ⟨h1, u, h2, h3⟩ := s.ow _ _ e
      exact ⟨h1, u, by rw [upd_ne q]; exact h2, h3⟩
/-- part of M is forgotten -/
theorem Stt.less {K : PySem.W.Frag} {F R H : Hp} {M M' : Mp} (s : Stt K F R H M) (h : ∀ a m, M' a = some m → M a = some m) : Stt K F R H M' :=
  ⟨s.fz, fun a o e => by
    obtain ⟨h1, h2, h3⟩ := s.rs a o e
    refine ⟨h1, h2, ?_⟩
    exact (match q : M' a with
      | none => rfl
      | some m => by rw [h _ _ q] at h3; cases h3), fun a m e => s.ow a m (h a m e), s.nf, s.nr⟩
/-- what was set aside is given up -/
theorem Stt.unset {K : PySem.W.Frag} {F R R' H : Hp} {M : Mp} (s : Stt K F R H M) (h : ∀ a o, R' a = some o → R a = some o) : Stt K F R' H M :=
  ⟨s.fz, fun a o e => s.rs a o (h a o e), s.ow, s.nf, fun a o e => s.nr a o (h a o e)⟩
/-- a part of M is set aside -/
theorem Stt.aside {K : PySem.W.Frag} {F R H : Hp} {M : Mp} {p : Addr} {o : HO} (s : Stt K F R H M) (h : RsOk H p o) (hf : F p = none) (hm : M p = none) (hx : NX o := by trivial) : Stt K F (upd R p o) H M :=
  ⟨s.fz, fun a u e => by
    exact if q : a = p then by subst q; rw [upd_same] at e; cases e; exact ⟨h, hf, hm⟩
      else by rw [upd_ne q] at e; exact s.rs a u e, s.ow, s.nf, fun a u e => if q : a = p then by subst q; rw [upd_same] at e; cases e; exact hx else by rw [upd_ne q] at e; exact s.nr a u e⟩
end DL

/-! DL, the rules: expressions -/
namespace DL
open PySem PySem.Spec PyProof.Rows L2

/-! ### readings are weakened -/
section
variable {X : Cx}
theorem peImp {e : Expr} {t t' : TE} (h : PE X e t) (k : ∀ σ H Q, t' σ H Q → t σ H Q) : PE X e t' := ⟨fun pins s σ H Q I q => h.run pins s σ H Q I (k _ _ _ q)⟩
theorem ptImp {e : Expr} {t t' : TT} (h : PT X e t) (k : ∀ σ H Q, t' σ H Q → t σ H Q) : PT X e t' := ⟨fun pins s σ H Q I q => h.run pins s σ H Q I (k _ _ _ q)⟩
theorem pwImp {e : Expr} {t t' : TT} (h : PW X e t) (k : ∀ σ H Q, t' σ H Q → t σ H Q) : PW X e t' := ⟨fun wh pins s σ H Q I q => h.run wh pins s σ H Q I (k _ _ _ q)⟩
theorem paImp {es : List Expr} {t t' : TA} (h : PA X es t) (k : ∀ σ H Q, t' σ H Q → t σ H Q) : PA X es t' := ⟨fun pos pins s σ H Q I q => h.run pos pins s σ H Q I (k _ _ _ q)⟩
theorem psImp {st : Stmt} {t t' : TS} (h : PS X st t) (k : ∀ D σ H, t' D σ H → t D σ H) : PS X st t' := ⟨fun pins s σ H D I q => h.run pins s σ H D I (k _ _ _ q)⟩
theorem pssImp {st : List Stmt} {t t' : TS} (h : PSs X st t) (k : ∀ D σ H, t' D σ H → t D σ H) : PSs X st t' := ⟨fun pins s σ H D I q => h.run pins s σ H D I (k _ _ _ q)⟩
theorem pgImp {e : Expr} {t t' : TG} (h : PG X e t) (k : ∀ v σ H Q, t' v σ H Q → t v σ H Q) : PG X e t' := ⟨fun pins s σ H v u Q I r q => h.run pins s σ H v u Q I r (k _ _ _ _ q)⟩
theorem opImp {f : Value → Value → Sem Value} {r r' : R2} (h : OpR X f r) (k : ∀ x y H Q, r' x y H Q → r x y H Q) : OpR X f r' := fun pins s σ H x y v u Q I rx ry q => h pins s σ H x y v u Q I rx ry (k _ _ _ _ q)
theorem unImp {f : Value → Sem Value} {r r' : V → Hp → VK → Prop} (h : UnR X f r) (k : ∀ x H Q, r' x H Q → r x H Q) : UnR X f r' := fun pins s σ H x v Q I rx q => h pins s σ H x v Q I rx (k _ _ _ q)
theorem caImp {f : Value} {r r' : List V → Hp → VK → Prop} (h : CallR X f r) (k : ∀ xs H Q, r' xs H Q → r xs H Q) : CallR X f r' := fun pins s σ H xs us Q I rx q => h pins s σ H xs us Q I rx (k _ _ _ q)
theorem ixImp {r r' : R2} (h : IxR X r) (k : ∀ x y H Q, r' x y H Q → r x y H Q) : IxR X r' := fun value slice pins s σ H x y v u Q I rx ry q => h value slice pins s σ H x y v u Q I rx ry (k _ _ _ _ q)
theorem mtImp {id : String} {r r' : V → List V → Hp → VK → Prop} (h : MtR X id r) (k : ∀ x xs H Q, r' x xs H Q → r x xs H Q) : MtR X id r' := fun pins s σ H x xs v us Q I rx rs q => h pins s σ H x xs v us Q I rx rs (k _ _ _ _ q)
end

/-- the items of a list; of a list or a tuple -/
def lsOf (M : Mp) : D → Option (List D)
  | .lst ds => some ds
  | .lsk ds => some ds
  | .ref a => match M a with
    | some (.lst ds) => some ds
    | _ => none
  | _ => none
/-- .. of a list that is tracked by itself -/
def ltOf (M : Mp) : D → Option (List D)
  | .lst ds => some ds
  | .ref a => match M a with
    | some (.lst ds) => some ds
    | _ => none
  | _ => none
def sqOf (M : Mp) : D → Option (List D)
  | .tup ds => some ds
  | .lst ds => some ds
  | .lsk ds => some ds
  | .ref a => match M a with
    | some (.lst ds) => some ds
    | _ => none
  | _ => none
theorem sqOf_cases {M : Mp} {d : D} {ds : List D} (h : sqOf M d = some ds) : d = .tup ds ∨ lsOf M d = some ds := by
  cases d with
  | tup es => exact .inl (congrArg D.tup (Option.some.inj h))
  | lst es => exact .inr h
  | lsk es => exact .inr h
  | ref a => exact .inr h
  | _ => cases h
section
variable {K : PySem.W.Frag} {F R H : Hp} {M : Mp}
theorem lt_get {x : V} {d : D} {ds : List D} (s : Stt K F R H M) (r : Rep K F x d) (h : ltOf M d = some ds) : ∃ a xs, x = .ref a ∧ H a = some (.lst xs) ∧ RepAll K F xs ds := by
  cases d with
  | lst es =>
    cases Option.some.inj h
    cases r with
    | lst hs ha => exact ⟨_, _, rfl, s.fz _ _ hs, ha⟩
  | ref a =>
    cases r
    have h' : (match M a with | some (.lst ds) => some ds | _ => none) = some ds := h
    split at h'
    · rename_i es e
      cases h'
      obtain ⟨_, o, ho, ro⟩ := s.ow _ _ e
      obtain ⟨xs, rfl, ra⟩ := ro.lst_iff
      exact ⟨a, xs, rfl, ho, ra⟩
    · cases h'
  | _ => cases h
theorem ls_get {x : V} {d : D} {ds : List D} (s : Stt K F R H M) (r : Rep K F x d) (h : lsOf M d = some ds) : ∃ a xs, x = .ref a ∧ SqL K H a xs ∧ RepAll K F xs ds := by
  cases d with
  | lst es =>
    cases Option.some.inj h
    cases r with
    | lst hs ha => exact ⟨_, _, rfl, .inl (.inl (s.fz _ _ hs)), ha⟩
  | lsk es =>
    cases Option.some.inj h
    cases r with
    | lsk hs ha => exact ⟨_, _, rfl, sqLMono s.fz hs, ha⟩
  | ref a =>
    cases r
    have h' : (match M a with | some (.lst ds) => some ds | _ => none) = some ds := h
    split at h'
    · rename_i es e
      cases h'
      obtain ⟨_, o, ho, ro⟩ := s.ow _ _ e
      obtain ⟨xs, rfl, ra⟩ := ro.lst_iff
      exact ⟨a, xs, rfl, .inl (.inl ho), ra⟩
    · cases h'
  | _ => cases h
theorem tp_get {x : V} {ds : List D} (s : Stt K F R H M) (r : Rep K F x (.tup ds)) : ∃ a xs, x = .ref a ∧ SqT K H a xs ∧ RepAll K F xs ds := by
  cases r with
  | tup hs ha => exact ⟨_, _, rfl, sqTMono s.fz hs, ha⟩
theorem sq_get {x : V} {d : D} {ds : List D} (s : Stt K F R H M) (r : Rep K F x d) (h : sqOf M d = some ds) : ∃ a xs, x = .ref a ∧ (SqL K H a xs ∨ SqT K H a xs) ∧ RepAll K F xs ds := by
  rcases sqOf_cases h with rfl | h
  · obtain ⟨a, xs, e, q, ra⟩ := tp_get s r
    exact ⟨a, xs, e, .inr q, ra⟩
  · obtain ⟨a, xs, e, q, ra⟩ := ls_get s r h
    exact ⟨a, xs, e, .inl q, ra⟩
/-- a new tuple, a new list: data from then on -/
theorem KE.tup {Q' : QD} {Q : VK} {xs : List V} {ds : List D} {p : Addr} (k : KE K F R Q' Q) (s : Stt K F R H M) (hp : H p = none) (r : RepAll K F xs ds) (q : Q' (.tup ds) M) : Q (.ref p) (upd H p (.tup xs)) := by
  obtain ⟨s2, e⟩ := s.freeze (o := .tup xs) hp
  exact k _ _ _ _ _ e s2 (.tup (.inl (.inl upd_same)) (r.ext e)) q
theorem KE.lst {Q' : QD} {Q : VK} {xs : List V} {ds : List D} {p : Addr} (k : KE K F R Q' Q) (s : Stt K F R H M) (hp : H p = none) (r : RepAll K F xs ds) (q : Q' (.lst ds) M) : Q (.ref p) (upd H p (.lst xs)) := by
  obtain ⟨s2, e⟩ := s.freeze (o := .lst xs) hp
  exact k _ _ _ _ _ e s2 (.lst upd_same (r.ext e)) q
theorem KE.own {Q' : QD} {Q : VK} {o : HO} {m : MO} {p : Addr} (k : KE K F R Q' Q) (s : Stt K F R H M) (hp : H p = none) (r : RepO K F o m) (q : M p = none → Q' (.ref p) (updM M p m)) : Q (.ref p) (upd H p o) := by
  obtain ⟨s2, mp⟩ := s.own hp r
  exact k _ _ _ _ _ Ext.refl s2 (.ref p) (q mp)
end

/-! ### names, constants -/
def dVar (i : Nat) : DE := fun τ M Q => match τ[i]? with
  | some (some d) => Q d M
  | _ => False
def dC (d : D) : DE := fun _ M Q => Q d M
section
variable {X : Cx} {F0 : Bs}
theorem pd_var {e : Expr} {i : Nat} (h : PE X e (tVar i)) : PE X e (liE X.K F0 (dVar i)) := by
  refine peImp h fun σ H Q ⟨F, R, τ, M, Q', e0, st, sl, q, k⟩ => ?_
  unfold dVar at q
  split at q
  · rename_i d ed
    obtain ⟨v, ev, r⟩ := sl.get ed
    exact ⟨v, ev, k _ _ _ _ _ Ext.refl st r q⟩
  · exact q.elim
theorem pd_c {e : Expr} {v : V} {d : D} (h : PE X e (tC v)) (r : ∀ F, Rep X.K F v d) : PE X e (liE X.K F0 (dC d)) :=
  peImp h fun σ H Q ⟨F, R, τ, M, Q', e0, st, sl, q, k⟩ => k _ _ _ _ _ Ext.refl st (r F) q
theorem pd_int {i j pos} : PE X (.Constant (.int i) j pos) (liE X.K F0 (dC (.int i))) := pd_c pe_int fun _ => .int i
theorem pd_bl {b j pos} : PE X (.Constant (.bool b) j pos) (liE X.K F0 (dC (.bl b))) := pd_c pe_bl fun _ => .bl b
theorem pd_non {j pos} : PE X (.Constant .none j pos) (liE X.K F0 (dC .non)) := pd_c pe_non fun _ => .non
theorem pd_str {x j pos} : PE X (.Constant (.str x) j pos) (liE X.K F0 (dC (.str x))) := pd_c pe_str fun _ => .str x
/-- the name in the i-th slot -/
theorem dv (i : Nat) {x : Str} {pos : Pos} (hN : X.N[i]? = some x := by rfl) (hv : Vis X.env.scope x := by first | exact Or.inl rfl | exact Or.inr (Or.inl rfl) | exact Or.inr (Or.inr rfl)) (hd : (x == ("__debug__" : Str)) = false := by decide)
    (hcd : (x == ("__classdict__" : Str)) = false := by decide) : PE X (.Name x pos) (liE X.K F0 (dVar i)) := pd_var (pe_var hN hv hd hcd)
/-- a module's constant -/
theorem pd_glob {x : Str} {v : V} {d : D} {u : Value} {pos : Pos} (hg : Gl X x) (hm : X.mg x = some u) (r : RelV v u) (rd : ∀ F, Rep X.K F v d) (hd : (x == ("__debug__" : Str)) = false := by decide) : PE X (.Name x pos) (liE X.K F0 (dC d)) := pd_c (pe_glob hg hm r hd) rd
theorem pd_bltn {x : Str} {v : V} {d : D} {u : Value} {pos : Pos} (hg : Gl X x) (hm : X.mg x = none) (hv : bootBuiltins x = some u) (r : RelV v u) (rd : ∀ F, Rep X.K F v d) (hn : x ≠ "__name__" := by decide) (hd : (x == ("__debug__" : Str)) = false := by decide) : PE X (.Name x pos) (liE X.K F0 (dC d)) := pd_c (pe_bltn hg hm hv r hn hd) rd
end

/-! ### two places -/
abbrev R2D := D → D → Mp → QD → Prop
def dOp (r : R2D) (ta tb : DE) : DE := fun τ M Q => ta τ M fun x M1 => tb τ M1 fun y M2 => r x y M2 Q
def dUn (r : D → Mp → QD → Prop) (ta : DE) : DE := fun τ M Q => ta τ M fun x M1 => r x M1 Q
theorem li_op {K : PySem.W.Frag} {F0 : Bs} {r : R2D} {ta tb : DE} {σ : L2.St} {H : Hp} {Q : VK} (h : liE K F0 (dOp r ta tb) σ H Q) : tOp (liR K F0 r) (liE K F0 ta) (liE K F0 tb) σ H Q := by
  obtain ⟨F, R, τ, M, Q', e0, st, sl, q, k⟩ := h
  refine ⟨F, R, τ, M, _, e0, st, sl, q, fun v H1 F1 d M1 e1 st1 r1 q1 => ?_⟩
  refine ⟨F1, R, τ, M1, _, e0.trans e1, st1, sl.ext e1, q1, fun u H2 F2 d2 M2 e2 st2 r2 q2 => ?_⟩
  exact ⟨F2, R, M2, d, d2, Q', e0.trans (e1.trans e2), st2, r1.ext e2, r2, q2, k.ext (e1.trans e2)⟩
theorem li_un {K : PySem.W.Frag} {F0 : Bs} {r : D → Mp → QD → Prop} {ta : DE} {σ : L2.St} {H : Hp} {Q : VK} (h : liE K F0 (dUn r ta) σ H Q) : tUn (liU K F0 r) (liE K F0 ta) σ H Q := by
  obtain ⟨F, R, τ, M, Q', e0, st, sl, q, k⟩ := h
  refine ⟨F, R, τ, M, _, e0, st, sl, q, fun v H1 F1 d M1 e1 st1 r1 q1 => ?_⟩
  exact ⟨F1, R, M1, d, Q', e0.trans e1, st1, r1, q1, k.ext e1⟩
section
variable {X : Cx} {F0 : Bs} {a b c : Expr} {ta tb tc : DE} {pos : Pos}
abbrev OpD (X : Cx) (F0 : Bs) (f : Value → Value → Sem Value) (r : R2D) : Prop := OpR X f (liR X.K F0 r)
theorem pd_op {op : Operator} {r : R2D} (ho : OpD X F0 (binaryOp op) r) (ha : PE X a (liE X.K F0 ta)) (hb : PE X b (liE X.K F0 tb)) : PE X (.BinOp a op b pos) (liE X.K F0 (dOp r ta tb)) :=
  peImp (pe_op ho ha hb) fun _ _ _ => li_op
theorem pd_un {op : UnaryOp} {r : D → Mp → QD → Prop} (ho : UnR X (unaryOp op) (liU X.K F0 r)) (ha : PE X a (liE X.K F0 ta)) : PE X (.UnaryOp op a pos) (liE X.K F0 (dUn r ta)) :=
  peImp (pe_un ho ha) fun _ _ _ => li_un
theorem pd_cmp {op : CmpOp} {r : R2D} (ho : OpD X F0 (compareOp op) r) (ha : PE X a (liE X.K F0 ta)) (hb : PE X b (liE X.K F0 tb)) (hm : behindInMarks op b = false) : PE X (.Compare a [op] [b] pos) (liE X.K F0 (dOp r ta tb)) :=
  peImp (pe_cmpR ho ha hb hm) fun _ _ _ => li_op
/-- a value as a test -/
def dTest (t : DE) : DT := fun τ M Q => t τ M fun d M1 => match d with
  | .bl k => Q k M1
  | _ => False
theorem li_test {K : PySem.W.Frag} {t : DE} {t0 : TE} (h0 : ∀ σ H Q, liE K F0 t σ H Q → t0 σ H Q) {σ : L2.St} {H : Hp} {Q : Bool → Hp → Prop} (h : liT K F0 (dTest t) σ H Q) : tTest t0 σ H Q := by
  obtain ⟨F, R, τ, M, Q', e0, st, sl, q, k⟩ := h
  refine h0 _ _ _ ⟨F, R, τ, M, _, e0, st, sl, q, fun v H1 F1 d M1 e1 st1 r1 q1 => ?_⟩
  cases d with
  | bl b => cases r1; exact ⟨b, rfl, k _ _ _ _ e1 st1 q1⟩
  | _ => exact q1.elim
theorem td_cmp {op : CmpOp} {r : R2D} (ho : OpD X F0 (compareOp op) r) (ha : PE X a (liE X.K F0 ta)) (hb : PE X b (liE X.K F0 tb)) (hm : behindInMarks op b = false) : PT X (.Compare a [op] [b] pos) (liT X.K F0 (dTest (dOp r ta tb))) :=
  ptImp (pt_cmpR ho ha hb hm) fun _ _ _ => li_test fun _ _ _ => li_op
def dChain (r r' : R2D) (ta tb tc : DE) : DE := fun τ M Q => ta τ M fun x M1 => tb τ M1 fun y M2 => r x y M2 fun z M3 => match z with
  | .bl true => tc τ M3 fun w M4 => r' y w M4 Q
  | .bl false => Q (.bl false) M3
  | _ => False
theorem li_chain {K : PySem.W.Frag} {r r' : R2D} {σ : L2.St} {H : Hp} {Q : VK} (h : liE K F0 (dChain r r' ta tb tc) σ H Q) : tChain (liR K F0 r) (liR K F0 r') (liE K F0 ta) (liE K F0 tb) (liE K F0 tc) σ H Q := by
  obtain ⟨F, R, τ, M, Q', e0, st, sl, q, k⟩ := h
  refine ⟨F, R, τ, M, _, e0, st, sl, q, fun v H1 F1 d M1 e1 st1 r1 q1 => ?_⟩
  refine ⟨F1, R, τ, M1, _, e0.trans e1, st1, sl.ext e1, q1, fun u H2 F2 d2 M2 e2 st2 r2 q2 => ?_⟩
  refine ⟨F2, R, M2, d, d2, _, e0.trans (e1.trans e2), st2, r1.ext e2, r2, q2, fun z H3 F3 dz M3 e3 st3 r3 q3 => ?_⟩
  cases dz with
  | bl b =>
    cases r3
    cases b with
    | true =>
      refine ⟨true, rfl, ?_⟩
      rw [if_pos rfl]
      refine ⟨F3, R, τ, M3, _, e0.trans (e1.trans (e2.trans e3)), st3, sl.ext (e1.trans (e2.trans e3)), q3, fun z2 H4 F4 d4 M4 e4 st4 r4 q4 => ?_⟩
      exact ⟨F4, R, M4, d2, d4, Q', e0.trans (e1.trans (e2.trans (e3.trans e4))), st4, r2.ext (e3.trans e4), r4, q4, k.ext (e1.trans (e2.trans (e3.trans e4)))⟩
    | false => exact ⟨false, rfl, by rw [if_neg Bool.false_ne_true]; exact k _ _ _ _ _ (e1.trans (e2.trans e3)) st3 (.bl false) q3⟩
  | _ => exact q3.elim
theorem pd_chain {op op' : CmpOp} {r r' : R2D} (ho : OpD X F0 (compareOp op) r) (ho' : OpD X F0 (compareOp op') r') (ha : PE X a (liE X.K F0 ta)) (hb : PE X b (liE X.K F0 tb)) (hc : PE X c (liE X.K F0 tc))
    (hm : lastMarks [op, op'] [b, c] = false := by with_unfolding_all rfl) : PE X (.Compare a [op, op'] [b, c] pos) (liE X.K F0 (dChain r r' ta tb tc)) :=
  peImp (pe_chain ho ho' ha hb hc hm) fun _ _ _ => li_chain
theorem td_chain {op op' : CmpOp} {r r' : R2D} (ho : OpD X F0 (compareOp op) r) (ho' : OpD X F0 (compareOp op') r') (ha : PE X a (liE X.K F0 ta)) (hb : PE X b (liE X.K F0 tb)) (hc : PE X c (liE X.K F0 tc))
    (hm : lastMarks [op, op'] [b, c] = false := by with_unfolding_all rfl) : PT X (.Compare a [op, op'] [b, c] pos) (liT X.K F0 (dTest (dChain r r' ta tb tc))) :=
  ptImp (pt_chain ho ho' ha hb hc hm) fun _ _ _ => li_test fun _ _ _ => li_chain
end

/-! ### a value's truth -/
def dTru (d : D) (M : Mp) (Q : Bool → Mp → Prop) : Prop := match d with
  | .non => Q false M
  | .bl b => Q b M
  | .int i => Q (i != 0) M
  | .str x => x.length ≤ sizeLine ∧ Q ((x.length : Int) != 0) M
  | .tup ds => Q (!ds.isEmpty) M
  | .lst ds => Q (!ds.isEmpty) M
  | .lsk ds => Q (!ds.isEmpty) M
  | .ref a => match M a with
    | some (.lst ds) => Q (!ds.isEmpty) M
    | some (.dK kvs) => Q (!kvs.isEmpty) M
    | _ => False
  | _ => False
theorem RepAll.emp {K : PySem.W.Frag} {F : Hp} {xs : List V} {ds : List D} (r : RepAll K F xs ds) : ds.isEmpty = xs.isEmpty := by cases r <;> rfl
theorem RepKV.emp {K : PySem.W.Frag} {F : Hp} {κ : Type} {xs : List (κ × V)} {ds : List (κ × D)} (r : RepKV K F xs ds) : ds.isEmpty = xs.isEmpty := by cases r <;> rfl
theorem tru_get {K : PySem.W.Frag} {F R H : Hp} {M : Mp} {x : V} {d : D} {Q' : Bool → Mp → Prop} {Q : Bool → Hp → Prop} (s : Stt K F R H M) (r : Rep K F x d) (h : dTru d M Q') (k : KT K F R Q' Q) : ∃ b, TruV K x H b ∧ Q b H := by
  cases d with
  | non => cases r; exact ⟨false, rfl, k _ _ _ _ Ext.refl s h⟩
  | bl b => cases r; exact ⟨b, rfl, k _ _ _ _ Ext.refl s h⟩
  | int i => cases r; exact ⟨_, rfl, k _ _ _ _ Ext.refl s h⟩
  | str x => cases r; exact ⟨_, ⟨h.1, rfl⟩, k _ _ _ _ Ext.refl s h.2⟩
  | tup ds =>
    obtain ⟨a, xs, rfl, q, ra⟩ := tp_get s r
    have h : Q' (!ds.isEmpty) M := h
    rw [ra.emp] at h
    exact ⟨_, .inr (.inl ⟨xs, q, rfl⟩), k _ _ _ _ Ext.refl s h⟩
  | lst ds =>
    obtain ⟨a, xs, rfl, q, ra⟩ := ls_get (M := M) (ds := ds) s r rfl
    have h : Q' (!ds.isEmpty) M := h
    rw [ra.emp] at h
    exact ⟨_, .inl ⟨xs, q, rfl⟩, k _ _ _ _ Ext.refl s h⟩
  | lsk ds =>
    obtain ⟨a, xs, rfl, q, ra⟩ := ls_get (M := M) (ds := ds) s r rfl
    have h : Q' (!ds.isEmpty) M := h
    rw [ra.emp] at h
    exact ⟨_, .inl ⟨xs, q, rfl⟩, k _ _ _ _ Ext.refl s h⟩
  | ref a =>
    have h : (match M a with
      | some (.lst ds) => Q' (!ds.isEmpty) M
      | some (.dK kvs) => Q' (!kvs.isEmpty) M
      | _ => False) := h
    cases r
    split at h
    · rename_i ds e
      obtain ⟨_, o, ho, ro⟩ := s.ow _ _ e
      obtain ⟨xs, rfl, ra⟩ := ro.lst_iff
      rw [ra.emp] at h
      exact ⟨_, .inl ⟨xs, .inl (.inl ho), rfl⟩, k _ _ _ _ Ext.refl s h⟩
    · rename_i kvs e
      obtain ⟨_, o, ho, ro⟩ := s.ow _ _ e
      cases o <;> try exact ro.elim
      rename_i kvs'
      have ra : RepKV K F kvs' kvs := ro
      rw [ra.emp] at h
      exact ⟨_, .inr (.inr ⟨kvs', ho, rfl⟩), k _ _ _ _ Ext.refl s h⟩
    · exact h.elim
  | ty n => exact h.elim
  | fn a G => exact h.elim
def dTruth (t : DE) : DT := fun τ M Q => t τ M fun d M1 => dTru d M1 Q
section
variable {X : Cx} {F0 : Bs} {a b c : Expr} {ta tb tc : DE} {rest : List Expr} {pos : Pos}
theorem td_tru (ha : PE X a (liE X.K F0 ta)) (he : ∀ whole, isTrue a X.env whole = (do let v ← whole; standAt a.pos; holding [v] (truthy v)) := by intro _; rfl) : PT X a (liT X.K F0 (dTruth ta)) := by
  refine ptImp (pt_truth ha he) fun σ H Q ⟨F, R, τ, M, Q', e0, st, sl, q, k⟩ => ?_
  exact ⟨F, R, τ, M, _, e0, st, sl, q, fun v H1 F1 d M1 e1 st1 r1 q1 => tru_get st1 r1 q1 (k.ext e1)⟩
/-- x or y, x and y, not x as values -/
def dOr (ta tb : DE) : DE := fun τ M Q => ta τ M fun x M1 => dTru x M1 fun k M2 => if k = true then Q x M2 else tb τ M2 Q
def dAnd (ta tb : DE) : DE := fun τ M Q => ta τ M fun x M1 => dTru x M1 fun k M2 => if k = true then tb τ M2 Q else Q x M2
def dNot (ta : DE) : DE := fun τ M Q => ta τ M fun x M1 => dTru x M1 fun k M2 => Q (.bl (!k)) M2
/-- the truth of a value leaves everything -/
theorem dTru_pure {d : D} {M : Mp} {Q : Bool → Mp → Prop} (h : dTru d M Q) : ∃ b, Q b M ∧ ∀ Q2 : Bool → Mp → Prop, Q2 b M → dTru d M Q2 := by
  cases d with
  | non => exact ⟨_, h, fun _ z => z⟩
  | bl b => exact ⟨_, h, fun _ z => z⟩
  | int b => exact ⟨_, h, fun _ z => z⟩
  | str b => exact ⟨_, h.2, fun _ z => ⟨h.1, z⟩⟩
  | tup ds => exact ⟨_, h, fun _ z => z⟩
  | lst ds => exact ⟨_, h, fun _ z => z⟩
  | lsk ds => exact ⟨_, h, fun _ z => z⟩
  | ty n => exact h.elim
  | fn a G => exact h.elim
  | ref a =>
    have h : (match M a with
      | some (.lst ds) => Q (!ds.isEmpty) M
      | some (.dK kvs) => Q (!kvs.isEmpty) M
      | _ => False) := h
    show ∃ b, Q b M ∧ ∀ Q2 : Bool → Mp → Prop, Q2 b M → (match M a with
      | some (.lst ds) => Q2 (!ds.isEmpty) M
      | some (.dK kvs) => Q2 (!kvs.isEmpty) M
      | _ => False)
    split at h
    · exact ⟨_, h, fun Q2 z => z⟩
    · exact ⟨_, h, fun Q2 z => z⟩
    · exact h.elim
theorem tru_get2 {K : PySem.W.Frag} {F R H : Hp} {M : Mp} {x : V} {d : D} {Q' : Bool → Mp → Prop} (s : Stt K F R H M) (r : Rep K F x d) (h : dTru d M Q') : ∃ b, TruV K x H b ∧ Q' b M := by
  obtain ⟨b, q, h2⟩ := dTru_pure h
  have h3 := h2 (fun c M2 => c = b ∧ M2 = M) ⟨rfl, rfl⟩
  obtain ⟨c, t, e⟩ := tru_get (Q := fun c H2 => c = b) s r h3 fun c H2 F2 M2 _ _ z => z.1
  subst e
  exact ⟨c, t, q⟩
theorem pd_or (ha : PE X a (liE X.K F0 ta)) (hb : PE X (.BoolOp .Or (b :: rest) pos) (liE X.K F0 tb)) : PE X (.BoolOp .Or (a :: b :: rest) pos) (liE X.K F0 (dOr ta tb)) := by
  refine peImp (pe_orT ha hb) fun σ H Q ⟨F, R, τ, M, Q', e0, st, sl, q, k⟩ => ?_
  refine ⟨F, R, τ, M, _, e0, st, sl, q, fun v H1 F1 d M1 e1 st1 r1 q1 => ?_⟩
  obtain ⟨b, t, q2⟩ := tru_get2 st1 r1 q1
  refine ⟨b, t, ?_⟩
  cases b with
  | true => rw [if_pos rfl] at q2 ⊢; exact k _ _ _ _ _ e1 st1 r1 q2
  | false =>
    rw [if_neg Bool.false_ne_true] at q2 ⊢
    exact ⟨F1, R, τ, M1, _, e0.trans e1, st1, sl.ext e1, q2, k.ext e1⟩
theorem pd_and (ha : PE X a (liE X.K F0 ta)) (hb : PE X (.BoolOp .And (b :: rest) pos) (liE X.K F0 tb)) : PE X (.BoolOp .And (a :: b :: rest) pos) (liE X.K F0 (dAnd ta tb)) := by
  refine peImp (pe_andT ha hb) fun σ H Q ⟨F, R, τ, M, Q', e0, st, sl, q, k⟩ => ?_
  refine ⟨F, R, τ, M, _, e0, st, sl, q, fun v H1 F1 d M1 e1 st1 r1 q1 => ?_⟩
  obtain ⟨b, t, q2⟩ := tru_get2 st1 r1 q1
  refine ⟨b, t, ?_⟩
  cases b with
  | false => rw [if_neg Bool.false_ne_true] at q2 ⊢; exact k _ _ _ _ _ e1 st1 r1 q2
  | true =>
    rw [if_pos rfl] at q2 ⊢
    exact ⟨F1, R, τ, M1, _, e0.trans e1, st1, sl.ext e1, q2, k.ext e1⟩
theorem pd_one {op} (ha : PE X a (liE X.K F0 ta)) : PE X (.BoolOp op [a] pos) (liE X.K F0 ta) := pe_one ha
theorem pd_not (ha : PE X a (liE X.K F0 ta)) : PE X (.UnaryOp .Not a pos) (liE X.K F0 (dNot ta)) := by
  refine peImp (pe_notT ha) fun σ H Q ⟨F, R, τ, M, Q', e0, st, sl, q, k⟩ => ?_
  refine ⟨F, R, τ, M, _, e0, st, sl, q, fun v H1 F1 d M1 e1 st1 r1 q1 => ?_⟩
  obtain ⟨b, t, q2⟩ := tru_get2 st1 r1 q1
  exact ⟨b, t, k _ _ _ _ _ e1 st1 (.bl _) q2⟩
/-- tests: and, or, not -/
def dTAnd (t u : DT) : DT := fun τ M Q => t τ M fun c M1 => if c = true then u τ M1 Q else Q false M1
def dTOr (t u : DT) : DT := fun τ M Q => t τ M fun c M1 => if c = true then Q true M1 else u τ M1 Q
def dTNot (t : DT) : DT := fun τ M Q => t τ M fun c M1 => Q (!c) M1
variable {tA tB' : DT}
theorem wd_and1 (ha : PT X a (liT X.K F0 tA)) : PW X (.BoolOp .And [a] pos) (liT X.K F0 tA) := pw_and1 ha
theorem wd_or1 (ha : PT X a (liT X.K F0 tA)) : PW X (.BoolOp .Or [a] pos) (liT X.K F0 tA) := pw_or1 ha
theorem wd_and (ha : PT X a (liT X.K F0 tA)) (hb : PW X (.BoolOp .And (b :: rest) pos) (liT X.K F0 tB')) : PW X (.BoolOp .And (a :: b :: rest) pos) (liT X.K F0 (dTAnd tA tB')) := by
  refine pwImp (pw_and ha hb) fun σ H Q ⟨F, R, τ, M, Q', e0, st, sl, q, k⟩ => ?_
  refine ⟨F, R, τ, M, _, e0, st, sl, q, fun b H1 F1 M1 e1 st1 q1 => ?_⟩
  cases b with
  | true => rw [if_pos rfl] at q1 ⊢; exact ⟨F1, R, τ, M1, _, e0.trans e1, st1, sl.ext e1, q1, k.ext e1⟩
  | false => rw [if_neg Bool.false_ne_true] at q1 ⊢; exact k _ _ _ _ e1 st1 q1
theorem wd_or (ha : PT X a (liT X.K F0 tA)) (hb : PW X (.BoolOp .Or (b :: rest) pos) (liT X.K F0 tB')) : PW X (.BoolOp .Or (a :: b :: rest) pos) (liT X.K F0 (dTOr tA tB')) := by
  refine pwImp (pw_or ha hb) fun σ H Q ⟨F, R, τ, M, Q', e0, st, sl, q, k⟩ => ?_
  refine ⟨F, R, τ, M, _, e0, st, sl, q, fun b H1 F1 M1 e1 st1 q1 => ?_⟩
  cases b with
  | false => rw [if_neg Bool.false_ne_true] at q1 ⊢; exact ⟨F1, R, τ, M1, _, e0.trans e1, st1, sl.ext e1, q1, k.ext e1⟩
  | true => rw [if_pos rfl] at q1 ⊢; exact k _ _ _ _ e1 st1 q1
theorem td_not (ha : PT X a (liT X.K F0 tA)) : PT X (.UnaryOp .Not a pos) (liT X.K F0 (dTNot tA)) :=
  ptImp (pt_not ha) fun σ H Q ⟨F, R, τ, M, Q', e0, st, sl, q, k⟩ => ⟨F, R, τ, M, _, e0, st, sl, q, fun b H1 F1 M1 e1 st1 q1 => k _ _ _ _ e1 st1 q1⟩
/-- a if t else b -/
def dIf (t : DT) (ta tb : DE) : DE := fun τ M Q => t τ M fun c M1 => if c = true then ta τ M1 Q else tb τ M1 Q
theorem pd_if (hc : PT X c (liT X.K F0 tA)) (ha : PE X a (liE X.K F0 ta)) (hb : PE X b (liE X.K F0 tb)) : PE X (.IfExp c a b pos) (liE X.K F0 (dIf tA ta tb)) := by
  refine peImp (pe_ifExp hc ha hb) fun σ H Q ⟨F, R, τ, M, Q', e0, st, sl, q, k⟩ => ?_
  refine ⟨F, R, τ, M, _, e0, st, sl, q, fun b H1 F1 M1 e1 st1 q1 => ?_⟩
  cases b with
  | true => rw [if_pos rfl] at q1 ⊢; exact ⟨F1, R, τ, M1, _, e0.trans e1, st1, sl.ext e1, q1, k.ext e1⟩
  | false => rw [if_neg Bool.false_ne_true] at q1 ⊢; exact ⟨F1, R, τ, M1, _, e0.trans e1, st1, sl.ext e1, q1, k.ext e1⟩
end
end DL

/-! DL, the rules: operators, displays, subscripts -/
namespace DL
open PySem PySem.Spec PyProof.Rows L2

/-! ### ints -/
def dI (C : Int → Int → Prop) (g : Int → Int → Int) : R2D := fun x y M Q => match x, y with
  | .int i, .int j => C i j ∧ Q (.int (g i j)) M
  | _, _ => False
def dI0 (g : Int → Int → Int) : R2D := fun x y M Q => match x, y with
  | .int i, .int j => Q (.int (g i j)) M
  | _, _ => False
def dB0 (g : Int → Int → Bool) : R2D := fun x y M Q => match x, y with
  | .int i, .int j => Q (.bl (g i j)) M
  | _, _ => False
section
variable {X : Cx} {F0 : Bs} {f : Value → Value → Sem Value}
theorem od_I {C : Int → Int → Prop} {g : Int → Int → Int} (h : OpR X f (rI C fun i j => .int (g i j))) : OpD X F0 f (dI C g) := by
  refine opImp h fun x y H Q ⟨F, R, M, d, e, Q', e0, st, rx, ry, q, k⟩ => ?_
  cases d <;> try exact q.elim
  cases e <;> try exact q.elim
  cases rx; cases ry
  exact ⟨_, _, rfl, rfl, q.1, k _ _ _ _ _ Ext.refl st (.int _) q.2⟩
theorem od_I0 {g : Int → Int → Int} (h : OpR X f (rI0 fun i j => .int (g i j))) : OpD X F0 f (dI0 g) := by
  refine opImp h fun x y H Q ⟨F, R, M, d, e, Q', e0, st, rx, ry, q, k⟩ => ?_
  cases d <;> try exact q.elim
  cases e <;> try exact q.elim
  cases rx; cases ry
  exact ⟨_, _, rfl, rfl, k _ _ _ _ _ Ext.refl st (.int _) q⟩
theorem od_B0 {g : Int → Int → Bool} (h : OpR X f (rI0 fun i j => .bl (g i j))) : OpD X F0 f (dB0 g) := by
  refine opImp h fun x y H Q ⟨F, R, M, d, e, Q', e0, st, rx, ry, q, k⟩ => ?_
  cases d <;> try exact q.elim
  cases e <;> try exact q.elim
  cases rx; cases ry
  exact ⟨_, _, rfl, rfl, k _ _ _ _ _ Ext.refl st (.bl _) q⟩
abbrev dSub : R2D := dI0 fun i j => i - j
abbrev dFdiv : R2D := dI CDivW fun i j => i / j
abbrev dMod : R2D := dI (fun _ j => 0 < j) fun i j => i % j
abbrev dPow : R2D := dI CPow fun i j => i ^ j.toNat
abbrev dLt : R2D := dB0 fun i j => decide (i < j)
abbrev dLe : R2D := dB0 fun i j => decide (i ≤ j)
abbrev dGt : R2D := dB0 fun i j => decide (j < i)
abbrev dGe : R2D := dB0 fun i j => decide (j ≤ i)
theorem od_sub : OpD X F0 (binaryOp .Sub) dSub := od_I0 op_sub
theorem od_fdiv : OpD X F0 (binaryOp .FloorDiv) dFdiv := od_I op_fdivW
theorem od_mod : OpD X F0 (binaryOp .Mod) dMod := od_I op_mod
theorem od_pow : OpD X F0 (binaryOp .Pow) dPow := od_I op_pow
theorem od_lt : OpD X F0 (compareOp .Lt) dLt := od_B0 op_lt
theorem od_le : OpD X F0 (compareOp .LtE) dLe := od_B0 op_le
theorem od_gt : OpD X F0 (compareOp .Gt) dGt := od_B0 op_gt
theorem od_ge : OpD X F0 (compareOp .GtE) dGe := od_B0 op_ge
def dNeg : D → Mp → QD → Prop := fun x M Q => match x with
  | .int i => Q (.int (-i)) M
  | _ => False
theorem ud_neg : UnR X (unaryOp .USub) (liU X.K F0 dNeg) := by
  refine unImp un_neg fun x H Q ⟨F, R, M, d, Q', e0, st, rx, q, k⟩ => ?_
  cases d <;> try exact q.elim
  cases rx
  exact ⟨_, rfl, k _ _ _ _ _ Ext.refl st (.int _) q⟩

/-- + of ints, texts, tuples, lists (a new list) -/
def dAdd : R2D := fun x y M Q => match x, y with
  | .int i, .int j => Q (.int (i + j)) M
  | .str a, .str b => a.length + b.length ≤ sizeLine ∧ Q (.str (a ++ b)) M
  | .tup xs, .tup ys => xs.length + ys.length ≤ sizeLine ∧ Q (.tup (xs ++ ys)) M
  | x, y => match ltOf M x, ltOf M y with
    | some xs, some ys => xs.length + ys.length ≤ sizeLine ∧ Q (.lst (xs ++ ys)) M
    | _, _ => False
theorem od_add : OpD X F0 (binaryOp .Add) dAdd := by
  intro pins s σ H x y v u Q I rx ry ⟨F, R, M, d, e, Q', e0, st, rd, re, q, k⟩
  unfold dAdd at q
  split at q
  · cases rd; cases re
    exact op_add pins s σ H _ _ v u Q I rx ry ⟨_, _, rfl, rfl, k _ _ _ _ _ Ext.refl st (.int _) q⟩
  · cases rd; cases re
    exact op_add_str pins s σ H _ _ v u Q I rx ry ⟨_, _, rfl, rfl, q.1, k _ _ _ _ _ Ext.refl st (.str _) q.2⟩
  · rename_i xs ys
    have rd0 := rd
    have re0 := re
    obtain ⟨a, vs, rfl, h1, ra⟩ := tp_get st rd
    obtain ⟨b, us, rfl, h2, rb⟩ := tp_get st re
    refine op_catA pins s σ H _ _ v u Q I rx ry ⟨a, b, vs, us, rfl, rfl, h1, h2, by rw [ra.len, rb.len]; exact q.1, fun z => ?_, fun _ z => ?_, fun _ _ p hp => k.tup st hp (ra.app rb) q.2⟩
    · subst z
      cases ra
      exact k _ _ _ _ _ Ext.refl st re0 q.2
    · subst z
      cases rb
      have q2 := q.2
      rw [List.append_nil] at q2
      exact k _ _ _ _ _ Ext.refl st rd0 q2
  · split at q
    · rename_i xs ys h1 h2
      obtain ⟨a, vs, rfl, g1, ra⟩ := lt_get st rd h1
      obtain ⟨b, us, rfl, g2, rb⟩ := lt_get st re h2
      exact op_cat pins s σ H _ _ v u Q I rx ry ⟨a, b, vs, us, rfl, rfl, g1, g2, by rw [ra.len, rb.len]; exact q.1, fun p hp => k.lst st hp (ra.app rb) q.2⟩
    · exact q.elim
/-- a tuple, a few times -/
theorem op_repN : OpR X (binaryOp .Mult) (fun x y H Q => ∃ l k xs, x = .ref l ∧ y = .int k ∧ SqT X.K H l xs ∧ xs ≠ [] ∧ 2 ≤ k ∧ xs.length * k.toNat ≤ 1000000 ∧ ∀ p, H p = none → Q (.ref p) (upd H p (.tup (List.replicate k.toNat xs).flatten))) := by
  intro pins s σ H x y v u Q I rx ry h
  obtain ⟨l, k, xs, rfl, rfl, hT, hne, h1, hz, q⟩ := h
  cases rx
  obtain ⟨t, rfl⟩ := ry
  obtain ⟨its, r, ⟨⟨cls, dd, data, sl⟩, ho, hc, n, hd⟩, hs⟩ := I.tuple hT
  simp only at hc hd
  subst hc hd
  have hle : its.length = xs.length := r.length.symm
  have hn : its ≠ [] := fun e => hne (List.eq_nil_of_length_eq_zero (by rw [← hle, e]; rfl))
  have hpos : 1 ≤ xs.length := by
    cases xs with
    | nil => exact absurd rfl hne
    | cons a b => simp
  have hk : k.toNat ≤ 1000000 := Nat.le_trans (Nat.le_mul_of_pos_left k.toNat hpos) hz
  have hi : its.toArray.isEmpty = false := by
    cases its with
    | nil => exact absurd rfl hn
    | cons a b => rfl
  have hk2 : ((k.toNat : Nat) : Int) = k := Int.toNat_of_nonneg (by omega)
  have hm : ((its.toArray.size : Nat) : Int) * k ≤ 1000000 := by
    have z : ((xs.length * k.toNat : Nat) : Int) ≤ ((1000000 : Nat) : Int) := Int.ofNat_le.mpr hz
    rw [Int.natCast_mul, hk2] at z
    rw [List.size_toArray, hle]
    exact z
  have flen : (List.replicate k.toNat its).flatten.length ≤ sizeLine := by
    rw [PyProof.Rows.lm_len_rep_flat, hle, sizeLine_eq, Nat.mul_comm]
    omega
  have c4 : Builtin.Tuple.tupleTooMany (((its.toArray.size : Nat) : Int) * k) = false := by
    unfold Builtin.Tuple.tupleTooMany
    rw [sizeLine_eq]
    exact decide_eq_false (by omega)
  refine wpAny_binaryOp_repeat_ref (T := "tuple") (U := "int") (by decide) ⟨_, ho, rfl⟩ (fun s' => typeIs_int s' k t) noFill_tuple_mul F.fills_int_mul F.slot_int_rmul repeat_tuple F.slot_int_index.lookup
    (call_meets F.slot_int_rmul (typeIs_int s k t) F.entry_int_rmul (F.args_int_rmul_2 _ _) (int_rmul_tuple k t l its.toArray n dd sl)
      ⟨ho, rfl, ⟨_, ho, rfl⟩, call_meets F.slot_tuple_mul ⟨_, ho, rfl⟩ F.entry_tuple_mul (F.args_tuple_mul_2 _ _)
        (tuple_mulW l its.toArray n dd sl k t (by rw [decide_eq_false (by omega), decide_eq_false (by omega)] <;> rfl) (by rw [hi, Bool.false_or]; exact beq_eq_false_iff_ne.mpr (by omega)) (by rw [hi, Bool.or_false]; exact decide_eq_false (by omega)) (by omega) c4 (by rw [size_rep, List.size_toArray]; exact flen)) ⟨ho, ?_⟩⟩)
  rw [size_rep]
  refine ⟨.ref s.heap.objs.size, _, I.laid (t' := s.toks) (o := .tup (List.replicate k.toNat xs).flatten) (fun b ob q => Heap.get?_push_of_some _ q) (Nat.le_refl _) ?_, rfl, q _ (I.hok.fresh (Nat.le_refl _))⟩
  exact ⟨by rw [PyProof.Rows.lm_len_rep_flat, sizeLine_eq, Nat.mul_comm]; omega, _, r.rep k.toNat, IsTup.new _ _⟩
theorem RepAll.reps {K : PySem.W.Frag} {F : Hp} {xs : List V} {ds : List D} (r : RepAll K F xs ds) : ∀ k : Nat, RepAll K F (List.replicate k xs).flatten (List.replicate k ds).flatten
  | 0 => .nil
  | k + 1 => by
    rw [List.replicate_succ, List.replicate_succ, List.flatten_cons, List.flatten_cons]
    exact r.app (RepAll.reps r k)
/-- * of ints (one of them below 2 ^ 64, or together below a million bits), of a tuple or a list and a number -/
def CMulA (i j : Int) : Prop := CMul i j ∨ CMulW i j
def dMul : R2D := fun x y M Q => match x, y with
  | .int i, .int j => CMulA i j ∧ Q (.int (i * j)) M
  | .tup xs, .int k => xs ≠ [] ∧ 2 ≤ k ∧ xs.length * k.toNat ≤ 1000000 ∧ Q (.tup (List.replicate k.toNat xs).flatten) M
  | x, .int k => match ltOf M x with
    | some xs => -(2 ^ 63) ≤ k ∧ k < 2 ^ 63 ∧ xs.length * k.toNat ≤ sizeLine ∧ Q (.lst (List.replicate k.toNat xs).flatten) M
    | none => False
  | _, _ => False
theorem od_mul : OpD X F0 (binaryOp .Mult) dMul := by
  intro pins s σ H x y v u Q I rx ry ⟨F, R, M, d, e, Q', e0, st, rd, re, q, k⟩
  unfold dMul at q
  split at q
  · cases rd; cases re
    obtain ⟨c, q⟩ := q
    rcases c with c | c
    · exact op_mul pins s σ H _ _ v u Q I rx ry ⟨_, _, rfl, rfl, c, k _ _ _ _ _ Ext.refl st (.int _) q⟩
    · exact op_mulW pins s σ H _ _ v u Q I rx ry ⟨_, _, rfl, rfl, c, k _ _ _ _ _ Ext.refl st (.int _) q⟩
  · obtain ⟨a, vs, rfl, h1, ra⟩ := tp_get st rd
    cases re
    refine op_repN pins s σ H _ _ v u Q I rx ry ⟨a, _, vs, rfl, rfl, h1, fun z => q.1 ?_, q.2.1, by rw [ra.len]; exact q.2.2.1, fun p hp => k.tup st hp (ra.reps _) q.2.2.2⟩
    subst z; cases ra; rfl
  · split at q
    · rename_i xs h1
      obtain ⟨a, vs, rfl, g1, ra⟩ := lt_get st rd h1
      cases re
      exact op_rep pins s σ H _ _ v u Q I rx ry ⟨a, _, vs, rfl, rfl, g1, q.1, q.2.1, by rw [ra.len]; exact q.2.2.1, fun p hp => k.lst st hp (ra.reps _) q.2.2.2⟩
    · exact q.elim
  · exact q.elim
end

/-! ### ==, != of data; is None -/
mutual
def D.py : D → Option PyData
  | .non => some .none
  | .bl b => some (.bool b)
  | .int i => some (.int i)
  | .str x => some (.str x)
  | .tup ds => match pyAll ds with
    | some ps => some (.tuple ps)
    | none => none
  | .lst ds => match pyAll ds with
    | some ps => some (.list ps)
    | none => none
  | .lsk ds => match pyAll ds with
    | some ps => some (.list ps)
    | none => none
  | .ref _ => none
  | .ty _ => none
  | .fn _ _ => none
def pyAll : List D → Option (List PyData)
  | [] => some []
  | d :: ds => match d.py, pyAll ds with
    | some p, some ps => some (p :: ps)
    | _, _ => none
end
/-- a list that is changed in place, read as data -/
def drf (M : Mp) : D → D
  | .ref a => match M a with
    | some (.lst ds) => .lst ds
    | _ => .ref a
  | d => d
section
variable {K : PySem.W.Frag} {F H : Hp}
mutual
theorem Rep.dp (hF : Ext F H) : ∀ (d : D) (p : PyData) (v : V), Rep K F v d → d.py = some p → Dp K H v p
  | .non, _, _, h, e => by cases h; cases e; exact .non
  | .bl b, _, _, h, e => by cases h; cases e; exact .bl b
  | .int b, _, _, h, e => by cases h; cases e; exact .int b
  | .str b, _, _, h, e => by cases h; cases e; exact .str b
  | .ref a, _, _, h, e => by cases e
  | .ty a, _, _, h, e => by cases e
  | .fn a G, _, _, h, e => by cases e
  | .tup ds, p, _, h, e => by
    cases h with
    | tup hs ha =>
      have e : (match pyAll ds with | some ps => some (PyData.tuple ps) | none => none) = some p := e
      split at e
      · rename_i ps ep
        cases e
        exact .tup (sqTMono hF hs) (RepAll.dps hF ds ps _ ha ep)
      · cases e
  | .lst ds, p, _, h, e => by
    cases h with
    | lst hs ha =>
      have e : (match pyAll ds with | some ps => some (PyData.list ps) | none => none) = some p := e
      split at e
      · rename_i ps ep
        cases e
        exact .lst (.inl (.inl (hF _ _ hs))) (RepAll.dps hF ds ps _ ha ep)
      · cases e
  | .lsk ds, p, _, h, e => by
    cases h with
    | lsk hs ha =>
      have e : (match pyAll ds with | some ps => some (PyData.list ps) | none => none) = some p := e
      split at e
      · rename_i ps ep
        cases e
        exact .lst (sqLMono hF hs) (RepAll.dps hF ds ps _ ha ep)
      · cases e
theorem RepAll.dps (hF : Ext F H) : ∀ (ds : List D) (ps : List PyData) (vs : List V), RepAll K F vs ds → pyAll ds = some ps → DpAll K H vs ps
  | [], _, _, h, e => by cases h; cases e; exact .nil
  | d :: ds, qs, _, h, e => by
    cases h with
    | cons h1 h2 =>
      have e : (match d.py, pyAll ds with | some p, some ps => some (p :: ps) | _, _ => none) = some qs := e
      split at e
      · rename_i p ps e1 e2
        cases e
        exact .cons (Rep.dp hF d p _ h1 e1) (RepAll.dps hF ds ps _ h2 e2)
      · cases e
end
theorem dp_drf {R : Hp} {M : Mp} {v : V} {d : D} {p : PyData} (st : Stt K F R H M) (r : Rep K F v d) (e : (drf M d).py = some p) : Dp K H v p := by
  cases d with
  | ref a =>
    cases r
    have e : D.py (match M a with | some (.lst ds) => D.lst ds | _ => .ref a) = some p := e
    split at e
    · rename_i ds em
      obtain ⟨_, o, ho, ro⟩ := st.ow _ _ em
      obtain ⟨xs, rfl, ra⟩ := ro.lst_iff
      have e : (match pyAll ds with | some ps => some (PyData.list ps) | none => none) = some p := e
      split at e
      · rename_i ps ep
        cases e
        exact .lst (.inl (.inl ho)) (RepAll.dps st.fz ds ps _ ra ep)
      · cases e
    · cases e
  | _ => exact Rep.dp st.fz _ p v r e
end
/-- the plain ones, straight -/
def scalD : D → D → Option Bool
  | .int i, .int j => some (decide (i = j))
  | .str a, .str b => some (decide (a = b))
  | .bl a, .bl b => some (decide (a = b))
  | .non, .non => some true
  | .non, .int _ => some false
  | .int _, .non => some false
  | .non, .bl _ => some false
  | .bl _, .non => some false
  | .non, .str _ => some false
  | .str _, .non => some false
  | .int _, .str _ => some false
  | .str _, .int _ => some false
  | .bl _, .str _ => some false
  | .str _, .bl _ => some false
  | _, _ => none
def dEqS (x y : D) (M : Mp) (Q : Bool → Prop) : Prop := match (drf M x).py, (drf M y).py with
  | some p, some q => SeqAt.shaped p = true ∧ SeqAt.shaped q = true ∧ Q (PyData.eqv p q)
  | _, _ => False
def dEq : R2D := fun x y M Q => match scalD x y with
  | some b => Q (.bl b) M
  | none => dEqS x y M fun b => Q (.bl b) M
def dNe : R2D := fun x y M Q => match scalD x y with
  | some b => Q (.bl (!b)) M
  | none => dEqS x y M fun b => Q (.bl (!b)) M
theorem scalD_ok {K : PySem.W.Frag} {F : Hp} {x y : V} {d e : D} {b : Bool} (r : Rep K F x d) (s : Rep K F y e) (h : scalD d e = some b) : scal x y = true ∧ decide (x = y) = b := by
  cases r <;> cases s <;> first | (cases h; exact ⟨rfl, by simp⟩) | cases h
def D.isN : D → Bool
  | .non => true
  | _ => false
def dIsN : R2D := fun x y M Q => match y with
  | .non => Q (.bl x.isN) M
  | _ => False
def dNotN : R2D := fun x y M Q => match y with
  | .non => Q (.bl (!x.isN)) M
  | _ => False
section
variable {X : Cx} {F0 : Bs}
theorem od_eq (hu : X.A.units + 64 < cLine) : OpD X F0 (compareOp .Eq) dEq := by
  intro pins s σ H x y v u Q I rx ry ⟨F, R, M, d, e, Q', e0, st, rd, re, q, k⟩
  unfold dEq at q
  split at q
  · rename_i b hb
    obtain ⟨h1, h2⟩ := scalD_ok rd re hb
    exact op_eq pins s σ H x y v u Q I rx ry ⟨h1, by rw [h2]; exact k _ _ _ _ _ Ext.refl st (.bl _) q⟩
  · unfold dEqS at q
    split at q
    · rename_i p q' h1 h2
      exact op_eqD hu pins s σ H x y v u Q I rx ry ⟨p, q', dp_drf st rd h1, dp_drf st re h2, q.1, q.2.1, k _ _ _ _ _ Ext.refl st (.bl _) q.2.2⟩
    · exact q.elim
theorem od_ne (hu : X.A.units + 64 < cLine) : OpD X F0 (compareOp .NotEq) dNe := by
  intro pins s σ H x y v u Q I rx ry ⟨F, R, M, d, e, Q', e0, st, rd, re, q, k⟩
  unfold dNe at q
  split at q
  · rename_i b hb
    obtain ⟨h1, h2⟩ := scalD_ok rd re hb
    exact op_ne pins s σ H x y v u Q I rx ry ⟨h1, by rw [h2]; exact k _ _ _ _ _ Ext.refl st (.bl _) q⟩
  · unfold dEqS at q
    split at q
    · rename_i p q' h1 h2
      exact op_neD hu pins s σ H x y v u Q I rx ry ⟨p, q', dp_drf st rd h1, dp_drf st re h2, q.1, q.2.1, k _ _ _ _ _ Ext.refl st (.bl _) q.2.2⟩
    · exact q.elim
theorem rep_non {K : PySem.W.Frag} {F : Hp} {x : V} {d : D} (r : Rep K F x d) : d.isN = decide (x = .non) := by
  cases r <;> simp [D.isN]
theorem od_isN : OpD X F0 (compareOp .Is) dIsN := by
  refine opImp op_isN fun x y H Q ⟨F, R, M, d, e, Q', e0, st, rd, re, q, k⟩ => ?_
  cases e <;> try exact q.elim
  cases re
  have q : Q' (.bl d.isN) M := q
  rw [rep_non rd] at q
  exact ⟨rfl, k _ _ _ _ _ Ext.refl st (.bl _) q⟩
theorem od_notN : OpD X F0 (compareOp .IsNot) dNotN := by
  refine opImp op_notN fun x y H Q ⟨F, R, M, d, e, Q', e0, st, rd, re, q, k⟩ => ?_
  cases e <;> try exact q.elim
  cases re
  have q : Q' (.bl (!d.isN)) M := q
  rw [rep_non rd] at q
  exact ⟨rfl, k _ _ _ _ _ Ext.refl st (.bl _) q⟩
end

/-! ### x in xs, of flat things -/
def D.flat : D → Bool
  | .non => true
  | .bl _ => true
  | .int _ => true
  | .str _ => true
  | _ => false
def eqD : D → D → Bool
  | .non, .non => true
  | .bl a, .bl b => a == b
  | .bl a, .int b => (if a then 1 else 0) == b
  | .int a, .bl b => a == (if b then 1 else 0)
  | .int a, .int b => a == b
  | .str a, .str b => a == b
  | _, _ => false
def dIn (neg : Bool) : R2D := fun x y M Q => match sqOf M y with
  | some ds => x.flat = true ∧ ds.all D.flat = true ∧ Q (.bl (if neg then !(ds.any fun e => eqD e x) else ds.any fun e => eqD e x)) M
  | none => False
section
variable {K : PySem.W.Frag} {F : Hp}
theorem Rep.flat {x : V} {d : D} (r : Rep K F x d) (h : d.flat = true) : flatV x = true := by cases r <;> first | rfl | cases h
theorem Rep.eqv {x y : V} {d e : D} (r : Rep K F x d) (s : Rep K F y e) (h : d.flat = true) (h2 : e.flat = true) : eqV x y = eqD d e := by
  cases r <;> cases h <;> cases s <;> first | cases h2 | rfl
  all_goals rfl
theorem RepAll.flat : ∀ {xs : List V} {ds : List D}, RepAll K F xs ds → ds.all D.flat = true → xs.all flatV = true
  | _, _, .nil, _ => rfl
  | _, _, .cons r t, h => by
    rw [List.all_cons, Bool.and_eq_true] at h ⊢
    exact ⟨r.flat h.1, RepAll.flat t h.2⟩
theorem RepAll.inv {x : V} {d : D} (r : Rep K F x d) (h0 : d.flat = true) : ∀ {xs : List V} {ds : List D}, RepAll K F xs ds → ds.all D.flat = true → inV x xs = ds.any fun e => eqD e d
  | _, _, .nil, _ => rfl
  | y :: xs, e :: ds, .cons s t, h => by
    rw [List.all_cons, Bool.and_eq_true] at h
    have ih := RepAll.inv r h0 t h.2
    show (eqV y x || inV x xs) = (eqD e d || ds.any fun e => eqD e d)
    rw [ih, Rep.eqv s r h.1 h0]
end
section
variable {X : Cx} {F0 : Bs}
theorem od_in : OpD X F0 (compareOp .In) (dIn false) := by
  refine opImp op_in_seq fun x y H Q ⟨F, R, M, d, e, Q', e0, st, rd, re, q, k⟩ => ?_
  unfold dIn at q
  split at q
  · rename_i ds h1
    obtain ⟨a, xs, rfl, hs, ra⟩ := sq_get st re h1
    refine ⟨a, xs, rfl, hs, rd.flat q.1, ra.flat q.2.1, ?_⟩
    have q2 := q.2.2
    rw [← RepAll.inv rd q.1 ra q.2.1] at q2
    exact k _ _ _ _ _ Ext.refl st (.bl _) q2
  · exact q.elim
theorem od_notIn : OpD X F0 (compareOp .NotIn) (dIn true) := by
  refine opImp op_notIn_seq fun x y H Q ⟨F, R, M, d, e, Q', e0, st, rd, re, q, k⟩ => ?_
  unfold dIn at q
  split at q
  · rename_i ds h1
    obtain ⟨a, xs, rfl, hs, ra⟩ := sq_get st re h1
    refine ⟨a, xs, rfl, hs, rd.flat q.1, ra.flat q.2.1, ?_⟩
    have q2 := q.2.2
    rw [← RepAll.inv rd q.1 ra q.2.1] at q2
    exact k _ _ _ _ _ Ext.refl st (.bl _) q2
  · exact q.elim
end

/-! ### displays -/
def dNil : DA := fun _ M Q => Q [] M
def dCons (ta : DE) (tr : DA) : DA := fun τ M Q => ta τ M fun x M1 => tr τ M1 fun xs M2 => Q (x :: xs) M2
def dTup (t : DA) : DE := fun τ M Q => t τ M fun xs M1 => xs.length ≤ sizeLine ∧ Q (.tup xs) M1
def dLst (t : DA) : DE := fun τ M Q => t τ M fun xs M1 => xs.length ≤ sizeLine ∧ Q (.lst xs) M1
/-- a list that will be changed in place -/
def dLstM (t : DA) : DE := fun τ M Q => t τ M fun xs M1 => xs.length ≤ sizeLine ∧ ∀ p, M1 p = none → Q (.ref p) (updM M1 p (.lst xs))
section
variable {X : Cx} {F0 : Bs} {e : Expr} {es : List Expr} {te : DE} {t : DA} {pos : Pos}
theorem ad_nil : PA X [] (liA X.K F0 dNil) := paImp pa_nil fun σ H Q ⟨F, R, τ, M, Q', e0, st, sl, q, k⟩ => k _ _ _ _ _ Ext.refl st .nil q
theorem ad_cons (ha : PE X e (liE X.K F0 te)) (hr : PA X es (liA X.K F0 t)) (hs : starEach (e :: es) X.env = (false, eval e X.env) :: starEach es X.env := by rfl) : PA X (e :: es) (liA X.K F0 (dCons te t)) := by
  refine paImp (pa_cons ha hr hs) fun σ H Q ⟨F, R, τ, M, Q', e0, st, sl, q, k⟩ => ?_
  refine ⟨F, R, τ, M, _, e0, st, sl, q, fun v H1 F1 d M1 e1 st1 r1 q1 => ?_⟩
  refine ⟨F1, R, τ, M1, _, e0.trans e1, st1, sl.ext e1, q1, fun vs H2 F2 ds M2 e2 st2 r2 q2 => ?_⟩
  exact k _ _ _ _ _ (e1.trans e2) st2 (.cons (r1.ext e2) r2) q2
theorem pd_tup {x1} (h : PA X es (liA X.K F0 t)) : PE X (.Tuple es x1 pos) (liE X.K F0 (dTup t)) := by
  refine peImp (pe_tup h) fun σ H Q ⟨F, R, τ, M, Q', e0, st, sl, q, k⟩ => ?_
  refine ⟨F, R, τ, M, _, e0, st, sl, q, fun vs H1 F1 ds M1 e1 st1 r1 q1 => ?_⟩
  exact ⟨by rw [r1.len]; exact q1.1, fun p hp => (k.ext e1).tup st1 hp r1 q1.2⟩
theorem pd_lst (h : PA X es (liA X.K F0 t)) : PE X (.List es pos) (liE X.K F0 (dLst t)) := by
  refine peImp (pe_lst h) fun σ H Q ⟨F, R, τ, M, Q', e0, st, sl, q, k⟩ => ?_
  refine ⟨F, R, τ, M, _, e0, st, sl, q, fun vs H1 F1 ds M1 e1 st1 r1 q1 => ?_⟩
  exact ⟨by rw [r1.len]; exact q1.1, fun p hp => (k.ext e1).lst st1 hp r1 q1.2⟩
theorem pd_lstM (h : PA X es (liA X.K F0 t)) : PE X (.List es pos) (liE X.K F0 (dLstM t)) := by
  refine peImp (pe_lst h) fun σ H Q ⟨F, R, τ, M, Q', e0, st, sl, q, k⟩ => ?_
  refine ⟨F, R, τ, M, _, e0, st, sl, q, fun vs H1 F1 ds M1 e1 st1 r1 q1 => ?_⟩
  exact ⟨by rw [r1.len]; exact q1.1, fun p hp => (k.ext e1).own st1 hp (m := .lst ds) r1 (q1.2 p)⟩
end

/-! ### xs[i] -/
def dIx : R2D := fun x y M Q => match y with
  | .int i => match x with
    | .str z => match atI z.cps.toList i with
      | some c => z.length ≤ sizeLine ∧ Q (.str ⟨#[c]⟩) M
      | none => False
    | x => match sqOf M x with
      | some ds => match atI ds i with
        | some d => Q d M
        | none => False
      | none => False
  | _ => False
theorem atI_rep {K : PySem.W.Frag} {F : Hp} {xs : List V} {ds : List D} {i : Int} {d : D} (r : RepAll K F xs ds) (h : atI ds i = some d) : ∃ v, atI xs i = some v ∧ Rep K F v d := by
  unfold atI at h ⊢
  rw [r.len]
  cases e : ixN ds.length i with
  | none => rw [e] at h; cases h
  | some j =>
    rw [e] at h
    obtain ⟨v, h1, h2⟩ := r.getD (i := j) h
    exact ⟨v, h1, h2⟩
section
variable {X : Cx} {F0 : Bs} {a b : Expr} {ta tb : DE} {pos : Pos}
theorem ixd : IxR X (liR X.K F0 dIx) := by
  refine ixImp ix_seq fun x y H Q ⟨F, R, M, d, e, Q', e0, st, rd, re, q, k⟩ => ?_
  cases e <;> try exact q.elim
  rename_i i
  cases re
  have seq : (match sqOf M d with | some ds => (match atI ds i with | some d => Q' d M | none => False) | none => False) → rIx X.K x (.int i) H Q := fun q => by
    split at q
    · rename_i ds h1
      split at q
      · rename_i d' h2
        obtain ⟨a, xs, rfl, hs, ra⟩ := sq_get st rd h1
        obtain ⟨v, ev, rv⟩ := atI_rep ra h2
        rcases hs with hs | hs
        · exact .inl ⟨a, xs, i, v, rfl, rfl, hs, ev, k _ _ _ _ _ Ext.refl st rv q⟩
        · exact .inr (.inl ⟨a, xs, i, v, rfl, rfl, hs, ev, k _ _ _ _ _ Ext.refl st rv q⟩)
      · exact q.elim
    · exact q.elim
  cases d with
  | str z =>
    have q : (match atI z.cps.toList i with | some c => z.length ≤ sizeLine ∧ Q' (.str ⟨#[c]⟩) M | none => False) := q
    split at q
    · rename_i c h1
      cases rd
      exact .inr (.inr ⟨z, i, c, rfl, rfl, q.1, h1, k _ _ _ _ _ Ext.refl st (.str _) q.2⟩)
    · exact q.elim
  | _ => exact seq q
theorem pd_ix (ha : PE X a (liE X.K F0 ta)) (hb : PE X b (liE X.K F0 tb)) (hs : PlainIx b) : PE X (.Subscript a b pos) (liE X.K F0 (dOp dIx ta tb)) :=
  peImp (pe_ix ixd ha hb hs) fun _ _ _ => li_op
end

/-! ### xs[a:b] -/
abbrev DO := SD → Mp → (Option Int → Mp → Prop) → Prop
def KO (K : PySem.W.Frag) (F R : Hp) (Q' : Option Int → Mp → Prop) (Q : Option Int → Hp → Prop) : Prop := ∀ b H2 F2 M2, Ext F F2 → Stt K F2 R H2 M2 → Q' b M2 → Q b H2
theorem KO.ext {K : PySem.W.Frag} {F F2 R : Hp} {Q' : Option Int → Mp → Prop} {Q : Option Int → Hp → Prop} (k : KO K F R Q' Q) (e : Ext F F2) : KO K F2 R Q' Q := fun b H2 F3 M2 e2 => k b H2 F3 M2 (e.trans e2)
def liO (K : PySem.W.Frag) (F0 : Bs) (t : DO) : TO := fun σ H Q => ∃ F R τ M Q', Bas F0 F R ∧ Stt K F R H M ∧ Slots K F σ τ ∧ t τ M Q' ∧ KO K F R Q' Q
def dNoPart : DO := fun _ M Q => Q none M
def dPart (t : DE) : DO := fun τ M Q => t τ M fun d M1 => match d with
  | .int i => Q (some i) M1
  | _ => False
def cutD {α : Type} (xs : List α) (lo hi : Option Int) : List α := (xs.drop (HT.sIx xs.length 0 lo)).take (HT.sIx xs.length xs.length hi - HT.sIx xs.length 0 lo)
def dSlr (x : D) (lo hi : Option Int) (M : Mp) (Q : QD) : Prop := match x with
  | .tup ds => Q (.tup (cutD ds lo hi)) M
  | .str z => z.length ≤ sizeLine ∧ Q (.str (cutS z lo hi)) M
  | x => match lsOf M x with
    | some ds => Q (.lst (cutD ds lo hi)) M
    | none => False
def dSl (te : DE) (tl th : DO) : DE := fun τ M Q => te τ M fun x M1 => tl τ M1 fun l M2 => th τ M2 fun u M3 => dSlr x l u M3 Q
theorem RepAll.cut {K : PySem.W.Frag} {F : Hp} {xs : List V} {ds : List D} (r : RepAll K F xs ds) (lo hi : Option Int) : RepAll K F (cutV xs lo hi) (cutD ds lo hi) := by
  unfold cutV cutD
  rw [r.len]
  exact (r.dp _).tk _
theorem cutD_whole {α : Type} {xs : List α} {lo hi : Option Int} (h : HT.sIx xs.length 0 lo = 0 ∧ HT.sIx xs.length xs.length hi = xs.length) : cutD xs lo hi = xs := by
  unfold cutD
  rw [h.1, h.2]
  simp
section
variable {X : Cx} {F0 : Bs} {e : Expr} {te : DE} {lo hi : Option Expr} {tl th : DO} {pos p2 : Pos}
theorem od_none : PO X none (liO X.K F0 dNoPart) := ⟨fun pins s σ H Q I ⟨F, R, τ, M, Q', e0, st, sl, q, k⟩ => po_none.run pins s σ H Q I (k _ _ _ _ Ext.refl st q)⟩
theorem od_some (h : PE X e (liE X.K F0 te)) : PO X (some e) (liO X.K F0 (dPart te)) := by
  refine ⟨fun pins s σ H Q I ⟨F, R, τ, M, Q', e0, st, sl, q, k⟩ => (po_some h).run pins s σ H Q I ?_⟩
  refine ⟨F, R, τ, M, _, e0, st, sl, q, fun v H1 F1 d M1 e1 st1 r1 q1 => ?_⟩
  cases d <;> try exact q1.elim
  cases r1
  exact ⟨_, rfl, k _ _ _ _ e1 st1 q1⟩
theorem sl_any : SlR X (fun x lo hi H Q => rSlA X.K x lo hi H Q ∨ rSlL X.K x lo hi H Q ∨ ∃ z, x = .str z ∧ z.length ≤ sizeLine ∧ Q (.str (cutS z lo hi)) H) := sl_tupA.or (sl_list.or sl_str)
theorem pd_slice (he : PE X e (liE X.K F0 te)) (hl : PO X lo (liO X.K F0 tl)) (hu : PO X hi (liO X.K F0 th)) : PE X (.Subscript e (.Slice lo hi none p2) pos) (liE X.K F0 (dSl te tl th)) := by
  refine peImp (pe_slice sl_any he hl hu) fun σ H Q ⟨F, R, τ, M, Q', e0, st, sl, q, k⟩ => ?_
  refine ⟨F, R, τ, M, _, e0, st, sl, q, fun v H1 F1 d M1 e1 st1 r1 q1 => ?_⟩
  refine ⟨F1, R, τ, M1, _, e0.trans e1, st1, sl.ext e1, q1, fun l H2 F2 M2 e2 st2 q2 => ?_⟩
  refine ⟨F2, R, τ, M2, _, e0.trans (e1.trans e2), st2, sl.ext (e1.trans e2), q2, fun u H3 F3 M3 e3 st3 q3 => ?_⟩
  have rd := r1.ext (e2.trans e3)
  have k3 := k.ext (e1.trans (e2.trans e3))
  unfold dSlr at q3
  split at q3
  · have rd0 := rd
    obtain ⟨a, xs, rfl, hs, ra⟩ := tp_get st3 rd
    refine .inl ⟨a, xs, rfl, hs, fun z => ?_, fun z p hp => k3.tup st3 hp (ra.cut l u) q3⟩
    rw [ra.len] at z
    rw [cutD_whole z] at q3
    exact k3 _ _ _ _ _ Ext.refl st3 rd0 q3
  · cases rd
    exact .inr (.inr ⟨_, rfl, q3.1, k3 _ _ _ _ _ Ext.refl st3 (.str _) q3.2⟩)
  · split at q3
    · rename_i ds h1
      obtain ⟨a, xs, rfl, hs, ra⟩ := ls_get st3 rd h1
      exact .inr (.inl ⟨a, xs, rfl, hs, fun p hp => k3.lst st3 hp (ra.cut l u) q3⟩)
    · exact q3.elim
end
end DL

/-! DL, the rules: calls, statements, loops, defs -/
namespace DL
open PySem PySem.Spec PyProof.Rows L2

/-! ### calls of built-ins -/
abbrev RC := List D → Mp → QD → Prop
def dCB (r : RC) (t : DA) : DE := fun τ M Q => t τ M fun ds M1 => r ds M1 Q
theorem li_cb {K : PySem.W.Frag} {F0 : Bs} {r : RC} {t : DA} {σ : L2.St} {H : Hp} {Q : VK} (h : liE K F0 (dCB r t) σ H Q) : tCB (liC K F0 r) (liA K F0 t) σ H Q := by
  obtain ⟨F, R, τ, M, Q', e0, st, sl, q, k⟩ := h
  exact ⟨F, R, τ, M, _, e0, st, sl, q, fun vs H1 F1 ds M1 e1 st1 r1 q1 => ⟨F1, R, M1, ds, Q', e0.trans e1, st1, r1, q1, k.ext e1⟩⟩
section
variable {X : Cx} {F0 : Bs} {x : Str} {p pos : Pos} {e : Expr} {es : List Expr} {t : DA} {id T : String} {r : RC}
theorem pd_callB (hc : CallR X (.builtin id) (liC X.K F0 r)) (hg : Gl X x) (hm : X.mg x = none) (hv : bootBuiltins x = some (.builtin id)) (ha : PA X (e :: es) (liA X.K F0 t)) (hn : x ≠ "__name__" := by decide) (hdb : (x == ("__debug__" : Str)) = false := by decide)
    (he : starEach (e :: es) X.env = (false, eval e X.env) :: starEach es X.env := by rfl) (hpl : (backTo pos (starEach es X.env)).any (·.1) = false := by rfl) : PE X (.Call (.Name x p) (e :: es) [] pos) (liE X.K F0 (dCB r t)) :=
  peImp (pe_callB hc hg hm hv ha hn hdb he hpl) fun _ _ _ => li_cb
theorem pd_callTy (hc : CallR X (.type T) (liC X.K F0 r)) (hg : Gl X x) (hm : X.mg x = none) (hv : bootBuiltins x = some (.type T)) (ha : PA X (e :: es) (liA X.K F0 t)) (hn : x ≠ "__name__" := by decide) (hdb : (x == ("__debug__" : Str)) = false := by decide)
    (he : starEach (e :: es) X.env = (false, eval e X.env) :: starEach es X.env := by rfl) (hpl : (backTo pos (starEach es X.env)).any (·.1) = false := by rfl) : PE X (.Call (.Name x p) (e :: es) [] pos) (liE X.K F0 (dCB r t)) :=
  peImp (pe_callTy hc hg hm hv ha hn hdb he hpl) fun _ _ _ => li_cb
end
theorem rep1 {K : PySem.W.Frag} {F : Hp} {xs : List V} {d : D} (r : RepAll K F xs [d]) : ∃ x, xs = [x] ∧ Rep K F x d := by
  cases r with
  | cons h t => cases t; exact ⟨_, rfl, h⟩
theorem rep2 {K : PySem.W.Frag} {F : Hp} {xs : List V} {d e : D} (r : RepAll K F xs [d, e]) : ∃ x y, xs = [x, y] ∧ Rep K F x d ∧ Rep K F y e := by
  cases r with
  | cons h t =>
    obtain ⟨y, rfl, h2⟩ := rep1 t
    exact ⟨_, y, rfl, h, h2⟩
/-- len -/
def dLen : RC := fun ds M Q => match ds with
  | [.str z] => z.length ≤ sizeLine ∧ Q (.int z.length) M
  | [d] => match sqOf M d with
    | some xs => Q (.int xs.length) M
    | none => False
  | _ => False
/-- all, any of a list of True, False -/
def D.isB : D → Option Bool
  | .bl b => some b
  | _ => none
def blsOf : List D → Option (List Bool)
  | [] => some []
  | .bl b :: ds => (blsOf ds).map (b :: ·)
  | _ => none
def intsOf : List D → Option (List Int)
  | [] => some []
  | .int b :: ds => (intsOf ds).map (b :: ·)
  | _ => none
theorem blsOf_map : ∀ bs : List Bool, blsOf (bs.map D.bl) = some bs
  | [] => rfl
  | b :: bs => by show (blsOf (bs.map D.bl)).map (b :: ·) = _; rw [blsOf_map bs]; rfl
theorem intsOf_map : ∀ bs : List Int, intsOf (bs.map D.int) = some bs
  | [] => rfl
  | b :: bs => by show (intsOf (bs.map D.int)).map (b :: ·) = _; rw [intsOf_map bs]; rfl
theorem bls_eq : ∀ {ds : List D} {bs : List Bool}, blsOf ds = some bs → ds = bs.map D.bl
  | [], bs, h => by cases h; rfl
  | d :: ds, bs, h => by
    cases d <;> try cases h
    rename_i b
    have h : (blsOf ds).map (b :: ·) = some bs := h
    cases e : blsOf ds with
    | none => rw [e] at h; cases h
    | some cs => rw [e] at h; cases h; rw [bls_eq e]; rfl
theorem ints_eq : ∀ {ds : List D} {bs : List Int}, intsOf ds = some bs → ds = bs.map D.int
  | [], bs, h => by cases h; rfl
  | d :: ds, bs, h => by
    cases d <;> try cases h
    rename_i b
    have h : (intsOf ds).map (b :: ·) = some bs := h
    cases e : intsOf ds with
    | none => rw [e] at h; cases h
    | some cs => rw [e] at h; cases h; rw [ints_eq e]; rfl
def dAll : RC := fun ds M Q => match ds with
  | [d] => match lsOf M d with
    | some xs => match blsOf xs with
      | some bs => Q (.bl (bs.all id)) M
      | none => False
    | none => False
  | _ => False
def dAny : RC := fun ds M Q => match ds with
  | [d] => match lsOf M d with
    | some xs => match blsOf xs with
      | some bs => Q (.bl (bs.any id)) M
      | none => False
    | none => False
  | _ => False
def dSum : RC := fun ds M Q => match ds with
  | [d] => match lsOf M d with
    | some xs => match intsOf xs with
      | some ns => Q (.int ns.sum) M
      | none => False
    | none => False
  | _ => False
/-- max, min of a list of ints, of two ints -/
def dMax : RC := fun ds M Q => match ds with
  | [.int i, .int j] => Q (.int (if j > i then j else i)) M
  | [d] => match lsOf M d with
    | some xs => match intsOf xs with
      | some ns => 0 < ns.length ∧ ∀ m, m ∈ ns → (∀ y, y ∈ ns → y ≤ m) → Q (.int m) M
      | none => False
    | none => False
  | _ => False
def dMin : RC := fun ds M Q => match ds with
  | [.int i, .int j] => Q (.int (if j < i then j else i)) M
  | [d] => match lsOf M d with
    | some xs => match intsOf xs with
      | some ns => 0 < ns.length ∧ ∀ m, m ∈ ns → (∀ y, y ∈ ns → m ≤ y) → Q (.int m) M
      | none => False
    | none => False
  | _ => False
def dAbs : RC := fun ds M Q => match ds with
  | [.int i] => Q (.int (if i < 0 then -i else i)) M
  | _ => False
def dInt : RC := fun ds M Q => match ds with
  | [.int i] => Q (.int i) M
  | [.bl b] => Q (.int (if b then 1 else 0)) M
  | _ => False
def dTuple : RC := fun ds M Q => match ds with
  | [d] => match sqOf M d with
    | some xs => Q (.tup xs) M
    | none => False
  | _ => False
def dList : RC := fun ds M Q => match ds with
  | [d] => match sqOf M d with
    | some xs => Q (.lst xs) M
    | none => False
  | _ => False
def dListM : RC := fun ds M Q => match ds with
  | [d] => match sqOf M d with
    | some xs => ∀ p, M p = none → Q (.ref p) (updM M p (.lst xs))
    | none => False
  | _ => False
/-- sorted of a list of ints -/
def dSorted : RC := fun ds M Q => match ds with
  | [d] => match lsOf M d with
    | some xs => match intsOf xs with
      | some ns => ∀ ns' : List Int, ns'.Perm ns → ns'.Pairwise (· ≤ ·) → Q (.lst (ns'.map D.int)) M
      | none => False
    | none => False
  | _ => False
/-- isinstance by a built-in class -/
def tyName (M : Mp) : D → Option String
  | .non => some "NoneType"
  | .bl _ => some "bool"
  | .int _ => some "int"
  | .str _ => some "str"
  | .tup _ => some "tuple"
  | .lst _ => some "list"
  | .lsk _ => some "list"
  | .ref a => match M a with
    | some (.lst _) => some "list"
    | some (.dK _) => some "dict"
    | _ => none
  | .ty _ => none
  | .fn _ _ => none
def isiN (a n : String) : Bool := a == n || (a == "bool" && n == "int")
def kitNames : List String := ["NoneType", "bool", "int", "str", "tuple", "list", "dict"]
theorem kit_table : (kitNames.all fun a => (["bool", "int", "str", "tuple", "list", "dict"] : List String).all fun n => kitB a n == some (isiN a n)) = true := by decide +kernel
def dIsi : RC := fun ds M Q => match ds with
  | [d, .ty n] => (["bool", "int", "str", "tuple", "list", "dict"] : List String).contains n = true ∧ match tyName M d with
    | some a => Q (.bl (isiN a n)) M
    | none => False
  | _ => False
section
variable {X : Cx} {F0 : Bs}
theorem cd_len : CallR X (.builtin "len") (liC X.K F0 dLen) := by
  refine caImp call_len fun xs H Q ⟨F, R, M, ds, Q', e0, st, rs, q, k⟩ => ?_
  unfold dLen at q
  split at q
  · obtain ⟨x, rfl, r⟩ := rep1 rs
    cases r
    exact ⟨_, _, rfl, ⟨q.1, rfl⟩, k _ _ _ _ _ Ext.refl st (.int _) q.2⟩
  · obtain ⟨x, rfl, r⟩ := rep1 rs
    split at q
    · rename_i ys h1
      obtain ⟨a, vs, rfl, hs, ra⟩ := sq_get st r h1
      rw [← ra.len] at q
      exact ⟨_, _, rfl, hs.elim (fun z => .inl ⟨_, z, rfl⟩) (fun z => .inr ⟨_, z, rfl⟩), k _ _ _ _ _ Ext.refl st (.int _) q⟩
    · exact q.elim
  · exact q.elim
theorem cd_all (hc : X.calm = true) : CallR X (.builtin "all") (liC X.K F0 dAll) := by
  refine caImp (cr_all hc) fun xs H Q ⟨F, R, M, ds, Q', e0, st, rs, q, k⟩ => ?_
  unfold dAll at q
  split at q <;> try exact q.elim
  obtain ⟨x, rfl, r⟩ := rep1 rs
  split at q <;> try exact q.elim
  rename_i ys h1
  split at q <;> try exact q.elim
  rename_i bs h2
  obtain ⟨a, vs, rfl, hs, ra⟩ := ls_get st r h1
  rw [bls_eq h2] at ra
  have ev := ra.bls
  subst ev
  exact ⟨a, bs, rfl, hs, k _ _ _ _ _ Ext.refl st (.bl _) q⟩
theorem cd_any (hc : X.calm = true) : CallR X (.builtin "any") (liC X.K F0 dAny) := by
  refine caImp (cr_any hc) fun xs H Q ⟨F, R, M, ds, Q', e0, st, rs, q, k⟩ => ?_
  unfold dAny at q
  split at q <;> try exact q.elim
  obtain ⟨x, rfl, r⟩ := rep1 rs
  split at q <;> try exact q.elim
  rename_i ys h1
  split at q <;> try exact q.elim
  rename_i bs h2
  obtain ⟨a, vs, rfl, hs, ra⟩ := ls_get st r h1
  rw [bls_eq h2] at ra
  have ev := ra.bls
  subst ev
  exact ⟨a, bs, rfl, hs, k _ _ _ _ _ Ext.refl st (.bl _) q⟩
theorem cd_sum (hc : X.calm = true) : CallR X (.builtin "sum") (liC X.K F0 dSum) := by
  refine caImp (cr_sum hc) fun xs H Q ⟨F, R, M, ds, Q', e0, st, rs, q, k⟩ => ?_
  unfold dSum at q
  split at q <;> try exact q.elim
  obtain ⟨x, rfl, r⟩ := rep1 rs
  split at q <;> try exact q.elim
  rename_i ys h1
  split at q <;> try exact q.elim
  rename_i bs h2
  obtain ⟨a, vs, rfl, hs, ra⟩ := ls_get st r h1
  rw [ints_eq h2] at ra
  have ev := ra.ints
  subst ev
  exact ⟨a, bs, rfl, hs, k _ _ _ _ _ Ext.refl st (.int _) q⟩
theorem cd_max (hc : X.calm = true) : CallR X (.builtin "max") (liC X.K F0 dMax) := by
  intro pins s σ H xs us Q I rv ⟨F, R, M, ds, Q', e0, st, rs, q, k⟩
  unfold dMax at q
  split at q <;> try exact q.elim
  · obtain ⟨x, y, rfl, r1, r2⟩ := rep2 rs
    cases r1; cases r2
    exact call_max2 hc pins s σ H _ us Q I rv ⟨_, _, rfl, k _ _ _ _ _ Ext.refl st (.int _) q⟩
  · obtain ⟨x, rfl, r⟩ := rep1 rs
    split at q <;> try exact q.elim
    rename_i ys h1
    split at q <;> try exact q.elim
    rename_i bs h2
    obtain ⟨a, vs, rfl, hs, ra⟩ := ls_get st r h1
    rw [ints_eq h2] at ra
    have ev := ra.ints
    subst ev
    exact cr_max hc pins s σ H _ us Q I rv ⟨a, bs, rfl, hs, q.1, fun m h1 h2 => k _ _ _ _ _ Ext.refl st (.int _) (q.2 m h1 h2)⟩
theorem cd_min (hc : X.calm = true) : CallR X (.builtin "min") (liC X.K F0 dMin) := by
  intro pins s σ H xs us Q I rv ⟨F, R, M, ds, Q', e0, st, rs, q, k⟩
  unfold dMin at q
  split at q <;> try exact q.elim
  · obtain ⟨x, y, rfl, r1, r2⟩ := rep2 rs
    cases r1; cases r2
    exact call_min2 hc pins s σ H _ us Q I rv ⟨_, _, rfl, k _ _ _ _ _ Ext.refl st (.int _) q⟩
  · obtain ⟨x, rfl, r⟩ := rep1 rs
    split at q <;> try exact q.elim
    rename_i ys h1
    split at q <;> try exact q.elim
    rename_i bs h2
    obtain ⟨a, vs, rfl, hs, ra⟩ := ls_get st r h1
    rw [ints_eq h2] at ra
    have ev := ra.ints
    subst ev
    exact cr_min hc pins s σ H _ us Q I rv ⟨a, bs, rfl, hs, q.1, fun m h1 h2 => k _ _ _ _ _ Ext.refl st (.int _) (q.2 m h1 h2)⟩
theorem cd_abs : CallR X (.builtin "abs") (liC X.K F0 dAbs) := by
  refine caImp call_abs fun xs H Q ⟨F, R, M, ds, Q', e0, st, rs, q, k⟩ => ?_
  unfold dAbs at q
  split at q <;> try exact q.elim
  obtain ⟨x, rfl, r⟩ := rep1 rs
  cases r
  exact ⟨_, rfl, k _ _ _ _ _ Ext.refl st (.int _) q⟩
theorem cd_int : CallR X (.type "int") (liC X.K F0 dInt) := by
  refine caImp call_int1 fun xs H Q ⟨F, R, M, ds, Q', e0, st, rs, q, k⟩ => ?_
  unfold dInt at q
  split at q <;> try exact q.elim
  · obtain ⟨x, rfl, r⟩ := rep1 rs
    cases r
    exact .inl ⟨_, rfl, k _ _ _ _ _ Ext.refl st (.int _) q⟩
  · obtain ⟨x, rfl, r⟩ := rep1 rs
    cases r
    exact .inr ⟨_, rfl, k _ _ _ _ _ Ext.refl st (.int _) q⟩
theorem cd_tuple : CallR X (.type "tuple") (liC X.K F0 dTuple) := by
  refine caImp call_tuple_of fun xs H Q ⟨F, R, M, ds, Q', e0, st, rs, q, k⟩ => ?_
  unfold dTuple at q
  split at q <;> try exact q.elim
  obtain ⟨x, rfl, r⟩ := rep1 rs
  split at q <;> try exact q.elim
  rename_i ys h1
  rcases sqOf_cases h1 with rfl | h1
  · have r0 := r
    obtain ⟨a, vs, rfl, hs, ra⟩ := tp_get st r
    exact ⟨a, vs, rfl, .inr ⟨hs, k _ _ _ _ _ Ext.refl st r0 q⟩⟩
  · obtain ⟨a, vs, rfl, hs, ra⟩ := ls_get st r h1
    exact ⟨a, vs, rfl, .inl ⟨hs, fun p hp => k.tup st hp ra q⟩⟩
theorem cd_list : CallR X (.type "list") (liC X.K F0 dList) := by
  refine caImp call_list_of fun xs H Q ⟨F, R, M, ds, Q', e0, st, rs, q, k⟩ => ?_
  unfold dList at q
  split at q <;> try exact q.elim
  obtain ⟨x, rfl, r⟩ := rep1 rs
  split at q <;> try exact q.elim
  rename_i ys h1
  obtain ⟨a, vs, rfl, hs, ra⟩ := sq_get st r h1
  exact ⟨a, vs, rfl, hs, fun p hp => k.lst st hp ra q⟩
theorem cd_listM : CallR X (.type "list") (liC X.K F0 dListM) := by
  refine caImp call_list_of fun xs H Q ⟨F, R, M, ds, Q', e0, st, rs, q, k⟩ => ?_
  unfold dListM at q
  split at q <;> try exact q.elim
  obtain ⟨x, rfl, r⟩ := rep1 rs
  split at q <;> try exact q.elim
  rename_i ys h1
  obtain ⟨a, vs, rfl, hs, ra⟩ := sq_get st r h1
  exact ⟨a, vs, rfl, hs, fun p hp => k.own st hp (m := .lst ys) ra (q p)⟩
theorem cd_isi : CallR X (.builtin "isinstance") (liC X.K F0 dIsi) := by
  refine caImp call_isi fun xs H Q ⟨F, R, M, ds, Q', e0, st, rs, q, k⟩ => ?_
  unfold dIsi at q
  split at q <;> try exact q.elim
  rename_i d n
  obtain ⟨x, y, rfl, r1, r2⟩ := rep2 rs
  cases r2
  obtain ⟨hn, q⟩ := q
  split at q <;> try exact q.elim
  rename_i a ea
  have go : ∀ {t : Value}, t = .type a → kitNames.contains a = true → TyX X.K H x t → rIsi X.K [x, .ty n] H Q := fun {t} et ha ty => by
    subst et
    refine ⟨x, .ty n, _, .type n, isiN a n, rfl, .ty n, ty, kit_ty ?_, k _ _ _ _ _ Ext.refl st (.bl _) q⟩
    have z := kit_table
    rw [List.all_eq_true] at z
    have z2 := z a (by simpa using ha)
    rw [List.all_eq_true] at z2
    exact eq_of_beq (z2 n (by simpa using hn))
  have seqL : ∀ {a' : Addr} {xs : List V}, x = .ref a' → SqL X.K H a' xs → TyX X.K H x (.type "list") := fun {a' xs} e hs => by
    subst e
    rcases hs with (hs | ⟨o, hs⟩) | ⟨o, its, n, e1, e2, _⟩
    · exact .base (.lst hs)
    · exact .base (.frz hs)
    · exact .kList e1 e2
  cases d with
  | non => cases r1; cases ea; exact go rfl (by decide) (.base .non)
  | bl b => cases r1; cases ea; exact go rfl (by decide) (.base (.bl b))
  | int b => cases r1; cases ea; exact go rfl (by decide) (.base (.int b))
  | str b => cases r1; cases ea; exact go rfl (by decide) (.base (.str b))
  | tup ys =>
    cases ea
    obtain ⟨a', vs, e, hs, ra⟩ := tp_get st r1
    refine go rfl (by decide) ?_
    subst e
    rcases hs with (hs | ⟨o, hs⟩) | ⟨o, its, n, e1, e2, _⟩
    · exact .base (.tup hs)
    · exact .fTuple hs
    · exact .kTuple e1 e2
  | lst ys =>
    cases ea
    obtain ⟨a', vs, e, hs, ra⟩ := ls_get (M := M) (ds := ys) st r1 rfl
    exact go rfl (by decide) (seqL e hs)
  | lsk ys =>
    cases ea
    obtain ⟨a', vs, e, hs, ra⟩ := ls_get (M := M) (ds := ys) st r1 rfl
    exact go rfl (by decide) (seqL e hs)
  | ref a' =>
    have ea : (match M a' with | some (.lst _) => some "list" | some (.dK _) => some "dict" | _ => none) = some a := ea
    cases r1
    split at ea
    · rename_i ys em
      cases ea
      obtain ⟨_, o, ho, ro⟩ := st.ow _ _ em
      obtain ⟨vs, rfl, ra⟩ := ro.lst_iff
      exact go rfl (by decide) (.base (.lst ho))
    · rename_i ys em
      cases ea
      obtain ⟨_, o, ho, ro⟩ := st.ow _ _ em
      cases o <;> try exact ro.elim
      exact go rfl (by decide) (.base (.dK ho))
    · cases ea
  | ty m => cases ea
  | fn a G => cases ea
end

/-! ### what a def promises, over data -/
abbrev XD := Value → Option (List (Str × D)) → Mp → Prop
abbrev SpD := List D → Mp → QD → XD → Prop
def RepX (K : PySem.W.Frag) (F H : Hp) : Option Addr → Option (List (Str × D)) → Prop
  | none, none => True
  | some a, some fs => ∃ vs, H a = some (.xd vs) ∧ RepKV K F vs fs
  | _, _ => False
def KX (K : PySem.W.Frag) (F R : Hp) (E' : XD) (E : XK) : Prop := ∀ e dx H2 F2 fs M2, Ext F F2 → Stt K F2 R H2 M2 → RepX K F2 H2 dx fs → E' e fs M2 → E e dx H2
theorem KX.ext {K : PySem.W.Frag} {F F2 R : Hp} {E' : XD} {E : XK} (k : KX K F R E' E) (e : Ext F F2) : KX K F2 R E' E := fun v dx H2 F3 fs M2 e2 => k v dx H2 F3 fs M2 (e.trans e2)
def liSp (K : PySem.W.Frag) (T : List (Addr × Str)) (sp : SpD) : Sp := fun vs H Q E => ∃ F R ds M Q' E', Stt K F R H M ∧ TabR T R ∧ RepAll K F vs ds ∧ sp ds M Q' E' ∧ KE K F R Q' Q ∧ KX K F R E' E
/-- what is wanted of an error that leaves a def, by what the def's promise wants -/
def liX (K : PySem.W.Frag) (F0 : Bs) (E' : XD) : XK := fun e dx H => ∃ F R M fs, Bas F0 F R ∧ Stt K F R H M ∧ RepX K F H dx fs ∧ E' e fs M
def E0D : XD := fun _ _ _ => False
def dCall (sp : SpD) (E : XD) (t : DA) : DE := fun τ M Q => t τ M fun ds M1 => sp ds M1 Q E
section
variable {X : Cx} {F0 : Bs} {CX : CXT} {k : Nat} {f : Addr} {fd : FuncData} {ps : List Str} {sp : SpD} {x : Str} {p pos : Pos} {e : Expr} {es : List Expr} {t : DA}
theorem li_call {E' : XD} {E : XK} (hE : ∀ e dx H, liX X.K F0 E' e dx H → E e dx H) {σ : L2.St} {H : Hp} {Q : VK} (h : liE X.K F0 (dCall sp E' t) σ H Q) : tCall (liSp X.K F0.T sp) [] E (liA X.K F0 t) σ H Q := by
  obtain ⟨F, R, τ, M, Q', e0, st, sl, q, k⟩ := h
  refine ⟨F, R, τ, M, _, e0, st, sl, q, fun vs H1 F1 ds M1 e1 st1 r1 q1 => ?_⟩
  refine ⟨F1, R, ds, M1, Q', E', st1, e0.t, by rw [List.append_nil]; exact r1, q1, k.ext e1, fun e dx H2 F2 fs M2 e2 st2 rx qx => hE _ _ _ ⟨F2, R, M2, fs, e0.trans (e1.trans e2), st2, rx, qx⟩⟩
/-- f(..), no exception leaves f -/
theorem pd_call (F : FnOk X.prog X.w X.K X.mg X.base CX0 k f fd ps (liSp X.K F0.T sp)) (hr : Room k X.A) (hg : Gl X x) (hm : X.mg x = some (.ref f)) (hk : PySem.W.keepIn X.K (.ref f) = true) (hb : Binds X.K fd ps [])
    (ha : PA X (e :: es) (liA X.K F0 t)) (hdb : (x == ("__debug__" : Str)) = false := by decide) (he : starEach (e :: es) X.env = (false, eval e X.env) :: starEach es X.env := by rfl) (hpl : (backTo pos (starEach es X.env)).any (·.1) = false := by rfl) :
    PE X (.Call (.Name x p) (e :: es) [] pos) (liE X.K F0 (dCall sp E0D t)) :=
  peImp (pe_call F hr hg hm hk hb .nil pass0 ha hdb he hpl) fun _ _ _ h => li_call (fun _ _ _ ⟨_, _, _, _, _, _, _, z⟩ => z) h
theorem pd_call0 (F : FnOk X.prog X.w X.K X.mg X.base CX0 k f fd ps (liSp X.K F0.T sp)) (hr : Room k X.A) (hg : Gl X x) (hm : X.mg x = some (.ref f)) (hk : PySem.W.keepIn X.K (.ref f) = true) (hb : Binds X.K fd ps [])
    (hdb : (x == ("__debug__" : Str)) = false := by decide) : PE X (.Call (.Name x p) [] [] pos) (liE X.K F0 (dCall sp E0D dNil)) := by
  refine peImp (pe_call0 F hr hg hm hk hb .nil pass0 hdb) fun σ H Q ⟨F, R, τ, M, Q', e0, st, sl, q, k⟩ => ?_
  exact ⟨F, R, [], M, Q', E0D, st, e0.t, .nil, q, k, fun _ _ _ _ _ _ _ _ _ z => z⟩
/-- f(..), f may raise: E is what the own def wants -/
theorem pd_callX {E' : XD} {E : XK} (hE : ∀ e dx H, liX X.K F0 E' e dx H → E e dx H) (F : FnOk X.prog X.w X.K X.mg X.base CX k f fd ps (liSp X.K F0.T sp)) (hr : Room k X.A) (hg : Gl X x) (hm : X.mg x = some (.ref f)) (hk : PySem.W.keepIn X.K (.ref f) = true) (hb : Binds X.K fd ps [])
    (hx : Passes CX X E) (ha : PA X (e :: es) (liA X.K F0 t)) (hdb : (x == ("__debug__" : Str)) = false := by decide) (he : starEach (e :: es) X.env = (false, eval e X.env) :: starEach es X.env := by rfl) (hpl : (backTo pos (starEach es X.env)).any (·.1) = false := by rfl) :
    PE X (.Call (.Name x p) (e :: es) [] pos) (liE X.K F0 (dCall sp E' t)) :=
  peImp (pe_call F hr hg hm hk hb .nil hx ha hdb he hpl) fun _ _ _ h => li_call hE h
end

/-! ### statements -/
def dNext : DS := fun D τ M => D.nx τ M
def dSeq (t u : DS) : DS := fun D τ M => t { D with nx := u D } τ M
def dBreak : DS := fun D τ M => D.bk τ M
def dCont : DS := fun D τ M => D.ct τ M
def dDrop (te : DE) : DS := fun D τ M => te τ M fun _ M1 => D.nx τ M1
def dRet (te : DE) : DS := fun D τ M => te τ M D.rt
def dRetN : DS := fun D _ M => D.rt .non M
def dIfS (c : DT) (t u : DS) : DS := fun D τ M => c τ M fun b M1 => if b = true then t D τ M1 else u D τ M1
def dSet (i : Nat) (te : DE) : DS := fun D τ M => te τ M fun d M1 => D.nx (τ.set i (some d)) M1
/-- the values of targets: names alone -/
def setAll : List Nat → List D → SD → SD
  | i :: is, d :: ds, τ => setAll is ds (τ.set i (some d))
  | _, _, τ => τ
def dUnp (is : List Nat) (te : DE) : DS := fun D τ M => te τ M fun d M1 => match d with
  | .tup ds => ds.length = is.length ∧ D.nx (setAll is ds τ) M1
  | _ => False
section
variable {X : Cx} {F0 : Bs} {st : Stmt} {rest : List Stmt} {t u : DS} {e : Expr} {te : DE} {pos : Pos}
theorem sds_nil : PSs X [] (liS X.K F0 dNext) := pssImp pss_nil fun D σ H ⟨F, R, τ, M, D', e0, st, sl, q, k⟩ => k.nx _ _ _ _ _ Ext.refl st sl q
theorem sds_cons (h1 : PS X st (liS X.K F0 t)) (h2 : PSs X rest (liS X.K F0 u)) : PSs X (st :: rest) (liS X.K F0 (dSeq t u)) := by
  refine pssImp (pss_cons h1 h2) fun D σ H ⟨F, R, τ, M, D', e0, st, sl, q, k⟩ => ?_
  refine ⟨F, R, τ, M, _, e0, st, sl, q, ⟨fun σ2 H2 F2 τ2 M2 e2 st2 sl2 q2 => ?_, k.rt, k.bk, k.ct⟩⟩
  exact ⟨F2, R, τ2, M2, D', e0.trans e2, st2, sl2, q2, k.ext e2⟩
theorem sds_one (h1 : PS X st (liS X.K F0 t)) : PSs X [st] (liS X.K F0 t) := pss_one h1
theorem sd_pass : PS X (.Pass pos) (liS X.K F0 dNext) := psImp ps_pass fun D σ H ⟨F, R, τ, M, D', e0, st, sl, q, k⟩ => k.nx _ _ _ _ _ Ext.refl st sl q
theorem sd_break : PS X (.Break pos) (liS X.K F0 dBreak) := psImp ps_break fun D σ H ⟨F, R, τ, M, D', e0, st, sl, q, k⟩ => k.bk _ _ _ _ _ Ext.refl st sl q
theorem sd_cont : PS X (.Continue pos) (liS X.K F0 dCont) := psImp ps_continue fun D σ H ⟨F, R, τ, M, D', e0, st, sl, q, k⟩ => k.ct _ _ _ _ _ Ext.refl st sl q
theorem sd_expr (he : PE X e (liE X.K F0 te)) (hs : swapsWith e none pos.line X.env = pure false := by rfl) : PS X (.Expr e pos) (liS X.K F0 (dDrop te)) :=
  psImp (ps_expr he hs) fun D σ H ⟨F, R, τ, M, D', e0, st, sl, q, k⟩ => ⟨F, R, τ, M, _, e0, st, sl, q, fun v H2 F2 d M2 e2 st2 r2 q2 => k.nx _ _ _ _ _ e2 st2 (sl.ext e2) q2⟩
theorem sd_ret (he : PE X e (liE X.K F0 te)) : PS X (.Return (some e) pos) (liS X.K F0 (dRet te)) :=
  psImp (ps_ret he) fun D σ H ⟨F, R, τ, M, D', e0, st, sl, q, k⟩ => ⟨F, R, τ, M, _, e0, st, sl, q, k.rt⟩
theorem sd_retN : PS X (.Return none pos) (liS X.K F0 dRetN) :=
  psImp ps_retN fun D σ H ⟨F, R, τ, M, D', e0, st, sl, q, k⟩ => k.rt _ _ _ _ _ Ext.refl st .non q
theorem sd_if {c : Expr} {a b : List Stmt} {tc : DT} (hc : PT X c (liT X.K F0 tc)) (ha : PSs X a (liS X.K F0 t)) (hb : PSs X b (liS X.K F0 u)) : PS X (.If c a b pos) (liS X.K F0 (dIfS tc t u)) := by
  refine psImp (ps_if hc ha hb) fun D σ H ⟨F, R, τ, M, D', e0, st, sl, q, k⟩ => ?_
  refine ⟨F, R, τ, M, _, e0, st, sl, q, fun b H1 F1 M1 e1 st1 q1 => ?_⟩
  cases b with
  | true => rw [if_pos rfl] at q1 ⊢; exact ⟨F1, R, τ, M1, D', e0.trans e1, st1, sl.ext e1, q1, k.ext e1⟩
  | false => rw [if_neg Bool.false_ne_true] at q1 ⊢; exact ⟨F1, R, τ, M1, D', e0.trans e1, st1, sl.ext e1, q1, k.ext e1⟩
/-- name = value -/
theorem sd_set {i : Nat} {x : Str} {pos' : Pos} (hN : X.N.Nodup) (hi : X.N[i]? = some x) (hx : Loc X.env.scope x) (he : PE X e (liE X.K F0 te)) (hs : swapsWith e (some (.Name x pos')) pos.line X.env = pure false := by rfl) (hf : X.fn x = true ∨ X.env.scope.names.lookup x = some .local := by first | exact .inl rfl | exact .inr rfl | assumption) :
    PS X (.Assign [.Name x pos'] e pos) (liS X.K F0 (dSet i te)) :=
  psImp (ps_set hN hi hx he hs hf) fun D σ H ⟨F, R, τ, M, D', e0, st, sl, q, k⟩ => ⟨F, R, τ, M, _, e0, st, sl, q, fun v H2 F2 d M2 e2 st2 r2 q2 => k.nx _ _ _ _ _ e2 st2 ((sl.ext e2).put r2 i) q2⟩
/-- a, b, .. = a tuple -/
inductive GNames (X : Cx) : List Expr → List Nat → TGs → Prop
  | nil : GNames X [] [] gNil
  | cons {i : Nat} {x : Str} {p : Pos} {es : List Expr} {is : List Nat} {u : TGs} : PG X (.Name x p) (gName i) → GNames X es is u → (assignEach (.Name x p :: es) X.env).map (·.2) = assign (.Name x p) X.env :: (assignEach es X.env).map (·.2) →
      GNames X (.Name x p :: es) (i :: is) (gCons (gName i) u)
theorem GNames.pgs {es : List Expr} {is : List Nat} {u : TGs} (h : GNames X es is u) : PGs X es u := by
  induction h with
  | nil => exact pgs_nil
  | cons h _ hs ih => exact pgs_cons h ih hs
theorem GNames.run {es : List Expr} {is : List Nat} {u : TGs} (h : GNames X es is u) {K : PySem.W.Frag} {F R : Hp} {M : Mp} {D' : EndsD} {E2 : Ends} (k : KS K F R D' E2) : ∀ {xs : List V} {ds : List D} {σ : L2.St} {H : Hp} {τ : SD},
    Stt K F R H M → Slots K F σ τ → RepAll K F xs ds → ds.length = is.length → D'.nx (setAll is ds τ) M → u xs σ H E2.nx := by
  induction h with
  | nil =>
    intro xs ds σ H τ st sl ra hl q
    cases ra with
    | nil => exact ⟨rfl, k.nx _ _ _ _ _ Ext.refl st sl q⟩
    | cons _ _ => cases hl
  | @cons i x p es is u h _ hs ih =>
    intro xs ds σ H τ st sl ra hl q
    cases ra with
    | nil => cases hl
    | cons r ra => exact ⟨_, _, rfl, ih st (sl.put r i) ra (Nat.succ.inj hl) q⟩
theorem sd_unp {es : List Expr} {is : List Nat} {kk : Nat} {p2 : Pos} {ug : TGs} (hc : X.calm = true) (g : GNames X es is ug) (he : PE X e (liE X.K F0 te)) (hn : (assignEach es X.env).length = is.length := by rfl) (hst : (assignEach es X.env).findIdx? (·.1) = none := by rfl)
    (hs : swapsWithSole [.Tuple es kk p2] e pos.line X.env = pure false := by rfl) (hw : swappedStores [.Tuple es kk p2] e X.env = pure none := by rfl)
    (h1 : (assignEach [.Tuple es kk p2] X.env).map (·.2) = [assign (.Tuple es kk p2) X.env] := by rfl) : PS X (.Assign [.Tuple es kk p2] e pos) (liS X.K F0 (dUnp is te)) := by
  refine psImp (ps_asg he (pg_tup hc g.pgs hn hst) hs hw h1) fun D σ H ⟨F, R, τ, M, D', e0, st, sl, q, k⟩ => ?_
  refine ⟨F, R, τ, M, _, e0, st, sl, q, fun v H2 F2 d M2 e2 st2 r2 q2 => ?_⟩
  cases d <;> try exact q2.elim
  rename_i ds
  obtain ⟨a, xs, rfl, hq, ra⟩ := tp_get st2 r2
  exact ⟨a, xs, rfl, hq, by rw [ra.len]; exact q2.1, g.run (k.ext e2) st2 (sl.ext e2) ra q2.1 q2.2⟩
/-- name op= e -/
def dAug (i : Nat) (te : DE) (r : R2D) : DS := fun D τ M => match τ[i]? with
  | some (some x) => te τ M fun y M1 => r x y M1 fun z M2 => D.nx (τ.set i (some z)) M2
  | _ => False
theorem sd_aug {i : Nat} {x : Str} {op : Operator} {r : R2D} {pos' : Pos} (hN : X.N.Nodup) (hi : X.N[i]? = some x) (hx : Loc X.env.scope x) (he : PE X e (liE X.K F0 te)) (ho : OpD X F0 (inplaceOp op) r) (hf : X.fn x = true ∨ X.env.scope.names.lookup x = some .local := by first | exact .inl rfl | exact .inr rfl | assumption) :
    PS X (.AugAssign (.Name x pos') op e pos) (liS X.K F0 (dAug i te r)) := by
  refine psImp (ps_aug hN hi hx he (ti := liR X.K F0 r) ho hf) fun D σ H ⟨F, R, τ, M, D', e0, st, sl, q, k⟩ => ?_
  unfold dAug at q
  split at q <;> try exact q.elim
  rename_i x0 e1
  obtain ⟨v, ev, rv⟩ := sl.get e1
  refine ⟨v, ev, F, R, τ, M, _, e0, st, sl, q, fun w H2 F2 d M2 e2 st2 r2 q2 => ?_⟩
  refine ⟨F2, R, M2, x0, d, _, e0.trans e2, st2, rv.ext e2, r2, q2, fun z H3 F3 dz M3 e3 st3 r3 q3 => ?_⟩
  exact k.nx _ _ _ _ _ (e2.trans e3) st3 ((sl.ext (e2.trans e3)).put r3 i) q3
/-- xs[i] = e -/
abbrev RSet := D → D → D → Mp → (Mp → Prop) → Prop
def dStore (te to ti : DE) (r : RSet) : DS := fun D τ M => te τ M fun v M1 => to τ M1 fun o M2 => ti τ M2 fun i M3 => r o i v M3 fun M4 => D.nx τ M4
def liSet (K : PySem.W.Frag) (F0 : Bs) (r : RSet) : TSet := fun o i v H Q => ∃ F R M o' i' v' Q', Bas F0 F R ∧ Stt K F R H M ∧ Rep K F o o' ∧ Rep K F i i' ∧ Rep K F v v' ∧ r o' i' v' M Q' ∧ ∀ H2 F2 M2, Ext F F2 → Stt K F2 R H2 M2 → Q' M2 → Q H2
def dSetL : RSet := fun o i v M Q => match o, i with
  | .ref a, .int k => match M a with
    | some (.lst xs) => match ixN xs.length k with
      | some j => Q (updM M a (.lst (xs.set j v)))
      | none => False
    | _ => False
  | _, _ => False
theorem std_list : PSet X (liSet X.K F0 dSetL) := by
  intro pins s σ H o i v ov iv u Q I ro ri rv ⟨F, R, M, o', i', v', Q', e0, st, r1, r2, r3, q, k⟩
  unfold dSetL at q
  split at q <;> try exact q.elim
  rename_i a kx
  split at q <;> try exact q.elim
  rename_i xs em
  split at q <;> try exact q.elim
  rename_i j ej
  cases r1; cases r2
  obtain ⟨_, ho, hh, rr⟩ := st.ow _ _ em
  obtain ⟨vs, rfl, ra⟩ := rr.lst_iff
  refine set_list pins s σ H _ _ v ov iv u Q I ro ri rv ⟨a, vs, kx, j, rfl, rfl, hh, by rw [ra.len]; exact ej, ?_⟩
  exact k _ _ _ Ext.refl (st.store em (fun _ z => by cases z) (m' := .lst (xs.set j v')) (ra.put r3 j)) q
theorem sd_store {o i : Expr} {to ti : DE} {r : RSet} {p2 : Pos} (he : PE X e (liE X.K F0 te)) (ho : PE X o (liE X.K F0 to)) (hi : PE X i (liE X.K F0 ti)) (hs : PSet X (liSet X.K F0 r))
    (ha : ∀ v, assign (.Subscript o i p2) X.env v = (do
      let ov ← holding [v] (eval o X.env)
      let iv ← holding [v, ov] (eval i X.env)
      standAt p2
      holding [v, ov, iv] (setItem ov iv v)
      release [v, ov, iv] []) := by intro _; rfl)
    (hs1 : swapsWithSole [.Subscript o i p2] e pos.line X.env = pure false := by rfl) (hw : swappedStores [.Subscript o i p2] e X.env = pure none := by rfl)
    (h1 : (assignEach [.Subscript o i p2] X.env).map (·.2) = [assign (.Subscript o i p2) X.env] := by rfl) : PS X (.Assign [.Subscript o i p2] e pos) (liS X.K F0 (dStore te to ti r)) := by
  refine psImp (ps_asg he (pg_sub ho hi hs ha) hs1 hw h1) fun D σ H ⟨F, R, τ, M, D', e0, st, sl, q, k⟩ => ?_
  refine ⟨F, R, τ, M, _, e0, st, sl, q, fun v H1 F1 d M1 e1 st1 r1 q1 => ?_⟩
  refine ⟨F1, R, τ, M1, _, e0.trans e1, st1, sl.ext e1, q1, fun ov H2 F2 d2 M2 e2 st2 r2 q2 => ?_⟩
  refine ⟨F2, R, τ, M2, _, e0.trans (e1.trans e2), st2, sl.ext (e1.trans e2), q2, fun iv H3 F3 d3 M3 e3 st3 r3 q3 => ?_⟩
  exact ⟨F3, R, M3, d2, d3, d, _, e0.trans (e1.trans (e2.trans e3)), st3, r2.ext e3, r3, r1.ext (e2.trans e3), q3, fun H4 F4 M4 e4 st4 q4 => k.nx _ _ _ _ _ (e1.trans (e2.trans (e3.trans e4))) st4 (sl.ext (e1.trans (e2.trans (e3.trans e4)))) q4⟩
/-- while -/
def dWhile (c : DT) (tb : DS) : DS := fun D τ M => ∃ W : Nat → SD → Mp → Prop, (∃ m, W m τ M) ∧ ∀ m τ M, W m τ M →
  c τ M fun b M1 => if b = true then tb { D with nx := fun τ2 M2 => ∃ m', m' < m ∧ W m' τ2 M2, ct := fun τ2 M2 => ∃ m', m' < m ∧ W m' τ2 M2, bk := D.nx } τ M1 else D.nx τ M1
theorem sd_while {c : Expr} {body : List Stmt} {tc : DT} {tb : DS} (hp : PassesOwn (model X.prog X.w) X.A X.env X.xe) (hc : PT X c (liT X.K F0 tc)) (hb : PSs X body (liS X.K F0 tb)) : PS X (.While c body [] pos) (liS X.K F0 (dWhile tc tb)) := by
  refine psImp (ps_while hp hc hb) fun D σ H ⟨F, R, τ, M, D', e0, st, sl, ⟨W, ⟨m0, w0⟩, turn⟩, k⟩ => ?_
  refine ⟨fun m σ H => ∃ F1 τ1 M1, Ext F F1 ∧ Stt X.K F1 R H M1 ∧ Slots X.K F1 σ τ1 ∧ W m τ1 M1, ⟨m0, F, τ, M, Ext.refl, st, sl, w0⟩, fun m σ1 H1 ⟨F1, τ1, M1, e1, st1, sl1, w1⟩ => ?_⟩
  refine ⟨F1, R, τ1, M1, _, e0.trans e1, st1, sl1, turn m τ1 M1 w1, fun b H2 F2 M2 e2 st2 q2 => ?_⟩
  cases b with
  | false => rw [if_neg Bool.false_ne_true] at q2 ⊢; exact k.nx _ _ _ _ _ (e1.trans e2) st2 (sl1.ext e2) q2
  | true =>
    rw [if_pos rfl] at q2 ⊢
    refine ⟨fun σ' H' => ∃ m', m' < m ∧ ∃ F3 τ3 M3, Ext F F3 ∧ Stt X.K F3 R H' M3 ∧ Slots X.K F3 σ' τ3 ∧ W m' τ3 M3, fun σ' H' ⟨m', hm, z⟩ => ⟨m', hm, z⟩, ?_⟩
    refine ⟨F2, R, τ1, M2, _, e0.trans (e1.trans e2), st2, sl1.ext e2, q2, ⟨?_, k.rt.ext (e1.trans e2), k.nx.ext (e1.trans e2), ?_⟩⟩
    · exact fun σ3 H3 F3 τ3 M3 e3 st3 sl3 ⟨m', hm, w3⟩ => ⟨m', hm, F3, τ3, M3, e1.trans (e2.trans e3), st3, sl3, w3⟩
    · exact fun σ3 H3 F3 τ3 M3 e3 st3 sl3 ⟨m', hm, w3⟩ => ⟨m', hm, F3, τ3, M3, e1.trans (e2.trans e3), st3, sl3, w3⟩
end
end DL

/-! DL, the rules: for, comprehensions, defs -/
namespace DL
open PySem PySem.Spec PyProof.Rows L2

/-! ### what is walked -/
structure ItD where
  n : Nat
  at' : Nat → D
  ok : Mp → Prop
structure ItRel (K : PySem.W.Frag) (F : Hp) (J : It) (j : ItD) : Prop where
  go : ∀ i F2 R H M, Ext F F2 → Stt K F2 R H M → j.ok M → i < j.n → J.go i H
  yld : ∀ i F2 R H M x H', Ext F F2 → Stt K F2 R H M → j.ok M → i < j.n → J.yld i H x H' → ∃ F3, Ext F2 F3 ∧ Stt K F3 R H' M ∧ Rep K F3 x (j.at' i) ∧ ∀ b, R b ≠ none → H' b = H b
  stop : ∀ F2 R H M, Ext F F2 → Stt K F2 R H M → j.ok M → J.stop j.n H
theorem ItRel.ext {K : PySem.W.Frag} {F F2 : Hp} {J : It} {j : ItD} (r : ItRel K F J j) (e : Ext F F2) : ItRel K F2 J j :=
  ⟨fun i F3 R H M e3 => r.go i F3 R H M (e.trans e3), fun i F3 R H M x H' e3 => r.yld i F3 R H M x H' (e.trans e3), fun F3 R H M e3 => r.stop F3 R H M (e.trans e3)⟩
abbrev DTI := SD → Mp → (ItD → Mp → Prop) → Prop
def KI (K : PySem.W.Frag) (F R : Hp) (Q' : ItD → Mp → Prop) (Q : It → Hp → Prop) : Prop := ∀ J H2 F2 j M2, Ext F F2 → Stt K F2 R H2 M2 → ItRel K F2 J j → Q' j M2 → Q J H2
def liI (K : PySem.W.Frag) (F0 : Bs) (t : DTI) : TI := fun σ H Q => ∃ F R τ M Q', Bas F0 F R ∧ Stt K F R H M ∧ Slots K F σ τ ∧ t τ M Q' ∧ KI K F R Q' Q
theorem piImp {X : Cx} {tg e : Expr} {t t' : TI} (h : PI X tg e t) (k : ∀ σ H Q, t' σ H Q → t σ H Q) : PI X tg e t' := ⟨fun pins s σ H R I q => h.run pins s σ H R I (k _ _ _ q)⟩
/-- the items of a list or a tuple -/
def itSeq (d : D) (ds : List D) : ItD := ⟨ds.length, fun i => ds.getD i .non, fun M => sqOf M d = some ds⟩
def iSeqD (te : DE) : DTI := fun τ M Q => te τ M fun d M1 => match sqOf M1 d with
  | some ds => Q (itSeq d ds) M1
  | none => False
def itRng (lo : Int) (n : Nat) : ItD := ⟨n, fun i => .int (lo + i), fun _ => True⟩
def iRng1D (ta : DA) : DTI := fun τ M Q => ta τ M fun ds M1 => match ds with
  | [.int j] => -(2 ^ 62) ≤ j ∧ j < 2 ^ 62 ∧ Q (itRng 0 j.toNat) M1
  | _ => False
def iRng2D (ta : DA) : DTI := fun τ M Q => ta τ M fun ds M1 => match ds with
  | [.int i, .int j] => (-(2 ^ 62) ≤ i ∧ i < 2 ^ 62 ∧ -(2 ^ 62) ≤ j ∧ j < 2 ^ 62) ∧ Q (itRng i (j - i).toNat) M1
  | _ => False
/-- either of the two -/
def iBoth (K : PySem.W.Frag) (tl : TE) : TI := fun σ H R => tl σ H fun x H1 => ∃ a, x = .ref a ∧ (((∃ xs, SqL K H1 a xs) ∧ R (Itl K a) H1) ∨ ((∃ xs, SqT K H1 a xs) ∧ R (Itt K a) H1))
section
variable {X : Cx} {F0 : Bs} {tg l : Expr} {te : DE}
theorem pi_both {tl : TE} (hl : PE X l tl) : PI X tg l (iBoth X.K tl) := by
  constructor
  intro pins s σ H R I h
  refine thn (hl.run pins s σ H _ I h) fun v s1 ⟨x, H1, I1, r1, a, ex, q⟩ => ?_
  subst ex
  cases r1
  have new : ∀ b ∈ [s1.heap.objs.size], FpOk X pins H1 b := fun b hb => by
    have e2 : b = s1.heap.objs.size := List.mem_singleton.mp hb
    rw [e2]
    exact I1.fpOk (Nat.le_refl _) (I1.hok.fresh (Nat.le_refl _))
  rcases q with ⟨⟨xs, hq⟩, q⟩ | ⟨⟨xs, hq⟩, q⟩
  · obtain ⟨its, rv, p, hz⟩ := I1.list hq
    exact wpAny_pyIter_list p.isList ⟨s1.heap.objs.size, [s1.heap.objs.size], _, _, H1, rfl, I1.kept (t' := s1.toks) fun b o e => Heap.get?_push_of_some _ e, turn_list a _, ⟨_, Heap.get?_push_size _ rfl, rfl, rfl⟩, new, q⟩
  · obtain ⟨its, rv, p, hz⟩ := I1.tuple hq
    exact wpAny_pyIter_tuple (show s1.heap.IsTuple a its.toArray from p) ⟨s1.heap.objs.size, [s1.heap.objs.size], _, _, H1, rfl, I1.kept (t' := s1.toks) fun b o e => Heap.get?_push_of_some _ e, turn_tuple a _, ⟨_, Heap.get?_push_size _ rfl, rfl, rfl⟩, new, q⟩
theorem getD_of {α : Type} {ds : List α} {i : Nat} {d z : α} (h : ds[i]? = some d) : ds.getD i z = d := by rw [List.getD_eq_getElem?_getD, h]; rfl
theorem rel_list {K : PySem.W.Frag} {F R H : Hp} {M : Mp} {a : Addr} {d : D} {ds : List D} (st : Stt K F R H M) (r : Rep K F (.ref a) d) (h : lsOf M d = some ds) (h2 : ∀ M, sqOf M d = some ds → lsOf M d = some ds) : ItRel K F (Itl K a) (itSeq d ds) where
  go := fun i F2 R H M e st ok hi => by
    obtain ⟨a', xs, ea, hs, ra⟩ := ls_get st (r.ext e) (h2 M ok)
    cases ea
    have hi : i < ds.length := hi
    exact ⟨xs, xs[i]'(by rw [ra.len]; exact hi), hs, List.getElem?_eq_getElem _⟩
  yld := fun i F2 R H M x H' e st ok hi y => by
    obtain ⟨rfl, y⟩ := y
    obtain ⟨a', xs, ea, hs, ra⟩ := ls_get st (r.ext e) (h2 M ok)
    cases ea
    obtain ⟨d', e1, e2⟩ := ra.get (y xs hs)
    exact ⟨F2, Ext.refl, st, by show Rep K F2 x (ds.getD i .non); rw [getD_of e1]; exact e2, fun _ _ => rfl⟩
  stop := fun F2 R H M e st ok => by
    obtain ⟨a', xs, ea, hs, ra⟩ := ls_get st (r.ext e) (h2 M ok)
    cases ea
    exact ⟨xs, hs, by rw [ra.len]; exact Nat.le_refl _⟩
theorem rel_tup {K : PySem.W.Frag} {F : Hp} {a : Addr} {ds : List D} (r : Rep K F (.ref a) (.tup ds)) : ItRel K F (Itt K a) (itSeq (.tup ds) ds) where
  go := fun i F2 R H M e st ok hi => by
    obtain ⟨a', xs, ea, hs, ra⟩ := tp_get st (r.ext e)
    cases ea
    have hi : i < ds.length := hi
    exact ⟨xs, xs[i]'(by rw [ra.len]; exact hi), hs, List.getElem?_eq_getElem _⟩
  yld := fun i F2 R H M x H' e st ok hi y => by
    obtain ⟨rfl, y⟩ := y
    obtain ⟨a', xs, ea, hs, ra⟩ := tp_get st (r.ext e)
    cases ea
    obtain ⟨d', e1, e2⟩ := ra.get (y xs hs)
    exact ⟨F2, Ext.refl, st, by show Rep K F2 x (ds.getD i .non); rw [getD_of e1]; exact e2, fun _ _ => rfl⟩
  stop := fun F2 R H M e st ok => by
    obtain ⟨a', xs, ea, hs, ra⟩ := tp_get st (r.ext e)
    cases ea
    exact ⟨xs, hs, by rw [ra.len]; exact Nat.le_refl _⟩
theorem rel_rng {K : PySem.W.Frag} {F : Hp} {lo : Int} {n : Nat} : ItRel K F (Itr lo n) (itRng lo n) where
  go := fun i F2 R H M e st ok hi => hi
  yld := fun i F2 R H M x H' e st ok hi y => by
    obtain ⟨rfl, rfl⟩ := y
    exact ⟨F2, Ext.refl, st, .int _, fun _ _ => rfl⟩
  stop := fun F2 R H M e st ok => Nat.le_refl _
theorem id_seq (hl : PE X l (liE X.K F0 te)) : PI X tg l (liI X.K F0 (iSeqD te)) := by
  refine piImp (pi_both hl) fun σ H Q ⟨F, R, τ, M, Q', e0, st, sl, q, k⟩ => ?_
  refine ⟨F, R, τ, M, _, e0, st, sl, q, fun v H1 F1 d M1 e1 st1 r1 q1 => ?_⟩
  split at q1 <;> try exact q1.elim
  rename_i ds h1
  rcases sqOf_cases h1 with rfl | h2
  · have r0 := r1
    obtain ⟨a, xs, rfl, hs, ra⟩ := tp_get st1 r1
    exact ⟨a, rfl, .inr ⟨⟨xs, hs⟩, k _ _ _ _ _ e1 st1 (rel_tup r0) q1⟩⟩
  · have r0 := r1
    obtain ⟨a, xs, rfl, hs, ra⟩ := ls_get st1 r1 h2
    refine ⟨a, rfl, .inl ⟨⟨xs, hs⟩, k _ _ _ _ _ e1 st1 (rel_list st1 r0 h2 fun M2 z => ?_) q1⟩⟩
    rcases sqOf_cases z with rfl | z
    · cases h2
    · exact z
theorem id_rng1 {a : Expr} {ta : DA} {p pos : Pos} (hg : Gl X "range") (hm : X.mg "range" = none) (ha : PA X [a] (liA X.K F0 ta)) (hs : starEach [a] X.env = [(false, eval a X.env)] := by rfl) : PI X tg (.Call (.Name "range" p) [a] [] pos) (liI X.K F0 (iRng1D ta)) := by
  refine piImp (pi_range1 hg hm ha hs) fun σ H Q ⟨F, R, τ, M, Q', e0, st, sl, q, k⟩ => ?_
  refine ⟨F, R, τ, M, _, e0, st, sl, q, fun v H1 F1 ds M1 e1 st1 r1 q1 => ?_⟩
  split at q1 <;> try exact q1.elim
  obtain ⟨x, rfl, r⟩ := rep1 r1
  cases r
  exact ⟨_, rfl, q1.1, q1.2.1, k _ _ _ _ _ e1 st1 rel_rng q1.2.2⟩
theorem id_rng2 {a b : Expr} {ta : DA} {p pos : Pos} (hg : Gl X "range") (hm : X.mg "range" = none) (ha : PA X [a, b] (liA X.K F0 ta)) (hs : starEach [a, b] X.env = [(false, eval a X.env), (false, eval b X.env)] := by rfl) (hs2 : starEach [b] X.env = [(false, eval b X.env)] := by rfl) :
    PI X tg (.Call (.Name "range" p) [a, b] [] pos) (liI X.K F0 (iRng2D ta)) := by
  refine piImp (pi_range2 hg hm ha hs hs2) fun σ H Q ⟨F, R, τ, M, Q', e0, st, sl, q, k⟩ => ?_
  refine ⟨F, R, τ, M, _, e0, st, sl, q, fun v H1 F1 ds M1 e1 st1 r1 q1 => ?_⟩
  split at q1 <;> try exact q1.elim
  obtain ⟨x, y, rfl, r, r'⟩ := rep2 r1
  cases r; cases r'
  exact ⟨_, _, rfl, q1.1, k _ _ _ _ _ e1 st1 rel_rng q1.2⟩
end

/-! ### targets -/
/-- one name (is = [i], plain), or a tuple of names -/
def bindD (plain : Bool) (is : List Nat) (d : D) (τ : SD) : Option SD :=
  if plain then (match is with | [i] => some (τ.set i (some d)) | _ => none)
  else match d with
    | .tup ds => if ds.length = is.length then some (setAll is ds τ) else none
    | _ => none
def gD (plain : Bool) (is : List Nat) : D → SD → Mp → (SD → Mp → Prop) → Prop := fun d τ M Q => match bindD plain is d τ with
  | some τ2 => Q τ2 M
  | none => False
/-- a target's concrete reading does what bindD says -/
structure TgOk (K : PySem.W.Frag) (g : TG) (plain : Bool) (is : List Nat) : Prop where
  run : ∀ F R H M v d σ τ τ2 (Q : L2.St → Hp → Prop), Stt K F R H M → Slots K F σ τ → Rep K F v d → bindD plain is d τ = some τ2 → (∀ σ2, Slots K F σ2 τ2 → (∃ xs : List V, (is.length = xs.length) ∧ σ2 = (is.zip xs).foldl (fun s p => s.set p.1 (some p.2)) σ) → Q σ2 H) → g v σ H Q
theorem tg_name {K : PySem.W.Frag} {i : Nat} : TgOk K (gName i) true [i] := by
  constructor
  intro F R H M v d σ τ τ2 Q st sl r e q
  have e : some (τ.set i (some d)) = some τ2 := e
  cases e
  exact q _ (sl.put r i) ⟨[v], rfl, rfl⟩
theorem names_run {K : PySem.W.Frag} {F : Hp} {X : Cx} {es : List Expr} {is : List Nat} {u : TGs} (h : GNames X es is u) : ∀ {xs : List V} {ds : List D} {σ : L2.St} {H : Hp} {τ : SD} {Q : L2.St → Hp → Prop}, Slots K F σ τ → RepAll K F xs ds → ds.length = is.length →
    (∀ σ2, Slots K F σ2 (setAll is ds τ) → (∃ xs : List V, (is.length = xs.length) ∧ σ2 = (is.zip xs).foldl (fun s p => s.set p.1 (some p.2)) σ) → Q σ2 H) → u xs σ H Q := by
  induction h with
  | nil =>
    intro xs ds σ H τ Q sl ra hl q
    cases ra with
    | nil => exact ⟨rfl, q _ sl ⟨[], rfl, rfl⟩⟩
    | cons _ _ => cases hl
  | @cons i x p es is u h _ hs ih =>
    intro xs ds σ H τ Q sl ra hl q
    cases ra with
    | nil => cases hl
    | cons r ra =>
      rename_i v vs d ds
      refine ⟨_, _, rfl, ih (sl.put r i) ra (Nat.succ.inj hl) fun σ2 s2 ⟨ys, h1, h2⟩ => ?_⟩
      exact q σ2 s2 ⟨v :: ys, by simp [h1], by rw [h2]; rfl⟩
theorem tg_tup {K : PySem.W.Frag} {X : Cx} {es : List Expr} {is : List Nat} {u : TGs} (h : GNames X es is u) : TgOk K (gTup K is.length u) false is := by
  constructor
  intro F R H M v d σ τ τ2 Q st sl r e q
  cases d <;> try (exact nomatch (show (none : Option SD) = some τ2 from e))
  rename_i ds
  have e : (if ds.length = is.length then some (setAll is ds τ) else none) = some τ2 := e
  split at e
  · rename_i hl
    cases e
    obtain ⟨a, xs, rfl, hs, ra⟩ := tp_get st r
    exact ⟨a, xs, rfl, hs, by rw [ra.len]; exact hl, names_run h sl ra hl q⟩
  · cases e
/-! ### for -/
def dFor (wi : DTI) (g : D → SD → Mp → (SD → Mp → Prop) → Prop) (tb : DS) : DS := fun D τ M => wi τ M fun j M1 => ∃ Pv : Nat → SD → Mp → Prop, Pv 0 τ M1 ∧ (∀ i τ M, i ≤ j.n → Pv i τ M → j.ok M) ∧
  (∀ i τ M, i < j.n → Pv i τ M → g (j.at' i) τ M fun τ2 M2 => tb { D with nx := Pv (i + 1), ct := Pv (i + 1), bk := D.nx } τ2 M2) ∧ ∀ τ M, Pv j.n τ M → D.nx τ M
section
variable {X : Cx} {F0 : Bs} {tg iter : Expr} {body : List Stmt} {wi : DTI} {g : TG} {tb : DS} {plain : Bool} {is : List Nat} {pos : Pos}
theorem sd_for (hp : PassesOwn (model X.prog X.w) X.A X.env X.xe) (hc : X.calm = true) (hi : PI X tg iter (liI X.K F0 wi)) (hg : PG X tg g) (ht : TgOk X.K g plain is) (hb : PSs X body (liS X.K F0 tb))
    (hs : ∀ x, foldedSetIterable iter X.env x = pure x := by intro _; rfl) : PS X (.For tg iter body [] pos) (liS X.K F0 (dFor wi (gD plain is) tb)) := by
  refine psImp (ps_for hp hc hi hg hb hs) fun D σ H ⟨F, R, τ, M, D', e0, st, sl, q, k⟩ => ?_
  refine ⟨F, R, τ, M, _, e0, st, sl, q, fun J H1 F1 j M1 e1 st1 rl ⟨Pv, p0, pk, ps, pd⟩ => ?_⟩
  refine ⟨fun i m σ H => m = j.n - i ∧ i ≤ j.n ∧ ∃ F2 τ2 M2, Ext F1 F2 ∧ Stt X.K F2 R H M2 ∧ Slots X.K F2 σ τ2 ∧ Pv i τ2 M2, ⟨j.n, by simp, Nat.zero_le _, F1, τ, M1, Ext.refl, st1, sl.ext e1, p0⟩, ?_⟩
  rintro i m σ2 H2 ⟨rfl, hi, F2, τ2, M2, e2, st2, sl2, p2⟩
  have ok := pk i τ2 M2 hi p2
  by_cases hlt : i < j.n
  · refine .inr ⟨rl.go i F2 R H2 M2 e2 st2 ok hlt, fun σ' H' => ∃ F2 τ2 M2, Ext F1 F2 ∧ Stt X.K F2 R H' M2 ∧ Slots X.K F2 σ' τ2 ∧ Pv (i + 1) τ2 M2, fun σ' H' z => ⟨j.n - (i + 1), by omega, rfl, hlt, z⟩, fun x H3 y => ?_⟩
    obtain ⟨F3, e3, st3, rx, _⟩ := rl.yld i F2 R H2 M2 x H3 e2 st2 ok hlt y
    have step := ps i τ2 M2 hlt p2
    unfold gD at step
    split at step
    · rename_i τ3 eb
      refine ht.run F3 R H3 M2 x _ σ2 τ2 τ3 _ st3 (sl2.ext e3) rx eb fun σ3 sl3 _ => ?_
      refine ⟨F3, R, τ3, M2, _, e0.trans (e1.trans (e2.trans e3)), st3, sl3, step, ⟨?_, k.rt.ext (e1.trans (e2.trans e3)), k.nx.ext (e1.trans (e2.trans e3)), ?_⟩⟩
      · exact fun σ4 H4 F4 τ4 M4 e4 st4 sl4 q4 => ⟨F4, τ4, M4, e2.trans (e3.trans e4), st4, sl4, q4⟩
      · exact fun σ4 H4 F4 τ4 M4 e4 st4 sl4 q4 => ⟨F4, τ4, M4, e2.trans (e3.trans e4), st4, sl4, q4⟩
    · exact step.elim
  · have e : i = j.n := by omega
    subst e
    exact .inl ⟨rl.stop F2 R H2 M2 e2 st2 ok, k.nx _ _ _ _ _ (e1.trans e2) st2 sl2 (pd τ2 M2 p2)⟩
end

/-! ### comprehensions -/
def wipeD (τ : SD) : List Nat → SD
  | [] => τ
  | v :: vs => (wipeD τ vs).set v none
theorem Slots.wipe {K : PySem.W.Frag} {F : Hp} {σ : L2.St} {τ : SD} (h : Slots K F σ τ) : ∀ vs : List Nat, Slots K F (wipe σ vs) (wipeD τ vs)
  | [] => h
  | v :: vs => (Slots.wipe h vs).drop1 v
theorem wipe_get (σ : L2.St) (k : Nat) : ∀ vs : List Nat, (wipe σ vs)[k]? = if k ∈ vs then (σ[k]?).map (fun _ => none) else σ[k]?
  | [] => by simp [wipe]
  | v :: vs => by
    show ((wipe σ vs).set v none)[k]? = _
    rw [List.getElem?_set]
    have ih := wipe_get σ k vs
    by_cases h : v = k
    · subst h
      rw [if_pos rfl, if_pos List.mem_cons_self, wipe_length]
      by_cases hk : v < σ.length
      · rw [if_pos hk, List.getElem?_eq_getElem hk]; rfl
      · rw [if_neg hk, List.getElem?_eq_none (by omega)]; rfl
    · rw [if_neg h, ih]
      by_cases hm : k ∈ vs
      · rw [if_pos hm, if_pos (List.mem_cons_of_mem _ hm)]
      · rw [if_neg hm, if_neg fun z => (List.mem_cons.mp z).elim (fun q => h q.symm) hm]
theorem wipe_set {σ : L2.St} {i : Nat} {x : Option V} {vs : List Nat} (h : i ∈ vs) : wipe (σ.set i x) vs = wipe σ vs := by
  apply List.ext_getElem?
  intro k
  rw [wipe_get, wipe_get, List.getElem?_set]
  by_cases e : i = k
  · subst e
    rw [if_pos h, if_pos h, if_pos rfl]
    by_cases hk : i < σ.length
    · rw [if_pos hk, List.getElem?_eq_getElem hk]; rfl
    · rw [if_neg hk, List.getElem?_eq_none (by omega)]
  · rw [if_neg e]
theorem wipe_wipe {σ : L2.St} {vs : List Nat} : wipe (wipe σ vs) vs = wipe σ vs := by
  apply List.ext_getElem?
  intro k
  rw [wipe_get, wipe_get]
  by_cases h : k ∈ vs
  · simp only [if_pos h]
    cases σ[k]? <;> rfl
  · simp only [if_neg h]
theorem wipe_fold {vs : List Nat} : ∀ (is : List Nat) (xs : List V) (σ : L2.St), (∀ i ∈ is, i ∈ vs) → wipe ((is.zip xs).foldl (fun s p => s.set p.1 (some p.2)) σ) vs = wipe σ vs
  | [], _, _, _ => rfl
  | i :: is, [], _, _ => rfl
  | i :: is, x :: xs, σ, h => by
    show wipe ((is.zip xs).foldl (fun s p => s.set p.1 (some p.2)) (σ.set i (some x))) vs = _
    rw [wipe_fold is xs _ fun j hj => h j (List.mem_cons_of_mem _ hj), wipe_set (h i List.mem_cons_self)]
theorem Stt.reput {K : PySem.W.Frag} {F R H : Hp} {M : Mp} {p : Addr} {xs xs' : List V} (s : Stt K F (upd R p (.lst xs)) H M) : Stt K F (upd R p (.lst xs')) (upd H p (.lst xs')) M := by
  obtain ⟨hp, fp, mp⟩ := s.rs p (.lst xs) upd_same
  have hp : H p = some (.lst xs) := hp
  refine ⟨fun a u e => ?_, fun a u e => ?_, fun a m e => ?_, s.nf, fun a u e => ?_⟩
  rotate_left 3
  · by_cases q : a = p
    · subst q; rw [upd_same] at e; cases e; trivial
    · rw [upd_ne q] at e; exact s.nr a u (by rw [upd_ne q]; exact e)
  · rw [upd_ne (ne_of_none e fp)]; exact s.fz _ _ e
  · by_cases q : a = p
    · subst q; rw [upd_same] at e; cases e; exact ⟨upd_same, fp, mp⟩
    · rw [upd_ne q] at e
      obtain ⟨h1, h2, h3⟩ := s.rs a u (by rw [upd_ne q]; exact e)
      exact ⟨h1.step (fun b v n eb => by rw [upd_ne n]; exact eb) q (fun c z => by rw [hp] at z; unfold LamX.CodeO at z; cases z), h2, h3⟩
  · have q : a ≠ p := fun z => by subst z; rw [mp] at e; cases e
    rw [upd_ne q]; exact s.ow a m e
theorem Stt.refreeze {K : PySem.W.Frag} {F R H : Hp} {M : Mp} {p : Addr} {xs : List V} (s : Stt K F (upd R p (.lst xs)) H M) (hr : R p = none) : Stt K (upd F p (.lst xs)) R H M ∧ Ext F (upd F p (.lst xs)) := by
  obtain ⟨hp, fp, mp⟩ := s.rs p (.lst xs) upd_same
  have ex : Ext F (upd F p (.lst xs)) := fun a u e => by rw [upd_ne (ne_of_none e fp)]; exact e
  refine ⟨⟨fun a u e => ?_, fun a u e => ?_, fun a m e => ?_, fun a u e => ?_, fun a u e => s.nr a u (by rw [upd_ne (ne_of_none e hr)]; exact e)⟩, ex⟩
  rotate_left 3
  · by_cases q : a = p
    · subst q; rw [upd_same] at e; cases e; trivial
    · rw [upd_ne q] at e; exact s.nf a u e
  · by_cases q : a = p
    · subst q; rw [upd_same] at e; cases e; exact hp
    · rw [upd_ne q] at e; exact s.fz _ _ e
  · have q : a ≠ p := ne_of_none e hr
    obtain ⟨h1, h2, h3⟩ := s.rs a u (by rw [upd_ne q]; exact e)
    exact ⟨h1, by rw [upd_ne q]; exact h2, h3⟩
  · have q : a ≠ p := fun z => by subst z; rw [mp] at e; cases e
    obtain ⟨h1, u, h2, h3⟩ := s.ow a m e
    exact ⟨by rw [upd_ne q]; exact h1, u, h2, h3.ext ex⟩
theorem Stt.reown {K : PySem.W.Frag} {F R H : Hp} {M : Mp} {p : Addr} {xs : List V} {m : MO} (s : Stt K F (upd R p (.lst xs)) H M) (hr : R p = none) (r : RepO K F (.lst xs) m) : Stt K F R H (updM M p m) := by
  obtain ⟨hp, fp, mp⟩ := s.rs p (.lst xs) upd_same
  refine ⟨s.fz, fun a u e => ?_, fun a m' e => ?_, s.nf, fun a u e => s.nr a u (by rw [upd_ne (ne_of_none e hr)]; exact e)⟩
  · have q : a ≠ p := ne_of_none e hr
    obtain ⟨h1, h2, h3⟩ := s.rs a u (by rw [upd_ne q]; exact e)
    exact ⟨h1, h2, by rw [updM_ne q]; exact h3⟩
  · by_cases q : a = p
    · subst q; rw [updM_same] at e; cases e; exact ⟨fp, _, hp, r⟩
    · rw [updM_ne q] at e; exact s.ow a m' e
def dYes : DT := fun _ M Q => Q true M
/-- [e for .. in .. if t]; fin: what becomes of the new list -/
def dLcG (fin : List D → Mp → QD → Prop) (wi : DTI) (plain : Bool) (is vs : List Nat) (tt : DT) (te : DE) : DE := fun τ M Q => wi τ M fun j M1 => ∃ Pv : Nat → List D → Mp → Prop, Pv 0 [] M1 ∧ (∀ i acc M, i ≤ j.n → Pv i acc M → j.ok M) ∧
  (∀ i acc M, i < j.n → Pv i acc M → match bindD plain is (j.at' i) (wipeD τ vs) with
    | some τ2 => tt τ2 M fun b M3 => if b = true then te τ2 M3 fun e M4 => acc.length < sizeLine ∧ Pv (i + 1) (acc ++ [e]) M4 else Pv (i + 1) acc M3
    | none => False) ∧ ∀ acc M, Pv j.n acc M → fin acc M Q
abbrev dLc := dLcG fun acc M Q => Q (.lst acc) M
abbrev dLcM := dLcG fun acc M Q => ∀ p, M p = none → Q (.ref p) (updM M p (.lst acc))
/-- how the new list is handed on -/
def FinOk (K : PySem.W.Frag) (fin : List D → Mp → QD → Prop) : Prop := ∀ F R H M p xs acc Q' Q, Stt K F (upd R p (.lst xs)) H M → R p = none → RepAll K F xs acc → fin acc M Q' → KE K F R Q' Q → Q (.ref p) H
theorem fin_lst {K : PySem.W.Frag} : FinOk K fun acc M Q => Q (.lst acc) M := fun F R H M p xs acc Q' Q st hr ra q k => by
  obtain ⟨s2, e⟩ := st.refreeze hr
  exact k _ _ _ _ _ e s2 (.lst upd_same (ra.ext e)) q
theorem fin_own {K : PySem.W.Frag} : FinOk K fun acc M Q => ∀ p, M p = none → Q (.ref p) (updM M p (.lst acc)) := fun F R H M p xs acc Q' Q st hr ra q k =>
  k _ _ _ _ _ Ext.refl (st.reown hr (m := .lst acc) ra) (.ref p) (q p (st.rs p _ upd_same).2.2)
section
variable {K : PySem.W.Frag} {F0 : Bs} {fin : List D → Mp → QD → Prop} {wi : DTI} {g : TG} {plain : Bool} {is vs : List Nat} {tt : DT} {te : DE}
theorem li_lc (hf : FinOk K fin) (ht : TgOk K g plain is) (hv : ∀ i ∈ is, i ∈ vs) {σ : L2.St} {H : Hp} {Q : VK} (h : liE K F0 (dLcG fin wi plain is vs tt te) σ H Q) : tLc (liI K F0 wi) g (liT K F0 tt) (liE K F0 te) vs σ H Q := by
  obtain ⟨F, R, τ, M, Q', e0, st, sl, q, k⟩ := h
  refine ⟨F, R, τ, M, _, e0, st, sl, q, fun J H1 F1 j M1 e1 st1 rl ⟨Pv, p0, pk, ps, pd⟩ => fun L hL => ?_⟩
  have rL : R L = none := by
    cases z : R L with
    | none => rfl
    | some o => exact ((st1.rs L o z).1.there hL).elim
  have fL : F1 L = none := by
    cases z : F1 L with
    | none => rfl
    | some o => have := st1.fz L o z; rw [hL] at this; cases this
  have mL : M1 L = none := by
    cases z : M1 L with
    | none => rfl
    | some o => obtain ⟨_, u, hu, _⟩ := st1.ow L o z; rw [hL] at hu; cases hu
  have exR : ∀ o, Ext R (upd R L o) := fun o a u e => by rw [upd_ne (ne_of_none e rL)]; exact e
  have st0 : Stt K F1 (upd R L (.lst [])) (upd H1 L (.lst [])) M1 := by
    refine ⟨fun a u e => ?_, fun a u e => ?_, fun a m e => ?_, st1.nf, fun a u e => ?_⟩
    rotate_left 3
    · by_cases z : a = L
      · subst z; rw [upd_same] at e; cases e; trivial
      · rw [upd_ne z] at e; exact st1.nr a u e
    · rw [upd_ne (ne_of_none e fL)]; exact st1.fz _ _ e
    · by_cases z : a = L
      · subst z; rw [upd_same] at e; cases e; exact ⟨upd_same, fL, mL⟩
      · rw [upd_ne z] at e
        obtain ⟨h1, h2, h3⟩ := st1.rs a u e
        exact ⟨h1.step (fun b v n eb => by rw [upd_ne n]; exact eb) z (fun c y => by rw [hL] at y; cases y), h2, h3⟩
    · have z : a ≠ L := fun z => by subst z; rw [mL] at e; cases e
      rw [upd_ne z]; exact st1.ow a m e
  refine ⟨fun i m H => m = j.n - i ∧ i ≤ j.n ∧ ∃ F2 M2 xs acc, Ext F1 F2 ∧ Stt K F2 (upd R L (.lst xs)) H M2 ∧ RepAll K F2 xs acc ∧ Pv i acc M2, ⟨j.n, by simp, Nat.zero_le _, F1, M1, [], [], Ext.refl, st0, .nil, p0⟩, ?_⟩
  rintro i m H2 ⟨rfl, hi, F2, M2, xs, acc, e2, st2, ra, p2⟩
  have ok := pk i acc M2 hi p2
  by_cases hlt : i < j.n
  · refine .inr ⟨rl.go i F2 _ H2 M2 e2 st2 ok hlt, fun H' => ∃ F2 M2 xs acc, Ext F1 F2 ∧ Stt K F2 (upd R L (.lst xs)) H' M2 ∧ RepAll K F2 xs acc ∧ Pv (i + 1) acc M2, fun H' z => ⟨j.n - (i + 1), by omega, rfl, hlt, z⟩, fun x H3 y => ?_⟩
    obtain ⟨F3, e3, st3, rx, _⟩ := rl.yld i F2 _ H2 M2 x H3 e2 st2 ok hlt y
    have step := ps i acc M2 hlt p2
    split at step
    · rename_i τ3 eb
      have sl3 : Slots K F3 (wipe σ vs) (wipeD τ vs) := (sl.ext (e1.trans (e2.trans e3))).wipe vs
      refine ht.run F3 _ H3 M2 x _ _ _ τ3 _ st3 sl3 rx eb fun σ4 sl4 ⟨ys, hl, e4⟩ => ⟨by rw [e4, wipe_fold is ys _ hv, wipe_wipe], ?_⟩
      have b3 : Bas F0 F3 (upd R L (.lst xs)) := ⟨(e0.trans (e1.trans (e2.trans e3))).f, e0.r.trans (exR _), e0.t.ext (exR _)⟩
      refine ⟨F3, _, τ3, M2, _, b3, st3, sl4, step, fun b H5 F5 M5 e5 st5 q5 => ?_⟩
      cases b with
      | false =>
        rw [if_neg Bool.false_ne_true] at q5 ⊢
        exact ⟨F5, M5, xs, acc, e2.trans (e3.trans e5), st5, ra.ext (e3.trans e5), q5⟩
      | true =>
        rw [if_pos rfl] at q5 ⊢
        refine ⟨F5, _, τ3, M5, _, b3.trans e5, st5, sl4.ext e5, q5, fun z H6 F6 dz M6 e6 st6 r6 ⟨q6, q7⟩ => ?_⟩
        have ra6 := ra.ext (e3.trans (e5.trans e6))
        exact ⟨xs, (st6.rs L _ upd_same).1, by rw [ra6.len]; exact q6, F6, M6, xs ++ [z], acc ++ [dz], e2.trans (e3.trans (e5.trans e6)), st6.reput, ra6.app (.cons r6 .nil), q7⟩
    · exact step.elim
  · have e : i = j.n := by omega
    subst e
    exact .inl ⟨rl.stop F2 _ H2 M2 e2 st2 ok, hf F2 R H2 M2 L xs acc Q' Q st2 rL ra (pd acc M2 p2) (k.ext (e1.trans e2))⟩
end
section
variable {X : Cx} {F0 : Bs} {elt tg iter : Expr} {ifs : List Expr} {scope : Scope} {own : List (Str × Nat)} {pos : Pos} {wi : DTI} {g : TG} {plain : Bool} {is vs : List Nat} {tt : DT} {te : DE} {fin : List D → Mp → QD → Prop}
theorem pd_lcG (hf : FinOk X.K fin) (hc : X.calm = true) (hN : X.N.Nodup) (hi : PI X tg iter (liI X.K F0 wi)) (ok : BlkOk X.N X.env.scope scope own) (hvs : own.map (·.2) = vs) (hto : TgOk X.K g plain is) (hv : ∀ i ∈ is, i ∈ vs)
    (hg : ∀ (s : Shared) (H : Hp) (C : Addr) (cl : List (Str × Addr)) (fp : List Addr), PG (X.blk s H scope (compEnvC scope cl C X.env) fp) tg g)
    (ht : ∀ (s : Shared) (H : Hp) (C : Addr) (cl : List (Str × Addr)) (fp : List Addr), PTs (X.blk s H scope (compEnvC scope cl C X.env) fp) ifs (liT X.K F0 tt))
    (he : ∀ (s : Shared) (H : Hp) (C : Addr) (cl : List (Str × Addr)) (fp : List Addr), PE (X.blk s H scope (compEnvC scope cl C X.env) fp) elt (liE X.K F0 te)) (hs : ∀ x, foldedSetIterable iter X.env x = pure x := by intro _; rfl) :
    PE X (.ListComp elt [⟨tg, iter, ifs, 0⟩] scope pos) (liE X.K F0 (dLcG fin wi plain is vs tt te)) := by
  subst hvs
  exact peImp (pe_lc hc hN hi ok hg ht he hs) fun _ _ _ h => li_lc hf hto hv h
/-- name = [..] on one line -/
theorem sd_setLcG {i : Nat} {y : Str} {py spos : Pos} (hf : FinOk X.K fin) (hc : X.calm = true) (hN : X.N.Nodup) (hy : X.N[i]? = some y) (hyl : X.env.scope.names.lookup y = some .local)
    (hsw : swapsWith (.ListComp elt [⟨tg, iter, ifs, 0⟩] scope pos) (some (.Name y py)) spos.line X.env = pure true) (hi : PI X tg iter (liI X.K F0 wi)) (ok : BlkOk X.N X.env.scope scope own) (hvs : own.map (·.2) = vs) (hto : TgOk X.K g plain is) (hv : ∀ i ∈ is, i ∈ vs)
    (hg : ∀ (s : Shared) (H : Hp) (C : Addr) (cl : List (Str × Addr)) (fp : List Addr), PG (X.blk s H scope (compEnvC scope cl C X.env) fp) tg g)
    (ht : ∀ (s : Shared) (H : Hp) (C : Addr) (cl : List (Str × Addr)) (fp : List Addr), PTs (X.blk s H scope (compEnvC scope cl C X.env) fp) ifs (liT X.K F0 tt))
    (he : ∀ (s : Shared) (H : Hp) (C : Addr) (cl : List (Str × Addr)) (fp : List Addr), PE (X.blk s H scope (compEnvC scope cl C X.env) fp) elt (liE X.K F0 te)) (hs : ∀ x, foldedSetIterable iter X.env x = pure x := by intro _; rfl) :
    PS X (.Assign [.Name y py] (.ListComp elt [⟨tg, iter, ifs, 0⟩] scope pos) spos) (liS X.K F0 (dSet i (dLcG fin wi plain is vs tt te))) := by
  subst hvs
  exact psImp (ps_setLc hc hN hy hyl hsw hi ok hg ht he hs) fun D σ H ⟨F, R, τ, M, D', e0, st, sl, q, k⟩ =>
    li_lc (Q := fun x H1 => gName i x σ H1 D.nx) hf hto hv ⟨F, R, τ, M, _, e0, st, sl, q, fun v H2 F2 d M2 e2 st2 r2 q2 => k.nx _ _ _ _ _ e2 st2 ((sl.ext e2).put r2 i) q2⟩
theorem tsd_nil : PTs X [] (liT X.K F0 dYes) := ⟨fun pins s σ H Q I ⟨F, R, τ, M, Q', e0, st, sl, q, k⟩ => pts_nil.run pins s σ H Q I (k _ _ _ _ Ext.refl st q)⟩
theorem tsd_one {c : Expr} {t : DT} (h : PT X c (liT X.K F0 t)) : PTs X [c] (liT X.K F0 t) := pts_one h
end

/-! ### a def's body keeps its promise -/
def startD (N : List Str) (ds : List D) : SD := ds.map some ++ List.replicate (N.length - ds.length) none
theorem slots_start {K : PySem.W.Frag} {F : Hp} {N : List Str} {vs : List V} {ds : List D} (r : RepAll K F vs ds) : Slots K F (L2.start N vs) (startD N ds) := by
  unfold L2.start startD
  rw [r.len]
  have nn : ∀ n : Nat, Slots K F (List.replicate n none) (List.replicate n none) := fun n => by
    induction n with
    | zero => exact .nil
    | succ n ih => exact .cons True.intro ih
  have go : ∀ {vs : List V} {ds : List D} {σ : L2.St} {τ : SD}, RepAll K F vs ds → Slots K F σ τ → Slots K F (vs.map some ++ σ) (ds.map some ++ τ) := fun {vs ds σ τ} r s => by
    induction vs generalizing ds with
    | nil => cases r; exact s
    | cons v vs ih =>
      cases r with
      | cons h t => exact .cons h (ih t)
  exact go r (nn _)
/-- what is wanted at a def's end: what it made for itself may be forgotten -/
def rtQ (Q : QD) : QD := fun d M' => ∃ M2 : Mp, (∀ a m, M2 a = some m → M' a = some m) ∧ Q d M2
abbrev fnE (Q : QD) : EndsD := ⟨fun _ M' => rtQ Q .non M', rtQ Q, fun _ _ => False, fun _ _ => False⟩
def Rds (t : DS) (N : List Str) (sp : SpD) : Prop := ∀ ds M Q E, sp ds M Q E → t (fnE Q) (startD N ds) M
section
variable {P : Program} {w : World} {K : PySem.W.Frag} {mg : Str → Option Value} {base : Heap}
/-- THE RULE for a def that lets no exception out -/
theorem Fun.okD {x qual : Str} {st : Stmt} {f : Addr} {fd : FuncData} {N ps : List Str} {k : Nat} {sp : SpD} {T : List (Addr × Str)} (F : Fun K x qual st f fd) (S : FnScope N ps (defScope st)) (len : ∀ ds M Q E, sp ds M Q E → ds.length = ps.length) {t : DS}
    (hbody : ∀ (cdv : Value) (A : Around) (outer : List Env) (s : Shared) (H : Hp) (E : XK) (F0 R0 : Hp), Room k (A.deeper (envOfC qual (defScope st) s.heap.objs.size f cdv)) →
      PSs (cxOf CX0 P w K mg base N qual (defScope st) f cdv A outer s H E).nox (defBody st) (liS K ⟨F0, R0, T⟩ t))
    (hq : Rds t N sp) : FnOk P w K mg base CX0 (k + 1) f fd ps (liSp K T sp) := by
  refine F.ok S (fun vs H Q E ⟨F, R, ds, M, Q', E', st, _, ra, h, _, _⟩ => by rw [ra.len]; exact len _ _ _ _ h) fun cdv A outer s H vs Q E hr ⟨F, R, ds, M, Q', E', st, tr, ra, h, kQ, kE⟩ => ?_
  refine ⟨_, hbody cdv A outer s H E F R hr, F, R, startD N ds, M, _, ⟨Ext.refl, Ext.refl, tr⟩, st, slots_start ra, hq ds M Q' E' h, ?_⟩
  refine ⟨fun σ2 H2 F2 τ2 M2 e2 st2 sl2 ⟨M3, h3, q3⟩ => kQ _ _ _ _ _ e2 (st2.less h3) .non q3, fun v H2 F2 d M2 e2 st2 r2 ⟨M3, h3, q3⟩ => kQ _ _ _ _ _ e2 (st2.less h3) r2 q3, fun _ _ _ _ _ _ _ _ z => z, fun _ _ _ _ _ _ _ _ z => z⟩
end
end DL

/-! DL, the rules: constants, methods of lists, the law's entry -/
namespace DL
open PySem PySem.Spec PyProof.Rows L2

/-- a constant of the module -/
structure CnD (K : PySem.W.Frag) (mg : Str → Option Value) (x : Str) (d : D) : Prop where
  ex : ∃ u v, mg x = some u ∧ RelV v u ∧ ∀ F, Rep K F v d
theorem CnD.pd {X : Cx} {F0 : Bs} {x : Str} {d : D} {pos : Pos} (h : CnD X.K X.mg x d) (hg : Gl X x := by rfl) (hd : (x == ("__debug__" : Str)) = false := by decide) : PE X (.Name x pos) (liE X.K F0 (dC d)) := by
  obtain ⟨u, v, h1, h2, h3⟩ := h.ex
  exact pd_glob hg h1 h2 h3 hd
/-- a built-in class as a value -/
theorem pd_ty {X : Cx} {F0 : Bs} {x : Str} {n : String} {pos : Pos} (hg : Gl X x) (hm : X.mg x = none) (hv : bootBuiltins x = some (.type n)) (hn : x ≠ "__name__" := by decide) (hd : (x == ("__debug__" : Str)) = false := by decide) : PE X (.Name x pos) (liE X.K F0 (dC (.ty n))) :=
  pd_bltn hg hm hv (v := .ty n) rfl (fun _ => .ty n) hn hd
/-! ### methods -/
abbrev RM := D → List D → Mp → QD → Prop
def dMt (r : RM) (to : DE) (t : DA) : DE := fun τ M Q => to τ M fun x M1 => t τ M1 fun ds M2 => r x ds M2 Q
def dMt0 (r : RM) (to : DE) : DE := fun τ M Q => to τ M fun x M1 => r x [] M1 Q
/-- x stands for an object that is changed in place -/
def lstRef (x : D) : Prop := match x with
  | .ref _ => True
  | _ => False
def dAppend : RM := fun x ds M Q => match x, ds with
  | .ref a, [d] => match M a with
    | some (.lst xs) => xs.length < sizeLine ∧ Q .non (updM M a (.lst (xs ++ [d])))
    | _ => False
  | _, _ => False
def dPop : RM := fun x ds M Q => match x, ds with
  | .ref a, [] => match M a with
    | some (.lst xs) => match xs[xs.length - 1]? with
      | some y => Q y (updM M a (.lst xs.dropLast))
      | none => False
    | _ => False
  | _, _ => False
/-- the list stands there ahead of the arguments -/
def isLst (M : Mp) : D → Prop
  | .ref a => match M a with
    | some (.lst _) => True
    | _ => False
  | _ => False
def dMtL (r : RM) (to : DE) (t : DA) : DE := fun τ M Q => to τ M fun x M1 => isLst M1 x ∧ t τ M1 fun ds M2 => r x ds M2 Q
theorem lst_there {K : PySem.W.Frag} {F R H : Hp} {M : Mp} {v : V} {d : D} (st : Stt K F R H M) (r : Rep K F v d) (h : isLst M d) : tyV K "list" v H := by
  cases r <;> try exact h.elim
  rename_i a
  have h : (match M a with | some (.lst _) => True | _ => False) := h
  split at h <;> try exact h.elim
  rename_i ys em
  obtain ⟨_, u, hu, ru⟩ := st.ow _ _ em
  obtain ⟨vs, rfl, ra⟩ := ru.lst_iff
  exact .inl ⟨rfl, _, .inl (.inl hu)⟩
section
variable {X : Cx} {F0 : Bs} {o e : Expr} {es : List Expr} {to : DE} {t : DA} {apos cpos : Pos}
theorem RepAll.dropLast {K : PySem.W.Frag} {F : Hp} {xs : List V} {ds : List D} (r : RepAll K F xs ds) : RepAll K F xs.dropLast ds.dropLast := by
  rw [List.dropLast_eq_take, List.dropLast_eq_take, r.len]
  exact r.tk _
theorem mtd_append : MtR X "list.append" (liM X.K F0 dAppend) := by
  refine mtImp (r := rAppend) mt_append fun x xs H Q ⟨F, R, M, d, ds, Q', e0, st, rx, rs, q, k⟩ => ?_
  unfold dAppend at q
  split at q <;> try exact q.elim
  rename_i a d
  split at q <;> try exact q.elim
  rename_i ys em
  obtain ⟨z, rfl, rz⟩ := rep1 rs
  cases rx
  obtain ⟨_, u, hu, ru⟩ := st.ow _ _ em
  obtain ⟨vs, rfl, ra⟩ := ru.lst_iff
  exact ⟨a, vs, z, rfl, rfl, hu, by rw [ra.len]; exact q.1, k _ _ _ _ _ Ext.refl (st.store em (fun _ z => by cases z) (m' := .lst (ys ++ [d])) (ra.app (.cons rz .nil))) .non q.2⟩
theorem mtd_pop : MtR X "list.pop" (liM X.K F0 dPop) := by
  refine mtImp (r := rPop) mt_pop fun x xs H Q ⟨F, R, M, d, ds, Q', e0, st, rx, rs, q, k⟩ => ?_
  unfold dPop at q
  split at q <;> try exact q.elim
  rename_i a
  split at q <;> try exact q.elim
  rename_i ys em
  split at q <;> try exact q.elim
  rename_i y ey
  cases rs
  cases rx
  obtain ⟨_, u, hu, ru⟩ := st.ow _ _ em
  obtain ⟨vs, rfl, ra⟩ := ru.lst_iff
  obtain ⟨z, ez, rz⟩ := ra.getD ey
  exact ⟨a, vs, z, rfl, rfl, hu, by rw [ra.len]; exact ez, k _ _ _ _ _ Ext.refl (st.store em (fun _ z => by cases z) (m' := .lst ys.dropLast) ra.dropLast) rz q⟩
/-- o.append(e) -/
theorem pd_append (ho : PE X o (liE X.K F0 to)) (ha : PA X (e :: es) (liA X.K F0 t)) (hbase : attributeBase o "append" X.env (eval o X.env) = eval o X.env := by rfl)
    (hfew : ((backTo cpos (starEach (e :: es) X.env)).all (fun x => !x.1) && (backToKw cpos (keywordEach [] X.env)).all (fun x => x.1.isSome)
      && decide ((e :: es).length + ([] : List Keyword).length + (if ([] : List Keyword).isEmpty then 0 else 1) < 30)) = true := by rfl)
    (hline : (apos.endLine == cpos.line) = true := by rfl) (hs : starEach (e :: es) X.env = (false, eval e X.env) :: starEach es X.env := by rfl) (hplain : (backTo cpos (starEach es X.env)).any (·.1) = false := by rfl) :
    PE X (.Call (.Attribute o "append" apos) (e :: es) [] cpos) (liE X.K F0 (dMtL dAppend to t)) := by
  refine peImp (pe_bm PySem.F.plainAttrs_list PySem.F.slot_list_append PySem.F.type_list_append (mtd_append (F0 := F0)) ho ha hbase hfew hline hs hplain) fun σ H Q ⟨F, R, τ, M, Q', e0, st, sl, q, k⟩ => ?_
  refine ⟨F, R, τ, M, _, e0, st, sl, q, fun v H1 F1 d M1 e1 st1 r1 ⟨q0, q1⟩ => ⟨?_, ?_⟩⟩
  · exact lst_there st1 r1 q0
  · refine ⟨F1, R, τ, M1, _, e0.trans e1, st1, sl.ext e1, q1, fun vs H2 F2 ds M2 e2 st2 r2 q2 => ?_⟩
    exact ⟨F2, R, M2, d, ds, Q', e0.trans (e1.trans e2), st2, r1.ext e2, r2, q2, k.ext (e1.trans e2)⟩
theorem pd_pop (ho : PE X o (liE X.K F0 to)) (hbase : attributeBase o "pop" X.env (eval o X.env) = eval o X.env := by rfl) (hline : (apos.endLine == cpos.line) = true := by rfl) :
    PE X (.Call (.Attribute o "pop" apos) [] [] cpos) (liE X.K F0 (dMt0 dPop to)) := by
  refine peImp (pe_bm0 PySem.F.plainAttrs_list PySem.F.slot_list_pop PySem.F.type_list_pop (mtd_pop (F0 := F0)) ho hbase hline) fun σ H Q ⟨F, R, τ, M, Q', e0, st, sl, q, k⟩ => ?_
  refine ⟨F, R, τ, M, _, e0, st, sl, q, fun v H1 F1 d M1 e1 st1 r1 q1 => ⟨?_, F1, R, M1, d, [], Q', e0.trans e1, st1, r1, .nil, q1, k.ext e1⟩⟩
  unfold dPop at q1
  split at q1 <;> try exact q1.elim
  split at q1 <;> try exact q1.elim
  rename_i ys em
  cases r1
  obtain ⟨_, u, hu, ru⟩ := st1.ow _ _ em
  obtain ⟨vs, rfl, ra⟩ := ru.lst_iff
  exact .inl ⟨rfl, _, .inl (.inl hu)⟩
end
/-! ### x += e -/
section
variable {X : Cx} {F0 : Bs}
theorem iod_sub : OpD X F0 (inplaceOp .Sub) dSub := od_I0 iop_sub
theorem iod_addI : OpD X F0 (inplaceOp .Add) (dI0 fun i j => i + j) := od_I0 iop_add
theorem iod_mul : OpD X F0 (inplaceOp .Mult) (dI CMul fun i j => i * j) := od_I iop_mul
end
/-! ### the law's own promise -/
def spLawD : SpD := fun ds M Q _ => ∃ ns : List Int, ds = [.lsk (ns.map .int)] ∧ ns.length ≤ 63 ∧ ∀ d M', d = .bl true → Q d M'
theorem mem_lookupA : ∀ {T : List (Addr × Str)} {b : Addr} {q : Str}, T.lookup b = some q → (b, q) ∈ T
  | [], _, _, e => by cases e
  | (a, p) :: T, b, q, e => by
    rw [List.lookup_cons] at e
    by_cases z : b = a
    · subst z
      rw [beq_self_eq_true] at e
      cases e
      exact List.mem_cons_self
    · rw [show (b == a) = false by simpa using z] at e
      exact List.mem_cons_of_mem _ (mem_lookupA e)
theorem law_sp {K : PySem.W.Frag} {T : List (Addr × Str)} {H : Hp} {a : Addr} {ns : List Int} (hL : ∀ p ∈ T, T.lookup p.1 = some p.2) (hT : ∀ p ∈ T, LamX.TabS H p.1 p.2) (hl : ns.length ≤ 63) (hS : SqL K H a (ns.map V.int)) : liSp K T spLawD [.ref a] H (fun v _ => v = .bl true) fun _ _ _ => False := by
  have mem : ∀ {b : Addr} {q : Str}, T.lookup b = some q → (b, q) ∈ T := fun e => mem_lookupA e
  have rs0 : ∀ (F : Hp), (∀ b o, F b = some o → ∃ xs u, o = .lst xs ∨ o = .frz u (.lst xs)) → (∀ b o, F b = some o → H b = some o) → ∀ b o, (fun b => (T.lookup b).map fun q => HO.xd [(q, V.non)]) b = some o → RsOk H b o ∧ F b = none ∧ (fun _ => none : Mp) b = none := fun F hF hFH b o e => by
    have e : (T.lookup b).map (fun q => HO.xd [(q, V.non)]) = some o := e
    cases eq : T.lookup b with
    | none => rw [eq] at e; cases e
    | some q =>
      rw [eq] at e
      obtain rfl : HO.xd [(q, V.non)] = o := Option.some.inj e
      have tb := hT _ (mem eq)
      refine ⟨⟨q, rfl, tb⟩, ?_, rfl⟩
      cases ef : F b with
      | none => rfl
      | some u =>
        obtain ⟨ps, h1, _⟩ := tb
        have h2 := hFH b u ef
        rw [h1] at h2
        cases h2
        obtain ⟨xs, v, z | z⟩ := hF b _ ef <;> cases z
  have nrT : ∀ b o, (fun b => (T.lookup b).map fun q => HO.xd [(q, V.non)]) b = some o → NX o := fun b o e => by
    have e : (T.lookup b).map (fun q => HO.xd [(q, V.non)]) = some o := e
    cases eq : T.lookup b with
    | none => rw [eq] at e; cases e
    | some q =>
      rw [eq] at e
      obtain rfl : HO.xd [(q, V.non)] = o := Option.some.inj e
      trivial
  have key : ∀ (F : Hp), Stt K F (fun b => (T.lookup b).map fun q => HO.xd [(q, V.non)]) H (fun _ => none) → SqL K F a (ns.map V.int) → liSp K T spLawD [.ref a] H (fun v _ => v = .bl true) fun _ _ _ => False := fun F st hF => by
    refine ⟨_, _, [.lsk (ns.map .int)], _, fun d _ => d = .bl true, fun _ _ _ => False, st, fun p hp => ?_, .cons (.lsk (xs := ns.map V.int) hF (RepAll.ofInts ns)) .nil, ⟨ns, rfl, hl, fun d M' e => e⟩, fun v H2 F2 d M2 _ _ r e => ?_, fun _ _ _ _ _ _ _ _ _ z => z⟩
    · show (T.lookup p.1).map _ = _
      rw [hL p hp]; rfl
    · subst e
      cases r
      rfl
  have one : ∀ o : HO, (∃ xs u, o = .lst xs ∨ o = .frz u (.lst xs)) → H a = some o → Stt K (fun b => if b = a then some o else none) (fun b => (T.lookup b).map fun q => HO.xd [(q, V.non)]) H (fun _ => none) := fun o ho ha => by
    have k1 : ∀ b u, (fun b => if b = a then some o else none) b = some u → b = a ∧ u = o := fun b u e => by
      have e : (if b = a then some o else none) = some u := e
      by_cases z : b = a
      · rw [if_pos z] at e; exact ⟨z, (Option.some.inj e).symm⟩
      · rw [if_neg z] at e; cases e
    refine ⟨fun b u e => ?_, rs0 _ (fun b u e => ?_) (fun b u e => ?_), fun b u e => (nomatch e), fun b u e => ?_, nrT⟩
    rotate_left 3
    · obtain ⟨rfl, rfl⟩ := k1 b u e
      obtain ⟨xs, v, z | z⟩ := ho <;> subst z <;> trivial
    · obtain ⟨rfl, rfl⟩ := k1 b u e; exact ha
    · obtain ⟨rfl, rfl⟩ := k1 b u e; exact ho
    · obtain ⟨rfl, rfl⟩ := k1 b u e; exact ha
  rcases hS with (h | ⟨o, h⟩) | h
  · exact key _ (one _ ⟨_, default, .inl rfl⟩ h) (.inl (.inl (if_pos rfl)))
  · exact key _ (one _ ⟨_, o, .inr rfl⟩ h) (.inl (.inr ⟨o, if_pos rfl⟩))
  · exact key (fun _ => none) ⟨fun b u e => (nomatch e), rs0 _ (fun b u e => (nomatch e)) (fun b u e => (nomatch e)), fun b u e => (nomatch e), fun b u e => (nomatch e), nrT⟩ (.inr h)
end DL

/-! DL, steps: a reading is gone through from its head -/
namespace DL
open PySem PySem.Spec PyProof.Rows L2

section
variable {nx bk ct : SD → Mp → Prop} {rt : QD} {t u : DS} {te ta tb tc : DE} {τ : SD} {M : Mp} {Q : QD} {d x y z : D}
/-! statements -/
theorem s_seq (h : t ⟨u ⟨nx, rt, bk, ct⟩, rt, bk, ct⟩ τ M) : dSeq t u ⟨nx, rt, bk, ct⟩ τ M := h
theorem s_next (h : nx τ M) : dNext ⟨nx, rt, bk, ct⟩ τ M := h
theorem s_break (h : bk τ M) : dBreak ⟨nx, rt, bk, ct⟩ τ M := h
theorem s_cont (h : ct τ M) : dCont ⟨nx, rt, bk, ct⟩ τ M := h
def kDrop (nx : SD → Mp → Prop) (τ : SD) : QD := fun _ M1 => nx τ M1
theorem s_drop (h : te τ M (kDrop nx τ)) : dDrop te ⟨nx, rt, bk, ct⟩ τ M := h
theorem s_kdrop (h : nx τ M) : kDrop nx τ d M := h
theorem s_ret (h : te τ M rt) : dRet te ⟨nx, rt, bk, ct⟩ τ M := h
theorem s_retN (h : rt .non M) : dRetN ⟨nx, rt, bk, ct⟩ τ M := h
def kSet (nx : SD → Mp → Prop) (i : Nat) (τ : SD) : QD := fun d M1 => nx (τ.set i (some d)) M1
theorem s_set {i : Nat} (h : te τ M (kSet nx i τ)) : dSet i te ⟨nx, rt, bk, ct⟩ τ M := h
theorem s_kset {i : Nat} {τ2 : SD} (e : τ.set i (some d) = τ2) (h : nx τ2 M) : kSet nx i τ d M := by subst e; exact h
def kUnp (nx : SD → Mp → Prop) (is : List Nat) (τ : SD) : QD := fun d M1 => match d with
  | .tup ds => ds.length = is.length ∧ nx (setAll is ds τ) M1
  | _ => False
theorem s_unp {is : List Nat} (h : te τ M (kUnp nx is τ)) : dUnp is te ⟨nx, rt, bk, ct⟩ τ M := h
theorem s_kunp {is : List Nat} {ds : List D} {τ2 : SD} (e : ds.length = is.length) (e2 : setAll is ds τ = τ2) (h : nx τ2 M) : kUnp nx is τ (.tup ds) M := by subst e2; exact ⟨e, h⟩
def kIf (t u : DS) (D : EndsD) (τ : SD) : Bool → Mp → Prop := fun b M1 => if b = true then t D τ M1 else u D τ M1
variable {c : DT} {E : EndsD} {b : Bool} {p : Prop} {dp : Decidable p}
theorem s_ifS (h : c τ M (kIf t u E τ)) : dIfS c t u E τ M := h
theorem b_dec (h : p → t E τ M) (h2 : ¬ p → u E τ M) : kIf t u E τ (decide p) M := by
  unfold kIf
  by_cases q : p
  · rw [decide_eq_true q, if_pos rfl]; exact h q
  · rw [decide_eq_false q, if_neg Bool.false_ne_true]; exact h2 q
theorem b_ndec (h : ¬ p → t E τ M) (h2 : p → u E τ M) : kIf t u E τ (!decide p) M := by
  unfold kIf
  by_cases q : p
  · rw [decide_eq_true q, Bool.not_true, if_neg Bool.false_ne_true]; exact h2 q
  · rw [decide_eq_false q, Bool.not_false, if_pos rfl]; exact h q
theorem b_true (h : t E τ M) : kIf t u E τ true M := h
theorem b_false (h : u E τ M) : kIf t u E τ false M := by unfold kIf; rw [if_neg Bool.false_ne_true]; exact h
theorem b_not (h : b = false → t E τ M) (h2 : b = true → u E τ M) : kIf t u E τ (!b) M := by
  cases b with
  | true => exact b_false (h2 rfl)
  | false => exact b_true (h rfl)
theorem b_any (h : b = true → t E τ M) (h2 : b = false → u E τ M) : kIf t u E τ b M := by
  cases b with
  | true => exact b_true (h rfl)
  | false => exact b_false (h2 rfl)
/-! tests -/
variable {QB : Bool → Mp → Prop} {tt tu : DT}
def kB (Q : Bool → Mp → Prop) : QD := fun d M1 => match d with
  | .bl k => Q k M1
  | _ => False
theorem s_test (h : te τ M (kB QB)) : dTest te τ M QB := h
theorem s_kb (h : QB b M) : kB QB (.bl b) M := h
def kTru (Q : Bool → Mp → Prop) : QD := fun d M1 => dTru d M1 Q
theorem s_truth (h : te τ M (kTru QB)) : dTruth te τ M QB := h
theorem s_tru_bl (h : QB b M) : kTru QB (.bl b) M := h
theorem s_tru_non (h : QB false M) : kTru QB .non M := h
theorem s_tru_int {i : Int} (h : QB (i != 0) M) : kTru QB (.int i) M := h
theorem s_tru_tup {ds : List D} (h : QB (!ds.isEmpty) M) : kTru QB (.tup ds) M := h
theorem s_tru_lst {ds : List D} (h : QB (!ds.isEmpty) M) : kTru QB (.lst ds) M := h
theorem s_tru_ref {a : Addr} {ds : List D} (e : M a = some (.lst ds)) (h : QB (!ds.isEmpty) M) : kTru QB (.ref a) M := by
  show (match M a with | some (.lst ds) => QB (!ds.isEmpty) M | some (.dK kvs) => QB (!kvs.isEmpty) M | _ => False)
  rw [e]; exact h
def kTAnd (u : DT) (τ : SD) (Q : Bool → Mp → Prop) : Bool → Mp → Prop := fun c M1 => if c = true then u τ M1 Q else Q false M1
def kTOr (u : DT) (τ : SD) (Q : Bool → Mp → Prop) : Bool → Mp → Prop := fun c M1 => if c = true then Q true M1 else u τ M1 Q
def kTNot (Q : Bool → Mp → Prop) : Bool → Mp → Prop := fun c M1 => Q (!c) M1
theorem s_tand (h : tt τ M (kTAnd tu τ QB)) : dTAnd tt tu τ M QB := h
theorem s_tor (h : tt τ M (kTOr tu τ QB)) : dTOr tt tu τ M QB := h
theorem s_tnot (h : tt τ M (kTNot QB)) : dTNot tt τ M QB := h
theorem s_ktnot_t (h : QB false M) : kTNot QB true M := h
theorem s_ktnot_f (h : QB true M) : kTNot QB false M := h
theorem s_ktnot (h : QB (!b) M) : kTNot QB b M := h
theorem s_ktand (h : b = true → tu τ M QB) (h2 : b = false → QB false M) : kTAnd tu τ QB b M := by
  unfold kTAnd
  cases b with
  | true => rw [if_pos rfl]; exact h rfl
  | false => rw [if_neg Bool.false_ne_true]; exact h2 rfl
theorem s_ktor (h : b = true → QB true M) (h2 : b = false → tu τ M QB) : kTOr tu τ QB b M := by
  unfold kTOr
  cases b with
  | true => rw [if_pos rfl]; exact h rfl
  | false => rw [if_neg Bool.false_ne_true]; exact h2 rfl
theorem s_ktand_d (h : p → tu τ M QB) (h2 : ¬ p → QB false M) : kTAnd tu τ QB (decide p) M := s_ktand (fun e => h (of_decide_eq_true e)) fun e => h2 (of_decide_eq_false e)
theorem s_ktor_d (h : p → QB true M) (h2 : ¬ p → tu τ M QB) : kTOr tu τ QB (decide p) M := s_ktor (fun e => h (of_decide_eq_true e)) fun e => h2 (of_decide_eq_false e)
theorem s_ktand_nd (h : ¬ p → tu τ M QB) (h2 : p → QB false M) : kTAnd tu τ QB (!decide p) M := s_ktand (fun e => h (by simpa using e)) fun e => h2 (by simpa using e)
theorem s_ktor_nd (h : ¬ p → QB true M) (h2 : p → tu τ M QB) : kTOr tu τ QB (!decide p) M := s_ktor (fun e => h (by simpa using e)) fun e => h2 (by simpa using e)
theorem s_ktand_t (h : tu τ M QB) : kTAnd tu τ QB true M := h
theorem s_ktand_f (h : QB false M) : kTAnd tu τ QB false M := s_ktand (fun e => by cases e) fun _ => h
theorem s_ktor_t (h : QB true M) : kTOr tu τ QB true M := h
theorem s_ktor_f (h : tu τ M QB) : kTOr tu τ QB false M := s_ktor (fun e => by cases e) fun _ => h
/-! values by truth -/
def kOr (tb : DE) (τ : SD) (Q : QD) (x : D) : Bool → Mp → Prop := fun k M2 => if k = true then Q x M2 else tb τ M2 Q
def kAnd (tb : DE) (τ : SD) (Q : QD) (x : D) : Bool → Mp → Prop := fun k M2 => if k = true then tb τ M2 Q else Q x M2
def kNot (Q : QD) : Bool → Mp → Prop := fun k M2 => Q (.bl (!k)) M2
def kOrV (tb : DE) (τ : SD) (Q : QD) : QD := fun x M1 => kTru (kOr tb τ Q x) x M1
def kAndV (tb : DE) (τ : SD) (Q : QD) : QD := fun x M1 => kTru (kAnd tb τ Q x) x M1
theorem s_or (h : ta τ M (kOrV tb τ Q)) : dOr ta tb τ M Q := h
theorem s_and (h : ta τ M (kAndV tb τ Q)) : dAnd ta tb τ M Q := h
theorem s_not (h : ta τ M (kTru (kNot Q))) : dNot ta τ M Q := h
theorem s_korv (h : kTru (kOr tb τ Q x) x M) : kOrV tb τ Q x M := h
theorem s_kandv (h : kTru (kAnd tb τ Q x) x M) : kAndV tb τ Q x M := h
theorem s_knot_t (h : Q (.bl false) M) : kNot Q true M := h
theorem s_knot_f (h : Q (.bl true) M) : kNot Q false M := h
theorem s_knot (h : Q (.bl (!b)) M) : kNot Q b M := h
theorem s_kor_d (h : p → Q x M) (h2 : ¬ p → tb τ M Q) : kOr tb τ Q x (decide p) M := by
  unfold kOr
  by_cases q : p
  · rw [decide_eq_true q, if_pos rfl]; exact h q
  · rw [decide_eq_false q, if_neg Bool.false_ne_true]; exact h2 q
theorem s_kand_d (h : p → tb τ M Q) (h2 : ¬ p → Q x M) : kAnd tb τ Q x (decide p) M := by
  unfold kAnd
  by_cases q : p
  · rw [decide_eq_true q, if_pos rfl]; exact h q
  · rw [decide_eq_false q, if_neg Bool.false_ne_true]; exact h2 q
theorem s_kor_t (h : Q x M) : kOr tb τ Q x true M := h
theorem s_kor_f (h : tb τ M Q) : kOr tb τ Q x false M := by unfold kOr; rw [if_neg Bool.false_ne_true]; exact h
theorem s_kand_t (h : tb τ M Q) : kAnd tb τ Q x true M := h
theorem s_kand_f (h : Q x M) : kAnd tb τ Q x false M := by unfold kAnd; rw [if_neg Bool.false_ne_true]; exact h
theorem s_kor (h : b = true → Q x M) (h2 : b = false → tb τ M Q) : kOr tb τ Q x b M := by
  cases b with
  | true => exact h rfl
  | false => exact s_kor_f (h2 rfl)
theorem s_kand (h : b = true → tb τ M Q) (h2 : b = false → Q x M) : kAnd tb τ Q x b M := by
  cases b with
  | true => exact h rfl
  | false => exact s_kand_f (h2 rfl)
def kIfE (ta tb : DE) (τ : SD) (Q : QD) : Bool → Mp → Prop := fun c M1 => if c = true then ta τ M1 Q else tb τ M1 Q
theorem s_ifE (h : tt τ M (kIfE ta tb τ Q)) : dIf tt ta tb τ M Q := h
theorem s_kifE_d (h : p → ta τ M Q) (h2 : ¬ p → tb τ M Q) : kIfE ta tb τ Q (decide p) M := by
  unfold kIfE
  by_cases q : p
  · rw [decide_eq_true q, if_pos rfl]; exact h q
  · rw [decide_eq_false q, if_neg Bool.false_ne_true]; exact h2 q
theorem s_kifE (h : b = true → ta τ M Q) (h2 : b = false → tb τ M Q) : kIfE ta tb τ Q b M := by
  unfold kIfE
  cases b with
  | true => rw [if_pos rfl]; exact h rfl
  | false => rw [if_neg Bool.false_ne_true]; exact h2 rfl
/-! expressions -/
theorem s_var {i : Nat} (e : τ[i]? = some (some d)) (h : Q d M) : dVar i τ M Q := by unfold dVar; rw [e]; exact h
theorem s_c (h : Q d M) : dC d τ M Q := h
def kOp2 (r : R2D) (Q : QD) (x : D) : QD := fun y M2 => r x y M2 Q
def kOp1 (r : R2D) (tb : DE) (τ : SD) (Q : QD) : QD := fun x M1 => tb τ M1 (kOp2 r Q x)
theorem s_op {r : R2D} (h : ta τ M (kOp1 r tb τ Q)) : dOp r ta tb τ M Q := h
theorem s_kop1 {r : R2D} (h : tb τ M (kOp2 r Q x)) : kOp1 r tb τ Q x M := h
theorem s_kop2 {r : R2D} (h : r x y M Q) : kOp2 r Q x y M := h
def kUn (r : D → Mp → QD → Prop) (Q : QD) : QD := fun x M1 => r x M1 Q
theorem s_un {r : D → Mp → QD → Prop} (h : ta τ M (kUn r Q)) : dUn r ta τ M Q := h
theorem s_kun {r : D → Mp → QD → Prop} (h : r x M Q) : kUn r Q x M := h
def kCh3 (r' : R2D) (y : D) (Q : QD) : QD := fun w M4 => r' y w M4 Q
def kCh2 (r' : R2D) (tc : DE) (τ : SD) (Q : QD) (y : D) : QD := fun z M3 => match z with
  | .bl true => tc τ M3 fun w M4 => r' y w M4 Q
  | .bl false => Q (.bl false) M3
  | _ => False
def kCh1 (r r' : R2D) (tc : DE) (τ : SD) (Q : QD) (x : D) : QD := fun y M2 => r x y M2 (kCh2 r' tc τ Q y)
def kCh0 (r r' : R2D) (tb tc : DE) (τ : SD) (Q : QD) : QD := fun x M1 => tb τ M1 (kCh1 r r' tc τ Q x)
theorem s_chain {r r' : R2D} (h : ta τ M (kCh0 r r' tb tc τ Q)) : dChain r r' ta tb tc τ M Q := h
theorem s_kch0 {r r' : R2D} (h : tb τ M (kCh1 r r' tc τ Q x)) : kCh0 r r' tb tc τ Q x M := h
theorem s_kch1 {r r' : R2D} (h : r x y M (kCh2 r' tc τ Q y)) : kCh1 r r' tc τ Q x y M := h
theorem s_kch2 {r' : R2D} (h : p → tc τ M (kCh3 r' y Q)) (h2 : ¬ p → Q (.bl false) M) : kCh2 r' tc τ Q y (.bl (decide p)) M := by
  by_cases q : p
  · rw [decide_eq_true q]; exact h q
  · rw [decide_eq_false q]; exact h2 q
theorem s_kch3 {r' : R2D} (h : r' y z M Q) : kCh3 r' y Q z M := h
variable {QL : List D → Mp → Prop} {al : DA} {ds : List D}
theorem s_nil (h : QL [] M) : dNil τ M QL := h
def kCons2 (QL : List D → Mp → Prop) (x : D) : List D → Mp → Prop := fun xs M2 => QL (x :: xs) M2
def kCons1 (al : DA) (τ : SD) (QL : List D → Mp → Prop) : QD := fun x M1 => al τ M1 (kCons2 QL x)
theorem s_cons (h : ta τ M (kCons1 al τ QL)) : dCons ta al τ M QL := h
theorem s_kcons1 (h : al τ M (kCons2 QL x)) : kCons1 al τ QL x M := h
theorem s_kcons2 (h : QL (x :: ds) M) : kCons2 QL x ds M := h
def kTup (Q : QD) : List D → Mp → Prop := fun xs M1 => xs.length ≤ sizeLine ∧ Q (.tup xs) M1
def kLst (Q : QD) : List D → Mp → Prop := fun xs M1 => xs.length ≤ sizeLine ∧ Q (.lst xs) M1
def kLstM (Q : QD) : List D → Mp → Prop := fun xs M1 => xs.length ≤ sizeLine ∧ ∀ p, M1 p = none → Q (.ref p) (updM M1 p (.lst xs))
theorem s_tup (h : al τ M (kTup Q)) : dTup al τ M Q := h
theorem s_lst (h : al τ M (kLst Q)) : dLst al τ M Q := h
theorem s_lstM (h : al τ M (kLstM Q)) : dLstM al τ M Q := h
theorem s_ktup (e : ds.length ≤ sizeLine) (h : Q (.tup ds) M) : kTup Q ds M := ⟨e, h⟩
theorem s_klst (e : ds.length ≤ sizeLine) (h : Q (.lst ds) M) : kLst Q ds M := ⟨e, h⟩
theorem s_klstM (e : ds.length ≤ sizeLine) (h : ∀ p, M p = none → Q (.ref p) (updM M p (.lst ds))) : kLstM Q ds M := ⟨e, h⟩
def kCB (r : RC) (Q : QD) : List D → Mp → Prop := fun ds M1 => r ds M1 Q
theorem s_cb {r : RC} (h : al τ M (kCB r Q)) : dCB r al τ M Q := h
theorem s_kcb {r : RC} (h : r ds M Q) : kCB r Q ds M := h
def kCall (sp : SpD) (X : XD) (Q : QD) : List D → Mp → Prop := fun ds M1 => sp ds M1 Q X
theorem s_call {sp : SpD} {X : XD} (h : al τ M (kCall sp X Q)) : dCall sp X al τ M Q := h
theorem s_kcall {sp : SpD} {X : XD} (h : sp ds M Q X) : kCall sp X Q ds M := h
/-! operators -/
variable {i j : Int} {g : Int → Int → Int} {gb : Int → Int → Bool} {C : Int → Int → Prop}
theorem s_I (hc : C i j) (h : Q (.int (g i j)) M) : dI C g (.int i) (.int j) M Q := ⟨hc, h⟩
theorem s_I0 (h : Q (.int (g i j)) M) : dI0 g (.int i) (.int j) M Q := h
theorem s_B0 (h : Q (.bl (gb i j)) M) : dB0 gb (.int i) (.int j) M Q := h
theorem s_neg (h : Q (.int (-i)) M) : dNeg (.int i) M Q := h
theorem s_add (h : Q (.int (i + j)) M) : dAdd (.int i) (.int j) M Q := h
theorem s_addT {xs ys : List D} (e : xs.length + ys.length ≤ sizeLine) (h : Q (.tup (xs ++ ys)) M) : dAdd (.tup xs) (.tup ys) M Q := ⟨e, h⟩
theorem s_addL {xs ys : List D} (e : xs.length + ys.length ≤ sizeLine) (h : Q (.lst (xs ++ ys)) M) : dAdd (.lst xs) (.lst ys) M Q := ⟨e, h⟩
theorem s_mul (hc : CMulA i j) (h : Q (.int (i * j)) M) : dMul (.int i) (.int j) M Q := ⟨hc, h⟩
theorem s_mulT {xs : List D} {k : Int} (e : xs ≠ []) (e1 : 2 ≤ k) (e2 : xs.length * k.toNat ≤ 1000000) (h : Q (.tup (List.replicate k.toNat xs).flatten) M) : dMul (.tup xs) (.int k) M Q := ⟨e, e1, e2, h⟩
theorem s_eqS {b : Bool} (e : scalD x y = some b) (h : Q (.bl b) M) : dEq x y M Q := by unfold dEq; rw [e]; exact h
theorem s_neS {b : Bool} (e : scalD x y = some b) (h : Q (.bl (!b)) M) : dNe x y M Q := by unfold dNe; rw [e]; exact h
theorem s_isN (h : Q (.bl x.isN) M) : dIsN x .non M Q := h
theorem s_notN (h : Q (.bl (!x.isN)) M) : dNotN x .non M Q := h
theorem s_ix {ds : List D} (e : sqOf M x = some ds) (e2 : atI ds i = some d) (h : Q d M) : dIx x (.int i) M Q := by
  cases x with
  | str z => cases e
  | _ => unfold dIx; simp only [e, e2]; exact h
theorem s_len {ds : List D} (e : sqOf M x = some ds) (h : Q (.int ds.length) M) : dLen [x] M Q := by
  cases x with
  | str z => cases e
  | _ => unfold dLen; simp only [e]; exact h
theorem s_int (h : Q (.int i) M) : dInt [.int i] M Q := h
theorem s_intB (h : Q (.int (if b then 1 else 0)) M) : dInt [.bl b] M Q := h
theorem s_tuple {ds : List D} (e : sqOf M x = some ds) (h : Q (.tup ds) M) : dTuple [x] M Q := by unfold dTuple; simp only [e]; exact h
theorem s_list {ds : List D} (e : sqOf M x = some ds) (h : Q (.lst ds) M) : dList [x] M Q := by unfold dList; simp only [e]; exact h
theorem s_listM {ds : List D} (e : sqOf M x = some ds) (h : ∀ p, M p = none → Q (.ref p) (updM M p (.lst ds))) : dListM [x] M Q := by unfold dListM; simp only [e]; exact h
theorem s_isi {a n : String} {b : Bool} (e : (["bool", "int", "str", "tuple", "list", "dict"] : List String).contains n = true) (e2 : tyName M x = some a) (e3 : isiN a n = b) (h : Q (.bl b) M) : dIsi [x, .ty n] M Q := ⟨e, by simp only [e2, e3]; exact h⟩
theorem s_all {bs : List Bool} {ds : List D} (e : lsOf M x = some ds) (e2 : blsOf ds = some bs) (h : Q (.bl (bs.all id)) M) : dAll [x] M Q := by unfold dAll; simp only [e, e2]; exact h
theorem s_any {bs : List Bool} {ds : List D} (e : lsOf M x = some ds) (e2 : blsOf ds = some bs) (h : Q (.bl (bs.any id)) M) : dAny [x] M Q := by unfold dAny; simp only [e, e2]; exact h
theorem s_sum {ns : List Int} {ds : List D} (e : lsOf M x = some ds) (e2 : intsOf ds = some ns) (h : Q (.int ns.sum) M) : dSum [x] M Q := by unfold dSum; simp only [e, e2]; exact h
theorem s_max2 (h : Q (.int (if j > i then j else i)) M) : dMax [.int i, .int j] M Q := h
theorem s_min2 (h : Q (.int (if j < i then j else i)) M) : dMin [.int i, .int j] M Q := h
theorem s_in {neg : Bool} {ds : List D} (e : sqOf M y = some ds) (e1 : x.flat = true) (e2 : ds.all D.flat = true) (h : Q (.bl (if neg then !(ds.any fun e => eqD e x) else ds.any fun e => eqD e x)) M) : dIn neg x y M Q := by unfold dIn; simp only [e]; exact ⟨e1, e2, h⟩
/-! subscripts, slices -/
variable {tl th : DO} {QO : Option Int → Mp → Prop} {lo hi : Option Int}
theorem s_nopart (h : QO none M) : dNoPart τ M QO := h
def kPart (QO : Option Int → Mp → Prop) : QD := fun d M1 => match d with
  | .int i => QO (some i) M1
  | _ => False
theorem s_part (h : te τ M (kPart QO)) : dPart te τ M QO := h
theorem s_kpart (h : QO (some i) M) : kPart QO (.int i) M := h
def kSl2 (x : D) (lo : Option Int) (Q : QD) : Option Int → Mp → Prop := fun u M3 => dSlr x lo u M3 Q
def kSl1 (x : D) (th : DO) (τ : SD) (Q : QD) : Option Int → Mp → Prop := fun l M2 => th τ M2 (kSl2 x l Q)
def kSl0 (tl th : DO) (τ : SD) (Q : QD) : QD := fun x M1 => tl τ M1 (kSl1 x th τ Q)
theorem s_sl (h : te τ M (kSl0 tl th τ Q)) : dSl te tl th τ M Q := h
theorem s_ksl0 (h : tl τ M (kSl1 x th τ Q)) : kSl0 tl th τ Q x M := h
theorem s_ksl1 (h : th τ M (kSl2 x lo Q)) : kSl1 x th τ Q lo M := h
theorem s_ksl2T {ds : List D} (h : Q (.tup (cutD ds lo hi)) M) : kSl2 (.tup ds) lo Q hi M := h
theorem s_ksl2L {ds : List D} (h : Q (.lst (cutD ds lo hi)) M) : kSl2 (.lst ds) lo Q hi M := h
theorem s_ksl2K {ds : List D} (h : Q (.lst (cutD ds lo hi)) M) : kSl2 (.lsk ds) lo Q hi M := h
/-! stores -/
variable {to ti : DE} {rs : RSet}
def kSt3 (rs : RSet) (nx : SD → Mp → Prop) (τ : SD) (v o : D) : QD := fun i M3 => rs o i v M3 fun M4 => nx τ M4
def kSt2 (rs : RSet) (nx : SD → Mp → Prop) (τ : SD) (ti : DE) (v : D) : QD := fun o M2 => ti τ M2 (kSt3 rs nx τ v o)
def kSt1 (rs : RSet) (nx : SD → Mp → Prop) (τ : SD) (to ti : DE) : QD := fun v M1 => to τ M1 (kSt2 rs nx τ ti v)
theorem s_store (h : te τ M (kSt1 rs nx τ to ti)) : dStore te to ti rs ⟨nx, rt, bk, ct⟩ τ M := h
theorem s_kst1 (h : to τ M (kSt2 rs nx τ ti x)) : kSt1 rs nx τ to ti x M := h
theorem s_kst2 (h : ti τ M (kSt3 rs nx τ x y)) : kSt2 rs nx τ ti x y M := h
theorem s_kst3 {a : Addr} {xs : List D} {jn : Nat} {v : D} {M2 : Mp} (e : M a = some (.lst xs)) (e2 : ixN xs.length i = some jn) (e3 : updM M a (.lst (xs.set jn v)) = M2) (h : nx τ M2) : kSt3 dSetL nx τ v (.ref a) (.int i) M := by
  subst e3
  show dSetL (.ref a) (.int i) v M fun M4 => nx τ M4
  unfold dSetL; simp only [e, e2]; exact h
def kAug (nx : SD → Mp → Prop) (i : Nat) (τ : SD) : QD := fun z M2 => nx (τ.set i (some z)) M2
theorem s_aug {r : R2D} {i : Nat} (e : τ[i]? = some (some x)) (h : te τ M (kOp2 r (kSet nx i τ) x)) : dAug i te r ⟨nx, rt, bk, ct⟩ τ M := by unfold dAug; rw [e]; exact h
/-! methods -/
variable {rm : RM}
def kMt (rm : RM) (x : D) (Q : QD) : List D → Mp → Prop := fun ds M2 => rm x ds M2 Q
def kMtL (rm : RM) (al : DA) (τ : SD) (Q : QD) : QD := fun x M1 => isLst M1 x ∧ al τ M1 (kMt rm x Q)
theorem s_mtL (h : to τ M (kMtL rm al τ Q)) : dMtL rm to al τ M Q := h
theorem s_kmtL (e : isLst M x) (h : al τ M (kMt rm x Q)) : kMtL rm al τ Q x M := ⟨e, h⟩
theorem s_kmt (h : rm x ds M Q) : kMt rm x Q ds M := h
theorem s_append {a : Addr} {xs : List D} (e : M a = some (.lst xs)) (e2 : xs.length < sizeLine) (h : Q .non (updM M a (.lst (xs ++ [d])))) : dAppend (.ref a) [d] M Q := by unfold dAppend; simp only [e]; exact ⟨e2, h⟩
def kMt0 (rm : RM) (Q : QD) : QD := fun x M1 => rm x [] M1 Q
theorem s_mt0 (h : to τ M (kMt0 rm Q)) : dMt0 rm to τ M Q := h
theorem s_kmt0 (h : rm x [] M Q) : kMt0 rm Q x M := h
/-! what is walked -/
variable {QI : ItD → Mp → Prop}
def kSeq (QI : ItD → Mp → Prop) : QD := fun d M1 => match sqOf M1 d with
  | some ds => QI (itSeq d ds) M1
  | none => False
theorem s_seqI (h : te τ M (kSeq QI)) : iSeqD te τ M QI := h
theorem s_kseq {ds : List D} (e : sqOf M x = some ds) (h : QI (itSeq x ds) M) : kSeq QI x M := by unfold kSeq; simp only [e]; exact h
def kR1 (QI : ItD → Mp → Prop) : List D → Mp → Prop := fun ds M1 => match ds with
  | [.int j] => -(2 ^ 62) ≤ j ∧ j < 2 ^ 62 ∧ QI (itRng 0 j.toNat) M1
  | _ => False
theorem s_rng1 (h : al τ M (kR1 QI)) : iRng1D al τ M QI := h
theorem s_kr1 (e : -(2 ^ 62) ≤ j) (e2 : j < 2 ^ 62) (h : QI (itRng 0 j.toNat) M) : kR1 QI [.int j] M := ⟨e, e2, h⟩
def kR2 (QI : ItD → Mp → Prop) : List D → Mp → Prop := fun ds M1 => match ds with
  | [.int i, .int j] => (-(2 ^ 62) ≤ i ∧ i < 2 ^ 62 ∧ -(2 ^ 62) ≤ j ∧ j < 2 ^ 62) ∧ QI (itRng i (j - i).toNat) M1
  | _ => False
theorem s_rng2 (h : al τ M (kR2 QI)) : iRng2D al τ M QI := h
theorem s_kr2 (e : -(2 ^ 62) ≤ i ∧ i < 2 ^ 62 ∧ -(2 ^ 62) ≤ j ∧ j < 2 ^ 62) (h : QI (itRng i (j - i).toNat) M) : kR2 QI [.int i, .int j] M := ⟨e, h⟩
/-- for -/
def kFor (g : D → SD → Mp → (SD → Mp → Prop) → Prop) (tb : DS) (D : EndsD) (τ : SD) : ItD → Mp → Prop := fun j M1 => ∃ Pv : Nat → SD → Mp → Prop, Pv 0 τ M1 ∧ (∀ i τ M, i ≤ j.n → Pv i τ M → j.ok M) ∧
  (∀ i τ M, i < j.n → Pv i τ M → g (j.at' i) τ M fun τ2 M2 => tb { D with nx := Pv (i + 1), ct := Pv (i + 1), bk := D.nx } τ2 M2) ∧ ∀ τ M, Pv j.n τ M → D.nx τ M
theorem s_for {wi : DTI} {g : D → SD → Mp → (SD → Mp → Prop) → Prop} {tb : DS} (h : wi τ M (kFor g tb E τ)) : dFor wi g tb E τ M := h
/-- over data that nobody changes -/
theorem s_kforT {tb : DS} {is : List Nat} {plain : Bool} {ds : List D} {x : D} (Pv : Nat → SD → Mp → Prop) (hx : ∀ M, sqOf M x = some ds) (h0 : Pv 0 τ M)
    (hs : ∀ i d τ M, ds[i]? = some d → Pv i τ M → gD plain is d τ M fun τ2 M2 => tb ⟨Pv (i + 1), rt, nx, Pv (i + 1)⟩ τ2 M2) (hd : ∀ τ M, Pv ds.length τ M → nx τ M) : kFor (gD plain is) tb ⟨nx, rt, bk, ct⟩ τ (itSeq x ds) M :=
  ⟨Pv, h0, fun _ _ M _ _ => hx M, fun i τ M hi p => by
    have hi : i < ds.length := hi
    have e := List.getElem?_eq_getElem hi
    show gD plain is (ds.getD i .non) τ M _
    rw [getD_of e]
    exact hs i _ τ M e p, hd⟩
theorem s_kforR {tb : DS} {i0 : Nat} {lo : Int} {n : Nat} (Pv : Nat → SD → Mp → Prop) (h0 : Pv 0 τ M)
    (hs : ∀ i τ M, i < n → Pv i τ M → tb ⟨Pv (i + 1), rt, nx, Pv (i + 1)⟩ (τ.set i0 (some (.int (lo + i)))) M) (hd : ∀ τ M, Pv n τ M → nx τ M) : kFor (gD true [i0]) tb ⟨nx, rt, bk, ct⟩ τ (itRng lo n) M :=
  ⟨Pv, h0, fun _ _ M _ _ => trivial, fun i τ M hi p => hs i τ M hi p, hd⟩
theorem s_gname {i0 : Nat} {QS : SD → Mp → Prop} (h : QS (τ.set i0 (some d)) M) : gD true [i0] d τ M QS := h
theorem s_gtup {is : List Nat} {ds : List D} {QS : SD → Mp → Prop} (e : ds.length = is.length) (h : QS (setAll is ds τ) M) : gD false is (.tup ds) τ M QS := by
  show (match (if ds.length = is.length then some (setAll is ds τ) else none) with | some τ2 => QS τ2 M | none => False)
  rw [if_pos e]; exact h
/-! comprehensions -/
def kLc (fin : List D → Mp → QD → Prop) (plain : Bool) (is vs : List Nat) (tt : DT) (te : DE) (τ : SD) (Q : QD) : ItD → Mp → Prop := fun j M1 => ∃ Pv : Nat → List D → Mp → Prop, Pv 0 [] M1 ∧ (∀ i acc M, i ≤ j.n → Pv i acc M → j.ok M) ∧
  (∀ i acc M, i < j.n → Pv i acc M → match bindD plain is (j.at' i) (wipeD τ vs) with
    | some τ2 => tt τ2 M fun b M3 => if b = true then te τ2 M3 fun e M4 => acc.length < sizeLine ∧ Pv (i + 1) (acc ++ [e]) M4 else Pv (i + 1) acc M3
    | none => False) ∧ ∀ acc M, Pv j.n acc M → fin acc M Q
theorem s_lc {fin : List D → Mp → QD → Prop} {wi : DTI} {plain : Bool} {is vs : List Nat} (h : wi τ M (kLc fin plain is vs tt te τ Q)) : dLcG fin wi plain is vs tt te τ M Q := h
/-- over data that nobody changes, each item gives one, and M stays -/
theorem s_klcMap {plain : Bool} {is vs : List Nat} {fin : List D → Mp → QD → Prop} {α : Type} {xs : List α} (enc : α → D) (f : α → D) (hx : ∀ M, sqOf M x = some (xs.map enc)) (hl : xs.length ≤ sizeLine)
    (hs : ∀ a ∈ xs, ∃ τ2, bindD plain is (enc a) (wipeD τ vs) = some τ2 ∧ ∀ Q : QD, Q (f a) M → te τ2 M Q) (hd : fin (xs.map f) M Q) : kLc fin plain is vs dYes te τ Q (itSeq x (xs.map enc)) M := by
  refine ⟨fun i acc M' => M' = M ∧ acc = (xs.map f).take i, ⟨rfl, rfl⟩, fun i acc M' hi p => hx M', fun i acc M' hi p => ?_, fun acc M' p => ?_⟩
  · obtain ⟨rfl, rfl⟩ := p
    have hi : i < (xs.map enc).length := hi
    rw [List.length_map] at hi
    have e := List.getElem?_eq_getElem hi
    obtain ⟨τ2, e2, k⟩ := hs xs[i] (List.getElem_mem hi)
    have e3 : (itSeq x (xs.map enc)).at' i = enc xs[i] := getD_of (by rw [List.getElem?_map, e]; rfl)
    rw [e3, e2]
    refine k _ ⟨?_, rfl, ?_⟩
    · rw [List.length_take, List.length_map]; omega
    · rw [List.take_succ, List.getElem?_map, e]; rfl
  · obtain ⟨rfl, rfl⟩ := p
    have e : (xs.map f).take (itSeq x (xs.map enc)).n = xs.map f := List.take_of_length_le (by show _ ≤ (xs.map enc).length; rw [List.length_map, List.length_map]; exact Nat.le_refl _)
    rw [e]
    exact hd
end
/-- over data that nobody changes -/
theorem s_klcD {plain : Bool} {is vs : List Nat} {fin : List D → Mp → QD → Prop} {te : DE} {τ : SD} {M : Mp} {Q : QD} {x : D} {ds : List D} (f : D → D) (hx : ∀ M, sqOf M x = some ds) (hl : ds.length ≤ sizeLine)
    (hs : ∀ d ∈ ds, ∃ τ2, bindD plain is d (wipeD τ vs) = some τ2 ∧ ∀ Q : QD, Q (f d) M → te τ2 M Q) (hd : fin (ds.map f) M Q) : kLc fin plain is vs dYes te τ Q (itSeq x ds) M := by
  have h := s_klcMap (x := x) (fin := fin) (Q := Q) (plain := plain) (is := is) (vs := vs) (τ := τ) (M := M) (te := te) (xs := ds) (fun d => d) f (by simpa using hx) hl hs hd
  simpa using h
theorem blsOf_fun {α : Type} (g : α → Bool) : ∀ xs : List α, blsOf (xs.map fun a => D.bl (g a)) = some (xs.map g)
  | [] => rfl
  | x :: xs => by
    show (blsOf (xs.map fun a => D.bl (g a))).map (g x :: ·) = _
    rw [blsOf_fun g xs]; rfl
/-- each turn draws one -/
theorem s_klcDraw {α : Type} {fin : List D → Mp → QD → Prop} {te : DE} {τ : SD} {M : Mp} {Q : QD} {i0 : Nat} {vs : List Nat} {lo : Int} {n : Nat} (enc : α → D) (P : α → Prop) (Inv : Mp → Prop) (hn : n ≤ sizeLine) (h0 : Inv M)
    (hs : ∀ i M1 Q, i < n → Inv M1 → (∀ x M2, P x → Inv M2 → Q (enc x) M2) → te ((wipeD τ vs).set i0 (some (.int (lo + (i : Nat))))) M1 Q)
    (hd : ∀ l : List α, l.length = n → (∀ x ∈ l, P x) → ∀ M2, Inv M2 → fin (l.map enc) M2 Q) : kLc fin true [i0] vs dYes te τ Q (itRng lo n) M := by
  refine ⟨fun i acc M' => ∃ l : List α, acc = l.map enc ∧ l.length = i ∧ (∀ x ∈ l, P x) ∧ Inv M', ⟨[], rfl, rfl, by simp, h0⟩, fun _ _ _ _ _ => trivial, fun i acc M' hi p => ?_, fun acc M' p => ?_⟩
  · obtain ⟨l, rfl, hl, hp, hv⟩ := p
    have hi : i < n := hi
    refine hs i M' _ hi hv fun x M2 hx h2 => ⟨?_, l ++ [x], ?_, ?_, ?_, h2⟩
    · rw [List.length_map]; omega
    · rw [List.map_append]; rfl
    · rw [List.length_append, hl]; rfl
    · intro y hy
      rcases List.mem_append.mp hy with hy | hy
      · exact hp y hy
      · rw [List.mem_singleton.mp hy]; exact hx
  · obtain ⟨l, rfl, hl, hp, hv⟩ := p
    exact hd l hl hp M' hv
theorem s_end {Q : QD} {d : D} {M : Mp} (h : Q d M) : rtQ Q d M := ⟨M, fun _ _ z => z, h⟩
theorem s_endL {Q : QD} {d : D} {M M2 : Mp} (e : ∀ a m, M2 a = some m → M a = some m) (h : Q d M2) : rtQ Q d M := ⟨M2, e, h⟩
theorem sqOf_ref {M : Mp} {a : Addr} {ds : List D} (h : M a = some (.lst ds)) : sqOf M (.ref a) = some ds := by
  show (match M a with | some (.lst ds) => some ds | _ => none) = some ds
  rw [h]
theorem lsOf_ref {M : Mp} {a : Addr} {ds : List D} (h : M a = some (.lst ds)) : lsOf M (.ref a) = some ds := by
  show (match M a with | some (.lst ds) => some ds | _ => none) = some ds
  rw [h]
theorem isLst_ref {M : Mp} {a : Addr} {ds : List D} (h : M a = some (.lst ds)) : isLst M (.ref a) := by
  show (match M a with | some (.lst _) => True | _ => False)
  rw [h]; trivial
theorem atI_ofNat {α : Type} (xs : List α) (k : Nat) : atI xs (OfNat.ofNat k : Int) = xs[k]? := by
  show atI xs (k : Int) = xs[k]?
  unfold atI ixN
  rw [if_pos (by omega)]
  by_cases h : k < xs.length
  · rw [if_pos (by omega)]; rfl
  · rw [if_neg (by omega), List.getElem?_eq_none (by omega)]; rfl
theorem atI_toNat {α : Type} {xs : List α} {i : Int} (h : 0 ≤ i) : atI xs i = xs[i.toNat]? := by
  have := atI_ofNat xs i.toNat
  rw [show (OfNat.ofNat i.toNat : Int) = i from Int.toNat_of_nonneg h] at this
  exact this
end DL

namespace L2
open PySem PySem.Spec PyProof.Rows
/-! ranges of any size -/
theorem turn_long {P : Program} {w : World} {K : PySem.W.Frag} {tg : Expr} (it : Addr) (lo : Int) (n : Nat) : Turn P w K tg (Itr lo n) [it] it (fun i h => IsLongIter h it (lo + (i : Nat) * 1) ((n : Int) - (i : Nat)) 1) where
  mem := by simp
  obj := fun i h st b hb => by
    obtain rfl : b = it := by simpa using hb
    exact ⟨_, st, fun v z => by
      have z' : Data.fields _ = Data.cell v := z
      cases z'⟩
  keep := fun i h h' st k => k it (by simp) _ st
  item := fun X hP hw hK hc i pins s σ H E I hf st hg => by
    subst hP hw hK
    obtain ⟨f0, f1, f2, f3, f4, f5⟩ := hf it (by simp)
    refine (Walks.longrange (prog := X.prog) (w := X.w) (I.ok.hd hc) it lo 1 n).item i s _ _ hg st fun v h' tk hv st' kk => ?_
    obtain ⟨t, rfl⟩ := hv
    refine ⟨_, rfl, go_of (s := { s with heap := h', toks := tk }) (n := "longrange_iterator") st' rfl rfl (by decide) ⟨.int (lo + i), H, I.turned (fun b o hb e => kk b o (by simpa using hb) e) f0 f1 f3 f4 f5, ⟨t, ?_⟩, ⟨rfl, rfl⟩, st', fun b hb => (hf b hb).1⟩⟩
    rw [Int.mul_one]
  done := fun X hP hw hK hc i pins s σ H E I hf st hg => by
    subst hP hw hK
    obtain ⟨f0, f1, f2, f3, f4, f5⟩ := hf it (by simp)
    refine wpAny_pyNext_long_end (I.ok.hd hc) st (by have h9 : n ≤ i := hg; omega) fun h' eb => ?_
    exact ⟨rfl, I.turned (t' := s.toks) (fun b o hb e => eb b o hb e) f0 f1 f3 f4 f5⟩
  self := fun _ _ _ _ _ st h => wpAny_pyIter_longiter st h
section
variable {X : Cx} {tg : Expr}
theorem range_any {pins : List (Addr × Obj)} {σ : St} {H : Hp} {s : Shared} {R : It → Hp → Prop} {E : Value → Shared → Prop} {lo hi : Int} {t u v : Tok} {tk : Nat} (I : Inv X pins σ H s)
    (q : R (Itr lo (hi - lo).toNat) H) : wpAny (model X.prog X.w) X.A (pyIter (.ref s.heap.objs.size)) (PIE X pins σ tg R) E { s with heap := s.heap.push { cls := .type "range", data := .fields #[.int lo t, .int hi u, .int 1 v] }, toks := tk } := by
  have e1 : lo + ((0 : Nat) : Int) * 1 = lo := by simp
  have e2 : (((hi - lo).toNat : Nat) : Int) - ((0 : Nat) : Int) = Builtin.Range.rangeSize lo hi 1 := by rw [rangeSize_one]; split <;> omega
  have I1 : Inv X pins σ H { s with heap := s.heap.push { cls := .type "range", data := .fields #[.int lo t, .int hi u, .int 1 v] }, toks := tk } := I.kept fun b o e => Heap.get?_push_of_some _ e
  cases hb : Builtin.Range.small lo hi 1 with
  | true =>
    refine wpAny_pyIter_range (IsRange.new ..) hb ?_
    refine ⟨_, [(s.heap.push { cls := .type "range", data := .fields #[.int lo t, .int hi u, .int 1 v] }).objs.size], _, _, H, rfl, I1.kept (t' := tk) fun b o e => Heap.get?_push_of_some _ e, turn_range _ lo (hi - lo).toNat, ?_, fun b hb => ?_, q⟩
    · show IsRangeIter _ _ (lo + ((0 : Nat) : Int) * 1) ((((hi - lo).toNat : Nat) : Int) - ((0 : Nat) : Int)) 1
      rw [e1, e2]
      exact Heap.get?_push_size _ rfl
    · obtain rfl : b = (s.heap.push { cls := .type "range", data := .fields #[.int lo t, .int hi u, .int 1 v] }).objs.size := by simpa using hb
      exact I1.fpOk (Nat.le_refl _) (I1.hok.fresh (Nat.le_refl _))
  | false =>
    refine wpAny_pyIter_longrange (IsRange.new ..) hb ?_
    refine ⟨_, [(s.heap.push { cls := .type "range", data := .fields #[.int lo t, .int hi u, .int 1 v] }).objs.size], _, _, H, rfl, I1.kept (t' := tk) fun b o e => Heap.get?_push_of_some _ e, turn_long _ lo (hi - lo).toNat, ?_, fun b hb => ?_, q⟩
    · show IsLongIter _ _ (lo + ((0 : Nat) : Int) * 1) ((((hi - lo).toNat : Nat) : Int) - ((0 : Nat) : Int)) 1
      rw [e1, e2]
      exact Heap.get?_push_size _ rfl
    · obtain rfl : b = (s.heap.push { cls := .type "range", data := .fields #[.int lo t, .int hi u, .int 1 v] }).objs.size := by simpa using hb
      exact I1.fpOk (Nat.le_refl _) (I1.hok.fresh (Nat.le_refl _))
def iRngAny (ta : TA) : TI := fun σ H R => ta σ H fun vs H1 => ∃ i j : Int, vs = [.int i, .int j] ∧ R (Itr i (j - i).toNat) H1
theorem pi_rangeAny {a b : Expr} {ta : TA} {p pos : Pos} (hg : Gl X "range") (hm : X.mg "range" = none) (ha : PA X [a, b] ta) (hs : starEach [a, b] X.env = [(false, eval a X.env), (false, eval b X.env)] := by rfl) (hs2 : starEach [b] X.env = [(false, eval b X.env)] := by rfl) :
    PI X tg (.Call (.Name "range" p) [a, b] [] pos) (iRngAny ta) := by
  refine ⟨fun pins s σ H R I h => Call_ (ld_blt I hg hm boot_range (PyProof.Rows.callWith_type1 (thn (ha.run pos pins s σ H _ I h) fun us s1 ⟨vs, H1, I1, r1, i, j, e, q⟩ => ?_) (by rw [hs, hs2]) (by rw [hs2]; rfl)))⟩
  subst e
  obtain - | ⟨⟨t, rfl⟩, rr⟩ := r1
  obtain - | ⟨⟨t', rfl⟩, rr⟩ := rr
  obtain - | _ := rr
  exact call_range_2 (range_any I1 q)
end
end L2
namespace DL
open PySem PySem.Spec PyProof.Rows L2
def iRngAD (ta : DA) : DTI := fun τ M Q => ta τ M fun ds M1 => match ds with
  | [.int i, .int j] => Q (itRng i (j - i).toNat) M1
  | _ => False
section
variable {X : Cx} {F0 : Bs} {tg : Expr}
theorem id_rngA {a b : Expr} {ta : DA} {p pos : Pos} (hg : Gl X "range") (hm : X.mg "range" = none) (ha : PA X [a, b] (liA X.K F0 ta)) (hs : starEach [a, b] X.env = [(false, eval a X.env), (false, eval b X.env)] := by rfl) (hs2 : starEach [b] X.env = [(false, eval b X.env)] := by rfl) :
    PI X tg (.Call (.Name "range" p) [a, b] [] pos) (liI X.K F0 (iRngAD ta)) := by
  refine piImp (pi_rangeAny hg hm ha hs hs2) fun σ H Q ⟨F, R, τ, M, Q', e0, st, sl, q, k⟩ => ?_
  refine ⟨F, R, τ, M, _, e0, st, sl, q, fun v H1 F1 ds M1 e1 st1 r1 q1 => ?_⟩
  split at q1 <;> try exact q1.elim
  obtain ⟨x, y, rfl, r, r'⟩ := rep2 r1
  cases r; cases r'
  exact ⟨_, _, rfl, k _ _ _ _ _ e1 st1 rel_rng q1⟩
end
section
variable {τ : SD} {M : Mp} {QI : ItD → Mp → Prop} {al : DA} {i j : Int}
def kRA (QI : ItD → Mp → Prop) : List D → Mp → Prop := fun ds M1 => match ds with
  | [.int i, .int j] => QI (itRng i (j - i).toNat) M1
  | _ => False
theorem s_rngA (h : al τ M (kRA QI)) : iRngAD al τ M QI := h
theorem s_kra (h : QI (itRng i (j - i).toNat) M) : kRA QI [.int i, .int j] M := h
end
/-! while -/
def kWh (W : Nat → SD → Mp → Prop) (m : Nat) (tb : DS) (nx : SD → Mp → Prop) (rt : QD) (τ : SD) : Bool → Mp → Prop := fun b M1 => if b = true then tb ⟨fun τ2 M2 => ∃ m', m' < m ∧ W m' τ2 M2, rt, nx, fun τ2 M2 => ∃ m', m' < m ∧ W m' τ2 M2⟩ τ M1 else nx τ M1
section
variable {nx bk ct : SD → Mp → Prop} {rt : QD} {tb : DS} {tc : DT} {τ : SD} {M : Mp} {W : Nat → SD → Mp → Prop} {m : Nat} {p : Prop} [Decidable p] {b : Bool}
theorem s_while (W : Nat → SD → Mp → Prop) (m0 : Nat) (h0 : W m0 τ M) (hs : ∀ m τ M, W m τ M → tc τ M (kWh W m tb nx rt τ)) : dWhile tc tb ⟨nx, rt, bk, ct⟩ τ M := ⟨W, ⟨m0, h0⟩, fun m τ M w => hs m τ M w⟩
theorem s_wh_t (h : tb ⟨fun τ2 M2 => ∃ m', m' < m ∧ W m' τ2 M2, rt, nx, fun τ2 M2 => ∃ m', m' < m ∧ W m' τ2 M2⟩ τ M) : kWh W m tb nx rt τ true M := h
theorem s_wh_f (h : nx τ M) : kWh W m tb nx rt τ false M := by unfold kWh; rw [if_neg Bool.false_ne_true]; exact h
theorem s_wh_d (h : p → tb ⟨fun τ2 M2 => ∃ m', m' < m ∧ W m' τ2 M2, rt, nx, fun τ2 M2 => ∃ m', m' < m ∧ W m' τ2 M2⟩ τ M) (h2 : ¬ p → nx τ M) : kWh W m tb nx rt τ (decide p) M := by
  by_cases e : p
  · rw [decide_eq_true e]; exact s_wh_t (h e)
  · rw [decide_eq_false e]; exact s_wh_f (h2 e)
theorem s_wh_nd (h : ¬ p → tb ⟨fun τ2 M2 => ∃ m', m' < m ∧ W m' τ2 M2, rt, nx, fun τ2 M2 => ∃ m', m' < m ∧ W m' τ2 M2⟩ τ M) (h2 : p → nx τ M) : kWh W m tb nx rt τ (!decide p) M := by
  by_cases e : p
  · rw [decide_eq_true e]; exact s_wh_f (h2 e)
  · rw [decide_eq_false e]; exact s_wh_t (h e)
end
/-- over a range, each turn gives one, and M stays -/
theorem s_klcRng {fin : List D → Mp → QD → Prop} {te : DE} {τ : SD} {M : Mp} {Q : QD} {i0 : Nat} {vs : List Nat} {lo : Int} {n : Nat} (f : Nat → D) (hn : n ≤ sizeLine)
    (hs : ∀ i (Q : QD), i < n → Q (f i) M → te ((wipeD τ vs).set i0 (some (.int (lo + (i : Nat))))) M Q) (hd : fin ((List.range n).map f) M Q) : kLc fin true [i0] vs dYes te τ Q (itRng lo n) M := by
  refine ⟨fun i acc M' => M' = M ∧ acc = (List.range i).map f, ⟨rfl, rfl⟩, fun _ _ _ _ _ => trivial, fun i acc M' hi p => ?_, fun acc M' p => ?_⟩
  · obtain ⟨rfl, rfl⟩ := p
    have hi : i < n := hi
    refine hs i _ hi ⟨?_, rfl, ?_⟩
    · rw [List.length_map, List.length_range]; omega
    · rw [List.range_succ, List.map_append]; rfl
  · obtain ⟨rfl, rfl⟩ := p
    exact hd
/-! a tuple of names, by the places alone -/
def gOf : List Nat → TGs
  | [] => gNil
  | i :: is => gCons (gName i) (gOf is)
theorem gOf_run {K : PySem.W.Frag} {F H : Hp} : ∀ (is : List Nat) {xs : List V} {ds : List D} {σ : L2.St} {τ : SD} {Q : L2.St → Hp → Prop}, Slots K F σ τ → RepAll K F xs ds → ds.length = is.length →
    (∀ σ2, Slots K F σ2 (setAll is ds τ) → (∃ xs : List V, is.length = xs.length ∧ σ2 = (is.zip xs).foldl (fun s p => s.set p.1 (some p.2)) σ) → Q σ2 H) → gOf is xs σ H Q
  | [], xs, ds, σ, τ, Q, sl, ra, hl, q => by
    cases ra with
    | nil => exact ⟨rfl, q σ sl ⟨[], rfl, rfl⟩⟩
    | cons _ _ => cases hl
  | i :: is, xs, ds, σ, τ, Q, sl, ra, hl, q => by
    cases ra with
    | nil => cases hl
    | cons r ra =>
      refine ⟨_, _, rfl, gOf_run is (sl.put r i) ra (Nat.succ.inj hl) fun σ2 s2 ⟨ys, h1, h2⟩ => ?_⟩
      exact q σ2 s2 ⟨_ :: ys, congrArg (· + 1) h1, h2⟩
theorem tg_of {K : PySem.W.Frag} (is : List Nat) : TgOk K (gTup K is.length (gOf is)) false is := by
  constructor
  intro F R H M v d σ τ τ2 Q st sl r e q
  cases d with
  | tup ds =>
    have e : (if ds.length = is.length then some (setAll is ds τ) else none) = some τ2 := e
    by_cases hl : ds.length = is.length
    · rw [if_pos hl] at e
      cases e
      obtain ⟨a, xs, rfl, hs, ra⟩ := tp_get st r
      exact ⟨a, xs, rfl, hs, ra.len.trans hl, gOf_run is sl ra hl q⟩
    · rw [if_neg hl] at e; cases e
  | _ => exact nomatch (show (none : Option SD) = some τ2 from e)
end DL

namespace L2
open PySem PySem.Spec PyProof.Rows
theorem tuple_mul1 (l : Addr) (items : Array Value) (n : Nat) (dd : Option Addr) (sl : Array (Option Value)) (u : Tok) :
    Meets (Builtin.«tuple.__mul__» ⟨[.ref l, .int 1 u], []⟩) (fun _ R s => s.heap.get? l = some { cls := .type "tuple", dict := dd, data := .seq items n, slots := sl } ∧ R (.ok (.ret (Value.ref l))) s) :=
  .of_wp fun prog w A R s h => by
    obtain ⟨hp, g, d, tk, os⟩ := s
    obtain ⟨hl, h⟩ := h
    have f1 := AutoSeq1.idx_int
    wp_walk using wpAny_loadPart' hl
    exact ⟨_, rfl, h⟩
theorem tuple_mul0 (l : Addr) (items : Array Value) (n : Nat) (dd : Option Addr) (sl : Array (Option Value)) (x : Int) (u : Tok) (c0 : (decide (x < -(2 ^ 63)) || decide (x ≥ 2 ^ 63)) = false) (c1 : (items.isEmpty || x == 1) = false) (c2 : (decide (x ≤ 0) || items.isEmpty) = true) :
    Meets (Builtin.«tuple.__mul__» ⟨[.ref l, .int x u], []⟩) (fun _ R s => s.heap.get? l = some { cls := .type "tuple", dict := dd, data := .seq items n, slots := sl } ∧
      R (.ok (.ret (Value.ref s.heap.objs.size))) { s with heap := s.heap.push { cls := Value.type "tuple", data := Data.seq #[] }, toks := s.toks }) :=
  .of_wp fun prog w A R s h => by
    obtain ⟨hp, g, d, tk, os⟩ := s
    obtain ⟨hl, h⟩ := h
    have f1 := AutoSeq1.idx_int
    wp_walk using wpAny_loadPart' hl
    repeat (first
      | (refine wpAny_ite_false (decide_eq_false (by rw [c0]; exact Bool.false_ne_true)) ?_; wp_walk using wpAny_loadPart' hl)
      | (refine wpAny_ite_false (decide_eq_false (by rw [c1]; exact Bool.false_ne_true)) ?_; wp_walk using wpAny_loadPart' hl)
      | (refine wpAny_ite_true (decide_eq_true c2) ?_; wp_walk using wpAny_loadPart' hl))
    exact ⟨_, rfl, h⟩
/-- a tuple, any number of times -/
theorem op_repAny {X : Cx} : OpR X (binaryOp .Mult) (fun x y H Q => ∃ l k xs, x = .ref l ∧ y = .int k ∧ SqT X.K H l xs ∧ xs ≠ [] ∧ -(2 ^ 62) ≤ k ∧ xs.length * k.toNat ≤ 1000000 ∧ (k = 1 → Q (.ref l) H) ∧
    (k ≠ 1 → ∀ p, H p = none → Q (.ref p) (upd H p (.tup (List.replicate k.toNat xs).flatten)))) := by
  rintro pins s σ H x y v u Q I rx ry ⟨l, k, xs, rfl, rfl, hT, hne, hk, hz, q1, q2⟩
  by_cases k2 : 2 ≤ k
  · exact DL.op_repN pins s σ H _ _ v u Q I rx ry ⟨l, k, xs, rfl, rfl, hT, hne, k2, hz, q2 (by omega)⟩
  cases rx
  obtain ⟨t, rfl⟩ := ry
  obtain ⟨its, r, ⟨⟨cls, dd, data, sl⟩, ho, hc, n, hd⟩, hs⟩ := I.tuple hT
  simp only at hc hd
  subst hc hd
  have hle : its.length = xs.length := r.length.symm
  have hn : its ≠ [] := fun e => hne (List.eq_nil_of_length_eq_zero (by rw [← hle, e]; rfl))
  have hi : its.toArray.isEmpty = false := by
    cases its with
    | nil => exact absurd rfl hn
    | cons a b => rfl
  by_cases k1 : k = 1
  · subst k1
    refine wpAny_binaryOp_repeat_ref (T := "tuple") (U := "int") (by decide) ⟨_, ho, rfl⟩ (fun s' => typeIs_int s' 1 t) noFill_tuple_mul F.fills_int_mul F.slot_int_rmul repeat_tuple F.slot_int_index.lookup
      (call_meets F.slot_int_rmul (typeIs_int s 1 t) F.entry_int_rmul (F.args_int_rmul_2 _ _) (int_rmul_tuple 1 t l its.toArray n dd sl)
        ⟨ho, rfl, ⟨_, ho, rfl⟩, call_meets F.slot_tuple_mul ⟨_, ho, rfl⟩ F.entry_tuple_mul (F.args_tuple_mul_2 _ _) (tuple_mul1 l its.toArray n dd sl t) ⟨ho, ?_⟩⟩)
    exact ⟨.ref l, H, I, rfl, q1 rfl⟩
  · refine wpAny_binaryOp_repeat_ref (T := "tuple") (U := "int") (by decide) ⟨_, ho, rfl⟩ (fun s' => typeIs_int s' k t) noFill_tuple_mul F.fills_int_mul F.slot_int_rmul repeat_tuple F.slot_int_index.lookup
      (call_meets F.slot_int_rmul (typeIs_int s k t) F.entry_int_rmul (F.args_int_rmul_2 _ _) (int_rmul_tuple k t l its.toArray n dd sl)
        ⟨ho, rfl, ⟨_, ho, rfl⟩, call_meets F.slot_tuple_mul ⟨_, ho, rfl⟩ F.entry_tuple_mul (F.args_tuple_mul_2 _ _)
          (tuple_mul0 l its.toArray n dd sl k t (by rw [decide_eq_false (by omega), decide_eq_false (by omega)] <;> rfl) (by rw [hi, Bool.false_or]; exact beq_eq_false_iff_ne.mpr (by omega)) (by rw [decide_eq_true (by omega)]; rfl)) ⟨ho, ?_⟩⟩)
    have e0 : (List.replicate k.toNat xs).flatten = [] := by rw [show k.toNat = 0 by omega]; rfl
    have q2 := q2 k1
    rw [e0] at q2
    refine ⟨.ref s.heap.objs.size, _, I.laid (t' := s.toks) (o := .tup []) (fun b ob q => Heap.get?_push_of_some _ q) (Nat.le_refl _) ?_, rfl, q2 _ (I.hok.fresh (Nat.le_refl _))⟩
    exact ⟨Nat.zero_le _, [], .nil, IsTup.new _ _⟩
/-- // of any sign -/
def CDivG (_ j : Int) : Prop := j ≠ 0 ∧ j.natAbs.log2 < 9000
theorem op_fdivG {X : Cx} : OpR X (binaryOp .FloorDiv) (rI CDivG fun i j => .int (i.fdiv j)) := opI fun _ _ _ _ _ _ _ hc q => floordiv_int hc.1 q (.inl (PyProof.noPylong_of_log2 hc.2))
end L2
namespace DL
open PySem PySem.Spec PyProof.Rows L2
abbrev dFdivG : R2D := dI CDivG fun i j => i.fdiv j
def dMulA : R2D := fun x y M Q => match x, y with
  | .tup xs, .int k => xs ≠ [] ∧ -(2 ^ 62) ≤ k ∧ xs.length * k.toNat ≤ 1000000 ∧ Q (.tup (List.replicate k.toNat xs).flatten) M
  | _, _ => False
section
variable {X : Cx} {F0 : Bs}
theorem od_fdivG : OpD X F0 (binaryOp .FloorDiv) dFdivG := od_I op_fdivG
theorem od_mulA : OpD X F0 (binaryOp .Mult) dMulA := by
  intro pins s σ H x y v u Q I rx ry ⟨F, R, M, d, e, Q', e0, st, rd, re, q, k⟩
  unfold dMulA at q
  split at q
  · obtain ⟨a, vs, rfl, h1, ra⟩ := tp_get st rd
    rename_i ds j
    have rd2 := rd
    cases re
    refine op_repAny pins s σ H _ _ v u Q I rx ry ⟨a, _, vs, rfl, rfl, h1, fun z => q.1 ?_, q.2.1, by rw [ra.len]; exact q.2.2.1, fun e1 => ?_, fun e1 p hp => k.tup st hp (ra.reps _) q.2.2.2⟩
    · subst z; cases ra; rfl
    · have q4 := q.2.2.2
      subst e1
      rw [show (List.replicate (1 : Int).toNat ds).flatten = ds by show (ds ++ []) = ds; simp] at q4
      exact k _ _ _ _ _ Ext.refl st rd2 q4
  · exact q.elim
end
theorem s_mulA {xs : List D} {k : Int} {M : Mp} {Q : QD} (e : xs ≠ []) (e1 : -(2 ^ 62) ≤ k) (e2 : xs.length * k.toNat ≤ 1000000) (h : Q (.tup (List.replicate k.toNat xs).flatten) M) : dMulA (.tup xs) (.int k) M Q := ⟨e, e1, e2, h⟩
end DL

namespace L2
open PySem PySem.Spec PyProof.Rows
/-- sum of a list of bools -/
theorem sum_bools {prog : Program} {w : World} {A : Around} {E : Value → Shared → Prop} {s : Shared} {l : Addr} {items : Array Value} {bs : List Bool} {Q : Value → Shared → Prop} (hh : A.handled = none) (hl : s.heap.IsList l items) (hi : items.toList = bs.map Value.bool)
    (h : ∀ h' tk t', (∀ b o, s.heap.get? b = some o → h'.get? b = some o) → Q (.int ((bs.countP id : Nat) : Int) t') { s with heap := h', toks := tk }) : wpAny (model prog w) A (call (.builtin "sum") [.ref l]) Q E s := by
  have hlt : l < s.heap.objs.size := by obtain ⟨_, e, _⟩ := hl; exact Heap.lt_size e
  have sz : items.size = bs.length := by rw [← Array.length_toList, hi, List.length_map]
  refine call_sum_walkAnyB (wpAny_pyIter_list hl ?_)
  refine ⟨_, _, _, _, _, _, _, fun i => if bs.getD i false = true then 1 else 0, rfl, (Walks.list (A := A.in1) hh _ l (Nat.ne_of_lt hlt) items).toS, ⟨⟨_, Heap.get?_push_size _ rfl, rfl, rfl⟩, hl.push _⟩, fun b hb => ?_, fun i v hv => ?_, fun s' t' hm => ?_⟩
  · show b < (s.heap.push _).objs.size
    rw [show (s.heap.push { cls := .type "list_iterator", data := .fields #[.ref l, .int 0 0] }).objs.size = s.heap.objs.size + 1 from Array.size_push ..]
    rcases List.mem_cons.mp hb with rfl | hb
    · exact Nat.lt_succ_self _
    · rw [List.mem_singleton.mp hb]; exact Nat.lt_succ_of_lt hlt
  · have hv2 : items.toList[i]? = some v := by simpa using hv
    rw [hi, List.getElem?_map] at hv2
    cases e : bs[i]? with
    | none => rw [e] at hv2; cases hv2
    | some b =>
      rw [e] at hv2
      cases hv2
      refine .inr ⟨b, rfl, ?_⟩
      show (if bs.getD i false = true then (1 : Int) else 0) = _
      rw [List.getD_eq_getElem?_getD, e]; rfl
  · have e0 : ∀ n, n ≤ bs.length → preSum (fun i => if bs.getD i false = true then 1 else 0) n = (((bs.take n).countP id : Nat) : Int) := by
      intro n
      induction n with
      | zero => intro _; rfl
      | succ n ih =>
        intro hn
        have hx : bs[n]? = some bs[n] := List.getElem?_eq_getElem hn
        rw [preSum, ih (by omega), List.take_succ, hx, List.countP_append, List.getD_eq_getElem?_getD, hx]
        cases bs[n] <;> simp
    have e1 := e0 items.size (by omega)
    rw [sz, List.take_length] at e1
    rw [sz, e1]
    obtain ⟨hp, g, d, tk, os⟩ := s'
    obtain ⟨m1, m2, m3, m4, m5⟩ := hm
    have m2 : g = s.gens := m2
    have m3 : d = s.drawn := m3
    have m4 : os = s.os := m4
    subst m2 m3 m4
    refine h hp tk t' fun b o e => m1 b o ?_ (Heap.get?_push_of_some _ e)
    simp only [List.mem_singleton]
    intro z
    subst z
    exact Nat.lt_irrefl _ (Heap.lt_size e)
theorem cr_sumB {X : Cx} (hc : X.calm = true) : CallR X (.builtin "sum") (fun vs H Q => ∃ (a : Addr) (bs : List Bool), vs = [V.ref a] ∧ SqL X.K H a (bs.map V.bl) ∧ Q (.int ((bs.countP id : Nat) : Int)) H) := by
  intro pins s σ H vs us Q I r h
  obtain ⟨a, bs, rfl, hs, q⟩ := h
  obtain ⟨its, rv, hl, _⟩ := I.list hs
  rw [Vals.ref1 r]
  have hv : ∀ (bs : List Bool) (us : List Value), Vals (bs.map V.bl) us → us = bs.map Value.bool := by
    intro bs
    induction bs with
    | nil => intro us r; cases r; rfl
    | cons b bs ih =>
      intro us r
      cases r with
      | cons r t => cases r; rw [ih _ t]; rfl
  exact sum_bools (I.ok.hd hc) hl.isList (by simpa using hv bs its rv) fun h' tk t' hk => ⟨.int _, H, I.kept hk, ⟨_, rfl⟩, q⟩
end L2
namespace DL
open PySem PySem.Spec PyProof.Rows L2
/-- sum of a list of bools -/
def dSumB : RC := fun ds M Q => match ds with
  | [d] => match lsOf M d with
    | some xs => match blsOf xs with
      | some bs => Q (.int ((bs.countP id : Nat) : Int)) M
      | none => False
    | none => False
  | _ => False
def dGcd : RC := fun ds M Q => match ds with
  | [.int a, .int b] => Q (.int ((Nat.gcd a.natAbs b.natAbs : Nat) : Int)) M
  | _ => False
section
variable {X : Cx} {F0 : Bs} {x : Str} {p pos : Pos} {e : Expr} {es : List Expr} {t : DA} {r : RC} {id : String}
theorem pd_callBf (hc : CallR X (.builtin id) (liC X.K F0 r)) (hg : Gl X x) (hm : X.mg x = some (.builtin id)) (ha : PA X (e :: es) (liA X.K F0 t)) (hdb : (x == ("__debug__" : Str)) = false := by decide)
    (he : starEach (e :: es) X.env = (false, eval e X.env) :: starEach es X.env := by rfl) (hpl : (backTo pos (starEach es X.env)).any (·.1) = false := by rfl) : PE X (.Call (.Name x p) (e :: es) [] pos) (liE X.K F0 (dCB r t)) :=
  peImp (pe_callBfun hc hg hm ha hdb he hpl) fun _ _ _ => li_cb
theorem cd_gcd : CallR X (.builtin "math.gcd") (liC X.K F0 dGcd) := by
  refine caImp cr_gcd fun xs H Q ⟨F, R, M, ds, Q', e0, st, rs, q, k⟩ => ?_
  unfold dGcd at q
  split at q <;> try exact q.elim
  obtain ⟨x, y, rfl, r, r'⟩ := rep2 rs
  cases r; cases r'
  exact ⟨_, _, rfl, k _ _ _ _ _ Ext.refl st (.int _) q⟩
theorem cd_sumB (hc : X.calm = true) : CallR X (.builtin "sum") (liC X.K F0 dSumB) := by
  refine caImp (cr_sumB hc) fun xs H Q ⟨F, R, M, ds, Q', e0, st, rs, q, k⟩ => ?_
  unfold dSumB at q
  split at q <;> try exact q.elim
  obtain ⟨x, rfl, r⟩ := rep1 rs
  split at q <;> try exact q.elim
  rename_i ys h1
  split at q <;> try exact q.elim
  rename_i bs h2
  obtain ⟨a, vs, rfl, hs, ra⟩ := ls_get st r h1
  rw [bls_eq h2] at ra
  have ev := ra.bls
  subst ev
  exact ⟨a, bs, rfl, hs, k _ _ _ _ _ Ext.refl st (.int _) q⟩
end
theorem s_sumB {bs : List Bool} {x : D} {M : Mp} {Q : QD} {ds : List D} (e : lsOf M x = some ds) (e2 : blsOf ds = some bs) (h : Q (.int ((bs.countP id : Nat) : Int)) M) : dSumB [x] M Q := by unfold dSumB; simp only [e, e2]; exact h
theorem s_gcd {a b : Int} {M : Mp} {Q : QD} (h : Q (.int ((Nat.gcd a.natAbs b.natAbs : Nat) : Int)) M) : dGcd [.int a, .int b] M Q := h
/-! two names at once -/
def dPar (i j : Nat) (al : DA) : DS := fun D τ M => al τ M fun ds M1 => match ds with
  | [a, b] => D.nx ((τ.set i (some a)).set j (some b)) M1
  | _ => False
section
variable {X : Cx} {F0 : Bs}
theorem sd_par {i j : Nat} {x y : Str} {a b : Expr} {ta : DA} {px py pt pos : Pos} {kt k2 pt2} (hc : X.calm = true) (hN : X.N.Nodup) (hi : X.N[i]? = some x) (hj : X.N[j]? = some y) (hij : i ≠ j)
    (hx : X.env.scope.names.lookup x = some .local) (hy : X.env.scope.names.lookup y = some .local) (ha : PA X [a, b] (liA X.K F0 ta))
    (hw : swappedStores [.Tuple [.Name x px, .Name y py] kt pt] (.Tuple [a, b] k2 pt2) X.env = pure (some [x, y]))
    (hs : swapsWithSole [.Tuple [.Name x px, .Name y py] kt pt] (.Tuple [a, b] k2 pt2) pos.line X.env = pure false := by rfl) :
    PS X (.Assign [.Tuple [.Name x px, .Name y py] kt pt] (.Tuple [a, b] k2 pt2) pos) (liS X.K F0 (dPar i j ta)) := by
  refine psImp (ps_par hc hN hi hj hij hx hy ha hw hs) fun D σ H ⟨F, R, τ, M, D', e0, st, sl, q, k⟩ => ?_
  refine ⟨F, R, τ, M, _, e0, st, sl, q, fun vs H1 F1 ds M1 e1 st1 r1 q1 => ?_⟩
  split at q1 <;> try exact q1.elim
  obtain ⟨v, w, rfl, r, r'⟩ := rep2 r1
  exact ⟨_, _, rfl, k.nx _ _ _ _ _ e1 st1 (((sl.ext e1).put r i).put r' j) q1⟩
end
def kPar (nx : SD → Mp → Prop) (i j : Nat) (τ : SD) : List D → Mp → Prop := fun ds M1 => match ds with
  | [a, b] => nx ((τ.set i (some a)).set j (some b)) M1
  | _ => False
theorem s_par {nx bk ct : SD → Mp → Prop} {rt : QD} {τ : SD} {M : Mp} {i j : Nat} {al : DA} (h : al τ M (kPar nx i j τ)) : dPar i j al ⟨nx, rt, bk, ct⟩ τ M := h
theorem s_kpar {nx : SD → Mp → Prop} {τ τ2 : SD} {M : Mp} {i j : Nat} {a b : D} (e : (τ.set i (some a)).set j (some b) = τ2) (h : nx τ2 M) : kPar nx i j τ [a, b] M := by subst e; exact h
end DL

namespace DL
open PySem PySem.Spec PyProof.Rows L2
/-! math.lcm -/
theorem cr_lcm {X : Cx} : CallR X (.builtin "math.lcm") (fun vs H Q => ∃ a b : Nat, vs = [.int a, .int b] ∧ a < 2 ^ 30 ∧ b < 2 ^ 30 ∧ Q (.int ((Nat.lcm a b : Nat) : Int)) H) := by
  intro pins s σ H vs us Q I r h
  obtain ⟨a, b, rfl, ha, hb, q⟩ := h
  obtain ⟨t, u, rfl⟩ := Vals.int2 r
  have e0 : Nat.lcm (Nat.lcm 1 (a : Int).natAbs) (b : Int).natAbs = Nat.lcm a b := by rw [Int.natAbs_natCast, Int.natAbs_natCast, Nat.lcm_one_left]
  have lb : Nat.lcm a b < 2 ^ 60 := by
    have := Nat.lcm_le_mul (m := a) (n := b)
    by_cases h0 : a = 0
    · subst h0; rw [Nat.lcm_zero_left]; decide
    by_cases h1 : b = 0
    · subst h1; rw [Nat.lcm_zero_right]; decide
    have l1 := Nat.le_of_dvd (Nat.mul_pos (by omega) (by omega)) (Nat.lcm_dvd_mul a b)
    have l2 : a * b < 2 ^ 30 * 2 ^ 30 := Nat.mul_lt_mul'' ha hb
    have e : (2 : Nat) ^ 30 * 2 ^ 30 = 2 ^ 60 := by decide
    omega
  refine PySem.W.mg_lcm (by omega) (by omega) ?_ ?_
  · rw [e0, Int.natAbs_natCast]
    exact Nat.lt_of_lt_of_le (PySem.Flt.log2_lt_of (k := 60) (by decide) lb) (by decide)
  · rw [e0]
    exact ⟨.int _, H, I.tok _, ⟨_, rfl⟩, q⟩
def dLcm : RC := fun ds M Q => match ds with
  | [.int a, .int b] => 0 ≤ a ∧ a < 2 ^ 30 ∧ 0 ≤ b ∧ b < 2 ^ 30 ∧ Q (.int ((Nat.lcm a.toNat b.toNat : Nat) : Int)) M
  | _ => False
theorem cd_lcm {X : Cx} {F0 : Bs} : CallR X (.builtin "math.lcm") (liC X.K F0 dLcm) := by
  refine caImp cr_lcm fun xs H Q ⟨F, R, M, ds, Q', e0, st, rs, q, k⟩ => ?_
  unfold dLcm at q
  split at q <;> try exact q.elim
  obtain ⟨x, y, rfl, r, r'⟩ := rep2 rs
  cases r; cases r'
  rename_i a b _
  refine ⟨a.toNat, b.toNat, ?_, by omega, by omega, k _ _ _ _ _ Ext.refl st (.int _) q.2.2.2.2⟩
  rw [Int.toNat_of_nonneg q.1, Int.toNat_of_nonneg q.2.2.1]
theorem s_lcm {a b : Nat} {M : Mp} {Q : QD} (ha : a < 2 ^ 30) (hb : b < 2 ^ 30) (h : Q (.int ((Nat.lcm a b : Nat) : Int)) M) : dLcm [.int a, .int b] M Q := by
  refine ⟨by omega, by omega, by omega, by omega, ?_⟩
  rw [Int.toNat_natCast, Int.toNat_natCast]
  exact h
end DL

/-! DL: lambdas with parameters, handed to a def, called there by a name -/
namespace DL
open PySem PySem.Spec PyProof.Rows L2 LamX NdefX

/-! ### objects known exactly -/
def PinO (a : Addr) (o : Obj) : HO := .ext fun h => h.get? a = some o
theorem pinO_at {P : Program} {w : World} {H : Hp} {h : Heap} {a : Addr} {o : Obj} (hok : HOk P w H h) (e : H a = some (PinO a o)) : h.get? a = some o := (hok a _ e).1
theorem pinO_ok {P : Program} {w : World} {H : Hp} {h : Heap} {a : Addr} {o : Obj} (e : h.get? a = some o) : ObjOk P w H h a (PinO a o) := ⟨e, ⟨o, e⟩, fun h1 h2 e1 st => st _ e1⟩
theorem pinO_inj {a : Addr} {o o' : Obj} {P : Program} {w : World} {H : Hp} {h : Heap} (hok : HOk P w H h) (e : H a = some (PinO a o)) (e2 : h.get? a = some o') : o = o' := by
  have := pinO_at hok e
  rw [e2] at this
  exact (Option.some.inj this).symm
/-! ### the making -/
section
variable {X : Cx} {pins : List (Addr × Obj)} {σ : L2.St} {H : Hp} {s : Shared}
theorem inv_pin {o : Obj} {t' : Nat} (I : Inv X pins σ H s) (hz : o.isFreed = false := by rfl) : Inv X pins σ (upd H s.heap.objs.size (PinO s.heap.objs.size o)) { s with heap := s.heap.push o, toks := t' } :=
  I.laid (a := s.heap.objs.size) (fun b u e => Heap.get?_push_of_some _ e) (Nat.le_refl _) (pinO_ok (Heap.get?_push_size _ hz))
/-- the lambda is made: its code object is new, or found in the table; the function object is known from then on -/
theorem lam_make3 {q : Str} {c P : Addr} {params : Arguments} {body : Expr} {scope : Scope} {pos : Pos} {E : Value → Shared → Prop} {Q : Value → Shared → Prop} (I : Inv X pins σ H s) (TB : TabB X.base X.mg c P) (hcode : X.env.code = .ref c)
    (hq : X.env.qual ++ "<lambda>" = q) (hT : TabS H P q) (hdef : defaultsOf params X.env = ([], [])) (hfree : ∀ y ∈ scope.names, y.2 = .free → ∃ c, X.env.cells.lookup y.1 = some c)
    (h : ∀ (f c' : Addr) (pm ctv : Value) (H1 : Hp) (s' : Shared), Inv X pins σ H1 s' → (∀ b o, b ≠ P → H b = some o → H1 b = some o) → TabS H1 P q → H f = none → f ≠ c' → f ≠ P → 
      H1 f = some (PinO f (PySem.W.kla_obj "<lambda>" q params body scope (cloFrom X.env.cells scope.names []) pm c' ctv)) → H1 c' = some (CodeO c' q) → Q (.ref f) s') :
    wpAny (model X.prog X.w) X.A (eval (.Lambda params body scope pos) X.env) Q E s := by
  subst hq
  obtain ⟨ps, hP, ht, ha⟩ := hT
  refine PySem.W.kla_eval hdef ?_
  have bP : s.heap.BuiltinsAt X.mg P := TB.bm.keeps I.bk
  have hP' : s.heap.get? P = some { cls := .none, data := .fields ps } := I.hok P _ hP
  cases hc : codeAmong pos ps.toList with
  | none =>
    refine PySem.W.kla_makeFunction (mg := X.mg) (c := c) (P := P) (ps := ps) (closure_ok hfree) I.ok.glob (I.mod.glob.keeps I.bk) hcode (TB.code.keeps I.bk) hP' ht hc TB.gP bP fun c' ctv h' tk hx hge hlt hrec htb => ?_
    obtain ⟨c2, oc, vs, t, e2, hoc, hd, hv⟩ := hrec
    cases e2
    have nC : H c' = none := I.hok.fresh hge
    have I1 := inv_table (t' := tk) (more := #[rawInt pos.line, rawInt pos.col, .ref c']) (h' := h') I hP (fun b o hb e => hx b o hb e) htb hge ⟨oc, vs, t, hoc, hd, hv⟩
    have hE : ∀ b o, b ≠ P → H b = some o → upd (upd H P (.tbl (ps ++ #[rawInt pos.line, rawInt pos.col, .ref c']))) c' (CodeO c' (X.env.qual ++ "<lambda>")) b = some o := fun b o n e => by
      rw [upd_ne (ne_of_none e nC), upd_ne n]
      exact e
    have eL : (ps ++ #[rawInt pos.line, rawInt pos.col, .ref c']).toList = ps.toList ++ [rawInt pos.line, rawInt pos.col, .ref c'] := by simp
    have T1 : TabS (upd (upd H P (.tbl (ps ++ #[rawInt pos.line, rawInt pos.col, .ref c']))) c' (CodeO c' (X.env.qual ++ "<lambda>"))) P (X.env.qual ++ "<lambda>") := by
      refine ⟨_, by rw [upd_ne (ne_of_none hP nC), upd_same], by rw [eL]; exact PySem.TriplesOk_snoc _ _ _ _ ht, fun p' cv hcv => ?_⟩
      rw [eL] at hcv
      rcases among_app _ ht hcv with z | z
      · obtain ⟨c0, e1, e2⟩ := ha p' cv z
        exact ⟨c0, e1, hE _ _ (ne_of e2 hP (codeO_ne _)) e2⟩
      · exact ⟨c', z, upd_same⟩
    have I2 := inv_pin (t' := tk) (o := PySem.W.kla_obj "<lambda>" (X.env.qual ++ "<lambda>") params body scope (cloFrom X.env.cells scope.names []) ((X.mg "__name__").getD .none) c' ctv) I1
    have nF := I1.hok.fresh (Nat.le_refl h'.objs.size)
    have fc : h'.objs.size ≠ c' := Nat.ne_of_gt hlt
    have fP : h'.objs.size ≠ P := fun z => by
      have : H P = none := by rw [← z]; exact I.hok.fresh (Nat.le_trans hge (Nat.le_of_lt hlt))
      rw [hP] at this; cases this
    refine h h'.objs.size c' ((X.mg "__name__").getD .none) ctv _ _ I2 (fun b o n e => ?_) (T1.ext fun b o e => ?_) (I.hok.fresh (Nat.le_trans hge (Nat.le_of_lt hlt))) fc fP upd_same ?_
    · have e1 := hE b o n e
      exact (upd_ne (ne_of_none e1 nF)).trans e1
    · exact (upd_ne (ne_of_none e nF)).trans e
    · exact (upd_ne (Ne.symm fc)).trans upd_same
  | some cv =>
    obtain ⟨c', e, hco⟩ := ha pos cv hc
    subst e
    refine PySem.W.kla_makeFunctionHit (mg := X.mg) (c := c) (P := P) (ps := ps) (closure_ok hfree) I.ok.glob (I.mod.glob.keeps I.bk) hcode (TB.code.keeps I.bk) hP' ht hc bP fun ctv h' tk hx hsz => ?_
    have I1 : Inv X pins σ H { s with heap := h', toks := tk } := I.kept hx
    have nF : H h'.objs.size = none := I1.hok.fresh (Nat.le_refl _)
    have I2 := inv_pin (t' := tk) (o := PySem.W.kla_obj "<lambda>" (X.env.qual ++ "<lambda>") params body scope (cloFrom X.env.cells scope.names []) ((X.mg "__name__").getD .none) c' ctv) I1
    have T0 : TabS H P (X.env.qual ++ "<lambda>") := ⟨ps, hP, ht, ha⟩
    refine h h'.objs.size c' ((X.mg "__name__").getD .none) ctv _ _ I2 (fun b o n e => ?_) (T0.ext fun b o e => ?_) nF (Ne.symm (ne_of_none hco nF)) (Ne.symm (ne_of_none hP nF)) upd_same ?_
    · exact (upd_ne (ne_of_none e nF)).trans e
    · exact (upd_ne (ne_of_none e nF)).trans e
    · exact (upd_ne (ne_of_none hco nF)).trans hco
end

theorem RepO.raw {K : PySem.W.Frag} {F : Hp} {o u : HO} (h : RepO K F o (.raw u)) : o = u := by
  cases o <;> exact h
/-! ### what a function at hand promises -/
structure Ct where
  P : Program
  w : World
  K : PySem.W.Frag
  mg : Str → Option Value
  base : Heap
  T : List (Addr × Str)
def FnSem (C : Ct) (k : Nat) (f : Addr) (G : Hp) (deps : List (Addr × HO)) (sp : SpD) : Prop :=
  ∀ (A : Around) (outer : List Env) (s : Shared) (H F R : Hp) (M : Mp) (ds : List D) (us : List Value) (vs : List V) (Q' : QD) (Q : VK),
    Room k A → Env0 C.P C.w C.K C.mg C.base A outer s H → Stt C.K F R H M → TabR C.T R → Ext G F → (∀ p ∈ deps, M p.1 = some (.raw p.2)) → RepAll C.K F vs ds → Vals vs us → sp ds M Q' E0D → KE C.K F R Q' Q →
    codeAny (model C.P C.w) A (.call (.ref f) ⟨us, []⟩) (CR CX0 outer C.P C.w H s Q fun _ _ _ => False) s
/-- in M, d is a function that keeps sp -/
def HasFn (C : Ct) (k : Nat) (M : Mp) (d : D) (sp : SpD) : Prop := match d with
  | .fn f G => ∃ deps : List (Addr × HO), (∃ oc od fd sl, (f, PinO f ⟨oc, od, .func fd, sl⟩) ∈ deps ∨ C.K.lookup f = some ⟨oc, od, .func fd, sl⟩) ∧ (∀ p ∈ deps, M p.1 = some (.raw p.2)) ∧ FnSem C k f G deps sp
  | _ => False
theorem HasFn.imp {C : Ct} {k : Nat} {M : Mp} {d : D} {sp sp' : SpD} (h : HasFn C k M d sp) (e : ∀ ds M Q E, sp' ds M Q E → sp ds M Q E) : HasFn C k M d sp' := by
  cases d with
  | fn f G =>
    obtain ⟨deps, h1, h2, h3⟩ := h
    exact ⟨deps, h1, h2, fun A outer s H F R M ds us vs Q' Q a b c t g dd ra r q kq => h3 A outer s H F R M ds us vs Q' Q a b c t g dd ra r (e _ _ _ _ q) kq⟩
  | _ => exact h
theorem HasFn.more {C : Ct} {k : Nat} {M M' : Mp} {d : D} {sp : SpD} (h : HasFn C k M d sp) (e : ∀ a o, M a = some (.raw o) → M' a = some (.raw o)) : HasFn C k M' d sp := by
  cases d with
  | fn f G =>
    obtain ⟨deps, h1, h2, h3⟩ := h
    exact ⟨deps, h1, fun p hp => e _ _ (h2 p hp), h3⟩
  | _ => exact h
/-- another thing is new, or is changed -/
theorem HasFn.upd {C : Ct} {k : Nat} {M : Mp} {d : D} {sp : SpD} {p : Addr} {m : MO} (h : HasFn C k M d sp) (hp : ∀ o, M p ≠ some (.raw o)) : HasFn C k (updM M p m) d sp :=
  h.more fun a o e => by rw [updM_ne (fun z => by subst z; exact hp o e)]; exact e
def dCallV (C : Ct) (k i : Nat) (t : DA) : DE := fun τ M Q => ∃ d sp, τ[i]? = some (some d) ∧ HasFn C k M d sp ∧ t τ M fun ds M1 => HasFn C k M1 d sp ∧ sp ds M1 Q E0D
abbrev ctOf (X : Cx) (F0 : Bs) : Ct := ⟨X.prog, X.w, X.K, X.mg, X.base, F0.T⟩
section
variable {X : Cx} {F0 : Bs} {i k : Nat} {x : Str} {p pos : Pos} {e : Expr} {es : List Expr} {t : DA}
theorem hasFn_at {F R H : Hp} {M : Mp} {s : Shared} {pins : List (Addr × Obj)} {σ : L2.St} {k : Nat} {f : Addr} {G : Hp} {sp : SpD} (I : Inv X pins σ H s) (st : Stt X.K F R H M) (h : HasFn (ctOf X F0) k M (.fn f G) sp) : PySem.W.FnAt f s.heap := by
  obtain ⟨deps, ⟨oc, od, fd, sl, h1⟩, h2, _⟩ := h
  rcases h1 with h1 | h1
  · obtain ⟨_, o, ho, ro⟩ := st.ow _ _ (h2 _ h1)
    have e : o = PinO f ⟨oc, od, .func fd, sl⟩ := ro.raw
    subst e
    exact ⟨oc, od, fd, sl, pinO_at I.hok ho⟩
  · exact ⟨oc, od, fd, sl, I.kIn _ _ h1⟩
theorem pd_callV (hr : Room k X.A) (hN : X.N[i]? = some x) (hv : Vis X.env.scope x) (ha : PA X (e :: es) (liA X.K F0 t)) (hd : (x == ("__debug__" : Str)) = false := by decide) (hcd : (x == ("__classdict__" : Str)) = false := by decide)
    (he : starEach (e :: es) X.env = (false, eval e X.env) :: starEach es X.env := by rfl) (hpl : (backTo pos (starEach es X.env)).any (·.1) = false := by rfl) :
    PE X (.Call (.Name x p) (e :: es) [] pos) (liE X.K F0 (dCallV (ctOf X F0) k i t)) := by
  refine ⟨fun pins s σ H Q I ⟨F, R, τ, M, Q', e0, st, sl, ⟨d, sp, hs, hf, ht⟩, kq⟩ => ?_⟩
  obtain ⟨v, hσ, rv⟩ := sl.get hs
  cases d with
  | fn f G =>
    cases rv with
    | fn eG =>
      refine wpAny_Call_Name_kw (thn ((pe_var (pos := p) hN hv hd hcd).run pins s σ H (fun v H1 => v = .ref f ∧ H1 = H) I ⟨.ref f, hσ, rfl, rfl⟩) fun u s1 ⟨v, H1, I1, r1, q1⟩ => ?_)
      obtain ⟨ev, eH⟩ := q1
      subst ev
      rw [eH] at I1
      obtain rfl : u = Value.ref f := r1
      refine PySem.W.callWith_F (first := []) (hasFn_at I1 st hf) (thn (ha.run pos pins s1 σ H (fun vs H2 => ∃ F2 ds M2, Ext F F2 ∧ Stt X.K F2 R H2 M2 ∧ RepAll X.K F2 vs ds ∧ HasFn (ctOf X F0) k M2 (.fn f G) sp ∧ sp ds M2 Q' E0D) I1
        ⟨F, R, τ, M, _, e0, st, sl, ht, fun vs H2 F2 ds M2 e2 st2 r2 ⟨q1, q2⟩ => ⟨F2, ds, M2, e2, st2, r2, q1, q2⟩⟩) fun us s2 ⟨vs, H2, I2, r, F2, ds, M2, e2, st2, r2, q1, q2⟩ => ⟨hasFn_at I2 st2 q1, ?_⟩) he hpl
      show wpAny _ _ (call (.ref f) us) _ _ _
      obtain ⟨deps, _, h2, h3⟩ := q1
      refine wpAny_call (codeAny_mono (h3 X.A X.stack s2 H2 F2 R M2 ds us vs Q' Q hr I2.env0 st2 e0.t (eG.trans e2) h2 r2 r q2 (kq.ext e2)) fun r s' hq => ?_)
      cases r with
      | error e => exact False.elim hq
      | ok fl =>
        cases fl with
        | ret u => exact I2.after hq
        | next => exact False.elim hq
        | brk => exact False.elim hq
        | cont => exact False.elim hq
  | _ => exact False.elim hf
end
end DL

namespace DL
open PySem PySem.Spec PyProof.Rows L2 LamX NdefX
/-! ### a lambda keeps what its body's reading says -/
/-- what stands in M as data stands in M' -/
def AgreeL (M M' : Mp) : Prop := ∀ a m, M a = some m → (∀ o, m ≠ .raw o) → M' a = some m
/-- the body's reading at its names: the parameters, then what was captured -/
def spL (tb : DE) (n : Nat) (ws : List D) : SpD := fun ds M Q _ => ds.length = n ∧ ∃ P : D → Prop, (∀ M', AgreeL M M' → tb (ds.map some ++ ws.map some) M' fun d M2 => M2 = M' ∧ P d) ∧ ∀ d, P d → Q d M
abbrev lamF (q : Str) (params : Arguments) (scope : Scope) (cl : List (Str × Addr)) (c' : Addr) : NF := ⟨"<lambda>", q, params, [], scope, cl, c'⟩
theorem RsOk.imp {H H' : Hp} {a : Addr} {o : HO} (h : RsOk H a o) (k : ∀ u, H a = some u → H' a = some u) (kc : ∀ c q, H c = some (CodeO c q) → H' c = some (CodeO c q)) : RsOk H' a o := by
  cases o with
  | xd fs =>
    obtain ⟨q, e, ps, h1, h2, h3⟩ := h
    refine ⟨q, e, ps, k _ h1, h2, fun pos cv hc => ?_⟩
    obtain ⟨c, e1, e2⟩ := h3 pos cv hc
    exact ⟨c, e1, kc _ _ e2⟩
  | _ => exact k _ h
theorem slots_all {K : PySem.W.Frag} {F : Hp} : ∀ {vs : List V} {ds : List D}, RepAll K F vs ds → Slots K F (vs.map some) (ds.map some)
  | _, _, .nil => .nil
  | _, _, .cons r t => .cons r (slots_all t)
theorem Slots.app {K : PySem.W.Frag} {F : Hp} : ∀ {σ σ' : L2.St} {τ τ' : SD}, Slots K F σ τ → Slots K F σ' τ' → Slots K F (σ ++ σ') (τ ++ τ')
  | _, _, _, _, .nil, h => h
  | _, _, _, _, .cons r t, h => .cons r (Slots.app t h)
/-- a cell's object is no code object -/
theorem cell_code {P : Program} {w : World} {H : Hp} {h : Heap} {c : Addr} {q : Str} {o : Obj} {v : Option Value} (hok : HOk P w H h) (e : H c = some (CodeO c q)) (ho : h.get? c = some o) (hd : o.data = .cell v) : False := by
  obtain ⟨⟨oc, vs, t, h1, h2, _⟩, _⟩ := hok c _ e
  rw [ho] at h1
  cases h1
  rw [hd] at h2; cases h2
theorem lam_sem {C : Ct} {k : Nat} {params : Arguments} {body : Expr} {scope : Scope} {q : Str} {pm ctv : Value} {c' f : Addr} {cl : List (Str × Addr)} {N ps fr : List Str} {G : Hp} {tb : DE} {ws : List D} {wv : List V} {cs : List Addr} {ob : Addr → Obj}
    (S : NScope N ps fr scope) (hN : N.length = ps.length + fr.length)
    (hbind : ∀ us : List Value, us.length = ps.length → bindArgs (PySem.W.kla_fn "<lambda>" q params body scope cl pm (.ref c') ctv) ⟨us, []⟩ = pure (ps.zip us))
    (hbody : ∀ (A : Around) (outer : List Env) (s : Shared) (H F0 R0 : Hp), Room k (A.deeper (envF (lamF q params scope cl c') f s.heap.objs.size)) → PE (ncx CX0 C.P C.w C.K C.mg C.base N (lamF q params scope cl c') f A outer s H E0).nox body (liE C.K ⟨F0, R0, C.T⟩ tb))
    (hin : ∀ y c, cl.lookup y = some c → c ∈ cs) (hcell : ∀ c ∈ cs, ∃ v, (ob c).data = .cell v) (inj : ∀ x y c, cl.lookup x = some c → cl.lookup y = some c → x = y)
    (hval : ∀ (i : Nat) (y : Str), fr[i]? = some y → ∃ c, cl.lookup y = some c ∧ ∀ v, wv[i]? = some v → ∃ u, L2.RelV v u ∧ (ob c).data = .cell (some u))
    (hwl : wv.length = fr.length) (rep : RepAll C.K G wv ws) :
    FnSem C (k + 1) f G ((f, PinO f (PySem.W.kla_obj "<lambda>" q params body scope cl pm c' ctv)) :: (c', CodeO c' q) :: cs.map fun c => (c, PinO c (ob c))) (spL tb ps.length ws) := by
  intro A outer s H F R M ds us vs Q' Q hr e0 st tr eG hd ra r hsp kq
  obtain ⟨hl, P, hP, hQ⟩ := hsp
  have at_ : ∀ p ∈ ((f, PinO f (PySem.W.kla_obj "<lambda>" q params body scope cl pm c' ctv)) :: (c', CodeO c' q) :: cs.map fun c => (c, PinO c (ob c))), F p.1 = none ∧ H p.1 = some p.2 := fun p hp => by
    obtain ⟨h1, o, h2, h3⟩ := st.ow _ _ (hd p hp)
    exact ⟨h1, by rw [h2, h3.raw]⟩
  have Hf := (at_ _ List.mem_cons_self).2
  have Hc := (at_ _ (List.mem_cons_of_mem _ List.mem_cons_self)).2
  have Hcs : ∀ c ∈ cs, F c = none ∧ H c = some (PinO c (ob c)) ∧ M c = some (.raw (PinO c (ob c))) := fun c hc => by
    have hm : (c, PinO c (ob c)) ∈ ((f, PinO f (PySem.W.kla_obj "<lambda>" q params body scope cl pm c' ctv)) :: (c', CodeO c' q) :: cs.map fun c => (c, PinO c (ob c))) := List.mem_cons_of_mem _ (List.mem_cons_of_mem _ (List.mem_map.mpr ⟨c, hc, rfl⟩))
    exact ⟨(at_ _ hm).1, (at_ _ hm).2, hd _ hm⟩
  have hob : ∀ c ∈ cs, s.heap.get? c = some (ob c) := fun c hc => pinO_at e0.hok (Hcs c hc).2.1
  have ncode : ∀ c ∈ cs, ∀ q, H c ≠ some (CodeO c q) := fun c hc q z => by
    obtain ⟨v, hv⟩ := hcell c hc
    exact cell_code e0.hok z (hob c hc) hv
  have hext : ∀ c ∈ cs, ∀ u, H c = some u → ¬ NX u := fun c hc u e => by
    rw [(Hcs c hc).2.1] at e
    cases e
    exact id
  -- the cells are let go
  let H0 : Hp := fun b => if b ∈ cs then none else H b
  let M0 : Mp := fun b => if b ∈ cs then none else M b
  have H0n : ∀ b, b ∈ cs → H0 b = none := fun b h => if_pos h
  have H0s : ∀ b, b ∉ cs → H0 b = H b := fun b h => if_neg h
  have M0n : ∀ b, b ∈ cs → M0 b = none := fun b h => if_pos h
  have M0s : ∀ b, b ∉ cs → M0 b = M b := fun b h => if_neg h
  have H0sub : ∀ b u, H0 b = some u → b ∉ cs ∧ H b = some u := fun b u e => by
    by_cases hb : b ∈ cs
    · rw [H0n b hb] at e; cases e
    · exact ⟨hb, by rw [← H0s b hb]; exact e⟩
  have H0nx : ∀ b u, H b = some u → NX u → H0 b = some u := fun b u e n => by
    by_cases hb : b ∈ cs
    · exact absurd n (hext b hb u e)
    · rw [H0s b hb]; exact e
  have hok0 : HOk C.P C.w H0 s.heap := fun b u e => by
    obtain ⟨hb, e1⟩ := H0sub b u e
    exact (e0.hok b u e1).stay (fun c v _ z => z) (fun c z => H0nx c _ z trivial) fun c xs z => H0nx c _ z trivial
  have e00 : Env0 C.P C.w C.K C.mg C.base A outer s H0 := ⟨e0.frames, e0.mod, fun b o e => ⟨(e0.bs b o e).1, by
    by_cases hb : b ∈ cs
    · exact H0n b hb
    · rw [H0s b hb]; exact (e0.bs b o e).2⟩, e0.bsz, e0.funs, fun b hb => by
    by_cases hb2 : b ∈ cs
    · exact H0n b hb2
    · rw [H0s b hb2]; exact e0.frf b hb, hok0, e0.bare⟩
  have nfr : ∀ c ∈ cs, c ∉ frs outer := fun c hc z => by
    have := e0.frf c z
    rw [(Hcs c hc).2.1] at this; cases this
  have st0 : Stt C.K F R H0 M0 := by
    refine ⟨fun a o e => ?_, fun a o e => ?_, fun a m e => ?_, st.nf, st.nr⟩
    · have : a ∉ cs := fun z => by rw [(Hcs a z).1] at e; cases e
      rw [H0s a this]; exact st.fz a o e
    · obtain ⟨h1, h2, h3⟩ := st.rs a o e
      have na : a ∉ cs := fun z => by rw [(Hcs a z).2.2] at h3; cases h3
      refine ⟨h1.imp (fun u eu => by rw [H0s a na]; exact eu) (fun c q ec => ?_), h2, by rw [M0s a na]; exact h3⟩
      by_cases hc : c ∈ cs
      · exact absurd ec (ncode c hc q)
      · rw [H0s c hc]; exact ec
    · by_cases ha : a ∈ cs
      · rw [M0n a ha] at e; cases e
      · rw [M0s a ha] at e
        obtain ⟨h1, o, h2, h3⟩ := st.ow a m e
        exact ⟨h1, o, by rw [H0s a ha]; exact h2, h3⟩
  have agree : AgreeL M M0 := fun a m e n => by
    by_cases ha : a ∈ cs
    · rw [(Hcs a ha).2.2] at e
      cases e
      exact absurd rfl (n _)
    · rw [M0s a ha]; exact e
  have lim : s.heap.NoLimit := e0.mod.nolimit.keeps fun b o e => (e0.bs b o e).1
  have hvl : vs.length = ps.length := by rw [ra.len]; exact hl
  have CA : CellsAt cl fr (wv.map some) s.heap H0 := ⟨by rw [List.length_map]; exact hwl, fun y c e => ⟨H0n c (hin y c e), by
    obtain ⟨v, hv⟩ := hcell c (hin y c e)
    exact ⟨v, ob c, hob c (hin y c e), hv⟩⟩, inj, fun i y e => by
    obtain ⟨c, hc, hv⟩ := hval i y e
    refine ⟨c, hc, fun v ev => ?_⟩
    have ev : wv[i]? = some v := by
      rw [List.getElem?_map] at ev
      cases ew : wv[i]? with
      | none => rw [ew] at ev; cases ev
      | some z => rw [ew] at ev; cases ev; rfl
    obtain ⟨u, ru, hu⟩ := hv v ev
    exact ⟨u, ru, ob c, hob c (hin y c hc), hu⟩⟩
  refine PySem.W.kla_callFunE hr.depth (pinO_at e0.hok Hf) rfl S.co S.gen rfl (codeO_at e0.hok Hc) ?_
  rw [hbind us (by rw [← r.length]; exact hvl)]
  refine wpAny_pure (wpAny_newFunctionEnv S.nocell (fun ⟨n, _⟩ hy => S.par n (List.of_mem_zip hy).1) (fun h₁ hns hsb => ⟨lim.fresh _ hsb, ?_⟩) S.kind)
  show codeAny _ _ (.expr body (envF (lamF q params scope cl c') f s.heap.objs.size)) _ _
  have kp : ∀ b o, s.heap.get? b = some o → h₁.get? b = some o := fun b o e => hsb.extBut b o (Nat.ne_of_lt (Heap.lt_size e)) (Heap.get?_push_of_some _ e)
  have J : Inv (ncx CX0 C.P C.w C.K C.mg C.base N (lamF q params scope cl c') f A outer s H0 E0) [] (startF N vs (wv.map some)) H0 { s with heap := h₁, toks := s.toks + (ps.zip us).length } := inv_startN S hr.hd e00 hvl r CA hns kp
  have sl : Slots C.K F (startF N vs (wv.map some)) (ds.map some ++ ws.map some) := by
    unfold startF
    rw [List.length_map, hwl, hvl, hN, show ps.length + fr.length - ps.length - fr.length = 0 by omega, List.replicate_zero, List.append_nil]
    exact (slots_all ra).app (slots_all (rep.ext eG))
  refine PySem.W.kla_codeExpr (wpAny_mono ((hbody A outer s H0 F R (hr.deeper _)).run [] _ _ H0 (fun v H2 => ∃ F2 d, Ext F F2 ∧ Stt C.K F2 R H2 M0 ∧ Rep C.K F2 v d ∧ P d) (J.wish _)
    ⟨F, R, _, M0, _, ⟨Ext.refl, Ext.refl, tr⟩, st0, sl, hP M0 agree, fun v H2 F2 d M2 e2 st2 r2 ⟨eM, pd⟩ => by subst eM; exact ⟨F2, d, e2, st2, r2, pd⟩⟩) (fun v s' hq => ?_) fun e s' hq => False.elim hq)
  obtain ⟨w', H', J', rv, F2, d, e2, st2, r2, pd⟩ := hq
  have J' := J'.unwish
  -- the cells are known again
  have un := J'.base
  have Hn : ∀ c ∈ cs, H' c = none := fun c hc => un.free c (ob c) (hob c hc) (H0n c hc) (by simp [ncx])
  have obk : ∀ c ∈ cs, s'.heap.get? c = some (ob c) := fun c hc => un.keep c (ob c) (hob c hc) (H0n c hc) (nfr c hc) (by simp [ncx])
  let H2 : Hp := fun b => if b ∈ cs then H b else H' b
  have H2n : ∀ b, b ∈ cs → H2 b = H b := fun b h => if_pos h
  have H2s : ∀ b, b ∉ cs → H2 b = H' b := fun b h => if_neg h
  have H2of : ∀ b u, H' b = some u → H2 b = some u := fun b u e => by
    have : b ∉ cs := fun z => by rw [Hn b z] at e; cases e
    rw [H2s b this]; exact e
  have old : ∀ b u, H b = some u → NX u → b ∉ cs ∧ H0 b = some u := fun b u e n => by
    have hb : b ∉ cs := fun z => hext b z u e n
    exact ⟨hb, by rw [H0s b hb]; exact e⟩
  have H0of : ∀ b, H b = none → H0 b = none := fun b e => by
    by_cases hb : b ∈ cs
    · exact H0n b hb
    · rw [H0s b hb]; exact e
  have ncs : ∀ b, H b = none → b ∉ cs := fun b e z => by rw [(Hcs b z).2.1] at e; cases e
  refine ⟨w', H2, J'.os, J'.bare, ⟨fun b o e n hf hx => un.keep b o e (H0of b n) hf (by simp [ncx]), fun b o e n hf hx => un.slot b o e (H0of b n) hf (by simp [ncx]), fun b o e n hx => by
      rw [H2s b (ncs b n)]; exact un.free b o e (H0of b n) (by simp [ncx]), fun b o e hx => un.there b o e (by simp [ncx]), fun b xs e => H2of _ _ (un.tups b xs (old b _ e trivial).2), fun b o u e => H2of _ _ (un.frzs b o u (old b _ e trivial).2), fun b ps e => by
      obtain ⟨more, z⟩ := un.tbls b ps (old b _ e trivial).2
      exact ⟨more, H2of _ _ z⟩⟩, ?_, rv, ?_⟩
  · intro b u e
    by_cases hb : b ∈ cs
    · rw [H2n b hb, (Hcs b hb).2.1] at e
      cases e
      exact pinO_ok (obk b hb)
    · rw [H2s b hb] at e
      exact (J'.hok b u e).stay (fun c v _ z => z) (fun c z => H2of _ _ z) fun c xs z => H2of _ _ z
  · refine kq w' H2 F2 d M e2 ?_ r2 (hQ d pd)
    refine ⟨fun a o e => H2of _ _ (st2.fz a o e), fun a o e => ?_, fun a m e => ?_, st2.nf, st2.nr⟩
    · obtain ⟨h1, h2, h3⟩ := st2.rs a o e
      exact ⟨h1.imp (fun u eu => H2of _ _ eu) fun c q ec => H2of _ _ ec, h2, (st.rs a o e).2.2⟩
    · by_cases ha : a ∈ cs
      · rw [(Hcs a ha).2.2] at e
        cases e
        refine ⟨?_, PinO a (ob a), by rw [H2n a ha]; exact (Hcs a ha).2.1, (show RepO C.K F2 (PinO a (ob a)) (.raw (PinO a (ob a))) from rfl)⟩
        cases ef : F2 a with
        | none => rfl
        | some o =>
          have := st2.fz a o ef
          rw [Hn a ha] at this; cases this
      · obtain ⟨h1, o, h2, h3⟩ := st2.ow a m (by rw [M0s a ha]; exact e)
        exact ⟨h1, o, H2of _ _ h2, h3⟩
end DL

namespace DL
open PySem PySem.Spec PyProof.Rows L2 LamX NdefX
/-- more things of the free kind are known -/
def MoreRaw (M M' : Mp) : Prop := (∀ a m, M a = some m → M' a = some m) ∧ ∀ a m, M' a = some m → M a = some m ∨ ∃ o, m = .raw o
theorem MoreRaw.trans {M M1 M2 : Mp} (h : MoreRaw M M1) (g : MoreRaw M1 M2) : MoreRaw M M2 := ⟨fun a m e => g.1 a m (h.1 a m e), fun a m e => (g.2 a m e).elim (fun z => h.2 a m z) .inr⟩
/-- g(e1, lambda ..: body, e3) -/
def dCallL (C : Ct) (k : Nat) (js : List Nat) (n : Nat) (tb : DE) (sp : SpD) (t1 t3 : DE) : DE := fun τ M Q => t1 τ M fun d1 M1 => ∃ ws : List D, js.map (fun j => τ[j]?) = ws.map (fun d => some (some d)) ∧
  ∀ M2, MoreRaw M1 M2 → t3 τ M2 fun d3 M3 => M3 = M2 ∧ ∀ d Mf, MoreRaw M2 Mf → HasFn C k Mf d (spL tb n ws) → sp [d1, d, d3] Mf (fun r M4 => M4 = Mf ∧ Q r M1) E0D
theorem caps_get {K : PySem.W.Frag} {F : Hp} {σ : L2.St} {τ : SD} (sl : Slots K F σ τ) : ∀ {js : List Nat} {ws : List D}, js.map (fun j => τ[j]?) = ws.map (fun d => some (some d)) → ∃ wv : List V, js.map (slotAt σ) = wv.map some ∧ RepAll K F wv ws
  | [], [], _ => ⟨[], rfl, .nil⟩
  | [], _ :: _, e => by cases e
  | _ :: _, [], e => by cases e
  | j :: js, w :: ws, e => by
    rw [List.map_cons, List.map_cons] at e
    have e1 := (List.cons.inj e).1
    have e2 := (List.cons.inj e).2
    obtain ⟨v, hv, rv⟩ := sl.get e1
    obtain ⟨wv, h1, h2⟩ := caps_get sl e2
    exact ⟨v :: wv, by rw [List.map_cons, List.map_cons, h1, slotAt_of hv], .cons rv h2⟩
section
variable {X : Cx} {F0 : Bs} {kf kb : Nat} {g c P : Addr} {gfd : FuncData} {psg ps fr N : List Str} {gx q : Str} {sp : SpD} {t1 t3 tb : DE} {js : List Nat} {params : Arguments} {body e1 e3 : Expr} {scope : Scope} {p lpos pos : Pos}
theorem pd_callL (Fg : FnOk X.prog X.w X.K X.mg X.base CX0 kf g gfd psg (liSp X.K F0.T sp)) (hr : Room kf X.A) (hg : Gl X gx) (hm : X.mg gx = some (.ref g)) (hk : PySem.W.keepIn X.K (.ref g) = true) (hb : Binds X.K gfd psg [])
    (TB : TabB X.base X.mg c P) (hcode : X.env.code = .ref c) (hT : (P, q) ∈ F0.T) (hq : X.env.qual ++ "<lambda>" = q) (h1 : PE X e1 (liE X.K F0 t1)) (h3 : PE X e3 (liE X.K F0 t3))
    (hdef : defaultsOf params X.env = ([], [])) (hfn : ∀ x, X.fn x = true) (hsc : ndefB X.env.scope scope fr = true) (S : NScope N ps fr scope) (hN : N.length = ps.length + fr.length) (hjs : js.map (fun j => X.N[j]?) = fr.map some)
    (hbind : ∀ (cl : List (Str × Addr)) (pm cv ctv : Value) (us : List Value), us.length = ps.length → bindArgs (PySem.W.kla_fn "<lambda>" q params body scope cl pm cv ctv) ⟨us, []⟩ = pure (ps.zip us))
    (hbody : ∀ (f c' : Addr) (cl : List (Str × Addr)) (A : Around) (outer : List Env) (s : Shared) (H F0' R0' : Hp), Room kb (A.deeper (envF (lamF q params scope cl c') f s.heap.objs.size)) →
      PE (ncx CX0 X.prog X.w X.K X.mg X.base N (lamF q params scope cl c') f A outer s H E0).nox body (liE X.K ⟨F0', R0', F0.T⟩ tb))
    (hdb : (gx == ("__debug__" : Str)) = false := by decide) (he : starEach [e1, .Lambda params body scope lpos, e3] X.env = [(false, eval e1 X.env), (false, eval (.Lambda params body scope lpos) X.env), (false, eval e3 X.env)] := by rfl) (he1 : starEach [.Lambda params body scope lpos, e3] X.env = [(false, eval (.Lambda params body scope lpos) X.env), (false, eval e3 X.env)] := by rfl) :
    PE X (.Call (.Name gx p) [e1, .Lambda params body scope lpos, e3] [] pos) (liE X.K F0 (dCallL (ctOf X F0) (kb + 1) js ps.length tb sp t1 t3)) := by
  refine ⟨fun pins s σ H Q I ⟨F, R, τ, M, Q', e0, st, sl, ht, kq⟩ => ?_⟩
  refine wpAny_Call_Name_kw (ld_glob I hg hm ?_ hdb)
  refine PySem.W.callWith_K (h₀ := X.base) I.ok.mod.kin hk ?_ (by rw [he, he1]) (by rw [he1]; rfl)
  rw [he]
  show wpAny _ _ (spliced [(false, eval e1 X.env), (false, eval (.Lambda params body scope lpos) X.env), (false, eval e3 X.env)]) _ _ s
  refine Calls.spliced_cons (thn (h1.run pins s σ H (fun v H1 => ∃ F1 d1 M1, Ext F F1 ∧ Stt X.K F1 R H1 M1 ∧ Rep X.K F1 v d1 ∧ ∃ ws : List D, js.map (fun j => τ[j]?) = ws.map (fun d => some (some d)) ∧
    ∀ M2, MoreRaw M1 M2 → t3 τ M2 fun d3 M3 => M3 = M2 ∧ ∀ d Mf, MoreRaw M2 Mf → HasFn (ctOf X F0) (kb + 1) Mf d (spL tb ps.length ws) → sp [d1, d, d3] Mf (fun r M4 => M4 = Mf ∧ Q' r M1) E0D) I
    ⟨F, R, τ, M, _, e0, st, sl, ht, fun v H2 F2 d M2 e2 st2 r2 q2 => ⟨F2, d, M2, e2, st2, r2, q2⟩⟩) fun u1 s1 ⟨v1, H1, I1, rl1, F1, d1, M1, ex1, st1, rp1, ws, hws, h2⟩ => ?_)
  have tbl1 : TabS H1 P q := by
    obtain ⟨⟨q', e, t⟩, _, _⟩ := st1.rs _ _ (e0.t _ hT)
    have : q = q' := by cases e; rfl
    rw [this]; exact t
  have nfr := ndef_free hsc
  have hfree : ∀ y ∈ scope.names, y.2 = .free → ∃ c, X.env.cells.lookup y.1 = some c := fun y hy e => (nfr y hy e).elim (fun z => I.ok.has _ (.inl z)) fun z => I.ok.has _ (.inr z)
  refine Calls.spliced_cons (lam_make3 I1 TB hcode hq tbl1 hdef hfree fun f c' pm ctv Ha sa Ia kp Ta nf fc fP hf hc => ?_)
  -- the function object and its code object are known
  let M2 : Mp := fun b => if b = f then some (.raw (PinO f (PySem.W.kla_obj "<lambda>" q params body scope (cloFrom X.env.cells scope.names []) pm c' ctv))) else if b = c' then some (.raw (CodeO c' q)) else M1 b
  have mP : R P = some (.xd [(q, .non)]) := e0.t _ hT
  have hP1 := st1.rs _ _ mP
  have ext_no : ∀ (F : Hp) a φ, F a = some (.ext φ) → (∀ a o, F a = some o → NX o) → False := fun F a φ e n => n a _ e
  have fF : F1 f = none := by
    cases e : F1 f with
    | none => rfl
    | some o => have := st1.fz _ _ e; rw [nf] at this; cases this
  have cF : ∀ o, F1 c' = some o → False := fun o e => by
    by_cases hcP : c' = P
    · subst hcP; rw [hP1.2.1] at e; cases e
    · have h1 := kp _ _ hcP (st1.fz _ _ e)
      rw [hc] at h1
      cases h1
      exact st1.nf _ _ e
  have M1f : M1 f = none := by
    cases e : M1 f with
    | none => rfl
    | some m => obtain ⟨_, o, ho, _⟩ := st1.ow _ _ e; rw [nf] at ho; cases ho
  have M2f : M2 f = some (.raw (PinO f (PySem.W.kla_obj "<lambda>" q params body scope (cloFrom X.env.cells scope.names []) pm c' ctv))) := if_pos rfl
  have M2c : M2 c' = some (.raw (CodeO c' q)) := (if_neg (Ne.symm fc)).trans (if_pos rfl)
  have M2s : ∀ b, b ≠ f → b ≠ c' → M2 b = M1 b := fun b h1 h2 => (if_neg h1).trans (if_neg h2)
  have M1c : ∀ m, M1 c' = some m → m = .raw (CodeO c' q) := fun m e => by
    have hcP : c' ≠ P := fun z => by subst z; rw [hP1.2.2] at e; cases e
    obtain ⟨_, o, ho, ro⟩ := st1.ow _ _ e
    have h1 := kp _ _ hcP ho
    rw [hc] at h1
    cases h1
    unfold CodeO at ro ⊢
    cases m with
    | raw u => have : _ = u := ro; rw [this]
    | _ => exact ro.elim
  have more1 : MoreRaw M1 M2 := ⟨fun a m e => by
    by_cases ha : a = f
    · subst ha; rw [M1f] at e; cases e
    by_cases hc2 : a = c'
    · subst hc2; rw [M2c, M1c m e]
    · rw [M2s a ha hc2]; exact e, fun a m e => by
    by_cases ha : a = f
    · subst ha; rw [M2f] at e; cases e; exact .inr ⟨_, rfl⟩
    by_cases hc2 : a = c'
    · subst hc2; rw [M2c] at e; cases e; exact .inr ⟨_, rfl⟩
    · rw [M2s a ha hc2] at e; exact .inl e⟩
  have sta : Stt X.K F1 R Ha M2 := by
    refine ⟨fun a o e => kp _ _ (fun z => by subst z; rw [hP1.2.1] at e; cases e) (st1.fz a o e), fun a o e => ?_, fun a m e => ?_, st1.nf, st1.nr⟩
    · obtain ⟨g1, g2, g3⟩ := st1.rs a o e
      have af : a ≠ f := fun z => by subst z; exact g1.there nf
      by_cases haP : a = P
      · subst haP
        rw [mP] at e
        cases e
        refine ⟨⟨q, rfl, Ta⟩, g2, ?_⟩
        have ac : a ≠ c' := fun z => by
          obtain ⟨ps', z1, _⟩ := Ta
          rw [z, hc] at z1
          exact codeO_ne ps' (Option.some.inj z1)
        rw [M2s a af ac]; exact g3
      · have ga : RsOk Ha a o := by
          refine g1.step (x := P) (fun b u n eb => kp b u n eb) haP fun q' z => ?_
          obtain ⟨⟨q2, _, ps', z1, _⟩, _⟩ := hP1
          rw [z] at z1
          exact codeO_ne ps' (Option.some.inj z1)
        have ac : a ≠ c' := fun z => by
          subst z
          have nx := st1.nr a o e
          cases o with
          | xd fs =>
            obtain ⟨q2, _, ps', z1, _⟩ := ga
            rw [hc] at z1
            exact codeO_ne ps' (Option.some.inj z1)
          | ext φ => exact nx
          | _ =>
            have ga : Ha a = some _ := ga
            rw [hc] at ga
            unfold CodeO at ga
            cases ga
        exact ⟨ga, g2, by rw [M2s a af ac]; exact g3⟩
    · by_cases haf : a = f
      · subst haf
        rw [M2f] at e
        cases e
        exact ⟨fF, _, hf, (show RepO X.K F1 (PinO _ _) (.raw (PinO _ _)) from rfl)⟩
      by_cases hac : a = c'
      · subst hac
        rw [M2c] at e
        cases e
        refine ⟨?_, _, hc, (show RepO X.K F1 (CodeO _ _) (.raw (CodeO _ _)) from rfl)⟩
        cases ef : F1 a with
        | none => rfl
        | some o => exact (cF o ef).elim
      · rw [M2s a haf hac] at e
        obtain ⟨g1, o, g2, g3⟩ := st1.ow a m e
        exact ⟨g1, o, kp _ _ (fun z => by subst z; rw [hP1.2.2] at e; cases e) g2, g3⟩
  refine Calls.spliced_cons (thn (h3.run pins sa σ Ha (fun v H3 => ∃ F3 d3, Ext F1 F3 ∧ Stt X.K F3 R H3 M2 ∧ Rep X.K F3 v d3 ∧ ∀ d Mf, MoreRaw M2 Mf → HasFn (ctOf X F0) (kb + 1) Mf d (spL tb ps.length ws) → sp [d1, d, d3] Mf (fun r M4 => M4 = Mf ∧ Q' r M1) E0D) Ia
    ⟨F1, R, τ, M2, _, e0.trans ex1, sta, sl.ext ex1, h2 M2 more1, fun v H2 F2 d M3 e2 st2 r2 ⟨q1, q2⟩ => by subst q1; exact ⟨F2, d, e2, st2, r2, q2⟩⟩) fun u3 s3 ⟨v3, H3, I3, rl3, F3, d3, ex3, st3, rp3, hsp⟩ => ?_)
  refine Calls.spliced_nil ⟨I3.kIn, ?_⟩
  -- the captured cells
  obtain ⟨wv, hwv, rw_⟩ := caps_get (sl.ext (ex1.trans ex3)) hws
  have cp : Caps X (cloFrom X.env.cells scope.names []) fr js := Caps.made I3.ok nfr (ndef_fr hsc) hjs
  have CA := cells_of I3 cp
  rw [hwv] at CA
  let cl := cloFrom X.env.cells scope.names []
  let cs : List Addr := cl.map (·.2)
  let ob : Addr → Obj := fun b => (s3.heap.get? b).getD default
  have clm : ∀ y b, (y, b) ∈ cl → X.env.cells.lookup y = some b := fun y b hm => by
    rcases cloFrom_mem hm with z | ⟨z1, z2⟩
    · cases z
    · obtain ⟨c1, hc1⟩ := hfree _ z1 rfl
      have hc1 : X.env.cells.lookup y = some c1 := hc1
      rw [z2, hc1]; rfl
  have csm : ∀ b ∈ cs, ∃ y, X.env.cells.lookup y = some b := fun b hb => by
    obtain ⟨⟨y, b'⟩, hm, rfl⟩ := List.mem_map.mp hb
    exact ⟨y, clm y b' hm⟩
  have cn3 : ∀ b ∈ cs, H3 b = none := fun b hb => by
    obtain ⟨y, hy⟩ := csm b hb
    exact I3.freeC y b hy
  have cob : ∀ b ∈ cs, s3.heap.get? b = some (ob b) ∧ ∃ v, (ob b).data = .cell v := fun b hb => by
    obtain ⟨y, hy⟩ := csm b hb
    obtain ⟨v, o, ho, hd⟩ := I3.cell y b hy
    have : ob b = o := by show (s3.heap.get? b).getD default = o; rw [ho]; rfl
    rw [this]
    exact ⟨ho, v, hd⟩
  have cab : ∀ b ∈ cs, X.s_0.heap.objs.size ≤ b := fun b hb => by
    obtain ⟨y, hy⟩ := csm b hb
    exact I3.ok.cab y b (hfn y) hy
  have cfr : ∀ b ∈ cs, b ∉ frs X.stack := fun b hb z => by
    obtain ⟨y, hy⟩ := csm b hb
    rcases List.mem_cons.mp (I3.stkSub b z) with e | e
    · exact I3.cne y b hy e
    · obtain ⟨_, o, ho, _⟩ := I3.ok.funs.mem e
      exact absurd (Nat.lt_of_lt_of_le (Heap.lt_size ho) (cab b hb)) (Nat.lt_irrefl _)
  let H' : Hp := fun b => if b ∈ cs then some (PinO b (ob b)) else H3 b
  let Mf : Mp := fun b => if b ∈ cs then some (.raw (PinO b (ob b))) else M2 b
  have H'n : ∀ b, b ∈ cs → H' b = some (PinO b (ob b)) := fun b h => if_pos h
  have H's : ∀ b, b ∉ cs → H' b = H3 b := fun b h => if_neg h
  have Mfn : ∀ b, b ∈ cs → Mf b = some (.raw (PinO b (ob b))) := fun b h => if_pos h
  have Mfs : ∀ b, b ∉ cs → Mf b = M2 b := fun b h => if_neg h
  have inH : ∀ b u, H3 b = some u → b ∉ cs ∧ H' b = some u := fun b u e => by
    have : b ∉ cs := fun z => by rw [cn3 b z] at e; cases e
    exact ⟨this, by rw [H's b this]; exact e⟩
  have M2n : ∀ b, b ∈ cs → M2 b = none := fun b hb => by
    cases e : M2 b with
    | none => rfl
    | some m => obtain ⟨_, o, ho, _⟩ := st3.ow _ _ e; rw [cn3 b hb] at ho; cases ho
  have F3n : ∀ b, b ∈ cs → F3 b = none := fun b hb => by
    cases e : F3 b with
    | none => rfl
    | some o => have := st3.fz _ _ e; rw [cn3 b hb] at this; cases this
  have more2 : MoreRaw M2 Mf := ⟨fun a m e => by
    have : a ∉ cs := fun z => by rw [M2n a z] at e; cases e
    rw [Mfs a this]; exact e, fun a m e => by
    by_cases ha : a ∈ cs
    · rw [Mfn a ha] at e; cases e; exact .inr ⟨_, rfl⟩
    · rw [Mfs a ha] at e; exact .inl e⟩
  have env3 := I3.env0
  have hok' : HOk X.prog X.w H' s3.heap := fun b u e => by
    by_cases hb : b ∈ cs
    · rw [H'n b hb] at e; cases e; exact pinO_ok (cob b hb).1
    · rw [H's b hb] at e
      exact (I3.hok b u e).stay (fun c v _ z => z) (fun c z => (inH c _ z).2) fun c xs z => (inH c _ z).2
  have env' : Env0 X.prog X.w X.K X.mg X.base X.A X.stack s3 H' := ⟨env3.frames, env3.mod, fun b o e => ⟨(env3.bs b o e).1, by
    have : b ∉ cs := fun z => absurd (Nat.lt_of_lt_of_le (Heap.lt_size e) (Nat.le_trans I3.ok.bsz (cab b z))) (Nat.lt_irrefl _)
    rw [H's b this]; exact (env3.bs b o e).2⟩, env3.bsz, env3.funs, fun b hb => by
    have : b ∉ cs := fun z => cfr b z hb
    rw [H's b this]; exact env3.frf b hb, hok', env3.bare⟩
  have st' : Stt X.K F3 R H' Mf := by
    refine ⟨fun a o e => (inH _ _ (st3.fz a o e)).2, fun a o e => ?_, fun a m e => ?_, st3.nf, st3.nr⟩
    · obtain ⟨g1, g2, g3⟩ := st3.rs a o e
      have ha : a ∉ cs := fun z => g1.there (cn3 a z)
      exact ⟨g1.imp (fun u eu => (inH _ _ eu).2) fun c q ec => (inH _ _ ec).2, g2, by rw [Mfs a ha]; exact g3⟩
    · by_cases ha : a ∈ cs
      · rw [Mfn a ha] at e
        cases e
        exact ⟨F3n a ha, _, H'n a ha, (show RepO X.K F3 (PinO _ _) (.raw (PinO _ _)) from rfl)⟩
      · rw [Mfs a ha] at e
        obtain ⟨g1, o, g2, g3⟩ := st3.ow a m e
        exact ⟨g1, o, (inH _ _ g2).2, g3⟩
  have Mff : Mf f = some (.raw (PinO f (PySem.W.kla_obj "<lambda>" q params body scope cl pm c' ctv))) := more2.1 _ _ M2f
  have Mfc : Mf c' = some (.raw (CodeO c' q)) := more2.1 _ _ M2c
  have has : HasFn (ctOf X F0) (kb + 1) Mf (.fn f F3) (spL tb ps.length ws) := by
    refine ⟨(f, PinO f (PySem.W.kla_obj "<lambda>" q params body scope cl pm c' ctv)) :: (c', CodeO c' q) :: cs.map fun c => (c, PinO c (ob c)), ⟨_, _, _, _, .inl List.mem_cons_self⟩, fun p hp => ?_, ?_⟩
    · rcases List.mem_cons.mp hp with rfl | hp
      · exact Mff
      rcases List.mem_cons.mp hp with rfl | hp
      · exact Mfc
      · obtain ⟨b, hb, rfl⟩ := List.mem_map.mp hp
        exact Mfn b hb
    · refine lam_sem (C := ctOf X F0) (wv := wv) S hN (fun us hl => hbind _ _ _ _ us hl) (fun A outer s H F0' R0' hr => hbody f c' cl A outer s H F0' R0' hr) (fun y b e => List.mem_map.mpr ⟨(y, b), PySem.mem_of_lookup e, rfl⟩) (fun b hb => (cob b hb).2) CA.inj (fun i y e => ?_) ?_ rw_
      · obtain ⟨b, hb1, hb2⟩ := CA.has i y e
        refine ⟨b, hb1, fun v ev => ?_⟩
        obtain ⟨u, ru, o, ho, hd⟩ := hb2 v (by rw [List.getElem?_map, ev]; rfl)
        refine ⟨u, ru, ?_⟩
        have : ob b = o := by show (s3.heap.get? b).getD default = o; rw [ho]; rfl
        rw [this]; exact hd
      · have := CA.len
        rwa [List.length_map] at this
  have hcall := hsp (.fn f F3) Mf more2 has
  have rl : Vals [v1, .ref f, v3] [u1, .ref f, u3] := .cons rl1 (.cons rfl (.cons rl3 .nil))
  have rp : RepAll X.K F3 [v1, .ref f, v3] [d1, .fn f F3, d3] := .cons (rp1.ext ex3) (.cons (.fn Ext.refl) (.cons rp3 .nil))
  have spv : liSp X.K F0.T sp [v1, .ref f, v3] H' (fun v H4 => ∃ F4 r, Ext F3 F4 ∧ Stt X.K F4 R H4 Mf ∧ Rep X.K F4 v r ∧ Q' r M1) E0 :=
    ⟨F3, R, _, Mf, _, _, st', e0.t, rp, hcall, fun v H4 F4 r M4 e4 st4 r4 ⟨z1, z2⟩ => by subst z1; exact ⟨F4, r, e4, st4, r4, z2⟩, fun _ _ _ _ _ _ _ _ _ z => z⟩
  have hl3 : [u1, Value.ref f, u3].length = psg.length := by
    rw [← rl.length]; exact Fg.len _ _ _ _ spv
  have hbind3 := hb s3 [u1, .ref f, u3] I3.kIn (by rw [List.append_nil]; exact hl3)
  rw [List.append_nil] at hbind3
  refine wpAny_call (codeAny_mono (Fg.run X.A X.stack s3 H' ⟨[u1, .ref f, u3], []⟩ _ _ _ _ hr env' hbind3 rl spv) fun r s' hq => ?_)
  cases r with
  | error e => exact False.elim hq
  | ok fl =>
    cases fl with
    | next => exact False.elim hq
    | brk => exact False.elim hq
    | cont => exact False.elim hq
    | ret u =>
      obtain ⟨v, H4, os4, bare4, un, hok4, rv, F4, r, ex4, st4, rp4, q4⟩ := hq
      -- the cells are the frame's own again
      have obk : ∀ b ∈ cs, H4 b = some (PinO b (ob b)) ∧ s'.heap.get? b = some (ob b) := fun b hb => by
        obtain ⟨_, o, ho, ro⟩ := st4.ow _ _ (Mfn b hb)
        have : o = PinO b (ob b) := ro.raw
        subst this
        exact ⟨ho, pinO_at hok4 ho⟩
      let H5 : Hp := fun b => if b ∈ cs then none else H4 b
      have H5n : ∀ b, b ∈ cs → H5 b = none := fun b h => if_pos h
      have H5s : ∀ b, b ∉ cs → H5 b = H4 b := fun b h => if_neg h
      have keepNX : ∀ b u, H4 b = some u → NX u → H5 b = some u := fun b u e n => by
        have : b ∉ cs := fun z => by rw [(obk b z).1] at e; cases e; exact n
        rw [H5s b this]; exact e
      have un5 : Un (frs X.stack) [] H3 H5 s3.heap s'.heap := by
        refine ⟨fun b o e n hf hx => ?_, fun b o e n hf hx => ?_, fun b o e n hx => ?_, fun b o e hx => un.there b o e hx, fun b xs e => keepNX _ _ (un.tups b xs (inH _ _ e).2) trivial, fun b o u e => keepNX _ _ (un.frzs b o u (inH _ _ e).2) trivial, fun b ps e => ?_⟩
        · by_cases hb : b ∈ cs
          · rw [(cob b hb).1] at e; cases e; exact (obk b hb).2
          · exact un.keep b o e (by rw [H's b hb]; exact n) hf hx
        · by_cases hb : b ∈ cs
          · exact absurd hf (cfr b hb)
          · exact un.slot b o e (by rw [H's b hb]; exact n) hf hx
        · by_cases hb : b ∈ cs
          · exact H5n b hb
          · rw [H5s b hb]; exact un.free b o e (by rw [H's b hb]; exact n) hx
        · obtain ⟨more, z⟩ := un.tbls b ps (inH _ _ e).2
          exact ⟨more, keepNX _ _ z trivial⟩
      have hok5 : HOk X.prog X.w H5 s'.heap := fun b u e => by
        by_cases hb : b ∈ cs
        · rw [H5n b hb] at e; cases e
        · rw [H5s b hb] at e
          exact (hok4 b u e).stay (fun c v _ z => z) (fun c z => keepNX _ _ z trivial) fun c xs z => keepNX _ _ z trivial
      have st5 : Stt X.K F4 R H5 M1 := by
        refine ⟨fun a o e => keepNX _ _ (st4.fz a o e) (st4.nf a o e), fun a o e => ?_, fun a m e => ?_, st4.nf, st4.nr⟩
        · obtain ⟨g1, g2, g3⟩ := st4.rs a o e
          have ha : a ∉ cs := fun z => by rw [Mfn a z] at g3; cases g3
          refine ⟨g1.imp (fun u eu => by rw [H5s a ha]; exact eu) (fun b q' eb => ?_), g2, ?_⟩
          · by_cases hb : b ∈ cs
            · obtain ⟨v', hv'⟩ := (cob b hb).2
              exact (cell_code hok4 eb (obk b hb).2 hv').elim
            · rw [H5s b hb]; exact eb
          · cases em : M1 a with
            | none => rfl
            | some m =>
              have := (more1.trans more2).1 a m em
              rw [g3] at this; cases this
        · obtain ⟨g1, o, g2, g3⟩ := st4.ow a m ((more1.trans more2).1 a m e)
          have ha : a ∉ cs := fun z => by
            have := M2n a z
            rw [more1.1 a m e] at this; cases this
          exact ⟨g1, o, by rw [H5s a ha]; exact g2, g3⟩
      exact I3.after ⟨v, H5, os4, bare4, un5, hok5, rv, kq v H5 F4 r M1 (ex1.trans (ex3.trans ex4)) st5 rp4 q4⟩
end
end DL

namespace DL
open PySem PySem.Spec PyProof.Rows L2 LamX NdefX
/-! ### a def whose code object is known -/
structure FunC (K : PySem.W.Frag) (x qual : Str) (st : Stmt) (f : Addr) (fd : FuncData) (c : Addr) : Prop where
  ex : ∃ (oc : Value) (od : Option Addr) (kV doc pm : Value) (an : Option Addr) (ct : Value) (osl : Array (Option Value)),
    fd = PySem.W.fnOf x qual (defArgs st) (defBody st) (defScope st) .none kV doc pm an (.ref c) ct ∧ K.lookup f = some ⟨oc, od, .func fd, osl⟩ ∧ PySem.W.codeIn K (.ref c) qual = true
  kp : PySem.W.keepIn K (.ref f) = true
section
variable {P : Program} {w : World} {K : PySem.W.Frag} {mg : Str → Option Value} {base : Heap}
theorem FunC.to {x qual : Str} {st : Stmt} {f c : Addr} {fd : FuncData} (F : FunC K x qual st f fd c) : Fun K x qual st f fd := by
  obtain ⟨oc, od, kV, doc, pm, an, ct, osl, h1, h2, h3⟩ := F.ex
  exact ⟨⟨oc, od, kV, doc, pm, an, .ref c, ct, osl, h1, h2, h3⟩, F.kp⟩
theorem funC_mk {x qual : Str} {st : Stmt} {f c : Addr} {oc : Value} {od an : Option Addr} {osl : Array (Option Value)} {kV doc pm ct : Value} (l : K.lookup f = some ⟨oc, od, .func (PySem.W.fnOf x qual (defArgs st) (defBody st) (defScope st) .none kV doc pm an (.ref c) ct), osl⟩)
    (cc : PySem.W.codeIn K (.ref c) qual = true) (k : PySem.W.keepIn K (.ref f) = true) : FunC K x qual st f (PySem.W.fnOf x qual (defArgs st) (defBody st) (defScope st) .none kV doc pm an (.ref c) ct) c := ⟨⟨oc, od, kV, doc, pm, an, ct, osl, rfl, l, cc⟩, k⟩
theorem FunC.okD {x qual : Str} {st : Stmt} {f c : Addr} {fd : FuncData} {N ps : List Str} {k : Nat} {sp : SpD} {T : List (Addr × Str)} (F : FunC K x qual st f fd c) (S : FnScope N ps (defScope st)) (len : ∀ ds M Q E, sp ds M Q E → ds.length = ps.length) {t : DS}
    (hbody : ∀ (A : Around) (outer : List Env) (s : Shared) (H : Hp) (E : XK) (F0 R0 : Hp), Room k (A.deeper (envOfC qual (defScope st) s.heap.objs.size f (.ref c))) →
      PSs (cxOf CX0 P w K mg base N qual (defScope st) f (.ref c) A outer s H E).nox (defBody st) (liS K ⟨F0, R0, T⟩ t))
    (hq : Rds t N sp) : FnOk P w K mg base CX0 (k + 1) f fd ps (liSp K T sp) := by
  obtain ⟨oc, od, kV, doc, pm, an, ct, osl, rfl, lk, hcd⟩ := F.ex
  refine fn_of lk hcd S (fun vs H Q E ⟨F, R, ds, M, Q', E', st, _, ra, h, _, _⟩ => by rw [ra.len]; exact len _ _ _ _ h) fun A outer s H vs Q E hr ⟨F, R, ds, M, Q', E', st, tr, ra, h, kQ, kE⟩ => ?_
  refine ⟨_, (hbody A outer s H E F R hr).nox, F, R, startD N ds, M, _, ⟨Ext.refl, Ext.refl, tr⟩, st, slots_start ra, hq ds M Q' E' h, ?_⟩
  refine ⟨fun σ2 H2 F2 τ2 M2 e2 st2 sl2 ⟨M3, h3, q3⟩ => kQ _ _ _ _ _ e2 (st2.less h3) .non q3, fun v H2 F2 d M2 e2 st2 r2 ⟨M3, h3, q3⟩ => kQ _ _ _ _ _ e2 (st2.less h3) r2 q3, fun _ _ _ _ _ _ _ _ z => z, fun _ _ _ _ _ _ _ _ z => z⟩
end
/-! ### what is never reached -/
def dNever : DS := fun _ _ _ => False
theorem sd_never {X : Cx} {F0 : Bs} {st : Stmt} : PS X st (liS X.K F0 dNever) := ⟨fun pins s σ H D I ⟨_, _, _, _, _, _, _, _, q, _⟩ => q.elim⟩
/-! ### max(xs, default=d) -/
theorem foldl_max : ∀ (ns : List Int) (n : Int), ns.foldl max n ∈ n :: ns ∧ ∀ y ∈ n :: ns, y ≤ ns.foldl max n
  | [], n => ⟨List.mem_cons_self, fun y hy => by rw [List.mem_singleton.mp hy]; exact Int.le_refl _⟩
  | m :: ns, n => by
    obtain ⟨h1, h2⟩ := foldl_max ns (max n m)
    show ns.foldl max (max n m) ∈ _ ∧ ∀ y ∈ _, y ≤ ns.foldl max (max n m)
    have hm : max n m ≤ ns.foldl max (max n m) := h2 _ List.mem_cons_self
    refine ⟨?_, fun y hy => ?_⟩
    · rcases List.mem_cons.mp h1 with z | z
      · rw [z]
        by_cases h : n ≤ m
        · rw [Int.max_eq_right h]; exact List.mem_cons_of_mem _ List.mem_cons_self
        · rw [Int.max_eq_left (by omega)]; exact List.mem_cons_self
      · exact List.mem_cons_of_mem _ (List.mem_cons_of_mem _ z)
    · rcases List.mem_cons.mp hy with rfl | hy
      · omega
      rcases List.mem_cons.mp hy with rfl | hy
      · omega
      · exact h2 y (List.mem_cons_of_mem _ hy)
def rMaxDf (K : PySem.W.Frag) : List V → List V → Hp → VK → Prop := fun vs zs H Q => ∃ (a : Addr) (ns : List Int) (d : V), vs = [V.ref a] ∧ zs = [d] ∧ SqL K H a (ns.map V.int) ∧ (ns = [] → Q d H) ∧ ∀ m, m ∈ ns → (∀ y, y ∈ ns → y ≤ m) → Q (.int m) H
theorem reads_ints {h : Heap} : ∀ {its : List Value} {ns : List Int}, Vals (ns.map V.int) its → ∃ as, ReadsAll h its (ns.map PyData.int) as
  | _, [], .nil => ⟨[], .nil⟩
  | _, n :: ns, .cons r t => by
    obtain ⟨tk, rfl⟩ := r
    obtain ⟨as, h2⟩ := reads_ints (ns := ns) t
    exact ⟨[] ++ as, .cons (.int n tk) h2⟩
theorem depth_ints : ∀ ns : List Int, PyData.depthAll (ns.map PyData.int) ≤ 1
  | [] => by simp [PyData.depthAll]
  | n :: ns => by
    have := depth_ints ns
    simp [PyData.depthAll, PyData.depth]; omega
section
variable {X : Cx}
theorem cr_maxDf (hc : X.calm = true) (hu : X.A.units + 64 < cLine) : CallRK X (.builtin "max") [Str.ofString "default"] (rMaxDf X.K) := by
  intro pins s σ H vs zs us ws Q I r rz h
  obtain ⟨a, ns, d, rfl, rfl, hs, q0, q⟩ := h
  obtain rfl := Vals.ref1 r
  obtain ⟨w1, rfl, e1⟩ := vals1 rz
  obtain ⟨its, rv, hl, _⟩ := I.list hs
  obtain ⟨as, ra⟩ := reads_ints (h := s.heap) rv
  have ha : PySem.W.AlikeAll (ns.map PyData.int) := ⟨fun x hx y hy => by
    obtain ⟨i, _, rfl⟩ := List.mem_map.mp hx
    obtain ⟨j, _, rfl⟩ := List.mem_map.mp hy
    rfl, fun x hx z => by
    obtain ⟨i, _, rfl⟩ := List.mem_map.mp hx
    cases z⟩
  refine PySem.W.max_list_default (as := as) (I.ok.hd hc) hl.isList (by simpa using ra) ha (by have := depth_ints ns; omega) (fun e h' tk hk => ?_) fun y ys i v h' tk bs e hv hr hk => ?_
  · have : ns = [] := by cases ns <;> first | rfl | cases e
    exact ⟨d, H, I.kept hk, e1, q0 this⟩
  · cases ns with
    | nil => cases e
    | cons n ns =>
      cases e
      rw [PySem.W.maxD_ints] at hr
      cases hr
      obtain ⟨h1, h2⟩ := foldl_max ns n
      exact ⟨.int _, H, I.kept hk, ⟨_, rfl⟩, q _ h1 h2⟩
variable {F0 : Bs} {p pos kpos : Pos} {e d : Expr} {te td : DE}
def dMaxDf (te td : DE) : DE := fun τ M Q => te τ M fun x M1 => td τ M1 fun y M2 => match lsOf M2 x with
  | some xs => match intsOf xs with
    | some ns => (ns = [] → Q y M2) ∧ ∀ m, m ∈ ns → (∀ z, z ∈ ns → z ≤ m) → Q (.int m) M2
    | none => False
  | none => False
theorem pd_maxDf (hc : X.calm = true) (hu : X.A.units + 64 < cLine) (hg : Gl X "max") (hm : X.mg "max" = none) (hv : bootBuiltins "max" = some (.builtin "max")) (ha : PE X e (liE X.K F0 te)) (hd : PE X d (liE X.K F0 td))
    (hs : starEach [e] X.env = [(false, eval e X.env)] := by rfl) :
    PE X (.Call (.Name "max" p) [e] [⟨some "default", d, kpos⟩] pos) (liE X.K F0 (dMaxDf te td)) := by
  refine peImp (pe_callBK (cr_maxDf hc hu) hg hm hv (pa_cons ha pa_nil hs) (pk_cons hd pk_nil) (by decide) (by decide) (by rw [hs]; rfl) (by rw [hs]; rfl) rfl rfl rfl) fun σ H Q ⟨F, R, τ, M, Q', e0, st, sl, q, k⟩ => ?_
  refine ⟨F, R, τ, M, _, e0, st, sl, q, fun v H1 F1 x M1 e1 st1 r1 q1 => ?_⟩
  refine ⟨F1, R, τ, M1, _, e0.trans e1, st1, sl.ext e1, q1, fun v2 H2 F2 y M2 e2 st2 r2 q2 => ?_⟩
  split at q2 <;> try exact q2.elim
  rename_i xs hx
  split at q2 <;> try exact q2.elim
  rename_i ns hn
  obtain ⟨a, vs, rfl, g1, ra⟩ := ls_get st2 (r1.ext e2) hx
  obtain rfl := ints_eq hn
  obtain rfl := ra.ints
  exact ⟨a, ns, v2, rfl, rfl, g1, fun z => k _ _ _ _ _ (e1.trans e2) st2 r2 (q2.1 z), fun m h1 h2 => k _ _ _ _ _ (e1.trans e2) st2 (.int m) (q2.2 m h1 h2)⟩
end
def kMaxDf2 (x : D) (Q : QD) : QD := fun y M2 => match lsOf M2 x with
  | some xs => match intsOf xs with
    | some ns => (ns = [] → Q y M2) ∧ ∀ m, m ∈ ns → (∀ z, z ∈ ns → z ≤ m) → Q (.int m) M2
    | none => False
  | none => False
def kMaxDf1 (td : DE) (τ : SD) (Q : QD) : QD := fun x M1 => td τ M1 (kMaxDf2 x Q)
theorem s_maxDf {te td : DE} {τ : SD} {M : Mp} {Q : QD} (h : te τ M (kMaxDf1 td τ Q)) : dMaxDf te td τ M Q := h
theorem s_kmaxDf1 {td : DE} {τ : SD} {M : Mp} {Q : QD} {x : D} (h : td τ M (kMaxDf2 x Q)) : kMaxDf1 td τ Q x M := h
theorem s_kmaxDf2 {M : Mp} {Q : QD} {x y : D} {ds : List D} {ns : List Int} (e : lsOf M x = some ds) (e2 : intsOf ds = some ns) (h0 : ns = [] → Q y M) (h : ∀ m, m ∈ ns → (∀ z, z ∈ ns → z ≤ m) → Q (.int m) M) : kMaxDf2 x Q y M := by
  unfold kMaxDf2
  simp only [e, e2]
  exact ⟨h0, h⟩
/-! steps -/
section
variable {τ : SD} {M : Mp} {Q : QD} {C : Ct} {k i : Nat} {t : DA} {d : D} {sp : SpD}
def kCallV (C : Ct) (k : Nat) (d : D) (sp : SpD) (Q : QD) : List D → Mp → Prop := fun ds M1 => HasFn C k M1 d sp ∧ sp ds M1 Q E0D
theorem s_callV (sp : SpD) (e : τ[i]? = some (some d)) (h : HasFn C k M d sp) (q : t τ M (kCallV C k d sp Q)) : dCallV C k i t τ M Q := ⟨d, sp, e, h, q⟩
theorem s_kcallV {ds : List D} (h : HasFn C k M d sp) (q : sp ds M Q E0D) : kCallV C k d sp Q ds M := ⟨h, q⟩
variable {js : List Nat} {n : Nat} {tb t1 t3 : DE}
def kCallL (C : Ct) (k : Nat) (js : List Nat) (n : Nat) (tb : DE) (sp : SpD) (t3 : DE) (τ : SD) (Q : QD) : QD := fun d1 M1 => ∃ ws : List D, js.map (fun j => τ[j]?) = ws.map (fun d => some (some d)) ∧
  ∀ M2, MoreRaw M1 M2 → t3 τ M2 fun d3 M3 => M3 = M2 ∧ ∀ d Mf, MoreRaw M2 Mf → HasFn C k Mf d (spL tb n ws) → sp [d1, d, d3] Mf (fun r M4 => M4 = Mf ∧ Q r M1) E0D
theorem s_callL (h : t1 τ M (kCallL C k js n tb sp t3 τ Q)) : dCallL C k js n tb sp t1 t3 τ M Q := h
def kCallL3 (C : Ct) (k n : Nat) (tb : DE) (sp : SpD) (ws : List D) (d1 : D) (M1 M2 : Mp) (Q : QD) : QD := fun d3 M3 => M3 = M2 ∧ ∀ d Mf, MoreRaw M2 Mf → HasFn C k Mf d (spL tb n ws) → sp [d1, d, d3] Mf (fun r M4 => M4 = Mf ∧ Q r M1) E0D
theorem s_kcallL (ws : List D) (e : js.map (fun j => τ[j]?) = ws.map (fun d => some (some d))) (h : ∀ M2, MoreRaw M M2 → t3 τ M2 (kCallL3 C k n tb sp ws d M M2 Q)) : kCallL C k js n tb sp t3 τ Q d M := ⟨ws, e, h⟩
theorem s_kcallL3 {ws : List D} {d1 d3 : D} {M1 : Mp} (h : ∀ d Mf, MoreRaw M Mf → HasFn C k Mf d (spL tb n ws) → sp [d1, d, d3] Mf (fun r M4 => M4 = Mf ∧ Q r M1) E0D) : kCallL3 C k n tb sp ws d1 M1 M Q d3 M := ⟨rfl, h⟩
end
/-- over data that nobody changes, each item gives one that is related to it, and M stays -/
theorem s_klcRel {α β : Type} {plain : Bool} {is vs : List Nat} {fin : List D → Mp → QD → Prop} {te : DE} {τ : SD} {M : Mp} {Q : QD} {x : D} {xs : List α} (enc : α → D) (enc' : β → D) (Rl : α → β → Prop) (hx : ∀ M, sqOf M x = some (xs.map enc)) (hl : xs.length ≤ sizeLine)
    (hs : ∀ a ∈ xs, ∃ τ2, bindD plain is (enc a) (wipeD τ vs) = some τ2 ∧ ∀ Q : QD, (∀ b, Rl a b → Q (enc' b) M) → te τ2 M Q)
    (hd : ∀ l : List β, l.length = xs.length → (∀ (i : Nat) (a : α) (b : β), xs[i]? = some a → l[i]? = some b → Rl a b) → fin (l.map enc') M Q) : kLc fin plain is vs dYes te τ Q (itSeq x (xs.map enc)) M := by
  refine ⟨fun i acc M' => M' = M ∧ ∃ l : List β, acc = l.map enc' ∧ l.length = i ∧ ∀ (j : Nat) (a : α) (b : β), xs[j]? = some a → l[j]? = some b → Rl a b, ⟨rfl, [], rfl, rfl, fun j a b _ e => by simp at e⟩, fun i acc M' hi p => hx M', fun i acc M' hi p => ?_, fun acc M' p => ?_⟩
  · obtain ⟨rfl, l, rfl, hll, hr⟩ := p
    have hi : i < (xs.map enc).length := hi
    rw [List.length_map] at hi
    have e := List.getElem?_eq_getElem hi
    obtain ⟨τ2, e2, h2⟩ := hs _ (List.getElem_mem hi)
    have e3 : (itSeq x (xs.map enc)).at' i = enc xs[i] := by
      show (xs.map enc).getD i .non = _
      refine getD_of ?_
      rw [List.getElem?_map, e]; rfl
    rw [e3, e2]
    show te τ2 M' _
    refine h2 _ fun b hb => ⟨?_, rfl, l ++ [b], ?_, ?_, ?_⟩
    · rw [List.length_map]; omega
    · rw [List.map_append]; rfl
    · rw [List.length_append, hll]; rfl
    · intro j a c ea ec
      by_cases hj : j < i
      · rw [List.getElem?_append_left (by omega)] at ec
        exact hr j a c ea ec
      · rw [List.getElem?_append_right (by omega)] at ec
        have hj2 : j = i := by
          by_cases z : j - l.length = 0
          · omega
          · rw [show j - l.length = (j - l.length - 1) + 1 by omega] at ec
            simp at ec
        subst hj2
        rw [e] at ea
        rw [show j - l.length = 0 by omega] at ec
        cases ea
        simp at ec
        subst ec
        exact hb
  · obtain ⟨rfl, l, rfl, hll, hr⟩ := p
    refine hd l ?_ hr
    rw [hll]
    show (xs.map enc).length = _
    rw [List.length_map]
end DL

namespace DL
open PySem PySem.Spec PyProof.Rows L2 LamX NdefX
/-! ### a def of the module as a value -/
def dGFn (C : Ct) (k : Nat) (sp : SpD) : DE := fun _ M Q => ∀ d, (∀ M, HasFn C k M d sp) → Q d M
section
variable {X : Cx} {F0 : Bs}
theorem fun_lookup {K : PySem.W.Frag} {x qual : Str} {st : Stmt} {f : Addr} {fd : FuncData} (F : Fun K x qual st f fd) : ∃ oc od sl, K.lookup f = some ⟨oc, od, .func fd, sl⟩ := by
  obtain ⟨oc, od, kV, doc, pm, an, cdv, ct, osl, rfl, lk, hcd⟩ := F.ex
  exact ⟨oc, od, osl, lk⟩
theorem pd_gfn {k : Nat} {f : Addr} {fd : FuncData} {ps : List Str} {sp : SpD} {x : Str} {pos : Pos} {st : Stmt} {qx : Str} (F : FnOk X.prog X.w X.K X.mg X.base CX0 k f fd ps (liSp X.K F0.T sp)) (hl : ∀ ds M Q E, sp ds M Q E → ds.length = ps.length) (hF : Fun X.K x qx st f fd) (hg : Gl X x) (hm : X.mg x = some (.ref f)) (hb : Binds X.K fd ps [])
    (hdb : (x == ("__debug__" : Str)) = false := by decide) : PE X (.Name x pos) (liE X.K F0 (dGFn (ctOf X F0) k sp)) := by
  refine ⟨fun pins s σ H Q I ⟨F1, R, τ, M, Q', e0, st, sl, q, kq⟩ => ?_⟩
  refine ld_glob I hg hm ?_ hdb
  refine ⟨.ref f, H, I, rfl, kq _ _ F1 (.fn f fun _ => none) M Ext.refl st (.fn fun a o e => by cases e) (q _ fun M2 => ?_)⟩
  obtain ⟨oc, od, osl, lk⟩ := fun_lookup hF
  refine ⟨[], ⟨oc, od, fd, osl, .inr lk⟩, fun p hp => (nomatch hp), ?_⟩
  intro A outer s2 H2 F2 R2 M3 ds us vs Q2' Q2 hr en st2 tr eG hd ra r hsp kq2
  have hl2 : us.length = ps.length := by rw [← r.length, ra.len]; exact hl _ _ _ _ hsp
  have KX : X.K.In s2.heap := en.mod.kin.keeps fun b o e => (en.bs b o e).1
  have hb2 := hb s2 us KX (by rw [List.append_nil]; exact hl2)
  rw [List.append_nil] at hb2
  exact codeAny_mono (F.run A outer s2 H2 ⟨us, []⟩ us vs Q2 (fun _ _ _ => False) hr en hb2 r ⟨F2, R2, ds, M3, Q2', E0D, st2, tr, ra, hsp, kq2, fun _ _ _ _ _ _ _ _ _ z => z⟩) fun r s' h => h
end
theorem s_gfn {C : Ct} {k : Nat} {sp : SpD} {τ : SD} {M : Mp} {Q : QD} (h : ∀ d, (∀ M, HasFn C k M d sp) → Q d M) : dGFn C k sp τ M Q := h
theorem HasFn.lvl {C : Ct} {j k : Nat} {M : Mp} {d : D} {sp : SpD} (h : HasFn C j M d sp) (e : j ≤ k) : HasFn C k M d sp := by
  cases d with
  | fn f G =>
    obtain ⟨deps, h1, h2, h3⟩ := h
    exact ⟨deps, h1, h2, fun A outer s H F R M ds us vs Q' Q a => h3 A outer s H F R M ds us vs Q' Q (a.mono e)⟩
  | _ => exact h
/-! ### a loop over a list that stays -/
section
variable {nx bk ct : SD → Mp → Prop} {rt : QD} {τ : SD} {M : Mp}
theorem s_kforI {tb : DS} {is : List Nat} {plain : Bool} {ds : List D} {x : D} (Pv : Nat → SD → Mp → Prop) (hx : ∀ i τ M, i ≤ ds.length → Pv i τ M → sqOf M x = some ds) (h0 : Pv 0 τ M)
    (hs : ∀ i d τ M, ds[i]? = some d → Pv i τ M → gD plain is d τ M fun τ2 M2 => tb ⟨Pv (i + 1), rt, nx, Pv (i + 1)⟩ τ2 M2) (hd : ∀ τ M, Pv ds.length τ M → nx τ M) : kFor (gD plain is) tb ⟨nx, rt, bk, ct⟩ τ (itSeq x ds) M :=
  ⟨Pv, h0, fun i τ M hi p => hx i τ M hi p, fun i τ M hi p => by
    have hi : i < ds.length := hi
    have e := List.getElem?_eq_getElem hi
    show gD plain is (ds.getD i .non) τ M _
    rw [getD_of e]
    exact hs i _ τ M e p, hd⟩
end
end DL

namespace DL
open PySem PySem.Spec PyProof.Rows L2 LamX NdefX
/-! ### an expression that is never reached -/
def dNeverE : DE := fun _ _ _ => False
theorem pd_never {X : Cx} {F0 : Bs} {e : Expr} : PE X e (liE X.K F0 dNeverE) := ⟨fun pins s σ H Q I ⟨_, _, _, _, _, _, _, _, q, _⟩ => q.elim⟩
/-- over data that nobody changes, each item gives one that is related to it, and M stays -/
theorem s_klcRelM {α β : Type} {plain : Bool} {is vs : List Nat} {fin : List D → Mp → QD → Prop} {te : DE} {τ : SD} {M : Mp} {Q : QD} {x : D} {xs : List α} (enc : α → D) (enc' : β → D) (Rl : α → β → Prop) (hx : sqOf M x = some (xs.map enc)) (hl : xs.length ≤ sizeLine)
    (hs : ∀ a ∈ xs, ∃ τ2, bindD plain is (enc a) (wipeD τ vs) = some τ2 ∧ ∀ Q : QD, (∀ b, Rl a b → Q (enc' b) M) → te τ2 M Q)
    (hd : ∀ l : List β, l.length = xs.length → (∀ (i : Nat) (a : α) (b : β), xs[i]? = some a → l[i]? = some b → Rl a b) → fin (l.map enc') M Q) : kLc fin plain is vs dYes te τ Q (itSeq x (xs.map enc)) M := by
  refine ⟨fun i acc M' => M' = M ∧ ∃ l : List β, acc = l.map enc' ∧ l.length = i ∧ ∀ (j : Nat) (a : α) (b : β), xs[j]? = some a → l[j]? = some b → Rl a b, ⟨rfl, [], rfl, rfl, fun j a b _ e => by simp at e⟩, fun i acc M' hi p => by rw [p.1]; exact hx, fun i acc M' hi p => ?_, fun acc M' p => ?_⟩
  · obtain ⟨rfl, l, rfl, hll, hr⟩ := p
    have hi : i < (xs.map enc).length := hi
    rw [List.length_map] at hi
    have e := List.getElem?_eq_getElem hi
    obtain ⟨τ2, e2, h2⟩ := hs _ (List.getElem_mem hi)
    have e3 : (itSeq x (xs.map enc)).at' i = enc xs[i] := by
      show (xs.map enc).getD i .non = _
      refine getD_of ?_
      rw [List.getElem?_map, e]; rfl
    rw [e3, e2]
    show te τ2 M' _
    refine h2 _ fun b hb => ⟨?_, rfl, l ++ [b], ?_, ?_, ?_⟩
    · rw [List.length_map]; omega
    · rw [List.map_append]; rfl
    · rw [List.length_append, hll]; rfl
    · intro j a c ea ec
      by_cases hj : j < i
      · rw [List.getElem?_append_left (by omega)] at ec
        exact hr j a c ea ec
      · rw [List.getElem?_append_right (by omega)] at ec
        have hj2 : j = i := by
          by_cases z : j - l.length = 0
          · omega
          · rw [show j - l.length = (j - l.length - 1) + 1 by omega] at ec
            simp at ec
        subst hj2
        rw [e] at ea
        rw [show j - l.length = 0 by omega] at ec
        cases ea
        simp at ec
        subst ec
        exact hb
  · obtain ⟨rfl, l, rfl, hll, hr⟩ := p
    refine hd l ?_ hr
    rw [hll]
    show (xs.map enc).length = _
    rw [List.length_map]
end DL

namespace DL
open PySem PySem.Spec PyProof.Rows L2 LamX NdefX
/-! ### for x in reversed(a tuple) -/
def itRev (ds : List D) : ItD := ⟨ds.length, fun i => ds.getD (ds.length - 1 - i) .non, fun _ => True⟩
def iRevD (te : DE) : DTI := fun τ M Q => te τ M fun d M1 => match d with
  | .tup ds => Q (itRev ds) M1
  | _ => False
theorem rel_rev {K : PySem.W.Frag} {F : Hp} {a : Addr} {xs : List V} {ds : List D} (hs : SqT K F a xs) (ra : RepAll K F xs ds) : ItRel K F (RT.ItvT K a xs.length) (itRev ds) where
  go := fun i F2 R H M e st _ hi => by
    have hi : i < ds.length := hi
    have hl := ra.len
    exact ⟨by omega, xs, xs[xs.length - 1 - i]'(by omega), sqTMono st.fz (sqTMono e hs), List.getElem?_eq_getElem _⟩
  yld := fun i F2 R H M x H' e st _ hi y => by
    obtain ⟨rfl, y⟩ := y
    have hi : i < ds.length := hi
    have hl := ra.len
    obtain ⟨d', e1, e2⟩ := (ra.ext e).get (y xs (sqTMono st.fz (sqTMono e hs)))
    rw [hl] at e1
    exact ⟨F2, Ext.refl, st, by show Rep K F2 x (ds.getD (ds.length - 1 - i) .non); rw [getD_of e1]; exact e2, fun _ _ => rfl⟩
  stop := fun F2 R H M e st _ => by
    show xs.length ≤ ds.length
    rw [ra.len]; exact Nat.le_refl _
section
variable {X : Cx} {F0 : Bs} {tg e : Expr} {te : DE}
theorem id_rev {p pos : Pos} (hg : Gl X "reversed") (hm : X.mg "reversed" = none) (he : PE X e (liE X.K F0 te)) (hs : starEach [e] X.env = (false, eval e X.env) :: starEach [] X.env := by rfl) : PI X tg (.Call (.Name "reversed" p) [e] [] pos) (liI X.K F0 (iRevD te)) := by
  refine piImp (RT.pi_revA hg hm he hs) fun σ H Q ⟨F, R, τ, M, Q', e0, st, sl, q, k⟩ => ?_
  refine ⟨F, R, τ, M, _, e0, st, sl, q, fun v H1 F1 d M1 e1 st1 r1 q1 => ?_⟩
  cases d <;> try exact q1.elim
  cases r1 with
  | tup hs ra => exact ⟨_, _, rfl, .inr ⟨sqTMono st1.fz hs, k _ _ _ _ _ e1 st1 (rel_rev hs ra) q1⟩⟩
/-! ### xs[::-1] -/
def dRevL (te : DE) : DE := fun τ M Q => te τ M fun d M1 => match lsOf M1 d with
  | some ds => Q (.lst ds.reverse) M1
  | none => False
theorem pd_revL {k : Nat} {p1 p2 p3 pos : Pos} (he : PE X e (liE X.K F0 te)) : PE X (.Subscript e (.Slice none none (some (.UnaryOp .USub (.Constant (.int 1) k p1) p2)) p3) pos) (liE X.K F0 (dRevL te)) := by
  refine peImp (pe_revL he) fun σ H Q ⟨F, R, τ, M, Q', e0, st, sl, q, kk⟩ => ?_
  refine ⟨F, R, τ, M, _, e0, st, sl, q, fun v H1 F1 d M1 e1 st1 r1 q1 => ?_⟩
  split at q1 <;> try exact q1.elim
  rename_i ds h1
  obtain ⟨a, xs, rfl, hs, ra⟩ := ls_get st1 r1 h1
  exact ⟨a, xs, rfl, hs, fun p hp => (kk.ext e1).lst st1 hp ra.rev q1⟩
end
section
variable {nx bk ct : SD → Mp → Prop} {rt : QD} {E : EndsD} {τ : SD} {M : Mp} {QI : ItD → Mp → Prop} {Q : QD} {te : DE} {x : D} {ds : List D}
def kRev (QI : ItD → Mp → Prop) : QD := fun d M1 => match d with
  | .tup ds => QI (itRev ds) M1
  | _ => False
theorem s_revI (h : te τ M (kRev QI)) : iRevD te τ M QI := h
theorem s_krev (h : QI (itRev ds) M) : kRev QI (.tup ds) M := h
theorem s_kforV {tb : DS} {is : List Nat} {plain : Bool} (Pv : Nat → SD → Mp → Prop) (h0 : Pv 0 τ M)
    (hs : ∀ i d τ M, i < ds.length → ds[ds.length - 1 - i]? = some d → Pv i τ M → gD plain is d τ M fun τ2 M2 => tb ⟨Pv (i + 1), rt, nx, Pv (i + 1)⟩ τ2 M2) (hd : ∀ τ M, Pv ds.length τ M → nx τ M) : kFor (gD plain is) tb ⟨nx, rt, bk, ct⟩ τ (itRev ds) M :=
  ⟨Pv, h0, fun _ _ M _ _ => trivial, fun i τ M hi p => by
    have hi : i < ds.length := hi
    have e := List.getElem?_eq_getElem (l := ds) (i := ds.length - 1 - i) (by omega)
    show gD plain is (ds.getD (ds.length - 1 - i) .non) τ M _
    rw [getD_of e]
    exact hs i _ τ M hi e p, hd⟩
def kRevL (Q : QD) : QD := fun d M1 => match lsOf M1 d with
  | some ds => Q (.lst ds.reverse) M1
  | none => False
theorem s_revL (h : te τ M (kRevL Q)) : dRevL te τ M Q := h
theorem s_krevL (e : lsOf M x = some ds) (h : Q (.lst ds.reverse) M) : kRevL Q x M := by unfold kRevL; simp only [e]; exact h
end
end DL

namespace DL
open PySem PySem.Spec PyProof.Rows L2 LamX NdefX
/-! ### errors -/
theorem Stt.lessR {K : PySem.W.Frag} {F R R2 H : Hp} {M : Mp} (s : Stt K F R2 H M) (e : Ext R R2) : Stt K F R H M := ⟨s.fz, fun a o h => s.rs a o (e a o h), s.ow, s.nf, fun a o h => s.nr a o (e a o h)⟩
/-- the class of this name -/
def exV (C : Ct) (n : Str) : Value := (C.mg n).getD .none
theorem exV_of {C : Ct} {n : Str} {v : Value} (h : C.mg n = some v) : exV C n = v := by unfold exV; rw [h]; rfl
/-- raise X('..') -/
def dRaise (c : Value) (E : XD) : DS := fun _ _ M => E c none M
section
variable {X : Cx} {F0 : Bs} {x m : Str} {j : Nat} {p p2 pos pos2 : Pos} {Cc : Addr} {cv : Value} {B newId initId : String} {bmB : List Value}
theorem sd_raise {E' : XD} {E : XK} (hE : ∀ e dx H, liX X.K F0 E' e dx H → E e dx H) (hc : X.calm = true) (tk : Takes X (fun cls d _ H => E cls d H)) (hv : cv = .ref Cc) (F : ExcBaseFacts B newId initId bmB) (q : PySem.W.excIn X.K Cc bmB newId = true) (gC : X.mg x = some (.ref Cc)) (kC : PySem.W.keepIn X.K (.ref Cc) = true) (r : Raises X (.ref Cc)) (hg : Gl X x)
    (hdb : (x == ("__debug__" : Str)) = false := by decide) : PS X (.Raise (some (.Call (.Name x p) [.Constant (.str m) j p2] [] pos)) none pos2) (liS X.K F0 (dRaise cv E')) := by
  subst hv
  exact psImp (ps_raise hc tk (pmk_own F q gC kC r hg hdb)) fun D σ H ⟨F, R, τ, M, D', e0, st, sl, q, k⟩ => hE _ _ _ ⟨F, R, M, none, e0, st, trivial, q⟩
end
/-! what is wanted of an error, by the slots where it comes -/
def liXS (K : PySem.W.Frag) (F0 : Bs) (E' : SD → XD) : WX := fun e dx σ H => ∃ F R M fs τ, Bas F0 F R ∧ Stt K F R H M ∧ Slots K F σ τ ∧ RepX K F H dx fs ∧ E' τ e fs M
def dCallS (sp : SpD) (E : SD → XD) (t : DA) : DE := fun τ M Q => t τ M fun ds M1 => sp ds M1 Q (E τ)
section
variable {X : Cx} {F0 : Bs} {k : Nat} {f : Addr} {fd : FuncData} {ps : List Str} {sp : SpD} {x : Str} {p pos : Pos} {e : Expr} {es : List Expr} {t : DA}
/-- f(..) within a try -/
theorem pd_callS {W : WX} {E' : SD → XD} (hE : ∀ e dx σ H, liXS X.K F0 E' e dx σ H → W e dx σ H) (tk : Takes X W) (F : FnOk X.prog X.w X.K X.mg X.base (L2.CX X.prog X.w) k f fd ps (liSp X.K F0.T sp)) (hr : Room k X.A) (hg : Gl X x) (hm : X.mg x = some (.ref f)) (hk : PySem.W.keepIn X.K (.ref f) = true) (hb : Binds X.K fd ps [])
    (ha : PA X (e :: es) (liA X.K F0 t)) (hdb : (x == ("__debug__" : Str)) = false := by decide) (he : starEach (e :: es) X.env = (false, eval e X.env) :: starEach es X.env := by rfl) (hpl : (backTo pos (starEach es X.env)).any (·.1) = false := by rfl) :
    PE X (.Call (.Name x p) (e :: es) [] pos) (liE X.K F0 (dCallS sp E' t)) := by
  refine peImp (pe_callS F hr hg hm hk hb (fun σ => passAt tk σ) ha hdb he hpl) fun σ H Q ⟨F, R, τ, M, Q', e0, st, sl, q, k⟩ => ?_
  refine ⟨F, R, τ, M, _, e0, st, sl, q, fun vs H1 F1 ds M1 e1 st1 r1 q1 => ?_⟩
  exact ⟨F1, R, ds, M1, Q', E' τ, st1, e0.t, r1, q1, k.ext e1, fun e dx H2 F2 fs M2 e2 st2 rx qx => hE _ _ _ _ ⟨F2, R, M2, fs, τ, e0.trans (e1.trans e2), st2, sl.ext (e1.trans e2), rx, qx⟩⟩
end
/-- try .. except X .. else -/
def dTry (tb : (SD → XD) → DS) (c : Value) (ts u : DS) : DS := fun D τ M => tb (fun τ' e fs M' => e = c ∧ ts D τ' M') { D with nx := u D } τ M
section
variable {X : Cx} {F0 : Bs} {x : Str} {Cc : Addr} {cv : Value} {body suite orelse : List Stmt} {b₀ : Stmt} {np pos pos' : Pos} {tb : (SD → XD) → DS} {ts u : DS}
theorem sd_try (hs : X.stack = X.env :: X.outer) (hf : X.env.frame = some X.env.locals) (hv : cv = .ref Cc) (hc : Names X x (.ref Cc)) (hcc : PySem.W.exmOne X.K (.ref Cc) (.ref Cc) = some true) (ho : PSs X orelse (liS X.K F0 u))
    (hb : ∀ (W : WX) (pn : List (Addr × Obj)) (xe : Value → Shared → Prop) (FF RR : Hp) (E' : SD → XD), (∀ e dx σ H, liXS X.K ⟨FF, RR, F0.T⟩ E' e dx σ H → W e dx σ H) → Takes (X.tr pn xe) W → PSs (X.tr pn xe) body (liS X.K ⟨FF, RR, F0.T⟩ (tb E')))
    (hsu : ∀ (a : Addr) (oe : Obj) (cls : Value) (d : Option Addr) (pn : List (Addr × Obj)), Zc cls d oe → (∃ vs, oe.data = .fields vs) → PSs (X.suite a ((a, oe) :: pn)) (b₀ :: suite) (liS X.K F0 ts)) :
    PS X (.Try body [.ExceptHandler (some (.Name x np)) none (b₀ :: suite) pos'] orelse [] pos) (liS X.K F0 (dTry tb cv ts u)) := by
  subst hv
  refine ⟨fun pins s σ H D I ⟨F, R, τ, M, D', e0, st, sl, q, k⟩ => ?_⟩
  have T := ps_try_onlyE (X := X) (x := x) (np := np) (pos := pos) (pos' := pos') (body := body) (suite := suite) (b₀ := b₀) (Wout := fun _ _ _ _ => False) (ts := fun _ _ _ => liS X.K F0 ts) (u := liS X.K F0 u)
    (tb := fun W D2 σ2 H2 => D2 = { D with nx := liS X.K F0 u D } ∧ σ2 = σ ∧ H2 = H ∧ W = wOnly X.K (.ref Cc) (fun _ _ _ => liS X.K F0 ts) (fun _ _ _ _ => False) D) ho hs hf hc (fun _ _ z => by
      obtain ⟨_, _, _, _, _, _, _, _, _, _, _, _, _, _, _, _, z⟩ := z
      exact z.elim) (fun W pn xe tk _ => ⟨fun pins2 s2 σ2 H2 D2 I2 ⟨eD, eσ, eH, eW⟩ => ?_⟩) hsu
  · exact T.run pins s σ H D I ⟨rfl, rfl, rfl, rfl⟩
  · subst eD eσ eH
    refine (hb W pn xe F R (fun τ' e fs M' => e = .ref Cc ∧ ts D' τ' M') (fun e dx σ3 H3 h3 => ?_) tk).run pins2 s2 σ2 H2 _ I2 ⟨F, R, τ, M, { D' with nx := u D' }, ⟨Ext.refl, Ext.refl, e0.t⟩, st, sl, q, ⟨fun σ4 H4 F4 τ4 M4 e4 st4 sl4 q4 => ?_, k.rt, k.bk, k.ct⟩⟩
    · obtain ⟨F3, R3, M3, fs, τ3, b3, st3, sl3, rx, rfl, q3⟩ := h3
      rw [eW]
      refine ⟨true, hcc, fun _ a _ => ?_, fun z => by cases z⟩
      exact ⟨F3, R, τ3, M3, D', e0.trans b3.f, st3.lessR b3.r, sl3, q3, k.ext b3.f⟩
    · exact ⟨F4, R, τ4, M4, D', e0.trans e4, st4, sl4, q4, k.ext e4⟩
end
section
variable {P : Program} {w : World} {K : PySem.W.Frag} {mg : Str → Option Value} {base : Heap}
def RdsX (t : XD → DS) (N : List Str) (sp : SpD) : Prop := ∀ ds M Q E, sp ds M Q E → t E (fnE Q) (startD N ds) M
/-- a def that may raise -/
theorem Fun.okXD {x qual : Str} {st : Stmt} {f : Addr} {fd : FuncData} {N ps : List Str} {k : Nat} {sp : SpD} {T : List (Addr × Str)} (F : Fun K x qual st f fd) (S : FnScope N ps (defScope st)) (len : ∀ ds M Q E, sp ds M Q E → ds.length = ps.length) {t : XD → DS}
    (hbody : ∀ (cdv : Value) (A : Around) (outer : List Env) (s : Shared) (H : Hp) (E : XK) (F0 R0 : Hp) (E' : XD), Room k (A.deeper (envOfC qual (defScope st) s.heap.objs.size f cdv)) → (∀ e dx H, liX K ⟨F0, R0, T⟩ E' e dx H → E e dx H) → Takes (cxOf (L2.CX P w) P w K mg base N qual (defScope st) f cdv A outer s H E) (fun cls d _ H => E cls d H) →
      PSs (cxOf (L2.CX P w) P w K mg base N qual (defScope st) f cdv A outer s H E) (defBody st) (liS K ⟨F0, R0, T⟩ (t E')))
    (hq : RdsX t N sp) : FnOk P w K mg base (L2.CX P w) (k + 1) f fd ps (liSp K T sp) := by
  refine F.okX S (fun vs H Q E ⟨F, R, ds, M, Q', E', st, _, ra, h, _, _⟩ => by rw [ra.len]; exact len _ _ _ _ h) fun cdv A outer s H vs Q E hr ⟨F, R, ds, M, Q', E', st, tr, ra, h, kQ, kE⟩ => ?_
  refine ⟨_, hbody cdv A outer s H E F R E' hr (fun e dx H2 ⟨F2, R2, M2, fs, b2, st2, rx, q2⟩ => kE e dx H2 F2 fs M2 b2.f (st2.lessR b2.r) rx q2) (takes_of rfl rfl rfl rfl), F, R, startD N ds, M, _, ⟨Ext.refl, Ext.refl, tr⟩, st, slots_start ra, hq ds M Q' E' h, ?_⟩
  refine ⟨fun σ2 H2 F2 τ2 M2 e2 st2 sl2 ⟨M3, h3, q3⟩ => kQ _ _ _ _ _ e2 (st2.less h3) .non q3, fun v H2 F2 d M2 e2 st2 r2 ⟨M3, h3, q3⟩ => kQ _ _ _ _ _ e2 (st2.less h3) r2 q3, fun _ _ _ _ _ _ _ _ z => z, fun _ _ _ _ _ _ _ _ z => z⟩
end
/-- no error comes -/
theorem noX {K : PySem.W.Frag} {F0 : Bs} : ∀ e dx H, liX K F0 E0D e dx H → E0 e dx H := fun _ _ _ ⟨_, _, _, _, _, _, _, z⟩ => z
/-! the steps -/
section
variable {nx bk ct : SD → Mp → Prop} {rt : QD} {τ : SD} {M : Mp} {E : XD} {De : EndsD} {Q : QD} {al : DA} {sp : SpD}
theorem s_raise {c : Value} (h : E c none M) : dRaise c E De τ M := h
def kCallS (sp : SpD) (E : SD → XD) (τ : SD) (Q : QD) : List D → Mp → Prop := fun ds M1 => sp ds M1 Q (E τ)
theorem s_callS {E : SD → XD} (h : al τ M (kCallS sp E τ Q)) : dCallS sp E al τ M Q := h
theorem s_kcallS {E : SD → XD} {ds : List D} (h : sp ds M Q (E τ)) : kCallS sp E τ Q ds M := h
theorem s_try {tb : (SD → XD) → DS} {c : Value} {ts u : DS} (h : tb (fun τ' e fs M' => e = c ∧ ts ⟨nx, rt, bk, ct⟩ τ' M') ⟨u ⟨nx, rt, bk, ct⟩, rt, bk, ct⟩ τ M) : dTry tb c ts u ⟨nx, rt, bk, ct⟩ τ M := h
end
/-- what is known of an own error's class -/
structure ExcD (K : PySem.W.Frag) (mg : Str → Option Value) (n : Str) where
  c : Addr
  g : mg n = some (.ref c)
  q : PySem.W.excIn K c [.type "ValueError", .type "Exception", .type "BaseException", .type "object"] "ValueError.__new__" = true
  k : PySem.W.keepIn K (.ref c) = true
  s : PySem.W.subIn K (.ref c) (.type "BaseException") = some true
  t : PySem.W.typeIn K (.ref c) = some (.type "type")
  m : PySem.W.exmOne K (.ref c) (.ref c) = some true
theorem exm_self {K : PySem.W.Frag} {S : Addr} (h1 : PySem.W.subIn K (.ref S) (.type "BaseException") = some true) (h2 : PySem.W.isClsIn K S = true) (h3 : PySem.W.typeIn K (.ref S) = some (.type "type")) (h4 : PySem.W.subIn K (.ref S) (.ref S) = some true) :
    PySem.W.exmOne K (.ref S) (.ref S) = some true := by
  have h2 : (PySem.W.clsIn K S).isSome = true := h2
  have e1 : (PySem.W.subIn K (.ref S) (.type "BaseException") == some true) = true := by rw [h1]; rfl
  have e2 : ((PySem.W.clsIn K S).isSome && PySem.W.typeIn K (.ref S) == some (.type "type")) = true := by rw [h2, h3]; rfl
  show (if (PySem.W.subIn K (.ref S) (.type "BaseException") == some true) = true then (if ((PySem.W.clsIn K S).isSome && PySem.W.typeIn K (.ref S) == some (.type "type")) = true then PySem.W.subIn K (.ref S) (.ref S) else none) else none) = some true
  rw [if_pos e1, if_pos e2]
  exact h4
end DL

namespace DL
open PySem PySem.Spec PyProof.Rows L2 LamX NdefX
/-! ### the order of data -/
def dLtD : R2D := fun x y M Q => match (drf M x).py, (drf M y).py with
  | some p, some q => PySem.W.alike p q = true ∧ p ≠ .none ∧ min p.depth q.depth ≤ 64 ∧ Q (.bl (PySem.W.dataLt p q)) M
  | _, _ => False
section
variable {X : Cx} {F0 : Bs}
theorem od_ltD (hu : X.A.units + 64 < cLine) : OpD X F0 (compareOp .Lt) dLtD := by
  intro pins s σ H x y v u Q I rx ry ⟨F, R, M, d, e, Q', e0, st, rd, re, q, k⟩
  unfold dLtD at q
  split at q
  · rename_i p q' h1 h2
    obtain ⟨as, r1⟩ := Dp.reads I p x v (dp_drf st rd h1) rx
    obtain ⟨bs, r2⟩ := Dp.reads I q' y u (dp_drf st re h2) ry
    exact PySem.W.lt_data r1 r2 q.1 q.2.1 (by omega) ⟨.bl _, H, I, rfl, k _ _ _ _ _ Ext.refl st (.bl _) q.2.2.2⟩
  · exact q.elim
end
theorem s_ltD {p q : PyData} {x y : D} {M : Mp} {Q : QD} (e1 : (drf M x).py = some p) (e2 : (drf M y).py = some q) (h1 : PySem.W.alike p q = true) (h2 : p ≠ .none) (h3 : p.depth ≤ 64) (h : Q (.bl (PySem.W.dataLt p q)) M) : dLtD x y M Q := by
  unfold dLtD
  simp only [e1, e2]
  exact ⟨h1, h2, Nat.le_trans (Nat.min_le_left _ _) h3, h⟩
/-! ### for x in reversed(a list or a tuple that nobody changes) -/
def iRevA (te : DE) : DTI := fun τ M Q => te τ M fun d M1 => match d with
  | .tup ds => Q (itRev ds) M1
  | .lst ds => Q (itRev ds) M1
  | _ => False
theorem rel_revL {K : PySem.W.Frag} {F : Hp} {a : Addr} {xs : List V} {ds : List D} (hs : F a = some (.lst xs)) (ra : RepAll K F xs ds) : ItRel K F (Itv K a xs.length) (itRev ds) where
  go := fun i F2 R H M e st _ hi => by
    have hi : i < ds.length := hi
    have hl := ra.len
    exact ⟨by omega, xs, xs[xs.length - 1 - i]'(by omega), .inl (.inl (st.fz _ _ (e _ _ hs))), List.getElem?_eq_getElem _⟩
  yld := fun i F2 R H M x H' e st _ hi y => by
    obtain ⟨rfl, y⟩ := y
    have hi : i < ds.length := hi
    have hl := ra.len
    obtain ⟨d', e1, e2⟩ := (ra.ext e).get (y xs (.inl (.inl (st.fz _ _ (e _ _ hs)))))
    rw [hl] at e1
    exact ⟨F2, Ext.refl, st, by show Rep K F2 x (ds.getD (ds.length - 1 - i) .non); rw [getD_of e1]; exact e2, fun _ _ => rfl⟩
  stop := fun F2 R H M e st _ => by
    show xs.length ≤ ds.length
    rw [ra.len]; exact Nat.le_refl _
section
variable {X : Cx} {F0 : Bs} {tg e : Expr} {te : DE}
theorem id_revA {p pos : Pos} (hg : Gl X "reversed") (hm : X.mg "reversed" = none) (he : PE X e (liE X.K F0 te)) (hs : starEach [e] X.env = (false, eval e X.env) :: starEach [] X.env := by rfl) : PI X tg (.Call (.Name "reversed" p) [e] [] pos) (liI X.K F0 (iRevA te)) := by
  refine piImp (RT.pi_revA hg hm he hs) fun σ H Q ⟨F, R, τ, M, Q', e0, st, sl, q, k⟩ => ?_
  refine ⟨F, R, τ, M, _, e0, st, sl, q, fun v H1 F1 d M1 e1 st1 r1 q1 => ?_⟩
  cases d <;> try exact q1.elim
  · cases r1 with
    | tup hs ra => exact ⟨_, _, rfl, .inr ⟨sqTMono st1.fz hs, k _ _ _ _ _ e1 st1 (rel_rev hs ra) q1⟩⟩
  · cases r1 with
    | lst hs ra => exact ⟨_, _, rfl, .inl ⟨.inl (.inl (st1.fz _ _ hs)), k _ _ _ _ _ e1 st1 (rel_revL hs ra) q1⟩⟩
end
def kRevA (QI : ItD → Mp → Prop) : QD := fun d M1 => match d with
  | .tup ds => QI (itRev ds) M1
  | .lst ds => QI (itRev ds) M1
  | _ => False
theorem s_revA {te : DE} {τ : SD} {M : Mp} {QI : ItD → Mp → Prop} (h : te τ M (kRevA QI)) : iRevA te τ M QI := h
theorem s_krevaL {ds : List D} {M : Mp} {QI : ItD → Mp → Prop} (h : QI (itRev ds) M) : kRevA QI (.lst ds) M := h
theorem s_krevaT {ds : List D} {M : Mp} {QI : ItD → Mp → Prop} (h : QI (itRev ds) M) : kRevA QI (.tup ds) M := h
/-- over reversed(data that nobody changes), each item gives one, and M stays -/
theorem s_klcRev {plain : Bool} {is vs : List Nat} {fin : List D → Mp → QD → Prop} {te : DE} {τ : SD} {M : Mp} {Q : QD} {α : Type} {xs : List α} (enc : α → D) (f : α → D) (hl : xs.length ≤ sizeLine)
    (hs : ∀ a ∈ xs, ∃ τ2, bindD plain is (enc a) (wipeD τ vs) = some τ2 ∧ ∀ Q : QD, Q (f a) M → te τ2 M Q) (hd : fin (xs.reverse.map f) M Q) : kLc fin plain is vs dYes te τ Q (itRev (xs.map enc)) M := by
  refine ⟨fun i acc M' => M' = M ∧ acc = (xs.reverse.map f).take i, ⟨rfl, rfl⟩, fun _ _ _ _ _ => trivial, fun i acc M' hi p => ?_, fun acc M' p => ?_⟩
  · obtain ⟨rfl, rfl⟩ := p
    have hi : i < (xs.map enc).length := hi
    rw [List.length_map] at hi
    have e := List.getElem?_eq_getElem (l := xs) (i := xs.length - 1 - i) (by omega)
    obtain ⟨τ2, e2, k⟩ := hs xs[xs.length - 1 - i] (List.getElem_mem _)
    have e3 : (itRev (xs.map enc)).at' i = enc xs[xs.length - 1 - i] := getD_of (by rw [List.length_map, List.getElem?_map, e]; rfl)
    rw [e3, e2]
    refine k _ ⟨?_, rfl, ?_⟩
    · rw [List.length_take, List.length_map, List.length_reverse]; omega
    · rw [List.take_succ, List.getElem?_map, List.getElem?_reverse hi, e]; rfl
  · obtain ⟨rfl, rfl⟩ := p
    have e : (xs.reverse.map f).take (itRev (xs.map enc)).n = xs.reverse.map f := List.take_of_length_le (by show _ ≤ (xs.map enc).length; rw [List.length_map, List.length_map, List.length_reverse]; exact Nat.le_refl _)
    rw [e]
    exact hd
/-! ### two sources in one comprehension -/
def dLc2G (fin : List D → Mp → QD → Prop) (wi : DTI) (plain : Bool) (is vs : List Nat) (tt : DT) (wi1 : DTI) (plain1 : Bool) (is1 vs1 : List Nat) (tt1 : DT) (te : DE) : DE := fun τ M Q => wi τ M fun j M1 => ∃ Pv : Nat → List D → Mp → Prop, Pv 0 [] M1 ∧ (∀ i acc M, i ≤ j.n → Pv i acc M → j.ok M) ∧
  (∀ i acc M, i < j.n → Pv i acc M → match bindD plain is (j.at' i) (wipeD τ vs) with
    | some τ2 => tt τ2 M fun b M3 => if b = true then wi1 τ2 M3 fun j1 M4 => ∃ P1 : Nat → List D → Mp → Prop, P1 0 acc M4 ∧ (∀ k acc M, k ≤ j1.n → P1 k acc M → j1.ok M) ∧
        (∀ k acc M, k < j1.n → P1 k acc M → match bindD plain1 is1 (j1.at' k) (wipeD τ2 vs1) with
          | some τ3 => tt1 τ3 M fun b M5 => if b = true then te τ3 M5 fun e M6 => acc.length < sizeLine ∧ P1 (k + 1) (acc ++ [e]) M6 else P1 (k + 1) acc M5
          | none => False) ∧ ∀ acc M, P1 j1.n acc M → Pv (i + 1) acc M
      else Pv (i + 1) acc M3
    | none => False) ∧ ∀ acc M, Pv j.n acc M → fin acc M Q
abbrev dLc2 := dLc2G fun acc M Q => Q (.lst acc) M
section
variable {K : PySem.W.Frag} {F0 : Bs} {fin : List D → Mp → QD → Prop} {wi wi1 : DTI} {g g1 : TG} {plain plain1 : Bool} {is vs is1 vs1 : List Nat} {tt tt1 : DT} {te : DE}
theorem li_lc2 (hf : FinOk K fin) (ht : TgOk K g plain is) (hv : ∀ i ∈ is, i ∈ vs) (ht1 : TgOk K g1 plain1 is1) (hv1 : ∀ i ∈ is1, i ∈ vs1) {σ : L2.St} {H : Hp} {Q : VK} (h : liE K F0 (dLc2G fin wi plain is vs tt wi1 plain1 is1 vs1 tt1 te) σ H Q) : tLc2 (liI K F0 wi) g (liT K F0 tt) (liI K F0 wi1) g1 (liT K F0 tt1) (liE K F0 te) vs vs1 σ H Q := by
  obtain ⟨F, R, τ, M, Q', e0, st, sl, q, k⟩ := h
  refine ⟨F, R, τ, M, _, e0, st, sl, q, fun J H1 F1 j M1 e1 st1 rl ⟨Pv, p0, pk, ps, pd⟩ => fun L hL => ?_⟩
  have rL : R L = none := by
    cases z : R L with
    | none => rfl
    | some o => exact ((st1.rs L o z).1.there hL).elim
  have fL : F1 L = none := by
    cases z : F1 L with
    | none => rfl
    | some o => have := st1.fz L o z; rw [hL] at this; cases this
  have mL : M1 L = none := by
    cases z : M1 L with
    | none => rfl
    | some o => obtain ⟨_, u, hu, _⟩ := st1.ow L o z; rw [hL] at hu; cases hu
  have exR : ∀ o, Ext R (upd R L o) := fun o a u e => by rw [upd_ne (ne_of_none e rL)]; exact e
  have st0 : Stt K F1 (upd R L (.lst [])) (upd H1 L (.lst [])) M1 := by
    refine ⟨fun a u e => ?_, fun a u e => ?_, fun a m e => ?_, st1.nf, fun a u e => ?_⟩
    rotate_left 3
    · by_cases z : a = L
      · subst z; rw [upd_same] at e; cases e; trivial
      · rw [upd_ne z] at e; exact st1.nr a u e
    · rw [upd_ne (ne_of_none e fL)]; exact st1.fz _ _ e
    · by_cases z : a = L
      · subst z; rw [upd_same] at e; cases e; exact ⟨upd_same, fL, mL⟩
      · rw [upd_ne z] at e
        obtain ⟨h1, h2, h3⟩ := st1.rs a u e
        exact ⟨h1.step (fun b v n eb => by rw [upd_ne n]; exact eb) z (fun c y => by rw [hL] at y; cases y), h2, h3⟩
    · have z : a ≠ L := fun z => by subst z; rw [mL] at e; cases e
      rw [upd_ne z]; exact st1.ow a m e
  refine ⟨fun i m H => m = j.n - i ∧ i ≤ j.n ∧ ∃ F2 M2 xs acc, Ext F1 F2 ∧ Stt K F2 (upd R L (.lst xs)) H M2 ∧ RepAll K F2 xs acc ∧ Pv i acc M2, ⟨j.n, by simp, Nat.zero_le _, F1, M1, [], [], Ext.refl, st0, .nil, p0⟩, ?_⟩
  rintro i m H2 ⟨rfl, hi, F2, M2, xs, acc, e2, st2, ra, p2⟩
  have ok := pk i acc M2 hi p2
  by_cases hlt : i < j.n
  · refine .inr ⟨rl.go i F2 _ H2 M2 e2 st2 ok hlt, fun H' => ∃ F2 M2 xs acc, Ext F1 F2 ∧ Stt K F2 (upd R L (.lst xs)) H' M2 ∧ RepAll K F2 xs acc ∧ Pv (i + 1) acc M2, fun H' z => ⟨j.n - (i + 1), by omega, rfl, hlt, z⟩, fun x H3 y => ?_⟩
    obtain ⟨F3, e3, st3, rx, _⟩ := rl.yld i F2 _ H2 M2 x H3 e2 st2 ok hlt y
    have step := ps i acc M2 hlt p2
    split at step
    · rename_i τ3 eb
      have sl3 : Slots K F3 (wipe σ vs) (wipeD τ vs) := (sl.ext (e1.trans (e2.trans e3))).wipe vs
      refine ht.run F3 _ H3 M2 x _ _ _ τ3 _ st3 sl3 rx eb fun σ4 sl4 ⟨ys, hl, e4⟩ => ⟨by rw [e4, wipe_fold is ys _ hv, wipe_wipe], ?_⟩
      have b3 : Bas F0 F3 (upd R L (.lst xs)) := ⟨(e0.trans (e1.trans (e2.trans e3))).f, e0.r.trans (exR _), e0.t.ext (exR _)⟩
      refine ⟨F3, _, τ3, M2, _, b3, st3, sl4, step, fun b H5 F5 M5 e5 st5 q5 => ?_⟩
      cases b with
      | false =>
        rw [if_neg Bool.false_ne_true] at q5 ⊢
        exact ⟨F5, M5, xs, acc, e2.trans (e3.trans e5), st5, ra.ext (e3.trans e5), q5⟩
      | true =>
        rw [if_pos rfl] at q5 ⊢
        refine ⟨F5, _, τ3, M5, _, b3.trans e5, st5, sl4.ext e5, q5, fun J1 H6 F6 j1 M6 e6 st6 rl1 ⟨P1, a0, ak, as, ad⟩ => ?_⟩
        have x6 : Ext F1 F6 := e2.trans (e3.trans (e5.trans e6))
        refine ⟨fun k m H => m = j1.n - k ∧ k ≤ j1.n ∧ ∃ F7 M7 xs acc, Ext F6 F7 ∧ Stt K F7 (upd R L (.lst xs)) H M7 ∧ RepAll K F7 xs acc ∧ P1 k acc M7, ⟨j1.n, by simp, Nat.zero_le _, F6, M6, xs, acc, Ext.refl, st6, ra.ext (e3.trans (e5.trans e6)), a0⟩, ?_⟩
        rintro k' m' H7 ⟨rfl, hk', F7, M7, xs7, acc7, e7, st7, ra7, p7⟩
        have ok1 := ak k' acc7 M7 hk' p7
        by_cases hlt1 : k' < j1.n
        · refine .inr ⟨rl1.go k' F7 _ H7 M7 e7 st7 ok1 hlt1, fun H' => ∃ F7 M7 xs acc, Ext F6 F7 ∧ Stt K F7 (upd R L (.lst xs)) H' M7 ∧ RepAll K F7 xs acc ∧ P1 (k' + 1) acc M7, fun H' z => ⟨j1.n - (k' + 1), by omega, rfl, hlt1, z⟩, fun x8 H8 y8 => ?_⟩
          obtain ⟨F8, e8, st8, rx8, _⟩ := rl1.yld k' F7 _ H7 M7 x8 H8 e7 st7 ok1 hlt1 y8
          have step1 := as k' acc7 M7 hlt1 p7
          split at step1
          · rename_i τ8 eb8
            have sl8 : Slots K F8 (wipe σ4 vs1) (wipeD τ3 vs1) := (sl4.ext (e5.trans (e6.trans (e7.trans e8)))).wipe vs1
            refine ht1.run F8 _ H8 M7 x8 _ _ _ τ8 _ st8 sl8 rx8 eb8 fun σ9 sl9 ⟨ys9, hl9, e9⟩ => ⟨by rw [e9, wipe_fold is1 ys9 _ hv1, wipe_wipe], ?_⟩
            have b8 : Bas F0 F8 (upd R L (.lst xs7)) := ⟨((e0.trans e1).trans (x6.trans (e7.trans e8))).f, e0.r.trans (exR _), e0.t.ext (exR _)⟩
            refine ⟨F8, _, τ8, M7, _, b8, st8, sl9, step1, fun b H10 F10 M10 e10 st10 q10 => ?_⟩
            cases b with
            | false =>
              rw [if_neg Bool.false_ne_true] at q10 ⊢
              exact ⟨F10, M10, xs7, acc7, e7.trans (e8.trans e10), st10, ra7.ext (e8.trans e10), q10⟩
            | true =>
              rw [if_pos rfl] at q10 ⊢
              refine ⟨F10, _, τ8, M10, _, b8.trans e10, st10, sl9.ext e10, q10, fun z H11 F11 dz M11 e11 st11 r11 ⟨q11, q12⟩ => ?_⟩
              have ra11 := ra7.ext (e8.trans (e10.trans e11))
              exact ⟨xs7, (st11.rs L _ upd_same).1, by rw [ra11.len]; exact q11, F11, M11, xs7 ++ [z], acc7 ++ [dz], e7.trans (e8.trans (e10.trans e11)), st11.reput, ra11.app (.cons r11 .nil), q12⟩
          · exact step1.elim
        · have e : k' = j1.n := by omega
          subst e
          exact .inl ⟨rl1.stop F7 _ H7 M7 e7 st7 ok1, F7, M7, xs7, acc7, x6.trans e7, st7, ra7, ad acc7 M7 p7⟩
    · exact step.elim
  · have e : i = j.n := by omega
    subst e
    exact .inl ⟨rl.stop F2 _ H2 M2 e2 st2 ok, hf F2 R H2 M2 L xs acc Q' Q st2 rL ra (pd acc M2 p2) (k.ext (e1.trans e2))⟩
end
section
variable {X : Cx} {F0 : Bs} {elt tg iter tg1 iter1 : Expr} {ifs ifs1 : List Expr} {scope : Scope} {own : List (Str × Nat)} {pos : Pos} {wi wi1 : DTI} {g g1 : TG} {plain plain1 : Bool} {is vs is1 vs1 : List Nat} {tt tt1 : DT} {te : DE} {fin : List D → Mp → QD → Prop}
theorem sd_setLc2G {i : Nat} {y : Str} {py spos : Pos} (hf : FinOk X.K fin) (hc : X.calm = true) (hN : X.N.Nodup) (hy : X.N[i]? = some y) (hyl : X.env.scope.names.lookup y = some .local)
    (hsw : swapsWith (.ListComp elt [⟨tg, iter, ifs, 0⟩, ⟨tg1, iter1, ifs1, 0⟩] scope pos) (some (.Name y py)) spos.line X.env = pure true) (hi : PI X tg iter (liI X.K F0 wi)) (ok : BlkOk X.N X.env.scope scope own) (hvs : own.map (·.2) = vs) (hto : TgOk X.K g plain is) (hv : ∀ i ∈ is, i ∈ vs) (hto1 : TgOk X.K g1 plain1 is1) (hv1 : ∀ i ∈ is1, i ∈ vs1) (hvv : ∀ i ∈ vs1, i ∈ vs)
    (hg : ∀ (s : Shared) (H : Hp) (C : Addr) (cl : List (Str × Addr)) (fp : List Addr), PG (X.blk s H scope (compEnvC scope cl C X.env) fp) tg g)
    (ht : ∀ (s : Shared) (H : Hp) (C : Addr) (cl : List (Str × Addr)) (fp : List Addr), PTs (X.blk s H scope (compEnvC scope cl C X.env) fp) ifs (liT X.K F0 tt))
    (hi1 : ∀ (s : Shared) (H : Hp) (C : Addr) (cl : List (Str × Addr)) (fp : List Addr), PI (X.blk s H scope (compEnvC scope cl C X.env) fp) tg1 iter1 (liI X.K F0 wi1))
    (hg1 : ∀ (s : Shared) (H : Hp) (C : Addr) (cl : List (Str × Addr)) (fp : List Addr), PG (X.blk s H scope (compEnvC scope cl C X.env) fp) tg1 g1)
    (ht1 : ∀ (s : Shared) (H : Hp) (C : Addr) (cl : List (Str × Addr)) (fp : List Addr), PTs (X.blk s H scope (compEnvC scope cl C X.env) fp) ifs1 (liT X.K F0 tt1))
    (he : ∀ (s : Shared) (H : Hp) (C : Addr) (cl : List (Str × Addr)) (fp : List Addr), PE (X.blk s H scope (compEnvC scope cl C X.env) fp) elt (liE X.K F0 te)) (hs : ∀ x, foldedSetIterable iter X.env x = pure x := by intro _; rfl) (hs1 : ∀ env x, foldedSetIterable iter1 env x = pure x := by intro _ _; rfl) :
    PS X (.Assign [.Name y py] (.ListComp elt [⟨tg, iter, ifs, 0⟩, ⟨tg1, iter1, ifs1, 0⟩] scope pos) spos) (liS X.K F0 (dSet i (dLc2G fin wi plain is vs tt wi1 plain1 is1 vs1 tt1 te))) := by
  subst hvs
  exact psImp (ps_setLc2 hc hN hy hyl hsw hi ok hvv hg ht hi1 hg1 ht1 he hs hs1) fun D σ H ⟨F, R, τ, M, D', e0, st, sl, q, k⟩ =>
    li_lc2 (Q := fun x H1 => gName i x σ H1 D.nx) hf hto hv hto1 hv1 ⟨F, R, τ, M, _, e0, st, sl, q, fun v H2 F2 d M2 e2 st2 r2 q2 => k.nx _ _ _ _ _ e2 st2 ((sl.ext e2).put r2 i) q2⟩
end
/-! ### sorted(a list of pairs of ints): the same pairs in some order -/
theorem RepAll.perm {K : PySem.W.Frag} {F : Hp} {ys xs : List V} (p : ys.Perm xs) : ∀ {ds : List D}, RepAll K F xs ds → ∃ es : List D, es.Perm ds ∧ RepAll K F ys es := by
  induction p with
  | nil => intro ds r; exact ⟨ds, List.Perm.refl _, r⟩
  | cons x p ih =>
    intro ds r
    cases r with
    | cons h t =>
      obtain ⟨es, pe, re⟩ := ih t
      exact ⟨_ :: es, pe.cons _, .cons h re⟩
  | swap x y l =>
    intro ds r
    cases r with
    | cons h t =>
      cases t with
      | cons h2 t => exact ⟨_ :: _ :: _, List.Perm.swap _ _ _, .cons h2 (.cons h t)⟩
  | trans p1 p2 ih1 ih2 =>
    intro ds r
    obtain ⟨es, pe, re⟩ := ih2 r
    obtain ⟨fs, pf, rf⟩ := ih1 re
    exact ⟨fs, pf.trans pe, rf⟩
def dSortedU (B : Int) : RC := fun ds M Q => match ds with
  | [x] => match lsOf M x with
    | some es => es.length < 64 ∧ (∀ e ∈ es, ∃ ns : List Int, e = .tup (ns.map D.int) ∧ ns.length = 2 ∧ ∀ m ∈ ns, 0 ≤ m ∧ m < B) ∧ ∀ es' : List D, es'.Perm es → Q (.lst es') M
    | none => False
  | _ => False
theorem RepAll.each {K : PySem.W.Frag} {F : Hp} : ∀ {xs : List V} {ds : List D}, RepAll K F xs ds → ∀ x ∈ xs, ∃ d ∈ ds, Rep K F x d
  | _, _, .nil, x, h => by cases h
  | _, _, .cons r t, x, h => by
    rcases List.mem_cons.mp h with rfl | h
    · exact ⟨_, List.mem_cons_self, r⟩
    · obtain ⟨d, hd, r'⟩ := RepAll.each t x h
      exact ⟨d, List.mem_cons_of_mem _ hd, r'⟩
theorem cd_sortedU {X : Cx} {F0 : Bs} {B : Int} : CallR X (.builtin "sorted") (liC X.K F0 (dSortedU B)) := by
  refine caImp (cr_sortT (d := 2) (B := B) (by decide)) fun xs H Q ⟨F, R, M, ds, Q', e0, st, ra, q, k⟩ => ?_
  unfold dSortedU at q
  split at q <;> try exact q.elim
  obtain ⟨x, rfl, r⟩ := rep1 ra
  split at q <;> try exact q.elim
  rename_i es h1
  obtain ⟨a, vs, rfl, hs, rv⟩ := ls_get st r h1
  obtain ⟨q1, q2, q3⟩ := q
  refine ⟨a, vs, rfl, hs, by rw [rv.len]; exact q1, fun x hx => ?_, fun ys p hp _ hh => ?_⟩
  · obtain ⟨d, hd, rd⟩ := rv.each x hx
    obtain ⟨ns, rfl, hl, hb⟩ := q2 d hd
    obtain ⟨t, us, rfl, ht, ru⟩ := tp_get st rd
    have := RepAll.ints ru
    subst this
    exact ⟨ns, ⟨t, rfl, ht⟩, hl, hb⟩
  · obtain ⟨es', pe, re⟩ := RepAll.perm hp rv
    exact k.lst st hh re (q3 es' pe)
theorem s_sortedU {B : Int} {es : List D} {x : D} {M : Mp} {Q : QD} (e : lsOf M x = some es) (h1 : es.length < 64) (h2 : ∀ e ∈ es, ∃ ns : List Int, e = .tup (ns.map D.int) ∧ ns.length = 2 ∧ ∀ m ∈ ns, 0 ≤ m ∧ m < B) (h : ∀ es' : List D, es'.Perm es → Q (.lst es') M) : dSortedU B [x] M Q := by
  unfold dSortedU
  simp only [e]
  exact ⟨h1, h2, h⟩
end DL

namespace L2
open PySem PySem.Spec PyProof.Rows
section
variable {prog : Program} {w : World} {A : Around} {E : Value → Shared → Prop} {s : Shared} {Q : Value → Shared → Prop} {t : Addr} {its : List Value} {ns : List Int}
theorem sum_rawT (hh : A.handled = none) (hl : s.heap.IsTuple t its.toArray) (hi : IntsAre its ns)
    (h : ∀ h' tk t', (∀ b o, s.heap.get? b = some o → h'.get? b = some o) → Q (.int ns.sum t') { s with heap := h', toks := tk }) : wpAny (model prog w) A (call (.builtin "sum") [.ref t]) Q E s := by
  obtain ⟨xs, e⟩ := hi.allInts.items
  have hn : numsOf (intItems xs).toList = ns := by rw [← e]; exact hi.numsOf
  rw [nums_intItems] at hn
  rw [e] at hl
  refine PySem.W.ktm_sumG hh hl fun h' tk t' hk => ?_
  have := h h' tk t' hk
  rw [preSum_eq, List.take_of_length_le (by simp), hn]; exact this
end
end L2
namespace DL
open PySem PySem.Spec PyProof.Rows L2 LamX NdefX
/-- sum of a list or a tuple of ints -/
def dSumA : RC := fun ds M Q => match ds with
  | [d] => match sqOf M d with
    | some xs => match intsOf xs with
      | some ns => Q (.int ns.sum) M
      | none => False
    | none => False
  | _ => False
theorem cr_sumA {X : Cx} (hc : X.calm = true) : CallR X (.builtin "sum") (fun vs H Q => ∃ (a : Addr) (ns : List Int), vs = [V.ref a] ∧ (SqL X.K H a (ns.map V.int) ∨ SqT X.K H a (ns.map V.int)) ∧ Q (.int ns.sum) H) := by
  intro pins s σ H vs us Q I r h
  obtain ⟨a, ns, rfl, hs | hs, q⟩ := h
  · exact cr_sum hc pins s σ H _ us Q I r ⟨a, ns, rfl, hs, q⟩
  · obtain ⟨its, rv, hl, _⟩ := I.tuple hs
    rw [Vals.ref1 r]
    exact sum_rawT (I.ok.hd hc) hl rv.ints fun h' tk t' hk => ⟨.int _, H, I.kept hk, ⟨_, rfl⟩, q⟩
theorem cd_sumA {X : Cx} {F0 : Bs} (hc : X.calm = true) : CallR X (.builtin "sum") (liC X.K F0 dSumA) := by
  refine caImp (cr_sumA hc) fun xs H Q ⟨F, R, M, ds, Q', e0, st, rs, q, k⟩ => ?_
  unfold dSumA at q
  split at q <;> try exact q.elim
  obtain ⟨x, rfl, r⟩ := rep1 rs
  split at q <;> try exact q.elim
  rename_i ys h1
  split at q <;> try exact q.elim
  rename_i bs h2
  obtain ⟨a, vs, rfl, hs, ra⟩ := sq_get st r h1
  rw [ints_eq h2] at ra
  have ev := ra.ints
  subst ev
  exact ⟨a, bs, rfl, hs, k _ _ _ _ _ Ext.refl st (.int _) q⟩
theorem s_sumA {ns : List Int} {x : D} {M : Mp} {Q : QD} {ds : List D} (e : sqOf M x = some ds) (e2 : intsOf ds = some ns) (h : Q (.int ns.sum) M) : dSumA [x] M Q := by unfold dSumA; simp only [e, e2]; exact h
/-! two sources, the steps -/
section
variable {τ : SD} {M : Mp} {Q : QD}
def kLc2 (fin : List D → Mp → QD → Prop) (plain : Bool) (is vs : List Nat) (tt : DT) (wi1 : DTI) (plain1 : Bool) (is1 vs1 : List Nat) (tt1 : DT) (te : DE) (τ : SD) (Q : QD) : ItD → Mp → Prop := fun j M1 => ∃ Pv : Nat → List D → Mp → Prop, Pv 0 [] M1 ∧ (∀ i acc M, i ≤ j.n → Pv i acc M → j.ok M) ∧
  (∀ i acc M, i < j.n → Pv i acc M → match bindD plain is (j.at' i) (wipeD τ vs) with
    | some τ2 => tt τ2 M fun b M3 => if b = true then wi1 τ2 M3 fun j1 M4 => ∃ P1 : Nat → List D → Mp → Prop, P1 0 acc M4 ∧ (∀ k acc M, k ≤ j1.n → P1 k acc M → j1.ok M) ∧
        (∀ k acc M, k < j1.n → P1 k acc M → match bindD plain1 is1 (j1.at' k) (wipeD τ2 vs1) with
          | some τ3 => tt1 τ3 M fun b M5 => if b = true then te τ3 M5 fun e M6 => acc.length < sizeLine ∧ P1 (k + 1) (acc ++ [e]) M6 else P1 (k + 1) acc M5
          | none => False) ∧ ∀ acc M, P1 j1.n acc M → Pv (i + 1) acc M
      else Pv (i + 1) acc M3
    | none => False) ∧ ∀ acc M, Pv j.n acc M → fin acc M Q
theorem s_lc2 {fin : List D → Mp → QD → Prop} {wi wi1 : DTI} {plain plain1 : Bool} {is vs is1 vs1 : List Nat} {tt tt1 : DT} {te : DE} (h : wi τ M (kLc2 fin plain is vs tt wi1 plain1 is1 vs1 tt1 te τ Q)) : dLc2G fin wi plain is vs tt wi1 plain1 is1 vs1 tt1 te τ M Q := h
/-- over data that nobody changes, behind each of it over a range -/
theorem s_klc2 {fin : List D → Mp → QD → Prop} {wi1 : DTI} {plain : Bool} {is vs vs1 : List Nat} {i1 : Nat} {te : DE} {α : Type} {x : D} {xs : List α} (enc : α → D) (n : α → Nat) (f : α → Nat → D) (hx : ∀ M, sqOf M x = some (xs.map enc)) (hl : (xs.flatMap fun a => (List.range (n a)).map (f a)).length ≤ sizeLine)
    (hs : ∀ a ∈ xs, ∃ τ2, bindD plain is (enc a) (wipeD τ vs) = some τ2 ∧ (∀ QI : ItD → Mp → Prop, QI (itRng 0 (n a)) M → wi1 τ2 M QI) ∧ ∀ (k : Nat) (Q : QD), k < n a → Q (f a k) M → te ((wipeD τ2 vs1).set i1 (some (.int (0 + (k : Nat))))) M Q)
    (hd : fin (xs.flatMap fun a => (List.range (n a)).map (f a)) M Q) : kLc2 fin plain is vs dYes wi1 true [i1] vs1 dYes te τ Q (itSeq x (xs.map enc)) M := by
  refine ⟨fun i acc M' => M' = M ∧ acc = (xs.take i).flatMap fun a => (List.range (n a)).map (f a), ⟨rfl, rfl⟩, fun i acc M' hi p => hx M', fun i acc M' hi p => ?_, fun acc M' p => ?_⟩
  · obtain ⟨rfl, rfl⟩ := p
    have hi : i < (xs.map enc).length := hi
    rw [List.length_map] at hi
    have e := List.getElem?_eq_getElem hi
    obtain ⟨τ2, e2, k1, k2⟩ := hs xs[i] (List.getElem_mem hi)
    have e3 : (itSeq x (xs.map enc)).at' i = enc xs[i] := getD_of (by rw [List.getElem?_map, e]; rfl)
    have e4 : xs.take (i + 1) = xs.take i ++ [xs[i]] := by rw [List.take_succ, e]; rfl
    have e5 : xs = xs.take i ++ (xs[i] :: xs.drop (i + 1)) := by rw [← List.drop_eq_getElem_cons hi, List.take_append_drop]
    have hl2 : ((xs.take i).flatMap fun a => (List.range (n a)).map (f a)).length + n xs[i] ≤ sizeLine := by
      refine Nat.le_trans ?_ hl
      have : xs.flatMap (fun a => (List.range (n a)).map (f a)) = (xs.take i ++ (xs[i] :: xs.drop (i + 1))).flatMap (fun a => (List.range (n a)).map (f a)) := congrArg (fun l => l.flatMap fun a => (List.range (n a)).map (f a)) e5
      rw [this, List.flatMap_append, List.flatMap_cons, List.length_append, List.length_append, List.length_map, List.length_range]
      omega
    rw [e3, e2]
    refine k1 _ ⟨fun k acc M2 => M2 = M' ∧ acc = ((xs.take i).flatMap fun a => (List.range (n a)).map (f a)) ++ (List.range k).map (f xs[i]), ⟨rfl, by simp⟩, fun _ _ _ _ _ => trivial, fun k acc M2 hk p => ?_, fun acc M2 p => ?_⟩
    · obtain ⟨rfl, rfl⟩ := p
      have hk : k < n xs[i] := hk
      refine k2 k _ hk ⟨?_, rfl, ?_⟩
      · rw [List.length_append, List.length_map, List.length_range]; omega
      · rw [List.range_succ, List.map_append, List.append_assoc]; rfl
    · obtain ⟨rfl, rfl⟩ := p
      refine ⟨rfl, ?_⟩
      rw [e4, List.flatMap_append, List.flatMap_cons, List.flatMap_nil, List.append_nil]; rfl
  · obtain ⟨rfl, rfl⟩ := p
    have e : xs.take (itSeq x (xs.map enc)).n = xs := List.take_of_length_le (by show _ ≤ (xs.map enc).length; rw [List.length_map]; exact Nat.le_refl _)
    rw [e]
    exact hd
end
/-- over data that does not change meanwhile, each item gives one, and M stays -/
theorem s_klcMapM {plain : Bool} {is vs : List Nat} {fin : List D → Mp → QD → Prop} {te : DE} {τ : SD} {M : Mp} {Q : QD} {x : D} {α : Type} {xs : List α} (enc : α → D) (f : α → D) (hx : sqOf M x = some (xs.map enc)) (hl : xs.length ≤ sizeLine)
    (hs : ∀ a ∈ xs, ∃ τ2, bindD plain is (enc a) (wipeD τ vs) = some τ2 ∧ ∀ Q : QD, Q (f a) M → te τ2 M Q) (hd : fin (xs.map f) M Q) : kLc fin plain is vs dYes te τ Q (itSeq x (xs.map enc)) M := by
  refine ⟨fun i acc M' => M' = M ∧ acc = (xs.map f).take i, ⟨rfl, rfl⟩, fun i acc M' hi p => by rw [p.1]; exact hx, fun i acc M' hi p => ?_, fun acc M' p => ?_⟩
  · obtain ⟨rfl, rfl⟩ := p
    have hi : i < (xs.map enc).length := hi
    rw [List.length_map] at hi
    have e := List.getElem?_eq_getElem hi
    obtain ⟨τ2, e2, k⟩ := hs xs[i] (List.getElem_mem hi)
    have e3 : (itSeq x (xs.map enc)).at' i = enc xs[i] := getD_of (by rw [List.getElem?_map, e]; rfl)
    rw [e3, e2]
    refine k _ ⟨?_, rfl, ?_⟩
    · rw [List.length_take, List.length_map]; omega
    · rw [List.take_succ, List.getElem?_map, e]; rfl
  · obtain ⟨rfl, rfl⟩ := p
    have e : (xs.map f).take (itSeq x (xs.map enc)).n = xs.map f := List.take_of_length_le (by show _ ≤ (xs.map enc).length; rw [List.length_map, List.length_map]; exact Nat.le_refl _)
    rw [e]
    exact hd
theorem sq_same {M M' : Mp} {a : Addr} {c : D} (h : ∀ b, b ≠ a → M' b = M b) (hc : c ≠ .ref a) : sqOf M' c = sqOf M c := by
  cases c with
  | ref b =>
    have hb : b ≠ a := fun z => hc (by rw [z])
    show (match M' b with | some (.lst ds) => some ds | _ => none) = (match M b with | some (.lst ds) => some ds | _ => none)
    rw [h b hb]
  | _ => rfl
end DL

namespace DL
open PySem PySem.Spec PyProof.Rows L2
/-- a list, a few times, to be changed in place -/
def dMulM : R2D := fun x y M Q => match y with
  | .int k => match ltOf M x with
    | some xs => -(2 ^ 63) ≤ k ∧ k < 2 ^ 63 ∧ xs.length * k.toNat ≤ sizeLine ∧ ∀ p, M p = none → Q (.ref p) (updM M p (.lst (List.replicate k.toNat xs).flatten))
    | none => False
  | _ => False
/-- xs[i] op= e -/
def dAugS (to ti te : DE) (r : R2D) : DS := fun D τ M => to τ M fun o M1 => ti τ M1 fun i M2 => match o, i with
  | .ref a, .int k => match M2 a with
    | some (.lst xs) => match xs[k.toNat]? with
      | some x => 0 ≤ k ∧ te τ M2 fun y M3 => r x y M3 fun z M4 => dSetL (.ref a) (.int k) z M4 fun M5 => D.nx τ M5
      | none => False
    | _ => False
  | _, _ => False
section
variable {X : Cx} {F0 : Bs}
theorem od_mulM : OpD X F0 (binaryOp .Mult) dMulM := by
  intro pins s σ H x y v u Q I rx ry ⟨F, R, M, d, e, Q', e0, st, rd, re, q, k⟩
  unfold dMulM at q
  split at q
  · split at q
    · rename_i xs h1
      obtain ⟨a, vs, rfl, g1, ra⟩ := lt_get st rd h1
      cases re
      exact op_rep pins s σ H _ _ v u Q I rx ry ⟨a, _, vs, rfl, rfl, g1, q.1, q.2.1, by rw [ra.len]; exact q.2.2.1, fun p hp => k.own st hp (m := .lst _) (ra.reps _) (q.2.2.2 p)⟩
    · exact q.elim
  · exact q.elim
def liGet (K : PySem.W.Frag) : V → V → Hp → VK → Prop := fun x y H Q => ∃ p xs k v, x = .ref p ∧ y = .int k ∧ SqL K H p xs ∧ 0 ≤ k ∧ xs[k.toNat]? = some v ∧ Q v H
theorem pget_list : PGet X (liGet X.K) := by
  intro pins s σ H x y v u Q I rx ry h
  obtain ⟨p, xs, k, z, rfl, rfl, hq, h0, he, q⟩ := h
  cases rx
  obtain ⟨t, rfl⟩ := ry
  obtain ⟨its, r, pl, hz⟩ := I.list hq
  obtain ⟨w, ew, rw'⟩ := r.get he
  have hl := r.length
  have hn := line63
  have hj := (List.getElem?_eq_some_iff.mp he).1
  exact wpAny_getItem_list pl.isList h0 (by omega) (by simpa using ew) ⟨z, H, I, rw', q⟩
theorem sd_augS {o i e : Expr} {to ti te : DE} {op : Operator} {r : R2D} {tpos pos : Pos} (he : PE X e (liE X.K F0 te)) (ho : PE X o (liE X.K F0 to)) (hi : PE X i (liE X.K F0 ti)) (hp : OpD X F0 (inplaceOp op) r)
    (ha : ∀ ov iv new, augStore i ov iv new = (do holding [new, ov, iv] (setItem ov iv new); release [new, ov, iv] []; pure .next) := by intros; rfl) :
    PS X (.AugAssign (.Subscript o i tpos) op e pos) (liS X.K F0 (dAugS to ti te r)) := by
  refine psImp (ps_augS ho hi pget_list he (tip := liR X.K F0 r) hp (std_list (F0 := F0)) ha) fun D σ H ⟨F, R, τ, M, D', e0, st, sl, q, k⟩ => ?_
  refine ⟨F, R, τ, M, _, e0, st, sl, q, fun ov H1 F1 d1 M1 e1 st1 r1 q1 => ?_⟩
  refine ⟨F1, R, τ, M1, _, e0.trans e1, st1, sl.ext e1, q1, fun iv H2 F2 d2 M2 e2 st2 r2 q2 => ?_⟩
  split at q2 <;> try exact q2.elim
  rename_i a kx
  split at q2 <;> try exact q2.elim
  rename_i xs em
  split at q2 <;> try exact q2.elim
  rename_i x0 ex
  obtain ⟨k0, q2⟩ := q2
  have r1' := r1.ext e2
  cases r1'; cases r2
  obtain ⟨_, u, hu, ru⟩ := st2.ow _ _ em
  obtain ⟨vs, rfl, ra⟩ := ru.lst_iff
  obtain ⟨z, ez, rz⟩ := ra.getD ex
  refine ⟨a, vs, kx, z, rfl, rfl, .inl (.inl hu), k0, ez, ?_⟩
  refine ⟨F2, R, τ, M2, _, e0.trans (e1.trans e2), st2, sl.ext (e1.trans e2), q2, fun w H3 F3 d3 M3 e3 st3 r3 q3 => ?_⟩
  refine ⟨F3, R, M3, x0, d3, _, e0.trans (e1.trans (e2.trans e3)), st3, rz.ext e3, r3, q3, fun w2 H4 F4 d4 M4 e4 st4 r4 q4 => ?_⟩
  exact ⟨F4, R, M4, .ref a, .int kx, d4, _, e0.trans (e1.trans (e2.trans (e3.trans e4))), st4, .ref a, .int _, r4, q4, fun H5 F5 M5 e5 st5 q5 => k.nx _ _ _ _ _ (e1.trans (e2.trans (e3.trans (e4.trans e5)))) st5 (sl.ext (e1.trans (e2.trans (e3.trans (e4.trans e5))))) q5⟩
end
section
variable {te to ti : DE} {r : R2D} {τ : SD} {M : Mp} {Q : QD} {nx : SD → Mp → Prop} {rt : QD} {bk ct : SD → Mp → Prop}
theorem s_mulM {x : D} {xs : List D} {k : Int} (e : ltOf M x = some xs) (e1 : -(2 ^ 63) ≤ k) (e2 : k < 2 ^ 63) (e3 : xs.length * k.toNat ≤ sizeLine) (h : ∀ p, M p = none → Q (.ref p) (updM M p (.lst (List.replicate k.toNat xs).flatten))) : dMulM x (.int k) M Q := by
  unfold dMulM; simp only [e]; exact ⟨e1, e2, e3, h⟩
def kAs4 (nx : SD → Mp → Prop) (τ : SD) (a : Addr) (k : Int) : QD := fun z M4 => dSetL (.ref a) (.int k) z M4 fun M5 => nx τ M5
def kAs2 (te : DE) (r : R2D) (nx : SD → Mp → Prop) (τ : SD) (o : D) : QD := fun i M2 => match o, i with
  | .ref a, .int k => match M2 a with
    | some (.lst xs) => match xs[k.toNat]? with
      | some x => 0 ≤ k ∧ te τ M2 (kOp2 r (kAs4 nx τ a k) x)
      | none => False
    | _ => False
  | _, _ => False
def kAs1 (ti te : DE) (r : R2D) (nx : SD → Mp → Prop) (τ : SD) : QD := fun o M1 => ti τ M1 (kAs2 te r nx τ o)
theorem s_augS (h : to τ M (kAs1 ti te r nx τ)) : dAugS to ti te r ⟨nx, rt, bk, ct⟩ τ M := h
theorem s_kas1 {o : D} (h : ti τ M (kAs2 te r nx τ o)) : kAs1 ti te r nx τ o M := h
theorem s_kas2 {a : Addr} {k : Int} {xs : List D} {x : D} (e : M a = some (.lst xs)) (e2 : xs[k.toNat]? = some x) (k0 : 0 ≤ k) (h : te τ M (kOp2 r (kAs4 nx τ a k) x)) : kAs2 te r nx τ (.ref a) (.int k) M := by
  unfold kAs2; simp only [e, e2]; exact ⟨k0, h⟩
theorem s_kas4 {a : Addr} {k : Int} {xs : List D} {jn : Nat} {z : D} (e : M a = some (.lst xs)) (e2 : ixN xs.length k = some jn) (h : nx τ (updM M a (.lst (xs.set jn z)))) : kAs4 nx τ a k z M := by
  show dSetL _ _ _ _ _
  unfold dSetL; simp only [e, e2]; exact h
end
/-! ### a def whose list, told at its end, is never changed again -/
def rtF (Q : QD) : QD := fun d M' => ∃ (a : Addr) (ds : List D) (M2 : Mp), d = .ref a ∧ M' a = some (.lst ds) ∧ (∀ b m, M2 b = some m → M' b = some m) ∧ M2 a = none ∧ Q (.lst ds) M2
abbrev fnF (Q : QD) : EndsD := ⟨fun _ _ => False, rtF Q, fun _ _ => False, fun _ _ => False⟩
def RdsF (t : DS) (N : List Str) (sp : SpD) : Prop := ∀ ds M Q E, sp ds M Q E → t (fnF Q) (startD N ds) M
section
variable {P : Program} {w : World} {K : PySem.W.Frag} {mg : Str → Option Value} {base : Heap}
theorem Stt.frz {F R H : Hp} {M M2 : Mp} {a : Addr} {ds : List D} (st : Stt K F R H M) (e : M a = some (.lst ds)) (le : ∀ b m, M2 b = some m → M b = some m) (n : M2 a = none) : ∃ F2, Ext F F2 ∧ Stt K F2 R H M2 ∧ Rep K F2 (.ref a) (.lst ds) := by
  obtain ⟨fa, o, ho, ro⟩ := st.ow _ _ e
  obtain ⟨vs, rfl, ra⟩ := ro.lst_iff
  have ex : Ext F (upd F a (.lst vs)) := fun b u eb => by
    have : b ≠ a := fun z => by subst z; rw [fa] at eb; cases eb
    rw [upd_ne this]; exact eb
  refine ⟨upd F a (.lst vs), ex, ⟨fun b u eb => ?_, fun b u eb => ?_, fun b m eb => ?_, fun b u eb => ?_, st.nr⟩, .lst upd_same (ra.ext ex)⟩
  · by_cases z : b = a
    · subst z; rw [upd_same] at eb; cases eb; exact ho
    · rw [upd_ne z] at eb; exact st.fz b u eb
  · obtain ⟨h1, h2, h3⟩ := st.rs b u eb
    have z : b ≠ a := fun z => by subst z; rw [e] at h3; cases h3
    refine ⟨h1, by rw [upd_ne z]; exact h2, ?_⟩
    cases e2 : M2 b with
    | none => rfl
    | some m => rw [le b m e2] at h3; cases h3
  · have z : b ≠ a := fun z => by subst z; rw [n] at eb; cases eb
    obtain ⟨h1, o, h2, h3⟩ := st.ow b m (le b m eb)
    exact ⟨by rw [upd_ne z]; exact h1, o, h2, h3.ext ex⟩
  · by_cases z : b = a
    · subst z; rw [upd_same] at eb; cases eb; trivial
    · rw [upd_ne z] at eb; exact st.nf b u eb
theorem Fun.okF {x qual : Str} {st : Stmt} {f : Addr} {fd : FuncData} {N ps : List Str} {k : Nat} {sp : SpD} {T : List (Addr × Str)} (F : Fun K x qual st f fd) (S : FnScope N ps (defScope st)) (len : ∀ ds M Q E, sp ds M Q E → ds.length = ps.length) {t : DS}
    (hbody : ∀ (cdv : Value) (A : Around) (outer : List Env) (s : Shared) (H : Hp) (E : XK) (F0 R0 : Hp), Room k (A.deeper (envOfC qual (defScope st) s.heap.objs.size f cdv)) →
      PSs (cxOf CX0 P w K mg base N qual (defScope st) f cdv A outer s H E).nox (defBody st) (liS K ⟨F0, R0, T⟩ t))
    (hq : RdsF t N sp) : FnOk P w K mg base CX0 (k + 1) f fd ps (liSp K T sp) := by
  refine F.ok S (fun vs H Q E ⟨F, R, ds, M, Q', E', st, _, ra, h, _, _⟩ => by rw [ra.len]; exact len _ _ _ _ h) fun cdv A outer s H vs Q E hr ⟨F, R, ds, M, Q', E', st, tr, ra, h, kQ, kE⟩ => ?_
  refine ⟨_, hbody cdv A outer s H E F R hr, F, R, startD N ds, M, _, ⟨Ext.refl, Ext.refl, tr⟩, st, slots_start ra, hq ds M Q' E' h, ?_⟩
  refine ⟨fun σ2 H2 F2 τ2 M2 e2 st2 sl2 z => z.elim, fun v H2 F2 d M2 e2 st2 r2 ⟨a, ds, M3, ed, ea, le, na, q3⟩ => ?_, fun _ _ _ _ _ _ _ _ z => z, fun _ _ _ _ _ _ _ _ z => z⟩
  subst ed
  cases r2
  obtain ⟨F3, ex, st3, r3⟩ := st2.frz ea le na
  exact kQ _ _ _ _ _ (e2.trans ex) st3 r3 q3
end
theorem s_endF {Q : QD} {a : Addr} {ds : List D} {M M2 : Mp} (e : M a = some (.lst ds)) (le : ∀ b m, M2 b = some m → M b = some m) (n : M2 a = none) (h : Q (.lst ds) M2) : rtF Q (.ref a) M := ⟨a, ds, M2, rfl, e, le, n, h⟩
theorem reps_ints {K : PySem.W.Frag} {F : Hp} : ∀ ns : List Int, RepAll K F (ns.map V.int) (ns.map D.int)
  | [] => .nil
  | n :: ns => .cons (.int n) (reps_ints ns)
theorem cd_sorted {X : Cx} {F0 : Bs} : CallR X (.builtin "sorted") (liC X.K F0 dSorted) := by
  refine caImp cr_sortedI fun xs H Q ⟨F, R, M, ds, Q', e0, st, ra, q, k⟩ => ?_
  unfold dSorted at q
  split at q <;> try exact q.elim
  obtain ⟨x, rfl, r⟩ := rep1 ra
  split at q <;> try exact q.elim
  rename_i es h1
  split at q <;> try exact q.elim
  rename_i ns h2
  obtain ⟨a, vs, rfl, hs, rv⟩ := ls_get st r h1
  rw [ints_eq h2] at rv
  have ev := rv.ints
  subst ev
  exact ⟨a, ns, rfl, hs, fun ns' p hp hsrt hh => k.lst st hh (reps_ints ns') (q ns' hp hsrt)⟩
end DL

namespace DL
open PySem PySem.Spec PyProof.Rows L2
theorem _root_.L2.Room.unitsD {k : Nat} {A : Around} (r : Room k A) : A.units + 65 < cLine := by have := r.un; omega
/-- is True, is False -/
def dIsB : R2D := fun x y M Q => match x, y with
  | .bl a, .bl b => Q (.bl (decide (a = b))) M
  | _, _ => False
def dNotB : R2D := fun x y M Q => match x, y with
  | .bl a, .bl b => Q (.bl (!decide (a = b))) M
  | _, _ => False
/-- in, of data of any depth -/
def dInD (neg : Bool) : R2D := fun x y M Q => match (drf M x).py, (drf M y).py with
  | some p, some (.list qs) => SeqAt.shaped p = true ∧ SeqAt.shaped (.list qs) = true ∧ Q (.bl (if neg then !(qs.any fun z => PyData.eqv z p) else qs.any fun z => PyData.eqv z p)) M
  | _, _ => False
section
variable {X : Cx} {F0 : Bs}
theorem od_isB : OpD X F0 (compareOp .Is) dIsB := by
  refine opImp op_isBl fun x y H Q ⟨F, R, M, d, e, Q', e0, st, rd, re, q, k⟩ => ?_
  unfold dIsB at q
  split at q <;> try exact q.elim
  cases rd; cases re
  exact ⟨_, _, rfl, rfl, k _ _ _ _ _ Ext.refl st (.bl _) q⟩
theorem od_notB : OpD X F0 (compareOp .IsNot) dNotB := by
  refine opImp op_notBl fun x y H Q ⟨F, R, M, d, e, Q', e0, st, rd, re, q, k⟩ => ?_
  unfold dNotB at q
  split at q <;> try exact q.elim
  cases rd; cases re
  exact ⟨_, _, rfl, rfl, k _ _ _ _ _ Ext.refl st (.bl _) q⟩
theorem od_inD (hu : X.A.units + 65 < cLine) : OpD X F0 (compareOp .In) (dInD false) := by
  refine opImp (op_inD hu) fun x y H Q ⟨F, R, M, d, e, Q', e0, st, rd, re, q, k⟩ => ?_
  unfold dInD at q
  split at q <;> try exact q.elim
  rename_i p qs h1 h2
  exact ⟨p, qs, dp_drf st rd h1, dp_drf st re h2, q.1, q.2.1, k _ _ _ _ _ Ext.refl st (.bl _) q.2.2⟩
theorem od_notInD (hu : X.A.units + 65 < cLine) : OpD X F0 (compareOp .NotIn) (dInD true) := by
  refine opImp (op_notInD hu) fun x y H Q ⟨F, R, M, d, e, Q', e0, st, rd, re, q, k⟩ => ?_
  unfold dInD at q
  split at q <;> try exact q.elim
  rename_i p qs h1 h2
  exact ⟨p, qs, dp_drf st rd h1, dp_drf st re h2, q.1, q.2.1, k _ _ _ _ _ Ext.refl st (.bl _) q.2.2⟩
end
theorem s_isB {a b : Bool} {M : Mp} {Q : QD} (h : Q (.bl (decide (a = b))) M) : dIsB (.bl a) (.bl b) M Q := h
theorem s_notB {a b : Bool} {M : Mp} {Q : QD} (h : Q (.bl (!decide (a = b))) M) : dNotB (.bl a) (.bl b) M Q := h
theorem s_inD {neg : Bool} {x y : D} {M : Mp} {Q : QD} {p : PyData} {qs : List PyData} (e1 : (drf M x).py = some p) (e2 : (drf M y).py = some (.list qs)) (h1 : SeqAt.shaped p = true) (h2 : SeqAt.shaped (.list qs) = true) (h : Q (.bl (if neg then !(qs.any fun z => PyData.eqv z p) else qs.any fun z => PyData.eqv z p)) M) : dInD neg x y M Q := by
  unfold dInD; simp only [e1, e2]; exact ⟨h1, h2, h⟩
end DL

namespace DL
open PySem PySem.Spec PyProof.Rows L2 LamX NdefX
/-! g(e1, lambda ..: body, e3), g may raise -/
def dCallLX (C : Ct) (k : Nat) (js : List Nat) (n : Nat) (tb : DE) (sp : SpD) (E : XD) (t1 t3 : DE) : DE := fun τ M Q => t1 τ M fun d1 M1 => ∃ ws : List D, js.map (fun j => τ[j]?) = ws.map (fun d => some (some d)) ∧
  ∀ M2, MoreRaw M1 M2 → t3 τ M2 fun d3 M3 => M3 = M2 ∧ ∀ d Mf, MoreRaw M2 Mf → HasFn C k Mf d (spL tb n ws) → sp [d1, d, d3] Mf (fun r M4 => M4 = Mf ∧ Q r M1) (fun e fs M4 => M4 = Mf ∧ E e fs M1)
section
variable {X : Cx} {F0 : Bs} {kf kb : Nat} {g c P : Addr} {gfd : FuncData} {psg ps fr N : List Str} {gx q : Str} {sp : SpD} {t1 t3 tb : DE} {js : List Nat} {params : Arguments} {body e1 e3 : Expr} {scope : Scope} {p lpos pos : Pos}
theorem pd_callLX {E' : XD} {E : XK} (hE : ∀ e dx H, liX X.K F0 E' e dx H → E e dx H) (hx : Passes (L2.CX X.prog X.w) X E) (Fg : FnOk X.prog X.w X.K X.mg X.base (L2.CX X.prog X.w) kf g gfd psg (liSp X.K F0.T sp)) (hr : Room kf X.A) (hg : Gl X gx) (hm : X.mg gx = some (.ref g)) (hk : PySem.W.keepIn X.K (.ref g) = true) (hb : Binds X.K gfd psg [])
    (TB : TabB X.base X.mg c P) (hcode : X.env.code = .ref c) (hT : (P, q) ∈ F0.T) (hq : X.env.qual ++ "<lambda>" = q) (h1 : PE X e1 (liE X.K F0 t1)) (h3 : PE X e3 (liE X.K F0 t3))
    (hdef : defaultsOf params X.env = ([], [])) (hfn : ∀ x, X.fn x = true) (hsc : ndefB X.env.scope scope fr = true) (S : NScope N ps fr scope) (hN : N.length = ps.length + fr.length) (hjs : js.map (fun j => X.N[j]?) = fr.map some)
    (hbind : ∀ (cl : List (Str × Addr)) (pm cv ctv : Value) (us : List Value), us.length = ps.length → bindArgs (PySem.W.kla_fn "<lambda>" q params body scope cl pm cv ctv) ⟨us, []⟩ = pure (ps.zip us))
    (hbody : ∀ (f c' : Addr) (cl : List (Str × Addr)) (A : Around) (outer : List Env) (s : Shared) (H F0' R0' : Hp), Room kb (A.deeper (envF (lamF q params scope cl c') f s.heap.objs.size)) →
      PE (ncx CX0 X.prog X.w X.K X.mg X.base N (lamF q params scope cl c') f A outer s H E0).nox body (liE X.K ⟨F0', R0', F0.T⟩ tb))
    (hdb : (gx == ("__debug__" : Str)) = false := by decide) (he : starEach [e1, .Lambda params body scope lpos, e3] X.env = [(false, eval e1 X.env), (false, eval (.Lambda params body scope lpos) X.env), (false, eval e3 X.env)] := by rfl) (he1 : starEach [.Lambda params body scope lpos, e3] X.env = [(false, eval (.Lambda params body scope lpos) X.env), (false, eval e3 X.env)] := by rfl) :
    PE X (.Call (.Name gx p) [e1, .Lambda params body scope lpos, e3] [] pos) (liE X.K F0 (dCallLX (ctOf X F0) (kb + 1) js ps.length tb sp E' t1 t3)) := by
  refine ⟨fun pins s σ H Q I ⟨F, R, τ, M, Q', e0, st, sl, ht, kq⟩ => ?_⟩
  refine wpAny_Call_Name_kw (ld_glob I hg hm ?_ hdb)
  refine PySem.W.callWith_K (h₀ := X.base) I.ok.mod.kin hk ?_ (by rw [he, he1]) (by rw [he1]; rfl)
  rw [he]
  show wpAny _ _ (spliced [(false, eval e1 X.env), (false, eval (.Lambda params body scope lpos) X.env), (false, eval e3 X.env)]) _ _ s
  refine Calls.spliced_cons (thn (h1.run pins s σ H (fun v H1 => ∃ F1 d1 M1, Ext F F1 ∧ Stt X.K F1 R H1 M1 ∧ Rep X.K F1 v d1 ∧ ∃ ws : List D, js.map (fun j => τ[j]?) = ws.map (fun d => some (some d)) ∧
    ∀ M2, MoreRaw M1 M2 → t3 τ M2 fun d3 M3 => M3 = M2 ∧ ∀ d Mf, MoreRaw M2 Mf → HasFn (ctOf X F0) (kb + 1) Mf d (spL tb ps.length ws) → sp [d1, d, d3] Mf (fun r M4 => M4 = Mf ∧ Q' r M1) (fun e fs M4 => M4 = Mf ∧ E' e fs M1)) I
    ⟨F, R, τ, M, _, e0, st, sl, ht, fun v H2 F2 d M2 e2 st2 r2 q2 => ⟨F2, d, M2, e2, st2, r2, q2⟩⟩) fun u1 s1 ⟨v1, H1, I1, rl1, F1, d1, M1, ex1, st1, rp1, ws, hws, h2⟩ => ?_)
  have tbl1 : TabS H1 P q := by
    obtain ⟨⟨q', e, t⟩, _, _⟩ := st1.rs _ _ (e0.t _ hT)
    have : q = q' := by cases e; rfl
    rw [this]; exact t
  have nfr := ndef_free hsc
  have hfree : ∀ y ∈ scope.names, y.2 = .free → ∃ c, X.env.cells.lookup y.1 = some c := fun y hy e => (nfr y hy e).elim (fun z => I.ok.has _ (.inl z)) fun z => I.ok.has _ (.inr z)
  refine Calls.spliced_cons (lam_make3 I1 TB hcode hq tbl1 hdef hfree fun f c' pm ctv Ha sa Ia kp Ta nf fc fP hf hc => ?_)
  -- the function object and its code object are known
  let M2 : Mp := fun b => if b = f then some (.raw (PinO f (PySem.W.kla_obj "<lambda>" q params body scope (cloFrom X.env.cells scope.names []) pm c' ctv))) else if b = c' then some (.raw (CodeO c' q)) else M1 b
  have mP : R P = some (.xd [(q, .non)]) := e0.t _ hT
  have hP1 := st1.rs _ _ mP
  have ext_no : ∀ (F : Hp) a φ, F a = some (.ext φ) → (∀ a o, F a = some o → NX o) → False := fun F a φ e n => n a _ e
  have fF : F1 f = none := by
    cases e : F1 f with
    | none => rfl
    | some o => have := st1.fz _ _ e; rw [nf] at this; cases this
  have cF : ∀ o, F1 c' = some o → False := fun o e => by
    by_cases hcP : c' = P
    · subst hcP; rw [hP1.2.1] at e; cases e
    · have h1 := kp _ _ hcP (st1.fz _ _ e)
      rw [hc] at h1
      cases h1
      exact st1.nf _ _ e
  have M1f : M1 f = none := by
    cases e : M1 f with
    | none => rfl
    | some m => obtain ⟨_, o, ho, _⟩ := st1.ow _ _ e; rw [nf] at ho; cases ho
  have M2f : M2 f = some (.raw (PinO f (PySem.W.kla_obj "<lambda>" q params body scope (cloFrom X.env.cells scope.names []) pm c' ctv))) := if_pos rfl
  have M2c : M2 c' = some (.raw (CodeO c' q)) := (if_neg (Ne.symm fc)).trans (if_pos rfl)
  have M2s : ∀ b, b ≠ f → b ≠ c' → M2 b = M1 b := fun b h1 h2 => (if_neg h1).trans (if_neg h2)
  have M1c : ∀ m, M1 c' = some m → m = .raw (CodeO c' q) := fun m e => by
    have hcP : c' ≠ P := fun z => by subst z; rw [hP1.2.2] at e; cases e
    obtain ⟨_, o, ho, ro⟩ := st1.ow _ _ e
    have h1 := kp _ _ hcP ho
    rw [hc] at h1
    cases h1
    unfold CodeO at ro ⊢
    cases m with
    | raw u => have : _ = u := ro; rw [this]
    | _ => exact ro.elim
  have more1 : MoreRaw M1 M2 := ⟨fun a m e => by
    by_cases ha : a = f
    · subst ha; rw [M1f] at e; cases e
    by_cases hc2 : a = c'
    · subst hc2; rw [M2c, M1c m e]
    · rw [M2s a ha hc2]; exact e, fun a m e => by
    by_cases ha : a = f
    · subst ha; rw [M2f] at e; cases e; exact .inr ⟨_, rfl⟩
    by_cases hc2 : a = c'
    · subst hc2; rw [M2c] at e; cases e; exact .inr ⟨_, rfl⟩
    · rw [M2s a ha hc2] at e; exact .inl e⟩
  have sta : Stt X.K F1 R Ha M2 := by
    refine ⟨fun a o e => kp _ _ (fun z => by subst z; rw [hP1.2.1] at e; cases e) (st1.fz a o e), fun a o e => ?_, fun a m e => ?_, st1.nf, st1.nr⟩
    · obtain ⟨g1, g2, g3⟩ := st1.rs a o e
      have af : a ≠ f := fun z => by subst z; exact g1.there nf
      by_cases haP : a = P
      · subst haP
        rw [mP] at e
        cases e
        refine ⟨⟨q, rfl, Ta⟩, g2, ?_⟩
        have ac : a ≠ c' := fun z => by
          obtain ⟨ps', z1, _⟩ := Ta
          rw [z, hc] at z1
          exact codeO_ne ps' (Option.some.inj z1)
        rw [M2s a af ac]; exact g3
      · have ga : RsOk Ha a o := by
          refine g1.step (x := P) (fun b u n eb => kp b u n eb) haP fun q' z => ?_
          obtain ⟨⟨q2, _, ps', z1, _⟩, _⟩ := hP1
          rw [z] at z1
          exact codeO_ne ps' (Option.some.inj z1)
        have ac : a ≠ c' := fun z => by
          subst z
          have nx := st1.nr a o e
          cases o with
          | xd fs =>
            obtain ⟨q2, _, ps', z1, _⟩ := ga
            rw [hc] at z1
            exact codeO_ne ps' (Option.some.inj z1)
          | ext φ => exact nx
          | _ =>
            have ga : Ha a = some _ := ga
            rw [hc] at ga
            unfold CodeO at ga
            cases ga
        exact ⟨ga, g2, by rw [M2s a af ac]; exact g3⟩
    · by_cases haf : a = f
      · subst haf
        rw [M2f] at e
        cases e
        exact ⟨fF, _, hf, (show RepO X.K F1 (PinO _ _) (.raw (PinO _ _)) from rfl)⟩
      by_cases hac : a = c'
      · subst hac
        rw [M2c] at e
        cases e
        refine ⟨?_, _, hc, (show RepO X.K F1 (CodeO _ _) (.raw (CodeO _ _)) from rfl)⟩
        cases ef : F1 a with
        | none => rfl
        | some o => exact (cF o ef).elim
      · rw [M2s a haf hac] at e
        obtain ⟨g1, o, g2, g3⟩ := st1.ow a m e
        exact ⟨g1, o, kp _ _ (fun z => by subst z; rw [hP1.2.2] at e; cases e) g2, g3⟩
  refine Calls.spliced_cons (thn (h3.run pins sa σ Ha (fun v H3 => ∃ F3 d3, Ext F1 F3 ∧ Stt X.K F3 R H3 M2 ∧ Rep X.K F3 v d3 ∧ ∀ d Mf, MoreRaw M2 Mf → HasFn (ctOf X F0) (kb + 1) Mf d (spL tb ps.length ws) → sp [d1, d, d3] Mf (fun r M4 => M4 = Mf ∧ Q' r M1) (fun e fs M4 => M4 = Mf ∧ E' e fs M1)) Ia
    ⟨F1, R, τ, M2, _, e0.trans ex1, sta, sl.ext ex1, h2 M2 more1, fun v H2 F2 d M3 e2 st2 r2 ⟨q1, q2⟩ => by subst q1; exact ⟨F2, d, e2, st2, r2, q2⟩⟩) fun u3 s3 ⟨v3, H3, I3, rl3, F3, d3, ex3, st3, rp3, hsp⟩ => ?_)
  refine Calls.spliced_nil ⟨I3.kIn, ?_⟩
  -- the captured cells
  obtain ⟨wv, hwv, rw_⟩ := caps_get (sl.ext (ex1.trans ex3)) hws
  have cp : Caps X (cloFrom X.env.cells scope.names []) fr js := Caps.made I3.ok nfr (ndef_fr hsc) hjs
  have CA := cells_of I3 cp
  rw [hwv] at CA
  let cl := cloFrom X.env.cells scope.names []
  let cs : List Addr := cl.map (·.2)
  let ob : Addr → Obj := fun b => (s3.heap.get? b).getD default
  have clm : ∀ y b, (y, b) ∈ cl → X.env.cells.lookup y = some b := fun y b hm => by
    rcases cloFrom_mem hm with z | ⟨z1, z2⟩
    · cases z
    · obtain ⟨c1, hc1⟩ := hfree _ z1 rfl
      have hc1 : X.env.cells.lookup y = some c1 := hc1
      rw [z2, hc1]; rfl
  have csm : ∀ b ∈ cs, ∃ y, X.env.cells.lookup y = some b := fun b hb => by
    obtain ⟨⟨y, b'⟩, hm, rfl⟩ := List.mem_map.mp hb
    exact ⟨y, clm y b' hm⟩
  have cn3 : ∀ b ∈ cs, H3 b = none := fun b hb => by
    obtain ⟨y, hy⟩ := csm b hb
    exact I3.freeC y b hy
  have cob : ∀ b ∈ cs, s3.heap.get? b = some (ob b) ∧ ∃ v, (ob b).data = .cell v := fun b hb => by
    obtain ⟨y, hy⟩ := csm b hb
    obtain ⟨v, o, ho, hd⟩ := I3.cell y b hy
    have : ob b = o := by show (s3.heap.get? b).getD default = o; rw [ho]; rfl
    rw [this]
    exact ⟨ho, v, hd⟩
  have cab : ∀ b ∈ cs, X.s_0.heap.objs.size ≤ b := fun b hb => by
    obtain ⟨y, hy⟩ := csm b hb
    exact I3.ok.cab y b (hfn y) hy
  have cfr : ∀ b ∈ cs, b ∉ frs X.stack := fun b hb z => by
    obtain ⟨y, hy⟩ := csm b hb
    rcases List.mem_cons.mp (I3.stkSub b z) with e | e
    · exact I3.cne y b hy e
    · obtain ⟨_, o, ho, _⟩ := I3.ok.funs.mem e
      exact absurd (Nat.lt_of_lt_of_le (Heap.lt_size ho) (cab b hb)) (Nat.lt_irrefl _)
  let H' : Hp := fun b => if b ∈ cs then some (PinO b (ob b)) else H3 b
  let Mf : Mp := fun b => if b ∈ cs then some (.raw (PinO b (ob b))) else M2 b
  have H'n : ∀ b, b ∈ cs → H' b = some (PinO b (ob b)) := fun b h => if_pos h
  have H's : ∀ b, b ∉ cs → H' b = H3 b := fun b h => if_neg h
  have Mfn : ∀ b, b ∈ cs → Mf b = some (.raw (PinO b (ob b))) := fun b h => if_pos h
  have Mfs : ∀ b, b ∉ cs → Mf b = M2 b := fun b h => if_neg h
  have inH : ∀ b u, H3 b = some u → b ∉ cs ∧ H' b = some u := fun b u e => by
    have : b ∉ cs := fun z => by rw [cn3 b z] at e; cases e
    exact ⟨this, by rw [H's b this]; exact e⟩
  have M2n : ∀ b, b ∈ cs → M2 b = none := fun b hb => by
    cases e : M2 b with
    | none => rfl
    | some m => obtain ⟨_, o, ho, _⟩ := st3.ow _ _ e; rw [cn3 b hb] at ho; cases ho
  have F3n : ∀ b, b ∈ cs → F3 b = none := fun b hb => by
    cases e : F3 b with
    | none => rfl
    | some o => have := st3.fz _ _ e; rw [cn3 b hb] at this; cases this
  have more2 : MoreRaw M2 Mf := ⟨fun a m e => by
    have : a ∉ cs := fun z => by rw [M2n a z] at e; cases e
    rw [Mfs a this]; exact e, fun a m e => by
    by_cases ha : a ∈ cs
    · rw [Mfn a ha] at e; cases e; exact .inr ⟨_, rfl⟩
    · rw [Mfs a ha] at e; exact .inl e⟩
  have env3 := I3.env0
  have hok' : HOk X.prog X.w H' s3.heap := fun b u e => by
    by_cases hb : b ∈ cs
    · rw [H'n b hb] at e; cases e; exact pinO_ok (cob b hb).1
    · rw [H's b hb] at e
      exact (I3.hok b u e).stay (fun c v _ z => z) (fun c z => (inH c _ z).2) fun c xs z => (inH c _ z).2
  have env' : Env0 X.prog X.w X.K X.mg X.base X.A X.stack s3 H' := ⟨env3.frames, env3.mod, fun b o e => ⟨(env3.bs b o e).1, by
    have : b ∉ cs := fun z => absurd (Nat.lt_of_lt_of_le (Heap.lt_size e) (Nat.le_trans I3.ok.bsz (cab b z))) (Nat.lt_irrefl _)
    rw [H's b this]; exact (env3.bs b o e).2⟩, env3.bsz, env3.funs, fun b hb => by
    have : b ∉ cs := fun z => cfr b z hb
    rw [H's b this]; exact env3.frf b hb, hok', env3.bare⟩
  have st' : Stt X.K F3 R H' Mf := by
    refine ⟨fun a o e => (inH _ _ (st3.fz a o e)).2, fun a o e => ?_, fun a m e => ?_, st3.nf, st3.nr⟩
    · obtain ⟨g1, g2, g3⟩ := st3.rs a o e
      have ha : a ∉ cs := fun z => g1.there (cn3 a z)
      exact ⟨g1.imp (fun u eu => (inH _ _ eu).2) fun c q ec => (inH _ _ ec).2, g2, by rw [Mfs a ha]; exact g3⟩
    · by_cases ha : a ∈ cs
      · rw [Mfn a ha] at e
        cases e
        exact ⟨F3n a ha, _, H'n a ha, (show RepO X.K F3 (PinO _ _) (.raw (PinO _ _)) from rfl)⟩
      · rw [Mfs a ha] at e
        obtain ⟨g1, o, g2, g3⟩ := st3.ow a m e
        exact ⟨g1, o, (inH _ _ g2).2, g3⟩
  have Mff : Mf f = some (.raw (PinO f (PySem.W.kla_obj "<lambda>" q params body scope cl pm c' ctv))) := more2.1 _ _ M2f
  have Mfc : Mf c' = some (.raw (CodeO c' q)) := more2.1 _ _ M2c
  have has : HasFn (ctOf X F0) (kb + 1) Mf (.fn f F3) (spL tb ps.length ws) := by
    refine ⟨(f, PinO f (PySem.W.kla_obj "<lambda>" q params body scope cl pm c' ctv)) :: (c', CodeO c' q) :: cs.map fun c => (c, PinO c (ob c)), ⟨_, _, _, _, .inl List.mem_cons_self⟩, fun p hp => ?_, ?_⟩
    · rcases List.mem_cons.mp hp with rfl | hp
      · exact Mff
      rcases List.mem_cons.mp hp with rfl | hp
      · exact Mfc
      · obtain ⟨b, hb, rfl⟩ := List.mem_map.mp hp
        exact Mfn b hb
    · refine lam_sem (C := ctOf X F0) (wv := wv) S hN (fun us hl => hbind _ _ _ _ us hl) (fun A outer s H F0' R0' hr => hbody f c' cl A outer s H F0' R0' hr) (fun y b e => List.mem_map.mpr ⟨(y, b), PySem.mem_of_lookup e, rfl⟩) (fun b hb => (cob b hb).2) CA.inj (fun i y e => ?_) ?_ rw_
      · obtain ⟨b, hb1, hb2⟩ := CA.has i y e
        refine ⟨b, hb1, fun v ev => ?_⟩
        obtain ⟨u, ru, o, ho, hd⟩ := hb2 v (by rw [List.getElem?_map, ev]; rfl)
        refine ⟨u, ru, ?_⟩
        have : ob b = o := by show (s3.heap.get? b).getD default = o; rw [ho]; rfl
        rw [this]; exact hd
      · have := CA.len
        rwa [List.length_map] at this
  have hcall := hsp (.fn f F3) Mf more2 has
  have rl : Vals [v1, .ref f, v3] [u1, .ref f, u3] := .cons rl1 (.cons rfl (.cons rl3 .nil))
  have rp : RepAll X.K F3 [v1, .ref f, v3] [d1, .fn f F3, d3] := .cons (rp1.ext ex3) (.cons (.fn Ext.refl) (.cons rp3 .nil))
  have spv : liSp X.K F0.T sp [v1, .ref f, v3] H' (fun v H4 => ∃ F4 r, Ext F3 F4 ∧ Stt X.K F4 R H4 Mf ∧ Rep X.K F4 v r ∧ Q' r M1) (fun e dx H4 => ∃ F4 fs, Ext F3 F4 ∧ Stt X.K F4 R H4 Mf ∧ RepX X.K F4 H4 dx fs ∧ E' e fs M1) :=
    ⟨F3, R, _, Mf, _, _, st', e0.t, rp, hcall, fun v H4 F4 r M4 e4 st4 r4 ⟨z1, z2⟩ => by subst z1; exact ⟨F4, r, e4, st4, r4, z2⟩, fun e dx H4 F4 fs M4 e4 st4 rx ⟨z1, z2⟩ => by subst z1; exact ⟨F4, fs, e4, st4, rx, z2⟩⟩
  have hl3 : [u1, Value.ref f, u3].length = psg.length := by
    rw [← rl.length]; exact Fg.len _ _ _ _ spv
  have hbind3 := hb s3 [u1, .ref f, u3] I3.kIn (by rw [List.append_nil]; exact hl3)
  rw [List.append_nil] at hbind3
  refine wpAny_call (codeAny_mono (Fg.run X.A X.stack s3 H' ⟨[u1, .ref f, u3], []⟩ _ _ _ _ hr env' hbind3 rl spv) fun r s' hq => ?_)
  cases r with
  | error e =>
      obtain ⟨a0, B, H4, cls, dd, rfl, fl, hok4, ub, na, os4, ag, F4, fs, ex4, st4, rx4, q4⟩ := hq
      have obk : ∀ b ∈ cs, H4 b = some (PinO b (ob b)) ∧ B.get? b = some (ob b) := fun b hb => by
        obtain ⟨_, o, ho, ro⟩ := st4.ow _ _ (Mfn b hb)
        have : o = PinO b (ob b) := ro.raw
        subst this
        exact ⟨ho, pinO_at hok4 ho⟩
      let H5 : Hp := fun b => if b ∈ cs then none else H4 b
      have H5n : ∀ b, b ∈ cs → H5 b = none := fun b h => if_pos h
      have H5s : ∀ b, b ∉ cs → H5 b = H4 b := fun b h => if_neg h
      have keepNX : ∀ b u, H4 b = some u → NX u → H5 b = some u := fun b u e n => by
        have : b ∉ cs := fun z => by rw [(obk b z).1] at e; cases e; exact n
        rw [H5s b this]; exact e
      have un5 : UB (frs X.stack) H3 H5 s3.heap B s'.heap := by
        refine ⟨fun b o e n hf => ?_, ub.slot, fun b o e n => ?_, ub.there, fun b xs e => keepNX _ _ (ub.tups b xs (inH _ _ e).2) trivial, fun b o u e => keepNX _ _ (ub.frzs b o u (inH _ _ e).2) trivial, fun b ps e => ?_⟩
        · by_cases hb : b ∈ cs
          · rw [(cob b hb).1] at e; cases e; exact (obk b hb).2
          · exact ub.keep b o e (by rw [H's b hb]; exact n) hf
        · by_cases hb : b ∈ cs
          · exact H5n b hb
          · rw [H5s b hb]; exact ub.free b o e (by rw [H's b hb]; exact n)
        · obtain ⟨more, z⟩ := ub.tbls b ps (inH _ _ e).2
          exact ⟨more, keepNX _ _ z trivial⟩
      have hok5 : HOk X.prog X.w H5 B := fun b u e => by
        by_cases hb : b ∈ cs
        · rw [H5n b hb] at e; cases e
        · rw [H5s b hb] at e
          exact (hok4 b u e).stay (fun c v _ z => z) (fun c z => keepNX _ _ z trivial) fun c xs z => keepNX _ _ z trivial
      have st5 : Stt X.K F4 R H5 M1 := by
        refine ⟨fun a o e => keepNX _ _ (st4.fz a o e) (st4.nf a o e), fun a o e => ?_, fun a m e => ?_, st4.nf, st4.nr⟩
        · obtain ⟨g1, g2, g3⟩ := st4.rs a o e
          have ha : a ∉ cs := fun z => by rw [Mfn a z] at g3; cases g3
          refine ⟨g1.imp (fun u eu => by rw [H5s a ha]; exact eu) (fun b q' eb => ?_), g2, ?_⟩
          · by_cases hb : b ∈ cs
            · obtain ⟨v', hv'⟩ := (cob b hb).2
              exact (cell_code hok4 eb (obk b hb).2 hv').elim
            · rw [H5s b hb]; exact eb
          · cases em : M1 a with
            | none => rfl
            | some m =>
              have := (more1.trans more2).1 a m em
              rw [g3] at this; cases this
        · obtain ⟨g1, o, g2, g3⟩ := st4.ow a m ((more1.trans more2).1 a m e)
          have ha : a ∉ cs := fun z => by
            have := M2n a z
            rw [more1.1 a m e] at this; cases this
          exact ⟨g1, o, by rw [H5s a ha]; exact g2, g3⟩
      have na5 : H5 a0 = none := by
        by_cases hb : a0 ∈ cs
        · exact H5n a0 hb
        · rw [H5s a0 hb]; exact na
      have rx5 : RepX X.K F4 H5 dd fs := by
        cases dd with
        | none => cases fs <;> exact rx4
        | some x =>
          cases fs with
          | none => exact rx4
          | some fs =>
            obtain ⟨vs, h1, h2⟩ := rx4
            exact ⟨vs, keepNX _ _ h1 trivial, h2⟩
      exact hx pins σ H3 s3 _ s' I3 ⟨a0, B, H5, cls, dd, rfl, fl, hok5, un5, na5, os4, ag, hE _ _ _ ⟨F4, R, M1, fs, e0.trans (ex1.trans (ex3.trans ex4)), st5, rx5, q4⟩⟩
  | ok fl =>
    cases fl with
    | next => exact False.elim hq
    | brk => exact False.elim hq
    | cont => exact False.elim hq
    | ret u =>
      obtain ⟨v, H4, os4, bare4, un, hok4, rv, F4, r, ex4, st4, rp4, q4⟩ := hq
      -- the cells are the frame's own again
      have obk : ∀ b ∈ cs, H4 b = some (PinO b (ob b)) ∧ s'.heap.get? b = some (ob b) := fun b hb => by
        obtain ⟨_, o, ho, ro⟩ := st4.ow _ _ (Mfn b hb)
        have : o = PinO b (ob b) := ro.raw
        subst this
        exact ⟨ho, pinO_at hok4 ho⟩
      let H5 : Hp := fun b => if b ∈ cs then none else H4 b
      have H5n : ∀ b, b ∈ cs → H5 b = none := fun b h => if_pos h
      have H5s : ∀ b, b ∉ cs → H5 b = H4 b := fun b h => if_neg h
      have keepNX : ∀ b u, H4 b = some u → NX u → H5 b = some u := fun b u e n => by
        have : b ∉ cs := fun z => by rw [(obk b z).1] at e; cases e; exact n
        rw [H5s b this]; exact e
      have un5 : Un (frs X.stack) [] H3 H5 s3.heap s'.heap := by
        refine ⟨fun b o e n hf hx => ?_, fun b o e n hf hx => ?_, fun b o e n hx => ?_, fun b o e hx => un.there b o e hx, fun b xs e => keepNX _ _ (un.tups b xs (inH _ _ e).2) trivial, fun b o u e => keepNX _ _ (un.frzs b o u (inH _ _ e).2) trivial, fun b ps e => ?_⟩
        · by_cases hb : b ∈ cs
          · rw [(cob b hb).1] at e; cases e; exact (obk b hb).2
          · exact un.keep b o e (by rw [H's b hb]; exact n) hf hx
        · by_cases hb : b ∈ cs
          · exact absurd hf (cfr b hb)
          · exact un.slot b o e (by rw [H's b hb]; exact n) hf hx
        · by_cases hb : b ∈ cs
          · exact H5n b hb
          · rw [H5s b hb]; exact un.free b o e (by rw [H's b hb]; exact n) hx
        · obtain ⟨more, z⟩ := un.tbls b ps (inH _ _ e).2
          exact ⟨more, keepNX _ _ z trivial⟩
      have hok5 : HOk X.prog X.w H5 s'.heap := fun b u e => by
        by_cases hb : b ∈ cs
        · rw [H5n b hb] at e; cases e
        · rw [H5s b hb] at e
          exact (hok4 b u e).stay (fun c v _ z => z) (fun c z => keepNX _ _ z trivial) fun c xs z => keepNX _ _ z trivial
      have st5 : Stt X.K F4 R H5 M1 := by
        refine ⟨fun a o e => keepNX _ _ (st4.fz a o e) (st4.nf a o e), fun a o e => ?_, fun a m e => ?_, st4.nf, st4.nr⟩
        · obtain ⟨g1, g2, g3⟩ := st4.rs a o e
          have ha : a ∉ cs := fun z => by rw [Mfn a z] at g3; cases g3
          refine ⟨g1.imp (fun u eu => by rw [H5s a ha]; exact eu) (fun b q' eb => ?_), g2, ?_⟩
          · by_cases hb : b ∈ cs
            · obtain ⟨v', hv'⟩ := (cob b hb).2
              exact (cell_code hok4 eb (obk b hb).2 hv').elim
            · rw [H5s b hb]; exact eb
          · cases em : M1 a with
            | none => rfl
            | some m =>
              have := (more1.trans more2).1 a m em
              rw [g3] at this; cases this
        · obtain ⟨g1, o, g2, g3⟩ := st4.ow a m ((more1.trans more2).1 a m e)
          have ha : a ∉ cs := fun z => by
            have := M2n a z
            rw [more1.1 a m e] at this; cases this
          exact ⟨g1, o, by rw [H5s a ha]; exact g2, g3⟩
      exact I3.after ⟨v, H5, os4, bare4, un5, hok5, rv, kq v H5 F4 r M1 (ex1.trans (ex3.trans ex4)) st5 rp4 q4⟩
end
section
variable {P : Program} {w : World} {K : PySem.W.Frag} {mg : Str → Option Value} {base : Heap}
/-- a def with lambdas that may raise -/
theorem FunC.okXD {x qual : Str} {st : Stmt} {f c : Addr} {fd : FuncData} {N ps : List Str} {k : Nat} {sp : SpD} {T : List (Addr × Str)} (F : FunC K x qual st f fd c) (S : FnScope N ps (defScope st)) (len : ∀ ds M Q E, sp ds M Q E → ds.length = ps.length) {t : XD → DS}
    (hbody : ∀ (A : Around) (outer : List Env) (s : Shared) (H : Hp) (E : XK) (F0 R0 : Hp) (E' : XD), Room k (A.deeper (envOfC qual (defScope st) s.heap.objs.size f (.ref c))) → (∀ e dx H, liX K ⟨F0, R0, T⟩ E' e dx H → E e dx H) → Takes (cxOf (L2.CX P w) P w K mg base N qual (defScope st) f (.ref c) A outer s H E) (fun cls d _ H => E cls d H) →
      PSs (cxOf (L2.CX P w) P w K mg base N qual (defScope st) f (.ref c) A outer s H E) (defBody st) (liS K ⟨F0, R0, T⟩ (t E')))
    (hq : RdsX t N sp) : FnOk P w K mg base (L2.CX P w) (k + 1) f fd ps (liSp K T sp) := by
  obtain ⟨oc, od, kV, doc, pm, an, ct, osl, rfl, lk, hcd⟩ := F.ex
  refine fn_of lk hcd S (fun vs H Q E ⟨F, R, ds, M, Q', E', st, _, ra, h, _, _⟩ => by rw [ra.len]; exact len _ _ _ _ h) fun A outer s H vs Q E hr ⟨F, R, ds, M, Q', E', st, tr, ra, h, kQ, kE⟩ => ?_
  refine ⟨_, hbody A outer s H E F R E' hr (fun e dx H2 ⟨F2, R2, M2, fs, b2, st2, rx, q2⟩ => kE e dx H2 F2 fs M2 b2.f (st2.lessR b2.r) rx q2) (takes_of rfl rfl rfl rfl), F, R, startD N ds, M, _, ⟨Ext.refl, Ext.refl, tr⟩, st, slots_start ra, hq ds M Q' E' h, ?_⟩
  refine ⟨fun σ2 H2 F2 τ2 M2 e2 st2 sl2 ⟨M3, h3, q3⟩ => kQ _ _ _ _ _ e2 (st2.less h3) .non q3, fun v H2 F2 d M2 e2 st2 r2 ⟨M3, h3, q3⟩ => kQ _ _ _ _ _ e2 (st2.less h3) r2 q3, fun _ _ _ _ _ _ _ _ z => z, fun _ _ _ _ _ _ _ _ z => z⟩
end
/-! what an error leaves behind may be forgotten -/
def rtX (E : XD) : XD := fun e fs M' => ∃ M2 : Mp, (∀ a m, M2 a = some m → M' a = some m) ∧ E e fs M2
theorem s_endX {E : XD} {e : Value} {fs : Option (List (Str × D))} {M M2 : Mp} (h : ∀ a m, M2 a = some m → M a = some m) (q : E e fs M2) : rtX E e fs M := ⟨M2, h, q⟩
def RdsE (t : XD → DS) (N : List Str) (sp : SpD) : Prop := ∀ ds M Q E, sp ds M Q E → t (rtX E) (fnE Q) (startD N ds) M
section
variable {P : Program} {w : World} {K : PySem.W.Frag} {mg : Str → Option Value} {base : Heap}
theorem liX_rt {F0 : Bs} {E' : XD} {e : Value} {dx : Option Addr} {H : Hp} (h : liX K F0 (rtX E') e dx H) : liX K F0 E' e dx H := by
  obtain ⟨F, R, M, fs, b, st, rx, M2, le, q⟩ := h
  exact ⟨F, R, M2, fs, b, st.less le, rx, q⟩
theorem Fun.okXE {x qual : Str} {st : Stmt} {f : Addr} {fd : FuncData} {N ps : List Str} {k : Nat} {sp : SpD} {T : List (Addr × Str)} (F : Fun K x qual st f fd) (S : FnScope N ps (defScope st)) (len : ∀ ds M Q E, sp ds M Q E → ds.length = ps.length) {t : XD → DS}
    (hbody : ∀ (cdv : Value) (A : Around) (outer : List Env) (s : Shared) (H : Hp) (E : XK) (F0 R0 : Hp) (E' : XD), Room k (A.deeper (envOfC qual (defScope st) s.heap.objs.size f cdv)) → (∀ e dx H, liX K ⟨F0, R0, T⟩ E' e dx H → E e dx H) → Takes (cxOf (L2.CX P w) P w K mg base N qual (defScope st) f cdv A outer s H E) (fun cls d _ H => E cls d H) →
      PSs (cxOf (L2.CX P w) P w K mg base N qual (defScope st) f cdv A outer s H E) (defBody st) (liS K ⟨F0, R0, T⟩ (t E')))
    (hq : RdsE t N sp) : FnOk P w K mg base (L2.CX P w) (k + 1) f fd ps (liSp K T sp) :=
  Fun.okXD F S len (t := fun E => t (rtX E)) (fun cdv A outer s H E F0 R0 E' hr hE tk => hbody cdv A outer s H E F0 R0 (rtX E') hr (fun e dx H h => hE _ _ _ (liX_rt h)) tk) hq
theorem FunC.okXE {x qual : Str} {st : Stmt} {f c : Addr} {fd : FuncData} {N ps : List Str} {k : Nat} {sp : SpD} {T : List (Addr × Str)} (F : FunC K x qual st f fd c) (S : FnScope N ps (defScope st)) (len : ∀ ds M Q E, sp ds M Q E → ds.length = ps.length) {t : XD → DS}
    (hbody : ∀ (A : Around) (outer : List Env) (s : Shared) (H : Hp) (E : XK) (F0 R0 : Hp) (E' : XD), Room k (A.deeper (envOfC qual (defScope st) s.heap.objs.size f (.ref c))) → (∀ e dx H, liX K ⟨F0, R0, T⟩ E' e dx H → E e dx H) → Takes (cxOf (L2.CX P w) P w K mg base N qual (defScope st) f (.ref c) A outer s H E) (fun cls d _ H => E cls d H) →
      PSs (cxOf (L2.CX P w) P w K mg base N qual (defScope st) f (.ref c) A outer s H E) (defBody st) (liS K ⟨F0, R0, T⟩ (t E')))
    (hq : RdsE t N sp) : FnOk P w K mg base (L2.CX P w) (k + 1) f fd ps (liSp K T sp) :=
  FunC.okXD F S len (t := fun E => t (rtX E)) (fun A outer s H E F0 R0 E' hr hE tk => hbody A outer s H E F0 R0 (rtX E') hr (fun e dx H h => hE _ _ _ (liX_rt h)) tk) hq
end
section
variable {t1 t3 tb : DE} {τ : SD} {M : Mp} {Q : QD} {C : Ct} {k n : Nat} {js : List Nat} {sp : SpD} {E : XD} {d : D}
def kCallLX (C : Ct) (k : Nat) (js : List Nat) (n : Nat) (tb : DE) (sp : SpD) (E : XD) (t3 : DE) (τ : SD) (Q : QD) : QD := fun d1 M1 => ∃ ws : List D, js.map (fun j => τ[j]?) = ws.map (fun d => some (some d)) ∧
  ∀ M2, MoreRaw M1 M2 → t3 τ M2 fun d3 M3 => M3 = M2 ∧ ∀ d Mf, MoreRaw M2 Mf → HasFn C k Mf d (spL tb n ws) → sp [d1, d, d3] Mf (fun r M4 => M4 = Mf ∧ Q r M1) (fun e fs M4 => M4 = Mf ∧ E e fs M1)
theorem s_callLX (h : t1 τ M (kCallLX C k js n tb sp E t3 τ Q)) : dCallLX C k js n tb sp E t1 t3 τ M Q := h
def kCallLX3 (C : Ct) (k n : Nat) (tb : DE) (sp : SpD) (E : XD) (ws : List D) (d1 : D) (M1 M2 : Mp) (Q : QD) : QD := fun d3 M3 => M3 = M2 ∧ ∀ d Mf, MoreRaw M2 Mf → HasFn C k Mf d (spL tb n ws) → sp [d1, d, d3] Mf (fun r M4 => M4 = Mf ∧ Q r M1) (fun e fs M4 => M4 = Mf ∧ E e fs M1)
theorem s_kcallLX (ws : List D) (e : js.map (fun j => τ[j]?) = ws.map (fun d => some (some d))) (h : ∀ M2, MoreRaw M M2 → t3 τ M2 (kCallLX3 C k n tb sp E ws d M M2 Q)) : kCallLX C k js n tb sp E t3 τ Q d M := ⟨ws, e, h⟩
theorem s_kcallLX3 {ws : List D} {d1 d3 : D} {M1 : Mp} (h : ∀ d Mf, MoreRaw M Mf → HasFn C k Mf d (spL tb n ws) → sp [d1, d, d3] Mf (fun r M4 => M4 = Mf ∧ Q r M1) (fun e fs M4 => M4 = Mf ∧ E e fs M1)) : kCallLX3 C k n tb sp E ws d1 M1 M Q d3 M := ⟨rfl, h⟩
end
end DL

namespace DL
open PySem PySem.Spec PyProof.Rows L2
/-! the steps by name -/
local macro_rules | `(tactic| walk_at "set") => `(tactic| ((try simp only [setAll, updM_updM, Int.reduceToNat, List.set_cons_zero, List.set_cons_succ]); exact rfl))
local macro_rules | `(tactic| walk_at "sq") => `(tactic| first | exact rfl | exact sqOf_ref (by assumption) | exact sqOf_ref updM_same)
local macro_rules | `(tactic| walk_at "ls") => `(tactic| first | exact rfl | exact lsOf_ref (by assumption) | exact lsOf_ref updM_same)
local macro_rules | `(tactic| walk_at "s") => `(tactic| first
  | with_reducible refine s_seq ?_
  | with_reducible refine s_op ?_
  | ((with_reducible refine' s_var ?e ?_); (case e => exact rfl))
  | with_reducible refine s_kop1 ?_
  | with_reducible refine s_c ?_
  | with_reducible refine s_kop2 ?_
  | with_reducible refine s_ifS ?_
  | with_reducible refine s_test ?_
  | with_reducible refine s_kb ?_
  | with_reducible refine s_set ?_
  | ((with_reducible refine' s_kset ?e ?_); (case e => walk_at "set"))
  | with_reducible refine s_next ?_
  | with_reducible refine s_ret ?_
  | with_reducible refine s_cons ?_
  | with_reducible refine s_kcons1 ?_
  | with_reducible refine s_kcons2 ?_
  | with_reducible refine s_nil ?_
  | with_reducible refine s_cb ?_
  | with_reducible refine s_kcb ?_
  | with_reducible refine s_call ?_
  | with_reducible refine s_kcall ?_
  | with_reducible refine s_I0 ?_
  | with_reducible refine s_B0 ?_
  | with_reducible refine s_add ?_
  | ((with_reducible refine' s_eqS ?e ?_); (case e => exact rfl))
  | ((with_reducible refine' s_neS ?e ?_); (case e => exact rfl))
  | with_reducible refine s_isN ?_
  | with_reducible refine s_notN ?_
  | ((with_reducible refine' s_ix ?e ?e2 ?_); (case e => walk_at "sq"); (case e2 => exact rfl))
  | ((with_reducible refine' s_len ?e ?_); (case e => walk_at "sq"))
  | with_reducible refine s_tup ?_
  | ((with_reducible refine' s_ktup ?e ?_); (case e => (simp only [List.length_cons, List.length_nil]; decide)))
  | with_reducible refine s_lst ?_
  | ((with_reducible refine' s_klst ?e ?_); (case e => (simp only [List.length_cons, List.length_nil]; decide)))
  | with_reducible refine s_lstM ?_
  | ((with_reducible refine' s_klstM ?e ?_); (case e => (simp only [List.length_cons, List.length_nil]; decide)))
  | with_reducible refine s_truth ?_
  | with_reducible refine s_tru_bl ?_
  | with_reducible refine s_tru_non ?_
  | with_reducible refine s_tru_int ?_
  | with_reducible refine s_tru_tup ?_
  | with_reducible refine s_tru_lst ?_
  | with_reducible refine s_tand ?_
  | with_reducible refine s_tor ?_
  | with_reducible refine s_tnot ?_
  | with_reducible refine s_ktnot_t ?_
  | with_reducible refine s_ktnot_f ?_
  | with_reducible refine s_ktnot ?_
  | with_reducible refine s_or ?_
  | with_reducible refine s_and ?_
  | with_reducible refine s_not ?_
  | with_reducible refine s_korv ?_
  | with_reducible refine s_kandv ?_
  | with_reducible refine s_knot_t ?_
  | with_reducible refine s_knot_f ?_
  | with_reducible refine s_knot ?_
  | with_reducible refine s_ifE ?_
  | with_reducible refine s_unp ?_
  | ((with_reducible refine' s_kunp ?e ?e2 ?_); (case e => exact rfl); (case e2 => walk_at "set"))
  | with_reducible refine s_store ?_
  | with_reducible refine s_kst1 ?_
  | with_reducible refine s_kst2 ?_
  | ((with_reducible refine' s_kst3 ?e ?e2 ?e3 ?_); (case e => first | assumption | exact updM_same); (case e2 => exact rfl); (case e3 => walk_at "set"))
  | with_reducible refine s_un ?_
  | with_reducible refine s_kun ?_
  | with_reducible refine s_neg ?_
  | with_reducible refine s_int ?_
  | with_reducible refine s_intB ?_
  | ((with_reducible refine' s_tuple ?e ?_); (case e => walk_at "sq"))
  | ((with_reducible refine' s_list ?e ?_); (case e => walk_at "sq"))
  | ((with_reducible refine' s_isi ?e ?e2 ?e3 ?_); (case e => decide); (case e2 => exact rfl); (case e3 => first | exact (show isiN _ _ = true by decide) | exact (show isiN _ _ = false by decide)))
  | with_reducible refine s_chain ?_
  | with_reducible refine s_kch0 ?_
  | with_reducible refine s_kch1 ?_
  | with_reducible refine s_kch3 ?_
  | with_reducible refine s_sl ?_
  | with_reducible refine s_ksl0 ?_
  | with_reducible refine s_ksl1 ?_
  | with_reducible refine s_ksl2T ?_
  | with_reducible refine s_ksl2L ?_
  | with_reducible refine s_ksl2K ?_
  | with_reducible refine s_nopart ?_
  | with_reducible refine s_part ?_
  | with_reducible refine s_kpart ?_
  | with_reducible refine s_drop ?_
  | with_reducible refine s_kdrop ?_
  | with_reducible refine s_retN ?_
  | with_reducible refine s_mtL ?_
  | ((with_reducible refine' s_kmtL ?e ?_); (case e => first | exact isLst_ref (by assumption) | exact isLst_ref updM_same))
  | with_reducible refine s_kmt ?_
  | with_reducible refine s_mt0 ?_
  | with_reducible refine s_kmt0 ?_
  | with_reducible refine s_lc ?_
  | with_reducible refine s_for ?_
  | with_reducible refine s_seqI ?_
  | ((with_reducible refine' s_kseq ?e ?_); (case e => walk_at "sq"))
  | with_reducible refine s_rng1 ?_
  | with_reducible refine s_rng2 ?_
  | with_reducible refine s_rngA ?_
  | with_reducible refine s_kra ?_
  | with_reducible refine s_max2 ?_
  | with_reducible refine s_min2 ?_
  | with_reducible refine s_wh_t ?_
  | with_reducible refine s_wh_f ?_
  | with_reducible refine s_par ?_
  | ((with_reducible refine' s_kpar ?e ?_); (case e => exact rfl))
  | with_reducible refine s_break ?_
  | with_reducible refine s_cont ?_
  | ((with_reducible refine' s_aug ?e ?_); (case e => exact rfl))
  | with_reducible refine b_true ?_
  | with_reducible refine b_false ?_
  | with_reducible refine s_ktand_t ?_
  | with_reducible refine s_ktand_f ?_
  | with_reducible refine s_ktor_t ?_
  | with_reducible refine s_ktor_f ?_
  | with_reducible refine s_kor_t ?_
  | with_reducible refine s_kor_f ?_
  | with_reducible refine s_kand_t ?_
  | with_reducible refine s_kand_f ?_)
/-! a branch -/
local macro_rules | `(tactic| walk_at "b") => `(tactic| first
  | ((with_reducible_and_instances refine b_dec ?bt ?bf) <;> intro hc)
  | ((with_reducible_and_instances refine b_ndec ?bt ?bf) <;> intro hc)
  | ((with_reducible_and_instances refine s_wh_d ?bt ?bf) <;> intro hc)
  | ((with_reducible_and_instances refine s_wh_nd ?bt ?bf) <;> intro hc)
  | ((with_reducible_and_instances refine s_ktand_d ?bt ?bf) <;> intro hc)
  | ((with_reducible_and_instances refine s_ktor_d ?bt ?bf) <;> intro hc)
  | ((with_reducible_and_instances refine s_ktand_nd ?bt ?bf) <;> intro hc)
  | ((with_reducible_and_instances refine s_ktor_nd ?bt ?bf) <;> intro hc)
  | ((with_reducible_and_instances refine s_kand_d ?bt ?bf) <;> intro hc)
  | ((with_reducible_and_instances refine s_kor_d ?bt ?bf) <;> intro hc)
  | ((with_reducible_and_instances refine s_kifE_d ?bt ?bf) <;> intro hc)
  | ((with_reducible_and_instances refine s_kch2 ?bt ?bf) <;> intro hc))
local macro_rules | `(tactic| walk_at "g") => `(tactic| (repeat' (first | walk_at "s" | walk_at "b")))
local macro_rules | `(tactic| walk_at "w") => `(tactic| (walk_at "g" <;> repeat' (simp only [D.isN, Bool.not_true, Bool.not_false]; walk_at "g")))

structure StOk (M : Mp) (a : Addr) : Prop where
  ex : ∃ (ns : List Int) (i c k : Int) (b : Bool), M a = some (.lst [.lst (ns.map .int), .int i, .int c, .int k, .bl b]) ∧ 0 ≤ i
structure Drawn (M : Mp) (a : Addr) (M' : Mp) : Prop where
  ok : StOk M' a
  same : ∀ b, b ≠ a → M' b = M b
theorem Drawn.trans {M M1 M2 : Mp} {a : Addr} (h : Drawn M a M1) (g : Drawn M1 a M2) : Drawn M a M2 := ⟨g.ok, fun b hb => (g.same b hb).trans (h.same b hb)⟩
theorem Drawn.of {M : Mp} {a : Addr} {ns : List Int} {i c k : Int} {b : Bool} (hi : 0 ≤ i) : Drawn M a (updM M a (.lst [.lst (ns.map .int), .int i, .int c, .int k, .bl b])) := ⟨⟨_, _, _, _, _, updM_same, hi⟩, fun _ h => updM_ne h⟩
def sp_law_draw : SpD := fun ds M Q _ => ∃ a lim, ds = [.ref a, .int lim] ∧ 0 < lim ∧ lim < 2 ^ 64 ∧ StOk M a ∧ ∀ d M', 0 ≤ d → d < lim → Drawn M a M' → Q (.int d) M'
def sp_law_state : SpD := fun ds M Q _ => ∃ ns : List Int, ds = [.lsk (ns.map .int)] ∧ ns.length ≤ 63 ∧ ∀ a M', M a = none → StOk M' a → (∀ b, b ≠ a → M' b = M b) → Q (.ref a) M'

/-! ### forms, the plain part -/
def encO : Option Int → D
  | none => .non
  | some i => .int i
def encP (p : Option Int × Int) : D := .tup [encO p.1, .int p.2]
structure Frm where
  head : List (Option Int)
  tail : List (Option Int × Int)
def Frm.enc (f : Frm) : D := .tup [.tup (f.head.map encO), .tup (f.tail.map encP)]
def tailVal (p : Option Int × Int) (k : Int) : Option Int := p.1.map fun v => v + p.2 * k
/-- the value at x -/
def Frm.val (f : Frm) (x : Int) : Option Int :=
  if x < 0 then none else if x < f.head.length then f.head.getD x.toNat none
  else tailVal (f.tail.getD ((x - f.head.length) % f.tail.length).toNat (none, 0)) ((x - f.head.length) / f.tail.length)
/-- its numbers are below 2 ^ n in size -/
def Frm.bd (f : Frm) (n : Nat) : Prop := ∀ p ∈ f.tail, p.2.natAbs < 2 ^ n
theorem encO_isN (v : Option Int) : (encO v).isN = v.isNone := by cases v <;> rfl
abbrev k_MAX_HEAD : D := .int 4000
abbrev k_MAX_PERIOD : D := .int 1000
def sp_value_at : SpD := fun ds M Q _ => ∃ (f : Frm) (x : Int) (n m : Nat), ds = [f.enc, .int x] ∧ 0 < f.tail.length ∧ f.tail.length ≤ 1000000 ∧ f.bd n ∧ x.natAbs < 2 ^ m ∧ 0 < n ∧ 0 < m ∧ n + m ≤ 1000000 ∧ f.head.length < 2 ^ m ∧ Q (encO (f.val x)) M

/-! ### the law's own -/
def small (i : Int) : Prop := i.natAbs < 2 ^ 100
def smallO (v : Option Int) : Prop := ∀ i, v = some i → small i
def smallP (p : Option Int × Int) : Prop := smallO p.1 ∧ small p.2 ∧ (p.1 = none → p.2 = 0)
structure GoodF (f : Frm) (heads size : Nat) : Prop where
  hl : f.head.length ≤ heads
  t0 : 0 < f.tail.length
  tl : f.tail.length ≤ size
  sm : ∀ p ∈ f.tail, smallP p
def Dr (a : Addr) (M : Mp) (d : D) (Q : QD) : Prop := ∀ M', Drawn M a M' → Q d M'
def sp_law_number : SpD := fun ds M Q _ => ∃ a, ds = [.ref a] ∧ StOk M a ∧ ∀ i M', small i → Drawn M a M' → Q (.int i) M'
def sp_law_far : SpD := fun ds M Q _ => ∃ a, ds = [.ref a] ∧ StOk M a ∧ ∀ i M', 0 ≤ i → i < 2 ^ 190 → Drawn M a M' → Q (.int i) M'
def sp_law_member : SpD := fun ds M Q _ => ∃ a, ds = [.ref a] ∧ StOk M a ∧ ∀ v M', smallO v → Drawn M a M' → Q (encO v) M'
def sp_law_pair : SpD := fun ds M Q _ => ∃ a k, ds = [.ref a, .int k] ∧ 0 ≤ k ∧ k < 10 ∧ StOk M a ∧ ∀ p M', smallP p → Drawn M a M' → Q (encP p) M'
def sp_law_form : SpD := fun ds M Q _ => ∃ (a : Addr) (heads size : Int) (kinds : List Int), ds = [.ref a, .int heads, .int size, .lst (kinds.map .int)] ∧ 0 ≤ heads ∧ heads < 1000 ∧ 0 < size ∧ size < 1000 ∧ 0 < kinds.length ∧ kinds.length < 100 ∧ (∀ k ∈ kinds, 0 ≤ k ∧ k < 10) ∧ StOk M a ∧
  ∀ f M', GoodF f heads.toNat size.toNat → (∀ v ∈ f.head, smallO v) → Drawn M a M' → Q f.enc M'
def sp_law_value : SpD := sp_value_at

/-! ### tails and normal forms, the plain part -/
def bdO (n : Nat) (v : Option Int) : Prop := ∀ i, v = some i → i.natAbs < 2 ^ n
def bdP (n : Nat) (p : Option Int × Int) : Prop := bdO n p.1 ∧ p.2.natAbs < 2 ^ n ∧ (p.1 = none → p.2 = 0)
abbrev Tl := List (Option Int × Int)
structure TOk (t : Tl) (n : Nat) : Prop where
  t0 : 0 < t.length
  tl : t.length ≤ 100000
  th : ∀ p ∈ t, bdP n p
  n0 : 0 < n
structure FOk (f : Frm) (n : Nat) : Prop where
  tk : TOk f.tail n
  hl : f.head.length ≤ 100000
  hd : ∀ v ∈ f.head, bdO n v
def tailAt (t : Tl) (k : Int) : Option Int × Int := t.getD (k % t.length).toNat (none, 0)
def tv (t : Tl) (k : Int) : Option Int := tailVal (tailAt t k) (k / t.length)
def ts (t : Tl) (k : Int) : Int := (tailAt t k).2
/-- q places on: the line goes on -/
def Lk (t : Tl) (q : Int) (k : Int) : Prop := (tv t k = none ∧ tv t (k + q) = none) ∨ ∃ a b, tv t k = some a ∧ tv t (k + q) = some b ∧ ts t k = ts t (k + q) ∧ (b - a) * t.length = ts t k * q
def HP (t : Tl) (q : Nat) : Prop := ∀ k : Int, 0 ≤ k → k < t.length → Lk t q k
def shrunk (t : Tl) (q : Nat) : Tl := (t.take q).map fun p => (p.1, p.2 * q / t.length)
def nrm (t : Tl) (head : List (Option Int)) (l : Nat) : Frm := ⟨head.take l, (List.range t.length).map fun i : Nat => (tv t ((i : Int) - ((head.length : Int) - l)), ts t ((i : Int) - ((head.length : Int) - l)))⟩
def sp_has_period : SpD := fun ds M Q _ => ∃ (t : Tl) (n q : Nat), ds = [.tup (t.map encP), .int q] ∧ TOk t n ∧ 0 < q ∧ q < t.length ∧ ∀ b, (b = true ↔ HP t q) → Q (.bl b) M
def sp_shortest_tail : SpD := fun ds M Q _ => ∃ (t : Tl) (n : Nat), ds = [.tup (t.map encP)] ∧ TOk t n ∧ ∀ t' : Tl, TOk t' (n + 20) → (∀ k, 0 ≤ k → tv t' k = tv t k) → t'.length ∣ t.length → (∀ q, 0 < q → q < t'.length → q ∣ t.length → ¬ HP t q) → Q (.tup (t'.map encP)) M
def sp_continued : SpD := fun ds M Q _ => ∃ (t : Tl) (n : Nat) (k : Int), ds = [.tup (t.map encP), .int k] ∧ TOk t n ∧ k.natAbs ≤ 200000 ∧ Q (encP (tv t k, ts t k)) M
/-- no shorter tail and no shorter head could replace it -/
structure IsNorm (f : Frm) : Prop where
  mn : ∀ q : Nat, 0 < q → q < f.tail.length → q ∣ f.tail.length → ¬ HP f.tail q
  hd : 0 < f.head.length → f.head.getD (f.head.length - 1) none ≠ tv f.tail (-1)
def sp_normal : SpD := fun ds M Q _ => ∃ (f : Frm) (n : Nat), ds = [f.enc] ∧ FOk f n ∧ ∀ g : Frm, FOk g (n + 40) → g.head.length ≤ f.head.length → g.tail.length ≤ f.tail.length → (∀ x, g.val x = f.val x) → IsNorm g → Q g.enc M

/-! ### another form of the same function; multiples -/
def sp_law_stretched : SpD := fun ds M Q _ => ∃ (a : Addr) (f : Frm) (n : Nat), ds = [.ref a, f.enc] ∧ StOk M a ∧ FOk f n ∧ n ≤ 1000 ∧ f.head.length ≤ 10000 ∧ f.tail.length ≤ 10000 ∧ ∀ (g : Frm) M', FOk g (n + 40) → g.head.length ≤ f.head.length + 3 → g.tail.length ≤ 3 * f.tail.length → (∀ x, g.val x = f.val x) → Drawn M a M' → Q g.enc M'
def timesO (k : Int) (v : Option Int) : Option Int := v.map (· * k)
def timesF (k : Int) (f : Frm) : Frm := ⟨f.head.map (timesO k), f.tail.map fun p => (timesO k p.1, p.2 * k)⟩
def sp_multiplied : SpD := fun ds M Q _ => ∃ (v : Option Int) (k : Int) (n : Nat), ds = [encO v, .int k] ∧ bdO n v ∧ 0 < n ∧ n ≤ 800000 ∧ k.natAbs < 2 ^ 100 ∧ Q (encO (timesO k v)) M
def sp_times : SpD := fun ds M Q _ => ∃ (f : Frm) (n : Nat) (k : Int), ds = [f.enc, .int k] ∧ k.natAbs < 2 ^ 100 ∧ FOk f n ∧ n ≤ 800000 ∧ ∀ g : Frm, FOk g (n + 140) → g.head.length ≤ f.head.length → g.tail.length ≤ f.tail.length → (∀ x, g.val x = timesO k (f.val x)) → IsNorm g → Q g.enc M

abbrev k_ITSELF : D := .tup [.tup [], .tup [.tup [.int 0, .int 1]]]
abbrev k_NOTHING : D := .tup [.tup [], .tup [.tup [.non, .int 0]]]
def sp_law_int : SpD := fun ds M Q _ => ∃ i : Int, ds = [.int i] ∧ Q (.bl true) M
def sp_law_is_form : SpD := fun ds M Q _ => ∃ f : Frm, ds = [f.enc] ∧ 0 < f.tail.length ∧ (∀ p ∈ f.tail, p.1 = none → p.2 = 0) ∧ Q (.bl true) M
def sp_law_is_even : SpD := fun ds M Q _ => ∃ (f : Frm) (n s : Nat), ds = [f.enc, .int s] ∧ FOk f n ∧ n ≤ 2000 ∧ 0 < s ∧ s ∣ f.tail.length ∧ ∀ b, (b = true → HP f.tail s) → Q (.bl b) M
def sp_law_is_normal : SpD := fun ds M Q _ => ∃ (f : Frm) (n : Nat), ds = [f.enc] ∧ FOk f n ∧ n ≤ 2000 ∧ IsNorm f ∧ Q (.bl true) M

/-! ### assembling a form from its lines -/
def spT (v : Int → Option Int) (P : Int → Prop) : SpD := fun ds M Q _ => ∃ x, ds = [.int x] ∧ P x ∧ Q (encO (v x)) M
def sp_first_of_class : SpD := fun ds M Q _ => ∃ r l p : Int, ds = [.int r, .int l, .int p] ∧ 0 < p ∧ Q (.int (l + (r - l) % p)) M
structure LineR (v : Int → Option Int) (p start x s : Int) : Prop where
  x0 : 0 ≤ x
  cls : ∃ j : Int, 0 ≤ j ∧ start = x + p * j
  run : ∀ j : Int, 0 ≤ j → x + p * j ≤ start → v (x + p * j) = (v x).map (· + s * j)
  stop : x < p ∨ v (x - p) ≠ (v x).map (· - s)
  s1 : ∀ a b, v start = some a → v (start + p) = some b → s = b - a
  s0 : v start = none → s = 0
def sp_line (C : Ct) : SpD := fun ds M Q _ => ∃ (p start : Int) (d : D) (v : Int → Option Int) (P : Int → Prop), ds = [.int p, d, .int start] ∧ 0 < p ∧ 0 ≤ start ∧ HasFn C 10 M d (spT v P) ∧ (∀ x, 0 ≤ x → x ≤ start + p → P x) ∧ (v start ≠ none → v (start + p) ≠ none) ∧
  ∀ x s, LineR v p start x s → Q (.tup [.int x, encO (v x), .int s]) M
/-- each class goes on evenly from its own start; how long the head is, is not known -/
structure AsmX (C : Ct) (M : Mp) (p : Nat) (d : D) (starts : List Int) (v : Int → Option Int) (P : Int → Prop) (B : Int) (n : Nat) : Prop where
  p0 : 0 < p
  pl : p ≤ 100000
  fn : HasFn C 10 M d (spT v P)
  len : starts.length = p
  st : ∀ (r : Nat) (s : Int), starts[r]? = some s → 0 ≤ s ∧ s % p = r ∧ s ≤ B
  P : ∀ x, 0 ≤ x → x ≤ B + p → P x
  lin : ∀ s ∈ starts, ∃ sl : Int, ∀ m, 0 ≤ m → v (s + p * m) = (v s).map (· + sl * m)
  bd : ∀ x, 0 ≤ x → x ≤ B + p → bdO n (v x)
  n0 : 0 < n
/-- no form of v has a head of up to 4000 members -/
def NoForm (v : Int → Option Int) : Prop := ∀ g : Frm, 0 < g.tail.length → (∀ x, 0 ≤ x → g.val x = v x) → 4000 < g.head.length
def sp_assemble (C : Ct) : SpD := fun ds M Q E => ∃ (p : Nat) (d st : D) (starts : List Int) (v : Int → Option Int) (P : Int → Prop) (B : Int) (n : Nat), ds = [.int p, d, st] ∧ sqOf M st = some (starts.map .int) ∧ AsmX C M p d starts v P B n ∧
  (∀ g : Frm, FOk g (n + 41) → IsNorm g → g.head.length ≤ 4000 → (g.head.length : Int) ≤ B → g.tail.length ≤ p → (∀ x, 0 ≤ x → g.val x = v x) → Q g.enc M) ∧ (NoForm v → E (exV C "TooLarge") none M)

/-! ### working periods that may be too great -/
def startsD (L : Int) (p : Nat) : List Int := (List.range p).map fun i : Nat => L + ((i : Int) - L) % p
def sp_check_period (C : Ct) : SpD := fun ds M Q E => ∃ p : Int, ds = [.int p] ∧ (p ≤ 1000 → Q .non M) ∧ (1000 < p → E (exV C "TooLarge") none M)

def sp_own_starts : SpD := fun ds M Q _ => ∃ (f : Frm) (p : Nat), ds = [f.enc, .int p] ∧ 0 < p ∧ p ≤ 100000 ∧ Q (.lst ((startsD f.head.length p).map .int)) M
/-- the classes that the period must suit -/
def RdC (rising : Bool) (p : Option Int × Int) : Prop := p.1 ≠ none ∧ (p.2 > 0 ∨ rising = false)
/-- m rounds suit -/
def RdM (f : Frm) (unit factor : Int) (rising : Bool) (m : Nat) : Prop := ∀ p ∈ f.tail, RdC rising p → unit ∣ p.2 * factor * m
/-- m rounds suit, and no fewer -/
structure RdL (f : Frm) (unit factor : Int) (rising : Bool) (m : Nat) : Prop where
  m0 : 0 < m
  ok : RdM f unit factor rising m
  mn : ∀ m', RdM f unit factor rising m' → m ∣ m'
def sp_round_period (C : Ct) : SpD := fun ds M Q E => ∃ (f : Frm) (n u : Nat) (c : Int) (r : Bool), ds = [f.enc, .int u, .int c, .bl r] ∧ FOk f n ∧ 0 < u ∧ u ≤ 10000000 ∧ c.natAbs ≤ 1000000000 ∧
  ∀ m, RdL f u c r m → (m * f.tail.length ≤ 1000 → Q (.int ((m * f.tail.length : Nat) : Int)) M) ∧ (1000 < m * f.tail.length → E (exV C "TooLarge") none M)

def lnD : Option (Int × Int) → D
  | none => .non
  | some p => .tup [.int p.1, .int p.2]
def sp_line_at : SpD := fun ds M Q _ => ∃ (f : Frm) (n : Nat) (x p i : Int), ds = [f.enc, .int x, .int p] ∧ FOk f n ∧ n ≤ 1000 ∧ 0 ≤ i ∧ p = f.tail.length * i ∧ f.head.length ≤ x ∧ x.natAbs < 2 ^ 40 ∧ p.natAbs < 2 ^ 40 ∧ Q (lnD ((f.val x).map fun a => (a, ts f.tail (x - f.head.length) * i))) M

/-! ### what is due -/
structure Rule (F U L : Int) : Prop where
  f0 : 1 ≤ F
  f1 : F ≤ 10
  u0 : 1 ≤ U
  u1 : U ≤ 1000
  l0 : 0 ≤ L
  l1 : L ≤ 100000
def encR (F U L : Int) : D := .tup [.int F, .int U, .int L]
def dueV (F U L m : Int) : Int := if m ≤ 0 then 0 else if U * -((-F * m) / U) > L then U * -((-F * m) / U) else L
def dueO (F U L paid : Int) (v : Option Int) : Option Int := v.map fun a => dueV F U L (a - paid)
def trgD (F L : Int) : Int := if -(-L / F) > 1 then -(-L / F) else 1
def setD (F L m s : Int) : Int := if s < 0 then (if -(-m / -s) > 0 then -(-m / -s) else 0) else (if -((m - trgD F L) / s) > 0 then -((m - trgD F L) / s) else 0)
def sp_due_of : SpD := fun ds M Q _ => ∃ F U L m : Int, ds = [encR F U L, .int m] ∧ Rule F U L ∧ Q (.int (dueV F U L m)) M
def sp_due_value : SpD := fun ds M Q _ => ∃ (F U L paid : Int) (v : Option Int), ds = [encR F U L, encO v, .int paid] ∧ Rule F U L ∧ Q (encO (dueO F U L paid v)) M
def sp_settled_due : SpD := fun ds M Q _ => ∃ F U L m s : Int, ds = [encR F U L, .int m, .int s] ∧ Rule F U L ∧ s ≠ 0 ∧ s.natAbs < 2 ^ 2000 ∧ Q (.int (setD F L m s)) M
def sp_due_form (C : Ct) : SpD := fun ds M Q E => ∃ (F U L paid : Int) (f : Frm) (N : Nat), ds = [encR F U L, f.enc, .int paid] ∧ Rule F U L ∧ FOk f N ∧ N ≤ 900 ∧ paid.natAbs < 2 ^ 200 ∧
  ∀ g : Frm, FOk g (N + 40) → IsNorm g → g.head.length ≤ f.head.length → (∀ x, g.val x = f.val x) → ∀ m, RdL g U F true m →
    (1000 < m * g.tail.length → E (exV C "TooLarge") none M) ∧
    (m * g.tail.length ≤ 1000 → (∀ h : Frm, FOk h (2 * N + 500) → IsNorm h → h.head.length ≤ 4000 → h.tail.length ≤ m * g.tail.length → (∀ x, 0 ≤ x → h.val x = dueO F U L paid (f.val x)) → Q h.enc M) ∧
      (NoForm (fun x => dueO F U L paid (f.val x)) → E (exV C "TooLarge") none M))

def sp_law_common : SpD := fun ds M Q _ => ∃ (a b : Nat), ds = [.int a, .int b] ∧ Q (.int (Nat.gcd a b : Nat)) M

/-! ### what is due for all weights -/
def sp_law_rule : SpD := fun ds M Q _ => ∃ a, ds = [.ref a] ∧ StOk M a ∧ ∀ F U L M', Rule F U L → Drawn M a M' → Q (encR F U L) M'
def sp_law_due : SpD := fun ds M Q _ => ∃ (F U L : Int) (m : Option Int), ds = [encR F U L, encO m] ∧ Rule F U L ∧ Q (encO (m.map (dueV F U L))) M
def sp_law_is : SpD := fun ds M Q _ => ∃ i : Int, ds = [.int i, .int i] ∧ Q (.bl true) M
def sp_law_amounts_hold : SpD := fun ds M Q _ => ∃ (a : Addr) (F U L : Int), ds = [.ref a, encR F U L] ∧ Rule F U L ∧ StOk M a ∧ ∀ M', Drawn M a M' → Q (.bl true) M'
def sp_law_period : SpD := fun ds M Q _ => ∃ (F U L : Int) (f : Frm), ds = [encR F U L, f.enc] ∧ Rule F U L ∧ 0 < f.tail.length ∧ f.tail.length ≤ 1000 ∧ ∀ m, RdL f U F true m → Q (.int ((m * f.tail.length : Nat) : Int)) M
def sp_law_less : SpD := fun ds M Q _ => ∃ (f : Frm) (n : Nat) (x paid : Int), ds = [f.enc, .int x, .int paid] ∧ FOk f n ∧ n ≤ 2000 ∧ x.natAbs < 2 ^ 200 ∧ Q (encO ((f.val x).map (· - paid))) M
structure LowF (f : Frm) : Prop where
  hl : f.head.length ≤ 6
  t0 : 0 < f.tail.length
  tl : f.tail.length ≤ 3
  hd : ∀ v ∈ f.head, ∀ a, v = some a → 0 ≤ a ∧ a < 60
  pr : ∀ p ∈ f.tail, (p.1 = none → p.2 = 0) ∧ -3 ≤ p.2 ∧ p.2 ≤ 4 ∧ ∀ v, p.1 = some v → -10 ≤ v ∧ v < 80
def sp_law_low : SpD := fun ds M Q _ => ∃ a, ds = [.ref a] ∧ StOk M a ∧ ∀ f M', LowF f → Drawn M a M' → Q f.enc M'
def sp_law_forms_hold : SpD := fun ds M Q _ => ∃ (a : Addr) (F U L : Int), ds = [.ref a, encR F U L] ∧ Rule F U L ∧ StOk M a ∧ ∀ M', Drawn M a M' → Q (.bl true) M'
/-- what the law is told of a due form -/
def TellR (F U L paid : Int) (f : Frm) (N : Nat) (r : D) : Prop := ∃ (g : Frm) (m : Nat), FOk g (N + 40) ∧ IsNorm g ∧ g.head.length ≤ f.head.length ∧ (∀ x, g.val x = f.val x) ∧ RdL g U F true m ∧
  ((r = .tup [.str "large", .non] ∧ (m * g.tail.length ≤ 1000 → NoForm fun x => dueO F U L paid (f.val x))) ∨
   (∃ h : Frm, r = .tup [.str "told", h.enc] ∧ m * g.tail.length ≤ 1000 ∧ FOk h (2 * N + 500) ∧ IsNorm h ∧ h.head.length ≤ 4000 ∧ h.tail.length ≤ m * g.tail.length ∧ ∀ x, 0 ≤ x → h.val x = dueO F U L paid (f.val x)))
def sp_law_told (C : Ct) : SpD := fun ds M Q _ => ∃ (F U L paid : Int) (f : Frm) (N : Nat), ds = [encR F U L, f.enc, .int paid] ∧ Rule F U L ∧ FOk f N ∧ N ≤ 900 ∧ paid.natAbs < 2 ^ 200 ∧ ∀ r, TellR F U L paid f N r → Q r M
def sp_law_bounds_hold : SpD := fun ds M Q _ => ∃ a, ds = [.ref a] ∧ StOk M a ∧ ∀ M', Drawn M a M' → Q (.bl true) M'
abbrev sp_law : SpD := spLawD

def t_value_at : DS :=
    (dSeq (dUnp [2, 3] (dVar 0))
    (dSeq (dIfS (dTest (dOp dLt (dVar 1) (dC (.int 0)))) (dRet (dC .non)) dNext)
    (dSeq (dIfS (dTest (dOp dLt (dVar 1) (dCB dLen (dCons (dVar 2) dNil)))) (dRet (dOp dIx (dVar 2) (dVar 1))) dNext)
    (dSeq (dSet 4 (dOp dSub (dVar 1) (dCB dLen (dCons (dVar 2) dNil))))
    (dSeq (dUnp [5, 6] (dOp dIx (dVar 3) (dOp dMod (dVar 4) (dCB dLen (dCons (dVar 3) dNil)))))
    (dSeq (dIfS (dTest (dOp dIsN (dVar 5) (dC .non))) (dRet (dC .non)) dNext)
    (dRet (dOp dAdd (dVar 5) (dOp dMul (dVar 6) (dOp dFdiv (dVar 4) (dCB dLen (dCons (dVar 3) dNil))))))))))))
abbrev n_value_at : List Str := ["form", "x", "head", "tail", "behind", "value", "step"]
def t_has_period : DS :=
    (dSeq (dSet 2 (dCB dLen (dCons (dVar 0) dNil)))
    (dSeq (dFor (iRng1D (dCons (dVar 2) dNil)) (gD true [3]) (dSeq (dUnp [4, 5] (dOp dIx (dVar 0) (dVar 3)))
    (dSeq (dSet 6 (dOp dFdiv (dOp dAdd (dVar 3) (dVar 1)) (dVar 2)))
    (dSeq (dUnp [7, 8] (dOp dIx (dVar 0) (dOp dSub (dOp dAdd (dVar 3) (dVar 1)) (dOp dMul (dVar 2) (dVar 6)))))
    (dIfS (dTOr (dTest (dOp dIsN (dVar 4) (dC .non))) (dTest (dOp dIsN (dVar 7) (dC .non)))) (dIfS (dTOr (dTest (dOp dNotN (dVar 4) (dC .non))) (dTest (dOp dNotN (dVar 7) (dC .non)))) (dRet (dC (.bl false))) dNext) (dIfS (dTOr (dTest (dOp dNe (dVar 5) (dVar 8))) (dTest (dOp dNe (dOp dMul (dOp dSub (dOp dAdd (dVar 7) (dOp dMul (dVar 5) (dVar 6))) (dVar 4)) (dVar 2)) (dOp dMul (dVar 5) (dVar 1))))) (dRet (dC (.bl false))) dNext))))))
    (dRet (dC (.bl true)))))
abbrev n_has_period : List Str := ["tail", "size", "period", "index", "value", "step", "wraps", "later", "later_step"]
def t_shortest_tail : DS :=
    (dSeq (dSet 1 (dCB dLen (dCons (dVar 0) dNil)))
    (dSeq (dFor (iRngAD (dCons (dC (.int 1)) (dCons (dVar 1) dNil))) (gD true [2]) (dIfS (dTAnd (dTest (dOp dEq (dOp dMod (dVar 1) (dVar 2)) (dC (.int 0)))) (dTruth (dCall sp_has_period E0D (dCons (dVar 0) (dCons (dVar 2) dNil))))) (dRet (dCB dTuple (dCons (dLc (iSeqD (dSl (dVar 0) dNoPart (dPart (dVar 2)))) false [3, 4] [3, 4] dYes (dTup (dCons (dVar 3) (dCons (dOp dFdiv (dOp dMul (dVar 4) (dVar 2)) (dVar 1)) dNil)))) dNil))) dNext))
    (dRet (dVar 0))))
abbrev n_shortest_tail : List Str := ["tail", "period", "size", "value", "step"]
def t_continued : DS :=
    (dSeq (dUnp [2, 3] (dOp dIx (dVar 0) (dOp dMod (dVar 1) (dCB dLen (dCons (dVar 0) dNil)))))
    (dSeq (dIfS (dTest (dOp dIsN (dVar 2) (dC .non))) (dRet (dTup (dCons (dC .non) (dCons (dC (.int 0)) dNil)))) dNext)
    (dRet (dTup (dCons (dOp dAdd (dVar 2) (dOp dMul (dVar 3) (dOp dFdiv (dVar 1) (dCB dLen (dCons (dVar 0) dNil))))) (dCons (dVar 3) dNil))))))
abbrev n_continued : List Str := ["tail", "places", "value", "step"]
def t_normal_c4 : DS :=
    (dSeq (dSet 6 (dOp dSub (dCB dLen (dCons (dVar 1) dNil)) (dVar 3)))
    (dRet (dTup (dCons (dSl (dVar 1) dNoPart (dPart (dVar 3))) (dCons (dCB dTuple (dCons (dLc (iRng1D (dCons (dCB dLen (dCons (dVar 2) dNil)) dNil)) true [7] [7] dYes (dCall sp_continued E0D (dCons (dVar 2) (dCons (dOp dSub (dVar 7) (dVar 6)) dNil)))) dNil)) dNil)))))
def t_normal : DS :=
    (dSeq (dSet 1 (dOp dIx (dVar 0) (dC (.int 0))))
    (dSeq (dSet 2 (dCall sp_shortest_tail E0D (dCons (dOp dIx (dVar 0) (dC (.int 1))) dNil)))
    (dSeq (dSet 3 (dCB dLen (dCons (dVar 1) dNil)))
    (dSeq (dWhile (dTest (dOp dGt (dVar 3) (dC (.int 0)))) (dSeq (dUnp [4, 5] (dCall sp_continued E0D (dCons (dVar 2) (dCons (dOp dSub (dOp dSub (dVar 3) (dC (.int 1))) (dCB dLen (dCons (dVar 1) dNil))) dNil))))
    (dSeq (dIfS (dTest (dOp dNe (dVar 4) (dOp dIx (dVar 1) (dOp dSub (dVar 3) (dC (.int 1)))))) dBreak dNext)
    (dAug 3 (dC (.int 1)) dSub))))
    t_normal_c4))))
abbrev n_normal : List Str := ["form", "head", "tail", "length", "value", "_", "back", "index"]
def t_check_period (C : Ct) (E : XD) : DS :=
    (dIfS (dTest (dOp dGt (dVar 0) (dC k_MAX_PERIOD))) (dRaise (exV C "TooLarge") E) dNext)
abbrev n_check_period : List Str := ["period"]
def t_first_of_class : DS :=
    (dRet (dOp dAdd (dVar 1) (dOp dMod (dOp dSub (dVar 0) (dVar 1)) (dVar 2))))
abbrev n_first_of_class : List Str := ["rest", "least", "period"]
def t_line_c4 (C : Ct) : DS :=
    (dSeq (dWhile (dTest (dOp dGe (dVar 3) (dVar 0))) (dSeq (dSet 6 (dIf (dTest (dOp dIsN (dVar 4) (dC .non))) (dC .non) (dOp dSub (dVar 4) (dVar 5))))
    (dSeq (dIfS (dTest (dOp dNe (dCallV C 10 1 (dCons (dOp dSub (dVar 3) (dVar 0)) dNil)) (dVar 6))) dBreak dNext)
    (dSeq (dAug 3 (dVar 0) dSub)
    (dSet 4 (dVar 6))))))
    (dRet (dTup (dCons (dVar 3) (dCons (dVar 4) (dCons (dVar 5) dNil))))))
def t_line (C : Ct) : DS :=
    (dSeq (dSet 3 (dVar 2))
    (dSeq (dSet 4 (dCallV C 10 1 (dCons (dVar 3) dNil)))
    (dSeq (dSet 5 (dC (.int 0)))
    (dSeq (dIfS (dTest (dOp dNotN (dVar 4) (dC .non))) (dSet 5 (dOp dSub (dCallV C 10 1 (dCons (dOp dAdd (dVar 3) (dVar 0)) dNil)) (dVar 4))) dNext)
    (t_line_c4 C)))))
abbrev n_line : List Str := ["period", "tell", "start", "x", "value", "step", "due"]
def t_assemble_c4 (C : Ct) : DS :=
    (dSeq (dFor (iRngAD (dCons (dVar 5) (dCons (dOp dAdd (dVar 5) (dVar 0)) dNil))) (gD true [6]) (dSeq (dUnp [9, 10, 11] (dOp dIx (dVar 3) (dOp dMod (dVar 6) (dVar 0))))
    (dIfS (dTest (dOp dIsN (dVar 10) (dC .non))) (dDrop (dMtL dAppend (dVar 8) (dCons (dTup (dCons (dC .non) (dCons (dC (.int 0)) dNil))) dNil))) (dDrop (dMtL dAppend (dVar 8) (dCons (dTup (dCons (dOp dAdd (dVar 10) (dOp dMul (dVar 11) (dOp dFdiv (dOp dSub (dVar 6) (dVar 9)) (dVar 0)))) (dCons (dVar 11) dNil))) dNil))))))
    (dRet (dCall sp_normal E0D (dCons (dTup (dCons (dCB dTuple (dCons (dLc (iRng1D (dCons (dVar 5) dNil)) true [6] [6] dYes (dCallV C 10 1 (dCons (dVar 6) dNil))) dNil)) (dCons (dCB dTuple (dCons (dVar 8) dNil)) dNil))) dNil))))
def t_assemble_c2 (C : Ct) (E : XD) : DS :=
    (dSeq (dIfS (dTest (dOp dGt (dVar 5) (dC k_MAX_HEAD))) (dRaise (exV C "TooLarge") E) dNext)
    (dSeq (dSet 8 (dLstM dNil))
    (t_assemble_c4 C)))
def t_assemble (C : Ct) (E : XD) : DS :=
    (dSeq (dSet 3 (dLc (iSeqD (dVar 2)) true [4] [4] dYes (dCall (sp_line C) E0D (dCons (dVar 0) (dCons (dVar 1) (dCons (dVar 4) dNil))))))
    (dSeq (dSet 5 (dMaxDf (dLc (iSeqD (dVar 3)) false [6, 7, 7] [6, 7] (dTest (dOp dGe (dVar 6) (dVar 0))) (dOp dAdd (dOp dSub (dVar 6) (dVar 0)) (dC (.int 1)))) (dC (.int 0))))
    (t_assemble_c2 C E)))
abbrev n_assemble : List Str := ["period", "tell", "starts", "lines", "start", "length", "x", "_", "tail", "begin", "value", "step"]
def t_line_at : DS :=
    (dSeq (dSet 3 (dCall sp_value_at E0D (dCons (dVar 0) (dCons (dVar 1) dNil))))
    (dSeq (dIfS (dTest (dOp dIsN (dVar 3) (dC .non))) (dRet (dC .non)) dNext)
    (dRet (dTup (dCons (dVar 3) (dCons (dOp dSub (dCall sp_value_at E0D (dCons (dVar 0) (dCons (dOp dAdd (dVar 1) (dVar 2)) dNil))) (dVar 3)) dNil))))))
abbrev n_line_at : List Str := ["form", "x", "period", "value"]
def t_own_starts : DS :=
    (dRet (dLc (iRng1D (dCons (dVar 1) dNil)) true [2] [2] dYes (dCall sp_first_of_class E0D (dCons (dVar 2) (dCons (dCB dLen (dCons (dOp dIx (dVar 0) (dC (.int 0))) dNil)) (dCons (dVar 1) dNil))))))
abbrev n_own_starts : List Str := ["form", "period", "rest"]
def t_round_period (C : Ct) (E : XD) : DS :=
    (dSeq (dSet 4 (dC (.int 1)))
    (dSeq (dFor (iSeqD (dOp dIx (dVar 0) (dC (.int 1)))) (gD false [5, 6]) (dIfS (dTAnd (dTest (dOp dNotN (dVar 5) (dC .non))) (dTOr (dTest (dOp dGt (dVar 6) (dC (.int 0)))) (dTNot (dTruth (dVar 3))))) (dSet 4 (dCB dLcm (dCons (dVar 4) (dCons (dOp dFdiv (dVar 1) (dCB dGcd (dCons (dVar 1) (dCons (dOp dMul (dVar 6) (dVar 2)) dNil)))) dNil)))) dNext))
    (dSeq (dSet 7 (dOp dMul (dVar 4) (dCB dLen (dCons (dOp dIx (dVar 0) (dC (.int 1))) dNil))))
    (dSeq (dDrop (dCall (sp_check_period C) E (dCons (dVar 7) dNil)))
    (dRet (dVar 7))))))
abbrev n_round_period : List Str := ["form", "unit", "factor", "rising", "size", "value", "step", "period"]
def t_due_of : DS :=
    (dSeq (dUnp [2, 3, 4] (dVar 0))
    (dSeq (dIfS (dTest (dOp dLe (dVar 1) (dC (.int 0)))) (dRet (dC (.int 0))) dNext)
    (dRet (dCB dMax (dCons (dVar 4) (dCons (dOp dMul (dVar 3) (dUn dNeg (dOp dFdiv (dOp dMul (dUn dNeg (dVar 2)) (dVar 1)) (dVar 3)))) dNil))))))
abbrev n_due_of : List Str := ["rule", "missing", "factor", "unit", "least"]
def t_due_value : DS :=
    (dRet (dIf (dTest (dOp dIsN (dVar 1) (dC .non))) (dC .non) (dCall sp_due_of E0D (dCons (dVar 0) (dCons (dOp dSub (dVar 1) (dVar 2)) dNil)))))
abbrev n_due_value : List Str := ["rule", "value", "paid"]
def t_settled_due : DS :=
    (dSeq (dIfS (dTest (dOp dLt (dVar 2) (dC (.int 0)))) (dRet (dCB dMax (dCons (dC (.int 0)) (dCons (dUn dNeg (dOp dFdiv (dUn dNeg (dVar 1)) (dUn dNeg (dVar 2)))) dNil)))) dNext)
    (dSeq (dSet 3 (dCB dMax (dCons (dC (.int 1)) (dCons (dUn dNeg (dOp dFdiv (dUn dNeg (dOp dIx (dVar 0) (dC (.int 2)))) (dOp dIx (dVar 0) (dC (.int 0))))) dNil))))
    (dRet (dCB dMax (dCons (dC (.int 0)) (dCons (dUn dNeg (dOp dFdiv (dOp dSub (dVar 1) (dVar 3)) (dVar 2))) dNil))))))
abbrev n_settled_due : List Str := ["rule", "missing", "step", "target"]
def t_due_form_c2 (C : Ct) (E : XD) : DS :=
    (dSeq (dSet 5 (dLstM dNil))
    (dSeq (dFor (iSeqD (dCall sp_own_starts E0D (dCons (dVar 3) (dCons (dVar 4) dNil)))) (gD true [6]) (dSeq (dSet 7 (dCall sp_line_at E0D (dCons (dVar 3) (dCons (dVar 6) (dCons (dVar 4) dNil)))))
    (dSeq (dIfS (dTAnd (dTest (dOp dNotN (dVar 7) (dC .non))) (dTest (dOp dNe (dOp dIx (dVar 7) (dC (.int 1))) (dC (.int 0))))) (dAug 6 (dOp dMul (dVar 4) (dCall sp_settled_due E0D (dCons (dVar 0) (dCons (dOp dSub (dOp dIx (dVar 7) (dC (.int 0))) (dVar 2)) (dCons (dOp dIx (dVar 7) (dC (.int 1))) dNil))))) (dI0 fun i j => i + j)) dNext)
    (dDrop (dMtL dAppend (dVar 5) (dCons (dVar 6) dNil))))))
    (dRet (dCallLX C 10 [0, 2, 3] 1 (dCall sp_due_value E0D (dCons (dVar 1) (dCons (dCall sp_value_at E0D (dCons (dVar 3) (dCons (dVar 0) dNil))) (dCons (dVar 2) dNil)))) (sp_assemble C) E (dVar 4) (dVar 5)))))
def t_due_form (C : Ct) (E : XD) : DS :=
    (dSeq (dSet 3 (dCall sp_normal E0D (dCons (dVar 1) dNil)))
    (dSeq (dSet 4 (dCall (sp_round_period C) E (dCons (dVar 3) (dCons (dOp dIx (dVar 0) (dC (.int 1))) (dCons (dOp dIx (dVar 0) (dC (.int 0))) (dCons (dC (.bl true)) dNil))))))
    (t_due_form_c2 C E)))
abbrev n_due_form : List Str := ["rule", "a", "paid", "form", "period", "starts", "start", "line"]
def t_law_state : DS :=
    (dRet (dLstM (dCons (dCB dList (dCons (dVar 0) dNil)) (dCons (dC (.int 0)) (dCons (dC (.int 0)) (dCons (dC (.int 0)) (dCons (dC (.bl false)) dNil)))))))
abbrev n_law_state : List Str := ["script"]
def t_law_draw : DS :=
    (dSeq (dIfS (dTest (dOp dEq (dOp dIx (dVar 0) (dC (.int 3))) (dC (.int 0)))) (dSeq (dIfS (dTest (dOp dGe (dOp dIx (dVar 0) (dC (.int 1))) (dCB dLen (dCons (dOp dIx (dVar 0) (dC (.int 0))) dNil)))) (dRet (dC (.int 0))) dNext)
    (dSeq (dSet 2 (dOp dIx (dOp dIx (dVar 0) (dC (.int 0))) (dOp dIx (dVar 0) (dC (.int 1)))))
    (dSeq (dIfS (dTest (dOp dLt (dVar 2) (dC (.int 0)))) (dSet 2 (dOp dSub (dUn dNeg (dC (.int 1))) (dVar 2))) dNext)
    (dSeq (dStore (dOp dAdd (dOp dIx (dVar 0) (dC (.int 1))) (dC (.int 1))) (dVar 0) (dC (.int 1)) dSetL)
    (dSeq (dStore (dVar 2) (dVar 0) (dC (.int 2)) dSetL)
    (dSeq (dStore (dOp dGe (dVar 2) (dOp dPow (dC (.int 10)) (dC (.int 18)))) (dVar 0) (dC (.int 4)) dSetL)
    (dSeq (dStore (dC (.int 6)) (dVar 0) (dC (.int 3)) dSetL)
    (dIfS (dTruth (dOp dIx (dVar 0) (dC (.int 4)))) (dStore (dC (.int 60)) (dVar 0) (dC (.int 3)) dSetL) dNext)))))))) dNext)
    (dSeq (dStore (dOp dSub (dOp dIx (dVar 0) (dC (.int 3))) (dC (.int 1))) (dVar 0) (dC (.int 3)) dSetL)
    (dSeq (dIfS (dTruth (dOp dIx (dVar 0) (dC (.int 4)))) (dSeq (dSet 3 (dOp dMod (dCB dInt (dCons (dOp dIx (dVar 0) (dC (.int 2))) dNil)) (dVar 1)))
    (dSeq (dStore (dOp dFdiv (dOp dIx (dVar 0) (dC (.int 2))) (dVar 1)) (dVar 0) (dC (.int 2)) dSetL)
    (dSeq (dIfS (dTest (dOp dEq (dOp dIx (dVar 0) (dC (.int 2))) (dC (.int 0)))) (dStore (dC (.int 0)) (dVar 0) (dC (.int 3)) dSetL) dNext)
    (dRet (dVar 3))))) dNext)
    (dSeq (dSet 4 (dOp dMod (dCB dInt (dCons (dOp dAdd (dOp dAdd (dOp dMul (dOp dIx (dVar 0) (dC (.int 2))) (dC (.int 48271))) (dOp dMul (dOp dIx (dVar 0) (dC (.int 3))) (dC (.int 69621)))) (dC (.int 7))) dNil)) (dC (.int 2147483647))))
    (dSeq (dSet 4 (dOp dMod (dCB dInt (dCons (dOp dAdd (dOp dAdd (dOp dMul (dVar 4) (dVar 4)) (dOp dMul (dOp dIx (dVar 0) (dC (.int 2))) (dC (.int 31)))) (dOp dIx (dVar 0) (dC (.int 3)))) dNil)) (dC (.int 1000003))))
    (dRet (dOp dMod (dCB dInt (dCons (dVar 4) dNil)) (dVar 1))))))))
abbrev n_law_draw : List Str := ["state", "limit", "cell", "digit", "mixed"]
def t_law_far : DS :=
    (dSeq (dSet 1 (dCall sp_law_draw E0D (dCons (dVar 0) (dCons (dC (.int 1000)) dNil))))
    (dSeq (dFor (iRng1D (dCons (dCall sp_law_draw E0D (dCons (dVar 0) (dCons (dC (.int 9)) dNil))) dNil)) (gD true [2]) (dSet 1 (dOp dAdd (dOp dMul (dVar 1) (dC (.int 1009))) (dCall sp_law_draw E0D (dCons (dVar 0) (dCons (dC (.int 1000)) dNil))))))
    (dRet (dVar 1))))
abbrev n_law_far : List Str := ["state", "far", "k"]
def t_law_value : DS :=
    (dSeq (dIfS (dTest (dOp dLt (dVar 1) (dC (.int 0)))) (dRet (dC .non)) dNext)
    (dSeq (dIfS (dTest (dOp dLt (dVar 1) (dCB dLen (dCons (dOp dIx (dVar 0) (dC (.int 0))) dNil)))) (dRet (dOp dIx (dOp dIx (dVar 0) (dC (.int 0))) (dVar 1))) dNext)
    (dSeq (dSet 2 (dOp dSub (dVar 1) (dCB dLen (dCons (dOp dIx (dVar 0) (dC (.int 0))) dNil))))
    (dSeq (dUnp [3, 4] (dOp dIx (dOp dIx (dVar 0) (dC (.int 1))) (dOp dMod (dCB dInt (dCons (dVar 2) dNil)) (dCB dLen (dCons (dOp dIx (dVar 0) (dC (.int 1))) dNil)))))
    (dSeq (dIfS (dTest (dOp dIsN (dVar 3) (dC .non))) (dRet (dC .non)) dNext)
    (dRet (dOp dAdd (dVar 3) (dOp dMul (dVar 4) (dOp dFdiv (dVar 2) (dCB dLen (dCons (dOp dIx (dVar 0) (dC (.int 1))) dNil)))))))))))
abbrev n_law_value : List Str := ["form", "x", "behind", "value", "step"]
def t_law_stretched : DS :=
    (dSeq (dSet 2 (dCall sp_law_draw E0D (dCons (dVar 0) (dCons (dC (.int 4)) dNil))))
    (dSeq (dSet 3 (dOp dAdd (dC (.int 1)) (dCall sp_law_draw E0D (dCons (dVar 0) (dCons (dC (.int 3)) dNil)))))
    (dSeq (dSet 4 (dOp dAdd (dCB dLen (dCons (dOp dIx (dVar 1) (dC (.int 0))) dNil)) (dVar 2)))
    (dSeq (dSet 5 (dLc (iRng1D (dCons (dVar 4) dNil)) true [6] [6] dYes (dCall sp_law_value E0D (dCons (dVar 1) (dCons (dVar 6) dNil)))))
    (dSeq (dSet 7 (dLstM dNil))
    (dSeq (dFor (iRng1D (dCons (dOp dMul (dCB dLen (dCons (dOp dIx (dVar 1) (dC (.int 1))) dNil)) (dVar 3)) dNil)) (gD true [8]) (dSeq (dSet 9 (dOp dIx (dOp dIx (dOp dIx (dVar 1) (dC (.int 1))) (dOp dMod (dCB dInt (dCons (dOp dAdd (dVar 2) (dVar 8)) dNil)) (dCB dLen (dCons (dOp dIx (dVar 1) (dC (.int 1))) dNil)))) (dC (.int 1))))
    (dDrop (dMtL dAppend (dVar 7) (dCons (dTup (dCons (dCall sp_law_value E0D (dCons (dVar 1) (dCons (dOp dAdd (dVar 4) (dVar 8)) dNil))) (dCons (dOp dMul (dVar 9) (dVar 3)) dNil))) dNil)))))
    (dRet (dTup (dCons (dCB dTuple (dCons (dVar 5) dNil)) (dCons (dCB dTuple (dCons (dVar 7) dNil)) dNil))))))))))
abbrev n_law_stretched : List Str := ["state", "form", "more", "rounds", "length", "head", "x", "tail", "k", "step"]
def t_law_int : DS :=
    (dRet (dAnd (dCB dIsi (dCons (dVar 0) (dCons (dC (.ty "int")) dNil))) (dNot (dCB dIsi (dCons (dVar 0) (dCons (dC (.ty "bool")) dNil))))))
abbrev n_law_int : List Str := ["value"]
def t_law_is_form : DS :=
    (dSeq (dIfS (dTOr (dTNot (dTruth (dCB dIsi (dCons (dVar 0) (dCons (dC (.ty "tuple")) dNil))))) (dTest (dOp dNe (dCB dLen (dCons (dVar 0) dNil)) (dC (.int 2))))) (dRet (dC (.bl false))) dNext)
    (dSeq (dIfS (dTOr (dTNot (dTruth (dCB dIsi (dCons (dOp dIx (dVar 0) (dC (.int 0))) (dCons (dC (.ty "tuple")) dNil))))) (dTOr (dTNot (dTruth (dCB dIsi (dCons (dOp dIx (dVar 0) (dC (.int 1))) (dCons (dC (.ty "tuple")) dNil))))) (dTest (dOp dEq (dCB dLen (dCons (dOp dIx (dVar 0) (dC (.int 1))) dNil)) (dC (.int 0)))))) (dRet (dC (.bl false))) dNext)
    (dSeq (dFor (iSeqD (dOp dIx (dVar 0) (dC (.int 0)))) (gD true [1]) (dIfS (dTAnd (dTest (dOp dNotN (dVar 1) (dC .non))) (dTNot (dTruth (dCall sp_law_int E0D (dCons (dVar 1) dNil))))) (dRet (dC (.bl false))) dNext))
    (dSeq (dFor (iSeqD (dOp dIx (dVar 0) (dC (.int 1)))) (gD true [2]) (dSeq (dIfS (dTOr (dTNot (dTruth (dCB dIsi (dCons (dVar 2) (dCons (dC (.ty "tuple")) dNil))))) (dTOr (dTest (dOp dNe (dCB dLen (dCons (dVar 2) dNil)) (dC (.int 2)))) (dTNot (dTruth (dCall sp_law_int E0D (dCons (dOp dIx (dVar 2) (dC (.int 1))) dNil)))))) (dRet (dC (.bl false))) dNext)
    (dSeq (dIfS (dTAnd (dTest (dOp dIsN (dOp dIx (dVar 2) (dC (.int 0))) (dC .non))) (dTest (dOp dNe (dOp dIx (dVar 2) (dC (.int 1))) (dC (.int 0))))) (dRet (dC (.bl false))) dNext)
    (dIfS (dTAnd (dTest (dOp dNotN (dOp dIx (dVar 2) (dC (.int 0))) (dC .non))) (dTNot (dTruth (dCall sp_law_int E0D (dCons (dOp dIx (dVar 2) (dC (.int 0))) dNil))))) (dRet (dC (.bl false))) dNext))))
    (dRet (dC (.bl true)))))))
abbrev n_law_is_form : List Str := ["form", "value", "pair"]
def t_law_is_even : DS :=
    (dSeq (dFor (iRngAD (dCons (dCB dLen (dCons (dOp dIx (dVar 0) (dC (.int 0))) dNil)) (dCons (dOp dAdd (dCB dLen (dCons (dOp dIx (dVar 0) (dC (.int 0))) dNil)) (dOp dMul (dC (.int 2)) (dCB dLen (dCons (dOp dIx (dVar 0) (dC (.int 1))) dNil)))) dNil))) (gD true [2]) (dSeq (dSet 3 (dCall sp_law_value E0D (dCons (dVar 0) (dCons (dVar 2) dNil))))
    (dSeq (dSet 4 (dCall sp_law_value E0D (dCons (dVar 0) (dCons (dOp dAdd (dVar 2) (dVar 1)) dNil))))
    (dSeq (dSet 5 (dCall sp_law_value E0D (dCons (dVar 0) (dCons (dOp dAdd (dVar 2) (dOp dMul (dC (.int 2)) (dVar 1))) dNil))))
    (dIfS (dTOr (dTest (dOp dIsN (dVar 3) (dC .non))) (dTOr (dTest (dOp dIsN (dVar 4) (dC .non))) (dTest (dOp dIsN (dVar 5) (dC .non))))) (dIfS (dTOr (dTest (dOp dNotN (dVar 3) (dC .non))) (dTOr (dTest (dOp dNotN (dVar 4) (dC .non))) (dTest (dOp dNotN (dVar 5) (dC .non))))) (dRet (dC (.bl false))) dNext) (dIfS (dTest (dOp dNe (dOp dSub (dVar 5) (dVar 4)) (dOp dSub (dVar 4) (dVar 3)))) (dRet (dC (.bl false))) dNext))))))
    (dRet (dC (.bl true))))
abbrev n_law_is_even : List Str := ["form", "size", "x", "one", "two", "three"]
def t_law_is_normal : DS :=
    (dSeq (dIfS (dTNot (dTruth (dCall sp_law_is_form E0D (dCons (dVar 0) dNil)))) (dRet (dC (.bl false))) dNext)
    (dSeq (dFor (iRngAD (dCons (dC (.int 1)) (dCons (dCB dLen (dCons (dOp dIx (dVar 0) (dC (.int 1))) dNil)) dNil))) (gD true [1]) (dIfS (dTAnd (dTest (dOp dEq (dOp dMod (dCB dInt (dCons (dCB dLen (dCons (dOp dIx (dVar 0) (dC (.int 1))) dNil)) dNil)) (dVar 1)) (dC (.int 0)))) (dTruth (dCall sp_law_is_even E0D (dCons (dVar 0) (dCons (dVar 1) dNil))))) (dRet (dC (.bl false))) dNext))
    (dSeq (dIfS (dTest (dOp dEq (dCB dLen (dCons (dOp dIx (dVar 0) (dC (.int 0))) dNil)) (dC (.int 0)))) (dRet (dC (.bl true))) dNext)
    (dSeq (dUnp [2, 3] (dOp dIx (dOp dIx (dVar 0) (dC (.int 1))) (dOp dSub (dCB dLen (dCons (dOp dIx (dVar 0) (dC (.int 1))) dNil)) (dC (.int 1)))))
    (dSeq (dIfS (dTest (dOp dNotN (dVar 2) (dC .non))) (dSet 2 (dOp dSub (dVar 2) (dVar 3))) dNext)
    (dRet (dOp dNe (dOp dIx (dOp dIx (dVar 0) (dC (.int 0))) (dOp dSub (dCB dLen (dCons (dOp dIx (dVar 0) (dC (.int 0))) dNil)) (dC (.int 1)))) (dVar 2))))))))
abbrev n_law_is_normal : List Str := ["form", "size", "value", "step"]
def t_law_rule : DS :=
    (dSeq (dSet 1 (dOp dAdd (dC (.int 1)) (dCall sp_law_draw E0D (dCons (dVar 0) (dCons (dC (.int 10)) dNil)))))
    (dSeq (dSet 2 (dOp dIx (dLst (dCons (dC (.int 1)) (dCons (dOp dAdd (dC (.int 1)) (dCall sp_law_draw E0D (dCons (dVar 0) (dCons (dC (.int 10)) dNil)))) (dCons (dOp dAdd (dC (.int 1)) (dCall sp_law_draw E0D (dCons (dVar 0) (dCons (dC (.int 1000)) dNil)))) dNil)))) (dCall sp_law_draw E0D (dCons (dVar 0) (dCons (dC (.int 3)) dNil)))))
    (dSeq (dSet 3 (dOp dIx (dLst (dCons (dC (.int 0)) (dCons (dCall sp_law_draw E0D (dCons (dVar 0) (dCons (dC (.int 30)) dNil))) (dCons (dCall sp_law_draw E0D (dCons (dVar 0) (dCons (dC (.int 100001)) dNil))) dNil)))) (dCall sp_law_draw E0D (dCons (dVar 0) (dCons (dC (.int 3)) dNil)))))
    (dRet (dTup (dCons (dVar 1) (dCons (dVar 2) (dCons (dVar 3) dNil))))))))
abbrev n_law_rule : List Str := ["state", "factor", "unit", "least"]
def t_law_due : DS :=
    (dSeq (dIfS (dTest (dOp dIsN (dVar 1) (dC .non))) (dRet (dC .non)) dNext)
    (dSeq (dIfS (dTest (dOp dLe (dVar 1) (dC (.int 0)))) (dRet (dC (.int 0))) dNext)
    (dSeq (dSet 2 (dOp dMul (dOp dIx (dVar 0) (dC (.int 0))) (dVar 1)))
    (dSeq (dIfS (dTest (dOp dNe (dOp dMod (dCB dInt (dCons (dVar 2) dNil)) (dOp dIx (dVar 0) (dC (.int 1)))) (dC (.int 0)))) (dSet 2 (dOp dAdd (dOp dSub (dVar 2) (dOp dMod (dCB dInt (dCons (dVar 2) dNil)) (dOp dIx (dVar 0) (dC (.int 1))))) (dOp dIx (dVar 0) (dC (.int 1))))) dNext)
    (dSeq (dIfS (dTest (dOp dLt (dVar 2) (dOp dIx (dVar 0) (dC (.int 2))))) (dRet (dOp dIx (dVar 0) (dC (.int 2)))) dNext)
    (dRet (dVar 2)))))))
abbrev n_law_due : List Str := ["rule", "missing", "rounded"]
def t_law_is : DS :=
    (dRet (dAnd (dCB dIsi (dCons (dVar 0) (dCons (dC (.ty "int")) dNil))) (dAnd (dNot (dCB dIsi (dCons (dVar 0) (dCons (dC (.ty "bool")) dNil)))) (dOp dEq (dVar 0) (dVar 1)))))
abbrev n_law_is : List Str := ["told", "due"]
def t_law_amounts_hold_c3 : DS :=
    (dSeq (dFor (iSeqD (dOp dAdd (dVar 2) (dLst (dCons (dOp dSub (dVar 4) (dC (.int 1))) (dCons (dVar 4) (dCons (dOp dAdd (dVar 4) (dC (.int 1))) dNil)))))) (gD true [5]) (dIfS (dTNot (dTruth (dCall sp_law_is E0D (dCons (dCall sp_due_of E0D (dCons (dVar 1) (dCons (dVar 5) dNil))) (dCons (dCall sp_law_due E0D (dCons (dVar 1) (dCons (dVar 5) dNil))) dNil))))) (dRet (dC (.bl false))) dNext))
    (dRet (dC (.bl true))))
def t_law_amounts_hold : DS :=
    (dSeq (dSet 2 (dLst (dCons (dUn dNeg (dC (.int 1))) (dCons (dC (.int 0)) (dCons (dC (.int 1)) (dCons (dC (.int 2)) (dCons (dOp dSub (dUn dNeg (dC (.int 5))) (dCall sp_law_far E0D (dCons (dVar 0) dNil))) (dCons (dCall sp_law_far E0D (dCons (dVar 0) dNil)) (dCons (dCall sp_law_draw E0D (dCons (dVar 0) (dCons (dC (.int 3000)) dNil))) dNil)))))))))
    (dSeq (dFor (iRng1D (dCons (dC (.int 3)) dNil)) (gD true [3]) (dSeq (dSet 4 (dOp dFdiv (dOp dMul (dOp dIx (dVar 1) (dC (.int 1))) (dOp dAdd (dC (.int 1)) (dCall sp_law_draw E0D (dCons (dVar 0) (dCons (dC (.int 50)) dNil))))) (dOp dIx (dVar 1) (dC (.int 0)))))
    (dSet 2 (dOp dAdd (dVar 2) (dLst (dCons (dOp dSub (dVar 4) (dC (.int 1))) (dCons (dVar 4) (dCons (dOp dAdd (dVar 4) (dC (.int 1))) dNil))))))))
    (dSeq (dSet 4 (dOp dFdiv (dOp dIx (dVar 1) (dC (.int 2))) (dOp dIx (dVar 1) (dC (.int 0)))))
    t_law_amounts_hold_c3)))
abbrev n_law_amounts_hold : List Str := ["state", "rule", "found", "k", "border", "missing"]
def t_law_common : DS :=
    (dSeq (dWhile (dTest (dOp dNe (dVar 1) (dC (.int 0)))) (dPar 0 1 (dCons (dVar 1) (dCons (dOp dMod (dCB dInt (dCons (dVar 0) dNil)) (dVar 1)) dNil))))
    (dRet (dVar 0)))
abbrev n_law_common : List Str := ["one", "two"]
def t_law_period : DS :=
    (dSeq (dSet 2 (dC (.int 1)))
    (dSeq (dFor (iSeqD (dOp dIx (dVar 1) (dC (.int 1)))) (gD false [3, 4]) (dIfS (dTAnd (dTest (dOp dNotN (dVar 3) (dC .non))) (dTest (dOp dGt (dVar 4) (dC (.int 0))))) (dSeq (dSet 5 (dOp dFdiv (dOp dIx (dVar 0) (dC (.int 1))) (dCall sp_law_common E0D (dCons (dOp dIx (dVar 0) (dC (.int 1))) (dCons (dOp dMod (dCB dInt (dCons (dOp dMul (dOp dIx (dVar 0) (dC (.int 0))) (dVar 4)) dNil)) (dOp dIx (dVar 0) (dC (.int 1)))) dNil)))))
    (dSet 2 (dOp dFdiv (dOp dMul (dVar 2) (dVar 5)) (dCall sp_law_common E0D (dCons (dVar 2) (dCons (dVar 5) dNil)))))) dNext))
    (dRet (dOp dMul (dVar 2) (dCB dLen (dCons (dOp dIx (dVar 1) (dC (.int 1))) dNil))))))
abbrev n_law_period : List Str := ["rule", "form", "size", "value", "step", "more"]
def t_law_less : DS :=
    (dSeq (dSet 3 (dCall sp_law_value E0D (dCons (dVar 0) (dCons (dVar 1) dNil))))
    (dSeq (dIfS (dTest (dOp dIsN (dVar 3) (dC .non))) (dRet (dC .non)) dNext)
    (dRet (dOp dSub (dVar 3) (dVar 2)))))
abbrev n_law_less : List Str := ["form", "x", "paid", "value"]
def t_law_low : DS :=
    (dSeq (dSet 1 (dLc (iRng1D (dCons (dCall sp_law_draw E0D (dCons (dVar 0) (dCons (dC (.int 7)) dNil))) dNil)) true [2] [2] dYes (dOp dIx (dLst (dCons (dC .non) (dCons (dCall sp_law_draw E0D (dCons (dVar 0) (dCons (dC (.int 60)) dNil))) dNil))) (dCB dInt (dCons (dOp dGt (dCall sp_law_draw E0D (dCons (dVar 0) (dCons (dC (.int 4)) dNil))) (dC (.int 0))) dNil)))))
    (dSeq (dSet 3 (dLstM dNil))
    (dSeq (dFor (iRng1D (dCons (dOp dAdd (dC (.int 1)) (dCall sp_law_draw E0D (dCons (dVar 0) (dCons (dC (.int 3)) dNil)))) dNil)) (gD true [2]) (dSeq (dSet 4 (dOp dIx (dLst (dCons (dC (.int 0)) (dCons (dCall sp_law_draw E0D (dCons (dVar 0) (dCons (dC (.int 5)) dNil))) (dCons (dOp dSub (dCall sp_law_draw E0D (dCons (dVar 0) (dCons (dC (.int 8)) dNil))) (dC (.int 3))) dNil)))) (dCall sp_law_draw E0D (dCons (dVar 0) (dCons (dC (.int 3)) dNil)))))
    (dDrop (dMtL dAppend (dVar 3) (dCons (dOp dIx (dLst (dCons (dTup (dCons (dOp dSub (dCall sp_law_draw E0D (dCons (dVar 0) (dCons (dC (.int 90)) dNil))) (dC (.int 10))) (dCons (dVar 4) dNil))) (dCons (dTup (dCons (dC .non) (dCons (dC (.int 0)) dNil))) dNil))) (dCB dInt (dCons (dOp dEq (dCall sp_law_draw E0D (dCons (dVar 0) (dCons (dC (.int 5)) dNil))) (dC (.int 0))) dNil))) dNil)))))
    (dRet (dTup (dCons (dCB dTuple (dCons (dVar 1) dNil)) (dCons (dCB dTuple (dCons (dVar 3) dNil)) dNil)))))))
abbrev n_law_low : List Str := ["state", "head", "k", "tail", "step"]
def t_law_forms_hold_c9 (C : Ct) : DS :=
    (dSeq (dSet 7 (dOp dAdd (dOp dAdd (dCB dLen (dCons (dOp dIx (dVar 2) (dC (.int 0))) dNil)) (dOp dMul (dC (.int 300)) (dCB dLen (dCons (dOp dIx (dVar 2) (dC (.int 1))) dNil)))) (dOp dMul (dC (.int 2)) (dCall sp_law_period E0D (dCons (dVar 1) (dCons (dVar 2) dNil))))))
    (dSeq (dFor (iSeqD (dOp dAdd (dLc (iRng1D (dCons (dVar 7) dNil)) true [8] [8] dYes (dVar 8)) (dLst (dCons (dCall sp_law_far E0D (dCons (dVar 0) dNil)) (dCons (dCall sp_law_far E0D (dCons (dVar 0) dNil)) (dCons (dOp dAdd (dVar 7) (dCall sp_law_draw E0D (dCons (dVar 0) (dCons (dC (.int 999)) dNil)))) dNil)))))) (gD true [8]) (dIfS (dTest (dOp dNe (dCall sp_law_value E0D (dCons (dVar 6) (dCons (dVar 8) dNil))) (dCall sp_law_due E0D (dCons (dVar 1) (dCons (dCall sp_law_less E0D (dCons (dVar 2) (dCons (dVar 8) (dCons (dVar 5) dNil)))) dNil))))) (dRet (dC (.bl false))) dNext))
    (dRet (dOp dEq (dCall (sp_due_form C) E0D (dCons (dVar 1) (dCons (dCall sp_law_stretched E0D (dCons (dVar 0) (dCons (dVar 2) dNil))) (dCons (dVar 5) dNil)))) (dVar 6)))))
def t_law_forms_hold_c8 (C : Ct) : DS :=
    (dSeq (dIfS (dTNot (dTruth (dCall sp_law_is_normal E0D (dCons (dVar 6) dNil)))) (dRet (dC (.bl false))) dNext)
    (t_law_forms_hold_c9 C))
def t_law_forms_hold_c5 (C : Ct) : DS :=
    (dSeq (dSet 1 (dTup (dCons (dOp dIx (dVar 1) (dC (.int 0))) (dCons (dVar 4) (dCons (dVar 3) dNil)))))
    (dSeq (dSet 5 (dOp dSub (dCall sp_law_draw E0D (dCons (dVar 0) (dCons (dC (.int 120)) dNil))) (dC (.int 15))))
    (dSeq (dSet 6 (dCall (sp_due_form C) E0D (dCons (dVar 1) (dCons (dVar 2) (dCons (dVar 5) dNil)))))
    (t_law_forms_hold_c8 C))))
def t_law_forms_hold (C : Ct) : DS :=
    (dSeq (dSet 2 (dCall sp_law_low E0D (dCons (dVar 0) dNil)))
    (dSeq (dSet 3 (dOp dMod (dCB dInt (dCons (dOp dIx (dVar 1) (dC (.int 2))) dNil)) (dC (.int 150))))
    (dSeq (dSet 4 (dOp dIx (dVar 1) (dC (.int 1))))
    (dSeq (dIfS (dTest (dOp dGt (dCall sp_law_period E0D (dCons (dTup (dCons (dOp dIx (dVar 1) (dC (.int 0))) (dCons (dVar 4) (dCons (dVar 3) dNil)))) (dCons (dVar 2) dNil))) (dC (.int 400)))) (dSet 4 (dOp dAdd (dC (.int 1)) (dOp dMod (dCB dInt (dCons (dVar 4) dNil)) (dC (.int 7))))) dNext)
    (dSeq (dIfS (dTest (dOp dGt (dCall sp_law_period E0D (dCons (dTup (dCons (dOp dIx (dVar 1) (dC (.int 0))) (dCons (dVar 4) (dCons (dVar 3) dNil)))) (dCons (dVar 2) dNil))) (dC (.int 400)))) (dSet 4 (dC (.int 1))) dNext)
    (t_law_forms_hold_c5 C))))))
abbrev n_law_forms_hold : List Str := ["state", "rule", "form", "least", "unit", "paid", "told", "end", "x"]
def t_law_told (C : Ct) : DS :=
    (dTry (fun E => (dRet (dTup (dCons (dC (.str "told")) (dCons (dCallS (sp_due_form C) E (dCons (dVar 0) (dCons (dVar 1) (dCons (dVar 2) dNil)))) dNil))))) (exV C "TooLarge") (dRet (dTup (dCons (dC (.str "large")) (dCons (dC .non) dNil)))) dNext)
abbrev n_law_told : List Str := ["rule", "form", "paid"]
def t_law_bounds_hold_c10 (C : Ct) : DS :=
    (dSeq (dUnp [8, 9, 5, 10, 11] (dOp dIx (dVar 6) (dCall sp_law_draw E0D (dCons (dVar 0) (dCons (dC (.int 3)) dNil)))))
    (dSeq (dUnp [12, 13] (dCall (sp_law_told C) E0D (dCons (dVar 8) (dCons (dVar 9) (dCons (dVar 5) dNil)))))
    (dSeq (dIfS (dTruth (dVar 11)) (dRet (dOp dEq (dVar 12) (dC (.str "large")))) dNext)
    (dSeq (dIfS (dTOr (dTest (dOp dNe (dVar 12) (dC (.str "told")))) (dTOr (dTNot (dTruth (dCall sp_law_is_form E0D (dCons (dVar 13) dNil)))) (dTest (dOp dNe (dCB dLen (dCons (dOp dIx (dVar 13) (dC (.int 0))) dNil)) (dVar 10))))) (dRet (dC (.bl false))) dNext)
    (dSeq (dFor (iSeqD (dLst (dCons (dC (.int 0)) (dCons (dC (.int 1)) (dCons (dCB dMax (dCons (dC (.int 0)) (dCons (dOp dSub (dVar 10) (dC (.int 1))) dNil))) (dCons (dVar 10) (dCons (dOp dAdd (dVar 10) (dC (.int 1))) (dCons (dOp dAdd (dVar 10) (dC (.int 2000))) (dCons (dCall sp_law_draw E0D (dCons (dVar 0) (dCons (dC (.int 4000)) dNil))) (dCons (dCall sp_law_far E0D (dCons (dVar 0) dNil)) dNil)))))))))) (gD true [14]) (dIfS (dTest (dOp dNe (dCall sp_law_value E0D (dCons (dVar 13) (dCons (dVar 14) dNil))) (dCall sp_law_due E0D (dCons (dVar 8) (dCons (dCall sp_law_less E0D (dCons (dVar 9) (dCons (dVar 14) (dCons (dVar 5) dNil)))) dNil))))) (dRet (dC (.bl false))) dNext))
    (dRet (dC (.bl true))))))))
def t_law_bounds_hold_c9 (C : Ct) : DS :=
    (dSeq (dDrop (dMtL dAppend (dVar 6) (dCons (dTup (dCons (dTup (dCons (dC (.int 1)) (dCons (dVar 7) (dCons (dC (.int 0)) dNil)))) (dCons (dTup (dCons (dTup dNil) (dCons (dTup (dCons (dTup (dCons (dC (.int 0)) (dCons (dC (.int 1)) dNil))) (dCons (dTup (dCons (dC (.int 7)) (dCons (dC (.int 1)) dNil))) dNil))) dNil))) (dCons (dUn dNeg (dC (.int 1))) (dCons (dC (.int 0)) (dCons (dOp dGt (dOp dMul (dC (.int 2)) (dVar 7)) (dC (.int 1000))) dNil)))))) dNil)))
    (t_law_bounds_hold_c10 C))
def t_law_bounds_hold_c6 (C : Ct) : DS :=
    (dSeq (dSet 6 (dLstM (dCons (dTup (dCons (dTup (dCons (dVar 3) (dCons (dC (.int 1)) (dCons (dVar 2) dNil)))) (dCons (dTup (dCons (dTup dNil) (dCons (dTup (dCons (dTup (dCons (dC (.int 0)) (dCons (dC (.int 1)) dNil))) dNil)) dNil))) (dCons (dVar 5) (dCons (dVar 1) (dCons (dOp dGt (dVar 1) (dC (.int 4000))) dNil)))))) dNil)))
    (dSeq (dDrop (dMtL dAppend (dVar 6) (dCons (dTup (dCons (dTup (dCons (dVar 3) (dCons (dC (.int 1)) (dCons (dC (.int 0)) dNil)))) (dCons (dTup (dCons (dTup dNil) (dCons (dTup (dCons (dTup (dCons (dOp dAdd (dVar 1) (dC (.int 9))) (dCons (dUn dNeg (dC (.int 1))) dNil))) dNil)) dNil))) (dCons (dC (.int 9)) (dCons (dVar 1) (dCons (dOp dGt (dVar 1) (dC (.int 4000))) dNil)))))) dNil)))
    (dSeq (dSet 7 (dOp dSub (dOp dAdd (dC (.int 500)) (dCall sp_law_draw E0D (dCons (dVar 0) (dCons (dC (.int 5)) dNil)))) (dC (.int 2))))
    (t_law_bounds_hold_c9 C))))
def t_law_bounds_hold (C : Ct) : DS :=
    (dSeq (dSet 1 (dCB dMax (dCons (dC (.int 1)) (dCons (dOp dSub (dOp dAdd (dC (.int 4000)) (dCall sp_law_draw E0D (dCons (dVar 0) (dCons (dC (.int 5)) dNil)))) (dC (.int 2))) dNil))))
    (dSeq (dSet 2 (dOp dIx (dLst (dCons (dC (.int 0)) (dCons (dC (.int 1)) (dCons (dOp dAdd (dC (.int 2)) (dCall sp_law_draw E0D (dCons (dVar 0) (dCons (dC (.int 900)) dNil)))) dNil)))) (dCall sp_law_draw E0D (dCons (dVar 0) (dCons (dC (.int 3)) dNil)))))
    (dSeq (dIfS (dTest (dOp dEq (dCall sp_law_draw E0D (dCons (dVar 0) (dCons (dC (.int 3)) dNil))) (dC (.int 0)))) (dSet 1 (dOp dAdd (dC (.int 1000)) (dCall sp_law_draw E0D (dCons (dVar 0) (dCons (dC (.int 5000)) dNil))))) dNext)
    (dSeq (dSet 3 (dOp dAdd (dC (.int 1)) (dCall sp_law_draw E0D (dCons (dVar 0) (dCons (dC (.int 10)) dNil)))))
    (dSeq (dSet 4 (dOp dFdiv (dOp dSub (dOp dAdd (dVar 2) (dVar 3)) (dC (.int 1))) (dVar 3)))
    (dSeq (dSet 5 (dOp dSub (dVar 1) (dOp dMul (dVar 4) (dCB dInt (dCons (dOp dGt (dVar 4) (dC (.int 1))) dNil)))))
    (t_law_bounds_hold_c6 C)))))))
abbrev n_law_bounds_hold : List Str := ["state", "near", "least", "factor", "steps", "paid", "cases", "unit", "rule", "form", "length", "large", "answer", "told", "x"]
def t_law : DS :=
    (dSeq (dSet 1 (dCall sp_law_state E0D (dCons (dVar 0) dNil)))
    (dSeq (dSet 2 (dCall sp_law_rule E0D (dCons (dVar 1) dNil)))
    (dRet (dAnd (dCall sp_law_amounts_hold E0D (dCons (dVar 1) (dCons (dVar 2) dNil))) (dAnd (dCall sp_law_forms_hold E0D (dCons (dVar 1) (dCons (dVar 2) dNil))) (dCall sp_law_bounds_hold E0D (dCons (dVar 1) dNil)))))))
abbrev n_law : List Str := ["script", "state", "rule"]

theorem len_law_draw : ∀ ds M Q E, sp_law_draw ds M Q E → ds.length = 2 := by rintro _ _ _ _ ⟨a, l, rfl, _⟩; rfl
def t_draw_half : DS :=
    (dSeq (dStore (dOp dSub (dOp dIx (dVar 0) (dC (.int 3))) (dC (.int 1))) (dVar 0) (dC (.int 3)) dSetL)
    (dSeq (dIfS (dTruth (dOp dIx (dVar 0) (dC (.int 4)))) (dSeq (dSet 3 (dOp dMod (dCB dInt (dCons (dOp dIx (dVar 0) (dC (.int 2))) dNil)) (dVar 1)))
    (dSeq (dStore (dOp dFdiv (dOp dIx (dVar 0) (dC (.int 2))) (dVar 1)) (dVar 0) (dC (.int 2)) dSetL)
    (dSeq (dIfS (dTest (dOp dEq (dOp dIx (dVar 0) (dC (.int 2))) (dC (.int 0)))) (dStore (dC (.int 0)) (dVar 0) (dC (.int 3)) dSetL) dNext)
    (dRet (dVar 3))))) dNext)
    (dSeq (dSet 4 (dOp dMod (dCB dInt (dCons (dOp dAdd (dOp dAdd (dOp dMul (dOp dIx (dVar 0) (dC (.int 2))) (dC (.int 48271))) (dOp dMul (dOp dIx (dVar 0) (dC (.int 3))) (dC (.int 69621)))) (dC (.int 7))) dNil)) (dC (.int 2147483647))))
    (dSeq (dSet 4 (dOp dMod (dCB dInt (dCons (dOp dAdd (dOp dAdd (dOp dMul (dVar 4) (dVar 4)) (dOp dMul (dOp dIx (dVar 0) (dC (.int 2))) (dC (.int 31)))) (dOp dIx (dVar 0) (dC (.int 3)))) dNil)) (dC (.int 1000003))))
    (dRet (dOp dMod (dCB dInt (dCons (dVar 4) dNil)) (dVar 1)))))))
theorem draw_half (M : Mp) (Q : QD) (a : Addr) (lim : Int) (h0 : 0 < lim) (h1 : lim < 2 ^ 64) (x y z : Option D) (q : ∀ (d : Int) (M' : Mp), 0 ≤ d → d < lim → Drawn M a M' → Q (.int d) M') (h : StOk M a) :
    t_draw_half (fnE Q) [some (.ref a), some (.int lim), x, y, z] M := by
  obtain ⟨ns, i, c, k, b, hM, hi⟩ := h
  unfold t_draw_half
  walk_at "g"
  refine b_any (fun e => ?_) (fun e => ?_) <;> subst e
  · walk_at "g"
    refine s_I h0 ?_
    walk_at "g"
    refine s_I (wide_div (b := 64) h0 (by omega) (by decide) (by decide)) ?_
    walk_at "g"
    all_goals exact s_end (q _ _ (Int.emod_nonneg _ (by omega)) (Int.emod_lt_of_pos _ h0) (.of hi))
  · walk_at "g"
    refine s_mul (.inl (.inr ⟨by decide, by decide⟩)) ?_
    walk_at "g"
    refine s_mul (.inl (.inr ⟨by decide, by decide⟩)) ?_
    walk_at "g"
    refine s_I (by decide) ?_
    walk_at "g"
    refine s_mul (.inl (.inr ?_)) ?_
    · generalize c * 48271 + (k - 1) * 69621 + 7 = w
      have := Int.emod_nonneg w (b := 2147483647) (by decide)
      have := Int.emod_lt_of_pos w (b := 2147483647) (by decide)
      omega
    walk_at "g"
    refine s_mul (.inl (.inr ⟨by decide, by decide⟩)) ?_
    walk_at "g"
    refine s_I (by decide) ?_
    walk_at "g"
    refine s_I h0 ?_
    exact s_end (q _ _ (Int.emod_nonneg _ (by omega)) (Int.emod_lt_of_pos _ h0) (.of hi))
theorem rd_law_draw : Rds t_law_draw n_law_draw sp_law_draw := by
  rintro _ M Q E ⟨a, lim, rfl, h0, h1, ⟨ns, i, c, k, b, hM, hi⟩, q⟩
  show dSeq _ t_draw_half (fnE Q) [some (.ref a), some (.int lim), none, none, none] M
  with_reducible refine s_seq ?_
  have q' : ∀ M1, Drawn M a M1 → ∀ (d : Int) (M' : Mp), 0 ≤ d → d < lim → Drawn M1 a M' → Q (.int d) M' := fun M1 h d M' e1 e2 e3 => q d M' e1 e2 (h.trans e3)
  have self : Drawn M a M := ⟨⟨ns, i, c, k, b, hM, hi⟩, fun _ _ => rfl⟩
  walk_at "g"
  · exact s_end (q 0 M (by omega) h0 self)
  · rename_i hk hl
    rw [List.length_map] at hl
    have hl2 : i.toNat < ns.length := by omega
    refine s_ix (d := .int ns[i.toNat]) rfl (by rw [atI_toNat hi, List.getElem?_map, List.getElem?_eq_getElem hl2]; rfl) ?_
    walk_at "g"
    all_goals refine s_I ⟨by decide, by decide, by decide⟩ ?_
    all_goals walk_at "g"
    all_goals exact draw_half _ _ _ _ h0 h1 _ _ _ (q' _ (.of (by omega))) (Drawn.of (M := M) (by omega)).ok
  · exact draw_half _ _ _ _ h0 h1 _ _ _ (q' _ self) self.ok
theorem len_law_state : ∀ ds M Q E, sp_law_state ds M Q E → ds.length = 1 := by rintro _ _ _ _ ⟨a, rfl, _⟩; rfl
theorem rd_law_state : Rds t_law_state n_law_state sp_law_state := by
  rintro _ M Q E ⟨ns, rfl, hl, q⟩
  show t_law_state _ [some (.lsk (ns.map .int))] M
  unfold t_law_state
  walk_at "g"
  intro p hp
  exact s_end (q p _ hp ⟨_, _, _, _, _, updM_same, by decide⟩ fun b h => updM_ne h)

theorem len_value_at : ∀ ds M Q E, sp_value_at ds M Q E → ds.length = 2 := by rintro _ _ _ _ ⟨_, _, _, _, rfl, _⟩; rfl
theorem fdiv_small {x L P : Int} {m : Nat} (h0 : 0 ≤ x) (h1 : x.natAbs < 2 ^ m) (h2 : 0 ≤ L) (h3 : L ≤ x) (h4 : 0 < P) : ((x - L) / P).natAbs < 2 ^ m := by
  have h5 : 0 ≤ (x - L) / P := Int.ediv_nonneg (by omega) (by omega)
  have h6 : (x - L) / P ≤ x - L := Int.ediv_le_self _ (by omega)
  omega

theorem rd_value_at : Rds t_value_at n_value_at sp_value_at := by
  rintro _ M Q E ⟨f, x, n, m, rfl, hp, hP, hb, hx, hn, hm, hnm, hL, q⟩
  show t_value_at _ [some (.tup [.tup (f.head.map encO), .tup (f.tail.map encP)]), some (.int x), none, none, none, none, none] M
  unfold t_value_at
  walk_at "g"
  · rename_i h
    unfold Frm.val at q
    rw [if_pos h] at q
    exact s_end q
  · rename_i h0 h1
    rw [List.length_map] at h1
    unfold Frm.val at q
    rw [if_neg h0, if_pos h1] at q
    have h2 : x.toNat < f.head.length := by omega
    refine s_ix (d := encO (f.head.getD x.toNat none)) rfl ?_ (s_end q)
    rw [atI_toNat (by omega), List.getElem?_map, List.getElem?_eq_getElem h2, getD_of (List.getElem?_eq_getElem h2)]; rfl
  · rename_i h0 h1
    rw [List.length_map] at h1
    unfold Frm.val at q
    rw [if_neg h0, if_neg h1] at q
    have hP0 : (0 : Int) < f.tail.length := by omega
    refine s_I (by show (0 : Int) < ((f.tail.map encP).length : Int); rw [List.length_map]; exact hP0) ?_
    rw [List.length_map, List.length_map]
    generalize hj : (x - (f.head.length : Int)) % (f.tail.length : Int) = j at q ⊢
    have j0 : 0 ≤ j := by rw [← hj]; exact Int.emod_nonneg _ (by omega)
    have j1 : j < f.tail.length := by rw [← hj]; exact Int.emod_lt_of_pos _ hP0
    have j2 : j.toNat < f.tail.length := by omega
    rw [getD_of (List.getElem?_eq_getElem j2)] at q
    walk_at "g"
    refine s_ix (d := encP f.tail[j.toNat]) rfl (by rw [atI_toNat j0, List.getElem?_map, List.getElem?_eq_getElem j2]; rfl) ?_
    have hmem := hb _ (List.getElem_mem j2)
    generalize f.tail[j.toNat] = p at q hmem ⊢
    obtain ⟨v, s⟩ := p
    unfold encP
    walk_at "g"
    rw [encO_isN]
    cases v with
    | none => exact b_true (by walk_at "g"; exact s_end q)
    | some v =>
      refine b_false ?_
      simp only [encO]
      walk_at "g"
      refine s_I ⟨by rw [List.length_map]; omega, ?_⟩ ?_
      · rw [List.length_map]
        exact Nat.lt_of_lt_of_le (PySem.Flt.log2_lt_of (k := 20) (by decide) (by omega)) (by decide)
      simp only [List.length_map]
      walk_at "g"
      refine s_mul (.inr (wide_mul hmem (fdiv_small (by omega) hx (by omega) (by omega) hP0) hn hm hnm)) ?_
      walk_at "g"
      exact s_end q

theorem ipow_le {a m n : Nat} (h : m ≤ n) (ha : 0 < a) : (a : Int) ^ m ≤ (a : Int) ^ n := by
  rw [← Int.natCast_pow, ← Int.natCast_pow]
  exact Int.ofNat_le.mpr (Nat.pow_le_pow_right ha h)
theorem Drawn.self {M : Mp} {a : Addr} (h : StOk M a) : Drawn M a M := ⟨h, fun _ _ => rfl⟩
theorem cut_to {α : Type} (xs : List α) {i : Nat} (h : i ≤ xs.length) : cutD xs none (some (i : Int)) = xs.take i := by
  unfold cutD
  rw [HT.sIx_none, HT.sIx_nat, Nat.min_eq_left h, List.drop_zero, Nat.sub_zero]
theorem cut_from {α : Type} (xs : List α) {i : Nat} (h : i ≤ xs.length) : cutD xs (some (i : Int)) none = xs.drop i := by
  unfold cutD
  rw [HT.sIx_none, HT.sIx_nat, Nat.min_eq_left h]
  exact List.take_of_length_le (by rw [List.length_drop]; omega)
theorem put_set {α : Type} (xs : List α) {i : Nat} (d : α) (h : i < xs.length) : xs.take i ++ [d] ++ xs.drop (i + 1) = xs.set i d := by
  rw [List.set_eq_take_append_cons_drop, if_pos h]
  simp
theorem small_line {n : Nat} (h : n ≤ 1000000) : n ≤ sizeLine := Nat.le_trans h (by decide)

theorem len_law_value : ∀ ds M Q E, sp_law_value ds M Q E → ds.length = 2 := len_value_at
theorem rd_law_value : Rds t_law_value n_law_value sp_law_value := by
  rintro _ M Q E ⟨f, x, n, m, rfl, hp, hP, hb, hx, hn, hm, hnm, hL, q⟩
  show t_law_value _ [some (.tup [.tup (f.head.map encO), .tup (f.tail.map encP)]), some (.int x), none, none, none] M
  unfold t_law_value
  walk_at "g"
  · rename_i h
    unfold Frm.val at q
    rw [if_pos h] at q
    exact s_end q
  · rename_i h0 h1
    rw [List.length_map] at h1
    unfold Frm.val at q
    rw [if_neg h0, if_pos h1] at q
    have h2 : x.toNat < f.head.length := by omega
    refine s_ix (d := encO (f.head.getD x.toNat none)) rfl ?_ (s_end q)
    rw [atI_toNat (by omega), List.getElem?_map, List.getElem?_eq_getElem h2, getD_of (List.getElem?_eq_getElem h2)]; rfl
  · rename_i h0 h1
    rw [List.length_map] at h1
    unfold Frm.val at q
    rw [if_neg h0, if_neg h1] at q
    have hP0 : (0 : Int) < f.tail.length := by omega
    refine s_I (by show (0 : Int) < ((f.tail.map encP).length : Int); rw [List.length_map]; exact hP0) ?_
    rw [List.length_map, List.length_map]
    generalize hj : (x - (f.head.length : Int)) % (f.tail.length : Int) = j at q ⊢
    have j0 : 0 ≤ j := by rw [← hj]; exact Int.emod_nonneg _ (by omega)
    have j1 : j < f.tail.length := by rw [← hj]; exact Int.emod_lt_of_pos _ hP0
    have j2 : j.toNat < f.tail.length := by omega
    rw [getD_of (List.getElem?_eq_getElem j2)] at q
    walk_at "g"
    refine s_ix (d := encP f.tail[j.toNat]) rfl (by rw [atI_toNat j0, List.getElem?_map, List.getElem?_eq_getElem j2]; rfl) ?_
    have hmem := hb _ (List.getElem_mem j2)
    generalize f.tail[j.toNat] = p at q hmem ⊢
    obtain ⟨v, s⟩ := p
    unfold encP
    walk_at "g"
    rw [encO_isN]
    cases v with
    | none => exact b_true (by walk_at "g"; exact s_end q)
    | some v =>
      refine b_false ?_
      simp only [encO]
      walk_at "g"
      refine s_I ⟨by rw [List.length_map]; omega, ?_⟩ ?_
      · rw [List.length_map]
        exact Nat.lt_of_lt_of_le (PySem.Flt.log2_lt_of (k := 20) (by decide) (by omega)) (by decide)
      simp only [List.length_map]
      walk_at "g"
      refine s_mul (.inr (wide_mul hmem (fdiv_small (by omega) hx (by omega) (by omega) hP0) hn hm hnm)) ?_
      walk_at "g"
      exact s_end q

theorem two_pow_le {a b : Nat} (h : a ≤ b) : 2 ^ a ≤ 2 ^ b := Nat.pow_le_pow_right (by decide) h
theorem nat_mul_lt {a b x y : Nat} (h : a < 2 ^ x) (g : b ≤ 2 ^ y) : a * b < 2 ^ (x + y) := by
  rw [Nat.pow_add]
  have h9 : 0 < 2 ^ y := Nat.pow_pos (by decide)
  calc a * b ≤ a * 2 ^ y := Nat.mul_le_mul_left _ g
    _ < 2 ^ x * 2 ^ y := Nat.mul_lt_mul_of_pos_right h h9
theorem log2_20 {i : Int} (h : i.natAbs < 2 ^ 20) : i.natAbs.log2 < 9000 := Nat.lt_of_lt_of_le (PySem.Flt.log2_lt_of (k := 20) (by decide) h) (by decide)
theorem log2_w {i : Int} {n : Nat} (h : i.natAbs < 2 ^ n) (hn : 0 < n) (h2 : n ≤ 9000) : i.natAbs.log2 < 9000 := Nat.lt_of_lt_of_le (PySem.Flt.log2_lt_of hn h) h2
theorem sm64 {i : Int} (h : i.natAbs ≤ 1000000000) : -(2 ^ 64) < i ∧ i < 2 ^ 64 := by omega
theorem scal_int (i j : Int) : scalD (.int i) (.int j) = some (decide (i = j)) := rfl
theorem intsOf_mapG {α : Type} (g : α → Int) : ∀ xs : List α, intsOf (xs.map fun a => D.int (g a)) = some (xs.map g)
  | [] => rfl
  | x :: xs => by
    show (intsOf (xs.map fun a => D.int (g a))).map (g x :: ·) = _
    rw [intsOf_mapG g xs]; rfl
theorem s_minL {x : D} {M : Mp} {Q : QD} {ds : List D} {ns : List Int} (e : lsOf M x = some ds) (e2 : intsOf ds = some ns) (hl : 0 < ns.length) (h : ∀ m, m ∈ ns → (∀ y, y ∈ ns → m ≤ y) → Q (.int m) M) (hx : ∀ i, x ≠ .int i) : dMin [x] M Q := by
  unfold dMin
  simp only [e, e2]
  exact ⟨hl, h⟩
theorem s_abs {i : Int} {M : Mp} {Q : QD} (h : Q (.int (if i < 0 then -i else i)) M) : dAbs [.int i] M Q := h
theorem s_eqD {p q : PyData} {x y : D} {M : Mp} {Q : QD} (e0 : scalD x y = none) (e1 : (drf M x).py = some p) (e2 : (drf M y).py = some q) (h1 : SeqAt.shaped p = true) (h2 : SeqAt.shaped q = true) (h : Q (.bl (PyData.eqv p q)) M) : dEq x y M Q := by
  unfold dEq dEqS
  simp only [e0, e1, e2]
  exact ⟨h1, h2, h⟩
theorem s_neDF {p q : PyData} {x y : D} {M : Mp} {Q : QD} (e0 : scalD x y = none) (e1 : (drf M x).py = some p) (e2 : (drf M y).py = some q) (h1 : SeqAt.shaped p = true) (h2 : SeqAt.shaped q = true) (h : Q (.bl (!PyData.eqv p q)) M) : dNe x y M Q := by
  unfold dNe dEqS
  simp only [e0, e1, e2]
  exact ⟨h1, h2, h⟩

theorem tailVal_add (p : Option Int × Int) (j m : Int) : tailVal p (j + m) = (tailVal p j).map (· + p.2 * m) := by
  obtain ⟨v, s⟩ := p
  cases v with
  | none => rfl
  | some v =>
    show some _ = some _
    congr 1
    show v + s * (j + m) = v + s * j + s * m
    rw [Int.mul_add, Int.add_assoc]
theorem tailAt_shift (t : Tl) (k m : Int) : tailAt t (k + t.length * m) = tailAt t k := by unfold tailAt; rw [Int.add_mul_emod_self_left]
theorem ts_shift (t : Tl) (k m : Int) : ts t (k + t.length * m) = ts t k := by unfold ts; rw [tailAt_shift]
theorem tv_shift {t : Tl} (h : 0 < t.length) (k m : Int) : tv t (k + t.length * m) = (tv t k).map (· + ts t k * m) := by
  unfold tv
  rw [tailAt_shift, Int.add_mul_ediv_left _ _ (by omega), tailVal_add]
  rfl
theorem HP.all {t : Tl} {q : Nat} (h0 : 0 < t.length) (h : HP t q) (k : Int) : Lk t q k := by
  have hp : (0 : Int) < t.length := by omega
  have e := Int.emod_add_mul_ediv k t.length
  have := h (k % t.length) (Int.emod_nonneg _ (by omega)) (Int.emod_lt_of_pos _ hp)
  generalize k % t.length = i at e this
  generalize k / t.length = m at e
  subst e
  have e2 : i + t.length * m + q = i + q + t.length * m := by omega
  unfold Lk at this ⊢
  rw [e2, tv_shift h0, tv_shift h0, ts_shift, ts_shift]
  rcases this with ⟨a, b⟩ | ⟨a, b, ha, hb, hs, hq⟩
  · left; rw [a, b]; exact ⟨rfl, rfl⟩
  · right
    rw [ha, hb, ← hs]
    refine ⟨_, _, rfl, rfl, rfl, ?_⟩
    rw [← hq]
    congr 1
    show (b + ts t i * m) - (a + ts t i * m) = b - a
    omega
theorem HP.run {t : Tl} {q : Nat} (h0 : 0 < t.length) (h : HP t q) (k : Int) : ∀ m : Nat, tv t (k + q * m) = (tv t k).map (· + ts t k * q / t.length * m) ∧ (tv t k ≠ none → ts t (k + q * m) = ts t k)
  | 0 => by
    rw [show k + (q : Int) * ((0 : Nat) : Int) = k by simp]
    refine ⟨?_, fun _ => rfl⟩
    cases tv t k <;> simp
  | m + 1 => by
    obtain ⟨e1, e2⟩ := HP.run h0 h k m
    have e3 : k + (q : Int) * ((m + 1 : Nat) : Int) = k + q * m + q := by rw [Int.natCast_add, Int.mul_add]; omega
    rw [e3]
    rcases h.all h0 (k + q * m) with ⟨a, b⟩ | ⟨a, b, ha, hb, hs, hq⟩
    · rw [b]
      rw [a] at e1
      cases e4 : tv t k with
      | none => exact ⟨rfl, fun z => absurd rfl z⟩
      | some x => rw [e4] at e1; cases e1
    · cases e4 : tv t k with
      | none => rw [e4] at e1; rw [e1] at ha; cases ha
      | some x =>
        have e5 := e2 (by rw [e4]; exact fun z => by cases z)
        rw [e4] at e1
        rw [e5] at hq hs
        refine ⟨?_, fun _ => by rw [← hs]⟩
        rw [hb]
        rw [e1] at ha
        have ha : x + ts t k * q / t.length * m = a := Option.some.inj ha
        have hc : ts t k * q / t.length = b - a := by rw [← hq, Int.mul_ediv_cancel _ (by omega)]
        show some b = some (x + ts t k * q / t.length * ((m + 1 : Nat) : Int))
        rw [Int.natCast_add, Int.mul_add, ← Int.add_assoc, ha, hc]
        congr 1
        omega
theorem shrunk_len {t : Tl} {q : Nat} (h : q ≤ t.length) : (shrunk t q).length = q := by unfold shrunk; rw [List.length_map, List.length_take]; omega
theorem tv_shrunk {t : Tl} {q : Nat} (h0 : 0 < q) (h1 : q ≤ t.length) (h : HP t q) (k : Int) (hk : 0 ≤ k) : tv (shrunk t q) k = tv t k := by
  have e := Int.emod_add_mul_ediv k q
  have i0 : 0 ≤ k % q := Int.emod_nonneg _ (by omega)
  have i1 : k % q < q := Int.emod_lt_of_pos _ (by omega)
  have m0 : 0 ≤ k / q := Int.ediv_nonneg hk (by omega)
  unfold tv tailAt
  rw [shrunk_len h1]
  generalize hi : k % q = i at *
  generalize hm : k / q = m at *
  have hj : i.toNat < t.length := by omega
  have e1 : (shrunk t q).getD i.toNat (none, 0) = (t[i.toNat].1, t[i.toNat].2 * q / t.length) := by
    unfold shrunk
    refine getD_of ?_
    rw [List.getElem?_map, List.getElem?_take_of_lt (by omega), List.getElem?_eq_getElem hj]; rfl
  rw [e1]
  have e2 := (h.run (by omega) i m.toNat).1
  have e3 : (m.toNat : Int) = m := by omega
  have e4 : tailAt t i = t[i.toNat] := by
    unfold tailAt
    rw [Int.emod_eq_of_lt i0 (by omega)]
    exact getD_of (List.getElem?_eq_getElem hj)
  have e5 : tv t i = t[i.toNat].1 := by
    unfold tv
    rw [e4, Int.ediv_eq_zero_of_lt i0 (by omega)]
    unfold tailVal
    cases t[i.toNat].1 <;> simp
  rw [e3, e, e5] at e2
  show _ = tv t k
  rw [e2]
  unfold tailVal ts
  rw [e4]
theorem TOk.mono {t : Tl} {n m : Nat} (h : TOk t n) (hn : n ≤ m) : TOk t m := ⟨h.t0, h.tl, fun p hp => by
  obtain ⟨a, b, c⟩ := h.th p hp
  exact ⟨fun i e => Nat.lt_of_lt_of_le (a i e) (two_pow_le hn), Nat.lt_of_lt_of_le b (two_pow_le hn), c⟩, by have := h.n0; omega⟩
theorem shrunk_ok {t : Tl} {n q : Nat} (h : TOk t n) (h0 : 0 < q) (h1 : q ≤ t.length) : TOk (shrunk t q) (n + 20) := by
  refine ⟨by rw [shrunk_len h1]; exact h0, by rw [shrunk_len h1]; have := h.tl; omega, fun p hp => ?_, by omega⟩
  unfold shrunk at hp
  obtain ⟨r, hr, rfl⟩ := List.mem_map.mp hp
  obtain ⟨a, b, c⟩ := h.th r (List.mem_of_mem_take hr)
  refine ⟨fun i e => Nat.lt_of_lt_of_le (a i e) (two_pow_le (by omega)), ?_, fun e => ?_⟩
  · refine Nat.lt_of_le_of_lt (Int.natAbs_ediv_le_natAbs _ _) ?_
    rw [Int.natAbs_mul]
    refine nat_mul_lt b ?_
    have := h.tl
    have : (2 : Nat) ^ 20 = 1048576 := by decide
    omega
  · show r.2 * q / t.length = 0
    rw [c e]; simp
theorem tailAt_bd {t : Tl} {n : Nat} (h : TOk t n) (k : Int) : bdP n (tailAt t k) := by
  have h0 := h.t0
  have i0 : 0 ≤ k % t.length := Int.emod_nonneg _ (by omega)
  have i1 : k % t.length < t.length := Int.emod_lt_of_pos _ (by omega)
  unfold tailAt
  have hj : (k % t.length).toNat < t.length := by omega
  rw [getD_of (List.getElem?_eq_getElem hj)]
  exact h.th _ (List.getElem_mem hj)
theorem tv_bd {t : Tl} {n m : Nat} (h : TOk t n) {k : Int} (hk : k.natAbs ≤ 2 ^ m) : bdO (n + m + 1) (tv t k) := by
  obtain ⟨a, b, _⟩ := tailAt_bd h k
  intro i e
  unfold tv tailVal at e
  cases e1 : (tailAt t k).1 with
  | none => rw [e1] at e; cases e
  | some v =>
    rw [e1] at e
    have e : v + (tailAt t k).2 * (k / t.length) = i := Option.some.inj e
    have h1 := a v e1
    have h2 : (k / (t.length : Int)).natAbs ≤ 2 ^ m := Nat.le_trans (Int.natAbs_ediv_le_natAbs _ _) hk
    have h3 : ((tailAt t k).2 * (k / t.length)).natAbs < 2 ^ (n + m) := by rw [Int.natAbs_mul]; exact nat_mul_lt b h2
    have h4 : 2 ^ n ≤ 2 ^ (n + m) := two_pow_le (by omega)
    rw [Nat.pow_succ]
    omega
theorem ts_none {t : Tl} {n : Nat} (h : TOk t n) {k : Int} (e : tv t k = none) : ts t k = 0 := by
  refine (tailAt_bd h k).2.2 ?_
  unfold tv tailVal at e
  cases e1 : (tailAt t k).1 with
  | none => rfl
  | some v => rw [e1] at e; cases e
theorem tail_ix {t : Tl} {n : Nat} (h : TOk t n) {k : Int} (h0 : 0 ≤ k) (h1 : k < t.length) : (t.map encP)[k.toNat]? = some (encP (tailAt t k)) := by
  have hj : k.toNat < t.length := by omega
  unfold tailAt
  rw [Int.emod_eq_of_lt h0 h1, List.getElem?_map, List.getElem?_eq_getElem hj, getD_of (List.getElem?_eq_getElem hj)]; rfl
theorem encP_mk (v : Option Int) (s : Int) : encP (v, s) = .tup [encO v, .int s] := rfl
theorem len_continued : ∀ ds M Q E, sp_continued ds M Q E → ds.length = 2 := by rintro _ _ _ _ ⟨_, _, _, rfl, _⟩; rfl
theorem rd_continued : Rds t_continued n_continued sp_continued := by
  rintro _ M Q E ⟨t, n, k, rfl, h, hk, q⟩
  show t_continued _ [some (.tup (t.map encP)), some (.int k), none, none] M
  unfold t_continued
  have h0 := h.t0
  have hl := h.tl
  have i0 : 0 ≤ k % t.length := Int.emod_nonneg _ (by omega)
  have i1 : k % t.length < t.length := Int.emod_lt_of_pos _ (by omega)
  walk_at "g"
  refine s_I (by show (0 : Int) < ((t.map encP).length : Int); rw [List.length_map]; omega) ?_
  rw [List.length_map]
  walk_at "g"
  refine s_ix (d := encP (tailAt t k)) rfl (by rw [atI_toNat i0, tail_ix h i0 i1]; unfold tailAt; rw [Int.emod_emod_of_dvd _ (Int.dvd_refl _)]) ?_
  have hb := tailAt_bd h k
  have ht : ∀ v, (tailAt t k).1 = some v → tv t k = some (v + ts t k * (k / t.length)) := fun v e => by unfold tv tailVal; rw [e]; rfl
  have hn : (tailAt t k).1 = none → tv t k = none := fun e => by unfold tv tailVal; rw [e]; rfl
  have hz : tv t k = none → ts t k = 0 := ts_none h
  have hs : ts t k = (tailAt t k).2 := rfl
  rw [hs] at q ht hz
  generalize tailAt t k = p at *
  obtain ⟨v, s⟩ := p
  unfold encP
  walk_at "g"
  rw [encO_isN]
  cases v with
  | none =>
    rw [hn rfl] at q
    have hz : s = 0 := hz (hn rfl)
    subst hz
    exact b_true (by walk_at "g"; exact s_end q)
  | some v =>
    refine b_false ?_
    rw [ht v rfl] at q
    simp only [encO]
    walk_at "g"
    refine s_I ⟨by rw [List.length_map]; omega, ?_⟩ ?_
    · rw [List.length_map]; exact log2_20 (by omega)
    rw [List.length_map]
    walk_at "g"
    refine s_mul (.inl (.inr (sm64 ?_))) ?_
    · have := Int.natAbs_ediv_le_natAbs k t.length; omega
    walk_at "g"
    exact s_end q
theorem tk_line {t : Tl} {n : Nat} (h : TOk t n) : t.length ≤ sizeLine := Nat.le_trans h.tl (by decide)
theorem len_has_period : ∀ ds M Q E, sp_has_period ds M Q E → ds.length = 2 := by rintro _ _ _ _ ⟨_, _, _, rfl, _⟩; rfl
theorem rd_has_period : Rds t_has_period n_has_period sp_has_period := by
  rintro _ M Q E ⟨t, n, z, rfl, h, hz0, hz1, q⟩
  show t_has_period _ [some (.tup (t.map encP)), some (.int z), none, none, none, none, none, none, none] M
  unfold t_has_period
  have h0 := h.t0
  have hl := h.tl
  walk_at "g"
  rw [List.length_map]
  refine s_kr1 (by omega) (by omega) ?_
  refine s_kforR (fun i τ M' => M' = M ∧ (∀ k : Int, 0 ≤ k → k < i → Lk t z k) ∧ ∃ a b c d e f, τ = [some (.tup (t.map encP)), some (.int z), some (.int t.length), a, b, c, d, e, f]) ⟨rfl, fun k k0 k1 => by omega, _, _, _, _, _, _, rfl⟩ (fun i τ M' hi ⟨e, hk, a, b, c, d, e', f, e2⟩ => ?_) (fun τ M' ⟨e, hk, a, b, c, d, e', f, e2⟩ => ?_)
  · subst e; subst e2
    have hi : i < t.length := by omega
    show dSeq _ _ _ [some (.tup (t.map encP)), some (.int z), some (.int t.length), some (.int (0 + i)), b, c, d, e', f] M'
    rw [Int.zero_add]
    walk_at "g"
    have hb := tailAt_bd h (i : Int)
    have e1 : tv t i = (tailAt t i).1 := by
      unfold tv
      rw [Int.ediv_eq_zero_of_lt (by omega) (by omega)]
      unfold tailVal
      cases (tailAt t i).1 <;> simp
    have e3 : ts t i = (tailAt t i).2 := rfl
    refine s_ix (d := encP (tailAt t i)) rfl (by rw [atI_toNat (by omega), tail_ix h (by omega) (by omega)]) ?_
    generalize tailAt t (i : Int) = p at *
    obtain ⟨v, s⟩ := p
    rw [encP_mk]
    walk_at "g"
    refine s_I ⟨by omega, log2_20 (by omega)⟩ ?_
    walk_at "g"
    have j0 : 0 ≤ ((i : Int) + z) / t.length := Int.ediv_nonneg (by omega) (by omega)
    have j1 : ((i : Int) + z) / t.length ≤ (i : Int) + z := Int.ediv_le_self _ (by omega)
    refine s_mul (.inl (.inr (sm64 (by omega)))) ?_
    walk_at "g"
    have e4 : (i : Int) + z - t.length * (((i : Int) + z) / t.length) = ((i : Int) + z) % t.length := by have := Int.emod_add_mul_ediv ((i : Int) + z) t.length; omega
    have i0 : 0 ≤ ((i : Int) + z) % t.length := Int.emod_nonneg _ (by omega)
    have i1 : ((i : Int) + z) % t.length < t.length := Int.emod_lt_of_pos _ (by omega)
    have hb2 := tailAt_bd h ((i : Int) + z)
    have e5 : tailAt t (((i : Int) + z) % t.length) = tailAt t ((i : Int) + z) := by unfold tailAt; rw [Int.emod_emod_of_dvd _ (Int.dvd_refl _)]
    have e6 : tv t ((i : Int) + z) = tailVal (tailAt t ((i : Int) + z)) (((i : Int) + z) / t.length) := rfl
    have e7 : ts t ((i : Int) + z) = (tailAt t ((i : Int) + z)).2 := rfl
    refine s_ix (d := encP (tailAt t ((i : Int) + z))) rfl (by rw [e4, atI_toNat i0, tail_ix h i0 i1, e5]) ?_
    generalize tailAt t ((i : Int) + z) = p2 at *
    obtain ⟨v2, s2⟩ := p2
    generalize hw : ((i : Int) + z) / t.length = wr at *
    have next : Lk t z i → ∀ (a b c d e f : Option D), M' = M' ∧ (∀ k : Int, 0 ≤ k → k < (i + 1 : Nat) → Lk t z k) ∧ ∃ a' b' c' d' e' f', ([some (.tup (t.map encP)), some (.int z), some (.int t.length), a, b, c, d, e, f] : SD) = [some (.tup (t.map encP)), some (.int z), some (.int t.length), a', b', c', d', e', f'] := by
      intro hL a b c d e f
      refine ⟨rfl, fun k k0 k1 => ?_, _, _, _, _, _, _, rfl⟩
      by_cases z : k = i
      · subst z; exact hL
      · exact hk k k0 (by omega)
    have stop : ¬ Lk t z i → rtQ Q (.bl false) M' := fun hL => s_end (q false ⟨fun y => (by cases y), fun y => absurd (y i (by omega) (by omega)) hL⟩)
    have hLk : Lk t z i ↔ (v = none ∧ tailVal (v2, s2) wr = none ∨ ∃ a b, v = some a ∧ tailVal (v2, s2) wr = some b ∧ s = s2 ∧ (b - a) * t.length = s * z) := by
      unfold Lk
      rw [e1, e3, e6, e7]
    rw [encP_mk]
    walk_at "g"
    rw [encO_isN]
    cases v with
    | none =>
      simp only [Option.isNone_none]
      walk_at "g"
      simp only [encO_isN, Option.isNone_none, Bool.not_true]
      walk_at "g"
      simp only [encO_isN]
      cases v2 with
      | none =>
        simp only [Option.isNone_none, Bool.not_true]
        walk_at "g"
        exact next (hLk.mpr (.inl ⟨rfl, rfl⟩)) _ _ _ _ _ _
      | some v2 =>
        simp only [Option.isNone_some, Bool.not_false]
        walk_at "g"
        exact stop (fun y => by rcases hLk.mp y with ⟨_, y⟩ | ⟨_, _, y, _⟩ <;> cases y)
    | some v =>
      simp only [Option.isNone_some]
      walk_at "g"
      rw [encO_isN]
      cases v2 with
      | none =>
        simp only [Option.isNone_none]
        walk_at "g"
        simp only [encO_isN, Option.isNone_some, Bool.not_false]
        walk_at "g"
        exact stop (fun y => by rcases hLk.mp y with ⟨y, _⟩ | ⟨_, _, _, y, _⟩ <;> cases y)
      | some v2 =>
        simp only [encO, Option.isNone_some]
        walk_at "g"
        · rename_i hne
          refine stop fun y => ?_
          rcases hLk.mp y with ⟨y, _⟩ | ⟨_, _, _, _, y, _⟩
          · cases y
          · exact hne y
        · refine s_mul (.inl (.inr (sm64 (by omega)))) ?_
          walk_at "g"
          refine s_mul (.inl (.inr (sm64 (by omega)))) ?_
          walk_at "g"
          refine s_mul (.inl (.inr (sm64 (by omega)))) ?_
          walk_at "g"
          · rename_i he hne
            refine stop fun y => ?_
            rcases hLk.mp y with ⟨y, _⟩ | ⟨a, b, y1, y2, y3, y4⟩
            · cases y
            · cases y1; cases y2; subst y3
              exact hne y4
          · rename_i he heq
            have he : s = s2 := by simpa using he
            subst he
            exact next (hLk.mpr (.inr ⟨_, _, rfl, rfl, rfl, heq⟩)) _ _ _ _ _ _
  · subst e; subst e2
    walk_at "g"
    exact s_end (q true ⟨fun _ k k0 k1 => hk k k0 k1, fun _ => rfl⟩)
theorem len_shortest_tail : ∀ ds M Q E, sp_shortest_tail ds M Q E → ds.length = 1 := by rintro _ _ _ _ ⟨_, _, rfl, _⟩; rfl
theorem rd_shortest_tail : Rds t_shortest_tail n_shortest_tail sp_shortest_tail := by
  rintro _ M Q E ⟨t, n, rfl, h, q⟩
  show t_shortest_tail _ [some (.tup (t.map encP)), none, none, none, none] M
  unfold t_shortest_tail
  have h0 := h.t0
  have hl := h.tl
  walk_at "g"
  rw [List.length_map]
  refine s_kforR (fun i τ M' => M' = M ∧ (∀ z : Nat, 0 < z → z < i + 1 → z ∣ t.length → ¬ HP t z) ∧ ∃ a b c, τ = [some (.tup (t.map encP)), some (.int t.length), a, b, c]) ⟨rfl, fun z z0 z1 => by omega, _, _, _, rfl⟩ (fun i τ M' hi ⟨e, hk, a, b, c, e2⟩ => ?_) (fun τ M' ⟨e, hk, a, b, c, e2⟩ => ?_)
  · subst e; subst e2
    have hi : i + 1 < t.length := by omega
    show dIfS _ _ _ _ [some (.tup (t.map encP)), some (.int t.length), some (.int (1 + i)), b, c] M'
    rw [show (1 : Int) + i = ((i + 1 : Nat) : Int) by omega]
    generalize hz : i + 1 = z at *
    have next : ¬ (z ∣ t.length ∧ HP t z) → ∀ a b c : Option D, M' = M' ∧ (∀ y : Nat, 0 < y → y < z + 1 → y ∣ t.length → ¬ HP t y) ∧ ∃ a' b' c', ([some (.tup (t.map encP)), some (.int t.length), a, b, c] : SD) = [some (.tup (t.map encP)), some (.int t.length), a', b', c'] := by
      intro hn a b c
      refine ⟨rfl, fun y y0 y1 yd yh => ?_, _, _, _, rfl⟩
      by_cases e : y = z
      · subst e; exact hn ⟨yd, yh⟩
      · exact hk y y0 (by omega) yd yh
    walk_at "g"
    refine s_I (by omega) ?_
    walk_at "g"
    · rename_i hd
      have hd : z ∣ t.length := by
        have : ((t.length % z : Nat) : Int) = 0 := by rw [← hd]; rfl
        exact Nat.dvd_of_mod_eq_zero (by omega)
      refine ⟨t, n, z, rfl, h, by omega, hi, fun b hb => ?_⟩
      walk_at "g"
      refine b_any (fun e => ?_) (fun e => ?_)
      · have hh := hb.mp e
        walk_at "g"
        rw [cut_to _ (by rw [List.length_map]; omega), ← List.map_take]
        walk_at "g"
        refine s_klcMap encP (fun p => encP (p.1, p.2 * z / t.length)) (fun _ => rfl) (by rw [List.length_take]; have := tk_line h; omega) (fun p hp => ⟨_, rfl, fun Q k => ?_⟩) ?_
        · obtain ⟨v, s⟩ := p
          show dTup _ [some (.tup (t.map encP)), some (.int t.length), some (.int z), some (encO v), some (.int s)] M' Q
          walk_at "g"
          refine s_mul (.inl (.inr (sm64 (by omega)))) ?_
          walk_at "g"
          refine s_I ⟨by omega, log2_20 (by omega)⟩ ?_
          walk_at "g"
          exact k
        · walk_at "g"
          have e3 : (t.take z).map (fun p => encP (p.1, p.2 * z / t.length)) = (shrunk t z).map encP := by unfold shrunk; rw [List.map_map]; rfl
          rw [e3]
          refine s_end (q _ (shrunk_ok h (by omega) (by omega)) (fun k hk => tv_shrunk (by omega) (by omega) hh k hk) (by rw [shrunk_len (by omega)]; exact hd) fun y y0 y1 yd => ?_)
          rw [shrunk_len (by omega)] at y1
          exact hk y y0 (by omega) yd
      · walk_at "g"
        exact next (fun y => by have := hb.mpr y.2; rw [e] at this; cases this) _ _ _
    · rename_i hd
      refine next (fun y => hd ?_) _ _ _
      show ((t.length : Int)) % z = 0
      have := Nat.mod_eq_zero_of_dvd y.1
      omega
  · subst e; subst e2
    walk_at "g"
    refine s_end (q t (h.mono (by omega)) (fun _ _ => rfl) (Nat.dvd_refl _) fun y y0 y1 yd => hk y y0 (by omega) yd)
theorem val_nrm {t : Tl} {head : List (Option Int)} {l : Nat} (h0 : 0 < t.length) (hl : l ≤ head.length) (hh : ∀ x : Int, l ≤ x → x < head.length → head.getD x.toNat none = tv t (x - head.length)) (x : Int) :
    (nrm t head l).val x = if x < 0 then none else if x < head.length then head.getD x.toNat none else tv t (x - head.length) := by
  unfold nrm Frm.val
  by_cases h1 : x < 0
  · rw [if_pos h1, if_pos h1]
  rw [if_neg h1, if_neg h1]
  have e1 : (head.take l).length = l := by rw [List.length_take]; omega
  simp only [e1, List.length_map, List.length_range]
  by_cases h2 : x < l
  · rw [if_pos h2, if_pos (by omega)]
    rw [List.getD_eq_getElem?_getD, List.getD_eq_getElem?_getD, List.getElem?_take_of_lt (by omega)]
  · rw [if_neg h2]
    have e2 : (if x < head.length then head.getD x.toNat none else tv t (x - head.length)) = tv t (x - head.length) := by
      split
      · exact hh x (by omega) (by omega)
      · rfl
    rw [e2]
    have hp : (0 : Int) < t.length := by omega
    have e := Int.emod_add_mul_ediv (x - l) t.length
    have i0 : 0 ≤ (x - l) % t.length := Int.emod_nonneg _ (by omega)
    have i1 : (x - l) % t.length < t.length := Int.emod_lt_of_pos _ hp
    generalize (x - l) % (t.length : Int) = i at *
    generalize (x - l) / (t.length : Int) = m at *
    have hi : i.toNat < t.length := by omega
    rw [getD_of (show _ = some (tv t (i - ((head.length : Int) - l)), ts t (i - ((head.length : Int) - l))) by
      rw [List.getElem?_map, List.getElem?_range hi]
      show some (tv t (((i.toNat : Nat) : Int) - ((head.length : Int) - l)), ts t (((i.toNat : Nat) : Int) - ((head.length : Int) - l))) = _
      rw [show ((i.toNat : Nat) : Int) = i by omega])]
    have e3 : x - head.length = (i - ((head.length : Int) - l)) + t.length * m := by omega
    rw [e3, tv_shift h0]
    rfl
theorem nrm_ok {t : Tl} {n : Nat} {f : Frm} {l : Nat} (hll : l ≤ f.head.length) (h : TOk t (n + 20)) (hf : FOk f n) : FOk (nrm t f.head l) (n + 40) := by
  have hl := hf.hl
  have htl := h.tl
  have ht0 := h.t0
  refine ⟨⟨?_, ?_, fun p hp => ?_, by omega⟩, ?_, fun v hv => ?_⟩
  · show 0 < ((List.range t.length).map _).length; rw [List.length_map, List.length_range]; exact h.t0
  · show ((List.range t.length).map _).length ≤ _; rw [List.length_map, List.length_range]; exact h.tl
  · obtain ⟨i, hi, rfl⟩ := List.mem_map.mp hp
    have hi := List.mem_range.mp hi
    · refine ⟨fun j e => ?_, ?_, fun e => ts_none h e⟩
      · have := tv_bd h (m := 18) (k := (i : Int) - ((f.head.length : Int) - l)) (by have : (2 : Nat) ^ 18 = 262144 := (by decide); omega) j e
        exact Nat.lt_of_lt_of_le this (two_pow_le (by omega))
      · exact Nat.lt_of_lt_of_le (tailAt_bd h _).2.1 (two_pow_le (by omega))
  · show (f.head.take l).length ≤ _; rw [List.length_take]; omega
  · have := hf.hd v (List.mem_of_mem_take hv)
    exact fun i e => Nat.lt_of_lt_of_le (this i e) (two_pow_le (by omega))
theorem tv_nrm {t : Tl} {head : List (Option Int)} {l : Nat} (h0 : 0 < t.length) (k : Int) : tv (nrm t head l).tail k = tv t (k - ((head.length : Int) - l)) ∧ ts (nrm t head l).tail k = ts t (k - ((head.length : Int) - l)) := by
  have hl : (nrm t head l).tail.length = t.length := by show ((List.range t.length).map _).length = _; rw [List.length_map, List.length_range]
  have i0 : 0 ≤ k % t.length := Int.emod_nonneg _ (by omega)
  have i1 : k % t.length < t.length := Int.emod_lt_of_pos _ (by omega)
  have e := Int.emod_add_mul_ediv k t.length
  have ea : tailAt (nrm t head l).tail k = (tv t (k % t.length - ((head.length : Int) - l)), ts t (k % t.length - ((head.length : Int) - l))) := by
    unfold tailAt
    rw [hl]
    generalize k % (t.length : Int) = i at *
    have hi : i.toNat < t.length := by omega
    refine getD_of ?_
    show ((List.range t.length).map _)[i.toNat]? = _
    rw [List.getElem?_map, List.getElem?_range hi]
    show some (tv t (((i.toNat : Nat) : Int) - ((head.length : Int) - l)), ts t (((i.toNat : Nat) : Int) - ((head.length : Int) - l))) = _
    rw [show ((i.toNat : Nat) : Int) = i by omega]
  have e3 : k - ((head.length : Int) - l) = (k % t.length - ((head.length : Int) - l)) + t.length * (k / t.length) := by omega
  refine ⟨?_, ?_⟩
  · unfold tv
    rw [ea, hl]
    show Option.map _ _ = _
    rw [show tailVal (tailAt t (k - (↑head.length - ↑l))) ((k - (↑head.length - ↑l)) / ↑t.length) = tv t (k - ((head.length : Int) - l)) from rfl, e3, tv_shift h0]
  · unfold ts
    rw [ea, show (tailAt t (k - ((head.length : Int) - l))).2 = ts t (k - ((head.length : Int) - l)) from rfl, e3, ts_shift]
theorem HP.of_val {t t' : Tl} {q : Nat} (h0 : 0 < t.length) (h0' : 0 < t'.length) (hd : t'.length ∣ t.length) (hv : ∀ k, 0 ≤ k → tv t' k = tv t k) (h : HP t' q) : HP t q := by
  obtain ⟨c, hc⟩ := hd
  have slope : ∀ k : Int, 0 ≤ k → tv t k ≠ none → ts t k = ts t' k * c := fun k k0 hn => by
    have a1 := tv_shift h0 k 1
    have a2 := tv_shift h0' k c
    have e : (t.length : Int) * 1 = t'.length * c := by rw [Int.mul_one, hc, Int.natCast_mul]
    rw [e] at a1
    rw [hv _ (by have : (0 : Int) ≤ t'.length * c := Int.mul_nonneg (by omega) (by omega); omega), a1, hv k k0] at a2
    cases e4 : tv t k with
    | none => exact absurd e4 hn
    | some v =>
      rw [e4] at a2
      have a2 : v + ts t k * 1 = v + ts t' k * c := Option.some.inj a2
      omega
  intro k k0 k1
  rcases h.all h0' k with ⟨a, b⟩ | ⟨a, b, ha, hb, hs, hq⟩
  · rw [hv _ (by omega)] at a b
    exact .inl ⟨a, b⟩
  · rw [hv _ (by omega)] at ha hb
    refine .inr ⟨a, b, ha, hb, ?_, ?_⟩
    · rw [slope k k0 (by rw [ha]; exact fun z => by cases z), slope (k + q) (by omega) (by rw [hb]; exact fun z => by cases z), hs]
    · rw [slope k k0 (by rw [ha]; exact fun z => by cases z), hc, Int.natCast_mul, ← Int.mul_assoc, hq, Int.mul_right_comm]
theorem norm_nrm {t t0 : Tl} {head : List (Option Int)} {l : Nat} (h0 : 0 < t.length) (h00 : 0 < t0.length) (hd : t.length ∣ t0.length) (hv : ∀ k, 0 ≤ k → tv t k = tv t0 k) (hm : ∀ q, 0 < q → q < t.length → q ∣ t0.length → ¬ HP t0 q) (hl : l ≤ head.length)
    (hh : 0 < l → head.getD (l - 1) none ≠ tv t ((l : Int) - 1 - head.length)) : IsNorm (nrm t head l) := by
  have hlen : (nrm t head l).tail.length = t.length := by show ((List.range t.length).map _).length = _; rw [List.length_map, List.length_range]
  have e1 : (nrm t head l).head.length = l := by show (head.take l).length = l; rw [List.length_take]; omega
  refine ⟨fun q q0 q1 qd z => ?_, fun hp => ?_⟩
  · rw [hlen] at q1 qd
    refine hm q q0 q1 (Nat.dvd_trans qd hd) (HP.of_val h00 h0 hd hv fun k k0 k1 => ?_)
    have := z.all (by rw [hlen]; exact h0) (k + ((head.length : Int) - l))
    unfold Lk at this ⊢
    rw [(tv_nrm h0 _).1, (tv_nrm h0 _).1, (tv_nrm h0 _).2, (tv_nrm h0 _).2, hlen, show k + ((head.length : Int) - l) - ((head.length : Int) - l) = k by omega, show k + ((head.length : Int) - l) + q - ((head.length : Int) - l) = k + q by omega] at this
    exact this
  · rw [e1] at hp ⊢
    rw [(tv_nrm h0 _).1, show (-1 : Int) - ((head.length : Int) - l) = (l : Int) - 1 - head.length by omega]
    have : (nrm t head l).head.getD (l - 1) none = head.getD (l - 1) none := by
      show (head.take l).getD (l - 1) none = _
      rw [List.getD_eq_getElem?_getD, List.getD_eq_getElem?_getD, List.getElem?_take_of_lt (by omega)]
    rw [this]
    exact hh hp
theorem len_normal : ∀ ds M Q E, sp_normal ds M Q E → ds.length = 1 := by rintro _ _ _ _ ⟨_, _, rfl, _⟩; rfl
theorem rd_normal : Rds t_normal n_normal sp_normal := by
  rintro _ M Q E ⟨f, n, rfl, h, q⟩
  show t_normal _ [some (.tup [.tup (f.head.map encO), .tup (f.tail.map encP)]), none, none, none, none, none, none, none] M
  unfold t_normal
  have hl := h.hl
  have h0 := h.tk.t0
  walk_at "g"
  refine ⟨f.tail, n, rfl, h.tk, fun t ht hv hd hmin => ?_⟩
  have ht0 := ht.t0
  have htl := ht.tl
  walk_at "g"
  rw [List.length_map]
  have fin : ∀ (l : Nat) (a b c d : Option D), l ≤ f.head.length → (∀ x : Int, l ≤ x → x < f.head.length → f.head.getD x.toNat none = tv t (x - f.head.length)) → (0 < l → f.head.getD (l - 1) none ≠ tv t ((l : Int) - 1 - f.head.length)) →
      t_normal_c4 (fnE Q) [some (.tup [.tup (f.head.map encO), .tup (f.tail.map encP)]), some (.tup (f.head.map encO)), some (.tup (t.map encP)), some (.int l), a, b, c, d] M := by
    intro l a b c d hll hh hst
    unfold t_normal_c4
    walk_at "g"
    rw [cut_to _ (by rw [List.length_map]; exact hll), ← List.map_take]
    walk_at "g"
    rw [List.length_map, List.length_map]
    refine s_kr1 (by omega) (by omega) ?_
    refine s_klcRng (fun i : Nat => encP (tv t ((i : Int) - ((f.head.length : Int) - l)), ts t ((i : Int) - ((f.head.length : Int) - l)))) (by have := tk_line ht; omega) (fun i Q hi k => ?_) ?_
    · rw [Int.zero_add]
      show dCall _ _ _ [some (.tup [.tup (f.head.map encO), .tup (f.tail.map encP)]), some (.tup (f.head.map encO)), some (.tup (t.map encP)), some (.int l), a, b, some (.int ((f.head.length : Int) - l)), some (.int i)] M Q
      walk_at "g"
      exact ⟨t, _, _, rfl, ht, by omega, k⟩
    · walk_at "g"
      have e3 : (List.range ((t.length : Int)).toNat).map (fun i : Nat => encP (tv t ((i : Int) - ((f.head.length : Int) - l)), ts t ((i : Int) - ((f.head.length : Int) - l)))) = (nrm t f.head l).tail.map encP := by
        unfold nrm
        rw [List.map_map, show ((t.length : Int)).toNat = t.length by omega]
        rfl
      rw [e3]
      refine s_end (q (nrm t f.head l) (nrm_ok hll ht h) (by show (f.head.take l).length ≤ _; rw [List.length_take]; omega) (by show ((List.range t.length).map _).length ≤ _; rw [List.length_map, List.length_range]; exact Nat.le_of_dvd h0 hd) (fun x => ?_) (norm_nrm ht0 h0 hd hv hmin hll hst))
      rw [val_nrm ht0 hll hh]
      unfold Frm.val
      split
      · rfl
      split
      · rfl
      · exact hv _ (by omega)
  refine s_while (fun m τ M' => M' = M ∧ m ≤ f.head.length ∧ (∀ x : Int, m ≤ x → x < f.head.length → f.head.getD x.toNat none = tv t (x - f.head.length)) ∧ ∃ a b c d, τ = [some (.tup [.tup (f.head.map encO), .tup (f.tail.map encP)]), some (.tup (f.head.map encO)), some (.tup (t.map encP)), some (.int m), a, b, c, d]) f.head.length ⟨rfl, Nat.le_refl _, fun x x0 x1 => by omega, _, _, _, _, rfl⟩ (fun m τ M' ⟨e, hm, hh, a, b, c, d, e2⟩ => ?_)
  subst e; subst e2
  walk_at "g"
  · rename_i hm0
    refine ⟨t, _, _, rfl, ht, by rw [List.length_map]; omega, ?_⟩
    rw [encP_mk, List.length_map]
    walk_at "g"
    have hj : m - 1 < f.head.length := by omega
    refine s_ix (d := encO (f.head.getD (m - 1) none)) rfl ?_ ?_
    · rw [atI_toNat (by omega), List.getElem?_map, show ((m : Int) - 1).toNat = m - 1 by omega, List.getElem?_eq_getElem hj, getD_of (List.getElem?_eq_getElem hj)]; rfl
    have e5 : (m : Int) - 1 - f.head.length = ((m - 1 : Nat) : Int) - f.head.length := by omega
    rw [e5]
    refine s_neS (b := decide (tv t (((m - 1 : Nat) : Int) - f.head.length) = f.head.getD (m - 1) none)) ?_ ?_
    · generalize tv t (((m - 1 : Nat) : Int) - f.head.length) = u
      generalize f.head.getD (m - 1) none = w
      cases u <;> cases w <;> simp [encO, scalD]
    walk_at "g"
    · rename_i he
      have he : ¬ tv t (((m - 1 : Nat) : Int) - f.head.length) = f.head.getD (m - 1) none := by simpa using he
      exact fin m _ _ _ _ hm hh fun _ z => he (by rw [z]; congr 1; omega)
    · rename_i he
      have he : tv t (((m - 1 : Nat) : Int) - f.head.length) = f.head.getD (m - 1) none := by simpa using he
      have e7 : (m : Int) - 1 = ((m - 1 : Nat) : Int) := by omega
      rw [e7]
      refine ⟨m - 1, by omega, rfl, by omega, fun x x0 x1 => ?_, _, _, _, _, rfl⟩
      by_cases e6 : x = ((m - 1 : Nat) : Int)
      · subst e6; rw [he]; rfl
      · exact hh x (by omega) x1
  · exact fin m _ _ _ _ hm hh fun _ => by omega

theorem FOk.val_at {f : Frm} {n m : Nat} {x : Int} {M : Mp} {Q : QD} {E : XD} (h : FOk f n) (hx : x.natAbs < 2 ^ m) (hm : 20 ≤ m) (hnm : n + m ≤ 1000000) (q : Q (encO (f.val x)) M) : sp_value_at [f.enc, .int x] M Q E := by
  have h1 := h.tk.tl
  have h2 := h.hl
  have h3 : 2 ^ 20 ≤ 2 ^ m := two_pow_le hm
  have h4 : (2 : Nat) ^ 20 = 1048576 := by decide
  exact ⟨f, x, n, m, rfl, h.tk.t0, by omega, fun p hp => (h.tk.th p hp).2.1, hx, h.tk.n0, by omega, hnm, by omega, q⟩
theorem val_tv {f : Frm} {x : Int} (h : f.head.length ≤ x) : f.val x = tv f.tail (x - f.head.length) := by
  unfold Frm.val
  rw [if_neg (by omega), if_neg (by omega)]; rfl
def stF (f : Frm) (w r : Nat) : Frm := ⟨(List.range (f.head.length + w)).map fun i : Nat => f.val i, (List.range (f.tail.length * r)).map fun k : Nat => (f.val ((f.head.length : Int) + w + k), ts f.tail ((w : Int) + k) * r)⟩
theorem val_stF {f : Frm} {w r : Nat} (h0 : 0 < f.tail.length) (hr : 0 < r) (x : Int) : (stF f w r).val x = f.val x := by
  have hpr : 0 < f.tail.length * r := Nat.mul_pos h0 hr
  by_cases h1 : x < 0
  · unfold Frm.val; rw [if_pos h1, if_pos h1]
  by_cases h2 : x < f.head.length + w
  · show (if x < 0 then none else _) = _
    rw [if_neg h1]
    have e1 : (stF f w r).head.length = f.head.length + w := by unfold stF; rw [List.length_map, List.length_range]
    rw [if_pos (by rw [e1]; omega)]
    refine getD_of ?_
    unfold stF
    rw [List.getElem?_map, List.getElem?_range (by omega)]
    show some (f.val ((x.toNat : Nat) : Int)) = _
    rw [show ((x.toNat : Nat) : Int) = x by omega]
  · have e1 : (stF f w r).head.length = f.head.length + w := by unfold stF; rw [List.length_map, List.length_range]
    have e2 : (stF f w r).tail.length = f.tail.length * r := by unfold stF; rw [List.length_map, List.length_range]
    rw [val_tv (by rw [e1]; omega), e1]
    unfold tv tailAt
    rw [e2]
    have e := Int.emod_add_mul_ediv (x - ((f.head.length + w : Nat) : Int)) ((f.tail.length * r : Nat) : Int)
    have i0 : 0 ≤ (x - ((f.head.length + w : Nat) : Int)) % ((f.tail.length * r : Nat) : Int) := Int.emod_nonneg _ (by omega)
    have i1 : (x - ((f.head.length + w : Nat) : Int)) % ((f.tail.length * r : Nat) : Int) < ((f.tail.length * r : Nat) : Int) := Int.emod_lt_of_pos _ (by omega)
    generalize (x - ((f.head.length + w : Nat) : Int)) % ((f.tail.length * r : Nat) : Int) = i at *
    generalize (x - ((f.head.length + w : Nat) : Int)) / ((f.tail.length * r : Nat) : Int) = m at *
    have e3 : (stF f w r).tail.getD i.toNat (none, 0) = (f.val ((f.head.length : Int) + w + i), ts f.tail ((w : Int) + i) * r) := by
      refine getD_of ?_
      unfold stF
      rw [List.getElem?_map, List.getElem?_range (by omega)]
      show some (f.val ((f.head.length : Int) + w + (i.toNat : Nat)), ts f.tail ((w : Int) + (i.toNat : Nat)) * r) = _
      rw [show ((i.toNat : Nat) : Int) = i by omega]
    rw [e3, val_tv (by omega : (f.head.length : Int) ≤ x)]
    have e4 : x - f.head.length = (w + i) + f.tail.length * (r * m) := by
      have e5 : ((f.tail.length * r : Nat) : Int) * m = f.tail.length * (r * m) := by rw [Int.natCast_mul, Int.mul_assoc]
      rw [e5] at e
      omega
    rw [e4, tv_shift h0, val_tv (by omega : (f.head.length : Int) ≤ (f.head.length : Int) + w + i)]
    unfold tailVal
    rw [show (f.head.length : Int) + w + i - f.head.length = w + i by omega]
    simp only [Int.mul_assoc]
theorem val_bd {f : Frm} {n m : Nat} (h : FOk f n) {x : Int} (hx : x.natAbs ≤ 2 ^ m) (hm : 18 ≤ m) : bdO (n + m + 2) (f.val x) := by
  intro i e
  have h3 : 2 ^ 18 ≤ 2 ^ m := two_pow_le hm
  have h4 : (2 : Nat) ^ 18 = 262144 := by decide
  by_cases h1 : x < 0
  · unfold Frm.val at e; rw [if_pos h1] at e; cases e
  by_cases h2 : x < f.head.length
  · unfold Frm.val at e
    rw [if_neg h1, if_pos h2] at e
    have hj : x.toNat < f.head.length := by omega
    rw [getD_of (List.getElem?_eq_getElem hj)] at e
    exact Nat.lt_of_lt_of_le (h.hd _ (List.getElem_mem hj) i e) (two_pow_le (by omega))
  · rw [val_tv (by omega)] at e
    exact Nat.lt_of_lt_of_le (tv_bd h.tk (m := m) (k := x - f.head.length) (by omega) i e) (two_pow_le (by omega))
theorem stF_ok {f : Frm} {n w r : Nat} (h : FOk f n) (hr : 0 < r) (hr2 : r ≤ 1000) (h1 : f.head.length + w ≤ 20000) (h2 : f.tail.length * r ≤ 40000) : FOk (stF f w r) (n + 40) := by
  have h0 := h.tk.t0
  have hp : 0 < f.tail.length * r := Nat.mul_pos h0 hr
  have h4 : (2 : Nat) ^ 18 = 262144 := by decide
  refine ⟨⟨?_, ?_, fun p hq => ?_, by have := h.tk.n0; omega⟩, ?_, fun v hv => ?_⟩
  · show 0 < ((List.range _).map _).length; rw [List.length_map, List.length_range]; exact hp
  · show ((List.range _).map _).length ≤ _; rw [List.length_map, List.length_range]; omega
  · obtain ⟨i, hi, rfl⟩ := List.mem_map.mp hq
    have hi := List.mem_range.mp hi
    refine ⟨fun j e => ?_, ?_, fun e => ?_⟩
    · exact Nat.lt_of_lt_of_le (val_bd h (m := 18) (x := (f.head.length : Int) + w + i) (by omega) (by omega) j e) (two_pow_le (by omega))
    · show (ts f.tail ((w : Int) + i) * r).natAbs < _
      rw [Int.natAbs_mul]
      exact Nat.lt_of_lt_of_le (nat_mul_lt (y := 10) (tailAt_bd h.tk _).2.1 (by omega)) (two_pow_le (by omega))
    · have e : f.val ((f.head.length : Int) + w + i) = none := e
      rw [val_tv (by omega)] at e
      show ts f.tail ((w : Int) + i) * r = 0
      rw [show (w : Int) + i = (f.head.length : Int) + w + i - f.head.length by omega, ts_none h.tk e]; simp
  · show ((List.range _).map _).length ≤ _; rw [List.length_map, List.length_range]; omega
  · obtain ⟨i, hi, rfl⟩ := List.mem_map.mp hv
    have hi := List.mem_range.mp hi
    exact fun j e => Nat.lt_of_lt_of_le (val_bd h (m := 18) (x := (i : Int)) (by omega) (by omega) j e) (two_pow_le (by omega))
theorem tailAt_mem {t : Tl} (h : 0 < t.length) (k : Int) : tailAt t k ∈ t := by
  have i0 : 0 ≤ k % t.length := Int.emod_nonneg _ (by omega)
  have i1 : k % t.length < t.length := Int.emod_lt_of_pos _ (by omega)
  unfold tailAt
  rw [getD_of (List.getElem?_eq_getElem (by omega))]
  exact List.getElem_mem _

theorem len_law_stretched : ∀ ds M Q E, sp_law_stretched ds M Q E → ds.length = 2 := by rintro _ _ _ _ ⟨_, _, _, rfl, _⟩; rfl
theorem rd_law_stretched : Rds t_law_stretched n_law_stretched sp_law_stretched := by
  rintro _ M Q E ⟨a, f, n, rfl, hs, h, hn, h1, h2, q⟩
  show t_law_stretched _ [some (.ref a), some (.tup [.tup (f.head.map encO), .tup (f.tail.map encP)]), none, none, none, none, none, none, none, none] M
  unfold t_law_stretched
  have h0 := h.tk.t0
  walk_at "g"
  refine ⟨a, 4, rfl, by decide, by decide, hs, fun d M1 d0 d1 D1 => ?_⟩
  walk_at "g"
  refine ⟨a, 3, rfl, by decide, by decide, D1.ok, fun d2 M2 c0 c1 D2 => ?_⟩
  obtain ⟨w, rfl⟩ : ∃ w : Nat, d = w := ⟨d.toNat, by omega⟩
  obtain ⟨r, hr⟩ : ∃ r : Nat, 1 + d2 = r := ⟨(1 + d2).toNat, by omega⟩
  have hr0 : 0 < r := by omega
  have hr2 : r ≤ 3 := by omega
  have hw : w ≤ 3 := by omega
  walk_at "g"
  rw [hr, List.length_map]
  refine s_kr1 (by omega) (by omega) ?_
  refine s_klcRng (fun i : Nat => encO (f.val i)) (small_line (by omega)) (fun i Q hi k => ?_) ?_
  · rw [Int.zero_add]
    walk_at "g"
    exact h.val_at (m := 20) (by have h4 : (2 : Nat) ^ 20 = 1048576 := (by decide); omega) (by omega) (by omega) k
  walk_at "g"
  refine fun p hp => ?_
  walk_at "g"
  rw [List.length_map]
  refine s_mul (.inl (.inr (sm64 (by omega)))) ?_
  have hpr : f.tail.length * r ≤ 10000 * 3 := Nat.mul_le_mul h2 hr2
  walk_at "g"
  rw [show (f.tail.length : Int) * r = ((f.tail.length * r : Nat) : Int) by rw [Int.natCast_mul]]
  refine s_kr1 (by omega) (by omega) ?_
  rw [show ((f.head.length : Int) + w).toNat = f.head.length + w by omega]
  refine s_kforR (fun i τ M' => M' = updM M2 p (.lst ((List.range i).map fun k : Nat => encP (f.val ((f.head.length : Int) + w + k), ts f.tail ((w : Int) + k) * r))) ∧ ∃ c d, τ = [some (.ref a), some (.tup [.tup (f.head.map encO), .tup (f.tail.map encP)]), some (.int w), some (.int r), some (.int ((f.head.length : Int) + w)), some (.lst ((List.range (f.head.length + w)).map fun i : Nat => encO (f.val i))), none, some (.ref p), c, d]) ⟨rfl, _, _, rfl⟩ (fun i τ M' hi ⟨e, c, d, e2⟩ => ?_) (fun τ M' ⟨e, c, d, e2⟩ => ?_)
  · subst e; subst e2
    have hi : i < f.tail.length * r := by omega
    rw [Int.zero_add]
    walk_at "g"
    have i0 : 0 ≤ ((w : Int) + i) % f.tail.length := Int.emod_nonneg _ (by omega)
    have i1 : ((w : Int) + i) % f.tail.length < f.tail.length := Int.emod_lt_of_pos _ (by omega)
    refine s_I (by rw [List.length_map]; omega) ?_
    rw [List.length_map]
    walk_at "g"
    refine s_ix (d := encP (tailAt f.tail ((w : Int) + i))) rfl (by rw [atI_toNat i0, tail_ix h.tk i0 i1]; unfold tailAt; rw [Int.emod_emod_of_dvd _ (Int.dvd_refl _)]) ?_
    have ets : ts f.tail ((w : Int) + i) = (tailAt f.tail ((w : Int) + i)).2 := rfl
    generalize tailAt f.tail ((w : Int) + i) = pr at *
    obtain ⟨v, s⟩ := pr
    rw [encP_mk]
    walk_at "g"
    refine h.val_at (m := 20) (by have h4 : (2 : Nat) ^ 20 = 1048576 := (by decide); omega) (by omega) (by omega) ?_
    walk_at "g"
    refine s_mul (.inl (.inr (sm64 (by omega)))) ?_
    walk_at "g"
    refine s_append updM_same (Nat.lt_of_le_of_lt (m := 100000) (by rw [List.length_map, List.length_range]; omega) (by decide)) ?_
    walk_at "g"
    refine ⟨?_, _, _, rfl⟩
    rw [updM_updM, List.range_succ, List.map_append]
    have ets : ts f.tail ((w : Int) + i) = s := ets
    rw [List.map_cons, List.map_nil, ets]; rfl
  · subst e; subst e2
    walk_at "g"
    have e9 : (D.tup [.tup ((List.range (f.head.length + w)).map fun i : Nat => encO (f.val i)), .tup ((List.range (((f.tail.length * r : Nat) : Int)).toNat).map fun k : Nat => encP (f.val ((f.head.length : Int) + w + k), ts f.tail ((w : Int) + k) * r))]) = (stF f w r).enc := by
      unfold Frm.enc stF
      rw [List.map_map, List.map_map, show (((f.tail.length * r : Nat) : Int)).toNat = f.tail.length * r by omega]
      rfl
    rw [e9]
    refine s_endL (M2 := M2) (fun b m e => ?_) (q (stF f w r) M2 (stF_ok h hr0 (by omega) (by omega) (by omega)) ?_ ?_ (val_stF h0 hr0) (D1.trans D2))
    · rw [updM_ne (fun z => by subst z; rw [hp] at e; cases e)]; exact e
    · show ((List.range _).map _).length ≤ _; rw [List.length_map, List.length_range]; omega
    · show ((List.range _).map _).length ≤ _; rw [List.length_map, List.length_range, Nat.mul_comm]; exact Nat.mul_le_mul_right _ hr2

theorem val_shift {f : Frm} (h0 : 0 < f.tail.length) {y m : Int} (hy : f.head.length ≤ y) (m0 : 0 ≤ m) : f.val (y + f.tail.length * m) = (f.val y).map (· + ts f.tail (y - f.head.length) * m) := by
  have : 0 ≤ f.tail.length * m := Int.mul_nonneg (by omega) m0
  rw [val_tv (by omega), val_tv hy, show y + f.tail.length * m - f.head.length = y - f.head.length + f.tail.length * m by omega, tv_shift h0]
theorem p602 : (2 : Nat) ^ 602 = 4 * 2 ^ 600 := by rw [show 602 = 600 + 2 from rfl, Nat.pow_add, Nat.mul_comm]
theorem p604 : (2 : Nat) ^ 604 = 16 * 2 ^ 600 := by rw [show 604 = 600 + 4 from rfl, Nat.pow_add, Nat.mul_comm]
theorem pbig : 1000000000 < (2 : Nat) ^ 600 := Nat.lt_of_lt_of_le (by decide : 1000000000 < 2 ^ 30) (two_pow_le (by decide))
/-- x behind the head: its class and its round -/
theorem val_class {f : Frm} (h0 : 0 < f.tail.length) {x : Int} (hx : f.head.length ≤ x) : f.val x = (f.val (f.head.length + (x - f.head.length) % f.tail.length)).map (· + ts f.tail ((x - f.head.length) % f.tail.length) * ((x - f.head.length) / f.tail.length)) := by
  have i0 : 0 ≤ (x - f.head.length) % f.tail.length := Int.emod_nonneg _ (by omega)
  have e := Int.emod_add_mul_ediv (x - f.head.length) f.tail.length
  rw [val_tv hx, val_tv (by omega)]
  conv => lhs; rw [← e]
  rw [tv_shift h0]
  congr 2
  omega
theorem val_round {f : Frm} (h0 : 0 < f.tail.length) {k m : Int} (k0 : 0 ≤ k) (m0 : 0 ≤ m) : f.val (f.head.length + k + f.tail.length * m) = (f.val (f.head.length + k)).map (· + ts f.tail k * m) := by
  have : 0 ≤ f.tail.length * m := Int.mul_nonneg (by omega) m0
  rw [val_tv (by omega), val_tv (by omega)]
  rw [show (f.head.length : Int) + k + f.tail.length * m - f.head.length = k + f.tail.length * m by omega, tv_shift h0]
  congr 2
  omega
theorem tv_first {t : Tl} {k : Int} (k0 : 0 ≤ k) (k1 : k < t.length) : tv t k = (tailAt t k).1 := by
  unfold tv
  rw [Int.ediv_eq_zero_of_lt k0 k1]
  unfold tailVal
  cases (tailAt t k).1 <;> simp
theorem val_first {f : Frm} {k : Int} (k0 : 0 ≤ k) (k1 : k < f.tail.length) : f.val (f.head.length + k) = (tailAt f.tail k).1 := by
  rw [val_tv (by omega), show (f.head.length : Int) + k - f.head.length = k by omega, tv_first k0 k1]
theorem GoodF.ok {f : Frm} {a b : Nat} (h : GoodF f a b) (ha : a ≤ 100000) (hb : b ≤ 100000) (hs : ∀ v ∈ f.head, smallO v) : FOk f 100 :=
  ⟨⟨h.t0, Nat.le_trans h.tl hb, fun p hp => h.sm p hp, by decide⟩, Nat.le_trans h.hl ha, hs⟩
theorem FOk.mono {f : Frm} {n m : Nat} (h : FOk f n) (hn : n ≤ m) : FOk f m := ⟨h.tk.mono hn, h.hl, fun v hv i e => Nat.lt_of_lt_of_le (h.hd v hv i e) (two_pow_le hn)⟩
theorem val_neg {f : Frm} {x : Int} (h : x < 0) : f.val x = none := by unfold Frm.val; rw [if_pos h]
theorem val_nn {f : Frm} {y a : Int} (e : f.val y = some a) : 0 ≤ y := by
  by_cases q : 0 ≤ y
  · exact q
  · rw [val_neg (by omega)] at e; cases e

/-! == of forms -/
def pyO : Option Int → PyData
  | none => .none
  | some i => .int i
def pyP (p : Option Int × Int) : PyData := .tuple [pyO p.1, .int p.2]
def pyF (f : Frm) : PyData := .tuple [.tuple (f.head.map pyO), .tuple (f.tail.map pyP)]
theorem pyAll_O : ∀ xs : List (Option Int), pyAll (xs.map encO) = some (xs.map pyO)
  | [] => rfl
  | x :: xs => by
    have h := pyAll_O xs
    rw [List.map_cons, List.map_cons]
    cases x <;> simp [pyAll, encO, D.py, pyO, h]
theorem pyAll_P : ∀ xs : Tl, pyAll (xs.map encP) = some (xs.map pyP)
  | [] => rfl
  | (v, s) :: xs => by
    have h := pyAll_P xs
    rw [List.map_cons, List.map_cons]
    cases v <;> simp [pyAll, encP, encO, D.py, pyP, pyO, h]
theorem py_enc (f : Frm) : f.enc.py = some (pyF f) := by
  unfold Frm.enc pyF
  simp [D.py, pyAll, pyAll_O, pyAll_P]
theorem lay_O : ∀ xs : List (Option Int), PyData.canLayAll0 (xs.map pyO) = true ∧ PyData.depthAll (xs.map pyO) ≤ 1
  | [] => by simp [PyData.canLayAll0, PyData.depthAll]
  | x :: xs => by
    have h := lay_O xs
    cases x <;> simp [PyData.canLayAll0, PyData.depthAll, pyO, PyData.canLay0, PyData.depth, h.1, h.2]
theorem lay_P : ∀ xs : Tl, PyData.canLayAll0 (xs.map pyP) = true ∧ PyData.depthAll (xs.map pyP) ≤ 2
  | [] => by simp [PyData.canLayAll0, PyData.depthAll]
  | (v, s) :: xs => by
    have h := lay_P xs
    cases v <;> simp [PyData.canLayAll0, PyData.depthAll, pyP, pyO, PyData.canLay0, PyData.depth, h.1] <;> omega
theorem shaped_F (f : Frm) : SeqAt.shaped (pyF f) = true := by
  have h1 := lay_O f.head
  have h2 := lay_P f.tail
  simp [SeqAt.shaped, pyF, PyData.canLay0, PyData.canLayAll0, PyData.depth, PyData.depthAll, h1.1, h2.1]
  omega
theorem beq_dec (a b : Int) : (a == b) = decide (a = b) := by
  by_cases h : a = b
  · subst h; simp
  · rw [decide_eq_false h]; simpa using h
theorem eqvAll_O : ∀ xs ys : List (Option Int), PyData.eqvAll (xs.map pyO) (ys.map pyO) = decide (xs = ys)
  | [], [] => by simp [PyData.eqvAll]
  | [], _ :: _ => by simp [PyData.eqvAll]
  | _ :: _, [] => by simp [PyData.eqvAll]
  | x :: xs, y :: ys => by
    have h := eqvAll_O xs ys
    cases x <;> cases y <;> simp [PyData.eqvAll, pyO, PyData.eqv, h, beq_dec]
theorem eqvAll_P : ∀ xs ys : Tl, PyData.eqvAll (xs.map pyP) (ys.map pyP) = decide (xs = ys)
  | [], [] => by simp [PyData.eqvAll]
  | [], _ :: _ => by simp [PyData.eqvAll]
  | _ :: _, [] => by simp [PyData.eqvAll]
  | (v, s) :: xs, (w, t) :: ys => by
    have h := eqvAll_P xs ys
    cases v <;> cases w <;> simp [PyData.eqvAll, pyP, pyO, PyData.eqv, h, beq_dec, Bool.and_assoc]
instance : DecidableEq Frm := fun f g => decidable_of_iff (f.head = g.head ∧ f.tail = g.tail) (by obtain ⟨a, b⟩ := f; obtain ⟨c, d⟩ := g; simp)
theorem eqv_F (f g : Frm) : PyData.eqv (pyF f) (pyF g) = decide (f = g) := by
  obtain ⟨a, b⟩ := f
  obtain ⟨c, d⟩ := g
  have e : decide ((⟨a, b⟩ : Frm) = ⟨c, d⟩) = (decide (a = c) && decide (b = d)) := by
    rw [← Bool.decide_and]
    exact decide_eq_decide.mpr (by simp)
  rw [e]
  simp [pyF, PyData.eqv, PyData.eqvAll, eqvAll_O, eqvAll_P]
theorem s_eqF {f g : Frm} {M : Mp} {Q : QD} (h : Q (.bl (decide (f = g))) M) : dEq f.enc g.enc M Q := by
  refine s_eqD (p := pyF f) (q := pyF g) rfl (py_enc f) (py_enc g) (shaped_F f) (shaped_F g) ?_
  rw [eqv_F]; exact h
theorem scal_O (u w : Option Int) : scalD (encO u) (encO w) = some (decide (u = w)) := by
  cases u <;> cases w <;> simp [encO, scalD]
theorem s_neF {f g : Frm} {M : Mp} {Q : QD} (h : Q (.bl (!decide (f = g))) M) : dNe f.enc g.enc M Q := by
  refine s_neDF (p := pyF f) (q := pyF g) rfl (py_enc f) (py_enc g) (shaped_F f) (shaped_F g) ?_
  rw [eqv_F]; exact h

/-! normal forms of one function are equal -/
def AL (t : Tl) (d : Int) : Prop := ∀ k, Lk t d k
theorem AL.neg {t : Tl} {d : Int} (h : AL t d) : AL t (-d) := fun k => by
  have := h (k + -d)
  unfold Lk at this ⊢
  rw [show k + -d + d = k by omega] at this
  rcases this with ⟨a, b⟩ | ⟨a, b, ha, hb, hs, hq⟩
  · exact .inl ⟨b, a⟩
  · refine .inr ⟨b, a, hb, ha, hs.symm, ?_⟩
    rw [← hs, Int.mul_neg, ← hq, ← Int.neg_mul]
    congr 1; omega
theorem AL.add {t : Tl} {d e : Int} (h : AL t d) (g : AL t e) : AL t (d + e) := fun k => by
  have a1 := h k
  have a2 := g (k + d)
  unfold Lk at a1 a2 ⊢
  rw [show k + d + e = k + (d + e) by omega] at a2
  rcases a1 with ⟨a, b⟩ | ⟨a, b, ha, hb, hs, hq⟩
  · rcases a2 with ⟨c, c2⟩ | ⟨c, c2, hc, _, _, _⟩
    · exact .inl ⟨a, c2⟩
    · rw [b] at hc; cases hc
  · rcases a2 with ⟨c, c2⟩ | ⟨c, c2, hc, hc2, hs2, hq2⟩
    · rw [hb] at c; cases c
    · rw [hb] at hc; cases hc
      refine .inr ⟨a, c2, ha, hc2, by rw [hs, hs2], ?_⟩
      rw [Int.mul_add, ← hq, hs, ← hq2, ← Int.add_mul]
      congr 1; omega
theorem AL.zero {t : Tl} : AL t 0 := fun k => by
  unfold Lk
  rw [Int.add_zero]
  cases e : tv t k with
  | none => exact .inl ⟨rfl, rfl⟩
  | some a => exact .inr ⟨a, a, rfl, rfl, rfl, by simp⟩
theorem AL.mul {t : Tl} {d : Int} (h : AL t d) : ∀ n : Nat, AL t (d * n)
  | 0 => by rw [show d * ((0 : Nat) : Int) = 0 by simp]; exact .zero
  | n + 1 => by
    have := (AL.mul h n).add h
    rwa [show d * (n : Int) + d = d * ((n + 1 : Nat) : Int) by rw [Int.natCast_add, Int.mul_add]; simp] at this
theorem AL.gcd {t : Tl} (m n : Nat) : AL t m → AL t n → AL t (Nat.gcd m n : Nat) := by
  induction m, n using Nat.gcd.induction with
  | H0 n => intro _ h; rw [Nat.gcd_zero_left]; exact h
  | H1 m n h0 ih =>
    intro a b
    rw [Nat.gcd_rec]
    refine ih ?_ a
    have h := b.add (a.mul (n / m)).neg
    have e := Nat.mod_add_div n m
    have e2 : (n : Int) + -((m : Int) * ((n / m : Nat) : Int)) = ((n % m : Nat) : Int) := by
      rw [← Int.natCast_mul]; omega
    rwa [e2] at h
theorem AL.self {t : Tl} (h0 : 0 < t.length) : AL t t.length := fun k => by
  have h := tv_shift h0 k 1
  have h2 := ts_shift t k 1
  rw [Int.mul_one] at h h2
  unfold Lk
  rw [h, h2]
  cases e : tv t k with
  | none => exact .inl ⟨rfl, rfl⟩
  | some a => exact .inr ⟨a, _, rfl, rfl, rfl, by rw [Int.mul_one]; show (a + ts t k - a) * (t.length : Int) = _; congr 1; omega⟩
/-- two tails that tell the same far out tell the same everywhere -/
theorem tails_all {t u : Tl} (ht : 0 < t.length) (hu : 0 < u.length) {a b B : Int} (h : ∀ x, B ≤ x → tv t (x - a) = tv u (x - b)) (x : Int) :
    tv t (x - a) = tv u (x - b) ∧ (tv t (x - a) ≠ none → ts t (x - a) * u.length = ts u (x - b) * t.length) := by
  have key : ∀ m : Int, B ≤ x + t.length * u.length * m → (tv t (x - a)).map (· + ts t (x - a) * (u.length * m)) = (tv u (x - b)).map (· + ts u (x - b) * (t.length * m)) := fun m hm => by
    have e := h _ hm
    rw [show x + (t.length : Int) * u.length * m - a = x - a + t.length * (u.length * m) by rw [Int.mul_assoc]; omega, tv_shift ht] at e
    rw [show x + (t.length : Int) * u.length * m - b = x - b + u.length * (t.length * m) by rw [Int.mul_comm (t.length : Int) u.length, Int.mul_assoc]; omega, tv_shift hu] at e
    exact e
  have hp : (1 : Int) ≤ (t.length : Int) * u.length := by
    have := Int.mul_le_mul (show (1 : Int) ≤ t.length by omega) (show (1 : Int) ≤ u.length by omega) (by omega) (by omega)
    simpa using this
  have big : ∀ m : Int, 0 ≤ m → m ≤ (t.length : Int) * u.length * m := fun m m0 => by
    have := Int.mul_le_mul_of_nonneg_right hp m0
    omega
  have m0 : (0 : Int) ≤ ((B - x).toNat : Int) := by omega
  have k1 := key ((B - x).toNat : Int) (by have := big _ m0; omega)
  have k2 := key (((B - x).toNat : Int) + 1) (by have := big (((B - x).toNat : Int) + 1) (by omega); omega)
  generalize ((B - x).toNat : Int) = m at *
  cases e1 : tv t (x - a) with
  | none =>
    rw [e1] at k1
    cases e2 : tv u (x - b) with
    | none => exact ⟨rfl, fun z => absurd rfl z⟩
    | some c => rw [e2] at k1; cases k1
  | some c =>
    rw [e1] at k1 k2
    cases e2 : tv u (x - b) with
    | none => rw [e2] at k1; cases k1
    | some d =>
      rw [e2] at k1 k2
      have k1 : c + ts t (x - a) * (u.length * m) = d + ts u (x - b) * (t.length * m) := Option.some.inj k1
      have k2 : c + ts t (x - a) * (u.length * (m + 1)) = d + ts u (x - b) * (t.length * (m + 1)) := Option.some.inj k2
      rw [← Int.mul_assoc, ← Int.mul_assoc] at k1 k2
      rw [Int.mul_add, Int.mul_add, Int.mul_one, Int.mul_one] at k2
      have e : ts t (x - a) * u.length = ts u (x - b) * t.length := by omega
      rw [e] at k1
      exact ⟨by congr 1; omega, fun _ => e⟩
theorem AL.other {t u : Tl} (ht : 0 < t.length) (hu : 0 < u.length) {a b : Int} (h : ∀ x, tv t (x - a) = tv u (x - b) ∧ (tv t (x - a) ≠ none → ts t (x - a) * u.length = ts u (x - b) * t.length)) : AL t u.length := fun k => by
  obtain ⟨h1, h2⟩ := h (k + a)
  obtain ⟨h3, h4⟩ := h (k + a + u.length)
  rw [show k + a - a = k by omega] at h1 h2
  rw [show k + a + (u.length : Int) - a = k + u.length by omega, show k + a + (u.length : Int) - b = k + a - b + u.length * 1 by omega, tv_shift hu, ← h1] at h3
  rw [show k + a + (u.length : Int) - a = k + u.length by omega, show k + a + (u.length : Int) - b = k + a - b + u.length * 1 by omega, ts_shift] at h4
  unfold Lk
  cases e : tv t k with
  | none => rw [e] at h3; exact .inl ⟨rfl, h3⟩
  | some c =>
    rw [e] at h3
    have h2 := h2 (by rw [e]; exact fun z => by cases z)
    have h4 := h4 (by rw [h3]; exact fun z => by cases z)
    refine .inr ⟨c, _, rfl, h3, ?_, ?_⟩
    · rw [← h2] at h4
      exact (Int.eq_of_mul_eq_mul_right (by omega) h4).symm
    · rw [h2, Int.mul_one]; show (c + ts u (k + a - b) - c) * (t.length : Int) = _; congr 1; omega
theorem AL.hp {t : Tl} {q : Nat} (h : AL t q) : HP t q := fun k _ _ => h k
theorem tail_elt {t : Tl} {i : Nat} (h : i < t.length) : t[i] = (tv t i, ts t i) := by
  have e : tailAt t i = t[i] := by
    unfold tailAt
    rw [Int.emod_eq_of_lt (by omega) (by omega)]
    exact getD_of (List.getElem?_eq_getElem h)
  rw [tv_first (by omega) (by omega)]
  unfold ts
  rw [e]
theorem head_elt {f : Frm} {i : Nat} (h : i < f.head.length) : f.head[i] = f.val i := by
  unfold Frm.val
  rw [if_neg (by omega), if_pos (by omega)]
  exact (getD_of (List.getElem?_eq_getElem h)).symm
theorem norm_unique {f g : Frm} {n m : Nat} (hf : FOk f n) (hg : FOk g m) (nf : IsNorm f) (ng : IsNorm g) (hv : ∀ x, 0 ≤ x → f.val x = g.val x) : f = g := by
  have f0 := hf.tk.t0
  have g0 := hg.tk.t0
  have h1 : ∀ x, tv f.tail (x - f.head.length) = tv g.tail (x - g.head.length) ∧ (tv f.tail (x - f.head.length) ≠ none → ts f.tail (x - f.head.length) * g.tail.length = ts g.tail (x - g.head.length) * f.tail.length) :=
    tails_all (B := (f.head.length : Int) + g.head.length) f0 g0 fun x hx => by rw [← val_tv (by omega), ← val_tv (by omega)]; exact hv x (by omega)
  have h2 : ∀ x, tv g.tail (x - g.head.length) = tv f.tail (x - f.head.length) ∧ (tv g.tail (x - g.head.length) ≠ none → ts g.tail (x - g.head.length) * f.tail.length = ts f.tail (x - f.head.length) * g.tail.length) :=
    fun x => ⟨(h1 x).1.symm, fun z => ((h1 x).2 (by rw [(h1 x).1]; exact z)).symm⟩
  have d1 := (AL.gcd _ _ (AL.self f0) (AL.other f0 g0 h1)).hp
  have d2 := (AL.gcd _ _ (AL.other g0 f0 h2) (AL.self g0)).hp
  have gp : 0 < Nat.gcd f.tail.length g.tail.length := Nat.gcd_pos_of_pos_left _ f0
  have l1 : f.tail.length = Nat.gcd f.tail.length g.tail.length := by
    have := Nat.le_of_dvd f0 (Nat.gcd_dvd_left f.tail.length g.tail.length)
    by_cases l : Nat.gcd f.tail.length g.tail.length < f.tail.length
    · exact absurd d1 (nf.mn _ gp l (Nat.gcd_dvd_left _ _))
    · omega
  have l2 : g.tail.length = Nat.gcd f.tail.length g.tail.length := by
    have := Nat.le_of_dvd g0 (Nat.gcd_dvd_right f.tail.length g.tail.length)
    by_cases l : Nat.gcd f.tail.length g.tail.length < g.tail.length
    · exact absurd d2 (ng.mn _ gp l (Nat.gcd_dvd_right _ _))
    · omega
  have ll : f.tail.length = g.tail.length := l1.trans l2.symm
  have hh : f.head.length = g.head.length := by
    by_cases c : f.head.length < g.head.length
    · have := ng.hd (by omega)
      have e := hv ((g.head.length - 1 : Nat) : Int) (by omega)
      rw [val_tv (by omega), (h1 _).1, ← head_elt (f := g) (by omega)] at e
      rw [getD_of (List.getElem?_eq_getElem (by omega)), ← e] at this
      exact absurd (by congr 1; omega) this
    by_cases c2 : g.head.length < f.head.length
    · have := nf.hd (by omega)
      have e := (hv ((f.head.length - 1 : Nat) : Int) (by omega)).symm
      rw [val_tv (by omega), (h2 _).1, ← head_elt (f := f) (by omega)] at e
      rw [getD_of (List.getElem?_eq_getElem (by omega)), ← e] at this
      exact absurd (by congr 1; omega) this
    omega
  have eh : f.head = g.head := List.ext_getElem hh fun i i1 i2 => by rw [head_elt i1, head_elt i2]; exact hv _ (by omega)
  have et : f.tail = g.tail := List.ext_getElem ll fun i i1 i2 => by
    have a := h1 ((i : Int) + f.head.length)
    rw [show (i : Int) + f.head.length - f.head.length = i by omega, show (i : Int) + f.head.length - g.head.length = i by omega] at a
    rw [tail_elt i1, tail_elt i2, a.1]
    congr 1
    cases e : tv f.tail i with
    | none =>
      have e2 := e
      rw [a.1] at e2
      rw [ts_none hf.tk e, ts_none hg.tk e2]
    | some c =>
      have := a.2 (by rw [e]; exact fun z => by cases z)
      rw [ll] at this
      exact Int.eq_of_mul_eq_mul_right (by omega) this
  obtain ⟨a, b⟩ := f
  obtain ⟨c, d⟩ := g
  have eh : a = c := eh
  have et : b = d := et
  subst eh; subst et; rfl

theorem len_law_int : ∀ ds M Q E, sp_law_int ds M Q E → ds.length = 1 := by rintro _ _ _ _ ⟨_, rfl, _⟩; rfl
theorem rd_law_int : Rds t_law_int n_law_int sp_law_int := by
  rintro _ M Q E ⟨i, rfl, q⟩
  show t_law_int _ [some (.int i)] M
  unfold t_law_int
  walk_at "g"
  exact s_end q
theorem len_law_is_form : ∀ ds M Q E, sp_law_is_form ds M Q E → ds.length = 1 := by rintro _ _ _ _ ⟨_, rfl, _⟩; rfl
theorem rd_law_is_form : Rds t_law_is_form n_law_is_form sp_law_is_form := by
  rintro _ M Q E ⟨f, rfl, h0, hz, q⟩
  show t_law_is_form _ [some (.tup [.tup (f.head.map encO), .tup (f.tail.map encP)]), none, none] M
  unfold t_law_is_form
  walk_at "g"
  · rename_i hc
    exact absurd (rfl) hc
  · rename_i hc
    rw [List.length_map] at hc
    omega
  · · refine s_kforT (ds := f.head.map encO) (fun i τ M' => M' = M ∧ ∃ c, τ = [some (.tup [.tup (f.head.map encO), .tup (f.tail.map encP)]), c, none]) (fun _ => rfl) ⟨rfl, _, rfl⟩ (fun i d τ M' hd ⟨e, c, e2⟩ => ?_) (fun τ M' ⟨e, c, e2⟩ => ?_)
      · subst e; subst e2
        obtain ⟨v, _, rfl⟩ := List.mem_map.mp (List.mem_of_getElem? hd)
        refine s_gname ?_
        walk_at "g"
        rw [encO_isN]
        cases v with
        | none =>
          simp only [Option.isNone_none, Bool.not_true]
          walk_at "g"
          exact ⟨rfl, _, rfl⟩
        | some v =>
          simp only [Option.isNone_some, Bool.not_false]
          walk_at "g"
          refine ⟨v, rfl, ?_⟩
          walk_at "g"
          exact ⟨rfl, _, rfl⟩
      · subst e; subst e2
        walk_at "g"
        refine s_kforT (ds := f.tail.map encP) (fun i τ M2 => M2 = M' ∧ ∃ d, τ = [some (.tup [.tup (f.head.map encO), .tup (f.tail.map encP)]), c, d]) (fun _ => rfl) ⟨rfl, _, rfl⟩ (fun i d τ M2 hd ⟨e, c2, e2⟩ => ?_) (fun τ M2 ⟨e, c2, e2⟩ => ?_)
        · subst e; subst e2
          obtain ⟨⟨v, s⟩, hp, rfl⟩ := List.mem_map.mp (List.mem_of_getElem? hd)
          have hz := hz _ hp
          refine s_gname ?_
          rw [encP_mk]
          walk_at "g"
          · rename_i hc; exact absurd rfl hc
          · refine ⟨s, rfl, ?_⟩
            walk_at "g"
            rw [encO_isN]
            cases v with
            | none =>
              obtain rfl : s = 0 := hz rfl
              simp only [Option.isNone_none, encO]
              walk_at "g"
              · rename_i hc; exact absurd rfl hc
              · simp only [D.isN]
                walk_at "g"
                exact ⟨rfl, _, rfl⟩
            | some v =>
              simp only [Option.isNone_some, encO]
              walk_at "g"
              simp only [D.isN]
              walk_at "g"
              refine ⟨v, rfl, ?_⟩
              walk_at "g"
              exact ⟨rfl, _, rfl⟩
        · subst e; subst e2
          walk_at "g"
          exact s_end q
def AP3 : Option Int → Option Int → Option Int → Prop
  | none, none, none => True
  | some a, some b, some c => c - b = b - a
  | _, _, _ => False
theorem even_run {t : Tl} {s : Nat} {k x d : Int} (h : ∀ k : Int, 0 ≤ k → k < 2 * t.length → AP3 (tv t k) (tv t (k + s)) (tv t (k + 2 * s))) (k0 : 0 ≤ k) (e0 : tv t k = some x) (e1 : tv t (k + s) = some (x + d)) :
    ∀ j : Nat, k + s * (j : Int) < 2 * t.length → tv t (k + s * (j : Int)) = some (x + d * j) ∧ tv t (k + s * ((j + 1 : Nat) : Int)) = some (x + d * ((j + 1 : Nat) : Int))
  | 0, _ => by simpa using ⟨e0, e1⟩
  | j + 1, hl => by
    have e3 : (s : Int) * ((j + 1 : Nat) : Int) = s * (j : Int) + s := by rw [Int.natCast_add, Int.mul_add]; simp
    have e4 : (s : Int) * ((j + 1 + 1 : Nat) : Int) = s * (j : Int) + 2 * s := by rw [Int.natCast_add, Int.natCast_add, Int.mul_add, Int.mul_add]; simp; omega
    have e5 : d * ((j + 1 : Nat) : Int) = d * (j : Int) + d := by rw [Int.natCast_add, Int.mul_add]; simp
    have e6 : d * ((j + 1 + 1 : Nat) : Int) = d * (j : Int) + d + d := by rw [Int.natCast_add, Int.natCast_add, Int.mul_add, Int.mul_add]; simp
    rw [e3] at hl
    obtain ⟨a, b⟩ := even_run h k0 e0 e1 j (by omega)
    refine ⟨b, ?_⟩
    have h3 := h (k + s * (j : Int)) (by have : (0 : Int) ≤ s * (j : Int) := Int.mul_nonneg (by omega) (by omega); omega) (by omega)
    rw [e3, e5] at b
    rw [e4, e6]
    rw [a, show k + (s : Int) * (j : Int) + s = k + (s * (j : Int) + s) by omega, b, show k + (s : Int) * (j : Int) + 2 * s = k + (s * (j : Int) + 2 * s) by omega] at h3
    cases e7 : tv t (k + (s * (j : Int) + 2 * s)) with
    | none => rw [e7] at h3; exact h3.elim
    | some z =>
      rw [e7] at h3
      have h3 : z - (x + (d * j + d)) = x + (d * j + d) - (x + d * j) := h3
      congr 1; omega
theorem even_hp {t : Tl} {s : Nat} (h0 : 0 < t.length) (s0 : 0 < s) (hd : s ∣ t.length) (h : ∀ k : Int, 0 ≤ k → k < 2 * t.length → AP3 (tv t k) (tv t (k + s)) (tv t (k + 2 * s))) : HP t s := by
  obtain ⟨r, hr⟩ := hd
  intro k k0 k1
  have h3 := h k k0 (by omega)
  unfold Lk
  cases e0 : tv t k with
  | none =>
    cases e1 : tv t (k + s) with
    | none => exact .inl ⟨rfl, rfl⟩
    | some b => rw [e0, e1] at h3; exact h3.elim
  | some x =>
    cases e1 : tv t (k + s) with
    | none => rw [e0, e1] at h3; exact h3.elim
    | some b =>
      obtain ⟨d, rfl⟩ : ∃ d, b = x + d := ⟨b - x, by omega⟩
      have hrs : (t.length : Int) = s * (r : Int) := by rw [hr, Int.natCast_mul]
      obtain ⟨a1, a2⟩ := even_run h k0 e0 e1 r (by rw [← hrs]; omega)
      have t1 := tv_shift h0 k 1
      have t2 := tv_shift h0 (k + s) 1
      rw [Int.mul_one, Int.mul_one] at t1 t2
      rw [← hrs, t1, e0] at a1
      have e3 : (s : Int) * ((r + 1 : Nat) : Int) = s * (r : Int) + s := by rw [Int.natCast_add, Int.mul_add]; simp
      have e5 : d * ((r + 1 : Nat) : Int) = d * (r : Int) + d := by rw [Int.natCast_add, Int.mul_add]; simp
      rw [e3, e5, ← hrs, show k + ((t.length : Int) + s) = k + s + t.length by omega, t2, e1] at a2
      have a1 : x + ts t k = x + d * r := Option.some.inj a1
      have a2 : x + d + ts t (k + s) = x + (d * r + d) := Option.some.inj a2
      refine .inr ⟨x, x + d, rfl, rfl, by omega, ?_⟩
      rw [show ts t k = d * r by omega, hrs, show x + d - x = d by omega, Int.mul_assoc, Int.mul_comm (r : Int)]
theorem len_law_is_even : ∀ ds M Q E, sp_law_is_even ds M Q E → ds.length = 2 := by rintro _ _ _ _ ⟨_, _, _, rfl, _⟩; rfl
theorem rd_law_is_even : Rds t_law_is_even n_law_is_even sp_law_is_even := by
  rintro _ M Q E ⟨f, n, s, rfl, h, hn, s0, sd, q⟩
  show t_law_is_even _ [some (.tup [.tup (f.head.map encO), .tup (f.tail.map encP)]), some (.int s), none, none, none, none] M
  unfold t_law_is_even
  have h0 := h.tk.t0
  have k1 := h.hl
  have k2 := h.tk.tl
  have sl := Nat.le_of_dvd h0 sd
  have h40 : (2 : Nat) ^ 40 = 1099511627776 := by decide
  walk_at "g"
  simp only [List.length_map]
  refine s_mul (.inl (.inl (by decide))) ?_
  walk_at "g"
  refine s_kforR (fun i τ M' => M' = M ∧ (∀ k : Int, 0 ≤ k → k < i → AP3 (tv f.tail k) (tv f.tail (k + s)) (tv f.tail (k + 2 * s))) ∧ ∃ a b c d, τ = [some (.tup [.tup (f.head.map encO), .tup (f.tail.map encP)]), some (.int s), a, b, c, d]) ⟨rfl, fun k k0 k1 => by omega, _, _, _, _, rfl⟩ (fun i τ M' hi ⟨e, hk, a, b, c, d, e2⟩ => ?_) (fun τ M' ⟨e, hk, a, b, c, d, e2⟩ => ?_)
  · subst e; subst e2
    have hi : i < 2 * f.tail.length := by omega
    walk_at "g"
    refine h.val_at (m := 40) (by rw [h40]; omega) (by decide) (by omega) ?_
    walk_at "g"
    refine h.val_at (m := 40) (by rw [h40]; omega) (by decide) (by omega) ?_
    walk_at "g"
    refine s_mul (.inl (.inl (by decide))) ?_
    walk_at "g"
    refine h.val_at (m := 40) (by rw [h40]; omega) (by decide) (by omega) ?_
    rw [val_tv (by omega), val_tv (by omega), val_tv (by omega), show (f.head.length : Int) + i - f.head.length = i by omega, show (f.head.length : Int) + i + s - f.head.length = i + s by omega, show (f.head.length : Int) + i + 2 * s - f.head.length = i + 2 * s by omega]
    have next : AP3 (tv f.tail i) (tv f.tail (i + s)) (tv f.tail (i + 2 * s)) → ∀ k : Int, 0 ≤ k → k < ((i + 1 : Nat) : Int) → AP3 (tv f.tail k) (tv f.tail (k + s)) (tv f.tail (k + 2 * s)) := fun h k k0 k1 => by
      by_cases e : k = i
      · subst e; exact h
      · exact hk k k0 (by omega)
    generalize tv f.tail (i : Int) = u at *
    generalize tv f.tail ((i : Int) + s) = v at *
    generalize tv f.tail ((i : Int) + 2 * s) = w at *
    cases u <;> cases v <;> cases w <;> simp only [encO] <;> walk_at "g" <;> simp only [D.isN] <;> walk_at "g" <;> (try simp only [D.isN]) <;> walk_at "g" <;> (try simp only [D.isN]) <;> walk_at "g" <;> (try simp only [D.isN, Bool.not_true, Bool.not_false]) <;> walk_at "g" <;> (try simp only [D.isN, Bool.not_true, Bool.not_false]) <;> walk_at "g" <;> (try simp only [D.isN, Bool.not_true, Bool.not_false]) <;> walk_at "g" <;> first
      | exact s_end (q false fun e => by cases e)
      | exact ⟨by trivial, next trivial, _, _, _, _, rfl⟩
      | (rename_i hc; exact ⟨by trivial, next (show _ - _ = _ - _ by simpa using hc), _, _, _, _, rfl⟩)
  · subst e; subst e2
    walk_at "g"
    exact s_end (q true fun _ => even_hp h0 s0 sd fun k k0 k1 => hk k k0 (by omega))
theorem len_law_is_normal : ∀ ds M Q E, sp_law_is_normal ds M Q E → ds.length = 1 := by rintro _ _ _ _ ⟨_, _, rfl, _⟩; rfl
theorem rd_law_is_normal : Rds t_law_is_normal n_law_is_normal sp_law_is_normal := by
  rintro _ M Q E ⟨f, n, rfl, h, hn, nf, q⟩
  show t_law_is_normal _ [some (.tup [.tup (f.head.map encO), .tup (f.tail.map encP)]), none, none, none] M
  unfold t_law_is_normal
  have h0 := h.tk.t0
  have k1 := h.hl
  have k2 := h.tk.tl
  walk_at "g"
  refine ⟨f, rfl, h0, fun p hp => (h.tk.th p hp).2.2, ?_⟩
  walk_at "g"
  simp only [List.length_map]
  refine s_kforR (fun i τ M' => M' = M ∧ ∃ a, τ = [some (.tup [.tup (f.head.map encO), .tup (f.tail.map encP)]), a, none, none]) ⟨rfl, _, rfl⟩ (fun i τ M' hi ⟨e, a, e2⟩ => ?_) (fun τ M' ⟨e, a, e2⟩ => ?_)
  · subst e; subst e2
    have hi : i + 1 < f.tail.length := by omega
    rw [show (1 : Int) + i = ((i + 1 : Nat) : Int) by omega]
    walk_at "g"
    simp only [List.length_map]
    refine s_I (by omega) ?_
    walk_at "g"
    · rename_i hd
      have hd : (i + 1) ∣ f.tail.length := by
        have : ((f.tail.length % (i + 1) : Nat) : Int) = 0 := by rw [← hd]; rfl
        exact Nat.dvd_of_mod_eq_zero (by omega)
      refine ⟨f, n, i + 1, rfl, h, hn, by omega, hd, fun b hb => ?_⟩
      cases b with
      | true => exact absurd (hb rfl) (nf.mn _ (by omega) hi hd)
      | false =>
        walk_at "g"
        exact ⟨rfl, _, rfl⟩
    · exact ⟨rfl, _, rfl⟩
  · subst e; subst e2
    walk_at "g"
    · exact s_end q
    · rename_i hc
      simp only [List.length_map] at hc ⊢
      have hl : 0 < f.head.length := by omega
      have nh := nf.hd hl
      have eix : ((f.tail.length : Int) - 1) % f.tail.length = f.tail.length - 1 := Int.emod_eq_of_lt (by omega) (by omega)
      have et : tailAt f.tail (-1) = tailAt f.tail ((f.tail.length : Int) - 1) := by
        rw [show (f.tail.length : Int) - 1 = -1 + f.tail.length * 1 by omega, tailAt_shift]
      have ed : (-1 : Int) / f.tail.length = -1 := by
        have := Int.add_mul_ediv_left (-1 + (f.tail.length : Int)) (-1) (show (f.tail.length : Int) ≠ 0 by omega)
        rw [show (-1 : Int) + f.tail.length + f.tail.length * -1 = -1 by omega, show (-1 + (f.tail.length : Int)) / f.tail.length = 0 from Int.ediv_eq_zero_of_lt (by omega) (by omega)] at this
        omega
      have etv : tv f.tail (-1) = (tailAt f.tail ((f.tail.length : Int) - 1)).1.map fun v => v - (tailAt f.tail ((f.tail.length : Int) - 1)).2 := by
        unfold tv
        rw [et, ed]
        unfold tailVal
        congr 1; funext v
        omega
      refine s_ix (d := encP (tailAt f.tail ((f.tail.length : Int) - 1))) rfl (by rw [atI_toNat (by omega), tail_ix h.tk (by omega) (by omega)]) ?_
      rw [etv] at nh
      generalize tailAt f.tail ((f.tail.length : Int) - 1) = pr at *
      obtain ⟨v, s⟩ := pr
      rw [encP_mk]
      walk_at "g"
      rw [encO_isN]
      have hix : atI (f.head.map encO) ((f.head.length : Int) - 1) = some (encO (f.head.getD (f.head.length - 1) none)) := by
        rw [atI_toNat (by omega), List.getElem?_map, show ((f.head.length : Int) - 1).toNat = f.head.length - 1 by omega, List.getElem?_eq_getElem (by omega), getD_of (List.getElem?_eq_getElem (by omega))]; rfl
      cases v with
      | none =>
        simp only [Option.isNone_none, Bool.not_true]
        walk_at "g"
        simp only [List.length_map]
        refine s_ix (d := encO (f.head.getD (f.head.length - 1) none)) rfl hix ?_
        walk_at "g"
        refine s_neS (scal_O _ none) ?_
        rw [decide_eq_false (show ¬ f.head.getD (f.head.length - 1) none = none from nh)]
        exact s_end q
      | some v =>
        simp only [Option.isNone_some, Bool.not_false]
        rw [show encO (some v) = .int v from rfl]
        walk_at "g"
        simp only [List.length_map]
        refine s_ix (d := encO (f.head.getD (f.head.length - 1) none)) rfl hix ?_
        walk_at "g"
        refine s_neS (scal_O _ (some (v - s))) ?_
        rw [decide_eq_false (show ¬ f.head.getD (f.head.length - 1) none = some (v - s) from nh)]
        exact s_end q

theorem len_law_far : ∀ ds M Q E, sp_law_far ds M Q E → ds.length = 1 := by rintro _ _ _ _ ⟨a, rfl, _⟩; rfl
theorem rd_law_far : Rds t_law_far n_law_far sp_law_far := by
  rintro _ M Q E ⟨a, rfl, hs, q⟩
  show t_law_far _ [some (.ref a), none, none] M
  unfold t_law_far
  walk_at "g"
  refine ⟨a, 1000, rfl, by decide, by decide, hs, fun d M1 h0 h1 D1 => ?_⟩
  walk_at "g"
  refine ⟨a, 9, rfl, by decide, by decide, D1.ok, fun n M2 g0 g1 D2 => ?_⟩
  walk_at "g"
  refine s_kr1 (by omega) (by omega) ?_
  refine s_kforR (fun i τ M' => ∃ x y, τ = [some (.ref a), some (.int x), y] ∧ 0 ≤ x ∧ x < 1000 * 1010 ^ i ∧ Drawn M a M') ⟨d, none, rfl, h0, by simpa using h1, D1.trans D2⟩ (fun i τ M' hi ⟨x, y, e, x0, x1, D3⟩ => ?_) (fun τ M' ⟨x, y, e, x0, x1, D3⟩ => ?_)
  · subst e
    show dSet 1 _ _ [some (.ref a), some (.int x), some (.int (0 + i))] M'
    walk_at "g"
    refine s_mul (.inl (.inr (by decide))) ?_
    walk_at "g"
    refine ⟨a, 1000, rfl, by decide, by decide, D3.ok, fun e M4 e0 e1 D4 => ?_⟩
    walk_at "g"
    refine ⟨_, _, rfl, by omega, ?_, D3.trans D4⟩
    have : (1000 : Int) * 1010 ^ (i + 1) = 1010 * (1000 * 1010 ^ i) := by rw [Int.pow_succ]; omega
    rw [this]
    have h1 : (0 : Int) < 1010 ^ i := Int.pow_pos (by decide)
    omega
  · subst e
    walk_at "g"
    refine s_end (q _ _ x0 ?_ D3)
    have hn : n.toNat ≤ 8 := by omega
    have : (1010 : Int) ^ n.toNat ≤ 1010 ^ 8 := ipow_le (a := 1010) hn (by decide)
    have e8 : (1000 : Int) * 1010 ^ 8 < 2 ^ 190 := by decide
    omega

theorem s_klcFil {plain : Bool} {is vs : List Nat} {fin : List D → Mp → QD → Prop} {tt : DT} {te : DE} {τ : SD} {M : Mp} {Q : QD} {x : D} {α : Type} {xs : List α} (enc : α → D) (p : α → Bool) (f : α → D) (hx : ∀ M, sqOf M x = some (xs.map enc)) (hl : xs.length ≤ sizeLine)
    (hs : ∀ a ∈ xs, ∃ τ2, bindD plain is (enc a) (wipeD τ vs) = some τ2 ∧ (∀ QB : Bool → Mp → Prop, QB (p a) M → tt τ2 M QB) ∧ ∀ Q : QD, p a = true → Q (f a) M → te τ2 M Q) (hd : fin ((xs.filter p).map f) M Q) : kLc fin plain is vs tt te τ Q (itSeq x (xs.map enc)) M := by
  refine ⟨fun i acc M' => M' = M ∧ acc = ((xs.take i).filter p).map f, ⟨rfl, rfl⟩, fun i acc M' hi p => hx M', fun i acc M' hi pp => ?_, fun acc M' pp => ?_⟩
  · obtain ⟨rfl, rfl⟩ := pp
    have hi : i < (xs.map enc).length := hi
    rw [List.length_map] at hi
    have e := List.getElem?_eq_getElem hi
    obtain ⟨τ2, e2, k1, k2⟩ := hs xs[i] (List.getElem_mem hi)
    have e3 : (itSeq x (xs.map enc)).at' i = enc xs[i] := getD_of (by rw [List.getElem?_map, e]; rfl)
    have e4 : xs.take (i + 1) = xs.take i ++ [xs[i]] := by rw [List.take_succ, e]; rfl
    rw [e3, e2]
    refine k1 _ ?_
    cases hp : p xs[i] with
    | true =>
      rw [if_pos rfl]
      refine k2 _ hp ⟨?_, rfl, ?_⟩
      · rw [List.length_map]
        have := List.length_filter_le p (xs.take i)
        rw [List.length_take] at this
        omega
      · rw [e4, List.filter_append, List.map_append]
        simp [hp]
    | false =>
      rw [if_neg Bool.false_ne_true]
      refine ⟨rfl, ?_⟩
      rw [e4, List.filter_append, List.map_append]
      simp [hp]
  · obtain ⟨rfl, rfl⟩ := pp
    have e : xs.take (itSeq x (xs.map enc)).n = xs := List.take_of_length_le (by show _ ≤ (xs.map enc).length; rw [List.length_map]; exact Nat.le_refl _)
    rw [e]
    exact hd

theorem len_first_of_class : ∀ ds M Q E, sp_first_of_class ds M Q E → ds.length = 3 := by rintro _ _ _ _ ⟨_, _, _, rfl, _⟩; rfl
theorem rd_first_of_class : Rds t_first_of_class n_first_of_class sp_first_of_class := by
  rintro _ M Q E ⟨r, l, p, rfl, hp, q⟩
  show t_first_of_class _ [some (.int r), some (.int l), some (.int p)] M
  unfold t_first_of_class
  walk_at "g"
  refine s_I hp ?_
  walk_at "g"
  exact s_end q
theorem len_line (C : Ct) : ∀ ds M Q E, sp_line C ds M Q E → ds.length = 3 := by rintro _ _ _ _ ⟨_, _, _, _, _, rfl, _⟩; rfl
theorem rd_line (C : Ct) : Rds (t_line C) n_line (sp_line C) := by
  rintro _ M Q E ⟨p, start, d, v, P, rfl, hp, h0, hf, hP, hs, q⟩
  show t_line C _ [some (.int p), some d, some (.int start), none, none, none, none] M
  unfold t_line
  have loop : ∀ s, (∀ a b, v start = some a → v (start + p) = some b → s = b - a) → (v start = none → s = 0) → t_line_c4 C (fnE Q) [some (.int p), some d, some (.int start), some (.int start), some (encO (v start)), some (.int s), none] M := by
    intro s s1 s0
    unfold t_line_c4
    walk_at "g"
    refine s_while (fun m τ M' => M' = M ∧ ∃ x w, (m : Int) = x ∧ (∃ j : Int, 0 ≤ j ∧ start = x + p * j) ∧ (∀ j : Int, 0 ≤ j → x + p * j ≤ start → v (x + p * j) = (v x).map (· + s * j)) ∧ τ = [some (.int p), some d, some (.int start), some (.int x), some (encO (v x)), some (.int s), w]) start.toNat
      ⟨rfl, start, _, by omega, ⟨0, by decide, by omega⟩, fun j j0 jl => ?_, rfl⟩ (fun m τ M' ⟨e, x, w, hm, ⟨j, j0, ej⟩, run, e2⟩ => ?_)
    · have : p * j ≤ 0 := by omega
      have j1 : j = 0 := by
        by_cases z : j = 0
        · exact z
        · have := Int.mul_pos hp (show 0 < j by omega); omega
      subst j1
      rw [show start + p * 0 = start by omega]
      cases v start with
      | none => rfl
      | some a => show some a = some (a + s * 0); congr 1; omega
    · subst e; subst e2
      have xl : x ≤ start := by have := Int.mul_nonneg (show 0 ≤ p by omega) j0; omega
      have fin : (x < p ∨ v (x - p) ≠ (v x).map (· - s)) → rtQ Q (D.tup [.int x, encO (v x), .int s]) M' := fun stop => s_end (q x s ⟨by omega, ⟨j, j0, ej⟩, run, stop, s1, s0⟩)
      walk_at "g"
      · rename_i hc
        have du : ∀ QQ : QD, QQ (encO ((v x).map (· - s))) M' → dIf (dTest (dOp dIsN (dVar 4) (dC .non))) (dC .non) (dOp dSub (dVar 4) (dVar 5)) [some (.int p), some d, some (.int start), some (.int x), some (encO (v x)), some (.int s), w] M' QQ := fun QQ k => by
          walk_at "g"
          rw [encO_isN]
          cases e : v x with
          | none =>
            rw [e] at k
            simp only [Option.isNone_none]
            refine s_kifE (fun _ => ?_) (fun z => by cases z)
            walk_at "g"
            exact k
          | some a =>
            rw [e] at k
            simp only [Option.isNone_some]
            refine s_kifE (fun z => by cases z) (fun _ => ?_)
            rw [show encO (some a) = .int a from rfl]
            walk_at "g"
            exact k
        refine du _ ?_
        walk_at "g"
        refine s_callV _ rfl hf ?_
        walk_at "g"
        refine s_kcallV hf ⟨x - p, rfl, hP _ (by omega) (by omega), ?_⟩
        walk_at "g"
        refine s_neS (scal_O _ _) ?_
        walk_at "g"
        · rename_i hne
          exact fin (.inr hne)
        · rename_i heq
          have heq : v (x - p) = (v x).map (· - s) := by simpa using heq
          rw [← heq]
          refine ⟨(x - p).toNat, by omega, rfl, x - p, _, by omega, ⟨j + 1, by omega, by rw [Int.mul_add]; omega⟩, fun i i0 il => ?_, rfl⟩
          by_cases z : i = 0
          · subst z
            rw [show x - p + p * 0 = x - p by omega]
            cases v (x - p) <;> simp
          · have e1 : x - p + p * i = x + p * (i - 1) := by rw [Int.mul_sub]; omega
            rw [e1] at il ⊢
            rw [run (i - 1) (by omega) il, heq]
            cases v x with
            | none => rfl
            | some a =>
              show some _ = some _
              congr 1
              show a + s * (i - 1) = a - s + s * i
              rw [Int.mul_sub]; omega
      · exact fin (.inl (by omega))
  walk_at "g"
  refine s_callV _ rfl hf ?_
  walk_at "g"
  refine s_kcallV hf ⟨start, rfl, hP _ h0 (by omega), ?_⟩
  walk_at "g"
  rw [encO_isN]
  cases e : v start with
  | none =>
    have := loop 0 (fun a b ea => by rw [e] at ea; cases ea) (fun _ => rfl)
    rw [e] at this
    simp only [Option.isNone_none, Bool.not_true]
    walk_at "g"
    exact this
  | some a =>
    simp only [Option.isNone_some, Bool.not_false]
    walk_at "g"
    refine s_callV _ rfl hf ?_
    walk_at "g"
    refine s_kcallV hf ⟨start + p, rfl, hP _ (by omega) (by omega), ?_⟩
    cases eb : v (start + p) with
    | none => exact absurd eb (hs (by rw [e]; exact fun z => by cases z))
    | some b =>
      have := loop (b - a) (fun a' b' ea eb' => by rw [e] at ea; rw [eb] at eb'; cases ea; cases eb'; rfl) (fun z => by rw [e] at z; cases z)
      rw [e] at this
      simp only [encO] at this ⊢
      walk_at "g"
      exact this
/-- a line goes on for ever -/
theorem line_glob {v : Int → Option Int} {p start x s : Int} (hp : 0 < p) (hl : ∃ sl : Int, ∀ m, 0 ≤ m → v (start + p * m) = (v start).map (· + sl * m)) (h : LineR v p start x s) :
    ∀ j : Int, 0 ≤ j → v (x + p * j) = (v x).map (· + s * j) := by
  obtain ⟨sl, hl⟩ := hl
  obtain ⟨j0, j00, ej⟩ := h.cls
  intro j hj
  by_cases c : x + p * j ≤ start
  · exact h.run j hj c
  have hjj : j0 ≤ j := by
    by_cases z : j0 ≤ j
    · exact z
    · have := Int.mul_le_mul_of_nonneg_left (show j ≤ j0 by omega) (show 0 ≤ p by omega); omega
  have e1 : x + p * j = start + p * (j - j0) := by rw [Int.mul_sub]; omega
  have h1 := hl 1 (by decide)
  have h2 := hl (j - j0) (by omega)
  have h3 := h.run j0 j00 (by omega)
  rw [← ej] at h3
  rw [Int.mul_one, Int.mul_one] at h1
  rw [e1, h2, h3]
  cases e : v x with
  | none => rfl
  | some a =>
    rw [e] at h3
    have h3 : v start = some (a + s * j0) := h3
    rw [h3] at h1
    have hs := h.s1 _ _ h3 h1
    have hs : s = sl := by show s = sl; rw [hs]; show a + s * j0 + sl - (a + s * j0) = sl; omega
    rw [← hs]
    show some _ = some _
    congr 1
    show a + s * j0 + s * (j - j0) = a + s * j
    rw [Int.mul_sub]; omega
/-- .. and does not begin behind L by more than a round -/
theorem line_low {v : Int → Option Int} {p start x s L : Int} (hp : 0 < p) (hl : ∃ sl : Int → Int, ∀ x, L ≤ x → ∀ m, 0 ≤ m → v (x + p * m) = (v x).map (· + sl x * m)) (hL : L ≤ start) (h : LineR v p start x s) : x < p ∨ x - p < L := by
  rcases h.stop with z | z
  · exact .inl z
  · by_cases c : x - p < L
    · exact .inr c
    exfalso
    obtain ⟨sl, hl⟩ := hl
    have g := line_glob hp ⟨sl start, hl start hL⟩ h
    have h1 := hl (x - p) (by omega) 1 (by decide)
    have h2 := hl (x - p) (by omega) 2 (by decide)
    have g1 := g 1 (by decide)
    rw [Int.mul_one, show x - p + p = x by omega] at h1
    rw [show x - p + p * 2 = x + p * 1 by omega, g1] at h2
    refine z ?_
    cases e : v (x - p) with
    | none => rw [e] at h1; rw [h1]; rfl
    | some a =>
      rw [e] at h1 h2
      rw [h1] at h2 ⊢
      have h2 : a + sl (x - p) * 1 + s * 1 = a + sl (x - p) * 2 := Option.some.inj h2
      show some a = some (a + sl (x - p) * 1 - s)
      congr 1; omega
def asmT (v : Int → Option Int) (len : Nat) (p : Nat) (ln : List (Int × Int)) : Tl := (List.range p).map fun i : Nat => (v ((len : Int) + i), if v ((len : Int) + i) = none then 0 else (ln.getD ((((len : Int) + i) % p).toNat) (0, 0)).2)
theorem val_asm {v : Int → Option Int} {len p : Nat} {ln : List (Int × Int)} (hp : 0 < p) (hg : ∀ i : Nat, i < p → ∀ m : Int, 0 ≤ m → v ((len : Int) + i + p * m) = (v ((len : Int) + i)).map (· + (ln.getD ((((len : Int) + i) % p).toNat) (0, 0)).2 * m)) (x : Int) (x0 : 0 ≤ x) :
    Frm.val ⟨(List.range len).map fun i : Nat => v i, asmT v len p ln⟩ x = v x := by
  have l1 : ((List.range len).map fun i : Nat => v i).length = len := by rw [List.length_map, List.length_range]
  have l2 : (asmT v len p ln).length = p := by unfold asmT; rw [List.length_map, List.length_range]
  by_cases h : x < len
  · unfold Frm.val
    simp only [l1]
    rw [if_neg (by omega), if_pos h]
    refine getD_of ?_
    rw [List.getElem?_map, List.getElem?_range (by omega)]
    show some (v ((x.toNat : Nat) : Int)) = _
    rw [show ((x.toNat : Nat) : Int) = x by omega]
  · rw [val_tv (by simp only [l1]; omega)]
    simp only [l1]
    unfold tv tailAt
    simp only [l2]
    have i0 : 0 ≤ (x - len) % (p : Int) := Int.emod_nonneg _ (by omega)
    have i1 : (x - len) % (p : Int) < p := Int.emod_lt_of_pos _ (by omega)
    have m0 : 0 ≤ (x - len) / (p : Int) := Int.ediv_nonneg (by omega) (by omega)
    have e := Int.emod_add_mul_ediv (x - len) p
    generalize (x - len) % (p : Int) = i at *
    generalize (x - len) / (p : Int) = m at *
    obtain ⟨k, rfl⟩ : ∃ k : Nat, i = k := ⟨i.toNat, by omega⟩
    have g := hg k (by omega) m m0
    rw [show (len : Int) + k + p * m = x by omega] at g
    rw [g]
    have et : (asmT v len p ln).getD ((k : Int)).toNat (none, 0) = (v ((len : Int) + k), if v ((len : Int) + k) = none then 0 else (ln.getD ((((len : Int) + k) % p).toNat) (0, 0)).2) := by
      refine getD_of ?_
      unfold asmT
      rw [show ((k : Int)).toNat = k by omega, List.getElem?_map, List.getElem?_range (by omega)]; rfl
    rw [et]
    unfold tailVal
    cases ev : v ((len : Int) + k) with
    | none => rfl
    | some a => simp
def encL (v : Int → Option Int) (q : Int × Int) : D := .tup [.int q.1, encO (v q.1), .int q.2]
/-- a line that begins late: no form has a shorter head -/
theorem line_far {v : Int → Option Int} {p start x s : Int} {g : Frm} (hp : 0 < p) (hl : ∃ sl : Int, ∀ m, 0 ≤ m → v (start + p * m) = (v start).map (· + sl * m)) (h : LineR v p start x s) (hx : p ≤ x) (g0 : 0 < g.tail.length) (hv : ∀ x, 0 ≤ x → g.val x = v x) : x - p + 1 ≤ g.head.length := by
  by_cases c : x - p + 1 ≤ g.head.length
  · exact c
  exfalso
  have gl := line_glob hp hl h
  rcases h.stop with z | z
  · omega
  refine z ?_
  have T0 : (0 : Int) < g.tail.length := by omega
  have s1 := val_shift g0 (f := g) (y := x - p) (m := p) (by omega) (by omega)
  have s2 := val_shift g0 (f := g) (y := x - p) (m := p * 2) (by omega) (by omega)
  have e1 : x - p + g.tail.length * p = x + p * (g.tail.length - 1) := by rw [Int.mul_sub, Int.mul_comm p]; omega
  have e2 : x - p + g.tail.length * (p * 2) = x + p * (g.tail.length * 2 - 1) := by
    rw [Int.mul_sub, ← Int.mul_assoc, Int.mul_comm _ p, Int.mul_assoc]; omega
  have n1 : 0 ≤ p * ((g.tail.length : Int) - 1) := Int.mul_nonneg (by omega) (by omega)
  have n2 : 0 ≤ p * ((g.tail.length : Int) * 2 - 1) := Int.mul_nonneg (by omega) (by omega)
  rw [e1, hv _ (by omega), hv _ (by omega), gl _ (by omega)] at s1
  rw [e2, hv _ (by omega), hv _ (by omega), gl _ (by omega)] at s2
  generalize ts g.tail (x - p - g.head.length) = c2 at *
  cases ex : v x with
  | none =>
    rw [ex] at s1
    cases ey : v (x - p) with
    | none => rfl
    | some b => rw [ey] at s1; cases s1
  | some a =>
    rw [ex] at s1 s2
    cases ey : v (x - p) with
    | none => rw [ey] at s1; cases s1
    | some b =>
      rw [ey] at s1 s2
      have s1 : a + s * ((g.tail.length : Int) - 1) = b + c2 * p := Option.some.inj s1
      have s2 : a + s * ((g.tail.length : Int) * 2 - 1) = b + c2 * (p * 2) := Option.some.inj s2
      rw [Int.mul_sub] at s1 s2
      rw [← Int.mul_assoc] at s2
      rw [← Int.mul_assoc c2] at s2
      show some b = some (a - s)
      congr 1
      omega
theorem len_assemble (C : Ct) : ∀ ds M Q E, sp_assemble C ds M Q E → ds.length = 3 := by rintro _ _ _ _ ⟨_, _, _, _, _, _, _, _, rfl, _⟩; rfl
theorem rd_assemble (C : Ct) : RdsX (t_assemble C) n_assemble (sp_assemble C) := by
  rintro _ M Q E ⟨p, d, st, starts, v, P, B, n, rfl, hst, h, q, qe⟩
  show t_assemble C E _ [some (.int p), some d, some st, none, none, none, none, none, none, none, none, none] M
  unfold t_assemble
  have p0 := h.p0
  have pl := h.pl
  have hp : (0 : Int) < p := by omega
  have B0 : 0 ≤ B := by
    have := h.len
    have e := List.getElem?_eq_getElem (show 0 < starts.length by omega)
    obtain ⟨a, b, c⟩ := h.st _ _ e
    omega
  have sm : ∀ s ∈ starts, 0 ≤ s ∧ s ≤ B := fun s hs => by
    obtain ⟨i, hi, e⟩ := List.getElem_of_mem hs
    obtain ⟨a, b, c⟩ := h.st i s (by rw [List.getElem?_eq_getElem hi, e])
    exact ⟨a, c⟩
  walk_at "g"
  refine s_kseq hst ?_
  refine s_klcRelM (fun s => .int s) (encL v) (fun s q => LineR v p s q.1 q.2) hst (small_line (by rw [h.len]; omega)) (fun s hs => ⟨_, rfl, fun Q k => ?_⟩) (fun ln hln hrl => ?_)
  · obtain ⟨s1, s2⟩ := sm s hs
    walk_at "g"
    refine ⟨p, s, d, v, P, rfl, hp, by omega, h.fn, fun x x0 x1 => h.P x x0 (by omega), fun hn => ?_, fun x t hl => k (x, t) hl⟩
    obtain ⟨sl, hsl⟩ := h.lin s hs
    have := hsl 1 (by decide)
    rw [Int.mul_one] at this
    rw [this]
    cases e : v s with
    | none => exact absurd e hn
    | some a => exact fun z => by cases z
  rw [h.len] at hln
  have lnr : ∀ i : Nat, i < p → ∃ s : Int, starts[i]? = some s ∧ 0 ≤ s ∧ s % p = i ∧ s ≤ B ∧ LineR v p s (ln.getD i (0, 0)).1 (ln.getD i (0, 0)).2 := fun i hi => by
    have e1 := List.getElem?_eq_getElem (show i < starts.length by rw [h.len]; exact hi)
    have e2 := List.getElem?_eq_getElem (show i < ln.length by omega)
    obtain ⟨a, b, c⟩ := h.st _ _ e1
    have := hrl i _ _ e1 e2
    refine ⟨_, e1, a, b, c, ?_⟩
    rw [getD_of e2]; exact this
  walk_at "g"
  refine s_maxDf ?_
  walk_at "g"
  refine s_klcFil (encL v) (fun q => decide (q.1 ≥ (p : Int))) (fun q => .int (q.1 - p + 1)) (fun _ => rfl) (small_line (by omega)) (fun q hq => ⟨_, rfl, fun QB k => ?_, fun Q hq k => ?_⟩) ?_
  · show dTest (dOp dGe (dVar 6) (dVar 0)) [some (.int p), some d, some st, some (.lst (ln.map (encL v))), none, none, some (.int q.1), some (.int q.2), none, none, none, none] M QB
    walk_at "g"
    exact k
  · show dOp dAdd (dOp dSub (dVar 6) (dVar 0)) (dC (.int 1)) [some (.int p), some d, some st, some (.lst (ln.map (encL v))), none, none, some (.int q.1), some (.int q.2), none, none, none, none] M Q
    walk_at "g"
    exact k
  refine s_kmaxDf1 ?_
  walk_at "g"
  have main : ∀ len : Nat, (len : Int) ≤ B → (∀ q ∈ ln, q.1 - p + 1 ≤ len) → (4000 < len → NoForm v) → t_assemble_c2 C E (fnE Q) [some (.int p), some d, some st, some (.lst (ln.map (encL v))), none, some (.int len), none, none, none, none, none, none] M := by
    intro len hlB hmax hno
    unfold t_assemble_c2
    walk_at "g"
    · rename_i hc
      exact s_raise (qe (hno (by omega)))
    · rename_i hc
      have hlen : (len : Int) ≤ 4000 := by omega
      refine fun t ht => ?_
      walk_at "g"
      unfold t_assemble_c4
      walk_at "g"
      have nxf : ∀ o, M t ≠ some (.raw o) := fun o z => by rw [ht] at z; cases z
      have glob : ∀ i : Nat, i < p → (ln.getD ((((len : Int) + i) % p).toNat) (0, 0)).1 ≤ (len : Int) + i ∧ (∃ j : Int, 0 ≤ j ∧ (len : Int) + i = (ln.getD ((((len : Int) + i) % p).toNat) (0, 0)).1 + p * j) ∧ (∀ j : Int, 0 ≤ j → v ((ln.getD ((((len : Int) + i) % p).toNat) (0, 0)).1 + p * j) = (v (ln.getD ((((len : Int) + i) % p).toNat) (0, 0)).1).map (· + (ln.getD ((((len : Int) + i) % p).toNat) (0, 0)).2 * j)) := fun i hi => by
        have r0 : 0 ≤ ((len : Int) + i) % (p : Int) := Int.emod_nonneg _ (by omega)
        have r1 : ((len : Int) + i) % (p : Int) < p := Int.emod_lt_of_pos _ (by omega)
        have hr : (((len : Int) + i) % (p : Int)).toNat < p := by omega
        obtain ⟨s, es, sL, sr, sB, lr⟩ := lnr _ hr
        have hm := hmax _ (show ln.getD ((((len : Int) + i) % p).toNat) (0, 0) ∈ ln by rw [getD_of (List.getElem?_eq_getElem (by omega))]; exact List.getElem_mem _)
        generalize ln.getD ((((len : Int) + i) % p).toNat) (0, 0) = b at *
        have gl := line_glob hp (h.lin s (List.mem_of_getElem? es)) lr
        obtain ⟨j, j0, ej⟩ := lr.cls
        -- b ≡ len + i mod p
        have cg : ((len : Int) + i - b.1) % p = 0 := by
          have e1 : s % p = ((len : Int) + i) % p := by rw [sr]; omega
          have e2 : (b.1 + p * j) % p = ((len : Int) + i) % p := by rw [← ej]; exact e1
          rw [Int.add_mul_emod_self_left] at e2
          rw [Int.sub_emod, ← e2, Int.sub_self]; rfl
        have e3 := Int.emod_add_mul_ediv ((len : Int) + i - b.1) p
        rw [cg, Int.zero_add] at e3
        have k0 : 0 ≤ ((len : Int) + i - b.1) / p := by
          by_cases z : 0 ≤ ((len : Int) + i - b.1) / p
          · exact z
          · have := Int.mul_le_mul_of_nonneg_left (show ((len : Int) + i - b.1) / p ≤ -1 by omega) (show 0 ≤ (p : Int) by omega)
            omega
        have := Int.mul_nonneg (show 0 ≤ (p : Int) by omega) k0
        exact ⟨by omega, ⟨_, k0, by omega⟩, gl⟩
      refine s_kforR (fun i τ M' => M' = updM M t (.lst (((asmT v len p ln).take i).map encP)) ∧ ∃ a b c e, τ = [some (.int p), some d, some st, some (.lst (ln.map (encL v))), none, some (.int len), a, none, some (.ref t), b, c, e]) ⟨rfl, _, _, _, _, rfl⟩ (fun i τ M' hi ⟨e, a, b, c, e', e2⟩ => ?_) (fun τ M' ⟨e, a, b, c, e', e2⟩ => ?_)
      · subst e; subst e2
        have hi : i < p := by omega
        have lT : (asmT v len p ln).length = p := by unfold asmT; rw [List.length_map, List.length_range]
        have eT : (asmT v len p ln)[i]? = some (v ((len : Int) + i), if v ((len : Int) + i) = none then 0 else (ln.getD ((((len : Int) + i) % p).toNat) (0, 0)).2) := by
          unfold asmT
          rw [List.getElem?_map, List.getElem?_range hi]; rfl
        have next : ∀ (a b c e' : Option D), updM (updM M t (.lst (((asmT v len p ln).take i).map encP))) t (.lst (((asmT v len p ln).take i).map encP ++ [encP (v ((len : Int) + i), if v ((len : Int) + i) = none then 0 else (ln.getD ((((len : Int) + i) % p).toNat) (0, 0)).2)])) = updM M t (.lst (((asmT v len p ln).take (i + 1)).map encP)) ∧ ∃ a2 b2 c2 e2, ([some (.int p), some d, some st, some (.lst (ln.map (encL v))), none, some (.int len), a, none, some (.ref t), b, c, e'] : SD) = [some (.int p), some d, some st, some (.lst (ln.map (encL v))), none, some (.int len), a2, none, some (.ref t), b2, c2, e2] := fun a b c e' => by
          refine ⟨?_, _, _, _, _, rfl⟩
          rw [updM_updM, List.take_succ, eT, List.map_append]; rfl
        have hsz : (((asmT v len p ln).take i).map encP).length < sizeLine := Nat.lt_of_le_of_lt (m := 100000) (by rw [List.length_map, List.length_take]; omega) (by decide)
        obtain ⟨g1, ⟨j, j0, ej⟩, g3⟩ := glob i hi
        have r0 : 0 ≤ ((len : Int) + i) % (p : Int) := Int.emod_nonneg _ (by omega)
        have r1 : ((len : Int) + i) % (p : Int) < p := Int.emod_lt_of_pos _ (by omega)
        have hr : (((len : Int) + i) % (p : Int)).toNat < ln.length := by omega
        have eln := List.getElem?_eq_getElem hr
        have egd := getD_of (z := ((0, 0) : Int × Int)) eln
        walk_at "g"
        refine s_I (by omega) ?_
        walk_at "g"
        refine s_ix (d := encL v (ln.getD ((((len : Int) + i) % p).toNat) (0, 0))) rfl (by rw [atI_toNat r0, List.getElem?_map, eln, egd]; rfl) ?_
        generalize ln.getD ((((len : Int) + i) % p).toNat) (0, 0) = bq at *
        obtain ⟨b0, s0⟩ := bq
        show kUnp _ _ _ (.tup [.int b0, encO (v b0), .int s0]) _
        walk_at "g"
        rw [encO_isN]
        have gj := g3 j j0
        rw [← ej] at gj
        cases ev : v b0 with
        | none =>
          simp only [Option.isNone_none]
          walk_at "g"
          refine s_append updM_same hsz ?_
          walk_at "g"
          have : v ((len : Int) + i) = none := by rw [gj]; show (v b0).map _ = none; rw [ev]; rfl
          have nx := next (some (.int ((len : Int) + i))) (some (.int b0)) (some .non) (some (.int s0))
          rw [this] at nx
          exact nx
        | some a0 =>
          simp only [Option.isNone_some]
          rw [show encO (some a0) = .int a0 from rfl]
          walk_at "g"
          have ed : ((len : Int) + i - b0) / p = j := by
            have : (len : Int) + i - b0 = p * j := by have ej : (len : Int) + i = b0 + p * j := ej; omega
            rw [this, Int.mul_ediv_cancel_left _ (by omega)]
          refine s_I ⟨by omega, log2_20 (by omega)⟩ ?_
          rw [ed]
          walk_at "g"
          have jb : j.natAbs ≤ 1000000000 := by
            have : j ≤ (p : Int) * j := by have := Int.mul_le_mul_of_nonneg_right (show (1 : Int) ≤ p by omega) j0; omega
            have ej : (len : Int) + i = b0 + p * j := ej
            have lb : 0 ≤ b0 := by
              obtain ⟨s, es, sL, sr, sB, lr⟩ := lnr _ (show (((len : Int) + i) % (p : Int)).toNat < p by omega)
              rw [getD_of eln, ← egd] at lr
              exact lr.x0
            omega
          refine s_mul (.inl (.inr (sm64 jb))) ?_
          walk_at "g"
          refine s_append updM_same hsz ?_
          walk_at "g"
          have hv : v ((len : Int) + i) = some (a0 + s0 * j) := by rw [gj]; show (v b0).map _ = _; rw [ev]; rfl
          have nx := next (some (.int ((len : Int) + i))) (some (.int b0)) (some (.int a0)) (some (.int s0))
          rw [hv, if_neg (fun z => by cases z)] at nx
          exact nx
      · subst e; subst e2
        have lT : (asmT v len p ln).length = p := by unfold asmT; rw [List.length_map, List.length_range]
        rw [show ((len : Int) + p - len).toNat = p by omega, List.take_of_length_le (by omega)]
        walk_at "g"
        refine s_kr1 (by omega) (by omega) ?_
        refine s_klcRng (fun i : Nat => encO (v i)) (small_line (by omega)) (fun i QQ hi k => ?_) ?_
        · rw [Int.zero_add]
          show dCallV C 10 1 (dCons (dVar 6) dNil) [some (.int p), some d, some st, some (.lst (ln.map (encL v))), none, some (.int len), some (.int i), none, some (.ref t), b, c, e'] _ QQ
          have hf := h.fn.upd (p := t) (m := .lst ((asmT v len p ln).map encP)) nxf
          refine s_callV _ rfl hf ?_
          walk_at "g"
          exact s_kcallV hf ⟨i, rfl, h.P i (by omega) (by omega), k⟩
        rw [show ((len : Int)).toNat = len by omega]
        walk_at "g"
        have eF : (D.tup [.tup ((List.range len).map fun i : Nat => encO (v i)), .tup ((asmT v len p ln).map encP)]) = Frm.enc ⟨(List.range len).map fun i : Nat => v i, asmT v len p ln⟩ := by
          unfold Frm.enc; rw [List.map_map]; rfl
        rw [eF]
        have slb : ∀ i : Nat, i < p → v ((len : Int) + i) ≠ none → (ln.getD ((((len : Int) + i) % p).toNat) (0, 0)).2.natAbs < 2 ^ (n + 1) := fun i hi hn => by
          obtain ⟨s, es, sL, sr, sB, lr⟩ := lnr _ (show (((len : Int) + i) % (p : Int)).toNat < p by have := Int.emod_nonneg ((len : Int) + i) (b := (p : Int)) (by omega); have := Int.emod_lt_of_pos ((len : Int) + i) hp; omega)
          obtain ⟨g1, ⟨j, j0, ej⟩, g3⟩ := glob i hi
          generalize ln.getD ((((len : Int) + i) % p).toNat) (0, 0) = bq at *
          obtain ⟨j1, j10, ej1⟩ := lr.cls
          have gs := g3 j1 j10
          rw [← ej1] at gs
          have gs1 := g3 (j1 + 1) (by omega)
          rw [Int.mul_add, Int.mul_one, ← Int.add_assoc, ← ej1] at gs1
          have gi := g3 j j0
          rw [← ej] at gi
          cases eb : v bq.1 with
          | none => rw [eb] at gi; exact absurd gi hn
          | some a =>
            rw [eb] at gs gs1
            have b1 : (a + bq.2 * j1).natAbs < 2 ^ n := h.bd s (by omega) (by omega) _ gs
            have b2 : (a + bq.2 * (j1 + 1)).natAbs < 2 ^ n := h.bd (s + p) (by omega) (by omega) _ gs1
            have : bq.2 = a + bq.2 * (j1 + 1) - (a + bq.2 * j1) := by rw [Int.mul_add]; omega
            rw [this, Nat.pow_succ]
            generalize a + bq.2 * (j1 + 1) = z1 at *
            generalize a + bq.2 * j1 = z2 at *
            omega
        have n0 := h.n0
        have p2 : 2 ^ n ≤ 2 ^ (n + 1) := two_pow_le (by omega)
        have ok : FOk ⟨(List.range len).map fun i : Nat => v i, asmT v len p ln⟩ (n + 1) := by
          refine ⟨⟨by show 0 < (asmT v len p ln).length; omega, by show (asmT v len p ln).length ≤ _; omega, fun r hr => ?_, by omega⟩, by show ((List.range len).map _).length ≤ _; rw [List.length_map, List.length_range]; omega, fun w hw => ?_⟩
          · obtain ⟨i, hi, rfl⟩ := List.mem_map.mp (show r ∈ (List.range p).map _ from hr)
            have hi := List.mem_range.mp hi
            refine ⟨fun z ez => Nat.lt_of_lt_of_le (h.bd ((len : Int) + i) (by omega) (by omega) z ez) p2, ?_, fun ez => if_pos ez⟩
            show (if v ((len : Int) + i) = none then (0 : Int) else _).natAbs < _
            by_cases z : v ((len : Int) + i) = none
            · rw [if_pos z]; exact Nat.pow_pos (by decide)
            · rw [if_neg z]; exact slb i hi z
          · obtain ⟨i, hi, rfl⟩ := List.mem_map.mp hw
            have hi := List.mem_range.mp hi
            exact fun z ez => Nat.lt_of_lt_of_le (h.bd i (by omega) (by omega) z ez) p2
        refine ⟨_, n + 1, rfl, ok, fun g hg gl gt gv gn => ?_⟩
        refine s_endL (M2 := M) (fun b' m e => ?_) (q g hg gn ?_ ?_ ?_ fun x x0 => ?_)
        · rw [updM_ne (fun z => by subst z; rw [ht] at e; cases e)]; exact e
        · have gl : g.head.length ≤ ((List.range len).map fun i : Nat => v i).length := gl
          rw [List.length_map, List.length_range] at gl; omega
        · have gl : g.head.length ≤ ((List.range len).map fun i : Nat => v i).length := gl
          rw [List.length_map, List.length_range] at gl; omega
        · have gt : g.tail.length ≤ (asmT v len p ln).length := gt
          omega
        · rw [gv]
          refine val_asm p0 (fun i hi m m0 => ?_) x x0
          obtain ⟨g1, ⟨j, j0, ej⟩, g3⟩ := glob i hi
          generalize ln.getD ((((len : Int) + i) % p).toNat) (0, 0) = bq at *
          have a1 := g3 j j0
          have a2 := g3 (j + m) (by omega)
          rw [Int.mul_add, ← Int.add_assoc, ← ej] at a2
          rw [← ej] at a1
          rw [a2, a1]
          cases v bq.1 with
          | none => rfl
          | some a =>
            show some _ = some _
            congr 1
            show a + bq.2 * (j + m) = a + bq.2 * j + bq.2 * m
            rw [Int.mul_add]; omega
  have hfar : ∀ q ∈ ln, (p : Int) ≤ q.1 → ∀ g : Frm, 0 < g.tail.length → (∀ x, 0 ≤ x → g.val x = v x) → q.1 - p + 1 ≤ g.head.length := fun q hq hqp g g0 gv => by
    obtain ⟨i, hi, e⟩ := List.getElem_of_mem hq
    obtain ⟨s, es, sL, sr, sB, lr⟩ := lnr i (by omega)
    rw [getD_of (List.getElem?_eq_getElem hi), e] at lr
    exact line_far hp (h.lin s (List.mem_of_getElem? es)) lr hqp g0 gv
  have hB : ∀ q ∈ ln, q.1 ≤ B := fun q hq => by
    obtain ⟨i, hi, e⟩ := List.getElem_of_mem hq
    obtain ⟨s, es, sL, sr, sB, lr⟩ := lnr i (by omega)
    rw [getD_of (List.getElem?_eq_getElem hi), e] at lr
    obtain ⟨j, j0, ej⟩ := lr.cls
    have := Int.mul_nonneg (show 0 ≤ (p : Int) by omega) j0
    omega
  refine s_kmaxDf2 rfl (intsOf_mapG (fun q : Int × Int => q.1 - p + 1) _) (fun e => ?_) (fun m hm hall => ?_)
  · walk_at "g"
    refine main 0 (by omega) (fun q hq => ?_) (fun z => by omega)
    by_cases z : q.1 ≥ (p : Int)
    · have : q ∈ ln.filter fun q => decide (q.1 ≥ (p : Int)) := List.mem_filter.mpr ⟨hq, by simpa using z⟩
      have e := List.map_eq_nil_iff.mp e
      rw [e] at this; cases this
    · omega
  · obtain ⟨q0, hq0, rfl⟩ := List.mem_map.mp hm
    obtain ⟨h1, h2⟩ := List.mem_filter.mp hq0
    have h2 : q0.1 ≥ (p : Int) := by simpa using h2
    have h3 := hfar q0 h1 h2
    have h4 := hB q0 h1
    walk_at "g"
    obtain ⟨len, hl⟩ : ∃ len : Nat, q0.1 - p + 1 = len := ⟨(q0.1 - p + 1).toNat, by omega⟩
    rw [hl]
    refine main len (by omega) (fun q hq => ?_) (fun z g g0 gv => by have := h3 g g0 gv; omega)
    by_cases z : q.1 ≥ (p : Int)
    · have := hall _ (List.mem_map.mpr ⟨q, List.mem_filter.mpr ⟨hq, by simpa using z⟩, rfl⟩)
      omega
    · omega

theorem lcm_le {a b c : Nat} (ha : 0 < a) (hb : 0 < b) (h : a * b ≤ c) : 0 < Nat.lcm a b ∧ Nat.lcm a b ≤ c ∧ (∃ i : Int, 0 ≤ i ∧ ((Nat.lcm a b : Nat) : Int) = a * i) ∧ ∃ j : Int, 0 ≤ j ∧ ((Nat.lcm a b : Nat) : Int) = b * j := by
  refine ⟨Nat.lcm_pos ha hb, Nat.le_trans (Nat.le_of_dvd (Nat.mul_pos ha hb) (Nat.lcm_dvd_mul a b)) h, ?_, ?_⟩
  · obtain ⟨i, e⟩ := Nat.dvd_lcm_left a b
    exact ⟨i, by omega, by rw [e, Int.natCast_mul]⟩
  · obtain ⟨i, e⟩ := Nat.dvd_lcm_right a b
    exact ⟨i, by omega, by rw [e, Int.natCast_mul]⟩
theorem factor_le {a b c : Nat} (hb : 0 < b) (h : a * b ≤ c) : a ≤ c := Nat.le_trans (Nat.le_mul_of_pos_right a hb) h
theorem firstsD {p : Nat} {L : Int} (hp : 0 < p) (r : Nat) (s : Int) (h : (startsD L p)[r]? = some s) : L ≤ s ∧ s % p = r ∧ s ≤ L + p := by
  unfold startsD at h
  rw [List.getElem?_map] at h
  have hr : r < p := by
    by_cases z : r < p
    · exact z
    · rw [List.getElem?_eq_none (by rw [List.length_range]; omega)] at h; cases h
  rw [List.getElem?_range hr] at h
  obtain rfl : L + ((r : Int) - L) % p = s := Option.some.inj h
  have i0 : 0 ≤ ((r : Int) - L) % p := Int.emod_nonneg _ (by omega)
  have i1 : ((r : Int) - L) % p < p := Int.emod_lt_of_pos _ (by omega)
  refine ⟨by omega, ?_, by omega⟩
  rw [Int.add_emod_emod, show L + ((r : Int) - L) = r by omega]
  exact Int.emod_eq_of_lt (by omega) (by omega)
theorem val_per {f : Frm} (h0 : 0 < f.tail.length) {p i x m : Int} (ei : p = f.tail.length * i) (i0 : 0 ≤ i) (hx : f.head.length ≤ x) (m0 : 0 ≤ m) : f.val (x + p * m) = (f.val x).map (· + ts f.tail (x - f.head.length) * i * m) := by
  have := val_shift h0 (y := x) (m := i * m) hx (Int.mul_nonneg i0 m0)
  rw [← Int.mul_assoc, ← ei] at this
  rw [this]
  simp only [Int.mul_assoc]

/-- a normal form's tail divides every other one's, and its steps with it -/
theorem norm_like {f g : Frm} {n m : Nat} (hf : FOk f n) (hg : FOk g m) (gn : IsNorm g) (hv : ∀ x, 0 ≤ x → f.val x = g.val x) :
    ∃ c : Nat, 0 < c ∧ f.tail.length = g.tail.length * c ∧ ∀ k : Int, tv g.tail k ≠ none → tv f.tail (k + g.head.length - f.head.length) ≠ none ∧ ts f.tail (k + g.head.length - f.head.length) = ts g.tail k * c := by
  have f0 := hf.tk.t0
  have g0 := hg.tk.t0
  have h1 : ∀ x, tv g.tail (x - g.head.length) = tv f.tail (x - f.head.length) ∧ (tv g.tail (x - g.head.length) ≠ none → ts g.tail (x - g.head.length) * f.tail.length = ts f.tail (x - f.head.length) * g.tail.length) :=
    tails_all (B := (f.head.length : Int) + g.head.length) g0 f0 fun x hx => by rw [← val_tv (by omega), ← val_tv (by omega)]; exact (hv x (by omega)).symm
  have d := (AL.gcd _ _ (AL.self g0) (AL.other g0 f0 h1)).hp
  have gp : 0 < Nat.gcd g.tail.length f.tail.length := Nat.gcd_pos_of_pos_left _ g0
  have l1 : g.tail.length = Nat.gcd g.tail.length f.tail.length := by
    have := Nat.le_of_dvd g0 (Nat.gcd_dvd_left g.tail.length f.tail.length)
    by_cases l : Nat.gcd g.tail.length f.tail.length < g.tail.length
    · exact absurd d (gn.mn _ gp l (Nat.gcd_dvd_left _ _))
    · omega
  have dv : g.tail.length ∣ f.tail.length := by rw [l1]; exact Nat.gcd_dvd_right _ _
  obtain ⟨c, hc⟩ := dv
  have c0 : 0 < c := by
    by_cases z : 0 < c
    · exact z
    · have : c = 0 := by omega
      rw [this] at hc; omega
  refine ⟨c, c0, hc, fun k hk => ?_⟩
  obtain ⟨a, b⟩ := h1 (k + g.head.length)
  rw [show k + (g.head.length : Int) - g.head.length = k by omega] at a b
  refine ⟨by rw [← a]; exact hk, ?_⟩
  have b := b hk
  rw [hc, Int.natCast_mul, Int.mul_comm (g.tail.length : Int), ← Int.mul_assoc] at b
  exact (Int.eq_of_mul_eq_mul_right (by omega) b).symm
theorem tv_none {t : Tl} {k : Int} : tv t k = none ↔ (tailAt t k).1 = none := by
  unfold tv tailVal
  cases (tailAt t k).1 <;> simp
theorem mulW {i j : Int} {n m : Nat} (h : i.natAbs < 2 ^ n) (g : j.natAbs < 2 ^ m) (hn : 0 < n) (hm : 0 < m) (hl : n + m ≤ 1000000) : CMulA i j := .inr (by
  have h1 := PySem.Flt.log2_lt_of hn h
  have h2 := PySem.Flt.log2_lt_of hm g
  show i.natAbs.log2 + j.natAbs.log2 < 1000000
  omega)

theorem len_check_period (C : Ct) : ∀ ds M Q E, sp_check_period C ds M Q E → ds.length = 1 := by rintro _ _ _ _ ⟨_, rfl, _⟩; rfl
theorem rd_check_period (C : Ct) : RdsX (t_check_period C) n_check_period (sp_check_period C) := by
  rintro _ M Q E ⟨p, rfl, q, qe⟩
  show t_check_period C E _ [some (.int p)] M
  unfold t_check_period
  walk_at "g"
  · rename_i hc
    exact s_raise (qe hc)
  · rename_i hc
    exact s_end (q (by omega))

theorem len_own_starts : ∀ ds M Q E, sp_own_starts ds M Q E → ds.length = 2 := by rintro _ _ _ _ ⟨_, _, rfl, _⟩; rfl
theorem rd_own_starts : Rds t_own_starts n_own_starts sp_own_starts := by
  rintro _ M Q E ⟨f, p, rfl, p0, p1, q⟩
  show t_own_starts _ [some (.tup [.tup (f.head.map encO), .tup (f.tail.map encP)]), some (.int p), none] M
  unfold t_own_starts
  walk_at "g"
  refine s_kr1 (by omega) (by omega) ?_
  refine s_klcRng (fun i : Nat => .int ((f.head.length : Int) + ((i : Int) - f.head.length) % p)) (small_line (by omega)) (fun i QQ hi k' => ?_) ?_
  · rw [Int.zero_add]
    show dCall sp_first_of_class E0D _ [some (.tup [.tup (f.head.map encO), .tup (f.tail.map encP)]), some (.int p), some (.int i)] M QQ
    walk_at "g"
    rw [List.length_map]
    exact ⟨_, _, _, rfl, by omega, k'⟩
  rw [show ((p : Int)).toNat = p by omega]
  have eS : (List.range p).map (fun i : Nat => D.int ((f.head.length : Int) + ((i : Int) - f.head.length) % p)) = (startsD f.head.length p).map .int := by unfold startsD; rw [List.map_map]; rfl
  rw [eS]
  exact s_end q

theorem len_line_at : ∀ ds M Q E, sp_line_at ds M Q E → ds.length = 3 := by rintro _ _ _ _ ⟨_, _, _, _, _, rfl, _⟩; rfl
theorem rd_line_at : Rds t_line_at n_line_at sp_line_at := by
  rintro _ M Q E ⟨f, n, x, p, i, rfl, h, hn, i0, ep, hx, hx2, hp2, q⟩
  show t_line_at _ [some f.enc, some (.int x), some (.int p), none] M
  unfold t_line_at
  have h0 := h.tk.t0
  have e1 := val_shift h0 hx i0
  rw [← ep] at e1
  have e40 : (2 : Nat) ^ 40 = 1099511627776 := by decide
  have e41 : (2 : Nat) ^ 41 = 2199023255552 := by decide
  rw [e40] at hx2 hp2
  walk_at "g"
  refine h.val_at (m := 41) (by rw [e41]; omega) (by decide) (by omega) ?_
  walk_at "g"
  rw [encO_isN]
  cases e : f.val x with
  | none =>
    rw [e] at q
    simp only [Option.isNone_none]
    walk_at "g"
    exact s_end q
  | some a =>
    rw [e] at q e1
    simp only [Option.isNone_some]
    walk_at "g"
    refine h.val_at (m := 41) (by rw [e41]; omega) (by decide) (by omega) ?_
    rw [e1]
    simp only [Option.map_some, encO]
    walk_at "g"
    rw [show a + ts f.tail (x - f.head.length) * i - a = ts f.tail (x - f.head.length) * i by omega]
    exact s_end q

/-- u / gcd u z divides m just if u divides z m -/
theorem need_dvd {u : Nat} (hu : 0 < u) (z : Int) (m : Nat) : u / Nat.gcd u z.natAbs ∣ m ↔ (u : Int) ∣ z * m := by
  have gp : 0 < Nat.gcd u z.natAbs := Nat.gcd_pos_of_pos_left _ hu
  have e : (u : Int) ∣ z * m ↔ u ∣ z.natAbs * m := by
    rw [← Int.natCast_dvd_natCast, Int.natCast_mul, ← Int.dvd_natAbs, Int.natAbs_mul, Int.natCast_mul]
    simp
  rw [e]
  obtain ⟨a, ha⟩ := Nat.gcd_dvd_left u z.natAbs
  obtain ⟨b, hb⟩ := Nat.gcd_dvd_right u z.natAbs
  have cop := Nat.coprime_div_gcd_div_gcd (m := u) (n := z.natAbs) gp
  have ea : u / Nat.gcd u z.natAbs = a := by
    conv => lhs; lhs; rw [ha]
    exact Nat.mul_div_cancel_left _ gp
  have eb : z.natAbs / Nat.gcd u z.natAbs = b := by
    conv => lhs; lhs; rw [hb]
    exact Nat.mul_div_cancel_left _ gp
  rw [ea, eb] at cop
  rw [ea]
  generalize Nat.gcd u z.natAbs = g at *
  rw [hb, ha, Nat.mul_assoc]
  rw [Nat.mul_dvd_mul_iff_left gp]
  exact ⟨fun h => Nat.dvd_trans h (Nat.dvd_mul_left _ _), fun h => cop.dvd_of_dvd_mul_left h⟩
theorem len_round_period (C : Ct) : ∀ ds M Q E, sp_round_period C ds M Q E → ds.length = 4 := by rintro _ _ _ _ ⟨_, _, _, _, _, rfl, _⟩; rfl
theorem rd_round_period (C : Ct) : RdsX (t_round_period C) n_round_period (sp_round_period C) := by
  rintro _ M Q E ⟨f, n, u, c, r, rfl, hf, u0, u1, hc, q⟩
  show t_round_period C E _ [some (.tup [.tup (f.head.map encO), .tup (f.tail.map encP)]), some (.int u), some (.int c), some (.bl r), none, none, none, none] M
  unfold t_round_period
  walk_at "g"
  refine s_kforT (ds := f.tail.map encP) (fun i τ M' => M' = M ∧ ∃ (z : Nat) (a b : Option D), 0 < z ∧ z ∣ u ∧ (∀ p ∈ f.tail.take i, RdC r p → (u : Int) ∣ p.2 * c * z) ∧ (∀ m' : Nat, (∀ p ∈ f.tail.take i, RdC r p → (u : Int) ∣ p.2 * c * m') → z ∣ m') ∧ τ = [some (.tup [.tup (f.head.map encO), .tup (f.tail.map encP)]), some (.int u), some (.int c), some (.bl r), some (.int z), a, b, none]) (fun _ => rfl)
    ⟨rfl, 1, _, _, by decide, Nat.one_dvd _, (fun p hp => by simp at hp), (fun m' _ => Nat.one_dvd _), rfl⟩ (fun i d τ M' hd ⟨e, z, a, b, z0, zu, h1, h2, e2⟩ => ?_) (fun τ M' ⟨e, z, a, b, z0, zu, h1, h2, e2⟩ => ?_)
  · subst e; subst e2
    obtain ⟨⟨v, s⟩, hp, rfl⟩ : ∃ p, f.tail[i]? = some p ∧ d = encP p := by
      rw [List.getElem?_map] at hd
      cases e : f.tail[i]? with
      | none => rw [e] at hd; cases hd
      | some m => rw [e] at hd; cases hd; exact ⟨m, rfl, rfl⟩
    have et : f.tail.take (i + 1) = f.tail.take i ++ [(v, s)] := by rw [List.take_succ, hp]; rfl
    have hsb := (hf.tk.th _ (List.mem_of_getElem? hp)).2.1
    have hsb : s.natAbs < 2 ^ n := hsb
    have skip : ¬ RdC r (v, s) → ∀ a b : Option D, M' = M' ∧ ∃ (z' : Nat) (a' b' : Option D), 0 < z' ∧ z' ∣ u ∧ (∀ p ∈ f.tail.take (i + 1), RdC r p → (u : Int) ∣ p.2 * c * z') ∧ (∀ m' : Nat, (∀ p ∈ f.tail.take (i + 1), RdC r p → (u : Int) ∣ p.2 * c * m') → z' ∣ m') ∧ ([some (.tup [.tup (f.head.map encO), .tup (f.tail.map encP)]), some (.int u), some (.int c), some (.bl r), some (.int z), a, b, none] : SD) = [some (.tup [.tup (f.head.map encO), .tup (f.tail.map encP)]), some (.int u), some (.int c), some (.bl r), some (.int z'), a', b', none] := fun hn a b => by
      refine ⟨rfl, z, _, _, z0, zu, fun p hp hc => ?_, fun m' hm => h2 m' fun p hp => hm p (by rw [et]; exact List.mem_append_left _ hp), rfl⟩
      rw [et] at hp
      rcases List.mem_append.mp hp with hp | hp
      · exact h1 p hp hc
      · rw [List.mem_singleton.mp hp] at hc; exact absurd hc hn
    refine s_gtup rfl ?_
    walk_at "g"
    rw [encO_isN]
    cases v with
    | none =>
      simp only [Option.isNone_none, Bool.not_true]
      walk_at "g"
      exact skip (fun h => h.1 rfl) _ _
    | some v =>
      simp only [Option.isNone_some, Bool.not_false]
      let w : Nat := u / Nat.gcd u (s * c).natAbs
      have gp : 0 < Nat.gcd u (s * c).natAbs := Nat.gcd_pos_of_pos_left _ u0
      have gl : Nat.gcd u (s * c).natAbs ≤ u := Nat.gcd_le_left _ u0
      have w0 : 0 < w := Nat.div_pos gl gp
      have wu : w ∣ u := Nat.div_dvd_of_dvd (Nat.gcd_dvd_left _ _)
      have hw : ∀ m : Nat, w ∣ m ↔ (u : Int) ∣ s * c * m := fun m => need_dvd u0 (s * c) m
      have zl := Nat.le_of_dvd u0 zu
      have wl := Nat.le_of_dvd u0 wu
      have take : RdC r (some v, s) → ∀ a b : Option D, M' = M' ∧ ∃ (z' : Nat) (a' b' : Option D), 0 < z' ∧ z' ∣ u ∧ (∀ p ∈ f.tail.take (i + 1), RdC r p → (u : Int) ∣ p.2 * c * z') ∧ (∀ m' : Nat, (∀ p ∈ f.tail.take (i + 1), RdC r p → (u : Int) ∣ p.2 * c * m') → z' ∣ m') ∧ ([some (.tup [.tup (f.head.map encO), .tup (f.tail.map encP)]), some (.int u), some (.int c), some (.bl r), some (.int (Nat.lcm z w : Nat)), a, b, none] : SD) = [some (.tup [.tup (f.head.map encO), .tup (f.tail.map encP)]), some (.int u), some (.int c), some (.bl r), some (.int z'), a', b', none] := fun hn a b => by
        refine ⟨rfl, Nat.lcm z w, _, _, Nat.lcm_pos z0 w0, Nat.lcm_dvd zu wu, fun p hp hc => ?_, fun m' hm => Nat.lcm_dvd (h2 m' fun p hp => hm p (by rw [et]; exact List.mem_append_left _ hp)) ((hw m').mpr (hm _ (by rw [et]; exact List.mem_append_right _ (List.mem_singleton.mpr rfl)) hn)), rfl⟩
        rw [et] at hp
        rcases List.mem_append.mp hp with hp | hp
        · exact Int.dvd_trans (h1 p hp hc) (Int.mul_dvd_mul_left _ (Int.natCast_dvd_natCast.mpr (Nat.dvd_lcm_left _ _)))
        · rw [List.mem_singleton.mp hp]; exact (hw _).mp (Nat.dvd_lcm_right _ _)
      have ew : (u : Int) / ((Nat.gcd u (s * c).natAbs : Nat) : Int) = (w : Nat) := (Int.natCast_ediv _ _).symm
      have lg : ((Nat.gcd u (s * c).natAbs : Nat) : Int).natAbs.log2 < 9000 := log2_w (n := 24) (by have : (2 : Nat) ^ 24 = 16777216 := (by decide); omega) (by decide) (by decide)
      cases r with
      | false =>
        walk_at "g"
        · refine s_mul (.inl (.inr (sm64 (by omega)))) ?_
          walk_at "g"
          refine s_gcd ?_
          walk_at "g"
          refine s_I ⟨by simp only [Int.natAbs_natCast]; omega, lg⟩ ?_
          simp only [Int.natAbs_natCast]
          rw [ew]
          walk_at "g"
          refine s_lcm (by omega) (by omega) ?_
          walk_at "g"
          exact take ⟨fun z => (by cases z), .inr rfl⟩ _ _
        · refine s_mul (.inl (.inr (sm64 (by omega)))) ?_
          walk_at "g"
          refine s_gcd ?_
          walk_at "g"
          refine s_I ⟨by simp only [Int.natAbs_natCast]; omega, lg⟩ ?_
          simp only [Int.natAbs_natCast]
          rw [ew]
          walk_at "g"
          refine s_lcm (by omega) (by omega) ?_
          walk_at "g"
          exact take ⟨fun z => (by cases z), .inr rfl⟩ _ _
      | true =>
        walk_at "g"
        · rename_i hs
          refine s_mul (.inl (.inr (sm64 (by omega)))) ?_
          walk_at "g"
          refine s_gcd ?_
          walk_at "g"
          refine s_I ⟨by simp only [Int.natAbs_natCast]; omega, lg⟩ ?_
          simp only [Int.natAbs_natCast]
          rw [ew]
          walk_at "g"
          refine s_lcm (by omega) (by omega) ?_
          walk_at "g"
          exact take ⟨fun z => (by cases z), .inl hs⟩ _ _
        · rename_i hs
          exact skip (fun h => by rcases h.2 with z | z <;> first | exact hs z | cases z) _ _
  · subst e; subst e2
    rw [List.length_map, List.take_of_length_le (Nat.le_refl _)] at h1 h2
    have t0 := hf.tk.t0
    have tl := hf.tk.tl
    walk_at "g"
    rw [List.length_map]
    refine s_mul (.inl (.inr (sm64 (by omega)))) ?_
    walk_at "g"
    rw [show (z : Int) * f.tail.length = ((z * f.tail.length : Nat) : Int) by rw [Int.natCast_mul]]
    obtain ⟨q1, q2⟩ := q z ⟨z0, h1, h2⟩
    refine ⟨_, rfl, fun hz => ?_, fun hz => q2 (by omega)⟩
    walk_at "g"
    exact s_end (q1 (by omega))

/-! ### what is due: the plain part -/
theorem due_ceil (F m : Int) {U : Int} (u0 : 1 ≤ U) : ∃ r, 0 ≤ r ∧ r < U ∧ U * -((-F * m) / U) = F * m + r := by
  have e := Int.emod_add_mul_ediv (-F * m) U
  have r0 := Int.emod_nonneg (-F * m) (show U ≠ 0 by omega)
  have r1 := Int.emod_lt_of_pos (-F * m) (show 0 < U by omega)
  refine ⟨(-F * m) % U, r0, r1, ?_⟩
  rw [Int.mul_neg]
  rw [Int.neg_mul] at e ⊢
  omega
theorem mul_10 {F m : Int} (f0 : 1 ≤ F) (f1 : F ≤ 10) (m0 : 0 ≤ m) : m ≤ F * m ∧ F * m ≤ 10 * m := by
  have a := Int.mul_le_mul_of_nonneg_right f0 m0
  have b := Int.mul_le_mul_of_nonneg_right f1 m0
  omega
theorem due_bd {F U L m : Int} (R : Rule F U L) : (dueV F U L m).natAbs ≤ 10 * m.natAbs + 101000 := by
  obtain ⟨f0, f1, u0, u1, l0, l1⟩ := R
  obtain ⟨r, r0, r1, e⟩ := due_ceil F m u0
  unfold dueV
  rw [e]
  by_cases c : m ≤ 0
  · rw [if_pos c]; omega
  · rw [if_neg c]
    obtain ⟨a, b⟩ := mul_10 f0 f1 (show 0 ≤ m by omega)
    split <;> omega
theorem trg_le {F U L : Int} (R : Rule F U L) : 1 ≤ trgD F L ∧ trgD F L ≤ 100000 ∧ L ≤ F * trgD F L := by
  obtain ⟨f0, f1, u0, u1, l0, l1⟩ := R
  have e := Int.emod_add_mul_ediv (-L) F
  have r0 := Int.emod_nonneg (-L) (show F ≠ 0 by omega)
  have r1 := Int.emod_lt_of_pos (-L) (show 0 < F by omega)
  have b := Int.natAbs_ediv_le_natAbs (-L) F
  unfold trgD
  generalize -L / F = q at *
  split
  · rename_i c
    refine ⟨by omega, by omega, ?_⟩
    rw [Int.mul_neg]; omega
  · rename_i c
    refine ⟨by omega, by omega, ?_⟩
    rw [Int.mul_one]
    have := Int.mul_le_mul_of_nonneg_left (show (-1 : Int) ≤ q by omega) (show 0 ≤ F by omega)
    omega
theorem set_nn (F L m s : Int) : 0 ≤ setD F L m s := by unfold setD; split <;> split <;> omega
theorem set_bd {F U L : Int} (R : Rule F U L) (m s : Int) : (setD F L m s).natAbs ≤ m.natAbs + 100001 := by
  obtain ⟨t0, t1, _⟩ := trg_le R
  have b1 := Int.natAbs_ediv_le_natAbs (-m) (-s)
  have b2 := Int.natAbs_ediv_le_natAbs (m - trgD F L) s
  unfold setD
  split <;> split <;> omega
theorem set_fall {F L m s k : Int} (hs : s < 0) (hk : setD F L m s ≤ k) : m + s * k ≤ 0 := by
  have e := Int.emod_add_mul_ediv (-m) (-s)
  have r0 := Int.emod_nonneg (-m) (show -s ≠ 0 by omega)
  unfold setD at hk
  rw [if_pos hs] at hk
  generalize -m / -s = q at *
  have kq : -q ≤ k := by split at hk <;> omega
  have := Int.mul_le_mul_of_nonneg_left kq (show 0 ≤ -s by omega)
  rw [Int.mul_neg] at this
  rw [Int.neg_mul] at this e
  rw [Int.neg_mul] at this
  omega
theorem set_rise {F L m s k : Int} (hs : 0 < s) (hk : setD F L m s ≤ k) : trgD F L ≤ m + s * k := by
  have e := Int.emod_add_mul_ediv (m - trgD F L) s
  have r0 := Int.emod_nonneg (m - trgD F L) (show s ≠ 0 by omega)
  unfold setD at hk
  rw [if_neg (by omega)] at hk
  generalize trgD F L = T at *
  generalize (m - T) / s = q at *
  have kq : -q ≤ k := by split at hk <;> omega
  have := Int.mul_le_mul_of_nonneg_left kq (show 0 ≤ s by omega)
  rw [Int.mul_neg] at this
  omega
theorem due_rise {F U L m s k : Int} (R : Rule F U L) (hm : trgD F L ≤ m) (hs : 0 ≤ s * k) (hd : U ∣ s * F) : dueV F U L (m + s * k) = dueV F U L m + F * s * k := by
  obtain ⟨t0, t1, t2⟩ := trg_le R
  obtain ⟨f0, f1, u0, u1, l0, l1⟩ := R
  obtain ⟨r, r0, r1, e⟩ := due_ceil F m u0
  obtain ⟨w, hw⟩ := hd
  have e2 : U * -((-F * (m + s * k)) / U) = U * -((-F * m) / U) + F * s * k := by
    have : -F * (m + s * k) = -F * m + U * (-(w * k)) := by
      rw [Int.mul_add, Int.mul_neg, ← Int.mul_assoc, ← Int.mul_assoc, ← hw, Int.neg_mul, Int.neg_mul, Int.neg_mul, Int.mul_comm s F]
    rw [this, Int.add_mul_ediv_left _ _ (by omega), Int.neg_add, Int.neg_neg, Int.mul_add, ← Int.mul_assoc, ← hw, Int.mul_comm s F]
  have fm : L ≤ F * m := by
    have := Int.mul_le_mul_of_nonneg_left hm (show 0 ≤ F by omega)
    omega
  have pk : 0 ≤ F * s * k := by rw [Int.mul_assoc]; exact Int.mul_nonneg (by omega) hs
  have a1 : ¬ m + s * k ≤ 0 := by omega
  have a2 : ¬ m ≤ 0 := by omega
  unfold dueV
  rw [if_neg a1, if_neg a2, e2, e]
  split <;> split <;> omega
theorem due_none {F U L m : Int} (h : m ≤ 0) : dueV F U L m = 0 := by unfold dueV; rw [if_pos h]
/-- a class's start, moved on until what is due goes on evenly -/
def stU (g : Frm) (F L paid i p : Int) (s : Int) : Int := match g.val s with
  | none => s
  | some a => if ts g.tail (s - g.head.length) * i = 0 then s else s + p * setD F L (a - paid) (ts g.tail (s - g.head.length) * i)
theorem stU_lin {g : Frm} {F U L paid : Int} {m p : Nat} (R : Rule F U L) (h0 : 0 < g.tail.length) (ep : (p : Int) = g.tail.length * m) (hm : RdM g U F true m) {s : Int} (hs : g.head.length ≤ s) :
    (∃ n : Int, 0 ≤ n ∧ stU g F L paid m p s = s + p * n) ∧ ∃ sl : Int, ∀ k, 0 ≤ k → dueO F U L paid (g.val (stU g F L paid m p s + p * k)) = (dueO F U L paid (g.val (stU g F L paid m p s))).map (· + sl * k) := by
  have P := fun (k : Int) (k0 : 0 ≤ k) => val_per h0 (f := g) ep (by omega) hs k0
  cases e : g.val s with
  | none =>
    have eU : stU g F L paid m p s = s := by unfold stU; rw [e]
    rw [eU]
    refine ⟨⟨0, Int.le_refl _, by omega⟩, 0, fun k k0 => ?_⟩
    rw [P k k0, e]; rfl
  | some a =>
    have tm := tailAt_mem h0 (s - g.head.length)
    have tn : (tailAt g.tail (s - g.head.length)).1 ≠ none := fun z => by
      rw [val_tv hs, tv_none.mpr z] at e; cases e
    have hd := hm _ tm
    have hd : (RdC true (tailAt g.tail (s - g.head.length))) → U ∣ ts g.tail (s - g.head.length) * F * m := hd
    by_cases c : ts g.tail (s - g.head.length) * m = 0
    · have eU : stU g F L paid m p s = s := by unfold stU; rw [e]; exact if_pos c
      rw [eU]
      refine ⟨⟨0, Int.le_refl _, by omega⟩, 0, fun k k0 => ?_⟩
      rw [P k k0, e, c]
      simp
    have eU : stU g F L paid m p s = s + p * setD F L (a - paid) (ts g.tail (s - g.head.length) * m) := by unfold stU; rw [e]; exact if_neg c
    rw [eU]
    have n0 := set_nn F L (a - paid) (ts g.tail (s - g.head.length) * m)
    have ev : ∀ k, 0 ≤ k → g.val (s + p * setD F L (a - paid) (ts g.tail (s - g.head.length) * m) + p * k) = some (a + ts g.tail (s - g.head.length) * m * (setD F L (a - paid) (ts g.tail (s - g.head.length) * m) + k)) := fun k k0 => by
      rw [Int.add_assoc, ← Int.mul_add, P _ (by omega), e]; rfl
    have ev0 := ev 0 (Int.le_refl _)
    rw [Int.mul_zero, Int.add_zero, Int.add_zero] at ev0
    refine ⟨⟨_, n0, rfl⟩, ?_⟩
    by_cases c2 : ts g.tail (s - g.head.length) * m < 0
    · refine ⟨0, fun k k0 => ?_⟩
      rw [ev k k0, ev0]
      have h1 := set_fall c2 (F := F) (L := L) (m := a - paid) (k := setD F L (a - paid) (ts g.tail (s - g.head.length) * m) + k) (by omega)
      have h2 := set_fall c2 (F := F) (L := L) (m := a - paid) (Int.le_refl _)
      generalize ts g.tail (s - g.head.length) * m = st at *
      generalize setD F L (a - paid) st = n at *
      show some (dueV F U L _) = some (dueV F U L _ + 0 * k)
      rw [due_none (by omega), due_none (by omega)]
      simp
    · have ts0 : 0 < ts g.tail (s - g.head.length) := by
        by_cases z : 0 < ts g.tail (s - g.head.length)
        · exact z
        · have := Int.mul_le_mul_of_nonneg_right (show ts g.tail (s - g.head.length) ≤ 0 by omega) (show 0 ≤ (m : Int) by omega)
          rw [Int.zero_mul] at this
          omega
      have hd2 := hd ⟨tn, .inl ts0⟩
      rw [Int.mul_right_comm] at hd2
      generalize ts g.tail (s - g.head.length) * m = st at *
      have hT := set_rise (show 0 < st by omega) (F := F) (L := L) (m := a - paid) (Int.le_refl _)
      generalize setD F L (a - paid) st = n at *
      refine ⟨F * st, fun k k0 => ?_⟩
      rw [ev k k0, ev0]
      show some (dueV F U L _) = some (dueV F U L _ + _)
      congr 1
      have := due_rise R hT (Int.mul_nonneg (show 0 ≤ st by omega) k0) hd2
      rw [Int.mul_add]
      rw [show a + (st * n + st * k) - paid = a - paid + st * n + st * k by omega, show a + st * n - paid = a - paid + st * n by omega]
      exact this
theorem stU_le {g : Frm} {F U L paid : Int} {m p B : Nat} (R : Rule F U L) {s : Int} (hb : bdO B (g.val s)) (hs : 0 ≤ s) (s1 : s ≤ 200000) (hp : p ≤ 1000) (hpd : paid.natAbs < 2 ^ 200) (hB : 200 ≤ B) : stU g F L paid m p s ≤ ((2 ^ (B + 40) : Nat) : Int) := by
  have p200 : 2 ^ 200 ≤ 2 ^ B := two_pow_le hB
  have p20 : 2 ^ 20 ≤ 2 ^ B := two_pow_le (show 20 ≤ B by omega)
  have e20 : (2 : Nat) ^ 20 = 1048576 := by decide
  have e40 : 2 ^ (B + 40) = 1099511627776 * 2 ^ B := by rw [Nat.pow_add, Nat.mul_comm]
  cases e : g.val s with
  | none =>
    have eU : stU g F L paid m p s = s := by unfold stU; rw [e]
    rw [eU, e40]; omega
  | some a =>
    have ab := hb a e
    have sb := set_bd R (a - paid) (ts g.tail (s - g.head.length) * m)
    have n0 := set_nn F L (a - paid) (ts g.tail (s - g.head.length) * m)
    have : stU g F L paid m p s ≤ s + p * setD F L (a - paid) (ts g.tail (s - g.head.length) * m) := by
      have := Int.mul_nonneg (show 0 ≤ (p : Int) by omega) n0
      by_cases c : ts g.tail (s - g.head.length) * m = 0
      · have eU : stU g F L paid m p s = s := by unfold stU; rw [e]; exact if_pos c
        rw [eU]; omega
      · have eU : stU g F L paid m p s = s + p * setD F L (a - paid) (ts g.tail (s - g.head.length) * m) := by unfold stU; rw [e]; exact if_neg c
        rw [eU]; exact Int.le_refl _
    have h2 := Int.mul_le_mul_of_nonneg_right (show (p : Int) ≤ 1000 by omega) n0
    rw [e40]
    generalize setD F L (a - paid) (ts g.tail (s - g.head.length) * m) = n at *
    generalize 2 ^ 200 = X at *
    generalize 2 ^ B = Y at *
    omega
theorem dueO_bd {F U L paid : Int} {v : Option Int} {n : Nat} (R : Rule F U L) (h : bdO n v) (hn : 200 ≤ n) (hpd : paid.natAbs < 2 ^ 200) : bdO (n + 10) (dueO F U L paid v) := fun i e => by
  cases v with
  | none => cases e
  | some a =>
    obtain rfl : dueV F U L (a - paid) = i := Option.some.inj e
    have := due_bd R (m := a - paid)
    have ha := h a rfl
    have p200 : 2 ^ 200 ≤ 2 ^ n := two_pow_le hn
    have p20 : 2 ^ 20 ≤ 2 ^ n := two_pow_le (show 20 ≤ n by omega)
    have e20 : (2 : Nat) ^ 20 = 1048576 := by decide
    rw [Nat.pow_add, show (2 : Nat) ^ 10 = 1024 by decide]
    generalize 2 ^ 200 = X at *
    generalize 2 ^ n = Y at *
    omega
/-! ### the walks -/
theorem len_due_of : ∀ ds M Q E, sp_due_of ds M Q E → ds.length = 2 := by rintro _ _ _ _ ⟨_, _, _, _, rfl, _⟩; rfl
theorem rd_due_of : Rds t_due_of n_due_of sp_due_of := by
  rintro _ M Q E ⟨F, U, L, m, rfl, R, q⟩
  show t_due_of _ [some (.tup [.int F, .int U, .int L]), some (.int m), none, none, none] M
  obtain ⟨f0, f1, u0, u1, l0, l1⟩ := R
  unfold t_due_of
  walk_at "g"
  · rename_i hc
    have : dueV F U L m = 0 := due_none hc
    rw [this] at q
    exact s_end q
  · rename_i hc
    refine s_mul (.inl (.inl (sm64 (by omega)))) ?_
    walk_at "g"
    refine s_I ⟨by omega, log2_20 (Nat.lt_of_lt_of_le (m := 1001) (by omega) (by decide))⟩ ?_
    walk_at "g"
    refine s_mul (.inl (.inl (sm64 (by omega)))) ?_
    walk_at "g"
    unfold dueV at q
    rw [if_neg hc] at q
    exact s_end q
theorem len_due_value : ∀ ds M Q E, sp_due_value ds M Q E → ds.length = 3 := by rintro _ _ _ _ ⟨_, _, _, _, _, rfl, _⟩; rfl
theorem rd_due_value : Rds t_due_value n_due_value sp_due_value := by
  rintro _ M Q E ⟨F, U, L, paid, v, rfl, R, q⟩
  show t_due_value _ [some (encR F U L), some (encO v), some (.int paid)] M
  unfold t_due_value
  walk_at "g"
  rw [encO_isN]
  cases v with
  | none =>
    simp only [Option.isNone_none]
    refine s_kifE (fun _ => ?_) (fun z => by cases z)
    walk_at "g"
    exact s_end q
  | some a =>
    simp only [Option.isNone_some]
    refine s_kifE (fun z => by cases z) (fun _ => ?_)
    rw [show encO (some a) = .int a from rfl]
    walk_at "g"
    exact ⟨F, U, L, _, rfl, R, s_end q⟩
theorem len_settled_due : ∀ ds M Q E, sp_settled_due ds M Q E → ds.length = 3 := by rintro _ _ _ _ ⟨_, _, _, _, _, rfl, _⟩; rfl
theorem rd_settled_due : Rds t_settled_due n_settled_due sp_settled_due := by
  rintro _ M Q E ⟨F, U, L, m, s, rfl, R, s0, sb, q⟩
  show t_settled_due _ [some (.tup [.int F, .int U, .int L]), some (.int m), some (.int s), none] M
  have hl : s.natAbs.log2 < 9000 := log2_w sb (by decide) (by decide)
  unfold setD at q
  have lF := R.f1
  have lF0 := R.f0
  unfold t_settled_due
  walk_at "g"
  · rename_i hc
    rw [if_pos hc] at q
    refine s_I ⟨by omega, by rw [Int.natAbs_neg]; exact hl⟩ ?_
    walk_at "g"
    exact s_end q
  · rename_i hc
    rw [if_neg hc] at q
    refine s_I ⟨by omega, log2_20 (Nat.lt_of_lt_of_le (m := 1001) (by omega) (by decide))⟩ ?_
    walk_at "g"
    refine s_I ⟨by omega, hl⟩ ?_
    walk_at "g"
    exact s_end q

theorem len_due_form (C : Ct) : ∀ ds M Q E, sp_due_form C ds M Q E → ds.length = 3 := by rintro _ _ _ _ ⟨_, _, _, _, _, _, rfl, _⟩; rfl
theorem rd_due_form (C : Ct) : RdsE (t_due_form C) n_due_form (sp_due_form C) := by
  rintro _ M Q E ⟨F, U, L, paid, f, N, rfl, R, hf, hN, hpd, q⟩
  obtain ⟨u, rfl⟩ : ∃ u : Nat, U = u := Int.eq_ofNat_of_zero_le (by have := R.u0; omega)
  have u0 := R.u0
  have u1 := R.u1
  show t_due_form C (rtX E) _ [some (encR F u L), some f.enc, some (.int paid), none, none, none, none, none] M
  unfold t_due_form
  walk_at "g"
  refine ⟨f, N, rfl, hf, fun g hg g1 g2 gv gn => ?_⟩
  walk_at "g"
  refine ⟨g, N + 40, u, F, true, rfl, hg, by omega, by omega, by have := R.f0; have := R.f1; omega, fun m hm => ⟨fun hle => ?_, fun hlt => s_endX (fun _ _ z => z) ((q g hg gn g1 gv m hm).1 hlt)⟩⟩
  have q := (q g hg gn g1 gv m hm).2 hle
  obtain ⟨q, qe⟩ := q
  have q : ∀ h : Frm, FOk h (2 * N + 500) → IsNorm h → h.head.length ≤ 4000 → h.tail.length ≤ m * g.tail.length → (∀ x, 0 ≤ x → h.val x = dueO F u L paid (g.val x)) → Q h.enc M := fun h a b c d e => q h a b c d fun x x0 => by rw [e x x0, gv]
  have qe : NoForm (fun x => dueO F u L paid (g.val x)) → E (exV C "TooLarge") none M := fun hno => qe (by
    have : (fun x => dueO F u L paid (f.val x)) = fun x => dueO F u L paid (g.val x) := by funext x; rw [gv]
    rw [this]; exact hno)
  have h0 := hg.tk.t0
  have hl := hg.hl
  have p0 : 0 < m * g.tail.length := Nat.mul_pos hm.m0 h0
  have m1 : m ≤ 1000 := Nat.le_trans (Nat.le_mul_of_pos_right m h0) hle
  have ep : ((m * g.tail.length : Nat) : Int) = g.tail.length * m := by rw [Int.natCast_mul, Int.mul_comm]
  have hRM := hm.ok
  generalize hp : m * g.tail.length = p at *
  walk_at "g"
  unfold t_due_form_c2
  walk_at "g"
  refine fun t htM => ?_
  have nxf : ∀ o, M t ≠ some (.raw o) := fun o z => by rw [htM] at z; cases z
  walk_at "g"
  refine ⟨g, p, rfl, p0, by omega, ?_⟩
  walk_at "g"
  have lenS : (startsD g.head.length p).length = p := by unfold startsD; rw [List.length_map, List.length_range]
  have hfs : ∀ (r : Nat) (s : Int), (startsD (g.head.length : Int) p)[r]? = some s → (g.head.length : Int) ≤ s ∧ s % p = r ∧ s ≤ g.head.length + p := fun r s e => firstsD p0 r s e
  generalize hS : startsD (g.head.length : Int) p = S at *
  refine s_kforT (ds := S.map .int) (fun i τ M' => M' = updM M t (.lst (((S.take i).map (stU g F L paid m p)).map .int)) ∧ ∃ a b, τ = [some (encR F u L), some f.enc, some (.int paid), some g.enc, some (.int p), some (.ref t), a, b]) (fun _ => rfl) ⟨rfl, _, _, rfl⟩ (fun i d τ M' hd ⟨e, a, b, e2⟩ => ?_) (fun τ M' ⟨e, a, b, e2⟩ => ?_)
  · subst e; subst e2
    obtain ⟨s, hs, rfl⟩ : ∃ s, S[i]? = some s ∧ d = .int s := by
      rw [List.getElem?_map] at hd
      cases e : S[i]? with
      | none => rw [e] at hd; cases hd
      | some m => rw [e] at hd; cases hd; exact ⟨m, rfl, rfl⟩
    obtain ⟨h1, h2, h3⟩ := hfs i s hs
    have hsz : (((S.take i).map (stU g F L paid m p)).map D.int).length < sizeLine := Nat.lt_of_le_of_lt (m := 100000) (by rw [List.length_map, List.length_map, List.length_take]; omega) (by decide)
    have next : ∀ a b : Option D, updM (updM M t (.lst (((S.take i).map (stU g F L paid m p)).map .int))) t (.lst (((S.take i).map (stU g F L paid m p)).map .int ++ [.int (stU g F L paid m p s)])) = updM M t (.lst (((S.take (i + 1)).map (stU g F L paid m p)).map .int)) ∧ ∃ a' b', ([some (encR F u L), some f.enc, some (.int paid), some g.enc, some (.int p), some (.ref t), a, b] : SD) = [some (encR F u L), some f.enc, some (.int paid), some g.enc, some (.int p), some (.ref t), a', b'] := fun a b => by
      refine ⟨?_, _, _, rfl⟩
      rw [updM_updM, List.take_succ, hs, List.map_append, List.map_append]; rfl
    refine s_gname ?_
    walk_at "g"
    have e40 : (2 : Nat) ^ 40 = 1099511627776 := by decide
    refine ⟨g, N + 40, s, p, m, rfl, hg, by omega, by omega, ep, h1, by omega, by omega, ?_⟩
    cases e : g.val s with
    | none =>
      have eU : stU g F L paid m p s = s := by unfold stU; rw [e]
      rw [eU] at next
      simp only [Option.map_none, lnD]
      walk_at "w"
      refine s_append updM_same hsz ?_
      walk_at "g"
      exact next _ _
    | some a =>
      simp only [Option.map_some, lnD]
      walk_at "w"
      · rename_i hc
        have hc : ¬ ts g.tail (s - g.head.length) * m = 0 := hc
        have eU : stU g F L paid m p s = s + p * setD F L (a - paid) (ts g.tail (s - g.head.length) * m) := by unfold stU; rw [e]; exact if_neg hc
        rw [eU] at next
        have sb : (ts g.tail (s - g.head.length) * m).natAbs < 2 ^ 2000 := by
          rw [Int.natAbs_mul]
          have a1 : (ts g.tail (s - g.head.length)).natAbs < 2 ^ (N + 40) := (hg.tk.th _ (tailAt_mem h0 _)).2.1
          exact Nat.lt_of_lt_of_le (nat_mul_lt a1 (show (m : Int).natAbs ≤ 2 ^ 10 by rw [show (2 : Nat) ^ 10 = 1024 by decide]; omega)) (two_pow_le (by omega))
        refine ⟨F, u, L, a - paid, _, rfl, R, hc, sb, ?_⟩
        walk_at "g"
        refine s_mul (.inl (.inl (sm64 (by omega)))) ?_
        walk_at "g"
        refine s_append updM_same hsz ?_
        walk_at "g"
        exact next _ _
      · rename_i hc
        have hc : ts g.tail (s - g.head.length) * m = 0 := by simpa using hc
        have eU : stU g F L paid m p s = s := by unfold stU; rw [e]; exact if_pos hc
        rw [eU] at next
        refine s_append updM_same hsz ?_
        walk_at "g"
        exact next _ _
  · subst e; subst e2
    rw [List.length_map, List.take_of_length_le (Nat.le_refl _)]
    walk_at "g"
    refine s_callLX ?_
    walk_at "g"
    refine s_kcallLX [encR F u L, .int paid, g.enc] rfl fun M2 hmr => ?_
    walk_at "g"
    refine s_kcallLX3 fun dl Mf hm2 hfn => ?_
    have drop : ∀ (b' : Addr) (mo : MO), M b' = some mo → updM M t (.lst ((S.map (stU g F L paid m p)).map .int)) b' = some mo := fun b' mo e => by
      rw [updM_ne (fun z => by subst z; rw [htM] at e; cases e)]; exact e
    have stF : ∀ (r : Nat) (s : Int), (S.map (stU g F L paid m p))[r]? = some s → ∃ s0, S[r]? = some s0 ∧ s = stU g F L paid m p s0 := fun r s e => by
      rw [List.getElem?_map] at e
      cases e2 : S[r]? with
      | none => rw [e2] at e; cases e
      | some m => rw [e2] at e; cases e; exact ⟨m, rfl, rfl⟩
    obtain ⟨B, hB⟩ : ∃ B : Nat, 2 ^ (N + 300) = B := ⟨_, rfl⟩
    have hB2 : 2 ^ (N + 301) = 2 * B := by rw [← hB, show N + 301 = (N + 300) + 1 from rfl, Nat.pow_succ, Nat.mul_comm]
    have hB3 : 1000 ≤ B := by rw [← hB]; exact Nat.le_trans (by decide : 1000 ≤ 2 ^ 40) (two_pow_le (by omega))
    have stB : ∀ (r : Nat) (s0 : Int), S[r]? = some s0 → stU g F L paid m p s0 ≤ B := fun r s0 e => by
      obtain ⟨h1, h2, h3⟩ := hfs r s0 e
      rw [← hB]
      show _ ≤ ((2 ^ (N + 260 + 40) : Nat) : Int)
      refine stU_le R (fun i ei => Nat.lt_of_lt_of_le (val_bd hg (m := 18) (x := s0) (by rw [show (2 : Nat) ^ 18 = 262144 by decide]; omega) (by decide) i ei) (two_pow_le (by omega))) (by omega) (by omega) hle hpd (by omega)
    have mem : ∀ s ∈ S.map (stU g F L paid m p), ∃ r : Nat, (S.map (stU g F L paid m p))[r]? = some s := fun s hs => by
      obtain ⟨i, hi, e⟩ := List.getElem_of_mem hs
      exact ⟨i, by rw [List.getElem?_eq_getElem hi, e]⟩
    refine ⟨p, dl, .ref t, S.map (stU g F L paid m p), fun x => dueO F u L paid (g.val x), fun x => 0 ≤ x ∧ x ≤ B + p, B, 2 * N + 353, rfl, sqOf_ref (hm2.1 _ _ (hmr.1 _ _ updM_same)), ⟨p0, by omega, hfn.imp fun ds M3 QQ EE h => ?_, by rw [List.length_map]; exact lenS, fun r s e => ?_, fun x x0 x1 => ⟨x0, x1⟩, fun s hs => ?_, fun x x0 x1 => ?_, by omega⟩, fun h hh hn' k1 kB k2 hv => ⟨rfl, ?_⟩, fun hno => ⟨rfl, s_endX drop (qe hno)⟩⟩
    · obtain ⟨x, rfl, hx2, kk⟩ := h
      refine ⟨rfl, fun d => d = encO (dueO F u L paid (g.val x)), fun M' _ => ?_, fun d e => by rw [e]; exact kk⟩
      show dCall sp_due_value E0D _ [some (.int x), some (encR F u L), some (.int paid), some g.enc] M' _
      walk_at "g"
      refine hg.val_at (m := N + 302) (by rw [show N + 302 = N + 301 + 1 by omega, Nat.pow_succ, hB2]; omega) (by omega) (by omega) ?_
      walk_at "g"
      exact ⟨F, u, L, paid, _, rfl, R, rfl, rfl⟩
    · obtain ⟨s0, e0, rfl⟩ := stF r s e
      obtain ⟨h1, h2, h3⟩ := hfs r s0 e0
      obtain ⟨⟨n, n0, l2⟩, l3⟩ := stU_lin (paid := paid) R h0 ep hRM h1
      have := stB r s0 e0
      have pn := Int.mul_nonneg (show 0 ≤ (p : Int) by omega) n0
      refine ⟨by omega, ?_, by omega⟩
      rw [l2, Int.add_mul_emod_self_left]; exact h2
    · obtain ⟨r, er⟩ := mem s hs
      obtain ⟨s0, e0, rfl⟩ := stF r s er
      exact (stU_lin R h0 ep hRM (hfs r s0 e0).1).2
    · have := dueO_bd R (val_bd hg (m := N + 301) (x := x) (by rw [hB2]; omega) (by omega)) (by omega) hpd
      exact fun i ei => Nat.lt_of_lt_of_le (this i ei) (two_pow_le (by omega))
    · exact s_endL drop (q h (hh.mono (by omega)) hn' k1 k2 hv)

/-- a cell left out -/
def dropM (M : Mp) (t : Addr) : Mp := fun b => if b = t then none else M b
theorem dropM_le {M : Mp} {t : Addr} : ∀ b m, dropM M t b = some m → M b = some m := fun b m e => by
  unfold dropM at e
  by_cases c : b = t
  · rw [if_pos c] at e; cases e
  · rwa [if_neg c] at e
theorem dropM_ne {M : Mp} {t b : Addr} (h : b ≠ t) : dropM M t b = M b := if_neg h
theorem dropM_same {M : Mp} {t : Addr} : dropM M t t = none := if_pos rfl

/-- a list that grows beside the script -/
structure Gr (M : Mp) (a t : Addr) (xs : List D) (M' : Mp) : Prop where
  st : StOk M' a
  at' : M' t = some (.lst xs)
  same : ∀ b, b ≠ a → b ≠ t → M' b = M b
theorem Gr.drawn {M M' M2 : Mp} {a t : Addr} {xs : List D} (h : Gr M a t xs M') (hat : a ≠ t) (D : Drawn M' a M2) : Gr M a t xs M2 := ⟨D.ok, by rw [D.same t (Ne.symm hat)]; exact h.at', fun b n1 n2 => by rw [D.same b n1, h.same b n1 n2]⟩
theorem Gr.add {M M' : Mp} {a t : Addr} {xs : List D} (h : Gr M a t xs M') (hat : a ≠ t) (ys : List D) : Gr M a t ys (updM M' t (.lst ys)) := by
  refine ⟨?_, updM_same, fun b n1 n2 => by rw [updM_ne n2, h.same b n1 n2]⟩
  obtain ⟨ns, i, c, k, b, hM, hi⟩ := h.st.ex
  exact ⟨⟨ns, i, c, k, b, by rw [updM_ne hat]; exact hM, hi⟩⟩
theorem Gr.start {M M1 : Mp} {a t : Addr} (D : Drawn M a M1) (ht : M1 t = none) : a ≠ t ∧ Gr M a t [] (updM M1 t (.lst [])) := by
  have hat : a ≠ t := fun z => by
    subst z
    obtain ⟨ns, i, c, k, b, hM, _⟩ := D.ok.ex
    rw [ht] at hM; cases hM
  refine ⟨hat, ?_, updM_same, fun b n1 n2 => by rw [updM_ne n2]; exact D.same b n1⟩
  obtain ⟨ns, i, c, k, b, hM, hi⟩ := D.ok.ex
  exact ⟨⟨ns, i, c, k, b, by rw [updM_ne hat]; exact hM, hi⟩⟩
theorem Gr.drop {M M' : Mp} {a t : Addr} {xs : List D} (h : Gr M a t xs M') (hat : a ≠ t) (ht : M t = none) : Drawn M a (dropM M' t) := by
  obtain ⟨ns, i, c, k, b, hM, hi⟩ := h.st.ex
  refine ⟨⟨ns, i, c, k, b, by rw [dropM_ne hat]; exact hM, hi⟩, fun b hb => ?_⟩
  by_cases z : b = t
  · rw [z, dropM_same, ht]
  · rw [dropM_ne z, h.same b hb z]
theorem s_ixB {xs : List D} {x y : D} {M : Mp} {Q : QD} {b : Bool} (h : Q (if b then y else x) M) : dIx (.lst [x, y]) (.int (if b = true then 1 else 0)) M Q := by
  cases b with
  | true => exact s_ix (d := y) rfl rfl h
  | false => exact s_ix (d := x) rfl rfl h

/-- the state's own cell, and what may be told at the end -/
structure Kp (M : Mp) (a : Addr) (M' : Mp) : Prop where
  st : StOk M' a
  fin : ∃ M2 : Mp, (∀ b m, M2 b = some m → M' b = some m) ∧ Drawn M a M2
theorem Kp.self {M : Mp} {a : Addr} (h : StOk M a) : Kp M a M := ⟨h, M, fun _ _ e => e, Drawn.self h⟩
theorem Kp.drawn {M M' M2 : Mp} {a : Addr} (h : Kp M a M') (D : Drawn M' a M2) : Kp M a M2 := by
  obtain ⟨N, h1, h2⟩ := h.fin
  refine ⟨D.ok, fun b => if b = a then M2 a else N b, fun b m e => ?_, ?_, fun b hb => ?_⟩
  · have e : (if b = a then M2 a else N b) = some m := e
    by_cases z : b = a
    · rw [if_pos z] at e; rw [z]; exact e
    · rw [if_neg z] at e; rw [D.same b z]; exact h1 b m e
  · obtain ⟨ns, i, c, k, b, hM, hi⟩ := D.ok.ex
    exact ⟨⟨ns, i, c, k, b, by show (if a = a then M2 a else N a) = _; rw [if_pos rfl]; exact hM, hi⟩⟩
  · show (if b = a then M2 a else N b) = M b
    rw [if_neg hb]; exact h2.same b hb
theorem Kp.new {M M' : Mp} {a t : Addr} {m : MO} (h : Kp M a M') (ht : M' t = none) : a ≠ t ∧ Kp M a (updM M' t m) := by
  have hat : a ≠ t := fun z => by
    subst z
    obtain ⟨ns, i, c, k, b, hM, _⟩ := h.st.ex
    rw [ht] at hM; cases hM
  obtain ⟨N, h1, h2⟩ := h.fin
  refine ⟨hat, ?_, N, fun b m' e => ?_, h2⟩
  · obtain ⟨ns, i, c, k, b, hM, hi⟩ := h.st.ex
    exact ⟨⟨ns, i, c, k, b, by rw [updM_ne hat]; exact hM, hi⟩⟩
  · rw [updM_ne (fun z => by subst z; rw [h1 _ m' e] at ht; cases ht)]; exact h1 b m' e
theorem Kp.end {M M' : Mp} {a : Addr} {Q : QD} {d : D} (h : Kp M a M') (q : ∀ M2, Drawn M a M2 → Q d M2) : rtQ Q d M' := by
  obtain ⟨N, h1, h2⟩ := h.fin
  exact s_endL (M2 := N) h1 (q N h2)
theorem Gr.kp {M M' : Mp} {a t : Addr} {xs : List D} (h : Gr M a t xs M') (hat : a ≠ t) (ht : M t = none) : Kp M a M' := ⟨h.st, dropM M' t, dropM_le, h.drop hat ht⟩
theorem all_flat_int : ∀ xs : List Int, (xs.map D.int).all D.flat = true
  | [] => rfl
  | x :: xs => by
    show (true && (xs.map D.int).all D.flat) = true
    rw [all_flat_int xs]; rfl

theorem s_ixAny {is : List Int} {k : Int} {M : Mp} {Q : QD} (h0 : 0 ≤ k) (h1 : k < is.length) (h : ∀ i ∈ is, Q (.int i) M) : dIx (.lst (is.map .int)) (.int k) M Q := by
  have hk : k.toNat < is.length := by omega
  exact s_ix (d := .int is[k.toNat]) rfl (by rw [atI_toNat h0, List.getElem?_map, List.getElem?_eq_getElem hk]; rfl) (h _ (List.getElem_mem hk))
theorem s_ixMem {xs : List D} {d : Int} {M : Mp} {Q : QD} (d0 : 0 ≤ d) (d1 : d < xs.length) (h : ∀ x ∈ xs, Q x M) : dIx (.lst xs) (.int d) M Q := by
  have hk : d.toNat < xs.length := by omega
  exact s_ix (d := xs[d.toNat]) rfl (by rw [atI_toNat d0, List.getElem?_eq_getElem hk]) (h _ (List.getElem_mem hk))

theorem len_law_common : ∀ ds M Q E, sp_law_common ds M Q E → ds.length = 2 := by rintro _ _ _ _ ⟨_, _, rfl, _⟩; rfl
theorem rd_law_common : Rds t_law_common n_law_common sp_law_common := by
  rintro _ M Q E ⟨a, b, rfl, q⟩
  show t_law_common _ [some (.int a), some (.int b)] M
  unfold t_law_common
  walk_at "g"
  refine s_while (fun m τ M' => M' = M ∧ ∃ x : Nat, Nat.gcd x m = Nat.gcd a b ∧ τ = [some (.int x), some (.int m)]) b ⟨rfl, a, rfl, rfl⟩ (fun m τ M' ⟨e, x, hg, e2⟩ => ?_)
  subst e; subst e2
  walk_at "g"
  · rename_i hne
    have hm : 0 < m := by
      have hne : ¬ (m : Int) = 0 := hne
      omega
    refine s_I (by omega) ?_
    walk_at "g"
    exact ⟨x % m, Nat.mod_lt _ hm, rfl, m, by rw [Nat.gcd_comm, ← Nat.gcd_rec, Nat.gcd_comm]; exact hg, rfl⟩
  · rename_i he
    have he : (m : Int) = 0 := by simpa using he
    have : m = 0 := by omega
    subst this
    rw [Nat.gcd_zero_right] at hg
    rw [hg]
    exact s_end q

theorem len_law_rule : ∀ ds M Q E, sp_law_rule ds M Q E → ds.length = 1 := by rintro _ _ _ _ ⟨_, rfl, _⟩; rfl
theorem rd_law_rule : Rds t_law_rule n_law_rule sp_law_rule := by
  rintro _ M Q E ⟨a, rfl, st, q⟩
  show t_law_rule _ [some (.ref a), none, none, none] M
  unfold t_law_rule
  walk_at "g"
  refine ⟨a, 10, rfl, by decide, by decide, st, fun F M1 f0 f1 D1 => ?_⟩
  walk_at "g"
  refine ⟨a, 10, rfl, by decide, by decide, D1.ok, fun u1 M2 u10 u11 D2 => ?_⟩
  walk_at "g"
  refine ⟨a, 1000, rfl, by decide, by decide, D2.ok, fun u2 M3 u20 u21 D3 => ?_⟩
  walk_at "g"
  refine ⟨a, 3, rfl, by decide, by decide, D3.ok, fun k M4 k0 k1 D4 => ?_⟩
  refine s_kop2 ?_
  refine s_ixAny (is := [1, 1 + u1, 1 + u2]) k0 k1 fun U hU => ?_
  have hU : 1 ≤ U ∧ U ≤ 1000 := by
    simp only [List.mem_cons, List.not_mem_nil, or_false] at hU
    rcases hU with rfl | rfl | rfl <;> omega
  walk_at "g"
  refine ⟨a, 30, rfl, by decide, by decide, D4.ok, fun l1 M5 l10 l11 D5 => ?_⟩
  walk_at "g"
  refine ⟨a, 100001, rfl, by decide, by decide, D5.ok, fun l2 M6 l20 l21 D6 => ?_⟩
  walk_at "g"
  refine ⟨a, 3, rfl, by decide, by decide, D6.ok, fun k2 M7 k20 k21 D7 => ?_⟩
  refine s_kop2 ?_
  refine s_ixAny (is := [0, l1, l2]) k20 k21 fun L hL => ?_
  have hL : 0 ≤ L ∧ L ≤ 100000 := by
    simp only [List.mem_cons, List.not_mem_nil, or_false] at hL
    rcases hL with rfl | rfl | rfl <;> omega
  walk_at "g"
  exact s_end (q (1 + F) U L _ ⟨by omega, by omega, hU.1, hU.2, hL.1, hL.2⟩ (D1.trans (D2.trans (D3.trans (D4.trans (D5.trans (D6.trans D7)))))))
/-- the law's way of rounding -/
theorem due_round {F U L m : Int} (R : Rule F U L) (m0 : ¬ m ≤ 0) : dueV F U L m = if (if (F * m) % U = 0 then F * m else F * m - (F * m) % U + U) < L then L else (if (F * m) % U = 0 then F * m else F * m - (F * m) % U + U) := by
  obtain ⟨f0, f1, u0, u1, l0, l1⟩ := R
  obtain ⟨r, r0, r1, e⟩ := due_ceil F m u0
  have e2 := Int.emod_add_mul_ediv (F * m) U
  have t0 := Int.emod_nonneg (F * m) (show U ≠ 0 by omega)
  have t1 := Int.emod_lt_of_pos (F * m) (show 0 < U by omega)
  have e3 : U * (-((-F * m) / U) - (F * m) / U) = r + (F * m) % U := by rw [Int.mul_sub]; omega
  have hr : r = if (F * m) % U = 0 then 0 else U - (F * m) % U := by
    generalize -((-F * m) / U) - (F * m) / U = k at e3
    by_cases c1 : k ≤ 0
    · have := Int.mul_le_mul_of_nonneg_left c1 (show 0 ≤ U by omega)
      rw [Int.mul_zero] at this
      rw [if_pos (by omega)]; omega
    · by_cases c2 : k = 1
      · subst c2
        rw [if_neg (by omega)]; omega
      · have := Int.mul_le_mul_of_nonneg_left (show 2 ≤ k by omega) (show 0 ≤ U by omega)
        omega
  unfold dueV
  rw [if_neg m0, e]
  by_cases c : (F * m) % U = 0
  · rw [if_pos c] at hr ⊢
    subst hr
    split <;> split <;> omega
  · rw [if_neg c] at hr ⊢
    subst hr
    split <;> split <;> omega
theorem len_law_due : ∀ ds M Q E, sp_law_due ds M Q E → ds.length = 2 := by rintro _ _ _ _ ⟨_, _, _, _, rfl, _⟩; rfl
theorem rd_law_due : Rds t_law_due n_law_due sp_law_due := by
  rintro _ M Q E ⟨F, U, L, m, rfl, R, q⟩
  show t_law_due _ [some (.tup [.int F, .int U, .int L]), some (encO m), none] M
  have hF := R.f1
  have hF0 := R.f0
  have hU := R.u0
  unfold t_law_due
  walk_at "g"
  rw [encO_isN]
  cases m with
  | none =>
    simp only [Option.isNone_none]
    walk_at "g"
    exact s_end q
  | some m =>
    simp only [Option.isNone_some]
    rw [show encO (some m) = .int m from rfl]
    have q : Q (.int (dueV F U L m)) M := q
    walk_at "g"
    · rename_i hc
      rw [due_none hc] at q
      exact s_end q
    · rename_i hc
      rw [due_round R hc] at q
      refine s_mul (.inl (.inl (sm64 (by omega)))) ?_
      walk_at "g"
      refine s_I (by omega) ?_
      walk_at "g"
      · rename_i h1
        refine s_I (by omega) ?_
        rw [if_neg h1] at q
        walk_at "g"
        · rename_i h2
          rw [if_pos h2] at q
          exact s_end q
        · rename_i h2
          rw [if_neg h2] at q
          exact s_end q
      · rename_i h1 h2
        rw [if_pos h1, if_pos h2] at q
        exact s_end q
      · rename_i h1 h2
        rw [if_pos h1, if_neg h2] at q
        exact s_end q
theorem len_law_is : ∀ ds M Q E, sp_law_is ds M Q E → ds.length = 2 := by rintro _ _ _ _ ⟨_, rfl, _⟩; rfl
theorem rd_law_is : Rds t_law_is n_law_is sp_law_is := by
  rintro _ M Q E ⟨i, rfl, q⟩
  show t_law_is _ [some (.int i), some (.int i)] M
  unfold t_law_is
  walk_at "w"
  exact s_end q
theorem len_law_less : ∀ ds M Q E, sp_law_less ds M Q E → ds.length = 3 := by rintro _ _ _ _ ⟨_, _, _, _, rfl, _⟩; rfl
theorem rd_law_less : Rds t_law_less n_law_less sp_law_less := by
  rintro _ M Q E ⟨f, n, x, paid, rfl, hf, hn, hx, q⟩
  show t_law_less _ [some f.enc, some (.int x), some (.int paid), none] M
  unfold t_law_less
  walk_at "g"
  refine hf.val_at (m := 200) hx (by decide) (by omega) ?_
  walk_at "g"
  rw [encO_isN]
  cases e : f.val x with
  | none =>
    rw [e] at q
    simp only [Option.isNone_none]
    walk_at "g"
    exact s_end q
  | some a =>
    rw [e] at q
    simp only [Option.isNone_some]
    rw [show encO (some a) = .int a from rfl]
    walk_at "g"
    exact s_end q
theorem len_law_amounts_hold : ∀ ds M Q E, sp_law_amounts_hold ds M Q E → ds.length = 2 := by rintro _ _ _ _ ⟨_, _, _, _, rfl, _⟩; rfl
theorem rd_law_amounts_hold : Rds t_law_amounts_hold n_law_amounts_hold sp_law_amounts_hold := by
  rintro _ M Q E ⟨a, F, U, L, rfl, R, st, q⟩
  show t_law_amounts_hold _ [some (.ref a), some (encR F U L), none, none, none, none] M
  have hF := R.f1
  have hF0 := R.f0
  have hU := R.u0
  have hU1 := R.u1
  unfold t_law_amounts_hold
  walk_at "g"
  refine ⟨a, rfl, st, fun x1 M1 x10 x11 D1 => ?_⟩
  walk_at "g"
  refine ⟨a, rfl, D1.ok, fun x2 M2 x20 x21 D2 => ?_⟩
  walk_at "g"
  refine ⟨a, 3000, rfl, by decide, by decide, D2.ok, fun x3 M3 x30 x31 D3 => ?_⟩
  have DD := D1.trans (D2.trans D3)
  walk_at "g"
  refine s_kr1 (by decide) (by decide) ?_
  refine s_kforR (fun k τ M' => Drawn M a M' ∧ ∃ (is : List Int) (y3 y4 : Option D), is.length ≤ 7 + 3 * k ∧ τ = [some (.ref a), some (encR F U L), some (.lst (is.map .int)), y3, y4, none]) ⟨DD, [-1, 0, 1, 2, -5 - x1, x2, x3], _, _, Nat.le_refl _, rfl⟩ (fun k τ M' hk ⟨DD, is, y3, y4, hl, eτ⟩ => ?_) (fun τ M' ⟨DD, is, y3, y4, hl, eτ⟩ => ?_)
  · subst eτ
    have hk : k < 3 := hk
    refine s_gname ?_
    walk_at "g"
    refine ⟨a, 50, rfl, by decide, by decide, DD.ok, fun d M4 d0 d1 D4 => ?_⟩
    walk_at "g"
    refine s_mul (.inl (.inl (sm64 (by omega)))) ?_
    walk_at "g"
    refine s_I ⟨by omega, log2_20 (Nat.lt_of_lt_of_le (m := 1001) (by omega) (by decide))⟩ ?_
    walk_at "g"
    refine s_addL (xs := is.map .int) (ys := [_, _, _].map .int) (small_line (by rw [List.length_map, List.length_map]; show is.length + 3 ≤ _; omega)) ?_
    rw [← List.map_append]
    walk_at "g"
    exact ⟨DD.trans D4, _, _, _, by rw [List.length_append]; show is.length + 3 ≤ _; omega, rfl⟩
  · subst eτ
    have hl : is.length ≤ 7 + 3 * 3 := hl
    walk_at "g"
    refine s_I ⟨by omega, log2_20 (Nat.lt_of_lt_of_le (m := 1001) (by omega) (by decide))⟩ ?_
    walk_at "g"
    unfold t_law_amounts_hold_c3
    walk_at "g"
    refine s_addL (xs := is.map .int) (ys := [L / F - 1, L / F, L / F + 1].map .int) (small_line (by rw [List.length_map, List.length_map]; show is.length + 3 ≤ _; omega)) ?_
    rw [← List.map_append]
    generalize is ++ [L / F - 1, L / F, L / F + 1] = ps at *
    walk_at "g"
    refine s_kforT (ds := ps.map .int) (fun k τ M2 => M2 = M' ∧ ∃ x5, τ = [some (.ref a), some (encR F U L), some (.lst (is.map .int)), y3, some (.int (L / F)), x5]) (fun _ => rfl) ⟨rfl, _, rfl⟩ (fun k d τ M2 hd ⟨eM, x5, eτ⟩ => ?_) (fun τ M2 ⟨eM, x5, eτ⟩ => ?_)
    · subst eM; subst eτ
      obtain ⟨i, hi, rfl⟩ : ∃ i, i ∈ ps ∧ d = .int i := by
        obtain ⟨i, hi, e⟩ := List.mem_map.mp (List.mem_of_getElem? hd)
        exact ⟨i, hi, e.symm⟩
      refine s_gname ?_
      walk_at "g"
      refine ⟨F, U, L, i, rfl, R, ?_⟩
      walk_at "g"
      refine ⟨F, U, L, some i, rfl, R, ?_⟩
      walk_at "g"
      refine ⟨_, rfl, ?_⟩
      walk_at "g"
      exact ⟨rfl, _, rfl⟩
    · subst eM; subst eτ
      walk_at "g"
      exact s_end (q _ DD)

theorem gcd_mod_nat (u n : Nat) : Nat.gcd u (n % u) = Nat.gcd u n := by rw [Nat.gcd_comm u (n % u), ← Nat.gcd_rec]
theorem len_law_period : ∀ ds M Q E, sp_law_period ds M Q E → ds.length = 2 := by rintro _ _ _ _ ⟨_, _, _, _, rfl, _⟩; rfl
theorem rd_law_period : Rds t_law_period n_law_period sp_law_period := by
  rintro _ M Q E ⟨F, U, L, f, rfl, R, t0, tl, q⟩
  obtain ⟨u, rfl⟩ : ∃ u : Nat, U = u := Int.eq_ofNat_of_zero_le (by have := R.u0; omega)
  show t_law_period _ [some (.tup [.int F, .int u, .int L]), some (.tup [.tup (f.head.map encO), .tup (f.tail.map encP)]), none, none, none, none] M
  have f0 := R.f0
  have f1 := R.f1
  have u0 := R.u0
  have u1 := R.u1
  unfold t_law_period
  walk_at "g"
  refine s_kforT (ds := f.tail.map encP) (fun i τ M' => M' = M ∧ ∃ (z : Nat) (a b c : Option D), 0 < z ∧ z ∣ u ∧ (∀ p ∈ f.tail.take i, RdC true p → (u : Int) ∣ p.2 * F * z) ∧ (∀ m' : Nat, (∀ p ∈ f.tail.take i, RdC true p → (u : Int) ∣ p.2 * F * m') → z ∣ m') ∧ τ = [some (.tup [.int F, .int u, .int L]), some (.tup [.tup (f.head.map encO), .tup (f.tail.map encP)]), some (.int z), a, b, c]) (fun _ => rfl)
    ⟨rfl, 1, _, _, _, by decide, Nat.one_dvd _, (fun p hp => by simp at hp), (fun m' _ => Nat.one_dvd _), rfl⟩ (fun i d τ M' hd ⟨e, z, a, b, c, z0, zu, h1, h2, e2⟩ => ?_) (fun τ M' ⟨e, z, a, b, c, z0, zu, h1, h2, e2⟩ => ?_)
  · subst e; subst e2
    obtain ⟨⟨v, s⟩, hp, rfl⟩ : ∃ p, f.tail[i]? = some p ∧ d = encP p := by
      rw [List.getElem?_map] at hd
      cases e : f.tail[i]? with
      | none => rw [e] at hd; cases hd
      | some m => rw [e] at hd; cases hd; exact ⟨m, rfl, rfl⟩
    have et : f.tail.take (i + 1) = f.tail.take i ++ [(v, s)] := by rw [List.take_succ, hp]; rfl
    have skip : ¬ RdC true (v, s) → ∀ a b c : Option D, M' = M' ∧ ∃ (z' : Nat) (a' b' c' : Option D), 0 < z' ∧ z' ∣ u ∧ (∀ p ∈ f.tail.take (i + 1), RdC true p → (u : Int) ∣ p.2 * F * z') ∧ (∀ m' : Nat, (∀ p ∈ f.tail.take (i + 1), RdC true p → (u : Int) ∣ p.2 * F * m') → z' ∣ m') ∧ ([some (.tup [.int F, .int u, .int L]), some (.tup [.tup (f.head.map encO), .tup (f.tail.map encP)]), some (.int z), a, b, c] : SD) = [some (.tup [.int F, .int u, .int L]), some (.tup [.tup (f.head.map encO), .tup (f.tail.map encP)]), some (.int z'), a', b', c'] := fun hn a b c => by
      refine ⟨rfl, z, _, _, _, z0, zu, fun p hp hc => ?_, fun m' hm => h2 m' fun p hp => hm p (by rw [et]; exact List.mem_append_left _ hp), rfl⟩
      rw [et] at hp
      rcases List.mem_append.mp hp with hp | hp
      · exact h1 p hp hc
      · rw [List.mem_singleton.mp hp] at hc; exact absurd hc hn
    refine s_gtup rfl ?_
    walk_at "g"
    rw [encO_isN]
    cases v with
    | none =>
      simp only [Option.isNone_none, Bool.not_true]
      walk_at "g"
      exact skip (fun h => h.1 rfl) _ _ _
    | some v =>
      simp only [Option.isNone_some, Bool.not_false]
      walk_at "g"
      · rename_i hs
        let w : Nat := u / Nat.gcd u (s * F).natAbs
        have gp : 0 < Nat.gcd u (s * F).natAbs := Nat.gcd_pos_of_pos_left _ (by omega)
        have gl : Nat.gcd u (s * F).natAbs ≤ u := Nat.gcd_le_left _ (by omega)
        have w0 : 0 < w := Nat.div_pos gl gp
        have wu : w ∣ u := Nat.div_dvd_of_dvd (Nat.gcd_dvd_left _ _)
        have hw : ∀ m : Nat, w ∣ m ↔ (u : Int) ∣ s * F * m := fun m => need_dvd (by omega) (s * F) m
        have zl := Nat.le_of_dvd (by omega) zu
        have wl := Nat.le_of_dvd (by omega) wu
        obtain ⟨n, hn⟩ : ∃ n : Nat, F * s = n := Int.eq_ofNat_of_zero_le (Int.mul_nonneg (by omega) (by omega))
        refine s_mul (.inl (.inl (sm64 (by omega)))) ?_
        walk_at "g"
        refine s_I (by omega) ?_
        rw [hn, ← Int.natCast_emod]
        walk_at "g"
        refine ⟨u, n % u, rfl, ?_⟩
        rw [gcd_mod_nat]
        have en : n = (s * F).natAbs := by rw [Int.mul_comm s F, hn]; rfl
        rw [en]
        refine s_kop2 ?_
        refine s_I ⟨by omega, log2_20 (Nat.lt_of_le_of_lt (m := 1000) (by simp only [Int.natAbs_natCast]; omega) (by decide))⟩ ?_
        have ew : (u : Int) / ((Nat.gcd u (s * F).natAbs : Nat) : Int) = (w : Nat) := (Int.natCast_ediv _ _).symm
        rw [ew]
        walk_at "g"
        refine s_mul (.inl (.inl (sm64 (by omega)))) ?_
        walk_at "g"
        refine ⟨z, w, rfl, ?_⟩
        have g0 : 0 < Nat.gcd z w := Nat.gcd_pos_of_pos_left _ z0
        have g1 : Nat.gcd z w ≤ z := Nat.gcd_le_left _ z0
        refine s_kop2 ?_
        refine s_I ⟨by omega, log2_20 (Nat.lt_of_le_of_lt (m := 1000) (by simp only [Int.natAbs_natCast]; omega) (by decide))⟩ ?_
        have el : (z : Int) * w / ((Nat.gcd z w : Nat) : Int) = ((Nat.lcm z w : Nat) : Int) := by
          rw [← Int.natCast_mul, ← Int.natCast_ediv]; rfl
        rw [el]
        walk_at "g"
        refine ⟨rfl, Nat.lcm z w, _, _, _, Nat.lcm_pos z0 w0, Nat.lcm_dvd zu wu, fun p hp hc => ?_, fun m' hm => Nat.lcm_dvd (h2 m' fun p hp => hm p (by rw [et]; exact List.mem_append_left _ hp)) ((hw m').mpr (hm _ (by rw [et]; exact List.mem_append_right _ (List.mem_singleton.mpr rfl)) ⟨fun z => (by cases z), .inl hs⟩)), rfl⟩
        rw [et] at hp
        rcases List.mem_append.mp hp with hp | hp
        · exact Int.dvd_trans (h1 p hp hc) (Int.mul_dvd_mul_left _ (Int.natCast_dvd_natCast.mpr (Nat.dvd_lcm_left _ _)))
        · rw [List.mem_singleton.mp hp]; exact (hw _).mp (Nat.dvd_lcm_right _ _)
      · rename_i hs
        exact skip (fun h => by rcases h.2 with z | z <;> first | exact hs z | cases z) _ _ _
  · subst e; subst e2
    rw [List.length_map, List.take_of_length_le (Nat.le_refl _)] at h1 h2
    have zl := Nat.le_of_dvd (by omega) zu
    walk_at "g"
    rw [List.length_map]
    refine s_mul (.inl (.inr (sm64 (by omega)))) ?_
    rw [show (z : Int) * f.tail.length = ((z * f.tail.length : Nat) : Int) by rw [Int.natCast_mul]]
    exact s_end (q z ⟨z0, h1, h2⟩)
theorem len_law_low : ∀ ds M Q E, sp_law_low ds M Q E → ds.length = 1 := by rintro _ _ _ _ ⟨_, rfl, _⟩; rfl
theorem rd_law_low : Rds t_law_low n_law_low sp_law_low := by
  rintro _ M Q E ⟨a, rfl, st, q⟩
  show t_law_low _ [some (.ref a), none, none, none, none] M
  unfold t_law_low
  walk_at "g"
  refine ⟨a, 7, rfl, by decide, by decide, st, fun cnt M1 c0 c1 D1 => ?_⟩
  walk_at "g"
  refine s_kr1 (by omega) (by omega) ?_
  refine s_klcDraw (α := Option Int) encO (fun v => ∀ z, v = some z → 0 ≤ z ∧ z < 60) (fun M2 => Drawn M a M2) (small_line (by omega)) D1 (fun i M2 Q hi D2 k => ?_) (fun K hK hKp M2 D2 => ?_)
  · walk_at "g"
    refine ⟨a, 60, rfl, by decide, by decide, D2.ok, fun d1 M3 d10 d11 D3 => ?_⟩
    walk_at "g"
    refine ⟨a, 4, rfl, by decide, by decide, D3.ok, fun d2 M4 d20 d21 D4 => ?_⟩
    walk_at "g"
    refine s_ixB (xs := []) ?_
    obtain ⟨v, hv, hz⟩ : ∃ v : Option Int, (if decide (0 < d2) = true then D.int d1 else D.non) = encO v ∧ ∀ z, v = some z → 0 ≤ z ∧ z < 60 := by
      by_cases c : 0 < d2
      · exact ⟨some d1, by rw [if_pos (by simpa using c)]; rfl, fun z e => by cases e; omega⟩
      · exact ⟨none, by rw [if_neg (by simpa using c)]; rfl, fun z e => by cases e⟩
    rw [hv]
    exact k v M4 hz (D2.trans (D3.trans D4))
  walk_at "g"
  refine fun t htM => ?_
  obtain ⟨hat, G⟩ := Gr.start (Drawn.self D2.ok) htM
  have htM0 : M t = none := by rw [← D2.same t (Ne.symm hat)]; exact htM
  walk_at "g"
  refine ⟨a, 3, rfl, by decide, by decide, G.st, fun base M4 b0 b1 D4 => ?_⟩
  have G := G.drawn hat D4
  walk_at "g"
  refine s_kr1 (by omega) (by omega) ?_
  refine s_kforR (fun i τ M' => ∃ (T : Tl) (x y : Option D), Gr _ a t (T.map encP) M' ∧ T.length = i ∧ (∀ p ∈ T, (p.1 = none → p.2 = 0) ∧ -3 ≤ p.2 ∧ p.2 ≤ 4 ∧ ∀ v, p.1 = some v → -10 ≤ v ∧ v < 80) ∧ τ = [some (.ref a), some (.lst (K.map encO)), x, some (.ref t), y]) ⟨[], _, _, G, rfl, (fun p hp => by cases hp), rfl⟩ (fun i τ M5 hi ⟨T, x, y, G, hT, hTp, e2⟩ => ?_) (fun τ M5 ⟨T, x, y, G, hT, hTp, e2⟩ => ?_)
  · subst e2
    have hsz : (T.map encP).length < sizeLine := Nat.lt_of_le_of_lt (m := 100) (by rw [List.length_map]; omega) (by decide)
    refine s_gname ?_
    walk_at "g"
    refine ⟨a, 5, rfl, by decide, by decide, G.st, fun s1 M6 s10 s11 D6 => ?_⟩
    have G := G.drawn hat D6
    walk_at "g"
    refine ⟨a, 8, rfl, by decide, by decide, G.st, fun s2 M7 s20 s21 D7 => ?_⟩
    have G := G.drawn hat D7
    walk_at "g"
    refine ⟨a, 3, rfl, by decide, by decide, G.st, fun k M8 k0 k1 D8 => ?_⟩
    have G := G.drawn hat D8
    refine s_kop2 ?_
    refine s_ixAny (is := [0, s1, s2 - 3]) k0 k1 fun s hs => ?_
    have hs : -3 ≤ s ∧ s ≤ 4 := by
      simp only [List.mem_cons, List.not_mem_nil, or_false] at hs
      rcases hs with rfl | rfl | rfl <;> omega
    have hGt := G.at'
    walk_at "g"
    refine ⟨a, 90, rfl, by decide, by decide, G.st, fun d1 M9 d10 d11 D9 => ?_⟩
    have G := G.drawn hat D9
    walk_at "g"
    refine ⟨a, 5, rfl, by decide, by decide, G.st, fun d2 M10 d20 d21 D10 => ?_⟩
    have G := G.drawn hat D10
    walk_at "g"
    refine s_ixB (xs := []) ?_
    walk_at "g"
    obtain ⟨p, hp, hz⟩ : ∃ p : Option Int × Int, (if decide (d2 = 0) = true then D.tup [.non, .int 0] else D.tup [.int (d1 - 10), .int s]) = encP p ∧ (p.1 = none → p.2 = 0) ∧ -3 ≤ p.2 ∧ p.2 ≤ 4 ∧ ∀ v, p.1 = some v → -10 ≤ v ∧ v < 80 := by
      by_cases c : d2 = 0
      · exact ⟨(none, 0), by rw [if_pos (by simpa using c)]; rfl, fun _ => rfl, by decide, by decide, fun v e => by cases e⟩
      · exact ⟨(some (d1 - 10), s), by rw [if_neg (by simpa using c)]; rfl, fun e => (by cases e), hs.1, hs.2, fun v e => by obtain rfl := Option.some.inj e; omega⟩
    refine s_append G.at' hsz ?_
    walk_at "g"
    refine ⟨T ++ [p], _, _, by rw [hp, List.map_append]; exact G.add hat _, by rw [List.length_append, hT]; rfl, fun w hw => ?_, rfl⟩
    rcases List.mem_append.mp hw with hw | hw
    · exact hTp w hw
    · rw [List.mem_singleton.mp hw]; exact hz
  · subst e2
    have hGt := G.at'
    have G := G.drop hat htM
    walk_at "g"
    refine s_endL dropM_le (q ⟨K, T⟩ _ ⟨by show K.length ≤ 6; omega, by show 0 < T.length; omega, by show T.length ≤ 3; omega, hKp, hTp⟩ (D2.trans G))

theorem RdM.like {f g : Frm} {n m : Nat} (hf : FOk f n) (hg : FOk g m) (gn : IsNorm g) (hv : ∀ x, 0 ≤ x → f.val x = g.val x) {u z : Int} {r : Bool} {k : Nat} (k0 : 0 < k) (h : RdM f u z r k) : ∃ k', 0 < k' ∧ RdM g u z r k' ∧ k' * g.tail.length = k * f.tail.length := by
  obtain ⟨c, c0, hc, hs⟩ := norm_like hf hg gn hv
  refine ⟨c * k, Nat.mul_pos c0 k0, fun p hp hr => ?_, by rw [hc, Nat.mul_comm c k, Nat.mul_assoc, Nat.mul_comm c]⟩
  obtain ⟨i, hi, rfl⟩ := List.getElem_of_mem hp
  rw [tail_elt hi] at hr ⊢
  obtain ⟨h1, h2⟩ := hs i hr.1
  have hm := h (tailAt f.tail (i + g.head.length - f.head.length)) (tailAt_mem hf.tk.t0 _) ⟨fun z => h1 (tv_none.mpr z), ?_⟩
  · have e : (tailAt f.tail (i + g.head.length - f.head.length)).2 = ts g.tail i * c := h2
    rw [e] at hm
    show u ∣ ts g.tail i * z * ((c * k : Nat) : Int)
    rw [Int.natCast_mul]
    have e2 : ts g.tail i * z * ((c : Int) * k) = ts g.tail i * c * z * k := by
      rw [← Int.mul_assoc, Int.mul_right_comm (ts g.tail i) z]
    rw [e2]; exact hm
  · rcases hr.2 with z | z
    · left
      have e : (tailAt f.tail (i + g.head.length - f.head.length)).2 = ts g.tail i * c := h2
      rw [e]
      exact Int.mul_pos z (by omega)
    · exact .inr z

/-! ### a function that goes on evenly has a form -/
def linF (v : Int → Option Int) (len p : Nat) (sl : Nat → Int) : Frm := ⟨(List.range len).map fun i : Nat => v i, (List.range p).map fun i : Nat => (v ((len : Int) + i), if v ((len : Int) + i) = none then 0 else sl i)⟩
theorem linF_len {v : Int → Option Int} {len p : Nat} {sl : Nat → Int} : (linF v len p sl).head.length = len ∧ (linF v len p sl).tail.length = p := by
  unfold linF
  exact ⟨by rw [List.length_map, List.length_range], by rw [List.length_map, List.length_range]⟩
theorem linF_val {v : Int → Option Int} {len p : Nat} {sl : Nat → Int} (hp : 0 < p) (hg : ∀ i : Nat, i < p → ∀ m : Int, 0 ≤ m → v ((len : Int) + i + p * m) = (v ((len : Int) + i)).map (· + sl i * m)) (x : Int) (x0 : 0 ≤ x) : (linF v len p sl).val x = v x := by
  obtain ⟨l1, l2⟩ := linF_len (v := v) (len := len) (p := p) (sl := sl)
  by_cases h : x < len
  · unfold Frm.val
    rw [l1, if_neg (by omega), if_pos h]
    refine getD_of ?_
    show ((List.range len).map fun i : Nat => v i)[x.toNat]? = _
    rw [List.getElem?_map, List.getElem?_range (by omega)]
    show some (v ((x.toNat : Nat) : Int)) = _
    rw [show ((x.toNat : Nat) : Int) = x by omega]
  · rw [val_tv (by rw [l1]; omega)]
    unfold tv tailAt
    rw [l1, l2]
    have i0 : 0 ≤ (x - len) % (p : Int) := Int.emod_nonneg _ (by omega)
    have i1 : (x - len) % (p : Int) < p := Int.emod_lt_of_pos _ (by omega)
    have m0 : 0 ≤ (x - len) / (p : Int) := Int.ediv_nonneg (by omega) (by omega)
    have e := Int.emod_add_mul_ediv (x - len) p
    generalize (x - len) % (p : Int) = i at *
    generalize (x - len) / (p : Int) = m at *
    obtain ⟨k, rfl⟩ : ∃ k : Nat, i = k := ⟨i.toNat, by omega⟩
    have g := hg k (by omega) m m0
    rw [show (len : Int) + k + p * m = x by omega] at g
    rw [g]
    have et : (linF v len p sl).tail.getD ((k : Int)).toNat (none, 0) = (v ((len : Int) + k), if v ((len : Int) + k) = none then 0 else sl k) := by
      refine getD_of ?_
      show ((List.range p).map fun i : Nat => (v ((len : Int) + i), if v ((len : Int) + i) = none then 0 else sl i))[((k : Int)).toNat]? = _
      rw [show ((k : Int)).toNat = k by omega, List.getElem?_map, List.getElem?_range (by omega)]; rfl
    rw [et]
    unfold tailVal
    cases ev : v ((len : Int) + k) with
    | none => rfl
    | some a => simp
theorem NoForm.no {v : Int → Option Int} {len p : Nat} (h : NoForm v) (hp : 0 < p) (hl : len ≤ 4000) (hv : ∀ x : Int, len ≤ x → ∃ sl : Int, ∀ m, 0 ≤ m → v (x + p * m) = (v x).map (· + sl * m)) : False := by
  obtain ⟨sl, hs⟩ := Classical.axiomOfChoice fun i : Nat => hv ((len : Int) + i) (by omega)
  obtain ⟨l1, l2⟩ := linF_len (v := v) (len := len) (p := p) (sl := sl)
  have := h (linF v len p sl) (by omega) fun x x0 => linF_val hp (fun i _ => hs i) x x0
  omega
/-- a normal form has the shortest head -/
theorem norm_head_le {f g : Frm} {n : Nat} (hf : FOk f n) (nf : IsNorm f) (g0 : 0 < g.tail.length) (hv : ∀ x, 0 ≤ x → f.val x = g.val x) : f.head.length ≤ g.head.length := by
  by_cases c : f.head.length ≤ g.head.length
  · exact c
  exfalso
  have f0 := hf.tk.t0
  refine nf.hd (by omega) ?_
  have e0 : f.head.getD (f.head.length - 1) none = f.val ((f.head.length : Int) - 1) := by
    unfold Frm.val
    rw [if_neg (by omega), if_pos (by omega), show ((f.head.length : Int) - 1).toNat = f.head.length - 1 by omega]
  rw [e0]
  have G : ∀ j : Int, 0 ≤ j → f.val ((f.head.length : Int) - 1 + g.tail.length * (f.tail.length * j)) = (f.val ((f.head.length : Int) - 1)).map (· + ts g.tail ((f.head.length : Int) - 1 - g.head.length) * (f.tail.length * j)) := fun j j0 => by
    have n1 : 0 ≤ (f.tail.length : Int) * j := Int.mul_nonneg (by omega) j0
    have n2 : 0 ≤ (g.tail.length : Int) * (f.tail.length * j) := Int.mul_nonneg (by omega) n1
    rw [hv _ (by omega), hv _ (by omega)]
    exact val_shift g0 (by omega) n1
  have T : ∀ j : Int, 1 ≤ j → f.val ((f.head.length : Int) - 1 + g.tail.length * (f.tail.length * j)) = (tv f.tail (-1)).map (· + ts f.tail (-1) * (g.tail.length * j)) := fun j j0 => by
    have n1 : 1 * 1 ≤ (f.tail.length : Int) * j := Int.mul_le_mul (by omega) j0 (by omega) (by omega)
    have n2 : 1 * 1 ≤ (g.tail.length : Int) * (f.tail.length * j) := Int.mul_le_mul (by omega) (by omega) (by omega) (by omega)
    rw [val_tv (by omega), show (f.head.length : Int) - 1 + g.tail.length * (f.tail.length * j) - f.head.length = -1 + f.tail.length * (g.tail.length * j) by
      rw [← Int.mul_assoc, ← Int.mul_assoc, Int.mul_comm (g.tail.length : Int)]; omega]
    exact tv_shift f0 _ _
  have a1 := (G 1 (by decide)).symm.trans (T 1 (by decide))
  have a2 := (G 2 (by decide)).symm.trans (T 2 (by decide))
  generalize ts g.tail ((f.head.length : Int) - 1 - g.head.length) = s1 at *
  generalize ts f.tail (-1) = s2 at *
  cases e1 : f.val ((f.head.length : Int) - 1) with
  | none =>
    rw [e1] at a1
    cases e2 : tv f.tail (-1) with
    | none => rfl
    | some b => rw [e2] at a1; cases a1
  | some a =>
    rw [e1] at a1 a2
    cases e2 : tv f.tail (-1) with
    | none => rw [e2] at a1; cases a1
    | some b =>
      rw [e2] at a1 a2
      have a1 : a + s1 * (f.tail.length * 1) = b + s2 * (g.tail.length * 1) := Option.some.inj a1
      have a2 : a + s1 * (f.tail.length * 2) = b + s2 * (g.tail.length * 2) := Option.some.inj a2
      rw [Int.mul_one, Int.mul_one] at a1
      rw [← Int.mul_assoc, ← Int.mul_assoc] at a2
      congr 1; omega

theorem LowF.ok {f : Frm} (h : LowF f) : FOk f 100 := by
  refine ⟨⟨h.t0, by have := h.tl; omega, fun p hp => ?_, by decide⟩, by have := h.hl; omega, fun v hv i e => ?_⟩
  · obtain ⟨h1, h2, h3, h4⟩ := h.pr p hp
    exact ⟨fun i e => Nat.lt_of_lt_of_le (m := 2 ^ 20) (by have := h4 i e; rw [show (2 : Nat) ^ 20 = 1048576 by decide]; omega) (two_pow_le (by decide)), Nat.lt_of_lt_of_le (m := 2 ^ 20) (by rw [show (2 : Nat) ^ 20 = 1048576 by decide]; omega) (two_pow_le (by decide)), h1⟩
  · exact Nat.lt_of_lt_of_le (m := 2 ^ 20) (by have := h.hd v hv i e; rw [show (2 : Nat) ^ 20 = 1048576 by decide]; omega) (two_pow_le (by decide))
theorem trg_150 {F U L : Int} (R : Rule F U L) (hL : L ≤ 150) : trgD F L ≤ 150 := by
  have e := Int.emod_add_mul_ediv (-L) F
  have r0 := Int.emod_nonneg (-L) (show F ≠ 0 by have := R.f0; omega)
  have r1 := Int.emod_lt_of_pos (-L) (show 0 < F by have := R.f0; omega)
  have b := Int.natAbs_ediv_le_natAbs (-L) F
  have := R.l0
  unfold trgD
  split <;> omega
theorem low_lin {f : Frm} (h : LowF f) {F U L paid : Int} {m p : Nat} (R : Rule F U L) (hL : L ≤ 150) (h1 : -15 ≤ paid) (h2 : paid ≤ 105) (ep : (p : Int) = f.tail.length * m) (hm : RdM f U F true m) {x : Int} (hx : 1000 ≤ x) :
    ∃ sl : Int, ∀ k, 0 ≤ k → dueO F U L paid (f.val (x + p * k)) = (dueO F U L paid (f.val x)).map (· + sl * k) := by
  have t0 := h.t0
  have tl := h.tl
  have hl := h.hl
  have P := fun (k : Int) (k0 : 0 ≤ k) => val_per t0 (f := f) ep (by omega) (show (f.head.length : Int) ≤ x by omega) k0
  cases e : f.val x with
  | none => exact ⟨0, fun k k0 => by rw [P k k0, e]; rfl⟩
  | some a =>
    have ec := val_class t0 (show (f.head.length : Int) ≤ x by omega)
    have k0 : 0 ≤ (x - f.head.length) % (f.tail.length : Int) := Int.emod_nonneg _ (by omega)
    have k1 : (x - f.head.length) % (f.tail.length : Int) < f.tail.length := Int.emod_lt_of_pos _ (by omega)
    have ek := Int.emod_add_mul_ediv (x - f.head.length) f.tail.length
    rw [val_first k0 k1, e] at ec
    have ets : ts f.tail (x - f.head.length) = ts f.tail ((x - f.head.length) % f.tail.length) := by
      unfold ts tailAt
      rw [Int.emod_emod_of_dvd _ (Int.dvd_refl _)]
    have hd := hm _ (tailAt_mem t0 (x - f.head.length))
    have tn : (tailAt f.tail (x - f.head.length)).1 ≠ none := fun z => by
      rw [val_tv (by omega), tv_none.mpr z] at e; cases e
    have hd : (RdC true (tailAt f.tail (x - f.head.length))) → U ∣ ts f.tail (x - f.head.length) * F * m := hd
    have hp := h.pr _ (tailAt_mem t0 ((x - f.head.length) % f.tail.length))
    have hs : ts f.tail ((x - f.head.length) % f.tail.length) = (tailAt f.tail ((x - f.head.length) % f.tail.length)).2 := rfl
    have j0 : 300 ≤ (x - f.head.length) / (f.tail.length : Int) := (Int.le_ediv_iff_mul_le (by omega)).mpr (by omega)
    rw [← hs] at hp
    rw [ets] at hd P
    generalize (x - f.head.length) / (f.tail.length : Int) = j at *
    generalize ts f.tail ((x - f.head.length) % f.tail.length) = s at *
    cases eb : (tailAt f.tail ((x - f.head.length) % f.tail.length)).1 with
    | none => rw [eb] at ec; cases ec
    | some b =>
      rw [eb] at ec hp
      have ec : a = b + s * j := Option.some.inj ec
      obtain ⟨_, s0, s1, hb⟩ := hp
      have hb := hb b rfl
      have P : ∀ k, 0 ≤ k → f.val (x + p * k) = some (a + s * m * k) := fun k k0 => by rw [P k k0, e]; rfl
      by_cases c : s = 0
      · refine ⟨0, fun k k0 => ?_⟩
        rw [P k k0, c]; simp
      by_cases c2 : s < 0
      · have n1 := Int.mul_le_mul_of_nonneg_right (show s ≤ -1 by omega) (show 0 ≤ j by omega)
        refine ⟨0, fun k k0 => ?_⟩
        rw [P k k0]
        have n2 : s * m * k ≤ 0 := by
          rw [Int.mul_assoc]
          have := Int.mul_le_mul_of_nonneg_right (show s ≤ 0 by omega) (Int.mul_nonneg (show 0 ≤ (m : Int) by omega) k0)
          omega
        show some (dueV F U L _) = some (dueV F U L _ + 0 * k)
        rw [due_none (by omega), due_none (by omega)]
        simp
      · have n1 := Int.mul_le_mul_of_nonneg_right (show 1 ≤ s by omega) (show 0 ≤ j by omega)
        have hd2 := hd ⟨tn, .inl (show 0 < ts f.tail (x - f.head.length) by rw [ets]; omega)⟩
        rw [Int.mul_right_comm] at hd2
        have hT := trg_150 R hL
        refine ⟨F * (s * m), fun k k0 => ?_⟩
        rw [P k k0]
        show some (dueV F U L _) = some (dueV F U L _ + _)
        congr 1
        have := due_rise R (m := a - paid) (s := s * m) (k := k) (by omega) (Int.mul_nonneg (Int.mul_nonneg (by omega) (by omega)) k0) hd2
        rw [show a + s * m * k - paid = a - paid + s * m * k by omega]
        exact this
/-- a due form of a small form is told -/
theorem due_told {C : Ct} {f f2 : Frm} (h : LowF f) {F U L paid : Int} {m N : Nat} {M : Mp} {Q : QD} (R : Rule F U L) (hL : L ≤ 150) (h1 : -15 ≤ paid) (h2 : paid ≤ 105) (m0 : 0 < m) (hm : RdM f U F true m) (hp : m * f.tail.length ≤ 400)
    (k2 : FOk f2 N) (hN : N ≤ 900) (hv : ∀ x, f2.val x = f.val x) (q : ∀ g : Frm, FOk g (2 * N + 500) → IsNorm g → (∀ x, 0 ≤ x → g.val x = dueO F U L paid (f.val x)) → Q g.enc M) : sp_due_form C [encR F U L, f2.enc, .int paid] M Q E0D := by
  refine ⟨F, U, L, paid, f2, N, rfl, R, k2, hN, Nat.lt_of_lt_of_le (m := 1000) (by omega) (by decide), fun g hg gn _ gv z hz => ?_⟩
  obtain ⟨k, k0, hk, ek⟩ := RdM.like h.ok hg gn (fun x _ => by rw [gv, hv]) m0 hm
  have zk := Nat.le_of_dvd k0 (hz.mn k hk)
  have zt : z * g.tail.length ≤ k * g.tail.length := Nat.mul_le_mul_right _ zk
  have fe : (fun x => dueO F U L paid (f2.val x)) = fun x => dueO F U L paid (f.val x) := by funext x; rw [hv]
  refine ⟨fun hlt => by omega, fun _ => ⟨fun w hw wn wl wt wv => q w hw wn fun x x0 => by rw [wv x x0, hv], fun hno => ?_⟩⟩
  rw [fe] at hno
  exact (hno.no (len := 1000) (p := m * f.tail.length) (Nat.mul_pos m0 h.t0) (by decide) fun x hx => low_lin h R hL h1 h2 (by rw [Int.natCast_mul, Int.mul_comm]) hm hx).elim
theorem due_map (F U L paid : Int) (v : Option Int) : (v.map (· - paid)).map (dueV F U L) = dueO F U L paid v := by cases v <;> rfl
theorem forms_c9 (C : Ct) {f h : Frm} (hf : LowF f) {F U L paid : Int} {m : Nat} {a : Addr} {x3 x4 : Option D} {M0 M : Mp} {Q : QD} (R : Rule F U L) (hL : L ≤ 150) (h1 : -15 ≤ paid) (h2 : paid ≤ 105) (hm : RdL f U F true m) (hp : m * f.tail.length ≤ 400)
    (hk : FOk h 700) (hn : IsNorm h) (hv : ∀ x, 0 ≤ x → h.val x = dueO F U L paid (f.val x)) (D0 : Drawn M0 a M) (q : ∀ M', Drawn M0 a M' → Q (.bl true) M') :
    t_law_forms_hold_c9 C (fnE Q) [some (.ref a), some (encR F U L), some f.enc, x3, x4, some (.int paid), some h.enc, none, none] M := by
  unfold t_law_forms_hold_c9
  have tl := hf.tl
  have hl := hf.hl
  have t0 := hf.t0
  walk_at "g"
  rw [List.length_map]
  refine s_mul (.inl (.inl (sm64 (by omega)))) ?_
  walk_at "g"
  rw [List.length_map]
  refine ⟨F, U, L, f, rfl, R, t0, by omega, fun m2 hm2 => ?_⟩
  obtain rfl : m2 = m := Nat.dvd_antisymm (hm2.mn m hm.ok) (hm.mn m2 hm2.ok)
  refine s_kop2 ?_
  refine s_mul (.inl (.inl (sm64 (by omega)))) ?_
  obtain ⟨e, he⟩ : ∃ e : Nat, f.head.length + 300 * f.tail.length + 2 * (m2 * f.tail.length) = e := ⟨_, rfl⟩
  refine s_kop2 ?_
  refine s_add ?_
  rw [show (f.head.length : Int) + 300 * f.tail.length + 2 * ((m2 * f.tail.length : Nat) : Int) = (e : Int) by omega]
  walk_at "g"
  refine s_kr1 (by omega) (by omega) ?_
  refine s_klcRng (fun i : Nat => .int i) (small_line (by omega)) (fun i QQ hi k => ?_) ?_
  · rw [Int.zero_add]
    walk_at "g"
    exact k
  rw [show ((e : Int)).toNat = e by omega]
  walk_at "g"
  refine ⟨a, rfl, D0.ok, fun f1 M1 f10 f11 D1 => ?_⟩
  walk_at "g"
  refine ⟨a, rfl, D1.ok, fun f2 M2 f20 f21 D2 => ?_⟩
  walk_at "g"
  refine ⟨a, 999, rfl, by decide, by decide, D2.ok, fun d M3 d0 d1 D3 => ?_⟩
  have DD := D0.trans (D1.trans (D2.trans D3))
  walk_at "g"
  have em : (List.range e).map (fun i : Nat => D.int i) = ((List.range e).map fun i : Nat => (i : Int)).map .int := by rw [List.map_map]; rfl
  rw [em]
  refine s_addL (xs := ((List.range e).map fun i : Nat => (i : Int)).map .int) (ys := [f1, f2, (e : Int) + d].map .int) (small_line (by rw [List.length_map, List.length_map, List.length_range]; show e + 3 ≤ 1000000; omega)) ?_
  rw [← List.map_append]
  have p190 : (1000000 : Int) < 2 ^ 190 := by decide
  have p192 : (2 : Int) ^ 190 < 2 ^ 200 := by decide
  have hps : ∀ i ∈ ((List.range e).map fun i : Nat => (i : Int)) ++ [f1, f2, (e : Int) + d], 0 ≤ i ∧ i < 2 ^ 190 := fun i hi => by
    rcases List.mem_append.mp hi with hi | hi
    · obtain ⟨j, hj, rfl⟩ := List.mem_map.mp hi
      have := List.mem_range.mp hj
      omega
    · simp only [List.mem_cons, List.not_mem_nil, or_false] at hi
      rcases hi with rfl | rfl | rfl <;> omega
  generalize ((List.range e).map fun i : Nat => (i : Int)) ++ [f1, f2, (e : Int) + d] = ps at *
  walk_at "g"
  refine s_kforT (ds := ps.map .int) (fun k τ M' => M' = M3 ∧ ∃ x8, τ = [some (.ref a), some (encR F U L), some f.enc, x3, x4, some (.int paid), some h.enc, some (.int e), x8]) (fun _ => rfl) ⟨rfl, _, rfl⟩ (fun k d τ M' hd ⟨eM, x8, eτ⟩ => ?_) (fun τ M' ⟨eM, x8, eτ⟩ => ?_)
  · subst eM; subst eτ
    obtain ⟨i, hi, rfl⟩ : ∃ i, i ∈ ps ∧ d = .int i := by
      obtain ⟨i, hi, e⟩ := List.mem_map.mp (List.mem_of_getElem? hd)
      exact ⟨i, hi, e.symm⟩
    obtain ⟨i0, i1⟩ := hps i hi
    refine s_gname ?_
    walk_at "g"
    refine hk.val_at (m := 200) (by omega) (by decide) (by decide) ?_
    walk_at "g"
    refine ⟨f, 100, i, paid, rfl, hf.ok, by decide, by omega, ?_⟩
    walk_at "g"
    refine ⟨F, U, L, _, rfl, R, ?_⟩
    rw [due_map, hv i i0]
    walk_at "g"
    refine s_neS (scal_O _ _) ?_
    rw [decide_eq_true rfl]
    walk_at "w"
    exact ⟨trivial, _, rfl⟩
  · subst eM; subst eτ
    walk_at "g"
    refine ⟨a, f, 100, rfl, DD.ok, hf.ok, by decide, by omega, by omega, fun f3 M4 k3 l3 t3 v3 D4 => ?_⟩
    walk_at "g"
    refine due_told hf R hL h1 h2 hm.m0 hm.ok hp k3 (by decide) v3 fun w hw wn wv => ?_
    obtain rfl : w = h := norm_unique hw hk wn hn fun x x0 => by rw [wv x x0, hv x x0]
    walk_at "g"
    refine s_eqF ?_
    rw [decide_eq_true rfl]
    exact s_end (q _ (DD.trans D4))
theorem len_law_forms_hold : ∀ ds M Q E, sp_law_forms_hold ds M Q E → ds.length = 2 := by rintro _ _ _ _ ⟨_, _, _, _, rfl, _⟩; rfl
theorem rd_law_forms_hold (C : Ct) : Rds (t_law_forms_hold C) n_law_forms_hold sp_law_forms_hold := by
  rintro _ M0 Q E ⟨a, F, U, L, rfl, R, st, q⟩
  show t_law_forms_hold C _ [some (.ref a), some (.tup [.int F, .int U, .int L]), none, none, none, none, none, none, none] M0
  unfold t_law_forms_hold
  have l0 := R.l0
  walk_at "g"
  refine ⟨a, rfl, st, fun f M hf D0 => ?_⟩
  have tl := hf.tl
  have t0 := hf.t0
  walk_at "g"
  refine s_I (by decide) ?_
  obtain ⟨l, hl0, hl1, el⟩ : ∃ l : Int, 0 ≤ l ∧ l ≤ 150 ∧ L % 150 = l := ⟨_, by omega, by omega, rfl⟩
  rw [el]
  have RR : ∀ U' : Int, 1 ≤ U' → U' ≤ 1000 → Rule F U' l := fun U' h h' => ⟨R.f0, R.f1, h, h', hl0, by omega⟩
  have R1 := RR U R.u0 R.u1
  walk_at "g"
  refine ⟨F, U, l, f, rfl, R1, t0, by omega, fun m1 hm1 => ?_⟩
  -- behind the second look
  have last : ∀ (U' : Int) (m : Nat), Rule F U' l → RdL f U' F true m → m * f.tail.length ≤ 400 → t_law_forms_hold_c5 C (fnE Q) [some (.ref a), some (.tup [.int F, .int U, .int L]), some f.enc, some (.int l), some (.int U'), none, none, none, none] M := fun U' m R' hm hp => by
    unfold t_law_forms_hold_c5
    walk_at "g"
    refine ⟨a, 120, rfl, by decide, by decide, D0.ok, fun d M1 d0 d1 D1 => ?_⟩
    walk_at "g"
    refine due_told hf R' (by omega) (by omega) (by omega) hm.m0 hm.ok hp hf.ok (by decide) (fun _ => rfl) fun w hw wn wv => ?_
    walk_at "g"
    unfold t_law_forms_hold_c8
    walk_at "g"
    refine ⟨w, 700, rfl, hw, by decide, wn, ?_⟩
    walk_at "w"
    exact forms_c9 C hf R' (by omega) (by omega) (by omega) hm hp hw wn wv (D0.trans D1) q
  have one : ∀ m, RdL f 1 F true m → m * f.tail.length ≤ 400 := fun m hm => by
    have : m ∣ 1 := hm.mn 1 fun p hp hc => Int.one_dvd _
    have := Nat.le_of_dvd (by decide) this
    have := Nat.mul_le_mul_right f.tail.length this
    omega
  have R2 := RR 1 (by decide) (by decide)
  obtain ⟨mo, hmo⟩ : ∃ m, RdL f 1 F true m := ⟨1, by decide, fun p hp hc => Int.one_dvd _, fun m' _ => Nat.one_dvd _⟩
  walk_at "g"
  · refine s_I (by decide) ?_
    walk_at "g"
    have R' := RR (1 + U % 7) (by omega) (by omega)
    refine ⟨F, 1 + U % 7, l, f, rfl, R', t0, by omega, fun m2 hm2 => ?_⟩
    walk_at "g"
    · exact last 1 mo R2 hmo (one mo hmo)
    · rename_i hc
      exact last _ m2 R' hm2 (by omega)
  · refine ⟨F, U, l, f, rfl, R1, t0, by omega, fun m2 hm2 => ?_⟩
    walk_at "g"
    · exact last 1 mo R2 hmo (one mo hmo)
    · rename_i hc
      exact last _ m2 R1 hm2 (by omega)

/-! ### forms whose head's length is known -/
structure CaseR (F U L paid : Int) (f : Frm) (len : Nat) (b : Bool) : Prop where
  R : Rule F U L
  k : FOk f 100
  p : paid.natAbs < 2 ^ 200
  ln : len ≤ 10000
  big : b = true → ∀ r, TellR F U L paid f 100 r → r = .tup [.str "large", .non]
  sml : b = false → ∀ r, TellR F U L paid f 100 r → ∃ h : Frm, r = .tup [.str "told", h.enc] ∧ FOk h 700 ∧ h.head.length = len ∧ ∀ x, 0 ≤ x → h.val x = dueO F U L paid (f.val x)
theorem CaseR.of {F U L paid : Int} {f G : Frm} {len n : Nat} (R : Rule F U L) (k : FOk f 100) (p : paid.natAbs < 2 ^ 200) (hl : len ≤ 10000) (hp : ∀ (g : Frm) (m : Nat), FOk g 140 → IsNorm g → (∀ x, g.val x = f.val x) → RdL g U F true m → m * g.tail.length ≤ 1000)
    (Gk : FOk G n) (Gn : IsNorm G) (Gl : G.head.length = len) (Gv : ∀ x, 0 ≤ x → G.val x = dueO F U L paid (f.val x)) : CaseR F U L paid f len (decide (len > 4000)) := by
  refine ⟨R, k, p, hl, fun hb r ⟨g, m, hg, gn, _, gv, hm, h⟩ => ?_, fun hb r ⟨g, m, hg, gn, _, gv, hm, h⟩ => ?_⟩
  · rcases h with ⟨e, _⟩ | ⟨h, e, _, hk, hn, h1, h2, hv⟩
    · exact e
    · obtain rfl : h = G := norm_unique hk Gk hn Gn fun x x0 => by rw [hv x x0, Gv x x0]
      have := of_decide_eq_true hb
      omega
  · rcases h with ⟨e, hno⟩ | ⟨h, e, _, hk, hn, h1, h2, hv⟩
    · have := hno (hp g m hg gn gv hm) G Gk.tk.t0 Gv
      have := of_decide_eq_false hb
      omega
    · obtain rfl : h = G := norm_unique hk Gk hn Gn fun x x0 => by rw [hv x x0, Gv x x0]
      exact ⟨h, e, hk, Gl, hv⟩
def lineF (a s : Int) : Frm := ⟨[], [(some a, s)]⟩
theorem lineF_val {a s x : Int} (x0 : 0 ≤ x) : (lineF a s).val x = some (a + s * x) := by
  unfold Frm.val lineF
  rw [if_neg (by omega), if_neg (by show ¬ x < ((0 : Nat) : Int); omega)]
  show tailVal ([(some a, s)].getD ((x - ((0 : Nat) : Int)) % ((1 : Nat) : Int)).toNat (none, 0)) ((x - ((0 : Nat) : Int)) / ((1 : Nat) : Int)) = _
  rw [show ((x - ((0 : Nat) : Int)) % ((1 : Nat) : Int)).toNat = 0 by omega, show (x - ((0 : Nat) : Int)) / ((1 : Nat) : Int) = x by omega]
  rfl
theorem one_norm {f : Frm} (h1 : f.tail.length = 1) (h2 : 0 < f.head.length → f.head.getD (f.head.length - 1) none ≠ tv f.tail (-1)) : IsNorm f := ⟨fun q q0 q1 => by omega, h2⟩
theorem lineF_ok {a s : Int} (ha : a.natAbs < 2 ^ 100) (hs : s.natAbs < 2 ^ 100) : FOk (lineF a s) 100 :=
  ⟨⟨by show 0 < 1; decide, by show 1 ≤ 100000; decide, fun p hp => by
    have hp : p ∈ [(some a, s)] := hp
    rw [List.mem_singleton.mp hp]
    exact ⟨fun i e => by cases e; exact ha, hs, fun z => by cases z⟩, by decide⟩, by show 0 ≤ 100000; decide, fun v hv => by cases hv⟩
theorem unit_one {F : Int} {f g : Frm} {m n : Nat} (k : FOk f n) (h1 : f.tail.length = 1) (hg : FOk g 140) (gn : IsNorm g) (gv : ∀ x, g.val x = f.val x) (hm : RdL g 1 F true m) : m * g.tail.length ≤ 1000 := by
  obtain ⟨c, c0, hc, _⟩ := norm_like k hg gn fun x _ => (gv x).symm
  have m1 : m ∣ 1 := hm.mn 1 fun p _ _ => Int.one_dvd _
  have m1 := Nat.le_of_dvd (by decide) m1
  have : g.tail.length ≤ 1 := by rw [← h1, hc]; exact Nat.le_mul_of_pos_right _ c0
  have := Nat.mul_le_mul m1 this
  omega
theorem due_one {F L m : Int} : dueV F 1 L m = if m ≤ 0 then 0 else if F * m > L then F * m else L := by
  unfold dueV
  rw [Int.ediv_one, Int.one_mul, Int.neg_mul, Int.neg_neg]
theorem linF_ok {v : Int → Option Int} {len p n : Nat} {sl : Nat → Int} (hp : 0 < p) (hp2 : p ≤ 100000) (hl : len ≤ 100000) (hv : ∀ x : Int, 0 ≤ x → x ≤ len + p → bdO n (v x)) (hs : ∀ i, (sl i).natAbs < 2 ^ n) (hn : 0 < n) : FOk (linF v len p sl) n := by
  obtain ⟨l1, l2⟩ := linF_len (v := v) (len := len) (p := p) (sl := sl)
  refine ⟨⟨by omega, by omega, fun q hq => ?_, hn⟩, by omega, fun w hw => ?_⟩
  · obtain ⟨i, hi, rfl⟩ := List.mem_map.mp (show q ∈ (List.range p).map _ from hq)
    have hi := List.mem_range.mp hi
    refine ⟨hv _ (by omega) (by omega), ?_, fun z => if_pos z⟩
    show (if v ((len : Int) + i) = none then (0 : Int) else sl i).natAbs < _
    split
    · exact Nat.pow_pos (by decide)
    · exact hs i
  · obtain ⟨i, hi, rfl⟩ := List.mem_map.mp (show w ∈ (List.range len).map _ from hw)
    have hi := List.mem_range.mp hi
    exact hv _ (by omega) (by omega)
/-- a line's own form: its head's last member is off the line -/
theorem linF_norm {v : Int → Option Int} {len : Nat} {sl a : Int} (h0 : v len = some a) (h1 : 0 < len → v ((len : Int) - 1) ≠ some (a - sl)) : IsNorm (linF v len 1 fun _ => sl) := by
  obtain ⟨l1, l2⟩ := linF_len (v := v) (len := len) (p := 1) (sl := fun _ => sl)
  refine one_norm l2 fun h => ?_
  rw [l1] at h ⊢
  have e1 : (linF v len 1 fun _ => sl).head.getD (len - 1) none = v ((len : Int) - 1) := by
    refine getD_of ?_
    show ((List.range len).map fun i : Nat => v i)[len - 1]? = _
    rw [List.getElem?_map, List.getElem?_range (by omega)]
    show some (v ((len - 1 : Nat) : Int)) = _
    rw [show ((len - 1 : Nat) : Int) = (len : Int) - 1 by omega]
  have e2 : tv (linF v len 1 fun _ => sl).tail (-1) = some (a - sl) := by
    have et : (linF v len 1 fun _ => sl).tail = [(v ((len : Int) + 0), if v ((len : Int) + 0) = none then 0 else sl)] := rfl
    rw [et, Int.add_zero, h0, if_neg (fun z => by cases z)]
    show some (a + sl * -1) = some (a - sl)
    congr 1; omega
  rw [e1, e2]
  exact h1 h
theorem due_small {F L m : Int} {a : Int} (f0 : 1 ≤ F) (f1 : F ≤ 10) (l0 : 0 ≤ L) (l1 : L ≤ 100000) (hm : m.natAbs ≤ 1000000) (e : some (dueV F 1 L m) = some a) : a.natAbs < 2 ^ 100 := by
  have := due_bd (m := m) ⟨f0, f1, Int.le_refl 1, by decide, l0, l1⟩
  cases e
  exact Nat.lt_of_le_of_lt (m := 11000000) (by omega) (by decide)
theorem case0 {F L : Int} {near : Nat} (f0 : 1 ≤ F) (f1 : F ≤ 10) (l0 : 0 ≤ L) (l1 : L ≤ 901) (n0 : 998 ≤ near) (n1 : near ≤ 6000) :
    CaseR F 1 L ((near : Int) - (L + F - 1) / F * (if decide ((L + F - 1) / F > 1) = true then 1 else 0)) (lineF 0 1) near (decide (near > 4000)) := by
  have R : Rule F 1 L := ⟨f0, f1, Int.le_refl 1, by decide, l0, by omega⟩
  have e := Int.emod_add_mul_ediv (L + F - 1) F
  have r0 := Int.emod_nonneg (L + F - 1) (show F ≠ 0 by omega)
  have r1 := Int.emod_lt_of_pos (L + F - 1) (show 0 < F by omega)
  have s0 : 0 ≤ (L + F - 1) / F := Int.ediv_nonneg (by omega) (by omega)
  have s1 : (L + F - 1) / F ≤ 901 := by
    by_cases z : (L + F - 1) / F ≤ 901
    · exact z
    · have := Int.mul_le_mul_of_nonneg_left (show 902 ≤ (L + F - 1) / F by omega) (show 0 ≤ F by omega)
      omega
  generalize (L + F - 1) / F = st at *
  generalize (L + F - 1) % F = rr at *
  obtain ⟨paid, ep, hpd⟩ : ∃ paid : Int, (near : Int) - st * (if decide (st > 1) = true then 1 else 0) = paid ∧ ((st ≤ 1 ∧ paid = near) ∨ (1 < st ∧ paid = near - st)) := by
    by_cases c : st > 1
    · exact ⟨_, rfl, .inr ⟨c, by rw [if_pos (by simpa using c)]; omega⟩⟩
    · exact ⟨_, rfl, .inl ⟨by omega, by rw [if_neg (by simpa using c)]; omega⟩⟩
  rw [ep]
  have V : ∀ x : Int, 0 ≤ x → dueO F 1 L paid ((lineF 0 1).val x) = some (dueV F 1 L (x - paid)) := fun x x0 => by
    rw [lineF_val x0]
    show some (dueV F 1 L (0 + 1 * x - paid)) = _
    congr 2; omega
  have VN : ∀ m : Int, 0 ≤ m → dueV F 1 L ((near : Int) + m - paid) = F * ((near : Int) - paid) + F * m := fun m m0 => by
    rw [due_one]
    have n1 := Int.mul_le_mul_of_nonneg_right f0 m0
    rcases hpd with ⟨h1, h2⟩ | ⟨h1, h2⟩
    · have LF : L ≤ F := by
        have := Int.mul_le_mul_of_nonneg_left h1 (show 0 ≤ F by omega)
        omega
      by_cases z : m = 0
      · subst z; rw [if_pos (by omega), h2]; simp
      · have n2 := Int.mul_le_mul_of_nonneg_left (show 1 ≤ m by omega) (show 0 ≤ F by omega)
        rw [if_neg (by omega), h2, show (near : Int) + m - near = m by omega, show (near : Int) - near = 0 by omega, Int.mul_zero]
        split <;> omega
    · have n2 := Int.mul_le_mul_of_nonneg_left (show 0 ≤ m by omega) (show 0 ≤ F by omega)
      rw [if_neg (by omega), h2, show (near : Int) + m - (near - st) = st + m by omega, show (near : Int) - (near - st) = st by omega, Int.mul_add]
      split <;> omega
  have V0 := VN 0 (Int.le_refl _)
  rw [Int.add_zero, Int.mul_zero, Int.add_zero] at V0
  have lv := linF_len (v := fun x => dueO F 1 L paid ((lineF 0 1).val x)) (len := near) (p := 1) (sl := fun _ => F)
  refine CaseR.of (G := linF (fun x => dueO F 1 L paid ((lineF 0 1).val x)) near 1 fun _ => F) (n := 100) R (lineF_ok (by decide) (by decide)) (Nat.lt_of_lt_of_le (m := 10000) (by omega) (by decide)) (by omega) (fun g m hg gn gv hm => unit_one (lineF_ok (a := 0) (s := 1) (by decide) (by decide)) rfl hg gn gv hm)
    (linF_ok (by decide) (by decide) (by omega) (fun x x0 x1 => ?_) (fun _ => Nat.lt_of_lt_of_le (m := 11) (by omega) (by decide)) (by decide)) (linF_norm (a := F * ((near : Int) - paid)) ?_ fun _ => ?_) lv.1 fun x x0 => linF_val (by decide) (fun i hi m m0 => ?_) x x0
  · rw [V x x0]
    exact fun a e => due_small f0 f1 l0 (by omega) (by omega) e
  · show dueO F 1 L paid ((lineF 0 1).val (near : Int)) = _
    rw [V _ (by omega), V0]
  · show dueO F 1 L paid ((lineF 0 1).val ((near : Int) - 1)) ≠ _
    rw [V _ (by omega), due_one]
    intro z
    have z := Option.some.inj z
    rcases hpd with ⟨h1, h2⟩ | ⟨h1, h2⟩
    · rw [if_pos (by omega), h2, show (near : Int) - near = 0 by omega, Int.mul_zero] at z
      omega
    · rw [if_neg (by omega), h2, show (near : Int) - 1 - (near - st) = st - 1 by omega, show (near : Int) - (near - st) = st by omega, Int.mul_sub, Int.mul_one] at z
      split at z <;> omega
  · obtain rfl : i = 0 := by omega
    show dueO F 1 L paid ((lineF 0 1).val (near + ((0 : Nat) : Int) + ((1 : Nat) : Int) * m)) = (dueO F 1 L paid ((lineF 0 1).val (near + ((0 : Nat) : Int)))).map (· + F * m)
    rw [show (near : Int) + ((0 : Nat) : Int) + ((1 : Nat) : Int) * m = near + m by omega, show (near : Int) + ((0 : Nat) : Int) = near by omega, V _ (by omega), V _ (by omega), VN m m0, V0]
    rfl
theorem case1 {F : Int} {near : Nat} (f0 : 1 ≤ F) (f1 : F ≤ 10) (n0 : 998 ≤ near) (n1 : near ≤ 6000) : CaseR F 1 0 9 (lineF ((near : Int) + 9) (-1)) near (decide (near > 4000)) := by
  have R : Rule F 1 0 := ⟨f0, f1, Int.le_refl 1, by decide, by decide, by decide⟩
  have V : ∀ x : Int, 0 ≤ x → dueO F 1 0 9 ((lineF ((near : Int) + 9) (-1)).val x) = some (dueV F 1 0 (near - x)) := fun x x0 => by
    rw [lineF_val x0]
    show some (dueV F 1 0 ((near : Int) + 9 + -1 * x - 9)) = _
    congr 2; omega
  have lv := linF_len (v := fun x => dueO F 1 0 9 ((lineF ((near : Int) + 9) (-1)).val x)) (len := near) (p := 1) (sl := fun _ => 0)
  have kf : FOk (lineF ((near : Int) + 9) (-1)) 100 := lineF_ok (Nat.lt_of_lt_of_le (m := 10000) (by omega) (by decide)) (by decide)
  refine CaseR.of (G := linF (fun x => dueO F 1 0 9 ((lineF ((near : Int) + 9) (-1)).val x)) near 1 fun _ => 0) (n := 100) R kf (by decide) (by omega) (fun g m hg gn gv hm => unit_one kf rfl hg gn gv hm)
    (linF_ok (by decide) (by decide) (by omega) (fun x x0 x1 => ?_) (fun _ => by decide) (by decide)) (linF_norm (a := 0) ?_ fun _ => ?_) lv.1 fun x x0 => linF_val (by decide) (fun i hi m m0 => ?_) x x0
  · rw [V x x0]
    exact fun a e => due_small f0 f1 (by decide) (by decide) (by omega) e
  · show dueO F 1 0 9 ((lineF ((near : Int) + 9) (-1)).val (near : Int)) = _
    rw [V _ (by omega), due_none (by omega)]
  · show dueO F 1 0 9 ((lineF ((near : Int) + 9) (-1)).val ((near : Int) - 1)) ≠ _
    rw [V _ (by omega), due_one]
    intro z
    have z := Option.some.inj z
    rw [if_neg (by omega), show (near : Int) - (near - 1) = 1 by omega, Int.mul_one, if_pos (by omega)] at z
    omega
  · obtain rfl : i = 0 := by omega
    show dueO F 1 0 9 ((lineF ((near : Int) + 9) (-1)).val (near + ((0 : Nat) : Int) + ((1 : Nat) : Int) * m)) = (dueO F 1 0 9 ((lineF ((near : Int) + 9) (-1)).val (near + ((0 : Nat) : Int)))).map (· + 0 * m)
    rw [show (near : Int) + ((0 : Nat) : Int) + ((1 : Nat) : Int) * m = near + m by omega, show (near : Int) + ((0 : Nat) : Int) = near by omega, V _ (by omega), V _ (by omega), due_none (by omega), due_none (by omega)]
    simp
def combF : Frm := ⟨[], [(some 0, 1), (some 7, 1)]⟩
theorem combF_ok : FOk combF 100 :=
  ⟨⟨by decide, by decide, fun p hp => by
    have hp : p ∈ [(some (0 : Int), (1 : Int)), (some 7, 1)] := hp
    simp only [List.mem_cons, List.not_mem_nil, or_false] at hp
    rcases hp with rfl | rfl
    · exact ⟨fun i e => by cases e; decide, by decide, fun z => by cases z⟩
    · exact ⟨fun i e => by cases e; decide, by decide, fun z => by cases z⟩, by decide⟩, by decide, fun v hv => by cases hv⟩
theorem combF_norm : IsNorm combF := by
  refine ⟨fun q q0 q1 hd h => ?_, fun h => absurd h (by decide)⟩
  have q1 : q < 2 := q1
  obtain rfl : q = 1 := by omega
  rcases h 0 (by decide) (by decide) with ⟨z, _⟩ | ⟨a, b, ea, eb, _, e⟩
  · exact absurd z (by decide)
  · have ea : some (0 : Int) = some a := ea
    have eb : some (7 : Int) = some b := eb
    cases ea; cases eb
    exact absurd e (by decide)
theorem case2 {u : Nat} (u0 : 498 ≤ u) (u1 : u ≤ 502) : CaseR 1 u 0 (-1) combF 0 (decide ((2 : Int) * u > 1000)) := by
  have R : Rule 1 u 0 := ⟨Int.le_refl 1, by decide, by omega, by omega, by decide, by decide⟩
  have per : ∀ (g : Frm) (m : Nat), FOk g 140 → IsNorm g → (∀ x, g.val x = combF.val x) → RdL g u 1 true m → m * g.tail.length = 2 * u := fun g m hg gn gv hm => by
    obtain rfl : g = combF := norm_unique hg combF_ok gn combF_norm fun x _ => gv x
    have h1 := hm.ok (some 0, 1) (by show _ ∈ [(some (0 : Int), (1 : Int)), (some 7, 1)]; simp) ⟨fun z => (by cases z), .inl (by decide)⟩
    have h1 : (u : Int) ∣ 1 * 1 * (m : Int) := h1
    rw [Int.one_mul, Int.one_mul] at h1
    have h2 : m ∣ u := hm.mn u fun p hp hc => by
      have hp : p ∈ [(some (0 : Int), (1 : Int)), (some 7, 1)] := hp
      exact Int.dvd_mul_left _ _
    have := Nat.dvd_antisymm h2 (Int.natCast_dvd_natCast.mp h1)
    subst this
    show m * 2 = 2 * m
    omega
  have lin : ∀ x : Int, ((0 : Nat) : Int) ≤ x → ∃ sl : Int, ∀ m, 0 ≤ m → dueO 1 u 0 (-1) (combF.val (x + ((2 * u : Nat) : Int) * m)) = (dueO 1 u 0 (-1) (combF.val x)).map (· + sl * m) := fun x hx => by
    have P := fun (k : Int) (k0 : 0 ≤ k) => val_per combF_ok.tk.t0 (p := ((2 * u : Nat) : Int)) (i := u) (by show ((2 * u : Nat) : Int) = ((2 : Nat) : Int) * u; omega) (by omega) (show (combF.head.length : Int) ≤ x from hx) k0
    have tsx : ts combF.tail (x - combF.head.length) = 1 := by
      have := tailAt_mem combF_ok.tk.t0 (x - combF.head.length)
      have this : tailAt combF.tail (x - combF.head.length) ∈ [(some (0 : Int), (1 : Int)), (some 7, 1)] := this
      simp only [List.mem_cons, List.not_mem_nil, or_false] at this
      unfold ts
      rcases this with z | z <;> rw [z]
    rw [tsx, Int.one_mul] at P
    cases e : combF.val x with
    | none => exact ⟨0, fun k k0 => by rw [P k k0, e]; rfl⟩
    | some a =>
      have a0 : 0 ≤ a := by
        have ec := val_class combF_ok.tk.t0 (show (combF.head.length : Int) ≤ x from hx)
        have k0 : 0 ≤ (x - combF.head.length) % (combF.tail.length : Int) := Int.emod_nonneg _ (by decide)
        have k1 : (x - combF.head.length) % (combF.tail.length : Int) < combF.tail.length := Int.emod_lt_of_pos _ (by decide)
        have j0 : 0 ≤ (x - combF.head.length) / (combF.tail.length : Int) := Int.ediv_nonneg (by show 0 ≤ x - ((0 : Nat) : Int); omega) (by decide)
        rw [val_first k0 k1, e] at ec
        have this : tailAt combF.tail ((x - combF.head.length) % combF.tail.length) ∈ [(some (0 : Int), (1 : Int)), (some 7, 1)] := tailAt_mem combF_ok.tk.t0 _
        simp only [List.mem_cons, List.not_mem_nil, or_false] at this
        unfold ts at ec
        generalize (x - combF.head.length) / (combF.tail.length : Int) = j at *
        rcases this with z | z
        · rw [z] at ec
          have ec : a = 0 + 1 * j := Option.some.inj ec
          omega
        · rw [z] at ec
          have ec : a = 7 + 1 * j := Option.some.inj ec
          omega
      refine ⟨u, fun k k0 => ?_⟩
      rw [P k k0, e]
      show some (dueV 1 u 0 (a + u * k - -1)) = some (dueV 1 u 0 (a - -1) + u * k)
      congr 1
      have := due_rise R (m := a - -1) (s := u) (k := k) (by show trgD 1 0 ≤ _; rw [show trgD 1 0 = 1 by decide]; omega) (Int.mul_nonneg (by omega) k0) (by rw [Int.mul_one]; exact Int.dvd_refl _)
      rw [Int.one_mul] at this
      rw [show a + (u : Int) * k - -1 = a - -1 + u * k by omega]
      exact this
  refine ⟨R, combF_ok, by decide, by decide, fun hb r ⟨g, m, hg, gn, _, gv, hm, h⟩ => ?_, fun hb r ⟨g, m, hg, gn, _, gv, hm, h⟩ => ?_⟩
  · have hb := of_decide_eq_true hb
    have := per g m hg gn gv hm
    rcases h with ⟨e, _⟩ | ⟨h, e, hle, _⟩
    · exact e
    · omega
  · have hb := of_decide_eq_false hb
    have := per g m hg gn gv hm
    rcases h with ⟨e, hno⟩ | ⟨h, e, _, hk, hn, h1, h2, hv⟩
    · exact ((hno (by omega)).no (len := 0) (p := 2 * u) (by omega) (by decide) lin).elim
    · refine ⟨h, e, hk, ?_, hv⟩
      obtain ⟨sl, hs⟩ := Classical.axiomOfChoice fun i : Nat => lin (((0 : Nat) : Int) + i) (by omega)
      obtain ⟨l1, l2⟩ := linF_len (v := fun x => dueO 1 u 0 (-1) (combF.val x)) (len := 0) (p := 2 * u) (sl := sl)
      have := norm_head_le hk hn (g := linF (fun x => dueO 1 u 0 (-1) (combF.val x)) 0 (2 * u) sl) (by omega) fun x x0 => by
        rw [hv x x0]
        exact (linF_val (v := fun x => dueO 1 u 0 (-1) (combF.val x)) (by omega) (fun i _ => hs i) x x0).symm
      rw [l1] at this
      omega

theorem len_law_told (C : Ct) : ∀ ds M Q E, sp_law_told C ds M Q E → ds.length = 3 := by rintro _ _ _ _ ⟨_, _, _, _, _, _, rfl, _⟩; rfl
theorem rd_law_told (C : Ct) : Rds (t_law_told C) n_law_told (sp_law_told C) := by
  rintro _ M Q E ⟨F, U, L, paid, f, N, rfl, R, hf, hN, hp, q⟩
  show t_law_told C _ [some (encR F U L), some f.enc, some (.int paid)] M
  unfold t_law_told
  refine s_try ?_
  walk_at "g"
  refine s_callS ?_
  walk_at "g"
  refine s_kcallS ?_
  refine ⟨F, U, L, paid, f, N, rfl, R, hf, hN, hp, fun g hg gn gl gv m hm => ⟨fun hlt => ⟨rfl, ?_⟩, fun hle => ⟨fun h k n l t v => ?_, fun hno => ⟨rfl, ?_⟩⟩⟩⟩
  · walk_at "g"
    exact s_end (q _ ⟨g, m, hg, gn, gl, gv, hm, .inl ⟨rfl, fun z => by omega⟩⟩)
  · walk_at "g"
    exact s_end (q _ ⟨g, m, hg, gn, gl, gv, hm, .inr ⟨h, rfl, hle, k, n, l, t, v⟩⟩)
  · walk_at "g"
    exact s_end (q _ ⟨g, m, hg, gn, gl, gv, hm, .inl ⟨rfl, fun _ => hno⟩⟩)
def encC (F U L paid : Int) (f : Frm) (len : Nat) (b : Bool) : D := .tup [encR F U L, f.enc, .int paid, .int len, .bl b]
theorem s_ixMemR {x : D} {xs : List D} {d : Int} {M : Mp} {Q : QD} (e : sqOf M x = some xs) (h0 : ∀ z, x ≠ .str z) (d0 : 0 ≤ d) (d1 : d < xs.length) (h : ∀ y ∈ xs, Q y M) : dIx x (.int d) M Q := by
  have hk : d.toNat < xs.length := by omega
  exact s_ix (d := xs[d.toNat]) e (by rw [atI_toNat d0, List.getElem?_eq_getElem hk]) (h _ (List.getElem_mem hk))
theorem bounds_c10 (C : Ct) {xs : List D} {a t : Addr} {x1 x2 x3 x4 x5 x7 : Option D} {M0 M : Mp} {Q : QD} (hx : ∀ x ∈ xs, ∃ F U L paid f len b, x = encC F U L paid f len b ∧ CaseR F U L paid f len b) (hl : xs.length = 3) (G : Gr M0 a t xs M) (hat : a ≠ t) (ht : M0 t = none) (q : ∀ M', Drawn M0 a M' → Q (.bl true) M') :
    t_law_bounds_hold_c10 C (fnE Q) [some (.ref a), x1, x2, x3, x4, x5, some (.ref t), x7, none, none, none, none, none, none, none] M := by
  unfold t_law_bounds_hold_c10
  have p190 : (2 : Int) ^ 190 < 2 ^ 200 := by decide
  walk_at "g"
  refine ⟨a, 3, rfl, by decide, by decide, G.st, fun d M1 d0 d1 D1 => ?_⟩
  have G := G.drawn hat D1
  refine s_kop2 ?_
  refine s_ixMemR (sqOf_ref G.at') (fun z e => by cases e) d0 (by omega) fun x hm => ?_
  obtain ⟨F, U, L, paid, f, len, b, rfl, c⟩ := hx x hm
  have cln := c.ln
  unfold encC
  walk_at "g"
  refine ⟨F, U, L, paid, f, 100, rfl, c.R, c.k, by decide, c.p, fun r hr => ?_⟩
  cases b with
  | true =>
    obtain rfl := c.big rfl r hr
    walk_at "w"
    exact (G.kp hat ht).end q
  | false =>
    obtain ⟨h, rfl, hk, hhl, hv⟩ := c.sml rfl r hr
    walk_at "w"
    · rename_i z
      exact absurd rfl z
    refine ⟨h, rfl, hk.tk.t0, fun p hp => (hk.tk.th p hp).2.2, ?_⟩
    walk_at "w"
    · rename_i z
      rw [List.length_map, hhl] at z
      exact absurd rfl z
    refine ⟨a, 4000, rfl, by decide, by decide, G.st, fun e1 M2 e10 e11 D2 => ?_⟩
    have G := G.drawn hat D2
    walk_at "g"
    refine ⟨a, rfl, G.st, fun e2 M3 e20 e21 D3 => ?_⟩
    have G := G.drawn hat D3
    walk_at "g"
    obtain ⟨ps, eps, hps⟩ : ∃ ps : List Int, [D.int 0, .int 1, .int (if (len : Int) - 1 > 0 then (len : Int) - 1 else 0), .int len, .int ((len : Int) + 1), .int ((len : Int) + 2000), .int e1, .int e2] = ps.map .int ∧ ∀ i ∈ ps, 0 ≤ i ∧ i < 2 ^ 190 := by
      have p20 : (2000000 : Int) < 2 ^ 190 := by decide
      refine ⟨[0, 1, (if (len : Int) - 1 > 0 then (len : Int) - 1 else 0), len, (len : Int) + 1, (len : Int) + 2000, e1, e2], rfl, fun i hi => ?_⟩
      simp only [List.mem_cons, List.not_mem_nil, or_false] at hi
      rcases hi with rfl | rfl | rfl | rfl | rfl | rfl | rfl | rfl <;> first | omega | (split <;> omega)
    rw [eps]
    refine s_kforT (ds := ps.map .int) (fun k τ M' => M' = M3 ∧ ∃ x14, τ = [some (.ref a), x1, x2, x3, x4, some (.int paid), some (.ref t), x7, some (encR F U L), some f.enc, some (.int len), some (.bl false), some (.str "told"), some h.enc, x14]) (fun _ => rfl) ⟨rfl, _, rfl⟩ (fun k d τ M' hd ⟨eM, x14, eτ⟩ => ?_) (fun τ M' ⟨eM, x14, eτ⟩ => ?_)
    · subst eM; subst eτ
      obtain ⟨i, hi, rfl⟩ : ∃ i, i ∈ ps ∧ d = .int i := by
        obtain ⟨i, hi, e⟩ := List.mem_map.mp (List.mem_of_getElem? hd)
        exact ⟨i, hi, e.symm⟩
      obtain ⟨i0, i1⟩ := hps i hi
      refine s_gname ?_
      walk_at "g"
      refine hk.val_at (m := 200) (by omega) (by decide) (by decide) ?_
      walk_at "g"
      refine ⟨f, 100, i, paid, rfl, c.k, by decide, by omega, ?_⟩
      walk_at "g"
      refine ⟨F, U, L, _, rfl, c.R, ?_⟩
      rw [due_map, hv i i0]
      walk_at "g"
      refine s_neS (scal_O _ _) ?_
      rw [decide_eq_true rfl]
      walk_at "w"
      exact ⟨trivial, _, rfl⟩
    · subst eM; subst eτ
      walk_at "g"
      exact (G.kp hat ht).end q
theorem bounds_last (C : Ct) {a : Addr} {L : Int} {near : Nat} {M0 M5 : Mp} {Q : QD} (hL : 0 ≤ L ∧ L ≤ 901) (n0 : 998 ≤ near) (n1 : near ≤ 6000) (D5 : Drawn M0 a M5) (q : ∀ M', Drawn M0 a M' → Q (.bl true) M') : dSeq (dSet 3 (dOp dAdd (dC (.int 1)) (dCall sp_law_draw E0D (dCons (dVar 0) (dCons (dC (.int 10)) dNil)))))
    (dSeq (dSet 4 (dOp dFdiv (dOp dSub (dOp dAdd (dVar 2) (dVar 3)) (dC (.int 1))) (dVar 3)))
    (dSeq (dSet 5 (dOp dSub (dVar 1) (dOp dMul (dVar 4) (dCB dInt (dCons (dOp dGt (dVar 4) (dC (.int 1))) dNil)))))
    (t_law_bounds_hold_c6 C))) (fnE Q) [some (.ref a), some (.int near), some (.int L), none, none, none, none, none, none, none, none, none, none, none, none] M5 := by
  walk_at "g"
  refine ⟨a, 10, rfl, by decide, by decide, D5.ok, fun d5 M6 d50 d51 D6 => ?_⟩
  have D5 := D5.trans D6
  walk_at "g"
  refine s_I ⟨by omega, log2_20 (Nat.lt_of_lt_of_le (m := 1001) (by omega) (by decide))⟩ ?_
  walk_at "g"
  obtain ⟨F, eF⟩ : ∃ F : Int, 1 + d5 = F := ⟨_, rfl⟩
  have f0 : 1 ≤ F := by omega
  have f1 : F ≤ 10 := by omega
  rw [eF]
  have c0 := case0 (near := near) f0 f1 hL.1 hL.2 n0 n1
  have c1 := case1 (near := near) f0 f1 n0 n1
  refine s_mul (.inl (.inr (by split <;> decide))) ?_
  walk_at "g"
  unfold t_law_bounds_hold_c6
  walk_at "g"
  refine fun t ht => ?_
  obtain ⟨hat, G⟩ := Gr.start D5 ht
  have ht0 : M0 t = none := by rw [← D5.same t (Ne.symm hat)]; exact ht
  have hb : decide ((4000 : Int) < (near : Int)) = decide (near > 4000) := decide_eq_decide.mpr (by omega)
  rw [hb]
  have G := G.add hat [encC F 1 L ((near : Int) - (L + F - 1) / F * (if decide ((L + F - 1) / F > 1) = true then 1 else 0)) (lineF 0 1) near (decide (near > 4000))]
  rw [updM_updM] at G
  show kSet _ 6 _ (.ref t) (updM M6 t (.lst [encC F 1 L ((near : Int) - (L + F - 1) / F * (if decide ((L + F - 1) / F > 1) = true then 1 else 0)) (lineF 0 1) near (decide (near > 4000))]))
  obtain ⟨y0, hy0⟩ : ∃ y0, encC F 1 L ((near : Int) - (L + F - 1) / F * (if decide ((L + F - 1) / F > 1) = true then 1 else 0)) (lineF 0 1) near (decide (near > 4000)) = y0 := ⟨_, rfl⟩
  rw [hy0] at G ⊢
  generalize updM M6 t (.lst [y0]) = M7 at *
  have hGt := G.at'
  walk_at "g"
  refine s_append G.at' (show 1 < sizeLine by decide) ?_
  rw [hb]
  have G := G.add hat ([y0] ++ [encC F 1 0 9 (lineF ((near : Int) + 9) (-1)) near (decide (near > 4000))])
  show kDrop _ _ _ (updM M7 t (.lst ([y0] ++ [encC F 1 0 9 (lineF ((near : Int) + 9) (-1)) near (decide (near > 4000))])))
  obtain ⟨y1, hy1⟩ : ∃ y1, encC F 1 0 9 (lineF ((near : Int) + 9) (-1)) near (decide (near > 4000)) = y1 := ⟨_, rfl⟩
  rw [hy1] at G ⊢
  generalize updM M7 t (.lst ([y0] ++ [y1])) = M8 at *
  walk_at "g"
  refine ⟨a, 5, rfl, by decide, by decide, G.st, fun d6 M9 d60 d61 D9 => ?_⟩
  have G := G.drawn hat D9
  obtain ⟨u, eu⟩ : ∃ u : Nat, 500 + d6 - 2 = (u : Int) := Int.eq_ofNat_of_zero_le (by omega)
  have c2 := case2 (u := u) (by omega) (by omega)
  refine s_kop2 ?_
  refine s_add ?_
  refine s_kop1 ?_
  refine s_c ?_
  refine s_kop2 ?_
  refine s_I0 ?_
  rw [eu]
  have hGt := G.at'
  walk_at "g"
  unfold t_law_bounds_hold_c9
  walk_at "g"
  refine s_mul (.inl (.inl (sm64 (by omega)))) ?_
  walk_at "g"
  refine s_append G.at' (show 2 < sizeLine by decide) ?_
  have G := G.add hat ([y0] ++ [y1] ++ [encC 1 u 0 (-1) combF 0 (decide ((2 : Int) * u > 1000))])
  show kDrop _ _ _ (updM M9 t (.lst ([y0] ++ [y1] ++ [encC 1 u 0 (-1) combF 0 (decide ((2 : Int) * u > 1000))])))
  generalize updM M9 t (.lst ([y0] ++ [y1] ++ [encC 1 u 0 (-1) combF 0 (decide ((2 : Int) * u > 1000))])) = M10 at *
  walk_at "g"
  refine bounds_c10 C (fun x hx => ?_) rfl G hat ht0 q
  simp only [List.cons_append, List.nil_append, List.mem_cons, List.not_mem_nil, or_false] at hx
  rcases hx with rfl | rfl | rfl
  · exact ⟨_, _, _, _, _, _, _, hy0.symm, c0⟩
  · exact ⟨_, _, _, _, _, _, _, hy1.symm, c1⟩
  · exact ⟨_, _, _, _, _, _, _, rfl, c2⟩
theorem len_law_bounds_hold : ∀ ds M Q E, sp_law_bounds_hold ds M Q E → ds.length = 1 := by rintro _ _ _ _ ⟨_, rfl, _⟩; rfl
theorem rd_law_bounds_hold (C : Ct) : Rds (t_law_bounds_hold C) n_law_bounds_hold sp_law_bounds_hold := by
  rintro _ M0 Q E ⟨a, rfl, st, q⟩
  show t_law_bounds_hold C _ [some (.ref a), none, none, none, none, none, none, none, none, none, none, none, none, none, none] M0
  unfold t_law_bounds_hold
  walk_at "g"
  refine ⟨a, 5, rfl, by decide, by decide, st, fun d1 M1 d10 d11 D1 => ?_⟩
  walk_at "g"
  obtain ⟨n1, en1, h1, h2⟩ : ∃ n1 : Nat, (if 4000 + d1 - 2 > 1 then 4000 + d1 - 2 else 1) = (n1 : Int) ∧ 998 ≤ n1 ∧ n1 ≤ 6000 := ⟨(4000 + d1 - 2).toNat, by rw [if_pos (by omega)]; omega, by omega, by omega⟩
  rw [en1]
  walk_at "g"
  refine ⟨a, 900, rfl, by decide, by decide, D1.ok, fun d2 M2 d20 d21 D2 => ?_⟩
  walk_at "g"
  refine ⟨a, 3, rfl, by decide, by decide, D2.ok, fun d3 M3 d30 d31 D3 => ?_⟩
  refine s_kop2 ?_
  refine s_ixAny (is := [0, 1, 2 + d2]) d30 d31 fun L hL => ?_
  have hL : 0 ≤ L ∧ L ≤ 901 := by
    simp only [List.mem_cons, List.not_mem_nil, or_false] at hL
    rcases hL with rfl | rfl | rfl <;> omega
  walk_at "g"
  refine ⟨a, 3, rfl, by decide, by decide, D3.ok, fun d4 M4 d40 d41 D4 => ?_⟩
  have DD := D1.trans (D2.trans (D3.trans D4))
  refine s_kop1 ?_
  refine s_c ?_
  refine s_kop2 ?_
  refine s_eqS rfl ?_
  refine s_kb ?_
  refine b_dec (fun hc => ?_) (fun hc => ?_)
  · walk_at "g"
    refine ⟨a, 5000, rfl, by decide, by decide, DD.ok, fun d5 M5 d50 d51 D5 => ?_⟩
    obtain ⟨n2, en2⟩ : ∃ n2 : Nat, 1000 + d5 = (n2 : Int) := Int.eq_ofNat_of_zero_le (by omega)
    refine s_kop2 ?_
    refine s_add ?_
    rw [en2]
    refine s_kset rfl ?_
    exact bounds_last C hL (by omega) (by omega) (DD.trans D5) q
  · refine s_next ?_
    exact bounds_last C hL (by omega) (by omega) DD q
theorem len_law : ∀ ds M Q E, sp_law ds M Q E → ds.length = 1 := by rintro _ _ _ _ ⟨_, rfl, _⟩; rfl
theorem rd_law : Rds t_law n_law sp_law := by
  rintro _ M Q E ⟨ns, rfl, hl, q⟩
  show t_law _ [some (.lsk (ns.map .int)), none, none] M
  unfold t_law
  walk_at "g"
  refine ⟨ns, rfl, hl, fun a M1 ha st hs => ?_⟩
  walk_at "g"
  refine ⟨a, rfl, st, fun F U L M2 R D2 => ?_⟩
  walk_at "g"
  refine ⟨a, F, U, L, rfl, R, D2.ok, fun M3 D3 => ?_⟩
  walk_at "g"
  refine ⟨a, F, U, L, rfl, R, D3.ok, fun M4 D4 => ?_⟩
  walk_at "g"
  refine ⟨a, rfl, D4.ok, fun M5 D5 => ?_⟩
  exact s_end (q _ _ rfl)

def topS (i : Nat) : Stmt := PySem.Challenge.pw_postsooth_k27_whole_what_is_due_for_all.main.body.getD i (.Pass ⟨0, 0, 0, 0⟩)
abbrev s_value_at : Stmt := topS 7
theorem sc_value_at : FnScope n_value_at ["form", "x"] (defScope s_value_at) := ⟨rfl, rfl, rfl, by decide +kernel, rfl, by decide +kernel, by decide +kernel⟩
abbrev s_has_period : Stmt := topS 8
theorem sc_has_period : FnScope n_has_period ["tail", "size"] (defScope s_has_period) := ⟨rfl, rfl, rfl, by decide +kernel, rfl, by decide +kernel, by decide +kernel⟩
abbrev s_shortest_tail : Stmt := topS 9
theorem sc_shortest_tail : FnScope n_shortest_tail ["tail"] (defScope s_shortest_tail) := ⟨rfl, rfl, rfl, by decide +kernel, rfl, by decide +kernel, by decide +kernel⟩
abbrev s_continued : Stmt := topS 10
theorem sc_continued : FnScope n_continued ["tail", "places"] (defScope s_continued) := ⟨rfl, rfl, rfl, by decide +kernel, rfl, by decide +kernel, by decide +kernel⟩
abbrev s_normal : Stmt := topS 11
theorem sc_normal : FnScope n_normal ["form"] (defScope s_normal) := ⟨rfl, rfl, rfl, by decide +kernel, rfl, by decide +kernel, by decide +kernel⟩
abbrev s_check_period : Stmt := topS 12
theorem sc_check_period : FnScope n_check_period ["period"] (defScope s_check_period) := ⟨rfl, rfl, rfl, by decide +kernel, rfl, by decide +kernel, by decide +kernel⟩
abbrev s_first_of_class : Stmt := topS 13
theorem sc_first_of_class : FnScope n_first_of_class ["rest", "least", "period"] (defScope s_first_of_class) := ⟨rfl, rfl, rfl, by decide +kernel, rfl, by decide +kernel, by decide +kernel⟩
abbrev s_line : Stmt := topS 14
theorem sc_line : FnScope n_line ["period", "tell", "start"] (defScope s_line) := ⟨rfl, rfl, rfl, by decide +kernel, rfl, by decide +kernel, by decide +kernel⟩
abbrev s_assemble : Stmt := topS 15
theorem sc_assemble : FnScope n_assemble ["period", "tell", "starts"] (defScope s_assemble) := ⟨rfl, rfl, rfl, by decide +kernel, rfl, by decide +kernel, by decide +kernel⟩
abbrev s_line_at : Stmt := topS 17
theorem sc_line_at : FnScope n_line_at ["form", "x", "period"] (defScope s_line_at) := ⟨rfl, rfl, rfl, by decide +kernel, rfl, by decide +kernel, by decide +kernel⟩
abbrev s_own_starts : Stmt := topS 18
theorem sc_own_starts : FnScope n_own_starts ["form", "period"] (defScope s_own_starts) := ⟨rfl, rfl, rfl, by decide +kernel, rfl, by decide +kernel, by decide +kernel⟩
abbrev s_round_period : Stmt := topS 19
theorem sc_round_period : FnScope n_round_period ["form", "unit", "factor", "rising"] (defScope s_round_period) := ⟨rfl, rfl, rfl, by decide +kernel, rfl, by decide +kernel, by decide +kernel⟩
abbrev s_due_of : Stmt := topS 21
theorem sc_due_of : FnScope n_due_of ["rule", "missing"] (defScope s_due_of) := ⟨rfl, rfl, rfl, by decide +kernel, rfl, by decide +kernel, by decide +kernel⟩
abbrev s_due_value : Stmt := topS 22
theorem sc_due_value : FnScope n_due_value ["rule", "value", "paid"] (defScope s_due_value) := ⟨rfl, rfl, rfl, by decide +kernel, rfl, by decide +kernel, by decide +kernel⟩
abbrev s_settled_due : Stmt := topS 23
theorem sc_settled_due : FnScope n_settled_due ["rule", "missing", "step"] (defScope s_settled_due) := ⟨rfl, rfl, rfl, by decide +kernel, rfl, by decide +kernel, by decide +kernel⟩
abbrev s_due_form : Stmt := topS 24
theorem sc_due_form : FnScope n_due_form ["rule", "a", "paid"] (defScope s_due_form) := ⟨rfl, rfl, rfl, by decide +kernel, rfl, by decide +kernel, by decide +kernel⟩
abbrev s_law_state : Stmt := topS 26
theorem sc_law_state : FnScope n_law_state ["script"] (defScope s_law_state) := ⟨rfl, rfl, rfl, by decide +kernel, rfl, by decide +kernel, by decide +kernel⟩
abbrev s_law_draw : Stmt := topS 27
theorem sc_law_draw : FnScope n_law_draw ["state", "limit"] (defScope s_law_draw) := ⟨rfl, rfl, rfl, by decide +kernel, rfl, by decide +kernel, by decide +kernel⟩
abbrev s_law_far : Stmt := topS 28
theorem sc_law_far : FnScope n_law_far ["state"] (defScope s_law_far) := ⟨rfl, rfl, rfl, by decide +kernel, rfl, by decide +kernel, by decide +kernel⟩
abbrev s_law_value : Stmt := topS 29
theorem sc_law_value : FnScope n_law_value ["form", "x"] (defScope s_law_value) := ⟨rfl, rfl, rfl, by decide +kernel, rfl, by decide +kernel, by decide +kernel⟩
abbrev s_law_stretched : Stmt := topS 30
theorem sc_law_stretched : FnScope n_law_stretched ["state", "form"] (defScope s_law_stretched) := ⟨rfl, rfl, rfl, by decide +kernel, rfl, by decide +kernel, by decide +kernel⟩
abbrev s_law_int : Stmt := topS 31
theorem sc_law_int : FnScope n_law_int ["value"] (defScope s_law_int) := ⟨rfl, rfl, rfl, by decide +kernel, rfl, by decide +kernel, by decide +kernel⟩
abbrev s_law_is_form : Stmt := topS 32
theorem sc_law_is_form : FnScope n_law_is_form ["form"] (defScope s_law_is_form) := ⟨rfl, rfl, rfl, by decide +kernel, rfl, by decide +kernel, by decide +kernel⟩
abbrev s_law_is_even : Stmt := topS 33
theorem sc_law_is_even : FnScope n_law_is_even ["form", "size"] (defScope s_law_is_even) := ⟨rfl, rfl, rfl, by decide +kernel, rfl, by decide +kernel, by decide +kernel⟩
abbrev s_law_is_normal : Stmt := topS 34
theorem sc_law_is_normal : FnScope n_law_is_normal ["form"] (defScope s_law_is_normal) := ⟨rfl, rfl, rfl, by decide +kernel, rfl, by decide +kernel, by decide +kernel⟩
abbrev s_law_rule : Stmt := topS 35
theorem sc_law_rule : FnScope n_law_rule ["state"] (defScope s_law_rule) := ⟨rfl, rfl, rfl, by decide +kernel, rfl, by decide +kernel, by decide +kernel⟩
abbrev s_law_due : Stmt := topS 36
theorem sc_law_due : FnScope n_law_due ["rule", "missing"] (defScope s_law_due) := ⟨rfl, rfl, rfl, by decide +kernel, rfl, by decide +kernel, by decide +kernel⟩
abbrev s_law_is : Stmt := topS 37
theorem sc_law_is : FnScope n_law_is ["told", "due"] (defScope s_law_is) := ⟨rfl, rfl, rfl, by decide +kernel, rfl, by decide +kernel, by decide +kernel⟩
abbrev s_law_amounts_hold : Stmt := topS 38
theorem sc_law_amounts_hold : FnScope n_law_amounts_hold ["state", "rule"] (defScope s_law_amounts_hold) := ⟨rfl, rfl, rfl, by decide +kernel, rfl, by decide +kernel, by decide +kernel⟩
abbrev s_law_common : Stmt := topS 39
theorem sc_law_common : FnScope n_law_common ["one", "two"] (defScope s_law_common) := ⟨rfl, rfl, rfl, by decide +kernel, rfl, by decide +kernel, by decide +kernel⟩
abbrev s_law_period : Stmt := topS 40
theorem sc_law_period : FnScope n_law_period ["rule", "form"] (defScope s_law_period) := ⟨rfl, rfl, rfl, by decide +kernel, rfl, by decide +kernel, by decide +kernel⟩
abbrev s_law_less : Stmt := topS 41
theorem sc_law_less : FnScope n_law_less ["form", "x", "paid"] (defScope s_law_less) := ⟨rfl, rfl, rfl, by decide +kernel, rfl, by decide +kernel, by decide +kernel⟩
abbrev s_law_low : Stmt := topS 42
theorem sc_law_low : FnScope n_law_low ["state"] (defScope s_law_low) := ⟨rfl, rfl, rfl, by decide +kernel, rfl, by decide +kernel, by decide +kernel⟩
abbrev s_law_forms_hold : Stmt := topS 43
theorem sc_law_forms_hold : FnScope n_law_forms_hold ["state", "rule"] (defScope s_law_forms_hold) := ⟨rfl, rfl, rfl, by decide +kernel, rfl, by decide +kernel, by decide +kernel⟩
abbrev s_law_told : Stmt := topS 44
theorem sc_law_told : FnScope n_law_told ["rule", "form", "paid"] (defScope s_law_told) := ⟨rfl, rfl, rfl, by decide +kernel, rfl, by decide +kernel, by decide +kernel⟩
abbrev s_law_bounds_hold : Stmt := topS 45
theorem sc_law_bounds_hold : FnScope n_law_bounds_hold ["state"] (defScope s_law_bounds_hold) := ⟨rfl, rfl, rfl, by decide +kernel, rfl, by decide +kernel, by decide +kernel⟩
abbrev s_law : Stmt := topS 46
theorem sc_law : FnScope n_law ["script"] (defScope s_law) := ⟨rfl, rfl, rfl, by decide +kernel, rfl, by decide +kernel, by decide +kernel⟩
structure Tx (K : PySem.W.Frag) (mg : Str → Option Value) (base : Heap) (tb : List (Addr × Str)) where
  f_value_at : Addr
  d_value_at : FuncData
  F_value_at : Fun K "value_at" "value_at" s_value_at f_value_at d_value_at
  g_value_at : mg "value_at" = some (.ref f_value_at)
  b_value_at : Binds K d_value_at ["form", "x"] []
  f_has_period : Addr
  d_has_period : FuncData
  F_has_period : Fun K "_has_period" "_has_period" s_has_period f_has_period d_has_period
  g_has_period : mg "_has_period" = some (.ref f_has_period)
  b_has_period : Binds K d_has_period ["tail", "size"] []
  f_shortest_tail : Addr
  d_shortest_tail : FuncData
  F_shortest_tail : Fun K "_shortest_tail" "_shortest_tail" s_shortest_tail f_shortest_tail d_shortest_tail
  g_shortest_tail : mg "_shortest_tail" = some (.ref f_shortest_tail)
  b_shortest_tail : Binds K d_shortest_tail ["tail"] []
  f_continued : Addr
  d_continued : FuncData
  F_continued : Fun K "_continued" "_continued" s_continued f_continued d_continued
  g_continued : mg "_continued" = some (.ref f_continued)
  b_continued : Binds K d_continued ["tail", "places"] []
  f_normal : Addr
  d_normal : FuncData
  F_normal : Fun K "normal" "normal" s_normal f_normal d_normal
  g_normal : mg "normal" = some (.ref f_normal)
  b_normal : Binds K d_normal ["form"] []
  f_check_period : Addr
  d_check_period : FuncData
  F_check_period : Fun K "check_period" "check_period" s_check_period f_check_period d_check_period
  g_check_period : mg "check_period" = some (.ref f_check_period)
  b_check_period : Binds K d_check_period ["period"] []
  f_first_of_class : Addr
  d_first_of_class : FuncData
  F_first_of_class : Fun K "first_of_class" "first_of_class" s_first_of_class f_first_of_class d_first_of_class
  g_first_of_class : mg "first_of_class" = some (.ref f_first_of_class)
  b_first_of_class : Binds K d_first_of_class ["rest", "least", "period"] []
  f_line : Addr
  d_line : FuncData
  F_line : Fun K "_line" "_line" s_line f_line d_line
  g_line : mg "_line" = some (.ref f_line)
  b_line : Binds K d_line ["period", "tell", "start"] []
  f_assemble : Addr
  d_assemble : FuncData
  F_assemble : Fun K "assemble" "assemble" s_assemble f_assemble d_assemble
  g_assemble : mg "assemble" = some (.ref f_assemble)
  b_assemble : Binds K d_assemble ["period", "tell", "starts"] []
  f_line_at : Addr
  d_line_at : FuncData
  F_line_at : Fun K "line_at" "line_at" s_line_at f_line_at d_line_at
  g_line_at : mg "line_at" = some (.ref f_line_at)
  b_line_at : Binds K d_line_at ["form", "x", "period"] []
  f_own_starts : Addr
  d_own_starts : FuncData
  F_own_starts : Fun K "own_starts" "own_starts" s_own_starts f_own_starts d_own_starts
  g_own_starts : mg "own_starts" = some (.ref f_own_starts)
  b_own_starts : Binds K d_own_starts ["form", "period"] []
  f_round_period : Addr
  d_round_period : FuncData
  F_round_period : Fun K "round_period" "round_period" s_round_period f_round_period d_round_period
  g_round_period : mg "round_period" = some (.ref f_round_period)
  b_round_period : Binds K d_round_period ["form", "unit", "factor", "rising"] []
  f_due_of : Addr
  d_due_of : FuncData
  F_due_of : Fun K "due_of" "due_of" s_due_of f_due_of d_due_of
  g_due_of : mg "due_of" = some (.ref f_due_of)
  b_due_of : Binds K d_due_of ["rule", "missing"] []
  f_due_value : Addr
  d_due_value : FuncData
  F_due_value : Fun K "_due_value" "_due_value" s_due_value f_due_value d_due_value
  g_due_value : mg "_due_value" = some (.ref f_due_value)
  b_due_value : Binds K d_due_value ["rule", "value", "paid"] []
  f_settled_due : Addr
  d_settled_due : FuncData
  F_settled_due : Fun K "_settled_due" "_settled_due" s_settled_due f_settled_due d_settled_due
  g_settled_due : mg "_settled_due" = some (.ref f_settled_due)
  b_settled_due : Binds K d_settled_due ["rule", "missing", "step"] []
  cc_due_form : Addr
  pp_due_form : Addr
  B_due_form : LamX.TabB base mg cc_due_form pp_due_form
  m_due_form : (pp_due_form, ("due_form" : Str) ++ ".<locals>." ++ "<lambda>") ∈ tb
  f_due_form : Addr
  d_due_form : FuncData
  F_due_form : FunC K "due_form" "due_form" s_due_form f_due_form d_due_form cc_due_form
  g_due_form : mg "due_form" = some (.ref f_due_form)
  b_due_form : Binds K d_due_form ["rule", "a", "paid"] []
  f_law_state : Addr
  d_law_state : FuncData
  F_law_state : Fun K "_law_state" "_law_state" s_law_state f_law_state d_law_state
  g_law_state : mg "_law_state" = some (.ref f_law_state)
  b_law_state : Binds K d_law_state ["script"] []
  f_law_draw : Addr
  d_law_draw : FuncData
  F_law_draw : Fun K "_law_draw" "_law_draw" s_law_draw f_law_draw d_law_draw
  g_law_draw : mg "_law_draw" = some (.ref f_law_draw)
  b_law_draw : Binds K d_law_draw ["state", "limit"] []
  f_law_far : Addr
  d_law_far : FuncData
  F_law_far : Fun K "_law_far" "_law_far" s_law_far f_law_far d_law_far
  g_law_far : mg "_law_far" = some (.ref f_law_far)
  b_law_far : Binds K d_law_far ["state"] []
  f_law_value : Addr
  d_law_value : FuncData
  F_law_value : Fun K "_law_value" "_law_value" s_law_value f_law_value d_law_value
  g_law_value : mg "_law_value" = some (.ref f_law_value)
  b_law_value : Binds K d_law_value ["form", "x"] []
  f_law_stretched : Addr
  d_law_stretched : FuncData
  F_law_stretched : Fun K "_law_stretched" "_law_stretched" s_law_stretched f_law_stretched d_law_stretched
  g_law_stretched : mg "_law_stretched" = some (.ref f_law_stretched)
  b_law_stretched : Binds K d_law_stretched ["state", "form"] []
  f_law_int : Addr
  d_law_int : FuncData
  F_law_int : Fun K "_law_int" "_law_int" s_law_int f_law_int d_law_int
  g_law_int : mg "_law_int" = some (.ref f_law_int)
  b_law_int : Binds K d_law_int ["value"] []
  f_law_is_form : Addr
  d_law_is_form : FuncData
  F_law_is_form : Fun K "_law_is_form" "_law_is_form" s_law_is_form f_law_is_form d_law_is_form
  g_law_is_form : mg "_law_is_form" = some (.ref f_law_is_form)
  b_law_is_form : Binds K d_law_is_form ["form"] []
  f_law_is_even : Addr
  d_law_is_even : FuncData
  F_law_is_even : Fun K "_law_is_even" "_law_is_even" s_law_is_even f_law_is_even d_law_is_even
  g_law_is_even : mg "_law_is_even" = some (.ref f_law_is_even)
  b_law_is_even : Binds K d_law_is_even ["form", "size"] []
  f_law_is_normal : Addr
  d_law_is_normal : FuncData
  F_law_is_normal : Fun K "_law_is_normal" "_law_is_normal" s_law_is_normal f_law_is_normal d_law_is_normal
  g_law_is_normal : mg "_law_is_normal" = some (.ref f_law_is_normal)
  b_law_is_normal : Binds K d_law_is_normal ["form"] []
  f_law_rule : Addr
  d_law_rule : FuncData
  F_law_rule : Fun K "_law_rule" "_law_rule" s_law_rule f_law_rule d_law_rule
  g_law_rule : mg "_law_rule" = some (.ref f_law_rule)
  b_law_rule : Binds K d_law_rule ["state"] []
  f_law_due : Addr
  d_law_due : FuncData
  F_law_due : Fun K "_law_due" "_law_due" s_law_due f_law_due d_law_due
  g_law_due : mg "_law_due" = some (.ref f_law_due)
  b_law_due : Binds K d_law_due ["rule", "missing"] []
  f_law_is : Addr
  d_law_is : FuncData
  F_law_is : Fun K "_law_is" "_law_is" s_law_is f_law_is d_law_is
  g_law_is : mg "_law_is" = some (.ref f_law_is)
  b_law_is : Binds K d_law_is ["told", "due"] []
  f_law_amounts_hold : Addr
  d_law_amounts_hold : FuncData
  F_law_amounts_hold : Fun K "_law_amounts_hold" "_law_amounts_hold" s_law_amounts_hold f_law_amounts_hold d_law_amounts_hold
  g_law_amounts_hold : mg "_law_amounts_hold" = some (.ref f_law_amounts_hold)
  b_law_amounts_hold : Binds K d_law_amounts_hold ["state", "rule"] []
  f_law_common : Addr
  d_law_common : FuncData
  F_law_common : Fun K "_law_common" "_law_common" s_law_common f_law_common d_law_common
  g_law_common : mg "_law_common" = some (.ref f_law_common)
  b_law_common : Binds K d_law_common ["one", "two"] []
  f_law_period : Addr
  d_law_period : FuncData
  F_law_period : Fun K "_law_period" "_law_period" s_law_period f_law_period d_law_period
  g_law_period : mg "_law_period" = some (.ref f_law_period)
  b_law_period : Binds K d_law_period ["rule", "form"] []
  f_law_less : Addr
  d_law_less : FuncData
  F_law_less : Fun K "_law_less" "_law_less" s_law_less f_law_less d_law_less
  g_law_less : mg "_law_less" = some (.ref f_law_less)
  b_law_less : Binds K d_law_less ["form", "x", "paid"] []
  f_law_low : Addr
  d_law_low : FuncData
  F_law_low : Fun K "_law_low" "_law_low" s_law_low f_law_low d_law_low
  g_law_low : mg "_law_low" = some (.ref f_law_low)
  b_law_low : Binds K d_law_low ["state"] []
  f_law_forms_hold : Addr
  d_law_forms_hold : FuncData
  F_law_forms_hold : Fun K "_law_forms_hold" "_law_forms_hold" s_law_forms_hold f_law_forms_hold d_law_forms_hold
  g_law_forms_hold : mg "_law_forms_hold" = some (.ref f_law_forms_hold)
  b_law_forms_hold : Binds K d_law_forms_hold ["state", "rule"] []
  f_law_told : Addr
  d_law_told : FuncData
  F_law_told : Fun K "_law_told" "_law_told" s_law_told f_law_told d_law_told
  g_law_told : mg "_law_told" = some (.ref f_law_told)
  b_law_told : Binds K d_law_told ["rule", "form", "paid"] []
  f_law_bounds_hold : Addr
  d_law_bounds_hold : FuncData
  F_law_bounds_hold : Fun K "_law_bounds_hold" "_law_bounds_hold" s_law_bounds_hold f_law_bounds_hold d_law_bounds_hold
  g_law_bounds_hold : mg "_law_bounds_hold" = some (.ref f_law_bounds_hold)
  b_law_bounds_hold : Binds K d_law_bounds_hold ["state"] []
  f_law : Addr
  d_law : FuncData
  F_law : Fun K "law" "law" s_law f_law d_law
  g_law : mg "law" = some (.ref f_law)
  b_law : Binds K d_law ["script"] []
  n_bool : mg "bool" = none
  n_int : mg "int" = none
  n_isinstance : mg "isinstance" = none
  n_len : mg "len" = none
  n_list : mg "list" = none
  n_max : mg "max" = none
  n_range : mg "range" = none
  n_tuple : mg "tuple" = none
  m_gcd : mg "gcd" = some (.builtin "math.gcd")
  m_lcm : mg "lcm" = some (.builtin "math.lcm")
  x_TooLarge : ExcD K mg "TooLarge"
  c_MAX_HEAD : CnD K mg "MAX_HEAD" k_MAX_HEAD
  c_MAX_PERIOD : CnD K mg "MAX_PERIOD" k_MAX_PERIOD
section
variable {P : Program} {w : World} {K : PySem.W.Frag} {mg : Str → Option Value} {base : Heap}
theorem ok_value_at (T : Tx K mg base tb) : FnOk P w K mg base CX0 1 T.f_value_at T.d_value_at ["form", "x"] (liSp K tb sp_value_at) :=
  Fun.okD T.F_value_at sc_value_at (len_value_at) (t := t_value_at) (fun cdv A outer s H E F0 R0 hr =>
    (sds_cons (sd_unp rfl (GNames.cons (pg_name (i := 2) sc_value_at.nd rfl (by first | exact Or.inl rfl | exact Or.inr rfl)) (GNames.cons (pg_name (i := 3) sc_value_at.nd rfl (by first | exact Or.inl rfl | exact Or.inr rfl)) GNames.nil rfl) rfl) (dv 0))
    (sds_cons (sd_if (td_cmp od_lt (dv 1) pd_int (nomark _)) (sds_one (sd_ret pd_non)) sds_nil)
    (sds_cons (sd_if (td_cmp od_lt (dv 1) (pd_callB cd_len (by rfl) T.n_len PySem.boot_len (ad_cons (dv 2) ad_nil)) (nomark _)) (sds_one (sd_ret (pd_ix (dv 2) (dv 1) (fun _ _ => rfl)))) sds_nil)
    (sds_cons (sd_set (i := 4) sc_value_at.nd rfl (by first | exact Or.inl rfl | exact Or.inr rfl) (pd_op od_sub (dv 1) (pd_callB cd_len (by rfl) T.n_len PySem.boot_len (ad_cons (dv 2) ad_nil))))
    (sds_cons (sd_unp rfl (GNames.cons (pg_name (i := 5) sc_value_at.nd rfl (by first | exact Or.inl rfl | exact Or.inr rfl)) (GNames.cons (pg_name (i := 6) sc_value_at.nd rfl (by first | exact Or.inl rfl | exact Or.inr rfl)) GNames.nil rfl) rfl) (pd_ix (dv 3) (pd_op od_mod (dv 4) (pd_callB cd_len (by rfl) T.n_len PySem.boot_len (ad_cons (dv 3) ad_nil))) (fun _ _ => rfl)))
    (sds_cons (sd_if (td_cmp od_isN (dv 5) pd_non (nomark _)) (sds_one (sd_ret pd_non)) sds_nil)
    (sds_one (sd_ret (pd_op od_add (dv 5) (pd_op od_mul (dv 6) (pd_op od_fdiv (dv 4) (pd_callB cd_len (by rfl) T.n_len PySem.boot_len (ad_cons (dv 3) ad_nil)))))))))))))) (rd_value_at)
theorem ok_has_period (T : Tx K mg base tb) : FnOk P w K mg base CX0 1 T.f_has_period T.d_has_period ["tail", "size"] (liSp K tb sp_has_period) :=
  Fun.okD T.F_has_period sc_has_period (len_has_period) (t := t_has_period) (fun cdv A outer s H E F0 R0 hr =>
    (sds_cons (sd_set (i := 2) sc_has_period.nd rfl (by first | exact Or.inl rfl | exact Or.inr rfl) (pd_callB cd_len (by rfl) T.n_len PySem.boot_len (ad_cons (dv 0) ad_nil)))
    (sds_cons (sd_for PassesOwn.never rfl (id_rng1 (by rfl) T.n_range (ad_cons (dv 2) ad_nil)) (pg_name (i := 3) sc_has_period.nd rfl (by first | exact Or.inl rfl | exact Or.inr rfl)) tg_name (sds_cons (sd_unp rfl (GNames.cons (pg_name (i := 4) sc_has_period.nd rfl (by first | exact Or.inl rfl | exact Or.inr rfl)) (GNames.cons (pg_name (i := 5) sc_has_period.nd rfl (by first | exact Or.inl rfl | exact Or.inr rfl)) GNames.nil rfl) rfl) (pd_ix (dv 0) (dv 3) (fun _ _ => rfl)))
    (sds_cons (sd_set (i := 6) sc_has_period.nd rfl (by first | exact Or.inl rfl | exact Or.inr rfl) (pd_op od_fdiv (pd_op od_add (dv 3) (dv 1)) (dv 2)))
    (sds_cons (sd_unp rfl (GNames.cons (pg_name (i := 7) sc_has_period.nd rfl (by first | exact Or.inl rfl | exact Or.inr rfl)) (GNames.cons (pg_name (i := 8) sc_has_period.nd rfl (by first | exact Or.inl rfl | exact Or.inr rfl)) GNames.nil rfl) rfl) (pd_ix (dv 0) (pd_op od_sub (pd_op od_add (dv 3) (dv 1)) (pd_op od_mul (dv 2) (dv 6))) (fun _ _ => rfl)))
    (sds_one (sd_if (PW.pt (wd_or (td_cmp od_isN (dv 4) pd_non (nomark _)) (wd_or1 (td_cmp od_isN (dv 7) pd_non (nomark _))))) (sds_one (sd_if (PW.pt (wd_or (td_cmp od_notN (dv 4) pd_non (nomark _)) (wd_or1 (td_cmp od_notN (dv 7) pd_non (nomark _))))) (sds_one (sd_ret pd_bl)) sds_nil)) (sds_one (sd_if (PW.pt (wd_or (td_cmp (od_ne hr.units) (dv 5) (dv 8) (nomark _)) (wd_or1 (td_cmp (od_ne hr.units) (pd_op od_mul (pd_op od_sub (pd_op od_add (dv 7) (pd_op od_mul (dv 5) (dv 6))) (dv 4)) (dv 2)) (pd_op od_mul (dv 5) (dv 1)) (nomark _))))) (sds_one (sd_ret pd_bl)) sds_nil))))))))
    (sds_one (sd_ret pd_bl))))) (rd_has_period)
theorem ok_shortest_tail (T : Tx K mg base tb) : FnOk P w K mg base CX0 2 T.f_shortest_tail T.d_shortest_tail ["tail"] (liSp K tb sp_shortest_tail) :=
  Fun.okD T.F_shortest_tail sc_shortest_tail (len_shortest_tail) (t := t_shortest_tail) (fun cdv A outer s H E F0 R0 hr =>
    (sds_cons (sd_set (i := 1) sc_shortest_tail.nd rfl (by first | exact Or.inl rfl | exact Or.inr rfl) (pd_callB cd_len (by rfl) T.n_len PySem.boot_len (ad_cons (dv 0) ad_nil)))
    (sds_cons (sd_for PassesOwn.never rfl (id_rngA (by rfl) T.n_range (ad_cons pd_int (ad_cons (dv 1) ad_nil))) (pg_name (i := 2) sc_shortest_tail.nd rfl (by first | exact Or.inl rfl | exact Or.inr rfl)) tg_name (sds_one (sd_if (PW.pt (wd_and (td_cmp (od_eq hr.units) (pd_op od_mod (dv 1) (dv 2)) pd_int (nomark _)) (wd_and1 (td_tru (pd_call (ok_has_period T) (hr.mono (by decide)) (by rfl) T.g_has_period T.F_has_period.kp T.b_has_period (ad_cons (dv 0) (ad_cons (dv 2) ad_nil))))))) (sds_one (sd_ret (pd_callTy cd_tuple (by rfl) T.n_tuple (by decide +kernel) (ad_cons (pd_lcG fin_lst rfl sc_shortest_tail.nd (id_seq (pd_slice (dv 0) od_none (od_some (dv 2)))) (blkOk_by (own := [("value", 3), ("step", 4)]) (N := n_shortest_tail) (sc := defScope s_shortest_tail) (by decide +kernel)) rfl (tg_of [3, 4]) (by decide) (fun _ _ _ _ _ => (pg_tup rfl (GNames.cons (pg_name (i := 3) sc_shortest_tail.nd rfl (by first | exact Or.inl rfl | exact Or.inr rfl)) (GNames.cons (pg_name (i := 4) sc_shortest_tail.nd rfl (by first | exact Or.inl rfl | exact Or.inr rfl)) GNames.nil rfl) rfl).pgs)) (fun _ _ _ _ _ => tsd_nil) (fun _ _ _ _ _ => (pd_tup (ad_cons (dv 3) (ad_cons (pd_op od_fdiv (pd_op od_mul (dv 4) (dv 2)) (dv 1)) ad_nil))))) ad_nil)))) sds_nil)))
    (sds_one (sd_ret (dv 0)))))) (rd_shortest_tail)
theorem ok_continued (T : Tx K mg base tb) : FnOk P w K mg base CX0 1 T.f_continued T.d_continued ["tail", "places"] (liSp K tb sp_continued) :=
  Fun.okD T.F_continued sc_continued (len_continued) (t := t_continued) (fun cdv A outer s H E F0 R0 hr =>
    (sds_cons (sd_unp rfl (GNames.cons (pg_name (i := 2) sc_continued.nd rfl (by first | exact Or.inl rfl | exact Or.inr rfl)) (GNames.cons (pg_name (i := 3) sc_continued.nd rfl (by first | exact Or.inl rfl | exact Or.inr rfl)) GNames.nil rfl) rfl) (pd_ix (dv 0) (pd_op od_mod (dv 1) (pd_callB cd_len (by rfl) T.n_len PySem.boot_len (ad_cons (dv 0) ad_nil))) (fun _ _ => rfl)))
    (sds_cons (sd_if (td_cmp od_isN (dv 2) pd_non (nomark _)) (sds_one (sd_ret (pd_tup (ad_cons pd_non (ad_cons pd_int ad_nil))))) sds_nil)
    (sds_one (sd_ret (pd_tup (ad_cons (pd_op od_add (dv 2) (pd_op od_mul (dv 3) (pd_op od_fdiv (dv 1) (pd_callB cd_len (by rfl) T.n_len PySem.boot_len (ad_cons (dv 0) ad_nil))))) (ad_cons (dv 3) ad_nil)))))))) (rd_continued)
theorem ok_normal (T : Tx K mg base tb) : FnOk P w K mg base CX0 3 T.f_normal T.d_normal ["form"] (liSp K tb sp_normal) :=
  Fun.okD T.F_normal sc_normal (len_normal) (t := t_normal) (fun cdv A outer s H E F0 R0 hr =>
    (sds_cons (sd_set (i := 1) sc_normal.nd rfl (by first | exact Or.inl rfl | exact Or.inr rfl) (pd_ix (dv 0) pd_int (fun _ _ => rfl)))
    (sds_cons (sd_set (i := 2) sc_normal.nd rfl (by first | exact Or.inl rfl | exact Or.inr rfl) (pd_call (ok_shortest_tail T) (hr.mono (by decide)) (by rfl) T.g_shortest_tail T.F_shortest_tail.kp T.b_shortest_tail (ad_cons (pd_ix (dv 0) pd_int (fun _ _ => rfl)) ad_nil)))
    (sds_cons (sd_set (i := 3) sc_normal.nd rfl (by first | exact Or.inl rfl | exact Or.inr rfl) (pd_callB cd_len (by rfl) T.n_len PySem.boot_len (ad_cons (dv 1) ad_nil)))
    (sds_cons (sd_while PassesOwn.never (td_cmp od_gt (dv 3) pd_int (nomark _)) (sds_cons (sd_unp rfl (GNames.cons (pg_name (i := 4) sc_normal.nd rfl (by first | exact Or.inl rfl | exact Or.inr rfl)) (GNames.cons (pg_name (i := 5) sc_normal.nd rfl (by first | exact Or.inl rfl | exact Or.inr rfl)) GNames.nil rfl) rfl) (pd_call (ok_continued T) (hr.mono (by decide)) (by rfl) T.g_continued T.F_continued.kp T.b_continued (ad_cons (dv 2) (ad_cons (pd_op od_sub (pd_op od_sub (dv 3) pd_int) (pd_callB cd_len (by rfl) T.n_len PySem.boot_len (ad_cons (dv 1) ad_nil))) ad_nil))))
    (sds_cons (sd_if (td_cmp (od_ne hr.units) (dv 4) (pd_ix (dv 1) (pd_op od_sub (dv 3) pd_int) (fun _ _ => rfl)) (nomark _)) (sds_one sd_break) sds_nil)
    (sds_one (sd_aug (i := 3) sc_normal.nd rfl (by first | exact Or.inl rfl | exact Or.inr rfl) pd_int iod_sub)))))
    (sds_cons (sd_set (i := 6) sc_normal.nd rfl (by first | exact Or.inl rfl | exact Or.inr rfl) (pd_op od_sub (pd_callB cd_len (by rfl) T.n_len PySem.boot_len (ad_cons (dv 1) ad_nil)) (dv 3)))
    (sds_one (sd_ret (pd_tup (ad_cons (pd_slice (dv 1) od_none (od_some (dv 3))) (ad_cons (pd_callTy cd_tuple (by rfl) T.n_tuple (by decide +kernel) (ad_cons (pd_lcG fin_lst rfl sc_normal.nd (id_rng1 (by rfl) T.n_range (ad_cons (pd_callB cd_len (by rfl) T.n_len PySem.boot_len (ad_cons (dv 2) ad_nil)) ad_nil)) (blkOk_by (own := [("index", 7)]) (N := n_normal) (sc := defScope s_normal) (by decide +kernel)) rfl tg_name (by decide) (fun _ _ _ _ _ => (pg_name (i := 7) sc_normal.nd rfl (by first | exact Or.inl rfl | exact Or.inr rfl))) (fun _ _ _ _ _ => tsd_nil) (fun _ _ _ _ _ => (pd_call (ok_continued T) (hr.mono (by decide)) (by rfl) T.g_continued T.F_continued.kp T.b_continued (ad_cons (dv 2) (ad_cons (pd_op od_sub (dv 7) (dv 6)) ad_nil))))) ad_nil)) ad_nil))))))))))) (rd_normal)
theorem ok_check_period (T : Tx K mg base tb) : FnOk P w K mg base (L2.CX P w) 1 T.f_check_period T.d_check_period ["period"] (liSp K tb (sp_check_period ⟨P, w, K, mg, base, tb⟩)) :=
  Fun.okXD T.F_check_period sc_check_period (len_check_period ⟨P, w, K, mg, base, tb⟩) (t := (t_check_period ⟨P, w, K, mg, base, tb⟩)) (fun cdv A outer s H E F0 R0 E2 hr hE tk =>
    (sds_one (sd_if (td_cmp od_gt (dv 0) T.c_MAX_PERIOD.pd (nomark _)) (sds_one (sd_raise (cv := exV ⟨P, w, K, mg, base, tb⟩ "TooLarge") hE rfl tk (exV_of T.x_TooLarge.g) PySem.F.excBase_ValueError T.x_TooLarge.q T.x_TooLarge.g T.x_TooLarge.k (raises_own T.x_TooLarge.s T.x_TooLarge.t) (by rfl))) sds_nil))) (rd_check_period ⟨P, w, K, mg, base, tb⟩)
theorem ok_first_of_class (T : Tx K mg base tb) : FnOk P w K mg base CX0 1 T.f_first_of_class T.d_first_of_class ["rest", "least", "period"] (liSp K tb sp_first_of_class) :=
  Fun.okD T.F_first_of_class sc_first_of_class (len_first_of_class) (t := t_first_of_class) (fun cdv A outer s H E F0 R0 hr =>
    (sds_one (sd_ret (pd_op od_add (dv 1) (pd_op od_mod (pd_op od_sub (dv 0) (dv 1)) (dv 2)))))) (rd_first_of_class)
theorem ok_line (T : Tx K mg base tb) : FnOk P w K mg base CX0 11 T.f_line T.d_line ["period", "tell", "start"] (liSp K tb (sp_line ⟨P, w, K, mg, base, tb⟩)) :=
  Fun.okD T.F_line sc_line (len_line ⟨P, w, K, mg, base, tb⟩) (t := (t_line ⟨P, w, K, mg, base, tb⟩)) (fun cdv A outer s H E F0 R0 hr =>
    (sds_cons (sd_set (i := 3) sc_line.nd rfl (by first | exact Or.inl rfl | exact Or.inr rfl) (dv 2))
    (sds_cons (sd_set (i := 4) sc_line.nd rfl (by first | exact Or.inl rfl | exact Or.inr rfl) (pd_callV (k := 10) (i := 1) (hr.mono (by decide)) rfl (by first | exact Or.inl rfl | exact Or.inr (Or.inl rfl) | exact Or.inr (Or.inr rfl)) (ad_cons (dv 3) ad_nil)))
    (sds_cons (sd_set (i := 5) sc_line.nd rfl (by first | exact Or.inl rfl | exact Or.inr rfl) pd_int)
    (sds_cons (sd_if (td_cmp od_notN (dv 4) pd_non (nomark _)) (sds_one (sd_set (i := 5) sc_line.nd rfl (by first | exact Or.inl rfl | exact Or.inr rfl) (pd_op od_sub (pd_callV (k := 10) (i := 1) (hr.mono (by decide)) rfl (by first | exact Or.inl rfl | exact Or.inr (Or.inl rfl) | exact Or.inr (Or.inr rfl)) (ad_cons (pd_op od_add (dv 3) (dv 0)) ad_nil)) (dv 4)))) sds_nil)
    (sds_cons (sd_while PassesOwn.never (td_cmp od_ge (dv 3) (dv 0) (nomark _)) (sds_cons (sd_set (i := 6) sc_line.nd rfl (by first | exact Or.inl rfl | exact Or.inr rfl) (pd_if (td_cmp od_isN (dv 4) pd_non (nomark _)) pd_non (pd_op od_sub (dv 4) (dv 5))))
    (sds_cons (sd_if (td_cmp (od_ne hr.units) (pd_callV (k := 10) (i := 1) (hr.mono (by decide)) rfl (by first | exact Or.inl rfl | exact Or.inr (Or.inl rfl) | exact Or.inr (Or.inr rfl)) (ad_cons (pd_op od_sub (dv 3) (dv 0)) ad_nil)) (dv 6) (nomark _)) (sds_one sd_break) sds_nil)
    (sds_cons (sd_aug (i := 3) sc_line.nd rfl (by first | exact Or.inl rfl | exact Or.inr rfl) (dv 0) iod_sub)
    (sds_one (sd_set (i := 4) sc_line.nd rfl (by first | exact Or.inl rfl | exact Or.inr rfl) (dv 6)))))))
    (sds_one (sd_ret (pd_tup (ad_cons (dv 3) (ad_cons (dv 4) (ad_cons (dv 5) ad_nil)))))))))))) (rd_line ⟨P, w, K, mg, base, tb⟩)
theorem ok_assemble (T : Tx K mg base tb) : FnOk P w K mg base (L2.CX P w) 12 T.f_assemble T.d_assemble ["period", "tell", "starts"] (liSp K tb (sp_assemble ⟨P, w, K, mg, base, tb⟩)) :=
  Fun.okXD T.F_assemble sc_assemble (len_assemble ⟨P, w, K, mg, base, tb⟩) (t := (t_assemble ⟨P, w, K, mg, base, tb⟩)) (fun cdv A outer s H E F0 R0 E2 hr hE tk =>
    (sds_cons (sd_setLcG (i := 3) fin_lst rfl sc_assemble.nd rfl rfl (sw_true rfl rfl rfl (by decide +kernel)) (id_seq (dv 2)) (blkOk_by (own := [("start", 4)]) (N := n_assemble) (sc := defScope s_assemble) (by decide +kernel)) rfl tg_name (by decide) (fun _ _ _ _ _ => (pg_name (i := 4) sc_assemble.nd rfl (by first | exact Or.inl rfl | exact Or.inr rfl))) (fun _ _ _ _ _ => tsd_nil) (fun _ _ _ _ _ => (pd_call (ok_line T) (hr.mono (by decide)) (by rfl) T.g_line T.F_line.kp T.b_line (ad_cons (dv 0) (ad_cons (dv 1) (ad_cons (dv 4) ad_nil))))))
    (sds_cons (sd_set (i := 5) sc_assemble.nd rfl (by first | exact Or.inl rfl | exact Or.inr rfl) (pd_maxDf rfl hr.units (by rfl) T.n_max (by decide +kernel) (pd_lcG fin_lst rfl sc_assemble.nd (id_seq (dv 3)) (blkOk_by (own := [("x", 6), ("_", 7)]) (N := n_assemble) (sc := defScope s_assemble) (by decide +kernel)) rfl (tg_of [6, 7, 7]) (by decide) (fun _ _ _ _ _ => (pg_tup rfl (GNames.cons (pg_name (i := 6) sc_assemble.nd rfl (by first | exact Or.inl rfl | exact Or.inr rfl)) (GNames.cons (pg_name (i := 7) sc_assemble.nd rfl (by first | exact Or.inl rfl | exact Or.inr rfl)) (GNames.cons (pg_name (i := 7) sc_assemble.nd rfl (by first | exact Or.inl rfl | exact Or.inr rfl)) GNames.nil rfl) rfl) rfl).pgs)) (fun _ _ _ _ _ => (tsd_one (td_cmp od_ge (dv 6) (dv 0) (nomark _)))) (fun _ _ _ _ _ => (pd_op od_add (pd_op od_sub (dv 6) (dv 0)) pd_int))) pd_int))
    (sds_cons (sd_if (td_cmp od_gt (dv 5) T.c_MAX_HEAD.pd (nomark _)) (sds_one (sd_raise (cv := exV ⟨P, w, K, mg, base, tb⟩ "TooLarge") hE rfl tk (exV_of T.x_TooLarge.g) PySem.F.excBase_ValueError T.x_TooLarge.q T.x_TooLarge.g T.x_TooLarge.k (raises_own T.x_TooLarge.s T.x_TooLarge.t) (by rfl))) sds_nil)
    (sds_cons (sd_set (i := 8) sc_assemble.nd rfl (by first | exact Or.inl rfl | exact Or.inr rfl) (pd_lstM ad_nil))
    (sds_cons (sd_for (passes_of rfl) rfl (id_rngA (by rfl) T.n_range (ad_cons (dv 5) (ad_cons (pd_op od_add (dv 5) (dv 0)) ad_nil))) (pg_name (i := 6) sc_assemble.nd rfl (by first | exact Or.inl rfl | exact Or.inr rfl)) tg_name (sds_cons (sd_unp rfl (GNames.cons (pg_name (i := 9) sc_assemble.nd rfl (by first | exact Or.inl rfl | exact Or.inr rfl)) (GNames.cons (pg_name (i := 10) sc_assemble.nd rfl (by first | exact Or.inl rfl | exact Or.inr rfl)) (GNames.cons (pg_name (i := 11) sc_assemble.nd rfl (by first | exact Or.inl rfl | exact Or.inr rfl)) GNames.nil rfl) rfl) rfl) (pd_ix (dv 3) (pd_op od_mod (dv 6) (dv 0)) (fun _ _ => rfl)))
    (sds_one (sd_if (td_cmp od_isN (dv 10) pd_non (nomark _)) (sds_one (sd_expr (pd_append (dv 8) (ad_cons (pd_tup (ad_cons pd_non (ad_cons pd_int ad_nil))) ad_nil)))) (sds_one (sd_expr (pd_append (dv 8) (ad_cons (pd_tup (ad_cons (pd_op od_add (dv 10) (pd_op od_mul (dv 11) (pd_op od_fdiv (pd_op od_sub (dv 6) (dv 9)) (dv 0)))) (ad_cons (dv 11) ad_nil))) ad_nil))))))))
    (sds_one (sd_ret (pd_call (ok_normal T) (hr.mono (by decide)) (by rfl) T.g_normal T.F_normal.kp T.b_normal (ad_cons (pd_tup (ad_cons (pd_callTy cd_tuple (by rfl) T.n_tuple (by decide +kernel) (ad_cons (pd_lcG fin_lst rfl sc_assemble.nd (id_rng1 (by rfl) T.n_range (ad_cons (dv 5) ad_nil)) (blkOk_by (own := [("x", 6)]) (N := n_assemble) (sc := defScope s_assemble) (by decide +kernel)) rfl tg_name (by decide) (fun _ _ _ _ _ => (pg_name (i := 6) sc_assemble.nd rfl (by first | exact Or.inl rfl | exact Or.inr rfl))) (fun _ _ _ _ _ => tsd_nil) (fun _ _ _ _ _ => (pd_callV (k := 10) (i := 1) (hr.mono (by decide)) rfl (by first | exact Or.inl rfl | exact Or.inr (Or.inl rfl) | exact Or.inr (Or.inr rfl)) (ad_cons (dv 6) ad_nil)))) ad_nil)) (ad_cons (pd_callTy cd_tuple (by rfl) T.n_tuple (by decide +kernel) (ad_cons (dv 8) ad_nil)) ad_nil))) ad_nil)))))))))) (rd_assemble ⟨P, w, K, mg, base, tb⟩)
theorem ok_line_at (T : Tx K mg base tb) : FnOk P w K mg base CX0 2 T.f_line_at T.d_line_at ["form", "x", "period"] (liSp K tb sp_line_at) :=
  Fun.okD T.F_line_at sc_line_at (len_line_at) (t := t_line_at) (fun cdv A outer s H E F0 R0 hr =>
    (sds_cons (sd_set (i := 3) sc_line_at.nd rfl (by first | exact Or.inl rfl | exact Or.inr rfl) (pd_call (ok_value_at T) (hr.mono (by decide)) (by rfl) T.g_value_at T.F_value_at.kp T.b_value_at (ad_cons (dv 0) (ad_cons (dv 1) ad_nil))))
    (sds_cons (sd_if (td_cmp od_isN (dv 3) pd_non (nomark _)) (sds_one (sd_ret pd_non)) sds_nil)
    (sds_one (sd_ret (pd_tup (ad_cons (dv 3) (ad_cons (pd_op od_sub (pd_call (ok_value_at T) (hr.mono (by decide)) (by rfl) T.g_value_at T.F_value_at.kp T.b_value_at (ad_cons (dv 0) (ad_cons (pd_op od_add (dv 1) (dv 2)) ad_nil))) (dv 3)) ad_nil)))))))) (rd_line_at)
theorem ok_own_starts (T : Tx K mg base tb) : FnOk P w K mg base CX0 2 T.f_own_starts T.d_own_starts ["form", "period"] (liSp K tb sp_own_starts) :=
  Fun.okD T.F_own_starts sc_own_starts (len_own_starts) (t := t_own_starts) (fun cdv A outer s H E F0 R0 hr =>
    (sds_one (sd_ret (pd_lcG fin_lst rfl sc_own_starts.nd (id_rng1 (by rfl) T.n_range (ad_cons (dv 1) ad_nil)) (blkOk_by (own := [("rest", 2)]) (N := n_own_starts) (sc := defScope s_own_starts) (by decide +kernel)) rfl tg_name (by decide) (fun _ _ _ _ _ => (pg_name (i := 2) sc_own_starts.nd rfl (by first | exact Or.inl rfl | exact Or.inr rfl))) (fun _ _ _ _ _ => tsd_nil) (fun _ _ _ _ _ => (pd_call (ok_first_of_class T) (hr.mono (by decide)) (by rfl) T.g_first_of_class T.F_first_of_class.kp T.b_first_of_class (ad_cons (dv 2) (ad_cons (pd_callB cd_len (by rfl) T.n_len PySem.boot_len (ad_cons (pd_ix (dv 0) pd_int (fun _ _ => rfl)) ad_nil)) (ad_cons (dv 1) ad_nil))))))))) (rd_own_starts)
theorem ok_round_period (T : Tx K mg base tb) : FnOk P w K mg base (L2.CX P w) 2 T.f_round_period T.d_round_period ["form", "unit", "factor", "rising"] (liSp K tb (sp_round_period ⟨P, w, K, mg, base, tb⟩)) :=
  Fun.okXD T.F_round_period sc_round_period (len_round_period ⟨P, w, K, mg, base, tb⟩) (t := (t_round_period ⟨P, w, K, mg, base, tb⟩)) (fun cdv A outer s H E F0 R0 E2 hr hE tk =>
    (sds_cons (sd_set (i := 4) sc_round_period.nd rfl (by first | exact Or.inl rfl | exact Or.inr rfl) pd_int)
    (sds_cons (sd_for (passes_of rfl) rfl (id_seq (pd_ix (dv 0) pd_int (fun _ _ => rfl))) (pg_tup rfl (GNames.cons (pg_name (i := 5) sc_round_period.nd rfl (by first | exact Or.inl rfl | exact Or.inr rfl)) (GNames.cons (pg_name (i := 6) sc_round_period.nd rfl (by first | exact Or.inl rfl | exact Or.inr rfl)) GNames.nil rfl) rfl).pgs) (tg_of [5, 6]) (sds_one (sd_if (PW.pt (wd_and (td_cmp od_notN (dv 5) pd_non (nomark _)) (wd_and1 (PW.pt (wd_or (td_cmp od_gt (dv 6) pd_int (nomark _)) (wd_or1 (td_not (td_tru (dv 3))))))))) (sds_one (sd_set (i := 4) sc_round_period.nd rfl (by first | exact Or.inl rfl | exact Or.inr rfl) (pd_callBf cd_lcm (by rfl) T.m_lcm (ad_cons (dv 4) (ad_cons (pd_op od_fdiv (dv 1) (pd_callBf cd_gcd (by rfl) T.m_gcd (ad_cons (dv 1) (ad_cons (pd_op od_mul (dv 6) (dv 2)) ad_nil)))) ad_nil))))) sds_nil)))
    (sds_cons (sd_set (i := 7) sc_round_period.nd rfl (by first | exact Or.inl rfl | exact Or.inr rfl) (pd_op od_mul (dv 4) (pd_callB cd_len (by rfl) T.n_len PySem.boot_len (ad_cons (pd_ix (dv 0) pd_int (fun _ _ => rfl)) ad_nil))))
    (sds_cons (sd_expr (pd_callX hE (ok_check_period T) (hr.mono (by decide)) (by rfl) T.g_check_period T.F_check_period.kp T.b_check_period (passes_call tk (fun _ _ _ _ h => h)) (ad_cons (dv 7) ad_nil)))
    (sds_one (sd_ret (dv 7)))))))) (rd_round_period ⟨P, w, K, mg, base, tb⟩)
theorem ok_due_of (T : Tx K mg base tb) : FnOk P w K mg base CX0 1 T.f_due_of T.d_due_of ["rule", "missing"] (liSp K tb sp_due_of) :=
  Fun.okD T.F_due_of sc_due_of (len_due_of) (t := t_due_of) (fun cdv A outer s H E F0 R0 hr =>
    (sds_cons (sd_unp rfl (GNames.cons (pg_name (i := 2) sc_due_of.nd rfl (by first | exact Or.inl rfl | exact Or.inr rfl)) (GNames.cons (pg_name (i := 3) sc_due_of.nd rfl (by first | exact Or.inl rfl | exact Or.inr rfl)) (GNames.cons (pg_name (i := 4) sc_due_of.nd rfl (by first | exact Or.inl rfl | exact Or.inr rfl)) GNames.nil rfl) rfl) rfl) (dv 0))
    (sds_cons (sd_if (td_cmp od_le (dv 1) pd_int (nomark _)) (sds_one (sd_ret pd_int)) sds_nil)
    (sds_one (sd_ret (pd_callB (cd_max rfl) (by rfl) T.n_max (by decide +kernel) (ad_cons (dv 4) (ad_cons (pd_op od_mul (dv 3) (pd_un ud_neg (pd_op od_fdiv (pd_op od_mul (pd_un ud_neg (dv 2)) (dv 1)) (dv 3)))) ad_nil)))))))) (rd_due_of)
theorem ok_due_value (T : Tx K mg base tb) : FnOk P w K mg base CX0 2 T.f_due_value T.d_due_value ["rule", "value", "paid"] (liSp K tb sp_due_value) :=
  Fun.okD T.F_due_value sc_due_value (len_due_value) (t := t_due_value) (fun cdv A outer s H E F0 R0 hr =>
    (sds_one (sd_ret (pd_if (td_cmp od_isN (dv 1) pd_non (nomark _)) pd_non (pd_call (ok_due_of T) (hr.mono (by decide)) (by rfl) T.g_due_of T.F_due_of.kp T.b_due_of (ad_cons (dv 0) (ad_cons (pd_op od_sub (dv 1) (dv 2)) ad_nil))))))) (rd_due_value)
theorem ok_settled_due (T : Tx K mg base tb) : FnOk P w K mg base CX0 1 T.f_settled_due T.d_settled_due ["rule", "missing", "step"] (liSp K tb sp_settled_due) :=
  Fun.okD T.F_settled_due sc_settled_due (len_settled_due) (t := t_settled_due) (fun cdv A outer s H E F0 R0 hr =>
    (sds_cons (sd_if (td_cmp od_lt (dv 2) pd_int (nomark _)) (sds_one (sd_ret (pd_callB (cd_max rfl) (by rfl) T.n_max (by decide +kernel) (ad_cons pd_int (ad_cons (pd_un ud_neg (pd_op od_fdiv (pd_un ud_neg (dv 1)) (pd_un ud_neg (dv 2)))) ad_nil))))) sds_nil)
    (sds_cons (sd_set (i := 3) sc_settled_due.nd rfl (by first | exact Or.inl rfl | exact Or.inr rfl) (pd_callB (cd_max rfl) (by rfl) T.n_max (by decide +kernel) (ad_cons pd_int (ad_cons (pd_un ud_neg (pd_op od_fdiv (pd_un ud_neg (pd_ix (dv 0) pd_int (fun _ _ => rfl))) (pd_ix (dv 0) pd_int (fun _ _ => rfl)))) ad_nil))))
    (sds_one (sd_ret (pd_callB (cd_max rfl) (by rfl) T.n_max (by decide +kernel) (ad_cons pd_int (ad_cons (pd_un ud_neg (pd_op od_fdiv (pd_op od_sub (dv 1) (dv 3)) (dv 2))) ad_nil)))))))) (rd_settled_due)
theorem ok_due_form (T : Tx K mg base tb) : FnOk P w K mg base (L2.CX P w) 13 T.f_due_form T.d_due_form ["rule", "a", "paid"] (liSp K tb (sp_due_form ⟨P, w, K, mg, base, tb⟩)) :=
  FunC.okXE T.F_due_form sc_due_form (len_due_form ⟨P, w, K, mg, base, tb⟩) (t := (t_due_form ⟨P, w, K, mg, base, tb⟩)) (fun A outer s H E F0 R0 E2 hr hE tk =>
    (sds_cons (sd_set (i := 3) sc_due_form.nd rfl (by first | exact Or.inl rfl | exact Or.inr rfl) (pd_call (ok_normal T) (hr.mono (by decide)) (by rfl) T.g_normal T.F_normal.kp T.b_normal (ad_cons (dv 1) ad_nil)))
    (sds_cons (sd_set (i := 4) sc_due_form.nd rfl (by first | exact Or.inl rfl | exact Or.inr rfl) (pd_callX hE (ok_round_period T) (hr.mono (by decide)) (by rfl) T.g_round_period T.F_round_period.kp T.b_round_period (passes_call tk (fun _ _ _ _ h => h)) (ad_cons (dv 3) (ad_cons (pd_ix (dv 0) pd_int (fun _ _ => rfl)) (ad_cons (pd_ix (dv 0) pd_int (fun _ _ => rfl)) (ad_cons pd_bl ad_nil))))))
    (sds_cons (sd_set (i := 5) sc_due_form.nd rfl (by first | exact Or.inl rfl | exact Or.inr rfl) (pd_lstM ad_nil))
    (sds_cons (sd_for (passes_of rfl) rfl (id_seq (pd_call (ok_own_starts T) (hr.mono (by decide)) (by rfl) T.g_own_starts T.F_own_starts.kp T.b_own_starts (ad_cons (dv 3) (ad_cons (dv 4) ad_nil)))) (pg_name (i := 6) sc_due_form.nd rfl (by first | exact Or.inl rfl | exact Or.inr rfl)) tg_name (sds_cons (sd_set (i := 7) sc_due_form.nd rfl (by first | exact Or.inl rfl | exact Or.inr rfl) (pd_call (ok_line_at T) (hr.mono (by decide)) (by rfl) T.g_line_at T.F_line_at.kp T.b_line_at (ad_cons (dv 3) (ad_cons (dv 6) (ad_cons (dv 4) ad_nil)))))
    (sds_cons (sd_if (PW.pt (wd_and (td_cmp od_notN (dv 7) pd_non (nomark _)) (wd_and1 (td_cmp (od_ne hr.units) (pd_ix (dv 7) pd_int (fun _ _ => rfl)) pd_int (nomark _))))) (sds_one (sd_aug (i := 6) sc_due_form.nd rfl (by first | exact Or.inl rfl | exact Or.inr rfl) (pd_op od_mul (dv 4) (pd_call (ok_settled_due T) (hr.mono (by decide)) (by rfl) T.g_settled_due T.F_settled_due.kp T.b_settled_due (ad_cons (dv 0) (ad_cons (pd_op od_sub (pd_ix (dv 7) pd_int (fun _ _ => rfl)) (dv 2)) (ad_cons (pd_ix (dv 7) pd_int (fun _ _ => rfl)) ad_nil))))) iod_addI)) sds_nil)
    (sds_one (sd_expr (pd_append (dv 5) (ad_cons (dv 6) ad_nil)))))))
    (sds_one (sd_ret (pd_callLX hE (passes_call tk (fun _ _ _ _ h => h)) (kb := 9) (N := ["x", "rule", "paid", "form"]) (ps := ["x"]) (fr := ["rule", "paid", "form"]) (js := [0, 2, 3]) (ok_assemble T) (hr.mono (by decide)) (by rfl) T.g_assemble T.F_assemble.kp T.b_assemble T.B_due_form rfl T.m_due_form rfl (dv 4) (dv 5) rfl (fun _ => rfl) (show NdefX.ndefB (defScope s_due_form) _ _ = true from by decide +kernel) (NdefX.nscope_by (by decide +kernel)) rfl rfl (fun _ _ _ _ us hl => match us, hl with | [_], _ => rfl) (fun f c' cl A outer s H F0 R0 hr => (pd_call (ok_due_value T) (hr.mono (by decide)) (by rfl) T.g_due_value T.F_due_value.kp T.b_due_value (ad_cons (dv 1) (ad_cons (pd_call (ok_value_at T) (hr.mono (by decide)) (by rfl) T.g_value_at T.F_value_at.kp T.b_value_at (ad_cons (dv 3) (ad_cons (dv 0) ad_nil))) (ad_cons (dv 2) ad_nil))))))))))))) (rd_due_form ⟨P, w, K, mg, base, tb⟩)
theorem ok_law_state (T : Tx K mg base tb) : FnOk P w K mg base CX0 1 T.f_law_state T.d_law_state ["script"] (liSp K tb sp_law_state) :=
  Fun.okD T.F_law_state sc_law_state (len_law_state) (t := t_law_state) (fun cdv A outer s H E F0 R0 hr =>
    (sds_one (sd_ret (pd_lstM (ad_cons (pd_callTy cd_list (by rfl) T.n_list (by decide +kernel) (ad_cons (dv 0) ad_nil)) (ad_cons pd_int (ad_cons pd_int (ad_cons pd_int (ad_cons pd_bl ad_nil))))))))) (rd_law_state)
theorem ok_law_draw (T : Tx K mg base tb) : FnOk P w K mg base CX0 1 T.f_law_draw T.d_law_draw ["state", "limit"] (liSp K tb sp_law_draw) :=
  Fun.okD T.F_law_draw sc_law_draw (len_law_draw) (t := t_law_draw) (fun cdv A outer s H E F0 R0 hr =>
    (sds_cons (sd_if (td_cmp (od_eq hr.units) (pd_ix (dv 0) pd_int (fun _ _ => rfl)) pd_int (nomark _)) (sds_cons (sd_if (td_cmp od_ge (pd_ix (dv 0) pd_int (fun _ _ => rfl)) (pd_callB cd_len (by rfl) T.n_len PySem.boot_len (ad_cons (pd_ix (dv 0) pd_int (fun _ _ => rfl)) ad_nil)) (nomark _)) (sds_one (sd_ret pd_int)) sds_nil)
    (sds_cons (sd_set (i := 2) sc_law_draw.nd rfl (by first | exact Or.inl rfl | exact Or.inr rfl) (pd_ix (pd_ix (dv 0) pd_int (fun _ _ => rfl)) (pd_ix (dv 0) pd_int (fun _ _ => rfl)) (fun _ _ => rfl)))
    (sds_cons (sd_if (td_cmp od_lt (dv 2) pd_int (nomark _)) (sds_one (sd_set (i := 2) sc_law_draw.nd rfl (by first | exact Or.inl rfl | exact Or.inr rfl) (pd_op od_sub (pd_un ud_neg pd_int) (dv 2)))) sds_nil)
    (sds_cons (sd_store (pd_op od_add (pd_ix (dv 0) pd_int (fun _ _ => rfl)) pd_int) (dv 0) pd_int std_list)
    (sds_cons (sd_store (dv 2) (dv 0) pd_int std_list)
    (sds_cons (sd_store (pd_cmp od_ge (dv 2) (pd_op od_pow pd_int pd_int) (nomark _)) (dv 0) pd_int std_list)
    (sds_cons (sd_store pd_int (dv 0) pd_int std_list)
    (sds_one (sd_if (td_tru (pd_ix (dv 0) pd_int (fun _ _ => rfl))) (sds_one (sd_store pd_int (dv 0) pd_int std_list)) sds_nil))))))))) sds_nil)
    (sds_cons (sd_store (pd_op od_sub (pd_ix (dv 0) pd_int (fun _ _ => rfl)) pd_int) (dv 0) pd_int std_list)
    (sds_cons (sd_if (td_tru (pd_ix (dv 0) pd_int (fun _ _ => rfl))) (sds_cons (sd_set (i := 3) sc_law_draw.nd rfl (by first | exact Or.inl rfl | exact Or.inr rfl) (pd_op od_mod (pd_callTy cd_int (by rfl) T.n_int (by decide +kernel) (ad_cons (pd_ix (dv 0) pd_int (fun _ _ => rfl)) ad_nil)) (dv 1)))
    (sds_cons (sd_store (pd_op od_fdiv (pd_ix (dv 0) pd_int (fun _ _ => rfl)) (dv 1)) (dv 0) pd_int std_list)
    (sds_cons (sd_if (td_cmp (od_eq hr.units) (pd_ix (dv 0) pd_int (fun _ _ => rfl)) pd_int (nomark _)) (sds_one (sd_store pd_int (dv 0) pd_int std_list)) sds_nil)
    (sds_one (sd_ret (dv 3)))))) sds_nil)
    (sds_cons (sd_set (i := 4) sc_law_draw.nd rfl (by first | exact Or.inl rfl | exact Or.inr rfl) (pd_op od_mod (pd_callTy cd_int (by rfl) T.n_int (by decide +kernel) (ad_cons (pd_op od_add (pd_op od_add (pd_op od_mul (pd_ix (dv 0) pd_int (fun _ _ => rfl)) pd_int) (pd_op od_mul (pd_ix (dv 0) pd_int (fun _ _ => rfl)) pd_int)) pd_int) ad_nil)) pd_int))
    (sds_cons (sd_set (i := 4) sc_law_draw.nd rfl (by first | exact Or.inl rfl | exact Or.inr rfl) (pd_op od_mod (pd_callTy cd_int (by rfl) T.n_int (by decide +kernel) (ad_cons (pd_op od_add (pd_op od_add (pd_op od_mul (dv 4) (dv 4)) (pd_op od_mul (pd_ix (dv 0) pd_int (fun _ _ => rfl)) pd_int)) (pd_ix (dv 0) pd_int (fun _ _ => rfl))) ad_nil)) pd_int))
    (sds_one (sd_ret (pd_op od_mod (pd_callTy cd_int (by rfl) T.n_int (by decide +kernel) (ad_cons (dv 4) ad_nil)) (dv 1)))))))))) (rd_law_draw)
theorem ok_law_far (T : Tx K mg base tb) : FnOk P w K mg base CX0 2 T.f_law_far T.d_law_far ["state"] (liSp K tb sp_law_far) :=
  Fun.okD T.F_law_far sc_law_far (len_law_far) (t := t_law_far) (fun cdv A outer s H E F0 R0 hr =>
    (sds_cons (sd_set (i := 1) sc_law_far.nd rfl (by first | exact Or.inl rfl | exact Or.inr rfl) (pd_call (ok_law_draw T) (hr.mono (by decide)) (by rfl) T.g_law_draw T.F_law_draw.kp T.b_law_draw (ad_cons (dv 0) (ad_cons pd_int ad_nil))))
    (sds_cons (sd_for PassesOwn.never rfl (id_rng1 (by rfl) T.n_range (ad_cons (pd_call (ok_law_draw T) (hr.mono (by decide)) (by rfl) T.g_law_draw T.F_law_draw.kp T.b_law_draw (ad_cons (dv 0) (ad_cons pd_int ad_nil))) ad_nil)) (pg_name (i := 2) sc_law_far.nd rfl (by first | exact Or.inl rfl | exact Or.inr rfl)) tg_name (sds_one (sd_set (i := 1) sc_law_far.nd rfl (by first | exact Or.inl rfl | exact Or.inr rfl) (pd_op od_add (pd_op od_mul (dv 1) pd_int) (pd_call (ok_law_draw T) (hr.mono (by decide)) (by rfl) T.g_law_draw T.F_law_draw.kp T.b_law_draw (ad_cons (dv 0) (ad_cons pd_int ad_nil)))))))
    (sds_one (sd_ret (dv 1)))))) (rd_law_far)
theorem ok_law_value (T : Tx K mg base tb) : FnOk P w K mg base CX0 1 T.f_law_value T.d_law_value ["form", "x"] (liSp K tb sp_law_value) :=
  Fun.okD T.F_law_value sc_law_value (len_law_value) (t := t_law_value) (fun cdv A outer s H E F0 R0 hr =>
    (sds_cons (sd_if (td_cmp od_lt (dv 1) pd_int (nomark _)) (sds_one (sd_ret pd_non)) sds_nil)
    (sds_cons (sd_if (td_cmp od_lt (dv 1) (pd_callB cd_len (by rfl) T.n_len PySem.boot_len (ad_cons (pd_ix (dv 0) pd_int (fun _ _ => rfl)) ad_nil)) (nomark _)) (sds_one (sd_ret (pd_ix (pd_ix (dv 0) pd_int (fun _ _ => rfl)) (dv 1) (fun _ _ => rfl)))) sds_nil)
    (sds_cons (sd_set (i := 2) sc_law_value.nd rfl (by first | exact Or.inl rfl | exact Or.inr rfl) (pd_op od_sub (dv 1) (pd_callB cd_len (by rfl) T.n_len PySem.boot_len (ad_cons (pd_ix (dv 0) pd_int (fun _ _ => rfl)) ad_nil))))
    (sds_cons (sd_unp rfl (GNames.cons (pg_name (i := 3) sc_law_value.nd rfl (by first | exact Or.inl rfl | exact Or.inr rfl)) (GNames.cons (pg_name (i := 4) sc_law_value.nd rfl (by first | exact Or.inl rfl | exact Or.inr rfl)) GNames.nil rfl) rfl) (pd_ix (pd_ix (dv 0) pd_int (fun _ _ => rfl)) (pd_op od_mod (pd_callTy cd_int (by rfl) T.n_int (by decide +kernel) (ad_cons (dv 2) ad_nil)) (pd_callB cd_len (by rfl) T.n_len PySem.boot_len (ad_cons (pd_ix (dv 0) pd_int (fun _ _ => rfl)) ad_nil))) (fun _ _ => rfl)))
    (sds_cons (sd_if (td_cmp od_isN (dv 3) pd_non (nomark _)) (sds_one (sd_ret pd_non)) sds_nil)
    (sds_one (sd_ret (pd_op od_add (dv 3) (pd_op od_mul (dv 4) (pd_op od_fdiv (dv 2) (pd_callB cd_len (by rfl) T.n_len PySem.boot_len (ad_cons (pd_ix (dv 0) pd_int (fun _ _ => rfl)) ad_nil))))))))))))) (rd_law_value)
theorem ok_law_stretched (T : Tx K mg base tb) : FnOk P w K mg base CX0 2 T.f_law_stretched T.d_law_stretched ["state", "form"] (liSp K tb sp_law_stretched) :=
  Fun.okD T.F_law_stretched sc_law_stretched (len_law_stretched) (t := t_law_stretched) (fun cdv A outer s H E F0 R0 hr =>
    (sds_cons (sd_set (i := 2) sc_law_stretched.nd rfl (by first | exact Or.inl rfl | exact Or.inr rfl) (pd_call (ok_law_draw T) (hr.mono (by decide)) (by rfl) T.g_law_draw T.F_law_draw.kp T.b_law_draw (ad_cons (dv 0) (ad_cons pd_int ad_nil))))
    (sds_cons (sd_set (i := 3) sc_law_stretched.nd rfl (by first | exact Or.inl rfl | exact Or.inr rfl) (pd_op od_add pd_int (pd_call (ok_law_draw T) (hr.mono (by decide)) (by rfl) T.g_law_draw T.F_law_draw.kp T.b_law_draw (ad_cons (dv 0) (ad_cons pd_int ad_nil)))))
    (sds_cons (sd_set (i := 4) sc_law_stretched.nd rfl (by first | exact Or.inl rfl | exact Or.inr rfl) (pd_op od_add (pd_callB cd_len (by rfl) T.n_len PySem.boot_len (ad_cons (pd_ix (dv 1) pd_int (fun _ _ => rfl)) ad_nil)) (dv 2)))
    (sds_cons (sd_setLcG (i := 5) fin_lst rfl sc_law_stretched.nd rfl rfl (sw_true rfl rfl rfl (by decide +kernel)) (id_rng1 (by rfl) T.n_range (ad_cons (dv 4) ad_nil)) (blkOk_by (own := [("x", 6)]) (N := n_law_stretched) (sc := defScope s_law_stretched) (by decide +kernel)) rfl tg_name (by decide) (fun _ _ _ _ _ => (pg_name (i := 6) sc_law_stretched.nd rfl (by first | exact Or.inl rfl | exact Or.inr rfl))) (fun _ _ _ _ _ => tsd_nil) (fun _ _ _ _ _ => (pd_call (ok_law_value T) (hr.mono (by decide)) (by rfl) T.g_law_value T.F_law_value.kp T.b_law_value (ad_cons (dv 1) (ad_cons (dv 6) ad_nil)))))
    (sds_cons (sd_set (i := 7) sc_law_stretched.nd rfl (by first | exact Or.inl rfl | exact Or.inr rfl) (pd_lstM ad_nil))
    (sds_cons (sd_for PassesOwn.never rfl (id_rng1 (by rfl) T.n_range (ad_cons (pd_op od_mul (pd_callB cd_len (by rfl) T.n_len PySem.boot_len (ad_cons (pd_ix (dv 1) pd_int (fun _ _ => rfl)) ad_nil)) (dv 3)) ad_nil)) (pg_name (i := 8) sc_law_stretched.nd rfl (by first | exact Or.inl rfl | exact Or.inr rfl)) tg_name (sds_cons (sd_set (i := 9) sc_law_stretched.nd rfl (by first | exact Or.inl rfl | exact Or.inr rfl) (pd_ix (pd_ix (pd_ix (dv 1) pd_int (fun _ _ => rfl)) (pd_op od_mod (pd_callTy cd_int (by rfl) T.n_int (by decide +kernel) (ad_cons (pd_op od_add (dv 2) (dv 8)) ad_nil)) (pd_callB cd_len (by rfl) T.n_len PySem.boot_len (ad_cons (pd_ix (dv 1) pd_int (fun _ _ => rfl)) ad_nil))) (fun _ _ => rfl)) pd_int (fun _ _ => rfl)))
    (sds_one (sd_expr (pd_append (dv 7) (ad_cons (pd_tup (ad_cons (pd_call (ok_law_value T) (hr.mono (by decide)) (by rfl) T.g_law_value T.F_law_value.kp T.b_law_value (ad_cons (dv 1) (ad_cons (pd_op od_add (dv 4) (dv 8)) ad_nil))) (ad_cons (pd_op od_mul (dv 9) (dv 3)) ad_nil))) ad_nil))))))
    (sds_one (sd_ret (pd_tup (ad_cons (pd_callTy cd_tuple (by rfl) T.n_tuple (by decide +kernel) (ad_cons (dv 5) ad_nil)) (ad_cons (pd_callTy cd_tuple (by rfl) T.n_tuple (by decide +kernel) (ad_cons (dv 7) ad_nil)) ad_nil)))))))))))) (rd_law_stretched)
theorem ok_law_int (T : Tx K mg base tb) : FnOk P w K mg base CX0 1 T.f_law_int T.d_law_int ["value"] (liSp K tb sp_law_int) :=
  Fun.okD T.F_law_int sc_law_int (len_law_int) (t := t_law_int) (fun cdv A outer s H E F0 R0 hr =>
    (sds_one (sd_ret (pd_and (pd_callB cd_isi (by rfl) T.n_isinstance (by decide +kernel) (ad_cons (dv 0) (ad_cons (pd_ty (by rfl) T.n_int (by decide +kernel)) ad_nil))) (pd_one (pd_not (pd_callB cd_isi (by rfl) T.n_isinstance (by decide +kernel) (ad_cons (dv 0) (ad_cons (pd_ty (by rfl) T.n_bool (by decide +kernel)) ad_nil))))))))) (rd_law_int)
theorem ok_law_is_form (T : Tx K mg base tb) : FnOk P w K mg base CX0 2 T.f_law_is_form T.d_law_is_form ["form"] (liSp K tb sp_law_is_form) :=
  Fun.okD T.F_law_is_form sc_law_is_form (len_law_is_form) (t := t_law_is_form) (fun cdv A outer s H E F0 R0 hr =>
    (sds_cons (sd_if (PW.pt (wd_or (td_not (td_tru (pd_callB cd_isi (by rfl) T.n_isinstance (by decide +kernel) (ad_cons (dv 0) (ad_cons (pd_ty (by rfl) T.n_tuple (by decide +kernel)) ad_nil))))) (wd_or1 (td_cmp (od_ne hr.units) (pd_callB cd_len (by rfl) T.n_len PySem.boot_len (ad_cons (dv 0) ad_nil)) pd_int (nomark _))))) (sds_one (sd_ret pd_bl)) sds_nil)
    (sds_cons (sd_if (PW.pt (wd_or (td_not (td_tru (pd_callB cd_isi (by rfl) T.n_isinstance (by decide +kernel) (ad_cons (pd_ix (dv 0) pd_int (fun _ _ => rfl)) (ad_cons (pd_ty (by rfl) T.n_tuple (by decide +kernel)) ad_nil))))) (wd_or (td_not (td_tru (pd_callB cd_isi (by rfl) T.n_isinstance (by decide +kernel) (ad_cons (pd_ix (dv 0) pd_int (fun _ _ => rfl)) (ad_cons (pd_ty (by rfl) T.n_tuple (by decide +kernel)) ad_nil))))) (wd_or1 (td_cmp (od_eq hr.units) (pd_callB cd_len (by rfl) T.n_len PySem.boot_len (ad_cons (pd_ix (dv 0) pd_int (fun _ _ => rfl)) ad_nil)) pd_int (nomark _)))))) (sds_one (sd_ret pd_bl)) sds_nil)
    (sds_cons (sd_for PassesOwn.never rfl (id_seq (pd_ix (dv 0) pd_int (fun _ _ => rfl))) (pg_name (i := 1) sc_law_is_form.nd rfl (by first | exact Or.inl rfl | exact Or.inr rfl)) tg_name (sds_one (sd_if (PW.pt (wd_and (td_cmp od_notN (dv 1) pd_non (nomark _)) (wd_and1 (td_not (td_tru (pd_call (ok_law_int T) (hr.mono (by decide)) (by rfl) T.g_law_int T.F_law_int.kp T.b_law_int (ad_cons (dv 1) ad_nil))))))) (sds_one (sd_ret pd_bl)) sds_nil)))
    (sds_cons (sd_for PassesOwn.never rfl (id_seq (pd_ix (dv 0) pd_int (fun _ _ => rfl))) (pg_name (i := 2) sc_law_is_form.nd rfl (by first | exact Or.inl rfl | exact Or.inr rfl)) tg_name (sds_cons (sd_if (PW.pt (wd_or (td_not (td_tru (pd_callB cd_isi (by rfl) T.n_isinstance (by decide +kernel) (ad_cons (dv 2) (ad_cons (pd_ty (by rfl) T.n_tuple (by decide +kernel)) ad_nil))))) (wd_or (td_cmp (od_ne hr.units) (pd_callB cd_len (by rfl) T.n_len PySem.boot_len (ad_cons (dv 2) ad_nil)) pd_int (nomark _)) (wd_or1 (td_not (td_tru (pd_call (ok_law_int T) (hr.mono (by decide)) (by rfl) T.g_law_int T.F_law_int.kp T.b_law_int (ad_cons (pd_ix (dv 2) pd_int (fun _ _ => rfl)) ad_nil)))))))) (sds_one (sd_ret pd_bl)) sds_nil)
    (sds_cons (sd_if (PW.pt (wd_and (td_cmp od_isN (pd_ix (dv 2) pd_int (fun _ _ => rfl)) pd_non (nomark _)) (wd_and1 (td_cmp (od_ne hr.units) (pd_ix (dv 2) pd_int (fun _ _ => rfl)) pd_int (nomark _))))) (sds_one (sd_ret pd_bl)) sds_nil)
    (sds_one (sd_if (PW.pt (wd_and (td_cmp od_notN (pd_ix (dv 2) pd_int (fun _ _ => rfl)) pd_non (nomark _)) (wd_and1 (td_not (td_tru (pd_call (ok_law_int T) (hr.mono (by decide)) (by rfl) T.g_law_int T.F_law_int.kp T.b_law_int (ad_cons (pd_ix (dv 2) pd_int (fun _ _ => rfl)) ad_nil))))))) (sds_one (sd_ret pd_bl)) sds_nil)))))
    (sds_one (sd_ret pd_bl))))))) (rd_law_is_form)
theorem ok_law_is_even (T : Tx K mg base tb) : FnOk P w K mg base CX0 2 T.f_law_is_even T.d_law_is_even ["form", "size"] (liSp K tb sp_law_is_even) :=
  Fun.okD T.F_law_is_even sc_law_is_even (len_law_is_even) (t := t_law_is_even) (fun cdv A outer s H E F0 R0 hr =>
    (sds_cons (sd_for PassesOwn.never rfl (id_rngA (by rfl) T.n_range (ad_cons (pd_callB cd_len (by rfl) T.n_len PySem.boot_len (ad_cons (pd_ix (dv 0) pd_int (fun _ _ => rfl)) ad_nil)) (ad_cons (pd_op od_add (pd_callB cd_len (by rfl) T.n_len PySem.boot_len (ad_cons (pd_ix (dv 0) pd_int (fun _ _ => rfl)) ad_nil)) (pd_op od_mul pd_int (pd_callB cd_len (by rfl) T.n_len PySem.boot_len (ad_cons (pd_ix (dv 0) pd_int (fun _ _ => rfl)) ad_nil)))) ad_nil))) (pg_name (i := 2) sc_law_is_even.nd rfl (by first | exact Or.inl rfl | exact Or.inr rfl)) tg_name (sds_cons (sd_set (i := 3) sc_law_is_even.nd rfl (by first | exact Or.inl rfl | exact Or.inr rfl) (pd_call (ok_law_value T) (hr.mono (by decide)) (by rfl) T.g_law_value T.F_law_value.kp T.b_law_value (ad_cons (dv 0) (ad_cons (dv 2) ad_nil))))
    (sds_cons (sd_set (i := 4) sc_law_is_even.nd rfl (by first | exact Or.inl rfl | exact Or.inr rfl) (pd_call (ok_law_value T) (hr.mono (by decide)) (by rfl) T.g_law_value T.F_law_value.kp T.b_law_value (ad_cons (dv 0) (ad_cons (pd_op od_add (dv 2) (dv 1)) ad_nil))))
    (sds_cons (sd_set (i := 5) sc_law_is_even.nd rfl (by first | exact Or.inl rfl | exact Or.inr rfl) (pd_call (ok_law_value T) (hr.mono (by decide)) (by rfl) T.g_law_value T.F_law_value.kp T.b_law_value (ad_cons (dv 0) (ad_cons (pd_op od_add (dv 2) (pd_op od_mul pd_int (dv 1))) ad_nil))))
    (sds_one (sd_if (PW.pt (wd_or (td_cmp od_isN (dv 3) pd_non (nomark _)) (wd_or (td_cmp od_isN (dv 4) pd_non (nomark _)) (wd_or1 (td_cmp od_isN (dv 5) pd_non (nomark _)))))) (sds_one (sd_if (PW.pt (wd_or (td_cmp od_notN (dv 3) pd_non (nomark _)) (wd_or (td_cmp od_notN (dv 4) pd_non (nomark _)) (wd_or1 (td_cmp od_notN (dv 5) pd_non (nomark _)))))) (sds_one (sd_ret pd_bl)) sds_nil)) (sds_one (sd_if (td_cmp (od_ne hr.units) (pd_op od_sub (dv 5) (dv 4)) (pd_op od_sub (dv 4) (dv 3)) (nomark _)) (sds_one (sd_ret pd_bl)) sds_nil))))))))
    (sds_one (sd_ret pd_bl)))) (rd_law_is_even)
theorem ok_law_is_normal (T : Tx K mg base tb) : FnOk P w K mg base CX0 3 T.f_law_is_normal T.d_law_is_normal ["form"] (liSp K tb sp_law_is_normal) :=
  Fun.okD T.F_law_is_normal sc_law_is_normal (len_law_is_normal) (t := t_law_is_normal) (fun cdv A outer s H E F0 R0 hr =>
    (sds_cons (sd_if (td_not (td_tru (pd_call (ok_law_is_form T) (hr.mono (by decide)) (by rfl) T.g_law_is_form T.F_law_is_form.kp T.b_law_is_form (ad_cons (dv 0) ad_nil)))) (sds_one (sd_ret pd_bl)) sds_nil)
    (sds_cons (sd_for PassesOwn.never rfl (id_rngA (by rfl) T.n_range (ad_cons pd_int (ad_cons (pd_callB cd_len (by rfl) T.n_len PySem.boot_len (ad_cons (pd_ix (dv 0) pd_int (fun _ _ => rfl)) ad_nil)) ad_nil))) (pg_name (i := 1) sc_law_is_normal.nd rfl (by first | exact Or.inl rfl | exact Or.inr rfl)) tg_name (sds_one (sd_if (PW.pt (wd_and (td_cmp (od_eq hr.units) (pd_op od_mod (pd_callTy cd_int (by rfl) T.n_int (by decide +kernel) (ad_cons (pd_callB cd_len (by rfl) T.n_len PySem.boot_len (ad_cons (pd_ix (dv 0) pd_int (fun _ _ => rfl)) ad_nil)) ad_nil)) (dv 1)) pd_int (nomark _)) (wd_and1 (td_tru (pd_call (ok_law_is_even T) (hr.mono (by decide)) (by rfl) T.g_law_is_even T.F_law_is_even.kp T.b_law_is_even (ad_cons (dv 0) (ad_cons (dv 1) ad_nil))))))) (sds_one (sd_ret pd_bl)) sds_nil)))
    (sds_cons (sd_if (td_cmp (od_eq hr.units) (pd_callB cd_len (by rfl) T.n_len PySem.boot_len (ad_cons (pd_ix (dv 0) pd_int (fun _ _ => rfl)) ad_nil)) pd_int (nomark _)) (sds_one (sd_ret pd_bl)) sds_nil)
    (sds_cons (sd_unp rfl (GNames.cons (pg_name (i := 2) sc_law_is_normal.nd rfl (by first | exact Or.inl rfl | exact Or.inr rfl)) (GNames.cons (pg_name (i := 3) sc_law_is_normal.nd rfl (by first | exact Or.inl rfl | exact Or.inr rfl)) GNames.nil rfl) rfl) (pd_ix (pd_ix (dv 0) pd_int (fun _ _ => rfl)) (pd_op od_sub (pd_callB cd_len (by rfl) T.n_len PySem.boot_len (ad_cons (pd_ix (dv 0) pd_int (fun _ _ => rfl)) ad_nil)) pd_int) (fun _ _ => rfl)))
    (sds_cons (sd_if (td_cmp od_notN (dv 2) pd_non (nomark _)) (sds_one (sd_set (i := 2) sc_law_is_normal.nd rfl (by first | exact Or.inl rfl | exact Or.inr rfl) (pd_op od_sub (dv 2) (dv 3)))) sds_nil)
    (sds_one (sd_ret (pd_cmp (od_ne hr.units) (pd_ix (pd_ix (dv 0) pd_int (fun _ _ => rfl)) (pd_op od_sub (pd_callB cd_len (by rfl) T.n_len PySem.boot_len (ad_cons (pd_ix (dv 0) pd_int (fun _ _ => rfl)) ad_nil)) pd_int) (fun _ _ => rfl)) (dv 2) (nomark _)))))))))) (rd_law_is_normal)
theorem ok_law_rule (T : Tx K mg base tb) : FnOk P w K mg base CX0 2 T.f_law_rule T.d_law_rule ["state"] (liSp K tb sp_law_rule) :=
  Fun.okD T.F_law_rule sc_law_rule (len_law_rule) (t := t_law_rule) (fun cdv A outer s H E F0 R0 hr =>
    (sds_cons (sd_set (i := 1) sc_law_rule.nd rfl (by first | exact Or.inl rfl | exact Or.inr rfl) (pd_op od_add pd_int (pd_call (ok_law_draw T) (hr.mono (by decide)) (by rfl) T.g_law_draw T.F_law_draw.kp T.b_law_draw (ad_cons (dv 0) (ad_cons pd_int ad_nil)))))
    (sds_cons (sd_set (i := 2) sc_law_rule.nd rfl (by first | exact Or.inl rfl | exact Or.inr rfl) (pd_ix (pd_lst (ad_cons pd_int (ad_cons (pd_op od_add pd_int (pd_call (ok_law_draw T) (hr.mono (by decide)) (by rfl) T.g_law_draw T.F_law_draw.kp T.b_law_draw (ad_cons (dv 0) (ad_cons pd_int ad_nil)))) (ad_cons (pd_op od_add pd_int (pd_call (ok_law_draw T) (hr.mono (by decide)) (by rfl) T.g_law_draw T.F_law_draw.kp T.b_law_draw (ad_cons (dv 0) (ad_cons pd_int ad_nil)))) ad_nil)))) (pd_call (ok_law_draw T) (hr.mono (by decide)) (by rfl) T.g_law_draw T.F_law_draw.kp T.b_law_draw (ad_cons (dv 0) (ad_cons pd_int ad_nil))) (fun _ _ => rfl)))
    (sds_cons (sd_set (i := 3) sc_law_rule.nd rfl (by first | exact Or.inl rfl | exact Or.inr rfl) (pd_ix (pd_lst (ad_cons pd_int (ad_cons (pd_call (ok_law_draw T) (hr.mono (by decide)) (by rfl) T.g_law_draw T.F_law_draw.kp T.b_law_draw (ad_cons (dv 0) (ad_cons pd_int ad_nil))) (ad_cons (pd_call (ok_law_draw T) (hr.mono (by decide)) (by rfl) T.g_law_draw T.F_law_draw.kp T.b_law_draw (ad_cons (dv 0) (ad_cons pd_int ad_nil))) ad_nil)))) (pd_call (ok_law_draw T) (hr.mono (by decide)) (by rfl) T.g_law_draw T.F_law_draw.kp T.b_law_draw (ad_cons (dv 0) (ad_cons pd_int ad_nil))) (fun _ _ => rfl)))
    (sds_one (sd_ret (pd_tup (ad_cons (dv 1) (ad_cons (dv 2) (ad_cons (dv 3) ad_nil)))))))))) (rd_law_rule)
theorem ok_law_due (T : Tx K mg base tb) : FnOk P w K mg base CX0 1 T.f_law_due T.d_law_due ["rule", "missing"] (liSp K tb sp_law_due) :=
  Fun.okD T.F_law_due sc_law_due (len_law_due) (t := t_law_due) (fun cdv A outer s H E F0 R0 hr =>
    (sds_cons (sd_if (td_cmp od_isN (dv 1) pd_non (nomark _)) (sds_one (sd_ret pd_non)) sds_nil)
    (sds_cons (sd_if (td_cmp od_le (dv 1) pd_int (nomark _)) (sds_one (sd_ret pd_int)) sds_nil)
    (sds_cons (sd_set (i := 2) sc_law_due.nd rfl (by first | exact Or.inl rfl | exact Or.inr rfl) (pd_op od_mul (pd_ix (dv 0) pd_int (fun _ _ => rfl)) (dv 1)))
    (sds_cons (sd_if (td_cmp (od_ne hr.units) (pd_op od_mod (pd_callTy cd_int (by rfl) T.n_int (by decide +kernel) (ad_cons (dv 2) ad_nil)) (pd_ix (dv 0) pd_int (fun _ _ => rfl))) pd_int (nomark _)) (sds_one (sd_set (i := 2) sc_law_due.nd rfl (by first | exact Or.inl rfl | exact Or.inr rfl) (pd_op od_add (pd_op od_sub (dv 2) (pd_op od_mod (pd_callTy cd_int (by rfl) T.n_int (by decide +kernel) (ad_cons (dv 2) ad_nil)) (pd_ix (dv 0) pd_int (fun _ _ => rfl)))) (pd_ix (dv 0) pd_int (fun _ _ => rfl))))) sds_nil)
    (sds_cons (sd_if (td_cmp od_lt (dv 2) (pd_ix (dv 0) pd_int (fun _ _ => rfl)) (nomark _)) (sds_one (sd_ret (pd_ix (dv 0) pd_int (fun _ _ => rfl)))) sds_nil)
    (sds_one (sd_ret (dv 2))))))))) (rd_law_due)
theorem ok_law_is (T : Tx K mg base tb) : FnOk P w K mg base CX0 1 T.f_law_is T.d_law_is ["told", "due"] (liSp K tb sp_law_is) :=
  Fun.okD T.F_law_is sc_law_is (len_law_is) (t := t_law_is) (fun cdv A outer s H E F0 R0 hr =>
    (sds_one (sd_ret (pd_and (pd_callB cd_isi (by rfl) T.n_isinstance (by decide +kernel) (ad_cons (dv 0) (ad_cons (pd_ty (by rfl) T.n_int (by decide +kernel)) ad_nil))) (pd_and (pd_not (pd_callB cd_isi (by rfl) T.n_isinstance (by decide +kernel) (ad_cons (dv 0) (ad_cons (pd_ty (by rfl) T.n_bool (by decide +kernel)) ad_nil)))) (pd_one (pd_cmp (od_eq hr.units) (dv 0) (dv 1) (nomark _)))))))) (rd_law_is)
theorem ok_law_amounts_hold (T : Tx K mg base tb) : FnOk P w K mg base CX0 3 T.f_law_amounts_hold T.d_law_amounts_hold ["state", "rule"] (liSp K tb sp_law_amounts_hold) :=
  Fun.okD T.F_law_amounts_hold sc_law_amounts_hold (len_law_amounts_hold) (t := t_law_amounts_hold) (fun cdv A outer s H E F0 R0 hr =>
    (sds_cons (sd_set (i := 2) sc_law_amounts_hold.nd rfl (by first | exact Or.inl rfl | exact Or.inr rfl) (pd_lst (ad_cons (pd_un ud_neg pd_int) (ad_cons pd_int (ad_cons pd_int (ad_cons pd_int (ad_cons (pd_op od_sub (pd_un ud_neg pd_int) (pd_call (ok_law_far T) (hr.mono (by decide)) (by rfl) T.g_law_far T.F_law_far.kp T.b_law_far (ad_cons (dv 0) ad_nil))) (ad_cons (pd_call (ok_law_far T) (hr.mono (by decide)) (by rfl) T.g_law_far T.F_law_far.kp T.b_law_far (ad_cons (dv 0) ad_nil)) (ad_cons (pd_call (ok_law_draw T) (hr.mono (by decide)) (by rfl) T.g_law_draw T.F_law_draw.kp T.b_law_draw (ad_cons (dv 0) (ad_cons pd_int ad_nil))) ad_nil)))))))))
    (sds_cons (sd_for PassesOwn.never rfl (id_rng1 (by rfl) T.n_range (ad_cons pd_int ad_nil)) (pg_name (i := 3) sc_law_amounts_hold.nd rfl (by first | exact Or.inl rfl | exact Or.inr rfl)) tg_name (sds_cons (sd_set (i := 4) sc_law_amounts_hold.nd rfl (by first | exact Or.inl rfl | exact Or.inr rfl) (pd_op od_fdiv (pd_op od_mul (pd_ix (dv 1) pd_int (fun _ _ => rfl)) (pd_op od_add pd_int (pd_call (ok_law_draw T) (hr.mono (by decide)) (by rfl) T.g_law_draw T.F_law_draw.kp T.b_law_draw (ad_cons (dv 0) (ad_cons pd_int ad_nil))))) (pd_ix (dv 1) pd_int (fun _ _ => rfl))))
    (sds_one (sd_set (i := 2) sc_law_amounts_hold.nd rfl (by first | exact Or.inl rfl | exact Or.inr rfl) (pd_op od_add (dv 2) (pd_lst (ad_cons (pd_op od_sub (dv 4) pd_int) (ad_cons (dv 4) (ad_cons (pd_op od_add (dv 4) pd_int) ad_nil)))))))))
    (sds_cons (sd_set (i := 4) sc_law_amounts_hold.nd rfl (by first | exact Or.inl rfl | exact Or.inr rfl) (pd_op od_fdiv (pd_ix (dv 1) pd_int (fun _ _ => rfl)) (pd_ix (dv 1) pd_int (fun _ _ => rfl))))
    (sds_cons (sd_for PassesOwn.never rfl (id_seq (pd_op od_add (dv 2) (pd_lst (ad_cons (pd_op od_sub (dv 4) pd_int) (ad_cons (dv 4) (ad_cons (pd_op od_add (dv 4) pd_int) ad_nil)))))) (pg_name (i := 5) sc_law_amounts_hold.nd rfl (by first | exact Or.inl rfl | exact Or.inr rfl)) tg_name (sds_one (sd_if (td_not (td_tru (pd_call (ok_law_is T) (hr.mono (by decide)) (by rfl) T.g_law_is T.F_law_is.kp T.b_law_is (ad_cons (pd_call (ok_due_of T) (hr.mono (by decide)) (by rfl) T.g_due_of T.F_due_of.kp T.b_due_of (ad_cons (dv 1) (ad_cons (dv 5) ad_nil))) (ad_cons (pd_call (ok_law_due T) (hr.mono (by decide)) (by rfl) T.g_law_due T.F_law_due.kp T.b_law_due (ad_cons (dv 1) (ad_cons (dv 5) ad_nil))) ad_nil))))) (sds_one (sd_ret pd_bl)) sds_nil)))
    (sds_one (sd_ret pd_bl))))))) (rd_law_amounts_hold)
theorem ok_law_common (T : Tx K mg base tb) : FnOk P w K mg base CX0 1 T.f_law_common T.d_law_common ["one", "two"] (liSp K tb sp_law_common) :=
  Fun.okD T.F_law_common sc_law_common (len_law_common) (t := t_law_common) (fun cdv A outer s H E F0 R0 hr =>
    (sds_cons (sd_while PassesOwn.never (td_cmp (od_ne hr.units) (dv 1) pd_int (nomark _)) (sds_one (sd_par (i := 0) (j := 1) rfl sc_law_common.nd rfl rfl (by decide) rfl rfl (ad_cons (dv 1) (ad_cons (pd_op od_mod (pd_callTy cd_int (by rfl) T.n_int (by decide +kernel) (ad_cons (dv 0) ad_nil)) (dv 1)) ad_nil)) rfl)))
    (sds_one (sd_ret (dv 0))))) (rd_law_common)
theorem ok_law_period (T : Tx K mg base tb) : FnOk P w K mg base CX0 2 T.f_law_period T.d_law_period ["rule", "form"] (liSp K tb sp_law_period) :=
  Fun.okD T.F_law_period sc_law_period (len_law_period) (t := t_law_period) (fun cdv A outer s H E F0 R0 hr =>
    (sds_cons (sd_set (i := 2) sc_law_period.nd rfl (by first | exact Or.inl rfl | exact Or.inr rfl) pd_int)
    (sds_cons (sd_for PassesOwn.never rfl (id_seq (pd_ix (dv 1) pd_int (fun _ _ => rfl))) (pg_tup rfl (GNames.cons (pg_name (i := 3) sc_law_period.nd rfl (by first | exact Or.inl rfl | exact Or.inr rfl)) (GNames.cons (pg_name (i := 4) sc_law_period.nd rfl (by first | exact Or.inl rfl | exact Or.inr rfl)) GNames.nil rfl) rfl).pgs) (tg_of [3, 4]) (sds_one (sd_if (PW.pt (wd_and (td_cmp od_notN (dv 3) pd_non (nomark _)) (wd_and1 (td_cmp od_gt (dv 4) pd_int (nomark _))))) (sds_cons (sd_set (i := 5) sc_law_period.nd rfl (by first | exact Or.inl rfl | exact Or.inr rfl) (pd_op od_fdiv (pd_ix (dv 0) pd_int (fun _ _ => rfl)) (pd_call (ok_law_common T) (hr.mono (by decide)) (by rfl) T.g_law_common T.F_law_common.kp T.b_law_common (ad_cons (pd_ix (dv 0) pd_int (fun _ _ => rfl)) (ad_cons (pd_op od_mod (pd_callTy cd_int (by rfl) T.n_int (by decide +kernel) (ad_cons (pd_op od_mul (pd_ix (dv 0) pd_int (fun _ _ => rfl)) (dv 4)) ad_nil)) (pd_ix (dv 0) pd_int (fun _ _ => rfl))) ad_nil)))))
    (sds_one (sd_set (i := 2) sc_law_period.nd rfl (by first | exact Or.inl rfl | exact Or.inr rfl) (pd_op od_fdiv (pd_op od_mul (dv 2) (dv 5)) (pd_call (ok_law_common T) (hr.mono (by decide)) (by rfl) T.g_law_common T.F_law_common.kp T.b_law_common (ad_cons (dv 2) (ad_cons (dv 5) ad_nil))))))) sds_nil)))
    (sds_one (sd_ret (pd_op od_mul (dv 2) (pd_callB cd_len (by rfl) T.n_len PySem.boot_len (ad_cons (pd_ix (dv 1) pd_int (fun _ _ => rfl)) ad_nil)))))))) (rd_law_period)
theorem ok_law_less (T : Tx K mg base tb) : FnOk P w K mg base CX0 2 T.f_law_less T.d_law_less ["form", "x", "paid"] (liSp K tb sp_law_less) :=
  Fun.okD T.F_law_less sc_law_less (len_law_less) (t := t_law_less) (fun cdv A outer s H E F0 R0 hr =>
    (sds_cons (sd_set (i := 3) sc_law_less.nd rfl (by first | exact Or.inl rfl | exact Or.inr rfl) (pd_call (ok_law_value T) (hr.mono (by decide)) (by rfl) T.g_law_value T.F_law_value.kp T.b_law_value (ad_cons (dv 0) (ad_cons (dv 1) ad_nil))))
    (sds_cons (sd_if (td_cmp od_isN (dv 3) pd_non (nomark _)) (sds_one (sd_ret pd_non)) sds_nil)
    (sds_one (sd_ret (pd_op od_sub (dv 3) (dv 2))))))) (rd_law_less)
theorem ok_law_low (T : Tx K mg base tb) : FnOk P w K mg base CX0 2 T.f_law_low T.d_law_low ["state"] (liSp K tb sp_law_low) :=
  Fun.okD T.F_law_low sc_law_low (len_law_low) (t := t_law_low) (fun cdv A outer s H E F0 R0 hr =>
    (sds_cons (sd_setLcG (i := 1) fin_lst rfl sc_law_low.nd rfl rfl (sw_true rfl rfl rfl (by decide +kernel)) (id_rng1 (by rfl) T.n_range (ad_cons (pd_call (ok_law_draw T) (hr.mono (by decide)) (by rfl) T.g_law_draw T.F_law_draw.kp T.b_law_draw (ad_cons (dv 0) (ad_cons pd_int ad_nil))) ad_nil)) (blkOk_by (own := [("k", 2)]) (N := n_law_low) (sc := defScope s_law_low) (by decide +kernel)) rfl tg_name (by decide) (fun _ _ _ _ _ => (pg_name (i := 2) sc_law_low.nd rfl (by first | exact Or.inl rfl | exact Or.inr rfl))) (fun _ _ _ _ _ => tsd_nil) (fun _ _ _ _ _ => (pd_ix (pd_lst (ad_cons pd_non (ad_cons (pd_call (ok_law_draw T) (hr.mono (by decide)) (by rfl) T.g_law_draw T.F_law_draw.kp T.b_law_draw (ad_cons (dv 0) (ad_cons pd_int ad_nil))) ad_nil))) (pd_callTy cd_int (by rfl) T.n_int (by decide +kernel) (ad_cons (pd_cmp od_gt (pd_call (ok_law_draw T) (hr.mono (by decide)) (by rfl) T.g_law_draw T.F_law_draw.kp T.b_law_draw (ad_cons (dv 0) (ad_cons pd_int ad_nil))) pd_int (nomark _)) ad_nil)) (fun _ _ => rfl))))
    (sds_cons (sd_set (i := 3) sc_law_low.nd rfl (by first | exact Or.inl rfl | exact Or.inr rfl) (pd_lstM ad_nil))
    (sds_cons (sd_for PassesOwn.never rfl (id_rng1 (by rfl) T.n_range (ad_cons (pd_op od_add pd_int (pd_call (ok_law_draw T) (hr.mono (by decide)) (by rfl) T.g_law_draw T.F_law_draw.kp T.b_law_draw (ad_cons (dv 0) (ad_cons pd_int ad_nil)))) ad_nil)) (pg_name (i := 2) sc_law_low.nd rfl (by first | exact Or.inl rfl | exact Or.inr rfl)) tg_name (sds_cons (sd_set (i := 4) sc_law_low.nd rfl (by first | exact Or.inl rfl | exact Or.inr rfl) (pd_ix (pd_lst (ad_cons pd_int (ad_cons (pd_call (ok_law_draw T) (hr.mono (by decide)) (by rfl) T.g_law_draw T.F_law_draw.kp T.b_law_draw (ad_cons (dv 0) (ad_cons pd_int ad_nil))) (ad_cons (pd_op od_sub (pd_call (ok_law_draw T) (hr.mono (by decide)) (by rfl) T.g_law_draw T.F_law_draw.kp T.b_law_draw (ad_cons (dv 0) (ad_cons pd_int ad_nil))) pd_int) ad_nil)))) (pd_call (ok_law_draw T) (hr.mono (by decide)) (by rfl) T.g_law_draw T.F_law_draw.kp T.b_law_draw (ad_cons (dv 0) (ad_cons pd_int ad_nil))) (fun _ _ => rfl)))
    (sds_one (sd_expr (pd_append (dv 3) (ad_cons (pd_ix (pd_lst (ad_cons (pd_tup (ad_cons (pd_op od_sub (pd_call (ok_law_draw T) (hr.mono (by decide)) (by rfl) T.g_law_draw T.F_law_draw.kp T.b_law_draw (ad_cons (dv 0) (ad_cons pd_int ad_nil))) pd_int) (ad_cons (dv 4) ad_nil))) (ad_cons (pd_tup (ad_cons pd_non (ad_cons pd_int ad_nil))) ad_nil))) (pd_callTy cd_int (by rfl) T.n_int (by decide +kernel) (ad_cons (pd_cmp (od_eq hr.units) (pd_call (ok_law_draw T) (hr.mono (by decide)) (by rfl) T.g_law_draw T.F_law_draw.kp T.b_law_draw (ad_cons (dv 0) (ad_cons pd_int ad_nil))) pd_int (nomark _)) ad_nil)) (fun _ _ => rfl)) ad_nil))))))
    (sds_one (sd_ret (pd_tup (ad_cons (pd_callTy cd_tuple (by rfl) T.n_tuple (by decide +kernel) (ad_cons (dv 1) ad_nil)) (ad_cons (pd_callTy cd_tuple (by rfl) T.n_tuple (by decide +kernel) (ad_cons (dv 3) ad_nil)) ad_nil))))))))) (rd_law_low)
theorem ok_law_forms_hold (T : Tx K mg base tb) : FnOk P w K mg base CX0 14 T.f_law_forms_hold T.d_law_forms_hold ["state", "rule"] (liSp K tb sp_law_forms_hold) :=
  Fun.okD T.F_law_forms_hold sc_law_forms_hold (len_law_forms_hold) (t := (t_law_forms_hold ⟨P, w, K, mg, base, tb⟩)) (fun cdv A outer s H E F0 R0 hr =>
    (sds_cons (sd_set (i := 2) sc_law_forms_hold.nd rfl (by first | exact Or.inl rfl | exact Or.inr rfl) (pd_call (ok_law_low T) (hr.mono (by decide)) (by rfl) T.g_law_low T.F_law_low.kp T.b_law_low (ad_cons (dv 0) ad_nil)))
    (sds_cons (sd_set (i := 3) sc_law_forms_hold.nd rfl (by first | exact Or.inl rfl | exact Or.inr rfl) (pd_op od_mod (pd_callTy cd_int (by rfl) T.n_int (by decide +kernel) (ad_cons (pd_ix (dv 1) pd_int (fun _ _ => rfl)) ad_nil)) pd_int))
    (sds_cons (sd_set (i := 4) sc_law_forms_hold.nd rfl (by first | exact Or.inl rfl | exact Or.inr rfl) (pd_ix (dv 1) pd_int (fun _ _ => rfl)))
    (sds_cons (sd_if (td_cmp od_gt (pd_call (ok_law_period T) (hr.mono (by decide)) (by rfl) T.g_law_period T.F_law_period.kp T.b_law_period (ad_cons (pd_tup (ad_cons (pd_ix (dv 1) pd_int (fun _ _ => rfl)) (ad_cons (dv 4) (ad_cons (dv 3) ad_nil)))) (ad_cons (dv 2) ad_nil))) pd_int (nomark _)) (sds_one (sd_set (i := 4) sc_law_forms_hold.nd rfl (by first | exact Or.inl rfl | exact Or.inr rfl) (pd_op od_add pd_int (pd_op od_mod (pd_callTy cd_int (by rfl) T.n_int (by decide +kernel) (ad_cons (dv 4) ad_nil)) pd_int)))) sds_nil)
    (sds_cons (sd_if (td_cmp od_gt (pd_call (ok_law_period T) (hr.mono (by decide)) (by rfl) T.g_law_period T.F_law_period.kp T.b_law_period (ad_cons (pd_tup (ad_cons (pd_ix (dv 1) pd_int (fun _ _ => rfl)) (ad_cons (dv 4) (ad_cons (dv 3) ad_nil)))) (ad_cons (dv 2) ad_nil))) pd_int (nomark _)) (sds_one (sd_set (i := 4) sc_law_forms_hold.nd rfl (by first | exact Or.inl rfl | exact Or.inr rfl) pd_int)) sds_nil)
    (sds_cons (sd_set (i := 1) sc_law_forms_hold.nd rfl (by first | exact Or.inl rfl | exact Or.inr rfl) (pd_tup (ad_cons (pd_ix (dv 1) pd_int (fun _ _ => rfl)) (ad_cons (dv 4) (ad_cons (dv 3) ad_nil)))))
    (sds_cons (sd_set (i := 5) sc_law_forms_hold.nd rfl (by first | exact Or.inl rfl | exact Or.inr rfl) (pd_op od_sub (pd_call (ok_law_draw T) (hr.mono (by decide)) (by rfl) T.g_law_draw T.F_law_draw.kp T.b_law_draw (ad_cons (dv 0) (ad_cons pd_int ad_nil))) pd_int))
    (sds_cons (sd_set (i := 6) sc_law_forms_hold.nd rfl (by first | exact Or.inl rfl | exact Or.inr rfl) (pd_callX noX (ok_due_form T) (hr.mono (by decide)) (by rfl) T.g_due_form T.F_due_form.kp T.b_due_form passL (ad_cons (dv 1) (ad_cons (dv 2) (ad_cons (dv 5) ad_nil)))))
    (sds_cons (sd_if (td_not (td_tru (pd_call (ok_law_is_normal T) (hr.mono (by decide)) (by rfl) T.g_law_is_normal T.F_law_is_normal.kp T.b_law_is_normal (ad_cons (dv 6) ad_nil)))) (sds_one (sd_ret pd_bl)) sds_nil)
    (sds_cons (sd_set (i := 7) sc_law_forms_hold.nd rfl (by first | exact Or.inl rfl | exact Or.inr rfl) (pd_op od_add (pd_op od_add (pd_callB cd_len (by rfl) T.n_len PySem.boot_len (ad_cons (pd_ix (dv 2) pd_int (fun _ _ => rfl)) ad_nil)) (pd_op od_mul pd_int (pd_callB cd_len (by rfl) T.n_len PySem.boot_len (ad_cons (pd_ix (dv 2) pd_int (fun _ _ => rfl)) ad_nil)))) (pd_op od_mul pd_int (pd_call (ok_law_period T) (hr.mono (by decide)) (by rfl) T.g_law_period T.F_law_period.kp T.b_law_period (ad_cons (dv 1) (ad_cons (dv 2) ad_nil))))))
    (sds_cons (sd_for PassesOwn.never rfl (id_seq (pd_op od_add (pd_lcG fin_lst rfl sc_law_forms_hold.nd (id_rng1 (by rfl) T.n_range (ad_cons (dv 7) ad_nil)) (blkOk_by (own := [("x", 8)]) (N := n_law_forms_hold) (sc := defScope s_law_forms_hold) (by decide +kernel)) rfl tg_name (by decide) (fun _ _ _ _ _ => (pg_name (i := 8) sc_law_forms_hold.nd rfl (by first | exact Or.inl rfl | exact Or.inr rfl))) (fun _ _ _ _ _ => tsd_nil) (fun _ _ _ _ _ => (dv 8))) (pd_lst (ad_cons (pd_call (ok_law_far T) (hr.mono (by decide)) (by rfl) T.g_law_far T.F_law_far.kp T.b_law_far (ad_cons (dv 0) ad_nil)) (ad_cons (pd_call (ok_law_far T) (hr.mono (by decide)) (by rfl) T.g_law_far T.F_law_far.kp T.b_law_far (ad_cons (dv 0) ad_nil)) (ad_cons (pd_op od_add (dv 7) (pd_call (ok_law_draw T) (hr.mono (by decide)) (by rfl) T.g_law_draw T.F_law_draw.kp T.b_law_draw (ad_cons (dv 0) (ad_cons pd_int ad_nil)))) ad_nil)))))) (pg_name (i := 8) sc_law_forms_hold.nd rfl (by first | exact Or.inl rfl | exact Or.inr rfl)) tg_name (sds_one (sd_if (td_cmp (od_ne hr.units) (pd_call (ok_law_value T) (hr.mono (by decide)) (by rfl) T.g_law_value T.F_law_value.kp T.b_law_value (ad_cons (dv 6) (ad_cons (dv 8) ad_nil))) (pd_call (ok_law_due T) (hr.mono (by decide)) (by rfl) T.g_law_due T.F_law_due.kp T.b_law_due (ad_cons (dv 1) (ad_cons (pd_call (ok_law_less T) (hr.mono (by decide)) (by rfl) T.g_law_less T.F_law_less.kp T.b_law_less (ad_cons (dv 2) (ad_cons (dv 8) (ad_cons (dv 5) ad_nil)))) ad_nil))) (nomark _)) (sds_one (sd_ret pd_bl)) sds_nil)))
    (sds_one (sd_ret (pd_cmp (od_eq hr.units) (pd_callX noX (ok_due_form T) (hr.mono (by decide)) (by rfl) T.g_due_form T.F_due_form.kp T.b_due_form passL (ad_cons (dv 1) (ad_cons (pd_call (ok_law_stretched T) (hr.mono (by decide)) (by rfl) T.g_law_stretched T.F_law_stretched.kp T.b_law_stretched (ad_cons (dv 0) (ad_cons (dv 2) ad_nil))) (ad_cons (dv 5) ad_nil)))) (dv 6) (nomark _)))))))))))))))) (rd_law_forms_hold ⟨P, w, K, mg, base, tb⟩)
theorem ok_law_told (T : Tx K mg base tb) : FnOk P w K mg base CX0 14 T.f_law_told T.d_law_told ["rule", "form", "paid"] (liSp K tb (sp_law_told ⟨P, w, K, mg, base, tb⟩)) :=
  Fun.okD T.F_law_told sc_law_told (len_law_told ⟨P, w, K, mg, base, tb⟩) (t := (t_law_told ⟨P, w, K, mg, base, tb⟩)) (fun cdv A outer s H E F0 R0 hr =>
    (sds_one (sd_try rfl rfl (cv := exV ⟨P, w, K, mg, base, tb⟩ "TooLarge") (exV_of T.x_TooLarge.g) ⟨by rfl, by decide, Or.inl T.x_TooLarge.g⟩ T.x_TooLarge.m sds_nil (fun W pn xe FF RR E2 hE2 tk2 => (sds_one (sd_ret (pd_tup (ad_cons pd_str (ad_cons (pd_callS hE2 tk2 (ok_due_form T) (hr.mono (by decide)) (by rfl) T.g_due_form T.F_due_form.kp T.b_due_form (ad_cons (dv 0) (ad_cons (dv 1) (ad_cons (dv 2) ad_nil)))) ad_nil)))))) (fun a oe cls d pn hz hf => (sds_one (sd_ret (pd_tup (ad_cons pd_str (ad_cons pd_non ad_nil))))))))) (rd_law_told ⟨P, w, K, mg, base, tb⟩)
theorem ok_law_bounds_hold (T : Tx K mg base tb) : FnOk P w K mg base CX0 15 T.f_law_bounds_hold T.d_law_bounds_hold ["state"] (liSp K tb sp_law_bounds_hold) :=
  Fun.okD T.F_law_bounds_hold sc_law_bounds_hold (len_law_bounds_hold) (t := (t_law_bounds_hold ⟨P, w, K, mg, base, tb⟩)) (fun cdv A outer s H E F0 R0 hr =>
    (sds_cons (sd_set (i := 1) sc_law_bounds_hold.nd rfl (by first | exact Or.inl rfl | exact Or.inr rfl) (pd_callB (cd_max rfl) (by rfl) T.n_max (by decide +kernel) (ad_cons pd_int (ad_cons (pd_op od_sub (pd_op od_add pd_int (pd_call (ok_law_draw T) (hr.mono (by decide)) (by rfl) T.g_law_draw T.F_law_draw.kp T.b_law_draw (ad_cons (dv 0) (ad_cons pd_int ad_nil)))) pd_int) ad_nil))))
    (sds_cons (sd_set (i := 2) sc_law_bounds_hold.nd rfl (by first | exact Or.inl rfl | exact Or.inr rfl) (pd_ix (pd_lst (ad_cons pd_int (ad_cons pd_int (ad_cons (pd_op od_add pd_int (pd_call (ok_law_draw T) (hr.mono (by decide)) (by rfl) T.g_law_draw T.F_law_draw.kp T.b_law_draw (ad_cons (dv 0) (ad_cons pd_int ad_nil)))) ad_nil)))) (pd_call (ok_law_draw T) (hr.mono (by decide)) (by rfl) T.g_law_draw T.F_law_draw.kp T.b_law_draw (ad_cons (dv 0) (ad_cons pd_int ad_nil))) (fun _ _ => rfl)))
    (sds_cons (sd_if (td_cmp (od_eq hr.units) (pd_call (ok_law_draw T) (hr.mono (by decide)) (by rfl) T.g_law_draw T.F_law_draw.kp T.b_law_draw (ad_cons (dv 0) (ad_cons pd_int ad_nil))) pd_int (nomark _)) (sds_one (sd_set (i := 1) sc_law_bounds_hold.nd rfl (by first | exact Or.inl rfl | exact Or.inr rfl) (pd_op od_add pd_int (pd_call (ok_law_draw T) (hr.mono (by decide)) (by rfl) T.g_law_draw T.F_law_draw.kp T.b_law_draw (ad_cons (dv 0) (ad_cons pd_int ad_nil)))))) sds_nil)
    (sds_cons (sd_set (i := 3) sc_law_bounds_hold.nd rfl (by first | exact Or.inl rfl | exact Or.inr rfl) (pd_op od_add pd_int (pd_call (ok_law_draw T) (hr.mono (by decide)) (by rfl) T.g_law_draw T.F_law_draw.kp T.b_law_draw (ad_cons (dv 0) (ad_cons pd_int ad_nil)))))
    (sds_cons (sd_set (i := 4) sc_law_bounds_hold.nd rfl (by first | exact Or.inl rfl | exact Or.inr rfl) (pd_op od_fdiv (pd_op od_sub (pd_op od_add (dv 2) (dv 3)) pd_int) (dv 3)))
    (sds_cons (sd_set (i := 5) sc_law_bounds_hold.nd rfl (by first | exact Or.inl rfl | exact Or.inr rfl) (pd_op od_sub (dv 1) (pd_op od_mul (dv 4) (pd_callTy cd_int (by rfl) T.n_int (by decide +kernel) (ad_cons (pd_cmp od_gt (dv 4) pd_int (nomark _)) ad_nil)))))
    (sds_cons (sd_set (i := 6) sc_law_bounds_hold.nd rfl (by first | exact Or.inl rfl | exact Or.inr rfl) (pd_lstM (ad_cons (pd_tup (ad_cons (pd_tup (ad_cons (dv 3) (ad_cons pd_int (ad_cons (dv 2) ad_nil)))) (ad_cons (pd_tup (ad_cons (pd_tup ad_nil) (ad_cons (pd_tup (ad_cons (pd_tup (ad_cons pd_int (ad_cons pd_int ad_nil))) ad_nil)) ad_nil))) (ad_cons (dv 5) (ad_cons (dv 1) (ad_cons (pd_cmp od_gt (dv 1) pd_int (nomark _)) ad_nil)))))) ad_nil)))
    (sds_cons (sd_expr (pd_append (dv 6) (ad_cons (pd_tup (ad_cons (pd_tup (ad_cons (dv 3) (ad_cons pd_int (ad_cons pd_int ad_nil)))) (ad_cons (pd_tup (ad_cons (pd_tup ad_nil) (ad_cons (pd_tup (ad_cons (pd_tup (ad_cons (pd_op od_add (dv 1) pd_int) (ad_cons (pd_un ud_neg pd_int) ad_nil))) ad_nil)) ad_nil))) (ad_cons pd_int (ad_cons (dv 1) (ad_cons (pd_cmp od_gt (dv 1) pd_int (nomark _)) ad_nil)))))) ad_nil)))
    (sds_cons (sd_set (i := 7) sc_law_bounds_hold.nd rfl (by first | exact Or.inl rfl | exact Or.inr rfl) (pd_op od_sub (pd_op od_add pd_int (pd_call (ok_law_draw T) (hr.mono (by decide)) (by rfl) T.g_law_draw T.F_law_draw.kp T.b_law_draw (ad_cons (dv 0) (ad_cons pd_int ad_nil)))) pd_int))
    (sds_cons (sd_expr (pd_append (dv 6) (ad_cons (pd_tup (ad_cons (pd_tup (ad_cons pd_int (ad_cons (dv 7) (ad_cons pd_int ad_nil)))) (ad_cons (pd_tup (ad_cons (pd_tup ad_nil) (ad_cons (pd_tup (ad_cons (pd_tup (ad_cons pd_int (ad_cons pd_int ad_nil))) (ad_cons (pd_tup (ad_cons pd_int (ad_cons pd_int ad_nil))) ad_nil))) ad_nil))) (ad_cons (pd_un ud_neg pd_int) (ad_cons pd_int (ad_cons (pd_cmp od_gt (pd_op od_mul pd_int (dv 7)) pd_int (nomark _)) ad_nil)))))) ad_nil)))
    (sds_cons (sd_unp rfl (GNames.cons (pg_name (i := 8) sc_law_bounds_hold.nd rfl (by first | exact Or.inl rfl | exact Or.inr rfl)) (GNames.cons (pg_name (i := 9) sc_law_bounds_hold.nd rfl (by first | exact Or.inl rfl | exact Or.inr rfl)) (GNames.cons (pg_name (i := 5) sc_law_bounds_hold.nd rfl (by first | exact Or.inl rfl | exact Or.inr rfl)) (GNames.cons (pg_name (i := 10) sc_law_bounds_hold.nd rfl (by first | exact Or.inl rfl | exact Or.inr rfl)) (GNames.cons (pg_name (i := 11) sc_law_bounds_hold.nd rfl (by first | exact Or.inl rfl | exact Or.inr rfl)) GNames.nil rfl) rfl) rfl) rfl) rfl) (pd_ix (dv 6) (pd_call (ok_law_draw T) (hr.mono (by decide)) (by rfl) T.g_law_draw T.F_law_draw.kp T.b_law_draw (ad_cons (dv 0) (ad_cons pd_int ad_nil))) (fun _ _ => rfl)))
    (sds_cons (sd_unp rfl (GNames.cons (pg_name (i := 12) sc_law_bounds_hold.nd rfl (by first | exact Or.inl rfl | exact Or.inr rfl)) (GNames.cons (pg_name (i := 13) sc_law_bounds_hold.nd rfl (by first | exact Or.inl rfl | exact Or.inr rfl)) GNames.nil rfl) rfl) (pd_call (ok_law_told T) (hr.mono (by decide)) (by rfl) T.g_law_told T.F_law_told.kp T.b_law_told (ad_cons (dv 8) (ad_cons (dv 9) (ad_cons (dv 5) ad_nil)))))
    (sds_cons (sd_if (td_tru (dv 11)) (sds_one (sd_ret (pd_cmp (od_eq hr.units) (dv 12) pd_str (nomark _)))) sds_nil)
    (sds_cons (sd_if (PW.pt (wd_or (td_cmp (od_ne hr.units) (dv 12) pd_str (nomark _)) (wd_or (td_not (td_tru (pd_call (ok_law_is_form T) (hr.mono (by decide)) (by rfl) T.g_law_is_form T.F_law_is_form.kp T.b_law_is_form (ad_cons (dv 13) ad_nil)))) (wd_or1 (td_cmp (od_ne hr.units) (pd_callB cd_len (by rfl) T.n_len PySem.boot_len (ad_cons (pd_ix (dv 13) pd_int (fun _ _ => rfl)) ad_nil)) (dv 10) (nomark _)))))) (sds_one (sd_ret pd_bl)) sds_nil)
    (sds_cons (sd_for PassesOwn.never rfl (id_seq (pd_lst (ad_cons pd_int (ad_cons pd_int (ad_cons (pd_callB (cd_max rfl) (by rfl) T.n_max (by decide +kernel) (ad_cons pd_int (ad_cons (pd_op od_sub (dv 10) pd_int) ad_nil))) (ad_cons (dv 10) (ad_cons (pd_op od_add (dv 10) pd_int) (ad_cons (pd_op od_add (dv 10) pd_int) (ad_cons (pd_call (ok_law_draw T) (hr.mono (by decide)) (by rfl) T.g_law_draw T.F_law_draw.kp T.b_law_draw (ad_cons (dv 0) (ad_cons pd_int ad_nil))) (ad_cons (pd_call (ok_law_far T) (hr.mono (by decide)) (by rfl) T.g_law_far T.F_law_far.kp T.b_law_far (ad_cons (dv 0) ad_nil)) ad_nil)))))))))) (pg_name (i := 14) sc_law_bounds_hold.nd rfl (by first | exact Or.inl rfl | exact Or.inr rfl)) tg_name (sds_one (sd_if (td_cmp (od_ne hr.units) (pd_call (ok_law_value T) (hr.mono (by decide)) (by rfl) T.g_law_value T.F_law_value.kp T.b_law_value (ad_cons (dv 13) (ad_cons (dv 14) ad_nil))) (pd_call (ok_law_due T) (hr.mono (by decide)) (by rfl) T.g_law_due T.F_law_due.kp T.b_law_due (ad_cons (dv 8) (ad_cons (pd_call (ok_law_less T) (hr.mono (by decide)) (by rfl) T.g_law_less T.F_law_less.kp T.b_law_less (ad_cons (dv 9) (ad_cons (dv 14) (ad_cons (dv 5) ad_nil)))) ad_nil))) (nomark _)) (sds_one (sd_ret pd_bl)) sds_nil)))
    (sds_one (sd_ret pd_bl)))))))))))))))))) (rd_law_bounds_hold ⟨P, w, K, mg, base, tb⟩)
theorem ok_law (T : Tx K mg base tb) : FnOk P w K mg base CX0 16 T.f_law T.d_law ["script"] (liSp K tb sp_law) :=
  Fun.okD T.F_law sc_law (len_law) (t := t_law) (fun cdv A outer s H E F0 R0 hr =>
    (sds_cons (sd_set (i := 1) sc_law.nd rfl (by first | exact Or.inl rfl | exact Or.inr rfl) (pd_call (ok_law_state T) (hr.mono (by decide)) (by rfl) T.g_law_state T.F_law_state.kp T.b_law_state (ad_cons (dv 0) ad_nil)))
    (sds_cons (sd_set (i := 2) sc_law.nd rfl (by first | exact Or.inl rfl | exact Or.inr rfl) (pd_call (ok_law_rule T) (hr.mono (by decide)) (by rfl) T.g_law_rule T.F_law_rule.kp T.b_law_rule (ad_cons (dv 1) ad_nil)))
    (sds_one (sd_ret (pd_and (pd_call (ok_law_amounts_hold T) (hr.mono (by decide)) (by rfl) T.g_law_amounts_hold T.F_law_amounts_hold.kp T.b_law_amounts_hold (ad_cons (dv 1) (ad_cons (dv 2) ad_nil))) (pd_and (pd_call (ok_law_forms_hold T) (hr.mono (by decide)) (by rfl) T.g_law_forms_hold T.F_law_forms_hold.kp T.b_law_forms_hold (ad_cons (dv 1) (ad_cons (dv 2) ad_nil))) (pd_one (pd_call (ok_law_bounds_hold T) (hr.mono (by decide)) (by rfl) T.g_law_bounds_hold T.F_law_bounds_hold.kp T.b_law_bounds_hold (ad_cons (dv 1) ad_nil)))))))))) (rd_law)
end
set_option maxHeartbeats 8000000 in
theorem all_mk {l : PySem.W.OpenLaw} {w : World} {K : PySem.W.Frag} {h : Heap} {mg : Str → Option Value} {fa : Addr} (X : K.In h) (G : h.Ns mainGlobals mg) (hfa : mg "law" = some (.ref fa))
    {f0 : Addr} {od0 an0 : Option Addr} {sl0 : Array (Option Value)} {oc0 kV0 dc0 pm0 ct0 : Value} {cd0 : Value}
    (a0 : PySem.W.nsIn K mainGlobals "value_at" = some (some (.ref f0)))
    (l0 : K.lookup f0 = some ⟨oc0, od0, .func (PySem.W.fnOf "value_at" "value_at" (defArgs s_value_at) (defBody s_value_at) (defScope s_value_at) .none kV0 dc0 pm0 an0 cd0 ct0), sl0⟩)
    (c0 : PySem.W.codeIn K cd0 "value_at" = true) (k0 : PySem.W.keepIn K (.ref f0) = true)
    {f1 : Addr} {od1 an1 : Option Addr} {sl1 : Array (Option Value)} {oc1 kV1 dc1 pm1 ct1 : Value} {cd1 : Value}
    (a1 : PySem.W.nsIn K mainGlobals "_has_period" = some (some (.ref f1)))
    (l1 : K.lookup f1 = some ⟨oc1, od1, .func (PySem.W.fnOf "_has_period" "_has_period" (defArgs s_has_period) (defBody s_has_period) (defScope s_has_period) .none kV1 dc1 pm1 an1 cd1 ct1), sl1⟩)
    (c1 : PySem.W.codeIn K cd1 "_has_period" = true) (k1 : PySem.W.keepIn K (.ref f1) = true)
    {f2 : Addr} {od2 an2 : Option Addr} {sl2 : Array (Option Value)} {oc2 kV2 dc2 pm2 ct2 : Value} {cd2 : Value}
    (a2 : PySem.W.nsIn K mainGlobals "_shortest_tail" = some (some (.ref f2)))
    (l2 : K.lookup f2 = some ⟨oc2, od2, .func (PySem.W.fnOf "_shortest_tail" "_shortest_tail" (defArgs s_shortest_tail) (defBody s_shortest_tail) (defScope s_shortest_tail) .none kV2 dc2 pm2 an2 cd2 ct2), sl2⟩)
    (c2 : PySem.W.codeIn K cd2 "_shortest_tail" = true) (k2 : PySem.W.keepIn K (.ref f2) = true)
    {f3 : Addr} {od3 an3 : Option Addr} {sl3 : Array (Option Value)} {oc3 kV3 dc3 pm3 ct3 : Value} {cd3 : Value}
    (a3 : PySem.W.nsIn K mainGlobals "_continued" = some (some (.ref f3)))
    (l3 : K.lookup f3 = some ⟨oc3, od3, .func (PySem.W.fnOf "_continued" "_continued" (defArgs s_continued) (defBody s_continued) (defScope s_continued) .none kV3 dc3 pm3 an3 cd3 ct3), sl3⟩)
    (c3 : PySem.W.codeIn K cd3 "_continued" = true) (k3 : PySem.W.keepIn K (.ref f3) = true)
    {f4 : Addr} {od4 an4 : Option Addr} {sl4 : Array (Option Value)} {oc4 kV4 dc4 pm4 ct4 : Value} {cd4 : Value}
    (a4 : PySem.W.nsIn K mainGlobals "normal" = some (some (.ref f4)))
    (l4 : K.lookup f4 = some ⟨oc4, od4, .func (PySem.W.fnOf "normal" "normal" (defArgs s_normal) (defBody s_normal) (defScope s_normal) .none kV4 dc4 pm4 an4 cd4 ct4), sl4⟩)
    (c4 : PySem.W.codeIn K cd4 "normal" = true) (k4 : PySem.W.keepIn K (.ref f4) = true)
    {f5 : Addr} {od5 an5 : Option Addr} {sl5 : Array (Option Value)} {oc5 kV5 dc5 pm5 ct5 : Value} {cd5 : Value}
    (a5 : PySem.W.nsIn K mainGlobals "check_period" = some (some (.ref f5)))
    (l5 : K.lookup f5 = some ⟨oc5, od5, .func (PySem.W.fnOf "check_period" "check_period" (defArgs s_check_period) (defBody s_check_period) (defScope s_check_period) .none kV5 dc5 pm5 an5 cd5 ct5), sl5⟩)
    (c5 : PySem.W.codeIn K cd5 "check_period" = true) (k5 : PySem.W.keepIn K (.ref f5) = true)
    {f6 : Addr} {od6 an6 : Option Addr} {sl6 : Array (Option Value)} {oc6 kV6 dc6 pm6 ct6 : Value} {cd6 : Value}
    (a6 : PySem.W.nsIn K mainGlobals "first_of_class" = some (some (.ref f6)))
    (l6 : K.lookup f6 = some ⟨oc6, od6, .func (PySem.W.fnOf "first_of_class" "first_of_class" (defArgs s_first_of_class) (defBody s_first_of_class) (defScope s_first_of_class) .none kV6 dc6 pm6 an6 cd6 ct6), sl6⟩)
    (c6 : PySem.W.codeIn K cd6 "first_of_class" = true) (k6 : PySem.W.keepIn K (.ref f6) = true)
    {f7 : Addr} {od7 an7 : Option Addr} {sl7 : Array (Option Value)} {oc7 kV7 dc7 pm7 ct7 : Value} {cd7 : Value}
    (a7 : PySem.W.nsIn K mainGlobals "_line" = some (some (.ref f7)))
    (l7 : K.lookup f7 = some ⟨oc7, od7, .func (PySem.W.fnOf "_line" "_line" (defArgs s_line) (defBody s_line) (defScope s_line) .none kV7 dc7 pm7 an7 cd7 ct7), sl7⟩)
    (c7 : PySem.W.codeIn K cd7 "_line" = true) (k7 : PySem.W.keepIn K (.ref f7) = true)
    {f8 : Addr} {od8 an8 : Option Addr} {sl8 : Array (Option Value)} {oc8 kV8 dc8 pm8 ct8 : Value} {cd8 : Value}
    (a8 : PySem.W.nsIn K mainGlobals "assemble" = some (some (.ref f8)))
    (l8 : K.lookup f8 = some ⟨oc8, od8, .func (PySem.W.fnOf "assemble" "assemble" (defArgs s_assemble) (defBody s_assemble) (defScope s_assemble) .none kV8 dc8 pm8 an8 cd8 ct8), sl8⟩)
    (c8 : PySem.W.codeIn K cd8 "assemble" = true) (k8 : PySem.W.keepIn K (.ref f8) = true)
    {f9 : Addr} {od9 an9 : Option Addr} {sl9 : Array (Option Value)} {oc9 kV9 dc9 pm9 ct9 : Value} {cd9 : Value}
    (a9 : PySem.W.nsIn K mainGlobals "line_at" = some (some (.ref f9)))
    (l9 : K.lookup f9 = some ⟨oc9, od9, .func (PySem.W.fnOf "line_at" "line_at" (defArgs s_line_at) (defBody s_line_at) (defScope s_line_at) .none kV9 dc9 pm9 an9 cd9 ct9), sl9⟩)
    (c9 : PySem.W.codeIn K cd9 "line_at" = true) (k9 : PySem.W.keepIn K (.ref f9) = true)
    {f10 : Addr} {od10 an10 : Option Addr} {sl10 : Array (Option Value)} {oc10 kV10 dc10 pm10 ct10 : Value} {cd10 : Value}
    (a10 : PySem.W.nsIn K mainGlobals "own_starts" = some (some (.ref f10)))
    (l10 : K.lookup f10 = some ⟨oc10, od10, .func (PySem.W.fnOf "own_starts" "own_starts" (defArgs s_own_starts) (defBody s_own_starts) (defScope s_own_starts) .none kV10 dc10 pm10 an10 cd10 ct10), sl10⟩)
    (c10 : PySem.W.codeIn K cd10 "own_starts" = true) (k10 : PySem.W.keepIn K (.ref f10) = true)
    {f11 : Addr} {od11 an11 : Option Addr} {sl11 : Array (Option Value)} {oc11 kV11 dc11 pm11 ct11 : Value} {cd11 : Value}
    (a11 : PySem.W.nsIn K mainGlobals "round_period" = some (some (.ref f11)))
    (l11 : K.lookup f11 = some ⟨oc11, od11, .func (PySem.W.fnOf "round_period" "round_period" (defArgs s_round_period) (defBody s_round_period) (defScope s_round_period) .none kV11 dc11 pm11 an11 cd11 ct11), sl11⟩)
    (c11 : PySem.W.codeIn K cd11 "round_period" = true) (k11 : PySem.W.keepIn K (.ref f11) = true)
    {f12 : Addr} {od12 an12 : Option Addr} {sl12 : Array (Option Value)} {oc12 kV12 dc12 pm12 ct12 : Value} {cd12 : Value}
    (a12 : PySem.W.nsIn K mainGlobals "due_of" = some (some (.ref f12)))
    (l12 : K.lookup f12 = some ⟨oc12, od12, .func (PySem.W.fnOf "due_of" "due_of" (defArgs s_due_of) (defBody s_due_of) (defScope s_due_of) .none kV12 dc12 pm12 an12 cd12 ct12), sl12⟩)
    (c12 : PySem.W.codeIn K cd12 "due_of" = true) (k12 : PySem.W.keepIn K (.ref f12) = true)
    {f13 : Addr} {od13 an13 : Option Addr} {sl13 : Array (Option Value)} {oc13 kV13 dc13 pm13 ct13 : Value} {cd13 : Value}
    (a13 : PySem.W.nsIn K mainGlobals "_due_value" = some (some (.ref f13)))
    (l13 : K.lookup f13 = some ⟨oc13, od13, .func (PySem.W.fnOf "_due_value" "_due_value" (defArgs s_due_value) (defBody s_due_value) (defScope s_due_value) .none kV13 dc13 pm13 an13 cd13 ct13), sl13⟩)
    (c13 : PySem.W.codeIn K cd13 "_due_value" = true) (k13 : PySem.W.keepIn K (.ref f13) = true)
    {f14 : Addr} {od14 an14 : Option Addr} {sl14 : Array (Option Value)} {oc14 kV14 dc14 pm14 ct14 : Value} {cd14 : Value}
    (a14 : PySem.W.nsIn K mainGlobals "_settled_due" = some (some (.ref f14)))
    (l14 : K.lookup f14 = some ⟨oc14, od14, .func (PySem.W.fnOf "_settled_due" "_settled_due" (defArgs s_settled_due) (defBody s_settled_due) (defScope s_settled_due) .none kV14 dc14 pm14 an14 cd14 ct14), sl14⟩)
    (c14 : PySem.W.codeIn K cd14 "_settled_due" = true) (k14 : PySem.W.keepIn K (.ref f14) = true)
    {f15 : Addr} {od15 an15 : Option Addr} {sl15 : Array (Option Value)} {oc15 kV15 dc15 pm15 ct15 : Value} {cd15 : Addr}
    (a15 : PySem.W.nsIn K mainGlobals "due_form" = some (some (.ref f15)))
    (l15 : K.lookup f15 = some ⟨oc15, od15, .func (PySem.W.fnOf "due_form" "due_form" (defArgs s_due_form) (defBody s_due_form) (defScope s_due_form) .none kV15 dc15 pm15 an15 (.ref cd15) ct15), sl15⟩)
    (c15 : PySem.W.codeIn K (.ref cd15) "due_form" = true) (k15 : PySem.W.keepIn K (.ref f15) = true)
    {xc15 : Value} {xd15 : Option Addr} {xv15 : Array Value} {xn15 : Array (Option Value)} {pp15 : Addr} (o15 : K.lookup cd15 = some ⟨xc15, xd15, .fields xv15, xn15⟩) (v15 : xv15[11]? = some (.ref pp15)) (h15 : PySem.W.codeHdIn K cd15 pp15 = true) (n15 : K.lookup pp15 = none) (t15 : h.get? pp15 = some (PySem.W.tabObj #[]))
    {f16 : Addr} {od16 an16 : Option Addr} {sl16 : Array (Option Value)} {oc16 kV16 dc16 pm16 ct16 : Value} {cd16 : Value}
    (a16 : PySem.W.nsIn K mainGlobals "_law_state" = some (some (.ref f16)))
    (l16 : K.lookup f16 = some ⟨oc16, od16, .func (PySem.W.fnOf "_law_state" "_law_state" (defArgs s_law_state) (defBody s_law_state) (defScope s_law_state) .none kV16 dc16 pm16 an16 cd16 ct16), sl16⟩)
    (c16 : PySem.W.codeIn K cd16 "_law_state" = true) (k16 : PySem.W.keepIn K (.ref f16) = true)
    {f17 : Addr} {od17 an17 : Option Addr} {sl17 : Array (Option Value)} {oc17 kV17 dc17 pm17 ct17 : Value} {cd17 : Value}
    (a17 : PySem.W.nsIn K mainGlobals "_law_draw" = some (some (.ref f17)))
    (l17 : K.lookup f17 = some ⟨oc17, od17, .func (PySem.W.fnOf "_law_draw" "_law_draw" (defArgs s_law_draw) (defBody s_law_draw) (defScope s_law_draw) .none kV17 dc17 pm17 an17 cd17 ct17), sl17⟩)
    (c17 : PySem.W.codeIn K cd17 "_law_draw" = true) (k17 : PySem.W.keepIn K (.ref f17) = true)
    {f18 : Addr} {od18 an18 : Option Addr} {sl18 : Array (Option Value)} {oc18 kV18 dc18 pm18 ct18 : Value} {cd18 : Value}
    (a18 : PySem.W.nsIn K mainGlobals "_law_far" = some (some (.ref f18)))
    (l18 : K.lookup f18 = some ⟨oc18, od18, .func (PySem.W.fnOf "_law_far" "_law_far" (defArgs s_law_far) (defBody s_law_far) (defScope s_law_far) .none kV18 dc18 pm18 an18 cd18 ct18), sl18⟩)
    (c18 : PySem.W.codeIn K cd18 "_law_far" = true) (k18 : PySem.W.keepIn K (.ref f18) = true)
    {f19 : Addr} {od19 an19 : Option Addr} {sl19 : Array (Option Value)} {oc19 kV19 dc19 pm19 ct19 : Value} {cd19 : Value}
    (a19 : PySem.W.nsIn K mainGlobals "_law_value" = some (some (.ref f19)))
    (l19 : K.lookup f19 = some ⟨oc19, od19, .func (PySem.W.fnOf "_law_value" "_law_value" (defArgs s_law_value) (defBody s_law_value) (defScope s_law_value) .none kV19 dc19 pm19 an19 cd19 ct19), sl19⟩)
    (c19 : PySem.W.codeIn K cd19 "_law_value" = true) (k19 : PySem.W.keepIn K (.ref f19) = true)
    {f20 : Addr} {od20 an20 : Option Addr} {sl20 : Array (Option Value)} {oc20 kV20 dc20 pm20 ct20 : Value} {cd20 : Value}
    (a20 : PySem.W.nsIn K mainGlobals "_law_stretched" = some (some (.ref f20)))
    (l20 : K.lookup f20 = some ⟨oc20, od20, .func (PySem.W.fnOf "_law_stretched" "_law_stretched" (defArgs s_law_stretched) (defBody s_law_stretched) (defScope s_law_stretched) .none kV20 dc20 pm20 an20 cd20 ct20), sl20⟩)
    (c20 : PySem.W.codeIn K cd20 "_law_stretched" = true) (k20 : PySem.W.keepIn K (.ref f20) = true)
    {f21 : Addr} {od21 an21 : Option Addr} {sl21 : Array (Option Value)} {oc21 kV21 dc21 pm21 ct21 : Value} {cd21 : Value}
    (a21 : PySem.W.nsIn K mainGlobals "_law_int" = some (some (.ref f21)))
    (l21 : K.lookup f21 = some ⟨oc21, od21, .func (PySem.W.fnOf "_law_int" "_law_int" (defArgs s_law_int) (defBody s_law_int) (defScope s_law_int) .none kV21 dc21 pm21 an21 cd21 ct21), sl21⟩)
    (c21 : PySem.W.codeIn K cd21 "_law_int" = true) (k21 : PySem.W.keepIn K (.ref f21) = true)
    {f22 : Addr} {od22 an22 : Option Addr} {sl22 : Array (Option Value)} {oc22 kV22 dc22 pm22 ct22 : Value} {cd22 : Value}
    (a22 : PySem.W.nsIn K mainGlobals "_law_is_form" = some (some (.ref f22)))
    (l22 : K.lookup f22 = some ⟨oc22, od22, .func (PySem.W.fnOf "_law_is_form" "_law_is_form" (defArgs s_law_is_form) (defBody s_law_is_form) (defScope s_law_is_form) .none kV22 dc22 pm22 an22 cd22 ct22), sl22⟩)
    (c22 : PySem.W.codeIn K cd22 "_law_is_form" = true) (k22 : PySem.W.keepIn K (.ref f22) = true)
    {f23 : Addr} {od23 an23 : Option Addr} {sl23 : Array (Option Value)} {oc23 kV23 dc23 pm23 ct23 : Value} {cd23 : Value}
    (a23 : PySem.W.nsIn K mainGlobals "_law_is_even" = some (some (.ref f23)))
    (l23 : K.lookup f23 = some ⟨oc23, od23, .func (PySem.W.fnOf "_law_is_even" "_law_is_even" (defArgs s_law_is_even) (defBody s_law_is_even) (defScope s_law_is_even) .none kV23 dc23 pm23 an23 cd23 ct23), sl23⟩)
    (c23 : PySem.W.codeIn K cd23 "_law_is_even" = true) (k23 : PySem.W.keepIn K (.ref f23) = true)
    {f24 : Addr} {od24 an24 : Option Addr} {sl24 : Array (Option Value)} {oc24 kV24 dc24 pm24 ct24 : Value} {cd24 : Value}
    (a24 : PySem.W.nsIn K mainGlobals "_law_is_normal" = some (some (.ref f24)))
    (l24 : K.lookup f24 = some ⟨oc24, od24, .func (PySem.W.fnOf "_law_is_normal" "_law_is_normal" (defArgs s_law_is_normal) (defBody s_law_is_normal) (defScope s_law_is_normal) .none kV24 dc24 pm24 an24 cd24 ct24), sl24⟩)
    (c24 : PySem.W.codeIn K cd24 "_law_is_normal" = true) (k24 : PySem.W.keepIn K (.ref f24) = true)
    {f25 : Addr} {od25 an25 : Option Addr} {sl25 : Array (Option Value)} {oc25 kV25 dc25 pm25 ct25 : Value} {cd25 : Value}
    (a25 : PySem.W.nsIn K mainGlobals "_law_rule" = some (some (.ref f25)))
    (l25 : K.lookup f25 = some ⟨oc25, od25, .func (PySem.W.fnOf "_law_rule" "_law_rule" (defArgs s_law_rule) (defBody s_law_rule) (defScope s_law_rule) .none kV25 dc25 pm25 an25 cd25 ct25), sl25⟩)
    (c25 : PySem.W.codeIn K cd25 "_law_rule" = true) (k25 : PySem.W.keepIn K (.ref f25) = true)
    {f26 : Addr} {od26 an26 : Option Addr} {sl26 : Array (Option Value)} {oc26 kV26 dc26 pm26 ct26 : Value} {cd26 : Value}
    (a26 : PySem.W.nsIn K mainGlobals "_law_due" = some (some (.ref f26)))
    (l26 : K.lookup f26 = some ⟨oc26, od26, .func (PySem.W.fnOf "_law_due" "_law_due" (defArgs s_law_due) (defBody s_law_due) (defScope s_law_due) .none kV26 dc26 pm26 an26 cd26 ct26), sl26⟩)
    (c26 : PySem.W.codeIn K cd26 "_law_due" = true) (k26 : PySem.W.keepIn K (.ref f26) = true)
    {f27 : Addr} {od27 an27 : Option Addr} {sl27 : Array (Option Value)} {oc27 kV27 dc27 pm27 ct27 : Value} {cd27 : Value}
    (a27 : PySem.W.nsIn K mainGlobals "_law_is" = some (some (.ref f27)))
    (l27 : K.lookup f27 = some ⟨oc27, od27, .func (PySem.W.fnOf "_law_is" "_law_is" (defArgs s_law_is) (defBody s_law_is) (defScope s_law_is) .none kV27 dc27 pm27 an27 cd27 ct27), sl27⟩)
    (c27 : PySem.W.codeIn K cd27 "_law_is" = true) (k27 : PySem.W.keepIn K (.ref f27) = true)
    {f28 : Addr} {od28 an28 : Option Addr} {sl28 : Array (Option Value)} {oc28 kV28 dc28 pm28 ct28 : Value} {cd28 : Value}
    (a28 : PySem.W.nsIn K mainGlobals "_law_amounts_hold" = some (some (.ref f28)))
    (l28 : K.lookup f28 = some ⟨oc28, od28, .func (PySem.W.fnOf "_law_amounts_hold" "_law_amounts_hold" (defArgs s_law_amounts_hold) (defBody s_law_amounts_hold) (defScope s_law_amounts_hold) .none kV28 dc28 pm28 an28 cd28 ct28), sl28⟩)
    (c28 : PySem.W.codeIn K cd28 "_law_amounts_hold" = true) (k28 : PySem.W.keepIn K (.ref f28) = true)
    {f29 : Addr} {od29 an29 : Option Addr} {sl29 : Array (Option Value)} {oc29 kV29 dc29 pm29 ct29 : Value} {cd29 : Value}
    (a29 : PySem.W.nsIn K mainGlobals "_law_common" = some (some (.ref f29)))
    (l29 : K.lookup f29 = some ⟨oc29, od29, .func (PySem.W.fnOf "_law_common" "_law_common" (defArgs s_law_common) (defBody s_law_common) (defScope s_law_common) .none kV29 dc29 pm29 an29 cd29 ct29), sl29⟩)
    (c29 : PySem.W.codeIn K cd29 "_law_common" = true) (k29 : PySem.W.keepIn K (.ref f29) = true)
    {f30 : Addr} {od30 an30 : Option Addr} {sl30 : Array (Option Value)} {oc30 kV30 dc30 pm30 ct30 : Value} {cd30 : Value}
    (a30 : PySem.W.nsIn K mainGlobals "_law_period" = some (some (.ref f30)))
    (l30 : K.lookup f30 = some ⟨oc30, od30, .func (PySem.W.fnOf "_law_period" "_law_period" (defArgs s_law_period) (defBody s_law_period) (defScope s_law_period) .none kV30 dc30 pm30 an30 cd30 ct30), sl30⟩)
    (c30 : PySem.W.codeIn K cd30 "_law_period" = true) (k30 : PySem.W.keepIn K (.ref f30) = true)
    {f31 : Addr} {od31 an31 : Option Addr} {sl31 : Array (Option Value)} {oc31 kV31 dc31 pm31 ct31 : Value} {cd31 : Value}
    (a31 : PySem.W.nsIn K mainGlobals "_law_less" = some (some (.ref f31)))
    (l31 : K.lookup f31 = some ⟨oc31, od31, .func (PySem.W.fnOf "_law_less" "_law_less" (defArgs s_law_less) (defBody s_law_less) (defScope s_law_less) .none kV31 dc31 pm31 an31 cd31 ct31), sl31⟩)
    (c31 : PySem.W.codeIn K cd31 "_law_less" = true) (k31 : PySem.W.keepIn K (.ref f31) = true)
    {f32 : Addr} {od32 an32 : Option Addr} {sl32 : Array (Option Value)} {oc32 kV32 dc32 pm32 ct32 : Value} {cd32 : Value}
    (a32 : PySem.W.nsIn K mainGlobals "_law_low" = some (some (.ref f32)))
    (l32 : K.lookup f32 = some ⟨oc32, od32, .func (PySem.W.fnOf "_law_low" "_law_low" (defArgs s_law_low) (defBody s_law_low) (defScope s_law_low) .none kV32 dc32 pm32 an32 cd32 ct32), sl32⟩)
    (c32 : PySem.W.codeIn K cd32 "_law_low" = true) (k32 : PySem.W.keepIn K (.ref f32) = true)
    {f33 : Addr} {od33 an33 : Option Addr} {sl33 : Array (Option Value)} {oc33 kV33 dc33 pm33 ct33 : Value} {cd33 : Value}
    (a33 : PySem.W.nsIn K mainGlobals "_law_forms_hold" = some (some (.ref f33)))
    (l33 : K.lookup f33 = some ⟨oc33, od33, .func (PySem.W.fnOf "_law_forms_hold" "_law_forms_hold" (defArgs s_law_forms_hold) (defBody s_law_forms_hold) (defScope s_law_forms_hold) .none kV33 dc33 pm33 an33 cd33 ct33), sl33⟩)
    (c33 : PySem.W.codeIn K cd33 "_law_forms_hold" = true) (k33 : PySem.W.keepIn K (.ref f33) = true)
    {f34 : Addr} {od34 an34 : Option Addr} {sl34 : Array (Option Value)} {oc34 kV34 dc34 pm34 ct34 : Value} {cd34 : Value}
    (a34 : PySem.W.nsIn K mainGlobals "_law_told" = some (some (.ref f34)))
    (l34 : K.lookup f34 = some ⟨oc34, od34, .func (PySem.W.fnOf "_law_told" "_law_told" (defArgs s_law_told) (defBody s_law_told) (defScope s_law_told) .none kV34 dc34 pm34 an34 cd34 ct34), sl34⟩)
    (c34 : PySem.W.codeIn K cd34 "_law_told" = true) (k34 : PySem.W.keepIn K (.ref f34) = true)
    {f35 : Addr} {od35 an35 : Option Addr} {sl35 : Array (Option Value)} {oc35 kV35 dc35 pm35 ct35 : Value} {cd35 : Value}
    (a35 : PySem.W.nsIn K mainGlobals "_law_bounds_hold" = some (some (.ref f35)))
    (l35 : K.lookup f35 = some ⟨oc35, od35, .func (PySem.W.fnOf "_law_bounds_hold" "_law_bounds_hold" (defArgs s_law_bounds_hold) (defBody s_law_bounds_hold) (defScope s_law_bounds_hold) .none kV35 dc35 pm35 an35 cd35 ct35), sl35⟩)
    (c35 : PySem.W.codeIn K cd35 "_law_bounds_hold" = true) (k35 : PySem.W.keepIn K (.ref f35) = true)
    {f36 : Addr} {od36 an36 : Option Addr} {sl36 : Array (Option Value)} {oc36 kV36 dc36 pm36 ct36 : Value} {cd36 : Value}
    (a36 : PySem.W.nsIn K mainGlobals "law" = some (some (.ref f36)))
    (l36 : K.lookup f36 = some ⟨oc36, od36, .func (PySem.W.fnOf "law" "law" (defArgs s_law) (defBody s_law) (defScope s_law) .none kV36 dc36 pm36 an36 cd36 ct36), sl36⟩)
    (c36 : PySem.W.codeIn K cd36 "law" = true) (k36 : PySem.W.keepIn K (.ref f36) = true)
    (z_bool : PySem.W.nsIn K mainGlobals "bool" = some none)
    (z_int : PySem.W.nsIn K mainGlobals "int" = some none)
    (z_isinstance : PySem.W.nsIn K mainGlobals "isinstance" = some none)
    (z_len : PySem.W.nsIn K mainGlobals "len" = some none)
    (z_list : PySem.W.nsIn K mainGlobals "list" = some none)
    (z_max : PySem.W.nsIn K mainGlobals "max" = some none)
    (z_range : PySem.W.nsIn K mainGlobals "range" = some none)
    (z_tuple : PySem.W.nsIn K mainGlobals "tuple" = some none)
    (v_gcd : PySem.W.nsIn K mainGlobals "gcd" = some (some (.builtin "math.gcd")))
    (v_lcm : PySem.W.nsIn K mainGlobals "lcm" = some (some (.builtin "math.lcm")))
    {xc_TooLarge : Addr} (xg_TooLarge : PySem.W.nsIn K mainGlobals "TooLarge" = some (some (.ref xc_TooLarge))) (xq_TooLarge : PySem.W.excIn K xc_TooLarge [.type "ValueError", .type "Exception", .type "BaseException", .type "object"] "ValueError.__new__" = true) (xk_TooLarge : PySem.W.keepIn K (.ref xc_TooLarge) = true) (xs_TooLarge : PySem.W.subIn K (.ref xc_TooLarge) (.type "BaseException") = some true) (xt_TooLarge : PySem.W.typeIn K (.ref xc_TooLarge) = some (.type "type")) (xi_TooLarge : PySem.W.isClsIn K xc_TooLarge = true) (xr_TooLarge : PySem.W.subIn K (.ref xc_TooLarge) (.ref xc_TooLarge) = some true)
    {tk_MAX_HEAD : Tok} (y_MAX_HEAD : PySem.W.nsIn K mainGlobals "MAX_HEAD" = some (some (.int (4000) tk_MAX_HEAD)))
    {tk_MAX_PERIOD : Tok} (y_MAX_PERIOD : PySem.W.nsIn K mainGlobals "MAX_PERIOD" = some (some (.int (1000) tk_MAX_PERIOD)))
    (dj : ∀ p ∈ ([(pp15, ("due_form" : Str) ++ ".<locals>." ++ "<lambda>")] : List (Addr × Str)), ([(pp15, ("due_form" : Str) ++ ".<locals>." ++ "<lambda>")] : List (Addr × Str)).lookup p.1 = some p.2) :
    LamX.LawAtS l w K CX0 16 63 "script" mg fa h := by
  have e := hfa.symm.trans (PySem.W.mg_of X G a36)
  cases e
  have F0 := fun_mk (st := s_value_at) l0 c0 k0
  have F1 := fun_mk (st := s_has_period) l1 c1 k1
  have F2 := fun_mk (st := s_shortest_tail) l2 c2 k2
  have F3 := fun_mk (st := s_continued) l3 c3 k3
  have F4 := fun_mk (st := s_normal) l4 c4 k4
  have F5 := fun_mk (st := s_check_period) l5 c5 k5
  have F6 := fun_mk (st := s_first_of_class) l6 c6 k6
  have F7 := fun_mk (st := s_line) l7 c7 k7
  have F8 := fun_mk (st := s_assemble) l8 c8 k8
  have F9 := fun_mk (st := s_line_at) l9 c9 k9
  have F10 := fun_mk (st := s_own_starts) l10 c10 k10
  have F11 := fun_mk (st := s_round_period) l11 c11 k11
  have F12 := fun_mk (st := s_due_of) l12 c12 k12
  have F13 := fun_mk (st := s_due_value) l13 c13 k13
  have F14 := fun_mk (st := s_settled_due) l14 c14 k14
  have F15 := funC_mk (st := s_due_form) l15 c15 k15
  have F16 := fun_mk (st := s_law_state) l16 c16 k16
  have F17 := fun_mk (st := s_law_draw) l17 c17 k17
  have F18 := fun_mk (st := s_law_far) l18 c18 k18
  have F19 := fun_mk (st := s_law_value) l19 c19 k19
  have F20 := fun_mk (st := s_law_stretched) l20 c20 k20
  have F21 := fun_mk (st := s_law_int) l21 c21 k21
  have F22 := fun_mk (st := s_law_is_form) l22 c22 k22
  have F23 := fun_mk (st := s_law_is_even) l23 c23 k23
  have F24 := fun_mk (st := s_law_is_normal) l24 c24 k24
  have F25 := fun_mk (st := s_law_rule) l25 c25 k25
  have F26 := fun_mk (st := s_law_due) l26 c26 k26
  have F27 := fun_mk (st := s_law_is) l27 c27 k27
  have F28 := fun_mk (st := s_law_amounts_hold) l28 c28 k28
  have F29 := fun_mk (st := s_law_common) l29 c29 k29
  have F30 := fun_mk (st := s_law_period) l30 c30 k30
  have F31 := fun_mk (st := s_law_less) l31 c31 k31
  have F32 := fun_mk (st := s_law_low) l32 c32 k32
  have F33 := fun_mk (st := s_law_forms_hold) l33 c33 k33
  have F34 := fun_mk (st := s_law_told) l34 c34 k34
  have F35 := fun_mk (st := s_law_bounds_hold) l35 c35 k35
  have F36 := fun_mk (st := s_law) l36 c36 k36
  refine ⟨(PySem.W.fnOf "law" "law" (defArgs s_law) (defBody s_law) (defScope s_law) .none kV36 dc36 pm36 an36 cd36 ct36), [(cd15, pp15)], liSp K [(pp15, ("due_form" : Str) ++ ".<locals>." ++ "<lambda>")] sp_law, ?_, ?_, ?_, fun s v => .of_eq rfl, fun H a ns hl _ hH hS => law_sp dj ?_ hl hS, fun base KX GX hB => ?_⟩
  · intro p hp; simp only [List.mem_cons, List.not_mem_nil, or_false] at hp; rcases hp with rfl
    · exact t15
  · intro p hp; simp only [List.mem_cons, List.not_mem_nil, or_false] at hp; rcases hp with rfl
    · exact n15
  · intro p hp; simp only [List.mem_cons, List.not_mem_nil, or_false] at hp; rcases hp with rfl
    · exact PySem.W.codeHd_of_K X h15
  · intro p hp; simp only [List.mem_cons, List.not_mem_nil, or_false] at hp; rcases hp with rfl
    · exact LamX.TabS.nil (hH (cd15, pp15) (by simp))
  let T : Tx K mg base [(pp15, ("due_form" : Str) ++ ".<locals>." ++ "<lambda>")] := {
    f_value_at := _
    d_value_at := _
    F_value_at := F0
    g_value_at := PySem.W.mg_of X G a0
    b_value_at := ((F0).binds (ps := ["form", "x"]) fun _ _ _ _ _ _ us hl => match us, hl with | [_, _], _ => rfl)
    f_has_period := _
    d_has_period := _
    F_has_period := F1
    g_has_period := PySem.W.mg_of X G a1
    b_has_period := ((F1).binds (ps := ["tail", "size"]) fun _ _ _ _ _ _ us hl => match us, hl with | [_, _], _ => rfl)
    f_shortest_tail := _
    d_shortest_tail := _
    F_shortest_tail := F2
    g_shortest_tail := PySem.W.mg_of X G a2
    b_shortest_tail := ((F2).binds (ps := ["tail"]) fun _ _ _ _ _ _ us hl => match us, hl with | [_], _ => rfl)
    f_continued := _
    d_continued := _
    F_continued := F3
    g_continued := PySem.W.mg_of X G a3
    b_continued := ((F3).binds (ps := ["tail", "places"]) fun _ _ _ _ _ _ us hl => match us, hl with | [_, _], _ => rfl)
    f_normal := _
    d_normal := _
    F_normal := F4
    g_normal := PySem.W.mg_of X G a4
    b_normal := ((F4).binds (ps := ["form"]) fun _ _ _ _ _ _ us hl => match us, hl with | [_], _ => rfl)
    f_check_period := _
    d_check_period := _
    F_check_period := F5
    g_check_period := PySem.W.mg_of X G a5
    b_check_period := ((F5).binds (ps := ["period"]) fun _ _ _ _ _ _ us hl => match us, hl with | [_], _ => rfl)
    f_first_of_class := _
    d_first_of_class := _
    F_first_of_class := F6
    g_first_of_class := PySem.W.mg_of X G a6
    b_first_of_class := ((F6).binds (ps := ["rest", "least", "period"]) fun _ _ _ _ _ _ us hl => match us, hl with | [_, _, _], _ => rfl)
    f_line := _
    d_line := _
    F_line := F7
    g_line := PySem.W.mg_of X G a7
    b_line := ((F7).binds (ps := ["period", "tell", "start"]) fun _ _ _ _ _ _ us hl => match us, hl with | [_, _, _], _ => rfl)
    f_assemble := _
    d_assemble := _
    F_assemble := F8
    g_assemble := PySem.W.mg_of X G a8
    b_assemble := ((F8).binds (ps := ["period", "tell", "starts"]) fun _ _ _ _ _ _ us hl => match us, hl with | [_, _, _], _ => rfl)
    f_line_at := _
    d_line_at := _
    F_line_at := F9
    g_line_at := PySem.W.mg_of X G a9
    b_line_at := ((F9).binds (ps := ["form", "x", "period"]) fun _ _ _ _ _ _ us hl => match us, hl with | [_, _, _], _ => rfl)
    f_own_starts := _
    d_own_starts := _
    F_own_starts := F10
    g_own_starts := PySem.W.mg_of X G a10
    b_own_starts := ((F10).binds (ps := ["form", "period"]) fun _ _ _ _ _ _ us hl => match us, hl with | [_, _], _ => rfl)
    f_round_period := _
    d_round_period := _
    F_round_period := F11
    g_round_period := PySem.W.mg_of X G a11
    b_round_period := ((F11).binds (ps := ["form", "unit", "factor", "rising"]) fun _ _ _ _ _ _ us hl => match us, hl with | [_, _, _, _], _ => rfl)
    f_due_of := _
    d_due_of := _
    F_due_of := F12
    g_due_of := PySem.W.mg_of X G a12
    b_due_of := ((F12).binds (ps := ["rule", "missing"]) fun _ _ _ _ _ _ us hl => match us, hl with | [_, _], _ => rfl)
    f_due_value := _
    d_due_value := _
    F_due_value := F13
    g_due_value := PySem.W.mg_of X G a13
    b_due_value := ((F13).binds (ps := ["rule", "value", "paid"]) fun _ _ _ _ _ _ us hl => match us, hl with | [_, _, _], _ => rfl)
    f_settled_due := _
    d_settled_due := _
    F_settled_due := F14
    g_settled_due := PySem.W.mg_of X G a14
    b_settled_due := ((F14).binds (ps := ["rule", "missing", "step"]) fun _ _ _ _ _ _ us hl => match us, hl with | [_, _, _], _ => rfl)
    cc_due_form := cd15
    pp_due_form := pp15
    B_due_form := hB (cd15, pp15) (by simp)
    m_due_form := by simp
    f_due_form := _
    d_due_form := _
    F_due_form := F15
    g_due_form := PySem.W.mg_of X G a15
    b_due_form := ((F15.to).binds (ps := ["rule", "a", "paid"]) fun _ _ _ _ _ _ us hl => match us, hl with | [_, _, _], _ => rfl)
    f_law_state := _
    d_law_state := _
    F_law_state := F16
    g_law_state := PySem.W.mg_of X G a16
    b_law_state := ((F16).binds (ps := ["script"]) fun _ _ _ _ _ _ us hl => match us, hl with | [_], _ => rfl)
    f_law_draw := _
    d_law_draw := _
    F_law_draw := F17
    g_law_draw := PySem.W.mg_of X G a17
    b_law_draw := ((F17).binds (ps := ["state", "limit"]) fun _ _ _ _ _ _ us hl => match us, hl with | [_, _], _ => rfl)
    f_law_far := _
    d_law_far := _
    F_law_far := F18
    g_law_far := PySem.W.mg_of X G a18
    b_law_far := ((F18).binds (ps := ["state"]) fun _ _ _ _ _ _ us hl => match us, hl with | [_], _ => rfl)
    f_law_value := _
    d_law_value := _
    F_law_value := F19
    g_law_value := PySem.W.mg_of X G a19
    b_law_value := ((F19).binds (ps := ["form", "x"]) fun _ _ _ _ _ _ us hl => match us, hl with | [_, _], _ => rfl)
    f_law_stretched := _
    d_law_stretched := _
    F_law_stretched := F20
    g_law_stretched := PySem.W.mg_of X G a20
    b_law_stretched := ((F20).binds (ps := ["state", "form"]) fun _ _ _ _ _ _ us hl => match us, hl with | [_, _], _ => rfl)
    f_law_int := _
    d_law_int := _
    F_law_int := F21
    g_law_int := PySem.W.mg_of X G a21
    b_law_int := ((F21).binds (ps := ["value"]) fun _ _ _ _ _ _ us hl => match us, hl with | [_], _ => rfl)
    f_law_is_form := _
    d_law_is_form := _
    F_law_is_form := F22
    g_law_is_form := PySem.W.mg_of X G a22
    b_law_is_form := ((F22).binds (ps := ["form"]) fun _ _ _ _ _ _ us hl => match us, hl with | [_], _ => rfl)
    f_law_is_even := _
    d_law_is_even := _
    F_law_is_even := F23
    g_law_is_even := PySem.W.mg_of X G a23
    b_law_is_even := ((F23).binds (ps := ["form", "size"]) fun _ _ _ _ _ _ us hl => match us, hl with | [_, _], _ => rfl)
    f_law_is_normal := _
    d_law_is_normal := _
    F_law_is_normal := F24
    g_law_is_normal := PySem.W.mg_of X G a24
    b_law_is_normal := ((F24).binds (ps := ["form"]) fun _ _ _ _ _ _ us hl => match us, hl with | [_], _ => rfl)
    f_law_rule := _
    d_law_rule := _
    F_law_rule := F25
    g_law_rule := PySem.W.mg_of X G a25
    b_law_rule := ((F25).binds (ps := ["state"]) fun _ _ _ _ _ _ us hl => match us, hl with | [_], _ => rfl)
    f_law_due := _
    d_law_due := _
    F_law_due := F26
    g_law_due := PySem.W.mg_of X G a26
    b_law_due := ((F26).binds (ps := ["rule", "missing"]) fun _ _ _ _ _ _ us hl => match us, hl with | [_, _], _ => rfl)
    f_law_is := _
    d_law_is := _
    F_law_is := F27
    g_law_is := PySem.W.mg_of X G a27
    b_law_is := ((F27).binds (ps := ["told", "due"]) fun _ _ _ _ _ _ us hl => match us, hl with | [_, _], _ => rfl)
    f_law_amounts_hold := _
    d_law_amounts_hold := _
    F_law_amounts_hold := F28
    g_law_amounts_hold := PySem.W.mg_of X G a28
    b_law_amounts_hold := ((F28).binds (ps := ["state", "rule"]) fun _ _ _ _ _ _ us hl => match us, hl with | [_, _], _ => rfl)
    f_law_common := _
    d_law_common := _
    F_law_common := F29
    g_law_common := PySem.W.mg_of X G a29
    b_law_common := ((F29).binds (ps := ["one", "two"]) fun _ _ _ _ _ _ us hl => match us, hl with | [_, _], _ => rfl)
    f_law_period := _
    d_law_period := _
    F_law_period := F30
    g_law_period := PySem.W.mg_of X G a30
    b_law_period := ((F30).binds (ps := ["rule", "form"]) fun _ _ _ _ _ _ us hl => match us, hl with | [_, _], _ => rfl)
    f_law_less := _
    d_law_less := _
    F_law_less := F31
    g_law_less := PySem.W.mg_of X G a31
    b_law_less := ((F31).binds (ps := ["form", "x", "paid"]) fun _ _ _ _ _ _ us hl => match us, hl with | [_, _, _], _ => rfl)
    f_law_low := _
    d_law_low := _
    F_law_low := F32
    g_law_low := PySem.W.mg_of X G a32
    b_law_low := ((F32).binds (ps := ["state"]) fun _ _ _ _ _ _ us hl => match us, hl with | [_], _ => rfl)
    f_law_forms_hold := _
    d_law_forms_hold := _
    F_law_forms_hold := F33
    g_law_forms_hold := PySem.W.mg_of X G a33
    b_law_forms_hold := ((F33).binds (ps := ["state", "rule"]) fun _ _ _ _ _ _ us hl => match us, hl with | [_, _], _ => rfl)
    f_law_told := _
    d_law_told := _
    F_law_told := F34
    g_law_told := PySem.W.mg_of X G a34
    b_law_told := ((F34).binds (ps := ["rule", "form", "paid"]) fun _ _ _ _ _ _ us hl => match us, hl with | [_, _, _], _ => rfl)
    f_law_bounds_hold := _
    d_law_bounds_hold := _
    F_law_bounds_hold := F35
    g_law_bounds_hold := PySem.W.mg_of X G a35
    b_law_bounds_hold := ((F35).binds (ps := ["state"]) fun _ _ _ _ _ _ us hl => match us, hl with | [_], _ => rfl)
    f_law := _
    d_law := _
    F_law := F36
    g_law := PySem.W.mg_of X G a36
    b_law := ((F36).binds (ps := ["script"]) fun _ _ _ _ _ _ us hl => match us, hl with | [_], _ => rfl)
    n_bool := PySem.W.mg_none_of X G z_bool
    n_int := PySem.W.mg_none_of X G z_int
    n_isinstance := PySem.W.mg_none_of X G z_isinstance
    n_len := PySem.W.mg_none_of X G z_len
    n_list := PySem.W.mg_none_of X G z_list
    n_max := PySem.W.mg_none_of X G z_max
    n_range := PySem.W.mg_none_of X G z_range
    n_tuple := PySem.W.mg_none_of X G z_tuple
    m_gcd := PySem.W.mg_of X G v_gcd
    m_lcm := PySem.W.mg_of X G v_lcm
    x_TooLarge := ⟨_, PySem.W.mg_of X G xg_TooLarge, xq_TooLarge, xk_TooLarge, xs_TooLarge, xt_TooLarge, exm_self xs_TooLarge xi_TooLarge xt_TooLarge xr_TooLarge⟩
    c_MAX_HEAD := ⟨_, .int (4000), PySem.W.mg_of X G y_MAX_HEAD, ⟨_, rfl⟩, fun F => .int _⟩
    c_MAX_PERIOD := ⟨_, .int (1000), PySem.W.mg_of X G y_MAX_PERIOD, ⟨_, rfl⟩, fun F => .int _⟩ }
  exact ok_law T
end DL
open PySem PySem.W PyProof.Rows
set_option maxRecDepth 100000 in
set_option maxHeartbeats 0 in
theorem PySem.Challenge.cw_postsooth_k27_whole_what_is_due_for_all_holds : PySem.Challenge.rw_postsooth_k27_whole_what_is_due_for_all.Holds := by
  w_on; o_law; k_head; (case hw => w_witness2)
  k_fill
  refine LamX.walk_ofTs (l := PySem.Challenge.rw_postsooth_k27_whole_what_is_due_for_all) (n := 63) (k := 16) (x := "script") (CX := fun _ => L2.CX0) rfl (by decide) rfl ⟨rfl, by decide, by decide⟩ (fun w h Y => PySem.W.km_in_of Y) ?F (fun _ _ _ _ _ h => h)
  case F =>
    intro w mg fa h Y KX G hmg
    refine' DL.all_mk KX G hmg ?a0 ?l0 ?c0 ?k0 ?a1 ?l1 ?c1 ?k1 ?a2 ?l2 ?c2 ?k2 ?a3 ?l3 ?c3 ?k3 ?a4 ?l4 ?c4 ?k4 ?a5 ?l5 ?c5 ?k5 ?a6 ?l6 ?c6 ?k6 ?a7 ?l7 ?c7 ?k7 ?a8 ?l8 ?c8 ?k8 ?a9 ?l9 ?c9 ?k9 ?a10 ?l10 ?c10 ?k10 ?a11 ?l11 ?c11 ?k11 ?a12 ?l12 ?c12 ?k12 ?a13 ?l13 ?c13 ?k13 ?a14 ?l14 ?c14 ?k14 ?a15 ?l15 ?c15 ?k15 ?o15 ?v15 ?h15 ?n15 ?t15 ?a16 ?l16 ?c16 ?k16 ?a17 ?l17 ?c17 ?k17 ?a18 ?l18 ?c18 ?k18 ?a19 ?l19 ?c19 ?k19 ?a20 ?l20 ?c20 ?k20 ?a21 ?l21 ?c21 ?k21 ?a22 ?l22 ?c22 ?k22 ?a23 ?l23 ?c23 ?k23 ?a24 ?l24 ?c24 ?k24 ?a25 ?l25 ?c25 ?k25 ?a26 ?l26 ?c26 ?k26 ?a27 ?l27 ?c27 ?k27 ?a28 ?l28 ?c28 ?k28 ?a29 ?l29 ?c29 ?k29 ?a30 ?l30 ?c30 ?k30 ?a31 ?l31 ?c31 ?k31 ?a32 ?l32 ?c32 ?k32 ?a33 ?l33 ?c33 ?k33 ?a34 ?l34 ?c34 ?k34 ?a35 ?l35 ?c35 ?k35 ?a36 ?l36 ?c36 ?k36 ?z_bool ?z_int ?z_isinstance ?z_len ?z_list ?z_max ?z_range ?z_tuple ?v_gcd ?v_lcm ?xg_TooLarge ?xq_TooLarge ?xk_TooLarge ?xs_TooLarge ?xt_TooLarge ?xi_TooLarge ?xr_TooLarge ?y_MAX_HEAD ?y_MAX_PERIOD ?dj
    (case a0 => k_is)
    (case l0 => k_is)
    (case c0 => k_is)
    (case k0 => k_is)
    (case a1 => k_is)
    (case l1 => k_is)
    (case c1 => k_is)
    (case k1 => k_is)
    (case a2 => k_is)
    (case l2 => k_is)
    (case c2 => k_is)
    (case k2 => k_is)
    (case a3 => k_is)
    (case l3 => k_is)
    (case c3 => k_is)
    (case k3 => k_is)
    (case a4 => k_is)
    (case l4 => k_is)
    (case c4 => k_is)
    (case k4 => k_is)
    (case a5 => k_is)
    (case l5 => k_is)
    (case c5 => k_is)
    (case k5 => k_is)
    (case a6 => k_is)
    (case l6 => k_is)
    (case c6 => k_is)
    (case k6 => k_is)
    (case a7 => k_is)
    (case l7 => k_is)
    (case c7 => k_is)
    (case k7 => k_is)
    (case a8 => k_is)
    (case l8 => k_is)
    (case c8 => k_is)
    (case k8 => k_is)
    (case a9 => k_is)
    (case l9 => k_is)
    (case c9 => k_is)
    (case k9 => k_is)
    (case a10 => k_is)
    (case l10 => k_is)
    (case c10 => k_is)
    (case k10 => k_is)
    (case a11 => k_is)
    (case l11 => k_is)
    (case c11 => k_is)
    (case k11 => k_is)
    (case a12 => k_is)
    (case l12 => k_is)
    (case c12 => k_is)
    (case k12 => k_is)
    (case a13 => k_is)
    (case l13 => k_is)
    (case c13 => k_is)
    (case k13 => k_is)
    (case a14 => k_is)
    (case l14 => k_is)
    (case c14 => k_is)
    (case k14 => k_is)
    (case a15 => k_is)
    (case l15 => k_is)
    (case c15 => k_is)
    (case k15 => k_is)
    (case o15 => k_is)
    (case v15 => exact rfl)
    (case h15 => kernel_rfl)
    (case n15 => kernel_rfl)
    (case t15 => exact PySem.W.km_tabs_of Y _ (by decide))
    (case a16 => k_is)
    (case l16 => k_is)
    (case c16 => k_is)
    (case k16 => k_is)
    (case a17 => k_is)
    (case l17 => k_is)
    (case c17 => k_is)
    (case k17 => k_is)
    (case a18 => k_is)
    (case l18 => k_is)
    (case c18 => k_is)
    (case k18 => k_is)
    (case a19 => k_is)
    (case l19 => k_is)
    (case c19 => k_is)
    (case k19 => k_is)
    (case a20 => k_is)
    (case l20 => k_is)
    (case c20 => k_is)
    (case k20 => k_is)
    (case a21 => k_is)
    (case l21 => k_is)
    (case c21 => k_is)
    (case k21 => k_is)
    (case a22 => k_is)
    (case l22 => k_is)
    (case c22 => k_is)
    (case k22 => k_is)
    (case a23 => k_is)
    (case l23 => k_is)
    (case c23 => k_is)
    (case k23 => k_is)
    (case a24 => k_is)
    (case l24 => k_is)
    (case c24 => k_is)
    (case k24 => k_is)
    (case a25 => k_is)
    (case l25 => k_is)
    (case c25 => k_is)
    (case k25 => k_is)
    (case a26 => k_is)
    (case l26 => k_is)
    (case c26 => k_is)
    (case k26 => k_is)
    (case a27 => k_is)
    (case l27 => k_is)
    (case c27 => k_is)
    (case k27 => k_is)
    (case a28 => k_is)
    (case l28 => k_is)
    (case c28 => k_is)
    (case k28 => k_is)
    (case a29 => k_is)
    (case l29 => k_is)
    (case c29 => k_is)
    (case k29 => k_is)
    (case a30 => k_is)
    (case l30 => k_is)
    (case c30 => k_is)
    (case k30 => k_is)
    (case a31 => k_is)
    (case l31 => k_is)
    (case c31 => k_is)
    (case k31 => k_is)
    (case a32 => k_is)
    (case l32 => k_is)
    (case c32 => k_is)
    (case k32 => k_is)
    (case a33 => k_is)
    (case l33 => k_is)
    (case c33 => k_is)
    (case k33 => k_is)
    (case a34 => k_is)
    (case l34 => k_is)
    (case c34 => k_is)
    (case k34 => k_is)
    (case a35 => k_is)
    (case l35 => k_is)
    (case c35 => k_is)
    (case k35 => k_is)
    (case a36 => k_is)
    (case l36 => k_is)
    (case c36 => k_is)
    (case k36 => k_is)
    (case z_bool => k_is)
    (case z_int => k_is)
    (case z_isinstance => k_is)
    (case z_len => k_is)
    (case z_list => k_is)
    (case z_max => k_is)
    (case z_range => k_is)
    (case z_tuple => k_is)
    (case v_gcd => k_is)
    (case v_lcm => k_is)
    (case xg_TooLarge => k_is)
    (case xq_TooLarge => k_exc)
    (case xk_TooLarge => k_is)
    (case xs_TooLarge => k_is)
    (case xt_TooLarge => k_is)
    (case xi_TooLarge => k_is)
    (case xr_TooLarge => first | rfl | k_is)
    (case y_MAX_HEAD => k_is)
    (case y_MAX_PERIOD => k_is)
    (case dj => decide +kernel)
