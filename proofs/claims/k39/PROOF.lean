import PyProof.Rows.All
import Wide.All
import OpenK.AllK
import Wide.FinOn
import HandS.ForMost
import HandS.ForExc
import HandS.Walk
import HandS.Wide
import HandS.Replace
import HandS.StrMore
import PyProof.ListStr
import KE.GoesMore
import PyProof.EnumMake
import HandS.TupAny
import HandS.Style
import KE.DataFind
import KE.KDictKeyed
import HandS.Conv
import HandS.IsInst
import KE.KIndexOf
import PyProof.StrBlock2
import HandS.Exc
import HandS.ExcOwn
import HandS.WordsExc
import HandS.TryOnly
import HandS.ExcInit
import HandS.ExcField
import HandS.Flow
import KE.GoesEnum
import KE.GoesZip
import KE.KSortTupAny
import HandS.SortOrd
import HandS.ExcIs
import HandS.HotCalls
import HandS.Defaults
import HandS.CallSlots
import PyProof.Rows.StrCut
import PySem.Challenge.RW_longshort_k39_whole_texts_joined
set_option Elab.async false
set_option linter.all false
set_option maxRecDepth 100000
set_option maxHeartbeats 4000000
namespace Z
open PySem PySem.Spec PyProof.Rows L2
abbrev Ex (H H' : Hp) : Prop := ∀ a o, H a = some o → H' a = some o
abbrev Note := List (List Key × V)
def NotG (o : HO) : Prop := ∀ s : Note, o ≠ .dT s
theorem notg_lst {xs : List V} : NotG (.lst xs) := fun _ e => by cases e
theorem notg_tup {xs : List V} : NotG (.tup xs) := fun _ e => by cases e
def TupO (o : HO) : Prop := (∃ xs, o = .tup xs) ∨ ∃ w xs, o = .frz w (.tup xs)
class Vo where
  mem : Note → Hp → Addr → HO → Prop
  back : ∀ {s : Note} {F F' : Hp} {c : Addr} {o : HO}, mem s F c o → (∀ a u, TupO u → F a = some u → F' a = some u) → mem s F' c o
  ext : ∀ {s : Note} {F : Hp} {c : Addr} {o : HO}, mem s F c o → ∃ φ, o = .ext φ
variable [Vo]
abbrev Exg (F H : Hp) : Prop := ∀ a o, NotG o → F a = some o → H a = some o
structure Fh (F H : Hp) : Prop where
  ex : Exg F H
  vo : ∀ a s, F a = some (.dT s) → ∃ o, H a = some o ∧ Vo.mem s F a o
theorem Fh.at {F H : Hp} (h : Fh F H) {a : Addr} {o : HO} (e : F a = some o) (n : NotG o := by intro _ e; cases e) : H a = some o := h.ex a o n e
theorem em_note (o : HO) : NotG o ∨ ∃ s, o = .dT s := by
  cases o with
  | dT s => exact .inr ⟨s, rfl⟩
  | _ => exact .inl fun _ e => by cases e
theorem Fh.no {F H : Hp} (h : Fh F H) {p : Addr} (hp : H p = none) : F p = none := by
  cases q : F p with
  | none => rfl
  | some o =>
    rcases em_note o with n | ⟨s, rfl⟩
    · rw [h.at q n] at hp; cases hp
    · obtain ⟨u, hu, _⟩ := h.vo p s q
      rw [hu] at hp; cases hp
structure Ext (F H F' H' : Hp) : Prop where
  ff : Ex F F'
  fh : Fh F' H'
  hh : ∀ a o, (∀ s : Note, F a ≠ some (.dT s)) → H a = some o → H' a = some o
  nf : ∀ a o, F a = none → H a = some o → F' a = none
theorem Ext.h0 {F H F' H' : Hp} (e : Ext F H F' H') {a : Addr} {o : HO} (f : F a = none) (h : H a = some o) : H' a = some o := e.hh a o (fun s => by rw [f]; exact nofun) h
theorem Ext.refl {F H : Hp} (h : Fh F H) : Ext F H F H := ⟨fun _ _ e => e, h, fun _ _ _ e => e, fun _ _ e _ => e⟩
theorem note_up {F F1 : Hp} (ff : Ex F F1) {a : Addr} (nf : F a = none → F1 a = none) (n : ∀ s : Note, F a ≠ some (.dT s)) : ∀ s : Note, F1 a ≠ some (.dT s) := fun s q => by
  cases e : F a with
  | none => rw [nf e] at q; cases q
  | some o =>
    rw [ff a o e] at q
    cases q
    exact n s e
theorem Ext.trans {F H F1 H1 F2 H2 : Hp} (a : Ext F H F1 H1) (b : Ext F1 H1 F2 H2) : Ext F H F2 H2 :=
  ⟨fun x o e => b.ff x o (a.ff x o e), b.fh, fun x o n e => b.hh x o (note_up a.ff (fun f => a.nf x o f e) n) (a.hh x o n e), fun x o e q => b.nf x o (a.nf x o e q) (a.h0 e q)⟩
theorem none_of_ex {F H : Hp} (h : Ex F H) {p : Addr} (hp : H p = none) : F p = none := by
  cases q : F p with
  | none => rfl
  | some o => rw [h p o q] at hp; cases hp
theorem Ext.hno {F H F' H' : Hp} (e : Ext F H F' H') {p : Addr} (hp : H' p = none) : H p = none := by
  have f' := e.fh.no hp
  have f := none_of_ex e.ff f'
  cases q : H p with
  | none => rfl
  | some o => rw [e.h0 f q] at hp; cases hp
theorem mem_up {s : Note} {F F' : Hp} {a : Addr} {o : HO} (m : Vo.mem s F a o) (e : Ex F F') : Vo.mem s F' a o := Vo.back m fun a u _ h => e a u h
theorem Ext.new {F H : Hp} (h : Fh F H) {p : Addr} (hp : H p = none) (o : HO) (no : NotG o := by intro _ e; cases e) : Ext F H (upd F p o) (upd H p o) := by
  have fp := h.no hp
  have ff : Ex F (upd F p o) := fun a u e => by rw [upd_ne (ne_of_none e fp)]; exact e
  refine ⟨ff, ⟨fun a u n e => ?_, fun a s e => ?_⟩, fun a u _ e => ?_, fun a u e q => ?_⟩
  · by_cases ha : a = p
    · subst ha; rw [upd_same] at e; rw [upd_same]; exact e
    · rw [upd_ne ha] at e; rw [upd_ne ha]; exact h.at e n
  · by_cases ha : a = p
    · subst ha; rw [upd_same] at e; cases e; exact absurd rfl (no s)
    · rw [upd_ne ha] at e
      obtain ⟨u, hu, m⟩ := h.vo a s e
      exact ⟨u, by rw [upd_ne ha]; exact hu, mem_up m ff⟩
  · rw [upd_ne (ne_of_none e hp)]; exact e
  · rw [upd_ne (ne_of_none q hp)]; exact e
abbrev RP := Hp → V → Prop
abbrev Mono (R : RP) : Prop := ∀ F F' v, Ex F F' → R F v → R F' v
theorem ex_rd {H H' : Hp} {a : Addr} {u : HO} (e : Ex H H') (h : Rd H a u) : Rd H' a u := by
  rcases h with h | ⟨o, h⟩
  · exact Or.inl (e a _ h)
  · exact Or.inr ⟨o, e a _ h⟩
theorem ex_l {K : PySem.W.Frag} {H H' : Hp} {a : Addr} {xs : List V} (e : Ex H H') (h : SqL K H a xs) : SqL K H' a xs := by
  rcases h with h | h
  · exact Or.inl (ex_rd e h)
  · exact Or.inr h
theorem ex_t {K : PySem.W.Frag} {H H' : Hp} {a : Addr} {xs : List V} (e : Ex H H') (h : SqT K H a xs) : SqT K H' a xs := by
  rcases h with h | h
  · exact Or.inl (ex_rd e h)
  · exact Or.inr h
theorem fh_rd {H H' : Hp} {a : Addr} {u : HO} (e : Exg H H') (n : NotG u) (h : Rd H a u) : Rd H' a u := by
  rcases h with h | ⟨o, h⟩
  · exact Or.inl (e a _ n h)
  · exact Or.inr ⟨o, e a _ (fun _ z => by cases z) h⟩
theorem fh_t {K : PySem.W.Frag} {H H' : Hp} {a : Addr} {xs : List V} (e : Fh H H') (h : SqT K H a xs) : SqT K H' a xs := by
  rcases h with h | h
  · exact Or.inl (fh_rd e.ex notg_tup h)
  · exact Or.inr h
theorem fg_t {K : PySem.W.Frag} {H H' : Hp} {a : Addr} {xs : List V} (e : Exg H H') (h : SqT K H a xs) : SqT K H' a xs := by
  rcases h with h | h
  · exact Or.inl (fh_rd e notg_tup h)
  · exact Or.inr h
theorem fh_l {K : PySem.W.Frag} {H H' : Hp} {a : Addr} {xs : List V} (e : Fh H H') (h : SqL K H a xs) : SqL K H' a xs := by
  rcases h with h | h
  · exact Or.inl (fh_rd e.ex notg_lst h)
  · exact Or.inr h
def NoD (K : PySem.W.Frag) (F : Hp) (a : Addr) : Prop := (∃ (o : Obj) (xs : List V), F a = some (.frz o (.tup xs)) ∧ o.dict = none ∧ o.cls = .type "tuple") ∨ ∃ o, K.lookup a = some o ∧ o.cls = .type "tuple" ∧ o.dict = none
theorem NoD.mono {K : PySem.W.Frag} {F F' : Hp} {a : Addr} (e : Ex F F') (h : NoD K F a) : NoD K F' a := by
  rcases h with ⟨o, xs, h, q⟩ | h
  · exact .inl ⟨o, xs, e _ _ h, q⟩
  · exact .inr h
mutual
def ndf : PyData → Bool
  | .list ds | .tuple ds => ndfAll ds
  | .dict _ => false
  | _ => true
def ndfAll : List PyData → Bool
  | [] => true
  | d :: ds => ndf d && ndfAll ds
end
mutual
theorem ndf_lay : ∀ d : PyData, d.canLay0 = true → ndf d = true
  | .none, _ => rfl
  | .bool _, _ => rfl
  | .int _, _ => rfl
  | .str _, _ => rfl
  | .list ds, h => by simp only [ndf]; exact ndf_layAll ds (by simpa [PyData.canLay0] using h)
  | .tuple ds, h => by simp only [ndf]; exact ndf_layAll ds (by simpa [PyData.canLay0] using h)
  | .dict _, h => by simp [PyData.canLay0] at h
theorem ndf_layAll : ∀ ds : List PyData, PyData.canLayAll0 ds = true → ndfAll ds = true
  | [], _ => rfl
  | d :: ds, h => by
    have h' : d.canLay0 = true ∧ PyData.canLayAll0 ds = true := by simpa [PyData.canLayAll0] using h
    simp only [ndfAll, Bool.and_eq_true]
    exact ⟨ndf_lay d h'.1, ndf_layAll ds h'.2⟩
end
theorem ndf_shaped {d : PyData} (h : SeqAt.shaped d = true) : ndf d = true := ndf_lay d (SeqAt.canLay_of_shaped h)
mutual
inductive Da (K : PySem.W.Frag) (F : Hp) : V → PyData → Prop
  | non : Da K F .non .none
  | bl (b : Bool) : Da K F (.bl b) (.bool b)
  | int (i : Int) : Da K F (.int i) (.int i)
  | str (x : Str) : Da K F (.str x) (.str x)
  | lst {a : Addr} {xs : List V} {ds : List PyData} : F a = some (.lst xs) → DaAll K F xs ds → Da K F (.ref a) (.list ds)
  | tup {a : Addr} {xs : List V} {ds : List PyData} : SqT K F a xs → DaAll K F xs ds → Da K F (.ref a) (.tuple ds)
  /-- a tuple that bears no dict: told as a dict of its items -/
  | stu {a : Addr} {xs : List V} {kvs : List (PyData × PyData)} : SqT K F a xs → NoD K F a → DaAll K F xs (kvs.map (·.1)) → Da K F (.ref a) (.dict kvs)
inductive DaAll (K : PySem.W.Frag) (F : Hp) : List V → List PyData → Prop
  | nil : DaAll K F [] []
  | cons {v : V} {vs : List V} {d : PyData} {ds : List PyData} : Da K F v d → DaAll K F vs ds → DaAll K F (v :: vs) (d :: ds)
end
section
variable {K : PySem.W.Frag} {F F' : Hp}
mutual
theorem da_mono (e : Ex F F') : ∀ (d : PyData) (v : V), Da K F v d → Da K F' v d
  | _, _, .non => .non
  | _, _, .bl b => .bl b
  | _, _, .int i => .int i
  | _, _, .str x => .str x
  | .list ds, _, .lst h a => .lst (e _ _ h) (daAll_mono e ds _ a)
  | .tuple ds, _, .tup h a => .tup (ex_t e h) (daAll_mono e ds _ a)
  | .dict kvs, _, .stu h n a => .stu (ex_t e h) (n.mono e) (daAll_mono e (kvs.map (·.1)) _ a)
theorem daAll_mono (e : Ex F F') : ∀ (ds : List PyData) (vs : List V), DaAll K F vs ds → DaAll K F' vs ds
  | [], _, .nil => .nil
  | d :: ds, _, .cons h t => .cons (da_mono e d _ h) (daAll_mono e ds _ t)
end
mutual
theorem da_dp (e : Fh F F') : ∀ (d : PyData) (v : V), ndf d = true → Da K F v d → Dp K F' v d
  | _, _, _, .non => .non
  | _, _, _, .bl b => .bl b
  | _, _, _, .int i => .int i
  | _, _, _, .str x => .str x
  | .list ds, _, q, .lst h a => .lst (SqL.of (e.at h)) (daAll_dp e ds _ (by simpa [ndf] using q) a)
  | .tuple ds, _, q, .tup h a => .tup (fh_t e h) (daAll_dp e ds _ (by simpa [ndf] using q) a)
  | .dict _, _, q, .stu _ _ _ => by simp [ndf] at q
theorem daAll_dp (e : Fh F F') : ∀ (ds : List PyData) (vs : List V), ndfAll ds = true → DaAll K F vs ds → DpAll K F' vs ds
  | [], _, _, .nil => .nil
  | d :: ds, _, q, .cons h t => by
    have q' : ndf d = true ∧ ndfAll ds = true := by simpa [ndfAll] using q
    exact .cons (da_dp e d _ q'.1 h) (daAll_dp e ds _ q'.2 t)
end
end
def tI : PyData → List PyData
  | .tuple ds => ds
  | .dict kvs => kvs.map (·.1)
  | _ => []
def isT : PyData → Bool
  | .tuple _ | .dict _ => true
  | _ => false
abbrev sT (ds : List PyData) : PyData := .dict (ds.map fun d => (d, .none))
def DD (K : PySem.W.Frag) (d : PyData) : RP := fun F v => Da K F v d
theorem DD.mo {K : PySem.W.Frag} {d : PyData} : Mono (DD K d) := fun _ _ _ e h => da_mono e _ _ h
def RR (a : Addr) : RP := fun _ v => v = .ref a
theorem RR.mo {a : Addr} : Mono (RR a) := fun _ _ _ _ h => h
abbrev Env' := List (Option RP)
structure RepE (E : Env') (σ : L2.St) (F : Hp) : Prop where
  at_ : ∀ (i : Nat) (R : RP), E[i]? = some (some R) → Mono R ∧ ∃ v, σ[i]? = some (some v) ∧ R F v
  l : σ.length = E.length
theorem RepE.mono {E : Env'} {σ : L2.St} {F F' : Hp} (h : RepE E σ F) (e : Ex F F') : RepE E σ F' := ⟨fun i R q => by
  obtain ⟨m, v, hv, r⟩ := h.at_ i R q
  exact ⟨m, v, hv, m _ _ _ e r⟩, h.l⟩
def tG (E : Env') (R : RP) : TE := fun σ H Q => ∃ F, RepE E σ F ∧ Fh F H ∧ ∀ v F' H', Ext F H F' H' → R F' v → Q v H'
structure GE (X : Cx) (e : Expr) (E : Env') (R : RP) : Prop where
  pe : PE X e (tG E R)
  mo : Mono R
def tGB (E : Env') (b : Bool) : TT := fun σ H Q => ∃ F, RepE E σ F ∧ Fh F H ∧ ∀ F' H', Ext F H F' H' → Q b H'
structure GB (X : Cx) (e : Expr) (E : Env') (b : Bool) : Prop where
  pt : PT X e (tGB E b)
inductive All2 (F : Hp) : List RP → List V → Prop
  | nil : All2 F [] []
  | cons {R : RP} {Rs : List RP} {v : V} {vs : List V} : Mono R → R F v → All2 F Rs vs → All2 F (R :: Rs) (v :: vs)
theorem All2.mono {F F' : Hp} (e : Ex F F') : ∀ {Rs : List RP} {vs : List V}, All2 F Rs vs → All2 F' Rs vs
  | _, _, .nil => .nil
  | _, _, .cons m h t => .cons m (m _ _ _ e h) (t.mono e)
theorem All2.len {F : Hp} : ∀ {Rs : List RP} {vs : List V}, All2 F Rs vs → vs.length = Rs.length
  | _, _, .nil => rfl
  | _, _, .cons _ _ t => by rw [List.length_cons, List.length_cons, t.len]
theorem All2.dp {K : PySem.W.Frag} {F : Hp} : ∀ {ds : List PyData} {vs : List V}, All2 F (ds.map (DD K)) vs → DaAll K F vs ds
  | [], _, .nil => .nil
  | _ :: _, _, .cons _ h t => .cons h t.dp
theorem All2.of_dp {K : PySem.W.Frag} {F : Hp} : ∀ {ds : List PyData} {vs : List V}, DaAll K F vs ds → All2 F (ds.map (DD K)) vs
  | [], _, .nil => .nil
  | _ :: _, _, .cons h t => .cons DD.mo h (All2.of_dp t)
def tGA (E : Env') (Rs : List RP) : TA := fun σ H Q => ∃ F, RepE E σ F ∧ Fh F H ∧ ∀ vs F' H', Ext F H F' H' → All2 F' Rs vs → Q vs H'
structure GA (X : Cx) (es : List Expr) (E : Env') (Rs : List RP) : Prop where
  pa : PA X es (tGA E Rs)
section
variable {X : Cx} {E : Env'} {R Ra Rb : RP} {a b e : Expr} {pos : Pos}
theorem pe_imp {t t' : TE} (h : PE X e t) (i : ∀ σ H Q, t' σ H Q → t σ H Q) : PE X e t' := ⟨fun pins s σ H Q I q => h.run pins s σ H Q I (i σ H Q q)⟩
theorem pt_imp {t t' : TT} (h : PT X e t) (i : ∀ σ H Q, t' σ H Q → t σ H Q) : PT X e t' := ⟨fun pins s σ H Q I q => h.run pins s σ H Q I (i σ H Q q)⟩
theorem pa_imp {es : List Expr} {t t' : TA} (h : PA X es t) (i : ∀ σ H Q, t' σ H Q → t σ H Q) : PA X es t' := ⟨fun pos pins s σ H Q I q => h.run pos pins s σ H Q I (i σ H Q q)⟩
theorem pw_imp {t t' : TT} (h : PW X e t) (i : ∀ σ H Q, t' σ H Q → t σ H Q) : PW X e t' := ⟨fun w pins s σ H Q I q => h.run w pins s σ H Q I (i σ H Q q)⟩
theorem ga_nil : GA X [] E [] := ⟨pa_imp pa_nil fun _ H _ ⟨F, _, x, k⟩ => k [] F H (Ext.refl x) .nil⟩
theorem ga_cons {es : List Expr} {Rs : List RP} (h : GE X e E R) (t : GA X es E Rs) (hs : starEach (e :: es) X.env = (false, eval e X.env) :: starEach es X.env := by rfl) : GA X (e :: es) E (R :: Rs) :=
  ⟨pa_imp (pa_cons h.pe t.pa hs) fun σ H Q ⟨F, r, x, k⟩ => ⟨F, r, x, fun v F1 H1 e1 r1 => ⟨F1, r.mono e1.ff, e1.fh, fun vs F2 H2 e2 r2 => k (v :: vs) F2 H2 (e1.trans e2) (.cons h.mo (h.mo _ _ _ e2.ff r1) r2)⟩⟩⟩
theorem g_var (i : Nat) {x : Str} (hN : X.N[i]? = some x) (hE : E[i]? = some (some R)) (mo : Mono R) (hv : Vis X.env.scope x := by first | exact Or.inl rfl | exact Or.inr (Or.inl rfl) | exact Or.inr (Or.inr rfl))
    (hd : (x == ("__debug__" : Str)) = false := by decide) (hcd : (x == ("__classdict__" : Str)) = false := by decide) : GE X (.Name x pos) E R :=
  ⟨pe_imp (pe_var hN hv hd hcd) fun σ H Q ⟨F, r, x, k⟩ => by
    obtain ⟨m, v, hv, rv⟩ := r.at_ i R hE
    exact ⟨v, hv, k v F H (Ext.refl x) rv⟩, mo⟩
theorem g_con {v : V} (h : PE X e (tC v)) (mo : Mono R) (hr : ∀ F, R F v) : GE X e E R := ⟨pe_imp h fun σ H Q ⟨F, _, x, k⟩ => k v F H (Ext.refl x) (hr F), mo⟩
def RR2 (r : R2) (Ra Rb R : RP) : Prop := ∀ F H x y Q, Ra F x → Rb F y → Fh F H → (∀ v F' H', Ext F H F' H' → R F' v → Q v H') → r x y H Q
theorem g_op {r : R2} (h : ∀ ta tb, PE X a ta → PE X b tb → PE X e (tOp r ta tb)) (ha : GE X a E Ra) (hb : GE X b E Rb) (mo : Mono R) (hr : RR2 r Ra Rb R) : GE X e E R :=
  ⟨pe_imp (h _ _ ha.pe hb.pe) fun σ H Q ⟨F, r, x, k⟩ => ⟨F, r, x, fun v F1 H1 e1 r1 => ⟨F1, r.mono e1.ff, e1.fh, fun u F2 H2 e2 r2 => hr F2 H2 v u Q (ha.mo _ _ _ e2.ff r1) r2 e2.fh fun z F3 H3 e3 r3 => k z F3 H3 ((e1.trans e2).trans e3) r3⟩⟩, mo⟩
end
end Z
namespace Z
open PySem PySem.Spec PyProof.Rows L2
variable [Vo]
structure Fm (F0 H0 : Hp) (mu : List Addr) (F H : Hp) : Prop where
  ff : Ex F0 F
  fh : Fh F H
  hh : ∀ a o, a ∉ mu → (∀ s : Note, F0 a ≠ some (.dT s)) → H0 a = some o → H a = some o
  nf : ∀ a o, F0 a = none → H0 a = some o → F a = none
  mm : ∀ a, a ∈ mu → F a = none ∧ ∃ o, H a = some o
theorem Fm.ext {F0 H0 F H F' H' : Hp} {mu : List Addr} (m : Fm F0 H0 mu F H) (e : Ext F H F' H') : Fm F0 H0 mu F' H' where
  ff := fun a o q => e.ff a o (m.ff a o q)
  fh := e.fh
  hh := fun a o n v q => e.hh a o (note_up m.ff (fun f => m.nf a o f q) v) (m.hh a o n v q)
  nf := fun a o q r => by
    have f := m.nf a o q r
    by_cases h : a ∈ mu
    · obtain ⟨_, u, hu⟩ := m.mm a h
      exact e.nf a u f hu
    · exact e.nf a o f (m.hh a o h (fun s => by rw [q]; exact nofun) r)
  mm := fun a h => by
    obtain ⟨f, u, hu⟩ := m.mm a h
    exact ⟨e.nf a u f hu, u, e.h0 f hu⟩
def Mv : HO → Prop
  | .lst _ => True
  | .dK _ => True
  | .ext _ => True
  | .ins _ _ _ => True
  | _ => False
theorem Mv.ng {o : HO} (h : Mv o) : NotG o := fun s e => by subst e; exact h
theorem Mv.nt {o : HO} (h : Mv o) : ¬ TupO o := fun e => by
  rcases e with ⟨xs, rfl⟩ | ⟨w, xs, rfl⟩ <;> exact h
structure OV where
  at_ : Hp → HO → Prop
  mo : ∀ F F' o, Ex F F' → at_ F o → at_ F' o
  fz : RP
  fmo : Mono fz
  fok : ∀ F a o, F a = some o → at_ F o → fz F (.ref a)
  mv : ∀ F o, at_ F o → Mv o
abbrev OS := List (Addr × OV)
def Ls (K : PySem.W.Frag) (ds : List PyData) : OV where
  at_ := fun F o => ∃ vs, o = .lst vs ∧ DaAll K F vs ds
  mo := fun F F' o e ⟨vs, h, d⟩ => ⟨vs, h, daAll_mono e _ _ d⟩
  fz := DD K (.list ds)
  fmo := DD.mo
  fok := fun F a o h ⟨vs, e, d⟩ => .lst (by rw [h, e]) d
  mv := fun F o ⟨vs, e, _⟩ => by subst e; trivial
structure RepO (F0 H0 : Hp) (mu : List Addr) (os : OS) (F H : Hp) : Prop where
  fm : Fm F0 H0 mu F H
  nd : (os.map (·.1)).Nodup
  ow : ∀ p, p ∈ os → F p.1 = none ∧ (H0 p.1 = none ∨ p.1 ∈ mu) ∧ ∃ o, H p.1 = some o ∧ p.2.at_ F o
theorem RepO.ext {F0 H0 F H F' H' : Hp} {mu : List Addr} {os : OS} (m : RepO F0 H0 mu os F H) (e : Ext F H F' H') : RepO F0 H0 mu os F' H' :=
  ⟨m.fm.ext e, m.nd, fun p h => by
    obtain ⟨f, g, o, ho, r⟩ := m.ow p h
    exact ⟨e.nf _ o f ho, g, o, e.h0 f ho, p.2.mo _ _ _ e.ff r⟩⟩
structure Bk where
  X : Cx
  F0 : Hp
  H0 : Hp
  mu : List Addr
  W : WX
structure RepS (B : Bk) (E : Env') (os : OS) (σ : L2.St) (F H : Hp) : Prop where
  o : RepO B.F0 B.H0 B.mu os F H
  e : RepE E σ F
theorem RepS.ext {B : Bk} {E : Env'} {os : OS} {σ : L2.St} {F H F' H' : Hp} (m : RepS B E os σ F H) (e : Ext F H F' H') : RepS B E os σ F' H' :=
  ⟨m.o.ext e, m.e.mono e.ff⟩
theorem RepE.set {E : Env'} {σ : L2.St} {F : Hp} {i : Nat} {R : RP} {v : V} (h : RepE E σ F) (m : Mono R) (r : R F v) : RepE (E.set i (some R)) (σ.set i (some v)) F := ⟨fun j R' q => by
  have l := h.l
  by_cases hj : i = j
  · subst hj
    rw [List.getElem?_set] at q
    by_cases hi : i < E.length
    · simp [hi] at q
      subst q
      exact ⟨m, v, by rw [List.getElem?_set_self (by omega)], r⟩
    · simp [hi] at q
  · rw [List.getElem?_set_ne hj] at q
    obtain ⟨m', v', hv, r'⟩ := h.at_ j R' q
    exact ⟨m', v', by rw [List.getElem?_set_ne hj]; exact hv, r'⟩, by rw [List.length_set, List.length_set]; exact h.l⟩
theorem RepE.setN {E : Env'} {σ : L2.St} {F : Hp} {i : Nat} {x : Option V} (h : RepE E σ F) : RepE (E.set i none) (σ.set i x) F := ⟨fun j R' q => by
  by_cases hj : i = j
  · subst hj
    rw [List.getElem?_set] at q
    by_cases hi : i < E.length
    · simp [hi] at q
    · simp [hi] at q
  · rw [List.getElem?_set_ne hj] at q
    obtain ⟨m', v', hv, r'⟩ := h.at_ j R' q
    exact ⟨m', v', by rw [List.getElem?_set_ne hj]; exact hv, r'⟩, by rw [List.length_set, List.length_set]; exact h.l⟩
abbrev PX := Hp → Option Addr → Prop
structure DE where
  nx : Env' → OS → Prop
  rt : RP → OS → Prop
  bk : Env' → OS → Prop := fun _ _ => False
  ct : Env' → OS → Prop := fun _ _ => False
  xc : Value → PX → Env' → OS → Prop := fun _ _ _ _ => False
structure Meets (B : Bk) (L : Hp) (P : DE) (D : Ends) : Prop where
  nx : ∀ E os σ F H, P.nx E os → RepS B E os σ F H → Ex L F → D.nx σ H
  rt : ∀ R os v F H, P.rt R os → RepO B.F0 B.H0 B.mu os F H → Ex L F → R F v → D.rt v H
  bk : ∀ E os σ F H, P.bk E os → RepS B E os σ F H → Ex L F → D.bk σ H
  ct : ∀ E os σ F H, P.ct E os → RepS B E os σ F H → Ex L F → D.ct σ H
  xc : ∀ c p E os σ F H d, P.xc c p E os → RepS B E os σ F H → Ex L F → p F d → B.W c d σ H
theorem Ex.tr {A B C : Hp} (a : Ex A B) (b : Ex B C) : Ex A C := fun x o q => b x o (a x o q)
theorem Meets.up {B : Bk} {L L' : Hp} {P : DE} {D : Ends} (m : Meets B L P D) (e : Ex L L') : Meets B L' P D :=
  ⟨fun E os σ F H q r x => m.nx E os σ F H q r (Ex.tr e x), fun R os v F H q r x => m.rt R os v F H q r (Ex.tr e x), fun E os σ F H q r x => m.bk E os σ F H q r (Ex.tr e x), fun E os σ F H q r x => m.ct E os σ F H q r (Ex.tr e x), fun c p E os σ F H d q r x => m.xc c p E os σ F H d q r (Ex.tr e x)⟩
def W (X : Cx) (sts : List Stmt) (D : Ends) (σ : L2.St) (H : Hp) : Prop := ∀ pins s, Inv X pins σ H s → wpAny (model X.prog X.w) X.A (execs sts X.env) (SP X pins D) X.xe s
theorem w_can {X : Cx} {sts : List Stmt} : PSs X sts (fun D σ H => W X sts D σ H) := ⟨fun pins s σ H D I h => h pins s I⟩
theorem w_of {X : Cx} {sts : List Stmt} {t : TS} {D : Ends} {σ : L2.St} {H : Hp} (h : PSs X sts t) (q : t D σ H) : W X sts D σ H := fun pins s I => h.run pins s σ H D I q
structure WS (B : Bk) (sts : List Stmt) (E : Env') (os : OS) (P : DE) : Prop where
  run : ∀ L D σ F H, Meets B L P D → RepS B E os σ F H → Ex L F → W B.X sts D σ H
structure Vw (os : OS) (fs : List Addr) (E V : Env') : Prop where
  at_ : ∀ (i : Nat) (R : RP), V[i]? = some (some R) → E[i]? = some (some R) ∨ ∃ a o, a ∈ fs ∧ (a, o) ∈ os ∧ E[i]? = some (some (RR a)) ∧ R = o.fz
  l : E.length = V.length
  ok : ∀ a, a ∈ fs → ∃ o, (a, o) ∈ os
theorem Vw.refl {os : OS} {E : Env'} : Vw os [] E E := ⟨fun _ _ h => Or.inl h, rfl, fun _ h => nomatch h⟩
open Classical in
noncomputable def frz (fs : List Addr) (F H : Hp) : Hp := fun a => if a ∈ fs then H a else F a
theorem frz_ff {fs : List Addr} {F H : Hp} (n : ∀ a, a ∈ fs → F a = none) : Ex F (frz fs F H) := fun a o e => by
  unfold frz
  by_cases m : a ∈ fs
  · rw [n a m] at e; cases e
  · rw [if_neg m]; exact e
theorem frz_fh {fs : List Addr} {F H : Hp} (h : Fh F H) (n : ∀ a, a ∈ fs → F a = none) (m : ∀ a o, a ∈ fs → H a = some o → Mv o) : Fh (frz fs F H) H where
  ex := fun a o g e => by
    unfold frz at e
    by_cases k : a ∈ fs
    · rw [if_pos k] at e; exact e
    · rw [if_neg k] at e; exact h.at e g
  vo := fun a s e => by
    have e' := e
    unfold frz at e
    by_cases k : a ∈ fs
    · rw [if_pos k] at e; exact absurd rfl ((m a _ k e).ng s)
    · rw [if_neg k] at e
      obtain ⟨o, ho, q⟩ := h.vo a s e
      exact ⟨o, ho, mem_up q (frz_ff n)⟩
structure FsOk (fs : List Addr) (F H : Hp) : Prop where
  n : ∀ a, a ∈ fs → F a = none
  m : ∀ a, a ∈ fs → ∃ o, H a = some o ∧ Mv o
theorem RepO.fsok {F0 H0 F H : Hp} {mu : List Addr} {os : OS} {fs : List Addr} (m : RepO F0 H0 mu os F H) (h : ∀ a, a ∈ fs → ∃ o, (a, o) ∈ os) : FsOk fs F H :=
  ⟨fun a ha => by obtain ⟨o, ho⟩ := h a ha; exact (m.ow _ ho).1, fun a ha => by
    obtain ⟨o, ho⟩ := h a ha
    obtain ⟨_, _, u', hu', r⟩ := m.ow _ ho
    exact ⟨u', hu', o.mv _ _ r⟩⟩
theorem FsOk.ff {fs : List Addr} {F H : Hp} (k : FsOk fs F H) : Ex F (frz fs F H) := frz_ff k.n
theorem FsOk.fh {fs : List Addr} {F H : Hp} (k : FsOk fs F H) (h : Fh F H) : Fh (frz fs F H) H := frz_fh h k.n fun a o ha ho => by
  obtain ⟨u, hu, q⟩ := k.m a ha
  rw [ho] at hu; cases hu; exact q
theorem Vw.fsok {B : Bk} {E V : Env'} {os : OS} {fs : List Addr} {σ : L2.St} {F H : Hp} (h : Vw os fs E V) (m : RepS B E os σ F H) : FsOk fs F H := m.o.fsok h.ok
theorem Vw.rep {B : Bk} {E V : Env'} {os : OS} {fs : List Addr} {σ : L2.St} {F H : Hp} (h : Vw os fs E V) (m : RepS B E os σ F H) : RepE V σ (frz fs F H) := ⟨fun i R q => by
  have k := h.fsok m
  rcases h.at_ i R q with e | ⟨a, o, hf, ho, e, rfl⟩
  · exact (m.e.mono k.ff).at_ i R e
  · obtain ⟨_, v, hv, rv⟩ := m.e.at_ i (RR a) e
    obtain ⟨_, _, u, hu, r⟩ := m.o.ow _ ho
    have ev : v = .ref a := rv
    subst ev
    exact ⟨o.fmo, _, hv, o.fok _ a u (by unfold frz; rw [if_pos hf]; exact hu) (o.mo _ _ _ k.ff r)⟩, m.e.l.trans h.l⟩
theorem Vw.fh {B : Bk} {E V : Env'} {os : OS} {fs : List Addr} {σ : L2.St} {F H : Hp} (h : Vw os fs E V) (m : RepS B E os σ F H) : Fh (frz fs F H) H := (h.fsok m).fh m.o.fm.fh
theorem RepO.give {F0 H0 F H : Hp} {mu : List Addr} {os os' : OS} {fs : List Addr} (m : RepO F0 H0 mu os F H) (h1 : ∀ a, a ∈ fs → a ∈ os.map (·.1) ∧ a ∉ mu) (h2 : ∀ p, p ∈ os' → p ∈ os ∧ p.1 ∉ fs) (nd : (os'.map (·.1)).Nodup) : RepO F0 H0 mu os' (Z.frz fs F H) H := by
  have k : FsOk fs F H := m.fsok fun a ha => by
    obtain ⟨p, hp, rfl⟩ := List.mem_map.mp (h1 a ha).1
    exact ⟨p.2, hp⟩
  refine ⟨⟨fun a o e => k.ff a o (m.fm.ff a o e), k.fh m.fm.fh, m.fm.hh, fun a o e q => ?_, fun a ha => ?_⟩, nd, fun p hp => ?_⟩
  · unfold Z.frz
    by_cases hm : a ∈ fs
    · exfalso
      obtain ⟨hp, hn⟩ := h1 a hm
      obtain ⟨p, hp2, rfl⟩ := List.mem_map.mp hp
      obtain ⟨_, g, _⟩ := m.ow p hp2
      rcases g with g | g
      · rw [g] at q; cases q
      · exact hn g
    · rw [if_neg hm]; exact m.fm.nf a o e q
  · obtain ⟨f, q⟩ := m.fm.mm a ha
    have : a ∉ fs := fun hf => (h1 a hf).2 ha
    exact ⟨by unfold Z.frz; rw [if_neg this]; exact f, q⟩
  · obtain ⟨hp, hn⟩ := h2 p hp
    obtain ⟨f, g, o, ho, r⟩ := m.ow p hp
    exact ⟨by unfold Z.frz; rw [if_neg hn]; exact f, g, o, ho, p.2.mo _ _ _ k.ff r⟩
abbrev Scal (R : RP) : Prop := ∀ F F' v, R F v → R F' v
theorem scal_int {K : PySem.W.Frag} {i : Int} : Scal (DD K (.int i)) := fun _ _ _ h => by cases h; exact .int i
theorem scal_bool {K : PySem.W.Frag} {i : Bool} : Scal (DD K (.bool i)) := fun _ _ _ h => by cases h; exact .bl i
theorem scal_str {K : PySem.W.Frag} {i : Str} : Scal (DD K (.str i)) := fun _ _ _ h => by cases h; exact .str i
theorem scal_none {K : PySem.W.Frag} : Scal (DD K .none) := fun _ _ _ h => by cases h; exact .non
open Classical in
noncomputable def bck (fs : List Addr) (F F' : Hp) : Hp := fun a => if a ∈ fs then F a else F' a
theorem ext_unfrz {fs : List Addr} {F H F' H' : Hp} (k : FsOk fs F H) (h : Fh F H) (e : Ext (frz fs F H) H F' H') : Ext F H (bck fs F F') H' := by
  have nn : ∀ a, a ∈ fs → bck fs F F' a = none := fun a m => by unfold bck; rw [if_pos m]; exact k.n a m
  have nb : ∀ a, a ∉ fs → bck fs F F' a = F' a := fun a m => by unfold bck; rw [if_neg m]
  refine ⟨fun a o q => ?_, ⟨fun a o g q => ?_, fun a s q => ?_⟩, fun a o n q => e.hh a o (fun s => ?_) q, fun a o q r => ?_⟩
  · by_cases m : a ∈ fs
    · rw [k.n a m] at q; cases q
    · rw [nb a m]; exact e.ff a o (k.ff a o q)
  · by_cases m : a ∈ fs
    · rw [nn a m] at q; cases q
    · rw [nb a m] at q; exact e.fh.at q g
  · by_cases m : a ∈ fs
    · rw [nn a m] at q; cases q
    · rw [nb a m] at q
      obtain ⟨o, ho, w⟩ := e.fh.vo a s q
      refine ⟨o, ho, Vo.back w fun b u t z => ?_⟩
      by_cases mb : b ∈ fs
      · exfalso
        obtain ⟨v, y, mv⟩ := k.m b mb
        have f1 : frz fs F H b = some v := by unfold frz; rw [if_pos mb]; exact y
        rw [e.ff b v f1] at z
        cases z
        exact mv.nt t
      · rw [nb b mb]; exact z
  · unfold frz
    by_cases m : a ∈ fs
    · rw [if_pos m]; intro z
      obtain ⟨v, y, mv⟩ := k.m a m
      rw [y] at z; cases z; exact mv.ng s rfl
    · rw [if_neg m]; exact n s
  · by_cases m : a ∈ fs
    · exact nn a m
    · rw [nb a m]; exact e.nf a o (by unfold frz; rw [if_neg m]; exact q) r
section
variable {B : Bk} {E V : Env'} {os os' : OS} {P : DE} {st : Stmt} {rest body orelse : List Stmt} {e : Expr} {R : RP} {pos : Pos} {fs : List Addr}
theorem ws_of {t : TS} (h : PS B.X st t) (i : ∀ L D σ F H, Meets B L P D → RepS B E os σ F H → Ex L F → t { D with nx := fun σ' H' => W B.X rest D σ' H' } σ H) : WS B (st :: rest) E os P :=
  ⟨fun L D σ F H m r l => w_of (pss_cons h w_can) (i L D σ F H m r l)⟩
theorem ws_nil (h : P.nx E os) : WS B [] E os P := ⟨fun L D σ F H m r l => w_of pss_nil (m.nx E os σ F H h r l)⟩
def DE.then (P : DE) (B : Bk) (rest : List Stmt) : DE := { P with nx := fun E os => WS B rest E os P }
theorem Meets.then {L : Hp} {D : Ends} (m : Meets B L P D) : Meets B L (P.then B rest) { D with nx := fun σ' H' => W B.X rest D σ' H' } :=
  ⟨fun E os σ F H h r l => h.run L D σ F H m r l, m.rt, m.bk, m.ct, m.xc⟩
theorem ws_set (i : Nat) {x : Str} {pos' : Pos} (hN : B.X.N.Nodup) (hi : B.X.N[i]? = some x) (hx : Loc B.X.env.scope x) (he : GE B.X e E R) (k : WS B rest (E.set i (some R)) os P)
    (hs : swapsWith e (some (.Name x pos')) pos.line B.X.env = pure false := by rfl) (hf : B.X.fn x = true ∨ B.X.env.scope.names.lookup x = some .local := by first | exact .inl rfl | exact .inr rfl | assumption) :
    WS B (.Assign [.Name x pos'] e pos :: rest) E os P :=
  ws_of (ps_set hN hi hx he.pe hs hf) fun L D σ F H m r l => ⟨F, r.e, r.o.fm.fh, fun v F' H' x hv => k.run L D _ F' H' m ⟨r.o.ext x, (r.e.mono x.ff).set he.mo hv⟩ (Ex.tr l x.ff)⟩
theorem ws_setS (i : Nat) {x : Str} {pos' : Pos} (hN : B.X.N.Nodup) (hi : B.X.N[i]? = some x) (hx : Loc B.X.env.scope x) (hv : Vw os fs E V) (he : GE B.X e V R) (sc : Scal R) (k : WS B rest (E.set i (some R)) os P)
    (hs : swapsWith e (some (.Name x pos')) pos.line B.X.env = pure false := by rfl) (hf : B.X.fn x = true ∨ B.X.env.scope.names.lookup x = some .local := by first | exact .inl rfl | exact .inr rfl | assumption) :
    WS B (.Assign [.Name x pos'] e pos :: rest) E os P :=
  ws_of (ps_set hN hi hx he.pe hs hf) fun L D σ F H m r l => ⟨_, hv.rep r, hv.fh r, fun v F' H' x hr => by
    have u := ext_unfrz (hv.fsok r) r.o.fm.fh x
    exact k.run L D _ _ H' m ⟨r.o.ext u, (r.e.mono u.ff).set he.mo (sc _ _ _ hr)⟩ (Ex.tr l u.ff)⟩
theorem ws_ret (he : GE B.X e E R) (k : P.rt R os) : WS B (.Return (some e) pos :: rest) E os P :=
  ws_of (ps_ret he.pe) fun L D σ F H m r l => ⟨F, r.e, r.o.fm.fh, fun v F' H' x hv => m.rt R os v F' H' k (r.o.ext x) (Ex.tr l x.ff) hv⟩
theorem ws_retF (hv : Vw os fs E V) (h1 : ∀ a, a ∈ fs → a ∈ os.map (·.1) ∧ a ∉ B.mu) (h2 : ∀ p, p ∈ os' → p ∈ os ∧ p.1 ∉ fs) (nd : (os'.map (·.1)).Nodup) (he : GE B.X e V R) (k : P.rt R os') : WS B (.Return (some e) pos :: rest) E os P :=
  ws_of (ps_ret he.pe) fun L D σ F H m r l => ⟨_, hv.rep r, hv.fh r, fun v F' H' x hr => m.rt R os' v F' H' k ((r.o.give h1 h2 nd).ext x) (Ex.tr l (Ex.tr (hv.fsok r).ff x.ff)) hr⟩
theorem ws_retN (k : P.rt (fun _ v => v = .non) os) : WS B (.Return none pos :: rest) E os P :=
  ws_of ps_retN fun L D σ F H m r l => m.rt _ os _ F H k r.o l rfl
theorem ws_if {c : Expr} {b : Bool} (hv : Vw os fs E V) (hc : GB B.X c V b) (h1 : b = true → WS B body E os (P.then B rest)) (h2 : b = false → WS B orelse E os (P.then B rest)) : WS B (.If c body orelse pos :: rest) E os P :=
  ws_of (ps_if hc.pt w_can w_can) fun L D σ F H m r l => ⟨_, hv.rep r, hv.fh r, fun F' H' x => by
    have u := ext_unfrz (hv.fsok r) r.o.fm.fh x
    have r' := r.ext u
    cases b with
    | true => exact (h1 rfl).run _ _ σ _ H' m.then r' (Ex.tr l u.ff)
    | false => exact (h2 rfl).run _ _ σ _ H' m.then r' (Ex.tr l u.ff)⟩
theorem ws_ifJ {c : Expr} {b : Bool} {J : Env' → OS → Prop} (hv : Vw os fs E V) (hc : GB B.X c V b) (h1 : b = true → WS B body E os { P with nx := J }) (h2 : b = false → WS B orelse E os { P with nx := J }) (h3 : ∀ E' os', J E' os' → WS B rest E' os' P) : WS B (.If c body orelse pos :: rest) E os P :=
  ws_of (ps_if hc.pt w_can w_can) fun L D σ F H m r l => ⟨_, hv.rep r, hv.fh r, fun F' H' x => by
    have u := ext_unfrz (hv.fsok r) r.o.fm.fh x
    have r' := r.ext u
    have mj : Meets B L { P with nx := J } { D with nx := fun σ' H' => W B.X rest D σ' H' } := ⟨fun E' os' σ' F' H' j r' l' => (h3 E' os' j).run L D σ' F' H' m r' l', m.rt, m.bk, m.ct, m.xc⟩
    cases b with
    | true => exact (h1 rfl).run _ _ σ _ H' mj r' (Ex.tr l u.ff)
    | false => exact (h2 rfl).run _ _ σ _ H' mj r' (Ex.tr l u.ff)⟩
theorem ws_imp {P' : DE} {sts : List Stmt} (h : WS B sts E os P') (hn : ∀ E os, P'.nx E os → P.nx E os) (hr : ∀ R os, P'.rt R os → P.rt R os) (hb : ∀ E os, P'.bk E os → P.bk E os) (hc : ∀ E os, P'.ct E os → P.ct E os) (hx : ∀ c p E os, P'.xc c p E os → P.xc c p E os := by intro _ _ _ _ h; exact h) : WS B sts E os P :=
  ⟨fun L D σ F H m r l => h.run L D σ F H ⟨fun E os σ F H q => m.nx E os σ F H (hn E os q), fun R os v F H q => m.rt R os v F H (hr R os q), fun E os σ F H q => m.bk E os σ F H (hb E os q), fun E os σ F H q => m.ct E os σ F H (hc E os q), fun c p E os σ F H d q => m.xc c p E os σ F H d (hx c p E os q)⟩ r l⟩
theorem ws_weak {E' : Env'} {sts : List Stmt} (h : WS B sts E' os P) (w : ∀ (i : Nat) (R : RP), E'[i]? = some (some R) → E[i]? = some (some R)) (hl : E.length = E'.length) : WS B sts E os P :=
  ⟨fun L D σ F H m r l => h.run L D σ F H m ⟨r.o, fun i R q => r.e.at_ i R (w i R q), r.e.l.trans hl⟩ l⟩
end
end Z
namespace Z
open PySem PySem.Spec PyProof.Rows L2
variable [Vo]
theorem DaAll.len {K : PySem.W.Frag} {F : Hp} : ∀ {vs : List V} {ds : List PyData}, DaAll K F vs ds → vs.length = ds.length
  | _, _, .nil => rfl
  | _, _, .cons _ t => by rw [List.length_cons, List.length_cons, DaAll.len t]
theorem DaAll.get {K : PySem.W.Frag} {F : Hp} : ∀ {vs : List V} {ds : List PyData} {n : Nat} {d : PyData}, DaAll K F vs ds → ds[n]? = some d → ∃ v, vs[n]? = some v ∧ Da K F v d
  | _, _, _, _, .nil, h => by simp at h
  | _, _, 0, _, .cons h _, q => by simp at q; subst q; exact ⟨_, rfl, h⟩
  | _, _, n + 1, _, .cons _ t, q => by
    obtain ⟨v, h1, h2⟩ := DaAll.get (n := n) t (by simpa using q)
    exact ⟨v, by simpa using h1, h2⟩
theorem DaAll.get' {K : PySem.W.Frag} {F : Hp} {vs : List V} {ds : List PyData} {n : Nat} {v : V} (h : DaAll K F vs ds) (q : vs[n]? = some v) : ∃ d, ds[n]? = some d ∧ Da K F v d := by
  have hl := h.len
  obtain ⟨hn, _⟩ := List.getElem?_eq_some_iff.mp q
  obtain ⟨v', h1, h2⟩ := h.get (n := n) (d := ds[n]'(by omega)) (by simp)
  rw [q] at h1; cases h1
  exact ⟨_, by simp, h2⟩
theorem DaAll.atI {i : Int} {K : PySem.W.Frag} {F : Hp} {vs : List V} {ds : List PyData} {d : PyData} (h : DaAll K F vs ds) (q : L2.atI ds i = some d) : ∃ v, L2.atI vs i = some v ∧ Da K F v d := by
  unfold L2.atI at q ⊢
  rw [h.len]
  cases hn : ixN ds.length i with
  | none => rw [hn] at q; cases q
  | some n =>
    rw [hn] at q
    exact h.get (n := n) (d := d) q
theorem DaAll.append {K : PySem.W.Frag} {F : Hp} : ∀ {vs us : List V} {ds es : List PyData}, DaAll K F vs ds → DaAll K F us es → DaAll K F (vs ++ us) (ds ++ es)
  | _, _, _, _, .nil, h => h
  | _, _, _, _, .cons h t, q => .cons h (DaAll.append t q)
theorem DaAll.take {K : PySem.W.Frag} {F : Hp} : ∀ {vs : List V} {ds : List PyData} (n : Nat), DaAll K F vs ds → DaAll K F (vs.take n) (ds.take n)
  | _, _, 0, _ => .nil
  | _, _, _ + 1, .nil => .nil
  | _, _, n + 1, .cons h t => .cons h (DaAll.take n t)
theorem DaAll.drop {K : PySem.W.Frag} {F : Hp} : ∀ {vs : List V} {ds : List PyData} (n : Nat), DaAll K F vs ds → DaAll K F (vs.drop n) (ds.drop n)
  | _, _, 0, h => h
  | _, _, _ + 1, .nil => .nil
  | _, _, n + 1, .cons h t => DaAll.drop n t
theorem DaAll.set {K : PySem.W.Frag} {F : Hp} : ∀ {vs : List V} {ds : List PyData} (n : Nat) {v : V} {d : PyData}, DaAll K F vs ds → Da K F v d → DaAll K F (vs.set n v) (ds.set n d)
  | _, _, _, _, _, .nil, _ => .nil
  | _, _, 0, _, _, .cons h t, q => .cons q t
  | _, _, n + 1, _, _, .cons h t, q => .cons h (DaAll.set n t q)
end Z
namespace Z
open PySem PySem.Spec PyProof.Rows L2
variable [Vo]
section
variable {X : Cx} {E : Env'} {R Ra Rb : RP} {a b c e : Expr} {es : List Expr} {pos : Pos} {i j : Int} {s t : Str} {d d2 : PyData} {ds ds2 : List PyData}
theorem DD.int_inv {K : PySem.W.Frag} {F : Hp} {v : V} (h : DD K (.int i) F v) : v = .int i := by cases h; rfl
theorem DD.str_inv {K : PySem.W.Frag} {F : Hp} {v : V} (h : DD K (.str s) F v) : v = .str s := by cases h; rfl
theorem DD.bool_inv {K : PySem.W.Frag} {F : Hp} {v : V} {k : Bool} (h : DD K (.bool k) F v) : v = .bl k := by cases h; rfl
theorem DD.none_inv {K : PySem.W.Frag} {F : Hp} {v : V} (h : DD K .none F v) : v = .non := by cases h; rfl
theorem DD.list_inv {K : PySem.W.Frag} {F : Hp} {v : V} (h : DD K (.list ds) F v) : ∃ p vs, v = .ref p ∧ F p = some (.lst vs) ∧ DaAll K F vs ds := by cases h with | lst h1 h2 => exact ⟨_, _, rfl, h1, h2⟩
theorem DD.tupI_inv {K : PySem.W.Frag} {F : Hp} {v : V} (h : DD K d F v) (q : isT d = true) : ∃ p vs, v = .ref p ∧ SqT K F p vs ∧ DaAll K F vs (tI d) := by
  cases d with
  | tuple ds => cases h with | tup h1 h2 => exact ⟨_, _, rfl, h1, h2⟩
  | dict kvs => cases h with | stu h1 _ h2 => exact ⟨_, _, rfl, h1, h2⟩
  | _ => exact absurd q (by simp [isT])
theorem DD.tup_inv {K : PySem.W.Frag} {F : Hp} {v : V} (h : DD K (.tuple ds) F v) : ∃ p vs, v = .ref p ∧ SqT K F p vs ∧ DaAll K F vs ds := by cases h with | tup h1 h2 => exact ⟨_, _, rfl, h1, h2⟩
theorem g_imp (h : GE X e E Ra) (mo : Mono R) (i : ∀ F v, Ra F v → R F v) : GE X e E R :=
  ⟨pe_imp h.pe fun σ H Q ⟨F, r, x, k⟩ => ⟨F, r, x, fun v F' H' e1 q => k v F' H' e1 (i F' v q)⟩, mo⟩
theorem g_is {d d' : PyData} (h : GE X e E (DD X.K d)) (q : d = d') : GE X e E (DD X.K d') := by subst q; exact h
theorem g_weak {E' : Env'} (h : GE X e E' R) (w : ∀ (i : Nat) (R : RP), E'[i]? = some (some R) → E[i]? = some (some R)) (hl : E.length = E'.length) : GE X e E R :=
  ⟨pe_imp h.pe fun σ H Q ⟨F, r, x, k⟩ => ⟨F, ⟨fun i R q => r.at_ i R (w i R q), r.l.trans hl⟩, x, k⟩, h.mo⟩
theorem g_int {j pos} : GE X (.Constant (.int i) j pos) E (DD X.K (.int i)) := g_con pe_int DD.mo fun _ => .int i
theorem g_str {j pos} : GE X (.Constant (.str s) j pos) E (DD X.K (.str s)) := g_con pe_str DD.mo fun _ => .str s
theorem g_bool {k : Bool} {j pos} : GE X (.Constant (.bool k) j pos) E (DD X.K (.bool k)) := g_con pe_bl DD.mo fun _ => .bl k
theorem g_none {j pos} : GE X (.Constant .none j pos) E (DD X.K .none) := g_con pe_non DD.mo fun _ => .non
theorem g_gint {x : Str} {t : Tok} (hg : Gl X x) (hm : X.mg x = some (.int i t)) (hd : (x == ("__debug__" : Str)) = false := by decide) : GE X (.Name x pos) E (DD X.K (.int i)) := g_con (pe_glob (v := .int i) hg hm ⟨t, rfl⟩ hd) DD.mo fun _ => .int i
theorem g_gstr {x : Str} {t : Tok} (hg : Gl X x) (hm : X.mg x = some (.str s t)) (hd : (x == ("__debug__" : Str)) = false := by decide) : GE X (.Name x pos) E (DD X.K (.str s)) := g_con (pe_glob (v := .str s) hg hm ⟨t, rfl⟩ hd) DD.mo fun _ => .str s
theorem g_gref {x : Str} {p : Addr} (hg : Gl X x) (hm : X.mg x = some (.ref p)) (hr : ∀ F, Da X.K F (.ref p) d) (hd : (x == ("__debug__" : Str)) = false := by decide) : GE X (.Name x pos) E (DD X.K d) := g_con (pe_glob (v := .ref p) hg hm rfl hd) DD.mo hr
theorem rr_ii {K : PySem.W.Frag} {C : Int → Int → Prop} {g : Int → Int → V} {d : PyData} (hc : C i j) (hg : ∀ F, Da K F (g i j) d) : RR2 (rI C g) (DD K (.int i)) (DD K (.int j)) (DD K d) := fun F H x y Q hx hy e k => by
  cases DD.int_inv hx; cases DD.int_inv hy
  exact ⟨i, j, rfl, rfl, hc, k _ F H (Ext.refl e) (hg F)⟩
theorem rr_ii0 {K : PySem.W.Frag} {g : Int → Int → V} {d : PyData} (hg : ∀ F, Da K F (g i j) d) : RR2 (rI0 g) (DD K (.int i)) (DD K (.int j)) (DD K d) := fun F H x y Q hx hy e k => by
  cases DD.int_inv hx; cases DD.int_inv hy
  exact ⟨i, j, rfl, rfl, k _ F H (Ext.refl e) (hg F)⟩
theorem g_add (ha : GE X a E (DD X.K (.int i))) (hb : GE X b E (DD X.K (.int j))) : GE X (.BinOp a .Add b pos) E (DD X.K (.int (i + j))) := g_op (fun _ _ h1 h2 => pe_op op_add h1 h2) ha hb DD.mo (rr_ii0 fun _ => .int _)
theorem g_sub (ha : GE X a E (DD X.K (.int i))) (hb : GE X b E (DD X.K (.int j))) : GE X (.BinOp a .Sub b pos) E (DD X.K (.int (i - j))) := g_op (fun _ _ h1 h2 => pe_op op_sub h1 h2) ha hb DD.mo (rr_ii0 fun _ => .int _)
theorem g_mul (ha : GE X a E (DD X.K (.int i))) (hb : GE X b E (DD X.K (.int j))) (hc : CMul i j) : GE X (.BinOp a .Mult b pos) E (DD X.K (.int (i * j))) := g_op (fun _ _ h1 h2 => pe_op op_mul h1 h2) ha hb DD.mo (rr_ii hc fun _ => .int _)
theorem g_mulW (ha : GE X a E (DD X.K (.int i))) (hb : GE X b E (DD X.K (.int j))) (hc : CMulW i j) : GE X (.BinOp a .Mult b pos) E (DD X.K (.int (i * j))) := g_op (fun _ _ h1 h2 => pe_op op_mulW h1 h2) ha hb DD.mo (rr_ii hc fun _ => .int _)
theorem g_mod (ha : GE X a E (DD X.K (.int i))) (hb : GE X b E (DD X.K (.int j))) (hc : 0 < j) : GE X (.BinOp a .Mod b pos) E (DD X.K (.int (i % j))) := g_op (fun _ _ h1 h2 => pe_op op_mod h1 h2) ha hb DD.mo (rr_ii (C := fun _ j => 0 < j) hc fun _ => .int _)
theorem g_div (ha : GE X a E (DD X.K (.int i))) (hb : GE X b E (DD X.K (.int j))) (hc : 0 < j ∧ j < 1073741824) : GE X (.BinOp a .FloorDiv b pos) E (DD X.K (.int (i / j))) := g_op (fun _ _ h1 h2 => pe_op op_fdiv h1 h2) ha hb DD.mo (rr_ii (C := CDiv) hc fun _ => .int _)
theorem g_divW (ha : GE X a E (DD X.K (.int i))) (hb : GE X b E (DD X.K (.int j))) (hc : CDivW i j) : GE X (.BinOp a .FloorDiv b pos) E (DD X.K (.int (i / j))) := g_op (fun _ _ h1 h2 => pe_op op_fdivW h1 h2) ha hb DD.mo (rr_ii hc fun _ => .int _)
theorem g_pow (ha : GE X a E (DD X.K (.int i))) (hb : GE X b E (DD X.K (.int j))) (hc : CPow i j) : GE X (.BinOp a .Pow b pos) E (DD X.K (.int (i ^ j.toNat))) := g_op (fun _ _ h1 h2 => pe_op op_pow h1 h2) ha hb DD.mo (rr_ii hc fun _ => .int _)
theorem g_shl (ha : GE X a E (DD X.K (.int i))) (hb : GE X b E (DD X.K (.int j))) (hc : CPow i j) : GE X (.BinOp a .LShift b pos) E (DD X.K (.int (i * 2 ^ j.toNat))) := g_op (fun _ _ h1 h2 => pe_op op_shl h1 h2) ha hb DD.mo (rr_ii hc fun _ => .int _)
theorem g_shr (ha : GE X a E (DD X.K (.int i))) (hb : GE X b E (DD X.K (.int j))) (hc : 0 ≤ j) : GE X (.BinOp a .RShift b pos) E (DD X.K (.int (i / 2 ^ j.toNat))) := g_op (fun _ _ h1 h2 => pe_op op_shr h1 h2) ha hb DD.mo (rr_ii (C := fun _ j => 0 ≤ j) hc fun _ => .int _)
theorem g_and (ha : GE X a E (DD X.K (.int i))) (hb : GE X b E (DD X.K (.int j))) : GE X (.BinOp a .BitAnd b pos) E (DD X.K (.int (Builtin.bitAnd i j))) := g_op (fun _ _ h1 h2 => pe_op op_and h1 h2) ha hb DD.mo (rr_ii0 fun _ => .int _)
theorem g_neg (ha : GE X a E (DD X.K (.int i))) : GE X (.UnaryOp .USub a pos) E (DD X.K (.int (-i))) :=
  ⟨pe_imp (pe_un un_neg ha.pe) fun σ H Q ⟨F, r, x, k⟩ => ⟨F, r, x, fun v F1 H1 e1 r1 => by cases DD.int_inv r1; exact ⟨i, rfl, k _ F1 H1 e1 (.int _)⟩⟩, DD.mo⟩
theorem g_cmp {op : CmpOp} {r : R2} (ho : OpR X (compareOp op) r) (ha : GE X a E Ra) (hb : GE X b E Rb) (hm : behindInMarks op b = false) (mo : Mono R) (hr : RR2 r Ra Rb R) : GE X (.Compare a [op] [b] pos) E R :=
  g_op (fun _ _ h1 h2 => pe_cmpR ho h1 h2 hm) ha hb mo hr
def isNone : PyData → Bool
  | .none => true
  | _ => false
theorem dp_non {K : PySem.W.Frag} {F : Hp} {v : V} (h : Da K F v d) : decide (v = .non) = isNone d := by cases h <;> rfl
theorem g_chain {op op' : CmpOp} {p p' : Int → Int → Bool} {l : Int} (ho : OpR X (compareOp op) (rI0 fun i j => .bl (p i j))) (ho' : OpR X (compareOp op') (rI0 fun i j => .bl (p' i j))) (ha : GE X a E (DD X.K (.int i))) (hb : GE X b E (DD X.K (.int j))) (hc : GE X c E (DD X.K (.int l)))
    (hm : lastMarks [op, op'] [b, c] = false := by with_unfolding_all rfl) : GE X (.Compare a [op, op'] [b, c] pos) E (DD X.K (.bool (p i j && p' j l))) :=
  ⟨pe_imp (pe_chain ho ho' ha.pe hb.pe hc.pe hm) fun σ H Q ⟨F, r, x, k⟩ => ⟨F, r, x, fun v F1 H1 e1 r1 => ⟨F1, r.mono e1.ff, e1.fh, fun u F2 H2 e2 r2 => by
    cases DD.int_inv r1; cases DD.int_inv r2
    refine ⟨i, j, rfl, rfl, _, rfl, ?_⟩
    cases hp : p i j with
    | true => exact ⟨F2, (r.mono e1.ff).mono e2.ff, e2.fh, fun w F3 H3 e3 r3 => by
        cases DD.int_inv r3
        exact ⟨j, l, rfl, rfl, k _ F3 H3 ((e1.trans e2).trans e3) (by rw [hp, Bool.true_and]; exact .bl _)⟩⟩
    | false =>
      refine iteF ?_
      exact k _ F2 H2 (e1.trans e2) (by rw [hp, Bool.false_and]; exact .bl _)⟩⟩, DD.mo⟩
structure CmpR (X : Cx) (op : CmpOp) (b : Expr) (Ra Rb : RP) (k : Bool) : Prop where
  ex : ∃ r, OpR X (compareOp op) r ∧ behindInMarks op b = false ∧ RR2 r Ra Rb (DD X.K (.bool k))
theorem g_cm {op : CmpOp} {k : Bool} (ha : GE X a E Ra) (c : CmpR X op b Ra Rb k) (hb : GE X b E Rb) : GE X (.Compare a [op] [b] pos) E (DD X.K (.bool k)) := by
  obtain ⟨r, ho, hm, hr⟩ := c.ex
  exact g_cmp ho ha hb hm DD.mo hr
theorem gb_cm {op : CmpOp} {k : Bool} (ha : GE X a E Ra) (c : CmpR X op b Ra Rb k) (hb : GE X b E Rb) : GB X (.Compare a [op] [b] pos) E k := by
  obtain ⟨r, ho, hm, hr⟩ := c.ex
  exact ⟨pt_imp (pt_cmpR ho ha.pe hb.pe hm) fun σ H Q ⟨F, r, x, k⟩ => ⟨F, r, x, fun v F1 H1 e1 r1 => ⟨F1, r.mono e1.ff, e1.fh, fun u F2 H2 e2 r2 => hr F2 H2 v u _ (ha.mo _ _ _ e2.ff r1) r2 e2.fh fun z F3 H3 e3 r3 => by
    cases DD.bool_inv r3
    exact ⟨_, rfl, k F3 H3 ((e1.trans e2).trans e3)⟩⟩⟩⟩
theorem c_lt : CmpR X .Lt b (DD X.K (.int i)) (DD X.K (.int j)) (decide (i < j)) := ⟨_, op_lt, nomark _, rr_ii0 fun _ => .bl _⟩
theorem c_le : CmpR X .LtE b (DD X.K (.int i)) (DD X.K (.int j)) (decide (i ≤ j)) := ⟨_, op_le, nomark _, rr_ii0 fun _ => .bl _⟩
theorem c_gt : CmpR X .Gt b (DD X.K (.int i)) (DD X.K (.int j)) (decide (j < i)) := ⟨_, op_gt, nomark _, rr_ii0 fun _ => .bl _⟩
theorem c_ge : CmpR X .GtE b (DD X.K (.int i)) (DD X.K (.int j)) (decide (j ≤ i)) := ⟨_, op_ge, nomark _, rr_ii0 fun _ => .bl _⟩
theorem c_eqI : CmpR X .Eq b (DD X.K (.int i)) (DD X.K (.int j)) (decide (i = j)) := ⟨_, op_eq, nomark _, fun F H x y Q hx hy e k => by
  cases DD.int_inv hx; cases DD.int_inv hy
  have q : decide (V.int i = V.int j) = decide (i = j) := by by_cases h : i = j <;> simp [h]
  exact ⟨rfl, k _ F H (Ext.refl e) (by rw [q]; exact .bl _)⟩⟩
theorem c_neI : CmpR X .NotEq b (DD X.K (.int i)) (DD X.K (.int j)) (!decide (i = j)) := ⟨_, op_ne, nomark _, fun F H x y Q hx hy e k => by
  cases DD.int_inv hx; cases DD.int_inv hy
  have q : decide (V.int i = V.int j) = decide (i = j) := by by_cases h : i = j <;> simp [h]
  exact ⟨rfl, k _ F H (Ext.refl e) (by rw [q]; exact .bl _)⟩⟩
theorem c_eqS : CmpR X .Eq b (DD X.K (.str s)) (DD X.K (.str t)) (decide (s = t)) := ⟨_, op_eq, nomark _, fun F H x y Q hx hy e k => by
  cases DD.str_inv hx; cases DD.str_inv hy
  have q : decide (V.str s = V.str t) = decide (s = t) := by by_cases h : s = t <;> simp [h]
  exact ⟨rfl, k _ F H (Ext.refl e) (by rw [q]; exact .bl _)⟩⟩
theorem c_neS : CmpR X .NotEq b (DD X.K (.str s)) (DD X.K (.str t)) (!decide (s = t)) := ⟨_, op_ne, nomark _, fun F H x y Q hx hy e k => by
  cases DD.str_inv hx; cases DD.str_inv hy
  have q : decide (V.str s = V.str t) = decide (s = t) := by by_cases h : s = t <;> simp [h]
  exact ⟨rfl, k _ F H (Ext.refl e) (by rw [q]; exact .bl _)⟩⟩
theorem c_eqD (hu : X.A.units + 64 < cLine) (h1 : SeqAt.shaped d = true) (h2 : SeqAt.shaped d2 = true) : CmpR X .Eq b (DD X.K d) (DD X.K d2) (PyData.eqv d d2) := ⟨_, op_eqD hu, nomark _, fun F H x y Q hx hy e k => ⟨d, d2, da_dp e _ _ (ndf_shaped h1) hx, da_dp e _ _ (ndf_shaped h2) hy, h1, h2, k _ F H (Ext.refl e) (.bl _)⟩⟩
theorem c_neD (hu : X.A.units + 64 < cLine) (h1 : SeqAt.shaped d = true) (h2 : SeqAt.shaped d2 = true) : CmpR X .NotEq b (DD X.K d) (DD X.K d2) (!PyData.eqv d d2) := ⟨_, op_neD hu, nomark _, fun F H x y Q hx hy e k => ⟨d, d2, da_dp e _ _ (ndf_shaped h1) hx, da_dp e _ _ (ndf_shaped h2) hy, h1, h2, k _ F H (Ext.refl e) (.bl _)⟩⟩
theorem c_isN : CmpR X .Is b (DD X.K d) (DD X.K .none) (isNone d) := ⟨_, op_isN, nomark _, fun F H x y Q hx hy e k => ⟨DD.none_inv hy, k _ F H (Ext.refl e) (by rw [dp_non hx]; exact .bl _)⟩⟩
theorem c_notN : CmpR X .IsNot b (DD X.K d) (DD X.K .none) (!isNone d) := ⟨_, op_notN, nomark _, fun F H x y Q hx hy e k => ⟨DD.none_inv hy, k _ F H (Ext.refl e) (by rw [dp_non hx]; exact .bl _)⟩⟩
theorem gb_chain {op op' : CmpOp} {p p' : Int → Int → Bool} {l : Int} (ho : OpR X (compareOp op) (rI0 fun i j => .bl (p i j))) (ho' : OpR X (compareOp op') (rI0 fun i j => .bl (p' i j))) (ha : GE X a E (DD X.K (.int i))) (hb : GE X b E (DD X.K (.int j))) (hc : GE X c E (DD X.K (.int l)))
    (hm : lastMarks [op, op'] [b, c] = false := by with_unfolding_all rfl) : GB X (.Compare a [op, op'] [b, c] pos) E (p i j && p' j l) :=
  ⟨pt_imp (pt_chain ho ho' ha.pe hb.pe hc.pe hm) fun σ H Q ⟨F, r, x, k⟩ => ⟨F, r, x, fun v F1 H1 e1 r1 => ⟨F1, r.mono e1.ff, e1.fh, fun u F2 H2 e2 r2 => by
    cases DD.int_inv r1; cases DD.int_inv r2
    refine ⟨i, j, rfl, rfl, _, rfl, ?_⟩
    cases hp : p i j with
    | true => exact ⟨F2, (r.mono e1.ff).mono e2.ff, e2.fh, fun w F3 H3 e3 r3 => by
        cases DD.int_inv r3
        exact ⟨j, l, rfl, rfl, _, rfl, by simpa [hp] using k F3 H3 ((e1.trans e2).trans e3)⟩⟩
    | false =>
      refine iteF ⟨_, rfl, ?_⟩
      simpa [hp] using k F2 H2 (e1.trans e2)⟩⟩⟩
theorem gb_val {k : Bool} (h : GE X e E (DD X.K (.bool k))) (he : ∀ whole, isTrue e X.env whole = (do let v ← whole; standAt e.pos; holding [v] (truthy v)) := by intro _; rfl) : GB X e E k :=
  ⟨pt_imp (pt_val h.pe he) fun σ H Q ⟨F, r, x, q⟩ => ⟨F, r, x, fun v F' H' e1 r1 => by cases DD.bool_inv r1; exact ⟨k, rfl, q F' H' e1⟩⟩⟩
theorem gb_is {k k' : Bool} (h : GB X e E k) (q : k = k') : GB X e E k' := by subst q; exact h
structure GW (X : Cx) (e : Expr) (E : Env') (b : Bool) : Prop where
  pw : PW X e (tGB E b)
theorem gw_and1 {k : Bool} (h : GB X a E k) : GW X (.BoolOp .And [a] pos) E k := ⟨pw_and1 h.pt⟩
theorem gw_or1 {k : Bool} (h : GB X a E k) : GW X (.BoolOp .Or [a] pos) E k := ⟨pw_or1 h.pt⟩
theorem gw_and {k l : Bool} (h : GB X a E k) (t : k = true → GW X (.BoolOp .And (b :: es) pos) E l) : GW X (.BoolOp .And (a :: b :: es) pos) E (k && l) := by
  cases k with
  | true => exact ⟨pw_imp (pw_and h.pt (t rfl).pw) fun σ H Q ⟨F, r, x, q⟩ => ⟨F, r, x, fun F' H' e1 => ⟨F', r.mono e1.ff, e1.fh, fun F2 H2 e2 => q F2 H2 (e1.trans e2)⟩⟩⟩
  | false => exact ⟨pw_imp (pw_and h.pt (tB' := fun _ _ _ => False) ⟨fun _ _ _ _ _ _ _ z => z.elim⟩) fun σ H Q ⟨F, r, x, q⟩ => ⟨F, r, x, fun F' H' e1 => q F' H' e1⟩⟩
theorem gw_or {k l : Bool} (h : GB X a E k) (t : k = false → GW X (.BoolOp .Or (b :: es) pos) E l) : GW X (.BoolOp .Or (a :: b :: es) pos) E (k || l) := by
  cases k with
  | false => exact ⟨pw_imp (pw_or h.pt (t rfl).pw) fun σ H Q ⟨F, r, x, q⟩ => ⟨F, r, x, fun F' H' e1 => ⟨F', r.mono e1.ff, e1.fh, fun F2 H2 e2 => q F2 H2 (e1.trans e2)⟩⟩⟩
  | true => exact ⟨pw_imp (pw_or h.pt (tB' := fun _ _ _ => False) ⟨fun _ _ _ _ _ _ _ z => z.elim⟩) fun σ H Q ⟨F, r, x, q⟩ => ⟨F, r, x, fun F' H' e1 => q F' H' e1⟩⟩
theorem GW.gb {k : Bool} (h : GW X e E k) : GB X e E k := ⟨h.pw.pt⟩
theorem gb_not {k : Bool} (h : GB X a E k) : GB X (.UnaryOp .Not a pos) E (!k) := ⟨pt_imp (pt_not h.pt) fun σ H Q ⟨F, r, x, q⟩ => ⟨F, r, x, fun F' H' e1 => q F' H' e1⟩⟩
theorem g_one {op} (h : GE X a E R) : GE X (.BoolOp op [a] pos) E R := ⟨pe_one h.pe, h.mo⟩
theorem g_andV {k l : Bool} (h : GE X a E (DD X.K (.bool k))) (t : k = true → GE X (.BoolOp .And (b :: es) pos) E (DD X.K (.bool l))) : GE X (.BoolOp .And (a :: b :: es) pos) E (DD X.K (.bool (k && l))) := by
  cases k with
  | true => exact ⟨pe_imp (pe_and h.pe (t rfl).pe) fun σ H Q ⟨F, r, x, q⟩ => ⟨F, r, x, fun v F' H' e1 r1 => by
      cases DD.bool_inv r1
      exact ⟨true, rfl, iteT ⟨F', r.mono e1.ff, e1.fh, fun v F2 H2 e2 r2 => q v F2 H2 (e1.trans e2) r2⟩⟩⟩, DD.mo⟩
  | false => exact ⟨pe_imp (pe_and h.pe (tb := fun _ _ _ => False) ⟨fun _ _ _ _ _ _ z => z.elim⟩) fun σ H Q ⟨F, r, x, q⟩ => ⟨F, r, x, fun v F' H' e1 r1 => by
      cases DD.bool_inv r1
      exact ⟨false, rfl, iteF (q _ F' H' e1 (.bl _))⟩⟩, DD.mo⟩
theorem g_orV {k l : Bool} (h : GE X a E (DD X.K (.bool k))) (t : k = false → GE X (.BoolOp .Or (b :: es) pos) E (DD X.K (.bool l))) : GE X (.BoolOp .Or (a :: b :: es) pos) E (DD X.K (.bool (k || l))) := by
  cases k with
  | false => exact ⟨pe_imp (pe_or h.pe (t rfl).pe) fun σ H Q ⟨F, r, x, q⟩ => ⟨F, r, x, fun v F' H' e1 r1 => by
      cases DD.bool_inv r1
      exact ⟨false, rfl, iteF ⟨F', r.mono e1.ff, e1.fh, fun v F2 H2 e2 r2 => q v F2 H2 (e1.trans e2) r2⟩⟩⟩, DD.mo⟩
  | true => exact ⟨pe_imp (pe_or h.pe (tb := fun _ _ _ => False) ⟨fun _ _ _ _ _ _ z => z.elim⟩) fun σ H Q ⟨F, r, x, q⟩ => ⟨F, r, x, fun v F' H' e1 r1 => by
      cases DD.bool_inv r1
      exact ⟨true, rfl, iteT (q _ F' H' e1 (.bl _))⟩⟩, DD.mo⟩
theorem g_notV {k : Bool} (h : GE X a E (DD X.K (.bool k))) : GE X (.UnaryOp .Not a pos) E (DD X.K (.bool (!k))) :=
  ⟨pe_imp (pe_not h.pe) fun σ H Q ⟨F, r, x, q⟩ => ⟨F, r, x, fun v F' H' e1 r1 => by cases DD.bool_inv r1; exact ⟨k, rfl, q _ F' H' e1 (.bl _)⟩⟩, DD.mo⟩
theorem g_ife {k : Bool} (hc : GB X c E k) (h1 : k = true → GE X a E R) (h2 : k = false → GE X b E R) (mo : Mono R) : GE X (.IfExp c a b pos) E R := by
  cases k with
  | true => exact ⟨pe_imp (pe_ifExp hc.pt (h1 rfl).pe (tb := fun _ _ _ => False) ⟨fun _ _ _ _ _ _ z => z.elim⟩) fun σ H Q ⟨F, r, x, q⟩ => ⟨F, r, x, fun F' H' e1 => iteT ⟨F', r.mono e1.ff, e1.fh, fun v F2 H2 e2 r2 => q v F2 H2 (e1.trans e2) r2⟩⟩, mo⟩
  | false => exact ⟨pe_imp (pe_ifExp hc.pt (ta := fun _ _ _ => False) ⟨fun _ _ _ _ _ _ z => z.elim⟩ (h2 rfl).pe) fun σ H Q ⟨F, r, x, q⟩ => ⟨F, r, x, fun F' H' e1 => iteF ⟨F', r.mono e1.ff, e1.fh, fun v F2 H2 e2 r2 => q v F2 H2 (e1.trans e2) r2⟩⟩, mo⟩
theorem g_tup {x1} (h : GA X es E (ds.map (DD X.K))) (hl : ds.length ≤ 100000) : GE X (.Tuple es x1 pos) E (DD X.K (.tuple ds)) :=
  ⟨pe_imp (pe_tup h.pa) fun σ H Q ⟨F, r, x, q⟩ => ⟨F, r, x, fun vs F' H' e1 r1 => ⟨by rw [r1.len, List.length_map]; exact Nat.le_trans hl (by decide), fun p hp => q _ _ _ (e1.trans (Ext.new e1.fh hp _)) (.tup (SqT.of upd_same) (daAll_mono (Ext.new e1.fh hp _).ff _ _ r1.dp))⟩⟩, DD.mo⟩
theorem g_lst (h : GA X es E (ds.map (DD X.K))) (hl : ds.length ≤ 100000) : GE X (.List es pos) E (DD X.K (.list ds)) :=
  ⟨pe_imp (pe_lst h.pa) fun σ H Q ⟨F, r, x, q⟩ => ⟨F, r, x, fun vs F' H' e1 r1 => ⟨by rw [r1.len, List.length_map]; exact Nat.le_trans hl (by decide), fun p hp => q _ _ _ (e1.trans (Ext.new e1.fh hp _)) (.lst upd_same (daAll_mono (Ext.new e1.fh hp _).ff _ _ r1.dp))⟩⟩, DD.mo⟩
theorem g_ixL (ha : GE X a E (DD X.K (.list ds))) (hb : GE X b E (DD X.K (.int i))) (hi : L2.atI ds i = some d) (hs : PlainIx b := by intro _ _; rfl) : GE X (.Subscript a b pos) E (DD X.K d) :=
  g_op (fun _ _ h1 h2 => pe_ix ix_list h1 h2 hs) ha hb DD.mo fun F H x y Q hx hy e k => by
    obtain ⟨p, vs, rfl, h1, h2⟩ := DD.list_inv hx
    cases DD.int_inv hy
    obtain ⟨v, hv, hd⟩ := h2.atI hi
    exact ⟨p, vs, i, v, rfl, rfl, SqL.of (e.at h1), hv, k v F H (Ext.refl e) hd⟩
theorem g_ixT (ha : GE X a E (DD X.K (.tuple ds))) (hb : GE X b E (DD X.K (.int i))) (hi : L2.atI ds i = some d) (hs : PlainIx b := by intro _ _; rfl) : GE X (.Subscript a b pos) E (DD X.K d) :=
  g_op (fun _ _ h1 h2 => pe_ix ix_tup h1 h2 hs) ha hb DD.mo fun F H x y Q hx hy e k => by
    obtain ⟨p, vs, rfl, h1, h2⟩ := DD.tup_inv hx
    cases DD.int_inv hy
    obtain ⟨v, hv, hd⟩ := h2.atI hi
    exact ⟨p, vs, i, v, rfl, rfl, fh_t e h1, hv, k v F H (Ext.refl e) hd⟩
theorem g_ixF (ha : GE X a E (DD X.K (sT ds))) (hb : GE X b E (DD X.K (.int i))) (hi : L2.atI ds i = some d) (hs : PlainIx b := by intro _ _; rfl) : GE X (.Subscript a b pos) E (DD X.K d) :=
  g_op (fun _ _ h1 h2 => pe_ix ix_tup h1 h2 hs) ha hb DD.mo fun F H x y Q hx hy e k => by
    obtain ⟨p, vs, rfl, h1, h2⟩ := DD.tupI_inv hx rfl
    have h3 : DaAll X.K F vs ds := by
      have : tI (sT ds) = ds := by show (ds.map fun d => (d, PyData.none)).map (·.1) = ds; rw [List.map_map]; exact List.map_id _
      rw [this] at h2; exact h2
    cases DD.int_inv hy
    obtain ⟨v, hv, hd⟩ := h3.atI hi
    exact ⟨p, vs, i, v, rfl, rfl, fh_t e h1, hv, k v F H (Ext.refl e) hd⟩
theorem g_ixS {n : Nat} (ha : GE X a E (DD X.K (.str s))) (hb : GE X b E (DD X.K (.int i))) (hl : s.length ≤ sizeLine) (hi : L2.atI s.cps.toList i = some n) (hs : PlainIx b := by intro _ _; rfl) : GE X (.Subscript a b pos) E (DD X.K (.str ⟨#[n]⟩)) :=
  g_op (fun _ _ h1 h2 => pe_ix ix_str h1 h2 hs) ha hb DD.mo fun F H x y Q hx hy e k => by
    cases DD.str_inv hx; cases DD.int_inv hy
    exact ⟨s, i, n, rfl, rfl, hl, hi, k _ F H (Ext.refl e) (.str _)⟩
structure GO (X : Cx) (e : Option Expr) (E : Env') (o : Option Int) : Prop where
  po : PO X e (fun σ H Q => ∃ F, RepE E σ F ∧ Fh F H ∧ ∀ F' H', Ext F H F' H' → Q o H')
theorem go_none : GO X none E none := ⟨⟨fun pins s σ H Q I h => by obtain ⟨F, r, x, q⟩ := h; exact po_none.run pins s σ H Q I (q F H (Ext.refl x))⟩⟩
theorem go_some (h : GE X e E (DD X.K (.int i))) : GO X (some e) E (some i) := ⟨⟨fun pins s σ H Q I ⟨F, r, x, q⟩ => (po_some h.pe).run pins s σ H Q I ⟨F, r, x, fun v F' H' e1 r1 => by cases DD.int_inv r1; exact ⟨i, rfl, q F' H' e1⟩⟩⟩⟩
def cutD {α : Type} (ds : List α) (lo hi : Option Int) : List α := (ds.drop (HT.sIx ds.length 0 lo)).take (HT.sIx ds.length ds.length hi - HT.sIx ds.length 0 lo)
theorem DaAll.cut {K : PySem.W.Frag} {F : Hp} {vs : List V} {ds : List PyData} {lo hi : Option Int} (h : DaAll K F vs ds) : DaAll K F (cutV vs lo hi) (cutD ds lo hi) := by
  unfold cutV cutD
  rw [h.len]
  exact (h.drop _).take _
theorem g_slL {lo hi : Option Expr} {o1 o2 : Option Int} {p2 : Pos} (ha : GE X a E (DD X.K (.list ds))) (h1 : GO X lo E o1) (h2 : GO X hi E o2) : GE X (.Subscript a (.Slice lo hi none p2) pos) E (DD X.K (.list (cutD ds o1 o2))) :=
  ⟨pe_imp (pe_slice sl_list ha.pe h1.po h2.po) fun σ H Q ⟨F, r, x, q⟩ => ⟨F, r, x, fun v F1 H1 e1 r1 => ⟨F1, r.mono e1.ff, e1.fh, fun F2 H2 e2 => ⟨F2, (r.mono e1.ff).mono e2.ff, e2.fh, fun F3 H3 e3 => by
    have e23 := e2.trans e3
    obtain ⟨p, vs, rfl, hl, hd⟩ := DD.list_inv (DD.mo _ _ _ e23.ff r1)
    refine ⟨p, vs, rfl, SqL.of (e3.fh.at hl), fun l hl' => ?_⟩
    have en := Ext.new e3.fh hl' (.lst (cutV vs o1 o2))
    exact q _ _ _ ((e1.trans e23).trans en) (.lst upd_same (daAll_mono en.ff _ _ hd.cut))⟩⟩⟩, DD.mo⟩
end
end Z
namespace Z
open PySem PySem.Spec PyProof.Rows L2
variable [Vo]
structure GAD (X : Cx) (es : List Expr) (E : Env') (ds : List PyData) : Prop where
  pa : PA X es (fun σ H Q => ∃ F, RepE E σ F ∧ Fh F H ∧ ∀ vs F' H', Ext F H F' H' → DaAll X.K F' vs ds → Q vs H')
section
variable {X : Cx} {E : Env'} {R Ra Rb : RP} {a b c e o : Expr} {es : List Expr} {pos p apos cpos : Pos} {i j : Int} {s t : Str} {d d2 : PyData} {ds ds2 : List PyData} {x : Str}
theorem gad_nil : GAD X [] E [] := ⟨pa_imp pa_nil fun _ H _ ⟨F, _, x, k⟩ => k [] F H (Ext.refl x) .nil⟩
theorem gad_cons (h : GE X e E (DD X.K d)) (t : GAD X es E ds) (hs : starEach (e :: es) X.env = (false, eval e X.env) :: starEach es X.env := by rfl) : GAD X (e :: es) E (d :: ds) :=
  ⟨pa_imp (pa_cons h.pe t.pa hs) fun σ H Q ⟨F, r, x, k⟩ => ⟨F, r, x, fun v F1 H1 e1 r1 => ⟨F1, r.mono e1.ff, e1.fh, fun vs F2 H2 e2 r2 => k (v :: vs) F2 H2 (e1.trans e2) (.cons (DD.mo _ _ _ e2.ff r1) r2)⟩⟩⟩
theorem gt_tup {x1} (h : GAD X es E ds) (hl : ds.length ≤ 100000 := by first | decide | simp) : GE X (.Tuple es x1 pos) E (DD X.K (.tuple ds)) :=
  ⟨pe_imp (pe_tup h.pa) fun σ H Q ⟨F, r, x, q⟩ => ⟨F, r, x, fun vs F' H' e1 r1 => ⟨by rw [r1.len]; exact Nat.le_trans hl (by decide), fun p hp => q _ _ _ (e1.trans (Ext.new e1.fh hp _)) (.tup (SqT.of upd_same) (daAll_mono (Ext.new e1.fh hp _).ff _ _ r1))⟩⟩, DD.mo⟩
theorem gl_lst (h : GAD X es E ds) (hl : ds.length ≤ 100000 := by first | decide | simp) : GE X (.List es pos) E (DD X.K (.list ds)) :=
  ⟨pe_imp (pe_lst h.pa) fun σ H Q ⟨F, r, x, q⟩ => ⟨F, r, x, fun vs F' H' e1 r1 => ⟨by rw [r1.len]; exact Nat.le_trans hl (by decide), fun p hp => q _ _ _ (e1.trans (Ext.new e1.fh hp _)) (.lst upd_same (daAll_mono (Ext.new e1.fh hp _).ff _ _ r1))⟩⟩, DD.mo⟩
def spR (P : List RP → RP → Prop) : Sp := fun vs H Q _ => ∃ F Rs R, Fh F H ∧ All2 F Rs vs ∧ P Rs R ∧ ∀ v F' H', Ext F H F' H' → R F' v → Q v H'
def spD (K : PySem.W.Frag) (q : List PyData → PyData → Prop) : Sp := fun vs H Q _ => ∃ F ds d, Fh F H ∧ DaAll K F vs ds ∧ q ds d ∧ ∀ v F' H', Ext F H F' H' → Da K F' v d → Q v H'
structure FnD (P : Program) (w : World) (K : PySem.W.Frag) (mg : Str → Option Value) (base : Heap) (k : Nat) (x : Str) (ps : List Str) (sp : Sp) : Prop where
  ex : ∃ f fd, mg x = some (.ref f) ∧ PySem.W.keepIn K (.ref f) = true ∧ Binds K fd ps [] ∧ FnOk P w K mg base CX0 k f fd ps sp
theorem g_call {k : Nat} {ps : List Str} {q : List PyData → PyData → Prop} (C : FnD X.prog X.w X.K X.mg X.base k x ps (spD X.K q)) (hr : Room k X.A) (hg : Gl X x) (ha : GAD X (e :: es) E ds) (hq : q ds d) (hdb : (x == ("__debug__" : Str)) = false := by decide)
    (he : starEach (e :: es) X.env = (false, eval e X.env) :: starEach es X.env := by rfl) (hpl : (backTo pos (starEach es X.env)).any (·.1) = false := by rfl) : GE X (.Call (.Name x p) (e :: es) [] pos) E (DD X.K d) := by
  obtain ⟨f, fd, hm, hk, hb, F⟩ := C.ex
  exact ⟨pe_imp (pe_call F hr hg hm hk hb .nil (pass0 (X := X)) ha.pa hdb he hpl) fun σ H Q ⟨F, r, x, k⟩ => ⟨F, r, x, fun vs F1 H1 e1 r1 => ⟨F1, ds, d, e1.fh, by rw [List.append_nil]; exact r1, hq, fun v F2 H2 e2 r2 => k v F2 H2 (e1.trans e2) r2⟩⟩, DD.mo⟩
theorem g_call0 {k : Nat} {ps : List Str} {q : List PyData → PyData → Prop} (C : FnD X.prog X.w X.K X.mg X.base k x ps (spD X.K q)) (hr : Room k X.A) (hg : Gl X x) (hq : q [] d) (hdb : (x == ("__debug__" : Str)) = false := by decide) : GE X (.Call (.Name x p) [] [] pos) E (DD X.K d) := by
  obtain ⟨f, fd, hm, hk, hb, F⟩ := C.ex
  exact ⟨pe_imp (pe_call0 F hr hg hm hk hb .nil (pass0 (X := X)) hdb) fun σ H Q ⟨F, r, x, k⟩ => ⟨F, [], d, x, .nil, hq, fun v F2 H2 e2 r2 => k v F2 H2 e2 r2⟩, DD.mo⟩
def RC (K : PySem.W.Frag) (r : List V → Hp → VK → Prop) (ds : List PyData) (d : PyData) : Prop := ∀ F H vs Q, DaAll K F vs ds → Fh F H → (∀ v F' H', Ext F H F' H' → Da K F' v d → Q v H') → r vs H Q
theorem g_cb {id : String} {r : List V → Hp → VK → Prop} (hc : CallR X (.builtin id) r) (hg : Gl X x) (hm : X.mg x = none) (hv : bootBuiltins x = some (.builtin id)) (ha : GAD X (e :: es) E ds) (hr : RC X.K r ds d) (hn : x ≠ "__name__" := by decide) (hdb : (x == ("__debug__" : Str)) = false := by decide)
    (he : starEach (e :: es) X.env = (false, eval e X.env) :: starEach es X.env := by rfl) (hpl : (backTo pos (starEach es X.env)).any (·.1) = false := by rfl) : GE X (.Call (.Name x p) (e :: es) [] pos) E (DD X.K d) :=
  ⟨pe_imp (pe_callB hc hg hm hv ha.pa hn hdb he hpl) fun σ H Q ⟨F, r, x, k⟩ => ⟨F, r, x, fun vs F1 H1 e1 r1 => hr F1 H1 vs Q r1 e1.fh fun v F2 H2 e2 r2 => k v F2 H2 (e1.trans e2) r2⟩, DD.mo⟩
theorem g_cty {T : String} {r : List V → Hp → VK → Prop} (hc : CallR X (.type T) r) (hg : Gl X x) (hm : X.mg x = none) (hv : bootBuiltins x = some (.type T)) (ha : GAD X (e :: es) E ds) (hr : RC X.K r ds d) (hn : x ≠ "__name__" := by decide) (hdb : (x == ("__debug__" : Str)) = false := by decide)
    (he : starEach (e :: es) X.env = (false, eval e X.env) :: starEach es X.env := by rfl) (hpl : (backTo pos (starEach es X.env)).any (·.1) = false := by rfl) : GE X (.Call (.Name x p) (e :: es) [] pos) E (DD X.K d) :=
  ⟨pe_imp (pe_callTy hc hg hm hv ha.pa hn hdb he hpl) fun σ H Q ⟨F, r, x, k⟩ => ⟨F, r, x, fun vs F1 H1 e1 r1 => hr F1 H1 vs Q r1 e1.fh fun v F2 H2 e2 r2 => k v F2 H2 (e1.trans e2) r2⟩, DD.mo⟩
theorem dpa1 {K : PySem.W.Frag} {F : Hp} {vs : List V} (h : DaAll K F vs [d]) : ∃ v, vs = [v] ∧ Da K F v d := by
  cases h with | cons h t => cases t; exact ⟨_, rfl, h⟩
theorem dpa2 {K : PySem.W.Frag} {F : Hp} {vs : List V} (h : DaAll K F vs [d, d2]) : ∃ v u, vs = [v, u] ∧ Da K F v d ∧ Da K F u d2 := by
  cases h with | cons h t => cases t with | cons h2 t => cases t; exact ⟨_, _, rfl, h, h2⟩
structure Bn (mg : Str → Option Value) : Prop where
  len : mg "len" = none
  range : mg "range" = none
  abs : mg "abs" = none
  int : mg "int" = none
  str : mg "str" = none
  bool : mg "bool" = none
  list : mg "list" = none
  tuple : mg "tuple" = none
  dict : mg "dict" = none
  set : mg "set" = none
  sum : mg "sum" = none
  sorted : mg "sorted" = none
  enumerate : mg "enumerate" = none
  zip : mg "zip" = none
  any : mg "any" = none
  all : mg "all" = none
  isinstance : mg "isinstance" = none
  min : mg "min" = none
  max : mg "max" = none
theorem g_lenL (B : Bn X.mg) (ha : GE X e E (DD X.K (.list ds))) (hg : Gl X "len" := by rfl) (he : starEach [e] X.env = (false, eval e X.env) :: starEach [] X.env := by rfl) (hpl : (backTo pos (starEach [] X.env)).any (·.1) = false := by rfl) : GE X (.Call (.Name "len" p) [e] [] pos) E (DD X.K (.int ds.length)) :=
  g_cb call_len_seq hg B.len PySem.boot_len (gad_cons ha gad_nil he) (fun F H vs Q h x k => by
    obtain ⟨v, rfl, hd⟩ := dpa1 h
    obtain ⟨q, us, rfl, h1, h2⟩ := DD.list_inv hd
    exact ⟨q, us, rfl, .inl (SqL.of (x.at h1)), by rw [h2.len]; exact k _ F H (Ext.refl x) (.int _)⟩) (he := he) (hpl := hpl)
theorem g_lenT (B : Bn X.mg) (ha : GE X e E (DD X.K (.tuple ds))) (hg : Gl X "len" := by rfl) (he : starEach [e] X.env = (false, eval e X.env) :: starEach [] X.env := by rfl) (hpl : (backTo pos (starEach [] X.env)).any (·.1) = false := by rfl) : GE X (.Call (.Name "len" p) [e] [] pos) E (DD X.K (.int ds.length)) :=
  g_cb call_len_seq hg B.len PySem.boot_len (gad_cons ha gad_nil he) (fun F H vs Q h x k => by
    obtain ⟨v, rfl, hd⟩ := dpa1 h
    obtain ⟨q, us, rfl, h1, h2⟩ := DD.tup_inv hd
    exact ⟨q, us, rfl, .inr (fh_t x h1), by rw [h2.len]; exact k _ F H (Ext.refl x) (.int _)⟩) (he := he) (hpl := hpl)
theorem g_lenS (B : Bn X.mg) (ha : GE X e E (DD X.K (.str s))) (hl : s.length ≤ sizeLine) (hg : Gl X "len" := by rfl) (he : starEach [e] X.env = (false, eval e X.env) :: starEach [] X.env := by rfl) (hpl : (backTo pos (starEach [] X.env)).any (·.1) = false := by rfl) : GE X (.Call (.Name "len" p) [e] [] pos) E (DD X.K (.int s.length)) :=
  g_cb call_len_str hg B.len PySem.boot_len (gad_cons ha gad_nil he) (fun F H vs Q h x k => by
    obtain ⟨v, rfl, hd⟩ := dpa1 h
    cases DD.str_inv hd
    exact ⟨s, rfl, hl, k _ F H (Ext.refl x) (.int _)⟩) (he := he) (hpl := hpl)
theorem g_abs (B : Bn X.mg) (ha : GE X e E (DD X.K (.int i))) (hg : Gl X "abs" := by rfl) (he : starEach [e] X.env = (false, eval e X.env) :: starEach [] X.env := by rfl) (hpl : (backTo pos (starEach [] X.env)).any (·.1) = false := by rfl) : GE X (.Call (.Name "abs" p) [e] [] pos) E (DD X.K (.int (if i < 0 then -i else i))) :=
  g_cb call_abs hg B.abs (by decide +kernel) (gad_cons ha gad_nil he) (fun F H vs Q h x k => by
    obtain ⟨v, rfl, hd⟩ := dpa1 h
    cases DD.int_inv hd
    exact ⟨i, rfl, k _ F H (Ext.refl x) (.int _)⟩) (he := he) (hpl := hpl)
theorem g_intB {k : Bool} (B : Bn X.mg) (ha : GE X e E (DD X.K (.bool k))) (hg : Gl X "int" := by rfl) (he : starEach [e] X.env = (false, eval e X.env) :: starEach [] X.env := by rfl) (hpl : (backTo pos (starEach [] X.env)).any (·.1) = false := by rfl) : GE X (.Call (.Name "int" p) [e] [] pos) E (DD X.K (.int (if k then 1 else 0))) :=
  g_cty call_int1 hg B.int (by decide +kernel) (gad_cons ha gad_nil he) (fun F H vs Q h x q => by
    obtain ⟨v, rfl, hd⟩ := dpa1 h
    cases DD.bool_inv hd
    exact .inr ⟨k, rfl, q _ F H (Ext.refl x) (.int _)⟩) (he := he) (hpl := hpl)
theorem g_strI (B : Bn X.mg) (ha : GE X e E (DD X.K (.int i))) (hl : i.natAbs.log2 < 1920) (hg : Gl X "str" := by rfl) (he : starEach [e] X.env = (false, eval e X.env) :: starEach [] X.env := by rfl) (hpl : (backTo pos (starEach [] X.env)).any (·.1) = false := by rfl) : GE X (.Call (.Name "str" p) [e] [] pos) E (DD X.K (.str (toString i))) :=
  g_cty call_str_int hg B.str (by decide +kernel) (gad_cons ha gad_nil he) (fun F H vs Q h x q => by
    obtain ⟨v, rfl, hd⟩ := dpa1 h
    cases DD.int_inv hd
    exact ⟨i, rfl, hl, q _ F H (Ext.refl x) (.str _)⟩) (he := he) (hpl := hpl)
theorem g_list (B : Bn X.mg) (ha : GE X e E (DD X.K (.list ds))) (hg : Gl X "list" := by rfl) (he : starEach [e] X.env = (false, eval e X.env) :: starEach [] X.env := by rfl) (hpl : (backTo pos (starEach [] X.env)).any (·.1) = false := by rfl) : GE X (.Call (.Name "list" p) [e] [] pos) E (DD X.K (.list ds)) :=
  g_cty call_list_of hg B.list (by decide +kernel) (gad_cons ha gad_nil he) (fun F H vs Q h x q => by
    obtain ⟨v, rfl, hd⟩ := dpa1 h
    obtain ⟨r, us, rfl, h1, h2⟩ := DD.list_inv hd
    exact ⟨r, us, rfl, .inl (SqL.of (x.at h1)), fun l hl => q _ _ _ (Ext.new x hl _) (.lst upd_same (daAll_mono (Ext.new x hl _).ff _ _ h2))⟩) (he := he) (hpl := hpl)
theorem g_tuple (B : Bn X.mg) (ha : GE X e E (DD X.K (.list ds))) (hg : Gl X "tuple" := by rfl) (he : starEach [e] X.env = (false, eval e X.env) :: starEach [] X.env := by rfl) (hpl : (backTo pos (starEach [] X.env)).any (·.1) = false := by rfl) : GE X (.Call (.Name "tuple" p) [e] [] pos) E (DD X.K (.tuple ds)) :=
  g_cty call_tuple_of hg B.tuple (by decide +kernel) (gad_cons ha gad_nil he) (fun F H vs Q h x q => by
    obtain ⟨v, rfl, hd⟩ := dpa1 h
    obtain ⟨r, us, rfl, h1, h2⟩ := DD.list_inv hd
    exact ⟨r, us, rfl, .inl ⟨SqL.of (x.at h1), fun l hl => q _ _ _ (Ext.new x hl _) (.tup (SqT.of upd_same) (daAll_mono (Ext.new x hl _).ff _ _ h2))⟩⟩) (he := he) (hpl := hpl)
theorem g_min2 (hcalm : X.calm = true) (B : Bn X.mg) (ha : GE X a E (DD X.K (.int i))) (hb : GE X b E (DD X.K (.int j))) (hg : Gl X "min" := by rfl) (he : starEach [a, b] X.env = (false, eval a X.env) :: starEach [b] X.env := by rfl) (he2 : starEach [b] X.env = (false, eval b X.env) :: starEach [] X.env := by rfl) (hpl : (backTo pos (starEach [b] X.env)).any (·.1) = false := by rfl) : GE X (.Call (.Name "min" p) [a, b] [] pos) E (DD X.K (.int (if j < i then j else i))) :=
  g_cb (call_min2 hcalm) hg B.min (by decide +kernel) (gad_cons ha (gad_cons hb gad_nil he2) he) (fun F H vs Q h x k => by
    obtain ⟨v, u, rfl, h1, h2⟩ := dpa2 h
    cases DD.int_inv h1; cases DD.int_inv h2
    exact ⟨i, j, rfl, k _ F H (Ext.refl x) (.int _)⟩) (he := he) (hpl := hpl)
theorem g_max2 (hcalm : X.calm = true) (B : Bn X.mg) (ha : GE X a E (DD X.K (.int i))) (hb : GE X b E (DD X.K (.int j))) (hg : Gl X "max" := by rfl) (he : starEach [a, b] X.env = (false, eval a X.env) :: starEach [b] X.env := by rfl) (he2 : starEach [b] X.env = (false, eval b X.env) :: starEach [] X.env := by rfl) (hpl : (backTo pos (starEach [b] X.env)).any (·.1) = false := by rfl) : GE X (.Call (.Name "max" p) [a, b] [] pos) E (DD X.K (.int (if j > i then j else i))) :=
  g_cb (call_max2 hcalm) hg B.max (by decide +kernel) (gad_cons ha (gad_cons hb gad_nil he2) he) (fun F H vs Q h x k => by
    obtain ⟨v, u, rfl, h1, h2⟩ := dpa2 h
    cases DD.int_inv h1; cases DD.int_inv h2
    exact ⟨i, j, rfl, k _ F H (Ext.refl x) (.int _)⟩) (he := he) (hpl := hpl)
theorem dpa_ints {K : PySem.W.Frag} {F : Hp} : ∀ {ns : List Int} {vs : List V}, DaAll K F vs (ns.map .int) → vs = ns.map V.int
  | [], _, .nil => rfl
  | _ :: _, _, .cons h t => by cases DD.int_inv h; rw [dpa_ints t]; rfl
theorem dpa_bools {K : PySem.W.Frag} {F : Hp} : ∀ {ns : List Bool} {vs : List V}, DaAll K F vs (ns.map .bool) → vs = ns.map V.bl
  | [], _, .nil => rfl
  | _ :: _, _, .cons h t => by cases DD.bool_inv h; rw [dpa_bools t]; rfl
theorem dpa_strs {K : PySem.W.Frag} {F : Hp} : ∀ {ns : List Str} {vs : List V}, DaAll K F vs (ns.map .str) → vs = ns.map V.str
  | [], _, .nil => rfl
  | _ :: _, _, .cons h t => by cases DD.str_inv h; rw [dpa_strs t]; rfl
theorem dpa_of_ints {K : PySem.W.Frag} {F : Hp} : ∀ (ns : List Int), DaAll K F (ns.map V.int) (ns.map .int)
  | [] => .nil
  | n :: ns => .cons (.int n) (dpa_of_ints ns)
theorem dpa_of_strs {K : PySem.W.Frag} {F : Hp} : ∀ (ns : List Str), DaAll K F (ns.map V.str) (ns.map .str)
  | [] => .nil
  | n :: ns => .cons (.str n) (dpa_of_strs ns)
theorem g_sum {ns : List Int} (hcalm : X.calm = true) (B : Bn X.mg) (ha : GE X e E (DD X.K (.list (ns.map .int)))) (hg : Gl X "sum" := by rfl) (he : starEach [e] X.env = (false, eval e X.env) :: starEach [] X.env := by rfl) (hpl : (backTo pos (starEach [] X.env)).any (·.1) = false := by rfl) : GE X (.Call (.Name "sum" p) [e] [] pos) E (DD X.K (.int ns.sum)) :=
  g_cb (cr_sum hcalm) hg B.sum (by decide +kernel) (gad_cons ha gad_nil he) (fun F H vs Q h x q => by
    obtain ⟨v, rfl, hd⟩ := dpa1 h
    obtain ⟨r, us, rfl, h1, h2⟩ := DD.list_inv hd
    cases dpa_ints h2
    exact ⟨r, ns, rfl, SqL.of (x.at h1), q _ F H (Ext.refl x) (.int _)⟩) (he := he) (hpl := hpl)
theorem g_any {bs : List Bool} (hcalm : X.calm = true) (B : Bn X.mg) (ha : GE X e E (DD X.K (.list (bs.map .bool)))) (hg : Gl X "any" := by rfl) (he : starEach [e] X.env = (false, eval e X.env) :: starEach [] X.env := by rfl) (hpl : (backTo pos (starEach [] X.env)).any (·.1) = false := by rfl) : GE X (.Call (.Name "any" p) [e] [] pos) E (DD X.K (.bool (bs.any id))) :=
  g_cb (cr_any hcalm) hg B.any (by decide +kernel) (gad_cons ha gad_nil he) (fun F H vs Q h x q => by
    obtain ⟨v, rfl, hd⟩ := dpa1 h
    obtain ⟨r, us, rfl, h1, h2⟩ := DD.list_inv hd
    cases dpa_bools h2
    exact ⟨r, bs, rfl, SqL.of (x.at h1), q _ F H (Ext.refl x) (.bl _)⟩) (he := he) (hpl := hpl)
theorem g_all {bs : List Bool} (hcalm : X.calm = true) (B : Bn X.mg) (ha : GE X e E (DD X.K (.list (bs.map .bool)))) (hg : Gl X "all" := by rfl) (he : starEach [e] X.env = (false, eval e X.env) :: starEach [] X.env := by rfl) (hpl : (backTo pos (starEach [] X.env)).any (·.1) = false := by rfl) : GE X (.Call (.Name "all" p) [e] [] pos) E (DD X.K (.bool (bs.all id))) :=
  g_cb (cr_all hcalm) hg B.all (by decide +kernel) (gad_cons ha gad_nil he) (fun F H vs Q h x q => by
    obtain ⟨v, rfl, hd⟩ := dpa1 h
    obtain ⟨r, us, rfl, h1, h2⟩ := DD.list_inv hd
    cases dpa_bools h2
    exact ⟨r, bs, rfl, SqL.of (x.at h1), q _ F H (Ext.refl x) (.bl _)⟩) (he := he) (hpl := hpl)
end
end Z
namespace Z
open PySem PySem.Spec PyProof.Rows L2
variable [Vo]
def DW (J : It) (n : Nat) (F : Hp) (Y : Nat → RP) : Prop :=
  Walk J n (fun H => Exg F H) (fun i H x H' => ∀ F2, Ex F F2 → Fh F2 H → ∃ F3, Ext F2 H F3 H' ∧ Y i F3 x)
structure GI (X : Cx) (tg iter : Expr) (E : Env') (n : Nat) (Y : Nat → RP) : Prop where
  pi : PI X tg iter (fun σ H R => ∃ F, RepE E σ F ∧ Fh F H ∧ ∀ J F' H', Ext F H F' H' → DW J n F' Y → R J H')
  mo : ∀ i, Mono (Y i)
section
variable {X : Cx} {tg iter e a b c : Expr} {E : Env'} {n : Nat} {Y : Nat → RP} {ds ds2 : List PyData} {p pos : Pos} {i j l : Int}
theorem pi_imp {wi wi' : TI} (h : PI X tg iter wi) (i : ∀ σ H R, wi' σ H R → wi σ H R) : PI X tg iter wi' := ⟨fun pins s σ H R I q => h.run pins s σ H R I (i σ H R q)⟩
def YD (K : PySem.W.Frag) (ds : List PyData) (i : Nat) : RP := fun F v => ∃ d, ds[i]? = some d ∧ Da K F v d
theorem YD.mo {K : PySem.W.Frag} {i : Nat} : Mono (YD K ds i) := fun _ _ _ e ⟨d, h, q⟩ => ⟨d, h, da_mono e _ _ q⟩
theorem YD.at {K : PySem.W.Frag} {i : Nat} {d : PyData} (h : ds[i]? = some d) : YD K ds i = DD K d := by
  funext F v
  refine propext ⟨fun ⟨d', h', q⟩ => ?_, fun q => ⟨d, h, q⟩⟩
  rw [h] at h'; cases h'; exact q
theorem gi_list (h : GE X e E (DD X.K (.list ds))) : GI X tg e E ds.length (YD X.K ds) :=
  ⟨pi_imp (pi_list h.pe) fun σ H R ⟨F, r, x, q⟩ => ⟨F, r, x, fun v F' H' e1 r1 => by
    obtain ⟨p, vs, rfl, h1, h2⟩ := DD.list_inv r1
    refine ⟨p, rfl, ⟨vs, SqL.of (e1.fh.at h1)⟩, q _ F' H' e1 ?_⟩
    rw [← h2.len]
    refine walk_list.mono (fun H hx => SqL.of (hx _ _ notg_lst h1)) fun i H x H' hi hx ⟨e2, y⟩ F2 f1 f2 => ?_
    subst e2
    obtain ⟨d, hd, hq⟩ := h2.get' y
    exact ⟨F2, Ext.refl f2, d, hd, da_mono f1 _ _ hq⟩⟩, fun _ => YD.mo⟩
theorem gi_tup (h : GE X e E (DD X.K (.tuple ds))) : GI X tg e E ds.length (YD X.K ds) :=
  ⟨pi_imp (pi_tup h.pe) fun σ H R ⟨F, r, x, q⟩ => ⟨F, r, x, fun v F' H' e1 r1 => by
    obtain ⟨p, vs, rfl, h1, h2⟩ := DD.tup_inv r1
    refine ⟨p, rfl, ⟨vs, fh_t e1.fh h1⟩, q _ F' H' e1 ?_⟩
    rw [← h2.len]
    refine walk_tup.mono (fun H hx => fg_t hx h1) fun i H x H' hi hx ⟨e2, y⟩ F2 f1 f2 => ?_
    subst e2
    obtain ⟨d, hd, hq⟩ := h2.get' y
    exact ⟨F2, Ext.refl f2, d, hd, da_mono f1 _ _ hq⟩⟩, fun _ => YD.mo⟩
theorem gi_range1 (B : Bn X.mg) (h : GE X e E (DD X.K (.int i))) (h1 : -(2 ^ 62) ≤ i ∧ i < 2 ^ 62) (hg : Gl X "range" := by rfl) (hs : starEach [e] X.env = [(false, eval e X.env)] := by rfl) : GI X tg (.Call (.Name "range" p) [e] [] pos) E i.toNat (fun k => DD X.K (.int k)) :=
  ⟨pi_imp (pi_range1 hg B.range (gad_cons h gad_nil hs).pa hs) fun σ H R ⟨F, r, x, q⟩ => ⟨F, r, x, fun vs F' H' e1 r1 => by
    obtain ⟨v, rfl, hd⟩ := dpa1 r1
    cases DD.int_inv hd
    refine ⟨i, rfl, h1.1, h1.2, q _ F' H' e1 ?_⟩
    refine walk_range.mono (fun _ _ => trivial) fun k H x H' hi hx ⟨e2, y⟩ F2 f1 f2 => ?_
    subst e2; subst y
    refine ⟨F2, Ext.refl f2, ?_⟩
    show Da X.K F2 (.int (0 + (k : Int))) (.int (k : Int))
    rw [Int.zero_add]; exact .int _⟩, fun _ => DD.mo⟩
theorem gi_range2 (B : Bn X.mg) (ha : GE X a E (DD X.K (.int i))) (hb : GE X b E (DD X.K (.int j))) (h1 : -(2 ^ 62) ≤ i ∧ i < 2 ^ 62 ∧ -(2 ^ 62) ≤ j ∧ j < 2 ^ 62) (hg : Gl X "range" := by rfl) (hs : starEach [a, b] X.env = [(false, eval a X.env), (false, eval b X.env)] := by rfl) (hs2 : starEach [b] X.env = [(false, eval b X.env)] := by rfl) :
    GI X tg (.Call (.Name "range" p) [a, b] [] pos) E (j - i).toNat (fun k => DD X.K (.int (i + k))) :=
  ⟨pi_imp (pi_range2 hg B.range (gad_cons ha (gad_cons hb gad_nil hs2) (hs.trans (by rw [hs2]))).pa hs hs2) fun σ H R ⟨F, r, x, q⟩ => ⟨F, r, x, fun vs F' H' e1 r1 => by
    obtain ⟨v, u, rfl, hd, hd2⟩ := dpa2 r1
    cases DD.int_inv hd; cases DD.int_inv hd2
    refine ⟨i, j, rfl, h1, q _ F' H' e1 ?_⟩
    refine walk_range.mono (fun _ _ => trivial) fun k H x H' hi hx ⟨e2, y⟩ F2 f1 f2 => ?_
    subst e2; subst y
    exact ⟨F2, Ext.refl f2, .int _⟩⟩, fun _ => DD.mo⟩
theorem gi_str {s : Str} (h : GE X e E (DD X.K (.str s))) : GI X tg e E s.cps.size (fun i => fun F v => ∃ n, s.cps[i]? = some n ∧ v = .str ⟨#[n]⟩) :=
  ⟨pi_imp (pi_str h.pe) fun σ H R ⟨F, r, x, q⟩ => ⟨F, r, x, fun v F' H' e1 r1 => by
    cases DD.str_inv r1
    refine ⟨s, rfl, q _ F' H' e1 ?_⟩
    refine walk_str.mono (fun _ _ => trivial) fun k H x H' hi hx ⟨e2, y⟩ F2 f1 f2 => ?_
    subst e2
    exact ⟨F2, Ext.refl f2, y⟩⟩, fun _ _ _ _ _ h => h⟩
theorem ypair {K : PySem.W.Frag} {H H' F2 : Hp} {v x y : V} {T : Addr} {d d2 : PyData} (f2 : Fh F2 H) (h1 : v = .ref T) (h2 : H T = none) (h3 : H' = upd H T (.tup [x, y])) (hx : Da K F2 x d) (hy : Da K F2 y d2) : ∃ F3, Ext F2 H F3 H' ∧ DD K (.tuple [d, d2]) F3 v := by
  subst h1; subst h3
  have en := Ext.new f2 h2 (.tup [x, y])
  exact ⟨_, en, .tup (SqT.of upd_same) (.cons (da_mono en.ff _ _ hx) (.cons (da_mono en.ff _ _ hy) .nil))⟩
theorem gi_enum {es : List Expr} {kk : Nat} {tpos : Pos} (B : Bn X.mg) (h : GE X e E (DD X.K (.list ds))) (hg : Gl X "enumerate" := by rfl) (hs : starEach [e] X.env = [(false, eval e X.env)] := by rfl) :
    GI X (.Tuple es kk tpos) (.Call (.Name "enumerate" p) [e] [] pos) E ds.length (YD X.K ((ds.mapIdx fun i d => .tuple [.int i, d]))) :=
  ⟨pi_imp (pi_enum hg B.enumerate (gad_cons h gad_nil hs).pa hs) fun σ H R ⟨F, r, x, q⟩ => ⟨F, r, x, fun vs F' H' e1 r1 => by
    obtain ⟨v, rfl, hd⟩ := dpa1 r1
    obtain ⟨p, us, rfl, h1, h2⟩ := DD.list_inv hd
    refine ⟨p, us, rfl, SqL.of (e1.fh.at h1), q _ F' H' e1 ?_⟩
    rw [← h2.len]
    refine walk_enum.mono (fun H hx => SqL.of (hx _ _ notg_lst h1)) fun i H x H' hi hx ⟨T, x1, y1, g1, g2, g3, g4, g5⟩ F2 f1 f2 => ?_
    cases g4
    obtain ⟨d, hd, hq⟩ := h2.get' g5
    obtain ⟨F3, en, hF⟩ := ypair (d := .int (i : Nat)) f2 g1 g2 g3 (.int _) (da_mono f1 _ _ hq)
    exact ⟨F3, en, _, by simp [List.getElem?_mapIdx, hd], hF⟩⟩, fun _ => YD.mo⟩
theorem gi_zip {e2 : Expr} {es : List Expr} {kk : Nat} {tpos : Pos} (B : Bn X.mg) (h : GE X e E (DD X.K (.list ds))) (h' : GE X e2 E (DD X.K (.list ds2))) (hg : Gl X "zip" := by rfl)
    (hs : starEach [e, e2] X.env = (false, eval e X.env) :: starEach [e2] X.env := by rfl) (hs2 : starEach [e2] X.env = (false, eval e2 X.env) :: starEach [] X.env := by rfl) (hpl : (backTo pos (starEach [e2] X.env)).any (·.1) = false := by rfl) :
    GI X (.Tuple es kk tpos) (.Call (.Name "zip" p) [e, e2] [] pos) E (min ds.length ds2.length) (YD X.K (List.zipWith (fun d d' => .tuple [d, d']) ds ds2)) :=
  ⟨pi_imp (pi_zip hg B.zip (gad_cons h (gad_cons h' gad_nil hs2) hs).pa hs hpl) fun σ H R ⟨F, r, x, q⟩ => ⟨F, r, x, fun vs F' H' e1 r1 => by
    obtain ⟨v, u, rfl, hd, hd2⟩ := dpa2 r1
    obtain ⟨p, us, rfl, h1, h2⟩ := DD.list_inv hd
    obtain ⟨p2, us2, rfl, h3, h4⟩ := DD.list_inv hd2
    refine ⟨p, p2, us, us2, rfl, SqL.of (e1.fh.at h1), SqL.of (e1.fh.at h3), q _ F' H' e1 ?_⟩
    rw [← h2.len, ← h4.len]
    refine (walk_zip rfl).mono (fun H hx => ⟨SqL.of (hx _ _ notg_lst h1), SqL.of (hx _ _ notg_lst h3)⟩) fun i H x H' hi hx ⟨T, x1, y1, g1, g2, g3, g4, g5⟩ F2 f1 f2 => ?_
    obtain ⟨d, hd, hq⟩ := h2.get' g4
    obtain ⟨d', hd', hq'⟩ := h4.get' g5
    obtain ⟨F3, en, hF⟩ := ypair f2 g1 g2 g3 (da_mono f1 _ _ hq) (da_mono f1 _ _ hq')
    exact ⟨F3, en, _, by simp [List.getElem?_zipWith, hd, hd'], hF⟩⟩, fun _ => YD.mo⟩
theorem gi_range3 {m : Nat} (B : Bn X.mg) (ha : GE X a E (DD X.K (.int i))) (hb : GE X b E (DD X.K (.int j))) (hc : GE X c E (DD X.K (.int l))) (h1 : RgC i j l m) (hg : Gl X "range" := by rfl)
    (hs : starEach [a, b, c] X.env = (false, eval a X.env) :: starEach [b, c] X.env := by rfl) (hs2 : starEach [b, c] X.env = (false, eval b X.env) :: starEach [c] X.env := by rfl) (hs3 : starEach [c] X.env = (false, eval c X.env) :: starEach [] X.env := by rfl)
    (hp : ∀ (ta : TA), PA X [a, b, c] ta → PI X tg (.Call (.Name "range" p) [a, b, c] [] pos) (iRng3 ta) := by intro _ h; exact pi_range3 rfl (by assumption) h) :
    GI X tg (.Call (.Name "range" p) [a, b, c] [] pos) E m (fun k => DD X.K (.int (i + k * l))) :=
  ⟨pi_imp (hp _ (gad_cons ha (gad_cons hb (gad_cons hc gad_nil hs3) hs2) hs).pa) fun σ H R ⟨F, r, x, q⟩ => ⟨F, r, x, fun vs F' H' e1 r1 => by
    cases r1 with | cons hd t => cases t with | cons hd2 t => cases t with | cons hd3 t =>
    cases t
    cases DD.int_inv hd; cases DD.int_inv hd2; cases DD.int_inv hd3
    refine ⟨i, j, l, m, rfl, h1, q _ F' H' e1 ?_⟩
    refine walk_rangeC.mono (fun _ _ => trivial) fun k H x H' hi hx ⟨e2, y⟩ F2 f1 f2 => ?_
    subst e2; subst y
    exact ⟨F2, Ext.refl f2, .int _⟩⟩, fun _ => DD.mo⟩
end
def Put (F : Hp) (sl : List Nat) (f : Env' → Env') (σ σ' : L2.St) : Prop :=
  (∀ E, RepE E σ F → RepE (f E) σ' F) ∧ ∀ vs : List Nat, (∀ i, i ∈ sl → i ∈ vs) → wipe σ' vs = wipe σ vs
structure GT (X : Cx) (tg : Expr) (R : RP) (sl : List Nat) (f : Env' → Env') : Prop where
  pg : PG X tg (fun v σ H Q => ∃ F, R F v ∧ Fh F H ∧ ∀ σ', Put F sl f σ σ' → Q σ' H)
theorem wipe_set_in {σ : L2.St} {i : Nat} {x : Option V} : ∀ {vs : List Nat}, i ∈ vs → wipe (σ.set i x) vs = wipe σ vs
  | [], h => by cases h
  | v :: vs, h => by
    show (wipe (σ.set i x) vs).set v none = (wipe σ vs).set v none
    by_cases hi : i ∈ vs
    · rw [wipe_set_in hi]
    · have e : i = v := by
        cases h with
        | head => rfl
        | tail _ h => exact absurd h hi
      subst e
      have key : ∀ (ws : List Nat) (τ : L2.St), i ∉ ws → wipe (τ.set i x) ws = (wipe τ ws).set i x := by
        intro ws
        induction ws with
        | nil => intro τ _; rfl
        | cons w ws ih =>
          intro τ hw
          have h1 : i ≠ w := fun e => hw (e ▸ List.mem_cons_self)
          show (wipe (τ.set i x) ws).set w none = ((wipe τ ws).set w none).set i x
          rw [ih τ fun h => hw (List.mem_cons_of_mem _ h), List.set_comm _ _ h1]
      rw [key vs σ hi, List.set_set]
theorem wipe_idem {σ : L2.St} : ∀ (vs ws : List Nat), (∀ i, i ∈ ws → i ∈ vs) → wipe (wipe σ ws) vs = wipe σ vs
  | vs, [], _ => rfl
  | vs, w :: ws, h => by
    show wipe ((wipe σ ws).set w none) vs = wipe σ vs
    rw [wipe_set_in (h w List.mem_cons_self), wipe_idem vs ws fun i hi => h i (List.mem_cons_of_mem _ hi)]
section
variable {X : Cx} {tg : Expr} {R : RP} {f g : Env' → Env'} {pos : Pos} {sl sl2 : List Nat}
theorem pg_imp {t t' : TG} (h : PG X tg t) (i : ∀ v σ H Q, t' v σ H Q → t v σ H Q) : PG X tg t' := ⟨fun pins s σ H v u Q I r q => h.run pins s σ H v u Q I r (i v σ H Q q)⟩
theorem gt_name (i : Nat) {x : Str} (mo : Mono R) (hN : X.N.Nodup) (hi : X.N[i]? = some x) (hx : Loc X.env.scope x) (hf : X.fn x = true ∨ X.env.scope.names.lookup x = some .local := by first | exact .inl rfl | exact .inr rfl | assumption) : GT X (.Name x pos) R [i] (fun E => E.set i (some R)) :=
  ⟨pg_imp (pg_name hN hi hx hf) fun v σ H Q ⟨F, hr, x, q⟩ => q _ ⟨fun E r => r.set mo hr, fun vs h => wipe_set_in (h i List.mem_cons_self)⟩⟩
structure GTs (X : Cx) (ts : List Expr) (ds : List PyData) (sl : List Nat) (f : Env' → Env') : Prop where
  pgs : PGs X ts (fun vs σ H Q => ∃ F, DaAll X.K F vs ds ∧ Fh F H ∧ ∀ σ', Put F sl f σ σ' → Q σ' H)
theorem pgs_imp {ts : List Expr} {t t' : TGs} (h : PGs X ts t) (i : ∀ v σ H Q, t' v σ H Q → t v σ H Q) : PGs X ts t' := ⟨fun pins s σ H v u Q I r q => h.run pins s σ H v u Q I r (i v σ H Q q)⟩
theorem gts_nil : GTs X [] [] [] (fun E => E) := ⟨pgs_imp pgs_nil fun vs σ H Q ⟨F, h, x, q⟩ => by cases h; exact ⟨rfl, q σ ⟨fun E r => r, fun _ _ => rfl⟩⟩⟩
theorem gts_cons {e : Expr} {es : List Expr} {d : PyData} {ds : List PyData} (h1 : GT X e (DD X.K d) sl f) (h2 : GTs X es ds sl2 g) (hs : (assignEach (e :: es) X.env).map (·.2) = assign e X.env :: (assignEach es X.env).map (·.2) := by rfl) : GTs X (e :: es) (d :: ds) (sl ++ sl2) (fun E => g (f E)) :=
  ⟨pgs_imp (pgs_cons h1.pg h2.pgs hs) fun vs σ H Q ⟨F, h, x, q⟩ => by
    cases h with | cons hd ht =>
    exact ⟨_, _, rfl, F, hd, x, fun σ' k => ⟨F, ht, x, fun σ2 k2 => q σ2 ⟨fun E r => k2.1 _ (k.1 E r), fun vs h => (k2.2 vs fun i hi => h i (List.mem_append_right _ hi)).trans (k.2 vs fun i hi => h i (List.mem_append_left _ hi))⟩⟩⟩⟩
theorem gt_tupT {es : List Expr} {kk : Nat} {ds : List PyData} (hc : X.calm = true) (h : GTs X es ds sl f) (hn : (assignEach es X.env).length = ds.length := by rfl) (hst : (assignEach es X.env).findIdx? (·.1) = none := by rfl) : GT X (.Tuple es kk pos) (DD X.K (.tuple ds)) sl f :=
  ⟨pg_imp (pg_tup hc h.pgs hn hst) fun v σ H Q ⟨F, hr, x, q⟩ => by
    obtain ⟨p, vs, rfl, h1, h2⟩ := DD.tup_inv hr
    exact ⟨p, vs, rfl, fh_t x h1, h2.len, F, h2, x, q⟩⟩
end
section
variable {B : Bk} {E V : Env'} {os os' : OS} {P : DE} {st : Stmt} {rest body : List Stmt} {e tg iter : Expr} {R : RP} {pos : Pos} {fs : List Addr} {n : Nat} {Y : Nat → RP} {f : Nat → Env' → Env'}
def gR (n : Nat) (Y : Nat → RP) (sl : List Nat) (f : Nat → Env' → Env') : TG := fun v σ H Q => ∃ i, i < n ∧ ∃ F, Y i F v ∧ Fh F H ∧ ∀ σ', Put F sl (f i) σ σ' → Q σ' H
theorem ws_for (hp : PassesOwn (model B.X.prog B.X.w) B.X.A B.X.env B.X.xe) (hc : B.X.calm = true) (hi : GI B.X tg iter E n Y) {sl : List Nat} (hT : ∀ i, i < n → GT B.X tg (Y i) sl (f i))
    (I : Nat → Env' → OS → Prop) (h0 : I 0 E os) (hs : ∀ i E' os', i < n → I i E' os' → WS B body (f i E') os' { nx := I (i + 1), ct := I (i + 1), bk := fun E os => WS B rest E os P, rt := P.rt, xc := P.xc }) (hd : ∀ E' os', I n E' os' → WS B rest E' os' P)
    (hs' : ∀ x, foldedSetIterable iter B.X.env x = pure x := by intro _; rfl) : WS B (.For tg iter body [] pos :: rest) E os P :=
  ws_of (ps_for (g := gR n Y sl f) (tb := fun D σ H => W B.X body D σ H) hp hc hi.pi ⟨fun pins s σ H v u Q I r ⟨i, hi, q⟩ => (hT i hi).pg.run pins s σ H v u Q I r q⟩ w_can hs') fun L D σ F H m r l => ⟨F, r.e, r.o.fm.fh, fun J F' H' x w => by
    have l' : Ex L F' := Ex.tr l x.ff
    refine for_it (g := gR n Y sl f) (tb := fun D σ H => W B.X body D σ H) (D := { D with nx := fun σ' H' => W B.X rest D σ' H' }) w (fun i σ H => ∃ E os F2, I i E os ∧ RepS B E os σ F2 H ∧ Ex F' F2) ⟨E, os, F', h0, r.ext x, fun _ _ q => q⟩ (fun i σ H _ ⟨E, os, F2, _, r2, f2⟩ a o g e => r2.o.fm.fh.at (f2 a o e) g) ?_ ?_
    · rintro i v σ2 H2 H3 hlt ⟨E2, os2, F2, i2, r2, f2⟩ y
      obtain ⟨F3, en, hy⟩ := y F2 f2 r2.o.fm.fh
      refine ⟨i, hlt, F3, hy, en.fh, fun σ3 k => ?_⟩
      have r4 : RepS B (f i E2) os2 σ3 F3 H3 := ⟨r2.o.ext en, k.1 E2 (r2.e.mono en.ff)⟩
      exact (hs i E2 os2 hlt i2).run F' _ σ3 F3 H3 ⟨fun E4 os4 σ4 F4 H4 q r5 l5 => ⟨E4, os4, F4, q, r5, l5⟩, fun R os4 v F4 H4 q r5 l5 hv => m.rt R os4 v F4 H4 q r5 (Ex.tr l' l5) hv, fun E4 os4 σ4 F4 H4 q r5 l5 => q.run L D σ4 F4 H4 m r5 (Ex.tr l' l5), fun E4 os4 σ4 F4 H4 q r5 l5 => ⟨E4, os4, F4, q, r5, l5⟩, fun c p E4 os4 σ4 F4 H4 d q r5 l5 => m.xc c p E4 os4 σ4 F4 H4 d q r5 (Ex.tr l' l5)⟩ r4 (Ex.tr f2 en.ff)
    · rintro σ2 H2 ⟨E2, os2, F2, i2, r2, f2⟩
      exact (hd E2 os2 i2).run L D σ2 F2 H2 m r2 (Ex.tr l' f2)⟩
theorem ws_while {c : Expr} {W : Nat → Env' → OS → Prop} {m0 : Nat} (hp : PassesOwn (model B.X.prog B.X.w) B.X.A B.X.env B.X.xe) (h0 : W m0 E os)
    (hs : ∀ m E os, W m E os → ∃ fs V b, Vw os fs E V ∧ GB B.X c V b ∧ (b = true → WS B body E os { nx := fun E os => ∃ m', m' < m ∧ W m' E os, ct := fun E os => ∃ m', m' < m ∧ W m' E os, bk := fun E os => WS B rest E os P, rt := P.rt, xc := P.xc }) ∧ (b = false → WS B rest E os P)) : WS B (.While c body [] pos :: rest) E os P := by
  have key : PT B.X c (fun σ H Q => ∃ fs V b E os F, Vw os fs E V ∧ GB B.X c V b ∧ RepS B E os σ F H ∧ ∀ H', (∃ F', Ext F H F' H') → Q b H') := by
    refine ⟨fun pins s σ H Q I ⟨fs, V, b, E, os, F, hv, hc, r, k⟩ => hc.pt.run pins s σ H Q I ⟨_, hv.rep r, hv.fh r, fun F' H' x => k H' ⟨_, ext_unfrz (hv.fsok r) r.o.fm.fh x⟩⟩⟩
  refine ws_of (ps_while hp key w_can) fun L D σ F H m r l => ?_
  refine ⟨fun n σ H => ∃ E os F, W n E os ∧ RepS B E os σ F H ∧ Ex L F, ⟨m0, E, os, F, h0, r, l⟩, ?_⟩
  rintro n σ2 H2 ⟨E2, os2, F2, w2, r2, l2⟩
  obtain ⟨fs, V, b, hv, hc, ht, hf⟩ := hs n E2 os2 w2
  refine ⟨fs, V, b, E2, os2, F2, hv, hc, r2, fun H3 ⟨F3, x⟩ => ?_⟩
  cases b with
  | true =>
    refine iteT ⟨fun σ H => ∃ m', m' < n ∧ ∃ E os F, W m' E os ∧ RepS B E os σ F H ∧ Ex L F, fun σ H q => q, ?_⟩
    exact (ht rfl).run L _ σ2 F3 H3 ⟨fun E4 os4 σ4 F4 H4 ⟨m', q1, q2⟩ r5 l5 => ⟨m', q1, E4, os4, F4, q2, r5, l5⟩, m.rt, fun E4 os4 σ4 F4 H4 q r5 l5 => q.run L D σ4 F4 H4 m r5 l5, fun E4 os4 σ4 F4 H4 ⟨m', q1, q2⟩ r5 l5 => ⟨m', q1, E4, os4, F4, q2, r5, l5⟩, m.xc⟩ (r2.ext x) (Ex.tr l2 x.ff)
  | false =>
    refine iteF ?_
    exact (hf rfl).run L D σ2 F3 H3 m (r2.ext x) (Ex.tr l2 x.ff)
end
end Z
namespace Z
open PySem PySem.Spec PyProof.Rows L2
variable [Vo]
structure GEN (X : Cx) (e : Expr) (E : Env') (ds : List PyData) : Prop where
  pe : PE X e (fun σ H Q => ∃ F, RepE E σ F ∧ Fh F H ∧ ∀ p vs F' H', Ext F H F' H' → F' p = none → H p = none → H' p = some (.lst vs) → DaAll X.K F' vs ds → Q (.ref p) H')
theorem ex_upd {A : Hp} {p : Addr} {o : HO} (h : A p = none) : Ex A (upd A p o) := fun a u q => by rw [upd_ne (ne_of_none q h)]; exact q
theorem Fh.put {F H : Hp} (h : Fh F H) {p : Addr} {o : HO} (f : F p = none) (e : H p = some o) (no : NotG o) : Fh (upd F p o) H where
  ex := fun a u g q => by
    by_cases ha : a = p
    · subst ha; rw [upd_same] at q; rw [e, ← q]
    · rw [upd_ne ha] at q; exact h.at q g
  vo := fun a s q => by
    by_cases ha : a = p
    · subst ha; rw [upd_same] at q; cases q; exact absurd rfl (no s)
    · rw [upd_ne ha] at q
      obtain ⟨u, hu, m⟩ := h.vo a s q
      exact ⟨u, hu, mem_up m (ex_upd f)⟩
theorem Fh.wr {F H : Hp} (h : Fh F H) {p : Addr} {o : HO} (f : F p = none) : Fh F (upd H p o) where
  ex := fun a u g q => by rw [upd_ne (ne_of_none q f)]; exact h.at q g
  vo := fun a s q => by rw [upd_ne (ne_of_none q f)]; exact h.vo a s q
theorem Ext.keep {F H F' H' : Hp} {p : Addr} {o : HO} (e : Ext F H F' H') (h1 : F' p = none) (h2 : H p = none) (h3 : H' p = some o) (no : NotG o := by intro _ e; cases e) : Ext F H (upd F' p o) H' := by
  refine ⟨fun a u q => ?_, e.fh.put h1 h3 no, e.hh, fun a u q r => ?_⟩
  · rw [upd_ne (ne_of_none (e.ff a u q) h1)]; exact e.ff a u q
  · rw [upd_ne (ne_of_none r h2)]; exact e.nf a u q r
theorem Ext.out {F H : Hp} (h : Fh F H) {p : Addr} (hp : H p = none) (o : HO) : Ext F H F (upd H p o) := by
  refine ⟨fun _ _ q => q, h.wr (h.no hp), fun a u _ q => ?_, fun _ _ q _ => q⟩
  rw [upd_ne (ne_of_none q hp)]; exact q
section
variable {X : Cx} {E : Env'} {R : RP} {a b c e : Expr} {es : List Expr} {pos p : Pos} {i j : Int} {d d2 : PyData} {ds ds2 : List PyData}
theorem GEN.ge (h : GEN X e E ds) : GE X e E (DD X.K (.list ds)) :=
  ⟨pe_imp h.pe fun σ H Q ⟨F, r, x, q⟩ => ⟨F, r, x, fun p vs F' H' e1 h1 h2 h3 h4 => q _ _ _ (e1.keep h1 h2 h3) (.lst upd_same (daAll_mono (ex_upd h1) _ _ h4))⟩, DD.mo⟩
theorem GEN.is {ds' : List PyData} (h : GEN X e E ds) (q : ds = ds') : GEN X e E ds' := by subst q; exact h
theorem n_lst (h : GAD X es E ds) (hl : ds.length ≤ 100000 := by first | decide | simp) : GEN X (.List es pos) E ds :=
  ⟨pe_imp (pe_lst h.pa) fun σ H Q ⟨F, r, x, q⟩ => ⟨F, r, x, fun vs F' H' e1 r1 => ⟨by rw [r1.len]; exact Nat.le_trans hl (by decide), fun p hp => by
    have hp0 : H p = none := e1.hno hp
    exact q p vs F' _ (e1.trans (Ext.out e1.fh hp _)) (e1.fh.no hp) hp0 upd_same r1⟩⟩⟩
theorem n_slL {lo hi : Option Expr} {o1 o2 : Option Int} {p2 : Pos} (ha : GE X a E (DD X.K (.list ds))) (h1 : GO X lo E o1) (h2 : GO X hi E o2) : GEN X (.Subscript a (.Slice lo hi none p2) pos) E (cutD ds o1 o2) :=
  ⟨pe_imp (pe_slice sl_list ha.pe h1.po h2.po) fun σ H Q ⟨F, r, x, q⟩ => ⟨F, r, x, fun v F1 H1 e1 r1 => ⟨F1, r.mono e1.ff, e1.fh, fun F2 H2 e2 => ⟨F2, (r.mono e1.ff).mono e2.ff, e2.fh, fun F3 H3 e3 => by
    have e23 := e2.trans e3
    obtain ⟨p, vs, rfl, hl, hd⟩ := DD.list_inv (DD.mo _ _ _ e23.ff r1)
    refine ⟨p, vs, rfl, SqL.of (e3.fh.at hl), fun l hl' => ?_⟩
    have e123 := e1.trans e23
    exact q l _ F3 _ (e123.trans (Ext.out e123.fh hl' _)) (e123.fh.no hl') (e123.hno hl') upd_same hd.cut⟩⟩⟩⟩
theorem n_list (B : Bn X.mg) (ha : GE X e E (DD X.K (.list ds))) (hg : Gl X "list" := by rfl) (he : starEach [e] X.env = (false, eval e X.env) :: starEach [] X.env := by rfl) (hpl : (backTo pos (starEach [] X.env)).any (·.1) = false := by rfl) : GEN X (.Call (.Name "list" p) [e] [] pos) E ds :=
  ⟨pe_imp (pe_callTy call_list_of hg B.list (by decide +kernel) (gad_cons ha gad_nil he).pa (by decide) (by decide) he hpl) fun σ H Q ⟨F, r, x, q⟩ => ⟨F, r, x, fun vs F' H' e1 r1 => by
    obtain ⟨v, rfl, hd⟩ := dpa1 r1
    obtain ⟨t, us, rfl, h1, h2⟩ := DD.list_inv hd
    exact ⟨t, us, rfl, .inl (SqL.of (e1.fh.at h1)), fun l hl' => q l _ F' _ (e1.trans (Ext.out e1.fh hl' _)) (e1.fh.no hl') (e1.hno hl') upd_same h2⟩⟩⟩
theorem n_cat (ha : GE X a E (DD X.K (.list ds))) (hb : GE X b E (DD X.K (.list ds2))) (hl : ds.length + ds2.length ≤ sizeLine) : GEN X (.BinOp a .Add b pos) E (ds ++ ds2) :=
  ⟨pe_imp (pe_op op_cat ha.pe hb.pe) fun σ H Q ⟨F, r, x, q⟩ => ⟨F, r, x, fun v F1 H1 e1 r1 => ⟨F1, r.mono e1.ff, e1.fh, fun u F2 H2 e2 r2 => by
    obtain ⟨p, vs, rfl, h1, h2⟩ := DD.list_inv (DD.mo _ _ _ e2.ff r1)
    obtain ⟨p', us, rfl, h3, h4⟩ := DD.list_inv r2
    have e12 := e1.trans e2
    refine ⟨p, p', vs, us, rfl, rfl, e2.fh.at h1, e2.fh.at h3, by rw [h2.len, h4.len]; exact hl, fun l hl' => ?_⟩
    exact q l _ F2 _ (e12.trans (Ext.out e12.fh hl' _)) (e12.fh.no hl') (e12.hno hl') upd_same (h2.append h4)⟩⟩⟩
theorem DaAll.rep {K : PySem.W.Frag} {F : Hp} {vs : List V} {ds : List PyData} (h : DaAll K F vs ds) : ∀ n : Nat, DaAll K F (List.replicate n vs).flatten (List.replicate n ds).flatten
  | 0 => .nil
  | n + 1 => by
    rw [List.replicate_succ, List.replicate_succ, List.flatten_cons, List.flatten_cons]
    exact h.append (DaAll.rep h n)
theorem n_rep (ha : GE X a E (DD X.K (.list ds))) (hb : GE X b E (DD X.K (.int i))) (hi : -(2 ^ 63) ≤ i ∧ i < 2 ^ 63) (hl : ds.length * i.toNat ≤ sizeLine) : GEN X (.BinOp a .Mult b pos) E (List.replicate i.toNat ds).flatten :=
  ⟨pe_imp (pe_op op_rep ha.pe hb.pe) fun σ H Q ⟨F, r, x, q⟩ => ⟨F, r, x, fun v F1 H1 e1 r1 => ⟨F1, r.mono e1.ff, e1.fh, fun u F2 H2 e2 r2 => by
    obtain ⟨p, vs, rfl, h1, h2⟩ := DD.list_inv (DD.mo _ _ _ e2.ff r1)
    cases DD.int_inv r2
    have e12 := e1.trans e2
    refine ⟨p, i, vs, rfl, rfl, e2.fh.at h1, hi.1, hi.2, by rw [h2.len]; exact hl, fun l hl' => ?_⟩
    exact q l _ F2 _ (e12.trans (Ext.out e12.fh hl' _)) (e12.fh.no hl') (e12.hno hl') upd_same (h2.rep _)⟩⟩⟩
end
structure GIL (X : Cx) (tg iter : Expr) (E : Env') (ds : List PyData) : Prop where
  gi : GI X tg iter E ds.length (YD X.K ds)
section
variable {X : Cx} {tg iter e a b c : Expr} {E : Env'} {n : Nat} {Y : Nat → RP} {ds ds2 ds' : List PyData} {p pos : Pos} {i j l : Int}
theorem GIL.is (h : GIL X tg iter E ds) (q : ds = ds') : GIL X tg iter E ds' := by subst q; exact h
theorem gi_imp {Y' : Nat → RP} (h : GI X tg iter E n Y) (mo : ∀ i, Mono (Y' i)) (i : ∀ i F v, i < n → Y i F v → Y' i F v) : GI X tg iter E n Y' :=
  ⟨pi_imp h.pi fun σ H R ⟨F, r, x, q⟩ => ⟨F, r, x, fun J F' H' e w => q J F' H' e (Walk.mono w (fun _ h => h) fun k H x H' hk hx y F2 f1 f2 => by
    obtain ⟨F3, e3, h3⟩ := y F2 f1 f2
    exact ⟨F3, e3, i k _ _ hk h3⟩)⟩, mo⟩
theorem l_list (h : GE X e E (DD X.K (.list ds))) : GIL X tg e E ds := ⟨gi_list h⟩
theorem l_tup (h : GE X e E (DD X.K (.tuple ds))) : GIL X tg e E ds := ⟨gi_tup h⟩
theorem yd_range {K : PySem.W.Frag} {f : Nat → PyData} {k : Nat} (hk : k < n) : YD K ((List.range n).map f) k = DD K (f k) := YD.at (by simp [hk])
theorem l_range1 (B : Bn X.mg) (h : GE X e E (DD X.K (.int i))) (h1 : -(2 ^ 62) ≤ i ∧ i < 2 ^ 62) (hg : Gl X "range" := by rfl) (hs : starEach [e] X.env = [(false, eval e X.env)] := by rfl) : GIL X tg (.Call (.Name "range" p) [e] [] pos) E ((List.range i.toNat).map fun k => .int (k : Nat)) := by
  have g := gi_range1 (tg := tg) (pos := pos) (p := p) B h h1 hg hs
  refine ⟨?_⟩
  rw [List.length_map, List.length_range]
  exact gi_imp g (fun _ => YD.mo) fun k F v hk q => by rw [yd_range hk]; exact q
theorem l_range2 (B : Bn X.mg) (ha : GE X a E (DD X.K (.int i))) (hb : GE X b E (DD X.K (.int j))) (h1 : -(2 ^ 62) ≤ i ∧ i < 2 ^ 62 ∧ -(2 ^ 62) ≤ j ∧ j < 2 ^ 62) (hg : Gl X "range" := by rfl) (hs : starEach [a, b] X.env = [(false, eval a X.env), (false, eval b X.env)] := by rfl) (hs2 : starEach [b] X.env = [(false, eval b X.env)] := by rfl) :
    GIL X tg (.Call (.Name "range" p) [a, b] [] pos) E ((List.range (j - i).toNat).map fun k => .int (i + (k : Nat))) := by
  have g := gi_range2 (tg := tg) (pos := pos) (p := p) B ha hb h1 hg hs hs2
  refine ⟨?_⟩
  rw [List.length_map, List.length_range]
  exact gi_imp g (fun _ => YD.mo) fun k F v hk q => by rw [yd_range hk]; exact q
theorem l_range3 {m : Nat} (B : Bn X.mg) (ha : GE X a E (DD X.K (.int i))) (hb : GE X b E (DD X.K (.int j))) (hc : GE X c E (DD X.K (.int l))) (h1 : RgC i j l m) (hg : Gl X "range" := by rfl)
    (hs : starEach [a, b, c] X.env = (false, eval a X.env) :: starEach [b, c] X.env := by rfl) (hs2 : starEach [b, c] X.env = (false, eval b X.env) :: starEach [c] X.env := by rfl) (hs3 : starEach [c] X.env = (false, eval c X.env) :: starEach [] X.env := by rfl)
    (hp : ∀ (ta : TA), PA X [a, b, c] ta → PI X tg (.Call (.Name "range" p) [a, b, c] [] pos) (iRng3 ta) := by intro _ h; exact pi_range3 rfl (by assumption) h) : GIL X tg (.Call (.Name "range" p) [a, b, c] [] pos) E ((List.range m).map fun k => .int (i + (k : Nat) * l)) := by
  have g := gi_range3 (tg := tg) (pos := pos) (p := p) B ha hb hc h1 hg hs hs2 hs3 hp
  refine ⟨?_⟩
  rw [List.length_map, List.length_range]
  exact gi_imp g (fun _ => YD.mo) fun k F v hk q => by rw [yd_range hk]; exact q
def sgn (c : Nat) : Str := ⟨#[c]⟩
theorem l_str {s : Str} (h : GE X e E (DD X.K (.str s))) : GIL X tg e E (s.cps.toList.map fun c => .str (sgn c)) := by
  have g := gi_str (tg := tg) h
  refine ⟨?_⟩
  rw [List.length_map, Array.length_toList]
  exact gi_imp g (fun _ => YD.mo) fun k F v hk ⟨c, q1, q2⟩ => ⟨.str (sgn c), by simp [q1], by subst q2; exact .str _⟩
theorem l_enum {es : List Expr} {kk : Nat} {tpos : Pos} (B : Bn X.mg) (h : GE X e E (DD X.K (.list ds))) (hg : Gl X "enumerate" := by rfl) (hs : starEach [e] X.env = [(false, eval e X.env)] := by rfl) :
    GIL X (.Tuple es kk tpos) (.Call (.Name "enumerate" p) [e] [] pos) E (ds.mapIdx fun i d => .tuple [.int (i : Nat), d]) := by
  have g := gi_enum (pos := pos) (p := p) (es := es) (kk := kk) (tpos := tpos) B h hg hs
  refine ⟨?_⟩
  rw [List.length_mapIdx]
  exact g
theorem l_zip {e2 : Expr} {es : List Expr} {kk : Nat} {tpos : Pos} (B : Bn X.mg) (h : GE X e E (DD X.K (.list ds))) (h' : GE X e2 E (DD X.K (.list ds2))) (hg : Gl X "zip" := by rfl)
    (hs : starEach [e, e2] X.env = (false, eval e X.env) :: starEach [e2] X.env := by rfl) (hs2 : starEach [e2] X.env = (false, eval e2 X.env) :: starEach [] X.env := by rfl) (hpl : (backTo pos (starEach [e2] X.env)).any (·.1) = false := by rfl) :
    GIL X (.Tuple es kk tpos) (.Call (.Name "zip" p) [e, e2] [] pos) E (List.zipWith (fun d d' => .tuple [d, d']) ds ds2) := by
  have g := gi_zip (pos := pos) (p := p) (es := es) (kk := kk) (tpos := tpos) B h h' hg hs hs2 hpl
  refine ⟨?_⟩
  rw [List.length_zipWith]
  exact g
def wipeE (E : Env') : List Nat → Env'
  | [] => E
  | v :: vs => (wipeE E vs).set v none
theorem RepE.wipe {E : Env'} {σ : L2.St} {F : Hp} (h : RepE E σ F) : ∀ vs : List Nat, RepE (wipeE E vs) (wipe σ vs) F
  | [] => h
  | v :: vs => (RepE.wipe h vs).setN
theorem wipeE_len {E : Env'} : ∀ vs : List Nat, (wipeE E vs).length = E.length
  | [] => rfl
  | v :: vs => by show ((wipeE E vs).set v none).length = _; rw [List.length_set, wipeE_len vs]
abbrev Blk (X : Cx) (scope : Scope) (s : Shared) (H : Hp) (C : Addr) (cl : List (Str × Addr)) (fp : List Addr) : Cx := X.blk s H scope (compEnvC scope cl C X.env) fp
def outF {α : Type} (b : α → Bool) (d : α → PyData) (xs : List α) : List PyData := (xs.filter b).map d
theorem outF_snoc {α : Type} {b : α → Bool} {d : α → PyData} {xs : List α} {x : α} : outF b d (xs ++ [x]) = outF b d xs ++ (if b x then [d x] else []) := by
  unfold outF
  rw [List.filter_append, List.map_append]
  cases h : b x <;> simp [h]
theorem wipeE_get {E : Env'} {i : Nat} {R : RP} : ∀ {vs : List Nat}, (wipeE E vs)[i]? = some (some R) → E[i]? = some (some R)
  | [], h => h
  | v :: vs, h => by
    have h' : ((wipeE E vs).set v none)[i]? = some (some R) := h
    rw [List.getElem?_set] at h'
    by_cases hv : v = i
    · subst hv
      by_cases hl : v < (wipeE E vs).length <;> simp [hl] at h'
    · rw [if_neg hv] at h'
      exact wipeE_get h'
structure LC (X : Cx) (elt tg iter : Expr) (ifs : List Expr) (scope : Scope) (E : Env') (ds : List PyData) : Prop where
  ex : ∃ (wi : TI) (g : TG) (tt : TT) (te : TE) (own : List (Str × Nat)), X.calm = true ∧ X.N.Nodup ∧ PI X tg iter wi ∧ BlkOk X.N X.env.scope scope own ∧
    (∀ (s : Shared) (H : Hp) (C : Addr) (cl : List (Str × Addr)) (fp : List Addr), PG (Blk X scope s H C cl fp) tg g) ∧
    (∀ (s : Shared) (H : Hp) (C : Addr) (cl : List (Str × Addr)) (fp : List Addr), PTs (Blk X scope s H C cl fp) ifs tt) ∧
    (∀ (s : Shared) (H : Hp) (C : Addr) (cl : List (Str × Addr)) (fp : List Addr), PE (Blk X scope s H C cl fp) elt te) ∧
    (∀ x, foldedSetIterable iter X.env x = pure x) ∧
    ∀ (σ : L2.St) (H : Hp) (Q : VK), (∃ F, RepE E σ F ∧ Fh F H ∧ ∀ p vs F' H', Ext F H F' H' → F' p = none → H p = none → H' p = some (.lst vs) → DaAll X.K F' vs ds → Q (.ref p) H') → tLc wi g tt te (own.map (·.2)) σ H Q
theorem LC.gen {elt tg iter : Expr} {ifs : List Expr} {scope : Scope} {pos : Pos} (h : LC X elt tg iter ifs scope E ds) : GEN X (.ListComp elt [⟨tg, iter, ifs, 0⟩] scope pos) E ds := by
  obtain ⟨wi, g, tt, te, own, hc, hN, hi, ok, hg, ht, he, hs, k⟩ := h.ex
  exact ⟨pe_imp (pe_lc hc hN hi ok hg ht he hs) k⟩
theorem LC.is {elt tg iter : Expr} {ifs : List Expr} {scope : Scope} {ds' : List PyData} (h : LC X elt tg iter ifs scope E ds) (q : ds = ds') : LC X elt tg iter ifs scope E ds' := by subst q; exact h
theorem k_lc {elt : Expr} {ifs : List Expr} {scope : Scope} {own : List (Str × Nat)} {sl : List Nat} {f : Nat → Env' → Env'} {b : Nat → Bool} {d : Nat → PyData} {out : Nat → List PyData} (hc : X.calm = true) (hN : X.N.Nodup) (hi : GI X tg iter E n Y) (ok : BlkOk X.N X.env.scope scope own)
    (hg : ∀ (s : Shared) (H : Hp) (C : Addr) (cl : List (Str × Addr)) (fp : List Addr) (i : Nat), i < n → GT (Blk X scope s H C cl fp) tg (Y i) sl (f i)) (hsl : ∀ i, i ∈ sl → i ∈ own.map (·.2))
    (ht : ∀ (s : Shared) (H : Hp) (C : Addr) (cl : List (Str × Addr)) (fp : List Addr) (i : Nat), i < n → PTs (Blk X scope s H C cl fp) ifs (tGB (f i (wipeE E (own.map (·.2)))) (b i)))
    (he : ∀ (s : Shared) (H : Hp) (C : Addr) (cl : List (Str × Addr)) (fp : List Addr) (i : Nat), i < n → b i = true → GE (Blk X scope s H C cl fp) elt (f i (wipeE E (own.map (·.2)))) (DD X.K (d i)))
    (h0 : out 0 = []) (hs1 : ∀ i, i < n → out (i + 1) = out i ++ (if b i then [d i] else [])) (hz : n < sizeLine) (hs : ∀ x, foldedSetIterable iter X.env x = pure x := by intro _; rfl) : LC X elt tg iter ifs scope E (out n) := by
  have hlen : ∀ i, i ≤ n → (out i).length ≤ i := by
    intro i
    induction i with
    | zero => intro _; rw [h0]; exact Nat.le_refl _
    | succ i ih =>
      intro hi
      rw [hs1 i (by omega), List.length_append]
      have := ih (by omega)
      cases b i <;> simp <;> omega
  refine ⟨_, gR n Y sl f, fun σ H Q => ∃ i, i < n ∧ tGB (f i (wipeE E (own.map (·.2)))) (b i) σ H Q, fun σ H Q => ∃ i, i < n ∧ b i = true ∧ tG (f i (wipeE E (own.map (·.2)))) (DD X.K (d i)) σ H Q, own, hc, hN, hi.pi, ok,
    (fun s H C cl fp => ⟨fun pins s' σ H v u Q I r ⟨i, hi, q⟩ => (hg s _ C cl fp i hi).pg.run pins s' σ H v u Q I r q⟩),
    (fun s H C cl fp => ⟨fun pins s' σ H Q I ⟨i, hi, q⟩ => (ht s _ C cl fp i hi).run pins s' σ H Q I q⟩),
    (fun s H C cl fp => ⟨fun pins s' σ H Q I ⟨i, hi, hb, q⟩ => (he s _ C cl fp i hi hb).pe.run pins s' σ H Q I q⟩), hs, fun σ H Q ⟨F, r, x, q⟩ => ⟨F, r, x, fun J F' H' e1 w Dl hD => ?_⟩⟩
  have hDH : H Dl = none := e1.hno hD
  have hDF : F' Dl = none := e1.fh.no hD
  refine lc_it (g := gR n Y sl f) (tt := fun σ H Q => ∃ i, i < n ∧ tGB (f i (wipeE E (own.map (·.2)))) (b i) σ H Q) (te := fun σ H Q => ∃ i, i < n ∧ b i = true ∧ tG (f i (wipeE E (own.map (·.2)))) (DD X.K (d i)) σ H Q) w (fun i H2 => ∃ F2 vs, Ext F' H' F2 H2 ∧ F2 Dl = none ∧ H2 Dl = some (.lst vs) ∧ DaAll X.K F2 vs (out i)) ⟨F', [], Ext.out e1.fh hD _, hDF, upd_same, by rw [h0]; exact .nil⟩ (fun i H2 _ ⟨F2, vs, e2, _, _, _⟩ a o g e => e2.fh.at (e2.ff a o e) g) ?_ ?_
  · rintro i v H2 H3 hlt ⟨F2, vs, e2, n2, l2, d2⟩ y
    obtain ⟨F3, e3, hy⟩ := y F2 e2.ff e2.fh
    have e23 := e2.trans e3
    have n3 : F3 Dl = none := e3.nf Dl _ n2 l2
    refine ⟨i, hlt, F3, hy, e3.fh, fun σ3 k => ?_⟩
    refine ⟨?_, i, hlt, F3, ?_, e3.fh, fun F4 H4 e4 => ?_⟩
    · rw [k.2 (own.map (·.2)) hsl]
      exact wipe_idem _ _ fun _ h => h
    · exact k.1 _ (((r.mono e1.ff).mono e23.ff).wipe _)
    · have l4 : H4 Dl = some (.lst vs) := e4.h0 n3 (e3.h0 n2 l2)
      have n4 : F4 Dl = none := e4.nf Dl _ n3 (e3.h0 n2 l2)
      have d4 := daAll_mono e4.ff _ _ (daAll_mono e3.ff _ _ d2)
      have o1 := hs1 i hlt
      cases hb : b i with
      | false =>
        refine iteF ⟨F4, vs, e23.trans e4, n4, l4, ?_⟩
        rw [o1, hb]
        simpa using d4
      | true =>
        refine iteT ⟨i, hlt, hb, F4, (k.1 _ (((r.mono e1.ff).mono e23.ff).wipe _)).mono e4.ff, e4.fh, fun u F5 H5 e5 r5 => ?_⟩
        have l5 : H5 Dl = some (.lst vs) := e5.h0 n4 l4
        have n5 : F5 Dl = none := e5.nf Dl _ n4 l4
        refine ⟨vs, l5, ?_, F5, vs ++ [u], ?_, n5, upd_same, ?_⟩
        · have := hlen i (by omega)
          rw [d2.len]; omega
        · have e45 := (e23.trans e4).trans e5
          refine ⟨e45.ff, e45.fh.wr n5, fun a o n h => ?_, e45.nf⟩
          rw [upd_ne (ne_of_none h hD)]; exact e45.hh a o n h
        · rw [o1, hb]
          exact (daAll_mono e5.ff _ _ d4).append (.cons r5 .nil)
  · rintro H2 ⟨F2, vs, e2, n2, l2, d2⟩
    exact q Dl vs F2 H2 (e1.trans e2) n2 hDH l2 d2
theorem n_lc {elt : Expr} {ifs : List Expr} {scope : Scope} {own : List (Str × Nat)} {sl : List Nat} {f : Nat → Env' → Env'} {b : Nat → Bool} {d : Nat → PyData} {out : Nat → List PyData} (hc : X.calm = true) (hN : X.N.Nodup) (hi : GI X tg iter E n Y) (ok : BlkOk X.N X.env.scope scope own)
    (hg : ∀ (s : Shared) (H : Hp) (C : Addr) (cl : List (Str × Addr)) (fp : List Addr) (i : Nat), i < n → GT (Blk X scope s H C cl fp) tg (Y i) sl (f i)) (hsl : ∀ i, i ∈ sl → i ∈ own.map (·.2))
    (ht : ∀ (s : Shared) (H : Hp) (C : Addr) (cl : List (Str × Addr)) (fp : List Addr) (i : Nat), i < n → PTs (Blk X scope s H C cl fp) ifs (tGB (f i (wipeE E (own.map (·.2)))) (b i)))
    (he : ∀ (s : Shared) (H : Hp) (C : Addr) (cl : List (Str × Addr)) (fp : List Addr) (i : Nat), i < n → b i = true → GE (Blk X scope s H C cl fp) elt (f i (wipeE E (own.map (·.2)))) (DD X.K (d i)))
    (h0 : out 0 = []) (hs1 : ∀ i, i < n → out (i + 1) = out i ++ (if b i then [d i] else [])) (hz : n < sizeLine) (hs : ∀ x, foldedSetIterable iter X.env x = pure x := by intro _; rfl) : GEN X (.ListComp elt [⟨tg, iter, ifs, 0⟩] scope pos) E (out n) := (k_lc hc hN hi ok hg hsl ht he h0 hs1 hz hs).gen
end
end Z
namespace Z
open PySem PySem.Spec PyProof.Rows L2
variable [Vo]
theorem RepO.write {F0 H0 F H : Hp} {mu : List Addr} {os : OS} {l : Addr} {ov ov' : OV} {j : Nat} {o' : HO} (m : RepO F0 H0 mu os F H) (h : os[j]? = some (l, ov)) (r : ov'.at_ F o') : RepO F0 H0 mu (os.set j (l, ov')) F (upd H l o') := by
  have hm : (l, ov) ∈ os := List.mem_of_getElem? h
  obtain ⟨f, g, u, hu, _⟩ := m.ow _ hm
  have hmap : (os.set j (l, ov')).map (·.1) = os.map (·.1) := by
    rw [List.map_set]
    refine List.ext_getElem? fun i => ?_
    rw [List.getElem?_set]
    by_cases hi : j = i
    · subst hi
      obtain ⟨hj, e⟩ := List.getElem?_eq_some_iff.mp h
      rw [if_pos rfl, if_pos (by simpa using hj)]
      simp [h]
    · rw [if_neg hi]
  refine ⟨⟨m.fm.ff, m.fm.fh.wr f, fun a o n w q => ?_, m.fm.nf, fun a q => ?_⟩, by rw [hmap]; exact m.nd, fun p hp => ?_⟩
  · have : a ≠ l := fun e => by
      subst e
      rcases g with g | g
      · rw [g] at q; cases q
      · exact n g
    rw [upd_ne this]; exact m.fm.hh a o n w q
  · by_cases e : a = l
    · subst e; exact ⟨f, _, upd_same⟩
    · rw [upd_ne e]; exact m.fm.mm a q
  · obtain ⟨i, hi⟩ := List.mem_iff_getElem?.mp hp
    rw [List.getElem?_set] at hi
    by_cases hij : j = i
    · subst hij
      obtain ⟨hj, e⟩ := List.getElem?_eq_some_iff.mp h
      rw [if_pos rfl, if_pos hj] at hi
      cases hi
      exact ⟨f, g, o', upd_same, r⟩
    · rw [if_neg hij] at hi
      have hp' : p ∈ os := List.mem_of_getElem? hi
      obtain ⟨f1, g1, o1, h1, r1⟩ := m.ow p hp'
      have ne : p.1 ≠ l := fun e => by
        have e1 : (os.map (·.1))[i]? = some l := by rw [List.getElem?_map, hi]; simp [e]
        have e2 : (os.map (·.1))[j]? = some l := by rw [List.getElem?_map, h]; rfl
        exact hij (nd_ix m.nd e2 e1)
      exact ⟨f1, g1, o1, by rw [upd_ne ne]; exact h1, r1⟩
theorem RepO.grow {F0 H0 F H F' H' : Hp} {mu : List Addr} {os : OS} {l : Addr} {ov : OV} {o' : HO} (m : RepO F0 H0 mu os F H) (e : Ext F H F' H') (h1 : F' l = none) (h2 : H l = none) (h3 : H' l = some o') (r : ov.at_ F' o') : RepO F0 H0 mu (os ++ [(l, ov)]) F' H' := by
  have m' := m.ext e
  have nl : l ∉ os.map (·.1) := fun h => by
    obtain ⟨p, hp, rfl⟩ := List.mem_map.mp h
    obtain ⟨_, _, u, hu, _⟩ := m.ow p hp
    rw [h2] at hu; cases hu
  refine ⟨m'.fm, ?_, fun p hp => ?_⟩
  · rw [List.map_append, List.nodup_append]
    refine ⟨m.nd, by simp, fun a ha b hb e => ?_⟩
    have : b = l := by simpa using hb
    subst this; subst e; exact nl ha
  · rcases List.mem_append.mp hp with hp | hp
    · exact m'.ow p hp
    · have : p = (l, ov) := by simpa using hp
      subst this
      refine ⟨h1, ?_, o', h3, r⟩
      by_cases hm : l ∈ mu
      · exact .inr hm
      · refine .inl ?_
        cases q : H0 l with
        | none => rfl
        | some u =>
          have := m.fm.hh l u hm (fun s z => by
            obtain ⟨o, ho, _⟩ := m.fm.fh.vo l s (m.fm.ff l _ z)
            rw [h2] at ho; cases ho) q
          rw [h2] at this; cases this
section
variable {B : Bk} {E V : Env'} {os os' : OS} {P : DE} {st : Stmt} {rest body : List Stmt} {e recv tg a b : Expr} {R : RP} {pos apos cpos pos' : Pos} {fs : List Addr} {l : Addr} {ds ds2 : List PyData} {d d2 : PyData} {j : Nat}
theorem ws_asg {sl : List Nat} {f : Env' → Env'} (he : GE B.X e E R) (ht : GT B.X tg R sl f) (k : WS B rest (f E) os P) (hs : swapsWithSole [tg] e pos.line B.X.env = pure false := by rfl) (hw : swappedStores [tg] e B.X.env = pure none := by rfl) (h1 : (assignEach [tg] B.X.env).map (·.2) = [assign tg B.X.env] := by rfl) : WS B (.Assign [tg] e pos :: rest) E os P :=
  ws_of (ps_asg he.pe ht.pg hs hw h1) fun L D σ F H m r l => ⟨F, r.e, r.o.fm.fh, fun v F' H' x hv => ⟨F', hv, x.fh, fun σ' hp => k.run L D _ F' H' m ⟨r.o.ext x, hp.1 E (r.e.mono x.ff)⟩ (Ex.tr l x.ff)⟩⟩
theorem ws_par (i j : Nat) {x y : Str} {px py pt : Pos} {kt k2 : Nat} {pt2 : Pos} (hc : B.X.calm = true) (hN : B.X.N.Nodup) (hi : B.X.N[i]? = some x) (hj : B.X.N[j]? = some y) (hij : i ≠ j) (hx : B.X.env.scope.names.lookup x = some .local) (hy : B.X.env.scope.names.lookup y = some .local)
    (ha : GAD B.X [a, b] E [d, d2]) (k : WS B rest ((E.set i (some (DD B.X.K d))).set j (some (DD B.X.K d2))) os P) (hw : swappedStores [.Tuple [.Name x px, .Name y py] kt pt] (.Tuple [a, b] k2 pt2) B.X.env = pure (some [x, y])) (hs : swapsWithSole [.Tuple [.Name x px, .Name y py] kt pt] (.Tuple [a, b] k2 pt2) pos.line B.X.env = pure false := by rfl) :
    WS B (.Assign [.Tuple [.Name x px, .Name y py] kt pt] (.Tuple [a, b] k2 pt2) pos :: rest) E os P :=
  ws_of (ps_par hc hN hi hj hij hx hy ha.pa hw hs) fun L D σ F H m r l => ⟨F, r.e, r.o.fm.fh, fun vs F' H' x hv => by
    obtain ⟨v, u, rfl, h1, h2⟩ := dpa2 hv
    exact ⟨v, u, rfl, k.run L D _ F' H' m ⟨r.o.ext x, ((r.e.mono x.ff).set DD.mo h1).set DD.mo h2⟩ (Ex.tr l x.ff)⟩⟩
theorem ws_augI (i : Nat) {x : Str} {op : Operator} {g : Int → Int → Int} {n m : Int} (ho : OpR B.X (inplaceOp op) (rI0 fun i j => .int (g i j))) (hN : B.X.N.Nodup) (hi : B.X.N[i]? = some x) (hx : Loc B.X.env.scope x) (hE : E[i]? = some (some (DD B.X.K (.int n)))) (he : GE B.X e E (DD B.X.K (.int m)))
    (k : WS B rest (E.set i (some (DD B.X.K (.int (g n m))))) os P) (hf : B.X.fn x = true ∨ B.X.env.scope.names.lookup x = some .local := by first | exact .inl rfl | exact .inr rfl | assumption) : WS B (.AugAssign (.Name x pos') op e pos :: rest) E os P :=
  ws_of (ps_aug hN hi hx he.pe (ti := rI0 fun i j => .int (g i j)) (fun pins s σ H x y v u Q I rx ry q => ho pins s σ H x y v u Q I rx ry q) hf) fun L D σ F H m r l => by
    obtain ⟨_, v, hv, rv⟩ := r.e.at_ i _ hE
    cases DD.int_inv rv
    exact ⟨_, hv, F, r.e, r.o.fm.fh, fun u F' H' x hu => by
      cases DD.int_inv hu
      exact ⟨_, _, rfl, rfl, k.run L D _ F' H' m ⟨r.o.ext x, (r.e.mono x.ff).set DD.mo (.int _)⟩ (Ex.tr l x.ff)⟩⟩
theorem ws_augS (i : Nat) {x : Str} {n m : Str} (hN : B.X.N.Nodup) (hi : B.X.N[i]? = some x) (hx : Loc B.X.env.scope x) (hE : E[i]? = some (some (DD B.X.K (.str n)))) (he : GE B.X e E (DD B.X.K (.str m))) (hl : n.length + m.length ≤ sizeLine)
    (k : WS B rest (E.set i (some (DD B.X.K (.str (n ++ m))))) os P) (hf : B.X.fn x = true ∨ B.X.env.scope.names.lookup x = some .local := by first | exact .inl rfl | exact .inr rfl | assumption) : WS B (.AugAssign (.Name x pos') .Add e pos :: rest) E os P :=
  ws_of (ps_aug hN hi hx he.pe (ti := fun x y H Q => ∃ i j, x = .str i ∧ y = .str j ∧ i.length + j.length ≤ sizeLine ∧ Q (.str (i ++ j)) H) (fun pins s σ H x y v u Q I rx ry q => iop_add_str pins s σ H x y v u Q I rx ry q) hf) fun L D σ F H m r l => by
    obtain ⟨_, v, hv, rv⟩ := r.e.at_ i _ hE
    cases DD.str_inv rv
    exact ⟨_, hv, F, r.e, r.o.fm.fh, fun u F' H' x hu => by
      cases DD.str_inv hu
      exact ⟨_, _, rfl, rfl, hl, k.run L D _ F' H' m ⟨r.o.ext x, (r.e.mono x.ff).set DD.mo (.str _)⟩ (Ex.tr l x.ff)⟩⟩
theorem ws_new (i : Nat) {x : Str} (hN : B.X.N.Nodup) (hi : B.X.N[i]? = some x) (hx : Loc B.X.env.scope x) (he : GEN B.X e E ds) (k : ∀ l, WS B rest (E.set i (some (RR l))) (os ++ [(l, Ls B.X.K ds)]) P)
    (hs : swapsWith e (some (.Name x pos')) pos.line B.X.env = pure false := by rfl) (hf : B.X.fn x = true ∨ B.X.env.scope.names.lookup x = some .local := by first | exact .inl rfl | exact .inr rfl | assumption) :
    WS B (.Assign [.Name x pos'] e pos :: rest) E os P :=
  ws_of (ps_set hN hi hx he.pe hs hf) fun L D σ F H m r l => ⟨F, r.e, r.o.fm.fh, fun p vs F' H' x h1 h2 h3 h4 => (k p).run L D _ F' H' m ⟨r.o.grow x h1 h2 h3 ⟨vs, rfl, h4⟩, (r.e.mono x.ff).set RR.mo rfl⟩ (Ex.tr l x.ff)⟩
theorem ws_append (j : Nat) (hr : GE B.X recv E (RR l)) (ho : os[j]? = some (l, Ls B.X.K ds)) (he : GE B.X e E (DD B.X.K d)) (hz : ds.length < sizeLine) (k : WS B rest E (os.set j (l, Ls B.X.K (ds ++ [d]))) P)
    (hp : ∀ {to : TE} {t : TA}, PE B.X recv to → PA B.X [e] t → PE B.X (.Call (.Attribute recv "append" apos) [e] [] cpos) (tBM B.X.K "list" rAppend to t) := by intro _ _ h1 h2; exact pe_bm PySem.F.plainAttrs_list PySem.F.slot_list_append PySem.F.type_list_append mt_append h1 h2)
    (hst : starEach [e] B.X.env = (false, eval e B.X.env) :: starEach [] B.X.env := by rfl) (hs : swapsWith (.Call (.Attribute recv "append" apos) [e] [] cpos) none pos.line B.X.env = pure false := by rfl) : WS B (.Expr (.Call (.Attribute recv "append" apos) [e] [] cpos) pos :: rest) E os P :=
  ws_of (ps_expr (hp hr.pe (gad_cons he gad_nil hst).pa) hs) fun L D σ F H m r l1 => ⟨F, r.e, r.o.fm.fh, fun v F1 H1 e1 hv => by
    have ev : v = .ref l := hv
    subst ev
    have r1 := r.o.ext e1
    obtain ⟨f1, _, o1, h1, vs, rfl, d1⟩ := r1.ow _ (List.mem_of_getElem? ho)
    refine ⟨.inl ⟨rfl, vs, SqL.of h1⟩, F1, r.e.mono e1.ff, e1.fh, fun us F2 H2 e2 hu => ?_⟩
    obtain ⟨u, rfl, hu1⟩ := dpa1 hu
    have r2 := r1.ext e2
    have d2 := daAll_mono e2.ff _ _ d1
    refine ⟨l, vs, u, rfl, rfl, e2.h0 f1 h1, by rw [d1.len]; exact hz, ?_⟩
    exact k.run L D _ F2 _ m ⟨r2.write ho ⟨_, rfl, d2.append (.cons hu1 .nil)⟩, (r.e.mono e1.ff).mono e2.ff⟩ (Ex.tr (Ex.tr l1 e1.ff) e2.ff)⟩
theorem ws_extend (j : Nat) (hr : GE B.X recv E (RR l)) (ho : os[j]? = some (l, Ls B.X.K ds)) (he : GE B.X e E (DD B.X.K (.list ds2))) (hz : ds.length + ds2.length ≤ sizeLine) (k : WS B rest E (os.set j (l, Ls B.X.K (ds ++ ds2))) P)
    (hp : ∀ {to : TE} {t : TA}, PE B.X recv to → PA B.X [e] t → PE B.X (.Call (.Attribute recv "extend" apos) [e] [] cpos) (tBM B.X.K "list" rExtend to t) := by intro _ _ h1 h2; exact pe_bm PySem.F.plainAttrs_list PySem.F.slot_list_extend PySem.F.type_list_extend mt_extend h1 h2)
    (hst : starEach [e] B.X.env = (false, eval e B.X.env) :: starEach [] B.X.env := by rfl) (hs : swapsWith (.Call (.Attribute recv "extend" apos) [e] [] cpos) none pos.line B.X.env = pure false := by rfl) : WS B (.Expr (.Call (.Attribute recv "extend" apos) [e] [] cpos) pos :: rest) E os P :=
  ws_of (ps_expr (hp hr.pe (gad_cons he gad_nil hst).pa) hs) fun L D σ F H m r l1 => ⟨F, r.e, r.o.fm.fh, fun v F1 H1 e1 hv => by
    have ev : v = .ref l := hv
    subst ev
    have r1 := r.o.ext e1
    obtain ⟨f1, _, o1, h1, vs, rfl, d1⟩ := r1.ow _ (List.mem_of_getElem? ho)
    refine ⟨.inl ⟨rfl, vs, SqL.of h1⟩, F1, r.e.mono e1.ff, e1.fh, fun us F2 H2 e2 hu => ?_⟩
    obtain ⟨u, rfl, hu1⟩ := dpa1 hu
    obtain ⟨q, ws, rfl, hq, hd⟩ := DD.list_inv hu1
    have r2 := r1.ext e2
    have d2 := daAll_mono e2.ff _ _ d1
    refine ⟨l, q, vs, ws, rfl, rfl, e2.h0 f1 h1, e2.fh.at hq, by rw [d1.len, hd.len]; exact hz, ?_⟩
    exact k.run L D _ F2 _ m ⟨r2.write ho ⟨_, rfl, d2.append hd⟩, (r.e.mono e1.ff).mono e2.ff⟩ (Ex.tr (Ex.tr l1 e1.ff) e2.ff)⟩
theorem ws_setIx (j : Nat) {i : Int} {n : Nat} {ix : Expr} (hr : GE B.X recv E (RR l)) (ho : os[j]? = some (l, Ls B.X.K ds)) (hi : GE B.X ix E (DD B.X.K (.int i))) (hn : ixN ds.length i = some n) (hv : Vw os fs E V) (he : GE B.X e E (DD B.X.K d)) (k : WS B rest E (os.set j (l, Ls B.X.K (ds.set n d))) P)
    (ha : ∀ v, assign (.Subscript recv ix pos') B.X.env v = (do let ov ← holding [v] (eval recv B.X.env); let iv ← holding [v, ov] (eval ix B.X.env); standAt pos'; holding [v, ov, iv] (setItem ov iv v); release [v, ov, iv] []) := by intro _; rfl)
    (hs : swapsWithSole [.Subscript recv ix pos'] e pos.line B.X.env = pure false := by rfl) (hw : swappedStores [.Subscript recv ix pos'] e B.X.env = pure none := by rfl) (h1 : (assignEach [.Subscript recv ix pos'] B.X.env).map (·.2) = [assign (.Subscript recv ix pos') B.X.env] := by rfl) : WS B (.Assign [.Subscript recv ix pos'] e pos :: rest) E os P :=
  ws_of (ps_asg he.pe (pg_sub hr.pe hi.pe set_list ha) hs hw h1) fun L D σ F H m r l1 => ⟨F, r.e, r.o.fm.fh, fun v F1 H1 e1 hv => ⟨F1, r.e.mono e1.ff, e1.fh, fun u F2 H2 e2 hu => ⟨F2, (r.e.mono e1.ff).mono e2.ff, e2.fh, fun w F3 H3 e3 hw => by
    have eu : u = .ref l := hu
    subst eu
    cases DD.int_inv hw
    have r3 := ((r.o.ext e1).ext e2).ext e3
    obtain ⟨f3, _, o3, h3, vs, rfl, d3⟩ := r3.ow _ (List.mem_of_getElem? ho)
    refine ⟨l, vs, i, n, rfl, rfl, h3, by rw [d3.len]; exact hn, ?_⟩
    have f13 := Ex.tr e2.ff e3.ff
    exact k.run L D _ F3 _ m ⟨r3.write ho ⟨_, rfl, d3.set n (da_mono f13 _ _ hv)⟩, (r.e.mono e1.ff).mono f13⟩ (Ex.tr (Ex.tr l1 e1.ff) f13)⟩⟩⟩
theorem ws_give {sts : List Stmt} (hv : Vw os fs E V) (h1 : ∀ a, a ∈ fs → a ∈ os.map (·.1) ∧ a ∉ B.mu) (h2 : ∀ p, p ∈ os' → p ∈ os ∧ p.1 ∉ fs) (nd : os.map (·.1) |>.Nodup → (os'.map (·.1)).Nodup) (k : WS B sts V os' P) : WS B sts E os P :=
  ⟨fun L D σ F H m r l => k.run L D σ _ H m ⟨r.o.give h1 h2 (nd r.o.nd), hv.rep r⟩ (Ex.tr l (hv.fsok r).ff)⟩
theorem ws_drop (he : GE B.X e E R) (k : WS B rest E os P) (hs : swapsWith e none pos.line B.X.env = pure false := by rfl) : WS B (.Expr e pos :: rest) E os P :=
  ws_of (ps_expr he.pe hs) fun L D σ F H m r l => ⟨F, r.e, r.o.fm.fh, fun v F' H' x hv => k.run L D _ F' H' m (r.ext x) (Ex.tr l x.ff)⟩
theorem ws_doc {x j} (k : WS B rest E os P) : WS B (.Expr (.Constant (.str x) j pos') pos :: rest) E os P := ws_of ps_doc fun L D σ F H m r l => k.run L D σ F H m r l
theorem ws_break (k : P.bk E os) : WS B (.Break pos :: rest) E os P := ws_of ps_break fun L D σ F H m r l => m.bk E os σ F H k r l
theorem ws_cont (k : P.ct E os) : WS B (.Continue pos :: rest) E os P := ws_of ps_continue fun L D σ F H m r l => m.ct E os σ F H k r l
end
def ent (K : PySem.W.Frag) (n : Nat) (ds : List PyData) : Env' := ds.map (fun d => some (DD K d)) ++ List.replicate (n - ds.length) none
theorem rep_start {K : PySem.W.Frag} {N : List Str} {F : Hp} {vs : List V} {ds : List PyData} (h : DaAll K F vs ds) : RepE (ent K N.length ds) (L2.start N vs) F := by
  refine ⟨fun i R q => ?_, ?_⟩
  · unfold ent at q
    rw [List.getElem?_append] at q
    split at q
    · rename_i hi
      rw [List.length_map] at hi
      rw [List.getElem?_map] at q
      cases hd : ds[i]? with
      | none => rw [hd] at q; cases q
      | some d =>
        rw [hd] at q
        have e : DD K d = R := by simpa using q
        subst e
        obtain ⟨v, hv, hq⟩ := h.get hd
        refine ⟨DD.mo, v, ?_, hq⟩
        unfold L2.start
        rw [List.getElem?_append_left (by rw [List.length_map, h.len]; exact hi), List.getElem?_map, hv]
        rfl
    · rw [List.getElem?_replicate] at q
      split at q <;> simp at q
  · unfold L2.start ent
    simp [h.len]
abbrev WN : WX := fun _ _ _ _ => False
section
variable {P : Program} {w : World} {K : PySem.W.Frag} {mg : Str → Option Value} {base : Heap}
abbrev cxN (P : Program) (w : World) (K : PySem.W.Frag) (mg : Str → Option Value) (base : Heap) (N : List Str) (qual : Str) (st : Stmt) (f : Addr) (cdv : Value) (A : Around) (outer : List Env) (s : Shared) (H : Hp) (E : XK) : Cx := (cxOf CX0 P w K mg base N qual (defScope st) f cdv A outer s H E).nox
def Rts (K : PySem.W.Frag) (d : PyData) : DE := { nx := fun _ _ => d = .none, rt := fun R _ => ∀ F v, R F v → DD K d F v }
theorem fn_data {x qual : Str} {st : Stmt} {f : Addr} {fd : FuncData} {N ps : List Str} {k : Nat} {q : List PyData → PyData → Prop} (F : Fun K x qual st f fd) (S : FnScope N ps (defScope st)) (len : ∀ ds d, q ds d → ds.length = ps.length)
    (hb : ∀ (cdv : Value) (A : Around) (outer : List Env) (s : Shared) (H F0 : Hp) (E : XK), Room k (cxN P w K mg base N qual st f cdv A outer s H E).A → ∀ ds d, q ds d → WS ⟨cxN P w K mg base N qual st f cdv A outer s H E, F0, H, [], WN⟩ (defBody st) (ent K N.length ds) [] (Rts K d)) :
    FnOk P w K mg base CX0 (k + 1) f fd ps (spD K q) := by
  refine F.ok S (fun vs H Q E ⟨F, ds, d, _, h, hq, _⟩ => h.len.trans (len ds d hq)) (fun cdv A outer s H vs Q E hr ⟨F0, ds, d, ex, h, hq, kk⟩ => ⟨_, w_can, ?_⟩)
  refine (hb cdv A outer s H F0 E hr ds d hq).run F0 _ (L2.start N vs) F0 H ⟨fun E' os σ F' H' e r l => ?_, fun R os v F' H' e r l hv => ?_, fun E' os σ F' H' z => z.elim, fun E' os σ F' H' z => z.elim, fun _ _ _ _ _ _ _ _ z => z.elim⟩ ⟨⟨⟨fun _ _ q => q, ex, fun a o _ _ q => q, fun a o q _ => q, fun a q => nomatch q⟩, List.nodup_nil, fun p hp => nomatch hp⟩, rep_start h⟩ (fun _ _ q => q)
  · have e' : d = .none := e
    subst e'
    exact kk _ F' H' ⟨r.o.fm.ff, r.o.fm.fh, fun a o n q => r.o.fm.hh a o (by simp) n q, r.o.fm.nf⟩ .non
  · exact kk v F' H' ⟨r.fm.ff, r.fm.fh, fun a o n q => r.fm.hh a o (by simp) n q, r.fm.nf⟩ (e F' v hv)
theorem FnD.of {x qual : Str} {st : Stmt} {f : Addr} {fd : FuncData} {ps : List Str} {k : Nat} {sp : Sp} (F : Fun K x qual st f fd) (hm : mg x = some (.ref f)) (hb : Binds K fd ps []) (h : FnOk P w K mg base CX0 k f fd ps sp) : FnD P w K mg base k x ps sp := ⟨f, fd, hm, F.kp, hb, h⟩
end
end Z
namespace Z
open PySem PySem.Spec PyProof.Rows L2
variable [Vo]
abbrev mk (l : List Nat) : Str := ⟨l.toArray⟩
theorem mk_tl (l : List Nat) : TL.tl (mk l) = l := TL.tl_mk l
theorem mk_len (l : List Nat) : (mk l).length = l.length := by rw [TL.len_tl, mk_tl]
theorem mk_inj {a b : List Nat} (h : mk a = mk b) : a = b := by rw [← mk_tl a, h, mk_tl]
theorem mk_eq (a b : List Nat) : decide (mk a = mk b) = decide (a = b) := by
  by_cases h : a = b
  · subst h; simp
  · rw [decide_eq_false h, decide_eq_false fun e => h (mk_inj e)]
theorem mk_app (a b : List Nat) : mk a ++ mk b = mk (a ++ b) := TL.ext_tl (by rw [TL.tl_append, mk_tl, mk_tl, mk_tl])
theorem mk_of (s : Str) : s = mk (TL.tl s) := (TL.mk_tl s).symm
section
variable {X : Cx} {E : Env'} {R Ra Rb : RP} {a b c e o : Expr} {es : List Expr} {pos p apos cpos : Pos} {i j : Int} {s t : Str} {d d2 : PyData} {ds ds2 : List PyData} {x : Str} {tg iter : Expr} {l l2 : List Nat}
theorem gv (i : Nat) (hN : X.N[i]? = some x := by rfl) (hE : E[i]? = some (some R) := by rfl) (mo : Mono R := by first | exact DD.mo | exact RR.mo | assumption) (hv : Vis X.env.scope x := by first | exact Or.inl rfl | exact Or.inr (Or.inl rfl) | exact Or.inr (Or.inr rfl))
    (hd : (x == ("__debug__" : Str)) = false := by decide) (hcd : (x == ("__classdict__" : Str)) = false := by decide) : GE X (.Name x pos) E R := g_var i hN hE mo hv hd hcd
theorem g_s (l : List Nat) {j pos} (h : s = mk l := by rfl) : GE X (.Constant (.str s) j pos) E (DD X.K (.str (mk l))) := by subst h; exact g_str
theorem g_addS (ha : GE X a E (DD X.K (.str (mk l)))) (hb : GE X b E (DD X.K (.str (mk l2)))) (hl : l.length + l2.length ≤ sizeLine) : GE X (.BinOp a .Add b pos) E (DD X.K (.str (mk (l ++ l2)))) := g_op (fun _ _ h1 h2 => pe_op op_add_str h1 h2) ha hb DD.mo fun F H x y Q hx hy e k => by
  cases DD.str_inv hx; cases DD.str_inv hy
  exact ⟨_, _, rfl, rfl, by rw [mk_len, mk_len]; exact hl, k _ F H (Ext.refl e) (by rw [mk_app]; exact .str _)⟩
theorem c_eqM : CmpR X .Eq b (DD X.K (.str (mk l))) (DD X.K (.str (mk l2))) (decide (l = l2)) := by
  have := c_eqS (X := X) (b := b) (s := mk l) (t := mk l2)
  rw [mk_eq] at this; exact this
theorem c_neM : CmpR X .NotEq b (DD X.K (.str (mk l))) (DD X.K (.str (mk l2))) (!decide (l = l2)) := by
  have := c_neS (X := X) (b := b) (s := mk l) (t := mk l2)
  rw [mk_eq] at this; exact this
theorem c_inM {n : Nat} (hm : behindInMarks .In b = false := by rfl) : CmpR X .In b (DD X.K (.str (mk [n]))) (DD X.K (.str (mk l))) (decide (n ∈ l)) := ⟨_, op_in_sign, hm, fun F H x y Q hx hy e k => by
  cases DD.str_inv hx; cases DD.str_inv hy
  refine ⟨n, mk l, rfl, rfl, k _ F H (Ext.refl e) ?_⟩
  have : (mk l).cps.toList = l := mk_tl l
  rw [this]; exact .bl _⟩
theorem c_ninM {n : Nat} (hm : behindInMarks .NotIn b = false := by rfl) : CmpR X .NotIn b (DD X.K (.str (mk [n]))) (DD X.K (.str (mk l))) (!decide (n ∈ l)) := ⟨_, op_notIn_sign, hm, fun F H x y Q hx hy e k => by
  cases DD.str_inv hx; cases DD.str_inv hy
  refine ⟨n, mk l, rfl, rfl, k _ F H (Ext.refl e) ?_⟩
  have : (mk l).cps.toList = l := mk_tl l
  rw [this]; exact .bl _⟩
theorem g_slS {lo hi : Option Expr} {o1 o2 : Option Int} {p2 : Pos} (ha : GE X a E (DD X.K (.str (mk l)))) (h1 : GO X lo E o1) (h2 : GO X hi E o2) (hl : l.length ≤ sizeLine) : GE X (.Subscript a (.Slice lo hi none p2) pos) E (DD X.K (.str (mk (cutD l o1 o2)))) :=
  ⟨pe_imp (pe_slice sl_str ha.pe h1.po h2.po) fun σ H Q ⟨F, r, x, q⟩ => ⟨F, r, x, fun v F1 H1 e1 r1 => ⟨F1, r.mono e1.ff, e1.fh, fun F2 H2 e2 => ⟨F2, (r.mono e1.ff).mono e2.ff, e2.fh, fun F3 H3 e3 => by
    cases DD.str_inv r1
    refine ⟨mk l, rfl, by rw [mk_len]; exact hl, q _ _ _ ((e1.trans e2).trans e3) ?_⟩
    have : cutS (mk l) o1 o2 = mk (cutD l o1 o2) := by
      unfold cutS cutD
      rw [mk_len]
    rw [this]; exact .str _⟩⟩⟩, DD.mo⟩
theorem g_ixM {n : Nat} (ha : GE X a E (DD X.K (.str (mk l)))) (hb : GE X b E (DD X.K (.int i))) (hl : l.length ≤ sizeLine) (hi : L2.atI l i = some n) (hs : PlainIx b := by intro _ _; rfl) : GE X (.Subscript a b pos) E (DD X.K (.str (mk [n]))) :=
  g_ixS ha hb (by rw [mk_len]; exact hl) (by rw [show (mk l).cps.toList = l from mk_tl l]; exact hi) hs
theorem g_lenM (B : Bn X.mg) (ha : GE X e E (DD X.K (.str (mk l)))) (hl : l.length ≤ sizeLine) (hg : Gl X "len" := by rfl) (he : starEach [e] X.env = (false, eval e X.env) :: starEach [] X.env := by rfl) (hpl : (backTo pos (starEach [] X.env)).any (·.1) = false := by rfl) : GE X (.Call (.Name "len" p) [e] [] pos) E (DD X.K (.int l.length)) :=
  g_is (g_lenS B ha (by rw [mk_len]; exact hl) hg he hpl) (by rw [mk_len])
theorem l_strM (h : GE X e E (DD X.K (.str (mk l)))) : GIL X tg e E (l.map fun c => .str (mk [c])) := by
  have := l_str (tg := tg) h
  rw [show (mk l).cps.toList = l from mk_tl l] at this
  exact this
theorem g_join {ls : List (List Nat)} (ho : GE X o E (DD X.K (.str (mk l)))) (he : GE X e E (DD X.K (.list (ls.map fun l => .str (mk l))))) (hl : (ls.map (·.length)).sum + ls.length * l.length ≤ 16777216)
    (hs : starEach [e] X.env = [(false, eval e X.env)] := by rfl) (hbase : attributeBase o "join" X.env (eval o X.env) = eval o X.env := by rfl) (hline : (apos.endLine == pos.line) = true := by rfl) : GE X (.Call (.Attribute o "join" apos) [e] [] pos) E (DD X.K (.str (mk (TL.joinL l ls)))) :=
  ⟨pe_imp (pe_join ho.pe he.pe hs hbase hline) fun σ H Q ⟨F, r, x, q⟩ => ⟨F, r, x, fun v F1 H1 e1 r1 => by
    cases DD.str_inv r1
    refine ⟨⟨_, rfl⟩, F1, r.mono e1.ff, e1.fh, fun u F2 H2 e2 r2 => ?_⟩
    obtain ⟨p, vs, rfl, h1, h2⟩ := DD.list_inv r2
    have h2' : DaAll X.K F2 vs ((ls.map mk).map PyData.str) := by rw [List.map_map]; exact h2
    have ev := dpa_strs h2'
    subst ev
    have jm : Txt.join (mk l) (ls.map mk) = mk (TL.joinL l ls) := by
      refine TL.ext_tl ?_
      rw [TL.join_eq, TL.tl_join, mk_tl, mk_tl, List.map_map]
      congr 1
      have hc : TL.tl ∘ mk = id := funext mk_tl
      rw [hc, List.map_id]
    refine ⟨mk l, p, ls.map mk, rfl, rfl, .inl (SqL.of (e2.fh.at h1)), ?_, q _ _ _ (e1.trans e2) (by rw [jm]; exact .str _)⟩
    have e1 : (ls.map mk).map (·.length) = ls.map (·.length) := by
      rw [List.map_map]
      exact List.map_congr_left fun x _ => mk_len x
    rw [e1, mk_len, List.length_map]
    exact hl⟩, DD.mo⟩
theorem n_split {n : Nat} (hn : n < 256) (ho : GE X o E (DD X.K (.str (mk l)))) (he : GE X e E (DD X.K (.str (mk [n])))) (hl : l.length + 2 ≤ sizeLine)
    (hs : starEach [e] X.env = [(false, eval e X.env)] := by rfl) (hbase : attributeBase o "split" X.env (eval o X.env) = eval o X.env := by rfl) (hline : (apos.endLine == pos.line) = true := by rfl) : GEN X (.Call (.Attribute o "split" apos) [e] [] pos) E ((TL.spl [n] 0 [] l).map fun l => .str (mk l)) :=
  ⟨pe_imp (pe_split ho.pe he.pe hs hbase hline) fun σ H Q ⟨F, r, x, q⟩ => ⟨F, r, x, fun v F1 H1 e1 r1 => by
    cases DD.str_inv r1
    refine ⟨⟨_, rfl⟩, F1, r.mono e1.ff, e1.fh, fun u F2 H2 e2 r2 => ?_⟩
    cases DD.str_inv r2
    have e12 := e1.trans e2
    have sp : Txt.split (mk l) (mk [n]) = (TL.spl [n] 0 [] l).map mk := by
      refine TL.map_tl_inj ?_
      rw [TL.split_spl _ _ (by rw [mk_tl]; simp) (TL.kind_ok (by simp [hn])), mk_tl, mk_tl, List.map_map]
      have hc : TL.tl ∘ mk = id := funext mk_tl
      rw [hc, List.map_id]
    refine ⟨mk l, mk [n], rfl, rfl, by rfl, by rw [mk_len]; exact hl, fun p hp => ?_⟩
    rw [sp]
    exact q p _ F2 _ (e12.trans (Ext.out e12.fh hp _)) (e12.fh.no hp) (e12.hno hp) upd_same (by
      rw [show (TL.spl [n] 0 [] l).map (fun l => PyData.str (mk l)) = ((TL.spl [n] 0 [] l).map mk).map PyData.str by rw [List.map_map]; rfl]
      exact dpa_of_strs _)⟩⟩
end
def DKs (K : PySem.W.Frag) (F : Hp) (ks : List (Key × V)) (kvs : List (Key × PyData)) : Prop := Paired (fun p q => p.1 = q.1 ∧ Da K F p.2 q.2) ks kvs
theorem Paired.mp {α β : Type} {F G : α → β → Prop} : ∀ {l₁ : List α} {l₂ : List β}, Paired F l₁ l₂ → (∀ a b, F a b → G a b) → Paired G l₁ l₂
  | _, _, .nil, _ => .nil
  | _, _, .cons r t, f => .cons (f _ _ r) (Paired.mp t f)
theorem DKs.mono {K : PySem.W.Frag} {F F' : Hp} {ks : List (Key × V)} {kvs : List (Key × PyData)} (e : Ex F F') (h : DKs K F ks kvs) : DKs K F' ks kvs := Paired.mp h fun _ _ q => ⟨q.1, da_mono e _ _ q.2⟩
def dget {α κ : Type} [DecidableEq κ] (kvs : List (κ × α)) (k : κ) : Option α := (kvs.find? fun kv => decide (kv.1 = k)).map (·.2)
def dput {α κ : Type} [DecidableEq κ] (kvs : List (κ × α)) (k : κ) (v : α) : List (κ × α) := if kvs.any (fun kv => decide (kv.1 = k)) then kvs.map fun kv => if kv.1 = k then (kv.1, v) else kv else kvs ++ [(k, v)]
theorem DKs.get {K : PySem.W.Frag} {F : Hp} : ∀ {ks : List (Key × V)} {kvs : List (Key × PyData)} (k : Key), DKs K F ks kvs → (∀ d, dget kvs k = some d → ∃ v, valV ks k = some v ∧ Da K F v d) ∧ (dget kvs k = none → valV ks k = none)
  | _, _, k, .nil => ⟨fun d h => by simp [dget] at h, fun _ => rfl⟩
  | (k1, v1) :: ks, (k2, d2) :: kvs, k, .cons ⟨e, r⟩ t => by
    have ih := DKs.get k t
    have e' : k1 = k2 := e
    subst e'
    by_cases h : k1 = k
    · subst h
      refine ⟨fun d q => ?_, fun q => ?_⟩
      · have : d2 = d := by simpa [dget] using q
        subst this
        exact ⟨v1, valV_pos rfl, r⟩
      · simp [dget] at q
    · have e1 : dget ((k1, d2) :: kvs) k = dget kvs k := by simp [dget, h]
      rw [e1, valV_neg h]
      exact ih
theorem DKs.any {K : PySem.W.Frag} {F : Hp} : ∀ {ks : List (Key × V)} {kvs : List (Key × PyData)} (k : Key), DKs K F ks kvs → (ks.any fun kv => decide (kv.1 = k)) = (kvs.any fun kv => decide (kv.1 = k))
  | _, _, k, .nil => rfl
  | (k1, v1) :: ks, (k2, d2) :: kvs, k, .cons ⟨e, r⟩ t => by
    have e' : k1 = k2 := e
    subst e'
    rw [List.any_cons, List.any_cons, DKs.any k t]
theorem DKs.snoc {K : PySem.W.Frag} {F : Hp} : ∀ {ks : List (Key × V)} {kvs : List (Key × PyData)} {p : Key × V} {q : Key × PyData}, DKs K F ks kvs → (p.1 = q.1 ∧ Da K F p.2 q.2) → DKs K F (ks ++ [p]) (kvs ++ [q])
  | _, _, _, _, .nil, h => .cons h .nil
  | _, _, _, _, .cons h t, q => .cons h (DKs.snoc t q)
theorem DKs.repl {K : PySem.W.Frag} {F : Hp} (k : Key) {v : V} {d : PyData} (r : Da K F v d) : ∀ {ks : List (Key × V)} {kvs : List (Key × PyData)}, DKs K F ks kvs → DKs K F (ks.map fun kv => if kv.1 = k then (kv.1, v) else kv) (kvs.map fun kv => if kv.1 = k then (kv.1, d) else kv)
  | _, _, .nil => .nil
  | (k1, v1) :: ks, (k2, d2) :: kvs, .cons ⟨e, r1⟩ t => by
    have e' : k1 = k2 := e
    subst e'
    rw [List.map_cons, List.map_cons]
    refine .cons ?_ (DKs.repl k r t)
    by_cases hk : k1 = k
    · rw [if_pos hk, if_pos hk]; exact ⟨rfl, r⟩
    · rw [if_neg hk, if_neg hk]; exact ⟨rfl, r1⟩
theorem DKs.put {K : PySem.W.Frag} {F : Hp} {ks : List (Key × V)} {kvs : List (Key × PyData)} (k : Key) {v : V} {d : PyData} (h : DKs K F ks kvs) (r : Da K F v d) : DKs K F (putK ks k v) (dput kvs k d) := by
  unfold putK dput
  rw [DKs.any k h]
  split
  · exact h.repl k r
  · exact h.snoc ⟨rfl, r⟩
theorem DKs.len {K : PySem.W.Frag} {F : Hp} {ks : List (Key × V)} {kvs : List (Key × PyData)} (h : DKs K F ks kvs) : ks.length = kvs.length := Paired.length h
def DC (K : PySem.W.Frag) (kvs : List (Key × PyData)) : RP := fun F v => ∃ a ks, v = .ref a ∧ F a = some (.dK ks) ∧ DKs K F ks kvs
theorem DC.mo {K : PySem.W.Frag} {kvs : List (Key × PyData)} : Mono (DC K kvs) := fun _ _ _ e ⟨a, ks, h1, h2, h3⟩ => ⟨a, ks, h1, e _ _ h2, h3.mono e⟩
def Dc (K : PySem.W.Frag) (kvs : List (Key × PyData)) : OV where
  at_ := fun F o => ∃ ks, o = .dK ks ∧ DKs K F ks kvs
  mo := fun F F' o e ⟨ks, h, d⟩ => ⟨ks, h, d.mono e⟩
  fz := DC K kvs
  fmo := DC.mo
  fok := fun F a o h ⟨ks, e, d⟩ => ⟨a, ks, rfl, by rw [h, e], d⟩
  mv := fun F o ⟨ks, e, _⟩ => by subst e; trivial
def dKey : Key → PyData
  | .inl i => .int i
  | .inr s => .str s
theorem dKey_inv {K : PySem.W.Frag} {F : Hp} {v : V} {k : Key} (h : Da K F v (dKey k)) : v = kV k := by
  cases k with
  | inl i => exact DD.int_inv h
  | inr s => exact DD.str_inv h
section
variable {X : Cx} {E : Env'} {R : RP} {a b e : Expr} {pos : Pos} {k : Key} {d : PyData} {kvs : List (Key × PyData)}
theorem g_dget (hu : X.A.units + 1 < cLine) (ha : GE X a E (DC X.K kvs)) (hb : GE X b E (DD X.K (dKey k))) (hk : dget kvs k = some d) (hs : NoSl b := by intro _ _; rfl) : GE X (.Subscript a b pos) E (DD X.K d) :=
  ⟨pe_imp (pe_dget hu ha.pe hb.pe hs) fun σ H Q ⟨F, r, x, q⟩ => ⟨F, r, x, fun v F1 H1 e1 r1 => ⟨F1, r.mono e1.ff, e1.fh, fun u F2 H2 e2 r2 => by
    obtain ⟨p, ks, rfl, h1, h2⟩ := DC.mo _ _ _ e2.ff r1
    cases dKey_inv r2
    obtain ⟨v, hv, hd⟩ := (h2.get k).1 d hk
    exact ⟨p, v, rfl, by rw [← hv]; exact DGet.k (e2.fh.at h1), q v F2 H2 (e1.trans e2) hd⟩⟩⟩, DD.mo⟩
theorem rr_din {K : PySem.W.Frag} {F : Hp} {ks : List (Key × V)} (h : DKs K F ks kvs) : (valV ks k).isSome = (dget kvs k).isSome := by
  cases q : dget kvs k with
  | none => rw [(h.get k).2 q]; rfl
  | some d =>
    obtain ⟨v, hv, _⟩ := (h.get k).1 d q
    rw [hv]; rfl
theorem g_din (hu : X.A.units + 1 < cLine) (ha : GE X a E (DD X.K (dKey k))) (hb : GE X b E (DC X.K kvs)) (hm : behindInMarks .In b = false := by rfl) : GE X (.Compare a [.In] [b] pos) E (DD X.K (.bool (dget kvs k).isSome)) :=
  ⟨pe_imp (pe_cmp (pc_din hu ha.pe hb.pe) hm) fun σ H Q ⟨F, r, x, q⟩ => ⟨F, r, x, fun v F1 H1 e1 r1 => ⟨F1, r.mono e1.ff, e1.fh, fun u F2 H2 e2 r2 => by
    obtain ⟨p, ks, rfl, h1, h2⟩ := r2
    cases dKey_inv r1
    exact ⟨p, _, rfl, DGet.k (e2.fh.at h1), q _ F2 H2 (e1.trans e2) (by rw [rr_din h2]; exact .bl _)⟩⟩⟩, DD.mo⟩
theorem gb_din (hu : X.A.units + 1 < cLine) (ha : GE X a E (DD X.K (dKey k))) (hb : GE X b E (DC X.K kvs)) (hm : behindInMarks .In b = false := by rfl) : GB X (.Compare a [.In] [b] pos) E (dget kvs k).isSome :=
  ⟨pt_imp (pt_cmp (pc_din hu ha.pe hb.pe) hm) fun σ H Q ⟨F, r, x, q⟩ => ⟨F, r, x, fun v F1 H1 e1 r1 => ⟨F1, r.mono e1.ff, e1.fh, fun u F2 H2 e2 r2 => by
    obtain ⟨p, ks, rfl, h1, h2⟩ := r2
    cases dKey_inv r1
    exact ⟨p, _, rfl, DGet.k (e2.fh.at h1), _, rfl, by rw [rr_din h2]; exact q F2 H2 (e1.trans e2)⟩⟩⟩⟩
theorem gb_dnin (hu : X.A.units + 1 < cLine) (ha : GE X a E (DD X.K (dKey k))) (hb : GE X b E (DC X.K kvs)) (hm : behindInMarks .NotIn b = false := by rfl) : GB X (.Compare a [.NotIn] [b] pos) E (!(dget kvs k).isSome) :=
  ⟨pt_imp (pt_cmp (pc_dnotin hu ha.pe hb.pe) hm) fun σ H Q ⟨F, r, x, q⟩ => ⟨F, r, x, fun v F1 H1 e1 r1 => ⟨F1, r.mono e1.ff, e1.fh, fun u F2 H2 e2 r2 => by
    obtain ⟨p, ks, rfl, h1, h2⟩ := r2
    cases dKey_inv r1
    exact ⟨p, _, rfl, DGet.k (e2.fh.at h1), _, rfl, by rw [rr_din h2]; exact q F2 H2 (e1.trans e2)⟩⟩⟩⟩
end
section
variable {B : Bk} {E V : Env'} {os os' : OS} {P : DE} {st : Stmt} {rest body : List Stmt} {e recv tg a b ix : Expr} {R : RP} {pos apos cpos pos' : Pos} {l : Addr} {d d2 : PyData} {kvs : List (Key × PyData)} {k : Key}
theorem ws_newD (i : Nat) {x : Str} {dpos : Pos} (hN : B.X.N.Nodup) (hi : B.X.N[i]? = some x) (hx : Loc B.X.env.scope x) (q : ∀ l, WS B rest (E.set i (some (RR l))) (os ++ [(l, Dc B.X.K [])]) P)
    (hs : swapsWith (.Dict [] [] dpos) (some (.Name x pos')) pos.line B.X.env = pure false := by rfl) (hf : B.X.fn x = true ∨ B.X.env.scope.names.lookup x = some .local := by first | exact .inl rfl | exact .inr rfl | assumption) :
    WS B (.Assign [.Name x pos'] (.Dict [] [] dpos) pos :: rest) E os P :=
  ws_of (ps_set hN hi hx pe_dnewK hs hf) fun L D σ F H m r l1 => fun p hp => by
    have en := Ext.out r.o.fm.fh hp (.dK [])
    exact (q p).run L D _ F _ m ⟨r.o.grow en ((r.o.fm.fh.no hp)) hp upd_same ⟨[], rfl, .nil⟩, r.e.set RR.mo rfl⟩ l1
theorem ws_dput (j : Nat) (hu : B.X.A.units + 1 < cLine) (hr : GE B.X recv E (RR l)) (ho : os[j]? = some (l, Dc B.X.K kvs)) (hi : GE B.X ix E (DD B.X.K (dKey k))) (he : GE B.X e E (DD B.X.K d)) (hz : kvs.length < sizeLine) (q : WS B rest E (os.set j (l, Dc B.X.K (dput kvs k d))) P)
    (hs : swapsWith e (some (.Subscript recv ix pos')) pos.line B.X.env = pure false := by rfl) : WS B (.Assign [.Subscript recv ix pos'] e pos :: rest) E os P :=
  ws_of (ps_dput hu hr.pe hi.pe he.pe hs) fun L D σ F H m r l1 => ⟨F, r.e, r.o.fm.fh, fun v F1 H1 e1 hv => ⟨F1, r.e.mono e1.ff, e1.fh, fun u F2 H2 e2 hu => ⟨F2, (r.e.mono e1.ff).mono e2.ff, e2.fh, fun w F3 H3 e3 hw => by
    have eu : u = .ref l := hu
    subst eu
    cases dKey_inv hw
    have r3 := ((r.o.ext e1).ext e2).ext e3
    obtain ⟨f3, _, o3, h3, ks, rfl, d3⟩ := r3.ow _ (List.mem_of_getElem? ho)
    have f13 := Ex.tr e2.ff e3.ff
    exact ⟨l, _, rfl, DPut.k h3 (by rw [d3.len]; exact hz), q.run L D _ F3 _ m ⟨r3.write ho ⟨_, rfl, d3.put k (da_mono f13 _ _ hv)⟩, (r.e.mono e1.ff).mono f13⟩ (Ex.tr (Ex.tr l1 e1.ff) f13)⟩⟩⟩⟩
end
end Z
namespace Z
open PySem PySem.Spec PyProof.Rows L2
variable [Vo]
section
variable {α : Type} {enc : α → PyData} {xs : List α} {sl : List Nat}
theorem yd_map {K : PySem.W.Frag} {i : Nat} {x : α} (h : xs[i]? = some x) : YD K (xs.map enc) i = DD K (enc x) := YD.at (by rw [List.getElem?_map, h]; rfl)
def pick (f : α → Env' → Env') (xs : List α) (i : Nat) : Env' → Env' := match xs[i]? with
  | some x => f x
  | none => fun E => E
theorem pick_at {f : α → Env' → Env'} {i : Nat} {x : α} (h : xs[i]? = some x) : pick f xs i = f x := by unfold pick; rw [h]
theorem some_of_lt {i : Nat} (h : i < xs.length) : ∃ x, xs[i]? = some x := ⟨xs[i], by simp [h]⟩
theorem split_at {i : Nat} {x : α} (h : xs[i]? = some x) : xs = xs.take i ++ x :: xs.drop (i + 1) ∧ xs.take (i + 1) = xs.take i ++ [x] := by
  obtain ⟨hi, e⟩ := List.getElem?_eq_some_iff.mp h
  refine ⟨?_, ?_⟩
  · rw [← e, List.getElem_cons_drop, List.take_append_drop]
  · rw [List.take_succ, h]; rfl
section
variable {B : Bk} {E V : Env'} {os os' : OS} {P : DE} {st : Stmt} {rest body : List Stmt} {e tg iter : Expr} {pos : Pos} {f : α → Env' → Env'}
theorem ws_forL (hp : PassesOwn (model B.X.prog B.X.w) B.X.A B.X.env B.X.xe) (hc : B.X.calm = true) (hi : GIL B.X tg iter E (xs.map enc)) (hT : ∀ x, x ∈ xs → GT B.X tg (DD B.X.K (enc x)) sl (f x))
    (I : List α → Env' → OS → Prop) (h0 : I [] E os) (hs : ∀ pre x post E' os', xs = pre ++ x :: post → I pre E' os' → WS B body (f x E') os' { nx := I (pre ++ [x]), ct := I (pre ++ [x]), bk := fun E os => WS B rest E os P, rt := P.rt, xc := P.xc }) (hd : ∀ E' os', I xs E' os' → WS B rest E' os' P)
    (hs' : ∀ x, foldedSetIterable iter B.X.env x = pure x := by intro _; rfl) : WS B (.For tg iter body [] pos :: rest) E os P := by
  refine ws_for (f := pick f xs) (sl := sl) hp hc hi.gi (fun i hi' => ?_) (fun i => I (xs.take i)) (by rw [List.take_zero]; exact h0) (fun i E' os' hi' h => ?_) (fun E' os' h => hd E' os' (by
    have e : xs.take (xs.map enc).length = xs := by rw [List.length_map, List.take_length]
    rw [← e]; exact h)) hs'
  · rw [List.length_map] at hi'
    obtain ⟨x, hx⟩ := some_of_lt hi'
    rw [yd_map hx, pick_at hx]
    exact hT x (List.mem_of_getElem? hx)
  · rw [List.length_map] at hi'
    obtain ⟨x, hx⟩ := some_of_lt hi'
    obtain ⟨e1, e2⟩ := split_at hx
    rw [pick_at hx]
    have := hs (xs.take i) x (xs.drop (i + 1)) E' os' e1 h
    rw [← e2] at this
    exact this
end
section
variable {X : Cx} {tg iter elt c : Expr} {E : Env'} {pos : Pos} {scope : Scope} {own : List (Str × Nat)} {f : α → Env' → Env'} {b : α → Bool} {d : α → PyData}
theorem k_lc0 (hc : X.calm = true) (hN : X.N.Nodup) (hi : GIL X tg iter E (xs.map enc)) (ok : BlkOk X.N X.env.scope scope own)
    (hg : ∀ (s : Shared) (H : Hp) (C : Addr) (cl : List (Str × Addr)) (fp : List Addr) (x : α), x ∈ xs → GT (Blk X scope s H C cl fp) tg (DD X.K (enc x)) sl (f x)) (hsl : ∀ i, i ∈ sl → i ∈ own.map (·.2))
    (he : ∀ (s : Shared) (H : Hp) (C : Addr) (cl : List (Str × Addr)) (fp : List Addr) (x : α), x ∈ xs → GE (Blk X scope s H C cl fp) elt (f x (wipeE E (own.map (·.2)))) (DD X.K (d x)))
    (hz : xs.length < sizeLine) (hs : ∀ x, foldedSetIterable iter X.env x = pure x := by intro _; rfl) : LC X elt tg iter [] scope E (xs.map d) := by
  have g := k_lc (f := pick f xs) (sl := sl) (b := fun _ => true) (d := fun i => (xs[i]?.map d).getD .none) (out := fun i => (xs.take i).map d) (elt := elt) (ifs := []) hc hN hi.gi ok (fun s H C cl fp i hi' => ?_) hsl (fun s H C cl fp i hi' => ?_) (fun s H C cl fp i hi' _ => ?_) (by simp) (fun i hi' => ?_) (by rw [List.length_map]; exact hz) hs
  · rw [List.length_map, List.take_length] at g; exact g
  · rw [List.length_map] at hi'
    obtain ⟨x, hx⟩ := some_of_lt hi'
    rw [yd_map hx, pick_at hx]
    exact hg s H C cl fp x (List.mem_of_getElem? hx)
  · exact ⟨fun pins s' σ H Q I ⟨F, r, x, q⟩ => pts_nil.run pins s' σ H Q I (q F H (Ext.refl x))⟩
  · rw [List.length_map] at hi'
    obtain ⟨x, hx⟩ := some_of_lt hi'
    rw [pick_at hx, hx]
    exact he s H C cl fp x (List.mem_of_getElem? hx)
  · rw [List.length_map] at hi'
    obtain ⟨x, hx⟩ := some_of_lt hi'
    rw [(split_at hx).2, hx]
    simp
theorem n_lc0 (hc : X.calm = true) (hN : X.N.Nodup) (hi : GIL X tg iter E (xs.map enc)) (ok : BlkOk X.N X.env.scope scope own)
    (hg : ∀ (s : Shared) (H : Hp) (C : Addr) (cl : List (Str × Addr)) (fp : List Addr) (x : α), x ∈ xs → GT (Blk X scope s H C cl fp) tg (DD X.K (enc x)) sl (f x)) (hsl : ∀ i, i ∈ sl → i ∈ own.map (·.2))
    (he : ∀ (s : Shared) (H : Hp) (C : Addr) (cl : List (Str × Addr)) (fp : List Addr) (x : α), x ∈ xs → GE (Blk X scope s H C cl fp) elt (f x (wipeE E (own.map (·.2)))) (DD X.K (d x)))
    (hz : xs.length < sizeLine) (hs : ∀ x, foldedSetIterable iter X.env x = pure x := by intro _; rfl) : GEN X (.ListComp elt [⟨tg, iter, [], 0⟩] scope pos) E (xs.map d) := (k_lc0 hc hN hi ok hg hsl he hz hs).gen
theorem k_lc1 (hc : X.calm = true) (hN : X.N.Nodup) (hi : GIL X tg iter E (xs.map enc)) (ok : BlkOk X.N X.env.scope scope own)
    (hg : ∀ (s : Shared) (H : Hp) (C : Addr) (cl : List (Str × Addr)) (fp : List Addr) (x : α), x ∈ xs → GT (Blk X scope s H C cl fp) tg (DD X.K (enc x)) sl (f x)) (hsl : ∀ i, i ∈ sl → i ∈ own.map (·.2))
    (ht : ∀ (s : Shared) (H : Hp) (C : Addr) (cl : List (Str × Addr)) (fp : List Addr) (x : α), x ∈ xs → GB (Blk X scope s H C cl fp) c (f x (wipeE E (own.map (·.2)))) (b x))
    (he : ∀ (s : Shared) (H : Hp) (C : Addr) (cl : List (Str × Addr)) (fp : List Addr) (x : α), x ∈ xs → b x = true → GE (Blk X scope s H C cl fp) elt (f x (wipeE E (own.map (·.2)))) (DD X.K (d x)))
    (hz : xs.length < sizeLine) (hs : ∀ x, foldedSetIterable iter X.env x = pure x := by intro _; rfl) : LC X elt tg iter [c] scope E ((xs.filter b).map d) := by
  have g := k_lc (f := pick f xs) (sl := sl) (b := fun i => (xs[i]?.map b).getD false) (d := fun i => (xs[i]?.map d).getD .none) (out := fun i => outF b d (xs.take i)) (elt := elt) (ifs := [c]) hc hN hi.gi ok (fun s H C cl fp i hi' => ?_) hsl (fun s H C cl fp i hi' => ?_) (fun s H C cl fp i hi' hb => ?_) (by simp [outF]) (fun i hi' => ?_) (by rw [List.length_map]; exact hz) hs
  · rw [List.length_map, List.take_length] at g; exact g
  · rw [List.length_map] at hi'
    obtain ⟨x, hx⟩ := some_of_lt hi'
    rw [yd_map hx, pick_at hx]
    exact hg s H C cl fp x (List.mem_of_getElem? hx)
  · rw [List.length_map] at hi'
    obtain ⟨x, hx⟩ := some_of_lt hi'
    rw [pick_at hx, hx]
    exact pts_one (ht s H C cl fp x (List.mem_of_getElem? hx)).pt
  · rw [List.length_map] at hi'
    obtain ⟨x, hx⟩ := some_of_lt hi'
    have hb' : b x = true := by simpa [hx] using hb
    rw [pick_at hx, hx]
    exact he s H C cl fp x (List.mem_of_getElem? hx) hb'
  · rw [List.length_map] at hi'
    obtain ⟨x, hx⟩ := some_of_lt hi'
    rw [(split_at hx).2, outF_snoc, hx]
    simp
theorem n_lc1 (hc : X.calm = true) (hN : X.N.Nodup) (hi : GIL X tg iter E (xs.map enc)) (ok : BlkOk X.N X.env.scope scope own)
    (hg : ∀ (s : Shared) (H : Hp) (C : Addr) (cl : List (Str × Addr)) (fp : List Addr) (x : α), x ∈ xs → GT (Blk X scope s H C cl fp) tg (DD X.K (enc x)) sl (f x)) (hsl : ∀ i, i ∈ sl → i ∈ own.map (·.2))
    (ht : ∀ (s : Shared) (H : Hp) (C : Addr) (cl : List (Str × Addr)) (fp : List Addr) (x : α), x ∈ xs → GB (Blk X scope s H C cl fp) c (f x (wipeE E (own.map (·.2)))) (b x))
    (he : ∀ (s : Shared) (H : Hp) (C : Addr) (cl : List (Str × Addr)) (fp : List Addr) (x : α), x ∈ xs → b x = true → GE (Blk X scope s H C cl fp) elt (f x (wipeE E (own.map (·.2)))) (DD X.K (d x)))
    (hz : xs.length < sizeLine) (hs : ∀ x, foldedSetIterable iter X.env x = pure x := by intro _; rfl) : GEN X (.ListComp elt [⟨tg, iter, [c], 0⟩] scope pos) E ((xs.filter b).map d) := (k_lc1 hc hN hi ok hg hsl ht he hz hs).gen
end
end
theorem at_map {α : Type} {enc : α → PyData} {xs : List α} {i : Int} {n : Nat} {x : α} (h : xs[n]? = some x) (hi : i = (n : Int) := by rfl) : L2.atI (xs.map enc) i = some (enc x) := by
  subst hi
  exact atI_nat (by rw [List.getElem?_map, h]; rfl)
theorem at_nat {ds : List PyData} {i : Int} {n : Nat} {d : PyData} (h : ds[n]? = some d) (hi : i = (n : Int) := by rfl) : L2.atI ds i = some d := by
  subst hi
  exact atI_nat h
theorem get_lt {α : Type} [Inhabited α] {xs : List α} {n : Nat} (h : n < xs.length) : xs[n]? = some (xs.getD n default) := by
  rw [List.getElem?_eq_getElem h, List.getD_eq_getElem?_getD, List.getElem?_eq_getElem h]; rfl
theorem at_int {α : Type} [Inhabited α] {enc : α → PyData} {xs : List α} {i : Int} (h0 : 0 ≤ i) (h1 : i < xs.length) : L2.atI (xs.map enc) i = some (enc (xs.getD i.toNat default)) := at_map (n := i.toNat) (get_lt (by omega)) (by omega)
end Z
namespace Z
open PySem PySem.Spec PyProof.Rows L2
variable [Vo]
def spG (K : PySem.W.Frag) (q : List RP → PyData → Prop) : Sp := fun vs H Q _ => ∃ F Rs d, Fh F H ∧ All2 F Rs vs ∧ q Rs d ∧ ∀ v F' H', Ext F H F' H' → Da K F' v d → Q v H'
def spN (K : PySem.W.Frag) (q : List RP → List PyData → Prop) : Sp := fun vs H Q _ => ∃ F Rs ds, Fh F H ∧ All2 F Rs vs ∧ q Rs ds ∧ ∀ p vs F' H', Ext F H F' H' → F' p = none → H p = none → H' p = some (.lst vs) → DaAll K F' vs ds → Q (.ref p) H'
section
variable {X : Cx} {E : Env'} {R Ra Rb : RP} {a b c e o : Expr} {es : List Expr} {pos p apos cpos : Pos} {i j : Int} {s t : Str} {d d2 : PyData} {ds ds2 : List PyData} {x : Str} {Rs : List RP}
theorem g_callG {k : Nat} {ps : List Str} {q : List RP → PyData → Prop} (C : FnD X.prog X.w X.K X.mg X.base k x ps (spG X.K q)) (hr : Room k X.A) (ha : GA X (e :: es) E Rs) (hq : q Rs d) (hg : Gl X x := by rfl) (hdb : (x == ("__debug__" : Str)) = false := by decide)
    (he : starEach (e :: es) X.env = (false, eval e X.env) :: starEach es X.env := by rfl) (hpl : (backTo pos (starEach es X.env)).any (·.1) = false := by rfl) : GE X (.Call (.Name x p) (e :: es) [] pos) E (DD X.K d) := by
  obtain ⟨f, fd, hm, hk, hb, F⟩ := C.ex
  exact ⟨pe_imp (pe_call F hr hg hm hk hb .nil (pass0 (X := X)) ha.pa hdb he hpl) fun σ H Q ⟨F, r, x, k⟩ => ⟨F, r, x, fun vs F1 H1 e1 r1 => ⟨F1, Rs, d, e1.fh, by rw [List.append_nil]; exact r1, hq, fun v F2 H2 e2 r2 => k v F2 H2 (e1.trans e2) r2⟩⟩, DD.mo⟩
theorem n_callN {k : Nat} {ps : List Str} {q : List RP → List PyData → Prop} (C : FnD X.prog X.w X.K X.mg X.base k x ps (spN X.K q)) (hr : Room k X.A) (ha : GA X (e :: es) E Rs) (hq : q Rs ds) (hg : Gl X x := by rfl) (hdb : (x == ("__debug__" : Str)) = false := by decide)
    (he : starEach (e :: es) X.env = (false, eval e X.env) :: starEach es X.env := by rfl) (hpl : (backTo pos (starEach es X.env)).any (·.1) = false := by rfl) : GEN X (.Call (.Name x p) (e :: es) [] pos) E ds := by
  obtain ⟨f, fd, hm, hk, hb, F⟩ := C.ex
  exact ⟨pe_imp (pe_call F hr hg hm hk hb .nil (pass0 (X := X)) ha.pa hdb he hpl) fun σ H Q ⟨F, r, x, k⟩ => ⟨F, r, x, fun vs F1 H1 e1 r1 => ⟨F1, Rs, ds, e1.fh, by rw [List.append_nil]; exact r1, hq, fun l us F2 H2 e2 n1 n2 h3 h4 => k l us F2 H2 (e1.trans e2) n1 (e1.hno n2) h3 h4⟩⟩⟩
end
def entG (n : Nat) (Rs : List RP) : Env' := Rs.map some ++ List.replicate (n - Rs.length) none
theorem All2.get {F : Hp} : ∀ {Rs : List RP} {vs : List V} {i : Nat} {R : RP}, All2 F Rs vs → Rs[i]? = some R → Mono R ∧ ∃ v, vs[i]? = some v ∧ R F v
  | _, _, _, _, .nil, h => by simp at h
  | _, _, 0, _, .cons m h _, q => by simp at q; subst q; exact ⟨m, _, rfl, h⟩
  | _, _, n + 1, _, .cons _ _ t, q => by
    obtain ⟨m, v, h1, h2⟩ := All2.get (i := n) t (by simpa using q)
    exact ⟨m, v, by simpa using h1, h2⟩
theorem rep_startG {N : List Str} {F : Hp} {vs : List V} {Rs : List RP} (h : All2 F Rs vs) : RepE (entG N.length Rs) (L2.start N vs) F := by
  refine ⟨fun i R q => ?_, ?_⟩
  · unfold entG at q
    rw [List.getElem?_append] at q
    split at q
    · rename_i hi
      rw [List.length_map] at hi
      rw [List.getElem?_map] at q
      cases hd : Rs[i]? with
      | none => rw [hd] at q; cases q
      | some d =>
        rw [hd] at q
        have e : d = R := by simpa using q
        subst e
        obtain ⟨m, v, hv, hq⟩ := h.get hd
        refine ⟨m, v, ?_, hq⟩
        unfold L2.start
        rw [List.getElem?_append_left (by rw [List.length_map, h.len]; exact hi), List.getElem?_map, hv]
        rfl
    · rw [List.getElem?_replicate] at q
      split at q <;> simp at q
  · unfold L2.start entG
    simp [h.len]
section
variable {P : Program} {w : World} {K : PySem.W.Frag} {mg : Str → Option Value} {base : Heap}
theorem fn_G {x qual : Str} {st : Stmt} {f : Addr} {fd : FuncData} {N ps : List Str} {k : Nat} {q : List RP → PyData → Prop} (F : Fun K x qual st f fd) (S : FnScope N ps (defScope st)) (len : ∀ Rs d, q Rs d → Rs.length = ps.length)
    (hb : ∀ (cdv : Value) (A : Around) (outer : List Env) (s : Shared) (H F0 : Hp) (E : XK), Room k (cxN P w K mg base N qual st f cdv A outer s H E).A → ∀ Rs d, q Rs d → WS ⟨cxN P w K mg base N qual st f cdv A outer s H E, F0, H, [], WN⟩ (defBody st) (entG N.length Rs) [] (Rts K d)) :
    FnOk P w K mg base CX0 (k + 1) f fd ps (spG K q) := by
  refine F.ok S (fun vs H Q E ⟨F, Rs, d, _, h, hq, _⟩ => h.len.trans (len Rs d hq)) (fun cdv A outer s H vs Q E hr ⟨F0, Rs, d, ex, h, hq, kk⟩ => ⟨_, w_can, ?_⟩)
  refine (hb cdv A outer s H F0 E hr Rs d hq).run F0 _ (L2.start N vs) F0 H ⟨fun E' os σ F' H' e r l => ?_, fun R os v F' H' e r l hv => ?_, fun E' os σ F' H' z => z.elim, fun E' os σ F' H' z => z.elim, fun _ _ _ _ _ _ _ _ z => z.elim⟩ ⟨⟨⟨fun _ _ q => q, ex, fun a o _ _ q => q, fun a o q _ => q, fun a q => nomatch q⟩, List.nodup_nil, fun p hp => nomatch hp⟩, rep_startG h⟩ (fun _ _ q => q)
  · have e' : d = .none := e
    subst e'
    exact kk _ F' H' ⟨r.o.fm.ff, r.o.fm.fh, fun a o n q => r.o.fm.hh a o (by simp) n q, r.o.fm.nf⟩ .non
  · exact kk v F' H' ⟨r.fm.ff, r.fm.fh, fun a o n q => r.fm.hh a o (by simp) n q, r.fm.nf⟩ (e F' v hv)
def RtsN (K : PySem.W.Frag) (ds : List PyData) : DE := { nx := fun _ _ => False, rt := fun R os => ∃ l, (∀ F v, R F v → v = .ref l) ∧ (l, Ls K ds) ∈ os }
theorem fn_N {x qual : Str} {st : Stmt} {f : Addr} {fd : FuncData} {N ps : List Str} {k : Nat} {q : List RP → List PyData → Prop} (F : Fun K x qual st f fd) (S : FnScope N ps (defScope st)) (len : ∀ Rs d, q Rs d → Rs.length = ps.length)
    (hb : ∀ (cdv : Value) (A : Around) (outer : List Env) (s : Shared) (H F0 : Hp) (E : XK), Room k (cxN P w K mg base N qual st f cdv A outer s H E).A → ∀ Rs ds, q Rs ds → WS ⟨cxN P w K mg base N qual st f cdv A outer s H E, F0, H, [], WN⟩ (defBody st) (entG N.length Rs) [] (RtsN K ds)) :
    FnOk P w K mg base CX0 (k + 1) f fd ps (spN K q) := by
  refine F.ok S (fun vs H Q E ⟨F, Rs, d, _, h, hq, _⟩ => h.len.trans (len Rs d hq)) (fun cdv A outer s H vs Q E hr ⟨F0, Rs, d, ex, h, hq, kk⟩ => ⟨_, w_can, ?_⟩)
  refine (hb cdv A outer s H F0 E hr Rs d hq).run F0 _ (L2.start N vs) F0 H ⟨fun E' os σ F' H' e r l => e.elim, fun R os v F' H' ⟨l, e1, e2⟩ r l' hv => ?_, fun E' os σ F' H' z => z.elim, fun E' os σ F' H' z => z.elim, fun _ _ _ _ _ _ _ _ z => z.elim⟩ ⟨⟨⟨fun _ _ q => q, ex, fun a o _ _ q => q, fun a o q _ => q, fun a q => nomatch q⟩, List.nodup_nil, fun p hp => nomatch hp⟩, rep_startG h⟩ (fun _ _ q => q)
  cases e1 F' v hv
  obtain ⟨f1, g1, o1, h1, us, rfl, d1⟩ := r.ow _ e2
  refine kk l us F' H' ⟨r.fm.ff, r.fm.fh, fun a o n q => r.fm.hh a o (by simp) n q, r.fm.nf⟩ f1 ?_ h1 d1
  rcases g1 with g1 | g1
  · exact g1
  · cases g1
end
def ScR (K : PySem.W.Frag) (ns : List Int) : RP := fun F v => ∃ a, v = .ref a ∧ SqL K F a (ns.map V.int)
theorem ScR.mo {K : PySem.W.Frag} {ns : List Int} : Mono (ScR K ns) := fun _ _ _ e ⟨a, h1, h2⟩ => ⟨a, h1, ex_l e h2⟩
section
variable {X : Cx} {E : Env'} {a b e : Expr} {pos p : Pos} {i : Int} {ns : List Int}
theorem g_ixSc (ha : GE X a E (ScR X.K ns)) (hb : GE X b E (DD X.K (.int i))) {n : Int} (hi : L2.atI ns i = some n) (hs : PlainIx b := by intro _ _; rfl) : GE X (.Subscript a b pos) E (DD X.K (.int n)) :=
  g_op (fun _ _ h1 h2 => pe_ix ix_list h1 h2 hs) ha hb DD.mo fun F H x y Q hx hy e k => by
    obtain ⟨p, rfl, h1⟩ := hx
    cases DD.int_inv hy
    refine ⟨p, _, i, .int n, rfl, rfl, fh_l e h1, ?_, k _ F H (Ext.refl e) (.int _)⟩
    unfold L2.atI at hi ⊢
    rw [List.length_map]
    cases hx : ixN ns.length i with
    | none => rw [hx] at hi; cases hi
    | some m =>
      rw [hx] at hi
      show (ns.map V.int)[m]? = some (V.int n)
      have hi' : ns[m]? = some n := hi
      rw [List.getElem?_map, hi']; rfl
theorem g_lenSc (B : Bn X.mg) (ha : GE X e E (ScR X.K ns)) (hg : Gl X "len" := by rfl) (he : starEach [e] X.env = (false, eval e X.env) :: starEach [] X.env := by rfl) (hpl : (backTo pos (starEach [] X.env)).any (·.1) = false := by rfl) : GE X (.Call (.Name "len" p) [e] [] pos) E (DD X.K (.int ns.length)) :=
  ⟨pe_imp (pe_callB call_len_seq hg B.len PySem.boot_len (ga_cons ha ga_nil he).pa (by decide) (by decide) he hpl) fun σ H Q ⟨F, r, x, k⟩ => ⟨F, r, x, fun vs F1 H1 e1 r1 => by
    cases r1 with
    | cons m h t =>
    cases t
    obtain ⟨q, rfl, h1⟩ := h
    exact ⟨q, _, rfl, .inl (fh_l e1.fh h1), by rw [List.length_map]; exact k _ F1 H1 e1 (.int _)⟩⟩, DD.mo⟩
end
end Z
namespace Z
open PySem PySem.Spec PyProof.Rows L2
variable [Vo]
section
variable {X : Cx} {E : Env'} {R : RP} {a b c e o tg iter elt : Expr} {es : List Expr} {pos p apos cpos : Pos} {i j : Int} {d d2 : PyData} {ds ds2 : List PyData} {x : Str} {n : Nat} {l : List Nat}
theorem l_rangeN (B : Bn X.mg) (h : GE X e E (DD X.K (.int (n : Nat)))) (h1 : n < 2 ^ 62) (hg : Gl X "range" := by rfl) (hs : starEach [e] X.env = [(false, eval e X.env)] := by rfl) : GIL X tg (.Call (.Name "range" p) [e] [] pos) E ((List.range n).map fun k => .int (k : Nat)) := by
  have g := l_range1 (tg := tg) (pos := pos) (p := p) B h ⟨by omega, by omega⟩ hg hs
  rw [Int.toNat_natCast] at g
  exact g
theorem l_range2N {m : Nat} (B : Bn X.mg) (ha : GE X a E (DD X.K (.int (m : Nat)))) (hb : GE X b E (DD X.K (.int (n : Nat)))) (h1 : m < 2 ^ 62 ∧ n < 2 ^ 62) (hg : Gl X "range" := by rfl) (hs : starEach [a, b] X.env = [(false, eval a X.env), (false, eval b X.env)] := by rfl) (hs2 : starEach [b] X.env = [(false, eval b X.env)] := by rfl) :
    GIL X tg (.Call (.Name "range" p) [a, b] [] pos) E ((List.range' m (n - m)).map fun k => .int (k : Nat)) := by
  have g := l_range2 (tg := tg) (pos := pos) (p := p) B ha hb ⟨by omega, by omega, by omega, by omega⟩ hg hs hs2
  refine g.is ?_
  rw [List.range'_eq_map_range, List.map_map]
  have e1 : (((n : Nat) : Int) - ((m : Nat) : Int)).toNat = n - m := by omega
  rw [e1]
  exact List.map_congr_left fun k _ => by simp
theorem n_nil : GEN X (.List [] pos) E [] := n_lst gad_nil
theorem n_listS (B : Bn X.mg) (hc : ∀ l : List Nat, CallR X (.type "list") (fun vs H Q => vs = [.str (mk l)] ∧ ∀ q, H q = none → Q (.ref q) (upd H q (.lst (l.map fun c => V.str (mk [c])))))) (ha : GE X e E (DD X.K (.str (mk l)))) (hg : Gl X "list" := by rfl) (he : starEach [e] X.env = (false, eval e X.env) :: starEach [] X.env := by rfl) (hpl : (backTo pos (starEach [] X.env)).any (·.1) = false := by rfl) :
    GEN X (.Call (.Name "list" p) [e] [] pos) E (l.map fun c => .str (mk [c])) :=
  ⟨pe_imp (pe_callTy (hc l) hg B.list (by decide +kernel) (gad_cons ha gad_nil he).pa (by decide) (by decide) he hpl) fun σ H Q ⟨F, r, x, q⟩ => ⟨F, r, x, fun vs F' H' e1 r1 => by
    obtain ⟨v, rfl, hd⟩ := dpa1 r1
    cases DD.str_inv hd
    refine ⟨rfl, fun t ht => q t _ F' _ (e1.trans (Ext.out e1.fh ht _)) (e1.fh.no ht) (e1.hno ht) upd_same ?_⟩
    have := dpa_of_strs (K := X.K) (F := F') (l.map fun c => mk [c])
    rw [List.map_map, List.map_map] at this
    exact this⟩⟩
end
end Z
namespace Z
open PySem PySem.Spec PyProof.Rows L2
variable [Vo]
theorem vals_of_get : ∀ {xs : List V} {us : List Value}, xs.length = us.length → (∀ (j : Nat) (x : V) (u : Value), xs[j]? = some x → us[j]? = some u → RelV x u) → Vals xs us
  | [], [], _, _ => .nil
  | x :: xs, u :: us, h, q => .cons (q 0 x u rfl rfl) (vals_of_get (by simpa using h) fun j x u h1 h2 => q (j + 1) x u (by simpa using h1) (by simpa using h2))
  | [], _ :: _, h, _ => by simp at h
  | _ :: _, [], h, _ => by simp at h
theorem call_listS {X : Cx} {l : List Nat} (hc : X.calm = true) (hl : l.length ≤ 100000) : CallR X (.type "list") (fun vs H Q => vs = [.str (mk l)] ∧ ∀ q, H q = none → Q (.ref q) (upd H q (.lst (l.map fun c => V.str (mk [c]))))) := by
  intro pins s σ H xs us Q I r h
  obtain ⟨rfl, q⟩ := h
  obtain ⟨u, rfl, rx⟩ := vals1 r
  obtain ⟨t, rfl⟩ := rx
  have sz : (mk l).cps.size = l.length := by simp
  refine PySem.call_list_str (I.ok.hd hc) (mk l) t (fun h' tk acc' c' kp e hi => ?_) (by rw [sz]; exact Nat.le_trans hl (by decide))
  refine ⟨.ref s.heap.objs.size, _, I.laid (t' := tk) kp (Nat.le_refl _) (show ObjOk X.prog X.w _ h' _ (.lst (l.map fun c => V.str (mk [c]))) from ⟨by rw [List.length_map]; exact Nat.le_trans hl (by decide), acc'.toList, c', ?_, by simpa using e⟩), rfl, q _ (I.hok.fresh (Nat.le_refl _))⟩
  refine vals_of_get ?_ fun j x u h1 h2 => ?_
  · have e1 : acc'.toList.length = acc'.size := Array.length_toList
    rw [List.length_map, e1, hi.1, sz]
  · obtain ⟨c, k, hc, rfl⟩ := hi.2 j u (by simpa using h2)
    rw [List.getElem?_map] at h1
    have hc' : l[j]? = some c := by simpa using hc
    rw [hc'] at h1
    cases h1
    exact ⟨k, rfl⟩
theorem DaAll.erase {K : PySem.W.Frag} {F : Hp} : ∀ {vs : List V} {ds : List PyData} (n : Nat), DaAll K F vs ds → DaAll K F (vs.eraseIdx n) (ds.eraseIdx n)
  | _, _, _, .nil => .nil
  | _, _, 0, .cons _ t => t
  | _, _, n + 1, .cons h t => .cons h (DaAll.erase n t)
section
variable {X : Cx} {E : Env'} {e : Expr} {p pos : Pos} {l : List Nat}
theorem n_listM (hc : X.calm = true) (B : Bn X.mg) (ha : GE X e E (DD X.K (.str (mk l)))) (hl : l.length ≤ 100000) (hg : Gl X "list" := by rfl) (he : starEach [e] X.env = (false, eval e X.env) :: starEach [] X.env := by rfl) (hpl : (backTo pos (starEach [] X.env)).any (·.1) = false := by rfl) :
    GEN X (.Call (.Name "list" p) [e] [] pos) E (l.map fun c => .str (mk [c])) :=
  ⟨pe_imp (pe_callTy (call_listS hc hl) hg B.list (by decide +kernel) (gad_cons ha gad_nil he).pa (by decide) (by decide) he hpl) fun σ H Q ⟨F, r, x, q⟩ => ⟨F, r, x, fun vs F' H' e1 r1 => by
    obtain ⟨v, rfl, hd⟩ := dpa1 r1
    cases DD.str_inv hd
    refine ⟨rfl, fun t ht => q t _ F' _ (e1.trans (Ext.out e1.fh ht _)) (e1.fh.no ht) (e1.hno ht) upd_same ?_⟩
    have := dpa_of_strs (K := X.K) (F := F') (l.map fun c => mk [c])
    rw [List.map_map, List.map_map] at this
    exact this⟩⟩
end
section
variable {B : Bk} {E V : Env'} {os os' : OS} {P : DE} {rest : List Stmt} {e recv recv2 ix : Expr} {pos apos cpos apos2 cpos2 tpos : Pos} {fs : List Addr} {l l2 : Addr} {ds ds2 : List PyData} {d d2 : PyData} {j j2 n : Nat} {i : Int} {kt : Nat}
theorem ws_appPop (j j2 : Nat) (hr : GE B.X recv E (RR l)) (hr2 : GE B.X recv2 E (RR l2)) (ho : os[j]? = some (l, Ls B.X.K ds)) (ho2 : os[j2]? = some (l2, Ls B.X.K ds2)) (hv : Vw os fs E V) (hi : GE B.X ix V (DD B.X.K (.int i))) (hne : j ≠ j2) (hn : i = (n : Int)) (hnb : n < 2 ^ 62) (hd : ds2[n]? = some d2)
    (he : GE B.X e E (DD B.X.K d)) (hz : ds.length < sizeLine) (k : WS B rest E ((os.set j2 (l2, Ls B.X.K (ds2.eraseIdx n))).set j (l, Ls B.X.K (ds ++ [.tuple [d2, d]]))) P)
    (hp : ∀ {to : TE} {t : TA}, PE B.X recv to → PA B.X [.Tuple [.Call (.Attribute recv2 "pop" apos2) [ix] [] cpos2, e] kt tpos] t → PE B.X (.Call (.Attribute recv "append" apos) [.Tuple [.Call (.Attribute recv2 "pop" apos2) [ix] [] cpos2, e] kt tpos] [] cpos) (tBM B.X.K "list" rAppend to t) := by intro _ _ h1 h2; exact pe_bm PySem.F.plainAttrs_list PySem.F.slot_list_append PySem.F.type_list_append mt_append h1 h2)
    (hp2 : ∀ {to : TE} {t : TA}, PE B.X recv2 to → PA B.X [ix] t → PE B.X (.Call (.Attribute recv2 "pop" apos2) [ix] [] cpos2) (tBM B.X.K "list" rPopAt to t) := by intro _ _ h1 h2; exact pe_bm PySem.F.plainAttrs_list PySem.F.slot_list_pop PySem.F.type_list_pop mt_popAt h1 h2)
    (hs1 : starEach [ix] B.X.env = (false, eval ix B.X.env) :: starEach [] B.X.env := by rfl) (hs2 : starEach [e] B.X.env = (false, eval e B.X.env) :: starEach [] B.X.env := by rfl)
    (hs3 : starEach [.Call (.Attribute recv2 "pop" apos2) [ix] [] cpos2, e] B.X.env = (false, eval (.Call (.Attribute recv2 "pop" apos2) [ix] [] cpos2) B.X.env) :: starEach [e] B.X.env := by rfl)
    (hs4 : starEach [.Tuple [.Call (.Attribute recv2 "pop" apos2) [ix] [] cpos2, e] kt tpos] B.X.env = (false, eval (.Tuple [.Call (.Attribute recv2 "pop" apos2) [ix] [] cpos2, e] kt tpos) B.X.env) :: starEach [] B.X.env := by rfl)
    (hs : swapsWith (.Call (.Attribute recv "append" apos) [.Tuple [.Call (.Attribute recv2 "pop" apos2) [ix] [] cpos2, e] kt tpos] [] cpos) none pos.line B.X.env = pure false := by rfl) :
    WS B (.Expr (.Call (.Attribute recv "append" apos) [.Tuple [.Call (.Attribute recv2 "pop" apos2) [ix] [] cpos2, e] kt tpos] [] cpos) pos :: rest) E os P :=
  ws_of (ps_expr (hp hr.pe (pa_cons (pe_tup (pa_cons (hp2 hr2.pe (pa_cons hi.pe pa_nil hs1)) (pa_cons he.pe pa_nil hs2) hs3)) pa_nil hs4)) hs) fun L D σ F H m r l1 => ⟨F, r.e, r.o.fm.fh, fun v F1 H1 e1 hv1 => by
    have ev : v = .ref l := hv1
    subst ev
    have r1 := r.ext e1
    obtain ⟨_, _, o1, h1, vs, rfl, d1⟩ := r1.o.ow _ (List.mem_of_getElem? ho)
    refine ⟨.inl ⟨rfl, vs, SqL.of h1⟩, ?_⟩
    refine ⟨F1, r1.e, r1.o.fm.fh, fun v2 F2 H2 e2 hv2 => ?_⟩
    have ev2 : v2 = .ref l2 := hv2
    subst ev2
    have r2 := r1.ext e2
    obtain ⟨f2, _, o2, h2, us, rfl, dd2⟩ := r2.o.ow _ (List.mem_of_getElem? ho2)
    refine ⟨.inl ⟨rfl, us, SqL.of h2⟩, ?_⟩
    refine ⟨_, hv.rep r2, hv.fh r2, fun w F3 H3 e3 hw => ?_⟩
    cases DD.int_inv hw
    obtain ⟨Fb, u3⟩ : ∃ Fb, Ext F2 H2 Fb H3 := ⟨_, ext_unfrz (hv.fsok r2) r2.o.fm.fh e3⟩
    have r3 : RepS B E os σ Fb H3 := r2.ext u3
    have h3 : H3 l2 = some (.lst us) := u3.h0 f2 h2
    have dd2 := daAll_mono u3.ff _ _ dd2
    obtain ⟨y, hy, hda⟩ := dd2.get hd
    have hlen : n < us.length := (List.getElem?_eq_some_iff.mp hy).1
    subst hn
    refine ⟨l2, us, (n : Int), n, y, rfl, rfl, h3, by omega, by omega, (ixN_seq (show ixN us.length (n : Int) = some n by unfold ixN; rw [if_pos (by omega), if_pos (by omega)]; simp)).1, hy, ?_⟩
    have r4 : RepS B E (os.set j2 (l2, Ls B.X.K (ds2.eraseIdx n))) σ Fb (upd H3 l2 (.lst (us.eraseIdx n))) := ⟨r3.o.write ho2 ⟨_, rfl, dd2.erase n⟩, r3.e⟩
    refine ⟨Fb, r4.e, r4.o.fm.fh, fun z F5 H5 e5 hz5 => ?_⟩
    have r5 := r4.ext e5
    refine ⟨by show 2 ≤ sizeLine; decide, fun p hp => ?_⟩
    have en := Ext.new r5.o.fm.fh hp (.tup [y, z])
    have r6 := r5.ext en
    have ho' : (os.set j2 (l2, Ls B.X.K (ds2.eraseIdx n)))[j]? = some (l, Ls B.X.K ds) := by rw [List.getElem?_set_ne (Ne.symm hne)]; exact ho
    obtain ⟨_, _, o6, h6, ws, rfl, d6⟩ := r6.o.ow _ (List.mem_of_getElem? ho')
    refine ⟨l, ws, .ref p, rfl, rfl, h6, by rw [d6.len]; exact hz, ?_⟩
    have f26 := Ex.tr e5.ff en.ff
    exact k.run L D _ _ _ m ⟨r6.o.write ho' ⟨_, rfl, d6.append (.cons (.tup (SqT.of upd_same) (.cons (da_mono f26 _ _ hda) (.cons (da_mono en.ff _ _ hz5) .nil))) .nil)⟩, r6.e⟩ (Ex.tr (Ex.tr (Ex.tr (Ex.tr l1 e1.ff) e2.ff) u3.ff) f26)⟩
end
theorem Vw.one {os : OS} {E : Env'} {l : Addr} {o : OV} (i j : Nat) (ho : os[j]? = some (l, o) := by rfl) (hE : E[i]? = some (some (RR l)) := by rfl) : Vw os [l] E (E.set i (some o.fz)) := ⟨fun k R q => by
  rw [List.getElem?_set] at q
  by_cases hk : i = k
  · subst hk
    obtain ⟨hi, _⟩ := List.getElem?_eq_some_iff.mp hE
    rw [if_pos rfl, if_pos hi] at q
    have e : o.fz = R := by simpa using q
    exact Or.inr ⟨l, o, by simp, List.mem_of_getElem? ho, hE, e.symm⟩
  · rw [if_neg hk] at q
    exact Or.inl q, by rw [List.length_set], fun a ha => ⟨o, by rw [List.mem_singleton.mp ha]; exact List.mem_of_getElem? ho⟩⟩
theorem Vw.two {os : OS} {E : Env'} {l l2 : Addr} {o o2 : OV} (i j i2 j2 : Nat) (hi : i ≠ i2 := by decide) (ho : os[j]? = some (l, o) := by rfl) (hE : E[i]? = some (some (RR l)) := by rfl) (ho2 : os[j2]? = some (l2, o2) := by rfl) (hE2 : E[i2]? = some (some (RR l2)) := by rfl) : Vw os [l, l2] E ((E.set i (some o.fz)).set i2 (some o2.fz)) := ⟨fun k R q => by
  rw [List.getElem?_set] at q
  by_cases hk : i2 = k
  · subst hk
    obtain ⟨hb, _⟩ := List.getElem?_eq_some_iff.mp hE2
    rw [if_pos rfl, if_pos (by rw [List.length_set]; exact hb)] at q
    have e : o2.fz = R := by simpa using q
    exact Or.inr ⟨l2, o2, by simp, List.mem_of_getElem? ho2, hE2, e.symm⟩
  · rw [if_neg hk, List.getElem?_set] at q
    by_cases hk1 : i = k
    · subst hk1
      obtain ⟨hb, _⟩ := List.getElem?_eq_some_iff.mp hE
      rw [if_pos rfl, if_pos hb] at q
      have e : o.fz = R := by simpa using q
      exact Or.inr ⟨l, o, by simp, List.mem_of_getElem? ho, hE, e.symm⟩
    · rw [if_neg hk1] at q
      exact Or.inl q, by rw [List.length_set, List.length_set], fun a ha => by
  rcases List.mem_cons.mp ha with rfl | ha
  · exact ⟨o, List.mem_of_getElem? ho⟩
  · rw [List.mem_singleton.mp ha]; exact ⟨o2, List.mem_of_getElem? ho2⟩⟩
theorem joinL_one {α : Type} (f : α → Nat) : ∀ xs : List α, TL.joinL [] (xs.map fun x => [f x]) = xs.map f
  | [] => rfl
  | [x] => rfl
  | x :: y :: r => by
    show [f x] ++ ([] ++ TL.joinL [] ((y :: r).map fun x => [f x])) = _
    rw [joinL_one f (y :: r)]; rfl
end Z
namespace Z
open PySem PySem.Spec PyProof.Rows L2
variable [Vo]
def IteS (K : PySem.W.Frag) (z : Str) : It :=
  ⟨fun i _ => i < z.cps.size, fun i H v H' => ∃ T c, v = .ref T ∧ H T = none ∧ H' = upd H T (.tup [.int (i : Nat), .str ⟨#[c]⟩]) ∧ z.cps[i]? = some c, fun i _ => z.cps.size ≤ i⟩
theorem turn_enumS {P : Program} {w : World} {K : PySem.W.Frag} {elts : List Expr} {kk : Nat} {tpos : Pos} (z : Str) (t : Tok) (e it : Addr) :
    Turn P w K (.Tuple elts kk tpos) (IteS K z) [e, it] e (fun i h => (∃ old, IsEnum h e it ((i : Nat) : Int) old) ∧ h.IsStrIter it (strIterType z) z t i ∧ e ≠ it) where
  mem := by simp
  obj := fun i h st b hb => by
    obtain ⟨⟨old, he⟩, ⟨o, ho, hc, hd⟩, _⟩ := st
    have e' : b = e ∨ b = it := by simpa using hb
    rcases e' with z | z
    · rw [z]; exact ⟨_, he, fun v q => nomatch q⟩
    · rw [z]; exact ⟨o, ho, fun v q => by rw [hd] at q; cases q⟩
  keep := fun i h h' st k => let ⟨⟨old, he⟩, ⟨o, ho, r⟩, hne⟩ := st; ⟨⟨old, k e (by simp) _ he⟩, ⟨o, k it (by simp) o ho, r⟩, hne⟩
  item := by
    intro X hP hw hK hc i pins s σ H E I hf st hg
    subst hP hw hK
    obtain ⟨⟨old, he⟩, hit, hne⟩ := st
    have hel : e < s.heap.objs.size := Heap.lt_size he
    have hil : it < s.heap.objs.size := by obtain ⟨_, q, _⟩ := hit; exact Heap.lt_size q
    refine wpAny_pyNext_enum_itemD (Draws.text (A := X.A.in1) (I.ok.hd hc) it z t) he hit hg hne (by simp [hne]) fun x h' tk hP ho hit' hT hsz hk => ?_
    obtain ⟨c, u, hc1, hx⟩ := hP
    subst hx
    refine ⟨_, rfl, wpAny_letOwnedTupleGo_enum (s := { s with heap := h', toks := tk + 1 }) ho fun h'' he' sb => ?_⟩
    have hT2 : h''.get? s.heap.objs.size = some { cls := .type "tuple", data := .seq #[.int i tk, .str ⟨#[c]⟩ u] } := (sb.2 _ (Nat.ne_of_gt hel)).trans hT
    have new : ObjOk X.prog X.w (upd H s.heap.objs.size (.tup [.int (i : Nat), .str ⟨#[c]⟩])) h'' s.heap.objs.size (.tup [.int (i : Nat), .str ⟨#[c]⟩]) :=
      ⟨by show 2 ≤ sizeLine; decide, [.int i tk, .str ⟨#[c]⟩ u], .cons ⟨_, rfl⟩ (.cons ⟨_, rfl⟩ .nil), ⟨_, hT2, rfl, _, rfl⟩⟩
    have I1 : Inv X pins σ (upd H s.heap.objs.size (.tup [.int (i : Nat), .str ⟨#[c]⟩])) { s with heap := h'', toks := tk + 1 } :=
      I.turnedNew (ch := [e, it]) (fun b ob hb q => (sb.2 b (fun z => hb (by simp [z]))).trans (hk b ob (fun z => hb (by simp [z])) (fun z => hb (by simp [z])) q)) hf (Nat.le_refl _) new
    have hit2 : h''.IsStrIter it (strIterType z) z t (i + 1) := by
      obtain ⟨o, q, r⟩ := hit'
      exact ⟨o, (sb.2 it (Ne.symm hne)).trans q, r⟩
    refine ⟨.ref s.heap.objs.size, _, I1, rfl, ⟨_, c, rfl, I.hok.fresh (Nat.le_refl _), rfl, hc1⟩, ⟨⟨.str ⟨#[c]⟩ u, ?_⟩, hit2, hne⟩, fun b hb => ?_⟩
    · have e1 : ((i + 1 : Nat) : Int) = (i : Int) + 1 := by omega
      rw [e1]; exact he'
    · have hb' : b < s.heap.objs.size := by
        have e' : b = e ∨ b = it := by simpa using hb
        rcases e' with z | z
        · rw [z]; exact hel
        · rw [z]; exact hil
      rw [upd_ne (Nat.ne_of_lt hb')]
      exact (hf b hb).1
  done := by
    intro X hP hw hK hc i pins s σ H E I hf st hg
    subst hP hw hK
    obtain ⟨⟨old, he⟩, hit, hne⟩ := st
    obtain ⟨f0, f1, f2, f3, f4, f5⟩ := hf it (by simp)
    have hT : s.TypeIs (.ref e) "enumerate" := ⟨_, he, rfl⟩
    have hx : z.cps[i]? = none := Array.getElem?_eq_none hg
    have fin : ∀ h', Heap.ExtBut it s.heap h' → _ := fun h' eb => (⟨rfl, I.turned (t' := s.toks) (fun b o hb q => eb b o hb q) f0 f1 f3 f4 f5⟩ : (none : Option Value) = none ∧ Inv X pins σ H { s with heap := h' })
    unfold pyNext
    refine wpAny_bind (wpAny_attempt (wpAny_callSpecial?_slot (name := Str.ofString "__next__") hT F.slot_enumerate_next
      (wpAny_call_entry F.slot_enumerate_next hT F.entry_enumerate_next ?_ (F.args_enumerate_next_1 _))))
    show wpAny _ _ (field (.ref e) 2 >>= _) _ _ _
    refine wpAny_bind (wpAny_field he rfl (x := .ref it) rfl ?_)
    have fin2 : ∀ h' x, Heap.ExtBut it s.heap h' → (∃ o, h'.get? x = some o ∧ o.cls = .type "StopIteration") → _ := fun h' x eb hx => fin h' eb
    refine wpAny_bind ?_
    cases ha : z.cps.all (· < 128)
    · rw [show strIterType z = "str_iterator" by simp [strIterType, ha]] at hit
      refine wpAny_nextOf_wide_end (I.ok.hd hc) hit hx fun h' x eb ⟨o, ho, hcl⟩ => ?_
      refine wpAny_bind (wpAny_isInstance (T := "StopIteration") (b := true) ⟨o, ho, hcl⟩ isSubtype_stop ?_)
      exact wpAny_pure (fin _ eb)
    · rw [show strIterType z = "str_ascii_iterator" by simp [strIterType, ha]] at hit
      refine wpAny_nextOf_ascii_end (I.ok.hd hc) hit hx fun h' x eb ⟨o, ho, hcl⟩ => ?_
      refine wpAny_bind (wpAny_isInstance (T := "StopIteration") (b := true) ⟨o, ho, hcl⟩ isSubtype_stop ?_)
      exact wpAny_pure (fin _ eb)
  self := fun A i s Q E st h => let ⟨⟨_, he⟩, _⟩ := st; wpAny_pyIter_enum he h
def iEnumS (K : PySem.W.Frag) (ta : TA) : TI := fun σ H R => ta σ H fun vs H1 => ∃ z, vs = [.str z] ∧ R (IteS K z) H1
theorem pi_enumS {X : Cx} {e : Expr} {ta : TA} {p pos tpos : Pos} {elts : List Expr} {kk : Nat} (hg : Gl X "enumerate") (hm : X.mg "enumerate" = none) (ha : PA X [e] ta) (hs : starEach [e] X.env = [(false, eval e X.env)] := by rfl) :
    PI X (.Tuple elts kk tpos) (.Call (.Name "enumerate" p) [e] [] pos) (iEnumS X.K ta) := by
  refine ⟨fun pins s σ H R I h => ?_⟩
  refine Call_ (ld_blt I hg hm boot_enumerate (PyProof.Rows.callWith_type1 (thn (ha.run pos pins s σ H _ I h) fun us s1 ⟨vs, H1, I1, r1, q1⟩ => ?_) hs rfl))
  obtain ⟨z, ex, q⟩ := q1
  subst ex
  cases r1 with
  | cons r rr =>
    cases rr
    obtain ⟨t, rfl⟩ := r
    refine call_enumerate_str fun h' he hit hsz hk => wpAny_pyIter_enum he ?_
    have I2 : Inv X pins σ H1 { s1 with heap := h' } := I1.kept (t' := s1.toks) hk
    refine ⟨s1.heap.objs.size + 1, [s1.heap.objs.size + 1, s1.heap.objs.size], _, _, H1, rfl, I2, turn_enumS z t (s1.heap.objs.size + 1) s1.heap.objs.size, ⟨⟨.none, he⟩, hit, Nat.succ_ne_self _⟩, fun b hb => ?_, q⟩
    have e' : b = s1.heap.objs.size + 1 ∨ b = s1.heap.objs.size := by simpa using hb
    have hle : s1.heap.objs.size ≤ b := by
      rcases e' with z | z
      · rw [z]; exact Nat.le_add_right _ _
      · rw [z]; exact Nat.le_refl _
    exact I1.fpOk hle (I1.hok.fresh hle)
theorem walk_enumS {K : PySem.W.Frag} {z : Str} : Walk (IteS K z) z.cps.size (fun _ => True) (YPair (fun i => some (.int (i : Nat))) (fun i => z.cps[i]?.map fun c => .str ⟨#[c]⟩)) := by
  refine ⟨fun i _ hi q => hi, fun _ q => Nat.le_refl _, fun i H v H' _ q y => ?_⟩
  obtain ⟨T, c, h1, h2, h3, h4⟩ := y
  exact ⟨T, .int (i : Nat), .str ⟨#[c]⟩, h1, h2, h3, rfl, by show Option.map _ z.cps[i]? = _; rw [h4]; rfl⟩
section
variable {X : Cx} {tg iter e a b c : Expr} {E : Env'} {n : Nat} {l : List Nat} {p pos : Pos} {i j : Int}
theorem l_enumS {es : List Expr} {kk : Nat} {tpos : Pos} (B : Bn X.mg) (h : GE X e E (DD X.K (.str (mk l)))) (hg : Gl X "enumerate" := by rfl) (hs : starEach [e] X.env = [(false, eval e X.env)] := by rfl) :
    GIL X (.Tuple es kk tpos) (.Call (.Name "enumerate" p) [e] [] pos) E (l.mapIdx fun i c => .tuple [.int (i : Nat), .str (mk [c])]) := by
  refine ⟨?_⟩
  have hsz : (mk l).cps.size = l.length := rfl
  refine ⟨pi_imp (pi_enumS hg B.enumerate (gad_cons h gad_nil hs).pa hs) fun σ H R ⟨F, r, x, q⟩ => ⟨F, r, x, fun vs F' H' e1 r1 => ?_⟩, fun _ => YD.mo⟩
  obtain ⟨v, rfl, hd⟩ := dpa1 r1
  cases DD.str_inv hd
  refine ⟨mk l, rfl, q _ F' H' e1 ?_⟩
  rw [List.length_mapIdx, ← hsz]
  refine walk_enumS.mono (fun H hx => trivial) fun i H x H' hi hx ⟨T, x1, y1, g1, g2, g3, g4, g5⟩ F2 f1 f2 => ?_
  cases g4
  have hl : i < l.length := hi
  have e5 : (mk l).cps[i]? = some l[i] := by
    show l.toArray[i]? = _
    simp [hl]
  have g5 : Option.map (fun c => V.str ⟨#[c]⟩) (mk l).cps[i]? = some y1 := g5
  rw [e5] at g5
  cases g5
  obtain ⟨F3, en, hF⟩ := ypair (d := .int (i : Nat)) (d2 := .str (mk [l[i]])) f2 g1 g2 g3 (.int _) (.str _)
  exact ⟨F3, en, _, by simp [List.getElem?_mapIdx, hl], hF⟩
end
end Z
namespace Z
open PySem PySem.Spec PyProof.Rows L2
variable [Vo]
section
variable {X : Cx} {E : Env'} {o e a b : Expr} {l l2 : List Nat} {i : Nat} {rest : List Nat} {apos pos p1 p2 p3 : Pos} {k : Nat} {d1 d2 : PyData}
theorem g_sindex (ho : GE X o E (DD X.K (.str (mk l)))) (he : GE X e E (DD X.K (.str (mk l2)))) (hoc : Builtin.Str.occurrences (mk l) (mk l2) 0 (mk l).length 1 = i :: rest)
    (hs : starEach [e] X.env = [(false, eval e X.env)] := by rfl) (hbase : attributeBase o "index" X.env (eval o X.env) = eval o X.env := by rfl) (hline : (apos.endLine == pos.line) = true := by rfl) : GE X (.Call (.Attribute o "index" apos) [e] [] pos) E (DD X.K (.int (i : Nat))) :=
  ⟨pe_imp (pe_m1 F.slot_str_index F.type_str_index mt_sindex ho.pe he.pe hs hbase hline) fun σ H Q ⟨F, r, x, q⟩ => ⟨F, r, x, fun v F1 H1 e1 r1 => by
    cases DD.str_inv r1
    refine ⟨⟨_, rfl⟩, F1, r.mono e1.ff, e1.fh, fun u F2 H2 e2 r2 => ?_⟩
    cases DD.str_inv r2
    exact ⟨mk l, mk l2, i, rest, rfl, rfl, hoc, q _ _ _ (e1.trans e2) (.int _)⟩⟩, DD.mo⟩
end
section
variable {prog : Program} {w : World} {A : Around} {E : Value → Shared → Prop} {s : Shared}
theorem sliceApplied_rev2 {sl : Addr} {u : Tok} {Q : Int × Int × Nat → Shared → Prop} (hs : s.heap.IsSliceOf sl .none .none (.int (-1) u)) (h : Q (1, -1, 2) s) :
    wpAny (model prog w) A (Builtin.Slice.sliceApplied (.ref sl) (pure ((2 : Nat) : Int))) Q E s := by
  obtain ⟨os, hos, hcs, hds⟩ := id hs
  unfold Builtin.Slice.sliceApplied Builtin.Slice.sliceFields
  refine wpAny_bind (wpAny_bind (wpAny_field hos hds (x := .none) rfl (wpAny_bind (wpAny_field hos hds (x := .none) rfl (wpAny_bind (wpAny_field hos hds (x := .int (-1) u) rfl (wpAny_pure ?_)))))))
  refine wpAny_bind (slicePart_int ?_)
  show wpAny _ _ (if ((-1 : Int) == 0) = true then _ else _) _ _ s
  rw [if_neg (by decide)]
  refine wpAny_bind (slicePart_none (wpAny_bind (slicePart_none (wpAny_bind (wpAny_pure ?_)))))
  show wpAny _ _ (match Builtin.Slice.sliceAdjust none none (-1) (2 : Int) with | (lo, hi) => pure (lo, (-1 : Int), Builtin.Slice.slicePlaces lo hi (-1))) _ _ s
  rw [show Builtin.Slice.sliceAdjust none none (-1) (2 : Int) = (1, -1) by decide +kernel]
  show wpAny _ _ (pure ((1 : Int), (-1 : Int), Builtin.Slice.slicePlaces 1 (-1) (-1))) _ _ s
  rw [show Builtin.Slice.slicePlaces 1 (-1) (-1) = 2 by decide +kernel]
  exact wpAny_pure h
theorem getItem_tuple_rev2 {t sl : Addr} {x y : Value} {u : Tok} {Q : Value → Shared → Prop} (ht : IsTup s.heap t #[x, y]) (hs : s.heap.IsSliceOf sl .none .none (.int (-1) u))
    (h : Q (.ref s.heap.objs.size) { s with heap := s.heap.push { cls := .type "tuple", data := .seq #[y, x] } }) : wpAny (model prog w) A (getItem (.ref t) (.ref sl)) Q E s := by
  have hcut : sizeOk (.seq #[y, x]) := by show 2 ≤ sizeLine; decide
  obtain ⟨os, hos, hcs, hds⟩ := id hs
  have hTs : s.TypeIs (.ref sl) "slice" := ⟨os, hos, hcs⟩
  unfold getItem
  try with_reducible refine wpAny_holding ?_
  first | refine wpAny_bind (wpAny_pure ?_) | skip
  refine wpAny_bind (wpAny_sequenceKey ht.typeIs (by decide) ?_)
  refine wpAny_bind (wpAny_callSpecial?_slot (name := Str.ofString "__getitem__") ht.typeIs slot_tuple_getitem
    (wpAny_call_entry slot_tuple_getitem ht.typeIs entry_tuple_getitem ?_ (args_tuple_getitem _ _)))
  show wpAny _ _ (Builtin.Tuple.tupleItemsOf (.ref t) >>= _) _ _ s
  refine wpAny_bind (tupleItemsOf_ ht ?_)
  refine wpAny_bind (wpAny_typeOf hTs ?_)
  rw [if_pos (by decide)]
  refine wpAny_bind (sliceApplied_rev2 hs ?_)
  show wpAny _ _ (if ((1 : Int) == 0 && (-1 : Int) == 1 && (2 : Nat) == (2 : Nat)) = true then _ else _) _ _ s
  rw [if_neg (by decide)]
  have ev : ((List.range 2).filterMap fun (k : Nat) => (#[x, y] : Array Value)[((1 : Int) + (k : Int) * (-1)).toNat]?).toArray = #[y, x] := rfl
  rw [ev]
  first
    | exact wpAny_bind (m := Builtin.Tuple.tupleExact _) (wpAny_newObj_type (wpAny_pure ⟨_, rfl, wpAny_pure h⟩) hcut)
    | exact wpAny_bind (m := Builtin.Tuple.tupleExact _) (wpAny_newObj_type (wpAny_bind (wpAny_pure (wpAny_pure ⟨_, rfl, wpAny_pure h⟩))) hcut)
    | exact wpAny_bind (wpAny_bind (m := Builtin.Tuple.tupleExact _) (wpAny_newObj_type (wpAny_pure (wpAny_pure ⟨_, rfl, wpAny_pure h⟩)) hcut))
    | exact wpAny_bind (wpAny_bind (m := Builtin.Tuple.tupleExact _) (wpAny_newObj_type (wpAny_pure ⟨_, rfl, wpAny_pure h⟩) hcut))
end
def tRevT (K : PySem.W.Frag) (te : TE) : TE := fun σ H Q => te σ H fun x H1 => ∃ a y z, x = .ref a ∧ SqT K H1 a [y, z] ∧ ∀ p, H1 p = none → Q (.ref p) (upd H1 p (.tup [z, y]))
section
variable {X : Cx}
theorem pe_revT {e : Expr} {te : TE} {k : Nat} {p1 p2 p3 pos : Pos} (he : PE X e te) : PE X (.Subscript e (.Slice none none (some (.UnaryOp .USub (.Constant (.int 1) k p1) p2)) p3) pos) (tRevT X.K te) := by
  refine ⟨fun pins s σ H Q I h => ?_⟩
  refine Subscript_ (thn (he.run pins s σ H _ I h) fun v s1 ⟨x, H1, I1, r1, q1⟩ => ?_)
  obtain ⟨a, y, z, ex, hx, q⟩ := q1
  subst ex
  cases r1
  have hst : PO X (some (.UnaryOp .USub (.Constant (.int 1) k p1) p2)) (tPart (tUn (rU fun i => .int (-i)) (tC (.int 1)))) := po_some (pe_un un_neg pe_int)
  refine wpAny_Slice (thn (po_none.run pins s1 σ H1 (fun o H2 => o = none ∧ H2 = H1) I1 ⟨rfl, rfl⟩) fun vl s2 ⟨l, H2, I2, pl, el, e2⟩ => ?_)
  subst el e2
  refine thn (po_none.run pins s2 σ H2 (fun o H3 => o = none ∧ H3 = H2) I2 ⟨rfl, rfl⟩) fun vu s3 ⟨u, H3, I3, pu, eu, e3⟩ => ?_
  subst eu e3
  refine thn (hst.run pins s3 σ H3 (fun o H4 => o = some (-1) ∧ H4 = H3) I3 ⟨1, rfl, -1, rfl, rfl, rfl⟩) fun vs s4 ⟨o, H4, I4, ps, eo, e4⟩ => ?_
  subst eo e4
  cases pl
  cases pu
  cases ps
  rename_i tk hh
  have I5 : Inv X pins σ H4 { s4 with heap := s4.heap.push { cls := .type "slice", data := .fields #[.none, .none, .int (-1) tk] } } := I4.kept (t' := s4.toks) fun b ob q => Heap.get?_push_of_some _ q
  obtain ⟨its, r, ht, hz⟩ := I5.tuple hx
  cases r with
  | cons r1 r =>
  cases r with
  | cons r2 r =>
  cases r
  rename_i vy vz
  refine tail_any (ops := [.ref a, .ref s4.heap.objs.size]) ht.typeIs (PyProof.Rows.slot_tuple_getitem.lookup) ?_ (by with_unfolding_all rfl)
  refine getItem_tuple_rev2 ht (Heap.IsSliceOf.new _ .none .none (.int (-1) tk)) ?_
  refine ⟨.ref _, _, I5.laid (t' := s4.toks) (o := .tup [z, y]) (fun b ob q => Heap.get?_push_of_some _ q) (Nat.le_refl _) ?_, rfl, q _ (I5.hok.fresh (Nat.le_refl _))⟩
  exact ⟨by show 2 ≤ sizeLine; decide, _, .cons r2 (.cons r1 .nil), IsTup.new _ _⟩
end
section
variable {X : Cx} {E : Env'} {e : Expr} {k : Nat} {p1 p2 p3 pos : Pos} {d1 d2 : PyData}
theorem g_revT (he : GE X e E (DD X.K (.tuple [d1, d2]))) : GE X (.Subscript e (.Slice none none (some (.UnaryOp .USub (.Constant (.int 1) k p1) p2)) p3) pos) E (DD X.K (.tuple [d2, d1])) :=
  ⟨pe_imp (pe_revT he.pe) fun σ H Q ⟨F, r, x, q⟩ => ⟨F, r, x, fun v F1 H1 e1 r1 => by
    obtain ⟨a, vs, rfl, h1, h2⟩ := DD.tup_inv r1
    cases h2 with
    | cons q1 h2 =>
    cases h2 with
    | cons q2 h2 =>
    cases h2
    rename_i y z
    refine ⟨a, _, _, rfl, fh_t e1.fh h1, fun p hp => ?_⟩
    have en := Ext.new e1.fh hp (.tup [z, y])
    exact q _ _ _ (e1.trans en) (.tup (SqT.of upd_same) (.cons (da_mono en.ff _ _ q2) (.cons (da_mono en.ff _ _ q1) .nil)))⟩, DD.mo⟩
end
end Z
namespace Z
open PySem PySem.Spec PyProof.Rows L2
variable [Vo]
section
variable {B : Bk} {E V : Env'} {os os' : OS} {P : DE} {st : Stmt} {rest body sts : List Stmt} {l : Addr} {o : OV}
theorem os_erase {os : OS} {j : Nat} {l : Addr} {o : OV} (nd : (os.map (·.1)).Nodup) (ho : os[j]? = some (l, o)) : ∀ p, p ∈ os.eraseIdx j → p ∈ os ∧ p.1 ∉ [l] := fun p hp => by
  refine ⟨List.eraseIdx_subset hp, fun hl => ?_⟩
  obtain ⟨i, hi, hne⟩ := List.mem_eraseIdx_iff_getElem?.mp hp
  have e : p.1 = l := by simpa using hl
  have h1 : (os.map (·.1))[i]? = some l := by rw [List.getElem?_map, hne]; simp [e]
  have h2 : (os.map (·.1))[j]? = some l := by rw [List.getElem?_map, ho]; rfl
  obtain ⟨q1, _⟩ := List.getElem?_eq_some_iff.mp h1
  exact hi ((List.getElem?_inj q1 nd).mp (h1.trans h2.symm))
theorem ws_giveAt (j : Nat) (hv : Vw os [l] E V) (k : WS B sts V (os.eraseIdx j) P) (ho : os[j]? = some (l, o) := by rfl) (hmu : l ∉ B.mu := by exact fun h => nomatch h) : WS B sts E os P :=
  ⟨fun L D σ F H m r q => (ws_give (os' := os.eraseIdx j) hv (fun a h => by
    have e : a = l := by simpa using h
    subst e
    exact ⟨List.mem_map.mpr ⟨_, List.mem_of_getElem? ho, rfl⟩, hmu⟩) (os_erase r.o.nd ho) (fun nd => nd.sublist ((List.eraseIdx_sublist os j).map _)) k).run L D σ F H m r q⟩
theorem ws_less (h : os'.Sublist os) (k : WS B sts E os' P) : WS B sts E os P :=
  ws_give Vw.refl (fun _ h => nomatch h) (fun p hp => ⟨h.subset hp, fun h => nomatch h⟩) (fun nd => nd.sublist (h.map _)) k
theorem ws_renew (i j : Nat) {x : Str} {pos pos' : Pos} {e : Expr} {ds : List PyData} (hN : B.X.N.Nodup) (hi : B.X.N[i]? = some x) (hx : Loc B.X.env.scope x) (he : GEN B.X e (E.set i (some o.fz)) ds)
    (k : ∀ l', WS B rest ((E.set i (some o.fz)).set i (some (RR l'))) (os.eraseIdx j ++ [(l', Ls B.X.K ds)]) P) (hE : E[i]? = some (some (RR l)) := by rfl) (ho : os[j]? = some (l, o) := by rfl) (hmu : l ∉ B.mu := by exact fun h => nomatch h)
    (hs : swapsWith e (some (.Name x pos')) pos.line B.X.env = pure false := by rfl) (hf : B.X.fn x = true ∨ B.X.env.scope.names.lookup x = some .local := by first | exact .inl rfl | exact .inr rfl | assumption) :
    WS B (.Assign [.Name x pos'] e pos :: rest) E os P :=
  ws_giveAt j (Vw.one i j ho hE) (ws_new i hN hi hx he k hs hf) ho hmu
theorem ws_setLc (i : Nat) {y : Str} {elt tg iter : Expr} {ifs : List Expr} {scope : Scope} {pos spos py : Pos} {ds : List PyData} (hy : B.X.N[i]? = some y) (he : LC B.X elt tg iter ifs scope E ds) (k : WS B rest (E.set i (some (DD B.X.K (.list ds)))) os P)
    (hyl : B.X.env.scope.names.lookup y = some .local := by rfl) (hsw : swapsWith (.ListComp elt [⟨tg, iter, ifs, 0⟩] scope pos) (some (.Name y py)) spos.line B.X.env = pure true := by exact sw_true rfl rfl rfl (by decide +kernel)) :
    WS B (.Assign [.Name y py] (.ListComp elt [⟨tg, iter, ifs, 0⟩] scope pos) spos :: rest) E os P := by
  obtain ⟨wi, g, tt, te, own, hc, hN, hi, ok, hg, ht, he, hs, imp⟩ := he.ex
  exact ws_of (ps_setLc hc hN hy hyl hsw hi ok hg ht he hs) fun L D σ F H m r l => imp _ _ _ ⟨F, r.e, r.o.fm.fh, fun p vs F' H' x n1 n2 h3 h4 => by
    have x' := x.keep n1 n2 h3
    exact k.run L D _ _ H' m ⟨r.o.ext x', (r.e.mono x'.ff).set DD.mo (.lst upd_same (daAll_mono (ex_upd n1) _ _ h4))⟩ (Ex.tr l x'.ff)⟩
theorem ws_newLc (i : Nat) {y : Str} {elt tg iter : Expr} {ifs : List Expr} {scope : Scope} {pos spos py : Pos} {ds : List PyData} (hy : B.X.N[i]? = some y) (he : LC B.X elt tg iter ifs scope E ds) (k : ∀ l, WS B rest (E.set i (some (RR l))) (os ++ [(l, Ls B.X.K ds)]) P)
    (hyl : B.X.env.scope.names.lookup y = some .local := by rfl) (hsw : swapsWith (.ListComp elt [⟨tg, iter, ifs, 0⟩] scope pos) (some (.Name y py)) spos.line B.X.env = pure true := by exact sw_true rfl rfl rfl (by decide +kernel)) :
    WS B (.Assign [.Name y py] (.ListComp elt [⟨tg, iter, ifs, 0⟩] scope pos) spos :: rest) E os P := by
  obtain ⟨wi, g, tt, te, own, hc, hN, hi, ok, hg, ht, he, hs, imp⟩ := he.ex
  exact ws_of (ps_setLc hc hN hy hyl hsw hi ok hg ht he hs) fun L D σ F H m r l => imp _ _ _ ⟨F, r.e, r.o.fm.fh, fun p vs F' H' x n1 n2 h3 h4 =>
    (k p).run L D _ F' H' m ⟨r.o.grow x n1 n2 h3 ⟨vs, rfl, h4⟩, (r.e.mono x.ff).set RR.mo rfl⟩ (Ex.tr l x.ff)⟩
end
end Z
namespace Z
open PySem PySem.Spec PyProof.Rows L2
variable [Vo]
structure Shp (n : Nat) (d : PyData) : Prop where
  lay : d.canLay0 = true
  dep : d.depth ≤ n
theorem Shp.up {n m : Nat} {d : PyData} (h : Shp n d) (q : n ≤ m) : Shp m d := ⟨h.lay, Nat.le_trans h.dep q⟩
theorem Shp.ok {n : Nat} {d : PyData} (h : Shp n d) (q : n ≤ 64 := by decide) : SeqAt.shaped d = true := by
  unfold SeqAt.shaped
  rw [h.lay, decide_eq_true (Nat.le_trans h.dep q)]; rfl
theorem shp_int {n : Nat} {i : Int} : Shp n (.int i) := ⟨by simp only [PyData.canLay0], by simp only [PyData.depth]; exact Nat.zero_le _⟩
theorem shp_bool {n : Nat} {i : Bool} : Shp n (.bool i) := ⟨by simp only [PyData.canLay0], by simp only [PyData.depth]; exact Nat.zero_le _⟩
theorem shp_none {n : Nat} : Shp n .none := ⟨by simp only [PyData.canLay0], by simp only [PyData.depth]; exact Nat.zero_le _⟩
theorem shp_str {n : Nat} {l : List Nat} (h : PyData.strOk (mk l) = true) : Shp n (.str (mk l)) := ⟨by simp only [PyData.canLay0]; exact h, by simp only [PyData.depth]; exact Nat.zero_le _⟩
theorem shp_all {n : Nat} : ∀ {ds : List PyData}, (∀ d, d ∈ ds → Shp n d) → PyData.canLayAll0 ds = true ∧ PyData.depthAll ds ≤ n
  | [], _ => ⟨by simp only [PyData.canLayAll0], by simp only [PyData.depthAll]; exact Nat.zero_le _⟩
  | d :: ds, h => by
    obtain ⟨h1, h2⟩ := shp_all (ds := ds) fun d hd => h d (List.mem_cons_of_mem _ hd)
    have h3 := h d List.mem_cons_self
    refine ⟨by simp only [PyData.canLayAll0]; rw [h3.lay, h1]; rfl, ?_⟩
    simp only [PyData.depthAll]
    exact Nat.max_le.mpr ⟨h3.dep, h2⟩
theorem shp_list {n : Nat} {ds : List PyData} (h : ∀ d, d ∈ ds → Shp n d) : Shp (n + 1) (.list ds) := by
  obtain ⟨h1, h2⟩ := shp_all h
  exact ⟨by simp only [PyData.canLay0]; exact h1, by simp only [PyData.depth]; omega⟩
theorem shp_tup {n : Nat} {ds : List PyData} (h : ∀ d, d ∈ ds → Shp n d) : Shp (n + 1) (.tuple ds) := by
  obtain ⟨h1, h2⟩ := shp_all h
  exact ⟨by simp only [PyData.canLay0]; exact h1, by simp only [PyData.depth]; omega⟩
theorem shp_map {α : Type} {n : Nat} {xs : List α} {enc : α → PyData} (h : ∀ x, x ∈ xs → Shp n (enc x)) : Shp (n + 1) (.list (xs.map enc)) := shp_list fun d hd => by
  obtain ⟨x, hx, rfl⟩ := List.mem_map.mp hd
  exact h x hx
theorem shp_nil {n : Nat} : Shp (n + 1) (.list []) := shp_list fun _ h => nomatch h
theorem shp_t2 {n : Nat} {a b : PyData} (h1 : Shp n a) (h2 : Shp n b) : Shp (n + 1) (.tuple [a, b]) := shp_tup fun d hd => by
  rcases List.mem_cons.mp hd with rfl | hd
  · exact h1
  · rcases List.mem_singleton.mp hd with rfl
    exact h2
structure EqvD {α : Type} [DecidableEq α] (enc : α → PyData) : Prop where
  eq : ∀ x y, PyData.eqv (enc x) (enc y) = decide (x = y)
theorem eqv_int : EqvD PyData.int := ⟨fun x y => by simp only [PyData.eqv]; by_cases h : x = y <;> simp [h]⟩
theorem eqv_str : EqvD (fun l : List Nat => PyData.str (mk l)) := ⟨fun x y => by
  simp only [PyData.eqv]
  have : (mk x == mk y) = decide (mk x = mk y) := by by_cases h : mk x = mk y <;> simp [h]
  rw [this, mk_eq]⟩
theorem eqv_all {α : Type} [DecidableEq α] {enc : α → PyData} (h : EqvD enc) : ∀ xs ys : List α, PyData.eqvAll (xs.map enc) (ys.map enc) = decide (xs = ys)
  | [], [] => by simp [PyData.eqvAll]
  | x :: xs, y :: ys => by
    rw [List.map_cons, List.map_cons, PyData.eqvAll, h.eq, eqv_all h xs ys]
    by_cases h1 : x = y <;> by_cases h2 : xs = ys <;> simp [h1, h2]
  | [], _ :: _ => by simp [PyData.eqvAll]
  | _ :: _, [] => by simp [PyData.eqvAll]
theorem eqv_list {α : Type} [DecidableEq α] {enc : α → PyData} (h : EqvD enc) : EqvD (fun xs : List α => PyData.list (xs.map enc)) := ⟨fun x y => by
  show PyData.eqv (.list _) (.list _) = _
  rw [PyData.eqv, eqv_all h]⟩
theorem eqv_pair {α β : Type} [DecidableEq α] [DecidableEq β] {ea : α → PyData} {eb : β → PyData} (ha : EqvD ea) (hb : EqvD eb) : EqvD (fun p : α × β => PyData.tuple [ea p.1, eb p.2]) := ⟨fun x y => by
  show PyData.eqv (.tuple _) (.tuple _) = _
  rw [PyData.eqv, PyData.eqvAll, PyData.eqvAll, PyData.eqvAll, ha.eq, hb.eq]
  obtain ⟨x1, x2⟩ := x
  obtain ⟨y1, y2⟩ := y
  by_cases h1 : x1 = y1 <;> by_cases h2 : x2 = y2 <;> simp [h1, h2]⟩
theorem eqv_nil {ds : List PyData} : PyData.eqv (.list ds) (.list []) = ds.isEmpty := by cases ds <;> simp [PyData.eqv, PyData.eqvAll]
def en {α : Type} : Nat → List α → List (Nat × α)
  | _, [] => []
  | n, a :: r => (n, a) :: en (n + 1) r
theorem en_len {α : Type} : ∀ (xs : List α) (n : Nat), (en n xs).length = xs.length
  | [], _ => rfl
  | _ :: r, n => by rw [en, List.length_cons, en_len r, List.length_cons]
theorem en_app {α : Type} : ∀ (xs ys : List α) (n : Nat), en n (xs ++ ys) = en n xs ++ en (n + xs.length) ys
  | [], _, _ => rfl
  | a :: r, ys, n => by
    rw [List.cons_append, en, en, en_app r ys, List.cons_append, List.length_cons, Nat.add_right_comm, Nat.add_assoc]
theorem en_get {α : Type} : ∀ (xs : List α) (n i : Nat), (en n xs)[i]? = xs[i]?.map fun x => (n + i, x)
  | [], _, _ => rfl
  | a :: r, n, 0 => rfl
  | a :: r, n, i + 1 => by
    rw [en, List.getElem?_cons_succ, List.getElem?_cons_succ, en_get r]
    have : n + 1 + i = n + (i + 1) := by omega
    rw [this]
theorem en_split {α : Type} {xs : List α} {pre post : List (Nat × α)} {x : Nat × α} {n : Nat} (h : en n xs = pre ++ x :: post) : x.1 = n + pre.length ∧ xs[pre.length]? = some x.2 ∧ pre.length < xs.length := by
  have h1 : (en n xs)[pre.length]? = some x := by rw [h]; simp
  rw [en_get] at h1
  cases hx : xs[pre.length]? with
  | none => rw [hx] at h1; cases h1
  | some y =>
    rw [hx] at h1
    have e : (n + pre.length, y) = x := by simpa using h1
    subst e
    exact ⟨rfl, rfl, (List.getElem?_eq_some_iff.mp hx).1⟩
theorem en_mem {α : Type} {xs : List α} {p : Nat × α} {n : Nat} (h : p ∈ en n xs) : p.2 ∈ xs ∧ n ≤ p.1 ∧ p.1 < n + xs.length := by
  obtain ⟨i, hi⟩ := List.mem_iff_getElem?.mp h
  rw [en_get] at hi
  cases hx : xs[i]? with
  | none => rw [hx] at hi; cases hi
  | some y =>
    rw [hx] at hi
    have e : (n + i, y) = p := by simpa using hi
    subst e
    have := (List.getElem?_eq_some_iff.mp hx).1
    exact ⟨List.mem_of_getElem? hx, by simp, by simp; exact this⟩
theorem en_mapIdx {α : Type} {enc : α → PyData} : ∀ (xs : List α) (n : Nat), ((xs.map enc).mapIdx fun i d => PyData.tuple [.int ((n + i : Nat) : Int), d]) = (en n xs).map fun p => .tuple [.int (p.1 : Nat), enc p.2]
  | [], _ => rfl
  | a :: r, n => by
    rw [List.map_cons, List.mapIdx_cons, en, List.map_cons, ← en_mapIdx r (n + 1)]
    congr 1
    congr 1
    funext i d
    have : n + (i + 1) = n + 1 + i := by omega
    rw [this]
theorem mapIdx_en {α β : Type} (g : Nat → α → β) : ∀ (xs : List α) (n : Nat), (xs.mapIdx fun i x => g (n + i) x) = (en n xs).map fun p => g p.1 p.2
  | [], _ => rfl
  | a :: r, n => by
    rw [List.mapIdx_cons, en, List.map_cons, ← mapIdx_en g r (n + 1)]
    congr 1
    congr 1
    funext i d
    have : n + (i + 1) = n + 1 + i := by omega
    rw [this]
abbrev encN {α : Type} (enc : α → PyData) (p : Nat × α) : PyData := .tuple [.int (p.1 : Nat), enc p.2]
section
variable {X : Cx} {tg iter e a b c : Expr} {E : Env'} {n : Nat} {l : List Nat} {p pos : Pos} {i j : Int} {α : Type} {enc : α → PyData} {xs : List α}
theorem l_enM {es : List Expr} {kk : Nat} {tpos : Pos} (B : Bn X.mg) (h : GE X e E (DD X.K (.list (xs.map enc)))) (hg : Gl X "enumerate" := by rfl) (hs : starEach [e] X.env = [(false, eval e X.env)] := by rfl) :
    GIL X (.Tuple es kk tpos) (.Call (.Name "enumerate" p) [e] [] pos) E ((en 0 xs).map (encN enc)) := GIL.is (l_enum B h hg hs) (by
  rw [show (en 0 xs).map (encN enc) = (en 0 xs).map (fun p => .tuple [.int (p.1 : Nat), enc p.2]) from rfl, ← en_mapIdx xs 0]
  congr 1
  funext i d
  rw [Nat.zero_add])
abbrev encS (c : Nat) : PyData := .str (mk [c])
theorem l_enSM {es : List Expr} {kk : Nat} {tpos : Pos} (B : Bn X.mg) (h : GE X e E (DD X.K (.str (mk l)))) (hg : Gl X "enumerate" := by rfl) (hs : starEach [e] X.env = [(false, eval e X.env)] := by rfl) :
    GIL X (.Tuple es kk tpos) (.Call (.Name "enumerate" p) [e] [] pos) E ((en 0 l).map (encN encS)) := GIL.is (l_enumS B h hg hs) (by
  have := mapIdx_en (fun n c => PyData.tuple [.int (n : Nat), encS c]) l 0
  simp only [Nat.zero_add] at this
  exact this)
end
theorem spl_nil1 (acc : List Nat) : TL.spl [32] 0 acc [] = [acc] := rfl
theorem spl_sp (acc r : List Nat) : TL.spl [32] 0 acc (32 :: r) = acc :: TL.spl [32] 0 [] r := by
  have := TL.spl_hit (S := [32]) (acc := acc) (r := r) (c := 32) (by cases r <;> rfl)
  exact this
theorem spl_no {c : Nat} (acc r : List Nat) (h : c ≠ 32) : TL.spl [32] 0 acc (c :: r) = TL.spl [32] 0 (acc ++ [c]) r := by
  refine TL.spl_miss (S := [32]) (acc := acc) (r := r) (c := c) ?_
  have : (32 == c) = false := by rw [beq_eq_false_iff_ne]; exact fun e => h e.symm
  cases r <;> simp [TL.pre] <;> exact fun e => h e
theorem spl_bd : ∀ (l acc : List Nat), (TL.spl [32] 0 acc l).length ≤ l.length + 1 ∧ ((TL.spl [32] 0 acc l).map (·.length)).sum ≤ acc.length + l.length
  | [], acc => by rw [spl_nil1]; simp
  | c :: r, acc => by
    by_cases h : c = 32
    · subst h
      rw [spl_sp]
      obtain ⟨h1, h2⟩ := spl_bd r []
      refine ⟨by simp; omega, ?_⟩
      rw [List.map_cons, List.sum_cons, List.length_cons]
      have : ([] : List Nat).length = 0 := rfl
      omega
    · rw [spl_no _ _ h]
      obtain ⟨h1, h2⟩ := spl_bd r (acc ++ [c])
      refine ⟨by simp at h1 ⊢; omega, ?_⟩
      rw [List.length_append, List.length_singleton] at h2
      rw [List.length_cons]
      omega
theorem gt_2 {X : Cx} {K : PySem.W.Frag} {x0 x1 : Str} {d0 d1 : PyData} {p0 p1 pos : Pos} {kk : Nat} (i0 i1 : Nat) (hc : X.calm = true) (hN : X.N.Nodup) (h0 : X.N[i0]? = some x0 := by rfl) (h1 : X.N[i1]? = some x1 := by rfl) (l0 : Loc X.env.scope x0 := by first | exact .inl rfl | exact .inr rfl) (l1 : Loc X.env.scope x1 := by first | exact .inl rfl | exact .inr rfl) (f0 : X.fn x0 = true ∨ X.env.scope.names.lookup x0 = some .local := by first | exact .inl rfl | exact .inr rfl) (f1 : X.fn x1 = true ∨ X.env.scope.names.lookup x1 = some .local := by first | exact .inl rfl | exact .inr rfl) (hn : (assignEach [.Name x0 p0, .Name x1 p1] X.env).length = 2 := by rfl) (hst : (assignEach [.Name x0 p0, .Name x1 p1] X.env).findIdx? (·.1) = none := by rfl) (hK : X.K = K := by rfl) : GT X (.Tuple [.Name x0 p0, .Name x1 p1] kk pos) (DD K (.tuple [d0, d1])) [i0, i1] (fun E => (E.set i0 (some (DD K d0))).set i1 (some (DD K d1))) := by subst hK; exact gt_tupT hc (gts_cons (gt_name i0 DD.mo hN h0 l0 f0) (gts_cons (gt_name i1 DD.mo hN h1 l1 f1) gts_nil)) hn hst
theorem gt_3 {X : Cx} {K : PySem.W.Frag} {x0 x1 x2 : Str} {d0 d1 d2 : PyData} {p0 p1 p2 pos : Pos} {kk : Nat} (i0 i1 i2 : Nat) (hc : X.calm = true) (hN : X.N.Nodup) (h0 : X.N[i0]? = some x0 := by rfl) (h1 : X.N[i1]? = some x1 := by rfl) (h2 : X.N[i2]? = some x2 := by rfl) (l0 : Loc X.env.scope x0 := by first | exact .inl rfl | exact .inr rfl) (l1 : Loc X.env.scope x1 := by first | exact .inl rfl | exact .inr rfl) (l2 : Loc X.env.scope x2 := by first | exact .inl rfl | exact .inr rfl) (f0 : X.fn x0 = true ∨ X.env.scope.names.lookup x0 = some .local := by first | exact .inl rfl | exact .inr rfl) (f1 : X.fn x1 = true ∨ X.env.scope.names.lookup x1 = some .local := by first | exact .inl rfl | exact .inr rfl) (f2 : X.fn x2 = true ∨ X.env.scope.names.lookup x2 = some .local := by first | exact .inl rfl | exact .inr rfl) (hn : (assignEach [.Name x0 p0, .Name x1 p1, .Name x2 p2] X.env).length = 3 := by rfl) (hst : (assignEach [.Name x0 p0, .Name x1 p1, .Name x2 p2] X.env).findIdx? (·.1) = none := by rfl) (hK : X.K = K := by rfl) : GT X (.Tuple [.Name x0 p0, .Name x1 p1, .Name x2 p2] kk pos) (DD K (.tuple [d0, d1, d2])) [i0, i1, i2] (fun E => ((E.set i0 (some (DD K d0))).set i1 (some (DD K d1))).set i2 (some (DD K d2))) := by subst hK; exact gt_tupT hc (gts_cons (gt_name i0 DD.mo hN h0 l0 f0) (gts_cons (gt_name i1 DD.mo hN h1 l1 f1) (gts_cons (gt_name i2 DD.mo hN h2 l2 f2) gts_nil))) hn hst
theorem gt_4 {X : Cx} {K : PySem.W.Frag} {x0 x1 x2 x3 : Str} {d0 d1 d2 d3 : PyData} {p0 p1 p2 p3 pos : Pos} {kk : Nat} (i0 i1 i2 i3 : Nat) (hc : X.calm = true) (hN : X.N.Nodup) (h0 : X.N[i0]? = some x0 := by rfl) (h1 : X.N[i1]? = some x1 := by rfl) (h2 : X.N[i2]? = some x2 := by rfl) (h3 : X.N[i3]? = some x3 := by rfl) (l0 : Loc X.env.scope x0 := by first | exact .inl rfl | exact .inr rfl) (l1 : Loc X.env.scope x1 := by first | exact .inl rfl | exact .inr rfl) (l2 : Loc X.env.scope x2 := by first | exact .inl rfl | exact .inr rfl) (l3 : Loc X.env.scope x3 := by first | exact .inl rfl | exact .inr rfl) (f0 : X.fn x0 = true ∨ X.env.scope.names.lookup x0 = some .local := by first | exact .inl rfl | exact .inr rfl) (f1 : X.fn x1 = true ∨ X.env.scope.names.lookup x1 = some .local := by first | exact .inl rfl | exact .inr rfl) (f2 : X.fn x2 = true ∨ X.env.scope.names.lookup x2 = some .local := by first | exact .inl rfl | exact .inr rfl) (f3 : X.fn x3 = true ∨ X.env.scope.names.lookup x3 = some .local := by first | exact .inl rfl | exact .inr rfl) (hn : (assignEach [.Name x0 p0, .Name x1 p1, .Name x2 p2, .Name x3 p3] X.env).length = 4 := by rfl) (hst : (assignEach [.Name x0 p0, .Name x1 p1, .Name x2 p2, .Name x3 p3] X.env).findIdx? (·.1) = none := by rfl) (hK : X.K = K := by rfl) : GT X (.Tuple [.Name x0 p0, .Name x1 p1, .Name x2 p2, .Name x3 p3] kk pos) (DD K (.tuple [d0, d1, d2, d3])) [i0, i1, i2, i3] (fun E => (((E.set i0 (some (DD K d0))).set i1 (some (DD K d1))).set i2 (some (DD K d2))).set i3 (some (DD K d3))) := by subst hK; exact gt_tupT hc (gts_cons (gt_name i0 DD.mo hN h0 l0 f0) (gts_cons (gt_name i1 DD.mo hN h1 l1 f1) (gts_cons (gt_name i2 DD.mo hN h2 l2 f2) (gts_cons (gt_name i3 DD.mo hN h3 l3 f3) gts_nil)))) hn hst
theorem gt_5 {X : Cx} {K : PySem.W.Frag} {x0 x1 x2 x3 x4 : Str} {d0 d1 d2 d3 d4 : PyData} {p0 p1 p2 p3 p4 pos : Pos} {kk : Nat} (i0 i1 i2 i3 i4 : Nat) (hc : X.calm = true) (hN : X.N.Nodup) (h0 : X.N[i0]? = some x0 := by rfl) (h1 : X.N[i1]? = some x1 := by rfl) (h2 : X.N[i2]? = some x2 := by rfl) (h3 : X.N[i3]? = some x3 := by rfl) (h4 : X.N[i4]? = some x4 := by rfl) (l0 : Loc X.env.scope x0 := by first | exact .inl rfl | exact .inr rfl) (l1 : Loc X.env.scope x1 := by first | exact .inl rfl | exact .inr rfl) (l2 : Loc X.env.scope x2 := by first | exact .inl rfl | exact .inr rfl) (l3 : Loc X.env.scope x3 := by first | exact .inl rfl | exact .inr rfl) (l4 : Loc X.env.scope x4 := by first | exact .inl rfl | exact .inr rfl) (f0 : X.fn x0 = true ∨ X.env.scope.names.lookup x0 = some .local := by first | exact .inl rfl | exact .inr rfl) (f1 : X.fn x1 = true ∨ X.env.scope.names.lookup x1 = some .local := by first | exact .inl rfl | exact .inr rfl) (f2 : X.fn x2 = true ∨ X.env.scope.names.lookup x2 = some .local := by first | exact .inl rfl | exact .inr rfl) (f3 : X.fn x3 = true ∨ X.env.scope.names.lookup x3 = some .local := by first | exact .inl rfl | exact .inr rfl) (f4 : X.fn x4 = true ∨ X.env.scope.names.lookup x4 = some .local := by first | exact .inl rfl | exact .inr rfl) (hn : (assignEach [.Name x0 p0, .Name x1 p1, .Name x2 p2, .Name x3 p3, .Name x4 p4] X.env).length = 5 := by rfl) (hst : (assignEach [.Name x0 p0, .Name x1 p1, .Name x2 p2, .Name x3 p3, .Name x4 p4] X.env).findIdx? (·.1) = none := by rfl) (hK : X.K = K := by rfl) : GT X (.Tuple [.Name x0 p0, .Name x1 p1, .Name x2 p2, .Name x3 p3, .Name x4 p4] kk pos) (DD K (.tuple [d0, d1, d2, d3, d4])) [i0, i1, i2, i3, i4] (fun E => ((((E.set i0 (some (DD K d0))).set i1 (some (DD K d1))).set i2 (some (DD K d2))).set i3 (some (DD K d3))).set i4 (some (DD K d4))) := by subst hK; exact gt_tupT hc (gts_cons (gt_name i0 DD.mo hN h0 l0 f0) (gts_cons (gt_name i1 DD.mo hN h1 l1 f1) (gts_cons (gt_name i2 DD.mo hN h2 l2 f2) (gts_cons (gt_name i3 DD.mo hN h3 l3 f3) (gts_cons (gt_name i4 DD.mo hN h4 l4 f4) gts_nil))))) hn hst
end Z
namespace Z
open PySem PySem.Spec PyProof.Rows L2
variable [Vo]
theorem cut_to {α : Type} {ds : List α} {n : Nat} : cutD ds none (some (n : Int)) = ds.take n := by
  unfold cutD
  rw [HT.sIx_none, HT.sIx_nat, List.drop_zero, Nat.sub_zero, ← List.take_take, List.take_length]
theorem cut_from {α : Type} {ds : List α} {n : Nat} : cutD ds (some (n : Int)) none = ds.drop n := by
  unfold cutD
  rw [HT.sIx_none, HT.sIx_nat]
  by_cases h : n ≤ ds.length
  · rw [Nat.min_eq_left h, List.take_of_length_le (by rw [List.length_drop]; omega)]
  · rw [Nat.min_eq_right (by omega), List.drop_length, List.drop_of_length_le (by omega), List.take_nil]
theorem cut_less {α : Type} {ds : List α} {n : Nat} (h : 0 < n) : cutD ds none (some (-(n : Int))) = ds.take (ds.length - n) := by
  unfold cutD
  rw [HT.sIx_none, List.drop_zero, Nat.sub_zero]
  have : HT.sIx ds.length ds.length (some (-(n : Int))) = ds.length - n := by
    show (if (-(n : Int)) < 0 then ((-(n : Int)) + (ds.length : Int)).toNat else _) = _
    rw [if_pos (by omega)]
    omega
  rw [this]
theorem in_strs {s : Str} : ∀ {ls : List Str}, inV (.str s) (ls.map V.str) = decide (s ∈ ls)
  | [] => rfl
  | a :: r => by
    have ih := in_strs (s := s) (ls := r)
    unfold inV at ih ⊢
    rw [List.map_cons, List.any_cons, ih]
    by_cases h : s = a
    · subst h; simp [eqV]
    · have : ¬ a = s := fun e => h e.symm
      simp [eqV, h, this]
theorem flat_strs : ∀ (ls : List Str), (ls.map V.str).all flatV = true
  | [] => rfl
  | a :: r => by rw [List.map_cons, List.all_cons, flat_strs r]; rfl
theorem mem_mk {l : List Nat} {ls : List (List Nat)} : decide (mk l ∈ ls.map mk) = decide (l ∈ ls) := by
  by_cases h : l ∈ ls
  · rw [decide_eq_true h, decide_eq_true (List.mem_map.mpr ⟨l, h, rfl⟩)]
  · rw [decide_eq_false h, decide_eq_false fun q => by
      obtain ⟨x, hx, e⟩ := List.mem_map.mp q
      exact h (mk_inj e ▸ hx)]
section
variable {X : Cx} {b : Expr} {l : List Nat} {ls : List (List Nat)}
theorem c_inRows (hm : behindInMarks .In b = false := by rfl) : CmpR X .In b (DD X.K (.str (mk l))) (DD X.K (.list (ls.map fun l => .str (mk l)))) (decide (l ∈ ls)) := ⟨_, op_in_seq, hm, fun F H x y Q hx hy e k => by
  cases DD.str_inv hx
  obtain ⟨p, vs, rfl, h1, h2⟩ := DD.list_inv hy
  have h2' : DaAll X.K F vs ((ls.map mk).map PyData.str) := by rw [List.map_map]; exact h2
  have ev := dpa_strs h2'
  subst ev
  refine ⟨p, _, rfl, .inl (SqL.of (e.at h1)), rfl, flat_strs _, ?_⟩
  have e2 : inV (.str (mk l)) ((ls.map mk).map V.str) = decide (l ∈ ls) := by rw [in_strs, mem_mk]
  exact k _ F H (Ext.refl e) (by rw [e2]; exact .bl _)⟩
theorem c_ninRows (hm : behindInMarks .NotIn b = false := by rfl) : CmpR X .NotIn b (DD X.K (.str (mk l))) (DD X.K (.list (ls.map fun l => .str (mk l)))) (!decide (l ∈ ls)) := ⟨_, op_notIn_seq, hm, fun F H x y Q hx hy e k => by
  cases DD.str_inv hx
  obtain ⟨p, vs, rfl, h1, h2⟩ := DD.list_inv hy
  have h2' : DaAll X.K F vs ((ls.map mk).map PyData.str) := by rw [List.map_map]; exact h2
  have ev := dpa_strs h2'
  subst ev
  refine ⟨p, _, rfl, .inl (SqL.of (e.at h1)), rfl, flat_strs _, ?_⟩
  have e2 : inV (.str (mk l)) ((ls.map mk).map V.str) = decide (l ∈ ls) := by rw [in_strs, mem_mk]
  exact k _ F H (Ext.refl e) (by rw [e2]; exact .bl _)⟩
end
end Z
namespace Z
open PySem PySem.Spec PyProof.Rows L2
variable [Vo]
section
variable {X : Cx}
def rRemD (K : PySem.W.Frag) : V → List V → Hp → VK → Prop := fun x vs H Q => ∃ (l : Addr) (xs : List V) (y : V) (ds : List PyData) (d : PyData) (j : Nat), x = .ref l ∧ vs = [y] ∧ H l = some (.lst xs) ∧ DpAll K H xs ds ∧ Dp K H y d ∧ PyData.plainAll ds = true ∧ Shp 64 d ∧ SeqAt.dataPlace ds d = some j ∧ Q .non (upd H l (.lst (xs.eraseIdx j)))
theorem mt_removeD (hu : X.A.units + 66 < cLine) : MtM X "list.remove" (rRemD X.K) := by
  intro pins s σ H x vs v us Q I rx rxs h
  obtain ⟨l, xs, y, ds, d, j, rfl, rfl, hH, hds, hd, hpl, hsh, hp, q⟩ := h
  cases rx
  obtain ⟨u, rfl, ru⟩ := rxs.one
  obtain ⟨z, its, n, r, hl, e⟩ := I.lstM hH
  obtain ⟨as, ra⟩ := Dp.readsAll I ds xs its hds r
  obtain ⟨bs, rb⟩ := Dp.reads I d y u hd ru
  have hdep := hsh.dep
  refine SeqAt.remove_list_data (j := j) (vs := its.toArray) ⟨_, e, rfl, n, rfl⟩ ra rb hpl (PyData.plain_of_canLay0 d hsh.lay) (by omega) hp (by rw [List.size_toArray]; omega) ?_
  refine ⟨.non, _, I.lset (its' := its.eraseIdx j) (t' := s.toks) hH e ?_ (r.eraseIdx j) ?_, rfl, q⟩
  · show its.toArray.eraseIdxIfInBounds j = (its.eraseIdx j).toArray
    rw [List.eraseIdxIfInBounds_toArray]
  · have z2 := len_erase xs j
    omega
end
theorem plainAll_of {n : Nat} : ∀ {ds : List PyData}, (∀ d, d ∈ ds → Shp n d) → PyData.plainAll ds = true
  | [], _ => rfl
  | d :: ds, h => by
    show (PyData.plain d && PyData.plainAll ds) = true
    rw [PyData.plain_of_canLay0 d (h d List.mem_cons_self).lay, plainAll_of fun e he => h e (List.mem_cons_of_mem _ he)]; rfl
section
variable {B : Bk} {E : Env'} {os : OS} {P : DE} {rest : List Stmt} {e recv : Expr} {pos apos cpos : Pos} {l : Addr} {ds : List PyData} {d : PyData}
theorem ws_remove (j : Nat) {n : Nat} (hu : B.X.A.units + 66 < cLine) (hr : GE B.X recv E (RR l)) (ho : os[j]? = some (l, Ls B.X.K ds)) (he : GE B.X e E (DD B.X.K d)) (hds : ∀ d, d ∈ ds → Shp 64 d) (hd : Shp 64 d) (hn : SeqAt.dataPlace ds d = some n) (k : WS B rest E (os.set j (l, Ls B.X.K (ds.eraseIdx n))) P)
    (hp : ∀ {to : TE} {t : TA}, PE B.X recv to → PA B.X [e] t → PE B.X (.Call (.Attribute recv "remove" apos) [e] [] cpos) (tBM B.X.K "list" (rRemD B.X.K) to t) := by intro _ _ h1 h2; exact pe_bm PySem.F.plainAttrs_list PySem.F.slot_list_remove PySem.F.type_list_remove (mt_removeD (by assumption)) h1 h2)
    (hst : starEach [e] B.X.env = (false, eval e B.X.env) :: starEach [] B.X.env := by rfl) (hs : swapsWith (.Call (.Attribute recv "remove" apos) [e] [] cpos) none pos.line B.X.env = pure false := by rfl) : WS B (.Expr (.Call (.Attribute recv "remove" apos) [e] [] cpos) pos :: rest) E os P :=
  ws_of (ps_expr (hp hr.pe (gad_cons he gad_nil hst).pa) hs) fun L D σ F H m r l1 => ⟨F, r.e, r.o.fm.fh, fun v F1 H1 e1 hv => by
    have ev : v = .ref l := hv
    subst ev
    have r1 := r.o.ext e1
    obtain ⟨f1, _, o1, h1, vs, rfl, d1⟩ := r1.ow _ (List.mem_of_getElem? ho)
    refine ⟨.inl ⟨rfl, vs, SqL.of h1⟩, F1, r.e.mono e1.ff, e1.fh, fun us F2 H2 e2 hu => ?_⟩
    obtain ⟨u, rfl, hu1⟩ := dpa1 hu
    have r2 := r1.ext e2
    have d2 := daAll_mono e2.ff _ _ d1
    refine ⟨l, vs, u, ds, d, n, rfl, rfl, e2.h0 f1 h1, daAll_dp r2.fm.fh _ _ (ndf_layAll _ (shp_all hds).1) d2, da_dp r2.fm.fh _ _ (ndf_lay _ hd.lay) hu1, plainAll_of hds, hd, hn, ?_⟩
    exact k.run L D _ F2 _ m ⟨r2.write ho ⟨_, rfl, d2.erase n⟩, (r.e.mono e1.ff).mono e2.ff⟩ (Ex.tr (Ex.tr l1 e1.ff) e2.ff)⟩
end
theorem place_map {α : Type} [DecidableEq α] {enc : α → PyData} (h : EqvD enc) (xs : List α) (x : α) : SeqAt.dataPlace (xs.map enc) (enc x) = xs.findIdx? fun y => decide (y = x) := by
  unfold SeqAt.dataPlace
  rw [List.findIdx?_map]
  congr 1
  funext y
  exact h.eq y x
end Z
namespace Z
open PySem PySem.Spec PyProof.Rows L2
variable [Vo]
section
variable {B : Bk} {E V : Env'} {os os' : OS} {P : DE} {rest body : List Stmt} {tg recv ix : Expr} {pos : Pos} {l : Addr} {α : Type} {xs : List α} {enc : α → PyData} {sl : List Nat} {f : α → Env' → Env'} {ds : List PyData} {d : PyData}
theorem ws_forO (hp : PassesOwn (model B.X.prog B.X.w) B.X.A B.X.env B.X.xe) (hc : B.X.calm = true) (hr : GE B.X recv E (RR l)) (hT : ∀ x, x ∈ xs → GT B.X tg (DD B.X.K (enc x)) sl (f x))
    (I : List α → Env' → OS → Prop) (hI : ∀ pre E os, I pre E os → (l, Ls B.X.K (xs.map enc)) ∈ os) (h0 : I [] E os) (hs : ∀ pre x post E' os', xs = pre ++ x :: post → I pre E' os' → WS B body (f x E') os' { nx := I (pre ++ [x]), ct := I (pre ++ [x]), bk := fun E os => WS B rest E os P, rt := P.rt, xc := P.xc }) (hd : ∀ E' os', I xs E' os' → WS B rest E' os' P)
    (hs' : ∀ x, foldedSetIterable recv B.X.env x = pure x := by intro _; rfl) : WS B (.For tg recv body [] pos :: rest) E os P := by
  have hT' : ∀ i, i < xs.length → GT B.X tg (YD B.X.K (xs.map enc) i) sl (pick f xs i) := fun i hi => by
    obtain ⟨x, hx⟩ := some_of_lt hi
    rw [yd_map hx, pick_at hx]
    exact hT x (List.mem_of_getElem? hx)
  refine ws_of (ps_for (g := gR xs.length (YD B.X.K (xs.map enc)) sl (pick f xs)) (tb := fun D σ H => W B.X body D σ H) hp hc (pi_list hr.pe) ⟨fun pins s σ H v u Q I r ⟨i, hi, q⟩ => (hT' i hi).pg.run pins s σ H v u Q I r q⟩ w_can hs') fun L D σ F H m r q => ⟨F, r.e, r.o.fm.fh, fun v F' H' x hv => ?_⟩
  have ev : v = .ref l := hv
  subst ev
  have r1 : RepS B E os σ F' H' := r.ext x
  obtain ⟨_, _, o1, h1, vs, rfl, d1⟩ := r1.o.ow _ (hI _ _ _ h0)
  refine ⟨l, rfl, ⟨vs, SqL.of h1⟩, ?_⟩
  have l' : Ex L F' := Ex.tr q x.ff
  have w : Walk (Itl B.X.K l) xs.length (fun H => ∃ vs, H l = some (.lst vs) ∧ vs.length = xs.length) (fun i H x H' => H' = H ∧ ∀ vs, H l = some (.lst vs) → vs[i]? = some x) :=
    ⟨fun i H hi ⟨vs, hv, hl⟩ => ⟨vs, vs[i], SqL.of hv, by simp [hl, hi]⟩, fun H ⟨vs, hv, hl⟩ => ⟨vs, SqL.of hv, by omega⟩, fun i H x H' _ _ y => ⟨y.1, fun vs hv => y.2 vs (SqL.of hv)⟩⟩
  refine for_it (g := gR xs.length (YD B.X.K (xs.map enc)) sl (pick f xs)) (tb := fun D σ H => W B.X body D σ H) (D := { D with nx := fun σ' H' => W B.X rest D σ' H' }) w (fun i σ H => ∃ E os F2, I (xs.take i) E os ∧ RepS B E os σ F2 H ∧ Ex F' F2) ⟨E, os, F', by rw [List.take_zero]; exact h0, r1, fun _ _ q => q⟩ (fun i σ H _ ⟨E, os, F2, i2, r2, f2⟩ => ?_) ?_ ?_
  · obtain ⟨_, _, o2, h2, vs2, rfl, d2⟩ := r2.o.ow _ (hI _ _ _ i2)
    exact ⟨vs2, h2, by rw [d2.len, List.length_map]⟩
  · rintro i v σ2 H2 H3 hlt ⟨E2, os2, F2, i2, r2, f2⟩ ⟨e3, y⟩
    subst e3
    obtain ⟨x, hx⟩ := some_of_lt hlt
    obtain ⟨e1, e2⟩ := split_at hx
    obtain ⟨_, _, o2, h2, vs2, rfl, d2⟩ := r2.o.ow _ (hI _ _ _ i2)
    obtain ⟨dd, hd1, hd2⟩ := d2.get' (y vs2 h2)
    refine ⟨i, hlt, F2, ⟨dd, hd1, hd2⟩, r2.o.fm.fh, fun σ3 k => ?_⟩
    have r4 : RepS B (pick f xs i E2) os2 σ3 F2 H3 := ⟨r2.o, k.1 E2 r2.e⟩
    rw [pick_at hx] at r4
    have hb := hs (xs.take i) x (xs.drop (i + 1)) E2 os2 e1 i2
    rw [← e2] at hb
    exact hb.run F' _ σ3 F2 H3 ⟨fun E4 os4 σ4 F4 H4 q r5 l5 => ⟨E4, os4, F4, q, r5, l5⟩, fun R os4 v F4 H4 q r5 l5 hv => m.rt R os4 v F4 H4 q r5 (Ex.tr l' l5) hv, fun E4 os4 σ4 F4 H4 q r5 l5 => q.run L D σ4 F4 H4 m r5 (Ex.tr l' l5), fun E4 os4 σ4 F4 H4 q r5 l5 => ⟨E4, os4, F4, q, r5, l5⟩, fun c p E4 os4 σ4 F4 H4 d q r5 l5 => m.xc c p E4 os4 σ4 F4 H4 d q r5 (Ex.tr l' l5)⟩ r4 f2
  · rintro σ2 H2 ⟨E2, os2, F2, i2, r2, f2⟩
    rw [List.take_length] at i2
    exact (hd E2 os2 i2).run L D σ2 F2 H2 m r2 (Ex.tr l' f2)
theorem ws_ownIx (i : Nat) {x : Str} {ipos pos' : Pos} {n : Int} (hN : B.X.N.Nodup) (hi : B.X.N[i]? = some x) (hx : Loc B.X.env.scope x) (hr : GE B.X recv E (RR l)) (ho : (l, Ls B.X.K ds) ∈ os) (hix : GE B.X ix E (DD B.X.K (.int n))) (hn : L2.atI ds n = some d) (k : WS B rest (E.set i (some (DD B.X.K d))) os P)
    (hpl : PlainIx ix := by intro _ _; rfl) (hs : swapsWith (.Subscript recv ix ipos) (some (.Name x pos')) pos.line B.X.env = pure false := by rfl) (hf : B.X.fn x = true ∨ B.X.env.scope.names.lookup x = some .local := by first | exact .inl rfl | exact .inr rfl | assumption) :
    WS B (.Assign [.Name x pos'] (.Subscript recv ix ipos) pos :: rest) E os P :=
  ws_of (ps_set hN hi hx (pe_ix ix_list hr.pe hix.pe hpl) hs hf) fun L D σ F H m r q => ⟨F, r.e, r.o.fm.fh, fun v F1 H1 e1 hv => ⟨F1, r.e.mono e1.ff, e1.fh, fun u F2 H2 e2 hu => by
    have ev : v = .ref l := hv
    subst ev
    cases DD.int_inv hu
    have r2 := (r.ext e1).ext e2
    obtain ⟨_, _, o2, h2, vs, rfl, d2⟩ := r2.o.ow _ ho
    have hlen := d2.len
    cases hm : ixN ds.length n with
    | none =>
      unfold L2.atI at hn
      rw [hm] at hn; cases hn
    | some m' =>
      unfold L2.atI at hn
      rw [hm] at hn
      have hn' : ds[m']? = some d := hn
      obtain ⟨y, hy, hq⟩ := d2.get hn'
      refine ⟨l, vs, n, y, rfl, rfl, SqL.of h2, ?_, ?_⟩
      · unfold L2.atI
        rw [hlen, hm]
        exact hy
      · exact k.run L D _ F2 _ m ⟨r2.o, r2.e.set DD.mo hq⟩ (Ex.tr (Ex.tr q e1.ff) e2.ff)⟩⟩
end
end Z
namespace Z
open PySem PySem.Spec PyProof.Rows L2
variable [Vo]
section
variable {B : Bk} {E V : Env'} {os os' : OS} {P : DE} {rest body : List Stmt} {e tg recv : Expr} {pos pos' : Pos} {l : Addr} {ds : List PyData} {d : PyData} {fs : List Addr}
theorem ws_setIxV (j : Nat) {i : Int} {n : Nat} {ix : Expr} (hr : GE B.X recv E (RR l)) (ho : os[j]? = some (l, Ls B.X.K ds)) (hv : Vw os fs E V) (hi : GE B.X ix V (DD B.X.K (.int i))) (hn : ixN ds.length i = some n) (he : GE B.X e E (DD B.X.K d)) (k : WS B rest E (os.set j (l, Ls B.X.K (ds.set n d))) P)
    (ha : ∀ v, assign (.Subscript recv ix pos') B.X.env v = (do let ov ← holding [v] (eval recv B.X.env); let iv ← holding [v, ov] (eval ix B.X.env); standAt pos'; holding [v, ov, iv] (setItem ov iv v); release [v, ov, iv] []) := by intro _; rfl)
    (hs : swapsWithSole [.Subscript recv ix pos'] e pos.line B.X.env = pure false := by rfl) (hw : swappedStores [.Subscript recv ix pos'] e B.X.env = pure none := by rfl) (h1 : (assignEach [.Subscript recv ix pos'] B.X.env).map (·.2) = [assign (.Subscript recv ix pos') B.X.env] := by rfl) : WS B (.Assign [.Subscript recv ix pos'] e pos :: rest) E os P :=
  ws_of (ps_asg he.pe (pg_sub hr.pe hi.pe set_list ha) hs hw h1) fun L D σ F H m r l1 => ⟨F, r.e, r.o.fm.fh, fun v F1 H1 e1 hvd => ⟨F1, r.e.mono e1.ff, e1.fh, fun u F2 H2 e2 hu => by
    have eu : u = .ref l := hu
    subst eu
    have r2 := (r.ext e1).ext e2
    refine ⟨_, hv.rep r2, hv.fh r2, fun w F3 H3 e3 hw3 => ?_⟩
    cases DD.int_inv hw3
    obtain ⟨Fb, u3⟩ : ∃ Fb, Ext F2 H2 Fb H3 := ⟨_, ext_unfrz (hv.fsok r2) r2.o.fm.fh e3⟩
    have r3 := r2.ext u3
    obtain ⟨f3, _, o3, h3, vs, rfl, d3⟩ := r3.o.ow _ (List.mem_of_getElem? ho)
    exact ⟨l, vs, i, n, rfl, rfl, h3, by rw [d3.len]; exact hn, k.run L D _ Fb _ m ⟨r3.o.write ho ⟨_, rfl, d3.set n (da_mono (Ex.tr e2.ff u3.ff) _ _ hvd)⟩, r3.e⟩ (Ex.tr (Ex.tr (Ex.tr l1 e1.ff) e2.ff) u3.ff)⟩⟩⟩
end
end Z
namespace Z
open PySem PySem.Spec PyProof.Rows L2
variable [Vo]
def InsF (F : Hp) (fs : List (Str × V)) (fds : List (Str × RP)) : Prop := Paired (fun (p : Str × V) (q : Str × RP) => p.1 = q.1 ∧ Mono q.2 ∧ q.2 F p.2) fs fds
theorem InsF.mono {F F' : Hp} {fs : List (Str × V)} {fds : List (Str × RP)} (e : Ex F F') (h : InsF F fs fds) : InsF F' fs fds := Paired.mp h fun _ _ q => ⟨q.1, q.2.1, q.2.1 _ _ _ e q.2.2⟩
def InsR (C : Addr) (fds : List (Str × RP)) : RP := fun F v => ∃ a dx fs, v = .ref a ∧ F a = some (.ins C dx fs) ∧ InsF F fs fds
theorem InsR.mo {C : Addr} {fds : List (Str × RP)} : Mono (InsR C fds) := fun _ _ _ e ⟨a, dx, fs, h1, h2, h3⟩ => ⟨a, dx, fs, h1, e _ _ h2, h3.mono e⟩
def InsO (C : Addr) (fds : List (Str × RP)) : OV where
  at_ := fun F o => ∃ dx fs, o = .ins C dx fs ∧ InsF F fs fds
  mo := fun F F' o e ⟨dx, fs, h, d⟩ => ⟨dx, fs, h, d.mono e⟩
  fz := InsR C fds
  fmo := InsR.mo
  fok := fun F a o h ⟨dx, fs, e, d⟩ => ⟨a, dx, fs, rfl, by rw [h, e], d⟩
  mv := fun F o ⟨dx, fs, e, _⟩ => by subst e; trivial
theorem InsF.get {F : Hp} {f : Str} {R : RP} : ∀ {fs : List (Str × V)} {fds : List (Str × RP)}, InsF F fs fds → fds.lookup f = some R → ∃ v, fs.lookup f = some v ∧ R F v
  | _, _, .nil, h => by cases h
  | (g, v) :: fs, (g', R') :: fds, .cons ⟨e, m, r⟩ t, h => by
    have e' : g = g' := e
    subst e'
    rw [List.lookup_cons] at h ⊢
    cases hb : f == g with
    | true =>
      rw [hb] at h
      have : R' = R := by simpa using h
      subst this
      exact ⟨v, rfl, r⟩
    | false =>
      rw [hb] at h
      exact InsF.get t h
theorem InsF.none {F : Hp} {f : Str} : ∀ {fs : List (Str × V)} {fds : List (Str × RP)}, InsF F fs fds → fds.lookup f = none → fs.lookup f = none
  | _, _, .nil, h => rfl
  | (g, v) :: fs, (g', R') :: fds, .cons ⟨e, m, r⟩ t, h => by
    have e' : g = g' := e
    subst e'
    rw [List.lookup_cons] at h ⊢
    cases hb : f == g with
    | true => rw [hb] at h; simp at h
    | false =>
      rw [hb] at h
      exact InsF.none t h
theorem InsF.len {F : Hp} {fs : List (Str × V)} {fds : List (Str × RP)} (h : InsF F fs fds) : fs.length = fds.length := Paired.length h
def putR (f : Str) (R : RP) : List (Str × RP) → List (Str × RP)
  | [] => [(f, R)]
  | (g, x) :: r => if g = f then (g, R) :: r else (g, x) :: putR f R r
theorem InsF.put {F : Hp} {f : Str} {R : RP} {v : V} (m : Mono R) (q : R F v) : ∀ {fs : List (Str × V)} {fds : List (Str × RP)}, InsF F fs fds → InsF F (putF f v fs) (putR f R fds)
  | _, _, .nil => .cons ⟨rfl, m, q⟩ .nil
  | (g, x) :: fs, (g', R') :: fds, .cons ⟨e, m', r⟩ t => by
    have e' : g = g' := e
    subst e'
    unfold putF putR
    by_cases h : g = f
    · rw [if_pos h, if_pos h]; exact .cons ⟨rfl, m, q⟩ t
    · rw [if_neg h, if_neg h]; exact .cons ⟨rfl, m', r⟩ (InsF.put m q t)
theorem putR_lt {f : Str} {R : RP} : ∀ {fds : List (Str × RP)} {n : Nat}, fds.length < n → (putR f R fds).length < n + 1
  | [], _, h => by simp [putR]; exact h
  | (g, x) :: r, 0, h => by cases h
  | (g, x) :: r, n + 1, h => by
    unfold putR
    split
    · exact Nat.lt_succ_of_lt h
    · exact Nat.succ_lt_succ (putR_lt (Nat.lt_of_succ_lt_succ h))
section
variable {X : Cx} {E : Env'} {R : RP} {e o : Expr} {es : List Expr} {pos apos p : Pos} {f m x : Str} {C : Addr} {fds : List (Str × RP)} {Rs : List RP} {d : PyData} {ds : List PyData}
theorem g_fld (he : GE X e E (InsR C fds)) (c : Cls X.K C) (n : NoAttr X.K C f) (l : fds.lookup f = some R := by rfl) (mo : Mono R := by first | exact DD.mo | exact RR.mo | assumption) (hb : attributeBase e f X.env (eval e X.env) = eval e X.env := by rfl) : GE X (.Attribute e f pos) E R :=
  ⟨pe_imp (pe_fld he.pe hb) fun σ H Q ⟨F, r, x, q⟩ => ⟨F, r, x, fun v F1 H1 e1 r1 => by
    obtain ⟨a, dx, fs, rfl, h1, h2⟩ := r1
    obtain ⟨u, hu, ru⟩ := h2.get l
    exact ⟨a, C, dx, fs, u, rfl, e1.fh.at h1, c, n, hu, q u F1 H1 e1 ru⟩⟩, mo⟩
structure MtD (P : Program) (w : World) (K : PySem.W.Frag) (mg : Str → Option Value) (base : Heap) (k : Nat) (C : Addr) (m : Str) (ps : List Str) (sp : Sp) : Prop where
  ex : ∃ f fd, Meth K C m f ∧ Binds K fd ps [] ∧ FnOk P w K mg base CX0 k f fd ps sp
theorem g_methG {pl : Sem Bool} {k : Nat} {ps : List Str} {q : List RP → PyData → Prop} (M : MtD X.prog X.w X.K X.mg X.base k C m ps (spG X.K q)) (c : Cls X.K C) (hr : Room k X.A) (ho : GE X o E (InsR C fds)) (ha : GA X (e :: es) E Rs) (hq : q (InsR C fds :: Rs) d) (hl : fds.lookup m = none := by rfl)
    (hst : starEach (e :: es) X.env = (false, eval e X.env) :: starEach es X.env := by rfl) (hpl : (backTo pos (starEach es X.env)).any (·.1) = false := by rfl)
    (ht : eval (.Call (.Attribute o m apos) (e :: es) [] pos) X.env = (do
      let ov ← eval o X.env
      standAt apos.atName
      let (f, first) ← holding [ov] (getMethod ov m pl)
      callWith pos f first (backTo pos (starEach (e :: es) X.env)) (backToKw pos (keywordEach [] X.env))) := by rfl) : GE X (.Call (.Attribute o m apos) (e :: es) [] pos) E (DD X.K d) := by
  obtain ⟨f, fd, hm, hb, F⟩ := M.ex
  exact ⟨pe_imp (pe_meth (pl := pl) ho.pe c hm F hr hb .nil (pass0 (X := X)) ha.pa hst hpl ht) fun σ H Q ⟨F, r, x, k⟩ => ⟨F, r, x, fun v F1 H1 e1 r1 => by
    obtain ⟨a, dx, fs, rfl, h1, h2⟩ := id r1
    refine ⟨a, dx, fs, rfl, e1.fh.at h1, h2.none hl, F1, r.mono e1.ff, e1.fh, fun vs F2 H2 e2 r2 => ?_⟩
    exact ⟨F2, _, d, e2.fh, .cons InsR.mo (InsR.mo _ _ _ e2.ff r1) (by rw [List.append_nil]; exact r2), hq, fun v F3 H3 e3 r3 => k v F3 H3 ((e1.trans e2).trans e3) r3⟩⟩, DD.mo⟩
theorem n_methN {pl : Sem Bool} {k : Nat} {ps : List Str} {q : List RP → List PyData → Prop} (M : MtD X.prog X.w X.K X.mg X.base k C m ps (spN X.K q)) (c : Cls X.K C) (hr : Room k X.A) (ho : GE X o E (InsR C fds)) (ha : GA X (e :: es) E Rs) (hq : q (InsR C fds :: Rs) ds) (hl : fds.lookup m = none := by rfl)
    (hst : starEach (e :: es) X.env = (false, eval e X.env) :: starEach es X.env := by rfl) (hpl : (backTo pos (starEach es X.env)).any (·.1) = false := by rfl)
    (ht : eval (.Call (.Attribute o m apos) (e :: es) [] pos) X.env = (do
      let ov ← eval o X.env
      standAt apos.atName
      let (f, first) ← holding [ov] (getMethod ov m pl)
      callWith pos f first (backTo pos (starEach (e :: es) X.env)) (backToKw pos (keywordEach [] X.env))) := by rfl) : GEN X (.Call (.Attribute o m apos) (e :: es) [] pos) E ds := by
  obtain ⟨f, fd, hm, hb, F⟩ := M.ex
  exact ⟨pe_imp (pe_meth (pl := pl) ho.pe c hm F hr hb .nil (pass0 (X := X)) ha.pa hst hpl ht) fun σ H Q ⟨F, r, x, k⟩ => ⟨F, r, x, fun v F1 H1 e1 r1 => by
    obtain ⟨a, dx, fs, rfl, h1, h2⟩ := id r1
    refine ⟨a, dx, fs, rfl, e1.fh.at h1, h2.none hl, F1, r.mono e1.ff, e1.fh, fun vs F2 H2 e2 r2 => ?_⟩
    exact ⟨F2, _, ds, e2.fh, .cons InsR.mo (InsR.mo _ _ _ e2.ff r1) (by rw [List.append_nil]; exact r2), hq, fun p us F3 H3 e3 n1 n2 h3 h4 => k p us F3 H3 ((e1.trans e2).trans e3) n1 ((e1.trans e2).hno n2) h3 h4⟩⟩⟩
theorem g_methG0 {pl : Sem Bool} {k : Nat} {ps : List Str} {q : List RP → PyData → Prop} (M : MtD X.prog X.w X.K X.mg X.base k C m ps (spG X.K q)) (c : Cls X.K C) (hr : Room k X.A) (ho : GE X o E (InsR C fds)) (hq : q [InsR C fds] d) (hl : fds.lookup m = none := by rfl)
    (ht : eval (.Call (.Attribute o m apos) [] [] pos) X.env = (do
      let ov ← eval o X.env
      standAt apos.atName
      let (f, first) ← holding [ov] (getMethod ov m pl)
      callWith pos f first (backTo pos (starEach [] X.env)) (backToKw pos (keywordEach [] X.env))) := by rfl) : GE X (.Call (.Attribute o m apos) [] [] pos) E (DD X.K d) := by
  obtain ⟨f, fd, hm, hb, F⟩ := M.ex
  exact ⟨pe_imp (pe_meth0 (pl := pl) ho.pe c hm F hr hb .nil (pass0 (X := X)) ht) fun σ H Q ⟨F, r, x, k⟩ => ⟨F, r, x, fun v F1 H1 e1 r1 => by
    obtain ⟨a, dx, fs, rfl, h1, h2⟩ := id r1
    exact ⟨a, dx, fs, rfl, e1.fh.at h1, h2.none hl, F1, _, d, e1.fh, .cons InsR.mo r1 .nil, hq, fun v F3 H3 e3 r3 => k v F3 H3 (e1.trans e3) r3⟩⟩, DD.mo⟩
end
def spMk (C : Addr) (q : List RP → RP → Prop) : Sp := fun vs H Q _ => ∃ F a dx rest Rs R, vs = .ref a :: rest ∧ H a = some (.ins C dx []) ∧ F a = none ∧ Fh F H ∧ All2 F Rs rest ∧ q Rs R ∧
  ∀ F' H', Ex F F' → Fh F' H' → (∀ b o, b ≠ a → (∀ s : Note, F b ≠ some (.dT s)) → H b = some o → H' b = some o) → (∀ b o, b ≠ a → F b = none → H b = some o → F' b = none) → R F' (.ref a) → Q .non H'
structure MkD (P : Program) (w : World) (K : PySem.W.Frag) (mg : Str → Option Value) (base : Heap) (k : Nat) (x : Str) (C : Addr) (ps : List Str) (q : List RP → RP → Prop) : Prop where
  ex : ∃ f fd, Mk K C f ∧ mg x = some (.ref C) ∧ Binds K fd ps [] ∧ FnOk P w K mg base CX0 k f fd ps (spMk C q)
section
variable {X : Cx} {E : Env'} {R : RP} {e : Expr} {es : List Expr} {pos p : Pos} {x : Str} {C : Addr} {Rs : List RP}
theorem g_make {k : Nat} {ps : List Str} {q : List RP → RP → Prop} (M : MkD X.prog X.w X.K X.mg X.base k x C ps q) (hr : Room (k + 1) X.A) (ha : GA X (e :: es) E Rs) (hq : q Rs R) (mo : Mono R) (hg : Gl X x := by rfl) (hdb : (x == ("__debug__" : Str)) = false := by decide)
    (he : starEach (e :: es) X.env = (false, eval e X.env) :: starEach es X.env := by rfl) (hpl : (backTo pos (starEach es X.env)).any (·.1) = false := by rfl) : GE X (.Call (.Name x p) (e :: es) [] pos) E R := by
  obtain ⟨f, fd, hM, hm, hb, F⟩ := M.ex
  refine ⟨pe_imp (pe_make hM F hr hg hm hb .nil (pass0 (X := X)) ha.pa hdb he hpl) fun σ H Q ⟨F, r, x, k⟩ => ⟨F, r, x, fun vs F1 H1 e1 r1 a dx na nd hne => ?_⟩, mo⟩
  have hF : F1 a = none := e1.fh.no na
  have hFd : F1 dx = none := e1.fh.no nd
  refine ⟨F1, a, dx, vs, Rs, R, by rw [List.append_nil], upd_same, hF, (e1.fh.wr hFd).wr hF, r1, hq, fun F' H' k1 k2 k3 k4 k5 => ⟨rfl, k _ F' H' (e1.trans ⟨k1, k2, fun b o n h => ?_, fun b o h1 h2 => ?_⟩) k5⟩⟩
  · refine k3 b o (ne_of_none h na) n ?_
    rw [upd_ne (ne_of_none h na), upd_ne (ne_of_none h nd)]
    exact h
  · refine k4 b o (ne_of_none h2 na) h1 ?_
    rw [upd_ne (ne_of_none h2 na), upd_ne (ne_of_none h2 nd)]
    exact h2
end
section
variable {B : Bk} {E : Env'} {os : OS} {P : DE} {rest : List Stmt} {e recv : Expr} {pos pos' : Pos} {l C : Addr} {R : RP} {f : Str} {fds : List (Str × RP)}
theorem ws_fld (j : Nat) (c : Cls B.X.K C) (n : NoAttr B.X.K C f) (hr : GE B.X recv E (RR l)) (ho : os[j]? = some (l, InsO C fds)) (he : GE B.X e E R) (k : WS B rest E (os.set j (l, InsO C (putR f R fds))) P) (hz : fds.length < 1000 := by first | decide | exact (putR_lt (by decide)) | exact (putR_lt (putR_lt (by decide))) | exact (putR_lt (putR_lt (putR_lt (by decide)))) | exact (putR_lt (putR_lt (putR_lt (putR_lt (by decide))))) | exact (putR_lt (putR_lt (putR_lt (putR_lt (putR_lt (by decide)))))) | exact (putR_lt (putR_lt (putR_lt (putR_lt (putR_lt (putR_lt (by decide))))))) | exact (putR_lt (putR_lt (putR_lt (putR_lt (putR_lt (putR_lt (putR_lt (by decide)))))))))
    (hs : swapsWith e (some (.Attribute recv f pos')) pos.line B.X.env = pure false := by rfl) : WS B (.Assign [.Attribute recv f pos'] e pos :: rest) E os P :=
  ws_of (ps_fld hr.pe he.pe hs) fun L D σ F H m r l1 => ⟨F, r.e, r.o.fm.fh, fun v F1 H1 e1 hv => ⟨F1, r.e.mono e1.ff, e1.fh, fun u F2 H2 e2 hu => by
    have eu : u = .ref l := hu
    subst eu
    have r2 := (r.ext e1).ext e2
    obtain ⟨_, _, o2, h2, dx, fs, rfl, d2⟩ := r2.o.ow _ (List.mem_of_getElem? ho)
    exact ⟨l, C, dx, fs, rfl, h2, c, n, by rw [d2.len]; exact hz, k.run L D _ F2 _ m ⟨r2.o.write ho ⟨dx, _, rfl, d2.put he.mo (he.mo _ _ _ e2.ff hv)⟩, r2.e⟩ (Ex.tr (Ex.tr l1 e1.ff) e2.ff)⟩⟩⟩
theorem ws_fldD (j : Nat) {dpos : Pos} (c : Cls B.X.K C) (n : NoAttr B.X.K C f) (hr : GE B.X recv E (RR l)) (ho : os[j]? = some (l, InsO C fds)) (k : ∀ d, WS B rest E ((os ++ [(d, Dc B.X.K [])]).set j (l, InsO C (putR f (RR d) fds))) P) (hz : fds.length < 1000 := by first | decide | exact (putR_lt (by decide)) | exact (putR_lt (putR_lt (by decide))) | exact (putR_lt (putR_lt (putR_lt (by decide)))) | exact (putR_lt (putR_lt (putR_lt (putR_lt (by decide))))) | exact (putR_lt (putR_lt (putR_lt (putR_lt (putR_lt (by decide)))))) | exact (putR_lt (putR_lt (putR_lt (putR_lt (putR_lt (putR_lt (by decide))))))) | exact (putR_lt (putR_lt (putR_lt (putR_lt (putR_lt (putR_lt (putR_lt (by decide)))))))))
    (hs : swapsWith (.Dict [] [] dpos) (some (.Attribute recv f pos')) pos.line B.X.env = pure false := by rfl) : WS B (.Assign [.Attribute recv f pos'] (.Dict [] [] dpos) pos :: rest) E os P :=
  ws_of (ps_fld hr.pe pe_dnewK hs) fun L D σ F H m r l1 => fun p hp => by
    have en := Ext.out r.o.fm.fh hp (.dK [])
    have ro := r.o.grow en ((r.o.fm.fh.no hp)) hp upd_same (ov := Dc B.X.K []) ⟨[], rfl, .nil⟩
    have ho' : (os ++ [(p, Dc B.X.K [])])[j]? = some (l, InsO C fds) := by
      rw [List.getElem?_append_left (List.getElem?_eq_some_iff.mp ho).1]; exact ho
    refine ⟨F, r.e, ro.fm.fh, fun u F2 H2 e2 hu => ?_⟩
    have eu : u = .ref l := hu
    subst eu
    have r2 := ro.ext e2
    obtain ⟨_, _, o2, h2, dx, fs, rfl, d2⟩ := r2.ow _ (List.mem_of_getElem? ho')
    exact ⟨l, C, dx, fs, rfl, h2, c, n, by rw [d2.len]; exact hz, (k p).run L D _ F2 _ m ⟨r2.write ho' ⟨dx, _, rfl, d2.put RR.mo rfl⟩, r.e.mono e2.ff⟩ (Ex.tr l1 e2.ff)⟩
end
section
variable {B : Bk} {E : Env'} {os : OS} {P : DE} {sts : List Stmt}
theorem ws_open {ι : Type} (i : Nat) {Rc : ι → RP} (mo : ∀ c, Mono (Rc c)) (k : ∀ c, WS B sts (E.set i (some (Rc c))) os P) (h : E[i]? = some (some (fun F v => ∃ c, Rc c F v)) := by rfl) : WS B sts E os P :=
  ⟨fun L D σ F H m r l => by
    obtain ⟨_, v, hv, c, hr⟩ := r.e.at_ i _ h
    refine (k c).run L D σ F H m ⟨r.o, ⟨fun j R q => ?_, by rw [List.length_set]; exact r.e.l⟩⟩ l
    rw [List.getElem?_set] at q
    by_cases hj : i = j
    · subst hj
      rw [if_pos rfl] at q
      split at q
      · have e : Rc c = R := by simpa using q
        subst e
        exact ⟨mo c, v, hv, hr⟩
      · cases q
    · rw [if_neg hj] at q
      exact r.e.at_ j R q⟩
end
structure OwnAt (os : OS) (F H : Hp) : Prop where
  nd : (os.map (·.1)).Nodup
  ow : ∀ p, p ∈ os → F p.1 = none ∧ ∃ o, H p.1 = some o ∧ p.2.at_ F o
def RtI (a : Addr) (R : RP) : DE := { nx := fun _ os => ∀ F H, Fh F H → OwnAt os F H → ∃ F', Ex F F' ∧ Fh F' H ∧ (∀ b, F b = none → F' b ≠ none → b ∈ os.map (·.1)) ∧ R F' (.ref a), rt := fun _ _ => False }
theorem rti_of {a : Addr} {R : RP} {E : Env'} {os : OS} {o : OV} (ho : (a, o) ∈ os) (h : ∀ F v, o.fz F v → R F v) : (RtI a R).nx E os := fun F H fh ow => by
  obtain ⟨f, u, hu, q⟩ := ow.ow _ ho
  refine ⟨upd F a u, ex_upd f, fh.put f hu (o.mv _ _ q).ng, fun b h1 h2 => ?_, h _ _ (o.fok _ a u upd_same (o.mo _ _ _ (ex_upd f) q))⟩
  by_cases e : b = a
  · subst e; exact List.mem_map.mpr ⟨_, ho, rfl⟩
  · rw [upd_ne e] at h2; exact absurd h1 h2
section
variable {P : Program} {w : World} {K : PySem.W.Frag} {mg : Str → Option Value} {base : Heap}
theorem fn_I {x qual : Str} {C : Addr} {st : Stmt} {f : Addr} {fd : FuncData} {N ps : List Str} {k : Nat} {q : List RP → RP → Prop} (F : Fun K x qual st f fd) (S : FnScope N ps (defScope st)) (len : ∀ Rs d, q Rs d → Rs.length + 1 = ps.length)
    (hb : ∀ (cdv : Value) (A : Around) (outer : List Env) (s : Shared) (H F0 : Hp) (E : XK), Room k (cxN P w K mg base N qual st f cdv A outer s H E).A → ∀ a Rs R, q Rs R → WS ⟨cxN P w K mg base N qual st f cdv A outer s H E, F0, H, [a], WN⟩ (defBody st) (entG N.length (RR a :: Rs)) [(a, InsO C [])] (RtI a R)) :
    FnOk P w K mg base CX0 (k + 1) f fd ps (spMk C q) := by
  refine F.ok S (fun vs H Q E ⟨F, a, dx, rest, Rs, R, e, _, _, _, h, hq, _⟩ => by rw [e, List.length_cons, h.len]; exact len Rs R hq) (fun cdv A outer s H vs Q E hr ⟨F0, a, dx, rest, Rs, R, ev, ha, hF, ex, h, hq, kk⟩ => ⟨_, w_can, ?_⟩)
  subst ev
  refine (hb cdv A outer s H F0 E hr a Rs R hq).run F0 _ (L2.start N (.ref a :: rest)) F0 H ⟨fun E' os σ F' H' hR r l => ?_, fun R os v F' H' z => z.elim, fun E' os σ F' H' z => z.elim, fun E' os σ F' H' z => z.elim, fun _ _ _ _ _ _ _ _ z => z.elim⟩
    ⟨⟨⟨fun _ _ q => q, ex, fun a o _ _ q => q, fun a o q _ => q, fun b q => by
      have e : b = a := by simpa using q
      subst e; exact ⟨hF, _, ha⟩⟩, by simp, fun p hp => by
      have e : p = (a, InsO C []) := by simpa using hp
      subst e
      exact ⟨hF, .inr (by simp), _, ha, dx, [], rfl, .nil⟩⟩, rep_startG (.cons RR.mo rfl h)⟩ (fun _ _ q => q)
  obtain ⟨F2, x1, x2, x3, x4⟩ := hR F' H' r.o.fm.fh ⟨r.o.nd, fun p hp => by
    obtain ⟨f, _, q⟩ := r.o.ow p hp
    exact ⟨f, q⟩⟩
  refine kk F2 H' (fun b o q => x1 b o (r.o.fm.ff b o q)) x2 (fun b o hne n q => r.o.fm.hh b o (by simpa using hne) n q) (fun b o hne q1 q2 => ?_) x4
  have f1 := r.o.fm.nf b o q1 q2
  cases e : F2 b with
  | none => rfl
  | some u =>
    obtain ⟨p, hp, rfl⟩ := List.mem_map.mp (x3 b f1 (by rw [e]; exact nofun))
    obtain ⟨_, g, _⟩ := r.o.ow p hp
    rcases g with g | g
    · exact absurd (q2.symm.trans g) nofun
    · exact absurd (by simpa using g) hne
end
end Z
namespace Z
open PySem PySem.Spec PyProof.Rows L2
variable [Vo]
mutual
def nkOf : PyData → NestedKey
  | .bool b => .num (if b then 1 else 0)
  | .int i => .num i
  | .str x => .text x
  | .tuple ds => .tup (nkAll ds)
  | .none => .none
  | .list _ => .none
  | .dict _ => .none
def nkAll : List PyData → List NestedKey
  | [] => []
  | d :: ds => nkOf d :: nkAll ds
end
mutual
def nkOk : PyData → Bool
  | .bool _ | .int _ | .str _ | .none => true
  | .tuple ds => nkOkAll ds
  | .list _ => false
  | .dict _ => false
def nkOkAll : List PyData → Bool
  | [] => true
  | d :: ds => nkOk d && nkOkAll ds
end
mutual
theorem ndf_nk : ∀ d : PyData, nkOk d = true → ndf d = true
  | .none, _ => rfl
  | .bool _, _ => rfl
  | .int _, _ => rfl
  | .str _, _ => rfl
  | .list _, h => by simp [nkOk] at h
  | .tuple ds, h => by simp only [ndf]; exact ndf_nkAll ds (by simpa [nkOk] using h)
  | .dict _, h => by simp [nkOk] at h
theorem ndf_nkAll : ∀ ds : List PyData, nkOkAll ds = true → ndfAll ds = true
  | [], _ => rfl
  | d :: ds, h => by
    have h' : nkOk d = true ∧ nkOkAll ds = true := by simpa [nkOkAll] using h
    simp only [ndfAll, Bool.and_eq_true]
    exact ⟨ndf_nk d h'.1, ndf_nkAll ds h'.2⟩
end
section
variable {X : Cx} {pins : List (Addr × Obj)} {σ : L2.St} {H : Hp} {s : Shared}
mutual
theorem nk_is (I : L2.Inv X pins σ H s) : ∀ (d : PyData) (v : V) (u : Value), nkOk d = true → Dp X.K H v d → L2.RelV v u → NestedIs s.heap (nkOf d) u
  | .none, _, _, _, h, r => by
    cases h; cases r
    exact .none
  | .bool b, _, _, _, h, r => by
    cases h; cases r
    exact .bool rfl
  | .int i, _, _, _, h, r => by
    cases h
    obtain ⟨t, rfl⟩ := r
    exact .int i t
  | .str x, _, _, _, h, r => by
    cases h
    obtain ⟨t, rfl⟩ := r
    exact .text x t
  | .tuple ds, _, _, q, h, r => by
    cases h with
    | tup hs ha =>
      cases r
      obtain ⟨its, rv, ⟨o, ho, hc, n, hd⟩, _⟩ := I.tuple hs
      exact .tup ho hc hd (nk_all I ds _ its (by simpa [nkOk] using q) ha rv)
  | .list _, _, _, q, _, _ => by simp [nkOk] at q
  | .dict _, _, _, q, _, _ => by simp [nkOk] at q
theorem nk_all (I : L2.Inv X pins σ H s) : ∀ (ds : List PyData) (vs : List V) (us : List Value), nkOkAll ds = true → DpAll X.K H vs ds → Vals vs us → NestedAll s.heap (nkAll ds) us
  | [], _, _, _, h, r => by
    cases h; cases r
    exact .nil
  | d :: ds, _, _, q, h, r => by
    cases h with
    | cons h1 h2 =>
      cases r with
      | cons r1 r2 =>
        have q' : nkOk d = true ∧ nkOkAll ds = true := by simpa [nkOkAll] using q
        exact .cons (nk_is I d _ _ q'.1 h1 r1) (nk_all I ds _ _ q'.2 h2 r2)
end
end
abbrev NX := List (NestedKey × Addr × Value)
def NDx (P : Program) (w : World) (l : Addr) (xs : NX) : HO := .ext fun h => (l == sysModules) = false ∧ ∃ o es ep, h.get? l = some o ∧ o.ExactDict ∧ o.data = .dict es ep ∧ es.toList = xs.map (entryOfKey (nestedKind P w)) ∧ (xs.map (·.1)).Nodup
theorem nd_ok {P : Program} {w : World} {H : Hp} {h : Heap} {l : Addr} {xs : NX} (hl : (l == sysModules) = false) {o : Obj} {es : Array DictEntry} {ep : Nat} (ho : h.get? l = some o) (hx : o.ExactDict) (hd : o.data = .dict es ep) (he : es.toList = xs.map (entryOfKey (nestedKind P w))) (hn : (xs.map (·.1)).Nodup) : ObjOk P w H h l (NDx P w l xs) :=
  ⟨⟨hl, o, es, ep, ho, hx, hd, he, hn⟩, ⟨o, ho⟩, fun h1 h2 ⟨q1, o, es, ep, q2, q3⟩ k => ⟨q1, o, es, ep, k o q2, q3⟩⟩
def NDr {κ : Type} (K : PySem.W.Frag) (enc : κ → PyData) (F : Hp) (xs : NX) (kvs : List (κ × PyData)) : Prop :=
  Paired (fun (x : NestedKey × Addr × Value) (p : κ × PyData) => x.1 = nkOf (enc p.1) ∧ Da K F (.ref x.2.1) (enc p.1) ∧ ∃ v, L2.RelV v x.2.2 ∧ Da K F v p.2) xs kvs
theorem NDr.mono {κ : Type} {K : PySem.W.Frag} {enc : κ → PyData} {F F' : Hp} {xs : NX} {kvs : List (κ × PyData)} (e : Ex F F') (h : NDr K enc F xs kvs) : NDr K enc F' xs kvs :=
  Paired.mp h fun _ _ ⟨q1, q2, v, q3, q4⟩ => ⟨q1, da_mono e _ _ q2, v, q3, da_mono e _ _ q4⟩
structure NKey {κ : Type} [DecidableEq κ] (enc : κ → PyData) : Prop where
  ok : ∀ k, nkOk (enc k) = true
  dep : ∀ k, (nkOf (enc k)).depth ≤ 8
  inj : ∀ k k', nkOf (enc k) = nkOf (enc k') → k = k'
  tup : ∀ k, ∃ ds, enc k = .tuple ds
def NDo {κ : Type} (P : Program) (w : World) (K : PySem.W.Frag) (l : Addr) (enc : κ → PyData) (kvs : List (κ × PyData)) : OV where
  at_ := fun F o => ∃ xs, o = NDx P w l xs ∧ NDr K enc F xs kvs
  mo := fun F F' o e ⟨xs, h, d⟩ => ⟨xs, h, d.mono e⟩
  fz := fun _ _ => True
  fmo := fun _ _ _ _ _ => trivial
  fok := fun _ _ _ _ _ => trivial
  mv := fun F o ⟨xs, e, _⟩ => by subst e; trivial
section
variable {X : Cx} {pos pos' tpos : Pos} {o i value e : Expr} {td ty tv te : TE}
theorem pe_dnewN : PE X (.Dict [] [] pos) (fun _ H Q => ∀ p, H p = none → Q (.ref p) (upd H p (NDx X.prog X.w p []))) := ⟨fun pins s σ H Q I h =>
  wpAny_Dict_empty ⟨.ref s.heap.objs.size, _, I.laid (a := s.heap.objs.size) (o := NDx X.prog X.w s.heap.objs.size []) (t' := s.toks) (fun _ _ q => Heap.get?_push_of_some _ q) (Nat.le_refl _)
    (nd_ok (beq_eq_false_iff_ne.mpr (Ne.symm (Nat.ne_of_lt I.big))) (Heap.get?_push_size s.heap rfl) ⟨rfl, rfl, rfl⟩ rfl rfl List.nodup_nil), rfl, h _ (I.hok.fresh (Nat.le_refl _))⟩⟩
theorem nd_keys {pins : List (Addr × Obj)} {σ : L2.St} {H F : Hp} {s : Shared} {κ : Type} [DecidableEq κ] {enc : κ → PyData} (N : NKey enc) (I : L2.Inv X pins σ H s) (hF : Fh F H) : ∀ {xs : NX} {kvs : List (κ × PyData)}, NDr X.K enc F xs kvs → ∀ x ∈ xs, (nestedKind X.prog X.w).is s.heap x.1 x.2.1
  | _, _, .nil => fun x hx => nomatch hx
  | _, _, .cons ⟨h1, h2, _⟩ t => fun x hx => by
    rcases List.mem_cons.mp hx with e | hx
    · subst e
      rw [h1]
      exact ⟨nk_is I _ _ _ (N.ok _) (da_dp hF _ _ (ndf_nk _ (N.ok _)) h2) rfl, N.dep _⟩
    · exact nd_keys N I hF t x hx
theorem nd_h {pins : List (Addr × Obj)} {σ : L2.St} {H F : Hp} {s : Shared} {κ : Type} [DecidableEq κ] {enc : κ → PyData} (N : NKey enc) {l : Addr} {xs : NX} {kvs : List (κ × PyData)} (I : L2.Inv X pins σ H s) (hl : H l = some (NDx X.prog X.w l xs)) (hF : Fh F H) (r : NDr X.K enc F xs kvs) :
    (l == sysModules) = false ∧ s.heap.DictOfH (nestedKind X.prog X.w) l xs := by
  obtain ⟨⟨q1, o, es, ep, q2, q3, q4, q5, q6⟩, _, _⟩ := I.hok l _ hl
  refine ⟨q1, o, es, ep, q2, q3, q4, q5, ?_, q6⟩
  exact nd_keys N I hF r
def sNPut (X : Cx) (td ty tv : TE) : TS := fun D σ H => tv σ H fun v H1 => td σ H1 fun x H2 => ty σ H2 fun y H3 => ∃ (l b : Addr) (xs : NX) (k : NestedKey), x = .ref l ∧ y = .ref b ∧ H3 l = some (NDx X.prog X.w l xs) ∧ xs.length < sizeLine ∧
  (∀ (pins : List (Addr × Obj)) (σ : L2.St) (s : Shared), L2.Inv X pins σ H3 s → s.heap.DictOfH (nestedKind X.prog X.w) l xs ∧ (nestedKind X.prog X.w).is s.heap k b) ∧
  ∀ u, L2.RelV v u → D.nx σ (upd H3 l (NDx X.prog X.w l (storedH xs k b u)))
theorem ps_nput (hu : X.A.units + 9 < cLine) (ho : PE X o td) (hi : PE X i ty) (hv : PE X value tv) (hs : swapsWith value (some (.Subscript o i pos')) pos.line X.env = pure false) :
    PS X (.Assign [.Subscript o i pos'] value pos) (sNPut X td ty tv) := by
  refine ⟨fun pins s σ H D I h => ?_⟩
  refine wpAny_Assign_Subscript (thn (hv.run pins s σ H _ I h) fun r s1 ⟨v, H1, I1, rv, q1⟩ => thn (ho.run pins s1 σ H1 _ I1 q1) fun u s2 ⟨x, H2, I2, rx, q2⟩ => thn (hi.run pins s2 σ H2 _ I2 q2) fun iv s3 ⟨y, H3, I3, ry, l, b, xs, k, ex, ey, hl, hz, hk, q3⟩ => ?_) hs
  subst ex ey
  obtain rfl : u = Value.ref l := rx
  obtain rfl : iv = Value.ref b := ry
  obtain ⟨d1, k1⟩ := hk pins σ s3 I3
  have hl0 := (I3.hok l _ hl).1.1
  refine wpAny_setItem_heap (hsz := by omega) (by show X.A.units + _ + 8 < cLine; omega) k1 d1 fun h' d2 hs2 => ?_
  obtain ⟨ob, es, ep, g1, g2, g3, g4, _, g6⟩ := d2
  exact ⟨σ, _, d_write I3 (by rw [hl]; exact True.intro) hs2 ⟨ob, g1⟩ (nd_ok hl0 g1 g2 g3 g4 g6), q3 r rv⟩
theorem call_list_nd (hc : X.calm = true) : CallR X (.type "list") (fun vs H Q => ∃ l xs, vs = [V.ref l] ∧ H l = some (NDx X.prog X.w l xs) ∧ xs.length ≤ sizeLine ∧ ∀ p, H p = none → Q (.ref p) (upd H p (.lst (xs.map fun x => V.ref x.2.1)))) := by
  intro pins s σ H vs us Q I r h
  obtain ⟨l, ks, rfl, hl, hz0, q⟩ := h
  obtain ⟨u, rfl, rx⟩ := r.one
  cases rx
  obtain ⟨⟨q1, o, es, ep, ho, hx, hdt, he, hn⟩, _, _⟩ := I.hok l _ hl
  have l1 : es.size = ks.length := size_of_entries he
  refine PySem.W.kdl_call (kdl_raw q1 hx hdt) (I.ok.hd hc) ho (by omega) fun h' tk acc' c' kp e it => ?_
  have ea : acc'.toList = ks.map fun x => Value.ref x.2.1 := by
    have hl : acc'.toList.length = ks.length := by rw [Array.length_toList, it.1]; exact l1
    apply List.ext_getElem?
    intro j
    rw [List.getElem?_map]
    cases hj : acc'.toList[j]? with
    | none =>
      have h1 := List.getElem?_eq_none_iff.mp hj
      rw [List.getElem?_eq_none (by omega)]
      all_goals rfl
    | some v =>
      obtain ⟨en, hen, hv⟩ := it.2 j v (by rw [← Array.getElem?_toList]; exact hj)
      have qe := entry_at he j
      rw [hen] at qe
      cases hb : ks[j]? with
      | none =>
        rw [hb] at qe
        exact nomatch (show some en = none from qe)
      | some b =>
        rw [hb] at qe
        have e2 : en = entryOfKey (nestedKind X.prog X.w) b := Option.some.inj qe
        rw [hv, e2]
        all_goals rfl
  have eb : acc'.toList = (ks.map fun x => x.2.1).map Value.ref := by rw [ea, List.map_map]; all_goals rfl
  have rv : Vals ((ks.map fun x => x.2.1).map V.ref) acc'.toList := by rw [eb]; exact vals_refs _
  have hz : ((ks.map fun x => x.2.1).map V.ref).length ≤ sizeLine := by rw [List.length_map, List.length_map]; omega
  have e3 : (ks.map fun x => V.ref x.2.1) = (ks.map fun x => x.2.1).map V.ref := by rw [List.map_map]; rfl
  rw [e3] at q
  exact ⟨.ref s.heap.objs.size, _, I.laid (t' := tk) (o := .lst ((ks.map fun x => x.2.1).map V.ref)) kp (Nat.le_refl _) ⟨hz, acc'.toList, c', rv, by rw [Array.toArray_toList]; exact e⟩, rfl, q _ (I.hok.fresh (Nat.le_refl _))⟩
end
theorem NDr.any {κ : Type} [DecidableEq κ] {K : PySem.W.Frag} {enc : κ → PyData} (N : NKey enc) {F : Hp} (k : κ) : ∀ {xs : NX} {kvs : List (κ × PyData)}, NDr K enc F xs kvs → (atKey xs (nkOf (enc k))).isSome = kvs.any fun kv => decide (kv.1 = k)
  | _, _, .nil => rfl
  | x :: xs, p :: kvs, .cons ⟨h1, h2, h3⟩ t => by
    have ih := NDr.any N k t
    unfold atKey at ih ⊢
    by_cases h : p.1 = k
    · have e : x.1 = nkOf (enc k) := by rw [h1, h]
      rw [List.find?_cons_of_pos (by simp [e]), List.any_cons, decide_eq_true h]
      rfl
    · have e : ¬ x.1 = nkOf (enc k) := fun e => h (N.inj _ _ (h1.symm.trans e))
      rw [List.find?_cons_of_neg (by simp [e]), List.any_cons, decide_eq_false h, ih]
      rfl
theorem NDr.repl {κ : Type} [DecidableEq κ] {K : PySem.W.Frag} {enc : κ → PyData} (N : NKey enc) {F : Hp} (k : κ) {u : Value} {v : V} {d : PyData} (hu : L2.RelV v u) (hv : Da K F v d) : ∀ {xs : NX} {kvs : List (κ × PyData)}, NDr K enc F xs kvs → NDr K enc F (xs.map (putAt (nkOf (enc k)) u)) (kvs.map fun kv => if kv.1 = k then (kv.1, d) else kv)
  | _, _, .nil => .nil
  | x :: xs, p :: kvs, .cons ⟨h1, h2, h3⟩ t => by
    rw [List.map_cons, List.map_cons]
    refine .cons ?_ (NDr.repl N k hu hv t)
    unfold putAt
    by_cases h : p.1 = k
    · have e : x.1 = nkOf (enc k) := by rw [h1, h]
      rw [if_pos e, if_pos h]
      exact ⟨h1, h2, v, hu, hv⟩
    · have e : ¬ x.1 = nkOf (enc k) := fun e => h (N.inj _ _ (h1.symm.trans e))
      rw [if_neg e, if_neg h]
      exact ⟨h1, h2, h3⟩
theorem NDr.snoc {κ : Type} {K : PySem.W.Frag} {enc : κ → PyData} {F : Hp} : ∀ {xs : NX} {kvs : List (κ × PyData)} {x : NestedKey × Addr × Value} {p : κ × PyData}, NDr K enc F xs kvs → (x.1 = nkOf (enc p.1) ∧ Da K F (.ref x.2.1) (enc p.1) ∧ ∃ v, L2.RelV v x.2.2 ∧ Da K F v p.2) → NDr K enc F (xs ++ [x]) (kvs ++ [p])
  | _, _, _, _, .nil, h => .cons h .nil
  | _, _, _, _, .cons h t, q => .cons h (NDr.snoc t q)
theorem NDr.put {κ : Type} [DecidableEq κ] {K : PySem.W.Frag} {enc : κ → PyData} (N : NKey enc) {F : Hp} {k : κ} {b : Addr} {u : Value} {v : V} {d : PyData} {xs : NX} {kvs : List (κ × PyData)} (h : NDr K enc F xs kvs) (hb : Da K F (.ref b) (enc k)) (hu : L2.RelV v u) (hv : Da K F v d) : NDr K enc F (storedH xs (nkOf (enc k)) b u) (dput kvs k d) := by
  unfold storedH dput
  rw [NDr.any N k h]
  split
  · exact h.repl N k hu hv
  · exact h.snoc ⟨rfl, hb, v, hu, hv⟩
theorem NDr.len {κ : Type} {K : PySem.W.Frag} {enc : κ → PyData} {F : Hp} {xs : NX} {kvs : List (κ × PyData)} (h : NDr K enc F xs kvs) : xs.length = kvs.length := Paired.length h
theorem NDr.keys {κ : Type} {K : PySem.W.Frag} {enc : κ → PyData} {F : Hp} : ∀ {xs : NX} {kvs : List (κ × PyData)}, NDr K enc F xs kvs → DaAll K F (xs.map fun x => V.ref x.2.1) (kvs.map fun p => enc p.1)
  | _, _, .nil => .nil
  | _, _, .cons ⟨_, h2, _⟩ t => .cons h2 (NDr.keys t)
section
variable {B : Bk} {E V' : Env'} {os os' : OS} {P : DE} {rest : List Stmt} {e recv ix : Expr} {R : RP} {pos pos' p : Pos} {l : Addr} {κ : Type} [DecidableEq κ] {enc : κ → PyData} {kvs : List (κ × PyData)} {k : κ} {d : PyData}
theorem ws_newND (i : Nat) (enc : κ → PyData) {x : Str} {dpos : Pos} (hN : B.X.N.Nodup) (hi : B.X.N[i]? = some x) (hx : Loc B.X.env.scope x) (q : ∀ l, WS B rest (E.set i (some (RR l))) (os ++ [(l, NDo B.X.prog B.X.w B.X.K l enc [])]) P)
    (hs : swapsWith (.Dict [] [] dpos) (some (.Name x pos')) pos.line B.X.env = pure false := by rfl) (hf : B.X.fn x = true ∨ B.X.env.scope.names.lookup x = some .local := by first | exact .inl rfl | exact .inr rfl | assumption) :
    WS B (.Assign [.Name x pos'] (.Dict [] [] dpos) pos :: rest) E os P :=
  ws_of (ps_set hN hi hx pe_dnewN hs hf) fun L D σ F H m r l1 => fun p hp => by
    have en := Ext.out r.o.fm.fh hp (NDx B.X.prog B.X.w p [])
    exact (q p).run L D _ F _ m ⟨r.o.grow en ((r.o.fm.fh.no hp)) hp upd_same ⟨[], rfl, .nil⟩, r.e.set RR.mo rfl⟩ l1
theorem ws_nput (j : Nat) (N : NKey enc) (hu : B.X.A.units + 9 < cLine) (hr : GE B.X recv E (RR l)) (ho : os[j]? = some (l, NDo B.X.prog B.X.w B.X.K l enc kvs)) (hi : GE B.X ix E (DD B.X.K (enc k))) (he : GE B.X e E (DD B.X.K d)) (hz : kvs.length < sizeLine) (q : WS B rest E (os.set j (l, NDo B.X.prog B.X.w B.X.K l enc (dput kvs k d))) P)
    (hs : swapsWith e (some (.Subscript recv ix pos')) pos.line B.X.env = pure false := by rfl) : WS B (.Assign [.Subscript recv ix pos'] e pos :: rest) E os P :=
  ws_of (ps_nput hu hr.pe hi.pe he.pe hs) fun L D σ F H m r l1 => ⟨F, r.e, r.o.fm.fh, fun v F1 H1 e1 hv => ⟨F1, r.e.mono e1.ff, e1.fh, fun u F2 H2 e2 hu2 => ⟨F2, (r.e.mono e1.ff).mono e2.ff, e2.fh, fun w F3 H3 e3 hw => by
    have eu : u = .ref l := hu2
    subst eu
    obtain ⟨ds, hds⟩ := N.tup k
    have hw' : Da B.X.K F3 w (enc k) := hw
    obtain ⟨b, vs, rfl, _, _⟩ := DD.tup_inv (ds := ds) (by rw [← hds]; exact hw)
    have r3 := ((r.ext e1).ext e2).ext e3
    obtain ⟨f3, _, o3, h3, xs, rfl, d3⟩ := r3.o.ow _ (List.mem_of_getElem? ho)
    have f13 := Ex.tr e2.ff e3.ff
    refine ⟨l, b, xs, nkOf (enc k), rfl, rfl, h3, by rw [d3.len]; exact hz, fun pins σ' s' I => ⟨(nd_h N I h3 r3.o.fm.fh d3).2, nk_is I _ _ _ (N.ok _) (da_dp r3.o.fm.fh _ _ (ndf_nk _ (N.ok _)) hw') rfl, N.dep _⟩, fun u hu3 => ?_⟩
    · exact q.run L D _ F3 _ m ⟨r3.o.write ho ⟨_, rfl, d3.put N hw' hu3 (da_mono f13 _ _ hv)⟩, r3.e⟩ (Ex.tr (Ex.tr l1 e1.ff) f13)⟩⟩⟩
theorem ws_listND (i j : Nat) {x : Str} {spos : Pos} (Bn : Bn B.X.mg) (hc : B.X.calm = true) (hN : B.X.N.Nodup) (hi : B.X.N[i]? = some x) (hx : Loc B.X.env.scope x) (hr : GE B.X recv E (RR l)) (ho : os[j]? = some (l, NDo B.X.prog B.X.w B.X.K l enc kvs)) (hz : kvs.length ≤ sizeLine) (q : WS B rest (E.set i (some (DD B.X.K (.list (kvs.map fun p => enc p.1))))) os P)
    (hg : Gl B.X "list" := by rfl) (hst : starEach [recv] B.X.env = (false, eval recv B.X.env) :: starEach [] B.X.env := by rfl) (hpl : (backTo pos (starEach [] B.X.env)).any (·.1) = false := by rfl)
    (hs : swapsWith (.Call (.Name "list" p) [recv] [] pos) (some (.Name x pos')) spos.line B.X.env = pure false := by rfl) (hf : B.X.fn x = true ∨ B.X.env.scope.names.lookup x = some .local := by first | exact .inl rfl | exact .inr rfl | assumption) :
    WS B (.Assign [.Name x pos'] (.Call (.Name "list" p) [recv] [] pos) spos :: rest) E os P :=
  ws_of (ps_set hN hi hx (pe_callTy (call_list_nd hc) hg Bn.list (by decide +kernel) (ga_cons hr ga_nil hst).pa (by decide) (by decide) hst hpl) hs hf) fun L D σ F H m r l1 => ⟨F, r.e, r.o.fm.fh, fun vs F1 H1 e1 hv => by
    cases hv with
    | cons m1 h1 t =>
    cases t
    have ev : _ = V.ref l := h1
    subst ev
    have r1 := r.ext e1
    obtain ⟨_, _, o1, hl, xs, rfl, d1⟩ := r1.o.ow _ (List.mem_of_getElem? ho)
    refine ⟨l, xs, rfl, hl, by rw [d1.len]; exact hz, fun p hp => ?_⟩
    have en := Ext.new r1.o.fm.fh hp (.lst (xs.map fun x => V.ref x.2.1))
    have r2 := r1.ext en
    exact q.run L D _ _ _ m ⟨r2.o, r2.e.set DD.mo (.lst upd_same (daAll_mono en.ff _ _ d1.keys))⟩ (Ex.tr (Ex.tr l1 e1.ff) en.ff)⟩
end
section
variable {B : Bk} {E : Env'} {os : OS} {P : DE} {rest : List Stmt} {e : Expr} {pos : Pos} {ds : List PyData}
theorem ws_retG (he : GEN B.X e E ds) (k : ∀ p, P.rt (RR p) (os ++ [(p, Ls B.X.K ds)])) : WS B (.Return (some e) pos :: rest) E os P :=
  ws_of (ps_ret he.pe) fun L D σ F H m r l => ⟨F, r.e, r.o.fm.fh, fun p vs F' H' x h1 h2 h3 h4 => m.rt (RR p) _ _ F' H' (k p) (r.o.grow x h1 h2 h3 ⟨vs, rfl, h4⟩) (Ex.tr l x.ff) rfl⟩
end
end Z
namespace Z
open PySem PySem.Spec PyProof.Rows L2
variable [Vo]
def tyD : PyData → String
  | .none => "NoneType"
  | .bool _ => "bool"
  | .int _ => "int"
  | .str _ => "str"
  | .list _ => "list"
  | .tuple _ => "tuple"
  | .dict _ => "tuple"
theorem tyx {K : PySem.W.Frag} {F H : Hp} {v : V} : ∀ {d : PyData}, Fh F H → Da K F v d → (∃ t, TyX K H v (.type t) ∧ t = tyD d)
  | .none, e, h => by cases h; exact ⟨_, .base .non, rfl⟩
  | .bool b, e, h => by cases DD.bool_inv h; exact ⟨_, .base (.bl _), rfl⟩
  | .int i, e, h => by cases DD.int_inv h; exact ⟨_, .base (.int _), rfl⟩
  | .str s, e, h => by cases DD.str_inv h; exact ⟨_, .base (.str _), rfl⟩
  | .list ds, e, h => by
    obtain ⟨p, vs, rfl, h1, _⟩ := DD.list_inv h
    exact ⟨_, .base (.lst (e.at h1)), rfl⟩
  | .tuple ds, e, h => by
    obtain ⟨p, vs, rfl, h1, _⟩ := DD.tup_inv h
    rcases fh_t e h1 with (q | ⟨o, q⟩) | ⟨o, its, n, q1, q2, _⟩
    · exact ⟨_, .base (.tup q), rfl⟩
    · exact ⟨_, .fTuple q, rfl⟩
    · exact ⟨_, .kTuple q1 q2, rfl⟩
  | .dict kvs, e, h => by
    obtain ⟨p, vs, rfl, h1, _⟩ := DD.tupI_inv (d := .dict kvs) h rfl
    rcases fh_t e h1 with (q | ⟨o, q⟩) | ⟨o, its, n, q1, q2, _⟩
    · exact ⟨_, .base (.tup q), rfl⟩
    · exact ⟨_, .fTuple q, rfl⟩
    · exact ⟨_, .kTuple q1 q2, rfl⟩
section
variable {X : Cx} {E : Env'} {e : Expr} {p pt pos : Pos} {d : PyData} {x : Str} {T : String} {b : Bool}
theorem g_isi (B : Bn X.mg) (he : GE X e E (DD X.K d)) (hx : X.mg x = none) (hv : bootBuiltins x = some (.type T)) (hb : kitB (tyD d) T = some b) (hg : Gl X "isinstance" := by rfl) (hgx : Gl X x := by rfl) (hn : x ≠ "__name__" := by decide) (hd : (x == ("__debug__" : Str)) = false := by decide)
    (hs : starEach [e, .Name x pt] X.env = (false, eval e X.env) :: starEach [.Name x pt] X.env := by rfl) (hs2 : starEach [.Name x pt] X.env = (false, eval (.Name x pt) X.env) :: starEach [] X.env := by rfl) (hpl : (backTo pos (starEach [.Name x pt] X.env)).any (·.1) = false := by rfl) :
    GE X (.Call (.Name "isinstance" p) [e, .Name x pt] [] pos) E (DD X.K (.bool b)) :=
  ⟨pe_imp (pe_callB call_isi hg B.isinstance (by decide +kernel) (pa_cons he.pe (pa_cons (pe_bltn (v := V.ty T) hgx hx hv rfl hn hd) pa_nil hs2) hs) (by decide) (by decide) hs hpl) fun σ H Q ⟨F, r, h, k⟩ => ⟨F, r, h, fun v F1 H1 e1 r1 => by
    obtain ⟨t, ty, rfl⟩ := tyx e1.fh r1
    exact ⟨v, V.ty T, _, _, b, rfl, .ty T, ty, kit_ty hb, k _ F1 H1 e1 (.bl b)⟩⟩, DD.mo⟩
end
end Z
namespace Z
open PySem PySem.Spec PyProof.Rows L2
variable [Vo]
section
variable {K : PySem.W.Frag} {F F' : Hp}
theorem tup_sqt {a : Addr} {xs : List V} (e : ∀ a u, TupO u → F a = some u → F' a = some u) (h : SqT K F a xs) : SqT K F' a xs := by
  rcases h with (h | ⟨o, h⟩) | h
  · exact .inl (.inl (e _ _ (.inl ⟨_, rfl⟩) h))
  · exact .inl (.inr ⟨o, e _ _ (.inr ⟨_, _, rfl⟩) h⟩)
  · exact .inr h
mutual
theorem da_tup (e : ∀ a u, TupO u → F a = some u → F' a = some u) : ∀ (d : PyData) (v : V), nkOk d = true → Da K F v d → Da K F' v d
  | _, _, _, .non => .non
  | _, _, _, .bl b => .bl b
  | _, _, _, .int i => .int i
  | _, _, _, .str x => .str x
  | .list ds, _, q, .lst h a => by simp [nkOk] at q
  | .dict _, _, q, .stu _ _ _ => by simp [nkOk] at q
  | .tuple ds, _, q, .tup h a => .tup (tup_sqt e h) (daAll_tup e ds _ (by simpa [nkOk] using q) a)
theorem daAll_tup (e : ∀ a u, TupO u → F a = some u → F' a = some u) : ∀ (ds : List PyData) (vs : List V), nkOkAll ds = true → DaAll K F vs ds → DaAll K F' vs ds
  | [], _, _, .nil => .nil
  | d :: ds, _, q, .cons h t => by
    have q' : nkOk d = true ∧ nkOkAll ds = true := by simpa [nkOkAll] using q
    exact .cons (da_tup e d _ q'.1 h) (daAll_tup e ds _ q'.2 t)
end
theorem NDr.back {κ : Type} [DecidableEq κ] {enc : κ → PyData} (N : NKey enc) (e : ∀ a u, TupO u → F a = some u → F' a = some u) : ∀ {xs : NX} {kvs : List (κ × PyData)}, NDr K enc F xs kvs → (∀ p, p ∈ kvs → nkOk p.2 = true) → NDr K enc F' xs kvs
  | _, _, .nil, _ => .nil
  | _, _, .cons ⟨h1, h2, v, h3, h4⟩ t, q => .cons ⟨h1, da_tup e _ _ (N.ok _) h2, v, h3, da_tup e _ _ (q _ List.mem_cons_self) h4⟩ (NDr.back N e t fun p hp => q p (List.mem_cons_of_mem _ hp))
end
def RN (c : Addr) (nt : Note) : RP := fun F v => v = .ref c ∧ F c = some (.dT nt)
theorem RN.mo {c : Addr} {nt : Note} : Mono (RN c nt) := fun _ _ _ e ⟨h, q⟩ => ⟨h, e _ _ q⟩
structure MemK {κ : Type} [DecidableEq κ] (dom : List κ) (val : κ → Int) (kvs : List (κ × PyData)) : Prop where
  ok : ∀ p, p ∈ kvs → p.1 ∈ dom ∧ p.2 = .int (val p.1)
  nd : (kvs.map (·.1)).Nodup
structure MemoS (P : Program) (w : World) (K : PySem.W.Frag) (nt : Note) {κ : Type} [DecidableEq κ] (enc : κ → PyData) (dom : List κ) (val : κ → Int) : Prop where
  to : ∀ F c o, Vo.mem nt F c o → ∃ xs kvs, o = NDx P w c xs ∧ NDr K enc F xs kvs ∧ MemK dom val kvs
  of : ∀ F c xs kvs, NDr K enc F xs kvs → MemK dom val kvs → Vo.mem nt F c (NDx P w c xs)
theorem nodup_len {α : Type} [DecidableEq α] : ∀ {xs ys : List α}, xs.Nodup → (∀ x, x ∈ xs → x ∈ ys) → xs.length ≤ ys.length
  | [], _, _, _ => Nat.zero_le _
  | x :: xs, ys, n, h => by
    have hx : x ∈ ys := h x List.mem_cons_self
    have n' := List.nodup_cons.mp n
    have := nodup_len (xs := xs) (ys := ys.erase x) n'.2 fun y hy => by
      have hne : y ≠ x := fun e => n'.1 (by rw [← e]; exact hy)
      exact (List.mem_erase_of_ne hne).mpr (h y (List.mem_cons_of_mem _ hy))
    rw [List.length_erase_of_mem hx] at this
    have : 0 < ys.length := List.length_pos_of_mem hx
    rw [List.length_cons]; omega
theorem MemK.len {κ : Type} [DecidableEq κ] {dom : List κ} {val : κ → Int} {kvs : List (κ × PyData)} (h : MemK dom val kvs) : kvs.length ≤ dom.length := by
  have := nodup_len h.nd (ys := dom) fun x hx => by
    obtain ⟨p, hp, rfl⟩ := List.mem_map.mp hx
    exact (h.ok p hp).1
  rwa [List.length_map] at this
theorem dput_keys {α κ : Type} [DecidableEq κ] {kvs : List (κ × α)} {k : κ} {v : α} : ((dput kvs k v).map (·.1)) = if kvs.any (fun kv => decide (kv.1 = k)) then kvs.map (·.1) else kvs.map (·.1) ++ [k] := by
  unfold dput
  split
  · rw [List.map_map]
    refine List.map_congr_left fun p _ => ?_
    show (if p.1 = k then (p.1, v) else p).1 = p.1
    split <;> rfl
  · rw [List.map_append]; rfl
theorem MemK.put {κ : Type} [DecidableEq κ] {dom : List κ} {val : κ → Int} {kvs : List (κ × PyData)} (h : MemK dom val kvs) {k : κ} (hk : k ∈ dom) : MemK dom val (dput kvs k (.int (val k))) := by
  refine ⟨fun p hp => ?_, ?_⟩
  · unfold dput at hp
    split at hp
    · obtain ⟨q, hq, rfl⟩ := List.mem_map.mp hp
      by_cases e : q.1 = k
      · rw [if_pos e]
        exact ⟨(h.ok q hq).1, by show PyData.int (val k) = PyData.int (val q.1); rw [e]⟩
      · rw [if_neg e]; exact h.ok q hq
    · rcases List.mem_append.mp hp with hp | hp
      · exact h.ok p hp
      · rw [List.mem_singleton.mp hp]; exact ⟨hk, rfl⟩
  · rw [dput_keys]
    split
    · exact h.nd
    · rename_i hn
      rw [List.nodup_append]
      refine ⟨h.nd, by simp, fun a ha b hb e => ?_⟩
      have : b = k := by simpa using hb
      subst this; subst e
      obtain ⟨p, hp, e⟩ := List.mem_map.mp ha
      exact hn (List.any_eq_true.mpr ⟨p, hp, by simpa using e⟩)
theorem dput_any {α κ : Type} [DecidableEq κ] {kvs : List (κ × α)} {k : κ} {v : α} : ((dput kvs k v).any fun kv => decide (kv.1 = k)) = true := by
  have e : ((dput kvs k v).any fun kv => decide (kv.1 = k)) = ((dput kvs k v).map (·.1)).any fun x => decide (x = k) := by rw [List.any_map]; rfl
  rw [e, dput_keys]
  split
  · rename_i h
    rw [List.any_map]; exact h
  · simp
theorem NDr.find {κ : Type} [DecidableEq κ] {K : PySem.W.Frag} {enc : κ → PyData} (N : NKey enc) {F : Hp} (k : κ) : ∀ {xs : NX} {kvs : List (κ × PyData)}, NDr K enc F xs kvs → (kvs.any fun kv => decide (kv.1 = k)) = true → ∃ p q v, atKey xs (nkOf (enc k)) = some p ∧ q ∈ kvs ∧ q.1 = k ∧ L2.RelV v p.2 ∧ Da K F v q.2
  | _, _, .nil, h => by simp at h
  | x :: xs, p :: kvs, .cons ⟨h1, h2, v, h3, h4⟩ t, q => by
    by_cases h : p.1 = k
    · have e : x.1 = nkOf (enc k) := by rw [h1, h]
      refine ⟨x.2, p, v, ?_, List.mem_cons_self, h, h3, h4⟩
      unfold atKey
      rw [List.find?_cons_of_pos (by simp [e])]
      rfl
    · have e : ¬ x.1 = nkOf (enc k) := fun e => h (N.inj _ _ (h1.symm.trans e))
      rw [List.any_cons, decide_eq_false h, Bool.false_or] at q
      obtain ⟨p', q', v', a, b, c⟩ := NDr.find N k t q
      refine ⟨p', q', v', ?_, List.mem_cons_of_mem _ b, c⟩
      unfold atKey at a ⊢
      rw [List.find?_cons_of_neg (by simp [e])]
      exact a
section
variable {X : Cx} {pos pos' tpos : Pos} {o i value e : Expr} {td ty tv te : TE}
def NHas (X : Cx) (H : Hp) (l b : Addr) (xs : NX) (k : NestedKey) : Prop := ∀ (pins : List (Addr × Obj)) (σ : L2.St) (s : Shared), L2.Inv X pins σ H s → ((l == sysModules) = false ∧ s.heap.DictOfH (nestedKind X.prog X.w) l xs) ∧ (nestedKind X.prog X.w).is s.heap k b
def tNNotIn (X : Cx) (ty td : TE) : TE := fun σ H Q => ty σ H fun y H1 => td σ H1 fun x H2 => ∃ l b xs k, x = .ref l ∧ y = .ref b ∧ NHas X H2 l b xs k ∧ Q (.bl (!(atKey xs k).isSome)) H2
theorem pc_nnotin (hu : X.A.units + 9 < cLine) (hi : PE X i ty) (ho : PE X o td) : PC X .NotIn i o (tNNotIn X ty td) := by
  refine ⟨fun pins s σ H Q I h => ?_⟩
  refine thn (hi.run pins s σ H _ I h) fun iv s1 ⟨y, H1, I1, ry, q1⟩ => thn (ho.run pins s1 σ H1 _ I1 q1) fun u s2 ⟨x, H2, I2, rx, l, b, xs, k, ex, ey, g, q2⟩ => ?_
  subst ex ey
  obtain rfl : u = Value.ref l := rx
  obtain rfl : iv = Value.ref b := ry
  obtain ⟨⟨d1, d2⟩, k1⟩ := g pins σ s2 I2
  exact wpAny_notIn_heap (by show X.A.units + _ + 8 < cLine; omega) k1 d1 d2 ⟨.bl (!(atKey xs k).isSome), H2, I2.tok _, rfl, q2⟩
def tNGet (X : Cx) (td ty : TE) : TE := fun σ H Q => td σ H fun x H1 => ty σ H1 fun y H2 => ∃ l b xs k p v, x = .ref l ∧ y = .ref b ∧ NHas X H2 l b xs k ∧ atKey xs k = some p ∧ L2.RelV v p.2 ∧ Q v H2
theorem pe_nget (hu : X.A.units + 9 < cLine) (ho : PE X o td) (hi : PE X i ty) (hs : NoSl i) : PE X (.Subscript o i pos) (tNGet X td ty) := by
  refine ⟨fun pins s σ H Q I h => ?_⟩
  refine subD_of PySem.F.slot_dict_getitem.lookup hs (thn (ho.run pins s σ H _ I h) fun u s1 ⟨x, H1, I1, rx, q1⟩ => thn (hi.run pins s1 σ H1 _ I1 q1) fun iv s2 ⟨y, H2, I2, ry, l, b, xs, k, p, v, ex, ey, g, hp, rv, q2⟩ => ?_)
  subst ex ey
  obtain rfl : u = Value.ref l := rx
  obtain rfl : iv = Value.ref b := ry
  obtain ⟨⟨d1, d2⟩, k1⟩ := g pins σ s2 I2
  exact ⟨d2.typeIs, wpAny_getItem_heap (by show X.A.units + _ + 8 < cLine; omega) k1 d2 hp ⟨v, H2, I2.tok _, rv, q2⟩⟩
end
end Z
namespace Z
open PySem PySem.Spec PyProof.Rows L2
variable [Vo]
section
variable {X : Cx} {E : Env'} {σ : L2.St} {F H : Hp} {C c : Addr} {fds : List (Str × RP)} {f : Str} {nt : Note} {κ : Type} [DecidableEq κ] {enc : κ → PyData} {dom : List κ} {val : κ → Int} {k : κ} {i : Nat} {Q : VK}
theorem rd_memo (r : RepE E σ F) (h : Fh F H) (hE : E[i]? = some (some (InsR C fds))) (hl : fds.lookup f = some (RN c nt)) (cl : Cls X.K C) (na : NoAttr X.K C f) (q : F c = some (.dT nt) → Q (.ref c) H) : tFld X.K (tVar i) f σ H Q := by
  obtain ⟨_, v, hv, a, dx, fs, rfl, h1, h2⟩ := r.at_ i _ hE
  obtain ⟨u, hu, rfl, hn⟩ := h2.get hl
  exact ⟨_, hv, a, C, dx, fs, _, rfl, h.at h1, cl, na, hu, q hn⟩
theorem rd_key {d : PyData} (r : RepE E σ F) (hE : E[i]? = some (some (DD X.K d))) (q : ∀ v, Da X.K F v d → Q v H) : tVar i σ H Q := by
  obtain ⟨_, v, hv, h⟩ := r.at_ i _ hE
  exact ⟨v, hv, q v h⟩
theorem memo_at (M : MemoS X.prog X.w X.K nt enc dom val) (h : Fh F H) (hn : F c = some (.dT nt)) : ∃ xs kvs, H c = some (NDx X.prog X.w c xs) ∧ NDr X.K enc F xs kvs ∧ MemK dom val kvs := by
  obtain ⟨o, ho, m⟩ := h.vo c nt hn
  obtain ⟨xs, kvs, rfl, r, q⟩ := M.to F c o m
  exact ⟨xs, kvs, ho, r, q⟩
theorem nhas (N : NKey enc) (h : Fh F H) {xs : NX} {kvs : List (κ × PyData)} {b : Addr} (hc : H c = some (NDx X.prog X.w c xs)) (r : NDr X.K enc F xs kvs) (hb : Da X.K F (.ref b) (enc k)) : NHas X H c b xs (nkOf (enc k)) :=
  fun pins σ s I => ⟨nd_h N I hc h r, nk_is I _ _ _ (N.ok _) (da_dp h _ _ (ndf_nk _ (N.ok _)) hb) rfl, N.dep _⟩
end
section
variable {B : Bk} {E : Env'} {os : OS} {P : DE} {e : Expr} {C c : Addr} {fds : List (Str × RP)} {f slf st : Str} {nt : Note} {κ : Type} [DecidableEq κ] {enc : κ → PyData} {dom : List κ} {val : κ → Int} {k : κ} {p1 p2 p3 p4 p5 p6 p7 p8 p9 p10 p11 p12 p13 p14 p15 : Pos}
theorem ws_memo (i0 i1 : Nat) (hu : B.X.A.units + 9 < cLine) (M : MemoS B.X.prog B.X.w B.X.K nt enc dom val) (N : NKey enc) (hz : dom.length ≤ 16777215) (hk : k ∈ dom) (cl : Cls B.X.K C) (na : NoAttr B.X.K C f) (he : GE B.X e E (DD B.X.K (.int (val k)))) (hret : P.rt (DD B.X.K (.int (val k))) os)
    (hE0 : E[i0]? = some (some (InsR C fds)) := by rfl) (hl : fds.lookup f = some (RN c nt) := by rfl) (hE1 : E[i1]? = some (some (DD B.X.K (enc k))) := by rfl) (hN0 : B.X.N[i0]? = some slf := by rfl) (hN1 : B.X.N[i1]? = some st := by rfl)
    (hv0 : Vis B.X.env.scope slf := by first | exact Or.inl rfl | exact Or.inr (Or.inl rfl) | exact Or.inr (Or.inr rfl)) (hv1 : Vis B.X.env.scope st := by first | exact Or.inl rfl | exact Or.inr (Or.inl rfl) | exact Or.inr (Or.inr rfl))
    (hd0 : (slf == ("__debug__" : Str)) = false := by decide) (hc0 : (slf == ("__classdict__" : Str)) = false := by decide) (hd1 : (st == ("__debug__" : Str)) = false := by decide) (hc1 : (st == ("__classdict__" : Str)) = false := by decide)
    (hb : ∀ p, attributeBase (.Name slf p) f B.X.env (eval (.Name slf p) B.X.env) = eval (.Name slf p) B.X.env := by intro _; rfl) (hm : behindInMarks .NotIn (.Attribute (.Name slf p2) f p3) = false := by rfl)
    (hs : swapsWith e (some (.Subscript (.Attribute (.Name slf p5) f p6) (.Name st p7) p8)) p9.line B.X.env = pure false := by rfl) (hns : NoSl (.Name st p13) := by intro _ _; rfl) :
    WS B [.If (.Compare (.Name st p1) [.NotIn] [.Attribute (.Name slf p2) f p3] p4) [.Assign [.Subscript (.Attribute (.Name slf p5) f p6) (.Name st p7) p8] e p9] [] p10, .Return (some (.Subscript (.Attribute (.Name slf p11) f p12) (.Name st p13) p14)) p15] E os P := by
  obtain ⟨_, hdl⟩ : ∃ ds, enc k = .tuple ds := N.tup k
  have isRef : ∀ F v, Da B.X.K F v (enc k) → ∃ b, v = .ref b := fun F v h => by
    rw [hdl] at h
    obtain ⟨b, _, rfl, _⟩ := DD.tup_inv h
    exact ⟨b, rfl⟩
  have pes : ∀ p q, PE B.X (.Attribute (.Name slf p) f q) (tFld B.X.K (tVar i0) f) := fun p q => pe_fld (pe_var hN0 hv0 hd0 hc0) (hb p)
  have pek : ∀ p, PE B.X (.Name st p) (tVar i1) := fun p => pe_var hN1 hv1 hd1 hc1
  have fin : ∀ L D σ F H, Meets B L P D → RepS B E os σ F H → Ex L F → (∃ xs kvs, H c = some (NDx B.X.prog B.X.w c xs) ∧ NDr B.X.K enc F xs kvs ∧ MemK dom val kvs ∧ (kvs.any fun kv => decide (kv.1 = k)) = true) →
      W B.X [.Return (some (.Subscript (.Attribute (.Name slf p11) f p12) (.Name st p13) p14)) p15] D σ H := fun L D σ F H m r l ⟨xs, kvs, h1, h2, h3, h4⟩ => by
    refine w_of (pss_one (ps_ret (pe_nget hu (pes _ _) (pek _) hns))) ?_
    unfold tRet tNGet
    refine rd_memo r.e r.o.fm.fh hE0 hl cl na fun hn => rd_key r.e hE1 fun y hy => ?_
    obtain ⟨b, rfl⟩ := isRef _ _ hy
    obtain ⟨p, q, v, a1, a2, a3, a4, a5⟩ := h2.find N k h4
    refine ⟨c, b, xs, nkOf (enc k), p, v, rfl, rfl, nhas N r.o.fm.fh h1 h2 hy, a1, a4, ?_⟩
    have := (h3.ok q a2).2
    rw [this, a3] at a5
    exact m.rt _ _ v F H hret r.o l a5
  refine ws_of (ps_if (pt_cmp (pc_nnotin hu (pek _) (pes _ _)) hm) w_can w_can) fun L D σ F H m r l => ?_
  unfold tIfS tB tNNotIn
  refine rd_key r.e hE1 fun y hy => rd_memo r.e r.o.fm.fh hE0 hl cl na fun hn => ?_
  obtain ⟨b, rfl⟩ := isRef _ _ hy
  obtain ⟨xs, kvs, h1, h2, h3⟩ := memo_at (X := B.X) M r.o.fm.fh hn
  refine ⟨c, b, xs, nkOf (enc k), rfl, rfl, nhas N r.o.fm.fh h1 h2 hy, _, rfl, ?_⟩
  rw [h2.any N k]
  cases ha : kvs.any fun kv => decide (kv.1 = k) with
  | true =>
    refine iteF ?_
    exact w_of pss_nil (fin L D σ F H m r l ⟨xs, kvs, h1, h2, h3, ha⟩)
  | false =>
    refine iteT ?_
    refine w_of (pss_one (ps_nput hu (pes _ _) (pek _) he.pe hs)) ?_
    refine ⟨F, r.e, r.o.fm.fh, fun v F1 H1 e1 hv => ?_⟩
    have r1 := r.ext e1
    refine rd_memo r1.e r1.o.fm.fh hE0 hl cl na fun hn1 => rd_key r1.e hE1 fun y1 hy1 => ?_
    obtain ⟨b1, rfl⟩ := isRef _ _ hy1
    obtain ⟨xs1, kvs1, g1, g2, g3⟩ := memo_at (X := B.X) M r1.o.fm.fh hn1
    have hlen := g3.len
    refine ⟨c, b1, xs1, nkOf (enc k), rfl, rfl, g1, by rw [g2.len, sizeLine_eq]; omega, fun pins σ' s' I => ?_, fun u hu3 => ?_⟩
    · obtain ⟨q1, q2⟩ := nhas N r1.o.fm.fh g1 g2 hy1 pins σ' s' I
      exact ⟨q1.2, q2⟩
    · have n2 := g2.put N hy1 hu3 hv
      have m2 := g3.put hk
      have fh2 : Fh F1 (upd H1 c (NDx B.X.prog B.X.w c (storedH xs1 (nkOf (enc k)) b1 u))) := ⟨fun a o g q => by
        rw [upd_ne (fun e => by subst e; rw [hn1] at q; cases q; exact absurd rfl (g _))]
        exact r1.o.fm.fh.at q g, fun a s q => by
        by_cases hac : a = c
        · subst hac
          rw [hn1] at q; cases q
          exact ⟨_, upd_same, M.of _ _ _ _ n2 m2⟩
        · rw [upd_ne hac]; exact r1.o.fm.fh.vo a s q⟩
      have ex2 : Ext F1 H1 F1 (upd H1 c (NDx B.X.prog B.X.w c (storedH xs1 (nkOf (enc k)) b1 u))) := ⟨fun _ _ q => q, fh2, fun a o n q => by
        rw [upd_ne (fun e => by subst e; exact n _ hn1)]; exact q, fun _ _ q _ => q⟩
      exact fin L D σ F1 _ m (r1.ext ex2) (Ex.tr l e1.ff) ⟨_, _, upd_same, n2, m2, dput_any⟩
end
section
variable {B : Bk} {E : Env'} {os : OS} {P : DE} {rest : List Stmt} {recv : Expr} {pos pos' : Pos} {l C : Addr} {f : Str} {fds : List (Str × RP)} {κ : Type} [DecidableEq κ]
theorem ws_fldND (j : Nat) (enc : κ → PyData) {dpos : Pos} (c : Cls B.X.K C) (n : NoAttr B.X.K C f) (hr : GE B.X recv E (RR l)) (ho : os[j]? = some (l, InsO C fds)) (k : ∀ d, WS B rest E ((os ++ [(d, NDo B.X.prog B.X.w B.X.K d enc [])]).set j (l, InsO C (putR f (RR d) fds))) P) (hz : fds.length < 1000 := by first | decide | exact (putR_lt (by decide)) | exact (putR_lt (putR_lt (by decide))) | exact (putR_lt (putR_lt (putR_lt (by decide)))) | exact (putR_lt (putR_lt (putR_lt (putR_lt (by decide))))) | exact (putR_lt (putR_lt (putR_lt (putR_lt (putR_lt (by decide)))))) | exact (putR_lt (putR_lt (putR_lt (putR_lt (putR_lt (putR_lt (by decide))))))) | exact (putR_lt (putR_lt (putR_lt (putR_lt (putR_lt (putR_lt (putR_lt (by decide)))))))))
    (hs : swapsWith (.Dict [] [] dpos) (some (.Attribute recv f pos')) pos.line B.X.env = pure false := by rfl) : WS B (.Assign [.Attribute recv f pos'] (.Dict [] [] dpos) pos :: rest) E os P :=
  ws_of (ps_fld hr.pe pe_dnewN hs) fun L D σ F H m r l1 => fun p hp => by
    have en := Ext.out r.o.fm.fh hp (NDx B.X.prog B.X.w p [])
    have ro := r.o.grow en (r.o.fm.fh.no hp) hp upd_same (ov := NDo B.X.prog B.X.w B.X.K p enc []) ⟨[], rfl, .nil⟩
    have ho' : (os ++ [(p, NDo B.X.prog B.X.w B.X.K p enc [])])[j]? = some (l, InsO C fds) := by
      rw [List.getElem?_append_left (List.getElem?_eq_some_iff.mp ho).1]; exact ho
    refine ⟨F, r.e, ro.fm.fh, fun u F2 H2 e2 hu => ?_⟩
    have eu : u = .ref l := hu
    subst eu
    have r2 := ro.ext e2
    obtain ⟨_, _, o2, h2, dx, fs, rfl, d2⟩ := r2.ow _ (List.mem_of_getElem? ho')
    exact ⟨l, C, dx, fs, rfl, h2, c, n, by rw [d2.len]; exact hz, (k p).run L D _ F2 _ m ⟨r2.write ho' ⟨dx, _, rfl, d2.put RR.mo rfl⟩, r.e.mono e2.ff⟩ (Ex.tr l1 e2.ff)⟩
end
theorem InsF.imp {F F' : Hp} : ∀ {fs : List (Str × V)} {fds fds' : List (Str × RP)}, InsF F fs fds → Paired (fun (q q' : Str × RP) => q.1 = q'.1 ∧ Mono q'.2 ∧ ∀ v, q.2 F v → q'.2 F' v) fds fds' → InsF F' fs fds'
  | _, _, _, .nil, .nil => .nil
  | _, _, _, .cons ⟨h1, h2, h3⟩ t, .cons ⟨g1, g2, g3⟩ u => .cons ⟨h1.trans g1, g2, g3 _ h3⟩ (InsF.imp t u)
theorem rti_memo {P : Program} {w : World} {K : PySem.W.Frag} {a c C : Addr} {R : RP} {E : Env'} {os : OS} {fds fds' : List (Str × RP)} {nt : Note} {κ : Type} [DecidableEq κ] {enc : κ → PyData} {dom : List κ} {val : κ → Int}
    (M : MemoS P w K nt enc dom val) (ha : (a, InsO C fds) ∈ os) (hc : (c, NDo P w K c enc ([] : List (κ × PyData))) ∈ os) (hac : a ≠ c)
    (hi : ∀ F F', Ex F F' → F' c = some (.dT nt) → Paired (fun (q q' : Str × RP) => q.1 = q'.1 ∧ Mono q'.2 ∧ ∀ v, q.2 F v → q'.2 F' v) fds fds') (hR : ∀ F v, InsR C fds' F v → R F v) : (RtI a R).nx E os := fun F H fh ow => by
  obtain ⟨fa, _, hu, dx, fs, rfl, q⟩ := ow.ow _ ha
  obtain ⟨fc, _, hv, xs, rfl, q2⟩ := ow.ow _ hc
  have fa' : F a = none := fa
  have fc' : F c = none := fc
  have hv' : H c = some (NDx P w c xs) := hv
  have hu' : H a = some (.ins C dx fs) := hu
  have x1 := ex_upd (o := HO.dT nt) fc'
  have fh1 : Fh (upd F c (.dT nt)) H := ⟨fun b o g e => by
    by_cases hb : b = c
    · subst hb; rw [upd_same] at e; cases e; exact absurd rfl (g _)
    · rw [upd_ne hb] at e; exact fh.at e g, fun b s e => by
    by_cases hb : b = c
    · subst hb; rw [upd_same] at e; cases e
      refine ⟨_, hv', M.of _ _ xs [] ?_ ⟨fun p hp => (nomatch hp), List.nodup_nil⟩⟩
      cases q2; exact .nil
    · rw [upd_ne hb] at e
      obtain ⟨o, ho, m⟩ := fh.vo b s e
      exact ⟨o, ho, mem_up m x1⟩⟩
  have fa1 : (upd F c (.dT nt)) a = none := by rw [upd_ne hac]; exact fa'
  have x2 := ex_upd (o := HO.ins C dx fs) fa1
  refine ⟨upd (upd F c (.dT nt)) a (.ins C dx fs), Ex.tr x1 x2, fh1.put fa1 hu' (fun _ e => by cases e), fun b h1 h2 => ?_, hR _ _ ⟨a, dx, fs, rfl, upd_same, q.imp (hi F _ (Ex.tr x1 x2) ?_)⟩⟩
  · by_cases e : b = a
    · subst e; exact List.mem_map.mpr ⟨_, ha, rfl⟩
    · rw [upd_ne e] at h2
      by_cases e2 : b = c
      · subst e2; exact List.mem_map.mpr ⟨_, hc, rfl⟩
      · rw [upd_ne e2] at h2; exact absurd h1 h2
  · rw [upd_ne (Ne.symm hac), upd_same]
end Z
namespace Z
open PySem PySem.Spec PyProof.Rows L2
variable [Vo]
theorem rep_cps (c : Array Nat) : ∀ (n : Nat) (a : Array Nat), ((List.replicate n c).foldl (· ++ ·) a).toList = a.toList ++ (List.replicate n c.toList).flatten
  | 0, a => by simp
  | n + 1, a => by
    rw [List.replicate_succ, List.foldl_cons, rep_cps c n, List.replicate_succ, List.flatten_cons, Array.toList_append, List.append_assoc]
theorem txt_mul (l : List Nat) (n : Nat) : Txt.mul (mk l) (n : Int) = mk (List.replicate n l).flatten := by
  unfold Txt.mul
  rcases n with _ | n
  · rfl
  · rw [if_neg (by omega)]
    by_cases h : (((n + 1 : Nat) : Int) == 1 || (mk l).length == 0) = true
    · rw [if_pos h]
      have h' : n = 0 ∨ l = [] := by
        have : ((n + 1 : Nat) : Int) = 1 ∨ (mk l).length = 0 := by simpa using h
        rcases this with q | q
        · exact .inl (by omega)
        · exact .inr (List.eq_nil_of_length_eq_zero (by rw [mk_len] at q; exact q))
      rcases h' with rfl | rfl
      · simp
      · have : ∀ k : Nat, (List.replicate k ([] : List Nat)).flatten = [] := by
          intro k; induction k with
          | zero => rfl
          | succ k ih => rw [List.replicate_succ, List.flatten_cons, ih]; rfl
        rw [this]
    · rw [if_neg h]
      have e : ((List.replicate ((n + 1 : Nat) : Int).toNat (mk l).cps).foldl (· ++ ·) #[]).toList = (List.replicate (n + 1) l).flatten := by
        rw [rep_cps]
        show [] ++ _ = _
        rw [List.nil_append, show ((n + 1 : Nat) : Int).toNat = n + 1 from rfl]
      show (⟨_⟩ : Str) = ⟨_⟩
      congr 1
      exact Array.toList_inj.mp (by rw [e])
theorem mulOk_of {l : List Nat} {n : Nat} (h : l.length * n ≤ 1000000) (hn : n ≤ 1000000) : MulOk (mk l) (n : Int) := by
  refine ⟨?_, fun h1 h2 => ?_, fun h1 h2 => ?_⟩
  · have h1 : ¬ ((n : Int) < -(2 ^ 63 : Int)) := by omega
    have h2 : ¬ ((n : Int) ≥ 2 ^ 63) := by
      have : (1000000 : Int) < 2 ^ 63 := by decide
      omega
    rw [decide_eq_false h1, decide_eq_false h2]; rfl
  · rw [mk_len]
    have hp : (0 : Int) < (n : Int) := by omega
    have : ((l.length : Nat) : Int) ≤ (2 ^ 63 - 1) / (n : Int) := by
      rw [Int.le_ediv_iff_mul_le hp]
      have e : ((l.length : Nat) : Int) * (n : Int) = ((l.length * n : Nat) : Int) := by simp
      rw [e]
      have : (1000000 : Int) < 2 ^ 63 - 1 := by decide
      omega
    omega
  · rw [mk_len]
    unfold Builtin.Str.tooLong
    have : (1000000 : Nat) < sizeLine := by decide
    simp
    omega
section
variable {X : Cx} {E : Env'} {a b e o : Expr} {pos apos cpos p2 : Pos} {l : List Nat} {n : Nat} {ns : List Int} {k : Int} {ds : List PyData}
theorem op_mulS : OpR X (binaryOp .Mult) (fun x y H Q => ∃ a n, x = .str a ∧ y = .int n ∧ MulOk a n ∧ Q (.str (Txt.mul a n)) H) := by
  intro pins s σ H x y v u Q I rx ry h
  obtain ⟨a, n, rfl, rfl, ok, q⟩ := h
  obtain ⟨t, rfl⟩ := rx
  obtain ⟨t', rfl⟩ := ry
  exact SB.mul ok fun t1 k => ⟨.str (Txt.mul a n), H, I.tok _, ⟨_, rfl⟩, q⟩
theorem g_mulS (ha : GE X a E (DD X.K (.str (mk l)))) (hb : GE X b E (DD X.K (.int (n : Nat)))) (hl : l.length * n ≤ 1000000) (hn : n ≤ 1000000) : GE X (.BinOp a .Mult b pos) E (DD X.K (.str (mk (List.replicate n l).flatten))) :=
  g_op (fun _ _ h1 h2 => pe_op op_mulS h1 h2) ha hb DD.mo fun F H x y Q hx hy e q => by
    cases DD.str_inv hx; cases DD.int_inv hy
    exact ⟨mk l, n, rfl, rfl, mulOk_of hl hn, q _ F H (Ext.refl e) (by rw [txt_mul]; exact .str _)⟩
theorem ints_are : ∀ {ns : List Int} {us : List Value}, Vals (ns.map V.int) us → IntsAre us ns
  | [], _, .nil => .nil
  | n :: ns, _, .cons ⟨t, e⟩ r => by subst e; exact .cons n t (ints_are r)
theorem mt_tindexI : MtR X "tuple.index" (fun x xs H Q => ∃ p, ∃ ns : List Int, ∃ k, x = .ref p ∧ xs = [.int k] ∧ SqT X.K H p (ns.map V.int) ∧ k ∈ ns ∧ Q (.int (ns.idxOf k : Nat)) H) := by
  intro pins s σ H x xs v us Q I rx rs h
  obtain ⟨p, ns, k, rfl, rfl, hq, hk, q⟩ := h
  cases rx
  obtain ⟨u, rfl, t, rfl⟩ := rs.one
  obtain ⟨its, r, pl, hz⟩ := I.tuple hq
  exact SeqAt.tuple_index_ints (vs := its) pl (ints_are r) hk ⟨.int (ns.idxOf k : Nat), H, I.tok _, ⟨_, rfl⟩, q⟩
theorem pe_tupZ {es : List Expr} {t : TA} {x1} (h : PA X es t) : PE X (.Tuple es x1 pos) (fun σ H Q => t σ H fun xs H1 => xs.length ≤ sizeLine ∧ ∀ p o, H1 p = none → o.dict = none → o.cls = .type "tuple" → Q (.ref p) (upd H1 p (.frz o (.tup xs)))) := by
  refine ⟨fun pins s σ H Q I hq => ?_⟩
  refine wpAny_Tuple_spliced (thn (h.run pos pins s σ H _ I hq) fun us s1 ⟨xs, H1, I1, r, z, q⟩ => ⟨by rw [← r.length]; exact z, ?_⟩)
  have hf : H1 s1.heap.objs.size = none := I1.hok.fresh (Nat.le_refl _)
  refine ⟨.ref s1.heap.objs.size, upd H1 s1.heap.objs.size (.frz { cls := .type "tuple", data := .seq us.toArray } (.tup xs)), I1.laid (t' := s1.toks) (fun b u e => Heap.get?_push_of_some _ e) (Nat.le_refl _) ?_, rfl, q _ _ hf rfl rfl⟩
  exact ⟨Heap.get?_push_size _ rfl, z, us, r, ⟨_, Heap.get?_push_size _ rfl, rfl, _, rfl⟩⟩
theorem map_sT {ds : List PyData} : (ds.map fun d => (d, PyData.none)).map (·.1) = ds := by rw [List.map_map]; exact List.map_id _
theorem gt_tupS {es : List Expr} {x1} (h : GAD X es E ds) (hl : ds.length ≤ 100000 := by simp) : GE X (.Tuple es x1 pos) E (DD X.K (sT ds)) :=
  ⟨pe_imp (pe_tupZ h.pa) fun σ H Q ⟨F, r, x, q⟩ => ⟨F, r, x, fun vs F' H' e1 r1 => ⟨by rw [r1.len]; exact Nat.le_trans hl (by decide), fun p o hp hd hc => by
    have en := Ext.new e1.fh hp (.frz o (.tup vs))
    exact q _ _ _ (e1.trans en) (.stu (.inl (.inr ⟨o, upd_same⟩)) (.inl ⟨o, vs, upd_same, hd, hc⟩) (by rw [map_sT]; exact daAll_mono en.ff _ _ r1))⟩⟩, DD.mo⟩
theorem g_tindexI (ho : GE X o E (DD X.K (sT (ns.map .int)))) (he : GE X e E (DD X.K (.int k))) (hk : k ∈ ns) (hbase : attributeBase o "index" X.env (eval o X.env) = eval o X.env := by rfl)
    (hfew : ((backTo cpos (starEach [e] X.env)).all (fun x => !x.1) && (backToKw cpos (keywordEach [] X.env)).all (fun x => x.1.isSome)
      && decide ([e].length + ([] : List Keyword).length + (if ([] : List Keyword).isEmpty then 0 else 1) < 30)) = true := by rfl)
    (hline : (apos.endLine == cpos.line) = true := by rfl) (hs : starEach [e] X.env = (false, eval e X.env) :: starEach [] X.env := by rfl) (hplain : (backTo cpos (starEach [] X.env)).any (·.1) = false := by rfl) : GE X (.Call (.Attribute o "index" apos) [e] [] cpos) E (DD X.K (.int (ns.idxOf k : Nat))) := by
  refine ⟨⟨fun pins s σ H Q I ⟨F, r, x, q⟩ => ?_⟩, DD.mo⟩
  refine wpAny_Call_method_late hbase hfew hline rfl (thn (ho.pe.run pins s σ H _ I ⟨F, r, x, fun v F1 H1 e1 r1 => (⟨F1, e1, r1⟩ : ∃ F1, Ext F H F1 H1 ∧ DD X.K (sT (ns.map .int)) F1 v)⟩) fun v s1 ⟨xv, H1, I1, rv, F1, e1, hd⟩ => ?_)
  cases hd with
  | stu h1 h2 h3 =>
    rename_i a vs
    rw [map_sT] at h3
    have ev := dpa_ints h3
    subst ev
    cases rv
    have hob : ∃ ob, s1.heap.get? a = some ob ∧ ob.cls = .type "tuple" ∧ ob.dict = none := by
      rcases h2 with ⟨o, xs, g1, g2, g3⟩ | ⟨o, g1, g2, g3⟩
      · exact ⟨o, (I1.hok a _ (e1.fh.at g1)).1, g3, g2⟩
      · exact ⟨o, I1.kIn a o g1, g2, g3⟩
    obtain ⟨ob, hob1, hob2, hob3⟩ := hob
    refine ⟨"tuple", "tuple.index", PySem.F.plainAttrs_tuple, PySem.F.slot_tuple_index, PySem.F.type_tuple_index, ⟨ob, hob1, hob2⟩, fun b e => by cases e; exact ⟨ob, hob1, hob3⟩, ?_⟩
    have hA := he.pe.run pins s1 σ H1 (fun u H2 => ∃ F2, Ext F1 H1 F2 H2 ∧ DD X.K (.int k) F2 u) I1 ⟨F1, r.mono e1.ff, e1.fh, fun u F2 H2 e2 hu => ⟨F2, e2, hu⟩⟩
    rw [hs] at ⊢
    refine Calls.callWith_builtin (by show (false || (backTo cpos (starEach [] X.env)).any (·.1)) = false; rw [hplain] <;> rfl) (Calls.evalArgs_plain ?_)
    refine Calls.spliced_cons (thn hA fun u s2 ⟨y, H2, I2, ru, F2, e2, hu⟩ => Calls.spliced_nil ?_)
    cases DD.int_inv hu
    exact mt_tindexI pins s2 σ H2 (.ref a) [.int k] (.ref a) [u] Q I2 rfl (.cons ru .nil) ⟨a, ns, k, rfl, rfl, fh_t e2.fh (ex_t e2.ff h1), hk, q _ F2 H2 (e1.trans e2) (.int _)⟩
theorem in_ints : ∀ {ns : List Int}, inV (.int k) (ns.map V.int) = decide (k ∈ ns)
  | [] => rfl
  | a :: r => by
    have ih := in_ints (ns := r)
    unfold inV at ih ⊢
    rw [List.map_cons, List.any_cons, ih]
    by_cases h : k = a
    · subst h; simp [eqV]
    · have : ¬ a = k := fun e => h e.symm
      simp [eqV, h, this]
theorem flat_ints : ∀ (ls : List Int), (ls.map V.int).all flatV = true
  | [] => rfl
  | a :: r => by rw [List.map_cons, List.all_cons, flat_ints r]; rfl
theorem c_inT (hm : behindInMarks .In b = false := by rfl) : CmpR X .In b (DD X.K (.int k)) (DD X.K (.tuple (ns.map .int))) (decide (k ∈ ns)) := ⟨_, op_in_seq, hm, fun F H x y Q hx hy e q => by
  cases DD.int_inv hx
  obtain ⟨p, vs, rfl, h1, h2⟩ := DD.tup_inv hy
  have ev := dpa_ints h2
  subst ev
  exact ⟨p, _, rfl, .inr (fh_t e h1), rfl, flat_ints _, q _ F H (Ext.refl e) (by rw [← in_ints]; exact .bl _)⟩⟩
theorem c_inL (hm : behindInMarks .In b = false := by rfl) : CmpR X .In b (DD X.K (.int k)) (DD X.K (.list (ns.map .int))) (decide (k ∈ ns)) := ⟨_, op_in_seq, hm, fun F H x y Q hx hy e q => by
  cases DD.int_inv hx
  obtain ⟨p, vs, rfl, h1, h2⟩ := DD.list_inv hy
  have ev := dpa_ints h2
  subst ev
  exact ⟨p, _, rfl, .inl (SqL.of (e.at h1)), rfl, flat_ints _, q _ F H (Ext.refl e) (by rw [← in_ints]; exact .bl _)⟩⟩
theorem c_ninL (hm : behindInMarks .NotIn b = false := by rfl) : CmpR X .NotIn b (DD X.K (.int k)) (DD X.K (.list (ns.map .int))) (!decide (k ∈ ns)) := ⟨_, op_notIn_seq, hm, fun F H x y Q hx hy e q => by
  cases DD.int_inv hx
  obtain ⟨p, vs, rfl, h1, h2⟩ := DD.list_inv hy
  have ev := dpa_ints h2
  subst ev
  exact ⟨p, _, rfl, .inl (SqL.of (e.at h1)), rfl, flat_ints _, q _ F H (Ext.refl e) (by rw [← in_ints]; exact .bl _)⟩⟩
theorem g_slT {d : PyData} {lo hi : Option Expr} {o1 o2 : Option Int} (ha : GE X a E (DD X.K d)) (h1 : GO X lo E o1) (h2 : GO X hi E o2) (ht : isT d = true := by rfl) : GE X (.Subscript a (.Slice lo hi none p2) pos) E (DD X.K (.tuple (cutD (tI d) o1 o2))) :=
  ⟨pe_imp (pe_slice sl_tupA ha.pe h1.po h2.po) fun σ H Q ⟨F, r, x, q⟩ => ⟨F, r, x, fun v F1 H1 e1 r1 => ⟨F1, r.mono e1.ff, e1.fh, fun F2 H2 e2 => ⟨F2, (r.mono e1.ff).mono e2.ff, e2.fh, fun F3 H3 e3 => by
    have e23 := e2.trans e3
    obtain ⟨p, vs, rfl, hl, hd⟩ := DD.tupI_inv (DD.mo _ _ _ e23.ff r1) ht
    refine ⟨p, vs, rfl, fh_t e3.fh hl, fun w => ?_, fun w l hl' => ?_⟩
    · refine q _ _ _ (e1.trans e23) (.tup hl ?_)
      have : cutV vs o1 o2 = vs := by
        unfold cutV
        rw [w.1, w.2, List.drop_zero, Nat.sub_zero, List.take_length]
      have h := hd.cut (lo := o1) (hi := o2)
      rw [this] at h
      exact h
    · have en := Ext.new e3.fh hl' (.tup (cutV vs o1 o2))
      exact q _ _ _ ((e1.trans e23).trans en) (.tup (SqT.of upd_same) (daAll_mono en.ff _ _ hd.cut))⟩⟩⟩, DD.mo⟩
theorem gt_tupTS {es : List Expr} {kk : Nat} {sl : List Nat} {f : Env' → Env'} (hc : X.calm = true) (h : GTs X es ds sl f) (hn : (assignEach es X.env).length = ds.length := by rfl) (hst : (assignEach es X.env).findIdx? (·.1) = none := by rfl) : GT X (.Tuple es kk pos) (DD X.K (sT ds)) sl f :=
  ⟨pg_imp (pg_tup hc h.pgs hn hst) fun v σ H Q ⟨F, hr, x, q⟩ => by
    obtain ⟨p, vs, rfl, h1, h2⟩ := DD.tupI_inv hr rfl
    have h2' : DaAll X.K F vs ds := by
      have : tI (sT ds) = ds := map_sT
      rw [this] at h2; exact h2
    exact ⟨p, vs, rfl, fh_t x h1, h2'.len, F, h2', x, q⟩⟩
end
theorem gt_5S {X : Cx} {K : PySem.W.Frag} {x0 x1 x2 x3 x4 : Str} {d0 d1 d2 d3 d4 : PyData} {p0 p1 p2 p3 p4 pos : Pos} {kk : Nat} (i0 i1 i2 i3 i4 : Nat) (hc : X.calm = true) (hN : X.N.Nodup) (h0 : X.N[i0]? = some x0 := by rfl) (h1 : X.N[i1]? = some x1 := by rfl) (h2 : X.N[i2]? = some x2 := by rfl) (h3 : X.N[i3]? = some x3 := by rfl) (h4 : X.N[i4]? = some x4 := by rfl) (l0 : Loc X.env.scope x0 := by first | exact .inl rfl | exact .inr rfl) (l1 : Loc X.env.scope x1 := by first | exact .inl rfl | exact .inr rfl) (l2 : Loc X.env.scope x2 := by first | exact .inl rfl | exact .inr rfl) (l3 : Loc X.env.scope x3 := by first | exact .inl rfl | exact .inr rfl) (l4 : Loc X.env.scope x4 := by first | exact .inl rfl | exact .inr rfl) (f0 : X.fn x0 = true ∨ X.env.scope.names.lookup x0 = some .local := by first | exact .inl rfl | exact .inr rfl) (f1 : X.fn x1 = true ∨ X.env.scope.names.lookup x1 = some .local := by first | exact .inl rfl | exact .inr rfl) (f2 : X.fn x2 = true ∨ X.env.scope.names.lookup x2 = some .local := by first | exact .inl rfl | exact .inr rfl) (f3 : X.fn x3 = true ∨ X.env.scope.names.lookup x3 = some .local := by first | exact .inl rfl | exact .inr rfl) (f4 : X.fn x4 = true ∨ X.env.scope.names.lookup x4 = some .local := by first | exact .inl rfl | exact .inr rfl) (hn : (assignEach [.Name x0 p0, .Name x1 p1, .Name x2 p2, .Name x3 p3, .Name x4 p4] X.env).length = 5 := by rfl) (hst : (assignEach [.Name x0 p0, .Name x1 p1, .Name x2 p2, .Name x3 p3, .Name x4 p4] X.env).findIdx? (·.1) = none := by rfl) (hK : X.K = K := by rfl) : GT X (.Tuple [.Name x0 p0, .Name x1 p1, .Name x2 p2, .Name x3 p3, .Name x4 p4] kk pos) (DD K (sT [d0, d1, d2, d3, d4])) [i0, i1, i2, i3, i4] (fun E => ((((E.set i0 (some (DD K d0))).set i1 (some (DD K d1))).set i2 (some (DD K d2))).set i3 (some (DD K d3))).set i4 (some (DD K d4))) := by subst hK; exact gt_tupTS hc (gts_cons (gt_name i0 DD.mo hN h0 l0 f0) (gts_cons (gt_name i1 DD.mo hN h1 l1 f1) (gts_cons (gt_name i2 DD.mo hN h2 l2 f2) (gts_cons (gt_name i3 DD.mo hN h3 l3 f3) (gts_cons (gt_name i4 DD.mo hN h4 l4 f4) gts_nil))))) hn hst
end Z
namespace Z
open PySem PySem.Spec PyProof.Rows L2
variable [Vo]
theorem bck_tup {fs : List Addr} {F H F' H' : Hp} (k : FsOk fs F H) (e : Ext (frz fs F H) H F' H') : ∀ a u, TupO u → F' a = some u → bck fs F F' a = some u := fun b u t z => by
  unfold bck
  by_cases mb : b ∈ fs
  · exfalso
    obtain ⟨v, y, mv⟩ := k.m b mb
    have f1 : frz fs F H b = some v := by unfold frz; rw [if_pos mb]; exact y
    rw [e.ff b v f1] at z
    cases z
    exact mv.nt t
  · rw [if_neg mb]; exact z
section
variable {B : Bk} {E V : Env'} {os : OS} {P : DE} {rest : List Stmt} {e recv ix : Expr} {pos pos' : Pos} {l : Addr} {ds : List PyData} {d : PyData} {fs : List Addr}
theorem ws_setT (i : Nat) {x : Str} {pos' : Pos} (hN : B.X.N.Nodup) (hi : B.X.N[i]? = some x) (hx : Loc B.X.env.scope x) (hv : Vw os fs E V) (he : GE B.X e V (DD B.X.K d)) (nk : nkOk d = true) (k : WS B rest (E.set i (some (DD B.X.K d))) os P)
    (hs : swapsWith e (some (.Name x pos')) pos.line B.X.env = pure false := by rfl) (hf : B.X.fn x = true ∨ B.X.env.scope.names.lookup x = some .local := by first | exact .inl rfl | exact .inr rfl | assumption) :
    WS B (.Assign [.Name x pos'] e pos :: rest) E os P :=
  ws_of (ps_set hN hi hx he.pe hs hf) fun L D σ F H m r l => ⟨_, hv.rep r, hv.fh r, fun v F' H' x hr => by
    have u := ext_unfrz (hv.fsok r) r.o.fm.fh x
    exact k.run L D _ _ H' m ⟨r.o.ext u, (r.e.mono u.ff).set DD.mo (da_tup (bck_tup (hv.fsok r) x) _ _ nk hr)⟩ (Ex.tr l u.ff)⟩
theorem ws_setIxT (j : Nat) {i : Int} {n : Nat} (hr : GE B.X recv E (RR l)) (ho : os[j]? = some (l, Ls B.X.K ds)) (hi : GE B.X ix E (DD B.X.K (.int i))) (hn : ixN ds.length i = some n) (hv : Vw os fs E V) (he : GE B.X e V (DD B.X.K d)) (nk : nkOk d = true) (k : WS B rest E (os.set j (l, Ls B.X.K (ds.set n d))) P)
    (ha : ∀ v, assign (.Subscript recv ix pos') B.X.env v = (do let ov ← holding [v] (eval recv B.X.env); let iv ← holding [v, ov] (eval ix B.X.env); standAt pos'; holding [v, ov, iv] (setItem ov iv v); release [v, ov, iv] []) := by intro _; rfl)
    (hs : swapsWithSole [.Subscript recv ix pos'] e pos.line B.X.env = pure false := by rfl) (hw : swappedStores [.Subscript recv ix pos'] e B.X.env = pure none := by rfl) (h1 : (assignEach [.Subscript recv ix pos'] B.X.env).map (·.2) = [assign (.Subscript recv ix pos') B.X.env] := by rfl) : WS B (.Assign [.Subscript recv ix pos'] e pos :: rest) E os P :=
  ws_of (ps_asg he.pe (pg_sub hr.pe hi.pe set_list ha) hs hw h1) fun L D σ F H m r l1 => ⟨_, hv.rep r, hv.fh r, fun v F1 H1 e1 hv1 => by
    have u1 := ext_unfrz (hv.fsok r) r.o.fm.fh e1
    have hd := da_tup (bck_tup (hv.fsok r) e1) _ _ nk hv1
    have r1 := r.ext u1
    refine ⟨_, r1.e, r1.o.fm.fh, fun u F2 H2 e2 hu => ⟨F2, r1.e.mono e2.ff, e2.fh, fun w F3 H3 e3 hw => ?_⟩⟩
    have eu : u = .ref l := hu
    subst eu
    cases DD.int_inv hw
    have r3 := (r1.ext e2).ext e3
    obtain ⟨f3, _, o3, h3, vs, rfl, d3⟩ := r3.o.ow _ (List.mem_of_getElem? ho)
    refine ⟨l, vs, i, n, rfl, rfl, h3, by rw [d3.len]; exact hn, ?_⟩
    have f13 := Ex.tr e2.ff e3.ff
    exact k.run L D _ F3 _ m ⟨r3.o.write ho ⟨_, rfl, d3.set n (da_mono f13 _ _ hd)⟩, r3.e⟩ (Ex.tr (Ex.tr l1 u1.ff) f13)⟩
end
structure ConD (K : PySem.W.Frag) (mg : Str → Option Value) (x : Str) (d : PyData) : Prop where
  ex : ∃ p, mg x = some (.ref p) ∧ ∀ F, Da K F (.ref p) d
theorem g_con_d {X : Cx} {E : Env'} {x : Str} {d : PyData} {pos : Pos} (c : ConD X.K X.mg x d) (hg : Gl X x := by rfl) (hd : (x == ("__debug__" : Str)) = false := by decide) : GE X (.Name x pos) E (DD X.K d) := by
  obtain ⟨p, hm, hr⟩ := c.ex
  exact g_gref hg hm hr hd
end Z
namespace Z
open PySem PySem.Spec PyProof.Rows L2
variable [Vo]
structure GIZ (X : Cx) (tg iter : Expr) (E : Env') (ns : List Int) : Prop where
  pi : PI X tg iter (fun σ H R => ∃ F, RepE E σ F ∧ Fh F H ∧ ∀ J F' H', Ext F H F' H' → (∀ F0, DW J ns.length F0 (YD X.K (ns.map .int))) → R J H')
section
variable {X : Cx} {tg iter a b c : Expr} {E : Env'} {n m : Nat} {p pos : Pos} {i j l : Int}
theorem DW.imp {J : It} {n : Nat} {F : Hp} {Y Y' : Nat → RP} (h : DW J n F Y) (i : ∀ k F v, k < n → Y k F v → Y' k F v) : DW J n F Y' :=
  Walk.mono h (fun _ h => h) fun k H x H' hk _ q F2 f1 f2 => by
    obtain ⟨F3, e, y⟩ := q F2 f1 f2
    exact ⟨F3, e, i k F3 x hk y⟩
theorem z_range1 (B : Bn X.mg) (h : GE X a E (DD X.K (.int (n : Nat)))) (h1 : n < 2 ^ 62) (hg : Gl X "range" := by rfl) (hs : starEach [a] X.env = [(false, eval a X.env)] := by rfl) : GIZ X tg (.Call (.Name "range" p) [a] [] pos) E ((List.range n).map fun k => ((k : Nat) : Int)) :=
  ⟨pi_imp (pi_range1 hg B.range (gad_cons h gad_nil hs).pa hs) fun σ H R ⟨F, r, x, q⟩ => ⟨F, r, x, fun vs F' H' e1 r1 => by
    obtain ⟨v, rfl, hd⟩ := dpa1 r1
    cases DD.int_inv hd
    refine ⟨(n : Int), rfl, by omega, by omega, q _ F' H' e1 fun F0 => ?_⟩
    rw [List.length_map, List.length_range, show n = (n : Int).toNat by omega]
    refine walk_range.mono (fun _ _ => trivial) fun k H x H' hi hx ⟨e2, y⟩ F2 f1 f2 => ?_
    subst e2; subst y
    have hk : k < n := by omega
    refine ⟨F2, Ext.refl f2, .int (k : Nat), by simp [hk], ?_⟩
    show Da X.K F2 (.int (0 + (k : Int))) (.int (k : Int))
    rw [Int.zero_add]; exact .int _⟩⟩
theorem z_range2 (B : Bn X.mg) (ha : GE X a E (DD X.K (.int (m : Nat)))) (hb : GE X b E (DD X.K (.int (n : Nat)))) (h1 : m < 2 ^ 62 ∧ n < 2 ^ 62) (hg : Gl X "range" := by rfl) (hs : starEach [a, b] X.env = [(false, eval a X.env), (false, eval b X.env)] := by rfl) (hs2 : starEach [b] X.env = [(false, eval b X.env)] := by rfl) :
    GIZ X tg (.Call (.Name "range" p) [a, b] [] pos) E ((List.range' m (n - m)).map fun k => ((k : Nat) : Int)) :=
  ⟨pi_imp (pi_range2 hg B.range (gad_cons ha (gad_cons hb gad_nil hs2) (hs.trans (by rw [hs2]))).pa hs hs2) fun σ H R ⟨F, r, x, q⟩ => ⟨F, r, x, fun vs F' H' e1 r1 => by
    obtain ⟨v, u, rfl, hd, hd2⟩ := dpa2 r1
    cases DD.int_inv hd; cases DD.int_inv hd2
    refine ⟨(m : Int), (n : Int), rfl, ⟨by omega, by omega, by omega, by omega⟩, q _ F' H' e1 fun F0 => ?_⟩
    rw [List.length_map, List.length_range', show n - m = ((n : Int) - (m : Int)).toNat by omega]
    refine walk_range.mono (fun _ _ => trivial) fun k H x H' hi hx ⟨e2, y⟩ F2 f1 f2 => ?_
    subst e2; subst y
    refine ⟨F2, Ext.refl f2, .int ((m + k : Nat) : Int), ?_, by rw [show (((m + k : Nat) : Int)) = (m : Int) + (k : Int) by omega]; exact .int _⟩
    have hk : k < n - m := by omega
    simp [List.getElem?_range', hk]⟩⟩
theorem z_rangeD (B : Bn X.mg) (ha : GE X a E (DD X.K (.int i))) (hb : GE X b E (DD X.K (.int (-1)))) (hc : GE X c E (DD X.K (.int (-1)))) (h1 : -1 ≤ i ∧ i < 2 ^ 61) (hg : Gl X "range" := by rfl)
    (hs : starEach [a, b, c] X.env = (false, eval a X.env) :: starEach [b, c] X.env := by rfl) (hs2 : starEach [b, c] X.env = (false, eval b X.env) :: starEach [c] X.env := by rfl) (hs3 : starEach [c] X.env = (false, eval c X.env) :: starEach [] X.env := by rfl)
    (hp : ∀ (ta : TA), PA X [a, b, c] ta → PI X tg (.Call (.Name "range" p) [a, b, c] [] pos) (iRng3 ta) := by intro _ h; exact pi_range3 rfl (by assumption) h) :
    GIZ X tg (.Call (.Name "range" p) [a, b, c] [] pos) E ((List.range (i + 1).toNat).map fun k => i - ((k : Nat) : Int)) :=
  ⟨pi_imp (hp _ (gad_cons ha (gad_cons hb (gad_cons hc gad_nil hs3) hs2) hs).pa) fun σ H R ⟨F, r, x, q⟩ => ⟨F, r, x, fun vs F' H' e1 r1 => by
    cases r1 with | cons hd t => cases t with | cons hd2 t => cases t with | cons hd3 t =>
    cases t
    cases DD.int_inv hd; cases DD.int_inv hd2; cases DD.int_inv hd3
    refine ⟨i, -1, -1, (i - -1).toNat, rfl, RgC.neg (by omega) (by omega) (by decide) (by decide), q _ F' H' e1 fun F0 => ?_⟩
    rw [List.length_map, List.length_range, show (i + 1).toNat = (i - -1).toNat by omega]
    refine walk_rangeC.mono (fun _ _ => trivial) fun k H x H' hi hx ⟨e2, y⟩ F2 f1 f2 => ?_
    subst e2; subst y
    refine ⟨F2, Ext.refl f2, .int (i - ((k : Nat) : Int)), ?_, by rw [show i - ((k : Nat) : Int) = i + (k : Int) * -1 by omega]; exact .int _⟩
    have hk : k < (i + 1).toNat := by omega
    simp [hk]⟩⟩
end
theorem GIZ.is {X : Cx} {tg iter : Expr} {E : Env'} {ns ns' : List Int} (h : GIZ X tg iter E ns) (q : ns = ns') : GIZ X tg iter E ns' := by subst q; exact h
section
variable {B : Bk} {E V : Env'} {os : OS} {P : DE} {rest body : List Stmt} {tg iter : Expr} {pos : Pos} {fs : List Addr} {α : Type} {xs : List α} {enc : α → Int} {sl : List Nat} {f : α → Env' → Env'}
theorem ws_forZ (hp : PassesOwn (model B.X.prog B.X.w) B.X.A B.X.env B.X.xe) (hc : B.X.calm = true) (hv : Vw os fs E V) (hi : GIZ B.X tg iter V (xs.map enc)) (hT : ∀ x, x ∈ xs → GT B.X tg (DD B.X.K (.int (enc x))) sl (f x))
    (I : List α → Env' → OS → Prop) (h0 : I [] E os) (hs : ∀ pre x post E' os', xs = pre ++ x :: post → I pre E' os' → WS B body (f x E') os' { nx := I (pre ++ [x]), ct := I (pre ++ [x]), bk := fun E os => WS B rest E os P, rt := P.rt, xc := P.xc }) (hd : ∀ E' os', I xs E' os' → WS B rest E' os' P)
    (hs' : ∀ x, foldedSetIterable iter B.X.env x = pure x := by intro _; rfl) : WS B (.For tg iter body [] pos :: rest) E os P := by
  have hT' : ∀ i, i < xs.length → GT B.X tg (YD B.X.K ((xs.map enc).map .int) i) sl (pick f xs i) := fun i hi => by
    obtain ⟨x, hx⟩ := some_of_lt hi
    rw [show (xs.map enc).map PyData.int = xs.map fun x => PyData.int (enc x) by rw [List.map_map]; rfl, yd_map hx, pick_at hx]
    exact hT x (List.mem_of_getElem? hx)
  refine ws_of (ps_for (g := gR xs.length (YD B.X.K ((xs.map enc).map .int)) sl (pick f xs)) (tb := fun D σ H => W B.X body D σ H) hp hc hi.pi ⟨fun pins s σ H v u Q I r ⟨i, hi, q⟩ => (hT' i hi).pg.run pins s σ H v u Q I r q⟩ w_can hs') fun L D σ F H m r l => ⟨_, hv.rep r, hv.fh r, fun J F0 H' x0 w0 => ?_⟩
  obtain ⟨F', x⟩ : ∃ F', Ext F H F' H' := ⟨_, ext_unfrz (hv.fsok r) r.o.fm.fh x0⟩
  have w := w0 F'
  rw [List.length_map] at w
  have l' : Ex L F' := Ex.tr l x.ff
  refine for_it (g := gR xs.length (YD B.X.K ((xs.map enc).map .int)) sl (pick f xs)) (tb := fun D σ H => W B.X body D σ H) (D := { D with nx := fun σ' H' => W B.X rest D σ' H' }) w (fun i σ H => ∃ E os F2, I (xs.take i) E os ∧ RepS B E os σ F2 H ∧ Ex F' F2) ⟨E, os, F', by rw [List.take_zero]; exact h0, r.ext x, fun _ _ q => q⟩ (fun i σ H _ ⟨E, os, F2, _, r2, f2⟩ a o g e => r2.o.fm.fh.at (f2 a o e) g) ?_ ?_
  · rintro i v σ2 H2 H3 hlt ⟨E2, os2, F2, i2, r2, f2⟩ y
    obtain ⟨F3, en, hy⟩ := y F2 f2 r2.o.fm.fh
    obtain ⟨z, hx⟩ := some_of_lt hlt
    obtain ⟨e1, e2⟩ := split_at hx
    refine ⟨i, hlt, F3, hy, en.fh, fun σ3 k => ?_⟩
    have r4 : RepS B (pick f xs i E2) os2 σ3 F3 H3 := ⟨r2.o.ext en, k.1 E2 (r2.e.mono en.ff)⟩
    rw [pick_at hx] at r4
    have hb := hs (xs.take i) z (xs.drop (i + 1)) E2 os2 e1 i2
    rw [← e2] at hb
    exact hb.run F' _ σ3 F3 H3 ⟨fun E4 os4 σ4 F4 H4 q r5 l5 => ⟨E4, os4, F4, q, r5, l5⟩, fun R os4 v F4 H4 q r5 l5 hv => m.rt R os4 v F4 H4 q r5 (Ex.tr l' l5) hv, fun E4 os4 σ4 F4 H4 q r5 l5 => q.run L D σ4 F4 H4 m r5 (Ex.tr l' l5), fun E4 os4 σ4 F4 H4 q r5 l5 => ⟨E4, os4, F4, q, r5, l5⟩, fun c p E4 os4 σ4 F4 H4 d q r5 l5 => m.xc c p E4 os4 σ4 F4 H4 d q r5 (Ex.tr l' l5)⟩ r4 (Ex.tr f2 en.ff)
  · rintro σ2 H2 ⟨E2, os2, F2, i2, r2, f2⟩
    rw [List.take_length] at i2
    exact (hd E2 os2 i2).run L D σ2 F2 H2 m r2 (Ex.tr l' f2)
end
end Z
namespace Z
open PySem PySem.Spec PyProof.Rows L2
variable [Vo]
theorem fh_only {H : Hp} (h : Only H) : Fh H H := ⟨fun _ _ _ e => e, fun a s e => by
  rcases h a with q | ⟨o, xs, q⟩
  · rw [q] at e; cases e
  · rw [q] at e; cases e⟩
theorem con_t2 {K : PySem.W.Frag} {mg : Str → Option Value} {h : Heap} {p : Addr} {x : Str} {a b : Int} {ta tb : Tok} {od : Option Addr} {n : Nat} {sl : Array (Option Value)} (X : K.In h) (G : h.Ns mainGlobals mg)
    (h1 : PySem.W.nsIn K mainGlobals x = some (some (.ref p))) (h2 : K.lookup p = some ⟨.type "tuple", od, .seq #[.int a ta, .int b tb] n, sl⟩) : ConD K mg x (.tuple [.int a, .int b]) :=
  ⟨⟨p, PySem.W.mg_of X G h1, fun F => .tup (xs := [V.int a, V.int b]) (.inr ⟨_, _, _, h2, rfl, rfl, (by show 2 ≤ sizeLine; decide), .cons ⟨_, rfl⟩ (.cons ⟨_, rfl⟩ .nil)⟩) (.cons (.int _) (.cons (.int _) .nil))⟩⟩
end Z
namespace Z
open PySem PySem.Spec PyProof.Rows L2
variable [Vo]
inductive Oc where
  | ret (d : PyData)
  | exc (c : Value) (p : PX)
def OcV (K : PySem.W.Frag) : Oc → RP
  | .ret d => fun F v => Da K F v d
  | .exc _ _ => fun _ _ => False
def OcX : Oc → Value → Hp → Option Addr → Prop
  | .ret _ => fun _ _ _ => False
  | .exc c p => fun c' F dd => c' = c ∧ p F dd
def spO (K : PySem.W.Frag) (q : List RP → Oc → Prop) : Sp := fun vs H Q E => ∃ F Rs oc, Fh F H ∧ All2 F Rs vs ∧ q Rs oc ∧ (∀ v F' H', Ext F H F' H' → OcV K oc F' v → Q v H') ∧ ∀ c dd F' H', Ext F H F' H' → OcX oc c F' dd → E c dd H'
def OcD (K : PySem.W.Frag) (oc : Oc) : DE := { nx := fun _ _ => oc = .ret .none, rt := fun R _ => ∀ F v, R F v → OcV K oc F v, xc := fun c p _ _ => ∀ F dd, p F dd → OcX oc c F dd }
abbrev WQ (E : XK) : WX := fun cls d _ H => E cls d H
abbrev cxX (P : Program) (w : World) (K : PySem.W.Frag) (mg : Str → Option Value) (base : Heap) (N : List Str) (qual : Str) (st : Stmt) (f : Addr) (cdv : Value) (A : Around) (outer : List Env) (s : Shared) (H : Hp) (E : XK) : Cx := (cxOf (L2.CX P w) P w K mg base N qual (defScope st) f cdv A outer s H E)
structure FnE (P : Program) (w : World) (K : PySem.W.Frag) (mg : Str → Option Value) (base : Heap) (k : Nat) (x : Str) (ps : List Str) (sp : Sp) : Prop where
  ex : ∃ f fd, mg x = some (.ref f) ∧ PySem.W.keepIn K (.ref f) = true ∧ Binds K fd ps [] ∧ FnOk P w K mg base (L2.CX P w) k f fd ps sp
theorem FnE.of {P : Program} {w : World} {K : PySem.W.Frag} {mg : Str → Option Value} {base : Heap} {x qual : Str} {st : Stmt} {f : Addr} {fd : FuncData} {ps : List Str} {k : Nat} {sp : Sp} (F : Fun K x qual st f fd) (hk : PySem.W.keepIn K (.ref f) = true) (hm : mg x = some (.ref f)) (hb : Binds K fd ps []) (h : FnOk P w K mg base (L2.CX P w) k f fd ps sp) : FnE P w K mg base k x ps sp := ⟨⟨f, fd, hm, hk, hb, h⟩⟩
section
variable {P : Program} {w : World} {K : PySem.W.Frag} {mg : Str → Option Value} {base : Heap}
theorem fn_O {x qual : Str} {st : Stmt} {f : Addr} {fd : FuncData} {N ps : List Str} {k : Nat} {q : List RP → Oc → Prop} (F : Fun K x qual st f fd) (S : FnScope N ps (defScope st)) (len : ∀ Rs d, q Rs d → Rs.length = ps.length)
    (hb : ∀ (cdv : Value) (A : Around) (outer : List Env) (s : Shared) (H F0 : Hp) (E : XK), Room k (cxX P w K mg base N qual st f cdv A outer s H E).A → Takes (cxX P w K mg base N qual st f cdv A outer s H E) (WQ E) → ∀ Rs oc, q Rs oc → WS ⟨cxX P w K mg base N qual st f cdv A outer s H E, F0, H, [], WQ E⟩ (defBody st) (entG N.length Rs) [] (OcD K oc)) :
    FnOk P w K mg base (L2.CX P w) (k + 1) f fd ps (spO K q) := by
  refine F.okX S (fun vs H Q E ⟨F, Rs, oc, _, h, hq, _⟩ => h.len.trans (len Rs oc hq)) (fun cdv A outer s H vs Q E hr ⟨F0, Rs, oc, ex, h, hq, kv, kx⟩ => ⟨_, w_can, ?_⟩)
  refine (hb cdv A outer s H F0 E hr (takes_of rfl rfl rfl rfl) Rs oc hq).run F0 _ (L2.start N vs) F0 H ⟨fun E' os σ F' H' e r l => ?_, fun R os v F' H' e r l hv => ?_, fun E' os σ F' H' z => z.elim, fun E' os σ F' H' z => z.elim, fun c p E' os σ F' H' d e r l hp => ?_⟩ ⟨⟨⟨fun _ _ q => q, ex, fun a o _ _ q => q, fun a o q _ => q, fun a q => nomatch q⟩, List.nodup_nil, fun p hp => nomatch hp⟩, rep_startG h⟩ (fun _ _ q => q)
  · have e' : oc = .ret .none := e
    subst e'
    exact kv _ F' H' ⟨r.o.fm.ff, r.o.fm.fh, fun a o n q => r.o.fm.hh a o (by simp) n q, r.o.fm.nf⟩ .non
  · exact kv v F' H' ⟨r.fm.ff, r.fm.fh, fun a o n q => r.fm.hh a o (by simp) n q, r.fm.nf⟩ (e F' v hv)
  · exact kx c d F' H' ⟨r.o.fm.ff, r.o.fm.fh, fun a o n q => r.o.fm.hh a o (by simp) n q, r.o.fm.nf⟩ (e F' d hp)
end
section
variable {B : Bk} {E : Env'} {os : OS} {rest : List Stmt} {P : DE} {pos p : Pos} {e : Expr} {es : List Expr} {x : Str} {Rs : List RP}
theorem ws_raise {t : L2.St → Hp → XK → Prop} (hc : B.X.calm = true) (tk : Takes B.X B.W) (he : PMk B.X e t)
    (h : ∀ σ F H, RepS B E os σ F H → ∀ (Q : XK), (∀ cls d F' H' p, Ext F H F' H' → P.xc cls p E os → p F' d → Q cls d H') → t σ H Q) : WS B (.Raise (some e) none pos :: rest) E os P :=
  ws_of (ps_raise hc tk he) fun L D σ F H m r l => h σ F H r _ fun cls d F' H' p x hp hd => m.xc cls p E os σ F' H' d hp (r.ext x) (Ex.tr l x.ff) hd
structure ExC (K : PySem.W.Frag) (mg : Str → Option Value) (x : Str) (C : Addr) : Prop where
  ei : PySem.W.excIn K C [.type "ValueError", .type "Exception", .type "BaseException", .type "object"] "ValueError.__new__" = true
  mg_ : mg x = some (.ref C)
  kp : PySem.W.keepIn K (.ref C) = true
  ex : PySem.W.subIn K (.ref C) (.type "BaseException") = some true
  ty : PySem.W.typeIn K (.ref C) = some (.type "type")
theorem ws_raiseC {C : Addr} {m : Str} {j : Nat} {p2 : Pos} (hc : B.X.calm = true) (tk : Takes B.X B.W) (c : ExC B.X.K B.X.mg x C) (hp : P.xc (.ref C) (fun _ d => d = none) E os) (hg : Gl B.X x := by rfl) (hdb : (x == ("__debug__" : Str)) = false := by decide) :
    WS B (.Raise (some (.Call (.Name x p) [.Constant (.str m) j p2] [] pos)) none pos :: rest) E os P :=
  ws_raise hc tk (pmk_own PySem.F.excBase_ValueError c.ei c.mg_ c.kp (raises_own c.ex c.ty) hg hdb) fun σ F H r Q k => k _ _ F H _ (Ext.refl r.o.fm.fh) hp rfl
end
end Z
namespace Z
open PySem PySem.Spec PyProof.Rows L2
variable [Vo]
structure MeI (K : PySem.W.Frag) (C : Addr) : Prop where
  ga : PySem.W.specialIn K (.ref C) "__getattribute__" = some (some (.builtin "type.__getattribute__"))
  rd : PySem.W.readsIn K C (.type "type") = true
  fc : PySem.W.findCls K (.ref C) (.type "type") "__init__" = some (.val (.builtin "ValueError.__init__"))
theorem pe_cinit {X : Cx} {C0 : Addr} {x : Str} {e : Expr} {es : List Expr} {ta : TA} {p1 p2 pos : Pos} {pl : Sem Bool} (hg : Gl X x) (hm : X.mg x = some (.ref C0)) (M : MeI X.K C0) (ha : PA X (e :: es) ta) (hdb : (x == ("__debug__" : Str)) = false := by decide)
    (hc : eval (.Call (.Attribute (.Name x p1) "__init__" p2) (e :: es) [] pos) X.env = (do
      let ov ← eval (.Name x p1) X.env
      standAt p2.atName
      let (f, first) ← holding [ov] (getMethod ov "__init__" pl)
      callWith pos f first (backTo pos (starEach (e :: es) X.env)) (backToKw pos (keywordEach [] X.env))) := by rfl)
    (he : starEach (e :: es) X.env = (false, eval e X.env) :: starEach es X.env := by rfl) (hpl : (backTo pos (starEach es X.env)).any (·.1) = false := by rfl) :
    PE X (.Call (.Attribute (.Name x p1) "__init__" p2) (e :: es) [] pos) (tVeI X.K ta) := by
  refine ⟨fun pins s σ H Q I h => ?_⟩
  refine PySem.W.methodCall_KW (ld_glob I hg hm ?_ hdb) hc
  refine PySem.W.method_cls I.kIn M.ga ?_
  refine PySem.W.cls_value I.kIn M.rd M.fc (by decide +kernel) ?_
  show wpAny _ _ (callWith pos (Value.builtin "ValueError.__init__") [] (backTo pos (starEach (e :: es) X.env)) []) _ _ _
  refine PyProof.Rows.callWith_method1 (thn (ha.run pos pins _ σ H _ (I.tok _) h) fun us s1 ⟨vs, H1, I1, r1, a, C, ws, ev, hl, T, ea, q⟩ => ?_) he hpl
  subst ev
  cases r1 with
  | @cons _ u0 _ ur ra rw' =>
    obtain rfl : u0 = Value.ref a := ra
    have hlen : ur.length ≤ sizeLine := by
      rw [← Paired.length rw', sizeLine_eq]
      omega
    exact oinit_ok T I1 ea hlen fun s' J => ⟨.non, H1, J, rfl, q⟩
def spI1 (C : Addr) (f : Str) : Sp := fun vs H Q _ => ∃ a v, vs = [.ref a, v] ∧ H a = some (exo a C none) ∧ ∀ dx, H dx = none → dx ≠ a → Q .non (upd (upd H dx (exd dx [(f, v)])) a (exo a C (some dx)))
structure OxC (K : PySem.W.Frag) (C : Addr) (f : Str) : Prop where
  T : OexC K C
  nf : PySem.W.findIn K (.ref C) f = some none
structure IxD (P : Program) (w : World) (K : PySem.W.Frag) (mg : Str → Option Value) (base : Heap) (k : Nat) (x : Str) (C : Addr) (f : Str) (ps : List Str) : Prop where
  ex : ∃ fI fd, mg x = some (.ref C) ∧ PySem.W.findIn K (.ref C) "__init__" = some (some (.ref fI)) ∧ PySem.W.typeIn K (.ref fI) = some (.type "function") ∧ Binds K fd ps [] ∧ FnOk P w K mg base CX0 k fI fd ps (spI1 C f)
def pxF (f : Str) (R : RP) : PX := fun F d => ∃ dd v, d = some dd ∧ F dd = some (.xd [(f, v)]) ∧ R F v
theorem pxF_mono {f : Str} {R : RP} (m : Mono R) {F F' : Hp} {d : Option Addr} (e : Ex F F') (h : pxF f R F d) : pxF f R F' d := by
  obtain ⟨dd, v, h1, h2, h3⟩ := h
  exact ⟨dd, v, h1, e _ _ h2, m _ _ _ e h3⟩
section
variable {B : Bk} {E : Env'} {os : OS} {rest : List Stmt} {P : DE} {pos p : Pos} {e : Expr} {x : Str} {R : RP}
theorem ws_raiseF {C : Addr} {f : Str} {k : Nat} {ps : List Str} (hc : B.X.calm = true) (tk : Takes B.X B.W) (c : OxC B.X.K C f) (I : IxD B.X.prog B.X.w B.X.K B.X.mg B.X.base k x C f ps) (hr : Room (k + 1) B.X.A) (he : GE B.X e E R) (hp : P.xc (.ref C) (pxF f R) E os) (hg : Gl B.X x := by rfl)
    (hdb : (x == ("__debug__" : Str)) = false := by decide) (hs : starEach [e] B.X.env = (false, eval e B.X.env) :: starEach [] B.X.env := by rfl) : WS B (.Raise (some (.Call (.Name x p) [e] [] pos)) none pos :: rest) E os P := by
  obtain ⟨fI, fd, hm, iC, tI, hb, F1⟩ := I.ex
  refine ws_raise hc tk (pmk_oex c.T iC tI F1 hr hb .nil (pass0 (X := B.X)) hg hm (pa_cons he.pe pa_nil hs) hdb hs (by rfl)) fun σ F H r Q k => ?_
  refine ⟨F, r.e, r.o.fm.fh, fun v F1 H1 e1 rv => ?_⟩
  show _ ∧ _
  refine ⟨(show 1 ≤ 1000 by decide), fun a ha => ⟨a, v, rfl, upd_same, fun dx hdx hne => ?_⟩⟩
  have hd1 : H1 dx = none := by rw [upd_ne hne] at hdx; exact hdx
  have eh : upd (L2.del (upd (upd (upd H1 a (exo a C none)) dx (exd dx [(f, v)])) a (exo a C (some dx))) a) dx (.xd [(f, v)]) = upd H1 dx (.xd [(f, v)]) := by
    funext b
    by_cases hb : b = dx
    · subst hb; rw [upd_same, upd_same]
    · rw [upd_ne hb, upd_ne hb]
      by_cases ha' : b = a
      · subst ha'; rw [L2.del_same, ha]
      · rw [L2.del_ne ha', upd_ne ha', upd_ne hb, upd_ne ha']
  refine ⟨rfl, dx, [(f, v)], upd_same, by rw [upd_ne hne, upd_same], hd1, ?_⟩
  rw [eh]
  have en := Ext.new e1.fh hd1 (HO.xd [(f, v)])
  exact k _ _ _ _ _ (e1.trans en) hp ⟨dx, v, rfl, upd_same, he.mo _ _ _ en.ff rv⟩
end
end Z
namespace Z
open PySem PySem.Spec PyProof.Rows L2
variable [Vo]
section
variable {B : Bk} {E : Env'} {os : OS} {rest : List Stmt} {P : DE} {pos p : Pos} {e : Expr} {es : List Expr} {x y : Str} {R : RP} {Rs : List RP} {oc : Oc}
theorem ws_setO (i : Nat) {pos' : Pos} {k : Nat} {ps : List Str} {q : List RP → Oc → Prop} (hN : B.X.N.Nodup) (hi : B.X.N[i]? = some y) (hy : Loc B.X.env.scope y) (C : FnE B.X.prog B.X.w B.X.K B.X.mg B.X.base k x ps (spO B.X.K q)) (tk : Takes B.X B.W) (hr : Room k B.X.A) (ha : GA B.X (e :: es) E Rs) (hq : q Rs oc)
    (kr : ∀ d, oc = .ret d → WS B rest (E.set i (some (DD B.X.K d))) os P) (kx : ∀ c pp, oc = .exc c pp → P.xc c pp E os) (hg : Gl B.X x := by rfl) (hdb : (x == ("__debug__" : Str)) = false := by decide)
    (he : starEach (e :: es) B.X.env = (false, eval e B.X.env) :: starEach es B.X.env := by rfl) (hpl : (backTo p (starEach es B.X.env)).any (·.1) = false := by rfl)
    (hf : B.X.fn y = true ∨ B.X.env.scope.names.lookup y = some .local := by first | exact .inl rfl | exact .inr rfl | assumption) {pos2 : Pos} (hs2 : swapsWith (.Call (.Name x pos) (e :: es) [] p) (some (.Name y pos')) pos2.line B.X.env = pure false := by rfl) :
    WS B (.Assign [.Name y pos'] (.Call (.Name x pos) (e :: es) [] p) pos2 :: rest) E os P := by
  obtain ⟨f, fd, hm, hk, hb, F⟩ := C.ex
  refine ws_of (ps_set hN hi hy (pe_callS F hr hg hm hk hb (fun σ => passAt tk σ) ha.pa hdb he hpl) hs2 hf) fun L D σ F H m r l => ?_
  refine ⟨F, r.e, r.o.fm.fh, fun vs F1 H1 e1 r1 => ⟨F1, Rs, oc, e1.fh, r1, hq, fun v F2 H2 e2 hv => ?_, fun c dd F2 H2 e2 hx => ?_⟩⟩
  · cases oc with
    | ret d =>
      have e12 := e1.trans e2
      exact (kr d rfl).run L D _ F2 H2 m ⟨r.o.ext e12, (r.e.mono e12.ff).set DD.mo hv⟩ (Ex.tr l e12.ff)
    | exc c pp => exact hv.elim
  · cases oc with
    | ret d => exact hx.elim
    | exc c0 pp =>
      obtain ⟨rfl, hp⟩ := hx
      have e12 := e1.trans e2
      exact m.xc c pp E os σ F2 H2 dd (kx c pp rfl) (r.ext e12) (Ex.tr l e12.ff) hp
def tBody (X : Cx) (body : List Stmt) (W0 : WX) : TS := fun D σ H => ∀ (pn : List (Addr × Obj)) (xe : Value → Shared → Prop), Takes (X.tr pn xe) W0 → W (X.tr pn xe) body D σ H
def tSuite (X : Cx) (suite : List Stmt) (a : Addr) (cls : Value) (d : Option Addr) : TS := fun D σ H => ∀ (oe : Obj) (pn : List (Addr × Obj)), Zc cls d oe → (∃ vs, oe.data = .fields vs) → W (X.suite a ((a, oe) :: pn)) suite D σ H
theorem ws_try_only {body suite : List Stmt} {b0 : Stmt} {np pos' : Pos} {c0 : Value} {J : Env' → OS → Prop} {JX : Env' → OS → Prop} (hst : B.X.stack = B.X.env :: B.X.outer) (hfr : B.X.env.frame = some B.X.env.locals) (hc : Names B.X x c0) (tk : Takes B.X B.W)
    (hb : ∀ (W0 : WX) (pn : List (Addr × Obj)) (xe : Value → Shared → Prop), Takes (B.X.tr pn xe) W0 → WS { B with X := B.X.tr pn xe, W := W0 } body E os { P with nx := J, xc := fun c _ E' os' => PySem.W.exmOne B.X.K c c0 = some true ∧ JX E' os' })
    (hsu : ∀ E' os', JX E' os' → ∀ (a : Addr) (cls : Value) (d : Option Addr) (oe : Obj) (pn : List (Addr × Obj)), WS { B with X := B.X.suite a ((a, oe) :: pn) } (b0 :: suite) E' os' { P with nx := J, xc := fun _ _ _ _ => False })
    (hk : ∀ E' os', J E' os' → WS B rest E' os' P) : WS B (.Try body [.ExceptHandler (some (.Name x np)) none (b0 :: suite) pos'] [] [] pos :: rest) E os P := by
  refine ws_of (ps_try_only hst hfr hc tk (tb := tBody B.X body) (ts := tSuite B.X (b0 :: suite)) (fun W0 pn xe t0 _ => ⟨fun pins s σ H D I h => h pn xe t0 pins s I⟩) (fun a oe cls d pn hz hv => ⟨fun pins s σ H D I h => h oe pn hz hv pins s I⟩)) fun L D σ F H m r l => ?_
  intro pn xe t0
  refine (hb _ pn xe t0).run L _ σ F H ⟨fun E' os' σ' F' H' j r' l' => (hk E' os' j).run L D σ' F' H' m ⟨r'.o, r'.e⟩ l', m.rt, (fun E os σ F H q r x => m.bk E os σ F H q ⟨r.o, r.e⟩ x), (fun E os σ F H q r x => m.ct E os σ F H q ⟨r.o, r.e⟩ x), fun c pp E' os' σ' F' H' d ⟨hx, j⟩ r' l' hp => ?_⟩ ⟨r.o, r.e⟩ l
  refine ⟨true, hx, fun _ a ha oe pn' hz hv => ?_, fun z => by cases z⟩
  exact (hsu E' os' j a c d oe pn').run L _ σ' F' H' ⟨fun E' os' σ' F' H' j r' l' => (hk E' os' j).run L D σ' F' H' m ⟨r'.o, r'.e⟩ l', m.rt, (fun E os σ F H q r x => m.bk E os σ F H q ⟨r.o, r.e⟩ x), (fun E os σ F H q r x => m.ct E os σ F H q ⟨r.o, r.e⟩ x), fun _ _ _ _ _ _ _ _ z => z.elim⟩ ⟨r'.o, r'.e⟩ l'
def RE (a : Addr) (d : Option Addr) (pp : PX) : RP := fun F v => v = .ref a ∧ pp F d
theorem ws_try_as (i : Nat) {n : Str} {body suite : List Stmt} {b0 : Stmt} {np pos' : Pos} {c0 : Value} {J : Env' → OS → Prop} {JX : Value → PX → Env' → OS → Prop} (hst : B.X.stack = B.X.env :: B.X.outer) (hfr : B.X.env.frame = some B.X.env.locals) (hN : B.X.N.Nodup) (hi : B.X.N[i]? = some n) (hln : B.X.env.kindOf n = some .local) (hc : Names B.X x c0) (tk : Takes B.X B.W)
    (hb : ∀ (W0 : WX) (pn : List (Addr × Obj)) (xe : Value → Shared → Prop), Takes (B.X.tr pn xe) W0 → WS { B with X := B.X.tr pn xe, W := W0 } body E os { P with nx := J, xc := fun c pp E' os' => PySem.W.exmOne B.X.K c c0 = some true ∧ (∀ d, Mono fun F _ => pp F d) ∧ JX c pp E' os' })
    (hsu : ∀ c pp E' os', JX c pp E' os' → ∀ (a : Addr) (d : Option Addr) (oe : Obj) (pn : List (Addr × Obj)), Zc c d oe → (∃ vs, oe.data = .fields vs) → WS { B with X := B.X.suite a ((a, oe) :: pn) } (b0 :: suite) (E'.set i (some (RE a d pp))) os' { nx := fun E os => J (E.set i none) os, rt := P.rt, bk := fun E os => P.bk (E.set i none) os, ct := fun E os => P.ct (E.set i none) os })
    (hk : ∀ E' os', J E' os' → WS B rest E' os' P) : WS B (.Try body [.ExceptHandler (some (.Name x np)) (some n) (b0 :: suite) pos'] [] [] pos :: rest) E os P := by
  refine ws_of (ps_try_as hst hfr hN hi hln hc tk (tb := tBody B.X body) (ts := tSuite B.X (b0 :: suite)) (fun W0 pn xe t0 _ => ⟨fun pins s σ H D I h => h pn xe t0 pins s I⟩) (fun a oe cls d pn hz hv => ⟨fun pins s σ H D I h => h oe pn hz hv pins s I⟩)) fun L D σ F H m r l => ?_
  intro pn xe t0
  refine (hb _ pn xe t0).run L _ σ F H ⟨fun E' os' σ' F' H' j r' l' => (hk E' os' j).run L D σ' F' H' m ⟨r'.o, r'.e⟩ l', m.rt, (fun E os σ F H q r x => m.bk E os σ F H q ⟨r.o, r.e⟩ x), (fun E os σ F H q r x => m.ct E os σ F H q ⟨r.o, r.e⟩ x), fun c pp E' os' σ' F' H' d ⟨hx, mo, j⟩ r' l' hp => ?_⟩ ⟨r.o, r.e⟩ l
  refine ⟨true, hx, fun _ a ha oe pn' hz hv => ?_, fun z => by cases z⟩
  refine (hsu c pp E' os' j a d oe pn' hz hv).run L _ _ F' H' ⟨fun E2 os2 σ2 F2 H2 j r2 l2 => ?_, m.rt, fun E2 os2 σ2 F2 H2 j r2 l2 => m.bk _ _ _ F2 H2 j ⟨r2.o, r2.e.setN⟩ l2, fun E2 os2 σ2 F2 H2 j r2 l2 => m.ct _ _ _ F2 H2 j ⟨r2.o, r2.e.setN⟩ l2, fun _ _ _ _ _ _ _ _ z => z.elim⟩ ⟨r'.o, r'.e.set (fun F1 F2 v e ⟨h1, h2⟩ => ⟨h1, mo d _ _ v e h2⟩) ⟨rfl, hp⟩⟩ l'
  exact (hk _ os2 j).run L D _ F2 H2 m ⟨r2.o, r2.e.setN⟩ l2
end
end Z
namespace Z
open PySem PySem.Spec PyProof.Rows L2
variable [Vo]
section
variable {B : Bk} {E V : Env'} {os : OS} {P : DE} {rest body : List Stmt} {e recv ix : Expr} {pos pos' : Pos} {l : Addr} {ds : List PyData} {d : PyData} {fs : List Addr} {h0 : ExceptHandler} {hds : List ExceptHandler}
theorem ws_newV (i : Nat) {x : Str} (hN : B.X.N.Nodup) (hi : B.X.N[i]? = some x) (hx : Loc B.X.env.scope x) (hv : Vw os fs E V) (he : GEN B.X e V ds) (nk : nkOkAll ds = true) (k : ∀ l, WS B rest (E.set i (some (RR l))) (os ++ [(l, Ls B.X.K ds)]) P)
    (hs : swapsWith e (some (.Name x pos')) pos.line B.X.env = pure false := by rfl) (hf : B.X.fn x = true ∨ B.X.env.scope.names.lookup x = some .local := by first | exact .inl rfl | exact .inr rfl | assumption) :
    WS B (.Assign [.Name x pos'] e pos :: rest) E os P :=
  ws_of (ps_set hN hi hx he.pe hs hf) fun L D σ F H m r l => ⟨_, hv.rep r, hv.fh r, fun p vs F' H' x h1 h2 h3 h4 => by
    have u := ext_unfrz (hv.fsok r) r.o.fm.fh x
    have fp : bck fs F F' p = none := by
      unfold bck
      by_cases mb : p ∈ fs
      · rw [if_pos mb]; exact r.o.fm.fh.no h2
      · rw [if_neg mb]; exact h1
    exact (k p).run L D _ _ H' m ⟨r.o.grow u fp h2 h3 ⟨vs, rfl, daAll_tup (bck_tup (hv.fsok r) x) _ _ nk h4⟩, (r.e.mono u.ff).set RR.mo rfl⟩ (Ex.tr l u.ff)⟩
theorem ws_try_thru {J : Env' → OS → Prop} (hb : WS { B with X := B.X.nox, W := WN } body E os { nx := J, rt := P.rt, bk := P.bk, ct := P.ct }) (hk : ∀ E' os', J E' os' → WS B rest E' os' P) : WS B (.Try body (h0 :: hds) [] [] pos :: rest) E os P :=
  ws_of (ps_try_thru0 (w_can (X := B.X.nox) (sts := body))) fun L D σ F H m r l =>
    hb.run L _ σ F H ⟨fun E' os' σ' F' H' j r' l' => (hk E' os' j).run L D σ' F' H' m ⟨r'.o, r'.e⟩ l', m.rt, fun E os σ F H q r x => m.bk E os σ F H q ⟨r.o, r.e⟩ x, fun E os σ F H q r x => m.ct E os σ F H q ⟨r.o, r.e⟩ x, fun _ _ _ _ _ _ _ _ z => z.elim⟩ ⟨r.o, r.e⟩ l
end
section
variable {X : Cx} {E : Env'} {e o : Expr} {es : List Expr} {p pos apos : Pos} {d : PyData} {Rs : List RP} {C : Addr} {m : Str}
theorem g_methE {ι : Type} {fds : ι → List (Str × RP)} {pl : Sem Bool} {k : Nat} {ps : List Str} {q : List RP → PyData → Prop} (M : MtD X.prog X.w X.K X.mg X.base k C m ps (spG X.K q)) (c : Cls X.K C) (hr : Room k X.A) (ho : GE X o E (fun F v => ∃ i, InsR C (fds i) F v)) (ha : GA X (e :: es) E Rs) (hq : ∀ i, q (InsR C (fds i) :: Rs) d) (hl : ∀ i, (fds i).lookup m = none := by intro _; rfl)
    (hst : starEach (e :: es) X.env = (false, eval e X.env) :: starEach es X.env := by rfl) (hpl : (backTo pos (starEach es X.env)).any (·.1) = false := by rfl)
    (ht : eval (.Call (.Attribute o m apos) (e :: es) [] pos) X.env = (do
      let ov ← eval o X.env
      standAt apos.atName
      let (f, first) ← holding [ov] (getMethod ov m pl)
      callWith pos f first (backTo pos (starEach (e :: es) X.env)) (backToKw pos (keywordEach [] X.env))) := by rfl) : GE X (.Call (.Attribute o m apos) (e :: es) [] pos) E (DD X.K d) := by
  obtain ⟨f, fd, hm, hb, F⟩ := M.ex
  exact ⟨pe_imp (pe_meth (pl := pl) ho.pe c hm F hr hb .nil (pass0 (X := X)) ha.pa hst hpl ht) fun σ H Q ⟨F, r, x, k⟩ => ⟨F, r, x, fun v F1 H1 e1 ⟨i, r1⟩ => by
    obtain ⟨a, dx, fs, rfl, h1, h2⟩ := id r1
    refine ⟨a, dx, fs, rfl, e1.fh.at h1, h2.none (hl i), F1, r.mono e1.ff, e1.fh, fun vs F2 H2 e2 r2 => ?_⟩
    exact ⟨F2, _, d, e2.fh, .cons InsR.mo (InsR.mo _ _ _ e2.ff r1) (by rw [List.append_nil]; exact r2), hq i, fun v F3 H3 e3 r3 => k v F3 H3 ((e1.trans e2).trans e3) r3⟩⟩, DD.mo⟩
def dputs (kvs : List (Key × PyData)) : List (Key × PyData) := kvs.foldl (fun a kv => dput a kv.1 kv.2) []
theorem dputs_nd {kvs : List (Key × PyData)} (h : (kvs.map (·.1)).Nodup) : dputs kvs = kvs := by
  unfold dputs
  have key : ∀ (b a : List (Key × PyData)), ((a ++ b).map (·.1)).Nodup → b.foldl (fun a kv => dput a kv.1 kv.2) a = a ++ b := by
    intro b
    induction b with
    | nil => intro a _; simp
    | cons kv r ih =>
      intro a hn
      have hno : (a.any fun x => decide (x.1 = kv.1)) = false := by
        rw [Bool.eq_false_iff]
        intro hx
        obtain ⟨x, hx, e⟩ := List.any_eq_true.mp hx
        rw [List.map_append, List.map_cons, List.nodup_append] at hn
        exact hn.2.2 _ (List.mem_map.mpr ⟨x, hx, rfl⟩) _ List.mem_cons_self (by simpa using e)
      have e1 : dput a kv.1 kv.2 = a ++ [kv] := by unfold dput; rw [hno]; rfl
      rw [List.foldl_cons, e1, ih _ (by simpa using hn)]
      simp
  simpa using key kvs [] (by simpa using h)
theorem pairs_dict {K : PySem.W.Frag} {F : Hp} {H : Hp} (x : Fh F H) : ∀ {kvs : List (Key × PyData)} {us : List V}, DaAll K F us (kvs.map fun kv => .tuple [dKey kv.1, kv.2]) → ∃ (ps : List Addr) (ks : List (Key × V)), us = ps.map V.ref ∧ Paired (fun p kv => SqT K H p [kV kv.1, kv.2]) ps ks ∧ DKs K F ks kvs
  | [], _, .nil => ⟨[], [], rfl, .nil, .nil⟩
  | kv :: r, _, .cons h t => by
    obtain ⟨ps, ks, rfl, h1, h2⟩ := pairs_dict x (kvs := r) t
    cases h with
    | @tup a xs _ hs hd =>
      cases hd with
      | cons hk t2 => cases t2 with
        | cons hv t3 =>
          cases t3
          have ek := dKey_inv hk
          subst ek
          exact ⟨a :: ps, (kv.1, _) :: ks, rfl, .cons (fh_t x hs) h1, .cons ⟨rfl, hv⟩ h2⟩
theorem dks_merge {K : PySem.W.Frag} {F : Hp} : ∀ (kvs : List (Key × PyData)) (ks : List (Key × V)) {ks0 : List (Key × V)} {kvs0 : List (Key × PyData)}, DKs K F ks kvs → DKs K F ks0 kvs0 → DKs K F (mergeK ks0 ks) (kvs.foldl (fun a kv => dput a kv.1 kv.2) kvs0)
  | [], ks, _, _, h1, h => by cases h1; exact h
  | (k2, d2) :: r, ks, _, _, h1, h => by
    cases h1 with
    | @cons kv1 _ ks1 _ e t =>
      obtain ⟨k1, v1⟩ := kv1
      obtain ⟨e, rr⟩ := e
      have e' : k1 = k2 := e
      subst e'
      exact dks_merge r ks1 t (h.put k1 rr)
theorem g_dictP {kvs : List (Key × PyData)} (hcalm : X.calm = true) (Bd : Bn X.mg) (ha : GE X e E (DD X.K (.list (kvs.map fun kv => .tuple [dKey kv.1, kv.2])))) (hg : Gl X "dict" := by rfl) (he : starEach [e] X.env = (false, eval e X.env) :: starEach [] X.env := by rfl) (hpl : (backTo pos (starEach [] X.env)).any (·.1) = false := by rfl) :
    GE X (.Call (.Name "dict" p) [e] [] pos) E (DC X.K (dputs kvs)) :=
  ⟨pe_imp (pe_callTy (call_dictP hcalm) hg Bd.dict (by decide +kernel) (gad_cons ha gad_nil he).pa (by decide) (by decide) he hpl) fun σ H Q ⟨F, r, x, q⟩ => ⟨F, r, x, fun vs F' H' e1 r1 => by
    obtain ⟨v, rfl, hd⟩ := dpa1 r1
    obtain ⟨t, us, rfl, h1, h2⟩ := DD.list_inv hd
    obtain ⟨ps, ks, rfl, h3, h4⟩ := pairs_dict e1.fh h2
    refine ⟨t, ps, ks, rfl, SqL.of (e1.fh.at h1), h3, fun l hl => ?_⟩
    have en := Ext.new e1.fh hl (HO.dK (mergeK [] ks))
    exact q _ _ _ (e1.trans en) ⟨l, _, rfl, upd_same, (dks_merge kvs ks h4 .nil).mono en.ff⟩⟩, DC.mo⟩
end
end Z
namespace Z
open PySem PySem.Spec PyProof.Rows L2
variable [Vo]
section
variable {B : Bk} {E : Env'} {os : OS} {rest : List Stmt} {P : DE} {pos p : Pos} {e : Expr} {x : Str} {R : RP}
theorem ws_raiseCp {pos3 : Pos} {C : Addr} {m : Str} {j : Nat} {p2 : Pos} (hc : B.X.calm = true) (tk : Takes B.X B.W) (c : ExC B.X.K B.X.mg x C) (hp : P.xc (.ref C) (fun _ d => d = none) E os) (hg : Gl B.X x := by rfl) (hdb : (x == ("__debug__" : Str)) = false := by decide) :
    WS B (.Raise (some (.Call (.Name x p) [.Constant (.str m) j p2] [] pos)) none pos3 :: rest) E os P :=
  ws_raise hc tk (pmk_own PySem.F.excBase_ValueError c.ei c.mg_ c.kp (raises_own c.ex c.ty) hg hdb) fun σ F H r Q k => k _ _ F H _ (Ext.refl r.o.fm.fh) hp rfl
theorem ws_raiseFp {pos3 : Pos} {C : Addr} {f : Str} {k : Nat} {ps : List Str} (hc : B.X.calm = true) (tk : Takes B.X B.W) (c : OxC B.X.K C f) (I : IxD B.X.prog B.X.w B.X.K B.X.mg B.X.base k x C f ps) (hr : Room (k + 1) B.X.A) (he : GE B.X e E R) (hp : P.xc (.ref C) (pxF f R) E os) (hg : Gl B.X x := by rfl)
    (hdb : (x == ("__debug__" : Str)) = false := by decide) (hs : starEach [e] B.X.env = (false, eval e B.X.env) :: starEach [] B.X.env := by rfl) : WS B (.Raise (some (.Call (.Name x p) [e] [] pos)) none pos3 :: rest) E os P := by
  obtain ⟨fI, fd, hm, iC, tI, hb, F1⟩ := I.ex
  refine ws_raise hc tk (pmk_oex c.T iC tI F1 hr hb .nil (pass0 (X := B.X)) hg hm (pa_cons he.pe pa_nil hs) hdb hs (by rfl)) fun σ F H r Q k => ?_
  refine ⟨F, r.e, r.o.fm.fh, fun v F1 H1 e1 rv => ?_⟩
  show _ ∧ _
  refine ⟨(show 1 ≤ 1000 by decide), fun a ha => ⟨a, v, rfl, upd_same, fun dx hdx hne => ?_⟩⟩
  have hd1 : H1 dx = none := by rw [upd_ne hne] at hdx; exact hdx
  have eh : upd (L2.del (upd (upd (upd H1 a (exo a C none)) dx (exd dx [(f, v)])) a (exo a C (some dx))) a) dx (.xd [(f, v)]) = upd H1 dx (.xd [(f, v)]) := by
    funext b
    by_cases hb : b = dx
    · subst hb; rw [upd_same, upd_same]
    · rw [upd_ne hb, upd_ne hb]
      by_cases ha' : b = a
      · subst ha'; rw [L2.del_same, ha]
      · rw [L2.del_ne ha', upd_ne ha', upd_ne hb, upd_ne ha']
  refine ⟨rfl, dx, [(f, v)], upd_same, by rw [upd_ne hne, upd_same], hd1, ?_⟩
  rw [eh]
  have en := Ext.new e1.fh hd1 (HO.xd [(f, v)])
  exact k _ _ _ _ _ (e1.trans en) hp ⟨dx, v, rfl, upd_same, he.mo _ _ _ en.ff rv⟩
end
end Z
namespace Z
open PySem PySem.Spec PyProof.Rows L2
variable [Vo]
section
variable {X : Cx} {E : Env'} {a b e o : Expr} {pos apos cpos : Pos} {d : PyData} {R : RP} {l : List Nat} {ds : List PyData}
theorem g_orL (ha : GE X a E (DD X.K (.list ds))) (hn : ds ≠ []) (hb : GE X b E R) : GE X (.BoolOp .Or [a, b] pos) E (DD X.K (.list ds)) :=
  ⟨pe_imp (pe_orT ha.pe (pe_one hb.pe)) fun σ H Q ⟨F, r, x, q⟩ => ⟨F, r, x, fun v F1 H1 e1 r1 => by
    obtain ⟨p, us, rfl, h1, h2⟩ := DD.list_inv r1
    refine ⟨true, .inl ⟨us, SqL.of (e1.fh.at h1), ?_⟩, q _ F1 H1 e1 r1⟩
    cases us with
    | nil => cases h2; exact absurd rfl hn
    | cons _ _ => rfl⟩, DD.mo⟩
theorem g_orN (ha : GE X a E (DD X.K .none)) (hb : GE X b E R) : GE X (.BoolOp .Or [a, b] pos) E R :=
  ⟨pe_imp (pe_orT ha.pe (pe_one hb.pe)) fun σ H Q ⟨F, r, x, q⟩ => ⟨F, r, x, fun v F1 H1 e1 r1 => by
    cases r1
    exact ⟨false, rfl, F1, r.mono e1.ff, e1.fh, fun v F2 H2 e2 r2 => q v F2 H2 (e1.trans e2) r2⟩⟩, hb.mo⟩
theorem g_rstripC {n : Nat} (ho : GE X o E (DD X.K (.str (mk l)))) (he : GE X e E (DD X.K (.str (mk [n])))) (hl : l.length ≤ sizeLine) (hs : starEach [e] X.env = (false, eval e X.env) :: starEach [] X.env := by rfl)
    (hp : ∀ {to : TE} {t : TA}, PE X o to → PA X [e] t → PE X (.Call (.Attribute o "rstrip" apos) [e] [] cpos) (tBM X.K "str" (fun x xs H Q => ∃ a b, x = .str a ∧ xs = [.str b] ∧ a.length ≤ sizeLine ∧ Q (.str (Txt.rstripChars a b)) H) to t) := by intro _ _ h1 h2; exact pe_bm PySem.F.plainAttrs_str PySem.F.slot_str_rstrip PySem.F.type_str_rstrip mt_rstripChars h1 h2) :
    GE X (.Call (.Attribute o "rstrip" apos) [e] [] cpos) E (DD X.K (.str (Txt.rstripChars (mk l) (mk [n])))) :=
  ⟨pe_imp (hp ho.pe (gad_cons he gad_nil hs).pa) fun σ H Q ⟨F, r, x, q⟩ => ⟨F, r, x, fun v F1 H1 e1 r1 => by
    cases DD.str_inv r1
    refine ⟨(show "str" = "str" from rfl), F1, r.mono e1.ff, e1.fh, fun vs F2 H2 e2 r2 => ?_⟩
    obtain ⟨u, rfl, hu⟩ := dpa1 r2
    cases DD.str_inv hu
    exact ⟨_, _, rfl, rfl, hl, q _ F2 H2 (e1.trans e2) (.str _)⟩⟩, DD.mo⟩
end
end Z
namespace Z
open PySem PySem.Spec PyProof.Rows L2
variable [Vo]
theorem g_xf (i : Nat) {X : Cx} {E : Env'} {a C : Addr} {oe : Obj} {d : Option Addr} {pn : List (Addr × Obj)} {x f : Str} {R : RP} {p pos : Pos} (T : XfC X.K C) (hno : PySem.W.findIn X.K (.ref C) f = some none) (hz : Zc (.ref C) d oe) (hf : ∃ vs, oe.data = .fields vs) (mo : Mono R)
    (hN : X.N[i]? = some x := by rfl) (hE : E[i]? = some (some (RE a d (pxF f R))) := by rfl) (hv : Vis X.env.scope x := by first | exact Or.inl rfl | exact Or.inr (Or.inl rfl) | exact Or.inr (Or.inr rfl)) (hd : (x == ("__debug__" : Str)) = false := by decide) (hcd : (x == ("__classdict__" : Str)) = false := by decide) :
    GE (X.suite a ((a, oe) :: pn)) (.Attribute (.Name x p) f pos) E R :=
  ⟨pe_imp (pe_xf T hno hz hf (pe_var (X := X.suite a ((a, oe) :: pn)) hN hv hd hcd)) fun σ H Q ⟨F, r, x, q⟩ => by
    obtain ⟨_, v, hv, rfl, dd, u, rfl, hdd, hR⟩ := r.at_ i _ hE
    exact ⟨_, hv, rfl, rfl, dd, _, u, rfl, x.at hdd, by simp [List.lookup], q u F H (Ext.refl x) hR⟩, mo⟩
end Z
namespace Z
open PySem PySem.Spec PyProof.Rows L2
theorem exm_of {K : PySem.W.Frag} {C C' : Addr} (ex : PySem.W.subIn K (.ref C) (.type "BaseException") = some true) (ci : (PySem.W.clsIn K C).isSome = true) (ty : PySem.W.typeIn K (.ref C) = some (.type "type")) (ss : PySem.W.subIn K (.ref C') (.ref C) = some true) : PySem.W.exmOne K (.ref C') (.ref C) = some true := by
  unfold PySem.W.exmOne
  rw [ex]
  show PySem.W.kitCls K (.ref C') (.ref C) = _
  unfold PySem.W.kitCls
  show (if ((PySem.W.clsIn K C).isSome && PySem.W.typeIn K (.ref C) == some (.type "type")) = true then PySem.W.subIn K (.ref C') (.ref C) else none) = some true
  rw [ci, ty]
  exact ss
theorem cls_exc {K : PySem.W.Frag} {nm q : Str} {C N : Addr} {bs bm sub : List Value} {sn : List Str} {ab : Bool} {col : Option Bool} {dd : Option Addr} {k0 k1 k2 k3 k5 : Option Value} {i : String} (h : K.lookup C = some (excClassObj nm q C N bs bm true sn sub ab col dd k0 k1 k2 k3 k5 i)) : (PySem.W.clsIn K C).isSome = true := by
  unfold PySem.W.clsIn
  rw [h] <;> rfl
end Z
namespace Z
open PySem PySem.Spec PyProof.Rows L2
variable [Vo]
def Itz3 (K : PySem.W.Frag) (a b c : Addr) : It :=
  ⟨fun i H => ∃ (xs ys zs : List V) (x y z : V), SqL K H a xs ∧ SqL K H b ys ∧ SqL K H c zs ∧ xs[i]? = some x ∧ ys[i]? = some y ∧ zs[i]? = some z,
    fun i H v H' => ∃ T x y z, v = .ref T ∧ H T = none ∧ H' = upd H T (.tup [x, y, z]) ∧ (∀ xs, SqL K H a xs → xs[i]? = some x) ∧ (∀ ys, SqL K H b ys → ys[i]? = some y) ∧ ∀ zs, SqL K H c zs → zs[i]? = some z,
    fun i H => ∃ xs ys zs : List V, SqL K H a xs ∧ SqL K H b ys ∧ SqL K H c zs ∧ i ≤ xs.length ∧ i ≤ ys.length ∧ i ≤ zs.length ∧ (xs.length = i ∨ ys.length = i ∨ zs.length = i)⟩
theorem turn_zip3 {P : Program} {w : World} {K : PySem.W.Frag} {elts : List Expr} {kk : Nat} {tpos : Pos} {a b c z TI TO i1 i2 i3 : Addr} (D : ZipSep3 z TI TO i1 i2 i3 [i1, a] [i2, b] [i3, c]) (ha : a ≠ i1) (hb : b ≠ i2) (hc : c ≠ i3) :
    Turn P w K (.Tuple elts kk tpos) (Itz3 K a b c) [z, TI, TO, i1, i2, i3] z (fun i h => IsZip h z TI TO .none ∧ IsTupOf3 h TI (.ref i1) (.ref i2) (.ref i3) ∧ (∃ x y u, IsTupOf3 h TO x y u) ∧ h.IsListIter i1 a i ∧ h.IsListIter i2 b i ∧ h.IsListIter i3 c i) where
  mem := by simp
  obj := fun i h st d hd => by
    obtain ⟨hz, hTI, ⟨x, y, u, hTO⟩, ⟨o1, e1, _, d1⟩, ⟨o2, e2, _, d2⟩, ⟨o3, e3, _, d3⟩⟩ := st
    have e' : d = z ∨ d = TI ∨ d = TO ∨ d = i1 ∨ d = i2 ∨ d = i3 := by simpa using hd
    rcases e' with q | q | q | q | q | q
    · rw [q]; exact ⟨_, hz, fun v q => nomatch q⟩
    · rw [q]; exact ⟨_, hTI, fun v q => nomatch q⟩
    · rw [q]; exact ⟨_, hTO, fun v q => nomatch q⟩
    · rw [q]; exact ⟨o1, e1, fun v q => by rw [d1] at q; cases q⟩
    · rw [q]; exact ⟨o2, e2, fun v q => by rw [d2] at q; cases q⟩
    · rw [q]; exact ⟨o3, e3, fun v q => by rw [d3] at q; cases q⟩
  keep := fun i h h' st k => by
    obtain ⟨hz, hTI, ⟨x, y, u, hTO⟩, h1, h2, h3⟩ := st
    exact ⟨k z (by simp) _ hz, k TI (by simp) _ hTI, ⟨x, y, u, k TO (by simp) _ hTO⟩, h1.at fun o q => k i1 (by simp) o q, h2.at fun o q => k i2 (by simp) o q, h3.at fun o q => k i3 (by simp) o q⟩
  item := by
    intro X hP hw hK hcl i pins s σ H E I hf st hg
    subst hP hw hK
    obtain ⟨hz, hTI, ⟨x0, y0, u0, hTO⟩, h1, h2, h3⟩ := st
    obtain ⟨xs, ys, zs, x, y, u, hqx, hqy, hqz, hx, hy, hu⟩ := hg
    obtain ⟨its, rv, p, _⟩ := I.list hqx
    obtain ⟨its2, rv2, p2, _⟩ := I.list hqy
    obtain ⟨its3, rv3, p3, _⟩ := I.list hqz
    obtain ⟨v1, hv1, ru1⟩ := rv.get hx
    obtain ⟨v2, hv2, ru2⟩ := rv2.get hy
    obtain ⟨v3, hv3, ru3⟩ := rv3.get hu
    have D1 := Draws.list (prog := X.prog) (w := X.w) (A := X.A.in1) (I.ok.hd hcl) i1 a ha its.toArray
    have D2 := Draws.list (prog := X.prog) (w := X.w) (A := X.A.in1) (I.ok.hd hcl) i2 b hb its2.toArray
    have D3 := Draws.list (prog := X.prog) (w := X.w) (A := X.A.in1) (I.ok.hd hcl) i3 c hc its3.toArray
    have hzl : z < s.heap.objs.size := Heap.lt_size hz
    refine wpAny_pyNext_zipD3_item D D1 D2 D3 hz hTI hTO ⟨h1, p.isList⟩ ⟨h2, p2.isList⟩ ⟨h3, p3.isList⟩
      (by rw [List.size_toArray]; exact (List.getElem?_eq_some_iff.mp hv1).1) (by rw [List.size_toArray]; exact (List.getElem?_eq_some_iff.mp hv2).1) (by rw [List.size_toArray]; exact (List.getElem?_eq_some_iff.mp hv3).1) fun w1 w2 w3 h' tk g1 g2 g3 z' TO' s1 s2 s3 hT hsz hk => ?_
    have f1 : w1 = v1 := by have : its.toArray[i]? = some v1 := by simpa using hv1
                            rw [this] at g1; exact (Option.some.inj g1).symm
    have f2 : w2 = v2 := by have : its2.toArray[i]? = some v2 := by simpa using hv2
                            rw [this] at g2; exact (Option.some.inj g2).symm
    have f3 : w3 = v3 := by have : its3.toArray[i]? = some v3 := by simpa using hv3
                            rw [this] at g3; exact (Option.some.inj g3).symm
    subst f1 f2 f3
    refine ⟨_, rfl, wpAny_letOwnedTupleGo_zip (s := { s with heap := h', toks := tk }) z' fun h'' z'' sb => ?_⟩
    have hT2 : h''.get? s.heap.objs.size = some { cls := .type "tuple", data := .seq #[w1, w2, w3] } := (sb.2 _ (Nat.ne_of_gt hzl)).trans hT
    have new : ObjOk X.prog X.w (upd H s.heap.objs.size (.tup [x, y, u])) h'' s.heap.objs.size (.tup [x, y, u]) :=
      ⟨by show 3 ≤ sizeLine; decide, [w1, w2, w3], .cons ru1 (.cons ru2 (.cons ru3 .nil)), ⟨_, hT2, rfl, _, rfl⟩⟩
    have I1 : Inv X pins σ (upd H s.heap.objs.size (.tup [x, y, u])) { s with heap := h'', toks := tk } :=
      I.turnedNew (ch := [z, TI, TO, i1, i2, i3]) (fun c o hb q => (sb.2 c (fun q' => hb (by simp [q']))).trans (hk c o (fun q' => hb (by simp [q'])) (fun q' => hb (by simp [q'])) (fun q' => hb (by simp [q'])) (fun q' => hb (by simp [q'])) (fun q' => hb (by simp [q'])) q)) hf (Nat.le_refl _) new
    refine ⟨.ref s.heap.objs.size, _, I1, rfl, ⟨_, x, y, u, rfl, I.hok.fresh (Nat.le_refl _), rfl, fun l hl => by rw [I.list_inj hl hqx]; exact hx, fun l hl => by rw [I.list_inj hl hqy]; exact hy, fun l hl => by rw [I.list_inj hl hqz]; exact hu⟩, ⟨z'', ?_, ⟨w1, w2, w3, ?_⟩, ?_, ?_, ?_⟩, fun c hcm => ?_⟩
    · exact (sb.2 _ D.TIz).trans (hk _ _ D.TIz D.TITO D.TIi1 D.TIi2 D.TIi3 hTI)
    · exact (sb.2 _ D.TOz).trans TO'
    · exact s1.1.at fun o q => (sb.2 _ (fun e => D.zi1 e.symm)).trans q
    · exact s2.1.at fun o q => (sb.2 _ (fun e => D.zi2 e.symm)).trans q
    · exact s3.1.at fun o q => (sb.2 _ (fun e => D.zi3 e.symm)).trans q
    · have hlt : c < s.heap.objs.size := by
        have e' : c = z ∨ c = TI ∨ c = TO ∨ c = i1 ∨ c = i2 ∨ c = i3 := by simpa using hcm
        rcases e' with q | q | q | q | q | q
        · rw [q]; exact hzl
        · rw [q]; exact Heap.lt_size hTI
        · rw [q]; exact Heap.lt_size hTO
        · rw [q]; obtain ⟨_, e1, _⟩ := h1; exact Heap.lt_size e1
        · rw [q]; obtain ⟨_, e2, _⟩ := h2; exact Heap.lt_size e2
        · rw [q]; obtain ⟨_, e3, _⟩ := h3; exact Heap.lt_size e3
      rw [upd_ne (Nat.ne_of_lt hlt)]
      exact (hf c hcm).1
  done := by
    intro X hP hw hK hcl i pins s σ H E I hf st hg
    subst hP hw hK
    obtain ⟨hz, hTI, ⟨x0, y0, u0, hTO⟩, h1, h2, h3⟩ := st
    obtain ⟨xs, ys, zs, hqx, hqy, hqz, l1, l2, l3, hend⟩ := hg
    obtain ⟨its, rv, p, _⟩ := I.list hqx
    obtain ⟨its2, rv2, p2, _⟩ := I.list hqy
    obtain ⟨its3, rv3, p3, _⟩ := I.list hqz
    have q1 := rv.length
    have q2 := rv2.length
    have q3 := rv3.length
    have D1 := Draws.list (prog := X.prog) (w := X.w) (A := X.A.in1) (I.ok.hd hcl) i1 a ha its.toArray
    have D2 := Draws.list (prog := X.prog) (w := X.w) (A := X.A.in1) (I.ok.hd hcl) i2 b hb its2.toArray
    have D3 := Draws.list (prog := X.prog) (w := X.w) (A := X.A.in1) (I.ok.hd hcl) i3 c hc its3.toArray
    exact wpAny_pyNext_zipD3_end D D1 D2 D3 hz hTI hTO ⟨h1, p.isList⟩ ⟨h2, p2.isList⟩ ⟨h3, p3.isList⟩
      (by rw [List.size_toArray]; omega) (by rw [List.size_toArray]; omega) (by rw [List.size_toArray]; omega) (by rw [List.size_toArray, List.size_toArray, List.size_toArray]; omega) fun h' tk hk => ⟨rfl, I.turnedL (ch := [z, TI, TO, i1, i2, i3]) (fun c o hb q =>
      hk c o (fun q' => hb (by simp [q'])) (fun q' => hb (by simp [q'])) (fun q' => hb (by simp [q'])) (fun q' => hb (by simp [q'])) (fun q' => hb (by simp [q'])) q) hf⟩
  self := fun A i s Q E st h => wpAny_pyIter_zip st.1 h
def iZip3 (K : PySem.W.Frag) (ta : TA) : TI := fun σ H R => ta σ H fun vs H1 => ∃ a b c xs ys zs, vs = [.ref a, .ref b, .ref c] ∧ SqL K H1 a xs ∧ SqL K H1 b ys ∧ SqL K H1 c zs ∧ R (Itz3 K a b c) H1
theorem pi_zip3 {X : Cx} {e e2 e3 : Expr} {ta : TA} {p pos tpos : Pos} {elts : List Expr} {kk : Nat} (hg : Gl X "zip") (hm : X.mg "zip" = none) (ha : PA X [e, e2, e3] ta)
    (hs : starEach [e, e2, e3] X.env = (false, eval e X.env) :: starEach [e2, e3] X.env := by rfl) (hpl : (backTo pos (starEach [e2, e3] X.env)).any (·.1) = false := by rfl) :
    PI X (.Tuple elts kk tpos) (.Call (.Name "zip" p) [e, e2, e3] [] pos) (iZip3 X.K ta) := by
  refine ⟨fun pins s σ H R I h => ?_⟩
  refine Call_ (ld_blt I hg hm PyProof.Rows.boot_zip (PyProof.Rows.callWith_type1 (thn (ha.run pos pins s σ H _ I h) fun us s1 ⟨vs, H1, I1, r1, q1⟩ => ?_) hs hpl))
  obtain ⟨a, b, c, xs, ys, zs, ex, hqx, hqy, hqz, q⟩ := q1
  subst ex
  cases r1 with
  | cons r rr =>
    cases rr with
    | cons r' rr =>
      cases rr with
      | cons r'' rr =>
        cases rr
        cases r
        cases r'
        cases r''
        obtain ⟨its, rv, p1, _⟩ := I1.list hqx
        obtain ⟨its2, rv2, p2, _⟩ := I1.list hqy
        obtain ⟨its3, rv3, p3, _⟩ := I1.list hqz
        have la : a < s1.heap.objs.size := p1.lt
        have lb : b < s1.heap.objs.size := p2.lt
        have lc : c < s1.heap.objs.size := p3.lt
        refine zip_begins3 (begins_list a its.toArray) (begins_list b its2.toArray) (begins_list c its3.toArray) p1.isList p2.isList p3.isList fun h' hz hTI hTO h1 h2 h3 hsz hk => wpAny_pyIter_zip hz ?_
        have I2 : Inv X pins σ H1 { s1 with heap := h' } := I1.kept (t' := s1.toks) hk
        have S := zip_sep3 (N := s1.heap.objs.size) (fp1 := [a]) (fp2 := [b]) (fp3 := [c]) (fun x hx => by rw [List.mem_singleton.mp hx]; exact la) (fun x hx => by rw [List.mem_singleton.mp hx]; exact lb) (fun x hx => by rw [List.mem_singleton.mp hx]; exact lc)
        refine ⟨s1.heap.objs.size + 5, [s1.heap.objs.size + 5, s1.heap.objs.size + 3, s1.heap.objs.size + 4, s1.heap.objs.size, s1.heap.objs.size + 1, s1.heap.objs.size + 2], _, _, H1, rfl, I2, turn_zip3 S (Nat.ne_of_lt la) (Nat.ne_of_lt (Nat.lt_succ_of_lt lb)) (Nat.ne_of_lt (Nat.lt_succ_of_lt (Nat.lt_succ_of_lt lc))), ⟨hz, hTI, ⟨_, _, _, hTO⟩, ⟨_, h1, rfl, rfl⟩, ⟨_, h2, rfl, rfl⟩, ⟨_, h3, rfl, rfl⟩⟩, fun c hcm => ?_, q⟩
        have e' : c = s1.heap.objs.size + 5 ∨ c = s1.heap.objs.size + 3 ∨ c = s1.heap.objs.size + 4 ∨ c = s1.heap.objs.size ∨ c = s1.heap.objs.size + 1 ∨ c = s1.heap.objs.size + 2 := by simpa using hcm
        have hle : s1.heap.objs.size ≤ c := by
          rcases e' with z | z | z | z | z | z
          · rw [z]; exact Nat.le_add_right _ _
          · rw [z]; exact Nat.le_add_right _ _
          · rw [z]; exact Nat.le_add_right _ _
          · rw [z]; exact Nat.le_refl _
          · rw [z]; exact Nat.le_add_right _ _
          · rw [z]; exact Nat.le_add_right _ _
        exact I1.fpOk hle (I1.hok.fresh hle)
theorem ytrip {K : PySem.W.Frag} {H H' F2 : Hp} {v x y z : V} {T : Addr} {d d2 d3 : PyData} (f2 : Fh F2 H) (h1 : v = .ref T) (h2 : H T = none) (h3 : H' = upd H T (.tup [x, y, z])) (hx : Da K F2 x d) (hy : Da K F2 y d2) (hz : Da K F2 z d3) : ∃ F3, Ext F2 H F3 H' ∧ DD K (.tuple [d, d2, d3]) F3 v := by
  subst h1 h3
  have en := Ext.new f2 h2 (HO.tup [x, y, z])
  exact ⟨_, en, .tup (SqT.of upd_same) (.cons (da_mono en.ff _ _ hx) (.cons (da_mono en.ff _ _ hy) (.cons (da_mono en.ff _ _ hz) .nil)))⟩
def zip3D (ds ds2 ds3 : List PyData) : List PyData := List.zipWith (fun d p => .tuple [d, p.1, p.2]) ds (ds2.zip ds3)
section
variable {X : Cx} {tg iter e a b c : Expr} {E : Env'} {ds ds2 ds3 : List PyData} {p pos : Pos}
theorem l_zip3 {e2 e3 : Expr} {es : List Expr} {kk : Nat} {tpos : Pos} (B : Bn X.mg) (h : GE X e E (DD X.K (.list ds))) (h' : GE X e2 E (DD X.K (.list ds2))) (h'' : GE X e3 E (DD X.K (.list ds3))) (l2 : ds2.length = ds.length) (l3 : ds3.length = ds.length) (hg : Gl X "zip" := by rfl)
    (hs : starEach [e, e2, e3] X.env = (false, eval e X.env) :: starEach [e2, e3] X.env := by rfl) (hs2 : starEach [e2, e3] X.env = (false, eval e2 X.env) :: starEach [e3] X.env := by rfl) (hs3 : starEach [e3] X.env = (false, eval e3 X.env) :: starEach [] X.env := by rfl) (hpl : (backTo pos (starEach [e2, e3] X.env)).any (·.1) = false := by rfl) :
    GIL X (.Tuple es kk tpos) (.Call (.Name "zip" p) [e, e2, e3] [] pos) E (zip3D ds ds2 ds3) := by
  refine ⟨⟨pi_imp (pi_zip3 hg B.zip (gad_cons h (gad_cons h' (gad_cons h'' gad_nil hs3) hs2) hs).pa hs hpl) fun σ H R ⟨F, r, x, q⟩ => ⟨F, r, x, fun vs F' H' e1 r1 => ?_⟩, fun _ => YD.mo⟩⟩
  cases r1 with
  | cons hd t => cases t with
    | cons hd2 t => cases t with
      | cons hd3 t =>
        cases t
        obtain ⟨p, us, rfl, h1, h2⟩ := DD.list_inv hd
        obtain ⟨p2, us2, rfl, h3, h4⟩ := DD.list_inv hd2
        obtain ⟨p3, us3, rfl, h5, h6⟩ := DD.list_inv hd3
        refine ⟨p, p2, p3, us, us2, us3, rfl, SqL.of (e1.fh.at h1), SqL.of (e1.fh.at h3), SqL.of (e1.fh.at h5), q _ F' H' e1 ?_⟩
        have n1 := h2.len
        have n2 := h4.len
        have n3 := h6.len
        have nl : (zip3D ds ds2 ds3).length = ds.length := by unfold zip3D; rw [List.length_zipWith, List.length_zip]; omega
        rw [nl]
        refine ⟨fun i H hi hx => ?_, fun H hx => ?_, fun i H v H' hi hx y => ?_⟩
        · have i1 : i < us.length := by omega
          have i2 : i < us2.length := by omega
          have i3 : i < us3.length := by omega
          exact ⟨us, us2, us3, us[i], us2[i], us3[i], SqL.of (hx _ _ notg_lst h1), SqL.of (hx _ _ notg_lst h3), SqL.of (hx _ _ notg_lst h5), by simp [i1], by simp [i2], by simp [i3]⟩
        · exact ⟨us, us2, us3, SqL.of (hx _ _ notg_lst h1), SqL.of (hx _ _ notg_lst h3), SqL.of (hx _ _ notg_lst h5), by omega, by omega, by omega, by omega⟩
        · obtain ⟨T, x1, y1, z1, g1, g2, g3, g4, g5, g6⟩ := y
          intro F2 f1 f2
          obtain ⟨d, hd, hq⟩ := h2.get' (g4 us (SqL.of (hx _ _ notg_lst h1)))
          obtain ⟨d', hd', hq'⟩ := h4.get' (g5 us2 (SqL.of (hx _ _ notg_lst h3)))
          obtain ⟨d'', hd'', hq''⟩ := h6.get' (g6 us3 (SqL.of (hx _ _ notg_lst h5)))
          obtain ⟨F3, en, hF⟩ := ytrip f2 g1 g2 g3 (da_mono f1 _ _ hq) (da_mono f1 _ _ hq') (da_mono f1 _ _ hq'')
          refine ⟨F3, en, _, ?_, hF⟩
          unfold zip3D
          have e0 : (ds2.zip ds3)[i]? = some (d', d'') := List.getElem?_zip_eq_some.mpr ⟨hd', hd''⟩
          rw [List.getElem?_zipWith, e0, hd]
end
end Z
namespace Z
open PySem PySem.Spec PyProof.Rows L2
variable [Vo]
def rGetL : V → V → Hp → VK → Prop := fun o i H Q => ∃ p xs k v, o = .ref p ∧ i = .int k ∧ H p = some (.lst xs) ∧ 0 ≤ k ∧ xs[k.toNat]? = some v ∧ Q v H
theorem get_list {X : Cx} : PGet X rGetL := by
  intro pins s σ H o i ov iv Q I ro ri h
  obtain ⟨p, xs, k, v, rfl, rfl, hp, h0, hv, q⟩ := h
  cases ro
  obtain ⟨t, rfl⟩ := ri
  obtain ⟨its, rv, pl, hz⟩ := I.list (SqL.of hp)
  obtain ⟨w, ew, rw'⟩ := rv.get hv
  have hl := rv.length
  have hlt := (List.getElem?_eq_some_iff.mp hv).1
  have hn := line63
  exact wpAny_getItem_list pl.isList h0 (by omega) (by simpa using ew) ⟨v, H, I, rw', q⟩
section
variable {B : Bk} {E V : Env'} {os os' : OS} {P : DE} {rest body : List Stmt} {e tg recv : Expr} {pos pos' : Pos} {l : Addr} {ds : List PyData} {d : PyData} {fs : List Addr}
theorem ws_augIx (j : Nat) {op : Operator} {g : Int → Int → Int} {n : Nat} {x y : Int} {ix : Expr} (hop : PIp B.X op (ipI g)) (hr : GE B.X recv E (RR l)) (ho : os[j]? = some (l, Ls B.X.K ds)) (hv : Vw os fs E V) (hi : GE B.X ix V (DD B.X.K (.int (n : Nat)))) (hn : ds[n]? = some (.int x)) (he : GE B.X e E (DD B.X.K (.int y))) (k : WS B rest E (os.set j (l, Ls B.X.K (ds.set n (.int (g x y))))) P)
    (ha : ∀ ov iv new, augStore ix ov iv new = (do holding [new, ov, iv] (setItem ov iv new); release [new, ov, iv] []; pure .next) := by intros; rfl) : WS B (.AugAssign (.Subscript recv ix pos') op e pos :: rest) E os P :=
  ws_of (ps_augS hr.pe hi.pe get_list he.pe hop set_list ha) fun L D σ F H m r l1 => ⟨F, r.e, r.o.fm.fh, fun u F1 H1 e1 hu => by
    have eu : u = .ref l := hu
    subst eu
    have r1 := r.ext e1
    refine ⟨_, hv.rep r1, hv.fh r1, fun w F2 H2 e2 hw => ?_⟩
    cases DD.int_inv hw
    obtain ⟨Fb, u2⟩ : ∃ Fb, Ext F1 H1 Fb H2 := ⟨_, ext_unfrz (hv.fsok r1) r1.o.fm.fh e2⟩
    have r2 := r1.ext u2
    obtain ⟨f2, _, o2, h2, vs, rfl, d2⟩ := r2.o.ow _ (List.mem_of_getElem? ho)
    obtain ⟨v0, hv0, hd0⟩ := d2.get hn
    cases hd0
    refine ⟨l, vs, (n : Nat), _, rfl, rfl, h2, by omega, by simpa using hv0, ?_⟩
    refine ⟨_, r2.e, r2.o.fm.fh, fun z F3 H3 e3 hz => ?_⟩
    cases DD.int_inv hz
    refine ⟨x, y, rfl, rfl, ?_⟩
    have r3 := r2.ext e3
    obtain ⟨f3, _, o3, h3, vs3, rfl, d3⟩ := r3.o.ow _ (List.mem_of_getElem? ho)
    have hlt := (List.getElem?_eq_some_iff.mp hn).1
    have hnn : ixN vs3.length ((n : Nat) : Int) = some n := by
      rw [d3.len]
      unfold ixN
      simp [hlt]
    exact ⟨l, vs3, (n : Nat), n, rfl, rfl, h3, hnn, k.run L D _ F3 _ m ⟨r3.o.write ho ⟨_, rfl, d3.set n (.int _)⟩, r3.e⟩ (Ex.tr (Ex.tr (Ex.tr l1 e1.ff) u2.ff) e3.ff)⟩⟩
end
section
variable {X : Cx} {E : Env'} {e : Expr} {p pos : Pos}
theorem g_minL {ns : List Int} {m : Int} (hcalm : X.calm = true) (B : Bn X.mg) (ha : GE X e E (DD X.K (.list (ns.map .int)))) (hm : m ∈ ns) (hm2 : ∀ y, y ∈ ns → m ≤ y) (hg : Gl X "min" := by rfl) (he : starEach [e] X.env = (false, eval e X.env) :: starEach [] X.env := by rfl) (hpl : (backTo pos (starEach [] X.env)).any (·.1) = false := by rfl) : GE X (.Call (.Name "min" p) [e] [] pos) E (DD X.K (.int m)) :=
  g_cb (cr_min hcalm) hg B.min (by decide +kernel) (gad_cons ha gad_nil he) (fun F H vs Q h x q => by
    obtain ⟨v, rfl, hd⟩ := dpa1 h
    obtain ⟨r, us, rfl, h1, h2⟩ := DD.list_inv hd
    cases dpa_ints h2
    refine ⟨r, ns, rfl, SqL.of (x.at h1), List.length_pos_of_mem hm, fun m' h3 h4 => ?_⟩
    have e' : m' = m := Int.le_antisymm (h4 _ hm) (hm2 _ h3)
    subst e'
    exact q _ F H (Ext.refl x) (.int _)) (he := he) (hpl := hpl)
theorem c_neB {b : Expr} {i j : Bool} (hu : X.A.units + 64 < cLine) : CmpR X .NotEq b (DD X.K (.bool i)) (DD X.K (.bool j)) (i != j) := by
  have h := c_neD (X := X) (b := b) (d := .bool i) (d2 := .bool j) hu rfl rfl
  have e : (!PyData.eqv (.bool i) (.bool j)) = (i != j) := by cases i <;> cases j <;> rfl
  rw [e] at h
  exact h
end
end Z
namespace Z
open PySem PySem.Spec PyProof.Rows L2
variable [Vo]
def Wk (E E' : Env') : Prop := (∀ (i : Nat) (R : RP), E'[i]? = some (some R) → E[i]? = some (some R)) ∧ E.length = E'.length
theorem Wk.nil : Wk [] [] := ⟨fun _ _ h => h, rfl⟩
theorem Wk.same {a : Option RP} {E E' : Env'} (h : Wk E E') : Wk (a :: E) (a :: E') := ⟨fun i R q => by
  cases i with
  | zero => exact q
  | succ i => exact h.1 i R q, by rw [List.length_cons, List.length_cons, h.2]⟩
theorem Wk.drop {a : Option RP} {E E' : Env'} (h : Wk E E') : Wk (a :: E) (none :: E') := ⟨fun i R q => by
  cases i with
  | zero => cases q
  | succ i => exact h.1 i R q, by rw [List.length_cons, List.length_cons, h.2]⟩
theorem Wk.refl {E : Env'} : Wk E E := ⟨fun _ _ h => h, rfl⟩
theorem Wk.trans {E E1 E2 : Env'} (a : Wk E E1) (b : Wk E1 E2) : Wk E E2 := ⟨fun i R q => a.1 i R (b.1 i R q), a.2.trans b.2⟩
theorem Wk.set {E E' : Env'} (h : Wk E E') (j : Nat) (x : Option RP) : Wk (E.set j x) (E'.set j x) := ⟨fun i R q => by
  by_cases e : j = i
  · subst e
    rw [List.getElem?_set, if_pos rfl] at q ⊢
    rw [h.2]; exact q
  · rw [List.getElem?_set_ne e] at q ⊢
    exact h.1 i R q, by rw [List.length_set, List.length_set, h.2]⟩
theorem Wk.ws {B : Bk} {E E' : Env'} {os : OS} {sts : List Stmt} {P : DE} (h : Wk E E') (k : WS B sts E' os P) : WS B sts E os P := ws_weak k h.1 h.2
theorem wkd {E E' : Env'} (h : Wk E E' := by repeat' first | exact Wk.nil | refine Wk.same ?_ | refine Wk.drop ?_) : Wk E E' := h
end Z
namespace Z
open PySem PySem.Spec PyProof.Rows L2
variable [Vo]
def lexI : List Int → List Int → Bool
  | [], [] => false
  | [], _ :: _ => true
  | _ :: _, [] => false
  | x :: r, y :: t => decide (x < y) || (!decide (y < x) && lexI r t)
theorem lexI_lt : ∀ a b : List Int, lexLt itemOrd (a.map Sum.inl) (b.map Sum.inl) = lexI a b
  | [], [] => rfl
  | [], _ :: _ => rfl
  | _ :: _, [] => rfl
  | x :: r, y :: t => by
    rw [List.map_cons, List.map_cons, lex_cons, lexI_lt r t]
    rfl
theorem lexI_asym {a b : List Int} (h : lexI a b = true) : lexI b a = false := by
  rw [← lexI_lt] at h ⊢
  cases q : lexLt itemOrd (b.map Sum.inl) (a.map Sum.inl) with
  | false => rfl
  | true =>
    have := lex_trans (O := itemOrd) _ _ _ h q
    rw [lex_irrefl] at this; cases this
theorem lexI_tr {a b c : List Int} (h : lexI a b = true) (q : lexI b c = true) : lexI a c = true := by
  rw [← lexI_lt] at h q ⊢
  exact lex_trans (O := itemOrd) _ _ _ h q
theorem lexI_irr (a : List Int) : lexI a a = false := by rw [← lexI_lt]; exact lex_irrefl _
theorem inl_inj : ∀ {a b : List Int}, a.map (Sum.inl (β := List Nat)) = b.map Sum.inl → a = b
  | [], [], _ => rfl
  | [], _ :: _, h => by cases h
  | _ :: _, [], h => by cases h
  | x :: r, y :: t, h => by
    rw [List.map_cons, List.map_cons] at h
    injection h with h1 h2
    rw [Sum.inl.inj h1, inl_inj h2]
theorem lexI_tot {a b : List Int} (h : lexI a b = false) (q : lexI b a = false) : a = b := by
  rw [← lexI_lt] at h q
  exact inl_inj (lex_total (O := itemOrd) _ _ h q)
theorem lexI_neg {a b c : List Int} (h : lexI b a = false) (q : lexI c b = false) : lexI c a = false := by
  rw [← lexI_lt] at h q ⊢
  cases z : lexLt itemOrd (c.map Sum.inl) (a.map Sum.inl) with
  | false => rfl
  | true =>
    rcases lex_negTrans (O := itemOrd) _ (b.map Sum.inl) _ z with w | w
    · rw [q] at w; cases w
    · rw [h] at w; cases w
theorem rise_uniq : ∀ {l m : List (List Int)}, l.Pairwise (fun a b => lexI a b = true) → m.Pairwise (fun a b => lexI a b = true) → (∀ x, x ∈ l ↔ x ∈ m) → l = m
  | [], [], _, _, _ => rfl
  | [], y :: t, _, _, h => by have := (h y).mpr List.mem_cons_self; cases this
  | x :: r, [], _, _, h => by have := (h x).mp List.mem_cons_self; cases this
  | x :: r, y :: t, hl, hm, h => by
    obtain ⟨l1, l2⟩ := List.pairwise_cons.mp hl
    obtain ⟨m1, m2⟩ := List.pairwise_cons.mp hm
    have e : x = y := by
      rcases List.mem_cons.mp ((h x).mp List.mem_cons_self) with q | q
      · exact q
      · rcases List.mem_cons.mp ((h y).mpr List.mem_cons_self) with z | z
        · exact z.symm
        · have a := m1 x q
          have b := l1 y z
          rw [lexI_asym a] at b; cases b
    subst e
    have hn : ∀ z, z ∈ r ↔ z ∈ t := fun z => by
      constructor
      · intro hz
        rcases List.mem_cons.mp ((h z).mp (List.mem_cons_of_mem _ hz)) with q | q
        · subst q; have := l1 _ hz; rw [lexI_irr] at this; cases this
        · exact q
      · intro hz
        rcases List.mem_cons.mp ((h z).mpr (List.mem_cons_of_mem _ hz)) with q | q
        · subst q; have := m1 _ hz; rw [lexI_irr] at this; cases this
        · exact q
    rw [rise_uniq l2 m2 hn]
def insI (x : List Int) : List (List Int) → List (List Int)
  | [] => [x]
  | y :: r => if lexI x y then x :: y :: r else y :: insI x r
def sortI : List (List Int) → List (List Int)
  | [] => []
  | x :: r => insI x (sortI r)
theorem insI_mem {x z : List Int} : ∀ {l : List (List Int)}, z ∈ insI x l ↔ z = x ∨ z ∈ l
  | [] => by simp [insI]
  | y :: r => by
    unfold insI
    split
    · simp
    · rw [List.mem_cons, insI_mem, List.mem_cons]
      constructor
      · rintro (h | h | h)
        · exact .inr (.inl h)
        · exact .inl h
        · exact .inr (.inr h)
      · rintro (h | h | h)
        · exact .inr (.inl h)
        · exact .inl h
        · exact .inr (.inr h)
theorem insI_rise {x : List Int} : ∀ {l : List (List Int)}, x ∉ l → l.Pairwise (fun a b => lexI a b = true) → (insI x l).Pairwise (fun a b => lexI a b = true)
  | [], _, _ => by unfold insI; exact List.pairwise_singleton _ _
  | y :: r, hn, h => by
    obtain ⟨h1, h2⟩ := List.pairwise_cons.mp h
    unfold insI
    split
    · rename_i q
      refine List.pairwise_cons.mpr ⟨fun z hz => ?_, h⟩
      rcases List.mem_cons.mp hz with e | e
      · rw [e]; exact q
      · exact lexI_tr q (h1 z e)
    · rename_i q
      refine List.pairwise_cons.mpr ⟨fun z hz => ?_, insI_rise (fun z => hn (List.mem_cons_of_mem _ z)) h2⟩
      rcases insI_mem.mp hz with e | e
      · rw [e]
        cases w : lexI y x with
        | true => rfl
        | false =>
          exfalso
          exact hn (by rw [lexI_tot (by simpa using q) w]; exact List.mem_cons_self)
      · exact h1 z e
theorem sortI_mem {z : List Int} : ∀ {l : List (List Int)}, z ∈ sortI l ↔ z ∈ l
  | [] => by simp [sortI]
  | x :: r => by unfold sortI; rw [insI_mem, sortI_mem, List.mem_cons]
theorem sortI_rise : ∀ {l : List (List Int)}, l.Nodup → (sortI l).Pairwise (fun a b => lexI a b = true)
  | [], _ => List.Pairwise.nil
  | x :: r, h => by
    obtain ⟨h1, h2⟩ := List.nodup_cons.mp h
    unfold sortI
    exact insI_rise (fun z => h1 (sortI_mem.mp z)) (sortI_rise h2)
def IsTupI (h : Heap) (v : Value) (k : List Int) : Prop := ∃ a o its n, v = .ref a ∧ h.get? a = some o ∧ o.cls = .type "tuple" ∧ o.data = .seq its n ∧ IntsAre its.toList k
theorem items_ints : ∀ {us : List Value} {ks : List Int} {i : Nat}, IntsAre us ks → tupItems (fun _ => false) i us = some (ks.map Sum.inl)
  | [], _, _, h => by cases h; rfl
  | u :: us, _, i, h => by
    cases h with
    | cons k t r =>
      show (if (false : Bool) = true then none else (tupItems (fun _ => false) (i + 1) us).map (Sum.inl k :: ·)) = _
      rw [if_neg (by decide), items_ints r]
      rfl
theorem IsTupI.key {h : Heap} {v : Value} {k : List Int} (q : IsTupI h v k) : (tupKind h fun _ => false).keyOf v = some (k.map Sum.inl) := by
  obtain ⟨a, o, its, n, rfl, ho, hc, hd, hi⟩ := q
  show tupKey h (fun _ => false) (.ref a) = some (k.map Sum.inl)
  unfold tupKey
  simp only [ho, hd]
  exact items_ints hi
theorem IsTupI.keep {h h' : Heap} {v : Value} {k : List Int} (q : IsTupI h v k) (e : ∀ a o, h.get? a = some o → o.cls = .type "tuple" → h'.get? a = some o) : IsTupI h' v k := by
  obtain ⟨a, o, its, n, rfl, ho, hc, hd, hi⟩ := q
  exact ⟨a, o, its, n, rfl, e a o ho hc, hc, hd, hi⟩
theorem swo_lexI (k : Value → List Int) : SrtO.Swo fun v u => lexI (k v) (k u) :=
  ⟨fun x y h => lexI_asym h, fun x y z h1 h2 => lexI_neg h1 h2⟩
section
variable {prog : Program} {w : World} {A : Around} {E : Value → Shared → Prop} {s : Shared}
theorem tupI_cmp {vs : List Value} {k : Value → List Int} (hp : ∀ v ∈ vs, IsTupI s.heap v (k v)) : SrtO.Cmp prog w A s (tuples' true) (fun p => p.1 ∈ vs) (SrtO.lt2 fun v u => lexI (k v) (k u)) := by
  intro p q hm hm'
  refine tup_ltAt (shape := fun _ => false) true A _ p.1 q.1 _ _ (hp _ hm).key (hp _ hm').key ?_
  exact ⟨rfl, lexI_lt _ _⟩
theorem tupI_firsts : ∀ {vs : List Value} {k : Value → List Int}, (∀ v ∈ vs, IsTupI s.heap v (k v) ∧ k v ≠ []) → ∃ fs, fs.length = vs.length ∧ TupsOf s.heap (fun _ => false) vs fs
  | [], _, _ => ⟨[], rfl, .nil⟩
  | v :: vs, k, h => by
    obtain ⟨fs, h1, h2⟩ := tupI_firsts (vs := vs) (k := k) fun u hu => h u (List.mem_cons_of_mem _ hu)
    obtain ⟨⟨a, o, its, n, e, ho, hc, hd, hi⟩, hne⟩ := h v List.mem_cons_self
    cases hk : k v with
    | nil => exact absurd hk hne
    | cons x r =>
      rw [hk] at hi
      cases hi' : its.toList with
      | nil => rw [hi'] at hi; cases hi
      | cons u us =>
        rw [hi'] at hi
        cases hi with
        | cons x t r =>
          refine ⟨.int x t :: fs, by rw [List.length_cons, List.length_cons, h1], .cons ⟨a, o, its, n, e, ho, hc, hd, ?_, fun _ => ⟨x, t, rfl⟩, fun z => by cases z⟩ h2⟩
          rw [← Array.getElem?_toList, hi']
          rfl
theorem tupI_sortable {a : Addr} {vs : List Value} {k : Value → List Int} (h0 : 0 < vs.length) (hp : ∀ v ∈ vs, IsTupI s.heap v (k v) ∧ k v ≠ []) (ha : ∀ o, s.heap.get? a = some o → o.cls ≠ .type "tuple") : SrtO.SortableO prog w A s a vs fun v u => lexI (k v) (k u) := by
  intro h' keep
  have hp' : ∀ v ∈ vs, IsTupI h' v (k v) ∧ k v ≠ [] := fun v hm => ⟨(hp v hm).1.keep fun b o e c => keep b o (fun z => by subst z; exact ha o e c) e, (hp v hm).2⟩
  obtain ⟨fs, h1, h2⟩ := tupI_firsts (s := { s with heap := h' }) hp'
  exact ⟨tuples' true, fun Q E hq => tup_kind (by omega) h2 hq, tupI_cmp fun v hm => (hp' v hm).1⟩
end
end Z
namespace Z
open PySem PySem.Spec PyProof.Rows L2
variable [Vo]
abbrev encT (k : List Int) : PyData := .tuple (k.map .int)
theorem nkI : ∀ {a b : List Int}, nkAll (a.map PyData.int) = nkAll (b.map PyData.int) → a = b
  | [], [], _ => rfl
  | [], _ :: _, h => by simp [nkAll] at h
  | _ :: _, [], h => by simp [nkAll] at h
  | x :: r, y :: t, h => by
    have h' : NestedKey.num x :: nkAll (r.map PyData.int) = NestedKey.num y :: nkAll (t.map PyData.int) := h
    injection h' with h1 h2
    injection h1 with h1
    rw [h1, nkI h2]
theorem nkOk_ints : ∀ k : List Int, nkOkAll (k.map PyData.int) = true
  | [] => rfl
  | x :: r => by
    show (nkOk (.int x) && nkOkAll (r.map .int)) = true
    rw [nkOk_ints r]; rfl
theorem nkdep : ∀ k : List Int, (nkOf (encT k)).depth ≤ 8 := fun k => by
  have key : ∀ k : List Int, NestedKey.depthAll (nkAll (k.map PyData.int)) ≤ 1 := fun k => by
    induction k with
    | nil => decide
    | cons x r ih =>
      show NestedKey.depthAll (NestedKey.num x :: nkAll (r.map PyData.int)) ≤ 1
      unfold NestedKey.depthAll
      have : (NestedKey.num x).depth ≤ 1 := by unfold NestedKey.depth; decide
      omega
  show (NestedKey.tup (nkAll (k.map PyData.int))).depth ≤ 8
  unfold NestedKey.depth
  have := key k
  omega
theorem nkeyT : NKey encT := ⟨fun k => nkOk_ints k, nkdep, fun a b h => by
  have h' : NestedKey.tup (nkAll (a.map PyData.int)) = NestedKey.tup (nkAll (b.map PyData.int)) := h
  injection h' with h1
  exact nkI h1, fun k => ⟨_, rfl⟩⟩
theorem vint_inj : ∀ {a b : List Int}, a.map V.int = b.map V.int → a = b
  | [], [], _ => rfl
  | [], _ :: _, h => by cases h
  | _ :: _, [], h => by cases h
  | x :: r, y :: t, h => by
    rw [List.map_cons, List.map_cons] at h
    injection h with h1 h2
    injection h1 with h1
    rw [h1, vint_inj h2]
theorem nd_keysV {P : Program} {w : World} {es : Array DictEntry} {ks : NX} {acc : List Value} (he : es.toList = ks.map (entryOfKey (nestedKind P w))) (hl : acc.length = es.size) (it : ∀ (j : Nat) (v : Value), acc[j]? = some v → ∃ en : DictEntry, es[j]? = some en ∧ v = en.key) : acc = ks.map fun x => Value.ref x.2.1 := by
  have l1 : es.size = ks.length := size_of_entries he
  apply List.ext_getElem?
  intro j
  rw [List.getElem?_map]
  cases hj : acc[j]? with
  | none =>
    have h1 := List.getElem?_eq_none_iff.mp hj
    rw [List.getElem?_eq_none (by omega)]
    all_goals rfl
  | some v =>
    obtain ⟨en, hen, hv⟩ := it j v hj
    have qe := entry_at he j
    rw [hen] at qe
    cases hb : ks[j]? with
    | none =>
      rw [hb] at qe
      exact nomatch (show some en = none from qe)
    | some b =>
      rw [hb] at qe
      have e2 : en = entryOfKey (nestedKind P w) b := Option.some.inj qe
      rw [hv, e2]
      all_goals rfl
theorem call_sortedN {X : Cx} (hc : X.calm = true) : CallR X (.builtin "sorted") (fun vs H Q => ∃ (l : Addr) (xs : NX) (L : List (Addr × List Int)), vs = [V.ref l] ∧ H l = some (NDx X.prog X.w l xs) ∧ xs.length ≤ sizeLine ∧ L.map (·.1) = xs.map (fun x => x.2.1) ∧ (∀ p, p ∈ L → SqT X.K H p.1 (p.2.map V.int) ∧ p.2 ≠ []) ∧
    ∀ (L' : List (Addr × List Int)) (p : Addr), L'.Perm L → L'.Pairwise (fun p q => lexI q.2 p.2 = false) → H p = none → Q (.ref p) (upd H p (.lst (L'.map fun p => V.ref p.1)))) := by
  intro pins s σ H vs us Q I r h
  obtain ⟨l, ks, L, rfl, hl, hz0, hL, hT, q⟩ := h
  obtain ⟨u, rfl, rx⟩ := r.one
  cases rx
  obtain ⟨⟨q1, o, es, ep, ho, hx, hdt, he, hn⟩, _, _⟩ := I.hok l _ hl
  have l1 : es.size = ks.length := size_of_entries he
  have hLl : L.length = ks.length := by have := congrArg List.length hL; simpa using this
  refine Calls.call_function_entry PyProof.Rows.kind_sorted PyProof.Rows.plain_sorted PyProof.Rows.entry_sorted (PyProof.Rows.args_sorted1 _) ?_
  unfold Builtin.«sorted»
  refine wpAny_bind (m := checkCount "sorted" 1 1 _) (wpAny_pure ?_)
  refine wpAny_bind (PySem.W.kdu_collect (A := X.A.in1) (kdl_raw q1 hx hdt) (I.ok.hd hc) ho (by omega) fun h' tk acc hk hacc => ?_)
  have hal : acc.toList.length = es.size := by rw [Array.length_toList, hacc.1]
  have hks : acc.toList = ks.map fun x => Value.ref x.2.1 := nd_keysV he hal fun j v e => hacc.2 j v (by rw [← Array.getElem?_toList]; exact e)
  have hvs : acc.toList = L.map fun p => Value.ref p.1 := by
    rw [hks]
    have : (ks.map fun x => x.2.1).map Value.ref = (L.map (·.1)).map Value.ref := by rw [hL]
    rw [List.map_map, List.map_map] at this
    exact this
  have I1 : Inv X pins σ H { s with heap := h', toks := tk } := I.kept hk
  obtain ⟨kf, hkf⟩ : ∃ kf : Value → List Int, ∀ p, p ∈ L → kf (.ref p.1) = p.2 := by
    refine ⟨fun v => match v with | .ref a => ((L.find? fun p => decide (p.1 = a)).map (·.2)).getD [] | _ => [], fun p hp => ?_⟩
    show ((L.find? fun q => decide (q.1 = p.1)).map (·.2)).getD [] = p.2
    cases e : L.find? fun q => decide (q.1 = p.1) with
    | none =>
      have := List.find?_eq_none.mp e p hp
      simp at this
    | some q =>
      have h1 := List.mem_of_find?_eq_some e
      have h2 : q.1 = p.1 := by simpa using List.find?_some e
      have s1 := (hT q h1).1
      rw [h2] at s1
      exact vint_inj (I.tuple_inj s1 (hT p hp).1)
  have tup : ∀ (h2 : Heap), (∀ b o, h'.get? b = some o → o.cls = .type "tuple" → h2.get? b = some o) → ∀ v, v ∈ acc.toList → IsTupI h2 v (kf v) ∧ kf v ≠ [] := fun h2 k2 v hv => by
    rw [hvs] at hv
    obtain ⟨p, hp, rfl⟩ := List.mem_map.mp hv
    rw [hkf p hp]
    obtain ⟨t1, t2⟩ := hT p hp
    obtain ⟨its, rv, ⟨o, ho, hc, n, hd⟩, _⟩ := I1.tuple t1
    exact ⟨⟨p.1, o, its.toArray, n, rfl, k2 _ _ ho hc, hc, hd, by simpa using rv.ints⟩, t2⟩
  have hz : acc.toList.length ≤ sizeLine := by omega
  refine wpAny_bind (wpAny_newList ?_ hz)
  have hoL : (h'.push (seqObj "list" acc.toList.toArray 0)).get? h'.objs.size = some (seqObj "list" acc.toList.toArray 0) := Heap.get?_push_size _ rfl
  show wpAny _ _ _ _ _ { s with heap := h'.push (seqObj "list" acc.toList.toArray 0), toks := tk }
  refine wpAny_bind (wpAny_holding (wpAny_call_entry PyProof.Rows.slot_list_sort ⟨_, hoL, rfl⟩ PyProof.Rows.entry_list_sort
    (SrtO.list_sort_ord (s := { s with heap := h'.push (seqObj "list" acc.toList.toArray 0), toks := tk }) (swo_lexI kf) hoL hz (fun h2 => tupI_sortable (by omega) (tup _ fun b o e c => Heap.get?_push_of_some _ e) fun o e => ?_) fun out hs hb => ⟨_, rfl, ?_⟩)
    (PyProof.Rows.args_list_sort _)))
  · have e' : some o = some (seqObj "list" acc.toList.toArray 0) := e.symm.trans hoL
    cases e'
    intro c
    exact absurd (Value.type.inj c) (by decide)
  · obtain ⟨g, hg⟩ : ∃ g : Value → Addr × List Int, ∀ p, p ∈ L → g (.ref p.1) = p := ⟨fun v => (match v with | .ref a => a | _ => 0, kf v), fun p hp => by
      show (p.1, kf (.ref p.1)) = p
      rw [hkf p hp]⟩
    have hLg : acc.toList.map g = L := by
      rw [hvs, List.map_map]
      exact (List.map_congr_left fun p hp => hg p hp).trans (List.map_id L)
    have hp : (out.map g).Perm L := by rw [← hLg]; exact hb.perm.map g
    have hout : out = (out.map g).map fun p => Value.ref p.1 := by
      rw [List.map_map]
      refine (List.map_id out).symm.trans (List.map_congr_left fun v hv => ?_)
      have hv2 : v ∈ acc.toList := hb.perm.mem_iff.mp hv
      rw [hvs] at hv2
      obtain ⟨p, hp, rfl⟩ := List.mem_map.mp hv2
      show Value.ref p.1 = Value.ref (g (.ref p.1)).1
      rw [hg p hp]
    have hk2 : ∀ v, v ∈ out → (g v).2 = kf v := fun v hv => by
      have hv2 : v ∈ acc.toList := hb.perm.mem_iff.mp hv
      rw [hvs] at hv2
      obtain ⟨p, hp, rfl⟩ := List.mem_map.mp hv2
      rw [hg p hp, hkf p hp]
    have hw : (out.map g).Pairwise (fun p q => lexI q.2 p.2 = false) := by
      rw [List.pairwise_map]
      refine List.Pairwise.imp_of_mem (fun {a b} ha hb' h => ?_) hs
      rw [hk2 a ha, hk2 b hb']
      exact h
    obtain ⟨ep2, he2⟩ := PyProof.Rows.sortedHeap_at (h := h'.push (seqObj "list" acc.toList.toArray 0)) (a := h'.objs.size) (vs := acc.toList) (out := out.toArray) hoL
    refine wpAny_pure ⟨_, rfl, .ref h'.objs.size, upd H h'.objs.size (.lst ((out.map g).map fun p => V.ref p.1)), I1.laid (t' := tk) (fun b u e => ?_) (Nat.le_refl _)
      (show ObjOk X.prog X.w _ _ _ (.lst ((out.map g).map fun p => V.ref p.1)) from ⟨by rw [List.length_map, hp.length_eq]; omega, out, ep2, ?_, he2⟩), rfl, q _ _ hp hw (I1.hok.fresh (Nat.le_refl _))⟩
    · have hb : b < h'.objs.size := Heap.lt_size e
      rw [PyProof.Rows.sortedHeap_old (Nat.ne_of_lt hb) (by rw [size_push']; exact Nat.lt_succ_of_lt hb)]
      exact Heap.get?_push_of_some _ e
    · have e1 : ((out.map g).map fun p => V.ref p.1) = ((out.map g).map (·.1)).map V.ref := (List.map_map (f := Prod.fst) (g := V.ref) (l := out.map g)).symm
      have e2 : out = ((out.map g).map (·.1)).map Value.ref := hout.trans (List.map_map (f := Prod.fst) (g := Value.ref) (l := out.map g)).symm
      rw [e1]
      exact (congrArg (Vals _) e2).mpr (vals_refs _)
def DCN {κ : Type} (P : Program) (w : World) (K : PySem.W.Frag) (l : Addr) (enc : κ → PyData) (kvs : List (κ × PyData)) : RP := fun F v => v = .ref l ∧ ∃ xs, F l = some (NDx P w l xs) ∧ NDr K enc F xs kvs
theorem DCN.mo {κ : Type} {P : Program} {w : World} {K : PySem.W.Frag} {l : Addr} {enc : κ → PyData} {kvs : List (κ × PyData)} : Mono (DCN P w K l enc kvs) := fun F F' v e ⟨h1, xs, h2, h3⟩ => ⟨h1, xs, e _ _ h2, h3.mono e⟩
theorem ndx_ng {P : Program} {w : World} {l : Addr} {xs : NX} : NotG (NDx P w l xs) := fun s e => by cases e
section
variable {B : Bk} {E : Env'} {os : OS} {P : DE} {sts : List Stmt} {l : Addr} {κ : Type} [DecidableEq κ] {enc : κ → PyData} {kvs : List (κ × PyData)}
theorem ws_giveND (i j : Nat) (k : WS B sts (E.set i (some (DCN B.X.prog B.X.w B.X.K l enc kvs))) (os.eraseIdx j) P) (hE : E[i]? = some (some (RR l)) := by rfl) (ho : os[j]? = some (l, NDo B.X.prog B.X.w B.X.K l enc kvs) := by rfl) (hmu : l ∉ B.mu := by exact fun h => nomatch h) : WS B sts E os P :=
  ⟨fun L D σ F H m r l1 => by
    have hm : (l, NDo B.X.prog B.X.w B.X.K l enc kvs) ∈ os := List.mem_of_getElem? ho
    have fs : FsOk [l] F H := r.o.fsok fun a ha => by
      rw [List.mem_singleton.mp ha]
      exact ⟨_, hm⟩
    have ro : RepO B.F0 B.H0 B.mu (os.eraseIdx j) (frz [l] F H) H := r.o.give (fun a ha => by
      rw [List.mem_singleton.mp ha]
      exact ⟨List.mem_map.mpr ⟨_, hm, rfl⟩, hmu⟩) (os_erase r.o.nd ho) ((List.eraseIdx_sublist os j).map (·.1) |>.nodup r.o.nd)
    obtain ⟨_, _, o, h1, xs, rfl, h2⟩ := r.o.ow _ hm
    obtain ⟨_, v, hv, rv⟩ := r.e.at_ i (RR l) hE
    have ev : v = .ref l := rv
    subst ev
    have hr : DCN B.X.prog B.X.w B.X.K l enc kvs (frz [l] F H) (.ref l) := ⟨rfl, xs, by unfold frz; rw [if_pos (by simp)]; exact h1, h2.mono fs.ff⟩
    have re := (r.e.mono fs.ff).set (i := i) DCN.mo hr
    have es : σ.set i (some (V.ref l)) = σ := by
      refine List.ext_getElem? fun n => ?_
      by_cases e : i = n
      · subst e
        rw [List.getElem?_set_self (List.getElem?_eq_some_iff.mp hv).1]
        exact hv.symm
      · rw [List.getElem?_set_ne e]
    rw [es] at re
    exact k.run L D σ _ H m ⟨ro, re⟩ (Ex.tr l1 fs.ff)⟩
end
theorem nodup_fst {α β : Type} : ∀ {l : List (α × β)}, (l.map (·.1)).Nodup → ∀ {p q : α × β}, p ∈ l → q ∈ l → p.1 = q.1 → p = q
  | [], _, _, _, h, _, _ => nomatch h
  | a :: r, nd, p, q, hp, hq, e => by
    rw [List.map_cons] at nd
    obtain ⟨n1, n2⟩ := List.nodup_cons.mp nd
    rcases List.mem_cons.mp hp with e1 | h1 <;> rcases List.mem_cons.mp hq with e2 | h2
    · rw [e1, e2]
    · exact absurd (List.mem_map.mpr ⟨q, h2, e.symm.trans (congrArg _ e1)⟩) n1
    · exact absurd (List.mem_map.mpr ⟨p, h1, e.trans (congrArg _ e2)⟩) n1
    · exact nodup_fst n2 h1 h2 e
section
variable {X : Cx} {E : Env'} {e a b : Expr} {pos p : Pos} {l : Addr} {κ : Type} [DecidableEq κ] {enc : κ → PyData} {kvs : List (κ × PyData)} {k : κ} {d : PyData}
theorem g_ndget (N : NKey enc) (hu : X.A.units + 9 < cLine) (ha : GE X a E (DCN X.prog X.w X.K l enc kvs)) (hb : GE X b E (DD X.K (enc k))) (hk : dget kvs k = some d) (nd : (kvs.map (·.1)).Nodup) (hs : NoSl b := by intro _ _; rfl) : GE X (.Subscript a b pos) E (DD X.K d) :=
  ⟨pe_imp (pe_nget hu ha.pe hb.pe hs) fun σ H Q ⟨F, r, x, q⟩ => ⟨F, r, x, fun v F1 H1 e1 r1 => ⟨F1, r.mono e1.ff, e1.fh, fun y F2 H2 e2 r2 => by
    obtain ⟨rfl, xs, h1, h2⟩ := DCN.mo _ _ _ e2.ff r1
    have hy : ∃ c, y = .ref c := by
      obtain ⟨ds, hds⟩ := N.tup k
      rw [hds] at r2
      obtain ⟨c, _, rfl, _⟩ := DD.tup_inv r2
      exact ⟨c, rfl⟩
    obtain ⟨c, rfl⟩ := hy
    have ha' : (kvs.any fun kv => decide (kv.1 = k)) = true := by
      unfold dget at hk
      cases e : kvs.find? fun kv => decide (kv.1 = k) with
      | none => rw [e] at hk; cases hk
      | some z => exact List.any_eq_true.mpr ⟨z, List.mem_of_find?_eq_some e, List.find?_some (p := fun kv : κ × PyData => decide (kv.1 = k)) e⟩
    obtain ⟨p, kv, v, g1, g2, g3, g4, g5⟩ := h2.find N k ha'
    have hd : kv.2 = d := by
      unfold dget at hk
      cases e : kvs.find? fun kv => decide (kv.1 = k) with
      | none => rw [e] at hk; cases hk
      | some z =>
        rw [e] at hk
        have z1 := List.mem_of_find?_eq_some e
        have z2 : z.1 = k := by simpa using List.find?_some e
        have : z = kv := nodup_fst nd z1 g2 (z2.trans g3.symm)
        rw [← this]
        exact Option.some.inj hk
    rw [hd] at g5
    refine ⟨l, c, xs, nkOf (enc k), p, v, rfl, rfl, fun pins σ s I => ⟨?_, ?_⟩, g1, g4, q _ _ _ (e1.trans e2) g5⟩
    · exact nd_h N I (e2.fh.at h1 ndx_ng) e2.fh h2
    · exact ⟨nk_is I _ _ _ (N.ok _) (da_dp e2.fh _ _ (ndf_nk _ (N.ok _)) r2) rfl, N.dep _⟩⟩⟩, DD.mo⟩
theorem ndr_L {K : PySem.W.Frag} {F : Hp} : ∀ {xs : NX} {kvs : List (List Int × PyData)}, NDr K encT F xs kvs → ∃ L : List (Addr × List Int), L.map (·.1) = xs.map (fun x => x.2.1) ∧ L.map (·.2) = kvs.map (·.1) ∧ ∀ p, p ∈ L → Da K F (.ref p.1) (encT p.2)
  | _, _, .nil => ⟨[], rfl, rfl, fun p hp => nomatch hp⟩
  | x :: xs, kv :: kvs, .cons ⟨h1, h2, _⟩ t => by
    obtain ⟨L, a, b, c⟩ := ndr_L t
    refine ⟨(x.2.1, kv.1) :: L, by rw [List.map_cons, List.map_cons, a], by rw [List.map_cons, List.map_cons, b], fun p hp => ?_⟩
    rcases List.mem_cons.mp hp with e | e
    · rw [e]; exact h2
    · exact c p e
theorem g_sortND {kvs : List (List Int × PyData)} (hcalm : X.calm = true) (Bn : Bn X.mg) (ha : GE X e E (DCN X.prog X.w X.K l encT kvs)) (nd : (kvs.map (·.1)).Nodup) (hne : ∀ p, p ∈ kvs → p.1 ≠ []) (hz : kvs.length ≤ sizeLine) (hg : Gl X "sorted" := by rfl) (he : starEach [e] X.env = (false, eval e X.env) :: starEach [] X.env := by rfl) (hpl : (backTo pos (starEach [] X.env)).any (·.1) = false := by rfl) :
    GE X (.Call (.Name "sorted" p) [e] [] pos) E (DD X.K (.list ((sortI (kvs.map (·.1))).map encT))) :=
  ⟨pe_imp (pe_callB (call_sortedN hcalm) hg Bn.sorted (by decide +kernel) (ga_cons ha ga_nil he).pa (by decide) (by decide) he hpl) fun σ H Q ⟨F, r, x, q⟩ => ⟨F, r, x, fun vs F' H' e1 r1 => by
    cases r1 with
    | cons m1 h1 t =>
      cases t
      obtain ⟨rfl, xs, h2, h3⟩ := h1
      obtain ⟨L, a, b, c⟩ := ndr_L h3
      have hne' : ∀ p, p ∈ L → p.2 ≠ [] := fun p hp => by
        have : p.2 ∈ kvs.map (·.1) := by rw [← b]; exact List.mem_map.mpr ⟨p, hp, rfl⟩
        obtain ⟨kv, hkv, e⟩ := List.mem_map.mp this
        rw [← e]; exact hne kv hkv
      refine ⟨l, xs, L, rfl, e1.fh.at h2 ndx_ng, by rw [h3.len]; exact hz, a, fun p hp => ⟨?_, hne' p hp⟩, fun L' t hp hw ht => ?_⟩
      · cases c p hp with
        | tup s d =>
          have := dpa_ints d
          rw [this] at s
          exact fh_t e1.fh s
      · have en := Ext.new e1.fh ht (HO.lst (L'.map fun p => V.ref p.1))
        have hk : L'.map (·.2) = sortI (kvs.map (·.1)) := by
          have pm : (L'.map (·.2)).Perm (kvs.map (·.1)) := by rw [← b]; exact hp.map _
          have nd' : (L'.map (·.2)).Nodup := pm.nodup_iff.mpr nd
          refine rise_uniq ?_ (sortI_rise nd) fun z => by rw [sortI_mem]; exact pm.mem_iff
          rw [List.pairwise_map]
          have nd2 := List.pairwise_map.mp nd'
          refine (hw.and nd2).imp fun {p q} ⟨h1, h2⟩ => ?_
          cases w : lexI p.2 q.2 with
          | true => rfl
          | false => exact absurd (lexI_tot w h1) h2
        refine q _ _ _ (e1.trans en) (.lst upd_same ?_)
        have hd : ∀ (M : List (Addr × List Int)), (∀ p, p ∈ M → p ∈ L) → DaAll X.K F' (M.map fun p => V.ref p.1) ((M.map (·.2)).map encT) := fun M => by
          induction M with
          | nil => intro _; exact .nil
          | cons p M ih => intro h; exact .cons (c p (h p List.mem_cons_self)) (ih fun q hq => h q (List.mem_cons_of_mem _ hq))
        have hd' := hd L' fun p hp' => hp.mem_iff.mp hp'
        rw [hk] at hd'
        exact daAll_mono en.ff _ _ hd'⟩, DD.mo⟩
theorem n_listT {ds : List PyData} (hcalm : X.calm = true) (B : Bn X.mg) (ha : GE X e E (DD X.K (.tuple ds))) (hz : ds.length ≤ sizeLine) (hg : Gl X "list" := by rfl) (he : starEach [e] X.env = (false, eval e X.env) :: starEach [] X.env := by rfl) (hpl : (backTo pos (starEach [] X.env)).any (·.1) = false := by rfl) : GEN X (.Call (.Name "list" p) [e] [] pos) E ds :=
  ⟨pe_imp (pe_callTy call_list_of hg B.list (by decide +kernel) (gad_cons ha gad_nil he).pa (by decide) (by decide) he hpl) fun σ H Q ⟨F, r, x, q⟩ => ⟨F, r, x, fun vs F' H' e1 r1 => by
    obtain ⟨v, rfl, hd⟩ := dpa1 r1
    obtain ⟨t, us, rfl, h1, h2⟩ := DD.tup_inv hd
    refine ⟨t, us, rfl, .inr (fh_t e1.fh h1), fun l hl => ?_⟩
    exact q _ us _ _ (e1.trans (Ext.out e1.fh hl _)) (e1.fh.no hl) (e1.hno hl) upd_same h2⟩⟩
end
end Z
namespace PySem.W
open PySem PySem.Spec PySem.Calls PyProof.Rows
section
variable {prog : Program} {w : World} {A : Around} {E : Value → Shared → Prop} {s : Shared} {K : Frag} {x D : Addr} {ox : Obj} {od : Option Obj}
theorem zfindObj_data {C : Addr} {name : Str} {a g : Value} (hc : (clsIn K C).isSome = true) (ha : findIn K (.ref C) name = some (some a)) (hg : specialIn K a "__get__" = some (some g)) (ht : takesIn K a = some true) : findObj K C od name = some (.bind g a) := by
  obtain ⟨cd, hc⟩ := Option.isSome_iff_exists.mp hc
  unfold findObj
  rw [hc, Option.bind_some, ha, Option.bind_some]
  simp [hg, ht]
theorem zclassE {Q : Option Value → Shared → Prop} (hga : findIn K (.ref D) "__getattribute__" = some (some (.builtin "BaseException.__getattribute__"))) (hgt : findIn K (.ref D) "__getattr__" = some none) (hsub : subIn K (.ref D) (.type "BaseException") = some true)
    (hdct : hasDictIn K D = true) (ha : findIn K (.ref D) "__class__" = some (some (.builtin "object.__class__")))
    (hn : specialIn K (.builtin "object.__class__") "__get__" = some (some (.builtin "getset_descriptor.__get__"))) (htk : takesIn K (.builtin "object.__class__") = some true) (hm : mroIn K D (.type "object") = some true)
    (X : K.In s.heap) (I : InstAt s.heap x ox D od) (h : Q (some (.ref D)) { s with toks := s.toks + 1 }) : wpAny (model prog w) A (getAttr? (.ref x) "__class__") Q E s := by
  have hf : findObj K D od "__class__" = some (.bind (.builtin "getset_descriptor.__get__") (.builtin "object.__class__")) := zfindObj_data (by obtain ⟨cd, hc, _⟩ := any_some hdct; rw [hc]; rfl) ha hn htk
  obtain ⟨hp, g, d, t, os⟩ := s
  have L0 := I.type (M := model prog w)
  have L1 := looks_findIn (M := model prog w) X hga
  have L2 := looks_findIn (M := model prog w) X hgt
  have L3 := looks_find (M := model prog w) X I hf
  have sub : Looks (model prog w) hp (isInstance (.ref x) (.type "BaseException")) true := L0.andThen (looks_subIn X hsub)
  have hx0 : (false && onTheHeap (Value.builtin "BaseException.__getattribute__")) = false := rfl
  have hx2 : (Value.builtin "BaseException.__getattribute__" == Value.builtin "object.__getattribute__") = false := by decide +kernel
  have hx1 : (onTheHeap (Value.ref D) && Value.builtin "BaseException.__getattribute__" == Value.builtin "object.__getattribute__") = false := by rw [hx2]; rfl
  unfold getAttr? getAttrBy? getAttrBy
  refine wpAny_bind (wpAny_mkText (wpAny_bind (wpAny_attempt (wpAny_holding (wpAny_bind (L0.at (wpAny_bind (L1.at ?_))))))))
  show wpAny _ _ (if (onTheHeap (Value.ref D) && Value.builtin "BaseException.__getattribute__" == Value.builtin "object.__getattribute__") = true then _ else _) _ _ _
  rw [hx1, if_neg Bool.false_ne_true]
  unfold getAttrByItsOwn hookBefore
  refine wpAny_bind ?_
  rw [if_pos (show onTheHeap (Value.ref D) = true from rfl)]
  refine L2.at ?_
  refine wpAny_bind (wpAny_attempt (wpAny_holding ?_))
  unfold callGetattribute
  rw [hx0, if_neg Bool.false_ne_true]
  unfold boundAndCalled
  rw [PySem.F.excAttr_ValueError.ga.bind (.ref x)]
  refine wpAny_bind (wpAny_pure ?_)
  show wpAny _ _ (call (.builtin "BaseException.__getattribute__") [.ref x, .str "__class__" t]) _ _ _
  refine wpAny_call (codeAny_call_builtin PySem.F.excAttr_ValueError.ga.plain PySem.F.entry_bexc_ga ?_)
  refine @check_slot (model prog w) _ _ ⟨hp, g, d, t + 1, os⟩ "BaseException.__getattribute__" "BaseException" "__getattribute__" (.ref x) [.str "__class__" t] [] _ (by decide +kernel) (by decide +kernel) sub (PySem.F.args_bexc_ga (.ref x) (.str "__class__" t)) ?_
  unfold Builtin.«object.__getattribute__»
  refine wpAny_bind (wpAny_of_eq (a := ((Value.ref x : Value), [Value.str "__class__" t])) (by first | rfl | (simp only [slotArgs]; rfl)) ?_)
  refine wpAny_bind (wpAny_pure (wpAny_bind (L0.at (wpAny_bind (L3.at ?_)))))
  show wpAny _ _ (holding [Value.builtin "object.__class__"] (call (.builtin "getset_descriptor.__get__") [.builtin "object.__class__", .ref x, .ref D]) >>= ret) _ _ _
  refine wpAny_bind (wpAny_holding (wpAny_call (class_get (s := ⟨hp, g, d, t + 1, os⟩) (ox := ox) (od := od) X I hm ?_)))
  refine wpAny_pure ?_
  show wpAny _ _ (handedOut (.ref D)) _ _ _
  rw [handedOut_of (v := .ref D) rfl]
  first
    | exact wpAny_pure (wpAny_pure h)
    | exact wpAny_pure h
    | exact wpAny_pure (wpAny_bind (wpAny_pure (wpAny_pure h)))
theorem zkitx_exc (hga : findIn K (.ref D) "__getattribute__" = some (some (.builtin "BaseException.__getattribute__"))) (hgt : findIn K (.ref D) "__getattr__" = some none) (hsub : subIn K (.ref D) (.type "BaseException") = some true) (hdct : hasDictIn K D = true) (ha : findIn K (.ref D) "__class__" = some (some (.builtin "object.__class__")))
    (hn : specialIn K (.builtin "object.__class__") "__get__" = some (some (.builtin "getset_descriptor.__get__"))) (htk : takesIn K (.builtin "object.__class__") = some true) (hm : mroIn K D (.type "object") = some true) :
    KitX K (.ref x) (.ref D) (fun h => InstAt h x ox D od) where
  ty := fun _ _ _ I => I.type
  it := fun _ _ X _ => by
    obtain ⟨cdD, hcD, _⟩ := any_some hdct
    unfold clsIn at hcD
    split at hcD
    · rename_i c' d' cd' sl' ho
      intro A' Q' E' s' k q
      unfold isType loadHead
      exact wpAny_bind (wpAny_loadPart (k _ _ (X _ _ ho)) (wpAny_pure q))
    · cases hcD
  ne := fun h tp dd its n sl X htp => by
    obtain ⟨cdD, hcD, _⟩ := any_some hdct
    refine Bool.eq_false_iff.mpr fun q => ?_
    have e : D = tp := Value.ref.inj (beq_iff_eq.mp q)
    subst e
    unfold clsIn at hcD
    split at hcD
    · rename_i c' d' cd' sl' ho
      have z := (X _ _ ho).symm.trans htp
      cases z
    · cases hcD
  ca := fun X I k => zclassE hga hgt hsub hdct ha hn htk hm X I k
end
end PySem.W
namespace Z
open PySem PySem.Spec PyProof.Rows L2
variable [Vo]
def XdOk (F : Hp) (dd : Option Addr) : Prop := dd = none ∨ ∃ dx fs, dd = some dx ∧ F dx = some (.xd fs)
structure ExP (p : Addr × Obj) (D : Addr) (dd : Option Addr) : Prop where
  z : Zc (.ref D) dd p.2
  f : ∃ vs, p.2.data = .fields vs
theorem exp_inst {p : Addr × Obj} {D : Addr} {dd : Option Addr} (h : ExP p D dd) {s : Heap} (hg : s.get? p.1 = some p.2) (hd : dd = none ∨ ∃ dx o, dd = some dx ∧ s.get? dx = some o) : ∃ od, PySem.W.InstAt s p.1 p.2 D od := by
  obtain ⟨a, oc, od, oda, osl⟩ := p
  obtain ⟨⟨h1, h2⟩, vs, h3⟩ := h
  dsimp only at h1 h2 h3
  subst h1 h2 h3
  rcases hd with rfl | ⟨dx, o, rfl, ho⟩
  · exact ⟨none, hg, rfl, rfl, trivial⟩
  · exact ⟨some o, hg, rfl, rfl, ho⟩
theorem call_isP {X : Cx} {p : Addr × Obj} {D : Addr} {dd : Option Addr} (C : ExcC X.K D) (hz : ExP p D dd) (hp : p ∈ X.pn) : CallR X (.builtin "isinstance") (fun xs H Q => ∃ (c : V) (cv : Value) (b : Bool), xs = [.ref p.1, c] ∧ (∀ u, RelV c u → u = cv) ∧ PySem.W.kitOne X.K (.ref D) cv = some b ∧ XdOk H dd ∧ Q (.bl b) H) := by
  intro pins s σ H xs us Q I r h
  obtain ⟨c, cv, b, rfl, hcv, e, hx, q⟩ := h
  cases r with
  | cons rx rr =>
    cases rr with
    | cons rt rr =>
      cases rr
      cases rx
      have ec := hcv _ rt
      subst ec
      obtain ⟨hget, _⟩ := I.pin p (List.mem_append.mpr (.inl hp))
      obtain ⟨od, J⟩ := exp_inst hz hget (by
        rcases hx with e | ⟨dx, fs, e, hf⟩
        · exact .inl e
        · obtain ⟨mA, ⟨o, _, _, ho, _⟩, _⟩ := I.hok dx _ hf
          exact .inr ⟨dx, o, e, ho⟩)
      exact PySem.W.kia_one (PySem.W.zkitx_exc C.hg C.hk C.hs C.hd C.ha C.hn C.ht C.hm) I.kIn J e (fun z => nomatch z) fun tk => ⟨.bl b, H, I.kept (t' := tk) fun _ _ z => z, rfl, q⟩
section
variable {X : Cx} {E : Env'} {e o : Expr} {p pt pos apos cpos : Pos} {a : Addr} {oe : Obj} {D C : Addr} {dd : Option Addr} {pp : PX} {x : Str} {T : String} {b : Bool} {bs : List Bool}
theorem xd_fh {F H : Hp} (h : Fh F H) (x : XdOk F dd) : XdOk H dd := by
  rcases x with e | ⟨dx, fs, e, hf⟩
  · exact .inl e
  · exact .inr ⟨dx, fs, e, h.at hf⟩
theorem g_isX (B : Bn X.mg) (Xc : ExcC X.K D) (hz : ExP (a, oe) D dd) (hp : (a, oe) ∈ X.pn) (he : GE X e E (RE a dd pp)) (hpp : ∀ F, pp F dd → XdOk F dd) (hx : X.mg x = some (.ref C)) (hb : PySem.W.kitOne X.K (.ref D) (.ref C) = some b) (hg : Gl X "isinstance" := by rfl) (hgx : Gl X x := by rfl) (hd : (x == ("__debug__" : Str)) = false := by decide)
    (hs : starEach [e, .Name x pt] X.env = (false, eval e X.env) :: starEach [.Name x pt] X.env := by rfl) (hs2 : starEach [.Name x pt] X.env = (false, eval (.Name x pt) X.env) :: starEach [] X.env := by rfl) (hpl : (backTo pos (starEach [.Name x pt] X.env)).any (·.1) = false := by rfl) :
    GE X (.Call (.Name "isinstance" p) [e, .Name x pt] [] pos) E (DD X.K (.bool b)) :=
  ⟨pe_imp (pe_callB (call_isP Xc hz hp) hg B.isinstance (by decide +kernel) (pa_cons he.pe (pa_cons (pe_glob (v := V.ref C) hgx hx rfl hd) pa_nil hs2) hs) (by decide) (by decide) hs hpl) fun σ H Q ⟨F, r, h, k⟩ => ⟨F, r, h, fun v F1 H1 e1 ⟨r1, r2⟩ => by
    subst r1
    exact ⟨V.ref C, .ref C, b, rfl, fun u hu => hu, hb, xd_fh e1.fh (hpp F1 r2), k _ F1 H1 e1 (.bl b)⟩⟩, DD.mo⟩
theorem g_isXT (B : Bn X.mg) (Xc : ExcC X.K D) (hz : ExP (a, oe) D dd) (hp : (a, oe) ∈ X.pn) (he : GE X e E (RE a dd pp)) (hpp : ∀ F, pp F dd → XdOk F dd) (hx : X.mg x = none) (hv : bootBuiltins x = some (.type T)) (hb : PySem.W.kitOne X.K (.ref D) (.type T) = some b) (hg : Gl X "isinstance" := by rfl) (hgx : Gl X x := by rfl) (hn : x ≠ "__name__" := by decide) (hd : (x == ("__debug__" : Str)) = false := by decide)
    (hs : starEach [e, .Name x pt] X.env = (false, eval e X.env) :: starEach [.Name x pt] X.env := by rfl) (hs2 : starEach [.Name x pt] X.env = (false, eval (.Name x pt) X.env) :: starEach [] X.env := by rfl) (hpl : (backTo pos (starEach [.Name x pt] X.env)).any (·.1) = false := by rfl) :
    GE X (.Call (.Name "isinstance" p) [e, .Name x pt] [] pos) E (DD X.K (.bool b)) :=
  ⟨pe_imp (pe_callB (call_isP Xc hz hp) hg B.isinstance (by decide +kernel) (pa_cons he.pe (pa_cons (pe_bltn (v := V.ty T) hgx hx hv rfl hn hd) pa_nil hs2) hs) (by decide) (by decide) hs hpl) fun σ H Q ⟨F, r, h, k⟩ => ⟨F, r, h, fun v F1 H1 e1 ⟨r1, r2⟩ => by
    subst r1
    exact ⟨V.ty T, .type T, b, rfl, fun u hu => hu, hb, xd_fh e1.fh (hpp F1 r2), k _ F1 H1 e1 (.bl b)⟩⟩, DD.mo⟩
theorem mt_lcountV : MtR X "list.count" (fun x xs H Q => ∃ (p : Addr) (ys : List V) (y : V), x = .ref p ∧ xs = [y] ∧ SqL X.K H p ys ∧ flatV y = true ∧ ys.all flatV = true ∧ Q (.int (ys.countP (fun z => eqV z y) : Nat)) H) := by
  intro pins s σ H x xs v us Q I rx rxs h
  obtain ⟨a, ys, y, rfl, rfl, hs, fy, fys, q⟩ := h
  cases rx
  obtain ⟨uy, rfl, ry⟩ := rxs.one
  obtain ⟨its, rv, ⟨⟨cls, dd, data, sl⟩, n, ho, hc, hdn, hd⟩, hlen⟩ := I.list hs
  simp only at hc hd
  subst hc hd
  refine call_meets PySem.F.slot_list_count ⟨_, ho, rfl⟩ PySem.F.entry_list_count (PySem.F.args_list_count_2 _ _)
    (SeqAt.list_countAt a its.toArray n dd sl uy (eqU y)) ⟨ho, fun u' hu' => mem_eqAt ry fy rv fys u' (by simpa using hu'), ?_⟩
  have ec : its.countP (eqU y) = ys.countP (fun z => eqV z y) := by
    clear hs ho hlen q hdn
    induction rv with
    | nil => rfl
    | @cons z zs u us' r t ih =>
      rw [List.all_cons, Bool.and_eq_true] at fys
      rw [List.countP_cons, List.countP_cons, ih fys.2, eqU_of r fys.1]
  refine ⟨.int (ys.countP (fun z => eqV z y) : Nat), H, I.tok _, ⟨s.toks, ?_⟩, q⟩
  show Value.int ((its.toArray.toList.countP (eqU y) : Nat) : Int) s.toks = _
  rw [← ec]
theorem cntB : ∀ bs : List Bool, (bs.map V.bl).countP (fun z => eqV z (.bl true)) = bs.count true
  | [] => rfl
  | c :: r => by
    rw [List.map_cons, List.countP_cons, List.count_cons, cntB r]
    rfl
theorem flatB : ∀ bs : List Bool, (bs.map V.bl).all flatV = true
  | [] => rfl
  | c :: r => by rw [List.map_cons, List.all_cons, flatB r]; rfl
theorem g_countB (ho : GE X o E (DD X.K (.list (bs.map .bool)))) (he : GE X e E (DD X.K (.bool true))) (hs : starEach [e] X.env = (false, eval e X.env) :: starEach [] X.env := by rfl)
    (hp : ∀ {to : TE} {t : TA}, PE X o to → PA X [e] t → PE X (.Call (.Attribute o "count" apos) [e] [] cpos) (tBM X.K "list" (fun x xs H Q => ∃ (p : Addr) (ys : List V) (y : V), x = .ref p ∧ xs = [y] ∧ SqL X.K H p ys ∧ flatV y = true ∧ ys.all flatV = true ∧ Q (.int (ys.countP (fun z => eqV z y) : Nat)) H) to t) := by intro _ _ h1 h2; exact pe_bm PySem.F.plainAttrs_list PySem.F.slot_list_count PySem.F.type_list_count mt_lcountV h1 h2) :
    GE X (.Call (.Attribute o "count" apos) [e] [] cpos) E (DD X.K (.int (bs.count true : Nat))) :=
  ⟨pe_imp (hp ho.pe (gad_cons he gad_nil hs).pa) fun σ H Q ⟨F, r, x, q⟩ => ⟨F, r, x, fun v F1 H1 e1 r1 => by
    obtain ⟨p, vs, rfl, h1, h2⟩ := DD.list_inv r1
    refine ⟨.inl ⟨rfl, vs, SqL.of (e1.fh.at h1)⟩, F1, r.mono e1.ff, e1.fh, fun us F2 H2 e2 r2 => ?_⟩
    obtain ⟨u, rfl, hu⟩ := dpa1 r2
    cases DD.bool_inv hu
    cases dpa_bools h2
    refine ⟨p, _, _, rfl, rfl, SqL.of (e2.fh.at (e2.ff _ _ h1)), rfl, flatB bs, ?_⟩
    rw [cntB]
    exact q _ F2 H2 (e1.trans e2) (.int _)⟩, DD.mo⟩
theorem g_indexB {j : Nat} (ho : GE X o E (DD X.K (.list (bs.map .bool)))) (he : GE X e E (DD X.K (.bool true))) (hj : bs[j]? = some true) (hno : ∀ m, m < j → bs[m]? = some false) (hs : starEach [e] X.env = (false, eval e X.env) :: starEach [] X.env := by rfl)
    (hp : ∀ {to : TE} {t : TA}, PE X o to → PA X [e] t → PE X (.Call (.Attribute o "index" apos) [e] [] cpos) (tBM X.K "list" (rIndex X.K) to t) := by intro _ _ h1 h2; exact pe_bm PySem.F.plainAttrs_list PySem.F.slot_list_index PySem.F.type_list_index mt_index h1 h2) :
    GE X (.Call (.Attribute o "index" apos) [e] [] cpos) E (DD X.K (.int (j : Nat))) :=
  ⟨pe_imp (hp ho.pe (gad_cons he gad_nil hs).pa) fun σ H Q ⟨F, r, x, q⟩ => ⟨F, r, x, fun v F1 H1 e1 r1 => by
    obtain ⟨p, vs, rfl, h1, h2⟩ := DD.list_inv r1
    refine ⟨.inl ⟨rfl, vs, SqL.of (e1.fh.at h1)⟩, F1, r.mono e1.ff, e1.fh, fun us F2 H2 e2 r2 => ?_⟩
    obtain ⟨u, rfl, hu⟩ := dpa1 r2
    cases DD.bool_inv hu
    cases dpa_bools h2
    refine ⟨p, _, _, j, .bl true, rfl, rfl, SqL.of (e2.fh.at (e2.ff _ _ h1)), rfl, flatB bs, by rw [List.getElem?_map, hj]; rfl, rfl, fun m z hm hz => ?_, q _ F2 H2 (e1.trans e2) (.int _)⟩
    rw [List.getElem?_map, hno m hm] at hz
    cases hz
    rfl⟩, DD.mo⟩
end
structure FnP (P : Program) (w : World) (K : PySem.W.Frag) (mg : Str → Option Value) (base : Heap) (k : Nat) (f : Addr) (fd : FuncData) (ps : List Str) (sp : Addr × Obj → Sp) : Prop where
  len : ∀ p vs H Q E, sp p vs H Q E → vs.length = ps.length
  run : ∀ (A : Around) (outer : List Env) (s : Shared) (H : Hp) (args : Args) (us : List Value) (vs : List V) (Q : VK) (E : XK) (p : Addr × Obj), L2H.RoomH k A → L2H.PinOk outer H s p → Env0 P w K mg base A outer s H → BindsTo s fd args (ps.zip us) → Vals vs us → sp p vs H Q E →
    codeAny (model P w) A (.call (.ref f) args) (CR CX0 outer P w H s Q E) s
abbrev cxP (P : Program) (w : World) (K : PySem.W.Frag) (mg : Str → Option Value) (base : Heap) (N : List Str) (qual : Str) (st : Stmt) (f : Addr) (cdv : Value) (A : Around) (outer : List Env) (s : Shared) (H : Hp) (E : XK) (p : Addr × Obj) : Cx := L2H.cxH CX0 P w K mg base N qual (defScope st) f cdv A outer s H E p
section
variable {P : Program} {w : World} {K : PySem.W.Frag} {mg : Str → Option Value} {base : Heap}
def spP (K : PySem.W.Frag) (q : Addr × Obj → List RP → PyData → Prop) (p : Addr × Obj) : Sp := fun vs H Q _ => ∃ F Rs d, Fh F H ∧ All2 F Rs vs ∧ q p Rs d ∧ ∀ v F' H', Ext F H F' H' → Da K F' v d → Q v H'
theorem fn_P {x qual : Str} {st : Stmt} {f : Addr} {fd : FuncData} {N ps : List Str} {k : Nat} {q : Addr × Obj → List RP → PyData → Prop} (F : Fun K x qual st f fd) (S : FnScope N ps (defScope st)) (len : ∀ p Rs d, q p Rs d → Rs.length = ps.length)
    (hb : ∀ (cdv : Value) (A : Around) (outer : List Env) (s : Shared) (H F0 : Hp) (E : XK) (p : Addr × Obj), L2H.RoomH k (cxP P w K mg base N qual st f cdv A outer s H E p).A → ∀ Rs d, q p Rs d → WS ⟨cxP P w K mg base N qual st f cdv A outer s H E p, F0, H, [], WN⟩ (defBody st) (entG N.length Rs) [] (Rts K d)) :
    FnP P w K mg base (k + 1) f fd ps (spP K q) := by
  obtain ⟨oc, od, kV, doc, pm, an, cdv, ct, osl, rfl, lk, hcd⟩ := F.ex
  refine ⟨fun p vs H Q E ⟨F, Rs, d, _, h, hq, _⟩ => h.len.trans (len p Rs d hq), fun A outer s H args us vs Q E p hr hpin e0 hbt r hsp => ?_⟩
  obtain ⟨F0, Rs, d, ex, h, hq, kk⟩ := hsp
  have hl : vs.length = ps.length := h.len.trans (len p Rs d hq)
  have KX : K.In s.heap := e0.mod.kin.keeps fun b o e => (e0.bs b o e).1
  have lim : s.heap.NoLimit := e0.mod.nolimit.keeps fun b o e => (e0.bs b o e).1
  have hkind : ∀ y ∈ ps.zip us, (defScope st).names.lookup y.1 = some .local ∨ ((defScope st).names.lookup y.1 = some .cell ∧ ((cellsFrom (s.heap.objs.size + 1) (defScope st).names []).lookup y.1).isSome = true) := fun ⟨n, v⟩ hy => by
    rcases S.par n (List.of_mem_zip hy).1 with q | q
    · exact .inl q
    · exact .inr ⟨q, PySem.W.cellsFrom_some _ _ _ (.inl q)⟩
  refine codeAny_call_function hr.depth (KX _ _ lk) rfl S.co S.gen rfl (PySem.W.codeRec_of KX hcd) (hbt _ _ _ _ ?_)
  refine wpAny_newFunctionEnv_cells S.kind hkind fun env he s1 x => ?_
  subst he
  refine ⟨lim.keeps x.toInCall.keep, codeAny_func ?_⟩
  have I : Inv (cxP P w K mg base N qual st f cdv A outer s H E p) [] (L2.start N vs) H s1 := L2H.inv_startH S hpin e0 hl r x
  have fin : ∀ {σ' : L2.St} {H' : Hp} {v : V} {u : Value} {s' : Shared}, Inv (cxP P w K mg base N qual st f cdv A outer s H E p) [] σ' H' s' → RelV v u → Q v H' → CE outer P w H s Q u s' :=
    fun {σ' H' v u s'} J rv q => ⟨v, H', J.os, J.bare, J.base, J.hok, rv, q⟩
  have go := (hb cdv A outer s H F0 E p (hr.deeper _) Rs d hq).run F0 ({ nx := fun _ H' => Q .non H', rt := Q } : Ends) (L2.start N vs) F0 H ⟨fun E' os σ F' H' e r l => by
      have e' : d = .none := e
      subst e'
      exact kk _ F' H' ⟨r.o.fm.ff, r.o.fm.fh, fun a o n q => r.o.fm.hh a o (by simp) n q, r.o.fm.nf⟩ .non, fun R os v F' H' e r l hv => kk v F' H' ⟨r.fm.ff, r.fm.fh, fun a o n q => r.fm.hh a o (by simp) n q, r.fm.nf⟩ (e F' v hv), fun E' os σ F' H' z => z.elim, fun E' os σ F' H' z => z.elim, fun _ _ _ _ _ _ _ _ z => z.elim⟩ ⟨⟨⟨fun _ _ q => q, ex, fun a o _ _ q => q, fun a o q _ => q, fun a q => nomatch q⟩, List.nodup_nil, fun p hp => nomatch hp⟩, rep_startG h⟩ (fun _ _ q => q)
  refine wpAny_mono (go [] s1 I) (fun fl s' hs => ?_) fun e s' hs => hs
  cases fl with
  | ret u =>
    obtain ⟨v, σ', H', J, rv, q⟩ := hs
    exact fin J rv q
  | next =>
    obtain ⟨σ', H', J, q⟩ := hs
    exact fin (v := V.non) (u := Value.none) J rfl q
  | brk =>
    obtain ⟨_, _, _, q⟩ := hs
    exact False.elim q
  | cont =>
    obtain ⟨_, _, _, q⟩ := hs
    exact False.elim q
end
structure FnPD (P : Program) (w : World) (K : PySem.W.Frag) (mg : Str → Option Value) (base : Heap) (k : Nat) (x : Str) (ps : List Str) (sp : Addr × Obj → Sp) : Prop where
  ex : ∃ f fd, mg x = some (.ref f) ∧ PySem.W.keepIn K (.ref f) = true ∧ Binds K fd ps [] ∧ FnP P w K mg base k f fd ps sp
theorem FnPD.of {P : Program} {w : World} {K : PySem.W.Frag} {mg : Str → Option Value} {base : Heap} {x qual : Str} {st : Stmt} {f : Addr} {fd : FuncData} {ps : List Str} {k : Nat} {sp : Addr × Obj → Sp} (F : Fun K x qual st f fd) (hk : PySem.W.keepIn K (.ref f) = true) (hm : mg x = some (.ref f)) (hb : Binds K fd ps []) (h : FnP P w K mg base k f fd ps sp) : FnPD P w K mg base k x ps sp := ⟨⟨f, fd, hm, hk, hb, h⟩⟩
theorem roomH_suite {k : Nat} {X : Cx} {a : Addr} {pn : List (Addr × Obj)} (h : Room k X.A) : L2H.RoomH k (X.suite a pn).A := ⟨h.dp, h.un⟩
section
variable {X : Cx} {E : Env'} {e : Expr} {es : List Expr} {p pos : Pos} {x : Str} {d : PyData} {Rs : List RP} {pt : Addr × Obj}
theorem g_callP {k : Nat} {ps : List Str} {q : Addr × Obj → List RP → PyData → Prop} (C : FnPD X.prog X.w X.K X.mg X.base k x ps (spP X.K q)) (hr : L2H.RoomH k X.A) (hp : pt ∈ X.pn) (ha : GA X (e :: es) E Rs) (hq : q pt Rs d) (hg : Gl X x := by rfl) (hdb : (x == ("__debug__" : Str)) = false := by decide)
    (he : starEach (e :: es) X.env = (false, eval e X.env) :: starEach es X.env := by rfl) (hpl : (backTo pos (starEach es X.env)).any (·.1) = false := by rfl) : GE X (.Call (.Name x p) (e :: es) [] pos) E (DD X.K d) := by
  obtain ⟨f, fd, hm, hk, hb, F⟩ := C.ex
  refine ⟨⟨fun pins s σ H Q I h => ?_⟩, DD.mo⟩
  obtain ⟨F0, r0, x0, kk⟩ := h
  refine wpAny_Call_Name_kw (ld_glob I hg hm ?_ hdb)
  refine PySem.W.callWith_K (h₀ := X.base) I.ok.mod.kin hk (thn (ha.pa.run pos pins s σ H (fun vs H1 => ∃ F1, Ext F0 H F1 H1 ∧ All2 F1 Rs vs) I ⟨F0, r0, x0, fun vs F1 H1 e1 r1 => ⟨F1, e1, r1⟩⟩) fun us s1 ⟨vs, H1, I1, r, F1, e1, r1⟩ => ⟨I1.kIn, ?_⟩) he hpl
  have hsp : spP X.K q pt vs H1 Q (fun _ _ _ => False) := ⟨F1, Rs, d, e1.fh, r1, hq, fun v F2 H2 e2 r2 => kk v F2 H2 (e1.trans e2) r2⟩
  have hl : us.length = ps.length := by rw [← r.length]; exact F.len _ _ _ _ _ hsp
  have b := hb s1 us I1.kIn (by rw [List.append_nil]; exact hl)
  rw [List.append_nil] at b
  have P1 := I1.pin pt (List.mem_append_left _ hp)
  have hpin : L2H.PinOk X.stack H1 s1 pt := ⟨P1.1, P1.2.1, fun hm => (List.mem_cons.mp (I1.stkSub pt.1 hm)).elim P1.2.2.1 P1.2.2.2.1, P1.2.2.2.2⟩
  refine wpAny_call (codeAny_mono (F.run X.A X.stack s1 H1 ⟨us, []⟩ us vs Q _ pt hr hpin I1.env0 b r hsp) fun r s' hq => ?_)
  cases r with
  | error e => exact False.elim hq
  | ok fl =>
    cases fl with
    | ret u => exact I1.after hq
    | next => exact False.elim hq
    | brk => exact False.elim hq
    | cont => exact False.elim hq
end
end Z
namespace Z
open PySem PySem.Spec PyProof.Rows L2
variable [Vo]
structure FunM (K : PySem.W.Frag) (x qual : Str) (st : Stmt) (m : Int) (f : Addr) (fd : FuncData) : Prop where
  ex : ∃ (oc : Value) (od : Option Addr) (T : Addr) (kV doc pm : Value) (an : Option Addr) (cdv ct : Value) (osl : Array (Option Value)) (oT : Obj) (t : Tok) (n : Nat),
    fd = PySem.W.fnOf x qual (defArgs st) (defBody st) (defScope st) (.ref T) kV doc pm an cdv ct ∧ K.lookup f = some ⟨oc, od, .func fd, osl⟩ ∧ PySem.W.codeIn K cdv qual = true ∧ K.lookup T = some oT ∧ oT.data = .seq #[.int m t] n
  kp : PySem.W.keepIn K (.ref f) = true
theorem funM_mk {K : PySem.W.Frag} {x qual : Str} {st : Stmt} {m : Int} {f T : Addr} {oc oc2 : Value} {od od2 an : Option Addr} {osl osl2 : Array (Option Value)} {kV doc pm cdv ct : Value} {t : Tok} {n : Nat} (l : K.lookup f = some ⟨oc, od, .func (PySem.W.fnOf x qual (defArgs st) (defBody st) (defScope st) (.ref T) kV doc pm an cdv ct), osl⟩)
    (lT : K.lookup T = some ⟨oc2, od2, .seq #[.int m t] n, osl2⟩) (c : PySem.W.codeIn K cdv qual = true) (k : PySem.W.keepIn K (.ref f) = true) : FunM K x qual st m f (PySem.W.fnOf x qual (defArgs st) (defBody st) (defScope st) (.ref T) kV doc pm an cdv ct) :=
  ⟨⟨oc, od, T, kV, doc, pm, an, cdv, ct, osl, _, t, n, rfl, l, c, lT, rfl⟩, k⟩
section
variable {K : PySem.W.Frag} {x qual : Str} {st : Stmt} {m : Int} {f : Addr} {fd : FuncData} {ps : List Str} {P : Program} {w : World} {mg : Str → Option Value} {base : Heap}
theorem FunM.okX {N : List Str} {k : Nat} {sp : Sp} (F : FunM K x qual st m f fd) (S : FnScope N ps (defScope st)) (len : ∀ vs H Q E, sp vs H Q E → vs.length = ps.length)
    (hbody : ∀ (cdv : Value) (A : Around) (outer : List Env) (s : Shared) (H : Hp) (vs : List V) (Q : VK) (E : XK), Room k (A.deeper (envOfC qual (defScope st) s.heap.objs.size f cdv)) → sp vs H Q E →
      ∃ t, PSs (cxOf (L2.CX P w) P w K mg base N qual (defScope st) f cdv A outer s H E) (defBody st) t ∧ t { nx := fun _ H' => Q .non H', rt := Q } (L2.start N vs) H) : FnOk P w K mg base (L2.CX P w) (k + 1) f fd ps sp := by
  obtain ⟨oc, od, T, kV, doc, pm, an, cdv, ct, osl, oT, t, n, rfl, lk, hcd, _⟩ := F.ex
  exact fn_of lk hcd S len fun A outer s H vs Q E hr hsp => hbody cdv A outer s H vs Q E hr hsp
theorem FunM.ok {N : List Str} {k : Nat} {sp : Sp} (F : FunM K x qual st m f fd) (S : FnScope N ps (defScope st)) (len : ∀ vs H Q E, sp vs H Q E → vs.length = ps.length)
    (hbody : ∀ (cdv : Value) (A : Around) (outer : List Env) (s : Shared) (H : Hp) (vs : List V) (Q : VK) (E : XK), Room k (A.deeper (envOfC qual (defScope st) s.heap.objs.size f cdv)) → sp vs H Q E →
      ∃ t, PSs (cxOf CX0 P w K mg base N qual (defScope st) f cdv A outer s H E).nox (defBody st) t ∧ t { nx := fun _ H' => Q .non H', rt := Q } (L2.start N vs) H) : FnOk P w K mg base CX0 (k + 1) f fd ps sp := by
  obtain ⟨oc, od, T, kV, doc, pm, an, cdv, ct, osl, oT, t, n, rfl, lk, hcd, _⟩ := F.ex
  refine fn_of lk hcd S len fun A outer s H vs Q E hr hsp => ?_
  obtain ⟨t, h, q⟩ := hbody cdv A outer s H vs Q E hr hsp
  exact ⟨t, h.nox, q⟩
theorem FunM.binds (F : FunM K x qual st m f fd)
    (h : ∀ (T : Addr) (kV doc pm : Value) (an : Option Addr) (cdv ct d : Value) (us : List Value), us.length + 1 = ps.length → ∃ k, bindArgs (PySem.W.fnOf x qual (defArgs st) (defBody st) (defScope st) (.ref T) kV doc pm an cdv ct) ⟨us, []⟩ = seqItems? (.ref T) >>= k ∧ k (some #[d]) = pure (ps.zip (us ++ [d]))) : ∃ t, Binds K fd ps [.int m t] := by
  obtain ⟨oc, od, T, kV, doc, pm, an, cdv, ct, osl, oT, t, n, rfl, lk, hcd, lT, oD⟩ := F.ex
  refine ⟨t, fun s us X hlen => ?_⟩
  rw [List.length_append] at hlen
  obtain ⟨k, e1, e2⟩ := h T kV doc pm an cdv ct (.int m t) us hlen
  refine BindsTo.of_looks fun M => ?_
  rw [e1]
  exact looks_items X lT oD (.of_pure e2)
theorem FunM.kbinds (F : FunM K x qual st m f fd) (nm : Str) (n0 : Nat)
    (h : ∀ (T : Addr) (kV doc pm : Value) (an : Option Addr) (cdv ct d v : Value) (us : List Value), us.length = n0 → ∃ k, bindArgs (PySem.W.fnOf x qual (defArgs st) (defBody st) (defScope st) (.ref T) kV doc pm an cdv ct) ⟨us, [(nm, v)]⟩ = seqItems? (.ref T) >>= k ∧ k (some #[d]) = pure (ps.zip (us ++ [v]))) : KBn K fd ps n0 [nm] (fun us ws => us ++ ws) (fun us ws => us ++ ws) := by
  obtain ⟨oc, od, T, kV, doc, pm, an, cdv, ct, osl, oT, t, n, rfl, lk, hcd, lT, oD⟩ := F.ex
  refine ⟨fun s us ws X l1 l2 => ?_, fun r1 r2 => r1.append r2⟩
  obtain ⟨v, rfl⟩ : ∃ v, ws = [v] := by
    match ws, l2 with
    | [v], _ => exact ⟨v, rfl⟩
  obtain ⟨k, e1, e2⟩ := h T kV doc pm an cdv ct (.int m t) v us l1
  refine BindsTo.of_looks fun M => ?_
  show PySem.W.Looks M s.heap (bindArgs _ ⟨us, [(nm, v)]⟩) _
  rw [e1]
  exact looks_items X lT oD (.of_pure e2)
theorem fn_GM {N : List Str} {k : Nat} {q : List RP → PyData → Prop} (F : FunM K x qual st m f fd) (S : FnScope N ps (defScope st)) (len : ∀ Rs d, q Rs d → Rs.length = ps.length)
    (hb : ∀ (cdv : Value) (A : Around) (outer : List Env) (s : Shared) (H F0 : Hp) (E : XK), Room k (cxN P w K mg base N qual st f cdv A outer s H E).A → ∀ Rs d, q Rs d → WS ⟨cxN P w K mg base N qual st f cdv A outer s H E, F0, H, [], WN⟩ (defBody st) (entG N.length Rs) [] (Rts K d)) :
    FnOk P w K mg base CX0 (k + 1) f fd ps (spG K q) := by
  refine F.ok S (fun vs H Q E ⟨F, Rs, d, _, h, hq, _⟩ => h.len.trans (len Rs d hq)) (fun cdv A outer s H vs Q E hr ⟨F0, Rs, d, ex, h, hq, kk⟩ => ⟨_, w_can, ?_⟩)
  refine (hb cdv A outer s H F0 E hr Rs d hq).run F0 _ (L2.start N vs) F0 H ⟨fun E' os σ F' H' e r l => ?_, fun R os v F' H' e r l hv => ?_, fun E' os σ F' H' z => z.elim, fun E' os σ F' H' z => z.elim, fun _ _ _ _ _ _ _ _ z => z.elim⟩ ⟨⟨⟨fun _ _ q => q, ex, fun a o _ _ q => q, fun a o q _ => q, fun a q => nomatch q⟩, List.nodup_nil, fun p hp => nomatch hp⟩, rep_startG h⟩ (fun _ _ q => q)
  · have e' : d = .none := e
    subst e'
    exact kk _ F' H' ⟨r.o.fm.ff, r.o.fm.fh, fun a o n q => r.o.fm.hh a o (by simp) n q, r.o.fm.nf⟩ .non
  · exact kk v F' H' ⟨r.fm.ff, r.fm.fh, fun a o n q => r.fm.hh a o (by simp) n q, r.fm.nf⟩ (e F' v hv)
theorem fn_OM {N : List Str} {k : Nat} {q : List RP → Oc → Prop} (F : FunM K x qual st m f fd) (S : FnScope N ps (defScope st)) (len : ∀ Rs d, q Rs d → Rs.length = ps.length)
    (hb : ∀ (cdv : Value) (A : Around) (outer : List Env) (s : Shared) (H F0 : Hp) (E : XK), Room k (cxX P w K mg base N qual st f cdv A outer s H E).A → Takes (cxX P w K mg base N qual st f cdv A outer s H E) (WQ E) → ∀ Rs oc, q Rs oc → WS ⟨cxX P w K mg base N qual st f cdv A outer s H E, F0, H, [], WQ E⟩ (defBody st) (entG N.length Rs) [] (OcD K oc)) :
    FnOk P w K mg base (L2.CX P w) (k + 1) f fd ps (spO K q) := by
  refine F.okX S (fun vs H Q E ⟨F, Rs, oc, _, h, hq, _⟩ => h.len.trans (len Rs oc hq)) (fun cdv A outer s H vs Q E hr ⟨F0, Rs, oc, ex, h, hq, kv, kx⟩ => ⟨_, w_can, ?_⟩)
  refine (hb cdv A outer s H F0 E hr (takes_of rfl rfl rfl rfl) Rs oc hq).run F0 _ (L2.start N vs) F0 H ⟨fun E' os σ F' H' e r l => ?_, fun R os v F' H' e r l hv => ?_, fun E' os σ F' H' z => z.elim, fun E' os σ F' H' z => z.elim, fun c p E' os σ F' H' d e r l hp => ?_⟩ ⟨⟨⟨fun _ _ q => q, ex, fun a o _ _ q => q, fun a o q _ => q, fun a q => nomatch q⟩, List.nodup_nil, fun p hp => nomatch hp⟩, rep_startG h⟩ (fun _ _ q => q)
  · have e' : oc = .ret .none := e
    subst e'
    exact kv _ F' H' ⟨r.o.fm.ff, r.o.fm.fh, fun a o n q => r.o.fm.hh a o (by simp) n q, r.o.fm.nf⟩ .non
  · exact kv v F' H' ⟨r.fm.ff, r.fm.fh, fun a o n q => r.fm.hh a o (by simp) n q, r.fm.nf⟩ (e F' v hv)
  · exact kx c d F' H' ⟨r.o.fm.ff, r.o.fm.fh, fun a o n q => r.o.fm.hh a o (by simp) n q, r.o.fm.nf⟩ (e F' d hp)
end
structure FnED (P : Program) (w : World) (K : PySem.W.Frag) (mg : Str → Option Value) (base : Heap) (k : Nat) (x : Str) (ps : List Str) (m : Int) (sp : Sp) : Prop where
  ex : ∃ f fd t, mg x = some (.ref f) ∧ PySem.W.keepIn K (.ref f) = true ∧ Binds K fd ps [.int m t] ∧ FnOk P w K mg base (L2.CX P w) k f fd ps sp
structure FnDK (P : Program) (w : World) (K : PySem.W.Frag) (mg : Str → Option Value) (base : Heap) (k : Nat) (x nm : Str) (n : Nat) (ps : List Str) (sp : Sp) : Prop where
  ex : ∃ f fd, mg x = some (.ref f) ∧ PySem.W.keepIn K (.ref f) = true ∧ KBn K fd ps n [nm] (fun us ws => us ++ ws) (fun us ws => us ++ ws) ∧ FnOk P w K mg base CX0 k f fd ps sp
theorem all2_app {F : Hp} : ∀ {Rs Ss : List RP} {vs us : List V}, All2 F Rs vs → All2 F Ss us → All2 F (Rs ++ Ss) (vs ++ us)
  | [], _, _, _, .nil, h => h
  | _ :: _, _, _, _, .cons m r t, h => .cons m r (all2_app t h)
section
variable {X : Cx} {E : Env'} {R : RP} {e e2 : Expr} {es : List Expr} {p pos kp : Pos} {x nm : Str} {d : PyData} {Rs : List RP}
theorem g_callK {k : Nat} {ps : List Str} {q : List RP → PyData → Prop} (C : FnDK X.prog X.w X.K X.mg X.base k x nm (e :: es).length ps (spG X.K q)) (hr : Room k X.A) (ha : GA X (e :: es) E Rs) (h2 : GE X e2 E R) (hq : q (Rs ++ [R]) d) (hg : Gl X x := by rfl) (hdb : (x == ("__debug__" : Str)) = false := by decide)
    (hall : (backToKw pos (keywordEach [⟨some nm, e2, kp⟩] X.env)).all (·.1.isSome) = true := by rfl) (hks : (backToKw pos (keywordEach [⟨some nm, e2, kp⟩] X.env)).filterMap (·.1) = [nm] := by rfl)
    (he : starEach (e :: es) X.env = (false, eval e X.env) :: starEach es X.env := by rfl)
    (hpl : ((backTo pos (starEach (e :: es) X.env)).any (·.1) || (backToKw pos (keywordEach [⟨some nm, e2, kp⟩] X.env)).any (·.1.isNone)) = false := by rfl) (hlen : Rs.length = (e :: es).length := by rfl) : GE X (.Call (.Name x p) (e :: es) [⟨some nm, e2, kp⟩] pos) E (DD X.K d) := by
  obtain ⟨f, fd, hm, hk, hb, F⟩ := C.ex
  refine ⟨pe_imp (pe_callN F hr hg hm hk hb pass0 ha.pa (pk_cons h2.pe pk_nil) hall hks hdb he hpl) fun σ H Q ⟨F0, r, x, kk⟩ => ?_, DD.mo⟩
  refine ⟨F0, r, x, fun vs F1 H1 e1 r1 => ?_⟩
  refine ⟨F1, r.mono e1.ff, e1.fh, fun v F2 H2 e2 r2 => ?_⟩
  refine ⟨r1.len.trans hlen, rfl, F2, Rs ++ [R], d, e2.fh, all2_app (r1.mono e2.ff) (.cons h2.mo r2 .nil), hq, fun v F3 H3 e3 r3 => kk v F3 H3 ((e1.trans e2).trans e3) r3⟩
end
section
variable {B : Bk} {E : Env'} {os : OS} {rest : List Stmt} {P : DE} {pos p : Pos} {e : Expr} {es : List Expr} {x y : Str} {R : RP} {Rs : List RP} {oc : Oc} {m : Int}
theorem ws_setOM (i : Nat) {pos' : Pos} {k : Nat} {ps : List Str} {q : List RP → Oc → Prop} (hN : B.X.N.Nodup) (hi : B.X.N[i]? = some y) (hy : Loc B.X.env.scope y) (C : FnED B.X.prog B.X.w B.X.K B.X.mg B.X.base k x ps m (spO B.X.K q)) (tk : Takes B.X B.W) (hr : Room k B.X.A) (ha : GA B.X (e :: es) E Rs) (hq : q (Rs ++ [DD B.X.K (.int m)]) oc)
    (kr : ∀ d, oc = .ret d → WS B rest (E.set i (some (DD B.X.K d))) os P) (kx : ∀ c pp, oc = .exc c pp → P.xc c pp E os) (hg : Gl B.X x := by rfl) (hdb : (x == ("__debug__" : Str)) = false := by decide)
    (he : starEach (e :: es) B.X.env = (false, eval e B.X.env) :: starEach es B.X.env := by rfl) (hpl : (backTo p (starEach es B.X.env)).any (·.1) = false := by rfl)
    (hf : B.X.fn y = true ∨ B.X.env.scope.names.lookup y = some .local := by first | exact .inl rfl | exact .inr rfl | assumption) {pos2 : Pos} (hs2 : swapsWith (.Call (.Name x pos) (e :: es) [] p) (some (.Name y pos')) pos2.line B.X.env = pure false := by rfl) :
    WS B (.Assign [.Name y pos'] (.Call (.Name x pos) (e :: es) [] p) pos2 :: rest) E os P := by
  obtain ⟨f, fd, t, hm, hk, hb, F⟩ := C.ex
  refine ws_of (ps_set hN hi hy (pe_callSD (dvs := [V.int m]) F hr hg hm hk hb (.cons ⟨t, rfl⟩ .nil) (fun σ => passAt tk σ) ha.pa hdb he hpl) hs2 hf) fun L D σ F H m' r l => ?_
  refine ⟨F, r.e, r.o.fm.fh, fun vs F1 H1 e1 r1 => ⟨F1, Rs ++ [DD B.X.K (.int m)], oc, e1.fh, all2_app r1 (.cons DD.mo (.int m) .nil), hq, fun v F2 H2 e2 hv => ?_, fun c dd F2 H2 e2 hx => ?_⟩⟩
  · cases oc with
    | ret d =>
      have e12 := e1.trans e2
      exact (kr d rfl).run L D _ F2 H2 m' ⟨r.o.ext e12, (r.e.mono e12.ff).set DD.mo hv⟩ (Ex.tr l e12.ff)
    | exc c pp => exact hv.elim
  · cases oc with
    | ret d => exact hx.elim
    | exc c0 pp =>
      obtain ⟨rfl, hp⟩ := hx
      have e12 := e1.trans e2
      exact m'.xc c pp E os σ F2 H2 dd (kx c pp rfl) (r.ext e12) (Ex.tr l e12.ff) hp
end
end Z
namespace Z
open PySem PySem.Spec PyProof.Rows L2
variable [Vo]
section
variable {K : PySem.W.Frag} {x qual : Str} {st : Stmt} {m : Int} {f : Addr} {fd : FuncData} {ps : List Str} {P : Program} {w : World} {mg : Str → Option Value} {base : Heap}
theorem fn_NM {N : List Str} {k : Nat} {q : List RP → List PyData → Prop} (F : FunM K x qual st m f fd) (S : FnScope N ps (defScope st)) (len : ∀ Rs d, q Rs d → Rs.length = ps.length)
    (hb : ∀ (cdv : Value) (A : Around) (outer : List Env) (s : Shared) (H F0 : Hp) (E : XK), Room k (cxN P w K mg base N qual st f cdv A outer s H E).A → ∀ Rs ds, q Rs ds → WS ⟨cxN P w K mg base N qual st f cdv A outer s H E, F0, H, [], WN⟩ (defBody st) (entG N.length Rs) [] (RtsN K ds)) :
    FnOk P w K mg base CX0 (k + 1) f fd ps (spN K q) := by
  refine F.ok S (fun vs H Q E ⟨F, Rs, d, _, h, hq, _⟩ => h.len.trans (len Rs d hq)) (fun cdv A outer s H vs Q E hr ⟨F0, Rs, d, ex, h, hq, kk⟩ => ⟨_, w_can, ?_⟩)
  refine (hb cdv A outer s H F0 E hr Rs d hq).run F0 _ (L2.start N vs) F0 H ⟨fun E' os σ F' H' e r l => e.elim, fun R os v F' H' ⟨l, e1, e2⟩ r l' hv => ?_, fun E' os σ F' H' z => z.elim, fun E' os σ F' H' z => z.elim, fun _ _ _ _ _ _ _ _ z => z.elim⟩ ⟨⟨⟨fun _ _ q => q, ex, fun a o _ _ q => q, fun a o q _ => q, fun a q => nomatch q⟩, List.nodup_nil, fun p hp => nomatch hp⟩, rep_startG h⟩ (fun _ _ q => q)
  cases e1 F' v hv
  obtain ⟨f1, g1, o1, h1, us, rfl, d1⟩ := r.ow _ e2
  refine kk l us F' H' ⟨r.fm.ff, r.fm.fh, fun a o n q => r.fm.hh a o (by simp) n q, r.fm.nf⟩ f1 ?_ h1 d1
  rcases g1 with g1 | g1
  · exact g1
  · cases g1
end
structure FnMD (P : Program) (w : World) (K : PySem.W.Frag) (mg : Str → Option Value) (base : Heap) (k : Nat) (x : Str) (ps : List Str) (m : Int) (sp : Sp) : Prop where
  ex : ∃ f fd t, mg x = some (.ref f) ∧ PySem.W.keepIn K (.ref f) = true ∧ Binds K fd ps [.int m t] ∧ FnOk P w K mg base CX0 k f fd ps sp
section
variable {X : Cx} {E : Env'} {e : Expr} {es : List Expr} {p pos : Pos} {x : Str} {ds : List PyData} {Rs : List RP} {m : Int}
theorem n_callM {k : Nat} {ps : List Str} {q : List RP → List PyData → Prop} (C : FnMD X.prog X.w X.K X.mg X.base k x ps m (spN X.K q)) (hr : Room k X.A) (ha : GA X (e :: es) E Rs) (hq : q (Rs ++ [DD X.K (.int m)]) ds) (hg : Gl X x := by rfl) (hdb : (x == ("__debug__" : Str)) = false := by decide)
    (he : starEach (e :: es) X.env = (false, eval e X.env) :: starEach es X.env := by rfl) (hpl : (backTo pos (starEach es X.env)).any (·.1) = false := by rfl) : GEN X (.Call (.Name x p) (e :: es) [] pos) E ds := by
  obtain ⟨f, fd, t, hm, hk, hb, F⟩ := C.ex
  exact ⟨pe_imp (pe_call (dvs := [V.int m]) F hr hg hm hk hb (.cons ⟨t, rfl⟩ .nil) (pass0 (X := X)) ha.pa hdb he hpl) fun σ H Q ⟨F, r, x, k⟩ => ⟨F, r, x, fun vs F1 H1 e1 r1 => ⟨F1, Rs ++ [DD X.K (.int m)], ds, e1.fh, all2_app r1 (.cons DD.mo (.int m) .nil), hq, fun l us F2 H2 e2 n1 n2 h3 h4 => k l us F2 H2 (e1.trans e2) n1 (e1.hno n2) h3 h4⟩⟩⟩
end
end Z
namespace Z
open PySem PySem.Spec PyProof.Rows L2
theorem cls_of_dict {K : PySem.W.Frag} {D : Addr} (h : PySem.W.hasDictIn K D = true) : (PySem.W.clsIn K D).isSome = true := by
  obtain ⟨cd, hc, _⟩ := PySem.W.any_some h
  rw [hc]; rfl
end Z
namespace Z
open PySem PySem.Spec PyProof.Rows L2
variable [Vo]
def isB (c : Nat) : Bool := c == 32
theorem goes32 : ((mk [32]).cps.contains : Nat → Bool) = isB := by
  funext c
  show (([32] : List Nat).toArray).contains c = (c == 32)
  simp
  by_cases h : c = 32 <;> simp [h]
theorem tw_drop {α : Type} (p : α → Bool) (l : List α) : l.drop (l.takeWhile p).length = l.dropWhile p := by
  have h : (l.takeWhile p ++ l.dropWhile p).drop (l.takeWhile p).length = l.dropWhile p := List.drop_left
  rw [List.takeWhile_append_dropWhile] at h
  exact h
theorem lstrip_mk (l : List Nat) : Txt.lstripChars (mk l) (mk [32]) = mk (l.dropWhile isB) := by
  unfold Txt.lstripChars
  rw [stripBy_eq, goes32]
  refine TL.ext_tl ?_
  rw [TL.tl_strSub]
  show (l.drop (l.takeWhile isB).length).take ((mk l).length - (l.takeWhile isB).length) = l.dropWhile isB
  rw [tw_drop, mk_len]
  refine List.take_of_length_le ?_
  rw [← tw_drop, List.length_drop]
  exact Nat.le_refl _
section
variable {X : Cx} {E : Env'} {o e : Expr} {l : List Nat} {pos p apos cpos : Pos}
theorem g_lstripC (ho : GE X o E (DD X.K (.str (mk l)))) (he : GE X e E (DD X.K (.str (mk [32])))) (hl : l.length ≤ sizeLine) (hs : starEach [e] X.env = (false, eval e X.env) :: starEach [] X.env := by rfl)
    (hp : ∀ {to : TE} {t : TA}, PE X o to → PA X [e] t → PE X (.Call (.Attribute o "lstrip" apos) [e] [] cpos) (tBM X.K "str" (fun x xs H Q => ∃ a b, x = .str a ∧ xs = [.str b] ∧ a.length ≤ sizeLine ∧ Q (.str (Txt.lstripChars a b)) H) to t) := by intro _ _ h1 h2; exact pe_bm PySem.F.plainAttrs_str PySem.F.slot_str_lstrip PySem.F.type_str_lstrip mt_lstripChars h1 h2) :
    GE X (.Call (.Attribute o "lstrip" apos) [e] [] cpos) E (DD X.K (.str (mk (l.dropWhile isB)))) :=
  ⟨pe_imp (hp ho.pe (gad_cons he gad_nil hs).pa) fun σ H Q ⟨F, r, x, q⟩ => ⟨F, r, x, fun v F1 H1 e1 r1 => by
    cases DD.str_inv r1
    refine ⟨(show "str" = "str" from rfl), F1, r.mono e1.ff, e1.fh, fun us F2 H2 e2 r2 => ?_⟩
    obtain ⟨u, rfl, hu⟩ := dpa1 r2
    cases DD.str_inv hu
    refine ⟨_, _, rfl, rfl, by rw [mk_len]; exact hl, ?_⟩
    rw [lstrip_mk]
    exact q _ F2 H2 (e1.trans e2) (.str _)⟩, DD.mo⟩
end
end Z
namespace Z
open PySem PySem.Spec PyProof.Rows L2
def top (i : Nat) : Stmt := PySem.Challenge.pw_longshort_k39_whole_texts_joined.main.body.getD i (.Pass ⟨0, 0, 0, 0⟩)
abbrev st_wall : Stmt := top 0
abbrev st_TooMany_init : Stmt := inClass (top 4) 0
abbrev st_row_weights : Stmt := top 6
abbrev st_weights_of : Stmt := top 7
abbrev st_text_of : Stmt := top 8
abbrev st_divisor : Stmt := top 10
abbrev st_made : Stmt := top 11
abbrev st_times : Stmt := top 12
abbrev st_over : Stmt := top 13
abbrev st_is_less : Stmt := top 14
abbrev st_less_of : Stmt := top 15
abbrev st_greater_of : Stmt := top 16
abbrev st_less_slack : Stmt := top 17
abbrev st_and_slack : Stmt := top 18
abbrev st_bounds_at : Stmt := top 20
abbrev st_Web_init : Stmt := inClass (top 22) 0
abbrev st_Web_begun : Stmt := inClass (top 22) 1
abbrev st_Web_choices : Stmt := inClass (top 22) 2
abbrev st_Web_next_stands : Stmt := inClass (top 22) 3
abbrev st_Web_first : Stmt := inClass (top 22) 4
abbrev st_Web_ways_on : Stmt := inClass (top 22) 5
abbrev st_Web_weights_at : Stmt := inClass (top 22) 6
abbrev st_Web_number_of : Stmt := inClass (top 22) 7
abbrev st_Web_can_be : Stmt := inClass (top 22) 8
abbrev st_readings : Stmt := top 23
abbrev st_number_of : Stmt := top 24
abbrev st_law_cell : Stmt := top 26
abbrev st_law_draws : Stmt := top 27
abbrev st_law_low : Stmt := top 28
abbrev st_law_less : Stmt := top 29
abbrev st_law_book : Stmt := top 30
abbrev st_law_form : Stmt := top 31
abbrev st_law_text : Stmt := top 32
abbrev st_law_weights : Stmt := top 33
abbrev st_law_hand : Stmt := top 34
abbrev st_law_off : Stmt := top 35
abbrev st_law_small : Stmt := top 36
abbrev st_law_told : Stmt := top 37
abbrev st_law_serves : Stmt := top 38
abbrev st_law : Stmt := top 39
end Z
namespace Z
open PySem PySem.Spec PyProof.Rows L2
variable [Vo]
abbrev Fr := Int × Int
abbrev dF (x : Fr) : PyData := .tuple [.int x.1, .int x.2]
def madeM (a b : Int) : Fr := (a / (Int.gcd a b : Nat), b / (Int.gcd a b : Nat))
def timesM (x y : Fr) : Fr := madeM (x.1 * y.1) (x.2 * y.2)
def overM (x y : Fr) : Fr := madeM (x.1 * y.2) (x.2 * y.1)
def lessM (x y : Fr) : Bool := decide (x.1 * y.2 < y.1 * x.2)
structure Sz (n : Nat) (x : Fr) : Prop where
  t : x.1.natAbs < 2 ^ n
  p : 0 < x.2
  b : x.2.natAbs < 2 ^ n
theorem Sz.pos {n : Nat} {x : Fr} (h : Sz n x) : 0 < n := by
  have h1 := h.p; have h2 := h.b
  rcases Nat.eq_zero_or_pos n with e | e
  · subst e
    have : (2 : Nat) ^ 0 = 1 := rfl
    omega
  · exact e
theorem Sz.mono {m n : Nat} {x : Fr} (h : Sz m x) (q : m ≤ n) : Sz n x :=
  have e : 2 ^ m ≤ 2 ^ n := Nat.pow_le_pow_right (by decide) q
  ⟨Nat.lt_of_lt_of_le h.t e, h.p, Nat.lt_of_lt_of_le h.b e⟩
theorem gcd_posR {a b : Int} (h : 0 < b) : 0 < ((Int.gcd a b : Nat) : Int) := by
  have := Int.gcd_pos_of_ne_zero_right a (show b ≠ 0 by omega)
  omega
theorem div_abs {a g : Int} (h : 0 < g) : (a / g).natAbs ≤ a.natAbs := Int.natAbs_ediv_le_natAbs a g
theorem made_bot {a b : Int} (h : 0 < b) : 0 < b / ((Int.gcd a b : Nat) : Int) := by
  have hg := gcd_posR (a := a) h
  have hd : ((Int.gcd a b : Nat) : Int) ∣ b := Int.gcd_dvd_right a b
  obtain ⟨c, hc⟩ := hd
  have : b / ((Int.gcd a b : Nat) : Int) = c := by
    rw [show b / ((Int.gcd a b : Nat) : Int) = (((Int.gcd a b : Nat) : Int) * c) / ((Int.gcd a b : Nat) : Int) by rw [← hc]]
    exact Int.mul_ediv_cancel_left c (by omega)
  rw [this]
  rcases (show 0 < c ∨ c ≤ 0 by omega) with q | q
  · exact q
  · have := Int.mul_nonneg (show (0:Int) ≤ ((Int.gcd a b : Nat) : Int) by omega) (show 0 ≤ -c by omega)
    rw [Int.mul_neg] at this
    omega
theorem madeM_sz {a b : Int} {n : Nat} (h1 : a.natAbs < 2 ^ n) (h2 : 0 < b) (h3 : b.natAbs < 2 ^ n) : Sz n (madeM a b) :=
  ⟨Nat.lt_of_le_of_lt (div_abs (gcd_posR h2)) h1, made_bot h2, Nat.lt_of_le_of_lt (div_abs (gcd_posR h2)) h3⟩
theorem timesM_sz {m n : Nat} {x y : Fr} (hx : Sz m x) (hy : Sz n y) : Sz (m + n) (timesM x y) :=
  madeM_sz (wide_lt hx.t hy.t) (Int.mul_pos hx.p hy.p) (wide_lt hx.b hy.b)
theorem overM_sz {m n : Nat} {x y : Fr} (hx : Sz m x) (hy : Sz n y) (h : 0 < y.1) : Sz (m + n) (overM x y) :=
  madeM_sz (wide_lt hx.t hy.b) (Int.mul_pos hx.p h) (wide_lt hx.b hy.t)
theorem gcd_step {x y : Int} (hx : 0 ≤ x) (hy : 0 < y) : Int.gcd y (x % y) = Int.gcd x y := by
  have e : x = ((x.toNat : Nat) : Int) := by omega
  have e2 : y = ((y.toNat : Nat) : Int) := by omega
  rw [e, e2, ← Int.natCast_emod, Int.gcd_natCast_natCast, Int.gcd_natCast_natCast, Nat.gcd_comm, ← Nat.gcd_rec, Nat.gcd_comm]
theorem mulW {m n : Nat} {a b : Int} (ha : a.natAbs < 2 ^ m) (hb : b.natAbs < 2 ^ n) (hm : 0 < m) (hn : 0 < n) (h : m + n ≤ 1000000 := by omega) : CMulW a b := wide_mul ha hb hm hn h
section
variable {P : Program} {w : World} {K : PySem.W.Frag} {mg : Str → Option Value} {base : Heap}
abbrev N_divisor : List Str := ["one", "other"]
theorem sc_divisor : FnScope N_divisor ["one", "other"] (defScope st_divisor) := ⟨rfl, rfl, rfl, by decide +kernel, rfl, by decide +kernel, by decide +kernel⟩
def q_divisor (K : PySem.W.Frag) (Rs : List RP) (d : PyData) : Prop := ∃ a b : Int, 0 ≤ b ∧ Rs = [DD K (.int a), DD K (.int b)] ∧ d = .int (Int.gcd a b : Nat)
theorem i_divisor {a b : Int} (h : 0 ≤ b) : q_divisor K [DD K (.int a), DD K (.int b)] (.int (Int.gcd a b : Nat)) := ⟨a, b, h, rfl, rfl⟩
theorem ok_divisor {f : Addr} {fd : FuncData} (F : Fun K "divisor" "divisor" st_divisor f fd) (Bn : Bn mg) : FnOk P w K mg base CX0 1 f fd ["one", "other"] (spG K (q_divisor K)) := by
  refine fn_G F sc_divisor (fun Rs d h => by obtain ⟨a, b, _, rfl, _⟩ := h; rfl) (fun cdv A outer s H F0 E hr Rs d hq => ?_)
  obtain ⟨a, b, hb, rfl, rfl⟩ := hq
  refine ws_set 0 sc_divisor.nd rfl (.inl rfl) (g_abs Bn (gv 0)) ?_
  refine ws_while (W := fun m E os => ∃ x y : Int, 0 ≤ x ∧ 0 ≤ y ∧ y.toNat = m ∧ Int.gcd x y = Int.gcd a b ∧ E = [some (DD K (.int x)), some (DD K (.int y))] ∧ os = []) (m0 := b.toNat) PassesOwn.never ⟨if a < 0 then -a else a, b, by split <;> omega, hb, rfl, by split <;> simp, rfl, rfl⟩ ?_
  rintro m E os ⟨x, y, hx, hy, hm, hg, rfl, rfl⟩
  refine ⟨_, _, _, Vw.refl, gb_cm (gv 1) c_neI g_int, fun h => ?_, fun h => ?_⟩
  · have hy' : 0 < y := by
      have : ¬ y = 0 := by simpa using h
      omega
    refine ws_par 0 1 rfl sc_divisor.nd rfl rfl (by decide) rfl rfl (gad_cons (gv 1) (gad_cons (g_mod (gv 0) (gv 1) hy') gad_nil)) ?_ (by rfl)
    refine ws_nil ⟨(x % y).toNat, ?_, y, x % y, by omega, Int.emod_nonneg _ (by omega), rfl, (gcd_step hx hy').trans hg, rfl, rfl⟩
    have := Int.emod_lt_of_pos x hy'
    have := Int.emod_nonneg x (show y ≠ 0 by omega)
    omega
  · have hy0 : y = 0 := by simpa using h
    subst hy0
    refine ws_ret (gv 0) (fun F v h => ?_)
    have e : x = ((Int.gcd a b : Nat) : Int) := by rw [← hg, Int.gcd_zero_right]; omega
    rw [← e]; exact h
abbrev N_made : List Str := ["top", "bottom", "by"]
theorem sc_made : FnScope N_made ["top", "bottom"] (defScope st_made) := ⟨rfl, rfl, rfl, by decide +kernel, rfl, by decide +kernel, by decide +kernel⟩
def q_made (K : PySem.W.Frag) (Rs : List RP) (d : PyData) : Prop := ∃ a b : Int, 0 < b ∧ b.natAbs < 2 ^ 8999 ∧ Rs = [DD K (.int a), DD K (.int b)] ∧ d = dF (madeM a b)
theorem i_made {a b : Int} (h : 0 < b) (h2 : b.natAbs < 2 ^ 8999) : q_made K [DD K (.int a), DD K (.int b)] (dF (madeM a b)) := ⟨a, b, h, h2, rfl, rfl⟩
theorem gcd_div {a b : Int} (hb : 0 < b) (hb2 : b.natAbs < 2 ^ 8999) : CDivW a (Int.gcd a b : Nat) ∧ CDivW b (Int.gcd a b : Nat) := by
  have hg : 0 < ((Int.gcd a b : Nat) : Int) := gcd_posR hb
  have h1 : ((Int.gcd a b : Nat) : Int).natAbs < 2 ^ 8999 := by
    have : Int.gcd a b ≤ b.natAbs := Nat.le_of_dvd (by omega) (Int.gcd_dvd_natAbs_right a b)
    omega
  exact ⟨wide_div hg h1 (by decide) (by decide), wide_div hg h1 (by decide) (by decide)⟩
theorem ok_made {f : Addr} {fd : FuncData} (F : Fun K "made" "made" st_made f fd) (C_divisor : FnD P w K mg base 1 "divisor" ["one", "other"] (spG K (q_divisor K))) : FnOk P w K mg base CX0 2 f fd ["top", "bottom"] (spG K (q_made K)) := by
  refine fn_G F sc_made (fun Rs d h => by obtain ⟨a, b, _, _, rfl, _⟩ := h; rfl) (fun cdv A outer s H F0 E hr Rs d hq => ?_)
  obtain ⟨a, b, hb, hb2, rfl, rfl⟩ := hq
  have hg2 := gcd_div (a := a) hb hb2
  refine ws_set 2 sc_made.nd rfl (.inl rfl) (g_callG C_divisor (hr.mono (by decide)) (ga_cons (gv 0) (ga_cons (gv 1) ga_nil)) (i_divisor (by omega))) ?_
  refine ws_ret (gt_tup (gad_cons (g_divW (gv 0) (gv 2) hg2.1) (gad_cons (g_divW (gv 1) (gv 2) hg2.2) gad_nil))) (fun F v h => h)
abbrev N_xy : List Str := ["one", "other"]
def q_times (K : PySem.W.Frag) (Rs : List RP) (d : PyData) : Prop := ∃ (m n : Nat) (x y : Fr), Sz m x ∧ Sz n y ∧ m + n ≤ 8999 ∧ Rs = [DD K (dF x), DD K (dF y)] ∧ d = dF (timesM x y)
def q_over (K : PySem.W.Frag) (Rs : List RP) (d : PyData) : Prop := ∃ (m n : Nat) (x y : Fr), Sz m x ∧ Sz n y ∧ 0 < y.1 ∧ m + n ≤ 8999 ∧ Rs = [DD K (dF x), DD K (dF y)] ∧ d = dF (overM x y)
def q_less (K : PySem.W.Frag) (Rs : List RP) (d : PyData) : Prop := ∃ (m n : Nat) (x y : Fr), Sz m x ∧ Sz n y ∧ m + n ≤ 100000 ∧ Rs = [DD K (dF x), DD K (dF y)] ∧ d = .bool (lessM x y)
def q_lessof (K : PySem.W.Frag) (Rs : List RP) (d : PyData) : Prop := ∃ (m n : Nat) (x y : Fr), Sz m x ∧ Sz n y ∧ m + n ≤ 100000 ∧ Rs = [DD K (dF x), DD K (dF y)] ∧ d = dF (if lessM y x then y else x)
def q_greaterof (K : PySem.W.Frag) (Rs : List RP) (d : PyData) : Prop := ∃ (m n : Nat) (x y : Fr), Sz m x ∧ Sz n y ∧ m + n ≤ 100000 ∧ Rs = [DD K (dF x), DD K (dF y)] ∧ d = dF (if lessM x y then y else x)
section
variable {m n : Nat} {x y : Fr}
theorem i_times (hx : Sz m x) (hy : Sz n y) (h : m + n ≤ 8999 := by omega) : q_times K [DD K (dF x), DD K (dF y)] (dF (timesM x y)) := ⟨m, n, x, y, hx, hy, h, rfl, rfl⟩
theorem i_over (hx : Sz m x) (hy : Sz n y) (hp : 0 < y.1) (h : m + n ≤ 8999 := by omega) : q_over K [DD K (dF x), DD K (dF y)] (dF (overM x y)) := ⟨m, n, x, y, hx, hy, hp, h, rfl, rfl⟩
theorem i_less (hx : Sz m x) (hy : Sz n y) (h : m + n ≤ 100000 := by omega) : q_less K [DD K (dF x), DD K (dF y)] (.bool (lessM x y)) := ⟨m, n, x, y, hx, hy, h, rfl, rfl⟩
theorem i_lessof (hx : Sz m x) (hy : Sz n y) (h : m + n ≤ 100000 := by omega) : q_lessof K [DD K (dF x), DD K (dF y)] (dF (if lessM y x then y else x)) := ⟨m, n, x, y, hx, hy, h, rfl, rfl⟩
theorem i_greaterof (hx : Sz m x) (hy : Sz n y) (h : m + n ≤ 100000 := by omega) : q_greaterof K [DD K (dF x), DD K (dF y)] (dF (if lessM x y then y else x)) := ⟨m, n, x, y, hx, hy, h, rfl, rfl⟩
end
theorem sc_times : FnScope N_xy ["one", "other"] (defScope st_times) := ⟨rfl, rfl, rfl, by decide +kernel, rfl, by decide +kernel, by decide +kernel⟩
theorem sc_over : FnScope N_xy ["one", "other"] (defScope st_over) := ⟨rfl, rfl, rfl, by decide +kernel, rfl, by decide +kernel, by decide +kernel⟩
theorem sc_is_less : FnScope N_xy ["one", "other"] (defScope st_is_less) := ⟨rfl, rfl, rfl, by decide +kernel, rfl, by decide +kernel, by decide +kernel⟩
theorem sc_less_of : FnScope N_xy ["one", "other"] (defScope st_less_of) := ⟨rfl, rfl, rfl, by decide +kernel, rfl, by decide +kernel, by decide +kernel⟩
theorem sc_greater_of : FnScope N_xy ["one", "other"] (defScope st_greater_of) := ⟨rfl, rfl, rfl, by decide +kernel, rfl, by decide +kernel, by decide +kernel⟩
theorem ok_times {f : Addr} {fd : FuncData} (F : Fun K "times" "times" st_times f fd) (C_made : FnD P w K mg base 2 "made" ["top", "bottom"] (spG K (q_made K))) : FnOk P w K mg base CX0 3 f fd ["one", "other"] (spG K (q_times K)) := by
  refine fn_G F sc_times (fun Rs d h => by obtain ⟨_, _, _, _, _, _, _, rfl, _⟩ := h; rfl) (fun cdv A outer s H F0 E hr Rs d hq => ?_)
  obtain ⟨m, n, x, y, hx, hy, h, rfl, rfl⟩ := hq
  have hb : (x.2 * y.2).natAbs < 2 ^ 8999 := Nat.lt_of_lt_of_le (wide_lt hx.b hy.b) (Nat.pow_le_pow_right (by decide) h)
  have pm := hx.pos; have pn := hy.pos
  refine ws_ret (g_callG C_made (hr.mono (by decide)) (ga_cons (g_mulW (g_ixT (gv 0) g_int rfl) (g_ixT (gv 1) g_int rfl) (mulW hx.t hy.t pm pn)) (ga_cons (g_mulW (g_ixT (gv 0) g_int rfl) (g_ixT (gv 1) g_int rfl) (mulW hx.b hy.b pm pn)) ga_nil)) (i_made (Int.mul_pos hx.p hy.p) hb)) (fun F v h => h)
theorem ok_over {f : Addr} {fd : FuncData} (F : Fun K "over" "over" st_over f fd) (C_made : FnD P w K mg base 2 "made" ["top", "bottom"] (spG K (q_made K))) : FnOk P w K mg base CX0 3 f fd ["one", "other"] (spG K (q_over K)) := by
  refine fn_G F sc_over (fun Rs d h => by obtain ⟨_, _, _, _, _, _, _, _, rfl, _⟩ := h; rfl) (fun cdv A outer s H F0 E hr Rs d hq => ?_)
  obtain ⟨m, n, x, y, hx, hy, hp, h, rfl, rfl⟩ := hq
  have hb : (x.2 * y.1).natAbs < 2 ^ 8999 := Nat.lt_of_lt_of_le (wide_lt hx.b hy.t) (Nat.pow_le_pow_right (by decide) h)
  have pm := hx.pos; have pn := hy.pos
  refine ws_ret (g_callG C_made (hr.mono (by decide)) (ga_cons (g_mulW (g_ixT (gv 0) g_int rfl) (g_ixT (gv 1) g_int rfl) (mulW hx.t hy.b pm pn)) (ga_cons (g_mulW (g_ixT (gv 0) g_int rfl) (g_ixT (gv 1) g_int rfl) (mulW hx.b hy.t pm pn)) ga_nil)) (i_made (Int.mul_pos hx.p hp) hb)) (fun F v h => h)
theorem ok_is_less {f : Addr} {fd : FuncData} (F : Fun K "is_less" "is_less" st_is_less f fd) : FnOk P w K mg base CX0 1 f fd ["one", "other"] (spG K (q_less K)) := by
  refine fn_G F sc_is_less (fun Rs d h => by obtain ⟨_, _, _, _, _, _, _, rfl, _⟩ := h; rfl) (fun cdv A outer s H F0 E hr Rs d hq => ?_)
  obtain ⟨m, n, x, y, hx, hy, h, rfl, rfl⟩ := hq
  have pm := hx.pos; have pn := hy.pos
  refine ws_ret (g_cm (g_mulW (g_ixT (gv 0) g_int rfl) (g_ixT (gv 1) g_int rfl) (mulW hx.t hy.b pm pn)) c_lt (g_mulW (g_ixT (gv 1) g_int rfl) (g_ixT (gv 0) g_int rfl) (mulW hy.t hx.b pn pm))) (fun F v h => h)
theorem ok_less_of {f : Addr} {fd : FuncData} (F : Fun K "less_of" "less_of" st_less_of f fd) (C_is_less : FnD P w K mg base 1 "is_less" ["one", "other"] (spG K (q_less K))) : FnOk P w K mg base CX0 2 f fd ["one", "other"] (spG K (q_lessof K)) := by
  refine fn_G F sc_less_of (fun Rs d h => by obtain ⟨_, _, _, _, _, _, _, rfl, _⟩ := h; rfl) (fun cdv A outer s H F0 E hr Rs d hq => ?_)
  obtain ⟨m, n, x, y, hx, hy, h, rfl, rfl⟩ := hq
  refine ws_if Vw.refl (gb_val (g_callG C_is_less (hr.mono (by decide)) (ga_cons (gv 1) (ga_cons (gv 0) ga_nil)) (i_less hy hx))) (fun h => ?_) (fun h => ?_)
  · exact ws_ret (gv 1) (fun F v q => by rw [if_pos h]; exact q)
  · refine ws_nil ?_
    exact ws_ret (gv 0) (fun F v q => by rw [if_neg (by rw [h]; decide)]; exact q)
theorem ok_greater_of {f : Addr} {fd : FuncData} (F : Fun K "greater_of" "greater_of" st_greater_of f fd) (C_is_less : FnD P w K mg base 1 "is_less" ["one", "other"] (spG K (q_less K))) : FnOk P w K mg base CX0 2 f fd ["one", "other"] (spG K (q_greaterof K)) := by
  refine fn_G F sc_greater_of (fun Rs d h => by obtain ⟨_, _, _, _, _, _, _, rfl, _⟩ := h; rfl) (fun cdv A outer s H F0 E hr Rs d hq => ?_)
  obtain ⟨m, n, x, y, hx, hy, h, rfl, rfl⟩ := hq
  refine ws_if Vw.refl (gb_val (g_callG C_is_less (hr.mono (by decide)) (ga_cons (gv 0) (ga_cons (gv 1) ga_nil)) (i_less hx hy))) (fun h => ?_) (fun h => ?_)
  · exact ws_ret (gv 1) (fun F v q => by rw [if_pos h]; exact q)
  · refine ws_nil ?_
    exact ws_ret (gv 0) (fun F v q => by rw [if_neg (by rw [h]; decide)]; exact q)
def q_lslack (K : PySem.W.Frag) (Rs : List RP) (d : PyData) : Prop := ∃ x : Fr, Rs = [DD K (dF x)] ∧ d = dF (x.2 - x.1, x.2)
def q_aslack (K : PySem.W.Frag) (Rs : List RP) (d : PyData) : Prop := ∃ x : Fr, Rs = [DD K (dF x)] ∧ d = dF (x.2 + x.1, x.2)
theorem i_lslack {x : Fr} : q_lslack K [DD K (dF x)] (dF (x.2 - x.1, x.2)) := ⟨x, rfl, rfl⟩
theorem i_aslack {x : Fr} : q_aslack K [DD K (dF x)] (dF (x.2 + x.1, x.2)) := ⟨x, rfl, rfl⟩
abbrev N_slack : List Str := ["slack"]
theorem sc_less_slack : FnScope N_slack ["slack"] (defScope st_less_slack) := ⟨rfl, rfl, rfl, by decide +kernel, rfl, by decide +kernel, by decide +kernel⟩
theorem sc_and_slack : FnScope N_slack ["slack"] (defScope st_and_slack) := ⟨rfl, rfl, rfl, by decide +kernel, rfl, by decide +kernel, by decide +kernel⟩
theorem ok_less_slack {f : Addr} {fd : FuncData} (F : Fun K "less_slack" "less_slack" st_less_slack f fd) : FnOk P w K mg base CX0 1 f fd ["slack"] (spG K (q_lslack K)) := by
  refine fn_G F sc_less_slack (fun Rs d h => by obtain ⟨_, rfl, _⟩ := h; rfl) (fun cdv A outer s H F0 E hr Rs d hq => ?_)
  obtain ⟨x, rfl, rfl⟩ := hq
  exact ws_ret (gt_tup (gad_cons (g_sub (g_ixT (gv 0) g_int rfl) (g_ixT (gv 0) g_int rfl)) (gad_cons (g_ixT (gv 0) g_int rfl) gad_nil))) (fun F v h => h)
theorem ok_and_slack {f : Addr} {fd : FuncData} (F : Fun K "and_slack" "and_slack" st_and_slack f fd) : FnOk P w K mg base CX0 1 f fd ["slack"] (spG K (q_aslack K)) := by
  refine fn_G F sc_and_slack (fun Rs d h => by obtain ⟨_, rfl, _⟩ := h; rfl) (fun cdv A outer s H F0 E hr Rs d hq => ?_)
  obtain ⟨x, rfl, rfl⟩ := hq
  exact ws_ret (gt_tup (gad_cons (g_add (g_ixT (gv 0) g_int rfl) (g_ixT (gv 0) g_int rfl)) (gad_cons (g_ixT (gv 0) g_int rfl) gad_nil))) (fun F v h => h)
end
end Z
namespace Z
open PySem PySem.Spec PyProof.Rows L2
variable [Vo]
structure Rd (x : Fr) : Prop where
  p : 0 < x.2
  g : Int.gcd x.1 x.2 = 1
theorem madeM_mul {a b : Int} : ((Int.gcd a b : Nat) : Int) * (madeM a b).1 = a ∧ ((Int.gcd a b : Nat) : Int) * (madeM a b).2 = b :=
  ⟨Int.mul_ediv_cancel' (Int.gcd_dvd_left a b), Int.mul_ediv_cancel' (Int.gcd_dvd_right a b)⟩
theorem madeM_rd {a b : Int} (h : 0 < b) : Rd (madeM a b) := by
  refine ⟨made_bot h, ?_⟩
  have hg := gcd_posR (a := a) h
  obtain ⟨h1, h2⟩ := madeM_mul (a := a) (b := b)
  have e : Int.gcd (((Int.gcd a b : Nat) : Int) * (madeM a b).1) (((Int.gcd a b : Nat) : Int) * (madeM a b).2) = Int.gcd a b := by rw [h1, h2]
  rw [Int.gcd_mul_left, Int.natAbs_natCast] at e
  have hg' : 0 < Int.gcd a b := by omega
  exact Nat.eq_of_mul_eq_mul_left hg' (by rw [e, Nat.mul_one])
def vl (x : Fr) : Rat := (x.1 : Rat) / (x.2 : Rat)
theorem cast_pos {b : Int} (h : 0 < b) : (0 : Rat) < (b : Rat) := by exact_mod_cast h
theorem cast_ne {b : Int} (h : 0 < b) : (b : Rat) ≠ 0 := fun e => by have := cast_pos h; rw [e] at this; exact absurd this (by decide)
theorem div_lt_iff {a b c d : Rat} (hb : 0 < b) (hd : 0 < d) : a / b < c / d ↔ a * d < c * b := by
  have nb : b ≠ 0 := fun e => by rw [e] at hb; exact absurd hb (by decide)
  have nd : d ≠ 0 := fun e => by rw [e] at hd; exact absurd hd (by decide)
  have e1 : a * d = (a / b) * (b * d) := by grind
  have e2 : c * b = (c / d) * (b * d) := by grind
  rw [e1, e2]
  exact (Rat.mul_lt_mul_right (Rat.mul_pos hb hd)).symm
theorem div_eq_iff {a b c d : Rat} (hb : 0 < b) (hd : 0 < d) : a / b = c / d ↔ a * d = c * b := by
  have nb : b ≠ 0 := fun e => by rw [e] at hb; exact absurd hb (by decide)
  have nd : d ≠ 0 := fun e => by rw [e] at hd; exact absurd hd (by decide)
  constructor
  · intro h; grind
  · intro h; grind
theorem vl_made {a b : Int} (h : 0 < b) : vl (madeM a b) = (a : Rat) / (b : Rat) := by
  obtain ⟨h1, h2⟩ := madeM_mul (a := a) (b := b)
  have hp : 0 < (madeM a b).2 := made_bot (a := a) h
  unfold vl
  rw [div_eq_iff (cast_pos hp) (cast_pos h)]
  have e : (madeM a b).1 * b = a * (madeM a b).2 := by
    rw [← h2]
    have : a = ((Int.gcd a b : Nat) : Int) * (madeM a b).1 := h1.symm
    grind
  exact_mod_cast e
theorem vl_lt {x y : Fr} (hx : 0 < x.2) (hy : 0 < y.2) : lessM x y = true ↔ vl x < vl y := by
  unfold lessM vl
  rw [div_lt_iff (cast_pos hx) (cast_pos hy), decide_eq_true_iff]
  constructor
  · intro h; exact_mod_cast h
  · intro h; exact_mod_cast h
theorem vl_le {x y : Fr} (hx : 0 < x.2) (hy : 0 < y.2) : lessM x y = false ↔ vl y ≤ vl x := by
  rw [← Bool.not_eq_true, vl_lt hx hy, Rat.not_lt]
theorem vl_times {x y : Fr} (hx : 0 < x.2) (hy : 0 < y.2) : vl (timesM x y) = vl x * vl y := by
  unfold timesM
  rw [vl_made (Int.mul_pos hx hy)]
  unfold vl
  have := cast_ne hx; have := cast_ne hy
  rw [Rat.intCast_mul, Rat.intCast_mul]
  grind
theorem vl_over {x y : Fr} (hx : 0 < x.2) (hy : 0 < y.2) (hp : 0 < y.1) : vl (overM x y) = vl x / vl y := by
  unfold overM
  rw [vl_made (Int.mul_pos hx hp)]
  unfold vl
  have := cast_ne hx; have := cast_ne hy; have := cast_ne hp
  rw [Rat.intCast_mul, Rat.intCast_mul]
  grind
theorem dvd_cop {a b c : Int} (h : a ∣ b * c) (g : Int.gcd a b = 1) : a ∣ c := by
  have h1 : a.natAbs ∣ b.natAbs * c.natAbs := by rw [← Int.natAbs_mul]; exact Int.natAbs_dvd_natAbs.mpr h
  exact Int.natAbs_dvd_natAbs.mp (Nat.Coprime.dvd_of_dvd_mul_left g h1)
theorem rd_ext {x y : Fr} (hx : Rd x) (hy : Rd y) (h : vl x = vl y) : x = y := by
  unfold vl at h
  rw [div_eq_iff (cast_pos hx.p) (cast_pos hy.p)] at h
  have e : x.1 * y.2 = y.1 * x.2 := by exact_mod_cast h
  have d1 : x.2 ∣ y.2 := by
    have : x.2 ∣ x.1 * y.2 := ⟨y.1, by rw [e, Int.mul_comm]⟩
    exact dvd_cop this (by rw [Int.gcd_comm]; exact hx.g)
  have d2 : y.2 ∣ x.2 := by
    have : y.2 ∣ y.1 * x.2 := ⟨x.1, by rw [← e, Int.mul_comm]⟩
    exact dvd_cop this (by rw [Int.gcd_comm]; exact hy.g)
  have e2 : x.2 = y.2 := Int.dvd_antisymm (by have := hx.p; omega) (by have := hy.p; omega) d1 d2
  have e1 : x.1 = y.1 := by
    rw [e2] at e
    exact Int.eq_of_mul_eq_mul_right (by have := hy.p; omega) e
  exact Prod.ext e1 e2
theorem timesM_rd {x y : Fr} (hx : 0 < x.2) (hy : 0 < y.2) : Rd (timesM x y) := madeM_rd (Int.mul_pos hx hy)
theorem overM_rd {x y : Fr} (hx : 0 < x.2) (hy : 0 < y.1) : Rd (overM x y) := madeM_rd (Int.mul_pos hx hy)
end Z
namespace Z
open PySem PySem.Spec PyProof.Rows L2
variable [Vo]
def cellM (ns : List Int) (k : Nat) : Int := if k < ns.length then ns.getD k 0 else if ns.length = 0 then 7919 * k + 101 else ns.getD (k % ns.length) 0 % 1000003 + 7919 * k
def PR : List Int := [2147483647, 2147483629, 2147483587, 2147483579, 2147483563, 2147483549, 2147483543, 2147483497]
theorem pr_get {n : Nat} (h : n < 8) : PR[n]? = some (PR.getD n 0) := by
  match n, h with
  | 0, _ => rfl
  | 1, _ => rfl
  | 2, _ => rfl
  | 3, _ => rfl
  | 4, _ => rfl
  | 5, _ => rfl
  | 6, _ => rfl
  | 7, _ => rfl
theorem pr_bd {n : Nat} (h : n < 8) : 0 < PR.getD n 0 ∧ PR.getD n 0 < 2147483648 := by
  match n, h with
  | 0, _ => decide
  | 1, _ => decide
  | 2, _ => decide
  | 3, _ => decide
  | 4, _ => decide
  | 5, _ => decide
  | 6, _ => decide
  | 7, _ => decide
def mash3 (cell : Int) (k j : Nat) : Int := (cell % PR.getD (j % 8) 0 * (48271 + 2 * j * j) + 7919 * (j + 1) * (j + 1) + 104729 * k) % PR.getD ((3 * j + k) % 8) 0
def mashM (cell : Int) (k j : Nat) : Int := mash3 cell k j * mash3 cell k j * mash3 cell k j % PR.getD ((j + 5) % 8) 0
def rest0 (cell : Int) : Int := if cell ≥ 1000000000000000000 then cell else 0
def restM (cell base : Int) : Nat → Int
  | 0 => rest0 cell
  | j + 1 => restM cell base j / base
def drawM (cell : Int) (k : Nat) (base : Int) (j : Nat) : Int := (if 0 < restM cell base j then restM cell base j else mashM cell k j) % base
def drawsM (ns : List Int) (k many : Nat) (base : Int) : List Int := (List.range many).map (drawM (cellM ns k) k base)
theorem drawsM_len {ns : List Int} {k many : Nat} {base : Int} : (drawsM ns k many base).length = many := by unfold drawsM; rw [List.length_map, List.length_range]
theorem drawsM_bd {ns : List Int} {k many : Nat} {base : Int} (h : 0 < base) : ∀ x, x ∈ drawsM ns k many base → 0 ≤ x ∧ x < base := fun x hx => by
  obtain ⟨j, _, rfl⟩ := List.mem_map.mp hx
  exact ⟨Int.emod_nonneg _ (by omega), Int.emod_lt_of_pos _ h⟩
def dr (xs : List Int) (n : Nat) : Int := xs.getD n 0
theorem dr_get {xs : List Int} {n : Nat} (h : n < xs.length) : xs[n]? = some (dr xs n) := by unfold dr; rw [List.getD_eq_getElem?_getD, List.getElem?_eq_getElem h]; rfl
theorem dr_bd {ns : List Int} {k many : Nat} {base : Int} {n : Nat} (h : 0 < base) (hn : n < many) : 0 ≤ dr (drawsM ns k many base) n ∧ dr (drawsM ns k many base) n < base :=
  drawsM_bd h _ (List.mem_of_getElem? (dr_get (by rw [drawsM_len]; exact hn)))
theorem range_at {n : Nat} {pre post : List Nat} {x : Nat} (h : List.range n = pre ++ x :: post) : x = pre.length ∧ x < n := by
  have h1 : (List.range n)[pre.length]? = some x := by rw [h]; simp
  rw [List.getElem?_range] at h1
  · have h2 : pre.length < n := by
      have := congrArg List.length h
      simp at this; omega
    have : pre.length = x := by simpa using h1
    omega
  · have := congrArg List.length h
    simp at this; omega
theorem range_pre {n : Nat} {pre post : List Nat} {x : Nat} (h : List.range n = pre ++ x :: post) : pre = List.range pre.length := by
  have h1 : pre = (List.range n).take pre.length := by rw [h]; simp
  have h2 : pre.length ≤ n := by
    have := congrArg List.length h
    simp at this; omega
  rw [List.take_range, Nat.min_eq_left h2] at h1
  exact h1
section
variable {P : Program} {w : World} {K : PySem.W.Frag} {mg : Str → Option Value} {base : Heap}
abbrev N_law_cell : List Str := ["script", "k"]
theorem sc_law_cell : FnScope N_law_cell ["script", "k"] (defScope st_law_cell) := ⟨rfl, rfl, rfl, by decide +kernel, rfl, by decide +kernel, by decide +kernel⟩
def q_law_cell (K : PySem.W.Frag) (Rs : List RP) (d : PyData) : Prop := ∃ (ns : List Int) (k : Nat), Rs = [ScR K ns, DD K (.int k)] ∧ d = .int (cellM ns k)
theorem ok_law_cell {f : Addr} {fd : FuncData} (F : Fun K "_law_cell" "_law_cell" st_law_cell f fd) (Bn : Bn mg) : FnOk P w K mg base CX0 1 f fd ["script", "k"] (spG K (q_law_cell K)) := by
  refine fn_G F sc_law_cell (fun Rs d h => by obtain ⟨_, _, rfl, _⟩ := h; rfl) (fun cdv A outer s H F0 E hr Rs d hq => ?_)
  obtain ⟨ns, k, rfl, rfl⟩ := hq
  have sm : Mono (ScR K ns) := ScR.mo
  refine ws_if Vw.refl (gb_cm (gv 1) c_lt (g_lenSc Bn (gv 0))) (fun h => ?_) (fun h => ?_)
  · have h' : k < ns.length := by simpa using h
    refine ws_ret (g_ixSc (gv 0) (gv 1) (atI_nat (dr_get h'))) (fun F v q => ?_)
    unfold cellM; rw [if_pos h']; exact q
  · have h' : ¬ k < ns.length := by simpa using h
    refine ws_nil ?_
    refine ws_if Vw.refl (gb_cm (g_lenSc Bn (gv 0)) c_eqI g_int) (fun h => ?_) (fun h => ?_)
    · have h2 : ns.length = 0 := by simpa using h
      refine ws_ret (g_add (g_mul g_int (gv 1) (.inl (by decide))) g_int) (fun F v q => ?_)
      unfold cellM; rw [if_neg h', if_pos h2]; exact q
    · have h2 : ¬ ns.length = 0 := by simpa using h
      have h3 : 0 < (ns.length : Int) := by omega
      refine ws_nil ?_
      refine ws_ret (g_add (g_mod (g_ixSc (gv 0) (g_mod (gv 1) (g_lenSc Bn (gv 0)) h3) (n := dr ns (k % ns.length)) (at_of (by omega) (dr_get (Nat.mod_lt _ (by omega))))) g_int (by decide)) (g_mul g_int (gv 1) (.inl (by decide)))) (fun F v q => ?_)
      unfold cellM; rw [if_neg h', if_neg h2]; exact q
where at_of {xs : List Int} {z : Int} {j : Nat} {v : Int} (e : z = (j : Int)) (h : xs[j]? = some v) : L2.atI xs z = some v := by rw [e]; exact atI_nat h
end
end Z
namespace Z
open PySem PySem.Spec PyProof.Rows L2
variable [Vo]
section
variable {P : Program} {w : World} {K : PySem.W.Frag} {mg : Str → Option Value} {base : Heap}
abbrev N_law_draws : List Str := ["script", "k", "many", "base", "primes", "cell", "rest", "row", "j", "mash"]
theorem sc_law_draws : FnScope N_law_draws ["script", "k", "many", "base"] (defScope st_law_draws) := ⟨rfl, rfl, rfl, by decide +kernel, rfl, by decide +kernel, by decide +kernel⟩
def q_law_draws (K : PySem.W.Frag) (Rs : List RP) (ds : List PyData) : Prop := ∃ (ns : List Int) (k many : Nat) (bs : Int), k ≤ 1000 ∧ many ≤ 1000 ∧ 0 < bs ∧ bs < 2 ^ 64 ∧ Rs = [ScR K ns, DD K (.int k), DD K (.int many), DD K (.int bs)] ∧ ds = (drawsM ns k many bs).map .int
theorem i_law_draws {ns : List Int} {k many : Nat} {bs : Int} (h1 : k ≤ 1000) (h2 : many ≤ 1000) (h3 : 0 < bs) (h4 : bs < 2 ^ 64) : q_law_draws K [ScR K ns, DD K (.int k), DD K (.int many), DD K (.int bs)] ((drawsM ns k many bs).map .int) := ⟨ns, k, many, bs, h1, h2, h3, h4, rfl, rfl⟩
theorem pr_at {i : Int} {n : Nat} (h : n < 8) (e : i = (n : Int)) : L2.atI (PR.map PyData.int) i = some (.int (PR.getD n 0)) := at_map (pr_get h) e
theorem ok_law_draws {f : Addr} {fd : FuncData} (F : Fun K "_law_draws" "_law_draws" st_law_draws f fd) (Bn : Bn mg) (C_law_cell : FnD P w K mg base 1 "_law_cell" ["script", "k"] (spG K (q_law_cell K))) : FnOk P w K mg base CX0 2 f fd ["script", "k", "many", "base"] (spN K (q_law_draws K)) := by
  refine fn_N F sc_law_draws (fun Rs d h => by obtain ⟨_, _, _, _, _, _, _, _, rfl, _⟩ := h; rfl) (fun cdv A outer s H F0 E hr Rs ds hq => ?_)
  obtain ⟨ns, k, many, bs, hk, hm, hb, hb2, rfl, rfl⟩ := hq
  have sm : Mono (ScR K ns) := ScR.mo
  refine ws_set 4 sc_law_draws.nd rfl (.inl rfl) (g_is (d' := .tuple (PR.map PyData.int)) (gt_tup (gad_cons g_int (gad_cons g_int (gad_cons g_int (gad_cons g_int (gad_cons g_int (gad_cons g_int (gad_cons g_int (gad_cons g_int gad_nil))))))))) rfl) ?_
  refine ws_set 5 sc_law_draws.nd rfl (.inl rfl) (g_callG C_law_cell (hr.mono (by decide)) (ga_cons (gv 0) (ga_cons (gv 1) ga_nil)) ⟨ns, k, rfl, rfl⟩) ?_
  refine ws_set 6 sc_law_draws.nd rfl (.inl rfl) g_int ?_
  refine ws_ifJ (J := fun E os => E = [some (ScR K ns), some (DD K (.int k)), some (DD K (.int many)), some (DD K (.int bs)), some (DD K (.tuple (PR.map PyData.int))), some (DD K (.int (cellM ns k))), some (DD K (.int (rest0 (cellM ns k)))), none, none, none] ∧ os = []) Vw.refl (gb_cm (gv 5) c_ge (g_pow g_int g_int (by unfold CPow; decide))) (fun h => ?_) (fun h => ?_) ?_
  · have h' : cellM ns k ≥ 1000000000000000000 := by simpa using h
    refine ws_set 6 sc_law_draws.nd rfl (.inl rfl) (gv 5) (ws_nil ⟨?_, rfl⟩)
    unfold rest0; rw [if_pos h']; rfl
  · have h' : ¬ cellM ns k ≥ 1000000000000000000 := by simpa using h
    refine ws_nil ⟨?_, rfl⟩
    unfold rest0; rw [if_neg h']; rfl
  rintro E os ⟨rfl, rfl⟩
  refine ws_new 7 sc_law_draws.nd rfl (.inl rfl) (n_lst gad_nil) fun l_row => ?_
  refine ws_forL (xs := List.range many) (enc := fun j => .int (j : Nat)) (sl := [8]) PassesOwn.never rfl (l_rangeN Bn (gv 2) (by omega)) (fun x hx => (gt_name 8 DD.mo sc_law_draws.nd rfl (.inl rfl)))
    (fun pre E os => (∃ a b, E = [some (ScR K ns), some (DD K (.int k)), some (DD K (.int many)), some (DD K (.int bs)), some (DD K (.tuple (PR.map PyData.int))), some (DD K (.int (cellM ns k))), some (DD K (.int (restM (cellM ns k) bs pre.length))), some (RR l_row), a, b]) ∧ os = [(l_row, Ls K ((pre.map (drawM (cellM ns k) k bs)).map .int))]) ⟨⟨none, none, rfl⟩, rfl⟩ ?_ ?_
  · rintro pre x post E os hxs ⟨⟨a, b, rfl⟩, rfl⟩
    obtain ⟨hx, hxm⟩ := range_at hxs
    have p1 := pr_bd (n := x % 8) (by omega)
    have p2 := pr_bd (n := (3 * x + k) % 8) (by omega)
    have p3 := pr_bd (n := (x + 5) % 8) (by omega)
    have b1 := Int.emod_nonneg (cellM ns k) (show PR.getD (x % 8) 0 ≠ 0 by omega)
    have b2 := Int.emod_lt_of_pos (cellM ns k) p1.1
    have c1 := Int.emod_nonneg (cellM ns k % PR.getD (x % 8) 0 * (48271 + 2 * x * x) + 7919 * (x + 1) * (x + 1) + 104729 * k) (show PR.getD ((3 * x + k) % 8) 0 ≠ 0 by omega)
    have c2 := Int.emod_lt_of_pos (cellM ns k % PR.getD (x % 8) 0 * (48271 + 2 * x * x) + 7919 * (x + 1) * (x + 1) + 104729 * k) p2.1
    have m3 : 0 ≤ mash3 (cellM ns k) k x ∧ mash3 (cellM ns k) k x < 2147483648 := ⟨c1, Int.lt_trans c2 p2.2⟩
    have m9 : mash3 (cellM ns k) k x * mash3 (cellM ns k) k x < 2147483648 * 2147483648 ∧ 0 ≤ mash3 (cellM ns k) k x * mash3 (cellM ns k) k x :=
      ⟨Int.lt_of_le_of_lt (Int.mul_le_mul (Int.le_sub_one_of_lt m3.2) (Int.le_sub_one_of_lt m3.2) m3.1 (by decide)) (by decide), Int.mul_nonneg m3.1 m3.1⟩
    refine ws_set 9 sc_law_draws.nd rfl (.inl rfl) (g_mul (g_mod (gv 5) (g_ixT (gv 4) (g_mod (gv 8) g_int (by decide)) (pr_at (n := x % 8) (by omega) (by omega))) p1.1) (g_add g_int (g_mul (g_mul g_int (gv 8) (.inl (by decide))) (gv 8) (.inl (by omega)))) (.inl (by omega))) ?_
    refine ws_set 9 sc_law_draws.nd rfl (.inl rfl) (g_add (g_add (gv 9) (g_mul (g_mul g_int (g_add (gv 8) g_int) (.inl (by decide))) (g_add (gv 8) g_int) (.inl (by omega)))) (g_mul g_int (gv 1) (.inl (by decide)))) ?_
    refine ws_set 9 sc_law_draws.nd rfl (.inl rfl) (g_mod (gv 9) (g_ixT (gv 4) (g_mod (g_add (g_mul g_int (gv 8) (.inl (by decide))) (gv 1)) g_int (by decide)) (pr_at (n := (3 * x + k) % 8) (by omega) (by omega))) p2.1) ?_
    refine ws_set 9 sc_law_draws.nd rfl (.inl rfl) (g_mod (g_mul (g_mul (gv 9) (gv 9) (.inl ⟨by omega, by omega⟩)) (gv 9) (.inr ⟨by omega, by omega⟩)) (g_ixT (gv 4) (g_mod (g_add (gv 8) g_int) g_int (by decide)) (pr_at (n := (x + 5) % 8) (by omega) (by omega))) p3.1) ?_
    refine ws_ifJ (J := fun E os => E = [some (ScR K ns), some (DD K (.int k)), some (DD K (.int many)), some (DD K (.int bs)), some (DD K (.tuple (PR.map PyData.int))), some (DD K (.int (cellM ns k))), some (DD K (.int (restM (cellM ns k) bs pre.length))), some (RR l_row), some (DD K (.int x)), some (DD K (.int (if 0 < restM (cellM ns k) bs x then restM (cellM ns k) bs x else mashM (cellM ns k) k x)))] ∧ os = [(l_row, Ls K ((pre.map (drawM (cellM ns k) k bs)).map .int))]) Vw.refl (gb_cm (gv 6) c_gt g_int) (fun h => ?_) (fun h => ?_) ?_
    · have h' : 0 < restM (cellM ns k) bs x := by rw [hx]; simpa using h
      refine ws_set 9 sc_law_draws.nd rfl (.inl rfl) (gv 6) (ws_nil ⟨?_, rfl⟩)
      rw [if_pos h', hx]; rfl
    · have h' : ¬ 0 < restM (cellM ns k) bs x := by rw [hx]; simpa using h
      refine ws_nil ⟨?_, rfl⟩
      rw [if_neg h']; rfl
    rintro E os ⟨rfl, rfl⟩
    have pl : ((pre.map (drawM (cellM ns k) k bs)).map PyData.int).length < sizeLine := by
      rw [List.length_map, List.length_map]
      exact Nat.lt_trans (show pre.length < 1001 by omega) (by decide)
    refine ws_append 0 (gv 7) rfl (g_mod (gv 9) (gv 3) hb) pl ?_
    refine ws_set 6 sc_law_draws.nd rfl (.inl rfl) (g_divW (gv 6) (gv 3) (wide_div (b := 64) hb (by omega) (by decide) (by decide))) ?_
    refine ws_nil ⟨⟨some (DD K (.int x)), some (DD K (.int (if 0 < restM (cellM ns k) bs x then restM (cellM ns k) bs x else mashM (cellM ns k) k x))), ?_⟩, ?_⟩
    · rw [List.length_append]; rfl
    · rw [List.map_append, List.map_append]; rfl
  · rintro E os ⟨⟨a, b, rfl⟩, rfl⟩
    exact ws_ret (gv 7) ⟨l_row, fun F v h => h, List.mem_cons_self⟩
end
end Z
namespace Z
open PySem PySem.Spec PyProof.Rows L2
variable [Vo]
abbrev Bk0 := List (Nat × List Nat)
abbrev encP (p : Nat × List Nat) : PyData := .tuple [.str (mk [p.1]), .str (mk p.2)]
def SG : List Nat := [97, 98, 99, 100, 101, 102, 103, 104, 105, 106, 107, 108, 109, 110, 111, 112, 113, 114, 115, 116, 117, 118, 119, 120, 121, 122, 48, 49, 50, 51, 52, 53, 54, 55, 56, 57]
def longM (d : Int) : Int := 1 + [d % 2, d % 4, d % 3, d % 8].getD (d / 24 % 4).toNat 0
def rowM (d : Int) : List Nat := (List.range (longM d).toNat).map fun j => [46, 45].getD (d / 96 / 2 ^ j % 2).toNat 0
structure BSt where
  signs : List Nat
  rows : List (List Nat)
  found : Bk0
def bstep (s : BSt) (d : Int) : BSt := if rowM d ∈ s.rows then s else
  ⟨s.signs.eraseIdx (d / 7 % s.signs.length).toNat, s.rows ++ [rowM d], s.found ++ [(s.signs.getD (d / 7 % s.signs.length).toNat 0, rowM d)]⟩
def brun (xs : List Int) : BSt := xs.foldl bstep ⟨SG, [], []⟩
def bookN (ns : List Int) (at_ most : Nat) : Nat := (1 + dr (drawsM ns at_ 3 27720) 0 % most).toNat
def bookM (ns : List Int) (at_ most : Nat) : Bk0 := (brun ((drawsM ns (at_ + 1) 40 27720).take (bookN ns at_ most))).found
theorem longM_bd {d : Int} (h : 0 ≤ d) : 1 ≤ longM d ∧ longM d ≤ 8 := by
  unfold longM
  have h1 := Int.emod_nonneg (d / 24) (show (4:Int) ≠ 0 by decide)
  have h2 := Int.emod_lt_of_pos (d / 24) (show (0:Int) < 4 by decide)
  have e : (d / 24 % 4).toNat = 0 ∨ (d / 24 % 4).toNat = 1 ∨ (d / 24 % 4).toNat = 2 ∨ (d / 24 % 4).toNat = 3 := by omega
  rcases e with e | e | e | e <;> rw [e] <;> simp <;> omega
theorem brun_snoc {xs : List Int} {d : Int} : brun (xs ++ [d]) = bstep (brun xs) d := by unfold brun; rw [List.foldl_append]; rfl
theorem brun_len (xs : List Int) : (brun xs).signs.length + (brun xs).found.length = 36 → True := fun _ => trivial
structure BInv (s : BSt) : Prop where
  len : s.signs.length + s.found.length = 36
  rows : s.rows = s.found.map (·.2)
  nd : (s.signs ++ s.found.map (·.1)).Nodup
  sg : ∀ c, c ∈ s.signs ++ s.found.map (·.1) → c ∈ SG
  rnd : s.rows.Nodup
theorem erase_perm {l : List Nat} {n : Nat} (h : n < l.length) : (l.eraseIdx n ++ [l.getD n 0]).Perm l := by
  have e : l = l.take n ++ l.getD n 0 :: l.drop (n + 1) := by
    rw [List.getD_eq_getElem?_getD, List.getElem?_eq_getElem h, Option.getD_some, List.getElem_cons_drop, List.take_append_drop]
  have e2 : l.eraseIdx n = l.take n ++ l.drop (n + 1) := List.eraseIdx_eq_take_drop_succ l n
  rw [e2]
  refine List.Perm.trans ?_ (e ▸ List.Perm.refl l : (l.take n ++ l.getD n 0 :: l.drop (n + 1)).Perm l)
  rw [List.append_assoc]
  refine List.Perm.append_left _ ?_
  exact List.perm_append_comm
theorem bstep_inv {s : BSt} {d : Int} (h : BInv s) (hl : s.found.length < 36) (hd : 0 ≤ d) : BInv (bstep s d) ∧ (bstep s d).found.length ≤ s.found.length + 1 := by
  unfold bstep
  split
  · exact ⟨h, by omega⟩
  · rename_i hr
    have h0 := h.len
    have hp : 0 < (s.signs.length : Int) := by omega
    have h1 := Int.emod_nonneg (d / 7) (show (s.signs.length : Int) ≠ 0 by omega)
    have h2 := Int.emod_lt_of_pos (d / 7) hp
    have hn : (d / 7 % s.signs.length).toNat < s.signs.length := by omega
    have pm := erase_perm hn
    have pm2 : (s.signs.eraseIdx (d / 7 % s.signs.length).toNat ++ (s.found ++ [(s.signs.getD (d / 7 % s.signs.length).toNat 0, rowM d)]).map (·.1)).Perm (s.signs ++ s.found.map (·.1)) := by
      rw [List.map_append]
      refine List.Perm.trans (List.Perm.append_left _ List.perm_append_comm) ?_
      rw [← List.append_assoc]
      exact List.Perm.append_right _ pm
    refine ⟨⟨?_, ?_, pm2.nodup_iff.mpr h.nd, fun c hc => h.sg c (pm2.mem_iff.mp hc), ?_⟩, ?_⟩
    · rw [List.length_eraseIdx_of_lt hn, List.length_append]
      simp
      omega
    · rw [List.map_append, h.rows]; rfl
    · rw [List.nodup_append]
      refine ⟨h.rnd, by simp, fun a ha b hb e => ?_⟩
      have : b = rowM d := by simpa using hb
      subst this; subst e; exact hr ha
    · simp
theorem binv0 : BInv ⟨SG, [], []⟩ := ⟨rfl, rfl, by decide, fun c hc => by simpa using hc, List.nodup_nil⟩
theorem brun_inv : ∀ {xs : List Int}, xs.length ≤ 36 → (∀ x, x ∈ xs → 0 ≤ x) → BInv (brun xs) ∧ (brun xs).found.length ≤ xs.length := by
  intro xs
  generalize hn : xs.length = n
  induction n generalizing xs with
  | zero =>
    intro _ _
    have : xs = [] := List.length_eq_zero_iff.mp hn
    subst this
    exact ⟨binv0, Nat.le_refl _⟩
  | succ n ih =>
    intro hl hx
    have hne : xs ≠ [] := fun e => by subst e; simp at hn
    have e := List.dropLast_concat_getLast hne
    obtain ⟨i1, i2⟩ := ih (xs := xs.dropLast) (by rw [List.length_dropLast]; omega) (by omega) (fun x h => hx x (List.dropLast_subset _ h))
    rw [← e, brun_snoc]
    obtain ⟨j1, j2⟩ := bstep_inv i1 (d := xs.getLast hne) (by omega) (hx _ (List.getLast_mem hne))
    exact ⟨j1, by omega⟩
theorem er_map {α β : Type} (f : α → β) : ∀ (l : List α) (n : Nat), (l.map f).eraseIdx n = (l.eraseIdx n).map f
  | [], _ => rfl
  | _ :: _, 0 => rfl
  | a :: l, n + 1 => by
    show f a :: (l.map f).eraseIdx n = f a :: (l.eraseIdx n).map f
    rw [er_map f l n]
theorem sum_one {α : Type} : ∀ xs : List α, (xs.map fun _ => 1).sum = xs.length
  | [] => rfl
  | _ :: r => by rw [List.map_cons, List.sum_cons, sum_one r, List.length_cons, Nat.add_comm]
end Z
namespace Z
open PySem PySem.Spec PyProof.Rows L2
variable [Vo]
section
variable {P : Program} {w : World} {K : PySem.W.Frag} {mg : Str → Option Value} {base : Heap}
abbrev N_law_book : List Str := ["script", "at", "most", "plan", "draws", "signs", "rows", "found", "k", "draw", "long", "row", "j"]
theorem sc_law_book : FnScope N_law_book ["script", "at", "most"] (defScope st_law_book) := ⟨rfl, rfl, rfl, by decide +kernel, rfl, by decide +kernel, by decide +kernel⟩
abbrev encR (r : List Nat) : Key × PyData := (Sum.inr (mk r), .bool true)
def q_law_book (K : PySem.W.Frag) (Rs : List RP) (ds : List PyData) : Prop := ∃ (ns : List Int) (a m : Nat), a ≤ 900 ∧ 0 < m ∧ m ≤ 36 ∧ Rs = [ScR K ns, DD K (.int a), DD K (.int m)] ∧ ds = (bookM ns a m).map encP
theorem dget_encR {rows : List (List Nat)} {r : List Nat} : (dget (rows.map encR) (Sum.inr (mk r) : Key)).isSome = decide (r ∈ rows) := by
  induction rows with
  | nil => rfl
  | cons a t ih =>
    by_cases h : a = r
    · subst h; simp [dget]
    · have hk : ¬ (Sum.inr (mk a) : Key) = Sum.inr (mk r) := fun e => h (mk_inj (Sum.inr.inj e))
      have e1 : dget ((a :: t).map encR) (Sum.inr (mk r) : Key) = dget (t.map encR) (Sum.inr (mk r) : Key) := by
        unfold dget
        rw [List.map_cons, List.find?_cons_of_neg (by simp [hk])]
      rw [e1, ih]
      have : (r = a) = False := by simp; exact fun e => h e.symm
      simp [this]
theorem dput_encR {rows : List (List Nat)} {r : List Nat} (h : r ∉ rows) : dput (rows.map encR) (Sum.inr (mk r) : Key) (.bool true) = (rows ++ [r]).map encR := by
  unfold dput
  have e : (rows.map encR).any (fun kv => decide (kv.1 = (Sum.inr (mk r) : Key))) = false := by
    rw [List.any_eq_false]
    intro p hp
    obtain ⟨q, hq, rfl⟩ := List.mem_map.mp hp
    simp only [decide_eq_true_eq]
    exact fun e => h (mk_inj (Sum.inr.inj e) ▸ hq)
  rw [if_neg (by rw [e]; decide), List.map_append]
  rfl
theorem ok_law_book {f : Addr} {fd : FuncData} (F : Fun K "_law_book" "_law_book" st_law_book f fd) (Bn : Bn mg) (C_law_draws : FnD P w K mg base 2 "_law_draws" ["script", "k", "many", "base"] (spN K (q_law_draws K))) : FnOk P w K mg base CX0 3 f fd ["script", "at", "most"] (spN K (q_law_book K)) := by
  refine fn_N F sc_law_book (fun Rs d h => by obtain ⟨_, _, _, _, _, _, rfl, _⟩ := h; rfl) (fun cdv A outer s H F0 E hr Rs ds hq => ?_)
  obtain ⟨ns, a, m, ha, hm0, hm, rfl, rfl⟩ := hq
  have sm : Mono (ScR K ns) := ScR.mo
  have hu := hu_of hr
  refine ws_set 3 sc_law_book.nd rfl (.inl rfl) (n_callN C_law_draws (hr.mono (by decide)) (ga_cons (gv 0) (ga_cons (gv 1) (ga_cons g_int (ga_cons g_int ga_nil)))) (i_law_draws (k := a) (many := 3) (bs := 27720) (by omega) (by decide) (by decide) (by decide))).ge ?_
  refine ws_set 4 sc_law_book.nd rfl (.inl rfl) (n_callN C_law_draws (hr.mono (by decide)) (ga_cons (gv 0) (ga_cons (g_add (gv 1) g_int) (ga_cons g_int (ga_cons g_int ga_nil)))) (i_law_draws (k := a + 1) (many := 40) (bs := 27720) (by omega) (by decide) (by decide) (by decide))).ge ?_
  generalize hdr : drawsM ns (a + 1) 40 27720 = xs
  have xl : xs.length = 40 := by rw [← hdr]; exact drawsM_len
  have xb : ∀ x, x ∈ xs → 0 ≤ x := fun x h => by rw [← hdr] at h; exact (drawsM_bd (by decide) x h).1
  have hpl := dr_bd (ns := ns) (k := a) (many := 3) (base := 27720) (n := 0) (by decide) (by decide)
  have hbn : bookN ns a m ≤ m := by
    unfold bookN
    have := Int.emod_lt_of_pos (dr (drawsM ns a 3 27720) 0) (show (0:Int) < m by omega)
    omega
  have hbi : (1 : Int) + dr (drawsM ns a 3 27720) 0 % m = (bookN ns a m : Nat) := by
    unfold bookN
    have := Int.emod_nonneg (dr (drawsM ns a 3 27720) 0) (show (m:Int) ≠ 0 by omega)
    omega
  refine ws_new 5 sc_law_book.nd rfl (.inl rfl) (n_listM rfl Bn (g_s SG) (by decide)) fun l_signs => ?_
  refine ws_newD 6 sc_law_book.nd rfl (.inl rfl) fun l_rows => ?_
  refine ws_new 7 sc_law_book.nd rfl (.inl rfl) (n_lst gad_nil) fun l_found => ?_
  refine ws_forL (xs := List.range (bookN ns a m)) (enc := fun j => .int (j : Nat)) (sl := [8]) PassesOwn.never rfl (l_rangeN Bn (g_is (g_add g_int (g_mod (g_ixL (gv 3) g_int (at_map (dr_get (n := 0) (by rw [drawsM_len]; decide)))) (gv 2) (by omega))) (by rw [hbi])) (by omega)) (fun x hx => (gt_name 8 DD.mo sc_law_book.nd rfl (.inl rfl)))
    (fun pre E os => (∃ k d l r, E = [some (ScR K ns), some (DD K (.int a)), some (DD K (.int m)), some (DD K (.list ((drawsM ns a 3 27720).map .int))), some (DD K (.list (xs.map .int))), some (RR l_signs), some (RR l_rows), some (RR l_found), k, d, l, r, none]) ∧
      os = [(l_signs, Ls K ((brun (xs.take pre.length)).signs.map fun c => .str (mk [c]))), (l_rows, Dc K ((brun (xs.take pre.length)).rows.map encR)), (l_found, Ls K ((brun (xs.take pre.length)).found.map encP))])
    ⟨⟨none, none, none, none, rfl⟩, rfl⟩ ?_ ?_
  · rintro pre x post E os hxs ⟨⟨k, d, l, r, rfl⟩, rfl⟩
    obtain ⟨hx, hxm⟩ := range_at hxs
    have hx40 : x < xs.length := by omega
    have hd0 : 0 ≤ dr xs x := xb _ (List.mem_of_getElem? (dr_get hx40))
    generalize hs : brun (xs.take pre.length) = s0
    have tl : (xs.take pre.length).length = pre.length := by rw [List.length_take]; omega
    obtain ⟨hin, hfl⟩ := brun_inv (xs := xs.take pre.length) (by omega) (fun y hy => xb y (List.mem_of_mem_take hy))
    rw [hs, tl] at hfl
    rw [hs] at hin
    have hstep : brun (xs.take (pre ++ [x]).length) = bstep s0 (dr xs x) := by
      rw [List.length_append, List.length_singleton, (split_at (dr_get (by omega : pre.length < xs.length))).2, brun_snoc, hs, hx]
    have hlen := hin.len
    obtain ⟨g1, g2⟩ := longM_bd hd0
    refine ws_set 9 sc_law_book.nd rfl (.inr rfl) (g_ixL (gv 4) (gv 8) (at_map (dr_get hx40))) ?_
    generalize hdd : dr xs x = dd at *
    refine ws_set 10 sc_law_book.nd rfl (.inl rfl) (g_is (d' := .int (longM dd)) (g_add g_int (g_ixL (ds := [dd % 2, dd % 4, dd % 3, dd % 8].map .int) (n_lst (gad_cons (g_mod (gv 9) g_int (by decide)) (gad_cons (g_mod (gv 9) g_int (by decide)) (gad_cons (g_mod (gv 9) g_int (by decide)) (gad_cons (g_mod (gv 9) g_int (by decide)) gad_nil))))).ge (g_mod (g_div (gv 9) g_int ⟨by decide, by decide⟩) g_int (by decide)) (at_map (n := (dd / 24 % 4).toNat) (x := [dd % 2, dd % 4, dd % 3, dd % 8].getD (dd / 24 % 4).toNat 0) (by
      have e : (dd / 24 % 4).toNat = 0 ∨ (dd / 24 % 4).toNat = 1 ∨ (dd / 24 % 4).toNat = 2 ∨ (dd / 24 % 4).toNat = 3 := by omega
      rcases e with e | e | e | e <;> rw [e] <;> rfl) (by omega)))) rfl) ?_
    have hlong : longM dd = ((longM dd).toNat : Nat) := by omega
    refine ws_set 11 sc_law_book.nd rfl (.inl rfl) (g_is (d' := .str (mk (rowM dd))) (g_join (ls := (List.range (longM dd).toNat).map fun j => [[46, 45].getD (dd / 96 / 2 ^ j % 2).toNat 0]) (g_s []) (GEN.is (n_lc0 (xs := List.range (longM dd).toNat) (enc := fun j => .int (j : Nat)) (own := [("j", 12)]) (sl := [12]) (d := fun j => .str (mk [[46, 45].getD (dd / 96 / 2 ^ j % 2).toNat 0])) rfl sc_law_book.nd (l_rangeN Bn (g_is (gv 10) (by rw [← hlong])) (by omega)) (blkOk_by (N := N_law_book) (sc := defScope st_law_book) (by decide +kernel)) (fun _ _ _ _ _ x hx => (gt_name 12 DD.mo sc_law_book.nd rfl (.inl rfl))) (by decide)
      (fun _ _ _ _ _ j hj => (g_ixM (g_s [46, 45]) (g_mod (g_div (g_div (gv 9) g_int ⟨by decide, by decide⟩) (g_shl g_int (gv 12) (by refine ⟨by omega, ?_, by decide⟩; have := List.mem_range.mp hj; omega)) (by
        have hj8 : j < 8 := by have := List.mem_range.mp hj; omega
        rw [Int.toNat_natCast, Int.one_mul]
        have h1 : (0:Int) < 2 ^ j := Int.pow_pos (by decide)
        have h2 : (2:Int) ^ j ≤ 2 ^ 8 := by exact_mod_cast Nat.pow_le_pow_right (show 0 < 2 by decide) (show j ≤ 8 by omega)
        exact ⟨h1, Int.lt_of_le_of_lt h2 (by decide)⟩)) g_int (by decide)) (by decide) (at_nat' (n := (dd / 96 / 2 ^ j % 2).toNat) (by
          have e : (dd / 96 / 2 ^ j % 2).toNat = 0 ∨ (dd / 96 / 2 ^ j % 2).toNat = 1 := by omega
          rcases e with e | e <;> rw [e] <;> rfl) (by
          rw [Int.toNat_natCast, Int.one_mul]
          have := Int.emod_nonneg (dd / 96 / 2 ^ j) (show (2:Int) ≠ 0 by decide)
          omega)))) (by rw [List.length_range]; exact Nat.lt_of_le_of_lt (show (longM dd).toNat ≤ 8 by omega) (by decide))) (by rw [List.map_map]; rfl)).ge (by
            rw [List.map_map]
            have e1 : ((List.range (longM dd).toNat).map ((fun x : List Nat => x.length) ∘ fun j => [[46, 45].getD (dd / 96 / 2 ^ j % 2).toNat 0])).sum = (longM dd).toNat := by
              have : ((fun x : List Nat => x.length) ∘ fun j => [[46, 45].getD (dd / 96 / 2 ^ j % 2).toNat 0]) = fun _ => 1 := rfl
              rw [this, sum_one, List.length_range]
            rw [e1]; simp; omega)) (by rw [joinL_one]; rfl)) ?_
    refine ws_if (Vw.one 6 1) (gb_dnin hu (k := Sum.inr (mk (rowM dd))) (gv 11) (gv 6 (mo := DC.mo))) (fun h => ?_) (fun h => ?_)
    · rw [dget_encR] at h
      have h' : rowM dd ∉ s0.rows := by simpa using h
      have hz : s0.rows.length < 100 := by rw [hin.rows, List.length_map]; omega
      refine ws_dput 1 hu (gv 6) rfl (k := Sum.inr (mk (rowM dd))) (gv 11) g_bool (by rw [List.length_map]; exact Nat.lt_trans hz (by decide)) ?_
      have hsl : 0 < (s0.signs.length : Int) := by omega
      have hq1 := Int.emod_nonneg (dd / 7) (show (s0.signs.length : Int) ≠ 0 by omega)
      have hq2 := Int.emod_lt_of_pos (dd / 7) hsl
      have hn : (dd / 7 % s0.signs.length).toNat < s0.signs.length := by omega
      refine ws_appPop 2 0 (gv 7) (gv 5) rfl rfl (Vw.one 5 0) (g_mod (g_div (gv 9) g_int ⟨by decide, by decide⟩) (g_lenL Bn (gv 5)) (by rw [List.length_map]; exact hsl)) (by decide) (n := (dd / 7 % s0.signs.length).toNat) (by rw [List.length_map]; omega) (by omega) (d2 := .str (mk [s0.signs.getD (dd / 7 % s0.signs.length).toNat 0])) (by rw [List.getElem?_map, List.getD_eq_getElem?_getD, List.getElem?_eq_getElem hn]; rfl) (gv 11) (by rw [List.length_map]; exact Nat.lt_trans (show s0.found.length < 100 by omega) (by decide)) ?_
      refine ws_nil (ws_nil ⟨⟨_, _, _, _, rfl⟩, ?_⟩)
      rw [hstep]
      unfold bstep
      rw [if_neg h', dput_encR h']
      simp only [List.map_append, er_map]
      rfl
    · rw [dget_encR] at h
      have h' : rowM dd ∈ s0.rows := by simpa using h
      refine ws_nil (ws_nil ⟨⟨_, _, _, _, rfl⟩, ?_⟩)
      rw [hstep]
      unfold bstep
      rw [if_pos h']
  · rintro E os ⟨⟨k, d, l, r, rfl⟩, rfl⟩
    refine ws_ret (gv 7) ⟨l_found, fun F v h => h, ?_⟩
    unfold bookM
    rw [List.length_range, hdr]
    simp
where at_nat' {xs : List Nat} {i : Int} {n m : Nat} (h : xs[n]? = some m) (e : i = (n : Int)) : L2.atI xs i = some m := by rw [e]; exact atI_nat h
end
end Z
namespace Z
open PySem PySem.Spec PyProof.Rows L2
variable [Vo]
abbrev SlackOk (s : Fr) : Prop := 0 ≤ s.1 ∧ s.1 < s.2
def loM (len wt : Int) (s : Fr) : Fr := madeM (len * s.2) (wt * (s.2 + s.1))
def hiM (len wt : Int) (s : Fr) : Fr := madeM (len * s.2) (wt * (s.2 - s.1))
def powM (x : Fr) : Nat → Fr
  | 0 => (1, 1)
  | n + 1 => timesM (powM x n) x
theorem madeM_eq {a b c d : Int} (hb : 0 < b) (hd : 0 < d) (h : a * d = c * b) : madeM a b = madeM c d := by
  refine rd_ext (madeM_rd hb) (madeM_rd hd) ?_
  rw [vl_made hb, vl_made hd, div_eq_iff (cast_pos hb) (cast_pos hd)]
  exact_mod_cast h
theorem over_made {a b : Int} {y : Fr} (hb : 0 < b) (hy : 0 < y.1) : overM (madeM a b) y = madeM (a * y.2) (b * y.1) := by
  unfold overM
  have hp : 0 < (madeM a b).2 := made_bot hb
  refine madeM_eq (Int.mul_pos hp hy) (Int.mul_pos hb hy) ?_
  obtain ⟨h1, h2⟩ := madeM_mul (a := a) (b := b)
  have e : (madeM a b).1 * b = a * (madeM a b).2 := by
    have e1 : a = ((Int.gcd a b : Nat) : Int) * (madeM a b).1 := h1.symm
    have e2 : b = ((Int.gcd a b : Nat) : Int) * (madeM a b).2 := h2.symm
    grind
  grind
theorem ab_lt {a : Int} {n : Nat} (h0 : 0 ≤ a) (h : a < 2 ^ n) : a.natAbs < 2 ^ n := by
  have : (a.natAbs : Int) < 2 ^ n := by omega
  exact_mod_cast this
theorem lt_ab {a : Int} {n : Nat} (h : a.natAbs < 2 ^ n) (h0 : 0 ≤ a) : a < 2 ^ n := by
  have : (a.natAbs : Int) < 2 ^ n := by exact_mod_cast h
  omega
theorem slack_sz {k : Nat} {s : Fr} (hs : Sz k s) (h : SlackOk s) : Sz (k + 1) (s.2 + s.1, s.2) ∧ Sz (k + 1) (s.2 - s.1, s.2) ∧ (s.2 + s.1).natAbs < 2 ^ (k + 1) ∧ (s.2 - s.1).natAbs < 2 ^ (k + 1) := by
  have h1 := hs.t; have h2 := hs.b; have h3 := hs.p
  have e : 2 ^ (k + 1) = 2 * 2 ^ k := by rw [Nat.pow_succ, Nat.mul_comm]
  have a1 : (s.2 + s.1).natAbs < 2 ^ (k + 1) := by omega
  have a2 : (s.2 - s.1).natAbs < 2 ^ (k + 1) := by omega
  exact ⟨⟨a1, h3, by omega⟩, ⟨a2, h3, by omega⟩, a1, a2⟩
theorem powM_sz {n : Nat} {x : Fr} (hx : Sz n x) : ∀ k, Sz (1 + n * k) (powM x k)
  | 0 => by
    rw [Nat.mul_zero]
    exact ⟨by show (1:Int).natAbs < 2 ^ (1 + 0); decide, by show (0:Int) < 1; decide, by show (1:Int).natAbs < 2 ^ (1 + 0); decide⟩
  | k + 1 => by
    have := timesM_sz (powM_sz hx k) hx
    rw [Nat.mul_succ, ← Nat.add_assoc]; exact this
section
variable {P : Program} {w : World} {K : PySem.W.Frag} {mg : Str → Option Value} {base : Heap}
def q_bounds (K : PySem.W.Frag) (Rs : List RP) (d : PyData) : Prop := ∃ (n k : Nat) (len wt : Int) (s : Fr), len.natAbs < 2 ^ n ∧ 0 < wt ∧ wt.natAbs < 2 ^ n ∧ Sz k s ∧ SlackOk s ∧ n + k ≤ 8000 ∧ Rs = [DD K (.int len), DD K (.int wt), DD K (dF s)] ∧ d = .tuple [dF (loM len wt s), dF (hiM len wt s)]
theorem i_bounds {n k : Nat} {len wt : Int} {s : Fr} (h1 : len.natAbs < 2 ^ n) (h2 : 0 < wt) (h3 : wt.natAbs < 2 ^ n) (h4 : Sz k s) (h5 : SlackOk s) (h6 : n + k ≤ 8000 := by omega) : q_bounds K [DD K (.int len), DD K (.int wt), DD K (dF s)] (.tuple [dF (loM len wt s), dF (hiM len wt s)]) := ⟨n, k, len, wt, s, h1, h2, h3, h4, h5, h6, rfl, rfl⟩
abbrev N_bounds_at : List Str := ["length", "weight", "slack", "plain"]
theorem sc_bounds_at : FnScope N_bounds_at ["length", "weight", "slack"] (defScope st_bounds_at) := ⟨rfl, rfl, rfl, by decide +kernel, rfl, by decide +kernel, by decide +kernel⟩
theorem ok_bounds_at {f : Addr} {fd : FuncData} (F : Fun K "bounds_at" "bounds_at" st_bounds_at f fd) (C_made : FnD P w K mg base 2 "made" ["top", "bottom"] (spG K (q_made K))) (C_over : FnD P w K mg base 3 "over" ["one", "other"] (spG K (q_over K)))
    (C_and_slack : FnD P w K mg base 1 "and_slack" ["slack"] (spG K (q_aslack K))) (C_less_slack : FnD P w K mg base 1 "less_slack" ["slack"] (spG K (q_lslack K))) : FnOk P w K mg base CX0 4 f fd ["length", "weight", "slack"] (spG K (q_bounds K)) := by
  refine fn_G F sc_bounds_at (fun Rs d h => by obtain ⟨_, _, _, _, _, _, _, _, _, _, _, rfl, _⟩ := h; rfl) (fun cdv A outer s H F0 E hr Rs d hq => ?_)
  obtain ⟨n, k, len, wt, sl, h1, h2, h3, h4, h5, h6, rfl, rfl⟩ := hq
  obtain ⟨z1, z2, _, _⟩ := slack_sz h4 h5
  have zm := madeM_sz h1 h2 h3
  refine ws_set 3 sc_bounds_at.nd rfl (.inl rfl) (g_callG C_made (hr.mono (by decide)) (ga_cons (gv 0) (ga_cons (gv 1) ga_nil)) (i_made h2 (Nat.lt_of_lt_of_le h3 (Nat.pow_le_pow_right (by decide) (by omega))))) ?_
  have p1 : 0 < sl.2 + sl.1 := by have := h4.p; omega
  have p2 : 0 < sl.2 - sl.1 := by omega
  refine ws_ret (gt_tup (gad_cons (g_callG C_over (hr.mono (by decide)) (ga_cons (gv 3) (ga_cons (g_callG C_and_slack (hr.mono (by decide)) (ga_cons (gv 2) ga_nil) i_aslack) ga_nil)) (i_over zm z1 p1)) (gad_cons (g_callG C_over (hr.mono (by decide)) (ga_cons (gv 3) (ga_cons (g_callG C_less_slack (hr.mono (by decide)) (ga_cons (gv 2) ga_nil) i_lslack) ga_nil)) (i_over zm z2 p2)) gad_nil))) (fun F v h => ?_)
  rw [over_made h2 p1, over_made h2 p2] at h
  exact h
end
section
variable {P : Program} {w : World} {K : PySem.W.Frag} {mg : Str → Option Value} {base : Heap}
theorem i_made_s {a b : Int} (h : 0 < b) (h2 : b < 4294967296) : q_made K [DD K (.int a), DD K (.int b)] (dF (madeM a b)) := by
  have h3 : b.natAbs < 2 ^ 32 := ab_lt (by omega) (by omega)
  have h4 : (2:Nat) ^ 32 ≤ 2 ^ 8999 := Nat.pow_le_pow_right (by decide) (by omega)
  exact i_made h (Nat.lt_of_lt_of_le h3 h4)
abbrev N_law_low : List Str := ["top", "bottom", "one", "other"]
theorem sc_law_low : FnScope N_law_low ["top", "bottom"] (defScope st_law_low) := ⟨rfl, rfl, rfl, by decide +kernel, rfl, by decide +kernel, by decide +kernel⟩
theorem ok_law_low {f : Addr} {fd : FuncData} (F : Fun K "_law_low" "_law_low" st_law_low f fd) (Bn : Bn mg) : FnOk P w K mg base CX0 1 f fd ["top", "bottom"] (spG K (q_made K)) := by
  refine fn_G F sc_law_low (fun Rs d h => by obtain ⟨_, _, _, _, rfl, _⟩ := h; rfl) (fun cdv A outer s H F0 E hr Rs d hq => ?_)
  obtain ⟨a, b, hb, hb2, rfl, rfl⟩ := hq
  have hg2 := gcd_div (a := a) hb hb2
  refine ws_par 2 3 rfl sc_law_low.nd rfl rfl (by decide) rfl rfl (gad_cons (g_abs Bn (gv 0)) (gad_cons (gv 1) gad_nil)) ?_ (by rfl)
  refine ws_while (W := fun m E os => ∃ x y : Int, 0 ≤ x ∧ 0 ≤ y ∧ y.toNat = m ∧ Int.gcd x y = Int.gcd a b ∧ E = [some (DD K (.int a)), some (DD K (.int b)), some (DD K (.int x)), some (DD K (.int y))] ∧ os = []) (m0 := b.toNat) PassesOwn.never ⟨if a < 0 then -a else a, b, by split <;> omega, by omega, rfl, by split <;> simp, rfl, rfl⟩ ?_
  rintro m E os ⟨x, y, hx, hy, hm, hg, rfl, rfl⟩
  refine ⟨_, _, _, Vw.refl, gb_cm (gv 3) c_gt g_int, fun h => ?_, fun h => ?_⟩
  · have hy' : 0 < y := by simpa using h
    refine ws_par 2 3 rfl sc_law_low.nd rfl rfl (by decide) rfl rfl (gad_cons (gv 3) (gad_cons (g_mod (gv 2) (gv 3) hy') gad_nil)) ?_ (by rfl)
    refine ws_nil ⟨(x % y).toNat, ?_, y, x % y, by omega, Int.emod_nonneg _ (by omega), rfl, (gcd_step hx hy').trans hg, rfl, rfl⟩
    have := Int.emod_lt_of_pos x hy'
    have := Int.emod_nonneg x (show y ≠ 0 by omega)
    omega
  · have hy0 : y = 0 := by
      have : ¬ 0 < y := by simpa using h
      omega
    subst hy0
    have e : x = ((Int.gcd a b : Nat) : Int) := by rw [← hg, Int.gcd_zero_right]; omega
    subst e
    exact ws_ret (gt_tup (gad_cons (g_divW (gv 0) (gv 2) hg2.1) (gad_cons (g_divW (gv 1) (gv 2) hg2.2) gad_nil))) (fun F v h => h)
theorem sc_law_less : FnScope N_xy ["one", "other"] (defScope st_law_less) := ⟨rfl, rfl, rfl, by decide +kernel, rfl, by decide +kernel, by decide +kernel⟩
theorem ok_law_less {f : Addr} {fd : FuncData} (F : Fun K "_law_less" "_law_less" st_law_less f fd) : FnOk P w K mg base CX0 1 f fd ["one", "other"] (spG K (q_less K)) := by
  refine fn_G F sc_law_less (fun Rs d h => by obtain ⟨_, _, _, _, _, _, _, rfl, _⟩ := h; rfl) (fun cdv A outer s H F0 E hr Rs d hq => ?_)
  obtain ⟨m, n, x, y, hx, hy, h, rfl, rfl⟩ := hq
  have pm := hx.pos; have pn := hy.pos
  exact ws_ret (g_cm (g_mulW (g_ixT (gv 0) g_int rfl) (g_ixT (gv 1) g_int rfl) (mulW hx.t hy.b pm pn)) c_lt (g_mulW (g_ixT (gv 1) g_int rfl) (g_ixT (gv 0) g_int rfl) (mulW hy.t hx.b pn pm))) (fun F v h => h)
abbrev N_law_bounds : List Str := ["length", "weight", "slack", "top", "bottom"]
abbrev N_law_power : List Str := ["one", "many", "found", "k"]
def q_power (K : PySem.W.Frag) (Rs : List RP) (d : PyData) : Prop := ∃ (n m : Nat) (x : Fr), Sz n x ∧ n * m + n ≤ 8000 ∧ m < 1000 ∧ Rs = [DD K (dF x), DD K (.int (m : Nat))] ∧ d = dF (powM x m)
theorem i_power {n m : Nat} {x : Fr} (h1 : Sz n x) (h2 : n * m + n ≤ 8000) (h3 : m < 1000) : q_power K [DD K (dF x), DD K (.int (m : Nat))] (dF (powM x m)) := ⟨n, m, x, h1, h2, h3, rfl, rfl⟩
end
end Z
namespace Z
open PySem PySem.Spec PyProof.Rows L2
variable [Vo]
structure Fo where
  s : Int
  l : Int
  w : Int
  b : Int
  a : Int
  deriving DecidableEq
abbrev dFo (f : Fo) : PyData := sT [.int f.s, .int f.l, .int f.w, .int f.b, .int f.a]
structure FoOk (f : Fo) : Prop where
  s1 : 1 ≤ f.s
  sl : f.s < f.l
  l60 : f.l ≤ 60
  w1 : 1 ≤ f.w
  wb : f.w < f.b
  ba : f.b < f.a
  a60 : f.a ≤ 60
def pk2 (i a b : Int) : Int := if i = 0 then a else b
def pk3 (i a b c : Int) : Int := if i = 0 then a else if i = 1 then b else c
theorem at_2 {i a b : Int} (h : 0 ≤ i ∧ i < 2) : L2.atI [PyData.int a, .int b] i = some (.int (pk2 i a b)) := by
  have e : i = 0 ∨ i = 1 := by omega
  rcases e with e | e <;> subst e <;> rfl
theorem at_3 {i a b c : Int} (h : 0 ≤ i ∧ i < 3) : L2.atI [PyData.int a, .int b, .int c] i = some (.int (pk3 i a b c)) := by
  have e : i = 0 ∨ i = 1 ∨ i = 2 := by omega
  rcases e with e | e | e <;> subst e <;> rfl
theorem pk2_or {i a b : Int} : pk2 i a b = a ∨ pk2 i a b = b := by unfold pk2; split <;> simp
theorem pk3_or {i a b c : Int} : pk3 i a b c = a ∨ pk3 i a b c = b ∨ pk3 i a b c = c := by unfold pk3; split; simp; split <;> simp
theorem md2 (a : Int) : 0 ≤ a % 2 ∧ a % 2 < 2 := by omega
theorem md3 (a : Int) : 0 ≤ a % 3 ∧ a % 3 < 3 := by omega
theorem at_dr {ns : List Int} {k many n : Nat} {b : Int} (h : n < many) {i : Int} (e : i = (n : Int) := by rfl) : L2.atI ((drawsM ns k many b).map PyData.int) i = some (.int (dr (drawsM ns k many b) n)) := at_map (dr_get (by rw [drawsM_len]; exact h)) e
def formM (ns : List Int) (k : Nat) : Fo :=
  let p := dr (drawsM ns k 6 27720)
  if p 5 % 3 = 0 then ⟨1, 3, 1, 3, 7⟩ else
    let m := pk2 (p 5 / 3 % 2) 4 30
    let s := 1 + p 0 % m
    let w := 1 + p 2 % 5
    let b := w + 1 + p 3 % pk2 (p 5 / 6 % 2) 3 20
    ⟨s, s + 1 + p 1 % m, w, b, b + 1 + p 4 % 9⟩
theorem formM_ok (ns : List Int) (k : Nat) : FoOk (formM ns k) := by
  unfold formM
  simp only
  generalize dr (drawsM ns k 6 27720) = p
  split
  · constructor <;> decide
  · have h1 : pk2 (p 5 / 3 % 2) 4 30 = 4 ∨ pk2 (p 5 / 3 % 2) 4 30 = 30 := pk2_or
    have h2 : pk2 (p 5 / 6 % 2) 3 20 = 3 ∨ pk2 (p 5 / 6 % 2) 3 20 = 20 := pk2_or
    rcases h1 with h1 | h1 <;> rcases h2 with h2 | h2 <;> rw [h1, h2] <;> constructor <;> simp only <;> omega
abbrev dH (h : Fr × Fr) : PyData := .tuple [dF h.1, dF h.2]
structure HOk' (n : Nat) (h : Fr × Fr) : Prop where
  s : Sz n h.1
  so : SlackOk h.1
  d : Sz n h.2
  d1 : h.2.2 ≤ h.2.1
  sr : Rd h.1
  dr : Rd h.2
def handM (ns : List Int) (k : Nat) : Fr × Fr :=
  let p := dr (drawsM ns k 5 27720)
  let bottom := 1 + p 0 % pk3 (p 4 % 3) 12 60 997
  let sl0 := madeM (p 1 % bottom) (bottom * pk2 (p 0 % 2) 2 3)
  let sl := if p 4 / 3 % 4 = 0 then (if p 1 % 4 = 0 then (0, 1) else if p 1 % 4 = 1 then (1, 5) else if p 1 % 4 = 2 then (1, 3) else (1, 2)) else sl0
  let under := 1 + p 2 % 20
  (sl, if p 4 / 12 % 2 = 1 then madeM (under + p 3 % (1 + under)) under else (1, 1))
theorem madeM_lt {a b : Int} (h0 : 0 ≤ a) (h : a < b) : SlackOk (madeM a b) := by
  have hb : 0 < b := by omega
  obtain ⟨h1, h2⟩ := madeM_mul (a := a) (b := b)
  have hg := gcd_posR (a := a) hb
  refine ⟨Int.ediv_nonneg h0 (by omega), ?_⟩
  rcases (show (madeM a b).1 < (madeM a b).2 ∨ (madeM a b).2 ≤ (madeM a b).1 by omega) with q | q
  · exact q
  · have := Int.mul_le_mul_of_nonneg_left q (show 0 ≤ ((Int.gcd a b : Nat) : Int) by omega)
    omega
theorem madeM_ge {a b : Int} (hb : 0 < b) (h : b ≤ a) : (madeM a b).2 ≤ (madeM a b).1 := by
  obtain ⟨h1, h2⟩ := madeM_mul (a := a) (b := b)
  have hg := gcd_posR (a := a) hb
  rcases (show (madeM a b).1 < (madeM a b).2 ∨ (madeM a b).2 ≤ (madeM a b).1 by omega) with q | q
  · have := Int.mul_lt_mul_of_pos_left q hg
    omega
  · exact q
theorem handM_ok (ns : List Int) (k : Nat) : HOk' 14 (handM ns k) := by
  unfold handM
  simp only
  generalize hp : dr (drawsM ns k 5 27720) = p
  have b3 : pk3 (p 4 % 3) 12 60 997 = 12 ∨ pk3 (p 4 % 3) 12 60 997 = 60 ∨ pk3 (p 4 % 3) 12 60 997 = 997 := pk3_or
  have b2 : pk2 (p 0 % 2) 2 3 = 2 ∨ pk2 (p 0 % 2) 2 3 = 3 := pk2_or
  generalize hbt : 1 + p 0 % pk3 (p 4 % 3) 12 60 997 = bt
  have hb : 1 ≤ bt ∧ bt ≤ 997 := by rcases b3 with e | e | e <;> rw [e] at hbt <;> omega
  have m1 := Int.emod_nonneg (p 1) (show bt ≠ 0 by omega)
  have m2 := Int.emod_lt_of_pos (p 1) (show 0 < bt by omega)
  generalize hbb : bt * pk2 (p 0 % 2) 2 3 = bb
  have hbb' : bt < bb ∧ bb ≤ 2991 := by rcases b2 with e | e <;> rw [e] at hbb <;> omega
  have s0 : Sz 14 (madeM (p 1 % bt) bb) := madeM_sz (ab_lt m1 (by omega)) (by omega) (ab_lt (by omega) (by omega))
  have s1 : Rd (madeM (p 1 % bt) bb) := madeM_rd (by omega)
  have s2 : SlackOk (madeM (p 1 % bt) bb) := madeM_lt m1 (by omega)
  have un : 1 ≤ 1 + p 2 % 20 ∧ 1 + p 2 % 20 ≤ 20 := by omega
  generalize 1 + p 2 % 20 = u at un
  have u1 := Int.emod_nonneg (p 3) (show 1 + u ≠ 0 by omega)
  have u2 := Int.emod_lt_of_pos (p 3) (show 0 < 1 + u by omega)
  have d0 : Sz 14 (madeM (u + p 3 % (1 + u)) u) := madeM_sz (ab_lt (by omega) (by omega)) (by omega) (ab_lt (by omega) (by omega))
  have d1 : Rd (madeM (u + p 3 % (1 + u)) u) := madeM_rd (by omega)
  have d2 := madeM_ge (a := u + p 3 % (1 + u)) (b := u) (by omega) (by omega)
  have sl : ∀ x : Fr, x = (if p 4 / 3 % 4 = 0 then (if p 1 % 4 = 0 then (0, 1) else if p 1 % 4 = 1 then (1, 5) else if p 1 % 4 = 2 then (1, 3) else (1, 2)) else madeM (p 1 % bt) bb) → Sz 14 x ∧ Rd x ∧ SlackOk x := by
    rintro x rfl
    split
    · split
      · exact ⟨⟨by decide, by decide, by decide⟩, ⟨by decide, by decide⟩, by decide, by decide⟩
      · split
        · exact ⟨⟨by decide, by decide, by decide⟩, ⟨by decide, by decide⟩, by decide, by decide⟩
        · split
          · exact ⟨⟨by decide, by decide, by decide⟩, ⟨by decide, by decide⟩, by decide, by decide⟩
          · exact ⟨⟨by decide, by decide, by decide⟩, ⟨by decide, by decide⟩, by decide, by decide⟩
    · exact ⟨s0, s1, s2⟩
  have dd : ∀ x : Fr, x = (if p 4 / 12 % 2 = 1 then madeM (u + p 3 % (1 + u)) u else (1, 1)) → Sz 14 x ∧ Rd x ∧ x.2 ≤ x.1 := by
    rintro x rfl
    split
    · exact ⟨d0, d1, d2⟩
    · exact ⟨⟨by decide, by decide, by decide⟩, ⟨by decide, by decide⟩, by decide⟩
  obtain ⟨x1, x2, x3⟩ := sl _ rfl
  obtain ⟨y1, y2, y3⟩ := dd _ rfl
  exact ⟨x1, x3, y1, y3, x2, y2⟩
section
variable {P : Program} {w : World} {K : PySem.W.Frag} {mg : Str → Option Value} {base : Heap}
abbrev N_law_form : List Str := ["script", "at", "plan", "short", "within", "between"]
theorem sc_law_form : FnScope N_law_form ["script", "at"] (defScope st_law_form) := ⟨rfl, rfl, rfl, by decide +kernel, rfl, by decide +kernel, by decide +kernel⟩
def q_law_form (K : PySem.W.Frag) (Rs : List RP) (d : PyData) : Prop := ∃ (ns : List Int) (a : Nat), a ≤ 900 ∧ Rs = [ScR K ns, DD K (.int a)] ∧ d = dFo (formM ns a)
theorem ok_law_form {f : Addr} {fd : FuncData} (F : Fun K "_law_form" "_law_form" st_law_form f fd) (C_law_draws : FnD P w K mg base 2 "_law_draws" ["script", "k", "many", "base"] (spN K (q_law_draws K))) : FnOk P w K mg base CX0 3 f fd ["script", "at"] (spG K (q_law_form K)) := by
  refine fn_G F sc_law_form (fun Rs d h => by obtain ⟨_, _, _, rfl, _⟩ := h; rfl) (fun cdv A outer s H F0 E hr Rs d hq => ?_)
  obtain ⟨ns, a, ha, rfl, rfl⟩ := hq
  have sm : Mono (ScR K ns) := ScR.mo
  refine ws_set 2 sc_law_form.nd rfl (.inl rfl) (n_callN C_law_draws (hr.mono (by decide)) (ga_cons (gv 0) (ga_cons (gv 1) (ga_cons g_int (ga_cons g_int ga_nil)))) (i_law_draws (k := a) (many := 6) (bs := 27720) (by omega) (by decide) (by decide) (by decide))).ge ?_
  refine ws_if Vw.refl (gb_cm (g_mod (g_ixL (gv 2) g_int (at_dr (n := 5) (by decide))) g_int (by decide)) c_eqI g_int) (fun h => ?_) (fun h => ?_)
  · have h' : dr (drawsM ns a 6 27720) 5 % 3 = 0 := by simpa using h
    refine ws_ret (gt_tupS (gad_cons g_int (gad_cons g_int (gad_cons g_int (gad_cons g_int (gad_cons g_int gad_nil)))))) (fun F v q => ?_)
    unfold formM; simp only; rw [if_pos h']; exact q
  have h' : ¬ dr (drawsM ns a 6 27720) 5 % 3 = 0 := by simpa using h
  have h1 : 0 < pk2 (dr (drawsM ns a 6 27720) 5 / 3 % 2) 4 30 := by rcases pk2_or (i := dr (drawsM ns a 6 27720) 5 / 3 % 2) (a := 4) (b := 30) with e | e <;> rw [e] <;> decide
  have h2 : 0 < pk2 (dr (drawsM ns a 6 27720) 5 / 6 % 2) 3 20 := by rcases pk2_or (i := dr (drawsM ns a 6 27720) 5 / 6 % 2) (a := 3) (b := 20) with e | e <;> rw [e] <;> decide
  refine ws_nil ?_
  refine ws_set 3 sc_law_form.nd rfl (.inl rfl) (g_add g_int (g_mod (g_ixL (gv 2) g_int (at_dr (n := 0) (by decide))) (g_ixL (n_lst (gad_cons g_int (gad_cons g_int gad_nil))).ge (g_mod (g_div (g_ixL (gv 2) g_int (at_dr (n := 5) (by decide))) g_int ⟨by decide, by decide⟩) g_int (by decide)) (at_2 (md2 _))) h1)) ?_
  refine ws_set 4 sc_law_form.nd rfl (.inl rfl) (g_add g_int (g_mod (g_ixL (gv 2) g_int (at_dr (n := 2) (by decide))) g_int (by decide))) ?_
  refine ws_set 5 sc_law_form.nd rfl (.inl rfl) (g_add (g_add (gv 4) g_int) (g_mod (g_ixL (gv 2) g_int (at_dr (n := 3) (by decide))) (g_ixL (n_lst (gad_cons g_int (gad_cons g_int gad_nil))).ge (g_mod (g_div (g_ixL (gv 2) g_int (at_dr (n := 5) (by decide))) g_int ⟨by decide, by decide⟩) g_int (by decide)) (at_2 (md2 _))) h2)) ?_
  refine ws_ret (gt_tupS (gad_cons (gv 3) (gad_cons (g_add (g_add (gv 3) g_int) (g_mod (g_ixL (gv 2) g_int (at_dr (n := 1) (by decide))) (g_ixL (n_lst (gad_cons g_int (gad_cons g_int gad_nil))).ge (g_mod (g_div (g_ixL (gv 2) g_int (at_dr (n := 5) (by decide))) g_int ⟨by decide, by decide⟩) g_int (by decide)) (at_2 (md2 _))) h1)) (gad_cons (gv 4) (gad_cons (gv 5) (gad_cons (g_add (g_add (gv 5) g_int) (g_mod (g_ixL (gv 2) g_int (at_dr (n := 4) (by decide))) g_int (by decide))) gad_nil)))))) (fun F v q => ?_)
  unfold formM; simp only; rw [if_neg h']; exact q
abbrev N_law_hand : List Str := ["script", "at", "plan", "bottom", "slack", "drift", "under"]
theorem sc_law_hand : FnScope N_law_hand ["script", "at"] (defScope st_law_hand) := ⟨rfl, rfl, rfl, by decide +kernel, rfl, by decide +kernel, by decide +kernel⟩
def q_law_hand (K : PySem.W.Frag) (Rs : List RP) (d : PyData) : Prop := ∃ (ns : List Int) (a : Nat), a ≤ 900 ∧ Rs = [ScR K ns, DD K (.int a)] ∧ d = dH (handM ns a)
theorem ok_law_hand {f : Addr} {fd : FuncData} (F : Fun K "_law_hand" "_law_hand" st_law_hand f fd) (C_law_draws : FnD P w K mg base 2 "_law_draws" ["script", "k", "many", "base"] (spN K (q_law_draws K))) (C_law_low : FnD P w K mg base 1 "_law_low" ["top", "bottom"] (spG K (q_made K))) : FnOk P w K mg base CX0 3 f fd ["script", "at"] (spG K (q_law_hand K)) := by
  refine fn_G F sc_law_hand (fun Rs d h => by obtain ⟨_, _, _, rfl, _⟩ := h; rfl) (fun cdv A outer s H F0 E hr Rs d hq => ?_)
  obtain ⟨ns, a, ha, rfl, rfl⟩ := hq
  have sm : Mono (ScR K ns) := ScR.mo
  refine ws_set 2 sc_law_hand.nd rfl (.inl rfl) (n_callN C_law_draws (hr.mono (by decide)) (ga_cons (gv 0) (ga_cons (gv 1) (ga_cons g_int (ga_cons g_int ga_nil)))) (i_law_draws (k := a) (many := 5) (bs := 27720) (by omega) (by decide) (by decide) (by decide))).ge ?_
  have at0 : ∀ n : Nat, n < 5 → L2.atI ((drawsM ns a 5 27720).map PyData.int) (n : Int) = some (.int (dr (drawsM ns a 5 27720) n)) := fun n h => at_dr h
  generalize hxs : drawsM ns a 5 27720 = xs at at0
  have b3 : pk3 (dr xs 4 % 3) 12 60 997 = 12 ∨ pk3 (dr xs 4 % 3) 12 60 997 = 60 ∨ pk3 (dr xs 4 % 3) 12 60 997 = 997 := pk3_or
  have b2 : pk2 (dr xs 0 % 2) 2 3 = 2 ∨ pk2 (dr xs 0 % 2) 2 3 = 3 := pk2_or
  have h3 : 0 < pk3 (dr xs 4 % 3) 12 60 997 := by rcases b3 with e | e | e <;> rw [e] <;> decide
  refine ws_set 3 sc_law_hand.nd rfl (.inl rfl) (g_add g_int (g_mod (g_ixL (gv 2) g_int (at0 0 (by decide))) (g_ixL (n_lst (gad_cons g_int (gad_cons g_int (gad_cons g_int gad_nil)))).ge (g_mod (g_ixL (gv 2) g_int (at0 4 (by decide))) g_int (by decide)) (at_3 (md3 _))) h3)) ?_
  generalize hbt : 1 + dr xs 0 % pk3 (dr xs 4 % 3) 12 60 997 = bt
  have hb : 1 ≤ bt ∧ bt ≤ 997 := by rcases b3 with e | e | e <;> rw [e] at hbt <;> omega
  have hbb : 0 < bt * pk2 (dr xs 0 % 2) 2 3 ∧ bt * pk2 (dr xs 0 % 2) 2 3 ≤ 2991 := by rcases b2 with e | e <;> rw [e] <;> omega
  refine ws_set 4 sc_law_hand.nd rfl (.inl rfl) (g_callG C_law_low (hr.mono (by decide)) (ga_cons (g_mod (g_ixL (gv 2) g_int (at0 1 (by decide))) (gv 3) (by omega)) (ga_cons (g_mul (gv 3) (g_ixL (n_lst (gad_cons g_int (gad_cons g_int gad_nil))).ge (g_mod (g_ixL (gv 2) g_int (at0 0 (by decide))) g_int (by decide)) (at_2 (md2 _))) (.inl ⟨by omega, by omega⟩)) ga_nil)) (i_made_s hbb.1 (by omega))) ?_
  refine ws_ifJ (J := fun E os => E = [some (ScR K ns), some (DD K (.int a)), some (DD K (.list (xs.map .int))), some (DD K (.int bt)), some (DD K (dF (handM ns a).1)), none, none] ∧ os = []) Vw.refl (gb_cm (g_mod (g_div (g_ixL (gv 2) g_int (at0 4 (by decide))) g_int ⟨by decide, by decide⟩) g_int (by decide)) c_eqI g_int) (fun h => ?_) (fun h => ?_) ?_
  · have h' : dr xs 4 / 3 % 4 = 0 := by simpa using h
    have at4 : L2.atI [dF (0, 1), dF (1, 5), dF (1, 3), dF (1, 2)] (dr xs 1 % 4) = some (dF (if dr xs 1 % 4 = 0 then (0, 1) else if dr xs 1 % 4 = 1 then (1, 5) else if dr xs 1 % 4 = 2 then (1, 3) else (1, 2))) := by
      have e : dr xs 1 % 4 = 0 ∨ dr xs 1 % 4 = 1 ∨ dr xs 1 % 4 = 2 ∨ dr xs 1 % 4 = 3 := by omega
      rcases e with e | e | e | e <;> rw [e] <;> rfl
    refine ws_set 4 sc_law_hand.nd rfl (.inl rfl) (g_ixL (n_lst (gad_cons (gt_tup (gad_cons g_int (gad_cons g_int gad_nil))) (gad_cons (gt_tup (gad_cons g_int (gad_cons g_int gad_nil))) (gad_cons (gt_tup (gad_cons g_int (gad_cons g_int gad_nil))) (gad_cons (gt_tup (gad_cons g_int (gad_cons g_int gad_nil))) gad_nil))))).ge (g_mod (g_ixL (gv 2) g_int (at0 1 (by decide))) g_int (by decide)) at4) (ws_nil ⟨?_, rfl⟩)
    have e : (handM ns a).1 = (if dr xs 1 % 4 = 0 then (0, 1) else if dr xs 1 % 4 = 1 then (1, 5) else if dr xs 1 % 4 = 2 then (1, 3) else (1, 2)) := by unfold handM; simp only; rw [hxs, if_pos h']
    rw [e]; rfl
  · have h' : ¬ dr xs 4 / 3 % 4 = 0 := by simpa using h
    refine ws_nil ⟨?_, rfl⟩
    have e : (handM ns a).1 = madeM (dr xs 1 % bt) (bt * pk2 (dr xs 0 % 2) 2 3) := by unfold handM; simp only; rw [hxs, if_neg h', hbt]
    rw [e]; rfl
  rintro E os ⟨rfl, rfl⟩
  refine ws_set 5 sc_law_hand.nd rfl (.inl rfl) (gt_tup (gad_cons g_int (gad_cons g_int gad_nil))) ?_
  refine ws_ifJ (J := fun E os => (∃ u, E = [some (ScR K ns), some (DD K (.int a)), some (DD K (.list (xs.map .int))), some (DD K (.int bt)), some (DD K (dF (handM ns a).1)), some (DD K (dF (handM ns a).2)), u]) ∧ os = []) Vw.refl (gb_cm (g_mod (g_div (g_ixL (gv 2) g_int (at0 4 (by decide))) g_int ⟨by decide, by decide⟩) g_int (by decide)) c_eqI g_int) (fun h => ?_) (fun h => ?_) ?_
  · have h' : dr xs 4 / 12 % 2 = 1 := by simpa using h
    refine ws_set 6 sc_law_hand.nd rfl (.inl rfl) (g_add g_int (g_mod (g_ixL (gv 2) g_int (at0 2 (by decide))) g_int (by decide))) ?_
    refine ws_set 5 sc_law_hand.nd rfl (.inl rfl) (g_callG C_law_low (hr.mono (by decide)) (ga_cons (g_add (gv 6) (g_mod (g_ixL (gv 2) g_int (at0 3 (by decide))) (g_add g_int (gv 6)) (by omega))) (ga_cons (gv 6) ga_nil)) (i_made_s (by omega) (by omega))) (ws_nil ⟨⟨some (DD K (.int (1 + dr xs 2 % 20))), ?_⟩, rfl⟩)
    have e : (handM ns a).2 = madeM (1 + dr xs 2 % 20 + dr xs 3 % (1 + (1 + dr xs 2 % 20))) (1 + dr xs 2 % 20) := by unfold handM; simp only; rw [hxs, if_pos h']
    rw [e]; rfl
  · have h' : ¬ dr xs 4 / 12 % 2 = 1 := by simpa using h
    refine ws_nil ⟨⟨none, ?_⟩, rfl⟩
    have e : (handM ns a).2 = (1, 1) := by unfold handM; simp only; rw [hxs, if_neg h']
    rw [e]; rfl
  rintro E os ⟨⟨u, rfl⟩, rfl⟩
  exact ws_ret (gt_tup (gad_cons (gv 4) (gad_cons (gv 5) gad_nil))) (fun F v h => h)
end
end Z
namespace Z
open PySem PySem.Spec PyProof.Rows L2
variable [Vo]
abbrev Itm := Bool × (Nat × List Nat)
def flatI (i : Itm) : List Nat := (if i.1 then [32] else []) ++ [i.2.1]
def flatT (is : List Itm) : List Nat := is.flatMap flatI
def textN (ns : List Int) (a : Nat) (most : Nat) : Nat := (1 + dr (drawsM ns a 24 27720) 0 % most).toNat
def itmM (ns : List Int) (a : Nat) (bk : Bk0) (k : Nat) : Itm :=
  let d := dr (drawsM ns a 24 27720) (1 + k)
  (decide (0 < k ∧ d % 4 = 0), bk.getD (d / 4 % bk.length).toNat (0, []))
def itmsM (ns : List Int) (a : Nat) (bk : Bk0) (most : Nat) : List Itm := (List.range (textN ns a most)).map (itmM ns a bk)
def textM (ns : List Int) (a : Nat) (bk : Bk0) (most : Nat) : List Nat := flatT (itmsM ns a bk most)
theorem flatT_snoc {is : List Itm} {i : Itm} : flatT (is ++ [i]) = flatT is ++ flatI i := by unfold flatT; simp
theorem flatT_len (is : List Itm) : (flatT is).length ≤ 2 * is.length := by
  induction is with
  | nil => simp [flatT]
  | cons a t ih =>
    have : flatT (a :: t) = flatI a ++ flatT t := by unfold flatT; simp
    rw [this, List.length_append, List.length_cons]
    have : (flatI a).length ≤ 2 := by unfold flatI; split <;> simp
    omega
theorem textN_bd {ns : List Int} {a most : Nat} (h : 0 < most) : 1 ≤ textN ns a most ∧ textN ns a most ≤ most ∧ ((textN ns a most : Nat) : Int) = 1 + dr (drawsM ns a 24 27720) 0 % most := by
  unfold textN
  have h1 := Int.emod_nonneg (dr (drawsM ns a 24 27720) 0) (show (most:Int) ≠ 0 by omega)
  have h2 := Int.emod_lt_of_pos (dr (drawsM ns a 24 27720) 0) (show (0:Int) < most by omega)
  omega
structure BkOk (bk : Bk0) : Prop where
  ne : bk ≠ []
  len : bk.length ≤ 36
  nd : (bk.map (·.1)).Nodup
  rnd : (bk.map (·.2)).Nodup
  sp : ∀ p, p ∈ bk → p.1 ≠ 32
  ch : ∀ p, p ∈ bk → p.1 < 1114112
  row : ∀ p, p ∈ bk → p.2 ≠ [] ∧ p.2.length ≤ 8 ∧ ∀ c, c ∈ p.2 → c = 46 ∨ c = 45
theorem rowM_ok {d : Int} (h : 0 ≤ d) : rowM d ≠ [] ∧ (rowM d).length ≤ 8 ∧ ∀ c, c ∈ rowM d → c = 46 ∨ c = 45 := by
  obtain ⟨h1, h2⟩ := longM_bd h
  have hl : (rowM d).length = (longM d).toNat := by unfold rowM; rw [List.length_map, List.length_range]
  refine ⟨fun e => ?_, by omega, fun c hc => ?_⟩
  · rw [e] at hl; simp at hl; omega
  · obtain ⟨j, _, rfl⟩ := List.mem_map.mp hc
    have e : (d / 96 / 2 ^ j % 2).toNat = 0 ∨ (d / 96 / 2 ^ j % 2).toNat = 1 := by omega
    rcases e with e | e <;> rw [e] <;> simp
theorem brun_rows : ∀ {xs : List Int}, (∀ x, x ∈ xs → 0 ≤ x) → ∀ p, p ∈ (brun xs).found → p.2 ≠ [] ∧ p.2.length ≤ 8 ∧ ∀ c, c ∈ p.2 → c = 46 ∨ c = 45 := by
  intro xs
  generalize hn : xs.length = n
  induction n generalizing xs with
  | zero =>
    intro _ p hp
    have : xs = [] := List.length_eq_zero_iff.mp hn
    subst this
    exact absurd hp (by simp [brun])
  | succ n ih =>
    intro hx
    have hne : xs ≠ [] := fun e => by subst e; simp at hn
    have e := List.dropLast_concat_getLast hne
    have i1 := ih (xs := xs.dropLast) (by rw [List.length_dropLast]; omega) (fun x h => hx x (List.dropLast_subset _ h))
    rw [← e, brun_snoc]
    intro p hp
    unfold bstep at hp
    split at hp
    · exact i1 p hp
    · rcases List.mem_append.mp hp with q | q
      · exact i1 p q
      · have : p = _ := List.mem_singleton.mp q
        subst this
        exact rowM_ok (hx _ (List.getLast_mem hne))
theorem bookM_ok {ns : List Int} {a most : Nat} (h0 : 0 < most) (hm : most ≤ 36) : BkOk (bookM ns a most) ∧ (bookM ns a most).length ≤ most := by
  unfold bookM
  have hbn : 1 ≤ bookN ns a most ∧ bookN ns a most ≤ most := by
    unfold bookN
    have h1 := Int.emod_nonneg (dr (drawsM ns a 3 27720) 0) (show (most:Int) ≠ 0 by omega)
    have h2 := Int.emod_lt_of_pos (dr (drawsM ns a 3 27720) 0) (show (0:Int) < most by omega)
    omega
  generalize hxs : (drawsM ns (a + 1) 40 27720).take (bookN ns a most) = xs
  have hl : xs.length = bookN ns a most := by rw [← hxs, List.length_take, drawsM_len]; omega
  have hb : ∀ x, x ∈ xs → 0 ≤ x := fun x h => by rw [← hxs] at h; exact (drawsM_bd (by decide) x (List.mem_of_mem_take h)).1
  obtain ⟨i1, i2⟩ := brun_inv (xs := xs) (by omega) hb
  have i3 := brun_rows hb
  have nd := i1.nd
  refine ⟨⟨?_, by omega, (List.nodup_append.mp nd).2.1, ?_, fun p hp => ?_, fun p hp => (show ∀ c, c ∈ SG → c < 1114112 by decide) _ (i1.sg p.1 (List.mem_append_right _ (List.mem_map.mpr ⟨p, hp, rfl⟩))), i3⟩, by omega⟩
  · have hne : xs ≠ [] := fun e => by subst e; simp at hl; omega
    rw [← List.dropLast_concat_getLast hne, brun_snoc]
    unfold bstep
    split
    · rename_i hr
      obtain ⟨j1, _⟩ := brun_inv (xs := xs.dropLast) (by rw [List.length_dropLast]; omega) (fun x h => hb x (List.dropLast_subset _ h))
      intro e
      rw [j1.rows, e] at hr
      simp at hr
    · simp
  · rw [← i1.rows]; exact i1.rnd
  · intro e
    have := i1.sg p.1 (List.mem_append_right _ (List.mem_map.mpr ⟨p, hp, rfl⟩))
    rw [e] at this
    exact absurd this (by decide)
theorem itm_mem {ns : List Int} {a : Nat} {bk : Bk0} {k : Nat} (h : bk ≠ []) : (itmM ns a bk k).2 ∈ bk := by
  unfold itmM
  simp only
  have hl : 0 < (bk.length : Int) := by have := List.length_pos_iff.mpr h; omega
  have h1 := Int.emod_nonneg (dr (drawsM ns a 24 27720) (1 + k) / 4) (show (bk.length : Int) ≠ 0 by omega)
  have h2 := Int.emod_lt_of_pos (dr (drawsM ns a 24 27720) (1 + k) / 4) hl
  have hn : (dr (drawsM ns a 24 27720) (1 + k) / 4 % bk.length).toNat < bk.length := by omega
  rw [List.getD_eq_getElem?_getD, List.getElem?_eq_getElem hn]
  exact List.getElem_mem hn
section
variable {P : Program} {w : World} {K : PySem.W.Frag} {mg : Str → Option Value} {base : Heap}
abbrev N_law_text : List Str := ["script", "at", "book", "most", "draws", "text", "k"]
theorem sc_law_text : FnScope N_law_text ["script", "at", "book", "most"] (defScope st_law_text) := ⟨rfl, rfl, rfl, by decide +kernel, rfl, by decide +kernel, by decide +kernel⟩
def q_law_text (K : PySem.W.Frag) (Rs : List RP) (d : PyData) : Prop := ∃ (ns : List Int) (a : Nat) (bk : Bk0) (m : Nat), a ≤ 900 ∧ 0 < m ∧ m ≤ 23 ∧ bk ≠ [] ∧ bk.length ≤ 100 ∧ Rs = [ScR K ns, DD K (.int a), DD K (.list (bk.map encP)), DD K (.int m)] ∧ d = .str (mk (textM ns a bk m))
theorem ok_law_text {f : Addr} {fd : FuncData} (F : Fun K "_law_text" "_law_text" st_law_text f fd) (Bn : Bn mg) (C_law_draws : FnD P w K mg base 2 "_law_draws" ["script", "k", "many", "base"] (spN K (q_law_draws K))) : FnOk P w K mg base CX0 3 f fd ["script", "at", "book", "most"] (spG K (q_law_text K)) := by
  refine fn_G F sc_law_text (fun Rs d h => by obtain ⟨_, _, _, _, _, _, _, _, _, rfl, _⟩ := h; rfl) (fun cdv A outer s H F0 E hr Rs d hq => ?_)
  obtain ⟨ns, a, bk, m, ha, h0, hm, hne, hlen, rfl, rfl⟩ := hq
  have sm : Mono (ScR K ns) := ScR.mo
  obtain ⟨t1, t2, t3⟩ := textN_bd (ns := ns) (a := a) h0
  refine ws_set 4 sc_law_text.nd rfl (.inl rfl) (n_callN C_law_draws (hr.mono (by decide)) (ga_cons (gv 0) (ga_cons (gv 1) (ga_cons g_int (ga_cons g_int ga_nil)))) (i_law_draws (k := a) (many := 24) (bs := 27720) (by omega) (by decide) (by decide) (by decide))).ge ?_
  have bdl : 0 < (bk.length : Int) := by have := List.length_pos_iff.mpr hne; omega
  refine ws_set 5 sc_law_text.nd rfl (.inl rfl) (g_s []) ?_
  refine ws_forL (xs := List.range (textN ns a m)) (enc := fun j => .int (j : Nat)) (sl := [6]) PassesOwn.never rfl (l_rangeN Bn (g_is (g_add g_int (g_mod (g_ixL (gv 4) g_int (at_map (dr_get (n := 0) (by rw [drawsM_len]; decide)))) (gv 3) (by omega))) (by rw [← t3])) (by omega)) (fun x hx => (gt_name 6 DD.mo sc_law_text.nd rfl (.inl rfl)))
    (fun pre E os => (∃ k, E = [some (ScR K ns), some (DD K (.int a)), some (DD K (.list (bk.map encP))), some (DD K (.int m)), some (DD K (.list ((drawsM ns a 24 27720).map .int))), some (DD K (.str (mk (flatT (pre.map (itmM ns a bk)))))), k]) ∧ os = []) ⟨⟨none, rfl⟩, rfl⟩ ?_ ?_
  · rintro pre x post E os hxs ⟨⟨k, rfl⟩, rfl⟩
    obtain ⟨hx, hxm⟩ := range_at hxs
    have hx24 : 1 + x < 24 := by omega
    have ga1 : L2.atI ((drawsM ns a 24 27720).map PyData.int) ((1 : Int) + ((x : Nat) : Int)) = some (.int (dr (drawsM ns a 24 27720) (1 + x))) := at_dr hx24 (by omega)
    have hfl := flatT_len (pre.map (itmM ns a bk))
    rw [List.length_map] at hfl
    have hd0 : 0 ≤ dr (drawsM ns a 24 27720) (1 + x) := (dr_bd (by decide) hx24).1
    have hq1 := Int.emod_nonneg (dr (drawsM ns a 24 27720) (1 + x) / 4) (show (bk.length : Int) ≠ 0 by omega)
    have hq2 := Int.emod_lt_of_pos (dr (drawsM ns a 24 27720) (1 + x) / 4) bdl
    have hn : (dr (drawsM ns a 24 27720) (1 + x) / 4 % bk.length).toNat < bk.length := by omega
    have gi1 : L2.atI (bk.map encP) (dr (drawsM ns a 24 27720) (1 + x) / 4 % bk.length) = some (encP (itmM ns a bk x).2) := at_map (n := (dr (drawsM ns a 24 27720) (1 + x) / 4 % bk.length).toNat) (by
      unfold itmM; simp only
      rw [List.getD_eq_getElem?_getD, List.getElem?_eq_getElem hn]; rfl) (by omega)
    refine ws_ifJ (J := fun E os => E = [some (ScR K ns), some (DD K (.int a)), some (DD K (.list (bk.map encP))), some (DD K (.int m)), some (DD K (.list ((drawsM ns a 24 27720).map .int))), some (DD K (.str (mk (flatT (pre.map (itmM ns a bk)) ++ (if (itmM ns a bk x).1 then [32] else []))))), some (DD K (.int (x : Nat)))] ∧ os = []) Vw.refl (GW.gb (gw_and (gb_cm (gv 6) c_gt g_int) fun h => (gw_and1 (gb_cm (g_mod (g_ixL (gv 4) (g_add g_int (gv 6)) ga1) g_int (by decide)) c_eqI g_int)))) (fun h => ?_) (fun h => ?_) ?_
    · refine ws_set 5 sc_law_text.nd rfl (.inl rfl) (g_addS (gv 5) (g_s [32]) (Nat.le_trans (show _ ≤ 100 by simp; omega) (by decide))) (ws_nil ⟨?_, rfl⟩)
      have e : (itmM ns a bk x).1 = true := by
        have : 0 < x ∧ dr (drawsM ns a 24 27720) (1 + x) % 4 = 0 := by simpa using h
        unfold itmM; simp [this]
      rw [e]; rfl
    · refine ws_nil ⟨?_, rfl⟩
      have e : (itmM ns a bk x).1 = false := by
        have h' : ¬ (0 < x ∧ dr (drawsM ns a 24 27720) (1 + x) % 4 = 0) := by simpa using h
        unfold itmM; simp only; rw [decide_eq_false h']
      rw [e, if_neg (by decide), List.append_nil]; rfl
    rintro E os ⟨rfl, rfl⟩
    refine ws_set 5 sc_law_text.nd rfl (.inl rfl) (g_addS (l2 := [(itmM ns a bk x).2.1]) (gv 5) (g_ixT (ds := [.str (mk [(itmM ns a bk x).2.1]), .str (mk (itmM ns a bk x).2.2)]) (g_ixL (gv 2) (g_mod (g_div (g_ixL (gv 4) (g_add g_int (gv 6)) ga1) g_int ⟨by decide, by decide⟩) (g_lenL Bn (gv 2)) (by rw [List.length_map]; exact bdl)) (by rw [List.length_map]; exact gi1)) g_int rfl) (by
        rw [List.length_append]
        have : (if (itmM ns a bk x).1 then [32] else ([] : List Nat)).length ≤ 1 := by split <;> simp
        exact Nat.le_trans (show _ ≤ 100 by simp only [List.length_singleton]; omega) (by decide))) (ws_nil ⟨⟨some (DD K (.int (x : Nat))), ?_⟩, rfl⟩)
    rw [List.map_append, List.map_singleton, flatT_snoc]
    unfold flatI
    rw [← List.append_assoc]
    rfl
  · rintro E os ⟨⟨k, rfl⟩, rfl⟩
    exact ws_ret (gv 5) (fun F v h => h)
end
end Z
namespace Z
open PySem PySem.Spec PyProof.Rows L2
variable [Vo]
def lkB (bk : Bk0) (c : Nat) : Option (List Nat) := (bk.find? fun p => decide (p.1 = c)).map (·.2)
def sgW (f : Fo) (c : Nat) : Int := if c = 46 then f.s else f.l
def rowG (f : Fo) (p : Nat × Nat) : List Int := (if 0 < p.1 then [f.w] else []) ++ [sgW f p.2]
def rowW (f : Fo) (r : List Nat) : List Int := ((en 0 r).map (rowG f)).flatten
def gapW (f : Fo) (n k : Nat) : List Int := if 0 < n + k then [if k = 0 then f.a else f.b] else []
def rowL (bk : Bk0) (c : Nat) : List Nat := (lkB bk c).getD []
def sgnG (bk : Bk0) (f : Fo) (n : Nat) (p : Nat × Nat) : List Int := gapW f n p.1 ++ rowW f (rowL bk p.2)
def wordW (bk : Bk0) (f : Fo) (n : Nat) (w : List Nat) : List Int := ((en 0 w).map (sgnG bk f n)).flatten
def wordG (bk : Bk0) (f : Fo) (p : Nat × List Nat) : List Int := wordW bk f p.1 p.2
def wordsW (bk : Bk0) (f : Fo) (n : Nat) (ws : List (List Nat)) : List Int := ((en n ws).map (wordG bk f)).flatten
def goodW (bk : Bk0) (w : List Nat) : Bool := !w.isEmpty && w.all fun c => (lkB bk c).isSome
def weightsM (bk : Bk0) (f : Fo) (t : List Nat) : Option (List Int) :=
  let ws := TL.spl [32] 0 [] t
  if ws.all (goodW bk) then some (wordsW bk f 0 ws) else none
theorem fl_snoc {α β : Type} {g : α → List β} {xs : List α} {x : α} : ((xs ++ [x]).map g).flatten = (xs.map g).flatten ++ g x := by simp
theorem fl_len {α β : Type} {g : α → List β} {n : Nat} : ∀ {xs : List α}, (∀ x, x ∈ xs → (g x).length ≤ n) → ((xs.map g).flatten).length ≤ n * xs.length
  | [], _ => by simp
  | a :: r, h => by
    rw [List.map_cons, List.flatten_cons, List.length_append, List.length_cons, Nat.mul_add, Nat.mul_one]
    have h1 := h a List.mem_cons_self
    have h2 := fl_len (g := g) (n := n) (xs := r) fun x hx => h x (List.mem_cons_of_mem _ hx)
    omega
theorem lkB_mem {bk : Bk0} {c : Nat} {r : List Nat} (h : lkB bk c = some r) : (c, r) ∈ bk := by
  unfold lkB at h
  cases hf : bk.find? (fun p => decide (p.1 = c)) with
  | none => rw [hf] at h; cases h
  | some p =>
    rw [hf] at h
    have e : p.2 = r := by simpa using h
    have e2 : p.1 = c := by simpa using List.find?_some hf
    have := List.mem_of_find?_eq_some hf
    obtain ⟨p1, p2⟩ := p
    simp only at e e2
    subst e; subst e2
    exact this
theorem lkB_of {bk : Bk0} (nd : (bk.map (·.1)).Nodup) {c : Nat} {r : List Nat} (h : (c, r) ∈ bk) : lkB bk c = some r := by
  induction bk with
  | nil => cases h
  | cons p t ih =>
    rw [List.map_cons, List.nodup_cons] at nd
    unfold lkB
    rcases List.mem_cons.mp h with q | q
    · subst q; simp
    · have : p.1 ≠ c := fun e => nd.1 (List.mem_map.mpr ⟨_, q, e.symm⟩)
      rw [List.find?_cons_of_neg (by simp [this])]
      exact ih nd.2 q
theorem rowL_ok {bk : Bk0} (h : BkOk bk) (c : Nat) : (rowL bk c).length ≤ 8 ∧ ∀ x, x ∈ rowL bk c → x = 46 ∨ x = 45 := by
  unfold rowL
  cases hl : lkB bk c with
  | none => exact ⟨by simp, fun x hx => nomatch hx⟩
  | some r =>
    have := h.row _ (lkB_mem hl)
    exact ⟨this.2.1, this.2.2⟩
theorem rowG_len {f : Fo} {p : Nat × Nat} : (rowG f p).length ≤ 2 := by unfold rowG; split <;> simp
theorem gapW_len {f : Fo} {n k : Nat} : (gapW f n k).length ≤ 1 := by unfold gapW; split <;> simp
theorem sgnG_len {bk : Bk0} (h : BkOk bk) {f : Fo} {n : Nat} {p : Nat × Nat} : (sgnG bk f n p).length ≤ 17 := by
  unfold sgnG
  have h1 : (rowW f (rowL bk p.2)).length ≤ 2 * (en 0 (rowL bk p.2)).length := fl_len fun _ _ => rowG_len
  rw [en_len] at h1
  have h2 := gapW_len (f := f) (n := n) (k := p.1)
  have h3 := (rowL_ok h p.2).1
  rw [List.length_append]
  omega
def itemsW (f : Fo) : List Itm → List Int
  | [] => []
  | i :: r => rowW f i.2.2 ++ r.flatMap fun i => (if i.1 then f.a else f.b) :: rowW f i.2.2
theorem wordW_snoc {bk : Bk0} {f : Fo} {n : Nat} {w : List Nat} {c : Nat} : wordW bk f n (w ++ [c]) = wordW bk f n w ++ (gapW f n w.length ++ rowW f (rowL bk c)) := by
  unfold wordW
  rw [en_app, List.map_append, List.flatten_append, Nat.zero_add]
  simp [en, sgnG]
theorem wordsW_cons {bk : Bk0} {f : Fo} {n : Nat} {w : List Nat} {ws : List (List Nat)} : wordsW bk f n (w :: ws) = wordW bk f n w ++ wordsW bk f (n + 1) ws := rfl
theorem spl_items {bk : Bk0} (hb : BkOk bk) {f : Fo} : ∀ (is : List Itm) (n : Nat) (acc : List Nat), (∀ i, i ∈ is → i.2 ∈ bk) → acc ≠ [] → goodW bk acc = true →
    (TL.spl [32] 0 acc (flatT is)).all (goodW bk) = true ∧ wordsW bk f n (TL.spl [32] 0 acc (flatT is)) = wordW bk f n acc ++ is.flatMap fun i => (if i.1 then f.a else f.b) :: rowW f i.2.2
  | [], n, acc, _, _, hg => by
    have e : flatT ([] : List Itm) = [] := rfl
    rw [e, spl_nil1]
    refine ⟨by simp [hg], ?_⟩
    rw [wordsW_cons]
    simp [wordsW, en]
  | (b, c, r) :: is, n, acc, hi, ha, hg => by
    have hm : (c, r) ∈ bk := hi _ List.mem_cons_self
    have hc : c ≠ 32 := hb.sp _ hm
    have hl := lkB_of hb.nd hm
    have hrl : rowL bk c = r := by unfold rowL; rw [hl]; rfl
    have e : flatT ((b, c, r) :: is) = flatI (b, c, r) ++ flatT is := by unfold flatT; simp
    have hi' : ∀ i, i ∈ is → i.2 ∈ bk := fun i h => hi i (List.mem_cons_of_mem _ h)
    rw [e]
    cases b with
    | true =>
      have e2 : flatI (true, c, r) ++ flatT is = 32 :: c :: flatT is := rfl
      rw [e2, spl_sp, spl_no _ _ hc]
      obtain ⟨g1, g2⟩ := spl_items hb is (n + 1) [c] hi' (by simp) (by simp [goodW, hl])
      rw [List.nil_append]
      refine ⟨by rw [List.all_cons, hg, g1]; rfl, ?_⟩
      rw [wordsW_cons, g2]
      have : wordW bk f (n + 1) [c] = f.a :: rowW f r := by
        simp [wordW, en, sgnG, gapW, hrl]
      rw [this]
      simp
    | false =>
      have e2 : flatI (false, c, r) ++ flatT is = c :: flatT is := rfl
      rw [e2, spl_no _ _ hc]
      have hg' : goodW bk (acc ++ [c]) = true := by
        unfold goodW at hg ⊢
        rw [Bool.and_eq_true] at hg
        rw [List.all_append, hg.2]
        simp [hl]
      obtain ⟨g1, g2⟩ := spl_items hb is n (acc ++ [c]) hi' (by simp) hg'
      refine ⟨g1, ?_⟩
      rw [g2, wordW_snoc, hrl]
      have : gapW f n acc.length = [f.b] := by
        have := List.length_pos_iff.mpr ha
        unfold gapW
        rw [if_pos (by omega), if_neg (by omega)]
      rw [this]
      simp
theorem weightsM_items {bk : Bk0} (hb : BkOk bk) {f : Fo} {c : Nat} {r : List Nat} {is : List Itm} (h : (c, r) ∈ bk) (hi : ∀ i, i ∈ is → i.2 ∈ bk) : weightsM bk f (flatT ((false, c, r) :: is)) = some (itemsW f ((false, c, r) :: is)) := by
  have hc : c ≠ 32 := hb.sp _ h
  have hl := lkB_of hb.nd h
  have hrl : rowL bk c = r := by unfold rowL; rw [hl]; rfl
  have e : flatT ((false, c, r) :: is) = c :: flatT is := by unfold flatT flatI; simp
  unfold weightsM
  rw [e, spl_no _ _ hc]
  obtain ⟨g1, g2⟩ := spl_items hb (f := f) is 0 ([] ++ [c]) hi (by simp) (by simp [goodW, hl])
  simp only
  rw [if_pos g1, g2]
  have : wordW bk f 0 ([] ++ [c]) = rowW f r := by simp [wordW, en, sgnG, gapW, hrl]
  rw [this]
  rfl
theorem weightsM_text {ns : List Int} {a m : Nat} {bk : Bk0} {f : Fo} (hb : BkOk bk) (h0 : 0 < m) : weightsM bk f (textM ns a bk m) = some (itemsW f (itmsM ns a bk m)) := by
  obtain ⟨t1, _, _⟩ := textN_bd (ns := ns) (a := a) h0
  unfold textM
  have e : itmsM ns a bk m = (false, (itmM ns a bk 0).2) :: ((List.range (textN ns a m - 1)).map fun k => itmM ns a bk (k + 1)) := by
    unfold itmsM
    obtain ⟨k, hk⟩ : ∃ k, textN ns a m = k + 1 := ⟨textN ns a m - 1, by omega⟩
    rw [hk, List.range_succ_eq_map]
    have : (itmM ns a bk 0).1 = false := by unfold itmM; simp
    rw [List.map_cons, List.map_map, ← this]
    rfl
  rw [e]
  exact weightsM_items hb (itm_mem hb.ne) (fun i hi => by
    obtain ⟨k, _, rfl⟩ := List.mem_map.mp hi
    exact itm_mem hb.ne)
end Z
namespace Z
open PySem PySem.Spec PyProof.Rows L2
variable [Vo]
section
variable {P : Program} {w : World} {K : PySem.W.Frag} {mg : Str → Option Value} {base : Heap}
abbrev N_law_weights : List Str := ["book", "form", "text", "rows", "sign", "row", "found", "n", "word", "k", "j", "one"]
theorem sc_law_weights : FnScope N_law_weights ["book", "form", "text"] (defScope st_law_weights) := ⟨rfl, rfl, rfl, by decide +kernel, rfl, by decide +kernel, by decide +kernel⟩
abbrev encK (p : Nat × List Nat) : Key × PyData := (Sum.inr (mk [p.1]), .str (mk p.2))
def dOpt : Option (List Int) → PyData
  | none => .none
  | some xs => .list (xs.map .int)
def q_law_weights (K : PySem.W.Frag) (Rs : List RP) (d : PyData) : Prop := ∃ (bk : Bk0) (f : Fo) (t : List Nat), BkOk bk ∧ t.length ≤ 500 ∧ (∀ c, c ∈ t → c < 1114112) ∧ Rs = [DD K (.list (bk.map encP)), DD K (dFo f), DD K (.str (mk t))] ∧ d = dOpt (weightsM bk f t)
theorem dput_encK {bk : Bk0} {p : Nat × List Nat} (h : p.1 ∉ bk.map (·.1)) : dput (bk.map encK) (Sum.inr (mk [p.1]) : Key) (.str (mk p.2)) = (bk ++ [p]).map encK := by
  unfold dput
  have e : (bk.map encK).any (fun kv => decide (kv.1 = (Sum.inr (mk [p.1]) : Key))) = false := by
    rw [List.any_eq_false]
    intro q hq
    obtain ⟨x, hx, rfl⟩ := List.mem_map.mp hq
    simp only [decide_eq_true_eq]
    exact fun e => h (List.mem_map.mpr ⟨x, hx, by simpa using mk_inj (Sum.inr.inj e)⟩)
  rw [if_neg (by rw [e]; decide), List.map_append]
  rfl
theorem dget_encK {bk : Bk0} {c : Nat} : dget (bk.map encK) (Sum.inr (mk [c]) : Key) = (lkB bk c).map fun r => .str (mk r) := by
  induction bk with
  | nil => rfl
  | cons a t ih =>
    unfold dget lkB
    by_cases h : a.1 = c
    · rw [List.map_cons, List.find?_cons_of_pos (by simp [h]), List.find?_cons_of_pos (by simp [h])]
      rfl
    · have hk : ¬ (Sum.inr (mk [a.1]) : Key) = Sum.inr (mk [c]) := fun e => h (by simpa using mk_inj (Sum.inr.inj e))
      rw [List.map_cons, List.find?_cons_of_neg (by simp [hk]), List.find?_cons_of_neg (by simp [h])]
      exact ih
theorem form_at {f : Fo} {n k : Nat} (h : 0 < n + k) : L2.atI [PyData.int f.s, .int f.l, .int f.w, .int f.b, .int f.a] (3 + (if decide (((k : Nat) : Int) = 0) then 1 else 0)) = some (.int (if k = 0 then f.a else f.b)) := by
  by_cases h : k = 0
  · subst h; rfl
  · have : decide (((k : Nat) : Int) = 0) = false := by simp; omega
    rw [this, if_neg h]; rfl
theorem le_sum {xs : List Nat} {x : Nat} (h : x ∈ xs) : x ≤ xs.sum := by
  induction xs with
  | nil => cases h
  | cons a t ih =>
    rw [List.sum_cons]
    rcases List.mem_cons.mp h with rfl | q
    · omega
    · have := ih q; omega
theorem spl_mem : ∀ (l acc w : List Nat) (c : Nat), w ∈ TL.spl [32] 0 acc l → c ∈ w → c ∈ acc ∨ c ∈ l
  | [], acc, w, c, hw, hc => by
    rw [spl_nil1] at hw
    rcases List.mem_singleton.mp hw with rfl
    exact .inl hc
  | d :: r, acc, w, c, hw, hc => by
    by_cases h : d = 32
    · subst h
      rw [spl_sp] at hw
      rcases List.mem_cons.mp hw with rfl | q
      · exact .inl hc
      · rcases spl_mem r [] w c q hc with z | z
        · cases z
        · exact .inr (List.mem_cons_of_mem _ z)
    · rw [spl_no _ _ h] at hw
      rcases spl_mem r _ w c hw hc with z | z
      · rcases List.mem_append.mp z with z | z
        · exact .inl z
        · rcases List.mem_singleton.mp z with rfl
          exact .inr List.mem_cons_self
      · exact .inr (List.mem_cons_of_mem _ z)
theorem strOk_1 {c : Nat} (h : c < 1114112) : PyData.strOk (mk [c]) = true := by
  unfold PyData.strOk
  simp
  exact h
theorem ok_law_weights {f : Addr} {fd : FuncData} (F : Fun K "_law_weights" "_law_weights" st_law_weights f fd) (Bn : Bn mg) : FnOk P w K mg base CX0 2 f fd ["book", "form", "text"] (spG K (q_law_weights K)) := by
  refine fn_G F sc_law_weights (fun Rs d h => by obtain ⟨_, _, _, _, _, _, rfl, _⟩ := h; rfl) (fun cdv A outer s H F0 E hr Rs d hq => ?_)
  obtain ⟨bk, fo, t, hb, ht, hch, rfl, rfl⟩ := hq
  have hu := hu_of hr
  refine ws_newD 3 sc_law_weights.nd rfl (.inr rfl) fun l_rows => ?_
  refine ws_forL (xs := bk) (enc := encP) (sl := [4, 5]) PassesOwn.never rfl (l_list (gv 0)) (fun x hx => (gt_tupT rfl (gts_cons (gt_name 4 DD.mo sc_law_weights.nd rfl (.inl rfl)) (gts_cons (gt_name 5 DD.mo sc_law_weights.nd rfl (.inl rfl)) gts_nil))))
    (fun pre E os => (∃ a b, E = [some (DD K (.list (bk.map encP))), some (DD K (dFo fo)), some (DD K (.str (mk t))), some (RR l_rows), a, b, none, none, none, none, none, none]) ∧ os = [(l_rows, Dc K (pre.map encK))]) ⟨⟨none, none, rfl⟩, rfl⟩ ?_ ?_
  · rintro pre x post E os hxs ⟨⟨a, b, rfl⟩, rfl⟩
    have hn : x.1 ∉ pre.map (·.1) := by
      have := hb.nd
      rw [hxs, List.map_append, List.map_cons, List.nodup_append] at this
      exact fun h => this.2.2 _ h _ List.mem_cons_self rfl
    have hz : pre.length ≤ 36 := by
      have := hb.len
      rw [hxs, List.length_append] at this
      omega
    refine ws_dput 0 hu (gv 3) rfl (k := Sum.inr (mk [x.1])) (gv 4) (gv 5) (by rw [List.length_map]; exact Nat.lt_of_le_of_lt hz (by decide)) ?_
    refine ws_nil ⟨⟨_, _, rfl⟩, ?_⟩
    rw [dput_encK hn]
    rfl
  rintro E os ⟨⟨a, b, rfl⟩, rfl⟩
  refine ws_giveAt 0 (Vw.one 3 0) ?_
  refine ws_new 6 sc_law_weights.nd rfl (.inl rfl) (n_lst gad_nil) fun l_found => ?_
  obtain ⟨sb1, sb2⟩ := spl_bd t []
  generalize hws : TL.spl [32] 0 [] t = ws at sb1 sb2
  have wl : ∀ x, x ∈ ws → x.length ≤ 500 := fun x hx => by
    have := le_sum (List.mem_map.mpr ⟨x, hx, rfl⟩ : x.length ∈ ws.map (·.length))
    have h0 : ([] : List Nat).length = 0 := rfl
    omega
  have wc : ∀ x, x ∈ ws → ∀ c, c ∈ x → c < 1114112 := fun x hx c hc => by
    rw [← hws] at hx
    rcases spl_mem t [] x c hx hc with z | z
    · cases z
    · exact hch c z
  have hsz : ∀ n : Nat, n ≤ 10000000 → n ≤ sizeLine := fun n h => Nat.le_trans h (by decide)
  have wm : weightsM bk fo t = if ws.all (goodW bk) then some (wordsW bk fo 0 ws) else none := by unfold weightsM; rw [hws]
  refine ws_forL (xs := en 0 ws) (enc := encN fun l => .str (mk l)) (sl := [7, 8]) PassesOwn.never rfl (l_enM Bn (by rw [← hws]; exact (n_split (n := 32) (by decide) (gv 2) (g_s [32]) (hsz _ (by omega))).ge)) (fun x hx => (gt_tupT rfl (gts_cons (gt_name 7 DD.mo sc_law_weights.nd rfl (.inl rfl)) (gts_cons (gt_name 8 DD.mo sc_law_weights.nd rfl (.inl rfl)) gts_nil))))
    (fun pre E os => (∃ a b n v k j o l, E = [some (DD K (.list (bk.map encP))), some (DD K (dFo fo)), some (DD K (.str (mk t))), some (DC K (bk.map encK)), a, b, some (RR l), n, v, k, j, o] ∧ os = [(l, Ls K (((pre.map (wordG bk fo)).flatten).map .int))]) ∧ ∀ p, p ∈ pre → goodW bk p.2 = true) ⟨⟨_, _, _, _, _, _, _, _, rfl, rfl⟩, fun _ h => nomatch h⟩ ?_ ?_
  · rintro pre ⟨n, wd⟩ post E os hxs ⟨⟨a, b, n', v, k, j, o, l, rfl, rfl⟩, hg⟩
    obtain ⟨hn, hget, hlt⟩ := en_split hxs
    have hwm := List.mem_of_getElem? hget
    have hwl := wl _ hwm
    have hwc := wc _ hwm
    simp only at hn hwm hwl hwc
    have hpre : ((pre.map (wordG bk fo)).flatten).length ≤ 8500 * pre.length := fl_len fun p hp => by
      have hp' : p ∈ en 0 ws := by rw [hxs]; exact List.mem_append_left _ hp
      have h1 := (en_mem hp').1
      have h2 : (wordW bk fo p.1 p.2).length ≤ 17 * (en 0 p.2).length := fl_len fun _ _ => sgnG_len hb
      rw [en_len] at h2
      have := wl _ h1
      unfold wordG
      omega
    have htest : (decide (wd = []) || !(PyData.eqv (.list ((wd.filter fun c => !(dget (bk.map encK) (Sum.inr (mk [c]) : Key)).isSome).map encS)) (.list []))) = !goodW bk wd := by
      rw [eqv_nil]
      unfold goodW
      have e1 : decide (wd = []) = wd.isEmpty := by cases wd <;> simp
      have e2 : ((wd.filter fun c => !(dget (bk.map encK) (Sum.inr (mk [c]) : Key)).isSome).map encS).isEmpty = wd.all fun c => (lkB bk c).isSome := by
        clear hget hwm hwl hwc hxs e1 hpre
        induction wd with
        | nil => rfl
        | cons c r ih =>
          rw [List.filter_cons, List.all_cons]
          have : (dget (bk.map encK) (Sum.inr (mk [c]) : Key)).isSome = (lkB bk c).isSome := by rw [dget_encK]; simp
          rw [this]
          cases (lkB bk c).isSome with
          | true => simpa using ih
          | false => simp
      rw [e1, e2]
      cases wd.isEmpty <;> simp
    refine ws_if Vw.refl (b := !goodW bk wd) (by
      rw [← htest]
      refine GW.gb (gw_or (gb_cm (gv 8) c_eqM (g_s [])) fun h => (gw_or1 (gb_cm (Ra := DD K (.list ((wd.filter fun c => !(dget (bk.map encK) (Sum.inr (mk [c]) : Key)).isSome).map encS))) ?lc (c_neD hr.units ((shp_list (n := 0) fun d hd => by
        obtain ⟨c, hc, rfl⟩ := List.mem_map.mp hd
        exact shp_str (strOk_1 (hwc c ((List.mem_filter.mp hc).1)))).ok) (shp_nil (n := 0)).ok) (n_lst gad_nil).ge)))
      refine GEN.ge (n_lc1 (xs := wd) (enc := encS) (d := encS) (b := fun c => !(dget (bk.map encK) (Sum.inr (mk [c]) : Key)).isSome) (own := [("sign", 4)]) (sl := [4]) rfl sc_law_weights.nd (l_strM (gv 8)) (blkOk_by (N := N_law_weights) (sc := defScope st_law_weights) (by decide +kernel)) (fun _ _ _ _ _ x hx => (gt_name 4 DD.mo sc_law_weights.nd rfl (.inl rfl))) (by decide) (fun _ _ _ _ _ x hx => ?_) (fun _ _ _ _ _ x hx h => (gv 4)) (Nat.lt_of_le_of_lt hwl (by decide)))
      exact gb_dnin (k := Sum.inr (mk [x])) hu (gv 4) (gv 3 (mo := DC.mo))) (fun h => ?_) (fun h => ?_)
    · have hbad : goodW bk wd = false := by simpa using h
      refine ws_ret g_none (fun F v q => ?_)
      have e : ws.all (goodW bk) = false := by
        rw [List.all_eq_false]
        exact ⟨wd, hwm, by rw [hbad]; decide⟩
      rw [wm, e]
      exact q
    have hgood : goodW bk wd = true := by simpa using h
    have hgood2 : ∀ c, c ∈ wd → ∃ r, lkB bk c = some r := fun c hc => by
      unfold goodW at hgood
      rw [Bool.and_eq_true, List.all_eq_true] at hgood
      exact Option.isSome_iff_exists.mp (hgood.2 c hc)
    refine ws_nil ?_
    refine ws_forL (xs := en 0 wd) (enc := encN encS) (sl := [9, 4]) PassesOwn.never rfl (l_enSM Bn (gv 8)) (fun x hx => (gt_tupT rfl (gts_cons (gt_name 9 DD.mo sc_law_weights.nd rfl (.inl rfl)) (gts_cons (gt_name 4 DD.mo sc_law_weights.nd rfl (.inl rfl)) gts_nil))))
      (fun pre2 E os => ∃ a b k j o l, E = [some (DD K (.list (bk.map encP))), some (DD K (dFo fo)), some (DD K (.str (mk t))), some (DC K (bk.map encK)), a, b, some (RR l), some (DD K (.int (n : Nat))), some (DD K (.str (mk wd))), k, j, o] ∧ os = [(l, Ls K (((pre.map (wordG bk fo)).flatten ++ (pre2.map (sgnG bk fo n)).flatten).map .int))]) ⟨_, _, _, _, _, _, rfl, by rw [List.map_nil, List.flatten_nil, List.append_nil]⟩ ?_ ?_
    · rintro pre2 ⟨k, c⟩ post2 E os hxs2 ⟨a, b, k', j, o, l, rfl, rfl⟩
      obtain ⟨hk, hget2, hlt2⟩ := en_split hxs2
      have hcm := List.mem_of_getElem? hget2
      simp only at hk hcm
      obtain ⟨r, hr0⟩ := hgood2 c hcm
      have hrow : rowL bk c = r := by unfold rowL; rw [hr0]; rfl
      have hrl := (rowL_ok hb c).1
      have hrc := (rowL_ok hb c).2
      rw [hrow] at hrl hrc
      have hpre2 : ((pre2.map (sgnG bk fo n)).flatten).length ≤ 17 * pre2.length := fl_len fun p hp => sgnG_len hb
      have hcur : ((pre.map (wordG bk fo)).flatten ++ (pre2.map (sgnG bk fo n)).flatten).length ≤ 9000000 := by
        rw [List.length_append]
        have : pre.length ≤ 500 := by omega
        omega
      generalize hcu : (pre.map (wordG bk fo)).flatten ++ (pre2.map (sgnG bk fo n)).flatten = cur at hcur
      refine ws_ifJ (J := fun E os => ∃ l, E = [some (DD K (.list (bk.map encP))), some (DD K (dFo fo)), some (DD K (.str (mk t))), some (DC K (bk.map encK)), some (DD K (encS c)), b, some (RR l), some (DD K (.int (n : Nat))), some (DD K (.str (mk wd))), some (DD K (.int (k : Nat))), j, o] ∧ os = [(l, Ls K ((cur ++ gapW fo n k).map .int))]) Vw.refl (gb_cm (g_add (gv 7) (gv 9)) c_gt g_int) (fun h => ?_) (fun h => ?_) ?_
      · have h' : 0 < n + k := by
          have : (0 : Int) < (n : Int) + (k : Int) := by simpa using h
          omega
        refine ws_append 0 (gv 6) rfl (g_ixF (gv 1) (g_add g_int (g_intB Bn (g_cm (gv 9) c_eqI g_int))) (form_at h')) (by rw [List.length_map]; exact Nat.lt_of_le_of_lt hcur (by decide)) ?_
        refine ws_nil ⟨l, rfl, ?_⟩
        unfold gapW
        rw [if_pos h', List.map_append]
        rfl
      · have h' : ¬ 0 < n + k := by
          have : ¬ (0 : Int) < (n : Int) + (k : Int) := by simpa using h
          omega
        refine ws_nil ⟨l, rfl, ?_⟩
        unfold gapW
        rw [if_neg h', List.append_nil]
      rintro E os ⟨l, rfl, rfl⟩
      have hgl := gapW_len (f := fo) (n := n) (k := k)
      refine ws_forL (xs := en 0 r) (enc := encN encS) (sl := [10, 11]) PassesOwn.never rfl (l_enSM Bn (g_dget hu (gv 3 (mo := DC.mo)) (k := Sum.inr (mk [c])) (gv 4) (by rw [dget_encK, hr0]; rfl))) (fun x hx => (gt_tupT rfl (gts_cons (gt_name 10 DD.mo sc_law_weights.nd rfl (.inl rfl)) (gts_cons (gt_name 11 DD.mo sc_law_weights.nd rfl (.inl rfl)) gts_nil))))
        (fun pre3 E os => ∃ j o l, E = [some (DD K (.list (bk.map encP))), some (DD K (dFo fo)), some (DD K (.str (mk t))), some (DC K (bk.map encK)), some (DD K (encS c)), b, some (RR l), some (DD K (.int (n : Nat))), some (DD K (.str (mk wd))), some (DD K (.int (k : Nat))), j, o] ∧ os = [(l, Ls K ((cur ++ gapW fo n k ++ (pre3.map (rowG fo)).flatten).map .int))]) ⟨_, _, _, rfl, by rw [List.map_nil, List.flatten_nil, List.append_nil]⟩ ?_ ?_
      · rintro pre3 ⟨j1, c1⟩ post3 E os hxs3 ⟨j', o', l, rfl, rfl⟩
        obtain ⟨hj, hget3, hlt3⟩ := en_split hxs3
        have hc1 := hrc c1 (List.mem_of_getElem? hget3)
        simp only at hj
        have hpre3 : ((pre3.map (rowG fo)).flatten).length ≤ 2 * pre3.length := fl_len fun p hp => rowG_len
        have hcur3 : (cur ++ gapW fo n k ++ (pre3.map (rowG fo)).flatten).length ≤ 9500000 := by
          rw [List.length_append, List.length_append]
          omega
        generalize hcu3 : cur ++ gapW fo n k ++ (pre3.map (rowG fo)).flatten = cur3 at hcur3
        have e1 : (List.replicate (if decide ((0 : Int) < ((j1 : Nat) : Int)) then (1 : Int) else 0).toNat [PyData.int fo.w]).flatten = (if 0 < j1 then [fo.w] else []).map .int := by
          by_cases h : 0 < j1
          · rw [if_pos h, if_pos (by simpa using h)]; rfl
          · rw [if_neg h, if_neg (by simpa using h)]; rfl
        have e1l : ((if 0 < j1 then [fo.w] else ([] : List Int)).map PyData.int).length ≤ 1 := by split <;> simp
        have hix : ∃ i rest, Builtin.Str.occurrences (mk [46, 45]) (mk [c1]) 0 (mk [46, 45]).length 1 = i :: rest ∧ L2.atI [PyData.int fo.s, .int fo.l, .int fo.w, .int fo.b, .int fo.a] ((i : Nat) : Int) = some (.int (sgW fo c1)) := by
          rcases hc1 with e | e
          · subst e; exact ⟨0, [], by decide +kernel, rfl⟩
          · subst e; exact ⟨1, [], by decide +kernel, rfl⟩
        obtain ⟨i1, rest1, hoc, hix⟩ := hix
        refine ws_renew (o := Ls K (cur3.map .int)) 6 0 sc_law_weights.nd rfl (.inl rfl) (GEN.is (ds' := (cur3 ++ rowG fo (j1, c1)).map .int) (n_cat (n_cat (gv 6) (GEN.is (n_rep (n_lst (gad_cons (g_ixF (i := 2) (d := .int fo.w) (gv 1) g_int rfl) gad_nil)).ge (g_intB Bn (g_cm (gv 10) c_gt g_int)) (by split <;> decide) (by
            have : (if decide ((0 : Int) < ((j1 : Nat) : Int)) then (1 : Int) else 0).toNat ≤ 1 := by split <;> decide
            exact hsz _ (by simp only [List.length_singleton]; omega))) e1).ge (by rw [List.length_map]; exact hsz _ (by omega))).ge (n_lst (gad_cons (g_ixF (gv 1) (g_sindex (g_s [46, 45]) (gv 11) hoc) hix) gad_nil)).ge (by rw [List.length_append, List.length_map]; exact hsz _ (by simp only [List.length_singleton]; omega))) (by
              unfold rowG
              simp only [List.map_append, List.append_assoc]
              rfl)) fun l' => ?_
        refine ws_nil ⟨_, _, l', rfl, ?_⟩
        rw [fl_snoc, ← List.append_assoc, hcu3]
        rfl
      · rintro E os ⟨j', o', l, rfl, rfl⟩
        refine ws_nil ⟨_, _, _, _, _, l, rfl, ?_⟩
        rw [fl_snoc, ← List.append_assoc, hcu]
        unfold sgnG
        simp only
        rw [hrow, ← List.append_assoc]
        rfl
    · rintro E os ⟨a, b, k', j, o, l, rfl, rfl⟩
      refine ws_nil ⟨⟨_, _, _, _, _, _, _, l, rfl, ?_⟩, ?_⟩
      · rw [fl_snoc]; rfl
      · intro p hp
        rcases List.mem_append.mp hp with q | q
        · exact hg p q
        · rcases List.mem_singleton.mp q with rfl
          exact hgood
  · rintro E os ⟨⟨a, b, n', v, k, j, o, l, rfl, rfl⟩, hg⟩
    refine ws_retF (Vw.one 6 0) (os' := []) (fun a h => by
      have e : a = l := by simpa using h
      subst e
      exact ⟨by simp, fun h => nomatch h⟩) (fun p hp => nomatch hp) (by simp) (gv 6) (fun F v h => ?_)
    have e : ws.all (goodW bk) = true := by
      rw [List.all_eq_true]
      intro x hx
      obtain ⟨i, hi⟩ := List.mem_iff_getElem?.mp hx
      exact hg (0 + i, x) (List.mem_of_getElem? (by rw [en_get, hi]; rfl))
    rw [wm, if_pos e]
    exact h
end
end Z
namespace Z
open PySem PySem.Spec PyProof.Rows L2
variable [Vo]
def offMs (h : Fr × Fr) (d m : Int) : Int :=
  if h.2 ≠ (1, 1) ∧ d % 3 = 0 then
    let p := if d / 3 % 2 = 0 then h.2 else (h.2.2, h.2.1)
    max 1 (min 1000000 (m * p.1 / p.2))
  else m
def offOne (h : Fr × Fr) (d m w : Int) : Int :=
  max 1 (w * m + d / 6 % (2 * (w * m * h.1.1 / h.1.2) + 1) - w * m * h.1.1 / h.1.2 + (if d / 6 % 50 = 7 then 1 else 0))
structure OffSt where
  m : Int
  out : List Int
def offStep (xs : List Int) (h : Fr × Fr) (st : OffSt) (p : Nat × Int) : OffSt :=
  let d := dr xs (p.1 % 61)
  let m := offMs h d st.m
  ⟨m, st.out ++ [offOne h d m p.2]⟩
def off0 (xs : List Int) : OffSt := ⟨1 + dr xs 63 % pk3 (dr xs 62 % 3) 9 100 4000, []⟩
def offRun (xs : List Int) (h : Fr × Fr) (ps : List (Nat × Int)) : OffSt := ps.foldl (offStep xs h) (off0 xs)
def offM (ns : List Int) (a : Nat) (ws : List Int) (h : Fr × Fr) : List Int := (offRun (drawsM ns a 64 27720) h (en 0 ws)).out
theorem offRun_snoc {xs : List Int} {h : Fr × Fr} {ps : List (Nat × Int)} {p : Nat × Int} : offRun xs h (ps ++ [p]) = offStep xs h (offRun xs h ps) p := by unfold offRun; rw [List.foldl_append]; rfl
theorem max_le {a b c : Int} (h1 : a ≤ c) (h2 : b ≤ c) : max a b ≤ c := by omega
theorem offMs_bd {h : Fr × Fr} {d m : Int} (hm : 1 ≤ m ∧ m ≤ 1000000) : 1 ≤ offMs h d m ∧ offMs h d m ≤ 1000000 := by
  unfold offMs
  split
  · simp only
    omega
  · exact hm
theorem off0_bd (xs : List Int) : 1 ≤ (off0 xs).m ∧ (off0 xs).m ≤ 1000000 := by
  unfold off0
  simp only
  have b3 : pk3 (dr xs 62 % 3) 9 100 4000 = 9 ∨ pk3 (dr xs 62 % 3) 9 100 4000 = 100 ∨ pk3 (dr xs 62 % 3) 9 100 4000 = 4000 := pk3_or
  rcases b3 with e | e | e <;> rw [e] <;> omega
theorem offOne_bd {h : Fr × Fr} {d m w : Int} (hh : HOk' 14 h) (hm : 1 ≤ m ∧ m ≤ 1000000) (hw : 1 ≤ w ∧ w ≤ 60) (hd : 0 ≤ d) :
    0 < w * m ∧ w * m ≤ 60000000 ∧ 0 ≤ w * m * h.1.1 / h.1.2 ∧ w * m * h.1.1 / h.1.2 ≤ w * m ∧ 1 ≤ offOne h d m w ∧ offOne h d m w < 134217728 := by
  have h1 : 0 < w * m := Int.mul_pos (by omega) (by omega)
  have h2 : w * m ≤ 60 * 1000000 := Int.mul_le_mul hw.2 hm.2 (by omega) (by decide)
  have s0 := hh.so.1
  have s1 := hh.so.2
  have sp := hh.s.p
  have h3 : 0 ≤ w * m * h.1.1 := Int.mul_nonneg (by omega) s0
  have h4 : 0 ≤ w * m * h.1.1 / h.1.2 := Int.ediv_nonneg h3 (by omega)
  have h5 : w * m * h.1.1 / h.1.2 ≤ w * m := by
    have : w * m * h.1.1 / h.1.2 ≤ w * m * h.1.2 / h.1.2 := Int.ediv_le_ediv sp (Int.mul_le_mul_of_nonneg_left (by omega) (by omega))
    rw [Int.mul_ediv_cancel _ (by omega)] at this
    exact this
  refine ⟨h1, by omega, h4, h5, ?_, ?_⟩
  · unfold offOne; omega
  · unfold offOne
    generalize w * m * h.1.1 / h.1.2 = room at h4 h5
    have h6 := Int.emod_lt_of_pos (d / 6) (show 0 < 2 * room + 1 by omega)
    split <;> omega
theorem offRun_bd {xs : List Int} {h : Fr × Fr} (hh : HOk' 14 h) (hx : ∀ n, 0 ≤ dr xs n) : ∀ {ps : List (Nat × Int)}, (∀ p, p ∈ ps → 1 ≤ p.2 ∧ p.2 ≤ 60) →
    (1 ≤ (offRun xs h ps).m ∧ (offRun xs h ps).m ≤ 1000000) ∧ (offRun xs h ps).out.length = ps.length ∧ ∀ x, x ∈ (offRun xs h ps).out → 1 ≤ x ∧ x < 134217728 := by
  intro ps
  generalize hn : ps.length = n
  induction n generalizing ps with
  | zero =>
    intro _
    have : ps = [] := List.length_eq_zero_iff.mp hn
    subst this
    exact ⟨off0_bd xs, rfl, fun x hx => nomatch hx⟩
  | succ n ih =>
    intro hp
    have hne : ps ≠ [] := fun e => by subst e; simp at hn
    have e := List.dropLast_concat_getLast hne
    obtain ⟨i1, i2, i3⟩ := ih (ps := ps.dropLast) (by rw [List.length_dropLast]; omega) (fun x h => hp x (List.dropLast_subset _ h))
    rw [← e, offRun_snoc]
    unfold offStep
    simp only
    have hm := offMs_bd (h := h) (d := dr xs ((ps.getLast hne).1 % 61)) i1
    have hl := hp _ (List.getLast_mem hne)
    have ho := offOne_bd (d := dr xs ((ps.getLast hne).1 % 61)) hh hm hl (hx _)
    refine ⟨hm, by rw [List.length_append, i2]; rfl, fun x hx => ?_⟩
    rcases List.mem_append.mp hx with q | q
    · exact i3 x q
    · rcases List.mem_singleton.mp q with rfl
      exact ⟨ho.2.2.2.2.1, ho.2.2.2.2.2⟩
theorem dr_nn {ns : List Int} {k many : Nat} {base : Int} (h : 0 < base) (n : Nat) : 0 ≤ dr (drawsM ns k many base) n := by
  by_cases hn : n < many
  · exact (dr_bd h hn).1
  · unfold dr
    rw [List.getD_eq_getElem?_getD, List.getElem?_eq_none (by rw [drawsM_len]; omega)]
    exact Int.le_refl _
theorem offM_ok {ns : List Int} {a : Nat} {ws : List Int} {h : Fr × Fr} (hh : HOk' 14 h) (hw : ∀ w, w ∈ ws → 1 ≤ w ∧ w ≤ 60) : (offM ns a ws h).length = ws.length ∧ ∀ x, x ∈ offM ns a ws h → 1 ≤ x ∧ x < 134217728 := by
  obtain ⟨_, h2, h3⟩ := offRun_bd (xs := drawsM ns a 64 27720) hh (dr_nn (by decide)) (ps := en 0 ws) (fun p hp => hw _ (en_mem hp).1)
  rw [en_len] at h2
  exact ⟨h2, h3⟩
section
variable {P : Program} {w : World} {K : PySem.W.Frag} {mg : Str → Option Value} {base : Heap}
abbrev N_law_off : List Str := ["script", "at", "weights", "hand", "draws", "measure", "found", "k", "weight", "draw", "top", "bottom", "plain", "room"]
theorem sc_law_off : FnScope N_law_off ["script", "at", "weights", "hand"] (defScope st_law_off) := ⟨rfl, rfl, rfl, by decide +kernel, rfl, by decide +kernel, by decide +kernel⟩
def q_law_off (K : PySem.W.Frag) (Rs : List RP) (ds : List PyData) : Prop := ∃ (ns : List Int) (a : Nat) (ws : List Int) (h : Fr × Fr), a ≤ 900 ∧ (∀ w, w ∈ ws → 1 ≤ w ∧ w ≤ 60) ∧ ws.length ≤ 10000000 ∧ HOk' 14 h ∧ Rs = [ScR K ns, DD K (.int a), DD K (.list (ws.map .int)), DD K (dH h)] ∧ ds = (offM ns a ws h).map .int
theorem eqv_Fr : EqvD dF := eqv_pair eqv_int eqv_int
theorem shp_Fr {n : Nat} {x : Fr} : Shp (n + 1) (dF x) := shp_t2 shp_int shp_int
theorem at_pk {α : Type} {a b : α} {i : Int} (h : 0 ≤ i ∧ i < 2) : L2.atI [a, b] i = some (if i = 0 then a else b) := by
  have e : i = 0 ∨ i = 1 := by omega
  rcases e with e | e <;> subst e <;> rfl
theorem ok_law_off {f : Addr} {fd : FuncData} (F : Fun K "_law_off" "_law_off" st_law_off f fd) (Bn : Bn mg) (C_law_draws : FnD P w K mg base 2 "_law_draws" ["script", "k", "many", "base"] (spN K (q_law_draws K))) : FnOk P w K mg base CX0 3 f fd ["script", "at", "weights", "hand"] (spN K (q_law_off K)) := by
  refine fn_N F sc_law_off (fun Rs d h => by obtain ⟨_, _, _, _, _, _, _, _, rfl, _⟩ := h; rfl) (fun cdv A outer s H F0 E hr Rs ds hq => ?_)
  obtain ⟨ns, a, ws, h, ha, hw, hwl, hh, rfl, rfl⟩ := hq
  have sm : Mono (ScR K ns) := ScR.mo
  refine ws_set 4 sc_law_off.nd rfl (.inl rfl) (n_callN C_law_draws (hr.mono (by decide)) (ga_cons (gv 0) (ga_cons (gv 1) (ga_cons g_int (ga_cons g_int ga_nil)))) (i_law_draws (k := a) (many := 64) (bs := 27720) (by omega) (by decide) (by decide) (by decide))).ge ?_
  have at0 : ∀ n : Nat, n < 64 → L2.atI ((drawsM ns a 64 27720).map PyData.int) (n : Int) = some (.int (dr (drawsM ns a 64 27720) n)) := fun n h => at_dr h
  have nn : ∀ n, 0 ≤ dr (drawsM ns a 64 27720) n := dr_nn (by decide)
  unfold offM
  generalize hxs : drawsM ns a 64 27720 = xs at at0 nn
  have b3 : pk3 (dr xs 62 % 3) 9 100 4000 = 9 ∨ pk3 (dr xs 62 % 3) 9 100 4000 = 100 ∨ pk3 (dr xs 62 % 3) 9 100 4000 = 4000 := pk3_or
  have h3 : 0 < pk3 (dr xs 62 % 3) 9 100 4000 := by rcases b3 with e | e | e <;> rw [e] <;> decide
  refine ws_set 5 sc_law_off.nd rfl (.inl rfl) (g_add g_int (g_mod (g_ixL (gv 4) g_int (at0 63 (by decide))) (g_ixL (n_lst (gad_cons g_int (gad_cons g_int (gad_cons g_int gad_nil)))).ge (g_mod (g_ixL (gv 4) g_int (at0 62 (by decide))) g_int (by decide)) (at_3 (md3 _))) h3)) ?_
  refine ws_new 6 sc_law_off.nd rfl (.inl rfl) (n_lst gad_nil) fun l_found => ?_
  refine ws_forL (xs := en 0 ws) (enc := encN PyData.int) (sl := [7, 8]) PassesOwn.never rfl (l_enM Bn (gv 2)) (fun x hx => (gt_tupT rfl (gts_cons (gt_name 7 DD.mo sc_law_off.nd rfl (.inl rfl)) (gts_cons (gt_name 8 DD.mo sc_law_off.nd rfl (.inl rfl)) gts_nil))))
    (fun pre E os => (∃ k v d t b p r, E = [some (ScR K ns), some (DD K (.int a)), some (DD K (.list (ws.map .int))), some (DD K (dH h)), some (DD K (.list (xs.map .int))), some (DD K (.int (offRun xs h pre).m)), some (RR l_found), k, v, d, t, b, p, r]) ∧ os = [(l_found, Ls K ((offRun xs h pre).out.map .int))]) ⟨⟨none, none, none, none, none, none, none, rfl⟩, rfl⟩ ?_ ?_
  · rintro pre ⟨k, wt⟩ post E os hxs2 ⟨⟨k', v', d', t', b', p', r', rfl⟩, rfl⟩
    obtain ⟨hk, hget, hlt⟩ := en_split hxs2
    have hwt := hw _ (List.mem_of_getElem? hget)
    simp only at hk hwt
    obtain ⟨hm, hol, _⟩ := offRun_bd (xs := xs) hh nn (ps := pre) (fun p hp => hw _ (en_mem (n := 0) (xs := ws) (by rw [hxs2]; exact List.mem_append_left _ hp)).1)
    have hol2 : (offRun xs h pre).out.length < 10000000 := by omega
    have hstep : offRun xs h (pre ++ [(k, wt)]) = offStep xs h (offRun xs h pre) (k, wt) := offRun_snoc
    generalize offRun xs h pre = st at hm hol hol2 hstep
    have d2 : h.2.2 < 16384 := by have := hh.d.b; omega
    have d2p := hh.d.p
    have d1 : h.2.1 < 16384 := by have := hh.d.t; omega
    have d1p : 0 < h.2.1 := by have := hh.d1; omega
    have s1 : h.1.1 < 16384 := by have := hh.s.t; omega
    have s2 : h.1.2 < 16384 := by have := hh.s.b; omega
    have s2p := hh.s.p
    have s1n := hh.so.1
    have hkn : (k : Int) % 61 = ((k % 61 : Nat) : Int) := by omega
    refine ws_set 9 sc_law_off.nd rfl (.inl rfl) (g_ixL (gv 4) (g_mod (gv 7) g_int (by decide)) (by rw [hkn]; exact at0 (k % 61) (by omega))) ?_
    have hdn := nn (k % 61)
    unfold offStep at hstep
    simp only at hstep
    generalize dr xs (k % 61) = d at hdn hstep
    refine ws_ifJ (J := fun E os => (∃ t b, E = [some (ScR K ns), some (DD K (.int a)), some (DD K (.list (ws.map .int))), some (DD K (dH h)), some (DD K (.list (xs.map .int))), some (DD K (.int (offMs h d st.m))), some (RR l_found), some (DD K (.int (k : Nat))), some (DD K (.int wt)), some (DD K (.int d)), t, b, p', r']) ∧ os = [(l_found, Ls K (st.out.map .int))]) Vw.refl (GW.gb (gw_and (gb_cm (g_ixT (i := 1) (d := dF h.2) (gv 3) g_int rfl) (c_neD hr.units (shp_Fr (n := 0)).ok (shp_Fr (n := 0) (x := (1, 1))).ok) (gt_tup (gad_cons g_int (gad_cons g_int gad_nil)))) fun h => (gw_and1 (gb_cm (g_mod (gv 9) g_int (by decide)) c_eqI g_int)))) (fun hc => ?_) (fun hc => ?_) ?_
    · have e1 : PyData.eqv (dF h.2) (dF (1, 1)) = decide (h.2 = (1, 1)) := eqv_Fr.eq _ _
      have hc' : h.2 ≠ (1, 1) ∧ d % 3 = 0 := by
        have : (!PyData.eqv (dF h.2) (dF (1, 1)) && decide (d % 3 = 0)) = true := hc
        rw [e1] at this
        simpa using this
      refine ws_asg (g_ixL (d := dF (if d / 3 % 2 = 0 then h.2 else (h.2.2, h.2.1))) (n_lst (gad_cons (g_ixT (i := 1) (d := dF h.2) (gv 3) g_int rfl) (gad_cons (g_revT (g_ixT (i := 1) (d := dF h.2) (gv 3) g_int rfl)) gad_nil))).ge (g_mod (g_div (gv 9) g_int ⟨by decide, by decide⟩) g_int (by decide)) (by rw [at_pk (md2 _)]; split <;> rfl)) (gt_tupT rfl (gts_cons (gt_name 10 DD.mo sc_law_off.nd rfl (.inl rfl)) (gts_cons (gt_name 11 DD.mo sc_law_off.nd rfl (.inl rfl)) gts_nil))) ?_
      generalize hp : (if d / 3 % 2 = 0 then h.2 else (h.2.2, h.2.1)) = pp
      have hpp : 0 < pp.2 ∧ pp.2 < 16384 ∧ 0 < pp.1 ∧ pp.1 < 16384 := by rw [← hp]; split <;> exact ⟨by assumption, by assumption, by assumption, by assumption⟩
      refine ws_set 5 sc_law_off.nd rfl (.inl rfl) (g_max2 rfl Bn g_int (g_min2 rfl Bn (g_pow g_int g_int ⟨by decide, by decide, by decide⟩) (g_div (g_mul (gv 5) (gv 10) (.inl ⟨by omega, by omega⟩)) (gv 11) ⟨hpp.1, by omega⟩))) (ws_nil ⟨⟨some (DD K (.int pp.1)), some (DD K (.int pp.2)), ?_⟩, rfl⟩)
      · have e : offMs h d st.m = (if (if st.m * pp.1 / pp.2 < (10 : Int) ^ (6 : Int).toNat then st.m * pp.1 / pp.2 else (10 : Int) ^ (6 : Int).toNat) > 1 then (if st.m * pp.1 / pp.2 < (10 : Int) ^ (6 : Int).toNat then st.m * pp.1 / pp.2 else (10 : Int) ^ (6 : Int).toNat) else 1) := by
          unfold offMs
          rw [if_pos hc']
          simp only
          rw [hp]
          have : (10 : Int) ^ (6 : Int).toNat = 1000000 := by decide
          rw [this]
          omega
        rw [e]; rfl
    · have e1 : PyData.eqv (dF h.2) (dF (1, 1)) = decide (h.2 = (1, 1)) := eqv_Fr.eq _ _
      have hc' : ¬ (h.2 ≠ (1, 1) ∧ d % 3 = 0) := by
        have : (!PyData.eqv (dF h.2) (dF (1, 1)) && decide (d % 3 = 0)) = false := hc
        rw [e1] at this
        intro hh
        simp [hh.1, hh.2] at this
      refine ws_nil ⟨⟨t', b', ?_⟩, rfl⟩
      have e : offMs h d st.m = st.m := by unfold offMs; rw [if_neg hc']
      rw [e]; rfl
    rintro E os ⟨⟨t, b, rfl⟩, rfl⟩
    have hm2 := offMs_bd (h := h) (d := d) hm
    obtain ⟨o1, o2, o3, o4, o5, o6⟩ := offOne_bd (d := d) hh hm2 hwt hdn
    generalize offMs h d st.m = m at hm2 hstep o1 o2 o3 o4 o5 o6
    refine ws_set 12 sc_law_off.nd rfl (.inl rfl) (g_mul (gv 8) (gv 5) (.inl ⟨by omega, by omega⟩)) ?_
    refine ws_set 13 sc_law_off.nd rfl (.inl rfl) (g_div (g_mul (gv 12) (g_ixT (i := 0) (d := .int h.1.1) (g_ixT (i := 0) (d := dF h.1) (gv 3) g_int rfl) g_int rfl) (.inr ⟨by omega, by omega⟩)) (g_ixT (i := 1) (d := .int h.1.2) (g_ixT (i := 0) (d := dF h.1) (gv 3) g_int rfl) g_int rfl) ⟨s2p, by omega⟩) ?_
    refine ws_append 0 (gv 6) rfl (g_is (d' := .int (offOne h d m wt)) (g_max2 rfl Bn g_int (g_add (g_sub (g_add (gv 12) (g_mod (g_div (gv 9) g_int ⟨by decide, by decide⟩) (g_add (g_mul g_int (gv 13) (.inl ⟨by decide, by decide⟩)) g_int) (by omega))) (gv 13)) (g_intB Bn (g_cm (g_mod (g_div (gv 9) g_int ⟨by decide, by decide⟩) g_int (by decide)) c_eqI g_int)))) ?_) (by rw [List.length_map]; exact Nat.lt_trans hol2 (by decide)) (ws_nil ⟨⟨some (DD K (.int (k : Nat))), some (DD K (.int wt)), some (DD K (.int d)), t, b, some (DD K (.int (wt * m))), some (DD K (.int (wt * m * h.1.1 / h.1.2))), ?_⟩, ?_⟩)
    · unfold offOne
      congr 1
      have : (if decide (d / 6 % 50 = 7) then (1 : Int) else 0) = if d / 6 % 50 = 7 then 1 else 0 := by
        by_cases h : d / 6 % 50 = 7 <;> simp [h]
      rw [this]
      omega
    · rw [hstep]; rfl
    · rw [hstep, List.map_append]; rfl
  · rintro E os ⟨⟨k', v', d', t', b', p', r', rfl⟩, rfl⟩
    exact ws_ret (gv 6) ⟨l_found, fun F v h => h, by simp⟩
end
end Z
namespace Z
open PySem PySem.Spec PyProof.Rows L2
variable [Vo]
structure SWok (nb : Nat) (S W : List Int) : Prop where
  s : ∀ x, x ∈ S → 1 ≤ x ∧ x < 2 ^ nb
  w : ∀ x, x ∈ W → 1 ≤ x ∧ x < 2 ^ nb
  l : S.length ≤ W.length
def zw (S W : List Int) (i : Nat) : Int × Int := (S.zip W).getD i (1, 1)
def loZ (S W : List Int) (s : Fr) (i : Nat) : Fr := loM (zw S W i).1 (zw S W i).2 s
def hiZ (S W : List Int) (s : Fr) (i : Nat) : Fr := hiM (zw S W i).1 (zw S W i).2 s
def apart (i j : Nat) : Nat := (i - j) + (j - i)
def barB (S W : List Int) (h : Fr × Fr) (i j : Nat) : Bool := lessM (timesM (hiZ S W h.1 j) (powM h.2 (apart i j))) (loZ S W h.1 i)
def barM (S W : List Int) (h : Fr × Fr) : Option (Nat × Nat) := ((List.range S.length).flatMap fun i => (List.range S.length).map fun j => (i, j)).find? fun p => barB S W h p.1 p.2
theorem zw_get {S W : List Int} {i : Nat} (h : i < S.length) (hl : S.length ≤ W.length) : (S.zip W)[i]? = some (zw S W i) := by
  unfold zw
  rw [List.getD_eq_getElem?_getD]
  have : i < (S.zip W).length := by rw [List.length_zip]; omega
  rw [List.getElem?_eq_getElem this]; rfl
theorem zw_mem {S W : List Int} {p : Int × Int} (h : p ∈ S.zip W) : p.1 ∈ S ∧ p.2 ∈ W := ⟨(List.of_mem_zip h).1, (List.of_mem_zip h).2⟩
theorem zw_ok {nb : Nat} {S W : List Int} (ok : SWok nb S W) {i : Nat} (h : i < S.length) : (1 ≤ (zw S W i).1 ∧ (zw S W i).1 < 2 ^ nb) ∧ 1 ≤ (zw S W i).2 ∧ (zw S W i).2 < 2 ^ nb := by
  have := zw_mem (List.mem_of_getElem? (zw_get h ok.l))
  exact ⟨ok.s _ this.1, ok.w _ this.2⟩
theorem loM_sz {n k : Nat} {len wt : Int} {s : Fr} (h1 : len.natAbs < 2 ^ n) (h2 : 0 < wt) (h3 : wt.natAbs < 2 ^ n) (h4 : Sz k s) (h5 : SlackOk s) : Sz (n + (k + 1)) (loM len wt s) ∧ Sz (n + (k + 1)) (hiM len wt s) := by
  obtain ⟨s1, s2, s3, s4⟩ := slack_sz h4 h5
  have hp : ∀ {a b : Int} {m k : Nat}, a.natAbs < 2 ^ m → b.natAbs < 2 ^ k → (a * b).natAbs < 2 ^ (m + k) := fun h1 h2 => by
    rw [Int.natAbs_mul, Nat.pow_add]
    exact Nat.mul_lt_mul'' h1 h2
  have so := h5
  exact ⟨madeM_sz (hp h1 s1.b) (Int.mul_pos h2 (by have := so.1; have := so.2; omega)) (hp h3 s3), madeM_sz (hp h1 s1.b) (Int.mul_pos h2 (by have := so.1; have := so.2; omega)) (hp h3 s4)⟩
theorem find_flat {α : Type} {p : α → Bool} : ∀ {ls : List (List α)}, (ls.flatten).find? p = ls.findSome? fun l => l.find? p
  | [] => rfl
  | l :: r => by
    rw [List.flatten_cons, List.find?_append, List.findSome?_cons, find_flat]
    cases l.find? p <;> rfl
def dBar : Option (Nat × Nat) → PyData
  | none => .none
  | some p => .tuple [.int (p.1 : Nat), .int (p.2 : Nat)]
theorem barM_some {S W : List Int} {h : Fr × Fr} {i j : Nat} (hi : i < S.length) (hj : j < S.length) (h1 : ∀ i' j', i' < i → j' < S.length → barB S W h i' j' = false) (h2 : ∀ j', j' < j → barB S W h i j' = false) (hb : barB S W h i j = true) : barM S W h = some (i, j) := by
  unfold barM
  have e1 : List.range S.length = List.range i ++ i :: (List.range (S.length - i - 1)).map (fun k => i + 1 + k) := by
    refine List.ext_getElem? fun k => ?_
    rw [List.getElem?_append]
    simp only [List.length_range]
    by_cases q : k < i
    · rw [if_pos q, List.getElem?_range q, List.getElem?_range (by omega)]
    · rw [if_neg q]
      obtain ⟨m, hm⟩ : ∃ m, k = i + m := ⟨k - i, by omega⟩
      subst hm
      rw [show i + m - i = m by omega]
      cases m with
      | zero => rw [List.getElem?_range (by omega)]; simp
      | succ m =>
        rw [List.getElem?_cons_succ, List.getElem?_map]
        by_cases z : i + (m + 1) < S.length
        · rw [List.getElem?_range z, List.getElem?_range (by omega)]
          simp; omega
        · rw [List.getElem?_eq_none (by rw [List.length_range]; omega), List.getElem?_eq_none (by rw [List.length_range]; omega)]; rfl
  have e2 : List.range S.length = List.range j ++ j :: (List.range (S.length - j - 1)).map (fun k => j + 1 + k) := by
    refine List.ext_getElem? fun k => ?_
    rw [List.getElem?_append]
    simp only [List.length_range]
    by_cases q : k < j
    · rw [if_pos q, List.getElem?_range q, List.getElem?_range (by omega)]
    · rw [if_neg q]
      obtain ⟨m, hm⟩ : ∃ m, k = j + m := ⟨k - j, by omega⟩
      subst hm
      rw [show j + m - j = m by omega]
      cases m with
      | zero => rw [List.getElem?_range (by omega)]; simp
      | succ m =>
        rw [List.getElem?_cons_succ, List.getElem?_map]
        by_cases z : j + (m + 1) < S.length
        · rw [List.getElem?_range z, List.getElem?_range (by omega)]
          simp; omega
        · rw [List.getElem?_eq_none (by rw [List.length_range]; omega), List.getElem?_eq_none (by rw [List.length_range]; omega)]; rfl
  rw [List.find?_eq_some_iff_append]
  refine ⟨hb, ?_⟩
  refine ⟨((List.range i).flatMap fun i' => (List.range S.length).map fun j' => (i', j')) ++ (List.range j).map fun j' => (i, j'), ((List.range (S.length - j - 1)).map fun k => (i, j + 1 + k)) ++ ((List.range (S.length - i - 1)).map fun k => i + 1 + k).flatMap fun i' => (List.range S.length).map fun j' => (i', j'), ?_, ?_⟩
  · have : ((List.range S.length).flatMap fun i' => (List.range S.length).map fun j' => (i', j')) = ((List.range i ++ i :: (List.range (S.length - i - 1)).map (fun k => i + 1 + k)).flatMap fun i' => (List.range S.length).map fun j' => (i', j')) := by rw [← e1]
    rw [this, List.flatMap_append, List.flatMap_cons]
    have : (List.range S.length).map (fun j' => (i, j')) = ((List.range j ++ j :: (List.range (S.length - j - 1)).map (fun k => j + 1 + k)).map fun j' => (i, j')) := by rw [← e2]
    rw [this, List.map_append, List.map_cons, List.map_map]
    simp only [List.append_assoc, List.cons_append]
    rfl
  · intro p hp
    rcases List.mem_append.mp hp with q | q
    · obtain ⟨i', hi', q⟩ := List.mem_flatMap.mp q
      obtain ⟨j', hj', rfl⟩ := List.mem_map.mp q
      rw [h1 i' j' (List.mem_range.mp hi') (List.mem_range.mp hj')]; rfl
    · obtain ⟨j', hj', rfl⟩ := List.mem_map.mp q
      rw [h2 j' (List.mem_range.mp hj')]; rfl
theorem barM_none {S W : List Int} {h : Fr × Fr} : barM S W h = none ↔ ∀ i j, i < S.length → j < S.length → barB S W h i j = false := by
  unfold barM
  rw [List.find?_eq_none]
  constructor
  · intro q i j hi hj
    have := q (i, j) (List.mem_flatMap.mpr ⟨i, List.mem_range.mpr hi, List.mem_map.mpr ⟨j, List.mem_range.mpr hj, rfl⟩⟩)
    simpa using this
  · intro q p hp
    obtain ⟨i', hi', z⟩ := List.mem_flatMap.mp hp
    obtain ⟨j', hj', rfl⟩ := List.mem_map.mp z
    rw [q i' j' (List.mem_range.mp hi') (List.mem_range.mp hj')]; decide
section
variable {P : Program} {w : World} {K : PySem.W.Frag} {mg : Str → Option Value} {base : Heap}
abbrev N_law_bar : List Str := ["stretches", "weights", "hand", "bounds", "length", "weight", "powers", "k", "i", "j"]
def q_law_bar (K : PySem.W.Frag) (Rs : List RP) (d : PyData) : Prop := ∃ (nb kb : Nat) (S W : List Int) (h : Fr × Fr), SWok nb S W ∧ HOk' kb h ∧ S.length < 900 ∧ nb + kb * (S.length + 3) ≤ 7900 ∧ Rs = [DD K (.list (S.map .int)), DD K (.list (W.map .int)), DD K (dH h)] ∧ d = dBar (barM S W h)
theorem i_law_bar {nb kb : Nat} {S W : List Int} {h : Fr × Fr} (h1 : SWok nb S W) (h2 : HOk' kb h) (h3 : S.length < 900) (h4 : nb + kb * (S.length + 3) ≤ 7900) : q_law_bar K [DD K (.list (S.map .int)), DD K (.list (W.map .int)), DD K (dH h)] (dBar (barM S W h)) := ⟨nb, kb, S, W, h, h1, h2, h3, h4, rfl, rfl⟩
abbrev encZ (p : Int × Int) : PyData := .tuple [.int p.1, .int p.2]
abbrev dB2 (s : Fr) (p : Int × Int) : PyData := .tuple [dF (loM p.1 p.2 s), dF (hiM p.1 p.2 s)]
theorem zip_enc (S W : List Int) : List.zipWith (fun d d' => PyData.tuple [d, d']) (S.map PyData.int) (W.map PyData.int) = (S.zip W).map encZ := by
  rw [List.zip, List.map_zipWith, List.zipWith_map]
theorem apart_abs (i j : Nat) : (if (i : Int) - (j : Int) < 0 then -((i : Int) - (j : Int)) else (i : Int) - (j : Int)) = ((apart i j : Nat) : Int) := by unfold apart; split <;> omega
end
end Z
namespace Z
open PySem PySem.Spec PyProof.Rows L2
variable [Vo]
abbrev Cand := List Int × List Nat
abbrev encC (c : Cand) : PyData := .tuple [.list (c.1.map .int), .str (mk c.2)]
def begRow (rows : List (List Nat)) (r : List Nat) : Bool := rows.any fun own => decide (own.take r.length = r)
def longRow (rows : List (List Nat)) (r : List Nat) : Bool := rows.any fun own => decide (r.length < own.length) && decide (own.take r.length = r)
def sndC (rows : List (List Nat)) (f : Fo) (c : Cand) (p : Nat × Nat) : List Cand := if begRow rows (c.2 ++ [p.2]) then [(c.1 ++ [if p.1 = 0 then f.s else f.l], c.2 ++ [p.2])] else []
def gapC1 (rows : List (List Nat)) (f : Fo) (c : Cand) : List Cand := if longRow rows c.2 then [(c.1 ++ [f.w], c.2)] else []
def gapC2 (rows : List (List Nat)) (f : Fo) (c : Cand) : List Cand := if c.2 ∈ rows then [(c.1 ++ [f.b], []), (c.1 ++ [f.a], [])] else []
def begC (rows : List (List Nat)) (f : Fo) (k : Nat) (c : Cand) : List Cand :=
  if k % 2 = 0 then ((en 0 [46, 45]).map (sndC rows f c)).flatten else gapC1 rows f c ++ gapC2 rows f c
def begS (rows : List (List Nat)) (f : Fo) : Nat → List Cand
  | 0 => [([], [])]
  | k + 1 => ((begS rows f k).map (begC rows f k)).flatten
def begunM (bk : Bk0) (f : Fo) (many : Nat) : List (List Int) := (begS (bk.map (·.2)) f many).map (·.1)
theorem sndC_len {rows : List (List Nat)} {f : Fo} {c : Cand} {p : Nat × Nat} : (sndC rows f c p).length ≤ 1 := by unfold sndC; split <;> simp
theorem begC_len {rows : List (List Nat)} {f : Fo} {k : Nat} {c : Cand} : (begC rows f k c).length ≤ 3 := by
  unfold begC
  split
  · have : (((en 0 [46, 45]).map (sndC rows f c)).flatten).length ≤ 1 * (en 0 [46, 45]).length := fl_len fun _ _ => sndC_len
    rw [en_len] at this
    simp at this ⊢; omega
  · rw [List.length_append]
    have h1 : (gapC1 rows f c).length ≤ 1 := by unfold gapC1; split <;> simp
    have h2 : (gapC2 rows f c).length ≤ 2 := by unfold gapC2; split <;> simp
    omega
theorem begS_len {rows : List (List Nat)} {f : Fo} : ∀ k, (begS rows f k).length ≤ 3 ^ k
  | 0 => by simp [begS]
  | k + 1 => by
    have : (begS rows f (k + 1)).length ≤ 3 * (begS rows f k).length := fl_len fun _ _ => begC_len
    have := begS_len (rows := rows) (f := f) k
    rw [Nat.pow_succ]; omega
theorem begS_ok {rows : List (List Nat)} {f : Fo} : ∀ k c, c ∈ begS rows f k → c.1.length = k ∧ c.2.length ≤ k ∧ ∀ x, x ∈ c.2 → x = 46 ∨ x = 45
  | 0, c, h => by
    rcases List.mem_singleton.mp h with rfl
    exact ⟨rfl, by simp, fun x hx => nomatch hx⟩
  | k + 1, c, h => by
    obtain ⟨l, hl, hc⟩ := List.mem_flatten.mp h
    obtain ⟨c0, h0, rfl⟩ := List.mem_map.mp hl
    obtain ⟨i1, i2, i3⟩ := begS_ok k c0 h0
    unfold begC at hc
    split at hc
    · obtain ⟨l2, hl2, hc2⟩ := List.mem_flatten.mp hc
      obtain ⟨p, hp, rfl⟩ := List.mem_map.mp hl2
      have hp2 := (en_mem hp).1
      unfold sndC at hc2
      split at hc2
      · rcases List.mem_singleton.mp hc2 with rfl
        refine ⟨by simp [i1], by simp; omega, fun x hx => ?_⟩
        rcases List.mem_append.mp hx with q | q
        · exact i3 x q
        · rcases List.mem_singleton.mp q with rfl
          simpa using hp2
      · cases hc2
    · rcases List.mem_append.mp hc with q | q
      · unfold gapC1 at q
        split at q
        · rcases List.mem_singleton.mp q with rfl
          exact ⟨by simp [i1], by simp; omega, i3⟩
        · cases q
      · unfold gapC2 at q
        split at q
        · have : c = (c0.1 ++ [f.b], []) ∨ c = (c0.1 ++ [f.a], []) := by simpa using q
          rcases this with rfl | rfl
          · exact ⟨by simp [i1], by simp, fun x hx => nomatch hx⟩
          · exact ⟨by simp [i1], by simp, fun x hx => nomatch hx⟩
        · cases q
theorem begS_w {rows : List (List Nat)} {f : Fo} (hf : FoOk f) : ∀ k c, c ∈ begS rows f k → ∀ x, x ∈ c.1 → 1 ≤ x ∧ x ≤ 60
  | 0, c, h => by
    rcases List.mem_singleton.mp h with rfl
    exact fun x hx => nomatch hx
  | k + 1, c, h => by
    obtain ⟨l, hl, hc⟩ := List.mem_flatten.mp h
    obtain ⟨c0, h0, rfl⟩ := List.mem_map.mp hl
    have ih := begS_w hf k c0 h0
    have b1 := hf.s1; have b2 := hf.sl; have b3 := hf.l60; have b4 := hf.w1; have b5 := hf.wb; have b6 := hf.ba; have b7 := hf.a60
    have key : ∀ y, (1 ≤ y ∧ y ≤ 60) → ∀ x, x ∈ c0.1 ++ [y] → 1 ≤ x ∧ x ≤ 60 := fun y hy x hx => by
      rcases List.mem_append.mp hx with q | q
      · exact ih x q
      · rcases List.mem_singleton.mp q with rfl
        exact hy
    unfold begC at hc
    split at hc
    · obtain ⟨l2, hl2, hc2⟩ := List.mem_flatten.mp hc
      obtain ⟨p, hp, rfl⟩ := List.mem_map.mp hl2
      unfold sndC at hc2
      split at hc2
      · rcases List.mem_singleton.mp hc2 with rfl
        exact key _ (by split <;> omega)
      · cases hc2
    · rcases List.mem_append.mp hc with q | q
      · unfold gapC1 at q
        split at q
        · rcases List.mem_singleton.mp q with rfl
          exact key _ (by omega)
        · cases q
      · unfold gapC2 at q
        split at q
        · have : c = (c0.1 ++ [f.b], []) ∨ c = (c0.1 ++ [f.a], []) := by simpa using q
          rcases this with rfl | rfl
          · exact key _ (by omega)
          · exact key _ (by omega)
        · cases q
section
variable {P : Program} {w : World} {K : PySem.W.Frag} {mg : Str → Option Value} {base : Heap}
abbrev N_law_begun : List Str := ["book", "form", "many", "rows", "sign", "row", "some", "k", "later", "weights", "j", "own"]
abbrev encM (l : List Nat) : PyData := .str (mk l)
abbrev encIs (l : List Int) : PyData := .list (l.map .int)
def q_law_begun (K : PySem.W.Frag) (Rs : List RP) (d : PyData) : Prop := ∃ (bk : Bk0) (f : Fo) (m : Nat), BkOk bk ∧ m ≤ 12 ∧ Rs = [DD K (.list (bk.map encP)), DD K (dFo f), DD K (.int (m : Nat))] ∧ d = .list ((begunM bk f m).map encIs)
theorem i_law_begun {bk : Bk0} {f : Fo} {m : Nat} (h1 : BkOk bk) (h2 : m ≤ 12) : q_law_begun K [DD K (.list (bk.map encP)), DD K (dFo f), DD K (.int (m : Nat))] (.list ((begunM bk f m).map encIs)) := ⟨bk, f, m, h1, h2, rfl, rfl⟩
theorem strOk_ds {l : List Nat} (h : ∀ x, x ∈ l → x = 46 ∨ x = 45) : PyData.strOk (mk l) = true := by
  unfold PyData.strOk
  simp only [List.all_toArray, List.all_eq_true, decide_eq_true_eq]
  intro x hx
  rcases h x hx with rfl | rfl <;> decide
theorem shp_rows {rows : List (List Nat)} (h : ∀ r, r ∈ rows → ∀ x, x ∈ r → x = 46 ∨ x = 45) (b : List Nat → Bool) : SeqAt.shaped (.list ((rows.filter b).map encM)) = true := (shp_map (n := 0) fun r hr => shp_str (strOk_ds (h r (List.mem_filter.mp hr).1))).ok
theorem map_snoc {α β : Type} (f : α → β) (xs : List α) (x : α) : xs.map f ++ [f x] = (xs ++ [x]).map f := by rw [List.map_append]; rfl
theorem any_filt {rows : List (List Nat)} {b : List Nat → Bool} : (!PyData.eqv (.list ((rows.filter b).map encM)) (.list [])) = rows.any b := by
  rw [eqv_nil]
  induction rows with
  | nil => rfl
  | cons a t ih =>
    rw [List.filter_cons, List.any_cons]
    cases b a with
    | true => simp
    | false => simpa using ih
end
end Z
namespace Z
open PySem PySem.Spec PyProof.Rows L2
variable [Vo]
abbrev Spn := Fr × Fr
abbrev encSp (s : Spn) : PyData := .tuple [dF s.1, dF s.2]
def swF (x : Fr) : Fr := (x.2, x.1)
def lowK (S W : List Int) (h : Fr × Fr) (n k : Nat) : Fr := timesM (loZ S W h.1 k) (swF (powM h.2 (n - 1 - k)))
def highK (S W : List Int) (h : Fr × Fr) (n k : Nat) : Fr := timesM (hiZ S W h.1 k) (powM h.2 (n - 1 - k))
def spanS (S W : List Int) (h : Fr × Fr) (n : Nat) (s : Spn) (k : Nat) : Spn :=
  (if lessM s.1 (lowK S W h n k) then lowK S W h n k else s.1, if lessM (highK S W h n k) s.2 then highK S W h n k else s.2)
def spanM (S W : List Int) (h : Fr × Fr) : Spn :=
  (List.range S.length).foldl (spanS S W h S.length) (loZ S W h.1 (S.length - 1), hiZ S W h.1 (S.length - 1))
theorem timesM_pos {x y : Fr} (hx : 0 < x.1) (hx2 : 0 < x.2) (hy : 0 < y.1) (hy2 : 0 < y.2) : 0 < (timesM x y).1 := by
  unfold timesM
  obtain ⟨h1, _⟩ := madeM_mul (a := x.1 * y.1) (b := x.2 * y.2)
  have hg := gcd_posR (a := x.1 * y.1) (Int.mul_pos hx2 hy2)
  have hp := Int.mul_pos hx hy
  rcases (show 0 < (madeM (x.1 * y.1) (x.2 * y.2)).1 ∨ (madeM (x.1 * y.1) (x.2 * y.2)).1 ≤ 0 by omega) with q | q
  · exact q
  · have := Int.mul_nonpos_of_nonneg_of_nonpos (show 0 ≤ ((Int.gcd (x.1 * y.1) (x.2 * y.2) : Nat) : Int) by omega) q
    omega
theorem powM_pos {n : Nat} {x : Fr} (hs : Sz n x) (hx : 0 < x.1) : ∀ k, 0 < (powM x k).1
  | 0 => by show (0 : Int) < 1; decide
  | k + 1 => timesM_pos (powM_pos hs hx k) (powM_sz hs k).p hx hs.p
theorem swF_sz {n : Nat} {x : Fr} (h : Sz n x) (hp : 0 < x.1) : Sz n (swF x) := ⟨h.b, hp, h.t⟩
theorem lowK_sz {nb kb : Nat} {S W : List Int} {h : Fr × Fr} (ok : SWok nb S W) (hh : HOk' kb h) {n k : Nat} (hk : k < S.length) (hn : n ≤ S.length) : Sz (nb + (kb + 1) + (1 + kb * S.length)) (lowK S W h n k) ∧ Sz (nb + (kb + 1) + (1 + kb * S.length)) (highK S W h n k) := by
  have hz := zw_ok ok hk
  obtain ⟨z1, z2⟩ := loM_sz (n := nb) (ab_lt (by omega) hz.1.2) (by omega) (ab_lt (by omega) hz.2.2) hh.s hh.so
  have hd1 : 0 < h.2.1 := by have := hh.d1; have := hh.d.p; omega
  have hp := powM_sz hh.d (n - 1 - k)
  have hm : kb * (n - 1 - k) ≤ kb * S.length := Nat.mul_le_mul_left _ (by omega)
  exact ⟨(timesM_sz z1 (swF_sz hp (powM_pos hh.d hd1 _))).mono (by omega), (timesM_sz z2 hp).mono (by omega)⟩
theorem spanS_sz {nb kb : Nat} {S W : List Int} {h : Fr × Fr} (ok : SWok nb S W) (hh : HOk' kb h) {s : Spn} {k : Nat} (hk : k < S.length) {B : Nat} (hB : B = nb + (kb + 1) + (1 + kb * S.length)) (h1 : Sz B s.1) (h2 : Sz B s.2) : Sz B (spanS S W h S.length s k).1 ∧ Sz B (spanS S W h S.length s k).2 := by
  subst hB
  obtain ⟨z1, z2⟩ := lowK_sz ok hh hk (Nat.le_refl S.length)
  unfold spanS
  constructor
  · simp only; split
    · exact z1
    · exact h1
  · simp only; split
    · exact z2
    · exact h2
section
variable {P : Program} {w : World} {K : PySem.W.Frag} {mg : Str → Option Value} {base : Heap}
abbrev N_law_span : List Str := ["stretches", "weights", "hand", "low", "high", "k", "by", "least", "most"]
def q_law_span (K : PySem.W.Frag) (Rs : List RP) (d : PyData) : Prop := ∃ (nb kb : Nat) (S W : List Int) (h : Fr × Fr), SWok nb S W ∧ HOk' kb h ∧ 0 < S.length ∧ S.length = W.length ∧ S.length < 900 ∧ nb + kb * (S.length + 3) ≤ 3900 ∧ Rs = [DD K (.list (S.map .int)), DD K (.list (W.map .int)), DD K (dH h)] ∧ d = encSp (spanM S W h)
theorem i_law_span {nb kb : Nat} {S W : List Int} {h : Fr × Fr} (h1 : SWok nb S W) (h2 : HOk' kb h) (h3 : 0 < S.length) (h4 : S.length = W.length) (h5 : S.length < 900) (h6 : nb + kb * (S.length + 3) ≤ 3900) : q_law_span K [DD K (.list (S.map .int)), DD K (.list (W.map .int)), DD K (dH h)] (encSp (spanM S W h)) := ⟨nb, kb, S, W, h, h1, h2, h3, h4, h5, h6, rfl, rfl⟩
theorem zw_at {S W : List Int} {i : Nat} (h : i < S.length) (hl : S.length ≤ W.length) : S[i]? = some (zw S W i).1 ∧ W[i]? = some (zw S W i).2 := by
  have := zw_get h hl
  rw [List.getElem?_zip_eq_some] at this
  exact this
theorem at_last {α : Type} {enc : α → PyData} {xs : List α} {x : α} (h : xs[xs.length - 1]? = some x) (hp : 0 < xs.length) : L2.atI (xs.map enc) (-1) = some (enc x) := by
  unfold L2.atI
  have : ixN (xs.map enc).length (-1) = some (xs.length - 1) := by
    unfold ixN
    rw [List.length_map]
    simp
    omega
  rw [this]
  show (xs.map enc)[xs.length - 1]? = _
  rw [List.getElem?_map, h]; rfl
end
end Z
namespace Z
open PySem PySem.Spec PyProof.Rows L2
variable [Vo]
structure JSt where
  o : List Spn
  l : Fr
  h : Fr
def jOne (s : JSt) (x : Spn) : JSt :=
  if lessM x.2 s.l || lessM s.h x.1 then ⟨s.o ++ [x], s.l, s.h⟩
  else ⟨s.o, if lessM x.1 s.l then x.1 else s.l, if lessM s.h x.2 then x.2 else s.h⟩
def jAll (found : List Spn) (s : Spn) : JSt := found.foldl jOne ⟨[], s.1, s.2⟩
def jStep (found : List Spn) (s : Spn) : List Spn := let j := jAll found s; j.o ++ [(j.l, j.h)]
def jMin (f : Spn) (xs : List Spn) : Spn := xs.foldl (fun f one => if lessM one.1 f.1 then one else f) f
def fstIx (xs : List Spn) (x : Spn) : Nat := (xs.findIdx? fun y => decide (y = x)).getD 0
def jSel : Nat → List Spn → List Spn
  | 0, _ => []
  | _ + 1, [] => []
  | n + 1, a :: r => let f := jMin a (a :: r); f :: jSel n ((a :: r).eraseIdx (fstIx (a :: r) f))
def joinedM (spans : List Spn) : List Spn := let f := spans.foldl jStep []; jSel f.length f
abbrev SzS (B : Nat) (s : Spn) : Prop := Sz B s.1 ∧ Sz B s.2
theorem jOne_sz {B : Nat} {s : JSt} {x : Spn} (h1 : ∀ y, y ∈ s.o → SzS B y) (h2 : Sz B s.l) (h3 : Sz B s.h) (hx : SzS B x) : (∀ y, y ∈ (jOne s x).o → SzS B y) ∧ Sz B (jOne s x).l ∧ Sz B (jOne s x).h := by
  unfold jOne
  split
  · refine ⟨fun y hy => ?_, h2, h3⟩
    rcases List.mem_append.mp hy with q | q
    · exact h1 y q
    · rcases List.mem_singleton.mp q with rfl
      exact hx
  · refine ⟨h1, ?_, ?_⟩
    · simp only; split
      · exact hx.1
      · exact h2
    · simp only; split
      · exact hx.2
      · exact h3
theorem jOne_len {s : JSt} {x : Spn} : (jOne s x).o.length ≤ s.o.length + 1 := by
  unfold jOne
  split <;> simp
theorem jMin_mem (f : Spn) : ∀ (xs : List Spn), jMin f xs = f ∨ jMin f xs ∈ xs := by
  intro xs
  induction xs generalizing f with
  | nil => exact .inl rfl
  | cons a r ih =>
    unfold jMin
    rw [List.foldl_cons]
    show jMin _ r = f ∨ jMin _ r ∈ a :: r
    split
    · rcases ih a with q | q
      · rw [q]; exact .inr List.mem_cons_self
      · exact .inr (List.mem_cons_of_mem _ q)
    · rcases ih f with q | q
      · exact .inl q
      · exact .inr (List.mem_cons_of_mem _ q)
theorem jMin_mem' {a : Spn} {r : List Spn} : jMin a (a :: r) ∈ a :: r := by
  rcases jMin_mem a (a :: r) with q | q
  · rw [q]; exact List.mem_cons_self
  · exact q
theorem fstIx_ok {xs : List Spn} {x : Spn} (h : x ∈ xs) : (xs.findIdx? fun y => decide (y = x)) = some (fstIx xs x) ∧ fstIx xs x < xs.length := by
  unfold fstIx
  cases hf : xs.findIdx? (fun y => decide (y = x)) with
  | none =>
    have := List.findIdx?_eq_none_iff.mp hf x h
    simp at this
  | some i =>
    refine ⟨rfl, ?_⟩
    obtain ⟨h1, _⟩ := List.findIdx?_eq_some_iff_getElem.mp hf
    exact h1
section
variable {P : Program} {w : World} {K : PySem.W.Frag} {mg : Str → Option Value} {base : Heap}
abbrev N_law_joined : List Str := ["spans", "found", "low", "high", "others", "least", "most", "ordered", "first", "one"]
def q_law_joined (K : PySem.W.Frag) (Rs : List RP) (d : PyData) : Prop := ∃ (B : Nat) (ss : List Spn), (∀ s, s ∈ ss → SzS B s) ∧ B ≤ 8000 ∧ ss.length ≤ 1000000 ∧ Rs = [DD K (.list (ss.map encSp))] ∧ d = .list ((joinedM ss).map encSp)
theorem i_law_joined {B : Nat} {ss : List Spn} (h1 : ∀ s, s ∈ ss → SzS B s) (h2 : B ≤ 8000) (h3 : ss.length ≤ 1000000) : q_law_joined K [DD K (.list (ss.map encSp))] (.list ((joinedM ss).map encSp)) := ⟨B, ss, h1, h2, h3, rfl, rfl⟩
theorem eqv_Sp : EqvD encSp := eqv_pair eqv_Fr eqv_Fr
theorem shp_Sp {s : Spn} {n : Nat} : Shp (n + 2) (encSp s) := shp_t2 (shp_Fr (n := n)) (shp_Fr (n := n))
end
end Z
namespace Z
open PySem PySem.Spec PyProof.Rows L2
variable [Vo]
theorem flatT_ch {bk : Bk0} (hb : BkOk bk) {is : List Itm} (h : ∀ i, i ∈ is → i.2 ∈ bk) : ∀ c, c ∈ flatT is → c < 1114112 := fun c hc => by
  obtain ⟨i, hi, q⟩ := List.mem_flatMap.mp hc
  unfold flatI at q
  rcases List.mem_append.mp q with q | q
  · split at q
    · rcases List.mem_singleton.mp q with rfl; decide
    · cases q
  · rcases List.mem_singleton.mp q with rfl
    exact hb.ch _ (h i hi)
theorem rowW_w {f : Fo} (hf : FoOk f) {r : List Nat} : ∀ x, x ∈ rowW f r → 1 ≤ x ∧ x ≤ 60 := fun x hx => by
  have b1 := hf.s1; have b2 := hf.sl; have b3 := hf.l60; have b4 := hf.w1; have b5 := hf.wb; have b6 := hf.ba; have b7 := hf.a60
  obtain ⟨l, hl, hx⟩ := List.mem_flatten.mp hx
  obtain ⟨p, hp, rfl⟩ := List.mem_map.mp hl
  unfold rowG at hx
  rcases List.mem_append.mp hx with q | q
  · split at q
    · rcases List.mem_singleton.mp q with rfl; omega
    · cases q
  · rcases List.mem_singleton.mp q with rfl
    unfold sgW; split <;> omega
theorem itemsW_w {f : Fo} (hf : FoOk f) : ∀ {is : List Itm}, ∀ x, x ∈ itemsW f is → 1 ≤ x ∧ x ≤ 60
  | [], x, h => nomatch h
  | i :: r, x, h => by
    have b1 := hf.s1; have b2 := hf.sl; have b3 := hf.l60; have b4 := hf.w1; have b5 := hf.wb; have b6 := hf.ba; have b7 := hf.a60
    unfold itemsW at h
    rcases List.mem_append.mp h with q | q
    · exact rowW_w hf x q
    · obtain ⟨j, hj, q⟩ := List.mem_flatMap.mp q
      rcases List.mem_cons.mp q with q | q
      · subst q; split <;> omega
      · exact rowW_w hf x q
theorem rowW_len {f : Fo} {r : List Nat} : (rowW f r).length ≤ 2 * r.length ∧ (r ≠ [] → 0 < (rowW f r).length) := by
  constructor
  · have : (rowW f r).length ≤ 2 * (en 0 r).length := fl_len fun _ _ => rowG_len
    rw [en_len] at this; exact this
  · intro h
    cases r with
    | nil => exact absurd rfl h
    | cons c t => simp [rowW, en, rowG]
theorem rowW_odd {f : Fo} {r : List Nat} (h : r ≠ []) : (rowW f r).length % 2 = 1 := by
  cases r with
  | nil => exact absurd rfl h
  | cons c t =>
    have key : ∀ (t : List Nat) (n : Nat), 0 < n → (((en n t).map (rowG f)).flatten).length = 2 * t.length := by
      intro t
      induction t with
      | nil => intro n _; rfl
      | cons a t ih =>
        intro n hn
        rw [en, List.map_cons, List.flatten_cons, List.length_append, ih (n + 1) (by omega), List.length_cons]
        have : (rowG f (n, a)).length = 2 := by unfold rowG; rw [if_pos hn]; rfl
        omega
    unfold rowW
    rw [en, List.map_cons, List.flatten_cons, List.length_append, key t 1 (by decide)]
    have : (rowG f (0, c)).length = 1 := rfl
    omega
theorem itemsW_odd {bk : Bk0} (hb : BkOk bk) {f : Fo} {is : List Itm} (h : ∀ i, i ∈ is → i.2 ∈ bk) (hne : is ≠ []) : (itemsW f is).length % 2 = 1 := by
  cases is with
  | nil => exact absurd rfl hne
  | cons i r =>
    unfold itemsW
    rw [List.length_append]
    have hi := rowW_odd (f := f) (hb.row _ (h i List.mem_cons_self)).1
    have key : ∀ l : List Itm, (∀ i, i ∈ l → i.2 ∈ bk) → (l.flatMap fun i => (if i.1 then f.a else f.b) :: rowW f i.2.2).length % 2 = 0 := by
      intro l
      induction l with
      | nil => intro _; rfl
      | cons a t ih =>
        intro hl
        rw [List.flatMap_cons, List.length_append, List.length_cons]
        have := ih fun i hi => hl i (List.mem_cons_of_mem _ hi)
        have ha := rowW_odd (f := f) (hb.row _ (hl a List.mem_cons_self)).1
        omega
    have := key r fun i hi => h i (List.mem_cons_of_mem _ hi)
    omega
theorem itemsW_len {bk : Bk0} (hb : BkOk bk) {f : Fo} {is : List Itm} (h : ∀ i, i ∈ is → i.2 ∈ bk) (hne : is ≠ []) : 0 < (itemsW f is).length ∧ (itemsW f is).length ≤ 17 * is.length := by
  cases is with
  | nil => exact absurd rfl hne
  | cons i r =>
    unfold itemsW
    rw [List.length_append, List.length_cons]
    have hi := hb.row _ (h i List.mem_cons_self)
    obtain ⟨r1, r2⟩ := rowW_len (f := f) (r := i.2.2)
    have r3 := r2 hi.1
    have key : ∀ l : List Itm, (∀ i, i ∈ l → i.2 ∈ bk) → (l.flatMap fun i => (if i.1 then f.a else f.b) :: rowW f i.2.2).length ≤ 17 * l.length := by
      intro l
      induction l with
      | nil => simp
      | cons a t ih =>
        intro hl
        rw [List.flatMap_cons, List.length_append, List.length_cons, List.length_cons]
        have := ih fun i hi => hl i (List.mem_cons_of_mem _ hi)
        have ha := hb.row _ (hl a List.mem_cons_self)
        have := (rowW_len (f := f) (r := a.2.2)).1
        omega
    have := key r fun i hi => h i (List.mem_cons_of_mem _ hi)
    omega
def cutTwo (n : Nat) : Nat → List Int → List Int
  | 0, xs => xs
  | k + 1, xs => if n < xs.length then cutTwo n k (xs.take (xs.length - 2)) else xs
structure Small where
  bk : Bk0
  f : Fo
  h : Fr × Fr
  S : List Int
def smallS1 (ns : List Int) (a most : Nat) : List Int :=
  let S0 := offM ns (a + 5) (itemsW (formM ns (a + 2)) (itmsM ns (a + 4) (bookM ns a 6) most)) (handM ns (a + 3))
  cutTwo (2 * most - 1) S0.length S0
def smallS (ns : List Int) (a most : Nat) : List Int :=
  let d := dr (drawsM ns (a + 6) 12 27720)
  let S1 := smallS1 ns a most
  let S2 := if d 0 % 5 = 0 then S1.set (d 1 % S1.length).toNat (1 + d 2 % 40) else S1
  if d 3 % 12 = 0 ∧ 1 < S2.length then S2.take (S2.length - 1) else S2
def smallM (ns : List Int) (a most : Nat) : Small := ⟨bookM ns a 6, formM ns (a + 2), handM ns (a + 3), smallS ns a most⟩
theorem cutTwo_ok {n : Nat} (h1 : n % 2 = 1) : ∀ (k : Nat) (xs : List Int), xs.length % 2 = 1 → xs.length ≤ k → ((cutTwo n k xs).length % 2 = 1 ∧ (cutTwo n k xs).length ≤ n) ∧ ∀ x, x ∈ cutTwo n k xs → x ∈ xs
  | 0, xs, hp, hk => by omega
  | k + 1, xs, hp, hk => by
    unfold cutTwo
    split
    · obtain ⟨i1, i2⟩ := cutTwo_ok h1 k (xs.take (xs.length - 2)) (by rw [List.length_take]; omega) (by rw [List.length_take]; omega)
      exact ⟨i1, fun x hx => List.mem_of_mem_take (i2 x hx)⟩
    · exact ⟨⟨hp, by omega⟩, fun x hx => hx⟩
theorem itms_ok {ns : List Int} {a m : Nat} {bk : Bk0} (hb : BkOk bk) (h0 : 0 < m) : (∀ i, i ∈ itmsM ns a bk m → i.2 ∈ bk) ∧ itmsM ns a bk m ≠ [] ∧ (itmsM ns a bk m).length ≤ m := by
  obtain ⟨t1, t2, _⟩ := textN_bd (ns := ns) (a := a) h0
  refine ⟨fun i hi => ?_, fun e => ?_, ?_⟩
  · obtain ⟨k, _, rfl⟩ := List.mem_map.mp hi
    exact itm_mem hb.ne
  · have := congrArg List.length e
    unfold itmsM at this
    rw [List.length_map, List.length_range] at this
    simp at this; omega
  · unfold itmsM
    rw [List.length_map, List.length_range]; exact t2
theorem small1_ok {ns : List Int} {a m : Nat} (h0 : 0 < m) : ((smallS1 ns a m).length % 2 = 1 ∧ (smallS1 ns a m).length ≤ 2 * m - 1) ∧ ∀ x, x ∈ smallS1 ns a m → 1 ≤ x ∧ x < 134217728 := by
  obtain ⟨hb, _⟩ := bookM_ok (ns := ns) (a := a) (most := 6) (by decide) (by decide)
  obtain ⟨i1, i2, i3⟩ := itms_ok (ns := ns) (a := a + 4) (m := m) hb h0
  obtain ⟨o1, o2⟩ := offM_ok (ns := ns) (a := a + 5) (ws := itemsW (formM ns (a + 2)) (itmsM ns (a + 4) (bookM ns a 6) m)) (handM_ok ns (a + 3)) (itemsW_w (formM_ok ns (a + 2)))
  unfold smallS1
  obtain ⟨c1, c2⟩ := cutTwo_ok (n := 2 * m - 1) (by omega) _ (offM ns (a + 5) (itemsW (formM ns (a + 2)) (itmsM ns (a + 4) (bookM ns a 6) m)) (handM ns (a + 3))) (by rw [o1]; exact itemsW_odd hb i1 i2) (Nat.le_refl _)
  exact ⟨c1, fun x hx => o2 x (c2 x hx)⟩
theorem smallS_ok {ns : List Int} {a m : Nat} (h0 : 0 < m) : (0 < (smallS ns a m).length ∧ (smallS ns a m).length ≤ 2 * m - 1) ∧ ∀ x, x ∈ smallS ns a m → 1 ≤ x ∧ x < 134217728 := by
  obtain ⟨⟨p1, p2⟩, p3⟩ := small1_ok (ns := ns) (a := a) h0
  unfold smallS
  simp only
  generalize smallS1 ns a m = S1 at p1 p2 p3
  generalize dr (drawsM ns (a + 6) 12 27720) = d
  have q : ∀ S2 : List Int, S2 = (if d 0 % 5 = 0 then S1.set (d 1 % S1.length).toNat (1 + d 2 % 40) else S1) → (0 < S2.length ∧ S2.length ≤ 2 * m - 1) ∧ ∀ x, x ∈ S2 → 1 ≤ x ∧ x < 134217728 := fun S2 h => by
    subst h
    split
    · refine ⟨by rw [List.length_set]; omega, fun x hx => ?_⟩
      rcases List.mem_or_eq_of_mem_set hx with q | q
      · exact p3 x q
      · subst q; omega
    · exact ⟨by omega, p3⟩
  obtain ⟨⟨q1, q2⟩, q3⟩ := q _ rfl
  generalize (if d 0 % 5 = 0 then S1.set (d 1 % S1.length).toNat (1 + d 2 % 40) else S1) = S2 at q1 q2 q3
  split
  · exact ⟨by rw [List.length_take]; omega, fun x hx => q3 x (List.mem_of_mem_take hx)⟩
  · exact ⟨⟨q1, q2⟩, q3⟩
end Z
namespace Z
open PySem PySem.Spec PyProof.Rows L2
variable [Vo]
section
variable {P : Program} {w : World} {K : PySem.W.Frag} {mg : Str → Option Value} {base : Heap}
abbrev N_law_small : List Str := ["script", "at", "most", "book", "form", "hand", "weights", "stretches", "draws"]
theorem sc_law_small : FnScope N_law_small ["script", "at", "most"] (defScope st_law_small) := ⟨rfl, rfl, rfl, by decide +kernel, rfl, by decide +kernel, by decide +kernel⟩
abbrev dBk (bk : Bk0) : PyData := .list (bk.map encP)
abbrev dSmall (s : Small) : PyData := .tuple [dBk s.bk, dFo s.f, dH s.h, encIs s.S]
def q_law_small (K : PySem.W.Frag) (Rs : List RP) (d : PyData) : Prop := ∃ (ns : List Int) (a m : Nat), a ≤ 800 ∧ 0 < m ∧ m ≤ 23 ∧ Rs = [ScR K ns, DD K (.int a), DD K (.int m)] ∧ d = dSmall (smallM ns a m)
theorem ix_lt {n i : Nat} (h : i < n) : ixN n (i : Int) = some i := by
  unfold ixN
  rw [if_pos (by omega), if_pos (by omega)]; simp
theorem ok_law_small {f : Addr} {fd : FuncData} (F : Fun K "_law_small" "_law_small" st_law_small f fd) (Bn : Bn mg) (C_law_book : FnD P w K mg base 3 "_law_book" ["script", "at", "most"] (spN K (q_law_book K))) (C_law_form : FnD P w K mg base 3 "_law_form" ["script", "at"] (spG K (q_law_form K))) (C_law_hand : FnD P w K mg base 3 "_law_hand" ["script", "at"] (spG K (q_law_hand K)))
    (C_law_text : FnD P w K mg base 3 "_law_text" ["script", "at", "book", "most"] (spG K (q_law_text K))) (C_law_weights : FnD P w K mg base 2 "_law_weights" ["book", "form", "text"] (spG K (q_law_weights K))) (C_law_off : FnD P w K mg base 3 "_law_off" ["script", "at", "weights", "hand"] (spN K (q_law_off K))) (C_law_draws : FnD P w K mg base 2 "_law_draws" ["script", "k", "many", "base"] (spN K (q_law_draws K))) : FnOk P w K mg base CX0 4 f fd ["script", "at", "most"] (spG K (q_law_small K)) := by
  refine fn_G F sc_law_small (fun Rs d h => by obtain ⟨_, _, _, _, _, _, rfl, _⟩ := h; rfl) (fun cdv A outer s H F0 E hr Rs d hq => ?_)
  obtain ⟨ns, a, m, ha, h0, hm, rfl, rfl⟩ := hq
  have sm : Mono (ScR K ns) := ScR.mo
  obtain ⟨hb, hbl⟩ := bookM_ok (ns := ns) (a := a) (most := 6) (by decide) (by decide)
  obtain ⟨i1, i2, i3⟩ := itms_ok (ns := ns) (a := a + 4) (m := m) hb h0
  have hf := formM_ok ns (a + 2)
  have hh := handM_ok ns (a + 3)
  obtain ⟨w1, w2⟩ := itemsW_len hb (f := formM ns (a + 2)) i1 i2
  have w3 := itemsW_w hf (is := itmsM ns (a + 4) (bookM ns a 6) m)
  obtain ⟨o1, o2⟩ := offM_ok (ns := ns) (a := a + 5) hh w3
  have hodd := itemsW_odd hb (f := formM ns (a + 2)) i1 i2
  have hS := smallS_ok (ns := ns) (a := a) h0
  have hS1 := small1_ok (ns := ns) (a := a) h0
  have hft := flatT_len (itmsM ns (a + 4) (bookM ns a 6) m)
  have hch := flatT_ch hb i1
  have hwm := weightsM_text (ns := ns) (a := a + 4) (m := m) (f := formM ns (a + 2)) hb h0
  refine ws_set 3 sc_law_small.nd rfl (.inl rfl) (n_callN C_law_book (hr.mono (by decide)) (ga_cons (gv 0) (ga_cons (gv 1) (ga_cons g_int ga_nil))) ⟨ns, a, 6, by omega, by decide, by decide, rfl, rfl⟩).ge ?_
  refine ws_set 4 sc_law_small.nd rfl (.inl rfl) (g_callG C_law_form (hr.mono (by decide)) (ga_cons (gv 0) (ga_cons (g_add (gv 1) g_int) ga_nil)) ⟨ns, a + 2, by omega, rfl, rfl⟩) ?_
  refine ws_set 5 sc_law_small.nd rfl (.inl rfl) (g_callG C_law_hand (hr.mono (by decide)) (ga_cons (gv 0) (ga_cons (g_add (gv 1) g_int) ga_nil)) ⟨ns, a + 3, by omega, rfl, rfl⟩) ?_
  refine ws_set 6 sc_law_small.nd rfl (.inl rfl) (g_is (d' := encIs (itemsW (formM ns (a + 2)) (itmsM ns (a + 4) (bookM ns a 6) m))) (g_callG C_law_weights (hr.mono (by decide)) (ga_cons (gv 3) (ga_cons (gv 4) (ga_cons (g_callG C_law_text (hr.mono (by decide)) (ga_cons (gv 0) (ga_cons (g_add (gv 1) g_int) (ga_cons (gv 3) (ga_cons (gv 2) ga_nil)))) ⟨ns, a + 4, bookM ns a 6, m, by omega, h0, hm, hb.ne, by omega, rfl, rfl⟩) ga_nil))) ⟨bookM ns a 6, formM ns (a + 2), textM ns (a + 4) (bookM ns a 6) m, hb, by unfold textM; omega, hch, rfl, rfl⟩) (by rw [hwm]; rfl)) ?_
  unfold smallM smallS
  unfold smallS1 at hS1 ⊢
  simp only
  generalize itemsW (formM ns (a + 2)) (itmsM ns (a + 4) (bookM ns a 6) m) = W0 at *
  refine ws_new 7 sc_law_small.nd rfl (.inl rfl) (n_callN C_law_off (hr.mono (by decide)) (ga_cons (gv 0) (ga_cons (g_add (gv 1) g_int) (ga_cons (gv 6) (ga_cons (gv 5) ga_nil)))) ⟨ns, a + 5, W0, handM ns (a + 3), by omega, w3, by omega, hh, rfl, rfl⟩) fun l0 => ?_
  generalize offM ns (a + 5) W0 (handM ns (a + 3)) = S0 at *
  refine ws_set 8 sc_law_small.nd rfl (.inl rfl) (n_callN C_law_draws (hr.mono (by decide)) (ga_cons (gv 0) (ga_cons (g_add (gv 1) g_int) (ga_cons g_int (ga_cons g_int ga_nil)))) (i_law_draws (k := a + 6) (many := 12) (bs := 27720) (by omega) (by decide) (by decide) (by decide))).ge ?_
  have at0 : ∀ n : Nat, n < 12 → L2.atI ((drawsM ns (a + 6) 12 27720).map PyData.int) (n : Int) = some (.int (dr (drawsM ns (a + 6) 12 27720) n)) := fun n h => at_dr h
  have nn : ∀ n, 0 ≤ dr (drawsM ns (a + 6) 12 27720) n := dr_nn (by decide)
  generalize hxs : drawsM ns (a + 6) 12 27720 = xs at at0 nn
  generalize hT : cutTwo (2 * m - 1) S0.length S0 = S1 at hS1
  refine ws_while (W := fun k E os => ∃ (l : Addr) (S : List Int), S.length ≤ k ∧ cutTwo (2 * m - 1) k S = S1 ∧ S.length ≤ 400 ∧ S.length % 2 = 1 ∧ E = [some (ScR K ns), some (DD K (.int a)), some (DD K (.int m)), some (DD K (dBk (bookM ns a 6))), some (DD K (dFo (formM ns (a + 2)))), some (DD K (dH (handM ns (a + 3)))), some (DD K (encIs W0)), some (RR l), some (DD K (.list (xs.map .int)))] ∧ os = [(l, Ls K (S.map .int))]) (m0 := S0.length) PassesOwn.never ⟨l0, S0, Nat.le_refl _, hT, by omega, by omega, rfl, rfl⟩ ?_
  rintro k E os ⟨l, S, hk, hcut, hlen, hod, rfl, rfl⟩
  refine ⟨_, _, _, Vw.one 7 0, gb_cm (g_lenL Bn (gv 7)) c_gt (g_sub (g_mul g_int (gv 2) (.inl ⟨by decide, by decide⟩)) g_int), fun h => ?_, fun h => ?_⟩
  · have h' : 2 * m - 1 < S.length := by
      have : (2 : Int) * (m : Int) - 1 < ((S.map PyData.int).length : Int) := by simpa using h
      rw [List.length_map] at this
      omega
    refine ws_renew (o := Ls K (S.map .int)) 7 0 sc_law_small.nd rfl (.inl rfl) (GEN.is (ds' := (S.take (S.length - 2)).map .int) (n_slL (gv 7) go_none (go_some (g_neg g_int))) (by
      rw [show (-2 : Int) = -((2 : Nat) : Int) from rfl, cut_less (by decide), List.length_map, List.map_take])) fun l' => ?_
    obtain ⟨k', hk'⟩ : ∃ k', k = k' + 1 := ⟨k - 1, by omega⟩
    refine ws_nil ⟨k - 1, by omega, l', S.take (S.length - 2), by rw [List.length_take]; omega, ?_, by rw [List.length_take]; omega, by rw [List.length_take]; omega, rfl, rfl⟩
    rw [hk'] at hcut ⊢
    unfold cutTwo at hcut
    rw [if_pos h'] at hcut
    exact hcut
  · have h' : ¬ 2 * m - 1 < S.length := by
      have : ¬ (2 : Int) * (m : Int) - 1 < ((S.map PyData.int).length : Int) := by simpa using h
      rw [List.length_map] at this
      omega
    have hSS : S = S1 := by
      cases k with
      | zero => omega
      | succ k =>
        unfold cutTwo at hcut
        rw [if_neg h'] at hcut
        exact hcut
    subst hSS
    have hp : (0 : Int) < S.length := by omega
    refine ws_ifJ (J := fun E os => ∃ S2 : List Int, S2 = (if dr xs 0 % 5 = 0 then S.set (dr xs 1 % S.length).toNat (1 + dr xs 2 % 40) else S) ∧ E = [some (ScR K ns), some (DD K (.int a)), some (DD K (.int m)), some (DD K (dBk (bookM ns a 6))), some (DD K (dFo (formM ns (a + 2)))), some (DD K (dH (handM ns (a + 3)))), some (DD K (encIs W0)), some (RR l), some (DD K (.list (xs.map .int)))] ∧ os = [(l, Ls K (S2.map .int))]) Vw.refl (gb_cm (g_mod (g_ixL (gv 8) g_int (at0 0 (by decide))) g_int (by decide)) c_eqI g_int) (fun q => ?_) (fun q => ?_) ?_
    · have q' : dr xs 0 % 5 = 0 := by simpa using q
      have m1 := Int.emod_nonneg (dr xs 1) (show (S.length : Int) ≠ 0 by omega)
      have m2 := Int.emod_lt_of_pos (dr xs 1) hp
      refine ws_setIxV 0 (n := (dr xs 1 % S.length).toNat) (gv 7) rfl (Vw.one 7 0) (g_is (d' := .int (((dr xs 1 % S.length).toNat : Nat) : Int)) (g_mod (g_ixL (gv 8) g_int (at0 1 (by decide))) (g_lenL Bn (gv 7)) (by rw [List.length_map]; exact hp)) (by rw [List.length_map]; congr 1; omega)) (ix_lt (by rw [List.length_map]; omega)) (g_add g_int (g_mod (g_ixL (gv 8) g_int (at0 2 (by decide))) g_int (by decide))) ?_
      refine ws_nil ⟨_, rfl, rfl, ?_⟩
      rw [if_pos q', List.map_set]
      rfl
    · have q' : ¬ dr xs 0 % 5 = 0 := by simpa using q
      refine ws_nil ⟨_, rfl, rfl, ?_⟩
      rw [if_neg q']
    rintro E os ⟨S2, hS2, rfl, rfl⟩
    rw [← hS2]
    refine ws_ifJ (J := fun E os => ∃ (l : Addr) (S3 : List Int), S3 = (if dr xs 3 % 12 = 0 ∧ 1 < S2.length then S2.take (S2.length - 1) else S2) ∧ E = [some (ScR K ns), some (DD K (.int a)), some (DD K (.int m)), some (DD K (dBk (bookM ns a 6))), some (DD K (dFo (formM ns (a + 2)))), some (DD K (dH (handM ns (a + 3)))), some (DD K (encIs W0)), some (RR l), some (DD K (.list (xs.map .int)))] ∧ os = [(l, Ls K (S3.map .int))]) (Vw.one 7 0) (GW.gb (gw_and (gb_cm (g_mod (g_ixL (gv 8) g_int (at0 3 (by decide))) g_int (by decide)) c_eqI g_int) fun h => (gw_and1 (gb_cm (g_lenL Bn (gv 7)) c_gt g_int)))) (fun q => ?_) (fun q => ?_) ?_
    · have q' : dr xs 3 % 12 = 0 ∧ 1 < S2.length := by
        have : dr xs 3 % 12 = 0 ∧ (1 : Int) < ((S2.map PyData.int).length : Int) := by simpa using q
        rw [List.length_map] at this
        exact ⟨this.1, by omega⟩
      refine ws_renew (o := Ls K (S2.map .int)) 7 0 sc_law_small.nd rfl (.inl rfl) (GEN.is (ds' := (S2.take (S2.length - 1)).map .int) (n_slL (gv 7) go_none (go_some (g_neg g_int))) (by
        rw [show (-1 : Int) = -((1 : Nat) : Int) from rfl, cut_less (by decide), List.length_map, List.map_take])) fun l' => ?_
      exact ws_nil ⟨l', _, rfl, rfl, by rw [if_pos q']; rfl⟩
    · have q' : ¬ (dr xs 3 % 12 = 0 ∧ 1 < S2.length) := by
        intro hq
        have : ¬ (dr xs 3 % 12 = 0 ∧ (1 : Int) < ((S2.map PyData.int).length : Int)) := by
          intro hx
          simp [hx.1] at q
          have := hx.2
          rw [List.length_map] at this
          omega
        refine this ⟨hq.1, ?_⟩
        rw [List.length_map]
        omega
      exact ws_nil ⟨l, _, rfl, rfl, by rw [if_neg q']⟩
    rintro E os ⟨l3, S3, hS3, rfl, rfl⟩
    rw [← hS3]
    refine ws_giveAt 0 (Vw.one 7 0) ?_
    exact ws_ret (gt_tup (gad_cons (gv 3) (gad_cons (gv 4) (gad_cons (gv 5) (gad_cons (gv 7) gad_nil))))) (fun F v h => h)
end
end Z
namespace Z
open PySem PySem.Spec PyProof.Rows L2
variable [Vo]
def choicesM (rows : List (List Nat)) (f : Fo) (at_ : Nat) (row : List Nat) : List (Int × List Nat) :=
  if at_ % 2 = 0 then [(f.s, row ++ [46]), (f.l, row ++ [45])].filter fun p => begRow rows p.2
  else [(f.w, row)] ++ (if row ∈ rows then [(f.b, []), (f.a, [])] else [])
structure St4 where
  n : Nat
  row : List Nat
  lo : Fr
  hi : Fr
  deriving DecidableEq
abbrev encSt (s : St4) : PyData := .tuple [.int (s.n : Nat), .str (mk s.row), dF s.lo, dF s.hi]
abbrev encCh (p : Int × List Nat) : PyData := .tuple [.int p.1, .str (mk p.2)]
abbrev encNx (p : Int × St4) : PyData := .tuple [.int p.1, encSt p.2]
def leastM (S : List Int) (h : Fr × Fr) (s : St4) (w : Int) : Fr :=
  let l := loM (S.getD s.n 1) w h.1
  if 0 < s.n then (if lessM l (overM s.lo h.2) then overM s.lo h.2 else l) else l
def mostM (S : List Int) (h : Fr × Fr) (s : St4) (w : Int) : Fr :=
  let m := hiM (S.getD s.n 1) w h.1
  if 0 < s.n then (if lessM (timesM s.hi h.2) m then timesM s.hi h.2 else m) else m
def stepM (S : List Int) (h : Fr × Fr) (s : St4) (p : Int × List Nat) : List (Int × St4) :=
  if lessM (mostM S h s p.1) (leastM S h s p.1) then [] else [(p.1, ⟨s.n + 1, p.2, leastM S h s p.1, mostM S h s p.1⟩)]
def nextM (rows : List (List Nat)) (f : Fo) (S : List Int) (h : Fr × Fr) (s : St4) : List (Int × St4) := ((choicesM rows f s.n s.row).map (stepM S h s)).flatten
def firstM : St4 := ⟨0, [], (0, 1), (0, 1)⟩
abbrev StB (nb kb n : Nat) : Nat := nb + (kb + 1) + kb * n
structure StOk (nb kb : Nat) (s : St4) : Prop where
  lo : Sz (StB nb kb s.n) s.lo
  hi : Sz (StB nb kb s.n) s.hi
  row : s.row.length ≤ 1000
theorem choices_w {rows : List (List Nat)} {f : Fo} (hf : FoOk f) {n : Nat} {row : List Nat} : ∀ p, p ∈ choicesM rows f n row → (1 ≤ p.1 ∧ p.1 ≤ 60) ∧ p.2.length ≤ row.length + 1 := by
  have b1 := hf.s1; have b2 := hf.sl; have b3 := hf.l60; have b4 := hf.w1; have b5 := hf.wb; have b6 := hf.ba; have b7 := hf.a60
  intro p hp
  unfold choicesM at hp
  split at hp
  · have := (List.mem_filter.mp hp).1
    have : p = (f.s, row ++ [46]) ∨ p = (f.l, row ++ [45]) := by simpa using this
    rcases this with rfl | rfl
    · exact ⟨⟨by show 1 ≤ f.s; omega, by show f.s ≤ 60; omega⟩, by simp⟩
    · exact ⟨⟨by show 1 ≤ f.l; omega, by show f.l ≤ 60; omega⟩, by simp⟩
  · rcases List.mem_append.mp hp with q | q
    · rcases List.mem_singleton.mp q with rfl
      exact ⟨⟨by show 1 ≤ f.w; omega, by show f.w ≤ 60; omega⟩, by show row.length ≤ row.length + 1; omega⟩
    · split at q
      · have : p = (f.b, []) ∨ p = (f.a, []) := by simpa using q
        rcases this with rfl | rfl
        · exact ⟨⟨by show 1 ≤ f.b; omega, by show f.b ≤ 60; omega⟩, by simp⟩
        · exact ⟨⟨by show 1 ≤ f.a; omega, by show f.a ≤ 60; omega⟩, by simp⟩
      · cases q
theorem choices_len {rows : List (List Nat)} {f : Fo} {n : Nat} {row : List Nat} : (choicesM rows f n row).length ≤ 3 := by
  unfold choicesM
  split
  · exact Nat.le_trans (List.length_filter_le _ _) (by simp)
  · rw [List.length_append]
    split <;> simp
theorem bounds_sz {nb kb : Nat} {S : List Int} {h : Fr × Fr} (hS : ∀ x, x ∈ S → 1 ≤ x ∧ x < 2 ^ nb) (hh : HOk' kb h) (h6 : 6 ≤ nb) {n : Nat} (hn : n < S.length) {w : Int} (hw : 1 ≤ w ∧ w ≤ 60) : (1 ≤ S.getD n 1 ∧ S.getD n 1 < 2 ^ nb) ∧ w < 2 ^ nb ∧ Sz (nb + (kb + 1)) (loM (S.getD n 1) w h.1) ∧ Sz (nb + (kb + 1)) (hiM (S.getD n 1) w h.1) := by
  have e : S.getD n 1 ∈ S := by
    rw [List.getD_eq_getElem?_getD, List.getElem?_eq_getElem hn]
    exact List.getElem_mem hn
  have hs := hS _ e
  have h64 : (64 : Int) ≤ 2 ^ nb := by
    have : (2 : Nat) ^ 6 ≤ 2 ^ nb := Nat.pow_le_pow_right (by decide) h6
    exact_mod_cast this
  obtain ⟨z1, z2⟩ := loM_sz (n := nb) (ab_lt (by omega) hs.2) (show 0 < w by omega) (ab_lt (by omega) (by omega)) hh.s hh.so
  exact ⟨hs, by omega, z1, z2⟩
theorem least_sz {nb kb : Nat} {S : List Int} {h : Fr × Fr} (hS : ∀ x, x ∈ S → 1 ≤ x ∧ x < 2 ^ nb) (hh : HOk' kb h) (h6 : 6 ≤ nb) {s : St4} (hn : s.n < S.length) (ok : StOk nb kb s) {w : Int} (hw : 1 ≤ w ∧ w ≤ 60) : Sz (StB nb kb (s.n + 1)) (leastM S h s w) ∧ Sz (StB nb kb (s.n + 1)) (mostM S h s w) := by
  obtain ⟨_, _, z1, z2⟩ := bounds_sz hS hh h6 hn hw
  have e : kb * (s.n + 1) = kb * s.n + kb := Nat.mul_succ _ _
  have hd1 : 0 < h.2.1 := by have := hh.d1; have := hh.d.p; omega
  unfold leastM mostM
  constructor
  · simp only
    split
    · split
      · exact (overM_sz ok.lo hh.d hd1).mono (by show nb + (kb + 1) + kb * s.n + kb ≤ nb + (kb + 1) + kb * (s.n + 1); omega)
      · exact z1.mono (by show nb + (kb + 1) ≤ nb + (kb + 1) + kb * (s.n + 1); omega)
    · exact z1.mono (by show nb + (kb + 1) ≤ nb + (kb + 1) + kb * (s.n + 1); omega)
  · simp only
    split
    · split
      · exact (timesM_sz ok.hi hh.d).mono (by show nb + (kb + 1) + kb * s.n + kb ≤ nb + (kb + 1) + kb * (s.n + 1); omega)
      · exact z2.mono (by show nb + (kb + 1) ≤ nb + (kb + 1) + kb * (s.n + 1); omega)
    · exact z2.mono (by show nb + (kb + 1) ≤ nb + (kb + 1) + kb * (s.n + 1); omega)
end Z
namespace Z
open PySem PySem.Spec PyProof.Rows L2
variable [Vo]
theorem nkey_St : NKey encSt where
  ok := fun k => rfl
  dep := fun k => by show (2 : Nat) ≤ 8; decide
  inj := fun k k' e => by
    obtain ⟨n, r, l, h⟩ := k
    obtain ⟨n', r', l', h'⟩ := k'
    obtain ⟨l1, l2⟩ := l
    obtain ⟨h1, h2⟩ := h
    obtain ⟨l1', l2'⟩ := l'
    obtain ⟨h1', h2'⟩ := h'
    simp only [nkOf, nkAll] at e
    simp at e
    obtain ⟨e1, e2, ⟨e3, e4⟩, e5, e6⟩ := e
    have e1' : n = n' := by omega
    subst e1' e2 e3 e4 e5 e6
    rfl
  tup := fun k => ⟨_, rfl⟩
def waysF (rows : List (List Nat)) (f : Fo) (h : Fr × Fr) (S : List Int) : Nat → St4 → Nat
  | 0, s => if s.n % 2 = 1 ∧ s.row ∈ rows then 1 else 0
  | k + 1, s => ((nextM rows f S h s).map fun p => waysF rows f h S k p.2).sum
def waysM (rows : List (List Nat)) (f : Fo) (h : Fr × Fr) (S : List Int) (s : St4) : Nat := waysF rows f h S (S.length - s.n) s
def lvlM (rows : List (List Nat)) (f : Fo) (h : Fr × Fr) (S : List Int) : Nat → List St4
  | 0 => [firstM]
  | k + 1 => (lvlM rows f h S k).flatMap fun s => (nextM rows f S h s).map (·.2)
def domW (rows : List (List Nat)) (f : Fo) (h : Fr × Fr) (S : List Int) : List St4 := (List.range (S.length + 1)).flatMap (lvlM rows f h S)
def noteW (rows : List (List Nat)) (f : Fo) (h : Fr × Fr) (S : List Int) : Note :=
  ([Sum.inl 0], V.non) :: ([Sum.inl f.s, Sum.inl f.l, Sum.inl f.w, Sum.inl f.b, Sum.inl f.a], V.non) :: ([Sum.inl h.1.1, Sum.inl h.1.2, Sum.inl h.2.1, Sum.inl h.2.2], V.non) :: (S.map Sum.inl, V.non) :: rows.map fun r => ([Sum.inr (mk r)], V.non)
theorem noteW_inj {rows rows' : List (List Nat)} {f f' : Fo} {h h' : Fr × Fr} {S S' : List Int} (e : noteW rows f h S = noteW rows' f' h' S') : rows = rows' ∧ f = f' ∧ h = h' ∧ S = S' := by
  unfold noteW at e
  simp only [List.cons.injEq, Prod.mk.injEq, Sum.inl.injEq, and_true, true_and] at e
  obtain ⟨⟨e1, e2, e3, e4, e5⟩, ⟨e6, e7, e8, e9⟩, e10, e11⟩ := e
  refine ⟨?_, ?_, ?_, ?_⟩
  · refine (List.map_inj_right fun x y q => ?_).mp e11
    have : mk x = mk y := by simpa using q
    exact mk_inj this
  · obtain ⟨_, _, _, _, _⟩ := f
    obtain ⟨_, _, _, _, _⟩ := f'
    simp only at e1 e2 e3 e4 e5
    subst e1 e2 e3 e4 e5
    rfl
  · obtain ⟨⟨_, _⟩, _, _⟩ := h
    obtain ⟨⟨_, _⟩, _, _⟩ := h'
    simp only at e6 e7 e8 e9
    subst e6 e7 e8 e9
    rfl
  · exact (List.map_inj_right fun x y q => Sum.inl.inj q).mp e10
abbrev valW (rows : List (List Nat)) (f : Fo) (h : Fr × Fr) (S : List Int) (s : St4) : Int := (waysM rows f h S s : Nat)
structure MemoW (P : Program) (w : World) (K : PySem.W.Frag) : Prop where
  ms : ∀ rows f h S, MemoS P w K (noteW rows f h S) encSt (domW rows f h S) (valW rows f h S)
def memW (P : Program) (w : World) (K : PySem.W.Frag) (nt : Note) (F : Hp) (c : Addr) (o : HO) : Prop :=
  ∃ rows f h S, nt = noteW rows f h S ∧ ∃ xs kvs, o = NDx P w c xs ∧ NDr K encSt F xs kvs ∧ MemK (domW rows f h S) (valW rows f h S) kvs
def vo0 : Vo where
  mem := fun _ _ _ _ => False
  back := fun h _ => h
  ext := fun h => h.elim
def voW (P : Program) (w : World) (K : PySem.W.Frag) : Vo where
  mem := memW P w K
  back := fun ⟨rows, f, h, S, e, xs, kvs, eo, r, m⟩ b => by
    letI := vo0
    exact ⟨rows, f, h, S, e, xs, kvs, eo, r.back nkey_St b fun p hp => by rw [(m.ok p hp).2]; rfl, m⟩
  ext := fun ⟨_, _, _, _, _, _, _, eo, _⟩ => ⟨_, eo⟩
theorem memoW_voW (P : Program) (w : World) (K : PySem.W.Frag) : @MemoW (voW P w K) P w K := by
  letI := voW P w K
  refine ⟨fun rows f h S => ⟨fun F c o ⟨rows', f', h', S', e, xs, kvs, eo, r, m⟩ => ?_, fun F c xs kvs r m => ⟨rows, f, h, S, rfl, xs, kvs, rfl, r, m⟩⟩⟩
  obtain ⟨rfl, rfl, rfl, rfl⟩ := noteW_inj e
  exact ⟨xs, kvs, eo, r, m⟩
end Z
namespace Z
open PySem PySem.Spec PyProof.Rows L2
variable [Vo]
section
variable {P : Program} {w : World} {K : PySem.W.Frag} {mg : Str → Option Value} {base : Heap} {C : Addr}
structure WebC (K : PySem.W.Frag) (C : Addr) : Prop where
  cl : Cls K C
  n1 : NoAttr K C "rows"
  n2 : NoAttr K C "form"
  n3 : NoAttr K C "hand"
  n4 : NoAttr K C "stretches"
  n5 : NoAttr K C "counts"
def webF (K : PySem.W.Frag) (rows : List (List Nat)) (f : Fo) (h : Fr × Fr) (S : List Int) (c : Addr) : List (Str × RP) :=
  [("rows", DD K (.list (rows.map encM))), ("form", DD K (dFo f)), ("hand", DD K (dH h)), ("stretches", DD K (encIs S)), ("counts", RN c (noteW rows f h S))]
def WebR (K : PySem.W.Frag) (C : Addr) (rows : List (List Nat)) (f : Fo) (h : Fr × Fr) (S : List Int) : RP := fun F v => ∃ c, InsR C (webF K rows f h S c) F v
theorem WebR.mo {rows : List (List Nat)} {f : Fo} {h : Fr × Fr} {S : List Int} : Mono (WebR K C rows f h S) := fun _ _ _ e ⟨c, q⟩ => ⟨c, InsR.mo _ _ _ e q⟩
def q_Web (K : PySem.W.Frag) (C : Addr) (Rs : List RP) (R : RP) : Prop := ∃ (bk : Bk0) (f : Fo) (h : Fr × Fr) (S : List Int), bk.length ≤ 1000 ∧ Rs = [DD K (dBk bk), DD K (dFo f), DD K (dH h), DD K (encIs S)] ∧ R = WebR K C (bk.map (·.2)) f h S
abbrev N_Web_init : List Str := ["self", "book", "form", "hand", "stretches", "sign", "row"]
theorem sc_Web_init : FnScope N_Web_init ["self", "book", "form", "hand", "stretches"] (defScope st_Web_init) := ⟨rfl, rfl, rfl, by decide +kernel, rfl, by decide +kernel, by decide +kernel⟩
def webR (K : PySem.W.Frag) (rows : List (List Nat)) (f : Fo) (h : Fr × Fr) (S : List Int) (c : Addr) : List (Str × RP) :=
  [("rows", DD K (.list (rows.map encM))), ("form", DD K (dFo f)), ("hand", DD K (dH h)), ("stretches", DD K (encIs S)), ("counts", RR c)]
theorem webF_put {rows : List (List Nat)} {f : Fo} {h : Fr × Fr} {S : List Int} {c : Addr} : putR "counts" (RR c) (putR "stretches" (DD K (encIs S)) (putR "hand" (DD K (dH h)) (putR "form" (DD K (dFo f)) (putR "rows" (DD K (.list (rows.map encM))) [])))) = webR K rows f h S c := by
  have k1 : ¬ (("rows" : Str) = "form") := by decide +kernel
  have k2 : ¬ (("rows" : Str) = "hand") := by decide +kernel
  have k3 : ¬ (("rows" : Str) = "stretches") := by decide +kernel
  have k4 : ¬ (("rows" : Str) = "counts") := by decide +kernel
  have k5 : ¬ (("form" : Str) = "hand") := by decide +kernel
  have k6 : ¬ (("form" : Str) = "stretches") := by decide +kernel
  have k7 : ¬ (("form" : Str) = "counts") := by decide +kernel
  have k8 : ¬ (("hand" : Str) = "stretches") := by decide +kernel
  have k9 : ¬ (("hand" : Str) = "counts") := by decide +kernel
  have k10 : ¬ (("stretches" : Str) = "counts") := by decide +kernel
  unfold webR
  simp only [putR, if_neg k1, if_neg k2, if_neg k3, if_neg k4, if_neg k5, if_neg k6, if_neg k7, if_neg k8, if_neg k9, if_neg k10]
theorem ok_Web_init {f : Addr} {fd : FuncData} (F : Fun K "__init__" "Web.__init__" st_Web_init f fd) (Bn : Bn mg) (W : WebC K C) (MW : MemoW P w K) : FnOk P w K mg base CX0 1 f fd ["self", "book", "form", "hand", "stretches"] (spMk C (q_Web K C)) := by
  refine fn_I F sc_Web_init (fun Rs d h => by obtain ⟨_, _, _, _, _, rfl, _⟩ := h; rfl) (fun cdv A outer s H F0 E hr a Rs R hq => ?_)
  obtain ⟨bk, f, h, S, hb, rfl, rfl⟩ := hq
  refine ws_fld 0 W.cl W.n1 (gv 0) rfl (GEN.is (ds' := (bk.map (·.2)).map encM) (n_lc0 (xs := bk) (enc := encP) (own := [("sign", 5), ("row", 6)]) (sl := [5, 6]) (d := fun p => encM p.2) rfl sc_Web_init.nd (l_list (gv 1)) (blkOk_by (N := N_Web_init) (sc := defScope st_Web_init) (by decide +kernel)) (fun _ _ _ _ _ x hx => gt_2 5 6 rfl sc_Web_init.nd) (by decide) (fun _ _ _ _ _ x hx => gv 6) (Nat.lt_of_le_of_lt hb (by decide))) (by rw [List.map_map]; rfl)).ge ?_
  refine ws_fld 0 W.cl W.n2 (gv 0) rfl (gv 2) ?_
  refine ws_fld 0 W.cl W.n3 (gv 0) rfl (gv 3) ?_
  refine ws_fld 0 W.cl W.n4 (gv 0) rfl (g_list Bn (gv 4)) ?_
  refine ws_fldND 0 encSt W.cl W.n5 (gv 0) rfl (fun c => ?_)
  refine ws_nil ?_
  intro F1 H1 fh1 ow1
  have hac : a ≠ c := fun e => by
    have := ow1.nd
    subst e
    exact absurd this (by simp)
  refine rti_memo (E := []) (fds' := webF K (bk.map (·.2)) f h S c) (MW.ms (bk.map (·.2)) f h S) List.mem_cons_self (List.mem_cons_of_mem _ List.mem_cons_self) hac (fun F F' x e => ?_) (fun F v q => ⟨c, q⟩) F1 H1 fh1 ow1
  refine Eq.mp (congrArg (fun z => Paired (fun (q q' : Str × RP) => q.1 = q'.1 ∧ Mono q'.2 ∧ ∀ v, q.2 F v → q'.2 F' v) z (webF K (bk.map (·.2)) f h S c)) (webF_put (K := K) (rows := bk.map (·.2)) (f := f) (h := h) (S := S) (c := c)).symm) ?_
  have g : ∀ (s : Str) (d : PyData), (s, DD K d).1 = (s, DD K d).1 ∧ Mono (DD K d) ∧ ∀ v, DD K d F v → DD K d F' v := fun s d => ⟨rfl, DD.mo, fun v q => DD.mo _ _ _ x q⟩
  exact .cons (g _ _) (.cons (g _ _) (.cons (g _ _) (.cons (g _ _) (.cons ⟨rfl, RN.mo, fun v q => ⟨q, e⟩⟩ .nil))))
end
end Z
namespace Z
open PySem PySem.Spec PyProof.Rows L2
variable [Vo]
section
variable {P : Program} {w : World} {K : PySem.W.Frag} {mg : Str → Option Value} {base : Heap} {C : Addr}
structure RowsOk (rows : List (List Nat)) : Prop where
  n : rows.length ≤ 1000
  l : ∀ r, r ∈ rows → r.length ≤ 1000
def q_begun (K : PySem.W.Frag) (C : Addr) (Rs : List RP) (d : PyData) : Prop := ∃ (rows : List (List Nat)) (f : Fo) (h : Fr × Fr) (S : List Int) (c : Addr) (row : List Nat), RowsOk rows ∧ row.length ≤ 2000 ∧ Rs = [InsR C (webF K rows f h S c), DD K (encM row)] ∧ d = .bool (begRow rows row)
abbrev N_Web_begun : List Str := ["self", "row", "one"]
theorem sc_Web_begun : FnScope N_Web_begun ["self", "row"] (defScope st_Web_begun) := ⟨rfl, rfl, rfl, by decide +kernel, rfl, by decide +kernel, by decide +kernel⟩
theorem ok_Web_begun {f : Addr} {fd : FuncData} (F : Fun K "begun" "Web.begun" st_Web_begun f fd) (Bn : Bn mg) (W : WebC K C) : FnOk P w K mg base CX0 1 f fd ["self", "row"] (spG K (q_begun K C)) := by
  refine fn_G F sc_Web_begun (fun Rs d h => by obtain ⟨_, _, _, _, _, _, _, _, rfl, _⟩ := h; rfl) (fun cdv A outer s H F0 E hr Rs d hq => ?_)
  obtain ⟨rows, f, h, S, c, row, ro, hl, rfl, rfl⟩ := hq
  have mo := InsR.mo (C := C) (fds := webF K rows f h S c)
  have sz : ∀ n : Nat, n ≤ 10000 → n ≤ sizeLine := fun n h => Nat.le_trans h (by decide)
  have e : (rows.map fun own => decide (cutD own none (some ((row.length : Nat) : Int)) = row)).any id = begRow rows row := by
    unfold begRow
    rw [List.any_map]
    congr 1
    funext own
    show decide (cutD own none (some ((row.length : Nat) : Int)) = row) = _
    rw [cut_to]
  refine ws_ret (g_is (d' := .bool (begRow rows row)) (g_any (bs := rows.map fun own => decide (cutD own none (some ((row.length : Nat) : Int)) = row)) rfl Bn (GEN.is (n_lc0 (xs := rows) (enc := encM) (own := [("one", 2)]) (sl := [2]) (d := fun own => PyData.bool (decide (cutD own none (some ((row.length : Nat) : Int)) = row))) rfl sc_Web_begun.nd (l_list (g_fld (gv 0) W.cl W.n1)) (blkOk_by (N := N_Web_begun) (sc := defScope st_Web_begun) (by decide +kernel)) (fun _ _ _ _ _ x hx => gt_name 2 DD.mo sc_Web_begun.nd rfl (.inl rfl)) (by decide) (fun _ _ _ _ _ x hx => g_cm (g_slS (gv 2) go_none (go_some (g_lenM Bn (gv 1) (sz _ (by omega)))) (sz _ (by have := ro.l x hx; omega))) c_eqM (gv 1)) (Nat.lt_of_le_of_lt ro.n (by decide))) (by rw [List.map_map]; rfl)).ge) (by rw [e])) (fun F v q => q)
def q_choices (K : PySem.W.Frag) (C : Addr) (Rs : List RP) (d : PyData) : Prop := ∃ (rows : List (List Nat)) (f : Fo) (h : Fr × Fr) (S : List Int) (c : Addr) (n : Nat) (row : List Nat), RowsOk rows ∧ row.length ≤ 1000 ∧ Rs = [InsR C (webF K rows f h S c), DD K (.int (n : Nat)), DD K (encM row)] ∧ d = .list ((choicesM rows f n row).map encCh)
abbrev N_Web_choices : List Str := ["self", "at", "row", "short", "long", "within", "between", "apart", "some", "one"]
theorem sc_Web_choices : FnScope N_Web_choices ["self", "at", "row"] (defScope st_Web_choices) := ⟨rfl, rfl, rfl, by decide +kernel, rfl, by decide +kernel, by decide +kernel⟩
theorem ok_Web_choices {f : Addr} {fd : FuncData} (F : Fun K "choices" "Web.choices" st_Web_choices f fd) (W : WebC K C) (M_begun : MtD P w K mg base 1 C "begun" ["self", "row"] (spG K (q_begun K C))) : FnOk P w K mg base CX0 2 f fd ["self", "at", "row"] (spG K (q_choices K C)) := by
  refine fn_G F sc_Web_choices (fun Rs d h => by obtain ⟨_, _, _, _, _, _, _, _, _, rfl, _⟩ := h; rfl) (fun cdv A outer s H F0 E hr Rs d hq => ?_)
  obtain ⟨rows, f, h, S, c, n, row, ro, hl, rfl, rfl⟩ := hq
  have mo := InsR.mo (C := C) (fds := webF K rows f h S c)
  have sz : ∀ n : Nat, n ≤ 10000 → n ≤ sizeLine := fun n h => Nat.le_trans h (by decide)
  refine ws_asg (g_fld (gv 0) W.cl W.n2) (gt_5S 3 4 5 6 7 rfl sc_Web_choices.nd) ?_
  refine ws_if Vw.refl (gb_cm (g_mod (gv 1) g_int (by decide)) c_eqI g_int) (fun q => ?_) (fun q => ?_)
  · have q' : n % 2 = 0 := by
      have : ((n : Int) % 2 = 0) := by simpa using q
      omega
    refine ws_set 8 sc_Web_choices.nd rfl (.inl rfl) (GEN.is (ds' := [(f.s, row ++ [46]), (f.l, row ++ [45])].map encCh) (n_lst (gad_cons (gt_tup (gad_cons (gv 3) (gad_cons (g_addS (gv 2) (g_s [46]) (sz _ (by simp only [List.length_singleton]; omega))) gad_nil))) (gad_cons (gt_tup (gad_cons (gv 4) (gad_cons (g_addS (gv 2) (g_s [45]) (sz _ (by simp only [List.length_singleton]; omega))) gad_nil))) gad_nil))) rfl).ge ?_
    refine ws_ret (n_lc1 (xs := [(f.s, row ++ [46]), (f.l, row ++ [45])]) (enc := encCh) (d := encCh) (b := fun p => begRow rows p.2) (own := [("one", 9)]) (sl := [9]) rfl sc_Web_choices.nd (l_list (gv 8)) (blkOk_by (N := N_Web_choices) (sc := defScope st_Web_choices) (by decide +kernel)) (fun _ _ _ _ _ x hx => gt_name 9 DD.mo sc_Web_choices.nd rfl (.inl rfl)) (by decide) (fun _ _ _ _ _ x hx => ?ht) (fun _ _ _ _ _ x hx q => gv 9) (show 2 < sizeLine by decide)).ge (fun F v z => ?_)
    case ht =>
      refine gb_val (g_methG M_begun W.cl (hr.mono (by decide)) (gv 0) (ga_cons (g_ixT (i := 1) (d := encM x.2) (gv 9) g_int rfl) ga_nil) ⟨rows, f, h, S, c, x.2, ro, ?_, rfl, rfl⟩)
      have : x = (f.s, row ++ [46]) ∨ x = (f.l, row ++ [45]) := by simpa using hx
      rcases this with rfl | rfl <;> simp <;> omega
    unfold choicesM
    rw [if_pos q']
    exact z
  · have q' : ¬ n % 2 = 0 := by
      have : ¬ ((n : Int) % 2 = 0) := by simpa using q
      omega
    refine ws_nil ?_
    refine ws_new 8 sc_Web_choices.nd rfl (.inl rfl) (n_lst (gad_cons (gt_tup (gad_cons (gv 5) (gad_cons (gv 2) gad_nil))) gad_nil)) fun l => ?_
    refine ws_ifJ (J := fun E os => E = [some (InsR C (webF K rows f h S c)), some (DD K (.int (n : Nat))), some (DD K (encM row)), some (DD K (.int f.s)), some (DD K (.int f.l)), some (DD K (.int f.w)), some (DD K (.int f.b)), some (DD K (.int f.a)), some (RR l), none] ∧ os = [(l, Ls K ((choicesM rows f n row).map encCh))]) Vw.refl (gb_cm (gv 2) c_inRows (g_fld (gv 0) W.cl W.n1)) (fun hb => ?_) (fun hb => ?_) ?_
    · have hb' : row ∈ rows := by simpa using hb
      refine ws_extend 0 (gv 8) rfl (n_lst (gad_cons (gt_tup (gad_cons (gv 6) (gad_cons (g_s []) gad_nil))) (gad_cons (gt_tup (gad_cons (gv 7) (gad_cons (g_s []) gad_nil))) gad_nil))).ge (show 3 ≤ sizeLine by decide) ?_
      refine ws_nil ⟨rfl, ?_⟩
      unfold choicesM
      rw [if_neg q', if_pos hb']
      rfl
    · have hb' : ¬ row ∈ rows := by simpa using hb
      refine ws_nil ⟨rfl, ?_⟩
      unfold choicesM
      rw [if_neg q', if_neg hb']
      rfl
    rintro E os ⟨rfl, rfl⟩
    exact ws_retF (Vw.one 8 0) (os' := []) (fun a h => by
      have e : a = l := by simpa using h
      subst e
      exact ⟨by simp, fun h => nomatch h⟩) (fun p hp => nomatch hp) (by simp) (gv 8) (fun F v h => h)
end
end Z
namespace Z
open PySem PySem.Spec PyProof.Rows L2
variable [Vo]
section
variable {P : Program} {w : World} {K : PySem.W.Frag} {mg : Str → Option Value} {base : Heap} {C : Addr}
structure NumOk (nb kb : Nat) (f : Fo) (h : Fr × Fr) (S : List Int) : Prop where
  ff : FoOk f
  hh : HOk' kb h
  bd : ∀ x, x ∈ S → 1 ≤ x ∧ x < 2 ^ nb
  six : 6 ≤ nb
  sz : nb + kb * (S.length + 3) ≤ 3900
  l : S.length < 900
def q_next (K : PySem.W.Frag) (C : Addr) (Rs : List RP) (d : PyData) : Prop := ∃ (nb kb : Nat) (rows : List (List Nat)) (f : Fo) (h : Fr × Fr) (S : List Int) (c : Addr) (s : St4), RowsOk rows ∧ NumOk nb kb f h S ∧ StOk nb kb s ∧ s.n < S.length ∧ Rs = [InsR C (webF K rows f h S c), DD K (encSt s)] ∧ d = .list ((nextM rows f S h s).map encNx)
abbrev N_Web_next_stands : List Str := ["self", "stand", "at", "row", "low", "high", "slack", "drift", "found", "weight", "begun", "least", "most"]
theorem sc_Web_next_stands : FnScope N_Web_next_stands ["self", "stand"] (defScope st_Web_next_stands) := ⟨rfl, rfl, rfl, by decide +kernel, rfl, by decide +kernel, by decide +kernel⟩
theorem stepM_len {S : List Int} {h : Fr × Fr} {s : St4} {p : Int × List Nat} : (stepM S h s p).length ≤ 1 := by unfold stepM; split <;> simp
theorem ok_Web_next_stands {f : Addr} {fd : FuncData} (F : Fun K "next_stands" "Web.next_stands" st_Web_next_stands f fd) (W : WebC K C) (M_choices : MtD P w K mg base 2 C "choices" ["self", "at", "row"] (spG K (q_choices K C))) (C_bounds_at : FnD P w K mg base 4 "bounds_at" ["length", "weight", "slack"] (spG K (q_bounds K)))
    (C_greater_of : FnD P w K mg base 2 "greater_of" ["one", "other"] (spG K (q_greaterof K))) (C_less_of : FnD P w K mg base 2 "less_of" ["one", "other"] (spG K (q_lessof K))) (C_over : FnD P w K mg base 3 "over" ["one", "other"] (spG K (q_over K))) (C_times : FnD P w K mg base 3 "times" ["one", "other"] (spG K (q_times K))) (C_is_less : FnD P w K mg base 1 "is_less" ["one", "other"] (spG K (q_less K))) :
    FnOk P w K mg base CX0 5 f fd ["self", "stand"] (spG K (q_next K C)) := by
  refine fn_G F sc_Web_next_stands (fun Rs d h => by obtain ⟨_, _, _, _, _, _, _, _, _, _, _, _, rfl, _⟩ := h; rfl) (fun cdv A outer s0 H F0 E hr Rs d hq => ?_)
  obtain ⟨nb, kb, rows, fo, h, S, c, s, ro, no, so, hn, rfl, rfl⟩ := hq
  have mo := InsR.mo (C := C) (fds := webF K rows fo h S c)
  have hd1 : 0 < h.2.1 := by have := no.hh.d1; have := no.hh.d.p; omega
  have ek : kb * (s.n + 1) ≤ kb * S.length := Nat.mul_le_mul_left _ (by omega)
  have e3 : kb * (S.length + 3) = kb * S.length + kb * 3 := Nat.mul_add _ _ _
  have e1 : kb * (s.n + 1) = kb * s.n + kb := Nat.mul_succ _ _
  have nsz := no.sz
  have hB : StB nb kb s.n ≤ 3901 := by show nb + (kb + 1) + kb * s.n ≤ 3901; omega
  have hB1 : StB nb kb (s.n + 1) ≤ 3901 := by show nb + (kb + 1) + kb * (s.n + 1) ≤ 3901; omega
  have hkb : kb ≤ 3900 := by omega
  refine ws_asg (gv 1) (gt_4 2 3 4 5 rfl sc_Web_next_stands.nd) ?_
  refine ws_asg (g_fld (gv 0) W.cl W.n3) (gt_2 6 7 rfl sc_Web_next_stands.nd) ?_
  refine ws_new 8 sc_Web_next_stands.nd rfl (.inl rfl) (n_lst gad_nil) fun l => ?_
  refine ws_forL (xs := choicesM rows fo s.n s.row) (enc := encCh) (sl := [9, 10]) PassesOwn.never rfl (l_list (g_methG M_choices W.cl (hr.mono (by decide)) (gv 0) (ga_cons (gv 2) (ga_cons (gv 3) ga_nil)) ⟨rows, fo, h, S, c, s.n, s.row, ro, so.row, rfl, rfl⟩)) (fun x hx => gt_2 9 10 rfl sc_Web_next_stands.nd)
    (fun pre E os => (∃ a b le m, E = [some (InsR C (webF K rows fo h S c)), some (DD K (encSt s)), some (DD K (.int (s.n : Nat))), some (DD K (encM s.row)), some (DD K (dF s.lo)), some (DD K (dF s.hi)), some (DD K (dF h.1)), some (DD K (dF h.2)), some (RR l), a, b, le, m]) ∧ os = [(l, Ls K (((pre.map (stepM S h s)).flatten).map encNx))]) ⟨⟨_, _, _, _, rfl⟩, rfl⟩ ?_ ?_
  · rintro pre ⟨wt, rw⟩ post E os hxs ⟨⟨a, b, le, m, rfl⟩, rfl⟩
    obtain ⟨hw, _⟩ := choices_w no.ff (wt, rw) (by rw [hxs]; simp : (wt, rw) ∈ choicesM rows fo s.n s.row)
    simp only at hw
    obtain ⟨g1, g2, z1, z2⟩ := bounds_sz no.bd no.hh no.six hn hw
    obtain ⟨y1, y2⟩ := least_sz no.bd no.hh no.six hn so hw
    have hcur : ((pre.map (stepM S h s)).flatten).length ≤ 3 := by
      have h1 : ((pre.map (stepM S h s)).flatten).length ≤ 1 * pre.length := fl_len fun _ _ => stepM_len
      have h2 : pre.length ≤ (choicesM rows fo s.n s.row).length := by rw [hxs, List.length_append]; omega
      have := choices_len (rows := rows) (f := fo) (n := s.n) (row := s.row)
      omega
    have hg : S[s.n]? = some (S.getD s.n 1) := by rw [List.getD_eq_getElem?_getD, List.getElem?_eq_getElem hn]; rfl
    refine ws_asg (g_callG C_bounds_at (hr.mono (by decide)) (ga_cons (g_ixL (g_fld (gv 0) W.cl W.n4) (gv 2) (at_map hg)) (ga_cons (gv 9) (ga_cons (gv 6) ga_nil))) (i_bounds (n := nb) (k := kb) (ab_lt (by omega) g1.2) (by omega) (ab_lt (by omega) g2) no.hh.s no.hh.so (by omega))) (gt_2 11 12 rfl sc_Web_next_stands.nd) ?_
    refine ws_ifJ (J := fun E os => E = [some (InsR C (webF K rows fo h S c)), some (DD K (encSt s)), some (DD K (.int (s.n : Nat))), some (DD K (encM s.row)), some (DD K (dF s.lo)), some (DD K (dF s.hi)), some (DD K (dF h.1)), some (DD K (dF h.2)), some (RR l), some (DD K (.int wt)), some (DD K (encM rw)), some (DD K (dF (leastM S h s wt))), some (DD K (dF (mostM S h s wt)))] ∧ os = [(l, Ls K (((pre.map (stepM S h s)).flatten).map encNx))]) Vw.refl (gb_cm (gv 2) c_gt g_int) (fun q => ?_) (fun q => ?_) ?_
    · have q' : 0 < s.n := by
        have : (0 : Int) < (s.n : Int) := by simpa using q
        omega
      have z3 := overM_sz so.lo no.hh.d hd1
      have z4 := timesM_sz so.hi no.hh.d
      refine ws_set 11 sc_Web_next_stands.nd rfl (.inl rfl) (g_callG C_greater_of (hr.mono (by decide)) (ga_cons (gv 11) (ga_cons (g_callG C_over (hr.mono (by decide)) (ga_cons (gv 4) (ga_cons (gv 7) ga_nil)) (i_over so.lo no.hh.d hd1 (by omega))) ga_nil)) (i_greaterof z1 z3 (by omega))) ?_
      refine ws_set 12 sc_Web_next_stands.nd rfl (.inl rfl) (g_callG C_less_of (hr.mono (by decide)) (ga_cons (gv 12) (ga_cons (g_callG C_times (hr.mono (by decide)) (ga_cons (gv 5) (ga_cons (gv 7) ga_nil)) (i_times so.hi no.hh.d (by omega))) ga_nil)) (i_lessof z2 z4 (by omega))) ?_
      refine ws_nil ⟨?_, rfl⟩
      unfold leastM mostM
      simp only
      rw [if_pos q', if_pos q']
      rfl
    · have q' : ¬ 0 < s.n := by
        have : ¬ (0 : Int) < (s.n : Int) := by simpa using q
        omega
      refine ws_nil ⟨?_, rfl⟩
      unfold leastM mostM
      simp only
      rw [if_neg q', if_neg q']
      rfl
    rintro E os ⟨rfl, rfl⟩
    refine ws_if Vw.refl (gb_not (gb_val (g_callG C_is_less (hr.mono (by decide)) (ga_cons (gv 12) (ga_cons (gv 11) ga_nil)) (i_less y2 y1 (by omega))))) (fun q => ?_) (fun q => ?_)
    · have es : stepM S h s (wt, rw) = [(wt, ⟨s.n + 1, rw, leastM S h s wt, mostM S h s wt⟩)] := by
        unfold stepM
        rw [if_neg (by simpa using q)]
      refine ws_append 0 (gv 8) rfl (gt_tup (gad_cons (gv 9) (gad_cons (gt_tup (gad_cons (g_add (gv 2) g_int) (gad_cons (gv 10) (gad_cons (gv 11) (gad_cons (gv 12) gad_nil))))) gad_nil))) (by rw [List.length_map]; exact Nat.lt_of_le_of_lt hcur (by decide)) ?_
      refine ws_nil (ws_nil ⟨⟨_, _, _, _, rfl⟩, ?_⟩)
      rw [fl_snoc, es]
      exact congrArg (fun z => [(l, Ls K z)]) (map_snoc encNx _ (wt, ⟨s.n + 1, rw, leastM S h s wt, mostM S h s wt⟩))
    · have es : stepM S h s (wt, rw) = [] := by
        unfold stepM
        rw [if_pos (by simpa using q)]
      refine ws_nil (ws_nil ⟨⟨_, _, _, _, rfl⟩, ?_⟩)
      rw [fl_snoc, es, List.append_nil]
  · rintro E os ⟨⟨a, b, le, m, rfl⟩, rfl⟩
    exact ws_retF (Vw.one 8 0) (os' := []) (fun a h => by
      have e : a = l := by simpa using h
      subst e
      exact ⟨by simp, fun h => nomatch h⟩) (fun p hp => nomatch hp) (by simp) (gv 8) (fun F v h => h)
def q_first (K : PySem.W.Frag) (C : Addr) (Rs : List RP) (d : PyData) : Prop := ∃ (fds : List (Str × RP)), Rs = [InsR C fds] ∧ d = encSt firstM
abbrev N_Web_first : List Str := ["self"]
theorem sc_Web_first : FnScope N_Web_first ["self"] (defScope st_Web_first) := ⟨rfl, rfl, rfl, by decide +kernel, rfl, by decide +kernel, by decide +kernel⟩
theorem ok_Web_first {f : Addr} {fd : FuncData} (F : Fun K "first" "Web.first" st_Web_first f fd) : FnOk P w K mg base CX0 1 f fd ["self"] (spG K (q_first K C)) := by
  refine fn_G F sc_Web_first (fun Rs d h => by obtain ⟨_, rfl, _⟩ := h; rfl) (fun cdv A outer s0 H F0 E hr Rs d hq => ?_)
  obtain ⟨fds, rfl, rfl⟩ := hq
  exact ws_ret (gt_tup (gad_cons g_int (gad_cons (g_s []) (gad_cons (gt_tup (gad_cons g_int (gad_cons g_int gad_nil))) (gad_cons (gt_tup (gad_cons g_int (gad_cons g_int gad_nil))) gad_nil))))) (fun F v h => h)
end
end Z
namespace Z
open PySem PySem.Spec PyProof.Rows L2
variable [Vo]
def keepB (rows : List (List Nat)) (s : St4) : Bool := decide (s.n % 2 = 1) || (decide (s.row = []) || longRow rows s.row)
def begunOnesM (rows : List (List Nat)) (f : Fo) (S : List Int) (h : Fr × Fr) (s : St4) : List St4 := ((nextM rows f S h s).filter fun p => keepB rows p.2).map (·.2)
theorem stepM_ok {nb kb : Nat} {S : List Int} {h : Fr × Fr} (hS : ∀ x, x ∈ S → 1 ≤ x ∧ x < 2 ^ nb) (hh : HOk' kb h) (h6 : 6 ≤ nb) {s : St4} (hn : s.n < S.length) (so : StOk nb kb s) {p : Int × List Nat} (hw : 1 ≤ p.1 ∧ p.1 ≤ 60) (hr : p.2.length ≤ 1000) :
    ∀ q, q ∈ stepM S h s p → q.2.n = s.n + 1 ∧ StOk nb kb q.2 ∧ q.2.row = p.2 ∧ q.1 = p.1 ∧ lessM q.2.hi q.2.lo = false := fun q hq => by
  unfold stepM at hq
  split at hq
  · cases hq
  · rename_i hb
    rcases List.mem_singleton.mp hq with rfl
    obtain ⟨y1, y2⟩ := least_sz hS hh h6 hn so hw
    exact ⟨rfl, ⟨y1, y2, hr⟩, rfl, rfl, by simpa using hb⟩
theorem next_ok {nb kb : Nat} {rows : List (List Nat)} {f : Fo} {S : List Int} {h : Fr × Fr} (hf : FoOk f) (hS : ∀ x, x ∈ S → 1 ≤ x ∧ x < 2 ^ nb) (hh : HOk' kb h) (h6 : 6 ≤ nb) {s : St4} (hn : s.n < S.length) (so : StOk nb kb s) (hr : s.row.length < 1000) :
    ∀ q, q ∈ nextM rows f S h s → q.2.n = s.n + 1 ∧ StOk nb kb q.2 ∧ q.2.row.length ≤ s.row.length + 1 ∧ lessM q.2.hi q.2.lo = false := fun q hq => by
  obtain ⟨l, hl, hq⟩ := List.mem_flatten.mp hq
  obtain ⟨p, hp, rfl⟩ := List.mem_map.mp hl
  obtain ⟨hw, hlen⟩ := choices_w hf p hp
  obtain ⟨r1, r2, r3, r4, r5⟩ := stepM_ok hS hh h6 hn so hw (by omega) q hq
  exact ⟨r1, r2, by rw [r3]; exact hlen, r5⟩
theorem next_len {rows : List (List Nat)} {f : Fo} {S : List Int} {h : Fr × Fr} {s : St4} : (nextM rows f S h s).length ≤ 3 := by
  have h1 : (nextM rows f S h s).length ≤ 1 * (choicesM rows f s.n s.row).length := fl_len fun _ _ => (show _ ≤ 1 by unfold stepM; split <;> simp)
  have := choices_len (rows := rows) (f := f) (n := s.n) (row := s.row)
  omega
theorem begunOnes_len {rows : List (List Nat)} {f : Fo} {S : List Int} {h : Fr × Fr} {s : St4} : (begunOnesM rows f S h s).length ≤ 3 := by
  unfold begunOnesM
  rw [List.length_map]
  exact Nat.le_trans (List.length_filter_le _ _) next_len
def gOne (low : Fr) (c : Fr × Bool) (s : Spn) : Fr × Bool := if !lessM s.1 low && (!lessM c.1 s.1 && lessM c.1 s.2) then (s.2, true) else c
def gPass (low high : Fr) (xs : List Spn) : Fr × Bool := xs.foldl (gOne low) (high, false)
def gRun (low : Fr) (xs : List Spn) : Nat → Fr → Fr
  | 0, high => high
  | k + 1, high => let p := gPass low high xs; if p.2 then gRun low xs k p.1 else p.1
def gFin (f : Spn) (xs : List Spn) : Fr := gRun f.1 xs (xs.length + 1) f.2
def pSel : Nat → List Spn → List Spn
  | 0, _ => []
  | _ + 1, [] => []
  | n + 1, a :: r => let f := jMin a (a :: r); let hi := gFin f (a :: r); (f.1, hi) :: pSel n ((a :: r).filter fun s => lessM hi s.1)
def putM (ss : List Spn) : List Spn := pSel ss.length ss
def cntG (high : Fr) (xs : List Spn) : Nat := xs.countP fun s => lessM high s.2
structure PosS (s : Spn) : Prop where
  l : 0 < s.1.2
  h : 0 < s.2.2
theorem less_tr {x y z : Fr} (hx : 0 < x.2) (hy : 0 < y.2) (hz : 0 < z.2) (h1 : lessM x y = true) (h2 : lessM y z = true) : lessM x z = true :=
  (vl_lt hx hz).mpr (by have a := (vl_lt hx hy).mp h1; have b := (vl_lt hy hz).mp h2; grind)
theorem less_ir {x : Fr} : lessM x x = false := by unfold lessM; simp
theorem gFold_ok {low : Fr} : ∀ (xs : List Spn) (c : Fr × Bool), 0 < c.1.2 → (∀ s, s ∈ xs → PosS s) → ((xs.foldl (gOne low) c) = c) ∨ ((xs.foldl (gOne low) c).2 = true ∧ lessM c.1 (xs.foldl (gOne low) c).1 = true ∧ ∃ s, s ∈ xs ∧ (xs.foldl (gOne low) c).1 = s.2)
  | [], c, _, _ => .inl rfl
  | a :: r, c, hc, hp => by
    rw [List.foldl_cons]
    have ha := hp a List.mem_cons_self
    have hr : ∀ s, s ∈ r → PosS s := fun s hs => hp s (List.mem_cons_of_mem _ hs)
    by_cases h : (!lessM a.1 low && (!lessM c.1 a.1 && lessM c.1 a.2)) = true
    · have e : gOne low c a = (a.2, true) := by unfold gOne; rw [if_pos h]
      rw [e]
      have hl : lessM c.1 a.2 = true := by
        have := h
        simp only [Bool.and_eq_true] at this
        exact this.2.2
      rcases gFold_ok r (a.2, true) ha.h hr with q | ⟨q1, q2, s, q3, q4⟩
      · rw [q]; exact .inr ⟨rfl, hl, a, List.mem_cons_self, rfl⟩
      · exact .inr ⟨q1, by rw [q4] at q2 ⊢; exact less_tr hc ha.h (hr s q3).h hl q2, s, List.mem_cons_of_mem _ q3, q4⟩
    · have e : gOne low c a = c := by unfold gOne; rw [if_neg h]
      rw [e]
      rcases gFold_ok r c hc hr with q | ⟨q1, q2, s, q3, q4⟩
      · exact .inl q
      · exact .inr ⟨q1, q2, s, List.mem_cons_of_mem _ q3, q4⟩
theorem cnt_lt {h1 h2 : Fr} : ∀ {xs : List Spn}, (∀ s, s ∈ xs → PosS s) → 0 < h1.2 → 0 < h2.2 → lessM h1 h2 = true → (∃ s, s ∈ xs ∧ h2 = s.2) → cntG h2 xs < cntG h1 xs := by
  intro xs hp p1 p2 hl hs
  have le : ∀ ys : List Spn, (∀ s, s ∈ ys → PosS s) → cntG h2 ys ≤ cntG h1 ys := fun ys hy => by
    unfold cntG
    refine List.countP_mono_left fun s hs q => ?_
    exact less_tr p1 p2 (hy s hs).h hl q
  obtain ⟨s, hs, e⟩ := hs
  obtain ⟨pre, post, rfl⟩ := List.append_of_mem hs
  have l1 := le pre fun s h => hp s (List.mem_append_left _ h)
  have l2 := le post fun s h => hp s (List.mem_append_right _ (List.mem_cons_of_mem _ h))
  unfold cntG at *
  rw [List.countP_append, List.countP_append, List.countP_cons, List.countP_cons]
  have n1 : lessM h2 s.2 = false := by rw [← e]; exact less_ir
  have n2 : lessM h1 s.2 = true := by rw [← e]; exact hl
  rw [n1, n2]
  simp only [if_true]
  have : (if (false : Bool) = true then 1 else 0 : Nat) = 0 := rfl
  omega
end Z
namespace Z
open PySem PySem.Spec PyProof.Rows L2
variable [Vo]
theorem lvl_ok {nb kb : Nat} {rows : List (List Nat)} {f : Fo} {S : List Int} {h : Fr × Fr} (hf : FoOk f) (hS : ∀ x, x ∈ S → 1 ≤ x ∧ x < 2 ^ nb) (hh : HOk' kb h) (h6 : 6 ≤ nb) (hl : S.length ≤ 900) :
    ∀ k, k ≤ S.length → ∀ q, q ∈ lvlM rows f h S k → q.n = k ∧ StOk nb kb q ∧ q.row.length ≤ k ∧ (0 < k → lessM q.hi q.lo = false)
  | 0, _, q, hq => by
    rcases List.mem_singleton.mp hq with rfl
    refine ⟨rfl, ⟨?_, ?_, by show ([] : List Nat).length ≤ 1000; decide⟩, Nat.le_refl _, fun h => absurd h (by decide)⟩
    · exact (show Sz 1 ((0, 1) : Fr) from ⟨by decide, by decide, by decide⟩).mono (by show 1 ≤ nb + (kb + 1) + kb * 0; omega)
    · exact (show Sz 1 ((0, 1) : Fr) from ⟨by decide, by decide, by decide⟩).mono (by show 1 ≤ nb + (kb + 1) + kb * 0; omega)
  | k + 1, hk, q, hq => by
    obtain ⟨s, hs, hq⟩ := List.mem_flatMap.mp hq
    obtain ⟨p, hp, rfl⟩ := List.mem_map.mp hq
    obtain ⟨i1, i2, i3, _⟩ := lvl_ok hf hS hh h6 hl k (by omega) s hs
    obtain ⟨j1, j2, j3, j4⟩ := next_ok hf hS hh h6 (by omega) i2 (by omega) p hp
    exact ⟨by omega, j2, by omega, fun _ => j4⟩
section
variable {P : Program} {w : World} {K : PySem.W.Frag} {mg : Str → Option Value} {base : Heap} {C : Addr}
def q_ways (K : PySem.W.Frag) (C : Addr) (n : Nat) (Rs : List RP) (d : PyData) : Prop := ∃ (nb kb : Nat) (rows : List (List Nat)) (f : Fo) (h : Fr × Fr) (S : List Int) (c : Addr) (s : St4), RowsOk rows ∧ NumOk nb kb f h S ∧ s ∈ lvlM rows f h S s.n ∧ s.n ≤ S.length ∧ S.length - s.n ≤ n ∧ (domW rows f h S).length ≤ 16777215 ∧
  Rs = [InsR C (webF K rows f h S c), DD K (encSt s)] ∧ d = .int (waysM rows f h S s : Nat)
abbrev N_Web_ways_on : List Str := ["self", "stand", "weight", "other"]
theorem sc_Web_ways_on : FnScope N_Web_ways_on ["self", "stand"] (defScope st_Web_ways_on) := ⟨rfl, rfl, rfl, by decide +kernel, rfl, by decide +kernel, by decide +kernel⟩
theorem dom_mem {rows : List (List Nat)} {f : Fo} {h : Fr × Fr} {S : List Int} {s : St4} (hs : s ∈ lvlM rows f h S s.n) (hn : s.n ≤ S.length) : s ∈ domW rows f h S := List.mem_flatMap.mpr ⟨s.n, List.mem_range.mpr (by omega), hs⟩
theorem lvl_next {rows : List (List Nat)} {f : Fo} {h : Fr × Fr} {S : List Int} {s : St4} (hs : s ∈ lvlM rows f h S s.n) {p : Int × St4} (hp : p ∈ nextM rows f S h s) : p.2.n = s.n + 1 → p.2 ∈ lvlM rows f h S p.2.n := fun e => by
  rw [e]
  exact List.mem_flatMap.mpr ⟨s, hs, List.mem_map.mpr ⟨p, hp, rfl⟩⟩
theorem ways_step {rows : List (List Nat)} {f : Fo} {h : Fr × Fr} {S : List Int} {s : St4} (hn : s.n < S.length) (hq : ∀ p, p ∈ nextM rows f S h s → p.2.n = s.n + 1) : waysM rows f h S s = ((nextM rows f S h s).map fun p => waysM rows f h S p.2).sum := by
  unfold waysM
  obtain ⟨k, hk⟩ : ∃ k, S.length - s.n = k + 1 := ⟨S.length - s.n - 1, by omega⟩
  rw [hk]
  show ((nextM rows f S h s).map fun p => waysF rows f h S k p.2).sum = _
  congr 1
  refine List.map_congr_left fun p hp => ?_
  rw [hq p hp, show S.length - (s.n + 1) = k by omega]
theorem sum_cast (xs : List Nat) : ((xs.map fun n : Nat => (n : Int)).sum) = ((xs.sum : Nat) : Int) := by
  induction xs with
  | nil => rfl
  | cons a t ih => rw [List.map_cons, List.sum_cons, List.sum_cons, ih]; simp
theorem ways_ind {f : Addr} {fd : FuncData} (F : Fun K "ways_on" "Web.ways_on" st_Web_ways_on f fd) (Bn : Bn mg) (W : WebC K C) (MW : MemoW P w K) (Me : Meth K C "ways_on" f) (Bi : Binds K fd ["self", "stand"] []) (M_next_stands : MtD P w K mg base 5 C "next_stands" ["self", "stand"] (spG K (q_next K C))) :
    ∀ n, FnOk P w K mg base CX0 (6 + n) f fd ["self", "stand"] (spG K (q_ways K C n)) := by
  intro n
  induction n with
  | zero =>
    refine fn_G F sc_Web_ways_on (fun Rs d h => by obtain ⟨_, _, _, _, _, _, _, _, _, _, _, _, _, _, rfl, _⟩ := h; rfl) (fun cdv A outer s0 H F0 E hr Rs d hq => ?_)
    obtain ⟨nb, kb, rows, fo, h, S, c, s, ro, no, hs, hn, hd, hdom, rfl, rfl⟩ := hq
    have mo := InsR.mo (C := C) (fds := webF K rows fo h S c)
    have e0 : s.n = S.length := by omega
    refine ws_if (b := true) Vw.refl (gb_is (gb_cm (g_ixT (i := 0) (d := .int (s.n : Nat)) (gv 1) g_int rfl) c_eqI (g_lenL Bn (g_fld (gv 0) W.cl W.n4))) (by rw [List.length_map, e0]; simp)) (fun q => ?_) (fun q => absurd q (by decide))
    refine ws_ret (g_is (d' := .int (waysM rows fo h S s : Nat)) (g_intB Bn (g_andV (g_cm (g_mod (g_ixT (i := 0) (d := .int (s.n : Nat)) (gv 1) g_int rfl) g_int (by decide)) c_eqI g_int) fun _ => g_one (g_cm (g_ixT (i := 1) (d := encM s.row) (gv 1) g_int rfl) c_inRows (g_fld (gv 0) W.cl W.n1)))) ?_) (fun F v h => h)
    unfold waysM
    rw [show S.length - s.n = 0 by omega]
    unfold waysF
    by_cases h1 : s.n % 2 = 1 <;> by_cases h2 : s.row ∈ rows
    · have : ((s.n : Int) % 2 = 1) := by omega
      simp [h1, h2, this]
    · simp [h2]
    · have : ¬ ((s.n : Int) % 2 = 1) := by omega
      simp [h1, this]
    · simp [h2]
  | succ n ih =>
    refine fn_G F sc_Web_ways_on (fun Rs d h => by obtain ⟨_, _, _, _, _, _, _, _, _, _, _, _, _, _, rfl, _⟩ := h; rfl) (fun cdv A outer s0 H F0 E hr Rs d hq => ?_)
    obtain ⟨nb, kb, rows, fo, h, S, c, s, ro, no, hs, hn, hd, hdom, rfl, rfl⟩ := hq
    have mo := InsR.mo (C := C) (fds := webF K rows fo h S c)
    have hu9 : (cxN P w K mg base N_Web_ways_on "Web.ways_on" st_Web_ways_on f cdv A outer s0 H E).A.units + 9 < cLine := by have := hr.un; omega
    obtain ⟨_, so, hrow, _⟩ := lvl_ok no.ff no.bd no.hh no.six (by have := no.l; omega) s.n hn s hs
    have hl9 := no.l
    refine ws_ifJ (b := decide (s.n = S.length)) (J := fun E os => s.n ≠ S.length ∧ E = [some (InsR C (webF K rows fo h S c)), some (DD K (encSt s)), none, none] ∧ os = []) Vw.refl (gb_is (gb_cm (g_ixT (i := 0) (d := .int (s.n : Nat)) (gv 1) g_int rfl) c_eqI (g_lenL Bn (g_fld (gv 0) W.cl W.n4))) (by rw [List.length_map]; exact decide_eq_decide.mpr (by omega))) (fun q => ?_) (fun q => ws_nil ⟨by simpa using q, rfl, rfl⟩) ?_
    · have e0 : s.n = S.length := by simpa using q
      refine ws_ret (g_is (d' := .int (waysM rows fo h S s : Nat)) (g_intB Bn (g_andV (g_cm (g_mod (g_ixT (i := 0) (d := .int (s.n : Nat)) (gv 1) g_int rfl) g_int (by decide)) c_eqI g_int) fun _ => g_one (g_cm (g_ixT (i := 1) (d := encM s.row) (gv 1) g_int rfl) c_inRows (g_fld (gv 0) W.cl W.n1)))) ?_) (fun F v h => h)
      unfold waysM
      rw [show S.length - s.n = 0 by omega]
      unfold waysF
      by_cases h1 : s.n % 2 = 1 <;> by_cases h2 : s.row ∈ rows
      · have : ((s.n : Int) % 2 = 1) := by omega
        simp [h1, h2, this]
      · simp [h2]
      · have : ¬ ((s.n : Int) % 2 = 1) := by omega
        simp [h1, this]
      · simp [h2]
    rintro E os ⟨hne, rfl, rfl⟩
    have hlt : s.n < S.length := by omega
    have hnx : ∀ p, p ∈ nextM rows fo S h s → p.2.n = s.n + 1 := fun p hp => (next_ok no.ff no.bd no.hh no.six hlt so (by omega) p hp).1
    have hM : MtD P w K mg base (6 + n) C "ways_on" ["self", "stand"] (spG K (q_ways K C n)) := ⟨_, _, Me, Bi, ih⟩
    have hr' : Room (6 + n) (cxN P w K mg base N_Web_ways_on "Web.ways_on" st_Web_ways_on f cdv A outer s0 H E).A := hr
    refine ws_memo (k := s) 0 1 hu9 (MW.ms rows fo h S) nkey_St hdom (dom_mem hs hn) W.cl W.n5 (g_is (d' := .int (waysM rows fo h S s : Nat)) (g_sum (ns := (nextM rows fo S h s).map fun p => ((waysM rows fo h S p.2 : Nat) : Int)) rfl Bn (GEN.is (n_lc0 (xs := nextM rows fo S h s) (enc := encNx) (own := [("weight", 2), ("other", 3)]) (sl := [2, 3]) (d := fun p => PyData.int (waysM rows fo h S p.2 : Nat)) rfl sc_Web_ways_on.nd (l_list (g_methG M_next_stands W.cl (hr'.mono (by omega)) (gv 0) (ga_cons (gv 1) ga_nil) ⟨nb, kb, rows, fo, h, S, c, s, ro, no, so, hlt, rfl, rfl⟩)) (blkOk_by (N := N_Web_ways_on) (sc := defScope st_Web_ways_on) (by decide +kernel)) (fun _ _ _ _ _ x hx => gt_2 2 3 rfl sc_Web_ways_on.nd) (by decide) (fun _ _ _ _ _ x hx => ?he) (Nat.lt_of_le_of_lt next_len (by decide))) (by rw [List.map_map]; rfl)).ge) ?hv) (fun F v h => h)
    case he => exact g_methG hM W.cl hr' (gv 0) (ga_cons (gv 3) ga_nil) ⟨nb, kb, rows, fo, h, S, c, x.2, ro, no, lvl_next hs hx (hnx x hx), by rw [hnx x hx]; omega, by rw [hnx x hx]; omega, hdom, rfl, rfl⟩
    case hv =>
      rw [ways_step hlt hnx, ← sum_cast, List.map_map]
      rfl
theorem ok_Web_ways_on {f : Addr} {fd : FuncData} (F : Fun K "ways_on" "Web.ways_on" st_Web_ways_on f fd) (Bn : Bn mg) (W : WebC K C) (MW : MemoW P w K) (Me : Meth K C "ways_on" f) (Bi : Binds K fd ["self", "stand"] []) (M_next_stands : MtD P w K mg base 5 C "next_stands" ["self", "stand"] (spG K (q_next K C))) : FnOk P w K mg base CX0 67 f fd ["self", "stand"] (spG K (q_ways K C 61)) := ways_ind F Bn W MW Me Bi M_next_stands 61
end
end Z
namespace Z
open PySem PySem.Spec PyProof.Rows L2
variable [Vo]
section
variable {P : Program} {w : World} {K : PySem.W.Frag} {mg : Str → Option Value} {base : Heap} {C : Addr}
abbrev RowDs (rows : List (List Nat)) : Prop := ∀ r, r ∈ rows → ∀ x, x ∈ r → x = 46 ∨ x = 45
def q_begun_ones (K : PySem.W.Frag) (C : Addr) (Rs : List RP) (d : PyData) : Prop := ∃ (nb kb : Nat) (rows : List (List Nat)) (f : Fo) (h : Fr × Fr) (S : List Int) (c : Addr) (s : St4), RowsOk rows ∧ RowDs rows ∧ NumOk nb kb f h S ∧ StOk nb kb s ∧ s.row.length < 1000 ∧ s.n < S.length ∧ Rs = [InsR C (webF K rows f h S c), DD K (encSt s)] ∧ d = .list ((begunOnesM rows f S h s).map encSt)
abbrev N_begun_ones : List Str := ["web", "stand", "found", "weight", "other", "longer", "row"]
end
end Z
namespace Z
open PySem PySem.Spec PyProof.Rows L2
variable [Vo]
theorem pass_pos {low high : Fr} {xs : List Spn} (hh : 0 < high.2) (hp : ∀ s, s ∈ xs → PosS s) : 0 < (gPass low high xs).1.2 := by
  unfold gPass
  rcases gFold_ok xs (high, false) hh hp with q | ⟨_, _, s, q3, q4⟩
  · rw [q]; exact hh
  · rw [q4]; exact (hp s q3).h
theorem gRun_ge {low x : Fr} {xs : List Spn} (hp : ∀ s, s ∈ xs → PosS s) (hx : 0 < x.2) : ∀ (k : Nat) (high : Fr), 0 < high.2 → lessM high x = false → lessM (gRun low xs k high) x = false ∧ 0 < (gRun low xs k high).2
  | 0, high, hh, h => ⟨h, hh⟩
  | k + 1, high, hh, h => by
    have h2 := pass_pos (low := low) hh hp
    have h1 : lessM (gPass low high xs).1 x = false := by
      unfold gPass
      rcases gFold_ok (low := low) xs (high, false) hh hp with q | ⟨_, q2, s, q3, q4⟩
      · rw [q]; exact h
      · rw [q4] at q2 ⊢
        have p1 := (vl_lt hh (hp s q3).h).mp q2
        have p2 := (vl_le hh hx).mp h
        exact (vl_le (hp s q3).h hx).mpr (by grind)
    unfold gRun
    simp only
    split
    · exact gRun_ge hp hx k _ h2 h1
    · exact ⟨h1, h2⟩
theorem gFin_ge {f : Spn} {xs : List Spn} (hp : ∀ s, s ∈ xs → PosS s) (hf : PosS f) (h : lessM f.2 f.1 = false) : lessM (gFin f xs) f.1 = false ∧ 0 < (gFin f xs).2 := gRun_ge hp hf.l _ _ hf.h h
theorem pass_sz {B : Nat} {low high : Fr} {xs : List Spn} (hh : Sz B high) (hp : ∀ s, s ∈ xs → SzS B s) : Sz B (gPass low high xs).1 := by
  unfold gPass
  rcases gFold_ok (low := low) xs (high, false) hh.p (fun s hs => ⟨(hp s hs).1.p, (hp s hs).2.p⟩) with q | ⟨_, _, s, q3, q4⟩
  · rw [q]; exact hh
  · rw [q4]; exact (hp s q3).2
section
variable {P : Program} {w : World} {K : PySem.W.Frag} {mg : Str → Option Value} {base : Heap}
def q_put (K : PySem.W.Frag) (Rs : List RP) (d : PyData) : Prop := ∃ (B : Nat) (ss : List Spn), (∀ s, s ∈ ss → SzS B s ∧ lessM s.2 s.1 = false) ∧ B ≤ 8000 ∧ ss.length ≤ 1000000 ∧ Rs = [DD K (.list (ss.map encSp))] ∧ d = .list ((putM ss).map encSp)
abbrev N_put_together : List Str := ["spans", "found", "left", "low", "high", "span", "grown"]
end
end Z
namespace Z
open PySem PySem.Spec PyProof.Rows L2
variable [Vo]
def addSt (acc : List St4) (x : St4) : List St4 := if x ∈ acc then acc else acc ++ [x]
def standsM (rows : List (List Nat)) (f : Fo) (S : List Int) (h : Fr × Fr) : Nat → List St4
  | 0 => [firstM]
  | k + 1 => (((standsM rows f S h k).map (begunOnesM rows f S h)).flatten).foldl addSt []
def spansM (ss : List St4) : List Spn := (ss.filter fun s => decide (0 < s.n)).map fun s => (s.lo, s.hi)
def presentM (rows : List (List Nat)) (f : Fo) (S : List Int) (h : Fr × Fr) : List Spn := putM (spansM (standsM rows f S h S.length))
theorem addSt_mem {acc : List St4} {x y : St4} : y ∈ addSt acc x ↔ y ∈ acc ∨ y = x := by
  unfold addSt
  split
  · constructor
    · exact .inl
    · rintro (q | rfl)
      · exact q
      · assumption
  · simp
theorem addAll_mem : ∀ (xs acc : List St4) (y : St4), y ∈ xs.foldl addSt acc ↔ y ∈ acc ∨ y ∈ xs
  | [], acc, y => by simp
  | x :: r, acc, y => by
    rw [List.foldl_cons, addAll_mem r, addSt_mem, List.mem_cons, or_assoc]
theorem addAll_len : ∀ (xs acc : List St4), (xs.foldl addSt acc).length ≤ acc.length + xs.length
  | [], acc => by simp
  | x :: r, acc => by
    rw [List.foldl_cons]
    have h1 := addAll_len r (addSt acc x)
    have h2 : (addSt acc x).length ≤ acc.length + 1 := by unfold addSt; split <;> simp
    rw [List.length_cons]; omega
theorem stands_len {rows : List (List Nat)} {f : Fo} {S : List Int} {h : Fr × Fr} : ∀ k, (standsM rows f S h k).length ≤ 3 ^ k
  | 0 => by simp [standsM]
  | k + 1 => by
    have h1 := addAll_len (((standsM rows f S h k).map (begunOnesM rows f S h)).flatten) []
    have h2 : (((standsM rows f S h k).map (begunOnesM rows f S h)).flatten).length ≤ 3 * (standsM rows f S h k).length := fl_len fun _ _ => begunOnes_len
    have h3 := stands_len (rows := rows) (f := f) (S := S) (h := h) k
    have h0 : ([] : List St4).length = 0 := rfl
    have : (standsM rows f S h (k + 1)).length ≤ _ := h1
    rw [Nat.pow_succ]; omega
theorem begunOnes_ok {nb kb : Nat} {rows : List (List Nat)} {f : Fo} {S : List Int} {h : Fr × Fr} (hf : FoOk f) (hS : ∀ x, x ∈ S → 1 ≤ x ∧ x < 2 ^ nb) (hh : HOk' kb h) (h6 : 6 ≤ nb) {s : St4} (hn : s.n < S.length) (so : StOk nb kb s) (hr : s.row.length < 1000) :
    ∀ q, q ∈ begunOnesM rows f S h s → q.n = s.n + 1 ∧ StOk nb kb q ∧ q.row.length ≤ s.row.length + 1 ∧ lessM q.hi q.lo = false := fun q hq => by
  obtain ⟨p, hp, rfl⟩ := List.mem_map.mp hq
  exact next_ok hf hS hh h6 hn so hr p (List.mem_filter.mp hp).1
theorem stands_ok {nb kb : Nat} {rows : List (List Nat)} {f : Fo} {S : List Int} {h : Fr × Fr} (hf : FoOk f) (hS : ∀ x, x ∈ S → 1 ≤ x ∧ x < 2 ^ nb) (hh : HOk' kb h) (h6 : 6 ≤ nb) (hl : S.length ≤ 900) :
    ∀ k, k ≤ S.length → ∀ q, q ∈ standsM rows f S h k → q.n = k ∧ StOk nb kb q ∧ q.row.length ≤ k ∧ (0 < k → lessM q.hi q.lo = false)
  | 0, _, q, hq => by
    rcases List.mem_singleton.mp hq with rfl
    refine ⟨rfl, ⟨?_, ?_, by show ([] : List Nat).length ≤ 1000; decide⟩, Nat.le_refl _, fun h => absurd h (by decide)⟩
    · exact (show Sz 1 ((0, 1) : Fr) from ⟨by decide, by decide, by decide⟩).mono (by show 1 ≤ nb + (kb + 1) + kb * 0; omega)
    · exact (show Sz 1 ((0, 1) : Fr) from ⟨by decide, by decide, by decide⟩).mono (by show 1 ≤ nb + (kb + 1) + kb * 0; omega)
  | k + 1, hk, q, hq => by
    rcases (addAll_mem _ _ _).mp hq with z | z
    · cases z
    · obtain ⟨l, hl2, hq⟩ := List.mem_flatten.mp z
      obtain ⟨s, hs, rfl⟩ := List.mem_map.mp hl2
      obtain ⟨i1, i2, i3, _⟩ := stands_ok hf hS hh h6 hl k (by omega) s hs
      obtain ⟨j1, j2, j3, j4⟩ := begunOnes_ok hf hS hh h6 (by omega) i2 (by omega) q hq
      exact ⟨by omega, j2, by omega, fun _ => j4⟩
theorem dput_St {acc : List St4} {x : St4} : dput (acc.map fun s => (s, PyData.bool true)) x (.bool true) = (addSt acc x).map fun s => (s, PyData.bool true) := by
  unfold dput addSt
  have e : ((acc.map fun s => (s, PyData.bool true)).any fun kv => decide (kv.1 = x)) = decide (x ∈ acc) := by
    rw [List.any_map]
    induction acc with
    | nil => rfl
    | cons a t ih =>
      rw [List.any_cons, ih]
      by_cases h : a = x
      · subst h; simp
      · have : ¬ x = a := fun e => h e.symm
        simp [h, this]
  rw [e]
  by_cases h : x ∈ acc
  · rw [if_pos (by simp [h]), if_pos h]
    rw [List.map_map]
    refine List.map_congr_left fun s _ => ?_
    simp
  · rw [if_neg (by simp [h]), if_neg h, List.map_append]
    rfl
end Z
namespace Z
open PySem PySem.Spec PyProof.Rows L2
variable [Vo]
section
variable {P : Program} {w : World} {K : PySem.W.Frag} {mg : Str → Option Value} {base : Heap} {C : Addr}
abbrev N_present : List Str := ["book", "form", "hand", "stretches", "web", "stands", "length", "later", "stand", "other", "at", "row", "low", "high"]
def q_present (K : PySem.W.Frag) (Rs : List RP) (ds : List PyData) : Prop := ∃ (nb kb : Nat) (bk : Bk0) (f : Fo) (h : Fr × Fr) (S : List Int), BkOk bk ∧ NumOk nb kb f h S ∧ S.length ≤ 12 ∧ Rs = [DD K (dBk bk), DD K (dFo f), DD K (dH h), DD K (encIs S)] ∧ ds = (presentM (bk.map (·.2)) f S h).map encSp
end
end Z
namespace Z
open PySem PySem.Spec PyProof.Rows L2
variable [Vo]
section
variable {P : Program} {w : World} {K : PySem.W.Frag} {mg : Str → Option Value} {base : Heap}
abbrev N_law_whole : List Str := ["found"]
def q_whole (K : PySem.W.Frag) (Rs : List RP) (d : PyData) : Prop := ∃ i : Int, Rs = [DD K (.int i)] ∧ d = .bool true
theorem i_whole {i : Int} : q_whole K [DD K (.int i)] (.bool true) := ⟨i, rfl, rfl⟩
end
end Z
namespace Z
open PySem PySem.Spec PyProof.Rows L2
variable [Vo]
def Cov (L : List Spn) (q : Rat) : Prop := ∃ s, s ∈ L ∧ vl s.1 ≤ q ∧ q ≤ vl s.2
structure Gd (s : Spn) : Prop where
  l : 0 < s.1.2
  h : 0 < s.2.2
  rl : Rd s.1
  rh : Rd s.2
  le : vl s.1 ≤ vl s.2
structure Srt (L : List Spn) : Prop where
  pw : L.Pairwise fun x y => vl x.2 < vl y.1
  gd : ∀ s, s ∈ L → Gd s
theorem Srt.tail {c : Spn} {C : List Spn} (h : Srt (c :: C)) : Srt C := ⟨(List.pairwise_cons.mp h.pw).2, fun s hs => h.gd s (List.mem_cons_of_mem _ hs)⟩
theorem Srt.hd {c : Spn} {C : List Spn} (h : Srt (c :: C)) : ∀ s, s ∈ C → vl c.2 < vl s.1 := (List.pairwise_cons.mp h.pw).1
theorem gap_after {c : Spn} {C : List Spn} (h : Srt (c :: C)) {y : Rat} (hy : vl c.2 < y) : ∃ q, vl c.2 < q ∧ q ≤ y ∧ ∀ s, s ∈ C → q < vl s.1 := by
  cases C with
  | nil => exact ⟨y, hy, by grind, fun s hs => nomatch hs⟩
  | cons c' C' =>
    have h1 := h.hd c' List.mem_cons_self
    have key : ∃ q, vl c.2 < q ∧ q ≤ y ∧ q < vl c'.1 := by
      by_cases hc : y < vl c'.1
      · exact ⟨y, hy, by grind, hc⟩
      · exact ⟨(vl c.2 + vl c'.1) / 2, by grind, by grind, by grind⟩
    obtain ⟨q, q1, q2, q3⟩ := key
    refine ⟨q, q1, q2, fun s hs => ?_⟩
    rcases List.mem_cons.mp hs with e | hs
    · subst e; exact q3
    · have := h.tail.hd s hs
      have := (h.gd c' (List.mem_cons_of_mem _ List.mem_cons_self)).le
      grind
theorem lo_le {c d : Spn} {C D : List Spn} (hC : Srt (c :: C)) (hD : Srt (d :: D)) (h : ∀ q, Cov (c :: C) q → Cov (d :: D) q) : vl d.1 ≤ vl c.1 := by
  obtain ⟨m, hm, m1, m2⟩ := h (vl c.1) ⟨c, List.mem_cons_self, by grind, (hC.gd c List.mem_cons_self).le⟩
  rcases List.mem_cons.mp hm with e | hm
  · subst e; exact m1
  · have := hD.hd m hm
    have := (hD.gd d List.mem_cons_self).le
    grind
theorem hi_le {c d : Spn} {C D : List Spn} (hC : Srt (c :: C)) (hD : Srt (d :: D)) (e : vl c.1 = vl d.1) (h : ∀ q, Cov (d :: D) q → Cov (c :: C) q) : vl d.2 ≤ vl c.2 := by
  by_cases hlt : vl c.2 < vl d.2
  · exfalso
    obtain ⟨q, q1, q2, q3⟩ := gap_after hC hlt
    have hcle := (hC.gd c List.mem_cons_self).le
    obtain ⟨s, hs, s1, s2⟩ := h q ⟨d, List.mem_cons_self, by grind, q2⟩
    rcases List.mem_cons.mp hs with e' | hs
    · subst e'; grind
    · have := q3 s hs; grind
  · grind
theorem canon : ∀ {L M : List Spn}, Srt L → Srt M → (∀ q, Cov L q ↔ Cov M q) → L = M
  | [], [], _, _, _ => rfl
  | [], d :: D, _, hM, h => by
    obtain ⟨s, hs, _⟩ := (h (vl d.1)).mpr ⟨d, List.mem_cons_self, by grind, (hM.gd d List.mem_cons_self).le⟩
    cases hs
  | c :: C, [], hL, _, h => by
    obtain ⟨s, hs, _⟩ := (h (vl c.1)).mp ⟨c, List.mem_cons_self, by grind, (hL.gd c List.mem_cons_self).le⟩
    cases hs
  | c :: C, d :: D, hL, hM, h => by
    have gc := hL.gd c List.mem_cons_self
    have gd := hM.gd d List.mem_cons_self
    have l1 := lo_le hL hM fun q => (h q).mp
    have l2 := lo_le hM hL fun q => (h q).mpr
    have e1 : vl c.1 = vl d.1 := by grind
    have h1 := hi_le hL hM e1 fun q => (h q).mpr
    have h2 := hi_le hM hL e1.symm fun q => (h q).mp
    have e2 : vl c.2 = vl d.2 := by grind
    have ec : c = d := by
      obtain ⟨c1, c2⟩ := c
      obtain ⟨d1, d2⟩ := d
      have a1 := rd_ext gc.rl gd.rl e1
      have a2 := rd_ext gc.rh gd.rh e2
      simp only at a1 a2
      rw [a1, a2]
    subst ec
    have et : C = D := canon hL.tail hM.tail fun q => by
      constructor
      · rintro ⟨s, hs, s1, s2⟩
        obtain ⟨t, ht, t1, t2⟩ := (h q).mp ⟨s, List.mem_cons_of_mem _ hs, s1, s2⟩
        rcases List.mem_cons.mp ht with e | ht
        · subst e
          have := hL.hd s hs; grind
        · exact ⟨t, ht, t1, t2⟩
      · rintro ⟨s, hs, s1, s2⟩
        obtain ⟨t, ht, t1, t2⟩ := (h q).mpr ⟨s, List.mem_cons_of_mem _ hs, s1, s2⟩
        rcases List.mem_cons.mp ht with e | ht
        · subst e
          have := hM.hd s hs; grind
        · exact ⟨t, ht, t1, t2⟩
    rw [et]
def Dj (x y : Spn) : Prop := vl x.2 < vl y.1 ∨ vl y.2 < vl x.1
theorem Dj.symm {x y : Spn} (h : Dj x y) : Dj y x := h.elim .inr .inl
structure JOk (j : JSt) : Prop where
  gd : ∀ s, s ∈ j.o → Gd s
  g : Gd (j.l, j.h)
  dj : ∀ s, s ∈ j.o → Dj s (j.l, j.h)
theorem vmin {a b : Fr} (ha : 0 < a.2) (hb : 0 < b.2) : vl (if lessM a b then a else b) ≤ vl a ∧ vl (if lessM a b then a else b) ≤ vl b ∧ ((if lessM a b then a else b) = a ∨ (if lessM a b then a else b) = b) := by
  by_cases h : lessM a b = true
  · rw [if_pos h]
    have := (vl_lt ha hb).mp h
    exact ⟨by grind, by grind, .inl rfl⟩
  · rw [if_neg h]
    have := (vl_le ha hb).mp (by simpa using h)
    exact ⟨by grind, by grind, .inr rfl⟩
theorem vmax {a b : Fr} (ha : 0 < a.2) (hb : 0 < b.2) : vl a ≤ vl (if lessM a b then b else a) ∧ vl b ≤ vl (if lessM a b then b else a) ∧ ((if lessM a b then b else a) = a ∨ (if lessM a b then b else a) = b) := by
  by_cases h : lessM a b = true
  · rw [if_pos h]
    have := (vl_lt ha hb).mp h
    exact ⟨by grind, by grind, .inr rfl⟩
  · rw [if_neg h]
    have := (vl_le ha hb).mp (by simpa using h)
    exact ⟨by grind, by grind, .inl rfl⟩
theorem jOne_ok {j : JSt} {x : Spn} (hj : JOk j) (hx : Gd x) (hd : ∀ s, s ∈ j.o → Dj s x) : JOk (jOne j x) ∧ (∀ q, Cov ((jOne j x).o ++ [((jOne j x).l, (jOne j x).h)]) q ↔ Cov (j.o ++ [(j.l, j.h)]) q ∨ (vl x.1 ≤ q ∧ q ≤ vl x.2)) ∧ (∀ s, s ∈ (jOne j x).o → s ∈ j.o ∨ s = x) := by
  have gj := hj.g
  unfold jOne
  split
  · rename_i hc
    refine ⟨⟨fun s hs => ?_, hj.g, fun s hs => ?_⟩, fun q => ?_, fun s hs => ?_⟩
    · rcases List.mem_append.mp hs with z | z
      · exact hj.gd s z
      · rcases List.mem_singleton.mp z with rfl
        exact hx
    · rcases List.mem_append.mp hs with z | z
      · exact hj.dj s z
      · rcases List.mem_singleton.mp z with rfl
        rcases Bool.or_eq_true_iff.mp hc with z | z
        · exact .inl ((vl_lt hx.h gj.l).mp z)
        · exact .inr ((vl_lt gj.h hx.l).mp z)
    · constructor
      · rintro ⟨s, hs, s1, s2⟩
        rcases List.mem_append.mp hs with z | z
        · rcases List.mem_append.mp z with z | z
          · exact .inl ⟨s, List.mem_append_left _ z, s1, s2⟩
          · rcases List.mem_singleton.mp z with rfl
            exact .inr ⟨s1, s2⟩
        · exact .inl ⟨s, List.mem_append_right _ z, s1, s2⟩
      · rintro (⟨s, hs, s1, s2⟩ | ⟨s1, s2⟩)
        · rcases List.mem_append.mp hs with z | z
          · exact ⟨s, List.mem_append_left _ (List.mem_append_left _ z), s1, s2⟩
          · exact ⟨s, List.mem_append_right _ z, s1, s2⟩
        · exact ⟨x, List.mem_append_left _ (List.mem_append_right _ List.mem_cons_self), s1, s2⟩
    · rcases List.mem_append.mp hs with z | z
      · exact .inl z
      · exact .inr (List.mem_singleton.mp z)
  · rename_i hc
    have hc' : lessM x.2 j.l = false ∧ lessM j.h x.1 = false := by simpa using hc
    have c1 := (vl_le hx.h gj.l).mp hc'.1
    have c2 := (vl_le gj.h hx.l).mp hc'.2
    have gl := gj.le
    have xl := hx.le
    simp only at gl
    obtain ⟨m1, m2, m3⟩ := vmin hx.l gj.l
    obtain ⟨n1, n2, n3⟩ := vmax gj.h hx.h
    simp only at m1 m2 m3 n1 n2 n3
    refine ⟨⟨hj.gd, ?_, fun s hs => ?_⟩, fun q => ?_, fun s hs => .inl hs⟩
    · refine ⟨?_, ?_, ?_, ?_, ?_⟩
      · simp only; rcases m3 with e | e <;> rw [e]; exact hx.l; exact gj.l
      · simp only; rcases n3 with e | e <;> rw [e]; exact gj.h; exact hx.h
      · simp only; rcases m3 with e | e <;> rw [e]; exact hx.rl; exact gj.rl
      · simp only; rcases n3 with e | e <;> rw [e]; exact gj.rh; exact hx.rh
      · simp only; grind
    · have d1 := hj.dj s hs
      have d2 := hd s hs
      have sl := (hj.gd s hs).le
      unfold Dj at *
      simp only at *
      rcases m3 with e | e <;> rcases n3 with e' | e' <;> rw [e, e'] at * <;> rcases d1 with d1 | d1 <;> rcases d2 with d2 | d2 <;> first | (left; grind) | (right; grind) | (exfalso; grind)
    · constructor
      · rintro ⟨s, hs, s1, s2⟩
        rcases List.mem_append.mp hs with z | z
        · exact .inl ⟨s, List.mem_append_left _ z, s1, s2⟩
        · rcases List.mem_singleton.mp z with rfl
          simp only at s1 s2
          by_cases hq : vl x.1 ≤ q ∧ q ≤ vl x.2
          · exact .inr hq
          · refine .inl ⟨(j.l, j.h), List.mem_append_right _ List.mem_cons_self, ?_, ?_⟩
            · simp only
              rcases m3 with e | e <;> rcases n3 with e' | e' <;> rw [e] at s1 <;> rw [e'] at s2 <;> grind
            · simp only
              rcases m3 with e | e <;> rcases n3 with e' | e' <;> rw [e] at s1 <;> rw [e'] at s2 <;> grind
      · rintro (⟨s, hs, s1, s2⟩ | ⟨s1, s2⟩)
        · rcases List.mem_append.mp hs with z | z
          · exact ⟨s, List.mem_append_left _ z, s1, s2⟩
          · rcases List.mem_singleton.mp z with rfl
            simp only at s1 s2
            exact ⟨_, List.mem_append_right _ List.mem_cons_self, by simp only; grind, by simp only; grind⟩
        · exact ⟨_, List.mem_append_right _ List.mem_cons_self, by simp only; grind, by simp only; grind⟩
end Z
namespace Z
open PySem PySem.Spec PyProof.Rows L2
variable [Vo]
def DjAll (L : List Spn) : Prop := L.Pairwise Dj
theorem jFold_ok : ∀ (xs : List Spn) (j : JSt), JOk j → (∀ x, x ∈ xs → Gd x) → DjAll (j.o ++ xs) →
    JOk (xs.foldl jOne j) ∧ DjAll (xs.foldl jOne j).o ∧ ∀ q, Cov ((xs.foldl jOne j).o ++ [((xs.foldl jOne j).l, (xs.foldl jOne j).h)]) q ↔ Cov (j.o ++ xs ++ [(j.l, j.h)]) q
  | [], j, hj, _, hd => ⟨hj, by rw [List.append_nil] at hd; exact hd, fun q => by rw [List.append_nil]; exact Iff.rfl⟩
  | x :: r, j, hj, hg, hd => by
    have hx := hg x List.mem_cons_self
    have hd' := List.pairwise_append.mp hd
    obtain ⟨o1, o2, o3⟩ := jOne_ok hj hx (fun s hs => hd'.2.2 s hs x List.mem_cons_self)
    have hp : DjAll ((jOne j x).o ++ r) := by
      have : (jOne j x).o = j.o ++ [x] ∨ (jOne j x).o = j.o := by unfold jOne; split <;> simp
      rcases this with e | e
      · rw [e, List.append_assoc]; exact hd
      · rw [e]
        exact List.pairwise_append.mpr ⟨hd'.1, (List.pairwise_cons.mp hd'.2.1).2, fun a ha b hb => hd'.2.2 a ha b (List.mem_cons_of_mem _ hb)⟩
    obtain ⟨i1, i2, i3⟩ := jFold_ok r (jOne j x) o1 (fun y hy => hg y (List.mem_cons_of_mem _ hy)) hp
    rw [List.foldl_cons]
    refine ⟨i1, i2, fun q => ?_⟩
    rw [i3 q]
    have a1 : ∀ (A B : List Spn), Cov (A ++ B) q ↔ Cov A q ∨ Cov B q := fun A B => by
      constructor
      · rintro ⟨s, hs, s1⟩
        rcases List.mem_append.mp hs with z | z
        · exact .inl ⟨s, z, s1⟩
        · exact .inr ⟨s, z, s1⟩
      · rintro (⟨s, hs, s1⟩ | ⟨s, hs, s1⟩)
        · exact ⟨s, List.mem_append_left _ hs, s1⟩
        · exact ⟨s, List.mem_append_right _ hs, s1⟩
    have a2 : Cov (x :: r) q ↔ (vl x.1 ≤ q ∧ q ≤ vl x.2) ∨ Cov r q := by
      constructor
      · rintro ⟨s, hs, s1⟩
        rcases List.mem_cons.mp hs with e | z
        · subst e; exact .inl s1
        · exact .inr ⟨s, z, s1⟩
      · rintro (h | ⟨s, hs, s1⟩)
        · exact ⟨x, List.mem_cons_self, h⟩
        · exact ⟨s, List.mem_cons_of_mem _ hs, s1⟩
    have o2' := o2 q
    rw [a1, a1] at o2'
    rw [a1, a1, a1, a1, a2]
    constructor
    · rintro ((z | z) | z)
      · rcases o2'.mp (.inl z) with (y | y) | y
        · exact .inl (.inl y)
        · exact .inr y
        · exact .inl (.inr (.inl y))
      · exact .inl (.inr (.inr z))
      · rcases o2'.mp (.inr z) with (y | y) | y
        · exact .inl (.inl y)
        · exact .inr y
        · exact .inl (.inr (.inl y))
    · rintro ((z | (z | z)) | z)
      · rcases o2'.mpr (.inl (.inl z)) with y | y
        · exact .inl (.inl y)
        · exact .inr y
      · rcases o2'.mpr (.inr z) with y | y
        · exact .inl (.inl y)
        · exact .inr y
      · exact .inl (.inr z)
      · rcases o2'.mpr (.inl (.inr z)) with y | y
        · exact .inl (.inl y)
        · exact .inr y
theorem jStep_ok {found : List Spn} {s : Spn} (hg : ∀ x, x ∈ found → Gd x) (hd : DjAll found) (hs : Gd s) : (∀ x, x ∈ jStep found s → Gd x) ∧ DjAll (jStep found s) ∧ ∀ q, Cov (jStep found s) q ↔ Cov found q ∨ (vl s.1 ≤ q ∧ q ≤ vl s.2) := by
  obtain ⟨i1, i2, i3⟩ := jFold_ok found ⟨[], s.1, s.2⟩ ⟨fun _ h => (nomatch h), hs, fun _ h => (nomatch h)⟩ hg hd
  unfold jStep jAll
  simp only
  refine ⟨fun x hx => ?_, ?_, fun q => ?_⟩
  · rcases List.mem_append.mp hx with z | z
    · exact i1.gd x z
    · rcases List.mem_singleton.mp z with rfl
      exact i1.g
  · refine List.pairwise_append.mpr ⟨i2, List.pairwise_singleton _ _, fun a ha b hb => ?_⟩
    rcases List.mem_singleton.mp hb with rfl
    exact i1.dj a ha
  · rw [i3 q]
    constructor
    · rintro ⟨t, ht, t1⟩
      rcases List.mem_append.mp ht with z | z
      · exact .inl ⟨t, z, t1⟩
      · rcases List.mem_singleton.mp z with rfl
        exact .inr t1
    · rintro (⟨t, ht, t1⟩ | t1)
      · exact ⟨t, List.mem_append_left _ ht, t1⟩
      · exact ⟨s, List.mem_append_right _ List.mem_cons_self, t1⟩
theorem jSteps_ok : ∀ (ss found : List Spn), (∀ x, x ∈ found → Gd x) → DjAll found → (∀ s, s ∈ ss → Gd s) → (∀ x, x ∈ ss.foldl jStep found → Gd x) ∧ DjAll (ss.foldl jStep found) ∧ ∀ q, Cov (ss.foldl jStep found) q ↔ Cov found q ∨ Cov ss q
  | [], found, hg, hd, _ => ⟨hg, hd, fun q => ⟨.inl, fun h => h.elim (fun z => z) fun ⟨s, hs, _⟩ => nomatch hs⟩⟩
  | s :: r, found, hg, hd, hs => by
    obtain ⟨i1, i2, i3⟩ := jStep_ok hg hd (hs s List.mem_cons_self)
    obtain ⟨k1, k2, k3⟩ := jSteps_ok r (jStep found s) i1 i2 fun t ht => hs t (List.mem_cons_of_mem _ ht)
    rw [List.foldl_cons]
    refine ⟨k1, k2, fun q => ?_⟩
    rw [k3 q, i3 q]
    constructor
    · rintro ((z | z) | ⟨t, ht, t1⟩)
      · exact .inl z
      · exact .inr ⟨s, List.mem_cons_self, z⟩
      · exact .inr ⟨t, List.mem_cons_of_mem _ ht, t1⟩
    · rintro (z | ⟨t, ht, t1⟩)
      · exact .inl (.inl z)
      · rcases List.mem_cons.mp ht with e | ht
        · subst e; exact .inl (.inr t1)
        · exact .inr ⟨t, ht, t1⟩
theorem jMin_le {B : Nat} : ∀ (xs : List Spn) (f : Spn), 0 < f.1.2 → (∀ s, s ∈ xs → 0 < s.1.2) → vl (jMin f xs).1 ≤ vl f.1 ∧ ∀ s, s ∈ xs → vl (jMin f xs).1 ≤ vl s.1
  | [], f, _, _ => ⟨by show vl f.1 ≤ vl f.1; grind, fun s hs => nomatch hs⟩
  | a :: r, f, hf, hp => by
    have ha := hp a List.mem_cons_self
    have hr : ∀ s, s ∈ r → 0 < s.1.2 := fun s hs => hp s (List.mem_cons_of_mem _ hs)
    unfold jMin
    rw [List.foldl_cons]
    by_cases h : lessM a.1 f.1 = true
    · rw [if_pos h]
      obtain ⟨i1, i2⟩ := jMin_le (B := B) r a ha hr
      have hl := (vl_lt ha hf).mp h
      unfold jMin at i1 i2
      refine ⟨by grind, fun s hs => ?_⟩
      rcases List.mem_cons.mp hs with e | hs
      · subst e; exact i1
      · exact i2 s hs
    · rw [if_neg h]
      obtain ⟨i1, i2⟩ := jMin_le (B := B) r f hf hr
      have hl := (vl_le ha hf).mp (by simpa using h)
      unfold jMin at i1 i2
      refine ⟨i1, fun s hs => ?_⟩
      rcases List.mem_cons.mp hs with e | hs
      · subst e; grind
      · exact i2 s hs
theorem erase_perm_get {xs : List Spn} {i : Nat} {x : Spn} (h : xs[i]? = some x) : (x :: xs.eraseIdx i).Perm xs := by
  obtain ⟨hi, e⟩ := List.getElem?_eq_some_iff.mp h
  rw [List.eraseIdx_eq_take_drop_succ]
  have e2 : xs = xs.take i ++ x :: xs.drop (i + 1) := by rw [← e, List.getElem_cons_drop, List.take_append_drop]
  refine List.Perm.trans ?_ (e2 ▸ List.Perm.refl xs : (xs.take i ++ x :: xs.drop (i + 1)).Perm xs)
  exact List.perm_middle.symm
theorem fstIx_get {xs : List Spn} {x : Spn} (h : x ∈ xs) : xs[fstIx xs x]? = some x := by
  obtain ⟨h1, h2⟩ := fstIx_ok h
  obtain ⟨h3, h4, _⟩ := List.findIdx?_eq_some_iff_getElem.mp h1
  rw [List.getElem?_eq_getElem h3]
  have : xs[fstIx xs x] = x := by simpa using h4
  rw [this]
theorem jSel_ok : ∀ (n : Nat) (xs : List Spn), xs.length ≤ n → (∀ x, x ∈ xs → Gd x) → DjAll xs → Srt (jSel n xs) ∧ ∀ s, s ∈ jSel n xs ↔ s ∈ xs
  | 0, xs, hl, _, _ => by
    have : xs = [] := List.length_eq_zero_iff.mp (by omega)
    subst this
    exact ⟨⟨List.Pairwise.nil, fun _ h => nomatch h⟩, fun s => Iff.rfl⟩
  | n + 1, [], _, _, _ => ⟨⟨List.Pairwise.nil, fun _ h => nomatch h⟩, fun s => Iff.rfl⟩
  | n + 1, a :: r, hl, hg, hd => by
    have hm := jMin_mem' (a := a) (r := r)
    obtain ⟨_, mn⟩ := jMin_le (B := 0) (a :: r) a (hg a List.mem_cons_self).l fun s hs => (hg s hs).l
    show Srt (jMin a (a :: r) :: jSel n ((a :: r).eraseIdx (fstIx (a :: r) (jMin a (a :: r))))) ∧ ∀ s, s ∈ jMin a (a :: r) :: jSel n ((a :: r).eraseIdx (fstIx (a :: r) (jMin a (a :: r)))) ↔ s ∈ a :: r
    generalize jMin a (a :: r) = f at hm mn
    have pm := erase_perm_get (fstIx_get hm)
    have hel : ((a :: r).eraseIdx (fstIx (a :: r) f)).length ≤ n := by
      have := pm.length_eq
      rw [List.length_cons] at this
      omega
    have hd2 : DjAll (f :: (a :: r).eraseIdx (fstIx (a :: r) f)) := (pm.pairwise_iff fun h => Dj.symm h).mpr hd
    have hd3 := List.pairwise_cons.mp hd2
    generalize (a :: r).eraseIdx (fstIx (a :: r) f) = E at pm hel hd2 hd3
    have hgE : ∀ x, x ∈ E → Gd x := fun x hx => hg x (pm.mem_iff.mp (List.mem_cons_of_mem _ hx))
    obtain ⟨i1, i2⟩ := jSel_ok n E hel hgE hd3.2
    refine ⟨⟨List.pairwise_cons.mpr ⟨fun s hs => ?_, i1.pw⟩, fun s hs => ?_⟩, fun s => ?_⟩
    · have hsE := (i2 s).mp hs
      have h1 := mn s (pm.mem_iff.mp (List.mem_cons_of_mem _ hsE))
      have h2 := (hgE s hsE).le
      rcases hd3.1 s hsE with z | z
      · exact z
      · exfalso; grind
    · rcases List.mem_cons.mp hs with e | hs
      · subst e; exact hg _ hm
      · exact i1.gd s hs
    · rw [List.mem_cons, i2 s, ← pm.mem_iff, List.mem_cons]
theorem joined_ok {ss : List Spn} (hs : ∀ s, s ∈ ss → Gd s) : Srt (joinedM ss) ∧ ∀ q, Cov (joinedM ss) q ↔ Cov ss q := by
  obtain ⟨i1, i2, i3⟩ := jSteps_ok ss [] (fun _ h => nomatch h) List.Pairwise.nil hs
  unfold joinedM
  simp only
  obtain ⟨k1, k2⟩ := jSel_ok _ _ (Nat.le_refl _) i1 i2
  refine ⟨k1, fun q => ?_⟩
  have : Cov (jSel (ss.foldl jStep []).length (ss.foldl jStep [])) q ↔ Cov (ss.foldl jStep []) q := by
    constructor
    · rintro ⟨s, hs, s1⟩; exact ⟨s, (k2 s).mp hs, s1⟩
    · rintro ⟨s, hs, s1⟩; exact ⟨s, (k2 s).mpr hs, s1⟩
  rw [this, i3 q]
  exact ⟨fun h => h.elim (fun ⟨s, hs, _⟩ => nomatch hs) id, .inr⟩
end Z
namespace Z
open PySem PySem.Spec PyProof.Rows L2
variable [Vo]
theorem gFold_stop {low : Fr} : ∀ (xs : List Spn) (h : Fr), 0 < h.2 → (∀ s, s ∈ xs → PosS s) → (xs.foldl (gOne low) (h, false)).2 = false → (xs.foldl (gOne low) (h, false)) = (h, false) ∧ ∀ s, s ∈ xs → lessM s.1 low = false → lessM h s.1 = false → lessM h s.2 = false
  | [], h, _, _, _ => ⟨rfl, fun s hs => nomatch hs⟩
  | a :: r, h, hh, hp, he => by
    have hr : ∀ s, s ∈ r → PosS s := fun s hs => hp s (List.mem_cons_of_mem _ hs)
    have ha := hp a List.mem_cons_self
    rw [List.foldl_cons] at he ⊢
    by_cases hc : (!lessM a.1 low && (!lessM h a.1 && lessM h a.2)) = true
    · have e : gOne low (h, false) a = (a.2, true) := by unfold gOne; rw [if_pos hc]
      rw [e] at he
      exfalso
      have stay : ∀ (ys : List Spn) (c : Fr), (ys.foldl (gOne low) (c, true)).2 = true := by
        intro ys
        induction ys with
        | nil => intro c; rfl
        | cons b t ih =>
          intro c
          rw [List.foldl_cons]
          unfold gOne
          split
          · exact ih _
          · exact ih _
      rw [stay] at he
      cases he
    · have e : gOne low (h, false) a = (h, false) := by unfold gOne; rw [if_neg hc]
      rw [e] at he ⊢
      obtain ⟨i1, i2⟩ := gFold_stop r h hh hr he
      refine ⟨i1, fun s hs s1 s2 => ?_⟩
      rcases List.mem_cons.mp hs with e' | hs
      · subst e'
        rw [s1, s2] at hc
        simpa using hc
      · exact i2 s hs s1 s2
def Full (xs : List Spn) (low high : Fr) : Prop := ∀ q, vl low ≤ q → q ≤ vl high → Cov xs q
theorem gFold_full {low : Fr} {all : List Spn} : ∀ (xs : List Spn) (c : Fr × Bool), (∀ s, s ∈ xs → s ∈ all ∧ PosS s) → 0 < c.1.2 → 0 < low.2 → Full all low c.1 → Full all low (xs.foldl (gOne low) c).1
  | [], c, _, _, _, h => h
  | a :: r, c, hp, hc, hl, h => by
    have ha := hp a List.mem_cons_self
    rw [List.foldl_cons]
    by_cases hb : (!lessM a.1 low && (!lessM c.1 a.1 && lessM c.1 a.2)) = true
    · have e : gOne low c a = (a.2, true) := by unfold gOne; rw [if_pos hb]
      rw [e]
      refine gFold_full r _ (fun s hs => hp s (List.mem_cons_of_mem _ hs)) ha.2.h hl fun q q1 q2 => ?_
      have hb' : lessM a.1 low = false ∧ lessM c.1 a.1 = false ∧ lessM c.1 a.2 = true := by simpa using hb
      have b2 := (vl_le hc ha.2.l).mp hb'.2.1
      by_cases hq : q ≤ vl c.1
      · exact h q q1 hq
      · exact ⟨a, ha.1, by grind, q2⟩
    · have e : gOne low c a = c := by unfold gOne; rw [if_neg hb]
      rw [e]
      exact gFold_full r c (fun s hs => hp s (List.mem_cons_of_mem _ hs)) hc hl h
structure GEnd (xs : List Spn) (low high fin : Fr) : Prop where
  full : Full xs low fin
  stop : ∀ s, s ∈ xs → lessM s.1 low = false → lessM fin s.1 = false → lessM fin s.2 = false
  one : fin = high ∨ ∃ s, s ∈ xs ∧ fin = s.2
  ge : lessM fin high = false
theorem gRun_end {low : Fr} {xs : List Spn} (hp : ∀ s, s ∈ xs → PosS s) (hl : 0 < low.2) : ∀ (k : Nat) (high : Fr), 0 < high.2 → cntG high xs < k → Full xs low high → GEnd xs low high (gRun low xs k high)
  | 0, high, _, hk, _ => by omega
  | k + 1, high, hh, hk, hf => by
    have hpp := pass_pos (low := low) hh hp
    unfold gRun
    simp only
    by_cases hb : (gPass low high xs).2 = true
    · rw [if_pos hb]
      unfold gPass at hb hpp ⊢
      rcases gFold_ok (low := low) xs (high, false) hh hp with z | ⟨z1, z2, s, z3, z4⟩
      · rw [z] at hb; cases hb
      · have hc : cntG (xs.foldl (gOne low) (high, false)).1 xs < cntG high xs := cnt_lt hp hh hpp z2 ⟨s, z3, z4⟩
        have hfl := gFold_full (all := xs) xs (high, false) (fun s hs => ⟨hs, hp s hs⟩) hh hl hf
        have ih := gRun_end hp hl k _ hpp (by omega) hfl
        refine ⟨ih.full, ih.stop, ?_, ?_⟩
        · rcases ih.one with e | e
          · exact .inr ⟨s, z3, e.trans z4⟩
          · exact .inr e
        · have hfin : 0 < (gRun low xs k (xs.foldl (gOne low) (high, false)).1).2 := by
            rcases ih.one with e | ⟨t, ht, e⟩
            · rw [e]; exact hpp
            · rw [e]; exact (hp t ht).h
          have a1 := (vl_lt hh hpp).mp z2
          have a2 := (vl_le hfin hpp).mp ih.ge
          exact (vl_le hfin hh).mpr (by grind)
    · have hb' : (gPass low high xs).2 = false := by simpa using hb
      rw [if_neg hb]
      unfold gPass at hb' ⊢
      obtain ⟨e1, e2⟩ := gFold_stop xs high hh hp hb'
      rw [e1]
      exact ⟨hf, e2, .inl rfl, less_ir⟩
theorem pSel_ok : ∀ (n : Nat) (xs : List Spn), xs.length ≤ n → (∀ x, x ∈ xs → Gd x) → Srt (pSel n xs) ∧ (∀ q, Cov (pSel n xs) q ↔ Cov xs q) ∧ ∀ s, s ∈ pSel n xs → ∃ t, t ∈ xs ∧ s.1 = t.1
  | 0, xs, hl, _ => by
    have : xs = [] := List.length_eq_zero_iff.mp (by omega)
    subst this
    exact ⟨⟨List.Pairwise.nil, fun _ h => nomatch h⟩, fun q => Iff.rfl, fun s hs => nomatch hs⟩
  | n + 1, [], _, _ => ⟨⟨List.Pairwise.nil, fun _ h => nomatch h⟩, fun q => Iff.rfl, fun s hs => nomatch hs⟩
  | n + 1, a :: r, hl, hg => by
    have hm := jMin_mem' (a := a) (r := r)
    obtain ⟨_, mn⟩ := jMin_le (B := 0) (a :: r) a (hg a List.mem_cons_self).l fun s hs => (hg s hs).l
    show Srt (((jMin a (a :: r)).1, gFin (jMin a (a :: r)) (a :: r)) :: pSel n ((a :: r).filter fun s => lessM (gFin (jMin a (a :: r)) (a :: r)) s.1)) ∧
      (∀ q, Cov (((jMin a (a :: r)).1, gFin (jMin a (a :: r)) (a :: r)) :: pSel n ((a :: r).filter fun s => lessM (gFin (jMin a (a :: r)) (a :: r)) s.1)) q ↔ Cov (a :: r) q) ∧
      ∀ s, s ∈ ((jMin a (a :: r)).1, gFin (jMin a (a :: r)) (a :: r)) :: pSel n ((a :: r).filter fun s => lessM (gFin (jMin a (a :: r)) (a :: r)) s.1) → ∃ t, t ∈ a :: r ∧ s.1 = t.1
    generalize jMin a (a :: r) = f at hm mn
    generalize hxs : a :: r = xs at *
    have gf := hg f hm
    have hp : ∀ s, s ∈ xs → PosS s := fun s hs => ⟨(hg s hs).l, (hg s hs).h⟩
    have ge := gRun_end hp gf.l (xs.length + 1) f.2 gf.h (Nat.lt_succ_of_le List.countP_le_length) (fun q q1 q2 => ⟨f, hm, q1, q2⟩)
    have ge' : GEnd xs f.1 f.2 (gFin f xs) := ge
    generalize gFin f xs = fin at ge'
    have hfin : 0 < fin.2 ∧ Rd fin := by
      rcases ge'.one with e | ⟨t, ht, e⟩
      · rw [e]; exact ⟨gf.h, gf.rh⟩
      · rw [e]; exact ⟨(hg t ht).h, (hg t ht).rh⟩
    have hge := (vl_le hfin.1 gf.h).mp ge'.ge
    have hfl : (xs.filter fun s => lessM fin s.1).length ≤ n := by
      have h1 : (xs.filter fun s => lessM fin s.1).length < xs.length := by
        refine Nat.lt_of_le_of_ne (List.length_filter_le _ _) fun e => ?_
        have h2 := List.length_filter_eq_length_iff.mp e f hm
        have h3 := (vl_lt hfin.1 gf.l).mp h2
        have := gf.le
        grind
      omega
    obtain ⟨i1, i2, i3⟩ := pSel_ok n _ hfl (fun x hx => hg x (List.mem_filter.mp hx).1)
    refine ⟨⟨List.pairwise_cons.mpr ⟨fun s hs => ?_, i1.pw⟩, fun s hs => ?_⟩, fun q => ?_, fun s hs => ?_⟩
    · obtain ⟨t, ht, e⟩ := i3 s hs
      have h1 := (List.mem_filter.mp ht)
      have := (vl_lt hfin.1 (hg t h1.1).l).mp h1.2
      rw [e]; exact this
    · rcases List.mem_cons.mp hs with e | hs
      · subst e
        exact ⟨gf.l, hfin.1, gf.rl, hfin.2, by show vl f.1 ≤ vl fin; have := gf.le; grind⟩
      · exact i1.gd s hs
    · constructor
      · rintro ⟨s, hs, s1, s2⟩
        rcases List.mem_cons.mp hs with e | hs
        · subst e
          exact ge'.full q s1 s2
        · obtain ⟨t, ht, t1⟩ := (i2 q).mp ⟨s, hs, s1, s2⟩
          exact ⟨t, (List.mem_filter.mp ht).1, t1⟩
      · rintro ⟨s, hs, s1, s2⟩
        by_cases hc : lessM fin s.1 = true
        · obtain ⟨t, ht, t1⟩ := (i2 q).mpr ⟨s, List.mem_filter.mpr ⟨hs, hc⟩, s1, s2⟩
          exact ⟨t, List.mem_cons_of_mem _ ht, t1⟩
        · have hml := mn s hs
          have hst := ge'.stop s hs ((vl_le (hg s hs).l gf.l).mpr hml) (by simpa using hc)
          have := (vl_le hfin.1 (hg s hs).h).mp hst
          exact ⟨_, List.mem_cons_self, by show vl f.1 ≤ q; grind, by show q ≤ vl fin; grind⟩
    · rcases List.mem_cons.mp hs with e | hs
      · subst e
        exact ⟨f, hm, rfl⟩
      · obtain ⟨t, ht, e⟩ := i3 s hs
        exact ⟨t, (List.mem_filter.mp ht).1, e⟩
theorem put_ok {ss : List Spn} (hs : ∀ s, s ∈ ss → Gd s) : Srt (putM ss) ∧ ∀ q, Cov (putM ss) q ↔ Cov ss q :=
  let ⟨h1, h2, _⟩ := pSel_ok ss.length ss (Nat.le_refl _) hs
  ⟨h1, h2⟩
theorem joined_put {ss tt : List Spn} (h : ∀ s, s ∈ ss ↔ s ∈ tt) (hs : ∀ s, s ∈ ss → Gd s) : joinedM ss = putM tt := by
  obtain ⟨a1, a2⟩ := joined_ok hs
  obtain ⟨b1, b2⟩ := put_ok fun s ht => hs s ((h s).mpr ht)
  refine canon a1 b1 fun q => ?_
  rw [a2 q, b2 q]
  exact ⟨fun ⟨s, hs, s1⟩ => ⟨s, (h s).mp hs, s1⟩, fun ⟨s, hs, s1⟩ => ⟨s, (h s).mpr hs, s1⟩⟩
end Z
namespace Z
open PySem PySem.Spec PyProof.Rows L2
variable [Vo]
def pw (d : Rat) : Nat → Rat
  | 0 => 1
  | n + 1 => pw d n * d
theorem pw_add (d : Rat) (m : Nat) : ∀ n, pw d (m + n) = pw d m * pw d n
  | 0 => by show pw d m = pw d m * 1; grind
  | n + 1 => by
    show pw d (m + n) * d = pw d m * (pw d n * d)
    rw [pw_add d m n]; grind
theorem pw_ge {d : Rat} (h : 1 ≤ d) : ∀ n, 1 ≤ pw d n
  | 0 => by show (1 : Rat) ≤ 1; grind
  | n + 1 => by
    show 1 ≤ pw d n * d
    have h1 := pw_ge h n
    have : 0 ≤ (pw d n - 1) * (d - 1) := Rat.mul_nonneg (by grind) (by grind)
    grind
theorem mul_le_r {a b c : Rat} (h : a ≤ b) (hc : 0 ≤ c) : a * c ≤ b * c := by
  have : 0 ≤ (b - a) * c := Rat.mul_nonneg (by grind) hc
  grind
theorem le_of_mul {a b c : Rat} (hc : 0 < c) (h : a * c ≤ b * c) : a ≤ b := by
  by_cases q : a ≤ b
  · exact q
  · exfalso
    have : 0 < (a - b) * c := Rat.mul_pos (by grind) hc
    grind
def LK (d : Rat) (lo : Nat → Rat) : Nat → Rat
  | 0 => lo 0
  | k + 1 => if lo (k + 1) < LK d lo k / d then LK d lo k / d else lo (k + 1)
def HK (d : Rat) (hi : Nat → Rat) : Nat → Rat
  | 0 => hi 0
  | k + 1 => if HK d hi k * d < hi (k + 1) then HK d hi k * d else hi (k + 1)
theorem LK_ok {d : Rat} (hd : 1 ≤ d) (lo : Nat → Rat) : ∀ k, (∀ i, i ≤ k → lo i ≤ LK d lo k * pw d (k - i)) ∧ ∃ i, i ≤ k ∧ lo i = LK d lo k * pw d (k - i)
  | 0 => by
    refine ⟨fun i hi => ?_, 0, Nat.le_refl _, ?_⟩
    · have : i = 0 := by omega
      subst this
      show lo 0 ≤ lo 0 * 1; grind
    · show lo 0 = lo 0 * 1; grind
  | k + 1 => by
    obtain ⟨i1, i, hi, i2⟩ := LK_ok hd lo k
    have hdiv : LK d lo k / d * d = LK d lo k := by
      have : d ≠ 0 := by grind
      grind
    have step : ∀ i, i ≤ k → pw d (k + 1 - i) = pw d (k - i) * d := fun i hi => by
      rw [show k + 1 - i = (k - i) + 1 by omega]; rfl
    have e0 : pw d (k + 1 - (k + 1)) = 1 := by rw [Nat.sub_self]; rfl
    by_cases hc : lo (k + 1) < LK d lo k / d
    · have e : LK d lo (k + 1) = LK d lo k / d := by show (if _ then _ else _) = _; rw [if_pos hc]
      refine ⟨fun j hj => ?_, i, by omega, ?_⟩
      · rw [e]
        by_cases hjk : j ≤ k
        · rw [step j hjk]
          have := i1 j hjk
          rw [← hdiv] at this
          have e2 : LK d lo k / d * (pw d (k - j) * d) = LK d lo k / d * d * pw d (k - j) := by grind
          rw [e2]; exact this
        · have : j = k + 1 := by omega
          subst this
          rw [e0]; grind
      · rw [e, step i hi, i2]
        have e2 : LK d lo k / d * (pw d (k - i) * d) = LK d lo k / d * d * pw d (k - i) := by grind
        rw [e2, hdiv]
    · have e : LK d lo (k + 1) = lo (k + 1) := by show (if _ then _ else _) = _; rw [if_neg hc]
      refine ⟨fun j hj => ?_, k + 1, Nat.le_refl _, by rw [e, e0]; grind⟩
      rw [e]
      by_cases hjk : j ≤ k
      · rw [step j hjk]
        have h1 := i1 j hjk
        have hp := pw_ge hd (k - j)
        have h2 : LK d lo k ≤ lo (k + 1) * d := by
          have := mul_le_r (show LK d lo k / d ≤ lo (k + 1) by grind) (show 0 ≤ d by grind)
          grind
        have h3 := mul_le_r h2 (show 0 ≤ pw d (k - j) by grind)
        grind
      · have : j = k + 1 := by omega
        subst this
        rw [e0]; grind
theorem HK_ok {d : Rat} (hd : 1 ≤ d) (hi : Nat → Rat) : ∀ k, (∀ i, i ≤ k → HK d hi k ≤ hi i * pw d (k - i)) ∧ ∃ i, i ≤ k ∧ HK d hi k = hi i * pw d (k - i)
  | 0 => by
    refine ⟨fun i h => ?_, 0, Nat.le_refl _, ?_⟩
    · have : i = 0 := by omega
      subst this
      show hi 0 ≤ hi 0 * 1; grind
    · show hi 0 = hi 0 * 1; grind
  | k + 1 => by
    obtain ⟨i1, i, h, i2⟩ := HK_ok hd hi k
    have step : ∀ i, i ≤ k → pw d (k + 1 - i) = pw d (k - i) * d := fun i hi => by
      rw [show k + 1 - i = (k - i) + 1 by omega]; rfl
    have e0 : pw d (k + 1 - (k + 1)) = 1 := by rw [Nat.sub_self]; rfl
    by_cases hc : HK d hi k * d < hi (k + 1)
    · have e : HK d hi (k + 1) = HK d hi k * d := by show (if _ then _ else _) = _; rw [if_pos hc]
      refine ⟨fun j hj => ?_, i, by omega, ?_⟩
      · rw [e]
        by_cases hjk : j ≤ k
        · rw [step j hjk]
          have := mul_le_r (i1 j hjk) (show 0 ≤ d by grind)
          grind
        · have : j = k + 1 := by omega
          subst this
          rw [e0]; grind
      · rw [e, step i h]; grind
    · have e : HK d hi (k + 1) = hi (k + 1) := by show (if _ then _ else _) = _; rw [if_neg hc]
      refine ⟨fun j hj => ?_, k + 1, Nat.le_refl _, by rw [e, e0]; grind⟩
      rw [e]
      by_cases hjk : j ≤ k
      · rw [step j hjk]
        have := mul_le_r (i1 j hjk) (show 0 ≤ d by grind)
        grind
      · have : j = k + 1 := by omega
        subst this
        rw [e0]; grind
theorem pw_mono {d : Rat} (hd : 1 ≤ d) {m n : Nat} (h : m ≤ n) : pw d m ≤ pw d n := by
  obtain ⟨k, rfl⟩ := Nat.exists_eq_add_of_le h
  rw [pw_add]
  have h1 := pw_ge hd m
  have h2 := pw_ge hd k
  have : 0 ≤ pw d m * (pw d k - 1) := Rat.mul_nonneg (by grind) (by grind)
  grind
theorem bars_iff {d : Rat} (hd : 1 ≤ d) {lo hi : Nat → Rat} (hp : ∀ i, 0 ≤ hi i) (n : Nat) : (∀ i j, i < n → j < n → lo i ≤ hi j * pw d (apart i j)) ↔ ∀ k, k < n → LK d lo k ≤ HK d hi k := by
  constructor
  · intro h k hk
    obtain ⟨_, i, hi', e1⟩ := LK_ok hd lo k
    obtain ⟨_, j, hj', e2⟩ := HK_ok hd hi k
    have hb := h i j (by omega) (by omega)
    have hm := pw_mono hd (show apart i j ≤ (k - i) + (k - j) by unfold apart; omega)
    rw [pw_add] at hm
    have h1 := mul_le_r hm (hp j)
    refine le_of_mul (c := pw d (k - i)) (by have := pw_ge hd (k - i); grind) ?_
    rw [← e1, e2]
    grind
  · intro h i j hi' hj'
    by_cases hij : j ≤ i
    · have a := (LK_ok hd lo i).1 i (Nat.le_refl _)
      have b := (HK_ok hd hi i).1 j hij
      have c := h i hi'
      have e : apart i j = i - j := by unfold apart; omega
      rw [e]
      rw [Nat.sub_self] at a
      have a' : lo i ≤ LK d lo i := by
        have : pw d 0 = 1 := rfl
        rw [this] at a; grind
      grind
    · have a := (LK_ok hd lo j).1 i (by omega)
      have b := (HK_ok hd hi j).1 j (Nat.le_refl _)
      have c := h j hj'
      have e : apart i j = j - i := by unfold apart; omega
      rw [e]
      rw [Nat.sub_self] at b
      have b' : HK d hi j ≤ hi j := by
        have : pw d 0 = 1 := rfl
        rw [this] at b; grind
      have := mul_le_r (show LK d lo j ≤ hi j by grind) (show 0 ≤ pw d (j - i) by have := pw_ge hd (j - i); grind)
      grind
end Z
namespace Z
open PySem PySem.Spec PyProof.Rows L2
variable [Vo]
def pathF (S : List Int) (h : Fr × Fr) (W : List Int) : Nat → Fr × Fr
  | 0 => (leastM S h ⟨0, [], (0, 1), (0, 1)⟩ (W.getD 0 1), mostM S h ⟨0, [], (0, 1), (0, 1)⟩ (W.getD 0 1))
  | k + 1 => (leastM S h ⟨k + 1, [], (pathF S h W k).1, (pathF S h W k).2⟩ (W.getD (k + 1) 1), mostM S h ⟨k + 1, [], (pathF S h W k).1, (pathF S h W k).2⟩ (W.getD (k + 1) 1))
def aliveF (S : List Int) (h : Fr × Fr) (W : List Int) (k : Nat) : Prop := lessM (pathF S h W k).2 (pathF S h W k).1 = false
theorem pathF_snoc {S : List Int} {h : Fr × Fr} {W : List Int} {w : Int} : ∀ k, k < W.length → pathF S h (W ++ [w]) k = pathF S h W k
  | 0, hk => by
    have e : (W ++ [w]).getD 0 1 = W.getD 0 1 := by rw [List.getD_eq_getElem?_getD, List.getD_eq_getElem?_getD, List.getElem?_append_left hk]
    unfold pathF; rw [e]
  | k + 1, hk => by
    have e : (W ++ [w]).getD (k + 1) 1 = W.getD (k + 1) 1 := by rw [List.getD_eq_getElem?_getD, List.getD_eq_getElem?_getD, List.getElem?_append_left hk]
    unfold pathF; rw [e, pathF_snoc k (by omega)]
theorem least_row {S : List Int} {h : Fr × Fr} {n : Nat} {r r' : List Nat} {lo hi hi' : Fr} {w : Int} : leastM S h ⟨n, r, lo, hi⟩ w = leastM S h ⟨n, r', lo, hi'⟩ w := rfl
theorem most_row {S : List Int} {h : Fr × Fr} {n : Nat} {r r' : List Nat} {lo lo' hi : Fr} {w : Int} : mostM S h ⟨n, r, lo, hi⟩ w = mostM S h ⟨n, r', lo', hi⟩ w := rfl
theorem getD_last {W : List Int} {w : Int} : (W ++ [w]).getD W.length 1 = w := by rw [List.getD_eq_getElem?_getD]; simp
def keepCh (rows : List (List Nat)) (f : Fo) (k : Nat) (r : List Nat) : List (Int × List Nat) := (choicesM rows f k r).filter fun p => keepB rows ⟨k + 1, p.2, (0, 1), (0, 1)⟩
theorem begC_iff {rows : List (List Nat)} {f : Fo} {k : Nat} {c : Cand} (hodd : k % 2 = 1 → c.2 ≠ []) {c' : Cand} : c' ∈ begC rows f k c ↔ ∃ w, c'.1 = c.1 ++ [w] ∧ (w, c'.2) ∈ keepCh rows f k c.2 := by
  obtain ⟨W, r⟩ := c
  obtain ⟨W', r'⟩ := c'
  unfold begC keepCh choicesM
  simp only
  by_cases hk : k % 2 = 0
  · rw [if_pos hk, if_pos hk]
    have hkeep : ∀ r0, keepB rows ⟨k + 1, r0, (0, 1), (0, 1)⟩ = true := fun r0 => by
      unfold keepB
      have : decide ((k + 1) % 2 = 1) = true := by simp; omega
      simp only
      rw [this]; rfl
    constructor
    · intro hm
      obtain ⟨l, hl, hm⟩ := List.mem_flatten.mp hm
      obtain ⟨p, hp, rfl⟩ := List.mem_map.mp hl
      have hp' : p = (0, 46) ∨ p = (1, 45) := by simpa [en] using hp
      unfold sndC at hm
      split at hm
      · rename_i hb
        have e := List.mem_singleton.mp hm
        cases e
        refine ⟨_, rfl, List.mem_filter.mpr ⟨List.mem_filter.mpr ⟨?_, hb⟩, hkeep _⟩⟩
        rcases hp' with rfl | rfl <;> simp
      · cases hm
    · rintro ⟨w, e1, hm⟩
      obtain ⟨hm1, _⟩ := List.mem_filter.mp hm
      obtain ⟨hm2, hb⟩ := List.mem_filter.mp hm1
      have e2 : (w, r') = (f.s, r ++ [46]) ∨ (w, r') = (f.l, r ++ [45]) := by simpa using hm2
      rcases e2 with e2 | e2
      · cases e2
        cases e1
        refine List.mem_flatten.mpr ⟨_, List.mem_map.mpr ⟨(0, 46), by simp [en], rfl⟩, ?_⟩
        unfold sndC
        rw [if_pos hb]; simp
      · cases e2
        cases e1
        refine List.mem_flatten.mpr ⟨_, List.mem_map.mpr ⟨(1, 45), by simp [en], rfl⟩, ?_⟩
        unfold sndC
        rw [if_pos hb]; simp
  · rw [if_neg hk, if_neg hk]
    have hr : r ≠ [] := hodd (by omega)
    have hk1 : decide ((k + 1) % 2 = 1) = false := by simp; omega
    have kw : ∀ r0, keepB rows ⟨k + 1, r0, (0, 1), (0, 1)⟩ = (decide (r0 = []) || longRow rows r0) := fun r0 => by
      unfold keepB
      simp only
      rw [hk1]; rfl
    constructor
    · intro hm
      rcases List.mem_append.mp hm with q | q
      · unfold gapC1 at q
        split at q
        · rename_i hb
          cases List.mem_singleton.mp q
          exact ⟨f.w, rfl, List.mem_filter.mpr ⟨List.mem_append_left _ List.mem_cons_self, by rw [kw]; simp only at hb; rw [hb]; simp⟩⟩
        · cases q
      · unfold gapC2 at q
        split at q
        · rename_i hb
          have hb' : r ∈ rows := hb
          have e : (W', r') = (W ++ [f.b], []) ∨ (W', r') = (W ++ [f.a], []) := by simpa using q
          rcases e with e | e
          · cases e
            exact ⟨f.b, rfl, List.mem_filter.mpr ⟨List.mem_append_right _ (by rw [if_pos hb']; simp), by rw [kw]; rfl⟩⟩
          · cases e
            exact ⟨f.a, rfl, List.mem_filter.mpr ⟨List.mem_append_right _ (by rw [if_pos hb']; simp), by rw [kw]; rfl⟩⟩
        · cases q
    · rintro ⟨w, e1, hm⟩
      obtain ⟨hm1, hb⟩ := List.mem_filter.mp hm
      rw [kw] at hb
      rcases List.mem_append.mp hm1 with q | q
      · cases List.mem_singleton.mp q
        cases e1
        have hb' : longRow rows r = true := by simpa [hr] using hb
        refine List.mem_append_left _ ?_
        unfold gapC1
        rw [if_pos hb']; simp
      · refine List.mem_append_right _ ?_
        unfold gapC2
        split at q
        · rename_i hb'
          rw [if_pos hb']
          have e : (w, r') = (f.b, []) ∨ (w, r') = (f.a, []) := by simpa using q
          rcases e with e | e <;> cases e <;> cases e1 <;> simp
        · cases q
end Z
namespace Z
open PySem PySem.Spec PyProof.Rows L2
variable [Vo]
theorem begS_odd {rows : List (List Nat)} {f : Fo} : ∀ k c, c ∈ begS rows f k → k % 2 = 1 → c.2 ≠ []
  | 0, c, _, h => by omega
  | k + 1, c, hc, h => by
    obtain ⟨l, hl, hc⟩ := List.mem_flatten.mp hc
    obtain ⟨c0, h0, rfl⟩ := List.mem_map.mp hl
    unfold begC at hc
    rw [if_pos (by omega)] at hc
    obtain ⟨l2, hl2, hc2⟩ := List.mem_flatten.mp hc
    obtain ⟨p, hp, rfl⟩ := List.mem_map.mp hl2
    unfold sndC at hc2
    split at hc2
    · rcases List.mem_singleton.mp hc2 with rfl
      simp
    · cases hc2
theorem begS_succ {rows : List (List Nat)} {f : Fo} {k : Nat} {c' : Cand} : c' ∈ begS rows f (k + 1) ↔ ∃ c, c ∈ begS rows f k ∧ ∃ w, c'.1 = c.1 ++ [w] ∧ (w, c'.2) ∈ keepCh rows f k c.2 := by
  constructor
  · intro h
    obtain ⟨l, hl, hc⟩ := List.mem_flatten.mp h
    obtain ⟨c0, h0, rfl⟩ := List.mem_map.mp hl
    exact ⟨c0, h0, (begC_iff (begS_odd k c0 h0)).mp hc⟩
  · rintro ⟨c, hc, h⟩
    exact List.mem_flatten.mpr ⟨_, List.mem_map.mpr ⟨c, hc, rfl⟩, (begC_iff (begS_odd k c hc)).mpr h⟩
theorem keepB_eq {rows : List (List Nat)} {s t : St4} (h1 : s.n = t.n) (h2 : s.row = t.row) : keepB rows s = keepB rows t := by unfold keepB; rw [h1, h2]
theorem begunOnes_iff {rows : List (List Nat)} {f : Fo} {S : List Int} {h : Fr × Fr} {s q : St4} : q ∈ begunOnesM rows f S h s ↔ ∃ w, (w, q.row) ∈ keepCh rows f s.n s.row ∧ lessM (mostM S h s w) (leastM S h s w) = false ∧ q = ⟨s.n + 1, q.row, leastM S h s w, mostM S h s w⟩ := by
  unfold begunOnesM keepCh
  constructor
  · intro hq
    obtain ⟨p, hp, rfl⟩ := List.mem_map.mp hq
    obtain ⟨hp1, hk⟩ := List.mem_filter.mp hp
    obtain ⟨l, hl, hp2⟩ := List.mem_flatten.mp hp1
    obtain ⟨c, hc, rfl⟩ := List.mem_map.mp hl
    unfold stepM at hp2
    split at hp2
    · cases hp2
    · rename_i hb
      rcases List.mem_singleton.mp hp2 with rfl
      exact ⟨c.1, List.mem_filter.mpr ⟨hc, hk⟩, by simpa using hb, rfl⟩
  · rintro ⟨w, hw, hb, e⟩
    obtain ⟨hc, hk⟩ := List.mem_filter.mp hw
    refine List.mem_map.mpr ⟨(w, q), List.mem_filter.mpr ⟨List.mem_flatten.mpr ⟨_, List.mem_map.mpr ⟨(w, q.row), hc, rfl⟩, ?_⟩, ?_⟩, rfl⟩
    · unfold stepM
      rw [if_neg (by rw [hb]; decide)]
      exact List.mem_singleton.mpr (by rw [← e])
    · rw [e]; exact hk
theorem stands_iff {rows : List (List Nat)} {f : Fo} {S : List Int} {h : Fr × Fr} : ∀ (k : Nat) (q : St4), q ∈ standsM rows f S h (k + 1) ↔ ∃ c, c ∈ begS rows f (k + 1) ∧ (∀ i, i ≤ k → aliveF S h c.1 i) ∧ q = ⟨k + 1, c.2, (pathF S h c.1 k).1, (pathF S h c.1 k).2⟩
  | 0, q => by
    unfold standsM
    rw [addAll_mem]
    have hs : q ∈ ((standsM rows f S h 0).map (begunOnesM rows f S h)).flatten ↔ q ∈ begunOnesM rows f S h firstM := by unfold standsM; simp
    rw [hs, begunOnes_iff]
    constructor
    · rintro (z | ⟨w, hw, hb, e⟩)
      · cases z
      · exact ⟨([w], q.row), begS_succ.mpr ⟨([], []), List.mem_cons_self, w, rfl, hw⟩, fun i hi => by
          have : i = 0 := by omega
          subst this; exact hb, e⟩
    · rintro ⟨c, hc, ha, e⟩
      obtain ⟨c0, h0, w, e1, hw⟩ := begS_succ.mp hc
      rcases List.mem_singleton.mp h0 with rfl
      have e1' : c.1 = [w] := e1
      refine .inr ⟨w, ?_, ?_, ?_⟩
      · rw [e]; exact hw
      · have := ha 0 (Nat.le_refl _)
        unfold aliveF pathF at this
        rw [e1'] at this; exact this
      · rw [e]
        show (⟨0 + 1, c.2, (pathF S h c.1 0).1, (pathF S h c.1 0).2⟩ : St4) = _
        unfold pathF
        rw [e1']; rfl
  | k + 1, q => by
    have e0 : q ∈ standsM rows f S h (k + 1 + 1) ↔ ∃ s, s ∈ standsM rows f S h (k + 1) ∧ q ∈ begunOnesM rows f S h s := by
      rw [standsM, addAll_mem]
      constructor
      · rintro (z | z)
        · cases z
        · obtain ⟨l, hl, hq⟩ := List.mem_flatten.mp z
          obtain ⟨s, hs, rfl⟩ := List.mem_map.mp hl
          exact ⟨s, hs, hq⟩
      · rintro ⟨s, hs, hq⟩
        exact .inr (List.mem_flatten.mpr ⟨_, List.mem_map.mpr ⟨s, hs, rfl⟩, hq⟩)
    rw [e0]
    constructor
    · rintro ⟨s, hs, hq⟩
      obtain ⟨c, hc, ha, rfl⟩ := (stands_iff k s).mp hs
      obtain ⟨w, hw, hb, e⟩ := begunOnes_iff.mp hq
      have hl := (begS_ok (rows := rows) (f := f) (k + 1) c hc).1
      have eg : (c.1 ++ [w]).getD (k + 1) 1 = w := by rw [← hl]; exact getD_last
      have ep : pathF S h (c.1 ++ [w]) (k + 1) = (leastM S h ⟨k + 1, [], (pathF S h c.1 k).1, (pathF S h c.1 k).2⟩ w, mostM S h ⟨k + 1, [], (pathF S h c.1 k).1, (pathF S h c.1 k).2⟩ w) := by
        rw [pathF, eg, pathF_snoc k (by omega)]
      refine ⟨(c.1 ++ [w], q.row), begS_succ.mpr ⟨c, hc, w, rfl, hw⟩, fun i hi => ?_, ?_⟩
      · unfold aliveF
        by_cases hik : i ≤ k
        · rw [pathF_snoc i (by omega)]; exact ha i hik
        · have : i = k + 1 := by omega
          subst this
          rw [ep]; exact hb
      · simp only
        rw [ep]; exact e
    · rintro ⟨c', hc', ha, e⟩
      obtain ⟨c, hc, w, e1, hw⟩ := begS_succ.mp hc'
      have hl := (begS_ok (rows := rows) (f := f) (k + 1) c hc).1
      have eg : (c.1 ++ [w]).getD (k + 1) 1 = w := by rw [← hl]; exact getD_last
      have ep : pathF S h c'.1 (k + 1) = (leastM S h ⟨k + 1, [], (pathF S h c.1 k).1, (pathF S h c.1 k).2⟩ w, mostM S h ⟨k + 1, [], (pathF S h c.1 k).1, (pathF S h c.1 k).2⟩ w) := by
        rw [e1, pathF, eg, pathF_snoc k (by omega)]
      refine ⟨⟨k + 1, c.2, (pathF S h c.1 k).1, (pathF S h c.1 k).2⟩, (stands_iff k _).mpr ⟨c, hc, fun i hi => ?_, rfl⟩, begunOnes_iff.mpr ⟨w, ?_, ?_, ?_⟩⟩
      · have := ha i (by omega)
        unfold aliveF at this ⊢
        rw [e1, pathF_snoc i (by omega)] at this
        exact this
      · rw [e]; exact hw
      · have := ha (k + 1) (Nat.le_refl _)
        unfold aliveF at this
        rw [ep] at this; exact this
      · rw [e, ep]; rfl
end Z
namespace Z
open PySem PySem.Spec PyProof.Rows L2
variable [Vo]
theorem zw_getD {S W : List Int} {i : Nat} (h : i < S.length) (hl : S.length ≤ W.length) : zw S W i = (S.getD i 1, W.getD i 1) := by
  have h1 := zw_get h hl
  rw [List.getElem?_zip_eq_some] at h1
  rw [List.getD_eq_getElem?_getD, List.getD_eq_getElem?_getD, h1.1, h1.2]
  rfl
theorem vl_nn {x : Fr} (h : 0 < x.2) (h1 : 0 ≤ x.1) : 0 ≤ vl x := by
  have hz : 0 < (1 : Int) := by decide
  have e0 : vl ((0, 1) : Fr) = 0 := by unfold vl; grind
  rw [← e0]
  refine (vl_le h hz).mp ?_
  unfold lessM
  simp only [decide_eq_false_iff_not]
  show ¬ x.1 * 1 < 0 * x.2
  rw [Int.mul_one, Int.zero_mul]; omega
theorem loZ_rd {nb kb : Nat} {S W : List Int} {h : Fr × Fr} (ok : SWok nb S W) (hh : HOk' kb h) {i : Nat} (hi : i < S.length) : Rd (loZ S W h.1 i) ∧ Rd (hiZ S W h.1 i) ∧ 0 ≤ vl (hiZ S W h.1 i) := by
  have hz := zw_ok ok hi
  have so := hh.so
  have sp := hh.s.p
  unfold loZ hiZ loM hiM
  have p1 : 0 < (zw S W i).2 * (h.1.2 + h.1.1) := Int.mul_pos (by omega) (by have := so.1; omega)
  have p2 : 0 < (zw S W i).2 * (h.1.2 - h.1.1) := Int.mul_pos (by omega) (by have := so.2; omega)
  refine ⟨madeM_rd p1, madeM_rd p2, ?_⟩
  have r := madeM_rd (a := (zw S W i).1 * h.1.2) p2
  refine vl_nn r.p ?_
  unfold madeM
  exact Int.ediv_nonneg (Int.mul_nonneg (by omega) (by omega)) (by omega)
end Z
namespace Z
open PySem PySem.Spec PyProof.Rows L2
variable [Vo]
def loR (S W : List Int) (h : Fr × Fr) (i : Nat) : Rat := vl (loZ S W h.1 i)
def hiR (S W : List Int) (h : Fr × Fr) (i : Nat) : Rat := vl (hiZ S W h.1 i)
structure PathV (S W : List Int) (h : Fr × Fr) (k : Nat) : Prop where
  lo : vl (pathF S h W k).1 = LK (vl h.2) (loR S W h) k
  hi : vl (pathF S h W k).2 = HK (vl h.2) (hiR S W h) k
  rl : Rd (pathF S h W k).1
  rh : Rd (pathF S h W k).2
theorem drift_ge {kb : Nat} {h : Fr × Fr} (hh : HOk' kb h) : 1 ≤ vl h.2 := by
  have e : vl ((1, 1) : Fr) = 1 := by unfold vl; grind
  rw [← e]
  refine (vl_le hh.d.p (by decide)).mp ?_
  unfold lessM
  simp only [decide_eq_false_iff_not]
  have := hh.d1
  omega
theorem pathF_val {nb kb : Nat} {S W : List Int} {h : Fr × Fr} (ok : SWok nb S W) (hh : HOk' kb h) : ∀ k, k < S.length → PathV S W h k
  | 0, hk => by
    obtain ⟨r1, r2, _⟩ := loZ_rd ok hh hk
    have e1 : (pathF S h W 0).1 = loZ S W h.1 0 := by unfold pathF leastM loZ; rw [zw_getD hk ok.l]; simp
    have e2 : (pathF S h W 0).2 = hiZ S W h.1 0 := by unfold pathF mostM hiZ; rw [zw_getD hk ok.l]; simp
    exact ⟨by rw [e1]; rfl, by rw [e2]; rfl, by rw [e1]; exact r1, by rw [e2]; exact r2⟩
  | k + 1, hk => by
    have ih := pathF_val ok hh k (by omega)
    obtain ⟨r1, r2, _⟩ := loZ_rd ok hh hk
    have hd1 : 0 < h.2.1 := by have := hh.d1; have := hh.d.p; omega
    have o1 := overM_rd (x := (pathF S h W k).1) (y := h.2) ih.rl.p hd1
    have t1 := timesM_rd (x := (pathF S h W k).2) (y := h.2) ih.rh.p hh.d.p
    have v1 := vl_over ih.rl.p hh.d.p hd1
    have v2 := vl_times ih.rh.p hh.d.p
    have e1 : (pathF S h W (k + 1)).1 = if lessM (loZ S W h.1 (k + 1)) (overM (pathF S h W k).1 h.2) then overM (pathF S h W k).1 h.2 else loZ S W h.1 (k + 1) := by
      rw [pathF]; unfold leastM loZ; rw [zw_getD hk ok.l]; simp
    have e2 : (pathF S h W (k + 1)).2 = if lessM (timesM (pathF S h W k).2 h.2) (hiZ S W h.1 (k + 1)) then timesM (pathF S h W k).2 h.2 else hiZ S W h.1 (k + 1) := by
      rw [pathF]; unfold mostM hiZ; rw [zw_getD hk ok.l]; simp
    have l1 : lessM (loZ S W h.1 (k + 1)) (overM (pathF S h W k).1 h.2) = true ↔ loR S W h (k + 1) < LK (vl h.2) (loR S W h) k / vl h.2 := by
      rw [vl_lt r1.p o1.p, v1, ih.lo]; rfl
    have l2 : lessM (timesM (pathF S h W k).2 h.2) (hiZ S W h.1 (k + 1)) = true ↔ HK (vl h.2) (hiR S W h) k * vl h.2 < hiR S W h (k + 1) := by
      rw [vl_lt t1.p r2.p, v2, ih.hi]; rfl
    refine ⟨?_, ?_, ?_, ?_⟩
    · rw [e1]
      show _ = if _ then _ else _
      by_cases q : lessM (loZ S W h.1 (k + 1)) (overM (pathF S h W k).1 h.2) = true
      · rw [if_pos q, if_pos (l1.mp q), v1, ih.lo]
      · rw [if_neg q, if_neg fun z => q (l1.mpr z)]; rfl
    · rw [e2]
      show _ = if _ then _ else _
      by_cases q : lessM (timesM (pathF S h W k).2 h.2) (hiZ S W h.1 (k + 1)) = true
      · rw [if_pos q, if_pos (l2.mp q), v2, ih.hi]
      · rw [if_neg q, if_neg fun z => q (l2.mpr z)]; rfl
    · rw [e1]; split
      · exact o1
      · exact r1
    · rw [e2]; split
      · exact t1
      · exact r2
end Z
namespace Z
open PySem PySem.Spec PyProof.Rows L2
variable [Vo]
theorem powM_val {n : Nat} {x : Fr} (hx : Sz n x) : ∀ k, vl (powM x k) = pw (vl x) k ∧ 0 < (powM x k).2
  | 0 => ⟨by show vl ((1, 1) : Fr) = 1; unfold vl; grind, by show (0 : Int) < 1; decide⟩
  | k + 1 => by
    obtain ⟨i1, i2⟩ := powM_val hx k
    refine ⟨?_, (timesM_rd i2 hx.p).p⟩
    show vl (timesM (powM x k) x) = pw (vl x) k * vl x
    rw [vl_times i2 hx.p, i1]
theorem barB_iff {nb kb : Nat} {S W : List Int} {h : Fr × Fr} (ok : SWok nb S W) (hh : HOk' kb h) {i j : Nat} (hi : i < S.length) (hj : j < S.length) : barB S W h i j = false ↔ loR S W h i ≤ hiR S W h j * pw (vl h.2) (apart i j) := by
  obtain ⟨r1, _, _⟩ := loZ_rd ok hh hi
  obtain ⟨_, r2, _⟩ := loZ_rd ok hh hj
  obtain ⟨p1, p2⟩ := powM_val hh.d (apart i j)
  unfold barB
  rw [vl_le (timesM_rd r2.p p2).p r1.p, vl_times r2.p p2, p1]
  rfl
theorem bar_alive {nb kb : Nat} {S W : List Int} {h : Fr × Fr} (ok : SWok nb S W) (hh : HOk' kb h) : barM S W h = none ↔ ∀ i, i < S.length → aliveF S h W i := by
  have hd := drift_ge hh
  have e : ∀ k, k < S.length → (aliveF S h W k ↔ LK (vl h.2) (loR S W h) k ≤ HK (vl h.2) (hiR S W h) k) := fun k hk => by
    have v := pathF_val ok hh k hk
    unfold aliveF
    rw [vl_le v.rh.p v.rl.p, v.lo, v.hi]
  let hi' : Nat → Rat := fun i => if i < S.length then hiR S W h i else 0
  have hn : ∀ i, 0 ≤ hi' i := fun i => by
    show 0 ≤ if i < S.length then hiR S W h i else 0
    split
    · rename_i q; exact (loZ_rd ok hh q).2.2
    · grind
  have hk : ∀ k, k < S.length → HK (vl h.2) hi' k = HK (vl h.2) (hiR S W h) k := by
    intro k
    induction k with
    | zero => intro q; show (if 0 < S.length then hiR S W h 0 else 0) = _; rw [if_pos q]; rfl
    | succ k ih =>
      intro q
      have a : hi' (k + 1) = hiR S W h (k + 1) := by show (if k + 1 < S.length then hiR S W h (k + 1) else 0) = _; rw [if_pos q]
      show (if HK (vl h.2) hi' k * vl h.2 < hi' (k + 1) then HK (vl h.2) hi' k * vl h.2 else hi' (k + 1)) = (if HK (vl h.2) (hiR S W h) k * vl h.2 < hiR S W h (k + 1) then HK (vl h.2) (hiR S W h) k * vl h.2 else hiR S W h (k + 1))
      rw [ih (by omega), a]
  have b := bars_iff hd (lo := loR S W h) hn S.length
  rw [barM_none]
  constructor
  · intro q i hi
    rw [e i hi, ← hk i hi]
    refine b.mp (fun i j hi hj => ?_) i hi
    have : hi' j = hiR S W h j := by show (if j < S.length then hiR S W h j else 0) = _; rw [if_pos hj]
    rw [this]
    exact (barB_iff ok hh hi hj).mp (q i j hi hj)
  · intro q i j hi hj
    rw [barB_iff ok hh hi hj]
    have := b.mpr (fun k hk' => by rw [hk k hk']; exact (e k hk').mp (q k hk')) i j hi hj
    have e2 : hi' j = hiR S W h j := by show (if j < S.length then hiR S W h j else 0) = _; rw [if_pos hj]
    rw [e2] at this
    exact this
end Z
namespace Z
open PySem PySem.Spec PyProof.Rows L2
variable [Vo]
theorem spanFold_ok {nb kb : Nat} {S W : List Int} {h : Fr × Fr} (ok : SWok nb S W) (hh : HOk' kb h) : ∀ (ks : List Nat) (s : Spn), (∀ k, k ∈ ks → k < S.length) → Rd s.1 → Rd s.2 →
    let r := ks.foldl (spanS S W h S.length) s
    Rd r.1 ∧ Rd r.2 ∧ vl s.1 ≤ vl r.1 ∧ vl r.2 ≤ vl s.2 ∧ (∀ k, k ∈ ks → vl (lowK S W h S.length k) ≤ vl r.1 ∧ vl r.2 ≤ vl (highK S W h S.length k)) ∧ (r.1 = s.1 ∨ ∃ k, k ∈ ks ∧ r.1 = lowK S W h S.length k) ∧ (r.2 = s.2 ∨ ∃ k, k ∈ ks ∧ r.2 = highK S W h S.length k)
  | [], s, _, r1, r2 => ⟨r1, r2, by show vl s.1 ≤ vl s.1; grind, by show vl s.2 ≤ vl s.2; grind, fun k hk => (nomatch hk), .inl rfl, .inl rfl⟩
  | k :: t, s, hk, r1, r2 => by
    have hkl := hk k List.mem_cons_self
    obtain ⟨z1, z2, _⟩ := loZ_rd ok hh hkl
    have hd1 : 0 < h.2.1 := by have := hh.d1; have := hh.d.p; omega
    have hp := powM_sz hh.d (S.length - 1 - k)
    have l1 : Rd (lowK S W h S.length k) := timesM_rd z1.p (powM_pos hh.d hd1 _)
    have l2 : Rd (highK S W h S.length k) := timesM_rd z2.p hp.p
    obtain ⟨a1, a2, a3⟩ := vmax r1.p l1.p
    obtain ⟨b1, b2, b3⟩ := vmin l2.p r2.p
    have ih := spanFold_ok ok hh t (spanS S W h S.length s k) (fun j hj => hk j (List.mem_cons_of_mem _ hj)) (by unfold spanS; simp only; rcases a3 with e | e <;> rw [e]; exact r1; exact l1) (by unfold spanS; simp only; rcases b3 with e | e <;> rw [e]; exact l2; exact r2)
    simp only at ih ⊢
    rw [List.foldl_cons]
    generalize t.foldl (spanS S W h S.length) (spanS S W h S.length s k) = r at ih
    obtain ⟨i1, i2, i3, i4, i5, i6, i7⟩ := ih
    have e1 : (spanS S W h S.length s k).1 = if lessM s.1 (lowK S W h S.length k) then lowK S W h S.length k else s.1 := rfl
    have e2 : (spanS S W h S.length s k).2 = if lessM (highK S W h S.length k) s.2 then highK S W h S.length k else s.2 := rfl
    rw [e1] at i3 i6
    rw [e2] at i4 i7
    refine ⟨i1, i2, by grind, by grind, fun j hj => ?_, ?_, ?_⟩
    · rcases List.mem_cons.mp hj with e | hj
      · subst e; exact ⟨by grind, by grind⟩
      · exact i5 j hj
    · rcases i6 with e | ⟨j, hj, e⟩
      · rcases a3 with e' | e'
        · exact .inl (e.trans e')
        · exact .inr ⟨k, List.mem_cons_self, e.trans e'⟩
      · exact .inr ⟨j, List.mem_cons_of_mem _ hj, e⟩
    · rcases i7 with e | ⟨j, hj, e⟩
      · rcases b3 with e' | e'
        · exact .inr ⟨k, List.mem_cons_self, e.trans e'⟩
        · exact .inl (e.trans e')
      · exact .inr ⟨j, List.mem_cons_of_mem _ hj, e⟩
end Z
namespace Z
open PySem PySem.Spec PyProof.Rows L2
variable [Vo]
theorem lowK_val {nb kb : Nat} {S W : List Int} {h : Fr × Fr} (ok : SWok nb S W) (hh : HOk' kb h) {n k : Nat} (hk : k < S.length) : vl (lowK S W h n k) * pw (vl h.2) (n - 1 - k) = loR S W h k ∧ vl (highK S W h n k) = hiR S W h k * pw (vl h.2) (n - 1 - k) := by
  obtain ⟨z1, z2, _⟩ := loZ_rd ok hh hk
  have hd1 : 0 < h.2.1 := by have := hh.d1; have := hh.d.p; omega
  obtain ⟨p1, p2⟩ := powM_val hh.d (n - 1 - k)
  have pp := powM_pos hh.d hd1 (n - 1 - k)
  unfold lowK highK
  generalize powM h.2 (n - 1 - k) = p at p1 p2 pp
  rw [vl_times z1.p (show 0 < (swF p).2 from pp), vl_times z2.p p2, ← p1]
  refine ⟨?_, rfl⟩
  have e : vl (swF p) * vl p = 1 := by
    unfold vl swF
    simp only
    have a := cast_ne pp
    have b := cast_ne p2
    grind
  rw [show vl (loZ S W h.1 k) * vl (swF p) * vl p = vl (loZ S W h.1 k) * (vl (swF p) * vl p) by grind, e]
  show vl (loZ S W h.1 k) * 1 = vl (loZ S W h.1 k)
  grind
theorem span_path {nb kb : Nat} {S W : List Int} {h : Fr × Fr} (ok : SWok nb S W) (hh : HOk' kb h) {n : Nat} (hn : S.length = n + 1) : spanM S W h = pathF S h W n := by
  have hd := drift_ge hh
  have hk : n < S.length := by omega
  obtain ⟨z1, z2, _⟩ := loZ_rd ok hh hk
  have v := pathF_val ok hh n hk
  obtain ⟨L1, i, hi, L2⟩ := LK_ok hd (loR S W h) n
  obtain ⟨H1, j, hj, H2⟩ := HK_ok hd (hiR S W h) n
  have f := spanFold_ok ok hh (List.range S.length) (loZ S W h.1 (S.length - 1), hiZ S W h.1 (S.length - 1)) (fun k hk => List.mem_range.mp hk) (by rw [hn]; exact z1) (by rw [hn]; exact z2)
  simp only at f
  unfold spanM
  generalize (List.range S.length).foldl (spanS S W h S.length) (loZ S W h.1 (S.length - 1), hiZ S W h.1 (S.length - 1)) = r at f
  obtain ⟨r1, r2, r3, r4, r5, r6, r7⟩ := f
  have nn : S.length - 1 = n := by omega
  rw [nn] at r3 r4 r6 r7
  have p0 : pw (vl h.2) (n - n) = 1 := by rw [Nat.sub_self]; rfl
  have low_le : ∀ k, k ≤ n → vl (lowK S W h S.length k) ≤ LK (vl h.2) (loR S W h) n := fun k hk => by
    have e := (lowK_val ok hh (n := S.length) (k := k) (by omega)).1
    rw [nn] at e
    have := L1 k hk
    rw [← e] at this
    exact le_of_mul (by have := pw_ge hd (n - k); grind) this
  have high_ge : ∀ k, k ≤ n → HK (vl h.2) (hiR S W h) n ≤ vl (highK S W h S.length k) := fun k hk => by
    have e := (lowK_val ok hh (n := S.length) (k := k) (by omega)).2
    rw [nn] at e
    rw [e]; exact H1 k hk
  have e1 : vl r.1 = vl (pathF S h W n).1 := by
    rw [v.lo]
    have a := (r5 i (List.mem_range.mpr (by omega))).1
    have e := (lowK_val ok hh (n := S.length) (k := i) (by omega)).1
    rw [nn, L2] at e
    have b : LK (vl h.2) (loR S W h) n ≤ vl (lowK S W h S.length i) := le_of_mul (c := pw (vl h.2) (n - i)) (by have := pw_ge hd (n - i); grind) (by rw [e]; grind)
    have c : vl r.1 ≤ LK (vl h.2) (loR S W h) n := by
      rcases r6 with q | ⟨k, hk, q⟩
      · rw [q]
        have := L1 n (Nat.le_refl _)
        rw [p0] at this
        show loR S W h n ≤ _
        grind
      · rw [q]; exact low_le k (by have := List.mem_range.mp hk; omega)
    grind
  have e2 : vl r.2 = vl (pathF S h W n).2 := by
    rw [v.hi]
    have a := (r5 j (List.mem_range.mpr (by omega))).2
    have e := (lowK_val ok hh (n := S.length) (k := j) (by omega)).2
    rw [nn, ← H2] at e
    have c : HK (vl h.2) (hiR S W h) n ≤ vl r.2 := by
      rcases r7 with q | ⟨k, hk, q⟩
      · rw [q]
        have := H1 n (Nat.le_refl _)
        rw [p0] at this
        show _ ≤ hiR S W h n
        grind
      · rw [q]; exact high_ge k (by have := List.mem_range.mp hk; omega)
    grind
  have a1 := rd_ext r1 v.rl e1
  have a2 := rd_ext r2 v.rh e2
  obtain ⟨q1, q2⟩ := r
  simp only at a1 a2
  rw [a1, a2]
def lawSpans (bk : Bk0) (f : Fo) (h : Fr × Fr) (own : List Int) : List Spn := ((begunM bk f own.length).filter fun W => decide (0 < own.length) && decide (barM own W h = none)).map fun W => spanM own W h
theorem plain43 {nb kb : Nat} {bk : Bk0} {f : Fo} {h : Fr × Fr} {own : List Int} (hf : FoOk f) (hh : HOk' kb h) (hS : ∀ x, x ∈ own → 1 ≤ x ∧ x < 2 ^ nb) (h6 : 6 ≤ nb) : joinedM (lawSpans bk f h own) = presentM (bk.map (·.2)) f own h := by
  unfold presentM
  have h64 : (64 : Int) ≤ 2 ^ nb := by
    have : (2 : Nat) ^ 6 ≤ 2 ^ nb := Nat.pow_le_pow_right (by decide) h6
    exact_mod_cast this
  cases hn : own.length with
  | zero =>
    have e1 : lawSpans bk f h own = [] := by
      unfold lawSpans
      rw [hn]
      simp
    rw [e1]; rfl
  | succ n =>
    have okW : ∀ c, c ∈ begS (bk.map (·.2)) f (n + 1) → SWok nb own c.1 := fun c hc => by
      refine ⟨hS, fun x hx => ?_, ?_⟩
      · have := begS_w hf _ c hc x hx; omega
      · have := (begS_ok _ c hc).1; omega
    refine joined_put (fun s => ?_) (fun s hs => ?_)
    · constructor
      · intro hs
        obtain ⟨W, hW, rfl⟩ := List.mem_map.mp hs
        obtain ⟨hW1, hW2⟩ := List.mem_filter.mp hW
        unfold begunM at hW1
        rw [hn] at hW1
        obtain ⟨c, hc, rfl⟩ := List.mem_map.mp hW1
        have hbar : barM own c.1 h = none := by
          have : 0 < own.length ∧ barM own c.1 h = none := by simpa using hW2
          exact this.2
        have al := (bar_alive (okW c hc) hh).mp hbar
        refine List.mem_map.mpr ⟨⟨n + 1, c.2, (pathF own h c.1 n).1, (pathF own h c.1 n).2⟩, List.mem_filter.mpr ⟨(stands_iff n _).mpr ⟨c, hc, fun i hi => al i (by omega), rfl⟩, by simp⟩, ?_⟩
        rw [span_path (okW c hc) hh hn]
      · intro hs
        obtain ⟨q, hq, rfl⟩ := List.mem_map.mp hs
        obtain ⟨hq1, _⟩ := List.mem_filter.mp hq
        obtain ⟨c, hc, ha, rfl⟩ := (stands_iff n q).mp hq1
        have hbar := (bar_alive (okW c hc) hh).mpr fun i hi => ha i (by omega)
        unfold lawSpans begunM
        rw [hn]
        refine List.mem_map.mpr ⟨c.1, List.mem_filter.mpr ⟨List.mem_map.mpr ⟨c, hc, rfl⟩, by simp [hbar]⟩, ?_⟩
        rw [span_path (okW c hc) hh hn]
    · obtain ⟨W, hW, rfl⟩ := List.mem_map.mp hs
      obtain ⟨hW1, hW2⟩ := List.mem_filter.mp hW
      unfold begunM at hW1
      rw [hn] at hW1
      obtain ⟨c, hc, rfl⟩ := List.mem_map.mp hW1
      have hbar : barM own c.1 h = none := by
        have : 0 < own.length ∧ barM own c.1 h = none := by simpa using hW2
        exact this.2
      have al := (bar_alive (okW c hc) hh).mp hbar n (by omega)
      have v := pathF_val (okW c hc) hh n (by omega)
      rw [span_path (okW c hc) hh hn]
      exact ⟨v.rl.p, v.rh.p, v.rl, v.rh, (vl_le v.rh.p v.rl.p).mp al⟩
end Z
namespace Z
open PySem PySem.Spec PyProof.Rows L2
variable [Vo]
def rdF (rows : List (List Nat)) (f : Fo) (h : Fr × Fr) (S : List Int) : Nat → St4 → List (List Int)
  | 0, s => if s.n % 2 = 1 ∧ s.row ∈ rows then [[]] else []
  | k + 1, s => (nextM rows f S h s).flatMap fun p => (rdF rows f h S k p.2).map (p.1 :: ·)
def readM (rows : List (List Nat)) (f : Fo) (h : Fr × Fr) (S : List Int) : List (List Int) := rdF rows f h S S.length firstM
theorem rdF_len {rows : List (List Nat)} {f : Fo} {h : Fr × Fr} {S : List Int} : ∀ (k : Nat) (s : St4), (rdF rows f h S k s).length = waysF rows f h S k s
  | 0, s => by unfold rdF waysF; split <;> rfl
  | k + 1, s => by
    unfold rdF waysF
    rw [List.length_flatMap]
    congr 1
    refine List.map_congr_left fun p _ => ?_
    rw [List.length_map, rdF_len k]
theorem readM_len {rows : List (List Nat)} {f : Fo} {h : Fr × Fr} {S : List Int} : (readM rows f h S).length = waysM rows f h S firstM := by
  unfold readM waysM; exact rdF_len _ _
theorem rdF_wl {rows : List (List Nat)} {f : Fo} {h : Fr × Fr} {S : List Int} : ∀ (k : Nat) (s : St4) (W : List Int), W ∈ rdF rows f h S k s → W.length = k
  | 0, s, W, hW => by unfold rdF at hW; split at hW <;> simp_all
  | k + 1, s, W, hW => by
    unfold rdF at hW
    obtain ⟨p, hp, hW⟩ := List.mem_flatMap.mp hW
    obtain ⟨V, hV, rfl⟩ := List.mem_map.mp hW
    rw [List.length_cons, rdF_wl k _ V hV]
theorem rowW_snocL {f : Fo} {r : List Nat} {c : Nat} : rowW f (r ++ [c]) = rowW f r ++ ((if 0 < r.length then [f.w] else []) ++ [sgW f c]) := by
  unfold rowW
  rw [en_app, List.map_append, List.flatten_append, Nat.zero_add]
  simp [en, rowG]
theorem wordsW_snoc {bk : Bk0} {f : Fo} {ws : List (List Nat)} {w : List Nat} : wordsW bk f 0 (ws ++ [w]) = wordsW bk f 0 ws ++ wordW bk f ws.length w := by
  unfold wordsW
  rw [en_app, List.map_append, List.flatten_append, Nat.zero_add]
  simp [en, wordG]
theorem nk_ints {xs : List Int} : nkOkAll (xs.map PyData.int) = true := by
  induction xs with
  | nil => rfl
  | cons a t ih => rw [List.map_cons]; unfold nkOkAll; rw [ih]; rfl
theorem shp_IntL {xs : List Int} {n : Nat} : Shp (n + 1) (.list (xs.map PyData.int)) := shp_map (n := n) fun _ _ => shp_int
theorem gapW_0 {f : Fo} {n : Nat} : gapW f n 0 = if 0 < n then [f.a] else [] := by unfold gapW; simp
theorem gapW_s {f : Fo} {n k : Nat} : gapW f n (k + 1) = [f.b] := by unfold gapW; rw [if_pos (by omega), if_neg (by omega)]
theorem wordW_ne {bk : Bk0} (hb : BkOk bk) {f : Fo} {n : Nat} {w : List Nat} (hg : goodW bk w = true) : wordW bk f n w ≠ [] := by
  unfold goodW at hg
  rw [Bool.and_eq_true] at hg
  cases w with
  | nil => simp at hg
  | cons c t =>
    have h2 := hg.2
    rw [List.all_cons, Bool.and_eq_true] at h2
    obtain ⟨r, hr⟩ := Option.isSome_iff_exists.mp h2.1
    have hrl : rowL bk c = r := by unfold rowL; rw [hr]; rfl
    have hne := (rowW_len (f := f) (r := r)).2 (hb.row _ (lkB_mem hr)).1
    unfold wordW
    intro e
    have := congrArg List.length e
    simp only [en, List.map_cons, List.flatten_cons, List.length_append, List.length_nil, sgnG, hrl] at this
    omega
theorem wordsW_ne {bk : Bk0} (hb : BkOk bk) {f : Fo} {ws : List (List Nat)} (hg : ∀ w, w ∈ ws → goodW bk w = true) : decide (wordsW bk f 0 ws ≠ []) = decide (0 < ws.length) := by
  cases ws with
  | nil => simp [wordsW, en]
  | cons w t =>
    have := wordW_ne hb (f := f) (n := 0) (hg w List.mem_cons_self)
    rw [wordsW_cons]
    simp [this]
theorem nd_mapI {α β : Type} {f : α → β} (hf : ∀ a b, f a = f b → a = b) : ∀ {xs : List α}, xs.Nodup → (xs.map f).Nodup
  | [], _ => by simp
  | a :: t, h => by
    rw [List.nodup_cons] at h
    rw [List.map_cons, List.nodup_cons]
    refine ⟨fun hm => ?_, nd_mapI hf h.2⟩
    obtain ⟨b, hb, e⟩ := List.mem_map.mp hm
    exact h.1 (hf b a e ▸ hb)
theorem g_dictN {X : Cx} {E : Env'} {e : Expr} {p pos : Pos} {kvs : List (Key × PyData)} {L : List PyData} (hcalm : X.calm = true) (Bd : Bn X.mg) (nd : (kvs.map (·.1)).Nodup) (hL : L = kvs.map fun kv => .tuple [dKey kv.1, kv.2]) (ha : GE X e E (DD X.K (.list L))) (hg : Gl X "dict" := by rfl) (he : starEach [e] X.env = (false, eval e X.env) :: starEach [] X.env := by rfl) (hpl : (backTo pos (starEach [] X.env)).any (·.1) = false := by rfl) :
    GE X (.Call (.Name "dict" p) [e] [] pos) E (DC X.K kvs) := by
  subst hL
  have g := g_dictP (p := p) hcalm Bd ha hg he hpl
  rw [dputs_nd nd] at g
  exact g
section
variable {P : Program} {w : World} {K : PySem.W.Frag} {mg : Str → Option Value} {base : Heap}
def q_row_weights (K : PySem.W.Frag) (Rs : List RP) (ds : List PyData) : Prop := ∃ (f : Fo) (r : List Nat), r.length ≤ 1000 ∧ (∀ c, c ∈ r → c = 46 ∨ c = 45) ∧ Rs = [DD K (dFo f), DD K (.str (mk r))] ∧ ds = (rowW f r).map .int
abbrev N_row_weights : List Str := ["form", "row", "found", "sign"]
theorem sc_row_weights : FnScope N_row_weights ["form", "row"] (defScope st_row_weights) := ⟨rfl, rfl, rfl, by decide +kernel, rfl, by decide +kernel, by decide +kernel⟩
theorem ok_row_weights {f : Addr} {fd : FuncData} (F : Fun K "row_weights" "row_weights" st_row_weights f fd) (Bn : Bn mg) : FnOk P w K mg base CX0 1 f fd ["form", "row"] (spN K (q_row_weights K)) := by
  refine fn_N F sc_row_weights (fun Rs d h => by obtain ⟨_, _, _, _, rfl, _⟩ := h; rfl) (fun cdv A outer s H F0 E hr Rs ds hq => ?_)
  obtain ⟨fo, r, hr8, hch, rfl, rfl⟩ := hq
  have hu64 : (cxN P w K mg base N_row_weights "row_weights" st_row_weights f cdv A outer s H E).A.units + 64 < cLine := by have := hr.un; omega
  have sz : ∀ n : Nat, n ≤ 2000000 → n < sizeLine := fun n h => Nat.lt_of_le_of_lt h (by decide)
  refine ws_new 2 sc_row_weights.nd rfl (.inl rfl) (n_lst gad_nil) fun l => ?_
  refine ws_forL (xs := r) (enc := encS) (sl := [3]) PassesOwn.never rfl (l_strM (gv 1)) (fun x hx => gt_name 3 DD.mo sc_row_weights.nd rfl (.inl rfl))
    (fun pre E os => (∃ a, E = [some (DD K (dFo fo)), some (DD K (.str (mk r))), some (RR l), a]) ∧ os = [(l, Ls K ((rowW fo pre).map .int))]) ⟨⟨none, rfl⟩, rfl⟩ ?_ ?_
  · rintro pre c post E os hxs ⟨⟨a, rfl⟩, rfl⟩
    have hc := hch c (by rw [hxs]; simp)
    have hpl : pre.length ≤ 1000 := by have := congrArg List.length hxs; rw [List.length_append] at this; omega
    have hrl := (rowW_len (f := fo) (r := pre)).1
    refine ws_ifJ (b := decide (0 < pre.length)) (J := fun E os => E = [some (DD K (dFo fo)), some (DD K (.str (mk r))), some (RR l), some (DD K (encS c))] ∧ os = [(l, Ls K ((rowW fo pre ++ if 0 < pre.length then [fo.w] else []).map .int))]) (Vw.one 2 0) (gb_is (gb_cm (gv 2) (c_neD hu64 (shp_IntL (n := 0)).ok (shp_nil (n := 0)).ok) (n_lst gad_nil).ge) (by
      rw [eqv_nil]
      cases pre with
      | nil => rfl
      | cons x t =>
        have := (rowW_len (f := fo) (r := x :: t)).2 (by simp)
        cases hw : rowW fo (x :: t) with
        | nil => rw [hw] at this; simp at this
        | cons y z => simp)) (fun q => ?_) (fun q => ?_) ?_
    · have q' : 0 < pre.length := by simpa using q
      refine ws_append 0 (gv 2) rfl (g_ixF (d := .int fo.w) (gv 0) g_int rfl) (sz _ (by rw [List.length_map]; omega)) ?_
      refine ws_nil ⟨rfl, ?_⟩
      rw [if_pos q', List.map_append]
      rfl
    · have q' : ¬ 0 < pre.length := by simpa using q
      refine ws_nil ⟨rfl, ?_⟩
      rw [if_neg q', List.append_nil]
    rintro E os ⟨rfl, rfl⟩
    refine ws_append 0 (gv 2) rfl (g_ixF (d := .int (sgW fo c)) (gv 0) (g_intB Bn (g_cm (gv 3) c_eqM (g_s [45]))) (by rcases hc with rfl | rfl <;> rfl)) (sz _ (by rw [List.length_map, List.length_append]; split <;> simp <;> omega)) ?_
    refine ws_nil ⟨⟨_, rfl⟩, ?_⟩
    rw [rowW_snocL, ← List.append_assoc]
    exact congrArg (fun z => [(l, Ls K z)]) (map_snoc PyData.int _ (sgW fo c))
  · rintro E os ⟨⟨a, rfl⟩, rfl⟩
    exact ws_ret (gv 2) ⟨l, fun F v h => h, List.mem_cons_self⟩
def q_weights_of (K : PySem.W.Frag) (Rs : List RP) (d : PyData) : Prop := ∃ (bk : Bk0) (f : Fo) (t : List Nat) (W : List Int), BkOk bk ∧ t.length ≤ 500 ∧ (∀ c, c ∈ t → c < 1114112) ∧ weightsM bk f t = some W ∧ Rs = [DD K (dBk bk), DD K (dFo f), DD K (.str (mk t))] ∧ d = encIs W
abbrev N_weights_of : List Str := ["book", "form", "text", "rows", "found", "word", "rest", "sign", "row"]
theorem sc_weights_of : FnScope N_weights_of ["book", "form", "text"] (defScope st_weights_of) := ⟨rfl, rfl, rfl, by decide +kernel, rfl, by decide +kernel, by decide +kernel⟩
theorem ok_weights_of {f : Addr} {fd : FuncData} (F : Fun K "weights_of" "weights_of" st_weights_of f fd) (Bn : Bn mg) (C_row_weights : FnD P w K mg base 1 "row_weights" ["form", "row"] (spN K (q_row_weights K))) : FnOk P w K mg base CX0 2 f fd ["book", "form", "text"] (spG K (q_weights_of K)) := by
  refine fn_G F sc_weights_of (fun Rs d h => by obtain ⟨_, _, _, _, _, _, _, _, rfl, _⟩ := h; rfl) (fun cdv A outer s H F0 E hr Rs d hq => ?_)
  obtain ⟨bk, fo, t, W, hb, ht, hch, hW, rfl, rfl⟩ := hq
  have hu := hu_of hr
  have hu64 : (cxN P w K mg base N_weights_of "weights_of" st_weights_of f cdv A outer s H E).A.units + 64 < cLine := by have := hr.un; omega
  have sz : ∀ n : Nat, n ≤ 10000000 → n < sizeLine := fun n h => Nat.lt_of_le_of_lt h (by decide)
  obtain ⟨hall, rfl⟩ : (TL.spl [32] 0 [] t).all (goodW bk) = true ∧ wordsW bk fo 0 (TL.spl [32] 0 [] t) = W := by
    unfold weightsM at hW
    simp only at hW
    split at hW
    · rename_i h; exact ⟨h, by simpa using hW⟩
    · cases hW
  obtain ⟨sb1, sb2⟩ := spl_bd t []
  generalize hws : TL.spl [32] 0 [] t = ws at *
  have wl : ∀ x, x ∈ ws → x.length ≤ 500 := fun x hx => by
    have := le_sum (List.mem_map.mpr ⟨x, hx, rfl⟩ : x.length ∈ ws.map (·.length))
    have h0 : ([] : List Nat).length = 0 := rfl
    omega
  refine ws_set 3 sc_weights_of.nd rfl (.inl rfl) (g_dictN (kvs := bk.map encK) rfl Bn (by
    rw [List.map_map]
    have : (bk.map ((fun kv : Key × PyData => kv.1) ∘ encK)) = (bk.map (·.1)).map fun c => (Sum.inr (mk [c]) : Key) := by rw [List.map_map]; rfl
    rw [this]
    exact nd_mapI (fun a b e => by simpa using mk_inj (Sum.inr.inj e)) hb.nd) (by rw [List.map_map]) (gv 0)) ?_
  refine ws_new 4 sc_weights_of.nd rfl (.inl rfl) (n_lst gad_nil) fun l => ?_
  refine ws_forL (xs := ws) (enc := encM) (sl := [5]) PassesOwn.never rfl (l_list (by rw [← hws]; exact (n_split (n := 32) (by decide) (gv 2) (g_s [32]) (Nat.le_of_lt (sz _ (by omega)))).ge)) (fun x hx => gt_name 5 DD.mo sc_weights_of.nd rfl (.inl rfl))
    (fun pre E os => (∃ a b c e, E = [some (DD K (dBk bk)), some (DD K (dFo fo)), some (DD K (.str (mk t))), some (DC K (bk.map encK)), some (RR l), a, b, c, e]) ∧ os = [(l, Ls K ((wordsW bk fo 0 pre).map .int))]) ⟨⟨_, _, _, _, rfl⟩, rfl⟩ ?_ ?_
  · rintro pre wd post E os hxs ⟨⟨a, b, c', e', rfl⟩, rfl⟩
    have hm : wd ∈ ws := by rw [hxs]; simp
    have hgood := List.all_eq_true.mp hall wd hm
    have hgp : ∀ w, w ∈ pre → goodW bk w = true := fun w hw => List.all_eq_true.mp hall w (by rw [hxs]; exact List.mem_append_left _ hw)
    have hwl := wl _ hm
    have hgood2 : ∀ c, c ∈ wd → ∃ r, lkB bk c = some r := fun c hc => by
      have hg := hgood
      unfold goodW at hg
      rw [Bool.and_eq_true, List.all_eq_true] at hg
      exact Option.isSome_iff_exists.mp (hg.2 c hc)
    have hne : wd ≠ [] := fun e => by rw [e] at hgood; simp [goodW] at hgood
    have hpl : pre.length ≤ 501 := by
      have := congrArg List.length hxs
      rw [List.length_append] at this
      have h0 : ([] : List Nat).length = 0 := rfl
      omega
    have hpre : (wordsW bk fo 0 pre).length ≤ 8500 * pre.length := by
      unfold wordsW
      rw [← en_len pre 0]
      refine fl_len fun p hp => ?_
      have h1 := (en_mem hp).1
      have h2 : (wordW bk fo p.1 p.2).length ≤ 17 * (en 0 p.2).length := fl_len fun _ _ => sgnG_len hb
      rw [en_len] at h2
      have := wl p.2 (by rw [hxs]; exact List.mem_append_left _ h1)
      unfold wordG
      omega
    refine ws_newV 6 sc_weights_of.nd rfl (.inl rfl) (Vw.one 4 0) (GEN.is (ds' := (gapW fo pre.length 0).map .int) (n_rep (n_lst (gad_cons (g_ixF (d := .int fo.a) (gv 1) g_int rfl) gad_nil)).ge (g_intB Bn (g_cm (gv 4) (c_neD hu64 (shp_IntL (n := 0)).ok (shp_nil (n := 0)).ok) (n_lst gad_nil).ge)) (by constructor <;> split <;> decide) (by
      split
      · exact Nat.le_of_lt (sz _ (by simp))
      · exact Nat.le_of_lt (sz _ (by simp)))) (by
      have hx := wordsW_ne hb (f := fo) hgp
      rw [eqv_nil, gapW_0]
      have e1 : (!((wordsW bk fo 0 pre).map PyData.int).isEmpty) = decide (0 < pre.length) := by
        rw [← hx]
        cases wordsW bk fo 0 pre <;> simp
      rw [e1]
      by_cases hp : 0 < pre.length
      · rw [if_pos hp]; simp [hp]
      · rw [if_neg hp]; simp [hp])) nk_ints fun lr => ?_
    refine ws_giveAt 1 (Vw.one 6 1) ?_
    refine ws_if (b := false) Vw.refl (gb_is (gb_cm (gv 5) c_eqM (g_s [])) (by simpa using hne)) (fun q => absurd q (by decide)) (fun _ => ws_nil ?_)
    refine ws_forL (xs := wd) (enc := encS) (sl := [7]) PassesOwn.never rfl (l_strM (gv 5)) (fun x hx => gt_name 7 DD.mo sc_weights_of.nd rfl (.inl rfl))
      (fun pre2 E os => (∃ c e, E = [some (DD K (dBk bk)), some (DD K (dFo fo)), some (DD K (.str (mk t))), some (DC K (bk.map encK)), some (RR l), some (DD K (.str (mk wd))), some (DD K (encIs (gapW fo pre.length pre2.length))), c, e]) ∧ os = [(l, Ls K ((wordsW bk fo 0 pre ++ wordW bk fo pre.length pre2).map .int))]) ⟨⟨_, _, rfl⟩, by
        have : wordW bk fo pre.length [] = [] := rfl
        rw [this, List.append_nil]; rfl⟩ ?_ ?_
    · rintro pre2 c post2 E os hxs2 ⟨⟨c2, e2, rfl⟩, rfl⟩
      have hcm : c ∈ wd := by rw [hxs2]; simp
      obtain ⟨r, hr0⟩ := hgood2 c hcm
      have hrow : rowL bk c = r := by unfold rowL; rw [hr0]; rfl
      have hrk := hb.row _ (lkB_mem hr0)
      have hr8 : r.length ≤ 8 := hrk.2.1
      have hp2 : pre2.length ≤ 500 := by have := congrArg List.length hxs2; rw [List.length_append] at this; omega
      have hw2 : (wordW bk fo pre.length pre2).length ≤ 17 * pre2.length := by
        unfold wordW
        have h2 : (((en 0 pre2).map (sgnG bk fo pre.length)).flatten).length ≤ 17 * (en 0 pre2).length := fl_len fun _ _ => sgnG_len hb
        rw [en_len] at h2
        exact h2
      have hgl := gapW_len (f := fo) (n := pre.length) (k := pre2.length)
      have hrw := (rowW_len (f := fo) (r := r)).1
      refine ws_try_thru (J := fun E os => E = [some (DD K (dBk bk)), some (DD K (dFo fo)), some (DD K (.str (mk t))), some (DC K (bk.map encK)), some (RR l), some (DD K (.str (mk wd))), some (DD K (encIs (gapW fo pre.length pre2.length))), some (DD K (encS c)), some (DD K (encM r))] ∧ os = [(l, Ls K ((wordsW bk fo 0 pre ++ wordW bk fo pre.length pre2).map .int))]) ?_ ?_
      · refine ws_set 8 sc_weights_of.nd rfl (.inl rfl) (g_dget hu (gv 3 (mo := DC.mo)) (k := Sum.inr (mk [c])) (gv 7) (by rw [dget_encK, hr0]; rfl)) ?_
        exact ws_nil ⟨rfl, rfl⟩
      rintro E os ⟨rfl, rfl⟩
      have sh : (gapW fo pre.length pre2.length).length ≤ 1 := hgl
      refine ws_extend (ds2 := (gapW fo pre.length pre2.length ++ rowW fo r).map .int) 0 (gv 4) rfl (GEN.is (n_cat (gv 6) (n_callN C_row_weights (hr.mono (by decide)) (ga_cons (gv 1) (ga_cons (gv 8) ga_nil)) ⟨fo, r, by omega, hrk.2.2, rfl, rfl⟩).ge (Nat.le_of_lt (sz _ (by rw [List.length_map, List.length_map]; omega)))) (by rw [List.map_append])).ge (Nat.le_of_lt (sz _ (by rw [List.length_map, List.length_map, List.length_append, List.length_append]; omega))) ?_
      refine ws_set 6 sc_weights_of.nd rfl (.inl rfl) (n_lst (gad_cons (g_ixF (d := .int fo.b) (gv 1) g_int rfl) gad_nil)).ge ?_
      refine ws_nil ⟨⟨some (DD K (encS c)), some (DD K (encM r)), ?_⟩, ?_⟩
      · rw [List.length_append, List.length_singleton, gapW_s]; rfl
      · show [(l, Ls K (_ ++ _))] = _
        rw [wordW_snoc, hrow, ← List.map_append, List.append_assoc]
    rintro E os ⟨⟨c2, e2, rfl⟩, rfl⟩
    refine ws_nil ⟨⟨_, _, _, _, rfl⟩, ?_⟩
    rw [wordsW_snoc]
  rintro E os ⟨⟨a, b, c', e', rfl⟩, rfl⟩
  exact ws_retF (Vw.one 4 0) (os' := []) (fun a h => by
      have e : a = l := by simpa using h
      subst e
      exact ⟨by simp, fun h => nomatch h⟩) (fun p hp => nomatch hp) (by simp) (gv 4) (fun F v h => h)
end
end Z
namespace Z
open PySem PySem.Spec PyProof.Rows L2
variable [Vo]
def RowX (rows : List (List Nat)) (f : Fo) : Nat → List Nat → List Int → List Nat → Prop
  | _, r, [], r' => r' = r
  | n, r, w :: V, r' => ∃ r1, (w, r1) ∈ choicesM rows f n r ∧ RowX rows f (n + 1) r1 V r'
def stP (S : List Int) (h : Fr × Fr) (W : List Int) (r : List Nat) : St4 :=
  match W.length with
  | 0 => ⟨0, r, (0, 1), (0, 1)⟩
  | k + 1 => ⟨k + 1, r, (pathF S h W k).1, (pathF S h W k).2⟩
theorem next_iff {rows : List (List Nat)} {f : Fo} {S : List Int} {h : Fr × Fr} {s : St4} {p : Int × St4} : p ∈ nextM rows f S h s ↔ (p.1, p.2.row) ∈ choicesM rows f s.n s.row ∧ lessM (mostM S h s p.1) (leastM S h s p.1) = false ∧ p.2 = ⟨s.n + 1, p.2.row, leastM S h s p.1, mostM S h s p.1⟩ := by
  obtain ⟨w, q⟩ := p
  unfold nextM
  rw [List.mem_flatten]
  constructor
  · rintro ⟨l, hl, hq⟩
    obtain ⟨c, hc, rfl⟩ := List.mem_map.mp hl
    unfold stepM at hq
    split at hq
    · cases hq
    · rename_i hn
      have e := List.mem_singleton.mp hq
      cases e
      exact ⟨hc, by simpa using hn, rfl⟩
  · rintro ⟨h1, h2, h3⟩
    simp only at h1 h2 h3
    refine ⟨_, List.mem_map.mpr ⟨_, h1, rfl⟩, ?_⟩
    unfold stepM
    rw [if_neg (by simp only; rw [h2]; decide)]
    rw [h3]
    simp
theorem pathF_app {S : List Int} {h : Fr × Fr} {W V : List Int} : ∀ k, k < W.length → pathF S h (W ++ V) k = pathF S h W k
  | 0, hk => by
    have e : (W ++ V).getD 0 1 = W.getD 0 1 := by rw [List.getD_eq_getElem?_getD, List.getD_eq_getElem?_getD, List.getElem?_append_left hk]
    unfold pathF; rw [e]
  | k + 1, hk => by
    have e : (W ++ V).getD (k + 1) 1 = W.getD (k + 1) 1 := by rw [List.getD_eq_getElem?_getD, List.getD_eq_getElem?_getD, List.getElem?_append_left hk]
    unfold pathF; rw [e, pathF_app k (by omega)]
theorem stP_n {S : List Int} {h : Fr × Fr} {W : List Int} {r : List Nat} : (stP S h W r).n = W.length ∧ (stP S h W r).row = r := by
  unfold stP
  split <;> rename_i e <;> exact ⟨e.symm, rfl⟩
theorem stP_step {S : List Int} {h : Fr × Fr} {W : List Int} {r r1 : List Nat} {w : Int} : (⟨(stP S h W r).n + 1, r1, leastM S h (stP S h W r) w, mostM S h (stP S h W r) w⟩ : St4) = stP S h (W ++ [w]) r1 ∧ (pathF S h (W ++ [w]) W.length).1 = leastM S h (stP S h W r) w ∧ (pathF S h (W ++ [w]) W.length).2 = mostM S h (stP S h W r) w := by
  have key : (pathF S h (W ++ [w]) W.length).1 = leastM S h (stP S h W r) w ∧ (pathF S h (W ++ [w]) W.length).2 = mostM S h (stP S h W r) w := by
    unfold stP
    cases hl : W.length with
    | zero =>
      have : W = [] := List.eq_nil_of_length_eq_zero hl
      subst this
      exact ⟨rfl, rfl⟩
    | succ k =>
      have e : (W ++ [w]).getD (k + 1) 1 = w := by rw [← hl]; exact getD_last
      have e3 : pathF S h (W ++ [w]) (k + 1) = (leastM S h ⟨k + 1, [], (pathF S h (W ++ [w]) k).1, (pathF S h (W ++ [w]) k).2⟩ ((W ++ [w]).getD (k + 1) 1), mostM S h ⟨k + 1, [], (pathF S h (W ++ [w]) k).1, (pathF S h (W ++ [w]) k).2⟩ ((W ++ [w]).getD (k + 1) 1)) := rfl
      rw [e3, e, pathF_app k (by omega)]
      exact ⟨rfl, rfl⟩
  refine ⟨?_, key⟩
  have e : (W ++ [w]).length = W.length + 1 := by simp
  have e2 : stP S h (W ++ [w]) r1 = ⟨W.length + 1, r1, (pathF S h (W ++ [w]) W.length).1, (pathF S h (W ++ [w]) W.length).2⟩ := by
    unfold stP
    rw [e]
  rw [e2, key.1, key.2, stP_n.1]
theorem rd_iff {rows : List (List Nat)} {f : Fo} {S : List Int} {h : Fr × Fr} : ∀ (k : Nat) (W : List Int) (r : List Nat) (V : List Int), V ∈ rdF rows f h S k (stP S h W r) ↔ V.length = k ∧ (∃ r', RowX rows f W.length r V r' ∧ (W.length + k) % 2 = 1 ∧ r' ∈ rows) ∧ ∀ i, W.length ≤ i → i < W.length + k → aliveF S h (W ++ V) i
  | 0, W, r, V => by
    unfold rdF
    rw [stP_n.1, stP_n.2]
    constructor
    · intro hV
      split at hV
      · rename_i hc
        have e := List.mem_singleton.mp hV
        subst e
        exact ⟨rfl, ⟨r, rfl, hc.1, hc.2⟩, fun i h1 h2 => by omega⟩
      · cases hV
    · rintro ⟨h1, ⟨r', h2, h3, h4⟩, _⟩
      have e : V = [] := List.eq_nil_of_length_eq_zero h1
      subst e
      have e2 : r' = r := h2
      subst e2
      rw [if_pos ⟨h3, h4⟩]; simp
  | k + 1, W, r, V => by
    unfold rdF
    rw [List.mem_flatMap]
    constructor
    · rintro ⟨p, hp, hV⟩
      obtain ⟨V', hV', rfl⟩ := List.mem_map.mp hV
      obtain ⟨c1, c2, c3⟩ := next_iff.mp hp
      rw [stP_n.1, stP_n.2] at c1
      obtain ⟨s1, s2, s3⟩ := stP_step (S := S) (h := h) (W := W) (r := r) (r1 := p.2.row) (w := p.1)
      rw [c3, s1] at hV'
      obtain ⟨i1, ⟨r', i2, i3, i4⟩, i5⟩ := (rd_iff k (W ++ [p.1]) p.2.row V').mp hV'
      rw [List.length_append, List.length_singleton] at i2 i3 i5
      refine ⟨by rw [List.length_cons, i1], ⟨r', ⟨_, c1, i2⟩, by omega, i4⟩, fun i h1 h2 => ?_⟩
      have e : W ++ p.1 :: V' = (W ++ [p.1]) ++ V' := by simp
      rw [e]
      by_cases hi : i = W.length
      · subst hi
        unfold aliveF
        rw [pathF_app _ (by simp), s2, s3]; exact c2
      · exact i5 i (by omega) (by omega)
    · rintro ⟨h1, ⟨r', h2, h3, h4⟩, h5⟩
      cases V with
      | nil => cases h1
      | cons w V' =>
        obtain ⟨r1, c1, c2⟩ := h2
        obtain ⟨s1, s2, s3⟩ := stP_step (S := S) (h := h) (W := W) (r := r) (r1 := r1) (w := w)
        have e : W ++ w :: V' = (W ++ [w]) ++ V' := by simp
        rw [e] at h5
        have al := h5 W.length (Nat.le_refl _) (by omega)
        unfold aliveF at al
        rw [pathF_app _ (by simp), s2, s3] at al
        refine ⟨(w, stP S h (W ++ [w]) r1), next_iff.mpr ⟨?_, al, ?_⟩, List.mem_map.mpr ⟨V', (rd_iff k (W ++ [w]) r1 V').mpr ⟨by simpa using h1, ⟨r', ?_, ?_, h4⟩, fun i q1 q2 => h5 i ?_ ?_⟩, rfl⟩⟩
        · rw [stP_n.1, stP_n.2, stP_n.2]; exact c1
        · rw [stP_n.2, ← s1]
        · rw [List.length_append, List.length_singleton]; exact c2
        · rw [List.length_append, List.length_singleton]; omega
        · rw [List.length_append, List.length_singleton] at q1; omega
        · rw [List.length_append, List.length_singleton] at q2; omega
theorem mem_read {rows : List (List Nat)} {f : Fo} {S : List Int} {h : Fr × Fr} {W : List Int} : W ∈ readM rows f h S ↔ W.length = S.length ∧ (∃ r, RowX rows f 0 [] W r ∧ S.length % 2 = 1 ∧ r ∈ rows) ∧ ∀ i, i < S.length → aliveF S h W i := by
  have := rd_iff (rows := rows) (f := f) (S := S) (h := h) S.length [] [] W
  unfold readM
  have e : stP S h [] [] = firstM := rfl
  rw [e] at this
  rw [this]
  simp
theorem rowx_snoc {rows : List (List Nat)} {f : Fo} {w : Int} {r' : List Nat} : ∀ (V : List Int) (n : Nat) (r : List Nat), RowX rows f n r (V ++ [w]) r' ↔ ∃ r1, RowX rows f n r V r1 ∧ (w, r') ∈ choicesM rows f (n + V.length) r1
  | [], n, r => by
    constructor
    · rintro ⟨r1, h1, h2⟩
      have e : r' = r1 := h2
      subst e
      exact ⟨r, rfl, h1⟩
    · rintro ⟨r1, h1, h2⟩
      have e : r1 = r := h1
      subst e
      exact ⟨r', h2, rfl⟩
  | v :: V, n, r => by
    constructor
    · rintro ⟨r1, h1, h2⟩
      obtain ⟨r2, h3, h4⟩ := (rowx_snoc V (n + 1) r1).mp h2
      exact ⟨r2, ⟨r1, h1, h3⟩, by rw [List.length_cons, show n + (V.length + 1) = n + 1 + V.length by omega]; exact h4⟩
    · rintro ⟨r2, ⟨r1, h1, h3⟩, h4⟩
      exact ⟨r1, h1, (rowx_snoc V (n + 1) r1).mpr ⟨r2, h3, by rw [List.length_cons] at h4; rw [show n + 1 + V.length = n + (V.length + 1) by omega]; exact h4⟩⟩
theorem rowx_w {rows : List (List Nat)} {f : Fo} (hf : FoOk f) : ∀ (V : List Int) (n : Nat) (r r' : List Nat), RowX rows f n r V r' → ∀ x, x ∈ V → 1 ≤ x ∧ x ≤ 60
  | [], _, _, _, _, x, hx => nomatch hx
  | w :: V, n, r, r', ⟨r1, h1, h2⟩, x, hx => by
    rcases List.mem_cons.mp hx with rfl | hx
    · exact (choices_w hf _ h1).1
    · exact rowx_w hf V (n + 1) r1 r' h2 x hx
theorem rowx_beg {rows : List (List Nat)} {f : Fo} : ∀ (V W : List Int) (r r' : List Nat), (W, r) ∈ begS rows f W.length → RowX rows f W.length r V r' → (W.length + V.length) % 2 = 1 → (W ++ V, r') ∈ begS rows f (W.length + V.length)
  | [], W, r, r', hb, h, _ => by
    have e : r' = r := h
    subst e
    simpa using hb
  | w :: V, W, r, r', hb, ⟨r1, h1, h2⟩, hodd => by
    rw [List.length_cons] at hodd
    have hb1 : (W ++ [w], r1) ∈ begS rows f (W ++ [w]).length := by
      rw [List.length_append, List.length_singleton]
      refine begS_succ.mpr ⟨(W, r), hb, w, rfl, List.mem_filter.mpr ⟨h1, ?_⟩⟩
      unfold keepB
      by_cases hp : (W.length + 1) % 2 = 1
      · simp [hp]
      · cases V with
        | nil => simp at hodd; omega
        | cons v V =>
          obtain ⟨r2, g1, _⟩ := h2
          unfold choicesM at g1
          rw [if_pos (by omega)] at g1
          have hbr := (List.mem_filter.mp g1)
          have e2 : (v, r2) = (f.s, r1 ++ [46]) ∨ (v, r2) = (f.l, r1 ++ [45]) := by simpa using hbr.1
          have hlong : longRow rows r1 = true := by
            have hq := hbr.2
            unfold begRow at hq
            obtain ⟨own, ho, q⟩ := List.any_eq_true.mp hq
            have q' : own.take r2.length = r2 := of_decide_eq_true q
            have hl2 : r2.length = r1.length + 1 := by rcases e2 with e2 | e2 <;> cases e2 <;> simp
            have hpre : r2.take r1.length = r1 := by rcases e2 with e2 | e2 <;> cases e2 <;> simp
            unfold longRow
            refine List.any_eq_true.mpr ⟨own, ho, ?_⟩
            have h3 : own.length ≥ r1.length + 1 := by
              have := congrArg List.length q'
              rw [List.length_take] at this
              omega
            have h4 : own.take r1.length = r1 := by
              have := congrArg (List.take r1.length) q'
              rw [List.take_take, hpre, show min r1.length r2.length = r1.length by omega] at this
              exact this
            simp [h4]; omega
          simp [hlong]
    have := rowx_beg V (W ++ [w]) r1 r' hb1 (by rw [List.length_append, List.length_singleton]; exact h2) (by rw [List.length_append, List.length_singleton]; omega)
    rw [List.length_append, List.length_singleton, List.append_assoc] at this
    rw [List.length_cons, show W.length + (V.length + 1) = W.length + 1 + V.length by omega]
    exact this
def someN (rows : List (List Nat)) (f : Fo) (h : Fr × Fr) (S : List Int) (s : St4) : List (Int × St4) := (nextM rows f S h s).filter fun p => decide (0 < waysM rows f h S p.2)
def numF (rows : List (List Nat)) (f : Fo) (h : Fr × Fr) (S : List Int) : St4 → List Int → Nat → Option Nat
  | _, [], acc => some acc
  | s, own :: r, acc => match (someN rows f h S s).find? (fun p => decide (p.1 = own)) with
    | none => none
    | some p => numF rows f h S p.2 r (acc + (((someN rows f h S s).filter fun q => decide (q.1 < own)).map fun q => waysM rows f h S q.2).sum)
theorem choices_inj {rows : List (List Nat)} {f : Fo} (hf : FoOk f) {n : Nat} {row r r' : List Nat} {w : Int} (h1 : (w, r) ∈ choicesM rows f n row) (h2 : (w, r') ∈ choicesM rows f n row) : r = r' := by
  have b1 := hf.s1; have b2 := hf.sl; have b4 := hf.w1; have b5 := hf.wb; have b6 := hf.ba
  unfold choicesM at h1 h2
  split at h1
  · rename_i hn
    rw [if_pos hn] at h2
    have a1 := (List.mem_filter.mp h1).1
    have a2 := (List.mem_filter.mp h2).1
    have a1 : (w = f.s ∧ r = row ++ [46]) ∨ (w = f.l ∧ r = row ++ [45]) := by simpa using a1
    have a2 : (w = f.s ∧ r' = row ++ [46]) ∨ (w = f.l ∧ r' = row ++ [45]) := by simpa using a2
    rcases a1 with ⟨x1, rfl⟩ | ⟨x1, rfl⟩ <;> rcases a2 with ⟨x2, rfl⟩ | ⟨x2, rfl⟩
    · rfl
    · omega
    · omega
    · rfl
  · rename_i hn
    rw [if_neg hn] at h2
    have key : ∀ z : List Nat, (w, z) ∈ ([(f.w, row)] ++ if row ∈ rows then [(f.b, []), (f.a, [])] else []) → (w = f.w ∧ z = row) ∨ (w = f.b ∧ z = []) ∨ (w = f.a ∧ z = []) := fun z hz => by
      rcases List.mem_append.mp hz with q | q
      · exact .inl (by simpa using q)
      · split at q
        · exact .inr (by simpa using q)
        · cases q
    rcases key r h1 with ⟨x1, y1⟩ | ⟨x1, y1⟩ | ⟨x1, y1⟩ <;> rcases key r' h2 with ⟨x2, y2⟩ | ⟨x2, y2⟩ | ⟨x2, y2⟩ <;> first | (exfalso; omega) | (rw [y1, y2])
section
variable {rows : List (List Nat)} {f : Fo} {h : Fr × Fr} {S : List Int}
theorem next_inj (hf : FoOk f) {s : St4} {p q : Int × St4} (hp : p ∈ nextM rows f S h s) (hq : q ∈ nextM rows f S h s) (e : p.1 = q.1) : p = q := by
  obtain ⟨a1, _, a3⟩ := next_iff.mp hp
  obtain ⟨b1, _, b3⟩ := next_iff.mp hq
  rw [← e] at b1 b3
  have er := choices_inj hf a1 b1
  rw [← er] at b3
  exact Prod.ext e (a3.trans b3.symm)
theorem ways_rd {s : St4} {k : Nat} (hk : s.n + k = S.length) : 0 < waysM rows f h S s ↔ rdF rows f h S k s ≠ [] := by
  have e : waysM rows f h S s = (rdF rows f h S k s).length := by
    rw [rdF_len]; unfold waysM; rw [show S.length - s.n = k by omega]
  rw [e, List.length_pos_iff]
theorem numF_some (hf : FoOk f) : ∀ (V : List Int) (s : St4) (acc : Nat), s.n + V.length = S.length → (V = [] → rdF rows f h S 0 s ≠ []) → ((numF rows f h S s V acc).isSome = true ↔ V ∈ rdF rows f h S V.length s)
  | [], s, acc, hl, hne => by
    have := hne rfl
    unfold rdF at this
    refine ⟨fun _ => ?_, fun _ => rfl⟩
    show [] ∈ rdF rows f h S 0 s
    unfold rdF
    split
    · exact List.mem_singleton_self _
    · rename_i z; rw [if_neg z] at this; exact absurd rfl this
  | own :: r, s, acc, hl, _ => by
    have hl' : s.n + (r.length + 1) = S.length := by simpa using hl
    have hn : ∀ p, p ∈ nextM rows f S h s → p.2.n + r.length = S.length := fun p hp => by
      rw [(next_iff.mp hp).2.2]
      show s.n + 1 + r.length = S.length
      omega
    rw [List.length_cons]
    unfold rdF numF
    constructor
    · intro hs
      cases e : (someN rows f h S s).find? (fun p => decide (p.1 = own)) with
      | none => rw [e] at hs; cases hs
      | some p =>
        rw [e] at hs
        have hp := List.mem_filter.mp (List.mem_of_find?_eq_some e)
        have h1 : p.1 = own := by simpa using List.find?_some e
        have hw : 0 < waysM rows f h S p.2 := by simpa using hp.2
        have hnp := hn p hp.1
        have := (numF_some hf r p.2 _ hnp (fun z => by
          subst z
          exact (ways_rd (k := 0) (by simpa using hnp)).mp hw)).mp hs
        refine List.mem_flatMap.mpr ⟨p, hp.1, List.mem_map.mpr ⟨r, this, by rw [h1]⟩⟩
    · intro hm
      obtain ⟨p, hp, hm⟩ := List.mem_flatMap.mp hm
      obtain ⟨r', hr', e⟩ := List.mem_map.mp hm
      have e1 : p.1 = own := (List.cons.inj e).1
      have e2 : r' = r := (List.cons.inj e).2
      rw [e2] at hr'
      have hnp := hn p hp
      have hw : 0 < waysM rows f h S p.2 := (ways_rd hnp).mpr fun z => by rw [z] at hr'; cases hr'
      have hps : p ∈ someN rows f h S s := List.mem_filter.mpr ⟨hp, by simpa using hw⟩
      cases e : (someN rows f h S s).find? (fun p => decide (p.1 = own)) with
      | none =>
        have := List.find?_eq_none.mp e p hps
        simp [e1] at this
      | some p' =>
        have hp' := List.mem_filter.mp (List.mem_of_find?_eq_some e)
        have h1 : p'.1 = own := by simpa using List.find?_some e
        have epp := next_inj hf hp'.1 hp (h1.trans e1.symm)
        subst epp
        exact (numF_some hf r p'.2 _ hnp (fun z => by
          subst z
          exact (ways_rd (k := 0) (by simpa using hnp)).mp hw)).mpr hr'
theorem num_read (hf : FoOk f) {W : List Int} (hl : W.length = S.length) (h0 : 0 < S.length) : (numF rows f h S firstM W 0).isSome = true ↔ W ∈ readM rows f h S := by
  have := numF_some (rows := rows) (h := h) (S := S) hf W firstM 0 (by rw [hl]; show 0 + _ = _; omega) (fun z => by rw [z] at hl; simp at hl; omega)
  rw [this, hl]
  rfl
theorem find_filter {α : Type} {p : α → Bool} : ∀ {xs : List α}, (xs.filter p)[0]? = xs.find? p
  | [] => rfl
  | a :: t => by
    rw [List.filter_cons, List.find?_cons]
    cases p a with
    | true => rfl
    | false => exact find_filter
end
end Z
namespace Z
open PySem PySem.Spec PyProof.Rows L2
variable [Vo]
section
variable {P : Program} {w : World} {K : PySem.W.Frag} {mg : Str → Option Value} {base : Heap} {C : Addr}
def dON : Option Nat → PyData
  | none => .none
  | some n => .int (n : Nat)
def q_numof (K : PySem.W.Frag) (C : Addr) (Rs : List RP) (d : PyData) : Prop := ∃ (nb kb : Nat) (rows : List (List Nat)) (f : Fo) (h : Fr × Fr) (S : List Int) (c : Addr) (W : List Int), RowsOk rows ∧ NumOk nb kb f h S ∧ S.length ≤ 61 ∧ (domW rows f h S).length ≤ 16777215 ∧ W.length = S.length ∧
  Rs = [InsR C (webF K rows f h S c), DD K (encIs W)] ∧ d = dON (numF rows f h S firstM W 0)
abbrev N_Web_number_of : List Str := ["self", "weights", "stand", "found", "own", "some", "weight", "other"]
theorem sc_Web_number_of : FnScope N_Web_number_of ["self", "weights"] (defScope st_Web_number_of) := ⟨rfl, rfl, rfl, by decide +kernel, rfl, by decide +kernel, by decide +kernel⟩
theorem ok_Web_number_of {f : Addr} {fd : FuncData} (F : Fun K "number_of" "Web.number_of" st_Web_number_of f fd) (Bn : Bn mg) (W : WebC K C) (M_next_stands : MtD P w K mg base 5 C "next_stands" ["self", "stand"] (spG K (q_next K C))) (M_ways_on : MtD P w K mg base 67 C "ways_on" ["self", "stand"] (spG K (q_ways K C 61))) (M_first : MtD P w K mg base 1 C "first" ["self"] (spG K (q_first K C))) :
    FnOk P w K mg base CX0 68 f fd ["self", "weights"] (spG K (q_numof K C)) := by
  refine fn_G F sc_Web_number_of (fun Rs d h => by obtain ⟨_, _, _, _, _, _, _, _, _, _, _, _, _, rfl, _⟩ := h; rfl) (fun cdv A outer s0 H F0 E hr Rs d hq => ?_)
  obtain ⟨nb, kb, rows, fo, h, S, c, W0, ro, no, hS61, hdom, hl0, rfl, rfl⟩ := hq
  have mo := InsR.mo (C := C) (fds := webF K rows fo h S c)
  have hl9 := no.l
  generalize hres : numF rows fo h S firstM W0 0 = res
  have sz : ∀ n : Nat, n ≤ 2000000 → n < sizeLine := fun n h => Nat.lt_of_le_of_lt h (by decide)
  refine ws_set 2 sc_Web_number_of.nd rfl (.inl rfl) (g_is (d' := encSt firstM) (g_methG0 M_first W.cl (hr.mono (by decide)) (gv 0) ⟨_, rfl, rfl⟩) rfl) ?_
  refine ws_set 3 sc_Web_number_of.nd rfl (.inl rfl) (g_is (d' := .int ((0 : Nat) : Int)) g_int rfl) ?_
  refine ws_forL (xs := W0) (enc := fun x => .int x) (sl := [4]) PassesOwn.never rfl (l_list (gv 1)) (fun x hx => gt_name 4 DD.mo sc_Web_number_of.nd rfl (.inr rfl))
    (fun pre E os => (∃ (s : St4) (acc : Nat) (a b e g : Option RP), s ∈ lvlM rows fo h S s.n ∧ s.n = pre.length ∧ numF rows fo h S s (W0.drop pre.length) acc = res ∧
      E = [some (InsR C (webF K rows fo h S c)), some (DD K (encIs W0)), some (DD K (encSt s)), some (DD K (.int (acc : Nat))), a, b, e, g]) ∧ os = []) ⟨⟨firstM, 0, none, none, none, none, List.mem_singleton.mpr rfl, rfl, hres, rfl⟩, rfl⟩ ?_ ?_
  · rintro pre own post E os hxs ⟨⟨s, acc, a, b, e, g, hs, hn, hnum, rfl⟩, rfl⟩
    have hplt : pre.length < S.length := by
      have := congrArg List.length hxs
      rw [List.length_append, List.length_cons] at this
      omega
    obtain ⟨_, so, hrow, _⟩ := lvl_ok no.ff no.bd no.hh no.six (by omega) s.n (by omega) s hs
    have hlt : s.n < S.length := by omega
    have hnx : ∀ p, p ∈ nextM rows fo S h s → p.2.n = s.n + 1 := fun p hp => (next_ok no.ff no.bd no.hh no.six hlt so (by omega) p hp).1
    have hq : ∀ p, p ∈ nextM rows fo S h s → q_ways K C 61 [InsR C (webF K rows fo h S c), DD K (encSt p.2)] (.int (waysM rows fo h S p.2 : Nat)) := fun p hp => ⟨nb, kb, rows, fo, h, S, c, p.2, ro, no, lvl_next hs hp (hnx p hp), by have := hnx p hp; omega, by omega, hdom, rfl, rfl⟩
    have hnl := next_len (rows := rows) (f := fo) (S := S) (h := h) (s := s)
    have hsl : (someN rows fo h S s).length ≤ 3 := Nat.le_trans (List.length_filter_le _ _) hnl
    have hsm : ∀ p, p ∈ someN rows fo h S s → p ∈ nextM rows fo S h s := fun p hp => (List.mem_filter.mp hp).1
    rw [hxs, List.drop_left] at hnum
    unfold numF at hnum
    refine ws_setLc 5 rfl (k_lc1 (xs := nextM rows fo S h s) (enc := encNx) (d := encNx) (b := fun p => decide (0 < waysM rows fo h S p.2)) (own := [("weight", 6), ("other", 7)]) (sl := [6, 7]) rfl sc_Web_number_of.nd (l_list (g_methG M_next_stands W.cl (hr.mono (by decide)) (gv 0) (ga_cons (gv 2) ga_nil) ⟨nb, kb, rows, fo, h, S, c, s, ro, no, so, hlt, rfl, rfl⟩)) (blkOk_by (N := N_Web_number_of) (sc := defScope st_Web_number_of) (by decide +kernel)) (fun _ _ _ _ _ x hx => gt_2 6 7 rfl sc_Web_number_of.nd) (by decide) (fun _ _ _ _ _ x hx => ?_) (fun _ _ _ _ _ x hx _ => ?_) (sz _ (by omega))) ?_
    · exact gb_is (gb_cm (g_methG M_ways_on W.cl (hr.mono (by decide)) (gv 0) (ga_cons (gv 7) ga_nil) (hq x hx)) c_gt g_int) (decide_eq_decide.mpr (by omega))
    · exact gt_tup (gad_cons (gv 6) (gad_cons (gv 7) gad_nil))
    show WS _ _ [some (InsR C (webF K rows fo h S c)), some (DD K (encIs W0)), some (DD K (encSt s)), some (DD K (.int (acc : Nat))), some (DD K (.int own)), some (DD K (.list ((someN rows fo h S s).map encNx))), e, g] _ _
    generalize hsome : someN rows fo h S s = sm at hsl hsm hnum
    refine ws_ifJ (b := !decide (own ∈ sm.map (·.1))) (J := fun E os => own ∈ sm.map (·.1) ∧ E = [some (InsR C (webF K rows fo h S c)), some (DD K (encIs W0)), some (DD K (encSt s)), some (DD K (.int (acc : Nat))), some (DD K (.int own)), some (DD K (.list (sm.map encNx))), e, g] ∧ os = []) Vw.refl (gb_is (gb_cm (gv 4) c_ninL (GEN.ge (GEN.is (ds' := (sm.map (·.1)).map .int) (n_lc0 (xs := sm) (enc := encNx) (d := fun p => .int p.1) (own := [("weight", 6), ("other", 7)]) (sl := [6, 7]) rfl sc_Web_number_of.nd (l_list (gv 5)) (blkOk_by (N := N_Web_number_of) (sc := defScope st_Web_number_of) (by decide +kernel)) (fun _ _ _ _ _ x hx => gt_2 6 7 rfl sc_Web_number_of.nd) (by decide) (fun _ _ _ _ _ x hx => gv 6) (sz _ (by omega))) (by rw [List.map_map]; rfl)))) ?_) (fun z => ?_) (fun z => ws_nil ⟨by simpa using z, rfl, rfl⟩) ?_
    · simp
    · have z' : own ∉ sm.map (·.1) := by simpa using z
      have hf : sm.find? (fun p => decide (p.1 = own)) = none := List.find?_eq_none.mpr fun p hp => by
        have : p.1 ≠ own := fun e => z' (List.mem_map.mpr ⟨p, hp, e⟩)
        simpa using this
      rw [hf] at hnum
      refine ws_ret g_none (fun F v hv => ?_)
      rw [← hnum]
      exact hv
    rintro E os ⟨z, rfl, rfl⟩
    obtain ⟨p, hpf⟩ : ∃ p, sm.find? (fun p => decide (p.1 = own)) = some p := by
      cases ef : sm.find? (fun p => decide (p.1 = own)) with
      | some p => exact ⟨p, rfl⟩
      | none =>
        obtain ⟨p, hp, e1⟩ := List.mem_map.mp z
        have := List.find?_eq_none.mp ef p hp
        simp [e1] at this
    rw [hpf] at hnum
    have hpm := hsm p (List.mem_of_find?_eq_some hpf)
    have hpn := hnx p hpm
    refine ws_augI 3 iop_add sc_Web_number_of.nd rfl (.inl rfl) rfl (g_sum (ns := ((sm.filter fun q => decide (q.1 < own)).map fun q => ((waysM rows fo h S q.2 : Nat) : Int))) rfl Bn (GEN.ge (GEN.is (n_lc1 (xs := sm) (enc := encNx) (d := fun q => .int (waysM rows fo h S q.2 : Nat)) (b := fun q => decide (q.1 < own)) (own := [("weight", 6), ("other", 7)]) (sl := [6, 7]) rfl sc_Web_number_of.nd (l_list (gv 5)) (blkOk_by (N := N_Web_number_of) (sc := defScope st_Web_number_of) (by decide +kernel)) (fun _ _ _ _ _ x hx => gt_2 6 7 rfl sc_Web_number_of.nd) (by decide) (fun _ _ _ _ _ x hx => ?_) (fun _ _ _ _ _ x hx _ => ?_) (sz _ (by omega))) (by rw [List.map_map]; rfl)))) ?_
    · exact gb_cm (gv 6) c_lt (gv 4)
    · exact g_methG M_ways_on W.cl (hr.mono (by decide)) (gv 0) (ga_cons (gv 7) ga_nil) (hq x (hsm x hx))
    have hsum : ((acc : Int) + (((sm.filter fun q => decide (q.1 < own)).map fun q => ((waysM rows fo h S q.2 : Nat) : Int))).sum) = ((acc + (((sm.filter fun q => decide (q.1 < own)).map fun q => waysM rows fo h S q.2)).sum : Nat) : Int) := by
      have : ((sm.filter fun q => decide (q.1 < own)).map fun q => ((waysM rows fo h S q.2 : Nat) : Int)) = (((sm.filter fun q => decide (q.1 < own)).map fun q => waysM rows fo h S q.2)).map fun n => ((n : Nat) : Int) := by rw [List.map_map]; rfl
      rw [this, sum_cast]
      simp
    rw [hsum]
    refine ws_set 2 sc_Web_number_of.nd rfl (.inl rfl) (g_ixL (d := encSt p.2) (ds := (sm.filter fun q => decide (q.1 = own)).map fun q => encSt q.2) (GEN.ge (n_lc1 (xs := sm) (enc := encNx) (d := fun q => encSt q.2) (b := fun q => decide (q.1 = own)) (own := [("weight", 6), ("other", 7)]) (sl := [6, 7]) rfl sc_Web_number_of.nd (l_list (gv 5)) (blkOk_by (N := N_Web_number_of) (sc := defScope st_Web_number_of) (by decide +kernel)) (fun _ _ _ _ _ x hx => gt_2 6 7 rfl sc_Web_number_of.nd) (by decide) (fun _ _ _ _ _ x hx => ?_) (fun _ _ _ _ _ x hx _ => ?_) (sz _ (by omega)))) g_int (at_map (enc := fun q : Int × St4 => encSt q.2) (n := 0) (x := p) (by rw [find_filter]; exact hpf))) ?_
    · exact gb_cm (gv 6) c_eqI (gv 4)
    · exact gv 7
    refine ws_nil ⟨⟨p.2, _, _, _, _, _, lvl_next hs hpm hpn, by rw [List.length_append, List.length_singleton]; omega, ?_, rfl⟩, rfl⟩
    rw [hxs, List.length_append, List.length_singleton, show pre ++ own :: post = (pre ++ [own]) ++ post by simp, ← List.length_singleton (a := own), ← List.length_append, List.drop_left]
    exact hnum
  · rintro E os ⟨⟨s, acc, a, b, e, g, hs, hn, hnum, rfl⟩, rfl⟩
    rw [List.drop_length] at hnum
    refine ws_ret (gv 3) (fun F v hv => ?_)
    rw [← hnum]
    exact hv
theorem rowsOk_of' {bk : Bk0} (hb : BkOk bk) : RowsOk (bk.map (·.2)) := ⟨by rw [List.length_map]; have := hb.len; omega, fun r hr => by
  obtain ⟨p, hp, rfl⟩ := List.mem_map.mp hr
  have := (hb.row p hp).2.1; omega⟩
def q_number_of (K : PySem.W.Frag) (Rs : List RP) (d : PyData) : Prop := ∃ (nb kb : Nat) (bk : Bk0) (f : Fo) (h : Fr × Fr) (S : List Int) (t : List Nat) (W : List Int), BkOk bk ∧ NumOk nb kb f h S ∧ S.length ≤ 61 ∧ (domW (bk.map (·.2)) f h S).length ≤ 16777215 ∧ t.length ≤ 500 ∧ (∀ c, c ∈ t → c < 1114112) ∧ weightsM bk f t = some W ∧
  Rs = [DD K (dBk bk), DD K (dFo f), DD K (dH h), DD K (encIs S), DD K (.str (mk t))] ∧ d = dON (if W.length = S.length then numF (bk.map (·.2)) f h S firstM W 0 else none)
abbrev N_number_of : List Str := ["book", "form", "hand", "stretches", "text", "weights"]
theorem sc_number_of : FnScope N_number_of ["book", "form", "hand", "stretches", "text"] (defScope st_number_of) := ⟨rfl, rfl, rfl, by decide +kernel, rfl, by decide +kernel, by decide +kernel⟩
theorem ok_number_of {f : Addr} {fd : FuncData} (F : Fun K "number_of" "number_of" st_number_of f fd) (Bn : Bn mg) (W : WebC K C) (M_Web : MkD P w K mg base 1 "Web" C ["self", "book", "form", "hand", "stretches"] (q_Web K C)) (C_weights_of : FnD P w K mg base 2 "weights_of" ["book", "form", "text"] (spG K (q_weights_of K)))
    (M_number_of : MtD P w K mg base 68 C "number_of" ["self", "weights"] (spG K (q_numof K C))) : FnOk P w K mg base CX0 69 f fd ["book", "form", "hand", "stretches", "text"] (spG K (q_number_of K)) := by
  refine fn_G F sc_number_of (fun Rs d h => by obtain ⟨_, _, _, _, _, _, _, _, _, _, _, _, _, _, _, rfl, _⟩ := h; rfl) (fun cdv A outer s0 H F0 E hr Rs d hq => ?_)
  obtain ⟨nb, kb, bk, fo, h, S, t, V, hb, no, hS61, hdom, ht, hch, hW, rfl, rfl⟩ := hq
  refine ws_set 5 sc_number_of.nd rfl (.inl rfl) (g_callG C_weights_of (hr.mono (by decide)) (ga_cons (gv 0) (ga_cons (gv 1) (ga_cons (gv 4) ga_nil))) ⟨bk, fo, t, V, hb, ht, hch, hW, rfl, rfl⟩) ?_
  refine ws_if Vw.refl (gb_cm (g_lenL Bn (gv 5)) c_neI (g_lenL Bn (gv 3))) (fun q => ?_) (fun q => ws_nil ?_)
  · have q' : V.length ≠ S.length := by
      have : ¬ ((V.map PyData.int).length : Int) = ((S.map PyData.int).length : Int) := by simpa using q
      rw [List.length_map, List.length_map] at this
      omega
    rw [if_neg q']
    exact ws_ret g_none (fun F v hv => hv)
  · have q' : V.length = S.length := by
      have : ((V.map PyData.int).length : Int) = ((S.map PyData.int).length : Int) := by simpa using q
      rw [List.length_map, List.length_map] at this
      omega
    rw [if_pos q']
    exact ws_ret (g_methE (fds := webF K (bk.map (·.2)) fo h S) M_number_of W.cl (hr.mono (by decide)) (g_make M_Web (hr.mono (by decide)) (ga_cons (gv 0) (ga_cons (gv 1) (ga_cons (gv 2) (ga_cons (gv 3) ga_nil)))) ⟨bk, fo, h, S, by have := hb.len; omega, rfl, rfl⟩ WebR.mo) (ga_cons (gv 5) ga_nil) (fun c => ⟨nb, kb, bk.map (·.2), fo, h, S, c, V, rowsOk_of' hb, no, hS61, hdom, q', rfl, rfl⟩)) (fun F v hv => hv)
end
end Z
namespace Z
open PySem PySem.Spec PyProof.Rows L2
variable [Vo]
section
variable {P : Program} {w : World} {K : PySem.W.Frag} {mg : Str → Option Value} {base : Heap}
abbrev N_power : List Str := ["one", "many", "found", "k"]
end
def grM (x y : Fr) : Fr := if lessM x y then y else x
def fwM (d : Fr) (xs : List Fr) (k : Nat) : List Fr := xs.set k (grM (xs.getD k (0, 1)) (overM (xs.getD (k - 1) (0, 1)) d))
def bwM (d : Fr) (xs : List Fr) (k : Nat) : List Fr := xs.set k (grM (xs.getD k (0, 1)) (overM (xs.getD (k + 1) (0, 1)) d))
def lows0 (S W : List Int) (h : Fr × Fr) : List Fr := (List.range S.length).map (loZ S W h.1)
def lowsF (S W : List Int) (h : Fr × Fr) : List Fr := (List.range' 1 (S.length - 1)).foldl (fwM h.2) (lows0 S W h)
def measM (S W : List Int) (h : Fr × Fr) : List Fr := ((List.range (S.length - 1)).map fun k => S.length - 2 - k).foldl (bwM h.2) (lowsF S W h)
theorem fwM_len {d : Fr} {xs : List Fr} {k : Nat} : (fwM d xs k).length = xs.length := List.length_set
theorem bwM_len {d : Fr} {xs : List Fr} {k : Nat} : (bwM d xs k).length = xs.length := List.length_set
theorem grM_sz {B : Nat} {x y : Fr} (hx : Sz B x) (hy : Sz B y) : Sz B (grM x y) := by unfold grM; split; exact hy; exact hx
section
variable {P : Program} {w : World} {K : PySem.W.Frag} {mg : Str → Option Value} {base : Heap}
theorem ap_abs (i j : Nat) : (if (i : Int) - (j : Int) < 0 then -((i : Int) - (j : Int)) else (i : Int) - (j : Int)) = ((apart i j : Nat) : Int) := by unfold apart; split <;> omega
def inB (n : Nat) (i : Int) : Bool := decide (0 ≤ i) && decide (i < (n : Int))
def barHM (S W : List Int) (h : Fr × Fr) (i j : Int) : Bool := inB S.length i && (inB S.length j && barB S W h i.toNat j.toNat)
def q_bar_holds (K : PySem.W.Frag) (Rs : List RP) (d : PyData) : Prop := ∃ (nb kb : Nat) (S W : List Int) (h : Fr × Fr) (i j : Int), SWok nb S W ∧ HOk' kb h ∧ S.length < 900 ∧ nb + kb * (S.length + 3) ≤ 7900 ∧ Rs = [DD K (encIs S), DD K (encIs W), DD K (dH h), DD K (.tuple [.int i, .int j])] ∧ d = .bool (barHM S W h i j)
abbrev N_bar_holds : List Str := ["stretches", "weights", "hand", "pair", "i", "j", "low", "high"]
theorem zw_at2 {S W : List Int} {i : Nat} (h : i < S.length) (hl : S.length ≤ W.length) : S[i]? = some (zw S W i).1 ∧ W[i]? = some (zw S W i).2 := by
  have := zw_get h hl
  rw [List.getElem?_zip_eq_some] at this
  exact this
def q_bar_of (K : PySem.W.Frag) (Rs : List RP) (d : PyData) : Prop := ∃ (nb kb : Nat) (S W : List Int) (h : Fr × Fr), SWok nb S W ∧ HOk' kb h ∧ S.length < 900 ∧ nb + kb * (S.length + 3) ≤ 7900 ∧ Rs = [DD K (encIs S), DD K (encIs W), DD K (dH h)] ∧ d = dBar (barM S W h)
abbrev N_bar_of : List Str := ["stretches", "weights", "hand", "i", "j"]
end
end Z
namespace Z
open PySem PySem.Spec PyProof.Rows L2
variable [Vo]
def oneM (S W : List Int) (d : Fr) (i j : Nat) : Fr := overM (madeM (S.getD i 1 * W.getD j 1) (S.getD j 1 * W.getD i 1)) (powM d (apart i j))
abbrev LS := Fr × Option (Nat × Nat)
def lsStep (S W : List Int) (d : Fr) (i : Nat) (b : LS) (j : Nat) : LS := if lessM b.1 (oneM S W d i j) then (oneM S W d i j, some (i, j)) else b
def lsRow (S W : List Int) (d : Fr) (b : LS) (i : Nat) : LS := (List.range S.length).foldl (lsStep S W d i) b
def lsAll (S W : List Int) (d : Fr) : LS := (List.range S.length).foldl (lsRow S W d) ((1, 1), none)
def lsM (S W : List Int) (d : Fr) : LS := (madeM ((lsAll S W d).1.1 - (lsAll S W d).1.2) ((lsAll S W d).1.1 + (lsAll S W d).1.2), (lsAll S W d).2)
structure LsOk (S W : List Int) (d : Fr) (B : Nat) (b : LS) : Prop where
  sz : Sz B b.1
  ge : b.1.2 ≤ b.1.1
  rd : Rd b.1
  pr : ∀ i j, b.2 = some (i, j) → i < S.length ∧ j < S.length ∧ b.1 = oneM S W d i j
theorem powM_tp {d : Fr} (h1 : 0 < d.1) (h2 : 0 < d.2) : ∀ k, 0 < (powM d k).1 ∧ 0 < (powM d k).2 ∧ Rd (powM d k)
  | 0 => ⟨(by decide : (0 : Int) < 1), (by decide : (0 : Int) < 1), (⟨by decide, by decide⟩ : Rd ((1, 1) : Fr))⟩
  | k + 1 => by
    obtain ⟨a, b, _⟩ := powM_tp h1 h2 k
    have r := timesM_rd (x := powM d k) (y := d) b h2
    refine ⟨?_, r.p, r⟩
    show 0 < (madeM ((powM d k).1 * d.1) ((powM d k).2 * d.2)).1
    obtain ⟨g1, _⟩ := madeM_mul (a := (powM d k).1 * d.1) (b := (powM d k).2 * d.2)
    have gp := gcd_posR (a := (powM d k).1 * d.1) (b := (powM d k).2 * d.2) (Int.mul_pos b h2)
    have hp := Int.mul_pos a h1
    rw [← g1] at hp
    rcases (by omega : 0 < (madeM ((powM d k).1 * d.1) ((powM d k).2 * d.2)).1 ∨ (madeM ((powM d k).1 * d.1) ((powM d k).2 * d.2)).1 ≤ 0) with q | q
    · exact q
    · have := Int.mul_nonpos_of_nonneg_of_nonpos (by omega : (0 : Int) ≤ ((Int.gcd ((powM d k).1 * d.1) ((powM d k).2 * d.2) : Nat) : Int)) q
      omega
section
variable {S W : List Int} {d : Fr} {nb kb : Nat}
theorem sw_at (ok : SWok nb S W) {i : Nat} (hi : i < S.length) : (1 ≤ S.getD i 1 ∧ S.getD i 1 < 2 ^ nb) ∧ 1 ≤ W.getD i 1 ∧ W.getD i 1 < 2 ^ nb := by
  have h1 : S.getD i 1 ∈ S := by rw [List.getD_eq_getElem?_getD, List.getElem?_eq_getElem hi]; exact List.getElem_mem hi
  have hl := ok.l
  have h2 : W.getD i 1 ∈ W := by rw [List.getD_eq_getElem?_getD, List.getElem?_eq_getElem (by omega)]; exact List.getElem_mem _
  exact ⟨ok.s _ h1, ok.w _ h2⟩
theorem plain_sz (ok : SWok nb S W) {i j : Nat} (hi : i < S.length) (hj : j < S.length) : Sz (nb + nb) (madeM (S.getD i 1 * W.getD j 1) (S.getD j 1 * W.getD i 1)) ∧ 0 < S.getD j 1 * W.getD i 1 ∧ 0 < S.getD i 1 * W.getD j 1 := by
  obtain ⟨a1, a2⟩ := sw_at ok hi
  obtain ⟨b1, b2⟩ := sw_at ok hj
  have p1 : 0 < S.getD j 1 * W.getD i 1 := Int.mul_pos (by omega) (by omega)
  have p2 : 0 < S.getD i 1 * W.getD j 1 := Int.mul_pos (by omega) (by omega)
  have m : ∀ x y : Int, 1 ≤ x → x < 2 ^ nb → 1 ≤ y → y < 2 ^ nb → (x * y).natAbs < 2 ^ (nb + nb) := fun x y h1 h2 h3 h4 => by
    rw [Int.natAbs_mul, Nat.pow_add]
    exact Nat.mul_lt_mul'' (ab_lt (by omega) h2) (ab_lt (by omega) h4)
  exact ⟨madeM_sz (m _ _ a1.1 a1.2 b2.1 b2.2) p1 (m _ _ b1.1 b1.2 a2.1 a2.2), p1, p2⟩
theorem one_ok (ok : SWok nb S W) (hd : Sz kb d) (hd1 : 0 < d.1) {i j : Nat} (hi : i < S.length) (hj : j < S.length) : Sz (nb + nb + (1 + kb * S.length)) (oneM S W d i j) ∧ Rd (oneM S W d i j) ∧ vl (oneM S W d i j) = ((S.getD i 1 * W.getD j 1 : Int) : Rat) / ((S.getD j 1 * W.getD i 1 : Int) : Rat) / vl (powM d (apart i j)) := by
  obtain ⟨p1, p2, p3⟩ := plain_sz ok hi hj
  obtain ⟨q1, q2, _⟩ := powM_tp hd1 hd.p (apart i j)
  have q3 := powM_sz hd (apart i j)
  have ha : apart i j ≤ S.length := by unfold apart; omega
  have hk : kb * apart i j ≤ kb * S.length := Nat.mul_le_mul_left _ ha
  refine ⟨(overM_sz p1 q3 q1).mono (by omega), overM_rd p1.p q1, ?_⟩
  unfold oneM
  rw [vl_over p1.p q2 q1, vl_made p2]
theorem ls_step (ok : SWok nb S W) (hd : Sz kb d) (hd1 : 0 < d.1) {i j : Nat} (hi : i < S.length) (hj : j < S.length) {b : LS} (hb : LsOk S W d (nb + nb + (1 + kb * S.length)) b) : LsOk S W d (nb + nb + (1 + kb * S.length)) (lsStep S W d i b j) ∧ vl b.1 ≤ vl (lsStep S W d i b j).1 ∧ vl (oneM S W d i j) ≤ vl (lsStep S W d i b j).1 := by
  obtain ⟨o1, o2, o3⟩ := one_ok ok hd hd1 hi hj
  unfold lsStep
  by_cases q : lessM b.1 (oneM S W d i j) = true
  · rw [if_pos q]
    have hv := (vl_lt hb.sz.p o2.p).mp q
    refine ⟨⟨o1, ?_, o2, fun i' j' e => ?_⟩, by grind, Rat.le_refl⟩
    · have h1 : vl ((1, 1) : Fr) ≤ vl (oneM S W d i j) := by
        have : vl ((1, 1) : Fr) ≤ vl b.1 := (vl_le hb.sz.p (by decide)).mp (by unfold lessM; have := hb.ge; simp; omega)
        grind
      have := (vl_le o2.p (show (0 : Int) < ((1, 1) : Fr).2 by decide)).mpr h1
      unfold lessM at this
      simp at this
      exact this
    · have e' : (i, j) = (i', j') := by simpa using e
      cases e'
      exact ⟨hi, hj, rfl⟩
  · rw [if_neg q]
    exact ⟨hb, Rat.le_refl, (vl_le hb.sz.p o2.p).mp (by simpa using q)⟩
theorem ls_row (ok : SWok nb S W) (hd : Sz kb d) (hd1 : 0 < d.1) {i : Nat} (hi : i < S.length) : ∀ (js : List Nat) (b : LS), (∀ j, j ∈ js → j < S.length) → LsOk S W d (nb + nb + (1 + kb * S.length)) b → LsOk S W d (nb + nb + (1 + kb * S.length)) (js.foldl (lsStep S W d i) b) ∧ vl b.1 ≤ vl (js.foldl (lsStep S W d i) b).1 ∧ ∀ j, j ∈ js → vl (oneM S W d i j) ≤ vl (js.foldl (lsStep S W d i) b).1
  | [], b, _, hb => ⟨hb, Rat.le_refl, fun _ h => nomatch h⟩
  | j :: r, b, hj, hb => by
    obtain ⟨s1, s2, s3⟩ := ls_step ok hd hd1 hi (hj j List.mem_cons_self) hb
    obtain ⟨r1, r2, r3⟩ := ls_row ok hd hd1 hi r _ (fun x hx => hj x (List.mem_cons_of_mem _ hx)) s1
    refine ⟨r1, Rat.le_trans s2 r2, fun x hx => ?_⟩
    rcases List.mem_cons.mp hx with rfl | q
    · exact Rat.le_trans s3 r2
    · exact r3 x q
theorem ls_rows (ok : SWok nb S W) (hd : Sz kb d) (hd1 : 0 < d.1) : ∀ (is : List Nat) (b : LS), (∀ i, i ∈ is → i < S.length) → LsOk S W d (nb + nb + (1 + kb * S.length)) b → LsOk S W d (nb + nb + (1 + kb * S.length)) (is.foldl (lsRow S W d) b) ∧ vl b.1 ≤ vl (is.foldl (lsRow S W d) b).1 ∧ ∀ i, i ∈ is → ∀ j, j < S.length → vl (oneM S W d i j) ≤ vl (is.foldl (lsRow S W d) b).1
  | [], b, _, hb => ⟨hb, Rat.le_refl, fun _ h => nomatch h⟩
  | i :: r, b, hi, hb => by
    obtain ⟨s1, s2, s3⟩ := ls_row ok hd hd1 (hi i List.mem_cons_self) (List.range S.length) b (fun j hj => List.mem_range.mp hj) hb
    obtain ⟨r1, r2, r3⟩ := ls_rows ok hd hd1 r _ (fun x hx => hi x (List.mem_cons_of_mem _ hx)) s1
    refine ⟨r1, Rat.le_trans s2 r2, fun x hx j hj => ?_⟩
    rcases List.mem_cons.mp hx with rfl | q
    · exact Rat.le_trans (s3 j (List.mem_range.mpr hj)) r2
    · exact r3 x q j hj
theorem ls_0 {B : Nat} (hB : 1 ≤ B) : LsOk S W d B ((1, 1), none) :=
  ⟨(show Sz 1 ((1, 1) : Fr) from ⟨by decide, by decide, by decide⟩).mono hB, by decide, ⟨by decide, by decide⟩, fun _ _ e => by cases e⟩
theorem ls_all (ok : SWok nb S W) (hd : Sz kb d) (hd1 : 0 < d.1) : LsOk S W d (nb + nb + (1 + kb * S.length)) (lsAll S W d) ∧ ∀ i j, i < S.length → j < S.length → vl (oneM S W d i j) ≤ vl (lsAll S W d).1 := by
  obtain ⟨a, _, c⟩ := ls_rows ok hd hd1 (List.range S.length) ((1, 1), none) (fun i hi => List.mem_range.mp hi) (ls_0 (by omega))
  exact ⟨a, fun i j hi hj => c i (List.mem_range.mpr hi) j hj⟩
theorem ls_hand (ok : SWok nb S W) {h : Fr × Fr} (hh : HOk' kb h) : HOk' (nb + nb + (1 + kb * S.length) + 1) ((lsM S W h.2).1, h.2) ∧ kb ≤ nb + nb + (1 + kb * S.length) + 1 ∨ S.length = 0 := by
  rcases Nat.eq_zero_or_pos S.length with z | z
  · exact .inr z
  refine .inl ?_
  have hd1 : 0 < h.2.1 := by have := hh.d1; have := hh.d.p; omega
  obtain ⟨a, _⟩ := ls_all ok hh.d hd1
  have h1 := a.sz.t
  have h2 := a.sz.b
  have h3 := a.sz.p
  have h4 := a.ge
  have hk : kb * 1 ≤ kb * S.length := Nat.mul_le_mul_left _ z
  have hp : 2 ^ (nb + nb + (1 + kb * S.length) + 1) = 2 * 2 ^ (nb + nb + (1 + kb * S.length)) := by rw [Nat.pow_succ, Nat.mul_comm]
  have hkB : kb ≤ nb + nb + (1 + kb * S.length) + 1 := by omega
  unfold lsM
  generalize (lsAll S W h.2).1 = b at *
  generalize nb + nb + (1 + kb * S.length) = B at *
  refine ⟨⟨madeM_sz (by rw [hp]; omega) (by omega) (by rw [hp]; omega), madeM_lt (by omega) (by omega), hh.d.mono hkB, hh.d1, madeM_rd (by omega), hh.dr⟩, hkB⟩
theorem div_le_div' {a b c d : Rat} (hb : 0 < b) (hd : 0 < d) (h : a * d ≤ c * b) : a / b ≤ c / d := by
  rcases (by grind : a / b ≤ c / d ∨ c / d < a / b) with q | q
  · exact q
  · have := (div_lt_iff hd hb).mp q; grind
theorem rat_mul_le {a b c : Rat} (hc : 0 < c) (h : a * c ≤ b * c) : a ≤ b := by
  rcases (by grind : a ≤ b ∨ b < a) with q | q
  · exact q
  · have : 0 < (a - b) * c := Rat.mul_pos (by grind) hc
    grind
theorem ls_nobar (ok : SWok nb S W) {h : Fr × Fr} (hh : HOk' kb h) {kb' : Nat} (hh' : HOk' kb' ((lsM S W h.2).1, h.2)) : barM S W ((lsM S W h.2).1, h.2) = none := by
  have hd1 : 0 < h.2.1 := by have := hh.d1; have := hh.d.p; omega
  obtain ⟨a, mx⟩ := ls_all ok hh.d hd1
  refine barM_none.mpr fun i j hi hj => ?_
  refine (barB_iff ok hh' hi hj).mpr ?_
  have m := mx i j hi hj
  obtain ⟨_, _, ov⟩ := one_ok ok hh.d hd1 hi hj
  have bp := a.sz.p
  have bg := a.ge
  obtain ⟨si, wi⟩ := sw_at ok hi
  obtain ⟨sj, wj⟩ := sw_at ok hj
  obtain ⟨q1, q2, _⟩ := powM_tp hd1 hh.d.p (apart i j)
  have pv := (powM_val hh.d (apart i j)).1
  rw [ov, pv] at m
  have pp : 0 < pw (vl h.2) (apart i j) := by have := pw_ge (drift_ge hh) (apart i j); grind
  obtain ⟨so1, so2⟩ := hh'.so
  have so1 : 0 ≤ (lsM S W h.2).1.1 := so1
  have so2 : (lsM S W h.2).1.1 < (lsM S W h.2).1.2 := so2
  show loR S W ((lsM S W h.2).1, h.2) i ≤ hiR S W ((lsM S W h.2).1, h.2) j * pw (vl h.2) (apart i j)
  unfold loR hiR loZ hiZ loM hiM
  rw [zw_getD hi ok.l, zw_getD hj ok.l]
  simp only
  have e1 : (lsM S W h.2).1 = madeM ((lsAll S W h.2).1.1 - (lsAll S W h.2).1.2) ((lsAll S W h.2).1.1 + (lsAll S W h.2).1.2) := rfl
  obtain ⟨g1, g2⟩ := madeM_mul (a := (lsAll S W h.2).1.1 - (lsAll S W h.2).1.2) (b := (lsAll S W h.2).1.1 + (lsAll S W h.2).1.2)
  have gp := gcd_posR (a := (lsAll S W h.2).1.1 - (lsAll S W h.2).1.2) (b := (lsAll S W h.2).1.1 + (lsAll S W h.2).1.2) (by omega)
  rw [← e1] at g1 g2
  have vb : vl (lsAll S W h.2).1 = ((lsAll S W h.2).1.1 : Rat) / ((lsAll S W h.2).1.2 : Rat) := rfl
  rw [vb] at m
  generalize ((Int.gcd ((lsAll S W h.2).1.1 - (lsAll S W h.2).1.2) ((lsAll S W h.2).1.1 + (lsAll S W h.2).1.2) : Nat) : Int) = g at *
  generalize (lsM S W h.2).1.1 = s1 at *
  generalize (lsM S W h.2).1.2 = s2 at *
  generalize (lsAll S W h.2).1.1 = b1 at *
  generalize (lsAll S W h.2).1.2 = b2 at *
  generalize S.getD i 1 = x at *
  generalize S.getD j 1 = y at *
  generalize W.getD i 1 = u at *
  generalize W.getD j 1 = v at *
  generalize pw (vl h.2) (apart i j) = D at *
  have p1 : 0 < u * (s2 + s1) := Int.mul_pos (by omega) (by omega)
  have p2 : 0 < v * (s2 - s1) := Int.mul_pos (by omega) (by omega)
  rw [vl_made p1, vl_made p2]
  have P1 := cast_pos p1
  have P2 := cast_pos p2
  have N2 := cast_ne p2
  have cx : (1 : Rat) ≤ (x : Rat) := by exact_mod_cast si.1
  have cy : (1 : Rat) ≤ (y : Rat) := by exact_mod_cast sj.1
  have cu : (1 : Rat) ≤ (u : Rat) := by exact_mod_cast wi.1
  have cv : (1 : Rat) ≤ (v : Rat) := by exact_mod_cast wj.1
  have hb2 : (0 : Rat) < (b2 : Rat) := cast_pos bp
  have hg : (0 : Rat) < (g : Rat) := cast_pos gp
  have hs2 : (0 : Rat) < (s2 : Rat) := cast_pos (by omega)
  have G1 : (g : Rat) * (s1 : Rat) = (b1 : Rat) - (b2 : Rat) := by exact_mod_cast g1
  have G2 : (g : Rat) * (s2 : Rat) = (b1 : Rat) + (b2 : Rat) := by exact_mod_cast g2
  have yu : (0 : Rat) < (y : Rat) * (u : Rat) := Rat.mul_pos (by grind) (by grind)
  have hm : (x : Rat) * (v : Rat) * (b2 : Rat) ≤ (b1 : Rat) * ((y : Rat) * (u : Rat) * D) := by
    have yd : 0 < (y : Rat) * (u : Rat) * D := Rat.mul_pos yu pp
    have c1 : ((x * v : Int) : Rat) = (x : Rat) * (v : Rat) := by exact_mod_cast rfl
    have c2 : ((y * u : Int) : Rat) = (y : Rat) * (u : Rat) := by exact_mod_cast rfl
    rw [c1, c2] at m
    have n1 : (y : Rat) * (u : Rat) ≠ 0 := by grind
    have n2 : D ≠ 0 := by grind
    have n3 : (b2 : Rat) ≠ 0 := by grind
    have e3 : (x : Rat) * (v : Rat) / ((y : Rat) * (u : Rat)) / D * ((y : Rat) * (u : Rat) * D) = (x : Rat) * (v : Rat) := by grind
    have e4 : (b1 : Rat) / (b2 : Rat) * (b2 : Rat) = b1 := by grind
    have m2 := mul_le_r (mul_le_r m (show (0 : Rat) ≤ (y : Rat) * (u : Rat) * D by grind)) (show (0 : Rat) ≤ (b2 : Rat) by grind)
    rw [e3] at m2
    have e5 : (b1 : Rat) / (b2 : Rat) * ((y : Rat) * (u : Rat) * D) * (b2 : Rat) = (b1 : Rat) * ((y : Rat) * (u : Rat) * D) := by
      have : (b1 : Rat) / (b2 : Rat) * ((y : Rat) * (u : Rat) * D) * (b2 : Rat) = ((b1 : Rat) / (b2 : Rat) * (b2 : Rat)) * ((y : Rat) * (u : Rat) * D) := by grind
      rw [this, e4]
    rw [e5] at m2
    exact m2
  have er : ((y * s2 : Int) : Rat) / ((v * (s2 - s1) : Int) : Rat) * D = (((y * s2 : Int) : Rat) * D) / ((v * (s2 - s1) : Int) : Rat) := by grind
  rw [er]
  refine div_le_div' P1 P2 ?_
  have c1 : ((x * s2 : Int) : Rat) = (x : Rat) * (s2 : Rat) := by exact_mod_cast rfl
  have c2 : ((v * (s2 - s1) : Int) : Rat) = (v : Rat) * ((s2 : Rat) - (s1 : Rat)) := by exact_mod_cast rfl
  have c3 : ((y * s2 : Int) : Rat) = (y : Rat) * (s2 : Rat) := by exact_mod_cast rfl
  have c4 : ((u * (s2 + s1) : Int) : Rat) = (u : Rat) * ((s2 : Rat) + (s1 : Rat)) := by exact_mod_cast rfl
  rw [c1, c2, c3, c4]
  refine rat_mul_le hg ?_
  have l1 : (x : Rat) * (s2 : Rat) * ((v : Rat) * ((s2 : Rat) - (s1 : Rat))) * (g : Rat) = (x : Rat) * (v : Rat) * (b2 : Rat) * (2 * (s2 : Rat)) := by grind
  have l2 : (y : Rat) * (s2 : Rat) * D * ((u : Rat) * ((s2 : Rat) + (s1 : Rat))) * (g : Rat) = (b1 : Rat) * ((y : Rat) * (u : Rat) * D) * (2 * (s2 : Rat)) := by grind
  rw [l1, l2]
  exact mul_le_r hm (by grind)
end
def sgnOf (bk : Bk0) (row : List Nat) : Option Nat := (bk.find? fun p => decide (p.2 = row)).map (·.1)
structure Tx where
  t : List Nat
  r : List Nat
def txStep (bk : Bk0) (f : Fo) (p : Nat × Int) (s : Tx) : Option Tx :=
  if p.1 % 2 = 0 ∧ p.2 ∈ [f.s, f.l] then some ⟨s.t, s.r ++ [if p.2 = f.s then 46 else 45]⟩
  else if p.1 % 2 = 1 ∧ p.2 ∈ [f.b, f.a] ∧ (sgnOf bk s.r).isSome then some ⟨s.t ++ ([(sgnOf bk s.r).getD 0] ++ (if p.2 = f.a then [32] else [])), []⟩
  else if p.1 % 2 = 0 ∨ p.2 ≠ f.w then none else some s
def txRun (bk : Bk0) (f : Fo) : List (Nat × Int) → Tx → Option Tx
  | [], s => some s
  | p :: r, s => (txStep bk f p s).bind (txRun bk f r)
def textOfM (bk : Bk0) (f : Fo) (W : List Int) : Option (List Nat) :=
  if W.length % 2 = 0 then none else (txRun bk f (en 0 W) ⟨[], []⟩).bind fun s => (sgnOf bk s.r).map fun c => s.t ++ [c]
theorem txRun_app {bk : Bk0} {f : Fo} : ∀ (xs ys : List (Nat × Int)) (s : Tx), txRun bk f (xs ++ ys) s = (txRun bk f xs s).bind (txRun bk f ys)
  | [], _, _ => rfl
  | p :: r, ys, s => by
    show (txStep bk f p s).bind (txRun bk f (r ++ ys)) = ((txStep bk f p s).bind (txRun bk f r)).bind (txRun bk f ys)
    cases txStep bk f p s with
    | none => rfl
    | some s' => exact txRun_app r ys s'
theorem txStep_len {bk : Bk0} {f : Fo} {p : Nat × Int} {s s' : Tx} (h : txStep bk f p s = some s') : s'.t.length ≤ s.t.length + 2 ∧ s'.r.length ≤ s.r.length + 1 := by
  unfold txStep at h
  split at h
  · cases h; simp
  · split at h
    · cases h
      simp only [List.length_append, List.length_singleton]
      constructor
      · split <;> simp
      · simp
    · split at h
      · cases h
      · cases h; omega
abbrev kvP (p : Nat × List Nat) : Key × PyData := (Sum.inr (mk p.2), .str (mk [p.1]))
theorem dput_new {α κ : Type} [DecidableEq κ] {kvs : List (κ × α)} {k : κ} {v : α} (h : k ∉ kvs.map (·.1)) : dput kvs k v = kvs ++ [(k, v)] := by
  unfold dput
  rw [if_neg fun q => h (by
    obtain ⟨p, hp, e⟩ := List.any_eq_true.mp q
    exact List.mem_map.mpr ⟨p, hp, by simpa using e⟩)]
theorem dget_sgn {bk : Bk0} {row : List Nat} : dget (bk.map kvP) (Sum.inr (mk row)) = (sgnOf bk row).map fun c => PyData.str (mk [c]) := by
  unfold dget sgnOf
  induction bk with
  | nil => rfl
  | cons a t ih =>
    rw [List.map_cons]
    by_cases h : a.2 = row
    · rw [List.find?_cons_of_pos (by simp [h]), List.find?_cons_of_pos (by simp [h])]; rfl
    · rw [List.find?_cons_of_neg (by
        simp only [decide_eq_true_eq]
        intro e
        exact h (mk_inj (Sum.inr.inj e))), List.find?_cons_of_neg (by simp [h])]
      exact ih
section
variable {P : Program} {w : World} {K : PySem.W.Frag} {mg : Str → Option Value} {base : Heap}
abbrev dTx : Option (List Nat) → PyData
  | none => .none
  | some t => .str (mk t)
def q_text_of (K : PySem.W.Frag) (Rs : List RP) (d : PyData) : Prop := ∃ (bk : Bk0) (f : Fo) (W : List Int), BkOk bk ∧ W.length ≤ 1000 ∧ Rs = [DD K (dBk bk), DD K (dFo f), DD K (encIs W)] ∧ d = dTx (textOfM bk f W)
abbrev N_text_of : List Str := ["book", "form", "numbers", "signs", "sign", "row", "text", "at", "number"]
theorem sc_text_of : FnScope N_text_of ["book", "form", "numbers"] (defScope st_text_of) := ⟨rfl, rfl, rfl, by decide +kernel, rfl, by decide +kernel, by decide +kernel⟩
theorem ok_text_of {f : Addr} {fd : FuncData} (F : Fun K "text_of" "text_of" st_text_of f fd) (Bn : Bn mg) : FnOk P w K mg base CX0 1 f fd ["book", "form", "numbers"] (spG K (q_text_of K)) := by
  refine fn_G F sc_text_of (fun Rs d h => by obtain ⟨_, _, _, _, _, rfl, _⟩ := h; rfl) (fun cdv A outer s0 H F0 E hr Rs d hq => ?_)
  obtain ⟨bk, fo, W, hb, hW, rfl, rfl⟩ := hq
  have hu := hu_of hr
  have sz : ∀ n : Nat, n ≤ 100000 → n ≤ sizeLine := fun n h => Nat.le_trans h (by decide)
  have hbl := hb.len
  refine ws_newD 3 sc_text_of.nd rfl (.inl rfl) (fun l => ?_)
  refine ws_forL (xs := bk) (enc := encP) (sl := [4, 5]) PassesOwn.never rfl (l_list (gv 0)) (fun x hx => gt_2 4 5 rfl sc_text_of.nd)
    (fun pre E os => (∃ a b, E = [some (DD K (dBk bk)), some (DD K (dFo fo)), some (DD K (encIs W)), some (RR l), a, b, none, none, none]) ∧ os = [(l, Dc K (pre.map kvP))]) ⟨⟨none, none, rfl⟩, rfl⟩ ?_ ?_
  · rintro pre p post E os hxs ⟨⟨a, b, rfl⟩, rfl⟩
    have hpl : pre.length ≤ 36 := by rw [hxs, List.length_append] at hbl; omega
    refine ws_dput 0 hu (gv 3) rfl (k := Sum.inr (mk p.2)) (gv 5) (gv 4) (Nat.lt_of_le_of_lt (show (pre.map kvP).length ≤ 36 by rw [List.length_map]; exact hpl) (by decide)) ?_
    refine ws_nil ⟨⟨_, _, rfl⟩, ?_⟩
    have hnew : (Sum.inr (mk p.2) : Key) ∉ (pre.map kvP).map (·.1) := fun q => by
      rw [List.map_map] at q
      obtain ⟨z, hz, e⟩ := List.mem_map.mp q
      have e' : z.2 = p.2 := mk_inj (Sum.inr.inj e)
      have nd := hb.rnd
      rw [hxs, List.map_append, List.nodup_append] at nd
      exact nd.2.2 z.2 (List.mem_map.mpr ⟨z, hz, rfl⟩) p.2 (by simp) e'
    rw [dput_new hnew, List.map_append]
    rfl
  rintro E os ⟨⟨a, b, rfl⟩, rfl⟩
  refine ws_giveAt 0 (Vw.one 3 0) ?_
  have dm : Mono (DC K (bk.map kvP)) := DC.mo
  unfold textOfM
  refine ws_ifJ (b := decide (W.length % 2 = 0)) (J := fun E os => ¬ W.length % 2 = 0 ∧ E = [some (DD K (dBk bk)), some (DD K (dFo fo)), some (DD K (encIs W)), some (DC K (bk.map kvP)), a, b, none, none, none] ∧ os = []) Vw.refl (gb_is (gb_cm (g_mod (g_lenL Bn (gv 2)) g_int (by decide)) c_eqI g_int) (by rw [List.length_map]; exact decide_eq_decide.mpr (by omega))) (fun q => ?_) (fun q => ws_nil ⟨by simpa using q, rfl, rfl⟩) ?_
  · have q' : W.length % 2 = 0 := by simpa using q
    exact ws_ret g_none (fun F v h => by rw [if_pos q']; exact h)
  rintro E os ⟨hodd, rfl, rfl⟩
  rw [if_neg hodd]
  refine ws_set 6 sc_text_of.nd rfl (.inl rfl) (g_s []) ?_
  refine ws_set 5 sc_text_of.nd rfl (.inl rfl) (g_s []) ?_
  refine ws_forL (xs := en 0 W) (enc := encN PyData.int) (sl := [7, 8]) PassesOwn.never rfl (l_enM Bn (gv 2)) (fun x hx => gt_2 7 8 rfl sc_text_of.nd)
    (fun pre E os => (∃ (s : Tx) (a c d : Option RP), txRun bk fo pre ⟨[], []⟩ = some s ∧ s.t.length ≤ 2 * pre.length ∧ s.r.length ≤ pre.length ∧ E = [some (DD K (dBk bk)), some (DD K (dFo fo)), some (DD K (encIs W)), some (DC K (bk.map kvP)), a, some (DD K (encM s.r)), some (DD K (encM s.t)), c, d]) ∧ os = []) ⟨⟨⟨[], []⟩, a, none, none, rfl, Nat.zero_le _, Nat.zero_le _, rfl⟩, rfl⟩ ?_ ?_
  · rintro pre ⟨n, x⟩ post E os hxs ⟨⟨s, a, c, d, hrun, hst, hsr, rfl⟩, rfl⟩
    have hpl : pre.length ≤ 1000 := by
      have := congrArg List.length hxs
      rw [en_len, List.length_append] at this; omega
    have hfin : txRun bk fo (en 0 W) ⟨[], []⟩ = (txStep bk fo (n, x) s).bind (txRun bk fo post) := by
      rw [hxs, txRun_app, hrun]; rfl
    have hnext : txRun bk fo (pre ++ [(n, x)]) ⟨[], []⟩ = txStep bk fo (n, x) s := by
      rw [txRun_app, hrun]
      show (txStep bk fo (n, x) s).bind (fun s => some s) = _
      cases txStep bk fo (n, x) s <;> rfl
    have gform2 : ∀ {X : Cx} {E : Env'} {e : Expr} {p2 p3 p4 : Pos} {j : Nat}, GE X e E (DD X.K (dFo fo)) → GE X (.Subscript e (.Slice none (some (.Constant (.int 2) j p4)) none p2) p3) E (DD X.K (.tuple ([fo.s, fo.l].map .int))) := fun h => g_is (g_slT h go_none (go_some g_int)) rfl
    have gform3 : ∀ {X : Cx} {E : Env'} {e : Expr} {p2 p3 p4 : Pos} {j : Nat}, GE X e E (DD X.K (dFo fo)) → GE X (.Subscript e (.Slice (some (.Constant (.int 3) j p4)) none none p2) p3) E (DD X.K (.tuple ([fo.b, fo.a].map .int))) := fun h => g_is (g_slT h (go_some g_int) go_none) rfl
    refine ws_if (b := decide (n % 2 = 0) && decide (x ∈ [fo.s, fo.l])) Vw.refl (gb_is (GW.gb (gw_and (gb_cm (g_mod (gv 7) g_int (by decide)) c_eqI g_int) fun _ => gw_and1 (gb_cm (gv 8) c_inT (gform2 (gv 1))))) (by congr 1; exact decide_eq_decide.mpr (by omega))) (fun q => ?_) (fun q => ?_)
    · have q' : n % 2 = 0 ∧ x ∈ [fo.s, fo.l] := by
        rw [Bool.and_eq_true] at q
        exact ⟨of_decide_eq_true q.1, of_decide_eq_true q.2⟩
      have hst2 : txStep bk fo (n, x) s = some ⟨s.t, s.r ++ [if x = fo.s then 46 else 45]⟩ := by unfold txStep; rw [if_pos q']
      have hx5 : x ∈ [fo.s, fo.l, fo.w, fo.b, fo.a] := by
        have := q'.2
        simp at this ⊢
        rcases this with h | h <;> simp [h]
      have hix : L2.atI [46, 45] ((([fo.s, fo.l, fo.w, fo.b, fo.a].idxOf x : Nat)) : Int) = some (if x = fo.s then 46 else 45) := by
        by_cases e : x = fo.s
        · subst e; rw [if_pos rfl, List.idxOf_cons_self]; rfl
        · have e2 : x = fo.l := by
            have := q'.2
            simp at this
            rcases this with h | h
            · exact absurd h e
            · exact h
          subst e2
          have e3 : [fo.s, fo.l, fo.w, fo.b, fo.a].idxOf fo.l = 1 := by
            have : ¬ fo.s = fo.l := fun h => e h.symm
            have h2 : (fo.s == fo.l) = false := by simpa using this
            simp [List.idxOf_cons, h2]
          rw [if_neg e, e3]; rfl
      refine ws_augS 5 sc_text_of.nd rfl (.inl rfl) rfl (g_ixM (g_s [46, 45]) (g_tindexI (ns := [fo.s, fo.l, fo.w, fo.b, fo.a]) (gv 1) (gv 8) hx5) (sz _ (by decide)) hix) (sz _ (by rw [mk_len, mk_len]; simp only [List.length_singleton]; omega)) ?_
      rw [mk_app]
      refine ws_nil (ws_nil ⟨⟨⟨s.t, s.r ++ [if x = fo.s then 46 else 45]⟩, _, _, _, by rw [hnext, hst2], ?_, ?_, rfl⟩, rfl⟩)
      · rw [List.length_append]; simp only; omega
      · rw [List.length_append, List.length_append]; simp only [List.length_singleton]; omega
    · have q1 : ¬ (n % 2 = 0 ∧ x ∈ [fo.s, fo.l]) := fun h => by rw [decide_eq_true h.1, decide_eq_true h.2] at q; cases q
      have hb2 : (decide ((n : Int) % 2 = 1) && (decide (x ∈ [fo.b, fo.a]) && (dget (bk.map kvP) (Sum.inr (mk s.r))).isSome)) = (decide (n % 2 = 1) && (decide (x ∈ [fo.b, fo.a]) && (sgnOf bk s.r).isSome)) := by
        have h1 : decide ((n : Int) % 2 = 1) = decide (n % 2 = 1) := decide_eq_decide.mpr (by omega)
        have h2 : (dget (bk.map kvP) (Sum.inr (mk s.r))).isSome = (sgnOf bk s.r).isSome := by rw [dget_sgn]; cases sgnOf bk s.r <;> rfl
        rw [h1, h2]
      refine ws_if (b := decide (n % 2 = 1) && (decide (x ∈ [fo.b, fo.a]) && (sgnOf bk s.r).isSome)) Vw.refl (gb_is (GW.gb (gw_and (gb_cm (g_mod (gv 7) g_int (by decide)) c_eqI g_int) fun _ => gw_and (gb_cm (gv 8) c_inT (gform3 (gv 1))) fun _ => gw_and1 (gb_din hu (k := Sum.inr (mk s.r)) (gv 5) (gv 3)))) hb2) (fun q2 => ?_) (fun q2 => ?_)
      · have q2' : n % 2 = 1 ∧ x ∈ [fo.b, fo.a] ∧ (sgnOf bk s.r).isSome = true := by
          rw [Bool.and_eq_true, Bool.and_eq_true] at q2
          exact ⟨of_decide_eq_true q2.1, of_decide_eq_true q2.2.1, q2.2.2⟩
        obtain ⟨ch, hch⟩ := Option.isSome_iff_exists.mp q2'.2.2
        have hst2 : txStep bk fo (n, x) s = some ⟨s.t ++ ([ch] ++ (if x = fo.a then [32] else [])), []⟩ := by
          unfold txStep
          rw [if_neg q1, if_pos q2', hch]
          rfl
        have hrep : (List.replicate (if x = fo.a then 1 else 0) [32]).flatten = if x = fo.a then [32] else [] := by split <;> rfl
        have hrl : ((List.replicate (if x = fo.a then 1 else 0) [32]).flatten).length ≤ 1 := by rw [hrep]; split <;> simp
        refine ws_augS 6 sc_text_of.nd rfl (.inl rfl) rfl (g_addS (g_dget hu (k := Sum.inr (mk s.r)) (d := .str (mk [ch])) (gv 3) (gv 5) (by rw [dget_sgn, hch]; rfl)) (g_mulS (n := if x = fo.a then 1 else 0) (g_s [32]) (g_is (g_intB Bn (g_cm (gv 8) c_eqI (g_ixF (i := 4) (d := .int fo.a) (gv 1) g_int rfl))) (by by_cases e : x = fo.a <;> simp [e])) (by split <;> simp) (by split <;> simp)) (sz _ (by simp only [List.length_singleton]; omega))) (sz _ (by rw [mk_len, mk_len, List.length_append]; simp only [List.length_singleton]; omega)) ?_
        rw [mk_app, hrep]
        refine ws_set 5 sc_text_of.nd rfl (.inl rfl) (g_s []) ?_
        refine ws_nil (ws_nil (ws_nil ⟨⟨⟨s.t ++ ([ch] ++ (if x = fo.a then [32] else [])), []⟩, _, _, _, by rw [hnext, hst2], ?_, Nat.zero_le _, rfl⟩, rfl⟩))
        rw [List.length_append, List.length_append, List.length_append]
        simp only [List.length_singleton]
        have : (if x = fo.a then [32] else ([] : List Nat)).length ≤ 1 := by split <;> simp
        omega
      · have q2' : ¬ (n % 2 = 1 ∧ x ∈ [fo.b, fo.a] ∧ (sgnOf bk s.r).isSome = true) := fun h => by rw [decide_eq_true h.1, decide_eq_true h.2.1, h.2.2] at q2; cases q2
        refine ws_if (b := decide (n % 2 = 0) || !decide (x = fo.w)) Vw.refl (gb_is (GW.gb (gw_or (gb_cm (g_mod (gv 7) g_int (by decide)) c_eqI g_int) fun _ => gw_or1 (gb_cm (gv 8) c_neI (g_ixF (i := 2) (d := .int fo.w) (gv 1) g_int rfl)))) (by congr 1; exact decide_eq_decide.mpr (by omega))) (fun q3 => ?_) (fun q3 => ?_)
        · have q3' : n % 2 = 0 ∨ x ≠ fo.w := by simpa using q3
          have hst2 : txStep bk fo (n, x) s = none := by unfold txStep; rw [if_neg q1, if_neg q2', if_pos q3']
          exact ws_ret g_none (fun F v h => by rw [hfin, hst2]; exact h)
        · have q3' : ¬ (n % 2 = 0 ∨ x ≠ fo.w) := fun h => by
            have : (decide (n % 2 = 0) || !decide (x = fo.w)) = true := by
              rcases h with h | h
              · simp [h]
              · simp [h]
            rw [this] at q3; cases q3
          have hst2 : txStep bk fo (n, x) s = some s := by unfold txStep; rw [if_neg q1, if_neg q2', if_neg q3']
          refine ws_nil (ws_nil (ws_nil (ws_nil ⟨⟨s, _, _, _, by rw [hnext, hst2], ?_, ?_, rfl⟩, rfl⟩)))
          · rw [List.length_append]; omega
          · rw [List.length_append]; omega
  · rintro E os ⟨⟨s, a, c, d, hrun, hst, hsr, rfl⟩, rfl⟩
    rw [hrun]
    show WS _ _ _ _ (Rts K (dTx ((sgnOf bk s.r).map fun c => s.t ++ [c])))
    rw [en_len] at hst hsr
    refine ws_ifJ (b := (sgnOf bk s.r).isNone) (J := fun E os => (∃ ch, sgnOf bk s.r = some ch) ∧ E = [some (DD K (dBk bk)), some (DD K (dFo fo)), some (DD K (encIs W)), some (DC K (bk.map kvP)), a, some (DD K (encM s.r)), some (DD K (encM s.t)), c, d] ∧ os = []) Vw.refl (gb_is (gb_dnin hu (k := Sum.inr (mk s.r)) (gv 5) (gv 3)) (by rw [dget_sgn]; cases sgnOf bk s.r <;> rfl)) (fun q => ?_) (fun q => ?_) ?_
    · have q' : sgnOf bk s.r = none := by simpa using q
      exact ws_ret g_none (fun F v h => by rw [q']; exact h)
    · refine ws_nil ⟨?_, rfl, rfl⟩
      cases e : sgnOf bk s.r with
      | none => rw [e] at q; cases q
      | some ch => exact ⟨ch, rfl⟩
    rintro E os ⟨⟨ch, hch⟩, rfl, rfl⟩
    refine ws_ret (g_addS (gv 6) (g_dget hu (k := Sum.inr (mk s.r)) (d := .str (mk [ch])) (gv 3) (gv 5) (by rw [dget_sgn, hch]; rfl)) (sz _ (by simp only [List.length_singleton]; omega))) (fun F v h => by rw [hch]; exact h)
end
end Z
namespace Z
open PySem PySem.Spec PyProof.Rows L2
variable [Vo]
theorem sgnOf_mem {bk : Bk0} {r : List Nat} {c : Nat} (h : sgnOf bk r = some c) : (c, r) ∈ bk := by
  unfold sgnOf at h
  cases e : bk.find? fun p => decide (p.2 = r) with
  | none => rw [e] at h; cases h
  | some p =>
    rw [e] at h
    have h1 : p.1 = c := by simpa using h
    have h2 : p.2 = r := by simpa using List.find?_some e
    have h3 := List.mem_of_find?_eq_some e
    rw [← h1, ← h2]; exact h3
theorem sgnOf_some {bk : Bk0} {r : List Nat} (h : r ∈ bk.map (·.2)) : ∃ c, sgnOf bk r = some c := by
  obtain ⟨p, hp, e⟩ := List.mem_map.mp h
  unfold sgnOf
  cases q : bk.find? fun p => decide (p.2 = r) with
  | none =>
    have := List.find?_eq_none.mp q p hp
    simp [e] at this
  | some z => exact ⟨z.1, rfl⟩
theorem rowW_snoc {f : Fo} {r : List Nat} {c : Nat} : rowW f (r ++ [c]) = rowW f r ++ ((if r = [] then [] else [f.w]) ++ [sgW f c]) := by
  unfold rowW
  rw [en_app, List.map_append, List.flatten_append, Nat.zero_add]
  congr 1
  have : (0 < r.length) = ¬ (r = []) := by
    cases r <;> simp
  simp only [en, List.map_cons, List.map_nil, List.flatten_cons, List.flatten_nil, List.append_nil, rowG]
  congr 1
  by_cases h : r = []
  · subst h; rfl
  · rw [if_pos (by cases r with | nil => exact absurd rfl h | cons _ _ => simp), if_neg h]
theorem itemsW_snoc {f : Fo} {is : List Itm} {i : Itm} (h : is ≠ []) : itemsW f (is ++ [i]) = itemsW f is ++ ((if i.1 then f.a else f.b) :: rowW f i.2.2) := by
  cases is with
  | nil => exact absurd rfl h
  | cons a t =>
    show rowW f a.2.2 ++ (t ++ [i]).flatMap _ = (rowW f a.2.2 ++ t.flatMap _) ++ _
    rw [List.flatMap_append, List.append_assoc]
    simp
structure TxI (bk : Bk0) (f : Fo) (W : List Int) (s : Tx) : Prop where
  ex : ∃ (is : List Itm) (p : Option Bool), (∀ i, i ∈ is → i.2 ∈ bk) ∧ (is = [] ↔ p = none) ∧ (∀ i, is.head? = some i → i.1 = false) ∧ s.t = flatT is ++ (if p = some true then [32] else []) ∧
    W = (match p with | none => [] | some b => itemsW f is ++ [if b then f.a else f.b]) ++ (if s.r = [] then [] else rowW f s.r ++ (if W.length % 2 = 0 then [f.w] else []))
  odd : W.length % 2 = 1 → s.r ≠ []
theorem txi_step {bk : Bk0} {f : Fo} (hf : FoOk f) {W : List Int} {s : Tx} {x : Int} {r1 : List Nat} (h : TxI bk f W s) (hc : (x, r1) ∈ choicesM (bk.map (·.2)) f W.length s.r) : ∃ s', txStep bk f (W.length, x) s = some s' ∧ s'.r = r1 ∧ TxI bk f (W ++ [x]) s' := by
  have b2 := hf.sl; have b5 := hf.wb; have b6 := hf.ba
  obtain ⟨is, p, h1, h2, h3, h4, h5⟩ := h.ex
  have hl : (W ++ [x]).length = W.length + 1 := by simp
  unfold choicesM at hc
  unfold txStep
  by_cases hp : W.length % 2 = 0
  · rw [if_pos hp] at hc
    have hc' := (List.mem_filter.mp hc).1
    have e : (x, r1) = (f.s, s.r ++ [46]) ∨ (x, r1) = (f.l, s.r ++ [45]) := by simpa using hc'
    have hx : x ∈ [f.s, f.l] := by rcases e with e | e <;> cases e <;> simp
    rw [if_pos ⟨hp, hx⟩]
    have hr : r1 = s.r ++ [if x = f.s then 46 else 45] ∧ sgW f (if x = f.s then 46 else 45) = x := by
      rcases e with e | e <;> cases e
      · simp [sgW]
      · have : ¬ f.l = f.s := by omega
        simp [this, sgW]
    refine ⟨_, rfl, hr.1.symm, ⟨⟨is, p, h1, h2, h3, h4, ?_⟩, fun _ => by simp⟩⟩
    rw [hl]
    have hne : s.r ++ [if x = f.s then 46 else 45] ≠ [] := by simp
    simp only
    rw [if_neg hne, if_neg (show ¬ (W.length + 1) % 2 = 0 by omega), rowW_snoc, hr.2, List.append_nil]
    have h5' := h5
    rw [if_pos hp] at h5'
    by_cases hs : s.r = []
    · rw [if_pos hs, List.append_nil] at h5'
      rw [if_pos hs, hs]
      conv => lhs; rw [h5']
      simp [rowW, en]
    · rw [if_neg hs] at h5'
      rw [if_neg hs]
      conv => lhs; rw [h5']
      simp [List.append_assoc]
  · rw [if_neg hp] at hc
    have hodd : W.length % 2 = 1 := by omega
    have hrne := h.odd hodd
    have h5' := h5
    rw [if_neg hrne, if_neg hp, List.append_nil] at h5'
    rw [if_neg (fun q => hp q.1)]
    have hcases : (x, r1) = (f.w, s.r) ∨ (s.r ∈ bk.map (·.2) ∧ ((x, r1) = (f.b, []) ∨ (x, r1) = (f.a, []))) := by
      rcases List.mem_append.mp hc with q | q
      · exact .inl (List.mem_singleton.mp q)
      · split at q
        · rename_i hm
          exact .inr ⟨hm, by simpa using q⟩
        · cases q
    rcases hcases with e | ⟨hm, e⟩
    · cases e
      rw [if_neg (fun q => by
        have : f.w = f.b ∨ f.w = f.a := by simpa using q.2.1
        omega), if_neg (fun q => by
        rcases q with q | q
        · exact hp q
        · exact q rfl)]
      refine ⟨s, rfl, rfl, ⟨⟨is, p, h1, h2, h3, h4, ?_⟩, fun q => hrne⟩⟩
      rw [hl, if_neg hrne, if_pos (show (W.length + 1) % 2 = 0 by omega)]
      conv => lhs; rw [h5']
      simp [List.append_assoc]
    · obtain ⟨c, hcs⟩ := sgnOf_some hm
      have hx : x ∈ [f.b, f.a] := by rcases e with e | e <;> cases e <;> simp
      have hr1 : r1 = [] := by rcases e with e | e <;> cases e <;> rfl
      subst hr1
      rw [if_pos ⟨hodd, hx, by rw [hcs]; rfl⟩, hcs]
      have hxa : (if (decide (x = f.a)) = true then f.a else f.b) = x := by
        rcases e with e | e <;> cases e
        · have : ¬ f.b = f.a := by omega
          simp [this]
        · simp
      refine ⟨_, rfl, rfl, ⟨⟨is ++ [(decide (p = some true), (c, s.r))], some (decide (x = f.a)), ?_, by simp, ?_, ?_, ?_⟩, fun q => by rw [hl] at q; omega⟩⟩
      · intro i hi
        rcases List.mem_append.mp hi with hi | hi
        · exact h1 i hi
        · rw [List.mem_singleton.mp hi]; exact sgnOf_mem hcs
      · intro i hi
        cases is with
        | nil =>
          have hpn := h2.mp rfl
          have : i = (decide (p = some true), (c, s.r)) := by simpa using hi.symm
          rw [this, hpn]; rfl
        | cons a t => exact h3 i (by simpa using hi)
      · rw [h4, flatT_snoc]
        unfold flatI
        by_cases hpt : p = some true <;> by_cases hxa2 : x = f.a <;> simp [hpt, hxa2]
      · simp only [if_true, List.append_nil]
        rw [hxa]
        congr 1
        cases p with
        | none =>
          have hn := h2.mpr rfl
          subst hn
          rw [h5']
          simp [itemsW]
        | some b =>
          have hn : is ≠ [] := fun q => by have := h2.mp q; cases this
          rw [itemsW_snoc hn]
          conv => lhs; rw [h5']
          cases b <;> simp
theorem txi_run {bk : Bk0} {f : Fo} (hf : FoOk f) : ∀ (V W : List Int) (s : Tx) (r' : List Nat), TxI bk f W s → RowX (bk.map (·.2)) f W.length s.r V r' → ∃ s', txRun bk f (en W.length V) s = some s' ∧ s'.r = r' ∧ TxI bk f (W ++ V) s'
  | [], W, s, r', h, hx => by
    have e : r' = s.r := hx
    exact ⟨s, rfl, e.symm, by rw [List.append_nil]; exact h⟩
  | v :: V, W, s, r', h, ⟨r1, c1, c2⟩ => by
    obtain ⟨s1, g1, g2, g3⟩ := txi_step hf h c1
    have := txi_run hf V (W ++ [v]) s1 r' g3 (by rw [List.length_append, List.length_singleton, g2]; exact c2)
    obtain ⟨s', k1, k2, k3⟩ := this
    rw [List.length_append, List.length_singleton] at k1
    refine ⟨s', ?_, k2, by simpa using k3⟩
    show (txStep bk f (W.length, v) s).bind (txRun bk f (en (W.length + 1) V)) = _
    rw [g1]; exact k1
theorem text_of_read {bk : Bk0} (hb : BkOk bk) {f : Fo} (hf : FoOk f) {W : List Int} {r : List Nat} (hx : RowX (bk.map (·.2)) f 0 [] W r) (hodd : W.length % 2 = 1) (hr : r ∈ bk.map (·.2)) :
    ∃ is : List Itm, is ≠ [] ∧ (∀ i, i ∈ is → i.2 ∈ bk) ∧ (∀ i, is.head? = some i → i.1 = false) ∧ textOfM bk f W = some (flatT is) ∧ W = itemsW f is ∧ weightsM bk f (flatT is) = some W := by
  have h0 : TxI bk f [] ⟨[], []⟩ := ⟨⟨[], none, fun i h => (nomatch h), by simp, fun i h => by simp at h, rfl, rfl⟩, fun q => by simp at q⟩
  obtain ⟨s, g1, g2, g3⟩ := txi_run hf W [] ⟨[], []⟩ r h0 hx
  simp only [List.length_nil, List.nil_append] at g1 g3
  obtain ⟨is, p, h1, h2, h3, h4, h5⟩ := g3.ex
  have hne := g3.odd hodd
  rw [if_neg hne, if_neg (by omega), List.append_nil] at h5
  rw [← g2] at hr
  obtain ⟨c, hc⟩ := sgnOf_some hr
  have hmem := sgnOf_mem hc
  have key : W = itemsW f (is ++ [(decide (p = some true), (c, s.r))]) := by
    cases p with
    | none =>
      have hn := h2.mpr rfl
      subst hn
      rw [h5]; simp [itemsW]
    | some b =>
      have hn : is ≠ [] := fun q => by have := h2.mp q; cases this
      rw [itemsW_snoc hn]
      conv => lhs; rw [h5]
      cases b <;> simp
  have hm : ∀ i, i ∈ is ++ [(decide (p = some true), (c, s.r))] → i.2 ∈ bk := fun i hi => by
    rcases List.mem_append.mp hi with hi | hi
    · exact h1 i hi
    · rw [List.mem_singleton.mp hi]; exact hmem
  have hh : ∀ i, (is ++ [(decide (p = some true), (c, s.r))]).head? = some i → i.1 = false := fun i hi => by
    cases is with
    | nil =>
      have hpn := h2.mp rfl
      have : i = (decide (p = some true), (c, s.r)) := by simpa using hi.symm
      rw [this, hpn]; rfl
    | cons a t => exact h3 i (by simpa using hi)
  refine ⟨is ++ [(decide (p = some true), (c, s.r))], by simp, hm, hh, ?_, key, ?_⟩
  · unfold textOfM
    rw [if_neg (by omega), g1]
    show ((sgnOf bk s.r).map fun c => s.t ++ [c]) = _
    rw [hc]
    show some (s.t ++ [c]) = _
    rw [h4, flatT_snoc]
    unfold flatI
    by_cases hpt : p = some true <;> simp [hpt]
  · conv => rhs; rw [key]
    cases e : is ++ [(decide (p = some true), (c, s.r))] with
    | nil => simp at e
    | cons a t =>
      rw [e] at hm hh
      have ha := hh a rfl
      obtain ⟨b, c', r'⟩ := a
      simp only at ha
      subst ha
      exact weightsM_items hb (hm _ List.mem_cons_self) fun i hi => hm i (List.mem_cons_of_mem _ hi)
end Z
namespace Z
open PySem PySem.Spec PyProof.Rows L2
variable [Vo]
theorem mk_toList {l : List Nat} : (mk l).cps.toList = l := by simp [mk]
theorem has_sp (c : Nat) : (mk [32]).cps.contains c = decide (c = 32) := by simp [mk]
theorem take_sp : ∀ (k : Nat) (r : List Nat), (∀ c, r.head? = some c → c ≠ 32) → (List.replicate k 32 ++ r).takeWhile (mk [32]).cps.contains = List.replicate k 32
  | 0, r, hr => by
    cases r with
    | nil => rfl
    | cons c t =>
      have := hr c rfl
      simp only [List.replicate_zero, List.nil_append]
      rw [List.takeWhile_cons, has_sp, if_neg (by simpa using this)]
  | k + 1, r, hr => by
    rw [List.replicate_succ, List.cons_append, List.takeWhile_cons, has_sp, if_pos (by simp), take_sp k r hr]
theorem rstrip_mk {l : List Nat} {k : Nat} {l0 : List Nat} (hl : l = l0 ++ List.replicate k 32) (h0 : ∀ c, l0.getLast? = some c → c ≠ 32) : Txt.rstripChars (mk l) (mk [32]) = mk l0 := by
  have ht : (((mk l).cps.toList.drop 0).reverse.takeWhile (mk [32]).cps.contains).length = k := by
    rw [mk_toList, List.drop_zero, hl, List.reverse_append, List.reverse_replicate]
    rw [take_sp k _ fun c hc => h0 c (by rw [List.head?_reverse] at hc; exact hc), List.length_replicate]
  have hlen : (mk l).length = l0.length + k := by
    show (mk l).cps.size = _
    rw [← Array.length_toList, mk_toList, hl, List.length_append, List.length_replicate]
  unfold Txt.rstripChars Txt.stripBy
  have hlo : stripLo (mk [32]).cps.contains false (mk l) = 0 := rfl
  have hhi : stripHi (mk [32]).cps.contains true (mk l) 0 = l0.length := by
    unfold stripHi
    rw [if_pos rfl, ht, hlen]
    omega
  unfold stripSame stripped
  rw [hlo, hhi]
  split
  · rename_i q
    have : l0.length = (mk l).length := by simpa using q
    have hk : k = 0 := by omega
    rw [hl, hk]; simp
  · have e : (mk l).cps.extract 0 l0.length = l0.toArray := by
      rw [← Array.toList_inj, Array.toList_extract, mk_toList, hl]
      simp
    exact congrArg Str.mk e
theorem nil_or_snoc {α : Type} (l : List α) : l = [] ∨ ∃ t a, l = t ++ [a] := by
  rcases List.eq_nil_or_concat l with e | ⟨t, a, e⟩
  · exact .inl e
  · exact .inr ⟨t, a, by rw [e, List.concat_eq_append]⟩
theorem flatT_last {bk : Bk0} (hb : BkOk bk) {is : List Itm} (h : ∀ i, i ∈ is → i.2 ∈ bk) : ∀ c, (flatT is).getLast? = some c → c ≠ 32 := fun c hc => by
  rcases nil_or_snoc is with e | ⟨t, i, e⟩
  · subst e; cases hc
  · subst e
    rw [flatT_snoc] at hc
    unfold flatI at hc
    rw [← List.append_assoc, List.getLast?_concat] at hc
    have : i.2.1 = c := by simpa using hc
    rw [← this]
    exact hb.sp _ (h i (by simp))
theorem less_text {bk : Bk0} (hb : BkOk bk) {is : List Itm} (h : ∀ i, i ∈ is → i.2 ∈ bk) (hne : is ≠ []) : Txt.rstripChars (mk ((flatT is).take ((flatT is).length - 1))) (mk [32]) = mk (flatT is.dropLast) := by
  rcases nil_or_snoc is with e | ⟨t, i, e⟩
  · exact absurd e hne
  · subst e
    rw [List.dropLast_concat, flatT_snoc]
    have e1 : ((flatT t ++ flatI i).take ((flatT t ++ flatI i).length - 1)) = flatT t ++ (if i.1 then [32] else []) := by
      unfold flatI
      rw [← List.append_assoc, List.length_append, List.length_singleton, Nat.add_sub_cancel, List.take_left]
    rw [e1]
    refine rstrip_mk (k := if i.1 then 1 else 0) (by cases i.1 <;> rfl) (flatT_last hb fun j hj => h j (List.mem_append_left _ hj))
section
variable {rows : List (List Nat)} {f : Fo}
theorem rowx_app : ∀ (V : List Int) (n : Nat) (r : List Nat) (V' : List Int) (r' : List Nat), RowX rows f n r (V ++ V') r' ↔ ∃ r1, RowX rows f n r V r1 ∧ RowX rows f (n + V.length) r1 V' r'
  | [], n, r, V', r' => ⟨fun h => ⟨r, rfl, h⟩, fun ⟨r1, e, h⟩ => by have e : r1 = r := e; subst e; exact h⟩
  | w :: V, n, r, V', r' => by
    have e : n + (w :: V).length = n + 1 + V.length := by rw [List.length_cons]; omega
    rw [e]
    constructor
    · rintro ⟨r1, h1, h2⟩
      obtain ⟨r2, h3, h4⟩ := (rowx_app V (n + 1) r1 V' r').mp h2
      exact ⟨r2, ⟨r1, h1, h3⟩, h4⟩
    · rintro ⟨r2, ⟨r1, h1, h3⟩, h4⟩
      exact ⟨r1, h1, (rowx_app V (n + 1) r1 V' r').mpr ⟨r2, h3, h4⟩⟩
theorem sg_choice {n : Nat} (hn : n % 2 = 0) {p : List Nat} {c : Nat} (hc : c = 46 ∨ c = 45) (hb : begRow rows (p ++ [c]) = true) : (sgW f c, p ++ [c]) ∈ choicesM rows f n p := by
  unfold choicesM
  rw [if_pos hn]
  refine List.mem_filter.mpr ⟨?_, hb⟩
  rcases hc with rfl | rfl <;> simp [sgW]
theorem beg_pre {r p q : List Nat} (hr : r ∈ rows) (e : p ++ q = r) : begRow rows p = true := by
  unfold begRow
  exact List.any_eq_true.mpr ⟨r, hr, by rw [← e]; simp⟩
theorem pre_path {r : List Nat} (hr : r ∈ rows) (hch : ∀ c, c ∈ r → c = 46 ∨ c = 45) : ∀ (m : Nat) (p q : List Nat), p.length = m + 1 → p ++ q = r → ∀ n, n % 2 = 0 → RowX rows f n [] (rowW f p) p ∧ (rowW f p).length + 1 = 2 * p.length
  | m, p, q, hm, e, n, hn => by
    rcases nil_or_snoc p with z | ⟨t, c, z⟩
    · subst z; simp at hm
    subst z
    have hc : c = 46 ∨ c = 45 := hch c (by rw [← e]; simp)
    have hbg := beg_pre hr e
    rw [rowW_snocL]
    cases t with
    | nil =>
      refine ⟨⟨[c], sg_choice (p := []) hn hc hbg, rfl⟩, rfl⟩
    | cons x t =>
      cases m with
      | zero => simp at hm
      | succ m =>
        obtain ⟨h1, h2⟩ := pre_path hr hch m (x :: t) ([c] ++ q) (by simp at hm ⊢; omega) (by rw [← e]; simp) n hn
        have hl : 0 < (x :: t).length := by simp
        rw [if_pos hl]
        have hodd : ¬ (n + (rowW f (x :: t)).length) % 2 = 0 := by omega
        refine ⟨(rowx_app _ _ _ _ _).mpr ⟨x :: t, h1, x :: t, ?_, (x :: t) ++ [c], sg_choice (by omega) hc hbg, rfl⟩, ?_⟩
        · unfold choicesM
          rw [if_neg hodd]
          simp
        · rw [List.length_append, List.length_append, List.length_append]
          simp only [List.length_singleton, List.length_cons, List.length_append] at h2 ⊢
          omega
theorem items_path {bk : Bk0} (hb : BkOk bk) {i : Itm} (hi : i.2 ∈ bk) : ∀ (m : Nat) (r : List Itm), r.length = m → (∀ j, j ∈ r → j.2 ∈ bk) → ∃ r', RowX (bk.map (·.2)) f 0 [] (itemsW f (i :: r)) r' ∧ (itemsW f (i :: r)).length % 2 = 1 ∧ r' ∈ bk.map (·.2)
  | m, r, hm, h => by
    have one : ∀ j : Itm, j.2 ∈ bk → ∀ n, n % 2 = 0 → RowX (bk.map (·.2)) f n [] (rowW f j.2.2) j.2.2 ∧ (rowW f j.2.2).length + 1 = 2 * j.2.2.length ∧ j.2.2 ∈ bk.map (·.2) := fun j hj n hn => by
      have hr := hb.row _ hj
      have hm : j.2.2 ∈ bk.map (·.2) := List.mem_map.mpr ⟨j.2, hj, rfl⟩
      have hl : 0 < j.2.2.length := List.length_pos_iff.mpr hr.1
      obtain ⟨a, b⟩ := pre_path (rows := bk.map (·.2)) (f := f) hm hr.2.2 (j.2.2.length - 1) j.2.2 [] (by omega) (by simp) n hn
      exact ⟨a, b, hm⟩
    rcases nil_or_snoc r with z | ⟨t, j, z⟩
    · subst z
      obtain ⟨a, b, c⟩ := one i hi 0 rfl
      unfold itemsW
      simp only [List.flatMap_nil, List.append_nil]
      exact ⟨_, a, by omega, c⟩
    · subst z
      cases m with
      | zero => simp at hm
      | succ m =>
        obtain ⟨r1, h1, h2, h3⟩ := items_path hb hi m t (by simp at hm; omega) (fun k hk => h k (List.mem_append_left _ hk))
        have e : itemsW f (i :: (t ++ [j])) = itemsW f (i :: t) ++ ((if j.1 then f.a else f.b) :: rowW f j.2.2) := by
          show rowW f i.2.2 ++ List.flatMap _ (t ++ [j]) = (rowW f i.2.2 ++ List.flatMap _ t) ++ _
          rw [List.flatMap_append, List.append_assoc]
          simp
        rw [e]
        obtain ⟨a, b, c⟩ := one j (h j (by simp)) (0 + (itemsW f (i :: t)).length + 1) (by omega)
        refine ⟨j.2.2, (rowx_app _ _ _ _ _).mpr ⟨r1, h1, [], ?_, a⟩, ?_, c⟩
        · unfold choicesM
          rw [if_neg (by omega), if_pos h3]
          cases j.1 <;> simp
        · rw [List.length_append, List.length_cons]
          have := (hb.row _ (h j (by simp))).1
          have hl : 0 < j.2.2.length := List.length_pos_iff.mpr this
          omega
end
end Z
namespace Z
open PySem PySem.Spec PyProof.Rows L2
variable [Vo]
def amongM (L : List Spn) (x : Fr) : Bool := L.any fun s => !lessM x s.1 && !lessM s.2 x
def widM (d : Fr) (L : List Spn) : List Spn := L.map fun s => (timesM s.1 (swF d), timesM s.2 d)
def withinM (L M : List Spn) (d : Fr) : Bool := L.all fun s => amongM (widM d M) s.1 && amongM (widM d M) s.2
theorem among_cov {L : List Spn} (h : ∀ s, s ∈ L → 0 < s.1.2 ∧ 0 < s.2.2) {x : Fr} (hx : 0 < x.2) : amongM L x = true ↔ Cov L (vl x) := by
  unfold amongM Cov
  rw [List.any_eq_true]
  constructor
  · rintro ⟨s, hs, q⟩
    rw [Bool.and_eq_true, Bool.not_eq_true', Bool.not_eq_true'] at q
    exact ⟨s, hs, (vl_le hx (h s hs).1).mp q.1, (vl_le (h s hs).2 hx).mp q.2⟩
  · rintro ⟨s, hs, q1, q2⟩
    refine ⟨s, hs, ?_⟩
    rw [Bool.and_eq_true, Bool.not_eq_true', Bool.not_eq_true']
    exact ⟨(vl_le hx (h s hs).1).mpr q1, (vl_le (h s hs).2 hx).mpr q2⟩
def spansP (rows : List (List Nat)) (f : Fo) (S : List Int) (h : Fr × Fr) (k : Nat) (s : Spn) : Prop := ∃ c, c ∈ begS rows f (k + 1) ∧ (∀ i, i ≤ k → aliveF S h c.1 i) ∧ s = pathF S h c.1 k
theorem pathF_take {S : List Int} {h : Fr × Fr} {W : List Int} {m : Nat} : ∀ k, k < m → pathF (S.take m) h W k = pathF S h W k
  | 0, hk => by
    have e : (S.take m).getD 0 1 = S.getD 0 1 := by rw [List.getD_eq_getElem?_getD, List.getD_eq_getElem?_getD, List.getElem?_take_of_lt hk]
    unfold pathF leastM mostM; simp only; rw [e]
  | k + 1, hk => by
    have e : (S.take m).getD (k + 1) 1 = S.getD (k + 1) 1 := by rw [List.getD_eq_getElem?_getD, List.getD_eq_getElem?_getD, List.getElem?_take_of_lt hk]
    unfold pathF leastM mostM
    simp only
    rw [pathF_take k (by omega), e]
theorem spans_iff {rows : List (List Nat)} {f : Fo} {S : List Int} {h : Fr × Fr} {k : Nat} (hk : k < S.length) {s : Spn} : s ∈ spansM (standsM rows f (S.take (k + 1)) h (S.take (k + 1)).length) ↔ spansP rows f S h k s := by
  have hl : (S.take (k + 1)).length = k + 1 := by rw [List.length_take]; omega
  rw [hl]
  unfold spansM spansP
  rw [List.mem_map]
  constructor
  · rintro ⟨q, hq, rfl⟩
    obtain ⟨c, hc, ha, rfl⟩ := (stands_iff k q).mp (List.mem_filter.mp hq).1
    refine ⟨c, hc, fun i hi => ?_, by rw [pathF_take k (by omega)]⟩
    have := ha i hi
    unfold aliveF at this ⊢
    rwa [pathF_take i (by omega)] at this
  · rintro ⟨c, hc, ha, rfl⟩
    refine ⟨_, List.mem_filter.mpr ⟨(stands_iff k _).mpr ⟨c, hc, fun i hi => ?_, rfl⟩, by simp⟩, ?_⟩
    · have := ha i hi
      unfold aliveF at this ⊢
      rwa [pathF_take i (by omega)]
    · show (_, _) = _
      rw [pathF_take k (by omega)]
section
variable {nb kb : Nat} {rows : List (List Nat)} {f : Fo} {S : List Int} {h : Fr × Fr}
theorem beg_sw (hf : FoOk f) (hS : ∀ x, x ∈ S → 1 ≤ x ∧ x < 2 ^ nb) (h6 : 6 ≤ nb) {k : Nat} (hk : k < S.length) {c : Cand} (hc : c ∈ begS rows f (k + 1)) : SWok nb (S.take (k + 1)) c.1 := by
  have h64 : (64 : Int) ≤ 2 ^ nb := by
    have : (2 : Nat) ^ 6 ≤ 2 ^ nb := Nat.pow_le_pow_right (by decide) h6
    exact_mod_cast this
  refine ⟨fun x hx => hS x (List.mem_of_mem_take hx), fun x hx => ?_, ?_⟩
  · have := begS_w hf _ c hc x hx; omega
  · have := (begS_ok _ c hc).1; rw [List.length_take]; omega
theorem spansP_gd (hf : FoOk f) (hh : HOk' kb h) (hS : ∀ x, x ∈ S → 1 ≤ x ∧ x < 2 ^ nb) (h6 : 6 ≤ nb) {k : Nat} (hk : k < S.length) {s : Spn} (hs : spansP rows f S h k s) : Gd s := by
  obtain ⟨c, hc, ha, rfl⟩ := hs
  have hl : (S.take (k + 1)).length = k + 1 := by rw [List.length_take]; omega
  have v := pathF_val (beg_sw hf hS h6 hk hc) hh k (by omega)
  have e := pathF_take (S := S) (h := h) (W := c.1) (m := k + 1) k (by omega)
  have al := ha k (Nat.le_refl k)
  unfold aliveF at al
  rw [← e] at al ⊢
  exact ⟨v.rl.p, v.rh.p, v.rl, v.rh, (vl_le v.rh.p v.rl.p).mp al⟩
theorem present_cov (hf : FoOk f) (hh : HOk' kb h) (hS : ∀ x, x ∈ S → 1 ≤ x ∧ x < 2 ^ nb) (h6 : 6 ≤ nb) {k : Nat} (hk : k < S.length) : Srt (presentM rows f (S.take (k + 1)) h) ∧ ∀ q, Cov (presentM rows f (S.take (k + 1)) h) q ↔ ∃ s, spansP rows f S h k s ∧ vl s.1 ≤ q ∧ q ≤ vl s.2 := by
  unfold presentM
  obtain ⟨p1, p2⟩ := put_ok (ss := spansM (standsM rows f (S.take (k + 1)) h (S.take (k + 1)).length)) fun s hs => spansP_gd hf hh hS h6 hk ((spans_iff hk).mp hs)
  refine ⟨p1, fun q => ?_⟩
  rw [p2]
  unfold Cov
  constructor
  · rintro ⟨s, hs, a⟩
    exact ⟨s, (spans_iff hk).mp hs, a⟩
  · rintro ⟨s, hs, a⟩
    exact ⟨s, (spans_iff hk).mpr hs, a⟩
theorem step_val {S W : List Int} {h : Fr × Fr} (ok : SWok nb S W) (hh : HOk' kb h) {k : Nat} (hk : k + 1 < S.length) : vl (pathF S h W k).1 / vl h.2 ≤ vl (pathF S h W (k + 1)).1 ∧ vl (pathF S h W (k + 1)).2 ≤ vl (pathF S h W k).2 * vl h.2 := by
  have v := pathF_val ok hh (k + 1) hk
  have v0 := pathF_val ok hh k (by omega)
  rw [v.lo, v.hi, v0.lo, v0.hi]
  constructor
  · show _ ≤ if _ then _ else _
    split <;> grind
  · show (if _ then _ else _) ≤ _
    split <;> grind
theorem clamp {d a b q : Rat} (hd : 1 ≤ d) (h0 : a ≤ b) (h1 : a / d ≤ q) (h2 : q ≤ b * d) (hq : 0 ≤ q) : ∃ p, a ≤ p ∧ p ≤ b ∧ p / d ≤ q ∧ q ≤ p * d := by
  have d0 : 0 < d := by grind
  have e : ∀ x : Rat, x / d * d = x := fun x => by
    have : d ≠ 0 := by grind
    grind
  have up : ∀ x : Rat, 0 ≤ x → x ≤ x * d := fun x hx => by
    have : 0 ≤ x * (d - 1) := Rat.mul_nonneg hx (by grind)
    grind
  have dn : ∀ x : Rat, 0 ≤ x → x / d ≤ x := fun x hx => by
    have h3 : 0 ≤ x / d := by
      rcases (by grind : 0 ≤ x / d ∨ x / d < 0) with q | q
      · exact q
      · have : 0 < (-(x / d)) * d := Rat.mul_pos (by grind) d0
        have := e x
        grind
    have := up (x / d) h3
    rw [e] at this
    exact this
  rcases (by grind : q ≤ a ∨ (a < q ∧ q ≤ b) ∨ b < q) with c | ⟨c1, c2⟩ | c
  · exact ⟨a, Rat.le_refl, h0, h1, by have := up a (by grind); grind⟩
  · exact ⟨q, by grind, c2, dn q hq, up q hq⟩
  · refine ⟨b, h0, Rat.le_refl, ?_, h2⟩
    rcases (by grind : 0 ≤ b ∨ b < 0) with z | z
    · have := dn b z; grind
    · have : 0 < (-b) * d := Rat.mul_pos (by grind) d0
      grind
theorem path_nn {S W : List Int} {h : Fr × Fr} (ok : SWok nb S W) (hh : HOk' kb h) {k : Nat} (hk : k < S.length) : 0 ≤ vl (pathF S h W k).1 := by
  have v := pathF_val ok hh k hk
  rw [v.lo]
  have hp : ∀ i, i < S.length → 0 ≤ loR S W h i := fun i hi => by
    have hz := zw_ok ok hi
    have so := hh.so
    have sp := hh.s.p
    have p1 : 0 < (zw S W i).2 * (h.1.2 + h.1.1) := Int.mul_pos (by omega) (by have := so.1; omega)
    have r := madeM_rd (a := (zw S W i).1 * h.1.2) p1
    unfold loR loZ loM
    refine vl_nn r.p ?_
    unfold madeM
    exact Int.ediv_nonneg (Int.mul_nonneg (by omega) (by omega)) (by omega)
  clear v
  cases k with
  | zero => exact hp 0 hk
  | succ k =>
    have h1 := hp (k + 1) hk
    show 0 ≤ if loR S W h (k + 1) < LK (vl h.2) (loR S W h) k / vl h.2 then LK (vl h.2) (loR S W h) k / vl h.2 else loR S W h (k + 1)
    split
    · grind
    · exact h1
theorem cov_step (hf : FoOk f) (hh : HOk' kb h) (hS : ∀ x, x ∈ S → 1 ≤ x ∧ x < 2 ^ nb) (h6 : 6 ≤ nb) {k : Nat} (hk : k + 1 < S.length) {q : Rat} (hq : Cov (presentM rows f (S.take (k + 2)) h) q) : ∃ p, Cov (presentM rows f (S.take (k + 1)) h) p ∧ p / vl h.2 ≤ q ∧ q ≤ p * vl h.2 := by
  obtain ⟨s, ⟨c, hc, ha, rfl⟩, q1, q2⟩ := ((present_cov hf hh hS h6 (k := k + 1) hk).2 q).mp hq
  obtain ⟨c0, hc0, w, e, _⟩ := begS_succ.mp hc
  have hl0 := (begS_ok _ c0 hc0).1
  have hl : (S.take (k + 2)).length = k + 2 := by rw [List.length_take]; omega
  have ok : SWok nb (S.take (k + 2)) c.1 := beg_sw hf hS h6 hk hc
  have v : PathV (S.take (k + 2)) c.1 h (k + 1) := pathF_val ok hh (k + 1) (by omega)
  have v0 : PathV (S.take (k + 2)) c.1 h k := pathF_val ok hh k (by omega)
  have st := step_val ok hh (k := k) (by omega)
  have nn := path_nn ok hh (k := k + 1) (by omega)
  have t1 := pathF_take (S := S) (h := h) (W := c.1) (m := k + 2) (k + 1) (by omega)
  have t0 := pathF_take (S := S) (h := h) (W := c.1) (m := k + 2) k (by omega)
  have ec : ∀ i, i ≤ k → pathF S h c.1 i = pathF S h c0.1 i := fun i hi => by rw [e]; exact pathF_snoc i (by omega)
  have al0 := ha k (by omega)
  unfold aliveF at al0
  have r1 := v0.rl
  have r2 := v0.rh
  rw [t1, t0] at st
  rw [t1] at nn
  rw [t0] at r1 r2
  have vle0 : vl (pathF S h c.1 k).1 ≤ vl (pathF S h c.1 k).2 := (vl_le r2.p r1.p).mp al0
  obtain ⟨p, p1, p2, p3, p4⟩ := clamp (drift_ge hh) vle0 (Rat.le_trans st.1 q1) (Rat.le_trans q2 st.2) (Rat.le_trans nn q1)
  have hsp : spansP rows f S h k (pathF S h c.1 k) := ⟨c0, hc0, fun i hi => by
    have := ha i (by omega)
    unfold aliveF at this ⊢
    rw [← ec i hi]; exact this, ec k (Nat.le_refl k)⟩
  exact ⟨p, ((present_cov hf hh hS h6 (k := k) (by omega)).2 p).mpr ⟨_, hsp, p1, p2⟩, p3, p4⟩
theorem among_wid {M : List Spn} {d x : Fr} (hd : 0 < d.2) (hd1 : 0 < d.1) (hM : ∀ s, s ∈ M → 0 < s.1.2 ∧ 0 < s.2.2) (hx : 0 < x.2) : amongM (widM d M) x = true ↔ ∃ s, s ∈ M ∧ vl s.1 / vl d ≤ vl x ∧ vl x ≤ vl s.2 * vl d := by
  have hw : ∀ s, s ∈ widM d M → 0 < s.1.2 ∧ 0 < s.2.2 := fun s hs => by
    obtain ⟨t, ht, rfl⟩ := List.mem_map.mp hs
    exact ⟨(timesM_rd (x := t.1) (y := swF d) (hM t ht).1 hd1).p, (timesM_rd (x := t.2) (y := d) (hM t ht).2 hd).p⟩
  have sv : vl (swF d) = 1 / vl d := by
    have n1 := cast_ne hd
    have n2 := cast_ne hd1
    unfold vl swF
    simp only
    grind
  rw [among_cov hw hx]
  unfold Cov widM
  constructor
  · rintro ⟨s, hs, a, b⟩
    obtain ⟨t, ht, rfl⟩ := List.mem_map.mp hs
    rw [vl_times (hM t ht).1 hd1, sv] at a
    rw [vl_times (hM t ht).2 hd] at b
    exact ⟨t, ht, by grind, b⟩
  · rintro ⟨t, ht, a, b⟩
    refine ⟨_, List.mem_map.mpr ⟨t, ht, rfl⟩, ?_, ?_⟩
    · rw [vl_times (hM t ht).1 hd1, sv]; grind
    · rw [vl_times (hM t ht).2 hd]; exact b
theorem srt_pos {L : List Spn} (hL : Srt L) : ∀ s, s ∈ L → 0 < s.1.2 ∧ 0 < s.2.2 := fun s hs => ⟨(hL.gd s hs).l, (hL.gd s hs).h⟩
theorem within_cov {L M : List Spn} {d : Fr} (hL : Srt L) (hM : Srt M) (hd : 0 < d.2) (hd1 : d.2 ≤ d.1) (h : ∀ q, Cov L q → ∃ p, Cov M p ∧ p / vl d ≤ q ∧ q ≤ p * vl d) : withinM L M d = true := by
  unfold withinM
  have d0 : 0 < vl d := by
    have h1 := cast_pos hd
    have h2 := cast_pos (show 0 < d.1 by omega)
    have n1 := cast_ne hd
    unfold vl
    have : (d.1 : Rat) / (d.2 : Rat) * (d.2 : Rat) = d.1 := by grind
    rcases (by grind : 0 < (d.1 : Rat) / (d.2 : Rat) ∨ (d.1 : Rat) / (d.2 : Rat) ≤ 0) with q | q
    · exact q
    · have : 0 ≤ (-((d.1 : Rat) / (d.2 : Rat))) * (d.2 : Rat) := Rat.mul_nonneg (by grind) (by grind)
      grind
  have key : ∀ x : Fr, 0 < x.2 → Cov L (vl x) → amongM (widM d M) x = true := fun x hx hc => by
    obtain ⟨p, ⟨t, ht, t1, t2⟩, p1, p2⟩ := h _ hc
    refine (among_wid hd (by omega) (srt_pos hM) hx).mpr ⟨t, ht, ?_, ?_⟩
    · have hn : vl d ≠ 0 := by grind
      have e1 : vl t.1 / vl d * vl d = vl t.1 := by grind
      have e2 : p / vl d * vl d = p := by grind
      rcases (by grind : vl t.1 / vl d ≤ p / vl d ∨ p / vl d < vl t.1 / vl d) with q | q
      · grind
      · have : 0 < (vl t.1 / vl d - p / vl d) * vl d := Rat.mul_pos (by grind) d0
        grind
    · have : 0 ≤ (vl t.2 - p) * vl d := Rat.mul_nonneg (by grind) (by grind)
      grind
  rw [List.all_eq_true]
  intro s hs
  have g := hL.gd s hs
  rw [Bool.and_eq_true]
  exact ⟨key _ g.l ⟨s, hs, Rat.le_refl, g.le⟩, key _ g.h ⟨s, hs, g.le, Rat.le_refl⟩⟩
theorem within1 (hf : FoOk f) (hh : HOk' kb h) (hS : ∀ x, x ∈ S → 1 ≤ x ∧ x < 2 ^ nb) (h6 : 6 ≤ nb) {k : Nat} (hk : k + 1 < S.length) : withinM (presentM rows f (S.take (k + 2)) h) (presentM rows f (S.take (k + 1)) h) h.2 = true :=
  within_cov (present_cov hf hh hS h6 (k := k + 1) hk).1 (present_cov hf hh hS h6 (k := k) (by omega)).1 hh.d.p hh.d1 fun q hq => cov_step hf hh hS h6 hk hq
theorem LK_mono {d : Rat} (hd : 1 ≤ d) {lo lo' : Nat → Rat} : ∀ k, (∀ i, i ≤ k → lo' i ≤ lo i) → LK d lo' k ≤ LK d lo k
  | 0, h => h 0 (Nat.le_refl 0)
  | k + 1, h => by
    have ih := LK_mono hd k fun i hi => h i (by omega)
    have h1 := h (k + 1) (Nat.le_refl _)
    have : LK d lo' k / d ≤ LK d lo k / d := by
      have hn : d ≠ 0 := by grind
      have e1 : LK d lo' k / d * d = LK d lo' k := by grind
      have e2 : LK d lo k / d * d = LK d lo k := by grind
      rcases (by grind : LK d lo' k / d ≤ LK d lo k / d ∨ LK d lo k / d < LK d lo' k / d) with q | q
      · exact q
      · have : 0 < (LK d lo' k / d - LK d lo k / d) * d := Rat.mul_pos (by grind) (by grind)
        grind
    show (if _ then _ else _) ≤ (if _ then _ else _)
    split <;> split <;> grind
theorem HK_mono {d : Rat} (hd : 1 ≤ d) {hi hi' : Nat → Rat} : ∀ k, (∀ i, i ≤ k → hi i ≤ hi' i) → HK d hi k ≤ HK d hi' k
  | 0, h => h 0 (Nat.le_refl 0)
  | k + 1, h => by
    have ih := HK_mono hd k fun i hi => h i (by omega)
    have h1 := h (k + 1) (Nat.le_refl _)
    have : HK d hi k * d ≤ HK d hi' k * d := mul_le_r ih (by grind)
    show (if _ then _ else _) ≤ (if _ then _ else _)
    split <;> split <;> grind
theorem div_le_div {a b c d : Rat} (hb : 0 < b) (hd : 0 < d) (h : a * d ≤ c * b) : a / b ≤ c / d := by
  rcases (by grind : a / b ≤ c / d ∨ c / d < a / b) with q | q
  · exact q
  · have := (div_lt_iff hd hb).mp q; grind
theorem lo_more {kb' : Nat} {S W : List Int} {h h' : Fr × Fr} (ok : SWok nb S W) (hh : HOk' kb h) (hh' : HOk' kb' h') (hs : h.1.1 * h'.1.2 ≤ h'.1.1 * h.1.2) {i : Nat} (hi : i < S.length) : loR S W h' i ≤ loR S W h i ∧ hiR S W h i ≤ hiR S W h' i := by
  have hz := zw_ok ok hi
  obtain ⟨so1, so2⟩ := hh.so
  have sp := hh.s.p
  obtain ⟨so1', so2'⟩ := hh'.so
  have sp' := hh'.s.p
  unfold loR hiR loZ hiZ loM hiM
  generalize (zw S W i).1 = a at *
  generalize (zw S W i).2 = w at *
  generalize h.1.1 = x at *
  generalize h.1.2 = y at *
  generalize h'.1.1 = x' at *
  generalize h'.1.2 = y' at *
  have p1 : 0 < w * (y + x) := Int.mul_pos (by omega) (by omega)
  have p2 : 0 < w * (y - x) := Int.mul_pos (by omega) (by omega)
  have p1' : 0 < w * (y' + x') := Int.mul_pos (by omega) (by omega)
  have p2' : 0 < w * (y' - x') := Int.mul_pos (by omega) (by omega)
  have aw : 0 ≤ a * w := Int.mul_nonneg (by omega) (by omega)
  have m := Int.mul_le_mul_of_nonneg_left hs aw
  rw [vl_made p1, vl_made p1', vl_made p2, vl_made p2']
  constructor
  · refine div_le_div (cast_pos p1') (cast_pos p1) ?_
    have : a * y' * (w * (y + x)) ≤ a * y * (w * (y' + x')) := by grind
    exact_mod_cast this
  · refine div_le_div (cast_pos p2) (cast_pos p2') ?_
    have : a * y * (w * (y' - x')) ≤ a * y' * (w * (y - x)) := by grind
    exact_mod_cast this
theorem path_more {kb' : Nat} {S W : List Int} {h h' : Fr × Fr} (ok : SWok nb S W) (hh : HOk' kb h) (hh' : HOk' kb' h') (hs : h.1.1 * h'.1.2 ≤ h'.1.1 * h.1.2) (he : h'.2 = h.2) {k : Nat} (hk : k < S.length) : vl (pathF S h' W k).1 ≤ vl (pathF S h W k).1 ∧ vl (pathF S h W k).2 ≤ vl (pathF S h' W k).2 := by
  have v := pathF_val ok hh k hk
  have v' := pathF_val ok hh' k hk
  rw [v.lo, v.hi, v'.lo, v'.hi, he]
  exact ⟨LK_mono (drift_ge hh) k fun i hi => (lo_more ok hh hh' hs (by omega)).1, HK_mono (drift_ge hh) k fun i hi => (lo_more ok hh hh' hs (by omega)).2⟩
theorem cov_more {kb' : Nat} {h' : Fr × Fr} (hf : FoOk f) (hh : HOk' kb h) (hh' : HOk' kb' h') (hs : h.1.1 * h'.1.2 ≤ h'.1.1 * h.1.2) (he : h'.2 = h.2) (hS : ∀ x, x ∈ S → 1 ≤ x ∧ x < 2 ^ nb) (h6 : 6 ≤ nb) {k : Nat} (hk : S.length = k + 1) {q : Rat} (hq : Cov (presentM rows f S h) q) : Cov (presentM rows f S h') q := by
  have et : S.take (k + 1) = S := List.take_of_length_le (by omega)
  have c1 := (present_cov (rows := rows) hf hh hS h6 (k := k) (by omega)).2 q
  have c2 := (present_cov (rows := rows) hf hh' hS h6 (k := k) (by omega)).2 q
  rw [et] at c1 c2
  obtain ⟨s, ⟨c, hc, ha, rfl⟩, q1, q2⟩ := c1.mp hq
  have ok := beg_sw hf hS h6 (k := k) (by omega) hc
  rw [et] at ok
  have pm := fun i (hi : i ≤ k) => path_more ok hh hh' hs he (k := i) (by omega)
  refine c2.mpr ⟨_, ⟨c, hc, fun i hi => ?_, rfl⟩, Rat.le_trans (pm k (Nat.le_refl k)).1 q1, Rat.le_trans q2 (pm k (Nat.le_refl k)).2⟩
  have a := ha i hi
  unfold aliveF at a ⊢
  have v := pathF_val ok hh i (by omega)
  have v' := pathF_val ok hh' i (by omega)
  have a' := (vl_le v.rh.p v.rl.p).mp a
  refine (vl_le v'.rh.p v'.rl.p).mpr ?_
  have := pm i hi
  grind
theorem within2 {kb' : Nat} {h' : Fr × Fr} (hf : FoOk f) (hh : HOk' kb h) (hh' : HOk' kb' h') (hs : h.1.1 * h'.1.2 ≤ h'.1.1 * h.1.2) (he : h'.2 = h.2) (hS : ∀ x, x ∈ S → 1 ≤ x ∧ x < 2 ^ nb) (h6 : 6 ≤ nb) {k : Nat} (hk : S.length = k + 1) : withinM (presentM rows f S h) (presentM rows f S h') (1, 1) = true := by
  have et : S.take (k + 1) = S := List.take_of_length_le (by omega)
  have c1 := (present_cov (rows := rows) hf hh hS h6 (k := k) (by omega)).1
  have c2 := (present_cov (rows := rows) hf hh' hS h6 (k := k) (by omega)).1
  rw [et] at c1 c2
  refine within_cov c1 c2 (by decide) (by decide) fun q hq => ⟨q, cov_more hf hh hh' hs he hS h6 hk hq, ?_, ?_⟩
  all_goals (have e : vl ((1, 1) : Fr) = 1 := by unfold vl; grind); rw [e]; grind
theorem pathF_low {S W : List Int} {h : Fr × Fr} (hl : S.length ≤ W.length) {k : Nat} (hk : k < S.length) : (pathF S h W k).1 = if k = 0 then loZ S W h.1 k else grM (loZ S W h.1 k) (overM (pathF S h W (k - 1)).1 h.2) := by
  cases k with
  | zero => unfold pathF leastM loZ; rw [zw_getD hk hl]; simp
  | succ k =>
    rw [if_neg (by omega)]
    rw [pathF]; unfold leastM loZ grM; rw [zw_getD hk hl]; simp
theorem getD_set {xs : List Fr} {i j : Nat} {x : Fr} : (xs.set i x).getD j (0, 1) = if i = j ∧ j < xs.length then x else xs.getD j (0, 1) := by
  rw [List.getD_eq_getElem?_getD, List.getD_eq_getElem?_getD, List.getElem?_set]
  by_cases h : i = j
  · subst h
    by_cases hl : i < xs.length
    · rw [if_pos rfl, if_pos hl, if_pos ⟨rfl, hl⟩]; rfl
    · rw [if_pos rfl, if_neg hl, if_neg fun z => hl z.2, List.getElem?_eq_none (by omega)]
  · rw [if_neg h, if_neg fun z => h z.1]
theorem fw_inv {S W : List Int} {h : Fr × Fr} (hl : S.length ≤ W.length) : ∀ m, m < S.length → ((List.range' 1 m).foldl (fwM h.2) (lows0 S W h)).length = S.length ∧ ∀ j, j < S.length → ((List.range' 1 m).foldl (fwM h.2) (lows0 S W h)).getD j (0, 1) = if j ≤ m then (pathF S h W j).1 else loZ S W h.1 j
  | 0, hm => by
    refine ⟨by simp [lows0], fun j hj => ?_⟩
    have e : (lows0 S W h).getD j (0, 1) = loZ S W h.1 j := by
      unfold lows0
      rw [List.getD_eq_getElem?_getD, List.getElem?_map, List.getElem?_range hj]; rfl
    show (lows0 S W h).getD j (0, 1) = _
    rw [e]
    split
    · obtain rfl : j = 0 := by omega
      rw [pathF_low hl hj, if_pos rfl]
    · rfl
  | m + 1, hm => by
    obtain ⟨i1, i2⟩ := fw_inv hl m (by omega)
    rw [List.range'_1_concat, List.foldl_append]
    generalize (List.range' 1 m).foldl (fwM h.2) (lows0 S W h) = xs at *
    show (fwM h.2 xs (1 + m)).length = _ ∧ ∀ j, j < S.length → (fwM h.2 xs (1 + m)).getD j (0, 1) = _
    refine ⟨by rw [fwM_len, i1], fun j hj => ?_⟩
    unfold fwM
    rw [getD_set]
    by_cases hj1 : 1 + m = j
    · subst hj1
      rw [if_pos ⟨rfl, by omega⟩, if_pos (by omega), pathF_low hl hj, if_neg (by omega), i2 _ hj, if_neg (by omega), i2 _ (by omega), if_pos (by omega)]
    · rw [if_neg fun z => hj1 z.1, i2 _ hj]
      by_cases hq : j ≤ m
      · rw [if_pos hq, if_pos (by omega)]
      · rw [if_neg hq, if_neg (by omega)]
theorem bw_keep {d : Fr} {n : Nat} : ∀ (ks : List Nat) (xs : List Fr), (∀ k, k ∈ ks → k ≠ n) → (ks.foldl (bwM d) xs).getD n (0, 1) = xs.getD n (0, 1) ∧ (ks.foldl (bwM d) xs).length = xs.length
  | [], _, _ => ⟨rfl, rfl⟩
  | k :: r, xs, h => by
    obtain ⟨a, b⟩ := bw_keep (d := d) r (bwM d xs k) fun z hz => h z (List.mem_cons_of_mem _ hz)
    refine ⟨?_, by rw [List.foldl_cons, b, bwM_len]⟩
    rw [List.foldl_cons, a]
    unfold bwM
    rw [getD_set, if_neg fun z => h k List.mem_cons_self z.1]
theorem meas_last {S W : List Int} {h : Fr × Fr} (hl : S.length ≤ W.length) {n : Nat} (hn : S.length = n + 1) : (measM S W h)[n]? = some (pathF S h W n).1 ∧ (measM S W h).length = n + 1 := by
  unfold measM
  obtain ⟨k1, k2⟩ := bw_keep (d := h.2) (n := n) ((List.range (S.length - 1)).map fun k => S.length - 2 - k) (lowsF S W h) fun k hk => by
    obtain ⟨j, hj, rfl⟩ := List.mem_map.mp hk
    have := List.mem_range.mp hj
    omega
  obtain ⟨f1, f2⟩ := fw_inv (h := h) hl (S.length - 1) (by omega)
  have f3 := f2 n (by omega)
  rw [if_pos (by omega)] at f3
  have hlen : (List.foldl (bwM h.2) (lowsF S W h) ((List.range (S.length - 1)).map fun k => S.length - 2 - k)).length = n + 1 := by rw [k2]; unfold lowsF; rw [f1]; omega
  refine ⟨?_, hlen⟩
  have hx := k1
  unfold lowsF at hx
  rw [f3] at hx
  rw [← hx]
  have hlen' := hlen
  unfold lowsF at hlen'
  rw [List.getD_eq_getElem?_getD]
  unfold lowsF
  rw [List.getElem?_eq_getElem (show n < _ by rw [hlen']; omega)]
  rfl
theorem read_span {W : List Int} {n : Nat} (hn : S.length = n + 1) (hW : W ∈ readM rows f h S) : spansP rows f S h n (pathF S h W n) := by
  obtain ⟨h1, ⟨r, h2, h3, _⟩, h4⟩ := mem_read.mp hW
  have hb := rowx_beg (rows := rows) (f := f) W [] [] r (by unfold begS; exact List.mem_singleton_self _) h2 (by simp; omega)
  simp only [List.nil_append, List.length_nil, Nat.zero_add] at hb
  rw [h1, hn] at hb
  exact ⟨_, hb, fun i hi => h4 i (by omega), rfl⟩
theorem read_sw {W : List Int} (hf : FoOk f) (hS : ∀ x, x ∈ S → 1 ≤ x ∧ x < 2 ^ nb) (h6 : 6 ≤ nb) (hW : W ∈ readM rows f h S) : SWok nb S W ∧ S.length = W.length := by
  obtain ⟨h1, ⟨r, h2, h3, _⟩, h4⟩ := mem_read.mp hW
  have h64 : (64 : Int) ≤ 2 ^ nb := by
    have : (2 : Nat) ^ 6 ≤ 2 ^ nb := Nat.pow_le_pow_right (by decide) h6
    exact_mod_cast this
  exact ⟨⟨hS, fun x hx => by have := rowx_w hf _ _ _ _ h2 x hx; omega, by omega⟩, h1.symm⟩
theorem read_bar {W : List Int} (hf : FoOk f) (hh : HOk' kb h) (hS : ∀ x, x ∈ S → 1 ≤ x ∧ x < 2 ^ nb) (h6 : 6 ≤ nb) (hW : W ∈ readM rows f h S) : barM S W h = none :=
  (bar_alive (read_sw hf hS h6 hW).1 hh).mpr (mem_read.mp hW).2.2
theorem read_among {W : List Int} (hf : FoOk f) (hh : HOk' kb h) (hS : ∀ x, x ∈ S → 1 ≤ x ∧ x < 2 ^ nb) (h6 : 6 ≤ nb) {n : Nat} (hn : S.length = n + 1) (hW : W ∈ readM rows f h S) : amongM (presentM rows f S h) (pathF S h W n).1 = true := by
  have et : S.take (n + 1) = S := List.take_of_length_le (by omega)
  obtain ⟨c1, c2⟩ := present_cov (rows := rows) hf hh hS h6 (k := n) (by omega)
  rw [et] at c1 c2
  have sp := read_span hn hW
  have g := spansP_gd hf hh hS h6 (by omega) sp
  exact (among_cov (srt_pos c1) g.l).mpr ((c2 _).mpr ⟨_, sp, Rat.le_refl, g.le⟩)
theorem read_present {W : List Int} (hf : FoOk f) (hh : HOk' kb h) (hS : ∀ x, x ∈ S → 1 ≤ x ∧ x < 2 ^ nb) (h6 : 6 ≤ nb) {n : Nat} (hn : S.length = n + 1) (hW : W ∈ readM rows f h S) : presentM rows f S h ≠ [] := fun e => by
  have := read_among hf hh hS h6 hn hW
  rw [e] at this
  cases this
end
end Z
namespace Z
open PySem PySem.Spec PyProof.Rows L2
variable [Vo]
theorem jMin_sz {B : Nat} : ∀ (xs : List Spn) (f : Spn), SzS B f → (∀ s, s ∈ xs → SzS B s) → SzS B (jMin f xs)
  | [], f, hf, _ => hf
  | a :: r, f, hf, h => by
    unfold jMin
    rw [List.foldl_cons]
    refine jMin_sz r _ ?_ fun s hs => h s (List.mem_cons_of_mem _ hs)
    split
    · exact h a List.mem_cons_self
    · exact hf
theorem gRun_sz {B : Nat} {low : Fr} {xs : List Spn} (hp : ∀ s, s ∈ xs → SzS B s) : ∀ (k : Nat) (high : Fr), Sz B high → Sz B (gRun low xs k high)
  | 0, _, h => h
  | k + 1, high, h => by
    unfold gRun
    simp only
    have := pass_sz (low := low) h hp
    split
    · exact gRun_sz hp k _ this
    · exact this
theorem pSel_sz {B : Nat} : ∀ (n : Nat) (xs : List Spn), (∀ s, s ∈ xs → SzS B s) → ∀ s, s ∈ pSel n xs → SzS B s
  | 0, _, _, s, hs => by simp [pSel] at hs
  | _ + 1, [], _, s, hs => by simp [pSel] at hs
  | n + 1, a :: r, h, s, hs => by
    unfold pSel at hs
    simp only at hs
    have hm := jMin_sz (a :: r) a (h a List.mem_cons_self) h
    rcases List.mem_cons.mp hs with rfl | hs
    · exact ⟨hm.1, gRun_sz h _ _ hm.2⟩
    · exact pSel_sz n _ (fun t ht => h t (List.mem_filter.mp ht).1) s hs
theorem present_sz {nb kb : Nat} {rows : List (List Nat)} {f : Fo} {S : List Int} {h : Fr × Fr} (hf : FoOk f) (hS : ∀ x, x ∈ S → 1 ≤ x ∧ x < 2 ^ nb) (hh : HOk' kb h) (h6 : 6 ≤ nb) (hl : S.length ≤ 900) : ∀ s, s ∈ presentM rows f S h → SzS (StB nb kb S.length) s := by
  unfold presentM putM
  refine pSel_sz _ _ fun s hs => ?_
  obtain ⟨q, hq, rfl⟩ := List.mem_map.mp hs
  obtain ⟨e, so, _⟩ := stands_ok (rows := rows) hf hS hh h6 hl S.length (Nat.le_refl _) q (List.mem_filter.mp hq).1
  have a := so.lo
  have b := so.hi
  rw [e] at a b
  exact ⟨a, b⟩
theorem lvl_len {rows : List (List Nat)} {f : Fo} {h : Fr × Fr} {S : List Int} : ∀ k, (lvlM rows f h S k).length ≤ 3 ^ k
  | 0 => by show 1 ≤ 1; omega
  | k + 1 => by
    have ih := lvl_len (rows := rows) (f := f) (h := h) (S := S) k
    have := fl_len (g := fun s => (nextM rows f S h s).map (·.2)) (n := 3) (xs := lvlM rows f h S k) fun s _ => by rw [List.length_map]; exact next_len
    rw [← List.flatMap_def] at this
    rw [Nat.pow_succ]
    show (List.flatMap _ _).length ≤ _
    omega
theorem dom_len {rows : List (List Nat)} {f : Fo} {h : Fr × Fr} {S : List Int} (hS : S.length ≤ 14) : (domW rows f h S).length ≤ 16777215 := by
  have key : ∀ m, ((List.range m).flatMap (lvlM rows f h S)).length ≤ 3 ^ m := fun m => by
    induction m with
    | zero => simp
    | succ m ih =>
      rw [List.range_succ, List.flatMap_append, List.length_append]
      have := lvl_len (rows := rows) (f := f) (h := h) (S := S) m
      simp only [List.flatMap_cons, List.flatMap_nil, List.append_nil]
      rw [Nat.pow_succ]; omega
  have h1 := key (S.length + 1)
  have h2 : 3 ^ (S.length + 1) ≤ 3 ^ 15 := Nat.pow_le_pow_right (by decide) (by omega)
  have h3 : (3 : Nat) ^ 15 = 14348907 := by decide
  unfold domW
  omega
theorem items_len {f : Fo} {bk : Bk0} (hb : BkOk bk) : ∀ {is : List Itm}, (∀ i, i ∈ is → i.2 ∈ bk) → is.length ≤ (itemsW f is).length
  | [], _ => Nat.le_refl _
  | i :: r, h => by
    unfold itemsW
    have h1 := (rowW_len (f := f) (r := i.2.2)).2 (hb.row _ (h i List.mem_cons_self)).1
    have key : ∀ q : List Itm, q.length ≤ (q.flatMap fun i => (if i.1 then f.a else f.b) :: rowW f i.2.2).length := fun q => by
      induction q with
      | nil => simp
      | cons a t ih => simp only [List.flatMap_cons, List.length_append, List.length_cons]; omega
    have := key r
    rw [List.length_append, List.length_cons]
    omega
theorem read_text {bk : Bk0} (hb : BkOk bk) {f : Fo} (hf : FoOk f) {S : List Int} {h : Fr × Fr} {W : List Int} (hW : W ∈ readM (bk.map (·.2)) f h S) : ∃ t : List Nat, textOfM bk f W = some t ∧ t.length ≤ 2 * S.length ∧ (∀ c, c ∈ t → c < 1114112) ∧ weightsM bk f t = some W := by
  obtain ⟨h1, ⟨r, h2, h3, h4⟩, _⟩ := mem_read.mp hW
  obtain ⟨is, _, h5, _, h6, h7, h8⟩ := text_of_read hb hf h2 (by omega) h4
  refine ⟨flatT is, h6, ?_, flatT_ch hb h5, h8⟩
  have a := flatT_len is
  have b := items_len (f := f) hb h5
  rw [← h7] at b
  omega
theorem more_ok {h : Fr × Fr} (hh : HOk' 14 h) : HOk' 15 (madeM (h.1.1 + h.1.2) (2 * h.1.2), h.2) ∧ h.1.1 * (madeM (h.1.1 + h.1.2) (2 * h.1.2)).2 ≤ (madeM (h.1.1 + h.1.2) (2 * h.1.2)).1 * h.1.2 := by
  obtain ⟨a1, a2⟩ := hh.so
  have b1 := hh.s.t
  have b2 := hh.s.b
  have b3 := hh.s.p
  have so := madeM_lt (a := h.1.1 + h.1.2) (b := 2 * h.1.2) (by omega) (by omega)
  have sz : Sz 15 (madeM (h.1.1 + h.1.2) (2 * h.1.2)) := madeM_sz (by omega) (by omega) (by omega)
  refine ⟨⟨sz, so, hh.d.mono (by decide), hh.d1, madeM_rd (by omega), hh.dr⟩, ?_⟩
  obtain ⟨g1, g2⟩ := madeM_mul (a := h.1.1 + h.1.2) (b := 2 * h.1.2)
  have gp := gcd_posR (a := h.1.1 + h.1.2) (b := 2 * h.1.2) (by omega)
  generalize ((Int.gcd (h.1.1 + h.1.2) (2 * h.1.2) : Nat) : Int) = g at *
  generalize (madeM (h.1.1 + h.1.2) (2 * h.1.2)).1 = u at *
  generalize (madeM (h.1.1 + h.1.2) (2 * h.1.2)).2 = v at *
  generalize h.1.1 = x at *
  generalize h.1.2 = y at *
  have e : g * (x * v) ≤ g * (u * y) := by
    have e1 : g * (x * v) = x * (2 * y) := by rw [← g2]; grind
    have e2 : g * (u * y) = (x + y) * y := by rw [← g1]; grind
    rw [e1, e2]
    have : 0 ≤ (y - x) * y := Int.mul_nonneg (by omega) (by omega)
    grind
  exact Int.le_of_mul_le_mul_left e gp
theorem atI_last {xs : List Fr} {n : Nat} {x : Fr} (h : xs[n]? = some x) (hl : xs.length = n + 1) : L2.atI (xs.map fun x : Fr => dF x) (-1) = some (dF x) := by
  unfold L2.atI
  have e : ixN (xs.map fun x : Fr => dF x).length (-1) = some n := by
    unfold ixN
    rw [List.length_map, hl, if_neg (by decide), if_pos (by omega)]
    congr 1
    omega
  rw [e]
  show (xs.map fun x : Fr => dF x)[n]? = _
  rw [List.getElem?_map, h]
  rfl
end Z
namespace Z
open PySem PySem.Spec PyProof.Rows L2
variable [Vo]
section
variable {P : Program} {w : World} {K : PySem.W.Frag} {mg : Str → Option Value} {base : Heap} {C : Addr}
def q_wat (K : PySem.W.Frag) (C : Addr) (Rs : List RP) (d : PyData) : Prop := ∃ (nb kb : Nat) (rows : List (List Nat)) (f : Fo) (h : Fr × Fr) (S : List Int) (c : Addr) (n : Nat) (W : List Int), RowsOk rows ∧ NumOk nb kb f h S ∧ S.length ≤ 61 ∧ (domW rows f h S).length ≤ 16777215 ∧ (readM rows f h S)[n]? = some W ∧
  Rs = [InsR C (webF K rows f h S c), DD K (.int (n : Nat))] ∧ d = encIs W
abbrev N_Web_weights_at : List Str := ["self", "number", "stand", "found", "weight", "other"]
theorem sc_Web_weights_at : FnScope N_Web_weights_at ["self", "number"] (defScope st_Web_weights_at) := ⟨rfl, rfl, rfl, by decide +kernel, rfl, by decide +kernel, by decide +kernel⟩
theorem ok_Web_weights_at {f : Addr} {fd : FuncData} (F : Fun K "weights_at" "Web.weights_at" st_Web_weights_at f fd) (Bn : Bn mg) (W : WebC K C) (M_next_stands : MtD P w K mg base 5 C "next_stands" ["self", "stand"] (spG K (q_next K C))) (M_ways_on : MtD P w K mg base 67 C "ways_on" ["self", "stand"] (spG K (q_ways K C 61))) (M_first : MtD P w K mg base 1 C "first" ["self"] (spG K (q_first K C))) :
    FnOk P w K mg base CX0 68 f fd ["self", "number"] (spG K (q_wat K C)) := by
  refine fn_G F sc_Web_weights_at (fun Rs d h => by obtain ⟨_, _, _, _, _, _, _, _, _, _, _, _, _, _, rfl, _⟩ := h; rfl) (fun cdv A outer s0 H F0 E hr Rs d hq => ?_)
  obtain ⟨nb, kb, rows, fo, h, S, c, n0, W0, ro, no, hS61, hdom, hn0, rfl, rfl⟩ := hq
  have mo := InsR.mo (C := C) (fds := webF K rows fo h S c)
  have hl9 := no.l
  have hW0 : W0.length ≤ 61 := by
    have := rdF_wl _ _ W0 (List.mem_of_getElem? hn0)
    omega
  refine ws_set 2 sc_Web_weights_at.nd rfl (.inl rfl) (g_is (d' := encSt firstM) (g_methG0 M_first W.cl (hr.mono (by decide)) (gv 0) ⟨_, rfl, rfl⟩) rfl) ?_
  refine ws_new 3 sc_Web_weights_at.nd rfl (.inl rfl) (n_lst gad_nil) fun l => ?_
  refine ws_while (W := fun m E os => ∃ (s : St4) (pf rest : List Int) (n : Nat) (wt ot : Option RP), s ∈ lvlM rows fo h S s.n ∧ s.n = pf.length ∧ s.n ≤ S.length ∧ S.length - s.n = m ∧ (rdF rows fo h S m s)[n]? = some rest ∧ pf ++ rest = W0 ∧
      E = [some (InsR C (webF K rows fo h S c)), some (DD K (.int (n : Nat))), some (DD K (encSt s)), some (RR l), wt, ot] ∧ os = [(l, Ls K (pf.map .int))]) (m0 := S.length) PassesOwn.never ⟨firstM, [], W0, n0, none, none, List.mem_singleton.mpr rfl, rfl, Nat.zero_le _, rfl, hn0, rfl, rfl, rfl⟩ ?_
  rintro m E os ⟨s, pf, rest, n, wt, ot, hs, hpf, hn, hm, hrd, htot, rfl, rfl⟩
  refine ⟨_, _, _, Vw.one 3 0, gb_cm (g_lenL Bn (gv 3)) c_lt (g_lenL Bn (g_fld (gv 0) W.cl W.n4)), fun q => ?_, fun q => ?_⟩
  · have hlt : s.n < S.length := by
      have : ((pf.map PyData.int).length : Int) < ((S.map PyData.int).length : Int) := by simpa using q
      rw [List.length_map, List.length_map] at this
      omega
    obtain ⟨_, so, hrow, _⟩ := lvl_ok no.ff no.bd no.hh no.six (by omega) s.n hn s hs
    have hnx : ∀ p, p ∈ nextM rows fo S h s → p.2.n = s.n + 1 := fun p hp => (next_ok no.ff no.bd no.hh no.six hlt so (by omega) p hp).1
    obtain ⟨m', rfl⟩ : ∃ m', m = m' + 1 := ⟨m - 1, by omega⟩
    unfold rdF at hrd
    have hpl : pf.length ≤ 61 := by rw [← htot, List.length_append] at hW0; omega
    refine ws_forL (xs := nextM rows fo S h s) (enc := encNx) (sl := [4, 5]) PassesOwn.never rfl (l_list (g_methG M_next_stands W.cl (hr.mono (by decide)) (gv 0) (ga_cons (gv 2) ga_nil) ⟨nb, kb, rows, fo, h, S, c, s, ro, no, so, hlt, rfl, rfl⟩)) (fun x hx => gt_2 4 5 rfl sc_Web_weights_at.nd)
      (fun pre E os => (∃ (n' : Nat) (wt ot : Option RP), (((nextM rows fo S h s).drop pre.length).flatMap fun p => (rdF rows fo h S m' p.2).map (p.1 :: ·))[n']? = some rest ∧ E = [some (InsR C (webF K rows fo h S c)), some (DD K (.int (n' : Nat))), some (DD K (encSt s)), some (RR l), wt, ot]) ∧ os = [(l, Ls K (pf.map .int))]) ⟨⟨n, wt, ot, hrd, rfl⟩, rfl⟩ ?_ ?_
    · rintro pre ⟨x1, x2⟩ post E os hxs ⟨⟨n', wt', ot', hn', rfl⟩, rfl⟩
      have hx : (x1, x2) ∈ nextM rows fo S h s := by rw [hxs]; simp
      have hx2 := hnx _ hx
      simp only at hx2
      rw [hxs, List.drop_left, List.flatMap_cons] at hn'
      have hlen : (rdF rows fo h S m' x2).length = waysM rows fo h S x2 := by
        rw [rdF_len]; unfold waysM; rw [hx2, show S.length - (s.n + 1) = m' by omega]
      have hq : q_ways K C 61 [InsR C (webF K rows fo h S c), DD K (encSt x2)] (.int (waysM rows fo h S x2 : Nat)) := ⟨nb, kb, rows, fo, h, S, c, x2, ro, no, lvl_next hs hx hx2, by omega, by omega, hdom, rfl, rfl⟩
      refine ws_ifJ (b := decide (n' < waysM rows fo h S x2)) (J := fun E os => ¬ n' < waysM rows fo h S x2 ∧ E = [some (InsR C (webF K rows fo h S c)), some (DD K (.int (n' : Nat))), some (DD K (encSt s)), some (RR l), some (DD K (.int x1)), some (DD K (encSt x2))] ∧ os = [(l, Ls K (pf.map .int))]) Vw.refl (gb_is (gb_cm (gv 1) c_lt (g_methG M_ways_on W.cl (hr.mono (by decide)) (gv 0) (ga_cons (gv 5) ga_nil) hq)) (decide_eq_decide.mpr (by omega))) (fun z => ?_) (fun z => ws_nil ⟨by simpa using z, rfl, rfl⟩) ?_
      · have z' : n' < waysM rows fo h S x2 := by simpa using z
        rw [List.getElem?_append_left (by rw [List.length_map, hlen]; exact z'), List.getElem?_map] at hn'
        cases e : (rdF rows fo h S m' x2)[n']? with
        | none => rw [e] at hn'; cases hn'
        | some rest' =>
          rw [e] at hn'
          have er : x1 :: rest' = rest := by simpa using hn'
          refine ws_break ?_
          refine ws_append 0 (gv 3) rfl (gv 4) (Nat.lt_of_le_of_lt (show (pf.map PyData.int).length ≤ 61 by rw [List.length_map]; exact hpl) (by decide)) ?_
          refine ws_set 2 sc_Web_weights_at.nd rfl (.inl rfl) (gv 5) ?_
          refine ws_nil ⟨m', by omega, x2, pf ++ [x1], rest', n', _, _, lvl_next hs hx hx2, by rw [List.length_append, List.length_singleton]; omega, by omega, by omega, e, by rw [← htot, ← er]; simp, rfl, ?_⟩
          show [(l, Ls K (pf.map PyData.int ++ [.int x1]))] = _
          rw [List.map_append]; rfl
      rintro E os ⟨z, rfl, rfl⟩
      rw [List.getElem?_append_right (by rw [List.length_map, hlen]; omega), List.length_map, hlen] at hn'
      refine ws_augI 1 iop_sub sc_Web_weights_at.nd rfl (.inl rfl) rfl (g_methG M_ways_on W.cl (hr.mono (by decide)) (gv 0) (ga_cons (gv 5) ga_nil) hq) ?_
      have e : ((n' : Int) - ((waysM rows fo h S x2 : Nat) : Int)) = ((n' - waysM rows fo h S x2 : Nat) : Int) := by omega
      refine ws_nil ⟨⟨n' - waysM rows fo h S x2, _, _, ?_, by rw [e]; rfl⟩, rfl⟩
      rw [hxs, List.length_append, List.length_singleton, show pre ++ (x1, x2) :: post = (pre ++ [(x1, x2)]) ++ post by simp, ← List.length_singleton (a := (x1, x2)), ← List.length_append, List.drop_left]
      exact hn'
    · rintro E os ⟨⟨n', wt', ot', hn', rfl⟩, rfl⟩
      rw [List.drop_length] at hn'
      cases hn'
  · have hge : s.n = S.length := by
      have : ¬ ((pf.map PyData.int).length : Int) < ((S.map PyData.int).length : Int) := by simpa using q
      rw [List.length_map, List.length_map] at this
      omega
    have hm0 : m = 0 := by omega
    subst hm0
    have hr0 : rest = [] := by
      have := rdF_wl _ _ rest (List.mem_of_getElem? hrd)
      exact List.eq_nil_of_length_eq_zero this
    subst hr0
    rw [List.append_nil] at htot
    subst htot
    exact ws_retF (Vw.one 3 0) (os' := []) (fun a h => by
      have e : a = l := by simpa using h
      subst e
      exact ⟨by simp, fun h => nomatch h⟩) (fun p hp => nomatch hp) (by simp) (gv 3) (fun F v h => h)
def q_how_many (K : PySem.W.Frag) (Rs : List RP) (d : PyData) : Prop := ∃ (nb kb : Nat) (bk : Bk0) (f : Fo) (h : Fr × Fr) (S : List Int), BkOk bk ∧ NumOk nb kb f h S ∧ S.length ≤ 61 ∧ (domW (bk.map (·.2)) f h S).length ≤ 16777215 ∧ Rs = [DD K (dBk bk), DD K (dFo f), DD K (dH h), DD K (encIs S)] ∧ d = .int (readM (bk.map (·.2)) f h S).length
abbrev N_how_many : List Str := ["book", "form", "hand", "stretches", "web"]
theorem rowsOk_of {bk : Bk0} (hb : BkOk bk) : RowsOk (bk.map (·.2)) := ⟨by rw [List.length_map]; have := hb.len; omega, fun r hr => by
  obtain ⟨p, hp, rfl⟩ := List.mem_map.mp hr
  have := (hb.row p hp).2.1; omega⟩
end
end Z
namespace Z
open PySem PySem.Spec PyProof.Rows L2
variable [Vo]
theorem num_bar {nb kb : Nat} {bk : Bk0} (hb : BkOk bk) {f : Fo} (hf : FoOk f) {S : List Int} {h : Fr × Fr} (hh : HOk' kb h) {i : Itm} {r : List Itm} (hi : i.2 ∈ bk) (hr : ∀ j, j ∈ r → j.2 ∈ bk) (ok : SWok nb S (itemsW f (i :: r))) (hl : S.length = (itemsW f (i :: r)).length) :
    (if (itemsW f (i :: r)).length = S.length then numF (bk.map (·.2)) f h S firstM (itemsW f (i :: r)) 0 else none).isSome = true ↔ barM S (itemsW f (i :: r)) h = none := by
  rw [if_pos hl.symm]
  obtain ⟨r', p1, p2, p3⟩ := items_path (f := f) hb hi r.length r rfl hr
  have h0 : 0 < S.length := by omega
  rw [num_read hf hl.symm h0, mem_read, bar_alive ok hh]
  constructor
  · rintro ⟨_, _, q⟩; exact q
  · intro q; exact ⟨hl.symm, ⟨r', p1, by omega, p3⟩, q⟩
theorem one_law {nb kb : Nat} {S W : List Int} {d : Fr} (ok : SWok nb S W) (hd : Sz kb d) (hd1 : 0 < d.1) {i j : Nat} (hi : i < S.length) (hj : j < S.length) : oneM S W d i j = madeM (S.getD i 1 * W.getD j 1 * (powM d (apart i j)).2) (S.getD j 1 * W.getD i 1 * (powM d (apart i j)).1) := by
  obtain ⟨_, p2, p3⟩ := plain_sz ok hi hj
  obtain ⟨q1, q2, _⟩ := powM_tp hd1 hd.p (apart i j)
  obtain ⟨_, r, v⟩ := one_ok ok hd hd1 hi hj
  have pp := Int.mul_pos p2 q1
  refine rd_ext r (madeM_rd pp) ?_
  rw [v, vl_made pp]
  unfold vl
  have c1 := cast_ne p2
  have c2 := cast_ne q1
  have c3 := cast_ne q2
  push_cast at *
  grind
theorem orFst {bk : Bk0} {f : Fo} {is : List Itm} (hb : BkOk bk) (hi : ∀ i, i ∈ is → i.2 ∈ bk) (hh : ∀ i, is.head? = some i → i.1 = false) : weightsM bk f (flatT is) = if is = [] then none else some (itemsW f is) := by
  cases is with
  | nil => rw [if_pos rfl]; rfl
  | cons i r =>
    rw [if_neg (by simp)]
    obtain ⟨b, c, row⟩ := i
    have : b = false := hh _ rfl
    subst this
    exact weightsM_items hb (hi _ List.mem_cons_self) (fun j hj => hi j (List.mem_cons_of_mem _ hj))
theorem items_len' {f : Fo} {bk : Bk0} (hb : BkOk bk) : ∀ {is : List Itm}, (∀ i, i ∈ is → i.2 ∈ bk) → is.length ≤ (itemsW f is).length
  | [], _ => Nat.le_refl _
  | i :: r, h => by
    unfold itemsW
    have h1 := (rowW_len (f := f) (r := i.2.2)).2 (hb.row _ (h i List.mem_cons_self)).1
    have key : ∀ q : List Itm, q.length ≤ (q.flatMap fun i => (if i.1 then f.a else f.b) :: rowW f i.2.2).length := fun q => by
      induction q with
      | nil => simp
      | cons a t ih => simp only [List.flatMap_cons, List.length_append, List.length_cons]; omega
    have := key r
    rw [List.length_append, List.length_cons]
    omega
theorem lvl_len' {rows : List (List Nat)} {f : Fo} {h : Fr × Fr} {S : List Int} : ∀ k, (lvlM rows f h S k).length ≤ 3 ^ k
  | 0 => by show 1 ≤ 1; omega
  | k + 1 => by
    have ih := lvl_len' (rows := rows) (f := f) (h := h) (S := S) k
    have := fl_len (g := fun s => (nextM rows f S h s).map (·.2)) (n := 3) (xs := lvlM rows f h S k) fun s _ => by rw [List.length_map]; exact next_len
    rw [← List.flatMap_def] at this
    rw [Nat.pow_succ]
    show (List.flatMap _ _).length ≤ _
    omega
theorem dom_len' {rows : List (List Nat)} {f : Fo} {h : Fr × Fr} {S : List Int} (hS : S.length ≤ 14) : (domW rows f h S).length ≤ 16777215 := by
  have key : ∀ m, ((List.range m).flatMap (lvlM rows f h S)).length ≤ 3 ^ m := fun m => by
    induction m with
    | zero => simp
    | succ m ih =>
      rw [List.range_succ, List.flatMap_append, List.length_append]
      have := lvl_len' (rows := rows) (f := f) (h := h) (S := S) m
      simp only [List.flatMap_cons, List.flatMap_nil, List.append_nil]
      rw [Nat.pow_succ]; omega
  have h1 := key (S.length + 1)
  have h2 : 3 ^ (S.length + 1) ≤ 3 ^ 15 := Nat.pow_le_pow_right (by decide) (by omega)
  have h3 : (3 : Nat) ^ 15 = 14348907 := by decide
  unfold domW
  omega
theorem flat_ne {is : List Itm} : (!decide (mk (flatT is) = mk [])) = decide (is ≠ []) := by
  cases is with
  | nil => rfl
  | cons i r =>
    have : ¬ mk (flatT (i :: r)) = mk [] := fun e => by
      have := mk_inj e
      have h2 := congrArg List.length this
      unfold flatT flatI at h2
      simp at h2
    simp [this]
theorem eqv_F {x : Fr} : PyData.eqv (dF x) (dF x) = true := by simp [PyData.eqv, PyData.eqvAll]
end Z
namespace Z
open PySem PySem.Spec PyProof.Rows L2
variable [Vo]
abbrev AL := List (List Int × List Nat)
def rowPut (rec : Nat → AL) (f : Fo) (many : Nat) (acc : AL) (p : Nat × List Nat) : AL :=
  if 2 * p.2.length ≤ many + 1 then
    (rec (many - (rowW f p.2).length - 1)).foldl (fun a q => dput (dput a (rowW f p.2 ++ [f.b] ++ q.1) ([p.1] ++ q.2)) (rowW f p.2 ++ [f.a] ++ q.1) ([p.1] ++ [32] ++ q.2)) (if (rowW f p.2).length = many then dput acc (rowW f p.2) [p.1] else acc)
  else acc
def endsM (rec : Nat → AL) (bk : Bk0) (f : Fo) (many : Nat) : AL := bk.foldl (rowPut rec f many) []
def outA (e : AL) : AL := (sortI (e.map (·.1))).map fun k => (k, (dget e k).getD [])
def allF (bk : Bk0) (f : Fo) : Nat → Nat → AL
  | 0, _ => []
  | n + 1, many => if many = 0 then [] else outA (endsM (allF bk f n) bk f many)
structure AOk (bk : Bk0) (f : Fo) (many : Nat) (q : List Int × List Nat) : Prop where
  ex : ∃ is : List Itm, is ≠ [] ∧ (∀ i, i ∈ is → i.2 ∈ bk) ∧ (∀ i, is.head? = some i → i.1 = false) ∧ q.2 = flatT is ∧ q.1 = itemsW f is
  l : q.1.length = many
theorem dput_mem {κ α : Type} [DecidableEq κ] {kvs : List (κ × α)} {k : κ} {v : α} {q : κ × α} (h : q ∈ dput kvs k v) : q = (k, v) ∨ q ∈ kvs := by
  unfold dput at h
  split at h
  · obtain ⟨kv, hkv, e⟩ := List.mem_map.mp h
    by_cases z : kv.1 = k
    · rw [if_pos z] at e; rw [← e, z]; exact .inl rfl
    · rw [if_neg z] at e; rw [← e]; exact .inr hkv
  · rcases List.mem_append.mp h with q | q
    · exact .inr q
    · exact .inl (List.mem_singleton.mp q)
theorem dput_ndk {κ α : Type} [DecidableEq κ] {kvs : List (κ × α)} {k : κ} {v : α} (h : (kvs.map (·.1)).Nodup) : ((dput kvs k v).map (·.1)).Nodup := by
  rw [dput_keys]
  split
  · exact h
  · rename_i hn
    rw [List.nodup_append]
    refine ⟨h, by simp, fun a ha b hb e => ?_⟩
    have hb' : b = k := by simpa using hb
    subst hb'; subst e
    obtain ⟨p, hp, e⟩ := List.mem_map.mp ha
    exact hn (List.any_eq_true.mpr ⟨p, hp, by simpa using e⟩)
theorem dput_len {κ α : Type} [DecidableEq κ] {kvs : List (κ × α)} {k : κ} {v : α} : (dput kvs k v).length ≤ kvs.length + 1 := by
  unfold dput
  split
  · rw [List.length_map]; omega
  · rw [List.length_append]; simp
theorem dget_mem {κ α : Type} [DecidableEq κ] {kvs : List (κ × α)} {k : κ} (h : k ∈ kvs.map (·.1)) : ∃ v, dget kvs k = some v ∧ (k, v) ∈ kvs := by
  obtain ⟨p, hp, e⟩ := List.mem_map.mp h
  unfold dget
  cases q : kvs.find? fun kv => decide (kv.1 = k) with
  | none => have := List.find?_eq_none.mp q p hp; simp [e] at this
  | some z =>
    have z1 := List.mem_of_find?_eq_some q
    have z2 : z.1 = k := by simpa using List.find?_some q
    exact ⟨z.2, rfl, by rw [← z2]; exact z1⟩
section
variable {bk : Bk0} {f : Fo} {rec : Nat → AL} {many : Nat}
theorem rowPut_inv {G : List Int × List Nat → Prop} {acc : AL} {p : Nat × List Nat} (h : ∀ q, q ∈ acc → G q) (h1 : 2 * p.2.length ≤ many + 1 → (rowW f p.2).length = many → G (rowW f p.2, [p.1])) (h2 : 2 * p.2.length ≤ many + 1 → ∀ q, q ∈ rec (many - (rowW f p.2).length - 1) → G (rowW f p.2 ++ [f.b] ++ q.1, [p.1] ++ q.2) ∧ G (rowW f p.2 ++ [f.a] ++ q.1, [p.1] ++ [32] ++ q.2)) : ∀ q, q ∈ rowPut rec f many acc p → G q := by
  unfold rowPut
  split
  · rename_i hle
    have h0 : ∀ q, q ∈ (if (rowW f p.2).length = many then dput acc (rowW f p.2) [p.1] else acc) → G q := fun q hq => by
      split at hq
      · rename_i e
        rcases dput_mem hq with z | z
        · rw [z]; exact h1 hle e
        · exact h q z
      · exact h q hq
    have h2' := h2 hle
    generalize (if (rowW f p.2).length = many then dput acc (rowW f p.2) [p.1] else acc) = a0 at h0
    generalize rec (many - (rowW f p.2).length - 1) = L at h2'
    clear h2 h1 h
    induction L generalizing a0 with
    | nil => exact h0
    | cons x r ih =>
      refine ih _ (fun q hq => ?_) (fun q hq => h2' q (List.mem_cons_of_mem _ hq))
      obtain ⟨g1, g2⟩ := h2' x List.mem_cons_self
      rcases dput_mem hq with z | z
      · rw [z]; exact g2
      · rcases dput_mem z with z | z
        · rw [z]; exact g1
        · exact h0 q z
  · exact h
theorem rowPut_nd {acc : AL} {p : Nat × List Nat} (h : (acc.map (·.1)).Nodup) : ((rowPut rec f many acc p).map (·.1)).Nodup := by
  unfold rowPut
  split
  · have h0 : ((if (rowW f p.2).length = many then dput acc (rowW f p.2) [p.1] else acc).map (·.1)).Nodup := by
      split
      · exact dput_ndk h
      · exact h
    generalize (if (rowW f p.2).length = many then dput acc (rowW f p.2) [p.1] else acc) = a0 at h0
    generalize rec (many - (rowW f p.2).length - 1) = L
    induction L generalizing a0 with
    | nil => exact h0
    | cons x r ih => exact ih _ (dput_ndk (dput_ndk h0))
  · exact h
theorem rowPut_len {acc : AL} {p : Nat × List Nat} {C : Nat} (hC : ∀ m, (rec m).length ≤ C) : (rowPut rec f many acc p).length ≤ acc.length + (1 + 2 * C) := by
  unfold rowPut
  split
  · have h0 : (if (rowW f p.2).length = many then dput acc (rowW f p.2) [p.1] else acc).length ≤ acc.length + 1 := by
      split
      · exact dput_len
      · omega
    have hc := hC (many - (rowW f p.2).length - 1)
    generalize (if (rowW f p.2).length = many then dput acc (rowW f p.2) [p.1] else acc) = a0 at h0
    generalize rec (many - (rowW f p.2).length - 1) = L at hc
    have key : ∀ (L : AL) (a : AL), (L.foldl (fun a q => dput (dput a (rowW f p.2 ++ [f.b] ++ q.1) ([p.1] ++ q.2)) (rowW f p.2 ++ [f.a] ++ q.1) ([p.1] ++ [32] ++ q.2)) a).length ≤ a.length + 2 * L.length := fun L => by
      induction L with
      | nil => intro a; simp
      | cons x r ih =>
        intro a
        have := ih (dput (dput a (rowW f p.2 ++ [f.b] ++ x.1) ([p.1] ++ x.2)) (rowW f p.2 ++ [f.a] ++ x.1) ([p.1] ++ [32] ++ x.2))
        have d1 := dput_len (kvs := a) (k := rowW f p.2 ++ [f.b] ++ x.1) (v := [p.1] ++ x.2)
        have d2 := dput_len (kvs := dput a (rowW f p.2 ++ [f.b] ++ x.1) ([p.1] ++ x.2)) (k := rowW f p.2 ++ [f.a] ++ x.1) (v := [p.1] ++ [32] ++ x.2)
        rw [List.foldl_cons, List.length_cons]
        omega
    exact Nat.le_trans (key L a0) (by omega)
  · omega
theorem ends_len {C : Nat} (hC : ∀ m, (rec m).length ≤ C) : ∀ (ps : Bk0) (acc : AL), (ps.foldl (rowPut rec f many) acc).length ≤ acc.length + ps.length * (1 + 2 * C)
  | [], acc => by simp
  | p :: r, acc => by
    have := ends_len hC r (rowPut rec f many acc p)
    have := rowPut_len (f := f) (many := many) (acc := acc) (p := p) hC
    rw [List.foldl_cons, List.length_cons, Nat.succ_mul]
    omega
theorem ends_nd : ∀ (ps : Bk0) (acc : AL), (acc.map (·.1)).Nodup → ((ps.foldl (rowPut rec f many) acc).map (·.1)).Nodup
  | [], acc, h => h
  | p :: r, acc, h => ends_nd r _ (rowPut_nd h)
theorem sortI_len : ∀ l : List (List Int), (sortI l).length = l.length
  | [] => rfl
  | x :: r => by
    have ins : ∀ (l : List (List Int)), (insI x l).length = l.length + 1 := fun l => by
      induction l with
      | nil => rfl
      | cons y r ih =>
        unfold insI
        split
        · rfl
        · rw [List.length_cons, ih, List.length_cons]
    unfold sortI
    rw [ins, sortI_len r, List.length_cons]
theorem outA_len {e : AL} : (outA e).length = e.length := by
  unfold outA
  rw [List.length_map, sortI_len, List.length_map]
def Cb (b : Nat) : Nat → Nat
  | 0 => 0
  | n + 1 => b * (1 + 2 * Cb b n)
theorem all_len : ∀ (n many : Nat), (allF bk f n many).length ≤ Cb bk.length n
  | 0, _ => Nat.le_refl _
  | n + 1, many => by
    unfold allF
    split
    · exact Nat.zero_le _
    · rw [outA_len]
      have := ends_len (f := f) (many := many) (fun m => all_len n m) bk []
      unfold endsM Cb
      simpa using this
theorem Cb_mono {a b : Nat} (h : a ≤ b) : ∀ n, Cb a n ≤ Cb b n
  | 0 => Nat.le_refl _
  | n + 1 => Nat.mul_le_mul h (by have := Cb_mono h n; omega)
theorem outA_mem {e : AL} (nd : (e.map (·.1)).Nodup) {q : List Int × List Nat} : q ∈ outA e ↔ q ∈ e := by
  unfold outA
  constructor
  · intro h
    obtain ⟨k, hk, rfl⟩ := List.mem_map.mp h
    obtain ⟨v, h1, h2⟩ := dget_mem (sortI_mem.mp hk)
    rw [h1]; exact h2
  · intro h
    have hk : q.1 ∈ e.map (·.1) := List.mem_map.mpr ⟨q, h, rfl⟩
    refine List.mem_map.mpr ⟨q.1, sortI_mem.mpr hk, ?_⟩
    obtain ⟨v, h1, h2⟩ := dget_mem hk
    rw [h1]
    have := nodup_fst nd h2 h rfl
    rw [← this]; rfl
theorem rowW_lenE {r : List Nat} (h : r ≠ []) : (rowW f r).length + 1 = 2 * r.length := by
  have key : ∀ (r : List Nat) (n : Nat), (((en n r).map (rowG f)).flatten).length = 2 * r.length - (if n = 0 ∧ r ≠ [] then 1 else 0) := fun r => by
    induction r with
    | nil => intro n; simp [en]
    | cons a t ih =>
      intro n
      show (rowG f (n, a) ++ ((en (n + 1) t).map (rowG f)).flatten).length = _
      rw [List.length_append, ih (n + 1), if_neg (by omega), List.length_cons]
      unfold rowG
      by_cases z : n = 0
      · subst z; simp; omega
      · simp [z, show 0 < n by omega]; omega
  have := key r 0
  unfold rowW
  rw [this, if_pos ⟨rfl, h⟩]
  have : 0 < r.length := List.length_pos_iff.mpr h
  omega
theorem items_cons {i : Itm} {is : List Itm} (h : is ≠ []) : itemsW f (i :: is) = rowW f i.2.2 ++ [if (is.headD i).1 then f.a else f.b] ++ itemsW f is := by
  cases is with
  | nil => exact absurd rfl h
  | cons j r =>
    show rowW f i.2.2 ++ ((j :: r).flatMap fun i => (if i.1 then f.a else f.b) :: rowW f i.2.2) = rowW f i.2.2 ++ [if j.1 then f.a else f.b] ++ (rowW f j.2.2 ++ r.flatMap fun i => (if i.1 then f.a else f.b) :: rowW f i.2.2)
    simp
theorem all_ok (hb : BkOk bk) : ∀ (n many : Nat) (q : List Int × List Nat), q ∈ allF bk f n many → AOk bk f many q
  | 0, _, _, h => by cases h
  | n + 1, many, q, h => by
    unfold allF at h
    split at h
    · cases h
    · rename_i hm
      have nd := ends_nd (rec := allF bk f n) (f := f) (many := many) bk [] List.nodup_nil
      have h' := (outA_mem nd).mp h
      have key : ∀ (ps : Bk0) (acc : AL), (∀ p, p ∈ ps → p ∈ bk) → (∀ q, q ∈ acc → AOk bk f many q) → ∀ q, q ∈ ps.foldl (rowPut (allF bk f n) f many) acc → AOk bk f many q := fun ps => by
        induction ps with
        | nil => intro acc _ h q hq; exact h q hq
        | cons p r ih =>
          intro acc hp hacc
          have hpb := hp p List.mem_cons_self
          have hne := (hb.row p hpb).1
          have hlen := rowW_lenE (f := f) hne
          refine ih _ (fun x hx => hp x (List.mem_cons_of_mem _ hx)) (rowPut_inv hacc (fun _ hl => ⟨⟨[(false, p)], by simp, fun i hi => by rw [List.mem_singleton.mp hi]; exact hpb, fun i hi => by cases hi; rfl, rfl, by simp [itemsW]⟩, hl⟩) (fun hle x hx => ?_))
          obtain ⟨⟨is, i1, i2, i3, i4, i5⟩, il⟩ := all_ok hb n _ x hx
          cases is with
          | nil => exact absurd rfl i1
          | cons j t =>
            obtain ⟨jb, jp⟩ := j
            have hj : jb = false := i3 (jb, jp) rfl
            subst hj
            have hx0 : 0 < x.1.length := by
              rw [i5]
              have h2 := (rowW_len (f := f) (r := jp.2)).2 (hb.row _ (i2 (false, jp) List.mem_cons_self)).1
              show 0 < (rowW f jp.2 ++ _).length
              rw [List.length_append]; omega
            have hsum : (rowW f p.2).length + 1 + x.1.length = many := by omega
            constructor
            · refine ⟨⟨(false, p) :: (false, jp) :: t, by simp, fun i hi => ?_, fun i hi => by cases hi; rfl, ?_, ?_⟩, ?_⟩
              · rcases List.mem_cons.mp hi with e | e
                · rw [e]; exact hpb
                · exact i2 i e
              · show [p.1] ++ x.2 = flatT ((false, p) :: (false, jp) :: t)
                rw [i4]; rfl
              · show rowW f p.2 ++ [f.b] ++ x.1 = _
                rw [items_cons (by simp), i5]; rfl
              · show (rowW f p.2 ++ [f.b] ++ x.1).length = many
                rw [List.length_append, List.length_append]; simpa using hsum
            · refine ⟨⟨(false, p) :: (true, jp) :: t, by simp, fun i hi => ?_, fun i hi => by cases hi; rfl, ?_, ?_⟩, ?_⟩
              · rcases List.mem_cons.mp hi with e | e
                · rw [e]; exact hpb
                · rcases List.mem_cons.mp e with e | e
                  · rw [e]; exact i2 (false, jp) List.mem_cons_self
                  · exact i2 i (List.mem_cons_of_mem _ e)
              · show [p.1] ++ [32] ++ x.2 = flatT ((false, p) :: (true, jp) :: t)
                rw [i4]; rfl
              · show rowW f p.2 ++ [f.a] ++ x.1 = _
                rw [items_cons (by simp), i5]; rfl
              · show (rowW f p.2 ++ [f.a] ++ x.1).length = many
                rw [List.length_append, List.length_append]; simpa using hsum
      exact key bk [] (fun p hp => hp) (fun q hq => nomatch hq) q h'
end
end Z
namespace Z
open PySem PySem.Spec PyProof.Rows L2
variable [Vo]
theorem beg_snoc {rows : List (List Nat)} {r : List Nat} {c : Nat} (h : begRow rows (r ++ [c]) = true) : begRow rows r = true := by
  obtain ⟨own, ho, e⟩ := List.any_eq_true.mp h
  refine List.any_eq_true.mpr ⟨own, ho, ?_⟩
  have e' : own.take (r ++ [c]).length = r ++ [c] := by simpa using e
  have : (own.take (r ++ [c]).length).take r.length = (r ++ [c]).take r.length := by rw [e']
  rw [List.take_take, List.take_left] at this
  have hm : min r.length (r ++ [c]).length = r.length := by simp
  rw [hm] at this
  simpa using this
theorem beg_self {rows : List (List Nat)} {r : List Nat} (h : r ∈ rows) : begRow rows r = true := List.any_eq_true.mpr ⟨r, h, by simp⟩
theorem sgnOf_row {bk : Bk0} {r : List Nat} (h : (sgnOf bk r).isSome = true) : r ∈ bk.map (·.2) := by
  cases e : sgnOf bk r with
  | none => rw [e] at h; cases h
  | some c => exact List.mem_map.mpr ⟨_, sgnOf_mem e, rfl⟩
theorem run_beg {bk : Bk0} {f : Fo} : ∀ (V : List Int) (n : Nat) (s s' : Tx), txRun bk f (en n V) s = some s' → s'.r ∈ bk.map (·.2) → begRow (bk.map (·.2)) s.r = true
  | [], n, s, s', h, hr => by
    cases h
    exact beg_self hr
  | x :: V, n, s, s', h, hr => by
    have h' : (txStep bk f (n, x) s).bind (txRun bk f (en (n + 1) V)) = some s' := h
    cases e : txStep bk f (n, x) s with
    | none => rw [e] at h'; cases h'
    | some s1 =>
      rw [e] at h'
      have ih := run_beg V (n + 1) s1 s' h' hr
      unfold txStep at e
      split at e
      · cases e; exact beg_snoc ih
      · split at e
        · rename_i q
          exact beg_self (sgnOf_row q.2.2)
        · split at e
          · cases e
          · cases e; exact ih
theorem run_path {bk : Bk0} {f : Fo} (hf : FoOk f) : ∀ (V : List Int) (n : Nat) (s s' : Tx), txRun bk f (en n V) s = some s' → s'.r ∈ bk.map (·.2) → RowX (bk.map (·.2)) f n s.r V s'.r
  | [], n, s, s', h, hr => by cases h; exact rfl
  | x :: V, n, s, s', h, hr => by
    have h' : (txStep bk f (n, x) s).bind (txRun bk f (en (n + 1) V)) = some s' := h
    cases e : txStep bk f (n, x) s with
    | none => rw [e] at h'; cases h'
    | some s1 =>
      rw [e] at h'
      have ih := run_path hf V (n + 1) s1 s' h' hr
      have hb := run_beg V (n + 1) s1 s' h' hr
      refine ⟨s1.r, ?_, ih⟩
      have sl := hf.sl
      unfold txStep at e
      unfold choicesM
      split at e
      · rename_i q
        obtain ⟨q1, q2⟩ := q
        cases e
        rw [if_pos q1]
        refine List.mem_filter.mpr ⟨?_, hb⟩
        have q3 : x = f.s ∨ x = f.l := by simpa using q2
        rcases q3 with rfl | rfl
        · simp
        · simp [show f.l ≠ f.s by omega]
      · rename_i q0
        split at e
        · rename_i q
          obtain ⟨q1, q2, q4⟩ := q
          cases e
          have q1' : n % 2 = 1 := q1
          rw [if_neg (by omega), if_pos (sgnOf_row q4)]
          have q3 : x = f.b ∨ x = f.a := by simpa using q2
          rcases q3 with rfl | rfl <;> simp
        · split at e
          · cases e
          · rename_i q
            cases e
            have q1 : ¬ n % 2 = 0 := fun z => q (.inl z)
            have q2 : x = f.w := by
              by_cases z : x = f.w
              · exact z
              · exact absurd (.inr z) q
            rw [if_neg q1, q2]
            simp
theorem text_back {bk : Bk0} (hb : BkOk bk) {f : Fo} (hf : FoOk f) {W : List Int} {t : List Nat} (h : textOfM bk f W = some t) : ∃ is : List Itm, is ≠ [] ∧ (∀ i, i ∈ is → i.2 ∈ bk) ∧ (∀ i, is.head? = some i → i.1 = false) ∧ t = flatT is ∧ W = itemsW f is ∧ weightsM bk f t = some W ∧ ∃ r, RowX (bk.map (·.2)) f 0 [] W r ∧ W.length % 2 = 1 ∧ r ∈ bk.map (·.2) := by
  unfold textOfM at h
  split at h
  · cases h
  · rename_i ho
    cases e : txRun bk f (en 0 W) ⟨[], []⟩ with
    | none => rw [e] at h; cases h
    | some s =>
      rw [e] at h
      have h' : (sgnOf bk s.r).map (fun c => s.t ++ [c]) = some t := h
      have hr : s.r ∈ bk.map (·.2) := sgnOf_row (by
        cases q : sgnOf bk s.r with
        | none => rw [q] at h'; cases h'
        | some c => rfl)
      have hx := run_path hf W 0 ⟨[], []⟩ s e hr
      obtain ⟨is, i1, i2, i3, i4, i5, i6⟩ := text_of_read hb hf hx (by omega) hr
      have : t = flatT is := by
        have e4 : textOfM bk f W = some t := by
          unfold textOfM
          rw [if_neg ho, e]; exact h'
        rw [e4] at i4
        exact Option.some.inj i4
      subst this
      exact ⟨is, i1, i2, i3, rfl, i5, i6, s.r, hx, by omega, hr⟩
end Z
namespace Z
open PySem PySem.Spec PyProof.Rows L2
variable [Vo]
theorem dput_kin {κ α : Type} [DecidableEq κ] {kvs : List (κ × α)} {k k' : κ} {v : α} : k' ∈ (dput kvs k v).map (·.1) ↔ k' = k ∨ k' ∈ kvs.map (·.1) := by
  rw [dput_keys]
  split
  · rename_i h
    constructor
    · exact .inr
    · rintro (e | e)
      · obtain ⟨p, hp, q⟩ := List.any_eq_true.mp h
        rw [e]
        exact List.mem_map.mpr ⟨p, hp, by simpa using q⟩
      · exact e
  · rw [List.mem_append, List.mem_singleton]
    exact Or.comm
section
variable {bk : Bk0} {f : Fo} {rec : Nat → AL} {many : Nat}
theorem rowPut_kin {acc : AL} {p : Nat × List Nat} {k : List Int} : k ∈ (rowPut rec f many acc p).map (·.1) ↔ k ∈ acc.map (·.1) ∨ (2 * p.2.length ≤ many + 1 ∧ ((rowW f p.2).length = many ∧ k = rowW f p.2 ∨ ∃ q, q ∈ rec (many - (rowW f p.2).length - 1) ∧ (k = rowW f p.2 ++ [f.b] ++ q.1 ∨ k = rowW f p.2 ++ [f.a] ++ q.1))) := by
  unfold rowPut
  split
  · rename_i hle
    have h0 : k ∈ (if (rowW f p.2).length = many then dput acc (rowW f p.2) [p.1] else acc).map (·.1) ↔ k ∈ acc.map (·.1) ∨ ((rowW f p.2).length = many ∧ k = rowW f p.2) := by
      split
      · rename_i e
        rw [dput_kin]
        constructor
        · rintro (h | h)
          · exact .inr ⟨e, h⟩
          · exact .inl h
        · rintro (h | h)
          · exact .inr h
          · exact .inl h.2
      · rename_i e
        constructor
        · exact .inl
        · rintro (h | h)
          · exact h
          · exact absurd h.1 e
    generalize (if (rowW f p.2).length = many then dput acc (rowW f p.2) [p.1] else acc) = a0 at h0
    generalize rec (many - (rowW f p.2).length - 1) = L
    have key : ∀ (L : AL) (a : AL), k ∈ (L.foldl (fun a q => dput (dput a (rowW f p.2 ++ [f.b] ++ q.1) ([p.1] ++ q.2)) (rowW f p.2 ++ [f.a] ++ q.1) ([p.1] ++ [32] ++ q.2)) a).map (·.1) ↔ k ∈ a.map (·.1) ∨ ∃ q, q ∈ L ∧ (k = rowW f p.2 ++ [f.b] ++ q.1 ∨ k = rowW f p.2 ++ [f.a] ++ q.1) := fun L => by
      induction L with
      | nil => intro a; simp
      | cons x r ih =>
        intro a
        rw [List.foldl_cons, ih, dput_kin, dput_kin]
        constructor
        · rintro ((h | h | h) | ⟨q, hq, h⟩)
          · exact .inr ⟨x, List.mem_cons_self, .inr h⟩
          · exact .inr ⟨x, List.mem_cons_self, .inl h⟩
          · exact .inl h
          · exact .inr ⟨q, List.mem_cons_of_mem _ hq, h⟩
        · rintro (h | ⟨q, hq, h⟩)
          · exact .inl (.inr (.inr h))
          · rcases List.mem_cons.mp hq with e | e
            · subst e
              rcases h with h | h
              · exact .inl (.inr (.inl h))
              · exact .inl (.inl h)
            · exact .inr ⟨q, e, h⟩
    rw [key, h0]
    constructor
    · rintro ((h | h) | h)
      · exact .inl h
      · exact .inr ⟨hle, .inl h⟩
      · exact .inr ⟨hle, .inr h⟩
    · rintro (h | ⟨_, h | h⟩)
      · exact .inl (.inl h)
      · exact .inl (.inr h)
      · exact .inr h
  · rename_i hle
    constructor
    · exact .inl
    · rintro (h | h)
      · exact h
      · exact absurd h.1 hle
theorem ends_kin {k : List Int} : ∀ (ps : Bk0) (acc : AL), k ∈ (ps.foldl (rowPut rec f many) acc).map (·.1) ↔ k ∈ acc.map (·.1) ∨ ∃ p, p ∈ ps ∧ (2 * p.2.length ≤ many + 1 ∧ ((rowW f p.2).length = many ∧ k = rowW f p.2 ∨ ∃ q, q ∈ rec (many - (rowW f p.2).length - 1) ∧ (k = rowW f p.2 ++ [f.b] ++ q.1 ∨ k = rowW f p.2 ++ [f.a] ++ q.1)))
  | [], acc => by simp
  | p :: r, acc => by
    rw [List.foldl_cons, ends_kin r, rowPut_kin]
    constructor
    · rintro ((h | h) | ⟨q, hq, h⟩)
      · exact .inl h
      · exact .inr ⟨p, List.mem_cons_self, h⟩
      · exact .inr ⟨q, List.mem_cons_of_mem _ hq, h⟩
    · rintro (h | ⟨q, hq, h⟩)
      · exact .inl (.inl h)
      · rcases List.mem_cons.mp hq with e | e
        · subst e; exact .inl (.inr h)
        · exact .inr ⟨q, e, h⟩
theorem all_in (hb : BkOk bk) : ∀ (n : Nat) (is : List Itm), is ≠ [] → (∀ i, i ∈ is → i.2 ∈ bk) → (itemsW f is).length ≤ 2 * n → itemsW f is ∈ (allF bk f n (itemsW f is).length).map (·.1)
  | 0, is, h0, h1, h2 => by
    have := items_len' (f := f) hb h1
    cases is with
    | nil => exact absurd rfl h0
    | cons i r => rw [List.length_cons] at this; omega
  | n + 1, is, h0, h1, h2 => by
    have hlen := items_len' (f := f) hb h1
    cases is with
    | nil => exact absurd rfl h0
    | cons i r =>
      rw [List.length_cons] at hlen
      have hi := h1 i List.mem_cons_self
      have hne := (hb.row i.2 hi).1
      have hrl := rowW_lenE (f := f) hne
      have e0 : allF bk f (n + 1) (itemsW f (i :: r)).length = outA (endsM (allF bk f n) bk f (itemsW f (i :: r)).length) := by
        show (if (itemsW f (i :: r)).length = 0 then [] else _) = _
        rw [if_neg (by omega)]
      rw [e0]
      have nd := ends_nd (rec := allF bk f n) (f := f) (many := (itemsW f (i :: r)).length) bk [] List.nodup_nil
      suffices hk : itemsW f (i :: r) ∈ (endsM (allF bk f n) bk f (itemsW f (i :: r)).length).map (·.1) by
        obtain ⟨q, hq, e⟩ := List.mem_map.mp hk
        exact List.mem_map.mpr ⟨q, (outA_mem nd).mpr hq, e⟩
      unfold endsM
      rw [ends_kin]
      refine .inr ⟨i.2, hi, ?_⟩
      cases r with
      | nil =>
        have e1 : itemsW f [i] = rowW f i.2.2 := by simp [itemsW]
        rw [e1]
        exact ⟨by omega, .inl ⟨rfl, rfl⟩⟩
      | cons j t =>
        have e1 := items_cons (f := f) (i := i) (is := j :: t) (by simp)
        have e2 : itemsW f ((false, j.2) :: t) = itemsW f (j :: t) := rfl
        have hl : (itemsW f (i :: j :: t)).length = (rowW f i.2.2).length + 1 + (itemsW f (j :: t)).length := by
          rw [e1, List.length_append, List.length_append]; rfl
        have ih := all_in hb n (j :: t) (by simp) (fun x hx => h1 x (List.mem_cons_of_mem _ hx)) (by omega)
        obtain ⟨q, hq, e3⟩ := List.mem_map.mp ih
        refine ⟨by omega, .inr ⟨q, ?_, ?_⟩⟩
        · have : (itemsW f (i :: j :: t)).length - (rowW f i.2.2).length - 1 = (itemsW f (j :: t)).length := by omega
          rw [this]; exact hq
        · have e1' : itemsW f (i :: j :: t) = rowW f i.2.2 ++ [if j.1 = true then f.a else f.b] ++ itemsW f (j :: t) := e1
          rw [e1', e3]
          by_cases hj1 : j.1 = true
          · rw [if_pos hj1]; exact .inr rfl
          · rw [if_neg hj1]; exact .inl rfl
end
theorem sgnOf_own {bk : Bk0} (hb : BkOk bk) {p : Nat × List Nat} (h : p ∈ bk) : sgnOf bk p.2 = some p.1 := by
  obtain ⟨c, hc⟩ := sgnOf_some (bk := bk) (List.mem_map.mpr ⟨p, h, rfl⟩)
  have hm := sgnOf_mem hc
  have : ∀ (l : Bk0), (l.map (·.2)).Nodup → p ∈ l → (c, p.2) ∈ l → c = p.1 := fun l => by
    induction l with
    | nil => intro _ h _; cases h
    | cons a r ih =>
      intro nd h1 h2
      rw [List.map_cons] at nd
      obtain ⟨n1, n2⟩ := List.nodup_cons.mp nd
      rcases List.mem_cons.mp h1 with e1 | e1 <;> rcases List.mem_cons.mp h2 with e2 | e2
      · rw [e1, ← e2]
      · exact absurd (List.mem_map.mpr ⟨(c, p.2), e2, by rw [e1]⟩) n1
      · exact absurd (List.mem_map.mpr ⟨p, e1, by rw [← e2]⟩) n1
      · exact ih n2 e1 e2
  rw [hc, this bk hb.rnd h hm]
theorem run_row {bk : Bk0} {f : Fo} (hf : FoOk f) : ∀ (r r0 t : List Nat) (n m : Nat), (∀ c, c ∈ r → c = 46 ∨ c = 45) → n % 2 = (if m = 0 then 0 else 1) → txRun bk f (en n (((en m r).map (rowG f)).flatten)) ⟨t, r0⟩ = some ⟨t, r0 ++ r⟩
  | [], r0, t, n, m, _, _ => by
    show some _ = some _
    rw [List.append_nil]
  | c :: r, r0, t, n, m, hc, hn => by
    have sl := hf.sl
    have wb := hf.wb
    have ba := hf.ba
    have hcc := hc c List.mem_cons_self
    have rest : ∀ n, n % 2 = 1 → txRun bk f (en n (((en (m + 1) r).map (rowG f)).flatten)) ⟨t, r0 ++ [c]⟩ = some ⟨t, r0 ++ (c :: r)⟩ := fun n hn => by
      have := run_row (bk := bk) hf r (r0 ++ [c]) t n (m + 1) (fun x hx => hc x (List.mem_cons_of_mem _ hx)) (by rw [if_neg (by omega)]; exact hn)
      rw [this]; simp
    have st : ∀ n, n % 2 = 0 → txStep bk f (n, sgW f c) ⟨t, r0⟩ = some ⟨t, r0 ++ [c]⟩ := fun n hn => by
      unfold txStep
      rw [if_pos ⟨hn, by unfold sgW; split <;> simp⟩]
      congr 3
      rcases hcc with e | e
      · subst e; unfold sgW; simp
      · subst e
        unfold sgW
        rw [if_neg (show ¬ (n, if (45 : Nat) = 46 then f.s else f.l).2 = f.s from fun z => by
          have z' : f.l = f.s := z
          omega)]
    have ee : ((en m (c :: r)).map (rowG f)).flatten = rowG f (m, c) ++ ((en (m + 1) r).map (rowG f)).flatten := rfl
    rw [ee]
    by_cases hm : m = 0
    · subst hm
      have e1 : rowG f (0, c) = [sgW f c] := rfl
      rw [e1]
      show (txStep bk f (n, sgW f c) ⟨t, r0⟩).bind (txRun bk f (en (n + 1) _)) = _
      rw [st n (by simpa using hn)]
      exact rest (n + 1) (by simp at hn; omega)
    · rw [if_neg hm] at hn
      have e1 : rowG f (m, c) = [f.w, sgW f c] := by
        unfold rowG
        rw [if_pos (by omega)]; rfl
      rw [e1]
      show (txStep bk f (n, f.w) ⟨t, r0⟩).bind (txRun bk f (en (n + 1) (sgW f c :: _))) = _
      have sw : txStep bk f (n, f.w) ⟨t, r0⟩ = some ⟨t, r0⟩ := by
        unfold txStep
        rw [if_neg (fun z => by have := z.1; simp only at this; omega), if_neg (fun z => by
          have := z.2.1
          simp only [List.mem_cons, List.not_mem_nil, or_false] at this
          omega), if_neg (fun z => by
          rcases z with z | z
          · simp only at z; omega
          · exact z rfl)]
      rw [sw]
      show (txStep bk f (n + 1, sgW f c) ⟨t, r0⟩).bind (txRun bk f (en (n + 2) _)) = _
      rw [st (n + 1) (by omega)]
      exact rest (n + 2) (by omega)
theorem text_items {bk : Bk0} (hb : BkOk bk) {f : Fo} (hf : FoOk f) {is : List Itm} (h0 : is ≠ []) (h1 : ∀ i, i ∈ is → i.2 ∈ bk) (h2 : ∀ i, is.head? = some i → i.1 = false) : textOfM bk f (itemsW f is) = some (flatT is) := by
  have sl := hf.sl
  have wb := hf.wb
  have ba := hf.ba
  cases is with
  | nil => exact absurd rfl h0
  | cons i r =>
    have hi := h1 i List.mem_cons_self
    have odd := itemsW_odd hb (f := f) h1 h0
    have run : ∀ (r : List Itm) (p : Nat × List Nat) (t : List Nat) (n : Nat), p ∈ bk → (∀ j, j ∈ r → j.2 ∈ bk) → n % 2 = 1 → ∃ s, txRun bk f (en n (r.flatMap fun i => (if i.1 then f.a else f.b) :: rowW f i.2.2)) ⟨t, p.2⟩ = some s ∧ (sgnOf bk s.r).map (fun c => s.t ++ [c]) = some (t ++ [p.1] ++ flatT r) := fun r => by
      induction r with
      | nil =>
        intro p t n hp _ _
        refine ⟨⟨t, p.2⟩, rfl, ?_⟩
        show (sgnOf bk p.2).map (fun c => t ++ [c]) = _
        rw [sgnOf_own hb hp]
        simp [flatT]
      | cons j r ih =>
        intro p t n hp hr hn
        have hj := hr j List.mem_cons_self
        have e1 : ((j :: r).flatMap fun i => (if i.1 then f.a else f.b) :: rowW f i.2.2) = (if j.1 then f.a else f.b) :: (rowW f j.2.2 ++ r.flatMap fun i => (if i.1 then f.a else f.b) :: rowW f i.2.2) := by simp
        rw [e1]
        have hst : txStep bk f (n, if j.1 then f.a else f.b) ⟨t, p.2⟩ = some ⟨t ++ ([p.1] ++ (if j.1 then [32] else [])), []⟩ := by
          unfold txStep
          rw [if_neg (fun z => by have := z.1; simp only at this; omega), if_pos ⟨hn, by cases j.1 <;> simp, by rw [sgnOf_own hb hp]; rfl⟩]
          rw [sgnOf_own hb hp]
          cases j.1
          · show some (Tx.mk (t ++ ([p.1] ++ if f.b = f.a then [32] else [])) []) = _
            rw [if_neg (by omega)]; rfl
          · show some (Tx.mk (t ++ ([p.1] ++ if f.a = f.a then [32] else [])) []) = _
            rw [if_pos rfl]; rfl
        have hrow := run_row (bk := bk) hf j.2.2 [] (t ++ ([p.1] ++ (if j.1 then [32] else []))) (n + 1) 0 (hb.row _ hj).2.2 (by simp; omega)
        have hrow' : txRun bk f (en (n + 1) (rowW f j.2.2)) ⟨t ++ ([p.1] ++ (if j.1 then [32] else [])), []⟩ = some ⟨t ++ ([p.1] ++ (if j.1 then [32] else [])), j.2.2⟩ := hrow
        have hlr := rowW_lenE (f := f) (hb.row _ hj).1
        obtain ⟨s, s1, s2⟩ := ih j.2 (t ++ ([p.1] ++ (if j.1 then [32] else []))) (n + 1 + (rowW f j.2.2).length) hj (fun x hx => hr x (List.mem_cons_of_mem _ hx)) (by omega)
        refine ⟨s, ?_, ?_⟩
        · show (txStep bk f (n, if j.1 then f.a else f.b) ⟨t, p.2⟩).bind (txRun bk f (en (n + 1) _)) = _
          rw [hst]
          show txRun bk f (en (n + 1) (rowW f j.2.2 ++ _)) _ = _
          rw [en_app, txRun_app, hrow']
          exact s1
        · rw [s2]
          congr 1
          unfold flatT flatI
          cases hj1 : j.1 <;> simp [hj1]
    have hrow := run_row (bk := bk) hf i.2.2 [] [] 0 0 (hb.row _ hi).2.2 rfl
    have hrow' : txRun bk f (en 0 (rowW f i.2.2)) ⟨[], []⟩ = some ⟨[], i.2.2⟩ := hrow
    have hlr := rowW_lenE (f := f) (hb.row _ hi).1
    obtain ⟨s, s1, s2⟩ := run r i.2 [] (0 + (rowW f i.2.2).length) hi (fun x hx => h1 x (List.mem_cons_of_mem _ hx)) (by omega)
    unfold textOfM
    rw [if_neg (by omega)]
    have e1 : itemsW f (i :: r) = rowW f i.2.2 ++ r.flatMap fun i => (if i.1 then f.a else f.b) :: rowW f i.2.2 := rfl
    rw [e1, en_app, txRun_app, hrow']
    show ((txRun bk f (en (0 + (rowW f i.2.2).length) _) ⟨[], i.2.2⟩).bind _) = _
    rw [s1]
    show (sgnOf bk s.r).map (fun c => s.t ++ [c]) = _
    rw [s2]
    have hf0 : i.1 = false := h2 i rfl
    unfold flatT flatI
    rw [List.flatMap_cons, hf0]
    rfl
theorem lexI_cons {x : Int} {a b : List Int} : lexI (x :: a) (x :: b) = lexI a b := by
  show (decide (x < x) || (!decide (x < x) && lexI a b)) = _
  simp
theorem lexI_lt1 {x y : Int} {a b : List Int} (h : x < y) : lexI (x :: a) (y :: b) = true := by
  show (decide (x < y) || _) = true
  simp [h]
theorem next_rise {rows : List (List Nat)} {f : Fo} (hf : FoOk f) {S : List Int} {h : Fr × Fr} {s : St4} : (nextM rows f S h s).Pairwise (fun p q => p.1 < q.1) := by
  have sl := hf.sl
  have wb := hf.wb
  have ba := hf.ba
  unfold nextM
  rw [← List.flatMap_def, List.pairwise_flatMap]
  have hm : ∀ (p : Int × List Nat) (q : Int × St4), q ∈ stepM S h s p → q.1 = p.1 := fun p q hq => by
    unfold stepM at hq
    split at hq
    · cases hq
    · rw [List.mem_singleton.mp hq]
  refine ⟨fun p _ => ?_, ?_⟩
  · unfold stepM
    split
    · exact List.Pairwise.nil
    · exact List.pairwise_singleton _ _
  · have : (choicesM rows f s.n s.row).Pairwise (fun p q => p.1 < q.1) := by
      unfold choicesM
      split
      · refine List.Pairwise.filter _ ?_
        exact List.pairwise_cons.mpr ⟨fun q hq => by rw [List.mem_singleton.mp hq]; exact sl, List.pairwise_singleton _ _⟩
      · split
        · refine List.pairwise_cons.mpr ⟨fun q hq => ?_, List.pairwise_cons.mpr ⟨fun q hq => by rw [List.mem_singleton.mp hq]; exact ba, List.pairwise_singleton _ _⟩⟩
          rcases List.mem_cons.mp hq with e | e
          · rw [e]; exact wb
          · rw [List.mem_singleton.mp e]
            show f.w < f.a
            omega
        · exact List.pairwise_singleton _ _
    refine this.imp fun {p q} hpq x hx y hy => ?_
    rw [hm p x hx, hm q y hy]; exact hpq
theorem rdF_rise {rows : List (List Nat)} {f : Fo} (hf : FoOk f) {S : List Int} {h : Fr × Fr} : ∀ (k : Nat) (s : St4), (rdF rows f h S k s).Pairwise (fun a b => lexI a b = true)
  | 0, s => by
    unfold rdF
    split
    · exact List.pairwise_singleton _ _
    · exact List.Pairwise.nil
  | k + 1, s => by
    show ((nextM rows f S h s).flatMap fun p => (rdF rows f h S k p.2).map (p.1 :: ·)).Pairwise _
    rw [List.pairwise_flatMap]
    refine ⟨fun p _ => ?_, (next_rise hf).imp fun {p q} hpq x hx y hy => ?_⟩
    · rw [List.pairwise_map]
      exact (rdF_rise hf k p.2).imp fun {a b} hab => by rw [lexI_cons]; exact hab
    · obtain ⟨a, _, rfl⟩ := List.mem_map.mp hx
      obtain ⟨b, _, rfl⟩ := List.mem_map.mp hy
      exact lexI_lt1 hpq
def noBarL (S : List Int) (h : Fr × Fr) (L : AL) : AL := L.filter fun q => (barM S q.1 h).isNone
theorem all_rise {bk : Bk0} {f : Fo} : ∀ n many, ((allF bk f n many).map (·.1)).Pairwise (fun a b => lexI a b = true)
  | 0, _ => List.Pairwise.nil
  | n + 1, many => by
    unfold allF
    split
    · exact List.Pairwise.nil
    · unfold outA
      rw [List.map_map]
      have : ((·.1) ∘ fun k => (k, (dget (endsM (allF bk f n) bk f many) k).getD [])) = (id : List Int → List Int) := rfl
      rw [this, List.map_id]
      exact sortI_rise (ends_nd bk [] List.nodup_nil)
theorem read_all {nb kb : Nat} {bk : Bk0} (hb : BkOk bk) {f : Fo} (hf : FoOk f) {S : List Int} {h : Fr × Fr} (hh : HOk' kb h) (hS : ∀ x, x ∈ S → 1 ≤ x ∧ x < 2 ^ nb) (h6 : 6 ≤ nb) {n : Nat} (hn : S.length ≤ 2 * n) (hodd : S.length % 2 = 1) :
    (readM (bk.map (·.2)) f h S).map (textOfM bk f) = (noBarL S h (allF bk f n S.length)).map fun q => some q.2 := by
  have sw : ∀ W : List Int, (∀ x, x ∈ W → 1 ≤ x ∧ x ≤ 60) → W.length = S.length → SWok nb S W := fun W hW hl => ⟨hS, fun x hx => by
    have := hW x hx
    have h2 : (2 : Int) ^ 6 ≤ 2 ^ nb := by
      have : (2 : Nat) ^ 6 ≤ 2 ^ nb := Nat.pow_le_pow_right (by decide) h6
      exact_mod_cast this
    omega, by omega⟩
  have e1 : readM (bk.map (·.2)) f h S = (noBarL S h (allF bk f n S.length)).map (·.1) := by
    refine rise_uniq (rdF_rise hf _ _) ?_ fun W => ?_
    · have hs : ((noBarL S h (allF bk f n S.length)).map (·.1)).Sublist ((allF bk f n S.length).map (·.1)) := List.Sublist.map _ List.filter_sublist
      exact (all_rise n S.length).sublist hs
    · rw [mem_read]
      constructor
      · rintro ⟨hl, ⟨r, hx, _, hr⟩, al⟩
        obtain ⟨is, i1, i2, i3, i4, i5, i6⟩ := text_of_read hb hf hx (by omega) hr
        have hin := all_in (f := f) hb n is i1 i2 (by rw [← i5]; omega)
        rw [← i5, hl] at hin
        obtain ⟨q, hq, e⟩ := List.mem_map.mp hin
        refine List.mem_map.mpr ⟨q, List.mem_filter.mpr ⟨hq, ?_⟩, e⟩
        have hW : ∀ x, x ∈ W → 1 ≤ x ∧ x ≤ 60 := fun x hx => itemsW_w hf (is := is) x (by rw [← i5]; exact hx)
        show (barM S q.1 h).isNone = true
        rw [e, (bar_alive (sw W hW hl) hh).mpr al]; rfl
      · intro hW
        obtain ⟨q, hq, e⟩ := List.mem_map.mp hW
        obtain ⟨hq1, hq2⟩ := List.mem_filter.mp hq
        obtain ⟨⟨is, i1, i2, i3, i4, i5⟩, il⟩ := all_ok hb n _ q hq1
        rw [e] at i5 il
        cases is with
        | nil => exact absurd rfl i1
        | cons i r =>
          obtain ⟨r', p1, p2, p3⟩ := items_path (f := f) hb (i2 i List.mem_cons_self) r.length r rfl (fun j hj => i2 j (List.mem_cons_of_mem _ hj))
          have hW' : ∀ x, x ∈ W → 1 ≤ x ∧ x ≤ 60 := fun x hx => itemsW_w hf (is := i :: r) x (by rw [← i5]; exact hx)
          refine ⟨il, ⟨r', by rw [i5]; exact p1, hodd, p3⟩, (bar_alive (sw W hW' il) hh).mp ?_⟩
          have : (barM S q.1 h).isNone = true := hq2
          rw [e] at this
          exact Option.isNone_iff_eq_none.mp this
  rw [e1, List.map_map]
  refine List.map_congr_left fun q hq => ?_
  obtain ⟨⟨is, i1, i2, i3, i4, i5⟩, il⟩ := all_ok hb n _ q (List.mem_filter.mp hq).1
  show textOfM bk f q.1 = some q.2
  rw [i5, i4]
  exact text_items hb hf i1 i2 i3
theorem read_even {rows : List (List Nat)} {f : Fo} {S : List Int} {h : Fr × Fr} (he : S.length % 2 = 0) : readM rows f h S = [] := by
  refine List.eq_nil_iff_forall_not_mem.mpr fun W hW => ?_
  obtain ⟨_, ⟨_, _, ho, _⟩, _⟩ := mem_read.mp hW
  omega
end Z
namespace Z
open PySem PySem.Spec PyProof.Rows L2
variable [Vo]
def gMx (rs : List Fr) (g : Fr) : Fr := rs.foldl (fun g r => if lessM g r then r else g) g
def lMn (rs : List Fr) (l : Fr) : Fr := rs.foldl (fun l r => if lessM r l then r else l) l
theorem gMx_ok : ∀ (rs : List Fr) (g : Fr), (∀ r, r ∈ rs → 0 < r.2) → 0 < g.2 → (gMx rs g = g ∨ gMx rs g ∈ rs) ∧ vl g ≤ vl (gMx rs g) ∧ (∀ r, r ∈ rs → vl r ≤ vl (gMx rs g)) ∧ 0 < (gMx rs g).2
  | [], g, _, hg => ⟨.inl rfl, (by show vl g ≤ vl g; grind), (fun _ h => by cases h), hg⟩
  | a :: r, g, hr, hg => by
    have ha := hr a List.mem_cons_self
    have e : gMx (a :: r) g = gMx r (if lessM g a then a else g) := rfl
    rw [e]
    cases hc : lessM g a
    · rw [if_neg (by simp)]
      have hv := (vl_le hg ha).mp hc
      obtain ⟨i1, i2, i3, i4⟩ := gMx_ok r g (fun x hx => hr x (List.mem_cons_of_mem _ hx)) hg
      refine ⟨i1.imp id (List.mem_cons_of_mem _), i2, fun x hx => ?_, i4⟩
      rcases List.mem_cons.mp hx with z | z
      · subst z; grind
      · exact i3 x z
    · rw [if_pos rfl]
      have hv := (vl_lt hg ha).mp hc
      obtain ⟨i1, i2, i3, i4⟩ := gMx_ok r a (fun x hx => hr x (List.mem_cons_of_mem _ hx)) ha
      refine ⟨.inr ?_, by grind, fun x hx => ?_, i4⟩
      · rcases i1 with z | z
        · rw [z]; exact List.mem_cons_self
        · exact List.mem_cons_of_mem _ z
      · rcases List.mem_cons.mp hx with z | z
        · subst z; exact i2
        · exact i3 x z
theorem lMn_ok : ∀ (rs : List Fr) (l : Fr), (∀ r, r ∈ rs → 0 < r.2) → 0 < l.2 → (lMn rs l = l ∨ lMn rs l ∈ rs) ∧ vl (lMn rs l) ≤ vl l ∧ (∀ r, r ∈ rs → vl (lMn rs l) ≤ vl r) ∧ 0 < (lMn rs l).2
  | [], g, _, hg => ⟨.inl rfl, (by show vl g ≤ vl g; grind), (fun _ h => by cases h), hg⟩
  | a :: r, g, hr, hg => by
    have ha := hr a List.mem_cons_self
    have e : lMn (a :: r) g = lMn r (if lessM a g then a else g) := rfl
    rw [e]
    cases hc : lessM a g
    · rw [if_neg (by simp)]
      have hv := (vl_le ha hg).mp hc
      obtain ⟨i1, i2, i3, i4⟩ := lMn_ok r g (fun x hx => hr x (List.mem_cons_of_mem _ hx)) hg
      refine ⟨i1.imp id (List.mem_cons_of_mem _), i2, fun x hx => ?_, i4⟩
      rcases List.mem_cons.mp hx with z | z
      · subst z; grind
      · exact i3 x z
    · rw [if_pos rfl]
      have hv := (vl_lt ha hg).mp hc
      obtain ⟨i1, i2, i3, i4⟩ := lMn_ok r a (fun x hx => hr x (List.mem_cons_of_mem _ hx)) ha
      refine ⟨.inr ?_, by grind, fun x hx => ?_, i4⟩
      · rcases i1 with z | z
        · rw [z]; exact List.mem_cons_self
        · exact List.mem_cons_of_mem _ z
      · rcases List.mem_cons.mp hx with z | z
        · subst z; exact i2
        · exact i3 x z
def ratM (S W : List Int) : List Fr := (S.zip W).map fun p => madeM p.1 p.2
def serveM (S W : List Int) (s : Fr) : Bool :=
  let rs := ratM S W
  let r0 := rs.headD (1, 1)
  decide ((gMx rs r0).1 * (lMn rs r0).2 * (s.2 - s.1) ≤ (lMn rs r0).1 * (gMx rs r0).2 * (s.2 + s.1))
theorem pw_one : ∀ n, pw (vl (1, 1)) n = 1
  | 0 => rfl
  | n + 1 => by
    have e : vl ((1, 1) : Fr) = 1 := by unfold vl; grind
    show pw (vl (1, 1)) n * vl (1, 1) = 1
    rw [pw_one n, e]; grind
theorem pair_iff {si wi sj wj B T : Rat} (hwi : 0 < wi) (hwj : 0 < wj) (hT : 0 ≤ T) (hTB : T < B) : (si * B) / (wi * (B + T)) ≤ (sj * B) / (wj * (B - T)) ↔ si / wi * (B - T) ≤ sj / wj * (B + T) := by
  have hB : 0 < B := by grind
  have p1 : 0 < B + T := by grind
  have p2 : 0 < B - T := by grind
  have n1 : wi ≠ 0 := by grind
  have n2 : wj ≠ 0 := by grind
  have n3 : B + T ≠ 0 := by grind
  have n4 : B - T ≠ 0 := by grind
  have pp : 0 < (B + T) * (B - T) := Rat.mul_pos p1 p2
  have e1 : (si * B) / (wi * (B + T)) * ((B + T) * (B - T)) = si / wi * (B - T) * B := by grind
  have e2 : (sj * B) / (wj * (B - T)) * ((B + T) * (B - T)) = sj / wj * (B + T) * B := by grind
  constructor
  · intro h
    have := mul_le_r h (Rat.le_of_lt pp)
    rw [e1, e2] at this
    exact rat_mul_le hB this
  · intro h
    have := mul_le_r h (Rat.le_of_lt hB)
    rw [← e1, ← e2] at this
    exact rat_mul_le pp this
theorem serve_iff {nb kb : Nat} {S W : List Int} {s : Fr} (ok : SWok nb S W) (hl : S.length = W.length) (h0 : 0 < S.length) (hh : HOk' kb (s, (1, 1))) : serveM S W s = true ↔ barM S W (s, (1, 1)) = none := by
  obtain ⟨so1, so2⟩ := hh.so
  have so1 : 0 ≤ s.1 := so1
  have so2 : s.1 < s.2 := so2
  have rl : (ratM S W).length = S.length := by unfold ratM; rw [List.length_map, List.length_zip]; omega
  have rget : ∀ i, i < S.length → (ratM S W)[i]? = some (madeM (zw S W i).1 (zw S W i).2) := fun i hi => by
    unfold ratM
    rw [List.getElem?_map, zw_get hi ok.l]; rfl
  have rp : ∀ r, r ∈ ratM S W → 0 < r.2 := fun r hr => by
    obtain ⟨p, hp, rfl⟩ := List.mem_map.mp hr
    have := ok.w _ (zw_mem hp).2
    exact (madeM_rd (a := p.1) (show 0 < p.2 by omega)).1
  have hd0 : (ratM S W).headD (1, 1) ∈ ratM S W := by
    cases q : ratM S W with
    | nil => rw [q] at rl; simp at rl; omega
    | cons a r => exact List.mem_cons_self
  obtain ⟨g1, g2, g3, g4⟩ := gMx_ok (ratM S W) ((ratM S W).headD (1, 1)) rp (rp _ hd0)
  obtain ⟨l1, l2, l3, l4⟩ := lMn_ok (ratM S W) ((ratM S W).headD (1, 1)) rp (rp _ hd0)
  unfold serveM
  simp only
  generalize hg : gMx (ratM S W) ((ratM S W).headD (1, 1)) = g at *
  generalize hm : lMn (ratM S W) ((ratM S W).headD (1, 1)) = m at *
  have gin : g ∈ ratM S W := by
    rcases g1 with z | z
    · rw [z]; exact hd0
    · exact z
  have min' : m ∈ ratM S W := by
    rcases l1 with z | z
    · rw [z]; exact hd0
    · exact z
  have at_i : ∀ r, r ∈ ratM S W → ∃ i, i < S.length ∧ r = madeM (zw S W i).1 (zw S W i).2 := fun r hr => by
    obtain ⟨i, hi⟩ := List.mem_iff_getElem?.mp hr
    have hlt := (List.getElem?_eq_some_iff.mp hi).1
    rw [rl] at hlt
    rw [rget i hlt] at hi
    exact ⟨i, hlt, (Option.some.inj hi).symm⟩
  have T0 : (0 : Rat) ≤ (s.1 : Rat) := by exact_mod_cast so1
  have TB : (s.1 : Rat) < (s.2 : Rat) := by exact_mod_cast so2
  have key : ∀ i j, i < S.length → j < S.length → (barB S W (s, (1, 1)) i j = false ↔ vl (madeM (zw S W i).1 (zw S W i).2) * ((s.2 : Rat) - (s.1 : Rat)) ≤ vl (madeM (zw S W j).1 (zw S W j).2) * ((s.2 : Rat) + (s.1 : Rat))) := fun i j hi hj => by
    have zi := zw_ok ok hi
    have zj := zw_ok ok hj
    rw [barB_iff ok hh hi hj, pw_one]
    unfold loR hiR loZ hiZ loM hiM
    have pi : 0 < (zw S W i).2 * (s.2 + s.1) := Int.mul_pos (by omega) (by omega)
    have pj : 0 < (zw S W j).2 * (s.2 - s.1) := Int.mul_pos (by omega) (by omega)
    show vl (madeM ((zw S W i).1 * s.2) ((zw S W i).2 * (s.2 + s.1))) ≤ vl (madeM ((zw S W j).1 * s.2) ((zw S W j).2 * (s.2 - s.1))) * 1 ↔ _
    rw [vl_made pi, vl_made pj, vl_made (show 0 < (zw S W i).2 by omega), vl_made (show 0 < (zw S W j).2 by omega)]
    have wi : (0 : Rat) < ((zw S W i).2 : Rat) := by exact_mod_cast (show 0 < (zw S W i).2 by omega)
    have wj : (0 : Rat) < ((zw S W j).2 : Rat) := by exact_mod_cast (show 0 < (zw S W j).2 by omega)
    have := pair_iff (si := ((zw S W i).1 : Rat)) (sj := ((zw S W j).1 : Rat)) wi wj T0 TB
    push_cast
    rw [← this]
    constructor
    · intro q; grind
    · intro q; grind
  have e1 : barM S W (s, (1, 1)) = none ↔ vl g * ((s.2 : Rat) - (s.1 : Rat)) ≤ vl m * ((s.2 : Rat) + (s.1 : Rat)) := by
    rw [barM_none]
    constructor
    · intro q
      obtain ⟨i, hi, rfl⟩ := at_i g gin
      obtain ⟨j, hj, rfl⟩ := at_i m min'
      exact (key i j hi hj).mp (q i j hi hj)
    · intro q i j hi hj
      refine (key i j hi hj).mpr ?_
      have a := g3 _ (List.mem_of_getElem? (rget i hi))
      have b := l3 _ (List.mem_of_getElem? (rget j hj))
      have a' := mul_le_r a (show (0 : Rat) ≤ (s.2 : Rat) - (s.1 : Rat) by grind)
      have b' := mul_le_r b (show (0 : Rat) ≤ (s.2 : Rat) + (s.1 : Rat) by grind)
      grind
  rw [e1, decide_eq_true_iff]
  have vg : vl g = (g.1 : Rat) / (g.2 : Rat) := rfl
  have vm : vl m = (m.1 : Rat) / (m.2 : Rat) := rfl
  have cg := cast_pos g4
  have cm := cast_pos l4
  have ng := cast_ne g4
  have nm := cast_ne l4
  have pp : (0 : Rat) < (g.2 : Rat) * (m.2 : Rat) := Rat.mul_pos cg cm
  rw [vg, vm]
  have x1 : (g.1 : Rat) / (g.2 : Rat) * ((s.2 : Rat) - (s.1 : Rat)) * ((g.2 : Rat) * (m.2 : Rat)) = ((g.1 * m.2 * (s.2 - s.1) : Int) : Rat) := by push_cast; grind
  have x2 : (m.1 : Rat) / (m.2 : Rat) * ((s.2 : Rat) + (s.1 : Rat)) * ((g.2 : Rat) * (m.2 : Rat)) = ((m.1 * g.2 * (s.2 + s.1) : Int) : Rat) := by push_cast; grind
  constructor
  · intro q
    have q' : ((g.1 * m.2 * (s.2 - s.1) : Int) : Rat) ≤ ((m.1 * g.2 * (s.2 + s.1) : Int) : Rat) := by exact_mod_cast q
    rw [← x1, ← x2] at q'
    exact rat_mul_le pp q'
  · intro q
    have q' := mul_le_r q (Rat.le_of_lt pp)
    rw [x1, x2] at q'
    exact_mod_cast q'
end Z
namespace Z
open PySem PySem.Spec PyProof.Rows L2
variable [Vo]
def unflag : List Itm → List Itm
  | [] => []
  | i :: r => (false, i.2) :: r
theorem itemsW_unflag {f : Fo} : ∀ is : List Itm, itemsW f (unflag is) = itemsW f is
  | [] => rfl
  | _ :: _ => rfl
theorem unflag_bk {bk : Bk0} {is : List Itm} (h : ∀ i, i ∈ is → i.2 ∈ bk) : ∀ i, i ∈ unflag is → i.2 ∈ bk := fun i hi => by
  cases is with
  | nil => cases hi
  | cons a r =>
    rcases List.mem_cons.mp hi with e | e
    · subst e; exact h a List.mem_cons_self
    · exact h i (List.mem_cons_of_mem _ e)
theorem unflag_hd {is : List Itm} : ∀ i, (unflag is).head? = some i → i.1 = false := fun i hi => by
  cases is with
  | nil => cases hi
  | cons a r => cases hi; rfl
theorem itemsW_app {f : Fo} {is r : List Itm} {x : Itm} (h : is ≠ []) : itemsW f (is ++ x :: r) = itemsW f is ++ [if x.1 then f.a else f.b] ++ itemsW f (x :: r) := by
  cases is with
  | nil => exact absurd rfl h
  | cons i t =>
    show rowW f i.2.2 ++ (t ++ x :: r).flatMap _ = (rowW f i.2.2 ++ t.flatMap _) ++ _ ++ (rowW f x.2.2 ++ r.flatMap _)
    simp
theorem flatT_unflag {bk : Bk0} (hb : BkOk bk) {is : List Itm} (h : ∀ i, i ∈ is → i.2 ∈ bk) : (flatT is).dropWhile isB = flatT (unflag is) := by
  cases is with
  | nil => rfl
  | cons i r =>
    have hc : isB i.2.1 = false := by
      unfold isB
      have := hb.sp _ (h i List.mem_cons_self)
      simp [this]
    unfold flatT unflag flatI
    rw [List.flatMap_cons, List.flatMap_cons]
    cases hf : i.1
    · simp [hc]
    · have h32 : isB 32 = true := rfl
      simp [hc, h32]
theorem cut_text : ∀ (is : List Itm) (n : Nat), n ≤ (flatT is).length → ∃ a b, is = a ++ b ∧ (((flatT is).take n = flatT a ∧ (flatT is).drop n = flatT b) ∨ ((flatT is).take n = flatT a ++ [32] ∧ (flatT is).drop n = flatT (unflag b) ∧ b ≠ []))
  | [], n, h => ⟨[], [], rfl, .inl ⟨by simp [flatT], by simp [flatT]⟩⟩
  | i :: r, n, h => by
    have ef : flatT (i :: r) = flatI i ++ flatT r := by unfold flatT; rw [List.flatMap_cons]
    by_cases h0 : n = 0
    · subst h0
      exact ⟨[], i :: r, rfl, .inl ⟨rfl, rfl⟩⟩
    by_cases h1 : (flatI i).length ≤ n
    · rw [ef, List.length_append] at h
      obtain ⟨a, b, e, q⟩ := cut_text r (n - (flatI i).length) (by omega)
      refine ⟨i :: a, b, by rw [e]; rfl, ?_⟩
      have t1 : (flatT (i :: r)).take n = flatI i ++ (flatT r).take (n - (flatI i).length) := by
        rw [ef, List.take_append, List.take_of_length_le h1]
      have d1 : (flatT (i :: r)).drop n = (flatT r).drop (n - (flatI i).length) := by
        rw [ef, List.drop_append, List.drop_of_length_le h1]; rfl
      have ea : flatT (i :: a) = flatI i ++ flatT a := by unfold flatT; rw [List.flatMap_cons]
      rw [t1, d1, ea]
      rcases q with ⟨q1, q2⟩ | ⟨q1, q2, q3⟩
      · exact .inl ⟨by rw [q1], q2⟩
      · exact .inr ⟨by rw [q1, List.append_assoc], q2, q3⟩
    · refine ⟨[], i :: r, rfl, ?_⟩
      have hfl : (flatI i).length = (if i.1 then 1 else 0) + 1 := by unfold flatI; cases i.1 <;> rfl
      have hi1 : i.1 = true := by
        cases q : i.1
        · rw [hfl, q] at h1; simp at h1; omega
        · rfl
      rw [hi1] at hfl
      have hn : n = 1 := by simp at hfl; omega
      subst hn
      have eI : flatI i = [32, i.2.1] := by unfold flatI; rw [hi1]; rfl
      refine .inr ⟨by rw [ef, eI]; rfl, ?_, by simp⟩
      rw [ef, eI]
      unfold unflag flatT flatI
      rw [List.flatMap_cons]
      rfl
theorem cut_in {bk : Bk0} (hb : BkOk bk) {is : List Itm} (h1 : ∀ i, i ∈ is → i.2 ∈ bk) (h2 : ∀ i, is.head? = some i → i.1 = false) {n : Nat} (hn : 1 ≤ n) (hl : n < (flatT is).length) : ∃ a b, is = a ++ b ∧ a ≠ [] ∧ b ≠ [] ∧ Txt.rstripChars (mk ((flatT is).take n)) (mk [32]) = mk (flatT a) ∧ ((flatT is).drop n).dropWhile isB = flatT (unflag b) := by
  obtain ⟨a, b, e, q⟩ := cut_text is n (by omega)
  have ha1 : ∀ i, i ∈ a → i.2 ∈ bk := fun i hi => h1 i (by rw [e]; exact List.mem_append_left _ hi)
  have hb1 : ∀ i, i ∈ b → i.2 ∈ bk := fun i hi => h1 i (by rw [e]; exact List.mem_append_right _ hi)
  have hb2 : b ≠ [] := by
    rintro rfl
    rcases q with ⟨_, q2⟩ | ⟨_, _, q3⟩
    · have : ((flatT is).drop n).length = 0 := by rw [q2]; rfl
      rw [List.length_drop] at this
      omega
    · exact q3 rfl
  have ha2 : a ≠ [] := by
    rintro rfl
    have e' : is = b := e
    cases b with
    | nil => exact hb2 rfl
    | cons i r =>
      have hi : i.1 = false := h2 i (by rw [e']; rfl)
      have hsp := hb.sp _ (hb1 i List.mem_cons_self)
      have ef : flatT is = i.2.1 :: flatT r := by rw [e']; unfold flatT flatI; rw [List.flatMap_cons, hi]; rfl
      obtain ⟨m, rfl⟩ : ∃ m, n = m + 1 := ⟨n - 1, by omega⟩
      rw [ef, List.take_succ_cons] at q
      rcases q with ⟨q1, _⟩ | ⟨q1, _⟩
      · cases q1
      · injection q1 with z _; exact hsp z
  refine ⟨a, b, e, ha2, hb2, ?_, ?_⟩
  · rcases q with ⟨q1, _⟩ | ⟨q1, _⟩
    · rw [q1]; exact rstrip_mk (k := 0) (by simp) (flatT_last hb ha1)
    · rw [q1]; exact rstrip_mk (k := 1) rfl (flatT_last hb ha1)
  · rcases q with ⟨_, q2⟩ | ⟨_, q2, _⟩
    · rw [q2, flatT_unflag hb hb1]
    · rw [q2, flatT_unflag hb (unflag_bk hb1)]
      cases b <;> rfl
def rdT (bk : Bk0) (f : Fo) (h : Fr × Fr) (S : List Int) : List (List Nat) := (noBarL S h (allF bk f 5 S.length)).map (·.2)
theorem rdT_read {nb kb : Nat} {bk : Bk0} (hb : BkOk bk) {f : Fo} {h : Fr × Fr} {S : List Int} (no : NumOk nb kb f h S) (h10 : S.length ≤ 10) (ho : S.length % 2 = 1) : (readM (bk.map (·.2)) f h S).map (textOfM bk f) = (rdT bk f h S).map some := by
  rw [read_all hb no.ff no.hh no.bd no.six (n := 5) (by omega) ho]
  unfold rdT
  rw [List.map_map]; rfl
theorem rdT_mem {bk : Bk0} (hb : BkOk bk) {f : Fo} {h : Fr × Fr} {S : List Int} {t : List Nat} (ht : t ∈ rdT bk f h S) : ∃ is : List Itm, is ≠ [] ∧ (∀ i, i ∈ is → i.2 ∈ bk) ∧ (∀ i, is.head? = some i → i.1 = false) ∧ t = flatT is ∧ (itemsW f is).length = S.length ∧ barM S (itemsW f is) h = none := by
  obtain ⟨q, hq, rfl⟩ := List.mem_map.mp ht
  obtain ⟨q1, q2⟩ := List.mem_filter.mp hq
  obtain ⟨⟨is, i1, i2, i3, i4, i5⟩, il⟩ := all_ok hb 5 _ q q1
  refine ⟨is, i1, i2, i3, i4, by rw [← i5]; exact il, ?_⟩
  rw [← i5]
  exact Option.isNone_iff_eq_none.mp q2
theorem rdT_in {bk : Bk0} (hb : BkOk bk) {f : Fo} (hf : FoOk f) {h : Fr × Fr} {S : List Int} (h10 : S.length ≤ 10) {is : List Itm} (i1 : is ≠ []) (i2 : ∀ i, i ∈ is → i.2 ∈ bk) (i3 : ∀ i, is.head? = some i → i.1 = false) (hl : (itemsW f is).length = S.length) (hn : barM S (itemsW f is) h = none) : flatT is ∈ rdT bk f h S := by
  have hin := all_in (f := f) hb 5 is i1 i2 (by omega)
  rw [hl] at hin
  obtain ⟨q, hq, e⟩ := List.mem_map.mp hin
  have hq2 : q.2 = flatT is := by
    obtain ⟨⟨js, j1, j2, j3, j4, j5⟩, jl⟩ := all_ok hb 5 _ q hq
    have a := text_items hb hf i1 i2 i3
    have b := text_items hb hf j1 j2 j3
    rw [← j5, e, a] at b
    rw [j4]
    exact (Option.some.inj b).symm
  refine List.mem_map.mpr ⟨q, List.mem_filter.mpr ⟨hq, ?_⟩, hq2⟩
  show (barM S q.1 h).isNone = true
  rw [e, hn]; rfl
def tellT (bk : Bk0) (f : Fo) (h : Fr × Fr) (S : List Int) : List (List Nat) := if (rdT bk f h S).length ≤ 400 then rdT bk f h S else []
theorem tellT_mem {bk : Bk0} {f : Fo} {h : Fr × Fr} {S : List Int} {t : List Nat} (ht : t ∈ tellT bk f h S) : t ∈ rdT bk f h S := by
  unfold tellT at ht
  split at ht
  · exact ht
  · cases ht
theorem tellT_in {bk : Bk0} {f : Fo} {h : Fr × Fr} {S : List Int} {t : List Nat} (ht : t ∈ rdT bk f h S) (hne : tellT bk f h S ≠ []) : t ∈ tellT bk f h S := by
  unfold tellT at hne ⊢
  split at hne
  · rename_i q; rw [if_pos q]; exact ht
  · exact absurd rfl hne
theorem zw_app {S1 S2 W1 W2 : List Int} {r x : Int} (e1 : W1.length = S1.length) : (S1 ++ [r] ++ S2).zip (W1 ++ [x] ++ W2) = S1.zip W1 ++ (r, x) :: S2.zip W2 := by
  rw [List.append_assoc, List.append_assoc, List.zip_append e1.symm]; rfl
theorem bar_app {S1 S2 W1 W2 : List Int} {r x : Int} {h : Fr × Fr} (e1 : W1.length = S1.length) (e2 : W2.length = S2.length) (hn : barM (S1 ++ [r] ++ S2) (W1 ++ [x] ++ W2) h = none) : barM S1 W1 h = none ∧ barM S2 W2 h = none := by
  rw [barM_none] at hn
  have hz1 : ∀ i, i < S1.length → zw (S1 ++ [r] ++ S2) (W1 ++ [x] ++ W2) i = zw S1 W1 i := fun i hi => by
    unfold zw
    rw [zw_app e1, List.getD_eq_getElem?_getD, List.getD_eq_getElem?_getD, List.getElem?_append_left (by rw [List.length_zip]; omega)]
  have hz2 : ∀ i, i < S2.length → zw (S1 ++ [r] ++ S2) (W1 ++ [x] ++ W2) (S1.length + 1 + i) = zw S2 W2 i := fun i hi => by
    unfold zw
    have hl : (S1.zip W1).length = S1.length := by rw [List.length_zip]; omega
    rw [zw_app e1, List.getD_eq_getElem?_getD, List.getD_eq_getElem?_getD, List.getElem?_append_right (by omega)]
    have : S1.length + 1 + i - (S1.zip W1).length = i + 1 := by omega
    rw [this, List.getElem?_cons_succ]
  have hl : (S1 ++ [r] ++ S2).length = S1.length + 1 + S2.length := by simp; omega
  constructor
  · rw [barM_none]
    intro i j hi hj
    have := hn i j (by omega) (by omega)
    unfold barB loZ hiZ at this ⊢
    rw [hz1 i hi, hz1 j hj] at this
    exact this
  · rw [barM_none]
    intro i j hi hj
    have := hn (S1.length + 1 + i) (S1.length + 1 + j) (by omega) (by omega)
    unfold barB loZ hiZ at this ⊢
    rw [hz2 i hi, hz2 j hj] at this
    have ea : apart (S1.length + 1 + i) (S1.length + 1 + j) = apart i j := by unfold apart; omega
    rw [ea] at this
    exact this
end Z
namespace Z
open PySem PySem.Spec PyProof.Rows L2
variable [Vo]
section
variable {P : Program} {w : World} {K : PySem.W.Frag} {mg : Str → Option Value} {base : Heap}
abbrev N_TooMany_init : List Str := ["self", "many"]
theorem sc_TooMany_init : FnScope N_TooMany_init ["self", "many"] (defScope st_TooMany_init) := ⟨rfl, rfl, rfl, by decide +kernel, rfl, by decide +kernel, by decide +kernel⟩
theorem ok_TooMany_init {CM CB : Addr} {f : Addr} {fd : FuncData} (F : Fun K "__init__" "TooMany.__init__" st_TooMany_init f fd) (M : MeI K CM) (hM : mg "MeantError" = some (.ref CM)) (XC : OxC K CB "many") : FnOk P w K mg base CX0 1 f fd ["self", "many"] (spI1 CB "many") := by
  refine F.ok sc_TooMany_init (fun vs H Q E h => by obtain ⟨_, _, rfl, _⟩ := h; rfl) (fun cdv A outer s H vs Q E hr hq => ⟨_, pss_cons (ps_expr (pe_cinit rfl hM M (pa_cons (pe_var (i := 0) rfl (.inl rfl)) (pa_cons pe_str pa_nil)))) (pss_cons (ps_ost (pe_var (i := 0) rfl (.inl rfl)) (pe_var (i := 1) rfl (.inl rfl))) pss_nil), ?_⟩)
  obtain ⟨a, v, rfl, ha, k⟩ := hq
  have h0 : start N_TooMany_init [V.ref a, v] = [some (V.ref a), some v] := rfl
  rw [h0]
  refine ⟨V.ref a, rfl, ?_⟩
  refine ⟨a, CB, [V.str "more than are told"], rfl, by decide, XC.T, ha, ?_⟩
  exact ⟨v, rfl, V.ref a, rfl, a, CB, rfl, XC.T, XC.nf, .inl ⟨ha, fun dx h1 h2 => k dx h1 h2⟩⟩
end
end Z
namespace Z
open PySem PySem.Spec PyProof.Rows L2
variable [Vo]
section
variable {P : Program} {w : World} {K : PySem.W.Frag} {mg : Str → Option Value} {base : Heap} {C CT : Addr}
theorem range_getD {α β : Type} (l : List α) (g : α → β) (z : α) : (List.range l.length).map (fun k => g (l.getD k z)) = l.map g := by
  refine List.ext_getElem? fun i => ?_
  rw [List.getElem?_map, List.getElem?_map]
  by_cases h : i < l.length
  · rw [List.getElem?_range h, List.getElem?_eq_getElem h]
    simp [List.getD_eq_getElem?_getD, List.getElem?_eq_getElem h]
  · rw [List.getElem?_eq_none (by rw [List.length_range]; omega), List.getElem?_eq_none (by omega)]; rfl
def ocRead (K : PySem.W.Frag) (CT : Addr) (bk : Bk0) (f : Fo) (h : Fr × Fr) (S : List Int) : Oc := if (readM (bk.map (·.2)) f h S).length ≤ 400 then .ret (.list ((readM (bk.map (·.2)) f h S).map fun W => dTx (textOfM bk f W))) else .exc (.ref CT) (pxF "many" (DD K (.int ((readM (bk.map (·.2)) f h S).length : Nat))))
def q_readX (K : PySem.W.Frag) (CT : Addr) (Rs : List RP) (oc : Oc) : Prop := ∃ (nb kb : Nat) (bk : Bk0) (f : Fo) (h : Fr × Fr) (S : List Int), BkOk bk ∧ NumOk nb kb f h S ∧ S.length ≤ 61 ∧ (domW (bk.map (·.2)) f h S).length ≤ 16777215 ∧
  Rs = [DD K (dBk bk), DD K (dFo f), DD K (dH h), DD K (encIs S), DD K (.int 400)] ∧ oc = ocRead K CT bk f h S
abbrev N_readings : List Str := ["book", "form", "hand", "stretches", "most", "web", "many", "number"]
theorem sc_readings : FnScope N_readings ["book", "form", "hand", "stretches", "most"] (defScope st_readings) := ⟨rfl, rfl, rfl, by decide +kernel, rfl, by decide +kernel, by decide +kernel⟩
theorem ok_readX {f : Addr} {fd : FuncData} (F : FunM K "readings" "readings" st_readings 400 f fd) (Bn : Bn mg) (XC : OxC K CT "many") (I_TooMany : IxD P w K mg base 1 "TooMany" CT "many" ["self", "many"]) (W : WebC K C) (M_Web : MkD P w K mg base 1 "Web" C ["self", "book", "form", "hand", "stretches"] (q_Web K C)) (M_first : MtD P w K mg base 1 C "first" ["self"] (spG K (q_first K C))) (M_ways_on : MtD P w K mg base 67 C "ways_on" ["self", "stand"] (spG K (q_ways K C 61)))
    (M_weights_at : MtD P w K mg base 68 C "weights_at" ["self", "number"] (spG K (q_wat K C))) (C_text_of : FnD P w K mg base 1 "text_of" ["book", "form", "numbers"] (spG K (q_text_of K))) : FnOk P w K mg base (L2.CX P w) 69 f fd ["book", "form", "hand", "stretches", "most"] (spO K (q_readX K CT)) := by
  refine fn_OM F sc_readings (fun Rs d h => by obtain ⟨_, _, _, _, _, _, _, _, _, _, rfl, _⟩ := h; rfl) (fun cdv A outer s0 H F0 E hr tk Rs oc hq => ?_)
  obtain ⟨nb, kb, bk, fo, h, S, hb, no, hS61, hdom, rfl, rfl⟩ := hq
  have wm : Mono (WebR K C (bk.map (·.2)) fo h S) := WebR.mo
  refine ws_set 5 sc_readings.nd rfl (.inr rfl) (g_make M_Web (hr.mono (by decide)) (ga_cons (gv 0) (ga_cons (gv 1) (ga_cons (gv 2) (ga_cons (gv 3) ga_nil)))) ⟨bk, fo, h, S, by have := hb.len; omega, rfl, rfl⟩ WebR.mo) ?_
  refine ws_open (Rc := fun c => InsR C (webF K (bk.map (·.2)) fo h S c)) 5 (fun c => InsR.mo) (fun c => ?_)
  have mo := InsR.mo (C := C) (fds := webF K (bk.map (·.2)) fo h S c)
  refine ws_set 6 sc_readings.nd rfl (.inl rfl) (g_is (d' := .int (((readM (bk.map (·.2)) fo h S).length : Nat) : Int)) (g_methG M_ways_on W.cl (hr.mono (by decide)) (gv 5) (ga_cons (g_is (d' := encSt firstM) (g_methG0 M_first W.cl (hr.mono (by decide)) (gv 5) ⟨_, rfl, rfl⟩) rfl) ga_nil) ⟨nb, kb, bk.map (·.2), fo, h, S, c, firstM, rowsOk_of hb, no, List.mem_singleton.mpr rfl, Nat.zero_le _, hS61, hdom, rfl, rfl⟩) (by rw [readM_len])) ?_
  unfold ocRead
  by_cases hm : (readM (bk.map (·.2)) fo h S).length ≤ 400
  · rw [if_pos hm]
    refine ws_if (b := false) Vw.refl (gb_is (gb_cm (gv 6) c_gt (gv 4)) (by
      have : ¬ ((400 : Int) < ((readM (bk.map (·.2)) fo h S).length : Int)) := by omega
      simp; omega)) (fun q => absurd q (by decide)) (fun _ => ws_nil ?_)
    refine ws_ret (GEN.is (n_lc0 (xs := List.range (readM (bk.map (·.2)) fo h S).length) (enc := fun k : Nat => .int (k : Nat)) (own := [("number", 7)]) (sl := [7]) (d := fun k => dTx (textOfM bk fo ((readM (bk.map (·.2)) fo h S).getD k []))) rfl sc_readings.nd (l_rangeN Bn (gv 6) (by omega)) (blkOk_by (N := N_readings) (sc := defScope st_readings) (by decide +kernel)) (fun _ _ _ _ _ x hx => gt_name 7 DD.mo sc_readings.nd rfl (.inl rfl)) (by decide) (fun _ _ _ _ _ x hx => ?_) (by rw [List.length_range]; exact Nat.lt_of_le_of_lt hm (by decide))) (range_getD (readM (bk.map (·.2)) fo h S) (fun W => dTx (textOfM bk fo W)) [])).ge (fun F v z => z)
    have hx' : x < (readM (bk.map (·.2)) fo h S).length := List.mem_range.mp hx
    have hget : (readM (bk.map (·.2)) fo h S)[x]? = some ((readM (bk.map (·.2)) fo h S).getD x []) := by
      rw [List.getD_eq_getElem?_getD, List.getElem?_eq_getElem hx']; rfl
    have hV : ((readM (bk.map (·.2)) fo h S).getD x []).length = S.length := rdF_wl _ _ _ (List.mem_of_getElem? hget)
    exact g_callG C_text_of (hr.mono (by decide)) (ga_cons (gv 0) (ga_cons (gv 1) (ga_cons (g_methG M_weights_at W.cl (hr.mono (by decide)) (gv 5) (ga_cons (gv 7) ga_nil) ⟨nb, kb, bk.map (·.2), fo, h, S, c, x, (readM (bk.map (·.2)) fo h S).getD x [], rowsOk_of hb, no, hS61, hdom, hget, rfl, rfl⟩) ga_nil))) ⟨bk, fo, _, hb, by omega, rfl, rfl⟩
  · rw [if_neg hm]
    refine ws_if (b := true) Vw.refl (gb_is (gb_cm (gv 6) c_gt (gv 4)) (by simp; omega)) (fun _ => ?_) (fun q => absurd q (by decide))
    exact ws_raiseFp rfl tk XC I_TooMany (hr.mono (by decide)) (gv 6) (fun F dd hp => ⟨rfl, hp⟩)
abbrev encTs (ts : List (List Nat)) : PyData := .list (ts.map fun t => .str (mk t))
def q_told39 (K : PySem.W.Frag) (Rs : List RP) (d : PyData) : Prop := ∃ (nb kb : Nat) (bk : Bk0) (f : Fo) (h : Fr × Fr) (S : List Int), BkOk bk ∧ NumOk nb kb f h S ∧ S.length ≤ 10 ∧ S.length % 2 = 1 ∧ Rs = [DD K (dBk bk), DD K (dFo f), DD K (dH h), DD K (encIs S)] ∧ d = encTs (tellT bk f h S)
abbrev N_law_told : List Str := ["book", "form", "hand", "stretches", "found"]
theorem sc_law_told : FnScope N_law_told ["book", "form", "hand", "stretches"] (defScope st_law_told) := ⟨rfl, rfl, rfl, by decide +kernel, rfl, by decide +kernel, by decide +kernel⟩
theorem ok_law_told {f : Addr} {fd : FuncData} (F : Fun K "_law_told" "_law_told" st_law_told f fd) (hT : mg "TooMany" = some (.ref CT)) (hx : PySem.W.exmOne K (.ref CT) (.ref CT) = some true) (C_readings : FnED P w K mg base 69 "readings" ["book", "form", "hand", "stretches", "most"] 400 (spO K (q_readX K CT))) : FnOk P w K mg base CX0 70 f fd ["book", "form", "hand", "stretches"] (spG K (q_told39 K)) := by
  refine fn_G F sc_law_told (fun Rs d h => by obtain ⟨_, _, _, _, _, _, _, _, _, _, rfl, _⟩ := h; rfl) (fun cdv A outer s0 H F0 E hr Rs d hq => ?_)
  obtain ⟨nb, kb, bk, fo, h, S, hb, no, h10, ho, rfl, rfl⟩ := hq
  have er := rdT_read hb no h10 ho
  have el := congrArg List.length er
  rw [List.length_map, List.length_map] at el
  have et : (readM (bk.map (·.2)) fo h S).map (fun W => dTx (textOfM bk fo W)) = (rdT bk fo h S).map fun t => .str (mk t) := by
    have := congrArg (List.map dTx) er
    rw [List.map_map, List.map_map] at this
    exact this
  have hdom : (domW (bk.map (·.2)) fo h S).length ≤ 16777215 := dom_len (by omega)
  refine ws_set 4 sc_law_told.nd rfl (.inl rfl) (n_lst gad_nil).ge ?_
  refine ws_try_only (J := fun E os => E = [some (DD K (dBk bk)), some (DD K (dFo fo)), some (DD K (dH h)), some (DD K (encIs S)), some (DD K (encTs (tellT bk fo h S)))] ∧ os = []) (JX := fun E os => 400 < (rdT bk fo h S).length ∧ E = [some (DD K (dBk bk)), some (DD K (dFo fo)), some (DD K (dH h)), some (DD K (encIs S)), some (DD K (.list []))] ∧ os = []) rfl rfl ⟨rfl, by decide, .inl hT⟩ takes0 (fun W0 pn xe t0 => ?_) (fun E' os' hj a cls d oe pn => ?_) ?_
  · refine ws_setOM 4 sc_law_told.nd rfl (.inl rfl) C_readings t0 (hr.mono (by decide)) (ga_cons (gv 0) (ga_cons (gv 1) (ga_cons (gv 2) (ga_cons (gv 3) ga_nil)))) ⟨nb, kb, bk, fo, h, S, hb, no, by omega, hdom, rfl, rfl⟩ (fun d e => ?_) (fun c pp e => ?_)
    · unfold ocRead at e
      split at e
      · rename_i hm
        cases e
        refine ws_nil ⟨?_, rfl⟩
        unfold tellT
        rw [if_pos (by omega), et]
        rfl
      · cases e
    · unfold ocRead at e
      split at e
      · cases e
      · rename_i hm
        cases e
        exact ⟨hx, by omega, rfl, rfl⟩
  · obtain ⟨hm, rfl, rfl⟩ := hj
    refine ws_set 4 sc_law_told.nd rfl (.inl rfl) (n_lst gad_nil).ge ?_
    refine ws_nil ⟨?_, rfl⟩
    unfold tellT
    rw [if_neg (by omega)]
    rfl
  · rintro E os ⟨rfl, rfl⟩
    exact ws_ret (gv 4) (fun F v h => h)
def q_serves (K : PySem.W.Frag) (Rs : List RP) (d : PyData) : Prop := ∃ (S W : List Int) (s : Fr), SWok 30 S W ∧ S.length = W.length ∧ 0 < S.length ∧ S.length ≤ 100 ∧ Sz 14 s ∧ SlackOk s ∧ Rs = [DD K (encIs S), DD K (encIs W), DD K (dF s)] ∧ d = .bool (serveM S W s)
abbrev N_law_serves : List Str := ["stretches", "weights", "slack", "ratios", "length", "weight", "greatest", "least", "ratio", "less"]
theorem sc_law_serves : FnScope N_law_serves ["stretches", "weights", "slack"] (defScope st_law_serves) := ⟨rfl, rfl, rfl, by decide +kernel, rfl, by decide +kernel, by decide +kernel⟩
theorem zipE (S W : List Int) : List.zipWith (fun d d' => PyData.tuple [d, d']) (S.map PyData.int) (W.map PyData.int) = (S.zip W).map fun p => .tuple [.int p.1, .int p.2] := by
  rw [List.zip, List.map_zipWith, List.zipWith_map]
theorem ok_law_serves {f : Addr} {fd : FuncData} (F : Fun K "_law_serves" "_law_serves" st_law_serves f fd) (Bn : Bn mg) (C_law_low : FnD P w K mg base 1 "_law_low" ["top", "bottom"] (spG K (q_made K))) (C_law_less : FnD P w K mg base 1 "_law_less" ["one", "other"] (spG K (q_less K))) : FnOk P w K mg base CX0 2 f fd ["stretches", "weights", "slack"] (spG K (q_serves K)) := by
  refine fn_G F sc_law_serves (fun Rs d h => by obtain ⟨_, _, _, _, _, _, _, _, _, rfl, _⟩ := h; rfl) (fun cdv A outer s0 H F0 E hr Rs d hq => ?_)
  obtain ⟨S, W, s, ok, hl, h0, h100, hsz, hso, rfl, rfl⟩ := hq
  refine ws_setLc 3 rfl (LC.is (ds' := (ratM S W).map fun x => dF x) (k_lc0 (xs := S.zip W) (enc := fun p : Int × Int => .tuple [.int p.1, .int p.2]) (own := [("length", 4), ("weight", 5)]) (sl := [4, 5]) (d := fun p => dF (madeM p.1 p.2)) rfl sc_law_serves.nd (GIL.is (l_zip Bn (gv 0) (gv 1)) (zipE S W)) (blkOk_by (N := N_law_serves) (sc := defScope st_law_serves) (by decide +kernel))
    (fun _ _ _ _ _ x hx => gt_2 4 5 rfl sc_law_serves.nd) (by decide)
    (fun _ _ _ _ _ x hx => g_callG C_law_low (hr.mono (by decide)) (ga_cons (gv 4) (ga_cons (gv 5) ga_nil)) (by
      have := ok.w _ (zw_mem hx).2
      exact i_made_s (by omega) (by omega)))
    (by rw [List.length_zip]; exact Nat.lt_of_le_of_lt (Nat.min_le_left _ _) (Nat.lt_of_le_of_lt h100 (by decide)))) (by unfold ratM; rw [List.map_map]; rfl)) ?_
  have rsz : ∀ r, r ∈ ratM S W → Sz 30 r := fun r hr => by
    obtain ⟨p, hp, rfl⟩ := List.mem_map.mp hr
    have a := ok.s _ (zw_mem hp).1
    have b := ok.w _ (zw_mem hp).2
    exact madeM_sz (ab_lt (by omega) a.2) (by omega) (ab_lt (by omega) b.2)
  have rl : (ratM S W).length = S.length := by unfold ratM; rw [List.length_map, List.length_zip]; omega
  unfold serveM
  simp only
  generalize ratM S W = rs at rsz rl ⊢
  obtain ⟨r0, rt, rfl⟩ : ∃ r0 rt, rs = r0 :: rt := by
    cases rs with
    | nil => simp at rl; omega
    | cons a r => exact ⟨a, r, rfl⟩
  have e0 : (r0 :: rt).headD (1, 1) = r0 := rfl
  rw [e0]
  refine ws_par 6 7 rfl sc_law_serves.nd rfl rfl (by decide) rfl rfl (gad_cons (g_ixL (d := dF r0) (gv 3) g_int (at_map (enc := fun x : Fr => dF x) (n := 0) rfl)) (gad_cons (g_ixL (d := dF r0) (gv 3) g_int (at_map (enc := fun x : Fr => dF x) (n := 0) rfl)) gad_nil)) ?_ (by rfl)
  refine ws_forL (xs := r0 :: rt) (enc := fun x => dF x) (sl := [8]) PassesOwn.never rfl (l_list (gv 3)) (fun x hx => gt_name 8 DD.mo sc_law_serves.nd rfl (.inl rfl))
    (fun pre E os => Sz 30 (gMx pre r0) ∧ Sz 30 (lMn pre r0) ∧ Wk E [some (DD K (encIs S)), some (DD K (encIs W)), some (DD K (dF s)), some (DD K (.list ((r0 :: rt).map fun x => dF x))), none, none, some (DD K (dF (gMx pre r0))), some (DD K (dF (lMn pre r0))), none, none] ∧ os = []) ⟨rsz r0 List.mem_cons_self, rsz r0 List.mem_cons_self, wkd, rfl⟩ ?_ ?_
  · rintro pre x post E os hxs ⟨z1, z2, hw, rfl⟩
    have hx := rsz x (by rw [hxs]; simp)
    have eg : gMx (pre ++ [x]) r0 = if lessM (gMx pre r0) x then x else gMx pre r0 := by unfold gMx; rw [List.foldl_append]; rfl
    have el : lMn (pre ++ [x]) r0 = if lessM x (lMn pre r0) then x else lMn pre r0 := by unfold lMn; rw [List.foldl_append]; rfl
    rw [eg, el]
    generalize gMx pre r0 = g at z1 hw ⊢
    generalize lMn pre r0 = m at z2 hw ⊢
    refine (hw.set 8 _).ws ?_
    clear hw
    refine ws_set 6 sc_law_serves.nd rfl (.inl rfl) (g_ife (R := DD K (dF (if lessM g x then x else g))) (gb_val (g_callG C_law_less (hr.mono (by decide)) (ga_cons (gv 6) (ga_cons (gv 8) ga_nil)) (i_less z1 hx))) (fun q => g_is (d := dF x) (gv 8) (by rw [if_pos q])) (fun q => g_is (d := dF g) (gv 6) (by rw [if_neg (by rw [q]; decide)])) DD.mo) ?_
    refine ws_set 7 sc_law_serves.nd rfl (.inl rfl) (g_ife (R := DD K (dF (if lessM x m then x else m))) (gb_val (g_callG C_law_less (hr.mono (by decide)) (ga_cons (gv 8) (ga_cons (gv 7) ga_nil)) (i_less hx z2))) (fun q => g_is (d := dF x) (gv 8) (by rw [if_pos q])) (fun q => g_is (d := dF m) (gv 7) (by rw [if_neg (by rw [q]; decide)])) DD.mo) ?_
    exact ws_nil ⟨by split; exact hx; exact z1, by split; exact hx; exact z2, wkd, rfl⟩
  · rintro E os ⟨z1, z2, hw, rfl⟩
    generalize gMx (r0 :: rt) r0 = g at z1 hw ⊢
    generalize lMn (r0 :: rt) r0 = m at z2 hw ⊢
    refine hw.ws ?_
    clear hw
    have bd : ∀ {x : Int}, x.natAbs < 2 ^ 30 → -(2 ^ 64) < x ∧ x < 2 ^ 64 := fun {x} hx => by omega
    have bs : ∀ {x : Int}, x.natAbs < 2 ^ 15 → -(2 ^ 64) < x ∧ x < 2 ^ 64 := fun {x} hx => by omega
    obtain ⟨_, _, k1, k2⟩ := slack_sz hsz hso
    refine ws_set 9 sc_law_serves.nd rfl (.inl rfl) (g_mul (g_mul (g_ixT (i := 0) (d := .int g.1) (gv 6) g_int rfl) (g_ixT (i := 1) (d := .int m.2) (gv 7) g_int rfl) (.inr (bd z2.b))) (g_sub (g_ixT (i := 1) (d := .int s.2) (gv 2) g_int rfl) (g_ixT (i := 0) (d := .int s.1) (gv 2) g_int rfl)) (.inr (bs k2))) ?_
    exact ws_ret (g_cm (gv 9) c_le (g_mul (g_mul (g_ixT (i := 0) (d := .int m.1) (gv 7) g_int rfl) (g_ixT (i := 1) (d := .int g.2) (gv 6) g_int rfl) (.inr (bd z1.b))) (g_add (g_ixT (i := 1) (d := .int s.2) (gv 2) g_int rfl) (g_ixT (i := 0) (d := .int s.1) (gv 2) g_int rfl)) (.inr (bs k1)))) (fun F v h => h)
end
end Z
namespace Z
open PySem PySem.Spec PyProof.Rows L2
variable [Vo]
section
variable {P : Program} {w : World} {K : PySem.W.Frag} {mg : Str → Option Value} {base : Heap}
abbrev N_law : List Str := ["script", "book", "form", "hand", "first", "draws", "weights", "second", "rest", "whole", "ones", "others", "one", "other", "between", "text", "due", "at", "mine", "theirs"]
theorem sc_law : FnScope N_law ["script"] (defScope st_law) := ⟨rfl, rfl, rfl, by decide +kernel, rfl, by decide +kernel, by decide +kernel⟩
def q_law (K : PySem.W.Frag) (Rs : List RP) (d : PyData) : Prop := ∃ ns : List Int, Rs = [ScR K ns] ∧ d = .bool true
theorem flat_join {is1 r2 : List Itm} {x : Itm} {b : Bool} (hx : x.1 = false) : flatT (is1 ++ (b, x.2) :: r2) = flatT is1 ++ (if b then [32] else []) ++ flatT (x :: r2) := by
  unfold flatT flatI
  simp [hx]
theorem nonbar {nb kb : Nat} {bk : Bk0} (hb : BkOk bk) {f : Fo} (hf : FoOk f) {S : List Int} {h : Fr × Fr} (hh : HOk' kb h) {is : List Itm} (i1 : is ≠ []) (i2 : ∀ i, i ∈ is → i.2 ∈ bk) (ok : SWok nb S (itemsW f is)) (hl : S.length = (itemsW f is).length) :
    (if (itemsW f is).length = S.length then numF (bk.map (·.2)) f h S firstM (itemsW f is) 0 else none).isSome = true ↔ barM S (itemsW f is) h = none := by
  cases is with
  | nil => exact absurd rfl i1
  | cons i r => exact num_bar hb hf hh (i2 i List.mem_cons_self) (fun j hj => i2 j (List.mem_cons_of_mem _ hj)) ok hl
theorem notN_ON {o : Option Nat} : (!isNone (dON o)) = o.isSome := by cases o <;> rfl
theorem ok_law {f : Addr} {fd : FuncData} (F : Fun K "law" "law" st_law f fd) (Bn : Bn mg) (C_law_small : FnD P w K mg base 4 "_law_small" ["script", "at", "most"] (spG K (q_law_small K))) (C_law_draws : FnD P w K mg base 2 "_law_draws" ["script", "k", "many", "base"] (spN K (q_law_draws K))) (C_law_text : FnD P w K mg base 3 "_law_text" ["script", "at", "book", "most"] (spG K (q_law_text K))) (C_law_weights : FnD P w K mg base 2 "_law_weights" ["book", "form", "text"] (spG K (q_law_weights K)))
    (C_law_off : FnD P w K mg base 3 "_law_off" ["script", "at", "weights", "hand"] (spN K (q_law_off K))) (C_law_told : FnD P w K mg base 70 "_law_told" ["book", "form", "hand", "stretches"] (spG K (q_told39 K))) (C_law_serves : FnD P w K mg base 2 "_law_serves" ["stretches", "weights", "slack"] (spG K (q_serves K))) (C_number_of : FnD P w K mg base 69 "number_of" ["book", "form", "hand", "stretches", "text"] (spG K (q_number_of K))) : FnOk P w K mg base CX0 71 f fd ["script"] (spG K (q_law K)) := by
  refine fn_G F sc_law (fun Rs d h => by obtain ⟨_, rfl, _⟩ := h; rfl) (fun cdv A outer s0 H F0 E hr Rs d hq => ?_)
  obtain ⟨ns, rfl, rfl⟩ := hq
  have sm : Mono (ScR K ns) := ScR.mo
  have hu64 : (cxN P w K mg base N_law "law" st_law f cdv A outer s0 H E).A.units + 64 < cLine := by have := hr.un; omega
  have hsz : ∀ n : Nat, n ≤ 10000000 → n ≤ sizeLine := fun n h => Nat.le_trans h (by decide)
  refine ws_asg (R := DD K (dSmall (smallM ns 0 3))) (g_callG C_law_small (hr.mono (by decide)) (ga_cons (gv 0) (ga_cons g_int (ga_cons g_int ga_nil))) ⟨ns, 0, 3, by omega, by decide, by decide, rfl, rfl⟩) (gt_4 1 2 3 4 rfl sc_law.nd) ?_
  obtain ⟨hb, hb6⟩ := bookM_ok (ns := ns) (a := 0) (most := 6) (by decide) (by decide)
  have hf : FoOk (formM ns 2) := formM_ok ns 2
  have hh0 : HOk' 14 (handM ns 3) := handM_ok ns 3
  obtain ⟨⟨s1, s2⟩, s3⟩ := smallS_ok (ns := ns) (a := 0) (m := 3) (by decide)
  show WS _ _ [some (ScR K ns), some (DD K (dBk (bookM ns 0 6))), some (DD K (dFo (formM ns 2))), some (DD K (dH (handM ns 3))), some (DD K (encIs (smallS ns 0 3))), none, none, none, none, none, none, none, none, none, none, none, none, none, none, none] _ _
  generalize bookM ns 0 6 = bk at *
  generalize formM ns 2 = fo at *
  generalize handM ns 3 = h0 at *
  generalize smallS ns 0 3 = S0 at *
  obtain ⟨sl, hsl⟩ : ∃ sl, sl = h0.1 := ⟨_, rfl⟩
  have z11 : Sz 14 ((1, 1) : Fr) := ⟨by decide, by decide, by decide⟩
  have r11 : Rd ((1, 1) : Fr) := ⟨by decide, by decide⟩
  have hh : HOk' 14 (sl, (1, 1)) := ⟨by rw [hsl]; exact hh0.s, by rw [hsl]; exact hh0.so, z11, (show (1 : Int) ≤ 1 by decide), by rw [hsl]; exact hh0.sr, r11⟩
  refine ws_set 3 sc_law.nd rfl (.inl rfl) (g_is (d' := dH (sl, (1, 1))) (gt_tup (gad_cons (g_ixT (i := 0) (d := dF h0.1) (gv 3) g_int rfl) (gad_cons (gt_tup (gad_cons g_int (gad_cons g_int gad_nil))) gad_nil))) (by rw [hsl])) ?_
  refine ws_set 5 sc_law.nd rfl (.inl rfl) (n_callN C_law_draws (hr.mono (by decide)) (ga_cons (gv 0) (ga_cons (g_is (d' := .int ((8 : Nat) : Int)) g_int rfl) (ga_cons g_int (ga_cons g_int ga_nil)))) (i_law_draws (k := 8) (many := 10) (bs := 27720) (by omega) (by decide) (by decide) (by decide))).ge ?_
  have at_x : ∀ n : Nat, n < 10 → L2.atI ((drawsM ns 8 10 27720).map PyData.int) (n : Int) = some (.int (dr (drawsM ns 8 10 27720) n)) := fun n h => at_dr h
  have hx0 : ∀ n, 0 ≤ dr (drawsM ns 8 10 27720) n := dr_nn (by decide)
  generalize drawsM ns 8 10 27720 = xs at *
  obtain ⟨i1, i2, i3⟩ := itms_ok (ns := ns) (a := 9) (m := 2) hb (by decide)
  have htw := weightsM_text (ns := ns) (a := 9) (m := 2) (f := fo) hb (by decide)
  have tl := flatT_len (itmsM ns 9 bk 2)
  have tc := flatT_ch hb i1
  have ett : textM ns 9 bk 2 = flatT (itmsM ns 9 bk 2) := rfl
  obtain ⟨V, hV⟩ : ∃ V, itemsW fo (itmsM ns 9 bk 2) = V := ⟨_, rfl⟩
  have hVw : ∀ x, x ∈ V → 1 ≤ x ∧ x ≤ 60 := fun x hx => itemsW_w hf (is := itmsM ns 9 bk 2) x (by rw [hV]; exact hx)
  have hV0 : 0 < V.length := by
    have := items_len (f := fo) hb i1
    rw [hV] at this
    have := List.length_pos_iff.mpr i2
    omega
  rw [hV] at htw
  refine ws_set 6 sc_law.nd rfl (.inl rfl) (g_is (d' := encIs (V.take 3)) (g_slL (ds := V.map .int) (g_is (g_callG C_law_weights (hr.mono (by decide)) (ga_cons (gv 1) (ga_cons (gv 2) (ga_cons (g_callG C_law_text (hr.mono (by decide)) (ga_cons (gv 0) (ga_cons (g_is (d' := .int ((9 : Nat) : Int)) g_int rfl) (ga_cons (gv 1) (ga_cons (g_is (d' := .int ((2 : Nat) : Int)) g_int rfl) ga_nil)))) ⟨ns, 9, bk, 2, by decide, by decide, by decide, hb.ne, by omega, rfl, rfl⟩) ga_nil))) ⟨bk, fo, textM ns 9 bk 2, hb, by rw [ett]; omega, by rw [ett]; exact tc, rfl, rfl⟩) (by rw [htw]; rfl)) go_none (go_some g_int)) (by
    have e3 : (3 : Int) = ((3 : Nat) : Int) := rfl
    rw [e3, cut_to, ← List.map_take])) ?_
  obtain ⟨o1, o2⟩ := offM_ok (ns := ns) (a := 10) (ws := V.take 3) hh (fun x hx => hVw x (List.mem_of_mem_take hx))
  refine ws_set 7 sc_law.nd rfl (.inl rfl) (n_callN C_law_off (hr.mono (by decide)) (ga_cons (gv 0) (ga_cons (g_is (d' := .int ((10 : Nat) : Int)) g_int rfl) (ga_cons (gv 6) (ga_cons (gv 3) ga_nil)))) ⟨ns, 10, V.take 3, (sl, (1, 1)), by decide, fun x hx => hVw x (List.mem_of_mem_take hx), by rw [List.length_take]; omega, hh, rfl, rfl⟩).ge ?_
  rw [List.length_take] at o1
  generalize offM ns 10 (V.take 3) (sl, (1, 1)) = T0 at o1 o2 ⊢
  have odd : ∀ {L : List Int}, 0 < L.length → (L.length : Int) - 1 + (L.length : Int) % 2 = ((L.length - 1 + L.length % 2 : Nat) : Int) := fun {L} h => by omega
  have oddl : ∀ {L : List Int}, 0 < L.length → (L.take (L.length - 1 + L.length % 2)).length % 2 = 1 ∧ 0 < (L.take (L.length - 1 + L.length % 2)).length ∧ (L.take (L.length - 1 + L.length % 2)).length ≤ L.length := fun {L} h => by
    rw [List.length_take]; omega
  have cut2 : ∀ {L : List Int}, 0 < L.length → cutD (L.map PyData.int) none (some (((L.map PyData.int).length : Int) - 1 + ((L.map PyData.int).length : Int) % 2)) = (L.take (L.length - 1 + L.length % 2)).map .int := fun {L} h => by
    rw [List.length_map, odd h, cut_to, List.map_take]
  have hT0 : 0 < T0.length := by omega
  obtain ⟨f1, f2, f3⟩ := oddl s1
  obtain ⟨g1, g2, g3⟩ := oddl hT0
  refine ws_set 4 sc_law.nd rfl (.inl rfl) (R := DD K (encIs (S0.take (S0.length - 1 + S0.length % 2)))) (g_orL (g_is (g_slL (gv 4) go_none (go_some (g_add (g_sub (g_lenL Bn (gv 4)) g_int) (g_mod (g_lenL Bn (gv 4)) g_int (by decide))))) (by rw [cut2 s1])) (by
    intro z
    have := congrArg List.length z
    rw [List.length_map] at this
    simp only [List.length_nil] at this
    omega) (gl_lst (gad_cons g_int gad_nil))) ?_
  refine ws_set 7 sc_law.nd rfl (.inl rfl) (R := DD K (encIs (T0.take (T0.length - 1 + T0.length % 2)))) (g_orL (g_is (g_slL (gv 7) go_none (go_some (g_add (g_sub (g_lenL Bn (gv 7)) g_int) (g_mod (g_lenL Bn (gv 7)) g_int (by decide))))) (by rw [cut2 hT0])) (by
    intro z
    have := congrArg List.length z
    rw [List.length_map] at this
    simp only [List.length_nil] at this
    omega) (gl_lst (gad_cons g_int gad_nil))) ?_
  have b1 : ∀ x, x ∈ S0.take (S0.length - 1 + S0.length % 2) → 1 ≤ x ∧ x < 134217728 := fun x hx => s3 x (List.mem_of_mem_take hx)
  have b2 : ∀ x, x ∈ T0.take (T0.length - 1 + T0.length % 2) → 1 ≤ x ∧ x < 134217728 := fun x hx => o2 x (List.mem_of_mem_take hx)
  generalize S0.take (S0.length - 1 + S0.length % 2) = S1 at *
  generalize T0.take (T0.length - 1 + T0.length % 2) = S2 at *
  have l1 : S1.length ≤ 5 := by omega
  have l2 : S2.length ≤ 3 := by omega
  refine ws_set 8 sc_law.nd rfl (.inl rfl) (g_add g_int (g_mod (g_ixL (gv 5) g_int (at_x 1 (by decide))) g_int (by decide))) ?_
  have r0 := Int.emod_nonneg (dr xs 1) (show (900 : Int) ≠ 0 by decide)
  refine ws_ifJ (b := decide (dr xs 2 % 2 = 0)) (J := fun E os => ∃ r : Int, 1 ≤ r ∧ Wk E [some (ScR K ns), some (DD K (dBk bk)), some (DD K (dFo fo)), some (DD K (dH (sl, (1, 1)))), some (DD K (encIs S1)), none, none, some (DD K (encIs S2)), some (DD K (.int r)), none, none, none, none, none, none, none, none, none, none, none] ∧ os = []) Vw.refl (gb_cm (g_mod (g_ixL (gv 5) g_int (at_x 2 (by decide))) g_int (by decide)) c_eqI g_int) (fun q => ?_) (fun q => ws_nil ⟨1 + dr xs 1 % 900, by omega, wkd, rfl⟩) ?_
  · obtain ⟨c0, hc0⟩ : ∃ c0 t0, S1 = c0 :: t0 := by
      cases S1 with
      | nil => simp at f2
      | cons a t => exact ⟨a, t, rfl⟩
    obtain ⟨t0, hc0⟩ := hc0
    obtain ⟨y, hy⟩ : ∃ y : Int, L2.atI [PyData.int fo.s, .int fo.l, .int fo.w, .int fo.b, .int fo.a] (3 + dr xs 0 % 2) = some (.int y) := by
      have : dr xs 0 % 2 = 0 ∨ dr xs 0 % 2 = 1 := by omega
      rcases this with e | e <;> rw [e] <;> exact ⟨_, rfl⟩
    have f60 := hf.l60; have fs1 := hf.s1; have fsl := hf.sl
    have hc00 := b1 c0 (by rw [hc0]; exact List.mem_cons_self)
    refine ws_set 8 sc_law.nd rfl (.inl rfl) (g_max2 rfl Bn g_int (g_div (g_mul (g_ixL (gv 4) g_int (at_map (enc := PyData.int) (n := 0) (x := c0) (by rw [hc0]; rfl))) (g_ixF (gv 2) (g_add g_int (g_mod (g_ixL (gv 5) g_int (at_x 0 (by decide))) g_int (by decide))) hy) (.inl ⟨by omega, by omega⟩)) (g_ixF (i := 0) (d := .int fo.s) (gv 2) g_int rfl) ⟨by omega, by omega⟩)) ?_
    refine ws_nil ⟨_, ?_, wkd, rfl⟩
    split <;> omega
  rintro E os ⟨r, hr1, hw, rfl⟩
  refine hw.ws ?_
  clear hw
  obtain ⟨R, hR⟩ : ∃ R : Int, R = if r < 1000000000 then r else 1000000000 := ⟨_, rfl⟩
  have R1 : 1 ≤ R ∧ R ≤ 1000000000 := by rw [hR]; split <;> omega
  obtain ⟨S, hS⟩ : ∃ S, S = S1 ++ [R] ++ S2 := ⟨_, rfl⟩
  have lS : S.length = S1.length + 1 + S2.length := by rw [hS]; simp; omega
  refine ws_set 9 sc_law.nd rfl (.inl rfl) (g_is (d' := encIs S) (GEN.ge (n_cat (GEN.ge (n_cat (gv 4) (GEN.ge (n_lst (gad_cons (g_is (d' := .int R) (g_min2 rfl Bn (g_pow g_int g_int ⟨by decide, by decide, by decide⟩) (gv 8)) (by rw [hR]; rfl)) gad_nil))) (hsz _ (by rw [List.length_map, List.length_singleton]; omega)))) (gv 7) (hsz _ (by
    simp only [List.length_append, List.length_map, List.length_singleton]; omega)))) (by
    rw [hS]
    unfold encIs
    simp only [List.map_append]
    rfl)) ?_
  have e30 : (2 : Int) ^ 30 = 1073741824 := by decide
  have hSb : ∀ x, x ∈ S → 1 ≤ x ∧ x < 2 ^ 30 := fun x hx => by
    rw [hS] at hx
    rw [e30]
    rcases List.mem_append.mp hx with hx | hx
    · rcases List.mem_append.mp hx with hx | hx
      · have := b1 x hx; omega
      · rw [List.mem_singleton.mp hx]; omega
    · have := b2 x hx; omega
  have noo : ∀ {L : List Int}, (∀ x, x ∈ L → 1 ≤ x ∧ x < 2 ^ 30) → L.length ≤ 10 → NumOk 30 14 fo (sl, (1, 1)) L := fun {L} hL h10 => ⟨hf, hh, hL, by decide, by omega, by omega⟩
  have b1' : ∀ x, x ∈ S1 → 1 ≤ x ∧ x < 2 ^ 30 := fun x hx => by have := b1 x hx; rw [e30]; omega
  have b2' : ∀ x, x ∈ S2 → 1 ≤ x ∧ x < 2 ^ 30 := fun x hx => by have := b2 x hx; rw [e30]; omega
  refine ws_set 10 sc_law.nd rfl (.inl rfl) (g_callG C_law_told (hr.mono (by decide)) (ga_cons (gv 1) (ga_cons (gv 2) (ga_cons (gv 3) (ga_cons (gv 4) ga_nil)))) ⟨30, 14, bk, fo, (sl, (1, 1)), S1, hb, noo b1' (by omega), by omega, f1, rfl, rfl⟩) ?_
  refine ws_set 11 sc_law.nd rfl (.inl rfl) (g_callG C_law_told (hr.mono (by decide)) (ga_cons (gv 1) (ga_cons (gv 2) (ga_cons (gv 3) (ga_cons (gv 7) ga_nil)))) ⟨30, 14, bk, fo, (sl, (1, 1)), S2, hb, noo b2' (by omega), by omega, g1, rfl, rfl⟩) ?_
  have wok : ∀ {is : List Itm} {L : List Int}, (∀ i, i ∈ is → i.2 ∈ bk) → (∀ x, x ∈ L → 1 ≤ x ∧ x < 2 ^ 30) → L.length = (itemsW fo is).length → SWok 30 L (itemsW fo is) := fun {is} {L} hi hL hl => ⟨hL, fun x hx => by have := itemsW_w hf (is := is) x hx; omega, by omega⟩
  have tlen : ∀ {is : List Itm}, (∀ i, i ∈ is → i.2 ∈ bk) → (itemsW fo is).length ≤ 20 → (flatT is).length ≤ 40 := fun {is} hi hl => by
    have a1 := flatT_len is
    have a2 := items_len (f := fo) hb hi
    omega
  have hw8 : ∀ {is : List Itm}, is ≠ [] → (∀ i, i ∈ is → i.2 ∈ bk) → (∀ i, is.head? = some i → i.1 = false) → weightsM bk fo (flatT is) = some (itemsW fo is) := fun {is} h1 h2 h3 => by
    have := orFst (f := fo) hb h2 h3
    rw [if_neg h1] at this
    exact this
  have strk : ∀ {L : List Int} {t : List Nat}, t ∈ tellT bk fo (sl, (1, 1)) L → PyData.strOk (mk t) = true := fun {L} {t} ht => by
    obtain ⟨is, _, j2, _, j4, _⟩ := rdT_mem hb (tellT_mem ht)
    unfold PyData.strOk
    have := flatT_ch hb j2
    rw [← j4] at this
    simpa using this
  have J0 : ∀ E, Wk E [some (ScR K ns), some (DD K (dBk bk)), some (DD K (dFo fo)), some (DD K (dH (sl, (1, 1)))), some (DD K (encIs S1)), none, none, none, none, some (DD K (encIs S)), some (DD K (encTs (tellT bk fo (sl, (1, 1)) S1))), some (DD K (encTs (tellT bk fo (sl, (1, 1)) S2))), none, none, none, none, none, none, none, none] → True := fun _ _ => trivial
  refine ws_forL (xs := (tellT bk fo (sl, (1, 1)) S1).take 7) (enc := fun t => .str (mk t)) (sl := [12]) PassesOwn.never rfl (GIL.is (l_list (g_slL (gv 10) go_none (go_some g_int))) (by
    have e7 : (7 : Int) = ((7 : Nat) : Int) := rfl
    rw [e7, cut_to, List.map_take])) (fun x hx => gt_name 12 DD.mo sc_law.nd rfl (.inl rfl))
    (fun pre E os => Wk E [some (ScR K ns), some (DD K (dBk bk)), some (DD K (dFo fo)), some (DD K (dH (sl, (1, 1)))), some (DD K (encIs S1)), none, none, none, none, some (DD K (encIs S)), some (DD K (encTs (tellT bk fo (sl, (1, 1)) S1))), some (DD K (encTs (tellT bk fo (sl, (1, 1)) S2))), none, none, none, none, none, none, none, none] ∧ os = []) ⟨wkd, rfl⟩ ?_ ?_
  · rintro pre one post E os hxs ⟨hw, rfl⟩
    have hone : one ∈ tellT bk fo (sl, (1, 1)) S1 := List.mem_of_mem_take (i := 7) (by rw [hxs]; simp)
    clear hxs
    refine (hw.set 12 _).ws ?_
    clear hw
    obtain ⟨is1, p1, p2, p3, p4, p5, p6⟩ := rdT_mem hb (tellT_mem hone)
    refine ws_forL (xs := (tellT bk fo (sl, (1, 1)) S2).take 7) (enc := fun t => .str (mk t)) (sl := [13]) PassesOwn.never rfl (GIL.is (l_list (g_slL (gv 11) go_none (go_some g_int))) (by
      have e7 : (7 : Int) = ((7 : Nat) : Int) := rfl
      rw [e7, cut_to, List.map_take])) (fun x hx => gt_name 13 DD.mo sc_law.nd rfl (.inl rfl))
      (fun pre E os => Wk E [some (ScR K ns), some (DD K (dBk bk)), some (DD K (dFo fo)), some (DD K (dH (sl, (1, 1)))), some (DD K (encIs S1)), none, none, none, none, some (DD K (encIs S)), some (DD K (encTs (tellT bk fo (sl, (1, 1)) S1))), some (DD K (encTs (tellT bk fo (sl, (1, 1)) S2))), some (DD K (.str (mk one))), none, none, none, none, none, none, none] ∧ os = []) ⟨wkd, rfl⟩ ?_ ?_
    · rintro pre2 other post2 E os hxs2 ⟨hw, rfl⟩
      have hoth : other ∈ tellT bk fo (sl, (1, 1)) S2 := List.mem_of_mem_take (i := 7) (by rw [hxs2]; simp)
      clear hxs2
      refine (hw.set 13 _).ws ?_
      clear hw
      obtain ⟨is2, q1, q2, q3, q4, q5, q6⟩ := rdT_mem hb (tellT_mem hoth)
      refine ws_forL (xs := [false, true]) (enc := fun b : Bool => .str (mk (if b then [32] else []))) (sl := [14]) PassesOwn.never rfl (l_list (gl_lst (gad_cons (g_s []) (gad_cons (g_s [32]) gad_nil)))) (fun x hx => gt_name 14 DD.mo sc_law.nd rfl (.inl rfl))
        (fun pre E os => Wk E [some (ScR K ns), some (DD K (dBk bk)), some (DD K (dFo fo)), some (DD K (dH (sl, (1, 1)))), some (DD K (encIs S1)), none, none, none, none, some (DD K (encIs S)), some (DD K (encTs (tellT bk fo (sl, (1, 1)) S1))), some (DD K (encTs (tellT bk fo (sl, (1, 1)) S2))), some (DD K (.str (mk one))), some (DD K (.str (mk other))), none, none, none, none, none, none] ∧ os = []) ⟨wkd, rfl⟩ ?_ ?_
      · rintro pre3 b post3 E os hxs3 ⟨hw, rfl⟩
        clear hxs3
        refine (hw.set 14 _).ws ?_
        clear hw
        obtain ⟨x, r2, hx2⟩ : ∃ x r2, is2 = x :: r2 := by
          cases is2 with
          | nil => exact absurd rfl q1
          | cons a t => exact ⟨a, t, rfl⟩
        subst hx2
        have hxf : x.1 = false := q3 x rfl
        obtain ⟨js, hjs⟩ : ∃ js, js = is1 ++ (b, x.2) :: r2 := ⟨_, rfl⟩
        have j1 : js ≠ [] := by rw [hjs]; simp
        have j2 : ∀ i, i ∈ js → i.2 ∈ bk := fun i hi => by
          rw [hjs] at hi
          rcases List.mem_append.mp hi with hi | hi
          · exact p2 i hi
          · rcases List.mem_cons.mp hi with e | hi
            · rw [e]; exact q2 x List.mem_cons_self
            · exact q2 i (List.mem_cons_of_mem _ hi)
        have j3 : ∀ i, js.head? = some i → i.1 = false := fun i hi => by
          rw [hjs] at hi
          cases is1 with
          | nil => exact absurd rfl p1
          | cons a t => exact p3 i hi
        have jt : flatT js = one ++ (if b then [32] else []) ++ other := by rw [hjs, flat_join hxf, ← p4, ← q4]
        have jw : (itemsW fo js).length = S.length := by
          rw [hjs, itemsW_app p1, lS]
          have : itemsW fo ((b, x.2) :: r2) = itemsW fo (x :: r2) := rfl
          rw [this]
          simp only [List.length_append, List.length_singleton]
          omega
        have jl := tlen j2 (by omega)
        have jc := flatT_ch hb j2
        have ok := wok j2 hSb jw.symm
        have nbar := nonbar hb hf hh j1 j2 ok jw.symm
        have sv := serve_iff ok jw.symm (by omega) hh
        have jl2 := jl
        rw [jt] at jl2
        simp only [List.length_append] at jl2
        refine ws_set 15 sc_law.nd rfl (.inl rfl) (g_is (d' := .str (mk (flatT js))) (g_addS (g_addS (gv 12) (gv 14) (hsz _ (by omega))) (gv 13) (hsz _ (by rw [List.length_append]; omega))) (by rw [jt])) ?_
        refine ws_set 16 sc_law.nd rfl (.inl rfl) (g_callG C_law_serves (hr.mono (by decide)) (ga_cons (gv 9) (ga_cons (g_is (d' := encIs (itemsW fo js)) (g_callG C_law_weights (hr.mono (by decide)) (ga_cons (gv 1) (ga_cons (gv 2) (ga_cons (gv 15) ga_nil))) ⟨bk, fo, flatT js, hb, by omega, jc, rfl, rfl⟩) (by rw [hw8 j1 j2 j3]; rfl)) (ga_cons (g_ixT (i := 0) (d := dF sl) (gv 3) g_int rfl) ga_nil))) ⟨S, itemsW fo js, sl, ok, jw.symm, by omega, by omega, hh.s, hh.so, rfl, rfl⟩) ?_
        refine ws_if (b := false) Vw.refl (gb_is (gb_cm (g_cm (g_callG C_number_of (hr.mono (by decide)) (ga_cons (gv 1) (ga_cons (gv 2) (ga_cons (gv 3) (ga_cons (gv 9) (ga_cons (gv 15) ga_nil))))) ⟨30, 14, bk, fo, (sl, (1, 1)), S, flatT js, itemsW fo js, hb, noo hSb (by omega), by omega, dom_len (by omega), by omega, jc, hw8 j1 j2 j3, rfl, rfl⟩) c_notN g_none) (c_neB hu64) (gv 16)) ?_) (fun q => absurd q (by decide)) (fun _ => ws_nil (ws_nil ⟨wkd, rfl⟩))
        rw [notN_ON]
        have e := nbar.trans sv.symm
        generalize (if (itemsW fo js).length = S.length then numF (bk.map (·.2)) fo (sl, (1, 1)) S firstM (itemsW fo js) 0 else none).isSome = A at e ⊢
        generalize serveM S (itemsW fo js) sl = B at e ⊢
        cases A <;> cases B <;> simp at e ⊢
      · rintro E os ⟨hw, rfl⟩
        exact hw.ws (ws_nil ⟨wkd, rfl⟩)
    · rintro E os ⟨hw, rfl⟩
      exact hw.ws (ws_nil ⟨wkd, rfl⟩)
  rintro E os ⟨hw, rfl⟩
  refine hw.ws ?_
  clear hw
  have isE : ∀ (L : List (List Nat)), (PyData.eqv (.list (L.map fun t => .str (mk t))) (.list [])) = L.isEmpty := fun L => by
    cases L with
    | nil => rfl
    | cons a r => rfl
  have shT : ∀ L : List Int, SeqAt.shaped (encTs (tellT bk fo (sl, (1, 1)) L)) = true := fun L => (shp_map (n := 0) fun t ht => shp_str (strk ht)).ok
  have shN : SeqAt.shaped (.list []) = true := (shp_nil (n := 0)).ok
  refine ws_ifJ (b := !(tellT bk fo (sl, (1, 1)) S1).isEmpty && !(tellT bk fo (sl, (1, 1)) S2).isEmpty) (J := fun E os => Wk E [some (ScR K ns), none, none, none, none, none, none, none, none, none, none, none, none, none, none, none, none, none, none, none] ∧ os = []) Vw.refl (gb_is (GW.gb (gw_and (gb_cm (gv 10) (c_neD hu64 (shT S1) shN) (n_lst gad_nil).ge) fun _ => gw_and1 (gb_cm (gv 11) (c_neD hu64 (shT S2) shN) (n_lst gad_nil).ge))) (by rw [isE, isE])) (fun q => ?_) (fun _ => ws_nil ⟨wkd, rfl⟩) (fun E os hj => hj.1.ws (by rw [hj.2]; exact ws_ret g_bool fun F v h => h))
  have ne1 : tellT bk fo (sl, (1, 1)) S1 ≠ [] := fun z => by rw [z] at q; simp at q
  have ne2 : tellT bk fo (sl, (1, 1)) S2 ≠ [] := fun z => by rw [z] at q; simp at q
  clear q
  refine ws_forL (xs := (tellT bk fo (sl, (1, 1)) S).take 40) (enc := fun t => .str (mk t)) (sl := [15]) PassesOwn.never rfl (GIL.is (l_list (g_slL (g_callG C_law_told (hr.mono (by decide)) (ga_cons (gv 1) (ga_cons (gv 2) (ga_cons (gv 3) (ga_cons (gv 9) ga_nil)))) ⟨30, 14, bk, fo, (sl, (1, 1)), S, hb, noo hSb (by omega), by omega, by omega, rfl, rfl⟩) go_none (go_some g_int))) (by
    have e40 : (40 : Int) = ((40 : Nat) : Int) := rfl
    rw [e40, cut_to, List.map_take])) (fun x hx => gt_name 15 DD.mo sc_law.nd rfl (.inl rfl))
    (fun pre E os => Wk E [some (ScR K ns), some (DD K (dBk bk)), some (DD K (dFo fo)), none, some (DD K (encIs S1)), none, none, none, none, none, some (DD K (encTs (tellT bk fo (sl, (1, 1)) S1))), some (DD K (encTs (tellT bk fo (sl, (1, 1)) S2))), none, none, none, none, none, none, none, none] ∧ os = []) ⟨wkd, rfl⟩ ?_ ?_
  · rintro pre text post E os hxs ⟨hw, rfl⟩
    have htx : text ∈ tellT bk fo (sl, (1, 1)) S := List.mem_of_mem_take (i := 40) (by rw [hxs]; simp)
    clear hxs
    refine (hw.set 15 _).ws ?_
    clear hw
    obtain ⟨is, p1, p2, p3, p4, p5, p6⟩ := rdT_mem hb (tellT_mem htx)
    have jl := tlen p2 (by omega)
    subst p4
    refine ws_forL (xs := List.range' 1 ((flatT is).length - 1)) (enc := fun k : Nat => .int (k : Nat)) (sl := [17]) PassesOwn.never rfl (l_range2N (m := 1) Bn g_int (g_lenM Bn (gv 15) (hsz _ (by omega))) ⟨by decide, by omega⟩) (fun x hx => gt_name 17 DD.mo sc_law.nd rfl (.inl rfl))
      (fun pre E os => Wk E [some (ScR K ns), some (DD K (dBk bk)), some (DD K (dFo fo)), none, some (DD K (encIs S1)), none, none, none, none, none, some (DD K (encTs (tellT bk fo (sl, (1, 1)) S1))), some (DD K (encTs (tellT bk fo (sl, (1, 1)) S2))), none, none, none, some (DD K (.str (mk (flatT is)))), none, none, none, none] ∧ os = []) ⟨wkd, rfl⟩ ?_ ?_
    · rintro pre2 n post2 E os hxs2 ⟨hw, rfl⟩
      have hn : 1 ≤ n ∧ n < (flatT is).length := by
        have : n ∈ List.range' 1 ((flatT is).length - 1) := by rw [hxs2]; simp
        rw [List.mem_range'] at this
        obtain ⟨i, hi, rfl⟩ := this
        omega
      clear hxs2
      refine (hw.set 17 _).ws ?_
      clear hw
      obtain ⟨a, b, ab, a1, b1n, c1, c2⟩ := cut_in hb p2 p3 hn.1 hn.2
      have a2 : ∀ i, i ∈ a → i.2 ∈ bk := fun i hi => p2 i (by rw [ab]; exact List.mem_append_left _ hi)
      have b2n : ∀ i, i ∈ b → i.2 ∈ bk := fun i hi => p2 i (by rw [ab]; exact List.mem_append_right _ hi)
      have a3 : ∀ i, a.head? = some i → i.1 = false := fun i hi => by
        cases a with
        | nil => exact absurd rfl a1
        | cons x t => exact p3 i (by rw [ab]; exact hi)
      have ulen : ∀ {is : List Itm}, is ≠ [] → flatT is ≠ [] := fun {is} h z => by
        cases is with
        | nil => exact h rfl
        | cons x t =>
          unfold flatT flatI at z
          rw [List.flatMap_cons] at z
          simp at z
      have ub : unflag b ≠ [] := by
        cases b with
        | nil => exact absurd rfl b1n
        | cons x t => exact fun z => by cases z
      have wsum : (itemsW fo a).length + 1 + (itemsW fo b).length = S.length ∧ ∃ x, itemsW fo is = itemsW fo a ++ [x] ++ itemsW fo b := by
        cases b with
        | nil => exact absurd rfl b1n
        | cons x t =>
          have := itemsW_app (f := fo) (r := t) (x := x) a1
          rw [← ab] at this
          refine ⟨?_, _, this⟩
          rw [← p5, this]
          simp only [List.length_append, List.length_singleton]
      have al := tlen a2 (by omega)
      refine ws_set 18 sc_law.nd rfl (.inl rfl) (g_is (d' := .str (mk (flatT a))) (g_rstripC (l := (flatT is).take n) (g_is (d' := .str (mk ((flatT is).take n))) (g_slS (gv 15) go_none (go_some (gv 17)) (hsz _ (by omega))) (by rw [cut_to])) (g_s [32]) (hsz _ (by rw [List.length_take]; omega))) (by rw [c1])) ?_
      refine ws_set 19 sc_law.nd rfl (.inl rfl) (g_is (d' := .str (mk (flatT (unflag b)))) (g_lstripC (l := (flatT is).drop n) (g_is (d' := .str (mk ((flatT is).drop n))) (g_slS (gv 15) (go_some (gv 17)) go_none (hsz _ (by omega))) (by rw [cut_from])) (g_s [32]) (hsz _ (by rw [List.length_drop]; omega))) (by rw [c2])) ?_
      refine ws_if (b := decide ((itemsW fo a).length = S1.length)) Vw.refl (gb_is (GW.gb (gw_and (gb_cm (gv 18) c_neM (g_s [])) fun _ => gw_and (gb_cm (gv 19) c_neM (g_s [])) fun _ => gw_and1 (gb_cm (g_lenL (ds := (itemsW fo a).map .int) Bn (g_is (g_callG C_law_weights (hr.mono (by decide)) (ga_cons (gv 1) (ga_cons (gv 2) (ga_cons (gv 18) ga_nil))) ⟨bk, fo, flatT a, hb, by omega, flatT_ch hb a2, rfl, rfl⟩) (by rw [hw8 a1 a2 a3]; rfl))) c_eqI (g_lenL Bn (gv 4))))) (by
        rw [List.length_map, List.length_map]
        have x1 := ulen a1
        have x2 := ulen ub
        simp [x1, x2]
        try omega)) (fun q => ?_) (fun q => ws_nil (ws_nil ⟨wkd, rfl⟩))
      have hal : (itemsW fo a).length = S1.length := by simpa using q
      obtain ⟨ws1, x, ws2⟩ := wsum
      have hbl : (itemsW fo b).length = S2.length := by omega
      rw [hS, ws2] at p6
      obtain ⟨n1, n2⟩ := bar_app hal hbl p6
      have m1 : flatT a ∈ tellT bk fo (sl, (1, 1)) S1 := tellT_in (rdT_in hb hf (by omega) a1 a2 a3 hal n1) ne1
      have m2 : flatT (unflag b) ∈ tellT bk fo (sl, (1, 1)) S2 := tellT_in (rdT_in hb hf (by omega) ub (unflag_bk b2n) unflag_hd (by rw [itemsW_unflag]; exact hbl) (by rw [itemsW_unflag]; exact n2)) ne2
      refine ws_if (b := false) Vw.refl (gb_is (GW.gb (gw_or (gb_cm (gv 18) c_ninRows (gv 10)) fun _ => gw_or1 (gb_cm (gv 19) c_ninRows (gv 11)))) (by simp [m1, m2])) (fun q => absurd q (by decide)) (fun _ => ws_nil (ws_nil (ws_nil ⟨wkd, rfl⟩)))
    · rintro E os ⟨hw, rfl⟩
      exact hw.ws (ws_nil ⟨wkd, rfl⟩)
  · rintro E os ⟨hw, rfl⟩
    exact hw.ws (ws_nil ⟨wkd, rfl⟩)
theorem law_sp {K : PySem.W.Frag} {H : Hp} {a : Addr} {ns : List Int} (hO : Fh H H) (hS : SqL K H a (ns.map V.int)) : spG K (q_law K) [.ref a] H (fun v _ => v = .bl true) fun _ _ _ => False :=
  ⟨H, [ScR K ns], .bool true, hO, .cons ScR.mo ⟨a, rfl, hS⟩ .nil, ⟨ns, rfl, rfl⟩, fun v F' H' e r => by cases r; rfl⟩
end
end Z
namespace Z
open PySem PySem.Spec PyProof.Rows L2
theorem all_mk {l : PySem.W.OpenLaw} {w : World} {K : PySem.W.Frag} {h : Heap} {mg : Str → Option Value} {fa f_divisor f_made f_times f_over f_is_less f_less_of f_greater_of f_less_slack f_and_slack f_law_cell f_law_draws f_law_book f_bounds_at f_law_low f_law_less f_law_form f_law_hand f_law_text f_law_weights f_law_off f_law_small f_Web_init f_Web_begun f_Web_choices f_Web_next_stands f_Web_first f_Web_ways_on f_row_weights f_weights_of f_Web_number_of f_number_of f_text_of f_Web_weights_at f_TooMany_init f_readX f_law_told f_law_serves f_law fT_readX C_Web C_TooMany C_MeantError : Addr} (X : K.In h) (G : h.Ns mainGlobals mg) (hfa : mg "law" = some (.ref fa))
    {xnm_TooMany xq_TooMany : Str} {xN_TooMany : Addr} {xbs_TooMany xbm_TooMany xsub_TooMany : List Value} {xsn_TooMany : List Str} {xab_TooMany : Bool} {xcol_TooMany : Option Bool} {xdd_TooMany : Option Addr} {xk0_TooMany xk1_TooMany xk2_TooMany xk3_TooMany xk5_TooMany : Option Value}
    {od_divisor an_divisor od_made an_made od_times an_times od_over an_over od_is_less an_is_less od_less_of an_less_of od_greater_of an_greater_of od_less_slack an_less_slack od_and_slack an_and_slack od_law_cell an_law_cell od_law_draws an_law_draws od_law_book an_law_book od_bounds_at an_bounds_at od_law_low an_law_low od_law_less an_law_less od_law_form an_law_form od_law_hand an_law_hand od_law_text an_law_text od_law_weights an_law_weights od_law_off an_law_off od_law_small an_law_small od_Web_init an_Web_init od_Web_begun an_Web_begun od_Web_choices an_Web_choices od_Web_next_stands an_Web_next_stands od_Web_first an_Web_first od_Web_ways_on an_Web_ways_on od_row_weights an_row_weights od_weights_of an_weights_of od_Web_number_of an_Web_number_of od_number_of an_number_of od_text_of an_text_of od_Web_weights_at an_Web_weights_at od_TooMany_init an_TooMany_init od_readX an_readX od_law_told an_law_told od_law_serves an_law_serves od_law an_law : Option Addr} {sl_divisor sl_made sl_times sl_over sl_is_less sl_less_of sl_greater_of sl_less_slack sl_and_slack sl_law_cell sl_law_draws sl_law_book sl_bounds_at sl_law_low sl_law_less sl_law_form sl_law_hand sl_law_text sl_law_weights sl_law_off sl_law_small sl_Web_init sl_Web_begun sl_Web_choices sl_Web_next_stands sl_Web_first sl_Web_ways_on sl_row_weights sl_weights_of sl_Web_number_of sl_number_of sl_text_of sl_Web_weights_at sl_TooMany_init sl_readX sl_law_told sl_law_serves sl_law : Array (Option Value)} {oc_divisor kV_divisor dc_divisor pm_divisor cd_divisor ct_divisor oc_made kV_made dc_made pm_made cd_made ct_made oc_times kV_times dc_times pm_times cd_times ct_times oc_over kV_over dc_over pm_over cd_over ct_over oc_is_less kV_is_less dc_is_less pm_is_less cd_is_less ct_is_less oc_less_of kV_less_of dc_less_of pm_less_of cd_less_of ct_less_of oc_greater_of kV_greater_of dc_greater_of pm_greater_of cd_greater_of ct_greater_of oc_less_slack kV_less_slack dc_less_slack pm_less_slack cd_less_slack ct_less_slack oc_and_slack kV_and_slack dc_and_slack pm_and_slack cd_and_slack ct_and_slack oc_law_cell kV_law_cell dc_law_cell pm_law_cell cd_law_cell ct_law_cell oc_law_draws kV_law_draws dc_law_draws pm_law_draws cd_law_draws ct_law_draws oc_law_book kV_law_book dc_law_book pm_law_book cd_law_book ct_law_book oc_bounds_at kV_bounds_at dc_bounds_at pm_bounds_at cd_bounds_at ct_bounds_at oc_law_low kV_law_low dc_law_low pm_law_low cd_law_low ct_law_low oc_law_less kV_law_less dc_law_less pm_law_less cd_law_less ct_law_less oc_law_form kV_law_form dc_law_form pm_law_form cd_law_form ct_law_form oc_law_hand kV_law_hand dc_law_hand pm_law_hand cd_law_hand ct_law_hand oc_law_text kV_law_text dc_law_text pm_law_text cd_law_text ct_law_text oc_law_weights kV_law_weights dc_law_weights pm_law_weights cd_law_weights ct_law_weights oc_law_off kV_law_off dc_law_off pm_law_off cd_law_off ct_law_off oc_law_small kV_law_small dc_law_small pm_law_small cd_law_small ct_law_small oc_Web_init kV_Web_init dc_Web_init pm_Web_init cd_Web_init ct_Web_init oc_Web_begun kV_Web_begun dc_Web_begun pm_Web_begun cd_Web_begun ct_Web_begun oc_Web_choices kV_Web_choices dc_Web_choices pm_Web_choices cd_Web_choices ct_Web_choices oc_Web_next_stands kV_Web_next_stands dc_Web_next_stands pm_Web_next_stands cd_Web_next_stands ct_Web_next_stands oc_Web_first kV_Web_first dc_Web_first pm_Web_first cd_Web_first ct_Web_first oc_Web_ways_on kV_Web_ways_on dc_Web_ways_on pm_Web_ways_on cd_Web_ways_on ct_Web_ways_on oc_row_weights kV_row_weights dc_row_weights pm_row_weights cd_row_weights ct_row_weights oc_weights_of kV_weights_of dc_weights_of pm_weights_of cd_weights_of ct_weights_of oc_Web_number_of kV_Web_number_of dc_Web_number_of pm_Web_number_of cd_Web_number_of ct_Web_number_of oc_number_of kV_number_of dc_number_of pm_number_of cd_number_of ct_number_of oc_text_of kV_text_of dc_text_of pm_text_of cd_text_of ct_text_of oc_Web_weights_at kV_Web_weights_at dc_Web_weights_at pm_Web_weights_at cd_Web_weights_at ct_Web_weights_at oc_TooMany_init kV_TooMany_init dc_TooMany_init pm_TooMany_init cd_TooMany_init ct_TooMany_init oc_readX kV_readX dc_readX pm_readX cd_readX ct_readX oc_law_told kV_law_told dc_law_told pm_law_told cd_law_told ct_law_told oc_law_serves kV_law_serves dc_law_serves pm_law_serves cd_law_serves ct_law_serves oc_law kV_law dc_law pm_law cd_law ct_law : Value}
    {odT_readX : Option Addr} {tT_readX : Tok} {nT_readX : Nat} {slT_readX : Array (Option Value)}
    (nc_Web : PySem.W.nsIn K mainGlobals "Web" = some (some (.ref C_Web)))
    (pg_Web : PySem.W.plainGet K C_Web Str.empty = true)
    (hd_Web : PySem.W.hasDictIn K C_Web = true)
    (po_Web : PySem.W.plainOver K C_Web = true)
    (sa_Web : PySem.W.findIn K (.ref C_Web) "__setattr__" = some (some (.builtin "object.__setattr__")))
    (mk_Web : PySem.W.makesIn K C_Web = true)
    (kc_Web : PySem.W.keepIn K (.ref C_Web) = true)
    (nf_Web_rows : PySem.W.findIn K (.ref C_Web) "rows" = some none)
    (nf_Web_form : PySem.W.findIn K (.ref C_Web) "form" = some none)
    (nf_Web_hand : PySem.W.findIn K (.ref C_Web) "hand" = some none)
    (nf_Web_stretches : PySem.W.findIn K (.ref C_Web) "stretches" = some none)
    (nf_Web_counts : PySem.W.findIn K (.ref C_Web) "counts" = some none)
    (nc_TooMany : PySem.W.nsIn K mainGlobals "TooMany" = some (some (.ref C_TooMany)))
    (ox_TooMany : K.lookup C_TooMany = some (excClassObj xnm_TooMany xq_TooMany C_TooMany xN_TooMany xbs_TooMany xbm_TooMany true xsn_TooMany xsub_TooMany xab_TooMany xcol_TooMany xdd_TooMany xk0_TooMany xk1_TooMany xk2_TooMany xk3_TooMany xk5_TooMany "ValueError.__new__"))
    (or_TooMany : PySem.HandSPX.refsVE xbm_TooMany = true)
    (sa_TooMany : PySem.W.findIn K (.ref C_TooMany) "__setattr__" = some (some (.builtin "object.__setattr__")))
    (ex_TooMany : PySem.W.subIn K (.ref C_TooMany) (.type "BaseException") = some true)
    (ty_TooMany : PySem.W.typeIn K (.ref C_TooMany) = some (.type "type"))
    (kc_TooMany : PySem.W.keepIn K (.ref C_TooMany) = true)
    (nf_TooMany : PySem.W.findIn K (.ref C_TooMany) "many" = some none)
    (xg_TooMany : PySem.W.findIn K (.ref C_TooMany) "__getattribute__" = some (some (.builtin "BaseException.__getattribute__")))
    (xa_TooMany : PySem.W.findIn K (.ref C_TooMany) "__getattr__" = some none)
    (xh_TooMany : PySem.W.hasDictIn K C_TooMany = true)
    (ss_TooMany : PySem.W.subIn K (.ref C_TooMany) (.ref C_TooMany) = some true)
    (nc_MeantError : PySem.W.nsIn K mainGlobals "MeantError" = some (some (.ref C_MeantError)))
    (mga_MeantError : PySem.W.specialIn K (.ref C_MeantError) "__getattribute__" = some (some (.builtin "type.__getattribute__")))
    (mrd_MeantError : PySem.W.readsIn K C_MeantError (.type "type") = true)
    (mfc_MeantError : PySem.W.findCls K (.ref C_MeantError) (.type "type") "__init__" = some (.val (.builtin "ValueError.__init__")))
    (a_divisor : PySem.W.nsIn K mainGlobals "divisor" = some (some (.ref f_divisor)))
    (l_divisor : K.lookup f_divisor = some ⟨oc_divisor, od_divisor, .func (PySem.W.fnOf "divisor" "divisor" (defArgs st_divisor) (defBody st_divisor) (defScope st_divisor) .none kV_divisor dc_divisor pm_divisor an_divisor cd_divisor ct_divisor), sl_divisor⟩)
    (c_divisor : PySem.W.codeIn K cd_divisor "divisor" = true)
    (k_divisor : PySem.W.keepIn K (.ref f_divisor) = true)
    (a_made : PySem.W.nsIn K mainGlobals "made" = some (some (.ref f_made)))
    (l_made : K.lookup f_made = some ⟨oc_made, od_made, .func (PySem.W.fnOf "made" "made" (defArgs st_made) (defBody st_made) (defScope st_made) .none kV_made dc_made pm_made an_made cd_made ct_made), sl_made⟩)
    (c_made : PySem.W.codeIn K cd_made "made" = true)
    (k_made : PySem.W.keepIn K (.ref f_made) = true)
    (a_times : PySem.W.nsIn K mainGlobals "times" = some (some (.ref f_times)))
    (l_times : K.lookup f_times = some ⟨oc_times, od_times, .func (PySem.W.fnOf "times" "times" (defArgs st_times) (defBody st_times) (defScope st_times) .none kV_times dc_times pm_times an_times cd_times ct_times), sl_times⟩)
    (c_times : PySem.W.codeIn K cd_times "times" = true)
    (k_times : PySem.W.keepIn K (.ref f_times) = true)
    (a_over : PySem.W.nsIn K mainGlobals "over" = some (some (.ref f_over)))
    (l_over : K.lookup f_over = some ⟨oc_over, od_over, .func (PySem.W.fnOf "over" "over" (defArgs st_over) (defBody st_over) (defScope st_over) .none kV_over dc_over pm_over an_over cd_over ct_over), sl_over⟩)
    (c_over : PySem.W.codeIn K cd_over "over" = true)
    (k_over : PySem.W.keepIn K (.ref f_over) = true)
    (a_is_less : PySem.W.nsIn K mainGlobals "is_less" = some (some (.ref f_is_less)))
    (l_is_less : K.lookup f_is_less = some ⟨oc_is_less, od_is_less, .func (PySem.W.fnOf "is_less" "is_less" (defArgs st_is_less) (defBody st_is_less) (defScope st_is_less) .none kV_is_less dc_is_less pm_is_less an_is_less cd_is_less ct_is_less), sl_is_less⟩)
    (c_is_less : PySem.W.codeIn K cd_is_less "is_less" = true)
    (k_is_less : PySem.W.keepIn K (.ref f_is_less) = true)
    (a_less_of : PySem.W.nsIn K mainGlobals "less_of" = some (some (.ref f_less_of)))
    (l_less_of : K.lookup f_less_of = some ⟨oc_less_of, od_less_of, .func (PySem.W.fnOf "less_of" "less_of" (defArgs st_less_of) (defBody st_less_of) (defScope st_less_of) .none kV_less_of dc_less_of pm_less_of an_less_of cd_less_of ct_less_of), sl_less_of⟩)
    (c_less_of : PySem.W.codeIn K cd_less_of "less_of" = true)
    (k_less_of : PySem.W.keepIn K (.ref f_less_of) = true)
    (a_greater_of : PySem.W.nsIn K mainGlobals "greater_of" = some (some (.ref f_greater_of)))
    (l_greater_of : K.lookup f_greater_of = some ⟨oc_greater_of, od_greater_of, .func (PySem.W.fnOf "greater_of" "greater_of" (defArgs st_greater_of) (defBody st_greater_of) (defScope st_greater_of) .none kV_greater_of dc_greater_of pm_greater_of an_greater_of cd_greater_of ct_greater_of), sl_greater_of⟩)
    (c_greater_of : PySem.W.codeIn K cd_greater_of "greater_of" = true)
    (k_greater_of : PySem.W.keepIn K (.ref f_greater_of) = true)
    (a_less_slack : PySem.W.nsIn K mainGlobals "less_slack" = some (some (.ref f_less_slack)))
    (l_less_slack : K.lookup f_less_slack = some ⟨oc_less_slack, od_less_slack, .func (PySem.W.fnOf "less_slack" "less_slack" (defArgs st_less_slack) (defBody st_less_slack) (defScope st_less_slack) .none kV_less_slack dc_less_slack pm_less_slack an_less_slack cd_less_slack ct_less_slack), sl_less_slack⟩)
    (c_less_slack : PySem.W.codeIn K cd_less_slack "less_slack" = true)
    (k_less_slack : PySem.W.keepIn K (.ref f_less_slack) = true)
    (a_and_slack : PySem.W.nsIn K mainGlobals "and_slack" = some (some (.ref f_and_slack)))
    (l_and_slack : K.lookup f_and_slack = some ⟨oc_and_slack, od_and_slack, .func (PySem.W.fnOf "and_slack" "and_slack" (defArgs st_and_slack) (defBody st_and_slack) (defScope st_and_slack) .none kV_and_slack dc_and_slack pm_and_slack an_and_slack cd_and_slack ct_and_slack), sl_and_slack⟩)
    (c_and_slack : PySem.W.codeIn K cd_and_slack "and_slack" = true)
    (k_and_slack : PySem.W.keepIn K (.ref f_and_slack) = true)
    (a_law_cell : PySem.W.nsIn K mainGlobals "_law_cell" = some (some (.ref f_law_cell)))
    (l_law_cell : K.lookup f_law_cell = some ⟨oc_law_cell, od_law_cell, .func (PySem.W.fnOf "_law_cell" "_law_cell" (defArgs st_law_cell) (defBody st_law_cell) (defScope st_law_cell) .none kV_law_cell dc_law_cell pm_law_cell an_law_cell cd_law_cell ct_law_cell), sl_law_cell⟩)
    (c_law_cell : PySem.W.codeIn K cd_law_cell "_law_cell" = true)
    (k_law_cell : PySem.W.keepIn K (.ref f_law_cell) = true)
    (a_law_draws : PySem.W.nsIn K mainGlobals "_law_draws" = some (some (.ref f_law_draws)))
    (l_law_draws : K.lookup f_law_draws = some ⟨oc_law_draws, od_law_draws, .func (PySem.W.fnOf "_law_draws" "_law_draws" (defArgs st_law_draws) (defBody st_law_draws) (defScope st_law_draws) .none kV_law_draws dc_law_draws pm_law_draws an_law_draws cd_law_draws ct_law_draws), sl_law_draws⟩)
    (c_law_draws : PySem.W.codeIn K cd_law_draws "_law_draws" = true)
    (k_law_draws : PySem.W.keepIn K (.ref f_law_draws) = true)
    (a_law_book : PySem.W.nsIn K mainGlobals "_law_book" = some (some (.ref f_law_book)))
    (l_law_book : K.lookup f_law_book = some ⟨oc_law_book, od_law_book, .func (PySem.W.fnOf "_law_book" "_law_book" (defArgs st_law_book) (defBody st_law_book) (defScope st_law_book) .none kV_law_book dc_law_book pm_law_book an_law_book cd_law_book ct_law_book), sl_law_book⟩)
    (c_law_book : PySem.W.codeIn K cd_law_book "_law_book" = true)
    (k_law_book : PySem.W.keepIn K (.ref f_law_book) = true)
    (a_bounds_at : PySem.W.nsIn K mainGlobals "bounds_at" = some (some (.ref f_bounds_at)))
    (l_bounds_at : K.lookup f_bounds_at = some ⟨oc_bounds_at, od_bounds_at, .func (PySem.W.fnOf "bounds_at" "bounds_at" (defArgs st_bounds_at) (defBody st_bounds_at) (defScope st_bounds_at) .none kV_bounds_at dc_bounds_at pm_bounds_at an_bounds_at cd_bounds_at ct_bounds_at), sl_bounds_at⟩)
    (c_bounds_at : PySem.W.codeIn K cd_bounds_at "bounds_at" = true)
    (k_bounds_at : PySem.W.keepIn K (.ref f_bounds_at) = true)
    (a_law_low : PySem.W.nsIn K mainGlobals "_law_low" = some (some (.ref f_law_low)))
    (l_law_low : K.lookup f_law_low = some ⟨oc_law_low, od_law_low, .func (PySem.W.fnOf "_law_low" "_law_low" (defArgs st_law_low) (defBody st_law_low) (defScope st_law_low) .none kV_law_low dc_law_low pm_law_low an_law_low cd_law_low ct_law_low), sl_law_low⟩)
    (c_law_low : PySem.W.codeIn K cd_law_low "_law_low" = true)
    (k_law_low : PySem.W.keepIn K (.ref f_law_low) = true)
    (a_law_less : PySem.W.nsIn K mainGlobals "_law_less" = some (some (.ref f_law_less)))
    (l_law_less : K.lookup f_law_less = some ⟨oc_law_less, od_law_less, .func (PySem.W.fnOf "_law_less" "_law_less" (defArgs st_law_less) (defBody st_law_less) (defScope st_law_less) .none kV_law_less dc_law_less pm_law_less an_law_less cd_law_less ct_law_less), sl_law_less⟩)
    (c_law_less : PySem.W.codeIn K cd_law_less "_law_less" = true)
    (k_law_less : PySem.W.keepIn K (.ref f_law_less) = true)
    (a_law_form : PySem.W.nsIn K mainGlobals "_law_form" = some (some (.ref f_law_form)))
    (l_law_form : K.lookup f_law_form = some ⟨oc_law_form, od_law_form, .func (PySem.W.fnOf "_law_form" "_law_form" (defArgs st_law_form) (defBody st_law_form) (defScope st_law_form) .none kV_law_form dc_law_form pm_law_form an_law_form cd_law_form ct_law_form), sl_law_form⟩)
    (c_law_form : PySem.W.codeIn K cd_law_form "_law_form" = true)
    (k_law_form : PySem.W.keepIn K (.ref f_law_form) = true)
    (a_law_hand : PySem.W.nsIn K mainGlobals "_law_hand" = some (some (.ref f_law_hand)))
    (l_law_hand : K.lookup f_law_hand = some ⟨oc_law_hand, od_law_hand, .func (PySem.W.fnOf "_law_hand" "_law_hand" (defArgs st_law_hand) (defBody st_law_hand) (defScope st_law_hand) .none kV_law_hand dc_law_hand pm_law_hand an_law_hand cd_law_hand ct_law_hand), sl_law_hand⟩)
    (c_law_hand : PySem.W.codeIn K cd_law_hand "_law_hand" = true)
    (k_law_hand : PySem.W.keepIn K (.ref f_law_hand) = true)
    (a_law_text : PySem.W.nsIn K mainGlobals "_law_text" = some (some (.ref f_law_text)))
    (l_law_text : K.lookup f_law_text = some ⟨oc_law_text, od_law_text, .func (PySem.W.fnOf "_law_text" "_law_text" (defArgs st_law_text) (defBody st_law_text) (defScope st_law_text) .none kV_law_text dc_law_text pm_law_text an_law_text cd_law_text ct_law_text), sl_law_text⟩)
    (c_law_text : PySem.W.codeIn K cd_law_text "_law_text" = true)
    (k_law_text : PySem.W.keepIn K (.ref f_law_text) = true)
    (a_law_weights : PySem.W.nsIn K mainGlobals "_law_weights" = some (some (.ref f_law_weights)))
    (l_law_weights : K.lookup f_law_weights = some ⟨oc_law_weights, od_law_weights, .func (PySem.W.fnOf "_law_weights" "_law_weights" (defArgs st_law_weights) (defBody st_law_weights) (defScope st_law_weights) .none kV_law_weights dc_law_weights pm_law_weights an_law_weights cd_law_weights ct_law_weights), sl_law_weights⟩)
    (c_law_weights : PySem.W.codeIn K cd_law_weights "_law_weights" = true)
    (k_law_weights : PySem.W.keepIn K (.ref f_law_weights) = true)
    (a_law_off : PySem.W.nsIn K mainGlobals "_law_off" = some (some (.ref f_law_off)))
    (l_law_off : K.lookup f_law_off = some ⟨oc_law_off, od_law_off, .func (PySem.W.fnOf "_law_off" "_law_off" (defArgs st_law_off) (defBody st_law_off) (defScope st_law_off) .none kV_law_off dc_law_off pm_law_off an_law_off cd_law_off ct_law_off), sl_law_off⟩)
    (c_law_off : PySem.W.codeIn K cd_law_off "_law_off" = true)
    (k_law_off : PySem.W.keepIn K (.ref f_law_off) = true)
    (a_law_small : PySem.W.nsIn K mainGlobals "_law_small" = some (some (.ref f_law_small)))
    (l_law_small : K.lookup f_law_small = some ⟨oc_law_small, od_law_small, .func (PySem.W.fnOf "_law_small" "_law_small" (defArgs st_law_small) (defBody st_law_small) (defScope st_law_small) .none kV_law_small dc_law_small pm_law_small an_law_small cd_law_small ct_law_small), sl_law_small⟩)
    (c_law_small : PySem.W.codeIn K cd_law_small "_law_small" = true)
    (k_law_small : PySem.W.keepIn K (.ref f_law_small) = true)
    (a_Web_init : PySem.W.findIn K (.ref C_Web) "__init__" = some (some (.ref f_Web_init)))
    (i_Web_init : PySem.W.isFn K (.ref f_Web_init) = true)
    (l_Web_init : K.lookup f_Web_init = some ⟨oc_Web_init, od_Web_init, .func (PySem.W.fnOf "__init__" "Web.__init__" (defArgs st_Web_init) (defBody st_Web_init) (defScope st_Web_init) .none kV_Web_init dc_Web_init pm_Web_init an_Web_init cd_Web_init ct_Web_init), sl_Web_init⟩)
    (c_Web_init : PySem.W.codeIn K cd_Web_init "Web.__init__" = true)
    (k_Web_init : PySem.W.keepIn K (.ref f_Web_init) = true)
    (a_Web_begun : PySem.W.findIn K (.ref C_Web) "begun" = some (some (.ref f_Web_begun)))
    (i_Web_begun : PySem.W.isFn K (.ref f_Web_begun) = true)
    (l_Web_begun : K.lookup f_Web_begun = some ⟨oc_Web_begun, od_Web_begun, .func (PySem.W.fnOf "begun" "Web.begun" (defArgs st_Web_begun) (defBody st_Web_begun) (defScope st_Web_begun) .none kV_Web_begun dc_Web_begun pm_Web_begun an_Web_begun cd_Web_begun ct_Web_begun), sl_Web_begun⟩)
    (c_Web_begun : PySem.W.codeIn K cd_Web_begun "Web.begun" = true)
    (k_Web_begun : PySem.W.keepIn K (.ref f_Web_begun) = true)
    (a_Web_choices : PySem.W.findIn K (.ref C_Web) "choices" = some (some (.ref f_Web_choices)))
    (i_Web_choices : PySem.W.isFn K (.ref f_Web_choices) = true)
    (l_Web_choices : K.lookup f_Web_choices = some ⟨oc_Web_choices, od_Web_choices, .func (PySem.W.fnOf "choices" "Web.choices" (defArgs st_Web_choices) (defBody st_Web_choices) (defScope st_Web_choices) .none kV_Web_choices dc_Web_choices pm_Web_choices an_Web_choices cd_Web_choices ct_Web_choices), sl_Web_choices⟩)
    (c_Web_choices : PySem.W.codeIn K cd_Web_choices "Web.choices" = true)
    (k_Web_choices : PySem.W.keepIn K (.ref f_Web_choices) = true)
    (a_Web_next_stands : PySem.W.findIn K (.ref C_Web) "next_stands" = some (some (.ref f_Web_next_stands)))
    (i_Web_next_stands : PySem.W.isFn K (.ref f_Web_next_stands) = true)
    (l_Web_next_stands : K.lookup f_Web_next_stands = some ⟨oc_Web_next_stands, od_Web_next_stands, .func (PySem.W.fnOf "next_stands" "Web.next_stands" (defArgs st_Web_next_stands) (defBody st_Web_next_stands) (defScope st_Web_next_stands) .none kV_Web_next_stands dc_Web_next_stands pm_Web_next_stands an_Web_next_stands cd_Web_next_stands ct_Web_next_stands), sl_Web_next_stands⟩)
    (c_Web_next_stands : PySem.W.codeIn K cd_Web_next_stands "Web.next_stands" = true)
    (k_Web_next_stands : PySem.W.keepIn K (.ref f_Web_next_stands) = true)
    (a_Web_first : PySem.W.findIn K (.ref C_Web) "first" = some (some (.ref f_Web_first)))
    (i_Web_first : PySem.W.isFn K (.ref f_Web_first) = true)
    (l_Web_first : K.lookup f_Web_first = some ⟨oc_Web_first, od_Web_first, .func (PySem.W.fnOf "first" "Web.first" (defArgs st_Web_first) (defBody st_Web_first) (defScope st_Web_first) .none kV_Web_first dc_Web_first pm_Web_first an_Web_first cd_Web_first ct_Web_first), sl_Web_first⟩)
    (c_Web_first : PySem.W.codeIn K cd_Web_first "Web.first" = true)
    (k_Web_first : PySem.W.keepIn K (.ref f_Web_first) = true)
    (a_Web_ways_on : PySem.W.findIn K (.ref C_Web) "ways_on" = some (some (.ref f_Web_ways_on)))
    (i_Web_ways_on : PySem.W.isFn K (.ref f_Web_ways_on) = true)
    (l_Web_ways_on : K.lookup f_Web_ways_on = some ⟨oc_Web_ways_on, od_Web_ways_on, .func (PySem.W.fnOf "ways_on" "Web.ways_on" (defArgs st_Web_ways_on) (defBody st_Web_ways_on) (defScope st_Web_ways_on) .none kV_Web_ways_on dc_Web_ways_on pm_Web_ways_on an_Web_ways_on cd_Web_ways_on ct_Web_ways_on), sl_Web_ways_on⟩)
    (c_Web_ways_on : PySem.W.codeIn K cd_Web_ways_on "Web.ways_on" = true)
    (k_Web_ways_on : PySem.W.keepIn K (.ref f_Web_ways_on) = true)
    (a_row_weights : PySem.W.nsIn K mainGlobals "row_weights" = some (some (.ref f_row_weights)))
    (l_row_weights : K.lookup f_row_weights = some ⟨oc_row_weights, od_row_weights, .func (PySem.W.fnOf "row_weights" "row_weights" (defArgs st_row_weights) (defBody st_row_weights) (defScope st_row_weights) .none kV_row_weights dc_row_weights pm_row_weights an_row_weights cd_row_weights ct_row_weights), sl_row_weights⟩)
    (c_row_weights : PySem.W.codeIn K cd_row_weights "row_weights" = true)
    (k_row_weights : PySem.W.keepIn K (.ref f_row_weights) = true)
    (a_weights_of : PySem.W.nsIn K mainGlobals "weights_of" = some (some (.ref f_weights_of)))
    (l_weights_of : K.lookup f_weights_of = some ⟨oc_weights_of, od_weights_of, .func (PySem.W.fnOf "weights_of" "weights_of" (defArgs st_weights_of) (defBody st_weights_of) (defScope st_weights_of) .none kV_weights_of dc_weights_of pm_weights_of an_weights_of cd_weights_of ct_weights_of), sl_weights_of⟩)
    (c_weights_of : PySem.W.codeIn K cd_weights_of "weights_of" = true)
    (k_weights_of : PySem.W.keepIn K (.ref f_weights_of) = true)
    (a_Web_number_of : PySem.W.findIn K (.ref C_Web) "number_of" = some (some (.ref f_Web_number_of)))
    (i_Web_number_of : PySem.W.isFn K (.ref f_Web_number_of) = true)
    (l_Web_number_of : K.lookup f_Web_number_of = some ⟨oc_Web_number_of, od_Web_number_of, .func (PySem.W.fnOf "number_of" "Web.number_of" (defArgs st_Web_number_of) (defBody st_Web_number_of) (defScope st_Web_number_of) .none kV_Web_number_of dc_Web_number_of pm_Web_number_of an_Web_number_of cd_Web_number_of ct_Web_number_of), sl_Web_number_of⟩)
    (c_Web_number_of : PySem.W.codeIn K cd_Web_number_of "Web.number_of" = true)
    (k_Web_number_of : PySem.W.keepIn K (.ref f_Web_number_of) = true)
    (a_number_of : PySem.W.nsIn K mainGlobals "number_of" = some (some (.ref f_number_of)))
    (l_number_of : K.lookup f_number_of = some ⟨oc_number_of, od_number_of, .func (PySem.W.fnOf "number_of" "number_of" (defArgs st_number_of) (defBody st_number_of) (defScope st_number_of) .none kV_number_of dc_number_of pm_number_of an_number_of cd_number_of ct_number_of), sl_number_of⟩)
    (c_number_of : PySem.W.codeIn K cd_number_of "number_of" = true)
    (k_number_of : PySem.W.keepIn K (.ref f_number_of) = true)
    (a_text_of : PySem.W.nsIn K mainGlobals "text_of" = some (some (.ref f_text_of)))
    (l_text_of : K.lookup f_text_of = some ⟨oc_text_of, od_text_of, .func (PySem.W.fnOf "text_of" "text_of" (defArgs st_text_of) (defBody st_text_of) (defScope st_text_of) .none kV_text_of dc_text_of pm_text_of an_text_of cd_text_of ct_text_of), sl_text_of⟩)
    (c_text_of : PySem.W.codeIn K cd_text_of "text_of" = true)
    (k_text_of : PySem.W.keepIn K (.ref f_text_of) = true)
    (a_Web_weights_at : PySem.W.findIn K (.ref C_Web) "weights_at" = some (some (.ref f_Web_weights_at)))
    (i_Web_weights_at : PySem.W.isFn K (.ref f_Web_weights_at) = true)
    (l_Web_weights_at : K.lookup f_Web_weights_at = some ⟨oc_Web_weights_at, od_Web_weights_at, .func (PySem.W.fnOf "weights_at" "Web.weights_at" (defArgs st_Web_weights_at) (defBody st_Web_weights_at) (defScope st_Web_weights_at) .none kV_Web_weights_at dc_Web_weights_at pm_Web_weights_at an_Web_weights_at cd_Web_weights_at ct_Web_weights_at), sl_Web_weights_at⟩)
    (c_Web_weights_at : PySem.W.codeIn K cd_Web_weights_at "Web.weights_at" = true)
    (k_Web_weights_at : PySem.W.keepIn K (.ref f_Web_weights_at) = true)
    (a_TooMany_init : PySem.W.findIn K (.ref C_TooMany) "__init__" = some (some (.ref f_TooMany_init)))
    (i_TooMany_init : PySem.W.isFn K (.ref f_TooMany_init) = true)
    (l_TooMany_init : K.lookup f_TooMany_init = some ⟨oc_TooMany_init, od_TooMany_init, .func (PySem.W.fnOf "__init__" "TooMany.__init__" (defArgs st_TooMany_init) (defBody st_TooMany_init) (defScope st_TooMany_init) .none kV_TooMany_init dc_TooMany_init pm_TooMany_init an_TooMany_init cd_TooMany_init ct_TooMany_init), sl_TooMany_init⟩)
    (c_TooMany_init : PySem.W.codeIn K cd_TooMany_init "TooMany.__init__" = true)
    (k_TooMany_init : PySem.W.keepIn K (.ref f_TooMany_init) = true)
    (a_readX : PySem.W.nsIn K mainGlobals "readings" = some (some (.ref f_readX)))
    (l_readX : K.lookup f_readX = some ⟨oc_readX, od_readX, .func (PySem.W.fnOf "readings" "readings" (defArgs st_readings) (defBody st_readings) (defScope st_readings) (.ref fT_readX) kV_readX dc_readX pm_readX an_readX cd_readX ct_readX), sl_readX⟩)
    (lT_readX : K.lookup fT_readX = some ⟨.type "tuple", odT_readX, .seq #[.int 400 tT_readX] nT_readX, slT_readX⟩)
    (c_readX : PySem.W.codeIn K cd_readX "readings" = true)
    (k_readX : PySem.W.keepIn K (.ref f_readX) = true)
    (a_law_told : PySem.W.nsIn K mainGlobals "_law_told" = some (some (.ref f_law_told)))
    (l_law_told : K.lookup f_law_told = some ⟨oc_law_told, od_law_told, .func (PySem.W.fnOf "_law_told" "_law_told" (defArgs st_law_told) (defBody st_law_told) (defScope st_law_told) .none kV_law_told dc_law_told pm_law_told an_law_told cd_law_told ct_law_told), sl_law_told⟩)
    (c_law_told : PySem.W.codeIn K cd_law_told "_law_told" = true)
    (k_law_told : PySem.W.keepIn K (.ref f_law_told) = true)
    (a_law_serves : PySem.W.nsIn K mainGlobals "_law_serves" = some (some (.ref f_law_serves)))
    (l_law_serves : K.lookup f_law_serves = some ⟨oc_law_serves, od_law_serves, .func (PySem.W.fnOf "_law_serves" "_law_serves" (defArgs st_law_serves) (defBody st_law_serves) (defScope st_law_serves) .none kV_law_serves dc_law_serves pm_law_serves an_law_serves cd_law_serves ct_law_serves), sl_law_serves⟩)
    (c_law_serves : PySem.W.codeIn K cd_law_serves "_law_serves" = true)
    (k_law_serves : PySem.W.keepIn K (.ref f_law_serves) = true)
    (a_law : PySem.W.nsIn K mainGlobals "law" = some (some (.ref f_law)))
    (l_law : K.lookup f_law = some ⟨oc_law, od_law, .func (PySem.W.fnOf "law" "law" (defArgs st_law) (defBody st_law) (defScope st_law) .none kV_law dc_law pm_law an_law cd_law ct_law), sl_law⟩)
    (c_law : PySem.W.codeIn K cd_law "law" = true)
    (k_law : PySem.W.keepIn K (.ref f_law) = true)
    (tf_TooMany_init : PySem.W.typeIn K (.ref f_TooMany_init) = some (.type "function"))
    (z_len : PySem.W.nsIn K mainGlobals "len" = some none)
    (z_range : PySem.W.nsIn K mainGlobals "range" = some none)
    (z_abs : PySem.W.nsIn K mainGlobals "abs" = some none)
    (z_int : PySem.W.nsIn K mainGlobals "int" = some none)
    (z_str : PySem.W.nsIn K mainGlobals "str" = some none)
    (z_bool : PySem.W.nsIn K mainGlobals "bool" = some none)
    (z_list : PySem.W.nsIn K mainGlobals "list" = some none)
    (z_tuple : PySem.W.nsIn K mainGlobals "tuple" = some none)
    (z_dict : PySem.W.nsIn K mainGlobals "dict" = some none)
    (z_set : PySem.W.nsIn K mainGlobals "set" = some none)
    (z_sum : PySem.W.nsIn K mainGlobals "sum" = some none)
    (z_sorted : PySem.W.nsIn K mainGlobals "sorted" = some none)
    (z_enumerate : PySem.W.nsIn K mainGlobals "enumerate" = some none)
    (z_zip : PySem.W.nsIn K mainGlobals "zip" = some none)
    (z_any : PySem.W.nsIn K mainGlobals "any" = some none)
    (z_all : PySem.W.nsIn K mainGlobals "all" = some none)
    (z_isinstance : PySem.W.nsIn K mainGlobals "isinstance" = some none)
    (z_min : PySem.W.nsIn K mainGlobals "min" = some none)
    (z_max : PySem.W.nsIn K mainGlobals "max" = some none)
    : ∃ fd : FuncData, (∀ (s : Shared) (v : Value), BindsTo s fd ⟨[v], []⟩ [("script", v)]) ∧ ∀ base : Heap, K.In base → base.Ns mainGlobals mg → letI : Vo := voW l.prog w K; FnOk l.prog w K mg base CX0 71 fa fd ["script"] (spG K (q_law K)) := by
  letI : Vo := voW l.prog w K
  have e := hfa.symm.trans (PySem.W.mg_of X G a_law)
  cases e
  have Bn : Z.Bn mg := ⟨PySem.W.mg_none_of X G z_len, PySem.W.mg_none_of X G z_range, PySem.W.mg_none_of X G z_abs, PySem.W.mg_none_of X G z_int, PySem.W.mg_none_of X G z_str, PySem.W.mg_none_of X G z_bool, PySem.W.mg_none_of X G z_list, PySem.W.mg_none_of X G z_tuple, PySem.W.mg_none_of X G z_dict, PySem.W.mg_none_of X G z_set, PySem.W.mg_none_of X G z_sum, PySem.W.mg_none_of X G z_sorted, PySem.W.mg_none_of X G z_enumerate, PySem.W.mg_none_of X G z_zip, PySem.W.mg_none_of X G z_any, PySem.W.mg_none_of X G z_all, PySem.W.mg_none_of X G z_isinstance, PySem.W.mg_none_of X G z_min, PySem.W.mg_none_of X G z_max⟩
  have XC_TooMany : OxC K C_TooMany "many" := ⟨⟨⟨_, _, _, _, _, _, _, _, _, _, _, _, _, _, _, ox_TooMany, or_TooMany⟩, sa_TooMany, ex_TooMany, ty_TooMany, kc_TooMany⟩, nf_TooMany⟩
  have XF_TooMany : L2.XfC K C_TooMany := ⟨xg_TooMany, xa_TooMany, ex_TooMany, xh_TooMany⟩
  have xx_TooMany := exm_of ex_TooMany (cls_exc ox_TooMany) ty_TooMany ss_TooMany
  have ME_MeantError : MeI K C_MeantError := ⟨mga_MeantError, mrd_MeantError, mfc_MeantError⟩
  have W_Web : WebC K C_Web := ⟨⟨pg_Web, hd_Web, po_Web, sa_Web⟩, nf_Web_rows, nf_Web_form, nf_Web_hand, nf_Web_stretches, nf_Web_counts⟩
  have F_divisor := fun_mk (st := st_divisor) l_divisor c_divisor k_divisor
  have b_divisor := F_divisor.binds (ps := ["one", "other"]) fun _ _ _ _ _ _ us hl => match us, hl with | [_, _], _ => rfl
  have F_made := fun_mk (st := st_made) l_made c_made k_made
  have b_made := F_made.binds (ps := ["top", "bottom"]) fun _ _ _ _ _ _ us hl => match us, hl with | [_, _], _ => rfl
  have F_times := fun_mk (st := st_times) l_times c_times k_times
  have b_times := F_times.binds (ps := ["one", "other"]) fun _ _ _ _ _ _ us hl => match us, hl with | [_, _], _ => rfl
  have F_over := fun_mk (st := st_over) l_over c_over k_over
  have b_over := F_over.binds (ps := ["one", "other"]) fun _ _ _ _ _ _ us hl => match us, hl with | [_, _], _ => rfl
  have F_is_less := fun_mk (st := st_is_less) l_is_less c_is_less k_is_less
  have b_is_less := F_is_less.binds (ps := ["one", "other"]) fun _ _ _ _ _ _ us hl => match us, hl with | [_, _], _ => rfl
  have F_less_of := fun_mk (st := st_less_of) l_less_of c_less_of k_less_of
  have b_less_of := F_less_of.binds (ps := ["one", "other"]) fun _ _ _ _ _ _ us hl => match us, hl with | [_, _], _ => rfl
  have F_greater_of := fun_mk (st := st_greater_of) l_greater_of c_greater_of k_greater_of
  have b_greater_of := F_greater_of.binds (ps := ["one", "other"]) fun _ _ _ _ _ _ us hl => match us, hl with | [_, _], _ => rfl
  have F_less_slack := fun_mk (st := st_less_slack) l_less_slack c_less_slack k_less_slack
  have b_less_slack := F_less_slack.binds (ps := ["slack"]) fun _ _ _ _ _ _ us hl => match us, hl with | [_], _ => rfl
  have F_and_slack := fun_mk (st := st_and_slack) l_and_slack c_and_slack k_and_slack
  have b_and_slack := F_and_slack.binds (ps := ["slack"]) fun _ _ _ _ _ _ us hl => match us, hl with | [_], _ => rfl
  have F_law_cell := fun_mk (st := st_law_cell) l_law_cell c_law_cell k_law_cell
  have b_law_cell := F_law_cell.binds (ps := ["script", "k"]) fun _ _ _ _ _ _ us hl => match us, hl with | [_, _], _ => rfl
  have F_law_draws := fun_mk (st := st_law_draws) l_law_draws c_law_draws k_law_draws
  have b_law_draws := F_law_draws.binds (ps := ["script", "k", "many", "base"]) fun _ _ _ _ _ _ us hl => match us, hl with | [_, _, _, _], _ => rfl
  have F_law_book := fun_mk (st := st_law_book) l_law_book c_law_book k_law_book
  have b_law_book := F_law_book.binds (ps := ["script", "at", "most"]) fun _ _ _ _ _ _ us hl => match us, hl with | [_, _, _], _ => rfl
  have F_bounds_at := fun_mk (st := st_bounds_at) l_bounds_at c_bounds_at k_bounds_at
  have b_bounds_at := F_bounds_at.binds (ps := ["length", "weight", "slack"]) fun _ _ _ _ _ _ us hl => match us, hl with | [_, _, _], _ => rfl
  have F_law_low := fun_mk (st := st_law_low) l_law_low c_law_low k_law_low
  have b_law_low := F_law_low.binds (ps := ["top", "bottom"]) fun _ _ _ _ _ _ us hl => match us, hl with | [_, _], _ => rfl
  have F_law_less := fun_mk (st := st_law_less) l_law_less c_law_less k_law_less
  have b_law_less := F_law_less.binds (ps := ["one", "other"]) fun _ _ _ _ _ _ us hl => match us, hl with | [_, _], _ => rfl
  have F_law_form := fun_mk (st := st_law_form) l_law_form c_law_form k_law_form
  have b_law_form := F_law_form.binds (ps := ["script", "at"]) fun _ _ _ _ _ _ us hl => match us, hl with | [_, _], _ => rfl
  have F_law_hand := fun_mk (st := st_law_hand) l_law_hand c_law_hand k_law_hand
  have b_law_hand := F_law_hand.binds (ps := ["script", "at"]) fun _ _ _ _ _ _ us hl => match us, hl with | [_, _], _ => rfl
  have F_law_text := fun_mk (st := st_law_text) l_law_text c_law_text k_law_text
  have b_law_text := F_law_text.binds (ps := ["script", "at", "book", "most"]) fun _ _ _ _ _ _ us hl => match us, hl with | [_, _, _, _], _ => rfl
  have F_law_weights := fun_mk (st := st_law_weights) l_law_weights c_law_weights k_law_weights
  have b_law_weights := F_law_weights.binds (ps := ["book", "form", "text"]) fun _ _ _ _ _ _ us hl => match us, hl with | [_, _, _], _ => rfl
  have F_law_off := fun_mk (st := st_law_off) l_law_off c_law_off k_law_off
  have b_law_off := F_law_off.binds (ps := ["script", "at", "weights", "hand"]) fun _ _ _ _ _ _ us hl => match us, hl with | [_, _, _, _], _ => rfl
  have F_law_small := fun_mk (st := st_law_small) l_law_small c_law_small k_law_small
  have b_law_small := F_law_small.binds (ps := ["script", "at", "most"]) fun _ _ _ _ _ _ us hl => match us, hl with | [_, _, _], _ => rfl
  have F_Web_init := fun_mk (st := st_Web_init) l_Web_init c_Web_init k_Web_init
  have b_Web_init := F_Web_init.binds (ps := ["self", "book", "form", "hand", "stretches"]) fun _ _ _ _ _ _ us hl => match us, hl with | [_, _, _, _, _], _ => rfl
  have F_Web_begun := fun_mk (st := st_Web_begun) l_Web_begun c_Web_begun k_Web_begun
  have b_Web_begun := F_Web_begun.binds (ps := ["self", "row"]) fun _ _ _ _ _ _ us hl => match us, hl with | [_, _], _ => rfl
  have F_Web_choices := fun_mk (st := st_Web_choices) l_Web_choices c_Web_choices k_Web_choices
  have b_Web_choices := F_Web_choices.binds (ps := ["self", "at", "row"]) fun _ _ _ _ _ _ us hl => match us, hl with | [_, _, _], _ => rfl
  have F_Web_next_stands := fun_mk (st := st_Web_next_stands) l_Web_next_stands c_Web_next_stands k_Web_next_stands
  have b_Web_next_stands := F_Web_next_stands.binds (ps := ["self", "stand"]) fun _ _ _ _ _ _ us hl => match us, hl with | [_, _], _ => rfl
  have F_Web_first := fun_mk (st := st_Web_first) l_Web_first c_Web_first k_Web_first
  have b_Web_first := F_Web_first.binds (ps := ["self"]) fun _ _ _ _ _ _ us hl => match us, hl with | [_], _ => rfl
  have F_Web_ways_on := fun_mk (st := st_Web_ways_on) l_Web_ways_on c_Web_ways_on k_Web_ways_on
  have b_Web_ways_on := F_Web_ways_on.binds (ps := ["self", "stand"]) fun _ _ _ _ _ _ us hl => match us, hl with | [_, _], _ => rfl
  have F_row_weights := fun_mk (st := st_row_weights) l_row_weights c_row_weights k_row_weights
  have b_row_weights := F_row_weights.binds (ps := ["form", "row"]) fun _ _ _ _ _ _ us hl => match us, hl with | [_, _], _ => rfl
  have F_weights_of := fun_mk (st := st_weights_of) l_weights_of c_weights_of k_weights_of
  have b_weights_of := F_weights_of.binds (ps := ["book", "form", "text"]) fun _ _ _ _ _ _ us hl => match us, hl with | [_, _, _], _ => rfl
  have F_Web_number_of := fun_mk (st := st_Web_number_of) l_Web_number_of c_Web_number_of k_Web_number_of
  have b_Web_number_of := F_Web_number_of.binds (ps := ["self", "weights"]) fun _ _ _ _ _ _ us hl => match us, hl with | [_, _], _ => rfl
  have F_number_of := fun_mk (st := st_number_of) l_number_of c_number_of k_number_of
  have b_number_of := F_number_of.binds (ps := ["book", "form", "hand", "stretches", "text"]) fun _ _ _ _ _ _ us hl => match us, hl with | [_, _, _, _, _], _ => rfl
  have F_text_of := fun_mk (st := st_text_of) l_text_of c_text_of k_text_of
  have b_text_of := F_text_of.binds (ps := ["book", "form", "numbers"]) fun _ _ _ _ _ _ us hl => match us, hl with | [_, _, _], _ => rfl
  have F_Web_weights_at := fun_mk (st := st_Web_weights_at) l_Web_weights_at c_Web_weights_at k_Web_weights_at
  have b_Web_weights_at := F_Web_weights_at.binds (ps := ["self", "number"]) fun _ _ _ _ _ _ us hl => match us, hl with | [_, _], _ => rfl
  have F_TooMany_init := fun_mk (st := st_TooMany_init) l_TooMany_init c_TooMany_init k_TooMany_init
  have b_TooMany_init := F_TooMany_init.binds (ps := ["self", "many"]) fun _ _ _ _ _ _ us hl => match us, hl with | [_, _], _ => rfl
  have F_readX := funM_mk (st := st_readings) l_readX lT_readX c_readX k_readX
  have F_law_told := fun_mk (st := st_law_told) l_law_told c_law_told k_law_told
  have b_law_told := F_law_told.binds (ps := ["book", "form", "hand", "stretches"]) fun _ _ _ _ _ _ us hl => match us, hl with | [_, _, _, _], _ => rfl
  have F_law_serves := fun_mk (st := st_law_serves) l_law_serves c_law_serves k_law_serves
  have b_law_serves := F_law_serves.binds (ps := ["stretches", "weights", "slack"]) fun _ _ _ _ _ _ us hl => match us, hl with | [_, _, _], _ => rfl
  have F_law := fun_mk (st := st_law) l_law c_law k_law
  refine ⟨PySem.W.fnOf "law" "law" (defArgs st_law) (defBody st_law) (defScope st_law) .none kV_law dc_law pm_law an_law cd_law ct_law, fun s v => .of_eq rfl, fun base _ _ => ?_⟩
  have D_law_cell : FnD l.prog w K mg base 1 "_law_cell" ["script", "k"] (spG K (q_law_cell K)) := FnD.of F_law_cell (PySem.W.mg_of X G a_law_cell) b_law_cell (ok_law_cell F_law_cell Bn)
  have D_law_draws : FnD l.prog w K mg base 2 "_law_draws" ["script", "k", "many", "base"] (spN K (q_law_draws K)) := FnD.of F_law_draws (PySem.W.mg_of X G a_law_draws) b_law_draws (ok_law_draws F_law_draws Bn D_law_cell)
  have D_law_book : FnD l.prog w K mg base 3 "_law_book" ["script", "at", "most"] (spN K (q_law_book K)) := FnD.of F_law_book (PySem.W.mg_of X G a_law_book) b_law_book (ok_law_book F_law_book Bn D_law_draws)
  have D_law_form : FnD l.prog w K mg base 3 "_law_form" ["script", "at"] (spG K (q_law_form K)) := FnD.of F_law_form (PySem.W.mg_of X G a_law_form) b_law_form (ok_law_form F_law_form D_law_draws)
  have D_law_low : FnD l.prog w K mg base 1 "_law_low" ["top", "bottom"] (spG K (q_made K)) := FnD.of F_law_low (PySem.W.mg_of X G a_law_low) b_law_low (ok_law_low F_law_low Bn)
  have D_law_hand : FnD l.prog w K mg base 3 "_law_hand" ["script", "at"] (spG K (q_law_hand K)) := FnD.of F_law_hand (PySem.W.mg_of X G a_law_hand) b_law_hand (ok_law_hand F_law_hand D_law_draws D_law_low)
  have D_law_text : FnD l.prog w K mg base 3 "_law_text" ["script", "at", "book", "most"] (spG K (q_law_text K)) := FnD.of F_law_text (PySem.W.mg_of X G a_law_text) b_law_text (ok_law_text F_law_text Bn D_law_draws)
  have D_law_weights : FnD l.prog w K mg base 2 "_law_weights" ["book", "form", "text"] (spG K (q_law_weights K)) := FnD.of F_law_weights (PySem.W.mg_of X G a_law_weights) b_law_weights (ok_law_weights F_law_weights Bn)
  have D_law_off : FnD l.prog w K mg base 3 "_law_off" ["script", "at", "weights", "hand"] (spN K (q_law_off K)) := FnD.of F_law_off (PySem.W.mg_of X G a_law_off) b_law_off (ok_law_off F_law_off Bn D_law_draws)
  have D_law_small : FnD l.prog w K mg base 4 "_law_small" ["script", "at", "most"] (spG K (q_law_small K)) := FnD.of F_law_small (PySem.W.mg_of X G a_law_small) b_law_small (ok_law_small F_law_small Bn D_law_book D_law_form D_law_hand D_law_text D_law_weights D_law_off D_law_draws)
  have D_TooMany_init : IxD l.prog w K mg base 1 "TooMany" C_TooMany "many" ["self", "many"] := ⟨_, _, PySem.W.mg_of X G nc_TooMany, a_TooMany_init, tf_TooMany_init, b_TooMany_init, ok_TooMany_init F_TooMany_init ME_MeantError (PySem.W.mg_of X G nc_MeantError) XC_TooMany⟩
  have D_Web_init : MkD l.prog w K mg base 1 "Web" C_Web ["self", "book", "form", "hand", "stretches"] (q_Web K C_Web) := ⟨_, _, ⟨mk_Web, a_Web_init, i_Web_init, kc_Web⟩, PySem.W.mg_of X G nc_Web, b_Web_init, ok_Web_init F_Web_init Bn W_Web (memoW_voW l.prog w K)⟩
  have D_Web_first : MtD l.prog w K mg base 1 C_Web "first" ["self"] (spG K (q_first K C_Web)) := ⟨_, _, ⟨a_Web_first, i_Web_first, k_Web_first⟩, b_Web_first, ok_Web_first F_Web_first⟩
  have D_Web_begun : MtD l.prog w K mg base 1 C_Web "begun" ["self", "row"] (spG K (q_begun K C_Web)) := ⟨_, _, ⟨a_Web_begun, i_Web_begun, k_Web_begun⟩, b_Web_begun, ok_Web_begun F_Web_begun Bn W_Web⟩
  have D_Web_choices : MtD l.prog w K mg base 2 C_Web "choices" ["self", "at", "row"] (spG K (q_choices K C_Web)) := ⟨_, _, ⟨a_Web_choices, i_Web_choices, k_Web_choices⟩, b_Web_choices, ok_Web_choices F_Web_choices W_Web D_Web_begun⟩
  have D_divisor : FnD l.prog w K mg base 1 "divisor" ["one", "other"] (spG K (q_divisor K)) := FnD.of F_divisor (PySem.W.mg_of X G a_divisor) b_divisor (ok_divisor F_divisor Bn)
  have D_made : FnD l.prog w K mg base 2 "made" ["top", "bottom"] (spG K (q_made K)) := FnD.of F_made (PySem.W.mg_of X G a_made) b_made (ok_made F_made D_divisor)
  have D_over : FnD l.prog w K mg base 3 "over" ["one", "other"] (spG K (q_over K)) := FnD.of F_over (PySem.W.mg_of X G a_over) b_over (ok_over F_over D_made)
  have D_and_slack : FnD l.prog w K mg base 1 "and_slack" ["slack"] (spG K (q_aslack K)) := FnD.of F_and_slack (PySem.W.mg_of X G a_and_slack) b_and_slack (ok_and_slack F_and_slack)
  have D_less_slack : FnD l.prog w K mg base 1 "less_slack" ["slack"] (spG K (q_lslack K)) := FnD.of F_less_slack (PySem.W.mg_of X G a_less_slack) b_less_slack (ok_less_slack F_less_slack)
  have D_bounds_at : FnD l.prog w K mg base 4 "bounds_at" ["length", "weight", "slack"] (spG K (q_bounds K)) := FnD.of F_bounds_at (PySem.W.mg_of X G a_bounds_at) b_bounds_at (ok_bounds_at F_bounds_at D_made D_over D_and_slack D_less_slack)
  have D_is_less : FnD l.prog w K mg base 1 "is_less" ["one", "other"] (spG K (q_less K)) := FnD.of F_is_less (PySem.W.mg_of X G a_is_less) b_is_less (ok_is_less F_is_less)
  have D_greater_of : FnD l.prog w K mg base 2 "greater_of" ["one", "other"] (spG K (q_greaterof K)) := FnD.of F_greater_of (PySem.W.mg_of X G a_greater_of) b_greater_of (ok_greater_of F_greater_of D_is_less)
  have D_less_of : FnD l.prog w K mg base 2 "less_of" ["one", "other"] (spG K (q_lessof K)) := FnD.of F_less_of (PySem.W.mg_of X G a_less_of) b_less_of (ok_less_of F_less_of D_is_less)
  have D_times : FnD l.prog w K mg base 3 "times" ["one", "other"] (spG K (q_times K)) := FnD.of F_times (PySem.W.mg_of X G a_times) b_times (ok_times F_times D_made)
  have D_Web_next_stands : MtD l.prog w K mg base 5 C_Web "next_stands" ["self", "stand"] (spG K (q_next K C_Web)) := ⟨_, _, ⟨a_Web_next_stands, i_Web_next_stands, k_Web_next_stands⟩, b_Web_next_stands, ok_Web_next_stands F_Web_next_stands W_Web D_Web_choices D_bounds_at D_greater_of D_less_of D_over D_times D_is_less⟩
  have D_Web_ways_on : MtD l.prog w K mg base 67 C_Web "ways_on" ["self", "stand"] (spG K (q_ways K C_Web 61)) := ⟨_, _, ⟨a_Web_ways_on, i_Web_ways_on, k_Web_ways_on⟩, b_Web_ways_on, ok_Web_ways_on F_Web_ways_on Bn W_Web (memoW_voW l.prog w K) ⟨a_Web_ways_on, i_Web_ways_on, k_Web_ways_on⟩ b_Web_ways_on D_Web_next_stands⟩
  have D_Web_weights_at : MtD l.prog w K mg base 68 C_Web "weights_at" ["self", "number"] (spG K (q_wat K C_Web)) := ⟨_, _, ⟨a_Web_weights_at, i_Web_weights_at, k_Web_weights_at⟩, b_Web_weights_at, ok_Web_weights_at F_Web_weights_at Bn W_Web D_Web_next_stands D_Web_ways_on D_Web_first⟩
  have D_text_of : FnD l.prog w K mg base 1 "text_of" ["book", "form", "numbers"] (spG K (q_text_of K)) := FnD.of F_text_of (PySem.W.mg_of X G a_text_of) b_text_of (ok_text_of F_text_of Bn)
  have D_readX : FnED l.prog w K mg base 69 "readings" ["book", "form", "hand", "stretches", "most"] 400 (spO K (q_readX K C_TooMany)) := (F_readX.binds (ps := ["book", "form", "hand", "stretches", "most"]) (fun T kV doc pm an cdv ct d us hl => match us, hl with | [_, _, _, _], _ => ⟨_, rfl, rfl⟩)).elim fun t bt => ⟨_, _, t, PySem.W.mg_of X G a_readX, k_readX, bt, ok_readX F_readX Bn XC_TooMany D_TooMany_init W_Web D_Web_init D_Web_first D_Web_ways_on D_Web_weights_at D_text_of⟩
  have D_law_told : FnD l.prog w K mg base 70 "_law_told" ["book", "form", "hand", "stretches"] (spG K (q_told39 K)) := FnD.of F_law_told (PySem.W.mg_of X G a_law_told) b_law_told (ok_law_told F_law_told (PySem.W.mg_of X G nc_TooMany) xx_TooMany D_readX)
  have D_law_less : FnD l.prog w K mg base 1 "_law_less" ["one", "other"] (spG K (q_less K)) := FnD.of F_law_less (PySem.W.mg_of X G a_law_less) b_law_less (ok_law_less F_law_less)
  have D_law_serves : FnD l.prog w K mg base 2 "_law_serves" ["stretches", "weights", "slack"] (spG K (q_serves K)) := FnD.of F_law_serves (PySem.W.mg_of X G a_law_serves) b_law_serves (ok_law_serves F_law_serves Bn D_law_low D_law_less)
  have D_row_weights : FnD l.prog w K mg base 1 "row_weights" ["form", "row"] (spN K (q_row_weights K)) := FnD.of F_row_weights (PySem.W.mg_of X G a_row_weights) b_row_weights (ok_row_weights F_row_weights Bn)
  have D_weights_of : FnD l.prog w K mg base 2 "weights_of" ["book", "form", "text"] (spG K (q_weights_of K)) := FnD.of F_weights_of (PySem.W.mg_of X G a_weights_of) b_weights_of (ok_weights_of F_weights_of Bn D_row_weights)
  have D_Web_number_of : MtD l.prog w K mg base 68 C_Web "number_of" ["self", "weights"] (spG K (q_numof K C_Web)) := ⟨_, _, ⟨a_Web_number_of, i_Web_number_of, k_Web_number_of⟩, b_Web_number_of, ok_Web_number_of F_Web_number_of Bn W_Web D_Web_next_stands D_Web_ways_on D_Web_first⟩
  have D_number_of : FnD l.prog w K mg base 69 "number_of" ["book", "form", "hand", "stretches", "text"] (spG K (q_number_of K)) := FnD.of F_number_of (PySem.W.mg_of X G a_number_of) b_number_of (ok_number_of F_number_of Bn W_Web D_Web_init D_weights_of D_Web_number_of)
  exact ok_law F_law Bn D_law_small D_law_draws D_law_text D_law_weights D_law_off D_law_told D_law_serves D_number_of
theorem walk {l : PySem.W.OpenLaw} {q : Program} {loose : List Str} {XP : (Str → Option Value) → Heap → Prop} {YP : World → Heap → Prop} {d : DefRec} {K : Params → PySem.W.Frag} (hn : l.most = some 63) (hdf : d.params.defaults = [])
    (hY : ∀ (w : World) (h : Heap), YP w h → (K w.params).In h)
    (F : ∀ (w : World) (mg : Str → Option Value) (fa : Addr) (h : Heap), (K w.params).In h → h.Ns mainGlobals mg → mg d.name = some (.ref fa) →
      ∃ fd : FuncData, (∀ (s : Shared) (u : Value), BindsTo s fd ⟨[u], []⟩ [("script", u)]) ∧ ∀ base : Heap, (K w.params).In base → base.Ns mainGlobals mg → letI : Vo := voW l.prog w (K w.params); FnOk l.prog w (K w.params) mg base CX0 71 fa fd ["script"] (spG (K w.params) (q_law (K w.params)))) :
    PySem.W.WalkO q loose XP YP l.row.toRowW d [] (fun f vs => PySem.call f vs) :=
  L2.walk_of (n := 63) (k := 71) (x := "script") (CX := fun _ => CX0) (sp := fun w => letI : Vo := voW l.prog w (K w.params); spG (K w.params) (q_law (K w.params))) hn (by decide) hdf ⟨rfl, by decide, by decide⟩ hY F (fun w H a ns hl hO hS => letI : Vo := voW l.prog w (K w.params); law_sp (fh_only hO) hS) fun _ _ _ _ _ z => z
end Z
open PySem PySem.W PyProof.Rows
set_option maxRecDepth 100000 in
set_option maxHeartbeats 0 in
theorem PySem.Challenge.cw_longshort_k39_whole_texts_joined_holds : PySem.Challenge.rw_longshort_k39_whole_texts_joined.Holds := by
  w_on; o_law; k_head; (case hw => w_witness2)
  k_fill
  refine Z.walk (l := PySem.Challenge.rw_longshort_k39_whole_texts_joined) rfl rfl (fun w h Y => PySem.W.kIn_of Y) ?F
  case F =>
    intro w mg fa h KX G hmg
    refine' Z.all_mk KX G hmg ?nc_Web ?pg_Web ?hd_Web ?po_Web ?sa_Web ?mk_Web ?kc_Web ?nf_Web_rows ?nf_Web_form ?nf_Web_hand ?nf_Web_stretches ?nf_Web_counts ?nc_TooMany ?ox_TooMany ?or_TooMany ?sa_TooMany ?ex_TooMany ?ty_TooMany ?kc_TooMany ?nf_TooMany ?xg_TooMany ?xa_TooMany ?xh_TooMany ?ss_TooMany ?nc_MeantError ?mga_MeantError ?mrd_MeantError ?mfc_MeantError ?a_divisor ?l_divisor ?c_divisor ?k_divisor ?a_made ?l_made ?c_made ?k_made ?a_times ?l_times ?c_times ?k_times ?a_over ?l_over ?c_over ?k_over ?a_is_less ?l_is_less ?c_is_less ?k_is_less ?a_less_of ?l_less_of ?c_less_of ?k_less_of ?a_greater_of ?l_greater_of ?c_greater_of ?k_greater_of ?a_less_slack ?l_less_slack ?c_less_slack ?k_less_slack ?a_and_slack ?l_and_slack ?c_and_slack ?k_and_slack ?a_law_cell ?l_law_cell ?c_law_cell ?k_law_cell ?a_law_draws ?l_law_draws ?c_law_draws ?k_law_draws ?a_law_book ?l_law_book ?c_law_book ?k_law_book ?a_bounds_at ?l_bounds_at ?c_bounds_at ?k_bounds_at ?a_law_low ?l_law_low ?c_law_low ?k_law_low ?a_law_less ?l_law_less ?c_law_less ?k_law_less ?a_law_form ?l_law_form ?c_law_form ?k_law_form ?a_law_hand ?l_law_hand ?c_law_hand ?k_law_hand ?a_law_text ?l_law_text ?c_law_text ?k_law_text ?a_law_weights ?l_law_weights ?c_law_weights ?k_law_weights ?a_law_off ?l_law_off ?c_law_off ?k_law_off ?a_law_small ?l_law_small ?c_law_small ?k_law_small ?a_Web_init ?i_Web_init ?l_Web_init ?c_Web_init ?k_Web_init ?a_Web_begun ?i_Web_begun ?l_Web_begun ?c_Web_begun ?k_Web_begun ?a_Web_choices ?i_Web_choices ?l_Web_choices ?c_Web_choices ?k_Web_choices ?a_Web_next_stands ?i_Web_next_stands ?l_Web_next_stands ?c_Web_next_stands ?k_Web_next_stands ?a_Web_first ?i_Web_first ?l_Web_first ?c_Web_first ?k_Web_first ?a_Web_ways_on ?i_Web_ways_on ?l_Web_ways_on ?c_Web_ways_on ?k_Web_ways_on ?a_row_weights ?l_row_weights ?c_row_weights ?k_row_weights ?a_weights_of ?l_weights_of ?c_weights_of ?k_weights_of ?a_Web_number_of ?i_Web_number_of ?l_Web_number_of ?c_Web_number_of ?k_Web_number_of ?a_number_of ?l_number_of ?c_number_of ?k_number_of ?a_text_of ?l_text_of ?c_text_of ?k_text_of ?a_Web_weights_at ?i_Web_weights_at ?l_Web_weights_at ?c_Web_weights_at ?k_Web_weights_at ?a_TooMany_init ?i_TooMany_init ?l_TooMany_init ?c_TooMany_init ?k_TooMany_init ?a_readX ?l_readX ?lT_readX ?c_readX ?k_readX ?a_law_told ?l_law_told ?c_law_told ?k_law_told ?a_law_serves ?l_law_serves ?c_law_serves ?k_law_serves ?a_law ?l_law ?c_law ?k_law ?tf_TooMany_init ?z_len ?z_range ?z_abs ?z_int ?z_str ?z_bool ?z_list ?z_tuple ?z_dict ?z_set ?z_sum ?z_sorted ?z_enumerate ?z_zip ?z_any ?z_all ?z_isinstance ?z_min ?z_max
    (case nc_Web => k_is); (case pg_Web => k_is); (case hd_Web => k_is); (case po_Web => k_is); (case sa_Web => k_is); (case mk_Web => k_is)
    (case kc_Web => k_is); (case nf_Web_rows => k_is); (case nf_Web_form => k_is); (case nf_Web_hand => k_is); (case nf_Web_stretches => k_is); (case nf_Web_counts => k_is)
    (case nc_TooMany => k_is); (case ox_TooMany => k_is); (case or_TooMany => rfl); (case sa_TooMany => k_is); (case ex_TooMany => k_is); (case ty_TooMany => k_is)
    (case kc_TooMany => k_is); (case nf_TooMany => k_is); (case xg_TooMany => k_is); (case xa_TooMany => k_is); (case xh_TooMany => k_is); (case ss_TooMany => k_is)
    (case nc_MeantError => k_is); (case mga_MeantError => k_is); (case mrd_MeantError => k_is); (case mfc_MeantError => k_is); (case a_divisor => k_is); (case l_divisor => k_is)
    (case c_divisor => k_is); (case k_divisor => k_is); (case a_made => k_is); (case l_made => k_is); (case c_made => k_is); (case k_made => k_is)
    (case a_times => k_is); (case l_times => k_is); (case c_times => k_is); (case k_times => k_is); (case a_over => k_is); (case l_over => k_is)
    (case c_over => k_is); (case k_over => k_is); (case a_is_less => k_is); (case l_is_less => k_is); (case c_is_less => k_is); (case k_is_less => k_is)
    (case a_less_of => k_is); (case l_less_of => k_is); (case c_less_of => k_is); (case k_less_of => k_is); (case a_greater_of => k_is); (case l_greater_of => k_is)
    (case c_greater_of => k_is); (case k_greater_of => k_is); (case a_less_slack => k_is); (case l_less_slack => k_is); (case c_less_slack => k_is); (case k_less_slack => k_is)
    (case a_and_slack => k_is); (case l_and_slack => k_is); (case c_and_slack => k_is); (case k_and_slack => k_is); (case a_law_cell => k_is); (case l_law_cell => k_is)
    (case c_law_cell => k_is); (case k_law_cell => k_is); (case a_law_draws => k_is); (case l_law_draws => k_is); (case c_law_draws => k_is); (case k_law_draws => k_is)
    (case a_law_book => k_is); (case l_law_book => k_is); (case c_law_book => k_is); (case k_law_book => k_is); (case a_bounds_at => k_is); (case l_bounds_at => k_is)
    (case c_bounds_at => k_is); (case k_bounds_at => k_is); (case a_law_low => k_is); (case l_law_low => k_is); (case c_law_low => k_is); (case k_law_low => k_is)
    (case a_law_less => k_is); (case l_law_less => k_is); (case c_law_less => k_is); (case k_law_less => k_is); (case a_law_form => k_is); (case l_law_form => k_is)
    (case c_law_form => k_is); (case k_law_form => k_is); (case a_law_hand => k_is); (case l_law_hand => k_is); (case c_law_hand => k_is); (case k_law_hand => k_is)
    (case a_law_text => k_is); (case l_law_text => k_is); (case c_law_text => k_is); (case k_law_text => k_is); (case a_law_weights => k_is); (case l_law_weights => k_is)
    (case c_law_weights => k_is); (case k_law_weights => k_is); (case a_law_off => k_is); (case l_law_off => k_is); (case c_law_off => k_is); (case k_law_off => k_is)
    (case a_law_small => k_is); (case l_law_small => k_is); (case c_law_small => k_is); (case k_law_small => k_is); (case a_Web_init => k_is); (case i_Web_init => k_is)
    (case l_Web_init => k_is); (case c_Web_init => k_is); (case k_Web_init => k_is); (case a_Web_begun => k_is); (case i_Web_begun => k_is); (case l_Web_begun => k_is)
    (case c_Web_begun => k_is); (case k_Web_begun => k_is); (case a_Web_choices => k_is); (case i_Web_choices => k_is); (case l_Web_choices => k_is); (case c_Web_choices => k_is)
    (case k_Web_choices => k_is); (case a_Web_next_stands => k_is); (case i_Web_next_stands => k_is); (case l_Web_next_stands => k_is); (case c_Web_next_stands => k_is); (case k_Web_next_stands => k_is)
    (case a_Web_first => k_is); (case i_Web_first => k_is); (case l_Web_first => k_is); (case c_Web_first => k_is); (case k_Web_first => k_is); (case a_Web_ways_on => k_is)
    (case i_Web_ways_on => k_is); (case l_Web_ways_on => k_is); (case c_Web_ways_on => k_is); (case k_Web_ways_on => k_is); (case a_row_weights => k_is); (case l_row_weights => k_is)
    (case c_row_weights => k_is); (case k_row_weights => k_is); (case a_weights_of => k_is); (case l_weights_of => k_is); (case c_weights_of => k_is); (case k_weights_of => k_is)
    (case a_Web_number_of => k_is); (case i_Web_number_of => k_is); (case l_Web_number_of => k_is); (case c_Web_number_of => k_is); (case k_Web_number_of => k_is); (case a_number_of => k_is)
    (case l_number_of => k_is); (case c_number_of => k_is); (case k_number_of => k_is); (case a_text_of => k_is); (case l_text_of => k_is); (case c_text_of => k_is)
    (case k_text_of => k_is); (case a_Web_weights_at => k_is); (case i_Web_weights_at => k_is); (case l_Web_weights_at => k_is); (case c_Web_weights_at => k_is); (case k_Web_weights_at => k_is)
    (case a_TooMany_init => k_is); (case i_TooMany_init => k_is); (case l_TooMany_init => k_is); (case c_TooMany_init => k_is); (case k_TooMany_init => k_is); (case a_readX => k_is)
    (case l_readX => k_is); (case lT_readX => k_is); (case c_readX => k_is); (case k_readX => k_is); (case a_law_told => k_is); (case l_law_told => k_is)
    (case c_law_told => k_is); (case k_law_told => k_is); (case a_law_serves => k_is); (case l_law_serves => k_is); (case c_law_serves => k_is); (case k_law_serves => k_is)
    (case a_law => k_is); (case l_law => k_is); (case c_law => k_is); (case k_law => k_is); (case tf_TooMany_init => k_is); (case z_len => k_is)
    (case z_range => k_is); (case z_abs => k_is); (case z_int => k_is); (case z_str => k_is); (case z_bool => k_is); (case z_list => k_is)
    (case z_tuple => k_is); (case z_dict => k_is); (case z_set => k_is); (case z_sum => k_is); (case z_sorted => k_is); (case z_enumerate => k_is)
    (case z_zip => k_is); (case z_any => k_is); (case z_all => k_is); (case z_isinstance => k_is); (case z_min => k_is); (case z_max => k_is)
