import PyProof.Rows.All
import Wide.All
import OpenK.AllK
import Wide.FinOn
import KE.KStateDown
import Lean
import HandS.ForMost
import HandS.ForExc
import HandS.More
import HandS.Strs
import HandS.Text
import HandS.TryOnly
import PyProof.P3Eq
import HandS.IsInst
import HandS.Style
import HandS.Flow
import HandS.Zip
import HandS.Codes
import HandS.SetFor
import HandS.Wide
import HandS.Conv
import HandS.Defaults
import HandS.Head0
import HandS.Head1
import HandS.Head2
import HandS.HeadEnd
import HandS.HeadHook1
import HandS.HeadHook2
import KE.KDictSum
import KE.KItemsList
import HandS.SortInts
import PyProof.Rows.SortShellAny
import HandS.SortRule
import HandS.DictTup
import HandS.ListItems
import HandS.ExcValue
import HandS.ExcIs
import HandS.ExcInit
import HandS.ExcField
import KE.KExcIs
import KE.KIsAll
import PySem.Challenge.RW_boardheld_k02_whole_images_listed
import HandS.DeepEq
import HandS.DictComp
import HandS.Codes
set_option Elab.async false
set_option linter.all false
set_option maxRecDepth 100000
set_option maxHeartbeats 0
namespace Q
open PySem PySem.Spec PyProof.Rows L2

/-! ### a Hook: facts, defs, one more Bool -/
def obsM (fa : List He.Fa) (fn : List He.DefD) (ex : PySem.W.Frag → Bool) (K : PySem.W.Frag) : He.AlD × Bool := (He.obsD fa fn K, ex K)
def asM (g : Addr → Option Obj) (n : Nat) : List Addr := He.asD g n ++ [PySem.cStatics]
def obsMG (n : Nat) (fa : List He.Fa) (fn : List He.DefD) (ex : PySem.W.Frag → Bool) (g : Addr → Option Obj) : He.AlD × Bool := obsM fa fn ex (He.frG g (asM g n))
def SaysM (fa : List He.Fa) (fn : List He.DefD) (ex : PySem.W.Frag → Bool) (K : PySem.W.Frag) : Prop := obsM fa fn ex K = (He.valD fn, true)
def hookM (n : Nat) (fa : List He.Fa) (fn : List He.DefD) (ex : PySem.W.Frag → Bool) : PySem.W.Hook where
  α := He.AlD × Bool
  obs := fun s => obsMG n fa fn ex s.heap.get?
  val := fun _ => (He.valD fn, true)
  says := fun _ h => ∃ K : PySem.W.Frag, K.In h ∧ SaysM fa fn ex K
  of := fun _ _ e => ⟨_, He.frG_in, e⟩
  keeps := fun _ _ _ ⟨K, hK, c⟩ k => ⟨K, PySem.W.Frag.In.keeps hK k, c⟩
theorem obsMG_eq {n : Nat} {fa : List He.Fa} {fn : List He.DefD} {ex : PySem.W.Frag → Bool} {g : Addr → Option Obj} {s : Shared} (h : ∀ a, g a = s.heap.get? a) : obsMG n fa fn ex g = (hookM n fa fn ex).obs s := by
  have e : g = s.heap.get? := funext h
  rw [e] <;> rfl
theorem SaysM.d {fa : List He.Fa} {fn : List He.DefD} {ex : PySem.W.Frag → Bool} {K : PySem.W.Frag} (c : SaysM fa fn ex K) : He.SaysD fa fn K := congrArg (fun z : He.AlD × Bool => z.1) c
theorem SaysM.more {fa : List He.Fa} {fn : List He.DefD} {ex : PySem.W.Frag → Bool} {K : PySem.W.Frag} (c : SaysM fa fn ex K) : ex K = true := congrArg (fun z : He.AlD × Bool => z.2) c
abbrev FnP (K : PySem.W.Frag) (x q : Str) (st : Stmt) (f : Addr) (fd : FuncData) : Prop := FunD K x q (defArgs st) (defBody st) (defScope st) [] [] f fd


/-! ### heaps: what is kept, what is owned (Kp S S': all but S is kept; S' is S and new places) -/
structure Kp (S S' : List Addr) (H H' : Hp) : Prop where
  kept : ∀ b o, H b = some o → b ∉ S → H' b = some o
  own : ∀ b, b ∈ S' → b ∈ S ∨ H b = none
  tups : ∀ b xs, H b = some (.tup xs) → H' b = some (.tup xs)
theorem Kp.refl (S : List Addr) (H : Hp) : Kp S S H H := ⟨fun _ _ h _ => h, fun _ h => .inl h, fun _ _ h => h⟩
theorem Kp.trans {S S1 S2 : List Addr} {H H1 H2 : Hp} (a : Kp S S1 H H1) (b : Kp S1 S2 H1 H2) : Kp S S2 H H2 := by
  refine ⟨fun c o h n => b.kept c o (a.kept c o h n) fun m => ?_, fun c m => ?_, fun c xs h => b.tups c xs (a.tups c xs h)⟩
  · rcases a.own c m with z | z
    · exact n z
    · rw [z] at h; cases h
  · rcases b.own c m with z | z
    · exact a.own c z
    · by_cases hc : c ∈ S
      · exact .inl hc
      · right
        cases q : H c with
        | none => rfl
        | some o => rw [a.kept c o q hc] at z; cases z
theorem Kp.sub {S S1 S2 : List Addr} {H H' : Hp} (a : Kp S S1 H H') (h : ∀ b, b ∈ S2 → b ∈ S1) : Kp S S2 H H' := ⟨a.kept, fun b m => a.own b (h b m), a.tups⟩
theorem Kp.more {S S' T : List Addr} {H H' : Hp} (a : Kp S S' H H') (h : ∀ b, b ∈ S → b ∈ T) : Kp T S' H H' :=
  ⟨fun b o e n => a.kept b o e fun m => n (h b m), fun b m => (a.own b m).imp (h b) id, a.tups⟩
def notTup : HO → Prop
  | .tup _ => False
  | _ => True
theorem Kp.upd {S : List Addr} {H : Hp} {a : Addr} {o o' : HO} (h : H a = some o) (hn : notTup o) (m : a ∈ S) : Kp S S H (upd H a o') :=
  ⟨fun b u e n => by rw [upd_ne (fun z => n (by rw [z]; exact m))]; exact e, fun _ z => .inl z, fun b xs e => by
    rw [upd_ne]; exact e
    rintro rfl; rw [e] at h; cases h; exact hn⟩
theorem Kp.new {S : List Addr} {H : Hp} {a : Addr} {o : HO} (h : H a = none) : Kp S S H (L2.upd H a o) :=
  ⟨fun b u e _ => by rw [upd_ne (ne_of_none e h)]; exact e, fun _ z => .inl z, fun b xs e => by rw [upd_ne (ne_of_none e h)]; exact e⟩
theorem Kp.newIn {S : List Addr} {H : Hp} {a : Addr} {o : HO} (h : H a = none) : Kp S (a :: S) H (L2.upd H a o) :=
  ⟨(Kp.new (S := S) h).kept, fun b m => by
    rcases List.mem_cons.mp m with z | z
    · rw [z]; exact .inr h
    · exact .inl z, (Kp.new (S := S) h).tups⟩
/-- nothing owned: all is kept -/
theorem Kp.same {S : List Addr} {H H' : Hp} (a : Kp [] S H H') : Same H H' := fun b o e => a.kept b o e (by simp)
theorem Kp.ofSame {H H' : Hp} (a : Same H H') : Kp [] [] H H' := ⟨fun b o e _ => a b o e, fun _ m => .inl m, fun b xs e => a b _ e⟩
theorem Kp.free {S S' : List Addr} {H H' : Hp} (a : Kp S S' H H') {l : Addr} (h : H' l = none) (n : l ∉ S) : H l = none := by
  cases q : H l with
  | none => rfl
  | some o => rw [a.kept l o q n] at h; cases h
theorem Kp.seq {K : PySem.W.Frag} {S S' : List Addr} {H H' : Hp} {a : Addr} {xs : List V} (k : Kp S S' H H') (n : a ∉ S) (h : SqL K H a xs) : SqL K H' a xs := by
  rcases h with (h | ⟨o, h⟩) | h
  · exact .inl (.inl (k.kept _ _ h n))
  · exact .inl (.inr ⟨o, k.kept _ _ h n⟩)
  · exact .inr h
/-- tuples at the addresses of a list of values -/
abbrev Tups (H : Hp) (vs : List V) (xss : List (List V)) : Prop := Paired (fun v xs => ∃ t, v = V.ref t ∧ H t = some (.tup xs)) vs xss
theorem Tups.mono {H H' : Hp} (k : ∀ b xs, H b = some (.tup xs) → H' b = some (.tup xs)) : ∀ {vs : List V} {xss : List (List V)}, Tups H vs xss → Tups H' vs xss
  | _, _, .nil => .nil
  | _, _, .cons ⟨t, e, h⟩ r => .cons ⟨t, e, k _ _ h⟩ (Tups.mono k r)
theorem paired_snoc {α β : Type} {F : α → β → Prop} {x : α} {y : β} (h : F x y) : ∀ {xs : List α} {ys : List β}, Paired F xs ys → Paired F (xs ++ [x]) (ys ++ [y])
  | _, _, .nil => .cons h .nil
  | _, _, .cons r t => .cons r (paired_snoc h t)
/-! ### small rules -/
section
variable {X : Cx}
theorem gi_ {x : Str} {i : Int} {pos : Pos} (hg : Gl X x) (hm : ∃ t, X.mg x = some (.int i t)) (hd : (x == ("__debug__" : Str)) = false := by decide) : PE X (.Name x pos) (tC (.int i)) := by
  obtain ⟨t, h⟩ := hm
  exact pe_glob hg h ⟨t, rfl⟩ hd
theorem gr_ {x : Str} {a : Addr} {pos : Pos} (hg : Gl X x) (hm : X.mg x = some (.ref a)) (hd : (x == ("__debug__" : Str)) = false := by decide) : PE X (.Name x pos) (tC (.ref a)) := pe_glob hg hm rfl hd
theorem gs_ {x z : Str} {pos : Pos} (hg : Gl X x) (hm : ∃ t, X.mg x = some (.str z t)) (hd : (x == ("__debug__" : Str)) = false := by decide) : PE X (.Name x pos) (tC (.str z)) := by
  obtain ⟨t, h⟩ := hm
  exact pe_glob hg h ⟨t, rfl⟩ hd
end
/-- a def's promise kept, how it binds, that it stays -/
def Ok (P : Program) (w : World) (K : PySem.W.Frag) (mg : Str → Option Value) (base : Heap) (CX : CXT) (k : Nat) (f : Addr) (ps : List Str) (sp : Sp) : Prop :=
  ∃ fd, FnOk P w K mg base CX k f fd ps sp ∧ Binds K fd ps [] ∧ PySem.W.keepIn K (.ref f) = true
theorem small_ {n : Nat} (h : n ≤ 16777215) : n < sizeLine := Nat.lt_of_le_of_lt h (by decide)
theorem small_le {n : Nat} (h : n ≤ 16777216) : n ≤ sizeLine := Nat.le_trans h (by decide)
theorem at_i {xs : List Int} {i : Int} {n : Int} (h0 : 0 ≤ i) (h : xs[i.toNat]? = some n) : atI (xs.map V.int) i = some (.int n) := by
  have e : i = ((i.toNat : Nat) : Int) := by omega
  rw [e]
  refine atI_nat ?_
  rw [List.getElem?_map]
  have e2 : ((i.toNat : Nat) : Int).toNat = i.toNat := by omega
  rw [h] <;> rfl
/-! ### tests whose answer is open -/
section
variable {A B : Prop}
theorem iteD {p : Prop} [Decidable p] (h1 : p → A) (h2 : ¬ p → B) : if decide p = true then A else B := ite2 (fun h => h1 (of_decide_eq_true h)) (fun h => h2 fun z => h (decide_eq_true z))
theorem iteN {p : Prop} [Decidable p] (h1 : ¬ p → A) (h2 : p → B) : if (!decide p) = true then A else B := by
  by_cases h : p
  · rw [decide_eq_true h]; exact h2 h
  · rw [decide_eq_false h]; exact h1 h
theorem iteI {a b : Int} (h1 : a = b → A) (h2 : a ≠ b → B) : if decide (V.int a = V.int b) = true then A else B := iteD (fun h => h1 (V.int.inj h)) (fun h => h2 fun z => h (congrArg V.int z))
theorem iteIN {a b : Int} (h1 : a ≠ b → A) (h2 : a = b → B) : if (!decide (V.int a = V.int b)) = true then A else B := iteN (fun h => h1 fun z => h (congrArg V.int z)) (fun h => h2 (V.int.inj h))
theorem iteBo {b : Bool} (h1 : b = true → A) (h2 : b = false → B) : if b = true then A else B := by
  cases b with
  | true => exact h1 rfl
  | false => exact h2 rfl
theorem iteBs {b c : Bool} (e : b = c) (h : if c = true then A else B) : if b = true then A else B := by rw [e]; exact h
end
/-! ### data read deep -/
section
variable {K : PySem.W.Frag} {H : Hp}
theorem dpInts : ∀ xs : List Int, DpAll K H (xs.map V.int) (xs.map PyData.int)
  | [] => .nil
  | x :: r => .cons (.int x) (dpInts r)
theorem dpL {a : Addr} {xs : List Int} (h : SqL K H a (xs.map V.int)) : Dp K H (.ref a) (.list (xs.map PyData.int)) := .lst h (dpInts xs)
theorem lay_all {ds : List PyData} (h : ∀ d ∈ ds, d.canLay0 = true) : PyData.canLayAll0 ds = true := by
  induction ds with
  | nil => simp only [PyData.canLayAll0]
  | cons d r ih => simp only [PyData.canLayAll0, h d (by simp), ih fun e he => h e (by simp [he]), Bool.and_self]
theorem lay_ints (xs : List Int) : PyData.canLay0 (.list (xs.map PyData.int)) = true := by
  simp only [PyData.canLay0]
  refine lay_all fun d hd => ?_
  obtain ⟨x, _, rfl⟩ := List.mem_map.mp hd
  simp only [PyData.canLay0]
theorem shp {d : PyData} (h1 : d.canLay0 = true) (h2 : d.depth ≤ 64) : SeqAt.shaped d = true := by
  unfold SeqAt.shaped
  rw [h1, decide_eq_true h2]; rfl
theorem depth_all {ds : List PyData} {n : Nat} (h : ∀ d ∈ ds, d.depth ≤ n) : PyData.depthAll ds ≤ n := by
  induction ds with
  | nil => simp only [PyData.depthAll]; exact Nat.zero_le _
  | cons d r ih =>
    simp only [PyData.depthAll]
    exact Nat.max_le.mpr ⟨h d (by simp), ih fun e he => h e (by simp [he])⟩
theorem shp_ints (xs : List Int) : SeqAt.shaped (.list (xs.map PyData.int)) = true := by
  refine shp (lay_ints xs) ?_
  simp only [PyData.depth]
  have : PyData.depthAll (xs.map PyData.int) ≤ 0 := depth_all fun d hd => by
    obtain ⟨x, _, rfl⟩ := List.mem_map.mp hd
    simp only [PyData.depth]; exact Nat.le_refl _
  omega
theorem eqv_ints : ∀ xs ys : List Int, PyData.eqvAll (xs.map PyData.int) (ys.map PyData.int) = decide (xs = ys)
  | [], [] => by simp [PyData.eqvAll]
  | [], _ :: _ => by simp [PyData.eqvAll]
  | _ :: _, [] => by simp [PyData.eqvAll]
  | x :: r, y :: q => by
    simp only [List.map_cons, PyData.eqvAll, PyData.eqv, eqv_ints r q]
    by_cases h : x = y <;> by_cases h2 : r = q <;> simp [h, h2]
theorem eqv_intL (xs ys : List Int) : PyData.eqv (.list (xs.map PyData.int)) (.list (ys.map PyData.int)) = decide (xs = ys) := by
  rw [PyData.eqv]; exact eqv_ints xs ys
end

/-! ### defs that raise, isinstance of what is caught: own rules -/
inductive Rz (ρ ε : Type) where
  | ok (r : ρ)
  | ex (e : ε)
def Rz.on {ρ ε τ : Type} (z : Rz ρ ε) (h : ε → τ) (k : ρ → τ) : τ := match z with
  | .ok r => k r
  | .ex e => h e
def rIsEv (K : PySem.W.Frag) (cls : Value) (d : Option Addr) (a : Addr) : List V → Hp → VK → Prop := fun xs H Q => ∃ (D : Addr) (c : V) (cv : Value) (b : Bool), cls = .ref D ∧ d = none ∧ ExcC K D ∧ xs = [.ref a, c] ∧ (∀ u, RelV c u → u = cv) ∧ PySem.W.kitOne K (.ref D) cv = some b ∧ Q (.bl b) H
theorem call_isEv {X : Cx} {a : Addr} {oe : Obj} {cls : Value} {d : Option Addr} {pn : List (Addr × Obj)} (hz : Zc cls d oe) (hf : ∃ vs, oe.data = .fields vs) : CallR (X.suite a ((a, oe) :: pn)) (.builtin "isinstance") (rIsEv X.K cls d a) := by
  intro pins s σ H xs us Q I r h
  obtain ⟨D, c, cv, b, rfl, rfl, C, e1, e2, e3, q⟩ := h
  exact call_isE C hz hf pins s σ H xs us Q I r ⟨c, cv, b, e1, e2, e3, q⟩
def rIsEvT (K : PySem.W.Frag) (cls : Value) (d : Option Addr) (a : Addr) : List V → Hp → VK → Prop := fun xs H Q => ∃ (D tp : Addr) (cs : List V) (us : List Value) (b : Bool), cls = .ref D ∧ d = none ∧ ExcC K D ∧ xs = [.ref a, .ref tp] ∧ H tp = some (.tup cs) ∧ Paired ClsV cs us ∧ PySem.W.kitAny K (.ref D) us = some b ∧ Q (.bl b) H
theorem call_isEvT {X : Cx} {a : Addr} {oe : Obj} {cls : Value} {d : Option Addr} {pn : List (Addr × Obj)} (hz : Zc cls d oe) (hf : ∃ vs, oe.data = .fields vs) : CallR (X.suite a ((a, oe) :: pn)) (.builtin "isinstance") (rIsEvT X.K cls d a) := by
  intro pins s σ H xs us Q I r h
  obtain ⟨D, tp, cs, ws, b, rfl, rfl, C, rfl, hT, k, e, q⟩ := h
  obtain ⟨u1, u2, rfl, r1, r2⟩ := vals2 r
  cases (show u1 = Value.ref a from r1)
  cases (show u2 = Value.ref tp from r2)
  obtain ⟨hget, _⟩ := I.pin (a, oe) (List.mem_append.mpr (.inl List.mem_cons_self))
  obtain ⟨vs, hv⟩ := hf
  have J : PySem.W.InstAt s.heap a oe D none := by
    obtain ⟨oc, od, oda, osl⟩ := oe
    obtain ⟨h1, h2⟩ := hz
    dsimp only at h1 h2 hv
    subst h1 h2 hv
    exact ⟨hget, rfl, rfl, trivial⟩
  obtain ⟨_, its, rv, o, h1, h2, n, h3⟩ := (show ObjOk X.prog X.w H s.heap tp (.tup cs) from I.hok tp _ hT)
  have e3 := ClsV.all k rv
  subst e3
  obtain ⟨oc, od, dt, sl⟩ := o
  simp only at h2 h3
  subst h2 h3
  exact PySem.W.kia_tup (PySem.W.handS_kitx_exc C.hg C.hk C.hs C.hd C.ha C.hn C.ht C.hm) I.kIn J h1 e (fun z => nomatch z) fun tk => ⟨.bl b, H, I.kept (t' := tk) fun _ _ z => z, rfl, q⟩
/-- what a class must say so that isinstance asks its instances rightly, as one Bool -/
def excB (K : PySem.W.Frag) (x : Str) : Bool :=
  decide (PySem.W.findIn K (.ref (He.ga K x)) "__getattribute__" = some (some (.builtin "BaseException.__getattribute__"))) && (decide (PySem.W.findIn K (.ref (He.ga K x)) "__getattr__" = some none) &&
  (decide (PySem.W.subIn K (.ref (He.ga K x)) (.type "BaseException") = some true) && (PySem.W.hasDictIn K (He.ga K x) && (decide (PySem.W.findIn K (.ref (He.ga K x)) "__class__" = some (some (.builtin "object.__class__"))) &&
  (decide (PySem.W.specialIn K (.builtin "object.__class__") "__get__" = some (some (.builtin "getset_descriptor.__get__"))) && (decide (PySem.W.takesIn K (.builtin "object.__class__") = some true) && decide (PySem.W.mroIn K (He.ga K x) (.type "object") = some true)))))))
theorem excB_ok {K : PySem.W.Frag} {x : Str} (h : excB K x = true) : ExcC K (He.ga K x) := by
  obtain ⟨h1, h⟩ := He.ba h
  obtain ⟨h2, h⟩ := He.ba h
  obtain ⟨h3, h⟩ := He.ba h
  obtain ⟨h4, h⟩ := He.ba h
  obtain ⟨h5, h⟩ := He.ba h
  obtain ⟨h6, h⟩ := He.ba h
  obtain ⟨h7, h8⟩ := He.ba h
  exact ⟨of_decide_eq_true h1, of_decide_eq_true h2, of_decide_eq_true h3, h4, of_decide_eq_true h5, of_decide_eq_true h6, of_decide_eq_true h7, of_decide_eq_true h8⟩

/-! ### what is caught may carry a field: isinstance of it, its field, its making: own rules -/
/-- the dict of what is caught: none, or fields -/
def XdOf (H : Hp) (d : Option Addr) : Prop := d = none ∨ ∃ dd fs, d = some dd ∧ H dd = some (.xd fs)
theorem inst_ev {X : Cx} {pins : List (Addr × Obj)} {σ : L2.St} {H : Hp} {s : Shared} {a D : Addr} {oe : Obj} {d : Option Addr} (hok : HOk X.prog X.w H s.heap) (hz : Zc (.ref D) d oe) (hf : ∃ vs, oe.data = .fields vs) (hd : XdOf H d) (ha : s.heap.get? a = some oe) : ∃ od, PySem.W.InstAt s.heap a oe D od := by
  obtain ⟨vs, hv⟩ := hf
  obtain ⟨oc, od, oda, osl⟩ := oe
  obtain ⟨h1, h2⟩ := hz
  dsimp only at h1 h2 hv
  subst h1 h2 hv
  rcases hd with rfl | ⟨dd, fs, rfl, e⟩
  · exact ⟨none, ha, rfl, rfl, trivial⟩
  · have hx : ObjOk X.prog X.w H s.heap dd (.xd fs) := hok dd _ e
    obtain ⟨mA, hns, hr⟩ := hx
    obtain ⟨od, ho, hl⟩ := lookIn_ns hns
    exact ⟨some od, ha, rfl, rfl, ho⟩
theorem kitx_ev {K : PySem.W.Frag} {x D : Addr} {ox : Obj} {od : Option Obj} (C : ExcC K D) : PySem.W.KitX K (.ref x) (.ref D) (fun h => PySem.W.InstAt h x ox D od) :=
  PySem.W.kitx_exc (by obtain ⟨cd, hc, _⟩ := PySem.W.any_some C.hd; rw [hc]; rfl) C.hg C.hk C.hs C.ha C.hn C.ht C.hm
def rIsEw (K : PySem.W.Frag) (cls : Value) (d : Option Addr) (a : Addr) : List V → Hp → VK → Prop := fun xs H Q => ∃ (D : Addr) (c : V) (cv : Value) (b : Bool), cls = .ref D ∧ XdOf H d ∧ ExcC K D ∧ xs = [.ref a, c] ∧ (∀ u, RelV c u → u = cv) ∧ PySem.W.kitOne K (.ref D) cv = some b ∧ Q (.bl b) H
theorem call_isEw {X : Cx} {a : Addr} {oe : Obj} {cls : Value} {d : Option Addr} {pn : List (Addr × Obj)} (hz : Zc cls d oe) (hf : ∃ vs, oe.data = .fields vs) : CallR (X.suite a ((a, oe) :: pn)) (.builtin "isinstance") (rIsEw X.K cls d a) := by
  intro pins s σ H xs us Q I r h
  obtain ⟨D, c, cv, b, rfl, hd, C, rfl, hcv, e, q⟩ := h
  obtain ⟨u1, u2, rfl, r1, r2⟩ := vals2 r
  cases (show u1 = Value.ref a from r1)
  have ec := hcv _ r2
  subst ec
  obtain ⟨hget, _⟩ := I.pin (a, oe) (List.mem_append.mpr (.inl List.mem_cons_self))
  obtain ⟨od, J⟩ := inst_ev (pins := pins) (σ := σ) I.hok hz hf hd hget
  exact PySem.W.kia_one (kitx_ev C) I.kIn J e (fun z => nomatch z) fun tk => ⟨.bl b, H, I.kept (t' := tk) fun _ _ z => z, rfl, q⟩
/-- xs.count(y), all of them plain -/
def rCntF (K : PySem.W.Frag) : V → List V → Hp → VK → Prop := fun x xs H Q => ∃ (p : Addr) (ys : List V) (y : V), x = .ref p ∧ xs = [y] ∧ SqL K H p ys ∧ flatV y = true ∧ ys.all flatV = true ∧ Q (.int ((ys.countP fun z => eqV z y : Nat) : Int)) H
theorem countP_eqU {x : V} : ∀ {xs : List V} {us : List Value}, Vals xs us → xs.all flatV = true → us.countP (eqU x) = xs.countP fun y => eqV y x
  | _, _, .nil, _ => rfl
  | y :: xs, u :: us, .cons r t, f => by
    rw [List.all_cons, Bool.and_eq_true] at f
    rw [List.countP_cons, List.countP_cons, eqU_of r f.1, countP_eqU t f.2]
theorem mt_countF {X : Cx} : MtR X "list.count" (rCntF X.K) := by
  intro pins s σ H x xs v us Q I rx rxs h
  obtain ⟨p, ys, y, rfl, rfl, hs, fy, fys, q⟩ := h
  cases rx
  obtain ⟨u, rfl, ru⟩ := rxs.one
  obtain ⟨its, rv, ⟨⟨cls, dd, data, sl⟩, n, ho, hc, hdn, hd⟩, hlen⟩ := I.list hs
  simp only at hc hd
  subst hc hd
  refine call_meets PySem.F.slot_list_count ⟨_, ho, rfl⟩ PySem.F.entry_list_count (PySem.F.args_list_count_2 _ _)
    (SeqAt.list_countAt p its.toArray n dd sl u (eqU y)) ⟨ho, fun u' hu' => mem_eqAt ru fy rv fys u' (by simpa using hu'), ?_⟩
  have ec : its.toArray.toList.countP (eqU y) = ys.countP fun z => eqV z y := countP_eqU rv fys
  refine ⟨.int ((ys.countP fun z => eqV z y : Nat) : Int), H, I.tok _, ⟨s.toks, ?_⟩, q⟩
  show Value.int ((its.toArray.toList.countP (eqU y) : Nat) : Int) s.toks = Value.int ((ys.countP fun z => eqV z y : Nat) : Int) s.toks
  rw [ec]
/-! an own class whose __init__ tells its base, then keeps one field -/
def oexB (K : PySem.W.Frag) (x : Str) : Bool :=
  (match K.lookup (He.ga K x) with
  | some ⟨.type "type", _, .cls cd, sl⟩ => (match cd.mro, sl.toList with
    | .ref C' :: bm, [_, _, _, _, some (.builtin n), _] => C' == He.ga K x && (n == "ValueError.__new__" && (!cd.hasDel && (cd.hasDict && PySem.HandSPX.refsVE bm)))
    | _, _ => false)
  | _ => false) && (decide (PySem.W.findIn K (.ref (He.ga K x)) "__setattr__" = some (some (.builtin "object.__setattr__"))) && (decide (PySem.W.subIn K (.ref (He.ga K x)) (.type "BaseException") = some true) && (decide (PySem.W.typeIn K (.ref (He.ga K x)) = some (.type "type")) && PySem.W.keepIn K (.ref (He.ga K x)))))
theorem oexB_ok {K : PySem.W.Frag} {x : Str} (h : oexB K x = true) : OexC K (He.ga K x) := by
  obtain ⟨h0, h⟩ := He.ba h
  obtain ⟨h1, h⟩ := He.ba h
  obtain ⟨h2, h⟩ := He.ba h
  obtain ⟨h3, h4⟩ := He.ba h
  refine ⟨?_, of_decide_eq_true h1, of_decide_eq_true h2, of_decide_eq_true h3, h4⟩
  split at h0
  · rename_i dd cd sl ho
    split at h0
    · rename_i C' bm k0 k1 k2 k3 n k5 hm hs
      simp only [Bool.and_eq_true, beq_iff_eq, Bool.not_eq_true'] at h0
      obtain ⟨rfl, rfl, hdel, hdi, hr⟩ := h0
      obtain ⟨nm, bs, mro, ns, qn, hd, sn, sub, ab, col, del⟩ := cd
      dsimp only at hm hdel hdi
      subst hm hdel hdi
      have hsl : sl = #[k0, k1, k2, k3, some (.builtin "ValueError.__new__"), k5] := by
        obtain ⟨l⟩ := sl
        simp only at hs
        rw [hs]
      subst hsl
      exact ⟨nm, qn, ns, bs, bm, sn, sub, ab, col, dd, k0, k1, k2, k3, k5, ho, hr⟩
    · cases h0
  · cases h0
/-- what a base class that has no __init__ of its own must say -/
def beiB (K : PySem.W.Frag) (x : Str) : Bool := decide (PySem.W.specialIn K (.ref (He.ga K x)) "__getattribute__" = some (some (.builtin "type.__getattribute__"))) && (PySem.W.readsIn K (He.ga K x) (.type "type") && (match PySem.W.findCls K (.ref (He.ga K x)) (.type "type") "__init__" with
  | some (.val (.builtin n)) => n == "ValueError.__init__"
  | _ => false))
structure BeI (K : PySem.W.Frag) (B : Addr) : Prop where
  sp : PySem.W.specialIn K (.ref B) "__getattribute__" = some (some (.builtin "type.__getattribute__"))
  rd : PySem.W.readsIn K B (.type "type") = true
  at_ : PySem.W.findCls K (.ref B) (.type "type") "__init__" = some (.val (.builtin "ValueError.__init__"))
theorem beiB_ok {K : PySem.W.Frag} {x : Str} (h : beiB K x = true) : BeI K (He.ga K x) := by
  obtain ⟨h1, h⟩ := He.ba h
  obtain ⟨h2, h3⟩ := He.ba h
  refine ⟨of_decide_eq_true h1, h2, ?_⟩
  split at h3
  · rename_i n e
    rw [e, beq_iff_eq.mp h3]
  · cases h3
theorem pe_beinit {X : Cx} {e : Expr} {es : List Expr} {ta : TA} {p1 p2 pos : Pos} {B : Addr} {bn : Str} {pl : Sem Bool} (hg : Gl X bn) (hm : X.mg bn = some (.ref B)) (T : BeI X.K B) (ha : PA X (e :: es) ta) (hdb : (bn == ("__debug__" : Str)) = false := by decide)
    (hc : eval (.Call (.Attribute (.Name bn p1) "__init__" p2) (e :: es) [] pos) X.env = (do
      let ov ← eval (.Name bn p1) X.env
      standAt p2.atName
      let (f, first) ← holding [ov] (getMethod ov "__init__" pl)
      callWith pos f first (backTo pos (starEach (e :: es) X.env)) (backToKw pos (keywordEach [] X.env))) := by rfl)
    (he : starEach (e :: es) X.env = (false, eval e X.env) :: starEach es X.env := by rfl) (hpl : (backTo pos (starEach es X.env)).any (·.1) = false := by rfl) :
    PE X (.Call (.Attribute (.Name bn p1) "__init__" p2) (e :: es) [] pos) (tVeI X.K ta) := by
  refine ⟨fun pins s σ H Q I h => ?_⟩
  refine PySem.W.methodCall_KW (ld_glob I hg hm ?_ hdb) hc
  refine PySem.W.method_cls I.kIn T.sp (PySem.W.cls_value I.kIn T.rd T.at_ rfl ?_)
  show wpAny _ _ (callWith pos (Value.builtin "ValueError.__init__") [] (backTo pos (starEach (e :: es) X.env)) []) _ _ _
  refine PyProof.Rows.callWith_method1 (thn (ha.run pos pins _ σ H _ (I.tok _) h) fun us s1 ⟨vs, H1, I1, r1, a, C, ws, ev, hl, T, ea, q⟩ => ?_) he hpl
  subst ev
  cases r1 with
  | @cons _ u0 _ ur ra rw' =>
    obtain rfl : u0 = Value.ref a := ra
    have hlen : ur.length ≤ sizeLine := by
      rw [← Paired.length rw', sizeLine_eq]
      omega
    exact oinit_ok T I1 ea hlen fun s' J => ⟨.non, H1, J, rfl, q⟩
/-! a method that may raise -/
section
variable {X : Cx} {CX : CXT} {k : Nat} {f C : Addr} {fd : FuncData} {ps : List Str} {sp : Sp} {E : L2.St → XK} {m : Str} {pos apos : Pos} {e o : Expr} {es : List Expr} {ta : TE} {t : TA}
theorem nil_app {a : V} {vs : List V} {H : Hp} {Q : VK} {E : XK} (h : sp (a :: (vs ++ [])) H Q E) : sp (a :: vs) H Q E := by rw [List.append_nil] at h; exact h
def tMethS (C : Addr) (m : Str) (sp : Sp) (E : L2.St → XK) (ta : TE) (t : TA) : TE := fun σ H Q => tMeth C m sp [] (E σ) ta t σ H Q
theorem binds_nil {K : PySem.W.Frag} {fd : FuncData} {ps : List Str} {ds : List Value} (h : Vals [] ds) (b : Binds K fd ps ds) : Binds K fd ps [] := by cases h; exact b
theorem pe_methS {pl : Sem Bool} (he : PE X o ta) (c : Cls X.K C) (hm : Meth X.K C m f) (F : FnOk X.prog X.w X.K X.mg X.base CX k f fd ps sp) (hr : Room k X.A) (hb : Binds X.K fd ps []) (hx : ∀ σ, PassesAt CX X σ (E σ)) (ha : PA X (e :: es) t)
    (hst : starEach (e :: es) X.env = (false, eval e X.env) :: starEach es X.env := by rfl) (hpl : (backTo pos (starEach es X.env)).any (·.1) = false := by rfl)
    (ht : eval (.Call (.Attribute o m apos) (e :: es) [] pos) X.env = (do
      let ov ← eval o X.env
      standAt apos.atName
      let (f, first) ← holding [ov] (getMethod ov m pl)
      callWith pos f first (backTo pos (starEach (e :: es) X.env)) (backToKw pos (keywordEach [] X.env))) := by rfl) :
    PE X (.Call (.Attribute o m apos) (e :: es) [] pos) (tMethS C m sp E ta t) := by
  refine ⟨fun pins s σ H Q I h => ?_⟩
  refine PySem.W.methodCall_KW (pl := pl) (thn (he.run pins s σ H _ I h) fun u s1 ⟨x, H1, I1, rx, a, dx, fs, ex, ea, l, q⟩ => ?_) ht
  subst ex
  obtain rfl : u = Value.ref a := rx
  refine getmeth_ok I1 ea c hm l ?_
  refine PySem.W.callWith_K (first := [.ref a]) (h₀ := X.base) I.ok.mod.kin hm.kp (thn (ha.run pos pins s1 σ H1 _ I1 q) fun us s2 ⟨vs, H2, I2, r, q2⟩ => ⟨I2.kIn, ?_⟩) hst hpl
  exact run_fnS (us := .ref a :: us) (vs := .ref a :: vs) F hr hb (hx σ) I2 (.cons rfl r) (nil_app q2)
theorem pe_meth0S {pl : Sem Bool} (he : PE X o ta) (c : Cls X.K C) (hm : Meth X.K C m f) (F : FnOk X.prog X.w X.K X.mg X.base CX k f fd ps sp) (hr : Room k X.A) (hb : Binds X.K fd ps []) (hx : ∀ σ, PassesAt CX X σ (E σ))
    (ht : eval (.Call (.Attribute o m apos) [] [] pos) X.env = (do
      let ov ← eval o X.env
      standAt apos.atName
      let (f, first) ← holding [ov] (getMethod ov m pl)
      callWith pos f first (backTo pos (starEach [] X.env)) (backToKw pos (keywordEach [] X.env))) := by rfl) :
    PE X (.Call (.Attribute o m apos) [] [] pos) (tMethS C m sp E ta tNil) := by
  refine ⟨fun pins s σ H Q I h => ?_⟩
  refine PySem.W.methodCall_KW (pl := pl) (thn (he.run pins s σ H _ I h) fun u s1 ⟨x, H1, I1, rx, a, dx, fs, ex, ea, l, q⟩ => ?_) ht
  subst ex
  obtain rfl : u = Value.ref a := rx
  refine getmeth_ok I1 ea c hm l ?_
  exact PySem.W.callWith_K0 (first := [.ref a]) I1.kIn hm.kp (run_fnS (us := [.ref a]) (vs := [.ref a]) F hr hb (hx σ) I1 (.cons rfl .nil) q)
end
/-- what C.__init__(self, v) of such a class keeps: f -/
def spXi (C : Addr) (f : Str) : Sp := fun vs H Q _ => ∃ (a : Addr) (v : V), vs = [.ref a, v] ∧ H a = some (exo a C none) ∧ ∀ dx, H dx = none → dx ≠ a → Q .non (upd (upd H dx (exd dx [(f, v)])) a (exo a C (some dx)))
/-- raise C(v) -/
theorem xi_end {C : Addr} {f : Str} {v : V} {H1 : Hp} {Q : XK} (q : ∀ d, H1 d = none → Q (.ref C) (some d) (upd H1 d (.xd [(f, v)]))) :
    [v].length ≤ 1000 ∧ ∀ a, H1 a = none → spXi C f (.ref a :: ([v] ++ [])) (upd H1 a (exo a C none)) (fun v H2 => v = .non ∧ ∃ (d : Addr) (fs : List (Str × V)), H2 a = some (exo a C (some d)) ∧ H2 d = some (exd d fs) ∧ H1 d = none ∧ Q (.ref C) (some d) (upd (del H2 a) d (.xd fs))) (fun _ _ _ => False) := by
  refine ⟨(show 1 ≤ 1000 by decide), fun a na => ⟨a, v, rfl, upd_same, fun dx hd hne => ⟨rfl, dx, [(f, v)], upd_same, by rw [upd_ne hne]; exact upd_same, ?_, ?_⟩⟩⟩
  · rw [upd_ne hne] at hd; exact hd
  · rw [upd_ne hne] at hd
    have e : (upd (del (upd (upd (upd H1 a (exo a C none)) dx (exd dx [(f, v)])) a (exo a C (some dx))) a) dx (.xd [(f, v)])) = upd H1 dx (.xd [(f, v)]) := by
      funext b
      by_cases hb : b = dx
      · rw [hb, upd_same, upd_same]
      · rw [upd_ne hb, upd_ne hb]
        by_cases ha : b = a
        · rw [ha, del_same, na]
        · rw [del_ne ha, upd_ne ha, upd_ne hb, upd_ne ha]
    rw [e]
    exact q dx hd
/-! truths that are known -/
theorem iteTs {A B : Prop} (h : A) : if true = true then A else B := by rw [if_pos rfl]; exact h
theorem iteFs {A B : Prop} (h : B) : if false = true then A else B := by rw [if_neg (by decide)]; exact h
theorem ix_first {bs : List Bool} {j : Nat} (h : (bs.take j).all (fun b => !b) = true) : ∀ (m : Nat) (z : V), m < j → (bs.map V.bl)[m]? = some z → eqV z (.bl true) = false := fun m z hm hz => by
  rw [List.getElem?_map] at hz
  cases e : bs[m]? with
  | none => rw [e] at hz; cases hz
  | some b =>
    rw [e] at hz
    obtain rfl := Option.some.inj hz
    have : b ∈ bs.take j := List.mem_of_getElem? (i := m) (by rw [List.getElem?_take, if_pos hm]; exact e)
    have := List.all_eq_true.mp h b this
    cases b
    · rfl
    · cases this

/-! ### the text by places -/
def top (i : Nat) : Stmt := PySem.Challenge.pw_boardheld_k02_whole_images_listed.main.body.getD i (.Pass ⟨0, 0, 0, 0⟩)
abbrev s_NoText_init : Stmt := inClass (top 2) 0
abbrev s_word_of : Stmt := top 8
abbrev s_row_of : Stmt := top 13
abbrev s_listed : Stmt := top 14
abbrev s_is_small : Stmt := top 15
abbrev s_number_in : Stmt := top 16
abbrev s_Laying_init : Stmt := inClass (top 17) 0
abbrev s_Laying_take : Stmt := inClass (top 17) 1
abbrev s_Laying_name_here : Stmt := inClass (top 17) 2
abbrev s_Laying_lay : Stmt := inClass (top 17) 3
abbrev s_Laying_go_on : Stmt := inClass (top 17) 4
abbrev s_Laying_lay_part : Stmt := inClass (top 17) 5
abbrev s_Laying_fill : Stmt := inClass (top 17) 6
abbrev s_typed : Stmt := top 18
abbrev s__law_cell : Stmt := top 20
abbrev s__law_digits : Stmt := top 21
abbrev s_law : Stmt := top 22
/-! ### what the top has written -/
structure Txt (K : PySem.W.Frag) (mg : Str → Option Value) : Prop where
  g_BoardError : mg "BoardError" = some (.ref (He.ga K "BoardError"))
  g_NoText : mg "NoText" = some (.ref (He.ga K "NoText"))
  c_FLASH : ∃ t, mg "FLASH" = some (.int 512 t)
  c_ERASED : ∃ t, mg "ERASED" = some (.int 65535 t)
  g_NAMES : mg "NAMES" = some (.ref (He.ga K "NAMES"))
  c_MOST : ∃ t, mg "MOST" = some (.int 65535 t)
  g_word_of : mg "word_of" = some (.ref (He.ga K "word_of"))
  g_BARE : mg "BARE" = some (.ref (He.ga K "BARE"))
  c_SMALL : ∃ t, mg "SMALL" = some (.str "abcdefghijklmnopqrstuvwxyz" t)
  c_FIGURES : ∃ t, mg "FIGURES" = some (.str "0123456789" t)
  g_row_of : mg "row_of" = some (.ref (He.ga K "row_of"))
  g_listed : mg "listed" = some (.ref (He.ga K "listed"))
  g_is_small : mg "is_small" = some (.ref (He.ga K "is_small"))
  g_number_in : mg "number_in" = some (.ref (He.ga K "number_in"))
  g_Laying : mg "Laying" = some (.ref (He.ga K "Laying"))
  g_typed : mg "typed" = some (.ref (He.ga K "typed"))
  g__law_cell : mg "_law_cell" = some (.ref (He.ga K "_law_cell"))
  g__law_digits : mg "_law_digits" = some (.ref (He.ga K "_law_digits"))
  g_law : mg "law" = some (.ref (He.ga K "law"))
  f_all : mg "all" = none
  f_enumerate : mg "enumerate" = none
  f_int : mg "int" = none
  f_len : mg "len" = none
  f_list : mg "list" = none
  f_range : mg "range" = none
  f_str : mg "str" = none
  x_BoardError : PySem.W.excIn K (He.ga K "BoardError") He.veBase "ValueError.__new__" = true ∧ PySem.W.keepIn K (.ref (He.ga K "BoardError")) = true ∧ PySem.W.subIn K (.ref (He.ga K "BoardError")) (.type "BaseException") = some true ∧ PySem.W.typeIn K (.ref (He.ga K "BoardError")) = some (.type "type")
  xm_BoardError_BoardError : PySem.W.exmOne K (.ref (He.ga K "BoardError")) (.ref (He.ga K "BoardError")) = some true
  xm_BoardError_NoText : PySem.W.exmOne K (.ref (He.ga K "BoardError")) (.ref (He.ga K "NoText")) = some false
  xm_NoText_BoardError : PySem.W.exmOne K (.ref (He.ga K "NoText")) (.ref (He.ga K "BoardError")) = some true
  xm_NoText_NoText : PySem.W.exmOne K (.ref (He.ga K "NoText")) (.ref (He.ga K "NoText")) = some true
  k_Laying : Cls K (He.ga K "Laying")
  n_Laying_laid : NoAttr K (He.ga K "Laying") "laid"
  n_Laying_called : NoAttr K (He.ga K "Laying") "called"
  n_Laying_wanted : NoAttr K (He.ga K "Laying") "wanted"
  m_Laying_init : Meth K (He.ga K "Laying") "__init__" (He.ma K (He.ga K "Laying") "__init__")
  mk_Laying : Mk K (He.ga K "Laying") (He.ma K (He.ga K "Laying") "__init__")
  m_Laying_take : Meth K (He.ga K "Laying") "take" (He.ma K (He.ga K "Laying") "take")
  m_Laying_name_here : Meth K (He.ga K "Laying") "name_here" (He.ma K (He.ga K "Laying") "name_here")
  m_Laying_lay : Meth K (He.ga K "Laying") "lay" (He.ma K (He.ga K "Laying") "lay")
  m_Laying_go_on : Meth K (He.ga K "Laying") "go_on" (He.ma K (He.ga K "Laying") "go_on")
  m_Laying_lay_part : Meth K (He.ga K "Laying") "lay_part" (He.ma K (He.ga K "Laying") "lay_part")
  m_Laying_fill : Meth K (He.ga K "Laying") "fill" (He.ma K (He.ga K "Laying") "fill")
  l_NAMES : ∀ H : Hp, SqL K H (He.ga K "NAMES") [V.str "mark", V.str "lit", V.str "get", V.str "put", V.str "add", V.str "sub", V.str "and", V.str "xor", V.str "getb", V.str "putb", V.str "tob", V.str "swap", V.str "go", V.str "ifz", V.str "ifn", V.str "call", V.str "ret", V.str "push", V.str "pop", V.str "sleep", V.str "let", V.str "back", V.str "half"]
  l_BARE : ∀ H : Hp, SqL K H (He.ga K "BARE") [V.str "mark", V.str "tob", V.str "swap", V.str "ret", V.str "push", V.str "pop", V.str "sleep", V.str "back", V.str "half"]
  xo_NoText : OexC K (He.ga K "NoText")
  bi_BoardError : BeI K (He.ga K "BoardError")
  xf_NoText : XfC K (He.ga K "NoText")
  xn_NoText : PySem.W.findIn K (.ref (He.ga K "NoText")) "at" = some none
  xt_NoText : PySem.W.findIn K (.ref (He.ga K "NoText")) "__init__" = some (some (.ref (He.fAd K ("NoText", some "__init__"))))
  xy_NoText : PySem.W.typeIn K (.ref (He.fAd K ("NoText", some "__init__"))) = some (.type "function")
  d_NoText_init : ∃ fd, FnP K "__init__" "NoText.__init__" s_NoText_init (He.fAd K ("NoText", some "__init__")) fd
  d_word_of : ∃ fd, FnP K "word_of" "word_of" s_word_of (He.fAd K ("word_of", none)) fd
  d_row_of : ∃ fd, FnP K "row_of" "row_of" s_row_of (He.fAd K ("row_of", none)) fd
  d_listed : ∃ fd, FnP K "listed" "listed" s_listed (He.fAd K ("listed", none)) fd
  d_is_small : ∃ fd, FnP K "is_small" "is_small" s_is_small (He.fAd K ("is_small", none)) fd
  d_number_in : ∃ fd, FnP K "number_in" "number_in" s_number_in (He.fAd K ("number_in", none)) fd
  d_Laying_init : ∃ fd, FnP K "__init__" "Laying.__init__" s_Laying_init (He.fAd K ("Laying", some "__init__")) fd
  d_Laying_take : ∃ fd, FnP K "take" "Laying.take" s_Laying_take (He.fAd K ("Laying", some "take")) fd
  d_Laying_name_here : ∃ fd, FnP K "name_here" "Laying.name_here" s_Laying_name_here (He.fAd K ("Laying", some "name_here")) fd
  d_Laying_lay : ∃ fd, FnP K "lay" "Laying.lay" s_Laying_lay (He.fAd K ("Laying", some "lay")) fd
  d_Laying_go_on : ∃ fd, FnP K "go_on" "Laying.go_on" s_Laying_go_on (He.fAd K ("Laying", some "go_on")) fd
  d_Laying_lay_part : ∃ fd, FnP K "lay_part" "Laying.lay_part" s_Laying_lay_part (He.fAd K ("Laying", some "lay_part")) fd
  d_Laying_fill : ∃ fd, FnP K "fill" "Laying.fill" s_Laying_fill (He.fAd K ("Laying", some "fill")) fd
  d_typed : ∃ fd, FnP K "typed" "typed" s_typed (He.fAd K ("typed", none)) fd
  d__law_cell : ∃ fd, FnP K "_law_cell" "_law_cell" s__law_cell (He.fAd K ("_law_cell", none)) fd
  d__law_digits : ∃ fd, FnP K "_law_digits" "_law_digits" s__law_digits (He.fAd K ("_law_digits", none)) fd
  d_law : ∃ fd, FnP K "law" "law" s_law (He.fAd K ("law", none)) fd
/-! ### the head: facts by names, written lists of the top, the run -/
def fa : List He.Fa := [.glo "BoardError",
  .glo "NoText",
  .int "FLASH" 512,
  .int "ERASED" 65535,
  .glo "NAMES",
  .int "MOST" 65535,
  .glo "word_of",
  .glo "BARE",
  .str "SMALL" "abcdefghijklmnopqrstuvwxyz",
  .str "FIGURES" "0123456789",
  .glo "row_of",
  .glo "listed",
  .glo "is_small",
  .glo "number_in",
  .glo "Laying",
  .glo "typed",
  .glo "_law_cell",
  .glo "_law_digits",
  .glo "law",
  .free "all",
  .free "enumerate",
  .free "int",
  .free "len",
  .free "list",
  .free "range",
  .free "str",
  .exc "BoardError",
  .exm "BoardError" "BoardError" true,
  .exm "BoardError" "NoText" false,
  .exm "NoText" "BoardError" true,
  .exm "NoText" "NoText" true,
  .cls "Laying",
  .noat "Laying" "laid",
  .noat "Laying" "called",
  .noat "Laying" "wanted",
  .meth "Laying" "__init__",
  .mkr "Laying",
  .meth "Laying" "take",
  .meth "Laying" "name_here",
  .meth "Laying" "lay",
  .meth "Laying" "go_on",
  .meth "Laying" "lay_part",
  .meth "Laying" "fill"]
def fn : List He.DefD := [⟨("NoText", some "__init__"), "__init__", "NoText.__init__", defArgs s_NoText_init, defBody s_NoText_init, defScope s_NoText_init, [], []⟩,
  ⟨("word_of", none), "word_of", "word_of", defArgs s_word_of, defBody s_word_of, defScope s_word_of, [], []⟩,
  ⟨("row_of", none), "row_of", "row_of", defArgs s_row_of, defBody s_row_of, defScope s_row_of, [], []⟩,
  ⟨("listed", none), "listed", "listed", defArgs s_listed, defBody s_listed, defScope s_listed, [], []⟩,
  ⟨("is_small", none), "is_small", "is_small", defArgs s_is_small, defBody s_is_small, defScope s_is_small, [], []⟩,
  ⟨("number_in", none), "number_in", "number_in", defArgs s_number_in, defBody s_number_in, defScope s_number_in, [], []⟩,
  ⟨("Laying", some "__init__"), "__init__", "Laying.__init__", defArgs s_Laying_init, defBody s_Laying_init, defScope s_Laying_init, [], []⟩,
  ⟨("Laying", some "take"), "take", "Laying.take", defArgs s_Laying_take, defBody s_Laying_take, defScope s_Laying_take, [], []⟩,
  ⟨("Laying", some "name_here"), "name_here", "Laying.name_here", defArgs s_Laying_name_here, defBody s_Laying_name_here, defScope s_Laying_name_here, [], []⟩,
  ⟨("Laying", some "lay"), "lay", "Laying.lay", defArgs s_Laying_lay, defBody s_Laying_lay, defScope s_Laying_lay, [], []⟩,
  ⟨("Laying", some "go_on"), "go_on", "Laying.go_on", defArgs s_Laying_go_on, defBody s_Laying_go_on, defScope s_Laying_go_on, [], []⟩,
  ⟨("Laying", some "lay_part"), "lay_part", "Laying.lay_part", defArgs s_Laying_lay_part, defBody s_Laying_lay_part, defScope s_Laying_lay_part, [], []⟩,
  ⟨("Laying", some "fill"), "fill", "Laying.fill", defArgs s_Laying_fill, defBody s_Laying_fill, defScope s_Laying_fill, [], []⟩,
  ⟨("typed", none), "typed", "typed", defArgs s_typed, defBody s_typed, defScope s_typed, [], []⟩,
  ⟨("_law_cell", none), "_law_cell", "_law_cell", defArgs s__law_cell, defBody s__law_cell, defScope s__law_cell, [], []⟩,
  ⟨("_law_digits", none), "_law_digits", "_law_digits", defArgs s__law_digits, defBody s__law_digits, defScope s__law_digits, [], []⟩,
  ⟨("law", none), "law", "law", defArgs s_law, defBody s_law, defScope s_law, [], []⟩]
def ex (K : PySem.W.Frag) : Bool := He.lstB K "NAMES" [.str "mark", .str "lit", .str "get", .str "put", .str "add", .str "sub", .str "and", .str "xor", .str "getb", .str "putb", .str "tob", .str "swap", .str "go", .str "ifz", .str "ifn", .str "call", .str "ret", .str "push", .str "pop", .str "sleep", .str "let", .str "back", .str "half"] && (He.lstB K "BARE" [.str "mark", .str "tob", .str "swap", .str "ret", .str "push", .str "pop", .str "sleep", .str "back", .str "half"] && (oexB K "NoText" && (beiB K "BoardError" && (xfB K (He.ga K "NoText") && (decide (PySem.W.findIn K (.ref (He.ga K "NoText")) "at" = some none) && (decide (PySem.W.findIn K (.ref (He.ga K "NoText")) "__init__" = some (some (.ref (He.fAd K ("NoText", some "__init__"))))) && (decide (PySem.W.typeIn K (.ref (He.fAd K ("NoText", some "__init__"))) = some (.type "function")))))))))
abbrev R : PySem.W.OpenRow := PySem.W.OpenLaw.row PySem.Challenge.rw_boardheld_k02_whole_images_listed
abbrev hk : PySem.W.Hook := hookM 4 fa fn ex
def ob (s : PySem.W.SharedT) : He.AlD × Bool := obsMG 4 fa fn ex (HandSHeadRun.getT s)
theorem ob_eq (s : PySem.W.SharedT) : ob s = hk.obs s.abs := obsMG_eq (HandSHeadRun.getT_eq s)
def loose : List PySem.Str := ([(PySem.Str.ofString "BoardError"), (PySem.Str.ofString "NoText"), (PySem.Str.ofString "FLASH"), (PySem.Str.ofString "ERASED"), (PySem.Str.ofString "NAMES"), (PySem.Str.ofString "MOST"), (PySem.Str.ofString "word_of"), (PySem.Str.ofString "BARE"), (PySem.Str.ofString "SMALL"), (PySem.Str.ofString "FIGURES"), (PySem.Str.ofString "row_of"), (PySem.Str.ofString "listed"), (PySem.Str.ofString "is_small"), (PySem.Str.ofString "number_in"), (PySem.Str.ofString "Laying"), (PySem.Str.ofString "typed"), (PySem.Str.ofString "_law_cell"), (PySem.Str.ofString "_law_digits")] : List PySem.Str)
theorem map3 {α β γ δ : Type} {o : Option α} {f : α → β} {g : α → γ} {h : α → δ} {a : β} {b : γ} {c : δ} (h1 : o.map f = some a) (h2 : o.map g = some b) (h3 : o.map h = some c) : (o.map fun s => (f s, g s, h s)) = some (a, b, c) := by
  cases o with
  | none => cases h1
  | some s => rw [Option.map_some] at *; rw [Option.some.inj h1, Option.some.inj h2, Option.some.inj h3]
theorem oall_cut {σ α : Type} {o : Option σ} {p : σ → α → Bool} {l : List α} (i k : Nat) (h1 : (o.map fun s => ((l.drop i).take k).all (p s)) = some true) (h2 : (o.map fun s => (l.drop (i + k)).all (p s)) = some true) : (o.map fun s => (l.drop i).all (p s)) = some true := by
  cases o with
  | none => cases h1
  | some s =>
    rw [Option.map_some] at *
    rw [← List.take_append_drop k (l.drop i), List.all_append, Option.some.inj h1, List.drop_drop, Option.some.inj h2]; rfl
theorem omap_cut {σ α β : Type} {o : Option σ} {p : σ → α → β} {g : α → β} {l : List α} (i k : Nat) (h1 : (o.map fun s => ((l.drop i).take k).map (p s)) = some (((l.drop i).take k).map g)) (h2 : (o.map fun s => (l.drop (i + k)).map (p s)) = some ((l.drop (i + k)).map g)) : (o.map fun s => (l.drop i).map (p s)) = some ((l.drop i).map g) := by
  cases o with
  | none => cases h1
  | some s =>
    rw [Option.map_some] at *
    rw [← List.take_append_drop k (l.drop i), List.map_append, List.map_append, Option.some.inj h1, List.drop_drop, Option.some.inj h2]
def Kof (s : PySem.W.SharedT) : PySem.W.Frag := He.frG (HandSHeadRun.getT s) (asM (HandSHeadRun.getT s) 4)
theorem obs3 {o : Option PySem.W.SharedT} (h1 : (o.map fun s => (fa.drop 0).all fun f => f.ok (Kof s)) = some true) (h3 : (o.map fun s => (fn.drop 0).all (fun d => d.ok (Kof s))) = some true) (h4 : (o.map fun s => (fn.drop 0).map (fun d => He.fnW (Kof s) d.at_)) = some ((fn.drop 0).map He.DefD.val)) (h5 : (o.map fun s => ex (Kof s)) = some true) (w : World) : (o.map fun s => ob s) = some (hk.val w) := by
  cases o with
  | none => cases h1
  | some s =>
    rw [Option.map_some] at *
    have e1 : (fa.all fun f => f.ok (Kof s)) = true := Option.some.inj h1
    have e4 : (fn.all fun d => d.ok (Kof s)) = true := Option.some.inj h3
    have e5 : (fn.map fun d => He.fnW (Kof s) d.at_) = fn.map He.DefD.val := Option.some.inj h4
    have e6 := Option.some.inj h5
    show some (((fa.all fun f => f.ok (Kof s)) && fn.all fun d => d.ok (Kof s), fn.map fun d => He.fnW (Kof s) d.at_), ex (Kof s)) = some ((true, fn.map He.DefD.val), true)
    rw [e1, e4, e5, e6]; rfl
section
open PySem.W PySem.Calls HandSHeadRun
noncomputable abbrev rOf (w : World) (os : OsState) : Option PySem.W.SharedT := endF (stepQ (denQ tabQ) R.prog w) 3000 R.prog w os
theorem run1 (w : World) (os : OsState) : ((rOf w os).map fun s => looksF R.prog (boot_heap w.params) s.abs) = some true := by kernel_rfl
theorem run2 (w : World) (os : OsState) : ((rOf w os).map fun s => seenQ (PySem.W.view R.prog [22]) loose (importedModules R.prog.main.body) (fun s => xlAt (PySem.W.view R.prog [22]) [] s && recOk R.toRowW.records s) s.abs) = some (openGood (PySem.W.view R.prog [22]) loose) := by kernel_rfl
theorem run7 (w : World) (os : OsState) : ((rOf w os).map fun s => ex (Kof s)) = some true := by kernel_rfl
theorem ra0 (w : World) (os : OsState) : ((rOf w os).map fun s => ((fa.drop 0).take 21).all fun f => f.ok (Kof s)) = some true := by kernel_rfl
theorem ra1 (w : World) (os : OsState) : ((rOf w os).map fun s => (fa.drop 21).all fun f => f.ok (Kof s)) = some true := by kernel_rfl
theorem rb0 (w : World) (os : OsState) : ((rOf w os).map fun s => (fn.drop 0).all (fun d => d.ok (Kof s))) = some true := by kernel_rfl
theorem rc0 (w : World) (os : OsState) : ((rOf w os).map fun s => ((fn.drop 0).take 8).map (fun d => He.fnW (Kof s) d.at_)) = some (((fn.drop 0).take 8).map He.DefD.val) := by kernel_rfl
theorem rc1 (w : World) (os : OsState) : ((rOf w os).map fun s => (fn.drop 8).map (fun d => He.fnW (Kof s) d.at_)) = some ((fn.drop 8).map He.DefD.val) := by kernel_rfl
theorem run (w : World) : HandSHeadRun.RunEq R (PySem.W.view R.prog [22]) hk ob 3000 loose w := by
  intro os
  refine map3 (run1 w os) (run2 w os) (obs3 ?_ ?_ ?_ (run7 w os) w)
  · exact (oall_cut 0 21 (ra0 w os) (ra1 w os))
  · exact (rb0 w os)
  · exact (omap_cut 0 8 (rc0 w os) (rc1 w os))
end


/-! ### own rules: x is a truth -/
section
variable {X : Cx}
theorem op_isB : OpR X (compareOp .Is) (fun x y H Q => ∃ a b : Bool, x = .bl a ∧ y = .bl b ∧ Q (.bl (decide (a = b))) H) := by
  intro pins s σ H x y v u Q I rx ry h
  obtain ⟨a, b, rfl, rfl, q⟩ := h
  cases rx
  cases ry
  refine wpAny_is_plain (by cases a <;> cases b <;> rfl) (fin_bl I q ?_)
  cases a <;> cases b <;> rfl
theorem op_isnotB : OpR X (compareOp .IsNot) (fun x y H Q => ∃ a b : Bool, x = .bl a ∧ y = .bl b ∧ Q (.bl (!decide (a = b))) H) := by
  intro pins s σ H x y v u Q I rx ry h
  obtain ⟨a, b, rfl, rfl, q⟩ := h
  cases rx
  cases ry
  show wpAny _ _ ((isSame (Value.bool a) (Value.bool b)) >>= fun z => pure (Value.bool (!z))) _ _ s
  exact wpAny_bind (wpAny_isSame_plain (by cases a <;> cases b <;> rfl) (wpAny_pure (fin_bl I q (by cases a <;> cases b <;> rfl))))
theorem pe_fldK {K : PySem.W.Frag} {e : Expr} {f : Str} {pos : Pos} {ta : TE} (hK : X.K = K) (he : PE X e ta) (hb : attributeBase e f X.env (eval e X.env) = eval e X.env) : PE X (.Attribute e f pos) (tFld K ta f) := by
  subst hK; exact pe_fld he hb
end
/-! ### own rule: d.update(e), both tracked dicts -/
def rDUpdate : V → List V → Hp → VK → Prop := fun x vs H Q => ∃ (a b : Addr) (kvs more : List (Key × V)), x = .ref a ∧ vs = [.ref b] ∧ a ≠ b ∧ H a = some (.dK kvs) ∧ H b = some (.dK more) ∧ kvs.length + more.length ≤ sizeLine ∧ Q .non (upd H a (.dK (mergeK kvs more)))
theorem mt_update {X : Cx} : MtR X "dict.update" rDUpdate := by
  intro pins s σ H x vs v us Q I rx rv h
  obtain ⟨a, b, kvs, more, rfl, rfl, hne, e, e2, hz, q⟩ := h
  obtain rfl : v = Value.ref a := rx
  obtain ⟨u, rfl, ru⟩ := rv.one
  obtain rfl : u = Value.ref b := ru
  obtain ⟨z, hd, ws, rel, dd⟩ := dk_of I.hok e
  obtain ⟨z2, hd2, ws2, rel2, dd2⟩ := dk_of I.hok e2
  refine call_meetsIn PySem.F.slot_dict_update dd.typeIs PySem.F.entry_dict_update (PySem.F.args_dict_update_2 _ _) (meets_dict_update (mixKind X.prog X.w) a b hne hd2) ⟨ws, ws2, dd, dd2, by rw [← rel.length, ← rel2.length]; exact hz, fun h' dd' _ hs => ?_⟩
  have he : ∃ q, h'.get? a = some q := let ⟨q, _, _, hq, _⟩ := dd'; ⟨q, hq⟩
  exact ⟨.non, _, d_write (t' := s.toks) I (by rw [e]; exact True.intro) hs he (dk_new (Nat.le_trans (length_mergeK more kvs) hz) hd (KV.merge rel2 rel) dd'), rfl, q⟩
theorem ix_listK {X : Cx} {K : PySem.W.Frag} (hK : X.K = K) : IxR X (rIxL K) := by subst hK; exact ix_list
theorem ix_tupK {X : Cx} {K : PySem.W.Frag} (hK : X.K = K) : IxR X (rIxT K) := by subst hK; exact ix_tup
theorem sl_tupK {X : Cx} {K : PySem.W.Frag} (hK : X.K = K) : SlR X (rSlT K) := by subst hK; exact sl_tup

/-! ### what the shared parts name of boards, where there is no board -/
def lineK (l : List (Int × Int)) : List (Key × V) := l.map fun p => (Sum.inl p.1, V.int p.2)
def StopV (H : Hp) (v : V) : Option (List V) → Prop
  | none => v = .non
  | some xs => ∃ t, v = .ref t ∧ H t = some (.tup xs)
theorem StopV.mono {H H' : Hp} {v : V} (k : ∀ b xs, H b = some (.tup xs) → H' b = some (.tup xs)) : ∀ {o : Option (List V)}, StopV H v o → StopV H' v o
  | none, h => h
  | some _, ⟨t, e, h⟩ => ⟨t, e, k _ _ h⟩
def sentT (l : List (Int × Int)) : List (List V) := l.map fun p => [.int p.1, .int p.2]
def optV : Option Int → V
  | none => .non
  | some n => .int n

/-! ### own rule: list + list, either may be read alone -/
def rCatL (K : PySem.W.Frag) : R2 := fun x y H Q => ∃ l b xs zs, x = .ref l ∧ y = .ref b ∧ SqL K H l xs ∧ SqL K H b zs ∧ xs.length + zs.length ≤ sizeLine ∧ ∀ p, H p = none → Q (.ref p) (upd H p (.lst (xs ++ zs)))
theorem op_catL {X : Cx} : OpR X (binaryOp .Add) (rCatL X.K) := by
  intro pins s σ H x y v u Q I rx ry h
  obtain ⟨l, b, xs, zs, rfl, rfl, hH, hB, hz, q⟩ := h
  cases rx
  cases ry
  obtain ⟨its, r, pl, _⟩ := I.list hH
  obtain ⟨its2, r2, pl2, _⟩ := I.list hB
  obtain ⟨⟨cls, dd, data, sl⟩, ho, hc, n, hd⟩ := id pl.isList
  obtain ⟨⟨cls2, dd2, data2, sl2⟩, ho2, hc2, n2, hd2⟩ := id pl2.isList
  simp only at hc hd hc2 hd2
  subst hc hd hc2 hd2
  have e : its.toArray ++ its2.toArray = (its ++ its2).toArray := by simp
  have hsz : its.length + its2.length ≤ sizeLine := by rw [← r.length, ← r2.length]; exact hz
  refine concat_meets ⟨_, ho, rfl⟩ ⟨_, ho2, rfl⟩ noFill_list_add seq_list_add PySem.F.slot_list_add PySem.F.entry_list_add (PySem.F.args_list_add_2 _ _) (list_addW l b its.toArray its2.toArray n n2 dd dd2 sl sl2 (by simpa using hsz)) ⟨ho, ho2, ?_⟩
  rw [e]
  exact ⟨.ref _, _, I.lnew (t' := s.toks) (r.append r2) (by rw [List.length_append]; omega), rfl, q _ I.fresh⟩
theorem call_isi' {X : Cx} {K : PySem.W.Frag} (hK : X.K = K) : CallR X (.builtin "isinstance") (rIsi K) := by subst hK; exact call_isi
theorem call_list_of' {X : Cx} {K : PySem.W.Frag} (hK : X.K = K) : CallR X (.type "list") (fun xs H Q => ∃ p ys, xs = [.ref p] ∧ (SqL K H p ys ∨ SqT K H p ys) ∧ ∀ l, H l = none → Q (.ref l) (upd H l (.lst ys))) := by subst hK; exact call_list_of

/-! ### assertions on a heap, each with what it owns -/
theorem not_in_nil {a : Addr} : a ∉ ([] : List Addr) := by intro h; cases h
theorem Kp.frame {S S' T T' : List Addr} {H H' : Hp} (k : Kp S S' H H') (h1 : ∀ b, b ∈ S → b ∈ T) (h2 : ∀ b, b ∈ T' → b ∈ S' ∨ b ∈ T) : Kp T T' H H' :=
  ⟨fun b o e n => k.kept b o e fun m => n (h1 b m), fun b m => (h2 b m).elim (fun z => (k.own b z).imp (h1 b) id) .inl, k.tups⟩
abbrev TupK (H H' : Hp) : Prop := ∀ b xs, H b = some (.tup xs) → H' b = some (.tup xs)
structure As where
  own : List Addr
  ok : Hp → Prop
  st : ∀ {H H' : Hp}, ok H → (∀ b, b ∈ own → ∀ o, H b = some o → H' b = some o) → TupK H H' → ok H'
  al : ∀ {H : Hp}, ok H → ∀ b, b ∈ own → ∃ o, H b = some o
  nd : ∀ {H : Hp}, ok H → own.Nodup
def oks (H : Hp) : List As → Prop
  | [] => True
  | A :: r => A.ok H ∧ oks H r
def owns : List As → List Addr
  | [] => []
  | A :: r => A.own ++ owns r
theorem oks_app {H : Hp} : ∀ {L M : List As}, oks H (L ++ M) ↔ oks H L ∧ oks H M
  | [], _ => ⟨fun h => ⟨trivial, h⟩, fun h => h.2⟩
  | A :: r, M => by
    show A.ok H ∧ oks H (r ++ M) ↔ (A.ok H ∧ oks H r) ∧ oks H M
    rw [oks_app (L := r)]; exact and_assoc.symm
theorem owns_app : ∀ {L M : List As}, owns (L ++ M) = owns L ++ owns M
  | [], _ => rfl
  | A :: r, M => by
    show A.own ++ owns (r ++ M) = (A.own ++ owns r) ++ owns M
    rw [owns_app (L := r), List.append_assoc]
theorem oks_st {H H' : Hp} (t : TupK H H') : ∀ {L : List As}, oks H L → (∀ b, b ∈ owns L → ∀ o, H b = some o → H' b = some o) → oks H' L
  | [], _, _ => trivial
  | A :: _, h, k => ⟨A.st h.1 (fun b m => k b (List.mem_append_left _ m)) t, oks_st t h.2 fun b m => k b (List.mem_append_right _ m)⟩
theorem oks_al {H : Hp} : ∀ {L : List As}, oks H L → ∀ b, b ∈ owns L → ∃ o, H b = some o
  | [], _, _, m => by cases m
  | A :: _, h, b, m => (List.mem_append.mp m).elim (A.al h.1 b) (oks_al h.2 b)
/-- many in one -/
def aG (L : List As) : As where
  own := owns L
  ok := fun H => oks H L ∧ (owns L).Nodup
  st := fun h k t => ⟨oks_st t h.1 k, h.2⟩
  al := fun h => oks_al h.1
  nd := fun h => h.2
structure Sep (S0 : List Addr) (H0 H : Hp) (L : List As) : Prop where
  ok : oks H L
  nd : (owns L).Nodup
  kp : Kp S0 (owns L) H0 H
def nth : List As → Nat → Option As
  | [], _ => none
  | A :: _, 0 => some A
  | _ :: r, n + 1 => nth r n
def setN : List As → Nat → List As → List As
  | [], _, _ => []
  | _ :: r, 0, M => M ++ r
  | A :: r, n + 1, M => A :: setN r n M
theorem nth_split : ∀ {L : List As} {i : Nat} {A : As}, nth L i = some A → ∃ L1 L2, L = L1 ++ A :: L2 ∧ ∀ M, setN L i M = L1 ++ (M ++ L2)
  | [], _, _, e => by cases e
  | B :: r, 0, A, e => by
    have e : B = A := Option.some.inj e
    exact ⟨[], r, by rw [e]; rfl, fun M => rfl⟩
  | B :: r, n + 1, A, e => by
    obtain ⟨L1, L2, h1, h2⟩ := nth_split (L := r) (i := n) e
    exact ⟨B :: L1, L2, by rw [h1]; rfl, fun M => by show B :: setN r n M = _; rw [h2]; rfl⟩
theorem nd_app {a b : List Addr} : (a ++ b).Nodup ↔ a.Nodup ∧ b.Nodup ∧ ∀ x, x ∈ a → x ∈ b → False := by
  rw [List.nodup_append]
  exact ⟨fun h => ⟨h.1, h.2.1, fun x h1 h2 => h.2.2 x h1 x h2 rfl⟩, fun h => ⟨h.1, h.2.1, fun x h1 y h2 e => h.2.2 x h1 (e ▸ h2)⟩⟩
namespace Sep
variable {S0 : List Addr} {H0 H H' : Hp} {L : List As}
theorem get (h : Sep S0 H0 H L) (i : Nat) {A : As} (e : nth L i = some A) : A.ok H := by
  obtain ⟨L1, L2, rfl, _⟩ := nth_split e
  exact (oks_app.mp h.ok).2.1
theorem start {L : List As} (o : oks H L) (n : (owns L).Nodup) : Sep (owns L) H H L := ⟨o, n, Kp.refl _ _⟩
/-- the place i exchanged for M, by what changes what it owns alone -/
theorem swap (h : Sep S0 H0 H L) (i : Nat) {A : As} (e : nth L i = some A) {M : List As} (k : Kp A.own (owns M) H H') (o : oks H' M) (n : (owns M).Nodup) : Sep S0 H0 H' (setN L i M) := by
  obtain ⟨L1, L2, rfl, e2⟩ := nth_split e
  rw [e2]
  obtain ⟨o1, o2⟩ := oks_app.mp h.ok
  have hn := h.nd
  have hk := h.kp
  rw [owns_app] at hn hk
  obtain ⟨n1, n2, d1⟩ := nd_app.mp hn
  obtain ⟨nA, n3, d2⟩ := nd_app.mp (show (A.own ++ owns L2).Nodup from n2)
  have dA1 : ∀ b, b ∈ owns L1 → b ∉ A.own := fun b m z => d1 b m (List.mem_append_left _ z)
  have dA2 : ∀ b, b ∈ owns L2 → b ∉ A.own := fun b m z => d2 b z m
  have al1 := oks_al o1
  have al2 := oks_al (show oks H L2 from o2.2)
  have fr : ∀ {X : List As}, (∀ b, b ∈ owns X → b ∉ A.own) → (∀ b, b ∈ owns X → ∃ o, H b = some o) → ∀ b, b ∈ owns M → b ∈ owns X → False := fun hx ax b m mx => by
    rcases k.own b m with z | z
    · exact hx b mx z
    · obtain ⟨u, eu⟩ := ax b mx
      rw [z] at eu; cases eu
  refine ⟨oks_app.mpr ⟨oks_st k.tups o1 fun b m u hu => k.kept b u hu (dA1 b m), oks_app.mpr ⟨o, oks_st k.tups o2.2 fun b m u hu => k.kept b u hu (dA2 b m)⟩⟩, ?_, ?_⟩
  · rw [owns_app, owns_app]
    refine nd_app.mpr ⟨n1, nd_app.mpr ⟨n, n3, fr dA2 al2⟩, fun b m1 m2 => ?_⟩
    rcases List.mem_append.mp m2 with z | z
    · exact fr dA1 al1 b z m1
    · exact d1 b m1 (List.mem_append_right _ z)
  · refine hk.trans (k.frame (fun b m => List.mem_append_right _ (List.mem_append_left _ m)) fun b m => ?_)
    rw [owns_app, owns_app] at m
    rcases List.mem_append.mp m with z | z
    · exact .inr (List.mem_append_left _ z)
    · rcases List.mem_append.mp z with z | z
      · exact .inl z
      · exact .inr (List.mem_append_right _ (List.mem_append_right _ z))
theorem put (h : Sep S0 H0 H L) (i : Nat) {A : As} (e : nth L i = some A) (B : As) (k : Kp A.own B.own H H') (o : B.ok H') : Sep S0 H0 H' (setN L i [B]) :=
  h.swap i e (M := [B]) (k.sub fun b m => by rw [show owns [B] = B.own ++ [] from rfl, List.append_nil] at m; exact m) ⟨o, trivial⟩ (by rw [show owns [B] = B.own ++ [] from rfl, List.append_nil]; exact B.nd o)
/-- nothing owned is changed -/
theorem heap (h : Sep S0 H0 H L) (k : Kp [] [] H H') : Sep S0 H0 H' L :=
  ⟨oks_st k.tups h.ok fun b _ o e => k.kept b o e not_in_nil, h.nd, h.kp.trans (k.frame (fun _ m => by cases m) fun _ m => .inr m)⟩
theorem addM (h : Sep S0 H0 H L) {M : List As} (k : Kp [] (owns M) H H') (o : oks H' M) (n : (owns M).Nodup) : Sep S0 H0 H' (M ++ L) := by
  have fr : ∀ b, b ∈ owns M → b ∈ owns L → False := fun b m mx => by
    rcases k.own b m with z | z
    · cases z
    · obtain ⟨u, eu⟩ := oks_al h.ok b mx
      rw [z] at eu; cases eu
  refine ⟨oks_app.mpr ⟨o, oks_st k.tups h.ok fun b _ o e => k.kept b o e not_in_nil⟩, by rw [owns_app]; exact nd_app.mpr ⟨n, h.nd, fr⟩, ?_⟩
  rw [owns_app]
  exact h.kp.trans (k.frame (fun _ m => by cases m) fun _ m => List.mem_append.mp m)
/-- an object more -/
theorem new (h : Sep S0 H0 H L) {p : Addr} {o : HO} (np : H p = none) (B : As) (eo : B.own = [p]) (ok : B.ok (upd H p o)) : Sep S0 H0 (upd H p o) (B :: L) := by
  have e : owns [B] = [p] := by rw [show owns [B] = B.own ++ [] from rfl, List.append_nil, eo]
  exact h.addM (M := [B]) (by rw [e]; exact Kp.newIn np) ⟨ok, trivial⟩ (by rw [e]; simp)
/-- what owns nothing, more -/
theorem add0 (h : Sep S0 H0 H L) (B : As) (eo : B.own = []) (ok : B.ok H) : Sep S0 H0 H (B :: L) := by
  have e : owns [B] = [] := by rw [show owns [B] = B.own ++ [] from rfl, List.append_nil, eo]
  exact h.addM (M := [B]) (by rw [e]; exact Kp.refl _ _) ⟨ok, trivial⟩ (by rw [e]; exact List.nodup_nil)
theorem newT (h : Sep S0 H0 H L) {p : Addr} {o : HO} (np : H p = none) : Sep S0 H0 (upd H p o) L := h.heap (Kp.new np)
theorem rm (h : Sep S0 H0 H L) (i : Nat) {A : As} (e : nth L i = some A) : Sep S0 H0 H (setN L i []) := by
  refine h.swap i e (M := []) ⟨fun b o e _ => e, fun b m => (by cases m), fun _ _ e => e⟩ trivial List.nodup_nil
theorem opn (h : Sep S0 H0 H L) (i : Nat) {M : List As} (e : nth L i = some (aG M)) : Sep S0 H0 H (setN L i M) := by
  obtain ⟨o, n⟩ := h.get i e
  exact h.swap i e (Kp.refl _ _) o n
/-- a place's part ahead, for a call -/
theorem perm {M : List As} (h : Sep S0 H0 H L) (o : oks H M) (n : (owns M).Nodup) (s : ∀ b, b ∈ owns M → b ∈ owns L) : Sep S0 H0 H M := ⟨o, n, h.kp.sub s⟩
theorem mv (h : Sep S0 H0 H L) (i : Nat) {A : As} (e : nth L i = some A) : Sep S0 H0 H (A :: setN L i []) := by
  obtain ⟨L1, L2, rfl, e2⟩ := nth_split e
  rw [e2]
  obtain ⟨o1, o2⟩ := oks_app.mp h.ok
  have hn := h.nd
  rw [owns_app] at hn
  obtain ⟨n1, n2, d1⟩ := nd_app.mp hn
  obtain ⟨nA, n3, d2⟩ := nd_app.mp (show (A.own ++ owns L2).Nodup from n2)
  refine h.perm ⟨o2.1, oks_app.mpr ⟨o1, o2.2⟩⟩ ?_ fun b m => ?_
  · show (A.own ++ owns (L1 ++ ([] ++ L2))).Nodup
    rw [owns_app]
    refine nd_app.mpr ⟨nA, nd_app.mpr ⟨n1, n3, fun b m z => d1 b m (List.mem_append_right _ z)⟩, fun b m z => ?_⟩
    rcases List.mem_append.mp z with z | z
    · exact d1 b z (List.mem_append_left _ m)
    · exact d2 b m z
  · have m : b ∈ A.own ++ owns (L1 ++ ([] ++ L2)) := m
    rw [owns_app] at m ⊢
    rcases List.mem_append.mp m with z | z
    · exact List.mem_append_right _ (List.mem_append_left _ z)
    · rcases List.mem_append.mp z with z | z
      · exact List.mem_append_left _ z
      · exact List.mem_append_right _ (List.mem_append_right _ z)
theorem front {M : List As} (h : Sep S0 H0 H (M ++ L)) : oks H M ∧ (owns M).Nodup := by
  have hn := h.nd
  rw [owns_app] at hn
  exact ⟨(oks_app.mp h.ok).1, (nd_app.mp hn).1⟩
theorem cls {M : List As} (h : Sep S0 H0 H (M ++ L)) : Sep S0 H0 H (aG M :: L) := by
  have hn := h.nd
  rw [owns_app] at hn
  obtain ⟨o1, o2⟩ := oks_app.mp h.ok
  refine h.perm ⟨⟨o1, (nd_app.mp hn).1⟩, o2⟩ (show (owns M ++ owns L).Nodup from hn) fun b m => by rw [owns_app]; exact m
/-- a call of what stands in front -/
theorem sub {M : List As} (h : Sep S0 H0 H (M ++ L)) : Sep (owns M) H H M := ⟨h.front.1, h.front.2, Kp.refl _ _⟩
theorem call {M M' : List As} (h : Sep S0 H0 H (M ++ L)) (c : Sep (owns M) H H' M') : Sep S0 H0 H' (M' ++ L) := by
  have e1 : nth (aG M :: L) 0 = some (aG M) := rfl
  exact h.cls.swap 0 e1 (M := M') c.kp c.ok c.nd
theorem fin (h : Sep S0 H0 H L) (c : Sep (owns L) H H' L) : True := trivial
end Sep
/-! ### values that do not change -/
class Imm (α : Type) where
  at_ : Hp → V → α → Prop
  mono : ∀ {H H' : Hp} {v : V} {x : α}, TupK H H' → at_ H v x → at_ H' v x
instance : Imm Int := ⟨fun _ v x => v = .int x, fun _ h => h⟩
instance : Imm Bool := ⟨fun _ v x => v = .bl x, fun _ h => h⟩
instance : Imm Str := ⟨fun _ v x => v = .str x, fun _ h => h⟩
instance : Imm Unit := ⟨fun _ v _ => v = .non, fun _ h => h⟩
instance {α : Type} [Imm α] : Imm (Option α) := ⟨fun H v x => match x with
  | none => v = .non
  | some y => Imm.at_ H v y, fun {H H' v x} t h => by
    cases x with
    | none => exact h
    | some y => exact Imm.mono t h⟩
instance {α β : Type} [Imm α] [Imm β] : Imm (α × β) := ⟨fun H v x => ∃ p u w, v = .ref p ∧ H p = some (.tup [u, w]) ∧ Imm.at_ H u x.1 ∧ Imm.at_ H w x.2, fun t h => by
  obtain ⟨p, u, w, e, h, h1, h2⟩ := h
  exact ⟨p, u, w, e, t _ _ h, Imm.mono t h1, Imm.mono t h2⟩⟩
structure T3 (α β γ : Type) where
  a : α
  b : β
  c : γ
  deriving DecidableEq
instance {α β γ : Type} [Imm α] [Imm β] [Imm γ] : Imm (T3 α β γ) := ⟨fun H v x => ∃ p u w z, v = .ref p ∧ H p = some (.tup [u, w, z]) ∧ Imm.at_ H u x.a ∧ Imm.at_ H w x.b ∧ Imm.at_ H z x.c, fun t h => by
  obtain ⟨p, u, w, z, e, h, h1, h2, h3⟩ := h
  exact ⟨p, u, w, z, e, t _ _ h, Imm.mono t h1, Imm.mono t h2, Imm.mono t h3⟩⟩
class Sc (α : Type) extends Imm α where
  v : α → V
  eq : ∀ {H : Hp} {u : V} {x : α}, Imm.at_ H u x ↔ u = v x
instance : Sc Int := ⟨V.int, Iff.rfl⟩
instance : Sc Bool := ⟨V.bl, Iff.rfl⟩
instance : Sc Str := ⟨V.str, Iff.rfl⟩
def Imms {α : Type} [Imm α] (H : Hp) (vs : List V) (xs : List α) : Prop := Paired (fun v x => Imm.at_ H v x) vs xs
section
variable {α : Type} [Imm α] {H H' : Hp}
theorem Imms.mono (t : TupK H H') : ∀ {vs : List V} {xs : List α}, Imms H vs xs → Imms H' vs xs
  | _, _, .nil => .nil
  | _, _, .cons h r => .cons (Imm.mono t h) (Imms.mono t r)
theorem Imms.length {vs : List V} {xs : List α} (h : Imms H vs xs) : vs.length = xs.length := Paired.length h
theorem Imms.snoc {vs : List V} {xs : List α} (h : Imms H vs xs) {v : V} {x : α} (hv : Imm.at_ H v x) : Imms H (vs ++ [v]) (xs ++ [x]) := paired_snoc hv h
theorem Imms.app : ∀ {vs ws : List V} {xs ys : List α}, Imms H vs xs → Imms H ws ys → Imms H (vs ++ ws) (xs ++ ys)
  | _, _, _, _, .nil, h => h
  | _, _, _, _, .cons h r, h2 => .cons h (Imms.app r h2)
theorem Imms.nth : ∀ {vs : List V} {xs : List α} {i : Nat} {x : α}, Imms H vs xs → xs[i]? = some x → ∃ v, vs[i]? = some v ∧ Imm.at_ H v x
  | _, _, _, _, .nil, e => by simp at e
  | _, _, 0, _, .cons h _, e => by simp at e; subst e; exact ⟨_, rfl, h⟩
  | _, _, i + 1, _, .cons _ r, e => by
    obtain ⟨v, h1, h2⟩ := Imms.nth (i := i) r (by simpa using e)
    exact ⟨v, by simpa using h1, h2⟩
theorem Imms.ix {vs : List V} {xs : List α} {i : Int} {x : α} (h : Imms H vs xs) (e : atI xs i = some x) : ∃ v, atI vs i = some v ∧ Imm.at_ H v x := by
  unfold atI at e ⊢
  rw [h.length]
  cases hj : ixN xs.length i with
  | none => rw [hj] at e; cases e
  | some j =>
    rw [hj] at e
    obtain ⟨v, h1, h2⟩ := h.nth (i := j) (x := x) e
    exact ⟨v, h1, h2⟩
theorem Imms.take : ∀ {vs : List V} {xs : List α} (n : Nat), Imms H vs xs → Imms H (vs.take n) (xs.take n)
  | _, _, 0, _ => .nil
  | _, _, _ + 1, .nil => .nil
  | _, _, n + 1, .cons h r => .cons h (Imms.take n r)
theorem Imms.drop : ∀ {vs : List V} {xs : List α} (n : Nat), Imms H vs xs → Imms H (vs.drop n) (xs.drop n)
  | _, _, 0, h => h
  | _, _, _ + 1, .nil => .nil
  | _, _, n + 1, .cons _ r => Imms.drop n r
theorem Imms.set : ∀ {vs : List V} {xs : List α} (n : Nat) {v : V} {x : α}, Imms H vs xs → Imm.at_ H v x → Imms H (vs.set n v) (xs.set n x)
  | _, _, _, _, _, .nil, _ => .nil
  | _, _, 0, _, _, .cons _ r, h => .cons h r
  | _, _, n + 1, _, _, .cons h r, h2 => .cons h (Imms.set n r h2)
end
theorem Imms.sc {α : Type} [Sc α] {H : Hp} : ∀ {vs : List V} {xs : List α}, Imms H vs xs → vs = xs.map Sc.v
  | _, _, .nil => rfl
  | _, _, .cons h r => by rw [Imms.sc r, Sc.eq.mp h]; rfl
theorem Imms.ofSc {α : Type} [Sc α] {H : Hp} : ∀ (xs : List α), Imms H (xs.map Sc.v) xs
  | [] => .nil
  | _ :: r => .cons (Sc.eq.mpr rfl) (Imms.ofSc r)
/-! ### atoms -/
theorem one_nd {a : Addr} : [a].Nodup := by simp
/-- a value -/
def aV {α : Type} [Imm α] (v : V) (x : α) : As where
  own := []
  ok := fun H => Imm.at_ H v x
  st := fun h _ t => Imm.mono t h
  al := fun _ b m => by cases m
  nd := fun _ => List.nodup_nil
/-- a list -/
def aL {α : Type} [Imm α] (p : Addr) (xs : List α) : As where
  own := [p]
  ok := fun H => ∃ vs, H p = some (.lst vs) ∧ Imms H vs xs
  st := fun ⟨vs, e, h⟩ k t => ⟨vs, k p (by simp) _ e, h.mono t⟩
  al := fun ⟨vs, e, _⟩ b m => by
    have z := List.mem_singleton.mp m
    subst z; exact ⟨_, e⟩
  nd := fun _ => one_nd
/-- an object by what stands there -/
def aC (p : Addr) (o : HO) : As where
  own := [p]
  ok := fun H => H p = some o
  st := fun e k _ => k p (by simp) _ e
  al := fun e b m => by
    have z := List.mem_singleton.mp m
    subst z; exact ⟨_, e⟩
  nd := fun _ => one_nd
/-! ### more atoms, and what stands ahead of a call -/
def aT (p : Addr) (vs : List V) : As where
  own := []
  ok := fun H => H p = some (.tup vs)
  st := fun h _ t => t _ _ h
  al := fun _ b m => by cases m
  nd := fun _ => List.nodup_nil
/-- a list whose values are told -/
def aW {α : Type} [Imm α] (p : Addr) (vs : List V) (xs : List α) : As where
  own := [p]
  ok := fun H => H p = some (.lst vs) ∧ Imms H vs xs
  st := fun ⟨e, h⟩ k t => ⟨k p (by simp) _ e, h.mono t⟩
  al := fun ⟨e, _⟩ b m => by
    have z := List.mem_singleton.mp m
    subst z; exact ⟨_, e⟩
  nd := fun _ => one_nd
def takeN : Nat → List As → List As
  | 0, _ => []
  | _, [] => []
  | n + 1, A :: r => A :: takeN n r
def dropN : Nat → List As → List As
  | 0, L => L
  | _, [] => []
  | n + 1, _ :: r => dropN n r
theorem take_drop : ∀ (n : Nat) (L : List As), takeN n L ++ dropN n L = L
  | 0, _ => rfl
  | _ + 1, [] => rfl
  | n + 1, A :: r => congrArg (A :: ·) (take_drop n r)
namespace Sep
variable {S0 : List Addr} {H0 H H' : Hp} {L : List As}
theorem frontN (h : Sep S0 H0 H L) (n : Nat) : oks H (takeN n L) ∧ (owns (takeN n L)).Nodup := by
  rw [← take_drop n L] at h
  exact h.front
theorem callN (h : Sep S0 H0 H L) (n : Nat) {M' : List As} (c : Sep (owns (takeN n L)) H H' M') : Sep S0 H0 H' (M' ++ dropN n L) := by
  rw [← take_drop n L] at h
  exact h.call c
theorem tl (h : Sep S0 H0 H L) (n : Nat) : Sep S0 H0 H (dropN n L) := by
  rw [← take_drop n L] at h
  have hn := h.nd
  rw [owns_app] at hn
  exact h.perm (oks_app.mp h.ok).2 (nd_app.mp hn).2.1 fun b m => by rw [owns_app]; exact List.mem_append_right _ m
theorem clsN (h : Sep S0 H0 H L) (n : Nat) : Sep S0 H0 H (aG (takeN n L) :: dropN n L) := by
  rw [← take_drop n L] at h
  exact h.cls
theorem lst (h : Sep S0 H0 H L) (i : Nat) {α : Type} [Imm α] {p : Addr} {xs : List α} (e : nth L i = some (aL p xs)) : ∃ vs, H p = some (.lst vs) ∧ Imms H vs xs := h.get i e
theorem tup (h : Sep S0 H0 H L) (i : Nat) {p : Addr} {vs : List V} (e : nth L i = some (aT p vs)) : H p = some (.tup vs) := h.get i e
theorem cel (h : Sep S0 H0 H L) (i : Nat) {p : Addr} {o : HO} (e : nth L i = some (aC p o)) : H p = some o := h.get i e
theorem val (h : Sep S0 H0 H L) (i : Nat) {α : Type} [Imm α] {v : V} {x : α} (e : nth L i = some (aV v x)) : Imm.at_ H v x := h.get i e
theorem scs (h : Sep S0 H0 H L) (i : Nat) {α : Type} [Sc α] {p : Addr} {xs : List α} (e : nth L i = some (aL p xs)) : H p = some (.lst (xs.map Sc.v)) := by
  obtain ⟨vs, h1, h2⟩ := h.lst i e
  rw [← Imms.sc h2]; exact h1
theorem putL (h : Sep S0 H0 H L) (i : Nat) {α : Type} [Imm α] {p : Addr} {xs ys : List α} (e : nth L i = some (aL p xs)) {vs ws : List V} (hl : H p = some (.lst vs)) (hv : Imms H ws ys) : Sep S0 H0 (upd H p (.lst ws)) (setN L i [aL p ys]) :=
  have k : Kp [p] [p] H (upd H p (.lst ws)) := Kp.upd hl trivial (List.mem_singleton.mpr rfl)
  h.put i e (aL p ys) k ⟨_, upd_same, hv.mono k.tups⟩
theorem newL (h : Sep S0 H0 H L) {α : Type} [Imm α] {p : Addr} (np : H p = none) {ys : List α} {ws : List V} (hv : Imms H ws ys) : Sep S0 H0 (upd H p (.lst ws)) (aL p ys :: L) :=
  h.new np (aL p ys) rfl ⟨_, upd_same, hv.mono (Kp.new (S := []) np).tups⟩
theorem newTup (h : Sep S0 H0 H L) {p : Addr} (np : H p = none) (vs : List V) : Sep S0 H0 (upd H p (.tup vs)) (aT p vs :: L) :=
  (h.newT np).add0 (aT p vs) rfl upd_same
theorem newC (h : Sep S0 H0 H L) {p : Addr} (np : H p = none) (o : HO) : Sep S0 H0 (upd H p o) (aC p o :: L) := h.new np (aC p o) rfl upd_same
theorem putC (h : Sep S0 H0 H L) (i : Nat) {p : Addr} {o : HO} (e : nth L i = some (aC p o)) (n : notTup o) (o' : HO) : Sep S0 H0 (upd H p o') (setN L i [aC p o']) :=
  h.put i e (aC p o') (Kp.upd (S := [p]) (h.cel i e) n (List.mem_singleton.mpr rfl)) upd_same
/-- the values of a list told, while it is walked -/
theorem fix (h : Sep S0 H0 H L) (i : Nat) {α : Type} [Imm α] {p : Addr} {xs : List α} (e : nth L i = some (aL p xs)) : ∃ vs, vs.length = xs.length ∧ Sep S0 H0 H (setN L i [aW p vs xs]) := by
  obtain ⟨vs, h1, h2⟩ := h.lst i e
  exact ⟨vs, h2.length, h.put i e (aW p vs xs) (Kp.refl _ _) ⟨h1, h2⟩⟩
theorem unfix (h : Sep S0 H0 H L) (i : Nat) {α : Type} [Imm α] {p : Addr} {vs : List V} {xs : List α} (e : nth L i = some (aW p vs xs)) : Sep S0 H0 H (setN L i [aL p xs]) := by
  obtain ⟨h1, h2⟩ := h.get i e
  exact h.put i e (aL p xs) (Kp.refl _ _) ⟨_, h1, h2⟩
theorem wal (h : Sep S0 H0 H L) (i : Nat) {α : Type} [Imm α] {p : Addr} {vs : List V} {xs : List α} (e : nth L i = some (aW p vs xs)) : H p = some (.lst vs) ∧ Imms H vs xs := h.get i e
theorem addV (h : Sep S0 H0 H L) {α : Type} [Imm α] {v : V} {x : α} (a : Imm.at_ H v x) : Sep S0 H0 H (aV v x :: L) := h.add0 (aV v x) rfl a
theorem addT (h : Sep S0 H0 H L) {p : Addr} {vs : List V} (a : H p = some (.tup vs)) : Sep S0 H0 H (aT p vs :: L) := h.add0 (aT p vs) rfl a
theorem pre {L : List As} (c : oks H L ∧ (owns L).Nodup) : Sep (owns L) H H L := ⟨c.1, c.2, Kp.refl _ _⟩
end Sep
theorem imI {H : Hp} {x : Int} : Imm.at_ H (.int x) x := rfl
theorem imB {H : Hp} {x : Bool} : Imm.at_ H (.bl x) x := rfl
theorem imS {H : Hp} {x : Str} : Imm.at_ H (.str x) x := rfl
theorem imU {H : Hp} : Imm.at_ H .non () := rfl
theorem imN {α : Type} [Imm α] {H : Hp} : Imm.at_ H .non (none : Option α) := rfl
theorem imO {α : Type} [Imm α] {H : Hp} {v : V} {x : α} (h : Imm.at_ H v x) : Imm.at_ H v (some x) := h
theorem im2 {α β : Type} [Imm α] [Imm β] {H : Hp} {p : Addr} {u w : V} {x : α} {y : β} (h : H p = some (.tup [u, w])) (a : Imm.at_ H u x) (b : Imm.at_ H w y) : Imm.at_ H (.ref p) (x, y) := ⟨p, u, w, rfl, h, a, b⟩
theorem im3 {α β γ : Type} [Imm α] [Imm β] [Imm γ] {H : Hp} {p : Addr} {u w z : V} {x : α} {y : β} {t : γ} (h : H p = some (.tup [u, w, z])) (a : Imm.at_ H u x) (b : Imm.at_ H w y) (c : Imm.at_ H z t) : Imm.at_ H (.ref p) (T3.mk x y t) := ⟨p, u, w, z, rfl, h, a, b, c⟩
theorem Imms.nthv {α : Type} [Imm α] {H : Hp} : ∀ {vs : List V} {xs : List α} {i : Nat} {v : V}, Imms H vs xs → vs[i]? = some v → ∃ x, xs[i]? = some x ∧ Imm.at_ H v x
  | _, _, _, _, .nil, e => by simp at e
  | _, _, 0, _, .cons h _, e => by simp at e; subst e; exact ⟨_, rfl, h⟩
  | _, _, i + 1, _, .cons _ r, e => by
    obtain ⟨v, h1, h2⟩ := Imms.nthv (i := i) r (by simpa using e)
    exact ⟨v, by simpa using h1, h2⟩
/-! ### the mirrors' words -/
theorem bnd {α β : Type} {o : Option α} {f : α → Option β} {r : β} (h : o.bind f = some r) : ∃ x, o = some x ∧ f x = some r := by
  cases o with
  | none => cases h
  | some x => exact ⟨x, rfl, h⟩
theorem ift {α : Type} {c : Prop} [Decidable c] {a b r : α} (h : c) (e : (if c then a else b) = r) : a = r := by rw [if_pos h] at e; exact e
theorem ife {α : Type} {c : Prop} [Decidable c] {a b r : α} (h : ¬ c) (e : (if c then a else b) = r) : b = r := by rw [if_neg h] at e; exact e
theorem gd {α : Type} {c : Prop} [Decidable c] {o : Option α} {r : α} (e : (if c then o else none) = some r) : c ∧ o = some r := by
  by_cases h : c
  · rw [if_pos h] at e; exact ⟨h, e⟩
  · rw [if_neg h] at e; cases e
abbrev big : Nat := 16000000
def snoc {α : Type} (xs : List α) (x : α) : Option (List α) := if xs.length < big then some (xs ++ [x]) else none
def catL {α : Type} (xs ys : List α) : Option (List α) := if xs.length + ys.length < big then some (xs ++ ys) else none
def repL {α : Type} (xs : List α) (n : Int) : Option (List α) := if -(2 ^ 63) ≤ n ∧ n < 2 ^ 63 ∧ xs.length * n.toNat < big then some ((List.replicate n.toNat xs).flatten) else none
def forS {α σ : Type} (f : α → σ → Option σ) : List α → σ → Option σ
  | [], s => some s
  | x :: r, s => (f x s).bind (forS f r)
inductive Ctl (ρ σ : Type) where
  | nx (s : σ)
  | bk (s : σ)
  | rt (r : ρ)
def forC {α σ ρ : Type} (f : α → σ → Option (Ctl ρ σ)) : List α → σ → Option (Ctl ρ σ)
  | [], s => some (.nx s)
  | x :: r, s => (f x s).bind fun c => match c with
    | .nx s' => forC f r s'
    | .bk s' => some (.bk s')
    | .rt r => some (.rt r)
def rangeL (lo : Int) (n : Nat) : List Int := (List.range n).map fun (k : Nat) => lo + (k : Int)
theorem drop_s {α : Type} : ∀ {xs : List α} {i : Nat} {x : α}, xs[i]? = some x → xs.drop i = x :: xs.drop (i + 1)
  | [], _, _, e => by simp at e
  | y :: r, 0, x, e => by simp at e; rw [e]; rfl
  | y :: r, i + 1, x, e => by
    show r.drop i = x :: r.drop (i + 1)
    exact drop_s (by simpa using e)
theorem forS_s {α σ : Type} {f : α → σ → Option σ} {xs : List α} {i : Nat} {x : α} {s sE : σ} (hx : xs[i]? = some x) (h : forS f (xs.drop i) s = some sE) : ∃ s', f x s = some s' ∧ forS f (xs.drop (i + 1)) s' = some sE := by
  rw [drop_s hx] at h
  exact bnd h
theorem forS_e {α σ : Type} {f : α → σ → Option σ} {xs : List α} {n : Nat} {s sE : σ} (hn : xs.length ≤ n) (h : forS f (xs.drop n) s = some sE) : s = sE := by
  rw [List.drop_of_length_le hn] at h
  exact Option.some.inj h
theorem forC_s {α σ ρ : Type} {f : α → σ → Option (Ctl ρ σ)} {xs : List α} {i : Nat} {x : α} {s : σ} {cE : Ctl ρ σ} (hx : xs[i]? = some x) (h : forC f (xs.drop i) s = some cE) :
    ∃ c, f x s = some c ∧ match c with
      | .nx s' => forC f (xs.drop (i + 1)) s' = some cE
      | .bk s' => cE = .bk s'
      | .rt r => cE = .rt r := by
  rw [drop_s hx] at h
  obtain ⟨c, h1, h2⟩ := bnd h
  refine ⟨c, h1, ?_⟩
  cases c with
  | nx s' => exact h2
  | bk s' => exact (Option.some.inj h2).symm
  | rt r => exact (Option.some.inj h2).symm
theorem forC_e {α σ ρ : Type} {f : α → σ → Option (Ctl ρ σ)} {xs : List α} {n : Nat} {s : σ} {cE : Ctl ρ σ} (hn : xs.length ≤ n) (h : forC f (xs.drop n) s = some cE) : cE = .nx s := by
  rw [List.drop_of_length_le hn] at h
  exact (Option.some.inj h).symm
theorem range_get {lo : Int} {n i : Nat} (h : i < n) : (rangeL lo n)[i]? = some (lo + (i : Int)) := by
  unfold rangeL
  rw [List.getElem?_map, List.getElem?_range h]; rfl
theorem range_len {lo : Int} {n : Nat} : (rangeL lo n).length = n := by unfold rangeL; rw [List.length_map, List.length_range]
/-! ### tests -/
def EvT (S0 : List Addr) (H0 : Hp) (L : List As) (t : TT) (σ : L2.St) (b : Bool) : Prop := ∀ H, Sep S0 H0 H L → ∀ Q : Bool → Hp → Prop, (∀ H', Sep S0 H0 H' L → Q b H') → t σ H Q
section
variable {S0 : List Addr} {H0 H : Hp} {L : List As} {σ : L2.St} {c t u : TT} {P R : Prop} [Decidable P] [Decidable R]
theorem if_use {c : TT} {t u : TS} {D : Ends} {b : Bool} (hs : Sep S0 H0 H L) (e : EvT S0 H0 L c σ b) (q : ∀ H', Sep S0 H0 H' L → if b = true then t D σ H' else u D σ H') : tIfS c t u D σ H := e H hs _ q
theorem ev_and (a : EvT S0 H0 L t σ (decide P)) (b : P → EvT S0 H0 L u σ (decide R)) : EvT S0 H0 L (tAnd t u) σ (decide (P ∧ R)) := fun H hs Q q => a H hs _ fun H1 h1 => by
  by_cases h : P
  · rw [decide_eq_true h, if_pos rfl]
    refine b h H1 h1 Q fun H2 h2 => ?_
    have z := q H2 h2
    rw [show decide (P ∧ R) = decide R from decide_eq_decide.mpr ⟨fun x => x.2, fun x => ⟨h, x⟩⟩] at z
    exact z
  · rw [decide_eq_false h, if_neg Bool.false_ne_true]
    have z := q H1 h1
    rw [decide_eq_false (fun x : P ∧ R => h x.1)] at z
    exact z
theorem ev_or (a : EvT S0 H0 L t σ (decide P)) (b : ¬ P → EvT S0 H0 L u σ (decide R)) : EvT S0 H0 L (tOr t u) σ (decide (P ∨ R)) := fun H hs Q q => a H hs _ fun H1 h1 => by
  by_cases h : P
  · rw [decide_eq_true h, if_pos rfl]
    have z := q H1 h1
    rw [decide_eq_true (show P ∨ R from .inl h)] at z
    exact z
  · rw [decide_eq_false h, if_neg Bool.false_ne_true]
    refine b h H1 h1 Q fun H2 h2 => ?_
    have z := q H2 h2
    rw [show decide (P ∨ R) = decide R from decide_eq_decide.mpr ⟨fun x => x.resolve_left h, .inr⟩] at z
    exact z
theorem ev_not (a : EvT S0 H0 L t σ (decide P)) : EvT S0 H0 L (tNot t) σ (decide (¬ P)) := fun H hs Q q => a H hs _ fun H1 h1 => by
  have z := q H1 h1
  rw [decide_not] at z
  exact z
end
theorem dI {a b : Int} : V.bl (decide (V.int a = V.int b)) = V.bl (decide (a = b)) := congrArg V.bl (decide_eq_decide.mpr ⟨V.int.inj, congrArg V.int⟩)
theorem dnI {a b : Int} : V.bl (!decide (V.int a = V.int b)) = V.bl (decide (¬ a = b)) := congrArg V.bl (by rw [decide_not, decide_eq_decide.mpr ⟨V.int.inj, congrArg V.int⟩])
theorem dS {a b : Str} : V.bl (decide (V.str a = V.str b)) = V.bl (decide (a = b)) := congrArg V.bl (decide_eq_decide.mpr ⟨V.str.inj, congrArg V.str⟩)
theorem dnS {a b : Str} : V.bl (!decide (V.str a = V.str b)) = V.bl (decide (¬ a = b)) := congrArg V.bl (by rw [decide_not, decide_eq_decide.mpr ⟨V.str.inj, congrArg V.str⟩])
theorem dBb {a b : Bool} : V.bl (decide (V.bl a = V.bl b)) = V.bl (decide (a = b)) := congrArg V.bl (decide_eq_decide.mpr ⟨V.bl.inj, congrArg V.bl⟩)
theorem dnBb {a b : Bool} : V.bl (!decide (V.bl a = V.bl b)) = V.bl (decide (¬ a = b)) := congrArg V.bl (by rw [decide_not, decide_eq_decide.mpr ⟨V.bl.inj, congrArg V.bl⟩])
theorem dB {b : Bool} : V.bl b = V.bl (decide (b = true)) := by cases b <;> rfl
theorem dN {P : Prop} [Decidable P] : V.bl (!decide P) = V.bl (decide (¬ P)) := by rw [decide_not]
theorem dOpt {α : Type} [Imm α] {H : Hp} {v : V} {x : Option α} (hnn : ∀ y : α, ¬ Imm.at_ H .non y) (h : Imm.at_ H v x) : V.bl (decide (v = .non)) = V.bl (decide (x = none)) := by
  cases x with
  | none => rw [show v = .non from h]; simp
  | some y =>
    refine congrArg V.bl (decide_eq_decide.mpr ⟨fun e => ?_, fun e => by cases e⟩)
    subst e; exact (hnn y h).elim
/-! ### the words' meaning -/
theorem Sep.tk {S0 : List Addr} {H0 H : Hp} {L : List As} (h : Sep S0 H0 H L) (n : Nat) : Sep S0 H0 H (takeN n L) := by
  rw [← take_drop n L] at h
  have hn := h.nd
  rw [owns_app] at hn
  exact h.perm (oks_app.mp h.ok).1 (nd_app.mp hn).1 fun b m => by rw [owns_app]; exact List.mem_append_left _ m
def mvsL : List Nat → List As → Option (List As)
  | [], L => some L
  | i :: r, L => match nth L i with
    | some A => mvsL r (A :: setN L i [])
    | none => none
theorem Sep.mvs {S0 : List Addr} {H0 H : Hp} : ∀ (is : List Nat) {L L' : List As}, Sep S0 H0 H L → mvsL is L = some L' → Sep S0 H0 H L'
  | [], _, _, h, e => by rw [← Option.some.inj e]; exact h
  | i :: r, L, L', h, e => by
    unfold mvsL at e
    cases en : nth L i with
    | none => rw [en] at e; cases e
    | some A => rw [en] at e; exact Sep.mvs r (h.mv i en) e
/-- entries chosen, in one go -/
theorem Sep.pick {S0 : List Addr} {H0 H : Hp} {L : List As} (h : Sep S0 H0 H L) (is : List Nat) (n : Nat) {L' : List As} (e : (mvsL is L).map (takeN n) = some L') : Sep S0 H0 H L' := by
  cases em : mvsL is L with
  | none => rw [em] at e; cases e
  | some M =>
    rw [em] at e
    rw [← Option.some.inj e]
    exact (h.mvs is em).tk n
theorem snoc_eq {α : Type} {xs ys : List α} {x : α} (h : snoc xs x = some ys) : xs.length < 16000000 ∧ ys = xs ++ [x] := by
  unfold snoc at h
  obtain ⟨g, e⟩ := gd h
  exact ⟨g, (Option.some.inj e).symm⟩
theorem catL_eq {α : Type} {xs ys zs : List α} (h : catL xs ys = some zs) : xs.length + ys.length < 16000000 ∧ zs = xs ++ ys := by
  unfold catL at h
  obtain ⟨g, e⟩ := gd h
  exact ⟨g, (Option.some.inj e).symm⟩
theorem repL_eq {α : Type} {xs zs : List α} {n : Int} (h : repL xs n = some zs) : (-(2 ^ 63) ≤ n ∧ n < 2 ^ 63 ∧ xs.length * n.toNat < 16000000) ∧ zs = (List.replicate n.toNat xs).flatten := by
  unfold repL at h
  obtain ⟨g, e⟩ := gd h
  exact ⟨g, (Option.some.inj e).symm⟩
def setX {α : Type} (xs : List α) (i : Int) (v : α) : Option (List α) := (ixN xs.length i).bind fun j => some (xs.set j v)
theorem setX_ix {α : Type} {xs ys : List α} {i : Int} {v : α} {n : Nat} (hn : n = xs.length) (h : setX xs i v = some ys) : ∃ j, ixN n i = some j ∧ ys = xs.set j v := by
  subst hn
  obtain ⟨j, h1, h2⟩ := bnd h
  exact ⟨j, h1, (Option.some.inj h2).symm⟩
def cutX {α : Type} (xs : List α) (lo hi : Option Int) : List α := (xs.drop (HT.sIx xs.length 0 lo)).take (HT.sIx xs.length xs.length hi - HT.sIx xs.length 0 lo)
section
variable {α : Type} [Imm α] {H : Hp}
theorem Imms.cut {vs : List V} {xs : List α} (h : Imms H vs xs) (lo hi : Option Int) : Imms H (cutV vs lo hi) (cutX xs lo hi) := by
  unfold cutV cutX
  rw [h.length]
  exact (h.drop _).take _
theorem Imms.rep {vs : List V} {xs : List α} (h : Imms H vs xs) : ∀ n : Nat, Imms H (List.replicate n vs).flatten (List.replicate n xs).flatten
  | 0 => .nil
  | n + 1 => by
    rw [List.replicate_succ, List.replicate_succ, List.flatten_cons, List.flatten_cons]
    exact h.app (h.rep n)
end
theorem iteNot {A B : Prop} {p : Prop} [Decidable p] (h1 : p → B) (h2 : ¬ p → A) : if (!decide p) = true then A else B := iteN h2 h1
instance : Decidable (CMul i j) := by unfold CMul; infer_instance
theorem tups_of {H : Hp} : ∀ {ls : List V} {l : List (Int × Int)}, Imms H ls l → Tups H ls (sentT l)
  | _, _, .nil => .nil
  | _, _, .cons ⟨p, u, w, e, h, h1, h2⟩ r => .cons ⟨p, e, by rw [h, show u = _ from h1, show w = _ from h2]⟩ (tups_of r)
theorem tups_nil {α : Type} [Imm α] {H : Hp} {ls : List V} (h : Imms H ls ([] : List α)) : Tups H ls (sentT []) := by
  cases h; exact .nil
theorem stop_dec {H : Hp} {v : V} {o : Option (List V)} (h : StopV H v o) : V.bl (decide (v = .non)) = V.bl (decide (o = none)) := by
  cases o with
  | none => rw [show v = .non from h]; rfl
  | some xs =>
    obtain ⟨t, e, _⟩ := h
    rw [e]; rfl
theorem stop_decN {H : Hp} {v : V} {o : Option (List V)} (h : StopV H v o) : V.bl (!decide (v = .non)) = V.bl (decide (o ≠ none)) := by
  have := V.bl.inj (stop_dec h)
  rw [this, decide_not]
theorem opt_dec {H : Hp} {v : V} {o : Option Int} (h : Imm.at_ H v o) : V.bl (decide (v = .non)) = V.bl (decide (o = none)) := by
  cases o with
  | none => rw [show v = .non from h]; rfl
  | some x => rw [show v = .int x from h]; rfl
theorem opt_decN {H : Hp} {v : V} {o : Option Int} (h : Imm.at_ H v o) : V.bl (!decide (v = .non)) = V.bl (decide (o ≠ none)) := by
  have := V.bl.inj (opt_dec h)
  rw [this, decide_not]
theorem dnX {P : Prop} [Decidable P] : V.bl (!decide P) = V.bl (decide (¬ P)) := by rw [decide_not]
theorem im_optV {H : Hp} (o : Option Int) : Imm.at_ H (optV o) o := by cases o <;> rfl
/-! a dict of ints to ints -/
def lookI (l : List (Int × Int)) (k : Int) : Option Int := (l.find? fun p => decide (p.1 = k)).map (·.2)
def putI (l : List (Int × Int)) (k v : Int) : List (Int × Int) :=
  if (l.any fun p => decide (p.1 = k)) = true then l.map (fun p => if p.1 = k then (k, v) else p) else l ++ [(k, v)]
theorem lineK_len (l : List (Int × Int)) : (lineK l).length = l.length := by unfold lineK; rw [List.length_map]
theorem valV_lineK : ∀ (l : List (Int × Int)) (k : Int), valV (lineK l) (Sum.inl k : Key) = (lookI l k).map V.int
  | [], _ => rfl
  | (x, y) :: r, k => by
    by_cases e : x = k
    · have h1 : valV (lineK ((x, y) :: r)) (Sum.inl k : Key) = some (.int y) := valV_pos (p := ((Sum.inl x : Key), V.int y)) (by rw [e])
      rw [h1]; unfold lookI
      rw [List.find?_cons_of_pos (by simp [e])]; rfl
    · have h1 : valV (lineK ((x, y) :: r)) (Sum.inl k : Key) = valV (lineK r) (Sum.inl k : Key) := valV_neg (p := ((Sum.inl x : Key), V.int y)) (fun z => e (Sum.inl.inj z))
      rw [h1, valV_lineK r k]
      unfold lookI
      rw [List.find?_cons_of_neg (by simp [e])]
theorem lookI_valV {l : List (Int × Int)} {k v : Int} (h : lookI l k = some v) : valV (lineK l) (Sum.inl k : Key) = some (.int v) := by rw [valV_lineK, h]; rfl
/-! ### in, == -/
theorem eqV_int {a b : Int} : eqV (.int a) (.int b) = decide (a = b) := by unfold eqV; rfl
theorem inV_ints (x : Int) : ∀ xs : List Int, inV (.int x) (xs.map V.int) = decide (x ∈ xs)
  | [] => rfl
  | y :: r => by
    show (eqV (.int y) (.int x) || inV (.int x) (r.map V.int)) = _
    rw [inV_ints x r, eqV_int, ← Bool.decide_or]
    exact decide_eq_decide.mpr ⟨fun h => by rcases h with h | h; exact List.mem_cons.mpr (.inl h.symm); exact List.mem_cons_of_mem _ h, fun h => by rcases List.mem_cons.mp h with h | h; exact .inl h.symm; exact .inr h⟩
theorem in_int {x : Int} {xs : List Int} : V.bl (if false = true then !inV (.int x) (xs.map Sc.v) else inV (.int x) (xs.map Sc.v)) = V.bl (decide (x ∈ xs)) := by
  rw [if_neg Bool.false_ne_true]; exact congrArg V.bl (inV_ints x xs)
theorem inN_int {x : Int} {xs : List Int} : V.bl (if true = true then !inV (.int x) (xs.map Sc.v) else inV (.int x) (xs.map Sc.v)) = V.bl (decide (x ∉ xs)) := by
  rw [if_pos rfl, decide_not]; exact congrArg (fun b => V.bl (!b)) (inV_ints x xs)
theorem flat_int (xs : List Int) : (xs.map Sc.v).all flatV = true := by
  rw [List.all_eq_true]; intro v hv
  obtain ⟨x, _, rfl⟩ := List.mem_map.mp hv
  rfl
theorem eqv_dec {d e : PyData} {P : Prop} [Decidable P] (h : PyData.eqv d e = decide P) : V.bl (PyData.eqv d e) = V.bl (decide P) := congrArg V.bl h
theorem eqv_decN {d e : PyData} {P : Prop} [Decidable P] (h : PyData.eqv d e = decide P) : V.bl (!PyData.eqv d e) = V.bl (decide (¬ (P))) := by rw [h, decide_not]
theorem eqv_i (a b : Int) : PyData.eqv (.int a) (.int b) = decide (a = b) := by simp only [PyData.eqv]; rfl
theorem eqv_b (a b : Bool) : PyData.eqv (.bool a) (.bool b) = decide (a = b) := by cases a <;> cases b <;> simp [PyData.eqv]
theorem eqv_s (a b : Str) : PyData.eqv (.str a) (.str b) = decide (a = b) := by simp only [PyData.eqv]; by_cases h : a = b <;> simp [h]
theorem eqvN : PyData.eqvAll [] [] = decide True := by simp [PyData.eqvAll]
theorem eqvC {x y : PyData} {xs ys : List PyData} {P R : Prop} [Decidable P] [Decidable R] (h : PyData.eqv x y = decide P) (t : PyData.eqvAll xs ys = decide R) : PyData.eqvAll (x :: xs) (y :: ys) = decide (P ∧ R) := by
  simp only [PyData.eqvAll, h, t, Bool.decide_and]
theorem eqvL {xs ys : List PyData} {P : Prop} [Decidable P] (t : PyData.eqvAll xs ys = decide P) : PyData.eqv (.list xs) (.list ys) = decide P := by rw [PyData.eqv]; exact t
theorem eqvT {xs ys : List PyData} {P : Prop} [Decidable P] (t : PyData.eqvAll xs ys = decide P) : PyData.eqv (.tuple xs) (.tuple ys) = decide P := by rw [PyData.eqv]; exact t
def optD' : Option Int → PyData
  | none => .none
  | some n => .int n
theorem eqv_o (a b : Option Int) : PyData.eqv (optD' a) (optD' b) = decide (a = b) := by
  cases a <;> cases b <;> simp only [PyData.eqv, optD'] <;> first | rfl | (rename_i x y; by_cases h : x = y <;> simp [h]) | simp
theorem dp_opt' {K : PySem.W.Frag} {H : Hp} {v : V} {o : Option Int} (h : Imm.at_ H v o) : Dp K H v (optD' o) := by
  cases o with
  | none => rw [show v = .non from h]; exact .non
  | some n => rw [show v = .int n from h]; exact .int n
theorem dpOptsL {K : PySem.W.Frag} {H : Hp} : ∀ {vs : List V} {xs : List (Option Int)}, Imms H vs xs → DpAll K H vs (xs.map optD')
  | _, _, .nil => .nil
  | _, _, .cons h r => .cons (dp_opt' h) (dpOptsL r)
theorem dpOpts {K : PySem.W.Frag} {H : Hp} {p : Addr} {xs : List (Option Int)} (h : ∃ vs, H p = some (.lst vs) ∧ Imms H vs xs) : Dp K H (.ref p) (.list (xs.map optD')) := by
  obtain ⟨vs, h1, h2⟩ := h
  exact .lst (SqL.of h1) (dpOptsL h2)
theorem shp_opts (xs : List (Option Int)) : SeqAt.shaped (.list (xs.map optD')) = true := by
  have e : ∀ d ∈ xs.map optD', d.canLay0 = true ∧ d.depth ≤ 0 := fun d hd => by
    obtain ⟨v, hv, rfl⟩ := List.mem_map.mp hd
    cases v <;> exact ⟨by simp only [optD', PyData.canLay0], by simp only [optD', PyData.depth]; exact Nat.le_refl _⟩
  refine shp (by simp only [PyData.canLay0]; exact lay_all fun d hd => (e d hd).1) ?_
  simp only [PyData.depth]
  have := depth_all (ds := xs.map optD') (n := 0) fun d hd => (e d hd).2
  omega
theorem eqv_osA : ∀ xs ys : List (Option Int), PyData.eqvAll (xs.map optD') (ys.map optD') = decide (xs = ys)
  | [], [] => by simp [PyData.eqvAll]
  | [], _ :: _ => by simp [PyData.eqvAll]
  | _ :: _, [] => by simp [PyData.eqvAll]
  | x :: r, y :: q => by
    simp only [List.map_cons, PyData.eqvAll, eqv_o, eqv_osA r q]
    by_cases h : x = y <;> by_cases h2 : r = q <;> simp [h, h2]
theorem eqv_os (xs ys : List (Option Int)) : PyData.eqv (.list (xs.map optD')) (.list (ys.map optD')) = decide (xs = ys) := by
  rw [PyData.eqv]; exact eqv_osA xs ys
theorem Sep.cast {S0 : List Addr} {H0 Ha Hb : Hp} {L : List As} (h : Sep S0 H0 Ha L) (e : Ha = Hb) : Sep S0 H0 Hb L := e ▸ h
/-! ### True and False as values; with what may be out of bounds -/
def EvB (S0 : List Addr) (H0 : Hp) (L : List As) (t : TE) (σ : L2.St) (b : Bool) : Prop := ∀ H, Sep S0 H0 H L → ∀ Q : VK, (∀ H', Sep S0 H0 H' L → Q (.bl b) H') → t σ H Q
section
variable {S0 : List Addr} {H0 H : Hp} {L : List As} {σ : L2.St} {b : Bool}
theorem andV_use {ta tb : TE} {Q : VK} (hs : Sep S0 H0 H L) (e : EvB S0 H0 L (tAndV ta tb) σ b) (q : ∀ H', Sep S0 H0 H' L → Q (.bl b) H') : tAndV ta tb σ H Q := e H hs Q q
theorem orV_use {ta tb : TE} {Q : VK} (hs : Sep S0 H0 H L) (e : EvB S0 H0 L (tOrV ta tb) σ b) (q : ∀ H', Sep S0 H0 H' L → Q (.bl b) H') : tOrV ta tb σ H Q := e H hs Q q
theorem notV_use {ta : TE} {Q : VK} (hs : Sep S0 H0 H L) (e : EvB S0 H0 L (tNotV ta) σ b) (q : ∀ H', Sep S0 H0 H' L → Q (.bl b) H') : tNotV ta σ H Q := e H hs Q q
def andO (o u : Option Bool) : Option Bool := o.bind fun x => if x = true then u else some false
def orO (o u : Option Bool) : Option Bool := o.bind fun x => if x = true then some true else u
def notO (o : Option Bool) : Option Bool := o.bind fun x => some (!x)
theorem evB_and {ta tb : TE} {o u : Option Bool} (hb : andO o u = some b) (a : ∀ b1, o = some b1 → EvB S0 H0 L ta σ b1) (c : ∀ b1, u = some b1 → EvB S0 H0 L tb σ b1) : EvB S0 H0 L (tAndV ta tb) σ b := fun H hs Q q => by
  obtain ⟨x, h1, h2⟩ := bnd hb
  refine a x h1 H hs _ fun H1 hs1 => ⟨x, rfl, ?_⟩
  cases x with
  | true => rw [if_pos rfl] at h2 ⊢; exact c b h2 H1 hs1 Q q
  | false => rw [if_neg Bool.false_ne_true] at h2 ⊢; rw [Option.some.inj h2]; exact q H1 hs1
theorem evB_or {ta tb : TE} {o u : Option Bool} (hb : orO o u = some b) (a : ∀ b1, o = some b1 → EvB S0 H0 L ta σ b1) (c : ∀ b1, u = some b1 → EvB S0 H0 L tb σ b1) : EvB S0 H0 L (tOrV ta tb) σ b := fun H hs Q q => by
  obtain ⟨x, h1, h2⟩ := bnd hb
  refine a x h1 H hs _ fun H1 hs1 => ⟨x, rfl, ?_⟩
  cases x with
  | true => rw [if_pos rfl] at h2 ⊢; rw [Option.some.inj h2]; exact q H1 hs1
  | false => rw [if_neg Bool.false_ne_true] at h2 ⊢; exact c b h2 H1 hs1 Q q
theorem evB_not {ta : TE} {o : Option Bool} (hb : notO o = some b) (a : ∀ b1, o = some b1 → EvB S0 H0 L ta σ b1) : EvB S0 H0 L (tNotV ta) σ b := fun H hs Q q => by
  obtain ⟨x, h1, h2⟩ := bnd hb
  refine a x h1 H hs _ fun H1 hs1 => ⟨x, rfl, ?_⟩
  rw [Option.some.inj h2]; exact q H1 hs1
theorem evT_and {ta tb : TT} {o u : Option Bool} (hb : andO o u = some b) (a : ∀ b1, o = some b1 → EvT S0 H0 L ta σ b1) (c : ∀ b1, u = some b1 → EvT S0 H0 L tb σ b1) : EvT S0 H0 L (tAnd ta tb) σ b := fun H hs Q q => by
  obtain ⟨x, h1, h2⟩ := bnd hb
  refine a x h1 H hs _ fun H1 hs1 => ?_
  cases x with
  | true => rw [if_pos rfl] at h2 ⊢; exact c b h2 H1 hs1 Q q
  | false => rw [if_neg Bool.false_ne_true] at h2 ⊢; rw [Option.some.inj h2]; exact q H1 hs1
theorem evT_or {ta tb : TT} {o u : Option Bool} (hb : orO o u = some b) (a : ∀ b1, o = some b1 → EvT S0 H0 L ta σ b1) (c : ∀ b1, u = some b1 → EvT S0 H0 L tb σ b1) : EvT S0 H0 L (tOr ta tb) σ b := fun H hs Q q => by
  obtain ⟨x, h1, h2⟩ := bnd hb
  refine a x h1 H hs _ fun H1 hs1 => ?_
  cases x with
  | true => rw [if_pos rfl] at h2 ⊢; rw [Option.some.inj h2]; exact q H1 hs1
  | false => rw [if_neg Bool.false_ne_true] at h2 ⊢; exact c b h2 H1 hs1 Q q
theorem evT_not {ta : TT} {o : Option Bool} (hb : notO o = some b) (a : ∀ b1, o = some b1 → EvT S0 H0 L ta σ b1) : EvT S0 H0 L (tNot ta) σ b := fun H hs Q q => by
  obtain ⟨x, h1, h2⟩ := bnd hb
  refine a x h1 H hs _ fun H1 hs1 => ?_
  rw [Option.some.inj h2]; exact q H1 hs1
end
def thenC {ρ σ τ : Type} (o : Option (Ctl ρ σ)) (fr : ρ → Option τ) (k : σ → Option τ) : Option τ := o.bind fun c => match c with
  | .nx s => k s
  | .bk s => k s
  | .rt r => fr r
theorem thenC_eq {ρ σ τ : Type} {o : Option (Ctl ρ σ)} {fr : ρ → Option τ} {k : σ → Option τ} {x : τ} (h : thenC o fr k = some x) : ∃ c, o = some c ∧ (match c with
  | .nx s => k s
  | .bk s => k s
  | .rt r => fr r) = some x := bnd h
theorem thenC_exit {ρ σ τ : Type} {c : Ctl ρ σ} {fr : ρ → Option τ} {k : σ → Option τ} {x : τ} {s : σ} (h : (match c with
  | .nx s => k s
  | .bk s => k s
  | .rt r => fr r) = some x) (z : c = .nx s ∨ c = .bk s) : k s = some x := by
  rcases z with rfl | rfl <;> exact h
theorem bl_use {P : Prop} {Q : VK} {H : Hp} {v : V} {b : Bool} (e : v = .bl b) (h : Q (.bl b) H) : Q v H := by rw [e]; exact h
theorem dbt {b : Bool} {P : Prop} [Decidable P] (h : some (decide P) = some b) : V.bl (decide P) = V.bl b := congrArg V.bl (Option.some.inj h)
theorem iteBt {A B : Prop} {b : Bool} (h1 : b = true → A) (h2 : ¬ b = true → B) : if b = true then A else B := ite2 h1 h2
/-! ### loops, with what follows as it stands -/
theorem for_listN {K : PySem.W.Frag} {a : Addr} {xs : List V} {g : TG} {tb : TS} {nx : L2.St → Hp → Prop} {rt : VK} {σ : L2.St} {H : Hp} (Pv : Nat → L2.St → Hp → Prop) (h0 : Pv 0 σ H) (hl : ∀ i σ H, i ≤ xs.length → Pv i σ H → SqL K H a xs)
    (hs : ∀ i x σ H, xs[i]? = some x → Pv i σ H → g x σ H fun σ2 H2 => tb { nx := Pv (i + 1), rt := rt, bk := nx, ct := Pv (i + 1) } σ2 H2) (hd : ∀ σ H, Pv xs.length σ H → nx σ H) :
    ∃ W : Nat → Nat → L2.St → Hp → Prop, (∃ m, W 0 m σ H) ∧ ∀ i m σ H, W i m σ H →
      ((Itl K a).stop i H ∧ nx σ H) ∨ ((Itl K a).go i H ∧ ∃ N : L2.St → Hp → Prop, (∀ σ' H', N σ' H' → ∃ m', m' < m ∧ W (i + 1) m' σ' H') ∧ ∀ x H', (Itl K a).yld i H x H' → g x σ H' fun σ2 H2 => tb { nx := N, rt := rt, bk := nx, ct := N } σ2 H2) :=
  for_list (D := { nx := nx, rt := rt, bk := nx, ct := nx }) Pv h0 hl hs hd
theorem for_rangeN {lo : Int} {n : Nat} {g : TG} {tb : TS} {nx : L2.St → Hp → Prop} {rt : VK} {σ : L2.St} {H : Hp} (Pv : Nat → L2.St → Hp → Prop) (h0 : Pv 0 σ H)
    (hs : ∀ i σ H, i < n → Pv i σ H → g (.int (lo + i)) σ H fun σ2 H2 => tb { nx := Pv (i + 1), rt := rt, bk := nx, ct := Pv (i + 1) } σ2 H2) (hd : ∀ σ H, Pv n σ H → nx σ H) :
    ∃ W : Nat → Nat → L2.St → Hp → Prop, (∃ m, W 0 m σ H) ∧ ∀ i m σ H, W i m σ H →
      ((Itr lo n).stop i H ∧ nx σ H) ∨ ((Itr lo n).go i H ∧ ∃ N : L2.St → Hp → Prop, (∀ σ' H', N σ' H' → ∃ m', m' < m ∧ W (i + 1) m' σ' H') ∧ ∀ x H', (Itr lo n).yld i H x H' → g x σ H' fun σ2 H2 => tb { nx := N, rt := rt, bk := nx, ct := N } σ2 H2) :=
  for_range (D := { nx := nx, rt := rt, bk := nx, ct := nx }) Pv h0 hs hd
/-- with breaks: what comes behind is told ahead -/
theorem for_rangeB {lo : Int} {n : Nat} {g : TG} {tb : TS} {nx : L2.St → Hp → Prop} {rt : VK} {σ : L2.St} {H : Hp} (Pv : Nat → L2.St → Hp → Prop) (B : L2.St → Hp → Prop) (h0 : Pv 0 σ H)
    (hs : (∀ σ H, B σ H → nx σ H) → ∀ i σ H, i < n → Pv i σ H → g (.int (lo + i)) σ H fun σ2 H2 => tb { nx := Pv (i + 1), rt := rt, bk := nx, ct := Pv (i + 1) } σ2 H2) (hd : ∀ σ H, Pv n σ H → B σ H) (hb : ∀ σ H, B σ H → nx σ H) :
    ∃ W : Nat → Nat → L2.St → Hp → Prop, (∃ m, W 0 m σ H) ∧ ∀ i m σ H, W i m σ H →
      ((Itr lo n).stop i H ∧ nx σ H) ∨ ((Itr lo n).go i H ∧ ∃ N : L2.St → Hp → Prop, (∀ σ' H', N σ' H' → ∃ m', m' < m ∧ W (i + 1) m' σ' H') ∧ ∀ x H', (Itr lo n).yld i H x H' → g x σ H' fun σ2 H2 => tb { nx := N, rt := rt, bk := nx, ct := N } σ2 H2) :=
  for_rangeN Pv h0 (hs hb) (fun σ H p => hb σ H (hd σ H p))
/-! ### data that can be laid -/
def okD (k : Nat) (d : PyData) : Prop := d.canLay0 = true ∧ d.depth ≤ k
def okA (k : Nat) (ds : List PyData) : Prop := ∀ d ∈ ds, okD k d
theorem okA_nil {k : Nat} : okA k [] := fun _ h => by cases h
theorem okA_cons {k : Nat} {d : PyData} {ds : List PyData} (h : okD k d) (r : okA k ds) : okA k (d :: ds) := fun e he => by
  rcases List.mem_cons.mp he with z | z
  · rw [z]; exact h
  · exact r e z
theorem ok_i {k : Nat} {n : Int} : okD k (.int n) := ⟨by simp only [PyData.canLay0], by simp only [PyData.depth]; exact Nat.zero_le _⟩
theorem ok_b {k : Nat} {n : Bool} : okD k (.bool n) := ⟨by simp only [PyData.canLay0], by simp only [PyData.depth]; exact Nat.zero_le _⟩
theorem ok_n {k : Nat} : okD k .none := ⟨by simp only [PyData.canLay0], by simp only [PyData.depth]; exact Nat.zero_le _⟩
theorem ok_s {k : Nat} {s : Str} (h : PyData.strOk s = true) : okD k (.str s) := ⟨by simp only [PyData.canLay0]; exact h, by simp only [PyData.depth]; exact Nat.zero_le _⟩
theorem ok_o {k : Nat} {o : Option Int} : okD k (optD' o) := by
  cases o
  · exact ok_n
  · exact ok_i
theorem ok_L {k : Nat} {ds : List PyData} (h : okA k ds) : okD (k + 1) (.list ds) := ⟨by simp only [PyData.canLay0]; exact lay_all fun d hd => (h d hd).1, by
  simp only [PyData.depth]
  have := depth_all fun d hd => (h d hd).2
  omega⟩
theorem ok_T {k : Nat} {ds : List PyData} (h : okA k ds) : okD (k + 1) (.tuple ds) := ⟨by simp only [PyData.canLay0]; exact lay_all fun d hd => (h d hd).1, by
  simp only [PyData.depth]
  have := depth_all fun d hd => (h d hd).2
  omega⟩
theorem okA_map {k : Nat} {α : Type} {f : α → PyData} (h : ∀ x, okD k (f x)) (xs : List α) : okA k (xs.map f) := fun d hd => by
  obtain ⟨x, _, rfl⟩ := List.mem_map.mp hd
  exact h x
theorem shp_of {k : Nat} {d : PyData} (h : okD k d) (hk : k ≤ 64) : SeqAt.shaped d = true := shp h.1 (Nat.le_trans h.2 hk)
/-! ### records -/
/-- entries chosen and closed as one, in one go -/
theorem Sep.cl {S0 : List Addr} {H0 H : Hp} {L : List As} (h : Sep S0 H0 H L) (is : List Nat) (n : Nat) {L' : List As} (e : (mvsL is L).map (fun M => aG (takeN n M) :: dropN n M) = some L') : Sep S0 H0 H L' := by
  cases em : mvsL is L with
  | none => rw [em] at e; cases e
  | some M =>
    rw [em] at e
    rw [← Option.some.inj e]
    exact (h.mvs is em).clsN n
theorem Sep.as1 {S0 : List Addr} {H0 H : Hp} {L : List As} {X Y : As} (h : Sep S0 H0 H (X :: L)) (e : X = Y) : Sep S0 H0 H (Y :: L) := e ▸ h
theorem Sep.asN {S0 : List Addr} {H0 H : Hp} {L : List As} {X Y : As} (h : Sep S0 H0 H L) (i : Nat) (n : nth L i = some X) (e : X = Y) : Sep S0 H0 H (setN L i [Y]) := by
  subst e
  exact h.put i n X (Kp.refl _ _) (h.get i n)
theorem nth_own : ∀ {L : List As} {i : Nat} {A : As}, nth L i = some A → ∀ b, b ∈ A.own → b ∈ owns L
  | [], _, _, e, _, _ => by cases e
  | B :: r, 0, A, e, b, m => by
    have e : B = A := Option.some.inj e
    exact List.mem_append_left _ (e ▸ m)
  | _ :: _, n + 1, _, e, b, m => List.mem_append_right _ (nth_own (i := n) e b m)
theorem apart_aux {p : Addr} {o u : HO} : ∀ {L : List As} {i j : Nat}, nth L i = some (aC p o) → nth L j = some (aC p u) → i ≠ j → (owns L).Nodup → False
  | [], _, _, e, _, _, _ => by cases e
  | A :: r, 0, 0, _, _, n, _ => n rfl
  | A :: r, 0, j + 1, e1, e2, _, nd => by
    have e1 : A = aC p o := Option.some.inj e1
    subst e1
    exact (nd_app.mp nd).2.2 p (List.mem_singleton.mpr rfl) (nth_own (i := j) e2 p (List.mem_singleton.mpr rfl))
  | A :: r, i + 1, 0, e1, e2, _, nd => by
    have e2 : A = aC p u := Option.some.inj e2
    subst e2
    exact (nd_app.mp nd).2.2 p (List.mem_singleton.mpr rfl) (nth_own (i := i) e1 p (List.mem_singleton.mpr rfl))
  | A :: r, i + 1, j + 1, e1, e2, n, nd => apart_aux (L := r) (i := i) (j := j) e1 e2 (fun z => n (congrArg (· + 1) z)) (nd_app.mp nd).2.1
theorem Sep.apart {S0 : List Addr} {H0 H : Hp} {L : List As} {p q : Addr} {o u : HO} (h : Sep S0 H0 H L) (i j : Nat) (e1 : nth L i = some (aC p o)) (e2 : nth L j = some (aC q u)) (n : i ≠ j) : p ≠ q := fun e => by
  subst e
  exact apart_aux e1 e2 n h.nd
theorem getI_map {o : Option Int} {d : Int} : (o.map V.int).getD (.int d) = .int (o.getD d) := by cases o <;> rfl
def mkI (l : List (Int × Int)) : List (Int × Int) := l.foldl (fun acc p => putI acc p.1 p.2) []
theorem lineK_put (l : List (Int × Int)) (k v : Int) : putK (lineK l) (Sum.inl k : Key) (.int v) = lineK (putI l k v) := by
  have e : ((lineK l).any fun kv => decide (kv.1 = (Sum.inl k : Key))) = (l.any fun p => decide (p.1 = k)) := by
    unfold lineK
    rw [List.any_map]
    congr 1
    funext p
    exact decide_eq_decide.mpr ⟨fun h => Sum.inl.inj h, fun h => congrArg Sum.inl h⟩
  unfold putK putI
  rw [e]
  by_cases h : (l.any fun p => decide (p.1 = k)) = true
  · rw [if_pos h, if_pos h]
    unfold lineK
    rw [List.map_map, List.map_map]
    refine List.map_congr_left fun p _ => ?_
    show (if (Sum.inl p.1 : Key) = Sum.inl k then _ else _) = ((Sum.inl (if p.1 = k then (k, v) else p).1 : Key), V.int (if p.1 = k then (k, v) else p).2)
    by_cases c : p.1 = k
    · rw [if_pos (congrArg Sum.inl c), if_pos c]
      show ((Sum.inl p.1 : Key), V.int v) = (Sum.inl k, V.int v)
      rw [c]
    · rw [if_neg (fun z => c (Sum.inl.inj z)), if_neg c]
  · rw [if_neg h, if_neg h]
    unfold lineK
    rw [List.map_append]; rfl
theorem Sep.putD {S0 : List Addr} {H0 H : Hp} {L : List As} (h : Sep S0 H0 H L) (i : Nat) {p : Addr} {l : List (Int × Int)} (e : nth L i = some (aC p (.dK (lineK l)))) (k v : Int) : Sep S0 H0 (upd H p (.dK (putK (lineK l) (Sum.inl k : Key) (.int v)))) (setN L i [aC p (.dK (lineK (putI l k v)))]) := by
  rw [lineK_put]; exact h.putC i e trivial _
theorem merge_go : ∀ (l : List (Int × Int)) (acc : List (Int × Int)), mergeK (lineK acc) (lineK l) = lineK (l.foldl (fun acc p => putI acc p.1 p.2) acc)
  | [], _ => rfl
  | p :: r, acc => by
    show mergeK (putK (lineK acc) (Sum.inl p.1 : Key) (.int p.2)) (lineK r) = _
    rw [lineK_put, merge_go r]; rfl
theorem merge_mkI (l : List (Int × Int)) : mergeK [] (lineK l) = lineK (mkI l) := merge_go l []
/-! ### flat tuples: what stops a board -/
instance : Imm (List V) := ⟨fun H v xs => ∃ p, v = .ref p ∧ H p = some (.tup xs), fun t ⟨p, e, h⟩ => ⟨p, e, t _ _ h⟩⟩
theorem imF {H : Hp} {p : Addr} {xs : List V} (h : H p = some (.tup xs)) : Imm.at_ H (.ref p) xs := ⟨p, rfl, h⟩
theorem im_stop {H : Hp} {v : V} {o : Option (List V)} (h : StopV H v o) : Imm.at_ H v o := by
  cases o with
  | none => exact h
  | some xs => exact h
theorem opt_decF {H : Hp} {v : V} {o : Option (List V)} (h : Imm.at_ H v o) : V.bl (decide (v = .non)) = V.bl (decide (o = none)) := by
  cases o with
  | none => rw [show v = .non from h]; rfl
  | some x =>
    obtain ⟨p, e, _⟩ := (show Imm.at_ H v x from h)
    rw [e]; rfl
theorem opt_decFN {H : Hp} {v : V} {o : Option (List V)} (h : Imm.at_ H v o) : V.bl (!decide (v = .non)) = V.bl (decide (o ≠ none)) := by
  have := V.bl.inj (opt_decF h)
  rw [this, decide_not]
def flD : V → PyData
  | .int i => .int i
  | .str s => .str s
  | _ => .none
def flOk : V → Bool
  | .int _ => true
  | .str s => PyData.strOk s
  | _ => false
def stOk : Option (List V) → Bool
  | none => true
  | some xs => xs.all flOk
def stD : Option (List V) → PyData
  | none => .none
  | some xs => .tuple (xs.map flD)
theorem dp_flatA {K : PySem.W.Frag} {H : Hp} : ∀ {st : List V}, st.all flOk = true → DpAll K H st (st.map flD)
  | [], _ => .nil
  | v :: r, h => by
    simp only [List.all_cons, Bool.and_eq_true] at h
    obtain ⟨h1, h2⟩ := h
    refine .cons ?_ (dp_flatA h2)
    cases v <;> first | exact .int _ | exact .str _ | cases h1
theorem dp_st {K : PySem.W.Frag} {H : Hp} {v : V} {o : Option (List V)} (g : stOk o = true) (h : Imm.at_ H v o) : Dp K H v (stD o) := by
  cases o with
  | none => rw [show v = .non from h]; exact .non
  | some xs =>
    obtain ⟨p, e, ht⟩ := (show Imm.at_ H v xs from h)
    rw [e]; exact .tup (SqT.of ht) (dp_flatA g)
theorem ok_st {k : Nat} {o : Option (List V)} (g : stOk o = true) : okD (k + 1) (stD o) := by
  cases o with
  | none => exact ok_n
  | some xs =>
    refine ok_T fun d hd => ?_
    obtain ⟨v, hv, rfl⟩ := List.mem_map.mp hd
    have := List.all_eq_true.mp g v hv
    cases v <;> first | exact ok_i | exact ok_s this | cases this
theorem eqv_fl {x y : V} (hx : flOk x = true) (hy : flOk y = true) : PyData.eqv (flD x) (flD y) = decide (x = y) := by
  cases x <;> first | cases hx; done | skip
  all_goals cases y <;> first | cases hy; done | skip
  all_goals simp only [flD, PyData.eqv]
  all_goals first | (rename_i a b; by_cases h : a = b <;> simp [h]) | simp
theorem eqv_flA : ∀ {xs ys : List V}, xs.all flOk = true → ys.all flOk = true → PyData.eqvAll (xs.map flD) (ys.map flD) = decide (xs = ys)
  | [], [], _, _ => by simp [PyData.eqvAll]
  | [], _ :: _, _, _ => by simp [PyData.eqvAll]
  | _ :: _, [], _, _ => by simp [PyData.eqvAll]
  | x :: r, y :: q, h1, h2 => by
    simp only [List.all_cons, Bool.and_eq_true] at h1 h2
    simp only [List.map_cons, PyData.eqvAll, eqv_fl h1.1 h2.1, eqv_flA h1.2 h2.2]
    by_cases h : x = y <;> by_cases h2 : r = q <;> simp [h, h2]
theorem eqv_st {a b : Option (List V)} (h1 : stOk a = true) (h2 : stOk b = true) : PyData.eqv (stD a) (stD b) = decide (a = b) := by
  cases a with
  | none => cases b <;> simp [stD, PyData.eqv]
  | some x =>
    cases b with
    | none => simp [stD, PyData.eqv]
    | some y =>
      simp only [stD, PyData.eqv]
      rw [eqv_flA h1 h2]
      by_cases h : x = y <;> simp [h]
def prD (p : Int × Int) : PyData := .tuple [.int p.1, .int p.2]
theorem ok_pr {k : Nat} {p : Int × Int} : okD (k + 1) (prD p) := ok_T (okA_cons ok_i (okA_cons ok_i okA_nil))
theorem dpPairsL {K : PySem.W.Frag} {H : Hp} : ∀ {vs : List V} {xs : List (Int × Int)}, Imms H vs xs → DpAll K H vs (xs.map prD)
  | _, _, .nil => .nil
  | _, _, .cons ⟨p, u, w, e, h, h1, h2⟩ r => by
    have h1 : u = _ := h1
    have h2 : w = _ := h2
    subst h1 h2 e
    exact .cons (.tup (SqT.of h) (.cons (.int _) (.cons (.int _) .nil))) (dpPairsL r)
theorem dpPairs {K : PySem.W.Frag} {H : Hp} {p : Addr} {xs : List (Int × Int)} (h : ∃ vs, H p = some (.lst vs) ∧ Imms H vs xs) : Dp K H (.ref p) (.list (xs.map prD)) := by
  obtain ⟨vs, h1, h2⟩ := h
  exact .lst (SqL.of h1) (dpPairsL h2)
theorem eqv_prA : ∀ xs ys : List (Int × Int), PyData.eqvAll (xs.map prD) (ys.map prD) = decide (xs = ys)
  | [], [] => by simp [PyData.eqvAll]
  | [], _ :: _ => by simp [PyData.eqvAll]
  | _ :: _, [] => by simp [PyData.eqvAll]
  | (a, b) :: r, (c, d) :: q => by
    simp only [List.map_cons, PyData.eqvAll, eqv_prA r q, prD, PyData.eqv]
    by_cases h : a = c <;> by_cases h2 : b = d <;> by_cases h3 : r = q <;> simp [h, h2, h3]
theorem eqv_prs (xs ys : List (Int × Int)) : PyData.eqv (.list (xs.map prD)) (.list (ys.map prD)) = decide (xs = ys) := by
  rw [PyData.eqv]; exact eqv_prA xs ys
theorem imms_of {H : Hp} : ∀ {ls : List V} {l : List (Int × Int)}, Tups H ls (sentT l) → Imms H ls l
  | _, [], .nil => .nil
  | _, x :: r, .cons ⟨t, e, h⟩ q => .cons ⟨t, _, _, e, h, rfl, rfl⟩ (imms_of (l := r) q)
theorem dpBools {K : PySem.W.Frag} {H : Hp} {p : Addr} {xs : List Bool} (h : H p = some (.lst (xs.map Sc.v))) : Dp K H (.ref p) (.list (xs.map PyData.bool)) := by
  refine .lst (SqL.of h) ?_
  clear h
  induction xs with
  | nil => exact .nil
  | cons x r ih => exact .cons (.bl x) ih
theorem eqv_bs (xs ys : List Bool) : PyData.eqv (.list (xs.map PyData.bool)) (.list (ys.map PyData.bool)) = decide (xs = ys) := by
  rw [PyData.eqv]
  induction xs generalizing ys with
  | nil => cases ys <;> simp [PyData.eqvAll]
  | cons x r ih =>
    cases ys with
    | nil => simp [PyData.eqvAll]
    | cons y q =>
      simp only [List.map_cons, PyData.eqvAll, eqv_b, ih q]
      by_cases h : x = y <;> by_cases h2 : r = q <;> simp [h, h2]
theorem isi_st {K : PySem.W.Frag} {H : Hp} {v : V} {o : Option (List V)} (h : Imm.at_ H v o) : ∃ t, TyX K H v t ∧ PySem.W.kitOne K t (.type "bool") = some false := by
  cases o with
  | none =>
    rw [show v = .non from h]
    exact ⟨_, .base .non, kit_ty (by decide +kernel)⟩
  | some xs =>
    obtain ⟨p, e, ht⟩ := (show Imm.at_ H v xs from h)
    rw [e]
    exact ⟨_, .base (.tup ht), kit_ty (by decide +kernel)⟩
theorem dIn {o : Option Int} : V.bl ((o.map V.int).isSome) = V.bl (decide (o.isSome = true)) := by cases o <;> rfl
theorem dInN {o : Option Int} : V.bl (!(o.map V.int).isSome) = V.bl (decide (o.isSome = false)) := by cases o <;> rfl
def updI (a b : List (Int × Int)) : List (Int × Int) := b.foldl (fun acc p => putI acc p.1 p.2) a
theorem valV_c {k x : Int} {v : V} {r : List (Key × V)} : valV (((Sum.inl k : Key), v) :: r) (Sum.inl x : Key) = if x = k then some v else valV r (Sum.inl x : Key) := by
  by_cases h : x = k
  · rw [if_pos h]; exact valV_pos (by rw [h])
  · rw [if_neg h]; exact valV_neg (fun z => h (Sum.inl.inj z).symm)
theorem eqv_osi (xs : List (Option Int)) (ys : List Int) : PyData.eqv (.list (xs.map optD')) (.list (ys.map PyData.int)) = decide (xs = ys.map some) := by
  rw [← eqv_os xs (ys.map some), List.map_map]; rfl
theorem eqv_ios (xs : List Int) (ys : List (Option Int)) : PyData.eqv (.list (xs.map PyData.int)) (.list (ys.map optD')) = decide (xs.map some = ys) := by
  rw [← eqv_os (xs.map some) ys, List.map_map]; rfl
instance : Decidable (CPow i j) := by unfold CPow; infer_instance
theorem dpApp {K : PySem.W.Frag} {H : Hp} : ∀ {vs ws : List V} {ds es : List PyData}, DpAll K H vs ds → DpAll K H ws es → DpAll K H (vs ++ ws) (ds ++ es)
  | _, _, _, _, .nil, h => h
  | _, _, _, _, .cons h r, h2 => .cons h (dpApp r h2)
theorem okA_app {k : Nat} {ds es : List PyData} (h : okA k ds) (r : okA k es) : okA k (ds ++ es) := fun e he => by
  rcases List.mem_append.mp he with z | z
  · exact h e z
  · exact r e z
theorem eqvApp : ∀ {ps qs : List PyData} {P : Prop} [Decidable P] {xs ys : List Int}, ps.length = qs.length → PyData.eqvAll ps qs = decide P → PyData.eqvAll (ps ++ xs.map PyData.int) (qs ++ ys.map PyData.int) = decide (P ∧ xs = ys)
  | [], [], P, _, xs, ys, _, h => by
    have hp : P := of_decide_eq_true (by rw [← h]; simp [PyData.eqvAll])
    rw [List.nil_append, List.nil_append, eqv_ints]
    by_cases c : xs = ys <;> simp [c, hp]
  | [], _ :: _, _, _, _, _, l, _ => by simp at l
  | _ :: _, [], _, _, _, _, l, _ => by simp at l
  | p :: ps, q :: qs, P, _, xs, ys, l, h => by
    have ih := eqvApp (ps := ps) (qs := qs) (P := PyData.eqvAll ps qs = true) (xs := xs) (ys := ys) (by simpa using l) (by simp)
    simp only [List.cons_append, PyData.eqvAll] at h ⊢
    rw [ih]
    by_cases a : PyData.eqv p q = true <;> by_cases b : PyData.eqvAll ps qs = true <;> by_cases c : xs = ys <;> simp_all
theorem opt_scal {H : Hp} {v w : V} {a b : Option Int} (h : Imm.at_ H v a) (g : Imm.at_ H w b) : scal v w = true := by
  cases a <;> cases b <;> (cases h; cases g; rfl)
theorem opt_iff {H : Hp} {v w : V} {a b : Option Int} (h : Imm.at_ H v a) (g : Imm.at_ H w b) : v = w ↔ a = b := by
  cases a <;> cases b <;> cases h <;> cases g
  · exact ⟨fun _ => rfl, fun _ => rfl⟩
  · exact ⟨fun z => (by cases z), fun z => (by cases z)⟩
  · exact ⟨fun z => (by cases z), fun z => (by cases z)⟩
  · exact ⟨fun z => (by cases z; rfl), fun z => (by cases z; rfl)⟩
theorem opt_eqd {H : Hp} {v w : V} {a b : Option Int} (h : Imm.at_ H v a) (g : Imm.at_ H w b) : V.bl (decide (v = w)) = V.bl (decide (a = b)) := congrArg V.bl (decide_eq_decide.mpr (opt_iff h g))
theorem opt_neqd {H : Hp} {v w : V} {a b : Option Int} (h : Imm.at_ H v a) (g : Imm.at_ H w b) : V.bl (!decide (v = w)) = V.bl (decide (¬ a = b)) := by rw [decide_not, decide_eq_decide.mpr (opt_iff h g)]
/-! answers of several ways -/
def altO {α β γ : Type} (s : α ⊕ β) (f : α → Option γ) (g : β → Option γ) : Option γ := match s with | .inl a => f a | .inr b => g b
theorem alt_l {α β γ : Type} {s : α ⊕ β} {f : α → Option γ} {g : β → Option γ} {o : Option γ} {a : α} (h : s = .inl a) (e : altO s f g = o) : f a = o := by subst h; exact e
theorem alt_r {α β γ : Type} {s : α ⊕ β} {f : α → Option γ} {g : β → Option γ} {o : Option γ} {b : β} (h : s = .inr b) (e : altO s f g = o) : g b = o := by subst h; exact e
theorem dBb2 {a b a' b' : Bool} (ha : V.bl a' = V.bl a) (hb : V.bl b' = V.bl b) : V.bl (decide (V.bl a' = V.bl b')) = V.bl (decide (a = b)) := by rw [ha, hb]; exact dBb
theorem dnBb2 {a b a' b' : Bool} (ha : V.bl a' = V.bl a) (hb : V.bl b' = V.bl b) : V.bl (!decide (V.bl a' = V.bl b')) = V.bl (decide (¬ a = b)) := by rw [ha, hb]; exact dnBb


/-! ### data of values that do not change: how they read, when two are alike -/
class Dat (α : Type) [Imm α] [DecidableEq α] where
  d : α → PyData
  b : α → Bool
  dep : Nat
  dp : ∀ {K : PySem.W.Frag} {H : Hp} {v : V} {x : α}, b x = true → Imm.at_ H v x → Dp K H v (d x)
  ok : ∀ {x : α} {k : Nat}, b x = true → dep ≤ k → okD k (d x)
  eq : ∀ {x y : α}, b x = true → b y = true → PyData.eqv (d x) (d y) = decide (x = y)
/-- none of them is None -/
class DatN (α : Type) [Imm α] [DecidableEq α] [Dat α] : Prop where
  n1 : ∀ x : α, PyData.eqv .none (Dat.d x) = false
  n2 : ∀ x : α, PyData.eqv (Dat.d x) .none = false
instance : Dat Int := ⟨.int, fun _ => true, 0, fun {_ _ v x} _ h => by rw [show v = .int x from h]; exact .int x, fun _ _ => ok_i, fun _ _ => eqv_i _ _⟩
instance : Dat Bool := ⟨.bool, fun _ => true, 0, fun {_ _ v x} _ h => by rw [show v = .bl x from h]; exact .bl x, fun _ _ => ok_b, fun _ _ => eqv_b _ _⟩
instance : Dat Str := ⟨.str, PyData.strOk, 0, fun {_ _ v x} _ h => by rw [show v = .str x from h]; exact .str x, fun h _ => ok_s h, fun _ _ => eqv_s _ _⟩
instance : DatN Int := ⟨fun _ => by simp [Dat.d, PyData.eqv], fun _ => by simp [Dat.d, PyData.eqv]⟩
instance : DatN Bool := ⟨fun _ => by simp [Dat.d, PyData.eqv], fun _ => by simp [Dat.d, PyData.eqv]⟩
instance : DatN Str := ⟨fun _ => by simp [Dat.d, PyData.eqv], fun _ => by simp [Dat.d, PyData.eqv]⟩
theorem okD_up {d : PyData} {j k : Nat} (h : okD j d) (l : j ≤ k) : okD k d := ⟨h.1, Nat.le_trans h.2 l⟩
instance {α : Type} [Imm α] [DecidableEq α] [Dat α] [DatN α] : Dat (Option α) where
  d := fun o => match o with
    | none => .none
    | some x => Dat.d x
  b := fun o => match o with
    | none => true
    | some x => Dat.b x
  dep := Dat.dep α
  dp := fun {_ _ v x} g h => by
    cases x with
    | none => rw [show v = .non from h]; exact .non
    | some y => exact Dat.dp g h
  ok := fun {x _} g l => by
    cases x with
    | none => exact ok_n
    | some y => exact Dat.ok g l
  eq := fun {x y} g1 g2 => by
    cases x with
    | none => cases y with
      | none => simp [PyData.eqv]
      | some y => exact (DatN.n1 y).trans (by simp)
    | some x => cases y with
      | none => exact (DatN.n2 x).trans (by simp)
      | some y => exact (Dat.eq g1 g2).trans (by simp)
theorem and_bb {a b : Bool} (h : (a && b) = true) : a = true ∧ b = true := by simpa using h
theorem ok_T2 {k : Nat} {x y : PyData} (h1 : okD k x) (h2 : okD k y) : okD (k + 1) (.tuple [x, y]) := ok_T (okA_cons h1 (okA_cons h2 okA_nil))
instance {α β : Type} [Imm α] [Imm β] [DecidableEq α] [DecidableEq β] [Dat α] [Dat β] : Dat (α × β) where
  d := fun x => .tuple [Dat.d x.1, Dat.d x.2]
  b := fun x => Dat.b x.1 && Dat.b x.2
  dep := max (Dat.dep α) (Dat.dep β) + 1
  dp := fun {_ _ v x} g h => by
    obtain ⟨g1, g2⟩ := and_bb g
    obtain ⟨p, u, w, e, ht, a, b⟩ := h
    rw [e]; exact .tup (SqT.of ht) (.cons (Dat.dp g1 a) (.cons (Dat.dp g2 b) .nil))
  ok := fun {x k} g l => by
    obtain ⟨g1, g2⟩ := and_bb g
    obtain ⟨j, rfl⟩ : ∃ j, k = j + 1 := ⟨k - 1, by omega⟩
    exact ok_T2 (Dat.ok g1 (by omega)) (Dat.ok g2 (by omega))
  eq := fun {x y} g1 g2 => by
    obtain ⟨a1, a2⟩ := and_bb g1
    obtain ⟨b1, b2⟩ := and_bb g2
    refine (eqvT (eqvC (Dat.eq a1 b1) (eqvC (Dat.eq a2 b2) eqvN))).trans (decide_eq_decide.mpr ⟨fun h => ?_, fun h => ?_⟩)
    · exact Prod.ext h.1 h.2.1
    · subst h; exact ⟨rfl, rfl, trivial⟩
instance {α β : Type} [Imm α] [Imm β] [DecidableEq α] [DecidableEq β] [Dat α] [Dat β] : DatN (α × β) := ⟨fun _ => by simp [Dat.d, PyData.eqv], fun _ => by simp [Dat.d, PyData.eqv]⟩
instance {α β γ : Type} [Imm α] [Imm β] [Imm γ] [DecidableEq α] [DecidableEq β] [DecidableEq γ] [Dat α] [Dat β] [Dat γ] : Dat (T3 α β γ) where
  d := fun x => .tuple [Dat.d x.a, Dat.d x.b, Dat.d x.c]
  b := fun x => Dat.b x.a && (Dat.b x.b && Dat.b x.c)
  dep := max (Dat.dep α) (max (Dat.dep β) (Dat.dep γ)) + 1
  dp := fun {_ _ v x} g h => by
    obtain ⟨g1, g2⟩ := and_bb g
    obtain ⟨g2, g3⟩ := and_bb g2
    obtain ⟨p, u, w, z, e, ht, a, b, c⟩ := h
    rw [e]; exact .tup (SqT.of ht) (.cons (Dat.dp g1 a) (.cons (Dat.dp g2 b) (.cons (Dat.dp g3 c) .nil)))
  ok := fun {x k} g l => by
    obtain ⟨g1, g2⟩ := and_bb g
    obtain ⟨g2, g3⟩ := and_bb g2
    obtain ⟨j, rfl⟩ : ∃ j, k = j + 1 := ⟨k - 1, by omega⟩
    exact ok_T (okA_cons (Dat.ok g1 (by omega)) (okA_cons (Dat.ok g2 (by omega)) (okA_cons (Dat.ok g3 (by omega)) okA_nil)))
  eq := fun {x y} g1 g2 => by
    obtain ⟨a1, a2⟩ := and_bb g1
    obtain ⟨a2, a3⟩ := and_bb a2
    obtain ⟨b1, b2⟩ := and_bb g2
    obtain ⟨b2, b3⟩ := and_bb b2
    refine (eqvT (eqvC (Dat.eq a1 b1) (eqvC (Dat.eq a2 b2) (eqvC (Dat.eq a3 b3) eqvN)))).trans (decide_eq_decide.mpr ⟨fun h => ?_, fun h => ?_⟩)
    · obtain ⟨h1, h2, h3, _⟩ := h
      cases x; cases y
      exact T3.mk.injEq .. ▸ ⟨h1, h2, h3⟩
    · subst h; exact ⟨rfl, rfl, rfl, trivial⟩
instance {α β γ : Type} [Imm α] [Imm β] [Imm γ] [DecidableEq α] [DecidableEq β] [DecidableEq γ] [Dat α] [Dat β] [Dat γ] : DatN (T3 α β γ) := ⟨fun _ => by simp [Dat.d, PyData.eqv], fun _ => by simp [Dat.d, PyData.eqv]⟩
/-- flat tuples -/
def fxD : V → PyData
  | .int i => .int i
  | .str s => .str s
  | _ => .none
def fxOk : V → Bool
  | .int _ => true
  | .str s => PyData.strOk s
  | .non => true
  | _ => false
theorem fxOk_fl {v : V} (h : flOk v = true) : fxOk v = true := by cases v <;> first | exact h | cases h
theorem fx_fl {xs : List V} (h : xs.all flOk = true) : xs.all fxOk = true := List.all_eq_true.mpr fun v hv => fxOk_fl (List.all_eq_true.mp h v hv)
theorem dp_fxA {K : PySem.W.Frag} {H : Hp} : ∀ {st : List V}, st.all fxOk = true → DpAll K H st (st.map fxD)
  | [], _ => .nil
  | v :: r, h => by
    simp only [List.all_cons, Bool.and_eq_true] at h
    obtain ⟨h1, h2⟩ := h
    refine .cons ?_ (dp_fxA h2)
    cases v <;> first | exact .int _ | exact .str _ | exact .non | cases h1
theorem eqv_fx {x y : V} (hx : fxOk x = true) (hy : fxOk y = true) : PyData.eqv (fxD x) (fxD y) = decide (x = y) := by
  cases x <;> first | cases hx; done | skip
  all_goals cases y <;> first | cases hy; done | skip
  all_goals simp only [fxD, PyData.eqv]
  all_goals first | (rename_i a b; by_cases h : a = b <;> simp [h]) | simp
theorem eqv_fxA : ∀ {xs ys : List V}, xs.all fxOk = true → ys.all fxOk = true → PyData.eqvAll (xs.map fxD) (ys.map fxD) = decide (xs = ys)
  | [], [], _, _ => by simp [PyData.eqvAll]
  | [], _ :: _, _, _ => by simp [PyData.eqvAll]
  | _ :: _, [], _, _ => by simp [PyData.eqvAll]
  | x :: r, y :: q, h1, h2 => by
    simp only [List.all_cons, Bool.and_eq_true] at h1 h2
    simp only [List.map_cons, PyData.eqvAll, eqv_fx h1.1 h2.1, eqv_fxA h1.2 h2.2]
    by_cases h : x = y <;> by_cases h2 : r = q <;> simp [h, h2]
instance : Dat (List V) where
  d := fun xs => .tuple (xs.map fxD)
  b := fun xs => xs.all fxOk
  dep := 1
  dp := fun {_ _ v x} g h => by
    obtain ⟨p, e, ht⟩ := h
    rw [e]; exact .tup (SqT.of ht) (dp_fxA g)
  ok := fun {x k} g l => by
    obtain ⟨j, rfl⟩ : ∃ j, k = j + 1 := ⟨k - 1, by omega⟩
    refine ok_T fun d hd => ?_
    obtain ⟨v, hv, rfl⟩ := List.mem_map.mp hd
    have := List.all_eq_true.mp g v hv
    cases v <;> first | exact ok_i | exact ok_s this | exact ok_n | cases this
  eq := fun {x y} g1 g2 => by rw [PyData.eqv]; exact eqv_fxA g1 g2
instance : DatN (List V) := ⟨fun _ => by simp [Dat.d, PyData.eqv], fun _ => by simp [Dat.d, PyData.eqv]⟩
section
variable {α : Type} [Imm α] [DecidableEq α] [Dat α]
theorem dpDatA {K : PySem.W.Frag} {H : Hp} : ∀ {vs : List V} {xs : List α}, xs.all Dat.b = true → Imms H vs xs → DpAll K H vs (xs.map Dat.d)
  | _, _, _, .nil => .nil
  | _, _, g, .cons h r => by
    simp only [List.all_cons, Bool.and_eq_true] at g
    exact .cons (Dat.dp g.1 h) (dpDatA g.2 r)
theorem dpDatL {K : PySem.W.Frag} {H : Hp} {p : Addr} {xs : List α} (g : xs.all Dat.b = true) (h : ∃ vs, H p = some (.lst vs) ∧ Imms H vs xs) : Dp K H (.ref p) (.list (xs.map Dat.d)) := by
  obtain ⟨vs, e, i⟩ := h
  exact .lst (SqL.of e) (dpDatA g i)
theorem okDatL {xs : List α} {k : Nat} (g : xs.all Dat.b = true) (l : Dat.dep α ≤ k) : okD (k + 1) (.list (xs.map (Dat.d (α := α)))) := ok_L fun d hd => by
  obtain ⟨v, hv, rfl⟩ := List.mem_map.mp hd
  exact Dat.ok (List.all_eq_true.mp g v hv) l
theorem eqvDatA : ∀ {xs ys : List α}, xs.all Dat.b = true → ys.all Dat.b = true → PyData.eqvAll (xs.map Dat.d) (ys.map Dat.d) = decide (xs = ys)
  | [], [], _, _ => by simp [PyData.eqvAll]
  | [], _ :: _, _, _ => by simp [PyData.eqvAll]
  | _ :: _, [], _, _ => by simp [PyData.eqvAll]
  | x :: r, y :: q, h1, h2 => by
    simp only [List.all_cons, Bool.and_eq_true] at h1 h2
    simp only [List.map_cons, PyData.eqvAll, Dat.eq h1.1 h2.1, eqvDatA h1.2 h2.2]
    by_cases h : x = y <;> by_cases h2 : r = q <;> simp [h, h2]
theorem eqvDatL {xs ys : List α} (h1 : xs.all Dat.b = true) (h2 : ys.all Dat.b = true) : PyData.eqv (.list (xs.map Dat.d)) (.list (ys.map Dat.d)) = decide (xs = ys) := by
  rw [PyData.eqv]; exact eqvDatA h1 h2
end
theorem optS_scal {H : Hp} {v w : V} {a b : Option Str} (h : Imm.at_ H v a) (g : Imm.at_ H w b) : scal v w = true := by
  cases a <;> cases b <;> (cases h; cases g; rfl)
theorem optS_iff {H : Hp} {v w : V} {a b : Option Str} (h : Imm.at_ H v a) (g : Imm.at_ H w b) : v = w ↔ a = b := by
  cases a <;> cases b <;> cases h <;> cases g
  · exact ⟨fun _ => rfl, fun _ => rfl⟩
  · exact ⟨fun z => (by cases z), fun z => (by cases z)⟩
  · exact ⟨fun z => (by cases z), fun z => (by cases z)⟩
  · exact ⟨fun z => (by cases z; rfl), fun z => (by cases z; rfl)⟩
theorem optS_eqd {H : Hp} {v w : V} {a b : Option Str} (h : Imm.at_ H v a) (g : Imm.at_ H w b) : V.bl (decide (v = w)) = V.bl (decide (a = b)) := congrArg V.bl (decide_eq_decide.mpr (optS_iff h g))
theorem optS_neqd {H : Hp} {v w : V} {a b : Option Str} (h : Imm.at_ H v a) (g : Imm.at_ H w b) : V.bl (!decide (v = w)) = V.bl (decide (¬ a = b)) := by rw [decide_not, decide_eq_decide.mpr (optS_iff h g)]
theorem if_chain {P R : Prop} [Decidable P] [Decidable R] {A : Prop} {Q : VK} {H : Hp} (q : Q (.bl (decide (P ∧ R))) H) (h1 : P → Q (.bl (decide R)) H → A) : if decide P = true then A else Q (.bl false) H := by
  by_cases h : P
  · rw [if_pos (decide_eq_true h)]
    refine h1 h ?_
    rwa [show decide (P ∧ R) = decide R from decide_eq_decide.mpr ⟨fun z => z.2, fun z => ⟨h, z⟩⟩] at q
  · rw [if_neg (by rw [decide_eq_false h]; simp)]
    rwa [show decide (P ∧ R) = false from decide_eq_false fun z => h z.1] at q
theorem if_chainT {P R : Prop} [Decidable P] [Decidable R] {A : Prop} {Q : Bool → Hp → Prop} {H : Hp} (q : ∃ b, V.bl (decide (P ∧ R)) = .bl b ∧ Q b H) (h1 : P → (∃ b, V.bl (decide R) = .bl b ∧ Q b H) → A) : if decide P = true then A else ∃ b, V.bl false = .bl b ∧ Q b H :=
  if_chain (Q := fun v H => ∃ b, v = .bl b ∧ Q b H) q h1
/-! ### the name of a deed -/
/-! ### dicts with other keys and values -/
abbrev boolK (l : List (Int × Bool)) : List (Key × V) := l.map fun p => (Sum.inl p.1, V.bl p.2)

/-! ### loops over enumerate, over a dict's keys -/
theorem for_enumN {K : PySem.W.Frag} {a : Addr} {xs : List V} {g : TG} {tb : TS} {nx : L2.St → Hp → Prop} {rt : VK} {σ : L2.St} {H : Hp} (Pv : Nat → L2.St → Hp → Prop) (h0 : Pv 0 σ H) (hl : ∀ i σ H, i ≤ xs.length → Pv i σ H → SqL K H a xs)
    (hs : ∀ i x T σ H, xs[i]? = some x → Pv i σ H → H T = none → g (.ref T) σ (upd H T (.tup [.int (i : Nat), x])) fun σ2 H2 => tb { nx := Pv (i + 1), rt := rt, bk := nx, ct := Pv (i + 1) } σ2 H2) (hd : ∀ σ H, Pv xs.length σ H → nx σ H) :
    ∃ W : Nat → Nat → L2.St → Hp → Prop, (∃ m, W 0 m σ H) ∧ ∀ i m σ H, W i m σ H →
      ((Ite K a).stop i H ∧ nx σ H) ∨ ((Ite K a).go i H ∧ ∃ N : L2.St → Hp → Prop, (∀ σ' H', N σ' H' → ∃ m', m' < m ∧ W (i + 1) m' σ' H') ∧ ∀ x H', (Ite K a).yld i H x H' → g x σ H' fun σ2 H2 => tb { nx := N, rt := rt, bk := nx, ct := N } σ2 H2) := by
  refine ⟨fun i m σ H => m = xs.length - i ∧ i ≤ xs.length ∧ Pv i σ H, ⟨xs.length, by simp, Nat.zero_le _, h0⟩, ?_⟩
  rintro i m σ H ⟨rfl, hi, p⟩
  have q := hl i σ H hi p
  by_cases hlt : i < xs.length
  · refine .inr ⟨⟨xs, xs[i], q, by simp [hlt]⟩, Pv (i + 1), fun σ' H' p' => ⟨xs.length - (i + 1), by omega, rfl, hlt, p'⟩, fun v H' y => ?_⟩
    obtain ⟨T, x, ev, nT, eH, hx⟩ := y
    subst ev eH
    exact hs i x T σ H (hx xs q) p nT
  · have e : i = xs.length := by omega
    subst e
    exact .inl ⟨⟨xs, q, Nat.le_refl _⟩, hd σ H p⟩
theorem for_keysN {d : Addr} {o : Obj} {kvs : List (Key × V)} {g : TG} {tb : TS} {nx : L2.St → Hp → Prop} {rt : VK} {σ : L2.St} {H : Hp} (Pv : Nat → L2.St → Hp → Prop) (h0 : Pv 0 σ H) (hl : ∀ i σ H, i ≤ kvs.length → Pv i σ H → H d = some (.frz o (.dK kvs)))
    (hs : ∀ i k v σ H, kvs[i]? = some (k, v) → Pv i σ H → g (kV k) σ H fun σ2 H2 => tb { nx := Pv (i + 1), rt := rt, bk := nx, ct := Pv (i + 1) } σ2 H2) (hd : ∀ σ H, Pv kvs.length σ H → nx σ H) :
    ∃ W : Nat → Nat → L2.St → Hp → Prop, (∃ m, W 0 m σ H) ∧ ∀ i m σ H, W i m σ H →
      ((Itk d o kvs).stop i H ∧ nx σ H) ∨ ((Itk d o kvs).go i H ∧ ∃ N : L2.St → Hp → Prop, (∀ σ' H', N σ' H' → ∃ m', m' < m ∧ W (i + 1) m' σ' H') ∧ ∀ x H', (Itk d o kvs).yld i H x H' → g x σ H' fun σ2 H2 => tb { nx := N, rt := rt, bk := nx, ct := N } σ2 H2) := by
  refine ⟨fun i m σ H => m = kvs.length - i ∧ i ≤ kvs.length ∧ Pv i σ H, ⟨kvs.length, by simp, Nat.zero_le _, h0⟩, ?_⟩
  rintro i m σ H ⟨rfl, hi, p⟩
  have q := hl i σ H hi p
  by_cases hlt : i < kvs.length
  · refine .inr ⟨⟨q, hlt⟩, Pv (i + 1), fun σ' H' p' => ⟨kvs.length - (i + 1), by omega, rfl, hlt, p'⟩, fun x H' y => ?_⟩
    obtain ⟨eH, k, v, hk, ex⟩ := y
    subst eH ex
    exact hs i k v σ _ hk p
  · have e : i = kvs.length := by omega
    subst e
    exact .inl ⟨⟨q, Nat.le_refl _⟩, hd σ H p⟩
def enumL {α : Type} (xs : List α) : List (Int × α) := xs.zipIdx.map fun p => ((p.2 : Int), p.1)
theorem enumL_get {α : Type} {xs : List α} {i : Nat} {x : α} (h : xs[i]? = some x) : (enumL xs)[i]? = some ((i : Int), x) := by
  unfold enumL
  rw [List.getElem?_map, List.getElem?_zipIdx, h]; simp
theorem enumL_len {α : Type} {xs : List α} : (enumL xs).length = xs.length := by unfold enumL; simp
theorem keyI_get {l : List (Int × Int)} {i : Nat} {k : Key} {v : V} (h : (lineK l)[i]? = some (k, v)) : ∃ x, (l.map (·.1))[i]? = some x ∧ k = Sum.inl x := by
  unfold lineK at h
  rw [List.getElem?_map] at h
  cases e : l[i]? with
  | none => rw [e] at h; cases h
  | some p =>
    rw [e] at h
    have h := Option.some.inj h
    exact ⟨p.1, by rw [List.getElem?_map, e]; rfl, (congrArg Prod.fst h).symm⟩
/-! ### dicts of truths -/
def lookB (l : List (Int × Bool)) (k : Int) : Option Bool := (l.find? fun p => decide (p.1 = k)).map (·.2)
def putB (l : List (Int × Bool)) (k : Int) (v : Bool) : List (Int × Bool) := if l.any (fun p => decide (p.1 = k)) then l.map (fun p => if p.1 = k then (k, v) else p) else l ++ [(k, v)]
theorem boolK_len (l : List (Int × Bool)) : (boolK l).length = l.length := List.length_map _
theorem valV_boolK : ∀ (l : List (Int × Bool)) (k : Int), valV (boolK l) (Sum.inl k : Key) = (lookB l k).map V.bl
  | [], _ => rfl
  | p :: r, k => by
    show valV (((Sum.inl p.1 : Key), V.bl p.2) :: boolK r) _ = _
    rw [valV_c, valV_boolK r k]
    unfold lookB
    rw [List.find?_cons]
    by_cases e : p.1 = k
    · rw [if_pos e.symm, decide_eq_true e]; rfl
    · rw [if_neg (fun z => e z.symm), decide_eq_false e]
theorem dInB {o : Option Bool} : V.bl ((o.map V.bl).isSome) = V.bl (decide (o.isSome = true)) := by cases o <;> rfl
theorem dInBN {o : Option Bool} : V.bl (!(o.map V.bl).isSome) = V.bl (decide (o.isSome = false)) := by cases o <;> rfl
theorem boolK_put (l : List (Int × Bool)) (k : Int) (v : Bool) : putK (boolK l) (Sum.inl k : Key) (.bl v) = boolK (putB l k v) := by
  have e : ((boolK l).any fun kv => decide (kv.1 = (Sum.inl k : Key))) = (l.any fun p => decide (p.1 = k)) := by
    show (l.map _).any _ = _
    rw [List.any_map]
    congr 1
    funext p
    exact decide_eq_decide.mpr ⟨fun h => Sum.inl.inj h, fun h => congrArg Sum.inl h⟩
  unfold putK putB
  rw [e]
  by_cases h : (l.any fun p => decide (p.1 = k)) = true
  · rw [if_pos h, if_pos h]
    show (l.map _).map _ = (l.map _).map _
    rw [List.map_map, List.map_map]
    refine List.map_congr_left fun p _ => ?_
    show (if (Sum.inl p.1 : Key) = Sum.inl k then _ else _) = ((Sum.inl (if p.1 = k then (k, v) else p).1 : Key), V.bl (if p.1 = k then (k, v) else p).2)
    by_cases c : p.1 = k
    · rw [if_pos (congrArg Sum.inl c), if_pos c]
      show ((Sum.inl p.1 : Key), V.bl v) = (Sum.inl k, V.bl v)
      rw [c]
    · rw [if_neg (fun z => c (Sum.inl.inj z)), if_neg c]
  · rw [if_neg h, if_neg h]
    show _ = (l ++ [(k, v)]).map _
    rw [List.map_append]; rfl
theorem Sep.putDB {S0 : List Addr} {H0 H : Hp} {L : List As} (h : Sep S0 H0 H L) (i : Nat) {p : Addr} {l : List (Int × Bool)} (e : nth L i = some (aC p (.dK (boolK l)))) (k : Int) (v : Bool) : Sep S0 H0 (upd H p (.dK (putK (boolK l) (Sum.inl k : Key) (.bl v)))) (setN L i [aC p (.dK (boolK (putB l k v)))]) := by
  rw [boolK_put]; exact h.putC i e trivial _
theorem imms_keys {α : Type} {H : Hp} (l : List (Int × α)) {f : α → V} : Imms H ((l.map fun p => ((Sum.inl p.1 : Key), f p.2)).map fun kv => kV kv.1) (l.map (·.1)) := by
  induction l with
  | nil => exact .nil
  | cons p r ih => exact .cons rfl ih
theorem stop_im {H : Hp} {v : V} {o : Option (List V)} (h : Imm.at_ H v o) : StopV H v o := by
  cases o with
  | none => exact h
  | some xs => exact h
theorem in_str {x : Str} {xs : List Str} : V.bl (if false = true then !inV (.str x) (xs.map V.str) else inV (.str x) (xs.map V.str)) = V.bl (decide (x ∈ xs)) := by
  rw [if_neg (by decide)]
  congr 1
  induction xs with
  | nil => rfl
  | cons y r ih =>
    show (eqV (.str y) (.str x) || inV (.str x) (r.map V.str)) = _
    rw [ih]
    have e : eqV (.str y) (.str x) = decide (y = x) := by unfold eqV; by_cases c : y = x <;> simp [c]
    rw [e]
    by_cases c : y = x <;> by_cases d : x ∈ r <;> simp [c, d, eq_comm (a := x) (b := y)]
theorem inN_str {x : Str} {xs : List Str} : V.bl (if true = true then !inV (.str x) (xs.map V.str) else inV (.str x) (xs.map V.str)) = V.bl (decide (x ∉ xs)) := by
  have h := in_str (x := x) (xs := xs)
  rw [if_neg (by decide)] at h
  rw [if_pos rfl, V.bl.inj h, decide_not]
/-! ### pop -/
def popL {α : Type} (xs : List α) : Option (α × List α) := xs[xs.length - 1]?.map fun x => (x, xs.dropLast)
theorem Imms.dropLast {α : Type} [Imm α] {H : Hp} : ∀ {vs : List V} {xs : List α}, Imms H vs xs → Imms H vs.dropLast xs.dropLast
  | _, _, .nil => .nil
  | _, _, .cons h .nil => .nil
  | _, _, .cons h (.cons h2 r) => .cons h (Imms.dropLast (.cons h2 r))
theorem popL_eq {α : Type} [Imm α] {H : Hp} {vs : List V} {xs : List α} {z : α × List α} (hv : Imms H vs xs) (h : popL xs = some z) : ∃ u, vs[vs.length - 1]? = some u ∧ Imm.at_ H u z.1 ∧ z.2 = xs.dropLast := by
  unfold popL at h
  cases e : xs[xs.length - 1]? with
  | none => rw [e] at h; cases h
  | some x =>
    rw [e] at h
    have h := Option.some.inj h
    obtain ⟨u, h1, h2⟩ := hv.nth e
    refine ⟨u, by rw [hv.length]; exact h1, ?_, ?_⟩
    · rw [← h]; exact h2
    · rw [← h]
def popZ {α : Type} : List α → Option (α × List α)
  | [] => none
  | x :: r => some (x, r)
theorem popZ_eq {α : Type} [Imm α] {H : Hp} {vs : List V} {xs : List α} {z : α × List α} (hv : Imms H vs xs) (h : popZ xs = some z) : ∃ u ws, vs = u :: ws ∧ Imm.at_ H u z.1 ∧ Imms H ws z.2 := by
  cases hv with
  | nil => cases h
  | cons a r =>
    have h := Option.some.inj h
    rw [← h]
    exact ⟨_, _, rfl, a, r⟩
theorem seqI0 {n : Nat} : seqIndex? 0 (n + 1) = some 0 := by
  unfold seqIndex?
  simp
/-! ### what a tuple's part may be, registers by their names, values of either kind -/
theorem noneIs : V.bl (decide ((V.non : V) = .non)) = V.bl (decide True) := by simp
theorem refIs {p : Addr} : V.bl (decide ((V.ref p : V) = .non)) = V.bl (decide False) := by simp
theorem refIsN {p : Addr} : V.bl (!decide ((V.ref p : V) = .non)) = V.bl (decide True) := by simp
theorem noneIsN : V.bl (!decide ((V.non : V) = .non)) = V.bl (decide False) := by simp
def tNeverE : TE := fun _ _ _ => False
theorem pe_neverE {X : Cx} {e : Expr} : PE X e tNeverE := ⟨fun _ _ _ _ _ _ h => h.elim⟩
instance : Imm V := ⟨fun _ v x => v = x, fun _ h => h⟩
instance : Sc V := ⟨id, Iff.rfl⟩
def flB : V → PyData
  | .int i => .int i
  | .bl b => .bool b
  | .str s => .str s
  | _ => .none
def flBok : V → Bool
  | .int _ => true
  | .bl _ => true
  | .str s => PyData.strOk s
  | _ => false
theorem dp_flB {K : PySem.W.Frag} {H : Hp} : ∀ {st : List V}, st.all flBok = true → DpAll K H st (st.map flB)
  | [], _ => .nil
  | v :: r, h => by
    simp only [List.all_cons, Bool.and_eq_true] at h
    obtain ⟨h1, h2⟩ := h
    refine .cons ?_ (dp_flB h2)
    cases v <;> first | exact .int _ | exact .str _ | exact .bl _ | cases h1
theorem dp_flBL {K : PySem.W.Frag} {H : Hp} {p : Addr} {xs : List V} (g : xs.all flBok = true) (h : H p = some (.lst xs)) : Dp K H (.ref p) (.list (xs.map flB)) := .lst (SqL.of h) (dp_flB g)
theorem ok_flB {k : Nat} {xs : List V} (g : xs.all flBok = true) : okD (k + 1) (.list (xs.map flB)) := ok_L fun d hd => by
  obtain ⟨v, hv, rfl⟩ := List.mem_map.mp hd
  have := List.all_eq_true.mp g v hv
  cases v <;> first | exact ok_i | exact ok_b | exact ok_s this | cases this
theorem eqv_flB {xs ys : List V} : PyData.eqv (.list (xs.map flB)) (.list (ys.map flB)) = decide (PyData.eqvAll (xs.map flB) (ys.map flB) = true) := by
  rw [PyData.eqv]; simp
theorem map_id_sc (xs : List V) : xs.map (Sc.v (α := V)) = xs := List.map_id xs
theorem dropSc {o : Option HO} {xs : List V} (h : o = some (.lst (xs.map (Sc.v (α := V))))) : o = some (.lst xs) := by rw [h, map_id_sc]
/-- a text of one sign -/
def oneS (s : Str) : Option Nat := match s.cps.toList with
  | [c] => some c
  | _ => none
theorem oneS_eq {s : Str} {c : Nat} (h : oneS s = some c) : s = ⟨#[c]⟩ := by
  unfold oneS at h
  split at h
  · rename_i c' e
    cases h
    have : s.cps = #[c] := by
      have := congrArg List.toArray e
      simpa using this
    cases s
    simp_all
  · cases h
theorem anyP {xs : List V} : xs = xs.map id := (List.map_id _).symm
/-- a def with written defaults, all of them taken -/
def OkD (P : Program) (w : World) (K : PySem.W.Frag) (mg : Str → Option Value) (base : Heap) (CX : CXT) (k : Nat) (f : Addr) (ps : List Str) (dvs : List V) (sp : Sp) : Prop :=
  ∃ fd ds, FnOk P w K mg base CX k f fd ps sp ∧ Vals dvs ds ∧ Binds K fd ps ds ∧ PySem.W.keepIn K (.ref f) = true
class NN (α : Type) [Imm α] : Prop where
  nn : ∀ (H : Hp) (x : α), ¬ Imm.at_ H .non x
instance {α β : Type} [Imm α] [Imm β] : NN (α × β) := ⟨fun _ _ ⟨_, _, _, e, _⟩ => by cases e⟩
instance {α β γ : Type} [Imm α] [Imm β] [Imm γ] : NN (T3 α β γ) := ⟨fun _ _ ⟨_, _, _, _, e, _⟩ => by cases e⟩
instance : NN Str := ⟨fun _ _ e => by cases e⟩
theorem opt_iffG {α : Type} [Imm α] [NN α] {H : Hp} {v : V} {o : Option α} (h : Imm.at_ H v o) : v = .non ↔ o = none := by
  cases o with
  | none => exact ⟨fun _ => rfl, fun _ => h⟩
  | some x => exact ⟨fun e => absurd (show Imm.at_ H .non x from e ▸ h) (NN.nn H x), fun e => by cases e⟩
theorem opt_decG {α : Type} [Imm α] [NN α] [DecidableEq α] {H : Hp} {v : V} {o : Option α} (h : Imm.at_ H v o) : V.bl (decide (v = .non)) = V.bl (decide (o = none)) := congrArg V.bl (decide_eq_decide.mpr (opt_iffG h))
theorem opt_decGN {α : Type} [Imm α] [NN α] [DecidableEq α] {H : Hp} {v : V} {o : Option α} (h : Imm.at_ H v o) : V.bl (!decide (v = .non)) = V.bl (decide (o ≠ none)) := by
  have e := opt_iffG h
  by_cases c : o = none
  · rw [decide_eq_false (show ¬ (o ≠ none) from fun z => z c), decide_eq_true (e.mpr c)]; rfl
  · rw [decide_eq_true (show o ≠ none from c), decide_eq_false (fun z => c (e.mp z))]; rfl
theorem ct_use {S0 : List Addr} {H0 H : Hp} {L : List As} {σ : L2.St} {c : TT} {b : Bool} {Q : Bool → Hp → Prop} (hs : Sep S0 H0 H L) (e : EvT S0 H0 L c σ b) (q : ∀ H', Sep S0 H0 H' L → Q b H') : c σ H Q := e H hs _ q
/-! ### list(range), sorted -/
instance (a b : Int) : Decidable (RgOk a b) := by unfold RgOk; infer_instance
theorem imms_rg {H : Hp} (a b : Int) : Imms H (rgV a b) (rangeL a (Int.toNat (b - a))) := by
  have e : rgV a b = (rangeL a (Int.toNat (b - a))).map Sc.v := by
    unfold rgV rangeL
    rw [List.map_map]
    rfl
  rw [e]; exact Imms.ofSc _
def sortI (xs : List Int) : List Int := xs.mergeSort (fun a b => decide (a ≤ b))
theorem perm_sorted : ∀ {xs ys : List Int}, xs.Perm ys → xs.Pairwise (· ≤ ·) → ys.Pairwise (· ≤ ·) → xs = ys
  | [], ys, p, _, _ => (List.nil_perm.mp p).symm
  | x :: r, [], p, _, _ => absurd (List.perm_nil.mp p) (by simp)
  | x :: r, y :: q, p, h1, h2 => by
    obtain ⟨a1, a2⟩ := List.pairwise_cons.mp h1
    obtain ⟨b1, b2⟩ := List.pairwise_cons.mp h2
    have e : x = y := by
      have m1 := p.mem_iff.mp (List.mem_cons_self (a := x) (l := r))
      have m2 := p.mem_iff.mpr (List.mem_cons_self (a := y) (l := q))
      rcases List.mem_cons.mp m1 with z | z
      · exact z
      · rcases List.mem_cons.mp m2 with z2 | z2
        · exact z2.symm
        · have := b1 x z; have := a1 y z2; omega
    subst e
    rw [perm_sorted (List.perm_cons _ |>.mp p) a2 b2]
theorem sortI_perm (xs : List Int) : (sortI xs).Perm xs := List.mergeSort_perm _ _
theorem sortI_eq {xs ns : List Int} (p : ns.Perm xs) (h : ns.Pairwise (· ≤ ·)) : sortI xs = ns := by
  refine perm_sorted ((sortI_perm xs).trans p.symm) ?_ h
  have s := List.pairwise_mergeSort (le := fun a b : Int => decide (a ≤ b)) (fun a b c h1 h2 => by simp at *; omega) (fun a b => by simp; omega) xs
  exact s.imp fun h => of_decide_eq_true h
/-! ### a truth whose first part changes what is owned -/
def tK (v : V) : TE := fun _ H Q => Q v H
theorem evB_k {S0 : List Addr} {H0 : Hp} {L : List As} {σ : L2.St} {c b : Bool} (h : some c = some b) : EvB S0 H0 L (tK (.bl c)) σ b := fun H hs Q q => by
  obtain rfl := Option.some.inj h
  exact q H hs
section
variable {ta tb tc : TE} {σ : L2.St} {H : Hp} {Q : VK}
theorem first_a (h : ta σ H fun v H1 => tAndV (tK v) tb σ H1 Q) : tAndV ta tb σ H Q := h
theorem first_o (h : ta σ H fun v H1 => tOrV (tK v) tb σ H1 Q) : tOrV ta tb σ H Q := h
theorem first_oa (h : ta σ H fun v H1 => tOrV (tAndV (tK v) tb) tc σ H1 Q) : tOrV (tAndV ta tb) tc σ H Q := h
theorem first_ao (h : ta σ H fun v H1 => tAndV (tOrV (tK v) tb) tc σ H1 Q) : tAndV (tOrV ta tb) tc σ H Q := h
end


/-! ### texts -/
abbrev strI (i : Int) : Str := (toString i : String)
/-- the signs of a text -/
def sgn (x : Str) : List Str := x.cps.toList.map fun c => ⟨#[c]⟩
theorem sgn_len (x : Str) : (sgn x).length = x.cps.size := by unfold sgn; rw [List.length_map, Array.length_toList]
theorem lc_str {z : Str} {g : TG} {tt : TT} {te : TE} {vs : List Nat} {σ : L2.St} {H1 : Hp} {D : Addr} {Qd : Hp → Prop} (Pv : Nat → Hp → Prop) (h0 : Pv 0 (upd H1 D (.lst [])))
    (hs : ∀ i c H, (sgn z)[i]? = some c → Pv i H → g (.str c) (wipe σ vs) H fun σ2 H2 => wipe σ2 vs = wipe σ vs ∧ tt σ2 H2 fun b H3 =>
      if b = true then te σ2 H3 fun y H4 => ∃ acc, H4 D = some (.lst acc) ∧ acc.length < sizeLine ∧ Pv (i + 1) (upd H4 D (.lst (acc ++ [y]))) else Pv (i + 1) H3) (hd : ∀ H, Pv (sgn z).length H → Qd H) :
    ∃ W : Nat → Nat → Hp → Prop, (∃ m, W 0 m (upd H1 D (.lst []))) ∧ ∀ i m H, W i m H →
      ((Its z).stop i H ∧ Qd H) ∨ ((Its z).go i H ∧ ∃ Nx : Hp → Prop, (∀ H', Nx H' → ∃ m', m' < m ∧ W (i + 1) m' H') ∧ ∀ x H', (Its z).yld i H x H' → g x (wipe σ vs) H' fun σ2 H2 => wipe σ2 vs = wipe σ vs ∧ tt σ2 H2 fun b H3 =>
        if b = true then te σ2 H3 fun y H4 => ∃ acc, H4 D = some (.lst acc) ∧ acc.length < sizeLine ∧ Nx (upd H4 D (.lst (acc ++ [y]))) else Nx H3) := by
  have len := sgn_len z
  refine ⟨fun i m H => m = z.cps.size - i ∧ i ≤ z.cps.size ∧ Pv i H, ⟨z.cps.size, by simp, Nat.zero_le _, h0⟩, ?_⟩
  rintro i m H ⟨rfl, hi, p⟩
  by_cases hlt : i < z.cps.size
  · refine .inr ⟨hlt, Pv (i + 1), fun H' p' => ⟨z.cps.size - (i + 1), by omega, rfl, hlt, p'⟩, fun x H' y => ?_⟩
    obtain ⟨e, c, hc, y⟩ := y
    subst e y
    refine hs i _ _ ?_ p
    unfold sgn
    rw [List.getElem?_map, Array.getElem?_toList, hc]; rfl
  · refine .inl ⟨show z.cps.size ≤ i by omega, hd _ ?_⟩
    rw [len, show z.cps.size = i by omega]; exact p
theorem oneS_sgn {x c : Str} {i : Nat} (h : (sgn x)[i]? = some c) : ∃ k, oneS c = some k := by
  unfold sgn at h
  rw [List.getElem?_map] at h
  obtain ⟨k, _, rfl⟩ := Option.map_eq_some_iff.mp h
  exact ⟨k, rfl⟩
theorem flat_strs (xs : List Str) : (xs.map Sc.v).all flatV = true := by
  induction xs with
  | nil => rfl
  | cons x r ih => rw [List.map_cons, List.all_cons, ih]; rfl
/-- the place of a text in a list -/
def idxS : List Str → Str → Option Nat
  | [], _ => none
  | y :: r, x => if y = x then some 0 else (idxS r x).map (· + 1)
theorem eqV_str {a b : Str} : eqV (.str a) (.str b) = decide (a = b) := by unfold eqV; rfl
theorem idxS_at : ∀ {l : List Str} {x : Str} {j : Nat}, idxS l x = some j → (l.map Sc.v)[j]? = some (V.str x) ∧ eqV (.str x) (.str x) = true ∧ ∀ (m : Nat) (z : V), m < j → (l.map Sc.v)[m]? = some z → eqV z (.str x) = false
  | [], _, _, h => by cases h
  | y :: r, x, j, h => by
    have e0 : eqV (.str x) (.str x) = true := by rw [eqV_str]; exact decide_eq_true rfl
    unfold idxS at h
    by_cases c : y = x
    · rw [if_pos c] at h
      have h := Option.some.inj h
      subst h c
      exact ⟨rfl, e0, fun m z hm => absurd hm (Nat.not_lt_zero _)⟩
    · rw [if_neg c] at h
      obtain ⟨k, hk, rfl⟩ := Option.map_eq_some_iff.mp h
      obtain ⟨h1, _, h3⟩ := idxS_at hk
      refine ⟨h1, e0, fun m z hm hz => ?_⟩
      cases m with
      | zero =>
        have hz : some (V.str y) = some z := hz
        rw [← Option.some.inj hz, eqV_str]
        exact decide_eq_false c
      | succ m => exact h3 m z (by omega) hz
/-! ### dicts of texts and whole numbers -/
def strK (l : List (Str × Int)) : List (Key × V) := l.map fun p => (Sum.inr p.1, V.int p.2)
theorem strK_len (l : List (Str × Int)) : (strK l).length = l.length := by unfold strK; rw [List.length_map]
def lookT : List (Str × Int) → Str → Option Int
  | [], _ => none
  | (x, v) :: r, s => if x = s then some v else lookT r s
theorem valV_strK : ∀ (l : List (Str × Int)) (s : Str), valV (strK l) (Sum.inr s : Key) = (lookT l s).map V.int
  | [], _ => rfl
  | (x, v) :: r, s => by
    unfold lookT
    by_cases e : x = s
    · rw [if_pos e]
      exact valV_pos (p := ((Sum.inr x : Key), V.int v)) (by rw [e])
    · rw [if_neg e, ← valV_strK r s]
      exact valV_neg (p := ((Sum.inr x : Key), V.int v)) (fun z => e (Sum.inr.inj z))
theorem lookT_valV {l : List (Str × Int)} {s : Str} {v : Int} (h : lookT l s = some v) : valV (strK l) (Sum.inr s : Key) = some (.int v) := by rw [valV_strK, h]; rfl
def putT (l : List (Str × Int)) (k : Str) (v : Int) : List (Str × Int) :=
  if (l.any fun p => decide (p.1 = k)) = true then l.map (fun p => if p.1 = k then (k, v) else p) else l ++ [(k, v)]
theorem strK_put (l : List (Str × Int)) (k : Str) (v : Int) : putK (strK l) (Sum.inr k : Key) (.int v) = strK (putT l k v) := by
  have e : ((strK l).any fun kv => decide (kv.1 = (Sum.inr k : Key))) = (l.any fun p => decide (p.1 = k)) := by
    unfold strK
    rw [List.any_map]
    congr 1
    funext p
    exact decide_eq_decide.mpr ⟨fun h => Sum.inr.inj h, fun h => congrArg Sum.inr h⟩
  unfold putK putT
  rw [e]
  by_cases c : (l.any fun p => decide (p.1 = k)) = true
  · rw [if_pos c, if_pos c]
    unfold strK
    rw [List.map_map, List.map_map]
    congr 1
    funext p
    show (if (Sum.inr p.1 : Key) = Sum.inr k then _ else _) = ((Sum.inr (if p.1 = k then (k, v) else p).1 : Key), V.int (if p.1 = k then (k, v) else p).2)
    by_cases h : p.1 = k
    · rw [if_pos (congrArg Sum.inr h), if_pos h]
      show ((Sum.inr p.1 : Key), V.int v) = (Sum.inr k, V.int v)
      rw [h]
    · rw [if_neg (fun z => h (Sum.inr.inj z)), if_neg h]
  · rw [if_neg c, if_neg c]
    unfold strK
    rw [List.map_append]; rfl
theorem Sep.putDT {S0 : List Addr} {H0 H : Hp} {L : List As} (h : Sep S0 H0 H L) (i : Nat) {p : Addr} {l : List (Str × Int)} (e : nth L i = some (aC p (.dK (strK l)))) (k : Str) (v : Int) :
    Sep S0 H0 (upd H p (.dK (putK (strK l) (Sum.inr k : Key) (.int v)))) (setN L i [aC p (.dK (strK (putT l k v)))]) := by
  rw [strK_put]; exact h.putC i e trivial _
theorem neLD_dec {xs ys : List Int} {ks : List (Str × Int)} : V.bl (!(decide (xs = ys) && decide ((strK ks).length = 0))) = V.bl (decide (¬ (xs = ys ∧ ks = []))) := by
  rw [strK_len, ← Bool.decide_and, ← decide_not]
  refine congrArg V.bl (decide_eq_decide.mpr ?_)
  rw [List.length_eq_zero_iff]
theorem flat_str (xs : List Str) : (xs.map Sc.v).all flatV = true := flat_strs xs

/-! ### own rule: (a list, a dict) != (a list, a dict) -/
section
open PySem PySem.Spec PyProof.Rows PySem.SeqAt
open PySem.AutoSeq1 (wpAny_loadPart')
variable {prog : Program} {w : World}
theorem tup2_neIn (l b : Addr) (x1 x2 y1 y2 : Value) (n n2 : Nat) (dd dd2 : Option Addr) (sl sl2 : Array (Option Value)) (e1 e2 : Bool) :
    MeetsIn prog w (Builtin.«tuple.__ne__» ⟨[.ref l, .ref b], []⟩)
      (fun A R s => s.heap.get? l = some { cls := .type "tuple", dict := dd, data := .seq #[x1, x2] n, slots := sl } ∧ s.heap.get? b = some { cls := .type "tuple", dict := dd2, data := .seq #[y1, y2] n2, slots := sl2 } ∧
        EqP prog w A.in1 s x1 y1 e1 ∧ EqP prog w A.in1 s x2 y2 e2 ∧ R (.ok (.ret (.bool (!(e1 && e2))))) s) :=
  .of_wp fun A R s h => by
    obtain ⟨hp, g, d, tk, os⟩ := s
    obtain ⟨hl, hb, h1, h2, h⟩ := h
    have f2 := AutoSeq1.sub_tuple_tuple
    wp_walk using wpAny_loadPart' hl, wpAny_loadPart' hb, wpAny_forIn_list _ (fun rest b s' => b.1 = none ∧ s' = ⟨hp, g, d, tk, os⟩ ∧
      (rest = [(x1, y1), (x2, y2)] ∨ rest = [(x2, y2)] ∧ e1 = true ∨ rest = [] ∧ e1 = true ∧ e2 = true)) _
    case turn =>
      rintro ⟨y, x⟩ rest c s' ⟨hc, rfl, hz⟩
      rcases hz with hz | ⟨hz, t1⟩ | ⟨hz, _⟩
      · injection hz with ha hr
        obtain ⟨rfl, rfl⟩ := Prod.mk.inj ha
        refine wpAny_bind (h1 _ _ ?_)
        cases e1 with
        | true => wp_walk; exact ⟨rfl, rfl, .inr (.inl ⟨hr, rfl⟩)⟩
        | false => wp_walk; exact ⟨_, rfl, h⟩
      · injection hz with ha hr
        obtain ⟨rfl, rfl⟩ := Prod.mk.inj ha
        refine wpAny_bind (h2 _ _ ?_)
        cases e2 with
        | true => wp_walk; exact ⟨rfl, rfl, .inr (.inr ⟨hr, t1, rfl⟩)⟩
        | false => wp_walk; exact ⟨_, rfl, by rw [t1] at h; exact h⟩
      · cases hz
    case fin =>
      rintro ⟨c1, c2⟩ s' ⟨hc, rfl, hz⟩
      simp only at hc
      subst hc
      rcases hz with hz | ⟨hz, _⟩ | ⟨_, t1, t2⟩
      · cases hz
      · cases hz
      · wp_walk
        refine ⟨_, rfl, ?_⟩
        rw [t1, t2] at h
        simpa [Builtin.Tuple.tupleCompareSizes, bne] using h
    case h => exact ⟨rfl, rfl, .inl rfl⟩
theorem rcNe_tup2 {A : Around} {s : Shared} {E Q : Value → Shared → Prop} {l b : Addr} {x1 x2 y1 y2 : Value} {e1 e2 : Bool} (hl : s.heap.IsTuple l #[x1, x2]) (hb : s.heap.IsTuple b #[y1, y2]) (hu : A.units < cLine)
    (h1 : EqP prog w A.in1 s x1 y1 e1) (h2 : EqP prog w A.in1 s x2 y2 e2) (h : Q (.bool (!(e1 && e2))) s) : wpAny (model prog w) A (richCompare .NotEq (.ref l) (.ref b)) Q E s := by
  obtain ⟨⟨cls, dd, data, sl⟩, ho, hc, n, hd⟩ := id hl
  obtain ⟨⟨cls2, dd2, data2, sl2⟩, ho2, hc2, n2, hd2⟩ := id hb
  simp only at hc hd hc2 hd2
  subst hc hd hc2 hd2
  have ta : s.TypeIs (.ref l) "tuple" := ⟨_, ho, rfl⟩
  have tb : s.TypeIs (.ref b) "tuple" := ⟨_, ho2, rfl⟩
  exact wpAny_richCompare_same_room (op := .NotEq) ta tb F.slot_tuple_ne (call_meetsIn F.slot_tuple_ne ta F.entry_tuple_ne (F.args_tuple_ne_2 _ _) (tup2_neIn l b x1 x2 y1 y2 n n2 dd dd2 sl sl2 e1 e2)
    ⟨ho, ho2, h1, h2, ⟨(fun x => nomatch x), h⟩⟩) hu
end
def rNeLD (K : PySem.W.Frag) : R2 := fun x y H Q => ∃ (a b l m d e : Addr) (xs ys : List Int) (ks : List (Key × V)), x = .ref a ∧ y = .ref b ∧ SqT K H a [.ref l, .ref d] ∧ SqT K H b [.ref m, .ref e] ∧ d ≠ e ∧
  SqL K H l (xs.map V.int) ∧ SqL K H m (ys.map V.int) ∧ H d = some (.dK ks) ∧ H e = some (.dK []) ∧ Q (.bl (!(decide (xs = ys) && decide (ks.length = 0)))) H
theorem dep_ints (xs : List Int) : (PyData.list (xs.map PyData.int)).depth ≤ 2 := by
  have h := depth_all (ds := xs.map PyData.int) (n := 1) fun d hd => by
    obtain ⟨i, _, rfl⟩ := List.mem_map.mp hd
    simp [PyData.depth]
  simp only [PyData.depth]
  omega
theorem two_refs {a b : Addr} : ∀ {us : List Value}, Vals [.ref a, .ref b] us → us = [.ref a, .ref b]
  | _, .cons h1 (.cons h2 .nil) => by cases (show _ = Value.ref a from h1); cases (show _ = Value.ref b from h2); rfl
theorem op_neLD {X : Cx} (hu : X.A.units + 64 < cLine) : OpR X (compareOp .NotEq) (rNeLD X.K) := by
  intro pins s σ H x y v u Q I rx ry h
  obtain ⟨a, b, l, m, d, e, xs, ys, ks, rfl, rfl, ha, hb, hne, hl, hm, hd, he, q⟩ := h
  cases (show v = Value.ref a from rx)
  cases (show u = Value.ref b from ry)
  obtain ⟨us, r1, p1, _⟩ := I.tuple ha
  obtain ⟨ws, r2, p2, _⟩ := I.tuple hb
  obtain rfl := two_refs r1
  obtain rfl := two_refs r2
  obtain ⟨as, ra⟩ := Dp.reads I (.list (xs.map PyData.int)) (.ref l) (.ref l) (dpL hl) rfl
  obtain ⟨bs, rb⟩ := Dp.reads I (.list (ys.map PyData.int)) (.ref m) (.ref m) (dpL hm) rfl
  have dx := dep_ints xs
  have e1 : PySem.SeqAt.EqP X.prog X.w X.A.in1 s (.ref l) (.ref m) (decide (xs = ys)) := by
    rw [← eqv_intL xs ys]
    refine (PySem.SeqAt.eqAt_reads _ _ X.A.in1 s _ _ _ _ ra rb (lay_ints xs) (lay_ints ys) ?_).eqP
    show X.A.units + 1 + _ < cLine
    have : min (PyData.list (xs.map PyData.int)).depth (PyData.list (ys.map PyData.int)).depth ≤ (PyData.list (xs.map PyData.int)).depth := Nat.min_le_left _ _
    omega
  obtain ⟨_, ya, va, qa, da⟩ := (show ObjOk X.prog X.w H s.heap d (.dK ks) from I.hok d _ hd)
  obtain ⟨_, yb, vb, qb, db⟩ := (show ObjOk X.prog X.w H s.heap e (.dK []) from I.hok e _ he)
  have lb : vb.length = 0 := by rw [← qb.length]; rfl
  have la : va.length = ks.length := qa.length.symm
  have e2 : PySem.SeqAt.EqP X.prog X.w X.A.in1 s (.ref d) (.ref e) (decide (ks.length = 0)) := by
    refine PySem.SeqAt.eqP_refs hne fun E Q' h' => ?_
    refine PySem.W.rcP_dicts (knd := mixKind X.prog X.w) (r := true) ya yb da db (by show X.A.units + 1 < cLine; omega) (fun hz => ?_) E Q' ?_
    · have : va = [] := List.length_eq_zero_iff.mp (hz.trans lb)
      rw [this]
      exact .nil
    · have ez : (va.length == vb.length && true) = decide (ks.length = 0) := by
        rw [lb, la, Bool.and_true]
        exact Bool.eq_iff_iff.mpr (by simp)
      rw [ez]; exact h'
  exact rcNe_tup2 p1 p2 (by omega) e1 e2 ⟨.bl _, H, I, rfl, q⟩
theorem op_neLD' {X : Cx} {K : PySem.W.Frag} (hK : X.K = K) (hu : X.A.units + 64 < cLine) : OpR X (compareOp .NotEq) (rNeLD K) := by subst hK; exact op_neLD hu

/-! ### dicts that are alike -/
def sameK (ks ls : List (Key × V)) : Bool := decide (ks.length = ls.length) && ks.all fun p => decide (valV ls p.1 = some p.2) && flatB p.2
theorem sameK_of {ks ls : List (Key × V)} (h : sameK ks ls = true) : ks.length = ls.length ∧ ∀ p ∈ ks, valV ls p.1 = some p.2 ∧ flatB p.2 = true := by
  unfold sameK at h
  obtain ⟨h1, h2⟩ := Bool.and_eq_true_iff.mp h
  refine ⟨of_decide_eq_true h1, fun p hp => ?_⟩
  obtain ⟨h3, h4⟩ := Bool.and_eq_true_iff.mp (List.all_eq_true.mp h2 p hp)
  exact ⟨of_decide_eq_true h3, h4⟩
def rNeDQ : R2 := fun x y H Q => ∃ a b ks ls, x = .ref a ∧ y = .ref b ∧ H a = some (.dK ks) ∧ H b = some (.dK ls) ∧ sameK ks ls = true ∧ Q (.bl false) H
def rEqDQ : R2 := fun x y H Q => ∃ a b ks ls, x = .ref a ∧ y = .ref b ∧ H a = some (.dK ks) ∧ H b = some (.dK ls) ∧ sameK ks ls = true ∧ Q (.bl true) H
theorem op_neDQ {X : Cx} (hu : X.A.units + 64 < cLine) : OpR X (compareOp .NotEq) rNeDQ := by
  intro pins s σ H x y v u Q I rx ry h
  obtain ⟨a, b, ks, ls, e1, e2, ha, hb, g, q⟩ := h
  obtain ⟨g1, g2⟩ := sameK_of g
  exact op_ne_dictA (by omega) pins s σ H x y v u Q I rx ry ⟨a, b, ks, ls, e1, e2, ha, hb, g1, g2, q⟩
theorem op_eqDQ {X : Cx} (hu : X.A.units + 64 < cLine) : OpR X (compareOp .Eq) rEqDQ := by
  intro pins s σ H x y v u Q I rx ry h
  obtain ⟨a, b, ks, ls, e1, e2, ha, hb, g, q⟩ := h
  obtain ⟨g1, g2⟩ := sameK_of g
  exact op_eq_dictA (by omega) pins s σ H x y v u Q I rx ry ⟨a, b, ks, ls, e1, e2, ha, hb, g1, g2, q⟩

def m_row_of (word_ : Int) : Option (Str) :=
  (orO (some (decide ((23 : Int) ≤ (word_ / (1024 : Int))))) (andO ((atI (["mark", "lit", "get", "put", "add", "sub", "and", "xor", "getb", "putb", "tob", "swap", "go", "ifz", "ifn", "call", "ret", "push", "pop", "sleep", "let", "back", "half"] : List Str) (word_ / (1024 : Int))).bind fun x23 => some (decide (x23 ∈ (["mark", "tob", "swap", "ret", "push", "pop", "sleep", "back", "half"] : List Str)))) (some (decide ((0 : Int) < (word_ % (1024 : Int))))))).bind fun b29 =>
  if b29 = true then
    if word_.natAbs.log2 < 1920 then
    if ("word " : Str).length + (strI word_).length < 16000000 then
    some (("word " : Str) ++ (strI word_)) else none else none
  else
    ((atI (["mark", "lit", "get", "put", "add", "sub", "and", "xor", "getb", "putb", "tob", "swap", "go", "ifz", "ifn", "call", "ret", "push", "pop", "sleep", "let", "back", "half"] : List Str) (word_ / (1024 : Int))).bind fun x61 => some (decide (x61 ∈ (["mark", "tob", "swap", "ret", "push", "pop", "sleep", "back", "half"] : List Str)))).bind fun b65 =>
    if b65 = true then
      (atI (["mark", "lit", "get", "put", "add", "sub", "and", "xor", "getb", "putb", "tob", "swap", "go", "ifz", "ifn", "call", "ret", "push", "pop", "sleep", "let", "back", "half"] : List Str) (word_ / (1024 : Int))).bind fun x74 =>
      some x74
    else
      (atI (["mark", "lit", "get", "put", "add", "sub", "and", "xor", "getb", "putb", "tob", "swap", "go", "ifz", "ifn", "call", "ret", "push", "pop", "sleep", "let", "back", "half"] : List Str) (word_ / (1024 : Int))).bind fun x78 =>
      if x78.length + (" " : Str).length < 16000000 then
      if (word_ % (1024 : Int)).natAbs.log2 < 1920 then
      if (x78 ++ (" " : Str)).length + (strI (word_ % (1024 : Int))).length < 16000000 then
      some ((x78 ++ (" " : Str)) ++ (strI (word_ % (1024 : Int)))) else none else none else none
section
variable {P : Program} {w : World} {K : PySem.W.Frag} {mg : Str → Option Value} {base : Heap}
def sp_row_of (K : PySem.W.Frag) : Sp := fun vs H Q E_ => ∃ (word_ : Int) (r_ : Str), vs = [(.int word_)] ∧ (oks H [] ∧ (owns []).Nodup ∧ m_row_of word_ = some r_ ∧ (∀ (H' : Hp) , Sep (owns []) H H' [] → Q (.str r_) H'))
abbrev N_row_of : List Str := ["word", "op", "part"]
theorem sc_row_of : FnScope N_row_of ["word"] (defScope s_row_of) := ⟨rfl, rfl, rfl, by decide +kernel, rfl, by decide +kernel, by decide +kernel⟩
theorem ok_row_of (T : Txt K mg) : Ok P w K mg base CX0 1 (He.fAd K ("row_of", none)) ["word"] (sp_row_of K) := by
  obtain ⟨fd, F⟩ := T.d_row_of
  refine ⟨fd, F.ok sc_row_of (fun vs H Q E h => by obtain ⟨word_, r_, rfl, _⟩ := h; rfl) (fun cdv A_ outer s_ H vs Q E hr h => ?_), F.bindsN (fun _ _ _ _ _ _ us hl => match us, hl with | [_], _ => rfl), F.kp⟩
  obtain ⟨word_, r_, rfl, h⟩ := h
  have hu := hu_of hr
  refine ⟨_, PSs.nox (pss_cons (ps_par (i := 1) (j := 2) (by rfl) sc_row_of.nd rfl rfl (by decide) rfl rfl (pa_cons (pe_op op_fdiv (pv 0) pe_int) (pa_cons (pe_op op_mod (pv 0) pe_int) pa_nil)) (by rfl))
  (pss_cons (ps_if (PW.pt (pw_or (pt_cmpR op_ge (pv 1) (pe_callB call_len_seq (by rfl) T.f_len PySem.boot_len (pa_cons (gr_ (by rfl) T.g_NAMES) pa_nil)) (nomark _)) (pw_or1 (PW.pt (pw_and (pt_cmpR op_in_seq (pe_ix ix_list (gr_ (by rfl) T.g_NAMES) (pv 1) (fun _ _ => rfl)) (gr_ (by rfl) T.g_BARE) (by rfl)) (pw_and1 (pt_cmpR op_gt (pv 2) pe_int (nomark _)))))))) (pss_one (ps_ret (pe_op op_add_str pe_str (pe_callTy call_str_int (by rfl) T.f_str (by decide +kernel) (pa_cons (pv 0) pa_nil))))) pss_nil)
  (pss_cons (ps_if (pt_cmpR op_in_seq (pe_ix ix_list (gr_ (by rfl) T.g_NAMES) (pv 1) (fun _ _ => rfl)) (gr_ (by rfl) T.g_BARE) (by rfl)) (pss_one (ps_ret (pe_ix ix_list (gr_ (by rfl) T.g_NAMES) (pv 1) (fun _ _ => rfl)))) pss_nil)
  (pss_one (ps_ret (pe_op op_add_str (pe_op op_add_str (pe_ix ix_list (gr_ (by rfl) T.g_NAMES) (pv 1) (fun _ _ => rfl)) pe_str) (pe_callTy call_str_int (by rfl) T.f_str (by decide +kernel) (pa_cons (pv 2) pa_nil)))))))), ?_⟩
  obtain ⟨hp1, hp2, hm, q⟩ := h
  have hs := Sep.pre (L := []) ⟨hp1, hp2⟩
  unfold m_row_of at hm
  clear hp1 hp2
  refine ⟨_, rfl, _, _, rfl, rfl, ⟨by decide, by decide⟩, _, rfl, _, _, rfl, rfl, (show (0 : Int) < (1024 : Int) by decide), _, _, rfl, ?_⟩
  obtain ⟨b29, eb29, hm⟩ := bnd hm
  try dsimp only [tNext, gName]
  try with_reducible refine iteF ?_
  refine if_use hs (b := b29) ?_ ?_
  · skip
    refine evT_or eb29 (fun b30 hb31 => ?_) (fun b32 hb33 => ?_)
    · skip
      refine fun H34 hs Q_ hQ35 => ?_
      have hm := hb31
      refine ⟨_, rfl, _, _, rfl, .inl (T.l_NAMES _), ?_⟩
      have e36 : ((([V.str "mark", V.str "lit", V.str "get", V.str "put", V.str "add", V.str "sub", V.str "and", V.str "xor", V.str "getb", V.str "putb", V.str "tob", V.str "swap", V.str "go", V.str "ifz", V.str "ifn", V.str "call", V.str "ret", V.str "push", V.str "pop", V.str "sleep", V.str "let", V.str "back", V.str "half"] : List V).length : Nat) : Int) = 23 := rfl
      rw [e36]
      refine ⟨_, _, rfl, rfl, _, rfl, ?_⟩
      rw [Option.some.inj hm]
      exact hQ35 _ (hs.tl 0)
    · skip
      refine evT_and hb33 (fun b37 hb38 => ?_) (fun b39 hb40 => ?_)
      · skip
        refine fun H41 hs Q_ hQ42 => ?_
        have hm := hb38
        obtain ⟨x43, ex43, hm⟩ := bnd hm
        obtain ⟨u44, hu45, hx46⟩ := (Imms.ofSc (H := H41) (["mark", "lit", "get", "put", "add", "sub", "and", "xor", "getb", "putb", "tob", "swap", "go", "ifz", "ifn", "call", "ret", "push", "pop", "sleep", "let", "back", "half"] : List Str)).ix ex43
        have hx46 : u44 = .str x43 := hx46
        subst hx46
        refine ⟨_, rfl, _, _, _, _, rfl, rfl, (T.l_NAMES _), hu45, _, _, rfl, .inl (T.l_BARE _), rfl, rfl, _, (in_str (xs := ["mark", "tob", "swap", "ret", "push", "pop", "sleep", "back", "half"])), ?_⟩
        rw [Option.some.inj hm]
        exact hQ42 _ (hs.tl 0)
      · skip
        refine fun H47 hs Q_ hQ48 => ?_
        have hm := hb40
        refine ⟨_, rfl, _, _, rfl, rfl, _, rfl, ?_⟩
        rw [Option.some.inj hm]
        exact hQ48 _ (hs.tl 0)
  intro H50 hs
  refine iteBt (fun c49 => ?_) (fun c49 => ?_)
  · replace hm := ift c49 hm
    obtain ⟨g51, hm⟩ := gd hm
    refine ⟨_, rfl, _, rfl, g51, ?_⟩
    obtain ⟨g52, hm⟩ := gd hm
    refine ⟨_, _, rfl, rfl, small_le (Nat.le_of_lt (Nat.lt_trans g52 (by decide))), ?_⟩
    replace hs : Sep (owns []) H H50 [] := hs.tk 0
    obtain rfl := Option.some.inj hm
    exact q H50 hs
  · replace hm := ife c49 hm
    obtain ⟨b65, eb65, hm⟩ := bnd hm
    try dsimp only [tNext, gName]
    try with_reducible refine iteF ?_
    refine if_use hs (b := b65) ?_ ?_
    · skip
      refine fun H66 hs Q_ hQ67 => ?_
      have hm := eb65
      obtain ⟨x68, ex68, hm⟩ := bnd hm
      obtain ⟨u69, hu70, hx71⟩ := (Imms.ofSc (H := H66) (["mark", "lit", "get", "put", "add", "sub", "and", "xor", "getb", "putb", "tob", "swap", "go", "ifz", "ifn", "call", "ret", "push", "pop", "sleep", "let", "back", "half"] : List Str)).ix ex68
      have hx71 : u69 = .str x68 := hx71
      subst hx71
      refine ⟨_, rfl, _, _, _, _, rfl, rfl, (T.l_NAMES _), hu70, _, _, rfl, .inl (T.l_BARE _), rfl, rfl, _, (in_str (xs := ["mark", "tob", "swap", "ret", "push", "pop", "sleep", "back", "half"])), ?_⟩
      rw [Option.some.inj hm]
      exact hQ67 _ (hs.tl 0)
    intro H73 hs
    refine iteBt (fun c72 => ?_) (fun c72 => ?_)
    · replace hm := ift c72 hm
      obtain ⟨x74, ex74, hm⟩ := bnd hm
      obtain ⟨u75, hu76, hx77⟩ := (Imms.ofSc (H := H73) (["mark", "lit", "get", "put", "add", "sub", "and", "xor", "getb", "putb", "tob", "swap", "go", "ifz", "ifn", "call", "ret", "push", "pop", "sleep", "let", "back", "half"] : List Str)).ix ex74
      have hx77 : u75 = .str x74 := hx77
      subst hx77
      refine ⟨_, rfl, _, _, _, _, rfl, rfl, (T.l_NAMES _), hu76, ?_⟩
      replace hs : Sep (owns []) H H73 [] := hs.tk 0
      obtain rfl := Option.some.inj hm
      exact q H73 hs
    · replace hm := ife c72 hm
      obtain ⟨x78, ex78, hm⟩ := bnd hm
      obtain ⟨u79, hu80, hx81⟩ := (Imms.ofSc (H := H73) (["mark", "lit", "get", "put", "add", "sub", "and", "xor", "getb", "putb", "tob", "swap", "go", "ifz", "ifn", "call", "ret", "push", "pop", "sleep", "let", "back", "half"] : List Str)).ix ex78
      have hx81 : u79 = .str x78 := hx81
      subst hx81
      obtain ⟨g82, hm⟩ := gd hm
      obtain ⟨g83, hm⟩ := gd hm
      refine ⟨_, rfl, _, _, _, _, rfl, rfl, (T.l_NAMES _), hu80, _, _, rfl, rfl, small_le (Nat.le_of_lt (Nat.lt_trans g82 (by decide))), _, rfl, _, rfl, g83, ?_⟩
      obtain ⟨g84, hm⟩ := gd hm
      refine ⟨_, _, rfl, rfl, small_le (Nat.le_of_lt (Nat.lt_trans g84 (by decide))), ?_⟩
      replace hs : Sep (owns []) H H73 [] := hs.tk 0
      obtain rfl := Option.some.inj hm
      exact q H73 hs
end
def m_listed_l1  (k15 : Int) (a14 : (List Str)) : Option ((List Str)) :=
  (m_row_of k15).bind fun r25 =>
  snoc a14 r25
def m_listed (image_ : (List Int)) : Option (Str) :=
  (forS (m_listed_l1) image_ []).bind fun a14 =>
  if (a14.map (·.length)).sum + a14.length * ("\n" : Str).length ≤ 16777216 then
  some (Txt.join ("\n" : Str) a14) else none
section
variable {P : Program} {w : World} {K : PySem.W.Frag} {mg : Str → Option Value} {base : Heap}
def sp_listed (K : PySem.W.Frag) : Sp := fun vs H Q E_ => ∃ (pimage_ : Addr) (image_ : (List Int)) (r_ : Str), vs = [.ref pimage_] ∧ (oks H [aL pimage_ image_] ∧ (owns [aL pimage_ image_]).Nodup ∧ m_listed image_ = some r_ ∧ (∀ (H' : Hp) , Sep (owns [aL pimage_ image_]) H H' [aL pimage_ image_] → Q (.str r_) H'))
abbrev N_listed : List Str := ["image", "word"]
theorem sc_listed : FnScope N_listed ["image"] (defScope s_listed) := ⟨rfl, rfl, rfl, by decide +kernel, rfl, by decide +kernel, by decide +kernel⟩
theorem ok_listed (T : Txt K mg) : Ok P w K mg base CX0 2 (He.fAd K ("listed", none)) ["image"] (sp_listed K) := by
  obtain ⟨_, G_row_of, b_row_of, kp_row_of⟩ := ok_row_of (P := P) (w := w) (base := base) T
  obtain ⟨fd, F⟩ := T.d_listed
  refine ⟨fd, F.ok sc_listed (fun vs H Q E h => by obtain ⟨pimage_, image_, r_, rfl, _⟩ := h; rfl) (fun cdv A_ outer s_ H vs Q E hr h => ?_), F.bindsN (fun _ _ _ _ _ _ us hl => match us, hl with | [_], _ => rfl), F.kp⟩
  obtain ⟨pimage_, image_, r_, rfl, h⟩ := h
  have hu := hu_of hr
  refine ⟨_, PSs.nox (pss_one (ps_ret (pe_join pe_str (pe_lc (own := [("word", 1)]) (g := gName 1) (tt := tYes) rfl sc_listed.nd (pi_list (pv 0)) (blkOk_by (own := [("word", 1)]) (N := N_listed) (sc := defScope s_listed) (by decide +kernel)) (fun _ _ _ _ _ => pg_name (i := 1) sc_listed.nd rfl (Or.inl rfl)) (fun _ _ _ _ _ => pts_nil) (fun _ _ _ _ _ => (pe_call G_row_of (hr.mono (by decide)) (by rfl) T.g_row_of kp_row_of b_row_of .nil pass0 (pa_cons (pv 1) pa_nil))))))), ?_⟩
  obtain ⟨hp1, hp2, hm, q⟩ := h
  have hs := Sep.pre (L := [aL pimage_ image_]) ⟨hp1, hp2⟩
  generalize owns [aL pimage_ image_] = S0_ at hs q
  unfold m_listed at hm
  clear hp1 hp2
  obtain ⟨vs8, lv9, hs⟩ := hs.fix 0 rfl
  have hw10 := (hs.wal 0 rfl).1
  obtain ⟨z16, eL17, hm⟩ := bnd hm
  refine ⟨⟨_, rfl⟩, _, rfl, _, rfl, ⟨_, SqL.of hw10⟩, fun p18 n19 => lc_list (K := K) (a := pimage_) (xs := vs8) (fun i20 H21 => ∃ (a14 : (List Str)), forS (m_listed_l1) (image_.drop i20) a14 = some z16 ∧ Sep S0_ H H21 (aL p18 a14 :: [aW pimage_ vs8 image_])) ⟨([] : (List Str)), eL17, hs.newL n19 .nil⟩ (fun i20 H21 _ pz => by obtain ⟨a14, hf, hs⟩ := pz; exact SqL.of (hs.wal 1 rfl).1) ?_ ?_⟩
  · rintro i20 y24 H21 hi22 ⟨a14, hf, hs⟩
    obtain ⟨k15, hx_, hy_⟩ := (hs.wal 1 rfl).2.nthv hi22
    obtain ⟨sN_, hm, hf⟩ := forS_s hx_ hf
    have hy_ : y24 = (.int k15) := hy_
    subst hy_
    unfold m_listed_l1 at hm
    refine ⟨by kernel_rfl, ?_⟩
    obtain ⟨r25, er25, hm⟩ := bnd hm
    refine ⟨_, rfl, k15, r25, rfl, (hs.frontN 0).1, (hs.frontN 0).2, er25, fun H26 hc27 => ?_⟩
    replace hs := hs.callN 0 hc27
    obtain ⟨vs28, hD29, hv30⟩ := hs.lst 0 rfl
    obtain ⟨g31, g32⟩ := snoc_eq hm
    subst g32
    refine ⟨_, hD29, small_ (by have := hv30.length; omega), ?_⟩
    replace hv30 := hv30.snoc (v := (.str r25)) (x := (r25 : Str)) imS
    replace hs : Sep S0_ H H26 [aL p18 a14, aW pimage_ vs8 image_] := hs.tk 2
    exact ⟨_, hf, hs.putL 0 rfl hD29 hv30⟩
  rintro H21 ⟨a14, hf, hs⟩
  have ez_ := forS_e (Nat.le_of_eq lv9.symm) hf
  subst ez_
  replace hs := hs.unfix 1 rfl
  obtain ⟨g33, hm⟩ := gd hm
  have f34 := hs.scs 0 rfl
  refine ⟨_, _, a14, rfl, rfl, .inl (SqL.of f34), g33, ?_⟩
  replace hs : Sep S0_ H H21 [aL pimage_ image_] := (hs.mv 1 rfl).tk 1
  obtain rfl := Option.some.inj hm
  exact q H21 hs
end
def m_is_small_l1  (k41 : Str) (a40 : (List Bool)) : Option ((List Bool)) :=
  (oneS k41).bind fun c50 =>
  snoc a40 (decide (c50 ∈ (Str.cps ("abcdefghijklmnopqrstuvwxyz" : Str)).toList))
def m_is_small (text_ : Str) : Option (Bool) :=
  (andO (if text_.length < 16000000 then some (decide (((1 : Int) ≤ (text_.length : Int)) ∧ ((text_.length : Int) ≤ (8 : Int)))) else none) ((forS (m_is_small_l1) (sgn text_) []).bind fun a12 => some (decide ((a12.all id) = true)))).bind fun b29 =>
  some b29
section
variable {P : Program} {w : World} {K : PySem.W.Frag} {mg : Str → Option Value} {base : Heap}
def sp_is_small (K : PySem.W.Frag) : Sp := fun vs H Q E_ => ∃ (text_ : Str) (r_ : Bool), vs = [(.str text_)] ∧ (oks H [] ∧ (owns []).Nodup ∧ m_is_small text_ = some r_ ∧ (∀ (H' : Hp) , Sep (owns []) H H' [] → Q (.bl r_) H'))
abbrev N_is_small : List Str := ["text", "sign"]
theorem sc_is_small : FnScope N_is_small ["text"] (defScope s_is_small) := ⟨rfl, rfl, rfl, by decide +kernel, rfl, by decide +kernel, by decide +kernel⟩
theorem ok_is_small (T : Txt K mg) : Ok P w K mg base CX0 1 (He.fAd K ("is_small", none)) ["text"] (sp_is_small K) := by
  obtain ⟨fd, F⟩ := T.d_is_small
  refine ⟨fd, F.ok sc_is_small (fun vs H Q E h => by obtain ⟨text_, r_, rfl, _⟩ := h; rfl) (fun cdv A_ outer s_ H vs Q E hr h => ?_), F.bindsN (fun _ _ _ _ _ _ us hl => match us, hl with | [_], _ => rfl), F.kp⟩
  obtain ⟨text_, r_, rfl, h⟩ := h
  have hu := hu_of hr
  refine ⟨_, PSs.nox (pss_one (ps_ret (pe_and (pe_chain op_le op_le pe_int (pe_callB call_len_str (by rfl) T.f_len PySem.boot_len (pa_cons (pv 0) pa_nil)) pe_int) (pe_one (pe_callB (cr_all rfl) (by rfl) T.f_all (by decide +kernel) (pa_cons (pe_lc (own := [("sign", 1)]) (g := gName 1) (tt := tYes) rfl sc_is_small.nd (pi_str (pv 0)) (blkOk_by (own := [("sign", 1)]) (N := N_is_small) (sc := defScope s_is_small) (by decide +kernel)) (fun _ _ _ _ _ => pg_name (i := 1) sc_is_small.nd rfl (Or.inl rfl)) (fun _ _ _ _ _ => pts_nil) (fun _ _ _ _ _ => (pe_cmpR op_in_sign (pv 1) (gs_ (by rfl) T.c_SMALL) rfl))) pa_nil)))))), ?_⟩
  obtain ⟨hp1, hp2, hm, q⟩ := h
  have hs := Sep.pre (L := []) ⟨hp1, hp2⟩
  unfold m_is_small at hm
  clear hp1 hp2
  obtain ⟨b29, eb29, hm⟩ := bnd hm
  try dsimp only [tNext, gName, tRet, tAsg, tYes]
  try with_reducible refine iteF ?_
  try with_reducible refine iteT ?_
  refine andV_use hs (b := b29) ?_ ?_
  · skip
    refine evB_and eb29 (fun b30 hb31 => ?_) (fun b32 hb33 => ?_)
    · skip
      refine fun H34 hs Q_ hQ35 => ?_
      have hm := hb31
      obtain ⟨g36, hm⟩ := gd hm
      refine ⟨_, rfl, _, rfl, small_le (Nat.le_of_lt (Nat.lt_trans g36 (by decide))), ?_⟩
      refine ⟨_, _, rfl, rfl, _, rfl, ?_⟩
      first | refine if_chainT (P := (1 : Int) ≤ (text_.length : Int)) (R := (text_.length : Int) ≤ (8 : Int)) ?_ (fun _ hq_ => ⟨_, _, rfl, rfl, hq_⟩) | refine if_chain (P := (1 : Int) ≤ (text_.length : Int)) (R := (text_.length : Int) ≤ (8 : Int)) ?_ (fun _ hq_ => ⟨_, _, rfl, rfl, hq_⟩)
      refine bl_use (P := True) ((rfl).trans (dbt hm)) ?_
      exact hQ35 _ (hs.tl 0)
    · skip
      refine fun H37 hs Q_ hQ38 => ?_
      have hm := hb33
      obtain ⟨z42, eL43, hm⟩ := bnd hm
      refine ⟨_, rfl, _, rfl, fun p44 n45 => lc_str (z := text_) (fun i46 H47 => ∃ (a40 : (List Bool)), forS (m_is_small_l1) ((sgn text_).drop i46) a40 = some z42 ∧ Sep (owns []) H H47 (aL p44 a40 :: [])) ⟨([] : (List Bool)), eL43, hs.newL n45 .nil⟩ ?_ ?_⟩
      · rintro i46 k41 H47 hi48 ⟨a40, hf, hs⟩
        obtain ⟨sN_, hm, hf⟩ := forS_s hi48 hf
        unfold m_is_small_l1 at hm
        refine ⟨by kernel_rfl, ?_⟩
        obtain ⟨c50, ec50, hm⟩ := bnd hm
        obtain ⟨vs51, hD52, hv53⟩ := hs.lst 0 rfl
        obtain ⟨g54, g55⟩ := snoc_eq hm
        subst g55
        refine ⟨_, rfl, _, _, (congrArg V.str (oneS_eq ec50)), rfl, _, hD52, small_ (by have := hv53.length; omega), ?_⟩
        replace hv53 := hv53.snoc (v := (.bl (decide (c50 ∈ (Str.cps ("abcdefghijklmnopqrstuvwxyz" : Str)).toList)))) (x := (decide (c50 ∈ (Str.cps ("abcdefghijklmnopqrstuvwxyz" : Str)).toList) : Bool)) imB
        replace hs : Sep (owns []) H H47 [aL p44 a40] := hs.tk 1
        exact ⟨_, hf, hs.putL 0 rfl hD52 hv53⟩
      rintro H47 ⟨a40, hf, hs⟩
      have ez_ := forS_e (Nat.le_of_eq rfl) hf
      subst ez_
      have f56 := hs.scs 0 rfl
      refine ⟨_, a40, rfl, SqL.of f56, ?_⟩
      refine bl_use (P := True) ((dB).trans (dbt hm)) ?_
      exact hQ38 _ (hs.tl 1)
  intro H57 hs
  replace hs : Sep (owns []) H H57 [] := hs.tk 0
  obtain rfl := Option.some.inj hm
  exact q H57 hs
end
def m_number_in_l1  (k8 : Str) (a7 : (List Bool)) : Option ((List Bool)) :=
  (oneS k8).bind fun c17 =>
  snoc a7 (decide (c17 ∈ (Str.cps ("0123456789" : Str)).toList))
def m_number_in (text_ : Str) : Option ((Option Int)) :=
  if text_ = ("" : Str) then
    some none
  else
    if text_.length < 16000000 then
    if (5 : Int) < (text_.length : Int) then
      some none
    else
      (forS (m_number_in_l1) (sgn text_) []).bind fun a7 =>
      if (a7.all id) = true then
        (atI (Str.cps text_).toList (0 : Int)).bind fun c25 =>
        if text_.length < 16000000 then
        if (⟨#[c25]⟩ : Str) = ("0" : Str) then
          if ¬ text_ = ("0" : Str) then
            some none
          else
            (PySem.intText? text_).bind fun y30 =>
            if text_.length ≤ 640 then
            some (some y30) else none
        else
          (PySem.intText? text_).bind fun y33 =>
          if text_.length ≤ 640 then
          some (some y33) else none else none
      else
        some none else none
section
variable {P : Program} {w : World} {K : PySem.W.Frag} {mg : Str → Option Value} {base : Heap}
def sp_number_in (K : PySem.W.Frag) : Sp := fun vs H Q E_ => ∃ (text_ : Str) (r_ : (Option Int)), vs = [(.str text_)] ∧ (oks H [] ∧ (owns []).Nodup ∧ m_number_in text_ = some r_ ∧ (∀ (H' : Hp) (vz : V), Sep (owns []) H H' [aV vz r_] → Q vz H'))
abbrev N_number_in : List Str := ["text", "sign"]
theorem sc_number_in : FnScope N_number_in ["text"] (defScope s_number_in) := ⟨rfl, rfl, rfl, by decide +kernel, rfl, by decide +kernel, by decide +kernel⟩
theorem ok_number_in (T : Txt K mg) : Ok P w K mg base CX0 1 (He.fAd K ("number_in", none)) ["text"] (sp_number_in K) := by
  obtain ⟨fd, F⟩ := T.d_number_in
  refine ⟨fd, F.ok sc_number_in (fun vs H Q E h => by obtain ⟨text_, r_, rfl, _⟩ := h; rfl) (fun cdv A_ outer s_ H vs Q E hr h => ?_), F.bindsN (fun _ _ _ _ _ _ us hl => match us, hl with | [_], _ => rfl), F.kp⟩
  obtain ⟨text_, r_, rfl, h⟩ := h
  have hu := hu_of hr
  refine ⟨_, PSs.nox (pss_cons (ps_if (PW.pt (pw_or (pt_cmpR op_eq (pv 0) pe_str (nomark _)) (pw_or (pt_cmpR op_gt (pe_callB call_len_str (by rfl) T.f_len PySem.boot_len (pa_cons (pv 0) pa_nil)) pe_int (nomark _)) (pw_or (pt_not (pt_val (pe_callB (cr_all rfl) (by rfl) T.f_all (by decide +kernel) (pa_cons (pe_lc (own := [("sign", 1)]) (g := gName 1) (tt := tYes) rfl sc_number_in.nd (pi_str (pv 0)) (blkOk_by (own := [("sign", 1)]) (N := N_number_in) (sc := defScope s_number_in) (by decide +kernel)) (fun _ _ _ _ _ => pg_name (i := 1) sc_number_in.nd rfl (Or.inl rfl)) (fun _ _ _ _ _ => pts_nil) (fun _ _ _ _ _ => (pe_cmpR op_in_sign (pv 1) (gs_ (by rfl) T.c_FIGURES) rfl))) pa_nil)))) (pw_or1 (PW.pt (pw_and (pt_cmpR op_eq (pe_ix ix_str (pv 0) pe_int (fun _ _ => rfl)) pe_str (nomark _)) (pw_and1 (pt_cmpR op_ne (pv 0) pe_str (nomark _)))))))))) (pss_one (ps_ret pe_non)) pss_nil)
  (pss_one (ps_ret (pe_callTy call_int_str (by rfl) T.f_int (by decide +kernel) (pa_cons (pv 0) pa_nil))))), ?_⟩
  obtain ⟨hp1, hp2, hm, q⟩ := h
  have hs := Sep.pre (L := []) ⟨hp1, hp2⟩
  unfold m_number_in at hm
  clear hp1 hp2
  refine ⟨_, rfl, rfl, _, dS, ?_⟩
  refine iteD (fun c1 => ?_) (fun c1 => ?_)
  · replace hm := ift c1 hm
    replace hs := hs.addV (v := .non) (x := (none : (Option Int))) imN
    replace hs : Sep (owns []) H H [aV .non (none : (Option Int))] := hs.tk 1
    obtain rfl := Option.some.inj hm
    exact q H .non hs
  · replace hm := ife c1 hm
    obtain ⟨g3, hm⟩ := gd hm
    refine ⟨_, rfl, _, rfl, small_le (Nat.le_of_lt (Nat.lt_trans g3 (by decide))), ?_⟩
    refine ⟨_, _, rfl, rfl, _, rfl, ?_⟩
    refine iteD (fun c4 => ?_) (fun c4 => ?_)
    · replace hm := ift c4 hm
      replace hs := hs.addV (v := .non) (x := (none : (Option Int))) imN
      replace hs : Sep (owns []) H H [aV .non (none : (Option Int))] := hs.tk 1
      obtain rfl := Option.some.inj hm
      exact q H .non hs
    · replace hm := ife c4 hm
      obtain ⟨z9, eL10, hm⟩ := bnd hm
      refine ⟨_, rfl, _, rfl, fun p11 n12 => lc_str (z := text_) (fun i13 H14 => ∃ (a7 : (List Bool)), forS (m_number_in_l1) ((sgn text_).drop i13) a7 = some z9 ∧ Sep (owns []) H H14 (aL p11 a7 :: [])) ⟨([] : (List Bool)), eL10, hs.newL n12 .nil⟩ ?_ ?_⟩
      · rintro i13 k8 H14 hi15 ⟨a7, hf, hs⟩
        obtain ⟨sN_, hm, hf⟩ := forS_s hi15 hf
        unfold m_number_in_l1 at hm
        refine ⟨by kernel_rfl, ?_⟩
        obtain ⟨c17, ec17, hm⟩ := bnd hm
        obtain ⟨vs18, hD19, hv20⟩ := hs.lst 0 rfl
        obtain ⟨g21, g22⟩ := snoc_eq hm
        subst g22
        refine ⟨_, rfl, _, _, (congrArg V.str (oneS_eq ec17)), rfl, _, hD19, small_ (by have := hv20.length; omega), ?_⟩
        replace hv20 := hv20.snoc (v := (.bl (decide (c17 ∈ (Str.cps ("0123456789" : Str)).toList)))) (x := (decide (c17 ∈ (Str.cps ("0123456789" : Str)).toList) : Bool)) imB
        replace hs : Sep (owns []) H H14 [aL p11 a7] := hs.tk 1
        exact ⟨_, hf, hs.putL 0 rfl hD19 hv20⟩
      rintro H14 ⟨a7, hf, hs⟩
      have ez_ := forS_e (Nat.le_of_eq rfl) hf
      subst ez_
      have f23 := hs.scs 0 rfl
      refine ⟨_, a7, rfl, SqL.of f23, ?_⟩
      refine ⟨_, dB, ?_⟩
      refine iteNot (fun c24 => ?_) (fun c24 => ?_)
      · replace hm := ift c24 hm
        obtain ⟨c25, ec25, hm⟩ := bnd hm
        obtain ⟨g26, hm⟩ := gd hm
        refine ⟨_, rfl, _, _, _, rfl, rfl, small_le (Nat.le_of_lt (Nat.lt_trans g26 (by decide))), ec25, rfl, _, dS, ?_⟩
        refine iteD (fun c27 => ?_) (fun c27 => ?_)
        · replace hm := ift c27 hm
          refine ⟨_, rfl, rfl, _, dnS, ?_⟩
          refine iteD (fun c28 => ?_) (fun c28 => ?_)
          · replace hm := ift c28 hm
            replace hs := hs.addV (v := .non) (x := (none : (Option Int))) imN
            replace hs : Sep (owns []) H H14 [aV .non (none : (Option Int))] := hs.tk 1
            obtain rfl := Option.some.inj hm
            exact q H14 .non hs
          · replace hm := ife c28 hm
            obtain ⟨y30, ey30, hm⟩ := bnd hm
            obtain ⟨g31, hm⟩ := gd hm
            refine ⟨_, rfl, _, _, rfl, ey30, g31, ?_⟩
            replace hs := hs.addV (v := (.int (y30))) (x := ((some y30) : (Option Int))) (imO imI)
            replace hs : Sep (owns []) H H14 [aV (.int (y30)) ((some y30) : (Option Int))] := hs.tk 1
            obtain rfl := Option.some.inj hm
            exact q H14 (.int (y30)) hs
        · replace hm := ife c27 hm
          obtain ⟨y33, ey33, hm⟩ := bnd hm
          obtain ⟨g34, hm⟩ := gd hm
          refine ⟨_, rfl, _, _, rfl, ey33, g34, ?_⟩
          replace hs := hs.addV (v := (.int (y33))) (x := ((some y33) : (Option Int))) (imO imI)
          replace hs : Sep (owns []) H H14 [aV (.int (y33)) ((some y33) : (Option Int))] := hs.tk 1
          obtain rfl := Option.some.inj hm
          exact q H14 (.int (y33)) hs
      · replace hm := ife c24 hm
        replace hs := hs.addV (v := .non) (x := (none : (Option Int))) imN
        replace hs : Sep (owns []) H H14 [aV .non (none : (Option Int))] := hs.tk 1
        obtain rfl := Option.some.inj hm
        exact q H14 .non hs
end
def m_word_of (name_ : Str) (part_ : Int) : Option (Int) :=
  (idxS (["mark", "lit", "get", "put", "add", "sub", "and", "xor", "getb", "putb", "tob", "swap", "go", "ifz", "ifn", "call", "ret", "push", "pop", "sleep", "let", "back", "half"] : List Str) name_).bind fun j1 =>
  some (((1024 : Int) * ((j1 : Nat) : Int)) + part_)
section
variable {P : Program} {w : World} {K : PySem.W.Frag} {mg : Str → Option Value} {base : Heap}
def sp_word_of (K : PySem.W.Frag) : Sp := fun vs H Q E_ => ∃ (name_ : Str) (part_ : Int) (r_ : Int), vs = [(.str name_), (.int part_)] ∧ (oks H [] ∧ (owns []).Nodup ∧ m_word_of name_ part_ = some r_ ∧ (∀ (H' : Hp) , Sep (owns []) H H' [] → Q (.int r_) H'))
abbrev N_word_of : List Str := ["name", "part"]
theorem sc_word_of : FnScope N_word_of ["name", "part"] (defScope s_word_of) := ⟨rfl, rfl, rfl, by decide +kernel, rfl, by decide +kernel, by decide +kernel⟩
theorem ok_word_of (T : Txt K mg) : Ok P w K mg base CX0 1 (He.fAd K ("word_of", none)) ["name", "part"] (sp_word_of K) := by
  obtain ⟨fd, F⟩ := T.d_word_of
  refine ⟨fd, F.ok sc_word_of (fun vs H Q E h => by obtain ⟨name_, part_, r_, rfl, _⟩ := h; rfl) (fun cdv A_ outer s_ H vs Q E hr h => ?_), F.bindsN (fun _ _ _ _ _ _ us hl => match us, hl with | [_, _], _ => rfl), F.kp⟩
  obtain ⟨name_, part_, r_, rfl, h⟩ := h
  have hu := hu_of hr
  refine ⟨_, PSs.nox (pss_one (ps_ret (pe_op op_add (pe_op op_mul pe_int (pe_bm PySem.F.plainAttrs_list PySem.F.slot_list_index PySem.F.type_list_index mt_index (gr_ (by rfl) T.g_NAMES) (pa_cons (pv 0) pa_nil))) (pv 1)))), ?_⟩
  obtain ⟨hp1, hp2, hm, q⟩ := h
  have hs := Sep.pre (L := []) ⟨hp1, hp2⟩
  unfold m_word_of at hm
  clear hp1 hp2
  obtain ⟨j1, ej1, hm⟩ := bnd hm
  have q2 := idxS_at ej1
  refine ⟨.inl ⟨rfl, _, T.l_NAMES _⟩, _, rfl, _, _, _, j1, _, rfl, rfl, (T.l_NAMES _), rfl, (flat_strs (["mark", "lit", "get", "put", "add", "sub", "and", "xor", "getb", "putb", "tob", "swap", "go", "ifz", "ifn", "call", "ret", "push", "pop", "sleep", "let", "back", "half"] : List Str)), q2.1, q2.2.1, q2.2.2, _, _, rfl, rfl, .inl ⟨by decide, by decide⟩, _, rfl, _, _, rfl, rfl, ?_⟩
  replace hs : Sep (owns []) H H [] := hs.tk 0
  obtain rfl := Option.some.inj hm
  exact q H hs
end
structure R_Laying where
  laid : (List Int)
  called : (List (Str × Int))
  wanted : (List (T3 Int Int Str))
structure A_Laying where
  p_ : Addr
  dx_ : Addr
  laid : Addr
  called : Addr
  wanted : Addr
abbrev A_Laying.w (B : A_Laying) (p : Addr) : A_Laying := { B with p_ := p }
def F_Laying (v_laid v_called v_wanted : V) : List (Str × V) := [("laid", v_laid), ("called", v_called), ("wanted", v_wanted)]
theorem F_Laying_len {v_laid v_called v_wanted : V} : (F_Laying v_laid v_called v_wanted).length < 1000 := by show 3 < 1000; decide
theorem F_Laying_laid {v_laid v_called v_wanted : V} : (F_Laying v_laid v_called v_wanted).lookup ("laid" : Str) = some v_laid := by kernel_rfl
theorem F_Laying_put_laid {v_laid v_called v_wanted x_ : V} : putF ("laid" : Str) x_ (F_Laying v_laid v_called v_wanted) = F_Laying x_ v_called v_wanted := by kernel_rfl
theorem F_Laying_called {v_laid v_called v_wanted : V} : (F_Laying v_laid v_called v_wanted).lookup ("called" : Str) = some v_called := by kernel_rfl
theorem F_Laying_put_called {v_laid v_called v_wanted x_ : V} : putF ("called" : Str) x_ (F_Laying v_laid v_called v_wanted) = F_Laying v_laid x_ v_wanted := by kernel_rfl
theorem F_Laying_wanted {v_laid v_called v_wanted : V} : (F_Laying v_laid v_called v_wanted).lookup ("wanted" : Str) = some v_wanted := by kernel_rfl
theorem F_Laying_put_wanted {v_laid v_called v_wanted x_ : V} : putF ("wanted" : Str) x_ (F_Laying v_laid v_called v_wanted) = F_Laying v_laid v_called x_ := by kernel_rfl
abbrev q_Laying (K : PySem.W.Frag) (p : Addr) (A : A_Laying) (D : R_Laying) : As := aC p (.ins (He.ga K "Laying") A.dx_ (F_Laying (.ref A.laid) (.ref A.called) (.ref A.wanted)))
abbrev O_Laying (K : PySem.W.Frag) (p : Addr) (A : A_Laying) (D : R_Laying) : List As := [aC p (.ins (He.ga K "Laying") A.dx_ (F_Laying (.ref A.laid) (.ref A.called) (.ref A.wanted))), aL A.laid D.laid, aC A.called (.dK (strK D.called)), aL A.wanted D.wanted]
def a_Laying (K : PySem.W.Frag) (A : A_Laying) (D : R_Laying) : As := aG (O_Laying K A.p_ A D)
def m_Laying_init  : Option (R_Laying) :=
  some (R_Laying.mk ([] : (List Int)) ([] : (List (Str × Int))) ([] : (List (T3 Int Int Str))))
section
variable {P : Program} {w : World} {K : PySem.W.Frag} {mg : Str → Option Value} {base : Heap}
def sp_Laying_init (K : PySem.W.Frag) : Sp := fun vs H Q E_ => ∃ (pself_ : Addr) (dself_ : Addr) (r_ : R_Laying), vs = [.ref pself_] ∧ (oks H [aC pself_ (.ins (He.ga K "Laying") dself_ [])] ∧ (owns [aC pself_ (.ins (He.ga K "Laying") dself_ [])]).Nodup ∧ m_Laying_init  = some r_ ∧ (∀ (H' : Hp) (Bself_ : A_Laying), Sep (owns [aC pself_ (.ins (He.ga K "Laying") dself_ [])]) H H' [a_Laying K (Bself_.w pself_) r_] → Q .non H'))
abbrev N_Laying_init : List Str := ["self"]
theorem sc_Laying_init : FnScope N_Laying_init ["self"] (defScope s_Laying_init) := ⟨rfl, rfl, rfl, by decide +kernel, rfl, by decide +kernel, by decide +kernel⟩
theorem ok_Laying_init (T : Txt K mg) : Ok P w K mg base CX0 1 (He.fAd K ("Laying", some "__init__")) ["self"] (sp_Laying_init K) := by
  obtain ⟨fd, F⟩ := T.d_Laying_init
  refine ⟨fd, F.ok sc_Laying_init (fun vs H Q E h => by obtain ⟨pself_, dself_, r_, rfl, _⟩ := h; rfl) (fun cdv A_ outer s_ H vs Q E hr h => ?_), F.bindsN (fun _ _ _ _ _ _ us hl => match us, hl with | [_], _ => rfl), F.kp⟩
  obtain ⟨pself_, dself_, r_, rfl, h⟩ := h
  have hu := hu_of hr
  refine ⟨_, PSs.nox (pss_cons (ps_fld (pv 0) (pe_lst pa_nil) rfl)
  (pss_cons (ps_fld (pv 0) pe_dnewK rfl)
  (pss_one (ps_fld (pv 0) (pe_lst pa_nil) rfl)))), ?_⟩
  obtain ⟨hp1, hp2, hm, q⟩ := h
  have hs := Sep.pre (L := [aC pself_ (.ins (He.ga K "Laying") dself_ [])]) ⟨hp1, hp2⟩
  generalize owns [aC pself_ (.ins (He.ga K "Laying") dself_ [])] = S0_ at hs q
  unfold m_Laying_init at hm
  clear hp1 hp2
  refine ⟨(by show 0 ≤ sizeLine; decide), fun p2 n3 => ?_⟩
  try dsimp only
  generalize ee_ : upd H p2 _ = H4
  replace hs := (hs.newL (ys := (([] : (List Int)) : (List Int))) n3 (.nil)).cast ee_
  clear ee_
  have f6 := hs.cel 1 rfl
  refine ⟨_, rfl, _, _, _, _, rfl, f6, T.k_Laying, T.n_Laying_laid, (by show 0 < 1000; decide), ?_⟩
  try dsimp only
  have em7 : putF ("laid" : Str) (.ref p2) ([] : List (Str × V)) = ([("laid", .ref p2)] : List (Str × V)) := by kernel_rfl
  rw [em7]
  try dsimp only
  generalize ee_ : upd H4 pself_ _ = H8
  replace hs := (hs.putC 1 rfl trivial (.ins (He.ga K "Laying") dself_ [("laid", .ref p2)])).cast ee_
  clear ee_
  refine fun p9 n10 => ?_
  try dsimp only
  generalize ee_ : upd H8 p9 _ = H11
  replace hs := (hs.newC n10 (.dK (strK ([] : (List (Str × Int)))))).cast ee_
  clear ee_
  have f13 := hs.cel 2 rfl
  refine ⟨_, rfl, _, _, _, _, rfl, f13, T.k_Laying, T.n_Laying_called, (by show 1 < 1000; decide), ?_⟩
  try dsimp only
  have em14 : putF ("called" : Str) (.ref p9) ([("laid", .ref p2)] : List (Str × V)) = ([("laid", .ref p2), ("called", .ref p9)] : List (Str × V)) := by kernel_rfl
  rw [em14]
  try dsimp only
  generalize ee_ : upd H11 pself_ _ = H15
  replace hs := (hs.putC 2 rfl trivial (.ins (He.ga K "Laying") dself_ [("laid", .ref p2), ("called", .ref p9)])).cast ee_
  clear ee_
  refine ⟨(by show 0 ≤ sizeLine; decide), fun p16 n17 => ?_⟩
  try dsimp only
  generalize ee_ : upd H15 p16 _ = H18
  replace hs := (hs.newL (ys := (([] : (List (T3 Int Int Str))) : (List (T3 Int Int Str)))) n17 (.nil)).cast ee_
  clear ee_
  have f20 := hs.cel 3 rfl
  refine ⟨_, rfl, _, _, _, _, rfl, f20, T.k_Laying, T.n_Laying_wanted, (by show 2 < 1000; decide), ?_⟩
  try dsimp only
  have em21 : putF ("wanted" : Str) (.ref p16) ([("laid", .ref p2), ("called", .ref p9)] : List (Str × V)) = ([("laid", .ref p2), ("called", .ref p9), ("wanted", .ref p16)] : List (Str × V)) := by kernel_rfl
  rw [em21]
  try dsimp only
  generalize ee_ : upd H18 pself_ _ = H22
  replace hs := (hs.putC 3 rfl trivial (.ins (He.ga K "Laying") dself_ [("laid", .ref p2), ("called", .ref p9), ("wanted", .ref p16)])).cast ee_
  clear ee_
  replace hs := hs.asN 3 rfl (Y := aC pself_ (.ins (He.ga K "Laying") dself_ (F_Laying (.ref p2) (.ref p9) (.ref p16)))) rfl
  replace hs : Sep S0_ H H22 [a_Laying K (A_Laying.mk pself_ dself_ p2 p9 p16) (R_Laying.mk ([] : (List Int)) ([] : (List (Str × Int))) ([] : (List (T3 Int Int Str))))] := hs.cl [0,1,2,3] 4 (by kernel_rfl)
  replace hs : Sep S0_ H H22 [a_Laying K (A_Laying.mk pself_ dself_ p2 p9 p16) (R_Laying.mk ([] : (List Int)) ([] : (List (Str × Int))) ([] : (List (T3 Int Int Str))))] := hs.tk 1
  obtain rfl := Option.some.inj hm
  exact q H22 (A_Laying.mk pself_ dself_ p2 p9 p16) hs
end
def m_Laying_name_here (self_ : R_Laying) (name_ : Str) : Option (Bool × R_Laying) :=
  (m_is_small name_).bind fun r2 =>
  if r2 = true then
    if (lookT self_.called name_).isSome = true then
      some (false, self_)
    else
      if self_.called.length < 16000000 then
      some (true, { self_ with called := putT self_.called name_ (self_.laid.length : Int) }) else none
  else
    some (false, self_)
section
variable {P : Program} {w : World} {K : PySem.W.Frag} {mg : Str → Option Value} {base : Heap}
def sp_Laying_name_here (K : PySem.W.Frag) : Sp := fun vs H Q E_ => ∃ (Aself_ : A_Laying) (self_ : R_Laying) (name_ : Str) (r_ : Bool × R_Laying), vs = [.ref Aself_.p_, (.str name_)] ∧ (oks H [a_Laying K Aself_ self_] ∧ (owns [a_Laying K Aself_ self_]).Nodup ∧ m_Laying_name_here self_ name_ = some r_ ∧ (∀ (H' : Hp) (Bself_ : A_Laying), Sep (owns [a_Laying K Aself_ self_]) H H' [a_Laying K (Bself_.w Aself_.p_) r_.2] → Q (.bl r_.1) H'))
abbrev N_Laying_name_here : List Str := ["self", "name"]
theorem sc_Laying_name_here : FnScope N_Laying_name_here ["self", "name"] (defScope s_Laying_name_here) := ⟨rfl, rfl, rfl, by decide +kernel, rfl, by decide +kernel, by decide +kernel⟩
theorem ok_Laying_name_here (T : Txt K mg) : Ok P w K mg base CX0 2 (He.fAd K ("Laying", some "name_here")) ["self", "name"] (sp_Laying_name_here K) := by
  obtain ⟨_, G_is_small, b_is_small, kp_is_small⟩ := ok_is_small (P := P) (w := w) (base := base) T
  obtain ⟨fd, F⟩ := T.d_Laying_name_here
  refine ⟨fd, F.ok sc_Laying_name_here (fun vs H Q E h => by obtain ⟨Aself_, self_, name_, r_, rfl, _⟩ := h; rfl) (fun cdv A_ outer s_ H vs Q E hr h => ?_), F.bindsN (fun _ _ _ _ _ _ us hl => match us, hl with | [_, _], _ => rfl), F.kp⟩
  obtain ⟨Aself_, self_, name_, r_, rfl, h⟩ := h
  have hu := hu_of hr
  refine ⟨_, PSs.nox (pss_cons (ps_if (PW.pt (pw_or (pt_not (pt_val (pe_call G_is_small (hr.mono (by decide)) (by rfl) T.g_is_small kp_is_small b_is_small .nil pass0 (pa_cons (pv 1) pa_nil)))) (pw_or1 (pt_cmp (pc_din hu (pv 1) (pe_fld (pv 0) rfl)))))) (pss_one (ps_ret pe_bl)) pss_nil)
  (pss_cons (ps_dput hu (pe_fld (pv 0) rfl) (pv 1) (pe_callB call_len_seq (by rfl) T.f_len PySem.boot_len (pa_cons (pe_fld (pv 0) rfl) pa_nil)) rfl)
  (pss_one (ps_ret pe_bl)))), ?_⟩
  obtain ⟨hp1, hp2, hm, q⟩ := h
  have hs := Sep.pre (L := [a_Laying K Aself_ self_]) ⟨hp1, hp2⟩
  generalize owns [a_Laying K Aself_ self_] = S0_ at hs q
  unfold m_Laying_name_here at hm
  clear hp1 hp2
  obtain ⟨r2, er2, hm⟩ := bnd hm
  refine ⟨_, rfl, name_, r2, rfl, (hs.frontN 0).1, (hs.frontN 0).2, er2, fun H3 hc4 => ?_⟩
  replace hs := hs.callN 0 hc4
  refine ⟨_, dB, ?_⟩
  refine iteNot (fun c5 => ?_) (fun c5 => ?_)
  · replace hm := ift c5 hm
    replace hs := hs.opn 0 rfl
    replace hs : Sep S0_ H H3 (O_Laying K Aself_.p_ Aself_ self_) := hs
    have f9 := hs.cel 0 rfl
    have f10 := hs.cel 2 rfl
    refine ⟨_, rfl, _, rfl, _, _, _, _, _, rfl, f9, T.k_Laying, T.n_Laying_called, F_Laying_called, _, _, rfl, .inl ⟨_, Sum.inr name_, .inl f10, rfl, (valV_strK _ _).symm⟩, _, dIn, ?_⟩
    refine iteD (fun c11 => ?_) (fun c11 => ?_)
    · replace hm := ift c11 hm
      replace hs : Sep S0_ H H3 [a_Laying K Aself_ self_] := hs.cl [3,3,3,3] 4 (by kernel_rfl)
      replace hs : Sep S0_ H H3 [a_Laying K Aself_ self_] := hs.tk 1
      obtain rfl := Option.some.inj hm
      exact q H3 Aself_ hs
    · replace hm := ife c11 hm
      replace hs : Sep S0_ H H3 [a_Laying K Aself_ self_] := hs.cl [3,3,3,3] 4 (by kernel_rfl)
      replace hs := hs.opn 0 rfl
      replace hs : Sep S0_ H H3 (O_Laying K Aself_.p_ Aself_ self_) := hs
      have f19 := hs.cel 0 rfl
      obtain ⟨vs20, hl21, hv22⟩ := hs.lst 1 rfl
      refine ⟨_, rfl, _, _, _, _, _, rfl, f19, T.k_Laying, T.n_Laying_laid, F_Laying_laid, _, _, rfl, .inl (SqL.of hl21), ?_⟩
      rw [hv22.length]
      have f23 := hs.cel 0 rfl
      obtain ⟨g24, hm⟩ := gd hm
      have f25 := hs.cel 2 rfl
      refine ⟨_, rfl, _, _, _, _, _, rfl, f23, T.k_Laying, T.n_Laying_called, F_Laying_called, _, rfl, _, _, rfl, .inl ⟨_, Sum.inr name_, f25, rfl, small_ (by rw [strK_len]; omega), rfl⟩, ?_⟩
      try dsimp only
      generalize ee_ : upd H3 Aself_.called _ = H26
      replace hs := (hs.putDT 2 rfl name_ (self_.laid.length : Int)).cast ee_
      clear ee_
      replace hs : Sep S0_ H H26 [a_Laying K Aself_ ({ self_ with called := putT self_.called name_ (self_.laid.length : Int) })] := hs.cl [3,3,3,3] 4 (by kernel_rfl)
      replace hs : Sep S0_ H H26 [a_Laying K Aself_ ({ self_ with called := putT self_.called name_ (self_.laid.length : Int) })] := hs.tk 1
      obtain rfl := Option.some.inj hm
      exact q H26 Aself_ hs
  · replace hm := ife c5 hm
    replace hs : Sep S0_ H H3 [a_Laying K Aself_ self_] := hs.tk 1
    obtain rfl := Option.some.inj hm
    exact q H3 Aself_ hs
end
def m_Laying_lay (self_ : R_Laying) (word_ : Int) : Option (Bool × R_Laying) :=
  if ((512 : Int) ≤ (self_.laid.length : Int)) then
    some (false, self_)
  else
    (snoc self_.laid word_).bind fun y30 =>
    some (true, { self_ with laid := y30 })
section
variable {P : Program} {w : World} {K : PySem.W.Frag} {mg : Str → Option Value} {base : Heap}
def sp_Laying_lay (K : PySem.W.Frag) : Sp := fun vs H Q E_ => ∃ (Aself_ : A_Laying) (self_ : R_Laying) (word_ : Int) (r_ : Bool × R_Laying), vs = [.ref Aself_.p_, (.int word_)] ∧ (oks H [a_Laying K Aself_ self_] ∧ (owns [a_Laying K Aself_ self_]).Nodup ∧ m_Laying_lay self_ word_ = some r_ ∧ (∀ (H' : Hp) (Bself_ : A_Laying), Sep (owns [a_Laying K Aself_ self_]) H H' [a_Laying K (Bself_.w Aself_.p_) r_.2] → Q (.bl r_.1) H'))
abbrev N_Laying_lay : List Str := ["self", "word"]
theorem sc_Laying_lay : FnScope N_Laying_lay ["self", "word"] (defScope s_Laying_lay) := ⟨rfl, rfl, rfl, by decide +kernel, rfl, by decide +kernel, by decide +kernel⟩
theorem ok_Laying_lay (T : Txt K mg) : Ok P w K mg base CX0 1 (He.fAd K ("Laying", some "lay")) ["self", "word"] (sp_Laying_lay K) := by
  obtain ⟨fd, F⟩ := T.d_Laying_lay
  refine ⟨fd, F.ok sc_Laying_lay (fun vs H Q E h => by obtain ⟨Aself_, self_, word_, r_, rfl, _⟩ := h; rfl) (fun cdv A_ outer s_ H vs Q E hr h => ?_), F.bindsN (fun _ _ _ _ _ _ us hl => match us, hl with | [_, _], _ => rfl), F.kp⟩
  obtain ⟨Aself_, self_, word_, r_, rfl, h⟩ := h
  have hu := hu_of hr
  refine ⟨_, PSs.nox (pss_cons (ps_if (pt_cmpR op_ge (pe_callB call_len_seq (by rfl) T.f_len PySem.boot_len (pa_cons (pe_fld (pv 0) rfl) pa_nil)) (gi_ (by rfl) T.c_FLASH) (nomark _)) (pss_one (ps_ret pe_bl)) pss_nil)
  (pss_cons (ps_expr (pe_bm PySem.F.plainAttrs_list PySem.F.slot_list_append PySem.F.type_list_append mt_append (pe_fld (pv 0) rfl) (pa_cons (pv 1) pa_nil)))
  (pss_one (ps_ret pe_bl)))), ?_⟩
  obtain ⟨hp1, hp2, hm, q⟩ := h
  have hs := Sep.pre (L := [a_Laying K Aself_ self_]) ⟨hp1, hp2⟩
  generalize owns [a_Laying K Aself_ self_] = S0_ at hs q
  unfold m_Laying_lay at hm
  clear hp1 hp2
  try dsimp only [tNext, gName]
  try with_reducible refine iteF ?_
  refine if_use hs (b := decide (((512 : Int) ≤ (self_.laid.length : Int)))) ?_ ?_
  · skip
    refine fun H11 hs Q_ hQ12 => ?_
    replace hs := hs.opn 0 rfl
    replace hs : Sep S0_ H H11 (O_Laying K Aself_.p_ Aself_ self_) := hs
    have f16 := hs.cel 0 rfl
    obtain ⟨vs17, hl18, hv19⟩ := hs.lst 1 rfl
    refine ⟨_, rfl, _, _, _, _, _, rfl, f16, T.k_Laying, T.n_Laying_laid, F_Laying_laid, _, _, rfl, .inl (SqL.of hl18), ?_⟩
    rw [hv19.length]
    refine ⟨_, _, rfl, rfl, _, rfl, ?_⟩
    replace hs : Sep S0_ H H11 [a_Laying K Aself_ self_] := hs.cl [3,3,3,3] 4 (by kernel_rfl)
    replace hs : Sep S0_ H H11 [a_Laying K Aself_ self_] := hs.tk 1
    exact hQ12 _ hs
  intro H21 hs
  refine iteD (fun c20 => ?_) (fun c20 => ?_)
  · replace hm := ift c20 hm
    replace hs : Sep S0_ H H21 [a_Laying K Aself_ self_] := hs.tk 1
    obtain rfl := Option.some.inj hm
    exact q H21 Aself_ hs
  · replace hm := ife c20 hm
    replace hs := hs.opn 0 rfl
    replace hs : Sep S0_ H H21 (O_Laying K Aself_.p_ Aself_ self_) := hs
    have f25 := hs.cel 0 rfl
    have f26 := (hs.lst 1 rfl).choose_spec.1
    obtain ⟨y30, ey30, hm⟩ := bnd hm
    obtain ⟨vs27, hl28, hv29⟩ := hs.lst 1 rfl
    obtain ⟨g31, e32⟩ := snoc_eq ey30
    refine ⟨_, rfl, _, _, _, _, _, rfl, f25, T.k_Laying, T.n_Laying_laid, F_Laying_laid, .inl ⟨rfl, _, SqL.of f26⟩, _, rfl, _, _, _, rfl, rfl, hl28, small_ (by have := hv29.length; omega), ?_⟩
    try dsimp only
    generalize ee_ : upd H21 Aself_.laid _ = H33
    replace hs := (hs.putL (ys := y30) 1 rfl hl28 (by rw [e32]; exact hv29.snoc imI)).cast ee_
    clear ee_
    replace hs : Sep S0_ H H33 [a_Laying K Aself_ ({ self_ with laid := y30 })] := hs.cl [3,3,3,3] 4 (by kernel_rfl)
    replace hs : Sep S0_ H H33 [a_Laying K Aself_ ({ self_ with laid := y30 })] := hs.tk 1
    obtain rfl := Option.some.inj hm
    exact q H33 Aself_ hs
end
def m_Laying_lay_part (self_ : R_Laying) (number_ : Int) (word_ : Int) (text_ : Str) (most_ : Int) : Option (Bool × R_Laying) :=
  (m_number_in text_).bind fun r2 =>
  if r2 = none then
    (m_is_small text_).bind fun r9 =>
    if r9 = true then
      (snoc self_.wanted (T3.mk number_ (self_.laid.length : Int) text_)).bind fun y29 =>
      (m_Laying_lay ({ self_ with wanted := y29 }) word_).bind fun r37 =>
      some (r37.1, r37.2)
    else
      (orO (some (decide (r2 = none))) ((r2).bind fun x57 => some (decide (most_ < x57)))).bind fun b59 =>
      if b59 = true then
        some (false, self_)
      else
        (r2).bind fun x77 =>
        (m_Laying_lay self_ (word_ + x77)).bind fun r79 =>
        some (r79.1, r79.2)
  else
    (orO (some (decide (r2 = none))) ((r2).bind fun x99 => some (decide (most_ < x99)))).bind fun b101 =>
    if b101 = true then
      some (false, self_)
    else
      (r2).bind fun x119 =>
      (m_Laying_lay self_ (word_ + x119)).bind fun r121 =>
      some (r121.1, r121.2)
section
variable {P : Program} {w : World} {K : PySem.W.Frag} {mg : Str → Option Value} {base : Heap}
def sp_Laying_lay_part (K : PySem.W.Frag) : Sp := fun vs H Q E_ => ∃ (Aself_ : A_Laying) (self_ : R_Laying) (number_ : Int) (word_ : Int) (text_ : Str) (most_ : Int) (r_ : Bool × R_Laying), vs = [.ref Aself_.p_, (.int number_), (.int word_), (.str text_), (.int most_)] ∧ (oks H [a_Laying K Aself_ self_] ∧ (owns [a_Laying K Aself_ self_]).Nodup ∧ m_Laying_lay_part self_ number_ word_ text_ most_ = some r_ ∧ (∀ (H' : Hp) (Bself_ : A_Laying), Sep (owns [a_Laying K Aself_ self_]) H H' [a_Laying K (Bself_.w Aself_.p_) r_.2] → Q (.bl r_.1) H'))
abbrev N_Laying_lay_part : List Str := ["self", "number", "word", "text", "most", "part"]
theorem sc_Laying_lay_part : FnScope N_Laying_lay_part ["self", "number", "word", "text", "most"] (defScope s_Laying_lay_part) := ⟨rfl, rfl, rfl, by decide +kernel, rfl, by decide +kernel, by decide +kernel⟩
theorem ok_Laying_lay_part (T : Txt K mg) : Ok P w K mg base CX0 2 (He.fAd K ("Laying", some "lay_part")) ["self", "number", "word", "text", "most"] (sp_Laying_lay_part K) := by
  obtain ⟨_, G_number_in, b_number_in, kp_number_in⟩ := ok_number_in (P := P) (w := w) (base := base) T
  obtain ⟨_, G_is_small, b_is_small, kp_is_small⟩ := ok_is_small (P := P) (w := w) (base := base) T
  obtain ⟨_, G_Laying_lay, b_Laying_lay, kp_Laying_lay⟩ := ok_Laying_lay (P := P) (w := w) (base := base) T
  obtain ⟨fd, F⟩ := T.d_Laying_lay_part
  refine ⟨fd, F.ok sc_Laying_lay_part (fun vs H Q E h => by obtain ⟨Aself_, self_, number_, word_, text_, most_, r_, rfl, _⟩ := h; rfl) (fun cdv A_ outer s_ H vs Q E hr h => ?_), F.bindsN (fun _ _ _ _ _ _ us hl => match us, hl with | [_, _, _, _, _], _ => rfl), F.kp⟩
  obtain ⟨Aself_, self_, number_, word_, text_, most_, r_, rfl, h⟩ := h
  have hu := hu_of hr
  refine ⟨_, PSs.nox (pss_cons (ps_set (i := 5) sc_Laying_lay_part.nd rfl (.inl rfl) (pe_call G_number_in (hr.mono (by decide)) (by rfl) T.g_number_in kp_number_in b_number_in .nil pass0 (pa_cons (pv 3) pa_nil)))
  (pss_cons (ps_if (PW.pt (pw_and (pt_cmpR op_isN (pv 5) pe_non (nomark _)) (pw_and1 (pt_val (pe_call G_is_small (hr.mono (by decide)) (by rfl) T.g_is_small kp_is_small b_is_small .nil pass0 (pa_cons (pv 3) pa_nil)))))) (pss_cons (ps_expr (pe_bm PySem.F.plainAttrs_list PySem.F.slot_list_append PySem.F.type_list_append mt_append (pe_fld (pv 0) rfl) (pa_cons (pe_tup (pa_cons (pv 1) (pa_cons (pe_callB call_len_seq (by rfl) T.f_len PySem.boot_len (pa_cons (pe_fld (pv 0) rfl) pa_nil)) (pa_cons (pv 3) pa_nil)))) pa_nil)))
    (pss_one (ps_ret (pe_meth (pv 0) T.k_Laying T.m_Laying_lay G_Laying_lay (hr.mono (by decide)) b_Laying_lay .nil pass0 (pa_cons (pv 2) pa_nil))))) pss_nil)
  (pss_cons (ps_if (PW.pt (pw_or (pt_cmpR op_isN (pv 5) pe_non (nomark _)) (pw_or1 (pt_cmpR op_gt (pv 5) (pv 4) (nomark _))))) (pss_one (ps_ret pe_bl)) pss_nil)
  (pss_one (ps_ret (pe_meth (pv 0) T.k_Laying T.m_Laying_lay G_Laying_lay (hr.mono (by decide)) b_Laying_lay .nil pass0 (pa_cons (pe_op op_add (pv 2) (pv 5)) pa_nil))))))), ?_⟩
  obtain ⟨hp1, hp2, hm, q⟩ := h
  have hs := Sep.pre (L := [a_Laying K Aself_ self_]) ⟨hp1, hp2⟩
  generalize owns [a_Laying K Aself_ self_] = S0_ at hs q
  unfold m_Laying_lay_part at hm
  clear hp1 hp2
  obtain ⟨r2, er2, hm⟩ := bnd hm
  refine ⟨_, rfl, text_, r2, rfl, (hs.frontN 0).1, (hs.frontN 0).2, er2, fun H3 vz5 hc4 => ?_⟩
  replace hs := hs.callN 0 hc4
  have f7 := hs.val 0 rfl
  refine ⟨_, rfl, rfl, _, (opt_dec f7), ?_⟩
  refine iteD (fun c8 => ?_) (fun c8 => ?_)
  · replace hm := ift c8 hm
    obtain ⟨r9, er9, hm⟩ := bnd hm
    refine ⟨_, rfl, text_, r9, rfl, (hs.frontN 0).1, (hs.frontN 0).2, er9, fun H10 hc11 => ?_⟩
    replace hs := hs.callN 0 hc11
    refine ⟨_, dB, ?_⟩
    refine iteD (fun c12 => ?_) (fun c12 => ?_)
    · replace hm := ift c12 hm
      replace hs := hs.opn 1 rfl
      replace hs : Sep S0_ H H10 ([aV vz5 r2] ++ O_Laying K Aself_.p_ Aself_ self_) := hs
      have f16 := hs.cel 1 rfl
      have f17 := (hs.lst 4 rfl).choose_spec.1
      have f21 := hs.cel 1 rfl
      obtain ⟨vs22, hl23, hv24⟩ := hs.lst 2 rfl
      refine ⟨_, rfl, _, _, _, _, _, rfl, f16, T.k_Laying, T.n_Laying_wanted, F_Laying_wanted, .inl ⟨rfl, _, SqL.of f17⟩, _, rfl, _, rfl, _, _, _, _, _, rfl, f21, T.k_Laying, T.n_Laying_laid, F_Laying_laid, _, _, rfl, .inl (SqL.of hl23), ?_⟩
      rw [hv24.length]
      refine ⟨_, rfl, (by show 3 ≤ sizeLine; decide), fun t25 n26 => ?_⟩
      try dsimp only
      generalize ee_ : upd H10 t25 _ = H27
      replace hs := (hs.newTup n26 [(.int number_), (.int ((self_.laid.length : Int))), (.str text_)]).cast ee_
      clear ee_
      obtain ⟨y29, ey29, hm⟩ := bnd hm
      obtain ⟨vs18, hl19, hv20⟩ := hs.lst 5 rfl
      obtain ⟨g30, e31⟩ := snoc_eq ey29
      refine ⟨_, _, _, rfl, rfl, hl19, small_ (by have := hv20.length; omega), ?_⟩
      try dsimp only
      generalize ee_ : upd H27 Aself_.wanted _ = H32
      replace hs := (hs.putL (ys := y29) 5 rfl hl19 (by rw [e31]; exact hv20.snoc (im3 (hs.tup 0 rfl) imI imI imS))).cast ee_
      clear ee_
      replace hs : Sep S0_ H H32 [a_Laying K Aself_ ({ self_ with wanted := y29 }), aT t25 [(.int number_), (.int ((self_.laid.length : Int))), (.str text_)], aV vz5 r2] := hs.cl [5,5,5,5] 4 (by kernel_rfl)
      replace hs := hs.opn 0 rfl
      replace hs : Sep S0_ H H32 [q_Laying K Aself_.p_ Aself_ self_, aL Aself_.laid self_.laid, aC Aself_.called (.dK (strK self_.called)), aL Aself_.wanted y29, aT t25 [(.int number_), (.int ((self_.laid.length : Int))), (.str text_)], aV vz5 r2] := hs
      have f36 := hs.cel 0 rfl
      replace hs : Sep S0_ H H32 [a_Laying K Aself_ ({ self_ with wanted := y29 }), aT t25 [(.int number_), (.int ((self_.laid.length : Int))), (.str text_)], aV vz5 r2] := hs.cl [3,3,3,3] 4 (by kernel_rfl)
      obtain ⟨r37, er37, hm⟩ := bnd hm
      replace hs := hs.mv 0 rfl
      refine ⟨_, rfl, _, _, _, rfl, f36, (by kernel_rfl), _, rfl, Aself_, ({ self_ with wanted := y29 }), word_, r37, rfl, (hs.frontN 1).1, (hs.frontN 1).2, er37, fun H38 A40 hc39 => ?_⟩
      replace hs := hs.callN 1 hc39
      replace hs : Sep S0_ H H38 [a_Laying K (A40.w Aself_.p_) r37.2] := hs.tk 1
      obtain rfl := Option.some.inj hm
      exact q H38 (A40.w Aself_.p_) hs
    · replace hm := ife c12 hm
      obtain ⟨b59, eb59, hm⟩ := bnd hm
      try dsimp only [tNext, gName]
      try with_reducible refine iteF ?_
      refine if_use hs (b := b59) ?_ ?_
      · skip
        refine evT_or eb59 (fun b60 hb61 => ?_) (fun b62 hb63 => ?_)
        · skip
          refine fun H64 hs Q_ hQ65 => ?_
          have hm := hb61
          have f66 := hs.val 0 rfl
          refine ⟨_, rfl, rfl, _, (opt_dec f66), ?_⟩
          rw [Option.some.inj hm]
          exact hQ65 _ (hs.tl 0)
        · skip
          refine fun H67 hs Q_ hQ68 => ?_
          have hm := hb63
          obtain ⟨x69, ex69, hm⟩ := bnd hm
          have e70 := hs.val 0 rfl
          rw [ex69] at e70
          have e70 : vz5 = .int x69 := e70
          subst e70
          refine ⟨_, rfl, _, rfl, _, _, rfl, rfl, _, rfl, ?_⟩
          rw [Option.some.inj hm]
          exact hQ68 _ (hs.tl 0)
      intro H72 hs
      refine iteBt (fun c71 => ?_) (fun c71 => ?_)
      · replace hm := ift c71 hm
        replace hs : Sep S0_ H H72 [a_Laying K Aself_ self_] := (hs.mv 1 rfl).tk 1
        obtain rfl := Option.some.inj hm
        exact q H72 Aself_ hs
      · replace hm := ife c71 hm
        replace hs := hs.opn 1 rfl
        replace hs : Sep S0_ H H72 ([aV vz5 r2] ++ O_Laying K Aself_.p_ Aself_ self_) := hs
        have f76 := hs.cel 1 rfl
        obtain ⟨x77, ex77, hm⟩ := bnd hm
        have e78 := hs.val 0 rfl
        rw [ex77] at e78
        have e78 : vz5 = .int x77 := e78
        subst e78
        replace hs : Sep S0_ H H72 [a_Laying K Aself_ self_, aV (.int x77) r2] := hs.cl [4,4,4,4] 4 (by kernel_rfl)
        obtain ⟨r79, er79, hm⟩ := bnd hm
        replace hs := hs.mv 0 rfl
        refine ⟨_, rfl, _, _, _, rfl, f76, (by kernel_rfl), _, rfl, _, rfl, _, _, rfl, rfl, Aself_, self_, (word_ + x77), r79, rfl, (hs.frontN 1).1, (hs.frontN 1).2, er79, fun H80 A82 hc81 => ?_⟩
        replace hs := hs.callN 1 hc81
        replace hs : Sep S0_ H H80 [a_Laying K (A82.w Aself_.p_) r79.2] := hs.tk 1
        obtain rfl := Option.some.inj hm
        exact q H80 (A82.w Aself_.p_) hs
  · replace hm := ife c8 hm
    obtain ⟨b101, eb101, hm⟩ := bnd hm
    try dsimp only [tNext, gName]
    try with_reducible refine iteF ?_
    refine if_use hs (b := b101) ?_ ?_
    · skip
      refine evT_or eb101 (fun b102 hb103 => ?_) (fun b104 hb105 => ?_)
      · skip
        refine fun H106 hs Q_ hQ107 => ?_
        have hm := hb103
        have f108 := hs.val 0 rfl
        refine ⟨_, rfl, rfl, _, (opt_dec f108), ?_⟩
        rw [Option.some.inj hm]
        exact hQ107 _ (hs.tl 0)
      · skip
        refine fun H109 hs Q_ hQ110 => ?_
        have hm := hb105
        obtain ⟨x111, ex111, hm⟩ := bnd hm
        have e112 := hs.val 0 rfl
        rw [ex111] at e112
        have e112 : vz5 = .int x111 := e112
        subst e112
        refine ⟨_, rfl, _, rfl, _, _, rfl, rfl, _, rfl, ?_⟩
        rw [Option.some.inj hm]
        exact hQ110 _ (hs.tl 0)
    intro H114 hs
    refine iteBt (fun c113 => ?_) (fun c113 => ?_)
    · replace hm := ift c113 hm
      replace hs : Sep S0_ H H114 [a_Laying K Aself_ self_] := (hs.mv 1 rfl).tk 1
      obtain rfl := Option.some.inj hm
      exact q H114 Aself_ hs
    · replace hm := ife c113 hm
      replace hs := hs.opn 1 rfl
      replace hs : Sep S0_ H H114 ([aV vz5 r2] ++ O_Laying K Aself_.p_ Aself_ self_) := hs
      have f118 := hs.cel 1 rfl
      obtain ⟨x119, ex119, hm⟩ := bnd hm
      have e120 := hs.val 0 rfl
      rw [ex119] at e120
      have e120 : vz5 = .int x119 := e120
      subst e120
      replace hs : Sep S0_ H H114 [a_Laying K Aself_ self_, aV (.int x119) r2] := hs.cl [4,4,4,4] 4 (by kernel_rfl)
      obtain ⟨r121, er121, hm⟩ := bnd hm
      replace hs := hs.mv 0 rfl
      refine ⟨_, rfl, _, _, _, rfl, f118, (by kernel_rfl), _, rfl, _, rfl, _, _, rfl, rfl, Aself_, self_, (word_ + x119), r121, rfl, (hs.frontN 1).1, (hs.frontN 1).2, er121, fun H122 A124 hc123 => ?_⟩
      replace hs := hs.callN 1 hc123
      replace hs : Sep S0_ H H122 [a_Laying K (A124.w Aself_.p_) r121.2] := hs.tk 1
      obtain rfl := Option.some.inj hm
      exact q H122 (A124.w Aself_.p_) hs
end
def m_Laying_take (self_ : R_Laying) (number_ : Int) (row_ : Str) : Option (Bool × R_Laying) :=
  if row_.length < 16000000 then
  (if (Txt.split row_ (" " : Str)).all Dat.b = true then if ([("" : Str)] : (List Str)).all Dat.b = true then some (decide ((Txt.split row_ (" " : Str)) = ([("" : Str)] : (List Str)))) else none else none).bind fun b23 =>
  if b23 = true then
    some (true, self_)
  else
    (andO (some (decide (((Txt.split row_ (" " : Str)).length : Int) = (1 : Int)))) ((atI (Txt.split row_ (" " : Str)) (0 : Int)).bind fun x60 => if x60.length < 16000000 then some (decide ((cutS x60 (some (-1 : Int)) none) = (":" : Str))) else none)).bind fun b68 =>
    if b68 = true then
      (atI (Txt.split row_ (" " : Str)) (0 : Int)).bind fun x94 =>
      if x94.length < 16000000 then
      (m_Laying_name_here self_ (cutS x94 none (some (-1 : Int)))).bind fun r102 =>
      some (r102.1, r102.2) else none
    else
      (andO (some (decide (((Txt.split row_ (" " : Str)).length : Int) = (1 : Int)))) ((atI (Txt.split row_ (" " : Str)) (0 : Int)).bind fun x131 => some (decide (x131 ∈ (["mark", "tob", "swap", "ret", "push", "pop", "sleep", "back", "half"] : List Str))))).bind fun b138 =>
      if b138 = true then
        (atI (Txt.split row_ (" " : Str)) (0 : Int)).bind fun x163 =>
        (m_word_of x163 (0 : Int)).bind fun r170 =>
        (m_Laying_lay self_ r170).bind fun r173 =>
        some (r173.1, r173.2)
      else
        if (¬ ((Txt.split row_ (" " : Str)).length : Int) = (2 : Int)) then
          some (false, self_)
        else
          ((atI (Txt.split row_ (" " : Str)) (0 : Int)).bind fun x205 => some (decide (x205 ∈ (["at", "keep"] : List Str)))).bind fun b217 =>
          if b217 = true then
            none
          else
            ((atI (Txt.split row_ (" " : Str)) (0 : Int)).bind fun x245 => some (decide (x245 = ("word" : Str)))).bind fun b252 =>
            if b252 = true then
              (atI (Txt.split row_ (" " : Str)) (1 : Int)).bind fun x268 =>
              (m_Laying_lay_part self_ number_ (0 : Int) x268 (65535 : Int)).bind fun r275 =>
              some (r275.1, r275.2)
            else
              (andO ((atI (Txt.split row_ (" " : Str)) (0 : Int)).bind fun x294 => some (decide (x294 ∈ (["mark", "lit", "get", "put", "add", "sub", "and", "xor", "getb", "putb", "tob", "swap", "go", "ifz", "ifn", "call", "ret", "push", "pop", "sleep", "let", "back", "half"] : List Str)))) ((atI (Txt.split row_ (" " : Str)) (0 : Int)).bind fun x303 => some (decide (x303 ∉ (["mark", "tob", "swap", "ret", "push", "pop", "sleep", "back", "half"] : List Str))))).bind fun b310 =>
              if b310 = true then
                (atI (Txt.split row_ (" " : Str)) (0 : Int)).bind fun x339 =>
                (m_word_of x339 (0 : Int)).bind fun r346 =>
                (atI (Txt.split row_ (" " : Str)) (1 : Int)).bind fun x349 =>
                (m_Laying_lay_part self_ number_ r346 x349 (1023 : Int)).bind fun r356 =>
                some (r356.1, r356.2)
              else
                some (false, self_) else none
section
variable {P : Program} {w : World} {K : PySem.W.Frag} {mg : Str → Option Value} {base : Heap}
def sp_Laying_take (K : PySem.W.Frag) : Sp := fun vs H Q E_ => ∃ (Aself_ : A_Laying) (self_ : R_Laying) (number_ : Int) (row_ : Str) (r_ : Bool × R_Laying), vs = [.ref Aself_.p_, (.int number_), (.str row_)] ∧ (oks H [a_Laying K Aself_ self_] ∧ (owns [a_Laying K Aself_ self_]).Nodup ∧ m_Laying_take self_ number_ row_ = some r_ ∧ (∀ (H' : Hp) (Bself_ : A_Laying), Sep (owns [a_Laying K Aself_ self_]) H H' [a_Laying K (Bself_.w Aself_.p_) r_.2] → Q (.bl r_.1) H'))
abbrev N_Laying_take : List Str := ["self", "number", "row", "words"]
theorem sc_Laying_take : FnScope N_Laying_take ["self", "number", "row"] (defScope s_Laying_take) := ⟨rfl, rfl, rfl, by decide +kernel, rfl, by decide +kernel, by decide +kernel⟩
theorem ok_Laying_take (T : Txt K mg) : Ok P w K mg base CX0 3 (He.fAd K ("Laying", some "take")) ["self", "number", "row"] (sp_Laying_take K) := by
  obtain ⟨_, G_Laying_name_here, b_Laying_name_here, kp_Laying_name_here⟩ := ok_Laying_name_here (P := P) (w := w) (base := base) T
  obtain ⟨_, G_Laying_lay, b_Laying_lay, kp_Laying_lay⟩ := ok_Laying_lay (P := P) (w := w) (base := base) T
  obtain ⟨_, G_word_of, b_word_of, kp_word_of⟩ := ok_word_of (P := P) (w := w) (base := base) T
  obtain ⟨_, G_Laying_lay_part, b_Laying_lay_part, kp_Laying_lay_part⟩ := ok_Laying_lay_part (P := P) (w := w) (base := base) T
  obtain ⟨fd, F⟩ := T.d_Laying_take
  refine ⟨fd, F.ok sc_Laying_take (fun vs H Q E h => by obtain ⟨Aself_, self_, number_, row_, r_, rfl, _⟩ := h; rfl) (fun cdv A_ outer s_ H vs Q E hr h => ?_), F.bindsN (fun _ _ _ _ _ _ us hl => match us, hl with | [_, _, _], _ => rfl), F.kp⟩
  obtain ⟨Aself_, self_, number_, row_, r_, rfl, h⟩ := h
  have hu := hu_of hr
  refine ⟨_, PSs.nox (pss_cons (ps_set (i := 3) sc_Laying_take.nd rfl (.inl rfl) (pe_split (pv 2) pe_str))
  (pss_cons (ps_if (pt_cmpR (op_eqD hr.units) (pv 3) (pe_lst (pa_cons pe_str pa_nil)) (nomark _)) (pss_one (ps_ret pe_bl)) pss_nil)
  (pss_cons (ps_if (PW.pt (pw_and (pt_cmpR op_eq (pe_callB call_len_seq (by rfl) T.f_len PySem.boot_len (pa_cons (pv 3) pa_nil)) pe_int (nomark _)) (pw_and1 (pt_cmpR op_eq (pe_slice sl_str (pe_ix ix_list (pv 3) pe_int (fun _ _ => rfl)) (po_some (pe_un un_neg pe_int)) po_none) pe_str (nomark _))))) (pss_one (ps_ret (pe_meth (pv 0) T.k_Laying T.m_Laying_name_here G_Laying_name_here (hr.mono (by decide)) b_Laying_name_here .nil pass0 (pa_cons (pe_slice sl_str (pe_ix ix_list (pv 3) pe_int (fun _ _ => rfl)) po_none (po_some (pe_un un_neg pe_int))) pa_nil)))) pss_nil)
  (pss_cons (ps_if (PW.pt (pw_and (pt_cmpR op_eq (pe_callB call_len_seq (by rfl) T.f_len PySem.boot_len (pa_cons (pv 3) pa_nil)) pe_int (nomark _)) (pw_and1 (pt_cmpR op_in_seq (pe_ix ix_list (pv 3) pe_int (fun _ _ => rfl)) (gr_ (by rfl) T.g_BARE) (by rfl))))) (pss_one (ps_ret (pe_meth (pv 0) T.k_Laying T.m_Laying_lay G_Laying_lay (hr.mono (by decide)) b_Laying_lay .nil pass0 (pa_cons (pe_call G_word_of (hr.mono (by decide)) (by rfl) T.g_word_of kp_word_of b_word_of .nil pass0 (pa_cons (pe_ix ix_list (pv 3) pe_int (fun _ _ => rfl)) (pa_cons pe_int pa_nil))) pa_nil)))) pss_nil)
  (pss_cons (ps_if (pt_cmpR op_ne (pe_callB call_len_seq (by rfl) T.f_len PySem.boot_len (pa_cons (pv 3) pa_nil)) pe_int (nomark _)) (pss_one (ps_ret pe_bl)) pss_nil)
  (pss_cons (ps_if (pt_cmpR op_in_seq (pe_ix ix_list (pv 3) pe_int (fun _ _ => rfl)) (pe_tup (pa_cons pe_str (pa_cons pe_str pa_nil))) (by rfl)) (pss_one ps_never) pss_nil)
  (pss_cons (ps_if (pt_cmpR op_eq (pe_ix ix_list (pv 3) pe_int (fun _ _ => rfl)) pe_str (nomark _)) (pss_one (ps_ret (pe_meth (pv 0) T.k_Laying T.m_Laying_lay_part G_Laying_lay_part (hr.mono (by decide)) b_Laying_lay_part .nil pass0 (pa_cons (pv 1) (pa_cons pe_int (pa_cons (pe_ix ix_list (pv 3) pe_int (fun _ _ => rfl)) (pa_cons (gi_ (by rfl) T.c_MOST) pa_nil))))))) pss_nil)
  (pss_cons (ps_if (PW.pt (pw_and (pt_cmpR op_in_seq (pe_ix ix_list (pv 3) pe_int (fun _ _ => rfl)) (gr_ (by rfl) T.g_NAMES) (by rfl)) (pw_and1 (pt_cmpR op_notIn_seq (pe_ix ix_list (pv 3) pe_int (fun _ _ => rfl)) (gr_ (by rfl) T.g_BARE) (by rfl))))) (pss_one (ps_ret (pe_meth (pv 0) T.k_Laying T.m_Laying_lay_part G_Laying_lay_part (hr.mono (by decide)) b_Laying_lay_part .nil pass0 (pa_cons (pv 1) (pa_cons (pe_call G_word_of (hr.mono (by decide)) (by rfl) T.g_word_of kp_word_of b_word_of .nil pass0 (pa_cons (pe_ix ix_list (pv 3) pe_int (fun _ _ => rfl)) (pa_cons pe_int pa_nil))) (pa_cons (pe_ix ix_list (pv 3) pe_int (fun _ _ => rfl)) (pa_cons pe_int pa_nil))))))) pss_nil)
  (pss_one (ps_ret pe_bl)))))))))), ?_⟩
  obtain ⟨hp1, hp2, hm, q⟩ := h
  have hs := Sep.pre (L := [a_Laying K Aself_ self_]) ⟨hp1, hp2⟩
  generalize owns [a_Laying K Aself_ self_] = S0_ at hs q
  unfold m_Laying_take at hm
  clear hp1 hp2
  obtain ⟨g2, hm⟩ := gd hm
  refine ⟨_, rfl, ⟨_, rfl⟩, _, _, rfl, rfl, rfl, small_le (show row_.length + 2 ≤ 16777216 by omega), fun p3 n4 => ?_⟩
  try dsimp only
  generalize ee_ : upd H p3 _ = H5
  replace hs := (hs.newL (ys := ((Txt.split row_ (" " : Str)) : (List Str))) n4 (Imms.ofSc _)).cast ee_
  clear ee_
  obtain ⟨b23, eb23, hm⟩ := bnd hm
  try dsimp only [tNext, gName]
  try with_reducible refine iteF ?_
  refine if_use hs (b := b23) ?_ ?_
  · skip
    refine fun H24 hs Q_ hQ25 => ?_
    have hm := eb23
    refine ⟨_, rfl, (by show 1 ≤ sizeLine; decide), fun p26 n27 => ?_⟩
    try dsimp only
    generalize ee_ : upd H24 p26 _ = H28
    replace hs := (hs.newL (ys := (([("" : Str)] : (List Str)) : (List Str))) n27 ((.cons imS .nil))).cast ee_
    clear ee_
    obtain ⟨g30, hm⟩ := gd hm
    obtain ⟨g31, hm⟩ := gd hm
    refine ⟨.list ((Txt.split row_ (" " : Str)).map Dat.d), .list (([("" : Str)] : (List Str)).map Dat.d), dpDatL g30 (hs.lst 1 rfl), dpDatL g31 (hs.lst 0 rfl), (shp_of (k := 9) (okDatL g30 (by decide)) (by decide)), (shp_of (k := 9) (okDatL g31 (by decide)) (by decide)), _, (eqv_dec (eqvDatL g30 g31)), ?_⟩
    rw [Option.some.inj hm]
    exact hQ25 _ (hs.tl 1)
  intro H33 hs
  refine iteBt (fun c32 => ?_) (fun c32 => ?_)
  · replace hm := ift c32 hm
    replace hs : Sep S0_ H H33 [a_Laying K Aself_ self_] := (hs.mv 1 rfl).tk 1
    obtain rfl := Option.some.inj hm
    exact q H33 Aself_ hs
  · replace hm := ife c32 hm
    obtain ⟨b68, eb68, hm⟩ := bnd hm
    try dsimp only [tNext, gName]
    try with_reducible refine iteF ?_
    refine if_use hs (b := b68) ?_ ?_
    · skip
      refine evT_and eb68 (fun b69 hb70 => ?_) (fun b71 hb72 => ?_)
      · skip
        refine fun H73 hs Q_ hQ74 => ?_
        have hm := hb70
        obtain ⟨vs75, hl76, hv77⟩ := hs.lst 0 rfl
        refine ⟨_, rfl, _, _, rfl, .inl (SqL.of hl76), ?_⟩
        rw [hv77.length]
        refine ⟨rfl, _, dI, ?_⟩
        rw [Option.some.inj hm]
        exact hQ74 _ (hs.tl 0)
      · skip
        refine fun H78 hs Q_ hQ79 => ?_
        have hm := hb72
        obtain ⟨x80, ex80, hm⟩ := bnd hm
        obtain ⟨vs81, hl82, hv83⟩ := hs.lst 0 rfl
        obtain ⟨u84, hu85, hx86⟩ := hv83.ix ex80
        have hx86 : u84 = (.str x80) := hx86
        subst hx86
        obtain ⟨g87, hm⟩ := gd hm
        refine ⟨_, rfl, _, _, _, _, rfl, rfl, SqL.of hl82, hu85, _, rfl, _, rfl, _, rfl, small_le (Nat.le_of_lt (Nat.lt_trans g87 (by decide))), ?_⟩
        refine ⟨rfl, _, dS, ?_⟩
        rw [Option.some.inj hm]
        exact hQ79 _ (hs.tl 0)
    intro H89 hs
    refine iteBt (fun c88 => ?_) (fun c88 => ?_)
    · replace hm := ift c88 hm
      replace hs := hs.opn 1 rfl
      replace hs : Sep S0_ H H89 ([aL p3 ((Txt.split row_ (" " : Str)) : (List Str))] ++ O_Laying K Aself_.p_ Aself_ self_) := hs
      have f93 := hs.cel 1 rfl
      obtain ⟨x94, ex94, hm⟩ := bnd hm
      obtain ⟨vs95, hl96, hv97⟩ := hs.lst 0 rfl
      obtain ⟨u98, hu99, hx100⟩ := hv97.ix ex94
      have hx100 : u98 = (.str x94) := hx100
      subst hx100
      obtain ⟨g101, hm⟩ := gd hm
      refine ⟨_, rfl, _, _, _, rfl, f93, (by kernel_rfl), _, rfl, _, _, _, _, rfl, rfl, SqL.of hl96, hu99, _, rfl, _, rfl, _, rfl, small_le (Nat.le_of_lt (Nat.lt_trans g101 (by decide))), ?_⟩
      replace hs : Sep S0_ H H89 [a_Laying K Aself_ self_, aL p3 ((Txt.split row_ (" " : Str)) : (List Str))] := hs.cl [4,4,4,4] 4 (by kernel_rfl)
      obtain ⟨r102, er102, hm⟩ := bnd hm
      replace hs := hs.mv 0 rfl
      refine ⟨Aself_, self_, (cutS x94 none (some (-1 : Int))), r102, rfl, (hs.frontN 1).1, (hs.frontN 1).2, er102, fun H103 A105 hc104 => ?_⟩
      replace hs := hs.callN 1 hc104
      replace hs : Sep S0_ H H103 [a_Laying K (A105.w Aself_.p_) r102.2] := hs.tk 1
      obtain rfl := Option.some.inj hm
      exact q H103 (A105.w Aself_.p_) hs
    · replace hm := ife c88 hm
      obtain ⟨b138, eb138, hm⟩ := bnd hm
      try dsimp only [tNext, gName]
      try with_reducible refine iteF ?_
      refine if_use hs (b := b138) ?_ ?_
      · skip
        refine evT_and eb138 (fun b139 hb140 => ?_) (fun b141 hb142 => ?_)
        · skip
          refine fun H143 hs Q_ hQ144 => ?_
          have hm := hb140
          obtain ⟨vs145, hl146, hv147⟩ := hs.lst 0 rfl
          refine ⟨_, rfl, _, _, rfl, .inl (SqL.of hl146), ?_⟩
          rw [hv147.length]
          refine ⟨rfl, _, dI, ?_⟩
          rw [Option.some.inj hm]
          exact hQ144 _ (hs.tl 0)
        · skip
          refine fun H148 hs Q_ hQ149 => ?_
          have hm := hb142
          obtain ⟨x150, ex150, hm⟩ := bnd hm
          obtain ⟨vs151, hl152, hv153⟩ := hs.lst 0 rfl
          obtain ⟨u154, hu155, hx156⟩ := hv153.ix ex150
          have hx156 : u154 = (.str x150) := hx156
          subst hx156
          refine ⟨_, rfl, _, _, _, _, rfl, rfl, SqL.of hl152, hu155, _, _, rfl, .inl (T.l_BARE _), rfl, rfl, _, (in_str (xs := ["mark", "tob", "swap", "ret", "push", "pop", "sleep", "back", "half"])), ?_⟩
          rw [Option.some.inj hm]
          exact hQ149 _ (hs.tl 0)
      intro H158 hs
      refine iteBt (fun c157 => ?_) (fun c157 => ?_)
      · replace hm := ift c157 hm
        replace hs := hs.opn 1 rfl
        replace hs : Sep S0_ H H158 ([aL p3 ((Txt.split row_ (" " : Str)) : (List Str))] ++ O_Laying K Aself_.p_ Aself_ self_) := hs
        have f162 := hs.cel 1 rfl
        obtain ⟨x163, ex163, hm⟩ := bnd hm
        obtain ⟨vs164, hl165, hv166⟩ := hs.lst 0 rfl
        obtain ⟨u167, hu168, hx169⟩ := hv166.ix ex163
        have hx169 : u167 = (.str x163) := hx169
        subst hx169
        obtain ⟨r170, er170, hm⟩ := bnd hm
        refine ⟨_, rfl, _, _, _, rfl, f162, (by kernel_rfl), _, rfl, _, _, _, _, rfl, rfl, SqL.of hl165, hu168, x163, (0 : Int), r170, rfl, (hs.frontN 0).1, (hs.frontN 0).2, er170, fun H171 hc172 => ?_⟩
        replace hs := hs.callN 0 hc172
        replace hs : Sep S0_ H H171 [a_Laying K Aself_ self_, aL p3 ((Txt.split row_ (" " : Str)) : (List Str))] := hs.cl [4,4,4,4] 4 (by kernel_rfl)
        obtain ⟨r173, er173, hm⟩ := bnd hm
        replace hs := hs.mv 0 rfl
        refine ⟨Aself_, self_, r170, r173, rfl, (hs.frontN 1).1, (hs.frontN 1).2, er173, fun H174 A176 hc175 => ?_⟩
        replace hs := hs.callN 1 hc175
        replace hs : Sep S0_ H H174 [a_Laying K (A176.w Aself_.p_) r173.2] := hs.tk 1
        obtain rfl := Option.some.inj hm
        exact q H174 (A176.w Aself_.p_) hs
      · replace hm := ife c157 hm
        try dsimp only [tNext, gName]
        try with_reducible refine iteF ?_
        refine if_use hs (b := decide ((¬ ((Txt.split row_ (" " : Str)).length : Int) = (2 : Int)))) ?_ ?_
        · skip
          refine fun H182 hs Q_ hQ183 => ?_
          obtain ⟨vs184, hl185, hv186⟩ := hs.lst 0 rfl
          refine ⟨_, rfl, _, _, rfl, .inl (SqL.of hl185), ?_⟩
          rw [hv186.length]
          refine ⟨rfl, _, dnI, ?_⟩
          exact hQ183 _ (hs.tl 0)
        intro H188 hs
        refine iteD (fun c187 => ?_) (fun c187 => ?_)
        · replace hm := ift c187 hm
          replace hs : Sep S0_ H H188 [a_Laying K Aself_ self_] := (hs.mv 1 rfl).tk 1
          obtain rfl := Option.some.inj hm
          exact q H188 Aself_ hs
        · replace hm := ife c187 hm
          obtain ⟨b217, eb217, hm⟩ := bnd hm
          try dsimp only [tNext, gName]
          try with_reducible refine iteF ?_
          refine if_use hs (b := b217) ?_ ?_
          · skip
            refine fun H218 hs Q_ hQ219 => ?_
            have hm := eb217
            obtain ⟨x220, ex220, hm⟩ := bnd hm
            obtain ⟨vs221, hl222, hv223⟩ := hs.lst 0 rfl
            obtain ⟨u224, hu225, hx226⟩ := hv223.ix ex220
            have hx226 : u224 = (.str x220) := hx226
            subst hx226
            refine ⟨_, rfl, _, _, _, _, rfl, rfl, SqL.of hl222, hu225, (by show 2 ≤ sizeLine; decide), fun t227 n228 => ?_⟩
            try dsimp only
            generalize ee_ : upd H218 t227 _ = H229
            replace hs := (hs.newTup n228 [(.str "at"), (.str "keep")]).cast ee_
            clear ee_
            have f231 := hs.tup 0 rfl
            refine ⟨_, _, rfl, .inr (SqT.of f231), rfl, rfl, _, (in_str (xs := ["at", "keep"])), ?_⟩
            rw [Option.some.inj hm]
            exact hQ219 _ (hs.tl 1)
          intro H233 hs
          refine iteBt (fun c232 => ?_) (fun c232 => ?_)
          · replace hm := ift c232 hm
            cases hm
          · replace hm := ife c232 hm
            obtain ⟨b252, eb252, hm⟩ := bnd hm
            try dsimp only [tNext, gName]
            try with_reducible refine iteF ?_
            refine if_use hs (b := b252) ?_ ?_
            · skip
              refine fun H253 hs Q_ hQ254 => ?_
              have hm := eb252
              obtain ⟨x255, ex255, hm⟩ := bnd hm
              obtain ⟨vs256, hl257, hv258⟩ := hs.lst 0 rfl
              obtain ⟨u259, hu260, hx261⟩ := hv258.ix ex255
              have hx261 : u259 = (.str x255) := hx261
              subst hx261
              refine ⟨_, rfl, _, _, _, _, rfl, rfl, SqL.of hl257, hu260, rfl, _, dS, ?_⟩
              rw [Option.some.inj hm]
              exact hQ254 _ (hs.tl 0)
            intro H263 hs
            refine iteBt (fun c262 => ?_) (fun c262 => ?_)
            · replace hm := ift c262 hm
              replace hs := hs.opn 1 rfl
              replace hs : Sep S0_ H H263 ([aL p3 ((Txt.split row_ (" " : Str)) : (List Str))] ++ O_Laying K Aself_.p_ Aself_ self_) := hs
              have f267 := hs.cel 1 rfl
              obtain ⟨x268, ex268, hm⟩ := bnd hm
              obtain ⟨vs269, hl270, hv271⟩ := hs.lst 0 rfl
              obtain ⟨u272, hu273, hx274⟩ := hv271.ix ex268
              have hx274 : u272 = (.str x268) := hx274
              subst hx274
              replace hs : Sep S0_ H H263 [a_Laying K Aself_ self_, aL p3 ((Txt.split row_ (" " : Str)) : (List Str))] := hs.cl [4,4,4,4] 4 (by kernel_rfl)
              obtain ⟨r275, er275, hm⟩ := bnd hm
              replace hs := hs.mv 0 rfl
              refine ⟨_, rfl, _, _, _, rfl, f267, (by kernel_rfl), _, rfl, _, rfl, _, _, _, _, rfl, rfl, SqL.of hl270, hu273, Aself_, self_, number_, (0 : Int), x268, (65535 : Int), r275, rfl, (hs.frontN 1).1, (hs.frontN 1).2, er275, fun H276 A278 hc277 => ?_⟩
              replace hs := hs.callN 1 hc277
              replace hs : Sep S0_ H H276 [a_Laying K (A278.w Aself_.p_) r275.2] := hs.tk 1
              obtain rfl := Option.some.inj hm
              exact q H276 (A278.w Aself_.p_) hs
            · replace hm := ife c262 hm
              obtain ⟨b310, eb310, hm⟩ := bnd hm
              try dsimp only [tNext, gName]
              try with_reducible refine iteF ?_
              refine if_use hs (b := b310) ?_ ?_
              · skip
                refine evT_and eb310 (fun b311 hb312 => ?_) (fun b313 hb314 => ?_)
                · skip
                  refine fun H315 hs Q_ hQ316 => ?_
                  have hm := hb312
                  obtain ⟨x317, ex317, hm⟩ := bnd hm
                  obtain ⟨vs318, hl319, hv320⟩ := hs.lst 0 rfl
                  obtain ⟨u321, hu322, hx323⟩ := hv320.ix ex317
                  have hx323 : u321 = (.str x317) := hx323
                  subst hx323
                  refine ⟨_, rfl, _, _, _, _, rfl, rfl, SqL.of hl319, hu322, _, _, rfl, .inl (T.l_NAMES _), rfl, rfl, _, (in_str (xs := ["mark", "lit", "get", "put", "add", "sub", "and", "xor", "getb", "putb", "tob", "swap", "go", "ifz", "ifn", "call", "ret", "push", "pop", "sleep", "let", "back", "half"])), ?_⟩
                  rw [Option.some.inj hm]
                  exact hQ316 _ (hs.tl 0)
                · skip
                  refine fun H324 hs Q_ hQ325 => ?_
                  have hm := hb314
                  obtain ⟨x326, ex326, hm⟩ := bnd hm
                  obtain ⟨vs327, hl328, hv329⟩ := hs.lst 0 rfl
                  obtain ⟨u330, hu331, hx332⟩ := hv329.ix ex326
                  have hx332 : u330 = (.str x326) := hx332
                  subst hx332
                  refine ⟨_, rfl, _, _, _, _, rfl, rfl, SqL.of hl328, hu331, _, _, rfl, .inl (T.l_BARE _), rfl, rfl, _, (inN_str (xs := ["mark", "tob", "swap", "ret", "push", "pop", "sleep", "back", "half"])), ?_⟩
                  rw [Option.some.inj hm]
                  exact hQ325 _ (hs.tl 0)
              intro H334 hs
              refine iteBt (fun c333 => ?_) (fun c333 => ?_)
              · replace hm := ift c333 hm
                replace hs := hs.opn 1 rfl
                replace hs : Sep S0_ H H334 ([aL p3 ((Txt.split row_ (" " : Str)) : (List Str))] ++ O_Laying K Aself_.p_ Aself_ self_) := hs
                have f338 := hs.cel 1 rfl
                obtain ⟨x339, ex339, hm⟩ := bnd hm
                obtain ⟨vs340, hl341, hv342⟩ := hs.lst 0 rfl
                obtain ⟨u343, hu344, hx345⟩ := hv342.ix ex339
                have hx345 : u343 = (.str x339) := hx345
                subst hx345
                obtain ⟨r346, er346, hm⟩ := bnd hm
                refine ⟨_, rfl, _, _, _, rfl, f338, (by kernel_rfl), _, rfl, _, rfl, _, _, _, _, rfl, rfl, SqL.of hl341, hu344, x339, (0 : Int), r346, rfl, (hs.frontN 0).1, (hs.frontN 0).2, er346, fun H347 hc348 => ?_⟩
                replace hs := hs.callN 0 hc348
                obtain ⟨x349, ex349, hm⟩ := bnd hm
                obtain ⟨vs350, hl351, hv352⟩ := hs.lst 0 rfl
                obtain ⟨u353, hu354, hx355⟩ := hv352.ix ex349
                have hx355 : u353 = (.str x349) := hx355
                subst hx355
                replace hs : Sep S0_ H H347 [a_Laying K Aself_ self_, aL p3 ((Txt.split row_ (" " : Str)) : (List Str))] := hs.cl [4,4,4,4] 4 (by kernel_rfl)
                obtain ⟨r356, er356, hm⟩ := bnd hm
                replace hs := hs.mv 0 rfl
                refine ⟨_, rfl, _, _, _, _, rfl, rfl, SqL.of hl351, hu354, Aself_, self_, number_, r346, x349, (1023 : Int), r356, rfl, (hs.frontN 1).1, (hs.frontN 1).2, er356, fun H357 A359 hc358 => ?_⟩
                replace hs := hs.callN 1 hc358
                replace hs : Sep S0_ H H357 [a_Laying K (A359.w Aself_.p_) r356.2] := hs.tk 1
                obtain rfl := Option.some.inj hm
                exact q H357 (A359.w Aself_.p_) hs
              · replace hm := ife c333 hm
                replace hs : Sep S0_ H H334 [a_Laying K Aself_ self_] := (hs.mv 1 rfl).tk 1
                obtain rfl := Option.some.inj hm
                exact q H334 Aself_ hs
end
def m_Laying_fill_l1 (self_ : R_Laying) (k54 : (T3 Int Int Str)) (s53 : (List Int)) : Option (Ctl ((Option Int) × R_Laying) ((List Int))) :=
  if ((lookT self_.called k54.c).isSome = false) then
    some (.rt ((some k54.a), { self_ with laid := s53 }))
  else
    (atI s53 k54.b).bind fun x90 =>
    (lookT self_.called k54.c).bind fun x98 =>
    (setX s53 k54.b (x90 + x98)).bind fun y101 =>
    some (.nx y101)
def m_Laying_fill (self_ : R_Laying) : Option ((Option Int) × R_Laying) :=
  thenC (forC (m_Laying_fill_l1 self_) self_.wanted self_.laid) (fun r => some r) fun (s53 : (List Int)) =>
  some (none, { self_ with laid := s53 })
section
variable {P : Program} {w : World} {K : PySem.W.Frag} {mg : Str → Option Value} {base : Heap}
def sp_Laying_fill (K : PySem.W.Frag) : Sp := fun vs H Q E_ => ∃ (Aself_ : A_Laying) (self_ : R_Laying) (r_ : (Option Int) × R_Laying), vs = [.ref Aself_.p_] ∧ (oks H [a_Laying K Aself_ self_] ∧ (owns [a_Laying K Aself_ self_]).Nodup ∧ m_Laying_fill self_ = some r_ ∧ (∀ (H' : Hp) (vz : V) (Bself_ : A_Laying), Sep (owns [a_Laying K Aself_ self_]) H H' [aV vz r_.1, a_Laying K (Bself_.w Aself_.p_) r_.2] → Q vz H'))
abbrev N_Laying_fill : List Str := ["self", "number", "at", "name"]
theorem sc_Laying_fill : FnScope N_Laying_fill ["self"] (defScope s_Laying_fill) := ⟨rfl, rfl, rfl, by decide +kernel, rfl, by decide +kernel, by decide +kernel⟩
theorem ok_Laying_fill (T : Txt K mg) : Ok P w K mg base CX0 1 (He.fAd K ("Laying", some "fill")) ["self"] (sp_Laying_fill K) := by
  obtain ⟨fd, F⟩ := T.d_Laying_fill
  refine ⟨fd, F.ok sc_Laying_fill (fun vs H Q E h => by obtain ⟨Aself_, self_, r_, rfl, _⟩ := h; rfl) (fun cdv A_ outer s_ H vs Q E hr h => ?_), F.bindsN (fun _ _ _ _ _ _ us hl => match us, hl with | [_], _ => rfl), F.kp⟩
  obtain ⟨Aself_, self_, r_, rfl, h⟩ := h
  have hu := hu_of hr
  refine ⟨_, PSs.nox (pss_cons (ps_for PassesOwn.never rfl (pi_list (pe_fld (pv 0) rfl)) (pg_tup rfl (pgs_cons (pg_name (i := 1) sc_Laying_fill.nd rfl (.inl rfl)) (pgs_cons (pg_name (i := 2) sc_Laying_fill.nd rfl (.inl rfl)) (pgs_cons (pg_name (i := 3) sc_Laying_fill.nd rfl (.inl rfl)) pgs_nil)))) (pss_cons (ps_if (pt_cmp (pc_dnotin hu (pv 3) (pe_fld (pv 0) rfl))) (pss_one (ps_ret (pv 1))) pss_nil)
    (pss_one (ps_asg (pe_op op_add (pe_ix ix_list (pe_fld (pv 0) rfl) (pv 2) (fun _ _ => rfl)) (pe_dget hu (pe_fld (pv 0) rfl) (pv 3) (fun _ _ => rfl))) (pg_sub (pe_fld (pv 0) rfl) (pv 2) set_list)))))
  (pss_one (ps_ret pe_non))), ?_⟩
  obtain ⟨hp1, hp2, hm, q⟩ := h
  have hs := Sep.pre (L := [a_Laying K Aself_ self_]) ⟨hp1, hp2⟩
  generalize owns [a_Laying K Aself_ self_] = S0_ at hs q
  unfold m_Laying_fill at hm
  clear hp1 hp2
  replace hs := hs.opn 0 rfl
  replace hs : Sep S0_ H H (O_Laying K Aself_.p_ Aself_ self_) := hs
  have f9 := hs.cel 0 rfl
  obtain ⟨vs10, lv11, hs⟩ := hs.fix 3 rfl
  have hw12 := (hs.wal 3 rfl).1
  obtain ⟨z55, eL56, hmO59⟩ := thenC_eq hm
  replace hs : Sep S0_ H H [q_Laying K Aself_.p_ Aself_ self_, aL Aself_.laid self_.laid, aC Aself_.called (.dK (strK self_.called)), aW Aself_.wanted vs10 self_.wanted] := hs.tk 4
  refine ⟨_, rfl, _, _, _, _, _, rfl, f9, T.k_Laying, T.n_Laying_wanted, F_Laying_wanted, _, rfl, ⟨_, SqL.of hw12⟩, for_listN (K := K) (a := Aself_.wanted) (xs := vs10) (fun i63 σ65 H64 => ∃ (s53 : (List Int)) (o60 : Option V) (o61 : Option V) (o62 : Option V), forC (m_Laying_fill_l1 self_) (self_.wanted.drop i63) s53 = some z55 ∧ Sep S0_ H H64 [q_Laying K Aself_.p_ Aself_ self_, aL Aself_.laid s53, aC Aself_.called (.dK (strK self_.called)), aW Aself_.wanted vs10 self_.wanted] ∧ σ65 = [some (.ref Aself_.p_), o60, o61, o62]) ⟨self_.laid, _, _, _, eL56, hs, rfl⟩ (fun i63 σ65 H64 _ pz => by obtain ⟨s53, o60, o61, o62, hf57, hs, rfl⟩ := pz; exact SqL.of (hs.wal 3 rfl).1) ?_ ?_⟩
  · rintro i63 y68 σ65 H64 hi66 ⟨s53, o60, o61, o62, hf57, hs, rfl⟩
    obtain ⟨k54, hx_, hy_⟩ := (hs.wal 3 rfl).2.nthv hi66
    obtain ⟨cN58, hm, hf57⟩ := forC_s hx_ hf57
    replace hs := hs.addV hy_
    unfold m_Laying_fill_l1 at hm
    obtain ⟨t70, u72, u73, u74, rfl, ht71, rfl, rfl, rfl⟩ := hs.val 0 rfl
    replace hs := hs.addT ht71
    have f76 := hs.tup 0 rfl
    refine ⟨_, _, rfl, SqT.of f76, rfl, _, _, rfl, _, _, rfl, _, _, rfl, rfl, ?_⟩
    try dsimp only [tNext, gName]
    try with_reducible refine iteF ?_
    refine if_use hs (b := decide (((lookT self_.called k54.c).isSome = false))) ?_ ?_
    · skip
      refine fun H81 hs Q_ hQ82 => ?_
      have f83 := hs.cel 2 rfl
      have f84 := hs.cel 4 rfl
      refine ⟨_, rfl, _, rfl, _, _, _, _, _, rfl, f83, T.k_Laying, T.n_Laying_called, F_Laying_called, _, _, rfl, .inl ⟨_, Sum.inr k54.c, .inl f84, rfl, (valV_strK _ _).symm⟩, _, dInN, ?_⟩
      exact hQ82 _ (hs.tl 0)
    intro H86 hs
    refine iteD (fun c85 => ?_) (fun c85 => ?_)
    · replace hm := ift c85 hm
      replace hs := hs.addV (v := (.int k54.a)) (x := ((some k54.a) : (Option Int))) (imO imI)
      replace hs := hs.unfix 6 rfl
      replace hs : Sep S0_ H H86 [a_Laying K Aself_ ({ self_ with laid := s53 }), aV (.int k54.a) ((some k54.a) : (Option Int)), aT t70 [(.int k54.a), (.int k54.b), (.str k54.c)], aV (.ref t70) k54] := hs.cl [6,6,6,6] 4 (by kernel_rfl)
      refine ⟨_, rfl, ?_⟩
      replace hs : Sep S0_ H H86 [aV (.int k54.a) ((some k54.a) : (Option Int)), a_Laying K Aself_ ({ self_ with laid := s53 })] := ((hs.mv 0 rfl).mv 1 rfl).tk 2
      obtain rfl := Option.some.inj hm
      have hc_ : z55 = .rt _ := hf57
      subst hc_
      obtain rfl := Option.some.inj hmO59
      exact q H86 (.int k54.a) Aself_ hs
    · replace hm := ife c85 hm
      have f89 := hs.cel 2 rfl
      obtain ⟨x90, ex90, hm⟩ := bnd hm
      obtain ⟨vs91, hl92, hv93⟩ := hs.lst 3 rfl
      obtain ⟨u94, hu95, hx96⟩ := hv93.ix ex90
      have hx96 : u94 = (.int x90) := hx96
      subst hx96
      have f97 := hs.cel 2 rfl
      obtain ⟨x98, ex98, hm⟩ := bnd hm
      have f99 := hs.cel 4 rfl
      have f100 := hs.cel 2 rfl
      obtain ⟨y101, ey101, hm⟩ := bnd hm
      obtain ⟨vs102, hl103, hv104⟩ := hs.lst 3 rfl
      obtain ⟨j105, hj106, ey107⟩ := setX_ix hv104.length ey101
      refine ⟨_, rfl, _, _, _, _, _, rfl, f89, T.k_Laying, T.n_Laying_laid, F_Laying_laid, _, rfl, _, _, _, _, rfl, rfl, SqL.of hl92, hu95, _, rfl, _, _, _, _, _, rfl, f97, T.k_Laying, T.n_Laying_called, F_Laying_called, _, rfl, _, _, rfl, .inl ⟨_, Sum.inr k54.c, .inl f99, rfl, (lookT_valV ex98).symm⟩, _, _, rfl, rfl, _, rfl, _, _, _, _, _, rfl, f100, T.k_Laying, T.n_Laying_laid, F_Laying_laid, _, rfl, _, _, _, _, rfl, rfl, hl103, hj106, ?_⟩
      try dsimp only
      generalize ee_ : upd H86 Aself_.laid _ = H108
      replace hs := (hs.putL (ys := y101) 3 rfl hl103 (by rw [ey107]; exact hv104.set j105 imI)).cast ee_
      clear ee_
      replace hs : Sep S0_ H H108 [q_Laying K Aself_.p_ Aself_ self_, aL Aself_.laid y101, aC Aself_.called (.dK (strK self_.called)), aW Aself_.wanted vs10 self_.wanted] := hs.pick [5, 5, 5, 5] 4 (by kernel_rfl)
      obtain rfl := Option.some.inj hm
      exact ⟨y101, _, _, _, hf57, hs, rfl⟩
  rintro σ65 H64 ⟨s53, o60, o61, o62, hf57, hs, rfl⟩
  have ez_ := forC_e (Nat.le_of_eq lv11.symm) hf57
  subst ez_
  have hm := hmO59
  replace hs := hs.unfix 3 rfl
  replace hs : Sep S0_ H H64 [a_Laying K Aself_ ({ self_ with laid := s53 })] := hs.cl [3,3,3,3] 4 (by kernel_rfl)
  replace hs := hs.addV (v := .non) (x := (none : (Option Int))) imN
  replace hs : Sep S0_ H H64 [aV .non (none : (Option Int)), a_Laying K Aself_ ({ self_ with laid := s53 })] := hs.tk 2
  obtain rfl := Option.some.inj hm
  exact q H64 .non Aself_ hs
end
def m_typed_l1  (k29 : (Int × Str)) (s28 : R_Laying) : Option (R_Laying) :=
  (m_Laying_take s28 k29.1 k29.2).bind fun r53 =>
  if r53.1 = true then
    some r53.2
  else
    none
def m_typed (text_ : Str) : Option (((List Int) × (List (Str × Int)))) :=
  (m_Laying_init ).bind fun r7 =>
  if text_.length < 16000000 then
  (forS (m_typed_l1) (enumL (Txt.split text_ ("\n" : Str))) r7).bind fun (s28 : R_Laying) =>
  (m_Laying_fill s28).bind fun r62 =>
  if (r62.1 ≠ none) then
    none
  else
    some (r62.2.laid, r62.2.called) else none
section
variable {P : Program} {w : World} {K : PySem.W.Frag} {mg : Str → Option Value} {base : Heap}
def sp_typed (K : PySem.W.Frag) : Sp := fun vs H Q E_ => ∃ (text_ : Str) (r_ : ((List Int) × (List (Str × Int)))), vs = [(.str text_)] ∧ (oks H [] ∧ (owns []).Nodup ∧ m_typed text_ = some r_ ∧ (∀ (H' : Hp) (pz : Addr) (pz0 : Addr) (pz1 : Addr), Sep (owns []) H H' [aT pz [(.ref pz0), (.ref pz1)], aL pz0 r_.1, aC pz1 (.dK (strK r_.2))] → Q (.ref pz) H'))
abbrev N_typed : List Str := ["text", "laying", "number", "row", "lacking"]
theorem sc_typed : FnScope N_typed ["text"] (defScope s_typed) := ⟨rfl, rfl, rfl, by decide +kernel, rfl, by decide +kernel, by decide +kernel⟩
theorem ok_typed (T : Txt K mg) : Ok P w K mg base CX0 4 (He.fAd K ("typed", none)) ["text"] (sp_typed K) := by
  obtain ⟨_, G_Laying_init, b_Laying_init, kp_Laying_init⟩ := ok_Laying_init (P := P) (w := w) (base := base) T
  obtain ⟨_, G_Laying_take, b_Laying_take, kp_Laying_take⟩ := ok_Laying_take (P := P) (w := w) (base := base) T
  obtain ⟨_, G_Laying_fill, b_Laying_fill, kp_Laying_fill⟩ := ok_Laying_fill (P := P) (w := w) (base := base) T
  obtain ⟨fd, F⟩ := T.d_typed
  refine ⟨fd, F.ok sc_typed (fun vs H Q E h => by obtain ⟨text_, r_, rfl, _⟩ := h; rfl) (fun cdv A_ outer s_ H vs Q E hr h => ?_), F.bindsN (fun _ _ _ _ _ _ us hl => match us, hl with | [_], _ => rfl), F.kp⟩
  obtain ⟨text_, r_, rfl, h⟩ := h
  have hu := hu_of hr
  refine ⟨_, PSs.nox (pss_cons (ps_set (i := 1) sc_typed.nd rfl (.inl rfl) (pe_make0 T.mk_Laying G_Laying_init (hr.mono (by decide)) (by rfl) T.g_Laying b_Laying_init .nil pass0))
  (pss_cons (ps_for PassesOwn.never rfl (pi_enum (by rfl) T.f_enumerate (pa_cons (pe_split (pv 0) pe_str) pa_nil)) (pg_tup rfl (pgs_cons (pg_name (i := 2) sc_typed.nd rfl (.inl rfl)) (pgs_cons (pg_name (i := 3) sc_typed.nd rfl (.inl rfl)) pgs_nil))) (pss_one (ps_if (pt_not (pt_val (pe_meth (pv 1) T.k_Laying T.m_Laying_take G_Laying_take (hr.mono (by decide)) b_Laying_take .nil pass0 (pa_cons (pv 2) (pa_cons (pv 3) pa_nil))))) (pss_one ps_never) pss_nil)))
  (pss_cons (ps_set (i := 4) sc_typed.nd rfl (.inl rfl) (pe_meth0 (pv 1) T.k_Laying T.m_Laying_fill G_Laying_fill (hr.mono (by decide)) b_Laying_fill .nil pass0))
  (pss_cons (ps_if (pt_cmpR op_notN (pv 4) pe_non (nomark _)) (pss_one ps_never) pss_nil)
  (pss_one (ps_ret (pe_tup (pa_cons (pe_fld (pv 1) rfl) (pa_cons (pe_fld (pv 1) rfl) pa_nil))))))))), ?_⟩
  obtain ⟨hp1, hp2, hm, q⟩ := h
  have hs := Sep.pre (L := []) ⟨hp1, hp2⟩
  unfold m_typed at hm
  clear hp1 hp2
  refine fun pb1 dx2 n3 n4 ne5 => ?_
  have np_ : (upd H dx2 (.own pb1)) pb1 = none := by rw [upd_ne (fun e => ne5 e.symm)]; exact n3
  replace hs := ((hs.newT (o := .own pb1) n4).newC np_ (.ins (He.ga K "Laying") dx2 []))
  obtain ⟨r7, er7, hm⟩ := bnd hm
  replace hs := hs.mv 0 rfl
  refine ⟨pb1, dx2, r7, rfl, (hs.frontN 1).1, (hs.frontN 1).2, er7, fun H8 A10 hc9 => ⟨rfl, ?_⟩⟩
  replace hs := hs.callN 1 hc9
  obtain ⟨g11, hm⟩ := gd hm
  refine ⟨_, rfl, ⟨_, rfl⟩, _, _, rfl, rfl, rfl, small_le (show text_.length + 2 ≤ 16777216 by omega), fun p12 n13 => ?_⟩
  try dsimp only
  generalize ee_ : upd H8 p12 _ = H14
  replace hs := (hs.newL (ys := ((Txt.split text_ ("\n" : Str)) : (List Str))) n13 (Imms.ofSc _)).cast ee_
  clear ee_
  obtain ⟨vs16, lv17, hs⟩ := hs.fix 0 rfl
  have hw18 := (hs.wal 0 rfl).1
  obtain ⟨z30, eL31, hm⟩ := bnd hm
  replace hs : Sep (owns []) H H14 [aW p12 vs16 ((Txt.split text_ ("\n" : Str)) : (List Str)), a_Laying K (A10.w pb1) r7] := hs.tk 2
  refine ⟨_, _, rfl, SqL.of hw18, for_enumN (K := K) (a := p12) (xs := vs16) (fun i38 σ40 H39 => ∃ (s28 : R_Laying) (A35 : A_Laying) (o36 : Option V) (o37 : Option V), forS (m_typed_l1) ((enumL (Txt.split text_ ("\n" : Str))).drop i38) s28 = some z30 ∧ Sep (owns []) H H39 [aW p12 vs16 ((Txt.split text_ ("\n" : Str)) : (List Str)), a_Laying K (A35.w pb1) s28] ∧ σ40 = [some (.str text_), some (.ref pb1), o36, o37, none]) ⟨r7, A10.w pb1, _, _, eL31, hs, rfl⟩ (fun i38 σ40 H39 _ pz => by obtain ⟨s28, A35, o36, o37, hf32, hs, rfl⟩ := pz; exact SqL.of (hs.wal 0 rfl).1) ?_ ?_⟩
  · rintro i38 y43 T44 σ40 H39 hi41 ⟨s28, A35, o36, o37, hf32, hs, rfl⟩ nT45
    obtain ⟨x_, hx_, hy_⟩ := (hs.wal 0 rfl).2.nthv hi41
    obtain ⟨cN33, hm, hf32⟩ := forS_s (enumL_get hx_) hf32
    obtain ⟨k29, hx1_⟩ : ∃ z_, z_ = (((i38 : Nat) : Int), x_) := ⟨_, rfl⟩
    rw [← hx1_] at hm
    have e1_ : ((i38 : Nat) : Int) = k29.1 := by rw [hx1_]
    have e2_ : x_ = k29.2 := by rw [hx1_]
    rw [e2_] at hy_
    rw [e1_]
    clear e1_ e2_ hx1_ hx_
    have hy_ : y43 = (.str k29.2) := hy_
    subst hy_
    try dsimp only
    generalize ee_ : upd H39 T44 _ = H46
    replace hs := (hs.newTup nT45 [(.int k29.1), (.str k29.2)]).cast ee_
    clear ee_
    unfold m_typed_l1 at hm
    have f48 := hs.tup 0 rfl
    refine ⟨_, _, rfl, SqT.of f48, rfl, _, _, rfl, _, _, rfl, rfl, ?_⟩
    replace hs := hs.opn 2 rfl
    replace hs : Sep (owns []) H H46 ([aT T44 [(.int k29.1), (.str k29.2)], aW p12 vs16 ((Txt.split text_ ("\n" : Str)) : (List Str))] ++ O_Laying K pb1 A35 s28) := hs
    have f52 := hs.cel 2 rfl
    replace hs : Sep (owns []) H H46 [a_Laying K (A_Laying.mk pb1 A35.dx_ A35.laid A35.called A35.wanted) s28, aT T44 [(.int k29.1), (.str k29.2)], aW p12 vs16 ((Txt.split text_ ("\n" : Str)) : (List Str))] := hs.cl [5,5,5,5] 4 (by kernel_rfl)
    obtain ⟨r53, er53, hm⟩ := bnd hm
    replace hs := hs.mv 0 rfl
    refine ⟨_, rfl, _, _, _, rfl, f52, (by kernel_rfl), _, rfl, _, rfl, (A_Laying.mk pb1 A35.dx_ A35.laid A35.called A35.wanted), s28, k29.1, k29.2, r53, rfl, (hs.frontN 1).1, (hs.frontN 1).2, er53, fun H54 A56 hc55 => ?_⟩
    replace hs := hs.callN 1 hc55
    refine ⟨_, dB, ?_⟩
    refine iteNot (fun c57 => ?_) (fun c57 => ?_)
    · replace hm := ift c57 hm
      replace hs : Sep (owns []) H H54 [aW p12 vs16 ((Txt.split text_ ("\n" : Str)) : (List Str)), a_Laying K (A56.w pb1) r53.2] := ((hs.mv 0 rfl).mv 2 rfl).tk 2
      obtain rfl := Option.some.inj hm
      exact ⟨r53.2, A56.w pb1, _, _, hf32, hs, rfl⟩
    · replace hm := ife c57 hm
      cases hm
  rintro σ40 H39 ⟨s28, A35, o36, o37, hf32, hs, rfl⟩
  have ez_ := forS_e (Nat.le_of_eq (enumL_len.trans lv17.symm)) hf32
  subst ez_
  replace hs := hs.unfix 0 rfl
  replace hs := hs.opn 1 rfl
  replace hs : Sep (owns []) H H39 ([aL p12 ((Txt.split text_ ("\n" : Str)) : (List Str))] ++ O_Laying K pb1 A35 s28) := hs
  have f61 := hs.cel 1 rfl
  replace hs : Sep (owns []) H H39 [a_Laying K (A_Laying.mk pb1 A35.dx_ A35.laid A35.called A35.wanted) s28, aL p12 ((Txt.split text_ ("\n" : Str)) : (List Str))] := hs.cl [4,4,4,4] 4 (by kernel_rfl)
  obtain ⟨r62, er62, hm⟩ := bnd hm
  replace hs := hs.mv 0 rfl
  refine ⟨_, rfl, _, _, _, rfl, f61, (by kernel_rfl), (A_Laying.mk pb1 A35.dx_ A35.laid A35.called A35.wanted), s28, r62, rfl, (hs.frontN 1).1, (hs.frontN 1).2, er62, fun H63 vz65 A66 hc64 => ?_⟩
  replace hs := hs.callN 1 hc64
  try dsimp only [tNext, gName]
  try with_reducible refine iteF ?_
  refine if_use hs (b := decide ((r62.1 ≠ none))) ?_ ?_
  · skip
    refine fun H71 hs Q_ hQ72 => ?_
    have f73 := hs.val 0 rfl
    refine ⟨_, rfl, rfl, _, (opt_decN f73), ?_⟩
    exact hQ72 _ (hs.tl 0)
  intro H75 hs
  refine iteD (fun c74 => ?_) (fun c74 => ?_)
  · replace hm := ift c74 hm
    cases hm
  · replace hm := ife c74 hm
    replace hs := hs.opn 1 rfl
    replace hs : Sep (owns []) H H75 ([aV vz65 r62.1] ++ O_Laying K pb1 A66 r62.2 ++ [aL p12 ((Txt.split text_ ("\n" : Str)) : (List Str))]) := hs
    have f79 := hs.cel 1 rfl
    have f80 := hs.cel 1 rfl
    refine ⟨_, rfl, _, _, _, _, _, rfl, f79, T.k_Laying, T.n_Laying_laid, F_Laying_laid, _, rfl, _, _, _, _, _, rfl, f80, T.k_Laying, T.n_Laying_called, F_Laying_called, (by show 2 ≤ sizeLine; decide), fun t81 n82 => ?_⟩
    try dsimp only
    generalize ee_ : upd H75 t81 _ = H83
    replace hs := (hs.newTup n82 [.ref A66.laid, .ref A66.called]).cast ee_
    clear ee_
    replace hs : Sep (owns []) H H83 [aT t81 [.ref A66.laid, .ref A66.called], aL A66.laid r62.2.laid, aC A66.called (.dK (strK r62.2.called))] := (((hs.mv 4 rfl).mv 4 rfl).mv 2 rfl).tk 3
    obtain rfl := Option.some.inj hm
    exact q H83 t81 A66.laid A66.called hs
end
def m__law_cell (script_ : List Int) (k_ : Int) : Option (Int) :=
  if (k_ < (script_.length : Int)) then
    (atI script_ k_).bind fun x9 =>
    some x9
  else
    some (k_ + (1 : Int))
section
variable {P : Program} {w : World} {K : PySem.W.Frag} {mg : Str → Option Value} {base : Heap}
def sp__law_cell (K : PySem.W.Frag) : Sp := fun vs H Q E_ => ∃ (pscript_ : Addr) (script_ : List Int) (k_ : Int) (r_ : Int), vs = [.ref pscript_, (.int k_)] ∧ (SqL K H pscript_ (script_.map V.int) ∧ oks H [] ∧ (owns []).Nodup ∧ m__law_cell script_ k_ = some r_ ∧ (∀ (H' : Hp) , Sep (owns []) H H' [] → Q (.int r_) H'))
abbrev N__law_cell : List Str := ["_law_script", "_law_k"]
theorem sc__law_cell : FnScope N__law_cell ["_law_script", "_law_k"] (defScope s__law_cell) := ⟨rfl, rfl, rfl, by decide +kernel, rfl, by decide +kernel, by decide +kernel⟩
theorem ok__law_cell (T : Txt K mg) : Ok P w K mg base CX0 1 (He.fAd K ("_law_cell", none)) ["_law_script", "_law_k"] (sp__law_cell K) := by
  obtain ⟨fd, F⟩ := T.d__law_cell
  refine ⟨fd, F.ok sc__law_cell (fun vs H Q E h => by obtain ⟨pscript_, script_, k_, r_, rfl, _⟩ := h; rfl) (fun cdv A_ outer s_ H vs Q E hr h => ?_), F.bindsN (fun _ _ _ _ _ _ us hl => match us, hl with | [_, _], _ => rfl), F.kp⟩
  obtain ⟨pscript_, script_, k_, r_, rfl, h⟩ := h
  have hu := hu_of hr
  refine ⟨_, PSs.nox (pss_cons (ps_if (pt_cmpR op_lt (pv 1) (pe_callB call_len_seq (by rfl) T.f_len PySem.boot_len (pa_cons (pv 0) pa_nil)) (nomark _)) (pss_one (ps_ret (pe_ix ix_list (pv 0) (pv 1) (fun _ _ => rfl)))) pss_nil)
  (pss_one (ps_ret (pe_op op_add (pv 1) pe_int)))), ?_⟩
  obtain ⟨sscript_, hp1, hp2, hm, q⟩ := h
  have hs := Sep.pre (L := []) ⟨hp1, hp2⟩
  unfold m__law_cell at hm
  clear hp1 hp2
  try dsimp only [tNext, gName]
  try with_reducible refine iteF ?_
  refine if_use hs (b := decide ((k_ < (script_.length : Int)))) ?_ ?_
  · skip
    refine fun H4 hs Q_ hQ5 => ?_
    have f6 := hs.kp.seq not_in_nil sscript_
    refine ⟨_, rfl, _, rfl, _, _, rfl, .inl f6, ?_⟩
    rw [List.length_map]
    refine ⟨_, _, rfl, rfl, _, rfl, ?_⟩
    exact hQ5 _ (hs.tl 0)
  intro H8 hs
  refine iteD (fun c7 => ?_) (fun c7 => ?_)
  · replace hm := ift c7 hm
    obtain ⟨x9, ex9, hm⟩ := bnd hm
    obtain ⟨u10, hu11, hx12⟩ := (Imms.ofSc (H := H8) script_).ix ex9
    have hx12 : u10 = .int x9 := hx12
    subst hx12
    have f13 := hs.kp.seq not_in_nil sscript_
    refine ⟨_, rfl, _, rfl, _, _, _, _, rfl, rfl, f13, hu11, ?_⟩
    replace hs : Sep (owns []) H H8 [] := hs.tk 0
    obtain rfl := Option.some.inj hm
    exact q H8 hs
  · replace hm := ife c7 hm
    refine ⟨_, rfl, _, _, rfl, rfl, ?_⟩
    replace hs : Sep (owns []) H H8 [] := hs.tk 0
    obtain rfl := Option.some.inj hm
    exact q H8 hs
end
def m__law_digits_l1  (k48 : Int) (s47 : Int × Int × (List Int)) : Option (Int × Int × (List Int)) :=
  (some ((((s47.2.1 * (48271 : Int)) + ((30103 : Int) * k48)) + (11 : Int)) % (2147483647 : Int))).bind fun n60 =>
  if CMul n60 ((n60 / (1009 : Int)) + (69621 : Int)) then
  (some ((n60 * ((n60 / (1009 : Int)) + (69621 : Int))) % (2147483629 : Int))).bind fun n62 =>
  if ((0 : Int) < s47.1) then
    (snoc s47.2.2 (s47.1 % (1009 : Int))).bind fun y73 =>
    some (s47.1 / (1009 : Int), n62, y73)
  else
    (snoc s47.2.2 ((n62 / (7 : Int)) % (1009 : Int))).bind fun y81 =>
    some (s47.1, n62, y81) else none
def m__law_digits (cell_here_ : Int) (many_ : Int) : Option ((List Int)) :=
  (if (((10 : Int) ^ Int.toNat (18 : Int)) ≤ cell_here_) then
    some cell_here_
  else
    some (0 : Int)).bind fun (j11 : Int) =>
  (some (cell_here_ % (2147483647 : Int))).bind fun n20 =>
  if -(2 ^ 62) ≤ many_ ∧ many_ < 2 ^ 62 then
  (forS (m__law_digits_l1) (rangeL 0 (Int.toNat many_)) (j11, n20, ([] : (List Int)))).bind fun (s47 : Int × Int × (List Int)) =>
  some s47.2.2 else none
section
variable {P : Program} {w : World} {K : PySem.W.Frag} {mg : Str → Option Value} {base : Heap}
def sp__law_digits (K : PySem.W.Frag) : Sp := fun vs H Q E_ => ∃ (cell_here_ : Int) (many_ : Int) (r_ : (List Int)), vs = [(.int cell_here_), (.int many_)] ∧ (oks H [] ∧ (owns []).Nodup ∧ m__law_digits cell_here_ many_ = some r_ ∧ (∀ (H' : Hp) (pz : Addr), Sep (owns []) H H' [aL pz r_] → Q (.ref pz) H'))
abbrev N__law_digits : List Str := ["_law_cell_here", "_law_many", "_law_row", "_law_rest", "_law_number", "_law_k"]
theorem sc__law_digits : FnScope N__law_digits ["_law_cell_here", "_law_many"] (defScope s__law_digits) := ⟨rfl, rfl, rfl, by decide +kernel, rfl, by decide +kernel, by decide +kernel⟩
theorem ok__law_digits (T : Txt K mg) : Ok P w K mg base CX0 1 (He.fAd K ("_law_digits", none)) ["_law_cell_here", "_law_many"] (sp__law_digits K) := by
  obtain ⟨fd, F⟩ := T.d__law_digits
  refine ⟨fd, F.ok sc__law_digits (fun vs H Q E h => by obtain ⟨cell_here_, many_, r_, rfl, _⟩ := h; rfl) (fun cdv A_ outer s_ H vs Q E hr h => ?_), F.bindsN (fun _ _ _ _ _ _ us hl => match us, hl with | [_, _], _ => rfl), F.kp⟩
  obtain ⟨cell_here_, many_, r_, rfl, h⟩ := h
  have hu := hu_of hr
  refine ⟨_, PSs.nox (pss_cons (ps_set (i := 2) sc__law_digits.nd rfl (.inl rfl) (pe_lst pa_nil))
  (pss_cons (ps_set (i := 3) sc__law_digits.nd rfl (.inl rfl) pe_int)
  (C8.pss_cut (ps_if (pt_cmpR op_ge (pv 0) (pe_op op_pow pe_int pe_int) (nomark _)) (pss_one (ps_set (i := 3) sc__law_digits.nd rfl (.inl rfl) (pv 0))) pss_nil)
  (pss_cons (ps_set (i := 4) sc__law_digits.nd rfl (.inl rfl) (pe_op op_mod (pv 0) pe_int))
  (pss_cons (ps_for PassesOwn.never rfl (pi_range1 (by rfl) T.f_range (pa_cons (pv 1) pa_nil)) (pg_name (i := 5) sc__law_digits.nd rfl (.inl rfl)) (pss_cons (ps_set (i := 4) sc__law_digits.nd rfl (.inl rfl) (pe_op op_mod (pe_op op_add (pe_op op_add (pe_op op_mul (pv 4) pe_int) (pe_op op_mul pe_int (pv 5))) pe_int) pe_int))
    (pss_cons (ps_set (i := 4) sc__law_digits.nd rfl (.inl rfl) (pe_op op_mod (pe_op op_mul (pv 4) (pe_op op_add (pe_op op_fdiv (pv 4) pe_int) pe_int)) pe_int))
    (pss_one (ps_if (pt_cmpR op_gt (pv 3) pe_int (nomark _)) (pss_cons (ps_expr (pe_bm PySem.F.plainAttrs_list PySem.F.slot_list_append PySem.F.type_list_append mt_append (pv 2) (pa_cons (pe_op op_mod (pv 3) pe_int) pa_nil)))
      (pss_one (ps_set (i := 3) sc__law_digits.nd rfl (.inl rfl) (pe_op op_fdiv (pv 3) pe_int)))) (pss_one (ps_expr (pe_bm PySem.F.plainAttrs_list PySem.F.slot_list_append PySem.F.type_list_append mt_append (pv 2) (pa_cons (pe_op op_mod (pe_op op_fdiv (pv 4) pe_int) pe_int) pa_nil)))))))))
  (pss_one (ps_ret (pv 2)))))))), ?_⟩
  obtain ⟨hp1, hp2, hm, q⟩ := h
  have hs := Sep.pre (L := []) ⟨hp1, hp2⟩
  unfold m__law_digits at hm
  clear hp1 hp2
  refine ⟨(by show 0 ≤ sizeLine; decide), fun p1 n2 => ?_⟩
  try dsimp only
  generalize ee_ : upd H p1 _ = H3
  replace hs := (hs.newL (ys := (([] : (List Int)) : (List Int))) n2 (.nil)).cast ee_
  clear ee_
  obtain ⟨j11, es12, hm⟩ := bnd hm
  refine ⟨fun σ' H13 => Sep (owns []) H H13 [aL p1 (([] : (List Int)) : (List Int))] ∧ σ' = [some (.int cell_here_), some (.int many_), some (.ref p1), some (.int j11), none, none], ?_, ?_⟩
  · have hm := es12
    try dsimp only [tNext, gName]
    try with_reducible refine iteF ?_
    refine if_use hs (b := decide ((((10 : Int) ^ Int.toNat (18 : Int)) ≤ cell_here_))) ?_ ?_
    · skip
      refine fun H16 hs Q_ hQ17 => ?_
      refine ⟨_, rfl, _, _, rfl, rfl, ⟨by decide, by decide, by decide⟩, _, _, rfl, rfl, _, rfl, ?_⟩
      exact hQ17 _ (hs.tl 0)
    intro H19 hs
    refine iteD (fun c18 => ?_) (fun c18 => ?_)
    · replace hm := ift c18 hm
      refine ⟨_, rfl, ?_⟩
      replace hs : Sep (owns []) H H19 [aL p1 (([] : (List Int)) : (List Int))] := hs.tk 1
      obtain rfl := Option.some.inj hm
      exact ⟨hs, rfl⟩
    · replace hm := ife c18 hm
      replace hs : Sep (owns []) H H19 [aL p1 (([] : (List Int)) : (List Int))] := hs.tk 1
      obtain rfl := Option.some.inj hm
      exact ⟨hs, rfl⟩
  rintro σ' H13 ⟨hs, rfl⟩
  refine ⟨_, rfl, _, _, rfl, rfl, (show (0 : Int) < (2147483647 : Int) by decide), ?_⟩
  obtain ⟨n20, en20, hm⟩ := bnd hm
  try dsimp only
  rw [Option.some.inj en20]
  obtain ⟨g21, hm⟩ := gd hm
  obtain ⟨z49, eL50, hm⟩ := bnd hm
  replace hs : Sep (owns []) H H13 [aL p1 (([] : (List Int)) : (List Int))] := hs.tk 1
  refine ⟨_, rfl, _, rfl, g21.1, g21.2, for_rangeN (lo := (0 : Int)) (n := (Int.toNat many_)) (fun i55 σ57 H56 => ∃ (s47 : Int × Int × (List Int)) (o54 : Option V), forS (m__law_digits_l1) ((rangeL 0 (Int.toNat many_)).drop i55) s47 = some z49 ∧ Sep (owns []) H H56 [aL p1 s47.2.2] ∧ σ57 = [some (.int cell_here_), some (.int many_), some (.ref p1), some (.int s47.1), some (.int s47.2.1), o54]) ⟨(j11, n20, ([] : (List Int))), _, eL50, hs, rfl⟩ ?_ ?_⟩
  · rintro i55 σ57 H56 hi58 ⟨s47, o54, hf51, hs, rfl⟩
    obtain ⟨cN52, hm, hf51⟩ := forS_s (range_get hi58) hf51
    generalize hk_ : (0 : Int) + ((i55 : Nat) : Int) = k48 at hm ⊢
    unfold m__law_digits_l1 at hm
    refine ⟨_, rfl, _, _, rfl, rfl, .inr ⟨by decide, by decide⟩, _, rfl, _, _, rfl, rfl, .inl ⟨by decide, by decide⟩, _, _, rfl, rfl, _, _, rfl, rfl, _, _, rfl, rfl, (show (0 : Int) < (2147483647 : Int) by decide), ?_⟩
    obtain ⟨n60, en60, hm⟩ := bnd hm
    try dsimp only
    rw [Option.some.inj en60]
    obtain ⟨g61, hm⟩ := gd hm
    refine ⟨_, rfl, _, rfl, _, _, rfl, rfl, ⟨by decide, by decide⟩, _, _, rfl, rfl, _, _, rfl, rfl, g61, _, _, rfl, rfl, (show (0 : Int) < (2147483629 : Int) by decide), ?_⟩
    obtain ⟨n62, en62, hm⟩ := bnd hm
    try dsimp only
    rw [Option.some.inj en62]
    try dsimp only [tNext, gName]
    try with_reducible refine iteF ?_
    refine if_use hs (b := decide (((0 : Int) < s47.1))) ?_ ?_
    · skip
      refine fun H65 hs Q_ hQ66 => ?_
      refine ⟨_, rfl, _, _, rfl, rfl, _, rfl, ?_⟩
      exact hQ66 _ (hs.tl 0)
    intro H68 hs
    refine iteD (fun c67 => ?_) (fun c67 => ?_)
    · replace hm := ift c67 hm
      have f69 := (hs.lst 0 rfl).choose_spec.1
      obtain ⟨y73, ey73, hm⟩ := bnd hm
      obtain ⟨vs70, hl71, hv72⟩ := hs.lst 0 rfl
      obtain ⟨g74, e75⟩ := snoc_eq ey73
      refine ⟨_, rfl, .inl ⟨rfl, _, SqL.of f69⟩, _, rfl, _, _, rfl, rfl, (show (0 : Int) < (1009 : Int) by decide), _, _, _, rfl, rfl, hl71, small_ (by have := hv72.length; omega), ?_⟩
      try dsimp only
      generalize ee_ : upd H68 p1 _ = H76
      replace hs := (hs.putL (ys := y73) 0 rfl hl71 (by rw [e75]; exact hv72.snoc imI)).cast ee_
      clear ee_
      refine ⟨_, rfl, _, _, rfl, rfl, ⟨by decide, by decide⟩, ?_⟩
      replace hs : Sep (owns []) H H76 [aL p1 y73] := hs.tk 1
      obtain rfl := Option.some.inj hm
      exact ⟨(s47.1 / (1009 : Int), n62, y73), _, hf51, hs, rfl⟩
    · replace hm := ife c67 hm
      have f77 := (hs.lst 0 rfl).choose_spec.1
      obtain ⟨y81, ey81, hm⟩ := bnd hm
      obtain ⟨vs78, hl79, hv80⟩ := hs.lst 0 rfl
      obtain ⟨g82, e83⟩ := snoc_eq ey81
      refine ⟨_, rfl, .inl ⟨rfl, _, SqL.of f77⟩, _, rfl, _, _, rfl, rfl, ⟨by decide, by decide⟩, _, _, rfl, rfl, (show (0 : Int) < (1009 : Int) by decide), _, _, _, rfl, rfl, hl79, small_ (by have := hv80.length; omega), ?_⟩
      try dsimp only
      generalize ee_ : upd H68 p1 _ = H84
      replace hs := (hs.putL (ys := y81) 0 rfl hl79 (by rw [e83]; exact hv80.snoc imI)).cast ee_
      clear ee_
      replace hs : Sep (owns []) H H84 [aL p1 y81] := hs.tk 1
      obtain rfl := Option.some.inj hm
      exact ⟨(s47.1, n62, y81), _, hf51, hs, rfl⟩
  rintro σ57 H56 ⟨s47, o54, hf51, hs, rfl⟩
  have ez_ := forS_e (Nat.le_of_eq range_len) hf51
  subst ez_
  refine ⟨_, rfl, ?_⟩
  replace hs : Sep (owns []) H H56 [aL p1 s47.2.2] := hs.tk 1
  obtain rfl := Option.some.inj hm
  exact q H56 p1 hs
end
def m_law_l2 (r365 : (List Int)) (k418 : Int) (a417 : (List Int)) : Option ((List Int)) :=
  (atI r365 (k418 % (60 : Int))).bind fun x427 =>
  (atI r365 (((k418 / (60 : Int)) + ((7 : Int) * k418)) % (60 : Int))).bind fun x434 =>
  snoc a417 (((x427 * (1009 : Int)) + x434) % (65536 : Int))
def m_law_l3  (k472 : Int) (a471 : (List Str)) : Option ((List Str)) :=
  (m_row_of k472).bind fun r482 =>
  snoc a471 r482
def m_law_l4 (a417 : (List Int)) (r453 : Str) (k565 : Int) (s564 : Unit) : Option (Ctl (Bool) (Unit)) :=
  (m_typed r453).bind fun r579 =>
  (orO (some (decide (¬ (r579.1 = a417)))) (if sameK (strK r579.2) (strK ([] : (List (Str × Int)))) = true then some (decide (False)) else none)).bind fun b619 =>
  if b619 = true then
    some (.rt false)
  else
    (snoc r579.1 (3 : Int)).bind fun y643 =>
    if r579.2.length < 16000000 then
    some (.nx ()) else none
def m_law_l1  (k344 : Int) (s343 : Unit) : Option (Ctl (Bool) (Unit)) :=
  (m__law_digits k344 (60 : Int)).bind fun r365 =>
  (atI r365 (0 : Int)).bind fun x370 =>
  (atI r365 (0 : Int)).bind fun x377 =>
  (atI r365 (1 : Int)).bind fun x388 =>
  (atI ([x370 % (60 : Int), x377 % (513 : Int), (512 : Int), (0 : Int)] : (List Int)) (x388 % (4 : Int))).bind fun x395 =>
  if -(2 ^ 62) ≤ x395 ∧ x395 < 2 ^ 62 then
  (forS (m_law_l2 r365) (rangeL 0 (Int.toNat x395)) []).bind fun a417 =>
  (m_listed a417).bind fun r453 =>
  if ¬ (a417 = a417) then
    some (.rt false)
  else
    (forS (m_law_l3) a417 []).bind fun a471 =>
    if (a471.map (·.length)).sum + a471.length * ("\n" : Str).length ≤ 16777216 then
    if ¬ r453 = (Txt.join ("\n" : Str) a471) then
      some (.rt false)
    else
      thenC (forC (m_law_l4 a417 r453) (rangeL 0 (Int.toNat (2 : Int))) ()) (fun r => some (.rt r)) fun (s564 : Unit) =>
      some (.nx ()) else none else none
def m_law (script_ : List Int) : Option (Bool) :=
  (if ((cutX script_ none (some (4 : Int))) = ([] : List Int)) then
    some ([(4 : Int), (19 : Int)] : (List Int))
  else
    some (cutX script_ none (some (4 : Int)))).bind fun (j28 : (List Int)) =>
  thenC (forC (m_law_l1) j28 ()) (fun r => some r) fun (s343 : Unit) =>
  some true
section
variable {P : Program} {w : World} {K : PySem.W.Frag} {mg : Str → Option Value} {base : Heap}
def sp_law (K : PySem.W.Frag) : Sp := fun vs H Q E_ => ∃ (pscript_ : Addr) (script_ : List Int) (r_ : Bool), vs = [.ref pscript_] ∧ (SqL K H pscript_ (script_.map V.int) ∧ oks H [] ∧ (owns []).Nodup ∧ m_law script_ = some r_ ∧ (∀ (H' : Hp) , Sep (owns []) H H' [] → Q (.bl r_) H'))
abbrev N_law : List Str := ["_law_script", "_law_cells", "_law_cell_here", "_law_row", "_law_many", "_law_k", "_law_image", "_law_handed", "_law_text", "_law_word", "_law_turn", "_law_found", "_law_named"]
theorem sc_law : FnScope N_law ["_law_script"] (defScope s_law) := ⟨rfl, rfl, rfl, by decide +kernel, rfl, by decide +kernel, by decide +kernel⟩
theorem okF_law (T : Txt K mg) {fd : FuncData} (F : FnP K "law" "law" s_law (He.fAd K ("law", none)) fd) : FnOk P w K mg base CX0 5 (He.fAd K ("law", none)) fd ["_law_script"] (sp_law K) := by
  obtain ⟨_, G__law_digits, b__law_digits, kp__law_digits⟩ := ok__law_digits (P := P) (w := w) (base := base) T
  obtain ⟨_, G_listed, b_listed, kp_listed⟩ := ok_listed (P := P) (w := w) (base := base) T
  obtain ⟨_, G_row_of, b_row_of, kp_row_of⟩ := ok_row_of (P := P) (w := w) (base := base) T
  obtain ⟨_, G_typed, b_typed, kp_typed⟩ := ok_typed (P := P) (w := w) (base := base) T
  refine F.ok sc_law (fun vs H Q E h => by obtain ⟨pscript_, script_, r_, rfl, _⟩ := h; rfl) (fun cdv A_ outer s_ H vs Q E hr h => ?_)
  obtain ⟨pscript_, script_, r_, rfl, h⟩ := h
  have hu := hu_of hr
  refine ⟨_, PSs.nox (pss_cons (ps_set (i := 1) sc_law.nd rfl (.inl rfl) (pe_slice sl_list (pv 0) po_none (po_some pe_int)))
  (C8.pss_cut (ps_if (pt_cmpR (op_eqD hr.units) (pv 1) (pe_lst pa_nil) (nomark _)) (pss_one (ps_set (i := 1) sc_law.nd rfl (.inl rfl) (pe_lst (pa_cons pe_int (pa_cons pe_int pa_nil))))) pss_nil)
  (pss_cons (ps_for PassesOwn.never rfl (pi_list (pv 1)) (pg_name (i := 2) sc_law.nd rfl (.inl rfl)) (pss_cons (ps_set (i := 3) sc_law.nd rfl (.inr rfl) (pe_call G__law_digits (hr.mono (by decide)) (by rfl) T.g__law_digits kp__law_digits b__law_digits .nil pass0 (pa_cons (pv 2) (pa_cons pe_int pa_nil))))
    (pss_cons (ps_set (i := 4) sc_law.nd rfl (.inl rfl) (pe_ix ix_list (pe_lst (pa_cons (pe_op op_mod (pe_ix ix_list (pv 3) pe_int (fun _ _ => rfl)) pe_int) (pa_cons (pe_op op_mod (pe_ix ix_list (pv 3) pe_int (fun _ _ => rfl)) pe_int) (pa_cons pe_int (pa_cons pe_int pa_nil))))) (pe_op op_mod (pe_ix ix_list (pv 3) pe_int (fun _ _ => rfl)) pe_int) (fun _ _ => rfl)))
    (pss_cons (ps_setLc (i := 6) (own := [("_law_k", 5)]) (g := gName 5) (tt := tYes) rfl sc_law.nd rfl rfl (sw_true rfl rfl rfl (by decide +kernel)) (pi_range1 (by rfl) T.f_range (pa_cons (pv 4) pa_nil)) (blkOk_by (own := [("_law_k", 5)]) (N := N_law) (sc := defScope s_law) (by decide +kernel)) (fun _ _ _ _ _ => pg_name (i := 5) sc_law.nd rfl (Or.inl rfl)) (fun _ _ _ _ _ => pts_nil) (fun _ _ _ _ _ => (pe_op op_mod (pe_op op_add (pe_op op_mul (pe_ix (ix_listK (K := K) rfl) (pv 3) (pe_op op_mod (pv 5) pe_int) (fun _ _ => rfl)) pe_int) (pe_ix (ix_listK (K := K) rfl) (pv 3) (pe_op op_mod (pe_op op_add (pe_op op_fdiv (pv 5) pe_int) (pe_op op_mul pe_int (pv 5))) pe_int) (fun _ _ => rfl))) pe_int)))
    (pss_cons (ps_set (i := 7) sc_law.nd rfl (.inl rfl) (pe_callTy call_list_of (by rfl) T.f_list (by decide +kernel) (pa_cons (pv 6) pa_nil)))
    (pss_cons (ps_set (i := 8) sc_law.nd rfl (.inl rfl) (pe_call G_listed (hr.mono (by decide)) (by rfl) T.g_listed kp_listed b_listed .nil pass0 (pa_cons (pv 7) pa_nil)))
    (pss_cons (ps_if (PW.pt (pw_or (pt_cmpR (op_neD hr.units) (pv 7) (pv 6) (nomark _)) (pw_or1 (pt_cmpR op_ne (pv 8) (pe_join pe_str (pe_lc (own := [("_law_word", 9)]) (g := gName 9) (tt := tYes) rfl sc_law.nd (pi_list (pv 6)) (blkOk_by (own := [("_law_word", 9)]) (N := N_law) (sc := defScope s_law) (by decide +kernel)) (fun _ _ _ _ _ => pg_name (i := 9) sc_law.nd rfl (Or.inl rfl)) (fun _ _ _ _ _ => pts_nil) (fun _ _ _ _ _ => (pe_call G_row_of (hr.mono (by decide)) (by rfl) T.g_row_of kp_row_of b_row_of .nil pass0 (pa_cons (pv 9) pa_nil))))) (nomark _))))) (pss_one (ps_ret pe_bl)) pss_nil)
    (pss_one (ps_for PassesOwn.never rfl (pi_range1 (by rfl) T.f_range (pa_cons pe_int pa_nil)) (pg_name (i := 10) sc_law.nd rfl (.inl rfl)) (pss_cons (ps_asg (pe_call G_typed (hr.mono (by decide)) (by rfl) T.g_typed kp_typed b_typed .nil pass0 (pa_cons (pv 8) pa_nil)) (pg_tup rfl (pgs_cons (pg_name (i := 11) sc_law.nd rfl (.inl rfl)) (pgs_cons (pg_name (i := 12) sc_law.nd rfl (.inl rfl)) pgs_nil))))
      (pss_cons (ps_if (PW.pt (pw_or (pt_cmpR (op_neD hr.units) (pv 11) (pv 6) (nomark _)) (pw_or1 (pt_cmpR (op_neDQ hr.units) (pv 12) pe_dnewK (nomark _))))) (pss_one (ps_ret pe_bl)) pss_nil)
      (pss_cons (ps_expr (pe_bm PySem.F.plainAttrs_list PySem.F.slot_list_append PySem.F.type_list_append mt_append (pv 11) (pa_cons pe_int pa_nil)))
      (pss_one (ps_dput hu (pv 12) pe_str pe_int rfl))))))))))))))
  (pss_one (ps_ret pe_bl))))), ?_⟩
  obtain ⟨sscript_, hp1, hp2, hm, q⟩ := h
  have hs := Sep.pre (L := []) ⟨hp1, hp2⟩
  unfold m_law at hm
  clear hp1 hp2
  have f1 := hs.kp.seq not_in_nil sscript_
  refine ⟨_, rfl, _, rfl, _, _, rfl, f1, fun p2 n3 => ?_⟩
  try dsimp only
  generalize ee_ : upd H p2 _ = H4
  replace hs := (hs.newL (ys := ((cutX script_ none (some (4 : Int))) : (List Int))) n3 ((Imms.ofSc script_).cut none (some (4 : Int)))).cast ee_
  clear ee_
  obtain ⟨j28, es29, hm⟩ := bnd hm
  refine ⟨fun σ' H32 => ∃ (p30 : Addr), Sep (owns []) H H32 [aL p30 j28] ∧ σ' = [some (.ref pscript_), some (.ref p30), none, none, none, none, none, none, none, none, none, none, none], ?_, ?_⟩
  · have hm := es29
    try dsimp only [tNext, gName]
    try with_reducible refine iteF ?_
    refine if_use hs (b := decide (((cutX script_ none (some (4 : Int))) = ([] : List Int)))) ?_ ?_
    · skip
      refine fun H41 hs Q_ hQ42 => ?_
      refine ⟨_, rfl, (by show 0 ≤ sizeLine; decide), fun p43 n44 => ?_⟩
      try dsimp only
      generalize ee_ : upd H41 p43 _ = H45
      replace hs := (hs.newC n44 (.lst [])).cast ee_
      clear ee_
      have f47 := hs.scs 1 rfl
      have f48 := hs.cel 0 rfl
      refine ⟨.list ((cutX script_ none (some (4 : Int))).map PyData.int), .list (([] : List Int).map PyData.int), dpL (SqL.of f47), dpL (xs := ([] : List Int)) (SqL.of f48), (shp_of (k := 9) (ok_L (okA_map (fun _ => ok_i) _)) (by decide)), (shp_ints _), _, (eqv_dec (eqv_intL _ _)), ?_⟩
      exact hQ42 _ (hs.tl 1)
    intro H50 hs
    refine iteD (fun c49 => ?_) (fun c49 => ?_)
    · replace hm := ift c49 hm
      refine ⟨(by show 2 ≤ sizeLine; decide), fun p51 n52 => ?_⟩
      try dsimp only
      generalize ee_ : upd H50 p51 _ = H53
      replace hs := (hs.newL (ys := (([(4 : Int), (19 : Int)] : (List Int)) : (List Int))) n52 ((.cons imI (.cons imI .nil)))).cast ee_
      clear ee_
      replace hs : Sep (owns []) H H53 [aL p51 (([(4 : Int), (19 : Int)] : (List Int)) : (List Int))] := hs.tk 1
      obtain rfl := Option.some.inj hm
      exact ⟨p51, hs, rfl⟩
    · replace hm := ife c49 hm
      replace hs : Sep (owns []) H H50 [aL p2 ((cutX script_ none (some (4 : Int))) : (List Int))] := hs.tk 1
      obtain rfl := Option.some.inj hm
      exact ⟨p2, hs, rfl⟩
  rintro σ' H32 ⟨p30, hs, rfl⟩
  obtain ⟨vs55, lv56, hs⟩ := hs.fix 0 rfl
  have hw57 := (hs.wal 0 rfl).1
  obtain ⟨z345, eL346, hmO349⟩ := thenC_eq hm
  replace hs : Sep (owns []) H H32 [aW p30 vs55 j28] := hs.tk 1
  refine ⟨_, rfl, _, rfl, ⟨_, SqL.of hw57⟩, for_listN (K := K) (a := p30) (xs := vs55) (fun i359 σ361 H360 => ∃ (s343 : Unit) (o350 : Option V) (o351 : Option V) (o352 : Option V) (o353 : Option V) (o354 : Option V) (o355 : Option V) (o356 : Option V) (o357 : Option V) (o358 : Option V), forC (m_law_l1) (j28.drop i359) s343 = some z345 ∧ Sep (owns []) H H360 [aW p30 vs55 j28] ∧ σ361 = [some (.ref pscript_), some (.ref p30), o350, o351, o352, none, o353, o354, o355, none, o356, o357, o358]) ⟨(), _, _, _, _, _, _, _, _, _, eL346, hs, rfl⟩ (fun i359 σ361 H360 _ pz => by obtain ⟨s343, o350, o351, o352, o353, o354, o355, o356, o357, o358, hf347, hs, rfl⟩ := pz; exact SqL.of (hs.wal 0 rfl).1) ?_ ?_⟩
  · rintro i359 y364 σ361 H360 hi362 ⟨s343, o350, o351, o352, o353, o354, o355, o356, o357, o358, hf347, hs, rfl⟩
    obtain ⟨k344, hx_, hy_⟩ := (hs.wal 0 rfl).2.nthv hi362
    obtain ⟨cN348, hm, hf347⟩ := forC_s hx_ hf347
    have hy_ : y364 = (.int k344) := hy_
    subst hy_
    unfold m_law_l1 at hm
    obtain ⟨r365, er365, hm⟩ := bnd hm
    refine ⟨_, rfl, k344, (60 : Int), r365, rfl, (hs.frontN 0).1, (hs.frontN 0).2, er365, fun H366 pz368 hc367 => ?_⟩
    replace hs := hs.callN 0 hc367
    obtain ⟨x370, ex370, hm⟩ := bnd hm
    obtain ⟨vs371, hl372, hv373⟩ := hs.lst 0 rfl
    obtain ⟨u374, hu375, hx376⟩ := hv373.ix ex370
    have hx376 : u374 = (.int x370) := hx376
    subst hx376
    obtain ⟨x377, ex377, hm⟩ := bnd hm
    obtain ⟨vs378, hl379, hv380⟩ := hs.lst 0 rfl
    obtain ⟨u381, hu382, hx383⟩ := hv380.ix ex377
    have hx383 : u381 = (.int x377) := hx383
    subst hx383
    refine ⟨_, rfl, _, _, _, _, rfl, rfl, SqL.of hl372, hu375, _, _, rfl, rfl, (show (0 : Int) < (60 : Int) by decide), _, rfl, _, _, _, _, rfl, rfl, SqL.of hl379, hu382, _, _, rfl, rfl, (show (0 : Int) < (513 : Int) by decide), (by show 4 ≤ sizeLine; decide), fun p384 n385 => ?_⟩
    try dsimp only
    generalize ee_ : upd H366 p384 _ = H386
    replace hs := (hs.newL (ys := (([x370 % (60 : Int), x377 % (513 : Int), (512 : Int), (0 : Int)] : (List Int)) : (List Int))) n385 ((.cons imI (.cons imI (.cons imI (.cons imI .nil)))))).cast ee_
    clear ee_
    obtain ⟨x388, ex388, hm⟩ := bnd hm
    obtain ⟨vs389, hl390, hv391⟩ := hs.lst 1 rfl
    obtain ⟨u392, hu393, hx394⟩ := hv391.ix ex388
    have hx394 : u392 = (.int x388) := hx394
    subst hx394
    obtain ⟨x395, ex395, hm⟩ := bnd hm
    obtain ⟨vs396, hl397, hv398⟩ := hs.lst 0 rfl
    obtain ⟨u399, hu400, hx401⟩ := hv398.ix ex395
    have hx401 : u399 = (.int x395) := hx401
    subst hx401
    refine ⟨_, rfl, _, _, _, _, rfl, rfl, SqL.of hl390, hu393, _, _, rfl, rfl, (show (0 : Int) < (4 : Int) by decide), _, _, _, _, rfl, rfl, SqL.of hl397, hu400, ?_⟩
    obtain ⟨g402, hm⟩ := gd hm
    obtain ⟨z419, eL420, hm⟩ := bnd hm
    refine ⟨_, rfl, _, rfl, g402.1, g402.2, fun p421 n422 => lc_range (lo := (0 : Int)) (n := (Int.toNat x395)) (fun i423 H424 => ∃ (a417 : (List Int)), forS (m_law_l2 r365) ((rangeL 0 (Int.toNat x395)).drop i423) a417 = some z419 ∧ Sep (owns []) H H424 (aL p421 a417 :: [aL p384 (([x370 % (60 : Int), x377 % (513 : Int), (512 : Int), (0 : Int)] : (List Int)) : (List Int)), aL pz368 r365, aW p30 vs55 j28])) ⟨([] : (List Int)), eL420, hs.newL n422 .nil⟩ ?_ ?_⟩
    · rintro i423 H424 hi425 ⟨a417, hf, hs⟩
      obtain ⟨sN_, hm, hf⟩ := forS_s (range_get hi425) hf
      generalize hk_ : (0 : Int) + ((i423 : Nat) : Int) = k418 at hm ⊢
      unfold m_law_l2 at hm
      refine ⟨by kernel_rfl, ?_⟩
      obtain ⟨x427, ex427, hm⟩ := bnd hm
      obtain ⟨vs428, hl429, hv430⟩ := hs.lst 2 rfl
      obtain ⟨u431, hu432, hx433⟩ := hv430.ix ex427
      have hx433 : u431 = (.int x427) := hx433
      subst hx433
      obtain ⟨x434, ex434, hm⟩ := bnd hm
      obtain ⟨vs435, hl436, hv437⟩ := hs.lst 2 rfl
      obtain ⟨u438, hu439, hx440⟩ := hv437.ix ex434
      have hx440 : u438 = (.int x434) := hx440
      subst hx440
      obtain ⟨vs441, hD442, hv443⟩ := hs.lst 0 rfl
      obtain ⟨g444, g445⟩ := snoc_eq hm
      subst g445
      refine ⟨_, rfl, _, rfl, _, _, rfl, rfl, (show (0 : Int) < (60 : Int) by decide), _, _, _, _, rfl, rfl, SqL.of hl429, hu432, _, _, rfl, rfl, .inr ⟨by decide, by decide⟩, _, rfl, _, rfl, _, _, rfl, rfl, ⟨by decide, by decide⟩, _, rfl, _, _, rfl, rfl, .inl ⟨by decide, by decide⟩, _, _, rfl, rfl, _, _, rfl, rfl, (show (0 : Int) < (60 : Int) by decide), _, _, _, _, rfl, rfl, SqL.of hl436, hu439, _, _, rfl, rfl, _, _, rfl, rfl, (show (0 : Int) < (65536 : Int) by decide), _, hD442, small_ (by have := hv443.length; omega), ?_⟩
      replace hv443 := hv443.snoc (v := (.int (((x427 * (1009 : Int)) + x434) % (65536 : Int)))) (x := (((x427 * (1009 : Int)) + x434) % (65536 : Int) : Int)) imI
      replace hs : Sep (owns []) H H424 [aL p421 a417, aL p384 (([x370 % (60 : Int), x377 % (513 : Int), (512 : Int), (0 : Int)] : (List Int)) : (List Int)), aL pz368 r365, aW p30 vs55 j28] := hs.tk 4
      exact ⟨_, hf, hs.putL 0 rfl hD442 hv443⟩
    rintro H424 ⟨a417, hf, hs⟩
    have ez_ := forS_e (Nat.le_of_eq range_len) hf
    subst ez_
    obtain ⟨vs446, hl447, hv448⟩ := hs.lst 0 rfl
    refine ⟨_, rfl, _, _, rfl, .inl (SqL.of hl447), fun p449 n450 => ?_⟩
    try dsimp only
    generalize ee_ : upd H424 p449 _ = H451
    replace hs := (hs.newL (ys := (a417 : (List Int))) n450 (hv448)).cast ee_
    clear ee_
    obtain ⟨r453, er453, hm⟩ := bnd hm
    replace hs := hs.mv 0 rfl
    refine ⟨_, rfl, p449, a417, r453, rfl, (hs.frontN 1).1, (hs.frontN 1).2, er453, fun H454 hc455 => ?_⟩
    replace hs := hs.callN 1 hc455
    have f456 := hs.scs 0 rfl
    have f457 := hs.scs 1 rfl
    refine ⟨_, rfl, _, rfl, .list (a417.map PyData.int), .list (a417.map PyData.int), dpL (SqL.of f456), dpL (SqL.of f457), (shp_of (k := 9) (ok_L (okA_map (fun _ => ok_i) _)) (by decide)), (shp_of (k := 9) (ok_L (okA_map (fun _ => ok_i) _)) (by decide)), _, (eqv_decN (eqv_intL _ _)), ?_⟩
    refine iteD (fun c458 => ?_) (fun c458 => ?_)
    · replace hm := ift c458 hm
      replace hs := hs.unfix 4 rfl
      replace hs : Sep (owns []) H H454 [] := hs.tk 0
      obtain rfl := Option.some.inj hm
      have hc_ : z345 = .rt _ := hf347
      subst hc_
      obtain rfl := Option.some.inj hmO349
      exact q H454 hs
    · replace hm := ife c458 hm
      obtain ⟨vs465, lv466, hs⟩ := hs.fix 1 rfl
      have hw467 := (hs.wal 1 rfl).1
      obtain ⟨z473, eL474, hm⟩ := bnd hm
      refine ⟨_, rfl, ⟨_, rfl⟩, _, rfl, _, rfl, ⟨_, SqL.of hw467⟩, fun p475 n476 => lc_list (K := K) (a := p421) (xs := vs465) (fun i477 H478 => ∃ (a471 : (List Str)), forS (m_law_l3) (a417.drop i477) a471 = some z473 ∧ Sep (owns []) H H478 (aL p475 a471 :: [aL p449 a417, aW p421 vs465 a417, aL p384 (([x370 % (60 : Int), x377 % (513 : Int), (512 : Int), (0 : Int)] : (List Int)) : (List Int)), aL pz368 r365, aW p30 vs55 j28])) ⟨([] : (List Str)), eL474, hs.newL n476 .nil⟩ (fun i477 H478 _ pz => by obtain ⟨a471, hf, hs⟩ := pz; exact SqL.of (hs.wal 2 rfl).1) ?_ ?_⟩
      · rintro i477 y481 H478 hi479 ⟨a471, hf, hs⟩
        obtain ⟨k472, hx_, hy_⟩ := (hs.wal 2 rfl).2.nthv hi479
        obtain ⟨sN_, hm, hf⟩ := forS_s hx_ hf
        have hy_ : y481 = (.int k472) := hy_
        subst hy_
        unfold m_law_l3 at hm
        refine ⟨by kernel_rfl, ?_⟩
        obtain ⟨r482, er482, hm⟩ := bnd hm
        refine ⟨_, rfl, k472, r482, rfl, (hs.frontN 0).1, (hs.frontN 0).2, er482, fun H483 hc484 => ?_⟩
        replace hs := hs.callN 0 hc484
        obtain ⟨vs485, hD486, hv487⟩ := hs.lst 0 rfl
        obtain ⟨g488, g489⟩ := snoc_eq hm
        subst g489
        refine ⟨_, hD486, small_ (by have := hv487.length; omega), ?_⟩
        replace hv487 := hv487.snoc (v := (.str r482)) (x := (r482 : Str)) imS
        replace hs : Sep (owns []) H H483 [aL p475 a471, aL p449 a417, aW p421 vs465 a417, aL p384 (([x370 % (60 : Int), x377 % (513 : Int), (512 : Int), (0 : Int)] : (List Int)) : (List Int)), aL pz368 r365, aW p30 vs55 j28] := hs.tk 6
        exact ⟨_, hf, hs.putL 0 rfl hD486 hv487⟩
      rintro H478 ⟨a471, hf, hs⟩
      have ez_ := forS_e (Nat.le_of_eq lv466.symm) hf
      subst ez_
      replace hs := hs.unfix 2 rfl
      obtain ⟨g490, hm⟩ := gd hm
      have f491 := hs.scs 0 rfl
      refine ⟨_, _, a471, rfl, rfl, .inl (SqL.of f491), g490, ?_⟩
      refine ⟨rfl, _, dnS, ?_⟩
      refine iteD (fun c492 => ?_) (fun c492 => ?_)
      · replace hm := ift c492 hm
        replace hs := hs.unfix 5 rfl
        replace hs : Sep (owns []) H H478 [] := hs.tk 0
        obtain rfl := Option.some.inj hm
        have hc_ : z345 = .rt _ := hf347
        subst hc_
        obtain rfl := Option.some.inj hmO349
        exact q H478 hs
      · replace hm := ife c492 hm
        obtain ⟨z566, eL567, hmO570⟩ := thenC_eq hm
        replace hs : Sep (owns []) H H478 [aL p449 a417, aL p421 a417, aL pz368 r365, aW p30 vs55 j28] := hs.pick [5, 5, 4, 4] 4 (by kernel_rfl)
        refine ⟨_, rfl, by decide, by decide, for_rangeN (lo := (0 : Int)) (n := (Int.toNat (2 : Int))) (fun i574 σ576 H575 => ∃ (s564 : Unit) (o571 : Option V) (o572 : Option V) (o573 : Option V), forC (m_law_l4 a417 r453) ((rangeL 0 (Int.toNat (2 : Int))).drop i574) s564 = some z566 ∧ Sep (owns []) H H575 [aL p449 a417, aL p421 a417, aL pz368 r365, aW p30 vs55 j28] ∧ σ576 = [some (.ref pscript_), some (.ref p30), some (.int k344), some (.ref pz368), some (.int x395), none, some (.ref p421), some (.ref p449), some (.str r453), none, o571, o572, o573]) ⟨(), _, _, _, eL567, hs, rfl⟩ ?_ ?_⟩
        · rintro i574 σ576 H575 hi577 ⟨s564, o571, o572, o573, hf568, hs, rfl⟩
          obtain ⟨cN569, hm, hf568⟩ := forC_s (range_get hi577) hf568
          generalize hk_ : (0 : Int) + ((i574 : Nat) : Int) = k565 at hm ⊢
          unfold m_law_l4 at hm
          obtain ⟨r579, er579, hm⟩ := bnd hm
          refine ⟨_, rfl, r453, r579, rfl, (hs.frontN 0).1, (hs.frontN 0).2, er579, fun H580 pz582 pz0583 pz1584 hc581 => ?_⟩
          replace hs := hs.callN 0 hc581
          have f588 := hs.tup 0 rfl
          refine ⟨_, _, rfl, SqT.of f588, rfl, _, _, rfl, _, _, rfl, rfl, ?_⟩
          obtain ⟨b619, eb619, hm⟩ := bnd hm
          try dsimp only [tNext, gName]
          try with_reducible refine iteF ?_
          refine if_use hs (b := b619) ?_ ?_
          · skip
            refine evT_or eb619 (fun b620 hb621 => ?_) (fun b622 hb623 => ?_)
            · skip
              refine fun H624 hs Q_ hQ625 => ?_
              have hm := hb621
              have f626 := hs.scs 1 rfl
              have f627 := hs.scs 4 rfl
              refine ⟨_, rfl, _, rfl, .list (r579.1.map PyData.int), .list (a417.map PyData.int), dpL (SqL.of f626), dpL (SqL.of f627), (shp_of (k := 9) (ok_L (okA_map (fun _ => ok_i) _)) (by decide)), (shp_of (k := 9) (ok_L (okA_map (fun _ => ok_i) _)) (by decide)), _, (eqv_decN (eqv_intL _ _)), ?_⟩
              rw [Option.some.inj hm]
              exact hQ625 _ (hs.tl 0)
            · skip
              refine fun H628 hs Q_ hQ629 => ?_
              have hm := hb623
              refine ⟨_, rfl, fun p630 n631 => ?_⟩
              try dsimp only
              generalize ee_ : upd H628 p630 _ = H632
              replace hs := (hs.newC n631 (.dK (strK ([] : (List (Str × Int)))))).cast ee_
              clear ee_
              obtain ⟨g634, hm⟩ := gd hm
              have f635 := hs.cel 3 rfl
              have f636 := hs.cel 0 rfl
              refine ⟨_, _, _, _, rfl, rfl, f635, f636, g634, _, (show V.bl false = V.bl (decide False) from rfl), ?_⟩
              rw [Option.some.inj hm]
              exact hQ629 _ (hs.tl 1)
          intro H638 hs
          refine iteBt (fun c637 => ?_) (fun c637 => ?_)
          · replace hm := ift c637 hm
            replace hs := hs.unfix 6 rfl
            replace hs : Sep (owns []) H H638 [] := hs.tk 0
            obtain rfl := Option.some.inj hm
            have hc_ : z566 = .rt _ := hf568
            subst hc_
            obtain rfl := Option.some.inj hmO570
            have hc_ : z345 = .rt _ := hf347
            subst hc_
            obtain rfl := Option.some.inj hmO349
            exact q H638 hs
          · replace hm := ife c637 hm
            have f639 := (hs.lst 1 rfl).choose_spec.1
            obtain ⟨y643, ey643, hm⟩ := bnd hm
            obtain ⟨vs640, hl641, hv642⟩ := hs.lst 1 rfl
            obtain ⟨g644, e645⟩ := snoc_eq ey643
            refine ⟨_, rfl, .inl ⟨rfl, _, SqL.of f639⟩, _, _, _, rfl, rfl, hl641, small_ (by have := hv642.length; omega), ?_⟩
            try dsimp only
            generalize ee_ : upd H638 pz0583 _ = H646
            replace hs := (hs.putL (ys := y643) 1 rfl hl641 (by rw [e645]; exact hv642.snoc imI)).cast ee_
            clear ee_
            obtain ⟨g647, hm⟩ := gd hm
            have f648 := hs.cel 2 rfl
            refine ⟨_, rfl, _, _, rfl, .inl ⟨_, Sum.inr ("x" : Str), f648, rfl, small_ (by rw [strK_len]; omega), rfl⟩, ?_⟩
            try dsimp only
            generalize ee_ : upd H646 pz1584 _ = H649
            replace hs := (hs.putDT 2 rfl ("x" : Str) (1 : Int)).cast ee_
            clear ee_
            replace hs : Sep (owns []) H H649 [aL p449 a417, aL p421 a417, aL pz368 r365, aW p30 vs55 j28] := hs.pick [6, 6, 6, 6] 4 (by kernel_rfl)
            obtain rfl := Option.some.inj hm
            exact ⟨(), _, _, _, hf568, hs, rfl⟩
        rintro σ576 H575 ⟨s564, o571, o572, o573, hf568, hs, rfl⟩
        have ez_ := forC_e (Nat.le_of_eq range_len) hf568
        subst ez_
        have hm := hmO570
        replace hs : Sep (owns []) H H575 [aW p30 vs55 j28] := (hs.mv 3 rfl).tk 1
        obtain rfl := Option.some.inj hm
        exact ⟨(), _, _, _, _, _, _, _, _, _, hf347, hs, rfl⟩
  rintro σ361 H360 ⟨s343, o350, o351, o352, o353, o354, o355, o356, o357, o358, hf347, hs, rfl⟩
  have ez_ := forC_e (Nat.le_of_eq lv56.symm) hf347
  subst ez_
  have hm := hmO349
  replace hs := hs.unfix 0 rfl
  replace hs : Sep (owns []) H H360 [] := hs.tk 0
  obtain rfl := Option.some.inj hm
  exact q H360 hs
end

def Digs (ds : List Int) : Prop := ∀ d ∈ ds, 0 ≤ d ∧ d < 1009
theorem Digs.snoc {ds : List Int} (h : Digs ds) {d : Int} (h0 : 0 ≤ d ∧ d < 1009) : Digs (ds ++ [d]) := fun x hx => by
  rcases List.mem_append.mp hx with z | z
  · exact h x z
  · rw [List.mem_singleton.mp z]; exact h0

/-! ### loops of the mirrors, in plain words -/
theorem forS_inv {α σ : Type} {f : α → σ → Option σ} {xs : List α} {s : σ} (P : Nat → σ → Prop) (h0 : P 0 s) (hs : ∀ i x s, xs[i]? = some x → P i s → ∃ s', f x s = some s' ∧ P (i + 1) s') : ∃ s', forS f xs s = some s' ∧ P xs.length s' := by
  induction xs generalizing s P with
  | nil => exact ⟨s, rfl, h0⟩
  | cons x r ih =>
    obtain ⟨s1, e1, p1⟩ := hs 0 x s rfl h0
    obtain ⟨s2, e2, p2⟩ := ih (s := s1) (fun i => P (i + 1)) p1 fun i y s hy hp => hs (i + 1) y s (by simpa using hy) hp
    refine ⟨s2, ?_, p2⟩
    show (f x s).bind (forS f r) = _
    rw [e1]; exact e2
theorem forC_inv {α σ ρ : Type} {f : α → σ → Option (Ctl ρ σ)} {xs : List α} {s : σ} (P : Nat → σ → Prop) (h0 : P 0 s) (hs : ∀ i x s, xs[i]? = some x → P i s → ∃ s', f x s = some (.nx s') ∧ P (i + 1) s') : ∃ s', forC f xs s = some (.nx s') ∧ P xs.length s' := by
  induction xs generalizing s P with
  | nil => exact ⟨s, rfl, h0⟩
  | cons x r ih =>
    obtain ⟨s1, e1, p1⟩ := hs 0 x s rfl h0
    obtain ⟨s2, e2, p2⟩ := ih (s := s1) (fun i => P (i + 1)) p1 fun i y s hy hp => hs (i + 1) y s (by simpa using hy) hp
    refine ⟨s2, ?_, p2⟩
    show ((f x s).bind fun c => _) = _
    rw [e1]; exact e2
theorem bnd_of {α β : Type} {o : Option α} {f : α → Option β} {x : α} {r : Option β} (h : o = some x) (e : f x = r) : o.bind f = r := by rw [h]; exact e
theorem thenC_nx {ρ σ τ : Type} {o : Option (Ctl ρ σ)} {fr : ρ → Option τ} {k : σ → Option τ} {s : σ} {x : Option τ} (h : o = some (.nx s)) (e : k s = x) : thenC o fr k = x := by rw [h]; exact e
theorem snoc_ok {α : Type} {xs : List α} {x : α} (h : xs.length < 16000000) : snoc xs x = some (xs ++ [x]) := if_pos h
theorem catL_ok {α : Type} {xs ys : List α} (h : xs.length + ys.length < 16000000) : catL xs ys = some (xs ++ ys) := if_pos h
theorem repL_one {α : Type} {x : α} {n : Int} (h0 : 0 ≤ n) (h : n < 16000000) : repL [x] n = some (List.replicate n.toNat x) := by
  unfold repL
  rw [if_pos ⟨by omega, by omega, by show 1 * n.toNat < 16000000; omega⟩]
  congr 1
  generalize n.toNat = m
  induction m with
  | zero => rfl
  | succ m ih => rw [List.replicate_succ, List.flatten_cons, ih, List.replicate_succ]; rfl
theorem atI_ok {α : Type} {xs : List α} {i : Nat} {x : α} (h : xs[i]? = some x) : atI xs (i : Int) = some x := atI_nat h
theorem atI_z {α : Type} {xs : List α} {i : Int} {x : α} (h0 : 0 ≤ i) (h : xs[i.toNat]? = some x) : atI xs i = some x := by
  have := atI_nat (xs := xs) h
  rwa [show ((i.toNat : Nat) : Int) = i by omega] at this
theorem dg_at {ds : List Int} {n : Nat} (hl : ds.length = n) (hd : Digs ds) (i : Int) (h0 : 0 ≤ i) (hi : i < n) : ∃ d, atI ds i = some d ∧ 0 ≤ d ∧ d < 1009 := by
  have hlt : i.toNat < ds.length := by omega
  exact ⟨ds[i.toNat], atI_z h0 (List.getElem?_eq_getElem hlt), hd _ (List.getElem_mem _)⟩
theorem range_mem {lo : Int} {n i : Nat} {x : Int} (h : (rangeL lo n)[i]? = some x) : x = lo + (i : Int) ∧ i < n := by
  have hl := (List.getElem?_eq_some_iff.mp h).1
  rw [range_len] at hl
  rw [range_get hl] at h
  exact ⟨(Option.some.inj h).symm, hl⟩

theorem digits_ok (c : Int) {n : Nat} (hn : n ≤ 1000) : ∃ ds, m__law_digits c n = some ds ∧ ds.length = n ∧ Digs ds := by
  unfold m__law_digits
  have key : ∀ j : Int, ∃ s, forS m__law_digits_l1 (rangeL 0 (Int.toNat n)) (j, c % 2147483647, []) = some s ∧ (s.2.2.length = n ∧ Digs s.2.2 ∧ 0 ≤ s.2.1 ∧ s.2.1 < 2147483647) := fun j => by
    have := forS_inv (f := m__law_digits_l1) (xs := rangeL 0 (Int.toNat n)) (s := (j, c % 2147483647, [])) (fun i s => s.2.2.length = i ∧ Digs s.2.2 ∧ 0 ≤ s.2.1 ∧ s.2.1 < 2147483647) ⟨rfl, (fun _ z => by cases z), Int.emod_nonneg _ (by decide), Int.emod_lt_of_pos _ (by decide)⟩ ?_
    · rw [range_len] at this
      simpa using this
    · rintro i k ⟨rest, m, ds⟩ hk ⟨hl, hd, h0, h1⟩
      obtain ⟨rfl, hi⟩ := range_mem hk
      have hi2 : i < n := by simpa using hi
      have hl : ds.length = i := hl
      have h0 : 0 ≤ m := h0
      have h1 : m < 2147483647 := h1
      obtain ⟨u, eu⟩ : ∃ u, u = (m * 48271 + 30103 * (0 + (i : Int)) + 11) % 2147483647 := ⟨_, rfl⟩
      have g1 : 0 ≤ u := by rw [eu]; exact Int.emod_nonneg _ (by decide)
      have g2 : u < 2147483647 := by rw [eu]; exact Int.emod_lt_of_pos _ (by decide)
      obtain ⟨v, ev⟩ : ∃ v, v = u * (u / 1009 + 69621) % 2147483629 := ⟨_, rfl⟩
      have g3 : 0 ≤ v := by rw [ev]; exact Int.emod_nonneg _ (by decide)
      have g4 : v < 2147483629 := by rw [ev]; exact Int.emod_lt_of_pos _ (by decide)
      have step : m__law_digits_l1 (0 + (i : Int)) (rest, m, ds) = (if 0 < rest then (snoc ds (rest % 1009)).bind fun y => some (rest / 1009, v, y) else (snoc ds (v / 7 % 1009)).bind fun y => some (rest, v, y)) := by
        unfold m__law_digits_l1
        refine bnd_of rfl ?_
        dsimp only
        rw [← eu, if_pos (show CMul u (u / 1009 + 69621) from .inl ⟨by omega, by omega⟩)]
        refine bnd_of rfl ?_
        try dsimp only
        rw [← ev]
      rw [step]
      by_cases hr : 0 < rest
      · refine ⟨(rest / 1009, v, ds ++ [rest % 1009]), ?_, by show (ds ++ [_]).length = _; rw [List.length_append, hl]; rfl, Digs.snoc hd (by omega), by show 0 ≤ v; omega, by show v < _; omega⟩
        rw [if_pos hr]
        exact bnd_of (snoc_ok (by omega)) rfl
      · refine ⟨(rest, v, ds ++ [v / 7 % 1009]), ?_, by show (ds ++ [_]).length = _; rw [List.length_append, hl]; rfl, Digs.snoc hd (by omega), by show 0 ≤ v; omega, by show v < _; omega⟩
        rw [if_neg hr]
        exact bnd_of (snoc_ok (by omega)) rfl
  by_cases hc : (10 : Int) ^ Int.toNat 18 ≤ c
  · obtain ⟨s, e, h1, h2, _, _⟩ := key c
    refine ⟨s.2.2, ?_, h1, h2⟩
    rw [if_pos hc]
    refine bnd_of rfl (bnd_of rfl ?_)
    rw [if_pos ⟨by omega, by omega⟩]
    exact bnd_of e rfl
  · obtain ⟨s, e, h1, h2, _, _⟩ := key 0
    refine ⟨s.2.2, ?_, h1, h2⟩
    rw [if_neg hc]
    refine bnd_of rfl (bnd_of rfl ?_)
    rw [if_pos ⟨by omega, by omega⟩]
    exact bnd_of e rfl

/-! ### k01: numbers written and read -/
theorem num_head : ∀ (n : Nat), 0 < n → ∃ c r, TL.numL n = c :: r ∧ c ≠ 48 := fun n => by
  induction n using Nat.strongRecOn with
  | _ n ih =>
    intro h0
    by_cases h : n < 10
    · rw [TL.numL_lt h]
      exact ⟨48 + n, [], rfl, by omega⟩
    · obtain ⟨c, r, e, hc⟩ := ih (n / 10) (by omega) (by omega)
      rw [TL.numL_step (by omega), e]
      exact ⟨c, r ++ [48 + n % 10], rfl, hc⟩
theorem strI_S (n : Nat) : strI (n : Int) = SX.S (TL.numL n) := SX.num_S n
theorem sgn_S (l : List Nat) : sgn (SX.S l) = l.map fun c => (⟨#[c]⟩ : Str) := by unfold sgn; rfl
theorem S_ne {a b : List Nat} (h : a ≠ b) : ¬ SX.S a = SX.S b := fun z => h (SX.S_inj z)
theorem forS_signs {f : Str → List Bool → Option (List Bool)} {good : List Nat} (hf : ∀ (c : Nat) (acc : List Bool), c ∈ good → acc.length < 1000 → f ⟨#[c]⟩ acc = some (acc ++ [true])) :
    ∀ (l : List Nat) (acc : List Bool), l.length + acc.length < 1000 → (∀ c ∈ l, c ∈ good) → forS f (l.map fun c => (⟨#[c]⟩ : Str)) acc = some (acc ++ List.replicate l.length true)
  | [], acc, _, _ => by rw [List.map_nil]; show some acc = _; simp
  | c :: r, acc, hl, h => by
    rw [List.map_cons]
    have hl : r.length + 1 + acc.length < 1000 := hl
    refine bnd_of (hf c acc (h c List.mem_cons_self) (by omega)) ?_
    rw [forS_signs hf r (acc ++ [true]) (by rw [List.length_append]; show r.length + (acc.length + 1) < 1000; omega) fun d hd => h d (List.mem_cons_of_mem _ hd)]
    rw [List.append_assoc, List.length_cons, List.replicate_succ]; rfl
theorem dig_mem {c : Nat} (h : 48 ≤ c ∧ c ≤ 57) : c ∈ (Str.cps ("0123456789" : Str)).toList := by
  have : ∀ d : Nat, d ≤ 9 → 48 + d ∈ (Str.cps ("0123456789" : Str)).toList := by
    intro d hd
    have : d = 0 ∨ d = 1 ∨ d = 2 ∨ d = 3 ∨ d = 4 ∨ d = 5 ∨ d = 6 ∨ d = 7 ∨ d = 8 ∨ d = 9 := by omega
    rcases this with rfl | rfl | rfl | rfl | rfl | rfl | rfl | rfl | rfl | rfl <;> decide +kernel
  have := this (c - 48) (by omega)
  rwa [show 48 + (c - 48) = c by omega] at this
theorem number_ok {n : Nat} (h : n < 100000) : m_number_in (strI (n : Int)) = some (some (n : Int)) := by
  rw [strI_S]
  have ne := TL.numL_ne n
  have ll : (TL.numL n).length ≤ 5 := TL.numL_len (k := 5) (by decide) h
  have len : (SX.S (TL.numL n)).length = (TL.numL n).length := SX.S_len _
  have al : forS m_number_in_l1 (sgn (SX.S (TL.numL n))) [] = some (List.replicate (TL.numL n).length true) := by
    rw [sgn_S]
    have z := forS_signs (f := m_number_in_l1) (good := (Str.cps ("0123456789" : Str)).toList) (fun c acc hc ha => by
      unfold m_number_in_l1
      refine bnd_of (x := c) rfl ?_
      rw [decide_eq_true hc]
      exact snoc_ok (by omega)) (TL.numL n) [] (by show _ + 0 < 1000; omega) fun c hc => dig_mem (TL.numL_digits n c hc)
    simpa using z
  have it : PySem.intText? (SX.S (TL.numL n)) = some (n : Int) := by
    rw [← strI_S]
    exact TL.int_num (by omega)
  have big : (SX.S (TL.numL n)).length < 16000000 := by rw [len]; omega
  obtain ⟨c, r, e⟩ : ∃ c r, TL.numL n = c :: r := List.exists_cons_of_ne_nil ne
  have ea : atI (Str.cps (SX.S (TL.numL n))).toList (0 : Int) = some c := by
    show atI (TL.numL n) 0 = some c
    rw [e]
    exact atI_z (by decide) rfl
  have fin : ((PySem.intText? (SX.S (TL.numL n))).bind fun y => if (SX.S (TL.numL n)).length ≤ 640 then some (some y) else none) = some (some (n : Int)) := bnd_of it (if_pos (by rw [len]; omega))
  have hall : (List.replicate (TL.numL n).length true).all id = true := List.all_eq_true.mpr fun b hb => List.eq_of_mem_replicate hb
  unfold m_number_in
  rw [if_neg (show ¬ SX.S (TL.numL n) = ("" : Str) from S_ne (b := []) ne), if_pos big, if_neg (show ¬ (5 : Int) < ((SX.S (TL.numL n)).length : Int) by rw [len]; omega), al]
  refine bnd_of (x := List.replicate (TL.numL n).length true) rfl ((if_pos hall).trans (bnd_of ea ((if_pos big).trans ?_)))
  by_cases h0 : n = 0
  · subst h0
    have e0 : TL.numL 0 = [48] := TL.numL_lt (by decide)
    have z : SX.S (TL.numL 0) = ("0" : Str) := by rw [e0]; rfl
    have ec : c = 48 := by rw [e0] at e; exact (List.cons.inj e).1.symm
    refine (if_pos (by rw [ec]; rfl)).trans ((if_neg (fun q => q z)).trans fin)
  · obtain ⟨c', r', e', hc⟩ := num_head n (by omega)
    have : c = c' := by rw [e] at e'; exact (List.cons.inj e').1
    have nz : ¬ (⟨#[c]⟩ : Str) = ("0" : Str) := fun z => hc (by rw [← this]; exact (List.cons.inj (SX.S_inj (a := [c]) (b := [48]) z)).1)
    exact (if_neg nz).trans fin

/-! ### k01: rows of words -/
def N01 : List Str := ["mark", "lit", "get", "put", "add", "sub", "and", "xor", "getb", "putb", "tob", "swap", "go", "ifz", "ifn", "call", "ret", "push", "pop", "sleep", "let", "back", "half"]
def B01 : List Str := ["mark", "tob", "swap", "ret", "push", "pop", "sleep", "back", "half"]
def X01 : List Str := ["lit", "get", "put", "add", "sub", "and", "xor", "getb", "putb", "go", "ifz", "ifn", "call", "let"]
def nm01 (k : Nat) : Str := N01.getD k ""
theorem nm_at {k : Nat} (h : k < 23) : atI N01 (k : Int) = some (nm01 k) := by
  refine atI_z (by omega) ?_
  unfold nm01
  have hl : k < N01.length := h
  rw [Int.toNat_natCast, List.getD_eq_getElem?_getD, List.getElem?_eq_getElem hl]; rfl
theorem nm_bare : ∀ k : _root_.Fin 23, (nm01 k.1 ∈ B01) = ¬ (nm01 k.1 ∈ X01) := by
  have : ∀ k : _root_.Fin 23, decide (nm01 k.1 ∈ B01) = !decide (nm01 k.1 ∈ X01) := by decide +kernel
  intro k
  have e := this k
  refine propext ⟨fun h z => ?_, fun h => ?_⟩
  · rw [decide_eq_true h, decide_eq_true z] at e; cases e
  · rw [decide_eq_false h] at e; exact of_decide_eq_true e
theorem split_x : Txt.split ("lit get put add sub and xor getb putb go ifz ifn call let" : Str) (" " : Str) = X01 := by kernel_rfl
theorem split_n : Txt.split ("mark lit get put add sub and xor getb putb tob swap go ifz ifn call ret push pop sleep let back half" : Str) (" " : Str) = N01 := by kernel_rfl
theorem log_ok {n : Nat} (h : n < 65536) : ((n : Int)).natAbs.log2 < 1920 := by
  rw [Int.natAbs_natCast]
  by_cases z : n = 0
  · rw [z]; decide
  · rw [Nat.log2_lt z]
    exact Nat.lt_of_lt_of_le h (Nat.le_trans (show 65536 ≤ 2 ^ 16 by decide) (Nat.pow_le_pow_right (by decide) (by decide)))
theorem strI_len {n : Nat} (h : n < 65536) : (strI (n : Int)).length ≤ 5 := by
  rw [strI_S, SX.S_len]
  exact TL.numL_len (k := 5) (by decide) (by omega)
theorem nm_len : ∀ k : _root_.Fin 23, (nm01 k.1).length ≤ 5 := by decide +kernel
theorem cat_len (a b : Str) : (a ++ b).length = a.length + b.length := by
  rw [← SX.S_tl a, ← SX.S_tl b, SX.S_cat, SX.S_len, SX.S_len, SX.S_len, List.length_append]
def rowS (n : Nat) : Str :=
  if 23 ≤ n / 1024 then ("word " : Str) ++ strI (n : Int)
  else if nm01 (n / 1024) ∈ B01 then (if n % 1024 = 0 then nm01 (n / 1024) else ("word " : Str) ++ strI (n : Int))
  else (nm01 (n / 1024) ++ (" " : Str)) ++ strI ((n % 1024 : Nat) : Int)
theorem word_len : ("word " : Str).length = 5 := by decide +kernel
theorem sp_len : (" " : Str).length = 1 := by decide +kernel

/-! ### k01: both ways to write a word's row -/
theorem word_ok {n : Nat} (h : n < 65536) : (if ((n : Int)).natAbs.log2 < 1920 then
    if ("word " : Str).length + (strI (n : Int)).length < 16000000 then
    some (("word " : Str) ++ (strI (n : Int))) else none else none) = some (("word " : Str) ++ strI (n : Int)) := by
  have := strI_len h
  rw [if_pos (log_ok h), if_pos (by rw [word_len]; omega)]
theorem with_ok {n : Nat} (h : n < 65536) {a : Str} (ha : a.length ≤ 5) : (if a.length + (" " : Str).length < 16000000 then
      if ((n : Int) % (1024 : Int)).natAbs.log2 < 1920 then
      if (a ++ (" " : Str)).length + (strI ((n : Int) % (1024 : Int))).length < 16000000 then
      some ((a ++ (" " : Str)) ++ (strI ((n : Int) % (1024 : Int)))) else none else none else none) = some ((a ++ (" " : Str)) ++ strI ((n % 1024 : Nat) : Int)) := by
  have e : (n : Int) % (1024 : Int) = ((n % 1024 : Nat) : Int) := by omega
  have h2 : n % 1024 < 65536 := by omega
  have := strI_len h2
  rw [e, if_pos (by rw [sp_len]; omega), if_pos (log_ok h2), if_pos (by rw [cat_len, sp_len]; omega)]
theorem row_of_ok {n : Nat} (h : n < 65536) : m_row_of (n : Int) = some (rowS n) := by
  have e : (n : Int) / (1024 : Int) = ((n / 1024 : Nat) : Int) := by omega
  have em : ((0 : Int) < (n : Int) % (1024 : Int)) ↔ ¬ n % 1024 = 0 := by omega
  have wk := word_ok h
  unfold rowS
  by_cases c : 23 ≤ n / 1024
  · rw [if_pos c]
    unfold m_row_of
    refine bnd_of (x := true) ?_ ((if_pos rfl).trans wk)
    rw [decide_eq_true (show (23 : Int) ≤ (n : Int) / (1024 : Int) by omega)]; rfl
  · rw [if_neg c]
    have na := nm_at (k := n / 1024) (by omega)
    have hb := nm_bare ⟨n / 1024, by omega⟩
    have nl := nm_len ⟨n / 1024, by omega⟩
    rw [← e] at na
    have na : atI (["mark", "lit", "get", "put", "add", "sub", "and", "xor", "getb", "putb", "tob", "swap", "go", "ifz", "ifn", "call", "ret", "push", "pop", "sleep", "let", "back", "half"] : List Str) ((n : Int) / (1024 : Int)) = some (nm01 (n / 1024)) := na
    unfold m_row_of
    rw [decide_eq_false (show ¬ (23 : Int) ≤ (n : Int) / (1024 : Int) by omega), na]
    by_cases hB : nm01 (n / 1024) ∈ B01
    · rw [if_pos hB]
      by_cases hz : n % 1024 = 0
      · rw [if_pos hz]
        refine bnd_of (x := false) ?_ ((if_neg Bool.false_ne_true).trans (bnd_of (x := true) ?_ ((if_pos rfl).trans rfl)))
        · rw [decide_eq_false (show ¬ (0 : Int) < (n : Int) % (1024 : Int) from fun z => em.mp z hz)]
          show orO (some false) (andO (some (decide (nm01 (n / 1024) ∈ B01))) (some false)) = some false
          rw [decide_eq_true hB]; rfl
        · show some (decide (nm01 (n / 1024) ∈ B01)) = some true
          rw [decide_eq_true hB]
      · rw [if_neg hz]
        refine bnd_of (x := true) ?_ ((if_pos rfl).trans wk)
        rw [decide_eq_true (em.mpr hz)]
        show orO (some false) (andO (some (decide (nm01 (n / 1024) ∈ B01))) (some true)) = some true
        rw [decide_eq_true hB]; rfl
    · rw [if_neg hB]
      refine bnd_of (x := false) ?_ ((if_neg Bool.false_ne_true).trans (bnd_of (x := false) ?_ ((if_neg Bool.false_ne_true).trans (bnd_of rfl (with_ok h nl)))))
      · show orO (some false) (andO (some (decide (nm01 (n / 1024) ∈ B01))) (some (decide _))) = some false
        rw [decide_eq_false hB]; rfl
      · show some (decide (nm01 (n / 1024) ∈ B01)) = some false
        rw [decide_eq_false hB]
/-! ### k01: a row is read again -/
theorem split1 {y : Str} {s : Nat} {S : List Nat} (ey : TL.tl y = s :: S) (hk : y.cps.all (· < 256) = true) {r : Str} (h : s ∉ TL.tl r) : Txt.split r y = [r] := by
  have z := TL.split_join ey hk (parts := [r]) (by simp) fun p hp => by rw [List.mem_singleton.mp hp]; exact h
  rw [TL.join_eq] at z
  exact z
theorem split2 {y : Str} {s : Nat} {S : List Nat} (ey : TL.tl y = s :: S) (hk : y.cps.all (· < 256) = true) {a b : Str} (ha : s ∉ TL.tl a) (hb : s ∉ TL.tl b) : Txt.split ((a ++ y) ++ b) y = [a, b] := by
  have z := TL.split_join ey hk (parts := [a, b]) (by simp) fun p hp => by
    rcases List.mem_cons.mp hp with e | e
    · rw [e]; exact ha
    · rw [List.mem_singleton.mp e]; exact hb
  rw [TL.join_eq] at z
  exact z
theorem join1 (y r : Str) : Txt.join y [r] = r := by rw [TL.join_eq]; rfl
theorem tl_sp : TL.tl (" " : Str) = [32] := by kernel_rfl
theorem tl_nl : TL.tl ("\n" : Str) = [10] := by kernel_rfl
theorem nm_free : ∀ k : _root_.Fin 23, ∀ s : _root_.Fin 97, s.1 ∉ TL.tl (nm01 k.1) := by decide +kernel
theorem num_free (n : Nat) {s : Nat} (h : s < 48) : s ∉ TL.tl (strI (n : Int)) := by
  rw [strI_S]
  exact TL.numL_free (.inl h)

/-! ### k01: a row taken -/
theorem idx_nm : ∀ k : _root_.Fin 23, idxS N01 (nm01 k.1) = some k.1 := by decide +kernel
theorem nm_facts : ∀ k : _root_.Fin 23, nm01 k.1 ≠ "" ∧ nm01 k.1 ≠ "at" ∧ nm01 k.1 ≠ "keep" ∧ nm01 k.1 ≠ "word" ∧ cutS (nm01 k.1) (some (-1 : Int)) none ≠ ":" ∧ nm01 k.1 ∈ N01 ∧ PyData.strOk (nm01 k.1) = true := by decide +kernel
theorem word_of_ok {k : Nat} (h : k < 23) : m_word_of (nm01 k) 0 = some (1024 * (k : Int)) := by
  have e := idx_nm ⟨k, h⟩
  unfold m_word_of
  refine bnd_of (x := k) e ?_
  exact congrArg some (Int.add_zero _)
theorem lay_ok {L : R_Laying} (h : L.laid.length < 512) (w : Int) : m_Laying_lay L w = some (true, { L with laid := L.laid ++ [w] }) := by
  unfold m_Laying_lay
  exact (if_neg (by omega)).trans (bnd_of (snoc_ok (by omega)) rfl)
theorem part_ok {L : R_Laying} (h : L.laid.length < 512) {n : Nat} (hn : n < 65536) (num w : Int) {most : Int} (hm : (n : Int) ≤ most) : m_Laying_lay_part L num w (strI (n : Int)) most = some (true, { L with laid := L.laid ++ [w + (n : Int)] }) := by
  unfold m_Laying_lay_part
  refine bnd_of (number_ok (n := n) (by omega)) ((if_neg (fun z => by cases z)).trans ?_)
  refine bnd_of (x := false) ?_ ((if_neg Bool.false_ne_true).trans (bnd_of rfl (bnd_of (lay_ok h _) rfl)))
  show orO (some (decide ((some (n : Int) : Option Int) = none))) (some (decide (most < (n : Int)))) = some false
  rw [decide_eq_false (fun z => by cases z), decide_eq_false (show ¬ most < (n : Int) by omega)]; rfl
theorem strOk_num (n : Nat) : PyData.strOk (strI (n : Int)) = true := by
  rw [strI_S]
  unfold PyData.strOk
  rw [← Array.all_toList]
  refine List.all_eq_true.mpr fun c hc => ?_
  have := TL.numL_digits n c hc
  exact decide_eq_true (by omega)

theorem empty_ok : ([("" : Str)] : (List Str)).all Dat.b = true := by decide +kernel
theorem take1 {L : R_Laying} (h : L.laid.length < 512) {r nm : Str} (es : Txt.split r (" " : Str) = [nm]) (hr : r.length < 16000000) (hn : nm.length < 16000000) (ne : nm ≠ "") (so : PyData.strOk nm = true)
    (hc : cutS nm (some (-1 : Int)) none ≠ ":") (hb : nm ∈ B01) {w : Int} (hw : m_word_of nm 0 = some w) (num : Int) : m_Laying_take L num r = some (true, { L with laid := L.laid ++ [w] }) := by
  have a0 : atI [nm] (0 : Int) = some nm := atI_z (by decide) rfl
  have d1 : decide ((([nm] : List Str).length : Int) = (1 : Int)) = true := decide_eq_true rfl
  have so1 : ([nm] : List Str).all Dat.b = true := by
    show (PyData.strOk nm && true) = true
    rw [so]; rfl
  unfold m_Laying_take
  rw [es, a0]
  refine (if_pos hr).trans (bnd_of (x := false) ?_ ((if_neg Bool.false_ne_true).trans (bnd_of (x := false) ?_ ((if_neg Bool.false_ne_true).trans (bnd_of (x := true) ?_ ((if_pos rfl).trans (bnd_of rfl (bnd_of hw (bnd_of (lay_ok h w) rfl)))))))))
  · refine (if_pos so1).trans ((if_pos empty_ok).trans ?_)
    rw [decide_eq_false (fun z => ne (List.cons.inj z).1)]
  · rw [d1]
    show andO (some true) (if nm.length < 16000000 then some (decide (cutS nm (some (-1 : Int)) none = (":" : Str))) else none) = some false
    rw [if_pos hn, decide_eq_false hc]; rfl
  · rw [d1]
    show andO (some true) (some (decide (nm ∈ B01))) = some true
    rw [decide_eq_true hb]; rfl
theorem take2 {L : R_Laying} {r a b : Str} (es : Txt.split r (" " : Str) = [a, b]) (hr : r.length < 16000000) (sa : PyData.strOk a = true) (sb : PyData.strOk b = true) (h1 : a ≠ "at") (h2 : a ≠ "keep") (num : Int) {Z : Option (Bool × R_Laying)}
    (hz : ((some (decide (a = ("word" : Str)))).bind fun b252 =>
            if b252 = true then
              (some b).bind fun x268 =>
              (m_Laying_lay_part L num (0 : Int) x268 (65535 : Int)).bind fun r275 =>
              some (r275.1, r275.2)
            else
              (andO (some (decide (a ∈ N01))) (some (decide (a ∉ B01)))).bind fun b310 =>
              if b310 = true then
                (m_word_of a (0 : Int)).bind fun r346 =>
                (some b).bind fun x349 =>
                (m_Laying_lay_part L num r346 x349 (1023 : Int)).bind fun r356 =>
                some (r356.1, r356.2)
              else
                some (false, L)) = Z) : m_Laying_take L num r = Z := by
  have a0 : atI [a, b] (0 : Int) = some a := atI_z (by decide) rfl
  have a1 : atI [a, b] (1 : Int) = some b := atI_z (by decide) rfl
  have d1 : decide ((([a, b] : List Str).length : Int) = (1 : Int)) = false := decide_eq_false (fun z => by have : (2 : Int) = 1 := z; omega)
  have so2 : ([a, b] : List Str).all Dat.b = true := by
    show (PyData.strOk a && (PyData.strOk b && true)) = true
    rw [sa, sb]; rfl
  unfold m_Laying_take
  rw [es, a0, a1]
  refine (if_pos hr).trans (bnd_of (x := false) ?_ ((if_neg Bool.false_ne_true).trans (bnd_of (x := false) ?_ ((if_neg Bool.false_ne_true).trans (bnd_of (x := false) ?_ ((if_neg Bool.false_ne_true).trans ((if_neg (fun z => z rfl)).trans (bnd_of (x := false) ?_ ((if_neg Bool.false_ne_true).trans hz)))))))))
  · refine (if_pos so2).trans ((if_pos empty_ok).trans ?_)
    rw [decide_eq_false (fun z => by have := (List.cons.inj z).2; cases this)]
  · rw [d1]; rfl
  · rw [d1]; rfl
  · show some (decide (a ∈ ([("at" : Str), ("keep" : Str)] : List Str))) = some false
    rw [decide_eq_false (fun z => by rcases List.mem_cons.mp z with e | e; exact h1 e; exact h2 (List.mem_singleton.mp e))]

/-! ### rows read again, whatever was laid ahead -/
theorem fill_none (l : List Int) (d : List (Str × Int)) : m_Laying_fill (R_Laying.mk l d []) = some (none, R_Laying.mk l d []) := rfl
theorem app_free {a b : Str} {s : Nat} (ha : s ∉ TL.tl a) (hb : s ∉ TL.tl b) : s ∉ TL.tl (a ++ b) := by
  rw [TL.tl_append]
  exact fun z => (List.mem_append.mp z).elim ha hb
theorem tl_word : TL.tl ("word" : Str) = [119, 111, 114, 100] := by kernel_rfl
theorem word_sp : ("word " : Str) = ("word" : Str) ++ (" " : Str) := by kernel_rfl
theorem word_fact : PyData.strOk ("word" : Str) = true := by decide +kernel
theorem rowS_len {n : Nat} (h : n < 65536) : (rowS n).length ≤ 100 := by
  have nl := strI_len h
  have nx := strI_len (n := n % 1024) (by omega)
  unfold rowS
  split
  · rw [cat_len, word_len]; omega
  · rename_i c
    have ln : (nm01 (n / 1024)).length ≤ 5 := nm_len ⟨n / 1024, by omega⟩
    split
    · split
      · omega
      · rw [cat_len, word_len]; omega
    · rw [cat_len, cat_len, sp_len]; omega
theorem rowS_free (n : Nat) : 10 ∉ TL.tl (rowS n) := by
  unfold rowS
  have w : 10 ∉ TL.tl (("word " : Str) ++ strI (n : Int)) := by
    rw [word_sp]
    exact app_free (app_free (by rw [tl_word]; decide) (by rw [tl_sp]; decide)) (num_free n (by decide))
  split
  · exact w
  · rename_i c
    have nf : 10 ∉ TL.tl (nm01 (n / 1024)) := nm_free ⟨n / 1024, by omega⟩ ⟨10, by decide⟩
    split
    · split
      · exact nf
      · exact w
    · exact app_free (app_free nf (by rw [tl_sp]; decide)) (num_free _ (by decide))
theorem take_row {L : R_Laying} (hL : L.laid.length < 512) {n : Nat} (h : n < 65536) (num : Int) : m_Laying_take L num (rowS n) = some (true, { L with laid := L.laid ++ [(n : Int)] }) := by
  have nl := strI_len h
  have k1 : (" " : Str).cps.all (· < 256) = true := by decide +kernel
  have wd : m_Laying_take L num (("word " : Str) ++ strI (n : Int)) = some (true, { L with laid := L.laid ++ [(n : Int)] }) := by
    rw [word_sp]
    have lr : ((("word" : Str) ++ (" " : Str)) ++ strI (n : Int)).length < 16000000 := by
      rw [cat_len, ← word_sp, word_len]; omega
    refine take2 (split2 tl_sp k1 (by rw [tl_word]; decide) (num_free n (by decide))) lr word_fact (strOk_num n) (by decide +kernel) (by decide +kernel) num ?_
    refine bnd_of (x := true) (congrArg some (decide_eq_true rfl)) ((if_pos rfl).trans (bnd_of rfl (bnd_of (part_ok hL h num 0 (by omega)) ?_)))
    show some (true, { L with laid := L.laid ++ [0 + (n : Int)] }) = _
    rw [Int.zero_add]
  by_cases c : 23 ≤ n / 1024
  · have rs : rowS n = ("word " : Str) ++ strI (n : Int) := if_pos c
    rw [rs]; exact wd
  · have hk : n / 1024 < 23 := by omega
    have nf : ∀ s : Nat, s < 97 → s ∉ TL.tl (nm01 (n / 1024)) := fun s hs => nm_free ⟨n / 1024, hk⟩ ⟨s, hs⟩
    have ln : (nm01 (n / 1024)).length ≤ 5 := nm_len ⟨n / 1024, hk⟩
    obtain ⟨q1, q2, q3, q4, q5, q6, q7⟩ := nm_facts ⟨n / 1024, hk⟩
    have hw := word_of_ok hk
    by_cases hB : nm01 (n / 1024) ∈ B01
    · by_cases hz : n % 1024 = 0
      · have rs : rowS n = nm01 (n / 1024) := (if_neg c).trans ((if_pos hB).trans (if_pos hz))
        rw [rs]
        have e : (1024 * ((n / 1024 : Nat) : Int)) = (n : Int) := by omega
        rw [e] at hw
        exact take1 hL (split1 tl_sp k1 (nf 32 (by decide))) (by omega) (by omega) q1 q7 q5 hB hw num
      · have rs : rowS n = ("word " : Str) ++ strI (n : Int) := (if_neg c).trans ((if_pos hB).trans (if_neg hz))
        rw [rs]; exact wd
    · have rs : rowS n = (nm01 (n / 1024) ++ (" " : Str)) ++ strI ((n % 1024 : Nat) : Int) := (if_neg c).trans (if_neg hB)
      rw [rs]
      have hx : n % 1024 < 65536 := by omega
      have nx := strI_len hx
      have lr : ((nm01 (n / 1024) ++ (" " : Str)) ++ strI ((n % 1024 : Nat) : Int)).length < 16000000 := by
        rw [cat_len, cat_len, sp_len]; omega
      refine take2 (split2 tl_sp k1 (nf 32 (by decide)) (num_free _ (by decide))) lr q7 (strOk_num _) q2 q3 num ?_
      refine bnd_of (x := false) (congrArg some (decide_eq_false q4)) ((if_neg Bool.false_ne_true).trans (bnd_of (x := true) ?_ ((if_pos rfl).trans (bnd_of hw (bnd_of rfl (bnd_of (part_ok hL hx num _ (by omega)) ?_))))))
      · rw [decide_eq_true q6, decide_eq_true hB]; rfl
      · show some (true, { L with laid := L.laid ++ [1024 * ((n / 1024 : Nat) : Int) + ((n % 1024 : Nat) : Int)] }) = _
        have e : 1024 * ((n / 1024 : Nat) : Int) + ((n % 1024 : Nat) : Int) = (n : Int) := by omega
        rw [e]
/-! ### k02: a whole image, written and read again -/
def Wds (ws : List Nat) : Prop := ∀ n ∈ ws, n < 65536
abbrev natI (ws : List Nat) : List Int := ws.map fun n : Nat => (n : Int)
theorem listed_rows {ws : List Nat} (hw : Wds ws) (hl : ws.length < 16000000) : forS m_listed_l1 (natI ws) [] = some (ws.map rowS) := by
  have key : ∀ (ws : List Nat) (a : List Str), Wds ws → a.length + ws.length < 16000000 → forS m_listed_l1 (natI ws) a = some (a ++ ws.map rowS) := by
    intro ws
    induction ws with
    | nil => intro a _ _; show some a = _; simp
    | cons n r ih =>
      intro a h hl
      have hl : a.length + (r.length + 1) < 16000000 := hl
      refine bnd_of (x := a ++ [rowS n]) (bnd_of (row_of_ok (h n List.mem_cons_self)) (snoc_ok (by omega))) ?_
      show forS m_listed_l1 (natI r) (a ++ [rowS n]) = _
      rw [ih _ (fun m hm => h m (List.mem_cons_of_mem _ hm)) (by rw [List.length_append]; show a.length + 1 + _ < _; omega), List.append_assoc]; rfl
  have := key ws [] hw (by show 0 + _ < _; omega)
  rwa [List.nil_append] at this
theorem rows_sum : ∀ {ws : List Nat}, Wds ws → ((ws.map rowS).map (·.length)).sum ≤ 100 * ws.length
  | [], _ => Nat.le_refl _
  | n :: r, h => by
    have h1 := rowS_len (h n List.mem_cons_self)
    have h2 := rows_sum (ws := r) fun m hm => h m (List.mem_cons_of_mem _ hm)
    show (rowS n).length + ((r.map rowS).map (·.length)).sum ≤ 100 * (r.length + 1)
    omega
theorem nl_len : ("\n" : Str).length = 1 := by decide +kernel
theorem listed_all {ws : List Nat} (hw : Wds ws) (hl : ws.length ≤ 512) : m_listed (natI ws) = some (Txt.join ("\n" : Str) (ws.map rowS)) := by
  unfold m_listed
  refine bnd_of (listed_rows hw (by omega)) (if_pos ?_)
  have := rows_sum hw
  rw [nl_len, List.length_map]; omega
theorem joinL_len (y : List Nat) : ∀ ps : List (List Nat), (TL.joinL y ps).length ≤ (ps.map (·.length)).sum + y.length * ps.length
  | [] => Nat.zero_le _
  | [p] => by show p.length ≤ p.length + 0 + y.length * 1; omega
  | p :: q :: r => by
    have ih := joinL_len y (q :: r)
    show (p ++ (y ++ TL.joinL y (q :: r))).length ≤ p.length + ((q :: r).map (·.length)).sum + y.length * ((q :: r).length + 1)
    rw [List.length_append, List.length_append, Nat.mul_add]; omega
theorem tl_len (x : Str) : (TL.tl x).length = x.length := by
  have := SX.S_len (TL.tl x)
  rw [SX.S_tl] at this
  exact this.symm
theorem join_len {ws : List Nat} (hw : Wds ws) (hl : ws.length ≤ 512) : (Txt.join ("\n" : Str) (ws.map rowS)).length < 16000000 := by
  rw [← tl_len, TL.join_eq, TL.tl_join, tl_nl]
  have h1 := joinL_len [10] ((ws.map rowS).map TL.tl)
  have e : ((ws.map rowS).map TL.tl).map (·.length) = (ws.map rowS).map (·.length) := by
    rw [List.map_map]
    exact List.map_congr_left fun x _ => tl_len x
  have h2 := rows_sum hw
  rw [e, List.length_map, List.length_map] at h1
  have : ([10] : List Nat).length = 1 := rfl
  rw [this] at h1
  omega
theorem takes : ∀ (ws : List Nat) (k : Nat) (l : List Int), Wds ws → l.length + ws.length ≤ 512 → forS m_typed_l1 (((ws.map rowS).zipIdx k).map fun p => ((p.2 : Int), p.1)) (R_Laying.mk l [] []) = some (R_Laying.mk (l ++ natI ws) [] [])
  | [], _, l, _, _ => by show some (R_Laying.mk l [] []) = some (R_Laying.mk (l ++ []) [] []); rw [List.append_nil]
  | n :: r, k, l, h, hl => by
    have hl : l.length + (r.length + 1) ≤ 512 := hl
    refine bnd_of (x := R_Laying.mk (l ++ [(n : Int)]) [] []) (bnd_of (take_row (by show l.length < 512; omega) (h n List.mem_cons_self) _) (if_pos rfl)) ?_
    have ih := takes r (k + 1) (l ++ [(n : Int)]) (fun m hm => h m (List.mem_cons_of_mem _ hm)) (by rw [List.length_append]; show l.length + 1 + r.length ≤ 512; omega)
    rw [List.append_assoc] at ih
    exact ih
theorem take_empty (L : R_Laying) (num : Int) : m_Laying_take L num ("" : Str) = some (true, L) := by
  have es : Txt.split ("" : Str) (" " : Str) = [("" : Str)] := by kernel_rfl
  unfold m_Laying_take
  rw [es]
  refine (if_pos (by decide +kernel)).trans (bnd_of (x := true) ?_ (if_pos rfl))
  refine (if_pos empty_ok).trans ((if_pos empty_ok).trans ?_)
  rw [decide_eq_true rfl]
theorem typed_all {ws : List Nat} (hw : Wds ws) (hl : ws.length ≤ 512) : m_typed (Txt.join ("\n" : Str) (ws.map rowS)) = some (natI ws, []) := by
  have k2 : ("\n" : Str).cps.all (· < 256) = true := by decide +kernel
  unfold m_typed
  refine bnd_of (x := R_Laying.mk [] [] []) rfl ((if_pos (join_len hw hl)).trans ?_)
  refine bnd_of (x := R_Laying.mk (natI ws) [] []) ?_ (bnd_of (fill_none _ []) (if_neg (fun z => z rfl)))
  cases ws with
  | nil =>
    have es : Txt.split (Txt.join ("\n" : Str) (([] : List Nat).map rowS)) ("\n" : Str) = [("" : Str)] := by kernel_rfl
    rw [es]
    exact bnd_of (x := R_Laying.mk [] [] []) (bnd_of (take_empty _ _) (if_pos rfl)) rfl
  | cons n r =>
    rw [TL.split_join tl_nl k2 (by simp) fun p hp => by
      obtain ⟨m, _, rfl⟩ := List.mem_map.mp hp
      exact rowS_free m]
    have := takes (n :: r) 0 [] hw (by rw [List.length_nil]; omega)
    exact this

theorem at60 {ds : List Int} (h : Digs ds) (hl : ds.length = 60) (i : Int) : ∃ x, atI ds (i % 60) = some x ∧ 0 ≤ x ∧ x < 1009 :=
  dg_at hl h (i % 60) (Int.emod_nonneg _ (by decide)) (Int.emod_lt_of_pos _ (by decide))
theorem image_ok {ds : List Int} (h : Digs ds) (hl : ds.length = 60) {m : Int} (h0 : 0 ≤ m) (h1 : m ≤ 512) : ∃ ws : List Nat, forS (m_law_l2 ds) (rangeL 0 (Int.toNat m)) [] = some (natI ws) ∧ Wds ws ∧ ws.length ≤ 512 := by
  obtain ⟨s, es, ws, e, hw, hle⟩ := forS_inv (f := m_law_l2 ds) (xs := rangeL 0 (Int.toNat m)) (s := []) (fun i s => ∃ ws : List Nat, s = natI ws ∧ Wds ws ∧ ws.length = i) ⟨[], rfl, (fun _ z => by cases z), rfl⟩ (by
    rintro i k s hk ⟨ws, rfl, hw, hli⟩
    obtain ⟨rfl, hi⟩ := range_mem hk
    have hi2 : i < 512 := by omega
    obtain ⟨x, ex, hx0, hx1⟩ := at60 h hl (0 + (i : Int))
    obtain ⟨y, ey, hy0, hy1⟩ := at60 h hl ((0 + (i : Int)) / 60 + 7 * (0 + (i : Int)))
    obtain ⟨n, hn⟩ : ∃ n : Nat, (x * 1009 + y) % 65536 = (n : Int) := ⟨((x * 1009 + y) % 65536).toNat, by omega⟩
    have hn2 : n < 65536 := by omega
    refine ⟨natI (ws ++ [n]), ?_, ws ++ [n], rfl, fun z hz => ?_, by rw [List.length_append, hli]; rfl⟩
    · unfold m_law_l2
      refine bnd_of ex (bnd_of ey ?_)
      rw [hn, snoc_ok (by show (ws.map _).length < _; rw [List.length_map]; omega)]
      unfold natI
      rw [List.map_append]; rfl
    · rcases List.mem_append.mp hz with z1 | z1
      · exact hw z z1
      · rw [List.mem_singleton.mp z1]; exact hn2)
  refine ⟨ws, es.trans (by rw [e]), hw, ?_⟩
  rw [hle, range_len]; omega
theorem sums (ws : List Nat) : ((ws.map rowS).map (·.length)).sum = ((ws.map rowS).map (·.length)).sum := rfl
theorem law_rows {ws : List Nat} (hw : Wds ws) (hl : ws.length < 16000000) : forS m_law_l3 (natI ws) [] = some (ws.map rowS) := listed_rows hw hl
theorem sameK_nil : sameK (strK ([] : List (Str × Int))) (strK ([] : List (Str × Int))) = true := by decide +kernel
theorem law4 {ws : List Nat} (hw : Wds ws) (hl : ws.length ≤ 512) (k : Int) : m_law_l4 (natI ws) (Txt.join ("\n" : Str) (ws.map rowS)) k () = some (.nx ()) := by
  unfold m_law_l4
  refine bnd_of (typed_all hw hl) (bnd_of (x := false) ?_ ((if_neg Bool.false_ne_true).trans (bnd_of (snoc_ok (by show (ws.map _).length < _; rw [List.length_map]; omega)) (if_pos (show 0 < 16000000 by decide)))))
  show orO (some (decide (¬ (natI ws = natI ws)))) (if sameK (strK ([] : List (Str × Int))) (strK ([] : List (Str × Int))) = true then some (decide False) else none) = some false
  rw [decide_eq_false (fun z => z rfl), if_pos sameK_nil]; rfl
theorem law1 (k : Int) : m_law_l1 k () = some (.nx ()) := by
  obtain ⟨ds, e0, hl, hd⟩ := digits_ok k (n := 60) (by decide)
  obtain ⟨a, ea, ha⟩ := dg_at hl hd 0 (by decide) (by decide)
  obtain ⟨b, eb, hb⟩ := dg_at hl hd 1 (by decide) (by decide)
  obtain ⟨m, em, hm0, hm1⟩ : ∃ m, atI ([a % (60 : Int), a % (513 : Int), (512 : Int), (0 : Int)] : (List Int)) (b % (4 : Int)) = some m ∧ 0 ≤ m ∧ m ≤ 512 := by
    have : b % 4 = 0 ∨ b % 4 = 1 ∨ b % 4 = 2 ∨ b % 4 = 3 := by omega
    rcases this with z | z | z | z <;> rw [z]
    · exact ⟨_, atI_z (by decide) rfl, by omega, by omega⟩
    · exact ⟨_, atI_z (by decide) rfl, by omega, by omega⟩
    · exact ⟨_, atI_z (by decide) rfl, by omega, by omega⟩
    · exact ⟨_, atI_z (by decide) rfl, by omega, by omega⟩
  obtain ⟨ws, ew, hw, hle⟩ := image_ok hd hl hm0 hm1
  have h4 : forC (m_law_l4 (natI ws) (Txt.join ("\n" : Str) (ws.map rowS))) (rangeL 0 (Int.toNat (2 : Int))) () = some (.nx ()) := by
    show forC _ [0 + ((0 : Nat) : Int), 0 + ((1 : Nat) : Int)] () = _
    exact bnd_of (law4 hw hle _) (bnd_of (law4 hw hle _) rfl)
  unfold m_law_l1
  refine bnd_of e0 (bnd_of ea (bnd_of ea (bnd_of eb (bnd_of em ((if_pos (by omega)).trans (bnd_of ew (bnd_of (listed_all hw hle) ((if_neg (fun z => z rfl)).trans (bnd_of (law_rows hw (by omega)) ((if_pos ?_).trans ((if_neg (fun z => z rfl)).trans (thenC_nx h4 rfl))))))))))))
  have := rows_sum hw
  rw [nl_len, List.length_map]; omega
theorem law_true (ns : List Int) (hl : ns.length ≤ 63) : m_law ns = some true := by
  have e : ∀ l : List Int, forC m_law_l1 l () = some (.nx ()) := fun l => by
    induction l with
    | nil => rfl
    | cons x r ih =>
      show ((m_law_l1 x ()).bind fun c => _) = _
      rw [law1 x]; exact ih
  obtain ⟨j, ej⟩ : ∃ j : List Int, (if ((cutX ns none (some (4 : Int))) = ([] : List Int)) then
    some ([(4 : Int), (19 : Int)] : (List Int))
  else
    some (cutX ns none (some (4 : Int)))) = some j := by
    split <;> exact ⟨_, rfl⟩
  unfold m_law
  exact bnd_of ej (thenC_nx (e j) rfl)

theorem txt_of {K : PySem.W.Frag} {h : Heap} {mg : Str → Option Value} (X : K.In h) (G : h.Ns mainGlobals mg) (c : SaysM fa fn ex K) : Txt K mg := by
  constructor
  case g_BoardError => exact He.glo_ok X G (c.d.fact 0 (f := .glo "BoardError"))
  case g_NoText => exact He.glo_ok X G (c.d.fact 1 (f := .glo "NoText"))
  case c_FLASH => exact He.int_ok X G (c.d.fact 2 (f := .int "FLASH" 512))
  case c_ERASED => exact He.int_ok X G (c.d.fact 3 (f := .int "ERASED" 65535))
  case g_NAMES => exact He.glo_ok X G (c.d.fact 4 (f := .glo "NAMES"))
  case c_MOST => exact He.int_ok X G (c.d.fact 5 (f := .int "MOST" 65535))
  case g_word_of => exact He.glo_ok X G (c.d.fact 6 (f := .glo "word_of"))
  case g_BARE => exact He.glo_ok X G (c.d.fact 7 (f := .glo "BARE"))
  case c_SMALL => exact He.str_ok X G (c.d.fact 8 (f := .str "SMALL" "abcdefghijklmnopqrstuvwxyz"))
  case c_FIGURES => exact He.str_ok X G (c.d.fact 9 (f := .str "FIGURES" "0123456789"))
  case g_row_of => exact He.glo_ok X G (c.d.fact 10 (f := .glo "row_of"))
  case g_listed => exact He.glo_ok X G (c.d.fact 11 (f := .glo "listed"))
  case g_is_small => exact He.glo_ok X G (c.d.fact 12 (f := .glo "is_small"))
  case g_number_in => exact He.glo_ok X G (c.d.fact 13 (f := .glo "number_in"))
  case g_Laying => exact He.glo_ok X G (c.d.fact 14 (f := .glo "Laying"))
  case g_typed => exact He.glo_ok X G (c.d.fact 15 (f := .glo "typed"))
  case g__law_cell => exact He.glo_ok X G (c.d.fact 16 (f := .glo "_law_cell"))
  case g__law_digits => exact He.glo_ok X G (c.d.fact 17 (f := .glo "_law_digits"))
  case g_law => exact He.glo_ok X G (c.d.fact 18 (f := .glo "law"))
  case f_all => exact He.free_ok X G (c.d.fact 19 (f := .free "all"))
  case f_enumerate => exact He.free_ok X G (c.d.fact 20 (f := .free "enumerate"))
  case f_int => exact He.free_ok X G (c.d.fact 21 (f := .free "int"))
  case f_len => exact He.free_ok X G (c.d.fact 22 (f := .free "len"))
  case f_list => exact He.free_ok X G (c.d.fact 23 (f := .free "list"))
  case f_range => exact He.free_ok X G (c.d.fact 24 (f := .free "range"))
  case f_str => exact He.free_ok X G (c.d.fact 25 (f := .free "str"))
  case x_BoardError => exact He.exc_ok (c.d.fact 26 (f := .exc "BoardError"))
  case xm_BoardError_BoardError => exact He.exm_ok (c.d.fact 27 (f := .exm "BoardError" "BoardError" true))
  case xm_BoardError_NoText => exact He.exm_ok (c.d.fact 28 (f := .exm "BoardError" "NoText" false))
  case xm_NoText_BoardError => exact He.exm_ok (c.d.fact 29 (f := .exm "NoText" "BoardError" true))
  case xm_NoText_NoText => exact He.exm_ok (c.d.fact 30 (f := .exm "NoText" "NoText" true))
  case k_Laying => exact He.cls_ok (c.d.fact 31 (f := .cls "Laying"))
  case n_Laying_laid => exact He.noat_ok (c.d.fact 32 (f := .noat "Laying" "laid"))
  case n_Laying_called => exact He.noat_ok (c.d.fact 33 (f := .noat "Laying" "called"))
  case n_Laying_wanted => exact He.noat_ok (c.d.fact 34 (f := .noat "Laying" "wanted"))
  case m_Laying_init => exact He.meth_ok (c.d.fact 35 (f := .meth "Laying" "__init__"))
  case mk_Laying => exact He.mkr_ok (c.d.fact 36 (f := .mkr "Laying"))
  case m_Laying_take => exact He.meth_ok (c.d.fact 37 (f := .meth "Laying" "take"))
  case m_Laying_name_here => exact He.meth_ok (c.d.fact 38 (f := .meth "Laying" "name_here"))
  case m_Laying_lay => exact He.meth_ok (c.d.fact 39 (f := .meth "Laying" "lay"))
  case m_Laying_go_on => exact He.meth_ok (c.d.fact 40 (f := .meth "Laying" "go_on"))
  case m_Laying_lay_part => exact He.meth_ok (c.d.fact 41 (f := .meth "Laying" "lay_part"))
  case m_Laying_fill => exact He.meth_ok (c.d.fact 42 (f := .meth "Laying" "fill"))
  case l_NAMES => exact fun H => He.lstB_ok ((He.ba c.more).1) H
  case l_BARE => exact fun H => He.lstB_ok ((He.ba (He.ba c.more).2).1) H
  case xo_NoText => exact oexB_ok ((He.ba (He.ba (He.ba c.more).2).2).1)
  case bi_BoardError => exact beiB_ok ((He.ba (He.ba (He.ba (He.ba c.more).2).2).2).1)
  case xf_NoText => exact xfB_ok ((He.ba (He.ba (He.ba (He.ba (He.ba c.more).2).2).2).2).1)
  case xn_NoText => exact of_decide_eq_true ((He.ba (He.ba (He.ba (He.ba (He.ba (He.ba c.more).2).2).2).2).2).1)
  case xt_NoText => exact of_decide_eq_true ((He.ba (He.ba (He.ba (He.ba (He.ba (He.ba (He.ba c.more).2).2).2).2).2).2).1)
  case xy_NoText => exact of_decide_eq_true ((He.ba (He.ba (He.ba (He.ba (He.ba (He.ba (He.ba c.more).2).2).2).2).2).2).2)
  case d_NoText_init => exact c.d.def_ 0
  case d_word_of => exact c.d.def_ 1
  case d_row_of => exact c.d.def_ 2
  case d_listed => exact c.d.def_ 3
  case d_is_small => exact c.d.def_ 4
  case d_number_in => exact c.d.def_ 5
  case d_Laying_init => exact c.d.def_ 6
  case d_Laying_take => exact c.d.def_ 7
  case d_Laying_name_here => exact c.d.def_ 8
  case d_Laying_lay => exact c.d.def_ 9
  case d_Laying_go_on => exact c.d.def_ 10
  case d_Laying_lay_part => exact c.d.def_ 11
  case d_Laying_fill => exact c.d.def_ 12
  case d_typed => exact c.d.def_ 13
  case d__law_cell => exact c.d.def_ 14
  case d__law_digits => exact c.d.def_ 15
  case d_law => exact c.d.def_ 16

theorem law_ok {P : Program} {w : World} {K : PySem.W.Frag} {h : Heap} {mg : Str → Option Value} {f : Addr} (X : K.In h) (G : h.Ns mainGlobals mg) (hfa : mg ("law" : Str) = some (.ref f)) (c : SaysM fa fn ex K) :
    ∃ fd : FuncData, (∀ (s : Shared) (v : Value), BindsTo s fd ⟨[v], []⟩ [("_law_script", v)]) ∧ ∀ base : Heap, K.In base → base.Ns mainGlobals mg → FnOk P w K mg base CX0 5 f fd ["_law_script"] (sp_law K) := by
  have T := txt_of X G c
  have e := hfa.symm.trans T.g_law
  obtain ⟨fd, F⟩ := T.d_law
  have ef : f = He.fAd K ("law", none) := by cases e; rfl
  subst ef
  have b := FunD.bindsA (ps := ["_law_script"]) F fun _ _ _ _ _ _ us hl => match us, hl with | [_], _ => rfl
  exact ⟨fd, fun s v => b s [v] rfl, fun base _ _ => okF_law T F⟩
end Q
open PySem PySem.W PySem.Calls PyProof.Rows
theorem PySem.Challenge.cw_boardheld_k02_whole_images_listed_holds : PySem.Challenge.rw_boardheld_k02_whole_images_listed.Holds := by
  w_on
  o_law
  refine HandSHeadRun.head_any (r := OpenLaw.row PySem.Challenge.rw_boardheld_k02_whole_images_listed) (q := view (OpenLaw.row PySem.Challenge.rw_boardheld_k02_whole_images_listed).prog [22]) (H := Q.hk) (ob := Q.ob) (M := 3000) (loose := Q.loose) (d := HandSHeadRun.topDef (OpenLaw.row PySem.Challenge.rw_boardheld_k02_whole_images_listed).prog 22) (kwd := []) Q.ob_eq
    (by kernel_rfl) (fun s => by kernel_rfl) Q.run (by kernel_rfl) (by kernel_rfl) (by kernel_rfl) (by rfl) (by first | assumption | decide +kernel) (by decide +kernel) ⟨rfl, rfl, rfl, rfl, rfl, by decide +kernel⟩ ?hw ?hc
  case hw => w_witness2
  case hc =>
    refine L2.walk_ofE (l := PySem.Challenge.rw_boardheld_k02_whole_images_listed) (n := 63) (k := 5) (x := "_law_script") (CX := L2.CX0) rfl (by decide) (by kernel_rfl) ⟨rfl, by decide, by decide⟩ ?F (fun _ _ _ _ z => z)
    intro w mg fa h Y G hmg0
    obtain ⟨K, KX, c⟩ := Y
    have hmg : mg ("law" : PySem.Str) = some (.ref fa) := by
      have e : (HandSHeadRun.topDef (OpenLaw.row PySem.Challenge.rw_boardheld_k02_whole_images_listed).prog 22).name = ("law" : PySem.Str) := by kernel_rfl
      rw [← e]
      exact hmg0
    obtain ⟨fd, hb, hF⟩ := Q.law_ok (P := (PySem.Challenge.rw_boardheld_k02_whole_images_listed).prog) (w := w) KX G hmg c
    exact ⟨K, fd, Q.sp_law K, KX, hb, fun H a ns hl _ hS => ⟨a, ns, true, rfl, hS, trivial, List.nodup_nil, (by first | exact Q.law_true ns | exact Q.law_true ns hl), fun _ _ => rfl⟩, hF⟩

