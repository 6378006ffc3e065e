import PyProof.Rows.All
import Wide.All
import OpenK.AllK
import Wide.FinOn
import KE.KStateDown
import Lean
import HandS.ForMost
import HandS.ForExc
import HandS.More
import HandS.Strs
import HandS.Text
import HandS.TryOnly
import PyProof.P3Eq
import HandS.IsInst
import HandS.Style
import HandS.Flow
import HandS.Zip
import HandS.Codes
import HandS.SetFor
import HandS.Wide
import HandS.Conv
import HandS.Defaults
import HandS.Head0
import HandS.Head1
import HandS.Head2
import HandS.HeadEnd
import HandS.HeadHook1
import HandS.HeadHook2
import KE.KDictSum
import KE.KItemsList
import HandS.SortInts
import PyProof.Rows.SortShellAny
import HandS.SortRule
import HandS.DictTup
import HandS.ListItems
import HandS.ExcValue
import HandS.ExcIs
import HandS.ExcInit
import HandS.ExcField
import KE.KExcIs
import KE.KIsAll
import PySem.Challenge.RW_boardheld_k18_twins
set_option Elab.async false
set_option linter.all false
set_option maxRecDepth 100000
set_option maxHeartbeats 0
namespace Q
open PySem PySem.Spec PyProof.Rows L2

/-! ### a Hook: facts, defs, one more Bool -/
def obsM (fa : List He.Fa) (fn : List He.DefD) (ex : PySem.W.Frag → Bool) (K : PySem.W.Frag) : He.AlD × Bool := (He.obsD fa fn K, ex K)
def asM (g : Addr → Option Obj) (n : Nat) : List Addr := He.asD g n ++ [PySem.cStatics]
def obsMG (n : Nat) (fa : List He.Fa) (fn : List He.DefD) (ex : PySem.W.Frag → Bool) (g : Addr → Option Obj) : He.AlD × Bool := obsM fa fn ex (He.frG g (asM g n))
def SaysM (fa : List He.Fa) (fn : List He.DefD) (ex : PySem.W.Frag → Bool) (K : PySem.W.Frag) : Prop := obsM fa fn ex K = (He.valD fn, true)
def hookM (n : Nat) (fa : List He.Fa) (fn : List He.DefD) (ex : PySem.W.Frag → Bool) : PySem.W.Hook where
  α := He.AlD × Bool
  obs := fun s => obsMG n fa fn ex s.heap.get?
  val := fun _ => (He.valD fn, true)
  says := fun _ h => ∃ K : PySem.W.Frag, K.In h ∧ SaysM fa fn ex K
  of := fun _ _ e => ⟨_, He.frG_in, e⟩
  keeps := fun _ _ _ ⟨K, hK, c⟩ k => ⟨K, PySem.W.Frag.In.keeps hK k, c⟩
theorem obsMG_eq {n : Nat} {fa : List He.Fa} {fn : List He.DefD} {ex : PySem.W.Frag → Bool} {g : Addr → Option Obj} {s : Shared} (h : ∀ a, g a = s.heap.get? a) : obsMG n fa fn ex g = (hookM n fa fn ex).obs s := by
  have e : g = s.heap.get? := funext h
  rw [e] <;> rfl
theorem SaysM.d {fa : List He.Fa} {fn : List He.DefD} {ex : PySem.W.Frag → Bool} {K : PySem.W.Frag} (c : SaysM fa fn ex K) : He.SaysD fa fn K := congrArg (fun z : He.AlD × Bool => z.1) c
theorem SaysM.more {fa : List He.Fa} {fn : List He.DefD} {ex : PySem.W.Frag → Bool} {K : PySem.W.Frag} (c : SaysM fa fn ex K) : ex K = true := congrArg (fun z : He.AlD × Bool => z.2) c
abbrev FnP (K : PySem.W.Frag) (x q : Str) (st : Stmt) (f : Addr) (fd : FuncData) : Prop := FunD K x q (defArgs st) (defBody st) (defScope st) [] [] f fd


/-! ### heaps: what is kept, what is owned (Kp S S': all but S is kept; S' is S and new places) -/
structure Kp (S S' : List Addr) (H H' : Hp) : Prop where
  kept : ∀ b o, H b = some o → b ∉ S → H' b = some o
  own : ∀ b, b ∈ S' → b ∈ S ∨ H b = none
  tups : ∀ b xs, H b = some (.tup xs) → H' b = some (.tup xs)
theorem Kp.refl (S : List Addr) (H : Hp) : Kp S S H H := ⟨fun _ _ h _ => h, fun _ h => .inl h, fun _ _ h => h⟩
theorem Kp.trans {S S1 S2 : List Addr} {H H1 H2 : Hp} (a : Kp S S1 H H1) (b : Kp S1 S2 H1 H2) : Kp S S2 H H2 := by
  refine ⟨fun c o h n => b.kept c o (a.kept c o h n) fun m => ?_, fun c m => ?_, fun c xs h => b.tups c xs (a.tups c xs h)⟩
  · rcases a.own c m with z | z
    · exact n z
    · rw [z] at h; cases h
  · rcases b.own c m with z | z
    · exact a.own c z
    · by_cases hc : c ∈ S
      · exact .inl hc
      · right
        cases q : H c with
        | none => rfl
        | some o => rw [a.kept c o q hc] at z; cases z
theorem Kp.sub {S S1 S2 : List Addr} {H H' : Hp} (a : Kp S S1 H H') (h : ∀ b, b ∈ S2 → b ∈ S1) : Kp S S2 H H' := ⟨a.kept, fun b m => a.own b (h b m), a.tups⟩
theorem Kp.more {S S' T : List Addr} {H H' : Hp} (a : Kp S S' H H') (h : ∀ b, b ∈ S → b ∈ T) : Kp T S' H H' :=
  ⟨fun b o e n => a.kept b o e fun m => n (h b m), fun b m => (a.own b m).imp (h b) id, a.tups⟩
def notTup : HO → Prop
  | .tup _ => False
  | _ => True
theorem Kp.upd {S : List Addr} {H : Hp} {a : Addr} {o o' : HO} (h : H a = some o) (hn : notTup o) (m : a ∈ S) : Kp S S H (upd H a o') :=
  ⟨fun b u e n => by rw [upd_ne (fun z => n (by rw [z]; exact m))]; exact e, fun _ z => .inl z, fun b xs e => by
    rw [upd_ne]; exact e
    rintro rfl; rw [e] at h; cases h; exact hn⟩
theorem Kp.new {S : List Addr} {H : Hp} {a : Addr} {o : HO} (h : H a = none) : Kp S S H (L2.upd H a o) :=
  ⟨fun b u e _ => by rw [upd_ne (ne_of_none e h)]; exact e, fun _ z => .inl z, fun b xs e => by rw [upd_ne (ne_of_none e h)]; exact e⟩
theorem Kp.newIn {S : List Addr} {H : Hp} {a : Addr} {o : HO} (h : H a = none) : Kp S (a :: S) H (L2.upd H a o) :=
  ⟨(Kp.new (S := S) h).kept, fun b m => by
    rcases List.mem_cons.mp m with z | z
    · rw [z]; exact .inr h
    · exact .inl z, (Kp.new (S := S) h).tups⟩
/-- nothing owned: all is kept -/
theorem Kp.same {S : List Addr} {H H' : Hp} (a : Kp [] S H H') : Same H H' := fun b o e => a.kept b o e (by simp)
theorem Kp.ofSame {H H' : Hp} (a : Same H H') : Kp [] [] H H' := ⟨fun b o e _ => a b o e, fun _ m => .inl m, fun b xs e => a b _ e⟩
theorem Kp.free {S S' : List Addr} {H H' : Hp} (a : Kp S S' H H') {l : Addr} (h : H' l = none) (n : l ∉ S) : H l = none := by
  cases q : H l with
  | none => rfl
  | some o => rw [a.kept l o q n] at h; cases h
theorem Kp.seq {K : PySem.W.Frag} {S S' : List Addr} {H H' : Hp} {a : Addr} {xs : List V} (k : Kp S S' H H') (n : a ∉ S) (h : SqL K H a xs) : SqL K H' a xs := by
  rcases h with (h | ⟨o, h⟩) | h
  · exact .inl (.inl (k.kept _ _ h n))
  · exact .inl (.inr ⟨o, k.kept _ _ h n⟩)
  · exact .inr h
/-- tuples at the addresses of a list of values -/
abbrev Tups (H : Hp) (vs : List V) (xss : List (List V)) : Prop := Paired (fun v xs => ∃ t, v = V.ref t ∧ H t = some (.tup xs)) vs xss
theorem Tups.mono {H H' : Hp} (k : ∀ b xs, H b = some (.tup xs) → H' b = some (.tup xs)) : ∀ {vs : List V} {xss : List (List V)}, Tups H vs xss → Tups H' vs xss
  | _, _, .nil => .nil
  | _, _, .cons ⟨t, e, h⟩ r => .cons ⟨t, e, k _ _ h⟩ (Tups.mono k r)
theorem paired_snoc {α β : Type} {F : α → β → Prop} {x : α} {y : β} (h : F x y) : ∀ {xs : List α} {ys : List β}, Paired F xs ys → Paired F (xs ++ [x]) (ys ++ [y])
  | _, _, .nil => .cons h .nil
  | _, _, .cons r t => .cons r (paired_snoc h t)
/-! ### small rules -/
section
variable {X : Cx}
theorem gi_ {x : Str} {i : Int} {pos : Pos} (hg : Gl X x) (hm : ∃ t, X.mg x = some (.int i t)) (hd : (x == ("__debug__" : Str)) = false := by decide) : PE X (.Name x pos) (tC (.int i)) := by
  obtain ⟨t, h⟩ := hm
  exact pe_glob hg h ⟨t, rfl⟩ hd
theorem gr_ {x : Str} {a : Addr} {pos : Pos} (hg : Gl X x) (hm : X.mg x = some (.ref a)) (hd : (x == ("__debug__" : Str)) = false := by decide) : PE X (.Name x pos) (tC (.ref a)) := pe_glob hg hm rfl hd
theorem gs_ {x z : Str} {pos : Pos} (hg : Gl X x) (hm : ∃ t, X.mg x = some (.str z t)) (hd : (x == ("__debug__" : Str)) = false := by decide) : PE X (.Name x pos) (tC (.str z)) := by
  obtain ⟨t, h⟩ := hm
  exact pe_glob hg h ⟨t, rfl⟩ hd
end
/-- a def's promise kept, how it binds, that it stays -/
def Ok (P : Program) (w : World) (K : PySem.W.Frag) (mg : Str → Option Value) (base : Heap) (CX : CXT) (k : Nat) (f : Addr) (ps : List Str) (sp : Sp) : Prop :=
  ∃ fd, FnOk P w K mg base CX k f fd ps sp ∧ Binds K fd ps [] ∧ PySem.W.keepIn K (.ref f) = true
theorem small_ {n : Nat} (h : n ≤ 16777215) : n < sizeLine := Nat.lt_of_le_of_lt h (by decide)
theorem small_le {n : Nat} (h : n ≤ 16777216) : n ≤ sizeLine := Nat.le_trans h (by decide)
theorem at_i {xs : List Int} {i : Int} {n : Int} (h0 : 0 ≤ i) (h : xs[i.toNat]? = some n) : atI (xs.map V.int) i = some (.int n) := by
  have e : i = ((i.toNat : Nat) : Int) := by omega
  rw [e]
  refine atI_nat ?_
  rw [List.getElem?_map]
  have e2 : ((i.toNat : Nat) : Int).toNat = i.toNat := by omega
  rw [h] <;> rfl
/-! ### tests whose answer is open -/
section
variable {A B : Prop}
theorem iteD {p : Prop} [Decidable p] (h1 : p → A) (h2 : ¬ p → B) : if decide p = true then A else B := ite2 (fun h => h1 (of_decide_eq_true h)) (fun h => h2 fun z => h (decide_eq_true z))
theorem iteN {p : Prop} [Decidable p] (h1 : ¬ p → A) (h2 : p → B) : if (!decide p) = true then A else B := by
  by_cases h : p
  · rw [decide_eq_true h]; exact h2 h
  · rw [decide_eq_false h]; exact h1 h
theorem iteI {a b : Int} (h1 : a = b → A) (h2 : a ≠ b → B) : if decide (V.int a = V.int b) = true then A else B := iteD (fun h => h1 (V.int.inj h)) (fun h => h2 fun z => h (congrArg V.int z))
theorem iteIN {a b : Int} (h1 : a ≠ b → A) (h2 : a = b → B) : if (!decide (V.int a = V.int b)) = true then A else B := iteN (fun h => h1 fun z => h (congrArg V.int z)) (fun h => h2 (V.int.inj h))
theorem iteBo {b : Bool} (h1 : b = true → A) (h2 : b = false → B) : if b = true then A else B := by
  cases b with
  | true => exact h1 rfl
  | false => exact h2 rfl
theorem iteBs {b c : Bool} (e : b = c) (h : if c = true then A else B) : if b = true then A else B := by rw [e]; exact h
end
/-! ### data read deep -/
section
variable {K : PySem.W.Frag} {H : Hp}
theorem dpInts : ∀ xs : List Int, DpAll K H (xs.map V.int) (xs.map PyData.int)
  | [] => .nil
  | x :: r => .cons (.int x) (dpInts r)
theorem dpL {a : Addr} {xs : List Int} (h : SqL K H a (xs.map V.int)) : Dp K H (.ref a) (.list (xs.map PyData.int)) := .lst h (dpInts xs)
theorem lay_all {ds : List PyData} (h : ∀ d ∈ ds, d.canLay0 = true) : PyData.canLayAll0 ds = true := by
  induction ds with
  | nil => simp only [PyData.canLayAll0]
  | cons d r ih => simp only [PyData.canLayAll0, h d (by simp), ih fun e he => h e (by simp [he]), Bool.and_self]
theorem lay_ints (xs : List Int) : PyData.canLay0 (.list (xs.map PyData.int)) = true := by
  simp only [PyData.canLay0]
  refine lay_all fun d hd => ?_
  obtain ⟨x, _, rfl⟩ := List.mem_map.mp hd
  simp only [PyData.canLay0]
theorem shp {d : PyData} (h1 : d.canLay0 = true) (h2 : d.depth ≤ 64) : SeqAt.shaped d = true := by
  unfold SeqAt.shaped
  rw [h1, decide_eq_true h2]; rfl
theorem depth_all {ds : List PyData} {n : Nat} (h : ∀ d ∈ ds, d.depth ≤ n) : PyData.depthAll ds ≤ n := by
  induction ds with
  | nil => simp only [PyData.depthAll]; exact Nat.zero_le _
  | cons d r ih =>
    simp only [PyData.depthAll]
    exact Nat.max_le.mpr ⟨h d (by simp), ih fun e he => h e (by simp [he])⟩
theorem shp_ints (xs : List Int) : SeqAt.shaped (.list (xs.map PyData.int)) = true := by
  refine shp (lay_ints xs) ?_
  simp only [PyData.depth]
  have : PyData.depthAll (xs.map PyData.int) ≤ 0 := depth_all fun d hd => by
    obtain ⟨x, _, rfl⟩ := List.mem_map.mp hd
    simp only [PyData.depth]; exact Nat.le_refl _
  omega
theorem eqv_ints : ∀ xs ys : List Int, PyData.eqvAll (xs.map PyData.int) (ys.map PyData.int) = decide (xs = ys)
  | [], [] => by simp [PyData.eqvAll]
  | [], _ :: _ => by simp [PyData.eqvAll]
  | _ :: _, [] => by simp [PyData.eqvAll]
  | x :: r, y :: q => by
    simp only [List.map_cons, PyData.eqvAll, PyData.eqv, eqv_ints r q]
    by_cases h : x = y <;> by_cases h2 : r = q <;> simp [h, h2]
theorem eqv_intL (xs ys : List Int) : PyData.eqv (.list (xs.map PyData.int)) (.list (ys.map PyData.int)) = decide (xs = ys) := by
  rw [PyData.eqv]; exact eqv_ints xs ys
end

/-! ### defs that raise, isinstance of what is caught: own rules -/
inductive Rz (ρ ε : Type) where
  | ok (r : ρ)
  | ex (e : ε)
def Rz.on {ρ ε τ : Type} (z : Rz ρ ε) (h : ε → τ) (k : ρ → τ) : τ := match z with
  | .ok r => k r
  | .ex e => h e
def rIsEv (K : PySem.W.Frag) (cls : Value) (d : Option Addr) (a : Addr) : List V → Hp → VK → Prop := fun xs H Q => ∃ (D : Addr) (c : V) (cv : Value) (b : Bool), cls = .ref D ∧ d = none ∧ ExcC K D ∧ xs = [.ref a, c] ∧ (∀ u, RelV c u → u = cv) ∧ PySem.W.kitOne K (.ref D) cv = some b ∧ Q (.bl b) H
theorem call_isEv {X : Cx} {a : Addr} {oe : Obj} {cls : Value} {d : Option Addr} {pn : List (Addr × Obj)} (hz : Zc cls d oe) (hf : ∃ vs, oe.data = .fields vs) : CallR (X.suite a ((a, oe) :: pn)) (.builtin "isinstance") (rIsEv X.K cls d a) := by
  intro pins s σ H xs us Q I r h
  obtain ⟨D, c, cv, b, rfl, rfl, C, e1, e2, e3, q⟩ := h
  exact call_isE C hz hf pins s σ H xs us Q I r ⟨c, cv, b, e1, e2, e3, q⟩
def rIsEvT (K : PySem.W.Frag) (cls : Value) (d : Option Addr) (a : Addr) : List V → Hp → VK → Prop := fun xs H Q => ∃ (D tp : Addr) (cs : List V) (us : List Value) (b : Bool), cls = .ref D ∧ d = none ∧ ExcC K D ∧ xs = [.ref a, .ref tp] ∧ H tp = some (.tup cs) ∧ Paired ClsV cs us ∧ PySem.W.kitAny K (.ref D) us = some b ∧ Q (.bl b) H
theorem call_isEvT {X : Cx} {a : Addr} {oe : Obj} {cls : Value} {d : Option Addr} {pn : List (Addr × Obj)} (hz : Zc cls d oe) (hf : ∃ vs, oe.data = .fields vs) : CallR (X.suite a ((a, oe) :: pn)) (.builtin "isinstance") (rIsEvT X.K cls d a) := by
  intro pins s σ H xs us Q I r h
  obtain ⟨D, tp, cs, ws, b, rfl, rfl, C, rfl, hT, k, e, q⟩ := h
  obtain ⟨u1, u2, rfl, r1, r2⟩ := vals2 r
  cases (show u1 = Value.ref a from r1)
  cases (show u2 = Value.ref tp from r2)
  obtain ⟨hget, _⟩ := I.pin (a, oe) (List.mem_append.mpr (.inl List.mem_cons_self))
  obtain ⟨vs, hv⟩ := hf
  have J : PySem.W.InstAt s.heap a oe D none := by
    obtain ⟨oc, od, oda, osl⟩ := oe
    obtain ⟨h1, h2⟩ := hz
    dsimp only at h1 h2 hv
    subst h1 h2 hv
    exact ⟨hget, rfl, rfl, trivial⟩
  obtain ⟨_, its, rv, o, h1, h2, n, h3⟩ := (show ObjOk X.prog X.w H s.heap tp (.tup cs) from I.hok tp _ hT)
  have e3 := ClsV.all k rv
  subst e3
  obtain ⟨oc, od, dt, sl⟩ := o
  simp only at h2 h3
  subst h2 h3
  exact PySem.W.kia_tup (PySem.W.handS_kitx_exc C.hg C.hk C.hs C.hd C.ha C.hn C.ht C.hm) I.kIn J h1 e (fun z => nomatch z) fun tk => ⟨.bl b, H, I.kept (t' := tk) fun _ _ z => z, rfl, q⟩
/-- what a class must say so that isinstance asks its instances rightly, as one Bool -/
def excB (K : PySem.W.Frag) (x : Str) : Bool :=
  decide (PySem.W.findIn K (.ref (He.ga K x)) "__getattribute__" = some (some (.builtin "BaseException.__getattribute__"))) && (decide (PySem.W.findIn K (.ref (He.ga K x)) "__getattr__" = some none) &&
  (decide (PySem.W.subIn K (.ref (He.ga K x)) (.type "BaseException") = some true) && (PySem.W.hasDictIn K (He.ga K x) && (decide (PySem.W.findIn K (.ref (He.ga K x)) "__class__" = some (some (.builtin "object.__class__"))) &&
  (decide (PySem.W.specialIn K (.builtin "object.__class__") "__get__" = some (some (.builtin "getset_descriptor.__get__"))) && (decide (PySem.W.takesIn K (.builtin "object.__class__") = some true) && decide (PySem.W.mroIn K (He.ga K x) (.type "object") = some true)))))))
theorem excB_ok {K : PySem.W.Frag} {x : Str} (h : excB K x = true) : ExcC K (He.ga K x) := by
  obtain ⟨h1, h⟩ := He.ba h
  obtain ⟨h2, h⟩ := He.ba h
  obtain ⟨h3, h⟩ := He.ba h
  obtain ⟨h4, h⟩ := He.ba h
  obtain ⟨h5, h⟩ := He.ba h
  obtain ⟨h6, h⟩ := He.ba h
  obtain ⟨h7, h8⟩ := He.ba h
  exact ⟨of_decide_eq_true h1, of_decide_eq_true h2, of_decide_eq_true h3, h4, of_decide_eq_true h5, of_decide_eq_true h6, of_decide_eq_true h7, of_decide_eq_true h8⟩

/-! ### what is caught may carry a field: isinstance of it, its field, its making: own rules -/
/-- the dict of what is caught: none, or fields -/
def XdOf (H : Hp) (d : Option Addr) : Prop := d = none ∨ ∃ dd fs, d = some dd ∧ H dd = some (.xd fs)
theorem inst_ev {X : Cx} {pins : List (Addr × Obj)} {σ : L2.St} {H : Hp} {s : Shared} {a D : Addr} {oe : Obj} {d : Option Addr} (hok : HOk X.prog X.w H s.heap) (hz : Zc (.ref D) d oe) (hf : ∃ vs, oe.data = .fields vs) (hd : XdOf H d) (ha : s.heap.get? a = some oe) : ∃ od, PySem.W.InstAt s.heap a oe D od := by
  obtain ⟨vs, hv⟩ := hf
  obtain ⟨oc, od, oda, osl⟩ := oe
  obtain ⟨h1, h2⟩ := hz
  dsimp only at h1 h2 hv
  subst h1 h2 hv
  rcases hd with rfl | ⟨dd, fs, rfl, e⟩
  · exact ⟨none, ha, rfl, rfl, trivial⟩
  · have hx : ObjOk X.prog X.w H s.heap dd (.xd fs) := hok dd _ e
    obtain ⟨mA, hns, hr⟩ := hx
    obtain ⟨od, ho, hl⟩ := lookIn_ns hns
    exact ⟨some od, ha, rfl, rfl, ho⟩
theorem kitx_ev {K : PySem.W.Frag} {x D : Addr} {ox : Obj} {od : Option Obj} (C : ExcC K D) : PySem.W.KitX K (.ref x) (.ref D) (fun h => PySem.W.InstAt h x ox D od) :=
  PySem.W.kitx_exc (by obtain ⟨cd, hc, _⟩ := PySem.W.any_some C.hd; rw [hc]; rfl) C.hg C.hk C.hs C.ha C.hn C.ht C.hm
def rIsEw (K : PySem.W.Frag) (cls : Value) (d : Option Addr) (a : Addr) : List V → Hp → VK → Prop := fun xs H Q => ∃ (D : Addr) (c : V) (cv : Value) (b : Bool), cls = .ref D ∧ XdOf H d ∧ ExcC K D ∧ xs = [.ref a, c] ∧ (∀ u, RelV c u → u = cv) ∧ PySem.W.kitOne K (.ref D) cv = some b ∧ Q (.bl b) H
theorem call_isEw {X : Cx} {a : Addr} {oe : Obj} {cls : Value} {d : Option Addr} {pn : List (Addr × Obj)} (hz : Zc cls d oe) (hf : ∃ vs, oe.data = .fields vs) : CallR (X.suite a ((a, oe) :: pn)) (.builtin "isinstance") (rIsEw X.K cls d a) := by
  intro pins s σ H xs us Q I r h
  obtain ⟨D, c, cv, b, rfl, hd, C, rfl, hcv, e, q⟩ := h
  obtain ⟨u1, u2, rfl, r1, r2⟩ := vals2 r
  cases (show u1 = Value.ref a from r1)
  have ec := hcv _ r2
  subst ec
  obtain ⟨hget, _⟩ := I.pin (a, oe) (List.mem_append.mpr (.inl List.mem_cons_self))
  obtain ⟨od, J⟩ := inst_ev (pins := pins) (σ := σ) I.hok hz hf hd hget
  exact PySem.W.kia_one (kitx_ev C) I.kIn J e (fun z => nomatch z) fun tk => ⟨.bl b, H, I.kept (t' := tk) fun _ _ z => z, rfl, q⟩
def rIsEwT (K : PySem.W.Frag) (cls : Value) (d : Option Addr) (a : Addr) : List V → Hp → VK → Prop := fun xs H Q => ∃ (D tp : Addr) (cs : List V) (us : List Value) (b : Bool), cls = .ref D ∧ XdOf H d ∧ ExcC K D ∧ xs = [.ref a, .ref tp] ∧ H tp = some (.tup cs) ∧ Paired ClsV cs us ∧ PySem.W.kitAny K (.ref D) us = some b ∧ Q (.bl b) H
theorem call_isEwT {X : Cx} {a : Addr} {oe : Obj} {cls : Value} {d : Option Addr} {pn : List (Addr × Obj)} (hz : Zc cls d oe) (hf : ∃ vs, oe.data = .fields vs) : CallR (X.suite a ((a, oe) :: pn)) (.builtin "isinstance") (rIsEwT X.K cls d a) := by
  intro pins s σ H xs us Q I r h
  obtain ⟨D, tp, cs, ws, b, rfl, hd, C, rfl, hT, k, e, q⟩ := h
  obtain ⟨u1, u2, rfl, r1, r2⟩ := vals2 r
  cases (show u1 = Value.ref a from r1)
  cases (show u2 = Value.ref tp from r2)
  obtain ⟨hget, _⟩ := I.pin (a, oe) (List.mem_append.mpr (.inl List.mem_cons_self))
  obtain ⟨od, J⟩ := inst_ev (pins := pins) (σ := σ) I.hok hz hf hd hget
  obtain ⟨_, its, rv, o, h1, h2, n, h3⟩ := (show ObjOk X.prog X.w H s.heap tp (.tup cs) from I.hok tp _ hT)
  have e3 := ClsV.all k rv
  subst e3
  obtain ⟨oc, oda, dt, sl⟩ := o
  simp only at h2 h3
  subst h2 h3
  exact PySem.W.kia_tup (kitx_ev C) I.kIn J h1 e (fun z => nomatch z) fun tk => ⟨.bl b, H, I.kept (t' := tk) fun _ _ z => z, rfl, q⟩
/-- xs.count(y), all of them plain -/
def rCntF (K : PySem.W.Frag) : V → List V → Hp → VK → Prop := fun x xs H Q => ∃ (p : Addr) (ys : List V) (y : V), x = .ref p ∧ xs = [y] ∧ SqL K H p ys ∧ flatV y = true ∧ ys.all flatV = true ∧ Q (.int ((ys.countP fun z => eqV z y : Nat) : Int)) H
theorem countP_eqU {x : V} : ∀ {xs : List V} {us : List Value}, Vals xs us → xs.all flatV = true → us.countP (eqU x) = xs.countP fun y => eqV y x
  | _, _, .nil, _ => rfl
  | y :: xs, u :: us, .cons r t, f => by
    rw [List.all_cons, Bool.and_eq_true] at f
    rw [List.countP_cons, List.countP_cons, eqU_of r f.1, countP_eqU t f.2]
theorem mt_countF {X : Cx} : MtR X "list.count" (rCntF X.K) := by
  intro pins s σ H x xs v us Q I rx rxs h
  obtain ⟨p, ys, y, rfl, rfl, hs, fy, fys, q⟩ := h
  cases rx
  obtain ⟨u, rfl, ru⟩ := rxs.one
  obtain ⟨its, rv, ⟨⟨cls, dd, data, sl⟩, n, ho, hc, hdn, hd⟩, hlen⟩ := I.list hs
  simp only at hc hd
  subst hc hd
  refine call_meets PySem.F.slot_list_count ⟨_, ho, rfl⟩ PySem.F.entry_list_count (PySem.F.args_list_count_2 _ _)
    (SeqAt.list_countAt p its.toArray n dd sl u (eqU y)) ⟨ho, fun u' hu' => mem_eqAt ru fy rv fys u' (by simpa using hu'), ?_⟩
  have ec : its.toArray.toList.countP (eqU y) = ys.countP fun z => eqV z y := countP_eqU rv fys
  refine ⟨.int ((ys.countP fun z => eqV z y : Nat) : Int), H, I.tok _, ⟨s.toks, ?_⟩, q⟩
  show Value.int ((its.toArray.toList.countP (eqU y) : Nat) : Int) s.toks = Value.int ((ys.countP fun z => eqV z y : Nat) : Int) s.toks
  rw [ec]
/-! an own class whose __init__ tells its base, then keeps one field -/
def oexB (K : PySem.W.Frag) (x : Str) : Bool :=
  (match K.lookup (He.ga K x) with
  | some ⟨.type "type", _, .cls cd, sl⟩ => (match cd.mro, sl.toList with
    | .ref C' :: bm, [_, _, _, _, some (.builtin n), _] => C' == He.ga K x && (n == "ValueError.__new__" && (!cd.hasDel && (cd.hasDict && PySem.HandSPX.refsVE bm)))
    | _, _ => false)
  | _ => false) && (decide (PySem.W.findIn K (.ref (He.ga K x)) "__setattr__" = some (some (.builtin "object.__setattr__"))) && (decide (PySem.W.subIn K (.ref (He.ga K x)) (.type "BaseException") = some true) && (decide (PySem.W.typeIn K (.ref (He.ga K x)) = some (.type "type")) && PySem.W.keepIn K (.ref (He.ga K x)))))
theorem oexB_ok {K : PySem.W.Frag} {x : Str} (h : oexB K x = true) : OexC K (He.ga K x) := by
  obtain ⟨h0, h⟩ := He.ba h
  obtain ⟨h1, h⟩ := He.ba h
  obtain ⟨h2, h⟩ := He.ba h
  obtain ⟨h3, h4⟩ := He.ba h
  refine ⟨?_, of_decide_eq_true h1, of_decide_eq_true h2, of_decide_eq_true h3, h4⟩
  split at h0
  · rename_i dd cd sl ho
    split at h0
    · rename_i C' bm k0 k1 k2 k3 n k5 hm hs
      simp only [Bool.and_eq_true, beq_iff_eq, Bool.not_eq_true'] at h0
      obtain ⟨rfl, rfl, hdel, hdi, hr⟩ := h0
      obtain ⟨nm, bs, mro, ns, qn, hd, sn, sub, ab, col, del⟩ := cd
      dsimp only at hm hdel hdi
      subst hm hdel hdi
      have hsl : sl = #[k0, k1, k2, k3, some (.builtin "ValueError.__new__"), k5] := by
        obtain ⟨l⟩ := sl
        simp only at hs
        rw [hs]
      subst hsl
      exact ⟨nm, qn, ns, bs, bm, sn, sub, ab, col, dd, k0, k1, k2, k3, k5, ho, hr⟩
    · cases h0
  · cases h0
/-- what a base class that has no __init__ of its own must say -/
def beiB (K : PySem.W.Frag) (x : Str) : Bool := decide (PySem.W.specialIn K (.ref (He.ga K x)) "__getattribute__" = some (some (.builtin "type.__getattribute__"))) && (PySem.W.readsIn K (He.ga K x) (.type "type") && (match PySem.W.findCls K (.ref (He.ga K x)) (.type "type") "__init__" with
  | some (.val (.builtin n)) => n == "ValueError.__init__"
  | _ => false))
structure BeI (K : PySem.W.Frag) (B : Addr) : Prop where
  sp : PySem.W.specialIn K (.ref B) "__getattribute__" = some (some (.builtin "type.__getattribute__"))
  rd : PySem.W.readsIn K B (.type "type") = true
  at_ : PySem.W.findCls K (.ref B) (.type "type") "__init__" = some (.val (.builtin "ValueError.__init__"))
theorem beiB_ok {K : PySem.W.Frag} {x : Str} (h : beiB K x = true) : BeI K (He.ga K x) := by
  obtain ⟨h1, h⟩ := He.ba h
  obtain ⟨h2, h3⟩ := He.ba h
  refine ⟨of_decide_eq_true h1, h2, ?_⟩
  split at h3
  · rename_i n e
    rw [e, beq_iff_eq.mp h3]
  · cases h3
theorem pe_beinit {X : Cx} {e : Expr} {es : List Expr} {ta : TA} {p1 p2 pos : Pos} {B : Addr} {bn : Str} {pl : Sem Bool} (hg : Gl X bn) (hm : X.mg bn = some (.ref B)) (T : BeI X.K B) (ha : PA X (e :: es) ta) (hdb : (bn == ("__debug__" : Str)) = false := by decide)
    (hc : eval (.Call (.Attribute (.Name bn p1) "__init__" p2) (e :: es) [] pos) X.env = (do
      let ov ← eval (.Name bn p1) X.env
      standAt p2.atName
      let (f, first) ← holding [ov] (getMethod ov "__init__" pl)
      callWith pos f first (backTo pos (starEach (e :: es) X.env)) (backToKw pos (keywordEach [] X.env))) := by rfl)
    (he : starEach (e :: es) X.env = (false, eval e X.env) :: starEach es X.env := by rfl) (hpl : (backTo pos (starEach es X.env)).any (·.1) = false := by rfl) :
    PE X (.Call (.Attribute (.Name bn p1) "__init__" p2) (e :: es) [] pos) (tVeI X.K ta) := by
  refine ⟨fun pins s σ H Q I h => ?_⟩
  refine PySem.W.methodCall_KW (ld_glob I hg hm ?_ hdb) hc
  refine PySem.W.method_cls I.kIn T.sp (PySem.W.cls_value I.kIn T.rd T.at_ rfl ?_)
  show wpAny _ _ (callWith pos (Value.builtin "ValueError.__init__") [] (backTo pos (starEach (e :: es) X.env)) []) _ _ _
  refine PyProof.Rows.callWith_method1 (thn (ha.run pos pins _ σ H _ (I.tok _) h) fun us s1 ⟨vs, H1, I1, r1, a, C, ws, ev, hl, T, ea, q⟩ => ?_) he hpl
  subst ev
  cases r1 with
  | @cons _ u0 _ ur ra rw' =>
    obtain rfl : u0 = Value.ref a := ra
    have hlen : ur.length ≤ sizeLine := by
      rw [← Paired.length rw', sizeLine_eq]
      omega
    exact oinit_ok T I1 ea hlen fun s' J => ⟨.non, H1, J, rfl, q⟩
/-! a method that may raise -/
section
variable {X : Cx} {CX : CXT} {k : Nat} {f C : Addr} {fd : FuncData} {ps : List Str} {sp : Sp} {E : L2.St → XK} {m : Str} {pos apos : Pos} {e o : Expr} {es : List Expr} {ta : TE} {t : TA}
theorem nil_app {a : V} {vs : List V} {H : Hp} {Q : VK} {E : XK} (h : sp (a :: (vs ++ [])) H Q E) : sp (a :: vs) H Q E := by rw [List.append_nil] at h; exact h
def tMethS (C : Addr) (m : Str) (sp : Sp) (E : L2.St → XK) (ta : TE) (t : TA) : TE := fun σ H Q => tMeth C m sp [] (E σ) ta t σ H Q
theorem binds_nil {K : PySem.W.Frag} {fd : FuncData} {ps : List Str} {ds : List Value} (h : Vals [] ds) (b : Binds K fd ps ds) : Binds K fd ps [] := by cases h; exact b
theorem pe_methS {pl : Sem Bool} (he : PE X o ta) (c : Cls X.K C) (hm : Meth X.K C m f) (F : FnOk X.prog X.w X.K X.mg X.base CX k f fd ps sp) (hr : Room k X.A) (hb : Binds X.K fd ps []) (hx : ∀ σ, PassesAt CX X σ (E σ)) (ha : PA X (e :: es) t)
    (hst : starEach (e :: es) X.env = (false, eval e X.env) :: starEach es X.env := by rfl) (hpl : (backTo pos (starEach es X.env)).any (·.1) = false := by rfl)
    (ht : eval (.Call (.Attribute o m apos) (e :: es) [] pos) X.env = (do
      let ov ← eval o X.env
      standAt apos.atName
      let (f, first) ← holding [ov] (getMethod ov m pl)
      callWith pos f first (backTo pos (starEach (e :: es) X.env)) (backToKw pos (keywordEach [] X.env))) := by rfl) :
    PE X (.Call (.Attribute o m apos) (e :: es) [] pos) (tMethS C m sp E ta t) := by
  refine ⟨fun pins s σ H Q I h => ?_⟩
  refine PySem.W.methodCall_KW (pl := pl) (thn (he.run pins s σ H _ I h) fun u s1 ⟨x, H1, I1, rx, a, dx, fs, ex, ea, l, q⟩ => ?_) ht
  subst ex
  obtain rfl : u = Value.ref a := rx
  refine getmeth_ok I1 ea c hm l ?_
  refine PySem.W.callWith_K (first := [.ref a]) (h₀ := X.base) I.ok.mod.kin hm.kp (thn (ha.run pos pins s1 σ H1 _ I1 q) fun us s2 ⟨vs, H2, I2, r, q2⟩ => ⟨I2.kIn, ?_⟩) hst hpl
  exact run_fnS (us := .ref a :: us) (vs := .ref a :: vs) F hr hb (hx σ) I2 (.cons rfl r) (nil_app q2)
theorem pe_meth0S {pl : Sem Bool} (he : PE X o ta) (c : Cls X.K C) (hm : Meth X.K C m f) (F : FnOk X.prog X.w X.K X.mg X.base CX k f fd ps sp) (hr : Room k X.A) (hb : Binds X.K fd ps []) (hx : ∀ σ, PassesAt CX X σ (E σ))
    (ht : eval (.Call (.Attribute o m apos) [] [] pos) X.env = (do
      let ov ← eval o X.env
      standAt apos.atName
      let (f, first) ← holding [ov] (getMethod ov m pl)
      callWith pos f first (backTo pos (starEach [] X.env)) (backToKw pos (keywordEach [] X.env))) := by rfl) :
    PE X (.Call (.Attribute o m apos) [] [] pos) (tMethS C m sp E ta tNil) := by
  refine ⟨fun pins s σ H Q I h => ?_⟩
  refine PySem.W.methodCall_KW (pl := pl) (thn (he.run pins s σ H _ I h) fun u s1 ⟨x, H1, I1, rx, a, dx, fs, ex, ea, l, q⟩ => ?_) ht
  subst ex
  obtain rfl : u = Value.ref a := rx
  refine getmeth_ok I1 ea c hm l ?_
  exact PySem.W.callWith_K0 (first := [.ref a]) I1.kIn hm.kp (run_fnS (us := [.ref a]) (vs := [.ref a]) F hr hb (hx σ) I1 (.cons rfl .nil) q)
end
/-- what C.__init__(self, v) of such a class keeps: f -/
def spXi (C : Addr) (f : Str) : Sp := fun vs H Q _ => ∃ (a : Addr) (v : V), vs = [.ref a, v] ∧ H a = some (exo a C none) ∧ ∀ dx, H dx = none → dx ≠ a → Q .non (upd (upd H dx (exd dx [(f, v)])) a (exo a C (some dx)))
/-- raise C(v) -/
theorem xi_end {C : Addr} {f : Str} {v : V} {H1 : Hp} {Q : XK} (q : ∀ d, H1 d = none → Q (.ref C) (some d) (upd H1 d (.xd [(f, v)]))) :
    [v].length ≤ 1000 ∧ ∀ a, H1 a = none → spXi C f (.ref a :: ([v] ++ [])) (upd H1 a (exo a C none)) (fun v H2 => v = .non ∧ ∃ (d : Addr) (fs : List (Str × V)), H2 a = some (exo a C (some d)) ∧ H2 d = some (exd d fs) ∧ H1 d = none ∧ Q (.ref C) (some d) (upd (del H2 a) d (.xd fs))) (fun _ _ _ => False) := by
  refine ⟨(show 1 ≤ 1000 by decide), fun a na => ⟨a, v, rfl, upd_same, fun dx hd hne => ⟨rfl, dx, [(f, v)], upd_same, by rw [upd_ne hne]; exact upd_same, ?_, ?_⟩⟩⟩
  · rw [upd_ne hne] at hd; exact hd
  · rw [upd_ne hne] at hd
    have e : (upd (del (upd (upd (upd H1 a (exo a C none)) dx (exd dx [(f, v)])) a (exo a C (some dx))) a) dx (.xd [(f, v)])) = upd H1 dx (.xd [(f, v)]) := by
      funext b
      by_cases hb : b = dx
      · rw [hb, upd_same, upd_same]
      · rw [upd_ne hb, upd_ne hb]
        by_cases ha : b = a
        · rw [ha, del_same, na]
        · rw [del_ne ha, upd_ne ha, upd_ne hb, upd_ne ha]
    rw [e]
    exact q dx hd
/-! truths that are known -/
theorem iteTs {A B : Prop} (h : A) : if true = true then A else B := by rw [if_pos rfl]; exact h
theorem iteFs {A B : Prop} (h : B) : if false = true then A else B := by rw [if_neg (by decide)]; exact h
theorem ix_first {bs : List Bool} {j : Nat} (h : (bs.take j).all (fun b => !b) = true) : ∀ (m : Nat) (z : V), m < j → (bs.map V.bl)[m]? = some z → eqV z (.bl true) = false := fun m z hm hz => by
  rw [List.getElem?_map] at hz
  cases e : bs[m]? with
  | none => rw [e] at hz; cases hz
  | some b =>
    rw [e] at hz
    obtain rfl := Option.some.inj hz
    have : b ∈ bs.take j := List.mem_of_getElem? (i := m) (by rw [List.getElem?_take, if_pos hm]; exact e)
    have := List.all_eq_true.mp h b this
    cases b
    · rfl
    · cases this

/-! ### the text by places -/
def top (i : Nat) : Stmt := PySem.Challenge.pw_boardheld_k18_twins.main.body.getD i (.Pass ⟨0, 0, 0, 0⟩)
abbrev s__wall : Stmt := top 0
abbrev s_Memory_init : Stmt := inClass (top 14) 0
abbrev s_Memory_word_at : Stmt := inClass (top 14) 1
abbrev s_Memory_bar_to : Stmt := inClass (top 14) 2
abbrev s_Memory_put : Stmt := inClass (top 14) 3
abbrev s_Memory_turn_bit : Stmt := inClass (top 14) 4
abbrev s_Memory_raise_flag : Stmt := inClass (top 14) 5
abbrev s_Memory_place : Stmt := inClass (top 14) 6
abbrev s_Memory_set_place : Stmt := inClass (top 14) 7
abbrev s_Memory_twin : Stmt := inClass (top 14) 8
abbrev s_is_word : Stmt := top 19
abbrev s_name_of : Stmt := top 20
abbrev s_part_of : Stmt := top 21
abbrev s_is_line : Stmt := top 26
abbrev s_Board_init : Stmt := inClass (top 27) 0
abbrev s_Board_twin : Stmt := inClass (top 27) 1
abbrev s_Board_pass_beats : Stmt := inClass (top 27) 2
abbrev s_Board_line_comes : Stmt := inClass (top 27) 3
abbrev s_Board_timer_goes : Stmt := inClass (top 27) 4
abbrev s_Board_pending : Stmt := inClass (top 27) 5
abbrev s_Board_turn : Stmt := inClass (top 27) 6
abbrev s_Board_stop : Stmt := inClass (top 27) 7
abbrev s_Board_interrupt : Stmt := inClass (top 27) 8
abbrev s_Board_store : Stmt := inClass (top 27) 9
abbrev s_Board_fetch : Stmt := inClass (top 27) 10
abbrev s_Board_addresses : Stmt := inClass (top 27) 11
abbrev s_Board_bar_of : Stmt := inClass (top 27) 12
abbrev s_Board_deed : Stmt := inClass (top 27) 13
abbrev s_Board_do : Stmt := inClass (top 27) 14
abbrev s_Board_do_putting : Stmt := inClass (top 27) 15
abbrev s_Board_do_returning : Stmt := inClass (top 27) 16
abbrev s_Board_do_reckoning : Stmt := inClass (top 27) 17
abbrev s__law_cell : Stmt := top 29
abbrev s__law_digits : Stmt := top 30
abbrev s__law_new : Stmt := top 31
abbrev s__law_go_by : Stmt := top 32
abbrev s__law_barred : Stmt := top 33
abbrev s__law_lay : Stmt := top 34
abbrev s__law_halts : Stmt := top 35
abbrev s__law_once : Stmt := top 36
abbrev s__law_deed : Stmt := top 37
abbrev s__law_done : Stmt := top 38
abbrev s__law_same : Stmt := top 39
abbrev s__law_like_words : Stmt := top 40
abbrev s__law_word_by : Stmt := top 41
abbrev s__law_drawn_image : Stmt := top 42
abbrev s__law_drawn_line : Stmt := top 43
abbrev s__law_own_twin : Stmt := top 44
abbrev s_law : Stmt := top 45
/-! ### what the top has written -/
structure Txt (K : PySem.W.Frag) (mg : Str → Option Value) : Prop where
  g__wall : mg "_wall" = some (.ref (He.ga K "_wall"))
  g_BoardError : mg "BoardError" = some (.ref (He.ga K "BoardError"))
  g_NoImage : mg "NoImage" = some (.ref (He.ga K "NoImage"))
  c_FLASH : ∃ t, mg "FLASH" = some (.int 512 t)
  c_RAM : ∃ t, mg "RAM" = some (.int 768 t)
  c_COUNT : ∃ t, mg "COUNT" = some (.int 768 t)
  c_TOP : ∃ t, mg "TOP" = some (.int 769 t)
  c_FLAGS : ∃ t, mg "FLAGS" = some (.int 770 t)
  c_MASK : ∃ t, mg "MASK" = some (.int 771 t)
  c_LINE_IN : ∃ t, mg "LINE_IN" = some (.int 772 t)
  c_LINE_OUT : ∃ t, mg "LINE_OUT" = some (.int 773 t)
  c_ERASED : ∃ t, mg "ERASED" = some (.int 65535 t)
  g_Memory : mg "Memory" = some (.ref (He.ga K "Memory"))
  g_NAMES : mg "NAMES" = some (.ref (He.ga K "NAMES"))
  g_READING : mg "READING" = some (.ref (He.ga K "READING"))
  c_MOST : ∃ t, mg "MOST" = some (.int 65535 t)
  g_is_word : mg "is_word" = some (.ref (He.ga K "is_word"))
  g_name_of : mg "name_of" = some (.ref (He.ga K "name_of"))
  g_part_of : mg "part_of" = some (.ref (He.ga K "part_of"))
  c_FIRST_STACK : ∃ t, mg "FIRST_STACK" = some (.int 767 t)
  c_TIMER_BIT : ∃ t, mg "TIMER_BIT" = some (.int 1 t)
  c_LINE_BIT : ∃ t, mg "LINE_BIT" = some (.int 2 t)
  g_is_line : mg "is_line" = some (.ref (He.ga K "is_line"))
  g_Board : mg "Board" = some (.ref (He.ga K "Board"))
  g__law_cell : mg "_law_cell" = some (.ref (He.ga K "_law_cell"))
  g__law_digits : mg "_law_digits" = some (.ref (He.ga K "_law_digits"))
  g__law_new : mg "_law_new" = some (.ref (He.ga K "_law_new"))
  g__law_go_by : mg "_law_go_by" = some (.ref (He.ga K "_law_go_by"))
  g__law_barred : mg "_law_barred" = some (.ref (He.ga K "_law_barred"))
  g__law_lay : mg "_law_lay" = some (.ref (He.ga K "_law_lay"))
  g__law_halts : mg "_law_halts" = some (.ref (He.ga K "_law_halts"))
  g__law_once : mg "_law_once" = some (.ref (He.ga K "_law_once"))
  g__law_deed : mg "_law_deed" = some (.ref (He.ga K "_law_deed"))
  g__law_done : mg "_law_done" = some (.ref (He.ga K "_law_done"))
  g__law_same : mg "_law_same" = some (.ref (He.ga K "_law_same"))
  g__law_like_words : mg "_law_like_words" = some (.ref (He.ga K "_law_like_words"))
  g__law_word_by : mg "_law_word_by" = some (.ref (He.ga K "_law_word_by"))
  g__law_drawn_image : mg "_law_drawn_image" = some (.ref (He.ga K "_law_drawn_image"))
  g__law_drawn_line : mg "_law_drawn_line" = some (.ref (He.ga K "_law_drawn_line"))
  g__law_own_twin : mg "_law_own_twin" = some (.ref (He.ga K "_law_own_twin"))
  g_law : mg "law" = some (.ref (He.ga K "law"))
  f_all : mg "all" = none
  f_bool : mg "bool" = none
  f_dict : mg "dict" = none
  f_int : mg "int" = none
  f_isinstance : mg "isinstance" = none
  f_len : mg "len" = none
  f_list : mg "list" = none
  f_range : mg "range" = none
  f_set : mg "set" = none
  f_sorted : mg "sorted" = none
  x_BoardError : PySem.W.excIn K (He.ga K "BoardError") He.veBase "ValueError.__new__" = true ∧ PySem.W.keepIn K (.ref (He.ga K "BoardError")) = true ∧ PySem.W.subIn K (.ref (He.ga K "BoardError")) (.type "BaseException") = some true ∧ PySem.W.typeIn K (.ref (He.ga K "BoardError")) = some (.type "type")
  xm_BoardError_BoardError : PySem.W.exmOne K (.ref (He.ga K "BoardError")) (.ref (He.ga K "BoardError")) = some true
  xm_BoardError_NoImage : PySem.W.exmOne K (.ref (He.ga K "BoardError")) (.ref (He.ga K "NoImage")) = some false
  x_NoImage : PySem.W.excIn K (He.ga K "NoImage") He.veBase "ValueError.__new__" = true ∧ PySem.W.keepIn K (.ref (He.ga K "NoImage")) = true ∧ PySem.W.subIn K (.ref (He.ga K "NoImage")) (.type "BaseException") = some true ∧ PySem.W.typeIn K (.ref (He.ga K "NoImage")) = some (.type "type")
  xm_NoImage_BoardError : PySem.W.exmOne K (.ref (He.ga K "NoImage")) (.ref (He.ga K "BoardError")) = some true
  xm_NoImage_NoImage : PySem.W.exmOne K (.ref (He.ga K "NoImage")) (.ref (He.ga K "NoImage")) = some true
  k_Memory : Cls K (He.ga K "Memory")
  n_Memory_flash : NoAttr K (He.ga K "Memory") "flash"
  n_Memory_ram : NoAttr K (He.ga K "Memory") "ram"
  n_Memory_places : NoAttr K (He.ga K "Memory") "places"
  m_Memory_init : Meth K (He.ga K "Memory") "__init__" (He.ma K (He.ga K "Memory") "__init__")
  mk_Memory : Mk K (He.ga K "Memory") (He.ma K (He.ga K "Memory") "__init__")
  m_Memory_word_at : Meth K (He.ga K "Memory") "word_at" (He.ma K (He.ga K "Memory") "word_at")
  m_Memory_bar_to : Meth K (He.ga K "Memory") "bar_to" (He.ma K (He.ga K "Memory") "bar_to")
  m_Memory_put : Meth K (He.ga K "Memory") "put" (He.ma K (He.ga K "Memory") "put")
  m_Memory_turn_bit : Meth K (He.ga K "Memory") "turn_bit" (He.ma K (He.ga K "Memory") "turn_bit")
  m_Memory_raise_flag : Meth K (He.ga K "Memory") "raise_flag" (He.ma K (He.ga K "Memory") "raise_flag")
  m_Memory_place : Meth K (He.ga K "Memory") "place" (He.ma K (He.ga K "Memory") "place")
  m_Memory_set_place : Meth K (He.ga K "Memory") "set_place" (He.ma K (He.ga K "Memory") "set_place")
  m_Memory_twin : Meth K (He.ga K "Memory") "twin" (He.ma K (He.ga K "Memory") "twin")
  k_Board : Cls K (He.ga K "Board")
  n_Board_memory : NoAttr K (He.ga K "Board") "memory"
  n_Board_line : NoAttr K (He.ga K "Board") "line"
  n_Board_registers : NoAttr K (He.ga K "Board") "registers"
  n_Board_zero : NoAttr K (He.ga K "Board") "zero"
  n_Board_lets : NoAttr K (He.ga K "Board") "lets"
  n_Board_asleep : NoAttr K (He.ga K "Board") "asleep"
  n_Board_beat : NoAttr K (He.ga K "Board") "beat"
  n_Board_stopped : NoAttr K (He.ga K "Board") "stopped"
  n_Board_sent : NoAttr K (He.ga K "Board") "sent"
  n_Board_touched : NoAttr K (He.ga K "Board") "touched"
  n_Board_bend : NoAttr K (He.ga K "Board") "bend"
  m_Board_init : Meth K (He.ga K "Board") "__init__" (He.ma K (He.ga K "Board") "__init__")
  mk_Board : Mk K (He.ga K "Board") (He.ma K (He.ga K "Board") "__init__")
  m_Board_twin : Meth K (He.ga K "Board") "twin" (He.ma K (He.ga K "Board") "twin")
  m_Board_pass_beats : Meth K (He.ga K "Board") "pass_beats" (He.ma K (He.ga K "Board") "pass_beats")
  m_Board_line_comes : Meth K (He.ga K "Board") "line_comes" (He.ma K (He.ga K "Board") "line_comes")
  m_Board_timer_goes : Meth K (He.ga K "Board") "timer_goes" (He.ma K (He.ga K "Board") "timer_goes")
  m_Board_pending : Meth K (He.ga K "Board") "pending" (He.ma K (He.ga K "Board") "pending")
  m_Board_turn : Meth K (He.ga K "Board") "turn" (He.ma K (He.ga K "Board") "turn")
  m_Board_stop : Meth K (He.ga K "Board") "stop" (He.ma K (He.ga K "Board") "stop")
  m_Board_interrupt : Meth K (He.ga K "Board") "interrupt" (He.ma K (He.ga K "Board") "interrupt")
  m_Board_store : Meth K (He.ga K "Board") "store" (He.ma K (He.ga K "Board") "store")
  m_Board_fetch : Meth K (He.ga K "Board") "fetch" (He.ma K (He.ga K "Board") "fetch")
  m_Board_addresses : Meth K (He.ga K "Board") "addresses" (He.ma K (He.ga K "Board") "addresses")
  m_Board_bar_of : Meth K (He.ga K "Board") "bar_of" (He.ma K (He.ga K "Board") "bar_of")
  m_Board_deed : Meth K (He.ga K "Board") "deed" (He.ma K (He.ga K "Board") "deed")
  m_Board_do : Meth K (He.ga K "Board") "do" (He.ma K (He.ga K "Board") "do")
  m_Board_do_putting : Meth K (He.ga K "Board") "do_putting" (He.ma K (He.ga K "Board") "do_putting")
  m_Board_do_returning : Meth K (He.ga K "Board") "do_returning" (He.ma K (He.ga K "Board") "do_returning")
  m_Board_do_reckoning : Meth K (He.ga K "Board") "do_reckoning" (He.ma K (He.ga K "Board") "do_reckoning")
  l_NAMES : ∀ H : Hp, SqL K H (He.ga K "NAMES") [V.str "mark", V.str "lit", V.str "get", V.str "put", V.str "add", V.str "sub", V.str "and", V.str "xor", V.str "getb", V.str "putb", V.str "tob", V.str "swap", V.str "go", V.str "ifz", V.str "ifn", V.str "call", V.str "ret", V.str "push", V.str "pop", V.str "sleep", V.str "let", V.str "back", V.str "half"]
  l_READING : ∀ H : Hp, SqL K H (He.ga K "READING") [V.str "get", V.str "add", V.str "sub", V.str "and", V.str "xor"]
  d__wall : ∃ fd, FnP K "_wall" "_wall" s__wall (He.fAd K ("_wall", none)) fd
  d_Memory_init : ∃ fd, FnP K "__init__" "Memory.__init__" s_Memory_init (He.fAd K ("Memory", some "__init__")) fd
  d_Memory_word_at : ∃ fd, FnP K "word_at" "Memory.word_at" s_Memory_word_at (He.fAd K ("Memory", some "word_at")) fd
  d_Memory_bar_to : ∃ fd, FnP K "bar_to" "Memory.bar_to" s_Memory_bar_to (He.fAd K ("Memory", some "bar_to")) fd
  d_Memory_put : ∃ fd, FnP K "put" "Memory.put" s_Memory_put (He.fAd K ("Memory", some "put")) fd
  d_Memory_turn_bit : ∃ fd, FnP K "turn_bit" "Memory.turn_bit" s_Memory_turn_bit (He.fAd K ("Memory", some "turn_bit")) fd
  d_Memory_raise_flag : ∃ fd, FnP K "raise_flag" "Memory.raise_flag" s_Memory_raise_flag (He.fAd K ("Memory", some "raise_flag")) fd
  d_Memory_place : ∃ fd, FnP K "place" "Memory.place" s_Memory_place (He.fAd K ("Memory", some "place")) fd
  d_Memory_set_place : ∃ fd, FnP K "set_place" "Memory.set_place" s_Memory_set_place (He.fAd K ("Memory", some "set_place")) fd
  d_Memory_twin : ∃ fd, FnP K "twin" "Memory.twin" s_Memory_twin (He.fAd K ("Memory", some "twin")) fd
  d_is_word : ∃ fd, FnP K "is_word" "is_word" s_is_word (He.fAd K ("is_word", none)) fd
  d_name_of : ∃ fd, FnP K "name_of" "name_of" s_name_of (He.fAd K ("name_of", none)) fd
  d_part_of : ∃ fd, FnP K "part_of" "part_of" s_part_of (He.fAd K ("part_of", none)) fd
  d_is_line : ∃ fd, FnP K "is_line" "is_line" s_is_line (He.fAd K ("is_line", none)) fd
  d_Board_init : ∃ fd, FnP K "__init__" "Board.__init__" s_Board_init (He.fAd K ("Board", some "__init__")) fd
  d_Board_twin : ∃ fd, FnP K "twin" "Board.twin" s_Board_twin (He.fAd K ("Board", some "twin")) fd
  d_Board_pass_beats : ∃ fd, FnP K "pass_beats" "Board.pass_beats" s_Board_pass_beats (He.fAd K ("Board", some "pass_beats")) fd
  d_Board_line_comes : ∃ fd, FnP K "line_comes" "Board.line_comes" s_Board_line_comes (He.fAd K ("Board", some "line_comes")) fd
  d_Board_timer_goes : ∃ fd, FnP K "timer_goes" "Board.timer_goes" s_Board_timer_goes (He.fAd K ("Board", some "timer_goes")) fd
  d_Board_pending : ∃ fd, FnP K "pending" "Board.pending" s_Board_pending (He.fAd K ("Board", some "pending")) fd
  d_Board_turn : ∃ fd, FnP K "turn" "Board.turn" s_Board_turn (He.fAd K ("Board", some "turn")) fd
  d_Board_stop : ∃ fd, FnP K "stop" "Board.stop" s_Board_stop (He.fAd K ("Board", some "stop")) fd
  d_Board_interrupt : ∃ fd, FnP K "interrupt" "Board.interrupt" s_Board_interrupt (He.fAd K ("Board", some "interrupt")) fd
  d_Board_store : ∃ fd, FnP K "store" "Board.store" s_Board_store (He.fAd K ("Board", some "store")) fd
  d_Board_fetch : ∃ fd, FnP K "fetch" "Board.fetch" s_Board_fetch (He.fAd K ("Board", some "fetch")) fd
  d_Board_addresses : ∃ fd, FnP K "addresses" "Board.addresses" s_Board_addresses (He.fAd K ("Board", some "addresses")) fd
  d_Board_bar_of : ∃ fd, FnP K "bar_of" "Board.bar_of" s_Board_bar_of (He.fAd K ("Board", some "bar_of")) fd
  d_Board_deed : ∃ fd, FnP K "deed" "Board.deed" s_Board_deed (He.fAd K ("Board", some "deed")) fd
  d_Board_do : ∃ fd, FnP K "do" "Board.do" s_Board_do (He.fAd K ("Board", some "do")) fd
  d_Board_do_putting : ∃ fd, FnP K "do_putting" "Board.do_putting" s_Board_do_putting (He.fAd K ("Board", some "do_putting")) fd
  d_Board_do_returning : ∃ fd, FnP K "do_returning" "Board.do_returning" s_Board_do_returning (He.fAd K ("Board", some "do_returning")) fd
  d_Board_do_reckoning : ∃ fd, FnP K "do_reckoning" "Board.do_reckoning" s_Board_do_reckoning (He.fAd K ("Board", some "do_reckoning")) fd
  d__law_cell : ∃ fd, FnP K "_law_cell" "_law_cell" s__law_cell (He.fAd K ("_law_cell", none)) fd
  d__law_digits : ∃ fd, FnP K "_law_digits" "_law_digits" s__law_digits (He.fAd K ("_law_digits", none)) fd
  d__law_new : ∃ fd, FnP K "_law_new" "_law_new" s__law_new (He.fAd K ("_law_new", none)) fd
  d__law_go_by : ∃ fd, FnP K "_law_go_by" "_law_go_by" s__law_go_by (He.fAd K ("_law_go_by", none)) fd
  d__law_barred : ∃ fd, FnP K "_law_barred" "_law_barred" s__law_barred (He.fAd K ("_law_barred", none)) fd
  d__law_lay : ∃ fd, FnP K "_law_lay" "_law_lay" s__law_lay (He.fAd K ("_law_lay", none)) fd
  d__law_halts : ∃ fd, FnP K "_law_halts" "_law_halts" s__law_halts (He.fAd K ("_law_halts", none)) fd
  d__law_once : ∃ fd, FnP K "_law_once" "_law_once" s__law_once (He.fAd K ("_law_once", none)) fd
  d__law_deed : ∃ fd, FnP K "_law_deed" "_law_deed" s__law_deed (He.fAd K ("_law_deed", none)) fd
  d__law_done : ∃ fd, FnP K "_law_done" "_law_done" s__law_done (He.fAd K ("_law_done", none)) fd
  d__law_same : ∃ fd, FnP K "_law_same" "_law_same" s__law_same (He.fAd K ("_law_same", none)) fd
  d__law_like_words : ∃ fd, FnP K "_law_like_words" "_law_like_words" s__law_like_words (He.fAd K ("_law_like_words", none)) fd
  d__law_word_by : ∃ fd, FnP K "_law_word_by" "_law_word_by" s__law_word_by (He.fAd K ("_law_word_by", none)) fd
  d__law_drawn_image : ∃ fd, FnP K "_law_drawn_image" "_law_drawn_image" s__law_drawn_image (He.fAd K ("_law_drawn_image", none)) fd
  d__law_drawn_line : ∃ fd, FnP K "_law_drawn_line" "_law_drawn_line" s__law_drawn_line (He.fAd K ("_law_drawn_line", none)) fd
  d__law_own_twin : ∃ fd, FnP K "_law_own_twin" "_law_own_twin" s__law_own_twin (He.fAd K ("_law_own_twin", none)) fd
  d_law : ∃ fd, FnP K "law" "law" s_law (He.fAd K ("law", none)) fd
/-! ### the head: facts by names, written lists of the top, the run -/
def fa : List He.Fa := [.glo "_wall",
  .glo "BoardError",
  .glo "NoImage",
  .int "FLASH" 512,
  .int "RAM" 768,
  .int "COUNT" 768,
  .int "TOP" 769,
  .int "FLAGS" 770,
  .int "MASK" 771,
  .int "LINE_IN" 772,
  .int "LINE_OUT" 773,
  .int "ERASED" 65535,
  .glo "Memory",
  .glo "NAMES",
  .glo "READING",
  .int "MOST" 65535,
  .glo "is_word",
  .glo "name_of",
  .glo "part_of",
  .int "FIRST_STACK" 767,
  .int "TIMER_BIT" 1,
  .int "LINE_BIT" 2,
  .glo "is_line",
  .glo "Board",
  .glo "_law_cell",
  .glo "_law_digits",
  .glo "_law_new",
  .glo "_law_go_by",
  .glo "_law_barred",
  .glo "_law_lay",
  .glo "_law_halts",
  .glo "_law_once",
  .glo "_law_deed",
  .glo "_law_done",
  .glo "_law_same",
  .glo "_law_like_words",
  .glo "_law_word_by",
  .glo "_law_drawn_image",
  .glo "_law_drawn_line",
  .glo "_law_own_twin",
  .glo "law",
  .free "all",
  .free "bool",
  .free "dict",
  .free "int",
  .free "isinstance",
  .free "len",
  .free "list",
  .free "range",
  .free "set",
  .free "sorted",
  .exc "BoardError",
  .exm "BoardError" "BoardError" true,
  .exm "BoardError" "NoImage" false,
  .exc "NoImage",
  .exm "NoImage" "BoardError" true,
  .exm "NoImage" "NoImage" true,
  .cls "Memory",
  .noat "Memory" "flash",
  .noat "Memory" "ram",
  .noat "Memory" "places",
  .meth "Memory" "__init__",
  .mkr "Memory",
  .meth "Memory" "word_at",
  .meth "Memory" "bar_to",
  .meth "Memory" "put",
  .meth "Memory" "turn_bit",
  .meth "Memory" "raise_flag",
  .meth "Memory" "place",
  .meth "Memory" "set_place",
  .meth "Memory" "twin",
  .cls "Board",
  .noat "Board" "memory",
  .noat "Board" "line",
  .noat "Board" "registers",
  .noat "Board" "zero",
  .noat "Board" "lets",
  .noat "Board" "asleep",
  .noat "Board" "beat",
  .noat "Board" "stopped",
  .noat "Board" "sent",
  .noat "Board" "touched",
  .noat "Board" "bend",
  .meth "Board" "__init__",
  .mkr "Board",
  .meth "Board" "twin",
  .meth "Board" "pass_beats",
  .meth "Board" "line_comes",
  .meth "Board" "timer_goes",
  .meth "Board" "pending",
  .meth "Board" "turn",
  .meth "Board" "stop",
  .meth "Board" "interrupt",
  .meth "Board" "store",
  .meth "Board" "fetch",
  .meth "Board" "addresses",
  .meth "Board" "bar_of",
  .meth "Board" "deed",
  .meth "Board" "do",
  .meth "Board" "do_putting",
  .meth "Board" "do_returning",
  .meth "Board" "do_reckoning"]
def fn : List He.DefD := [⟨("_wall", none), "_wall", "_wall", defArgs s__wall, defBody s__wall, defScope s__wall, [], []⟩,
  ⟨("Memory", some "__init__"), "__init__", "Memory.__init__", defArgs s_Memory_init, defBody s_Memory_init, defScope s_Memory_init, [], []⟩,
  ⟨("Memory", some "word_at"), "word_at", "Memory.word_at", defArgs s_Memory_word_at, defBody s_Memory_word_at, defScope s_Memory_word_at, [], []⟩,
  ⟨("Memory", some "bar_to"), "bar_to", "Memory.bar_to", defArgs s_Memory_bar_to, defBody s_Memory_bar_to, defScope s_Memory_bar_to, [], []⟩,
  ⟨("Memory", some "put"), "put", "Memory.put", defArgs s_Memory_put, defBody s_Memory_put, defScope s_Memory_put, [], []⟩,
  ⟨("Memory", some "turn_bit"), "turn_bit", "Memory.turn_bit", defArgs s_Memory_turn_bit, defBody s_Memory_turn_bit, defScope s_Memory_turn_bit, [], []⟩,
  ⟨("Memory", some "raise_flag"), "raise_flag", "Memory.raise_flag", defArgs s_Memory_raise_flag, defBody s_Memory_raise_flag, defScope s_Memory_raise_flag, [], []⟩,
  ⟨("Memory", some "place"), "place", "Memory.place", defArgs s_Memory_place, defBody s_Memory_place, defScope s_Memory_place, [], []⟩,
  ⟨("Memory", some "set_place"), "set_place", "Memory.set_place", defArgs s_Memory_set_place, defBody s_Memory_set_place, defScope s_Memory_set_place, [], []⟩,
  ⟨("Memory", some "twin"), "twin", "Memory.twin", defArgs s_Memory_twin, defBody s_Memory_twin, defScope s_Memory_twin, [], []⟩,
  ⟨("is_word", none), "is_word", "is_word", defArgs s_is_word, defBody s_is_word, defScope s_is_word, [], []⟩,
  ⟨("name_of", none), "name_of", "name_of", defArgs s_name_of, defBody s_name_of, defScope s_name_of, [], []⟩,
  ⟨("part_of", none), "part_of", "part_of", defArgs s_part_of, defBody s_part_of, defScope s_part_of, [], []⟩,
  ⟨("is_line", none), "is_line", "is_line", defArgs s_is_line, defBody s_is_line, defScope s_is_line, [], []⟩,
  ⟨("Board", some "__init__"), "__init__", "Board.__init__", defArgs s_Board_init, defBody s_Board_init, defScope s_Board_init, [], []⟩,
  ⟨("Board", some "twin"), "twin", "Board.twin", defArgs s_Board_twin, defBody s_Board_twin, defScope s_Board_twin, [], []⟩,
  ⟨("Board", some "pass_beats"), "pass_beats", "Board.pass_beats", defArgs s_Board_pass_beats, defBody s_Board_pass_beats, defScope s_Board_pass_beats, [], []⟩,
  ⟨("Board", some "line_comes"), "line_comes", "Board.line_comes", defArgs s_Board_line_comes, defBody s_Board_line_comes, defScope s_Board_line_comes, [], []⟩,
  ⟨("Board", some "timer_goes"), "timer_goes", "Board.timer_goes", defArgs s_Board_timer_goes, defBody s_Board_timer_goes, defScope s_Board_timer_goes, [], []⟩,
  ⟨("Board", some "pending"), "pending", "Board.pending", defArgs s_Board_pending, defBody s_Board_pending, defScope s_Board_pending, [], []⟩,
  ⟨("Board", some "turn"), "turn", "Board.turn", defArgs s_Board_turn, defBody s_Board_turn, defScope s_Board_turn, [], []⟩,
  ⟨("Board", some "stop"), "stop", "Board.stop", defArgs s_Board_stop, defBody s_Board_stop, defScope s_Board_stop, [], []⟩,
  ⟨("Board", some "interrupt"), "interrupt", "Board.interrupt", defArgs s_Board_interrupt, defBody s_Board_interrupt, defScope s_Board_interrupt, [], []⟩,
  ⟨("Board", some "store"), "store", "Board.store", defArgs s_Board_store, defBody s_Board_store, defScope s_Board_store, [], []⟩,
  ⟨("Board", some "fetch"), "fetch", "Board.fetch", defArgs s_Board_fetch, defBody s_Board_fetch, defScope s_Board_fetch, [], []⟩,
  ⟨("Board", some "addresses"), "addresses", "Board.addresses", defArgs s_Board_addresses, defBody s_Board_addresses, defScope s_Board_addresses, [], []⟩,
  ⟨("Board", some "bar_of"), "bar_of", "Board.bar_of", defArgs s_Board_bar_of, defBody s_Board_bar_of, defScope s_Board_bar_of, [], []⟩,
  ⟨("Board", some "deed"), "deed", "Board.deed", defArgs s_Board_deed, defBody s_Board_deed, defScope s_Board_deed, [], []⟩,
  ⟨("Board", some "do"), "do", "Board.do", defArgs s_Board_do, defBody s_Board_do, defScope s_Board_do, [], []⟩,
  ⟨("Board", some "do_putting"), "do_putting", "Board.do_putting", defArgs s_Board_do_putting, defBody s_Board_do_putting, defScope s_Board_do_putting, [], []⟩,
  ⟨("Board", some "do_returning"), "do_returning", "Board.do_returning", defArgs s_Board_do_returning, defBody s_Board_do_returning, defScope s_Board_do_returning, [], []⟩,
  ⟨("Board", some "do_reckoning"), "do_reckoning", "Board.do_reckoning", defArgs s_Board_do_reckoning, defBody s_Board_do_reckoning, defScope s_Board_do_reckoning, [], []⟩,
  ⟨("_law_cell", none), "_law_cell", "_law_cell", defArgs s__law_cell, defBody s__law_cell, defScope s__law_cell, [], []⟩,
  ⟨("_law_digits", none), "_law_digits", "_law_digits", defArgs s__law_digits, defBody s__law_digits, defScope s__law_digits, [], []⟩,
  ⟨("_law_new", none), "_law_new", "_law_new", defArgs s__law_new, defBody s__law_new, defScope s__law_new, [], []⟩,
  ⟨("_law_go_by", none), "_law_go_by", "_law_go_by", defArgs s__law_go_by, defBody s__law_go_by, defScope s__law_go_by, [], []⟩,
  ⟨("_law_barred", none), "_law_barred", "_law_barred", defArgs s__law_barred, defBody s__law_barred, defScope s__law_barred, [], []⟩,
  ⟨("_law_lay", none), "_law_lay", "_law_lay", defArgs s__law_lay, defBody s__law_lay, defScope s__law_lay, [], []⟩,
  ⟨("_law_halts", none), "_law_halts", "_law_halts", defArgs s__law_halts, defBody s__law_halts, defScope s__law_halts, [], []⟩,
  ⟨("_law_once", none), "_law_once", "_law_once", defArgs s__law_once, defBody s__law_once, defScope s__law_once, [], []⟩,
  ⟨("_law_deed", none), "_law_deed", "_law_deed", defArgs s__law_deed, defBody s__law_deed, defScope s__law_deed, [], []⟩,
  ⟨("_law_done", none), "_law_done", "_law_done", defArgs s__law_done, defBody s__law_done, defScope s__law_done, [], []⟩,
  ⟨("_law_same", none), "_law_same", "_law_same", defArgs s__law_same, defBody s__law_same, defScope s__law_same, [], []⟩,
  ⟨("_law_like_words", none), "_law_like_words", "_law_like_words", defArgs s__law_like_words, defBody s__law_like_words, defScope s__law_like_words, [], []⟩,
  ⟨("_law_word_by", none), "_law_word_by", "_law_word_by", defArgs s__law_word_by, defBody s__law_word_by, defScope s__law_word_by, [], []⟩,
  ⟨("_law_drawn_image", none), "_law_drawn_image", "_law_drawn_image", defArgs s__law_drawn_image, defBody s__law_drawn_image, defScope s__law_drawn_image, [], []⟩,
  ⟨("_law_drawn_line", none), "_law_drawn_line", "_law_drawn_line", defArgs s__law_drawn_line, defBody s__law_drawn_line, defScope s__law_drawn_line, [], []⟩,
  ⟨("_law_own_twin", none), "_law_own_twin", "_law_own_twin", defArgs s__law_own_twin, defBody s__law_own_twin, defScope s__law_own_twin, [], []⟩,
  ⟨("law", none), "law", "law", defArgs s_law, defBody s_law, defScope s_law, [], []⟩]
def ex (K : PySem.W.Frag) : Bool := He.lstB K "NAMES" [.str "mark", .str "lit", .str "get", .str "put", .str "add", .str "sub", .str "and", .str "xor", .str "getb", .str "putb", .str "tob", .str "swap", .str "go", .str "ifz", .str "ifn", .str "call", .str "ret", .str "push", .str "pop", .str "sleep", .str "let", .str "back", .str "half"] && (He.lstB K "READING" [.str "get", .str "add", .str "sub", .str "and", .str "xor"])
abbrev R : PySem.W.OpenRow := PySem.W.OpenLaw.row PySem.Challenge.rw_boardheld_k18_twins
abbrev hk : PySem.W.Hook := hookM 4 fa fn ex
def ob (s : PySem.W.SharedT) : He.AlD × Bool := obsMG 4 fa fn ex (HandSHeadRun.getT s)
theorem ob_eq (s : PySem.W.SharedT) : ob s = hk.obs s.abs := obsMG_eq (HandSHeadRun.getT_eq s)
def loose : List PySem.Str := ([(PySem.Str.ofString "_wall"), (PySem.Str.ofString "BoardError"), (PySem.Str.ofString "NoImage"), (PySem.Str.ofString "FLASH"), (PySem.Str.ofString "RAM"), (PySem.Str.ofString "COUNT"), (PySem.Str.ofString "TOP"), (PySem.Str.ofString "FLAGS"), (PySem.Str.ofString "MASK"), (PySem.Str.ofString "LINE_IN"), (PySem.Str.ofString "LINE_OUT"), (PySem.Str.ofString "ERASED"), (PySem.Str.ofString "Memory"), (PySem.Str.ofString "NAMES"), (PySem.Str.ofString "READING"), (PySem.Str.ofString "MOST"), (PySem.Str.ofString "is_word"), (PySem.Str.ofString "name_of"), (PySem.Str.ofString "part_of"), (PySem.Str.ofString "FIRST_STACK"), (PySem.Str.ofString "TIMER_BIT"), (PySem.Str.ofString "LINE_BIT"), (PySem.Str.ofString "is_line"), (PySem.Str.ofString "Board"), (PySem.Str.ofString "_law_cell"), (PySem.Str.ofString "_law_digits"), (PySem.Str.ofString "_law_new"), (PySem.Str.ofString "_law_go_by"), (PySem.Str.ofString "_law_barred"), (PySem.Str.ofString "_law_lay"), (PySem.Str.ofString "_law_halts"), (PySem.Str.ofString "_law_once"), (PySem.Str.ofString "_law_deed"), (PySem.Str.ofString "_law_done"), (PySem.Str.ofString "_law_same")] : List PySem.Str) ++ ([(PySem.Str.ofString "_law_like_words"), (PySem.Str.ofString "_law_word_by"), (PySem.Str.ofString "_law_drawn_image"), (PySem.Str.ofString "_law_drawn_line"), (PySem.Str.ofString "_law_own_twin")] : List PySem.Str)
theorem map3 {α β γ δ : Type} {o : Option α} {f : α → β} {g : α → γ} {h : α → δ} {a : β} {b : γ} {c : δ} (h1 : o.map f = some a) (h2 : o.map g = some b) (h3 : o.map h = some c) : (o.map fun s => (f s, g s, h s)) = some (a, b, c) := by
  cases o with
  | none => cases h1
  | some s => rw [Option.map_some] at *; rw [Option.some.inj h1, Option.some.inj h2, Option.some.inj h3]
theorem oall_cut {σ α : Type} {o : Option σ} {p : σ → α → Bool} {l : List α} (i k : Nat) (h1 : (o.map fun s => ((l.drop i).take k).all (p s)) = some true) (h2 : (o.map fun s => (l.drop (i + k)).all (p s)) = some true) : (o.map fun s => (l.drop i).all (p s)) = some true := by
  cases o with
  | none => cases h1
  | some s =>
    rw [Option.map_some] at *
    rw [← List.take_append_drop k (l.drop i), List.all_append, Option.some.inj h1, List.drop_drop, Option.some.inj h2]; rfl
theorem omap_cut {σ α β : Type} {o : Option σ} {p : σ → α → β} {g : α → β} {l : List α} (i k : Nat) (h1 : (o.map fun s => ((l.drop i).take k).map (p s)) = some (((l.drop i).take k).map g)) (h2 : (o.map fun s => (l.drop (i + k)).map (p s)) = some ((l.drop (i + k)).map g)) : (o.map fun s => (l.drop i).map (p s)) = some ((l.drop i).map g) := by
  cases o with
  | none => cases h1
  | some s =>
    rw [Option.map_some] at *
    rw [← List.take_append_drop k (l.drop i), List.map_append, List.map_append, Option.some.inj h1, List.drop_drop, Option.some.inj h2]
def Kof (s : PySem.W.SharedT) : PySem.W.Frag := He.frG (HandSHeadRun.getT s) (asM (HandSHeadRun.getT s) 4)
theorem obs3 {o : Option PySem.W.SharedT} (h1 : (o.map fun s => (fa.drop 0).all fun f => f.ok (Kof s)) = some true) (h3 : (o.map fun s => (fn.drop 0).all (fun d => d.ok (Kof s))) = some true) (h4 : (o.map fun s => (fn.drop 0).map (fun d => He.fnW (Kof s) d.at_)) = some ((fn.drop 0).map He.DefD.val)) (h5 : (o.map fun s => ex (Kof s)) = some true) (w : World) : (o.map fun s => ob s) = some (hk.val w) := by
  cases o with
  | none => cases h1
  | some s =>
    rw [Option.map_some] at *
    have e1 : (fa.all fun f => f.ok (Kof s)) = true := Option.some.inj h1
    have e4 : (fn.all fun d => d.ok (Kof s)) = true := Option.some.inj h3
    have e5 : (fn.map fun d => He.fnW (Kof s) d.at_) = fn.map He.DefD.val := Option.some.inj h4
    have e6 := Option.some.inj h5
    show some (((fa.all fun f => f.ok (Kof s)) && fn.all fun d => d.ok (Kof s), fn.map fun d => He.fnW (Kof s) d.at_), ex (Kof s)) = some ((true, fn.map He.DefD.val), true)
    rw [e1, e4, e5, e6]; rfl
section
open PySem.W PySem.Calls HandSHeadRun
noncomputable abbrev rOf (w : World) (os : OsState) : Option PySem.W.SharedT := endF (stepQ (denQ tabQ) R.prog w) 8000 R.prog w os
theorem run1 (w : World) (os : OsState) : ((rOf w os).map fun s => looksF R.prog (boot_heap w.params) s.abs) = some true := by kernel_rfl
theorem run2 (w : World) (os : OsState) : ((rOf w os).map fun s => seenQ (PySem.W.view R.prog [45]) loose (importedModules R.prog.main.body) (fun s => xlAt (PySem.W.view R.prog [45]) [] s && recOk R.toRowW.records s) s.abs) = some (openGood (PySem.W.view R.prog [45]) loose) := by kernel_rfl
theorem run7 (w : World) (os : OsState) : ((rOf w os).map fun s => ex (Kof s)) = some true := by kernel_rfl
theorem ra0 (w : World) (os : OsState) : ((rOf w os).map fun s => ((fa.drop 0).take 51).all fun f => f.ok (Kof s)) = some true := by kernel_rfl
theorem ra1 (w : World) (os : OsState) : ((rOf w os).map fun s => (fa.drop 51).all fun f => f.ok (Kof s)) = some true := by kernel_rfl
theorem rb0 (w : World) (os : OsState) : ((rOf w os).map fun s => (fn.drop 0).all (fun d => d.ok (Kof s))) = some true := by kernel_rfl
theorem rc0 (w : World) (os : OsState) : ((rOf w os).map fun s => ((fn.drop 0).take 24).map (fun d => He.fnW (Kof s) d.at_)) = some (((fn.drop 0).take 24).map He.DefD.val) := by kernel_rfl
theorem rc1 (w : World) (os : OsState) : ((rOf w os).map fun s => (fn.drop 24).map (fun d => He.fnW (Kof s) d.at_)) = some ((fn.drop 24).map He.DefD.val) := by kernel_rfl
theorem run (w : World) : HandSHeadRun.RunEq R (PySem.W.view R.prog [45]) hk ob 8000 loose w := by
  intro os
  refine map3 (run1 w os) (run2 w os) (obs3 ?_ ?_ ?_ (run7 w os) w)
  · exact (oall_cut 0 51 (ra0 w os) (ra1 w os))
  · exact (rb0 w os)
  · exact (omap_cut 0 24 (rc0 w os) (rc1 w os))
end



/-! ### memory -/
structure MA where
  p : Addr
  dx : Addr
  f : Addr
  r : Addr
  pl : Addr
structure MD where
  fl : List Int
  ra : List Int
  pl : List Int
def MemoryF (A : MA) : List (Str × V) := [(("flash" : Str), .ref A.f), (("ram" : Str), .ref A.r), (("places" : Str), .ref A.pl)]
theorem MemoryF_flash {A : MA} : (MemoryF A).lookup ("flash" : Str) = some (.ref A.f) := by kernel_rfl
theorem MemoryF_put_flash {A : MA} {x_ : V} : putF ("flash" : Str) x_ (MemoryF A) = [(("flash" : Str), x_), (("ram" : Str), .ref A.r), (("places" : Str), .ref A.pl)] := by kernel_rfl
theorem MemoryF_ram {A : MA} : (MemoryF A).lookup ("ram" : Str) = some (.ref A.r) := by kernel_rfl
theorem MemoryF_put_ram {A : MA} {x_ : V} : putF ("ram" : Str) x_ (MemoryF A) = [(("flash" : Str), .ref A.f), (("ram" : Str), x_), (("places" : Str), .ref A.pl)] := by kernel_rfl
theorem MemoryF_places {A : MA} : (MemoryF A).lookup ("places" : Str) = some (.ref A.pl) := by kernel_rfl
theorem MemoryF_put_places {A : MA} {x_ : V} : putF ("places" : Str) x_ (MemoryF A) = [(("flash" : Str), .ref A.f), (("ram" : Str), .ref A.r), (("places" : Str), x_)] := by kernel_rfl
theorem MemoryF_len {A : MA} : (MemoryF A).length < 1000 := by show 3 < 1000; decide
abbrev MA.own (A : MA) : List Addr := [A.p, A.f, A.r, A.pl]
structure MemAt (K : PySem.W.Frag) (H : Hp) (A : MA) (M : MD) : Prop where
  ob : H A.p = some (.ins (He.ga K "Memory") A.dx (MemoryF A))
  fl : H A.f = some (.lst (M.fl.map V.int))
  ra : H A.r = some (.lst (M.ra.map V.int))
  pl : H A.pl = some (.lst (M.pl.map V.int))
  lf : M.fl.length = 512
  lr : M.ra.length = 256
  lp : M.pl.length = 6
namespace MemAt
variable {K : PySem.W.Frag} {H H' : Hp} {A : MA} {M : MD} {S : List Addr}
theorem lne {xs ys : List Int} (h : xs.length ≠ ys.length) : (HO.lst (xs.map V.int)) ≠ HO.lst (ys.map V.int) := fun e => by
  injection e with e
  have e2 := congrArg List.length e
  rw [List.length_map, List.length_map] at e2
  exact h e2
theorem nfr (B : MemAt K H A M) : A.f ≠ A.r := ne_of B.fl B.ra (lne (by rw [B.lf, B.lr]; decide))
theorem nfp (B : MemAt K H A M) : A.f ≠ A.pl := ne_of B.fl B.pl (lne (by rw [B.lf, B.lp]; decide))
theorem nrp (B : MemAt K H A M) : A.r ≠ A.pl := ne_of B.ra B.pl (lne (by rw [B.lr, B.lp]; decide))
theorem npf (B : MemAt K H A M) : A.p ≠ A.f := ne_of B.ob B.fl (by intro z; cases z)
theorem npr (B : MemAt K H A M) : A.p ≠ A.r := ne_of B.ob B.ra (by intro z; cases z)
theorem npp (B : MemAt K H A M) : A.p ≠ A.pl := ne_of B.ob B.pl (by intro z; cases z)
theorem frame (B : MemAt K H A M) (k : ∀ b, b ∈ A.own → ∀ o, H b = some o → H' b = some o) : MemAt K H' A M :=
  ⟨k _ (by simp) _ B.ob, k _ (by simp) _ B.fl, k _ (by simp) _ B.ra, k _ (by simp) _ B.pl, B.lf, B.lr, B.lp⟩
theorem keep (B : MemAt K H A M) {S S' : List Addr} (k : Kp S S' H H') (d : ∀ b, b ∈ A.own → b ∉ S) : MemAt K H' A M := B.frame fun b hb o e => k.kept b o e (d b hb)
/-- a word of ram, of the places, of flash set -/
theorem setPl (B : MemAt K H A M) (i : Nat) (n : Int) : MemAt K (upd H A.pl (.lst ((M.pl.map V.int).set i (.int n)))) A { M with pl := M.pl.set i n } ∧ Kp A.own A.own H (upd H A.pl (.lst ((M.pl.map V.int).set i (.int n)))) :=
  ⟨⟨by rw [upd_ne B.npp]; exact B.ob, by rw [upd_ne B.nfp]; exact B.fl, by rw [upd_ne B.nrp]; exact B.ra, by rw [upd_same]; show _ = some (HO.lst ((M.pl.set i n).map V.int)); rw [List.map_set], B.lf, B.lr, by show (M.pl.set i n).length = 6; rw [List.length_set]; exact B.lp⟩,
    Kp.upd B.pl trivial (by simp)⟩
theorem setRa (B : MemAt K H A M) (i : Nat) (n : Int) : MemAt K (upd H A.r (.lst ((M.ra.map V.int).set i (.int n)))) A { M with ra := M.ra.set i n } ∧ Kp A.own A.own H (upd H A.r (.lst ((M.ra.map V.int).set i (.int n)))) :=
  ⟨⟨by rw [upd_ne B.npr]; exact B.ob, by rw [upd_ne B.nfr]; exact B.fl, by rw [upd_same]; show _ = some (HO.lst ((M.ra.set i n).map V.int)); rw [List.map_set], by rw [upd_ne B.nrp.symm]; exact B.pl, B.lf, by show (M.ra.set i n).length = 256; rw [List.length_set]; exact B.lr, B.lp⟩,
    Kp.upd B.ra trivial (by simp)⟩
end MemAt
/-! the mirror: what the memory's methods do -/
def MD.at (M : MD) (i : Int) : Option Int :=
  if i < 0 ∨ 773 < i then none else if i < 512 then M.fl[i.toNat]? else if i < 768 then M.ra[(i - 512).toNat]? else M.pl[(i - 768).toNat]?
def optV : Option Int → V
  | none => .non
  | some n => .int n
inductive Bar where
  | far | flash | still
  deriving DecidableEq
def Bar.s : Bar → Str
  | .far => "far"
  | .flash => "flash"
  | .still => "still"
def barTo (i : Int) : Option Bar :=
  if i < 0 ∨ 773 < i then some .far else if i < 512 then some .flash else if i = 772 then some .still else none
def barV : Option Bar → V
  | none => .non
  | some b => .str b.s
def MD.place (M : MD) (k : Nat) : Int := M.pl.getD k 0
def MD.put (M : MD) (i w : Int) : MD :=
  if i < 768 then { M with ra := M.ra.set (i - 512).toNat w }
  else if i = 770 then { M with pl := M.pl.set 2 (Builtin.bitAnd (M.place 2) (65535 - w)) }
  else { M with pl := M.pl.set (i - 768).toNat w }
def MD.raise (M : MD) (b : Int) : MD := { M with pl := M.pl.set 2 (Builtin.bitOr (M.place 2) b) }
def MD.setPlace (M : MD) (k : Nat) (w : Int) : MD := { M with pl := M.pl.set k w }
theorem getD_at {xs : List Int} {i : Int} {k : Nat} (hk : i = (k : Int)) (h : k < xs.length) : atI (xs.map V.int) i = some (.int (xs.getD k 0)) := by
  refine at_i (by omega) ?_
  have e : i.toNat = k := by omega
  rw [e, List.getD_eq_getElem?_getD, List.getElem?_eq_getElem h] <;> rfl
theorem ixN_at {xs : List Int} {i : Int} {k : Nat} (hk : i = (k : Int)) (h : k < xs.length) : ixN (xs.map V.int).length i = some k := by
  subst hk
  rw [List.length_map]
  unfold ixN
  rw [if_pos (by omega), if_pos (by omega)]
  rfl
section
variable {P : Program} {w : World} {K : PySem.W.Frag} {mg : Str → Option Value} {base : Heap}
def sp_Memory_place (K : PySem.W.Frag) : Sp := fun vs H Q E_ => ∃ (A : MA) (M : MD) (k : Nat), vs = [.ref A.p, .int (768 + (k : Int))] ∧ (MemAt K H A M ∧ k < 6 ∧ Q (.int (M.place k)) H)
abbrev N_Memory_place : List Str := ["self", "address"]
theorem sc_Memory_place : FnScope N_Memory_place ["self", "address"] (defScope s_Memory_place) := ⟨rfl, rfl, rfl, by decide +kernel, rfl, by decide +kernel, by decide +kernel⟩
theorem ok_Memory_place (T : Txt K mg) : Ok P w K mg base CX0 1 (He.fAd K ("Memory", some "place")) ["self", "address"] (sp_Memory_place K) := by
  obtain ⟨fd, F⟩ := T.d_Memory_place
  refine ⟨fd, F.ok sc_Memory_place (fun vs H Q E h => by obtain ⟨A, M, k, rfl, _⟩ := h; rfl) (fun cdv A_ outer s_ H vs Q E hr h => ?_), F.bindsN (fun _ _ _ _ _ _ us hl => match us, hl with | [_, _], _ => rfl), F.kp⟩
  obtain ⟨A, M, k, rfl, h⟩ := h
  have hu := hu_of hr
  refine ⟨_, PSs.nox (pss_one (ps_ret (pe_ix ix_list (pe_fld (pv 0) rfl) (pe_op op_sub (pv 1) (gi_ (by rfl) T.c_RAM)) (fun _ _ => rfl)))), ?_⟩
  obtain ⟨B, hk, q⟩ := h
  refine ⟨_, rfl, _, _, _, _, _, rfl, B.ob, T.k_Memory, T.n_Memory_places, MemoryF_places, _, rfl, _, _, rfl, rfl, _, _, _, _, rfl, rfl, SqL.of B.pl, getD_at (k := k) (by omega) (by rw [B.lp]; exact hk), q⟩
def sp_Memory_set_place (K : PySem.W.Frag) : Sp := fun vs H Q E_ => ∃ (A : MA) (M : MD) (k : Nat) (n : Int), vs = [.ref A.p, .int (768 + (k : Int)), .int n] ∧ (MemAt K H A M ∧ k < 6 ∧ ∀ H', MemAt K H' A (M.setPlace k n) → Kp A.own A.own H H' → Q .non H')
abbrev N_Memory_set_place : List Str := ["self", "address", "word"]
theorem sc_Memory_set_place : FnScope N_Memory_set_place ["self", "address", "word"] (defScope s_Memory_set_place) := ⟨rfl, rfl, rfl, by decide +kernel, rfl, by decide +kernel, by decide +kernel⟩
theorem ok_Memory_set_place (T : Txt K mg) : Ok P w K mg base CX0 1 (He.fAd K ("Memory", some "set_place")) ["self", "address", "word"] (sp_Memory_set_place K) := by
  obtain ⟨fd, F⟩ := T.d_Memory_set_place
  refine ⟨fd, F.ok sc_Memory_set_place (fun vs H Q E h => by obtain ⟨A, M, k, n, rfl, _⟩ := h; rfl) (fun cdv A_ outer s_ H vs Q E hr h => ?_), F.bindsN (fun _ _ _ _ _ _ us hl => match us, hl with | [_, _, _], _ => rfl), F.kp⟩
  obtain ⟨A, M, k, n, rfl, h⟩ := h
  have hu := hu_of hr
  refine ⟨_, PSs.nox (pss_one (ps_asg (pv 2) (pg_sub (pe_fld (pv 0) rfl) (pe_op op_sub (pv 1) (gi_ (by rfl) T.c_RAM)) set_list))), ?_⟩
  obtain ⟨B, hk, q⟩ := h
  refine ⟨_, rfl, _, rfl, _, _, _, _, _, rfl, B.ob, T.k_Memory, T.n_Memory_places, MemoryF_places, _, rfl, _, _, rfl, rfl, _, _, _, _, rfl, rfl, B.pl, ixN_at (k := k) (by omega) (by rw [B.lp]; exact hk), ?_⟩
  exact q _ (B.setPl k n).1 (B.setPl k n).2
def sp_Memory_raise_flag (K : PySem.W.Frag) : Sp := fun vs H Q E_ => ∃ (A : MA) (M : MD) (b : Int), vs = [.ref A.p, .int b] ∧ (MemAt K H A M ∧ ∀ H', MemAt K H' A (M.raise b) → Kp A.own A.own H H' → Q .non H')
abbrev N_Memory_raise_flag : List Str := ["self", "bit"]
theorem sc_Memory_raise_flag : FnScope N_Memory_raise_flag ["self", "bit"] (defScope s_Memory_raise_flag) := ⟨rfl, rfl, rfl, by decide +kernel, rfl, by decide +kernel, by decide +kernel⟩
theorem ok_Memory_raise_flag (T : Txt K mg) : Ok P w K mg base CX0 1 (He.fAd K ("Memory", some "raise_flag")) ["self", "bit"] (sp_Memory_raise_flag K) := by
  obtain ⟨fd, F⟩ := T.d_Memory_raise_flag
  refine ⟨fd, F.ok sc_Memory_raise_flag (fun vs H Q E h => by obtain ⟨A, M, b, rfl, _⟩ := h; rfl) (fun cdv A_ outer s_ H vs Q E hr h => ?_), F.bindsN (fun _ _ _ _ _ _ us hl => match us, hl with | [_, _], _ => rfl), F.kp⟩
  obtain ⟨A, M, b, rfl, h⟩ := h
  have hu := hu_of hr
  refine ⟨_, PSs.nox (pss_one (ps_asg (pe_op op_or (pe_ix ix_list (pe_fld (pv 0) rfl) (pe_op op_sub (gi_ (by rfl) T.c_FLAGS) (gi_ (by rfl) T.c_RAM)) (fun _ _ => rfl)) (pv 1)) (pg_sub (pe_fld (pv 0) rfl) (pe_op op_sub (gi_ (by rfl) T.c_FLAGS) (gi_ (by rfl) T.c_RAM)) set_list))), ?_⟩
  obtain ⟨B, q⟩ := h
  refine ⟨_, rfl, _, _, _, _, _, rfl, B.ob, T.k_Memory, T.n_Memory_places, MemoryF_places, _, _, rfl, rfl, _, _, _, _, rfl, rfl, SqL.of B.pl, getD_at (k := 2) (by decide) (by rw [B.lp]; decide), _, rfl, _, _, rfl, rfl, _, rfl, _, _, _, _, _, rfl, B.ob, T.k_Memory, T.n_Memory_places, MemoryF_places, _, _, rfl, rfl, _, _, _, _, rfl, rfl, B.pl, ixN_at (k := 2) (by decide) (by rw [B.lp]; decide), ?_⟩
  exact q _ (B.setPl 2 _).1 (B.setPl 2 _).2
end


/-! ### a board -/
theorem ndne {l : List Addr} (h : l.Nodup) {a b : Addr} (i j : Nat) (ha : l[i]? = some a := by rfl) (hb : l[j]? = some b := by rfl) (hij : i ≠ j := by decide) : a ≠ b := fun e =>
  hij (nd_ix h ha (by rw [e]; exact hb))
structure BA where
  p : Addr
  dx : Addr
  ln : Addr
  rg : Addr
  sn : Addr
  tc : Addr
  m : MA
  st : V
  sv : List V
  tv : List V
structure BD where
  m : MD
  ln : List (Int × Int)
  a : Int
  b : Int
  pc : Int
  sp : Int
  zero : Bool
  lets : Bool
  asleep : Bool
  beat : Int
  stop : Option (List V)
  sent : List (Int × Int)
  tc : List (Str × Int)
  bend : Int
def RegD (a b pc sp : Int) : List (Key × V) := [((Sum.inr ("a" : Str) : Key), .int a), ((Sum.inr ("b" : Str) : Key), .int b), ((Sum.inr ("pc" : Str) : Key), .int pc), ((Sum.inr ("sp" : Str) : Key), .int sp)]
theorem RegD_a {a b pc sp : Int} : valV (RegD a b pc sp) (Sum.inr ("a" : Str) : Key) = some (.int a) := by kernel_rfl
theorem RegD_put_a {a b pc sp : Int} {x_ : V} : putK (RegD a b pc sp) (Sum.inr ("a" : Str) : Key) x_ = [((Sum.inr ("a" : Str) : Key), x_), ((Sum.inr ("b" : Str) : Key), .int b), ((Sum.inr ("pc" : Str) : Key), .int pc), ((Sum.inr ("sp" : Str) : Key), .int sp)] := by kernel_rfl
theorem RegD_b {a b pc sp : Int} : valV (RegD a b pc sp) (Sum.inr ("b" : Str) : Key) = some (.int b) := by kernel_rfl
theorem RegD_put_b {a b pc sp : Int} {x_ : V} : putK (RegD a b pc sp) (Sum.inr ("b" : Str) : Key) x_ = [((Sum.inr ("a" : Str) : Key), .int a), ((Sum.inr ("b" : Str) : Key), x_), ((Sum.inr ("pc" : Str) : Key), .int pc), ((Sum.inr ("sp" : Str) : Key), .int sp)] := by kernel_rfl
theorem RegD_pc {a b pc sp : Int} : valV (RegD a b pc sp) (Sum.inr ("pc" : Str) : Key) = some (.int pc) := by kernel_rfl
theorem RegD_put_pc {a b pc sp : Int} {x_ : V} : putK (RegD a b pc sp) (Sum.inr ("pc" : Str) : Key) x_ = [((Sum.inr ("a" : Str) : Key), .int a), ((Sum.inr ("b" : Str) : Key), .int b), ((Sum.inr ("pc" : Str) : Key), x_), ((Sum.inr ("sp" : Str) : Key), .int sp)] := by kernel_rfl
theorem RegD_sp {a b pc sp : Int} : valV (RegD a b pc sp) (Sum.inr ("sp" : Str) : Key) = some (.int sp) := by kernel_rfl
theorem RegD_put_sp {a b pc sp : Int} {x_ : V} : putK (RegD a b pc sp) (Sum.inr ("sp" : Str) : Key) x_ = [((Sum.inr ("a" : Str) : Key), .int a), ((Sum.inr ("b" : Str) : Key), .int b), ((Sum.inr ("pc" : Str) : Key), .int pc), ((Sum.inr ("sp" : Str) : Key), x_)] := by kernel_rfl
theorem RegD_len {a b pc sp : Int} : (RegD a b pc sp).length < 1000 := by show 4 < 1000; decide
def BoardF (A : BA) (D : BD) : List (Str × V) := [(("memory" : Str), .ref A.m.p), (("line" : Str), .ref A.ln), (("registers" : Str), .ref A.rg), (("zero" : Str), .bl D.zero), (("lets" : Str), .bl D.lets), (("asleep" : Str), .bl D.asleep), (("beat" : Str), .int D.beat), (("stopped" : Str), A.st), (("sent" : Str), .ref A.sn), (("touched" : Str), .ref A.tc), (("bend" : Str), .int D.bend)]
theorem BoardF_memory {A : BA} {D : BD} : (BoardF A D).lookup ("memory" : Str) = some (.ref A.m.p) := by kernel_rfl
theorem BoardF_put_memory {A : BA} {D : BD} {x_ : V} : putF ("memory" : Str) x_ (BoardF A D) = [(("memory" : Str), x_), (("line" : Str), .ref A.ln), (("registers" : Str), .ref A.rg), (("zero" : Str), .bl D.zero), (("lets" : Str), .bl D.lets), (("asleep" : Str), .bl D.asleep), (("beat" : Str), .int D.beat), (("stopped" : Str), A.st), (("sent" : Str), .ref A.sn), (("touched" : Str), .ref A.tc), (("bend" : Str), .int D.bend)] := by kernel_rfl
theorem BoardF_line {A : BA} {D : BD} : (BoardF A D).lookup ("line" : Str) = some (.ref A.ln) := by kernel_rfl
theorem BoardF_put_line {A : BA} {D : BD} {x_ : V} : putF ("line" : Str) x_ (BoardF A D) = [(("memory" : Str), .ref A.m.p), (("line" : Str), x_), (("registers" : Str), .ref A.rg), (("zero" : Str), .bl D.zero), (("lets" : Str), .bl D.lets), (("asleep" : Str), .bl D.asleep), (("beat" : Str), .int D.beat), (("stopped" : Str), A.st), (("sent" : Str), .ref A.sn), (("touched" : Str), .ref A.tc), (("bend" : Str), .int D.bend)] := by kernel_rfl
theorem BoardF_registers {A : BA} {D : BD} : (BoardF A D).lookup ("registers" : Str) = some (.ref A.rg) := by kernel_rfl
theorem BoardF_put_registers {A : BA} {D : BD} {x_ : V} : putF ("registers" : Str) x_ (BoardF A D) = [(("memory" : Str), .ref A.m.p), (("line" : Str), .ref A.ln), (("registers" : Str), x_), (("zero" : Str), .bl D.zero), (("lets" : Str), .bl D.lets), (("asleep" : Str), .bl D.asleep), (("beat" : Str), .int D.beat), (("stopped" : Str), A.st), (("sent" : Str), .ref A.sn), (("touched" : Str), .ref A.tc), (("bend" : Str), .int D.bend)] := by kernel_rfl
theorem BoardF_zero {A : BA} {D : BD} : (BoardF A D).lookup ("zero" : Str) = some (.bl D.zero) := by kernel_rfl
theorem BoardF_put_zero {A : BA} {D : BD} {x_ : V} : putF ("zero" : Str) x_ (BoardF A D) = [(("memory" : Str), .ref A.m.p), (("line" : Str), .ref A.ln), (("registers" : Str), .ref A.rg), (("zero" : Str), x_), (("lets" : Str), .bl D.lets), (("asleep" : Str), .bl D.asleep), (("beat" : Str), .int D.beat), (("stopped" : Str), A.st), (("sent" : Str), .ref A.sn), (("touched" : Str), .ref A.tc), (("bend" : Str), .int D.bend)] := by kernel_rfl
theorem BoardF_lets {A : BA} {D : BD} : (BoardF A D).lookup ("lets" : Str) = some (.bl D.lets) := by kernel_rfl
theorem BoardF_put_lets {A : BA} {D : BD} {x_ : V} : putF ("lets" : Str) x_ (BoardF A D) = [(("memory" : Str), .ref A.m.p), (("line" : Str), .ref A.ln), (("registers" : Str), .ref A.rg), (("zero" : Str), .bl D.zero), (("lets" : Str), x_), (("asleep" : Str), .bl D.asleep), (("beat" : Str), .int D.beat), (("stopped" : Str), A.st), (("sent" : Str), .ref A.sn), (("touched" : Str), .ref A.tc), (("bend" : Str), .int D.bend)] := by kernel_rfl
theorem BoardF_asleep {A : BA} {D : BD} : (BoardF A D).lookup ("asleep" : Str) = some (.bl D.asleep) := by kernel_rfl
theorem BoardF_put_asleep {A : BA} {D : BD} {x_ : V} : putF ("asleep" : Str) x_ (BoardF A D) = [(("memory" : Str), .ref A.m.p), (("line" : Str), .ref A.ln), (("registers" : Str), .ref A.rg), (("zero" : Str), .bl D.zero), (("lets" : Str), .bl D.lets), (("asleep" : Str), x_), (("beat" : Str), .int D.beat), (("stopped" : Str), A.st), (("sent" : Str), .ref A.sn), (("touched" : Str), .ref A.tc), (("bend" : Str), .int D.bend)] := by kernel_rfl
theorem BoardF_beat {A : BA} {D : BD} : (BoardF A D).lookup ("beat" : Str) = some (.int D.beat) := by kernel_rfl
theorem BoardF_put_beat {A : BA} {D : BD} {x_ : V} : putF ("beat" : Str) x_ (BoardF A D) = [(("memory" : Str), .ref A.m.p), (("line" : Str), .ref A.ln), (("registers" : Str), .ref A.rg), (("zero" : Str), .bl D.zero), (("lets" : Str), .bl D.lets), (("asleep" : Str), .bl D.asleep), (("beat" : Str), x_), (("stopped" : Str), A.st), (("sent" : Str), .ref A.sn), (("touched" : Str), .ref A.tc), (("bend" : Str), .int D.bend)] := by kernel_rfl
theorem BoardF_stopped {A : BA} {D : BD} : (BoardF A D).lookup ("stopped" : Str) = some (A.st) := by kernel_rfl
theorem BoardF_put_stopped {A : BA} {D : BD} {x_ : V} : putF ("stopped" : Str) x_ (BoardF A D) = [(("memory" : Str), .ref A.m.p), (("line" : Str), .ref A.ln), (("registers" : Str), .ref A.rg), (("zero" : Str), .bl D.zero), (("lets" : Str), .bl D.lets), (("asleep" : Str), .bl D.asleep), (("beat" : Str), .int D.beat), (("stopped" : Str), x_), (("sent" : Str), .ref A.sn), (("touched" : Str), .ref A.tc), (("bend" : Str), .int D.bend)] := by kernel_rfl
theorem BoardF_sent {A : BA} {D : BD} : (BoardF A D).lookup ("sent" : Str) = some (.ref A.sn) := by kernel_rfl
theorem BoardF_put_sent {A : BA} {D : BD} {x_ : V} : putF ("sent" : Str) x_ (BoardF A D) = [(("memory" : Str), .ref A.m.p), (("line" : Str), .ref A.ln), (("registers" : Str), .ref A.rg), (("zero" : Str), .bl D.zero), (("lets" : Str), .bl D.lets), (("asleep" : Str), .bl D.asleep), (("beat" : Str), .int D.beat), (("stopped" : Str), A.st), (("sent" : Str), x_), (("touched" : Str), .ref A.tc), (("bend" : Str), .int D.bend)] := by kernel_rfl
theorem BoardF_touched {A : BA} {D : BD} : (BoardF A D).lookup ("touched" : Str) = some (.ref A.tc) := by kernel_rfl
theorem BoardF_put_touched {A : BA} {D : BD} {x_ : V} : putF ("touched" : Str) x_ (BoardF A D) = [(("memory" : Str), .ref A.m.p), (("line" : Str), .ref A.ln), (("registers" : Str), .ref A.rg), (("zero" : Str), .bl D.zero), (("lets" : Str), .bl D.lets), (("asleep" : Str), .bl D.asleep), (("beat" : Str), .int D.beat), (("stopped" : Str), A.st), (("sent" : Str), .ref A.sn), (("touched" : Str), x_), (("bend" : Str), .int D.bend)] := by kernel_rfl
theorem BoardF_bend {A : BA} {D : BD} : (BoardF A D).lookup ("bend" : Str) = some (.int D.bend) := by kernel_rfl
theorem BoardF_put_bend {A : BA} {D : BD} {x_ : V} : putF ("bend" : Str) x_ (BoardF A D) = [(("memory" : Str), .ref A.m.p), (("line" : Str), .ref A.ln), (("registers" : Str), .ref A.rg), (("zero" : Str), .bl D.zero), (("lets" : Str), .bl D.lets), (("asleep" : Str), .bl D.asleep), (("beat" : Str), .int D.beat), (("stopped" : Str), A.st), (("sent" : Str), .ref A.sn), (("touched" : Str), .ref A.tc), (("bend" : Str), x_)] := by kernel_rfl
theorem BoardF_len {A : BA} {D : BD} : (BoardF A D).length < 1000 := by show 11 < 1000; decide
abbrev BA.own (A : BA) : List Addr := [A.p, A.ln, A.rg, A.sn, A.tc, A.m.p, A.m.f, A.m.r, A.m.pl]
def lineK (l : List (Int × Int)) : List (Key × V) := l.map fun p => (Sum.inl p.1, V.int p.2)
def StopV (H : Hp) (v : V) : Option (List V) → Prop
  | none => v = .non
  | some xs => ∃ t, v = .ref t ∧ H t = some (.tup xs)
def sentT (l : List (Int × Int)) : List (List V) := l.map fun p => [.int p.1, .int p.2]
def tcT (l : List (Str × Int)) : List (List V) := l.map fun p => [.str p.1, .int p.2]
structure BoardAt (K : PySem.W.Frag) (H : Hp) (A : BA) (D : BD) : Prop where
  ob : H A.p = some (.ins (He.ga K "Board") A.dx (BoardF A D))
  ln : H A.ln = some (.dK (lineK D.ln))
  rg : H A.rg = some (.dK (RegD D.a D.b D.pc D.sp))
  sn : H A.sn = some (.lst A.sv)
  tc : H A.tc = some (.lst A.tv)
  st : StopV H A.st D.stop
  sent : Tups H A.sv (sentT D.sent)
  tch : Tups H A.tv (tcT D.tc)
  mem : MemAt K H A.m D.m
  nd : A.own.Nodup
  ls : D.sent.length ≤ 1000000
  lt : D.tc.length ≤ 1000
theorem BA.mown {A : BA} {b : Addr} (h : b ∈ A.m.own) : b ∈ A.own := List.mem_cons_of_mem _ (List.mem_cons_of_mem _ (List.mem_cons_of_mem _ (List.mem_cons_of_mem _ (List.mem_cons_of_mem _ h))))
theorem StopV.mono {H H' : Hp} {v : V} (k : ∀ b xs, H b = some (.tup xs) → H' b = some (.tup xs)) : ∀ {o : Option (List V)}, StopV H v o → StopV H' v o
  | none, h => h
  | some _, ⟨t, e, h⟩ => ⟨t, e, k _ _ h⟩
namespace BoardAt
variable {K : PySem.W.Frag} {H H' : Hp} {A : BA} {D : BD}
theorem frame (B : BoardAt K H A D) (k : ∀ b, b ∈ A.own → ∀ o, H b = some o → H' b = some o) (t : ∀ b xs, H b = some (.tup xs) → H' b = some (.tup xs)) : BoardAt K H' A D :=
  ⟨k _ (by simp) _ B.ob, k _ (by simp) _ B.ln, k _ (by simp) _ B.rg, k _ (by simp) _ B.sn, k _ (by simp) _ B.tc, B.st.mono t, B.sent.mono t, B.tch.mono t,
    B.mem.frame fun b hb => k b (BA.mown hb), B.nd, B.ls, B.lt⟩
theorem keep (B : BoardAt K H A D) {S S' : List Addr} (k : Kp S S' H H') (d : ∀ b, b ∈ A.own → b ∉ S) : BoardAt K H' A D := B.frame (fun b hb o e => k.kept b o e (d b hb)) k.tups
theorem live (B : BoardAt K H A D) {b : Addr} (h : b ∈ A.own) : ∃ o, H b = some o ∧ notTup o := by
  simp only [BA.own, List.mem_cons, List.not_mem_nil, or_false] at h
  rcases h with rfl | rfl | rfl | rfl | rfl | rfl | rfl | rfl | rfl
  · exact ⟨_, B.ob, trivial⟩
  · exact ⟨_, B.ln, trivial⟩
  · exact ⟨_, B.rg, trivial⟩
  · exact ⟨_, B.sn, trivial⟩
  · exact ⟨_, B.tc, trivial⟩
  · exact ⟨_, B.mem.ob, trivial⟩
  · exact ⟨_, B.mem.fl, trivial⟩
  · exact ⟨_, B.mem.ra, trivial⟩
  · exact ⟨_, B.mem.pl, trivial⟩
theorem fresh (B : BoardAt K H A D) {b : Addr} (h : H b = none) : b ∉ A.own := fun m => by
  obtain ⟨o, e, _⟩ := B.live m
  rw [h] at e; cases e
theorem new (B : BoardAt K H A D) {b : Addr} {o : HO} (h : H b = none) : BoardAt K (upd H b o) A D := B.keep (S := []) (Kp.new h) fun _ _ z => by cases z
theorem get_a (B : BoardAt K H A D) : DGet H A.rg (.str "a") (some (.int D.a)) := by have g := DGet.k (k := Sum.inr "a") B.rg; rw [RegD_a] at g; exact g
theorem get_b (B : BoardAt K H A D) : DGet H A.rg (.str "b") (some (.int D.b)) := by have g := DGet.k (k := Sum.inr "b") B.rg; rw [RegD_b] at g; exact g
theorem get_pc (B : BoardAt K H A D) : DGet H A.rg (.str "pc") (some (.int D.pc)) := by have g := DGet.k (k := Sum.inr "pc") B.rg; rw [RegD_pc] at g; exact g
theorem get_sp (B : BoardAt K H A D) : DGet H A.rg (.str "sp") (some (.int D.sp)) := by have g := DGet.k (k := Sum.inr "sp") B.rg; rw [RegD_sp] at g; exact g
theorem put_a (B : BoardAt K H A D) (n : Int) : DPut H A.rg (.str "a") (.int n) (upd H A.rg (.dK (RegD n D.b D.pc D.sp))) := by have g := DPut.k (k := Sum.inr "a") (v := .int n) B.rg (small_ (by show 4 ≤ 16777215; decide)); rw [RegD_put_a] at g; exact g
theorem put_b (B : BoardAt K H A D) (n : Int) : DPut H A.rg (.str "b") (.int n) (upd H A.rg (.dK (RegD D.a n D.pc D.sp))) := by have g := DPut.k (k := Sum.inr "b") (v := .int n) B.rg (small_ (by show 4 ≤ 16777215; decide)); rw [RegD_put_b] at g; exact g
theorem put_pc (B : BoardAt K H A D) (n : Int) : DPut H A.rg (.str "pc") (.int n) (upd H A.rg (.dK (RegD D.a D.b n D.sp))) := by have g := DPut.k (k := Sum.inr "pc") (v := .int n) B.rg (small_ (by show 4 ≤ 16777215; decide)); rw [RegD_put_pc] at g; exact g
theorem put_sp (B : BoardAt K H A D) (n : Int) : DPut H A.rg (.str "sp") (.int n) (upd H A.rg (.dK (RegD D.a D.b D.pc n))) := by have g := DPut.k (k := Sum.inr "sp") (v := .int n) B.rg (small_ (by show 4 ≤ 16777215; decide)); rw [RegD_put_sp] at g; exact g
/-- another registers' dict -/
theorem setRg (B : BoardAt K H A D) (a b pc sp : Int) : BoardAt K (upd H A.rg (.dK (RegD a b pc sp))) A { D with a := a, b := b, pc := pc, sp := sp } ∧ Kp A.own A.own H (upd H A.rg (.dK (RegD a b pc sp))) := by
  have k : Kp A.own A.own H (upd H A.rg (.dK (RegD a b pc sp))) := Kp.upd B.rg trivial (by simp)
  have n (i : Nat) {c : Addr} (hc : A.own[i]? = some c) (hi : i ≠ 2) : c ≠ A.rg := ndne B.nd i 2 hc rfl hi
  exact ⟨⟨by rw [upd_ne (n 0 rfl (by decide))]; exact B.ob, by rw [upd_ne (n 1 rfl (by decide))]; exact B.ln, upd_same, by rw [upd_ne (n 3 rfl (by decide))]; exact B.sn, by rw [upd_ne (n 4 rfl (by decide))]; exact B.tc,
    B.st.mono k.tups, B.sent.mono k.tups, B.tch.mono k.tups,
    ⟨by rw [upd_ne (n 5 rfl (by decide))]; exact B.mem.ob, by rw [upd_ne (n 6 rfl (by decide))]; exact B.mem.fl, by rw [upd_ne (n 7 rfl (by decide))]; exact B.mem.ra, by rw [upd_ne (n 8 rfl (by decide))]; exact B.mem.pl, B.mem.lf, B.mem.lr, B.mem.lp⟩, B.nd, B.ls, B.lt⟩, k⟩
/-- the object's own fields -/
theorem setOb (B : BoardAt K H A D) {A' : BA} {D' : BD} (ep : A'.p = A.p) (edx : A'.dx = A.dx) (eln : A'.ln = A.ln) (erg : A'.rg = A.rg) (esn : A'.sn = A.sn) (em : A'.m = A.m) (esv : A'.sv = A.sv)
    (dm : D'.m = D.m) (dl : D'.ln = D.ln) (dr : RegD D'.a D'.b D'.pc D'.sp = RegD D.a D.b D.pc D.sp) (ds : D'.sent = D.sent) (hst : StopV H A'.st D'.stop)
    (htc : (A'.tc = A.tc ∧ A'.tv = A.tv ∧ D'.tc = D.tc) ∨ (H A'.tc = some (.lst A'.tv) ∧ Tups H A'.tv (tcT D'.tc) ∧ A'.tc ∉ A.own ∧ D'.tc.length ≤ 1000)) :
    BoardAt K (upd H A.p (.ins (He.ga K "Board") A.dx (BoardF A' D'))) A' D' ∧ Kp A.own (A'.tc :: A.own) H (upd H A.p (.ins (He.ga K "Board") A.dx (BoardF A' D'))) ∨ A'.tc ∉ A.own := by
  rcases htc with ⟨e1, e2, e3⟩ | ⟨h1, h2, h3, h4⟩
  · left
    have k : Kp A.own A.own H (upd H A.p (.ins (He.ga K "Board") A.dx (BoardF A' D'))) := Kp.upd B.ob trivial (by simp)
    have n (i : Nat) {c : Addr} (hc : A.own[i]? = some c) (hi : i ≠ 0) : c ≠ A.p := ndne B.nd i 0 hc rfl hi
    refine ⟨⟨by rw [ep, edx]; exact upd_same, by rw [eln, dl, upd_ne (n 1 rfl (by decide))]; exact B.ln, by rw [erg, dr, upd_ne (n 2 rfl (by decide))]; exact B.rg, by rw [esn, esv, upd_ne (n 3 rfl (by decide))]; exact B.sn, by rw [e1, e2, upd_ne (n 4 rfl (by decide))]; exact B.tc,
      hst.mono k.tups, by rw [esv, ds]; exact B.sent.mono k.tups, by rw [e2, e3]; exact B.tch.mono k.tups,
      by rw [em, dm]; exact ⟨by rw [upd_ne (n 5 rfl (by decide))]; exact B.mem.ob, by rw [upd_ne (n 6 rfl (by decide))]; exact B.mem.fl, by rw [upd_ne (n 7 rfl (by decide))]; exact B.mem.ra, by rw [upd_ne (n 8 rfl (by decide))]; exact B.mem.pl, B.mem.lf, B.mem.lr, B.mem.lp⟩,
      by show [A'.p, A'.ln, A'.rg, A'.sn, A'.tc, A'.m.p, A'.m.f, A'.m.r, A'.m.pl].Nodup; rw [ep, eln, erg, esn, e1, em]; exact B.nd, by rw [ds]; exact B.ls, by rw [e3]; exact B.lt⟩,
      k.sub fun b hb => by
        rcases List.mem_cons.mp hb with h | h
        · rw [h, e1]; simp
        · exact h⟩
  · exact .inr h3
theorem setZ (B : BoardAt K H A D) (z l s : Bool) (t n : Int) : BoardAt K (upd H A.p (.ins (He.ga K "Board") A.dx (BoardF A { D with zero := z, lets := l, asleep := s, beat := t, bend := n }))) A { D with zero := z, lets := l, asleep := s, beat := t, bend := n } ∧
    Kp A.own A.own H (upd H A.p (.ins (He.ga K "Board") A.dx (BoardF A { D with zero := z, lets := l, asleep := s, beat := t, bend := n }))) := by
  rcases B.setOb (A' := A) (D' := { D with zero := z, lets := l, asleep := s, beat := t, bend := n }) rfl rfl rfl rfl rfl rfl rfl rfl rfl rfl rfl B.st (.inl ⟨rfl, rfl, rfl⟩) with h | h
  · exact ⟨h.1, h.2.sub fun b hb => List.mem_cons_of_mem _ hb⟩
  · exact absurd (by simp) h
theorem setStop (B : BoardAt K H A D) {v : V} {o : Option (List V)} (hv : StopV H v o) : BoardAt K (upd H A.p (.ins (He.ga K "Board") A.dx (BoardF { A with st := v } { D with stop := o }))) { A with st := v } { D with stop := o } ∧
    Kp A.own A.own H (upd H A.p (.ins (He.ga K "Board") A.dx (BoardF { A with st := v } { D with stop := o }))) := by
  rcases B.setOb (A' := { A with st := v }) (D' := { D with stop := o }) rfl rfl rfl rfl rfl rfl rfl rfl rfl rfl rfl hv (.inl ⟨rfl, rfl, rfl⟩) with h | h
  · exact ⟨h.1, h.2.sub fun b hb => List.mem_cons_of_mem _ hb⟩
  · exact absurd (by simp) h
/-- touched is a new list -/
theorem setTc (B : BoardAt K H A D) {t : Addr} (ht : H t = none) : BoardAt K (upd (upd H t (.lst [])) A.p (.ins (He.ga K "Board") A.dx (BoardF { A with tc := t, tv := [] } { D with tc := [] }))) { A with tc := t, tv := [] } { D with tc := [] } ∧
    Kp A.own ({ A with tc := t, tv := [] } : BA).own H (upd (upd H t (.lst [])) A.p (.ins (He.ga K "Board") A.dx (BoardF { A with tc := t, tv := [] } { D with tc := [] }))) := by
  have f := B.fresh ht
  have k0 : Kp A.own (t :: A.own) H (upd H t (.lst [])) := Kp.newIn ht
  have B1 : BoardAt K (upd H t (.lst [])) A D := B.new ht
  have k1 : Kp (t :: A.own) (t :: A.own) (upd H t (.lst [])) (upd (upd H t (.lst [])) A.p (.ins (He.ga K "Board") A.dx (BoardF { A with tc := t, tv := [] } { D with tc := [] }))) := Kp.upd B1.ob trivial (by simp)
  have n (i : Nat) {c : Addr} (hc : A.own[i]? = some c) (hi : i ≠ 0) : c ≠ A.p := ndne B.nd i 0 hc rfl hi
  have ntp : t ≠ A.p := fun e => f (by rw [e]; simp)
  refine ⟨⟨upd_same, by rw [upd_ne (n 1 rfl (by decide))]; exact B1.ln, by rw [upd_ne (n 2 rfl (by decide))]; exact B1.rg, by rw [upd_ne (n 3 rfl (by decide))]; exact B1.sn, by rw [upd_ne ntp]; exact upd_same,
      B1.st.mono k1.tups, B1.sent.mono k1.tups, .nil,
      ⟨by rw [upd_ne (n 5 rfl (by decide))]; exact B1.mem.ob, by rw [upd_ne (n 6 rfl (by decide))]; exact B1.mem.fl, by rw [upd_ne (n 7 rfl (by decide))]; exact B1.mem.ra, by rw [upd_ne (n 8 rfl (by decide))]; exact B1.mem.pl, B.mem.lf, B.mem.lr, B.mem.lp⟩,
      ?_, B.ls, Nat.zero_le _⟩, (k0.trans k1).sub ?_⟩
  · have h := B.nd
    simp only [BA.own, List.nodup_cons, List.mem_cons, List.not_mem_nil, or_false, not_or] at h f ⊢
    refine ⟨?_, ?_, ?_, ?_, ?_, ?_⟩ <;> first | (refine ⟨?_, ?_⟩) | skip
    all_goals (try simp_all)
    all_goals (try exact fun e => by simp_all)
  · intro b hb
    simp only [BA.own, List.mem_cons, List.not_mem_nil, or_false] at hb ⊢
    rcases hb with h | h | h | h | h | h | h | h | h <;> simp [h]
theorem setMem (B : BoardAt K H A D) {M : MD} (hm : MemAt K H' A.m M) (k : Kp A.m.own A.m.own H H') : BoardAt K H' A { D with m := M } ∧ Kp A.own A.own H H' := by
  have n (i j : Nat) {c d : Addr} (hc : A.own[i]? = some c) (hd : A.own[j]? = some d) (hi : i ≠ j) : c ≠ d := ndne B.nd i j hc hd hi
  have q (i : Nat) {c : Addr} (hc : A.own[i]? = some c) (hi : i < 5) : c ∉ A.m.own := fun h => by
    simp only [MA.own, List.mem_cons, List.not_mem_nil, or_false] at h
    rcases h with h | h | h | h
    · exact n i 5 hc rfl (by omega) h
    · exact n i 6 hc rfl (by omega) h
    · exact n i 7 hc rfl (by omega) h
    · exact n i 8 hc rfl (by omega) h
  refine ⟨⟨k.kept _ _ B.ob (q 0 rfl (by decide)), k.kept _ _ B.ln (q 1 rfl (by decide)), k.kept _ _ B.rg (q 2 rfl (by decide)), k.kept _ _ B.sn (q 3 rfl (by decide)), k.kept _ _ B.tc (q 4 rfl (by decide)),
    B.st.mono k.tups, B.sent.mono k.tups, B.tch.mono k.tups, hm, B.nd, B.ls, B.lt⟩, ?_⟩
  refine ⟨fun b o e hb => k.kept b o e fun h => hb (BA.mown h), fun b hb => .inl hb, k.tups⟩
end BoardAt

/-! ### the mirror of a board -/
def opNames : List Str := ["mark", "lit", "get", "put", "add", "sub", "and", "xor", "getb", "putb", "tob", "swap", "go", "ifz", "ifn", "call", "ret", "push", "pop", "sleep", "let", "back", "half"]
def nameS (k : Nat) : Str := opNames.getD k "none"
def nameV (k : Nat) : V := if k < 23 then .str (nameS k) else .non
def lineGet (l : List (Int × Int)) (b d : Int) : Int := ((l.find? fun p => decide (p.1 = b)).map (·.2)).getD d
def MD.comes (M : MD) (v : Int) : MD := (if M.place 4 % 2 < v % 2 then M.raise 2 else M).setPlace 4 v
def BD.lineComes (D : BD) : BD := { D with m := D.m.comes (lineGet D.ln D.beat (D.m.place 4)) }
def BD.timerGoes (D : BD) : BD :=
  if 0 < D.m.place 1 then
    if D.m.place 1 ≤ D.m.place 0 + 1 then { D with m := (D.m.raise 1).setPlace 0 0 } else { D with m := D.m.setPlace 0 (D.m.place 0 + 1) }
  else D
def BD.tick (D : BD) : BD := (BD.lineComes { D with beat := D.beat + 1 }).timerGoes
def BD.pass (D : BD) : Nat → BD
  | 0 => D
  | n + 1 => (D.pass n).tick
def BD.pending (D : BD) : Int := Builtin.bitAnd (D.m.place 2) (D.m.place 3)
def BD.halt (D : BD) (c : List V) : BD := { D with stop := some c }
def BD.store (D : BD) (i w : Int) : BD :=
  { D with tc := D.tc ++ [(("w" : Str), i)], m := D.m.put i w, sent := if i = 773 then D.sent ++ [(D.beat, w)] else D.sent }
def BD.fetchV (D : BD) (i : Int) : Int := Builtin.bitXor ((D.m.at i).getD 0) D.bend
def BD.fetch (D : BD) (i : Int) : BD := { D with tc := D.tc ++ [(("r" : Str), i)], bend := 0 }
def BD.fetches : BD → List Int → List Int × BD
  | D, [] => ([], D)
  | D, i :: r => (D.fetchV i :: ((D.fetch i).fetches r).1, ((D.fetch i).fetches r).2)
def addrs (k : Nat) (part b sp : Int) : List Int × List Int :=
  if k = 2 ∨ k = 4 ∨ k = 5 ∨ k = 6 ∨ k = 7 then ([part], [])
  else if k = 3 then ([], [part])
  else if k = 8 then ([part + b], [])
  else if k = 9 then ([], [part + b])
  else if k = 15 ∨ k = 17 then ([], [sp])
  else if k = 16 ∨ k = 18 then ([sp + 1], [])
  else if k = 21 then ([sp + 1, sp + 2], [])
  else ([], [])
def barR (M : MD) (pc : Int) : List Int → Option (List V)
  | [] => none
  | i :: r => if (M.at i).isNone = true then some [.str "far", .int pc, .int i] else barR M pc r
def barP (pc : Int) : List Int → Option (List V)
  | [] => none
  | i :: r => match barTo i with
    | some b => some [.str b.s, .int pc, .int i]
    | none => barP pc r
def barOf (M : MD) (pc : Int) (reads puts : List Int) : Option (List V) := match barR M pc reads with
  | some c => some c
  | none => barP pc puts
def BD.putting (D : BD) (k : Nat) (part i : Int) : BD :=
  let D1 := if k = 15 then { D.store i D.pc with pc := part } else D.store i D.a
  if k = 15 ∨ k = 17 then { D1 with sp := i - 1 } else D1
def BD.returning (D : BD) (k : Nat) (ws : List Int) : BD :=
  let D1 := { D with sp := D.sp + ws.length, pc := ws.getLastD 0 }
  if k = 21 then { D1 with zero := decide (ws.headD 0 % 2 = 1), lets := true } else D1
def reckA (k : Nat) (a b part w : Int) : Int :=
  if k = 1 then part else if k = 2 ∨ k = 8 ∨ k = 18 then w else if k = 4 then (a + w) % 65536 else if k = 5 then (a - w) % 65536
  else if k = 6 then Builtin.bitAnd a w else if k = 7 then Builtin.bitXor a w else if k = 22 then a / 2 else b
def isSwap (k : Nat) : Bool := !(k = 1 ∨ k = 2 ∨ k = 8 ∨ k = 18 ∨ k = 4 ∨ k = 5 ∨ k = 6 ∨ k = 7 ∨ k = 22)
def BD.reckoning (D : BD) (k : Nat) (part : Int) (ws : List Int) : BD :=
  { D with a := reckA k D.a D.b part (ws.headD 0), b := if isSwap k = true then D.a else D.b, sp := if k = 18 then D.sp + 1 else D.sp }
def BD.doing (D : BD) (k : Nat) (part : Int) (ws puts : List Int) : BD := match puts with
  | i :: _ => D.putting k part i
  | [] =>
    if k = 12 ∨ k = 13 ∨ k = 14 then
      if k = 12 ∨ (k = 13 ∧ D.zero = true) ∨ (k = 14 ∧ 32768 ≤ D.a) then { D with pc := part } else D
    else if k = 16 ∨ k = 21 then D.returning k ws
    else if k = 10 then { D with b := D.a }
    else if k = 19 then { D with asleep := true }
    else if k = 20 then { D with lets := decide (part % 2 = 1) }
    else { D.reckoning k part ws with zero := decide ((D.reckoning k part ws).a = 0) }
def BD.deedA (D : BD) (k : Nat) (part : Int) (rp : List Int × List Int) : BD :=
  ((({ D with pc := D.pc + 1 } : BD).fetches rp.1).2.doing k part (({ D with pc := D.pc + 1 } : BD).fetches rp.1).1 rp.2).pass (1 + rp.1.length + rp.2.length)
def BD.deedB (D : BD) (k : Nat) (part : Int) (rp : List Int × List Int) : Str × BD := match barOf D.m D.pc rp.1 rp.2 with
  | some c => ("stopped", D.halt c)
  | none => ("deed", D.deedA k part rp)
def BD.deedW (D : BD) (w : Int) : Str × BD :=
  if ¬ (w / 1024).toNat < 23 then ("stopped", D.halt [.str "none", .int D.pc])
  else if (w / 1024).toNat = 0 then ("stopped", D.halt [.str "mark", .int D.pc])
  else D.deedB (w / 1024).toNat (w % 1024) (addrs (w / 1024).toNat (w % 1024) D.b D.sp)
def BD.deed (D : BD) : Str × BD :=
  if D.pc < 0 ∨ 768 ≤ D.pc then ("stopped", D.halt [.str "far", .int D.pc, .int D.pc]) else D.deedW ((D.m.at D.pc).getD 0)
def BD.inter (D : BD) : BD :=
  ({ (D.store D.sp D.pc).store (D.sp - 1) (if D.zero = true then 1 else 0) with sp := D.sp - 2, lets := false, pc := if D.pending % 2 = 0 then 2 else 1 } : BD).pass 3
def BD.interrupt (D : BD) : Str × BD := match barTo D.sp with
  | some b => ("stopped", D.halt [.str b.s, .int D.pc, .int D.sp])
  | none => match barTo (D.sp - 1) with
    | some b => ("stopped", D.halt [.str b.s, .int D.pc, .int (D.sp - 1)])
    | none => ("interrupt", D.inter)
def BD.wake (D : BD) : Str × BD := if D.lets = true ∧ 0 < D.pending then D.interrupt else D.deed
def BD.turnB (D : BD) : Str × BD :=
  if D.stop.isSome = true then ("stopped", D)
  else if D.asleep = true ∧ D.pending = 0 then ("asleep", D.pass 1)
  else BD.wake { D with asleep := false }
def BD.turn (D : BD) : Str × BD := BD.turnB { D with tc := [] }
/-! ### facts for the walk -/
theorem nm_inj {j k : Nat} (hj : j < 23) (hk : k < 23) (h : nameS k = nameS j) : k = j := by
  have z : ∀ a b : _root_.Fin 23, nameS a.1 = nameS b.1 → a.1 = b.1 := by decide +kernel
  exact z ⟨k, hk⟩ ⟨j, hj⟩ h
theorem iteNm {A B : Prop} {k : Nat} (hk : k < 23) (j : Nat) {z : Str} (hj : j < 23 := by decide) (hz : z = nameS j := by decide +kernel) (h1 : k = j → A) (h2 : k ≠ j → B) : if decide (V.str (nameS k) = V.str z) = true then A else B := by
  refine iteD (fun h => h1 ?_) (fun h => h2 fun e => h (by rw [hz, e]))
  exact nm_inj hj hk ((V.str.inj h).trans hz)
theorem name_at {k : Nat} (hk : k < 23) : atI (opNames.map V.str) (k : Int) = some (.str (nameS k)) := by
  refine atI_nat ?_
  rw [List.getElem?_map]
  unfold nameS
  have : k < opNames.length := hk
  rw [List.getD_eq_getElem?_getD, List.getElem?_eq_getElem this] <;> rfl
def inKs (ks : List Nat) (k : Nat) : Bool := ks.contains k
theorem iteIn {A B : Prop} {k : Nat} (hk : k < 23) (xs : List V) (ks : List Nat) (e : ∀ j : _root_.Fin 23, inV (V.str (nameS j.1)) xs = inKs ks j.1) (h1 : k ∈ ks → A) (h2 : k ∉ ks → B) :
    if (if false = true then !inV (V.str (nameS k)) xs else inV (V.str (nameS k)) xs) = true then A else B := by
  rw [if_neg Bool.false_ne_true, e ⟨k, hk⟩]
  unfold inKs
  by_cases h : k ∈ ks
  · rw [if_pos (List.contains_iff_mem.mpr h)]; exact h1 h
  · rw [if_neg (fun z => h (List.contains_iff_mem.mp z))]; exact h2 h
theorem line_get : ∀ (l : List (Int × Int)) (b d : Int), (valV (lineK l) (Sum.inl b : Key)).getD (.int d) = .int (lineGet l b d)
  | [], _, _ => rfl
  | (x, y) :: r, b, d => by
    by_cases e : x = b
    · have h1 : valV (lineK ((x, y) :: r)) (Sum.inl b : Key) = some (.int y) := valV_pos (p := ((Sum.inl x : Key), V.int y)) (by rw [e])
      rw [h1]
      show V.int y = _
      unfold lineGet
      rw [List.find?_cons_of_pos (by simp [e])]; rfl
    · have h1 : valV (lineK ((x, y) :: r)) (Sum.inl b : Key) = valV (lineK r) (Sum.inl b : Key) := valV_neg (p := ((Sum.inl x : Key), V.int y)) (fun z => e (Sum.inl.inj z))
      rw [h1, line_get r b d]
      unfold lineGet
      rw [List.find?_cons_of_neg (by simp [e])]
namespace BoardAt
variable {K : PySem.W.Frag} {H H' : Hp} {A : BA} {D : BD} {Φ : Hp → Prop}
theorem goBeat (B : BoardAt K H A D) {t : Int} (k : ∀ H1, BoardAt K H1 A { D with beat := t } → Kp A.own A.own H H1 → Φ H1) : Φ (upd H A.p (.ins (He.ga K "Board") A.dx (putF "beat" (.int t) (BoardF A D)))) := by
  rw [BoardF_put_beat]; exact k _ (B.setZ D.zero D.lets D.asleep t D.bend).1 (B.setZ D.zero D.lets D.asleep t D.bend).2
theorem goZero (B : BoardAt K H A D) {z : Bool} (k : ∀ H1, BoardAt K H1 A { D with zero := z } → Kp A.own A.own H H1 → Φ H1) : Φ (upd H A.p (.ins (He.ga K "Board") A.dx (putF "zero" (.bl z) (BoardF A D)))) := by
  rw [BoardF_put_zero]; exact k _ (B.setZ z D.lets D.asleep D.beat D.bend).1 (B.setZ z D.lets D.asleep D.beat D.bend).2
theorem goLets (B : BoardAt K H A D) {z : Bool} (k : ∀ H1, BoardAt K H1 A { D with lets := z } → Kp A.own A.own H H1 → Φ H1) : Φ (upd H A.p (.ins (He.ga K "Board") A.dx (putF "lets" (.bl z) (BoardF A D)))) := by
  rw [BoardF_put_lets]; exact k _ (B.setZ D.zero z D.asleep D.beat D.bend).1 (B.setZ D.zero z D.asleep D.beat D.bend).2
theorem goAsleep (B : BoardAt K H A D) {z : Bool} (k : ∀ H1, BoardAt K H1 A { D with asleep := z } → Kp A.own A.own H H1 → Φ H1) : Φ (upd H A.p (.ins (He.ga K "Board") A.dx (putF "asleep" (.bl z) (BoardF A D)))) := by
  rw [BoardF_put_asleep]; exact k _ (B.setZ D.zero D.lets z D.beat D.bend).1 (B.setZ D.zero D.lets z D.beat D.bend).2
theorem goBend (B : BoardAt K H A D) {n : Int} (k : ∀ H1, BoardAt K H1 A { D with bend := n } → Kp A.own A.own H H1 → Φ H1) : Φ (upd H A.p (.ins (He.ga K "Board") A.dx (putF "bend" (.int n) (BoardF A D)))) := by
  rw [BoardF_put_bend]; exact k _ (B.setZ D.zero D.lets D.asleep D.beat n).1 (B.setZ D.zero D.lets D.asleep D.beat n).2
theorem goStop (B : BoardAt K H A D) {v : V} {o : Option (List V)} (hv : StopV H v o) (k : ∀ H1, BoardAt K H1 { A with st := v } { D with stop := o } → Kp A.own A.own H H1 → Φ H1) : Φ (upd H A.p (.ins (He.ga K "Board") A.dx (putF "stopped" v (BoardF A D)))) := by
  rw [BoardF_put_stopped]; exact k _ (B.setStop hv).1 (B.setStop hv).2
theorem goTc (B : BoardAt K H A D) {t : Addr} (ht : H t = none) (k : ∀ H1, BoardAt K H1 { A with tc := t, tv := [] } { D with tc := [] } → Kp A.own ({ A with tc := t, tv := [] } : BA).own H H1 → Φ H1) :
    Φ (upd (upd H t (.lst [])) A.p (.ins (He.ga K "Board") A.dx (putF "touched" (.ref t) (BoardF A D)))) := by
  rw [BoardF_put_touched]; exact k _ (B.setTc ht).1 (B.setTc ht).2
theorem goRg (B : BoardAt K H A D) {a b pc sp : Int} (k : ∀ H1, BoardAt K H1 A { D with a := a, b := b, pc := pc, sp := sp } → Kp A.own A.own H H1 → Φ H1) : Φ (upd H A.rg (.dK (RegD a b pc sp))) :=
  k _ (B.setRg a b pc sp).1 (B.setRg a b pc sp).2
/-- a word more in touched -/
theorem goTouch (B : BoardAt K H A D) {t : Addr} {s : Str} {i : Int} (ht : H t = none) (hl : D.tc.length < 1000) (k : ∀ H1, BoardAt K H1 { A with tv := A.tv ++ [.ref t] } { D with tc := D.tc ++ [(s, i)] } → Kp A.own A.own H H1 → Φ H1) :
    Φ (upd (upd H t (.tup [.str s, .int i])) A.tc (.lst (A.tv ++ [.ref t]))) := by
  have B1 : BoardAt K (upd H t (.tup [.str s, .int i])) A D := B.new ht
  have k0 : Kp A.own A.own H (upd H t (.tup [.str s, .int i])) := Kp.new ht
  have k1 : Kp A.own A.own (upd H t (.tup [.str s, .int i])) (upd (upd H t (.tup [.str s, .int i])) A.tc (.lst (A.tv ++ [.ref t]))) := Kp.upd B1.tc trivial (by simp)
  have n (i : Nat) {c : Addr} (hc : A.own[i]? = some c) (hi : i ≠ 4) : c ≠ A.tc := ndne B.nd i 4 hc rfl hi
  refine k _ ⟨by rw [upd_ne (n 0 rfl (by decide))]; exact B1.ob, by rw [upd_ne (n 1 rfl (by decide))]; exact B1.ln, by rw [upd_ne (n 2 rfl (by decide))]; exact B1.rg, by rw [upd_ne (n 3 rfl (by decide))]; exact B1.sn, upd_same,
    B1.st.mono k1.tups, B1.sent.mono k1.tups, ?_,
    ⟨by rw [upd_ne (n 5 rfl (by decide))]; exact B1.mem.ob, by rw [upd_ne (n 6 rfl (by decide))]; exact B1.mem.fl, by rw [upd_ne (n 7 rfl (by decide))]; exact B1.mem.ra, by rw [upd_ne (n 8 rfl (by decide))]; exact B1.mem.pl, B.mem.lf, B.mem.lr, B.mem.lp⟩,
    B.nd, B.ls, by show (D.tc ++ [(s, i)]).length ≤ 1000; rw [List.length_append]; exact hl⟩ (k0.trans k1)
  show Tups _ (A.tv ++ [.ref t]) (tcT (D.tc ++ [(s, i)]))
  unfold tcT
  rw [List.map_append]
  exact paired_snoc ⟨t, rfl, k1.tups _ _ upd_same⟩ (B1.tch.mono k1.tups)
/-- a word more sent -/
theorem goSend (B : BoardAt K H A D) {t : Addr} {b w : Int} (ht : H t = none) (hl : D.sent.length < 1000000) (k : ∀ H1, BoardAt K H1 { A with sv := A.sv ++ [.ref t] } { D with sent := D.sent ++ [(b, w)] } → Kp A.own A.own H H1 → Φ H1) :
    Φ (upd (upd H t (.tup [.int b, .int w])) A.sn (.lst (A.sv ++ [.ref t]))) := by
  have B1 : BoardAt K (upd H t (.tup [.int b, .int w])) A D := B.new ht
  have k0 : Kp A.own A.own H (upd H t (.tup [.int b, .int w])) := Kp.new ht
  have k1 : Kp A.own A.own (upd H t (.tup [.int b, .int w])) (upd (upd H t (.tup [.int b, .int w])) A.sn (.lst (A.sv ++ [.ref t]))) := Kp.upd B1.sn trivial (by simp)
  have n (i : Nat) {c : Addr} (hc : A.own[i]? = some c) (hi : i ≠ 3) : c ≠ A.sn := ndne B.nd i 3 hc rfl hi
  refine k _ ⟨by rw [upd_ne (n 0 rfl (by decide))]; exact B1.ob, by rw [upd_ne (n 1 rfl (by decide))]; exact B1.ln, by rw [upd_ne (n 2 rfl (by decide))]; exact B1.rg, upd_same, by rw [upd_ne (n 4 rfl (by decide))]; exact B1.tc,
    B1.st.mono k1.tups, ?_, B1.tch.mono k1.tups,
    ⟨by rw [upd_ne (n 5 rfl (by decide))]; exact B1.mem.ob, by rw [upd_ne (n 6 rfl (by decide))]; exact B1.mem.fl, by rw [upd_ne (n 7 rfl (by decide))]; exact B1.mem.ra, by rw [upd_ne (n 8 rfl (by decide))]; exact B1.mem.pl, B.mem.lf, B.mem.lr, B.mem.lp⟩,
    B.nd, by show (D.sent ++ [(b, w)]).length ≤ 1000000; rw [List.length_append]; exact hl, B.lt⟩ (k0.trans k1)
  show Tups _ (A.sv ++ [.ref t]) (sentT (D.sent ++ [(b, w)]))
  unfold sentT
  rw [List.map_append]
  exact paired_snoc ⟨t, rfl, k1.tups _ _ upd_same⟩ (B1.sent.mono k1.tups)
theorem goMem (B : BoardAt K H A D) {M : MD} (hm : MemAt K H' A.m M) (k : Kp A.m.own A.m.own H H') : BoardAt K H' A { D with m := M } ∧ Kp A.own A.own H H' := B.setMem hm k
end BoardAt

section
variable {P : Program} {w : World} {K : PySem.W.Frag} {mg : Str → Option Value} {base : Heap}
def sp_name_of (K : PySem.W.Frag) : Sp := fun vs H Q E_ => ∃ (n : Int), vs = [.int n] ∧ (0 ≤ n ∧ Q (nameV (n / 1024).toNat) H)
abbrev N_name_of : List Str := ["word"]
theorem sc_name_of : FnScope N_name_of ["word"] (defScope s_name_of) := ⟨rfl, rfl, rfl, by decide +kernel, rfl, by decide +kernel, by decide +kernel⟩
theorem ok_name_of (T : Txt K mg) : Ok P w K mg base CX0 1 (He.fAd K ("name_of", none)) ["word"] (sp_name_of K) := by
  obtain ⟨fd, F⟩ := T.d_name_of
  refine ⟨fd, F.ok sc_name_of (fun vs H Q E h => by obtain ⟨n, rfl, _⟩ := h; rfl) (fun cdv A_ outer s_ H vs Q E hr h => ?_), F.bindsN (fun _ _ _ _ _ _ us hl => match us, hl with | [_], _ => rfl), F.kp⟩
  obtain ⟨n, rfl, h⟩ := h
  have hu := hu_of hr
  refine ⟨_, PSs.nox (pss_cons (ps_if (pt_cmpR op_lt (pe_op op_fdiv (pv 0) pe_int) (pe_callB call_len_seq (by rfl) T.f_len PySem.boot_len (pa_cons (gr_ (by rfl) T.g_NAMES) pa_nil)) (nomark _)) (pss_one (ps_ret (pe_ix ix_list (gr_ (by rfl) T.g_NAMES) (pe_op op_fdiv (pv 0) pe_int) (fun _ _ => rfl)))) pss_nil)
  (pss_one (ps_ret pe_non))), ?_⟩
  obtain ⟨hn, q⟩ := h
  refine ⟨_, rfl, _, _, rfl, rfl, ⟨by decide, by decide⟩, _, _, rfl, .inl (T.l_NAMES _), _, _, rfl, rfl, _, rfl, iteD (fun h1 => ?_) (fun h1 => ?_)⟩
  · have h2 : n / 1024 < 23 := h1
    have h3 : (n / 1024).toNat < 23 := by omega
    have e : n / 1024 = (((n / 1024).toNat : Nat) : Int) := by omega
    have hA : atI (opNames.map V.str) (n / 1024) = some (.str (nameS (n / 1024).toNat)) := by rw [e]; exact name_at h3
    unfold nameV at q; rw [if_pos h3] at q
    exact ⟨_, rfl, _, _, rfl, rfl, ⟨by decide, by decide⟩, _, _, _, _, rfl, rfl, T.l_NAMES _, hA, q⟩
  · have h2 : ¬ (n / 1024).toNat < 23 := fun z => h1 (by show n / 1024 < 23; omega)
    unfold nameV at q; rw [if_neg h2] at q; exact q
def sp_part_of (K : PySem.W.Frag) : Sp := fun vs H Q E_ => ∃ (n : Int), vs = [.int n] ∧ (Q (.int (n % 1024)) H)
abbrev N_part_of : List Str := ["word"]
theorem sc_part_of : FnScope N_part_of ["word"] (defScope s_part_of) := ⟨rfl, rfl, rfl, by decide +kernel, rfl, by decide +kernel, by decide +kernel⟩
theorem ok_part_of (T : Txt K mg) : Ok P w K mg base CX0 1 (He.fAd K ("part_of", none)) ["word"] (sp_part_of K) := by
  obtain ⟨fd, F⟩ := T.d_part_of
  refine ⟨fd, F.ok sc_part_of (fun vs H Q E h => by obtain ⟨n, rfl, _⟩ := h; rfl) (fun cdv A_ outer s_ H vs Q E hr h => ?_), F.bindsN (fun _ _ _ _ _ _ us hl => match us, hl with | [_], _ => rfl), F.kp⟩
  obtain ⟨n, rfl, h⟩ := h
  have hu := hu_of hr
  refine ⟨_, PSs.nox (pss_one (ps_ret (pe_op op_mod (pv 0) pe_int))), ?_⟩
  exact ⟨_, rfl, _, _, rfl, rfl, (by show (0 : Int) < 1024; decide), h⟩
def sp_Memory_word_at (K : PySem.W.Frag) : Sp := fun vs H Q E_ => ∃ (A : MA) (M : MD) (i : Int), vs = [.ref A.p, .int i] ∧ (MemAt K H A M ∧ Q (optV (M.at i)) H)
abbrev N_Memory_word_at : List Str := ["self", "address"]
theorem sc_Memory_word_at : FnScope N_Memory_word_at ["self", "address"] (defScope s_Memory_word_at) := ⟨rfl, rfl, rfl, by decide +kernel, rfl, by decide +kernel, by decide +kernel⟩
theorem ok_Memory_word_at (T : Txt K mg) : Ok P w K mg base CX0 1 (He.fAd K ("Memory", some "word_at")) ["self", "address"] (sp_Memory_word_at K) := by
  obtain ⟨fd, F⟩ := T.d_Memory_word_at
  refine ⟨fd, F.ok sc_Memory_word_at (fun vs H Q E h => by obtain ⟨A, M, i, rfl, _⟩ := h; rfl) (fun cdv A_ outer s_ H vs Q E hr h => ?_), F.bindsN (fun _ _ _ _ _ _ us hl => match us, hl with | [_, _], _ => rfl), F.kp⟩
  obtain ⟨A, M, i, rfl, h⟩ := h
  have hu := hu_of hr
  refine ⟨_, PSs.nox (pss_cons (ps_if (PW.pt (pw_or (pt_cmpR op_lt (pv 1) pe_int (nomark _)) (pw_or1 (pt_cmpR op_gt (pv 1) (gi_ (by rfl) T.c_LINE_OUT) (nomark _))))) (pss_one (ps_ret pe_non)) pss_nil)
  (pss_cons (ps_if (pt_cmpR op_lt (pv 1) (gi_ (by rfl) T.c_FLASH) (nomark _)) (pss_one (ps_ret (pe_ix ix_list (pe_fld (pv 0) rfl) (pv 1) (fun _ _ => rfl)))) pss_nil)
  (pss_cons (ps_if (pt_cmpR op_lt (pv 1) (gi_ (by rfl) T.c_RAM) (nomark _)) (pss_one (ps_ret (pe_ix ix_list (pe_fld (pv 0) rfl) (pe_op op_sub (pv 1) (gi_ (by rfl) T.c_FLASH)) (fun _ _ => rfl)))) pss_nil)
  (pss_one (ps_ret (pe_ix ix_list (pe_fld (pv 0) rfl) (pe_op op_sub (pv 1) (gi_ (by rfl) T.c_RAM)) (fun _ _ => rfl))))))), ?_⟩
  obtain ⟨B, q⟩ := h
  have none_ : (i < 0 ∨ 773 < i) → Q .non H := fun z => by unfold MD.at at q; rw [if_pos z] at q; exact q
  refine ⟨_, rfl, _, _, rfl, rfl, _, rfl, iteD (fun h1 => iteT (none_ (.inl h1))) (fun h1 => ?_)⟩
  refine ⟨_, rfl, _, _, rfl, rfl, _, rfl, iteD (fun h2 => none_ (.inr h2)) (fun h2 => ?_)⟩
  unfold MD.at at q
  rw [if_neg (by omega)] at q
  refine ⟨_, rfl, _, _, rfl, rfl, _, rfl, iteD (fun h3 => ?_) (fun h3 => ?_)⟩
  · rw [if_pos h3] at q
    have hl : i.toNat < M.fl.length := by rw [B.lf]; omega
    rw [List.getElem?_eq_getElem hl] at q
    exact ⟨_, rfl, _, _, _, _, _, rfl, B.ob, T.k_Memory, T.n_Memory_flash, MemoryF_flash, _, rfl, _, _, _, _, rfl, rfl, SqL.of B.fl, at_i (by omega) (List.getElem?_eq_getElem hl), q⟩
  · rw [if_neg h3] at q
    refine ⟨_, rfl, _, _, rfl, rfl, _, rfl, iteD (fun h4 => ?_) (fun h4 => ?_)⟩
    · rw [if_pos h4] at q
      have hl : (i - 512).toNat < M.ra.length := by rw [B.lr]; omega
      rw [List.getElem?_eq_getElem hl] at q
      exact ⟨_, rfl, _, _, _, _, _, rfl, B.ob, T.k_Memory, T.n_Memory_ram, MemoryF_ram, _, rfl, _, _, rfl, rfl, _, _, _, _, rfl, rfl, SqL.of B.ra, at_i (by omega) (List.getElem?_eq_getElem hl), q⟩
    · rw [if_neg h4] at q
      have hl : (i - 768).toNat < M.pl.length := by rw [B.lp]; omega
      rw [List.getElem?_eq_getElem hl] at q
      exact ⟨_, rfl, _, _, _, _, _, rfl, B.ob, T.k_Memory, T.n_Memory_places, MemoryF_places, _, rfl, _, _, rfl, rfl, _, _, _, _, rfl, rfl, SqL.of B.pl, at_i (by omega) (List.getElem?_eq_getElem hl), q⟩
def sp_Memory_bar_to (K : PySem.W.Frag) : Sp := fun vs H Q E_ => ∃ (A : MA) (i : Int), vs = [.ref A.p, .int i] ∧ ((∃ M, MemAt K H A M) ∧ Q (barV (barTo i)) H)
abbrev N_Memory_bar_to : List Str := ["self", "address"]
theorem sc_Memory_bar_to : FnScope N_Memory_bar_to ["self", "address"] (defScope s_Memory_bar_to) := ⟨rfl, rfl, rfl, by decide +kernel, rfl, by decide +kernel, by decide +kernel⟩
theorem ok_Memory_bar_to (T : Txt K mg) : Ok P w K mg base CX0 1 (He.fAd K ("Memory", some "bar_to")) ["self", "address"] (sp_Memory_bar_to K) := by
  obtain ⟨fd, F⟩ := T.d_Memory_bar_to
  refine ⟨fd, F.ok sc_Memory_bar_to (fun vs H Q E h => by obtain ⟨A, i, rfl, _⟩ := h; rfl) (fun cdv A_ outer s_ H vs Q E hr h => ?_), F.bindsN (fun _ _ _ _ _ _ us hl => match us, hl with | [_, _], _ => rfl), F.kp⟩
  obtain ⟨A, i, rfl, h⟩ := h
  have hu := hu_of hr
  refine ⟨_, PSs.nox (pss_cons (ps_if (PW.pt (pw_or (pt_cmpR op_lt (pv 1) pe_int (nomark _)) (pw_or1 (pt_cmpR op_gt (pv 1) (gi_ (by rfl) T.c_LINE_OUT) (nomark _))))) (pss_one (ps_ret pe_str)) pss_nil)
  (pss_cons (ps_if (pt_cmpR op_lt (pv 1) (gi_ (by rfl) T.c_FLASH) (nomark _)) (pss_one (ps_ret pe_str)) pss_nil)
  (pss_cons (ps_if (pt_cmpR op_eq (pv 1) (gi_ (by rfl) T.c_LINE_IN) (nomark _)) (pss_one (ps_ret pe_str)) pss_nil)
  (pss_one (ps_ret pe_non))))), ?_⟩
  obtain ⟨⟨M, B⟩, q⟩ := h
  have far_ : (i < 0 ∨ 773 < i) → Q (.str "far") H := fun z => by unfold barTo at q; rw [if_pos z] at q; exact q
  refine ⟨_, rfl, _, _, rfl, rfl, _, rfl, iteD (fun h1 => iteT (far_ (.inl h1))) (fun h1 => ?_)⟩
  refine ⟨_, rfl, _, _, rfl, rfl, _, rfl, iteD (fun h2 => far_ (.inr h2)) (fun h2 => ?_)⟩
  unfold barTo at q
  rw [if_neg (by omega)] at q
  refine ⟨_, rfl, _, _, rfl, rfl, _, rfl, iteD (fun h3 => ?_) (fun h3 => ?_)⟩
  · rw [if_pos h3] at q; exact q
  · rw [if_neg h3] at q
    refine ⟨_, rfl, rfl, _, rfl, iteI (fun h4 => ?_) (fun h4 => ?_)⟩
    · rw [if_pos h4] at q; exact q
    · rw [if_neg h4] at q; exact q
def sp_Memory_put (K : PySem.W.Frag) : Sp := fun vs H Q E_ => ∃ (A : MA) (M : MD) (i n : Int), vs = [.ref A.p, .int i, .int n] ∧ (MemAt K H A M ∧ barTo i = none ∧ ∀ H', MemAt K H' A (M.put i n) → Kp A.own A.own H H' → Q .non H')
abbrev N_Memory_put : List Str := ["self", "address", "word"]
theorem sc_Memory_put : FnScope N_Memory_put ["self", "address", "word"] (defScope s_Memory_put) := ⟨rfl, rfl, rfl, by decide +kernel, rfl, by decide +kernel, by decide +kernel⟩
theorem ok_Memory_put (T : Txt K mg) : Ok P w K mg base CX0 1 (He.fAd K ("Memory", some "put")) ["self", "address", "word"] (sp_Memory_put K) := by
  obtain ⟨fd, F⟩ := T.d_Memory_put
  refine ⟨fd, F.ok sc_Memory_put (fun vs H Q E h => by obtain ⟨A, M, i, n, rfl, _⟩ := h; rfl) (fun cdv A_ outer s_ H vs Q E hr h => ?_), F.bindsN (fun _ _ _ _ _ _ us hl => match us, hl with | [_, _, _], _ => rfl), F.kp⟩
  obtain ⟨A, M, i, n, rfl, h⟩ := h
  have hu := hu_of hr
  refine ⟨_, PSs.nox (pss_one (ps_if (pt_cmpR op_lt (pv 1) (gi_ (by rfl) T.c_RAM) (nomark _)) (pss_one (ps_asg (pv 2) (pg_sub (pe_fld (pv 0) rfl) (pe_op op_sub (pv 1) (gi_ (by rfl) T.c_FLASH)) set_list))) (pss_one (ps_if (pt_cmpR op_eq (pv 1) (gi_ (by rfl) T.c_FLAGS) (nomark _)) (pss_one (ps_asg (pe_op op_and (pe_ix ix_list (pe_fld (pv 0) rfl) (pe_op op_sub (gi_ (by rfl) T.c_FLAGS) (gi_ (by rfl) T.c_RAM)) (fun _ _ => rfl)) (pe_op op_sub pe_int (pv 2))) (pg_sub (pe_fld (pv 0) rfl) (pe_op op_sub (gi_ (by rfl) T.c_FLAGS) (gi_ (by rfl) T.c_RAM)) set_list))) (pss_one (ps_asg (pv 2) (pg_sub (pe_fld (pv 0) rfl) (pe_op op_sub (pv 1) (gi_ (by rfl) T.c_RAM)) set_list))))))), ?_⟩
  obtain ⟨B, hb, q⟩ := h
  have hr : 512 ≤ i ∧ i ≤ 773 := by
    unfold barTo at hb
    split at hb
    · cases hb
    · split at hb
      · cases hb
      · omega
  unfold MD.put at q
  refine ⟨_, rfl, _, _, rfl, rfl, _, rfl, iteD (fun h1 => ?_) (fun h1 => ?_)⟩
  · rw [if_pos h1] at q
    refine ⟨_, rfl, _, rfl, _, _, _, _, _, rfl, B.ob, T.k_Memory, T.n_Memory_ram, MemoryF_ram, _, rfl, _, _, rfl, rfl, _, _, _, _, rfl, rfl, B.ra, ixN_at (k := (i - 512).toNat) (by omega) (by rw [B.lr]; omega), ?_⟩
    exact q _ (B.setRa _ n).1 (B.setRa _ n).2
  · rw [if_neg h1] at q
    refine ⟨_, rfl, rfl, _, rfl, iteI (fun h2 => ?_) (fun h2 => ?_)⟩
    · rw [if_pos h2] at q
      refine ⟨_, rfl, _, _, _, _, _, rfl, B.ob, T.k_Memory, T.n_Memory_places, MemoryF_places, _, _, rfl, rfl, _, _, _, _, rfl, rfl, SqL.of B.pl, getD_at (k := 2) (by decide) (by rw [B.lp]; decide), _, rfl, _, _, rfl, rfl, _, _, rfl, rfl, _, rfl, _, _, _, _, _, rfl, B.ob, T.k_Memory, T.n_Memory_places, MemoryF_places, _, _, rfl, rfl, _, _, _, _, rfl, rfl, B.pl, ixN_at (k := 2) (by decide) (by rw [B.lp]; decide), ?_⟩
      exact q _ (B.setPl 2 _).1 (B.setPl 2 _).2
    · rw [if_neg h2] at q
      refine ⟨_, rfl, _, rfl, _, _, _, _, _, rfl, B.ob, T.k_Memory, T.n_Memory_places, MemoryF_places, _, rfl, _, _, rfl, rfl, _, _, _, _, rfl, rfl, B.pl, ixN_at (k := (i - 768).toNat) (by omega) (by rw [B.lp]; omega), ?_⟩
      exact q _ (B.setPl _ n).1 (B.setPl _ n).2
def sp_Board_line_comes (K : PySem.W.Frag) : Sp := fun vs H Q E_ => ∃ (A : BA) (D : BD), vs = [.ref A.p] ∧ (BoardAt K H A D ∧ ∀ H', BoardAt K H' A D.lineComes → Kp A.own A.own H H' → Q .non H')
abbrev N_Board_line_comes : List Str := ["self", "value"]
theorem sc_Board_line_comes : FnScope N_Board_line_comes ["self"] (defScope s_Board_line_comes) := ⟨rfl, rfl, rfl, by decide +kernel, rfl, by decide +kernel, by decide +kernel⟩
theorem ok_Board_line_comes (T : Txt K mg) : Ok P w K mg base CX0 2 (He.fAd K ("Board", some "line_comes")) ["self"] (sp_Board_line_comes K) := by
  obtain ⟨_, G_Memory_place, b_Memory_place, kp_Memory_place⟩ := ok_Memory_place (P := P) (w := w) (base := base) T
  obtain ⟨_, G_Memory_raise_flag, b_Memory_raise_flag, kp_Memory_raise_flag⟩ := ok_Memory_raise_flag (P := P) (w := w) (base := base) T
  obtain ⟨_, G_Memory_set_place, b_Memory_set_place, kp_Memory_set_place⟩ := ok_Memory_set_place (P := P) (w := w) (base := base) T
  obtain ⟨fd, F⟩ := T.d_Board_line_comes
  refine ⟨fd, F.ok sc_Board_line_comes (fun vs H Q E h => by obtain ⟨A, D, rfl, _⟩ := h; rfl) (fun cdv A_ outer s_ H vs Q E hr h => ?_), F.bindsN (fun _ _ _ _ _ _ us hl => match us, hl with | [_], _ => rfl), F.kp⟩
  obtain ⟨A, D, rfl, h⟩ := h
  have hu := hu_of hr
  refine ⟨_, PSs.nox (pss_cons (ps_set (i := 1) sc_Board_line_comes.nd rfl (.inl rfl) (pe_dget2 hu (pe_fld (pv 0) rfl) (pe_fld (pv 0) rfl) (pe_meth (pe_fld (pv 0) rfl) T.k_Memory T.m_Memory_place G_Memory_place (hr.mono (by decide)) b_Memory_place .nil pass0 (pa_cons (gi_ (by rfl) T.c_LINE_IN) pa_nil)) ⟨rfl, rfl, rfl, rfl⟩))
  (pss_cons (ps_if (pt_cmpR op_gt (pe_op op_mod (pv 1) pe_int) (pe_op op_mod (pe_meth (pe_fld (pv 0) rfl) T.k_Memory T.m_Memory_place G_Memory_place (hr.mono (by decide)) b_Memory_place .nil pass0 (pa_cons (gi_ (by rfl) T.c_LINE_IN) pa_nil)) pe_int) (nomark _)) (pss_one (ps_expr (pe_meth (pe_fld (pv 0) rfl) T.k_Memory T.m_Memory_raise_flag G_Memory_raise_flag (hr.mono (by decide)) b_Memory_raise_flag .nil pass0 (pa_cons (gi_ (by rfl) T.c_LINE_BIT) pa_nil)))) pss_nil)
  (pss_one (ps_expr (pe_meth (pe_fld (pv 0) rfl) T.k_Memory T.m_Memory_set_place G_Memory_set_place (hr.mono (by decide)) b_Memory_set_place .nil pass0 (pa_cons (gi_ (by rfl) T.c_LINE_IN) (pa_cons (pv 1) pa_nil))))))), ?_⟩
  obtain ⟨B, q⟩ := h
  obtain ⟨o, ho, eo⟩ : ∃ o, DGet H A.ln (.int D.beat) o ∧ o.getD (.int (D.m.place 4)) = .int (lineGet D.ln D.beat (D.m.place 4)) := ⟨_, DGet.k (k := Sum.inl D.beat) B.ln, line_get _ _ _⟩
  refine ⟨_, rfl, _, _, _, _, _, rfl, B.ob, T.k_Board, T.n_Board_line, BoardF_line, _, rfl, .inl ⟨_, .inl B.ln⟩, _, rfl, _, _, _, _, _, rfl, B.ob, T.k_Board, T.n_Board_beat, BoardF_beat, _, rfl, _, _, _, _, _, rfl, B.ob, T.k_Board, T.n_Board_memory, BoardF_memory, _, _, _, rfl, B.mem.ob, (by kernel_rfl), _, _, 4, rfl, B.mem, (by decide), o, ho, ?_⟩
  rw [eo]
  refine ⟨_, rfl, _, _, rfl, rfl, (by show (0 : Int) < 2; decide), _, rfl, _, _, _, _, _, rfl, B.ob, T.k_Board, T.n_Board_memory, BoardF_memory, _, _, _, rfl, B.mem.ob, (by kernel_rfl), _, _, 4, rfl, B.mem, (by decide), _, _, rfl, rfl, (by show (0 : Int) < 2; decide), _, _, rfl, rfl, _, rfl, iteD (fun h1 => ?_) (fun h1 => ?_)⟩
  · refine ⟨_, rfl, _, _, _, _, _, rfl, B.ob, T.k_Board, T.n_Board_memory, BoardF_memory, _, _, _, rfl, B.mem.ob, (by kernel_rfl), _, _, 2, rfl, B.mem, fun H1 M1 k1 => ?_⟩
    obtain ⟨B1, k2⟩ := B.setMem M1 k1
    refine ⟨_, rfl, _, _, _, _, _, rfl, B1.ob, T.k_Board, T.n_Board_memory, BoardF_memory, _, _, _, rfl, B1.mem.ob, (by kernel_rfl), _, rfl, _, _, 4, _, rfl, B1.mem, (by decide), fun H2 M2 k3 => ?_⟩
    obtain ⟨B2, k4⟩ := B1.setMem M2 k3
    refine q _ ?_ (k2.trans k4)
    unfold BD.lineComes MD.comes
    rw [if_pos h1]
    exact B2
  · refine ⟨_, rfl, _, _, _, _, _, rfl, B.ob, T.k_Board, T.n_Board_memory, BoardF_memory, _, _, _, rfl, B.mem.ob, (by kernel_rfl), _, rfl, _, _, 4, _, rfl, B.mem, (by decide), fun H2 M2 k3 => ?_⟩
    obtain ⟨B2, k4⟩ := B.setMem M2 k3
    refine q _ ?_ k4
    unfold BD.lineComes MD.comes
    rw [if_neg h1]
    exact B2
def sp_Board_timer_goes (K : PySem.W.Frag) : Sp := fun vs H Q E_ => ∃ (A : BA) (D : BD), vs = [.ref A.p] ∧ (BoardAt K H A D ∧ ∀ H', BoardAt K H' A D.timerGoes → Kp A.own A.own H H' → Q .non H')
abbrev N_Board_timer_goes : List Str := ["self", "count"]
theorem sc_Board_timer_goes : FnScope N_Board_timer_goes ["self"] (defScope s_Board_timer_goes) := ⟨rfl, rfl, rfl, by decide +kernel, rfl, by decide +kernel, by decide +kernel⟩
theorem ok_Board_timer_goes (T : Txt K mg) : Ok P w K mg base CX0 2 (He.fAd K ("Board", some "timer_goes")) ["self"] (sp_Board_timer_goes K) := by
  obtain ⟨_, G_Memory_place, b_Memory_place, kp_Memory_place⟩ := ok_Memory_place (P := P) (w := w) (base := base) T
  obtain ⟨_, G_Memory_raise_flag, b_Memory_raise_flag, kp_Memory_raise_flag⟩ := ok_Memory_raise_flag (P := P) (w := w) (base := base) T
  obtain ⟨_, G_Memory_set_place, b_Memory_set_place, kp_Memory_set_place⟩ := ok_Memory_set_place (P := P) (w := w) (base := base) T
  obtain ⟨fd, F⟩ := T.d_Board_timer_goes
  refine ⟨fd, F.ok sc_Board_timer_goes (fun vs H Q E h => by obtain ⟨A, D, rfl, _⟩ := h; rfl) (fun cdv A_ outer s_ H vs Q E hr h => ?_), F.bindsN (fun _ _ _ _ _ _ us hl => match us, hl with | [_], _ => rfl), F.kp⟩
  obtain ⟨A, D, rfl, h⟩ := h
  have hu := hu_of hr
  refine ⟨_, PSs.nox (pss_one (ps_if (pt_cmpR op_gt (pe_meth (pe_fld (pv 0) rfl) T.k_Memory T.m_Memory_place G_Memory_place (hr.mono (by decide)) b_Memory_place .nil pass0 (pa_cons (gi_ (by rfl) T.c_TOP) pa_nil)) pe_int (nomark _)) (pss_cons (ps_set (i := 1) sc_Board_timer_goes.nd rfl (.inl rfl) (pe_op op_add (pe_meth (pe_fld (pv 0) rfl) T.k_Memory T.m_Memory_place G_Memory_place (hr.mono (by decide)) b_Memory_place .nil pass0 (pa_cons (gi_ (by rfl) T.c_COUNT) pa_nil)) pe_int))
    (pss_cons (ps_if (pt_cmpR op_ge (pv 1) (pe_meth (pe_fld (pv 0) rfl) T.k_Memory T.m_Memory_place G_Memory_place (hr.mono (by decide)) b_Memory_place .nil pass0 (pa_cons (gi_ (by rfl) T.c_TOP) pa_nil)) (nomark _)) (pss_cons (ps_set (i := 1) sc_Board_timer_goes.nd rfl (.inl rfl) pe_int)
      (pss_one (ps_expr (pe_meth (pe_fld (pv 0) rfl) T.k_Memory T.m_Memory_raise_flag G_Memory_raise_flag (hr.mono (by decide)) b_Memory_raise_flag .nil pass0 (pa_cons (gi_ (by rfl) T.c_TIMER_BIT) pa_nil))))) pss_nil)
    (pss_one (ps_expr (pe_meth (pe_fld (pv 0) rfl) T.k_Memory T.m_Memory_set_place G_Memory_set_place (hr.mono (by decide)) b_Memory_set_place .nil pass0 (pa_cons (gi_ (by rfl) T.c_COUNT) (pa_cons (pv 1) pa_nil))))))) pss_nil)), ?_⟩
  obtain ⟨B, q⟩ := h
  refine ⟨_, rfl, _, _, _, _, _, rfl, B.ob, T.k_Board, T.n_Board_memory, BoardF_memory, _, _, _, rfl, B.mem.ob, (by kernel_rfl), _, _, 1, rfl, B.mem, (by decide), _, _, rfl, rfl, _, rfl, iteD (fun h1 => ?_) (fun h1 => ?_)⟩
  · refine ⟨_, rfl, _, _, _, _, _, rfl, B.ob, T.k_Board, T.n_Board_memory, BoardF_memory, _, _, _, rfl, B.mem.ob, (by kernel_rfl), _, _, 0, rfl, B.mem, (by decide), _, _, rfl, rfl, ?_⟩
    refine ⟨_, rfl, _, rfl, _, _, _, _, _, rfl, B.ob, T.k_Board, T.n_Board_memory, BoardF_memory, _, _, _, rfl, B.mem.ob, (by kernel_rfl), _, _, 1, rfl, B.mem, (by decide), _, _, rfl, rfl, _, rfl, iteD (fun h2 => ?_) (fun h2 => ?_)⟩
    · refine ⟨_, rfl, _, _, _, _, _, rfl, B.ob, T.k_Board, T.n_Board_memory, BoardF_memory, _, _, _, rfl, B.mem.ob, (by kernel_rfl), _, _, 1, rfl, B.mem, fun H1 M1 k1 => ?_⟩
      obtain ⟨B1, k2⟩ := B.setMem M1 k1
      refine ⟨_, rfl, _, _, _, _, _, rfl, B1.ob, T.k_Board, T.n_Board_memory, BoardF_memory, _, _, _, rfl, B1.mem.ob, (by kernel_rfl), _, rfl, _, _, 0, _, rfl, B1.mem, (by decide), fun H2 M2 k3 => ?_⟩
      obtain ⟨B2, k4⟩ := B1.setMem M2 k3
      refine q _ ?_ (k2.trans k4)
      unfold BD.timerGoes
      rw [if_pos h1, if_pos h2]
      exact B2
    · refine ⟨_, rfl, _, _, _, _, _, rfl, B.ob, T.k_Board, T.n_Board_memory, BoardF_memory, _, _, _, rfl, B.mem.ob, (by kernel_rfl), _, rfl, _, _, 0, _, rfl, B.mem, (by decide), fun H2 M2 k3 => ?_⟩
      obtain ⟨B2, k4⟩ := B.setMem M2 k3
      refine q _ ?_ k4
      unfold BD.timerGoes
      rw [if_pos h1, if_neg h2]
      exact B2
  · refine q _ ?_ (Kp.refl _ _)
    unfold BD.timerGoes
    rw [if_neg h1]
    exact B
def sp_Board_pending (K : PySem.W.Frag) : Sp := fun vs H Q E_ => ∃ (A : BA) (D : BD), vs = [.ref A.p] ∧ (BoardAt K H A D ∧ Q (.int D.pending) H)
abbrev N_Board_pending : List Str := ["self"]
theorem sc_Board_pending : FnScope N_Board_pending ["self"] (defScope s_Board_pending) := ⟨rfl, rfl, rfl, by decide +kernel, rfl, by decide +kernel, by decide +kernel⟩
theorem ok_Board_pending (T : Txt K mg) : Ok P w K mg base CX0 2 (He.fAd K ("Board", some "pending")) ["self"] (sp_Board_pending K) := by
  obtain ⟨_, G_Memory_place, b_Memory_place, kp_Memory_place⟩ := ok_Memory_place (P := P) (w := w) (base := base) T
  obtain ⟨fd, F⟩ := T.d_Board_pending
  refine ⟨fd, F.ok sc_Board_pending (fun vs H Q E h => by obtain ⟨A, D, rfl, _⟩ := h; rfl) (fun cdv A_ outer s_ H vs Q E hr h => ?_), F.bindsN (fun _ _ _ _ _ _ us hl => match us, hl with | [_], _ => rfl), F.kp⟩
  obtain ⟨A, D, rfl, h⟩ := h
  have hu := hu_of hr
  refine ⟨_, PSs.nox (pss_one (ps_ret (pe_op op_and (pe_meth (pe_fld (pv 0) rfl) T.k_Memory T.m_Memory_place G_Memory_place (hr.mono (by decide)) b_Memory_place .nil pass0 (pa_cons (gi_ (by rfl) T.c_FLAGS) pa_nil)) (pe_meth (pe_fld (pv 0) rfl) T.k_Memory T.m_Memory_place G_Memory_place (hr.mono (by decide)) b_Memory_place .nil pass0 (pa_cons (gi_ (by rfl) T.c_MASK) pa_nil))))), ?_⟩
  obtain ⟨B, q⟩ := h
  exact ⟨_, rfl, _, _, _, _, _, rfl, B.ob, T.k_Board, T.n_Board_memory, BoardF_memory, _, _, _, rfl, B.mem.ob, (by kernel_rfl), _, _, 2, rfl, B.mem, (by decide), _, rfl, _, _, _, _, _, rfl, B.ob, T.k_Board, T.n_Board_memory, BoardF_memory, _, _, _, rfl, B.mem.ob, (by kernel_rfl), _, _, 3, rfl, B.mem, (by decide), _, _, rfl, rfl, q⟩
def sp_Board_pass_beats (K : PySem.W.Frag) : Sp := fun vs H Q E_ => ∃ (A : BA) (D : BD) (n : Nat), vs = [.ref A.p, .int (n : Int)] ∧ (BoardAt K H A D ∧ n ≤ 1000 ∧ ∀ H', BoardAt K H' A (D.pass n) → Kp A.own A.own H H' → Q .non H')
abbrev N_Board_pass_beats : List Str := ["self", "many", "k"]
theorem sc_Board_pass_beats : FnScope N_Board_pass_beats ["self", "many"] (defScope s_Board_pass_beats) := ⟨rfl, rfl, rfl, by decide +kernel, rfl, by decide +kernel, by decide +kernel⟩
theorem ok_Board_pass_beats (T : Txt K mg) : Ok P w K mg base CX0 3 (He.fAd K ("Board", some "pass_beats")) ["self", "many"] (sp_Board_pass_beats K) := by
  obtain ⟨_, G_Board_line_comes, b_Board_line_comes, kp_Board_line_comes⟩ := ok_Board_line_comes (P := P) (w := w) (base := base) T
  obtain ⟨_, G_Board_timer_goes, b_Board_timer_goes, kp_Board_timer_goes⟩ := ok_Board_timer_goes (P := P) (w := w) (base := base) T
  obtain ⟨fd, F⟩ := T.d_Board_pass_beats
  refine ⟨fd, F.ok sc_Board_pass_beats (fun vs H Q E h => by obtain ⟨A, D, n, rfl, _⟩ := h; rfl) (fun cdv A_ outer s_ H vs Q E hr h => ?_), F.bindsN (fun _ _ _ _ _ _ us hl => match us, hl with | [_, _], _ => rfl), F.kp⟩
  obtain ⟨A, D, n, rfl, h⟩ := h
  have hu := hu_of hr
  refine ⟨_, PSs.nox (pss_one (ps_for PassesOwn.never rfl (pi_range1 (by rfl) T.f_range (pa_cons (pv 1) pa_nil)) (pg_name (i := 2) sc_Board_pass_beats.nd rfl (.inl rfl)) (pss_cons (ps_fld (pv 0) (pe_op op_add (pe_fld (pv 0) rfl) pe_int) rfl)
    (pss_cons (ps_expr (pe_meth0 (pv 0) T.k_Board T.m_Board_line_comes G_Board_line_comes (hr.mono (by decide)) b_Board_line_comes .nil pass0))
    (pss_one (ps_expr (pe_meth0 (pv 0) T.k_Board T.m_Board_timer_goes G_Board_timer_goes (hr.mono (by decide)) b_Board_timer_goes .nil pass0))))))), ?_⟩
  obtain ⟨B, hn, q⟩ := h
  refine ⟨_, rfl, _, rfl, by omega, by omega, for_range (lo := 0) (n := (n : Int).toNat) (fun i σ H' => ∃ v, σ = [some (.ref A.p), some (.int n), v] ∧ BoardAt K H' A (D.pass i) ∧ Kp A.own A.own H H') ⟨_, rfl, B, Kp.refl _ _⟩ ?_ ?_⟩
  · rintro i σ H1 hi ⟨v, rfl, B1, k1⟩
    refine ⟨_, rfl, _, _, _, _, _, rfl, B1.ob, T.k_Board, T.n_Board_beat, BoardF_beat, _, _, rfl, rfl, _, rfl, _, _, _, _, rfl, B1.ob, T.k_Board, T.n_Board_beat, BoardF_len, B1.goBeat fun H2 B2 k2 => ?_⟩
    refine ⟨_, rfl, _, _, _, rfl, B2.ob, (by kernel_rfl), _, _, rfl, B2, fun H3 B3 k3 => ?_⟩
    refine ⟨_, rfl, _, _, _, rfl, B3.ob, (by kernel_rfl), _, _, rfl, B3, fun H4 B4 k4 => ?_⟩
    exact ⟨_, rfl, B4, k1.trans (k2.trans (k3.trans k4))⟩
  · rintro σ H1 ⟨v, rfl, B1, k1⟩
    exact q _ B1 k1
end

theorem barTo_none {i : Int} (h : barTo i = none) : 512 ≤ i ∧ i ≤ 773 ∧ i ≠ 772 := by
  unfold barTo at h
  split at h
  · cases h
  · split at h
    · cases h
    · split at h
      · cases h
      · exact ⟨by omega, by omega, by assumption⟩
theorem barV_some {b : Bar} : barV (some b) ≠ .non := fun z => by cases z
theorem iteOptN {A B : Prop} {o : Option Bar} (h1 : ∀ b, o = some b → A) (h2 : o = none → B) : if (!decide (barV o = .non)) = true then A else B := by
  cases o with
  | some b => rw [decide_eq_false (show ¬ barV (some b) = .non from barV_some)]; exact h1 b rfl
  | none => exact h2 rfl
theorem iteOptI {A B : Prop} {o : Option Int} (h1 : o = none → A) (h2 : ∀ n, o = some n → B) : if decide (optV o = .non) = true then A else B := by
  cases o with
  | some b => rw [decide_eq_false (show ¬ optV (some b) = .non from fun z => by cases z)]; exact h2 b rfl
  | none => exact h1 rfl
/-- a pair of two new lists -/
theorem pair_new {K : PySem.W.Frag} {H H0 : Hp} {A : BA} {D : BD} (B0 : BoardAt K H0 A D) (k0 : Kp A.own A.own H H0) {Q : VK} (r p : List Int) {l1 l2 t : Addr} (n1 : H0 l1 = none) (n2 : upd H0 l1 (.lst (r.map V.int)) l2 = none)
    (nt : upd (upd H0 l1 (.lst (r.map V.int))) l2 (.lst (p.map V.int)) t = none)
    (q : ∀ H' t l1 l2, BoardAt K H' A D → Kp A.own A.own H H' → H' t = some (.tup [.ref l1, .ref l2]) → H' l1 = some (.lst (r.map V.int)) → H' l2 = some (.lst (p.map V.int)) → H l1 = none → H l2 = none → l1 ≠ l2 → Q (.ref t) H') :
    Q (.ref t) (upd (upd (upd H0 l1 (.lst (r.map V.int))) l2 (.lst (p.map V.int))) t (.tup [.ref l1, .ref l2])) := by
  have h12 : l1 ≠ l2 := fun z => by rw [← z, upd_same] at n2; cases n2
  have n2' : H0 l2 = none := by rw [upd_ne h12.symm] at n2; exact n2
  have ht2 : t ≠ l2 := fun z => by rw [z, upd_same] at nt; cases nt
  have ht1 : t ≠ l1 := fun z => by rw [z, upd_ne h12, upd_same] at nt; cases nt
  exact q _ t l1 l2 (((B0.new n1).new n2).new nt) (k0.trans ((Kp.new n1).trans ((Kp.new n2).trans (Kp.new nt)))) upd_same (by rw [upd_ne ht1.symm, upd_ne h12, upd_same]) (by rw [upd_ne ht2.symm, upd_same]) (k0.free n1 (B0.fresh n1)) (k0.free n2' (B0.fresh n2')) h12
section
variable {P : Program} {w : World} {K : PySem.W.Frag} {mg : Str → Option Value} {base : Heap}
def sp_Board_stop (K : PySem.W.Frag) : Sp := fun vs H Q E_ => ∃ (A : BA) (D : BD) (t : Addr) (xs : List V), vs = [.ref A.p, .ref t] ∧ (BoardAt K H A D ∧ H t = some (.tup xs) ∧ ∀ H' A', BoardAt K H' A' (D.halt xs) → A'.p = A.p → Kp A.own A'.own H H' → Q (.str "stopped") H')
abbrev N_Board_stop : List Str := ["self", "cause"]
theorem sc_Board_stop : FnScope N_Board_stop ["self", "cause"] (defScope s_Board_stop) := ⟨rfl, rfl, rfl, by decide +kernel, rfl, by decide +kernel, by decide +kernel⟩
theorem ok_Board_stop (T : Txt K mg) : Ok P w K mg base CX0 1 (He.fAd K ("Board", some "stop")) ["self", "cause"] (sp_Board_stop K) := by
  obtain ⟨fd, F⟩ := T.d_Board_stop
  refine ⟨fd, F.ok sc_Board_stop (fun vs H Q E h => by obtain ⟨A, D, t, xs, rfl, _⟩ := h; rfl) (fun cdv A_ outer s_ H vs Q E hr h => ?_), F.bindsN (fun _ _ _ _ _ _ us hl => match us, hl with | [_, _], _ => rfl), F.kp⟩
  obtain ⟨A, D, t, xs, rfl, h⟩ := h
  have hu := hu_of hr
  refine ⟨_, PSs.nox (pss_cons (ps_fld (pv 0) (pv 1) rfl)
  (pss_one (ps_ret pe_str))), ?_⟩
  obtain ⟨B, ht, q⟩ := h
  refine ⟨_, rfl, _, rfl, _, _, _, _, rfl, B.ob, T.k_Board, T.n_Board_stopped, BoardF_len, B.goStop (o := some xs) ⟨t, rfl, ht⟩ fun H1 B1 k1 => ?_⟩
  exact q _ _ B1 rfl k1
def sp_Board_store (K : PySem.W.Frag) : Sp := fun vs H Q E_ => ∃ (A : BA) (D : BD) (i n : Int), vs = [.ref A.p, .int i, .int n] ∧ (BoardAt K H A D ∧ barTo i = none ∧ D.tc.length < 1000 ∧ D.sent.length < 1000000 ∧ ∀ H' A', BoardAt K H' A' (D.store i n) → A'.p = A.p → Kp A.own A'.own H H' → Q .non H')
abbrev N_Board_store : List Str := ["self", "address", "word"]
theorem sc_Board_store : FnScope N_Board_store ["self", "address", "word"] (defScope s_Board_store) := ⟨rfl, rfl, rfl, by decide +kernel, rfl, by decide +kernel, by decide +kernel⟩
theorem ok_Board_store (T : Txt K mg) : Ok P w K mg base CX0 2 (He.fAd K ("Board", some "store")) ["self", "address", "word"] (sp_Board_store K) := by
  obtain ⟨_, G_Memory_put, b_Memory_put, kp_Memory_put⟩ := ok_Memory_put (P := P) (w := w) (base := base) T
  obtain ⟨fd, F⟩ := T.d_Board_store
  refine ⟨fd, F.ok sc_Board_store (fun vs H Q E h => by obtain ⟨A, D, i, n, rfl, _⟩ := h; rfl) (fun cdv A_ outer s_ H vs Q E hr h => ?_), F.bindsN (fun _ _ _ _ _ _ us hl => match us, hl with | [_, _, _], _ => rfl), F.kp⟩
  obtain ⟨A, D, i, n, rfl, h⟩ := h
  have hu := hu_of hr
  refine ⟨_, PSs.nox (pss_cons (ps_expr (pe_bm PySem.F.plainAttrs_list PySem.F.slot_list_append PySem.F.type_list_append mt_append (pe_fld (pv 0) rfl) (pa_cons (pe_tup (pa_cons pe_str (pa_cons (pv 1) pa_nil))) pa_nil)))
  (pss_cons (ps_expr (pe_meth (pe_fld (pv 0) rfl) T.k_Memory T.m_Memory_put G_Memory_put (hr.mono (by decide)) b_Memory_put .nil pass0 (pa_cons (pv 1) (pa_cons (pv 2) pa_nil))))
  (pss_one (ps_if (pt_cmpR op_eq (pv 1) (gi_ (by rfl) T.c_LINE_OUT) (nomark _)) (pss_one (ps_expr (pe_bm PySem.F.plainAttrs_list PySem.F.slot_list_append PySem.F.type_list_append mt_append (pe_fld (pv 0) rfl) (pa_cons (pe_tup (pa_cons (pe_fld (pv 0) rfl) (pa_cons (pv 2) pa_nil))) pa_nil)))) pss_nil)))), ?_⟩
  obtain ⟨B, hb, hl, hs, q⟩ := h
  refine ⟨_, rfl, _, _, _, _, _, rfl, B.ob, T.k_Board, T.n_Board_touched, BoardF_touched, .inl ⟨rfl, _, SqL.of B.tc⟩, _, rfl, by show 2 ≤ sizeLine; decide, fun t ht => ⟨_, _, _, rfl, rfl, by rw [upd_ne (ne_of_none B.tc ht)]; exact B.tc, small_ ?_, B.goTouch ht hl fun H1 B1 k1 => ?_⟩⟩
  · have e := Paired.length B.tch
    unfold tcT at e
    rw [List.length_map] at e
    omega
  refine ⟨_, rfl, _, _, _, _, _, rfl, B1.ob, T.k_Board, T.n_Board_memory, BoardF_memory, _, _, _, rfl, B1.mem.ob, (by kernel_rfl), _, rfl, _, rfl, _, _, _, _, rfl, B1.mem, hb, fun H2 M2 k2 => ?_⟩
  obtain ⟨B2, k3⟩ := B1.setMem M2 k2
  unfold BD.store at q
  refine ⟨_, rfl, rfl, _, rfl, iteI (fun h1 => ?_) (fun h1 => ?_)⟩
  · rw [if_pos h1] at q
    refine ⟨_, rfl, _, _, _, _, _, rfl, B2.ob, T.k_Board, T.n_Board_sent, BoardF_sent, .inl ⟨rfl, _, SqL.of B2.sn⟩, _, rfl, _, _, _, _, _, rfl, B2.ob, T.k_Board, T.n_Board_beat, BoardF_beat, _, rfl, by show 2 ≤ sizeLine; decide, fun u hu2 => ⟨_, _, _, rfl, rfl, by rw [upd_ne (ne_of_none B2.sn hu2)]; exact B2.sn, small_ ?_, B2.goSend hu2 hs fun H3 B3 k4 => ?_⟩⟩
    · have e : A.sv.length = (sentT D.sent).length := Paired.length B2.sent
      unfold sentT at e
      rw [List.length_map] at e
      have : D.sent.length < 1000000 := hs
      show A.sv.length ≤ 16777215
      omega
    exact q _ _ B3 rfl (k1.trans (k3.trans k4))
  · rw [if_neg h1] at q
    exact q _ _ B2 rfl (k1.trans k3)
def sp_Board_fetch (K : PySem.W.Frag) : Sp := fun vs H Q E_ => ∃ (A : BA) (D : BD) (i n : Int), vs = [.ref A.p, .int i] ∧ (BoardAt K H A D ∧ D.m.at i = some n ∧ D.tc.length < 1000 ∧ ∀ H' A', BoardAt K H' A' (D.fetch i) → A'.p = A.p → Kp A.own A'.own H H' → Q (.int (D.fetchV i)) H')
abbrev N_Board_fetch : List Str := ["self", "address", "word"]
theorem sc_Board_fetch : FnScope N_Board_fetch ["self", "address"] (defScope s_Board_fetch) := ⟨rfl, rfl, rfl, by decide +kernel, rfl, by decide +kernel, by decide +kernel⟩
theorem ok_Board_fetch (T : Txt K mg) : Ok P w K mg base CX0 2 (He.fAd K ("Board", some "fetch")) ["self", "address"] (sp_Board_fetch K) := by
  obtain ⟨_, G_Memory_word_at, b_Memory_word_at, kp_Memory_word_at⟩ := ok_Memory_word_at (P := P) (w := w) (base := base) T
  obtain ⟨fd, F⟩ := T.d_Board_fetch
  refine ⟨fd, F.ok sc_Board_fetch (fun vs H Q E h => by obtain ⟨A, D, i, n, rfl, _⟩ := h; rfl) (fun cdv A_ outer s_ H vs Q E hr h => ?_), F.bindsN (fun _ _ _ _ _ _ us hl => match us, hl with | [_, _], _ => rfl), F.kp⟩
  obtain ⟨A, D, i, n, rfl, h⟩ := h
  have hu := hu_of hr
  refine ⟨_, PSs.nox (pss_cons (ps_expr (pe_bm PySem.F.plainAttrs_list PySem.F.slot_list_append PySem.F.type_list_append mt_append (pe_fld (pv 0) rfl) (pa_cons (pe_tup (pa_cons pe_str (pa_cons (pv 1) pa_nil))) pa_nil)))
  (pss_cons (ps_set (i := 2) sc_Board_fetch.nd rfl (.inl rfl) (pe_op op_xor (pe_meth (pe_fld (pv 0) rfl) T.k_Memory T.m_Memory_word_at G_Memory_word_at (hr.mono (by decide)) b_Memory_word_at .nil pass0 (pa_cons (pv 1) pa_nil)) (pe_fld (pv 0) rfl)))
  (pss_cons (ps_fld (pv 0) pe_int rfl)
  (pss_one (ps_ret (pv 2)))))), ?_⟩
  obtain ⟨B, hb, hl, q⟩ := h
  refine ⟨_, rfl, _, _, _, _, _, rfl, B.ob, T.k_Board, T.n_Board_touched, BoardF_touched, .inl ⟨rfl, _, SqL.of B.tc⟩, _, rfl, by show 2 ≤ sizeLine; decide, fun t ht => ⟨_, _, _, rfl, rfl, by rw [upd_ne (ne_of_none B.tc ht)]; exact B.tc, small_ ?_, B.goTouch ht hl fun H1 B1 k1 => ?_⟩⟩
  · have e := Paired.length B.tch
    unfold tcT at e
    rw [List.length_map] at e
    omega
  refine ⟨_, rfl, _, _, _, _, _, rfl, B1.ob, T.k_Board, T.n_Board_memory, BoardF_memory, _, _, _, rfl, B1.mem.ob, (by kernel_rfl), _, rfl, _, _, _, rfl, B1.mem, ?_⟩
  rw [hb]
  refine ⟨_, rfl, _, _, _, _, _, rfl, B1.ob, T.k_Board, T.n_Board_bend, BoardF_bend, _, _, rfl, rfl, ?_⟩
  refine ⟨_, rfl, _, _, _, _, rfl, B1.ob, T.k_Board, T.n_Board_bend, BoardF_len, B1.goBend fun H2 B2 k2 => ?_⟩
  unfold BD.fetchV at q
  rw [hb] at q
  exact ⟨_, rfl, q _ _ B2 rfl (k1.trans k2)⟩
def sp_Board_addresses (K : PySem.W.Frag) : Sp := fun vs H Q E_ => ∃ (A : BA) (D : BD) (k : Nat) (x : Int), vs = [.ref A.p, .str (nameS k), .int x] ∧ (BoardAt K H A D ∧ k < 23 ∧ ∀ H' t l1 l2, BoardAt K H' A D → Kp A.own A.own H H' → H' t = some (.tup [.ref l1, .ref l2]) → H' l1 = some (.lst ((addrs k x D.b D.sp).1.map V.int)) → H' l2 = some (.lst ((addrs k x D.b D.sp).2.map V.int)) → H l1 = none → H l2 = none → l1 ≠ l2 → Q (.ref t) H')
abbrev N_Board_addresses : List Str := ["self", "name", "part", "sp"]
theorem sc_Board_addresses : FnScope N_Board_addresses ["self", "name", "part"] (defScope s_Board_addresses) := ⟨rfl, rfl, rfl, by decide +kernel, rfl, by decide +kernel, by decide +kernel⟩
theorem ok_Board_addresses (T : Txt K mg) : Ok P w K mg base CX0 1 (He.fAd K ("Board", some "addresses")) ["self", "name", "part"] (sp_Board_addresses K) := by
  obtain ⟨fd, F⟩ := T.d_Board_addresses
  refine ⟨fd, F.ok sc_Board_addresses (fun vs H Q E h => by obtain ⟨A, D, k, x, rfl, _⟩ := h; rfl) (fun cdv A_ outer s_ H vs Q E hr h => ?_), F.bindsN (fun _ _ _ _ _ _ us hl => match us, hl with | [_, _, _], _ => rfl), F.kp⟩
  obtain ⟨A, D, k, x, rfl, h⟩ := h
  have hu := hu_of hr
  refine ⟨_, PSs.nox (pss_cons (ps_set (i := 3) sc_Board_addresses.nd rfl (.inl rfl) (pe_dget hu (pe_fld (pv 0) rfl) pe_str (fun _ _ => rfl)))
  (pss_cons (ps_if (pt_cmpR op_in_seq (pv 1) (gr_ (by rfl) T.g_READING) (by rfl)) (pss_one (ps_ret (pe_tup (pa_cons (pe_lst (pa_cons (pv 2) pa_nil)) (pa_cons (pe_lst pa_nil) pa_nil))))) pss_nil)
  (pss_cons (ps_if (pt_cmpR op_eq (pv 1) pe_str (nomark _)) (pss_one (ps_ret (pe_tup (pa_cons (pe_lst pa_nil) (pa_cons (pe_lst (pa_cons (pv 2) pa_nil)) pa_nil))))) pss_nil)
  (pss_cons (ps_if (pt_cmpR op_eq (pv 1) pe_str (nomark _)) (pss_one (ps_ret (pe_tup (pa_cons (pe_lst (pa_cons (pe_op op_add (pv 2) (pe_dget hu (pe_fld (pv 0) rfl) pe_str (fun _ _ => rfl))) pa_nil)) (pa_cons (pe_lst pa_nil) pa_nil))))) pss_nil)
  (pss_cons (ps_if (pt_cmpR op_eq (pv 1) pe_str (nomark _)) (pss_one (ps_ret (pe_tup (pa_cons (pe_lst pa_nil) (pa_cons (pe_lst (pa_cons (pe_op op_add (pv 2) (pe_dget hu (pe_fld (pv 0) rfl) pe_str (fun _ _ => rfl))) pa_nil)) pa_nil))))) pss_nil)
  (pss_cons (ps_if (pt_cmpR op_in_seq (pv 1) (pe_tup (pa_cons pe_str (pa_cons pe_str pa_nil))) (by rfl)) (pss_one (ps_ret (pe_tup (pa_cons (pe_lst pa_nil) (pa_cons (pe_lst (pa_cons (pv 3) pa_nil)) pa_nil))))) pss_nil)
  (pss_cons (ps_if (pt_cmpR op_in_seq (pv 1) (pe_tup (pa_cons pe_str (pa_cons pe_str pa_nil))) (by rfl)) (pss_one (ps_ret (pe_tup (pa_cons (pe_lst (pa_cons (pe_op op_add (pv 3) pe_int) pa_nil)) (pa_cons (pe_lst pa_nil) pa_nil))))) pss_nil)
  (pss_cons (ps_if (pt_cmpR op_eq (pv 1) pe_str (nomark _)) (pss_one (ps_ret (pe_tup (pa_cons (pe_lst (pa_cons (pe_op op_add (pv 3) pe_int) (pa_cons (pe_op op_add (pv 3) pe_int) pa_nil))) (pa_cons (pe_lst pa_nil) pa_nil))))) pss_nil)
  (pss_one (ps_ret (pe_tup (pa_cons (pe_lst pa_nil) (pa_cons (pe_lst pa_nil) pa_nil))))))))))))), ?_⟩
  obtain ⟨B, hk, q⟩ := h
  have s0 : 0 ≤ sizeLine := by decide
  have s1 : 1 ≤ sizeLine := by decide
  have s2 : 2 ≤ sizeLine := by decide
  unfold addrs at q
  refine ⟨_, rfl, _, _, _, _, _, rfl, B.ob, T.k_Board, T.n_Board_registers, BoardF_registers, _, _, rfl, B.get_sp, ?_⟩
  refine ⟨_, rfl, _, _, rfl, .inl (T.l_READING _), rfl, rfl, _, rfl, iteIn hk _ [2, 4, 5, 6, 7] (by decide +kernel) (fun h1 => ?_) (fun h1 => ?_)⟩
  · rw [if_pos (by simpa using h1)] at q
    exact ⟨_, rfl, s1, fun l1 n1 => ⟨s0, fun l2 n2 => ⟨s2, fun t nt => pair_new B (Kp.refl _ _) [x] [] n1 n2 nt q⟩⟩⟩
  rw [if_neg (by simpa using h1)] at q
  refine ⟨_, rfl, rfl, _, rfl, iteNm hk 3 (h1 := fun h2 => ?_) (h2 := fun h2 => ?_)⟩
  · rw [if_pos h2] at q
    exact ⟨s0, fun l1 n1 => ⟨_, rfl, s1, fun l2 n2 => ⟨s2, fun t nt => pair_new B (Kp.refl _ _) [] [x] n1 n2 nt q⟩⟩⟩
  rw [if_neg h2] at q
  refine ⟨_, rfl, rfl, _, rfl, iteNm hk 8 (h1 := fun h3 => ?_) (h2 := fun h3 => ?_)⟩
  · rw [if_pos h3] at q
    exact ⟨_, rfl, _, rfl, _, _, _, _, _, rfl, B.ob, T.k_Board, T.n_Board_registers, BoardF_registers, _, _, rfl, B.get_b, _, _, rfl, rfl, s1, fun l1 n1 => ⟨s0, fun l2 n2 => ⟨s2, fun t nt => pair_new B (Kp.refl _ _) [x + D.b] [] n1 n2 nt q⟩⟩⟩
  rw [if_neg h3] at q
  refine ⟨_, rfl, rfl, _, rfl, iteNm hk 9 (h1 := fun h4 => ?_) (h2 := fun h4 => ?_)⟩
  · rw [if_pos h4] at q
    refine ⟨s0, fun l1 n1 => ?_⟩
    have B1 : BoardAt K _ A D := B.new (o := .lst (([] : List Int).map V.int)) n1
    exact ⟨_, rfl, _, rfl, _, _, _, _, _, rfl, B1.ob, T.k_Board, T.n_Board_registers, BoardF_registers, _, _, rfl, B1.get_b, _, _, rfl, rfl, s1, fun l2 n2 => ⟨s2, fun t nt => pair_new B (Kp.refl _ _) [] [x + D.b] n1 n2 nt q⟩⟩
  rw [if_neg h4] at q
  refine ⟨_, rfl, s2, fun u1 nu1 => ⟨_, _, rfl, .inr (SqT.of upd_same), rfl, rfl, _, rfl, iteIn hk _ [15, 17] (by decide +kernel) (fun h5 => ?_) (fun h5 => ?_)⟩⟩
  · rw [if_pos (by simpa using h5)] at q
    exact ⟨s0, fun l1 n1 => ⟨_, rfl, s1, fun l2 n2 => ⟨s2, fun t nt => pair_new (B.new nu1) (Kp.new nu1) [] [D.sp] n1 n2 nt q⟩⟩⟩
  rw [if_neg (by simpa using h5)] at q
  have B1 : BoardAt K _ A D := B.new (o := .tup [.str "call", .str "push"]) nu1
  have k1 : Kp A.own A.own H _ := Kp.new (o := .tup [.str "call", .str "push"]) nu1
  refine ⟨_, rfl, s2, fun u2 nu2 => ⟨_, _, rfl, .inr (SqT.of upd_same), rfl, rfl, _, rfl, iteIn hk _ [16, 18] (by decide +kernel) (fun h6 => ?_) (fun h6 => ?_)⟩⟩
  · rw [if_pos (by simpa using h6)] at q
    exact ⟨_, rfl, _, _, rfl, rfl, s1, fun l1 n1 => ⟨s0, fun l2 n2 => ⟨s2, fun t nt => pair_new (B1.new nu2) (k1.trans (Kp.new nu2)) [D.sp + 1] [] n1 n2 nt q⟩⟩⟩
  rw [if_neg (by simpa using h6)] at q
  have B2 : BoardAt K _ A D := B1.new (o := .tup [.str "ret", .str "pop"]) nu2
  have k2 : Kp A.own A.own H _ := k1.trans (Kp.new (o := .tup [.str "ret", .str "pop"]) nu2)
  refine ⟨_, rfl, rfl, _, rfl, iteNm hk 21 (h1 := fun h7 => ?_) (h2 := fun h7 => ?_)⟩
  · rw [if_pos h7] at q
    exact ⟨_, rfl, _, _, rfl, rfl, _, rfl, _, _, rfl, rfl, s2, fun l1 n1 => ⟨s0, fun l2 n2 => ⟨s2, fun t nt => pair_new B2 k2 [D.sp + 1, D.sp + 2] [] n1 n2 nt q⟩⟩⟩
  · rw [if_neg h7] at q
    exact ⟨s0, fun l1 n1 => ⟨s0, fun l2 n2 => ⟨s2, fun t nt => pair_new B2 k2 [] [] n1 n2 nt q⟩⟩⟩
def sp_Board_bar_of (K : PySem.W.Frag) : Sp := fun vs H Q E_ => ∃ (A : BA) (D : BD) (l1 l2 : Addr) (r p : List Int), vs = [.ref A.p, .ref l1, .ref l2] ∧ (BoardAt K H A D ∧ H l1 = some (.lst (r.map V.int)) ∧ H l2 = some (.lst (p.map V.int)) ∧ ∀ H' v, Kp A.own A.own H H' → BoardAt K H' A D → (match barOf D.m D.pc r p with | none => v = V.non | some xs => ∃ t, v = .ref t ∧ H' t = some (.tup xs)) → Q v H')
abbrev N_Board_bar_of : List Str := ["self", "reads", "puts", "address", "bar"]
theorem sc_Board_bar_of : FnScope N_Board_bar_of ["self", "reads", "puts"] (defScope s_Board_bar_of) := ⟨rfl, rfl, rfl, by decide +kernel, rfl, by decide +kernel, by decide +kernel⟩
theorem ok_Board_bar_of (T : Txt K mg) : Ok P w K mg base CX0 2 (He.fAd K ("Board", some "bar_of")) ["self", "reads", "puts"] (sp_Board_bar_of K) := by
  obtain ⟨_, G_Memory_word_at, b_Memory_word_at, kp_Memory_word_at⟩ := ok_Memory_word_at (P := P) (w := w) (base := base) T
  obtain ⟨_, G_Memory_bar_to, b_Memory_bar_to, kp_Memory_bar_to⟩ := ok_Memory_bar_to (P := P) (w := w) (base := base) T
  obtain ⟨fd, F⟩ := T.d_Board_bar_of
  refine ⟨fd, F.ok sc_Board_bar_of (fun vs H Q E h => by obtain ⟨A, D, l1, l2, r, p, rfl, _⟩ := h; rfl) (fun cdv A_ outer s_ H vs Q E hr h => ?_), F.bindsN (fun _ _ _ _ _ _ us hl => match us, hl with | [_, _, _], _ => rfl), F.kp⟩
  obtain ⟨A, D, l1, l2, r, p, rfl, h⟩ := h
  have hu := hu_of hr
  refine ⟨_, PSs.nox (pss_cons (ps_for PassesOwn.never rfl (pi_list (pv 1)) (pg_name (i := 3) sc_Board_bar_of.nd rfl (.inl rfl)) (pss_one (ps_if (pt_cmpR op_isN (pe_meth (pe_fld (pv 0) rfl) T.k_Memory T.m_Memory_word_at G_Memory_word_at (hr.mono (by decide)) b_Memory_word_at .nil pass0 (pa_cons (pv 3) pa_nil)) pe_non (nomark _)) (pss_one (ps_ret (pe_tup (pa_cons pe_str (pa_cons (pe_dget hu (pe_fld (pv 0) rfl) pe_str (fun _ _ => rfl)) (pa_cons (pv 3) pa_nil)))))) pss_nil)))
  (pss_cons (ps_for PassesOwn.never rfl (pi_list (pv 2)) (pg_name (i := 3) sc_Board_bar_of.nd rfl (.inl rfl)) (pss_cons (ps_set (i := 4) sc_Board_bar_of.nd rfl (.inl rfl) (pe_meth (pe_fld (pv 0) rfl) T.k_Memory T.m_Memory_bar_to G_Memory_bar_to (hr.mono (by decide)) b_Memory_bar_to .nil pass0 (pa_cons (pv 3) pa_nil)))
    (pss_one (ps_if (pt_cmpR op_notN (pv 4) pe_non (nomark _)) (pss_one (ps_ret (pe_tup (pa_cons (pv 4) (pa_cons (pe_dget hu (pe_fld (pv 0) rfl) pe_str (fun _ _ => rfl)) (pa_cons (pv 3) pa_nil)))))) pss_nil))))
  (pss_one (ps_ret pe_non)))), ?_⟩
  obtain ⟨B, h1, h2, q⟩ := h
  have s3 : 3 ≤ sizeLine := by decide
  unfold barOf at q
  refine ⟨_, rfl, _, rfl, ⟨_, SqL.of h1⟩, for_list (K := K) (a := l1) (xs := r.map V.int) (fun i σ H' => ∃ v, σ = [some (.ref A.p), some (.ref l1), some (.ref l2), v, none] ∧ H' = H ∧ barR D.m D.pc r = barR D.m D.pc (r.drop i)) ⟨_, rfl, rfl, rfl⟩ (fun i σ H' _ ⟨_, _, e, _⟩ => by rw [e]; exact SqL.of h1) ?_ ?_⟩
  · rintro i y σ H1 hi ⟨v, rfl, rfl, e⟩
    rw [List.getElem?_map] at hi
    cases hz : r[i]? with
    | none => rw [hz] at hi; cases hi
    | some z =>
      rw [hz] at hi
      have ey : y = .int z := (Option.some.inj hi).symm
      subst ey
      have hil := (List.getElem?_eq_some_iff.mp hz).1
      have ed : r.drop i = z :: r.drop (i + 1) := by
        rw [List.drop_eq_getElem_cons hil]
        congr 1
        exact (List.getElem?_eq_some_iff.mp hz).2
      rw [ed, show barR D.m D.pc (z :: r.drop (i + 1)) = if (D.m.at z).isNone = true then some [.str "far", .int D.pc, .int z] else barR D.m D.pc (r.drop (i + 1)) from rfl] at e
      refine ⟨_, rfl, _, _, _, _, _, rfl, B.ob, T.k_Board, T.n_Board_memory, BoardF_memory, _, _, _, rfl, B.mem.ob, (by kernel_rfl), _, rfl, _, _, _, rfl, B.mem, rfl, _, rfl, iteOptI (fun g => ?_) (fun n g => ?_)⟩
      · rw [g, if_pos (show (none : Option Int).isNone = true from rfl)] at e
        rw [e] at q
        refine ⟨_, rfl, _, _, _, _, _, rfl, B.ob, T.k_Board, T.n_Board_registers, BoardF_registers, _, _, rfl, B.get_pc, _, rfl, s3, fun t nt => ?_⟩
        exact q _ _ (Kp.new nt) (B.new nt) ⟨t, rfl, upd_same⟩
      · rw [g, if_neg (by simp)] at e
        exact ⟨_, rfl, rfl, e⟩
  · rintro σ H1 ⟨v, rfl, rfl, e⟩
    rw [List.length_map, List.drop_length] at e
    rw [e, show barR D.m D.pc [] = none from rfl] at q
    refine ⟨_, rfl, _, rfl, ⟨_, SqL.of h2⟩, for_list (K := K) (a := l2) (xs := p.map V.int) (fun i σ H' => ∃ v u, σ = [some (.ref A.p), some (.ref l1), some (.ref l2), v, u] ∧ H' = H1 ∧ barP D.pc p = barP D.pc (p.drop i)) ⟨_, _, rfl, rfl, rfl⟩ (fun i σ H' _ ⟨_, _, _, e, _⟩ => by rw [e]; exact SqL.of h2) ?_ ?_⟩
    · rintro i y σ H2 hi ⟨v, u, rfl, rfl, e⟩
      rw [List.getElem?_map] at hi
      cases hz : p[i]? with
      | none => rw [hz] at hi; cases hi
      | some z =>
        rw [hz] at hi
        have ey : y = .int z := (Option.some.inj hi).symm
        subst ey
        have hil := (List.getElem?_eq_some_iff.mp hz).1
        have ed : p.drop i = z :: p.drop (i + 1) := by
          rw [List.drop_eq_getElem_cons hil]
          congr 1
          exact (List.getElem?_eq_some_iff.mp hz).2
        rw [ed, show barP D.pc (z :: p.drop (i + 1)) = match barTo z with | some b => some [.str b.s, .int D.pc, .int z] | none => barP D.pc (p.drop (i + 1)) from rfl] at e
        refine ⟨_, rfl, _, _, _, _, _, rfl, B.ob, T.k_Board, T.n_Board_memory, BoardF_memory, _, _, _, rfl, B.mem.ob, (by kernel_rfl), _, rfl, _, _, rfl, ⟨_, B.mem⟩, ?_⟩
        refine ⟨_, rfl, rfl, _, rfl, iteOptN (fun b g => ?_) (fun g => ?_)⟩
        · rw [g] at e
          simp only [] at e
          rw [e] at q
          refine ⟨_, rfl, _, rfl, _, _, _, _, _, rfl, B.ob, T.k_Board, T.n_Board_registers, BoardF_registers, _, _, rfl, B.get_pc, _, rfl, s3, fun t nt => ?_⟩
          exact q _ _ (Kp.new nt) (B.new nt) ⟨t, rfl, by rw [g]; exact upd_same⟩
        · rw [g] at e
          exact ⟨_, _, rfl, rfl, e⟩
    · rintro σ H2 ⟨v, u, rfl, rfl, e⟩
      rw [List.length_map, List.drop_length] at e
      rw [e, show barP D.pc [] = none from rfl] at q
      exact q _ _ (Kp.refl _ _) B rfl
end

theorem BoardAt.as {K : PySem.W.Frag} {H : Hp} {A1 : BA} {D : BD} {p : Addr} (B : BoardAt K H A1 D) (e : A1.p = p) : BoardAt K H { A1 with p := p } D := by subst e; exact B
theorem Kp.as {S : List Addr} {H H' : Hp} {A1 : BA} {p : Addr} (k : Kp S A1.own H H') (e : A1.p = p) : Kp S ({ A1 with p := p } : BA).own H H' := by subst e; exact k
theorem decI {a b : Int} : decide (V.int a = V.int b) = decide (a = b) := by
  by_cases h : a = b
  · rw [decide_eq_true h, decide_eq_true (congrArg V.int h)]
  · rw [decide_eq_false h, decide_eq_false fun z => h (V.int.inj z)]
theorem at_last {ws : List Int} (h : ws ≠ []) : atI (ws.map V.int) (-1) = some (.int (ws.getLastD 0)) := by
  obtain ⟨r, y, rfl⟩ : ∃ r y, ws = r ++ [y] := ⟨_, _, (List.dropLast_concat_getLast h).symm⟩
  have e2 : (r ++ [y]).getLastD 0 = y := by rw [List.getLastD_eq_getLast?, List.getLast?_concat]; rfl
  rw [e2, List.map_append]
  exact atI_last (r.map V.int) (.int y)
theorem at_head {ws : List Int} (h : ws ≠ []) : atI (ws.map V.int) 0 = some (.int (ws.headD 0)) := by
  cases ws with
  | nil => exact absurd rfl h
  | cons x r => exact atI_nat (j := 0) rfl
section
variable {P : Program} {w : World} {K : PySem.W.Frag} {mg : Str → Option Value} {base : Heap}
def sp_Board_do_putting (K : PySem.W.Frag) : Sp := fun vs H Q E_ => ∃ (A : BA) (D : BD) (k : Nat) (x i : Int), vs = [.ref A.p, .str (nameS k), .int x, .int i] ∧ (BoardAt K H A D ∧ k < 23 ∧ barTo i = none ∧ D.tc.length < 1000 ∧ D.sent.length < 1000000 ∧ ∀ H' A', BoardAt K H' A' (D.putting k x i) → A'.p = A.p → Kp A.own A'.own H H' → Q .non H')
abbrev N_Board_do_putting : List Str := ["self", "name", "part", "address"]
theorem sc_Board_do_putting : FnScope N_Board_do_putting ["self", "name", "part", "address"] (defScope s_Board_do_putting) := ⟨rfl, rfl, rfl, by decide +kernel, rfl, by decide +kernel, by decide +kernel⟩
theorem ok_Board_do_putting (T : Txt K mg) : Ok P w K mg base CX0 3 (He.fAd K ("Board", some "do_putting")) ["self", "name", "part", "address"] (sp_Board_do_putting K) := by
  obtain ⟨_, G_Board_store, b_Board_store, kp_Board_store⟩ := ok_Board_store (P := P) (w := w) (base := base) T
  obtain ⟨fd, F⟩ := T.d_Board_do_putting
  refine ⟨fd, F.ok sc_Board_do_putting (fun vs H Q E h => by obtain ⟨A, D, k, x, i, rfl, _⟩ := h; rfl) (fun cdv A_ outer s_ H vs Q E hr h => ?_), F.bindsN (fun _ _ _ _ _ _ us hl => match us, hl with | [_, _, _, _], _ => rfl), F.kp⟩
  obtain ⟨A, D, k, x, i, rfl, h⟩ := h
  have hu := hu_of hr
  refine ⟨_, PSs.nox (C8.pss_cut (ps_if (pt_cmpR op_eq (pv 1) pe_str (nomark _)) (pss_cons (ps_expr (pe_meth (pv 0) T.k_Board T.m_Board_store G_Board_store (hr.mono (by decide)) b_Board_store .nil pass0 (pa_cons (pv 3) (pa_cons (pe_dget hu (pe_fld (pv 0) rfl) pe_str (fun _ _ => rfl)) pa_nil))))
    (pss_one (ps_dput hu (pe_fld (pv 0) rfl) pe_str (pv 2) rfl))) (pss_one (ps_expr (pe_meth (pv 0) T.k_Board T.m_Board_store G_Board_store (hr.mono (by decide)) b_Board_store .nil pass0 (pa_cons (pv 3) (pa_cons (pe_dget hu (pe_fld (pv 0) rfl) pe_str (fun _ _ => rfl)) pa_nil))))))
  (pss_one (ps_if (pt_cmpR op_in_seq (pv 1) (pe_tup (pa_cons pe_str (pa_cons pe_str pa_nil))) (by rfl)) (pss_one (ps_dput hu (pe_fld (pv 0) rfl) pe_str (pe_op op_sub (pv 3) pe_int) rfl)) pss_nil))), ?_⟩
  obtain ⟨B, hk, hb, hl, hs, q⟩ := h
  have s2 : 2 ≤ sizeLine := by decide
  unfold BD.putting at q
  refine ⟨fun σ' H1 => σ' = [some (.ref A.p), some (.str (nameS k)), some (.int x), some (.int i)] ∧ ∃ A1 : BA, A1.p = A.p ∧ BoardAt K H1 A1 (if k = 15 then { D.store i D.pc with pc := x } else D.store i D.a) ∧ Kp A.own A1.own H H1, ?_, ?_⟩
  · refine ⟨_, rfl, rfl, _, rfl, iteNm hk 15 (h1 := fun h1 => ?_) (h2 := fun h1 => ?_)⟩
    · refine ⟨_, rfl, _, _, _, rfl, B.ob, (by kernel_rfl), _, rfl, _, rfl, _, _, _, _, _, rfl, B.ob, T.k_Board, T.n_Board_registers, BoardF_registers, _, _, rfl, B.get_pc, _, _, _, _, rfl, B, hb, hl, hs, fun H1 A1 B1 e1 k1 => ?_⟩
      replace B1 := B1.as e1
      replace k1 := k1.as e1
      refine ⟨_, rfl, _, rfl, _, _, _, _, _, rfl, B1.ob, T.k_Board, T.n_Board_registers, BoardF_registers, _, _, rfl, B1.put_pc _, B1.goRg fun H2 B2 k2 => ?_⟩
      rw [if_pos h1]
      exact ⟨rfl, { A1 with p := A.p }, rfl, B2, k1.trans k2⟩
    · refine ⟨_, rfl, _, _, _, rfl, B.ob, (by kernel_rfl), _, rfl, _, rfl, _, _, _, _, _, rfl, B.ob, T.k_Board, T.n_Board_registers, BoardF_registers, _, _, rfl, B.get_a, _, _, _, _, rfl, B, hb, hl, hs, fun H1 A1 B1 e1 k1 => ?_⟩
      rw [if_neg h1]
      exact ⟨rfl, A1, e1, B1, k1⟩
  · rintro σ' H1 ⟨rfl, A1, e1, B1, k1⟩
    replace B1 := B1.as e1
    replace k1 := k1.as e1
    refine ⟨_, rfl, s2, fun u1 nu1 => ⟨_, _, rfl, .inr (SqT.of upd_same), rfl, rfl, _, rfl, iteIn hk _ [15, 17] (by decide +kernel) (fun h5 => ?_) (fun h5 => ?_)⟩⟩
    · rw [if_pos (c := k = 15 ∨ k = 17) (by simpa using h5)] at q
      have B2 := B1.new (o := .tup [.str "call", .str "push"]) nu1
      have k2 := Kp.new (S := ({ A1 with p := A.p } : BA).own) (o := .tup [.str "call", .str "push"]) nu1
      refine ⟨_, rfl, _, _, rfl, rfl, _, rfl, _, _, _, _, _, rfl, B2.ob, T.k_Board, T.n_Board_registers, BoardF_registers, _, _, rfl, B2.put_sp _, B2.goRg fun H3 B3 k3 => ?_⟩
      exact q _ _ B3 rfl (k1.trans (k2.trans k3))
    · rw [if_neg (c := k = 15 ∨ k = 17) (by simpa using h5)] at q
      exact q _ _ (B1.new (o := .tup [.str "call", .str "push"]) nu1) rfl (k1.trans (Kp.new nu1))
def sp_Board_do_returning (K : PySem.W.Frag) : Sp := fun vs H Q E_ => ∃ (A : BA) (D : BD) (k : Nat) (l : Addr) (ws : List Int), vs = [.ref A.p, .str (nameS k), .ref l] ∧ (BoardAt K H A D ∧ k < 23 ∧ H l = some (.lst (ws.map V.int)) ∧ l ∉ A.own ∧ ws ≠ [] ∧ ∀ H', BoardAt K H' A (D.returning k ws) → Kp A.own A.own H H' → Q .non H')
abbrev N_Board_do_returning : List Str := ["self", "name", "words"]
theorem sc_Board_do_returning : FnScope N_Board_do_returning ["self", "name", "words"] (defScope s_Board_do_returning) := ⟨rfl, rfl, rfl, by decide +kernel, rfl, by decide +kernel, by decide +kernel⟩
theorem ok_Board_do_returning (T : Txt K mg) : Ok P w K mg base CX0 1 (He.fAd K ("Board", some "do_returning")) ["self", "name", "words"] (sp_Board_do_returning K) := by
  obtain ⟨fd, F⟩ := T.d_Board_do_returning
  refine ⟨fd, F.ok sc_Board_do_returning (fun vs H Q E h => by obtain ⟨A, D, k, l, ws, rfl, _⟩ := h; rfl) (fun cdv A_ outer s_ H vs Q E hr h => ?_), F.bindsN (fun _ _ _ _ _ _ us hl => match us, hl with | [_, _, _], _ => rfl), F.kp⟩
  obtain ⟨A, D, k, l, ws, rfl, h⟩ := h
  have hu := hu_of hr
  refine ⟨_, PSs.nox (pss_cons (ps_dput hu (pe_fld (pv 0) rfl) pe_str (pe_op op_add (pe_dget hu (pe_fld (pv 0) rfl) pe_str (fun _ _ => rfl)) (pe_callB call_len_seq (by rfl) T.f_len PySem.boot_len (pa_cons (pv 2) pa_nil))) rfl)
  (pss_cons (ps_dput hu (pe_fld (pv 0) rfl) pe_str (pe_ix ix_list (pv 2) (pe_un un_neg pe_int) (fun _ _ => rfl)) rfl)
  (pss_one (ps_if (pt_cmpR op_eq (pv 1) pe_str (nomark _)) (pss_cons (ps_fld (pv 0) (pe_cmpR op_eq (pe_op op_mod (pe_ix ix_list (pv 2) pe_int (fun _ _ => rfl)) pe_int) pe_int (nomark _)) rfl)
    (pss_one (ps_fld (pv 0) pe_bl rfl))) pss_nil)))), ?_⟩
  obtain ⟨B, hk, hl, nl, hw, q⟩ := h
  unfold BD.returning at q
  refine ⟨_, rfl, _, _, _, _, _, rfl, B.ob, T.k_Board, T.n_Board_registers, BoardF_registers, _, _, rfl, B.get_sp, _, rfl, _, _, rfl, .inl (SqL.of hl), _, _, rfl, rfl, _, rfl, _, _, _, _, _, rfl, B.ob, T.k_Board, T.n_Board_registers, BoardF_registers, _, _, rfl, B.put_sp _, B.goRg fun H1 B1 k1 => ?_⟩
  have hl1 := k1.kept _ _ hl nl
  refine ⟨_, rfl, _, rfl, _, _, _, _, rfl, rfl, SqL.of hl1, at_last hw, _, rfl, _, _, _, _, _, rfl, B1.ob, T.k_Board, T.n_Board_registers, BoardF_registers, _, _, rfl, B1.put_pc _, B1.goRg fun H2 B2 k2 => ?_⟩
  have hl2 := k2.kept _ _ hl1 nl
  have ez : ((ws.map V.int).length : Int) = (ws.length : Int) := by rw [List.length_map]
  rw [ez] at B2
  refine ⟨_, rfl, rfl, _, rfl, iteNm hk 21 (h1 := fun h1 => ?_) (h2 := fun h1 => ?_)⟩
  · rw [if_pos h1] at q
    refine ⟨_, rfl, _, _, _, _, rfl, rfl, SqL.of hl2, at_head hw, _, _, rfl, rfl, (by show (0 : Int) < 2; decide), rfl, _, rfl, _, _, _, _, rfl, B2.ob, T.k_Board, T.n_Board_zero, BoardF_len, B2.goZero fun H3 B3 k3 => ?_⟩
    refine ⟨_, rfl, _, _, _, _, rfl, B3.ob, T.k_Board, T.n_Board_lets, BoardF_len, B3.goLets fun H4 B4 k4 => ?_⟩
    rw [decI] at B4
    exact q _ B4 (k1.trans (k2.trans (k3.trans k4)))
  · rw [if_neg h1] at q
    exact q _ B2 (k1.trans k2)
def sp_Board_do_reckoning (K : PySem.W.Frag) : Sp := fun vs H Q E_ => ∃ (A : BA) (D : BD) (k : Nat) (x : Int) (l : Addr) (ws : List Int), vs = [.ref A.p, .str (nameS k), .int x, .ref l] ∧ (BoardAt K H A D ∧ k < 23 ∧ H l = some (.lst (ws.map V.int)) ∧ l ∉ A.own ∧ (k ∈ [2, 8, 18, 4, 5, 6, 7] → ws ≠ []) ∧ ∀ H', BoardAt K H' A (D.reckoning k x ws) → Kp A.own A.own H H' → Q .non H')
abbrev N_Board_do_reckoning : List Str := ["self", "name", "part", "words", "a"]
theorem sc_Board_do_reckoning : FnScope N_Board_do_reckoning ["self", "name", "part", "words"] (defScope s_Board_do_reckoning) := ⟨rfl, rfl, rfl, by decide +kernel, rfl, by decide +kernel, by decide +kernel⟩
theorem ok_Board_do_reckoning (T : Txt K mg) : Ok P w K mg base CX0 1 (He.fAd K ("Board", some "do_reckoning")) ["self", "name", "part", "words"] (sp_Board_do_reckoning K) := by
  obtain ⟨fd, F⟩ := T.d_Board_do_reckoning
  refine ⟨fd, F.ok sc_Board_do_reckoning (fun vs H Q E h => by obtain ⟨A, D, k, x, l, ws, rfl, _⟩ := h; rfl) (fun cdv A_ outer s_ H vs Q E hr h => ?_), F.bindsN (fun _ _ _ _ _ _ us hl => match us, hl with | [_, _, _, _], _ => rfl), F.kp⟩
  obtain ⟨A, D, k, x, l, ws, rfl, h⟩ := h
  have hu := hu_of hr
  refine ⟨_, PSs.nox (pss_cons (ps_set (i := 4) sc_Board_do_reckoning.nd rfl (.inl rfl) (pe_dget hu (pe_fld (pv 0) rfl) pe_str (fun _ _ => rfl)))
  (C8.pss_cut (ps_if (pt_cmpR op_eq (pv 1) pe_str (nomark _)) (pss_one (ps_set (i := 4) sc_Board_do_reckoning.nd rfl (.inl rfl) (pv 2))) (pss_one (ps_if (pt_cmpR op_in_seq (pv 1) (pe_tup (pa_cons pe_str (pa_cons pe_str (pa_cons pe_str pa_nil)))) (by rfl)) (pss_one (ps_set (i := 4) sc_Board_do_reckoning.nd rfl (.inl rfl) (pe_ix ix_list (pv 3) pe_int (fun _ _ => rfl)))) (pss_one (ps_if (pt_cmpR op_eq (pv 1) pe_str (nomark _)) (pss_one (ps_set (i := 4) sc_Board_do_reckoning.nd rfl (.inl rfl) (pe_op op_mod (pe_op op_add (pv 4) (pe_ix ix_list (pv 3) pe_int (fun _ _ => rfl))) pe_int))) (pss_one (ps_if (pt_cmpR op_eq (pv 1) pe_str (nomark _)) (pss_one (ps_set (i := 4) sc_Board_do_reckoning.nd rfl (.inl rfl) (pe_op op_mod (pe_op op_sub (pv 4) (pe_ix ix_list (pv 3) pe_int (fun _ _ => rfl))) pe_int))) (pss_one (ps_if (pt_cmpR op_eq (pv 1) pe_str (nomark _)) (pss_one (ps_set (i := 4) sc_Board_do_reckoning.nd rfl (.inl rfl) (pe_op op_and (pv 4) (pe_ix ix_list (pv 3) pe_int (fun _ _ => rfl))))) (pss_one (ps_if (pt_cmpR op_eq (pv 1) pe_str (nomark _)) (pss_one (ps_set (i := 4) sc_Board_do_reckoning.nd rfl (.inl rfl) (pe_op op_xor (pv 4) (pe_ix ix_list (pv 3) pe_int (fun _ _ => rfl))))) (pss_one (ps_if (pt_cmpR op_eq (pv 1) pe_str (nomark _)) (pss_one (ps_set (i := 4) sc_Board_do_reckoning.nd rfl (.inl rfl) (pe_op op_fdiv (pv 4) pe_int))) (pss_cons (ps_set (i := 4) sc_Board_do_reckoning.nd rfl (.inl rfl) (pe_dget hu (pe_fld (pv 0) rfl) pe_str (fun _ _ => rfl)))
                (pss_one (ps_dput hu (pe_fld (pv 0) rfl) pe_str (pe_dget hu (pe_fld (pv 0) rfl) pe_str (fun _ _ => rfl)) rfl))))))))))))))))
  (pss_cons (ps_dput hu (pe_fld (pv 0) rfl) pe_str (pv 4) rfl)
  (pss_one (ps_if (pt_cmpR op_eq (pv 1) pe_str (nomark _)) (pss_one (ps_dput hu (pe_fld (pv 0) rfl) pe_str (pe_op op_add (pe_dget hu (pe_fld (pv 0) rfl) pe_str (fun _ _ => rfl)) pe_int) rfl)) pss_nil))))), ?_⟩
  obtain ⟨B, hk, hl, nl, hw, q⟩ := h
  have s3 : 3 ≤ sizeLine := by decide
  refine ⟨_, rfl, _, _, _, _, _, rfl, B.ob, T.k_Board, T.n_Board_registers, BoardF_registers, _, _, rfl, B.get_a, fun σ' H1 => σ' = [some (.ref A.p), some (.str (nameS k)), some (.int x), some (.ref l), some (.int (reckA k D.a D.b x (ws.headD 0)))] ∧ BoardAt K H1 A { D with b := if isSwap k = true then D.a else D.b } ∧ Kp A.own A.own H H1, ?_, ?_⟩
  · -- the ways
    have fin : ∀ (H1 : Hp) (z : Int), BoardAt K H1 A D → Kp A.own A.own H H1 → z = reckA k D.a D.b x (ws.headD 0) → isSwap k = false → ([some (.ref A.p), some (.str (nameS k)), some (.int x), some (.ref l), some (.int z)] : L2.St) = [some (.ref A.p), some (.str (nameS k)), some (.int x), some (.ref l), some (.int (reckA k D.a D.b x (ws.headD 0)))] ∧ BoardAt K H1 A { D with b := if isSwap k = true then D.a else D.b } ∧ Kp A.own A.own H H1 := by
      intro H1 z B1 k1 e1 e2
      rw [e1, e2]
      exact ⟨rfl, B1, k1⟩
    refine ⟨_, rfl, rfl, _, rfl, iteNm hk 1 (h1 := fun h1 => ?_) (h2 := fun h1 => ?_)⟩
    · exact ⟨_, rfl, fin _ _ B (Kp.refl _ _) (by rw [h1]; rfl) (by rw [h1]; rfl)⟩
    refine ⟨_, rfl, s3, fun u1 nu1 => ⟨_, _, rfl, .inr (SqT.of upd_same), rfl, rfl, _, rfl, iteIn hk _ [2, 8, 18] (by decide +kernel) (fun h2 => ?_) (fun h2 => ?_)⟩⟩
    · have hn : ws ≠ [] := hw (by simp at h2 ⊢; omega)
      refine ⟨_, rfl, _, _, _, _, rfl, rfl, SqL.of ?_, at_head hn, fin _ _ (B.new nu1) (Kp.new nu1) ?_ ?_⟩
      · rw [upd_ne (ne_of_none hl nu1)]; exact hl
      · simp only [List.mem_cons, List.not_mem_nil, or_false] at h2
        unfold reckA
        rw [if_neg h1, if_pos h2]
      · simp only [List.mem_cons, List.not_mem_nil, or_false] at h2
        rcases h2 with rfl | rfl | rfl <;> rfl
    have B1 : BoardAt K _ A D := B.new (o := .tup [.str "get", .str "getb", .str "pop"]) nu1
    have k1 : Kp A.own A.own H _ := Kp.new (o := .tup [.str "get", .str "getb", .str "pop"]) nu1
    have hl1 := k1.kept _ _ hl nl
    simp only [List.mem_cons, List.not_mem_nil, or_false, not_or] at h2
    refine ⟨_, rfl, rfl, _, rfl, iteNm hk 4 (h1 := fun h3 => ?_) (h2 := fun h3 => ?_)⟩
    · refine ⟨_, rfl, _, rfl, _, _, _, _, rfl, rfl, SqL.of hl1, at_head (hw (by simp [h3])), _, _, rfl, rfl, _, _, rfl, rfl, (by show (0 : Int) < 65536; decide), fin _ _ B1 k1 (by rw [h3]; rfl) (by rw [h3]; rfl)⟩
    refine ⟨_, rfl, rfl, _, rfl, iteNm hk 5 (h1 := fun h4 => ?_) (h2 := fun h4 => ?_)⟩
    · refine ⟨_, rfl, _, rfl, _, _, _, _, rfl, rfl, SqL.of hl1, at_head (hw (by simp [h4])), _, _, rfl, rfl, _, _, rfl, rfl, (by show (0 : Int) < 65536; decide), fin _ _ B1 k1 (by rw [h4]; rfl) (by rw [h4]; rfl)⟩
    refine ⟨_, rfl, rfl, _, rfl, iteNm hk 6 (h1 := fun h5 => ?_) (h2 := fun h5 => ?_)⟩
    · refine ⟨_, rfl, _, rfl, _, _, _, _, rfl, rfl, SqL.of hl1, at_head (hw (by simp [h5])), _, _, rfl, rfl, fin _ _ B1 k1 (by rw [h5]; rfl) (by rw [h5]; rfl)⟩
    refine ⟨_, rfl, rfl, _, rfl, iteNm hk 7 (h1 := fun h6 => ?_) (h2 := fun h6 => ?_)⟩
    · refine ⟨_, rfl, _, rfl, _, _, _, _, rfl, rfl, SqL.of hl1, at_head (hw (by simp [h6])), _, _, rfl, rfl, fin _ _ B1 k1 (by rw [h6]; rfl) (by rw [h6]; rfl)⟩
    refine ⟨_, rfl, rfl, _, rfl, iteNm hk 22 (h1 := fun h7 => ?_) (h2 := fun h7 => ?_)⟩
    · refine ⟨_, rfl, _, _, rfl, rfl, ⟨by decide, by decide⟩, fin _ _ B1 k1 (by rw [h7]; rfl) (by rw [h7]; rfl)⟩
    have es : isSwap k = true := by
      unfold isSwap
      simp only [h1, h2, h3, h4, h5, h6, h7]
      rfl
    have ea : reckA k D.a D.b x (ws.headD 0) = D.b := by
      unfold reckA
      rw [if_neg h1, if_neg (by omega), if_neg h3, if_neg h4, if_neg h5, if_neg h6, if_neg h7]
    refine ⟨_, rfl, _, _, _, _, _, rfl, B1.ob, T.k_Board, T.n_Board_registers, BoardF_registers, _, _, rfl, B1.get_b, _, rfl, _, _, _, _, _, rfl, B1.ob, T.k_Board, T.n_Board_registers, BoardF_registers, _, _, rfl, B1.get_a, _, rfl, _, _, _, _, _, rfl, B1.ob, T.k_Board, T.n_Board_registers, BoardF_registers, _, _, rfl, B1.put_b _, B1.goRg fun H2 B2 k2 => ?_⟩
    rw [ea, es]
    exact ⟨rfl, B2, k1.trans k2⟩
  · rintro σ' H1 ⟨rfl, B1, k1⟩
    unfold BD.reckoning at q
    refine ⟨_, rfl, _, rfl, _, _, _, _, _, rfl, B1.ob, T.k_Board, T.n_Board_registers, BoardF_registers, _, _, rfl, B1.put_a _, B1.goRg fun H2 B2 k2 => ?_⟩
    refine ⟨_, rfl, rfl, _, rfl, iteNm hk 18 (h1 := fun h1 => ?_) (h2 := fun h1 => ?_)⟩
    · rw [if_pos h1] at q
      refine ⟨_, rfl, _, _, _, _, _, rfl, B2.ob, T.k_Board, T.n_Board_registers, BoardF_registers, _, _, rfl, B2.get_sp, _, _, rfl, rfl, _, rfl, _, _, _, _, _, rfl, B2.ob, T.k_Board, T.n_Board_registers, BoardF_registers, _, _, rfl, B2.put_sp _, B2.goRg fun H3 B3 k3 => ?_⟩
      exact q _ B3 (k1.trans (k2.trans k3))
    · rw [if_neg h1] at q
      exact q _ B2 (k1.trans k2)
end

theorem nameV_some {k : Nat} (h : k < 23) : nameV k = .str (nameS k) := if_pos h
theorem nameV_none {k : Nat} (h : ¬ k < 23) : nameV k = .non := if_neg h
theorem eqv_ne_nil (x : Int) (r : List Int) : PyData.eqv (.list ((x :: r).map PyData.int)) (.list ((([] : List Int)).map PyData.int)) = false := by
  rw [eqv_intL]; rfl
section
variable {P : Program} {w : World} {K : PySem.W.Frag} {mg : Str → Option Value} {base : Heap}
def sp_Board_do (K : PySem.W.Frag) : Sp := fun vs H Q E_ => ∃ (A : BA) (D : BD) (k : Nat) (x : Int) (lw lp : Addr) (ws ps : List Int), vs = [.ref A.p, .str (nameS k), .int x, .ref lw, .ref lp] ∧ (BoardAt K H A D ∧ k < 23 ∧ H lw = some (.lst (ws.map V.int)) ∧ H lp = some (.lst (ps.map V.int)) ∧ lw ∉ A.own ∧ lp ∉ A.own ∧ (∀ i ∈ ps, barTo i = none) ∧ D.tc.length < 1000 ∧ D.sent.length < 1000000 ∧ (k ∈ [2, 8, 18, 4, 5, 6, 7] → ws ≠ []) ∧ (k = 16 ∨ k = 21 → ws ≠ []) ∧ ∀ H' A', BoardAt K H' A' (D.doing k x ws ps) → A'.p = A.p → Kp A.own A'.own H H' → Q .non H')
abbrev N_Board_do : List Str := ["self", "name", "part", "words", "puts"]
theorem sc_Board_do : FnScope N_Board_do ["self", "name", "part", "words", "puts"] (defScope s_Board_do) := ⟨rfl, rfl, rfl, by decide +kernel, rfl, by decide +kernel, by decide +kernel⟩
theorem ok_Board_do (T : Txt K mg) : Ok P w K mg base CX0 4 (He.fAd K ("Board", some "do")) ["self", "name", "part", "words", "puts"] (sp_Board_do K) := by
  obtain ⟨_, G_Board_do_putting, b_Board_do_putting, kp_Board_do_putting⟩ := ok_Board_do_putting (P := P) (w := w) (base := base) T
  obtain ⟨_, G_Board_do_returning, b_Board_do_returning, kp_Board_do_returning⟩ := ok_Board_do_returning (P := P) (w := w) (base := base) T
  obtain ⟨_, G_Board_do_reckoning, b_Board_do_reckoning, kp_Board_do_reckoning⟩ := ok_Board_do_reckoning (P := P) (w := w) (base := base) T
  obtain ⟨fd, F⟩ := T.d_Board_do
  refine ⟨fd, F.ok sc_Board_do (fun vs H Q E h => by obtain ⟨A, D, k, x, lw, lp, ws, ps, rfl, _⟩ := h; rfl) (fun cdv A_ outer s_ H vs Q E hr h => ?_), F.bindsN (fun _ _ _ _ _ _ us hl => match us, hl with | [_, _, _, _, _], _ => rfl), F.kp⟩
  obtain ⟨A, D, k, x, lw, lp, ws, ps, rfl, h⟩ := h
  have hu := hu_of hr
  refine ⟨_, PSs.nox (pss_one (ps_if (pt_cmpR (op_neD hr.units) (pv 4) (pe_lst pa_nil) (nomark _)) (pss_one (ps_expr (pe_meth (pv 0) T.k_Board T.m_Board_do_putting G_Board_do_putting (hr.mono (by decide)) b_Board_do_putting .nil pass0 (pa_cons (pv 1) (pa_cons (pv 2) (pa_cons (pe_ix ix_list (pv 4) pe_int (fun _ _ => rfl)) pa_nil)))))) (pss_one (ps_if (pt_cmpR op_in_seq (pv 1) (pe_tup (pa_cons pe_str (pa_cons pe_str (pa_cons pe_str pa_nil)))) (by rfl)) (pss_one (ps_if (PW.pt (pw_or (pt_cmpR op_eq (pv 1) pe_str (nomark _)) (pw_or (PW.pt (pw_and (pt_cmpR op_eq (pv 1) pe_str (nomark _)) (pw_and1 (pt_val (pe_fld (pv 0) rfl))))) (pw_or1 (PW.pt (pw_and (pt_cmpR op_eq (pv 1) pe_str (nomark _)) (pw_and1 (pt_cmpR op_ge (pe_dget hu (pe_fld (pv 0) rfl) pe_str (fun _ _ => rfl)) pe_int (nomark _))))))))) (pss_one (ps_dput hu (pe_fld (pv 0) rfl) pe_str (pv 2) rfl)) pss_nil)) (pss_one (ps_if (pt_cmpR op_in_seq (pv 1) (pe_tup (pa_cons pe_str (pa_cons pe_str pa_nil))) (by rfl)) (pss_one (ps_expr (pe_meth (pv 0) T.k_Board T.m_Board_do_returning G_Board_do_returning (hr.mono (by decide)) b_Board_do_returning .nil pass0 (pa_cons (pv 1) (pa_cons (pv 3) pa_nil))))) (pss_one (ps_if (pt_cmpR op_eq (pv 1) pe_str (nomark _)) (pss_one (ps_dput hu (pe_fld (pv 0) rfl) pe_str (pe_dget hu (pe_fld (pv 0) rfl) pe_str (fun _ _ => rfl)) rfl)) (pss_one (ps_if (pt_cmpR op_eq (pv 1) pe_str (nomark _)) (pss_one (ps_fld (pv 0) pe_bl rfl)) (pss_one (ps_if (pt_cmpR op_eq (pv 1) pe_str (nomark _)) (pss_one (ps_fld (pv 0) (pe_cmpR op_eq (pe_op op_mod (pv 2) pe_int) pe_int (nomark _)) rfl)) (pss_cons (ps_expr (pe_meth (pv 0) T.k_Board T.m_Board_do_reckoning G_Board_do_reckoning (hr.mono (by decide)) b_Board_do_reckoning .nil pass0 (pa_cons (pv 1) (pa_cons (pv 2) (pa_cons (pv 3) pa_nil)))))
              (pss_one (ps_fld (pv 0) (pe_cmpR op_eq (pe_dget hu (pe_fld (pv 0) rfl) pe_str (fun _ _ => rfl)) pe_int (nomark _)) rfl))))))))))))))), ?_⟩
  obtain ⟨B, hk, hlw, hlp, nlw, nlp, hb, hl, hs, hw1, hw2, q⟩ := h
  have s0 : 0 ≤ sizeLine := by decide
  have s2 : 2 ≤ sizeLine := by decide
  have s3 : 3 ≤ sizeLine := by decide
  refine ⟨_, rfl, s0, fun e0 ne0 => ⟨_, _, dpL (SqL.of (by rw [upd_ne (ne_of_none hlp ne0)]; exact hlp)), dpL (xs := []) (SqL.of upd_same), shp_ints _, shp_ints _, _, rfl, ?_⟩⟩
  have B0 : BoardAt K _ A D := B.new (o := .lst []) ne0
  have k0 : Kp A.own A.own H _ := Kp.new (o := .lst []) ne0
  have hlw0 := k0.kept _ _ hlw nlw
  have hlp0 := k0.kept _ _ hlp nlp
  cases ps with
  | cons i r =>
    rw [eqv_ne_nil]
    refine iteT ?_
    refine ⟨_, rfl, _, _, _, rfl, B0.ob, (by kernel_rfl), _, rfl, _, rfl, _, rfl, _, _, _, _, rfl, rfl, SqL.of hlp0, at_head (by simp), _, _, _, _, _, rfl, B0, hk, hb i (by simp), hl, hs, fun H1 A1 B1 e1 k1 => ?_⟩
    exact q _ _ B1 e1 (k0.trans k1)
  | nil =>
    rw [eqv_intL]
    refine iteF ?_
    unfold BD.doing at q
    simp only [] at q
    refine ⟨_, rfl, s3, fun u1 nu1 => ⟨_, _, rfl, .inr (SqT.of upd_same), rfl, rfl, _, rfl, iteIn hk _ [12, 13, 14] (by decide +kernel) (fun h2 => ?_) (fun h2 => ?_)⟩⟩
    · rw [if_pos (c := k = 12 ∨ k = 13 ∨ k = 14) (by simpa using h2)] at q
      have B1 : BoardAt K _ A D := B0.new (o := .tup [.str "go", .str "ifz", .str "ifn"]) nu1
      have k1 : Kp A.own A.own H _ := k0.trans (Kp.new (o := .tup [.str "go", .str "ifz", .str "ifn"]) nu1)
      have qT : (k = 12 ∨ (k = 13 ∧ D.zero = true) ∨ (k = 14 ∧ 32768 ≤ D.a)) → ∀ H1, BoardAt K H1 A { D with pc := x } → Kp A.own A.own H H1 → Q .non H1 := fun c H1 B2 k2 => by
        rw [if_pos c] at q; exact q _ _ B2 rfl k2
      have qF : ¬ (k = 12 ∨ (k = 13 ∧ D.zero = true) ∨ (k = 14 ∧ 32768 ≤ D.a)) → Q .non _ := fun c => by
        rw [if_neg c] at q; exact q _ _ B1 rfl k1
      refine ⟨_, rfl, rfl, _, rfl, iteNm hk 12 (h1 := fun c1 => iteT ?_) (h2 := fun c1 => ?_)⟩
      · exact ⟨_, rfl, _, rfl, _, _, _, _, _, rfl, B1.ob, T.k_Board, T.n_Board_registers, BoardF_registers, _, _, rfl, B1.put_pc _, B1.goRg fun H2 B2 k2 => qT (.inl c1) _ B2 (k1.trans k2)⟩
      refine ⟨_, rfl, rfl, _, rfl, iteNm hk 13 (h1 := fun c2 => ?_) (h2 := fun c2 => iteF ?_)⟩
      · refine ⟨_, rfl, _, _, _, _, _, rfl, B1.ob, T.k_Board, T.n_Board_zero, BoardF_zero, _, rfl, iteBo (fun c3 => iteT ?_) (fun c3 => ?_)⟩
        · exact ⟨_, rfl, _, rfl, _, _, _, _, _, rfl, B1.ob, T.k_Board, T.n_Board_registers, BoardF_registers, _, _, rfl, B1.put_pc _, B1.goRg fun H2 B2 k2 => qT (.inr (.inl ⟨c2, c3⟩)) _ B2 (k1.trans k2)⟩
        · refine ⟨_, rfl, rfl, _, rfl, iteNm hk 14 (h1 := fun c4 => ?_) (h2 := fun c4 => iteF ?_)⟩
          · exact absurd (c2.symm.trans c4) (by decide)
          · exact qF (by rintro (z | ⟨_, z⟩ | ⟨z, _⟩); exact c1 z; rw [c3] at z; cases z; exact c4 z)
      · refine ⟨_, rfl, rfl, _, rfl, iteNm hk 14 (h1 := fun c4 => ?_) (h2 := fun c4 => iteF ?_)⟩
        · refine ⟨_, rfl, _, _, _, _, _, rfl, B1.ob, T.k_Board, T.n_Board_registers, BoardF_registers, _, _, rfl, B1.get_a, _, _, rfl, rfl, _, rfl, iteD (fun c5 => ?_) (fun c5 => ?_)⟩
          · exact ⟨_, rfl, _, rfl, _, _, _, _, _, rfl, B1.ob, T.k_Board, T.n_Board_registers, BoardF_registers, _, _, rfl, B1.put_pc _, B1.goRg fun H2 B2 k2 => qT (.inr (.inr ⟨c4, c5⟩)) _ B2 (k1.trans k2)⟩
          · exact qF (by rintro (z | ⟨z, _⟩ | ⟨_, z⟩); exact c1 z; exact c2 z; exact c5 z)
        · exact qF (by rintro (z | ⟨z, _⟩ | ⟨z, _⟩); exact c1 z; exact c2 z; exact c4 z)
    rw [if_neg (c := k = 12 ∨ k = 13 ∨ k = 14) (by simpa using h2)] at q
    have B1 : BoardAt K _ A D := B0.new (o := .tup [.str "go", .str "ifz", .str "ifn"]) nu1
    have k1 : Kp A.own A.own H _ := k0.trans (Kp.new (o := .tup [.str "go", .str "ifz", .str "ifn"]) nu1)
    have hlw1 := k1.kept _ _ hlw nlw
    refine ⟨_, rfl, s2, fun u2 nu2 => ⟨_, _, rfl, .inr (SqT.of upd_same), rfl, rfl, _, rfl, iteIn hk _ [16, 21] (by decide +kernel) (fun h3 => ?_) (fun h3 => ?_)⟩⟩
    · have h3' : k = 16 ∨ k = 21 := by simpa using h3
      rw [if_pos h3'] at q
      have B2 : BoardAt K _ A D := B1.new (o := .tup [.str "ret", .str "back"]) nu2
      have k2 : Kp A.own A.own H _ := k1.trans (Kp.new (o := .tup [.str "ret", .str "back"]) nu2)
      have hlw2 := k2.kept _ _ hlw nlw
      exact ⟨_, rfl, _, _, _, rfl, B2.ob, (by kernel_rfl), _, rfl, _, rfl, _, _, _, _, _, rfl, B2, hk, hlw2, nlw, hw2 h3', fun H3 B3 k3 => q _ _ B3 rfl (k2.trans k3)⟩
    rw [if_neg (c := k = 16 ∨ k = 21) (by simpa using h3)] at q
    have B2 : BoardAt K _ A D := B1.new (o := .tup [.str "ret", .str "back"]) nu2
    have k2 : Kp A.own A.own H _ := k1.trans (Kp.new (o := .tup [.str "ret", .str "back"]) nu2)
    have hlw2 := k2.kept _ _ hlw nlw
    refine ⟨_, rfl, rfl, _, rfl, iteNm hk 10 (h1 := fun h4 => ?_) (h2 := fun h4 => ?_)⟩
    · rw [if_pos h4] at q
      exact ⟨_, rfl, _, _, _, _, _, rfl, B2.ob, T.k_Board, T.n_Board_registers, BoardF_registers, _, _, rfl, B2.get_a, _, rfl, _, _, _, _, _, rfl, B2.ob, T.k_Board, T.n_Board_registers, BoardF_registers, _, _, rfl, B2.put_b _, B2.goRg fun H3 B3 k3 => q _ _ B3 rfl (k2.trans k3)⟩
    rw [if_neg h4] at q
    refine ⟨_, rfl, rfl, _, rfl, iteNm hk 19 (h1 := fun h5 => ?_) (h2 := fun h5 => ?_)⟩
    · rw [if_pos h5] at q
      exact ⟨_, rfl, _, _, _, _, rfl, B2.ob, T.k_Board, T.n_Board_asleep, BoardF_len, B2.goAsleep fun H3 B3 k3 => q _ _ B3 rfl (k2.trans k3)⟩
    rw [if_neg h5] at q
    refine ⟨_, rfl, rfl, _, rfl, iteNm hk 20 (h1 := fun h6 => ?_) (h2 := fun h6 => ?_)⟩
    · rw [if_pos h6] at q
      rw [← decI] at q
      exact ⟨_, rfl, _, _, rfl, rfl, (by show (0 : Int) < 2; decide), rfl, _, rfl, _, _, _, _, rfl, B2.ob, T.k_Board, T.n_Board_lets, BoardF_len, B2.goLets fun H3 B3 k3 => q _ _ B3 rfl (k2.trans k3)⟩
    rw [if_neg h6] at q
    refine ⟨_, rfl, _, _, _, rfl, B2.ob, (by kernel_rfl), _, rfl, _, rfl, _, rfl, _, _, _, _, _, _, rfl, B2, hk, hlw2, nlw, hw1, fun H3 B3 k3 => ?_⟩
    rw [← decI] at q
    exact ⟨_, rfl, _, _, _, _, _, rfl, B3.ob, T.k_Board, T.n_Board_registers, BoardF_registers, _, _, rfl, B3.get_a, rfl, _, rfl, _, _, _, _, rfl, B3.ob, T.k_Board, T.n_Board_zero, BoardF_len, B3.goZero fun H4 B4 k4 => q _ _ B4 rfl (k2.trans (k3.trans k4))⟩
end

theorem barR_none {M : MD} {pc : Int} : ∀ {l : List Int}, barR M pc l = none → ∀ i ∈ l, ∃ n, M.at i = some n
  | [], _, i, hi => by cases hi
  | a :: r, h, i, hi => by
    rw [show barR M pc (a :: r) = if (M.at a).isNone = true then some [.str "far", .int pc, .int a] else barR M pc r from rfl] at h
    cases e : M.at a with
    | none => rw [e, if_pos (show (none : Option Int).isNone = true from rfl)] at h; cases h
    | some n =>
      rw [e, if_neg (by simp)] at h
      rcases List.mem_cons.mp hi with z | z
      · rw [z]; exact ⟨n, e⟩
      · exact barR_none h i z
theorem barP_none {pc : Int} : ∀ {l : List Int}, barP pc l = none → ∀ i ∈ l, barTo i = none
  | [], _, i, hi => by cases hi
  | a :: r, h, i, hi => by
    rw [show barP pc (a :: r) = match barTo a with | some b => some [.str b.s, .int pc, .int a] | none => barP pc r from rfl] at h
    cases e : barTo a with
    | some b => rw [e] at h; cases h
    | none =>
      rw [e] at h
      rcases List.mem_cons.mp hi with z | z
      · rw [z]; exact e
      · exact barP_none h i z
theorem barOf_none {M : MD} {pc : Int} {r p : List Int} (h : barOf M pc r p = none) : (∀ i ∈ r, ∃ n, M.at i = some n) ∧ ∀ i ∈ p, barTo i = none := by
  unfold barOf at h
  cases e : barR M pc r with
  | some c => rw [e] at h; cases h
  | none => rw [e] at h; exact ⟨barR_none e, barP_none h⟩
theorem BD.fetch_m (D : BD) (i : Int) : (D.fetch i).m = D.m := rfl
theorem BD.fetches_snoc : ∀ (D : BD) (l : List Int) (i : Int), D.fetches (l ++ [i]) = ((D.fetches l).1 ++ [(D.fetches l).2.fetchV i], (D.fetches l).2.fetch i)
  | D, [], i => rfl
  | D, a :: r, i => by
    show (D.fetchV a :: ((D.fetch a).fetches (r ++ [i])).1, ((D.fetch a).fetches (r ++ [i])).2) = _
    rw [BD.fetches_snoc (D.fetch a) r i]
    rfl
theorem BD.fetches_keep : ∀ (D : BD) (l : List Int), (D.fetches l).2.m = D.m ∧ (D.fetches l).2.sent = D.sent ∧ (D.fetches l).2.tc.length = D.tc.length + l.length ∧ (D.fetches l).1.length = l.length
  | D, [] => ⟨rfl, rfl, rfl, rfl⟩
  | D, a :: r => by
    obtain ⟨h1, h2, h3, h4⟩ := BD.fetches_keep (D.fetch a) r
    refine ⟨h1, h2, ?_, ?_⟩
    · show ((D.fetch a).fetches r).2.tc.length = _
      rw [h3, show (D.fetch a).tc = D.tc ++ [(("r" : Str), a)] from rfl, List.length_append]
      simp; omega
    · show (((D.fetch a).fetches r).1).length + 1 = r.length + 1
      rw [h4]
theorem addrs_len (k : Nat) (x b sp : Int) : (addrs k x b sp).1.length + (addrs k x b sp).2.length ≤ 2 := by
  unfold addrs
  repeat' split
  all_goals simp
theorem addrs_reads {k : Nat} {x b sp : Int} (h : k ∈ [2, 8, 18, 4, 5, 6, 7] ∨ k = 16 ∨ k = 21) : (addrs k x b sp).1 ≠ [] := by
  simp only [List.mem_cons, List.not_mem_nil, or_false] at h
  rcases h with (rfl | rfl | rfl | rfl | rfl | rfl | rfl) | rfl | rfl <;> (unfold addrs; simp)
abbrev BA.w (A1 : BA) (p : Addr) : BA := { A1 with p := p }
theorem Kp.cons {S S' : List Addr} {H H' : Hp} (k : Kp S S' H H') (L : Addr) : Kp (L :: S) (L :: S') H H' :=
  ⟨fun b o e n => k.kept b o e fun m => n (List.mem_cons_of_mem _ m), fun b m => by
    rcases List.mem_cons.mp m with z | z
    · rw [z]; exact .inl (by simp)
    · exact (k.own b z).imp (List.mem_cons_of_mem _) id, k.tups⟩
section
variable {P : Program} {w : World} {K : PySem.W.Frag} {mg : Str → Option Value} {base : Heap}
def sp_Board_deed (K : PySem.W.Frag) : Sp := fun vs H Q E_ => ∃ (A : BA) (D : BD), vs = [.ref A.p] ∧ (BoardAt K H A D ∧ (∀ n, D.m.at D.pc = some n → 0 ≤ n) ∧ D.tc.length ≤ 100 ∧ D.sent.length ≤ 999000 ∧ ∀ H' A', BoardAt K H' A' D.deed.2 → A'.p = A.p → Kp A.own A'.own H H' → Q (.str D.deed.1) H')
abbrev N_Board_deed : List Str := ["self", "pc", "word", "name", "part", "reads", "puts", "bar", "address"]
theorem sc_Board_deed : FnScope N_Board_deed ["self"] (defScope s_Board_deed) := ⟨rfl, rfl, rfl, by decide +kernel, rfl, by decide +kernel, by decide +kernel⟩
theorem ok_Board_deed (T : Txt K mg) : Ok P w K mg base CX0 5 (He.fAd K ("Board", some "deed")) ["self"] (sp_Board_deed K) := by
  obtain ⟨_, G_Board_stop, b_Board_stop, kp_Board_stop⟩ := ok_Board_stop (P := P) (w := w) (base := base) T
  obtain ⟨_, G_Memory_word_at, b_Memory_word_at, kp_Memory_word_at⟩ := ok_Memory_word_at (P := P) (w := w) (base := base) T
  obtain ⟨_, G_part_of, b_part_of, kp_part_of⟩ := ok_part_of (P := P) (w := w) (base := base) T
  obtain ⟨_, G_name_of, b_name_of, kp_name_of⟩ := ok_name_of (P := P) (w := w) (base := base) T
  obtain ⟨_, G_Board_addresses, b_Board_addresses, kp_Board_addresses⟩ := ok_Board_addresses (P := P) (w := w) (base := base) T
  obtain ⟨_, G_Board_bar_of, b_Board_bar_of, kp_Board_bar_of⟩ := ok_Board_bar_of (P := P) (w := w) (base := base) T
  obtain ⟨_, G_Board_do, b_Board_do, kp_Board_do⟩ := ok_Board_do (P := P) (w := w) (base := base) T
  obtain ⟨_, G_Board_fetch, b_Board_fetch, kp_Board_fetch⟩ := ok_Board_fetch (P := P) (w := w) (base := base) T
  obtain ⟨_, G_Board_pass_beats, b_Board_pass_beats, kp_Board_pass_beats⟩ := ok_Board_pass_beats (P := P) (w := w) (base := base) T
  obtain ⟨fd, F⟩ := T.d_Board_deed
  refine ⟨fd, F.ok sc_Board_deed (fun vs H Q E h => by obtain ⟨A, D, rfl, _⟩ := h; rfl) (fun cdv A_ outer s_ H vs Q E hr h => ?_), F.bindsN (fun _ _ _ _ _ _ us hl => match us, hl with | [_], _ => rfl), F.kp⟩
  obtain ⟨A, D, rfl, h⟩ := h
  have hu := hu_of hr
  refine ⟨_, PSs.nox (pss_cons (ps_set (i := 1) sc_Board_deed.nd rfl (.inl rfl) (pe_dget hu (pe_fld (pv 0) rfl) pe_str (fun _ _ => rfl)))
  (pss_cons (ps_if (PW.pt (pw_or (pt_cmpR op_lt (pv 1) pe_int (nomark _)) (pw_or1 (pt_cmpR op_ge (pv 1) (gi_ (by rfl) T.c_RAM) (nomark _))))) (pss_one (ps_ret (pe_meth (pv 0) T.k_Board T.m_Board_stop G_Board_stop (hr.mono (by decide)) b_Board_stop .nil pass0 (pa_cons (pe_tup (pa_cons pe_str (pa_cons (pv 1) (pa_cons (pv 1) pa_nil)))) pa_nil)))) pss_nil)
  (pss_cons (ps_set (i := 2) sc_Board_deed.nd rfl (.inl rfl) (pe_meth (pe_fld (pv 0) rfl) T.k_Memory T.m_Memory_word_at G_Memory_word_at (hr.mono (by decide)) b_Memory_word_at .nil pass0 (pa_cons (pv 1) pa_nil)))
  (pss_cons (ps_par (i := 3) (j := 4) (by rfl) sc_Board_deed.nd rfl rfl (by decide) rfl rfl (pa_cons (pe_call G_name_of (hr.mono (by decide)) (by rfl) T.g_name_of kp_name_of b_name_of .nil pass0 (pa_cons (pv 2) pa_nil)) (pa_cons (pe_call G_part_of (hr.mono (by decide)) (by rfl) T.g_part_of kp_part_of b_part_of .nil pass0 (pa_cons (pv 2) pa_nil)) pa_nil)) (by rfl))
  (pss_cons (ps_if (PW.pt (pw_or (pt_cmpR op_isN (pv 3) pe_non (nomark _)) (pw_or1 (pt_cmpR op_eq (pv 3) pe_str (nomark _))))) (pss_one (ps_ret (pe_meth (pv 0) T.k_Board T.m_Board_stop G_Board_stop (hr.mono (by decide)) b_Board_stop .nil pass0 (pa_cons (pe_tup (pa_cons (pe_ix ix_list (pe_lst (pa_cons (pv 3) (pa_cons pe_str pa_nil))) (pe_callTy call_int1 (by rfl) T.f_int (by decide +kernel) (pa_cons (pe_cmpR op_isN (pv 3) pe_non (nomark _)) pa_nil)) (fun _ _ => rfl)) (pa_cons (pv 1) pa_nil))) pa_nil)))) pss_nil)
  (pss_cons (ps_asg (pe_meth (pv 0) T.k_Board T.m_Board_addresses G_Board_addresses (hr.mono (by decide)) b_Board_addresses .nil pass0 (pa_cons (pv 3) (pa_cons (pv 4) pa_nil))) (pg_tup rfl (pgs_cons (pg_name (i := 5) sc_Board_deed.nd rfl (.inl rfl)) (pgs_cons (pg_name (i := 6) sc_Board_deed.nd rfl (.inl rfl)) pgs_nil))))
  (pss_cons (ps_set (i := 7) sc_Board_deed.nd rfl (.inl rfl) (pe_meth (pv 0) T.k_Board T.m_Board_bar_of G_Board_bar_of (hr.mono (by decide)) b_Board_bar_of .nil pass0 (pa_cons (pv 5) (pa_cons (pv 6) pa_nil))))
  (pss_cons (ps_if (pt_cmpR op_notN (pv 7) pe_non (nomark _)) (pss_one (ps_ret (pe_meth (pv 0) T.k_Board T.m_Board_stop G_Board_stop (hr.mono (by decide)) b_Board_stop .nil pass0 (pa_cons (pv 7) pa_nil)))) pss_nil)
  (pss_cons (ps_dput hu (pe_fld (pv 0) rfl) pe_str (pe_op op_add (pv 1) pe_int) rfl)
  (pss_cons (ps_expr (pe_meth (pv 0) T.k_Board T.m_Board_do G_Board_do (hr.mono (by decide)) b_Board_do .nil pass0 (pa_cons (pv 3) (pa_cons (pv 4) (pa_cons (pe_lc (own := [("address", 8)]) (g := gName 8) (tt := tYes) rfl sc_Board_deed.nd (pi_list (pv 5)) (blkOk_by (own := [("address", 8)]) (N := N_Board_deed) (sc := defScope s_Board_deed) (by decide +kernel)) (fun _ _ _ _ _ => pg_name (i := 8) sc_Board_deed.nd rfl (Or.inl rfl)) (fun _ _ _ _ _ => pts_nil) (fun _ _ _ _ _ => (pe_meth (pv 0) T.k_Board T.m_Board_fetch G_Board_fetch (hr.mono (by decide)) b_Board_fetch .nil pass0 (pa_cons (pv 8) pa_nil)))) (pa_cons (pv 6) pa_nil))))))
  (pss_cons (ps_expr (pe_meth (pv 0) T.k_Board T.m_Board_pass_beats G_Board_pass_beats (hr.mono (by decide)) b_Board_pass_beats .nil pass0 (pa_cons (pe_op op_add (pe_op op_add pe_int (pe_callB call_len_seq (by rfl) T.f_len PySem.boot_len (pa_cons (pv 5) pa_nil))) (pe_callB call_len_seq (by rfl) T.f_len PySem.boot_len (pa_cons (pv 6) pa_nil))) pa_nil)))
  (pss_one (ps_ret pe_str))))))))))))), ?_⟩
  obtain ⟨B, hn, ht, hs, q⟩ := h
  have s2 : 2 ≤ sizeLine := by decide
  have s3 : 3 ≤ sizeLine := by decide
  unfold BD.deed at q
  refine ⟨_, rfl, _, _, _, _, _, rfl, B.ob, T.k_Board, T.n_Board_registers, BoardF_registers, _, _, rfl, B.get_pc, ?_⟩
  refine ⟨_, rfl, _, _, rfl, rfl, _, rfl, iteD (fun h1 => iteT ?_) (fun h1 => ?_)⟩
  · rw [if_pos (.inl h1)] at q
    refine ⟨_, rfl, _, _, _, rfl, B.ob, (by kernel_rfl), _, rfl, _, rfl, s3, fun t nt => ⟨_, _, t, _, rfl, B.new nt, upd_same, fun H1 A1 B1 e1 k1 => q _ _ B1 e1 ((Kp.new nt).trans k1)⟩⟩
  refine ⟨_, rfl, _, _, rfl, rfl, _, rfl, iteD (fun h2 => ?_) (fun h2 => ?_)⟩
  · rw [if_pos (.inr h2)] at q
    refine ⟨_, rfl, _, _, _, rfl, B.ob, (by kernel_rfl), _, rfl, _, rfl, s3, fun t nt => ⟨_, _, t, _, rfl, B.new nt, upd_same, fun H1 A1 B1 e1 k1 => q _ _ B1 e1 ((Kp.new nt).trans k1)⟩⟩
  rw [if_neg (by omega)] at q
  refine ⟨_, rfl, _, _, _, _, _, rfl, B.ob, T.k_Board, T.n_Board_memory, BoardF_memory, _, _, _, rfl, B.mem.ob, (by kernel_rfl), _, rfl, _, _, _, rfl, B.mem, ?_⟩
  cases eW : D.m.at D.pc with
  | none =>
    exfalso
    unfold MD.at at eW
    rw [if_neg (by omega)] at eW
    split at eW
    · rw [List.getElem?_eq_none_iff, B.mem.lf] at eW; omega
    · rw [if_pos (by omega), List.getElem?_eq_none_iff, B.mem.lr] at eW; omega
  | some n =>
  have h0 : 0 ≤ n := hn n eW
  rw [eW, show (some n).getD 0 = n from rfl] at q
  unfold BD.deedW at q
  by_cases hk : (n / 1024).toNat < 23
  case neg =>
    rw [if_pos hk] at q
    refine ⟨_, rfl, _, rfl, h0, _, rfl, _, rfl, _, _, rfl, ?_⟩
    rw [nameV_none hk]
    refine ⟨_, rfl, rfl, _, rfl, iteT (iteT ?_)⟩
    refine ⟨_, rfl, _, _, _, rfl, B.ob, (by kernel_rfl), _, rfl, s2, fun l nl => ⟨_, rfl, rfl, .inr ⟨_, rfl, _, _, _, V.str "none", rfl, rfl, SqL.of upd_same, atI_nat (j := 1) rfl, ?_⟩⟩⟩
    have B1 : BoardAt K _ A D := B.new (o := .lst [V.non, V.str "none"]) nl
    have k1 : Kp A.own A.own H _ := Kp.new (o := .lst [V.non, V.str "none"]) nl
    exact ⟨_, rfl, s2, fun t nt => ⟨_, _, t, _, rfl, B1.new nt, upd_same, fun H1 A1 B2 e1 k2 => q _ _ B2 e1 (k1.trans ((Kp.new nt).trans k2))⟩⟩
  case pos =>
  rw [if_neg (by omega)] at q
  refine ⟨_, rfl, _, rfl, h0, _, rfl, _, rfl, _, _, rfl, ?_⟩
  rw [nameV_some hk]
  refine ⟨_, rfl, rfl, _, rfl, iteF ?_⟩
  refine ⟨_, rfl, rfl, _, rfl, iteNm hk 0 (h1 := fun h3 => ?_) (h2 := fun h3 => ?_)⟩
  · rw [if_pos h3] at q
    refine ⟨_, rfl, _, _, _, rfl, B.ob, (by kernel_rfl), _, rfl, s2, fun l nl => ⟨_, rfl, rfl, .inr ⟨_, rfl, _, _, _, V.str (nameS (n / 1024).toNat), rfl, rfl, SqL.of upd_same, atI_nat (j := 0) rfl, ?_⟩⟩⟩
    have B1 : BoardAt K _ A D := B.new (o := .lst [V.str (nameS (n / 1024).toNat), V.str "none"]) nl
    have k1 : Kp A.own A.own H _ := Kp.new (o := .lst [V.str (nameS (n / 1024).toNat), V.str "none"]) nl
    have em : V.str "mark" = V.str (nameS (n / 1024).toNat) := by rw [h3]; rfl
    rw [em] at q
    exact ⟨_, rfl, s2, fun t nt => ⟨_, _, t, _, rfl, B1.new nt, upd_same, fun H1 A1 B2 e1 k2 => q _ _ B2 e1 (k1.trans ((Kp.new nt).trans k2))⟩⟩
  rw [if_neg h3] at q
  generalize hkk : (n / 1024).toNat = k at *
  generalize hxx : n % 1024 = x at *
  refine ⟨_, rfl, _, _, _, rfl, B.ob, (by kernel_rfl), _, rfl, _, rfl, _, _, _, _, rfl, B, hk, fun H1 t l1 l2 B1 k1 ht1 hl1 hl2 nl1 nl2 n12 => ?_⟩
  refine ⟨_, _, rfl, SqT.of ht1, rfl, _, _, rfl, _, _, rfl, rfl, ?_⟩
  generalize hR : (addrs k x D.b D.sp).1 = R at *
  generalize hU : (addrs k x D.b D.sp).2 = U at *
  have hlen : R.length + U.length ≤ 2 := by rw [← hR, ← hU]; exact addrs_len k x D.b D.sp
  have qd : ∀ (Hz : Hp) (Az : BA), BoardAt K Hz Az (D.deedB k x (addrs k x D.b D.sp)).2 → Az.p = A.p → Kp A.own Az.own H Hz → Q (.str (D.deedB k x (addrs k x D.b D.sp)).1) Hz := q
  have eB : D.deedB k x (addrs k x D.b D.sp) = D.deedB k x (R, U) := by rw [← hR, ← hU]
  rw [eB] at qd
  refine ⟨_, rfl, _, _, _, rfl, B1.ob, (by kernel_rfl), _, rfl, _, rfl, _, _, _, _, _, _, rfl, B1, hl1, hl2, fun H2 v k2 B2 hv => ?_⟩
  cases eb : barOf D.m D.pc R U with
  | some c =>
    rw [eb] at hv
    obtain ⟨t2, rfl, ht2⟩ := hv
    have eC : D.deedB k x (R, U) = (("stopped" : Str), D.halt c) := by unfold BD.deedB; rw [eb]
    rw [eC] at qd
    refine ⟨_, rfl, rfl, _, rfl, iteT ?_⟩
    exact ⟨_, rfl, _, _, _, rfl, B2.ob, (by kernel_rfl), _, rfl, _, _, t2, _, rfl, B2, ht2, fun H3 A3 B3 e3 k3 => qd _ _ B3 e3 (k1.trans (k2.trans k3))⟩
  | none =>
    rw [eb] at hv
    subst hv
    have eC : D.deedB k x (R, U) = (("deed" : Str), D.deedA k x (R, U)) := by unfold BD.deedB; rw [eb]
    rw [eC] at qd
    obtain ⟨hr1, hr2⟩ := barOf_none eb
    refine ⟨_, rfl, rfl, _, rfl, iteF ?_⟩
    refine ⟨_, rfl, _, _, rfl, rfl, _, rfl, _, _, _, _, _, rfl, B2.ob, T.k_Board, T.n_Board_registers, BoardF_registers, _, _, rfl, B2.put_pc _, B2.goRg fun H3 B3 k3 => ?_⟩
    have k03 := k1.trans (k2.trans k3)
    have f1 : l1 ∉ A.own := B.fresh nl1
    have f2 : l2 ∉ A.own := B.fresh nl2
    have hl13 : H3 l1 = some (.lst (R.map V.int)) := k3.kept _ _ (k2.kept _ _ hl1 f1) f1
    have hl23 : H3 l2 = some (.lst (U.map V.int)) := k3.kept _ _ (k2.kept _ _ hl2 f2) f2
    -- self.do(name, part, [..], puts)
    refine ⟨_, rfl, _, _, _, rfl, B3.ob, (by kernel_rfl), _, rfl, _, rfl, _, rfl, _, rfl, ⟨_, SqL.of hl13⟩, fun L nL => lc_list (K := K) (a := l1) (xs := R.map V.int)
      (fun i H4 => ∃ A4 : BA, BoardAt K H4 (A4.w A.p) (({ D with pc := D.pc + 1 } : BD).fetches (R.take i)).2 ∧ Kp A.own (L :: (A4.w A.p).own) H H4 ∧ H4 L = some (.lst ((({ D with pc := D.pc + 1 } : BD).fetches (R.take i)).1.map V.int)) ∧ L ∉ (A4.w A.p).own ∧ H4 l1 = some (.lst (R.map V.int)) ∧ H4 l2 = some (.lst (U.map V.int)) ∧ l1 ∉ (A4.w A.p).own ∧ l2 ∉ (A4.w A.p).own) ?_ ?_ ?_ ?_⟩
    · have fL : L ∉ A.own := B3.fresh nL
      have nl1L : l1 ≠ L := ne_of_none hl13 nL
      have nl2L : l2 ≠ L := ne_of_none hl23 nL
      exact ⟨A, B3.new nL, k03.trans (Kp.newIn nL), upd_same, fL, by rw [upd_ne nl1L]; exact hl13, by rw [upd_ne nl2L]; exact hl23, f1, f2⟩
    · rintro i H4 _ ⟨A4, _, _, _, _, h, _⟩
      exact SqL.of h
    · rintro i y H4 hi ⟨A4, B4, k4, hL, fL, h1', h2', g1, g2⟩
      have nl1L : l1 ≠ L := ne_of_none hl13 nL
      have nl2L : l2 ≠ L := ne_of_none hl23 nL
      rw [List.getElem?_map] at hi
      cases hz : R[i]? with
      | none => rw [hz] at hi; cases hi
      | some z =>
        rw [hz] at hi
        have ey : y = .int z := (Option.some.inj hi).symm
        subst ey
        have hil := (List.getElem?_eq_some_iff.mp hz).1
        have hmem : z ∈ R := (List.getElem?_eq_some_iff.mp hz).2 ▸ List.getElem_mem hil
        obtain ⟨m1, m2, m3, m4⟩ := BD.fetches_keep ({ D with pc := D.pc + 1 } : BD) (R.take i)
        obtain ⟨nz, hnz⟩ := hr1 z hmem
        have et : R.take (i + 1) = R.take i ++ [z] := by rw [List.take_add_one, hz]; rfl
        have hlt : (({ D with pc := D.pc + 1 } : BD).fetches (R.take i)).2.tc.length < 1000 := by
          rw [m3, List.length_take]
          show D.tc.length + _ < 1000
          omega
        refine ⟨rfl, _, rfl, _, _, _, rfl, B4.ob, (by kernel_rfl), _, rfl, A4.w A.p, _, _, nz, rfl, B4, by rw [m1]; exact hnz, hlt, fun H5 A5 B5 e5 k5 => ?_⟩
        replace B5 := B5.as e5
        replace k5 := k5.as e5
        have hL5 := k5.kept _ _ hL fL
        have nown : ∀ c o, H4 c = some o → c ∉ (A4.w A.p).own → c ∉ (A5.w A.p).own := fun c o hc nc m => by
          rcases k5.own c m with q1 | q1
          · exact nc q1
          · rw [q1] at hc; cases hc
        have fL5 := nown _ _ hL fL
        have k6 : Kp (L :: (A5.w A.p).own) (L :: (A5.w A.p).own) H5 _ := Kp.upd (o' := .lst ((({ D with pc := D.pc + 1 } : BD).fetches (R.take i)).1.map V.int ++ [.int (BD.fetchV (({ D with pc := D.pc + 1 } : BD).fetches (R.take i)).2 z)])) hL5 trivial (by simp)
        refine ⟨_, hL5, small_ (by rw [List.length_map, m4, List.length_take]; omega), A5, ?_, k4.trans ((k5.cons L).trans k6), ?_, fL5, ?_, ?_, nown _ _ h1' g1, nown _ _ h2' g2⟩
        · rw [et, BD.fetches_snoc]
          exact B5.frame (fun b hb o e => by rw [upd_ne (fun z2 => fL5 (by rw [← z2]; exact hb))]; exact e) k6.tups
        · rw [et, BD.fetches_snoc, upd_same, List.map_append]; rfl
        · rw [upd_ne nl1L]; exact k5.kept _ _ h1' g1
        · rw [upd_ne nl2L]; exact k5.kept _ _ h2' g2
    · rintro H4 ⟨A4, B4, k4, hL, fL, h1', h2', g1, g2⟩
      rw [List.length_map, List.take_length] at B4 hL
      obtain ⟨m1, m2, m3, m4⟩ := BD.fetches_keep ({ D with pc := D.pc + 1 } : BD) R
      have nR : (k ∈ [2, 8, 18, 4, 5, 6, 7] ∨ k = 16 ∨ k = 21) → (({ D with pc := D.pc + 1 } : BD).fetches R).1 ≠ [] := fun hz e => by
        have := addrs_reads (x := x) (b := D.b) (sp := D.sp) hz
        rw [hR] at this
        rw [e] at m4
        exact this (List.eq_nil_of_length_eq_zero m4.symm)
      refine ⟨_, rfl, A4.w A.p, _, _, _, _, _, _, _, rfl, B4, hk, hL, h2', fL, g2, hr2, by rw [m3]; show D.tc.length + _ < 1000; omega, by rw [m2]; show D.sent.length < 1000000; omega, fun hz => nR (.inl hz), fun hz => nR (.inr hz), fun H5 A5 B5 e5 k5 => ?_⟩
      replace B5 := B5.as e5
      replace k5 := k5.as e5
      have h15 := k5.kept _ _ h1' g1
      have h25 := k5.kept _ _ h2' g2
      refine ⟨_, rfl, _, _, _, rfl, B5.ob, (by kernel_rfl), _, rfl, _, _, rfl, .inl (SqL.of h15), _, _, rfl, rfl, _, rfl, _, _, rfl, .inl (SqL.of h25), _, _, rfl, rfl, A5.w A.p, _, 1 + R.length + U.length, ?_, B5, by omega, fun H6 B6 k6 => ?_⟩
      · rw [List.length_map, List.length_map]
        congr 2
      · exact qd _ _ B6 rfl ((k4.sub fun b hb => List.mem_cons_of_mem _ hb).trans (k5.trans k6))
def sp_Board_interrupt (K : PySem.W.Frag) : Sp := fun vs H Q E_ => ∃ (A : BA) (D : BD), vs = [.ref A.p] ∧ (BoardAt K H A D ∧ D.tc.length ≤ 100 ∧ D.sent.length ≤ 999000 ∧ ∀ H' A', BoardAt K H' A' D.interrupt.2 → A'.p = A.p → Kp A.own A'.own H H' → Q (.str D.interrupt.1) H')
abbrev N_Board_interrupt : List Str := ["self", "pc", "sp", "address", "bar", "first"]
theorem sc_Board_interrupt : FnScope N_Board_interrupt ["self"] (defScope s_Board_interrupt) := ⟨rfl, rfl, rfl, by decide +kernel, rfl, by decide +kernel, by decide +kernel⟩
theorem ok_Board_interrupt (T : Txt K mg) : Ok P w K mg base CX0 4 (He.fAd K ("Board", some "interrupt")) ["self"] (sp_Board_interrupt K) := by
  obtain ⟨_, G_Memory_bar_to, b_Memory_bar_to, kp_Memory_bar_to⟩ := ok_Memory_bar_to (P := P) (w := w) (base := base) T
  obtain ⟨_, G_Board_stop, b_Board_stop, kp_Board_stop⟩ := ok_Board_stop (P := P) (w := w) (base := base) T
  obtain ⟨_, G_Board_pending, b_Board_pending, kp_Board_pending⟩ := ok_Board_pending (P := P) (w := w) (base := base) T
  obtain ⟨_, G_Board_store, b_Board_store, kp_Board_store⟩ := ok_Board_store (P := P) (w := w) (base := base) T
  obtain ⟨_, G_Board_pass_beats, b_Board_pass_beats, kp_Board_pass_beats⟩ := ok_Board_pass_beats (P := P) (w := w) (base := base) T
  obtain ⟨fd, F⟩ := T.d_Board_interrupt
  refine ⟨fd, F.ok sc_Board_interrupt (fun vs H Q E h => by obtain ⟨A, D, rfl, _⟩ := h; rfl) (fun cdv A_ outer s_ H vs Q E hr h => ?_), F.bindsN (fun _ _ _ _ _ _ us hl => match us, hl with | [_], _ => rfl), F.kp⟩
  obtain ⟨A, D, rfl, h⟩ := h
  have hu := hu_of hr
  refine ⟨_, PSs.nox (pss_cons (ps_par (i := 1) (j := 2) (by rfl) sc_Board_interrupt.nd rfl rfl (by decide) rfl rfl (pa_cons (pe_dget hu (pe_fld (pv 0) rfl) pe_str (fun _ _ => rfl)) (pa_cons (pe_dget hu (pe_fld (pv 0) rfl) pe_str (fun _ _ => rfl)) pa_nil)) (by rfl))
  (pss_cons (ps_for PassesOwn.never rfl (pi_list (pe_lst (pa_cons (pv 2) (pa_cons (pe_op op_sub (pv 2) pe_int) pa_nil)))) (pg_name (i := 3) sc_Board_interrupt.nd rfl (.inl rfl)) (pss_cons (ps_set (i := 4) sc_Board_interrupt.nd rfl (.inl rfl) (pe_meth (pe_fld (pv 0) rfl) T.k_Memory T.m_Memory_bar_to G_Memory_bar_to (hr.mono (by decide)) b_Memory_bar_to .nil pass0 (pa_cons (pv 3) pa_nil)))
    (pss_one (ps_if (pt_cmpR op_notN (pv 4) pe_non (nomark _)) (pss_one (ps_ret (pe_meth (pv 0) T.k_Board T.m_Board_stop G_Board_stop (hr.mono (by decide)) b_Board_stop .nil pass0 (pa_cons (pe_tup (pa_cons (pv 4) (pa_cons (pv 1) (pa_cons (pv 3) pa_nil)))) pa_nil)))) pss_nil))))
  (pss_cons (ps_set (i := 5) sc_Board_interrupt.nd rfl (.inl rfl) (pe_ix ix_list (pe_lst (pa_cons pe_int (pa_cons pe_int pa_nil))) (pe_op op_mod (pe_meth0 (pv 0) T.k_Board T.m_Board_pending G_Board_pending (hr.mono (by decide)) b_Board_pending .nil pass0) pe_int) (fun _ _ => rfl)))
  (pss_cons (ps_expr (pe_meth (pv 0) T.k_Board T.m_Board_store G_Board_store (hr.mono (by decide)) b_Board_store .nil pass0 (pa_cons (pv 2) (pa_cons (pv 1) pa_nil))))
  (pss_cons (ps_expr (pe_meth (pv 0) T.k_Board T.m_Board_store G_Board_store (hr.mono (by decide)) b_Board_store .nil pass0 (pa_cons (pe_op op_sub (pv 2) pe_int) (pa_cons (pe_callTy call_int1 (by rfl) T.f_int (by decide +kernel) (pa_cons (pe_fld (pv 0) rfl) pa_nil)) pa_nil))))
  (pss_cons (ps_dput hu (pe_fld (pv 0) rfl) pe_str (pe_op op_sub (pv 2) pe_int) rfl)
  (pss_cons (ps_fld (pv 0) pe_bl rfl)
  (pss_cons (ps_dput hu (pe_fld (pv 0) rfl) pe_str (pv 5) rfl)
  (pss_cons (ps_expr (pe_meth (pv 0) T.k_Board T.m_Board_pass_beats G_Board_pass_beats (hr.mono (by decide)) b_Board_pass_beats .nil pass0 (pa_cons pe_int pa_nil)))
  (pss_one (ps_ret pe_str))))))))))), ?_⟩
  obtain ⟨B, ht, hs, q⟩ := h
  have s2 : 2 ≤ sizeLine := by decide
  have s3 : 3 ≤ sizeLine := by decide
  unfold BD.interrupt at q
  refine ⟨_, rfl, _, _, _, _, _, rfl, B.ob, T.k_Board, T.n_Board_registers, BoardF_registers, _, _, rfl, B.get_pc, _, rfl, _, _, _, _, _, rfl, B.ob, T.k_Board, T.n_Board_registers, BoardF_registers, _, _, rfl, B.get_sp, _, _, rfl, ?_⟩
  refine ⟨_, rfl, _, rfl, _, _, rfl, rfl, s2, fun l nl => ⟨_, rfl, ⟨_, SqL.of upd_same⟩, ?_⟩⟩
  have B1 : BoardAt K _ A D := B.new (o := .lst [.int D.sp, .int (D.sp - 1)]) nl
  have k1 : Kp A.own A.own H _ := Kp.new (o := .lst [.int D.sp, .int (D.sp - 1)]) nl
  refine for_list (K := K) (a := l) (xs := [.int D.sp, .int (D.sp - 1)]) (fun i σ H' => H' = upd H l (.lst [.int D.sp, .int (D.sp - 1)]) ∧ (1 ≤ i → barTo D.sp = none) ∧ (2 ≤ i → barTo (D.sp - 1) = none) ∧ ∃ v u, σ = [some (.ref A.p), some (.int D.pc), some (.int D.sp), v, u, none]) ⟨rfl, fun z => absurd z (by omega), fun z => absurd z (by omega), _, _, rfl⟩ (fun i σ H' _ ⟨e, _⟩ => by rw [e]; exact SqL.of upd_same) ?_ ?_
  · rintro i y σ H1 hi ⟨rfl, c1, c2, v, u, rfl⟩
    have hi2 : i < 2 := (List.getElem?_eq_some_iff.mp hi).1
    obtain ⟨z, ey, ez⟩ : ∃ z, y = .int z ∧ z = (if i = 0 then D.sp else D.sp - 1) := by
      match i, hi2, hi with
      | 0, _, hi => exact ⟨D.sp, (Option.some.inj hi).symm, rfl⟩
      | 1, _, hi => exact ⟨D.sp - 1, (Option.some.inj hi).symm, rfl⟩
    subst ey
    refine ⟨_, rfl, _, _, _, _, _, rfl, B1.ob, T.k_Board, T.n_Board_memory, BoardF_memory, _, _, _, rfl, B1.mem.ob, (by kernel_rfl), _, rfl, _, _, rfl, ⟨_, B1.mem⟩, ?_⟩
    refine ⟨_, rfl, rfl, _, rfl, iteOptN (fun b g => ?_) (fun g => ?_)⟩
    · rw [g]
      refine ⟨_, rfl, _, _, _, rfl, B1.ob, (by kernel_rfl), _, rfl, _, rfl, _, rfl, s3, fun t nt => ⟨_, _, t, _, rfl, B1.new nt, upd_same, fun H2 A2 B2 e2 k2 => ?_⟩⟩
      have qq : Q (.str "stopped") H2 := by
        by_cases hi0 : i = 0
        · rw [if_pos hi0] at ez
          rw [ez] at g B2
          rw [g] at q
          exact q _ _ B2 e2 (k1.trans ((Kp.new nt).trans k2))
        · rw [if_neg hi0] at ez
          rw [ez] at g B2
          rw [c1 (by omega), g] at q
          exact q _ _ B2 e2 (k1.trans ((Kp.new nt).trans k2))
      exact qq
    · refine ⟨rfl, fun z2 => ?_, fun z2 => ?_, _, _, rfl⟩
      · by_cases hi0 : i = 0
        · rw [if_pos hi0] at ez; rw [← ez]; exact g
        · exact c1 (by omega)
      · rw [if_neg (by omega)] at ez; rw [← ez]; exact g
  · rintro σ H1 ⟨rfl, c1, c2, v, u, rfl⟩
    have b1 := c1 (show 1 ≤ 2 by decide)
    have b2 := c2 (show 2 ≤ 2 by decide)
    rw [b1, b2] at q
    simp only [] at q
    unfold BD.inter at q
    refine ⟨s2, fun l2 nl2 => ?_⟩
    have B2 : BoardAt K _ A D := B1.new (o := .lst [.int 2, .int 1]) nl2
    have k2 : Kp A.own A.own H _ := k1.trans (Kp.new (o := .lst [.int 2, .int 1]) nl2)
    refine ⟨_, rfl, _, _, _, rfl, B2.ob, (by kernel_rfl), _, _, rfl, B2, _, _, rfl, rfl, (by show (0 : Int) < 2; decide), _, _, _, V.int (if D.pending % 2 = 0 then 2 else 1), rfl, rfl, SqL.of upd_same, ?_, ?_⟩
    · have h2 : D.pending % 2 = 0 ∨ D.pending % 2 = 1 := by omega
      rcases h2 with e | e
      · rw [e]; exact atI_nat (j := 0) rfl
      · rw [e]; exact atI_nat (j := 1) rfl
    refine ⟨_, rfl, _, _, _, rfl, B2.ob, (by kernel_rfl), _, rfl, _, rfl, _, _, _, _, rfl, B2, b1, by omega, by omega, fun H3 A3 B3 e3 k3 => ?_⟩
    replace B3 := B3.as e3
    replace k3 := k3.as e3
    refine ⟨_, rfl, _, _, _, rfl, B3.ob, (by kernel_rfl), _, rfl, _, _, rfl, rfl, _, rfl, _, _, _, _, _, rfl, B3.ob, T.k_Board, T.n_Board_zero, BoardF_zero, .inr ⟨_, rfl, ?_⟩⟩
    refine ⟨A3.w A.p, _, _, _, rfl, B3, b2, ?_, ?_, fun H4 A4 B4 e4 k4 => ?_⟩
    · show (D.tc ++ [_]).length < 1000
      rw [List.length_append]; simp; omega
    · show (if D.sp = 773 then D.sent ++ [_] else D.sent).length < 1000000
      split
      · rw [List.length_append]; simp; omega
      · omega
    replace B4 := B4.as e4
    replace k4 := k4.as e4
    refine ⟨_, rfl, _, _, rfl, rfl, _, rfl, _, _, _, _, _, rfl, B4.ob, T.k_Board, T.n_Board_registers, BoardF_registers, _, _, rfl, B4.put_sp _, B4.goRg fun H5 B5 k5 => ?_⟩
    refine ⟨_, rfl, _, _, _, _, rfl, B5.ob, T.k_Board, T.n_Board_lets, BoardF_len, B5.goLets fun H6 B6 k6 => ?_⟩
    refine ⟨_, rfl, _, rfl, _, _, _, _, _, rfl, B6.ob, T.k_Board, T.n_Board_registers, BoardF_registers, _, _, rfl, B6.put_pc _, B6.goRg fun H7 B7 k7 => ?_⟩
    refine ⟨_, rfl, _, _, _, rfl, B7.ob, (by kernel_rfl), A4.w A.p, _, 3, rfl, B7, by decide, fun H8 B8 k8 => ?_⟩
    exact q _ _ B8 rfl (k2.trans (k3.trans (k4.trans (k5.trans (k6.trans (k7.trans k8))))))
def sp_Board_turn (K : PySem.W.Frag) : Sp := fun vs H Q E_ => ∃ (A : BA) (D : BD), vs = [.ref A.p] ∧ (BoardAt K H A D ∧ (∀ n, D.m.at D.pc = some n → 0 ≤ n) ∧ D.sent.length ≤ 999000 ∧ ∀ H' A', BoardAt K H' A' D.turn.2 → A'.p = A.p → Kp A.own A'.own H H' → Q (.str D.turn.1) H')
abbrev N_Board_turn : List Str := ["self"]
theorem sc_Board_turn : FnScope N_Board_turn ["self"] (defScope s_Board_turn) := ⟨rfl, rfl, rfl, by decide +kernel, rfl, by decide +kernel, by decide +kernel⟩
theorem ok_Board_turn (T : Txt K mg) : Ok P w K mg base CX0 6 (He.fAd K ("Board", some "turn")) ["self"] (sp_Board_turn K) := by
  obtain ⟨_, G_Board_pending, b_Board_pending, kp_Board_pending⟩ := ok_Board_pending (P := P) (w := w) (base := base) T
  obtain ⟨_, G_Board_pass_beats, b_Board_pass_beats, kp_Board_pass_beats⟩ := ok_Board_pass_beats (P := P) (w := w) (base := base) T
  obtain ⟨_, G_Board_interrupt, b_Board_interrupt, kp_Board_interrupt⟩ := ok_Board_interrupt (P := P) (w := w) (base := base) T
  obtain ⟨_, G_Board_deed, b_Board_deed, kp_Board_deed⟩ := ok_Board_deed (P := P) (w := w) (base := base) T
  obtain ⟨fd, F⟩ := T.d_Board_turn
  refine ⟨fd, F.ok sc_Board_turn (fun vs H Q E h => by obtain ⟨A, D, rfl, _⟩ := h; rfl) (fun cdv A_ outer s_ H vs Q E hr h => ?_), F.bindsN (fun _ _ _ _ _ _ us hl => match us, hl with | [_], _ => rfl), F.kp⟩
  obtain ⟨A, D, rfl, h⟩ := h
  have hu := hu_of hr
  refine ⟨_, PSs.nox (pss_cons (ps_fld (pv 0) (pe_lst pa_nil) rfl)
  (pss_cons (ps_if (pt_cmpR op_notN (pe_fld (pv 0) rfl) pe_non (nomark _)) (pss_one (ps_ret pe_str)) pss_nil)
  (C8.pss_cut (ps_if (PW.pt (pw_and (pt_val (pe_fld (pv 0) rfl)) (pw_and1 (pt_cmpR op_eq (pe_meth0 (pv 0) T.k_Board T.m_Board_pending G_Board_pending (hr.mono (by decide)) b_Board_pending .nil pass0) pe_int (nomark _))))) (pss_cons (ps_expr (pe_meth (pv 0) T.k_Board T.m_Board_pass_beats G_Board_pass_beats (hr.mono (by decide)) b_Board_pass_beats .nil pass0 (pa_cons pe_int pa_nil)))
    (pss_one (ps_ret pe_str))) pss_nil)
  (pss_cons (ps_fld (pv 0) pe_bl rfl)
  (pss_cons (ps_if (PW.pt (pw_and (pt_val (pe_fld (pv 0) rfl)) (pw_and1 (pt_cmpR op_gt (pe_meth0 (pv 0) T.k_Board T.m_Board_pending G_Board_pending (hr.mono (by decide)) b_Board_pending .nil pass0) pe_int (nomark _))))) (pss_one (ps_ret (pe_meth0 (pv 0) T.k_Board T.m_Board_interrupt G_Board_interrupt (hr.mono (by decide)) b_Board_interrupt .nil pass0))) pss_nil)
  (pss_one (ps_ret (pe_meth0 (pv 0) T.k_Board T.m_Board_deed G_Board_deed (hr.mono (by decide)) b_Board_deed .nil pass0)))))))), ?_⟩
  obtain ⟨B, hn, hs, q⟩ := h
  have s0 : 0 ≤ sizeLine := by decide
  unfold BD.turn BD.turnB at q
  refine ⟨s0, fun t nt => ⟨_, rfl, _, _, _, _, rfl, (B.new (o := .lst []) nt).ob, T.k_Board, T.n_Board_touched, BoardF_len, B.goTc nt fun H1 B1 k1 => ?_⟩⟩
  cases es : D.stop with
  | some c =>
    rw [if_pos (by show D.stop.isSome = true; rw [es]; rfl)] at q
    have hst := B1.st
    rw [show ({ D with tc := [] } : BD).stop = D.stop from rfl, es] at hst
    obtain ⟨u, eu, hu2⟩ := hst
    have eu' : A.st = .ref u := eu
    refine ⟨_, rfl, _, _, _, _, _, rfl, B1.ob, T.k_Board, T.n_Board_stopped, BoardF_stopped, rfl, _, rfl, ?_⟩
    rw [show ({ A with tc := t, tv := [] } : BA).st = A.st from rfl, eu']
    exact iteT (q _ _ B1 rfl k1)
  | none =>
    rw [if_neg (by show ¬ D.stop.isSome = true; rw [es]; simp)] at q
    have hst := B1.st
    rw [show ({ D with tc := [] } : BD).stop = D.stop from rfl, es] at hst
    have eu' : A.st = .non := hst
    refine ⟨_, rfl, _, _, _, _, _, rfl, B1.ob, T.k_Board, T.n_Board_stopped, BoardF_stopped, rfl, _, rfl, ?_⟩
    rw [show ({ A with tc := t, tv := [] } : BA).st = A.st from rfl, eu']
    refine iteF ?_
    refine ⟨fun σ' H' => σ' = [some (.ref A.p)] ∧ H' = H1 ∧ ¬ (D.asleep = true ∧ ({ D with tc := [] } : BD).pending = 0), ?_, ?_⟩
    · refine ⟨_, rfl, _, _, _, _, _, rfl, B1.ob, T.k_Board, T.n_Board_asleep, BoardF_asleep, _, rfl, iteBo (fun c1 => ?_) (fun c1 => iteF ?_)⟩
      · refine ⟨_, rfl, _, _, _, rfl, B1.ob, (by kernel_rfl), { A with tc := t, tv := [] }, _, rfl, B1, rfl, _, rfl, iteI (fun c2 => ?_) (fun c2 => ?_)⟩
        · rw [if_pos ⟨c1, c2⟩] at q
          exact ⟨_, rfl, _, _, _, rfl, B1.ob, (by kernel_rfl), { A with tc := t, tv := [] }, _, 1, rfl, B1, by decide, fun H2 B2 k2 => q _ _ B2 rfl (k1.trans k2)⟩
        · exact ⟨rfl, rfl, fun z => c2 z.2⟩
      · exact ⟨rfl, rfl, fun z => by rw [show D.asleep = false from c1] at z; exact absurd z.1 (by decide)⟩
    · rintro σ' H' ⟨rfl, rfl, c⟩
      rw [if_neg c] at q
      unfold BD.wake at q
      refine ⟨_, rfl, _, _, _, _, rfl, B1.ob, T.k_Board, T.n_Board_asleep, BoardF_len, B1.goAsleep fun H2 B2 k2 => ?_⟩
      refine ⟨_, rfl, _, _, _, _, _, rfl, B2.ob, T.k_Board, T.n_Board_lets, BoardF_lets, _, rfl, iteBo (fun c1 => ?_) (fun c1 => iteF ?_)⟩
      · refine ⟨_, rfl, _, _, _, rfl, B2.ob, (by kernel_rfl), { A with tc := t, tv := [] }, _, rfl, B2, _, _, rfl, rfl, _, rfl, iteD (fun c2 => ?_) (fun c2 => ?_)⟩
        · rw [if_pos ⟨c1, c2⟩] at q
          exact ⟨_, rfl, _, _, _, rfl, B2.ob, (by kernel_rfl), { A with tc := t, tv := [] }, _, rfl, B2, Nat.zero_le _, hs, fun H3 A3 B3 e3 k3 => q _ _ B3 e3 (k1.trans (k2.trans k3))⟩
        · rw [if_neg (fun z => c2 z.2)] at q
          exact ⟨_, rfl, _, _, _, rfl, B2.ob, (by kernel_rfl), { A with tc := t, tv := [] }, _, rfl, B2, hn, Nat.zero_le _, hs, fun H3 A3 B3 e3 k3 => q _ _ B3 e3 (k1.trans (k2.trans k3))⟩
      · rw [if_neg (fun z => by rw [show D.lets = false from c1] at z; exact absurd z.1 (by decide))] at q
        exact ⟨_, rfl, _, _, _, rfl, B2.ob, (by kernel_rfl), { A with tc := t, tv := [] }, _, rfl, B2, hn, Nat.zero_le _, hs, fun H3 A3 B3 e3 k3 => q _ _ B3 e3 (k1.trans (k2.trans k3))⟩
end

/-! ### set(l) of a list of ints: as the library's set of a tuple, for lists -/
section
open PySem.Spec PyProof.Rows
variable {P : Program} {w : World} {A : Around} {E : Value → Shared → Prop} {s : Shared}
abbrev nSet (w : World) : Obj := { cls := .type "set", dict := none, data := .set #[] 0 (.fresh 0 0 (!w.params.followText "set-order")) }
set_option maxHeartbeats 6400000 in
theorem callSetL {l : Addr} {its : Array Value} (ns : List Int) {Q : Value → Shared → Prop} (ha : A.handled = none) (li : s.heap.IsList l its) (hn : IntsAre its.toList ns) (few : ns.length + 1 < scanBound)
    (goal : ∀ (g : Heap) (t m : Nat), SetR w g s.heap.objs.size (fun j => decide (j ∈ ns)) m → m ≤ ns.length → (∀ b o, s.heap.get? b = some o → g.get? b = some o) → Q (.ref s.heap.objs.size) { s with heap := g, toks := t }) :
    wpAny (model P w) A (call (.type "set") [.ref l]) Q E s := by
  have sz : its.size = ns.length := by
    have z := IntsAre.length hn
    rwa [Array.length_toList] at z
  have ⟨m1, m2, m3⟩ := F.called_set.mro
  have made_ := F.called_set.made
  have sub_ := F.called_set.sub
  refine wpAny_call (codeAny_of_tree ?_); show wpAny _ _ (callAny (.type "set") _) _ _ _
  refine wpAny_pure ⟨Code.quiet_builtin _ (by decide +kernel), codeAny_builtin F.entry_type_call ?_⟩; rw [Around.under_plain (weight_type_call_type "set" [.ref l] []) rfl]
  have nt_ := F.called_set.notType
  have cc_ := F.called_set.canCreate
  have tc_ := F.typeCall_set_1 (.ref l)
  repeat (any_goals first | assumption | wp_step)
  refine codeAny_mono (code_set_led1 (.ref l) (E := E) (Q₁ := fun obj s₁ => obj = .ref s.heap.objs.size ∧ s₁ = { s with heap := s.heap.push (nSet w) }) ⟨rfl, rfl⟩) fun r s₁ hr => ?_
  cases r with
  | error e => exact hr
  | ok fl => cases fl with
    | ret obj =>
      obtain ⟨rfl, rfl⟩ := hr
      have at_ : (s.heap.push (nSet w)).get? s.heap.objs.size = some (nSet w) := Heap.get?_push_size _ rfl
      have ty_ : Shared.TypeIs { s with heap := s.heap.push (nSet w) } (.ref s.heap.objs.size) "set" := ⟨_, at_, rfl⟩
      have lk_ := F.called_set.init.lookup
      have bd_ := F.called_set.init.bind (.ref s.heap.objs.size)
      repeat (any_goals first | assumption | wp_step)
      refine codeAny_mono (codeAny_call_builtin (R := wants (fun r s₂ => r = .none ∧ ∃ g t m, s₂ = { s with heap := g, toks := t } ∧ SetR w g s.heap.objs.size (fun j => decide (j ∈ ns)) m ∧ m ≤ ns.length ∧ (∀ b o, s.heap.get? b = some o → g.get? b = some o)) E) F.called_set.init.plain F.entry_set_init (check_set_init_1 ty_ ?_)) fun r₂ s₂ hr₂ => ?_
      · obtain ⟨⟨oc, od, dt, sl⟩, hol, c1, n1, c2⟩ := li
        simp only at c1 c2
        subst c1 c2
        have old_ : (s.heap.push (nSet w)).get? l = some { cls := .type "list", dict := od, data := .seq its n1, slots := sl } := Heap.get?_push_of_some _ hol
        have sl1 := F.sub_list_set
        have sl2 := F.sub_list_frozenset
        have ne1 : (Value.type "list" == Value.type "dict") = false := by decide
        have li1 : (s.heap.push (nSet w)).IsList l its := ⟨_, old_, rfl, n1, rfl⟩
        unfold Builtin.«set.__init__» noKeywords Builtin.Frozenset.updateFrom
        generalize pe : pyIter = PI
        wp_walk
        subst pe
        refine wpAny_pyIter_list li1 ?_
        refine wpAny_bind (wpAny_runValue ?_)
        have lt_ : l < s.heap.objs.size := Heap.lt_size hol
        have hd3 : A.in1.in1.in1.handled = none := by simp [ha]
        have neI : l ≠ (s.heap.push (nSet w)).objs.size := by rw [Heap.size_push]; exact Nat.ne_of_lt (Nat.lt_succ_of_lt lt_)
        have nin : s.heap.objs.size ∉ [(s.heap.push (nSet w)).objs.size, l] := by
          rw [Heap.size_push]; simp only [List.mem_cons, List.mem_singleton, List.not_mem_nil, or_false, not_or]; exact ⟨Nat.ne_of_lt (Nat.lt_succ_self _), Nat.ne_of_gt lt_⟩
        have vals_ : ∀ (i : Nat) (v : Value), its[i]? = some v → ∃ k t, ns[i]? = some k ∧ v = .int k t := fun i v hv => by
          have lti : i < ns.length := by rw [← sz]; exact (Array.getElem?_eq_some_iff.mp hv).1
          obtain ⟨t, e⟩ := IntsAre.int_at hn i v (by rw [Array.getElem?_toList]; exact hv)
          exact ⟨ns[i], t, List.getElem?_eq_getElem lti, by rw [e, List.getD_eq_getElem?_getD, List.getElem?_eq_getElem lti] <;> rfl⟩
        refine set_update_ints ((Walks.list hd3 _ l neI its).toS) s.heap.objs.size nin ns sz few vals_ (its.size - 0) 0 _ (by omega) (Nat.zero_le _) ⟨⟨_, Heap.get?_push_size _ rfl, rfl, rfl⟩, (li1.push _)⟩ ?s0 ?s1
        case s0 => exact ⟨0, Nat.le_refl 0, setR_new_at (Heap.get?_push_of_some _ at_)⟩
        case s1 =>
          rintro ⟨g, g2, d2, t2, o2⟩ m mv hm hS
          have e1 : g2 = s.gens := mv.gens
          have e2 : d2 = s.drawn := mv.drawn
          have e3 : o2 = s.os := mv.os
          subst e1 e2 e3
          show wpAny _ _ _ _ _ _
          refine wpAny_pure ?_
          show wpAny _ _ (ret Value.none) _ _ _
          rw [sz] at hm
          refine wpAny_pure ⟨rfl, g, t2, m, rfl, hS, hm, fun b o e => ?_⟩
          have b0 : b < s.heap.objs.size := Heap.lt_size e
          refine mv.heap b o ?_ (Heap.get?_push_of_some _ (Heap.get?_push_of_some _ e))
          simp only [List.mem_cons, List.mem_singleton, List.not_mem_nil, or_false, not_or]
          exact ⟨Nat.ne_of_lt b0, by rw [Heap.size_push]; exact Nat.ne_of_lt (Nat.lt_succ_of_lt b0)⟩
      · cases r₂ with
        | error e => exact hr₂
        | ok fl₂ => cases fl₂ with
          | ret r =>
            obtain ⟨rfl, g, t, m, rfl, h1, h2, h3⟩ := hr₂
            repeat (any_goals first | assumption | wp_step)
            exact goal _ _ _ h1 h2 h3
          | _ => exact hr₂.elim
    | _ => exact hr.elim
end
section
variable {X : Cx}
def rSetL (K : PySem.W.Frag) (w : World) : List V → Hp → VK → Prop := fun xs H Q => ∃ (a : Addr) (ns : List Int), xs = [.ref a] ∧ SqL K H a (ns.map V.int) ∧ ns.length ≤ 1000 ∧
  ∀ p c, c ≤ ns.length → H p = none → Q (.ref p) (upd H p (SetO w p (fun j => decide (j ∈ ns)) c))
theorem cr_setL (hc : X.calm = true) : CallR X (.type "set") (rSetL X.K X.w) := by
  intro pins s σ H xs us Q I r h
  obtain ⟨a, ns, rfl, hs, hz, q⟩ := h
  obtain ⟨its, rv, hl, hz2⟩ := I.list hs
  rw [Vals.ref1 r]
  refine callSetL ns (I.ok.hd hc) hl.isList (rv.ints) (by unfold scanBound; omega) fun g t c h1 h2 h3 => ?_
  have hn : H s.heap.objs.size = none := I.hok.fresh (Nat.le_refl _)
  exact ⟨.ref _, upd H s.heap.objs.size (SetO X.w s.heap.objs.size (fun j => decide (j ∈ ns)) c), I.laid (t' := t) h3 (Nat.le_refl _) (setO_new h1), rfl, q _ _ h2 hn⟩
end

/-! ### sorted(s) of a set of hInt, however many: the library's own walk, with the sort of any length -/
section
open PySem.Spec PyProof.Rows
variable {P : Program} {w : World} {A : Around} {E : Value → Shared → Prop} {s : Shared} {a : Addr}
theorem sorted_setLong {S : Int → Bool} {n : Nat} {Q : Value → Shared → Prop} (R : SetR w s.heap a S n) (hA : A.handled = none) (few : n < scanBound)
    (goal : ∀ (s' : Shared) (p : Addr) (out : Array Value) (c : Nat) (ns : List Int), (∀ b o, s.heap.get? b = some o → s'.heap.get? b = some o) → s'.gens = s.gens → s'.os = s.os → s.heap.objs.size ≤ p → s'.heap.get? p = some (seqObj "list" out c) → IntsAre out.toList ns → ns.Pairwise (· < ·) → (∀ k, k ∈ ns ↔ S k = true) → ns.length = n → Q (.ref p) s') :
    wpAny (model P w) A (call (.builtin "sorted") [.ref a]) Q E s := by
  obtain ⟨ob, es, ep, tb, hob, ex, dt, ky, nod, mem, bnd, fit, cnt, ris, led⟩ := R
  refine Calls.call_function_entry kind_sorted plain_sorted entry_sorted (args_sorted1 _) ?_
  have small : n ≤ sizeLine := fits_of_scanBound few
  unfold Builtin.«sorted»; refine wpAny_bind (m := checkCount "sorted" 1 1 _) (wpAny_pure ?_)
  refine wpAny_bind (collect_set (A := A.in1) hA ⟨ob, hob, ex.1, dt⟩ fit bnd ris led fun s1 vs kept le g1 o1 perm => ?_)
  have len : vs.length = n := by rw [perm.length_eq, List.length_map, Array.length_toList]; exact cnt
  have hInt : IntsAre vs (vs.map Builtin.Re.reRawOf) := ints_of vs fun v hv => by
    obtain ⟨e, he, rfl⟩ := List.mem_map.mp (perm.mem_iff.mp hv)
    obtain ⟨k, tk, h1, _⟩ := ky e he
    exact ⟨k, tk, h1⟩
  have keys : (vs.map Builtin.Re.reRawOf).Perm (es.toList.map keyOf) := by
    have z := perm.map Builtin.Re.reRawOf; rw [List.map_map] at z; exact z
  refine wpAny_bind (wpAny_newList ?_ (by omega))
  have at0 : (s1.heap.push (seqObj "list" vs.toArray 0)).get? s1.heap.objs.size = some (seqObj "list" vs.toArray 0) := Heap.get?_push_size _ rfl
  refine wpAny_bind (wpAny_holding (wpAny_call_entry slot_list_sort ⟨_, at0, rfl⟩ entry_list_sort (list_sort_treeAny at0 hInt (by omega) fun out ms i1 i2 i3 => ⟨_, rfl, ?_⟩) (args_list_sort _)))
  obtain ⟨c, hc⟩ := sortedHeap_at (vs := vs) (out := out) at0
  have all : ms.Perm (es.toList.map keyOf) := i2.trans keys
  refine wpAny_pure ⟨_, rfl, goal _ s1.heap.objs.size out c ms (fun b u e => ?_) g1 o1 le hc i1 (lt_of_le_nodup ms i3 (all.nodup_iff.mpr nod)) (fun k => by rw [all.mem_iff, ← mem k]) (by rw [all.length_eq, List.length_map, Array.length_toList]; exact cnt)⟩
  have z := kept b u e; have lt := Heap.lt_size z
  show (sortedHeap (s1.heap.push (seqObj "list" vs.toArray 0)) s1.heap.objs.size vs out).get? b = some u
  exact (sortedHeap_old (Nat.ne_of_lt lt) (by rw [size_push']; exact Nat.lt_succ_of_lt lt)).trans (Heap.get?_push_of_some _ z)
end
section
variable {X : Cx}
def rSortedSetL (w : World) : List V → Hp → VK → Prop := fun vs H Q => ∃ (a : Addr) (S : Int → Bool) (n : Nat), vs = [V.ref a] ∧ H a = some (SetO w a S n) ∧ n < 1000 ∧
  ∀ (ns : List Int) (p : Addr), ns.Pairwise (· < ·) → (∀ k : Int, k ∈ ns ↔ S k = true) → ns.length = n → H p = none → Q (.ref p) (upd H p (.lst (ns.map V.int)))
theorem cr_sortedSetL (hc : X.calm = true) : CallR X (.builtin "sorted") (rSortedSetL X.w) := by
  intro pins s σ H vs us Q I r h
  obtain ⟨a, S, n, rfl, ha, few, q⟩ := h
  rw [Vals.ref1 r]
  refine sorted_setLong (setO_get I ha) (I.ok.hd hc) (by unfold scanBound; omega) fun s' p out c ns kp gn os le at_ hInt up mem len => ?_
  have free : H p = none := I.hok.fresh le
  have sz : (ns.map V.int).length ≤ sizeLine := by rw [List.length_map, len]; exact fits_of_scanBound (by unfold scanBound; omega)
  have J : Inv X pins σ (upd H p (.lst (ns.map V.int))) { s with heap := s'.heap, gens := s'.gens, drawn := s'.drawn, toks := s'.toks } := I.call (ch := []) (Un.laid kp le free) (I.hok.laid kp le ⟨sz, out.toList, c, vals_of_ints hInt, at_⟩) (by rw [gn]; exact I.bare) (fun _ z => nomatch z)
  have eq : s' = { s with heap := s'.heap, gens := s'.gens, drawn := s'.drawn, toks := s'.toks } := by cases s'; cases s; cases os; rfl
  rw [eq]
  exact ⟨.ref p, _, J, rfl, q ns p up mem len free⟩
end

section
variable {H : Hp} {Φ : Hp → Prop}
theorem goF {p C dx : Addr} {fs : List (Str × V)} {f : Str} {v : V} (h : H p = some (.ins C dx fs)) (k : ∀ H1, H1 p = some (.ins C dx (putF f v fs)) → Kp [p] [p] H H1 → Φ H1) : Φ (upd H p (.ins C dx (putF f v fs))) :=
  k _ upd_same (Kp.upd h trivial (by simp))
theorem goNew {q : Addr} {o : HO} (hn : H q = none) (k : ∀ H1, H1 q = some o → Kp [] [q] H H1 → Φ H1) : Φ (upd H q o) := k _ upd_same (Kp.newIn hn)
end
theorem Kp.at1 {S S' : List Addr} {H H' : Hp} (k : Kp S S' H H') {b : Addr} {o : HO} (h : H b = some o) (n : ∀ s ∈ S, b ≠ s) : H' b = some o := k.kept b o h fun m => n b m rfl
theorem none_in {b : Addr} : b ∉ ([] : List Addr) := fun h => by cases h
theorem not1 {b p : Addr} (h : b ≠ p) : b ∉ [p] := fun m => h (List.mem_singleton.mp m)
theorem Kp.drop {S T : List Addr} {H H' : Hp} (k : Kp [] T H H') : Kp S S H H' := ⟨fun b o e _ => k.kept b o e none_in, fun _ m => .inl m, k.tups⟩
theorem Kp.add {S : List Addr} {q : Addr} {H H' : Hp} (k : Kp [] [q] H H') : Kp S (q :: S) H H' :=
  ⟨fun b o e _ => k.kept b o e none_in, fun b m => by
    rcases List.mem_cons.mp m with z | z
    · exact (k.own b (by simp [z])).imp (fun h => by cases h) id
    · exact .inl z, k.tups⟩
theorem Kp.inS {S : List Addr} {p : Addr} {H H' : Hp} (k : Kp [p] [p] H H') (h : p ∈ S) : Kp S S H H' :=
  ⟨fun b o e n => k.kept b o e fun m => n (by rw [List.mem_singleton.mp m]; exact h), fun _ m => .inl m, k.tups⟩
theorem Kp.inT {S T : List Addr} {x : Addr} {H H' : Hp} (k : Kp [x] T H H') (h : x ∈ S) : Kp S (T ++ S) H H' :=
  ⟨fun b o e n => k.kept b o e fun m => n (by rw [List.mem_singleton.mp m]; exact h), fun b m => by
    rcases List.mem_append.mp m with z | z
    · exact (k.own b z).imp (fun z => by rw [List.mem_singleton.mp z]; exact h) id
    · exact .inl z, k.tups⟩
theorem live0 {L T : List Addr} {H H' : Hp} (k : Kp [] T H H') (lv : ∀ b ∈ L, ∃ o, H b = some o) : ∀ b ∈ L, ∃ o, H' b = some o := fun b hb => by
  obtain ⟨o, e⟩ := lv b hb
  exact ⟨o, k.kept _ _ e none_in⟩
theorem live1 {L T : List Addr} {p : Addr} {o' : HO} {H H' : Hp} (k : Kp [p] T H H') (hp : H' p = some o') (lv : ∀ b ∈ L, ∃ o, H b = some o) : ∀ b ∈ L, ∃ o, H' b = some o := fun b hb => by
  obtain ⟨o, e⟩ := lv b hb
  by_cases z : b = p
  · rw [z]; exact ⟨_, hp⟩
  · exact ⟨o, k.kept _ _ e (not1 z)⟩
theorem live2 {L : List Addr} {q : Addr} {o : HO} {H : Hp} (h : H q = some o) (lv : ∀ b ∈ L, ∃ o, H b = some o) : ∀ b ∈ q :: L, ∃ o, H b = some o := fun b hb => by
  rcases List.mem_cons.mp hb with z | z
  · rw [z]; exact ⟨o, h⟩
  · exact lv b z
theorem dead {L : List Addr} {q : Addr} {H : Hp} (h : H q = none) (lv : ∀ b ∈ L, ∃ o, H b = some o) : q ∉ L := fun m => by
  obtain ⟨o, e⟩ := lv q m
  rw [h] at e; cases e
/-- what is owned and what is added -/
theorem Kp.one {p q : Addr} {H H' : Hp} (k : Kp [] [q] H H') : Kp [p] [p, q] H H' :=
  ⟨fun b o e _ => k.kept b o e none_in, fun b m => by
    rcases List.mem_cons.mp m with z | z
    · exact .inl (by simp [z])
    · exact (k.own b z).imp (fun h => by cases h) id, k.tups⟩
def BD.init (ns : List Int) (l : List (Int × Int)) : BD :=
  { m := ⟨ns ++ List.replicate (512 - ns.length) 65535, List.replicate 256 0, List.replicate 6 0⟩, ln := l, a := 0, b := 0, pc := 0, sp := 767, zero := false, lets := false, asleep := false, beat := 0, stop := none, sent := [], tc := [], bend := 0 }
theorem rep_flat (n : Nat) (x : Int) : (List.replicate n [V.int x]).flatten = (List.replicate n x).map V.int := by
  induction n with
  | zero => rfl
  | succ n ih => rw [List.replicate_succ, List.flatten_cons, ih, List.replicate_succ, List.map_cons]; rfl
theorem sorted_eq : ∀ {xs ys : List Int}, xs.Pairwise (· < ·) → ys.Pairwise (· < ·) → (∀ k, k ∈ xs ↔ k ∈ ys) → xs = ys
  | [], [], _, _, _ => rfl
  | [], y :: r, _, _, h => absurd ((h y).mpr (by simp)) (by simp)
  | x :: r, [], _, _, h => absurd ((h x).mp (by simp)) (by simp)
  | x :: r, y :: q, h1, h2, h => by
    obtain ⟨a1, a2⟩ := List.pairwise_cons.mp h1
    obtain ⟨b1, b2⟩ := List.pairwise_cons.mp h2
    have e : x = y := by
      have m1 := (h x).mp (by simp)
      have m2 := (h y).mpr (by simp)
      rcases List.mem_cons.mp m1 with z | z
      · exact z
      · rcases List.mem_cons.mp m2 with z2 | z2
        · exact z2.symm
        · have := b1 x z; have := a1 y z2; omega
    subst e
    congr 1
    refine sorted_eq a2 b2 fun k => ⟨fun m => ?_, fun m => ?_⟩
    · rcases List.mem_cons.mp ((h k).mp (List.mem_cons_of_mem _ m)) with z | z
      · subst z; exact absurd (a1 k m) (by omega)
      · exact z
    · rcases List.mem_cons.mp ((h k).mpr (List.mem_cons_of_mem _ m)) with z | z
      · subst z; exact absurd (b1 k m) (by omega)
      · exact z
structure LineOk (l : List (Int × Int)) : Prop where
  up : (l.map (·.1)).Pairwise (· < ·)
  pos : ∀ p ∈ l, 0 < p.1
  val : ∀ p ∈ l, 0 ≤ p.2 ∧ p.2 < 4
theorem tup_at {H : Hp} : ∀ {vs : List V} {l : List (Int × Int)} {i : Nat} {v : V}, Tups H vs (sentT l) → vs[i]? = some v → ∃ (t : Addr) (x : Int × Int), v = .ref t ∧ H t = some (.tup [.int x.1, .int x.2]) ∧ l[i]? = some x
  | _, [], i, v, .nil, h => by simp at h
  | _, x :: r, 0, v, .cons ⟨t, e, ht⟩ _, h => ⟨t, x, (Option.some.inj h).symm.trans e, ht, rfl⟩
  | _, x :: r, i + 1, v, .cons _ q, h => tup_at (l := r) (i := i) q h
theorem take_snoc {α : Type} {l : List α} {i : Nat} {x : α} (h : l[i]? = some x) : l.take (i + 1) = l.take i ++ [x] := by rw [List.take_add_one, h]; rfl
section
variable {P : Program} {w : World} {K : PySem.W.Frag} {mg : Str → Option Value} {base : Heap}
def sp_is_word (K : PySem.W.Frag) : Sp := fun vs H Q E_ => ∃ (n : Int), vs = [.int n] ∧ (Q (.bl (decide (0 ≤ n ∧ n ≤ 65535))) H)
abbrev N_is_word : List Str := ["thing"]
theorem sc_is_word : FnScope N_is_word ["thing"] (defScope s_is_word) := ⟨rfl, rfl, rfl, by decide +kernel, rfl, by decide +kernel, by decide +kernel⟩
theorem ok_is_word (T : Txt K mg) : Ok P w K mg base CX0 1 (He.fAd K ("is_word", none)) ["thing"] (sp_is_word K) := by
  obtain ⟨fd, F⟩ := T.d_is_word
  refine ⟨fd, F.ok sc_is_word (fun vs H Q E h => by obtain ⟨n, rfl, _⟩ := h; rfl) (fun cdv A_ outer s_ H vs Q E hr h => ?_), F.bindsN (fun _ _ _ _ _ _ us hl => match us, hl with | [_], _ => rfl), F.kp⟩
  obtain ⟨n, rfl, h⟩ := h
  have hu := hu_of hr
  refine ⟨_, PSs.nox (pss_one (ps_ret (pe_and (pe_callB call_isi (by rfl) T.f_isinstance (by decide +kernel) (pa_cons (pv 0) (pa_cons (pe_bltn (v := .ty "int") (by rfl) T.f_int (by decide +kernel) rfl) pa_nil))) (pe_and (pe_not (pe_callB call_isi (by rfl) T.f_isinstance (by decide +kernel) (pa_cons (pv 0) (pa_cons (pe_bltn (v := .ty "bool") (by rfl) T.f_bool (by decide +kernel) rfl) pa_nil)))) (pe_one (pe_chain op_le op_le pe_int (pv 0) (gi_ (by rfl) T.c_MOST))))))), ?_⟩
  refine ⟨_, rfl, _, _, _, _, true, rfl, .ty "int", .base (.int n), kit_ty (by decide +kernel), _, rfl, iteT ?_⟩
  refine ⟨_, rfl, _, _, _, _, false, rfl, .ty "bool", .base (.int n), kit_ty (by decide +kernel), _, rfl, _, rfl, iteT ?_⟩
  refine ⟨_, rfl, _, _, rfl, rfl, _, rfl, iteD (fun h1 => ?_) (fun h1 => ?_)⟩
  · refine ⟨_, _, rfl, rfl, ?_⟩
    have e : decide (n ≤ 65535) = decide (0 ≤ n ∧ n ≤ 65535) := by by_cases z : n ≤ 65535 <;> simp [z, h1]
    show Q (.bl (decide (n ≤ 65535))) H
    rw [e]; exact h
  · have e : decide (0 ≤ n ∧ n ≤ 65535) = false := decide_eq_false fun z => h1 z.1
    rw [e] at h; exact h
def sp_is_line (K : PySem.W.Frag) : Sp := fun vs H Q E_ => ∃ (a : Addr) (ls : List V) (l : List (Int × Int)), vs = [.ref a] ∧ (SqL K H a ls ∧ Tups H ls (sentT l) ∧ LineOk l ∧ l.length < 64 ∧ ∀ H', Same H H' → Q (.bl true) H')
abbrev N_is_line : List Str := ["line", "beat", "value", "beats", "good"]
theorem sc_is_line : FnScope N_is_line ["line"] (defScope s_is_line) := ⟨rfl, rfl, rfl, by decide +kernel, rfl, by decide +kernel, by decide +kernel⟩
theorem ok_is_line (T : Txt K mg) : Ok P w K mg base CX0 1 (He.fAd K ("is_line", none)) ["line"] (sp_is_line K) := by
  obtain ⟨fd, F⟩ := T.d_is_line
  refine ⟨fd, F.ok sc_is_line (fun vs H Q E h => by obtain ⟨a, ls, l, rfl, _⟩ := h; rfl) (fun cdv A_ outer s_ H vs Q E hr h => ?_), F.bindsN (fun _ _ _ _ _ _ us hl => match us, hl with | [_], _ => rfl), F.kp⟩
  obtain ⟨a, ls, l, rfl, h⟩ := h
  have hu := hu_of hr
  refine ⟨_, PSs.nox (pss_cons (ps_setLc (i := 3) (own := [("beat", 1), ("value", 2)]) (g := (gTup K 2 (gCons (gName 1) (gCons (gName 2) gNil)))) (tt := tYes) rfl sc_is_line.nd rfl rfl (sw_true rfl rfl rfl (by decide +kernel)) (pi_list (pv 0)) (blkOk_by (own := [("beat", 1), ("value", 2)]) (N := N_is_line) (sc := defScope s_is_line) (by decide +kernel)) (fun _ _ _ _ _ => (pg_tup rfl (pgs_cons (pg_name (i := 1) sc_is_line.nd rfl (.inl rfl)) (pgs_cons (pg_name (i := 2) sc_is_line.nd rfl (.inl rfl)) pgs_nil)))) (fun _ _ _ _ _ => pts_nil) (fun _ _ _ _ _ => (pv 1)))
  (pss_cons (ps_setLc (i := 4) (own := [("beat", 1), ("value", 2)]) (g := (gTup K 2 (gCons (gName 1) (gCons (gName 2) gNil)))) rfl sc_is_line.nd rfl rfl (sw_true rfl rfl rfl (by decide +kernel)) (pi_list (pv 0)) (blkOk_by (own := [("beat", 1), ("value", 2)]) (N := N_is_line) (sc := defScope s_is_line) (by decide +kernel)) (fun _ _ _ _ _ => (pg_tup rfl (pgs_cons (pg_name (i := 1) sc_is_line.nd rfl (.inl rfl)) (pgs_cons (pg_name (i := 2) sc_is_line.nd rfl (.inl rfl)) pgs_nil)))) (fun _ _ _ _ _ => pts_one (pt_chain op_le op_lt pe_int (pv 2) pe_int)) (fun _ _ _ _ _ => (pv 2)))
  (pss_one (ps_ret (pe_and (pe_cmpR op_eq (pe_callB call_len_seq (by rfl) T.f_len PySem.boot_len (pa_cons (pv 4) pa_nil)) (pe_callB call_len_seq (by rfl) T.f_len PySem.boot_len (pa_cons (pv 0) pa_nil)) (nomark _)) (pe_and (pe_cmpR (op_eqD hr.units) (pv 3) (pe_callB (cr_sortedSet rfl) (by rfl) T.f_sorted (by decide +kernel) (pa_cons (pe_callTy (cr_setL rfl) (by rfl) T.f_set (by decide +kernel) (pa_cons (pv 3) pa_nil)) pa_nil)) (nomark _)) (pe_one (pe_or (pe_cmpR (op_eqD hr.units) (pv 3) (pe_lst pa_nil) (nomark _)) (pe_one (pe_cmpR op_gt (pe_ix ix_list (pv 3) pe_int (fun _ _ => rfl)) pe_int (nomark _))))))))))), ?_⟩
  obtain ⟨hs, ht, ok, hl, q⟩ := h
  have len : ls.length = l.length := by have e := Paired.length ht; unfold sentT at e; rwa [List.length_map] at e
  have s0 : 0 ≤ sizeLine := by decide
  -- beats
  refine ⟨_, rfl, _, rfl, ⟨_, hs⟩, fun b nb => lc_list (K := K) (a := a) (xs := ls) (fun i H1 => Same H H1 ∧ H1 b = some (.lst (((l.take i).map (·.1)).map V.int))) ⟨fun c o e => by rw [upd_ne (ne_of_none e nb)]; exact e, upd_same⟩ (fun i H1 _ p => p.1.seq hs) ?_ ?_⟩
  · rintro i v H1 hi ⟨sm, hb⟩
    obtain ⟨t, x, rfl, hx, hlx⟩ := tup_at ht hi
    have il := (List.getElem?_eq_some_iff.mp hlx).1
    refine ⟨_, _, rfl, SqT.of (sm _ _ hx), rfl, _, _, rfl, _, _, rfl, rfl, rfl, _, rfl, _, hb, small_ (by simp; omega), ?_, ?_⟩
    · intro c o e
      rw [upd_ne (ne_of_none e nb)]; exact sm c o e
    · rw [upd_same, take_snoc hlx, List.map_append, List.map_append]; rfl
  rintro H1 ⟨s1, hb⟩
  rw [len, List.take_length] at hb
  -- good
  refine ⟨_, rfl, _, rfl, ⟨_, s1.seq hs⟩, fun g ng => lc_list (K := K) (a := a) (xs := ls) (fun i H2 => Same H1 H2 ∧ H2 g = some (.lst (((l.take i).map (·.2)).map V.int))) ⟨fun c o e => by rw [upd_ne (ne_of_none e ng)]; exact e, upd_same⟩ (fun i H2 _ p => p.1.seq (s1.seq hs)) ?_ ?_⟩
  · rintro i v H2 hi ⟨sm, hg⟩
    obtain ⟨t, x, rfl, hx, hlx⟩ := tup_at ht hi
    have il := (List.getElem?_eq_some_iff.mp hlx).1
    obtain ⟨v1, v2⟩ := ok.val x (List.mem_of_getElem? hlx)
    refine ⟨_, _, rfl, SqT.of (sm _ _ (s1 _ _ hx)), rfl, _, _, rfl, _, _, rfl, rfl, rfl, ?_⟩
    refine ⟨_, rfl, _, _, rfl, rfl, _, rfl, iteD (fun _ => ?_) (fun z => absurd v1 z)⟩
    refine ⟨_, _, rfl, rfl, _, rfl, iteD (fun _ => ?_) (fun z => absurd v2 z)⟩
    refine ⟨_, rfl, _, hg, small_ (by simp; omega), ?_, ?_⟩
    · intro c o e
      rw [upd_ne (ne_of_none e ng)]; exact sm c o e
    · rw [upd_same, take_snoc hlx, List.map_append, List.map_append]; rfl
  rintro H2 ⟨s2, hg⟩
  rw [len, List.take_length] at hg
  have s02 := s1.trans s2
  have hb2 := s2 _ _ hb
  refine ⟨_, rfl, _, _, rfl, .inl (SqL.of hg), _, rfl, _, _, rfl, .inl (s02.seq hs), rfl, _, rfl, ?_⟩
  rw [decide_eq_true (show V.int (((l.map (·.2)).map V.int).length : Int) = V.int (ls.length : Int) from by rw [List.length_map, List.length_map, len])]
  refine iteT ?_
  refine ⟨_, rfl, _, rfl, _, _, rfl, SqL.of hb2, by rw [List.length_map]; omega, fun p c hc np => ?_⟩
  refine ⟨_, _, _, rfl, upd_same, by rw [List.length_map] at hc; omega, fun ns d up mem_ nlen nd => ?_⟩
  have en : ns = l.map (·.1) := sorted_eq up ok.up fun k => by rw [mem_ k]; simp
  subst en
  have hb3 : (upd (upd H2 p (SetO w p (fun j => decide (j ∈ l.map (·.1))) c)) d (.lst ((l.map (·.1)).map V.int))) b = some (.lst ((l.map (·.1)).map V.int)) := by
    have h1 : (upd H2 p (SetO w p (fun j => decide (j ∈ l.map (·.1))) c)) b = some (.lst ((l.map (·.1)).map V.int)) := by rw [upd_ne (ne_of_none hb2 np)]; exact hb2
    rw [upd_ne (ne_of_none h1 nd)]; exact h1
  have s3 : Same H (upd (upd H2 p (SetO w p (fun j => decide (j ∈ l.map (·.1))) c)) d (.lst ((l.map (·.1)).map V.int))) := fun x o e => by
    have h1 : (upd H2 p (SetO w p (fun j => decide (j ∈ l.map (·.1))) c)) x = some o := by rw [upd_ne (ne_of_none (s02 _ _ e) np)]; exact s02 _ _ e
    rw [upd_ne (ne_of_none h1 nd)]; exact h1
  refine ⟨_, _, dpL (SqL.of hb3), dpL (SqL.of upd_same), shp_ints _, shp_ints _, _, rfl, ?_⟩
  rw [eqv_intL, decide_eq_true rfl]
  refine iteT ?_
  refine ⟨_, rfl, s0, fun e0 ne0 => ?_⟩
  refine ⟨_, _, dpL (SqL.of ((upd_ne (ne_of_none hb3 ne0)).trans hb3)), dpL (xs := []) (SqL.of upd_same), shp_ints _, shp_ints _, _, rfl, ?_⟩
  rw [eqv_intL]
  have s4 : Same H (upd _ e0 (.lst [])) := fun x o e => (upd_ne (ne_of_none (s3 _ _ e) ne0)).trans (s3 _ _ e)
  cases l with
  | nil => exact iteT (q _ s4)
  | cons x r =>
    refine iteF ?_
    refine ⟨_, rfl, _, _, _, _, rfl, rfl, SqL.of ((upd_ne (ne_of_none hb3 ne0)).trans hb3), atI_nat (j := 0) rfl, _, _, rfl, rfl, ?_⟩
    show Q (.bl (decide (0 < x.1))) _
    rw [decide_eq_true (ok.pos x (by simp))]
    exact q _ s4
end

theorem merge_nil (l : List (Int × Int)) (h : (l.map (·.1)).Pairwise (· < ·)) : mergeK [] (lineK l) = lineK l := by
  have go : ∀ (r : List (Int × Int)) (acc : List (Key × V)), (r.map (·.1)).Pairwise (· < ·) → (∀ p ∈ r, valV acc (Sum.inl p.1 : Key) = none) → mergeK acc (lineK r) = acc ++ lineK r := by
    intro r
    induction r with
    | nil => intro acc _ _; exact (List.append_nil acc).symm
    | cons x r ih =>
      intro acc hp hn
      obtain ⟨h1, h2⟩ := List.pairwise_cons.mp (show (x.1 :: r.map (·.1)).Pairwise (· < ·) from hp)
      show mergeK (putK acc (Sum.inl x.1) (V.int x.2)) (lineK r) = _
      rw [putK_new _ (hn x (by simp)), ih _ h2 (fun p hp2 => by
        rw [valV_snoc _ _ _ _ (hn x (by simp))]
        rw [if_neg]
        · exact hn p (List.mem_cons_of_mem _ hp2)
        · intro e
          have := h1 p.1 (List.mem_map_of_mem hp2)
          have e2 := Sum.inl.inj e
          omega)]
      rw [List.append_assoc]; rfl
  have := go l [] h (fun _ _ => rfl)
  rw [this]; rfl
section
variable {P : Program} {w : World} {K : PySem.W.Frag} {mg : Str → Option Value} {base : Heap}
def sp_Memory_init (K : PySem.W.Frag) : Sp := fun vs H Q E_ => ∃ (p dx a : Addr) (ns : List Int), vs = [.ref p, .ref a] ∧ (H p = some (.ins (He.ga K "Memory") dx []) ∧ SqL K H a (ns.map V.int) ∧ ns.length ≤ 512 ∧ ∀ H' A, MemAt K H' A ⟨ns ++ List.replicate (512 - ns.length) 65535, List.replicate 256 0, List.replicate 6 0⟩ → A.p = p → Kp [p] A.own H H' → [A.f, A.r, A.pl].Nodup → Q .non H')
abbrev N_Memory_init : List Str := ["self", "image"]
theorem sc_Memory_init : FnScope N_Memory_init ["self", "image"] (defScope s_Memory_init) := ⟨rfl, rfl, rfl, by decide +kernel, rfl, by decide +kernel, by decide +kernel⟩
theorem ok_Memory_init (T : Txt K mg) : Ok P w K mg base CX0 1 (He.fAd K ("Memory", some "__init__")) ["self", "image"] (sp_Memory_init K) := by
  obtain ⟨fd, F⟩ := T.d_Memory_init
  refine ⟨fd, F.ok sc_Memory_init (fun vs H Q E h => by obtain ⟨p, dx, a, ns, rfl, _⟩ := h; rfl) (fun cdv A_ outer s_ H vs Q E hr h => ?_), F.bindsN (fun _ _ _ _ _ _ us hl => match us, hl with | [_, _], _ => rfl), F.kp⟩
  obtain ⟨p, dx, a, ns, rfl, h⟩ := h
  have hu := hu_of hr
  refine ⟨_, PSs.nox (pss_cons (ps_fld (pv 0) (pe_op op_cat (pe_callTy call_list_of (by rfl) T.f_list (by decide +kernel) (pa_cons (pv 1) pa_nil)) (pe_op op_rep (pe_lst (pa_cons (gi_ (by rfl) T.c_ERASED) pa_nil)) (pe_op op_sub (gi_ (by rfl) T.c_FLASH) (pe_callB call_len_seq (by rfl) T.f_len PySem.boot_len (pa_cons (pv 1) pa_nil))))) rfl)
  (pss_cons (ps_fld (pv 0) (pe_op op_rep (pe_lst (pa_cons pe_int pa_nil)) (pe_op op_sub (gi_ (by rfl) T.c_RAM) (gi_ (by rfl) T.c_FLASH))) rfl)
  (pss_one (ps_fld (pv 0) (pe_op op_rep (pe_lst (pa_cons pe_int pa_nil)) pe_int) rfl)))), ?_⟩
  obtain ⟨hp, ha, hl, q⟩ := h
  have s1 : 1 ≤ sizeLine := by decide
  refine ⟨_, rfl, a, _, rfl, .inl ha, fun l1 n1 => ?_⟩
  have k1 := Kp.newIn (S := []) (o := .lst (ns.map V.int)) n1
  have h1 : (upd H l1 (.lst (ns.map V.int))) l1 = some (.lst (ns.map V.int)) := upd_same
  generalize upd H l1 (.lst (ns.map V.int)) = H1 at *
  refine ⟨s1, fun l2 n2 => ?_⟩
  have k2 := Kp.newIn (S := []) (o := .lst [V.int 65535]) n2
  have h2 : (upd H1 l2 (.lst [V.int 65535])) l2 = some (.lst [V.int 65535]) := upd_same
  generalize upd H1 l2 (.lst [V.int 65535]) = H2 at *
  have ha2 := k2.seq none_in (k1.seq none_in ha)
  have hp2 := k2.kept _ _ (k1.kept _ _ hp none_in) none_in
  have h12 := k2.kept _ _ h1 none_in
  have et : ((512 : Int) - ((ns.map V.int).length : Int)).toNat = 512 - ns.length := by rw [List.length_map]; omega
  refine ⟨_, rfl, a, _, rfl, .inl ha2, _, _, rfl, rfl, _, _, _, rfl, rfl, h2, ?_, ?_, ?_, fun l3 n3 => ?_⟩
  · rw [List.length_map]; omega
  · rw [List.length_map]; omega
  · rw [List.length_map]; exact small_le (by simp; omega)
  rw [et, rep_flat]
  have k3 := Kp.newIn (S := []) (o := .lst ((List.replicate (512 - ns.length) (65535 : Int)).map V.int)) n3
  have h3 : (upd H2 l3 (.lst ((List.replicate (512 - ns.length) (65535 : Int)).map V.int))) l3 = some _ := upd_same
  generalize upd H2 l3 (.lst ((List.replicate (512 - ns.length) (65535 : Int)).map V.int)) = H3 at *
  have h13 := k3.kept _ _ h12 none_in
  have hp3 := k3.kept _ _ hp2 none_in
  refine ⟨_, _, _, _, rfl, rfl, h13, h3, small_le (by simp; omega), fun l4 n4 => ?_⟩
  rw [← List.map_append]
  have k4 := Kp.newIn (S := []) (o := .lst ((ns ++ List.replicate (512 - ns.length) (65535 : Int)).map V.int)) n4
  have h4 : (upd H3 l4 (.lst ((ns ++ List.replicate (512 - ns.length) (65535 : Int)).map V.int))) l4 = some _ := upd_same
  generalize upd H3 l4 (.lst ((ns ++ List.replicate (512 - ns.length) (65535 : Int)).map V.int)) = H4 at *
  have hp4 := k4.kept _ _ hp3 none_in
  refine ⟨_, rfl, _, _, _, _, rfl, hp4, T.k_Memory, T.n_Memory_flash, (by show 0 < 1000; decide), goF hp4 fun H5 hp5 k5 => ?_⟩
  have n4p : l4 ≠ p := fun e => by rw [e, hp3] at n4; cases n4
  have h45 := k5.at1 h4 (by simpa using n4p)
  -- self.ram = [0] * (RAM - FLASH)
  refine ⟨s1, fun l5 n5 => ?_⟩
  have k6 := Kp.newIn (S := []) (o := .lst [V.int 0]) n5
  have h6 : (upd H5 l5 (.lst [V.int 0])) l5 = some (.lst [V.int 0]) := upd_same
  generalize upd H5 l5 (.lst [V.int 0]) = H6 at *
  refine ⟨_, _, rfl, rfl, _, _, _, rfl, rfl, h6, by decide, by decide, small_le (by decide), fun l6 n6 => ?_⟩
  rw [rep_flat]
  have k7 := Kp.newIn (S := []) (o := .lst ((List.replicate 256 (0 : Int)).map V.int)) n6
  have h7 : (upd H6 l6 (.lst ((List.replicate 256 (0 : Int)).map V.int))) l6 = some _ := upd_same
  have e7 : (upd H6 l6 (.lst ((List.replicate ((768 : Int) - 512).toNat (0 : Int)).map V.int))) = (upd H6 l6 (.lst ((List.replicate 256 (0 : Int)).map V.int))) := rfl
  rw [e7]
  generalize upd H6 l6 (.lst ((List.replicate 256 (0 : Int)).map V.int)) = H7 at *
  have hp7 := k7.kept _ _ (k6.kept _ _ hp5 none_in) none_in
  have h47 := k7.kept _ _ (k6.kept _ _ h45 none_in) none_in
  have n6p : l6 ≠ p := fun e => by rw [e, k6.kept _ _ hp5 none_in] at n6; cases n6
  have n64 : l6 ≠ l4 := fun e => by rw [e, k6.kept _ _ h45 none_in] at n6; cases n6
  refine ⟨_, rfl, _, _, _, _, rfl, hp7, T.k_Memory, T.n_Memory_ram, (by show 1 < 1000; decide), goF hp7 fun H8 hp8 k8 => ?_⟩
  have h48 := k8.at1 h47 (by simpa using n4p)
  have h68 := k8.at1 h7 (by simpa using n6p)
  -- self.places = [0] * 6
  refine ⟨s1, fun l7 n7 => ?_⟩
  have k9 := Kp.newIn (S := []) (o := .lst [V.int 0]) n7
  have h9 : (upd H8 l7 (.lst [V.int 0])) l7 = some (.lst [V.int 0]) := upd_same
  generalize upd H8 l7 (.lst [V.int 0]) = H9 at *
  refine ⟨_, _, _, rfl, rfl, h9, by decide, by decide, small_le (by decide), fun l8 n8 => ?_⟩
  rw [rep_flat]
  have kA := Kp.newIn (S := []) (o := .lst ((List.replicate 6 (0 : Int)).map V.int)) n8
  have hA : (upd H9 l8 (.lst ((List.replicate 6 (0 : Int)).map V.int))) l8 = some _ := upd_same
  have e8 : (upd H9 l8 (.lst ((List.replicate (6 : Int).toNat (0 : Int)).map V.int))) = (upd H9 l8 (.lst ((List.replicate 6 (0 : Int)).map V.int))) := rfl
  rw [e8]
  generalize upd H9 l8 (.lst ((List.replicate 6 (0 : Int)).map V.int)) = HA at *
  have hpA := kA.kept _ _ (k9.kept _ _ hp8 none_in) none_in
  have h4A := kA.kept _ _ (k9.kept _ _ h48 none_in) none_in
  have h6A := kA.kept _ _ (k9.kept _ _ h68 none_in) none_in
  have n8p : l8 ≠ p := fun e => by rw [e, k9.kept _ _ hp8 none_in] at n8; cases n8
  have n84 : l8 ≠ l4 := fun e => by rw [e, k9.kept _ _ h48 none_in] at n8; cases n8
  have n86 : l8 ≠ l6 := fun e => by rw [e, k9.kept _ _ h68 none_in] at n8; cases n8
  refine ⟨_, rfl, _, _, _, _, rfl, hpA, T.k_Memory, T.n_Memory_places, (by show 2 < 1000; decide), goF hpA fun HB hpB kB => ?_⟩
  refine q HB ⟨p, dx, l4, l6, l8⟩ ⟨?_, kB.at1 h4A (by simpa using n4p), kB.at1 h6A (by simpa using n6p), kB.at1 hA (by simpa using n8p), by simp; omega, by simp, by simp⟩ rfl ?_ (by simp [n64.symm, n84.symm, n86.symm])
  · exact hpB
  · have a1 : Kp [p] [l4, p] H H5 := (k1.drop.trans (k2.drop.trans (k3.drop.trans k4.add))).trans (k5.inS (by simp))
    have a2 : Kp [l4, p] [l6, l4, p] H5 H8 := (k6.drop.trans k7.add).trans (k8.inS (by simp))
    have a3 : Kp [l6, l4, p] [l8, l6, l4, p] H8 HB := (k9.drop.trans kA.add).trans (kB.inS (by simp))
    exact (a1.trans (a2.trans a3)).sub fun b hb => by
      simp only [MA.own, List.mem_cons, List.not_mem_nil, or_false] at hb ⊢
      rcases hb with h | h | h | h <;> simp [h]
end

theorem tups_pairs {K : PySem.W.Frag} {H : Hp} : ∀ {ls : List V} {l : List (Int × Int)}, Tups H ls (sentT l) → ∃ ps : List Addr, ls = ps.map V.ref ∧ Paired (fun p (kv : Key × V) => SqT K H p [kV kv.1, kv.2]) ps (lineK l)
  | _, [], .nil => ⟨[], rfl, .nil⟩
  | _, x :: r, .cons ⟨t, e, h⟩ q => by
    obtain ⟨ps, e2, h2⟩ := tups_pairs (K := K) (l := r) q
    exact ⟨t :: ps, by rw [e, e2]; rfl, .cons (SqT.of h) h2⟩
theorem Same.tups {H H' : Hp} (s : Same H H') {ls : List V} {xss : List (List V)} (h : Tups H ls xss) : Tups H' ls xss := h.mono fun b xs e => s b _ e
section
variable {P : Program} {w : World} {K : PySem.W.Frag} {mg : Str → Option Value} {base : Heap}
def sp_Board_init (K : PySem.W.Frag) : Sp := fun vs H Q E_ => ∃ (p dx a al : Addr) (ns : List Int) (ls : List V) (l : List (Int × Int)), vs = [.ref p, .ref a, .ref al] ∧ (H p = some (.ins (He.ga K "Board") dx []) ∧ SqL K H a (ns.map V.int) ∧ H al = some (.lst ls) ∧ Tups H ls (sentT l) ∧ LineOk l ∧ l.length < 64 ∧ ns.length ≤ 512 ∧ (∀ n ∈ ns, 0 ≤ n ∧ n ≤ 65535) ∧ ∀ H' A, BoardAt K H' A (BD.init ns l) → A.p = p → Kp [p] A.own H H' → Q .non H')
abbrev N_Board_init : List Str := ["self", "image", "line", "word"]
theorem sc_Board_init : FnScope N_Board_init ["self", "image", "line"] (defScope s_Board_init) := ⟨rfl, rfl, rfl, by decide +kernel, rfl, by decide +kernel, by decide +kernel⟩
theorem ok_Board_init (T : Txt K mg) : Ok P w K mg base CX0 3 (He.fAd K ("Board", some "__init__")) ["self", "image", "line"] (sp_Board_init K) := by
  obtain ⟨_, G_is_word, b_is_word, kp_is_word⟩ := ok_is_word (P := P) (w := w) (base := base) T
  obtain ⟨_, G_is_line, b_is_line, kp_is_line⟩ := ok_is_line (P := P) (w := w) (base := base) T
  obtain ⟨_, G_Memory_init, b_Memory_init, kp_Memory_init⟩ := ok_Memory_init (P := P) (w := w) (base := base) T
  obtain ⟨fd, F⟩ := T.d_Board_init
  refine ⟨fd, F.ok sc_Board_init (fun vs H Q E h => by obtain ⟨p, dx, a, al, ns, ls, l, rfl, _⟩ := h; rfl) (fun cdv A_ outer s_ H vs Q E hr h => ?_), F.bindsN (fun _ _ _ _ _ _ us hl => match us, hl with | [_, _, _], _ => rfl), F.kp⟩
  obtain ⟨p, dx, a, al, ns, ls, l, rfl, h⟩ := h
  have hu := hu_of hr
  refine ⟨_, PSs.nox (pss_cons (ps_if (PW.pt (pw_or (pt_cmpR op_gt (pe_callB call_len_seq (by rfl) T.f_len PySem.boot_len (pa_cons (pv 1) pa_nil)) (gi_ (by rfl) T.c_FLASH) (nomark _)) (pw_or (pt_not (pt_val (pe_callB (cr_all rfl) (by rfl) T.f_all (by decide +kernel) (pa_cons (pe_lc (own := [("word", 3)]) (g := gName 3) (tt := tYes) rfl sc_Board_init.nd (pi_list (pv 1)) (blkOk_by (own := [("word", 3)]) (N := N_Board_init) (sc := defScope s_Board_init) (by decide +kernel)) (fun _ _ _ _ _ => pg_name (i := 3) sc_Board_init.nd rfl (Or.inl rfl)) (fun _ _ _ _ _ => pts_nil) (fun _ _ _ _ _ => (pe_call G_is_word (hr.mono (by decide)) (by rfl) T.g_is_word kp_is_word b_is_word .nil pass0 (pa_cons (pv 3) pa_nil)))) pa_nil)))) (pw_or1 (pt_not (pt_val (pe_call G_is_line (hr.mono (by decide)) (by rfl) T.g_is_line kp_is_line b_is_line .nil pass0 (pa_cons (pv 2) pa_nil)))))))) (pss_one ps_never) pss_nil)
  (pss_cons (ps_fld (pv 0) (pe_make T.mk_Memory G_Memory_init (hr.mono (by decide)) (by rfl) T.g_Memory b_Memory_init .nil pass0 (pa_cons (pv 1) pa_nil)) rfl)
  (pss_cons (ps_fld (pv 0) (pe_callTy (call_dictP rfl) (by rfl) T.f_dict (by decide +kernel) (pa_cons (pv 2) pa_nil)) rfl)
  (pss_cons (ps_fld (pv 0) (pe_disp (pps_cons pe_str pe_int (pps_cons pe_str pe_int (pps_cons pe_str pe_int (pps_cons pe_str (gi_ (by rfl) T.c_FIRST_STACK) pps_nil)))) (by rfl) (by rfl) (fun z => by cases z) (by decide)) rfl)
  (pss_cons (ps_fld (pv 0) pe_bl rfl)
  (pss_cons (ps_fld (pv 0) pe_bl rfl)
  (pss_cons (ps_fld (pv 0) pe_bl rfl)
  (pss_cons (ps_fld (pv 0) pe_int rfl)
  (pss_cons (ps_fld (pv 0) pe_non rfl)
  (pss_cons (ps_fld (pv 0) (pe_lst pa_nil) rfl)
  (pss_cons (ps_fld (pv 0) (pe_lst pa_nil) rfl)
  (pss_one (ps_fld (pv 0) pe_int rfl))))))))))))), ?_⟩
  obtain ⟨hp, ha, hal, htu, lok, ll, hl, hw, q⟩ := h
  have s0 : 0 ≤ sizeLine := by decide
  refine ⟨_, rfl, _, _, rfl, .inl ha, _, _, rfl, rfl, _, rfl, iteD (fun z => absurd (show (512 : Int) < ((ns.map V.int).length : Int) from z) (by rw [List.length_map]; omega)) (fun _ => ?_)⟩
  refine ⟨_, rfl, _, rfl, ⟨_, ha⟩, fun b nb => lc_list (K := K) (a := a) (xs := ns.map V.int) (fun i H1 => Same H H1 ∧ H1 b = some (.lst ((List.replicate i true).map V.bl))) ⟨fun c o e => by rw [upd_ne (ne_of_none e nb)]; exact e, upd_same⟩ (fun i H1 _ p => p.1.seq ha) ?_ ?_⟩
  · rintro i v H1 hi ⟨sm, hb⟩
    rw [List.getElem?_map] at hi
    cases hz : ns[i]? with
    | none => rw [hz] at hi; cases hi
    | some n =>
      rw [hz] at hi
      have ev : v = .int n := (Option.some.inj hi).symm
      subst ev
      have il := (List.getElem?_eq_some_iff.mp hz).1
      refine ⟨rfl, _, rfl, n, rfl, _, hb, small_ (by simp; omega), ?_, ?_⟩
      · intro c o e
        rw [upd_ne (ne_of_none e nb)]; exact sm c o e
      · rw [upd_same, decide_eq_true (hw n (List.mem_of_getElem? hz)), List.replicate_succ', List.map_append]; rfl
  rintro H1 ⟨s1, hb⟩
  rw [List.length_map] at hb
  refine ⟨_, _, rfl, SqL.of hb, _, rfl, ?_⟩
  rw [show (List.replicate ns.length true).all id = true from by rw [List.all_eq_true]; intro x hx; exact (List.mem_replicate.mp hx).2]
  refine iteF ?_
  refine ⟨_, rfl, _, _, _, rfl, SqL.of (s1 _ _ hal), htu.mono (fun b xs e => s1 b _ e), lok, ll, fun H2 s2 => ⟨_, rfl, iteF ?_⟩⟩
  have s02 := s1.trans s2
  -- self.memory = Memory(image)
  have hp2 := s02 _ _ hp
  have ha2 := s02.seq ha
  have k02 : Kp [p] [p] H H2 := (Kp.ofSame s02).drop
  refine ⟨_, rfl, fun x dx2 nx ndx nex => ?_⟩
  have hx : (upd (upd H2 dx2 (.own x)) x (.ins (He.ga K "Memory") dx2 [])) x = some (.ins (He.ga K "Memory") dx2 []) := upd_same
  have kA : Kp [] [x] H2 (upd (upd H2 dx2 (.own x)) x (.ins (He.ga K "Memory") dx2 [])) := (Kp.new (S := []) ndx).trans (Kp.newIn (by rw [upd_ne nex.symm]; exact nx))
  generalize (upd (upd H2 dx2 (.own x)) x (.ins (He.ga K "Memory") dx2 [])) = H3 at *
  have hp3 := kA.kept _ _ hp2 none_in
  have nxp : x ≠ p := fun e => by rw [e, hp2] at nx; cases nx
  refine ⟨x, dx2, a, ns, rfl, hx, kA.seq none_in ha2, hl, fun H4 M mem eM kB ndM => ⟨rfl, ?_⟩⟩
  subst eM
  have k24 : Kp [p] (M.own ++ [M.p, p]) H H4 := (k02.trans kA.add).trans (kB.inT (by simp))
  have hp4 := kB.kept _ _ hp3 (not1 nxp.symm)
  have nMp : ∀ b ∈ M.own, b ≠ p := by
    intro b hb
    simp only [MA.own, List.mem_cons, List.not_mem_nil, or_false] at hb
    rcases hb with h | h | h | h <;> rw [h]
    · exact nxp
    · exact ne_of mem.fl hp4 (by intro z; cases z)
    · exact ne_of mem.ra hp4 (by intro z; cases z)
    · exact ne_of mem.pl hp4 (by intro z; cases z)
  have lv4 : ∀ b ∈ p :: M.own, ∃ o, H4 b = some o := live2 hp4 fun b hb => by
    simp only [MA.own, List.mem_cons, List.not_mem_nil, or_false] at hb
    rcases hb with h | h | h | h <;> rw [h]
    · exact ⟨_, mem.ob⟩
    · exact ⟨_, mem.fl⟩
    · exact ⟨_, mem.ra⟩
    · exact ⟨_, mem.pl⟩
  have nd4 : (p :: M.own).Nodup := by
    refine List.nodup_cons.mpr ⟨fun m => nMp p m rfl, ?_⟩
    refine List.nodup_cons.mpr ⟨?_, ndM⟩
    simp only [List.mem_cons, List.not_mem_nil, or_false, not_or]
    exact ⟨mem.npf, mem.npr, mem.npp⟩
  have mkeep : ∀ {Ha Hb : Hp}, MemAt K Ha M ⟨ns ++ List.replicate (512 - ns.length) 65535, List.replicate 256 0, List.replicate 6 0⟩ → Kp [p] [p] Ha Hb → MemAt K Hb M ⟨ns ++ List.replicate (512 - ns.length) 65535, List.replicate 256 0, List.replicate 6 0⟩ := fun m k => m.keep k fun b hb => not1 (nMp b hb)
  have mkeep0 : ∀ {Ha Hb : Hp} {T : List Addr}, MemAt K Ha M ⟨ns ++ List.replicate (512 - ns.length) 65535, List.replicate 256 0, List.replicate 6 0⟩ → Kp [] T Ha Hb → MemAt K Hb M ⟨ns ++ List.replicate (512 - ns.length) 65535, List.replicate 256 0, List.replicate 6 0⟩ := fun m k => m.keep k fun b hb => none_in
  have hal4 : H4 al = some (.lst ls) := kB.kept _ _ (kA.kept _ _ (s02 _ _ hal) none_in) (not1 fun e => by rw [← e, s02 _ _ hal] at nx; cases nx)
  have htu4 : Tups H4 ls (sentT l) := htu.mono k24.tups
  refine ⟨_, rfl, _, _, _, _, rfl, hp4, T.k_Board, T.n_Board_memory, (by show 0 < 1000; decide), goF hp4 fun H5 hp5 k5 => ?_⟩
  have lv5 := live1 k5 hp5 lv4
  have nalp : al ≠ p := ne_of hal4 hp4 (by intro z; cases z)
  have hal5 := k5.at1 hal4 (by simpa using nalp)
  obtain ⟨ps, els, hps⟩ := tups_pairs (K := K) (htu4.mono k5.tups)
  -- self.line = dict(line)
  refine ⟨_, rfl, al, ps, lineK l, rfl, SqL.of (by rw [← els]; exact hal5), hps, fun d nd => ?_⟩
  rw [merge_nil l lok.up]
  have k6 := Kp.newIn (S := []) (o := .dK (lineK l)) nd
  have h6 : (upd H5 d (.dK (lineK l))) d = some _ := upd_same
  generalize upd H5 d (.dK (lineK l)) = H6 at *
  have hp6 := k6.kept _ _ hp5 none_in
  have fd := dead nd lv5
  have lv6 := live2 h6 (live0 k6 lv5)
  have nd6 : (d :: p :: M.own).Nodup := List.nodup_cons.mpr ⟨fd, nd4⟩
  have ndp : d ≠ p := fun e => fd (by simp [e])
  refine ⟨_, rfl, _, _, _, _, rfl, hp6, T.k_Board, T.n_Board_line, (by show 1 < 1000; decide), goF hp6 fun H7 hp7 k7 => ?_⟩
  have lv7 := live1 k7 hp7 lv6
  have hd7 := k7.at1 h6 (by simpa using ndp)
  have mem7 := mkeep (mkeep0 (mkeep mem k5) k6) k7
  -- self.registers
  refine fun r nr => ?_
  refine ⟨upd_same, RegD 0 0 0 767, rfl, (by show 4 ≤ 15; decide), ?_⟩
  rw [upd_upd, show mergeK [] (RegD 0 0 0 767) = RegD 0 0 0 767 from by kernel_rfl]
  have k8 := Kp.newIn (S := []) (o := .dK (RegD 0 0 0 767)) nr
  have h8 : (upd H7 r (.dK (RegD 0 0 0 767))) r = some _ := upd_same
  generalize upd H7 r (.dK (RegD 0 0 0 767)) = H8 at *
  have hp8 := k8.kept _ _ hp7 none_in
  have fr := dead nr lv7
  have lv8 := live2 h8 (live0 k8 lv7)
  have nd8 : (r :: d :: p :: M.own).Nodup := List.nodup_cons.mpr ⟨fr, nd6⟩
  have nrp : r ≠ p := fun e => fr (by simp [e])
  refine ⟨_, rfl, _, _, _, _, rfl, hp8, T.k_Board, T.n_Board_registers, (by show 2 < 1000; decide), goF hp8 fun H9 hp9 k9 => ?_⟩
  refine ⟨_, rfl, _, _, _, _, rfl, hp9, T.k_Board, T.n_Board_zero, (by show 3 < 1000; decide), goF hp9 fun HA hpA kA2 => ?_⟩
  refine ⟨_, rfl, _, _, _, _, rfl, hpA, T.k_Board, T.n_Board_lets, (by show 4 < 1000; decide), goF hpA fun HB hpB kB2 => ?_⟩
  refine ⟨_, rfl, _, _, _, _, rfl, hpB, T.k_Board, T.n_Board_asleep, (by show 5 < 1000; decide), goF hpB fun HC hpC kC => ?_⟩
  refine ⟨_, rfl, _, _, _, _, rfl, hpC, T.k_Board, T.n_Board_beat, (by show 6 < 1000; decide), goF hpC fun HD hpD kD => ?_⟩
  refine ⟨_, rfl, _, _, _, _, rfl, hpD, T.k_Board, T.n_Board_stopped, (by show 7 < 1000; decide), goF hpD fun HE hpE kE => ?_⟩
  have k8E : Kp [p] [p] H8 HE := k9.trans (kA2.trans (kB2.trans (kC.trans (kD.trans kE))))
  have lvE := live1 k8E hpE lv8
  have hdE := k8E.at1 (k8.kept _ _ hd7 none_in) (by simpa using ndp)
  have hrE := k8E.at1 h8 (by simpa using nrp)
  have memE := mkeep (mkeep0 mem7 k8) k8E
  refine ⟨s0, fun sn nsn => ?_⟩
  have kF := Kp.newIn (S := []) (o := .lst []) nsn
  have hF : (upd HE sn (.lst [])) sn = some _ := upd_same
  generalize upd HE sn (.lst []) = HF at *
  have hpF := kF.kept _ _ hpE none_in
  have fsn := dead nsn lvE
  have lvF := live2 hF (live0 kF lvE)
  have ndF : (sn :: r :: d :: p :: M.own).Nodup := List.nodup_cons.mpr ⟨fsn, nd8⟩
  have nsp : sn ≠ p := fun e => fsn (by simp [e])
  refine ⟨_, rfl, _, _, _, _, rfl, hpF, T.k_Board, T.n_Board_sent, (by show 8 < 1000; decide), goF hpF fun HG hpG kG => ?_⟩
  have lvG := live1 kG hpG lvF
  have hsG := kG.at1 hF (by simpa using nsp)
  refine ⟨s0, fun tc ntc => ?_⟩
  have kI := Kp.newIn (S := []) (o := .lst []) ntc
  have hI : (upd HG tc (.lst [])) tc = some _ := upd_same
  generalize upd HG tc (.lst []) = HI at *
  have hpI := kI.kept _ _ hpG none_in
  have ftc := dead ntc lvG
  have ndI : (tc :: sn :: r :: d :: p :: M.own).Nodup := List.nodup_cons.mpr ⟨ftc, ndF⟩
  have ntp : tc ≠ p := fun e => ftc (by simp [e])
  refine ⟨_, rfl, _, _, _, _, rfl, hpI, T.k_Board, T.n_Board_touched, (by show 9 < 1000; decide), goF hpI fun HJ hpJ kJ => ?_⟩
  refine ⟨_, rfl, _, _, _, _, rfl, hpJ, T.k_Board, T.n_Board_bend, (by show 10 < 1000; decide), goF hpJ fun HK hpK kK => ?_⟩
  have kIK := kJ.trans kK
  have kEK0 : Kp [p] [p] HE HK := (kF.drop.trans kG).trans (kI.drop.trans kIK)
  refine q HK ⟨p, dx, d, r, sn, tc, M, .non, [], []⟩ ⟨hpK, kEK0.at1 hdE (by simpa using ndp), kEK0.at1 hrE (by simpa using nrp), (kI.drop.trans kIK).at1 hsG (by simpa using nsp), kIK.at1 hI (by simpa using ntp), rfl, .nil, .nil, mkeep memE kEK0, ?_, Nat.zero_le _, Nat.zero_le _⟩ rfl ?_
  · show [p, d, r, sn, tc, M.p, M.f, M.r, M.pl].Nodup
    have h : [tc, sn, r, d, p, M.p, M.f, M.r, M.pl].Nodup := ndI
    have n (i j : Nat) {a b : Addr} (ha : [tc, sn, r, d, p, M.p, M.f, M.r, M.pl][i]? = some a) (hb : [tc, sn, r, d, p, M.p, M.f, M.r, M.pl][j]? = some b) (hij : i ≠ j) : ¬ a = b := ndne h i j ha hb hij
    simp only [List.nodup_cons, List.mem_cons, List.not_mem_nil, or_false, not_or]
    refine ⟨⟨n 4 3 rfl rfl ?_, n 4 2 rfl rfl ?_, n 4 1 rfl rfl ?_, n 4 0 rfl rfl ?_, n 4 5 rfl rfl ?_, n 4 6 rfl rfl ?_, n 4 7 rfl rfl ?_, n 4 8 rfl rfl ?_⟩, ⟨n 3 2 rfl rfl ?_, n 3 1 rfl rfl ?_, n 3 0 rfl rfl ?_, n 3 5 rfl rfl ?_, n 3 6 rfl rfl ?_, n 3 7 rfl rfl ?_, n 3 8 rfl rfl ?_⟩, ⟨n 2 1 rfl rfl ?_, n 2 0 rfl rfl ?_, n 2 5 rfl rfl ?_, n 2 6 rfl rfl ?_, n 2 7 rfl rfl ?_, n 2 8 rfl rfl ?_⟩, ⟨n 1 0 rfl rfl ?_, n 1 5 rfl rfl ?_, n 1 6 rfl rfl ?_, n 1 7 rfl rfl ?_, n 1 8 rfl rfl ?_⟩, ⟨n 0 5 rfl rfl ?_, n 0 6 rfl rfl ?_, n 0 7 rfl rfl ?_, n 0 8 rfl rfl ?_⟩, ⟨n 5 6 rfl rfl ?_, n 5 7 rfl rfl ?_, n 5 8 rfl rfl ?_⟩, ⟨n 6 7 rfl rfl ?_, n 6 8 rfl rfl ?_⟩, n 7 8 rfl rfl ?_, ?_⟩
    all_goals first | decide | exact ⟨not_false, List.nodup_nil⟩ | simp
  · have a1 : Kp [p] (d :: (M.own ++ [M.p, p])) H H7 := (k24.trans (k5.inS (by simp))).trans (k6.add.trans (k7.inS (by simp)))
    have a2 : Kp (d :: (M.own ++ [M.p, p])) (r :: d :: (M.own ++ [M.p, p])) H7 HE := k8.add.trans (k8E.inS (by simp))
    have a3 : Kp (r :: d :: (M.own ++ [M.p, p])) (sn :: r :: d :: (M.own ++ [M.p, p])) HE HG := kF.add.trans (kG.inS (by simp))
    have a4 : Kp (sn :: r :: d :: (M.own ++ [M.p, p])) (tc :: sn :: r :: d :: (M.own ++ [M.p, p])) HG HK := kI.add.trans (kIK.inS (by simp))
    exact (a1.trans (a2.trans (a3.trans a4))).sub fun b hb => by
      simp only [BA.own, List.mem_cons, List.not_mem_nil, or_false] at hb
      simp only [MA.own, List.mem_cons, List.mem_append, List.not_mem_nil, or_false]
      rcases hb with h | h | h | h | h | h | h | h | h <;> simp [h]
end

/-! ### own rules: x is a truth -/
section
variable {X : Cx}
theorem op_isB : OpR X (compareOp .Is) (fun x y H Q => ∃ a b : Bool, x = .bl a ∧ y = .bl b ∧ Q (.bl (decide (a = b))) H) := by
  intro pins s σ H x y v u Q I rx ry h
  obtain ⟨a, b, rfl, rfl, q⟩ := h
  cases rx
  cases ry
  refine wpAny_is_plain (by cases a <;> cases b <;> rfl) (fin_bl I q ?_)
  cases a <;> cases b <;> rfl
theorem op_isnotB : OpR X (compareOp .IsNot) (fun x y H Q => ∃ a b : Bool, x = .bl a ∧ y = .bl b ∧ Q (.bl (!decide (a = b))) H) := by
  intro pins s σ H x y v u Q I rx ry h
  obtain ⟨a, b, rfl, rfl, q⟩ := h
  cases rx
  cases ry
  show wpAny _ _ ((isSame (Value.bool a) (Value.bool b)) >>= fun z => pure (Value.bool (!z))) _ _ s
  exact wpAny_bind (wpAny_isSame_plain (by cases a <;> cases b <;> rfl) (wpAny_pure (fin_bl I q (by cases a <;> cases b <;> rfl))))
theorem pe_fldK {K : PySem.W.Frag} {e : Expr} {f : Str} {pos : Pos} {ta : TE} (hK : X.K = K) (he : PE X e ta) (hb : attributeBase e f X.env (eval e X.env) = eval e X.env) : PE X (.Attribute e f pos) (tFld K ta f) := by
  subst hK; exact pe_fld he hb
end
/-! ### own rule: d.update(e), both tracked dicts -/
def rDUpdate : V → List V → Hp → VK → Prop := fun x vs H Q => ∃ (a b : Addr) (kvs more : List (Key × V)), x = .ref a ∧ vs = [.ref b] ∧ a ≠ b ∧ H a = some (.dK kvs) ∧ H b = some (.dK more) ∧ kvs.length + more.length ≤ sizeLine ∧ Q .non (upd H a (.dK (mergeK kvs more)))
theorem mt_update {X : Cx} : MtR X "dict.update" rDUpdate := by
  intro pins s σ H x vs v us Q I rx rv h
  obtain ⟨a, b, kvs, more, rfl, rfl, hne, e, e2, hz, q⟩ := h
  obtain rfl : v = Value.ref a := rx
  obtain ⟨u, rfl, ru⟩ := rv.one
  obtain rfl : u = Value.ref b := ru
  obtain ⟨z, hd, ws, rel, dd⟩ := dk_of I.hok e
  obtain ⟨z2, hd2, ws2, rel2, dd2⟩ := dk_of I.hok e2
  refine call_meetsIn PySem.F.slot_dict_update dd.typeIs PySem.F.entry_dict_update (PySem.F.args_dict_update_2 _ _) (meets_dict_update (mixKind X.prog X.w) a b hne hd2) ⟨ws, ws2, dd, dd2, by rw [← rel.length, ← rel2.length]; exact hz, fun h' dd' _ hs => ?_⟩
  have he : ∃ q, h'.get? a = some q := let ⟨q, _, _, hq, _⟩ := dd'; ⟨q, hq⟩
  exact ⟨.non, _, d_write (t' := s.toks) I (by rw [e]; exact True.intro) hs he (dk_new (Nat.le_trans (length_mergeK more kvs) hz) hd (KV.merge rel2 rel) dd'), rfl, q⟩
theorem ix_listK {X : Cx} {K : PySem.W.Frag} (hK : X.K = K) : IxR X (rIxL K) := by subst hK; exact ix_list
theorem ix_tupK {X : Cx} {K : PySem.W.Frag} (hK : X.K = K) : IxR X (rIxT K) := by subst hK; exact ix_tup
theorem sl_tupK {X : Cx} {K : PySem.W.Frag} (hK : X.K = K) : SlR X (rSlT K) := by subst hK; exact sl_tup

/-! ### a board that no line, no timer, no interrupt comes upon: its turns in plain words -/
def qD (m : MD) (a b pc sp : Int) (z : Bool) (t : Int) (s : List (Int × Int)) (tc : List (Str × Int)) : BD :=
  { m := m, ln := [], a := a, b := b, pc := pc, sp := sp, zero := z, lets := false, asleep := false, beat := t, stop := none, sent := s, tc := tc, bend := 0 }
def Still (m : MD) : Prop := m.pl.length = 6 ∧ m.place 1 = 0
theorem init_q (ns : List Int) : BD.init ns [] = qD ⟨ns ++ List.replicate (512 - ns.length) 65535, List.replicate 256 0, List.replicate 6 0⟩ 0 0 0 767 false 0 [] [] := rfl
theorem MD.setPlace_same {m : MD} {k : Nat} (h : k < m.pl.length) : m.setPlace k (m.place k) = m := by
  unfold MD.setPlace MD.place
  rw [List.getD_eq_getElem?_getD, List.getElem?_eq_getElem h]
  show ({ m with pl := m.pl.set k m.pl[k] } : MD) = m
  rw [List.set_getElem_self]
theorem q_tick {D : BD} (h : D.ln = []) (q : Still D.m) : D.tick = { D with beat := D.beat + 1 } := by
  unfold BD.tick BD.lineComes
  rw [show ({ D with beat := D.beat + 1 } : BD).ln = [] from h]
  rw [show lineGet [] ({ D with beat := D.beat + 1 } : BD).beat (({ D with beat := D.beat + 1 } : BD).m.place 4) = D.m.place 4 from rfl]
  unfold MD.comes
  rw [show (({ D with beat := D.beat + 1 } : BD).m) = D.m from rfl, if_neg (by omega), MD.setPlace_same (by rw [q.1]; decide)]
  unfold BD.timerGoes
  rw [if_neg (by show ¬ 0 < D.m.place 1; rw [q.2]; decide)]
theorem q_pass {D : BD} (h : D.ln = []) (q : Still D.m) : ∀ n : Nat, D.pass n = { D with beat := D.beat + (n : Int) }
  | 0 => by show D = { D with beat := D.beat + 0 }; rw [Int.add_zero]
  | n + 1 => by
    rw [show D.pass (n + 1) = (D.pass n).tick from rfl, q_pass h q n, q_tick (D := { D with beat := D.beat + (n : Int) }) h q]
    show ({ D with beat := D.beat + (n : Int) + 1 } : BD) = _
    rw [show D.beat + (n : Int) + 1 = D.beat + ((n + 1 : Nat) : Int) by omega]
theorem xor0 {n : Int} (h : 0 ≤ n) : Builtin.bitXor n 0 = n := by
  rw [Bits.bitXor_pp h (by decide)]
  show ((n.toNat ^^^ 0 : Nat) : Int) = n
  rw [Nat.xor_zero]; omega
section
variable {m : MD} {a b pc sp : Int} {z : Bool} {t : Int} {s : List (Int × Int)} {tc : List (Str × Int)} {w x : Int} {k : Nat}
theorem q_turn (h0 : 0 ≤ pc) (h1 : pc < 768) (hw : m.at pc = some w) (hk : w = 1024 * (k : Int) + x) (hx : 0 ≤ x ∧ x < 1024) (k23 : k < 23 := by decide) (k0 : k ≠ 0 := by decide)
    (hb : barOf m pc (addrs k x b sp).1 (addrs k x b sp).2 = none) :
    (qD m a b pc sp z t s tc).turn = (("deed" : Str), (qD m a b pc sp z t s []).deedA k x (addrs k x b sp)) := by
  unfold BD.turn BD.turnB
  rw [if_neg (by show ¬ (none : Option (List V)).isSome = true; simp), if_neg (by show ¬ (false = true ∧ _); simp)]
  unfold BD.wake
  rw [if_neg (by show ¬ (false = true ∧ _); simp)]
  show (qD m a b pc sp z t s []).deed = _
  unfold BD.deed
  rw [if_neg (by show ¬ (pc < 0 ∨ 768 ≤ pc); omega)]
  show (qD m a b pc sp z t s []).deedW ((m.at pc).getD 0) = _
  rw [hw, show (some w).getD 0 = w from rfl]
  have ek : (w / 1024).toNat = k := by omega
  have ex : w % 1024 = x := by omega
  unfold BD.deedW
  rw [ek, ex, if_neg (by omega), if_neg k0]
  show (qD m a b pc sp z t s []).deedB k x (addrs k x b sp) = _
  unfold BD.deedB
  rw [show barOf (qD m a b pc sp z t s []).m (qD m a b pc sp z t s []).pc (addrs k x b sp).1 (addrs k x b sp).2 = none from hb]
theorem bar0 : barOf m pc [] [] = none := rfl
theorem barG {v : Int} (h : m.at x = some v) : barOf m pc [x] [] = none := by
  unfold barOf barR; rw [h]; rfl
theorem barPu (h : barTo x = none) : barOf m pc [] [x] = none := by
  unfold barOf barP; rw [h]; rfl
theorem barRam (h0 : 512 ≤ x) (h1 : x < 768) : barTo x = none := by
  unfold barTo; rw [if_neg (by omega), if_neg (by omega), if_neg (by omega)]
theorem still_put (q : Still m) (h1 : x < 768) : Still (m.put x w) := by
  unfold MD.put; rw [if_pos h1]; exact q
/-- lit -/
theorem t_lit (q : Still m) (h0 : 0 ≤ pc) (h1 : pc < 768) (hw : m.at pc = some w) (hk : w = 1024 * 1 + x) (hx : 0 ≤ x ∧ x < 1024) :
    ∃ tc', (qD m a b pc sp z t s tc).turn = (("deed" : Str), qD m x b (pc + 1) sp (decide (x = 0)) (t + 1) s tc') := by
  refine ⟨[], ?_⟩
  rw [q_turn (k := 1) h0 h1 hw hk hx (hb := rfl)]
  show (("deed" : Str), (qD m x b (pc + 1) sp (decide (x = 0)) t s []).pass 1) = _
  rw [q_pass rfl q]; rfl
/-- get -/
theorem t_get (q : Still m) (h0 : 0 ≤ pc) (h1 : pc < 768) (hw : m.at pc = some w) (hk : w = 1024 * 2 + x) (hx : 0 ≤ x ∧ x < 1024) {v : Int} (hv : m.at x = some v) (v0 : 0 ≤ v) :
    ∃ tc', (qD m a b pc sp z t s tc).turn = (("deed" : Str), qD m v b (pc + 1) sp (decide (v = 0)) (t + 2) s tc') := by
  refine ⟨[(("r" : Str), x)], ?_⟩
  rw [q_turn (k := 2) h0 h1 hw hk hx (hb := barG hv)]
  show (("deed" : Str), (qD m (Builtin.bitXor ((m.at x).getD 0) 0) b (pc + 1) sp (decide (Builtin.bitXor ((m.at x).getD 0) 0 = 0)) t s [(("r" : Str), x)]).pass 2) = _
  rw [hv, show (some v).getD 0 = v from rfl, xor0 v0, q_pass rfl q]; rfl
/-- tob -/
theorem t_tob (q : Still m) (h0 : 0 ≤ pc) (h1 : pc < 768) (hw : m.at pc = some w) (hk : w = 1024 * 10 + x) (hx : 0 ≤ x ∧ x < 1024) :
    ∃ tc', (qD m a b pc sp z t s tc).turn = (("deed" : Str), qD m a a (pc + 1) sp z (t + 1) s tc') := by
  refine ⟨[], ?_⟩
  rw [q_turn (k := 10) h0 h1 hw hk hx (hb := rfl)]
  show (("deed" : Str), (qD m a a (pc + 1) sp z t s []).pass 1) = _
  rw [q_pass rfl q]; rfl
theorem sent_ram (h : x < 768) : (if x = 773 then s ++ [(t, a)] else s) = s := if_neg (by omega)
/-- put in ram -/
theorem t_put (q : Still m) (h0 : 0 ≤ pc) (h1 : pc < 768) (hw : m.at pc = some w) (hk : w = 1024 * 3 + x) (hx : 512 ≤ x ∧ x < 768) :
    ∃ tc', (qD m a b pc sp z t s tc).turn = (("deed" : Str), qD (m.put x a) a b (pc + 1) sp z (t + 2) s tc') := by
  refine ⟨[(("w" : Str), x)], ?_⟩
  rw [q_turn (k := 3) h0 h1 hw hk (by omega) (hb := barPu (barRam hx.1 hx.2))]
  show (("deed" : Str), (qD (m.put x a) a b (pc + 1) sp z t (if x = 773 then s ++ [(t, a)] else s) [(("w" : Str), x)]).pass 2) = _
  rw [sent_ram hx.2, q_pass rfl (still_put q hx.2)]; rfl
/-- putb in ram -/
theorem t_putb (q : Still m) (h0 : 0 ≤ pc) (h1 : pc < 768) (hw : m.at pc = some w) (hk : w = 1024 * 9 + x) (hx0 : 0 ≤ x ∧ x < 1024) (hx : 512 ≤ x + b ∧ x + b < 768) :
    ∃ tc', (qD m a b pc sp z t s tc).turn = (("deed" : Str), qD (m.put (x + b) a) a b (pc + 1) sp z (t + 2) s tc') := by
  refine ⟨[(("w" : Str), x + b)], ?_⟩
  rw [q_turn (k := 9) h0 h1 hw hk hx0 (hb := barPu (barRam hx.1 hx.2))]
  show (("deed" : Str), (qD (m.put (x + b) a) a b (pc + 1) sp z t (if x + b = 773 then s ++ [(t, a)] else s) [(("w" : Str), x + b)]).pass 2) = _
  rw [sent_ram hx.2, q_pass rfl (still_put q hx.2)]; rfl
/-- push in ram -/
theorem t_push (q : Still m) (h0 : 0 ≤ pc) (h1 : pc < 768) (hw : m.at pc = some w) (hk : w = 1024 * 17 + x) (hx0 : 0 ≤ x ∧ x < 1024) (hx : 512 ≤ sp ∧ sp < 768) :
    ∃ tc', (qD m a b pc sp z t s tc).turn = (("deed" : Str), qD (m.put sp a) a b (pc + 1) (sp - 1) z (t + 2) s tc') := by
  refine ⟨[(("w" : Str), sp)], ?_⟩
  rw [q_turn (k := 17) h0 h1 hw hk hx0 (hb := barPu (barRam hx.1 hx.2))]
  show (("deed" : Str), (qD (m.put sp a) a b (pc + 1) (sp - 1) z t (if sp = 773 then s ++ [(t, a)] else s) [(("w" : Str), sp)]).pass 2) = _
  rw [sent_ram hx.2, q_pass rfl (still_put q hx.2)]; rfl
/-- go, ifz, ifn -/
abbrev leads (k : Nat) (a : Int) (z : Bool) : Prop := k = 12 ∨ (k = 13 ∧ z = true) ∨ (k = 14 ∧ 32768 ≤ a)
theorem t_lead (q : Still m) (h0 : 0 ≤ pc) (h1 : pc < 768) (hw : m.at pc = some w) (hk : w = 1024 * (k : Int) + x) (hx : 0 ≤ x ∧ x < 1024) (h3 : k = 12 ∨ k = 13 ∨ k = 14) :
    ∃ tc', (qD m a b pc sp z t s tc).turn = (("deed" : Str), qD m a b (if leads k a z then x else pc + 1) sp z (t + 1) s tc') := by
  refine ⟨[], ?_⟩
  have ea : addrs k x b sp = ([], []) := by rcases h3 with rfl | rfl | rfl <;> rfl
  rw [q_turn (k := k) h0 h1 hw hk hx (by omega) (by omega) (hb := by rw [ea]; rfl), ea]
  show (("deed" : Str), ((qD m a b (pc + 1) sp z t s []).doing k x [] []).pass 1) = _
  rw [show (qD m a b (pc + 1) sp z t s []).doing k x [] [] = qD m a b (if leads k a z then x else pc + 1) sp z t s [] by
    unfold BD.doing leads
    show (if k = 12 ∨ k = 13 ∨ k = 14 then _ else _) = _
    rw [if_pos h3]
    by_cases h : k = 12 ∨ (k = 13 ∧ z = true) ∨ (k = 14 ∧ 32768 ≤ a)
    · refine (if_pos h).trans ?_
      show qD m a b x sp z t s [] = _
      exact congrArg (fun u => qD m a b u sp z t s []) (if_pos h).symm
    · refine (if_neg h).trans ?_
      exact congrArg (fun u => qD m a b u sp z t s []) (if_neg h).symm]
  rw [q_pass rfl q]; rfl
theorem at_ram_put {m : MD} (hl : m.ra.length = 256) {i j w : Int} (h0 : 512 ≤ i) (h1 : i < 768) : (m.put i w).at j = if j = i then some w else m.at j := by
  unfold MD.put
  rw [if_pos h1]
  unfold MD.at
  by_cases e : j = i
  · subst e
    rw [if_pos rfl, if_neg (by omega), if_neg (by omega), if_pos h1]
    show (m.ra.set (j - 512).toNat w)[(j - 512).toNat]? = some w
    rw [List.getElem?_set_self (by omega)]
  · rw [if_neg e]
    by_cases r : j < 0 ∨ 773 < j
    · rw [if_pos r, if_pos r]
    · rw [if_neg r, if_neg r]
      by_cases r2 : j < 512
      · rw [if_pos r2, if_pos r2]
      · rw [if_neg r2, if_neg r2]
        by_cases r3 : j < 768
        · rw [if_pos r3, if_pos r3]
          show (m.ra.set (i - 512).toNat w)[(j - 512).toNat]? = _
          rw [List.getElem?_set_ne (by omega)]
        · rw [if_neg r3, if_neg r3]
theorem ra_put {m : MD} {i w : Int} (h1 : i < 768) : (m.put i w).ra.length = m.ra.length := by
  unfold MD.put
  rw [if_pos h1]
  show (m.ra.set _ w).length = _
  rw [List.length_set]
theorem at_flash {fl ra pl : List Int} {i : Int} (h0 : 0 ≤ i) (h1 : i < 512) : (⟨fl, ra, pl⟩ : MD).at i = fl[i.toNat]? := by
  unfold MD.at
  rw [if_neg (by omega), if_pos h1]
end

/-! ### own rule: list + list, either may be read alone -/
def rCatL (K : PySem.W.Frag) : R2 := fun x y H Q => ∃ l b xs zs, x = .ref l ∧ y = .ref b ∧ SqL K H l xs ∧ SqL K H b zs ∧ xs.length + zs.length ≤ sizeLine ∧ ∀ p, H p = none → Q (.ref p) (upd H p (.lst (xs ++ zs)))
theorem op_catL {X : Cx} : OpR X (binaryOp .Add) (rCatL X.K) := by
  intro pins s σ H x y v u Q I rx ry h
  obtain ⟨l, b, xs, zs, rfl, rfl, hH, hB, hz, q⟩ := h
  cases rx
  cases ry
  obtain ⟨its, r, pl, _⟩ := I.list hH
  obtain ⟨its2, r2, pl2, _⟩ := I.list hB
  obtain ⟨⟨cls, dd, data, sl⟩, ho, hc, n, hd⟩ := id pl.isList
  obtain ⟨⟨cls2, dd2, data2, sl2⟩, ho2, hc2, n2, hd2⟩ := id pl2.isList
  simp only at hc hd hc2 hd2
  subst hc hd hc2 hd2
  have e : its.toArray ++ its2.toArray = (its ++ its2).toArray := by simp
  have hsz : its.length + its2.length ≤ sizeLine := by rw [← r.length, ← r2.length]; exact hz
  refine concat_meets ⟨_, ho, rfl⟩ ⟨_, ho2, rfl⟩ noFill_list_add seq_list_add PySem.F.slot_list_add PySem.F.entry_list_add (PySem.F.args_list_add_2 _ _) (list_addW l b its.toArray its2.toArray n n2 dd dd2 sl sl2 (by simpa using hsz)) ⟨ho, ho2, ?_⟩
  rw [e]
  exact ⟨.ref _, _, I.lnew (t' := s.toks) (r.append r2) (by rw [List.length_append]; omega), rfl, q _ I.fresh⟩
theorem call_isi' {X : Cx} {K : PySem.W.Frag} (hK : X.K = K) : CallR X (.builtin "isinstance") (rIsi K) := by subst hK; exact call_isi
theorem call_list_of' {X : Cx} {K : PySem.W.Frag} (hK : X.K = K) : CallR X (.type "list") (fun xs H Q => ∃ p ys, xs = [.ref p] ∧ (SqL K H p ys ∨ SqT K H p ys) ∧ ∀ l, H l = none → Q (.ref l) (upd H l (.lst ys))) := by subst hK; exact call_list_of

/-! ### assertions on a heap, each with what it owns -/
theorem not_in_nil {a : Addr} : a ∉ ([] : List Addr) := by intro h; cases h
theorem Kp.frame {S S' T T' : List Addr} {H H' : Hp} (k : Kp S S' H H') (h1 : ∀ b, b ∈ S → b ∈ T) (h2 : ∀ b, b ∈ T' → b ∈ S' ∨ b ∈ T) : Kp T T' H H' :=
  ⟨fun b o e n => k.kept b o e fun m => n (h1 b m), fun b m => (h2 b m).elim (fun z => (k.own b z).imp (h1 b) id) .inl, k.tups⟩
abbrev TupK (H H' : Hp) : Prop := ∀ b xs, H b = some (.tup xs) → H' b = some (.tup xs)
structure As where
  own : List Addr
  ok : Hp → Prop
  st : ∀ {H H' : Hp}, ok H → (∀ b, b ∈ own → ∀ o, H b = some o → H' b = some o) → TupK H H' → ok H'
  al : ∀ {H : Hp}, ok H → ∀ b, b ∈ own → ∃ o, H b = some o
  nd : ∀ {H : Hp}, ok H → own.Nodup
def oks (H : Hp) : List As → Prop
  | [] => True
  | A :: r => A.ok H ∧ oks H r
def owns : List As → List Addr
  | [] => []
  | A :: r => A.own ++ owns r
theorem oks_app {H : Hp} : ∀ {L M : List As}, oks H (L ++ M) ↔ oks H L ∧ oks H M
  | [], _ => ⟨fun h => ⟨trivial, h⟩, fun h => h.2⟩
  | A :: r, M => by
    show A.ok H ∧ oks H (r ++ M) ↔ (A.ok H ∧ oks H r) ∧ oks H M
    rw [oks_app (L := r)]; exact and_assoc.symm
theorem owns_app : ∀ {L M : List As}, owns (L ++ M) = owns L ++ owns M
  | [], _ => rfl
  | A :: r, M => by
    show A.own ++ owns (r ++ M) = (A.own ++ owns r) ++ owns M
    rw [owns_app (L := r), List.append_assoc]
theorem oks_st {H H' : Hp} (t : TupK H H') : ∀ {L : List As}, oks H L → (∀ b, b ∈ owns L → ∀ o, H b = some o → H' b = some o) → oks H' L
  | [], _, _ => trivial
  | A :: _, h, k => ⟨A.st h.1 (fun b m => k b (List.mem_append_left _ m)) t, oks_st t h.2 fun b m => k b (List.mem_append_right _ m)⟩
theorem oks_al {H : Hp} : ∀ {L : List As}, oks H L → ∀ b, b ∈ owns L → ∃ o, H b = some o
  | [], _, _, m => by cases m
  | A :: _, h, b, m => (List.mem_append.mp m).elim (A.al h.1 b) (oks_al h.2 b)
/-- many in one -/
def aG (L : List As) : As where
  own := owns L
  ok := fun H => oks H L ∧ (owns L).Nodup
  st := fun h k t => ⟨oks_st t h.1 k, h.2⟩
  al := fun h => oks_al h.1
  nd := fun h => h.2
structure Sep (S0 : List Addr) (H0 H : Hp) (L : List As) : Prop where
  ok : oks H L
  nd : (owns L).Nodup
  kp : Kp S0 (owns L) H0 H
def nth : List As → Nat → Option As
  | [], _ => none
  | A :: _, 0 => some A
  | _ :: r, n + 1 => nth r n
def setN : List As → Nat → List As → List As
  | [], _, _ => []
  | _ :: r, 0, M => M ++ r
  | A :: r, n + 1, M => A :: setN r n M
theorem nth_split : ∀ {L : List As} {i : Nat} {A : As}, nth L i = some A → ∃ L1 L2, L = L1 ++ A :: L2 ∧ ∀ M, setN L i M = L1 ++ (M ++ L2)
  | [], _, _, e => by cases e
  | B :: r, 0, A, e => by
    have e : B = A := Option.some.inj e
    exact ⟨[], r, by rw [e]; rfl, fun M => rfl⟩
  | B :: r, n + 1, A, e => by
    obtain ⟨L1, L2, h1, h2⟩ := nth_split (L := r) (i := n) e
    exact ⟨B :: L1, L2, by rw [h1]; rfl, fun M => by show B :: setN r n M = _; rw [h2]; rfl⟩
theorem nd_app {a b : List Addr} : (a ++ b).Nodup ↔ a.Nodup ∧ b.Nodup ∧ ∀ x, x ∈ a → x ∈ b → False := by
  rw [List.nodup_append]
  exact ⟨fun h => ⟨h.1, h.2.1, fun x h1 h2 => h.2.2 x h1 x h2 rfl⟩, fun h => ⟨h.1, h.2.1, fun x h1 y h2 e => h.2.2 x h1 (e ▸ h2)⟩⟩
namespace Sep
variable {S0 : List Addr} {H0 H H' : Hp} {L : List As}
theorem get (h : Sep S0 H0 H L) (i : Nat) {A : As} (e : nth L i = some A) : A.ok H := by
  obtain ⟨L1, L2, rfl, _⟩ := nth_split e
  exact (oks_app.mp h.ok).2.1
theorem start {L : List As} (o : oks H L) (n : (owns L).Nodup) : Sep (owns L) H H L := ⟨o, n, Kp.refl _ _⟩
/-- the place i exchanged for M, by what changes what it owns alone -/
theorem swap (h : Sep S0 H0 H L) (i : Nat) {A : As} (e : nth L i = some A) {M : List As} (k : Kp A.own (owns M) H H') (o : oks H' M) (n : (owns M).Nodup) : Sep S0 H0 H' (setN L i M) := by
  obtain ⟨L1, L2, rfl, e2⟩ := nth_split e
  rw [e2]
  obtain ⟨o1, o2⟩ := oks_app.mp h.ok
  have hn := h.nd
  have hk := h.kp
  rw [owns_app] at hn hk
  obtain ⟨n1, n2, d1⟩ := nd_app.mp hn
  obtain ⟨nA, n3, d2⟩ := nd_app.mp (show (A.own ++ owns L2).Nodup from n2)
  have dA1 : ∀ b, b ∈ owns L1 → b ∉ A.own := fun b m z => d1 b m (List.mem_append_left _ z)
  have dA2 : ∀ b, b ∈ owns L2 → b ∉ A.own := fun b m z => d2 b z m
  have al1 := oks_al o1
  have al2 := oks_al (show oks H L2 from o2.2)
  have fr : ∀ {X : List As}, (∀ b, b ∈ owns X → b ∉ A.own) → (∀ b, b ∈ owns X → ∃ o, H b = some o) → ∀ b, b ∈ owns M → b ∈ owns X → False := fun hx ax b m mx => by
    rcases k.own b m with z | z
    · exact hx b mx z
    · obtain ⟨u, eu⟩ := ax b mx
      rw [z] at eu; cases eu
  refine ⟨oks_app.mpr ⟨oks_st k.tups o1 fun b m u hu => k.kept b u hu (dA1 b m), oks_app.mpr ⟨o, oks_st k.tups o2.2 fun b m u hu => k.kept b u hu (dA2 b m)⟩⟩, ?_, ?_⟩
  · rw [owns_app, owns_app]
    refine nd_app.mpr ⟨n1, nd_app.mpr ⟨n, n3, fr dA2 al2⟩, fun b m1 m2 => ?_⟩
    rcases List.mem_append.mp m2 with z | z
    · exact fr dA1 al1 b z m1
    · exact d1 b m1 (List.mem_append_right _ z)
  · refine hk.trans (k.frame (fun b m => List.mem_append_right _ (List.mem_append_left _ m)) fun b m => ?_)
    rw [owns_app, owns_app] at m
    rcases List.mem_append.mp m with z | z
    · exact .inr (List.mem_append_left _ z)
    · rcases List.mem_append.mp z with z | z
      · exact .inl z
      · exact .inr (List.mem_append_right _ (List.mem_append_right _ z))
theorem put (h : Sep S0 H0 H L) (i : Nat) {A : As} (e : nth L i = some A) (B : As) (k : Kp A.own B.own H H') (o : B.ok H') : Sep S0 H0 H' (setN L i [B]) :=
  h.swap i e (M := [B]) (k.sub fun b m => by rw [show owns [B] = B.own ++ [] from rfl, List.append_nil] at m; exact m) ⟨o, trivial⟩ (by rw [show owns [B] = B.own ++ [] from rfl, List.append_nil]; exact B.nd o)
/-- nothing owned is changed -/
theorem heap (h : Sep S0 H0 H L) (k : Kp [] [] H H') : Sep S0 H0 H' L :=
  ⟨oks_st k.tups h.ok fun b _ o e => k.kept b o e not_in_nil, h.nd, h.kp.trans (k.frame (fun _ m => by cases m) fun _ m => .inr m)⟩
theorem addM (h : Sep S0 H0 H L) {M : List As} (k : Kp [] (owns M) H H') (o : oks H' M) (n : (owns M).Nodup) : Sep S0 H0 H' (M ++ L) := by
  have fr : ∀ b, b ∈ owns M → b ∈ owns L → False := fun b m mx => by
    rcases k.own b m with z | z
    · cases z
    · obtain ⟨u, eu⟩ := oks_al h.ok b mx
      rw [z] at eu; cases eu
  refine ⟨oks_app.mpr ⟨o, oks_st k.tups h.ok fun b _ o e => k.kept b o e not_in_nil⟩, by rw [owns_app]; exact nd_app.mpr ⟨n, h.nd, fr⟩, ?_⟩
  rw [owns_app]
  exact h.kp.trans (k.frame (fun _ m => by cases m) fun _ m => List.mem_append.mp m)
/-- an object more -/
theorem new (h : Sep S0 H0 H L) {p : Addr} {o : HO} (np : H p = none) (B : As) (eo : B.own = [p]) (ok : B.ok (upd H p o)) : Sep S0 H0 (upd H p o) (B :: L) := by
  have e : owns [B] = [p] := by rw [show owns [B] = B.own ++ [] from rfl, List.append_nil, eo]
  exact h.addM (M := [B]) (by rw [e]; exact Kp.newIn np) ⟨ok, trivial⟩ (by rw [e]; simp)
/-- what owns nothing, more -/
theorem add0 (h : Sep S0 H0 H L) (B : As) (eo : B.own = []) (ok : B.ok H) : Sep S0 H0 H (B :: L) := by
  have e : owns [B] = [] := by rw [show owns [B] = B.own ++ [] from rfl, List.append_nil, eo]
  exact h.addM (M := [B]) (by rw [e]; exact Kp.refl _ _) ⟨ok, trivial⟩ (by rw [e]; exact List.nodup_nil)
theorem newT (h : Sep S0 H0 H L) {p : Addr} {o : HO} (np : H p = none) : Sep S0 H0 (upd H p o) L := h.heap (Kp.new np)
theorem rm (h : Sep S0 H0 H L) (i : Nat) {A : As} (e : nth L i = some A) : Sep S0 H0 H (setN L i []) := by
  refine h.swap i e (M := []) ⟨fun b o e _ => e, fun b m => (by cases m), fun _ _ e => e⟩ trivial List.nodup_nil
theorem opn (h : Sep S0 H0 H L) (i : Nat) {M : List As} (e : nth L i = some (aG M)) : Sep S0 H0 H (setN L i M) := by
  obtain ⟨o, n⟩ := h.get i e
  exact h.swap i e (Kp.refl _ _) o n
/-- a place's part ahead, for a call -/
theorem perm {M : List As} (h : Sep S0 H0 H L) (o : oks H M) (n : (owns M).Nodup) (s : ∀ b, b ∈ owns M → b ∈ owns L) : Sep S0 H0 H M := ⟨o, n, h.kp.sub s⟩
theorem mv (h : Sep S0 H0 H L) (i : Nat) {A : As} (e : nth L i = some A) : Sep S0 H0 H (A :: setN L i []) := by
  obtain ⟨L1, L2, rfl, e2⟩ := nth_split e
  rw [e2]
  obtain ⟨o1, o2⟩ := oks_app.mp h.ok
  have hn := h.nd
  rw [owns_app] at hn
  obtain ⟨n1, n2, d1⟩ := nd_app.mp hn
  obtain ⟨nA, n3, d2⟩ := nd_app.mp (show (A.own ++ owns L2).Nodup from n2)
  refine h.perm ⟨o2.1, oks_app.mpr ⟨o1, o2.2⟩⟩ ?_ fun b m => ?_
  · show (A.own ++ owns (L1 ++ ([] ++ L2))).Nodup
    rw [owns_app]
    refine nd_app.mpr ⟨nA, nd_app.mpr ⟨n1, n3, fun b m z => d1 b m (List.mem_append_right _ z)⟩, fun b m z => ?_⟩
    rcases List.mem_append.mp z with z | z
    · exact d1 b z (List.mem_append_left _ m)
    · exact d2 b m z
  · have m : b ∈ A.own ++ owns (L1 ++ ([] ++ L2)) := m
    rw [owns_app] at m ⊢
    rcases List.mem_append.mp m with z | z
    · exact List.mem_append_right _ (List.mem_append_left _ z)
    · rcases List.mem_append.mp z with z | z
      · exact List.mem_append_left _ z
      · exact List.mem_append_right _ (List.mem_append_right _ z)
theorem front {M : List As} (h : Sep S0 H0 H (M ++ L)) : oks H M ∧ (owns M).Nodup := by
  have hn := h.nd
  rw [owns_app] at hn
  exact ⟨(oks_app.mp h.ok).1, (nd_app.mp hn).1⟩
theorem cls {M : List As} (h : Sep S0 H0 H (M ++ L)) : Sep S0 H0 H (aG M :: L) := by
  have hn := h.nd
  rw [owns_app] at hn
  obtain ⟨o1, o2⟩ := oks_app.mp h.ok
  refine h.perm ⟨⟨o1, (nd_app.mp hn).1⟩, o2⟩ (show (owns M ++ owns L).Nodup from hn) fun b m => by rw [owns_app]; exact m
/-- a call of what stands in front -/
theorem sub {M : List As} (h : Sep S0 H0 H (M ++ L)) : Sep (owns M) H H M := ⟨h.front.1, h.front.2, Kp.refl _ _⟩
theorem call {M M' : List As} (h : Sep S0 H0 H (M ++ L)) (c : Sep (owns M) H H' M') : Sep S0 H0 H' (M' ++ L) := by
  have e1 : nth (aG M :: L) 0 = some (aG M) := rfl
  exact h.cls.swap 0 e1 (M := M') c.kp c.ok c.nd
theorem fin (h : Sep S0 H0 H L) (c : Sep (owns L) H H' L) : True := trivial
end Sep
/-! ### values that do not change -/
class Imm (α : Type) where
  at_ : Hp → V → α → Prop
  mono : ∀ {H H' : Hp} {v : V} {x : α}, TupK H H' → at_ H v x → at_ H' v x
instance : Imm Int := ⟨fun _ v x => v = .int x, fun _ h => h⟩
instance : Imm Bool := ⟨fun _ v x => v = .bl x, fun _ h => h⟩
instance : Imm Str := ⟨fun _ v x => v = .str x, fun _ h => h⟩
instance : Imm Unit := ⟨fun _ v _ => v = .non, fun _ h => h⟩
instance {α : Type} [Imm α] : Imm (Option α) := ⟨fun H v x => match x with
  | none => v = .non
  | some y => Imm.at_ H v y, fun {H H' v x} t h => by
    cases x with
    | none => exact h
    | some y => exact Imm.mono t h⟩
instance {α β : Type} [Imm α] [Imm β] : Imm (α × β) := ⟨fun H v x => ∃ p u w, v = .ref p ∧ H p = some (.tup [u, w]) ∧ Imm.at_ H u x.1 ∧ Imm.at_ H w x.2, fun t h => by
  obtain ⟨p, u, w, e, h, h1, h2⟩ := h
  exact ⟨p, u, w, e, t _ _ h, Imm.mono t h1, Imm.mono t h2⟩⟩
structure T3 (α β γ : Type) where
  a : α
  b : β
  c : γ
  deriving DecidableEq
instance {α β γ : Type} [Imm α] [Imm β] [Imm γ] : Imm (T3 α β γ) := ⟨fun H v x => ∃ p u w z, v = .ref p ∧ H p = some (.tup [u, w, z]) ∧ Imm.at_ H u x.a ∧ Imm.at_ H w x.b ∧ Imm.at_ H z x.c, fun t h => by
  obtain ⟨p, u, w, z, e, h, h1, h2, h3⟩ := h
  exact ⟨p, u, w, z, e, t _ _ h, Imm.mono t h1, Imm.mono t h2, Imm.mono t h3⟩⟩
class Sc (α : Type) extends Imm α where
  v : α → V
  eq : ∀ {H : Hp} {u : V} {x : α}, Imm.at_ H u x ↔ u = v x
instance : Sc Int := ⟨V.int, Iff.rfl⟩
instance : Sc Bool := ⟨V.bl, Iff.rfl⟩
instance : Sc Str := ⟨V.str, Iff.rfl⟩
def Imms {α : Type} [Imm α] (H : Hp) (vs : List V) (xs : List α) : Prop := Paired (fun v x => Imm.at_ H v x) vs xs
section
variable {α : Type} [Imm α] {H H' : Hp}
theorem Imms.mono (t : TupK H H') : ∀ {vs : List V} {xs : List α}, Imms H vs xs → Imms H' vs xs
  | _, _, .nil => .nil
  | _, _, .cons h r => .cons (Imm.mono t h) (Imms.mono t r)
theorem Imms.length {vs : List V} {xs : List α} (h : Imms H vs xs) : vs.length = xs.length := Paired.length h
theorem Imms.snoc {vs : List V} {xs : List α} (h : Imms H vs xs) {v : V} {x : α} (hv : Imm.at_ H v x) : Imms H (vs ++ [v]) (xs ++ [x]) := paired_snoc hv h
theorem Imms.app : ∀ {vs ws : List V} {xs ys : List α}, Imms H vs xs → Imms H ws ys → Imms H (vs ++ ws) (xs ++ ys)
  | _, _, _, _, .nil, h => h
  | _, _, _, _, .cons h r, h2 => .cons h (Imms.app r h2)
theorem Imms.nth : ∀ {vs : List V} {xs : List α} {i : Nat} {x : α}, Imms H vs xs → xs[i]? = some x → ∃ v, vs[i]? = some v ∧ Imm.at_ H v x
  | _, _, _, _, .nil, e => by simp at e
  | _, _, 0, _, .cons h _, e => by simp at e; subst e; exact ⟨_, rfl, h⟩
  | _, _, i + 1, _, .cons _ r, e => by
    obtain ⟨v, h1, h2⟩ := Imms.nth (i := i) r (by simpa using e)
    exact ⟨v, by simpa using h1, h2⟩
theorem Imms.ix {vs : List V} {xs : List α} {i : Int} {x : α} (h : Imms H vs xs) (e : atI xs i = some x) : ∃ v, atI vs i = some v ∧ Imm.at_ H v x := by
  unfold atI at e ⊢
  rw [h.length]
  cases hj : ixN xs.length i with
  | none => rw [hj] at e; cases e
  | some j =>
    rw [hj] at e
    obtain ⟨v, h1, h2⟩ := h.nth (i := j) (x := x) e
    exact ⟨v, h1, h2⟩
theorem Imms.take : ∀ {vs : List V} {xs : List α} (n : Nat), Imms H vs xs → Imms H (vs.take n) (xs.take n)
  | _, _, 0, _ => .nil
  | _, _, _ + 1, .nil => .nil
  | _, _, n + 1, .cons h r => .cons h (Imms.take n r)
theorem Imms.drop : ∀ {vs : List V} {xs : List α} (n : Nat), Imms H vs xs → Imms H (vs.drop n) (xs.drop n)
  | _, _, 0, h => h
  | _, _, _ + 1, .nil => .nil
  | _, _, n + 1, .cons _ r => Imms.drop n r
theorem Imms.set : ∀ {vs : List V} {xs : List α} (n : Nat) {v : V} {x : α}, Imms H vs xs → Imm.at_ H v x → Imms H (vs.set n v) (xs.set n x)
  | _, _, _, _, _, .nil, _ => .nil
  | _, _, 0, _, _, .cons _ r, h => .cons h r
  | _, _, n + 1, _, _, .cons h r, h2 => .cons h (Imms.set n r h2)
end
theorem Imms.sc {α : Type} [Sc α] {H : Hp} : ∀ {vs : List V} {xs : List α}, Imms H vs xs → vs = xs.map Sc.v
  | _, _, .nil => rfl
  | _, _, .cons h r => by rw [Imms.sc r, Sc.eq.mp h]; rfl
theorem Imms.ofSc {α : Type} [Sc α] {H : Hp} : ∀ (xs : List α), Imms H (xs.map Sc.v) xs
  | [] => .nil
  | _ :: r => .cons (Sc.eq.mpr rfl) (Imms.ofSc r)
/-! ### atoms -/
theorem one_nd {a : Addr} : [a].Nodup := by simp
/-- a value -/
def aV {α : Type} [Imm α] (v : V) (x : α) : As where
  own := []
  ok := fun H => Imm.at_ H v x
  st := fun h _ t => Imm.mono t h
  al := fun _ b m => by cases m
  nd := fun _ => List.nodup_nil
/-- a list -/
def aL {α : Type} [Imm α] (p : Addr) (xs : List α) : As where
  own := [p]
  ok := fun H => ∃ vs, H p = some (.lst vs) ∧ Imms H vs xs
  st := fun ⟨vs, e, h⟩ k t => ⟨vs, k p (by simp) _ e, h.mono t⟩
  al := fun ⟨vs, e, _⟩ b m => by
    have z := List.mem_singleton.mp m
    subst z; exact ⟨_, e⟩
  nd := fun _ => one_nd
/-- an object by what stands there -/
def aC (p : Addr) (o : HO) : As where
  own := [p]
  ok := fun H => H p = some o
  st := fun e k _ => k p (by simp) _ e
  al := fun e b m => by
    have z := List.mem_singleton.mp m
    subst z; exact ⟨_, e⟩
  nd := fun _ => one_nd
/-- a board -/
def aB (K : PySem.W.Frag) (A : BA) (D : BD) : As where
  own := A.own
  ok := fun H => BoardAt K H A D
  st := fun B k t => B.frame k t
  al := fun B b m => by
    obtain ⟨o, e, _⟩ := B.live m
    exact ⟨o, e⟩
  nd := fun B => B.nd

/-! ### more atoms, and what stands ahead of a call -/
def aT (p : Addr) (vs : List V) : As where
  own := []
  ok := fun H => H p = some (.tup vs)
  st := fun h _ t => t _ _ h
  al := fun _ b m => by cases m
  nd := fun _ => List.nodup_nil
/-- a list whose values are told -/
def aW {α : Type} [Imm α] (p : Addr) (vs : List V) (xs : List α) : As where
  own := [p]
  ok := fun H => H p = some (.lst vs) ∧ Imms H vs xs
  st := fun ⟨e, h⟩ k t => ⟨k p (by simp) _ e, h.mono t⟩
  al := fun ⟨e, _⟩ b m => by
    have z := List.mem_singleton.mp m
    subst z; exact ⟨_, e⟩
  nd := fun _ => one_nd
def takeN : Nat → List As → List As
  | 0, _ => []
  | _, [] => []
  | n + 1, A :: r => A :: takeN n r
def dropN : Nat → List As → List As
  | 0, L => L
  | _, [] => []
  | n + 1, _ :: r => dropN n r
theorem take_drop : ∀ (n : Nat) (L : List As), takeN n L ++ dropN n L = L
  | 0, _ => rfl
  | _ + 1, [] => rfl
  | n + 1, A :: r => congrArg (A :: ·) (take_drop n r)
namespace Sep
variable {S0 : List Addr} {H0 H H' : Hp} {L : List As}
theorem frontN (h : Sep S0 H0 H L) (n : Nat) : oks H (takeN n L) ∧ (owns (takeN n L)).Nodup := by
  rw [← take_drop n L] at h
  exact h.front
theorem callN (h : Sep S0 H0 H L) (n : Nat) {M' : List As} (c : Sep (owns (takeN n L)) H H' M') : Sep S0 H0 H' (M' ++ dropN n L) := by
  rw [← take_drop n L] at h
  exact h.call c
theorem tl (h : Sep S0 H0 H L) (n : Nat) : Sep S0 H0 H (dropN n L) := by
  rw [← take_drop n L] at h
  have hn := h.nd
  rw [owns_app] at hn
  exact h.perm (oks_app.mp h.ok).2 (nd_app.mp hn).2.1 fun b m => by rw [owns_app]; exact List.mem_append_right _ m
theorem clsN (h : Sep S0 H0 H L) (n : Nat) : Sep S0 H0 H (aG (takeN n L) :: dropN n L) := by
  rw [← take_drop n L] at h
  exact h.cls
theorem lst (h : Sep S0 H0 H L) (i : Nat) {α : Type} [Imm α] {p : Addr} {xs : List α} (e : nth L i = some (aL p xs)) : ∃ vs, H p = some (.lst vs) ∧ Imms H vs xs := h.get i e
theorem bd (h : Sep S0 H0 H L) (i : Nat) {K : PySem.W.Frag} {A : BA} {D : BD} (e : nth L i = some (aB K A D)) : BoardAt K H A D := h.get i e
theorem tup (h : Sep S0 H0 H L) (i : Nat) {p : Addr} {vs : List V} (e : nth L i = some (aT p vs)) : H p = some (.tup vs) := h.get i e
theorem cel (h : Sep S0 H0 H L) (i : Nat) {p : Addr} {o : HO} (e : nth L i = some (aC p o)) : H p = some o := h.get i e
theorem val (h : Sep S0 H0 H L) (i : Nat) {α : Type} [Imm α] {v : V} {x : α} (e : nth L i = some (aV v x)) : Imm.at_ H v x := h.get i e
theorem scs (h : Sep S0 H0 H L) (i : Nat) {α : Type} [Sc α] {p : Addr} {xs : List α} (e : nth L i = some (aL p xs)) : H p = some (.lst (xs.map Sc.v)) := by
  obtain ⟨vs, h1, h2⟩ := h.lst i e
  rw [← Imms.sc h2]; exact h1
theorem putL (h : Sep S0 H0 H L) (i : Nat) {α : Type} [Imm α] {p : Addr} {xs ys : List α} (e : nth L i = some (aL p xs)) {vs ws : List V} (hl : H p = some (.lst vs)) (hv : Imms H ws ys) : Sep S0 H0 (upd H p (.lst ws)) (setN L i [aL p ys]) :=
  have k : Kp [p] [p] H (upd H p (.lst ws)) := Kp.upd hl trivial (List.mem_singleton.mpr rfl)
  h.put i e (aL p ys) k ⟨_, upd_same, hv.mono k.tups⟩
theorem newL (h : Sep S0 H0 H L) {α : Type} [Imm α] {p : Addr} (np : H p = none) {ys : List α} {ws : List V} (hv : Imms H ws ys) : Sep S0 H0 (upd H p (.lst ws)) (aL p ys :: L) :=
  h.new np (aL p ys) rfl ⟨_, upd_same, hv.mono (Kp.new (S := []) np).tups⟩
theorem newTup (h : Sep S0 H0 H L) {p : Addr} (np : H p = none) (vs : List V) : Sep S0 H0 (upd H p (.tup vs)) (aT p vs :: L) :=
  (h.newT np).add0 (aT p vs) rfl upd_same
theorem newC (h : Sep S0 H0 H L) {p : Addr} (np : H p = none) (o : HO) : Sep S0 H0 (upd H p o) (aC p o :: L) := h.new np (aC p o) rfl upd_same
theorem putC (h : Sep S0 H0 H L) (i : Nat) {p : Addr} {o : HO} (e : nth L i = some (aC p o)) (n : notTup o) (o' : HO) : Sep S0 H0 (upd H p o') (setN L i [aC p o']) :=
  h.put i e (aC p o') (Kp.upd (S := [p]) (h.cel i e) n (List.mem_singleton.mpr rfl)) upd_same
/-- the values of a list told, while it is walked -/
theorem fix (h : Sep S0 H0 H L) (i : Nat) {α : Type} [Imm α] {p : Addr} {xs : List α} (e : nth L i = some (aL p xs)) : ∃ vs, vs.length = xs.length ∧ Sep S0 H0 H (setN L i [aW p vs xs]) := by
  obtain ⟨vs, h1, h2⟩ := h.lst i e
  exact ⟨vs, h2.length, h.put i e (aW p vs xs) (Kp.refl _ _) ⟨h1, h2⟩⟩
theorem unfix (h : Sep S0 H0 H L) (i : Nat) {α : Type} [Imm α] {p : Addr} {vs : List V} {xs : List α} (e : nth L i = some (aW p vs xs)) : Sep S0 H0 H (setN L i [aL p xs]) := by
  obtain ⟨h1, h2⟩ := h.get i e
  exact h.put i e (aL p xs) (Kp.refl _ _) ⟨_, h1, h2⟩
theorem wal (h : Sep S0 H0 H L) (i : Nat) {α : Type} [Imm α] {p : Addr} {vs : List V} {xs : List α} (e : nth L i = some (aW p vs xs)) : H p = some (.lst vs) ∧ Imms H vs xs := h.get i e
theorem addV (h : Sep S0 H0 H L) {α : Type} [Imm α] {v : V} {x : α} (a : Imm.at_ H v x) : Sep S0 H0 H (aV v x :: L) := h.add0 (aV v x) rfl a
theorem addT (h : Sep S0 H0 H L) {p : Addr} {vs : List V} (a : H p = some (.tup vs)) : Sep S0 H0 H (aT p vs :: L) := h.add0 (aT p vs) rfl a
theorem pre {L : List As} (c : oks H L ∧ (owns L).Nodup) : Sep (owns L) H H L := ⟨c.1, c.2, Kp.refl _ _⟩
end Sep
theorem imI {H : Hp} {x : Int} : Imm.at_ H (.int x) x := rfl
theorem imB {H : Hp} {x : Bool} : Imm.at_ H (.bl x) x := rfl
theorem imS {H : Hp} {x : Str} : Imm.at_ H (.str x) x := rfl
theorem imU {H : Hp} : Imm.at_ H .non () := rfl
theorem imN {α : Type} [Imm α] {H : Hp} : Imm.at_ H .non (none : Option α) := rfl
theorem imO {α : Type} [Imm α] {H : Hp} {v : V} {x : α} (h : Imm.at_ H v x) : Imm.at_ H v (some x) := h
theorem im2 {α β : Type} [Imm α] [Imm β] {H : Hp} {p : Addr} {u w : V} {x : α} {y : β} (h : H p = some (.tup [u, w])) (a : Imm.at_ H u x) (b : Imm.at_ H w y) : Imm.at_ H (.ref p) (x, y) := ⟨p, u, w, rfl, h, a, b⟩
theorem im3 {α β γ : Type} [Imm α] [Imm β] [Imm γ] {H : Hp} {p : Addr} {u w z : V} {x : α} {y : β} {t : γ} (h : H p = some (.tup [u, w, z])) (a : Imm.at_ H u x) (b : Imm.at_ H w y) (c : Imm.at_ H z t) : Imm.at_ H (.ref p) (T3.mk x y t) := ⟨p, u, w, z, rfl, h, a, b, c⟩
theorem Imms.nthv {α : Type} [Imm α] {H : Hp} : ∀ {vs : List V} {xs : List α} {i : Nat} {v : V}, Imms H vs xs → vs[i]? = some v → ∃ x, xs[i]? = some x ∧ Imm.at_ H v x
  | _, _, _, _, .nil, e => by simp at e
  | _, _, 0, _, .cons h _, e => by simp at e; subst e; exact ⟨_, rfl, h⟩
  | _, _, i + 1, _, .cons _ r, e => by
    obtain ⟨v, h1, h2⟩ := Imms.nthv (i := i) r (by simpa using e)
    exact ⟨v, by simpa using h1, h2⟩
/-! ### the mirrors' words -/
theorem bnd {α β : Type} {o : Option α} {f : α → Option β} {r : β} (h : o.bind f = some r) : ∃ x, o = some x ∧ f x = some r := by
  cases o with
  | none => cases h
  | some x => exact ⟨x, rfl, h⟩
theorem ift {α : Type} {c : Prop} [Decidable c] {a b r : α} (h : c) (e : (if c then a else b) = r) : a = r := by rw [if_pos h] at e; exact e
theorem ife {α : Type} {c : Prop} [Decidable c] {a b r : α} (h : ¬ c) (e : (if c then a else b) = r) : b = r := by rw [if_neg h] at e; exact e
theorem gd {α : Type} {c : Prop} [Decidable c] {o : Option α} {r : α} (e : (if c then o else none) = some r) : c ∧ o = some r := by
  by_cases h : c
  · rw [if_pos h] at e; exact ⟨h, e⟩
  · rw [if_neg h] at e; cases e
abbrev big : Nat := 16000000
def snoc {α : Type} (xs : List α) (x : α) : Option (List α) := if xs.length < big then some (xs ++ [x]) else none
def catL {α : Type} (xs ys : List α) : Option (List α) := if xs.length + ys.length < big then some (xs ++ ys) else none
def repL {α : Type} (xs : List α) (n : Int) : Option (List α) := if -(2 ^ 63) ≤ n ∧ n < 2 ^ 63 ∧ xs.length * n.toNat < big then some ((List.replicate n.toNat xs).flatten) else none
def forS {α σ : Type} (f : α → σ → Option σ) : List α → σ → Option σ
  | [], s => some s
  | x :: r, s => (f x s).bind (forS f r)
inductive Ctl (ρ σ : Type) where
  | nx (s : σ)
  | bk (s : σ)
  | rt (r : ρ)
def forC {α σ ρ : Type} (f : α → σ → Option (Ctl ρ σ)) : List α → σ → Option (Ctl ρ σ)
  | [], s => some (.nx s)
  | x :: r, s => (f x s).bind fun c => match c with
    | .nx s' => forC f r s'
    | .bk s' => some (.bk s')
    | .rt r => some (.rt r)
def rangeL (lo : Int) (n : Nat) : List Int := (List.range n).map fun (k : Nat) => lo + (k : Int)
theorem drop_s {α : Type} : ∀ {xs : List α} {i : Nat} {x : α}, xs[i]? = some x → xs.drop i = x :: xs.drop (i + 1)
  | [], _, _, e => by simp at e
  | y :: r, 0, x, e => by simp at e; rw [e]; rfl
  | y :: r, i + 1, x, e => by
    show r.drop i = x :: r.drop (i + 1)
    exact drop_s (by simpa using e)
theorem forS_s {α σ : Type} {f : α → σ → Option σ} {xs : List α} {i : Nat} {x : α} {s sE : σ} (hx : xs[i]? = some x) (h : forS f (xs.drop i) s = some sE) : ∃ s', f x s = some s' ∧ forS f (xs.drop (i + 1)) s' = some sE := by
  rw [drop_s hx] at h
  exact bnd h
theorem forS_e {α σ : Type} {f : α → σ → Option σ} {xs : List α} {n : Nat} {s sE : σ} (hn : xs.length ≤ n) (h : forS f (xs.drop n) s = some sE) : s = sE := by
  rw [List.drop_of_length_le hn] at h
  exact Option.some.inj h
theorem forC_s {α σ ρ : Type} {f : α → σ → Option (Ctl ρ σ)} {xs : List α} {i : Nat} {x : α} {s : σ} {cE : Ctl ρ σ} (hx : xs[i]? = some x) (h : forC f (xs.drop i) s = some cE) :
    ∃ c, f x s = some c ∧ match c with
      | .nx s' => forC f (xs.drop (i + 1)) s' = some cE
      | .bk s' => cE = .bk s'
      | .rt r => cE = .rt r := by
  rw [drop_s hx] at h
  obtain ⟨c, h1, h2⟩ := bnd h
  refine ⟨c, h1, ?_⟩
  cases c with
  | nx s' => exact h2
  | bk s' => exact (Option.some.inj h2).symm
  | rt r => exact (Option.some.inj h2).symm
theorem forC_e {α σ ρ : Type} {f : α → σ → Option (Ctl ρ σ)} {xs : List α} {n : Nat} {s : σ} {cE : Ctl ρ σ} (hn : xs.length ≤ n) (h : forC f (xs.drop n) s = some cE) : cE = .nx s := by
  rw [List.drop_of_length_le hn] at h
  exact (Option.some.inj h).symm
theorem range_get {lo : Int} {n i : Nat} (h : i < n) : (rangeL lo n)[i]? = some (lo + (i : Int)) := by
  unfold rangeL
  rw [List.getElem?_map, List.getElem?_range h]; rfl
theorem range_len {lo : Int} {n : Nat} : (rangeL lo n).length = n := by unfold rangeL; rw [List.length_map, List.length_range]
/-! ### tests -/
def EvT (S0 : List Addr) (H0 : Hp) (L : List As) (t : TT) (σ : L2.St) (b : Bool) : Prop := ∀ H, Sep S0 H0 H L → ∀ Q : Bool → Hp → Prop, (∀ H', Sep S0 H0 H' L → Q b H') → t σ H Q
section
variable {S0 : List Addr} {H0 H : Hp} {L : List As} {σ : L2.St} {c t u : TT} {P R : Prop} [Decidable P] [Decidable R]
theorem if_use {c : TT} {t u : TS} {D : Ends} {b : Bool} (hs : Sep S0 H0 H L) (e : EvT S0 H0 L c σ b) (q : ∀ H', Sep S0 H0 H' L → if b = true then t D σ H' else u D σ H') : tIfS c t u D σ H := e H hs _ q
theorem ev_and (a : EvT S0 H0 L t σ (decide P)) (b : P → EvT S0 H0 L u σ (decide R)) : EvT S0 H0 L (tAnd t u) σ (decide (P ∧ R)) := fun H hs Q q => a H hs _ fun H1 h1 => by
  by_cases h : P
  · rw [decide_eq_true h, if_pos rfl]
    refine b h H1 h1 Q fun H2 h2 => ?_
    have z := q H2 h2
    rw [show decide (P ∧ R) = decide R from decide_eq_decide.mpr ⟨fun x => x.2, fun x => ⟨h, x⟩⟩] at z
    exact z
  · rw [decide_eq_false h, if_neg Bool.false_ne_true]
    have z := q H1 h1
    rw [decide_eq_false (fun x : P ∧ R => h x.1)] at z
    exact z
theorem ev_or (a : EvT S0 H0 L t σ (decide P)) (b : ¬ P → EvT S0 H0 L u σ (decide R)) : EvT S0 H0 L (tOr t u) σ (decide (P ∨ R)) := fun H hs Q q => a H hs _ fun H1 h1 => by
  by_cases h : P
  · rw [decide_eq_true h, if_pos rfl]
    have z := q H1 h1
    rw [decide_eq_true (show P ∨ R from .inl h)] at z
    exact z
  · rw [decide_eq_false h, if_neg Bool.false_ne_true]
    refine b h H1 h1 Q fun H2 h2 => ?_
    have z := q H2 h2
    rw [show decide (P ∨ R) = decide R from decide_eq_decide.mpr ⟨fun x => x.resolve_left h, .inr⟩] at z
    exact z
theorem ev_not (a : EvT S0 H0 L t σ (decide P)) : EvT S0 H0 L (tNot t) σ (decide (¬ P)) := fun H hs Q q => a H hs _ fun H1 h1 => by
  have z := q H1 h1
  rw [decide_not] at z
  exact z
end
theorem dI {a b : Int} : V.bl (decide (V.int a = V.int b)) = V.bl (decide (a = b)) := congrArg V.bl (decide_eq_decide.mpr ⟨V.int.inj, congrArg V.int⟩)
theorem dnI {a b : Int} : V.bl (!decide (V.int a = V.int b)) = V.bl (decide (¬ a = b)) := congrArg V.bl (by rw [decide_not, decide_eq_decide.mpr ⟨V.int.inj, congrArg V.int⟩])
theorem dS {a b : Str} : V.bl (decide (V.str a = V.str b)) = V.bl (decide (a = b)) := congrArg V.bl (decide_eq_decide.mpr ⟨V.str.inj, congrArg V.str⟩)
theorem dnS {a b : Str} : V.bl (!decide (V.str a = V.str b)) = V.bl (decide (¬ a = b)) := congrArg V.bl (by rw [decide_not, decide_eq_decide.mpr ⟨V.str.inj, congrArg V.str⟩])
theorem dBb {a b : Bool} : V.bl (decide (V.bl a = V.bl b)) = V.bl (decide (a = b)) := congrArg V.bl (decide_eq_decide.mpr ⟨V.bl.inj, congrArg V.bl⟩)
theorem dnBb {a b : Bool} : V.bl (!decide (V.bl a = V.bl b)) = V.bl (decide (¬ a = b)) := congrArg V.bl (by rw [decide_not, decide_eq_decide.mpr ⟨V.bl.inj, congrArg V.bl⟩])
theorem dB {b : Bool} : V.bl b = V.bl (decide (b = true)) := by cases b <;> rfl
theorem dN {P : Prop} [Decidable P] : V.bl (!decide P) = V.bl (decide (¬ P)) := by rw [decide_not]
theorem dOpt {α : Type} [Imm α] {H : Hp} {v : V} {x : Option α} (hnn : ∀ y : α, ¬ Imm.at_ H .non y) (h : Imm.at_ H v x) : V.bl (decide (v = .non)) = V.bl (decide (x = none)) := by
  cases x with
  | none => rw [show v = .non from h]; simp
  | some y =>
    refine congrArg V.bl (decide_eq_decide.mpr ⟨fun e => ?_, fun e => by cases e⟩)
    subst e; exact (hnn y h).elim
/-! ### the words' meaning -/
theorem Sep.tk {S0 : List Addr} {H0 H : Hp} {L : List As} (h : Sep S0 H0 H L) (n : Nat) : Sep S0 H0 H (takeN n L) := by
  rw [← take_drop n L] at h
  have hn := h.nd
  rw [owns_app] at hn
  exact h.perm (oks_app.mp h.ok).1 (nd_app.mp hn).1 fun b m => by rw [owns_app]; exact List.mem_append_left _ m
def mvsL : List Nat → List As → Option (List As)
  | [], L => some L
  | i :: r, L => match nth L i with
    | some A => mvsL r (A :: setN L i [])
    | none => none
theorem Sep.mvs {S0 : List Addr} {H0 H : Hp} : ∀ (is : List Nat) {L L' : List As}, Sep S0 H0 H L → mvsL is L = some L' → Sep S0 H0 H L'
  | [], _, _, h, e => by rw [← Option.some.inj e]; exact h
  | i :: r, L, L', h, e => by
    unfold mvsL at e
    cases en : nth L i with
    | none => rw [en] at e; cases e
    | some A => rw [en] at e; exact Sep.mvs r (h.mv i en) e
/-- entries chosen, in one go -/
theorem Sep.pick {S0 : List Addr} {H0 H : Hp} {L : List As} (h : Sep S0 H0 H L) (is : List Nat) (n : Nat) {L' : List As} (e : (mvsL is L).map (takeN n) = some L') : Sep S0 H0 H L' := by
  cases em : mvsL is L with
  | none => rw [em] at e; cases e
  | some M =>
    rw [em] at e
    rw [← Option.some.inj e]
    exact (h.mvs is em).tk n
theorem snoc_eq {α : Type} {xs ys : List α} {x : α} (h : snoc xs x = some ys) : xs.length < 16000000 ∧ ys = xs ++ [x] := by
  unfold snoc at h
  obtain ⟨g, e⟩ := gd h
  exact ⟨g, (Option.some.inj e).symm⟩
theorem catL_eq {α : Type} {xs ys zs : List α} (h : catL xs ys = some zs) : xs.length + ys.length < 16000000 ∧ zs = xs ++ ys := by
  unfold catL at h
  obtain ⟨g, e⟩ := gd h
  exact ⟨g, (Option.some.inj e).symm⟩
theorem repL_eq {α : Type} {xs zs : List α} {n : Int} (h : repL xs n = some zs) : (-(2 ^ 63) ≤ n ∧ n < 2 ^ 63 ∧ xs.length * n.toNat < 16000000) ∧ zs = (List.replicate n.toNat xs).flatten := by
  unfold repL at h
  obtain ⟨g, e⟩ := gd h
  exact ⟨g, (Option.some.inj e).symm⟩
def setX {α : Type} (xs : List α) (i : Int) (v : α) : Option (List α) := (ixN xs.length i).bind fun j => some (xs.set j v)
theorem setX_ix {α : Type} {xs ys : List α} {i : Int} {v : α} {n : Nat} (hn : n = xs.length) (h : setX xs i v = some ys) : ∃ j, ixN n i = some j ∧ ys = xs.set j v := by
  subst hn
  obtain ⟨j, h1, h2⟩ := bnd h
  exact ⟨j, h1, (Option.some.inj h2).symm⟩
def cutX {α : Type} (xs : List α) (lo hi : Option Int) : List α := (xs.drop (HT.sIx xs.length 0 lo)).take (HT.sIx xs.length xs.length hi - HT.sIx xs.length 0 lo)
section
variable {α : Type} [Imm α] {H : Hp}
theorem Imms.cut {vs : List V} {xs : List α} (h : Imms H vs xs) (lo hi : Option Int) : Imms H (cutV vs lo hi) (cutX xs lo hi) := by
  unfold cutV cutX
  rw [h.length]
  exact (h.drop _).take _
theorem Imms.rep {vs : List V} {xs : List α} (h : Imms H vs xs) : ∀ n : Nat, Imms H (List.replicate n vs).flatten (List.replicate n xs).flatten
  | 0 => .nil
  | n + 1 => by
    rw [List.replicate_succ, List.replicate_succ, List.flatten_cons, List.flatten_cons]
    exact h.app (h.rep n)
end
theorem iteNot {A B : Prop} {p : Prop} [Decidable p] (h1 : p → B) (h2 : ¬ p → A) : if (!decide p) = true then A else B := iteN h2 h1
instance : Decidable (CMul i j) := by unfold CMul; infer_instance
def BD.okF (D : BD) : Prop := ∀ n, D.m.at D.pc = some n → 0 ≤ n
instance (D : BD) : Decidable D.okF := by
  unfold BD.okF
  cases D.m.at D.pc with
  | none => exact isTrue fun n h => by cases h
  | some x => exact if h : 0 ≤ x then isTrue fun n e => by rw [← Option.some.inj e]; exact h else isFalse fun z => h (z x rfl)
def BD.turnM (D : BD) : Option (Str × BD) := if D.okF ∧ D.sent.length ≤ 999000 then some D.turn else none
theorem turnM_eq {D : BD} {z : Str × BD} (h : D.turnM = some z) : (∀ n, D.m.at D.pc = some n → 0 ≤ n) ∧ D.sent.length ≤ 999000 ∧ z = D.turn := by
  unfold BD.turnM at h
  obtain ⟨⟨g1, g2⟩, e⟩ := gd h
  exact ⟨g1, g2, (Option.some.inj e).symm⟩
def lineOkB (l : List (Int × Int)) : Bool := l.all (fun p => decide (0 ≤ p.2 ∧ p.2 < 4) && decide (0 < p.1)) && decide (l.Pairwise fun p q => p.1 < q.1)
instance decPw {l : List Int} : Decidable (l.Pairwise (· < ·)) := inferInstance
def initOk (ns : List Int) (l : List (Int × Int)) : Prop := LineOk l ∧ l.length < 64 ∧ ns.length ≤ 512 ∧ ∀ n ∈ ns, 0 ≤ n ∧ n ≤ 65535
instance (l : List (Int × Int)) : Decidable (LineOk l) :=
  if h : (l.map (·.1)).Pairwise (· < ·) ∧ (∀ p ∈ l, 0 < p.1) ∧ ∀ p ∈ l, 0 ≤ p.2 ∧ p.2 < 4 then isTrue ⟨h.1, h.2.1, h.2.2⟩ else isFalse fun z => h ⟨z.up, z.pos, z.val⟩
instance (ns : List Int) (l : List (Int × Int)) : Decidable (initOk ns l) := by unfold initOk; infer_instance
theorem tups_of {H : Hp} : ∀ {ls : List V} {l : List (Int × Int)}, Imms H ls l → Tups H ls (sentT l)
  | _, _, .nil => .nil
  | _, _, .cons ⟨p, u, w, e, h, h1, h2⟩ r => .cons ⟨p, e, by rw [h, show u = _ from h1, show w = _ from h2]⟩ (tups_of r)
theorem tups_nil {α : Type} [Imm α] {H : Hp} {ls : List V} (h : Imms H ls ([] : List α)) : Tups H ls (sentT []) := by
  cases h; exact .nil
theorem stop_dec {H : Hp} {v : V} {o : Option (List V)} (h : StopV H v o) : V.bl (decide (v = .non)) = V.bl (decide (o = none)) := by
  cases o with
  | none => rw [show v = .non from h]; rfl
  | some xs =>
    obtain ⟨t, e, _⟩ := h
    rw [e]; rfl
theorem stop_decN {H : Hp} {v : V} {o : Option (List V)} (h : StopV H v o) : V.bl (!decide (v = .non)) = V.bl (decide (o ≠ none)) := by
  have := V.bl.inj (stop_dec h)
  rw [this, decide_not]
theorem opt_dec {H : Hp} {v : V} {o : Option Int} (h : Imm.at_ H v o) : V.bl (decide (v = .non)) = V.bl (decide (o = none)) := by
  cases o with
  | none => rw [show v = .non from h]; rfl
  | some x => rw [show v = .int x from h]; rfl
theorem opt_decN {H : Hp} {v : V} {o : Option Int} (h : Imm.at_ H v o) : V.bl (!decide (v = .non)) = V.bl (decide (o ≠ none)) := by
  have := V.bl.inj (opt_dec h)
  rw [this, decide_not]
theorem dnX {P : Prop} [Decidable P] : V.bl (!decide P) = V.bl (decide (¬ P)) := by rw [decide_not]
theorem im_optV {H : Hp} (o : Option Int) : Imm.at_ H (optV o) o := by cases o <;> rfl
/-! a dict of ints to ints -/
def lookI (l : List (Int × Int)) (k : Int) : Option Int := (l.find? fun p => decide (p.1 = k)).map (·.2)
def putI (l : List (Int × Int)) (k v : Int) : List (Int × Int) :=
  if (l.any fun p => decide (p.1 = k)) = true then l.map (fun p => if p.1 = k then (k, v) else p) else l ++ [(k, v)]
theorem lineK_len (l : List (Int × Int)) : (lineK l).length = l.length := by unfold lineK; rw [List.length_map]
theorem valV_lineK : ∀ (l : List (Int × Int)) (k : Int), valV (lineK l) (Sum.inl k : Key) = (lookI l k).map V.int
  | [], _ => rfl
  | (x, y) :: r, k => by
    by_cases e : x = k
    · have h1 : valV (lineK ((x, y) :: r)) (Sum.inl k : Key) = some (.int y) := valV_pos (p := ((Sum.inl x : Key), V.int y)) (by rw [e])
      rw [h1]; unfold lookI
      rw [List.find?_cons_of_pos (by simp [e])]; rfl
    · have h1 : valV (lineK ((x, y) :: r)) (Sum.inl k : Key) = valV (lineK r) (Sum.inl k : Key) := valV_neg (p := ((Sum.inl x : Key), V.int y)) (fun z => e (Sum.inl.inj z))
      rw [h1, valV_lineK r k]
      unfold lookI
      rw [List.find?_cons_of_neg (by simp [e])]
theorem lookI_valV {l : List (Int × Int)} {k v : Int} (h : lookI l k = some v) : valV (lineK l) (Sum.inl k : Key) = some (.int v) := by rw [valV_lineK, h]; rfl
/-! ### in, == -/
theorem eqV_int {a b : Int} : eqV (.int a) (.int b) = decide (a = b) := by unfold eqV; rfl
theorem inV_ints (x : Int) : ∀ xs : List Int, inV (.int x) (xs.map V.int) = decide (x ∈ xs)
  | [] => rfl
  | y :: r => by
    show (eqV (.int y) (.int x) || inV (.int x) (r.map V.int)) = _
    rw [inV_ints x r, eqV_int, ← Bool.decide_or]
    exact decide_eq_decide.mpr ⟨fun h => by rcases h with h | h; exact List.mem_cons.mpr (.inl h.symm); exact List.mem_cons_of_mem _ h, fun h => by rcases List.mem_cons.mp h with h | h; exact .inl h.symm; exact .inr h⟩
theorem in_int {x : Int} {xs : List Int} : V.bl (if false = true then !inV (.int x) (xs.map Sc.v) else inV (.int x) (xs.map Sc.v)) = V.bl (decide (x ∈ xs)) := by
  rw [if_neg Bool.false_ne_true]; exact congrArg V.bl (inV_ints x xs)
theorem inN_int {x : Int} {xs : List Int} : V.bl (if true = true then !inV (.int x) (xs.map Sc.v) else inV (.int x) (xs.map Sc.v)) = V.bl (decide (x ∉ xs)) := by
  rw [if_pos rfl, decide_not]; exact congrArg (fun b => V.bl (!b)) (inV_ints x xs)
theorem flat_int (xs : List Int) : (xs.map Sc.v).all flatV = true := by
  rw [List.all_eq_true]; intro v hv
  obtain ⟨x, _, rfl⟩ := List.mem_map.mp hv
  rfl
theorem eqv_dec {d e : PyData} {P : Prop} [Decidable P] (h : PyData.eqv d e = decide P) : V.bl (PyData.eqv d e) = V.bl (decide P) := congrArg V.bl h
theorem eqv_decN {d e : PyData} {P : Prop} [Decidable P] (h : PyData.eqv d e = decide P) : V.bl (!PyData.eqv d e) = V.bl (decide (¬ (P))) := by rw [h, decide_not]
theorem eqv_i (a b : Int) : PyData.eqv (.int a) (.int b) = decide (a = b) := by simp only [PyData.eqv]; rfl
theorem eqv_b (a b : Bool) : PyData.eqv (.bool a) (.bool b) = decide (a = b) := by cases a <;> cases b <;> simp [PyData.eqv]
theorem eqv_s (a b : Str) : PyData.eqv (.str a) (.str b) = decide (a = b) := by simp only [PyData.eqv]; by_cases h : a = b <;> simp [h]
theorem eqvN : PyData.eqvAll [] [] = decide True := by simp [PyData.eqvAll]
theorem eqvC {x y : PyData} {xs ys : List PyData} {P R : Prop} [Decidable P] [Decidable R] (h : PyData.eqv x y = decide P) (t : PyData.eqvAll xs ys = decide R) : PyData.eqvAll (x :: xs) (y :: ys) = decide (P ∧ R) := by
  simp only [PyData.eqvAll, h, t, Bool.decide_and]
theorem eqvL {xs ys : List PyData} {P : Prop} [Decidable P] (t : PyData.eqvAll xs ys = decide P) : PyData.eqv (.list xs) (.list ys) = decide P := by rw [PyData.eqv]; exact t
theorem eqvT {xs ys : List PyData} {P : Prop} [Decidable P] (t : PyData.eqvAll xs ys = decide P) : PyData.eqv (.tuple xs) (.tuple ys) = decide P := by rw [PyData.eqv]; exact t
def optD' : Option Int → PyData
  | none => .none
  | some n => .int n
theorem eqv_o (a b : Option Int) : PyData.eqv (optD' a) (optD' b) = decide (a = b) := by
  cases a <;> cases b <;> simp only [PyData.eqv, optD'] <;> first | rfl | (rename_i x y; by_cases h : x = y <;> simp [h]) | simp
theorem dp_opt' {K : PySem.W.Frag} {H : Hp} {v : V} {o : Option Int} (h : Imm.at_ H v o) : Dp K H v (optD' o) := by
  cases o with
  | none => rw [show v = .non from h]; exact .non
  | some n => rw [show v = .int n from h]; exact .int n
theorem dpOptsL {K : PySem.W.Frag} {H : Hp} : ∀ {vs : List V} {xs : List (Option Int)}, Imms H vs xs → DpAll K H vs (xs.map optD')
  | _, _, .nil => .nil
  | _, _, .cons h r => .cons (dp_opt' h) (dpOptsL r)
theorem dpOpts {K : PySem.W.Frag} {H : Hp} {p : Addr} {xs : List (Option Int)} (h : ∃ vs, H p = some (.lst vs) ∧ Imms H vs xs) : Dp K H (.ref p) (.list (xs.map optD')) := by
  obtain ⟨vs, h1, h2⟩ := h
  exact .lst (SqL.of h1) (dpOptsL h2)
theorem shp_opts (xs : List (Option Int)) : SeqAt.shaped (.list (xs.map optD')) = true := by
  have e : ∀ d ∈ xs.map optD', d.canLay0 = true ∧ d.depth ≤ 0 := fun d hd => by
    obtain ⟨v, hv, rfl⟩ := List.mem_map.mp hd
    cases v <;> exact ⟨by simp only [optD', PyData.canLay0], by simp only [optD', PyData.depth]; exact Nat.le_refl _⟩
  refine shp (by simp only [PyData.canLay0]; exact lay_all fun d hd => (e d hd).1) ?_
  simp only [PyData.depth]
  have := depth_all (ds := xs.map optD') (n := 0) fun d hd => (e d hd).2
  omega
theorem eqv_osA : ∀ xs ys : List (Option Int), PyData.eqvAll (xs.map optD') (ys.map optD') = decide (xs = ys)
  | [], [] => by simp [PyData.eqvAll]
  | [], _ :: _ => by simp [PyData.eqvAll]
  | _ :: _, [] => by simp [PyData.eqvAll]
  | x :: r, y :: q => by
    simp only [List.map_cons, PyData.eqvAll, eqv_o, eqv_osA r q]
    by_cases h : x = y <;> by_cases h2 : r = q <;> simp [h, h2]
theorem eqv_os (xs ys : List (Option Int)) : PyData.eqv (.list (xs.map optD')) (.list (ys.map optD')) = decide (xs = ys) := by
  rw [PyData.eqv]; exact eqv_osA xs ys
theorem Sep.cast {S0 : List Addr} {H0 Ha Hb : Hp} {L : List As} (h : Sep S0 H0 Ha L) (e : Ha = Hb) : Sep S0 H0 Hb L := e ▸ h
/-! ### True and False as values; with what may be out of bounds -/
def EvB (S0 : List Addr) (H0 : Hp) (L : List As) (t : TE) (σ : L2.St) (b : Bool) : Prop := ∀ H, Sep S0 H0 H L → ∀ Q : VK, (∀ H', Sep S0 H0 H' L → Q (.bl b) H') → t σ H Q
section
variable {S0 : List Addr} {H0 H : Hp} {L : List As} {σ : L2.St} {b : Bool}
theorem andV_use {ta tb : TE} {Q : VK} (hs : Sep S0 H0 H L) (e : EvB S0 H0 L (tAndV ta tb) σ b) (q : ∀ H', Sep S0 H0 H' L → Q (.bl b) H') : tAndV ta tb σ H Q := e H hs Q q
theorem orV_use {ta tb : TE} {Q : VK} (hs : Sep S0 H0 H L) (e : EvB S0 H0 L (tOrV ta tb) σ b) (q : ∀ H', Sep S0 H0 H' L → Q (.bl b) H') : tOrV ta tb σ H Q := e H hs Q q
theorem notV_use {ta : TE} {Q : VK} (hs : Sep S0 H0 H L) (e : EvB S0 H0 L (tNotV ta) σ b) (q : ∀ H', Sep S0 H0 H' L → Q (.bl b) H') : tNotV ta σ H Q := e H hs Q q
def andO (o u : Option Bool) : Option Bool := o.bind fun x => if x = true then u else some false
def orO (o u : Option Bool) : Option Bool := o.bind fun x => if x = true then some true else u
def notO (o : Option Bool) : Option Bool := o.bind fun x => some (!x)
theorem evB_and {ta tb : TE} {o u : Option Bool} (hb : andO o u = some b) (a : ∀ b1, o = some b1 → EvB S0 H0 L ta σ b1) (c : ∀ b1, u = some b1 → EvB S0 H0 L tb σ b1) : EvB S0 H0 L (tAndV ta tb) σ b := fun H hs Q q => by
  obtain ⟨x, h1, h2⟩ := bnd hb
  refine a x h1 H hs _ fun H1 hs1 => ⟨x, rfl, ?_⟩
  cases x with
  | true => rw [if_pos rfl] at h2 ⊢; exact c b h2 H1 hs1 Q q
  | false => rw [if_neg Bool.false_ne_true] at h2 ⊢; rw [Option.some.inj h2]; exact q H1 hs1
theorem evB_or {ta tb : TE} {o u : Option Bool} (hb : orO o u = some b) (a : ∀ b1, o = some b1 → EvB S0 H0 L ta σ b1) (c : ∀ b1, u = some b1 → EvB S0 H0 L tb σ b1) : EvB S0 H0 L (tOrV ta tb) σ b := fun H hs Q q => by
  obtain ⟨x, h1, h2⟩ := bnd hb
  refine a x h1 H hs _ fun H1 hs1 => ⟨x, rfl, ?_⟩
  cases x with
  | true => rw [if_pos rfl] at h2 ⊢; rw [Option.some.inj h2]; exact q H1 hs1
  | false => rw [if_neg Bool.false_ne_true] at h2 ⊢; exact c b h2 H1 hs1 Q q
theorem evB_not {ta : TE} {o : Option Bool} (hb : notO o = some b) (a : ∀ b1, o = some b1 → EvB S0 H0 L ta σ b1) : EvB S0 H0 L (tNotV ta) σ b := fun H hs Q q => by
  obtain ⟨x, h1, h2⟩ := bnd hb
  refine a x h1 H hs _ fun H1 hs1 => ⟨x, rfl, ?_⟩
  rw [Option.some.inj h2]; exact q H1 hs1
theorem evT_and {ta tb : TT} {o u : Option Bool} (hb : andO o u = some b) (a : ∀ b1, o = some b1 → EvT S0 H0 L ta σ b1) (c : ∀ b1, u = some b1 → EvT S0 H0 L tb σ b1) : EvT S0 H0 L (tAnd ta tb) σ b := fun H hs Q q => by
  obtain ⟨x, h1, h2⟩ := bnd hb
  refine a x h1 H hs _ fun H1 hs1 => ?_
  cases x with
  | true => rw [if_pos rfl] at h2 ⊢; exact c b h2 H1 hs1 Q q
  | false => rw [if_neg Bool.false_ne_true] at h2 ⊢; rw [Option.some.inj h2]; exact q H1 hs1
theorem evT_or {ta tb : TT} {o u : Option Bool} (hb : orO o u = some b) (a : ∀ b1, o = some b1 → EvT S0 H0 L ta σ b1) (c : ∀ b1, u = some b1 → EvT S0 H0 L tb σ b1) : EvT S0 H0 L (tOr ta tb) σ b := fun H hs Q q => by
  obtain ⟨x, h1, h2⟩ := bnd hb
  refine a x h1 H hs _ fun H1 hs1 => ?_
  cases x with
  | true => rw [if_pos rfl] at h2 ⊢; rw [Option.some.inj h2]; exact q H1 hs1
  | false => rw [if_neg Bool.false_ne_true] at h2 ⊢; exact c b h2 H1 hs1 Q q
theorem evT_not {ta : TT} {o : Option Bool} (hb : notO o = some b) (a : ∀ b1, o = some b1 → EvT S0 H0 L ta σ b1) : EvT S0 H0 L (tNot ta) σ b := fun H hs Q q => by
  obtain ⟨x, h1, h2⟩ := bnd hb
  refine a x h1 H hs _ fun H1 hs1 => ?_
  rw [Option.some.inj h2]; exact q H1 hs1
end
def thenC {ρ σ τ : Type} (o : Option (Ctl ρ σ)) (fr : ρ → Option τ) (k : σ → Option τ) : Option τ := o.bind fun c => match c with
  | .nx s => k s
  | .bk s => k s
  | .rt r => fr r
theorem thenC_eq {ρ σ τ : Type} {o : Option (Ctl ρ σ)} {fr : ρ → Option τ} {k : σ → Option τ} {x : τ} (h : thenC o fr k = some x) : ∃ c, o = some c ∧ (match c with
  | .nx s => k s
  | .bk s => k s
  | .rt r => fr r) = some x := bnd h
theorem thenC_exit {ρ σ τ : Type} {c : Ctl ρ σ} {fr : ρ → Option τ} {k : σ → Option τ} {x : τ} {s : σ} (h : (match c with
  | .nx s => k s
  | .bk s => k s
  | .rt r => fr r) = some x) (z : c = .nx s ∨ c = .bk s) : k s = some x := by
  rcases z with rfl | rfl <;> exact h
theorem bl_use {P : Prop} {Q : VK} {H : Hp} {v : V} {b : Bool} (e : v = .bl b) (h : Q (.bl b) H) : Q v H := by rw [e]; exact h
theorem dbt {b : Bool} {P : Prop} [Decidable P] (h : some (decide P) = some b) : V.bl (decide P) = V.bl b := congrArg V.bl (Option.some.inj h)
theorem iteBt {A B : Prop} {b : Bool} (h1 : b = true → A) (h2 : ¬ b = true → B) : if b = true then A else B := ite2 h1 h2
/-! ### loops, with what follows as it stands -/
theorem for_listN {K : PySem.W.Frag} {a : Addr} {xs : List V} {g : TG} {tb : TS} {nx : L2.St → Hp → Prop} {rt : VK} {σ : L2.St} {H : Hp} (Pv : Nat → L2.St → Hp → Prop) (h0 : Pv 0 σ H) (hl : ∀ i σ H, i ≤ xs.length → Pv i σ H → SqL K H a xs)
    (hs : ∀ i x σ H, xs[i]? = some x → Pv i σ H → g x σ H fun σ2 H2 => tb { nx := Pv (i + 1), rt := rt, bk := nx, ct := Pv (i + 1) } σ2 H2) (hd : ∀ σ H, Pv xs.length σ H → nx σ H) :
    ∃ W : Nat → Nat → L2.St → Hp → Prop, (∃ m, W 0 m σ H) ∧ ∀ i m σ H, W i m σ H →
      ((Itl K a).stop i H ∧ nx σ H) ∨ ((Itl K a).go i H ∧ ∃ N : L2.St → Hp → Prop, (∀ σ' H', N σ' H' → ∃ m', m' < m ∧ W (i + 1) m' σ' H') ∧ ∀ x H', (Itl K a).yld i H x H' → g x σ H' fun σ2 H2 => tb { nx := N, rt := rt, bk := nx, ct := N } σ2 H2) :=
  for_list (D := { nx := nx, rt := rt, bk := nx, ct := nx }) Pv h0 hl hs hd
theorem for_rangeN {lo : Int} {n : Nat} {g : TG} {tb : TS} {nx : L2.St → Hp → Prop} {rt : VK} {σ : L2.St} {H : Hp} (Pv : Nat → L2.St → Hp → Prop) (h0 : Pv 0 σ H)
    (hs : ∀ i σ H, i < n → Pv i σ H → g (.int (lo + i)) σ H fun σ2 H2 => tb { nx := Pv (i + 1), rt := rt, bk := nx, ct := Pv (i + 1) } σ2 H2) (hd : ∀ σ H, Pv n σ H → nx σ H) :
    ∃ W : Nat → Nat → L2.St → Hp → Prop, (∃ m, W 0 m σ H) ∧ ∀ i m σ H, W i m σ H →
      ((Itr lo n).stop i H ∧ nx σ H) ∨ ((Itr lo n).go i H ∧ ∃ N : L2.St → Hp → Prop, (∀ σ' H', N σ' H' → ∃ m', m' < m ∧ W (i + 1) m' σ' H') ∧ ∀ x H', (Itr lo n).yld i H x H' → g x σ H' fun σ2 H2 => tb { nx := N, rt := rt, bk := nx, ct := N } σ2 H2) :=
  for_range (D := { nx := nx, rt := rt, bk := nx, ct := nx }) Pv h0 hs hd
/-- with breaks: what comes behind is told ahead -/
theorem for_rangeB {lo : Int} {n : Nat} {g : TG} {tb : TS} {nx : L2.St → Hp → Prop} {rt : VK} {σ : L2.St} {H : Hp} (Pv : Nat → L2.St → Hp → Prop) (B : L2.St → Hp → Prop) (h0 : Pv 0 σ H)
    (hs : (∀ σ H, B σ H → nx σ H) → ∀ i σ H, i < n → Pv i σ H → g (.int (lo + i)) σ H fun σ2 H2 => tb { nx := Pv (i + 1), rt := rt, bk := nx, ct := Pv (i + 1) } σ2 H2) (hd : ∀ σ H, Pv n σ H → B σ H) (hb : ∀ σ H, B σ H → nx σ H) :
    ∃ W : Nat → Nat → L2.St → Hp → Prop, (∃ m, W 0 m σ H) ∧ ∀ i m σ H, W i m σ H →
      ((Itr lo n).stop i H ∧ nx σ H) ∨ ((Itr lo n).go i H ∧ ∃ N : L2.St → Hp → Prop, (∀ σ' H', N σ' H' → ∃ m', m' < m ∧ W (i + 1) m' σ' H') ∧ ∀ x H', (Itr lo n).yld i H x H' → g x σ H' fun σ2 H2 => tb { nx := N, rt := rt, bk := nx, ct := N } σ2 H2) :=
  for_rangeN Pv h0 (hs hb) (fun σ H p => hb σ H (hd σ H p))
/-! ### data that can be laid -/
def okD (k : Nat) (d : PyData) : Prop := d.canLay0 = true ∧ d.depth ≤ k
def okA (k : Nat) (ds : List PyData) : Prop := ∀ d ∈ ds, okD k d
theorem okA_nil {k : Nat} : okA k [] := fun _ h => by cases h
theorem okA_cons {k : Nat} {d : PyData} {ds : List PyData} (h : okD k d) (r : okA k ds) : okA k (d :: ds) := fun e he => by
  rcases List.mem_cons.mp he with z | z
  · rw [z]; exact h
  · exact r e z
theorem ok_i {k : Nat} {n : Int} : okD k (.int n) := ⟨by simp only [PyData.canLay0], by simp only [PyData.depth]; exact Nat.zero_le _⟩
theorem ok_b {k : Nat} {n : Bool} : okD k (.bool n) := ⟨by simp only [PyData.canLay0], by simp only [PyData.depth]; exact Nat.zero_le _⟩
theorem ok_n {k : Nat} : okD k .none := ⟨by simp only [PyData.canLay0], by simp only [PyData.depth]; exact Nat.zero_le _⟩
theorem ok_s {k : Nat} {s : Str} (h : PyData.strOk s = true) : okD k (.str s) := ⟨by simp only [PyData.canLay0]; exact h, by simp only [PyData.depth]; exact Nat.zero_le _⟩
theorem ok_o {k : Nat} {o : Option Int} : okD k (optD' o) := by
  cases o
  · exact ok_n
  · exact ok_i
theorem ok_L {k : Nat} {ds : List PyData} (h : okA k ds) : okD (k + 1) (.list ds) := ⟨by simp only [PyData.canLay0]; exact lay_all fun d hd => (h d hd).1, by
  simp only [PyData.depth]
  have := depth_all fun d hd => (h d hd).2
  omega⟩
theorem ok_T {k : Nat} {ds : List PyData} (h : okA k ds) : okD (k + 1) (.tuple ds) := ⟨by simp only [PyData.canLay0]; exact lay_all fun d hd => (h d hd).1, by
  simp only [PyData.depth]
  have := depth_all fun d hd => (h d hd).2
  omega⟩
theorem okA_map {k : Nat} {α : Type} {f : α → PyData} (h : ∀ x, okD k (f x)) (xs : List α) : okA k (xs.map f) := fun d hd => by
  obtain ⟨x, _, rfl⟩ := List.mem_map.mp hd
  exact h x
theorem shp_of {k : Nat} {d : PyData} (h : okD k d) (hk : k ≤ 64) : SeqAt.shaped d = true := shp h.1 (Nat.le_trans h.2 hk)
/-! ### records -/
/-- entries chosen and closed as one, in one go -/
theorem Sep.cl {S0 : List Addr} {H0 H : Hp} {L : List As} (h : Sep S0 H0 H L) (is : List Nat) (n : Nat) {L' : List As} (e : (mvsL is L).map (fun M => aG (takeN n M) :: dropN n M) = some L') : Sep S0 H0 H L' := by
  cases em : mvsL is L with
  | none => rw [em] at e; cases e
  | some M =>
    rw [em] at e
    rw [← Option.some.inj e]
    exact (h.mvs is em).clsN n
theorem Sep.as1 {S0 : List Addr} {H0 H : Hp} {L : List As} {X Y : As} (h : Sep S0 H0 H (X :: L)) (e : X = Y) : Sep S0 H0 H (Y :: L) := e ▸ h
theorem Sep.asN {S0 : List Addr} {H0 H : Hp} {L : List As} {X Y : As} (h : Sep S0 H0 H L) (i : Nat) (n : nth L i = some X) (e : X = Y) : Sep S0 H0 H (setN L i [Y]) := by
  subst e
  exact h.put i n X (Kp.refl _ _) (h.get i n)
theorem nth_own : ∀ {L : List As} {i : Nat} {A : As}, nth L i = some A → ∀ b, b ∈ A.own → b ∈ owns L
  | [], _, _, e, _, _ => by cases e
  | B :: r, 0, A, e, b, m => by
    have e : B = A := Option.some.inj e
    exact List.mem_append_left _ (e ▸ m)
  | _ :: _, n + 1, _, e, b, m => List.mem_append_right _ (nth_own (i := n) e b m)
theorem apart_aux {p : Addr} {o u : HO} : ∀ {L : List As} {i j : Nat}, nth L i = some (aC p o) → nth L j = some (aC p u) → i ≠ j → (owns L).Nodup → False
  | [], _, _, e, _, _, _ => by cases e
  | A :: r, 0, 0, _, _, n, _ => n rfl
  | A :: r, 0, j + 1, e1, e2, _, nd => by
    have e1 : A = aC p o := Option.some.inj e1
    subst e1
    exact (nd_app.mp nd).2.2 p (List.mem_singleton.mpr rfl) (nth_own (i := j) e2 p (List.mem_singleton.mpr rfl))
  | A :: r, i + 1, 0, e1, e2, _, nd => by
    have e2 : A = aC p u := Option.some.inj e2
    subst e2
    exact (nd_app.mp nd).2.2 p (List.mem_singleton.mpr rfl) (nth_own (i := i) e1 p (List.mem_singleton.mpr rfl))
  | A :: r, i + 1, j + 1, e1, e2, n, nd => apart_aux (L := r) (i := i) (j := j) e1 e2 (fun z => n (congrArg (· + 1) z)) (nd_app.mp nd).2.1
theorem Sep.apart {S0 : List Addr} {H0 H : Hp} {L : List As} {p q : Addr} {o u : HO} (h : Sep S0 H0 H L) (i j : Nat) (e1 : nth L i = some (aC p o)) (e2 : nth L j = some (aC q u)) (n : i ≠ j) : p ≠ q := fun e => by
  subst e
  exact apart_aux e1 e2 n h.nd
theorem getI_map {o : Option Int} {d : Int} : (o.map V.int).getD (.int d) = .int (o.getD d) := by cases o <;> rfl
def mkI (l : List (Int × Int)) : List (Int × Int) := l.foldl (fun acc p => putI acc p.1 p.2) []
theorem lineK_put (l : List (Int × Int)) (k v : Int) : putK (lineK l) (Sum.inl k : Key) (.int v) = lineK (putI l k v) := by
  have e : ((lineK l).any fun kv => decide (kv.1 = (Sum.inl k : Key))) = (l.any fun p => decide (p.1 = k)) := by
    unfold lineK
    rw [List.any_map]
    congr 1
    funext p
    exact decide_eq_decide.mpr ⟨fun h => Sum.inl.inj h, fun h => congrArg Sum.inl h⟩
  unfold putK putI
  rw [e]
  by_cases h : (l.any fun p => decide (p.1 = k)) = true
  · rw [if_pos h, if_pos h]
    unfold lineK
    rw [List.map_map, List.map_map]
    refine List.map_congr_left fun p _ => ?_
    show (if (Sum.inl p.1 : Key) = Sum.inl k then _ else _) = ((Sum.inl (if p.1 = k then (k, v) else p).1 : Key), V.int (if p.1 = k then (k, v) else p).2)
    by_cases c : p.1 = k
    · rw [if_pos (congrArg Sum.inl c), if_pos c]
      show ((Sum.inl p.1 : Key), V.int v) = (Sum.inl k, V.int v)
      rw [c]
    · rw [if_neg (fun z => c (Sum.inl.inj z)), if_neg c]
  · rw [if_neg h, if_neg h]
    unfold lineK
    rw [List.map_append]; rfl
theorem Sep.putD {S0 : List Addr} {H0 H : Hp} {L : List As} (h : Sep S0 H0 H L) (i : Nat) {p : Addr} {l : List (Int × Int)} (e : nth L i = some (aC p (.dK (lineK l)))) (k v : Int) : Sep S0 H0 (upd H p (.dK (putK (lineK l) (Sum.inl k : Key) (.int v)))) (setN L i [aC p (.dK (lineK (putI l k v)))]) := by
  rw [lineK_put]; exact h.putC i e trivial _
theorem merge_go : ∀ (l : List (Int × Int)) (acc : List (Int × Int)), mergeK (lineK acc) (lineK l) = lineK (l.foldl (fun acc p => putI acc p.1 p.2) acc)
  | [], _ => rfl
  | p :: r, acc => by
    show mergeK (putK (lineK acc) (Sum.inl p.1 : Key) (.int p.2)) (lineK r) = _
    rw [lineK_put, merge_go r]; rfl
theorem merge_mkI (l : List (Int × Int)) : mergeK [] (lineK l) = lineK (mkI l) := merge_go l []
/-! ### flat tuples: what stops a board -/
instance : Imm (List V) := ⟨fun H v xs => ∃ p, v = .ref p ∧ H p = some (.tup xs), fun t ⟨p, e, h⟩ => ⟨p, e, t _ _ h⟩⟩
theorem imF {H : Hp} {p : Addr} {xs : List V} (h : H p = some (.tup xs)) : Imm.at_ H (.ref p) xs := ⟨p, rfl, h⟩
theorem im_stop {H : Hp} {v : V} {o : Option (List V)} (h : StopV H v o) : Imm.at_ H v o := by
  cases o with
  | none => exact h
  | some xs => exact h
theorem opt_decF {H : Hp} {v : V} {o : Option (List V)} (h : Imm.at_ H v o) : V.bl (decide (v = .non)) = V.bl (decide (o = none)) := by
  cases o with
  | none => rw [show v = .non from h]; rfl
  | some x =>
    obtain ⟨p, e, _⟩ := (show Imm.at_ H v x from h)
    rw [e]; rfl
theorem opt_decFN {H : Hp} {v : V} {o : Option (List V)} (h : Imm.at_ H v o) : V.bl (!decide (v = .non)) = V.bl (decide (o ≠ none)) := by
  have := V.bl.inj (opt_decF h)
  rw [this, decide_not]
def flD : V → PyData
  | .int i => .int i
  | .str s => .str s
  | _ => .none
def flOk : V → Bool
  | .int _ => true
  | .str s => PyData.strOk s
  | _ => false
def stOk : Option (List V) → Bool
  | none => true
  | some xs => xs.all flOk
def stD : Option (List V) → PyData
  | none => .none
  | some xs => .tuple (xs.map flD)
theorem dp_flatA {K : PySem.W.Frag} {H : Hp} : ∀ {st : List V}, st.all flOk = true → DpAll K H st (st.map flD)
  | [], _ => .nil
  | v :: r, h => by
    simp only [List.all_cons, Bool.and_eq_true] at h
    obtain ⟨h1, h2⟩ := h
    refine .cons ?_ (dp_flatA h2)
    cases v <;> first | exact .int _ | exact .str _ | cases h1
theorem dp_st {K : PySem.W.Frag} {H : Hp} {v : V} {o : Option (List V)} (g : stOk o = true) (h : Imm.at_ H v o) : Dp K H v (stD o) := by
  cases o with
  | none => rw [show v = .non from h]; exact .non
  | some xs =>
    obtain ⟨p, e, ht⟩ := (show Imm.at_ H v xs from h)
    rw [e]; exact .tup (SqT.of ht) (dp_flatA g)
theorem ok_st {k : Nat} {o : Option (List V)} (g : stOk o = true) : okD (k + 1) (stD o) := by
  cases o with
  | none => exact ok_n
  | some xs =>
    refine ok_T fun d hd => ?_
    obtain ⟨v, hv, rfl⟩ := List.mem_map.mp hd
    have := List.all_eq_true.mp g v hv
    cases v <;> first | exact ok_i | exact ok_s this | cases this
theorem eqv_fl {x y : V} (hx : flOk x = true) (hy : flOk y = true) : PyData.eqv (flD x) (flD y) = decide (x = y) := by
  cases x <;> first | cases hx; done | skip
  all_goals cases y <;> first | cases hy; done | skip
  all_goals simp only [flD, PyData.eqv]
  all_goals first | (rename_i a b; by_cases h : a = b <;> simp [h]) | simp
theorem eqv_flA : ∀ {xs ys : List V}, xs.all flOk = true → ys.all flOk = true → PyData.eqvAll (xs.map flD) (ys.map flD) = decide (xs = ys)
  | [], [], _, _ => by simp [PyData.eqvAll]
  | [], _ :: _, _, _ => by simp [PyData.eqvAll]
  | _ :: _, [], _, _ => by simp [PyData.eqvAll]
  | x :: r, y :: q, h1, h2 => by
    simp only [List.all_cons, Bool.and_eq_true] at h1 h2
    simp only [List.map_cons, PyData.eqvAll, eqv_fl h1.1 h2.1, eqv_flA h1.2 h2.2]
    by_cases h : x = y <;> by_cases h2 : r = q <;> simp [h, h2]
theorem eqv_st {a b : Option (List V)} (h1 : stOk a = true) (h2 : stOk b = true) : PyData.eqv (stD a) (stD b) = decide (a = b) := by
  cases a with
  | none => cases b <;> simp [stD, PyData.eqv]
  | some x =>
    cases b with
    | none => simp [stD, PyData.eqv]
    | some y =>
      simp only [stD, PyData.eqv]
      rw [eqv_flA h1 h2]
      by_cases h : x = y <;> simp [h]
def prD (p : Int × Int) : PyData := .tuple [.int p.1, .int p.2]
theorem ok_pr {k : Nat} {p : Int × Int} : okD (k + 1) (prD p) := ok_T (okA_cons ok_i (okA_cons ok_i okA_nil))
theorem dpPairsL {K : PySem.W.Frag} {H : Hp} : ∀ {vs : List V} {xs : List (Int × Int)}, Imms H vs xs → DpAll K H vs (xs.map prD)
  | _, _, .nil => .nil
  | _, _, .cons ⟨p, u, w, e, h, h1, h2⟩ r => by
    have h1 : u = _ := h1
    have h2 : w = _ := h2
    subst h1 h2 e
    exact .cons (.tup (SqT.of h) (.cons (.int _) (.cons (.int _) .nil))) (dpPairsL r)
theorem dpPairs {K : PySem.W.Frag} {H : Hp} {p : Addr} {xs : List (Int × Int)} (h : ∃ vs, H p = some (.lst vs) ∧ Imms H vs xs) : Dp K H (.ref p) (.list (xs.map prD)) := by
  obtain ⟨vs, h1, h2⟩ := h
  exact .lst (SqL.of h1) (dpPairsL h2)
theorem eqv_prA : ∀ xs ys : List (Int × Int), PyData.eqvAll (xs.map prD) (ys.map prD) = decide (xs = ys)
  | [], [] => by simp [PyData.eqvAll]
  | [], _ :: _ => by simp [PyData.eqvAll]
  | _ :: _, [] => by simp [PyData.eqvAll]
  | (a, b) :: r, (c, d) :: q => by
    simp only [List.map_cons, PyData.eqvAll, eqv_prA r q, prD, PyData.eqv]
    by_cases h : a = c <;> by_cases h2 : b = d <;> by_cases h3 : r = q <;> simp [h, h2, h3]
theorem eqv_prs (xs ys : List (Int × Int)) : PyData.eqv (.list (xs.map prD)) (.list (ys.map prD)) = decide (xs = ys) := by
  rw [PyData.eqv]; exact eqv_prA xs ys
theorem imms_of {H : Hp} : ∀ {ls : List V} {l : List (Int × Int)}, Tups H ls (sentT l) → Imms H ls l
  | _, [], .nil => .nil
  | _, x :: r, .cons ⟨t, e, h⟩ q => .cons ⟨t, _, _, e, h, rfl, rfl⟩ (imms_of (l := r) q)
theorem dpBools {K : PySem.W.Frag} {H : Hp} {p : Addr} {xs : List Bool} (h : H p = some (.lst (xs.map Sc.v))) : Dp K H (.ref p) (.list (xs.map PyData.bool)) := by
  refine .lst (SqL.of h) ?_
  clear h
  induction xs with
  | nil => exact .nil
  | cons x r ih => exact .cons (.bl x) ih
theorem eqv_bs (xs ys : List Bool) : PyData.eqv (.list (xs.map PyData.bool)) (.list (ys.map PyData.bool)) = decide (xs = ys) := by
  rw [PyData.eqv]
  induction xs generalizing ys with
  | nil => cases ys <;> simp [PyData.eqvAll]
  | cons x r ih =>
    cases ys with
    | nil => simp [PyData.eqvAll]
    | cons y q =>
      simp only [List.map_cons, PyData.eqvAll, eqv_b, ih q]
      by_cases h : x = y <;> by_cases h2 : r = q <;> simp [h, h2]
theorem isi_st {K : PySem.W.Frag} {H : Hp} {v : V} {o : Option (List V)} (h : Imm.at_ H v o) : ∃ t, TyX K H v t ∧ PySem.W.kitOne K t (.type "bool") = some false := by
  cases o with
  | none =>
    rw [show v = .non from h]
    exact ⟨_, .base .non, kit_ty (by decide +kernel)⟩
  | some xs =>
    obtain ⟨p, e, ht⟩ := (show Imm.at_ H v xs from h)
    rw [e]
    exact ⟨_, .base (.tup ht), kit_ty (by decide +kernel)⟩
theorem dIn {o : Option Int} : V.bl ((o.map V.int).isSome) = V.bl (decide (o.isSome = true)) := by cases o <;> rfl
theorem dInN {o : Option Int} : V.bl (!(o.map V.int).isSome) = V.bl (decide (o.isSome = false)) := by cases o <;> rfl
def updI (a b : List (Int × Int)) : List (Int × Int) := b.foldl (fun acc p => putI acc p.1 p.2) a
theorem valV_c {k x : Int} {v : V} {r : List (Key × V)} : valV (((Sum.inl k : Key), v) :: r) (Sum.inl x : Key) = if x = k then some v else valV r (Sum.inl x : Key) := by
  by_cases h : x = k
  · rw [if_pos h]; exact valV_pos (by rw [h])
  · rw [if_neg h]; exact valV_neg (fun z => h (Sum.inl.inj z).symm)
theorem eqv_osi (xs : List (Option Int)) (ys : List Int) : PyData.eqv (.list (xs.map optD')) (.list (ys.map PyData.int)) = decide (xs = ys.map some) := by
  rw [← eqv_os xs (ys.map some), List.map_map]; rfl
theorem eqv_ios (xs : List Int) (ys : List (Option Int)) : PyData.eqv (.list (xs.map PyData.int)) (.list (ys.map optD')) = decide (xs.map some = ys) := by
  rw [← eqv_os (xs.map some) ys, List.map_map]; rfl
instance : Decidable (CPow i j) := by unfold CPow; infer_instance
theorem dpApp {K : PySem.W.Frag} {H : Hp} : ∀ {vs ws : List V} {ds es : List PyData}, DpAll K H vs ds → DpAll K H ws es → DpAll K H (vs ++ ws) (ds ++ es)
  | _, _, _, _, .nil, h => h
  | _, _, _, _, .cons h r, h2 => .cons h (dpApp r h2)
theorem okA_app {k : Nat} {ds es : List PyData} (h : okA k ds) (r : okA k es) : okA k (ds ++ es) := fun e he => by
  rcases List.mem_append.mp he with z | z
  · exact h e z
  · exact r e z
theorem eqvApp : ∀ {ps qs : List PyData} {P : Prop} [Decidable P] {xs ys : List Int}, ps.length = qs.length → PyData.eqvAll ps qs = decide P → PyData.eqvAll (ps ++ xs.map PyData.int) (qs ++ ys.map PyData.int) = decide (P ∧ xs = ys)
  | [], [], P, _, xs, ys, _, h => by
    have hp : P := of_decide_eq_true (by rw [← h]; simp [PyData.eqvAll])
    rw [List.nil_append, List.nil_append, eqv_ints]
    by_cases c : xs = ys <;> simp [c, hp]
  | [], _ :: _, _, _, _, _, l, _ => by simp at l
  | _ :: _, [], _, _, _, _, l, _ => by simp at l
  | p :: ps, q :: qs, P, _, xs, ys, l, h => by
    have ih := eqvApp (ps := ps) (qs := qs) (P := PyData.eqvAll ps qs = true) (xs := xs) (ys := ys) (by simpa using l) (by simp)
    simp only [List.cons_append, PyData.eqvAll] at h ⊢
    rw [ih]
    by_cases a : PyData.eqv p q = true <;> by_cases b : PyData.eqvAll ps qs = true <;> by_cases c : xs = ys <;> simp_all
theorem opt_scal {H : Hp} {v w : V} {a b : Option Int} (h : Imm.at_ H v a) (g : Imm.at_ H w b) : scal v w = true := by
  cases a <;> cases b <;> (cases h; cases g; rfl)
theorem opt_iff {H : Hp} {v w : V} {a b : Option Int} (h : Imm.at_ H v a) (g : Imm.at_ H w b) : v = w ↔ a = b := by
  cases a <;> cases b <;> cases h <;> cases g
  · exact ⟨fun _ => rfl, fun _ => rfl⟩
  · exact ⟨fun z => (by cases z), fun z => (by cases z)⟩
  · exact ⟨fun z => (by cases z), fun z => (by cases z)⟩
  · exact ⟨fun z => (by cases z; rfl), fun z => (by cases z; rfl)⟩
theorem opt_eqd {H : Hp} {v w : V} {a b : Option Int} (h : Imm.at_ H v a) (g : Imm.at_ H w b) : V.bl (decide (v = w)) = V.bl (decide (a = b)) := congrArg V.bl (decide_eq_decide.mpr (opt_iff h g))
theorem opt_neqd {H : Hp} {v w : V} {a b : Option Int} (h : Imm.at_ H v a) (g : Imm.at_ H w b) : V.bl (!decide (v = w)) = V.bl (decide (¬ a = b)) := by rw [decide_not, decide_eq_decide.mpr (opt_iff h g)]
/-! answers of several ways -/
def altO {α β γ : Type} (s : α ⊕ β) (f : α → Option γ) (g : β → Option γ) : Option γ := match s with | .inl a => f a | .inr b => g b
theorem alt_l {α β γ : Type} {s : α ⊕ β} {f : α → Option γ} {g : β → Option γ} {o : Option γ} {a : α} (h : s = .inl a) (e : altO s f g = o) : f a = o := by subst h; exact e
theorem alt_r {α β γ : Type} {s : α ⊕ β} {f : α → Option γ} {g : β → Option γ} {o : Option γ} {b : β} (h : s = .inr b) (e : altO s f g = o) : g b = o := by subst h; exact e
theorem dBb2 {a b a' b' : Bool} (ha : V.bl a' = V.bl a) (hb : V.bl b' = V.bl b) : V.bl (decide (V.bl a' = V.bl b')) = V.bl (decide (a = b)) := by rw [ha, hb]; exact dBb
theorem dnBb2 {a b a' b' : Bool} (ha : V.bl a' = V.bl a) (hb : V.bl b' = V.bl b) : V.bl (!decide (V.bl a' = V.bl b')) = V.bl (decide (¬ a = b)) := by rw [ha, hb]; exact dnBb

def Digs (ds : List Int) : Prop := ∀ d ∈ ds, 0 ≤ d ∧ d < 1009
theorem Digs.snoc {ds : List Int} (h : Digs ds) {d : Int} (h0 : 0 ≤ d ∧ d < 1009) : Digs (ds ++ [d]) := fun x hx => by
  rcases List.mem_append.mp hx with z | z
  · exact h x z
  · rw [List.mem_singleton.mp z]; exact h0

/-! ### loops of the mirrors, in plain words -/
theorem forS_inv {α σ : Type} {f : α → σ → Option σ} {xs : List α} {s : σ} (P : Nat → σ → Prop) (h0 : P 0 s) (hs : ∀ i x s, xs[i]? = some x → P i s → ∃ s', f x s = some s' ∧ P (i + 1) s') : ∃ s', forS f xs s = some s' ∧ P xs.length s' := by
  induction xs generalizing s P with
  | nil => exact ⟨s, rfl, h0⟩
  | cons x r ih =>
    obtain ⟨s1, e1, p1⟩ := hs 0 x s rfl h0
    obtain ⟨s2, e2, p2⟩ := ih (s := s1) (fun i => P (i + 1)) p1 fun i y s hy hp => hs (i + 1) y s (by simpa using hy) hp
    refine ⟨s2, ?_, p2⟩
    show (f x s).bind (forS f r) = _
    rw [e1]; exact e2
theorem forC_inv {α σ ρ : Type} {f : α → σ → Option (Ctl ρ σ)} {xs : List α} {s : σ} (P : Nat → σ → Prop) (h0 : P 0 s) (hs : ∀ i x s, xs[i]? = some x → P i s → ∃ s', f x s = some (.nx s') ∧ P (i + 1) s') : ∃ s', forC f xs s = some (.nx s') ∧ P xs.length s' := by
  induction xs generalizing s P with
  | nil => exact ⟨s, rfl, h0⟩
  | cons x r ih =>
    obtain ⟨s1, e1, p1⟩ := hs 0 x s rfl h0
    obtain ⟨s2, e2, p2⟩ := ih (s := s1) (fun i => P (i + 1)) p1 fun i y s hy hp => hs (i + 1) y s (by simpa using hy) hp
    refine ⟨s2, ?_, p2⟩
    show ((f x s).bind fun c => _) = _
    rw [e1]; exact e2
theorem bnd_of {α β : Type} {o : Option α} {f : α → Option β} {x : α} {r : Option β} (h : o = some x) (e : f x = r) : o.bind f = r := by rw [h]; exact e
theorem thenC_nx {ρ σ τ : Type} {o : Option (Ctl ρ σ)} {fr : ρ → Option τ} {k : σ → Option τ} {s : σ} {x : Option τ} (h : o = some (.nx s)) (e : k s = x) : thenC o fr k = x := by rw [h]; exact e
theorem snoc_ok {α : Type} {xs : List α} {x : α} (h : xs.length < 16000000) : snoc xs x = some (xs ++ [x]) := if_pos h
theorem catL_ok {α : Type} {xs ys : List α} (h : xs.length + ys.length < 16000000) : catL xs ys = some (xs ++ ys) := if_pos h
theorem repL_one {α : Type} {x : α} {n : Int} (h0 : 0 ≤ n) (h : n < 16000000) : repL [x] n = some (List.replicate n.toNat x) := by
  unfold repL
  rw [if_pos ⟨by omega, by omega, by show 1 * n.toNat < 16000000; omega⟩]
  congr 1
  generalize n.toNat = m
  induction m with
  | zero => rfl
  | succ m ih => rw [List.replicate_succ, List.flatten_cons, ih, List.replicate_succ]; rfl
theorem atI_ok {α : Type} {xs : List α} {i : Nat} {x : α} (h : xs[i]? = some x) : atI xs (i : Int) = some x := atI_nat h
theorem atI_z {α : Type} {xs : List α} {i : Int} {x : α} (h0 : 0 ≤ i) (h : xs[i.toNat]? = some x) : atI xs i = some x := by
  have := atI_nat (xs := xs) h
  rwa [show ((i.toNat : Nat) : Int) = i by omega] at this
theorem dg_at {ds : List Int} {n : Nat} (hl : ds.length = n) (hd : Digs ds) (i : Int) (h0 : 0 ≤ i) (hi : i < n) : ∃ d, atI ds i = some d ∧ 0 ≤ d ∧ d < 1009 := by
  have hlt : i.toNat < ds.length := by omega
  exact ⟨ds[i.toNat], atI_z h0 (List.getElem?_eq_getElem hlt), hd _ (List.getElem_mem _)⟩
theorem range_mem {lo : Int} {n i : Nat} {x : Int} (h : (rangeL lo n)[i]? = some x) : x = lo + (i : Int) ∧ i < n := by
  have hl := (List.getElem?_eq_some_iff.mp h).1
  rw [range_len] at hl
  rw [range_get hl] at h
  exact ⟨(Option.some.inj h).symm, hl⟩
theorem lineOk_nil : LineOk [] := by
  constructor <;> first | exact fun _ h => by cases h | simp
theorem LineOk.snoc {l : List (Int × Int)} {q : Int × Int} (h : LineOk l) (h1 : ∀ p ∈ l, p.1 < q.1) (h2 : 0 < q.1) (h3 : 0 ≤ q.2 ∧ q.2 < 4) : LineOk (l ++ [q]) := by
  refine ⟨?_, fun p hp => ?_, fun p hp => ?_⟩
  · rw [List.map_append]
    refine List.pairwise_append.mpr ⟨h.up, by simp, fun x hx y hy => ?_⟩
    obtain ⟨p, hp, rfl⟩ := List.mem_map.mp hx
    simp only [List.map_cons, List.map_nil, List.mem_singleton] at hy
    rw [hy]; exact h1 p hp
  · rcases List.mem_append.mp hp with z | z
    · exact h.pos p z
    · rw [List.mem_singleton.mp z]; exact h2
  · rcases List.mem_append.mp hp with z | z
    · exact h.val p z
    · rw [List.mem_singleton.mp z]; exact h3

/-! ### data of values that do not change: how they read, when two are alike -/
class Dat (α : Type) [Imm α] [DecidableEq α] where
  d : α → PyData
  b : α → Bool
  dep : Nat
  dp : ∀ {K : PySem.W.Frag} {H : Hp} {v : V} {x : α}, b x = true → Imm.at_ H v x → Dp K H v (d x)
  ok : ∀ {x : α} {k : Nat}, b x = true → dep ≤ k → okD k (d x)
  eq : ∀ {x y : α}, b x = true → b y = true → PyData.eqv (d x) (d y) = decide (x = y)
/-- none of them is None -/
class DatN (α : Type) [Imm α] [DecidableEq α] [Dat α] : Prop where
  n1 : ∀ x : α, PyData.eqv .none (Dat.d x) = false
  n2 : ∀ x : α, PyData.eqv (Dat.d x) .none = false
instance : Dat Int := ⟨.int, fun _ => true, 0, fun {_ _ v x} _ h => by rw [show v = .int x from h]; exact .int x, fun _ _ => ok_i, fun _ _ => eqv_i _ _⟩
instance : Dat Bool := ⟨.bool, fun _ => true, 0, fun {_ _ v x} _ h => by rw [show v = .bl x from h]; exact .bl x, fun _ _ => ok_b, fun _ _ => eqv_b _ _⟩
instance : Dat Str := ⟨.str, PyData.strOk, 0, fun {_ _ v x} _ h => by rw [show v = .str x from h]; exact .str x, fun h _ => ok_s h, fun _ _ => eqv_s _ _⟩
instance : DatN Int := ⟨fun _ => by simp [Dat.d, PyData.eqv], fun _ => by simp [Dat.d, PyData.eqv]⟩
instance : DatN Bool := ⟨fun _ => by simp [Dat.d, PyData.eqv], fun _ => by simp [Dat.d, PyData.eqv]⟩
instance : DatN Str := ⟨fun _ => by simp [Dat.d, PyData.eqv], fun _ => by simp [Dat.d, PyData.eqv]⟩
theorem okD_up {d : PyData} {j k : Nat} (h : okD j d) (l : j ≤ k) : okD k d := ⟨h.1, Nat.le_trans h.2 l⟩
instance {α : Type} [Imm α] [DecidableEq α] [Dat α] [DatN α] : Dat (Option α) where
  d := fun o => match o with
    | none => .none
    | some x => Dat.d x
  b := fun o => match o with
    | none => true
    | some x => Dat.b x
  dep := Dat.dep α
  dp := fun {_ _ v x} g h => by
    cases x with
    | none => rw [show v = .non from h]; exact .non
    | some y => exact Dat.dp g h
  ok := fun {x _} g l => by
    cases x with
    | none => exact ok_n
    | some y => exact Dat.ok g l
  eq := fun {x y} g1 g2 => by
    cases x with
    | none => cases y with
      | none => simp [PyData.eqv]
      | some y => exact (DatN.n1 y).trans (by simp)
    | some x => cases y with
      | none => exact (DatN.n2 x).trans (by simp)
      | some y => exact (Dat.eq g1 g2).trans (by simp)
theorem and_bb {a b : Bool} (h : (a && b) = true) : a = true ∧ b = true := by simpa using h
theorem ok_T2 {k : Nat} {x y : PyData} (h1 : okD k x) (h2 : okD k y) : okD (k + 1) (.tuple [x, y]) := ok_T (okA_cons h1 (okA_cons h2 okA_nil))
instance {α β : Type} [Imm α] [Imm β] [DecidableEq α] [DecidableEq β] [Dat α] [Dat β] : Dat (α × β) where
  d := fun x => .tuple [Dat.d x.1, Dat.d x.2]
  b := fun x => Dat.b x.1 && Dat.b x.2
  dep := max (Dat.dep α) (Dat.dep β) + 1
  dp := fun {_ _ v x} g h => by
    obtain ⟨g1, g2⟩ := and_bb g
    obtain ⟨p, u, w, e, ht, a, b⟩ := h
    rw [e]; exact .tup (SqT.of ht) (.cons (Dat.dp g1 a) (.cons (Dat.dp g2 b) .nil))
  ok := fun {x k} g l => by
    obtain ⟨g1, g2⟩ := and_bb g
    obtain ⟨j, rfl⟩ : ∃ j, k = j + 1 := ⟨k - 1, by omega⟩
    exact ok_T2 (Dat.ok g1 (by omega)) (Dat.ok g2 (by omega))
  eq := fun {x y} g1 g2 => by
    obtain ⟨a1, a2⟩ := and_bb g1
    obtain ⟨b1, b2⟩ := and_bb g2
    refine (eqvT (eqvC (Dat.eq a1 b1) (eqvC (Dat.eq a2 b2) eqvN))).trans (decide_eq_decide.mpr ⟨fun h => ?_, fun h => ?_⟩)
    · exact Prod.ext h.1 h.2.1
    · subst h; exact ⟨rfl, rfl, trivial⟩
instance {α β : Type} [Imm α] [Imm β] [DecidableEq α] [DecidableEq β] [Dat α] [Dat β] : DatN (α × β) := ⟨fun _ => by simp [Dat.d, PyData.eqv], fun _ => by simp [Dat.d, PyData.eqv]⟩
instance {α β γ : Type} [Imm α] [Imm β] [Imm γ] [DecidableEq α] [DecidableEq β] [DecidableEq γ] [Dat α] [Dat β] [Dat γ] : Dat (T3 α β γ) where
  d := fun x => .tuple [Dat.d x.a, Dat.d x.b, Dat.d x.c]
  b := fun x => Dat.b x.a && (Dat.b x.b && Dat.b x.c)
  dep := max (Dat.dep α) (max (Dat.dep β) (Dat.dep γ)) + 1
  dp := fun {_ _ v x} g h => by
    obtain ⟨g1, g2⟩ := and_bb g
    obtain ⟨g2, g3⟩ := and_bb g2
    obtain ⟨p, u, w, z, e, ht, a, b, c⟩ := h
    rw [e]; exact .tup (SqT.of ht) (.cons (Dat.dp g1 a) (.cons (Dat.dp g2 b) (.cons (Dat.dp g3 c) .nil)))
  ok := fun {x k} g l => by
    obtain ⟨g1, g2⟩ := and_bb g
    obtain ⟨g2, g3⟩ := and_bb g2
    obtain ⟨j, rfl⟩ : ∃ j, k = j + 1 := ⟨k - 1, by omega⟩
    exact ok_T (okA_cons (Dat.ok g1 (by omega)) (okA_cons (Dat.ok g2 (by omega)) (okA_cons (Dat.ok g3 (by omega)) okA_nil)))
  eq := fun {x y} g1 g2 => by
    obtain ⟨a1, a2⟩ := and_bb g1
    obtain ⟨a2, a3⟩ := and_bb a2
    obtain ⟨b1, b2⟩ := and_bb g2
    obtain ⟨b2, b3⟩ := and_bb b2
    refine (eqvT (eqvC (Dat.eq a1 b1) (eqvC (Dat.eq a2 b2) (eqvC (Dat.eq a3 b3) eqvN)))).trans (decide_eq_decide.mpr ⟨fun h => ?_, fun h => ?_⟩)
    · obtain ⟨h1, h2, h3, _⟩ := h
      cases x; cases y
      exact T3.mk.injEq .. ▸ ⟨h1, h2, h3⟩
    · subst h; exact ⟨rfl, rfl, rfl, trivial⟩
instance {α β γ : Type} [Imm α] [Imm β] [Imm γ] [DecidableEq α] [DecidableEq β] [DecidableEq γ] [Dat α] [Dat β] [Dat γ] : DatN (T3 α β γ) := ⟨fun _ => by simp [Dat.d, PyData.eqv], fun _ => by simp [Dat.d, PyData.eqv]⟩
/-- flat tuples -/
def fxD : V → PyData
  | .int i => .int i
  | .str s => .str s
  | _ => .none
def fxOk : V → Bool
  | .int _ => true
  | .str s => PyData.strOk s
  | .non => true
  | _ => false
theorem fxOk_fl {v : V} (h : flOk v = true) : fxOk v = true := by cases v <;> first | exact h | cases h
theorem fx_fl {xs : List V} (h : xs.all flOk = true) : xs.all fxOk = true := List.all_eq_true.mpr fun v hv => fxOk_fl (List.all_eq_true.mp h v hv)
theorem dp_fxA {K : PySem.W.Frag} {H : Hp} : ∀ {st : List V}, st.all fxOk = true → DpAll K H st (st.map fxD)
  | [], _ => .nil
  | v :: r, h => by
    simp only [List.all_cons, Bool.and_eq_true] at h
    obtain ⟨h1, h2⟩ := h
    refine .cons ?_ (dp_fxA h2)
    cases v <;> first | exact .int _ | exact .str _ | exact .non | cases h1
theorem eqv_fx {x y : V} (hx : fxOk x = true) (hy : fxOk y = true) : PyData.eqv (fxD x) (fxD y) = decide (x = y) := by
  cases x <;> first | cases hx; done | skip
  all_goals cases y <;> first | cases hy; done | skip
  all_goals simp only [fxD, PyData.eqv]
  all_goals first | (rename_i a b; by_cases h : a = b <;> simp [h]) | simp
theorem eqv_fxA : ∀ {xs ys : List V}, xs.all fxOk = true → ys.all fxOk = true → PyData.eqvAll (xs.map fxD) (ys.map fxD) = decide (xs = ys)
  | [], [], _, _ => by simp [PyData.eqvAll]
  | [], _ :: _, _, _ => by simp [PyData.eqvAll]
  | _ :: _, [], _, _ => by simp [PyData.eqvAll]
  | x :: r, y :: q, h1, h2 => by
    simp only [List.all_cons, Bool.and_eq_true] at h1 h2
    simp only [List.map_cons, PyData.eqvAll, eqv_fx h1.1 h2.1, eqv_fxA h1.2 h2.2]
    by_cases h : x = y <;> by_cases h2 : r = q <;> simp [h, h2]
instance : Dat (List V) where
  d := fun xs => .tuple (xs.map fxD)
  b := fun xs => xs.all fxOk
  dep := 1
  dp := fun {_ _ v x} g h => by
    obtain ⟨p, e, ht⟩ := h
    rw [e]; exact .tup (SqT.of ht) (dp_fxA g)
  ok := fun {x k} g l => by
    obtain ⟨j, rfl⟩ : ∃ j, k = j + 1 := ⟨k - 1, by omega⟩
    refine ok_T fun d hd => ?_
    obtain ⟨v, hv, rfl⟩ := List.mem_map.mp hd
    have := List.all_eq_true.mp g v hv
    cases v <;> first | exact ok_i | exact ok_s this | exact ok_n | cases this
  eq := fun {x y} g1 g2 => by rw [PyData.eqv]; exact eqv_fxA g1 g2
instance : DatN (List V) := ⟨fun _ => by simp [Dat.d, PyData.eqv], fun _ => by simp [Dat.d, PyData.eqv]⟩
section
variable {α : Type} [Imm α] [DecidableEq α] [Dat α]
theorem dpDatA {K : PySem.W.Frag} {H : Hp} : ∀ {vs : List V} {xs : List α}, xs.all Dat.b = true → Imms H vs xs → DpAll K H vs (xs.map Dat.d)
  | _, _, _, .nil => .nil
  | _, _, g, .cons h r => by
    simp only [List.all_cons, Bool.and_eq_true] at g
    exact .cons (Dat.dp g.1 h) (dpDatA g.2 r)
theorem dpDatL {K : PySem.W.Frag} {H : Hp} {p : Addr} {xs : List α} (g : xs.all Dat.b = true) (h : ∃ vs, H p = some (.lst vs) ∧ Imms H vs xs) : Dp K H (.ref p) (.list (xs.map Dat.d)) := by
  obtain ⟨vs, e, i⟩ := h
  exact .lst (SqL.of e) (dpDatA g i)
theorem okDatL {xs : List α} {k : Nat} (g : xs.all Dat.b = true) (l : Dat.dep α ≤ k) : okD (k + 1) (.list (xs.map (Dat.d (α := α)))) := ok_L fun d hd => by
  obtain ⟨v, hv, rfl⟩ := List.mem_map.mp hd
  exact Dat.ok (List.all_eq_true.mp g v hv) l
theorem eqvDatA : ∀ {xs ys : List α}, xs.all Dat.b = true → ys.all Dat.b = true → PyData.eqvAll (xs.map Dat.d) (ys.map Dat.d) = decide (xs = ys)
  | [], [], _, _ => by simp [PyData.eqvAll]
  | [], _ :: _, _, _ => by simp [PyData.eqvAll]
  | _ :: _, [], _, _ => by simp [PyData.eqvAll]
  | x :: r, y :: q, h1, h2 => by
    simp only [List.all_cons, Bool.and_eq_true] at h1 h2
    simp only [List.map_cons, PyData.eqvAll, Dat.eq h1.1 h2.1, eqvDatA h1.2 h2.2]
    by_cases h : x = y <;> by_cases h2 : r = q <;> simp [h, h2]
theorem eqvDatL {xs ys : List α} (h1 : xs.all Dat.b = true) (h2 : ys.all Dat.b = true) : PyData.eqv (.list (xs.map Dat.d)) (.list (ys.map Dat.d)) = decide (xs = ys) := by
  rw [PyData.eqv]; exact eqvDatA h1 h2
end
theorem optS_scal {H : Hp} {v w : V} {a b : Option Str} (h : Imm.at_ H v a) (g : Imm.at_ H w b) : scal v w = true := by
  cases a <;> cases b <;> (cases h; cases g; rfl)
theorem optS_iff {H : Hp} {v w : V} {a b : Option Str} (h : Imm.at_ H v a) (g : Imm.at_ H w b) : v = w ↔ a = b := by
  cases a <;> cases b <;> cases h <;> cases g
  · exact ⟨fun _ => rfl, fun _ => rfl⟩
  · exact ⟨fun z => (by cases z), fun z => (by cases z)⟩
  · exact ⟨fun z => (by cases z), fun z => (by cases z)⟩
  · exact ⟨fun z => (by cases z; rfl), fun z => (by cases z; rfl)⟩
theorem optS_eqd {H : Hp} {v w : V} {a b : Option Str} (h : Imm.at_ H v a) (g : Imm.at_ H w b) : V.bl (decide (v = w)) = V.bl (decide (a = b)) := congrArg V.bl (decide_eq_decide.mpr (optS_iff h g))
theorem optS_neqd {H : Hp} {v w : V} {a b : Option Str} (h : Imm.at_ H v a) (g : Imm.at_ H w b) : V.bl (!decide (v = w)) = V.bl (decide (¬ a = b)) := by rw [decide_not, decide_eq_decide.mpr (optS_iff h g)]
theorem if_chain {P R : Prop} [Decidable P] [Decidable R] {A : Prop} {Q : VK} {H : Hp} (q : Q (.bl (decide (P ∧ R))) H) (h1 : P → Q (.bl (decide R)) H → A) : if decide P = true then A else Q (.bl false) H := by
  by_cases h : P
  · rw [if_pos (decide_eq_true h)]
    refine h1 h ?_
    rwa [show decide (P ∧ R) = decide R from decide_eq_decide.mpr ⟨fun z => z.2, fun z => ⟨h, z⟩⟩] at q
  · rw [if_neg (by rw [decide_eq_false h]; simp)]
    rwa [show decide (P ∧ R) = false from decide_eq_false fun z => h z.1] at q
theorem if_chainT {P R : Prop} [Decidable P] [Decidable R] {A : Prop} {Q : Bool → Hp → Prop} {H : Hp} (q : ∃ b, V.bl (decide (P ∧ R)) = .bl b ∧ Q b H) (h1 : P → (∃ b, V.bl (decide R) = .bl b ∧ Q b H) → A) : if decide P = true then A else ∃ b, V.bl false = .bl b ∧ Q b H :=
  if_chain (Q := fun v H => ∃ b, v = .bl b ∧ Q b H) q h1
/-! ### the name of a deed -/
def nameO (k : Nat) : Option Str := if k < 23 then some (nameS k) else none
theorem im_name {H : Hp} (k : Nat) : Imm.at_ H (nameV k) (nameO k) := by
  unfold nameV nameO
  split <;> rfl
/-! ### dicts with other keys and values -/
abbrev boolK (l : List (Int × Bool)) : List (Key × V) := l.map fun p => (Sum.inl p.1, V.bl p.2)

/-! ### loops over enumerate, over a dict's keys -/
theorem for_enumN {K : PySem.W.Frag} {a : Addr} {xs : List V} {g : TG} {tb : TS} {nx : L2.St → Hp → Prop} {rt : VK} {σ : L2.St} {H : Hp} (Pv : Nat → L2.St → Hp → Prop) (h0 : Pv 0 σ H) (hl : ∀ i σ H, i ≤ xs.length → Pv i σ H → SqL K H a xs)
    (hs : ∀ i x T σ H, xs[i]? = some x → Pv i σ H → H T = none → g (.ref T) σ (upd H T (.tup [.int (i : Nat), x])) fun σ2 H2 => tb { nx := Pv (i + 1), rt := rt, bk := nx, ct := Pv (i + 1) } σ2 H2) (hd : ∀ σ H, Pv xs.length σ H → nx σ H) :
    ∃ W : Nat → Nat → L2.St → Hp → Prop, (∃ m, W 0 m σ H) ∧ ∀ i m σ H, W i m σ H →
      ((Ite K a).stop i H ∧ nx σ H) ∨ ((Ite K a).go i H ∧ ∃ N : L2.St → Hp → Prop, (∀ σ' H', N σ' H' → ∃ m', m' < m ∧ W (i + 1) m' σ' H') ∧ ∀ x H', (Ite K a).yld i H x H' → g x σ H' fun σ2 H2 => tb { nx := N, rt := rt, bk := nx, ct := N } σ2 H2) := by
  refine ⟨fun i m σ H => m = xs.length - i ∧ i ≤ xs.length ∧ Pv i σ H, ⟨xs.length, by simp, Nat.zero_le _, h0⟩, ?_⟩
  rintro i m σ H ⟨rfl, hi, p⟩
  have q := hl i σ H hi p
  by_cases hlt : i < xs.length
  · refine .inr ⟨⟨xs, xs[i], q, by simp [hlt]⟩, Pv (i + 1), fun σ' H' p' => ⟨xs.length - (i + 1), by omega, rfl, hlt, p'⟩, fun v H' y => ?_⟩
    obtain ⟨T, x, ev, nT, eH, hx⟩ := y
    subst ev eH
    exact hs i x T σ H (hx xs q) p nT
  · have e : i = xs.length := by omega
    subst e
    exact .inl ⟨⟨xs, q, Nat.le_refl _⟩, hd σ H p⟩
theorem for_keysN {d : Addr} {o : Obj} {kvs : List (Key × V)} {g : TG} {tb : TS} {nx : L2.St → Hp → Prop} {rt : VK} {σ : L2.St} {H : Hp} (Pv : Nat → L2.St → Hp → Prop) (h0 : Pv 0 σ H) (hl : ∀ i σ H, i ≤ kvs.length → Pv i σ H → H d = some (.frz o (.dK kvs)))
    (hs : ∀ i k v σ H, kvs[i]? = some (k, v) → Pv i σ H → g (kV k) σ H fun σ2 H2 => tb { nx := Pv (i + 1), rt := rt, bk := nx, ct := Pv (i + 1) } σ2 H2) (hd : ∀ σ H, Pv kvs.length σ H → nx σ H) :
    ∃ W : Nat → Nat → L2.St → Hp → Prop, (∃ m, W 0 m σ H) ∧ ∀ i m σ H, W i m σ H →
      ((Itk d o kvs).stop i H ∧ nx σ H) ∨ ((Itk d o kvs).go i H ∧ ∃ N : L2.St → Hp → Prop, (∀ σ' H', N σ' H' → ∃ m', m' < m ∧ W (i + 1) m' σ' H') ∧ ∀ x H', (Itk d o kvs).yld i H x H' → g x σ H' fun σ2 H2 => tb { nx := N, rt := rt, bk := nx, ct := N } σ2 H2) := by
  refine ⟨fun i m σ H => m = kvs.length - i ∧ i ≤ kvs.length ∧ Pv i σ H, ⟨kvs.length, by simp, Nat.zero_le _, h0⟩, ?_⟩
  rintro i m σ H ⟨rfl, hi, p⟩
  have q := hl i σ H hi p
  by_cases hlt : i < kvs.length
  · refine .inr ⟨⟨q, hlt⟩, Pv (i + 1), fun σ' H' p' => ⟨kvs.length - (i + 1), by omega, rfl, hlt, p'⟩, fun x H' y => ?_⟩
    obtain ⟨eH, k, v, hk, ex⟩ := y
    subst eH ex
    exact hs i k v σ _ hk p
  · have e : i = kvs.length := by omega
    subst e
    exact .inl ⟨⟨q, Nat.le_refl _⟩, hd σ H p⟩
def enumL {α : Type} (xs : List α) : List (Int × α) := xs.zipIdx.map fun p => ((p.2 : Int), p.1)
theorem enumL_get {α : Type} {xs : List α} {i : Nat} {x : α} (h : xs[i]? = some x) : (enumL xs)[i]? = some ((i : Int), x) := by
  unfold enumL
  rw [List.getElem?_map, List.getElem?_zipIdx, h]; simp
theorem enumL_len {α : Type} {xs : List α} : (enumL xs).length = xs.length := by unfold enumL; simp
theorem keyI_get {l : List (Int × Int)} {i : Nat} {k : Key} {v : V} (h : (lineK l)[i]? = some (k, v)) : ∃ x, (l.map (·.1))[i]? = some x ∧ k = Sum.inl x := by
  unfold lineK at h
  rw [List.getElem?_map] at h
  cases e : l[i]? with
  | none => rw [e] at h; cases h
  | some p =>
    rw [e] at h
    have h := Option.some.inj h
    exact ⟨p.1, by rw [List.getElem?_map, e]; rfl, (congrArg Prod.fst h).symm⟩
theorem imms_tc {H : Hp} : ∀ {ls : List V} {l : List (Str × Int)}, Tups H ls (tcT l) → Imms H ls l
  | _, [], .nil => .nil
  | _, _ :: _, .cons ⟨t, e, h⟩ r => .cons ⟨t, _, _, e, h, rfl, rfl⟩ (imms_tc r)
/-! ### dicts of truths -/
def lookB (l : List (Int × Bool)) (k : Int) : Option Bool := (l.find? fun p => decide (p.1 = k)).map (·.2)
def putB (l : List (Int × Bool)) (k : Int) (v : Bool) : List (Int × Bool) := if l.any (fun p => decide (p.1 = k)) then l.map (fun p => if p.1 = k then (k, v) else p) else l ++ [(k, v)]
theorem boolK_len (l : List (Int × Bool)) : (boolK l).length = l.length := List.length_map _
theorem valV_boolK : ∀ (l : List (Int × Bool)) (k : Int), valV (boolK l) (Sum.inl k : Key) = (lookB l k).map V.bl
  | [], _ => rfl
  | p :: r, k => by
    show valV (((Sum.inl p.1 : Key), V.bl p.2) :: boolK r) _ = _
    rw [valV_c, valV_boolK r k]
    unfold lookB
    rw [List.find?_cons]
    by_cases e : p.1 = k
    · rw [if_pos e.symm, decide_eq_true e]; rfl
    · rw [if_neg (fun z => e z.symm), decide_eq_false e]
theorem dInB {o : Option Bool} : V.bl ((o.map V.bl).isSome) = V.bl (decide (o.isSome = true)) := by cases o <;> rfl
theorem dInBN {o : Option Bool} : V.bl (!(o.map V.bl).isSome) = V.bl (decide (o.isSome = false)) := by cases o <;> rfl
theorem boolK_put (l : List (Int × Bool)) (k : Int) (v : Bool) : putK (boolK l) (Sum.inl k : Key) (.bl v) = boolK (putB l k v) := by
  have e : ((boolK l).any fun kv => decide (kv.1 = (Sum.inl k : Key))) = (l.any fun p => decide (p.1 = k)) := by
    show (l.map _).any _ = _
    rw [List.any_map]
    congr 1
    funext p
    exact decide_eq_decide.mpr ⟨fun h => Sum.inl.inj h, fun h => congrArg Sum.inl h⟩
  unfold putK putB
  rw [e]
  by_cases h : (l.any fun p => decide (p.1 = k)) = true
  · rw [if_pos h, if_pos h]
    show (l.map _).map _ = (l.map _).map _
    rw [List.map_map, List.map_map]
    refine List.map_congr_left fun p _ => ?_
    show (if (Sum.inl p.1 : Key) = Sum.inl k then _ else _) = ((Sum.inl (if p.1 = k then (k, v) else p).1 : Key), V.bl (if p.1 = k then (k, v) else p).2)
    by_cases c : p.1 = k
    · rw [if_pos (congrArg Sum.inl c), if_pos c]
      show ((Sum.inl p.1 : Key), V.bl v) = (Sum.inl k, V.bl v)
      rw [c]
    · rw [if_neg (fun z => c (Sum.inl.inj z)), if_neg c]
  · rw [if_neg h, if_neg h]
    show _ = (l ++ [(k, v)]).map _
    rw [List.map_append]; rfl
theorem Sep.putDB {S0 : List Addr} {H0 H : Hp} {L : List As} (h : Sep S0 H0 H L) (i : Nat) {p : Addr} {l : List (Int × Bool)} (e : nth L i = some (aC p (.dK (boolK l)))) (k : Int) (v : Bool) : Sep S0 H0 (upd H p (.dK (putK (boolK l) (Sum.inl k : Key) (.bl v)))) (setN L i [aC p (.dK (boolK (putB l k v)))]) := by
  rw [boolK_put]; exact h.putC i e trivial _
theorem imms_keys {α : Type} {H : Hp} (l : List (Int × α)) {f : α → V} : Imms H ((l.map fun p => ((Sum.inl p.1 : Key), f p.2)).map fun kv => kV kv.1) (l.map (·.1)) := by
  induction l with
  | nil => exact .nil
  | cons p r ih => exact .cons rfl ih
theorem stop_im {H : Hp} {v : V} {o : Option (List V)} (h : Imm.at_ H v o) : StopV H v o := by
  cases o with
  | none => exact h
  | some xs => exact h
theorem in_str {x : Str} {xs : List Str} : V.bl (if false = true then !inV (.str x) (xs.map V.str) else inV (.str x) (xs.map V.str)) = V.bl (decide (x ∈ xs)) := by
  rw [if_neg (by decide)]
  congr 1
  induction xs with
  | nil => rfl
  | cons y r ih =>
    show (eqV (.str y) (.str x) || inV (.str x) (r.map V.str)) = _
    rw [ih]
    have e : eqV (.str y) (.str x) = decide (y = x) := by unfold eqV; by_cases c : y = x <;> simp [c]
    rw [e]
    by_cases c : y = x <;> by_cases d : x ∈ r <;> simp [c, d, eq_comm (a := x) (b := y)]
theorem inN_str {x : Str} {xs : List Str} : V.bl (if true = true then !inV (.str x) (xs.map V.str) else inV (.str x) (xs.map V.str)) = V.bl (decide (x ∉ xs)) := by
  have h := in_str (x := x) (xs := xs)
  rw [if_neg (by decide)] at h
  rw [if_pos rfl, V.bl.inj h, decide_not]
/-! ### pop -/
def popL {α : Type} (xs : List α) : Option (α × List α) := xs[xs.length - 1]?.map fun x => (x, xs.dropLast)
theorem Imms.dropLast {α : Type} [Imm α] {H : Hp} : ∀ {vs : List V} {xs : List α}, Imms H vs xs → Imms H vs.dropLast xs.dropLast
  | _, _, .nil => .nil
  | _, _, .cons h .nil => .nil
  | _, _, .cons h (.cons h2 r) => .cons h (Imms.dropLast (.cons h2 r))
theorem popL_eq {α : Type} [Imm α] {H : Hp} {vs : List V} {xs : List α} {z : α × List α} (hv : Imms H vs xs) (h : popL xs = some z) : ∃ u, vs[vs.length - 1]? = some u ∧ Imm.at_ H u z.1 ∧ z.2 = xs.dropLast := by
  unfold popL at h
  cases e : xs[xs.length - 1]? with
  | none => rw [e] at h; cases h
  | some x =>
    rw [e] at h
    have h := Option.some.inj h
    obtain ⟨u, h1, h2⟩ := hv.nth e
    refine ⟨u, by rw [hv.length]; exact h1, ?_, ?_⟩
    · rw [← h]; exact h2
    · rw [← h]
def popZ {α : Type} : List α → Option (α × List α)
  | [] => none
  | x :: r => some (x, r)
theorem popZ_eq {α : Type} [Imm α] {H : Hp} {vs : List V} {xs : List α} {z : α × List α} (hv : Imms H vs xs) (h : popZ xs = some z) : ∃ u ws, vs = u :: ws ∧ Imm.at_ H u z.1 ∧ Imms H ws z.2 := by
  cases hv with
  | nil => cases h
  | cons a r =>
    have h := Option.some.inj h
    rw [← h]
    exact ⟨_, _, rfl, a, r⟩
theorem seqI0 {n : Nat} : seqIndex? 0 (n + 1) = some 0 := by
  unfold seqIndex?
  simp
/-! ### what a tuple's part may be, registers by their names, values of either kind -/
theorem noneIs : V.bl (decide ((V.non : V) = .non)) = V.bl (decide True) := by simp
theorem refIs {p : Addr} : V.bl (decide ((V.ref p : V) = .non)) = V.bl (decide False) := by simp
theorem refIsN {p : Addr} : V.bl (!decide ((V.ref p : V) = .non)) = V.bl (decide True) := by simp
theorem noneIsN : V.bl (!decide ((V.non : V) = .non)) = V.bl (decide False) := by simp
def tNeverE : TE := fun _ _ _ => False
theorem pe_neverE {X : Cx} {e : Expr} : PE X e tNeverE := ⟨fun _ _ _ _ _ _ h => h.elim⟩
def BD.regO (D : BD) (n : Str) : Option Int := if n = "a" then some D.a else if n = "b" then some D.b else if n = "pc" then some D.pc else if n = "sp" then some D.sp else none
theorem BoardAt.get_reg {K : PySem.W.Frag} {H : Hp} {A : BA} {D : BD} (B : BoardAt K H A D) {n : Str} {v : Int} (h : D.regO n = some v) : DGet H A.rg (.str n) (some (.int v)) := by
  unfold BD.regO at h
  split at h
  · rename_i e; subst e; cases h; exact B.get_a
  · split at h
    · rename_i e; subst e; cases h; exact B.get_b
    · split at h
      · rename_i e; subst e; cases h; exact B.get_pc
      · split at h
        · rename_i e; subst e; cases h; exact B.get_sp
        · cases h
instance : Imm V := ⟨fun _ v x => v = x, fun _ h => h⟩
instance : Sc V := ⟨id, Iff.rfl⟩
def flB : V → PyData
  | .int i => .int i
  | .bl b => .bool b
  | .str s => .str s
  | _ => .none
def flBok : V → Bool
  | .int _ => true
  | .bl _ => true
  | .str s => PyData.strOk s
  | .non => true
  | _ => false
theorem dp_flB {K : PySem.W.Frag} {H : Hp} : ∀ {st : List V}, st.all flBok = true → DpAll K H st (st.map flB)
  | [], _ => .nil
  | v :: r, h => by
    simp only [List.all_cons, Bool.and_eq_true] at h
    obtain ⟨h1, h2⟩ := h
    refine .cons ?_ (dp_flB h2)
    cases v <;> first | exact .int _ | exact .str _ | exact .bl _ | exact .non | cases h1
theorem dp_flBL {K : PySem.W.Frag} {H : Hp} {p : Addr} {xs : List V} (g : xs.all flBok = true) (h : H p = some (.lst xs)) : Dp K H (.ref p) (.list (xs.map flB)) := .lst (SqL.of h) (dp_flB g)
theorem ok_flB {k : Nat} {xs : List V} (g : xs.all flBok = true) : okD (k + 1) (.list (xs.map flB)) := ok_L fun d hd => by
  obtain ⟨v, hv, rfl⟩ := List.mem_map.mp hd
  have := List.all_eq_true.mp g v hv
  cases v <;> first | exact ok_i | exact ok_b | exact ok_n | exact ok_s this | cases this
theorem eqv_flB {xs ys : List V} : PyData.eqv (.list (xs.map flB)) (.list (ys.map flB)) = decide (PyData.eqvAll (xs.map flB) (ys.map flB) = true) := by
  rw [PyData.eqv]; simp
theorem map_id_sc (xs : List V) : xs.map (Sc.v (α := V)) = xs := List.map_id xs
theorem dropSc {o : Option HO} {xs : List V} (h : o = some (.lst (xs.map (Sc.v (α := V))))) : o = some (.lst xs) := by rw [h, map_id_sc]
/-- a text of one sign -/
def oneS (s : Str) : Option Nat := match s.cps.toList with
  | [c] => some c
  | _ => none
theorem oneS_eq {s : Str} {c : Nat} (h : oneS s = some c) : s = ⟨#[c]⟩ := by
  unfold oneS at h
  split at h
  · rename_i c' e
    cases h
    have : s.cps = #[c] := by
      have := congrArg List.toArray e
      simpa using this
    cases s
    simp_all
  · cases h
theorem anyP {xs : List V} : xs = xs.map id := (List.map_id _).symm
/-- a def with written defaults, all of them taken -/
def OkD (P : Program) (w : World) (K : PySem.W.Frag) (mg : Str → Option Value) (base : Heap) (CX : CXT) (k : Nat) (f : Addr) (ps : List Str) (dvs : List V) (sp : Sp) : Prop :=
  ∃ fd ds, FnOk P w K mg base CX k f fd ps sp ∧ Vals dvs ds ∧ Binds K fd ps ds ∧ PySem.W.keepIn K (.ref f) = true
class NN (α : Type) [Imm α] : Prop where
  nn : ∀ (H : Hp) (x : α), ¬ Imm.at_ H .non x
instance {α β : Type} [Imm α] [Imm β] : NN (α × β) := ⟨fun _ _ ⟨_, _, _, e, _⟩ => by cases e⟩
instance {α β γ : Type} [Imm α] [Imm β] [Imm γ] : NN (T3 α β γ) := ⟨fun _ _ ⟨_, _, _, _, e, _⟩ => by cases e⟩
instance : NN Str := ⟨fun _ _ e => by cases e⟩
theorem opt_iffG {α : Type} [Imm α] [NN α] {H : Hp} {v : V} {o : Option α} (h : Imm.at_ H v o) : v = .non ↔ o = none := by
  cases o with
  | none => exact ⟨fun _ => rfl, fun _ => h⟩
  | some x => exact ⟨fun e => absurd (show Imm.at_ H .non x from e ▸ h) (NN.nn H x), fun e => by cases e⟩
theorem opt_decG {α : Type} [Imm α] [NN α] [DecidableEq α] {H : Hp} {v : V} {o : Option α} (h : Imm.at_ H v o) : V.bl (decide (v = .non)) = V.bl (decide (o = none)) := congrArg V.bl (decide_eq_decide.mpr (opt_iffG h))
theorem opt_decGN {α : Type} [Imm α] [NN α] [DecidableEq α] {H : Hp} {v : V} {o : Option α} (h : Imm.at_ H v o) : V.bl (!decide (v = .non)) = V.bl (decide (o ≠ none)) := by
  have e := opt_iffG h
  by_cases c : o = none
  · rw [decide_eq_false (show ¬ (o ≠ none) from fun z => z c), decide_eq_true (e.mpr c)]; rfl
  · rw [decide_eq_true (show o ≠ none from c), decide_eq_false (fun z => c (e.mp z))]; rfl
theorem ct_use {S0 : List Addr} {H0 H : Hp} {L : List As} {σ : L2.St} {c : TT} {b : Bool} {Q : Bool → Hp → Prop} (hs : Sep S0 H0 H L) (e : EvT S0 H0 L c σ b) (q : ∀ H', Sep S0 H0 H' L → Q b H') : c σ H Q := e H hs _ q
/-! ### list(range), sorted -/
instance (a b : Int) : Decidable (RgOk a b) := by unfold RgOk; infer_instance
theorem imms_rg {H : Hp} (a b : Int) : Imms H (rgV a b) (rangeL a (Int.toNat (b - a))) := by
  have e : rgV a b = (rangeL a (Int.toNat (b - a))).map Sc.v := by
    unfold rgV rangeL
    rw [List.map_map]
    rfl
  rw [e]; exact Imms.ofSc _
def sortI (xs : List Int) : List Int := xs.mergeSort (fun a b => decide (a ≤ b))
theorem perm_sorted : ∀ {xs ys : List Int}, xs.Perm ys → xs.Pairwise (· ≤ ·) → ys.Pairwise (· ≤ ·) → xs = ys
  | [], ys, p, _, _ => (List.nil_perm.mp p).symm
  | x :: r, [], p, _, _ => absurd (List.perm_nil.mp p) (by simp)
  | x :: r, y :: q, p, h1, h2 => by
    obtain ⟨a1, a2⟩ := List.pairwise_cons.mp h1
    obtain ⟨b1, b2⟩ := List.pairwise_cons.mp h2
    have e : x = y := by
      have m1 := p.mem_iff.mp (List.mem_cons_self (a := x) (l := r))
      have m2 := p.mem_iff.mpr (List.mem_cons_self (a := y) (l := q))
      rcases List.mem_cons.mp m1 with z | z
      · exact z
      · rcases List.mem_cons.mp m2 with z2 | z2
        · exact z2.symm
        · have := b1 x z; have := a1 y z2; omega
    subst e
    rw [perm_sorted (List.perm_cons _ |>.mp p) a2 b2]
theorem sortI_perm (xs : List Int) : (sortI xs).Perm xs := List.mergeSort_perm _ _
theorem sortI_eq {xs ns : List Int} (p : ns.Perm xs) (h : ns.Pairwise (· ≤ ·)) : sortI xs = ns := by
  refine perm_sorted ((sortI_perm xs).trans p.symm) ?_ h
  have s := List.pairwise_mergeSort (le := fun a b : Int => decide (a ≤ b)) (fun a b c h1 h2 => by simp at *; omega) (fun a b => by simp; omega) xs
  exact s.imp fun h => of_decide_eq_true h
/-! ### a truth whose first part changes what is owned -/
def tK (v : V) : TE := fun _ H Q => Q v H
theorem evB_k {S0 : List Addr} {H0 : Hp} {L : List As} {σ : L2.St} {c b : Bool} (h : some c = some b) : EvB S0 H0 L (tK (.bl c)) σ b := fun H hs Q q => by
  obtain rfl := Option.some.inj h
  exact q H hs
section
variable {ta tb tc : TE} {σ : L2.St} {H : Hp} {Q : VK}
theorem first_a (h : ta σ H fun v H1 => tAndV (tK v) tb σ H1 Q) : tAndV ta tb σ H Q := h
theorem first_o (h : ta σ H fun v H1 => tOrV (tK v) tb σ H1 Q) : tOrV ta tb σ H Q := h
theorem first_oa (h : ta σ H fun v H1 => tOrV (tAndV (tK v) tb) tc σ H1 Q) : tOrV (tAndV ta tb) tc σ H Q := h
theorem first_ao (h : ta σ H fun v H1 => tAndV (tOrV (tK v) tb) tc σ H1 Q) : tAndV (tOrV ta tb) tc σ H Q := h
end

/-! ### a board changed from outside: registers by names, a word put, a word sent -/
def BD.putReg (D : BD) (n : Str) (v : Int) : Option BD := if n = "a" then some { D with a := v } else if n = "b" then some { D with b := v } else if n = "pc" then some { D with pc := v } else if n = "sp" then some { D with sp := v } else none
theorem BoardAt.put_reg {K : PySem.W.Frag} {H : Hp} {A : BA} {D D' : BD} (B : BoardAt K H A D) {n : Str} {v : Int} (h : D.putReg n v = some D') : ∃ o, DPut H A.rg (.str n) (.int v) (upd H A.rg o) ∧ BoardAt K (upd H A.rg o) A D' ∧ Kp A.own A.own H (upd H A.rg o) := by
  unfold BD.putReg at h
  split at h
  · rename_i e; subst e; cases h
    exact ⟨_, B.put_a v, B.setRg v D.b D.pc D.sp⟩
  · split at h
    · rename_i e; subst e; cases h
      exact ⟨_, B.put_b v, B.setRg D.a v D.pc D.sp⟩
    · split at h
      · rename_i e; subst e; cases h
        exact ⟨_, B.put_pc v, B.setRg D.a D.b v D.sp⟩
      · split at h
        · rename_i e; subst e; cases h
          exact ⟨_, B.put_sp v, B.setRg D.a D.b D.pc v⟩
        · cases h
theorem im_barV {H : Hp} (o : Option Bar) : Imm.at_ H (barV o) (o.map Bar.s) := by
  cases o
  · rfl
  · rfl
theorem BoardAt.addSent {K : PySem.W.Frag} {H : Hp} {A : BA} {D : BD} (B : BoardAt K H A D) {t : Addr} {b w : Int} (ht : H t = some (.tup [.int b, .int w])) (hl : D.sent.length < 1000000) :
    BoardAt K (upd H A.sn (.lst (A.sv ++ [.ref t]))) { A with sv := A.sv ++ [.ref t] } { D with sent := D.sent ++ [(b, w)] } ∧ Kp A.own A.own H (upd H A.sn (.lst (A.sv ++ [.ref t]))) := by
  have k1 : Kp A.own A.own H (upd H A.sn (.lst (A.sv ++ [.ref t]))) := Kp.upd B.sn trivial (by simp)
  have n (i : Nat) {c : Addr} (hc : A.own[i]? = some c) (hi : i ≠ 3) : c ≠ A.sn := ndne B.nd i 3 hc rfl hi
  refine ⟨⟨by rw [upd_ne (n 0 rfl (by decide))]; exact B.ob, by rw [upd_ne (n 1 rfl (by decide))]; exact B.ln, by rw [upd_ne (n 2 rfl (by decide))]; exact B.rg, upd_same, by rw [upd_ne (n 4 rfl (by decide))]; exact B.tc,
    B.st.mono k1.tups, ?_, B.tch.mono k1.tups,
    ⟨by rw [upd_ne (n 5 rfl (by decide))]; exact B.mem.ob, by rw [upd_ne (n 6 rfl (by decide))]; exact B.mem.fl, by rw [upd_ne (n 7 rfl (by decide))]; exact B.mem.ra, by rw [upd_ne (n 8 rfl (by decide))]; exact B.mem.pl, B.mem.lf, B.mem.lr, B.mem.lp⟩,
    B.nd, by show (D.sent ++ [(b, w)]).length ≤ 1000000; rw [List.length_append]; exact hl, B.lt⟩, k1⟩
  show Tups _ (A.sv ++ [.ref t]) (sentT (D.sent ++ [(b, w)]))
  unfold sentT
  rw [List.map_append]
  exact paired_snoc ⟨t, rfl, k1.tups _ _ ht⟩ (B.sent.mono k1.tups)

/-! ### sorted(d), sorted(d.items()) of a dict with whole numbers as keys: own rules -/
section
open PySem.W PySem.Calls
variable {X : Cx}
def rSortedD : List V → Hp → VK → Prop := fun vs H Q => ∃ (a : Addr) (kvs : List (Key × V)) (ns : List Int), vs = [V.ref a] ∧ H a = some (.dK kvs) ∧ kvs.map (·.1) = ns.map Sum.inl ∧
  ∀ (ns' : List Int) (p : Addr), ns'.Perm ns → ns'.Pairwise (· ≤ ·) → H p = none → Q (.ref p) (upd H p (.lst (ns'.map V.int)))
theorem cr_sortedD (hc : X.calm = true) : CallR X (.builtin "sorted") rSortedD := by
  intro pins s σ H vs us Q I r h
  obtain ⟨a, kvs, ns, rfl, hd, hk, q⟩ := h
  obtain rfl := Vals.ref1 r
  obtain ⟨z, lo, xs, rel, dd⟩ := dk_of I.hok hd
  obtain ⟨ep, hat⟩ := dd.dictAt
  have hz : xs.length ≤ sizeLine := by rw [← rel.length]; exact z
  refine call_function_entry kind_sorted plain_sorted entry_sorted (args_sorted1 _) ?_
  unfold Builtin.«sorted»
  refine wpAny_bind (m := checkCount "sorted" 1 1 _) (wpAny_pure ?_)
  refine wpAny_bind (kdu_collect (A := X.A.in1) (PySem.W.kdl_dict (knd := mixKind X.prog X.w) (kvs := xs) (ep := ep) lo) (I.ok.hd hc) hat hz fun h' tk acc hk2 hacc => ?_)
  have ek : (kvs.map fun kv => kV kv.1) = xs.map fun p => kV p.1 := by
    have e := congrArg (List.map kV) rel.keys
    rw [List.map_map, List.map_map] at e
    exact e
  have hv : Vals (xs.map fun p => kV p.1) acc.toList := keys_at (by rw [Array.length_toList]; exact hacc.1) fun j v e => hacc.2 j v (by rw [← Array.getElem?_toList]; exact e)
  have e3 : (kvs.map fun kv => kV kv.1) = ns.map V.int := by
    have e := congrArg (List.map kV) hk
    rw [List.map_map, List.map_map] at e
    exact e
  rw [← ek, e3] at hv
  have hi := hv.ints
  have hl : acc.toList.length ≤ sizeLine := by rw [Array.length_toList, hacc.1]; exact hz
  refine wpAny_bind (wpAny_newList ?_ hl)
  have hob : (h'.push { cls := .type "list", data := .seq acc.toList.toArray }).get? h'.objs.size = some (seqObj "list" acc.toList.toArray 0) := Heap.get?_push_size _ rfl
  have ka : ∀ b o, h'.get? b = some o → b ≠ h'.objs.size ∧ (h'.push { cls := .type "list", data := .seq acc.toList.toArray }).get? b = some o := fun b o e => ⟨Nat.ne_of_lt (Heap.lt_size e), Heap.get?_push_of_some _ e⟩
  generalize h'.push { cls := .type "list", data := .seq acc.toList.toArray } = h2 at hob ka ⊢
  refine wpAny_bind (wpAny_holding (wpAny_call_entry PyProof.Rows.slot_list_sort ⟨_, hob, rfl⟩ PyProof.Rows.entry_list_sort
    (SrtO.list_sort_ord SrtO.swo_int hob hl (fun h2 => SrtO.ints_sortable hi h2) fun out o1 o2 => ⟨_, rfl, ?_⟩) (PyProof.Rows.args_list_sort _)))
  refine wpAny_pure ⟨_, rfl, ?_⟩
  obtain ⟨k1, k2, k3⟩ := SrtO.ints_out hi o1 o2
  obtain ⟨eF, heF⟩ := PyProof.Rows.sortedHeap_at (vs := acc.toList) (out := out.toArray) hob
  have s0 : s.heap.get? h'.objs.size = none := by
    cases e : s.heap.get? h'.objs.size with
    | none => rfl
    | some o => exact absurd (Heap.lt_size (hk2 _ _ e)) (Nat.lt_irrefl _)
  have hn0 : H h'.objs.size = none := I.hok.gone s0
  have hlen : ((out.map SrtO.iv).map V.int).length ≤ sizeLine := by
    rw [List.length_map, k2.length_eq]
    have := hv.length
    rw [List.length_map] at this
    omega
  exact ⟨.ref _, upd H h'.objs.size (.lst ((out.map SrtO.iv).map V.int)), I.laidN (t' := tk) (fun b o e => by
    obtain ⟨n1, n2⟩ := ka b o (hk2 b o e)
    exact (PyProof.Rows.sortedHeap_old n1 (Heap.lt_size n2)).trans n2) s0 hn0 ⟨hlen, out, eF, vals_of_ints k1, heF⟩, rfl, q _ _ k2 k3 hn0⟩
open L2.DX
def rItemsD : V → List V → Hp → VK → Prop := fun x xs H Q => ∃ (a : Addr) (kvs : List (Key × V)), x = .ref a ∧ xs = [] ∧ H a = some (.dK kvs) ∧ ∀ p, H p = none → Q (.ref p) (upd H p (itemsO p a))
theorem mt_itemsD : MtR X "dict.items" rItemsD := by
  intro pins s σ H x xs v us Q I rx rxs h
  obtain ⟨a, kvs, rfl, rfl, ha, q⟩ := h
  cases rx
  cases rxs
  obtain ⟨z, lo, vs, rel, dd⟩ := dk_of I.hok ha
  obtain ⟨ep, hat⟩ := dd.dictAt
  obtain ⟨o, es, ho, hx, hdat, _⟩ := hat
  refine DT.callItems (es := es) (ep := ep) lo ⟨o, ho, hx, hdat⟩ ?_
  have hf : H s.heap.objs.size = none := I.hok.fresh (Nat.le_refl _)
  exact ⟨.ref s.heap.objs.size, upd H s.heap.objs.size (itemsO s.heap.objs.size a), I.laid (t' := s.toks) (fun b u e => Heap.get?_push_of_some _ e) (Nat.le_refl _) (itemsO_ok (Heap.get?_push_size _ rfl)), rfl, q _ hf⟩
def rSortedIt : List V → Hp → VK → Prop := fun vs H Q => ∃ (p a : Addr) (l : List (Int × Int)), vs = [V.ref p] ∧ H p = some (itemsO p a) ∧ H a = some (.dK (l.map fun q => ((Sum.inl q.1 : Key), V.int q.2))) ∧
  ∀ (H' : Hp) (r : Addr) (ts : List Addr) (l' : List (Int × Int)), (∀ b o, H b = some o → H' b = some o) → H r = none → r ∉ ts → H' r = some (.lst (ts.map V.ref)) → Paired (fun (t : Addr) (q : Int × Int) => H' t = some (.tup [.int q.1, .int q.2])) ts l' →
    l'.Perm l → l'.Pairwise (fun x y => SrtO.lexB y x = false) → Q (.ref r) H'
def backA : Value → Addr
  | .ref b => b
  | _ => 0
theorem pair_of {α β : Type} {F : α → β → Prop} : ∀ (xs : List α) (f : α → β), (∀ x ∈ xs, F x (f x)) → Paired F xs (xs.map f)
  | [], _, _ => .nil
  | x :: r, f, h => .cons (h x List.mem_cons_self) (pair_of r f fun y hy => h y (List.mem_cons_of_mem _ hy))
theorem isPair_one {h : Heap} {v : Value} {i j i' j' : Int} (a : Srt.IsPair h v i j) (b : Srt.IsPair h v i' j') : i = i' ∧ j = j' := by
  obtain ⟨t, o, t1, t2, n, e, ho, hc, hd⟩ := a
  obtain ⟨t', o', t1', t2', n', e', ho', hc', hd'⟩ := b
  rw [e] at e'
  cases e'
  rw [ho] at ho'
  cases ho'
  rw [hd] at hd'
  cases hd'
  exact ⟨rfl, rfl⟩
theorem cr_sortedIt (hc : X.calm = true) : CallR X (.builtin "sorted") rSortedIt := by
  intro pins s σ H vs us Q I r h
  obtain ⟨p, a, l, rfl, hp, ha, q⟩ := h
  obtain rfl := Vals.ref1 r
  have view : s.heap.IsItemsView p a := (show ObjOk X.prog X.w H s.heap p (itemsO p a) from I.hok p _ hp).1
  obtain ⟨z, lo, xs, rel, dd⟩ := dk_of I.hok ha
  obtain ⟨ep, hat⟩ := dd.dictAt
  have hlx : l.length = xs.length := by have := rel.length; rwa [List.length_map] at this
  have hz : xs.length ≤ sizeLine := by rw [← hlx]; rwa [List.length_map] at z
  refine call_function_entry kind_sorted plain_sorted entry_sorted (args_sorted1 _) ?_
  unfold Builtin.«sorted»
  refine wpAny_bind (m := checkCount "sorted" 1 1 _) (wpAny_pure ?_)
  refine wpAny_bind (kdx_collect (A := X.A.in1) (knd := mixKind X.prog X.w) (kvs := xs) (ep := ep) (I.ok.hd hc) view hat hz fun h' tk as hk hl hG => ?_)
  refine wpAny_bind (wpAny_newList ?_ (by rw [List.length_map, hl]; exact hz))
  have hob : (h'.push { cls := .type "list", data := .seq (as.map Value.ref).toArray }).get? h'.objs.size = some (seqObj "list" (as.map Value.ref).toArray 0) := Heap.get?_push_size _ rfl
  have ka : ∀ b o, h'.get? b = some o → b ≠ h'.objs.size ∧ (h'.push { cls := .type "list", data := .seq (as.map Value.ref).toArray }).get? b = some o := fun b o e => ⟨Nat.ne_of_lt (Heap.lt_size e), Heap.get?_push_of_some _ e⟩
  generalize h'.push { cls := .type "list", data := .seq (as.map Value.ref).toArray } = h2 at hob ka ⊢
  have nd : as.Nodup := List.Pairwise.imp (fun {a b} (h : a < b) => Nat.ne_of_lt h) hG.rise
  -- the pairs that were made
  have pr : ∀ (j : Nat) (b : Addr), as[j]? = some b → ∃ (e : Int × Int) (t t' : Tok), l[j]? = some e ∧ h'.get? b = some { cls := .type "tuple", data := .seq #[Value.int e.1 t, Value.int e.2 t'] } := by
    intro j b hj
    obtain ⟨key, k, x, f1, f2, f3⟩ := hG.pairs j b hj
    have hjl : j < l.length := by
      have := (List.getElem?_eq_some_iff.mp f1).1
      omega
    have g0 : (l.map fun q => ((Sum.inl q.1 : Key), V.int q.2))[j]? = some (Sum.inl l[j].1, V.int l[j].2) := by rw [List.getElem?_map, List.getElem?_eq_getElem hjl]; rfl
    obtain ⟨qv, g1, g2, g3⟩ := LiI.paired_get rel g0
    rw [f1] at g1
    cases g1
    have g2 : (Sum.inl l[j].1 : Key) = k := g2
    subst g2
    obtain ⟨t, rfl⟩ : ∃ t, key = Value.int l[j].1 t := relV_key (show keyIs (Sum.inl l[j].1 : Key) key = true from f2)
    obtain ⟨t', rfl⟩ : ∃ t', x = Value.int l[j].2 t' := g3
    exact ⟨l[j], t, t', List.getElem?_eq_getElem hjl, f3⟩
  let κ : Value → Int × Int := fun v => open Classical in if hx : ∃ x : Int × Int, Srt.IsPair h2 v x.1 x.2 then Classical.choose hx else (0, 0)
  have ip : ∀ (j : Nat) (b : Addr) (e : Int × Int), as[j]? = some b → l[j]? = some e → Srt.IsPair h2 (.ref b) e.1 e.2 := fun j b e hj he => by
    obtain ⟨e', t, t', he', hg⟩ := pr j b hj
    obtain rfl : e' = e := Option.some.inj (he'.symm.trans he)
    exact ⟨b, _, t, t', 0, rfl, (ka _ _ hg).2, rfl, rfl⟩
  have kap : ∀ (v : Value) (e : Int × Int), Srt.IsPair h2 v e.1 e.2 → κ v = e := fun v e he => by
    have hx : ∃ x : Int × Int, Srt.IsPair h2 v x.1 x.2 := ⟨e, he⟩
    have e1 : κ v = Classical.choose hx := dif_pos hx
    obtain ⟨u1, u2⟩ := isPair_one (Classical.choose_spec hx) he
    rw [e1]
    exact Prod.ext u1 u2
  have hpair : ∀ v ∈ as.map Value.ref, Srt.IsPair h2 v (κ v).1 (κ v).2 := fun v hv => by
    obtain ⟨b, hb, rfl⟩ := List.mem_map.mp hv
    obtain ⟨j, hj⟩ := List.mem_iff_getElem?.mp hb
    obtain ⟨e, _, _, he, _⟩ := pr j b hj
    have := ip j b e hj he
    rw [kap _ _ this]; exact this
  have hmap : (as.map Value.ref).map κ = l := by
    refine List.ext_getElem? fun j => ?_
    rw [List.getElem?_map, List.getElem?_map]
    cases hj : as[j]? with
    | none =>
      have h1 := List.getElem?_eq_none_iff.mp hj
      exact (List.getElem?_eq_none_iff.mpr (by omega)).symm
    | some b =>
      obtain ⟨e, _, _, he, _⟩ := pr j b hj
      rw [he]
      exact congrArg some (kap _ _ (ip j b e hj he))
  refine wpAny_bind (wpAny_holding (wpAny_call_entry PyProof.Rows.slot_list_sort ⟨_, hob, rfl⟩ PyProof.Rows.entry_list_sort
    (SrtO.list_sort_ord (SrtO.swo_lex κ) hob (by rw [List.length_map, hl]; exact hz) (fun h2' => SrtO.pairs_sortableO (by omega) hpair fun o e => ?_) fun out o1 o2 => ⟨_, rfl, ?_⟩) (PyProof.Rows.args_list_sort _)))
  · have e' : some o = some (seqObj "list" (as.map Value.ref).toArray 0) := e.symm.trans hob
    cases e'
    intro c
    exact absurd (Value.type.inj c) (by decide)
  refine wpAny_pure ⟨_, rfl, ?_⟩
  obtain ⟨eF, heF⟩ := PyProof.Rows.sortedHeap_at (vs := as.map Value.ref) (out := out.toArray) hob
  have kF : ∀ b o, h'.get? b = some o → (sortedHeap h2 h'.objs.size (as.map Value.ref) out.toArray).get? b = some o := fun b o e => by
    obtain ⟨n1, n2⟩ := ka b o e
    exact (PyProof.Rows.sortedHeap_old n1 (Heap.lt_size n2)).trans n2
  have kS : ∀ b o, s.heap.get? b = some o → (sortedHeap h2 h'.objs.size (as.map Value.ref) out.toArray).get? b = some o := fun b o e => kF b o (hk b o e)
  have s0 : s.heap.get? h'.objs.size = none := by
    cases e : s.heap.get? h'.objs.size with
    | none => rfl
    | some o => exact absurd (Heap.lt_size (hk _ _ e)) (Nat.lt_irrefl _)
  have hn0 : H h'.objs.size = none := I.hok.gone s0
  have perm := o2.perm
  have hout : out = (out.map backA).map Value.ref := by
    rw [List.map_map]
    refine (List.map_id out).symm.trans (List.map_congr_left fun v hv => ?_)
    obtain ⟨b, _, rfl⟩ := List.mem_map.mp (perm.mem_iff.mp hv)
    rfl
  generalize hts : out.map backA = ts at hout
  have tsp : ts.Perm as := by
    have := perm.map backA
    rw [hts, List.map_map] at this
    have e : as.map (backA ∘ Value.ref) = as := List.map_id'' (fun _ => rfl) as
    rwa [e] at this
  have tlen : (ts.map V.ref).length ≤ sizeLine := by rw [List.length_map, tsp.length_eq, hl]; exact hz
  have I2 : Inv X pins σ (upd H h'.objs.size (.lst (ts.map V.ref))) { s with heap := sortedHeap h2 h'.objs.size (as.map Value.ref) out.toArray, toks := tk } :=
    I.laidN (t' := tk) kS s0 hn0 ⟨tlen, out, eF, by rw [hout]; exact LiI.vals_refs ts, heF⟩
  have asne : ∀ b ∈ as, b ≠ h'.objs.size := fun b hb => Nat.ne_of_lt (hG.there hb)
  obtain ⟨H2, I3, g, qt⟩ := takeT (P := fun b vs => vs = [.int (κ (.ref b)).1, .int (κ (.ref b)).2]) I as _ I2 nd fun b hb => by
    obtain ⟨j, hj⟩ := List.mem_iff_getElem?.mp hb
    obtain ⟨e, t, t', he, hg⟩ := pr j b hj
    have hbl : s.heap.objs.size ≤ b := Nat.le_of_lt (hG.above b hb)
    have ek := kap _ _ (ip j b e hj he)
    refine ⟨hbl, by rw [upd_ne (asne b hb)]; exact I.hok.fresh hbl, [.int e.1, .int e.2], by rw [ek], fun H3 => ⟨(by show 2 ≤ sizeLine; decide), [Value.int e.1 t, Value.int e.2 t'], .cons ⟨t, rfl⟩ (.cons ⟨t', rfl⟩ .nil), ⟨_, kF _ _ hg, rfl, 0, rfl⟩⟩⟩
  have gr : ∀ b o, H b = some o → H2 b = some o := fun b o e => g b o (by rw [upd_ne (ne_of_none e hn0)]; exact e)
  refine ⟨.ref h'.objs.size, H2, I3, rfl, q H2 h'.objs.size ts (ts.map fun b => κ (.ref b)) gr hn0 (fun hm => asne _ (tsp.mem_iff.mp hm) rfl) (g _ _ upd_same) (pair_of ts _ fun b hb => ?_) ?_ ?_⟩
  · obtain ⟨vs, ev, hH⟩ := qt b (tsp.mem_iff.mp hb)
    rw [ev] at hH
    exact hH
  · have e := tsp.map fun b => κ (.ref b)
    have e2 : as.map (fun b => κ (.ref b)) = l := by rw [← hmap, List.map_map]; rfl
    rwa [e2] at e
  · have e : out.map κ = ts.map fun b => κ (.ref b) := by rw [hout, List.map_map]; rfl
    rw [← e]
    exact List.pairwise_map.mpr o1
end

/-! ### sorted(l) of pairs whose firsts are whole numbers, each once: own rule -/
section
open PySem.W PySem.Calls SrtO Srt PyProof.Rows
def IsFst (h : Heap) (v : Value) (x : Int) : Prop := ∃ a o t w n, v = .ref a ∧ h.get? a = some o ∧ o.cls = .type "tuple" ∧ o.data = .seq #[.int x t, w] n
theorem IsFst.keeps {h h' : Heap} {v : Value} {x : Int} (p : IsFst h v x) (k : ∀ b o, h.get? b = some o → o.cls = .type "tuple" → h'.get? b = some o) : IsFst h' v x := by
  obtain ⟨a, o, t, w, n, e, ho, hc, hd⟩ := p
  exact ⟨a, o, t, w, n, e, k _ _ ho hc, hc, hd⟩
theorem swo_fst {α : Type} (k : α → Int) : Swo fun x y => decide (k x < k y) := by
  refine ⟨fun x y h => ?_, fun x y z h1 h2 => ?_⟩
  · exact decide_eq_false (by have := of_decide_eq_true h; omega)
  · exact decide_eq_false (by have := of_decide_eq_false h1; have := of_decide_eq_false h2; omega)
theorem fst_cmp {prog : Program} {w : World} {A : Around} {s : Shared} {vs : List Value} {k : Value → Int} (hp : ∀ v ∈ vs, IsFst s.heap v (k v)) (hi : ∀ v ∈ vs, ∀ u ∈ vs, k v = k u → v = u) :
    Cmp prog w A s (tuples' true) (fun p => p.1 ∈ vs) (lt2 fun v u => decide (k v < k u)) := by
  intro p q hm hm'
  have h1 := hp _ hm
  have h2 := hp _ hm'
  have hi := hi _ hm _ hm'
  show wpAny (model prog w) A (keyLt' (tuples' true) p.1 q.1) (fun r s' => s' = s ∧ r = decide (k p.1 < k q.1)) (fun _ _ => False) s
  by_cases e1 : k p.1 = k q.1
  · have e3 : decide (k p.1 < k q.1) = false := decide_eq_false (by omega)
    rw [e3, ← hi e1]
    obtain ⟨a, o, t, u, n, e, ho, hc, hd⟩ := h1
    rw [e]
    refine PySem.W.kat_lt ho hd ho hd ?_
    show PySem.W.KatLex prog w A true (decide (2 < 2)) _ [(.int _ t, .int _ t), (u, u)] 0 s
    exact PySem.W.kat_cons (SeqAt.EqAt.same _ prog w _ _ (PySem.W.kat_go (fun _ => PySem.W.kat_yes (PySem.W.kat_cons (SeqAt.EqAt.same _ prog w _ _ (PySem.W.kat_go (fun _ => PySem.W.kat_yes (PySem.W.kat_nil ⟨rfl, rfl⟩)) (fun z => absurd z (by decide)))))) (fun z => absurd z (by decide))))
  · generalize k p.1 = x at *
    generalize k q.1 = x' at *
    obtain ⟨a, o, t, u, n, e, ho, hc, hd⟩ := h1
    obtain ⟨a', o', t', u', n', e', ho', hc', hd'⟩ := h2
    rw [e, e']
    refine PySem.W.kat_lt ho hd ho' hd' ?_
    show PySem.W.KatLex prog w A true (decide (2 < 2)) _ [(.int x t, .int x' t'), (u, u')] 0 s
    refine PySem.W.kat_cons (SeqAt.EqAt.int_int x t x' t' prog w _ _ ?_)
    refine PySem.W.kat_go (fun e2 => absurd (show x = x' by simpa using e2) e1) (fun e2 => ?_)
    exact PySem.W.kat_no (oneLt_int ⟨rfl, rfl⟩)
theorem firsts_of1 {h : Heap} : ∀ {vs : List Value}, (∀ v ∈ vs, ∃ x, IsFst h v x) → ∃ fs : List Value, PySem.W.KatTups h vs fs ∧ fs.length = vs.length ∧ ∀ f ∈ fs, ∃ x t, f = Value.int x t
  | [], _ => ⟨[], PySem.W.KatTups.nil, rfl, fun _ hm => by simp at hm⟩
  | v :: vs, hp => by
    obtain ⟨fs, h1, h2, h3⟩ := firsts_of1 (vs := vs) fun v' hm => hp v' (List.mem_cons_of_mem _ hm)
    obtain ⟨x, a, o, t, u, n, e, ho, hc, hd⟩ := hp v (List.mem_cons_self ..)
    subst e
    refine ⟨.int x t :: fs, PySem.W.KatTups.cons ho hc hd rfl h1, by rw [List.length_cons, List.length_cons, h2], fun f hm => ?_⟩
    rcases List.mem_cons.mp hm with rfl | hm
    · exact ⟨x, t, rfl⟩
    · exact h3 f hm
theorem fst_sortable {prog : Program} {w : World} {A : Around} {s : Shared} {a : Addr} {vs : List Value} {k : Value → Int} (h0 : 0 < vs.length) (hp : ∀ v ∈ vs, IsFst s.heap v (k v)) (hi : ∀ v ∈ vs, ∀ u ∈ vs, k v = k u → v = u)
    (ha : ∀ o, s.heap.get? a = some o → o.cls ≠ .type "tuple") : SortableO prog w A s a vs fun v u => decide (k v < k u) := by
  intro h' keep
  have hp' : ∀ v ∈ vs, IsFst h' v (k v) := fun v hm => (hp v hm).keeps fun b o e c => keep b o (fun z => by subst z; exact ha o e c) e
  obtain ⟨fs, h1, h2, h3⟩ := firsts_of1 fun v hm => ⟨_, hp' v hm⟩
  refine ⟨tuples' true, fun Q E hq => ?_, fst_cmp hp' hi⟩
  refine PySem.W.kat_kind (T := .type "int") h1 (by omega) (fun f hm => ?_) (by rfl) ?_
  · obtain ⟨x, t, rfl⟩ := h3 f hm
    exact PySem.W.Looks.now
  · have e : (Value.type "int" != Value.type "tuple") = true := by first | decide +kernel | rfl | decide
    rw [e]
    exact hq
variable {X : Cx}
def rSortedM (K : PySem.W.Frag) : List V → Hp → VK → Prop := fun vs H Q => ∃ (a : Addr) (xs : List V) (k : V → Int), vs = [V.ref a] ∧ SqL K H a xs ∧ (∀ x ∈ xs, ∃ t v, x = .ref t ∧ H t = some (.tup [.int (k x), v])) ∧ (∀ x ∈ xs, ∀ y ∈ xs, k x = k y → x = y) ∧
  ∀ (zs : List V) (p : Addr), zs.Perm xs → zs.Pairwise (fun x y => k x ≤ k y) → H p = none → Q (.ref p) (upd H p (.lst zs))
theorem cr_sortedM : CallR X (.builtin "sorted") (rSortedM X.K) := by
  intro pins s σ H vs us Q I r h
  obtain ⟨a, ys, k, rfl, hs, hx, hi, q⟩ := h
  obtain ⟨its, rv, hl, hz⟩ := I.list hs
  rw [Vals.ref1 r]
  obtain ⟨e1, e2⟩ := refs_back rv fun x m => by
    obtain ⟨t, v, e, _⟩ := hx x m
    exact ⟨t, e⟩
  have hz' : its.length ≤ sizeLine := by rw [← rv.length]; exact hz
  have hp : ∀ v ∈ its, IsFst s.heap v (k (backV v)) := fun v hv => by
    obtain ⟨t, rfl⟩ := e2 v hv
    have hm : V.ref t ∈ ys := by rw [e1]; exact List.mem_map.mpr ⟨_, hv, rfl⟩
    obtain ⟨t', v, e, ht⟩ := hx _ hm
    cases e
    obtain ⟨_, its2, r2, o, ho, hc, n, hd⟩ := I.hok _ _ ht
    obtain ⟨u1, u2, rfl, ri, rj⟩ := vals2 r2
    obtain ⟨t1, rfl⟩ := ri
    exact ⟨t, o, t1, u2, n, rfl, ho, hc, hd⟩
  have hj : ∀ v ∈ its, ∀ u ∈ its, k (backV v) = k (backV u) → v = u := fun v hv u hu e => by
    obtain ⟨t, rfl⟩ := e2 v hv
    obtain ⟨t', rfl⟩ := e2 u hu
    have := hi (V.ref t) (by rw [e1]; exact List.mem_map.mpr ⟨_, hv, rfl⟩) (V.ref t') (by rw [e1]; exact List.mem_map.mpr ⟨_, hu, rfl⟩) e
    cases this
    rfl
  refine SrtO.sorted_ord (swo_fst fun u => k (backV u)) hl.isList hz' (fun h2 h₁ a' ha kk => ?_) fun out h1 h2 => ?_
  · refine fst_sortable (s := { s with heap := h₁ }) (by omega) (fun v hm => (hp v hm).keeps fun b o e _ => (kk b o e).2) hj fun o e => ?_
    have e' : some o = some (seqObj "list" its.toArray 0) := e.symm.trans ha
    cases e'
    intro c
    exact absurd (Value.type.inj c) (by decide)
  · have h3 : ∀ u ∈ out, ∃ a, u = Value.ref a := fun u hu => e2 u (h2.perm.mem_iff.mp hu)
    obtain ⟨ep, he'⟩ := PyProof.Rows.sortedAll_at s.heap its out.toArray
    have hpm : (out.map backV).Perm ys := by rw [e1]; exact h2.perm.map backV
    have hlen : (out.map backV).length ≤ sizeLine := by
      rw [hpm.length_eq]; exact hz
    exact ⟨.ref _, upd H (s.heap.objs.size + 1) (.lst (out.map backV)), I.laid (t' := s.toks) (fun _ _ => PyProof.Rows.sortedAll_old) (Nat.le_succ _) ⟨hlen, out, ep, vals_back h3, he'⟩, rfl,
      q _ _ hpm (List.pairwise_map.mpr (h1.imp fun {x y} h => Int.not_lt.mp (of_decide_eq_false h))) (I.hok.fresh (Nat.le_succ _))⟩
end
/-! in plain words -/
def sortF {β : Type} (l : List (Int × β)) : List (Int × β) := l.mergeSort fun x y => decide (x.1 ≤ y.1)
theorem perm_sortedF {β : Type} : ∀ {xs ys : List (Int × β)}, xs.Perm ys → (xs.map Prod.fst).Nodup → xs.Pairwise (fun x y => x.1 ≤ y.1) → ys.Pairwise (fun x y => x.1 ≤ y.1) → xs = ys
  | [], ys, p, _, _, _ => (List.nil_perm.mp p).symm
  | x :: r, [], p, _, _, _ => absurd (List.perm_nil.mp p) (by simp)
  | x :: r, y :: q, p, n, h1, h2 => by
    obtain ⟨a1, a2⟩ := List.pairwise_cons.mp h1
    obtain ⟨b1, b2⟩ := List.pairwise_cons.mp h2
    obtain ⟨n1, n2⟩ := List.nodup_cons.mp (show (x.1 :: r.map Prod.fst).Nodup from n)
    have e : x = y := by
      have m1 := p.mem_iff.mp (List.mem_cons_self (a := x) (l := r))
      have m2 := p.mem_iff.mpr (List.mem_cons_self (a := y) (l := q))
      rcases List.mem_cons.mp m1 with z | z
      · exact z
      · rcases List.mem_cons.mp m2 with z2 | z2
        · exact z2.symm
        · have u1 := b1 x z
          have u2 := a1 y z2
          exact absurd (List.mem_map.mpr ⟨y, z2, (show y.1 = x.1 by omega)⟩) n1
    subst e
    rw [perm_sortedF (List.perm_cons _ |>.mp p) n2 a2 b2]
theorem sortF_perm {β : Type} (l : List (Int × β)) : (sortF l).Perm l := List.mergeSort_perm _ _
theorem sortF_rise {β : Type} (l : List (Int × β)) : (sortF l).Pairwise (fun x y => x.1 ≤ y.1) := by
  have s := List.pairwise_mergeSort (le := fun x y : Int × β => decide (x.1 ≤ y.1)) (fun a b c h1 h2 => by
    have := of_decide_eq_true h1; have := of_decide_eq_true h2; exact decide_eq_true (by omega)) (fun a b => by
    by_cases c : a.1 ≤ b.1
    · simp [c]
    · have : b.1 ≤ a.1 := by omega
      simp [this]) l
  exact s.imp fun h => of_decide_eq_true h
/-- what stands for a list of pairs, put in order -/
theorem imms_perm {α : Type} [Imm α] {H : Hp} {vs ws : List V} {xs : List α} (p : ws.Perm vs) : Imms H vs xs → ∃ ys, ys.Perm xs ∧ Imms H ws ys := by
  intro h
  induction p generalizing xs with
  | nil => exact ⟨xs, .refl _, h⟩
  | cons x _ ih =>
    cases h with
    | cons a r =>
      obtain ⟨ys, q, i⟩ := ih r
      exact ⟨_, q.cons _, .cons a i⟩
  | swap x y l =>
    cases h with
    | cons a r =>
      cases r with
      | cons b r => exact ⟨_, .swap _ _ _, .cons b (.cons a r)⟩
  | trans _ _ ih1 ih2 =>
    obtain ⟨ys, q, i⟩ := ih2 h
    obtain ⟨zs, q2, i2⟩ := ih1 i
    exact ⟨zs, q2.trans q, i2⟩
theorem Paired.at {α β : Type} {F : α → β → Prop} : ∀ {xs : List α} {ys : List β}, Paired F xs ys → ∀ x ∈ xs, ∃ y ∈ ys, F x y
  | _, _, .cons h r, x, hx => by
    rcases List.mem_cons.mp hx with rfl | hx
    · exact ⟨_, List.mem_cons_self, h⟩
    · obtain ⟨y, m, e⟩ := Paired.at r x hx
      exact ⟨y, List.mem_cons_of_mem _ m, e⟩
def fstV (H : Hp) : V → Int
  | .ref t => match H t with
    | some (.tup (.int i :: _)) => i
    | _ => 0
  | _ => 0
theorem fstV_of {β : Type} [Imm β] {H : Hp} {v : V} {x : Int × β} (h : Imm.at_ H v x) : fstV H v = x.1 := by
  obtain ⟨t, u1, u2, rfl, ht, h1, _⟩ := h
  have h1 : u1 = .int x.1 := h1
  subst h1
  show (match H t with | some (.tup (.int i :: _)) => i | _ => 0) = x.1
  rw [ht]
theorem imms_fst {β : Type} [Imm β] {H : Hp} : ∀ {vs : List V} {l : List (Int × β)}, Imms H vs l → vs.map (fstV H) = l.map Prod.fst
  | _, _, .nil => rfl
  | _, _, .cons h r => by rw [List.map_cons, List.map_cons, imms_fst r, fstV_of h]
theorem nd_inj {α : Type} {f : α → Int} : ∀ {l : List α}, (l.map f).Nodup → ∀ x ∈ l, ∀ y ∈ l, f x = f y → x = y
  | z :: r, n, x, hx, y, hy, e => by
    obtain ⟨n1, n2⟩ := List.nodup_cons.mp (show (f z :: r.map f).Nodup from n)
    rcases List.mem_cons.mp hx with h1 | h1
    · rcases List.mem_cons.mp hy with h2 | h2
      · rw [h1, h2]
      · rw [h1] at e; exact absurd (List.mem_map.mpr ⟨y, h2, e.symm⟩) n1
    · rcases List.mem_cons.mp hy with h2 | h2
      · rw [h2] at e; exact absurd (List.mem_map.mpr ⟨x, h1, e⟩) n1
      · exact nd_inj n2 x h1 y h2 e
theorem srtM1 {β : Type} [Imm β] {H : Hp} {vs : List V} {l : List (Int × β)} (hv : Imms H vs l) : ∀ x ∈ vs, ∃ t v, x = .ref t ∧ H t = some (.tup [.int (fstV H x), v]) := fun x hx => by
  obtain ⟨y, _, h⟩ := Paired.at hv x hx
  have e := fstV_of h
  obtain ⟨t, u1, u2, rfl, ht, h1, _⟩ := h
  have h1 : u1 = .int y.1 := h1
  subst h1
  exact ⟨t, u2, rfl, by rw [e]; exact ht⟩
theorem srtM2 {β : Type} [Imm β] {H : Hp} {vs : List V} {l : List (Int × β)} (hv : Imms H vs l) (nd : (l.map Prod.fst).Nodup) : ∀ x ∈ vs, ∀ y ∈ vs, fstV H x = fstV H y → x = y := nd_inj (by rw [imms_fst hv]; exact nd)
theorem srtM3 {β : Type} [Imm β] {H : Hp} {vs zs : List V} {l : List (Int × β)} (hv : Imms H vs l) (nd : (l.map Prod.fst).Nodup) (pm : zs.Perm vs) (pw : zs.Pairwise fun x y => fstV H x ≤ fstV H y) : Imms H zs (sortF l) := by
  obtain ⟨ys, py, iy⟩ := imms_perm pm hv
  have ez := imms_fst iy
  have r : ys.Pairwise (fun x y => x.1 ≤ y.1) := by
    have := List.pairwise_map.mpr pw
    rw [ez] at this
    exact List.pairwise_map.mp this
  have : sortF l = ys := perm_sortedF ((sortF_perm l).trans py.symm) ((sortF_perm l).map Prod.fst |>.nodup_iff.mpr nd) (sortF_rise l) r
  rw [this]; exact iy

/-! ### walks over two or three things, one by one -/
theorem lc_range2 {n : Nat} {g : TG} {tt : TT} {te : TE} {vs : List Nat} {σ : L2.St} {H1 : Hp} {D : Addr} {Qd : Hp → Prop} (hn : n = 2)
    (h : g (.int 0) (wipe σ vs) (upd H1 D (.lst [])) fun σ2 H2 => wipe σ2 vs = wipe σ vs ∧ tt σ2 H2 fun b H3 =>
      if b = true then te σ2 H3 fun y H4 => ∃ acc, H4 D = some (.lst acc) ∧ acc.length < sizeLine ∧
        (g (.int 1) (wipe σ vs) (upd H4 D (.lst (acc ++ [y]))) fun σ2 H2 => wipe σ2 vs = wipe σ vs ∧ tt σ2 H2 fun b H3 =>
          if b = true then te σ2 H3 fun y H4 => ∃ acc, H4 D = some (.lst acc) ∧ acc.length < sizeLine ∧ Qd (upd H4 D (.lst (acc ++ [y]))) else Qd H3)
      else (g (.int 1) (wipe σ vs) H3 fun σ2 H2 => wipe σ2 vs = wipe σ vs ∧ tt σ2 H2 fun b H3 =>
          if b = true then te σ2 H3 fun y H4 => ∃ acc, H4 D = some (.lst acc) ∧ acc.length < sizeLine ∧ Qd (upd H4 D (.lst (acc ++ [y]))) else Qd H3)) :
    ∃ W : Nat → Nat → Hp → Prop, (∃ m, W 0 m (upd H1 D (.lst []))) ∧ ∀ i m H, W i m H →
      ((Itr 0 n).stop i H ∧ Qd H) ∨ ((Itr 0 n).go i H ∧ ∃ Nx : Hp → Prop, (∀ H', Nx H' → ∃ m', m' < m ∧ W (i + 1) m' H') ∧ ∀ x H', (Itr 0 n).yld i H x H' → g x (wipe σ vs) H' fun σ2 H2 => wipe σ2 vs = wipe σ vs ∧ tt σ2 H2 fun b H3 =>
        if b = true then te σ2 H3 fun y H4 => ∃ acc, H4 D = some (.lst acc) ∧ acc.length < sizeLine ∧ Nx (upd H4 D (.lst (acc ++ [y]))) else Nx H3) := by
  subst hn
  refine lc_range (lo := 0) (n := 2) (fun i H => match i with
    | 0 => g (.int 0) (wipe σ vs) H fun σ2 H2 => wipe σ2 vs = wipe σ vs ∧ tt σ2 H2 fun b H3 =>
      if b = true then te σ2 H3 fun y H4 => ∃ acc, H4 D = some (.lst acc) ∧ acc.length < sizeLine ∧
        (g (.int 1) (wipe σ vs) (upd H4 D (.lst (acc ++ [y]))) fun σ2 H2 => wipe σ2 vs = wipe σ vs ∧ tt σ2 H2 fun b H3 =>
          if b = true then te σ2 H3 fun y H4 => ∃ acc, H4 D = some (.lst acc) ∧ acc.length < sizeLine ∧ Qd (upd H4 D (.lst (acc ++ [y]))) else Qd H3)
      else (g (.int 1) (wipe σ vs) H3 fun σ2 H2 => wipe σ2 vs = wipe σ vs ∧ tt σ2 H2 fun b H3 =>
          if b = true then te σ2 H3 fun y H4 => ∃ acc, H4 D = some (.lst acc) ∧ acc.length < sizeLine ∧ Qd (upd H4 D (.lst (acc ++ [y]))) else Qd H3)
    | 1 => g (.int 1) (wipe σ vs) H fun σ2 H2 => wipe σ2 vs = wipe σ vs ∧ tt σ2 H2 fun b H3 =>
          if b = true then te σ2 H3 fun y H4 => ∃ acc, H4 D = some (.lst acc) ∧ acc.length < sizeLine ∧ Qd (upd H4 D (.lst (acc ++ [y]))) else Qd H3
    | _ => Qd H) h (fun i H hi p => ?_) (fun H p => p)
  match i, hi, p with
  | 0, _, p => exact p
  | 1, _, p => exact p
  | k + 2, hi, _ => exact absurd hi (by omega)
theorem lc_list2 {K : PySem.W.Frag} {a : Addr} {x0 x1 : V} {g : TG} {tt : TT} {te : TE} {vs : List Nat} {σ : L2.St} {H1 : Hp} {D : Addr} {Qd : Hp → Prop}
    (h : SqL K (upd H1 D (.lst [])) a [x0, x1] ∧ g x0 (wipe σ vs) (upd H1 D (.lst [])) fun σ2 H2 => wipe σ2 vs = wipe σ vs ∧ tt σ2 H2 fun b H3 =>
      if b = true then te σ2 H3 fun y H4 => ∃ acc, H4 D = some (.lst acc) ∧ acc.length < sizeLine ∧
        (SqL K (upd H4 D (.lst (acc ++ [y]))) a [x0, x1] ∧ g x1 (wipe σ vs) (upd H4 D (.lst (acc ++ [y]))) fun σ2 H2 => wipe σ2 vs = wipe σ vs ∧ tt σ2 H2 fun b H3 =>
          if b = true then te σ2 H3 fun y H4 => ∃ acc, H4 D = some (.lst acc) ∧ acc.length < sizeLine ∧ (SqL K (upd H4 D (.lst (acc ++ [y]))) a [x0, x1] ∧ Qd (upd H4 D (.lst (acc ++ [y])))) else SqL K H3 a [x0, x1] ∧ Qd H3)
      else (SqL K H3 a [x0, x1] ∧ g x1 (wipe σ vs) H3 fun σ2 H2 => wipe σ2 vs = wipe σ vs ∧ tt σ2 H2 fun b H3 =>
          if b = true then te σ2 H3 fun y H4 => ∃ acc, H4 D = some (.lst acc) ∧ acc.length < sizeLine ∧ (SqL K (upd H4 D (.lst (acc ++ [y]))) a [x0, x1] ∧ Qd (upd H4 D (.lst (acc ++ [y])))) else SqL K H3 a [x0, x1] ∧ Qd H3)) :
    ∃ W : Nat → Nat → Hp → Prop, (∃ m, W 0 m (upd H1 D (.lst []))) ∧ ∀ i m H, W i m H →
      ((Itl K a).stop i H ∧ Qd H) ∨ ((Itl K a).go i H ∧ ∃ Nx : Hp → Prop, (∀ H', Nx H' → ∃ m', m' < m ∧ W (i + 1) m' H') ∧ ∀ x H', (Itl K a).yld i H x H' → g x (wipe σ vs) H' fun σ2 H2 => wipe σ2 vs = wipe σ vs ∧ tt σ2 H2 fun b H3 =>
        if b = true then te σ2 H3 fun y H4 => ∃ acc, H4 D = some (.lst acc) ∧ acc.length < sizeLine ∧ Nx (upd H4 D (.lst (acc ++ [y]))) else Nx H3) := by
  refine lc_list (K := K) (a := a) (xs := [x0, x1]) (fun i H => match i with
    | 0 => SqL K H a [x0, x1] ∧ g x0 (wipe σ vs) H fun σ2 H2 => wipe σ2 vs = wipe σ vs ∧ tt σ2 H2 fun b H3 =>
      if b = true then te σ2 H3 fun y H4 => ∃ acc, H4 D = some (.lst acc) ∧ acc.length < sizeLine ∧
        (SqL K (upd H4 D (.lst (acc ++ [y]))) a [x0, x1] ∧ g x1 (wipe σ vs) (upd H4 D (.lst (acc ++ [y]))) fun σ2 H2 => wipe σ2 vs = wipe σ vs ∧ tt σ2 H2 fun b H3 =>
          if b = true then te σ2 H3 fun y H4 => ∃ acc, H4 D = some (.lst acc) ∧ acc.length < sizeLine ∧ (SqL K (upd H4 D (.lst (acc ++ [y]))) a [x0, x1] ∧ Qd (upd H4 D (.lst (acc ++ [y])))) else SqL K H3 a [x0, x1] ∧ Qd H3)
      else (SqL K H3 a [x0, x1] ∧ g x1 (wipe σ vs) H3 fun σ2 H2 => wipe σ2 vs = wipe σ vs ∧ tt σ2 H2 fun b H3 =>
          if b = true then te σ2 H3 fun y H4 => ∃ acc, H4 D = some (.lst acc) ∧ acc.length < sizeLine ∧ (SqL K (upd H4 D (.lst (acc ++ [y]))) a [x0, x1] ∧ Qd (upd H4 D (.lst (acc ++ [y])))) else SqL K H3 a [x0, x1] ∧ Qd H3)
    | 1 => SqL K H a [x0, x1] ∧ g x1 (wipe σ vs) H fun σ2 H2 => wipe σ2 vs = wipe σ vs ∧ tt σ2 H2 fun b H3 =>
          if b = true then te σ2 H3 fun y H4 => ∃ acc, H4 D = some (.lst acc) ∧ acc.length < sizeLine ∧ (SqL K (upd H4 D (.lst (acc ++ [y]))) a [x0, x1] ∧ Qd (upd H4 D (.lst (acc ++ [y])))) else SqL K H3 a [x0, x1] ∧ Qd H3
    | _ => SqL K H a [x0, x1] ∧ Qd H) h (fun i H hi p => ?_) (fun i x H hx p => ?_) (fun H p => p.2)
  · match i, p with
    | 0, p => exact p.1
    | 1, p => exact p.1
    | _ + 2, p => exact p.1
  · match i, hx, p with
    | 0, hx, p => obtain rfl := Option.some.inj hx; exact p.2
    | 1, hx, p => obtain rfl := Option.some.inj hx; exact p.2
    | k + 2, hx, _ => exact absurd hx (by simp)
theorem for_range2 {n : Nat} {g : TG} {tb : TS} {nx : L2.St → Hp → Prop} {rt : VK} {σ : L2.St} {H : Hp} (hn : n = 2)
    (h : g (.int 0) σ H fun σ2 H2 => tb { nx := fun σ H => g (.int 1) σ H fun σ2 H2 => tb { nx := nx, rt := rt, bk := nx, ct := nx } σ2 H2, rt := rt, bk := nx, ct := fun σ H => g (.int 1) σ H fun σ2 H2 => tb { nx := nx, rt := rt, bk := nx, ct := nx } σ2 H2 } σ2 H2) :
    ∃ W : Nat → Nat → L2.St → Hp → Prop, (∃ m, W 0 m σ H) ∧ ∀ i m σ H, W i m σ H →
      ((Itr 0 n).stop i H ∧ nx σ H) ∨ ((Itr 0 n).go i H ∧ ∃ N : L2.St → Hp → Prop, (∀ σ' H', N σ' H' → ∃ m', m' < m ∧ W (i + 1) m' σ' H') ∧ ∀ x H', (Itr 0 n).yld i H x H' → g x σ H' fun σ2 H2 => tb { nx := N, rt := rt, bk := nx, ct := N } σ2 H2) := by
  subst hn
  have P2 : L2.St → Hp → Prop := nx
  refine for_rangeN (lo := 0) (n := 2) (nx := nx) (fun i => match i with
    | 0 => fun σ H => g (.int 0) σ H fun σ2 H2 => tb { nx := fun σ H => g (.int 1) σ H fun σ2 H2 => tb { nx := nx, rt := rt, bk := nx, ct := nx } σ2 H2, rt := rt, bk := nx, ct := fun σ H => g (.int 1) σ H fun σ2 H2 => tb { nx := nx, rt := rt, bk := nx, ct := nx } σ2 H2 } σ2 H2
    | 1 => fun σ H => g (.int 1) σ H fun σ2 H2 => tb { nx := nx, rt := rt, bk := nx, ct := nx } σ2 H2
    | _ => nx) h (fun i σ H hi p => ?_) (fun σ H p => p)
  match i, hi, p with
  | 0, _, p => exact p
  | 1, _, p => exact p
  | k + 2, hi, _ => exact absurd hi (by omega)
theorem for_list2 {K : PySem.W.Frag} {a : Addr} {x0 x1 : V} {g : TG} {tb : TS} {nx : L2.St → Hp → Prop} {rt : VK} {σ : L2.St} {H : Hp}
    (h : SqL K H a [x0, x1] ∧ g x0 σ H fun σ2 H2 => tb { nx := fun σ H => SqL K H a [x0, x1] ∧ g x1 σ H fun σ2 H2 => tb { nx := fun σ H => SqL K H a [x0, x1] ∧ nx σ H, rt := rt, bk := nx, ct := fun σ H => SqL K H a [x0, x1] ∧ nx σ H } σ2 H2, rt := rt, bk := nx, ct := fun σ H => SqL K H a [x0, x1] ∧ g x1 σ H fun σ2 H2 => tb { nx := fun σ H => SqL K H a [x0, x1] ∧ nx σ H, rt := rt, bk := nx, ct := fun σ H => SqL K H a [x0, x1] ∧ nx σ H } σ2 H2 } σ2 H2) :
    ∃ W : Nat → Nat → L2.St → Hp → Prop, (∃ m, W 0 m σ H) ∧ ∀ i m σ H, W i m σ H →
      ((Itl K a).stop i H ∧ nx σ H) ∨ ((Itl K a).go i H ∧ ∃ N : L2.St → Hp → Prop, (∀ σ' H', N σ' H' → ∃ m', m' < m ∧ W (i + 1) m' σ' H') ∧ ∀ x H', (Itl K a).yld i H x H' → g x σ H' fun σ2 H2 => tb { nx := N, rt := rt, bk := nx, ct := N } σ2 H2) := by
  refine for_listN (K := K) (a := a) (xs := [x0, x1]) (nx := nx) (fun i => match i with
    | 0 => fun σ H => SqL K H a [x0, x1] ∧ g x0 σ H fun σ2 H2 => tb { nx := fun σ H => SqL K H a [x0, x1] ∧ g x1 σ H fun σ2 H2 => tb { nx := fun σ H => SqL K H a [x0, x1] ∧ nx σ H, rt := rt, bk := nx, ct := fun σ H => SqL K H a [x0, x1] ∧ nx σ H } σ2 H2, rt := rt, bk := nx, ct := fun σ H => SqL K H a [x0, x1] ∧ g x1 σ H fun σ2 H2 => tb { nx := fun σ H => SqL K H a [x0, x1] ∧ nx σ H, rt := rt, bk := nx, ct := fun σ H => SqL K H a [x0, x1] ∧ nx σ H } σ2 H2 } σ2 H2
    | 1 => fun σ H => SqL K H a [x0, x1] ∧ g x1 σ H fun σ2 H2 => tb { nx := fun σ H => SqL K H a [x0, x1] ∧ nx σ H, rt := rt, bk := nx, ct := fun σ H => SqL K H a [x0, x1] ∧ nx σ H } σ2 H2
    | _ => fun σ H => SqL K H a [x0, x1] ∧ nx σ H) h (fun i σ H hi p => ?_) (fun i x σ H hx p => ?_) (fun σ H p => p.2)
  · match i, p with
    | 0, p => exact p.1
    | 1, p => exact p.1
    | _ + 2, p => exact p.1
  · match i, hx, p with
    | 0, hx, p => obtain rfl := Option.some.inj hx; exact p.2
    | 1, hx, p => obtain rfl := Option.some.inj hx; exact p.2
    | k + 2, hx, _ => exact absurd hx (by simp)
/-- a walk over a list whose things are known, one by one -/
def forU (K : PySem.W.Frag) (a : Addr) (all : List V) (g : TG) (tb : TS) (nx : L2.St → Hp → Prop) (rt : VK) : List V → L2.St → Hp → Prop
  | [], σ, H => SqL K H a all ∧ nx σ H
  | x :: r, σ, H => SqL K H a all ∧ g x σ H fun σ2 H2 => tb { nx := forU K a all g tb nx rt r, rt := rt, bk := nx, ct := forU K a all g tb nx rt r } σ2 H2
theorem forU_sq {K : PySem.W.Frag} {a : Addr} {all : List V} {g : TG} {tb : TS} {nx : L2.St → Hp → Prop} {rt : VK} : ∀ {l : List V} {σ : L2.St} {H : Hp}, forU K a all g tb nx rt l σ H → SqL K H a all
  | [], _, _, h => h.1
  | _ :: _, _, _, h => h.1
theorem forU_cons {K : PySem.W.Frag} {a : Addr} {all : List V} {g : TG} {tb : TS} {nx : L2.St → Hp → Prop} {rt : VK} {x : V} {r : List V} {σ : L2.St} {H : Hp} (h : SqL K H a all ∧ g x σ H fun σ2 H2 => tb { nx := forU K a all g tb nx rt r, rt := rt, bk := nx, ct := forU K a all g tb nx rt r } σ2 H2) : forU K a all g tb nx rt (x :: r) σ H := h
theorem forU_nil {K : PySem.W.Frag} {a : Addr} {all : List V} {g : TG} {tb : TS} {nx : L2.St → Hp → Prop} {rt : VK} {σ : L2.St} {H : Hp} (h : SqL K H a all ∧ nx σ H) : forU K a all g tb nx rt [] σ H := h
theorem for_listU {K : PySem.W.Frag} {a : Addr} {xs : List V} {g : TG} {tb : TS} {nx : L2.St → Hp → Prop} {rt : VK} {σ : L2.St} {H : Hp} (h : forU K a xs g tb nx rt xs σ H) :
    ∃ W : Nat → Nat → L2.St → Hp → Prop, (∃ m, W 0 m σ H) ∧ ∀ i m σ H, W i m σ H →
      ((Itl K a).stop i H ∧ nx σ H) ∨ ((Itl K a).go i H ∧ ∃ N : L2.St → Hp → Prop, (∀ σ' H', N σ' H' → ∃ m', m' < m ∧ W (i + 1) m' σ' H') ∧ ∀ x H', (Itl K a).yld i H x H' → g x σ H' fun σ2 H2 => tb { nx := N, rt := rt, bk := nx, ct := N } σ2 H2) := by
  refine for_listN (K := K) (a := a) (xs := xs) (nx := nx) (fun i => forU K a xs g tb nx rt (xs.drop i)) h (fun i σ H _ p => forU_sq p) (fun i x σ H hx p => ?_) (fun σ H p => ?_)
  · have e : xs.drop i = x :: xs.drop (i + 1) := drop_s hx
    have p : forU K a xs g tb nx rt (xs.drop i) σ H := p
    rw [e] at p
    exact p.2
  · have p : forU K a xs g tb nx rt (xs.drop xs.length) σ H := p
    rw [List.drop_length] at p
    exact p.2
/-! loops by a test, no more turns than so many -/
def whileC {σ ρ : Type} (f : σ → Option (Ctl ρ σ)) : Nat → σ → Option (Ctl ρ σ)
  | 0, _ => none
  | n + 1, s => (f s).bind fun c => match c with
    | .nx s' => whileC f n s'
    | .bk s' => some (.nx s')
    | .rt r => some (.rt r)
theorem whileC_s {σ ρ : Type} {f : σ → Option (Ctl ρ σ)} {m : Nat} {s : σ} {cE : Ctl ρ σ} (h : whileC f m s = some cE) :
    ∃ m' c, m = m' + 1 ∧ f s = some c ∧ (match c with
      | .nx s' => whileC f m' s' = some cE
      | .bk s' => cE = .nx s'
      | .rt r => cE = .rt r) := by
  cases m with
  | zero => cases h
  | succ m' =>
    obtain ⟨c, e, h⟩ := bnd h
    refine ⟨m', c, rfl, e, ?_⟩
    cases c with
    | nx s' => exact h
    | bk s' => exact (Option.some.inj h).symm
    | rt r => exact (Option.some.inj h).symm
/-! one of two lists, not known which: taken out ahead of the other one, and put back -/
theorem alias2 {S0 : List Addr} {H0 H : Hp} {L : List As} {α : Type} [Imm α] {p0 p1 : Addr} {x0 x1 : List α} {b : Bool} {v : V} (hv : (if b = true then V.ref p0 else V.ref p1) = v) (h : Sep S0 H0 H (aL p0 x0 :: aL p1 x1 :: L)) :
    ∃ (p : Addr) (R : As), v = .ref p ∧ Sep S0 H0 H (aL p (if b = true then x0 else x1) :: R :: L) ∧ ∀ {H' : Hp} {L' : List As}, Sep S0 H0 H' (aL p (if b = true then x0 else x1) :: R :: L') → Sep S0 H0 H' (aL p0 x0 :: aL p1 x1 :: L') := by
  cases b with
  | true => exact ⟨p0, aL p1 x1, hv.symm, h, fun h' => h'⟩
  | false => exact ⟨p1, aL p0 x0, hv.symm, h.mv 1 rfl, fun h' => h'.mv 1 rfl⟩
theorem forU_st {K : PySem.W.Frag} {a : Addr} {all l : List V} {g : TG} {tb : TS} {nx : L2.St → Hp → Prop} {rt : VK} {σ σ' : L2.St} {H : Hp} (e : σ = σ') (h : forU K a all g tb nx rt l σ' H) : forU K a all g tb nx rt l σ H := e ▸ h
/-! flat tuples with truths, compared as data -/
theorem ok_flT {k : Nat} {xs : List V} (g : xs.all flBok = true) : okD (k + 1) (.tuple (xs.map flB)) := ok_T fun d hd => by
  obtain ⟨v, hv, rfl⟩ := List.mem_map.mp hd
  have := List.all_eq_true.mp g v hv
  cases v <;> first | exact ok_i | exact ok_b | exact ok_n | exact ok_s this | cases this
theorem eqv_flT {xs ys : List V} : PyData.eqv (.tuple (xs.map flB)) (.tuple (ys.map flB)) = decide (PyData.eqvAll (xs.map flB) (ys.map flB) = true) := by
  rw [PyData.eqv]; simp
theorem call_len_seq' {X : Cx} {K : PySem.W.Frag} (hK : X.K = K) : CallR X (.builtin "len") (fun xs H Q => ∃ p ys, xs = [.ref p] ∧ (SqL K H p ys ∨ SqT K H p ys) ∧ Q (.int ys.length) H) := by subst hK; exact call_len_seq

/-! ### dicts of ints to values that do not change -/
def KI {α : Type} [Imm α] (H : Hp) : List (Key × V) → List (Int × α) → Prop
  | [], [] => True
  | kv :: r, p :: q => (kv.1 = Sum.inl p.1 ∧ Imm.at_ H kv.2 p.2) ∧ KI H r q
  | _, _ => False
section
variable {α : Type} [Imm α] {H H' : Hp}
theorem KI.mono (t : TupK H H') : ∀ {kvs : List (Key × V)} {l : List (Int × α)}, KI H kvs l → KI H' kvs l
  | [], [], _ => trivial
  | _ :: _, _ :: _, ⟨⟨a, b⟩, r⟩ => ⟨⟨a, Imm.mono t b⟩, r.mono t⟩
  | [], _ :: _, h => h.elim
  | _ :: _, [], h => h.elim
theorem KI.length : ∀ {kvs : List (Key × V)} {l : List (Int × α)}, KI H kvs l → kvs.length = l.length
  | [], [], _ => rfl
  | _ :: _, _ :: _, ⟨_, r⟩ => congrArg (· + 1) r.length
  | [], _ :: _, h => h.elim
  | _ :: _, [], h => h.elim
def lookG {β : Type} (l : List (Int × β)) (k : Int) : Option β := (l.find? fun p => decide (p.1 = k)).map (·.2)
def putG {β : Type} (l : List (Int × β)) (k : Int) (v : β) : List (Int × β) := if l.any (fun p => decide (p.1 = k)) then l.map (fun p => if p.1 = k then (k, v) else p) else l ++ [(k, v)]
def updG {β : Type} (l m : List (Int × β)) : List (Int × β) := m.foldl (fun l p => putG l p.1 p.2) l
theorem KI.lookN : ∀ {kvs : List (Key × V)} {l : List (Int × α)}, KI H kvs l → ∀ k : Int, lookG l k = none → valV kvs (Sum.inl k : Key) = none
  | [], [], _, _, _ => rfl
  | kv :: r, p :: q, ⟨⟨a, b⟩, h⟩, k, e => by
    unfold lookG at e
    rw [List.find?_cons] at e
    obtain ⟨x, v⟩ := kv
    have a : x = Sum.inl p.1 := a
    subst a
    rw [valV_c]
    by_cases c : p.1 = k
    · rw [decide_eq_true c] at e; cases e
    · rw [decide_eq_false c] at e
      rw [if_neg (fun z => c z.symm)]
      exact h.lookN k e
  | [], _ :: _, h, _, _ => h.elim
  | _ :: _, [], h, _, _ => h.elim
theorem KI.lookS : ∀ {kvs : List (Key × V)} {l : List (Int × α)}, KI H kvs l → ∀ {k : Int} {x : α}, lookG l k = some x → ∃ u, valV kvs (Sum.inl k : Key) = some u ∧ Imm.at_ H u x
  | [], [], _, _, _, e => by cases e
  | kv :: r, p :: q, ⟨⟨a, b⟩, h⟩, k, x, e => by
    unfold lookG at e
    rw [List.find?_cons] at e
    obtain ⟨y, v⟩ := kv
    have a : y = Sum.inl p.1 := a
    subst a
    rw [valV_c]
    by_cases c : p.1 = k
    · rw [decide_eq_true c] at e
      rw [if_pos c.symm]
      exact ⟨v, rfl, by rw [← Option.some.inj e]; exact b⟩
    · rw [decide_eq_false c] at e
      rw [if_neg (fun z => c z.symm)]
      exact h.lookS e
  | [], _ :: _, h, _, _, _ => h.elim
  | _ :: _, [], h, _, _, _ => h.elim
theorem KI.getD {kvs : List (Key × V)} {l : List (Int × α)} (h : KI H kvs l) (k : Int) {d : V} {x : α} (hd : Imm.at_ H d x) : Imm.at_ H ((valV kvs (Sum.inl k : Key)).getD d) ((lookG l k).getD x) := by
  cases e : lookG l k with
  | none => rw [h.lookN k e]; exact hd
  | some y => obtain ⟨u, e2, i⟩ := h.lookS e; rw [e2]; exact i
theorem KI.isIn {kvs : List (Key × V)} {l : List (Int × α)} (h : KI H kvs l) (k : Int) : V.bl ((valV kvs (Sum.inl k : Key)).isSome) = V.bl (decide ((lookG l k).isSome = true)) := by
  cases e : lookG l k with
  | none => rw [h.lookN k e]; rfl
  | some y => obtain ⟨u, e2, i⟩ := h.lookS e; rw [e2]; rfl
theorem KI.isInN {kvs : List (Key × V)} {l : List (Int × α)} (h : KI H kvs l) (k : Int) : V.bl (!(valV kvs (Sum.inl k : Key)).isSome) = V.bl (decide ((lookG l k).isSome = false)) := by
  cases e : lookG l k with
  | none => rw [h.lookN k e]; rfl
  | some y => obtain ⟨u, e2, i⟩ := h.lookS e; rw [e2]; rfl
theorem KI.app : ∀ {kvs : List (Key × V)} {l : List (Int × α)}, KI H kvs l → ∀ {k : Int} {u : V} {x : α}, Imm.at_ H u x → KI H (kvs ++ [(Sum.inl k, u)]) (l ++ [(k, x)])
  | [], [], _, _, _, _, h => ⟨⟨rfl, h⟩, trivial⟩
  | _ :: _, _ :: _, ⟨a, r⟩, _, _, _, h => ⟨a, r.app h⟩
  | [], _ :: _, h, _, _, _, _ => h.elim
  | _ :: _, [], h, _, _, _, _ => h.elim
theorem KI.any : ∀ {kvs : List (Key × V)} {l : List (Int × α)}, KI H kvs l → ∀ k : Int, (kvs.any fun kv => decide (kv.1 = (Sum.inl k : Key))) = l.any fun p => decide (p.1 = k)
  | [], [], _, _ => rfl
  | kv :: r, p :: q, ⟨⟨a, _⟩, h⟩, k => by
    rw [List.any_cons, List.any_cons, h.any k, a]
    congr 1
    exact decide_eq_decide.mpr ⟨fun z => Sum.inl.inj z, fun z => congrArg Sum.inl z⟩
  | [], _ :: _, h, _ => h.elim
  | _ :: _, [], h, _ => h.elim
theorem KI.mp : ∀ {kvs : List (Key × V)} {l : List (Int × α)}, KI H kvs l → ∀ {k : Int} {u : V} {x : α}, Imm.at_ H u x → KI H (kvs.map fun kv => if kv.1 = (Sum.inl k : Key) then (kv.1, u) else kv) (l.map fun p => if p.1 = k then (k, x) else p)
  | [], [], _, _, _, _, _ => trivial
  | kv :: r, p :: q, ⟨⟨a, b⟩, h⟩, k, u, x, i => by
    refine ⟨?_, h.mp i⟩
    show (if kv.1 = (Sum.inl k : Key) then (kv.1, u) else kv).1 = Sum.inl (if p.1 = k then (k, x) else p).1 ∧ Imm.at_ H (if kv.1 = (Sum.inl k : Key) then (kv.1, u) else kv).2 (if p.1 = k then (k, x) else p).2
    by_cases c : p.1 = k
    · rw [if_pos (a.trans (congrArg Sum.inl c)), if_pos c]
      exact ⟨a.trans (congrArg Sum.inl c), i⟩
    · rw [if_neg (fun z => c (Sum.inl.inj (a.symm.trans z))), if_neg c]
      exact ⟨a, b⟩
  | [], _ :: _, h, _, _, _, _ => h.elim
  | _ :: _, [], h, _, _, _, _ => h.elim
theorem KI.put {kvs : List (Key × V)} {l : List (Int × α)} (h : KI H kvs l) (k : Int) {u : V} {x : α} (i : Imm.at_ H u x) : KI H (putK kvs (Sum.inl k : Key) u) (putG l k x) := by
  unfold putK putG
  rw [h.any k]
  split
  · exact h.mp i
  · exact h.app i
theorem KI.merge : ∀ {ks : List (Key × V)} {m : List (Int × α)}, KI H ks m → ∀ {kvs : List (Key × V)} {l : List (Int × α)}, KI H kvs l → KI H (mergeK kvs ks) (updG l m)
  | [], [], _, _, _, h => h
  | (a, u) :: r, p :: q, ⟨⟨e, i⟩, g⟩, kvs, l, h => by
    have e : a = Sum.inl p.1 := e
    subst e
    exact g.merge (h.put p.1 i)
  | [], _ :: _, h, _, _, _ => h.elim
  | _ :: _, [], h, _, _, _ => h.elim
def aK (p : Addr) (l : List (Int × α)) : As where
  own := [p]
  ok := fun H => ∃ kvs, H p = some (.dK kvs) ∧ KI H kvs l
  st := fun ⟨vs, e, h⟩ k t => ⟨vs, k p (by simp) _ e, h.mono t⟩
  al := fun ⟨vs, e, _⟩ b m => by
    have z := List.mem_singleton.mp m
    subst z; exact ⟨_, e⟩
  nd := fun _ => one_nd
variable {S0 : List Addr} {H0 : Hp} {L : List As}
theorem Sep.dk (h : Sep S0 H0 H L) (i : Nat) {p : Addr} {l : List (Int × α)} (e : nth L i = some (aK p l)) : ∃ kvs, H p = some (.dK kvs) ∧ KI H kvs l := h.get i e
theorem Sep.putG (h : Sep S0 H0 H L) (i : Nat) {p : Addr} {l : List (Int × α)} (e : nth L i = some (aK p l)) {kvs ks : List (Key × V)} {m : List (Int × α)} (hl : H p = some (.dK kvs)) (hv : KI H ks m) : Sep S0 H0 (upd H p (.dK ks)) (setN L i [aK p m]) :=
  have k : Kp [p] [p] H (upd H p (.dK ks)) := Kp.upd hl trivial (List.mem_singleton.mpr rfl)
  h.put i e (aK p m) k ⟨ks, upd_same, hv.mono k.tups⟩
theorem Sep.newG (h : Sep S0 H0 H L) {p : Addr} (np : H p = none) {m : List (Int × α)} {ks : List (Key × V)} (hv : KI H ks m) : Sep S0 H0 (upd H p (.dK ks)) (aK p m :: L) :=
  h.new np (aK p m) rfl ⟨ks, upd_same, hv.mono (Kp.new (S := []) np).tups⟩
end
theorem for_tupN {K : PySem.W.Frag} {a : Addr} {xs : List V} {g : TG} {tb : TS} {nx : L2.St → Hp → Prop} {rt : VK} {σ : L2.St} {H : Hp} (Pv : Nat → L2.St → Hp → Prop) (h0 : Pv 0 σ H) (hl : ∀ i σ H, i ≤ xs.length → Pv i σ H → SqT K H a xs)
    (hs : ∀ i x σ H, xs[i]? = some x → Pv i σ H → g x σ H fun σ2 H2 => tb { nx := Pv (i + 1), rt := rt, bk := nx, ct := Pv (i + 1) } σ2 H2) (hd : ∀ σ H, Pv xs.length σ H → nx σ H) :
    ∃ W : Nat → Nat → L2.St → Hp → Prop, (∃ m, W 0 m σ H) ∧ ∀ i m σ H, W i m σ H →
      ((Itt K a).stop i H ∧ nx σ H) ∨ ((Itt K a).go i H ∧ ∃ N : L2.St → Hp → Prop, (∀ σ' H', N σ' H' → ∃ m', m' < m ∧ W (i + 1) m' σ' H') ∧ ∀ x H', (Itt K a).yld i H x H' → g x σ H' fun σ2 H2 => tb { nx := N, rt := rt, bk := nx, ct := N } σ2 H2) :=
  for_tup (D := { nx := nx, rt := rt, bk := nx, ct := nx }) Pv h0 hl hs hd
theorem optI_flat {H : Hp} {v : V} {o : Option Int} (h : Imm.at_ H v o) : flatV v = true := by
  cases o with
  | none => cases h; rfl
  | some x => cases h; rfl
theorem in_optI {H : Hp} {v : V} {o : Option Int} {xs : List Int} (h : Imm.at_ H v o) : V.bl (if false = true then !inV v (xs.map Sc.v) else inV v (xs.map Sc.v)) = V.bl (decide (o ∈ xs.map some)) := by
  rw [if_neg Bool.false_ne_true]
  cases o with
  | none =>
    cases h
    congr 1
    induction xs with
    | nil => rfl
    | cons y r ih =>
      show (eqV (.int y) .non || inV .non (r.map Sc.v)) = _
      rw [ih, show eqV (.int y) (.non : V) = false from rfl, Bool.false_or]
      exact decide_eq_decide.mpr (by simp)
  | some x =>
    cases h
    refine (congrArg V.bl (inV_ints x xs)).trans (congrArg V.bl (decide_eq_decide.mpr (by simp)))
theorem inN_optI {H : Hp} {v : V} {o : Option Int} {xs : List Int} (h : Imm.at_ H v o) : V.bl (if true = true then !inV v (xs.map Sc.v) else inV v (xs.map Sc.v)) = V.bl (decide (o ∉ xs.map some)) := by
  have := in_optI (xs := xs) h
  rw [if_neg Bool.false_ne_true] at this
  rw [if_pos rfl, decide_not, V.bl.inj this]
theorem apart_auxG {p : Addr} {A B : As} (o1 : p ∈ A.own) (o2 : p ∈ B.own) : ∀ {L : List As} {i j : Nat}, nth L i = some A → nth L j = some B → i ≠ j → (owns L).Nodup → False
  | [], _, _, e, _, _, _ => by cases e
  | C :: r, 0, 0, _, _, n, _ => n rfl
  | C :: r, 0, j + 1, e1, e2, _, nd => by
    have e1 : C = A := Option.some.inj e1
    subst e1
    exact (nd_app.mp nd).2.2 p o1 (nth_own (i := j) e2 p o2)
  | C :: r, i + 1, 0, e1, e2, _, nd => by
    have e2 : C = B := Option.some.inj e2
    subst e2
    exact (nd_app.mp nd).2.2 p o2 (nth_own (i := i) e1 p o1)
  | C :: r, i + 1, j + 1, e1, e2, n, nd => apart_auxG o1 o2 (L := r) (i := i) (j := j) e1 e2 (fun z => n (congrArg (· + 1) z)) (nd_app.mp nd).2.1
theorem Sep.apartG {S0 : List Addr} {H0 H : Hp} {L : List As} (h : Sep S0 H0 H L) (i j : Nat) {p q : Addr} {A B : As} (e1 : nth L i = some A) (e2 : nth L j = some B) (o1 : p ∈ A.own) (o2 : q ∈ B.own) (n : i ≠ j) : p ≠ q := fun e => by
  subst e; exact apart_auxG o1 o2 e1 e2 n h.nd
def optSV : Option Str → V
  | none => .non
  | some s => .str s
theorem im_optSV {H : Hp} {v : V} {o : Option Str} (h : Imm.at_ H v o) : v = optSV o := by
  cases o <;> cases h <;> rfl

structure R_Memory where
  flash : (List Int)
  ram : (List Int)
  places : (List Int)
structure A_Memory where
  p_ : Addr
  dx_ : Addr
  flash : Addr
  ram : Addr
  places : Addr
abbrev A_Memory.w (B : A_Memory) (p : Addr) : A_Memory := { B with p_ := p }
def F_Memory (v_flash v_ram v_places : V) : List (Str × V) := [("flash", v_flash), ("ram", v_ram), ("places", v_places)]
theorem F_Memory_len {v_flash v_ram v_places : V} : (F_Memory v_flash v_ram v_places).length < 1000 := by show 3 < 1000; decide
theorem F_Memory_flash {v_flash v_ram v_places : V} : (F_Memory v_flash v_ram v_places).lookup ("flash" : Str) = some v_flash := by kernel_rfl
theorem F_Memory_put_flash {v_flash v_ram v_places x_ : V} : putF ("flash" : Str) x_ (F_Memory v_flash v_ram v_places) = F_Memory x_ v_ram v_places := by kernel_rfl
theorem F_Memory_ram {v_flash v_ram v_places : V} : (F_Memory v_flash v_ram v_places).lookup ("ram" : Str) = some v_ram := by kernel_rfl
theorem F_Memory_put_ram {v_flash v_ram v_places x_ : V} : putF ("ram" : Str) x_ (F_Memory v_flash v_ram v_places) = F_Memory v_flash x_ v_places := by kernel_rfl
theorem F_Memory_places {v_flash v_ram v_places : V} : (F_Memory v_flash v_ram v_places).lookup ("places" : Str) = some v_places := by kernel_rfl
theorem F_Memory_put_places {v_flash v_ram v_places x_ : V} : putF ("places" : Str) x_ (F_Memory v_flash v_ram v_places) = F_Memory v_flash v_ram x_ := by kernel_rfl
abbrev q_Memory (K : PySem.W.Frag) (p : Addr) (A : A_Memory) (D : R_Memory) : As := aC p (.ins (He.ga K "Memory") A.dx_ (F_Memory (.ref A.flash) (.ref A.ram) (.ref A.places)))
abbrev O_Memory (K : PySem.W.Frag) (p : Addr) (A : A_Memory) (D : R_Memory) : List As := [aC p (.ins (He.ga K "Memory") A.dx_ (F_Memory (.ref A.flash) (.ref A.ram) (.ref A.places))), aL A.flash D.flash, aL A.ram D.ram, aL A.places D.places]
def a_Memory (K : PySem.W.Frag) (A : A_Memory) (D : R_Memory) : As := aG (O_Memory K A.p_ A D)
structure R_Reg where
  a : Int
  b : Int
  pc : Int
  sp : Int
structure A_Reg where
  p_ : Addr

abbrev A_Reg.w (B : A_Reg) (p : Addr) : A_Reg := { B with p_ := p }
def K_Reg (v_a v_b v_pc v_sp : V) : List (Key × V) := [((Sum.inr "a" : Key), v_a), ((Sum.inr "b" : Key), v_b), ((Sum.inr "pc" : Key), v_pc), ((Sum.inr "sp" : Key), v_sp)]
theorem K_Reg_a {v_a v_b v_pc v_sp : V} : valV (K_Reg v_a v_b v_pc v_sp) (Sum.inr "a" : Key) = some v_a := by kernel_rfl
theorem K_Reg_put_a {v_a v_b v_pc v_sp x_ : V} : putK (K_Reg v_a v_b v_pc v_sp) (Sum.inr "a" : Key) x_ = K_Reg x_ v_b v_pc v_sp := by kernel_rfl
theorem K_Reg_dput_a {v_a v_b v_pc v_sp x_ : V} {H : Hp} {p : Addr} (h : H p = some (.dK (K_Reg v_a v_b v_pc v_sp))) : DPut H p (.str "a") x_ (upd H p (.dK (K_Reg x_ v_b v_pc v_sp))) := by
  have g := DPut.k (k := Sum.inr "a") (v := x_) h (small_ (by show 4 ≤ 16777215; decide))
  rw [K_Reg_put_a] at g; exact g
theorem K_Reg_dget_a {v_a v_b v_pc v_sp : V} {H : Hp} {p : Addr} (h : H p = some (.dK (K_Reg v_a v_b v_pc v_sp))) : DGet H p (.str "a") (some v_a) := by
  have g := DGet.k (k := Sum.inr "a") h
  rw [K_Reg_a] at g; exact g
theorem K_Reg_b {v_a v_b v_pc v_sp : V} : valV (K_Reg v_a v_b v_pc v_sp) (Sum.inr "b" : Key) = some v_b := by kernel_rfl
theorem K_Reg_put_b {v_a v_b v_pc v_sp x_ : V} : putK (K_Reg v_a v_b v_pc v_sp) (Sum.inr "b" : Key) x_ = K_Reg v_a x_ v_pc v_sp := by kernel_rfl
theorem K_Reg_dput_b {v_a v_b v_pc v_sp x_ : V} {H : Hp} {p : Addr} (h : H p = some (.dK (K_Reg v_a v_b v_pc v_sp))) : DPut H p (.str "b") x_ (upd H p (.dK (K_Reg v_a x_ v_pc v_sp))) := by
  have g := DPut.k (k := Sum.inr "b") (v := x_) h (small_ (by show 4 ≤ 16777215; decide))
  rw [K_Reg_put_b] at g; exact g
theorem K_Reg_dget_b {v_a v_b v_pc v_sp : V} {H : Hp} {p : Addr} (h : H p = some (.dK (K_Reg v_a v_b v_pc v_sp))) : DGet H p (.str "b") (some v_b) := by
  have g := DGet.k (k := Sum.inr "b") h
  rw [K_Reg_b] at g; exact g
theorem K_Reg_pc {v_a v_b v_pc v_sp : V} : valV (K_Reg v_a v_b v_pc v_sp) (Sum.inr "pc" : Key) = some v_pc := by kernel_rfl
theorem K_Reg_put_pc {v_a v_b v_pc v_sp x_ : V} : putK (K_Reg v_a v_b v_pc v_sp) (Sum.inr "pc" : Key) x_ = K_Reg v_a v_b x_ v_sp := by kernel_rfl
theorem K_Reg_dput_pc {v_a v_b v_pc v_sp x_ : V} {H : Hp} {p : Addr} (h : H p = some (.dK (K_Reg v_a v_b v_pc v_sp))) : DPut H p (.str "pc") x_ (upd H p (.dK (K_Reg v_a v_b x_ v_sp))) := by
  have g := DPut.k (k := Sum.inr "pc") (v := x_) h (small_ (by show 4 ≤ 16777215; decide))
  rw [K_Reg_put_pc] at g; exact g
theorem K_Reg_dget_pc {v_a v_b v_pc v_sp : V} {H : Hp} {p : Addr} (h : H p = some (.dK (K_Reg v_a v_b v_pc v_sp))) : DGet H p (.str "pc") (some v_pc) := by
  have g := DGet.k (k := Sum.inr "pc") h
  rw [K_Reg_pc] at g; exact g
theorem K_Reg_sp {v_a v_b v_pc v_sp : V} : valV (K_Reg v_a v_b v_pc v_sp) (Sum.inr "sp" : Key) = some v_sp := by kernel_rfl
theorem K_Reg_put_sp {v_a v_b v_pc v_sp x_ : V} : putK (K_Reg v_a v_b v_pc v_sp) (Sum.inr "sp" : Key) x_ = K_Reg v_a v_b v_pc x_ := by kernel_rfl
theorem K_Reg_dput_sp {v_a v_b v_pc v_sp x_ : V} {H : Hp} {p : Addr} (h : H p = some (.dK (K_Reg v_a v_b v_pc v_sp))) : DPut H p (.str "sp") x_ (upd H p (.dK (K_Reg v_a v_b v_pc x_))) := by
  have g := DPut.k (k := Sum.inr "sp") (v := x_) h (small_ (by show 4 ≤ 16777215; decide))
  rw [K_Reg_put_sp] at g; exact g
theorem K_Reg_dget_sp {v_a v_b v_pc v_sp : V} {H : Hp} {p : Addr} (h : H p = some (.dK (K_Reg v_a v_b v_pc v_sp))) : DGet H p (.str "sp") (some v_sp) := by
  have g := DGet.k (k := Sum.inr "sp") h
  rw [K_Reg_sp] at g; exact g
abbrev q_Reg (K : PySem.W.Frag) (p : Addr) (A : A_Reg) (D : R_Reg) : As := aC p (.dK (K_Reg (.int D.a) (.int D.b) (.int D.pc) (.int D.sp)))
abbrev O_Reg (K : PySem.W.Frag) (p : Addr) (A : A_Reg) (D : R_Reg) : List As := [aC p (.dK (K_Reg (.int D.a) (.int D.b) (.int D.pc) (.int D.sp)))]
def a_Reg (K : PySem.W.Frag) (A : A_Reg) (D : R_Reg) : As := aG (O_Reg K A.p_ A D)
structure R_Board where
  memory : R_Memory
  line : (List (Int × Int))
  registers : R_Reg
  zero : Bool
  lets : Bool
  asleep : Bool
  beat : Int
  stopped : (Option (List V))
  sent : (List (Int × Int))
  touched : (List (Str × Int))
  bend : Int
structure A_Board where
  p_ : Addr
  dx_ : Addr
  memory : A_Memory
  line : Addr
  registers : A_Reg
  stopped : V
  sent : Addr
  touched : Addr
abbrev A_Board.w (B : A_Board) (p : Addr) : A_Board := { B with p_ := p }
def F_Board (v_memory v_line v_registers v_zero v_lets v_asleep v_beat v_stopped v_sent v_touched v_bend : V) : List (Str × V) := [("memory", v_memory), ("line", v_line), ("registers", v_registers), ("zero", v_zero), ("lets", v_lets), ("asleep", v_asleep), ("beat", v_beat), ("stopped", v_stopped), ("sent", v_sent), ("touched", v_touched), ("bend", v_bend)]
theorem F_Board_len {v_memory v_line v_registers v_zero v_lets v_asleep v_beat v_stopped v_sent v_touched v_bend : V} : (F_Board v_memory v_line v_registers v_zero v_lets v_asleep v_beat v_stopped v_sent v_touched v_bend).length < 1000 := by show 11 < 1000; decide
theorem F_Board_memory {v_memory v_line v_registers v_zero v_lets v_asleep v_beat v_stopped v_sent v_touched v_bend : V} : (F_Board v_memory v_line v_registers v_zero v_lets v_asleep v_beat v_stopped v_sent v_touched v_bend).lookup ("memory" : Str) = some v_memory := by kernel_rfl
theorem F_Board_put_memory {v_memory v_line v_registers v_zero v_lets v_asleep v_beat v_stopped v_sent v_touched v_bend x_ : V} : putF ("memory" : Str) x_ (F_Board v_memory v_line v_registers v_zero v_lets v_asleep v_beat v_stopped v_sent v_touched v_bend) = F_Board x_ v_line v_registers v_zero v_lets v_asleep v_beat v_stopped v_sent v_touched v_bend := by kernel_rfl
theorem F_Board_line {v_memory v_line v_registers v_zero v_lets v_asleep v_beat v_stopped v_sent v_touched v_bend : V} : (F_Board v_memory v_line v_registers v_zero v_lets v_asleep v_beat v_stopped v_sent v_touched v_bend).lookup ("line" : Str) = some v_line := by kernel_rfl
theorem F_Board_put_line {v_memory v_line v_registers v_zero v_lets v_asleep v_beat v_stopped v_sent v_touched v_bend x_ : V} : putF ("line" : Str) x_ (F_Board v_memory v_line v_registers v_zero v_lets v_asleep v_beat v_stopped v_sent v_touched v_bend) = F_Board v_memory x_ v_registers v_zero v_lets v_asleep v_beat v_stopped v_sent v_touched v_bend := by kernel_rfl
theorem F_Board_registers {v_memory v_line v_registers v_zero v_lets v_asleep v_beat v_stopped v_sent v_touched v_bend : V} : (F_Board v_memory v_line v_registers v_zero v_lets v_asleep v_beat v_stopped v_sent v_touched v_bend).lookup ("registers" : Str) = some v_registers := by kernel_rfl
theorem F_Board_put_registers {v_memory v_line v_registers v_zero v_lets v_asleep v_beat v_stopped v_sent v_touched v_bend x_ : V} : putF ("registers" : Str) x_ (F_Board v_memory v_line v_registers v_zero v_lets v_asleep v_beat v_stopped v_sent v_touched v_bend) = F_Board v_memory v_line x_ v_zero v_lets v_asleep v_beat v_stopped v_sent v_touched v_bend := by kernel_rfl
theorem F_Board_zero {v_memory v_line v_registers v_zero v_lets v_asleep v_beat v_stopped v_sent v_touched v_bend : V} : (F_Board v_memory v_line v_registers v_zero v_lets v_asleep v_beat v_stopped v_sent v_touched v_bend).lookup ("zero" : Str) = some v_zero := by kernel_rfl
theorem F_Board_put_zero {v_memory v_line v_registers v_zero v_lets v_asleep v_beat v_stopped v_sent v_touched v_bend x_ : V} : putF ("zero" : Str) x_ (F_Board v_memory v_line v_registers v_zero v_lets v_asleep v_beat v_stopped v_sent v_touched v_bend) = F_Board v_memory v_line v_registers x_ v_lets v_asleep v_beat v_stopped v_sent v_touched v_bend := by kernel_rfl
theorem F_Board_lets {v_memory v_line v_registers v_zero v_lets v_asleep v_beat v_stopped v_sent v_touched v_bend : V} : (F_Board v_memory v_line v_registers v_zero v_lets v_asleep v_beat v_stopped v_sent v_touched v_bend).lookup ("lets" : Str) = some v_lets := by kernel_rfl
theorem F_Board_put_lets {v_memory v_line v_registers v_zero v_lets v_asleep v_beat v_stopped v_sent v_touched v_bend x_ : V} : putF ("lets" : Str) x_ (F_Board v_memory v_line v_registers v_zero v_lets v_asleep v_beat v_stopped v_sent v_touched v_bend) = F_Board v_memory v_line v_registers v_zero x_ v_asleep v_beat v_stopped v_sent v_touched v_bend := by kernel_rfl
theorem F_Board_asleep {v_memory v_line v_registers v_zero v_lets v_asleep v_beat v_stopped v_sent v_touched v_bend : V} : (F_Board v_memory v_line v_registers v_zero v_lets v_asleep v_beat v_stopped v_sent v_touched v_bend).lookup ("asleep" : Str) = some v_asleep := by kernel_rfl
theorem F_Board_put_asleep {v_memory v_line v_registers v_zero v_lets v_asleep v_beat v_stopped v_sent v_touched v_bend x_ : V} : putF ("asleep" : Str) x_ (F_Board v_memory v_line v_registers v_zero v_lets v_asleep v_beat v_stopped v_sent v_touched v_bend) = F_Board v_memory v_line v_registers v_zero v_lets x_ v_beat v_stopped v_sent v_touched v_bend := by kernel_rfl
theorem F_Board_beat {v_memory v_line v_registers v_zero v_lets v_asleep v_beat v_stopped v_sent v_touched v_bend : V} : (F_Board v_memory v_line v_registers v_zero v_lets v_asleep v_beat v_stopped v_sent v_touched v_bend).lookup ("beat" : Str) = some v_beat := by kernel_rfl
theorem F_Board_put_beat {v_memory v_line v_registers v_zero v_lets v_asleep v_beat v_stopped v_sent v_touched v_bend x_ : V} : putF ("beat" : Str) x_ (F_Board v_memory v_line v_registers v_zero v_lets v_asleep v_beat v_stopped v_sent v_touched v_bend) = F_Board v_memory v_line v_registers v_zero v_lets v_asleep x_ v_stopped v_sent v_touched v_bend := by kernel_rfl
theorem F_Board_stopped {v_memory v_line v_registers v_zero v_lets v_asleep v_beat v_stopped v_sent v_touched v_bend : V} : (F_Board v_memory v_line v_registers v_zero v_lets v_asleep v_beat v_stopped v_sent v_touched v_bend).lookup ("stopped" : Str) = some v_stopped := by kernel_rfl
theorem F_Board_put_stopped {v_memory v_line v_registers v_zero v_lets v_asleep v_beat v_stopped v_sent v_touched v_bend x_ : V} : putF ("stopped" : Str) x_ (F_Board v_memory v_line v_registers v_zero v_lets v_asleep v_beat v_stopped v_sent v_touched v_bend) = F_Board v_memory v_line v_registers v_zero v_lets v_asleep v_beat x_ v_sent v_touched v_bend := by kernel_rfl
theorem F_Board_sent {v_memory v_line v_registers v_zero v_lets v_asleep v_beat v_stopped v_sent v_touched v_bend : V} : (F_Board v_memory v_line v_registers v_zero v_lets v_asleep v_beat v_stopped v_sent v_touched v_bend).lookup ("sent" : Str) = some v_sent := by kernel_rfl
theorem F_Board_put_sent {v_memory v_line v_registers v_zero v_lets v_asleep v_beat v_stopped v_sent v_touched v_bend x_ : V} : putF ("sent" : Str) x_ (F_Board v_memory v_line v_registers v_zero v_lets v_asleep v_beat v_stopped v_sent v_touched v_bend) = F_Board v_memory v_line v_registers v_zero v_lets v_asleep v_beat v_stopped x_ v_touched v_bend := by kernel_rfl
theorem F_Board_touched {v_memory v_line v_registers v_zero v_lets v_asleep v_beat v_stopped v_sent v_touched v_bend : V} : (F_Board v_memory v_line v_registers v_zero v_lets v_asleep v_beat v_stopped v_sent v_touched v_bend).lookup ("touched" : Str) = some v_touched := by kernel_rfl
theorem F_Board_put_touched {v_memory v_line v_registers v_zero v_lets v_asleep v_beat v_stopped v_sent v_touched v_bend x_ : V} : putF ("touched" : Str) x_ (F_Board v_memory v_line v_registers v_zero v_lets v_asleep v_beat v_stopped v_sent v_touched v_bend) = F_Board v_memory v_line v_registers v_zero v_lets v_asleep v_beat v_stopped v_sent x_ v_bend := by kernel_rfl
theorem F_Board_bend {v_memory v_line v_registers v_zero v_lets v_asleep v_beat v_stopped v_sent v_touched v_bend : V} : (F_Board v_memory v_line v_registers v_zero v_lets v_asleep v_beat v_stopped v_sent v_touched v_bend).lookup ("bend" : Str) = some v_bend := by kernel_rfl
theorem F_Board_put_bend {v_memory v_line v_registers v_zero v_lets v_asleep v_beat v_stopped v_sent v_touched v_bend x_ : V} : putF ("bend" : Str) x_ (F_Board v_memory v_line v_registers v_zero v_lets v_asleep v_beat v_stopped v_sent v_touched v_bend) = F_Board v_memory v_line v_registers v_zero v_lets v_asleep v_beat v_stopped v_sent v_touched x_ := by kernel_rfl
abbrev q_Board (K : PySem.W.Frag) (p : Addr) (A : A_Board) (D : R_Board) : As := aC p (.ins (He.ga K "Board") A.dx_ (F_Board (.ref A.memory.p_) (.ref A.line) (.ref A.registers.p_) (.bl D.zero) (.bl D.lets) (.bl D.asleep) (.int D.beat) A.stopped (.ref A.sent) (.ref A.touched) (.int D.bend)))
abbrev O_Board (K : PySem.W.Frag) (p : Addr) (A : A_Board) (D : R_Board) : List As := [aC p (.ins (He.ga K "Board") A.dx_ (F_Board (.ref A.memory.p_) (.ref A.line) (.ref A.registers.p_) (.bl D.zero) (.bl D.lets) (.bl D.asleep) (.int D.beat) A.stopped (.ref A.sent) (.ref A.touched) (.int D.bend))), a_Memory K A.memory D.memory, aC A.line (.dK (lineK D.line)), a_Reg K A.registers D.registers, aV A.stopped D.stopped, aL A.sent D.sent, aL A.touched D.touched]
def a_Board (K : PySem.W.Frag) (A : A_Board) (D : R_Board) : As := aG (O_Board K A.p_ A D)
/-! ### a board told by its parts -/
def BDok (D : BD) : Prop := D.sent.length ≤ 1000000 ∧ D.tc.length ≤ 1000 ∧ D.m.fl.length = 512 ∧ D.m.ra.length = 256 ∧ D.m.pl.length = 6
instance (D : BD) : Decidable (BDok D) := by unfold BDok; infer_instance
abbrev O_B (K : PySem.W.Frag) (p : Addr) (A : BA) (D : BD) : List As := [aC p (.ins (He.ga K "Board") A.dx (F_Board (.ref A.m.p) (.ref A.ln) (.ref A.rg) (.bl D.zero) (.bl D.lets) (.bl D.asleep) (.int D.beat) A.st (.ref A.sn) (.ref A.tc) (.int D.bend))), aC A.ln (.dK (lineK D.ln)), aC A.rg (.dK (K_Reg (.int D.a) (.int D.b) (.int D.pc) (.int D.sp))), aV A.st D.stop, aW A.sn A.sv D.sent, aW A.tc A.tv D.tc, aC A.m.p (.ins (He.ga K "Memory") A.m.dx (F_Memory (.ref A.m.f) (.ref A.m.r) (.ref A.m.pl))), aL A.m.f D.m.fl, aL A.m.r D.m.ra, aL A.m.pl D.m.pl]
theorem Sep.opnB {S0 : List Addr} {H0 H : Hp} {L : List As} {K : PySem.W.Frag} {A : BA} {D : BD} (h : Sep S0 H0 H L) (i : Nat) (e : nth L i = some (aB K A D)) : BDok D ∧ Sep S0 H0 H (setN L i (O_B K A.p A D)) := by
  have B : BoardAt K H A D := h.get i e
  refine ⟨⟨B.ls, B.lt, B.mem.lf, B.mem.lr, B.mem.lp⟩, h.swap i e (M := O_B K A.p A D) (show Kp A.own A.own H H from Kp.refl _ _) ?_ (show A.own.Nodup from B.nd)⟩
  exact ⟨B.ob, B.ln, B.rg, im_stop B.st, ⟨B.sn, imms_of B.sent⟩, ⟨B.tc, imms_tc B.tch⟩, B.mem.ob, ⟨_, B.mem.fl, Imms.ofSc _⟩, ⟨_, B.mem.ra, Imms.ofSc _⟩, ⟨_, B.mem.pl, Imms.ofSc _⟩, trivial⟩
theorem tups_tc {H : Hp} : ∀ {ls : List V} {l : List (Str × Int)}, Imms H ls l → Tups H ls (tcT l)
  | _, _, .nil => .nil
  | _, _, .cons ⟨p, u, w, e, h, h1, h2⟩ r => .cons ⟨p, e, by rw [h, show u = _ from h1, show w = _ from h2]⟩ (tups_tc r)
theorem sc_ints {H : Hp} {vs : List V} {xs : List Int} (h : Imms H vs xs) : vs = xs.map V.int := Imms.sc h
theorem Sep.clsB {S0 : List Addr} {H0 H : Hp} {L : List As} {K : PySem.W.Frag} {p dx ln rg sn tc mp mdx mf mr mpl : Addr} {st : V} {D : BD} (h : Sep S0 H0 H (aC p (.ins (He.ga K "Board") dx (F_Board (.ref mp) (.ref ln) (.ref rg) (.bl D.zero) (.bl D.lets) (.bl D.asleep) (.int D.beat) st (.ref sn) (.ref tc) (.int D.bend))) :: aC ln (.dK (lineK D.ln)) :: aC rg (.dK (K_Reg (.int D.a) (.int D.b) (.int D.pc) (.int D.sp))) :: aV st D.stop :: aL sn D.sent :: aL tc D.tc ::
      aC mp (.ins (He.ga K "Memory") mdx (F_Memory (.ref mf) (.ref mr) (.ref mpl))) :: aL mf D.m.fl :: aL mr D.m.ra :: aL mpl D.m.pl :: L)) (ok : BDok D) : ∃ B : BA, Sep S0 H0 H (aB K (B.w p) D :: L) := by
  obtain ⟨o1, o2, o3, o4, ⟨sv, o5, i5⟩, ⟨tv, o6, i6⟩, o7, ⟨v8, o8, i8⟩, ⟨v9, o9, i9⟩, ⟨v10, o10, i10⟩, _⟩ := h.ok
  rw [sc_ints i8] at o8
  rw [sc_ints i9] at o9
  rw [sc_ints i10] at o10
  have nd := (h.frontN 10).2
  have hB : BoardAt K H ⟨p, dx, ln, rg, sn, tc, ⟨mp, mdx, mf, mr, mpl⟩, st, sv, tv⟩ D :=
    ⟨o1, o2, o3, o5, o6, stop_im o4, tups_of i5, tups_tc i6, ⟨o7, o8, o9, o10, ok.2.2.1, ok.2.2.2.1, ok.2.2.2.2⟩, nd, ok.1, ok.2.1⟩
  have e1 : ∀ X : As, nth (X :: L) 0 = some X := fun _ => rfl
  refine ⟨⟨p, dx, ln, rg, sn, tc, ⟨mp, mdx, mf, mr, mpl⟩, st, sv, tv⟩, ?_⟩
  have hc := h.clsN 10
  exact hc.put 0 (e1 _) (aB K ⟨p, dx, ln, rg, sn, tc, ⟨mp, mdx, mf, mr, mpl⟩, st, sv, tv⟩ D) (show Kp (owns _) _ H H from Kp.refl _ _) hB
/-- nothing of it was changed -/
theorem Sep.clsB0 {S0 : List Addr} {H0 H : Hp} {L : List As} {K : PySem.W.Frag} {A : BA} {D : BD} (h : Sep S0 H0 H (O_B K A.p A D ++ L)) (ok : BDok D) : Sep S0 H0 H (aB K A D :: L) := by
  obtain ⟨o1, o2, o3, o4, ⟨o5, i5⟩, ⟨o6, i6⟩, o7, ⟨v8, o8, i8⟩, ⟨v9, o9, i9⟩, ⟨v10, o10, i10⟩, _⟩ := h.ok
  rw [sc_ints i8] at o8
  rw [sc_ints i9] at o9
  rw [sc_ints i10] at o10
  have nd := (h.frontN 10).2
  have hB : BoardAt K H A D := ⟨o1, o2, o3, o5, o6, stop_im o4, tups_of i5, tups_tc i6, ⟨o7, o8, o9, o10, ok.2.2.1, ok.2.2.2.1, ok.2.2.2.2⟩, nd, ok.1, ok.2.1⟩
  have e1 : ∀ X : As, nth (X :: L) 0 = some X := fun _ => rfl
  have hc := h.clsN 10
  exact hc.put 0 (e1 _) (aB K A D) (show Kp (owns _) _ H H from Kp.refl _ _) hB
/-! a field as one of several targets -/
def gFld (K : PySem.W.Frag) (ta : TE) (f : Str) : TG := fun y σ H Q => ta σ H fun x H2 => ∃ a C dx fs, x = .ref a ∧ H2 a = some (.ins C dx fs) ∧ Cls K C ∧ NoAttr K C f ∧ fs.length < 1000 ∧ Q σ (upd H2 a (.ins C dx (putF f y fs)))
theorem pg_fld {X : Cx} {o : Expr} {f : Str} {pos' : Pos} {ta : TE} (ha : PE X o ta)
    (hh : ∀ v, assign (.Attribute o f pos') X.env v = (do
      let ov ← holding [v] (eval o X.env)
      standAt pos'.atName
      holding [v, ov] (setAttr ov f v)
      release [v, ov] []) := by intro _; rfl) : PG X (.Attribute o f pos') (gFld X.K ta f) := by
  refine ⟨fun pins s σ H v u Q I r h => ?_⟩
  rw [hh]
  refine wpAny_bind (wpAny_holding (thn (ha.run pins s σ H _ I h) fun ov s1 ⟨x, H2, I2, rx, a, C, dx, fs, ex, ea, c, n, l, q2⟩ => ?_))
  subst ex
  obtain rfl : ov = Value.ref a := rx
  refine wpAny_bind (wpAny_standAt (wpAny_bind (wpAny_holding (setattr_ok I2 ea c n l r fun s3 I3 => ?_))))
  exact wpAny_release ⟨σ, _, I3, q2⟩

/-! ### lists of things that are owned -/
section
variable {A D : Type} (v : A → V) (e : A → D → As)
def aOL (p : Addr) (as : List A) (ds : List D) : As where
  own := p :: owns (List.zipWith e as ds)
  ok := fun H => as.length = ds.length ∧ H p = some (.lst (as.map v)) ∧ oks H (List.zipWith e as ds) ∧ (p :: owns (List.zipWith e as ds)).Nodup
  st := fun ⟨h1, h2, h3, h4⟩ k t => ⟨h1, k p List.mem_cons_self _ h2, oks_st t h3 (fun b m => k b (List.mem_cons_of_mem _ m)), h4⟩
  al := fun ⟨_, h2, h3, _⟩ b m => (List.mem_cons.mp m).elim (fun z => by subst z; exact ⟨_, h2⟩) (oks_al h3 b)
  nd := fun h => h.2.2.2
/-- the same, one of them taken out -/
def aOH (p : Addr) (as : List A) (ds : List D) (i : Nat) : As where
  own := p :: owns (setN (List.zipWith e as ds) i [])
  ok := fun H => as.length = ds.length ∧ H p = some (.lst (as.map v)) ∧ oks H (setN (List.zipWith e as ds) i []) ∧ (p :: owns (setN (List.zipWith e as ds) i [])).Nodup
  st := fun ⟨h1, h2, h3, h4⟩ k t => ⟨h1, k p List.mem_cons_self _ h2, oks_st t h3 (fun b m => k b (List.mem_cons_of_mem _ m)), h4⟩
  al := fun ⟨_, h2, h3, _⟩ b m => (List.mem_cons.mp m).elim (fun z => by subst z; exact ⟨_, h2⟩) (oks_al h3 b)
  nd := fun h => h.2.2.2
variable {v e}
theorem zip_nth : ∀ {as : List A} {ds : List D} {i : Nat} {a : A} {d : D}, as[i]? = some a → ds[i]? = some d → nth (List.zipWith e as ds) i = some (e a d)
  | [], _, _, _, _, h, _ => by simp at h
  | _ :: _, [], _, _, _, _, h => by simp at h
  | x :: r, y :: q, 0, a, d, h1, h2 => by
    simp at h1 h2
    subst h1 h2; rfl
  | x :: r, y :: q, i + 1, a, d, h1, h2 => zip_nth (as := r) (ds := q) (i := i) (by simpa using h1) (by simpa using h2)
theorem zip_set : ∀ {as : List A} {ds : List D} {i : Nat} {a : A} {d : D}, i < as.length → i < ds.length → List.zipWith e (as.set i a) (ds.set i d) = setN (List.zipWith e as ds) i [e a d]
  | [], _, _, _, _, h, _ => by simp at h
  | _ :: _, [], _, _, _, _, h => by simp at h
  | x :: r, y :: q, 0, a, d, _, _ => rfl
  | x :: r, y :: q, i + 1, a, d, h1, h2 => by
    show e x y :: List.zipWith e (r.set i a) (q.set i d) = e x y :: setN (List.zipWith e r q) i [e a d]
    rw [zip_set (by simpa using h1) (by simpa using h2)]
theorem zip_app {as bs : List A} {ds cs : List D} (h : as.length = ds.length) : List.zipWith e (as ++ bs) (ds ++ cs) = List.zipWith e as ds ++ List.zipWith e bs cs := List.zipWith_append h
theorem setN_own {L M : List As} {i : Nat} {X : As} (h : nth L i = some X) (b : Addr) : b ∈ owns (setN L i M) ↔ b ∈ owns (setN L i []) ∨ b ∈ owns M := by
  obtain ⟨L1, L2, _, e2⟩ := nth_split h
  rw [e2, e2, owns_app, owns_app, owns_app, owns_app]
  simp only [List.mem_append, owns]
  constructor
  · rintro (z | z | z)
    · exact .inl (.inl z)
    · exact .inr z
    · exact .inl (.inr (.inr z))
  · rintro ((z | z | z) | z)
    · exact .inl z
    · cases z
    · exact .inr (.inr z)
    · exact .inr (.inl z)
theorem setN_same {L : List As} {i : Nat} {X : As} (h : nth L i = some X) : setN L i [X] = L := by
  obtain ⟨L1, L2, e1, e2⟩ := nth_split h
  rw [e2, e1]; rfl
theorem setN_oks {H : Hp} {L M : List As} {i : Nat} {X : As} (h : nth L i = some X) : oks H (setN L i M) ↔ oks H (setN L i []) ∧ oks H M := by
  obtain ⟨L1, L2, _, e2⟩ := nth_split h
  rw [e2, e2, oks_app, oks_app, oks_app, oks_app]
  constructor
  · rintro ⟨a, b, c⟩; exact ⟨⟨a, trivial, c⟩, b⟩
  · rintro ⟨⟨a, _, c⟩, b⟩; exact ⟨a, b, c⟩
theorem setN_nd {L M : List As} {i : Nat} {X : As} (h : nth L i = some X) : (owns (setN L i M)).Nodup ↔ (owns M ++ owns (setN L i [])).Nodup := by
  obtain ⟨L1, L2, _, e2⟩ := nth_split h
  rw [e2, e2, owns_app, owns_app, owns_app, owns_app]
  show _ ↔ (owns M ++ (owns L1 ++ ([] ++ owns L2))).Nodup
  rw [List.nil_append]
  have p : (owns L1 ++ (owns M ++ owns L2)).Perm (owns M ++ (owns L1 ++ owns L2)) := by
    rw [← List.append_assoc, ← List.append_assoc]
    exact List.Perm.append_right _ List.perm_append_comm
  exact p.nodup_iff
end
namespace Sep
section
variable {A D : Type} {v : A → V} {e : A → D → As} {S0 : List Addr} {H0 H H' : Hp} {L : List As} {p q : Addr} {as bs : List A} {ds cs : List D}
theorem olk (h : Sep S0 H0 H L) (i : Nat) (x : nth L i = some (aOL v e p as ds)) : H p = some (.lst (as.map v)) ∧ as.length = ds.length := by
  have := h.get i x
  exact ⟨this.2.1, this.1⟩
theorem ohk (h : Sep S0 H0 H L) (i : Nat) {j : Nat} (x : nth L i = some (aOH v e p as ds j)) : H p = some (.lst (as.map v)) ∧ as.length = ds.length := by
  have := h.get i x
  exact ⟨this.2.1, this.1⟩
theorem newO (h : Sep S0 H0 H L) (np : H p = none) : Sep S0 H0 (upd H p (.lst [])) (aOL v e p [] [] :: L) :=
  h.new np (aOL v e p [] []) rfl ⟨rfl, upd_same, trivial, by show [p].Nodup; simp⟩
theorem ofC (h : Sep S0 H0 H L) (i : Nat) (x : nth L i = some (aC p (.lst []))) : Sep S0 H0 H (setN L i [aOL v e p [] []]) :=
  h.put i x (aOL v e p [] []) (Kp.refl _ _) ⟨rfl, h.cel i x, trivial, by show [p].Nodup; simp⟩
theorem ofL (h : Sep S0 H0 H L) (i : Nat) {α : Type} [Imm α] (x : nth L i = some (aL p ([] : List α))) : Sep S0 H0 H (setN L i [aOL v e p [] []]) := by
  obtain ⟨vs, h1, h2⟩ := h.lst i x
  cases h2
  exact h.put i x (aOL v e p [] []) (Kp.refl _ _) ⟨rfl, h1, trivial, by show [p].Nodup; simp⟩
theorem clrO (h : Sep S0 H0 H (aOL v e p as ds :: L)) : Sep S0 H0 (upd H p (.lst [])) (aOL v e p [] [] :: L) := by
  obtain ⟨h1, h2, h3, h4⟩ := h.get 0 rfl
  exact h.put 0 rfl (aOL v e p [] []) ((Kp.upd h2 trivial List.mem_cons_self).sub fun b m => by rw [List.mem_singleton.mp (show b ∈ [p] from m)]; exact List.mem_cons_self) ⟨rfl, upd_same, trivial, by show [p].Nodup; simp⟩
/-- two in front told as one -/
theorem two {X Y Z : As} (h : Sep S0 H0 H (X :: Y :: L)) (k : Kp (X.own ++ Y.own) Z.own H H') (o : Z.ok H') : Sep S0 H0 H' (Z :: L) := by
  have h2 : Sep S0 H0 H (aG [X, Y] :: L) := h.cls (M := [X, Y])
  refine h2.put 0 rfl Z ?_ o
  show Kp (X.own ++ (Y.own ++ [])) Z.own H H'
  rw [List.append_nil]; exact k
theorem snocO (h : Sep S0 H0 H (aOL v e p as ds :: e a d :: L)) : Sep S0 H0 (upd H p (.lst (as.map v ++ [v a]))) (aOL v e p (as ++ [a]) (ds ++ [d]) :: L) := by
  obtain ⟨h1, h2, h3, h4⟩ := h.get 0 rfl
  have hx : (e a d).ok H := h.get 1 rfl
  have nd : (((aOL v e p as ds).own) ++ ((e a d).own ++ owns L)).Nodup := h.nd
  have z : List.zipWith e (as ++ [a]) (ds ++ [d]) = List.zipWith e as ds ++ [e a d] := zip_app h1
  have own2 : (aOL v e p (as ++ [a]) (ds ++ [d])).own = (aOL v e p as ds).own ++ (e a d).own := by
    show p :: owns (List.zipWith e (as ++ [a]) (ds ++ [d])) = p :: owns (List.zipWith e as ds) ++ (e a d).own
    rw [z, owns_app]
    show _ = p :: (owns (List.zipWith e as ds) ++ (e a d).own)
    rw [show owns [e a d] = (e a d).own ++ [] from rfl, List.append_nil]
  have k : Kp ((aOL v e p as ds).own ++ (e a d).own) (aOL v e p (as ++ [a]) (ds ++ [d])).own H (upd H p (.lst (as.map v ++ [v a]))) := by
    rw [own2]; exact Kp.upd h2 trivial (List.mem_append_left _ List.mem_cons_self)
  have pn : ∀ b, b ∈ owns (List.zipWith e as ds) ∨ b ∈ (e a d).own → b ≠ p := by
    rintro b hb rfl
    have nd2 : (b :: owns (List.zipWith e as ds) ++ ((e a d).own ++ owns L)).Nodup := nd
    rcases hb with z | z
    · exact (List.nodup_cons.mp h4).1 z
    · exact (nd_app.mp nd2).2.2 b List.mem_cons_self (List.mem_append_left _ z)
  refine h.two k ⟨by rw [List.length_append, List.length_append, h1]; rfl, by rw [List.map_append]; exact upd_same, ?_, ?_⟩
  · rw [z]
    refine oks_app.mpr ⟨oks_st k.tups h3 fun b m o ho => ?_, (e a d).st hx (fun b m o ho => ?_) k.tups, trivial⟩
    · rw [upd_ne (pn b (.inl m))]; exact ho
    · rw [upd_ne (pn b (.inr m))]; exact ho
  · show ((aOL v e p (as ++ [a]) (ds ++ [d])).own).Nodup
    rw [own2]
    rw [← List.append_assoc] at nd
    exact (nd_app.mp nd).1
theorem extO (h : Sep S0 H0 H (aOL v e p as ds :: aOL v e q bs cs :: L)) : Sep S0 H0 (upd H p (.lst (as.map v ++ bs.map v))) (aOL v e p (as ++ bs) (ds ++ cs) :: L) := by
  obtain ⟨h1, h2, h3, h4⟩ := h.get 0 rfl
  obtain ⟨g1, g2, g3, g4⟩ := h.get 1 rfl
  have nd : (((aOL v e p as ds).own) ++ ((aOL v e q bs cs).own ++ owns L)).Nodup := h.nd
  have z : List.zipWith e (as ++ bs) (ds ++ cs) = List.zipWith e as ds ++ List.zipWith e bs cs := zip_app h1
  have own2 : (aOL v e p (as ++ bs) (ds ++ cs)).own = (aOL v e p as ds).own ++ owns (List.zipWith e bs cs) := by
    show p :: owns (List.zipWith e (as ++ bs) (ds ++ cs)) = p :: owns (List.zipWith e as ds) ++ owns (List.zipWith e bs cs)
    rw [z, owns_app]; rfl
  have k : Kp ((aOL v e p as ds).own ++ (aOL v e q bs cs).own) (aOL v e p (as ++ bs) (ds ++ cs)).own H (upd H p (.lst (as.map v ++ bs.map v))) := by
    rw [own2]
    refine (Kp.upd h2 trivial (List.mem_append_left _ List.mem_cons_self)).sub fun b m => ?_
    rcases List.mem_append.mp m with z | z
    · exact List.mem_append_left _ z
    · exact List.mem_append_right _ (List.mem_cons_of_mem _ z)
  have pn : ∀ b, b ∈ owns (List.zipWith e as ds) ∨ b ∈ owns (List.zipWith e bs cs) → b ≠ p := by
    rintro b hb rfl
    have nd2 : (b :: owns (List.zipWith e as ds) ++ ((aOL v e q bs cs).own ++ owns L)).Nodup := nd
    rcases hb with z | z
    · exact (List.nodup_cons.mp h4).1 z
    · exact (nd_app.mp nd2).2.2 b List.mem_cons_self (List.mem_append_left _ (List.mem_cons_of_mem _ z))
  refine h.two k ⟨by rw [List.length_append, List.length_append, h1, g1], by rw [List.map_append]; exact upd_same, ?_, ?_⟩
  · rw [z]
    refine oks_app.mpr ⟨oks_st k.tups h3 fun b m o ho => ?_, oks_st k.tups g3 fun b m o ho => ?_⟩
    · rw [upd_ne (pn b (.inl m))]; exact ho
    · rw [upd_ne (pn b (.inr m))]; exact ho
  · show ((aOL v e p (as ++ bs) (ds ++ cs)).own).Nodup
    rw [own2]
    rw [← List.append_assoc] at nd
    have n1 := (nd_app.mp nd).1
    obtain ⟨a1, a2, a3⟩ := nd_app.mp n1
    have a2 : (q :: owns (List.zipWith e bs cs)).Nodup := a2
    exact nd_app.mpr ⟨a1, (List.nodup_cons.mp a2).2, fun b m1 m2 => a3 b m1 (List.mem_cons_of_mem _ m2)⟩
/-- one of them taken out -/
theorem brwO (h : Sep S0 H0 H (aOL v e p as ds :: L)) {i : Nat} {a : A} {d : D} (ha : as[i]? = some a) (hd : ds[i]? = some d) : Sep S0 H0 H (e a d :: aOH v e p as ds i :: L) := by
  obtain ⟨h1, h2, h3, h4⟩ := h.get 0 rfl
  have x := zip_nth (e := e) ha hd
  have e1 := setN_same x
  have hk : oks H (setN (List.zipWith e as ds) i []) ∧ oks H [e a d] := (setN_oks x).mp (by rw [e1]; exact h3)
  have n1 : (owns [e a d] ++ owns (setN (List.zipWith e as ds) i [])).Nodup := (setN_nd x).mp (by rw [e1]; exact (List.nodup_cons.mp h4).2)
  have n2 : p ∉ owns [e a d] ++ owns (setN (List.zipWith e as ds) i []) := fun m => by
    refine (List.nodup_cons.mp h4).1 ?_
    rw [← e1]
    exact (setN_own x p).mpr ((List.mem_append.mp m).symm)
  have nh : (p :: owns (setN (List.zipWith e as ds) i [])).Nodup := List.nodup_cons.mpr ⟨fun m => n2 (List.mem_append_right _ m), (nd_app.mp n1).2.1⟩
  have eo : owns [e a d, aOH v e p as ds i] = (e a d).own ++ (p :: owns (setN (List.zipWith e as ds) i [])) := by
    show (e a d).own ++ ((p :: owns (setN (List.zipWith e as ds) i [])) ++ []) = _
    rw [List.append_nil]
  have e0 : owns [e a d] = (e a d).own := by show (e a d).own ++ [] = _; rw [List.append_nil]
  refine h.swap 0 rfl (M := [e a d, aOH v e p as ds i]) ((Kp.refl _ _).sub fun b m => ?_) ⟨hk.2.1, ⟨h1, h2, hk.1, nh⟩, trivial⟩ ?_
  · rw [eo] at m
    show b ∈ p :: owns (List.zipWith e as ds)
    rcases List.mem_append.mp m with z | z
    · refine List.mem_cons_of_mem _ ?_
      rw [← e1]
      exact (setN_own x b).mpr (.inr (by rw [e0]; exact z))
    · rcases List.mem_cons.mp z with y | y
      · rw [y]; exact List.mem_cons_self
      · refine List.mem_cons_of_mem _ ?_
        rw [← e1]
        exact (setN_own x b).mpr (.inl y)
  · rw [eo]
    rw [e0] at n1 n2
    refine nd_app.mpr ⟨(nd_app.mp n1).1, nh, fun b m1 m2 => ?_⟩
    rcases List.mem_cons.mp m2 with y | y
    · exact n2 (List.mem_append_left _ (y ▸ m1))
    · exact (nd_app.mp n1).2.2 b m1 y
/-- and given back -/
theorem retO (h : Sep S0 H0 H (e a' d' :: aOH v e p as ds i :: L)) {a : A} {d : D} (ha : as[i]? = some a) (hd : ds[i]? = some d) (hv : v a' = v a) : Sep S0 H0 H (aOL v e p (as.set i a') (ds.set i d') :: L) := by
  have hx : (e a' d').ok H := h.get 0 rfl
  obtain ⟨h1, h2, h3, h4⟩ := h.get 1 rfl
  have ia := (List.getElem?_eq_some_iff.mp ha).1
  have id := (List.getElem?_eq_some_iff.mp hd).1
  have x := zip_nth (e := e) ha hd
  have z := zip_set (e := e) (a := a') (d := d') ia id
  have e0 : owns [e a' d'] = (e a' d').own := by show (e a' d').own ++ [] = _; rw [List.append_nil]
  have nd : ((e a' d').own ++ ((p :: owns (setN (List.zipWith e as ds) i [])) ++ owns L)).Nodup := h.nd
  have mv : (as.set i a').map v = as.map v := by
    rw [List.map_set, hv]
    refine List.ext_getElem? fun j => ?_
    rw [List.getElem?_set]
    by_cases c : i = j
    · subst c
      rw [if_pos rfl, List.length_map, if_pos ia, List.getElem?_map, ha]; rfl
    · rw [if_neg c]
  have nn : (p :: owns (List.zipWith e (as.set i a') (ds.set i d'))).Nodup := by
    rw [z]
    refine List.nodup_cons.mpr ⟨fun m => ?_, (setN_nd x).mpr ?_⟩
    · rcases (setN_own x p).mp m with y | y
      · exact (List.nodup_cons.mp h4).1 y
      · rw [e0] at y
        exact (nd_app.mp nd).2.2 p y (List.mem_append_left _ List.mem_cons_self)
    · rw [e0]
      exact nd_app.mpr ⟨(nd_app.mp nd).1, (List.nodup_cons.mp h4).2, fun b m1 m2 => (nd_app.mp nd).2.2 b m1 (List.mem_append_left _ (List.mem_cons_of_mem _ m2))⟩
  refine h.two ((Kp.refl _ _).sub fun b m => ?_) ⟨by rw [List.length_set, List.length_set]; exact h1, by rw [mv]; exact h2, by rw [z]; exact (setN_oks x).mpr ⟨h3, hx, trivial⟩, nn⟩
  have m : b ∈ p :: owns (List.zipWith e (as.set i a') (ds.set i d')) := m
  show b ∈ (e a' d').own ++ (p :: owns (setN (List.zipWith e as ds) i []))
  rw [z] at m
  rcases List.mem_cons.mp m with y | y
  · rw [y]; exact List.mem_append_right _ List.mem_cons_self
  · rcases (setN_own x b).mp y with q | q
    · exact List.mem_append_right _ (List.mem_cons_of_mem _ q)
    · rw [e0] at q; exact List.mem_append_left _ q
theorem retO0 (h : Sep S0 H0 H (e a d :: aOH v e p as ds i :: L)) (ha : as[i]? = some a) (hd : ds[i]? = some d) : Sep S0 H0 H (aOL v e p as ds :: L) := by
  have := h.retO ha hd rfl
  have ea : as.set i a = as := List.ext_getElem? fun j => by
    rw [List.getElem?_set]
    by_cases c : i = j
    · subst c; rw [if_pos rfl, if_pos (List.getElem?_eq_some_iff.mp ha).1, ha]
    · rw [if_neg c]
  have ed : ds.set i d = ds := List.ext_getElem? fun j => by
    rw [List.getElem?_set]
    by_cases c : i = j
    · subst c; rw [if_pos rfl, if_pos (List.getElem?_eq_some_iff.mp hd).1, hd]
    · rw [if_neg c]
  rwa [ea, ed] at this
end
end Sep
theorem ol_at {A D : Type} {v : A → V} {as : List A} {ds : List D} (hl : as.length = ds.length) {i : Int} {d : D} (h : atI ds i = some d) : ∃ j a, as[j]? = some a ∧ ds[j]? = some d ∧ atI (as.map v) i = some (v a) ∧ ixN ds.length i = some j := by
  unfold atI at h ⊢
  cases hj : ixN ds.length i with
  | none => rw [hj] at h; cases h
  | some j =>
    rw [hj] at h
    have h : ds[j]? = some d := h
    have ij := (List.getElem?_eq_some_iff.mp h).1
    have e1 := List.getElem?_eq_getElem (l := as) (i := j) (by omega)
    refine ⟨j, as[j]'(by omega), e1, h, ?_, rfl⟩
    have e2 : ixN (as.map v).length i = some j := by rw [List.length_map, hl]; exact hj
    rw [e2]
    show (as.map v)[j]? = _
    rw [List.getElem?_map, e1]; rfl
theorem ol_nth {A : Type} {v : A → V} {as : List A} {i : Nat} {y : V} (h : (as.map v)[i]? = some y) : ∃ a, as[i]? = some a ∧ v a = y := by
  rw [List.getElem?_map] at h
  exact Option.map_eq_some_iff.mp h
theorem atI_range {α : Type} {xs : List α} {i : Nat} {d : α} (h : atI xs (0 + (i : Int)) = some d) : xs[i]? = some d := by
  unfold atI ixN at h
  rw [if_pos (by omega)] at h
  by_cases c : (0 + (i : Int)) < (xs.length : Int)
  · rw [if_pos c] at h
    have h : xs[(0 + (i : Int)).toNat]? = some d := h
    rwa [show (0 + (i : Int)).toNat = i by omega] at h
  · rw [if_neg c] at h; cases h
/-! ranges by steps -/
def rangeC (lo c : Int) (n : Nat) : List Int := (List.range n).map fun (k : Nat) => lo + (k : Int) * c
theorem rangeC_get {lo c : Int} {n i : Nat} (h : i < n) : (rangeC lo c n)[i]? = some (lo + (i : Int) * c) := by
  unfold rangeC
  rw [List.getElem?_map, List.getElem?_range h]; rfl
theorem rangeC_len {lo c : Int} {n : Nat} : (rangeC lo c n).length = n := by unfold rangeC; rw [List.length_map, List.length_range]
theorem for_rangeCN {lo c : Int} {n : Nat} {g : TG} {tb : TS} {nx : L2.St → Hp → Prop} {rt : VK} {σ : L2.St} {H : Hp} (Pv : Nat → L2.St → Hp → Prop) (h0 : Pv 0 σ H)
    (hs : ∀ i σ H, i < n → Pv i σ H → g (.int (lo + (i : Nat) * c)) σ H fun σ2 H2 => tb { nx := Pv (i + 1), rt := rt, bk := nx, ct := Pv (i + 1) } σ2 H2) (hd : ∀ σ H, Pv n σ H → nx σ H) :
    ∃ W : Nat → Nat → L2.St → Hp → Prop, (∃ m, W 0 m σ H) ∧ ∀ i m σ H, W i m σ H →
      ((Itc lo c n).stop i H ∧ nx σ H) ∨ ((Itc lo c n).go i H ∧ ∃ N : L2.St → Hp → Prop, (∀ σ' H', N σ' H' → ∃ m', m' < m ∧ W (i + 1) m' σ' H') ∧ ∀ x H', (Itc lo c n).yld i H x H' → g x σ H' fun σ2 H2 => tb { nx := N, rt := rt, bk := nx, ct := N } σ2 H2) :=
  for_rangeC (D := { nx := nx, rt := rt, bk := nx, ct := nx }) Pv h0 hs hd
theorem lc_rangeC {lo c : Int} {n : Nat} {g : TG} {tt : TT} {te : TE} {vs : List Nat} {σ : L2.St} {H1 : Hp} {D : Addr} {Qd : Hp → Prop} (Pv : Nat → Hp → Prop) (h0 : Pv 0 (upd H1 D (.lst [])))
    (hs : ∀ j G, j < n → Pv j G → g (.int (lo + (j : Nat) * c)) (wipe σ vs) G fun σ2 H2 => wipe σ2 vs = wipe σ vs ∧ tt σ2 H2 fun b H3 =>
      if b = true then te σ2 H3 fun y H4 => ∃ ac, H4 D = some (.lst ac) ∧ ac.length < sizeLine ∧ Pv (j + 1) (upd H4 D (.lst (ac ++ [y]))) else Pv (j + 1) H3) (hd : ∀ G, Pv n G → Qd G) :
    ∃ W : Nat → Nat → Hp → Prop, (∃ m, W 0 m (upd H1 D (.lst []))) ∧ ∀ j q G, W j q G →
      ((Itc lo c n).stop j G ∧ Qd G) ∨ ((Itc lo c n).go j G ∧ ∃ Nx : Hp → Prop, (∀ H', Nx H' → ∃ m', m' < q ∧ W (j + 1) m' H') ∧ ∀ x H', (Itc lo c n).yld j G x H' → g x (wipe σ vs) H' fun σ2 H2 => wipe σ2 vs = wipe σ vs ∧ tt σ2 H2 fun b H3 =>
        if b = true then te σ2 H3 fun y H4 => ∃ ac, H4 D = some (.lst ac) ∧ ac.length < sizeLine ∧ Nx (upd H4 D (.lst (ac ++ [y]))) else Nx H3) := by
  refine ⟨fun j q G => q = n - j ∧ j ≤ n ∧ Pv j G, ⟨n, (Nat.sub_zero n).symm, Nat.zero_le _, h0⟩, ?_⟩
  rintro j q G ⟨rfl, hj, pj⟩
  by_cases lt : j < n
  · refine .inr ⟨lt, Pv (j + 1), fun G' p' => ⟨n - (j + 1), by omega, rfl, lt, p'⟩, fun x G' yz => ?_⟩
    obtain ⟨e1, e2⟩ := yz
    subst e1 e2
    exact hs j _ lt pj
  · have ej : j = n := by omega
    subst ej
    exact .inl ⟨show _ ≤ _ from Nat.le_refl _, hd _ pj⟩
theorem Sep.olNil {A D : Type} {v : A → V} {e : A → D → As} {S0 : List Addr} {H0 H : Hp} {L : List As} {p : Addr} {as : List A} {ds : List D} (h : Sep S0 H0 H L) (i : Nat) (x : nth L i = some (aOL v e p as ds)) (hd : ds = []) : Sep S0 H0 H (setN L i [aC p (.lst [])]) := by
  obtain ⟨h1, h2, _, _⟩ := h.get i x
  subst hd
  have : as = [] := List.length_eq_zero_iff.mp h1
  subst this
  exact h.put i x (aC p (.lst [])) ((Kp.refl _ _).sub fun b m => by rw [List.mem_singleton.mp (show b ∈ [p] from m)]; exact List.mem_cons_self) h2
theorem sl_listK {X : Cx} {K : PySem.W.Frag} (hK : X.K = K) : SlR X (rSlL K) := by subst hK; exact sl_list
theorem op_neDK {X : Cx} {K : PySem.W.Frag} (hK : X.K = K) (hu : X.A.units + 64 < cLine) : OpR X (compareOp .NotEq) (rNeD K) := by subst hK; exact op_neD hu
theorem op_eqDK {X : Cx} {K : PySem.W.Frag} (hK : X.K = K) (hu : X.A.units + 64 < cLine) : OpR X (compareOp .Eq) (rEqD K) := by subst hK; exact op_eqD hu

/-! ### lists of boards, lists of records that share a part -/
theorem Sep.ol1 {A D : Type} {v : A → V} {e : A → D → As} {S0 : List Addr} {H0 H : Hp} {L : List As} {p : Addr} {a : A} {d : D} (h : Sep S0 H0 H (aC p (.lst [v a]) :: e a d :: L)) : Sep S0 H0 H (aOL v e p [a] [d] :: L) := by
  have hp : H p = some (.lst [v a]) := h.cel 0 rfl
  have hx : (e a d).ok H := h.get 1 rfl
  have nd : ((p :: []) ++ ((e a d).own ++ owns L)).Nodup := h.nd
  have eo : owns (List.zipWith e [a] [d]) = (e a d).own := by show (e a d).own ++ [] = _; rw [List.append_nil]
  have n2 : (p :: owns (List.zipWith e [a] [d])).Nodup := by
    rw [eo]
    rw [← List.append_assoc] at nd
    exact (nd_app.mp nd).1
  refine h.two (Z := aOL v e p [a] [d]) ((Kp.refl _ _).sub fun b m => ?_) ⟨rfl, hp, ⟨hx, trivial⟩, n2⟩
  have m : b ∈ p :: owns (List.zipWith e [a] [d]) := m
  rw [eo] at m
  show b ∈ (p :: []) ++ (e a d).own
  rcases List.mem_cons.mp m with y | y
  · rw [y]; exact List.mem_append_left _ List.mem_cons_self
  · exact List.mem_append_right _ y
abbrev bdV (A : BA) : V := .ref A.p
abbrev aOBd (K : PySem.W.Frag) : Addr → List BA → List BD → As := aOL bdV (aB K)
abbrev aOBdH (K : PySem.W.Frag) : Addr → List BA → List BD → Nat → As := aOH bdV (aB K)

def m__law_digits_l1  (k48 : Int) (s47 : Int × Int × (List Int)) : Option (Int × Int × (List Int)) :=
  (some ((((s47.2.1 * (48271 : Int)) + ((30103 : Int) * k48)) + (11 : Int)) % (2147483647 : Int))).bind fun n60 =>
  if CMul n60 ((n60 / (1009 : Int)) + (69621 : Int)) then
  (some ((n60 * ((n60 / (1009 : Int)) + (69621 : Int))) % (2147483629 : Int))).bind fun n62 =>
  if ((0 : Int) < s47.1) then
    (snoc s47.2.2 (s47.1 % (1009 : Int))).bind fun y73 =>
    some (s47.1 / (1009 : Int), n62, y73)
  else
    (snoc s47.2.2 ((n62 / (7 : Int)) % (1009 : Int))).bind fun y81 =>
    some (s47.1, n62, y81) else none
def m__law_digits (cell_here_ : Int) (many_ : Int) : Option ((List Int)) :=
  (if (((10 : Int) ^ Int.toNat (18 : Int)) ≤ cell_here_) then
    some cell_here_
  else
    some (0 : Int)).bind fun (j11 : Int) =>
  (some (cell_here_ % (2147483647 : Int))).bind fun n20 =>
  if -(2 ^ 62) ≤ many_ ∧ many_ < 2 ^ 62 then
  (forS (m__law_digits_l1) (rangeL 0 (Int.toNat many_)) (j11, n20, ([] : (List Int)))).bind fun (s47 : Int × Int × (List Int)) =>
  some s47.2.2 else none
section
variable {P : Program} {w : World} {K : PySem.W.Frag} {mg : Str → Option Value} {base : Heap}
def sp__law_digits (K : PySem.W.Frag) : Sp := fun vs H Q E_ => ∃ (cell_here_ : Int) (many_ : Int) (r_ : (List Int)), vs = [(.int cell_here_), (.int many_)] ∧ (oks H [] ∧ (owns []).Nodup ∧ m__law_digits cell_here_ many_ = some r_ ∧ (∀ (H' : Hp) (pz : Addr), Sep (owns []) H H' [aL pz r_] → Q (.ref pz) H'))
abbrev N__law_digits : List Str := ["_law_cell_here", "_law_many", "_law_row", "_law_rest", "_law_number", "_law_k"]
theorem sc__law_digits : FnScope N__law_digits ["_law_cell_here", "_law_many"] (defScope s__law_digits) := ⟨rfl, rfl, rfl, by decide +kernel, rfl, by decide +kernel, by decide +kernel⟩
theorem ok__law_digits (T : Txt K mg) : Ok P w K mg base CX0 1 (He.fAd K ("_law_digits", none)) ["_law_cell_here", "_law_many"] (sp__law_digits K) := by
  obtain ⟨fd, F⟩ := T.d__law_digits
  refine ⟨fd, F.ok sc__law_digits (fun vs H Q E h => by obtain ⟨cell_here_, many_, r_, rfl, _⟩ := h; rfl) (fun cdv A_ outer s_ H vs Q E hr h => ?_), F.bindsN (fun _ _ _ _ _ _ us hl => match us, hl with | [_, _], _ => rfl), F.kp⟩
  obtain ⟨cell_here_, many_, r_, rfl, h⟩ := h
  have hu := hu_of hr
  refine ⟨_, PSs.nox (pss_cons (ps_set (i := 2) sc__law_digits.nd rfl (.inl rfl) (pe_lst pa_nil))
  (pss_cons (ps_set (i := 3) sc__law_digits.nd rfl (.inl rfl) pe_int)
  (C8.pss_cut (ps_if (pt_cmpR op_ge (pv 0) (pe_op op_pow pe_int pe_int) (nomark _)) (pss_one (ps_set (i := 3) sc__law_digits.nd rfl (.inl rfl) (pv 0))) pss_nil)
  (pss_cons (ps_set (i := 4) sc__law_digits.nd rfl (.inl rfl) (pe_op op_mod (pv 0) pe_int))
  (pss_cons (ps_for PassesOwn.never rfl (pi_range1 (by rfl) T.f_range (pa_cons (pv 1) pa_nil)) (pg_name (i := 5) sc__law_digits.nd rfl (.inl rfl)) (pss_cons (ps_set (i := 4) sc__law_digits.nd rfl (.inl rfl) (pe_op op_mod (pe_op op_add (pe_op op_add (pe_op op_mul (pv 4) pe_int) (pe_op op_mul pe_int (pv 5))) pe_int) pe_int))
    (pss_cons (ps_set (i := 4) sc__law_digits.nd rfl (.inl rfl) (pe_op op_mod (pe_op op_mul (pv 4) (pe_op op_add (pe_op op_fdiv (pv 4) pe_int) pe_int)) pe_int))
    (pss_one (ps_if (pt_cmpR op_gt (pv 3) pe_int (nomark _)) (pss_cons (ps_expr (pe_bm PySem.F.plainAttrs_list PySem.F.slot_list_append PySem.F.type_list_append mt_append (pv 2) (pa_cons (pe_op op_mod (pv 3) pe_int) pa_nil)))
      (pss_one (ps_set (i := 3) sc__law_digits.nd rfl (.inl rfl) (pe_op op_fdiv (pv 3) pe_int)))) (pss_one (ps_expr (pe_bm PySem.F.plainAttrs_list PySem.F.slot_list_append PySem.F.type_list_append mt_append (pv 2) (pa_cons (pe_op op_mod (pe_op op_fdiv (pv 4) pe_int) pe_int) pa_nil)))))))))
  (pss_one (ps_ret (pv 2)))))))), ?_⟩
  obtain ⟨hp1, hp2, hm, q⟩ := h
  have hs := Sep.pre (L := []) ⟨hp1, hp2⟩
  unfold m__law_digits at hm
  clear hp1 hp2
  refine ⟨(by show 0 ≤ sizeLine; decide), fun p1 n2 => ?_⟩
  try dsimp only
  generalize ee_ : upd H p1 _ = H3
  replace hs := (hs.newL (ys := (([] : (List Int)) : (List Int))) n2 (.nil)).cast ee_
  clear ee_
  obtain ⟨j11, es12, hm⟩ := bnd hm
  refine ⟨fun σ' H13 => Sep (owns []) H H13 [aL p1 (([] : (List Int)) : (List Int))] ∧ σ' = [some (.int cell_here_), some (.int many_), some (.ref p1), some (.int j11), none, none], ?_, ?_⟩
  · have hm := es12
    try dsimp only [tNext, gName]
    try with_reducible refine iteF ?_
    refine if_use hs (b := decide ((((10 : Int) ^ Int.toNat (18 : Int)) ≤ cell_here_))) ?_ ?_
    · skip
      refine fun H16 hs Q_ hQ17 => ?_
      refine ⟨_, rfl, _, _, rfl, rfl, ⟨by decide, by decide, by decide⟩, _, _, rfl, rfl, _, rfl, ?_⟩
      exact hQ17 _ (hs.tl 0)
    intro H19 hs
    refine iteD (fun c18 => ?_) (fun c18 => ?_)
    · replace hm := ift c18 hm
      refine ⟨_, rfl, ?_⟩
      replace hs : Sep (owns []) H H19 [aL p1 (([] : (List Int)) : (List Int))] := hs.tk 1
      obtain rfl := Option.some.inj hm
      exact ⟨hs, rfl⟩
    · replace hm := ife c18 hm
      replace hs : Sep (owns []) H H19 [aL p1 (([] : (List Int)) : (List Int))] := hs.tk 1
      obtain rfl := Option.some.inj hm
      exact ⟨hs, rfl⟩
  rintro σ' H13 ⟨hs, rfl⟩
  refine ⟨_, rfl, _, _, rfl, rfl, (show (0 : Int) < (2147483647 : Int) by decide), ?_⟩
  obtain ⟨n20, en20, hm⟩ := bnd hm
  try dsimp only
  rw [Option.some.inj en20]
  obtain ⟨g21, hm⟩ := gd hm
  obtain ⟨z49, eL50, hm⟩ := bnd hm
  replace hs : Sep (owns []) H H13 [aL p1 (([] : (List Int)) : (List Int))] := hs.tk 1
  refine ⟨_, rfl, _, rfl, g21.1, g21.2, for_rangeN (lo := (0 : Int)) (n := (Int.toNat many_)) (fun i55 σ57 H56 => ∃ (s47 : Int × Int × (List Int)) (o54 : Option V), forS (m__law_digits_l1) ((rangeL 0 (Int.toNat many_)).drop i55) s47 = some z49 ∧ Sep (owns []) H H56 [aL p1 s47.2.2] ∧ σ57 = [some (.int cell_here_), some (.int many_), some (.ref p1), some (.int s47.1), some (.int s47.2.1), o54]) ⟨(j11, n20, ([] : (List Int))), _, eL50, hs, rfl⟩ ?_ ?_⟩
  · rintro i55 σ57 H56 hi58 ⟨s47, o54, hf51, hs, rfl⟩
    obtain ⟨cN52, hm, hf51⟩ := forS_s (range_get hi58) hf51
    generalize hk_ : (0 : Int) + ((i55 : Nat) : Int) = k48 at hm ⊢
    unfold m__law_digits_l1 at hm
    refine ⟨_, rfl, _, _, rfl, rfl, .inr ⟨by decide, by decide⟩, _, rfl, _, _, rfl, rfl, .inl ⟨by decide, by decide⟩, _, _, rfl, rfl, _, _, rfl, rfl, _, _, rfl, rfl, (show (0 : Int) < (2147483647 : Int) by decide), ?_⟩
    obtain ⟨n60, en60, hm⟩ := bnd hm
    try dsimp only
    rw [Option.some.inj en60]
    obtain ⟨g61, hm⟩ := gd hm
    refine ⟨_, rfl, _, rfl, _, _, rfl, rfl, ⟨by decide, by decide⟩, _, _, rfl, rfl, _, _, rfl, rfl, g61, _, _, rfl, rfl, (show (0 : Int) < (2147483629 : Int) by decide), ?_⟩
    obtain ⟨n62, en62, hm⟩ := bnd hm
    try dsimp only
    rw [Option.some.inj en62]
    try dsimp only [tNext, gName]
    try with_reducible refine iteF ?_
    refine if_use hs (b := decide (((0 : Int) < s47.1))) ?_ ?_
    · skip
      refine fun H65 hs Q_ hQ66 => ?_
      refine ⟨_, rfl, _, _, rfl, rfl, _, rfl, ?_⟩
      exact hQ66 _ (hs.tl 0)
    intro H68 hs
    refine iteD (fun c67 => ?_) (fun c67 => ?_)
    · replace hm := ift c67 hm
      have f69 := (hs.lst 0 rfl).choose_spec.1
      obtain ⟨y73, ey73, hm⟩ := bnd hm
      obtain ⟨vs70, hl71, hv72⟩ := hs.lst 0 rfl
      obtain ⟨g74, e75⟩ := snoc_eq ey73
      refine ⟨_, rfl, .inl ⟨rfl, _, SqL.of f69⟩, _, rfl, _, _, rfl, rfl, (show (0 : Int) < (1009 : Int) by decide), _, _, _, rfl, rfl, hl71, small_ (by have := hv72.length; omega), ?_⟩
      try dsimp only
      generalize ee_ : upd H68 p1 _ = H76
      replace hs := (hs.putL (ys := y73) 0 rfl hl71 (by rw [e75]; exact hv72.snoc imI)).cast ee_
      clear ee_
      refine ⟨_, rfl, _, _, rfl, rfl, ⟨by decide, by decide⟩, ?_⟩
      replace hs : Sep (owns []) H H76 [aL p1 y73] := hs.tk 1
      obtain rfl := Option.some.inj hm
      exact ⟨(s47.1 / (1009 : Int), n62, y73), _, hf51, hs, rfl⟩
    · replace hm := ife c67 hm
      have f77 := (hs.lst 0 rfl).choose_spec.1
      obtain ⟨y81, ey81, hm⟩ := bnd hm
      obtain ⟨vs78, hl79, hv80⟩ := hs.lst 0 rfl
      obtain ⟨g82, e83⟩ := snoc_eq ey81
      refine ⟨_, rfl, .inl ⟨rfl, _, SqL.of f77⟩, _, rfl, _, _, rfl, rfl, ⟨by decide, by decide⟩, _, _, rfl, rfl, (show (0 : Int) < (1009 : Int) by decide), _, _, _, rfl, rfl, hl79, small_ (by have := hv80.length; omega), ?_⟩
      try dsimp only
      generalize ee_ : upd H68 p1 _ = H84
      replace hs := (hs.putL (ys := y81) 0 rfl hl79 (by rw [e83]; exact hv80.snoc imI)).cast ee_
      clear ee_
      replace hs : Sep (owns []) H H84 [aL p1 y81] := hs.tk 1
      obtain rfl := Option.some.inj hm
      exact ⟨(s47.1, n62, y81), _, hf51, hs, rfl⟩
  rintro σ57 H56 ⟨s47, o54, hf51, hs, rfl⟩
  have ez_ := forS_e (Nat.le_of_eq range_len) hf51
  subst ez_
  refine ⟨_, rfl, ?_⟩
  replace hs : Sep (owns []) H H56 [aL p1 s47.2.2] := hs.tk 1
  obtain rfl := Option.some.inj hm
  exact q H56 p1 hs
end

def m__law_cell (script_ : List Int) (k_ : Int) : Option (Int) :=
  if (k_ < (script_.length : Int)) then
    (atI script_ k_).bind fun x9 =>
    some x9
  else
    some (k_ + (1 : Int))
section
variable {P : Program} {w : World} {K : PySem.W.Frag} {mg : Str → Option Value} {base : Heap}
def sp__law_cell (K : PySem.W.Frag) : Sp := fun vs H Q E_ => ∃ (pscript_ : Addr) (script_ : List Int) (k_ : Int) (r_ : Int), vs = [.ref pscript_, (.int k_)] ∧ (SqL K H pscript_ (script_.map V.int) ∧ oks H [] ∧ (owns []).Nodup ∧ m__law_cell script_ k_ = some r_ ∧ (∀ (H' : Hp) , Sep (owns []) H H' [] → Q (.int r_) H'))
abbrev N__law_cell : List Str := ["_law_script", "_law_k"]
theorem sc__law_cell : FnScope N__law_cell ["_law_script", "_law_k"] (defScope s__law_cell) := ⟨rfl, rfl, rfl, by decide +kernel, rfl, by decide +kernel, by decide +kernel⟩
theorem ok__law_cell (T : Txt K mg) : Ok P w K mg base CX0 1 (He.fAd K ("_law_cell", none)) ["_law_script", "_law_k"] (sp__law_cell K) := by
  obtain ⟨fd, F⟩ := T.d__law_cell
  refine ⟨fd, F.ok sc__law_cell (fun vs H Q E h => by obtain ⟨pscript_, script_, k_, r_, rfl, _⟩ := h; rfl) (fun cdv A_ outer s_ H vs Q E hr h => ?_), F.bindsN (fun _ _ _ _ _ _ us hl => match us, hl with | [_, _], _ => rfl), F.kp⟩
  obtain ⟨pscript_, script_, k_, r_, rfl, h⟩ := h
  have hu := hu_of hr
  refine ⟨_, PSs.nox (pss_cons (ps_if (pt_cmpR op_lt (pv 1) (pe_callB call_len_seq (by rfl) T.f_len PySem.boot_len (pa_cons (pv 0) pa_nil)) (nomark _)) (pss_one (ps_ret (pe_ix ix_list (pv 0) (pv 1) (fun _ _ => rfl)))) pss_nil)
  (pss_one (ps_ret (pe_op op_add (pv 1) pe_int)))), ?_⟩
  obtain ⟨sscript_, hp1, hp2, hm, q⟩ := h
  have hs := Sep.pre (L := []) ⟨hp1, hp2⟩
  unfold m__law_cell at hm
  clear hp1 hp2
  try dsimp only [tNext, gName]
  try with_reducible refine iteF ?_
  refine if_use hs (b := decide ((k_ < (script_.length : Int)))) ?_ ?_
  · skip
    refine fun H4 hs Q_ hQ5 => ?_
    have f6 := hs.kp.seq not_in_nil sscript_
    refine ⟨_, rfl, _, rfl, _, _, rfl, .inl f6, ?_⟩
    rw [List.length_map]
    refine ⟨_, _, rfl, rfl, _, rfl, ?_⟩
    exact hQ5 _ (hs.tl 0)
  intro H8 hs
  refine iteD (fun c7 => ?_) (fun c7 => ?_)
  · replace hm := ift c7 hm
    obtain ⟨x9, ex9, hm⟩ := bnd hm
    obtain ⟨u10, hu11, hx12⟩ := (Imms.ofSc (H := H8) script_).ix ex9
    have hx12 : u10 = .int x9 := hx12
    subst hx12
    have f13 := hs.kp.seq not_in_nil sscript_
    refine ⟨_, rfl, _, rfl, _, _, _, _, rfl, rfl, f13, hu11, ?_⟩
    replace hs : Sep (owns []) H H8 [] := hs.tk 0
    obtain rfl := Option.some.inj hm
    exact q H8 hs
  · replace hm := ife c7 hm
    refine ⟨_, rfl, _, _, rfl, rfl, ?_⟩
    replace hs : Sep (owns []) H H8 [] := hs.tk 0
    obtain rfl := Option.some.inj hm
    exact q H8 hs
end
def m__law_word_by (number_ : Int) (many_ : Int) : Option (Int) :=
  (atI ([(1 : Int), (2 : Int), (3 : Int), (4 : Int), (5 : Int), (6 : Int), (7 : Int), (8 : Int), (9 : Int), (10 : Int), (11 : Int), (12 : Int), (13 : Int), (14 : Int), (15 : Int), (16 : Int), (17 : Int), (18 : Int), (19 : Int), (20 : Int), (21 : Int), (22 : Int), (1 : Int), (3 : Int), (2 : Int), (17 : Int), (18 : Int), (15 : Int), (13 : Int), (4 : Int)] : (List Int)) (number_ % (30 : Int))).bind fun x5 =>
  if (x5 ∈ ([(12 : Int), (13 : Int), (14 : Int), (15 : Int)] : (List Int))) then
    if 0 < many_ then
    some (((1024 : Int) * x5) + ((number_ / (30 : Int)) % many_)) else none
  else
    if ((x5 ∈ ([(2 : Int), (3 : Int), (4 : Int), (5 : Int), (6 : Int), (7 : Int), (8 : Int), (9 : Int)] : (List Int))) ∧ ((0 : Int) < ((number_ / (30 : Int)) % (29 : Int)))) then
      (atI ([(512 : Int) + ((number_ / (30 : Int)) % (12 : Int)), (768 : Int) + (((number_ / (30 : Int)) / (4 : Int)) % (6 : Int)), (512 : Int) + ((number_ / (30 : Int)) % (12 : Int)), (520 : Int) + ((number_ / (30 : Int)) % (5 : Int))] : (List Int)) (((number_ / (30 : Int)) / (2 : Int)) % (4 : Int))).bind fun x73 =>
      some (((1024 : Int) * x5) + x73)
    else
      (atI ([((1024 : Int) * x5) + ((number_ / (30 : Int)) % (1024 : Int)), (number_ / (30 : Int)) % (65536 : Int)] : (List Int)) (if decide (((number_ / (30 : Int)) % (97 : Int)) = (5 : Int)) = true then (1 : Int) else 0)).bind fun x84 =>
      some x84
section
variable {P : Program} {w : World} {K : PySem.W.Frag} {mg : Str → Option Value} {base : Heap}
def sp__law_word_by (K : PySem.W.Frag) : Sp := fun vs H Q E_ => ∃ (number_ : Int) (many_ : Int) (r_ : Int), vs = [(.int number_), (.int many_)] ∧ (oks H [] ∧ (owns []).Nodup ∧ m__law_word_by number_ many_ = some r_ ∧ (∀ (H' : Hp) , Sep (owns []) H H' [] → Q (.int r_) H'))
abbrev N__law_word_by : List Str := ["_law_number", "_law_many", "_law_kinds", "_law_op", "_law_places"]
theorem sc__law_word_by : FnScope N__law_word_by ["_law_number", "_law_many"] (defScope s__law_word_by) := ⟨rfl, rfl, rfl, by decide +kernel, rfl, by decide +kernel, by decide +kernel⟩
theorem ok__law_word_by (T : Txt K mg) : Ok P w K mg base CX0 1 (He.fAd K ("_law_word_by", none)) ["_law_number", "_law_many"] (sp__law_word_by K) := by
  obtain ⟨fd, F⟩ := T.d__law_word_by
  refine ⟨fd, F.ok sc__law_word_by (fun vs H Q E h => by obtain ⟨number_, many_, r_, rfl, _⟩ := h; rfl) (fun cdv A_ outer s_ H vs Q E hr h => ?_), F.bindsN (fun _ _ _ _ _ _ us hl => match us, hl with | [_, _], _ => rfl), F.kp⟩
  obtain ⟨number_, many_, r_, rfl, h⟩ := h
  have hu := hu_of hr
  refine ⟨_, PSs.nox (pss_cons (ps_set (i := 2) sc__law_word_by.nd rfl (.inl rfl) (pe_lst (pa_cons pe_int (pa_cons pe_int (pa_cons pe_int (pa_cons pe_int (pa_cons pe_int (pa_cons pe_int (pa_cons pe_int (pa_cons pe_int (pa_cons pe_int (pa_cons pe_int (pa_cons pe_int (pa_cons pe_int (pa_cons pe_int (pa_cons pe_int (pa_cons pe_int (pa_cons pe_int (pa_cons pe_int (pa_cons pe_int (pa_cons pe_int (pa_cons pe_int (pa_cons pe_int (pa_cons pe_int (pa_cons pe_int (pa_cons pe_int (pa_cons pe_int (pa_cons pe_int (pa_cons pe_int (pa_cons pe_int (pa_cons pe_int (pa_cons pe_int pa_nil))))))))))))))))))))))))))))))))
  (pss_cons (ps_set (i := 3) sc__law_word_by.nd rfl (.inl rfl) (pe_ix ix_list (pv 2) (pe_op op_mod (pv 0) pe_int) (fun _ _ => rfl)))
  (pss_cons (ps_set (i := 0) sc__law_word_by.nd rfl (.inl rfl) (pe_op op_fdiv (pv 0) pe_int))
  (pss_cons (ps_if (pt_cmpR op_in_seq (pv 3) (pe_lst (pa_cons pe_int (pa_cons pe_int (pa_cons pe_int (pa_cons pe_int pa_nil))))) (by rfl)) (pss_one (ps_ret (pe_op op_add (pe_op op_mul pe_int (pv 3)) (pe_op op_mod (pv 0) (pv 1))))) pss_nil)
  (pss_cons (ps_set (i := 4) sc__law_word_by.nd rfl (.inl rfl) (pe_lst (pa_cons (pe_op op_add pe_int (pe_op op_mod (pv 0) pe_int)) (pa_cons (pe_op op_add pe_int (pe_op op_mod (pe_op op_fdiv (pv 0) pe_int) pe_int)) (pa_cons (pe_op op_add pe_int (pe_op op_mod (pv 0) pe_int)) (pa_cons (pe_op op_add pe_int (pe_op op_mod (pv 0) pe_int)) pa_nil))))))
  (pss_cons (ps_if (PW.pt (pw_and (pt_cmpR op_in_seq (pv 3) (pe_lst (pa_cons pe_int (pa_cons pe_int (pa_cons pe_int (pa_cons pe_int (pa_cons pe_int (pa_cons pe_int (pa_cons pe_int (pa_cons pe_int pa_nil))))))))) (by rfl)) (pw_and1 (pt_cmpR op_gt (pe_op op_mod (pv 0) pe_int) pe_int (nomark _))))) (pss_one (ps_ret (pe_op op_add (pe_op op_mul pe_int (pv 3)) (pe_ix ix_list (pv 4) (pe_op op_mod (pe_op op_fdiv (pv 0) pe_int) pe_int) (fun _ _ => rfl))))) pss_nil)
  (pss_one (ps_ret (pe_ix ix_list (pe_lst (pa_cons (pe_op op_add (pe_op op_mul pe_int (pv 3)) (pe_op op_mod (pv 0) pe_int)) (pa_cons (pe_op op_mod (pv 0) pe_int) pa_nil))) (pe_callTy call_int1 (by rfl) T.f_int (by decide +kernel) (pa_cons (pe_cmpR op_eq (pe_op op_mod (pv 0) pe_int) pe_int (nomark _)) pa_nil)) (fun _ _ => rfl)))))))))), ?_⟩
  obtain ⟨hp1, hp2, hm, q⟩ := h
  have hs := Sep.pre (L := []) ⟨hp1, hp2⟩
  unfold m__law_word_by at hm
  clear hp1 hp2
  refine ⟨(by show 30 ≤ sizeLine; decide), fun p1 n2 => ?_⟩
  try dsimp only
  generalize ee_ : upd H p1 _ = H3
  replace hs := (hs.newL (ys := (([(1 : Int), (2 : Int), (3 : Int), (4 : Int), (5 : Int), (6 : Int), (7 : Int), (8 : Int), (9 : Int), (10 : Int), (11 : Int), (12 : Int), (13 : Int), (14 : Int), (15 : Int), (16 : Int), (17 : Int), (18 : Int), (19 : Int), (20 : Int), (21 : Int), (22 : Int), (1 : Int), (3 : Int), (2 : Int), (17 : Int), (18 : Int), (15 : Int), (13 : Int), (4 : Int)] : (List Int)) : (List Int))) n2 ((.cons imI (.cons imI (.cons imI (.cons imI (.cons imI (.cons imI (.cons imI (.cons imI (.cons imI (.cons imI (.cons imI (.cons imI (.cons imI (.cons imI (.cons imI (.cons imI (.cons imI (.cons imI (.cons imI (.cons imI (.cons imI (.cons imI (.cons imI (.cons imI (.cons imI (.cons imI (.cons imI (.cons imI (.cons imI (.cons imI .nil)))))))))))))))))))))))))))))))).cast ee_
  clear ee_
  obtain ⟨x5, ex5, hm⟩ := bnd hm
  obtain ⟨vs6, hl7, hv8⟩ := hs.lst 0 rfl
  obtain ⟨u9, hu10, hx11⟩ := hv8.ix ex5
  have hx11 : u9 = (.int x5) := hx11
  subst hx11
  refine ⟨_, rfl, _, rfl, _, _, rfl, rfl, (show (0 : Int) < (30 : Int) by decide), _, _, _, _, rfl, rfl, SqL.of hl7, hu10, ?_⟩
  refine ⟨_, rfl, _, _, rfl, rfl, ⟨by decide, by decide⟩, ?_⟩
  try dsimp only [tNext, gName]
  try with_reducible refine iteF ?_
  refine if_use hs (b := decide ((x5 ∈ ([(12 : Int), (13 : Int), (14 : Int), (15 : Int)] : (List Int))))) ?_ ?_
  · skip
    refine fun H19 hs Q_ hQ20 => ?_
    refine ⟨_, rfl, (by show 4 ≤ sizeLine; decide), fun p21 n22 => ?_⟩
    try dsimp only
    generalize ee_ : upd H19 p21 _ = H23
    replace hs := (hs.newL (ys := (([(12 : Int), (13 : Int), (14 : Int), (15 : Int)] : (List Int)) : (List Int))) n22 ((.cons imI (.cons imI (.cons imI (.cons imI .nil)))))).cast ee_
    clear ee_
    have f25 := hs.scs 0 rfl
    refine ⟨_, _, rfl, .inl (SqL.of f25), rfl, flat_int _, _, in_int, ?_⟩
    exact hQ20 _ (hs.tl 1)
  intro H27 hs
  refine iteD (fun c26 => ?_) (fun c26 => ?_)
  · replace hm := ift c26 hm
    obtain ⟨g28, hm⟩ := gd hm
    refine ⟨_, rfl, _, _, rfl, rfl, .inl ⟨by decide, by decide⟩, _, rfl, _, rfl, _, _, rfl, rfl, g28, _, _, rfl, rfl, ?_⟩
    replace hs : Sep (owns []) H H27 [] := hs.tk 0
    obtain rfl := Option.some.inj hm
    exact q H27 hs
  · replace hm := ife c26 hm
    refine ⟨_, rfl, _, _, rfl, rfl, (show (0 : Int) < (12 : Int) by decide), _, _, rfl, rfl, _, rfl, _, _, rfl, rfl, ⟨by decide, by decide⟩, _, _, rfl, rfl, (show (0 : Int) < (6 : Int) by decide), _, _, rfl, rfl, _, rfl, _, _, rfl, rfl, (show (0 : Int) < (12 : Int) by decide), _, _, rfl, rfl, _, rfl, _, _, rfl, rfl, (show (0 : Int) < (5 : Int) by decide), _, _, rfl, rfl, (by show 4 ≤ sizeLine; decide), fun p29 n30 => ?_⟩
    try dsimp only
    generalize ee_ : upd H27 p29 _ = H31
    replace hs := (hs.newL (ys := (([(512 : Int) + ((number_ / (30 : Int)) % (12 : Int)), (768 : Int) + (((number_ / (30 : Int)) / (4 : Int)) % (6 : Int)), (512 : Int) + ((number_ / (30 : Int)) % (12 : Int)), (520 : Int) + ((number_ / (30 : Int)) % (5 : Int))] : (List Int)) : (List Int))) n30 ((.cons imI (.cons imI (.cons imI (.cons imI .nil)))))).cast ee_
    clear ee_
    try dsimp only [tNext, gName]
    try with_reducible refine iteF ?_
    refine if_use hs (b := decide (((x5 ∈ ([(2 : Int), (3 : Int), (4 : Int), (5 : Int), (6 : Int), (7 : Int), (8 : Int), (9 : Int)] : (List Int))) ∧ ((0 : Int) < ((number_ / (30 : Int)) % (29 : Int)))))) ?_ ?_
    · skip
      refine ev_and (P := (x5 ∈ ([(2 : Int), (3 : Int), (4 : Int), (5 : Int), (6 : Int), (7 : Int), (8 : Int), (9 : Int)] : (List Int)))) (R := ((0 : Int) < ((number_ / (30 : Int)) % (29 : Int)))) ?_ (fun c61 => ?_)
      · skip
        refine fun H62 hs Q_ hQ63 => ?_
        refine ⟨_, rfl, (by show 8 ≤ sizeLine; decide), fun p64 n65 => ?_⟩
        try dsimp only
        generalize ee_ : upd H62 p64 _ = H66
        replace hs := (hs.newL (ys := (([(2 : Int), (3 : Int), (4 : Int), (5 : Int), (6 : Int), (7 : Int), (8 : Int), (9 : Int)] : (List Int)) : (List Int))) n65 ((.cons imI (.cons imI (.cons imI (.cons imI (.cons imI (.cons imI (.cons imI (.cons imI .nil)))))))))).cast ee_
        clear ee_
        have f68 := hs.scs 0 rfl
        refine ⟨_, _, rfl, .inl (SqL.of f68), rfl, flat_int _, _, in_int, ?_⟩
        exact hQ63 _ (hs.tl 1)
      · skip
        refine fun H69 hs Q_ hQ70 => ?_
        refine ⟨_, rfl, _, _, rfl, rfl, (show (0 : Int) < (29 : Int) by decide), _, _, rfl, rfl, _, rfl, ?_⟩
        exact hQ70 _ (hs.tl 0)
    intro H72 hs
    refine iteD (fun c71 => ?_) (fun c71 => ?_)
    · replace hm := ift c71 hm
      obtain ⟨x73, ex73, hm⟩ := bnd hm
      obtain ⟨vs74, hl75, hv76⟩ := hs.lst 0 rfl
      obtain ⟨u77, hu78, hx79⟩ := hv76.ix ex73
      have hx79 : u77 = (.int x73) := hx79
      subst hx79
      refine ⟨_, rfl, _, _, rfl, rfl, .inl ⟨by decide, by decide⟩, _, rfl, _, rfl, _, _, rfl, rfl, ⟨by decide, by decide⟩, _, _, rfl, rfl, (show (0 : Int) < (4 : Int) by decide), _, _, _, _, rfl, rfl, SqL.of hl75, hu78, _, _, rfl, rfl, ?_⟩
      replace hs : Sep (owns []) H H72 [] := hs.tk 0
      obtain rfl := Option.some.inj hm
      exact q H72 hs
    · replace hm := ife c71 hm
      refine ⟨_, rfl, _, _, rfl, rfl, .inl ⟨by decide, by decide⟩, _, rfl, _, _, rfl, rfl, (show (0 : Int) < (1024 : Int) by decide), _, _, rfl, rfl, _, rfl, _, _, rfl, rfl, (show (0 : Int) < (65536 : Int) by decide), (by show 2 ≤ sizeLine; decide), fun p80 n81 => ?_⟩
      try dsimp only
      generalize ee_ : upd H72 p80 _ = H82
      replace hs := (hs.newL (ys := (([((1024 : Int) * x5) + ((number_ / (30 : Int)) % (1024 : Int)), (number_ / (30 : Int)) % (65536 : Int)] : (List Int)) : (List Int))) n81 ((.cons imI (.cons imI .nil)))).cast ee_
      clear ee_
      refine ⟨_, rfl, _, _, rfl, rfl, (show (0 : Int) < (97 : Int) by decide), rfl, .inr ⟨_, congrArg (fun z => [z]) dI, ?_⟩⟩
      obtain ⟨x84, ex84, hm⟩ := bnd hm
      obtain ⟨vs85, hl86, hv87⟩ := hs.lst 0 rfl
      obtain ⟨u88, hu89, hx90⟩ := hv87.ix ex84
      have hx90 : u88 = (.int x84) := hx90
      subst hx90
      refine ⟨_, _, _, _, rfl, rfl, SqL.of hl86, hu89, ?_⟩
      replace hs : Sep (owns []) H H82 [] := hs.tk 0
      obtain rfl := Option.some.inj hm
      exact q H82 hs
end
def m__law_drawn_image_l1 (r1 : (List Int)) (k29 : Int) (a28 : (List Int)) : Option ((List Int)) :=
  (atI r1 (k29 % (60 : Int))).bind fun x38 =>
  (atI r1 ((((7 : Int) * k29) + (3 : Int)) % (60 : Int))).bind fun x45 =>
  snoc a28 ((x38 * (1009 : Int)) + x45)
def m__law_drawn_image_l2 (x6 : Int) (k206 : Int) (a205 : (List Int)) : Option ((List Int)) :=
  (m__law_word_by k206 ((24 : Int) + (x6 % (60 : Int)))).bind fun r216 =>
  snoc a205 r216
def m__law_drawn_image (cell_here_ : Int) : Option ((List Int)) :=
  (m__law_digits cell_here_ (60 : Int)).bind fun r1 =>
  (atI r1 (0 : Int)).bind fun x6 =>
  if -(2 ^ 62) ≤ ((24 : Int) + (x6 % (60 : Int))) ∧ ((24 : Int) + (x6 % (60 : Int))) < 2 ^ 62 then
  (forS (m__law_drawn_image_l1 r1) (rangeL 0 (Int.toNat ((24 : Int) + (x6 % (60 : Int))))) []).bind fun a28 =>
  (atI a28 (3 : Int)).bind fun x61 =>
  (m__law_word_by x61 ((24 : Int) + (x6 % (60 : Int)))).bind fun r68 =>
  (catL ([((1024 : Int) * (12 : Int)) + (12 : Int), ((1024 : Int) * (12 : Int)) + (3 : Int), ((1024 : Int) * (12 : Int)) + (7 : Int)] : (List Int)) ([(1024 : Int) + (1 : Int), ((1024 : Int) * (3 : Int)) + (770 : Int), r68, (1024 : Int) * (21 : Int)] : (List Int))).bind fun y75 =>
  (atI a28 (7 : Int)).bind fun x88 =>
  (m__law_word_by x88 ((24 : Int) + (x6 % (60 : Int)))).bind fun r95 =>
  (catL y75 ([(1024 : Int) + (2 : Int), ((1024 : Int) * (3 : Int)) + (770 : Int), r95, (1024 : Int) * (21 : Int), (1024 : Int) * (19 : Int)] : (List Int))).bind fun y102 =>
  (atI r1 (1 : Int)).bind fun x115 =>
  (atI r1 (2 : Int)).bind fun x122 =>
  (atI r1 (3 : Int)).bind fun x129 =>
  (catL y102 ([(1024 : Int) + (x115 % (40 : Int)), ((1024 : Int) * (3 : Int)) + (769 : Int), (1024 : Int) + (x122 % (4 : Int)), ((1024 : Int) * (3 : Int)) + (771 : Int), ((1024 : Int) * (20 : Int)) + (x129 % (3 : Int))] : (List Int))).bind fun y140 =>
  (forS (m__law_drawn_image_l2 x6) (cutX a28 (some (y140.length : Int)) none) []).bind fun a205 =>
  (catL y140 a205).bind fun y224 =>
  some y224 else none
section
variable {P : Program} {w : World} {K : PySem.W.Frag} {mg : Str → Option Value} {base : Heap}
def sp__law_drawn_image (K : PySem.W.Frag) : Sp := fun vs H Q E_ => ∃ (cell_here_ : Int) (r_ : (List Int)), vs = [(.int cell_here_)] ∧ (oks H [] ∧ (owns []).Nodup ∧ m__law_drawn_image cell_here_ = some r_ ∧ (∀ (H' : Hp) (pz : Addr), Sep (owns []) H H' [aL pz r_] → Q (.ref pz) H'))
abbrev N__law_drawn_image : List Str := ["_law_cell_here", "_law_row", "_law_many", "_law_k", "_law_numbers", "_law_image", "_law_number"]
theorem sc__law_drawn_image : FnScope N__law_drawn_image ["_law_cell_here"] (defScope s__law_drawn_image) := ⟨rfl, rfl, rfl, by decide +kernel, rfl, by decide +kernel, by decide +kernel⟩
theorem ok__law_drawn_image (T : Txt K mg) : Ok P w K mg base CX0 2 (He.fAd K ("_law_drawn_image", none)) ["_law_cell_here"] (sp__law_drawn_image K) := by
  obtain ⟨_, G__law_digits, b__law_digits, kp__law_digits⟩ := ok__law_digits (P := P) (w := w) (base := base) T
  obtain ⟨_, G__law_word_by, b__law_word_by, kp__law_word_by⟩ := ok__law_word_by (P := P) (w := w) (base := base) T
  obtain ⟨fd, F⟩ := T.d__law_drawn_image
  refine ⟨fd, F.ok sc__law_drawn_image (fun vs H Q E h => by obtain ⟨cell_here_, r_, rfl, _⟩ := h; rfl) (fun cdv A_ outer s_ H vs Q E hr h => ?_), F.bindsN (fun _ _ _ _ _ _ us hl => match us, hl with | [_], _ => rfl), F.kp⟩
  obtain ⟨cell_here_, r_, rfl, h⟩ := h
  have hu := hu_of hr
  refine ⟨_, PSs.nox (pss_cons (ps_set (i := 1) sc__law_drawn_image.nd rfl (.inr rfl) (pe_call G__law_digits (hr.mono (by decide)) (by rfl) T.g__law_digits kp__law_digits b__law_digits .nil pass0 (pa_cons (pv 0) (pa_cons pe_int pa_nil))))
  (pss_cons (ps_set (i := 2) sc__law_drawn_image.nd rfl (.inr rfl) (pe_op op_add pe_int (pe_op op_mod (pe_ix ix_list (pv 1) pe_int (fun _ _ => rfl)) pe_int)))
  (pss_cons (ps_setLc (i := 4) (own := [("_law_k", 3)]) (g := gName 3) (tt := tYes) rfl sc__law_drawn_image.nd rfl rfl (sw_true rfl rfl rfl (by decide +kernel)) (pi_range1 (by rfl) T.f_range (pa_cons (pv 2) pa_nil)) (blkOk_by (own := [("_law_k", 3)]) (N := N__law_drawn_image) (sc := defScope s__law_drawn_image) (by decide +kernel)) (fun _ _ _ _ _ => pg_name (i := 3) sc__law_drawn_image.nd rfl (Or.inl rfl)) (fun _ _ _ _ _ => pts_nil) (fun _ _ _ _ _ => (pe_op op_add (pe_op op_mul (pe_ix (ix_listK (K := K) rfl) (pv 1) (pe_op op_mod (pv 3) pe_int) (fun _ _ => rfl)) pe_int) (pe_ix (ix_listK (K := K) rfl) (pv 1) (pe_op op_mod (pe_op op_add (pe_op op_mul pe_int (pv 3)) pe_int) pe_int) (fun _ _ => rfl)))))
  (pss_cons (ps_set (i := 5) sc__law_drawn_image.nd rfl (.inl rfl) (pe_lst (pa_cons (pe_op op_add (pe_op op_mul pe_int pe_int) pe_int) (pa_cons (pe_op op_add (pe_op op_mul pe_int pe_int) pe_int) (pa_cons (pe_op op_add (pe_op op_mul pe_int pe_int) pe_int) pa_nil)))))
  (pss_cons (ps_set (i := 5) sc__law_drawn_image.nd rfl (.inl rfl) (pe_op op_cat (pv 5) (pe_lst (pa_cons (pe_op op_add pe_int pe_int) (pa_cons (pe_op op_add (pe_op op_mul pe_int pe_int) pe_int) (pa_cons (pe_call G__law_word_by (hr.mono (by decide)) (by rfl) T.g__law_word_by kp__law_word_by b__law_word_by .nil pass0 (pa_cons (pe_ix ix_list (pv 4) pe_int (fun _ _ => rfl)) (pa_cons (pv 2) pa_nil))) (pa_cons (pe_op op_mul pe_int pe_int) pa_nil)))))))
  (pss_cons (ps_set (i := 5) sc__law_drawn_image.nd rfl (.inl rfl) (pe_op op_cat (pv 5) (pe_lst (pa_cons (pe_op op_add pe_int pe_int) (pa_cons (pe_op op_add (pe_op op_mul pe_int pe_int) pe_int) (pa_cons (pe_call G__law_word_by (hr.mono (by decide)) (by rfl) T.g__law_word_by kp__law_word_by b__law_word_by .nil pass0 (pa_cons (pe_ix ix_list (pv 4) pe_int (fun _ _ => rfl)) (pa_cons (pv 2) pa_nil))) (pa_cons (pe_op op_mul pe_int pe_int) (pa_cons (pe_op op_mul pe_int pe_int) pa_nil))))))))
  (pss_cons (ps_set (i := 5) sc__law_drawn_image.nd rfl (.inl rfl) (pe_op op_cat (pv 5) (pe_lst (pa_cons (pe_op op_add pe_int (pe_op op_mod (pe_ix ix_list (pv 1) pe_int (fun _ _ => rfl)) pe_int)) (pa_cons (pe_op op_add (pe_op op_mul pe_int pe_int) pe_int) (pa_cons (pe_op op_add pe_int (pe_op op_mod (pe_ix ix_list (pv 1) pe_int (fun _ _ => rfl)) pe_int)) (pa_cons (pe_op op_add (pe_op op_mul pe_int pe_int) pe_int) (pa_cons (pe_op op_add (pe_op op_mul pe_int pe_int) (pe_op op_mod (pe_ix ix_list (pv 1) pe_int (fun _ _ => rfl)) pe_int)) pa_nil))))))))
  (pss_one (ps_ret (pe_op op_cat (pv 5) (pe_lc (own := [("_law_number", 6)]) (g := gName 6) (tt := tYes) rfl sc__law_drawn_image.nd (pi_list (pe_slice sl_list (pv 4) (po_some (pe_callB call_len_seq (by rfl) T.f_len PySem.boot_len (pa_cons (pv 5) pa_nil))) po_none)) (blkOk_by (own := [("_law_number", 6)]) (N := N__law_drawn_image) (sc := defScope s__law_drawn_image) (by decide +kernel)) (fun _ _ _ _ _ => pg_name (i := 6) sc__law_drawn_image.nd rfl (Or.inl rfl)) (fun _ _ _ _ _ => pts_nil) (fun _ _ _ _ _ => (pe_call G__law_word_by (hr.mono (by decide)) (by rfl) T.g__law_word_by kp__law_word_by b__law_word_by .nil pass0 (pa_cons (pv 6) (pa_cons (pv 2) pa_nil))))))))))))))), ?_⟩
  obtain ⟨hp1, hp2, hm, q⟩ := h
  have hs := Sep.pre (L := []) ⟨hp1, hp2⟩
  unfold m__law_drawn_image at hm
  clear hp1 hp2
  obtain ⟨r1, er1, hm⟩ := bnd hm
  refine ⟨_, rfl, cell_here_, (60 : Int), r1, rfl, (hs.frontN 0).1, (hs.frontN 0).2, er1, fun H2 pz4 hc3 => ?_⟩
  replace hs := hs.callN 0 hc3
  obtain ⟨x6, ex6, hm⟩ := bnd hm
  obtain ⟨vs7, hl8, hv9⟩ := hs.lst 0 rfl
  obtain ⟨u10, hu11, hx12⟩ := hv9.ix ex6
  have hx12 : u10 = (.int x6) := hx12
  subst hx12
  refine ⟨_, rfl, _, _, _, _, rfl, rfl, SqL.of hl8, hu11, _, _, rfl, rfl, (show (0 : Int) < (60 : Int) by decide), _, _, rfl, rfl, ?_⟩
  obtain ⟨g13, hm⟩ := gd hm
  obtain ⟨z30, eL31, hm⟩ := bnd hm
  refine ⟨_, rfl, _, rfl, g13.1, g13.2, fun p32 n33 => lc_range (lo := (0 : Int)) (n := (Int.toNat ((24 : Int) + (x6 % (60 : Int))))) (fun i34 H35 => ∃ (a28 : (List Int)), forS (m__law_drawn_image_l1 r1) ((rangeL 0 (Int.toNat ((24 : Int) + (x6 % (60 : Int))))).drop i34) a28 = some z30 ∧ Sep (owns []) H H35 (aL p32 a28 :: [aL pz4 r1])) ⟨([] : (List Int)), eL31, hs.newL n33 .nil⟩ ?_ ?_⟩
  · rintro i34 H35 hi36 ⟨a28, hf, hs⟩
    obtain ⟨sN_, hm, hf⟩ := forS_s (range_get hi36) hf
    generalize hk_ : (0 : Int) + ((i34 : Nat) : Int) = k29 at hm ⊢
    unfold m__law_drawn_image_l1 at hm
    refine ⟨by kernel_rfl, ?_⟩
    obtain ⟨x38, ex38, hm⟩ := bnd hm
    obtain ⟨vs39, hl40, hv41⟩ := hs.lst 1 rfl
    obtain ⟨u42, hu43, hx44⟩ := hv41.ix ex38
    have hx44 : u42 = (.int x38) := hx44
    subst hx44
    obtain ⟨x45, ex45, hm⟩ := bnd hm
    obtain ⟨vs46, hl47, hv48⟩ := hs.lst 1 rfl
    obtain ⟨u49, hu50, hx51⟩ := hv48.ix ex45
    have hx51 : u49 = (.int x45) := hx51
    subst hx51
    obtain ⟨vs52, hD53, hv54⟩ := hs.lst 0 rfl
    obtain ⟨g55, g56⟩ := snoc_eq hm
    subst g56
    refine ⟨_, rfl, _, rfl, _, _, rfl, rfl, (show (0 : Int) < (60 : Int) by decide), _, _, _, _, rfl, rfl, SqL.of hl40, hu43, _, _, rfl, rfl, .inr ⟨by decide, by decide⟩, _, rfl, _, rfl, _, _, rfl, rfl, .inl ⟨by decide, by decide⟩, _, _, rfl, rfl, _, _, rfl, rfl, (show (0 : Int) < (60 : Int) by decide), _, _, _, _, rfl, rfl, SqL.of hl47, hu50, _, _, rfl, rfl, _, hD53, small_ (by have := hv54.length; omega), ?_⟩
    replace hv54 := hv54.snoc (v := (.int ((x38 * (1009 : Int)) + x45))) (x := ((x38 * (1009 : Int)) + x45 : Int)) imI
    replace hs : Sep (owns []) H H35 [aL p32 a28, aL pz4 r1] := hs.tk 2
    exact ⟨_, hf, hs.putL 0 rfl hD53 hv54⟩
  rintro H35 ⟨a28, hf, hs⟩
  have ez_ := forS_e (Nat.le_of_eq range_len) hf
  subst ez_
  refine ⟨_, _, rfl, rfl, .inl ⟨by decide, by decide⟩, _, _, rfl, rfl, _, _, rfl, rfl, .inl ⟨by decide, by decide⟩, _, _, rfl, rfl, _, _, rfl, rfl, .inl ⟨by decide, by decide⟩, _, _, rfl, rfl, (by show 3 ≤ sizeLine; decide), fun p57 n58 => ?_⟩
  try dsimp only
  generalize ee_ : upd H35 p57 _ = H59
  replace hs := (hs.newL (ys := (([((1024 : Int) * (12 : Int)) + (12 : Int), ((1024 : Int) * (12 : Int)) + (3 : Int), ((1024 : Int) * (12 : Int)) + (7 : Int)] : (List Int)) : (List Int))) n58 ((.cons imI (.cons imI (.cons imI .nil))))).cast ee_
  clear ee_
  obtain ⟨x61, ex61, hm⟩ := bnd hm
  obtain ⟨vs62, hl63, hv64⟩ := hs.lst 1 rfl
  obtain ⟨u65, hu66, hx67⟩ := hv64.ix ex61
  have hx67 : u65 = (.int x61) := hx67
  subst hx67
  obtain ⟨r68, er68, hm⟩ := bnd hm
  refine ⟨_, rfl, _, _, rfl, rfl, _, _, rfl, rfl, .inl ⟨by decide, by decide⟩, _, _, rfl, rfl, _, rfl, _, _, _, _, rfl, rfl, SqL.of hl63, hu66, _, rfl, x61, ((24 : Int) + (x6 % (60 : Int))), r68, rfl, (hs.frontN 0).1, (hs.frontN 0).2, er68, fun H69 hc70 => ?_⟩
  replace hs := hs.callN 0 hc70
  refine ⟨_, _, rfl, rfl, .inl ⟨by decide, by decide⟩, (by show 4 ≤ sizeLine; decide), fun p71 n72 => ?_⟩
  try dsimp only
  generalize ee_ : upd H69 p71 _ = H73
  replace hs := (hs.newL (ys := (([(1024 : Int) + (1 : Int), ((1024 : Int) * (3 : Int)) + (770 : Int), r68, (1024 : Int) * (21 : Int)] : (List Int)) : (List Int))) n72 ((.cons imI (.cons imI (.cons imI (.cons imI .nil)))))).cast ee_
  clear ee_
  obtain ⟨y75, ey75, hm⟩ := bnd hm
  obtain ⟨vs76, hl77, hv78⟩ := hs.lst 1 rfl
  obtain ⟨vs79, hl80, hv81⟩ := hs.lst 0 rfl
  obtain ⟨g82, e83⟩ := catL_eq ey75
  refine ⟨_, _, _, _, rfl, rfl, hl77, hl80, small_le (by have := hv78.length; have := hv81.length; omega), fun p84 n85 => ?_⟩
  try dsimp only
  generalize ee_ : upd H73 p84 _ = H86
  replace hs := (hs.newL (ys := (y75 : (List Int))) n85 (by rw [e83]; exact hv78.app hv81)).cast ee_
  clear ee_
  obtain ⟨x88, ex88, hm⟩ := bnd hm
  obtain ⟨vs89, hl90, hv91⟩ := hs.lst 3 rfl
  obtain ⟨u92, hu93, hx94⟩ := hv91.ix ex88
  have hx94 : u92 = (.int x88) := hx94
  subst hx94
  obtain ⟨r95, er95, hm⟩ := bnd hm
  refine ⟨_, rfl, _, _, rfl, rfl, _, _, rfl, rfl, .inl ⟨by decide, by decide⟩, _, _, rfl, rfl, _, rfl, _, _, _, _, rfl, rfl, SqL.of hl90, hu93, _, rfl, x88, ((24 : Int) + (x6 % (60 : Int))), r95, rfl, (hs.frontN 0).1, (hs.frontN 0).2, er95, fun H96 hc97 => ?_⟩
  replace hs := hs.callN 0 hc97
  refine ⟨_, _, rfl, rfl, .inl ⟨by decide, by decide⟩, _, _, rfl, rfl, .inl ⟨by decide, by decide⟩, (by show 5 ≤ sizeLine; decide), fun p98 n99 => ?_⟩
  try dsimp only
  generalize ee_ : upd H96 p98 _ = H100
  replace hs := (hs.newL (ys := (([(1024 : Int) + (2 : Int), ((1024 : Int) * (3 : Int)) + (770 : Int), r95, (1024 : Int) * (21 : Int), (1024 : Int) * (19 : Int)] : (List Int)) : (List Int))) n99 ((.cons imI (.cons imI (.cons imI (.cons imI (.cons imI .nil))))))).cast ee_
  clear ee_
  obtain ⟨y102, ey102, hm⟩ := bnd hm
  obtain ⟨vs103, hl104, hv105⟩ := hs.lst 1 rfl
  obtain ⟨vs106, hl107, hv108⟩ := hs.lst 0 rfl
  obtain ⟨g109, e110⟩ := catL_eq ey102
  refine ⟨_, _, _, _, rfl, rfl, hl104, hl107, small_le (by have := hv105.length; have := hv108.length; omega), fun p111 n112 => ?_⟩
  try dsimp only
  generalize ee_ : upd H100 p111 _ = H113
  replace hs := (hs.newL (ys := (y102 : (List Int))) n112 (by rw [e110]; exact hv105.app hv108)).cast ee_
  clear ee_
  replace hs : Sep (owns []) H H113 [aL p111 y102, aL p32 a28, aL pz4 r1] := (((hs.mv 6 rfl).mv 6 rfl).mv 2 rfl).tk 3
  obtain ⟨x115, ex115, hm⟩ := bnd hm
  obtain ⟨vs116, hl117, hv118⟩ := hs.lst 2 rfl
  obtain ⟨u119, hu120, hx121⟩ := hv118.ix ex115
  have hx121 : u119 = (.int x115) := hx121
  subst hx121
  obtain ⟨x122, ex122, hm⟩ := bnd hm
  obtain ⟨vs123, hl124, hv125⟩ := hs.lst 2 rfl
  obtain ⟨u126, hu127, hx128⟩ := hv125.ix ex122
  have hx128 : u126 = (.int x122) := hx128
  subst hx128
  obtain ⟨x129, ex129, hm⟩ := bnd hm
  obtain ⟨vs130, hl131, hv132⟩ := hs.lst 2 rfl
  obtain ⟨u133, hu134, hx135⟩ := hv132.ix ex129
  have hx135 : u133 = (.int x129) := hx135
  subst hx135
  refine ⟨_, rfl, _, rfl, _, _, _, _, rfl, rfl, SqL.of hl117, hu120, _, _, rfl, rfl, (show (0 : Int) < (40 : Int) by decide), _, _, rfl, rfl, _, _, rfl, rfl, .inl ⟨by decide, by decide⟩, _, _, rfl, rfl, _, rfl, _, _, _, _, rfl, rfl, SqL.of hl124, hu127, _, _, rfl, rfl, (show (0 : Int) < (4 : Int) by decide), _, _, rfl, rfl, _, _, rfl, rfl, .inl ⟨by decide, by decide⟩, _, _, rfl, rfl, _, _, rfl, rfl, .inl ⟨by decide, by decide⟩, _, rfl, _, _, _, _, rfl, rfl, SqL.of hl131, hu134, _, _, rfl, rfl, (show (0 : Int) < (3 : Int) by decide), _, _, rfl, rfl, (by show 5 ≤ sizeLine; decide), fun p136 n137 => ?_⟩
  try dsimp only
  generalize ee_ : upd H113 p136 _ = H138
  replace hs := (hs.newL (ys := (([(1024 : Int) + (x115 % (40 : Int)), ((1024 : Int) * (3 : Int)) + (769 : Int), (1024 : Int) + (x122 % (4 : Int)), ((1024 : Int) * (3 : Int)) + (771 : Int), ((1024 : Int) * (20 : Int)) + (x129 % (3 : Int))] : (List Int)) : (List Int))) n137 ((.cons imI (.cons imI (.cons imI (.cons imI (.cons imI .nil))))))).cast ee_
  clear ee_
  obtain ⟨y140, ey140, hm⟩ := bnd hm
  obtain ⟨vs141, hl142, hv143⟩ := hs.lst 1 rfl
  obtain ⟨vs144, hl145, hv146⟩ := hs.lst 0 rfl
  obtain ⟨g147, e148⟩ := catL_eq ey140
  refine ⟨_, _, _, _, rfl, rfl, hl142, hl145, small_le (by have := hv143.length; have := hv146.length; omega), fun p149 n150 => ?_⟩
  try dsimp only
  generalize ee_ : upd H138 p149 _ = H151
  replace hs := (hs.newL (ys := (y140 : (List Int))) n150 (by rw [e148]; exact hv143.app hv146)).cast ee_
  clear ee_
  obtain ⟨vs189, hl190, hv191⟩ := hs.lst 0 rfl
  refine ⟨_, rfl, _, rfl, _, rfl, _, _, rfl, .inl (SqL.of hl190), ?_⟩
  rw [hv191.length]
  obtain ⟨vs192, hl193, hv194⟩ := hs.lst 3 rfl
  refine ⟨_, rfl, _, _, rfl, SqL.of hl193, fun p195 n196 => ?_⟩
  try dsimp only
  generalize ee_ : upd H151 p195 _ = H197
  replace hs := (hs.newL (ys := ((cutX a28 (some (y140.length : Int)) none) : (List Int))) n196 (hv194.cut (some (y140.length : Int)) none)).cast ee_
  clear ee_
  obtain ⟨vs199, lv200, hs⟩ := hs.fix 0 rfl
  have hw201 := (hs.wal 0 rfl).1
  obtain ⟨z207, eL208, hm⟩ := bnd hm
  refine ⟨_, rfl, ⟨_, SqL.of hw201⟩, fun p209 n210 => lc_list (K := K) (a := p195) (xs := vs199) (fun i211 H212 => ∃ (a205 : (List Int)), forS (m__law_drawn_image_l2 x6) ((cutX a28 (some (y140.length : Int)) none).drop i211) a205 = some z207 ∧ Sep (owns []) H H212 (aL p209 a205 :: [aW p195 vs199 ((cutX a28 (some (y140.length : Int)) none) : (List Int)), aL p149 y140, aL p136 (([(1024 : Int) + (x115 % (40 : Int)), ((1024 : Int) * (3 : Int)) + (769 : Int), (1024 : Int) + (x122 % (4 : Int)), ((1024 : Int) * (3 : Int)) + (771 : Int), ((1024 : Int) * (20 : Int)) + (x129 % (3 : Int))] : (List Int)) : (List Int)), aL p111 y102, aL p32 a28, aL pz4 r1])) ⟨([] : (List Int)), eL208, hs.newL n210 .nil⟩ (fun i211 H212 _ pz => by obtain ⟨a205, hf, hs⟩ := pz; exact SqL.of (hs.wal 1 rfl).1) ?_ ?_⟩
  · rintro i211 y215 H212 hi213 ⟨a205, hf, hs⟩
    obtain ⟨k206, hx_, hy_⟩ := (hs.wal 1 rfl).2.nthv hi213
    obtain ⟨sN_, hm, hf⟩ := forS_s hx_ hf
    have hy_ : y215 = (.int k206) := hy_
    subst hy_
    unfold m__law_drawn_image_l2 at hm
    refine ⟨by kernel_rfl, ?_⟩
    obtain ⟨r216, er216, hm⟩ := bnd hm
    refine ⟨_, rfl, _, rfl, k206, ((24 : Int) + (x6 % (60 : Int))), r216, rfl, (hs.frontN 0).1, (hs.frontN 0).2, er216, fun H217 hc218 => ?_⟩
    replace hs := hs.callN 0 hc218
    obtain ⟨vs219, hD220, hv221⟩ := hs.lst 0 rfl
    obtain ⟨g222, g223⟩ := snoc_eq hm
    subst g223
    refine ⟨_, hD220, small_ (by have := hv221.length; omega), ?_⟩
    replace hv221 := hv221.snoc (v := (.int r216)) (x := (r216 : Int)) imI
    replace hs : Sep (owns []) H H217 [aL p209 a205, aW p195 vs199 ((cutX a28 (some (y140.length : Int)) none) : (List Int)), aL p149 y140, aL p136 (([(1024 : Int) + (x115 % (40 : Int)), ((1024 : Int) * (3 : Int)) + (769 : Int), (1024 : Int) + (x122 % (4 : Int)), ((1024 : Int) * (3 : Int)) + (771 : Int), ((1024 : Int) * (20 : Int)) + (x129 % (3 : Int))] : (List Int)) : (List Int)), aL p111 y102, aL p32 a28, aL pz4 r1] := hs.tk 7
    exact ⟨_, hf, hs.putL 0 rfl hD220 hv221⟩
  rintro H212 ⟨a205, hf, hs⟩
  have ez_ := forS_e (Nat.le_of_eq lv200.symm) hf
  subst ez_
  replace hs := hs.unfix 1 rfl
  obtain ⟨y224, ey224, hm⟩ := bnd hm
  obtain ⟨vs225, hl226, hv227⟩ := hs.lst 2 rfl
  obtain ⟨vs228, hl229, hv230⟩ := hs.lst 0 rfl
  obtain ⟨g231, e232⟩ := catL_eq ey224
  refine ⟨_, _, _, _, rfl, rfl, hl226, hl229, small_le (by have := hv227.length; have := hv230.length; omega), fun p233 n234 => ?_⟩
  try dsimp only
  generalize ee_ : upd H212 p233 _ = H235
  replace hs := (hs.newL (ys := (y224 : (List Int))) n234 (by rw [e232]; exact hv227.app hv230)).cast ee_
  clear ee_
  replace hs : Sep (owns []) H H235 [aL p233 y224] := hs.tk 1
  obtain rfl := Option.some.inj hm
  exact q H235 p233 hs
end
def m__law_drawn_line_l1 (r1 : (List Int)) (k65 : Int) (s64 : Int × (List (Int × Int))) : Option (Int × (List (Int × Int))) :=
  (atI r1 ((1 : Int) + ((2 : Int) * k65))).bind fun x77 =>
  (atI r1 (39 : Int)).bind fun x88 =>
  (atI ([(3 : Int), (20 : Int), (60 : Int)] : (List Int)) (x88 % (3 : Int))).bind fun x95 =>
  if 0 < x95 then
  (some ((s64.1 + (1 : Int)) + (x77 % x95))).bind fun n103 =>
  (atI r1 ((2 : Int) + ((2 : Int) * k65))).bind fun x108 =>
  (snoc s64.2 (n103, x108 % (4 : Int))).bind fun y119 =>
  some (n103, y119) else none
def m__law_drawn_line (cell_here_ : Int) : Option ((List (Int × Int))) :=
  (m__law_digits cell_here_ (40 : Int)).bind fun r1 =>
  (atI r1 (0 : Int)).bind fun x10 =>
  if -(2 ^ 62) ≤ (x10 % (14 : Int)) ∧ (x10 % (14 : Int)) < 2 ^ 62 then
  (forS (m__law_drawn_line_l1 r1) (rangeL 0 (Int.toNat (x10 % (14 : Int)))) ((0 : Int), ([] : (List (Int × Int))))).bind fun (s64 : Int × (List (Int × Int))) =>
  some s64.2 else none
section
variable {P : Program} {w : World} {K : PySem.W.Frag} {mg : Str → Option Value} {base : Heap}
def sp__law_drawn_line (K : PySem.W.Frag) : Sp := fun vs H Q E_ => ∃ (cell_here_ : Int) (r_ : (List (Int × Int))), vs = [(.int cell_here_)] ∧ (oks H [] ∧ (owns []).Nodup ∧ m__law_drawn_line cell_here_ = some r_ ∧ (∀ (H' : Hp) (pz : Addr), Sep (owns []) H H' [aL pz r_] → Q (.ref pz) H'))
abbrev N__law_drawn_line : List Str := ["_law_cell_here", "_law_row", "_law_found", "_law_beat", "_law_k"]
theorem sc__law_drawn_line : FnScope N__law_drawn_line ["_law_cell_here"] (defScope s__law_drawn_line) := ⟨rfl, rfl, rfl, by decide +kernel, rfl, by decide +kernel, by decide +kernel⟩
theorem ok__law_drawn_line (T : Txt K mg) : Ok P w K mg base CX0 2 (He.fAd K ("_law_drawn_line", none)) ["_law_cell_here"] (sp__law_drawn_line K) := by
  obtain ⟨_, G__law_digits, b__law_digits, kp__law_digits⟩ := ok__law_digits (P := P) (w := w) (base := base) T
  obtain ⟨fd, F⟩ := T.d__law_drawn_line
  refine ⟨fd, F.ok sc__law_drawn_line (fun vs H Q E h => by obtain ⟨cell_here_, r_, rfl, _⟩ := h; rfl) (fun cdv A_ outer s_ H vs Q E hr h => ?_), F.bindsN (fun _ _ _ _ _ _ us hl => match us, hl with | [_], _ => rfl), F.kp⟩
  obtain ⟨cell_here_, r_, rfl, h⟩ := h
  have hu := hu_of hr
  refine ⟨_, PSs.nox (pss_cons (ps_set (i := 1) sc__law_drawn_line.nd rfl (.inl rfl) (pe_call G__law_digits (hr.mono (by decide)) (by rfl) T.g__law_digits kp__law_digits b__law_digits .nil pass0 (pa_cons (pv 0) (pa_cons pe_int pa_nil))))
  (pss_cons (ps_set (i := 2) sc__law_drawn_line.nd rfl (.inl rfl) (pe_lst pa_nil))
  (pss_cons (ps_set (i := 3) sc__law_drawn_line.nd rfl (.inl rfl) pe_int)
  (pss_cons (ps_for PassesOwn.never rfl (pi_range1 (by rfl) T.f_range (pa_cons (pe_op op_mod (pe_ix ix_list (pv 1) pe_int (fun _ _ => rfl)) pe_int) pa_nil)) (pg_name (i := 4) sc__law_drawn_line.nd rfl (.inl rfl)) (pss_cons (ps_set (i := 3) sc__law_drawn_line.nd rfl (.inl rfl) (pe_op op_add (pe_op op_add (pv 3) pe_int) (pe_op op_mod (pe_ix ix_list (pv 1) (pe_op op_add pe_int (pe_op op_mul pe_int (pv 4))) (fun _ _ => rfl)) (pe_ix ix_list (pe_lst (pa_cons pe_int (pa_cons pe_int (pa_cons pe_int pa_nil)))) (pe_op op_mod (pe_ix ix_list (pv 1) pe_int (fun _ _ => rfl)) pe_int) (fun _ _ => rfl)))))
    (pss_one (ps_expr (pe_bm PySem.F.plainAttrs_list PySem.F.slot_list_append PySem.F.type_list_append mt_append (pv 2) (pa_cons (pe_tup (pa_cons (pv 3) (pa_cons (pe_op op_mod (pe_ix ix_list (pv 1) (pe_op op_add pe_int (pe_op op_mul pe_int (pv 4))) (fun _ _ => rfl)) pe_int) pa_nil))) pa_nil))))))
  (pss_one (ps_ret (pv 2))))))), ?_⟩
  obtain ⟨hp1, hp2, hm, q⟩ := h
  have hs := Sep.pre (L := []) ⟨hp1, hp2⟩
  unfold m__law_drawn_line at hm
  clear hp1 hp2
  obtain ⟨r1, er1, hm⟩ := bnd hm
  refine ⟨_, rfl, cell_here_, (40 : Int), r1, rfl, (hs.frontN 0).1, (hs.frontN 0).2, er1, fun H2 pz4 hc3 => ?_⟩
  replace hs := hs.callN 0 hc3
  refine ⟨(by show 0 ≤ sizeLine; decide), fun p6 n7 => ?_⟩
  try dsimp only
  generalize ee_ : upd H2 p6 _ = H8
  replace hs := (hs.newL (ys := (([] : (List (Int × Int))) : (List (Int × Int)))) n7 (.nil)).cast ee_
  clear ee_
  obtain ⟨x10, ex10, hm⟩ := bnd hm
  obtain ⟨vs11, hl12, hv13⟩ := hs.lst 1 rfl
  obtain ⟨u14, hu15, hx16⟩ := hv13.ix ex10
  have hx16 : u14 = (.int x10) := hx16
  subst hx16
  obtain ⟨g17, hm⟩ := gd hm
  obtain ⟨z66, eL67, hm⟩ := bnd hm
  replace hs : Sep (owns []) H H8 [aL p6 (([] : (List (Int × Int))) : (List (Int × Int))), aL pz4 r1] := hs.tk 2
  refine ⟨_, rfl, _, _, _, _, rfl, rfl, SqL.of hl12, hu15, _, _, rfl, rfl, (show (0 : Int) < (14 : Int) by decide), _, rfl, g17.1, g17.2, for_rangeN (lo := (0 : Int)) (n := (Int.toNat (x10 % (14 : Int)))) (fun i72 σ74 H73 => ∃ (s64 : Int × (List (Int × Int))) (o71 : Option V), forS (m__law_drawn_line_l1 r1) ((rangeL 0 (Int.toNat (x10 % (14 : Int)))).drop i72) s64 = some z66 ∧ Sep (owns []) H H73 [aL p6 s64.2, aL pz4 r1] ∧ σ74 = [some (.int cell_here_), some (.ref pz4), some (.ref p6), some (.int s64.1), o71]) ⟨((0 : Int), ([] : (List (Int × Int)))), _, eL67, hs, rfl⟩ ?_ ?_⟩
  · rintro i72 σ74 H73 hi75 ⟨s64, o71, hf68, hs, rfl⟩
    obtain ⟨cN69, hm, hf68⟩ := forS_s (range_get hi75) hf68
    generalize hk_ : (0 : Int) + ((i72 : Nat) : Int) = k65 at hm ⊢
    unfold m__law_drawn_line_l1 at hm
    obtain ⟨x77, ex77, hm⟩ := bnd hm
    obtain ⟨vs78, hl79, hv80⟩ := hs.lst 1 rfl
    obtain ⟨u81, hu82, hx83⟩ := hv80.ix ex77
    have hx83 : u81 = (.int x77) := hx83
    subst hx83
    refine ⟨_, rfl, _, _, rfl, rfl, _, rfl, _, rfl, _, _, rfl, rfl, .inl ⟨by decide, by decide⟩, _, _, rfl, rfl, _, _, _, _, rfl, rfl, SqL.of hl79, hu82, (by show 3 ≤ sizeLine; decide), fun p84 n85 => ?_⟩
    try dsimp only
    generalize ee_ : upd H73 p84 _ = H86
    replace hs := (hs.newL (ys := (([(3 : Int), (20 : Int), (60 : Int)] : (List Int)) : (List Int))) n85 ((.cons imI (.cons imI (.cons imI .nil))))).cast ee_
    clear ee_
    obtain ⟨x88, ex88, hm⟩ := bnd hm
    obtain ⟨vs89, hl90, hv91⟩ := hs.lst 2 rfl
    obtain ⟨u92, hu93, hx94⟩ := hv91.ix ex88
    have hx94 : u92 = (.int x88) := hx94
    subst hx94
    obtain ⟨x95, ex95, hm⟩ := bnd hm
    obtain ⟨vs96, hl97, hv98⟩ := hs.lst 0 rfl
    obtain ⟨u99, hu100, hx101⟩ := hv98.ix ex95
    have hx101 : u99 = (.int x95) := hx101
    subst hx101
    obtain ⟨g102, hm⟩ := gd hm
    refine ⟨_, rfl, _, _, _, _, rfl, rfl, SqL.of hl90, hu93, _, _, rfl, rfl, (show (0 : Int) < (3 : Int) by decide), _, _, _, _, rfl, rfl, SqL.of hl97, hu100, _, _, rfl, rfl, g102, _, _, rfl, rfl, ?_⟩
    obtain ⟨n103, en103, hm⟩ := bnd hm
    try dsimp only
    rw [Option.some.inj en103]
    have f104 := (hs.lst 1 rfl).choose_spec.1
    obtain ⟨x108, ex108, hm⟩ := bnd hm
    obtain ⟨vs109, hl110, hv111⟩ := hs.lst 2 rfl
    obtain ⟨u112, hu113, hx114⟩ := hv111.ix ex108
    have hx114 : u112 = (.int x108) := hx114
    subst hx114
    refine ⟨_, rfl, .inl ⟨rfl, _, SqL.of f104⟩, _, rfl, _, rfl, _, rfl, _, _, rfl, rfl, .inl ⟨by decide, by decide⟩, _, _, rfl, rfl, _, _, _, _, rfl, rfl, SqL.of hl110, hu113, _, _, rfl, rfl, (show (0 : Int) < (4 : Int) by decide), (by show 2 ≤ sizeLine; decide), fun t115 n116 => ?_⟩
    try dsimp only
    generalize ee_ : upd H86 t115 _ = H117
    replace hs := (hs.newTup n116 [(.int n103), (.int (x108 % (4 : Int)))]).cast ee_
    clear ee_
    obtain ⟨y119, ey119, hm⟩ := bnd hm
    obtain ⟨vs105, hl106, hv107⟩ := hs.lst 2 rfl
    obtain ⟨g120, e121⟩ := snoc_eq ey119
    refine ⟨_, _, _, rfl, rfl, hl106, small_ (by have := hv107.length; omega), ?_⟩
    try dsimp only
    generalize ee_ : upd H117 p6 _ = H122
    replace hs := (hs.putL (ys := y119) 2 rfl hl106 (by rw [e121]; exact hv107.snoc (im2 (hs.tup 0 rfl) imI imI))).cast ee_
    clear ee_
    replace hs : Sep (owns []) H H122 [aL p6 y119, aL pz4 r1] := ((hs.mv 3 rfl).mv 3 rfl).tk 2
    obtain rfl := Option.some.inj hm
    exact ⟨(n103, y119), _, hf68, hs, rfl⟩
  rintro σ74 H73 ⟨s64, o71, hf68, hs, rfl⟩
  have ez_ := forS_e (Nat.le_of_eq range_len) hf68
  subst ez_
  refine ⟨_, rfl, ?_⟩
  replace hs : Sep (owns []) H H73 [aL p6 s64.2] := hs.tk 1
  obtain rfl := Option.some.inj hm
  exact q H73 p6 hs
end

structure R_Own where
  m : (List Int)
  a : Int
  b : Int
  pc : Int
  sp : Int
  zero : Bool
  lets : Bool
  asleep : Bool
  beat : Int
  stopped : (Option (List V))
  sent : (List (Int × Int))
  line : (List (Int × Int))
structure A_Own where
  p_ : Addr
  m : Addr
  stopped : V
  sent : Addr
  line : Addr
abbrev A_Own.w (B : A_Own) (p : Addr) : A_Own := { B with p_ := p }
abbrev A_Own.w_line (B : A_Own) (p a0 : Addr) : A_Own := { B with p_ := p, line := a0 }
def K_Own (v_m v_a v_b v_pc v_sp v_zero v_lets v_asleep v_beat v_stopped v_sent v_line : V) : List (Key × V) := [((Sum.inr "m" : Key), v_m), ((Sum.inr "a" : Key), v_a), ((Sum.inr "b" : Key), v_b), ((Sum.inr "pc" : Key), v_pc), ((Sum.inr "sp" : Key), v_sp), ((Sum.inr "zero" : Key), v_zero), ((Sum.inr "lets" : Key), v_lets), ((Sum.inr "asleep" : Key), v_asleep), ((Sum.inr "beat" : Key), v_beat), ((Sum.inr "stopped" : Key), v_stopped), ((Sum.inr "sent" : Key), v_sent), ((Sum.inr "line" : Key), v_line)]
theorem K_Own_m {v_m v_a v_b v_pc v_sp v_zero v_lets v_asleep v_beat v_stopped v_sent v_line : V} : valV (K_Own v_m v_a v_b v_pc v_sp v_zero v_lets v_asleep v_beat v_stopped v_sent v_line) (Sum.inr "m" : Key) = some v_m := by kernel_rfl
theorem K_Own_put_m {v_m v_a v_b v_pc v_sp v_zero v_lets v_asleep v_beat v_stopped v_sent v_line x_ : V} : putK (K_Own v_m v_a v_b v_pc v_sp v_zero v_lets v_asleep v_beat v_stopped v_sent v_line) (Sum.inr "m" : Key) x_ = K_Own x_ v_a v_b v_pc v_sp v_zero v_lets v_asleep v_beat v_stopped v_sent v_line := by kernel_rfl
theorem K_Own_dput_m {v_m v_a v_b v_pc v_sp v_zero v_lets v_asleep v_beat v_stopped v_sent v_line x_ : V} {H : Hp} {p : Addr} (h : H p = some (.dK (K_Own v_m v_a v_b v_pc v_sp v_zero v_lets v_asleep v_beat v_stopped v_sent v_line))) : DPut H p (.str "m") x_ (upd H p (.dK (K_Own x_ v_a v_b v_pc v_sp v_zero v_lets v_asleep v_beat v_stopped v_sent v_line))) := by
  have g := DPut.k (k := Sum.inr "m") (v := x_) h (small_ (by show 12 ≤ 16777215; decide))
  rw [K_Own_put_m] at g; exact g
theorem K_Own_dget_m {v_m v_a v_b v_pc v_sp v_zero v_lets v_asleep v_beat v_stopped v_sent v_line : V} {H : Hp} {p : Addr} (h : H p = some (.dK (K_Own v_m v_a v_b v_pc v_sp v_zero v_lets v_asleep v_beat v_stopped v_sent v_line))) : DGet H p (.str "m") (some v_m) := by
  have g := DGet.k (k := Sum.inr "m") h
  rw [K_Own_m] at g; exact g
theorem K_Own_a {v_m v_a v_b v_pc v_sp v_zero v_lets v_asleep v_beat v_stopped v_sent v_line : V} : valV (K_Own v_m v_a v_b v_pc v_sp v_zero v_lets v_asleep v_beat v_stopped v_sent v_line) (Sum.inr "a" : Key) = some v_a := by kernel_rfl
theorem K_Own_put_a {v_m v_a v_b v_pc v_sp v_zero v_lets v_asleep v_beat v_stopped v_sent v_line x_ : V} : putK (K_Own v_m v_a v_b v_pc v_sp v_zero v_lets v_asleep v_beat v_stopped v_sent v_line) (Sum.inr "a" : Key) x_ = K_Own v_m x_ v_b v_pc v_sp v_zero v_lets v_asleep v_beat v_stopped v_sent v_line := by kernel_rfl
theorem K_Own_dput_a {v_m v_a v_b v_pc v_sp v_zero v_lets v_asleep v_beat v_stopped v_sent v_line x_ : V} {H : Hp} {p : Addr} (h : H p = some (.dK (K_Own v_m v_a v_b v_pc v_sp v_zero v_lets v_asleep v_beat v_stopped v_sent v_line))) : DPut H p (.str "a") x_ (upd H p (.dK (K_Own v_m x_ v_b v_pc v_sp v_zero v_lets v_asleep v_beat v_stopped v_sent v_line))) := by
  have g := DPut.k (k := Sum.inr "a") (v := x_) h (small_ (by show 12 ≤ 16777215; decide))
  rw [K_Own_put_a] at g; exact g
theorem K_Own_dget_a {v_m v_a v_b v_pc v_sp v_zero v_lets v_asleep v_beat v_stopped v_sent v_line : V} {H : Hp} {p : Addr} (h : H p = some (.dK (K_Own v_m v_a v_b v_pc v_sp v_zero v_lets v_asleep v_beat v_stopped v_sent v_line))) : DGet H p (.str "a") (some v_a) := by
  have g := DGet.k (k := Sum.inr "a") h
  rw [K_Own_a] at g; exact g
theorem K_Own_b {v_m v_a v_b v_pc v_sp v_zero v_lets v_asleep v_beat v_stopped v_sent v_line : V} : valV (K_Own v_m v_a v_b v_pc v_sp v_zero v_lets v_asleep v_beat v_stopped v_sent v_line) (Sum.inr "b" : Key) = some v_b := by kernel_rfl
theorem K_Own_put_b {v_m v_a v_b v_pc v_sp v_zero v_lets v_asleep v_beat v_stopped v_sent v_line x_ : V} : putK (K_Own v_m v_a v_b v_pc v_sp v_zero v_lets v_asleep v_beat v_stopped v_sent v_line) (Sum.inr "b" : Key) x_ = K_Own v_m v_a x_ v_pc v_sp v_zero v_lets v_asleep v_beat v_stopped v_sent v_line := by kernel_rfl
theorem K_Own_dput_b {v_m v_a v_b v_pc v_sp v_zero v_lets v_asleep v_beat v_stopped v_sent v_line x_ : V} {H : Hp} {p : Addr} (h : H p = some (.dK (K_Own v_m v_a v_b v_pc v_sp v_zero v_lets v_asleep v_beat v_stopped v_sent v_line))) : DPut H p (.str "b") x_ (upd H p (.dK (K_Own v_m v_a x_ v_pc v_sp v_zero v_lets v_asleep v_beat v_stopped v_sent v_line))) := by
  have g := DPut.k (k := Sum.inr "b") (v := x_) h (small_ (by show 12 ≤ 16777215; decide))
  rw [K_Own_put_b] at g; exact g
theorem K_Own_dget_b {v_m v_a v_b v_pc v_sp v_zero v_lets v_asleep v_beat v_stopped v_sent v_line : V} {H : Hp} {p : Addr} (h : H p = some (.dK (K_Own v_m v_a v_b v_pc v_sp v_zero v_lets v_asleep v_beat v_stopped v_sent v_line))) : DGet H p (.str "b") (some v_b) := by
  have g := DGet.k (k := Sum.inr "b") h
  rw [K_Own_b] at g; exact g
theorem K_Own_pc {v_m v_a v_b v_pc v_sp v_zero v_lets v_asleep v_beat v_stopped v_sent v_line : V} : valV (K_Own v_m v_a v_b v_pc v_sp v_zero v_lets v_asleep v_beat v_stopped v_sent v_line) (Sum.inr "pc" : Key) = some v_pc := by kernel_rfl
theorem K_Own_put_pc {v_m v_a v_b v_pc v_sp v_zero v_lets v_asleep v_beat v_stopped v_sent v_line x_ : V} : putK (K_Own v_m v_a v_b v_pc v_sp v_zero v_lets v_asleep v_beat v_stopped v_sent v_line) (Sum.inr "pc" : Key) x_ = K_Own v_m v_a v_b x_ v_sp v_zero v_lets v_asleep v_beat v_stopped v_sent v_line := by kernel_rfl
theorem K_Own_dput_pc {v_m v_a v_b v_pc v_sp v_zero v_lets v_asleep v_beat v_stopped v_sent v_line x_ : V} {H : Hp} {p : Addr} (h : H p = some (.dK (K_Own v_m v_a v_b v_pc v_sp v_zero v_lets v_asleep v_beat v_stopped v_sent v_line))) : DPut H p (.str "pc") x_ (upd H p (.dK (K_Own v_m v_a v_b x_ v_sp v_zero v_lets v_asleep v_beat v_stopped v_sent v_line))) := by
  have g := DPut.k (k := Sum.inr "pc") (v := x_) h (small_ (by show 12 ≤ 16777215; decide))
  rw [K_Own_put_pc] at g; exact g
theorem K_Own_dget_pc {v_m v_a v_b v_pc v_sp v_zero v_lets v_asleep v_beat v_stopped v_sent v_line : V} {H : Hp} {p : Addr} (h : H p = some (.dK (K_Own v_m v_a v_b v_pc v_sp v_zero v_lets v_asleep v_beat v_stopped v_sent v_line))) : DGet H p (.str "pc") (some v_pc) := by
  have g := DGet.k (k := Sum.inr "pc") h
  rw [K_Own_pc] at g; exact g
theorem K_Own_sp {v_m v_a v_b v_pc v_sp v_zero v_lets v_asleep v_beat v_stopped v_sent v_line : V} : valV (K_Own v_m v_a v_b v_pc v_sp v_zero v_lets v_asleep v_beat v_stopped v_sent v_line) (Sum.inr "sp" : Key) = some v_sp := by kernel_rfl
theorem K_Own_put_sp {v_m v_a v_b v_pc v_sp v_zero v_lets v_asleep v_beat v_stopped v_sent v_line x_ : V} : putK (K_Own v_m v_a v_b v_pc v_sp v_zero v_lets v_asleep v_beat v_stopped v_sent v_line) (Sum.inr "sp" : Key) x_ = K_Own v_m v_a v_b v_pc x_ v_zero v_lets v_asleep v_beat v_stopped v_sent v_line := by kernel_rfl
theorem K_Own_dput_sp {v_m v_a v_b v_pc v_sp v_zero v_lets v_asleep v_beat v_stopped v_sent v_line x_ : V} {H : Hp} {p : Addr} (h : H p = some (.dK (K_Own v_m v_a v_b v_pc v_sp v_zero v_lets v_asleep v_beat v_stopped v_sent v_line))) : DPut H p (.str "sp") x_ (upd H p (.dK (K_Own v_m v_a v_b v_pc x_ v_zero v_lets v_asleep v_beat v_stopped v_sent v_line))) := by
  have g := DPut.k (k := Sum.inr "sp") (v := x_) h (small_ (by show 12 ≤ 16777215; decide))
  rw [K_Own_put_sp] at g; exact g
theorem K_Own_dget_sp {v_m v_a v_b v_pc v_sp v_zero v_lets v_asleep v_beat v_stopped v_sent v_line : V} {H : Hp} {p : Addr} (h : H p = some (.dK (K_Own v_m v_a v_b v_pc v_sp v_zero v_lets v_asleep v_beat v_stopped v_sent v_line))) : DGet H p (.str "sp") (some v_sp) := by
  have g := DGet.k (k := Sum.inr "sp") h
  rw [K_Own_sp] at g; exact g
theorem K_Own_zero {v_m v_a v_b v_pc v_sp v_zero v_lets v_asleep v_beat v_stopped v_sent v_line : V} : valV (K_Own v_m v_a v_b v_pc v_sp v_zero v_lets v_asleep v_beat v_stopped v_sent v_line) (Sum.inr "zero" : Key) = some v_zero := by kernel_rfl
theorem K_Own_put_zero {v_m v_a v_b v_pc v_sp v_zero v_lets v_asleep v_beat v_stopped v_sent v_line x_ : V} : putK (K_Own v_m v_a v_b v_pc v_sp v_zero v_lets v_asleep v_beat v_stopped v_sent v_line) (Sum.inr "zero" : Key) x_ = K_Own v_m v_a v_b v_pc v_sp x_ v_lets v_asleep v_beat v_stopped v_sent v_line := by kernel_rfl
theorem K_Own_dput_zero {v_m v_a v_b v_pc v_sp v_zero v_lets v_asleep v_beat v_stopped v_sent v_line x_ : V} {H : Hp} {p : Addr} (h : H p = some (.dK (K_Own v_m v_a v_b v_pc v_sp v_zero v_lets v_asleep v_beat v_stopped v_sent v_line))) : DPut H p (.str "zero") x_ (upd H p (.dK (K_Own v_m v_a v_b v_pc v_sp x_ v_lets v_asleep v_beat v_stopped v_sent v_line))) := by
  have g := DPut.k (k := Sum.inr "zero") (v := x_) h (small_ (by show 12 ≤ 16777215; decide))
  rw [K_Own_put_zero] at g; exact g
theorem K_Own_dget_zero {v_m v_a v_b v_pc v_sp v_zero v_lets v_asleep v_beat v_stopped v_sent v_line : V} {H : Hp} {p : Addr} (h : H p = some (.dK (K_Own v_m v_a v_b v_pc v_sp v_zero v_lets v_asleep v_beat v_stopped v_sent v_line))) : DGet H p (.str "zero") (some v_zero) := by
  have g := DGet.k (k := Sum.inr "zero") h
  rw [K_Own_zero] at g; exact g
theorem K_Own_lets {v_m v_a v_b v_pc v_sp v_zero v_lets v_asleep v_beat v_stopped v_sent v_line : V} : valV (K_Own v_m v_a v_b v_pc v_sp v_zero v_lets v_asleep v_beat v_stopped v_sent v_line) (Sum.inr "lets" : Key) = some v_lets := by kernel_rfl
theorem K_Own_put_lets {v_m v_a v_b v_pc v_sp v_zero v_lets v_asleep v_beat v_stopped v_sent v_line x_ : V} : putK (K_Own v_m v_a v_b v_pc v_sp v_zero v_lets v_asleep v_beat v_stopped v_sent v_line) (Sum.inr "lets" : Key) x_ = K_Own v_m v_a v_b v_pc v_sp v_zero x_ v_asleep v_beat v_stopped v_sent v_line := by kernel_rfl
theorem K_Own_dput_lets {v_m v_a v_b v_pc v_sp v_zero v_lets v_asleep v_beat v_stopped v_sent v_line x_ : V} {H : Hp} {p : Addr} (h : H p = some (.dK (K_Own v_m v_a v_b v_pc v_sp v_zero v_lets v_asleep v_beat v_stopped v_sent v_line))) : DPut H p (.str "lets") x_ (upd H p (.dK (K_Own v_m v_a v_b v_pc v_sp v_zero x_ v_asleep v_beat v_stopped v_sent v_line))) := by
  have g := DPut.k (k := Sum.inr "lets") (v := x_) h (small_ (by show 12 ≤ 16777215; decide))
  rw [K_Own_put_lets] at g; exact g
theorem K_Own_dget_lets {v_m v_a v_b v_pc v_sp v_zero v_lets v_asleep v_beat v_stopped v_sent v_line : V} {H : Hp} {p : Addr} (h : H p = some (.dK (K_Own v_m v_a v_b v_pc v_sp v_zero v_lets v_asleep v_beat v_stopped v_sent v_line))) : DGet H p (.str "lets") (some v_lets) := by
  have g := DGet.k (k := Sum.inr "lets") h
  rw [K_Own_lets] at g; exact g
theorem K_Own_asleep {v_m v_a v_b v_pc v_sp v_zero v_lets v_asleep v_beat v_stopped v_sent v_line : V} : valV (K_Own v_m v_a v_b v_pc v_sp v_zero v_lets v_asleep v_beat v_stopped v_sent v_line) (Sum.inr "asleep" : Key) = some v_asleep := by kernel_rfl
theorem K_Own_put_asleep {v_m v_a v_b v_pc v_sp v_zero v_lets v_asleep v_beat v_stopped v_sent v_line x_ : V} : putK (K_Own v_m v_a v_b v_pc v_sp v_zero v_lets v_asleep v_beat v_stopped v_sent v_line) (Sum.inr "asleep" : Key) x_ = K_Own v_m v_a v_b v_pc v_sp v_zero v_lets x_ v_beat v_stopped v_sent v_line := by kernel_rfl
theorem K_Own_dput_asleep {v_m v_a v_b v_pc v_sp v_zero v_lets v_asleep v_beat v_stopped v_sent v_line x_ : V} {H : Hp} {p : Addr} (h : H p = some (.dK (K_Own v_m v_a v_b v_pc v_sp v_zero v_lets v_asleep v_beat v_stopped v_sent v_line))) : DPut H p (.str "asleep") x_ (upd H p (.dK (K_Own v_m v_a v_b v_pc v_sp v_zero v_lets x_ v_beat v_stopped v_sent v_line))) := by
  have g := DPut.k (k := Sum.inr "asleep") (v := x_) h (small_ (by show 12 ≤ 16777215; decide))
  rw [K_Own_put_asleep] at g; exact g
theorem K_Own_dget_asleep {v_m v_a v_b v_pc v_sp v_zero v_lets v_asleep v_beat v_stopped v_sent v_line : V} {H : Hp} {p : Addr} (h : H p = some (.dK (K_Own v_m v_a v_b v_pc v_sp v_zero v_lets v_asleep v_beat v_stopped v_sent v_line))) : DGet H p (.str "asleep") (some v_asleep) := by
  have g := DGet.k (k := Sum.inr "asleep") h
  rw [K_Own_asleep] at g; exact g
theorem K_Own_beat {v_m v_a v_b v_pc v_sp v_zero v_lets v_asleep v_beat v_stopped v_sent v_line : V} : valV (K_Own v_m v_a v_b v_pc v_sp v_zero v_lets v_asleep v_beat v_stopped v_sent v_line) (Sum.inr "beat" : Key) = some v_beat := by kernel_rfl
theorem K_Own_put_beat {v_m v_a v_b v_pc v_sp v_zero v_lets v_asleep v_beat v_stopped v_sent v_line x_ : V} : putK (K_Own v_m v_a v_b v_pc v_sp v_zero v_lets v_asleep v_beat v_stopped v_sent v_line) (Sum.inr "beat" : Key) x_ = K_Own v_m v_a v_b v_pc v_sp v_zero v_lets v_asleep x_ v_stopped v_sent v_line := by kernel_rfl
theorem K_Own_dput_beat {v_m v_a v_b v_pc v_sp v_zero v_lets v_asleep v_beat v_stopped v_sent v_line x_ : V} {H : Hp} {p : Addr} (h : H p = some (.dK (K_Own v_m v_a v_b v_pc v_sp v_zero v_lets v_asleep v_beat v_stopped v_sent v_line))) : DPut H p (.str "beat") x_ (upd H p (.dK (K_Own v_m v_a v_b v_pc v_sp v_zero v_lets v_asleep x_ v_stopped v_sent v_line))) := by
  have g := DPut.k (k := Sum.inr "beat") (v := x_) h (small_ (by show 12 ≤ 16777215; decide))
  rw [K_Own_put_beat] at g; exact g
theorem K_Own_dget_beat {v_m v_a v_b v_pc v_sp v_zero v_lets v_asleep v_beat v_stopped v_sent v_line : V} {H : Hp} {p : Addr} (h : H p = some (.dK (K_Own v_m v_a v_b v_pc v_sp v_zero v_lets v_asleep v_beat v_stopped v_sent v_line))) : DGet H p (.str "beat") (some v_beat) := by
  have g := DGet.k (k := Sum.inr "beat") h
  rw [K_Own_beat] at g; exact g
theorem K_Own_stopped {v_m v_a v_b v_pc v_sp v_zero v_lets v_asleep v_beat v_stopped v_sent v_line : V} : valV (K_Own v_m v_a v_b v_pc v_sp v_zero v_lets v_asleep v_beat v_stopped v_sent v_line) (Sum.inr "stopped" : Key) = some v_stopped := by kernel_rfl
theorem K_Own_put_stopped {v_m v_a v_b v_pc v_sp v_zero v_lets v_asleep v_beat v_stopped v_sent v_line x_ : V} : putK (K_Own v_m v_a v_b v_pc v_sp v_zero v_lets v_asleep v_beat v_stopped v_sent v_line) (Sum.inr "stopped" : Key) x_ = K_Own v_m v_a v_b v_pc v_sp v_zero v_lets v_asleep v_beat x_ v_sent v_line := by kernel_rfl
theorem K_Own_dput_stopped {v_m v_a v_b v_pc v_sp v_zero v_lets v_asleep v_beat v_stopped v_sent v_line x_ : V} {H : Hp} {p : Addr} (h : H p = some (.dK (K_Own v_m v_a v_b v_pc v_sp v_zero v_lets v_asleep v_beat v_stopped v_sent v_line))) : DPut H p (.str "stopped") x_ (upd H p (.dK (K_Own v_m v_a v_b v_pc v_sp v_zero v_lets v_asleep v_beat x_ v_sent v_line))) := by
  have g := DPut.k (k := Sum.inr "stopped") (v := x_) h (small_ (by show 12 ≤ 16777215; decide))
  rw [K_Own_put_stopped] at g; exact g
theorem K_Own_dget_stopped {v_m v_a v_b v_pc v_sp v_zero v_lets v_asleep v_beat v_stopped v_sent v_line : V} {H : Hp} {p : Addr} (h : H p = some (.dK (K_Own v_m v_a v_b v_pc v_sp v_zero v_lets v_asleep v_beat v_stopped v_sent v_line))) : DGet H p (.str "stopped") (some v_stopped) := by
  have g := DGet.k (k := Sum.inr "stopped") h
  rw [K_Own_stopped] at g; exact g
theorem K_Own_sent {v_m v_a v_b v_pc v_sp v_zero v_lets v_asleep v_beat v_stopped v_sent v_line : V} : valV (K_Own v_m v_a v_b v_pc v_sp v_zero v_lets v_asleep v_beat v_stopped v_sent v_line) (Sum.inr "sent" : Key) = some v_sent := by kernel_rfl
theorem K_Own_put_sent {v_m v_a v_b v_pc v_sp v_zero v_lets v_asleep v_beat v_stopped v_sent v_line x_ : V} : putK (K_Own v_m v_a v_b v_pc v_sp v_zero v_lets v_asleep v_beat v_stopped v_sent v_line) (Sum.inr "sent" : Key) x_ = K_Own v_m v_a v_b v_pc v_sp v_zero v_lets v_asleep v_beat v_stopped x_ v_line := by kernel_rfl
theorem K_Own_dput_sent {v_m v_a v_b v_pc v_sp v_zero v_lets v_asleep v_beat v_stopped v_sent v_line x_ : V} {H : Hp} {p : Addr} (h : H p = some (.dK (K_Own v_m v_a v_b v_pc v_sp v_zero v_lets v_asleep v_beat v_stopped v_sent v_line))) : DPut H p (.str "sent") x_ (upd H p (.dK (K_Own v_m v_a v_b v_pc v_sp v_zero v_lets v_asleep v_beat v_stopped x_ v_line))) := by
  have g := DPut.k (k := Sum.inr "sent") (v := x_) h (small_ (by show 12 ≤ 16777215; decide))
  rw [K_Own_put_sent] at g; exact g
theorem K_Own_dget_sent {v_m v_a v_b v_pc v_sp v_zero v_lets v_asleep v_beat v_stopped v_sent v_line : V} {H : Hp} {p : Addr} (h : H p = some (.dK (K_Own v_m v_a v_b v_pc v_sp v_zero v_lets v_asleep v_beat v_stopped v_sent v_line))) : DGet H p (.str "sent") (some v_sent) := by
  have g := DGet.k (k := Sum.inr "sent") h
  rw [K_Own_sent] at g; exact g
theorem K_Own_line {v_m v_a v_b v_pc v_sp v_zero v_lets v_asleep v_beat v_stopped v_sent v_line : V} : valV (K_Own v_m v_a v_b v_pc v_sp v_zero v_lets v_asleep v_beat v_stopped v_sent v_line) (Sum.inr "line" : Key) = some v_line := by kernel_rfl
theorem K_Own_put_line {v_m v_a v_b v_pc v_sp v_zero v_lets v_asleep v_beat v_stopped v_sent v_line x_ : V} : putK (K_Own v_m v_a v_b v_pc v_sp v_zero v_lets v_asleep v_beat v_stopped v_sent v_line) (Sum.inr "line" : Key) x_ = K_Own v_m v_a v_b v_pc v_sp v_zero v_lets v_asleep v_beat v_stopped v_sent x_ := by kernel_rfl
theorem K_Own_dput_line {v_m v_a v_b v_pc v_sp v_zero v_lets v_asleep v_beat v_stopped v_sent v_line x_ : V} {H : Hp} {p : Addr} (h : H p = some (.dK (K_Own v_m v_a v_b v_pc v_sp v_zero v_lets v_asleep v_beat v_stopped v_sent v_line))) : DPut H p (.str "line") x_ (upd H p (.dK (K_Own v_m v_a v_b v_pc v_sp v_zero v_lets v_asleep v_beat v_stopped v_sent x_))) := by
  have g := DPut.k (k := Sum.inr "line") (v := x_) h (small_ (by show 12 ≤ 16777215; decide))
  rw [K_Own_put_line] at g; exact g
theorem K_Own_dget_line {v_m v_a v_b v_pc v_sp v_zero v_lets v_asleep v_beat v_stopped v_sent v_line : V} {H : Hp} {p : Addr} (h : H p = some (.dK (K_Own v_m v_a v_b v_pc v_sp v_zero v_lets v_asleep v_beat v_stopped v_sent v_line))) : DGet H p (.str "line") (some v_line) := by
  have g := DGet.k (k := Sum.inr "line") h
  rw [K_Own_line] at g; exact g
abbrev q_Own (K : PySem.W.Frag) (p : Addr) (A : A_Own) (D : R_Own) : As := aC p (.dK (K_Own (.ref A.m) (.int D.a) (.int D.b) (.int D.pc) (.int D.sp) (.bl D.zero) (.bl D.lets) (.bl D.asleep) (.int D.beat) A.stopped (.ref A.sent) (.ref A.line)))
abbrev O_Own (K : PySem.W.Frag) (p : Addr) (A : A_Own) (D : R_Own) : List As := [aC p (.dK (K_Own (.ref A.m) (.int D.a) (.int D.b) (.int D.pc) (.int D.sp) (.bl D.zero) (.bl D.lets) (.bl D.asleep) (.int D.beat) A.stopped (.ref A.sent) (.ref A.line))), aL A.m D.m, aV A.stopped D.stopped, aL A.sent D.sent, aC A.line (.dK (lineK D.line))]
def a_Own (K : PySem.W.Frag) (A : A_Own) (D : R_Own) : As := aG (O_Own K A.p_ A D)
def m__law_go_by_l1 (stand_ : R_Own) (k272 : Int) (s271 : (List Int) × Int) : Option ((List Int) × Int) :=
  (atI s271.1 (772 : Int)).bind fun x291 =>
  (some ((lookI stand_.line (s271.2 + (1 : Int))).getD x291)).bind fun n299 =>
  ((andO (some (decide ((n299 % (2 : Int)) = (1 : Int)))) ((atI s271.1 (772 : Int)).bind fun x381 => some (decide ((x381 % (2 : Int)) = (0 : Int))))).bind fun b388 =>
  if b388 = true then
    (atI s271.1 (770 : Int)).bind fun x406 =>
    (setX s271.1 (770 : Int) (Builtin.bitOr x406 (2 : Int))).bind fun y413 =>
    some y413
  else
    some s271.1).bind fun (j359 : (List Int)) =>
  (setX j359 (772 : Int) n299).bind fun y421 =>
  ((atI y421 (769 : Int)).bind fun x440 => some (decide ((0 : Int) < x440))).bind fun b447 =>
  if b447 = true then
    (atI y421 (768 : Int)).bind fun x459 =>
    (setX y421 (768 : Int) (x459 + (1 : Int))).bind fun y466 =>
    ((atI y466 (768 : Int)).bind fun x492 => (atI y466 (769 : Int)).bind fun x499 => some (decide (x499 ≤ x492))).bind fun b506 =>
    if b506 = true then
      (setX y466 (768 : Int) (0 : Int)).bind fun y525 =>
      (atI y525 (770 : Int)).bind fun x533 =>
      (setX y525 (770 : Int) (Builtin.bitOr x533 (1 : Int))).bind fun y540 =>
      some (y540, s271.2 + (1 : Int))
    else
      some (y466, s271.2 + (1 : Int))
  else
    some (y421, s271.2 + (1 : Int))
def m__law_go_by (stand_ : R_Own) (many_ : Int) : Option (R_Own) :=
  if -(2 ^ 62) ≤ many_ ∧ many_ < 2 ^ 62 then
  (forS (m__law_go_by_l1 stand_) (rangeL 0 (Int.toNat many_)) (stand_.m, stand_.beat)).bind fun (s271 : (List Int) × Int) =>
  some ({ stand_ with m := s271.1, beat := s271.2 }) else none
section
variable {P : Program} {w : World} {K : PySem.W.Frag} {mg : Str → Option Value} {base : Heap}
def sp__law_go_by (K : PySem.W.Frag) : Sp := fun vs H Q E_ => ∃ (Astand_ : A_Own) (stand_ : R_Own) (many_ : Int) (r_ : R_Own), vs = [.ref Astand_.p_, (.int many_)] ∧ (oks H [a_Own K Astand_ stand_] ∧ (owns [a_Own K Astand_ stand_]).Nodup ∧ m__law_go_by stand_ many_ = some r_ ∧ (∀ (H' : Hp) (Bstand_ : A_Own), Sep (owns [a_Own K Astand_ stand_]) H H' [a_Own K (Bstand_.w_line Astand_.p_ Astand_.line) r_] → Q .non H'))
abbrev N__law_go_by : List Str := ["_law_stand", "_law_many", "_law_m", "_law_k", "_law_level"]
theorem sc__law_go_by : FnScope N__law_go_by ["_law_stand", "_law_many"] (defScope s__law_go_by) := ⟨rfl, rfl, rfl, by decide +kernel, rfl, by decide +kernel, by decide +kernel⟩
theorem ok__law_go_by (T : Txt K mg) : Ok P w K mg base CX0 1 (He.fAd K ("_law_go_by", none)) ["_law_stand", "_law_many"] (sp__law_go_by K) := by
  obtain ⟨fd, F⟩ := T.d__law_go_by
  refine ⟨fd, F.ok sc__law_go_by (fun vs H Q E h => by obtain ⟨Astand_, stand_, many_, r_, rfl, _⟩ := h; rfl) (fun cdv A_ outer s_ H vs Q E hr h => ?_), F.bindsN (fun _ _ _ _ _ _ us hl => match us, hl with | [_, _], _ => rfl), F.kp⟩
  obtain ⟨Astand_, stand_, many_, r_, rfl, h⟩ := h
  have hu := hu_of hr
  refine ⟨_, PSs.nox (pss_cons (ps_set (i := 2) sc__law_go_by.nd rfl (.inl rfl) (pe_dget hu (pv 0) pe_str (fun _ _ => rfl)))
  (pss_one (ps_for PassesOwn.never rfl (pi_range1 (by rfl) T.f_range (pa_cons (pv 1) pa_nil)) (pg_name (i := 3) sc__law_go_by.nd rfl (.inl rfl)) (pss_cons (ps_dput hu (pv 0) pe_str (pe_op op_add (pe_dget hu (pv 0) pe_str (fun _ _ => rfl)) pe_int) rfl)
    (pss_cons (ps_set (i := 4) sc__law_go_by.nd rfl (.inl rfl) (pe_dget2 hu (pe_dget hu (pv 0) pe_str (fun _ _ => rfl)) (pe_dget hu (pv 0) pe_str (fun _ _ => rfl)) (pe_ix ix_list (pv 2) pe_int (fun _ _ => rfl)) ⟨rfl, rfl, rfl, rfl⟩))
    (C8.pss_cut (ps_if (PW.pt (pw_and (pt_cmpR op_eq (pe_op op_mod (pv 4) pe_int) pe_int (nomark _)) (pw_and1 (pt_cmpR op_eq (pe_op op_mod (pe_ix ix_list (pv 2) pe_int (fun _ _ => rfl)) pe_int) pe_int (nomark _))))) (pss_one (ps_asg (pe_op op_or (pe_ix ix_list (pv 2) pe_int (fun _ _ => rfl)) pe_int) (pg_sub (pv 2) pe_int set_list))) pss_nil)
    (pss_cons (ps_asg (pv 4) (pg_sub (pv 2) pe_int set_list))
    (pss_one (ps_if (pt_cmpR op_gt (pe_ix ix_list (pv 2) pe_int (fun _ _ => rfl)) pe_int (nomark _)) (pss_cons (ps_asg (pe_op op_add (pe_ix ix_list (pv 2) pe_int (fun _ _ => rfl)) pe_int) (pg_sub (pv 2) pe_int set_list))
      (pss_one (ps_if (pt_cmpR op_ge (pe_ix ix_list (pv 2) pe_int (fun _ _ => rfl)) (pe_ix ix_list (pv 2) pe_int (fun _ _ => rfl)) (nomark _)) (pss_cons (ps_asg pe_int (pg_sub (pv 2) pe_int set_list))
        (pss_one (ps_asg (pe_op op_or (pe_ix ix_list (pv 2) pe_int (fun _ _ => rfl)) pe_int) (pg_sub (pv 2) pe_int set_list)))) pss_nil))) pss_nil))))))))), ?_⟩
  obtain ⟨hp1, hp2, hm, q⟩ := h
  have hs := Sep.pre (L := [a_Own K Astand_ stand_]) ⟨hp1, hp2⟩
  generalize owns [a_Own K Astand_ stand_] = S0_ at hs q
  unfold m__law_go_by at hm
  clear hp1 hp2
  replace hs := hs.opn 0 rfl
  replace hs : Sep S0_ H H (O_Own K Astand_.p_ Astand_ stand_) := hs
  have f6 := hs.cel 0 rfl
  refine ⟨_, rfl, _, _, rfl, K_Own_dget_m f6, ?_⟩
  obtain ⟨g7, hm⟩ := gd hm
  obtain ⟨z273, eL274, hm⟩ := bnd hm
  replace hs : Sep S0_ H H (O_Own K Astand_.p_ Astand_ stand_) := hs.tk 5
  refine ⟨_, rfl, _, rfl, g7.1, g7.2, for_rangeN (lo := (0 : Int)) (n := (Int.toNat many_)) (fun i280 σ282 H281 => ∃ (s271 : (List Int) × Int) (o278 : Option V) (o279 : Option V), forS (m__law_go_by_l1 stand_) ((rangeL 0 (Int.toNat many_)).drop i280) s271 = some z273 ∧ Sep S0_ H H281 [aC Astand_.p_ (.dK (K_Own (.ref Astand_.m) (.int stand_.a) (.int stand_.b) (.int stand_.pc) (.int stand_.sp) (.bl stand_.zero) (.bl stand_.lets) (.bl stand_.asleep) (.int s271.2) Astand_.stopped (.ref Astand_.sent) (.ref Astand_.line))), aL Astand_.m s271.1, aV Astand_.stopped stand_.stopped, aL Astand_.sent stand_.sent, aC Astand_.line (.dK (lineK stand_.line))] ∧ σ282 = [some (.ref Astand_.p_), some (.int many_), some (.ref Astand_.m), o278, o279]) ⟨(stand_.m, stand_.beat), _, _, eL274, hs, rfl⟩ ?_ ?_⟩
  · rintro i280 σ282 H281 hi283 ⟨s271, o278, o279, hf275, hs, rfl⟩
    obtain ⟨cN276, hm, hf275⟩ := forS_s (range_get hi283) hf275
    generalize hk_ : (0 : Int) + ((i280 : Nat) : Int) = k272 at hm ⊢
    unfold m__law_go_by_l1 at hm
    have f285 := hs.cel 0 rfl
    have f286 := hs.cel 0 rfl
    refine ⟨_, rfl, _, _, rfl, K_Own_dget_beat f285, _, _, rfl, rfl, _, rfl, _, _, rfl, K_Own_dput_beat f286, ?_⟩
    try dsimp only
    generalize ee_ : upd H281 Astand_.p_ _ = H287
    replace hs := (hs.putC 0 rfl trivial (.dK (K_Own (.ref Astand_.m) (.int stand_.a) (.int stand_.b) (.int stand_.pc) (.int stand_.sp) (.bl stand_.zero) (.bl stand_.lets) (.bl stand_.asleep) (.int (s271.2 + (1 : Int))) Astand_.stopped (.ref Astand_.sent) (.ref Astand_.line)))).cast ee_
    clear ee_
    have f288 := hs.cel 0 rfl
    have f289 := hs.cel 4 rfl
    have f290 := hs.cel 0 rfl
    obtain ⟨x291, ex291, hm⟩ := bnd hm
    obtain ⟨vs292, hl293, hv294⟩ := hs.lst 1 rfl
    obtain ⟨u295, hu296, hx297⟩ := hv294.ix ex291
    have hx297 : u295 = (.int x291) := hx297
    subst hx297
    have f298 := hs.cel 4 rfl
    refine ⟨_, rfl, _, _, rfl, K_Own_dget_line f288, _, rfl, .inl ⟨_, .inl f289⟩, _, rfl, _, _, rfl, K_Own_dget_beat f290, _, rfl, _, _, _, _, rfl, rfl, SqL.of hl293, hu296, _, .inl ⟨_, Sum.inl (s271.2 + (1 : Int)), .inl f298, rfl, (valV_lineK _ _).symm⟩, ?_⟩
    rw [getI_map]
    obtain ⟨n299, en299, hm⟩ := bnd hm
    try dsimp only
    rw [Option.some.inj en299]
    obtain ⟨j359, es360, hm⟩ := bnd hm
    refine ⟨fun σ' H361 => Sep S0_ H H361 [aC Astand_.p_ (.dK (K_Own (.ref Astand_.m) (.int stand_.a) (.int stand_.b) (.int stand_.pc) (.int stand_.sp) (.bl stand_.zero) (.bl stand_.lets) (.bl stand_.asleep) (.int (s271.2 + (1 : Int))) Astand_.stopped (.ref Astand_.sent) (.ref Astand_.line))), aL Astand_.m j359, aV Astand_.stopped stand_.stopped, aL Astand_.sent stand_.sent, aC Astand_.line (.dK (lineK stand_.line))] ∧ σ' = [some (.ref Astand_.p_), some (.int many_), some (.ref Astand_.m), some (.int k272), some (.int n299)], ?_, ?_⟩
    · have hm := es360
      obtain ⟨b388, eb388, hm⟩ := bnd hm
      try dsimp only [tNext, gName]
      try with_reducible refine iteF ?_
      refine if_use hs (b := b388) ?_ ?_
      · skip
        refine evT_and eb388 (fun b389 hb390 => ?_) (fun b391 hb392 => ?_)
        · skip
          refine fun H393 hs Q_ hQ394 => ?_
          have hm := hb390
          refine ⟨_, rfl, _, _, rfl, rfl, (show (0 : Int) < (2 : Int) by decide), rfl, _, dI, ?_⟩
          rw [Option.some.inj hm]
          exact hQ394 _ (hs.tl 0)
        · skip
          refine fun H395 hs Q_ hQ396 => ?_
          have hm := hb392
          obtain ⟨x397, ex397, hm⟩ := bnd hm
          obtain ⟨vs398, hl399, hv400⟩ := hs.lst 1 rfl
          obtain ⟨u401, hu402, hx403⟩ := hv400.ix ex397
          have hx403 : u401 = (.int x397) := hx403
          subst hx403
          refine ⟨_, rfl, _, _, _, _, rfl, rfl, SqL.of hl399, hu402, _, _, rfl, rfl, (show (0 : Int) < (2 : Int) by decide), rfl, _, dI, ?_⟩
          rw [Option.some.inj hm]
          exact hQ396 _ (hs.tl 0)
      intro H405 hs
      refine iteBt (fun c404 => ?_) (fun c404 => ?_)
      · replace hm := ift c404 hm
        obtain ⟨x406, ex406, hm⟩ := bnd hm
        obtain ⟨vs407, hl408, hv409⟩ := hs.lst 1 rfl
        obtain ⟨u410, hu411, hx412⟩ := hv409.ix ex406
        have hx412 : u410 = (.int x406) := hx412
        subst hx412
        obtain ⟨y413, ey413, hm⟩ := bnd hm
        obtain ⟨vs414, hl415, hv416⟩ := hs.lst 1 rfl
        obtain ⟨j417, hj418, ey419⟩ := setX_ix hv416.length ey413
        refine ⟨_, rfl, _, _, _, _, rfl, rfl, SqL.of hl408, hu411, _, _, rfl, rfl, _, rfl, _, _, _, _, rfl, rfl, hl415, hj418, ?_⟩
        try dsimp only
        generalize ee_ : upd H405 Astand_.m _ = H420
        replace hs := (hs.putL (ys := y413) 1 rfl hl415 (by rw [ey419]; exact hv416.set j417 imI)).cast ee_
        clear ee_
        replace hs : Sep S0_ H H420 [aC Astand_.p_ (.dK (K_Own (.ref Astand_.m) (.int stand_.a) (.int stand_.b) (.int stand_.pc) (.int stand_.sp) (.bl stand_.zero) (.bl stand_.lets) (.bl stand_.asleep) (.int (s271.2 + (1 : Int))) Astand_.stopped (.ref Astand_.sent) (.ref Astand_.line))), aL Astand_.m y413, aV Astand_.stopped stand_.stopped, aL Astand_.sent stand_.sent, aC Astand_.line (.dK (lineK stand_.line))] := hs.tk 5
        obtain rfl := Option.some.inj hm
        exact ⟨hs, rfl⟩
      · replace hm := ife c404 hm
        replace hs : Sep S0_ H H405 [aC Astand_.p_ (.dK (K_Own (.ref Astand_.m) (.int stand_.a) (.int stand_.b) (.int stand_.pc) (.int stand_.sp) (.bl stand_.zero) (.bl stand_.lets) (.bl stand_.asleep) (.int (s271.2 + (1 : Int))) Astand_.stopped (.ref Astand_.sent) (.ref Astand_.line))), aL Astand_.m s271.1, aV Astand_.stopped stand_.stopped, aL Astand_.sent stand_.sent, aC Astand_.line (.dK (lineK stand_.line))] := hs.tk 5
        obtain rfl := Option.some.inj hm
        exact ⟨hs, rfl⟩
    rintro σ' H361 ⟨hs, rfl⟩
    obtain ⟨y421, ey421, hm⟩ := bnd hm
    obtain ⟨vs422, hl423, hv424⟩ := hs.lst 1 rfl
    obtain ⟨j425, hj426, ey427⟩ := setX_ix hv424.length ey421
    refine ⟨_, rfl, _, rfl, _, _, _, _, rfl, rfl, hl423, hj426, ?_⟩
    try dsimp only
    generalize ee_ : upd H361 Astand_.m _ = H428
    replace hs := (hs.putL (ys := y421) 1 rfl hl423 (by rw [ey427]; exact hv424.set j425 imI)).cast ee_
    clear ee_
    obtain ⟨b447, eb447, hm⟩ := bnd hm
    try dsimp only [tNext, gName]
    try with_reducible refine iteF ?_
    refine if_use hs (b := b447) ?_ ?_
    · skip
      refine fun H448 hs Q_ hQ449 => ?_
      have hm := eb447
      obtain ⟨x450, ex450, hm⟩ := bnd hm
      obtain ⟨vs451, hl452, hv453⟩ := hs.lst 1 rfl
      obtain ⟨u454, hu455, hx456⟩ := hv453.ix ex450
      have hx456 : u454 = (.int x450) := hx456
      subst hx456
      refine ⟨_, rfl, _, _, _, _, rfl, rfl, SqL.of hl452, hu455, _, _, rfl, rfl, _, rfl, ?_⟩
      rw [Option.some.inj hm]
      exact hQ449 _ (hs.tl 0)
    intro H458 hs
    refine iteBt (fun c457 => ?_) (fun c457 => ?_)
    · replace hm := ift c457 hm
      obtain ⟨x459, ex459, hm⟩ := bnd hm
      obtain ⟨vs460, hl461, hv462⟩ := hs.lst 1 rfl
      obtain ⟨u463, hu464, hx465⟩ := hv462.ix ex459
      have hx465 : u463 = (.int x459) := hx465
      subst hx465
      obtain ⟨y466, ey466, hm⟩ := bnd hm
      obtain ⟨vs467, hl468, hv469⟩ := hs.lst 1 rfl
      obtain ⟨j470, hj471, ey472⟩ := setX_ix hv469.length ey466
      refine ⟨_, rfl, _, _, _, _, rfl, rfl, SqL.of hl461, hu464, _, _, rfl, rfl, _, rfl, _, _, _, _, rfl, rfl, hl468, hj471, ?_⟩
      try dsimp only
      generalize ee_ : upd H458 Astand_.m _ = H473
      replace hs := (hs.putL (ys := y466) 1 rfl hl468 (by rw [ey472]; exact hv469.set j470 imI)).cast ee_
      clear ee_
      obtain ⟨b506, eb506, hm⟩ := bnd hm
      try dsimp only [tNext, gName]
      try with_reducible refine iteF ?_
      refine if_use hs (b := b506) ?_ ?_
      · skip
        refine fun H507 hs Q_ hQ508 => ?_
        have hm := eb506
        obtain ⟨x509, ex509, hm⟩ := bnd hm
        obtain ⟨vs510, hl511, hv512⟩ := hs.lst 1 rfl
        obtain ⟨u513, hu514, hx515⟩ := hv512.ix ex509
        have hx515 : u513 = (.int x509) := hx515
        subst hx515
        obtain ⟨x516, ex516, hm⟩ := bnd hm
        obtain ⟨vs517, hl518, hv519⟩ := hs.lst 1 rfl
        obtain ⟨u520, hu521, hx522⟩ := hv519.ix ex516
        have hx522 : u520 = (.int x516) := hx522
        subst hx522
        refine ⟨_, rfl, _, _, _, _, rfl, rfl, SqL.of hl511, hu514, _, rfl, _, _, _, _, rfl, rfl, SqL.of hl518, hu521, _, _, rfl, rfl, _, rfl, ?_⟩
        rw [Option.some.inj hm]
        exact hQ508 _ (hs.tl 0)
      intro H524 hs
      refine iteBt (fun c523 => ?_) (fun c523 => ?_)
      · replace hm := ift c523 hm
        obtain ⟨y525, ey525, hm⟩ := bnd hm
        obtain ⟨vs526, hl527, hv528⟩ := hs.lst 1 rfl
        obtain ⟨j529, hj530, ey531⟩ := setX_ix hv528.length ey525
        refine ⟨_, rfl, _, _, _, _, rfl, rfl, hl527, hj530, ?_⟩
        try dsimp only
        generalize ee_ : upd H524 Astand_.m _ = H532
        replace hs := (hs.putL (ys := y525) 1 rfl hl527 (by rw [ey531]; exact hv528.set j529 imI)).cast ee_
        clear ee_
        obtain ⟨x533, ex533, hm⟩ := bnd hm
        obtain ⟨vs534, hl535, hv536⟩ := hs.lst 1 rfl
        obtain ⟨u537, hu538, hx539⟩ := hv536.ix ex533
        have hx539 : u537 = (.int x533) := hx539
        subst hx539
        obtain ⟨y540, ey540, hm⟩ := bnd hm
        obtain ⟨vs541, hl542, hv543⟩ := hs.lst 1 rfl
        obtain ⟨j544, hj545, ey546⟩ := setX_ix hv543.length ey540
        refine ⟨_, rfl, _, _, _, _, rfl, rfl, SqL.of hl535, hu538, _, _, rfl, rfl, _, rfl, _, _, _, _, rfl, rfl, hl542, hj545, ?_⟩
        try dsimp only
        generalize ee_ : upd H532 Astand_.m _ = H547
        replace hs := (hs.putL (ys := y540) 1 rfl hl542 (by rw [ey546]; exact hv543.set j544 imI)).cast ee_
        clear ee_
        replace hs : Sep S0_ H H547 [aC Astand_.p_ (.dK (K_Own (.ref Astand_.m) (.int stand_.a) (.int stand_.b) (.int stand_.pc) (.int stand_.sp) (.bl stand_.zero) (.bl stand_.lets) (.bl stand_.asleep) (.int (s271.2 + (1 : Int))) Astand_.stopped (.ref Astand_.sent) (.ref Astand_.line))), aL Astand_.m y540, aV Astand_.stopped stand_.stopped, aL Astand_.sent stand_.sent, aC Astand_.line (.dK (lineK stand_.line))] := hs.tk 5
        obtain rfl := Option.some.inj hm
        exact ⟨(y540, s271.2 + (1 : Int)), _, _, hf275, hs, rfl⟩
      · replace hm := ife c523 hm
        replace hs : Sep S0_ H H524 [aC Astand_.p_ (.dK (K_Own (.ref Astand_.m) (.int stand_.a) (.int stand_.b) (.int stand_.pc) (.int stand_.sp) (.bl stand_.zero) (.bl stand_.lets) (.bl stand_.asleep) (.int (s271.2 + (1 : Int))) Astand_.stopped (.ref Astand_.sent) (.ref Astand_.line))), aL Astand_.m y466, aV Astand_.stopped stand_.stopped, aL Astand_.sent stand_.sent, aC Astand_.line (.dK (lineK stand_.line))] := hs.tk 5
        obtain rfl := Option.some.inj hm
        exact ⟨(y466, s271.2 + (1 : Int)), _, _, hf275, hs, rfl⟩
    · replace hm := ife c457 hm
      replace hs : Sep S0_ H H458 [aC Astand_.p_ (.dK (K_Own (.ref Astand_.m) (.int stand_.a) (.int stand_.b) (.int stand_.pc) (.int stand_.sp) (.bl stand_.zero) (.bl stand_.lets) (.bl stand_.asleep) (.int (s271.2 + (1 : Int))) Astand_.stopped (.ref Astand_.sent) (.ref Astand_.line))), aL Astand_.m y421, aV Astand_.stopped stand_.stopped, aL Astand_.sent stand_.sent, aC Astand_.line (.dK (lineK stand_.line))] := hs.tk 5
      obtain rfl := Option.some.inj hm
      exact ⟨(y421, s271.2 + (1 : Int)), _, _, hf275, hs, rfl⟩
  rintro σ282 H281 ⟨s271, o278, o279, hf275, hs, rfl⟩
  have ez_ := forS_e (Nat.le_of_eq range_len) hf275
  subst ez_
  replace hs : Sep S0_ H H281 [a_Own K Astand_ ({ stand_ with m := s271.1, beat := s271.2 })] := hs.cl [4,4,4,4,4] 5 (by kernel_rfl)
  replace hs : Sep S0_ H H281 [a_Own K Astand_ ({ stand_ with m := s271.1, beat := s271.2 })] := hs.tk 1
  obtain rfl := Option.some.inj hm
  exact q H281 Astand_ hs
end
def m__law_barred_l1 (stand_ : R_Own) (k38 : Int) (s37 : Unit) : Option (Ctl ((Option (List V))) (Unit)) :=
  if (((773 : Int) < k38) ∨ (k38 < (0 : Int))) then
    some (.rt (some ([(.str "far"), (.int stand_.pc), (.int k38)] : List V)))
  else
    some (.nx ())
def m__law_barred_l2 (stand_ : R_Own) (k144 : Int) (s143 : Unit) : Option (Ctl ((Option (List V))) (Unit)) :=
  if (((773 : Int) < k144) ∨ (k144 < (0 : Int))) then
    some (.rt (some ([(.str "far"), (.int stand_.pc), (.int k144)] : List V)))
  else
    if ((k144 < (512 : Int)) ∨ (k144 = (772 : Int))) then
      (atI ([("still" : Str), ("flash" : Str)] : (List Str)) (if decide (k144 < (512 : Int)) = true then (1 : Int) else 0)).bind fun x207 =>
      some (.rt (some ([(.str x207), (.int stand_.pc), (.int k144)] : List V)))
    else
      some (.nx ())
def m__law_barred (stand_ : R_Own) (reads_ : (List Int)) (puts_ : (List Int)) : Option ((Option (List V))) :=
  thenC (forC (m__law_barred_l1 stand_) reads_ ()) (fun r => some r) fun (s37 : Unit) =>
  thenC (forC (m__law_barred_l2 stand_) puts_ ()) (fun r => some r) fun (s143 : Unit) =>
  some none
section
variable {P : Program} {w : World} {K : PySem.W.Frag} {mg : Str → Option Value} {base : Heap}
def sp__law_barred (K : PySem.W.Frag) : Sp := fun vs H Q E_ => ∃ (Astand_ : A_Own) (stand_ : R_Own) (preads_ : Addr) (reads_ : (List Int)) (pputs_ : Addr) (puts_ : (List Int)) (r_ : (Option (List V))), vs = [.ref Astand_.p_, .ref preads_, .ref pputs_] ∧ (oks H [a_Own K Astand_ stand_, aL preads_ reads_, aL pputs_ puts_] ∧ (owns [a_Own K Astand_ stand_, aL preads_ reads_, aL pputs_ puts_]).Nodup ∧ m__law_barred stand_ reads_ puts_ = some r_ ∧ (∀ (H' : Hp) (vz : V), Sep (owns [a_Own K Astand_ stand_, aL preads_ reads_, aL pputs_ puts_]) H H' [aV vz r_, a_Own K Astand_ stand_, aL preads_ reads_, aL pputs_ puts_] → Q vz H'))
abbrev N__law_barred : List Str := ["_law_stand", "_law_reads", "_law_puts", "_law_address"]
theorem sc__law_barred : FnScope N__law_barred ["_law_stand", "_law_reads", "_law_puts"] (defScope s__law_barred) := ⟨rfl, rfl, rfl, by decide +kernel, rfl, by decide +kernel, by decide +kernel⟩
theorem ok__law_barred (T : Txt K mg) : Ok P w K mg base CX0 1 (He.fAd K ("_law_barred", none)) ["_law_stand", "_law_reads", "_law_puts"] (sp__law_barred K) := by
  obtain ⟨fd, F⟩ := T.d__law_barred
  refine ⟨fd, F.ok sc__law_barred (fun vs H Q E h => by obtain ⟨Astand_, stand_, preads_, reads_, pputs_, puts_, r_, rfl, _⟩ := h; rfl) (fun cdv A_ outer s_ H vs Q E hr h => ?_), F.bindsN (fun _ _ _ _ _ _ us hl => match us, hl with | [_, _, _], _ => rfl), F.kp⟩
  obtain ⟨Astand_, stand_, preads_, reads_, pputs_, puts_, r_, rfl, h⟩ := h
  have hu := hu_of hr
  refine ⟨_, PSs.nox (pss_cons (ps_for PassesOwn.never rfl (pi_list (pv 1)) (pg_name (i := 3) sc__law_barred.nd rfl (.inl rfl)) (pss_one (ps_if (PW.pt (pw_or (pt_cmpR op_gt (pv 3) pe_int (nomark _)) (pw_or1 (pt_cmpR op_lt (pv 3) pe_int (nomark _))))) (pss_one (ps_ret (pe_tup (pa_cons pe_str (pa_cons (pe_dget hu (pv 0) pe_str (fun _ _ => rfl)) (pa_cons (pv 3) pa_nil)))))) pss_nil)))
  (pss_cons (ps_for PassesOwn.never rfl (pi_list (pv 2)) (pg_name (i := 3) sc__law_barred.nd rfl (.inl rfl)) (pss_cons (ps_if (PW.pt (pw_or (pt_cmpR op_gt (pv 3) pe_int (nomark _)) (pw_or1 (pt_cmpR op_lt (pv 3) pe_int (nomark _))))) (pss_one (ps_ret (pe_tup (pa_cons pe_str (pa_cons (pe_dget hu (pv 0) pe_str (fun _ _ => rfl)) (pa_cons (pv 3) pa_nil)))))) pss_nil)
    (pss_one (ps_if (PW.pt (pw_or (pt_cmpR op_lt (pv 3) pe_int (nomark _)) (pw_or1 (pt_cmpR op_eq (pv 3) pe_int (nomark _))))) (pss_one (ps_ret (pe_tup (pa_cons (pe_ix ix_list (pe_lst (pa_cons pe_str (pa_cons pe_str pa_nil))) (pe_callTy call_int1 (by rfl) T.f_int (by decide +kernel) (pa_cons (pe_cmpR op_lt (pv 3) pe_int (nomark _)) pa_nil)) (fun _ _ => rfl)) (pa_cons (pe_dget hu (pv 0) pe_str (fun _ _ => rfl)) (pa_cons (pv 3) pa_nil)))))) pss_nil))))
  (pss_one (ps_ret pe_non)))), ?_⟩
  obtain ⟨hp1, hp2, hm, q⟩ := h
  have hs := Sep.pre (L := [a_Own K Astand_ stand_, aL preads_ reads_, aL pputs_ puts_]) ⟨hp1, hp2⟩
  generalize owns [a_Own K Astand_ stand_, aL preads_ reads_, aL pputs_ puts_] = S0_ at hs q
  unfold m__law_barred at hm
  clear hp1 hp2
  replace hs := hs.opn 0 rfl
  replace hs : Sep S0_ H H (O_Own K Astand_.p_ Astand_ stand_ ++ [aL preads_ reads_, aL pputs_ puts_]) := hs
  obtain ⟨vs8, lv9, hs⟩ := hs.fix 5 rfl
  have hw10 := (hs.wal 5 rfl).1
  obtain ⟨z39, eL40, hmO43⟩ := thenC_eq hm
  replace hs : Sep S0_ H H (O_Own K Astand_.p_ Astand_ stand_ ++ [aW preads_ vs8 reads_, aL pputs_ puts_]) := hs.tk 7
  refine ⟨_, rfl, _, rfl, ⟨_, SqL.of hw10⟩, for_listN (K := K) (a := preads_) (xs := vs8) (fun i45 σ47 H46 => ∃ (s37 : Unit) (o44 : Option V), forC (m__law_barred_l1 stand_) (reads_.drop i45) s37 = some z39 ∧ Sep S0_ H H46 (O_Own K Astand_.p_ Astand_ stand_ ++ [aW preads_ vs8 reads_, aL pputs_ puts_]) ∧ σ47 = [some (.ref Astand_.p_), some (.ref preads_), some (.ref pputs_), o44]) ⟨(), _, eL40, hs, rfl⟩ (fun i45 σ47 H46 _ pz => by obtain ⟨s37, o44, hf41, hs, rfl⟩ := pz; exact SqL.of (hs.wal 5 rfl).1) ?_ ?_⟩
  · rintro i45 y50 σ47 H46 hi48 ⟨s37, o44, hf41, hs, rfl⟩
    obtain ⟨k38, hx_, hy_⟩ := (hs.wal 5 rfl).2.nthv hi48
    obtain ⟨cN42, hm, hf41⟩ := forC_s hx_ hf41
    have hy_ : y50 = (.int k38) := hy_
    subst hy_
    unfold m__law_barred_l1 at hm
    try dsimp only [tNext, gName]
    try with_reducible refine iteF ?_
    refine if_use hs (b := decide ((((773 : Int) < k38) ∨ (k38 < (0 : Int))))) ?_ ?_
    · skip
      refine ev_or (P := ((773 : Int) < k38)) (R := (k38 < (0 : Int))) ?_ (fun c64 => ?_)
      · skip
        refine fun H65 hs Q_ hQ66 => ?_
        refine ⟨_, rfl, _, _, rfl, rfl, _, rfl, ?_⟩
        exact hQ66 _ (hs.tl 0)
      · skip
        refine fun H67 hs Q_ hQ68 => ?_
        refine ⟨_, rfl, _, _, rfl, rfl, _, rfl, ?_⟩
        exact hQ68 _ (hs.tl 0)
    intro H70 hs
    refine iteD (fun c69 => ?_) (fun c69 => ?_)
    · replace hm := ift c69 hm
      have f71 := hs.cel 0 rfl
      refine ⟨_, rfl, _, _, rfl, K_Own_dget_pc f71, _, rfl, (by show 3 ≤ sizeLine; decide), fun t72 n73 => ?_⟩
      try dsimp only
      generalize ee_ : upd H70 t72 _ = H74
      replace hs := (hs.newTup n73 [(.str "far"), (.int stand_.pc), (.int k38)]).cast ee_
      clear ee_
      replace hs := hs.addV (v := .ref t72) (x := ((some ([(.str "far"), (.int stand_.pc), (.int k38)] : List V)) : (Option (List V)))) (imO (imF (hs.tup 0 rfl)))
      replace hs := hs.unfix 7 rfl
      replace hs : Sep S0_ H H74 [a_Own K Astand_ stand_, aV (.ref t72) ((some ([(.str "far"), (.int stand_.pc), (.int k38)] : List V)) : (Option (List V))), aT t72 [(.str "far"), (.int stand_.pc), (.int k38)], aL preads_ reads_, aL pputs_ puts_] := hs.cl [6,6,6,6,6] 5 (by kernel_rfl)
      replace hs : Sep S0_ H H74 [aV (.ref t72) ((some ([(.str "far"), (.int stand_.pc), (.int k38)] : List V)) : (Option (List V))), a_Own K Astand_ stand_, aL preads_ reads_, aL pputs_ puts_] := hs.pick [4, 4, 2, 3] 4 (by kernel_rfl)
      obtain rfl := Option.some.inj hm
      have hc_ : z39 = .rt _ := hf41
      subst hc_
      obtain rfl := Option.some.inj hmO43
      exact q H74 (.ref t72) hs
    · replace hm := ife c69 hm
      replace hs : Sep S0_ H H70 (O_Own K Astand_.p_ Astand_ stand_ ++ [aW preads_ vs8 reads_, aL pputs_ puts_]) := hs.tk 7
      obtain rfl := Option.some.inj hm
      exact ⟨(), _, hf41, hs, rfl⟩
  rintro σ47 H46 ⟨s37, o44, hf41, hs, rfl⟩
  have ez_ := forC_e (Nat.le_of_eq lv9.symm) hf41
  subst ez_
  have hm := hmO43
  replace hs := hs.unfix 5 rfl
  obtain ⟨vs77, lv78, hs⟩ := hs.fix 6 rfl
  have hw79 := (hs.wal 6 rfl).1
  obtain ⟨z145, eL146, hmO149⟩ := thenC_eq hm
  replace hs : Sep S0_ H H46 (O_Own K Astand_.p_ Astand_ stand_ ++ [aL preads_ reads_, aW pputs_ vs77 puts_]) := hs.tk 7
  refine ⟨_, rfl, _, rfl, ⟨_, SqL.of hw79⟩, for_listN (K := K) (a := pputs_) (xs := vs77) (fun i151 σ153 H152 => ∃ (s143 : Unit) (o150 : Option V), forC (m__law_barred_l2 stand_) (puts_.drop i151) s143 = some z145 ∧ Sep S0_ H H152 (O_Own K Astand_.p_ Astand_ stand_ ++ [aL preads_ reads_, aW pputs_ vs77 puts_]) ∧ σ153 = [some (.ref Astand_.p_), some (.ref preads_), some (.ref pputs_), o150]) ⟨(), _, eL146, hs, rfl⟩ (fun i151 σ153 H152 _ pz => by obtain ⟨s143, o150, hf147, hs, rfl⟩ := pz; exact SqL.of (hs.wal 6 rfl).1) ?_ ?_⟩
  · rintro i151 y156 σ153 H152 hi154 ⟨s143, o150, hf147, hs, rfl⟩
    obtain ⟨k144, hx_, hy_⟩ := (hs.wal 6 rfl).2.nthv hi154
    obtain ⟨cN148, hm, hf147⟩ := forC_s hx_ hf147
    have hy_ : y156 = (.int k144) := hy_
    subst hy_
    unfold m__law_barred_l2 at hm
    try dsimp only [tNext, gName]
    try with_reducible refine iteF ?_
    refine if_use hs (b := decide ((((773 : Int) < k144) ∨ (k144 < (0 : Int))))) ?_ ?_
    · skip
      refine ev_or (P := ((773 : Int) < k144)) (R := (k144 < (0 : Int))) ?_ (fun c170 => ?_)
      · skip
        refine fun H171 hs Q_ hQ172 => ?_
        refine ⟨_, rfl, _, _, rfl, rfl, _, rfl, ?_⟩
        exact hQ172 _ (hs.tl 0)
      · skip
        refine fun H173 hs Q_ hQ174 => ?_
        refine ⟨_, rfl, _, _, rfl, rfl, _, rfl, ?_⟩
        exact hQ174 _ (hs.tl 0)
    intro H176 hs
    refine iteD (fun c175 => ?_) (fun c175 => ?_)
    · replace hm := ift c175 hm
      have f177 := hs.cel 0 rfl
      refine ⟨_, rfl, _, _, rfl, K_Own_dget_pc f177, _, rfl, (by show 3 ≤ sizeLine; decide), fun t178 n179 => ?_⟩
      try dsimp only
      generalize ee_ : upd H176 t178 _ = H180
      replace hs := (hs.newTup n179 [(.str "far"), (.int stand_.pc), (.int k144)]).cast ee_
      clear ee_
      replace hs := hs.addV (v := .ref t178) (x := ((some ([(.str "far"), (.int stand_.pc), (.int k144)] : List V)) : (Option (List V)))) (imO (imF (hs.tup 0 rfl)))
      replace hs := hs.unfix 8 rfl
      replace hs : Sep S0_ H H180 [a_Own K Astand_ stand_, aV (.ref t178) ((some ([(.str "far"), (.int stand_.pc), (.int k144)] : List V)) : (Option (List V))), aT t178 [(.str "far"), (.int stand_.pc), (.int k144)], aL preads_ reads_, aL pputs_ puts_] := hs.cl [6,6,6,6,6] 5 (by kernel_rfl)
      replace hs : Sep S0_ H H180 [aV (.ref t178) ((some ([(.str "far"), (.int stand_.pc), (.int k144)] : List V)) : (Option (List V))), a_Own K Astand_ stand_, aL preads_ reads_, aL pputs_ puts_] := hs.pick [4, 4, 2, 3] 4 (by kernel_rfl)
      obtain rfl := Option.some.inj hm
      have hc_ : z145 = .rt _ := hf147
      subst hc_
      obtain rfl := Option.some.inj hmO149
      exact q H180 (.ref t178) hs
    · replace hm := ife c175 hm
      try dsimp only [tNext, gName]
      try with_reducible refine iteF ?_
      refine if_use hs (b := decide (((k144 < (512 : Int)) ∨ (k144 = (772 : Int))))) ?_ ?_
      · skip
        refine ev_or (P := (k144 < (512 : Int))) (R := (k144 = (772 : Int))) ?_ (fun c196 => ?_)
        · skip
          refine fun H197 hs Q_ hQ198 => ?_
          refine ⟨_, rfl, _, _, rfl, rfl, _, rfl, ?_⟩
          exact hQ198 _ (hs.tl 0)
        · skip
          refine fun H199 hs Q_ hQ200 => ?_
          refine ⟨_, rfl, rfl, _, dI, ?_⟩
          exact hQ200 _ (hs.tl 0)
      intro H202 hs
      refine iteD (fun c201 => ?_) (fun c201 => ?_)
      · replace hm := ift c201 hm
        refine ⟨(by show 2 ≤ sizeLine; decide), fun p203 n204 => ?_⟩
        try dsimp only
        generalize ee_ : upd H202 p203 _ = H205
        replace hs := (hs.newL (ys := (([("still" : Str), ("flash" : Str)] : (List Str)) : (List Str))) n204 ((.cons imS (.cons imS .nil)))).cast ee_
        clear ee_
        refine ⟨_, rfl, _, _, rfl, rfl, .inr ⟨_, congrArg (fun z => [z]) rfl, ?_⟩⟩
        obtain ⟨x207, ex207, hm⟩ := bnd hm
        obtain ⟨vs208, hl209, hv210⟩ := hs.lst 0 rfl
        obtain ⟨u211, hu212, hx213⟩ := hv210.ix ex207
        have hx213 : u211 = (.str x207) := hx213
        subst hx213
        have f214 := hs.cel 1 rfl
        refine ⟨_, _, _, _, rfl, rfl, SqL.of hl209, hu212, _, rfl, _, _, rfl, K_Own_dget_pc f214, _, rfl, (by show 3 ≤ sizeLine; decide), fun t215 n216 => ?_⟩
        try dsimp only
        generalize ee_ : upd H205 t215 _ = H217
        replace hs := (hs.newTup n216 [(.str x207), (.int stand_.pc), (.int k144)]).cast ee_
        clear ee_
        replace hs := hs.addV (v := .ref t215) (x := ((some ([(.str x207), (.int stand_.pc), (.int k144)] : List V)) : (Option (List V)))) (imO (imF (hs.tup 0 rfl)))
        replace hs := hs.unfix 9 rfl
        replace hs : Sep S0_ H H217 [a_Own K Astand_ stand_, aV (.ref t215) ((some ([(.str x207), (.int stand_.pc), (.int k144)] : List V)) : (Option (List V))), aT t215 [(.str x207), (.int stand_.pc), (.int k144)], aL p203 (([("still" : Str), ("flash" : Str)] : (List Str)) : (List Str)), aL preads_ reads_, aL pputs_ puts_] := hs.cl [7,7,7,7,7] 5 (by kernel_rfl)
        replace hs : Sep S0_ H H217 [aV (.ref t215) ((some ([(.str x207), (.int stand_.pc), (.int k144)] : List V)) : (Option (List V))), a_Own K Astand_ stand_, aL preads_ reads_, aL pputs_ puts_] := hs.pick [5, 5, 2, 3] 4 (by kernel_rfl)
        obtain rfl := Option.some.inj hm
        have hc_ : z145 = .rt _ := hf147
        subst hc_
        obtain rfl := Option.some.inj hmO149
        exact q H217 (.ref t215) hs
      · replace hm := ife c201 hm
        replace hs : Sep S0_ H H202 (O_Own K Astand_.p_ Astand_ stand_ ++ [aL preads_ reads_, aW pputs_ vs77 puts_]) := hs.tk 7
        obtain rfl := Option.some.inj hm
        exact ⟨(), _, hf147, hs, rfl⟩
  rintro σ153 H152 ⟨s143, o150, hf147, hs, rfl⟩
  have ez_ := forC_e (Nat.le_of_eq lv78.symm) hf147
  subst ez_
  have hm := hmO149
  replace hs := hs.unfix 6 rfl
  replace hs := hs.addV (v := .non) (x := (none : (Option (List V)))) imN
  replace hs : Sep S0_ H H152 [a_Own K Astand_ stand_, aV .non (none : (Option (List V))), aL preads_ reads_, aL pputs_ puts_] := hs.cl [5,5,5,5,5] 5 (by kernel_rfl)
  replace hs : Sep S0_ H H152 [aV .non (none : (Option (List V))), a_Own K Astand_ stand_, aL preads_ reads_, aL pputs_ puts_] := hs.pick [3, 3, 2, 3] 4 (by kernel_rfl)
  obtain rfl := Option.some.inj hm
  exact q H152 .non hs
end
def m__law_lay (stand_ : R_Own) (address_ : Int) (word_ : Int) : Option (R_Own) :=
  (if (address_ = (770 : Int)) then
    (atI stand_.m (770 : Int)).bind fun x52 =>
    (atI stand_.m (770 : Int)).bind fun x59 =>
    (setX stand_.m (770 : Int) (x52 - (Builtin.bitAnd x59 word_))).bind fun y66 =>
    some y66
  else
    (setX stand_.m address_ word_).bind fun y74 =>
    some y74).bind fun (j43 : (List Int)) =>
  if (address_ = (773 : Int)) then
    (snoc stand_.sent (stand_.beat, word_)).bind fun y98 =>
    some ({ stand_ with m := j43, sent := y98 })
  else
    some ({ stand_ with m := j43 })
section
variable {P : Program} {w : World} {K : PySem.W.Frag} {mg : Str → Option Value} {base : Heap}
def sp__law_lay (K : PySem.W.Frag) : Sp := fun vs H Q E_ => ∃ (Astand_ : A_Own) (stand_ : R_Own) (address_ : Int) (word_ : Int) (r_ : R_Own), vs = [.ref Astand_.p_, (.int address_), (.int word_)] ∧ (oks H [a_Own K Astand_ stand_] ∧ (owns [a_Own K Astand_ stand_]).Nodup ∧ m__law_lay stand_ address_ word_ = some r_ ∧ (∀ (H' : Hp) (Bstand_ : A_Own), Sep (owns [a_Own K Astand_ stand_]) H H' [a_Own K (Bstand_.w_line Astand_.p_ Astand_.line) r_] → Q .non H'))
abbrev N__law_lay : List Str := ["_law_stand", "_law_address", "_law_word", "_law_m"]
theorem sc__law_lay : FnScope N__law_lay ["_law_stand", "_law_address", "_law_word"] (defScope s__law_lay) := ⟨rfl, rfl, rfl, by decide +kernel, rfl, by decide +kernel, by decide +kernel⟩
theorem ok__law_lay (T : Txt K mg) : Ok P w K mg base CX0 1 (He.fAd K ("_law_lay", none)) ["_law_stand", "_law_address", "_law_word"] (sp__law_lay K) := by
  obtain ⟨fd, F⟩ := T.d__law_lay
  refine ⟨fd, F.ok sc__law_lay (fun vs H Q E h => by obtain ⟨Astand_, stand_, address_, word_, r_, rfl, _⟩ := h; rfl) (fun cdv A_ outer s_ H vs Q E hr h => ?_), F.bindsN (fun _ _ _ _ _ _ us hl => match us, hl with | [_, _, _], _ => rfl), F.kp⟩
  obtain ⟨Astand_, stand_, address_, word_, r_, rfl, h⟩ := h
  have hu := hu_of hr
  refine ⟨_, PSs.nox (pss_cons (ps_set (i := 3) sc__law_lay.nd rfl (.inl rfl) (pe_dget hu (pv 0) pe_str (fun _ _ => rfl)))
  (C8.pss_cut (ps_if (pt_cmpR op_eq (pv 1) pe_int (nomark _)) (pss_one (ps_asg (pe_op op_sub (pe_ix ix_list (pv 3) pe_int (fun _ _ => rfl)) (pe_op op_and (pe_ix ix_list (pv 3) pe_int (fun _ _ => rfl)) (pv 2))) (pg_sub (pv 3) pe_int set_list))) (pss_one (ps_asg (pv 2) (pg_sub (pv 3) (pv 1) set_list))))
  (pss_one (ps_if (pt_cmpR op_eq (pv 1) pe_int (nomark _)) (pss_one (ps_expr (pe_bm PySem.F.plainAttrs_list PySem.F.slot_list_append PySem.F.type_list_append mt_append (pe_dget hu (pv 0) pe_str (fun _ _ => rfl)) (pa_cons (pe_tup (pa_cons (pe_dget hu (pv 0) pe_str (fun _ _ => rfl)) (pa_cons (pv 2) pa_nil))) pa_nil)))) pss_nil)))), ?_⟩
  obtain ⟨hp1, hp2, hm, q⟩ := h
  have hs := Sep.pre (L := [a_Own K Astand_ stand_]) ⟨hp1, hp2⟩
  generalize owns [a_Own K Astand_ stand_] = S0_ at hs q
  unfold m__law_lay at hm
  clear hp1 hp2
  replace hs := hs.opn 0 rfl
  replace hs : Sep S0_ H H (O_Own K Astand_.p_ Astand_ stand_) := hs
  have f6 := hs.cel 0 rfl
  refine ⟨_, rfl, _, _, rfl, K_Own_dget_m f6, ?_⟩
  obtain ⟨j43, es44, hm⟩ := bnd hm
  refine ⟨fun σ' H45 => Sep S0_ H H45 [q_Own K Astand_.p_ Astand_ stand_, aL Astand_.m j43, aV Astand_.stopped stand_.stopped, aL Astand_.sent stand_.sent, aC Astand_.line (.dK (lineK stand_.line))] ∧ σ' = [some (.ref Astand_.p_), some (.int address_), some (.int word_), some (.ref Astand_.m)], ?_, ?_⟩
  · have hm := es44
    try dsimp only [tNext, gName]
    try with_reducible refine iteF ?_
    refine if_use hs (b := decide ((address_ = (770 : Int)))) ?_ ?_
    · skip
      refine fun H48 hs Q_ hQ49 => ?_
      refine ⟨_, rfl, rfl, _, dI, ?_⟩
      exact hQ49 _ (hs.tl 0)
    intro H51 hs
    refine iteD (fun c50 => ?_) (fun c50 => ?_)
    · replace hm := ift c50 hm
      obtain ⟨x52, ex52, hm⟩ := bnd hm
      obtain ⟨vs53, hl54, hv55⟩ := hs.lst 1 rfl
      obtain ⟨u56, hu57, hx58⟩ := hv55.ix ex52
      have hx58 : u56 = (.int x52) := hx58
      subst hx58
      obtain ⟨x59, ex59, hm⟩ := bnd hm
      obtain ⟨vs60, hl61, hv62⟩ := hs.lst 1 rfl
      obtain ⟨u63, hu64, hx65⟩ := hv62.ix ex59
      have hx65 : u63 = (.int x59) := hx65
      subst hx65
      obtain ⟨y66, ey66, hm⟩ := bnd hm
      obtain ⟨vs67, hl68, hv69⟩ := hs.lst 1 rfl
      obtain ⟨j70, hj71, ey72⟩ := setX_ix hv69.length ey66
      refine ⟨_, rfl, _, _, _, _, rfl, rfl, SqL.of hl54, hu57, _, rfl, _, _, _, _, rfl, rfl, SqL.of hl61, hu64, _, rfl, _, _, rfl, rfl, _, _, rfl, rfl, _, rfl, _, _, _, _, rfl, rfl, hl68, hj71, ?_⟩
      try dsimp only
      generalize ee_ : upd H51 Astand_.m _ = H73
      replace hs := (hs.putL (ys := y66) 1 rfl hl68 (by rw [ey72]; exact hv69.set j70 imI)).cast ee_
      clear ee_
      replace hs : Sep S0_ H H73 [q_Own K Astand_.p_ Astand_ stand_, aL Astand_.m y66, aV Astand_.stopped stand_.stopped, aL Astand_.sent stand_.sent, aC Astand_.line (.dK (lineK stand_.line))] := hs.tk 5
      obtain rfl := Option.some.inj hm
      exact ⟨hs, rfl⟩
    · replace hm := ife c50 hm
      obtain ⟨y74, ey74, hm⟩ := bnd hm
      obtain ⟨vs75, hl76, hv77⟩ := hs.lst 1 rfl
      obtain ⟨j78, hj79, ey80⟩ := setX_ix hv77.length ey74
      refine ⟨_, rfl, _, rfl, _, rfl, _, _, _, _, rfl, rfl, hl76, hj79, ?_⟩
      try dsimp only
      generalize ee_ : upd H51 Astand_.m _ = H81
      replace hs := (hs.putL (ys := y74) 1 rfl hl76 (by rw [ey80]; exact hv77.set j78 imI)).cast ee_
      clear ee_
      replace hs : Sep S0_ H H81 [q_Own K Astand_.p_ Astand_ stand_, aL Astand_.m y74, aV Astand_.stopped stand_.stopped, aL Astand_.sent stand_.sent, aC Astand_.line (.dK (lineK stand_.line))] := hs.tk 5
      obtain rfl := Option.some.inj hm
      exact ⟨hs, rfl⟩
  rintro σ' H45 ⟨hs, rfl⟩
  try dsimp only [tNext, gName]
  try with_reducible refine iteF ?_
  refine if_use hs (b := decide ((address_ = (773 : Int)))) ?_ ?_
  · skip
    refine fun H84 hs Q_ hQ85 => ?_
    refine ⟨_, rfl, rfl, _, dI, ?_⟩
    exact hQ85 _ (hs.tl 0)
  intro H87 hs
  refine iteD (fun c86 => ?_) (fun c86 => ?_)
  · replace hm := ift c86 hm
    have f88 := hs.cel 0 rfl
    have f89 := (hs.lst 3 rfl).choose_spec.1
    have f93 := hs.cel 0 rfl
    refine ⟨_, rfl, _, _, rfl, K_Own_dget_sent f88, .inl ⟨rfl, _, SqL.of f89⟩, _, rfl, _, _, rfl, K_Own_dget_beat f93, _, rfl, (by show 2 ≤ sizeLine; decide), fun t94 n95 => ?_⟩
    try dsimp only
    generalize ee_ : upd H87 t94 _ = H96
    replace hs := (hs.newTup n95 [(.int stand_.beat), (.int word_)]).cast ee_
    clear ee_
    obtain ⟨y98, ey98, hm⟩ := bnd hm
    obtain ⟨vs90, hl91, hv92⟩ := hs.lst 4 rfl
    obtain ⟨g99, e100⟩ := snoc_eq ey98
    refine ⟨_, _, _, rfl, rfl, hl91, small_ (by have := hv92.length; omega), ?_⟩
    try dsimp only
    generalize ee_ : upd H96 Astand_.sent _ = H101
    replace hs := (hs.putL (ys := y98) 4 rfl hl91 (by rw [e100]; exact hv92.snoc (im2 (hs.tup 0 rfl) imI imI))).cast ee_
    clear ee_
    replace hs : Sep S0_ H H101 [a_Own K Astand_ ({ stand_ with m := j43, sent := y98 }), aT t94 [(.int stand_.beat), (.int word_)]] := hs.cl [5,5,5,5,5] 5 (by kernel_rfl)
    replace hs : Sep S0_ H H101 [a_Own K Astand_ ({ stand_ with m := j43, sent := y98 })] := hs.tk 1
    obtain rfl := Option.some.inj hm
    exact q H101 Astand_ hs
  · replace hm := ife c86 hm
    replace hs : Sep S0_ H H87 [a_Own K Astand_ ({ stand_ with m := j43 })] := hs.cl [4,4,4,4,4] 5 (by kernel_rfl)
    replace hs : Sep S0_ H H87 [a_Own K Astand_ ({ stand_ with m := j43 })] := hs.tk 1
    obtain rfl := Option.some.inj hm
    exact q H87 Astand_ hs
end
def m__law_halts (stand_ : R_Own) (cause_ : (Option (List V))) : Option (Str × R_Own) :=
  some (("stopped" : Str), { stand_ with stopped := cause_ })
section
variable {P : Program} {w : World} {K : PySem.W.Frag} {mg : Str → Option Value} {base : Heap}
def sp__law_halts (K : PySem.W.Frag) : Sp := fun vs H Q E_ => ∃ (Astand_ : A_Own) (stand_ : R_Own) (vcause_ : V) (cause_ : (Option (List V))) (r_ : Str × R_Own), vs = [.ref Astand_.p_, vcause_] ∧ (Imm.at_ H vcause_ cause_ ∧ oks H [a_Own K Astand_ stand_] ∧ (owns [a_Own K Astand_ stand_]).Nodup ∧ m__law_halts stand_ cause_ = some r_ ∧ (∀ (H' : Hp) (Bstand_ : A_Own), Sep (owns [a_Own K Astand_ stand_]) H H' [a_Own K (Bstand_.w_line Astand_.p_ Astand_.line) r_.2] → Q (.str r_.1) H'))
abbrev N__law_halts : List Str := ["_law_stand", "_law_cause"]
theorem sc__law_halts : FnScope N__law_halts ["_law_stand", "_law_cause"] (defScope s__law_halts) := ⟨rfl, rfl, rfl, by decide +kernel, rfl, by decide +kernel, by decide +kernel⟩
theorem ok__law_halts (T : Txt K mg) : Ok P w K mg base CX0 1 (He.fAd K ("_law_halts", none)) ["_law_stand", "_law_cause"] (sp__law_halts K) := by
  obtain ⟨fd, F⟩ := T.d__law_halts
  refine ⟨fd, F.ok sc__law_halts (fun vs H Q E h => by obtain ⟨Astand_, stand_, vcause_, cause_, r_, rfl, _⟩ := h; rfl) (fun cdv A_ outer s_ H vs Q E hr h => ?_), F.bindsN (fun _ _ _ _ _ _ us hl => match us, hl with | [_, _], _ => rfl), F.kp⟩
  obtain ⟨Astand_, stand_, vcause_, cause_, r_, rfl, h⟩ := h
  have hu := hu_of hr
  refine ⟨_, PSs.nox (pss_cons (ps_dput hu (pv 0) pe_str (pv 1) rfl)
  (pss_one (ps_ret pe_str))), ?_⟩
  obtain ⟨icause_, hp1, hp2, hm, q⟩ := h
  have hs := Sep.pre (L := [a_Own K Astand_ stand_]) ⟨hp1, hp2⟩
  generalize owns [a_Own K Astand_ stand_] = S0_ at hs q
  unfold m__law_halts at hm
  clear hp1 hp2
  replace hs := hs.addV icause_
  replace hs := hs.opn 1 rfl
  replace hs : Sep S0_ H H ([aV vcause_ cause_] ++ O_Own K Astand_.p_ Astand_ stand_) := hs
  have f7 := hs.cel 1 rfl
  refine ⟨_, rfl, _, rfl, _, _, rfl, K_Own_dput_stopped f7, ?_⟩
  try dsimp only
  generalize ee_ : upd H Astand_.p_ _ = H8
  replace hs := (hs.putC 1 rfl trivial (.dK (K_Own (.ref Astand_.m) (.int stand_.a) (.int stand_.b) (.int stand_.pc) (.int stand_.sp) (.bl stand_.zero) (.bl stand_.lets) (.bl stand_.asleep) (.int stand_.beat) vcause_ (.ref Astand_.sent) (.ref Astand_.line)))).cast ee_
  clear ee_
  replace hs : Sep S0_ H H8 [a_Own K (A_Own.mk Astand_.p_ Astand_.m vcause_ Astand_.sent Astand_.line) ({ stand_ with stopped := cause_ }), aV Astand_.stopped stand_.stopped] := hs.cl [5,5,2,4,4] 5 (by kernel_rfl)
  replace hs : Sep S0_ H H8 [a_Own K (A_Own.mk Astand_.p_ Astand_.m vcause_ Astand_.sent Astand_.line) ({ stand_ with stopped := cause_ })] := hs.tk 1
  obtain rfl := Option.some.inj hm
  exact q H8 (A_Own.mk Astand_.p_ Astand_.m vcause_ Astand_.sent Astand_.line) hs
end
def m__law_done (stand_ : R_Own) (op_ : Int) (x_ : Int) (words_ : (List Int)) (puts_ : (List Int)) : Option (R_Own) :=
  (if (op_ ∈ ([(3 : Int), (9 : Int), (17 : Int)] : (List Int))) then
    (atI puts_ (0 : Int)).bind fun x67 =>
    (m__law_lay stand_ x67 stand_.a).bind fun r74 =>
    some (r74.m, r74.a, r74.b, r74.pc, r74.sp, r74.zero, r74.lets, r74.asleep, r74.beat, r74.stopped, r74.sent, r74.line)
  else
    some (stand_.m, stand_.a, stand_.b, stand_.pc, stand_.sp, stand_.zero, stand_.lets, stand_.asleep, stand_.beat, stand_.stopped, stand_.sent, stand_.line)).bind fun (j41 : (List Int) × Int × Int × Int × Int × Bool × Bool × Bool × Int × (Option (List V)) × (List (Int × Int)) × (List (Int × Int))) =>
  (if (op_ = (15 : Int)) then
    (atI puts_ (0 : Int)).bind fun x120 =>
    (m__law_lay (R_Own.mk j41.1 j41.2.1 j41.2.2.1 j41.2.2.2.1 j41.2.2.2.2.1 j41.2.2.2.2.2.1 j41.2.2.2.2.2.2.1 j41.2.2.2.2.2.2.2.1 j41.2.2.2.2.2.2.2.2.1 j41.2.2.2.2.2.2.2.2.2.1 j41.2.2.2.2.2.2.2.2.2.2.1 j41.2.2.2.2.2.2.2.2.2.2.2) x120 j41.2.2.2.1).bind fun r128 =>
    some (r128.m, r128.a, r128.b, r128.pc, r128.sp, r128.zero, r128.lets, r128.asleep, r128.beat, r128.stopped, r128.sent, r128.line)
  else
    some (j41.1, j41.2.1, j41.2.2.1, j41.2.2.2.1, j41.2.2.2.2.1, j41.2.2.2.2.2.1, j41.2.2.2.2.2.2.1, j41.2.2.2.2.2.2.2.1, j41.2.2.2.2.2.2.2.2.1, j41.2.2.2.2.2.2.2.2.2.1, j41.2.2.2.2.2.2.2.2.2.2.1, j41.2.2.2.2.2.2.2.2.2.2.2)).bind fun (j104 : (List Int) × Int × Int × Int × Int × Bool × Bool × Bool × Int × (Option (List V)) × (List (Int × Int)) × (List (Int × Int))) =>
  (if (op_ ∈ ([(15 : Int), (17 : Int)] : (List Int))) then
    some (j104.2.2.2.2.1 - (1 : Int))
  else
    some j104.2.2.2.2.1).bind fun (j155 : Int) =>
  (if (op_ ∈ ([(16 : Int), (18 : Int), (21 : Int)] : (List Int))) then
    some (j155 + (words_.length : Int))
  else
    some j155).bind fun (j199 : Int) =>
  (if ((op_ ∈ ([(12 : Int), (15 : Int)] : (List Int))) ∨ (((op_ = (13 : Int)) ∧ (j104.2.2.2.2.2.1 = true)) ∨ ((op_ = (14 : Int)) ∧ ((32768 : Int) ≤ stand_.a)))) then
    some x_
  else
    some j104.2.2.2.1).bind fun (j422 : Int) =>
  (if (op_ ∈ ([(16 : Int), (21 : Int)] : (List Int))) then
    (atI words_ (-1 : Int)).bind fun x667 =>
    some x667
  else
    some j422).bind fun (j648 : Int) =>
  (if (op_ = (21 : Int)) then
    (atI words_ (0 : Int)).bind fun x716 =>
    some (decide ((x716 % (2 : Int)) = (1 : Int)), true)
  else
    some (j104.2.2.2.2.2.1, j104.2.2.2.2.2.2.1)).bind fun (j702 : Bool × Bool) =>
  (if (op_ = (19 : Int)) then
    some true
  else
    some j104.2.2.2.2.2.2.2.1).bind fun (j739 : Bool) =>
  (if (op_ = (20 : Int)) then
    some (decide ((x_ % (2 : Int)) = (1 : Int)))
  else
    some j702.2).bind fun (j758 : Bool) =>
  (if (op_ ∈ ([(10 : Int), (11 : Int)] : (List Int))) then
    some stand_.a
  else
    some j104.2.2.1).bind fun (j787 : Int) =>
  (if (¬ (words_ = ([] : List Int))) then
    (atI words_ (0 : Int)).bind fun x876 =>
    if ([(1, x_), (11, stand_.b), (22, stand_.a / (2 : Int))] : List (Int × Int)).length < 1000 then
    if ([(2, x876), (8, x876), (18, x876), (4, (stand_.a + x876) % (65536 : Int)), (5, (stand_.a - x876) % (65536 : Int)), (6, Builtin.bitAnd stand_.a x876), (7, Builtin.bitXor stand_.a x876)] : List (Int × Int)).length < 1000 then
    some (updI ([(1, x_), (11, stand_.b), (22, stand_.a / (2 : Int))] : List (Int × Int)) ([(2, x876), (8, x876), (18, x876), (4, (stand_.a + x876) % (65536 : Int)), (5, (stand_.a - x876) % (65536 : Int)), (6, Builtin.bitAnd stand_.a x876), (7, Builtin.bitXor stand_.a x876)] : List (Int × Int))) else none else none
  else
    some ([(1, x_), (11, stand_.b), (22, stand_.a / (2 : Int))] : List (Int × Int))).bind fun (j854 : (List (Int × Int))) =>
  if ((lookI j854 op_).isSome = true) then
    (lookI j854 op_).bind fun x905 =>
    (lookI j854 op_).bind fun x909 =>
    some (R_Own.mk j104.1 x905 j787 j648 j199 (decide (x909 = (0 : Int))) j758 j739 j104.2.2.2.2.2.2.2.2.1 j104.2.2.2.2.2.2.2.2.2.1 j104.2.2.2.2.2.2.2.2.2.2.1 j104.2.2.2.2.2.2.2.2.2.2.2)
  else
    some (R_Own.mk j104.1 j104.2.1 j787 j648 j199 j702.1 j758 j739 j104.2.2.2.2.2.2.2.2.1 j104.2.2.2.2.2.2.2.2.2.1 j104.2.2.2.2.2.2.2.2.2.2.1 j104.2.2.2.2.2.2.2.2.2.2.2)
section
variable {P : Program} {w : World} {K : PySem.W.Frag} {mg : Str → Option Value} {base : Heap}
def sp__law_done (K : PySem.W.Frag) : Sp := fun vs H Q E_ => ∃ (Astand_ : A_Own) (stand_ : R_Own) (op_ : Int) (x_ : Int) (pwords_ : Addr) (words_ : (List Int)) (pputs_ : Addr) (puts_ : (List Int)) (r_ : R_Own), vs = [.ref Astand_.p_, (.int op_), (.int x_), .ref pwords_, .ref pputs_] ∧ (oks H [a_Own K Astand_ stand_, aL pwords_ words_, aL pputs_ puts_] ∧ (owns [a_Own K Astand_ stand_, aL pwords_ words_, aL pputs_ puts_]).Nodup ∧ m__law_done stand_ op_ x_ words_ puts_ = some r_ ∧ (∀ (H' : Hp) (Bstand_ : A_Own), Sep (owns [a_Own K Astand_ stand_, aL pwords_ words_, aL pputs_ puts_]) H H' [a_Own K (Bstand_.w_line Astand_.p_ Astand_.line) r_, aL pwords_ words_, aL pputs_ puts_] → Q .non H'))
abbrev N__law_done : List Str := ["_law_stand", "_law_op", "_law_x", "_law_words", "_law_puts", "_law_a", "_law_b", "_law_given", "_law_w"]
theorem sc__law_done : FnScope N__law_done ["_law_stand", "_law_op", "_law_x", "_law_words", "_law_puts"] (defScope s__law_done) := ⟨rfl, rfl, rfl, by decide +kernel, rfl, by decide +kernel, by decide +kernel⟩
theorem ok__law_done (T : Txt K mg) : Ok P w K mg base CX0 2 (He.fAd K ("_law_done", none)) ["_law_stand", "_law_op", "_law_x", "_law_words", "_law_puts"] (sp__law_done K) := by
  obtain ⟨_, G__law_lay, b__law_lay, kp__law_lay⟩ := ok__law_lay (P := P) (w := w) (base := base) T
  obtain ⟨fd, F⟩ := T.d__law_done
  refine ⟨fd, F.ok sc__law_done (fun vs H Q E h => by obtain ⟨Astand_, stand_, op_, x_, pwords_, words_, pputs_, puts_, r_, rfl, _⟩ := h; rfl) (fun cdv A_ outer s_ H vs Q E hr h => ?_), F.bindsN (fun _ _ _ _ _ _ us hl => match us, hl with | [_, _, _, _, _], _ => rfl), F.kp⟩
  obtain ⟨Astand_, stand_, op_, x_, pwords_, words_, pputs_, puts_, r_, rfl, h⟩ := h
  have hu := hu_of hr
  refine ⟨_, PSs.nox (pss_cons (ps_par (i := 5) (j := 6) (by rfl) sc__law_done.nd rfl rfl (by decide) rfl rfl (pa_cons (pe_dget hu (pv 0) pe_str (fun _ _ => rfl)) (pa_cons (pe_dget hu (pv 0) pe_str (fun _ _ => rfl)) pa_nil)) (by rfl))
  (C8.pss_cut (ps_if (pt_cmpR op_in_seq (pv 1) (pe_lst (pa_cons pe_int (pa_cons pe_int (pa_cons pe_int pa_nil)))) (by rfl)) (pss_one (ps_expr (pe_call G__law_lay (hr.mono (by decide)) (by rfl) T.g__law_lay kp__law_lay b__law_lay .nil pass0 (pa_cons (pv 0) (pa_cons (pe_ix ix_list (pv 4) pe_int (fun _ _ => rfl)) (pa_cons (pv 5) pa_nil)))))) pss_nil)
  (C8.pss_cut (ps_if (pt_cmpR op_eq (pv 1) pe_int (nomark _)) (pss_one (ps_expr (pe_call G__law_lay (hr.mono (by decide)) (by rfl) T.g__law_lay kp__law_lay b__law_lay .nil pass0 (pa_cons (pv 0) (pa_cons (pe_ix ix_list (pv 4) pe_int (fun _ _ => rfl)) (pa_cons (pe_dget hu (pv 0) pe_str (fun _ _ => rfl)) pa_nil)))))) pss_nil)
  (C8.pss_cut (ps_if (pt_cmpR op_in_seq (pv 1) (pe_lst (pa_cons pe_int (pa_cons pe_int pa_nil))) (by rfl)) (pss_one (ps_dput hu (pv 0) pe_str (pe_op op_sub (pe_dget hu (pv 0) pe_str (fun _ _ => rfl)) pe_int) rfl)) pss_nil)
  (C8.pss_cut (ps_if (pt_cmpR op_in_seq (pv 1) (pe_lst (pa_cons pe_int (pa_cons pe_int (pa_cons pe_int pa_nil)))) (by rfl)) (pss_one (ps_dput hu (pv 0) pe_str (pe_op op_add (pe_dget hu (pv 0) pe_str (fun _ _ => rfl)) (pe_callB call_len_seq (by rfl) T.f_len PySem.boot_len (pa_cons (pv 3) pa_nil))) rfl)) pss_nil)
  (C8.pss_cut (ps_if (PW.pt (pw_or (pt_cmpR op_in_seq (pv 1) (pe_lst (pa_cons pe_int (pa_cons pe_int pa_nil))) (by rfl)) (pw_or (PW.pt (pw_and (pt_cmpR op_eq (pv 1) pe_int (nomark _)) (pw_and1 (pt_val (pe_dget hu (pv 0) pe_str (fun _ _ => rfl)))))) (pw_or1 (PW.pt (pw_and (pt_cmpR op_eq (pv 1) pe_int (nomark _)) (pw_and1 (pt_cmpR op_ge (pv 5) pe_int (nomark _))))))))) (pss_one (ps_dput hu (pv 0) pe_str (pv 2) rfl)) pss_nil)
  (C8.pss_cut (ps_if (pt_cmpR op_in_seq (pv 1) (pe_lst (pa_cons pe_int (pa_cons pe_int pa_nil))) (by rfl)) (pss_one (ps_dput hu (pv 0) pe_str (pe_ix ix_list (pv 3) (pe_un un_neg pe_int) (fun _ _ => rfl)) rfl)) pss_nil)
  (C8.pss_cut (ps_if (pt_cmpR op_eq (pv 1) pe_int (nomark _)) (pss_one (ps_expr (pe_bm PySem.F.plainAttrs_dict PySem.F.slot_dict_update PySem.F.type_dict_update mt_update (pv 0) (pa_cons (pe_disp (pps_cons pe_str (pe_cmpR op_eq (pe_op op_mod (pe_ix ix_list (pv 3) pe_int (fun _ _ => rfl)) pe_int) pe_int (nomark _)) (pps_cons pe_str pe_bl pps_nil)) (by rfl) (by rfl) (fun z => by cases z) (by decide)) pa_nil)))) pss_nil)
  (C8.pss_cut (ps_if (pt_cmpR op_eq (pv 1) pe_int (nomark _)) (pss_one (ps_dput hu (pv 0) pe_str pe_bl rfl)) pss_nil)
  (C8.pss_cut (ps_if (pt_cmpR op_eq (pv 1) pe_int (nomark _)) (pss_one (ps_dput hu (pv 0) pe_str (pe_cmpR op_eq (pe_op op_mod (pv 2) pe_int) pe_int (nomark _)) rfl)) pss_nil)
  (C8.pss_cut (ps_if (pt_cmpR op_in_seq (pv 1) (pe_lst (pa_cons pe_int (pa_cons pe_int pa_nil))) (by rfl)) (pss_one (ps_dput hu (pv 0) pe_str (pv 5) rfl)) pss_nil)
  (pss_cons (ps_set (i := 7) sc__law_done.nd rfl (.inl rfl) (pe_disp (pps_cons pe_int (pv 2) (pps_cons pe_int (pv 6) (pps_cons pe_int (pe_op op_fdiv (pv 5) pe_int) pps_nil))) (by rfl) (by rfl) (fun z => by cases z) (by decide)))
  (C8.pss_cut (ps_if (pt_cmpR (op_neD hr.units) (pv 3) (pe_lst pa_nil) (nomark _)) (pss_cons (ps_set (i := 8) sc__law_done.nd rfl (.inl rfl) (pe_ix ix_list (pv 3) pe_int (fun _ _ => rfl)))
    (pss_one (ps_expr (pe_bm PySem.F.plainAttrs_dict PySem.F.slot_dict_update PySem.F.type_dict_update mt_update (pv 7) (pa_cons (pe_disp (pps_cons pe_int (pv 8) (pps_cons pe_int (pv 8) (pps_cons pe_int (pv 8) (pps_cons pe_int (pe_op op_mod (pe_op op_add (pv 5) (pv 8)) pe_int) (pps_cons pe_int (pe_op op_mod (pe_op op_sub (pv 5) (pv 8)) pe_int) (pps_cons pe_int (pe_op op_and (pv 5) (pv 8)) (pps_cons pe_int (pe_op op_xor (pv 5) (pv 8)) pps_nil))))))) (by rfl) (by rfl) (fun z => by cases z) (by decide)) pa_nil))))) pss_nil)
  (pss_one (ps_if (pt_cmp (pc_din hu (pv 1) (pv 7))) (pss_cons (ps_dput hu (pv 0) pe_str (pe_dget hu (pv 7) (pv 1) (fun _ _ => rfl)) rfl)
    (pss_one (ps_dput hu (pv 0) pe_str (pe_cmpR op_eq (pe_dget hu (pv 7) (pv 1) (fun _ _ => rfl)) pe_int (nomark _)) rfl))) pss_nil))))))))))))))), ?_⟩
  obtain ⟨hp1, hp2, hm, q⟩ := h
  have hs := Sep.pre (L := [a_Own K Astand_ stand_, aL pwords_ words_, aL pputs_ puts_]) ⟨hp1, hp2⟩
  generalize owns [a_Own K Astand_ stand_, aL pwords_ words_, aL pputs_ puts_] = S0_ at hs q
  unfold m__law_done at hm
  clear hp1 hp2
  replace hs := hs.opn 0 rfl
  replace hs : Sep S0_ H H (O_Own K Astand_.p_ Astand_ stand_ ++ [aL pwords_ words_, aL pputs_ puts_]) := hs
  have f8 := hs.cel 0 rfl
  have f9 := hs.cel 0 rfl
  refine ⟨_, rfl, _, _, rfl, K_Own_dget_a f8, _, rfl, _, _, rfl, K_Own_dget_b f9, _, _, rfl, ?_⟩
  obtain ⟨j41, es42, hm⟩ := bnd hm
  refine ⟨fun σ' H50 => ∃ (q43 : Addr) (q45 : V) (q47 : Addr), Sep S0_ H H50 [aC Astand_.line (.dK (lineK j41.2.2.2.2.2.2.2.2.2.2.2)), aL q47 j41.2.2.2.2.2.2.2.2.2.2.1, aV q45 j41.2.2.2.2.2.2.2.2.2.1, aL q43 j41.1, aC Astand_.p_ (.dK (K_Own (.ref q43) (.int j41.2.1) (.int j41.2.2.1) (.int j41.2.2.2.1) (.int j41.2.2.2.2.1) (.bl j41.2.2.2.2.2.1) (.bl j41.2.2.2.2.2.2.1) (.bl j41.2.2.2.2.2.2.2.1) (.int j41.2.2.2.2.2.2.2.2.1) q45 (.ref q47) (.ref Astand_.line))), aL pwords_ words_, aL pputs_ puts_] ∧ σ' = [some (.ref Astand_.p_), some (.int op_), some (.int x_), some (.ref pwords_), some (.ref pputs_), some (.int stand_.a), some (.int stand_.b), none, none], ?_, ?_⟩
  · have hm := es42
    try dsimp only [tNext, gName]
    try with_reducible refine iteF ?_
    refine if_use hs (b := decide ((op_ ∈ ([(3 : Int), (9 : Int), (17 : Int)] : (List Int))))) ?_ ?_
    · skip
      refine fun H58 hs Q_ hQ59 => ?_
      refine ⟨_, rfl, (by show 3 ≤ sizeLine; decide), fun p60 n61 => ?_⟩
      try dsimp only
      generalize ee_ : upd H58 p60 _ = H62
      replace hs := (hs.newL (ys := (([(3 : Int), (9 : Int), (17 : Int)] : (List Int)) : (List Int))) n61 ((.cons imI (.cons imI (.cons imI .nil))))).cast ee_
      clear ee_
      have f64 := hs.scs 0 rfl
      refine ⟨_, _, rfl, .inl (SqL.of f64), rfl, flat_int _, _, in_int, ?_⟩
      exact hQ59 _ (hs.tl 1)
    intro H66 hs
    refine iteD (fun c65 => ?_) (fun c65 => ?_)
    · replace hm := ift c65 hm
      obtain ⟨x67, ex67, hm⟩ := bnd hm
      obtain ⟨vs68, hl69, hv70⟩ := hs.lst 6 rfl
      obtain ⟨u71, hu72, hx73⟩ := hv70.ix ex67
      have hx73 : u71 = (.int x67) := hx73
      subst hx73
      replace hs : Sep S0_ H H66 [a_Own K Astand_ stand_, aL pwords_ words_, aL pputs_ puts_] := hs.cl [4,4,4,4,4] 5 (by kernel_rfl)
      obtain ⟨r74, er74, hm⟩ := bnd hm
      replace hs := hs.mv 0 rfl
      refine ⟨_, rfl, _, rfl, _, _, _, _, rfl, rfl, SqL.of hl69, hu72, _, rfl, Astand_, stand_, x67, stand_.a, r74, rfl, (hs.frontN 1).1, (hs.frontN 1).2, er74, fun H75 A77 hc76 => ?_⟩
      replace hs := hs.callN 1 hc76
      replace hs := hs.opn 0 rfl
      replace hs : Sep S0_ H H75 [aC Astand_.p_ (.dK (K_Own (.ref A77.m) (.int r74.a) (.int r74.b) (.int r74.pc) (.int r74.sp) (.bl r74.zero) (.bl r74.lets) (.bl r74.asleep) (.int r74.beat) A77.stopped (.ref A77.sent) (.ref Astand_.line))), aL A77.m r74.m, aV A77.stopped r74.stopped, aL A77.sent r74.sent, aC Astand_.line (.dK (lineK r74.line)), aL pwords_ words_, aL pputs_ puts_] := hs
      replace hs : Sep S0_ H H75 [aC Astand_.line (.dK (lineK r74.line)), aL A77.sent r74.sent, aV A77.stopped r74.stopped, aL A77.m r74.m, aC Astand_.p_ (.dK (K_Own (.ref A77.m) (.int r74.a) (.int r74.b) (.int r74.pc) (.int r74.sp) (.bl r74.zero) (.bl r74.lets) (.bl r74.asleep) (.int r74.beat) A77.stopped (.ref A77.sent) (.ref Astand_.line))), aL pwords_ words_, aL pputs_ puts_] := hs.pick [6, 6, 2, 3, 4, 5, 6] 7 (by kernel_rfl)
      obtain rfl := Option.some.inj hm
      exact ⟨A77.m, A77.stopped, A77.sent, hs, rfl⟩
    · replace hm := ife c65 hm
      replace hs : Sep S0_ H H66 [aC Astand_.line (.dK (lineK stand_.line)), aL Astand_.sent stand_.sent, aV Astand_.stopped stand_.stopped, aL Astand_.m stand_.m, q_Own K Astand_.p_ Astand_ stand_, aL pwords_ words_, aL pputs_ puts_] := hs.pick [6, 6, 2, 3, 4, 5, 6] 7 (by kernel_rfl)
      obtain rfl := Option.some.inj hm
      exact ⟨Astand_.m, Astand_.stopped, Astand_.sent, hs, rfl⟩
  rintro σ' H50 ⟨q43, q45, q47, hs, rfl⟩
  obtain ⟨j104, es105, hm⟩ := bnd hm
  refine ⟨fun σ' H113 => ∃ (q106 : Addr) (q108 : V) (q110 : Addr), Sep S0_ H H113 [aC Astand_.line (.dK (lineK j104.2.2.2.2.2.2.2.2.2.2.2)), aL q110 j104.2.2.2.2.2.2.2.2.2.2.1, aV q108 j104.2.2.2.2.2.2.2.2.2.1, aL q106 j104.1, aC Astand_.p_ (.dK (K_Own (.ref q106) (.int j104.2.1) (.int j104.2.2.1) (.int j104.2.2.2.1) (.int j104.2.2.2.2.1) (.bl j104.2.2.2.2.2.1) (.bl j104.2.2.2.2.2.2.1) (.bl j104.2.2.2.2.2.2.2.1) (.int j104.2.2.2.2.2.2.2.2.1) q108 (.ref q110) (.ref Astand_.line))), aL pwords_ words_, aL pputs_ puts_] ∧ σ' = [some (.ref Astand_.p_), some (.int op_), some (.int x_), some (.ref pwords_), some (.ref pputs_), some (.int stand_.a), some (.int stand_.b), none, none], ?_, ?_⟩
  · have hm := es105
    try dsimp only [tNext, gName]
    try with_reducible refine iteF ?_
    refine if_use hs (b := decide ((op_ = (15 : Int)))) ?_ ?_
    · skip
      refine fun H116 hs Q_ hQ117 => ?_
      refine ⟨_, rfl, rfl, _, dI, ?_⟩
      exact hQ117 _ (hs.tl 0)
    intro H119 hs
    refine iteD (fun c118 => ?_) (fun c118 => ?_)
    · replace hm := ift c118 hm
      obtain ⟨x120, ex120, hm⟩ := bnd hm
      obtain ⟨vs121, hl122, hv123⟩ := hs.lst 6 rfl
      obtain ⟨u124, hu125, hx126⟩ := hv123.ix ex120
      have hx126 : u124 = (.int x120) := hx126
      subst hx126
      have f127 := hs.cel 4 rfl
      replace hs : Sep S0_ H H119 [a_Own K (A_Own.mk Astand_.p_ q43 q45 q47 Astand_.line) (R_Own.mk j41.1 j41.2.1 j41.2.2.1 j41.2.2.2.1 j41.2.2.2.2.1 j41.2.2.2.2.2.1 j41.2.2.2.2.2.2.1 j41.2.2.2.2.2.2.2.1 j41.2.2.2.2.2.2.2.2.1 j41.2.2.2.2.2.2.2.2.2.1 j41.2.2.2.2.2.2.2.2.2.2.1 j41.2.2.2.2.2.2.2.2.2.2.2), aL pwords_ words_, aL pputs_ puts_] := hs.cl [0,1,2,3,4] 5 (by kernel_rfl)
      obtain ⟨r128, er128, hm⟩ := bnd hm
      replace hs := hs.mv 0 rfl
      refine ⟨_, rfl, _, rfl, _, _, _, _, rfl, rfl, SqL.of hl122, hu125, _, rfl, _, _, rfl, K_Own_dget_pc f127, (A_Own.mk Astand_.p_ q43 q45 q47 Astand_.line), (R_Own.mk j41.1 j41.2.1 j41.2.2.1 j41.2.2.2.1 j41.2.2.2.2.1 j41.2.2.2.2.2.1 j41.2.2.2.2.2.2.1 j41.2.2.2.2.2.2.2.1 j41.2.2.2.2.2.2.2.2.1 j41.2.2.2.2.2.2.2.2.2.1 j41.2.2.2.2.2.2.2.2.2.2.1 j41.2.2.2.2.2.2.2.2.2.2.2), x120, j41.2.2.2.1, r128, rfl, (hs.frontN 1).1, (hs.frontN 1).2, er128, fun H129 A131 hc130 => ?_⟩
      replace hs := hs.callN 1 hc130
      replace hs := hs.opn 0 rfl
      replace hs : Sep S0_ H H129 [aC Astand_.p_ (.dK (K_Own (.ref A131.m) (.int r128.a) (.int r128.b) (.int r128.pc) (.int r128.sp) (.bl r128.zero) (.bl r128.lets) (.bl r128.asleep) (.int r128.beat) A131.stopped (.ref A131.sent) (.ref Astand_.line))), aL A131.m r128.m, aV A131.stopped r128.stopped, aL A131.sent r128.sent, aC Astand_.line (.dK (lineK r128.line)), aL pwords_ words_, aL pputs_ puts_] := hs
      replace hs : Sep S0_ H H129 [aC Astand_.line (.dK (lineK r128.line)), aL A131.sent r128.sent, aV A131.stopped r128.stopped, aL A131.m r128.m, aC Astand_.p_ (.dK (K_Own (.ref A131.m) (.int r128.a) (.int r128.b) (.int r128.pc) (.int r128.sp) (.bl r128.zero) (.bl r128.lets) (.bl r128.asleep) (.int r128.beat) A131.stopped (.ref A131.sent) (.ref Astand_.line))), aL pwords_ words_, aL pputs_ puts_] := hs.pick [6, 6, 2, 3, 4, 5, 6] 7 (by kernel_rfl)
      obtain rfl := Option.some.inj hm
      exact ⟨A131.m, A131.stopped, A131.sent, hs, rfl⟩
    · replace hm := ife c118 hm
      replace hs : Sep S0_ H H119 [aC Astand_.line (.dK (lineK j41.2.2.2.2.2.2.2.2.2.2.2)), aL q47 j41.2.2.2.2.2.2.2.2.2.2.1, aV q45 j41.2.2.2.2.2.2.2.2.2.1, aL q43 j41.1, aC Astand_.p_ (.dK (K_Own (.ref q43) (.int j41.2.1) (.int j41.2.2.1) (.int j41.2.2.2.1) (.int j41.2.2.2.2.1) (.bl j41.2.2.2.2.2.1) (.bl j41.2.2.2.2.2.2.1) (.bl j41.2.2.2.2.2.2.2.1) (.int j41.2.2.2.2.2.2.2.2.1) q45 (.ref q47) (.ref Astand_.line))), aL pwords_ words_, aL pputs_ puts_] := hs.tk 7
      obtain rfl := Option.some.inj hm
      exact ⟨q43, q45, q47, hs, rfl⟩
  rintro σ' H113 ⟨q106, q108, q110, hs, rfl⟩
  obtain ⟨j155, es156, hm⟩ := bnd hm
  refine ⟨fun σ' H157 => Sep S0_ H H157 [aC Astand_.line (.dK (lineK j104.2.2.2.2.2.2.2.2.2.2.2)), aL q110 j104.2.2.2.2.2.2.2.2.2.2.1, aV q108 j104.2.2.2.2.2.2.2.2.2.1, aL q106 j104.1, aC Astand_.p_ (.dK (K_Own (.ref q106) (.int j104.2.1) (.int j104.2.2.1) (.int j104.2.2.2.1) (.int j155) (.bl j104.2.2.2.2.2.1) (.bl j104.2.2.2.2.2.2.1) (.bl j104.2.2.2.2.2.2.2.1) (.int j104.2.2.2.2.2.2.2.2.1) q108 (.ref q110) (.ref Astand_.line))), aL pwords_ words_, aL pputs_ puts_] ∧ σ' = [some (.ref Astand_.p_), some (.int op_), some (.int x_), some (.ref pwords_), some (.ref pputs_), some (.int stand_.a), some (.int stand_.b), none, none], ?_, ?_⟩
  · have hm := es156
    try dsimp only [tNext, gName]
    try with_reducible refine iteF ?_
    refine if_use hs (b := decide ((op_ ∈ ([(15 : Int), (17 : Int)] : (List Int))))) ?_ ?_
    · skip
      refine fun H165 hs Q_ hQ166 => ?_
      refine ⟨_, rfl, (by show 2 ≤ sizeLine; decide), fun p167 n168 => ?_⟩
      try dsimp only
      generalize ee_ : upd H165 p167 _ = H169
      replace hs := (hs.newL (ys := (([(15 : Int), (17 : Int)] : (List Int)) : (List Int))) n168 ((.cons imI (.cons imI .nil)))).cast ee_
      clear ee_
      have f171 := hs.scs 0 rfl
      refine ⟨_, _, rfl, .inl (SqL.of f171), rfl, flat_int _, _, in_int, ?_⟩
      exact hQ166 _ (hs.tl 1)
    intro H173 hs
    refine iteD (fun c172 => ?_) (fun c172 => ?_)
    · replace hm := ift c172 hm
      have f174 := hs.cel 4 rfl
      have f175 := hs.cel 4 rfl
      refine ⟨_, rfl, _, _, rfl, K_Own_dget_sp f174, _, _, rfl, rfl, _, rfl, _, _, rfl, K_Own_dput_sp f175, ?_⟩
      try dsimp only
      generalize ee_ : upd H173 Astand_.p_ _ = H176
      replace hs := (hs.putC 4 rfl trivial (.dK (K_Own (.ref q106) (.int j104.2.1) (.int j104.2.2.1) (.int j104.2.2.2.1) (.int (j104.2.2.2.2.1 - (1 : Int))) (.bl j104.2.2.2.2.2.1) (.bl j104.2.2.2.2.2.2.1) (.bl j104.2.2.2.2.2.2.2.1) (.int j104.2.2.2.2.2.2.2.2.1) q108 (.ref q110) (.ref Astand_.line)))).cast ee_
      clear ee_
      replace hs : Sep S0_ H H176 [aC Astand_.line (.dK (lineK j104.2.2.2.2.2.2.2.2.2.2.2)), aL q110 j104.2.2.2.2.2.2.2.2.2.2.1, aV q108 j104.2.2.2.2.2.2.2.2.2.1, aL q106 j104.1, aC Astand_.p_ (.dK (K_Own (.ref q106) (.int j104.2.1) (.int j104.2.2.1) (.int j104.2.2.2.1) (.int (j104.2.2.2.2.1 - (1 : Int))) (.bl j104.2.2.2.2.2.1) (.bl j104.2.2.2.2.2.2.1) (.bl j104.2.2.2.2.2.2.2.1) (.int j104.2.2.2.2.2.2.2.2.1) q108 (.ref q110) (.ref Astand_.line))), aL pwords_ words_, aL pputs_ puts_] := hs.tk 7
      obtain rfl := Option.some.inj hm
      exact ⟨hs, rfl⟩
    · replace hm := ife c172 hm
      replace hs : Sep S0_ H H173 [aC Astand_.line (.dK (lineK j104.2.2.2.2.2.2.2.2.2.2.2)), aL q110 j104.2.2.2.2.2.2.2.2.2.2.1, aV q108 j104.2.2.2.2.2.2.2.2.2.1, aL q106 j104.1, aC Astand_.p_ (.dK (K_Own (.ref q106) (.int j104.2.1) (.int j104.2.2.1) (.int j104.2.2.2.1) (.int j104.2.2.2.2.1) (.bl j104.2.2.2.2.2.1) (.bl j104.2.2.2.2.2.2.1) (.bl j104.2.2.2.2.2.2.2.1) (.int j104.2.2.2.2.2.2.2.2.1) q108 (.ref q110) (.ref Astand_.line))), aL pwords_ words_, aL pputs_ puts_] := hs.tk 7
      obtain rfl := Option.some.inj hm
      exact ⟨hs, rfl⟩
  rintro σ' H157 ⟨hs, rfl⟩
  obtain ⟨j199, es200, hm⟩ := bnd hm
  refine ⟨fun σ' H201 => Sep S0_ H H201 [aC Astand_.line (.dK (lineK j104.2.2.2.2.2.2.2.2.2.2.2)), aL q110 j104.2.2.2.2.2.2.2.2.2.2.1, aV q108 j104.2.2.2.2.2.2.2.2.2.1, aL q106 j104.1, aC Astand_.p_ (.dK (K_Own (.ref q106) (.int j104.2.1) (.int j104.2.2.1) (.int j104.2.2.2.1) (.int j199) (.bl j104.2.2.2.2.2.1) (.bl j104.2.2.2.2.2.2.1) (.bl j104.2.2.2.2.2.2.2.1) (.int j104.2.2.2.2.2.2.2.2.1) q108 (.ref q110) (.ref Astand_.line))), aL pwords_ words_, aL pputs_ puts_] ∧ σ' = [some (.ref Astand_.p_), some (.int op_), some (.int x_), some (.ref pwords_), some (.ref pputs_), some (.int stand_.a), some (.int stand_.b), none, none], ?_, ?_⟩
  · have hm := es200
    try dsimp only [tNext, gName]
    try with_reducible refine iteF ?_
    refine if_use hs (b := decide ((op_ ∈ ([(16 : Int), (18 : Int), (21 : Int)] : (List Int))))) ?_ ?_
    · skip
      refine fun H209 hs Q_ hQ210 => ?_
      refine ⟨_, rfl, (by show 3 ≤ sizeLine; decide), fun p211 n212 => ?_⟩
      try dsimp only
      generalize ee_ : upd H209 p211 _ = H213
      replace hs := (hs.newL (ys := (([(16 : Int), (18 : Int), (21 : Int)] : (List Int)) : (List Int))) n212 ((.cons imI (.cons imI (.cons imI .nil))))).cast ee_
      clear ee_
      have f215 := hs.scs 0 rfl
      refine ⟨_, _, rfl, .inl (SqL.of f215), rfl, flat_int _, _, in_int, ?_⟩
      exact hQ210 _ (hs.tl 1)
    intro H217 hs
    refine iteD (fun c216 => ?_) (fun c216 => ?_)
    · replace hm := ift c216 hm
      have f218 := hs.cel 4 rfl
      obtain ⟨vs219, hl220, hv221⟩ := hs.lst 5 rfl
      refine ⟨_, rfl, _, _, rfl, K_Own_dget_sp f218, _, rfl, _, _, rfl, .inl (SqL.of hl220), ?_⟩
      rw [hv221.length]
      have f222 := hs.cel 4 rfl
      refine ⟨_, _, rfl, rfl, _, rfl, _, _, rfl, K_Own_dput_sp f222, ?_⟩
      try dsimp only
      generalize ee_ : upd H217 Astand_.p_ _ = H223
      replace hs := (hs.putC 4 rfl trivial (.dK (K_Own (.ref q106) (.int j104.2.1) (.int j104.2.2.1) (.int j104.2.2.2.1) (.int (j155 + (words_.length : Int))) (.bl j104.2.2.2.2.2.1) (.bl j104.2.2.2.2.2.2.1) (.bl j104.2.2.2.2.2.2.2.1) (.int j104.2.2.2.2.2.2.2.2.1) q108 (.ref q110) (.ref Astand_.line)))).cast ee_
      clear ee_
      replace hs : Sep S0_ H H223 [aC Astand_.line (.dK (lineK j104.2.2.2.2.2.2.2.2.2.2.2)), aL q110 j104.2.2.2.2.2.2.2.2.2.2.1, aV q108 j104.2.2.2.2.2.2.2.2.2.1, aL q106 j104.1, aC Astand_.p_ (.dK (K_Own (.ref q106) (.int j104.2.1) (.int j104.2.2.1) (.int j104.2.2.2.1) (.int (j155 + (words_.length : Int))) (.bl j104.2.2.2.2.2.1) (.bl j104.2.2.2.2.2.2.1) (.bl j104.2.2.2.2.2.2.2.1) (.int j104.2.2.2.2.2.2.2.2.1) q108 (.ref q110) (.ref Astand_.line))), aL pwords_ words_, aL pputs_ puts_] := hs.tk 7
      obtain rfl := Option.some.inj hm
      exact ⟨hs, rfl⟩
    · replace hm := ife c216 hm
      replace hs : Sep S0_ H H217 [aC Astand_.line (.dK (lineK j104.2.2.2.2.2.2.2.2.2.2.2)), aL q110 j104.2.2.2.2.2.2.2.2.2.2.1, aV q108 j104.2.2.2.2.2.2.2.2.2.1, aL q106 j104.1, aC Astand_.p_ (.dK (K_Own (.ref q106) (.int j104.2.1) (.int j104.2.2.1) (.int j104.2.2.2.1) (.int j155) (.bl j104.2.2.2.2.2.1) (.bl j104.2.2.2.2.2.2.1) (.bl j104.2.2.2.2.2.2.2.1) (.int j104.2.2.2.2.2.2.2.2.1) q108 (.ref q110) (.ref Astand_.line))), aL pwords_ words_, aL pputs_ puts_] := hs.tk 7
      obtain rfl := Option.some.inj hm
      exact ⟨hs, rfl⟩
  rintro σ' H201 ⟨hs, rfl⟩
  obtain ⟨j422, es423, hm⟩ := bnd hm
  refine ⟨fun σ' H424 => Sep S0_ H H424 [aC Astand_.line (.dK (lineK j104.2.2.2.2.2.2.2.2.2.2.2)), aL q110 j104.2.2.2.2.2.2.2.2.2.2.1, aV q108 j104.2.2.2.2.2.2.2.2.2.1, aL q106 j104.1, aC Astand_.p_ (.dK (K_Own (.ref q106) (.int j104.2.1) (.int j104.2.2.1) (.int j422) (.int j199) (.bl j104.2.2.2.2.2.1) (.bl j104.2.2.2.2.2.2.1) (.bl j104.2.2.2.2.2.2.2.1) (.int j104.2.2.2.2.2.2.2.2.1) q108 (.ref q110) (.ref Astand_.line))), aL pwords_ words_, aL pputs_ puts_] ∧ σ' = [some (.ref Astand_.p_), some (.int op_), some (.int x_), some (.ref pwords_), some (.ref pputs_), some (.int stand_.a), some (.int stand_.b), none, none], ?_, ?_⟩
  · have hm := es423
    try dsimp only [tNext, gName]
    try with_reducible refine iteF ?_
    refine if_use hs (b := decide (((op_ ∈ ([(12 : Int), (15 : Int)] : (List Int))) ∨ (((op_ = (13 : Int)) ∧ (j104.2.2.2.2.2.1 = true)) ∨ ((op_ = (14 : Int)) ∧ ((32768 : Int) ≤ stand_.a)))))) ?_ ?_
    · skip
      refine ev_or (P := (op_ ∈ ([(12 : Int), (15 : Int)] : (List Int)))) (R := (((op_ = (13 : Int)) ∧ (j104.2.2.2.2.2.1 = true)) ∨ ((op_ = (14 : Int)) ∧ ((32768 : Int) ≤ stand_.a)))) ?_ (fun c570 => ?_)
      · skip
        refine fun H571 hs Q_ hQ572 => ?_
        refine ⟨_, rfl, (by show 2 ≤ sizeLine; decide), fun p573 n574 => ?_⟩
        try dsimp only
        generalize ee_ : upd H571 p573 _ = H575
        replace hs := (hs.newL (ys := (([(12 : Int), (15 : Int)] : (List Int)) : (List Int))) n574 ((.cons imI (.cons imI .nil)))).cast ee_
        clear ee_
        have f577 := hs.scs 0 rfl
        refine ⟨_, _, rfl, .inl (SqL.of f577), rfl, flat_int _, _, in_int, ?_⟩
        exact hQ572 _ (hs.tl 1)
      · skip
        refine ev_or (P := ((op_ = (13 : Int)) ∧ (j104.2.2.2.2.2.1 = true))) (R := ((op_ = (14 : Int)) ∧ ((32768 : Int) ≤ stand_.a))) ?_ (fun c598 => ?_)
        · skip
          refine ev_and (P := (op_ = (13 : Int))) (R := (j104.2.2.2.2.2.1 = true)) ?_ (fun c604 => ?_)
          · skip
            refine fun H605 hs Q_ hQ606 => ?_
            refine ⟨_, rfl, rfl, _, dI, ?_⟩
            exact hQ606 _ (hs.tl 0)
          · skip
            refine fun H607 hs Q_ hQ608 => ?_
            have f609 := hs.cel 4 rfl
            refine ⟨_, rfl, _, _, rfl, K_Own_dget_zero f609, _, dB, ?_⟩
            exact hQ608 _ (hs.tl 0)
        · skip
          refine ev_and (P := (op_ = (14 : Int))) (R := ((32768 : Int) ≤ stand_.a)) ?_ (fun c614 => ?_)
          · skip
            refine fun H615 hs Q_ hQ616 => ?_
            refine ⟨_, rfl, rfl, _, dI, ?_⟩
            exact hQ616 _ (hs.tl 0)
          · skip
            refine fun H617 hs Q_ hQ618 => ?_
            refine ⟨_, rfl, _, _, rfl, rfl, _, rfl, ?_⟩
            exact hQ618 _ (hs.tl 0)
    intro H620 hs
    refine iteD (fun c619 => ?_) (fun c619 => ?_)
    · replace hm := ift c619 hm
      have f621 := hs.cel 4 rfl
      refine ⟨_, rfl, _, rfl, _, _, rfl, K_Own_dput_pc f621, ?_⟩
      try dsimp only
      generalize ee_ : upd H620 Astand_.p_ _ = H622
      replace hs := (hs.putC 4 rfl trivial (.dK (K_Own (.ref q106) (.int j104.2.1) (.int j104.2.2.1) (.int x_) (.int j199) (.bl j104.2.2.2.2.2.1) (.bl j104.2.2.2.2.2.2.1) (.bl j104.2.2.2.2.2.2.2.1) (.int j104.2.2.2.2.2.2.2.2.1) q108 (.ref q110) (.ref Astand_.line)))).cast ee_
      clear ee_
      replace hs : Sep S0_ H H622 [aC Astand_.line (.dK (lineK j104.2.2.2.2.2.2.2.2.2.2.2)), aL q110 j104.2.2.2.2.2.2.2.2.2.2.1, aV q108 j104.2.2.2.2.2.2.2.2.2.1, aL q106 j104.1, aC Astand_.p_ (.dK (K_Own (.ref q106) (.int j104.2.1) (.int j104.2.2.1) (.int x_) (.int j199) (.bl j104.2.2.2.2.2.1) (.bl j104.2.2.2.2.2.2.1) (.bl j104.2.2.2.2.2.2.2.1) (.int j104.2.2.2.2.2.2.2.2.1) q108 (.ref q110) (.ref Astand_.line))), aL pwords_ words_, aL pputs_ puts_] := hs.tk 7
      obtain rfl := Option.some.inj hm
      exact ⟨hs, rfl⟩
    · replace hm := ife c619 hm
      replace hs : Sep S0_ H H620 [aC Astand_.line (.dK (lineK j104.2.2.2.2.2.2.2.2.2.2.2)), aL q110 j104.2.2.2.2.2.2.2.2.2.2.1, aV q108 j104.2.2.2.2.2.2.2.2.2.1, aL q106 j104.1, aC Astand_.p_ (.dK (K_Own (.ref q106) (.int j104.2.1) (.int j104.2.2.1) (.int j104.2.2.2.1) (.int j199) (.bl j104.2.2.2.2.2.1) (.bl j104.2.2.2.2.2.2.1) (.bl j104.2.2.2.2.2.2.2.1) (.int j104.2.2.2.2.2.2.2.2.1) q108 (.ref q110) (.ref Astand_.line))), aL pwords_ words_, aL pputs_ puts_] := hs.tk 7
      obtain rfl := Option.some.inj hm
      exact ⟨hs, rfl⟩
  rintro σ' H424 ⟨hs, rfl⟩
  obtain ⟨j648, es649, hm⟩ := bnd hm
  refine ⟨fun σ' H650 => Sep S0_ H H650 [aC Astand_.line (.dK (lineK j104.2.2.2.2.2.2.2.2.2.2.2)), aL q110 j104.2.2.2.2.2.2.2.2.2.2.1, aV q108 j104.2.2.2.2.2.2.2.2.2.1, aL q106 j104.1, aC Astand_.p_ (.dK (K_Own (.ref q106) (.int j104.2.1) (.int j104.2.2.1) (.int j648) (.int j199) (.bl j104.2.2.2.2.2.1) (.bl j104.2.2.2.2.2.2.1) (.bl j104.2.2.2.2.2.2.2.1) (.int j104.2.2.2.2.2.2.2.2.1) q108 (.ref q110) (.ref Astand_.line))), aL pwords_ words_, aL pputs_ puts_] ∧ σ' = [some (.ref Astand_.p_), some (.int op_), some (.int x_), some (.ref pwords_), some (.ref pputs_), some (.int stand_.a), some (.int stand_.b), none, none], ?_, ?_⟩
  · have hm := es649
    try dsimp only [tNext, gName]
    try with_reducible refine iteF ?_
    refine if_use hs (b := decide ((op_ ∈ ([(16 : Int), (21 : Int)] : (List Int))))) ?_ ?_
    · skip
      refine fun H658 hs Q_ hQ659 => ?_
      refine ⟨_, rfl, (by show 2 ≤ sizeLine; decide), fun p660 n661 => ?_⟩
      try dsimp only
      generalize ee_ : upd H658 p660 _ = H662
      replace hs := (hs.newL (ys := (([(16 : Int), (21 : Int)] : (List Int)) : (List Int))) n661 ((.cons imI (.cons imI .nil)))).cast ee_
      clear ee_
      have f664 := hs.scs 0 rfl
      refine ⟨_, _, rfl, .inl (SqL.of f664), rfl, flat_int _, _, in_int, ?_⟩
      exact hQ659 _ (hs.tl 1)
    intro H666 hs
    refine iteD (fun c665 => ?_) (fun c665 => ?_)
    · replace hm := ift c665 hm
      obtain ⟨x667, ex667, hm⟩ := bnd hm
      obtain ⟨vs668, hl669, hv670⟩ := hs.lst 5 rfl
      obtain ⟨u671, hu672, hx673⟩ := hv670.ix ex667
      have hx673 : u671 = (.int x667) := hx673
      subst hx673
      have f674 := hs.cel 4 rfl
      refine ⟨_, rfl, _, rfl, _, _, _, _, rfl, rfl, SqL.of hl669, hu672, _, rfl, _, _, rfl, K_Own_dput_pc f674, ?_⟩
      try dsimp only
      generalize ee_ : upd H666 Astand_.p_ _ = H675
      replace hs := (hs.putC 4 rfl trivial (.dK (K_Own (.ref q106) (.int j104.2.1) (.int j104.2.2.1) (.int x667) (.int j199) (.bl j104.2.2.2.2.2.1) (.bl j104.2.2.2.2.2.2.1) (.bl j104.2.2.2.2.2.2.2.1) (.int j104.2.2.2.2.2.2.2.2.1) q108 (.ref q110) (.ref Astand_.line)))).cast ee_
      clear ee_
      replace hs : Sep S0_ H H675 [aC Astand_.line (.dK (lineK j104.2.2.2.2.2.2.2.2.2.2.2)), aL q110 j104.2.2.2.2.2.2.2.2.2.2.1, aV q108 j104.2.2.2.2.2.2.2.2.2.1, aL q106 j104.1, aC Astand_.p_ (.dK (K_Own (.ref q106) (.int j104.2.1) (.int j104.2.2.1) (.int x667) (.int j199) (.bl j104.2.2.2.2.2.1) (.bl j104.2.2.2.2.2.2.1) (.bl j104.2.2.2.2.2.2.2.1) (.int j104.2.2.2.2.2.2.2.2.1) q108 (.ref q110) (.ref Astand_.line))), aL pwords_ words_, aL pputs_ puts_] := hs.tk 7
      obtain rfl := Option.some.inj hm
      exact ⟨hs, rfl⟩
    · replace hm := ife c665 hm
      replace hs : Sep S0_ H H666 [aC Astand_.line (.dK (lineK j104.2.2.2.2.2.2.2.2.2.2.2)), aL q110 j104.2.2.2.2.2.2.2.2.2.2.1, aV q108 j104.2.2.2.2.2.2.2.2.2.1, aL q106 j104.1, aC Astand_.p_ (.dK (K_Own (.ref q106) (.int j104.2.1) (.int j104.2.2.1) (.int j422) (.int j199) (.bl j104.2.2.2.2.2.1) (.bl j104.2.2.2.2.2.2.1) (.bl j104.2.2.2.2.2.2.2.1) (.int j104.2.2.2.2.2.2.2.2.1) q108 (.ref q110) (.ref Astand_.line))), aL pwords_ words_, aL pputs_ puts_] := hs.tk 7
      obtain rfl := Option.some.inj hm
      exact ⟨hs, rfl⟩
  rintro σ' H650 ⟨hs, rfl⟩
  obtain ⟨j702, es703, hm⟩ := bnd hm
  refine ⟨fun σ' H704 => Sep S0_ H H704 [aC Astand_.line (.dK (lineK j104.2.2.2.2.2.2.2.2.2.2.2)), aL q110 j104.2.2.2.2.2.2.2.2.2.2.1, aV q108 j104.2.2.2.2.2.2.2.2.2.1, aL q106 j104.1, aC Astand_.p_ (.dK (K_Own (.ref q106) (.int j104.2.1) (.int j104.2.2.1) (.int j648) (.int j199) (.bl j702.1) (.bl j702.2) (.bl j104.2.2.2.2.2.2.2.1) (.int j104.2.2.2.2.2.2.2.2.1) q108 (.ref q110) (.ref Astand_.line))), aL pwords_ words_, aL pputs_ puts_] ∧ σ' = [some (.ref Astand_.p_), some (.int op_), some (.int x_), some (.ref pwords_), some (.ref pputs_), some (.int stand_.a), some (.int stand_.b), none, none], ?_, ?_⟩
  · have hm := es703
    try dsimp only [tNext, gName]
    try with_reducible refine iteF ?_
    refine if_use hs (b := decide ((op_ = (21 : Int)))) ?_ ?_
    · skip
      refine fun H707 hs Q_ hQ708 => ?_
      refine ⟨_, rfl, rfl, _, dI, ?_⟩
      exact hQ708 _ (hs.tl 0)
    intro H710 hs
    refine iteD (fun c709 => ?_) (fun c709 => ?_)
    · replace hm := ift c709 hm
      have f711 := hs.cel 4 rfl
      refine ⟨_, rfl, .inr (.inr (.inl ⟨rfl, .inl ⟨_, f711⟩⟩)), fun p712 n713 => ?_⟩
      try dsimp only
      generalize ee_ : upd H710 p712 _ = H714
      replace hs := (hs.newC n713 (.dK [])).cast ee_
      clear ee_
      obtain ⟨x716, ex716, hm⟩ := bnd hm
      obtain ⟨vs717, hl718, hv719⟩ := hs.lst 6 rfl
      obtain ⟨u720, hu721, hx722⟩ := hv719.ix ex716
      have hx722 : u720 = (.int x716) := hx722
      subst hx722
      refine ⟨_, rfl, _, _, _, _, rfl, rfl, SqL.of hl718, hu721, _, _, rfl, rfl, (show (0 : Int) < (2 : Int) by decide), rfl, ?_⟩
      try dsimp only
      rw [dI]
      have f723 := hs.cel 0 rfl
      refine ⟨f723, [((Sum.inr "zero" : Key), (.bl (decide ((x716 % (2 : Int)) = (1 : Int))))), ((Sum.inr "lets" : Key), (.bl true))], rfl, (by show 2 ≤ 15; decide), ?_⟩
      have em724 : mergeK [] ([((Sum.inr "zero" : Key), (.bl (decide ((x716 % (2 : Int)) = (1 : Int))))), ((Sum.inr "lets" : Key), (.bl true))] : List (Key × V)) = [((Sum.inr "zero" : Key), (.bl (decide ((x716 % (2 : Int)) = (1 : Int))))), ((Sum.inr "lets" : Key), (.bl true))] := by kernel_rfl
      rw [em724]
      try dsimp only
      generalize ee_ : upd H714 p712 _ = H725
      replace hs := (hs.putC 0 rfl trivial (.dK [((Sum.inr "zero" : Key), (.bl (decide ((x716 % (2 : Int)) = (1 : Int))))), ((Sum.inr "lets" : Key), (.bl true))])).cast ee_
      clear ee_
      have nd726 : Astand_.p_ ≠ p712 := hs.apart 5 0 rfl rfl (by decide)
      have f727 := hs.cel 5 rfl
      have f728 := hs.cel 0 rfl
      refine ⟨_, _, _, _, rfl, rfl, nd726, f727, f728, (by show 12 + 2 ≤ 16777216; decide), ?_⟩
      have em729 : mergeK ((K_Own (.ref q106) (.int j104.2.1) (.int j104.2.2.1) (.int j648) (.int j199) (.bl j104.2.2.2.2.2.1) (.bl j104.2.2.2.2.2.2.1) (.bl j104.2.2.2.2.2.2.2.1) (.int j104.2.2.2.2.2.2.2.2.1) q108 (.ref q110) (.ref Astand_.line)) : List (Key × V)) [((Sum.inr "zero" : Key), (.bl (decide ((x716 % (2 : Int)) = (1 : Int))))), ((Sum.inr "lets" : Key), (.bl true))] = (K_Own (.ref q106) (.int j104.2.1) (.int j104.2.2.1) (.int j648) (.int j199) (.bl (decide ((x716 % (2 : Int)) = (1 : Int)))) (.bl true) (.bl j104.2.2.2.2.2.2.2.1) (.int j104.2.2.2.2.2.2.2.2.1) q108 (.ref q110) (.ref Astand_.line)) := by kernel_rfl
      rw [em729]
      try dsimp only
      generalize ee_ : upd H725 Astand_.p_ _ = H730
      replace hs := (hs.putC 5 rfl trivial (.dK (K_Own (.ref q106) (.int j104.2.1) (.int j104.2.2.1) (.int j648) (.int j199) (.bl (decide ((x716 % (2 : Int)) = (1 : Int)))) (.bl true) (.bl j104.2.2.2.2.2.2.2.1) (.int j104.2.2.2.2.2.2.2.2.1) q108 (.ref q110) (.ref Astand_.line)))).cast ee_
      clear ee_
      replace hs : Sep S0_ H H730 [aC Astand_.line (.dK (lineK j104.2.2.2.2.2.2.2.2.2.2.2)), aL q110 j104.2.2.2.2.2.2.2.2.2.2.1, aV q108 j104.2.2.2.2.2.2.2.2.2.1, aL q106 j104.1, aC Astand_.p_ (.dK (K_Own (.ref q106) (.int j104.2.1) (.int j104.2.2.1) (.int j648) (.int j199) (.bl (decide ((x716 % (2 : Int)) = (1 : Int)))) (.bl true) (.bl j104.2.2.2.2.2.2.2.1) (.int j104.2.2.2.2.2.2.2.2.1) q108 (.ref q110) (.ref Astand_.line))), aL pwords_ words_, aL pputs_ puts_] := hs.pick [7, 7, 7, 7, 7, 7, 7] 7 (by kernel_rfl)
      obtain rfl := Option.some.inj hm
      exact ⟨hs, rfl⟩
    · replace hm := ife c709 hm
      replace hs : Sep S0_ H H710 [aC Astand_.line (.dK (lineK j104.2.2.2.2.2.2.2.2.2.2.2)), aL q110 j104.2.2.2.2.2.2.2.2.2.2.1, aV q108 j104.2.2.2.2.2.2.2.2.2.1, aL q106 j104.1, aC Astand_.p_ (.dK (K_Own (.ref q106) (.int j104.2.1) (.int j104.2.2.1) (.int j648) (.int j199) (.bl j104.2.2.2.2.2.1) (.bl j104.2.2.2.2.2.2.1) (.bl j104.2.2.2.2.2.2.2.1) (.int j104.2.2.2.2.2.2.2.2.1) q108 (.ref q110) (.ref Astand_.line))), aL pwords_ words_, aL pputs_ puts_] := hs.tk 7
      obtain rfl := Option.some.inj hm
      exact ⟨hs, rfl⟩
  rintro σ' H704 ⟨hs, rfl⟩
  obtain ⟨j739, es740, hm⟩ := bnd hm
  refine ⟨fun σ' H741 => Sep S0_ H H741 [aC Astand_.line (.dK (lineK j104.2.2.2.2.2.2.2.2.2.2.2)), aL q110 j104.2.2.2.2.2.2.2.2.2.2.1, aV q108 j104.2.2.2.2.2.2.2.2.2.1, aL q106 j104.1, aC Astand_.p_ (.dK (K_Own (.ref q106) (.int j104.2.1) (.int j104.2.2.1) (.int j648) (.int j199) (.bl j702.1) (.bl j702.2) (.bl j739) (.int j104.2.2.2.2.2.2.2.2.1) q108 (.ref q110) (.ref Astand_.line))), aL pwords_ words_, aL pputs_ puts_] ∧ σ' = [some (.ref Astand_.p_), some (.int op_), some (.int x_), some (.ref pwords_), some (.ref pputs_), some (.int stand_.a), some (.int stand_.b), none, none], ?_, ?_⟩
  · have hm := es740
    try dsimp only [tNext, gName]
    try with_reducible refine iteF ?_
    refine if_use hs (b := decide ((op_ = (19 : Int)))) ?_ ?_
    · skip
      refine fun H744 hs Q_ hQ745 => ?_
      refine ⟨_, rfl, rfl, _, dI, ?_⟩
      exact hQ745 _ (hs.tl 0)
    intro H747 hs
    refine iteD (fun c746 => ?_) (fun c746 => ?_)
    · replace hm := ift c746 hm
      have f748 := hs.cel 4 rfl
      refine ⟨_, rfl, _, _, rfl, K_Own_dput_asleep f748, ?_⟩
      try dsimp only
      generalize ee_ : upd H747 Astand_.p_ _ = H749
      replace hs := (hs.putC 4 rfl trivial (.dK (K_Own (.ref q106) (.int j104.2.1) (.int j104.2.2.1) (.int j648) (.int j199) (.bl j702.1) (.bl j702.2) (.bl true) (.int j104.2.2.2.2.2.2.2.2.1) q108 (.ref q110) (.ref Astand_.line)))).cast ee_
      clear ee_
      replace hs : Sep S0_ H H749 [aC Astand_.line (.dK (lineK j104.2.2.2.2.2.2.2.2.2.2.2)), aL q110 j104.2.2.2.2.2.2.2.2.2.2.1, aV q108 j104.2.2.2.2.2.2.2.2.2.1, aL q106 j104.1, aC Astand_.p_ (.dK (K_Own (.ref q106) (.int j104.2.1) (.int j104.2.2.1) (.int j648) (.int j199) (.bl j702.1) (.bl j702.2) (.bl true) (.int j104.2.2.2.2.2.2.2.2.1) q108 (.ref q110) (.ref Astand_.line))), aL pwords_ words_, aL pputs_ puts_] := hs.tk 7
      obtain rfl := Option.some.inj hm
      exact ⟨hs, rfl⟩
    · replace hm := ife c746 hm
      replace hs : Sep S0_ H H747 [aC Astand_.line (.dK (lineK j104.2.2.2.2.2.2.2.2.2.2.2)), aL q110 j104.2.2.2.2.2.2.2.2.2.2.1, aV q108 j104.2.2.2.2.2.2.2.2.2.1, aL q106 j104.1, aC Astand_.p_ (.dK (K_Own (.ref q106) (.int j104.2.1) (.int j104.2.2.1) (.int j648) (.int j199) (.bl j702.1) (.bl j702.2) (.bl j104.2.2.2.2.2.2.2.1) (.int j104.2.2.2.2.2.2.2.2.1) q108 (.ref q110) (.ref Astand_.line))), aL pwords_ words_, aL pputs_ puts_] := hs.tk 7
      obtain rfl := Option.some.inj hm
      exact ⟨hs, rfl⟩
  rintro σ' H741 ⟨hs, rfl⟩
  obtain ⟨j758, es759, hm⟩ := bnd hm
  refine ⟨fun σ' H760 => Sep S0_ H H760 [aC Astand_.line (.dK (lineK j104.2.2.2.2.2.2.2.2.2.2.2)), aL q110 j104.2.2.2.2.2.2.2.2.2.2.1, aV q108 j104.2.2.2.2.2.2.2.2.2.1, aL q106 j104.1, aC Astand_.p_ (.dK (K_Own (.ref q106) (.int j104.2.1) (.int j104.2.2.1) (.int j648) (.int j199) (.bl j702.1) (.bl j758) (.bl j739) (.int j104.2.2.2.2.2.2.2.2.1) q108 (.ref q110) (.ref Astand_.line))), aL pwords_ words_, aL pputs_ puts_] ∧ σ' = [some (.ref Astand_.p_), some (.int op_), some (.int x_), some (.ref pwords_), some (.ref pputs_), some (.int stand_.a), some (.int stand_.b), none, none], ?_, ?_⟩
  · have hm := es759
    try dsimp only [tNext, gName]
    try with_reducible refine iteF ?_
    refine if_use hs (b := decide ((op_ = (20 : Int)))) ?_ ?_
    · skip
      refine fun H763 hs Q_ hQ764 => ?_
      refine ⟨_, rfl, rfl, _, dI, ?_⟩
      exact hQ764 _ (hs.tl 0)
    intro H766 hs
    refine iteD (fun c765 => ?_) (fun c765 => ?_)
    · replace hm := ift c765 hm
      refine ⟨_, rfl, _, _, rfl, rfl, (show (0 : Int) < (2 : Int) by decide), rfl, ?_⟩
      try dsimp only
      rw [dI]
      have f767 := hs.cel 4 rfl
      refine ⟨_, rfl, _, _, rfl, K_Own_dput_lets f767, ?_⟩
      try dsimp only
      generalize ee_ : upd H766 Astand_.p_ _ = H768
      replace hs := (hs.putC 4 rfl trivial (.dK (K_Own (.ref q106) (.int j104.2.1) (.int j104.2.2.1) (.int j648) (.int j199) (.bl j702.1) (.bl (decide ((x_ % (2 : Int)) = (1 : Int)))) (.bl j739) (.int j104.2.2.2.2.2.2.2.2.1) q108 (.ref q110) (.ref Astand_.line)))).cast ee_
      clear ee_
      replace hs : Sep S0_ H H768 [aC Astand_.line (.dK (lineK j104.2.2.2.2.2.2.2.2.2.2.2)), aL q110 j104.2.2.2.2.2.2.2.2.2.2.1, aV q108 j104.2.2.2.2.2.2.2.2.2.1, aL q106 j104.1, aC Astand_.p_ (.dK (K_Own (.ref q106) (.int j104.2.1) (.int j104.2.2.1) (.int j648) (.int j199) (.bl j702.1) (.bl (decide ((x_ % (2 : Int)) = (1 : Int)))) (.bl j739) (.int j104.2.2.2.2.2.2.2.2.1) q108 (.ref q110) (.ref Astand_.line))), aL pwords_ words_, aL pputs_ puts_] := hs.tk 7
      obtain rfl := Option.some.inj hm
      exact ⟨hs, rfl⟩
    · replace hm := ife c765 hm
      replace hs : Sep S0_ H H766 [aC Astand_.line (.dK (lineK j104.2.2.2.2.2.2.2.2.2.2.2)), aL q110 j104.2.2.2.2.2.2.2.2.2.2.1, aV q108 j104.2.2.2.2.2.2.2.2.2.1, aL q106 j104.1, aC Astand_.p_ (.dK (K_Own (.ref q106) (.int j104.2.1) (.int j104.2.2.1) (.int j648) (.int j199) (.bl j702.1) (.bl j702.2) (.bl j739) (.int j104.2.2.2.2.2.2.2.2.1) q108 (.ref q110) (.ref Astand_.line))), aL pwords_ words_, aL pputs_ puts_] := hs.tk 7
      obtain rfl := Option.some.inj hm
      exact ⟨hs, rfl⟩
  rintro σ' H760 ⟨hs, rfl⟩
  obtain ⟨j787, es788, hm⟩ := bnd hm
  refine ⟨fun σ' H789 => Sep S0_ H H789 [aC Astand_.line (.dK (lineK j104.2.2.2.2.2.2.2.2.2.2.2)), aL q110 j104.2.2.2.2.2.2.2.2.2.2.1, aV q108 j104.2.2.2.2.2.2.2.2.2.1, aL q106 j104.1, aC Astand_.p_ (.dK (K_Own (.ref q106) (.int j104.2.1) (.int j787) (.int j648) (.int j199) (.bl j702.1) (.bl j758) (.bl j739) (.int j104.2.2.2.2.2.2.2.2.1) q108 (.ref q110) (.ref Astand_.line))), aL pwords_ words_, aL pputs_ puts_] ∧ σ' = [some (.ref Astand_.p_), some (.int op_), some (.int x_), some (.ref pwords_), some (.ref pputs_), some (.int stand_.a), some (.int stand_.b), none, none], ?_, ?_⟩
  · have hm := es788
    try dsimp only [tNext, gName]
    try with_reducible refine iteF ?_
    refine if_use hs (b := decide ((op_ ∈ ([(10 : Int), (11 : Int)] : (List Int))))) ?_ ?_
    · skip
      refine fun H797 hs Q_ hQ798 => ?_
      refine ⟨_, rfl, (by show 2 ≤ sizeLine; decide), fun p799 n800 => ?_⟩
      try dsimp only
      generalize ee_ : upd H797 p799 _ = H801
      replace hs := (hs.newL (ys := (([(10 : Int), (11 : Int)] : (List Int)) : (List Int))) n800 ((.cons imI (.cons imI .nil)))).cast ee_
      clear ee_
      have f803 := hs.scs 0 rfl
      refine ⟨_, _, rfl, .inl (SqL.of f803), rfl, flat_int _, _, in_int, ?_⟩
      exact hQ798 _ (hs.tl 1)
    intro H805 hs
    refine iteD (fun c804 => ?_) (fun c804 => ?_)
    · replace hm := ift c804 hm
      have f806 := hs.cel 4 rfl
      refine ⟨_, rfl, _, rfl, _, _, rfl, K_Own_dput_b f806, ?_⟩
      try dsimp only
      generalize ee_ : upd H805 Astand_.p_ _ = H807
      replace hs := (hs.putC 4 rfl trivial (.dK (K_Own (.ref q106) (.int j104.2.1) (.int stand_.a) (.int j648) (.int j199) (.bl j702.1) (.bl j758) (.bl j739) (.int j104.2.2.2.2.2.2.2.2.1) q108 (.ref q110) (.ref Astand_.line)))).cast ee_
      clear ee_
      replace hs : Sep S0_ H H807 [aC Astand_.line (.dK (lineK j104.2.2.2.2.2.2.2.2.2.2.2)), aL q110 j104.2.2.2.2.2.2.2.2.2.2.1, aV q108 j104.2.2.2.2.2.2.2.2.2.1, aL q106 j104.1, aC Astand_.p_ (.dK (K_Own (.ref q106) (.int j104.2.1) (.int stand_.a) (.int j648) (.int j199) (.bl j702.1) (.bl j758) (.bl j739) (.int j104.2.2.2.2.2.2.2.2.1) q108 (.ref q110) (.ref Astand_.line))), aL pwords_ words_, aL pputs_ puts_] := hs.tk 7
      obtain rfl := Option.some.inj hm
      exact ⟨hs, rfl⟩
    · replace hm := ife c804 hm
      replace hs : Sep S0_ H H805 [aC Astand_.line (.dK (lineK j104.2.2.2.2.2.2.2.2.2.2.2)), aL q110 j104.2.2.2.2.2.2.2.2.2.2.1, aV q108 j104.2.2.2.2.2.2.2.2.2.1, aL q106 j104.1, aC Astand_.p_ (.dK (K_Own (.ref q106) (.int j104.2.1) (.int j104.2.2.1) (.int j648) (.int j199) (.bl j702.1) (.bl j758) (.bl j739) (.int j104.2.2.2.2.2.2.2.2.1) q108 (.ref q110) (.ref Astand_.line))), aL pwords_ words_, aL pputs_ puts_] := hs.tk 7
      obtain rfl := Option.some.inj hm
      exact ⟨hs, rfl⟩
  rintro σ' H789 ⟨hs, rfl⟩
  refine fun p808 n809 => ?_
  try dsimp only
  generalize ee_ : upd H789 p808 _ = H810
  replace hs := (hs.newC n809 (.dK [])).cast ee_
  clear ee_
  have f811 := hs.cel 0 rfl
  refine ⟨_, rfl, _, rfl, _, rfl, _, _, rfl, rfl, ⟨by decide, by decide⟩, f811, lineK ([(1, x_), (11, stand_.b), (22, stand_.a / (2 : Int))] : List (Int × Int)), rfl, (by show 3 ≤ 15; decide), ?_⟩
  have em812 : mergeK [] (lineK ([(1, x_), (11, stand_.b), (22, stand_.a / (2 : Int))] : List (Int × Int))) = lineK ([(1, x_), (11, stand_.b), (22, stand_.a / (2 : Int))] : List (Int × Int)) := by kernel_rfl
  rw [em812]
  try dsimp only
  generalize ee_ : upd H810 p808 _ = H813
  replace hs := (hs.putC 0 rfl trivial (.dK (lineK ([(1, x_), (11, stand_.b), (22, stand_.a / (2 : Int))] : List (Int × Int))))).cast ee_
  clear ee_
  obtain ⟨j854, es855, hm⟩ := bnd hm
  refine ⟨fun σ' H857 => ∃ (o856 : Option V), Sep S0_ H H857 [aC p808 (.dK (lineK j854)), aC Astand_.line (.dK (lineK j104.2.2.2.2.2.2.2.2.2.2.2)), aL q110 j104.2.2.2.2.2.2.2.2.2.2.1, aV q108 j104.2.2.2.2.2.2.2.2.2.1, aL q106 j104.1, aC Astand_.p_ (.dK (K_Own (.ref q106) (.int j104.2.1) (.int j787) (.int j648) (.int j199) (.bl j702.1) (.bl j758) (.bl j739) (.int j104.2.2.2.2.2.2.2.2.1) q108 (.ref q110) (.ref Astand_.line))), aL pwords_ words_, aL pputs_ puts_] ∧ σ' = [some (.ref Astand_.p_), some (.int op_), some (.int x_), some (.ref pwords_), some (.ref pputs_), some (.int stand_.a), some (.int stand_.b), some (.ref p808), o856], ?_, ?_⟩
  · have hm := es855
    try dsimp only [tNext, gName]
    try with_reducible refine iteF ?_
    refine if_use hs (b := decide ((¬ (words_ = ([] : List Int))))) ?_ ?_
    · skip
      refine fun H866 hs Q_ hQ867 => ?_
      refine ⟨_, rfl, (by show 0 ≤ sizeLine; decide), fun p868 n869 => ?_⟩
      try dsimp only
      generalize ee_ : upd H866 p868 _ = H870
      replace hs := (hs.newC n869 (.lst [])).cast ee_
      clear ee_
      have f872 := hs.scs 7 rfl
      have f873 := hs.cel 0 rfl
      refine ⟨.list (words_.map PyData.int), .list (([] : List Int).map PyData.int), dpL (SqL.of f872), dpL (xs := ([] : List Int)) (SqL.of f873), (shp_of (k := 9) (ok_L (okA_map (fun _ => ok_i) _)) (by decide)), (shp_ints _), _, (eqv_decN (eqv_intL _ _)), ?_⟩
      exact hQ867 _ (hs.tl 1)
    intro H875 hs
    refine iteD (fun c874 => ?_) (fun c874 => ?_)
    · replace hm := ift c874 hm
      obtain ⟨x876, ex876, hm⟩ := bnd hm
      obtain ⟨vs877, hl878, hv879⟩ := hs.lst 6 rfl
      obtain ⟨u880, hu881, hx882⟩ := hv879.ix ex876
      have hx882 : u880 = (.int x876) := hx882
      subst hx882
      refine ⟨_, rfl, _, _, _, _, rfl, rfl, SqL.of hl878, hu881, ?_⟩
      have f883 := hs.cel 0 rfl
      refine ⟨_, rfl, .inr (.inr (.inl ⟨rfl, .inl ⟨_, f883⟩⟩)), fun p884 n885 => ?_⟩
      try dsimp only
      generalize ee_ : upd H875 p884 _ = H886
      replace hs := (hs.newC n885 (.dK [])).cast ee_
      clear ee_
      have f887 := hs.cel 0 rfl
      refine ⟨_, rfl, _, rfl, _, rfl, _, rfl, _, rfl, _, _, rfl, rfl, _, _, rfl, rfl, (show (0 : Int) < (65536 : Int) by decide), _, rfl, _, rfl, _, _, rfl, rfl, _, _, rfl, rfl, (show (0 : Int) < (65536 : Int) by decide), _, rfl, _, rfl, _, _, rfl, rfl, _, rfl, _, rfl, _, _, rfl, rfl, f887, lineK ([(2, x876), (8, x876), (18, x876), (4, (stand_.a + x876) % (65536 : Int)), (5, (stand_.a - x876) % (65536 : Int)), (6, Builtin.bitAnd stand_.a x876), (7, Builtin.bitXor stand_.a x876)] : List (Int × Int)), rfl, (by show 7 ≤ 15; decide), ?_⟩
      have em888 : mergeK [] (lineK ([(2, x876), (8, x876), (18, x876), (4, (stand_.a + x876) % (65536 : Int)), (5, (stand_.a - x876) % (65536 : Int)), (6, Builtin.bitAnd stand_.a x876), (7, Builtin.bitXor stand_.a x876)] : List (Int × Int))) = lineK ([(2, x876), (8, x876), (18, x876), (4, (stand_.a + x876) % (65536 : Int)), (5, (stand_.a - x876) % (65536 : Int)), (6, Builtin.bitAnd stand_.a x876), (7, Builtin.bitXor stand_.a x876)] : List (Int × Int)) := by kernel_rfl
      rw [em888]
      try dsimp only
      generalize ee_ : upd H886 p884 _ = H889
      replace hs := (hs.putC 0 rfl trivial (.dK (lineK ([(2, x876), (8, x876), (18, x876), (4, (stand_.a + x876) % (65536 : Int)), (5, (stand_.a - x876) % (65536 : Int)), (6, Builtin.bitAnd stand_.a x876), (7, Builtin.bitXor stand_.a x876)] : List (Int × Int))))).cast ee_
      clear ee_
      obtain ⟨g891, hm⟩ := gd hm
      obtain ⟨g892, hm⟩ := gd hm
      have nd893 : p808 ≠ p884 := hs.apart 1 0 rfl rfl (by decide)
      have f894 := hs.cel 1 rfl
      have f895 := hs.cel 0 rfl
      refine ⟨_, _, _, _, rfl, rfl, nd893, f894, f895, small_le (by rw [lineK_len, lineK_len]; omega), ?_⟩
      rw [merge_go]
      try dsimp only
      generalize ee_ : upd H889 p808 _ = H896
      replace hs := (hs.putC 1 rfl trivial (.dK (lineK (updI ([(1, x_), (11, stand_.b), (22, stand_.a / (2 : Int))] : List (Int × Int)) ([(2, x876), (8, x876), (18, x876), (4, (stand_.a + x876) % (65536 : Int)), (5, (stand_.a - x876) % (65536 : Int)), (6, Builtin.bitAnd stand_.a x876), (7, Builtin.bitXor stand_.a x876)] : List (Int × Int)))))).cast ee_
      clear ee_
      replace hs : Sep S0_ H H896 [aC p808 (.dK (lineK (updI ([(1, x_), (11, stand_.b), (22, stand_.a / (2 : Int))] : List (Int × Int)) ([(2, x876), (8, x876), (18, x876), (4, (stand_.a + x876) % (65536 : Int)), (5, (stand_.a - x876) % (65536 : Int)), (6, Builtin.bitAnd stand_.a x876), (7, Builtin.bitXor stand_.a x876)] : List (Int × Int))))), aC Astand_.line (.dK (lineK j104.2.2.2.2.2.2.2.2.2.2.2)), aL q110 j104.2.2.2.2.2.2.2.2.2.2.1, aV q108 j104.2.2.2.2.2.2.2.2.2.1, aL q106 j104.1, aC Astand_.p_ (.dK (K_Own (.ref q106) (.int j104.2.1) (.int j787) (.int j648) (.int j199) (.bl j702.1) (.bl j758) (.bl j739) (.int j104.2.2.2.2.2.2.2.2.1) q108 (.ref q110) (.ref Astand_.line))), aL pwords_ words_, aL pputs_ puts_] := hs.pick [8, 8, 8, 8, 8, 8, 8, 8] 8 (by kernel_rfl)
      obtain rfl := Option.some.inj hm
      exact ⟨_, hs, rfl⟩
    · replace hm := ife c874 hm
      replace hs : Sep S0_ H H875 [aC p808 (.dK (lineK ([(1, x_), (11, stand_.b), (22, stand_.a / (2 : Int))] : List (Int × Int)))), aC Astand_.line (.dK (lineK j104.2.2.2.2.2.2.2.2.2.2.2)), aL q110 j104.2.2.2.2.2.2.2.2.2.2.1, aV q108 j104.2.2.2.2.2.2.2.2.2.1, aL q106 j104.1, aC Astand_.p_ (.dK (K_Own (.ref q106) (.int j104.2.1) (.int j787) (.int j648) (.int j199) (.bl j702.1) (.bl j758) (.bl j739) (.int j104.2.2.2.2.2.2.2.2.1) q108 (.ref q110) (.ref Astand_.line))), aL pwords_ words_, aL pputs_ puts_] := hs.tk 8
      obtain rfl := Option.some.inj hm
      exact ⟨_, hs, rfl⟩
  rintro σ' H857 ⟨o856, hs, rfl⟩
  try dsimp only [tNext, gName]
  try with_reducible refine iteF ?_
  refine if_use hs (b := decide (((lookI j854 op_).isSome = true))) ?_ ?_
  · skip
    refine fun H900 hs Q_ hQ901 => ?_
    have f902 := hs.cel 0 rfl
    refine ⟨_, rfl, _, rfl, _, _, rfl, .inl ⟨_, Sum.inl op_, .inl f902, rfl, (valV_lineK _ _).symm⟩, _, dIn, ?_⟩
    exact hQ901 _ (hs.tl 0)
  intro H904 hs
  refine iteD (fun c903 => ?_) (fun c903 => ?_)
  · replace hm := ift c903 hm
    obtain ⟨x905, ex905, hm⟩ := bnd hm
    have f906 := hs.cel 0 rfl
    have f907 := hs.cel 5 rfl
    refine ⟨_, rfl, _, rfl, _, _, rfl, .inl ⟨_, Sum.inl op_, .inl f906, rfl, (lookI_valV ex905).symm⟩, _, rfl, _, _, rfl, K_Own_dput_a f907, ?_⟩
    try dsimp only
    generalize ee_ : upd H904 Astand_.p_ _ = H908
    replace hs := (hs.putC 5 rfl trivial (.dK (K_Own (.ref q106) (.int (x905)) (.int j787) (.int j648) (.int j199) (.bl j702.1) (.bl j758) (.bl j739) (.int j104.2.2.2.2.2.2.2.2.1) q108 (.ref q110) (.ref Astand_.line)))).cast ee_
    clear ee_
    obtain ⟨x909, ex909, hm⟩ := bnd hm
    have f910 := hs.cel 0 rfl
    refine ⟨_, rfl, _, rfl, _, _, rfl, .inl ⟨_, Sum.inl op_, .inl f910, rfl, (lookI_valV ex909).symm⟩, rfl, ?_⟩
    try dsimp only
    rw [dI]
    have f911 := hs.cel 5 rfl
    refine ⟨_, rfl, _, _, rfl, K_Own_dput_zero f911, ?_⟩
    try dsimp only
    generalize ee_ : upd H908 Astand_.p_ _ = H912
    replace hs := (hs.putC 5 rfl trivial (.dK (K_Own (.ref q106) (.int (x905)) (.int j787) (.int j648) (.int j199) (.bl (decide (x909 = (0 : Int)))) (.bl j758) (.bl j739) (.int j104.2.2.2.2.2.2.2.2.1) q108 (.ref q110) (.ref Astand_.line)))).cast ee_
    clear ee_
    replace hs : Sep S0_ H H912 [a_Own K (A_Own.mk Astand_.p_ q106 q108 q110 Astand_.line) (R_Own.mk j104.1 x905 j787 j648 j199 (decide (x909 = (0 : Int))) j758 j739 j104.2.2.2.2.2.2.2.2.1 j104.2.2.2.2.2.2.2.2.2.1 j104.2.2.2.2.2.2.2.2.2.2.1 j104.2.2.2.2.2.2.2.2.2.2.2), aC p808 (.dK (lineK j854)), aL pwords_ words_, aL pputs_ puts_] := hs.cl [1,2,3,4,5] 5 (by kernel_rfl)
    replace hs : Sep S0_ H H912 [a_Own K (A_Own.mk Astand_.p_ q106 q108 q110 Astand_.line) (R_Own.mk j104.1 x905 j787 j648 j199 (decide (x909 = (0 : Int))) j758 j739 j104.2.2.2.2.2.2.2.2.1 j104.2.2.2.2.2.2.2.2.2.1 j104.2.2.2.2.2.2.2.2.2.2.1 j104.2.2.2.2.2.2.2.2.2.2.2), aL pwords_ words_, aL pputs_ puts_] := (((hs.mv 3 rfl).mv 3 rfl).mv 2 rfl).tk 3
    obtain rfl := Option.some.inj hm
    exact q H912 (A_Own.mk Astand_.p_ q106 q108 q110 Astand_.line) hs
  · replace hm := ife c903 hm
    replace hs : Sep S0_ H H904 [a_Own K (A_Own.mk Astand_.p_ q106 q108 q110 Astand_.line) (R_Own.mk j104.1 j104.2.1 j787 j648 j199 j702.1 j758 j739 j104.2.2.2.2.2.2.2.2.1 j104.2.2.2.2.2.2.2.2.2.1 j104.2.2.2.2.2.2.2.2.2.2.1 j104.2.2.2.2.2.2.2.2.2.2.2), aC p808 (.dK (lineK j854)), aL pwords_ words_, aL pputs_ puts_] := hs.cl [1,2,3,4,5] 5 (by kernel_rfl)
    replace hs : Sep S0_ H H904 [a_Own K (A_Own.mk Astand_.p_ q106 q108 q110 Astand_.line) (R_Own.mk j104.1 j104.2.1 j787 j648 j199 j702.1 j758 j739 j104.2.2.2.2.2.2.2.2.1 j104.2.2.2.2.2.2.2.2.2.1 j104.2.2.2.2.2.2.2.2.2.2.1 j104.2.2.2.2.2.2.2.2.2.2.2), aL pwords_ words_, aL pputs_ puts_] := (((hs.mv 3 rfl).mv 3 rfl).mv 2 rfl).tk 3
    obtain rfl := Option.some.inj hm
    exact q H904 (A_Own.mk Astand_.p_ q106 q108 q110 Astand_.line) hs
end
def m__law_deed_l1 (stand_ : R_Own) (k251 : Int) (a250 : (List Int)) : Option ((List Int)) :=
  (atI stand_.m k251).bind fun x261 =>
  snoc a250 x261
def m__law_deed (stand_ : R_Own) : Option (Str × R_Own) :=
  if ((767 : Int) < stand_.pc) then
    (m__law_halts stand_ (some ([(.str "far"), (.int stand_.pc), (.int stand_.pc)] : List V))).bind fun r25 =>
    some (r25.1, r25.2)
  else
    (atI stand_.m stand_.pc).bind fun x34 =>
    (atI stand_.m stand_.pc).bind fun x41 =>
    if (((x34 / (1024 : Int)) = (0 : Int)) ∨ ((22 : Int) < (x34 / (1024 : Int)))) then
      (atI ([(("mark" : Str), stand_.pc), (("none" : Str), stand_.pc)] : (List (Str × Int))) (if decide ((22 : Int) < (x34 / (1024 : Int))) = true then (1 : Int) else 0)).bind fun x80 =>
      (m__law_halts stand_ (some ([(.str x80.1), (.int x80.2)] : List V))).bind fun r94 =>
      some (r94.1, r94.2)
    else
      (if ((x34 / (1024 : Int)) = (21 : Int)) then
        some ([stand_.sp + (1 : Int), stand_.sp + (2 : Int)] : (List Int))
      else
        some (if (x34 / (1024 : Int)) = 2 then ([x41 % (1024 : Int)] : (List Int)) else (if (x34 / (1024 : Int)) = 4 then ([x41 % (1024 : Int)] : (List Int)) else (if (x34 / (1024 : Int)) = 5 then ([x41 % (1024 : Int)] : (List Int)) else (if (x34 / (1024 : Int)) = 6 then ([x41 % (1024 : Int)] : (List Int)) else (if (x34 / (1024 : Int)) = 7 then ([x41 % (1024 : Int)] : (List Int)) else (if (x34 / (1024 : Int)) = 8 then ([(x41 % (1024 : Int)) + stand_.b] : (List Int)) else (if (x34 / (1024 : Int)) = 16 then ([stand_.sp + (1 : Int)] : (List Int)) else (if (x34 / (1024 : Int)) = 18 then ([stand_.sp + (1 : Int)] : (List Int)) else ([] : (List Int))))))))))).bind fun (j163 : (List Int)) =>
      (m__law_barred stand_ j163 (if (x34 / (1024 : Int)) = 3 then ([x41 % (1024 : Int)] : (List Int)) else (if (x34 / (1024 : Int)) = 9 then ([(x41 % (1024 : Int)) + stand_.b] : (List Int)) else (if (x34 / (1024 : Int)) = 15 then ([stand_.sp] : (List Int)) else (if (x34 / (1024 : Int)) = 17 then ([stand_.sp] : (List Int)) else ([] : (List Int))))))).bind fun r212 =>
      if (r212 ≠ none) then
        (m__law_halts stand_ r212).bind fun r229 =>
        some (r229.1, r229.2)
      else
        (forS (m__law_deed_l1 stand_) j163 []).bind fun a250 =>
        (m__law_done ({ stand_ with pc := stand_.pc + (1 : Int) }) (x34 / (1024 : Int)) (x41 % (1024 : Int)) a250 (if (x34 / (1024 : Int)) = 3 then ([x41 % (1024 : Int)] : (List Int)) else (if (x34 / (1024 : Int)) = 9 then ([(x41 % (1024 : Int)) + stand_.b] : (List Int)) else (if (x34 / (1024 : Int)) = 15 then ([stand_.sp] : (List Int)) else (if (x34 / (1024 : Int)) = 17 then ([stand_.sp] : (List Int)) else ([] : (List Int))))))).bind fun r273 =>
        (m__law_go_by r273 (((1 : Int) + (j163.length : Int)) + ((if (x34 / (1024 : Int)) = 3 then ([x41 % (1024 : Int)] : (List Int)) else (if (x34 / (1024 : Int)) = 9 then ([(x41 % (1024 : Int)) + stand_.b] : (List Int)) else (if (x34 / (1024 : Int)) = 15 then ([stand_.sp] : (List Int)) else (if (x34 / (1024 : Int)) = 17 then ([stand_.sp] : (List Int)) else ([] : (List Int)))))).length : Int))).bind fun r287 =>
        some (("deed" : Str), r287)
section
variable {P : Program} {w : World} {K : PySem.W.Frag} {mg : Str → Option Value} {base : Heap}
def sp__law_deed (K : PySem.W.Frag) : Sp := fun vs H Q E_ => ∃ (Astand_ : A_Own) (stand_ : R_Own) (r_ : Str × R_Own), vs = [.ref Astand_.p_] ∧ (oks H [a_Own K Astand_ stand_] ∧ (owns [a_Own K Astand_ stand_]).Nodup ∧ m__law_deed stand_ = some r_ ∧ (∀ (H' : Hp) (Bstand_ : A_Own), Sep (owns [a_Own K Astand_ stand_]) H H' [a_Own K (Bstand_.w_line Astand_.p_ Astand_.line) r_.2] → Q (.str r_.1) H'))
abbrev N__law_deed : List Str := ["_law_stand", "_law_pc", "_law_sp", "_law_m", "_law_op", "_law_x", "_law_reads", "_law_puts", "_law_bar", "_law_address"]
theorem sc__law_deed : FnScope N__law_deed ["_law_stand"] (defScope s__law_deed) := ⟨rfl, rfl, rfl, by decide +kernel, rfl, by decide +kernel, by decide +kernel⟩
theorem ok__law_deed (T : Txt K mg) : Ok P w K mg base CX0 3 (He.fAd K ("_law_deed", none)) ["_law_stand"] (sp__law_deed K) := by
  obtain ⟨_, G__law_halts, b__law_halts, kp__law_halts⟩ := ok__law_halts (P := P) (w := w) (base := base) T
  obtain ⟨_, G__law_barred, b__law_barred, kp__law_barred⟩ := ok__law_barred (P := P) (w := w) (base := base) T
  obtain ⟨_, G__law_done, b__law_done, kp__law_done⟩ := ok__law_done (P := P) (w := w) (base := base) T
  obtain ⟨_, G__law_go_by, b__law_go_by, kp__law_go_by⟩ := ok__law_go_by (P := P) (w := w) (base := base) T
  obtain ⟨fd, F⟩ := T.d__law_deed
  refine ⟨fd, F.ok sc__law_deed (fun vs H Q E h => by obtain ⟨Astand_, stand_, r_, rfl, _⟩ := h; rfl) (fun cdv A_ outer s_ H vs Q E hr h => ?_), F.bindsN (fun _ _ _ _ _ _ us hl => match us, hl with | [_], _ => rfl), F.kp⟩
  obtain ⟨Astand_, stand_, r_, rfl, h⟩ := h
  have hu := hu_of hr
  refine ⟨_, PSs.nox (pss_cons (ps_asg (pe_tup (pa_cons (pe_dget hu (pv 0) pe_str (fun _ _ => rfl)) (pa_cons (pe_dget hu (pv 0) pe_str (fun _ _ => rfl)) (pa_cons (pe_dget hu (pv 0) pe_str (fun _ _ => rfl)) pa_nil)))) (pg_tup rfl (pgs_cons (pg_name (i := 1) sc__law_deed.nd rfl (.inl rfl)) (pgs_cons (pg_name (i := 2) sc__law_deed.nd rfl (.inl rfl)) (pgs_cons (pg_name (i := 3) sc__law_deed.nd rfl (.inr rfl)) pgs_nil)))))
  (pss_cons (ps_if (pt_cmpR op_gt (pv 1) pe_int (nomark _)) (pss_one (ps_ret (pe_call G__law_halts (hr.mono (by decide)) (by rfl) T.g__law_halts kp__law_halts b__law_halts .nil pass0 (pa_cons (pv 0) (pa_cons (pe_tup (pa_cons pe_str (pa_cons (pv 1) (pa_cons (pv 1) pa_nil)))) pa_nil))))) pss_nil)
  (pss_cons (ps_par (i := 4) (j := 5) (by rfl) sc__law_deed.nd rfl rfl (by decide) rfl rfl (pa_cons (pe_op op_fdiv (pe_ix ix_list (pv 3) (pv 1) (fun _ _ => rfl)) pe_int) (pa_cons (pe_op op_mod (pe_ix ix_list (pv 3) (pv 1) (fun _ _ => rfl)) pe_int) pa_nil)) (by rfl))
  (pss_cons (ps_if (PW.pt (pw_or (pt_cmpR op_eq (pv 4) pe_int (nomark _)) (pw_or1 (pt_cmpR op_gt (pv 4) pe_int (nomark _))))) (pss_one (ps_ret (pe_call G__law_halts (hr.mono (by decide)) (by rfl) T.g__law_halts kp__law_halts b__law_halts .nil pass0 (pa_cons (pv 0) (pa_cons (pe_ix ix_list (pe_lst (pa_cons (pe_tup (pa_cons pe_str (pa_cons (pv 1) pa_nil))) (pa_cons (pe_tup (pa_cons pe_str (pa_cons (pv 1) pa_nil))) pa_nil))) (pe_callTy call_int1 (by rfl) T.f_int (by decide +kernel) (pa_cons (pe_cmpR op_gt (pv 4) pe_int (nomark _)) pa_nil)) (fun _ _ => rfl)) pa_nil))))) pss_nil)
  (pss_cons (ps_set (i := 6) sc__law_deed.nd rfl (.inl rfl) (pe_dget2 hu (pe_disp (pps_cons pe_int (pe_lst (pa_cons (pv 5) pa_nil)) (pps_cons pe_int (pe_lst (pa_cons (pv 5) pa_nil)) (pps_cons pe_int (pe_lst (pa_cons (pv 5) pa_nil)) (pps_cons pe_int (pe_lst (pa_cons (pv 5) pa_nil)) (pps_cons pe_int (pe_lst (pa_cons (pv 5) pa_nil)) (pps_cons pe_int (pe_lst (pa_cons (pe_op op_add (pv 5) (pe_dget hu (pv 0) pe_str (fun _ _ => rfl))) pa_nil)) (pps_cons pe_int (pe_lst (pa_cons (pe_op op_add (pv 2) pe_int) pa_nil)) (pps_cons pe_int (pe_lst (pa_cons (pe_op op_add (pv 2) pe_int) pa_nil)) pps_nil)))))))) (by rfl) (by rfl) (fun z => by cases z) (by decide)) (pv 4) (pe_lst pa_nil) ⟨rfl, rfl, rfl, rfl⟩))
  (C8.pss_cut (ps_if (pt_cmpR op_eq (pv 4) pe_int (nomark _)) (pss_one (ps_set (i := 6) sc__law_deed.nd rfl (.inl rfl) (pe_lst (pa_cons (pe_op op_add (pv 2) pe_int) (pa_cons (pe_op op_add (pv 2) pe_int) pa_nil))))) pss_nil)
  (pss_cons (ps_set (i := 7) sc__law_deed.nd rfl (.inl rfl) (pe_dget2 hu (pe_disp (pps_cons pe_int (pe_lst (pa_cons (pv 5) pa_nil)) (pps_cons pe_int (pe_lst (pa_cons (pe_op op_add (pv 5) (pe_dget hu (pv 0) pe_str (fun _ _ => rfl))) pa_nil)) (pps_cons pe_int (pe_lst (pa_cons (pv 2) pa_nil)) (pps_cons pe_int (pe_lst (pa_cons (pv 2) pa_nil)) pps_nil)))) (by rfl) (by rfl) (fun z => by cases z) (by decide)) (pv 4) (pe_lst pa_nil) ⟨rfl, rfl, rfl, rfl⟩))
  (pss_cons (ps_set (i := 8) sc__law_deed.nd rfl (.inl rfl) (pe_call G__law_barred (hr.mono (by decide)) (by rfl) T.g__law_barred kp__law_barred b__law_barred .nil pass0 (pa_cons (pv 0) (pa_cons (pv 6) (pa_cons (pv 7) pa_nil)))))
  (pss_cons (ps_if (pt_cmpR op_notN (pv 8) pe_non (nomark _)) (pss_one (ps_ret (pe_call G__law_halts (hr.mono (by decide)) (by rfl) T.g__law_halts kp__law_halts b__law_halts .nil pass0 (pa_cons (pv 0) (pa_cons (pv 8) pa_nil))))) pss_nil)
  (pss_cons (ps_dput hu (pv 0) pe_str (pe_op op_add (pv 1) pe_int) rfl)
  (pss_cons (ps_expr (pe_call G__law_done (hr.mono (by decide)) (by rfl) T.g__law_done kp__law_done b__law_done .nil pass0 (pa_cons (pv 0) (pa_cons (pv 4) (pa_cons (pv 5) (pa_cons (pe_lc (own := [("_law_address", 9)]) (g := gName 9) (tt := tYes) rfl sc__law_deed.nd (pi_list (pv 6)) (blkOk_by (own := [("_law_address", 9)]) (N := N__law_deed) (sc := defScope s__law_deed) (by decide +kernel)) (fun _ _ _ _ _ => pg_name (i := 9) sc__law_deed.nd rfl (Or.inl rfl)) (fun _ _ _ _ _ => pts_nil) (fun _ _ _ _ _ => (pe_ix (ix_listK (K := K) rfl) (pv 3) (pv 9) (fun _ _ => rfl)))) (pa_cons (pv 7) pa_nil)))))))
  (pss_cons (ps_expr (pe_call G__law_go_by (hr.mono (by decide)) (by rfl) T.g__law_go_by kp__law_go_by b__law_go_by .nil pass0 (pa_cons (pv 0) (pa_cons (pe_op op_add (pe_op op_add pe_int (pe_callB call_len_seq (by rfl) T.f_len PySem.boot_len (pa_cons (pv 6) pa_nil))) (pe_callB call_len_seq (by rfl) T.f_len PySem.boot_len (pa_cons (pv 7) pa_nil))) pa_nil))))
  (pss_one (ps_ret pe_str)))))))))))))), ?_⟩
  obtain ⟨hp1, hp2, hm, q⟩ := h
  have hs := Sep.pre (L := [a_Own K Astand_ stand_]) ⟨hp1, hp2⟩
  generalize owns [a_Own K Astand_ stand_] = S0_ at hs q
  unfold m__law_deed at hm
  clear hp1 hp2
  replace hs := hs.opn 0 rfl
  replace hs : Sep S0_ H H (O_Own K Astand_.p_ Astand_ stand_) := hs
  have f6 := hs.cel 0 rfl
  have f7 := hs.cel 0 rfl
  have f8 := hs.cel 0 rfl
  refine ⟨_, rfl, _, _, rfl, K_Own_dget_pc f6, _, rfl, _, _, rfl, K_Own_dget_sp f7, _, rfl, _, _, rfl, K_Own_dget_m f8, (by show 3 ≤ sizeLine; decide), fun t9 n10 => ?_⟩
  try dsimp only
  generalize ee_ : upd H t9 _ = H11
  replace hs := (hs.newTup n10 [(.int stand_.pc), (.int stand_.sp), .ref Astand_.m]).cast ee_
  clear ee_
  have f13 := hs.tup 0 rfl
  refine ⟨_, _, rfl, SqT.of f13, rfl, _, _, rfl, _, _, rfl, _, _, rfl, rfl, ?_⟩
  try dsimp only [tNext, gName]
  try with_reducible refine iteF ?_
  refine if_use hs (b := decide (((767 : Int) < stand_.pc))) ?_ ?_
  · skip
    refine fun H16 hs Q_ hQ17 => ?_
    refine ⟨_, rfl, _, _, rfl, rfl, _, rfl, ?_⟩
    exact hQ17 _ (hs.tl 0)
  intro H19 hs
  refine iteD (fun c18 => ?_) (fun c18 => ?_)
  · replace hm := ift c18 hm
    refine ⟨_, rfl, _, rfl, _, rfl, (by show 3 ≤ sizeLine; decide), fun t20 n21 => ?_⟩
    try dsimp only
    generalize ee_ : upd H19 t20 _ = H22
    replace hs := (hs.newTup n21 [(.str "far"), (.int stand_.pc), (.int stand_.pc)]).cast ee_
    clear ee_
    replace hs : Sep S0_ H H22 [a_Own K Astand_ stand_, aT t20 [(.str "far"), (.int stand_.pc), (.int stand_.pc)], aT t9 [(.int stand_.pc), (.int stand_.sp), .ref Astand_.m]] := hs.cl [6,6,6,6,6] 5 (by kernel_rfl)
    replace hs := hs.addV (v := .ref t20) (x := ((some ([(.str "far"), (.int stand_.pc), (.int stand_.pc)] : List V)) : (Option (List V)))) (imO (imF (hs.tup 1 rfl)))
    obtain ⟨r25, er25, hm⟩ := bnd hm
    replace hs := hs.mv 1 rfl
    have f29 := hs.val 1 rfl
    refine ⟨Astand_, stand_, (.ref t20), (some ([(.str "far"), (.int stand_.pc), (.int stand_.pc)] : List V)), r25, rfl, f29, (hs.frontN 1).1, (hs.frontN 1).2, er25, fun H26 A28 hc27 => ?_⟩
    replace hs := hs.callN 1 hc27
    replace hs := hs.opn 0 rfl
    replace hs : Sep S0_ H H26 [aC Astand_.p_ (.dK (K_Own (.ref A28.m) (.int r25.2.a) (.int r25.2.b) (.int r25.2.pc) (.int r25.2.sp) (.bl r25.2.zero) (.bl r25.2.lets) (.bl r25.2.asleep) (.int r25.2.beat) A28.stopped (.ref A28.sent) (.ref Astand_.line))), aL A28.m r25.2.m, aV A28.stopped r25.2.stopped, aL A28.sent r25.2.sent, aC Astand_.line (.dK (lineK r25.2.line)), aV (.ref t20) ((some ([(.str "far"), (.int stand_.pc), (.int stand_.pc)] : List V)) : (Option (List V))), aT t20 [(.str "far"), (.int stand_.pc), (.int stand_.pc)], aT t9 [(.int stand_.pc), (.int stand_.sp), .ref Astand_.m]] := hs
    replace hs : Sep S0_ H H26 [a_Own K (A_Own.mk Astand_.p_ A28.m A28.stopped A28.sent Astand_.line) r25.2, aV (.ref t20) ((some ([(.str "far"), (.int stand_.pc), (.int stand_.pc)] : List V)) : (Option (List V))), aT t20 [(.str "far"), (.int stand_.pc), (.int stand_.pc)], aT t9 [(.int stand_.pc), (.int stand_.sp), .ref Astand_.m]] := hs.cl [4,4,4,4,4] 5 (by kernel_rfl)
    replace hs : Sep S0_ H H26 [a_Own K (A_Own.mk Astand_.p_ A28.m A28.stopped A28.sent Astand_.line) r25.2] := hs.tk 1
    obtain rfl := Option.some.inj hm
    exact q H26 (A_Own.mk Astand_.p_ A28.m A28.stopped A28.sent Astand_.line) hs
  · replace hm := ife c18 hm
    obtain ⟨x34, ex34, hm⟩ := bnd hm
    obtain ⟨vs35, hl36, hv37⟩ := hs.lst 2 rfl
    obtain ⟨u38, hu39, hx40⟩ := hv37.ix ex34
    have hx40 : u38 = (.int x34) := hx40
    subst hx40
    obtain ⟨x41, ex41, hm⟩ := bnd hm
    obtain ⟨vs42, hl43, hv44⟩ := hs.lst 2 rfl
    obtain ⟨u45, hu46, hx47⟩ := hv44.ix ex41
    have hx47 : u45 = (.int x41) := hx47
    subst hx47
    refine ⟨_, rfl, _, rfl, _, _, _, _, rfl, rfl, SqL.of hl36, hu39, _, _, rfl, rfl, ⟨by decide, by decide⟩, _, rfl, _, rfl, _, _, _, _, rfl, rfl, SqL.of hl43, hu46, _, _, rfl, rfl, (show (0 : Int) < (1024 : Int) by decide), _, _, rfl, ?_⟩
    try dsimp only [tNext, gName]
    try with_reducible refine iteF ?_
    refine if_use hs (b := decide ((((x34 / (1024 : Int)) = (0 : Int)) ∨ ((22 : Int) < (x34 / (1024 : Int)))))) ?_ ?_
    · skip
      refine ev_or (P := ((x34 / (1024 : Int)) = (0 : Int))) (R := ((22 : Int) < (x34 / (1024 : Int)))) ?_ (fun c61 => ?_)
      · skip
        refine fun H62 hs Q_ hQ63 => ?_
        refine ⟨_, rfl, rfl, _, dI, ?_⟩
        exact hQ63 _ (hs.tl 0)
      · skip
        refine fun H64 hs Q_ hQ65 => ?_
        refine ⟨_, rfl, _, _, rfl, rfl, _, rfl, ?_⟩
        exact hQ65 _ (hs.tl 0)
    intro H67 hs
    refine iteD (fun c66 => ?_) (fun c66 => ?_)
    · replace hm := ift c66 hm
      refine ⟨_, rfl, _, rfl, (by show 2 ≤ sizeLine; decide), fun t68 n69 => ?_⟩
      try dsimp only
      generalize ee_ : upd H67 t68 _ = H70
      replace hs := (hs.newTup n69 [(.str "mark"), (.int stand_.pc)]).cast ee_
      clear ee_
      refine ⟨_, rfl, (by show 2 ≤ sizeLine; decide), fun t72 n73 => ?_⟩
      try dsimp only
      generalize ee_ : upd H70 t72 _ = H74
      replace hs := (hs.newTup n73 [(.str "none"), (.int stand_.pc)]).cast ee_
      clear ee_
      refine ⟨(by show 2 ≤ sizeLine; decide), fun p76 n77 => ?_⟩
      try dsimp only
      generalize ee_ : upd H74 p76 _ = H78
      replace hs := (hs.newL (ys := (([(("mark" : Str), stand_.pc), (("none" : Str), stand_.pc)] : (List (Str × Int))) : (List (Str × Int)))) n77 ((.cons (im2 (hs.tup 1 rfl) imS imI) (.cons (im2 (hs.tup 0 rfl) imS imI) .nil)))).cast ee_
      clear ee_
      refine ⟨_, rfl, _, _, rfl, rfl, .inr ⟨_, congrArg (fun z => [z]) rfl, ?_⟩⟩
      obtain ⟨x80, ex80, hm⟩ := bnd hm
      obtain ⟨vs81, hl82, hv83⟩ := hs.lst 0 rfl
      obtain ⟨u84, hu85, hx86⟩ := hv83.ix ex80
      replace hs := hs.addV hx86
      replace hs : Sep S0_ H H78 [a_Own K Astand_ stand_, aV u84 x80, aL p76 (([(("mark" : Str), stand_.pc), (("none" : Str), stand_.pc)] : (List (Str × Int))) : (List (Str × Int))), aT t72 [(.str "none"), (.int stand_.pc)], aT t68 [(.str "mark"), (.int stand_.pc)], aT t9 [(.int stand_.pc), (.int stand_.sp), .ref Astand_.m]] := hs.cl [9,9,9,9,9] 5 (by kernel_rfl)
      obtain ⟨t88, u90, u91, rfl, ht89, rfl, rfl⟩ := hs.val 1 rfl
      replace hs := hs.addT ht89
      replace hs := hs.addV (v := .ref t88) (x := ((some ([(.str x80.1), (.int x80.2)] : List V)) : (Option (List V)))) (imO (imF (hs.tup 0 rfl)))
      obtain ⟨r94, er94, hm⟩ := bnd hm
      replace hs := hs.mv 2 rfl
      have f98 := hs.val 1 rfl
      refine ⟨_, _, _, _, rfl, rfl, SqL.of hl82, hu85, Astand_, stand_, (.ref t88), (some ([(.str x80.1), (.int x80.2)] : List V)), r94, rfl, f98, (hs.frontN 1).1, (hs.frontN 1).2, er94, fun H95 A97 hc96 => ?_⟩
      replace hs := hs.callN 1 hc96
      replace hs := hs.opn 0 rfl
      replace hs : Sep S0_ H H95 [aC Astand_.p_ (.dK (K_Own (.ref A97.m) (.int r94.2.a) (.int r94.2.b) (.int r94.2.pc) (.int r94.2.sp) (.bl r94.2.zero) (.bl r94.2.lets) (.bl r94.2.asleep) (.int r94.2.beat) A97.stopped (.ref A97.sent) (.ref Astand_.line))), aL A97.m r94.2.m, aV A97.stopped r94.2.stopped, aL A97.sent r94.2.sent, aC Astand_.line (.dK (lineK r94.2.line)), aV (.ref t88) ((some ([(.str x80.1), (.int x80.2)] : List V)) : (Option (List V))), aT t88 [(.str x80.1), (.int x80.2)], aV (.ref t88) x80, aL p76 (([(("mark" : Str), stand_.pc), (("none" : Str), stand_.pc)] : (List (Str × Int))) : (List (Str × Int))), aT t72 [(.str "none"), (.int stand_.pc)], aT t68 [(.str "mark"), (.int stand_.pc)], aT t9 [(.int stand_.pc), (.int stand_.sp), .ref Astand_.m]] := hs
      replace hs : Sep S0_ H H95 [a_Own K (A_Own.mk Astand_.p_ A97.m A97.stopped A97.sent Astand_.line) r94.2, aV (.ref t88) ((some ([(.str x80.1), (.int x80.2)] : List V)) : (Option (List V))), aT t88 [(.str x80.1), (.int x80.2)], aV (.ref t88) x80, aL p76 (([(("mark" : Str), stand_.pc), (("none" : Str), stand_.pc)] : (List (Str × Int))) : (List (Str × Int))), aT t72 [(.str "none"), (.int stand_.pc)], aT t68 [(.str "mark"), (.int stand_.pc)], aT t9 [(.int stand_.pc), (.int stand_.sp), .ref Astand_.m]] := hs.cl [4,4,4,4,4] 5 (by kernel_rfl)
      replace hs : Sep S0_ H H95 [a_Own K (A_Own.mk Astand_.p_ A97.m A97.stopped A97.sent Astand_.line) r94.2] := hs.tk 1
      obtain rfl := Option.some.inj hm
      exact q H95 (A_Own.mk Astand_.p_ A97.m A97.stopped A97.sent Astand_.line) hs
    · replace hm := ife c66 hm
      refine fun p103 n104 => ?_
      try dsimp only
      generalize ee_ : upd H67 p103 _ = H105
      replace hs := (hs.newC n104 (.dK [])).cast ee_
      clear ee_
      refine ⟨_, rfl, (by show 1 ≤ sizeLine; decide), fun p107 n108 => ?_⟩
      try dsimp only
      generalize ee_ : upd H105 p107 _ = H109
      replace hs := (hs.newL (ys := (([x41 % (1024 : Int)] : (List Int)) : (List Int))) n108 ((.cons imI .nil))).cast ee_
      clear ee_
      refine ⟨_, rfl, (by show 1 ≤ sizeLine; decide), fun p111 n112 => ?_⟩
      try dsimp only
      generalize ee_ : upd H109 p111 _ = H113
      replace hs := (hs.newL (ys := (([x41 % (1024 : Int)] : (List Int)) : (List Int))) n112 ((.cons imI .nil))).cast ee_
      clear ee_
      refine ⟨_, rfl, (by show 1 ≤ sizeLine; decide), fun p115 n116 => ?_⟩
      try dsimp only
      generalize ee_ : upd H113 p115 _ = H117
      replace hs := (hs.newL (ys := (([x41 % (1024 : Int)] : (List Int)) : (List Int))) n116 ((.cons imI .nil))).cast ee_
      clear ee_
      refine ⟨_, rfl, (by show 1 ≤ sizeLine; decide), fun p119 n120 => ?_⟩
      try dsimp only
      generalize ee_ : upd H117 p119 _ = H121
      replace hs := (hs.newL (ys := (([x41 % (1024 : Int)] : (List Int)) : (List Int))) n120 ((.cons imI .nil))).cast ee_
      clear ee_
      refine ⟨_, rfl, (by show 1 ≤ sizeLine; decide), fun p123 n124 => ?_⟩
      try dsimp only
      generalize ee_ : upd H121 p123 _ = H125
      replace hs := (hs.newL (ys := (([x41 % (1024 : Int)] : (List Int)) : (List Int))) n124 ((.cons imI .nil))).cast ee_
      clear ee_
      have f127 := hs.cel 7 rfl
      refine ⟨_, rfl, _, rfl, _, _, rfl, K_Own_dget_b f127, _, _, rfl, rfl, (by show 1 ≤ sizeLine; decide), fun p128 n129 => ?_⟩
      try dsimp only
      generalize ee_ : upd H125 p128 _ = H130
      replace hs := (hs.newL (ys := (([(x41 % (1024 : Int)) + stand_.b] : (List Int)) : (List Int))) n129 ((.cons imI .nil))).cast ee_
      clear ee_
      refine ⟨_, rfl, _, _, rfl, rfl, (by show 1 ≤ sizeLine; decide), fun p132 n133 => ?_⟩
      try dsimp only
      generalize ee_ : upd H130 p132 _ = H134
      replace hs := (hs.newL (ys := (([stand_.sp + (1 : Int)] : (List Int)) : (List Int))) n133 ((.cons imI .nil))).cast ee_
      clear ee_
      refine ⟨_, rfl, _, _, rfl, rfl, (by show 1 ≤ sizeLine; decide), fun p136 n137 => ?_⟩
      try dsimp only
      generalize ee_ : upd H134 p136 _ = H138
      replace hs := (hs.newL (ys := (([stand_.sp + (1 : Int)] : (List Int)) : (List Int))) n137 ((.cons imI .nil))).cast ee_
      clear ee_
      have f140 := hs.cel 8 rfl
      refine ⟨f140, ([((Sum.inl 2 : Key), .ref p107), ((Sum.inl 4 : Key), .ref p111), ((Sum.inl 5 : Key), .ref p115), ((Sum.inl 6 : Key), .ref p119), ((Sum.inl 7 : Key), .ref p123), ((Sum.inl 8 : Key), .ref p128), ((Sum.inl 16 : Key), .ref p132), ((Sum.inl 18 : Key), .ref p136)] : List (Key × V)), rfl, (by show 8 ≤ 15; decide), ?_⟩
      have em141 : mergeK [] ([((Sum.inl 2 : Key), .ref p107), ((Sum.inl 4 : Key), .ref p111), ((Sum.inl 5 : Key), .ref p115), ((Sum.inl 6 : Key), .ref p119), ((Sum.inl 7 : Key), .ref p123), ((Sum.inl 8 : Key), .ref p128), ((Sum.inl 16 : Key), .ref p132), ((Sum.inl 18 : Key), .ref p136)] : List (Key × V)) = ([((Sum.inl 2 : Key), .ref p107), ((Sum.inl 4 : Key), .ref p111), ((Sum.inl 5 : Key), .ref p115), ((Sum.inl 6 : Key), .ref p119), ((Sum.inl 7 : Key), .ref p123), ((Sum.inl 8 : Key), .ref p128), ((Sum.inl 16 : Key), .ref p132), ((Sum.inl 18 : Key), .ref p136)] : List (Key × V)) := by kernel_rfl
      rw [em141]
      try dsimp only
      generalize ee_ : upd H138 p103 _ = H142
      replace hs := (hs.putC 8 rfl trivial (.dK ([((Sum.inl 2 : Key), .ref p107), ((Sum.inl 4 : Key), .ref p111), ((Sum.inl 5 : Key), .ref p115), ((Sum.inl 6 : Key), .ref p119), ((Sum.inl 7 : Key), .ref p123), ((Sum.inl 8 : Key), .ref p128), ((Sum.inl 16 : Key), .ref p132), ((Sum.inl 18 : Key), .ref p136)] : List (Key × V)))).cast ee_
      clear ee_
      have f143 := hs.cel 8 rfl
      refine ⟨_, rfl, .inl ⟨_, .inl f143⟩, _, rfl, (by show 0 ≤ sizeLine; decide), fun p144 n145 => ?_⟩
      try dsimp only
      generalize ee_ : upd H142 p144 _ = H146
      replace hs := (hs.newL (ys := (([] : (List Int)) : (List Int))) n145 (.nil)).cast ee_
      clear ee_
      have f148 := hs.cel 9 rfl
      refine ⟨_, .inl ⟨_, Sum.inl (x34 / (1024 : Int)), .inl f148, rfl, rfl⟩, ?_⟩
      obtain ⟨p149, ep150, hs⟩ : ∃ pp, (valV ([((Sum.inl 2 : Key), .ref p107), ((Sum.inl 4 : Key), .ref p111), ((Sum.inl 5 : Key), .ref p115), ((Sum.inl 6 : Key), .ref p119), ((Sum.inl 7 : Key), .ref p123), ((Sum.inl 8 : Key), .ref p128), ((Sum.inl 16 : Key), .ref p132), ((Sum.inl 18 : Key), .ref p136)] : List (Key × V)) (Sum.inl (x34 / (1024 : Int)) : Key)).getD (.ref p144) = .ref pp ∧ Sep S0_ H H146 (aL pp ((if (x34 / (1024 : Int)) = 2 then ([x41 % (1024 : Int)] : (List Int)) else (if (x34 / (1024 : Int)) = 4 then ([x41 % (1024 : Int)] : (List Int)) else (if (x34 / (1024 : Int)) = 5 then ([x41 % (1024 : Int)] : (List Int)) else (if (x34 / (1024 : Int)) = 6 then ([x41 % (1024 : Int)] : (List Int)) else (if (x34 / (1024 : Int)) = 7 then ([x41 % (1024 : Int)] : (List Int)) else (if (x34 / (1024 : Int)) = 8 then ([(x41 % (1024 : Int)) + stand_.b] : (List Int)) else (if (x34 / (1024 : Int)) = 16 then ([stand_.sp + (1 : Int)] : (List Int)) else (if (x34 / (1024 : Int)) = 18 then ([stand_.sp + (1 : Int)] : (List Int)) else ([] : (List Int)))))))))) : (List Int)) :: [aT t9 [(.int stand_.pc), (.int stand_.sp), .ref Astand_.m], aC Astand_.p_ (.dK (K_Own (.ref Astand_.m) (.int stand_.a) (.int stand_.b) (.int stand_.pc) (.int stand_.sp) (.bl stand_.zero) (.bl stand_.lets) (.bl stand_.asleep) (.int stand_.beat) Astand_.stopped (.ref Astand_.sent) (.ref Astand_.line))), aL Astand_.m stand_.m, aV Astand_.stopped stand_.stopped, aL Astand_.sent stand_.sent, aC Astand_.line (.dK (lineK stand_.line))]) := by
        simp only [valV_c, valV_nil]
        by_cases c151_0 : (x34 / (1024 : Int)) = 2
        · simp only [if_pos c151_0]
          refine ⟨_, rfl, ?_⟩
          replace hs : Sep S0_ H H146 ([aL p107 (([x41 % (1024 : Int)] : (List Int)) : (List Int)), aT t9 [(.int stand_.pc), (.int stand_.sp), .ref Astand_.m]] ++ O_Own K Astand_.p_ Astand_ stand_) := hs.pick [15, 15, 15, 15, 15, 15, 14] 7 (by kernel_rfl)
          exact hs
        simp only [if_neg c151_0]
        by_cases c151_1 : (x34 / (1024 : Int)) = 4
        · simp only [if_pos c151_1]
          refine ⟨_, rfl, ?_⟩
          replace hs : Sep S0_ H H146 ([aL p111 (([x41 % (1024 : Int)] : (List Int)) : (List Int)), aT t9 [(.int stand_.pc), (.int stand_.sp), .ref Astand_.m]] ++ O_Own K Astand_.p_ Astand_ stand_) := hs.pick [15, 15, 15, 15, 15, 15, 13] 7 (by kernel_rfl)
          exact hs
        simp only [if_neg c151_1]
        by_cases c151_2 : (x34 / (1024 : Int)) = 5
        · simp only [if_pos c151_2]
          refine ⟨_, rfl, ?_⟩
          replace hs : Sep S0_ H H146 ([aL p115 (([x41 % (1024 : Int)] : (List Int)) : (List Int)), aT t9 [(.int stand_.pc), (.int stand_.sp), .ref Astand_.m]] ++ O_Own K Astand_.p_ Astand_ stand_) := hs.pick [15, 15, 15, 15, 15, 15, 12] 7 (by kernel_rfl)
          exact hs
        simp only [if_neg c151_2]
        by_cases c151_3 : (x34 / (1024 : Int)) = 6
        · simp only [if_pos c151_3]
          refine ⟨_, rfl, ?_⟩
          replace hs : Sep S0_ H H146 ([aL p119 (([x41 % (1024 : Int)] : (List Int)) : (List Int)), aT t9 [(.int stand_.pc), (.int stand_.sp), .ref Astand_.m]] ++ O_Own K Astand_.p_ Astand_ stand_) := hs.pick [15, 15, 15, 15, 15, 15, 11] 7 (by kernel_rfl)
          exact hs
        simp only [if_neg c151_3]
        by_cases c151_4 : (x34 / (1024 : Int)) = 7
        · simp only [if_pos c151_4]
          refine ⟨_, rfl, ?_⟩
          replace hs : Sep S0_ H H146 ([aL p123 (([x41 % (1024 : Int)] : (List Int)) : (List Int)), aT t9 [(.int stand_.pc), (.int stand_.sp), .ref Astand_.m]] ++ O_Own K Astand_.p_ Astand_ stand_) := hs.pick [15, 15, 15, 15, 15, 15, 10] 7 (by kernel_rfl)
          exact hs
        simp only [if_neg c151_4]
        by_cases c151_5 : (x34 / (1024 : Int)) = 8
        · simp only [if_pos c151_5]
          refine ⟨_, rfl, ?_⟩
          replace hs : Sep S0_ H H146 ([aL p128 (([(x41 % (1024 : Int)) + stand_.b] : (List Int)) : (List Int)), aT t9 [(.int stand_.pc), (.int stand_.sp), .ref Astand_.m]] ++ O_Own K Astand_.p_ Astand_ stand_) := hs.pick [15, 15, 15, 15, 15, 15, 9] 7 (by kernel_rfl)
          exact hs
        simp only [if_neg c151_5]
        by_cases c151_6 : (x34 / (1024 : Int)) = 16
        · simp only [if_pos c151_6]
          refine ⟨_, rfl, ?_⟩
          replace hs : Sep S0_ H H146 ([aL p132 (([stand_.sp + (1 : Int)] : (List Int)) : (List Int)), aT t9 [(.int stand_.pc), (.int stand_.sp), .ref Astand_.m]] ++ O_Own K Astand_.p_ Astand_ stand_) := hs.pick [15, 15, 15, 15, 15, 15, 8] 7 (by kernel_rfl)
          exact hs
        simp only [if_neg c151_6]
        by_cases c151_7 : (x34 / (1024 : Int)) = 18
        · simp only [if_pos c151_7]
          refine ⟨_, rfl, ?_⟩
          replace hs : Sep S0_ H H146 ([aL p136 (([stand_.sp + (1 : Int)] : (List Int)) : (List Int)), aT t9 [(.int stand_.pc), (.int stand_.sp), .ref Astand_.m]] ++ O_Own K Astand_.p_ Astand_ stand_) := hs.pick [15, 15, 15, 15, 15, 15, 7] 7 (by kernel_rfl)
          exact hs
        simp only [if_neg c151_7]
        refine ⟨_, rfl, ?_⟩
        replace hs : Sep S0_ H H146 ([aL p144 (([] : (List Int)) : (List Int)), aT t9 [(.int stand_.pc), (.int stand_.sp), .ref Astand_.m]] ++ O_Own K Astand_.p_ Astand_ stand_) := hs.pick [15, 15, 15, 15, 15, 15, 6] 7 (by kernel_rfl)
        exact hs
      rw [ep150]
      obtain ⟨j163, es164, hm⟩ := bnd hm
      refine ⟨fun σ' H167 => ∃ (p165 : Addr), Sep S0_ H H167 ([aL p165 j163] ++ O_Own K Astand_.p_ Astand_ stand_) ∧ σ' = [some (.ref Astand_.p_), some (.int stand_.pc), some (.int stand_.sp), some (.ref Astand_.m), some (.int (x34 / (1024 : Int))), some (.int (x41 % (1024 : Int))), some (.ref p165), none, none, none], ?_, ?_⟩
      · have hm := es164
        try dsimp only [tNext, gName]
        try with_reducible refine iteF ?_
        refine if_use hs (b := decide (((x34 / (1024 : Int)) = (21 : Int)))) ?_ ?_
        · skip
          refine fun H170 hs Q_ hQ171 => ?_
          refine ⟨_, rfl, rfl, _, dI, ?_⟩
          exact hQ171 _ (hs.tl 0)
        intro H173 hs
        refine iteD (fun c172 => ?_) (fun c172 => ?_)
        · replace hm := ift c172 hm
          refine ⟨_, rfl, _, _, rfl, rfl, _, rfl, _, _, rfl, rfl, (by show 2 ≤ sizeLine; decide), fun p174 n175 => ?_⟩
          try dsimp only
          generalize ee_ : upd H173 p174 _ = H176
          replace hs := (hs.newL (ys := (([stand_.sp + (1 : Int), stand_.sp + (2 : Int)] : (List Int)) : (List Int))) n175 ((.cons imI (.cons imI .nil)))).cast ee_
          clear ee_
          replace hs : Sep S0_ H H176 ([aL p174 (([stand_.sp + (1 : Int), stand_.sp + (2 : Int)] : (List Int)) : (List Int))] ++ O_Own K Astand_.p_ Astand_ stand_) := hs.pick [7, 7, 7, 7, 7, 5] 6 (by kernel_rfl)
          obtain rfl := Option.some.inj hm
          exact ⟨p174, hs, rfl⟩
        · replace hm := ife c172 hm
          replace hs : Sep S0_ H H173 ([aL p149 ((if (x34 / (1024 : Int)) = 2 then ([x41 % (1024 : Int)] : (List Int)) else (if (x34 / (1024 : Int)) = 4 then ([x41 % (1024 : Int)] : (List Int)) else (if (x34 / (1024 : Int)) = 5 then ([x41 % (1024 : Int)] : (List Int)) else (if (x34 / (1024 : Int)) = 6 then ([x41 % (1024 : Int)] : (List Int)) else (if (x34 / (1024 : Int)) = 7 then ([x41 % (1024 : Int)] : (List Int)) else (if (x34 / (1024 : Int)) = 8 then ([(x41 % (1024 : Int)) + stand_.b] : (List Int)) else (if (x34 / (1024 : Int)) = 16 then ([stand_.sp + (1 : Int)] : (List Int)) else (if (x34 / (1024 : Int)) = 18 then ([stand_.sp + (1 : Int)] : (List Int)) else ([] : (List Int)))))))))) : (List Int))] ++ O_Own K Astand_.p_ Astand_ stand_) := hs.pick [6, 6, 6, 6, 6, 5] 6 (by kernel_rfl)
          obtain rfl := Option.some.inj hm
          exact ⟨p149, hs, rfl⟩
      rintro σ' H167 ⟨p165, hs, rfl⟩
      refine fun p178 n179 => ?_
      try dsimp only
      generalize ee_ : upd H167 p178 _ = H180
      replace hs := (hs.newC n179 (.dK [])).cast ee_
      clear ee_
      refine ⟨_, rfl, (by show 1 ≤ sizeLine; decide), fun p182 n183 => ?_⟩
      try dsimp only
      generalize ee_ : upd H180 p182 _ = H184
      replace hs := (hs.newL (ys := (([x41 % (1024 : Int)] : (List Int)) : (List Int))) n183 ((.cons imI .nil))).cast ee_
      clear ee_
      have f186 := hs.cel 3 rfl
      refine ⟨_, rfl, _, rfl, _, _, rfl, K_Own_dget_b f186, _, _, rfl, rfl, (by show 1 ≤ sizeLine; decide), fun p187 n188 => ?_⟩
      try dsimp only
      generalize ee_ : upd H184 p187 _ = H189
      replace hs := (hs.newL (ys := (([(x41 % (1024 : Int)) + stand_.b] : (List Int)) : (List Int))) n188 ((.cons imI .nil))).cast ee_
      clear ee_
      refine ⟨_, rfl, (by show 1 ≤ sizeLine; decide), fun p191 n192 => ?_⟩
      try dsimp only
      generalize ee_ : upd H189 p191 _ = H193
      replace hs := (hs.newL (ys := (([stand_.sp] : (List Int)) : (List Int))) n192 ((.cons imI .nil))).cast ee_
      clear ee_
      refine ⟨_, rfl, (by show 1 ≤ sizeLine; decide), fun p195 n196 => ?_⟩
      try dsimp only
      generalize ee_ : upd H193 p195 _ = H197
      replace hs := (hs.newL (ys := (([stand_.sp] : (List Int)) : (List Int))) n196 ((.cons imI .nil))).cast ee_
      clear ee_
      have f199 := hs.cel 4 rfl
      refine ⟨f199, ([((Sum.inl 3 : Key), .ref p182), ((Sum.inl 9 : Key), .ref p187), ((Sum.inl 15 : Key), .ref p191), ((Sum.inl 17 : Key), .ref p195)] : List (Key × V)), rfl, (by show 4 ≤ 15; decide), ?_⟩
      have em200 : mergeK [] ([((Sum.inl 3 : Key), .ref p182), ((Sum.inl 9 : Key), .ref p187), ((Sum.inl 15 : Key), .ref p191), ((Sum.inl 17 : Key), .ref p195)] : List (Key × V)) = ([((Sum.inl 3 : Key), .ref p182), ((Sum.inl 9 : Key), .ref p187), ((Sum.inl 15 : Key), .ref p191), ((Sum.inl 17 : Key), .ref p195)] : List (Key × V)) := by kernel_rfl
      rw [em200]
      try dsimp only
      generalize ee_ : upd H197 p178 _ = H201
      replace hs := (hs.putC 4 rfl trivial (.dK ([((Sum.inl 3 : Key), .ref p182), ((Sum.inl 9 : Key), .ref p187), ((Sum.inl 15 : Key), .ref p191), ((Sum.inl 17 : Key), .ref p195)] : List (Key × V)))).cast ee_
      clear ee_
      have f202 := hs.cel 4 rfl
      refine ⟨_, rfl, .inl ⟨_, .inl f202⟩, _, rfl, (by show 0 ≤ sizeLine; decide), fun p203 n204 => ?_⟩
      try dsimp only
      generalize ee_ : upd H201 p203 _ = H205
      replace hs := (hs.newL (ys := (([] : (List Int)) : (List Int))) n204 (.nil)).cast ee_
      clear ee_
      have f207 := hs.cel 5 rfl
      refine ⟨_, .inl ⟨_, Sum.inl (x34 / (1024 : Int)), .inl f207, rfl, rfl⟩, ?_⟩
      obtain ⟨p208, ep209, hs⟩ : ∃ pp, (valV ([((Sum.inl 3 : Key), .ref p182), ((Sum.inl 9 : Key), .ref p187), ((Sum.inl 15 : Key), .ref p191), ((Sum.inl 17 : Key), .ref p195)] : List (Key × V)) (Sum.inl (x34 / (1024 : Int)) : Key)).getD (.ref p203) = .ref pp ∧ Sep S0_ H H205 (aL pp ((if (x34 / (1024 : Int)) = 3 then ([x41 % (1024 : Int)] : (List Int)) else (if (x34 / (1024 : Int)) = 9 then ([(x41 % (1024 : Int)) + stand_.b] : (List Int)) else (if (x34 / (1024 : Int)) = 15 then ([stand_.sp] : (List Int)) else (if (x34 / (1024 : Int)) = 17 then ([stand_.sp] : (List Int)) else ([] : (List Int)))))) : (List Int)) :: [aL p165 j163, aC Astand_.p_ (.dK (K_Own (.ref Astand_.m) (.int stand_.a) (.int stand_.b) (.int stand_.pc) (.int stand_.sp) (.bl stand_.zero) (.bl stand_.lets) (.bl stand_.asleep) (.int stand_.beat) Astand_.stopped (.ref Astand_.sent) (.ref Astand_.line))), aL Astand_.m stand_.m, aV Astand_.stopped stand_.stopped, aL Astand_.sent stand_.sent, aC Astand_.line (.dK (lineK stand_.line))]) := by
        simp only [valV_c, valV_nil]
        by_cases c210_0 : (x34 / (1024 : Int)) = 3
        · simp only [if_pos c210_0]
          refine ⟨_, rfl, ?_⟩
          replace hs : Sep S0_ H H205 ([aL p182 (([x41 % (1024 : Int)] : (List Int)) : (List Int)), aL p165 j163] ++ O_Own K Astand_.p_ Astand_ stand_) := hs.pick [11, 11, 11, 11, 11, 11, 10] 7 (by kernel_rfl)
          exact hs
        simp only [if_neg c210_0]
        by_cases c210_1 : (x34 / (1024 : Int)) = 9
        · simp only [if_pos c210_1]
          refine ⟨_, rfl, ?_⟩
          replace hs : Sep S0_ H H205 ([aL p187 (([(x41 % (1024 : Int)) + stand_.b] : (List Int)) : (List Int)), aL p165 j163] ++ O_Own K Astand_.p_ Astand_ stand_) := hs.pick [11, 11, 11, 11, 11, 11, 9] 7 (by kernel_rfl)
          exact hs
        simp only [if_neg c210_1]
        by_cases c210_2 : (x34 / (1024 : Int)) = 15
        · simp only [if_pos c210_2]
          refine ⟨_, rfl, ?_⟩
          replace hs : Sep S0_ H H205 ([aL p191 (([stand_.sp] : (List Int)) : (List Int)), aL p165 j163] ++ O_Own K Astand_.p_ Astand_ stand_) := hs.pick [11, 11, 11, 11, 11, 11, 8] 7 (by kernel_rfl)
          exact hs
        simp only [if_neg c210_2]
        by_cases c210_3 : (x34 / (1024 : Int)) = 17
        · simp only [if_pos c210_3]
          refine ⟨_, rfl, ?_⟩
          replace hs : Sep S0_ H H205 ([aL p195 (([stand_.sp] : (List Int)) : (List Int)), aL p165 j163] ++ O_Own K Astand_.p_ Astand_ stand_) := hs.pick [11, 11, 11, 11, 11, 11, 7] 7 (by kernel_rfl)
          exact hs
        simp only [if_neg c210_3]
        refine ⟨_, rfl, ?_⟩
        replace hs : Sep S0_ H H205 ([aL p203 (([] : (List Int)) : (List Int)), aL p165 j163] ++ O_Own K Astand_.p_ Astand_ stand_) := hs.pick [11, 11, 11, 11, 11, 11, 6] 7 (by kernel_rfl)
        exact hs
      rw [ep209]
      replace hs : Sep S0_ H H205 [a_Own K Astand_ stand_, aL p208 ((if (x34 / (1024 : Int)) = 3 then ([x41 % (1024 : Int)] : (List Int)) else (if (x34 / (1024 : Int)) = 9 then ([(x41 % (1024 : Int)) + stand_.b] : (List Int)) else (if (x34 / (1024 : Int)) = 15 then ([stand_.sp] : (List Int)) else (if (x34 / (1024 : Int)) = 17 then ([stand_.sp] : (List Int)) else ([] : (List Int)))))) : (List Int)), aL p165 j163] := hs.cl [6,6,6,6,6] 5 (by kernel_rfl)
      obtain ⟨r212, er212, hm⟩ := bnd hm
      replace hs := hs.mv 1 rfl
      replace hs := hs.mv 2 rfl
      replace hs := hs.mv 2 rfl
      refine ⟨_, rfl, _, rfl, _, rfl, Astand_, stand_, p165, j163, p208, (if (x34 / (1024 : Int)) = 3 then ([x41 % (1024 : Int)] : (List Int)) else (if (x34 / (1024 : Int)) = 9 then ([(x41 % (1024 : Int)) + stand_.b] : (List Int)) else (if (x34 / (1024 : Int)) = 15 then ([stand_.sp] : (List Int)) else (if (x34 / (1024 : Int)) = 17 then ([stand_.sp] : (List Int)) else ([] : (List Int)))))), r212, rfl, (hs.frontN 3).1, (hs.frontN 3).2, er212, fun H213 vz215 hc214 => ?_⟩
      replace hs := hs.callN 3 hc214
      replace hs := hs.opn 1 rfl
      replace hs : Sep S0_ H H213 ([aV vz215 r212] ++ O_Own K Astand_.p_ Astand_ stand_ ++ [aL p165 j163, aL p208 ((if (x34 / (1024 : Int)) = 3 then ([x41 % (1024 : Int)] : (List Int)) else (if (x34 / (1024 : Int)) = 9 then ([(x41 % (1024 : Int)) + stand_.b] : (List Int)) else (if (x34 / (1024 : Int)) = 15 then ([stand_.sp] : (List Int)) else (if (x34 / (1024 : Int)) = 17 then ([stand_.sp] : (List Int)) else ([] : (List Int)))))) : (List Int))]) := hs
      try dsimp only [tNext, gName]
      try with_reducible refine iteF ?_
      refine if_use hs (b := decide ((r212 ≠ none))) ?_ ?_
      · skip
        refine fun H224 hs Q_ hQ225 => ?_
        have f226 := hs.val 0 rfl
        refine ⟨_, rfl, rfl, _, (opt_decFN f226), ?_⟩
        exact hQ225 _ (hs.tl 0)
      intro H228 hs
      refine iteD (fun c227 => ?_) (fun c227 => ?_)
      · replace hm := ift c227 hm
        replace hs : Sep S0_ H H228 [a_Own K Astand_ stand_, aV vz215 r212, aL p165 j163, aL p208 ((if (x34 / (1024 : Int)) = 3 then ([x41 % (1024 : Int)] : (List Int)) else (if (x34 / (1024 : Int)) = 9 then ([(x41 % (1024 : Int)) + stand_.b] : (List Int)) else (if (x34 / (1024 : Int)) = 15 then ([stand_.sp] : (List Int)) else (if (x34 / (1024 : Int)) = 17 then ([stand_.sp] : (List Int)) else ([] : (List Int)))))) : (List Int))] := hs.cl [5,5,5,5,5] 5 (by kernel_rfl)
        obtain ⟨r229, er229, hm⟩ := bnd hm
        replace hs := hs.mv 0 rfl
        have f233 := hs.val 1 rfl
        refine ⟨_, rfl, _, rfl, Astand_, stand_, vz215, r212, r229, rfl, f233, (hs.frontN 1).1, (hs.frontN 1).2, er229, fun H230 A232 hc231 => ?_⟩
        replace hs := hs.callN 1 hc231
        replace hs := hs.opn 0 rfl
        replace hs : Sep S0_ H H230 [aC Astand_.p_ (.dK (K_Own (.ref A232.m) (.int r229.2.a) (.int r229.2.b) (.int r229.2.pc) (.int r229.2.sp) (.bl r229.2.zero) (.bl r229.2.lets) (.bl r229.2.asleep) (.int r229.2.beat) A232.stopped (.ref A232.sent) (.ref Astand_.line))), aL A232.m r229.2.m, aV A232.stopped r229.2.stopped, aL A232.sent r229.2.sent, aC Astand_.line (.dK (lineK r229.2.line)), aV vz215 r212, aL p165 j163, aL p208 ((if (x34 / (1024 : Int)) = 3 then ([x41 % (1024 : Int)] : (List Int)) else (if (x34 / (1024 : Int)) = 9 then ([(x41 % (1024 : Int)) + stand_.b] : (List Int)) else (if (x34 / (1024 : Int)) = 15 then ([stand_.sp] : (List Int)) else (if (x34 / (1024 : Int)) = 17 then ([stand_.sp] : (List Int)) else ([] : (List Int)))))) : (List Int))] := hs
        replace hs : Sep S0_ H H230 [a_Own K (A_Own.mk Astand_.p_ A232.m A232.stopped A232.sent Astand_.line) r229.2, aV vz215 r212, aL p165 j163, aL p208 ((if (x34 / (1024 : Int)) = 3 then ([x41 % (1024 : Int)] : (List Int)) else (if (x34 / (1024 : Int)) = 9 then ([(x41 % (1024 : Int)) + stand_.b] : (List Int)) else (if (x34 / (1024 : Int)) = 15 then ([stand_.sp] : (List Int)) else (if (x34 / (1024 : Int)) = 17 then ([stand_.sp] : (List Int)) else ([] : (List Int)))))) : (List Int))] := hs.cl [4,4,4,4,4] 5 (by kernel_rfl)
        replace hs : Sep S0_ H H230 [a_Own K (A_Own.mk Astand_.p_ A232.m A232.stopped A232.sent Astand_.line) r229.2] := hs.tk 1
        obtain rfl := Option.some.inj hm
        exact q H230 (A_Own.mk Astand_.p_ A232.m A232.stopped A232.sent Astand_.line) hs
      · replace hm := ife c227 hm
        have f238 := hs.cel 1 rfl
        refine ⟨_, rfl, _, _, rfl, rfl, _, rfl, _, _, rfl, K_Own_dput_pc f238, ?_⟩
        try dsimp only
        generalize ee_ : upd H228 Astand_.p_ _ = H239
        replace hs := (hs.putC 1 rfl trivial (.dK (K_Own (.ref Astand_.m) (.int stand_.a) (.int stand_.b) (.int (stand_.pc + (1 : Int))) (.int stand_.sp) (.bl stand_.zero) (.bl stand_.lets) (.bl stand_.asleep) (.int stand_.beat) Astand_.stopped (.ref Astand_.sent) (.ref Astand_.line)))).cast ee_
        clear ee_
        obtain ⟨vs240, lv241, hs⟩ := hs.fix 6 rfl
        have hw242 := (hs.wal 6 rfl).1
        obtain ⟨z252, eL253, hm⟩ := bnd hm
        refine ⟨_, rfl, _, rfl, _, rfl, _, rfl, _, rfl, ⟨_, SqL.of hw242⟩, fun p254 n255 => lc_list (K := K) (a := p165) (xs := vs240) (fun i256 H257 => ∃ (a250 : (List Int)), forS (m__law_deed_l1 stand_) (j163.drop i256) a250 = some z252 ∧ Sep S0_ H H257 (aL p254 a250 :: [aV vz215 r212, aC Astand_.p_ (.dK (K_Own (.ref Astand_.m) (.int stand_.a) (.int stand_.b) (.int (stand_.pc + (1 : Int))) (.int stand_.sp) (.bl stand_.zero) (.bl stand_.lets) (.bl stand_.asleep) (.int stand_.beat) Astand_.stopped (.ref Astand_.sent) (.ref Astand_.line))), aL Astand_.m stand_.m, aV Astand_.stopped stand_.stopped, aL Astand_.sent stand_.sent, aC Astand_.line (.dK (lineK stand_.line)), aW p165 vs240 j163, aL p208 ((if (x34 / (1024 : Int)) = 3 then ([x41 % (1024 : Int)] : (List Int)) else (if (x34 / (1024 : Int)) = 9 then ([(x41 % (1024 : Int)) + stand_.b] : (List Int)) else (if (x34 / (1024 : Int)) = 15 then ([stand_.sp] : (List Int)) else (if (x34 / (1024 : Int)) = 17 then ([stand_.sp] : (List Int)) else ([] : (List Int)))))) : (List Int))])) ⟨([] : (List Int)), eL253, hs.newL n255 .nil⟩ (fun i256 H257 _ pz => by obtain ⟨a250, hf, hs⟩ := pz; exact SqL.of (hs.wal 7 rfl).1) ?_ ?_⟩
        · rintro i256 y260 H257 hi258 ⟨a250, hf, hs⟩
          obtain ⟨k251, hx_, hy_⟩ := (hs.wal 7 rfl).2.nthv hi258
          obtain ⟨sN_, hm, hf⟩ := forS_s hx_ hf
          have hy_ : y260 = (.int k251) := hy_
          subst hy_
          unfold m__law_deed_l1 at hm
          refine ⟨by kernel_rfl, ?_⟩
          obtain ⟨x261, ex261, hm⟩ := bnd hm
          obtain ⟨vs262, hl263, hv264⟩ := hs.lst 3 rfl
          obtain ⟨u265, hu266, hx267⟩ := hv264.ix ex261
          have hx267 : u265 = (.int x261) := hx267
          subst hx267
          obtain ⟨vs268, hD269, hv270⟩ := hs.lst 0 rfl
          obtain ⟨g271, g272⟩ := snoc_eq hm
          subst g272
          refine ⟨_, rfl, _, rfl, _, _, _, _, rfl, rfl, SqL.of hl263, hu266, _, hD269, small_ (by have := hv270.length; omega), ?_⟩
          replace hv270 := hv270.snoc (v := (.int x261)) (x := (x261 : Int)) imI
          replace hs : Sep S0_ H H257 [aL p254 a250, aV vz215 r212, aC Astand_.p_ (.dK (K_Own (.ref Astand_.m) (.int stand_.a) (.int stand_.b) (.int (stand_.pc + (1 : Int))) (.int stand_.sp) (.bl stand_.zero) (.bl stand_.lets) (.bl stand_.asleep) (.int stand_.beat) Astand_.stopped (.ref Astand_.sent) (.ref Astand_.line))), aL Astand_.m stand_.m, aV Astand_.stopped stand_.stopped, aL Astand_.sent stand_.sent, aC Astand_.line (.dK (lineK stand_.line)), aW p165 vs240 j163, aL p208 ((if (x34 / (1024 : Int)) = 3 then ([x41 % (1024 : Int)] : (List Int)) else (if (x34 / (1024 : Int)) = 9 then ([(x41 % (1024 : Int)) + stand_.b] : (List Int)) else (if (x34 / (1024 : Int)) = 15 then ([stand_.sp] : (List Int)) else (if (x34 / (1024 : Int)) = 17 then ([stand_.sp] : (List Int)) else ([] : (List Int)))))) : (List Int))] := hs.tk 9
          exact ⟨_, hf, hs.putL 0 rfl hD269 hv270⟩
        rintro H257 ⟨a250, hf, hs⟩
        have ez_ := forS_e (Nat.le_of_eq lv241.symm) hf
        subst ez_
        replace hs := hs.unfix 7 rfl
        replace hs : Sep S0_ H H257 [a_Own K Astand_ ({ stand_ with pc := stand_.pc + (1 : Int) }), aL p254 a250, aV vz215 r212, aL p165 j163, aL p208 ((if (x34 / (1024 : Int)) = 3 then ([x41 % (1024 : Int)] : (List Int)) else (if (x34 / (1024 : Int)) = 9 then ([(x41 % (1024 : Int)) + stand_.b] : (List Int)) else (if (x34 / (1024 : Int)) = 15 then ([stand_.sp] : (List Int)) else (if (x34 / (1024 : Int)) = 17 then ([stand_.sp] : (List Int)) else ([] : (List Int)))))) : (List Int))] := hs.cl [6,6,6,6,6] 5 (by kernel_rfl)
        obtain ⟨r273, er273, hm⟩ := bnd hm
        replace hs := hs.mv 4 rfl
        replace hs := hs.mv 2 rfl
        replace hs := hs.mv 2 rfl
        refine ⟨_, rfl, Astand_, ({ stand_ with pc := stand_.pc + (1 : Int) }), (x34 / (1024 : Int)), (x41 % (1024 : Int)), p254, a250, p208, (if (x34 / (1024 : Int)) = 3 then ([x41 % (1024 : Int)] : (List Int)) else (if (x34 / (1024 : Int)) = 9 then ([(x41 % (1024 : Int)) + stand_.b] : (List Int)) else (if (x34 / (1024 : Int)) = 15 then ([stand_.sp] : (List Int)) else (if (x34 / (1024 : Int)) = 17 then ([stand_.sp] : (List Int)) else ([] : (List Int)))))), r273, rfl, (hs.frontN 3).1, (hs.frontN 3).2, er273, fun H274 A276 hc275 => ?_⟩
        replace hs := hs.callN 3 hc275
        replace hs := hs.opn 0 rfl
        replace hs : Sep S0_ H H274 [aC Astand_.p_ (.dK (K_Own (.ref A276.m) (.int r273.a) (.int r273.b) (.int r273.pc) (.int r273.sp) (.bl r273.zero) (.bl r273.lets) (.bl r273.asleep) (.int r273.beat) A276.stopped (.ref A276.sent) (.ref Astand_.line))), aL A276.m r273.m, aV A276.stopped r273.stopped, aL A276.sent r273.sent, aC Astand_.line (.dK (lineK r273.line)), aL p254 a250, aL p208 ((if (x34 / (1024 : Int)) = 3 then ([x41 % (1024 : Int)] : (List Int)) else (if (x34 / (1024 : Int)) = 9 then ([(x41 % (1024 : Int)) + stand_.b] : (List Int)) else (if (x34 / (1024 : Int)) = 15 then ([stand_.sp] : (List Int)) else (if (x34 / (1024 : Int)) = 17 then ([stand_.sp] : (List Int)) else ([] : (List Int)))))) : (List Int)), aV vz215 r212, aL p165 j163] := hs
        obtain ⟨vs281, hl282, hv283⟩ := hs.lst 8 rfl
        refine ⟨_, rfl, _, rfl, _, _, rfl, .inl (SqL.of hl282), ?_⟩
        rw [hv283.length]
        obtain ⟨vs284, hl285, hv286⟩ := hs.lst 6 rfl
        refine ⟨_, _, rfl, rfl, _, rfl, _, _, rfl, .inl (SqL.of hl285), ?_⟩
        rw [hv286.length]
        replace hs : Sep S0_ H H274 [a_Own K (A_Own.mk Astand_.p_ A276.m A276.stopped A276.sent Astand_.line) r273, aL p254 a250, aL p208 ((if (x34 / (1024 : Int)) = 3 then ([x41 % (1024 : Int)] : (List Int)) else (if (x34 / (1024 : Int)) = 9 then ([(x41 % (1024 : Int)) + stand_.b] : (List Int)) else (if (x34 / (1024 : Int)) = 15 then ([stand_.sp] : (List Int)) else (if (x34 / (1024 : Int)) = 17 then ([stand_.sp] : (List Int)) else ([] : (List Int)))))) : (List Int)), aV vz215 r212, aL p165 j163] := hs.cl [4,4,4,4,4] 5 (by kernel_rfl)
        obtain ⟨r287, er287, hm⟩ := bnd hm
        replace hs := hs.mv 0 rfl
        refine ⟨_, _, rfl, rfl, (A_Own.mk Astand_.p_ A276.m A276.stopped A276.sent Astand_.line), r273, (((1 : Int) + (j163.length : Int)) + ((if (x34 / (1024 : Int)) = 3 then ([x41 % (1024 : Int)] : (List Int)) else (if (x34 / (1024 : Int)) = 9 then ([(x41 % (1024 : Int)) + stand_.b] : (List Int)) else (if (x34 / (1024 : Int)) = 15 then ([stand_.sp] : (List Int)) else (if (x34 / (1024 : Int)) = 17 then ([stand_.sp] : (List Int)) else ([] : (List Int)))))).length : Int)), r287, rfl, (hs.frontN 1).1, (hs.frontN 1).2, er287, fun H288 A290 hc289 => ?_⟩
        replace hs := hs.callN 1 hc289
        replace hs := hs.opn 0 rfl
        replace hs : Sep S0_ H H288 [aC Astand_.p_ (.dK (K_Own (.ref A290.m) (.int r287.a) (.int r287.b) (.int r287.pc) (.int r287.sp) (.bl r287.zero) (.bl r287.lets) (.bl r287.asleep) (.int r287.beat) A290.stopped (.ref A290.sent) (.ref Astand_.line))), aL A290.m r287.m, aV A290.stopped r287.stopped, aL A290.sent r287.sent, aC Astand_.line (.dK (lineK r287.line)), aL p254 a250, aL p208 ((if (x34 / (1024 : Int)) = 3 then ([x41 % (1024 : Int)] : (List Int)) else (if (x34 / (1024 : Int)) = 9 then ([(x41 % (1024 : Int)) + stand_.b] : (List Int)) else (if (x34 / (1024 : Int)) = 15 then ([stand_.sp] : (List Int)) else (if (x34 / (1024 : Int)) = 17 then ([stand_.sp] : (List Int)) else ([] : (List Int)))))) : (List Int)), aV vz215 r212, aL p165 j163] := hs
        replace hs : Sep S0_ H H288 [a_Own K (A_Own.mk Astand_.p_ A290.m A290.stopped A290.sent Astand_.line) r287, aL p254 a250, aL p208 ((if (x34 / (1024 : Int)) = 3 then ([x41 % (1024 : Int)] : (List Int)) else (if (x34 / (1024 : Int)) = 9 then ([(x41 % (1024 : Int)) + stand_.b] : (List Int)) else (if (x34 / (1024 : Int)) = 15 then ([stand_.sp] : (List Int)) else (if (x34 / (1024 : Int)) = 17 then ([stand_.sp] : (List Int)) else ([] : (List Int)))))) : (List Int)), aV vz215 r212, aL p165 j163] := hs.cl [4,4,4,4,4] 5 (by kernel_rfl)
        replace hs : Sep S0_ H H288 [a_Own K (A_Own.mk Astand_.p_ A290.m A290.stopped A290.sent Astand_.line) r287] := hs.tk 1
        obtain rfl := Option.some.inj hm
        exact q H288 (A_Own.mk Astand_.p_ A290.m A290.stopped A290.sent Astand_.line) hs
end
def m__law_once (stand_ : R_Own) : Option (Str × R_Own) :=
  if (stand_.stopped ≠ none) then
    some (("stopped" : Str), stand_)
  else
    (atI stand_.m (770 : Int)).bind fun x17 =>
    (atI stand_.m (771 : Int)).bind fun x24 =>
    if ((stand_.asleep = true) ∧ ((Builtin.bitAnd x17 x24) = (0 : Int))) then
      (m__law_go_by stand_ (1 : Int)).bind fun r55 =>
      some (("asleep" : Str), r55)
    else
      if ((¬ (stand_.lets = true)) ∨ ((Builtin.bitAnd x17 x24) = (0 : Int))) then
        (m__law_deed ({ stand_ with asleep := false })).bind fun r101 =>
        some (r101.1, r101.2)
      else
        (m__law_barred ({ stand_ with asleep := false }) ([] : (List Int)) ([stand_.sp, stand_.sp - (1 : Int)] : (List Int))).bind fun r118 =>
        if (r118 ≠ none) then
          (m__law_halts ({ stand_ with asleep := false }) r118).bind fun r135 =>
          some (r135.1, r135.2)
        else
          (m__law_lay ({ stand_ with asleep := false }) stand_.sp stand_.pc).bind fun r145 =>
          (m__law_lay r145 (stand_.sp - (1 : Int)) (if decide (r145.zero = true) = true then (1 : Int) else 0)).bind fun r154 =>
          (m__law_go_by ({ r154 with pc := (2 : Int) - ((Builtin.bitAnd x17 x24) % (2 : Int)), sp := stand_.sp - (2 : Int), lets := false }) (3 : Int)).bind fun r175 =>
          some (("interrupt" : Str), r175)
section
variable {P : Program} {w : World} {K : PySem.W.Frag} {mg : Str → Option Value} {base : Heap}
def sp__law_once (K : PySem.W.Frag) : Sp := fun vs H Q E_ => ∃ (Astand_ : A_Own) (stand_ : R_Own) (r_ : Str × R_Own), vs = [.ref Astand_.p_] ∧ (oks H [a_Own K Astand_ stand_] ∧ (owns [a_Own K Astand_ stand_]).Nodup ∧ m__law_once stand_ = some r_ ∧ (∀ (H' : Hp) (Bstand_ : A_Own), Sep (owns [a_Own K Astand_ stand_]) H H' [a_Own K (Bstand_.w_line Astand_.p_ Astand_.line) r_.2] → Q (.str r_.1) H'))
abbrev N__law_once : List Str := ["_law_stand", "_law_m", "_law_due", "_law_sp", "_law_bar"]
theorem sc__law_once : FnScope N__law_once ["_law_stand"] (defScope s__law_once) := ⟨rfl, rfl, rfl, by decide +kernel, rfl, by decide +kernel, by decide +kernel⟩
theorem ok__law_once (T : Txt K mg) : Ok P w K mg base CX0 4 (He.fAd K ("_law_once", none)) ["_law_stand"] (sp__law_once K) := by
  obtain ⟨_, G__law_go_by, b__law_go_by, kp__law_go_by⟩ := ok__law_go_by (P := P) (w := w) (base := base) T
  obtain ⟨_, G__law_deed, b__law_deed, kp__law_deed⟩ := ok__law_deed (P := P) (w := w) (base := base) T
  obtain ⟨_, G__law_barred, b__law_barred, kp__law_barred⟩ := ok__law_barred (P := P) (w := w) (base := base) T
  obtain ⟨_, G__law_halts, b__law_halts, kp__law_halts⟩ := ok__law_halts (P := P) (w := w) (base := base) T
  obtain ⟨_, G__law_lay, b__law_lay, kp__law_lay⟩ := ok__law_lay (P := P) (w := w) (base := base) T
  obtain ⟨fd, F⟩ := T.d__law_once
  refine ⟨fd, F.ok sc__law_once (fun vs H Q E h => by obtain ⟨Astand_, stand_, r_, rfl, _⟩ := h; rfl) (fun cdv A_ outer s_ H vs Q E hr h => ?_), F.bindsN (fun _ _ _ _ _ _ us hl => match us, hl with | [_], _ => rfl), F.kp⟩
  obtain ⟨Astand_, stand_, r_, rfl, h⟩ := h
  have hu := hu_of hr
  refine ⟨_, PSs.nox (pss_cons (ps_set (i := 1) sc__law_once.nd rfl (.inl rfl) (pe_dget hu (pv 0) pe_str (fun _ _ => rfl)))
  (pss_cons (ps_if (pt_cmpR op_notN (pe_dget hu (pv 0) pe_str (fun _ _ => rfl)) pe_non (nomark _)) (pss_one (ps_ret pe_str)) pss_nil)
  (pss_cons (ps_set (i := 2) sc__law_once.nd rfl (.inl rfl) (pe_op op_and (pe_ix ix_list (pv 1) pe_int (fun _ _ => rfl)) (pe_ix ix_list (pv 1) pe_int (fun _ _ => rfl))))
  (pss_cons (ps_if (PW.pt (pw_and (pt_val (pe_dget hu (pv 0) pe_str (fun _ _ => rfl))) (pw_and1 (pt_cmpR op_eq (pv 2) pe_int (nomark _))))) (pss_cons (ps_expr (pe_call G__law_go_by (hr.mono (by decide)) (by rfl) T.g__law_go_by kp__law_go_by b__law_go_by .nil pass0 (pa_cons (pv 0) (pa_cons pe_int pa_nil))))
    (pss_one (ps_ret pe_str))) pss_nil)
  (pss_cons (ps_dput hu (pv 0) pe_str pe_bl rfl)
  (pss_cons (ps_if (PW.pt (pw_or (pt_not (pt_val (pe_dget hu (pv 0) pe_str (fun _ _ => rfl)))) (pw_or1 (pt_cmpR op_eq (pv 2) pe_int (nomark _))))) (pss_one (ps_ret (pe_call G__law_deed (hr.mono (by decide)) (by rfl) T.g__law_deed kp__law_deed b__law_deed .nil pass0 (pa_cons (pv 0) pa_nil)))) pss_nil)
  (pss_cons (ps_set (i := 3) sc__law_once.nd rfl (.inl rfl) (pe_dget hu (pv 0) pe_str (fun _ _ => rfl)))
  (pss_cons (ps_set (i := 4) sc__law_once.nd rfl (.inl rfl) (pe_call G__law_barred (hr.mono (by decide)) (by rfl) T.g__law_barred kp__law_barred b__law_barred .nil pass0 (pa_cons (pv 0) (pa_cons (pe_lst pa_nil) (pa_cons (pe_lst (pa_cons (pv 3) (pa_cons (pe_op op_sub (pv 3) pe_int) pa_nil))) pa_nil)))))
  (pss_cons (ps_if (pt_cmpR op_notN (pv 4) pe_non (nomark _)) (pss_one (ps_ret (pe_call G__law_halts (hr.mono (by decide)) (by rfl) T.g__law_halts kp__law_halts b__law_halts .nil pass0 (pa_cons (pv 0) (pa_cons (pv 4) pa_nil))))) pss_nil)
  (pss_cons (ps_expr (pe_call G__law_lay (hr.mono (by decide)) (by rfl) T.g__law_lay kp__law_lay b__law_lay .nil pass0 (pa_cons (pv 0) (pa_cons (pv 3) (pa_cons (pe_dget hu (pv 0) pe_str (fun _ _ => rfl)) pa_nil)))))
  (pss_cons (ps_expr (pe_call G__law_lay (hr.mono (by decide)) (by rfl) T.g__law_lay kp__law_lay b__law_lay .nil pass0 (pa_cons (pv 0) (pa_cons (pe_op op_sub (pv 3) pe_int) (pa_cons (pe_callTy call_int1 (by rfl) T.f_int (by decide +kernel) (pa_cons (pe_dget hu (pv 0) pe_str (fun _ _ => rfl)) pa_nil)) pa_nil)))))
  (pss_cons (ps_expr (pe_bm PySem.F.plainAttrs_dict PySem.F.slot_dict_update PySem.F.type_dict_update mt_update (pv 0) (pa_cons (pe_disp (pps_cons pe_str (pe_op op_sub (pv 3) pe_int) (pps_cons pe_str pe_bl (pps_cons pe_str (pe_op op_sub pe_int (pe_op op_mod (pv 2) pe_int)) pps_nil))) (by rfl) (by rfl) (fun z => by cases z) (by decide)) pa_nil)))
  (pss_cons (ps_expr (pe_call G__law_go_by (hr.mono (by decide)) (by rfl) T.g__law_go_by kp__law_go_by b__law_go_by .nil pass0 (pa_cons (pv 0) (pa_cons pe_int pa_nil))))
  (pss_one (ps_ret pe_str))))))))))))))), ?_⟩
  obtain ⟨hp1, hp2, hm, q⟩ := h
  have hs := Sep.pre (L := [a_Own K Astand_ stand_]) ⟨hp1, hp2⟩
  generalize owns [a_Own K Astand_ stand_] = S0_ at hs q
  unfold m__law_once at hm
  clear hp1 hp2
  replace hs := hs.opn 0 rfl
  replace hs : Sep S0_ H H (O_Own K Astand_.p_ Astand_ stand_) := hs
  have f6 := hs.cel 0 rfl
  refine ⟨_, rfl, _, _, rfl, K_Own_dget_m f6, ?_⟩
  try dsimp only [tNext, gName]
  try with_reducible refine iteF ?_
  refine if_use hs (b := decide ((stand_.stopped ≠ none))) ?_ ?_
  · skip
    refine fun H11 hs Q_ hQ12 => ?_
    have f13 := hs.cel 0 rfl
    have f14 := hs.val 2 rfl
    refine ⟨_, rfl, _, _, rfl, K_Own_dget_stopped f13, rfl, _, (opt_decFN f14), ?_⟩
    exact hQ12 _ (hs.tl 0)
  intro H16 hs
  refine iteD (fun c15 => ?_) (fun c15 => ?_)
  · replace hm := ift c15 hm
    replace hs : Sep S0_ H H16 [a_Own K Astand_ stand_] := hs.cl [4,4,4,4,4] 5 (by kernel_rfl)
    replace hs : Sep S0_ H H16 [a_Own K Astand_ stand_] := hs.tk 1
    obtain rfl := Option.some.inj hm
    exact q H16 Astand_ hs
  · replace hm := ife c15 hm
    obtain ⟨x17, ex17, hm⟩ := bnd hm
    obtain ⟨vs18, hl19, hv20⟩ := hs.lst 1 rfl
    obtain ⟨u21, hu22, hx23⟩ := hv20.ix ex17
    have hx23 : u21 = (.int x17) := hx23
    subst hx23
    obtain ⟨x24, ex24, hm⟩ := bnd hm
    obtain ⟨vs25, hl26, hv27⟩ := hs.lst 1 rfl
    obtain ⟨u28, hu29, hx30⟩ := hv27.ix ex24
    have hx30 : u28 = (.int x24) := hx30
    subst hx30
    refine ⟨_, rfl, _, _, _, _, rfl, rfl, SqL.of hl19, hu22, _, rfl, _, _, _, _, rfl, rfl, SqL.of hl26, hu29, _, _, rfl, rfl, ?_⟩
    try dsimp only [tNext, gName]
    try with_reducible refine iteF ?_
    refine if_use hs (b := decide (((stand_.asleep = true) ∧ ((Builtin.bitAnd x17 x24) = (0 : Int))))) ?_ ?_
    · skip
      refine ev_and (P := (stand_.asleep = true)) (R := ((Builtin.bitAnd x17 x24) = (0 : Int))) ?_ (fun c47 => ?_)
      · skip
        refine fun H48 hs Q_ hQ49 => ?_
        have f50 := hs.cel 0 rfl
        refine ⟨_, rfl, _, _, rfl, K_Own_dget_asleep f50, _, dB, ?_⟩
        exact hQ49 _ (hs.tl 0)
      · skip
        refine fun H51 hs Q_ hQ52 => ?_
        refine ⟨_, rfl, rfl, _, dI, ?_⟩
        exact hQ52 _ (hs.tl 0)
    intro H54 hs
    refine iteD (fun c53 => ?_) (fun c53 => ?_)
    · replace hm := ift c53 hm
      replace hs : Sep S0_ H H54 [a_Own K Astand_ stand_] := hs.cl [4,4,4,4,4] 5 (by kernel_rfl)
      obtain ⟨r55, er55, hm⟩ := bnd hm
      replace hs := hs.mv 0 rfl
      refine ⟨_, rfl, Astand_, stand_, (1 : Int), r55, rfl, (hs.frontN 1).1, (hs.frontN 1).2, er55, fun H56 A58 hc57 => ?_⟩
      replace hs := hs.callN 1 hc57
      replace hs := hs.opn 0 rfl
      replace hs : Sep S0_ H H56 [aC Astand_.p_ (.dK (K_Own (.ref A58.m) (.int r55.a) (.int r55.b) (.int r55.pc) (.int r55.sp) (.bl r55.zero) (.bl r55.lets) (.bl r55.asleep) (.int r55.beat) A58.stopped (.ref A58.sent) (.ref Astand_.line))), aL A58.m r55.m, aV A58.stopped r55.stopped, aL A58.sent r55.sent, aC Astand_.line (.dK (lineK r55.line))] := hs
      replace hs : Sep S0_ H H56 [a_Own K (A_Own.mk Astand_.p_ A58.m A58.stopped A58.sent Astand_.line) r55] := hs.cl [4,4,4,4,4] 5 (by kernel_rfl)
      replace hs : Sep S0_ H H56 [a_Own K (A_Own.mk Astand_.p_ A58.m A58.stopped A58.sent Astand_.line) r55] := hs.tk 1
      obtain rfl := Option.some.inj hm
      exact q H56 (A_Own.mk Astand_.p_ A58.m A58.stopped A58.sent Astand_.line) hs
    · replace hm := ife c53 hm
      have f63 := hs.cel 0 rfl
      refine ⟨_, rfl, _, _, rfl, K_Own_dput_asleep f63, ?_⟩
      try dsimp only
      generalize ee_ : upd H54 Astand_.p_ _ = H64
      replace hs := (hs.putC 0 rfl trivial (.dK (K_Own (.ref Astand_.m) (.int stand_.a) (.int stand_.b) (.int stand_.pc) (.int stand_.sp) (.bl stand_.zero) (.bl stand_.lets) (.bl false) (.int stand_.beat) Astand_.stopped (.ref Astand_.sent) (.ref Astand_.line)))).cast ee_
      clear ee_
      try dsimp only [tNext, gName]
      try with_reducible refine iteF ?_
      refine if_use hs (b := decide (((¬ (stand_.lets = true)) ∨ ((Builtin.bitAnd x17 x24) = (0 : Int))))) ?_ ?_
      · skip
        refine ev_or (P := (¬ (stand_.lets = true))) (R := ((Builtin.bitAnd x17 x24) = (0 : Int))) ?_ (fun c90 => ?_)
        · skip
          refine ev_not (P := (stand_.lets = true)) ?_
          refine fun H94 hs Q_ hQ95 => ?_
          have f96 := hs.cel 0 rfl
          refine ⟨_, rfl, _, _, rfl, K_Own_dget_lets f96, _, dB, ?_⟩
          exact hQ95 _ (hs.tl 0)
        · skip
          refine fun H97 hs Q_ hQ98 => ?_
          refine ⟨_, rfl, rfl, _, dI, ?_⟩
          exact hQ98 _ (hs.tl 0)
      intro H100 hs
      refine iteD (fun c99 => ?_) (fun c99 => ?_)
      · replace hm := ift c99 hm
        replace hs : Sep S0_ H H100 [a_Own K Astand_ ({ stand_ with asleep := false })] := hs.cl [4,4,4,4,4] 5 (by kernel_rfl)
        obtain ⟨r101, er101, hm⟩ := bnd hm
        replace hs := hs.mv 0 rfl
        refine ⟨_, rfl, Astand_, ({ stand_ with asleep := false }), r101, rfl, (hs.frontN 1).1, (hs.frontN 1).2, er101, fun H102 A104 hc103 => ?_⟩
        replace hs := hs.callN 1 hc103
        replace hs := hs.opn 0 rfl
        replace hs : Sep S0_ H H102 [aC Astand_.p_ (.dK (K_Own (.ref A104.m) (.int r101.2.a) (.int r101.2.b) (.int r101.2.pc) (.int r101.2.sp) (.bl r101.2.zero) (.bl r101.2.lets) (.bl r101.2.asleep) (.int r101.2.beat) A104.stopped (.ref A104.sent) (.ref Astand_.line))), aL A104.m r101.2.m, aV A104.stopped r101.2.stopped, aL A104.sent r101.2.sent, aC Astand_.line (.dK (lineK r101.2.line))] := hs
        replace hs : Sep S0_ H H102 [a_Own K (A_Own.mk Astand_.p_ A104.m A104.stopped A104.sent Astand_.line) r101.2] := hs.cl [4,4,4,4,4] 5 (by kernel_rfl)
        replace hs : Sep S0_ H H102 [a_Own K (A_Own.mk Astand_.p_ A104.m A104.stopped A104.sent Astand_.line) r101.2] := hs.tk 1
        obtain rfl := Option.some.inj hm
        exact q H102 (A_Own.mk Astand_.p_ A104.m A104.stopped A104.sent Astand_.line) hs
      · replace hm := ife c99 hm
        have f109 := hs.cel 0 rfl
        refine ⟨_, rfl, _, _, rfl, K_Own_dget_sp f109, ?_⟩
        refine ⟨_, rfl, (by show 0 ≤ sizeLine; decide), fun p110 n111 => ?_⟩
        try dsimp only
        generalize ee_ : upd H100 p110 _ = H112
        replace hs := (hs.newL (ys := (([] : (List Int)) : (List Int))) n111 (.nil)).cast ee_
        clear ee_
        refine ⟨_, rfl, _, rfl, _, _, rfl, rfl, (by show 2 ≤ sizeLine; decide), fun p114 n115 => ?_⟩
        try dsimp only
        generalize ee_ : upd H112 p114 _ = H116
        replace hs := (hs.newL (ys := (([stand_.sp, stand_.sp - (1 : Int)] : (List Int)) : (List Int))) n115 ((.cons imI (.cons imI .nil)))).cast ee_
        clear ee_
        replace hs : Sep S0_ H H116 [a_Own K Astand_ ({ stand_ with asleep := false }), aL p114 (([stand_.sp, stand_.sp - (1 : Int)] : (List Int)) : (List Int)), aL p110 (([] : (List Int)) : (List Int))] := hs.cl [6,6,6,6,6] 5 (by kernel_rfl)
        obtain ⟨r118, er118, hm⟩ := bnd hm
        replace hs := hs.mv 1 rfl
        replace hs := hs.mv 2 rfl
        replace hs := hs.mv 2 rfl
        refine ⟨Astand_, ({ stand_ with asleep := false }), p110, ([] : (List Int)), p114, ([stand_.sp, stand_.sp - (1 : Int)] : (List Int)), r118, rfl, (hs.frontN 3).1, (hs.frontN 3).2, er118, fun H119 vz121 hc120 => ?_⟩
        replace hs := hs.callN 3 hc120
        replace hs := hs.opn 1 rfl
        replace hs : Sep S0_ H H119 [aV vz121 r118, aC Astand_.p_ (.dK (K_Own (.ref Astand_.m) (.int stand_.a) (.int stand_.b) (.int stand_.pc) (.int stand_.sp) (.bl stand_.zero) (.bl stand_.lets) (.bl false) (.int stand_.beat) Astand_.stopped (.ref Astand_.sent) (.ref Astand_.line))), aL Astand_.m stand_.m, aV Astand_.stopped stand_.stopped, aL Astand_.sent stand_.sent, aC Astand_.line (.dK (lineK stand_.line)), aL p110 (([] : (List Int)) : (List Int)), aL p114 (([stand_.sp, stand_.sp - (1 : Int)] : (List Int)) : (List Int))] := hs
        try dsimp only [tNext, gName]
        try with_reducible refine iteF ?_
        refine if_use hs (b := decide ((r118 ≠ none))) ?_ ?_
        · skip
          refine fun H130 hs Q_ hQ131 => ?_
          have f132 := hs.val 0 rfl
          refine ⟨_, rfl, rfl, _, (opt_decFN f132), ?_⟩
          exact hQ131 _ (hs.tl 0)
        intro H134 hs
        refine iteD (fun c133 => ?_) (fun c133 => ?_)
        · replace hm := ift c133 hm
          replace hs : Sep S0_ H H134 [a_Own K Astand_ ({ stand_ with asleep := false }), aV vz121 r118, aL p110 (([] : (List Int)) : (List Int)), aL p114 (([stand_.sp, stand_.sp - (1 : Int)] : (List Int)) : (List Int))] := hs.cl [5,5,5,5,5] 5 (by kernel_rfl)
          obtain ⟨r135, er135, hm⟩ := bnd hm
          replace hs := hs.mv 0 rfl
          have f139 := hs.val 1 rfl
          refine ⟨_, rfl, _, rfl, Astand_, ({ stand_ with asleep := false }), vz121, r118, r135, rfl, f139, (hs.frontN 1).1, (hs.frontN 1).2, er135, fun H136 A138 hc137 => ?_⟩
          replace hs := hs.callN 1 hc137
          replace hs := hs.opn 0 rfl
          replace hs : Sep S0_ H H136 [aC Astand_.p_ (.dK (K_Own (.ref A138.m) (.int r135.2.a) (.int r135.2.b) (.int r135.2.pc) (.int r135.2.sp) (.bl r135.2.zero) (.bl r135.2.lets) (.bl r135.2.asleep) (.int r135.2.beat) A138.stopped (.ref A138.sent) (.ref Astand_.line))), aL A138.m r135.2.m, aV A138.stopped r135.2.stopped, aL A138.sent r135.2.sent, aC Astand_.line (.dK (lineK r135.2.line)), aV vz121 r118, aL p110 (([] : (List Int)) : (List Int)), aL p114 (([stand_.sp, stand_.sp - (1 : Int)] : (List Int)) : (List Int))] := hs
          replace hs : Sep S0_ H H136 [a_Own K (A_Own.mk Astand_.p_ A138.m A138.stopped A138.sent Astand_.line) r135.2, aV vz121 r118, aL p110 (([] : (List Int)) : (List Int)), aL p114 (([stand_.sp, stand_.sp - (1 : Int)] : (List Int)) : (List Int))] := hs.cl [4,4,4,4,4] 5 (by kernel_rfl)
          replace hs : Sep S0_ H H136 [a_Own K (A_Own.mk Astand_.p_ A138.m A138.stopped A138.sent Astand_.line) r135.2] := hs.tk 1
          obtain rfl := Option.some.inj hm
          exact q H136 (A_Own.mk Astand_.p_ A138.m A138.stopped A138.sent Astand_.line) hs
        · replace hm := ife c133 hm
          have f144 := hs.cel 1 rfl
          replace hs : Sep S0_ H H134 [a_Own K Astand_ ({ stand_ with asleep := false }), aV vz121 r118, aL p110 (([] : (List Int)) : (List Int)), aL p114 (([stand_.sp, stand_.sp - (1 : Int)] : (List Int)) : (List Int))] := hs.cl [5,5,5,5,5] 5 (by kernel_rfl)
          obtain ⟨r145, er145, hm⟩ := bnd hm
          replace hs := hs.mv 0 rfl
          refine ⟨_, rfl, _, rfl, _, rfl, _, _, rfl, K_Own_dget_pc f144, Astand_, ({ stand_ with asleep := false }), stand_.sp, stand_.pc, r145, rfl, (hs.frontN 1).1, (hs.frontN 1).2, er145, fun H146 A148 hc147 => ?_⟩
          replace hs := hs.callN 1 hc147
          replace hs := hs.opn 0 rfl
          replace hs : Sep S0_ H H146 [aC Astand_.p_ (.dK (K_Own (.ref A148.m) (.int r145.a) (.int r145.b) (.int r145.pc) (.int r145.sp) (.bl r145.zero) (.bl r145.lets) (.bl r145.asleep) (.int r145.beat) A148.stopped (.ref A148.sent) (.ref Astand_.line))), aL A148.m r145.m, aV A148.stopped r145.stopped, aL A148.sent r145.sent, aC Astand_.line (.dK (lineK r145.line)), aV vz121 r118, aL p110 (([] : (List Int)) : (List Int)), aL p114 (([stand_.sp, stand_.sp - (1 : Int)] : (List Int)) : (List Int))] := hs
          have f153 := hs.cel 0 rfl
          refine ⟨_, rfl, _, rfl, _, _, rfl, rfl, _, rfl, _, _, rfl, K_Own_dget_zero f153, .inr ⟨_, congrArg (fun z => [z]) dB, ?_⟩⟩
          replace hs : Sep S0_ H H146 [a_Own K (A_Own.mk Astand_.p_ A148.m A148.stopped A148.sent Astand_.line) r145, aV vz121 r118, aL p110 (([] : (List Int)) : (List Int)), aL p114 (([stand_.sp, stand_.sp - (1 : Int)] : (List Int)) : (List Int))] := hs.cl [4,4,4,4,4] 5 (by kernel_rfl)
          obtain ⟨r154, er154, hm⟩ := bnd hm
          replace hs := hs.mv 0 rfl
          refine ⟨(A_Own.mk Astand_.p_ A148.m A148.stopped A148.sent Astand_.line), r145, (stand_.sp - (1 : Int)), (if decide (r145.zero = true) = true then (1 : Int) else 0), r154, rfl, (hs.frontN 1).1, (hs.frontN 1).2, er154, fun H155 A157 hc156 => ?_⟩
          replace hs := hs.callN 1 hc156
          replace hs := hs.opn 0 rfl
          replace hs : Sep S0_ H H155 [aC Astand_.p_ (.dK (K_Own (.ref A157.m) (.int r154.a) (.int r154.b) (.int r154.pc) (.int r154.sp) (.bl r154.zero) (.bl r154.lets) (.bl r154.asleep) (.int r154.beat) A157.stopped (.ref A157.sent) (.ref Astand_.line))), aL A157.m r154.m, aV A157.stopped r154.stopped, aL A157.sent r154.sent, aC Astand_.line (.dK (lineK r154.line)), aV vz121 r118, aL p110 (([] : (List Int)) : (List Int)), aL p114 (([stand_.sp, stand_.sp - (1 : Int)] : (List Int)) : (List Int))] := hs
          have f162 := hs.cel 0 rfl
          refine ⟨_, rfl, .inr (.inr (.inl ⟨rfl, .inl ⟨_, f162⟩⟩)), fun p163 n164 => ?_⟩
          try dsimp only
          generalize ee_ : upd H155 p163 _ = H165
          replace hs := (hs.newC n164 (.dK [])).cast ee_
          clear ee_
          have f167 := hs.cel 0 rfl
          refine ⟨_, rfl, _, _, rfl, rfl, _, rfl, _, _, rfl, rfl, (show (0 : Int) < (2 : Int) by decide), _, _, rfl, rfl, f167, [((Sum.inr "sp" : Key), (.int (stand_.sp - (2 : Int)))), ((Sum.inr "lets" : Key), (.bl false)), ((Sum.inr "pc" : Key), (.int ((2 : Int) - ((Builtin.bitAnd x17 x24) % (2 : Int)))))], rfl, (by show 3 ≤ 15; decide), ?_⟩
          have em168 : mergeK [] ([((Sum.inr "sp" : Key), (.int (stand_.sp - (2 : Int)))), ((Sum.inr "lets" : Key), (.bl false)), ((Sum.inr "pc" : Key), (.int ((2 : Int) - ((Builtin.bitAnd x17 x24) % (2 : Int)))))] : List (Key × V)) = [((Sum.inr "sp" : Key), (.int (stand_.sp - (2 : Int)))), ((Sum.inr "lets" : Key), (.bl false)), ((Sum.inr "pc" : Key), (.int ((2 : Int) - ((Builtin.bitAnd x17 x24) % (2 : Int)))))] := by kernel_rfl
          rw [em168]
          try dsimp only
          generalize ee_ : upd H165 p163 _ = H169
          replace hs := (hs.putC 0 rfl trivial (.dK [((Sum.inr "sp" : Key), (.int (stand_.sp - (2 : Int)))), ((Sum.inr "lets" : Key), (.bl false)), ((Sum.inr "pc" : Key), (.int ((2 : Int) - ((Builtin.bitAnd x17 x24) % (2 : Int)))))])).cast ee_
          clear ee_
          have nd170 : Astand_.p_ ≠ p163 := hs.apart 1 0 rfl rfl (by decide)
          have f171 := hs.cel 1 rfl
          have f172 := hs.cel 0 rfl
          refine ⟨_, _, _, _, rfl, rfl, nd170, f171, f172, (by show 12 + 3 ≤ 16777216; decide), ?_⟩
          have em173 : mergeK ((K_Own (.ref A157.m) (.int r154.a) (.int r154.b) (.int r154.pc) (.int r154.sp) (.bl r154.zero) (.bl r154.lets) (.bl r154.asleep) (.int r154.beat) A157.stopped (.ref A157.sent) (.ref Astand_.line)) : List (Key × V)) [((Sum.inr "sp" : Key), (.int (stand_.sp - (2 : Int)))), ((Sum.inr "lets" : Key), (.bl false)), ((Sum.inr "pc" : Key), (.int ((2 : Int) - ((Builtin.bitAnd x17 x24) % (2 : Int)))))] = (K_Own (.ref A157.m) (.int r154.a) (.int r154.b) (.int ((2 : Int) - ((Builtin.bitAnd x17 x24) % (2 : Int)))) (.int (stand_.sp - (2 : Int))) (.bl r154.zero) (.bl false) (.bl r154.asleep) (.int r154.beat) A157.stopped (.ref A157.sent) (.ref Astand_.line)) := by kernel_rfl
          rw [em173]
          try dsimp only
          generalize ee_ : upd H169 Astand_.p_ _ = H174
          replace hs := (hs.putC 1 rfl trivial (.dK (K_Own (.ref A157.m) (.int r154.a) (.int r154.b) (.int ((2 : Int) - ((Builtin.bitAnd x17 x24) % (2 : Int)))) (.int (stand_.sp - (2 : Int))) (.bl r154.zero) (.bl false) (.bl r154.asleep) (.int r154.beat) A157.stopped (.ref A157.sent) (.ref Astand_.line)))).cast ee_
          clear ee_
          replace hs : Sep S0_ H H174 [aC Astand_.p_ (.dK (K_Own (.ref A157.m) (.int r154.a) (.int r154.b) (.int ((2 : Int) - ((Builtin.bitAnd x17 x24) % (2 : Int)))) (.int (stand_.sp - (2 : Int))) (.bl r154.zero) (.bl false) (.bl r154.asleep) (.int r154.beat) A157.stopped (.ref A157.sent) (.ref Astand_.line))), aL A157.m r154.m, aV A157.stopped r154.stopped, aL A157.sent r154.sent, aC Astand_.line (.dK (lineK r154.line)), aV vz121 r118] := hs.pick [6, 6, 6, 6, 6, 6] 6 (by kernel_rfl)
          replace hs : Sep S0_ H H174 [a_Own K (A_Own.mk Astand_.p_ A157.m A157.stopped A157.sent Astand_.line) ({ r154 with pc := (2 : Int) - ((Builtin.bitAnd x17 x24) % (2 : Int)), sp := stand_.sp - (2 : Int), lets := false }), aV vz121 r118] := hs.cl [4,4,4,4,4] 5 (by kernel_rfl)
          obtain ⟨r175, er175, hm⟩ := bnd hm
          replace hs := hs.mv 0 rfl
          refine ⟨_, rfl, (A_Own.mk Astand_.p_ A157.m A157.stopped A157.sent Astand_.line), ({ r154 with pc := (2 : Int) - ((Builtin.bitAnd x17 x24) % (2 : Int)), sp := stand_.sp - (2 : Int), lets := false }), (3 : Int), r175, rfl, (hs.frontN 1).1, (hs.frontN 1).2, er175, fun H176 A178 hc177 => ?_⟩
          replace hs := hs.callN 1 hc177
          replace hs := hs.opn 0 rfl
          replace hs : Sep S0_ H H176 [aC Astand_.p_ (.dK (K_Own (.ref A178.m) (.int r175.a) (.int r175.b) (.int r175.pc) (.int r175.sp) (.bl r175.zero) (.bl r175.lets) (.bl r175.asleep) (.int r175.beat) A178.stopped (.ref A178.sent) (.ref Astand_.line))), aL A178.m r175.m, aV A178.stopped r175.stopped, aL A178.sent r175.sent, aC Astand_.line (.dK (lineK r175.line)), aV vz121 r118] := hs
          replace hs : Sep S0_ H H176 [a_Own K (A_Own.mk Astand_.p_ A178.m A178.stopped A178.sent Astand_.line) r175, aV vz121 r118] := hs.cl [4,4,4,4,4] 5 (by kernel_rfl)
          replace hs : Sep S0_ H H176 [a_Own K (A_Own.mk Astand_.p_ A178.m A178.stopped A178.sent Astand_.line) r175] := hs.tk 1
          obtain rfl := Option.some.inj hm
          exact q H176 (A_Own.mk Astand_.p_ A178.m A178.stopped A178.sent Astand_.line) hs
end
def m__law_new (image_ : (List Int)) (line_ : (List (Int × Int))) : Option (R_Own) :=
  (repL ([(65535 : Int)] : (List Int)) ((512 : Int) - (image_.length : Int))).bind fun y17 =>
  (catL image_ y17).bind fun y27 =>
  (repL ([(0 : Int)] : (List Int)) (262 : Int)).bind fun y44 =>
  (catL y27 y44).bind fun y54 =>
  some (R_Own.mk y54 (0 : Int) (0 : Int) (0 : Int) (767 : Int) false false false (0 : Int) none ([] : (List (Int × Int))) (mkI line_))
section
variable {P : Program} {w : World} {K : PySem.W.Frag} {mg : Str → Option Value} {base : Heap}
def sp__law_new (K : PySem.W.Frag) : Sp := fun vs H Q E_ => ∃ (pimage_ : Addr) (image_ : (List Int)) (pline_ : Addr) (line_ : (List (Int × Int))) (r_ : R_Own), vs = [.ref pimage_, .ref pline_] ∧ (oks H [aL pimage_ image_, aL pline_ line_] ∧ (owns [aL pimage_ image_, aL pline_ line_]).Nodup ∧ m__law_new image_ line_ = some r_ ∧ (∀ (H' : Hp) (Az : A_Own), Sep (owns [aL pimage_ image_, aL pline_ line_]) H H' [a_Own K Az r_, aL pimage_ image_, aL pline_ line_] → Q (.ref Az.p_) H'))
abbrev N__law_new : List Str := ["_law_image", "_law_line", "_law_memory", "_law_stand"]
theorem sc__law_new : FnScope N__law_new ["_law_image", "_law_line"] (defScope s__law_new) := ⟨rfl, rfl, rfl, by decide +kernel, rfl, by decide +kernel, by decide +kernel⟩
theorem ok__law_new (T : Txt K mg) : Ok P w K mg base CX0 1 (He.fAd K ("_law_new", none)) ["_law_image", "_law_line"] (sp__law_new K) := by
  obtain ⟨fd, F⟩ := T.d__law_new
  refine ⟨fd, F.ok sc__law_new (fun vs H Q E h => by obtain ⟨pimage_, image_, pline_, line_, r_, rfl, _⟩ := h; rfl) (fun cdv A_ outer s_ H vs Q E hr h => ?_), F.bindsN (fun _ _ _ _ _ _ us hl => match us, hl with | [_, _], _ => rfl), F.kp⟩
  obtain ⟨pimage_, image_, pline_, line_, r_, rfl, h⟩ := h
  have hu := hu_of hr
  refine ⟨_, PSs.nox (pss_cons (ps_set (i := 2) sc__law_new.nd rfl (.inl rfl) (pe_op op_cat (pe_op op_cat (pe_callTy call_list_of (by rfl) T.f_list (by decide +kernel) (pa_cons (pv 0) pa_nil)) (pe_op op_rep (pe_lst (pa_cons pe_int pa_nil)) (pe_op op_sub pe_int (pe_callB call_len_seq (by rfl) T.f_len PySem.boot_len (pa_cons (pv 0) pa_nil))))) (pe_op op_rep (pe_lst (pa_cons pe_int pa_nil)) pe_int)))
  (pss_cons (ps_set (i := 3) sc__law_new.nd rfl (.inl rfl) (pe_disp (pps_cons pe_str (pv 2) (pps_cons pe_str pe_int (pps_cons pe_str pe_int (pps_cons pe_str pe_int (pps_cons pe_str pe_int (pps_cons pe_str pe_bl (pps_cons pe_str pe_bl (pps_cons pe_str pe_bl pps_nil)))))))) (by rfl) (by rfl) (fun z => by cases z) (by decide)))
  (pss_cons (ps_expr (pe_bm PySem.F.plainAttrs_dict PySem.F.slot_dict_update PySem.F.type_dict_update mt_update (pv 3) (pa_cons (pe_disp (pps_cons pe_str pe_int (pps_cons pe_str pe_non (pps_cons pe_str (pe_lst pa_nil) (pps_cons pe_str (pe_callTy (call_dictP rfl) (by rfl) T.f_dict (by decide +kernel) (pa_cons (pv 1) pa_nil)) pps_nil)))) (by rfl) (by rfl) (fun z => by cases z) (by decide)) pa_nil)))
  (pss_one (ps_ret (pv 3)))))), ?_⟩
  obtain ⟨hp1, hp2, hm, q⟩ := h
  have hs := Sep.pre (L := [aL pimage_ image_, aL pline_ line_]) ⟨hp1, hp2⟩
  generalize owns [aL pimage_ image_, aL pline_ line_] = S0_ at hs q
  unfold m__law_new at hm
  clear hp1 hp2
  obtain ⟨vs3, hl4, hv5⟩ := hs.lst 0 rfl
  refine ⟨_, rfl, _, _, rfl, .inl (SqL.of hl4), fun p6 n7 => ?_⟩
  try dsimp only
  generalize ee_ : upd H p6 _ = H8
  replace hs := (hs.newL (ys := (image_ : (List Int))) n7 (hv5)).cast ee_
  clear ee_
  refine ⟨(by show 1 ≤ sizeLine; decide), fun p10 n11 => ?_⟩
  try dsimp only
  generalize ee_ : upd H8 p10 _ = H12
  replace hs := (hs.newL (ys := (([(65535 : Int)] : (List Int)) : (List Int))) n11 ((.cons imI .nil))).cast ee_
  clear ee_
  obtain ⟨vs14, hl15, hv16⟩ := hs.lst 2 rfl
  refine ⟨_, rfl, _, _, rfl, .inl (SqL.of hl15), ?_⟩
  rw [hv16.length]
  obtain ⟨y17, ey17, hm⟩ := bnd hm
  obtain ⟨vs18, hl19, hv20⟩ := hs.lst 0 rfl
  obtain ⟨g21, e22⟩ := repL_eq ey17
  refine ⟨_, _, rfl, rfl, _, _, _, rfl, rfl, hl19, g21.1, g21.2.1, small_le (by rw [hv20.length]; exact Nat.le_of_lt (Nat.lt_of_lt_of_le g21.2.2 (by decide))), fun p23 n24 => ?_⟩
  try dsimp only
  generalize ee_ : upd H12 p23 _ = H25
  replace hs := (hs.newL (ys := (y17 : (List Int))) n24 (by rw [e22]; exact hv20.rep _)).cast ee_
  clear ee_
  obtain ⟨y27, ey27, hm⟩ := bnd hm
  obtain ⟨vs28, hl29, hv30⟩ := hs.lst 2 rfl
  obtain ⟨vs31, hl32, hv33⟩ := hs.lst 0 rfl
  obtain ⟨g34, e35⟩ := catL_eq ey27
  refine ⟨_, _, _, _, rfl, rfl, hl29, hl32, small_le (by have := hv30.length; have := hv33.length; omega), fun p36 n37 => ?_⟩
  try dsimp only
  generalize ee_ : upd H25 p36 _ = H38
  replace hs := (hs.newL (ys := (y27 : (List Int))) n37 (by rw [e35]; exact hv30.app hv33)).cast ee_
  clear ee_
  refine ⟨(by show 1 ≤ sizeLine; decide), fun p40 n41 => ?_⟩
  try dsimp only
  generalize ee_ : upd H38 p40 _ = H42
  replace hs := (hs.newL (ys := (([(0 : Int)] : (List Int)) : (List Int))) n41 ((.cons imI .nil))).cast ee_
  clear ee_
  obtain ⟨y44, ey44, hm⟩ := bnd hm
  obtain ⟨vs45, hl46, hv47⟩ := hs.lst 0 rfl
  obtain ⟨g48, e49⟩ := repL_eq ey44
  refine ⟨_, _, _, rfl, rfl, hl46, g48.1, g48.2.1, small_le (by rw [hv47.length]; exact Nat.le_of_lt (Nat.lt_of_lt_of_le g48.2.2 (by decide))), fun p50 n51 => ?_⟩
  try dsimp only
  generalize ee_ : upd H42 p50 _ = H52
  replace hs := (hs.newL (ys := (y44 : (List Int))) n51 (by rw [e49]; exact hv47.rep _)).cast ee_
  clear ee_
  obtain ⟨y54, ey54, hm⟩ := bnd hm
  obtain ⟨vs55, hl56, hv57⟩ := hs.lst 2 rfl
  obtain ⟨vs58, hl59, hv60⟩ := hs.lst 0 rfl
  obtain ⟨g61, e62⟩ := catL_eq ey54
  refine ⟨_, _, _, _, rfl, rfl, hl56, hl59, small_le (by have := hv57.length; have := hv60.length; omega), fun p63 n64 => ?_⟩
  try dsimp only
  generalize ee_ : upd H52 p63 _ = H65
  replace hs := (hs.newL (ys := (y54 : (List Int))) n64 (by rw [e62]; exact hv57.app hv60)).cast ee_
  clear ee_
  replace hs : Sep S0_ H H65 [aL p63 y54, aL pimage_ image_, aL pline_ line_] := (((hs.mv 8 rfl).mv 8 rfl).mv 2 rfl).tk 3
  refine fun p67 n68 => ?_
  try dsimp only
  generalize ee_ : upd H65 p67 _ = H69
  replace hs := (hs.newC n68 (.dK [])).cast ee_
  clear ee_
  have f71 := hs.cel 0 rfl
  refine ⟨_, rfl, f71, [((Sum.inr "m" : Key), .ref p63), ((Sum.inr "a" : Key), (.int 0)), ((Sum.inr "b" : Key), (.int 0)), ((Sum.inr "pc" : Key), (.int 0)), ((Sum.inr "sp" : Key), (.int 767)), ((Sum.inr "zero" : Key), (.bl false)), ((Sum.inr "lets" : Key), (.bl false)), ((Sum.inr "asleep" : Key), (.bl false))], rfl, (by show 8 ≤ 15; decide), ?_⟩
  have em72 : mergeK [] ([((Sum.inr "m" : Key), .ref p63), ((Sum.inr "a" : Key), (.int 0)), ((Sum.inr "b" : Key), (.int 0)), ((Sum.inr "pc" : Key), (.int 0)), ((Sum.inr "sp" : Key), (.int 767)), ((Sum.inr "zero" : Key), (.bl false)), ((Sum.inr "lets" : Key), (.bl false)), ((Sum.inr "asleep" : Key), (.bl false))] : List (Key × V)) = [((Sum.inr "m" : Key), .ref p63), ((Sum.inr "a" : Key), (.int 0)), ((Sum.inr "b" : Key), (.int 0)), ((Sum.inr "pc" : Key), (.int 0)), ((Sum.inr "sp" : Key), (.int 767)), ((Sum.inr "zero" : Key), (.bl false)), ((Sum.inr "lets" : Key), (.bl false)), ((Sum.inr "asleep" : Key), (.bl false))] := by kernel_rfl
  rw [em72]
  try dsimp only
  generalize ee_ : upd H69 p67 _ = H73
  replace hs := (hs.putC 0 rfl trivial (.dK [((Sum.inr "m" : Key), .ref p63), ((Sum.inr "a" : Key), (.int 0)), ((Sum.inr "b" : Key), (.int 0)), ((Sum.inr "pc" : Key), (.int 0)), ((Sum.inr "sp" : Key), (.int 767)), ((Sum.inr "zero" : Key), (.bl false)), ((Sum.inr "lets" : Key), (.bl false)), ((Sum.inr "asleep" : Key), (.bl false))])).cast ee_
  clear ee_
  have f74 := hs.cel 0 rfl
  refine ⟨_, rfl, .inr (.inr (.inl ⟨rfl, .inl ⟨_, f74⟩⟩)), fun p75 n76 => ?_⟩
  try dsimp only
  generalize ee_ : upd H73 p75 _ = H77
  replace hs := (hs.newC n76 (.dK [])).cast ee_
  clear ee_
  refine ⟨(by show 0 ≤ sizeLine; decide), fun p79 n80 => ?_⟩
  try dsimp only
  generalize ee_ : upd H77 p79 _ = H81
  replace hs := (hs.newL (ys := (([] : (List (Int × Int))) : (List (Int × Int)))) n80 (.nil)).cast ee_
  clear ee_
  obtain ⟨vs83, hl84, hv85⟩ := hs.lst 5 rfl
  obtain ⟨ps86, e87, hps88⟩ := tups_pairs (K := K) (tups_of hv85)
  refine ⟨_, rfl, _, ps86, lineK line_, rfl, SqL.of (by rw [← e87]; exact hl84), hps88, fun p89 n90 => ?_⟩
  rw [merge_mkI]
  try dsimp only
  generalize ee_ : upd H81 p89 _ = H91
  replace hs := (hs.newC n90 (.dK (lineK (mkI line_)))).cast ee_
  clear ee_
  have f93 := hs.cel 2 rfl
  refine ⟨f93, [((Sum.inr "beat" : Key), (.int 0)), ((Sum.inr "stopped" : Key), .non), ((Sum.inr "sent" : Key), .ref p79), ((Sum.inr "line" : Key), .ref p89)], rfl, (by show 4 ≤ 15; decide), ?_⟩
  have em94 : mergeK [] ([((Sum.inr "beat" : Key), (.int 0)), ((Sum.inr "stopped" : Key), .non), ((Sum.inr "sent" : Key), .ref p79), ((Sum.inr "line" : Key), .ref p89)] : List (Key × V)) = [((Sum.inr "beat" : Key), (.int 0)), ((Sum.inr "stopped" : Key), .non), ((Sum.inr "sent" : Key), .ref p79), ((Sum.inr "line" : Key), .ref p89)] := by kernel_rfl
  rw [em94]
  try dsimp only
  generalize ee_ : upd H91 p75 _ = H95
  replace hs := (hs.putC 2 rfl trivial (.dK [((Sum.inr "beat" : Key), (.int 0)), ((Sum.inr "stopped" : Key), .non), ((Sum.inr "sent" : Key), .ref p79), ((Sum.inr "line" : Key), .ref p89)])).cast ee_
  clear ee_
  have nd96 : p67 ≠ p75 := hs.apart 3 2 rfl rfl (by decide)
  have f97 := hs.cel 3 rfl
  have f98 := hs.cel 2 rfl
  refine ⟨_, _, _, _, rfl, rfl, nd96, f97, f98, (by show 8 + 4 ≤ 16777216; decide), ?_⟩
  have em99 : mergeK ([((Sum.inr "m" : Key), .ref p63), ((Sum.inr "a" : Key), (.int 0)), ((Sum.inr "b" : Key), (.int 0)), ((Sum.inr "pc" : Key), (.int 0)), ((Sum.inr "sp" : Key), (.int 767)), ((Sum.inr "zero" : Key), (.bl false)), ((Sum.inr "lets" : Key), (.bl false)), ((Sum.inr "asleep" : Key), (.bl false))] : List (Key × V)) [((Sum.inr "beat" : Key), (.int 0)), ((Sum.inr "stopped" : Key), .non), ((Sum.inr "sent" : Key), .ref p79), ((Sum.inr "line" : Key), .ref p89)] = [((Sum.inr "m" : Key), .ref p63), ((Sum.inr "a" : Key), (.int 0)), ((Sum.inr "b" : Key), (.int 0)), ((Sum.inr "pc" : Key), (.int 0)), ((Sum.inr "sp" : Key), (.int 767)), ((Sum.inr "zero" : Key), (.bl false)), ((Sum.inr "lets" : Key), (.bl false)), ((Sum.inr "asleep" : Key), (.bl false)), ((Sum.inr "beat" : Key), (.int 0)), ((Sum.inr "stopped" : Key), .non), ((Sum.inr "sent" : Key), .ref p79), ((Sum.inr "line" : Key), .ref p89)] := by kernel_rfl
  rw [em99]
  try dsimp only
  generalize ee_ : upd H95 p67 _ = H100
  replace hs := (hs.putC 3 rfl trivial (.dK [((Sum.inr "m" : Key), .ref p63), ((Sum.inr "a" : Key), (.int 0)), ((Sum.inr "b" : Key), (.int 0)), ((Sum.inr "pc" : Key), (.int 0)), ((Sum.inr "sp" : Key), (.int 767)), ((Sum.inr "zero" : Key), (.bl false)), ((Sum.inr "lets" : Key), (.bl false)), ((Sum.inr "asleep" : Key), (.bl false)), ((Sum.inr "beat" : Key), (.int 0)), ((Sum.inr "stopped" : Key), .non), ((Sum.inr "sent" : Key), .ref p79), ((Sum.inr "line" : Key), .ref p89)])).cast ee_
  clear ee_
  replace hs := hs.addV (v := .non) (x := (none : (Option (List V)))) imN
  replace hs := hs.asN 4 rfl (Y := aC p67 (.dK (K_Own (.ref p63) (.int 0) (.int 0) (.int 0) (.int 767) (.bl false) (.bl false) (.bl false) (.int 0) .non (.ref p79) (.ref p89)))) rfl
  replace hs : Sep S0_ H H100 [a_Own K (A_Own.mk p67 p63 .non p79 p89) (R_Own.mk y54 (0 : Int) (0 : Int) (0 : Int) (767 : Int) false false false (0 : Int) none ([] : (List (Int × Int))) (mkI line_)), aC p75 (.dK [((Sum.inr "beat" : Key), (.int 0)), ((Sum.inr "stopped" : Key), .non), ((Sum.inr "sent" : Key), .ref p79), ((Sum.inr "line" : Key), .ref p89)]), aL pimage_ image_, aL pline_ line_] := hs.cl [1,2,2,5,5] 5 (by kernel_rfl)
  refine ⟨_, rfl, ?_⟩
  replace hs : Sep S0_ H H100 [a_Own K (A_Own.mk p67 p63 .non p79 p89) (R_Own.mk y54 (0 : Int) (0 : Int) (0 : Int) (767 : Int) false false false (0 : Int) none ([] : (List (Int × Int))) (mkI line_)), aL pimage_ image_, aL pline_ line_] := (((hs.mv 3 rfl).mv 3 rfl).mv 2 rfl).tk 3
  obtain rfl := Option.some.inj hm
  exact q H100 (A_Own.mk p67 p63 .non p79 p89) hs
end

def m_Memory_init_v_g (image_ : (List Int)) : Option (R_Memory) :=
  (repL ([(65535 : Int)] : (List Int)) ((512 : Int) - (image_.length : Int))).bind fun y17 =>
  (catL image_ y17).bind fun y27 =>
  (repL ([(0 : Int)] : (List Int)) ((768 : Int) - (512 : Int))).bind fun y47 =>
  (repL ([(0 : Int)] : (List Int)) (6 : Int)).bind fun y64 =>
  some (R_Memory.mk y27 y47 y64)
section
variable {P : Program} {w : World} {K : PySem.W.Frag} {mg : Str → Option Value} {base : Heap}
def sp_Memory_init_v_g (K : PySem.W.Frag) : Sp := fun vs H Q E_ => ∃ (pself_ : Addr) (dself_ : Addr) (pimage_ : Addr) (image_ : (List Int)) (r_ : R_Memory), vs = [.ref pself_, .ref pimage_] ∧ (oks H [aC pself_ (.ins (He.ga K "Memory") dself_ []), aL pimage_ image_] ∧ (owns [aC pself_ (.ins (He.ga K "Memory") dself_ []), aL pimage_ image_]).Nodup ∧ m_Memory_init_v_g image_ = some r_ ∧ (∀ (H' : Hp) (Bself_ : A_Memory), Sep (owns [aC pself_ (.ins (He.ga K "Memory") dself_ []), aL pimage_ image_]) H H' [a_Memory K (Bself_.w pself_) r_, aL pimage_ image_] → Q .non H'))
abbrev N_Memory_init_v_g : List Str := ["self", "image"]
theorem sc_Memory_init_v_g : FnScope N_Memory_init_v_g ["self", "image"] (defScope s_Memory_init) := ⟨rfl, rfl, rfl, by decide +kernel, rfl, by decide +kernel, by decide +kernel⟩
theorem okV_Memory_init_v_g (T : Txt K mg) {fd : FuncData} (F : FnP K "__init__" "Memory.__init__" s_Memory_init (He.fAd K ("Memory", some "__init__")) fd) : FnOk P w K mg base CX0 1 (He.fAd K ("Memory", some "__init__")) fd ["self", "image"] (sp_Memory_init_v_g K) := by
  refine F.ok sc_Memory_init_v_g (fun vs H Q E h => by obtain ⟨pself_, dself_, pimage_, image_, r_, rfl, _⟩ := h; rfl) (fun cdv A_ outer s_ H vs Q E hr h => ?_)
  obtain ⟨pself_, dself_, pimage_, image_, r_, rfl, h⟩ := h
  have hu := hu_of hr
  refine ⟨_, PSs.nox (pss_cons (ps_fld (pv 0) (pe_op op_cat (pe_callTy call_list_of (by rfl) T.f_list (by decide +kernel) (pa_cons (pv 1) pa_nil)) (pe_op op_rep (pe_lst (pa_cons (gi_ (by rfl) T.c_ERASED) pa_nil)) (pe_op op_sub (gi_ (by rfl) T.c_FLASH) (pe_callB call_len_seq (by rfl) T.f_len PySem.boot_len (pa_cons (pv 1) pa_nil))))) rfl)
  (pss_cons (ps_fld (pv 0) (pe_op op_rep (pe_lst (pa_cons pe_int pa_nil)) (pe_op op_sub (gi_ (by rfl) T.c_RAM) (gi_ (by rfl) T.c_FLASH))) rfl)
  (pss_one (ps_fld (pv 0) (pe_op op_rep (pe_lst (pa_cons pe_int pa_nil)) pe_int) rfl)))), ?_⟩
  obtain ⟨hp1, hp2, hm, q⟩ := h
  have hs := Sep.pre (L := [aC pself_ (.ins (He.ga K "Memory") dself_ []), aL pimage_ image_]) ⟨hp1, hp2⟩
  generalize owns [aC pself_ (.ins (He.ga K "Memory") dself_ []), aL pimage_ image_] = S0_ at hs q
  unfold m_Memory_init_v_g at hm
  clear hp1 hp2
  obtain ⟨vs3, hl4, hv5⟩ := hs.lst 1 rfl
  refine ⟨_, rfl, _, _, rfl, .inl (SqL.of hl4), fun p6 n7 => ?_⟩
  try dsimp only
  generalize ee_ : upd H p6 _ = H8
  replace hs := (hs.newL (ys := (image_ : (List Int))) n7 (hv5)).cast ee_
  clear ee_
  refine ⟨(by show 1 ≤ sizeLine; decide), fun p10 n11 => ?_⟩
  try dsimp only
  generalize ee_ : upd H8 p10 _ = H12
  replace hs := (hs.newL (ys := (([(65535 : Int)] : (List Int)) : (List Int))) n11 ((.cons imI .nil))).cast ee_
  clear ee_
  obtain ⟨vs14, hl15, hv16⟩ := hs.lst 3 rfl
  refine ⟨_, rfl, _, _, rfl, .inl (SqL.of hl15), ?_⟩
  rw [hv16.length]
  obtain ⟨y17, ey17, hm⟩ := bnd hm
  obtain ⟨vs18, hl19, hv20⟩ := hs.lst 0 rfl
  obtain ⟨g21, e22⟩ := repL_eq ey17
  refine ⟨_, _, rfl, rfl, _, _, _, rfl, rfl, hl19, g21.1, g21.2.1, small_le (by rw [hv20.length]; exact Nat.le_of_lt (Nat.lt_of_lt_of_le g21.2.2 (by decide))), fun p23 n24 => ?_⟩
  try dsimp only
  generalize ee_ : upd H12 p23 _ = H25
  replace hs := (hs.newL (ys := (y17 : (List Int))) n24 (by rw [e22]; exact hv20.rep _)).cast ee_
  clear ee_
  obtain ⟨y27, ey27, hm⟩ := bnd hm
  obtain ⟨vs28, hl29, hv30⟩ := hs.lst 2 rfl
  obtain ⟨vs31, hl32, hv33⟩ := hs.lst 0 rfl
  obtain ⟨g34, e35⟩ := catL_eq ey27
  refine ⟨_, _, _, _, rfl, rfl, hl29, hl32, small_le (by have := hv30.length; have := hv33.length; omega), fun p36 n37 => ?_⟩
  try dsimp only
  generalize ee_ : upd H25 p36 _ = H38
  replace hs := (hs.newL (ys := (y27 : (List Int))) n37 (by rw [e35]; exact hv30.app hv33)).cast ee_
  clear ee_
  have f40 := hs.cel 4 rfl
  refine ⟨_, rfl, _, _, _, _, rfl, f40, T.k_Memory, T.n_Memory_flash, (by show 0 < 1000; decide), ?_⟩
  try dsimp only
  have em41 : putF ("flash" : Str) (.ref p36) ([] : List (Str × V)) = ([("flash", .ref p36)] : List (Str × V)) := by kernel_rfl
  rw [em41]
  try dsimp only
  generalize ee_ : upd H38 pself_ _ = H42
  replace hs := (hs.putC 4 rfl trivial (.ins (He.ga K "Memory") dself_ [("flash", .ref p36)])).cast ee_
  clear ee_
  replace hs : Sep S0_ H H42 [aL p36 y27, aC pself_ (.ins (He.ga K "Memory") dself_ [("flash", .ref p36)]), aL pimage_ image_] := (((hs.mv 5 rfl).mv 5 rfl).mv 2 rfl).tk 3
  refine ⟨(by show 1 ≤ sizeLine; decide), fun p43 n44 => ?_⟩
  try dsimp only
  generalize ee_ : upd H42 p43 _ = H45
  replace hs := (hs.newL (ys := (([(0 : Int)] : (List Int)) : (List Int))) n44 ((.cons imI .nil))).cast ee_
  clear ee_
  obtain ⟨y47, ey47, hm⟩ := bnd hm
  obtain ⟨vs48, hl49, hv50⟩ := hs.lst 0 rfl
  obtain ⟨g51, e52⟩ := repL_eq ey47
  refine ⟨_, _, rfl, rfl, _, _, _, rfl, rfl, hl49, g51.1, g51.2.1, small_le (by rw [hv50.length]; exact Nat.le_of_lt (Nat.lt_of_lt_of_le g51.2.2 (by decide))), fun p53 n54 => ?_⟩
  try dsimp only
  generalize ee_ : upd H45 p53 _ = H55
  replace hs := (hs.newL (ys := (y47 : (List Int))) n54 (by rw [e52]; exact hv50.rep _)).cast ee_
  clear ee_
  have f57 := hs.cel 3 rfl
  refine ⟨_, rfl, _, _, _, _, rfl, f57, T.k_Memory, T.n_Memory_ram, (by show 1 < 1000; decide), ?_⟩
  try dsimp only
  have em58 : putF ("ram" : Str) (.ref p53) ([("flash", .ref p36)] : List (Str × V)) = ([("flash", .ref p36), ("ram", .ref p53)] : List (Str × V)) := by kernel_rfl
  rw [em58]
  try dsimp only
  generalize ee_ : upd H55 pself_ _ = H59
  replace hs := (hs.putC 3 rfl trivial (.ins (He.ga K "Memory") dself_ [("flash", .ref p36), ("ram", .ref p53)])).cast ee_
  clear ee_
  refine ⟨(by show 1 ≤ sizeLine; decide), fun p60 n61 => ?_⟩
  try dsimp only
  generalize ee_ : upd H59 p60 _ = H62
  replace hs := (hs.newL (ys := (([(0 : Int)] : (List Int)) : (List Int))) n61 ((.cons imI .nil))).cast ee_
  clear ee_
  obtain ⟨y64, ey64, hm⟩ := bnd hm
  obtain ⟨vs65, hl66, hv67⟩ := hs.lst 0 rfl
  obtain ⟨g68, e69⟩ := repL_eq ey64
  refine ⟨_, _, _, rfl, rfl, hl66, g68.1, g68.2.1, small_le (by rw [hv67.length]; exact Nat.le_of_lt (Nat.lt_of_lt_of_le g68.2.2 (by decide))), fun p70 n71 => ?_⟩
  try dsimp only
  generalize ee_ : upd H62 p70 _ = H72
  replace hs := (hs.newL (ys := (y64 : (List Int))) n71 (by rw [e69]; exact hv67.rep _)).cast ee_
  clear ee_
  have f74 := hs.cel 5 rfl
  refine ⟨_, rfl, _, _, _, _, rfl, f74, T.k_Memory, T.n_Memory_places, (by show 2 < 1000; decide), ?_⟩
  try dsimp only
  have em75 : putF ("places" : Str) (.ref p70) ([("flash", .ref p36), ("ram", .ref p53)] : List (Str × V)) = ([("flash", .ref p36), ("ram", .ref p53), ("places", .ref p70)] : List (Str × V)) := by kernel_rfl
  rw [em75]
  try dsimp only
  generalize ee_ : upd H72 pself_ _ = H76
  replace hs := (hs.putC 5 rfl trivial (.ins (He.ga K "Memory") dself_ [("flash", .ref p36), ("ram", .ref p53), ("places", .ref p70)])).cast ee_
  clear ee_
  replace hs := hs.asN 5 rfl (Y := aC pself_ (.ins (He.ga K "Memory") dself_ (F_Memory (.ref p36) (.ref p53) (.ref p70)))) rfl
  replace hs : Sep S0_ H H76 [a_Memory K (A_Memory.mk pself_ dself_ p36 p53 p70) (R_Memory.mk y27 y47 y64), aL p60 (([(0 : Int)] : (List Int)) : (List Int)), aL p43 (([(0 : Int)] : (List Int)) : (List Int)), aL pimage_ image_] := hs.cl [0,2,4,5] 4 (by kernel_rfl)
  replace hs : Sep S0_ H H76 [a_Memory K (A_Memory.mk pself_ dself_ p36 p53 p70) (R_Memory.mk y27 y47 y64), aL pimage_ image_] := ((hs.mv 3 rfl).mv 1 rfl).tk 2
  obtain rfl := Option.some.inj hm
  exact q H76 (A_Memory.mk pself_ dself_ p36 p53 p70) hs
theorem ok_Memory_init_v_g (T : Txt K mg) : Ok P w K mg base CX0 1 (He.fAd K ("Memory", some "__init__")) ["self", "image"] (sp_Memory_init_v_g K) := by
  obtain ⟨fd, F⟩ := T.d_Memory_init
  exact ⟨fd, okV_Memory_init_v_g T F, F.bindsN (fun _ _ _ _ _ _ us hl => match us, hl with | [_, _], _ => rfl), F.kp⟩
end
def m_Memory_twin (self_ : R_Memory) : Option (R_Memory) :=
  (m_Memory_init_v_g self_.flash).bind fun r12 =>
  some ({ r12 with ram := self_.ram, places := self_.places })
section
variable {P : Program} {w : World} {K : PySem.W.Frag} {mg : Str → Option Value} {base : Heap}
def sp_Memory_twin (K : PySem.W.Frag) : Sp := fun vs H Q E_ => ∃ (Aself_ : A_Memory) (self_ : R_Memory) (r_ : R_Memory), vs = [.ref Aself_.p_] ∧ (oks H [a_Memory K Aself_ self_] ∧ (owns [a_Memory K Aself_ self_]).Nodup ∧ m_Memory_twin self_ = some r_ ∧ (∀ (H' : Hp) (Az : A_Memory), Sep (owns [a_Memory K Aself_ self_]) H H' [a_Memory K Az r_, a_Memory K Aself_ self_] → Q (.ref Az.p_) H'))
abbrev N_Memory_twin : List Str := ["self", "other"]
theorem sc_Memory_twin : FnScope N_Memory_twin ["self"] (defScope s_Memory_twin) := ⟨rfl, rfl, rfl, by decide +kernel, rfl, by decide +kernel, by decide +kernel⟩
theorem ok_Memory_twin (T : Txt K mg) : Ok P w K mg base CX0 3 (He.fAd K ("Memory", some "twin")) ["self"] (sp_Memory_twin K) := by
  obtain ⟨_, G_Memory_init_v_g, b_Memory_init_v_g, kp_Memory_init_v_g⟩ := ok_Memory_init_v_g (P := P) (w := w) (base := base) T
  obtain ⟨fd, F⟩ := T.d_Memory_twin
  refine ⟨fd, F.ok sc_Memory_twin (fun vs H Q E h => by obtain ⟨Aself_, self_, r_, rfl, _⟩ := h; rfl) (fun cdv A_ outer s_ H vs Q E hr h => ?_), F.bindsN (fun _ _ _ _ _ _ us hl => match us, hl with | [_], _ => rfl), F.kp⟩
  obtain ⟨Aself_, self_, r_, rfl, h⟩ := h
  have hu := hu_of hr
  refine ⟨_, PSs.nox (pss_cons (ps_set (i := 1) sc_Memory_twin.nd rfl (.inl rfl) (pe_make T.mk_Memory G_Memory_init_v_g (hr.mono (by decide)) (by rfl) T.g_Memory b_Memory_init_v_g .nil pass0 (pa_cons (pe_fld (pv 0) rfl) pa_nil)))
  (pss_cons (ps_fld (pv 1) (pe_callTy call_list_of (by rfl) T.f_list (by decide +kernel) (pa_cons (pe_fld (pv 0) rfl) pa_nil)) rfl)
  (pss_cons (ps_fld (pv 1) (pe_callTy call_list_of (by rfl) T.f_list (by decide +kernel) (pa_cons (pe_fld (pv 0) rfl) pa_nil)) rfl)
  (pss_one (ps_ret (pv 1)))))), ?_⟩
  obtain ⟨hp1, hp2, hm, q⟩ := h
  have hs := Sep.pre (L := [a_Memory K Aself_ self_]) ⟨hp1, hp2⟩
  generalize owns [a_Memory K Aself_ self_] = S0_ at hs q
  unfold m_Memory_twin at hm
  clear hp1 hp2
  replace hs := hs.opn 0 rfl
  replace hs : Sep S0_ H H (O_Memory K Aself_.p_ Aself_ self_) := hs
  have f5 := hs.cel 0 rfl
  refine ⟨_, rfl, _, _, _, _, _, rfl, f5, T.k_Memory, T.n_Memory_flash, F_Memory_flash, fun pb6 dx7 n8 n9 ne10 => ?_⟩
  have np_ : (upd H dx7 (.own pb6)) pb6 = none := by rw [upd_ne (fun e => ne10 e.symm)]; exact n8
  replace hs := ((hs.newT (o := .own pb6) n9).newC np_ (.ins (He.ga K "Memory") dx7 []))
  obtain ⟨r12, er12, hm⟩ := bnd hm
  replace hs := hs.mv 2 rfl
  replace hs := hs.mv 1 rfl
  refine ⟨pb6, dx7, Aself_.flash, self_.flash, r12, rfl, (hs.frontN 2).1, (hs.frontN 2).2, er12, fun H13 A15 hc14 => ⟨rfl, ?_⟩⟩
  replace hs := hs.callN 2 hc14
  replace hs : Sep S0_ H H13 [a_Memory K Aself_ self_, a_Memory K (A15.w pb6) r12] := hs.cl [4,4,3,4] 4 (by kernel_rfl)
  replace hs := hs.opn 0 rfl
  replace hs : Sep S0_ H H13 (O_Memory K Aself_.p_ Aself_ self_ ++ [a_Memory K (A15.w pb6) r12]) := hs
  have f19 := hs.cel 0 rfl
  obtain ⟨vs20, hl21, hv22⟩ := hs.lst 2 rfl
  refine ⟨_, rfl, _, _, _, _, _, rfl, f19, T.k_Memory, T.n_Memory_ram, F_Memory_ram, _, _, rfl, .inl (SqL.of hl21), fun p23 n24 => ?_⟩
  try dsimp only
  generalize ee_ : upd H13 p23 _ = H25
  replace hs := (hs.newL (ys := (self_.ram : (List Int))) n24 (hv22)).cast ee_
  clear ee_
  replace hs := hs.opn 5 rfl
  replace hs : Sep S0_ H H25 ([aL p23 self_.ram] ++ O_Memory K Aself_.p_ Aself_ self_ ++ O_Memory K pb6 A15 r12) := hs
  have f30 := hs.cel 5 rfl
  refine ⟨_, rfl, _, _, _, _, rfl, f30, T.k_Memory, T.n_Memory_ram, F_Memory_len, ?_⟩
  try dsimp only
  rw [F_Memory_put_ram]
  try dsimp only
  generalize ee_ : upd H25 pb6 _ = H31
  replace hs := (hs.putC 5 rfl trivial (.ins (He.ga K "Memory") A15.dx_ (F_Memory (.ref A15.flash) (.ref p23) (.ref A15.places)))).cast ee_
  clear ee_
  replace hs : Sep S0_ H H31 [a_Memory K Aself_ self_, aL p23 self_.ram, aC pb6 (.ins (He.ga K "Memory") A15.dx_ (F_Memory (.ref A15.flash) (.ref p23) (.ref A15.places))), aL A15.flash r12.flash, aL A15.ram r12.ram, aL A15.places r12.places] := hs.cl [4,4,4,4] 4 (by kernel_rfl)
  replace hs : Sep S0_ H H31 [a_Memory K (A_Memory.mk pb6 A15.dx_ A15.flash p23 A15.places) ({ r12 with ram := self_.ram }), a_Memory K Aself_ self_, aL A15.ram r12.ram] := hs.cl [5,2,4,4] 4 (by kernel_rfl)
  replace hs := hs.opn 1 rfl
  replace hs : Sep S0_ H H31 ([a_Memory K (A_Memory.mk pb6 A15.dx_ A15.flash p23 A15.places) ({ r12 with ram := self_.ram })] ++ O_Memory K Aself_.p_ Aself_ self_ ++ [aL A15.ram r12.ram]) := hs
  have f35 := hs.cel 1 rfl
  obtain ⟨vs36, hl37, hv38⟩ := hs.lst 4 rfl
  refine ⟨_, rfl, _, _, _, _, _, rfl, f35, T.k_Memory, T.n_Memory_places, F_Memory_places, _, _, rfl, .inl (SqL.of hl37), fun p39 n40 => ?_⟩
  try dsimp only
  generalize ee_ : upd H31 p39 _ = H41
  replace hs := (hs.newL (ys := (self_.places : (List Int))) n40 (hv38)).cast ee_
  clear ee_
  replace hs := hs.opn 1 rfl
  replace hs : Sep S0_ H H41 ([aL p39 self_.places, aC pb6 (.ins (He.ga K "Memory") A15.dx_ (F_Memory (.ref A15.flash) (.ref p23) (.ref A15.places))), aL A15.flash r12.flash, aL p23 self_.ram, aL A15.places r12.places] ++ O_Memory K Aself_.p_ Aself_ self_ ++ [aL A15.ram r12.ram]) := hs
  have f46 := hs.cel 1 rfl
  refine ⟨_, rfl, _, _, _, _, rfl, f46, T.k_Memory, T.n_Memory_places, F_Memory_len, ?_⟩
  try dsimp only
  rw [F_Memory_put_places]
  try dsimp only
  generalize ee_ : upd H41 pb6 _ = H47
  replace hs := (hs.putC 1 rfl trivial (.ins (He.ga K "Memory") A15.dx_ (F_Memory (.ref A15.flash) (.ref p23) (.ref p39)))).cast ee_
  clear ee_
  replace hs : Sep S0_ H H47 ([a_Memory K (A_Memory.mk pb6 A15.dx_ A15.flash p23 p39) ({ r12 with ram := self_.ram, places := self_.places }), aL A15.places r12.places] ++ O_Memory K Aself_.p_ Aself_ self_ ++ [aL A15.ram r12.ram]) := hs.cl [0,3,3,3] 4 (by kernel_rfl)
  replace hs : Sep S0_ H H47 [a_Memory K Aself_ self_, a_Memory K (A_Memory.mk pb6 A15.dx_ A15.flash p23 p39) ({ r12 with ram := self_.ram, places := self_.places }), aL A15.places r12.places, aL A15.ram r12.ram] := hs.cl [5,5,5,5] 4 (by kernel_rfl)
  replace hs := hs.mv 1 rfl
  refine ⟨_, rfl, ?_⟩
  replace hs : Sep S0_ H H47 [a_Memory K (A_Memory.mk pb6 A15.dx_ A15.flash p23 p39) ({ r12 with ram := self_.ram, places := self_.places }), a_Memory K Aself_ self_] := hs.tk 2
  obtain rfl := Option.some.inj hm
  exact q H47 (A_Memory.mk pb6 A15.dx_ A15.flash p23 p39) hs
end
def m_Board_twin (self_ : BD) : Option (BD) :=
  if initOk ([] : (List Int)) ([] : List (Int × Int)) then
  (m_Memory_twin (R_Memory.mk self_.m.fl self_.m.ra self_.m.pl)).bind fun r39 =>
  if BDok (BD.mk (MD.mk r39.flash r39.ram r39.places) self_.ln self_.a self_.b self_.pc self_.sp self_.zero self_.lets self_.asleep self_.beat self_.stop self_.sent self_.tc self_.bend) then
  some (BD.mk (MD.mk r39.flash r39.ram r39.places) self_.ln self_.a self_.b self_.pc self_.sp self_.zero self_.lets self_.asleep self_.beat self_.stop self_.sent self_.tc self_.bend) else none else none
section
variable {P : Program} {w : World} {K : PySem.W.Frag} {mg : Str → Option Value} {base : Heap}
def sp_Board_twin (K : PySem.W.Frag) : Sp := fun vs H Q E_ => ∃ (Aself_ : BA) (self_ : BD) (r_ : BD), vs = [.ref Aself_.p] ∧ (oks H [aB K Aself_ self_] ∧ (owns [aB K Aself_ self_]).Nodup ∧ m_Board_twin self_ = some r_ ∧ (∀ (H' : Hp) (Az : BA), Sep (owns [aB K Aself_ self_]) H H' [aB K Az r_, aB K Aself_ self_] → Q (.ref Az.p) H'))
abbrev N_Board_twin : List Str := ["self", "other"]
theorem sc_Board_twin : FnScope N_Board_twin ["self"] (defScope s_Board_twin) := ⟨rfl, rfl, rfl, by decide +kernel, rfl, by decide +kernel, by decide +kernel⟩
theorem ok_Board_twin (T : Txt K mg) : Ok P w K mg base CX0 5 (He.fAd K ("Board", some "twin")) ["self"] (sp_Board_twin K) := by
  obtain ⟨_, G_Board_init, b_Board_init, kp_Board_init⟩ := ok_Board_init (P := P) (w := w) (base := base) T
  obtain ⟨_, G_Memory_twin, b_Memory_twin, kp_Memory_twin⟩ := ok_Memory_twin (P := P) (w := w) (base := base) T
  obtain ⟨fd, F⟩ := T.d_Board_twin
  refine ⟨fd, F.ok sc_Board_twin (fun vs H Q E h => by obtain ⟨Aself_, self_, r_, rfl, _⟩ := h; rfl) (fun cdv A_ outer s_ H vs Q E hr h => ?_), F.bindsN (fun _ _ _ _ _ _ us hl => match us, hl with | [_], _ => rfl), F.kp⟩
  obtain ⟨Aself_, self_, r_, rfl, h⟩ := h
  have hu := hu_of hr
  refine ⟨_, PSs.nox (pss_cons (ps_set (i := 1) sc_Board_twin.nd rfl (.inl rfl) (pe_make T.mk_Board G_Board_init (hr.mono (by decide)) (by rfl) T.g_Board b_Board_init .nil pass0 (pa_cons (pe_lst pa_nil) (pa_cons (pe_lst pa_nil) pa_nil))))
  (pss_cons (ps_fld (pv 1) (pe_meth0 (pe_fld (pv 0) rfl) T.k_Memory T.m_Memory_twin G_Memory_twin (hr.mono (by decide)) b_Memory_twin .nil pass0) rfl)
  (pss_cons (ps_fld (pv 1) (pe_callTy call_dictD (by rfl) T.f_dict (by decide +kernel) (pa_cons (pe_fld (pv 0) rfl) pa_nil)) rfl)
  (pss_cons (ps_fld (pv 1) (pe_callTy call_dictD (by rfl) T.f_dict (by decide +kernel) (pa_cons (pe_fld (pv 0) rfl) pa_nil)) rfl)
  (pss_cons (ps_asg (pe_tup (pa_cons (pe_fld (pv 0) rfl) (pa_cons (pe_fld (pv 0) rfl) (pa_cons (pe_fld (pv 0) rfl) pa_nil)))) (pg_tup rfl (pgs_cons (pg_fld (pv 1)) (pgs_cons (pg_fld (pv 1)) (pgs_cons (pg_fld (pv 1)) pgs_nil)))))
  (pss_cons (ps_asg (pe_tup (pa_cons (pe_fld (pv 0) rfl) (pa_cons (pe_fld (pv 0) rfl) pa_nil))) (pg_tup rfl (pgs_cons (pg_fld (pv 1)) (pgs_cons (pg_fld (pv 1)) pgs_nil))))
  (pss_cons (ps_fld (pv 1) (pe_callTy call_list_of (by rfl) T.f_list (by decide +kernel) (pa_cons (pe_fld (pv 0) rfl) pa_nil)) rfl)
  (pss_cons (ps_fld (pv 1) (pe_callTy call_list_of (by rfl) T.f_list (by decide +kernel) (pa_cons (pe_fld (pv 0) rfl) pa_nil)) rfl)
  (pss_cons (ps_fld (pv 1) (pe_fld (pv 0) rfl) rfl)
  (pss_one (ps_ret (pv 1)))))))))))), ?_⟩
  obtain ⟨hp1, hp2, hm, q⟩ := h
  have hs := Sep.pre (L := [aB K Aself_ self_]) ⟨hp1, hp2⟩
  generalize owns [aB K Aself_ self_] = S0_ at hs q
  unfold m_Board_twin at hm
  clear hp1 hp2
  refine ⟨(by show 0 ≤ sizeLine; decide), fun p2 n3 => ?_⟩
  try dsimp only
  generalize ee_ : upd H p2 _ = H4
  replace hs := (hs.newL (ys := (([] : (List Int)) : (List Int))) n3 (.nil)).cast ee_
  clear ee_
  refine ⟨(by show 0 ≤ sizeLine; decide), fun p6 n7 => ?_⟩
  try dsimp only
  generalize ee_ : upd H4 p6 _ = H8
  replace hs := (hs.newL (ys := (([] : (List Int)) : (List Int))) n7 (.nil)).cast ee_
  clear ee_
  obtain ⟨g10, hm⟩ := gd hm
  refine fun pb11 dx12 n13 n14 ne15 => ?_
  have np_ : (upd H8 dx12 (.own pb11)) pb11 = none := by rw [upd_ne (fun e => ne15 e.symm)]; exact n13
  replace hs := ((hs.newT (o := .own pb11) n14).newC np_ (.ins (He.ga K "Board") dx12 []))
  obtain ⟨ls18, hl19, hv20⟩ := hs.lst 1 rfl
  refine ⟨pb11, dx12, p2, p6, ([] : (List Int)), ls18, ([] : List (Int × Int)), rfl, hs.cel 0 rfl, SqL.of (hs.scs 2 rfl), hl19, (tups_nil hv20), g10.1, g10.2.1, g10.2.2.1, g10.2.2.2, fun H25 A22 B21 eA23 kA24 => ⟨rfl, ?_⟩⟩
  subst eA23
  replace hs := hs.put 0 rfl (aB K A22 (BD.init ([] : (List Int)) ([] : List (Int × Int)))) kA24 B21
  obtain ⟨hb27, hs⟩ := hs.opnB 3 rfl
  replace hs : Sep S0_ H H25 ([aB K A22 (BD.init ([] : (List Int)) ([] : List (Int × Int))), aL p6 (([] : (List Int)) : (List Int)), aL p2 (([] : (List Int)) : (List Int))] ++ O_B K Aself_.p Aself_ self_) := hs
  have f37 := hs.cel 3 rfl
  have f38 := hs.cel 9 rfl
  replace hs : Sep S0_ H H25 [a_Memory K (A_Memory.mk Aself_.m.p Aself_.m.dx Aself_.m.f Aself_.m.r Aself_.m.pl) (R_Memory.mk self_.m.fl self_.m.ra self_.m.pl), aB K A22 (BD.init ([] : (List Int)) ([] : List (Int × Int))), aL p6 (([] : (List Int)) : (List Int)), aL p2 (([] : (List Int)) : (List Int)), aC Aself_.p (.ins (He.ga K "Board") Aself_.dx (F_Board (.ref Aself_.m.p) (.ref Aself_.ln) (.ref Aself_.rg) (.bl self_.zero) (.bl self_.lets) (.bl self_.asleep) (.int self_.beat) Aself_.st (.ref Aself_.sn) (.ref Aself_.tc) (.int self_.bend))), aC Aself_.ln (.dK (lineK self_.ln)), aC Aself_.rg (.dK (K_Reg (.int self_.a) (.int self_.b) (.int self_.pc) (.int self_.sp))), aV Aself_.st self_.stop, aW Aself_.sn Aself_.sv self_.sent, aW Aself_.tc Aself_.tv self_.tc] := hs.cl [12,12,12,12] 4 (by kernel_rfl)
  obtain ⟨r39, er39, hm⟩ := bnd hm
  replace hs := hs.mv 0 rfl
  refine ⟨_, rfl, _, _, _, _, _, rfl, f37, T.k_Board, T.n_Board_memory, F_Board_memory, _, _, _, rfl, f38, (by kernel_rfl), (A_Memory.mk Aself_.m.p Aself_.m.dx Aself_.m.f Aself_.m.r Aself_.m.pl), (R_Memory.mk self_.m.fl self_.m.ra self_.m.pl), r39, rfl, (hs.frontN 1).1, (hs.frontN 1).2, er39, fun H40 Az42 hc41 => ?_⟩
  replace hs := hs.callN 1 hc41
  obtain ⟨hb44, hs⟩ := hs.opnB 2 rfl
  replace hs : Sep S0_ H H40 ([a_Memory K Az42 r39, a_Memory K (A_Memory.mk Aself_.m.p Aself_.m.dx Aself_.m.f Aself_.m.r Aself_.m.pl) (R_Memory.mk self_.m.fl self_.m.ra self_.m.pl)] ++ O_B K A22.p A22 (BD.init ([] : (List Int)) ([] : List (Int × Int))) ++ [aL p6 (([] : (List Int)) : (List Int)), aL p2 (([] : (List Int)) : (List Int)), aC Aself_.p (.ins (He.ga K "Board") Aself_.dx (F_Board (.ref Aself_.m.p) (.ref Aself_.ln) (.ref Aself_.rg) (.bl self_.zero) (.bl self_.lets) (.bl self_.asleep) (.int self_.beat) Aself_.st (.ref Aself_.sn) (.ref Aself_.tc) (.int self_.bend))), aC Aself_.ln (.dK (lineK self_.ln)), aC Aself_.rg (.dK (K_Reg (.int self_.a) (.int self_.b) (.int self_.pc) (.int self_.sp))), aV Aself_.st self_.stop, aW Aself_.sn Aself_.sv self_.sent, aW Aself_.tc Aself_.tv self_.tc]) := hs
  have f54 := hs.cel 2 rfl
  refine ⟨_, rfl, _, _, _, _, rfl, f54, T.k_Board, T.n_Board_memory, F_Board_len, ?_⟩
  try dsimp only
  rw [F_Board_put_memory]
  try dsimp only
  generalize ee_ : upd H40 A22.p _ = H55
  replace hs := (hs.putC 2 rfl trivial (.ins (He.ga K "Board") A22.dx (F_Board (.ref Az42.p_) (.ref A22.ln) (.ref A22.rg) (.bl (BD.init ([] : (List Int)) ([] : List (Int × Int))).zero) (.bl (BD.init ([] : (List Int)) ([] : List (Int × Int))).lets) (.bl (BD.init ([] : (List Int)) ([] : List (Int × Int))).asleep) (.int (BD.init ([] : (List Int)) ([] : List (Int × Int))).beat) A22.st (.ref A22.sn) (.ref A22.tc) (.int (BD.init ([] : (List Int)) ([] : List (Int × Int))).bend)))).cast ee_
  clear ee_
  replace hs : Sep S0_ H H55 [a_Memory K (A_Memory.mk A22.m.p A22.m.dx A22.m.f A22.m.r A22.m.pl) (R_Memory.mk ((BD.init ([] : (List Int)) ([] : List (Int × Int))).m.fl) ((BD.init ([] : (List Int)) ([] : List (Int × Int))).m.ra) ((BD.init ([] : (List Int)) ([] : List (Int × Int))).m.pl)), a_Memory K Az42 r39, a_Memory K (A_Memory.mk Aself_.m.p Aself_.m.dx Aself_.m.f Aself_.m.r Aself_.m.pl) (R_Memory.mk self_.m.fl self_.m.ra self_.m.pl), aC A22.p (.ins (He.ga K "Board") A22.dx (F_Board (.ref Az42.p_) (.ref A22.ln) (.ref A22.rg) (.bl (BD.init ([] : (List Int)) ([] : List (Int × Int))).zero) (.bl (BD.init ([] : (List Int)) ([] : List (Int × Int))).lets) (.bl (BD.init ([] : (List Int)) ([] : List (Int × Int))).asleep) (.int (BD.init ([] : (List Int)) ([] : List (Int × Int))).beat) A22.st (.ref A22.sn) (.ref A22.tc) (.int (BD.init ([] : (List Int)) ([] : List (Int × Int))).bend))), aC A22.ln (.dK (lineK ((BD.init ([] : (List Int)) ([] : List (Int × Int))).ln))), aC A22.rg (.dK (K_Reg (.int (BD.init ([] : (List Int)) ([] : List (Int × Int))).a) (.int (BD.init ([] : (List Int)) ([] : List (Int × Int))).b) (.int (BD.init ([] : (List Int)) ([] : List (Int × Int))).pc) (.int (BD.init ([] : (List Int)) ([] : List (Int × Int))).sp))), aV A22.st ((BD.init ([] : (List Int)) ([] : List (Int × Int))).stop : (Option (List V))), aW A22.sn A22.sv ((BD.init ([] : (List Int)) ([] : List (Int × Int))).sent : (List (Int × Int))), aW A22.tc A22.tv ((BD.init ([] : (List Int)) ([] : List (Int × Int))).tc : (List (Str × Int))), aL p6 (([] : (List Int)) : (List Int)), aL p2 (([] : (List Int)) : (List Int)), aC Aself_.p (.ins (He.ga K "Board") Aself_.dx (F_Board (.ref Aself_.m.p) (.ref Aself_.ln) (.ref Aself_.rg) (.bl self_.zero) (.bl self_.lets) (.bl self_.asleep) (.int self_.beat) Aself_.st (.ref Aself_.sn) (.ref Aself_.tc) (.int self_.bend))), aC Aself_.ln (.dK (lineK self_.ln)), aC Aself_.rg (.dK (K_Reg (.int self_.a) (.int self_.b) (.int self_.pc) (.int self_.sp))), aV Aself_.st self_.stop, aW Aself_.sn Aself_.sv self_.sent, aW Aself_.tc Aself_.tv self_.tc] := hs.cl [11,11,11,11] 4 (by kernel_rfl)
  replace hs : Sep S0_ H H55 [a_Memory K Az42 r39, a_Memory K (A_Memory.mk Aself_.m.p Aself_.m.dx Aself_.m.f Aself_.m.r Aself_.m.pl) (R_Memory.mk self_.m.fl self_.m.ra self_.m.pl), aC A22.p (.ins (He.ga K "Board") A22.dx (F_Board (.ref Az42.p_) (.ref A22.ln) (.ref A22.rg) (.bl (BD.init ([] : (List Int)) ([] : List (Int × Int))).zero) (.bl (BD.init ([] : (List Int)) ([] : List (Int × Int))).lets) (.bl (BD.init ([] : (List Int)) ([] : List (Int × Int))).asleep) (.int (BD.init ([] : (List Int)) ([] : List (Int × Int))).beat) A22.st (.ref A22.sn) (.ref A22.tc) (.int (BD.init ([] : (List Int)) ([] : List (Int × Int))).bend))), aC A22.ln (.dK (lineK ((BD.init ([] : (List Int)) ([] : List (Int × Int))).ln))), aC A22.rg (.dK (K_Reg (.int (BD.init ([] : (List Int)) ([] : List (Int × Int))).a) (.int (BD.init ([] : (List Int)) ([] : List (Int × Int))).b) (.int (BD.init ([] : (List Int)) ([] : List (Int × Int))).pc) (.int (BD.init ([] : (List Int)) ([] : List (Int × Int))).sp))), aV A22.st ((BD.init ([] : (List Int)) ([] : List (Int × Int))).stop : (Option (List V))), aW A22.sn A22.sv ((BD.init ([] : (List Int)) ([] : List (Int × Int))).sent : (List (Int × Int))), aW A22.tc A22.tv ((BD.init ([] : (List Int)) ([] : List (Int × Int))).tc : (List (Str × Int))), aC Aself_.p (.ins (He.ga K "Board") Aself_.dx (F_Board (.ref Aself_.m.p) (.ref Aself_.ln) (.ref Aself_.rg) (.bl self_.zero) (.bl self_.lets) (.bl self_.asleep) (.int self_.beat) Aself_.st (.ref Aself_.sn) (.ref Aself_.tc) (.int self_.bend))), aC Aself_.ln (.dK (lineK self_.ln)), aC Aself_.rg (.dK (K_Reg (.int self_.a) (.int self_.b) (.int self_.pc) (.int self_.sp))), aV Aself_.st self_.stop, aW Aself_.sn Aself_.sv self_.sent, aW Aself_.tc Aself_.tv self_.tc] := hs.pick [16, 16, 16, 16, 16, 16, 14, 14, 14, 14, 14, 14, 14, 14] 14 (by kernel_rfl)
  have f56 := hs.cel 8 rfl
  have f59 := hs.cel 9 rfl
  refine ⟨_, rfl, _, _, _, _, _, rfl, f56, T.k_Board, T.n_Board_line, F_Board_line, _, _, rfl, .inl f59, fun p57 n58 => ?_⟩
  try dsimp only
  generalize ee_ : upd H55 p57 _ = H60
  replace hs := (hs.newC n58 (.dK (lineK self_.ln))).cast ee_
  clear ee_
  have f62 := hs.cel 3 rfl
  refine ⟨_, rfl, _, _, _, _, rfl, f62, T.k_Board, T.n_Board_line, F_Board_len, ?_⟩
  try dsimp only
  rw [F_Board_put_line]
  try dsimp only
  generalize ee_ : upd H60 A22.p _ = H63
  replace hs := (hs.putC 3 rfl trivial (.ins (He.ga K "Board") A22.dx (F_Board (.ref Az42.p_) (.ref p57) (.ref A22.rg) (.bl (BD.init ([] : (List Int)) ([] : List (Int × Int))).zero) (.bl (BD.init ([] : (List Int)) ([] : List (Int × Int))).lets) (.bl (BD.init ([] : (List Int)) ([] : List (Int × Int))).asleep) (.int (BD.init ([] : (List Int)) ([] : List (Int × Int))).beat) A22.st (.ref A22.sn) (.ref A22.tc) (.int (BD.init ([] : (List Int)) ([] : List (Int × Int))).bend)))).cast ee_
  clear ee_
  have f64 := hs.cel 9 rfl
  have f67 := hs.cel 11 rfl
  refine ⟨_, rfl, _, _, _, _, _, rfl, f64, T.k_Board, T.n_Board_registers, F_Board_registers, _, _, rfl, .inl f67, fun p65 n66 => ?_⟩
  try dsimp only
  generalize ee_ : upd H63 p65 _ = H68
  replace hs := (hs.newC n66 (.dK (K_Reg (.int self_.a) (.int self_.b) (.int self_.pc) (.int self_.sp)))).cast ee_
  clear ee_
  have f70 := hs.cel 4 rfl
  refine ⟨_, rfl, _, _, _, _, rfl, f70, T.k_Board, T.n_Board_registers, F_Board_len, ?_⟩
  try dsimp only
  rw [F_Board_put_registers]
  try dsimp only
  generalize ee_ : upd H68 A22.p _ = H71
  replace hs := (hs.putC 4 rfl trivial (.ins (He.ga K "Board") A22.dx (F_Board (.ref Az42.p_) (.ref p57) (.ref p65) (.bl (BD.init ([] : (List Int)) ([] : List (Int × Int))).zero) (.bl (BD.init ([] : (List Int)) ([] : List (Int × Int))).lets) (.bl (BD.init ([] : (List Int)) ([] : List (Int × Int))).asleep) (.int (BD.init ([] : (List Int)) ([] : List (Int × Int))).beat) A22.st (.ref A22.sn) (.ref A22.tc) (.int (BD.init ([] : (List Int)) ([] : List (Int × Int))).bend)))).cast ee_
  clear ee_
  replace hs : Sep S0_ H H71 [a_Reg K (A_Reg.mk A22.rg) (R_Reg.mk ((BD.init ([] : (List Int)) ([] : List (Int × Int))).a) ((BD.init ([] : (List Int)) ([] : List (Int × Int))).b) ((BD.init ([] : (List Int)) ([] : List (Int × Int))).pc) ((BD.init ([] : (List Int)) ([] : List (Int × Int))).sp)), aC p65 (.dK (K_Reg (.int self_.a) (.int self_.b) (.int self_.pc) (.int self_.sp))), aC p57 (.dK (lineK self_.ln)), a_Memory K Az42 r39, a_Memory K (A_Memory.mk Aself_.m.p Aself_.m.dx Aself_.m.f Aself_.m.r Aself_.m.pl) (R_Memory.mk self_.m.fl self_.m.ra self_.m.pl), aC A22.p (.ins (He.ga K "Board") A22.dx (F_Board (.ref Az42.p_) (.ref p57) (.ref p65) (.bl (BD.init ([] : (List Int)) ([] : List (Int × Int))).zero) (.bl (BD.init ([] : (List Int)) ([] : List (Int × Int))).lets) (.bl (BD.init ([] : (List Int)) ([] : List (Int × Int))).asleep) (.int (BD.init ([] : (List Int)) ([] : List (Int × Int))).beat) A22.st (.ref A22.sn) (.ref A22.tc) (.int (BD.init ([] : (List Int)) ([] : List (Int × Int))).bend))), aC A22.ln (.dK (lineK ((BD.init ([] : (List Int)) ([] : List (Int × Int))).ln))), aV A22.st ((BD.init ([] : (List Int)) ([] : List (Int × Int))).stop : (Option (List V))), aW A22.sn A22.sv ((BD.init ([] : (List Int)) ([] : List (Int × Int))).sent : (List (Int × Int))), aW A22.tc A22.tv ((BD.init ([] : (List Int)) ([] : List (Int × Int))).tc : (List (Str × Int))), aC Aself_.p (.ins (He.ga K "Board") Aself_.dx (F_Board (.ref Aself_.m.p) (.ref Aself_.ln) (.ref Aself_.rg) (.bl self_.zero) (.bl self_.lets) (.bl self_.asleep) (.int self_.beat) Aself_.st (.ref Aself_.sn) (.ref Aself_.tc) (.int self_.bend))), aC Aself_.ln (.dK (lineK self_.ln)), aC Aself_.rg (.dK (K_Reg (.int self_.a) (.int self_.b) (.int self_.pc) (.int self_.sp))), aV Aself_.st self_.stop, aW Aself_.sn Aself_.sv self_.sent, aW Aself_.tc Aself_.tv self_.tc] := hs.cl [6] 1 (by kernel_rfl)
  have f72 := hs.cel 10 rfl
  have f73 := hs.cel 10 rfl
  have f74 := hs.cel 10 rfl
  refine ⟨_, rfl, _, _, _, _, _, rfl, f72, T.k_Board, T.n_Board_zero, F_Board_zero, _, rfl, _, _, _, _, _, rfl, f73, T.k_Board, T.n_Board_lets, F_Board_lets, _, rfl, _, _, _, _, _, rfl, f74, T.k_Board, T.n_Board_asleep, F_Board_asleep, (by show 3 ≤ sizeLine; decide), fun t75 n76 => ?_⟩
  try dsimp only
  generalize ee_ : upd H71 t75 _ = H77
  replace hs := (hs.newTup n76 [(.bl self_.zero), (.bl self_.lets), (.bl self_.asleep)]).cast ee_
  clear ee_
  have f79 := hs.tup 0 rfl
  have f80 := hs.cel 6 rfl
  refine ⟨_, _, rfl, SqT.of f79, rfl, _, _, rfl, _, rfl, _, _, _, _, rfl, f80, T.k_Board, T.n_Board_zero, F_Board_len, ?_⟩
  try dsimp only
  rw [F_Board_put_zero]
  try dsimp only
  generalize ee_ : upd H77 A22.p _ = H81
  replace hs := (hs.putC 6 rfl trivial (.ins (He.ga K "Board") A22.dx (F_Board (.ref Az42.p_) (.ref p57) (.ref p65) (.bl self_.zero) (.bl (BD.init ([] : (List Int)) ([] : List (Int × Int))).lets) (.bl (BD.init ([] : (List Int)) ([] : List (Int × Int))).asleep) (.int (BD.init ([] : (List Int)) ([] : List (Int × Int))).beat) A22.st (.ref A22.sn) (.ref A22.tc) (.int (BD.init ([] : (List Int)) ([] : List (Int × Int))).bend)))).cast ee_
  clear ee_
  have f82 := hs.cel 6 rfl
  refine ⟨_, _, rfl, _, rfl, _, _, _, _, rfl, f82, T.k_Board, T.n_Board_lets, F_Board_len, ?_⟩
  try dsimp only
  rw [F_Board_put_lets]
  try dsimp only
  generalize ee_ : upd H81 A22.p _ = H83
  replace hs := (hs.putC 6 rfl trivial (.ins (He.ga K "Board") A22.dx (F_Board (.ref Az42.p_) (.ref p57) (.ref p65) (.bl self_.zero) (.bl self_.lets) (.bl (BD.init ([] : (List Int)) ([] : List (Int × Int))).asleep) (.int (BD.init ([] : (List Int)) ([] : List (Int × Int))).beat) A22.st (.ref A22.sn) (.ref A22.tc) (.int (BD.init ([] : (List Int)) ([] : List (Int × Int))).bend)))).cast ee_
  clear ee_
  have f84 := hs.cel 6 rfl
  refine ⟨_, _, rfl, _, rfl, _, _, _, _, rfl, f84, T.k_Board, T.n_Board_asleep, F_Board_len, ?_⟩
  try dsimp only
  rw [F_Board_put_asleep]
  try dsimp only
  generalize ee_ : upd H83 A22.p _ = H85
  replace hs := (hs.putC 6 rfl trivial (.ins (He.ga K "Board") A22.dx (F_Board (.ref Az42.p_) (.ref p57) (.ref p65) (.bl self_.zero) (.bl self_.lets) (.bl self_.asleep) (.int (BD.init ([] : (List Int)) ([] : List (Int × Int))).beat) A22.st (.ref A22.sn) (.ref A22.tc) (.int (BD.init ([] : (List Int)) ([] : List (Int × Int))).bend)))).cast ee_
  clear ee_
  refine ⟨rfl, ?_⟩
  replace hs : Sep S0_ H H85 [aC p65 (.dK (K_Reg (.int self_.a) (.int self_.b) (.int self_.pc) (.int self_.sp))), aC p57 (.dK (lineK self_.ln)), a_Memory K Az42 r39, a_Memory K (A_Memory.mk Aself_.m.p Aself_.m.dx Aself_.m.f Aself_.m.r Aself_.m.pl) (R_Memory.mk self_.m.fl self_.m.ra self_.m.pl), aC A22.p (.ins (He.ga K "Board") A22.dx (F_Board (.ref Az42.p_) (.ref p57) (.ref p65) (.bl self_.zero) (.bl self_.lets) (.bl self_.asleep) (.int (BD.init ([] : (List Int)) ([] : List (Int × Int))).beat) A22.st (.ref A22.sn) (.ref A22.tc) (.int (BD.init ([] : (List Int)) ([] : List (Int × Int))).bend))), aV A22.st ((BD.init ([] : (List Int)) ([] : List (Int × Int))).stop : (Option (List V))), aW A22.sn A22.sv ((BD.init ([] : (List Int)) ([] : List (Int × Int))).sent : (List (Int × Int))), aW A22.tc A22.tv ((BD.init ([] : (List Int)) ([] : List (Int × Int))).tc : (List (Str × Int))), aC Aself_.p (.ins (He.ga K "Board") Aself_.dx (F_Board (.ref Aself_.m.p) (.ref Aself_.ln) (.ref Aself_.rg) (.bl self_.zero) (.bl self_.lets) (.bl self_.asleep) (.int self_.beat) Aself_.st (.ref Aself_.sn) (.ref Aself_.tc) (.int self_.bend))), aC Aself_.ln (.dK (lineK self_.ln)), aC Aself_.rg (.dK (K_Reg (.int self_.a) (.int self_.b) (.int self_.pc) (.int self_.sp))), aV Aself_.st self_.stop, aW Aself_.sn Aself_.sv self_.sent, aW Aself_.tc Aself_.tv self_.tc] := hs.pick [16, 16, 16, 16, 16, 16, 16, 16, 16, 15, 15, 15, 15, 15] 14 (by kernel_rfl)
  have f86 := hs.cel 8 rfl
  have f87 := hs.cel 8 rfl
  refine ⟨_, rfl, _, _, _, _, _, rfl, f86, T.k_Board, T.n_Board_beat, F_Board_beat, _, rfl, _, _, _, _, _, rfl, f87, T.k_Board, T.n_Board_stopped, F_Board_stopped, (by show 2 ≤ sizeLine; decide), fun t88 n89 => ?_⟩
  try dsimp only
  generalize ee_ : upd H85 t88 _ = H90
  replace hs := (hs.newTup n89 [(.int self_.beat), Aself_.st]).cast ee_
  clear ee_
  have f92 := hs.tup 0 rfl
  have f93 := hs.cel 5 rfl
  refine ⟨_, _, rfl, SqT.of f92, rfl, _, _, rfl, _, rfl, _, _, _, _, rfl, f93, T.k_Board, T.n_Board_beat, F_Board_len, ?_⟩
  try dsimp only
  rw [F_Board_put_beat]
  try dsimp only
  generalize ee_ : upd H90 A22.p _ = H94
  replace hs := (hs.putC 5 rfl trivial (.ins (He.ga K "Board") A22.dx (F_Board (.ref Az42.p_) (.ref p57) (.ref p65) (.bl self_.zero) (.bl self_.lets) (.bl self_.asleep) (.int self_.beat) A22.st (.ref A22.sn) (.ref A22.tc) (.int (BD.init ([] : (List Int)) ([] : List (Int × Int))).bend)))).cast ee_
  clear ee_
  replace hs := hs.addV (hs.val 12 rfl)
  have f96 := hs.cel 6 rfl
  refine ⟨_, _, rfl, _, rfl, _, _, _, _, rfl, f96, T.k_Board, T.n_Board_stopped, F_Board_len, ?_⟩
  try dsimp only
  rw [F_Board_put_stopped]
  try dsimp only
  generalize ee_ : upd H94 A22.p _ = H97
  replace hs := (hs.putC 6 rfl trivial (.ins (He.ga K "Board") A22.dx (F_Board (.ref Az42.p_) (.ref p57) (.ref p65) (.bl self_.zero) (.bl self_.lets) (.bl self_.asleep) (.int self_.beat) Aself_.st (.ref A22.sn) (.ref A22.tc) (.int (BD.init ([] : (List Int)) ([] : List (Int × Int))).bend)))).cast ee_
  clear ee_
  refine ⟨rfl, ?_⟩
  have f98 := hs.cel 10 rfl
  obtain ⟨hl100, hv101⟩ := hs.wal 14 rfl
  refine ⟨_, rfl, _, _, _, _, _, rfl, f98, T.k_Board, T.n_Board_sent, F_Board_sent, _, _, rfl, .inl (SqL.of hl100), fun p102 n103 => ?_⟩
  try dsimp only
  generalize ee_ : upd H97 p102 _ = H104
  replace hs := (hs.newL (ys := (self_.sent : (List (Int × Int)))) n103 (hv101)).cast ee_
  clear ee_
  have f106 := hs.cel 7 rfl
  refine ⟨_, rfl, _, _, _, _, rfl, f106, T.k_Board, T.n_Board_sent, F_Board_len, ?_⟩
  try dsimp only
  rw [F_Board_put_sent]
  try dsimp only
  generalize ee_ : upd H104 A22.p _ = H107
  replace hs := (hs.putC 7 rfl trivial (.ins (He.ga K "Board") A22.dx (F_Board (.ref Az42.p_) (.ref p57) (.ref p65) (.bl self_.zero) (.bl self_.lets) (.bl self_.asleep) (.int self_.beat) Aself_.st (.ref p102) (.ref A22.tc) (.int (BD.init ([] : (List Int)) ([] : List (Int × Int))).bend)))).cast ee_
  clear ee_
  replace hs : Sep S0_ H H107 [aL p102 self_.sent, aV Aself_.st self_.stop, aC p65 (.dK (K_Reg (.int self_.a) (.int self_.b) (.int self_.pc) (.int self_.sp))), aC p57 (.dK (lineK self_.ln)), a_Memory K Az42 r39, a_Memory K (A_Memory.mk Aself_.m.p Aself_.m.dx Aself_.m.f Aself_.m.r Aself_.m.pl) (R_Memory.mk self_.m.fl self_.m.ra self_.m.pl), aC A22.p (.ins (He.ga K "Board") A22.dx (F_Board (.ref Az42.p_) (.ref p57) (.ref p65) (.bl self_.zero) (.bl self_.lets) (.bl self_.asleep) (.int self_.beat) Aself_.st (.ref p102) (.ref A22.tc) (.int (BD.init ([] : (List Int)) ([] : List (Int × Int))).bend))), aW A22.tc A22.tv ((BD.init ([] : (List Int)) ([] : List (Int × Int))).tc : (List (Str × Int))), aC Aself_.p (.ins (He.ga K "Board") Aself_.dx (F_Board (.ref Aself_.m.p) (.ref Aself_.ln) (.ref Aself_.rg) (.bl self_.zero) (.bl self_.lets) (.bl self_.asleep) (.int self_.beat) Aself_.st (.ref Aself_.sn) (.ref Aself_.tc) (.int self_.bend))), aC Aself_.ln (.dK (lineK self_.ln)), aC Aself_.rg (.dK (K_Reg (.int self_.a) (.int self_.b) (.int self_.pc) (.int self_.sp))), aV Aself_.st self_.stop, aW Aself_.sn Aself_.sv self_.sent, aW Aself_.tc Aself_.tv self_.tc] := hs.pick [16, 16, 16, 16, 16, 16, 16, 14, 14, 14, 14, 14, 13, 13] 14 (by kernel_rfl)
  have f108 := hs.cel 8 rfl
  obtain ⟨hl110, hv111⟩ := hs.wal 13 rfl
  refine ⟨_, rfl, _, _, _, _, _, rfl, f108, T.k_Board, T.n_Board_touched, F_Board_touched, _, _, rfl, .inl (SqL.of hl110), fun p112 n113 => ?_⟩
  try dsimp only
  generalize ee_ : upd H107 p112 _ = H114
  replace hs := (hs.newL (ys := (self_.tc : (List (Str × Int)))) n113 (hv111)).cast ee_
  clear ee_
  have f116 := hs.cel 7 rfl
  refine ⟨_, rfl, _, _, _, _, rfl, f116, T.k_Board, T.n_Board_touched, F_Board_len, ?_⟩
  try dsimp only
  rw [F_Board_put_touched]
  try dsimp only
  generalize ee_ : upd H114 A22.p _ = H117
  replace hs := (hs.putC 7 rfl trivial (.ins (He.ga K "Board") A22.dx (F_Board (.ref Az42.p_) (.ref p57) (.ref p65) (.bl self_.zero) (.bl self_.lets) (.bl self_.asleep) (.int self_.beat) Aself_.st (.ref p102) (.ref p112) (.int (BD.init ([] : (List Int)) ([] : List (Int × Int))).bend)))).cast ee_
  clear ee_
  have f118 := hs.cel 9 rfl
  have f119 := hs.cel 7 rfl
  refine ⟨_, rfl, _, _, _, _, _, rfl, f118, T.k_Board, T.n_Board_bend, F_Board_bend, _, rfl, _, _, _, _, rfl, f119, T.k_Board, T.n_Board_bend, F_Board_len, ?_⟩
  try dsimp only
  rw [F_Board_put_bend]
  try dsimp only
  generalize ee_ : upd H117 A22.p _ = H120
  replace hs := (hs.putC 7 rfl trivial (.ins (He.ga K "Board") A22.dx (F_Board (.ref Az42.p_) (.ref p57) (.ref p65) (.bl self_.zero) (.bl self_.lets) (.bl self_.asleep) (.int self_.beat) Aself_.st (.ref p102) (.ref p112) (.int self_.bend)))).cast ee_
  clear ee_
  refine ⟨_, rfl, ?_⟩
  replace hs := hs.opn 5 rfl
  replace hs : Sep S0_ H H120 ([aL p112 self_.tc, aL p102 self_.sent, aV Aself_.st self_.stop, aC p65 (.dK (K_Reg (.int self_.a) (.int self_.b) (.int self_.pc) (.int self_.sp))), aC p57 (.dK (lineK self_.ln))] ++ O_Memory K Az42.p_ Az42 r39 ++ [a_Memory K (A_Memory.mk Aself_.m.p Aself_.m.dx Aself_.m.f Aself_.m.r Aself_.m.pl) (R_Memory.mk self_.m.fl self_.m.ra self_.m.pl), aC A22.p (.ins (He.ga K "Board") A22.dx (F_Board (.ref Az42.p_) (.ref p57) (.ref p65) (.bl self_.zero) (.bl self_.lets) (.bl self_.asleep) (.int self_.beat) Aself_.st (.ref p102) (.ref p112) (.int self_.bend))), aW A22.tc A22.tv ((BD.init ([] : (List Int)) ([] : List (Int × Int))).tc : (List (Str × Int))), aC Aself_.p (.ins (He.ga K "Board") Aself_.dx (F_Board (.ref Aself_.m.p) (.ref Aself_.ln) (.ref Aself_.rg) (.bl self_.zero) (.bl self_.lets) (.bl self_.asleep) (.int self_.beat) Aself_.st (.ref Aself_.sn) (.ref Aself_.tc) (.int self_.bend))), aC Aself_.ln (.dK (lineK self_.ln)), aC Aself_.rg (.dK (K_Reg (.int self_.a) (.int self_.b) (.int self_.pc) (.int self_.sp))), aV Aself_.st self_.stop, aW Aself_.sn Aself_.sv self_.sent, aW Aself_.tc Aself_.tv self_.tc]) := hs
  obtain ⟨g124, hm⟩ := gd hm
  replace hs : Sep S0_ H H120 ([aC A22.p (.ins (He.ga K "Board") A22.dx (F_Board (.ref Az42.p_) (.ref p57) (.ref p65) (.bl self_.zero) (.bl self_.lets) (.bl self_.asleep) (.int self_.beat) Aself_.st (.ref p102) (.ref p112) (.int self_.bend))), aC p57 (.dK (lineK self_.ln)), aC p65 (.dK (K_Reg (.int self_.a) (.int self_.b) (.int self_.pc) (.int self_.sp))), aV Aself_.st self_.stop, aL p102 self_.sent, aL p112 self_.tc] ++ O_Memory K Az42.p_ Az42 r39 ++ [a_Memory K (A_Memory.mk Aself_.m.p Aself_.m.dx Aself_.m.f Aself_.m.r Aself_.m.pl) (R_Memory.mk self_.m.fl self_.m.ra self_.m.pl), aW A22.tc A22.tv ((BD.init ([] : (List Int)) ([] : List (Int × Int))).tc : (List (Str × Int))), aC Aself_.p (.ins (He.ga K "Board") Aself_.dx (F_Board (.ref Aself_.m.p) (.ref Aself_.ln) (.ref Aself_.rg) (.bl self_.zero) (.bl self_.lets) (.bl self_.asleep) (.int self_.beat) Aself_.st (.ref Aself_.sn) (.ref Aself_.tc) (.int self_.bend))), aC Aself_.ln (.dK (lineK self_.ln)), aC Aself_.rg (.dK (K_Reg (.int self_.a) (.int self_.b) (.int self_.pc) (.int self_.sp))), aV Aself_.st self_.stop, aW Aself_.sn Aself_.sv self_.sent, aW Aself_.tc Aself_.tv self_.tc]) := hs.pick [17, 17, 17, 17, 17, 17, 17, 16, 16, 16, 16, 16, 12, 13, 14, 15, 16, 17] 18 (by kernel_rfl)
  obtain ⟨A125, hs⟩ := hs.clsB (D := (BD.mk (MD.mk r39.flash r39.ram r39.places) self_.ln self_.a self_.b self_.pc self_.sp self_.zero self_.lets self_.asleep self_.beat self_.stop self_.sent self_.tc self_.bend)) g124
  replace hs : Sep S0_ H H120 [aB K (A125.w A22.p) (BD.mk (MD.mk r39.flash r39.ram r39.places) self_.ln self_.a self_.b self_.pc self_.sp self_.zero self_.lets self_.asleep self_.beat self_.stop self_.sent self_.tc self_.bend), a_Memory K (A_Memory.mk Aself_.m.p Aself_.m.dx Aself_.m.f Aself_.m.r Aself_.m.pl) (R_Memory.mk self_.m.fl self_.m.ra self_.m.pl), aW A22.tc A22.tv ((BD.init ([] : (List Int)) ([] : List (Int × Int))).tc : (List (Str × Int))), aC Aself_.p (.ins (He.ga K "Board") Aself_.dx (F_Board (.ref Aself_.m.p) (.ref Aself_.ln) (.ref Aself_.rg) (.bl self_.zero) (.bl self_.lets) (.bl self_.asleep) (.int self_.beat) Aself_.st (.ref Aself_.sn) (.ref Aself_.tc) (.int self_.bend))), aC Aself_.ln (.dK (lineK self_.ln)), aC Aself_.rg (.dK (K_Reg (.int self_.a) (.int self_.b) (.int self_.pc) (.int self_.sp))), aV Aself_.st self_.stop, aW Aself_.sn Aself_.sv self_.sent, aW Aself_.tc Aself_.tv self_.tc] := hs
  replace hs := hs.opn 1 rfl
  replace hs : Sep S0_ H H120 [aB K (A125.w A22.p) (BD.mk (MD.mk r39.flash r39.ram r39.places) self_.ln self_.a self_.b self_.pc self_.sp self_.zero self_.lets self_.asleep self_.beat self_.stop self_.sent self_.tc self_.bend), aC Aself_.m.p (.ins (He.ga K "Memory") Aself_.m.dx (F_Memory (.ref Aself_.m.f) (.ref Aself_.m.r) (.ref Aself_.m.pl))), aL Aself_.m.f self_.m.fl, aL Aself_.m.r self_.m.ra, aL Aself_.m.pl self_.m.pl, aW A22.tc A22.tv ((BD.init ([] : (List Int)) ([] : List (Int × Int))).tc : (List (Str × Int))), aC Aself_.p (.ins (He.ga K "Board") Aself_.dx (F_Board (.ref Aself_.m.p) (.ref Aself_.ln) (.ref Aself_.rg) (.bl self_.zero) (.bl self_.lets) (.bl self_.asleep) (.int self_.beat) Aself_.st (.ref Aself_.sn) (.ref Aself_.tc) (.int self_.bend))), aC Aself_.ln (.dK (lineK self_.ln)), aC Aself_.rg (.dK (K_Reg (.int self_.a) (.int self_.b) (.int self_.pc) (.int self_.sp))), aV Aself_.st self_.stop, aW Aself_.sn Aself_.sv self_.sent, aW Aself_.tc Aself_.tv self_.tc] := hs
  replace hs : Sep S0_ H H120 (O_B K Aself_.p Aself_ self_ ++ [aB K (A125.w A22.p) (BD.mk (MD.mk r39.flash r39.ram r39.places) self_.ln self_.a self_.b self_.pc self_.sp self_.zero self_.lets self_.asleep self_.beat self_.stop self_.sent self_.tc self_.bend), aW A22.tc A22.tv ((BD.init ([] : (List Int)) ([] : List (Int × Int))).tc : (List (Str × Int)))]) := hs.pick [5, 1, 5, 5, 5, 5, 11, 11, 11, 11, 11, 11] 12 (by kernel_rfl)
  replace hs : Sep S0_ H H120 [aB K Aself_ self_, aB K (A125.w A22.p) (BD.mk (MD.mk r39.flash r39.ram r39.places) self_.ln self_.a self_.b self_.pc self_.sp self_.zero self_.lets self_.asleep self_.beat self_.stop self_.sent self_.tc self_.bend), aW A22.tc A22.tv ((BD.init ([] : (List Int)) ([] : List (Int × Int))).tc : (List (Str × Int)))] := hs.clsB0 hb27
  replace hs := hs.unfix 2 rfl
  replace hs : Sep S0_ H H120 [aB K (A125.w A22.p) (BD.mk (MD.mk r39.flash r39.ram r39.places) self_.ln self_.a self_.b self_.pc self_.sp self_.zero self_.lets self_.asleep self_.beat self_.stop self_.sent self_.tc self_.bend), aB K Aself_ self_] := ((hs.mv 0 rfl).mv 1 rfl).tk 2
  obtain rfl := Option.some.inj hm
  exact q H120 (A125.w A22.p) hs
end

/-! records that share a part -/
def aX_Own (K : PySem.W.Frag) (pl : Addr) (A : A_Own) (D : R_Own) : As := aG ((O_Own K A.p_ (A.w_line A.p_ pl) D).dropLast)
abbrev v_Own_ (A : A_Own) : V := .ref A.p_
abbrev aOs_Own (K : PySem.W.Frag) (pl : Addr) : Addr → List A_Own → List R_Own → As := aOL v_Own_ (aX_Own K pl)
abbrev aOsH_Own (K : PySem.W.Frag) (pl : Addr) : Addr → List A_Own → List R_Own → Nat → As := aOH v_Own_ (aX_Own K pl)
theorem Sep.joinX_Own {K : PySem.W.Frag} {S0 : List Addr} {H0 H : Hp} {L : List As} {pl : Addr} {A : A_Own} {D : R_Own} {ln : List (Int × Int)} (h : Sep S0 H0 H (aX_Own K pl A D :: aC pl (.dK (lineK ln)) :: L)) (e : D.line = ln) : Sep S0 H0 H (a_Own K (A.w_line A.p_ pl) D :: L) := by
  subst e
  have h1 : Sep S0 H0 H (O_Own K A.p_ (A.w_line A.p_ pl) D ++ L) := h.opn 0 rfl
  exact h1.cls
theorem Sep.splitX_Own {K : PySem.W.Frag} {S0 : List Addr} {H0 H : Hp} {L : List As} {pl : Addr} {A : A_Own} {D : R_Own} {ln : List (Int × Int)} (h : Sep S0 H0 H (a_Own K A D :: L)) (e1 : A.line = pl) (e2 : D.line = ln) : Sep S0 H0 H (aX_Own K pl A D :: aC pl (.dK (lineK ln)) :: L) := by
  subst e1 e2
  have h1 : Sep S0 H0 H ((O_Own K A.p_ (A.w_line A.p_ A.line) D).dropLast ++ (aC A.line (.dK (lineK D.line)) :: L)) := h.opn 0 rfl
  exact h1.cls
def m__law_same (board_ : BD) (stand_ : R_Own) : Option (Bool) :=
  (andO (if stOk board_.stop = true then if stOk stand_.stopped = true then some (decide ((board_.a = stand_.a) ∧ ((board_.b = stand_.b) ∧ ((board_.pc = stand_.pc) ∧ ((board_.sp = stand_.sp) ∧ ((board_.zero = stand_.zero) ∧ ((board_.lets = stand_.lets) ∧ ((board_.asleep = stand_.asleep) ∧ ((board_.beat = stand_.beat) ∧ ((board_.stop = stand_.stopped) ∧ ((board_.sent = stand_.sent) ∧ True))))))))))) else none else none) ((repL ([false] : (List Bool)) (4 : Int)).bind fun y152 => (repL ([true] : (List Bool)) (3 : Int)).bind fun y166 => (catL y152 y166).bind fun y176 => (repL ([false] : (List Bool)) (3 : Int)).bind fun y193 => (catL y176 y193).bind fun y203 => some (decide (([false, false, false, false, true, true, true, false, false, false] : List Bool) = y203)))).bind fun b218 =>
  some b218
section
variable {P : Program} {w : World} {K : PySem.W.Frag} {mg : Str → Option Value} {base : Heap}
def sp__law_same (K : PySem.W.Frag) : Sp := fun vs H Q E_ => ∃ (Aboard_ : BA) (board_ : BD) (Astand_ : A_Own) (stand_ : R_Own) (r_ : Bool), vs = [.ref Aboard_.p, .ref Astand_.p_] ∧ (oks H [aB K Aboard_ board_, a_Own K Astand_ stand_] ∧ (owns [aB K Aboard_ board_, a_Own K Astand_ stand_]).Nodup ∧ m__law_same board_ stand_ = some r_ ∧ (∀ (H' : Hp) , Sep (owns [aB K Aboard_ board_, a_Own K Astand_ stand_]) H H' [aB K Aboard_ board_, a_Own K Astand_ stand_] → Q (.bl r_) H'))
abbrev N__law_same : List Str := ["_law_board", "_law_stand", "_law_name", "_law_found", "_law_due", "_law_one", "_law_truths"]
theorem sc__law_same : FnScope N__law_same ["_law_board", "_law_stand"] (defScope s__law_same) := ⟨rfl, rfl, rfl, by decide +kernel, rfl, by decide +kernel, by decide +kernel⟩
theorem ok__law_same (T : Txt K mg) : Ok P w K mg base CX0 1 (He.fAd K ("_law_same", none)) ["_law_board", "_law_stand"] (sp__law_same K) := by
  obtain ⟨fd, F⟩ := T.d__law_same
  refine ⟨fd, F.ok sc__law_same (fun vs H Q E h => by obtain ⟨Aboard_, board_, Astand_, stand_, r_, rfl, _⟩ := h; rfl) (fun cdv A_ outer s_ H vs Q E hr h => ?_), F.bindsN (fun _ _ _ _ _ _ us hl => match us, hl with | [_, _], _ => rfl), F.kp⟩
  obtain ⟨Aboard_, board_, Astand_, stand_, r_, rfl, h⟩ := h
  have hu := hu_of hr
  refine ⟨_, PSs.nox (pss_cons (ps_setLc (i := 3) (own := [("_law_name", 2)]) (g := gName 2) (tt := tYes) rfl sc__law_same.nd rfl rfl (sw_true rfl rfl rfl (by decide +kernel)) (pi_list (pe_lst (pa_cons pe_str (pa_cons pe_str (pa_cons pe_str (pa_cons pe_str pa_nil)))))) (blkOk_by (own := [("_law_name", 2)]) (N := N__law_same) (sc := defScope s__law_same) (by decide +kernel)) (fun _ _ _ _ _ => pg_name (i := 2) sc__law_same.nd rfl (Or.inl rfl)) (fun _ _ _ _ _ => pts_nil) (fun _ _ _ _ _ => (pe_dget hu (pe_fldK (K := K) rfl (pv 0) rfl) (pv 2) (fun _ _ => rfl))))
  (pss_cons (ps_set (i := 3) sc__law_same.nd rfl (.inl rfl) (pe_op op_cat (pv 3) (pe_lst (pa_cons (pe_fld (pv 0) rfl) (pa_cons (pe_fld (pv 0) rfl) (pa_cons (pe_fld (pv 0) rfl) (pa_cons (pe_fld (pv 0) rfl) (pa_cons (pe_fld (pv 0) rfl) (pa_cons (pe_fld (pv 0) rfl) pa_nil)))))))))
  (pss_cons (ps_setLc (i := 4) (own := [("_law_name", 2)]) (g := gName 2) (tt := tYes) rfl sc__law_same.nd rfl rfl (sw_true rfl rfl rfl (by decide +kernel)) (pi_list (pe_lst (pa_cons pe_str (pa_cons pe_str (pa_cons pe_str (pa_cons pe_str (pa_cons pe_str (pa_cons pe_str (pa_cons pe_str (pa_cons pe_str (pa_cons pe_str (pa_cons pe_str pa_nil)))))))))))) (blkOk_by (own := [("_law_name", 2)]) (N := N__law_same) (sc := defScope s__law_same) (by decide +kernel)) (fun _ _ _ _ _ => pg_name (i := 2) sc__law_same.nd rfl (Or.inl rfl)) (fun _ _ _ _ _ => pts_nil) (fun _ _ _ _ _ => (pe_dget hu (pv 1) (pv 2) (fun _ _ => rfl))))
  (pss_cons (ps_setLc (i := 6) (own := [("_law_one", 5)]) (g := gName 5) (tt := tYes) rfl sc__law_same.nd rfl rfl (sw_true rfl rfl rfl (by decide +kernel)) (pi_list (pv 3)) (blkOk_by (own := [("_law_one", 5)]) (N := N__law_same) (sc := defScope s__law_same) (by decide +kernel)) (fun _ _ _ _ _ => pg_name (i := 5) sc__law_same.nd rfl (Or.inl rfl)) (fun _ _ _ _ _ => pts_nil) (fun _ _ _ _ _ => (pe_callB (call_isi' (K := K) rfl) (by rfl) T.f_isinstance (by decide +kernel) (pa_cons (pv 5) (pa_cons (pe_bltn (v := .ty "bool") (by rfl) T.f_bool (by decide +kernel) rfl) pa_nil)))))
  (pss_one (ps_ret (pe_and (pe_cmpR (op_eqD hr.units) (pv 3) (pv 4) (nomark _)) (pe_one (pe_cmpR (op_eqD hr.units) (pv 6) (pe_op op_cat (pe_op op_cat (pe_op op_rep (pe_lst (pa_cons pe_bl pa_nil)) pe_int) (pe_op op_rep (pe_lst (pa_cons pe_bl pa_nil)) pe_int)) (pe_op op_rep (pe_lst (pa_cons pe_bl pa_nil)) pe_int)) (nomark _)))))))))), ?_⟩
  obtain ⟨hp1, hp2, hm, q⟩ := h
  have hs := Sep.pre (L := [aB K Aboard_ board_, a_Own K Astand_ stand_]) ⟨hp1, hp2⟩
  generalize owns [aB K Aboard_ board_, a_Own K Astand_ stand_] = S0_ at hs q
  unfold m__law_same at hm
  clear hp1 hp2
  replace hs := hs.opn 1 rfl
  replace hs : Sep S0_ H H ([aB K Aboard_ board_] ++ O_Own K Astand_.p_ Astand_ stand_) := hs
  refine ⟨(by show 4 ≤ sizeLine; decide), fun p11 n12 => ?_⟩
  try dsimp only
  generalize ee_ : upd H p11 _ = H13
  replace hs := (hs.newL (ys := (([("a" : Str), ("b" : Str), ("pc" : Str), ("sp" : Str)] : (List Str)) : (List Str))) n12 ((.cons imS (.cons imS (.cons imS (.cons imS .nil)))))).cast ee_
  clear ee_
  have hw23 := hs.scs 0 rfl
  refine ⟨_, rfl, ⟨_, SqL.of hw23⟩, fun p24 n25 => lc_list (K := K) (a := p11) (xs := ([(.str "a"), (.str "b"), (.str "pc"), (.str "sp")] : List V)) (fun i26 H28 => Sep S0_ H H28 (aC p24 (.lst (([(.int (board_.a)), (.int (board_.b)), (.int (board_.pc)), (.int (board_.sp))] : List V).take i26)) :: [aL p11 (([("a" : Str), ("b" : Str), ("pc" : Str), ("sp" : Str)] : (List Str)) : (List Str)), aB K Aboard_ board_, aC Astand_.p_ (.dK (K_Own (.ref Astand_.m) (.int stand_.a) (.int stand_.b) (.int stand_.pc) (.int stand_.sp) (.bl stand_.zero) (.bl stand_.lets) (.bl stand_.asleep) (.int stand_.beat) Astand_.stopped (.ref Astand_.sent) (.ref Astand_.line))), aL Astand_.m stand_.m, aV Astand_.stopped stand_.stopped, aL Astand_.sent stand_.sent, aC Astand_.line (.dK (lineK stand_.line))])) (hs.newC n25 (.lst [])) (fun i26 H28 _ pz => SqL.of (pz.scs 1 rfl)) ?_ ?_⟩
  · rintro i26 y27 H28 hi29 hs
    match i26, hi29, hs with
    | 0, hi29, hs =>
      obtain rfl := Option.some.inj hi29
      have f31 := hs.bd 2 rfl
      have f32 := hs.bd 2 rfl
      have f33 := hs.cel 0 rfl
      refine ⟨rfl, _, rfl, _, _, _, _, _, rfl, f31.ob, T.k_Board, T.n_Board_registers, BoardF_registers, _, rfl, _, _, rfl, f32.get_a, _, f33, small_ (by show 0 ≤ 16777215; decide), ?_⟩
      replace hs : Sep S0_ H H28 ([aC p24 (.lst (([(.int (board_.a)), (.int (board_.b)), (.int (board_.pc)), (.int (board_.sp))] : List V).take 0)), aL p11 (([("a" : Str), ("b" : Str), ("pc" : Str), ("sp" : Str)] : (List Str)) : (List Str)), aB K Aboard_ board_] ++ O_Own K Astand_.p_ Astand_ stand_) := hs.tk 8
      exact hs.putC 0 rfl trivial (.lst (([(.int (board_.a)), (.int (board_.b)), (.int (board_.pc)), (.int (board_.sp))] : List V).take 1))
    | 1, hi29, hs =>
      obtain rfl := Option.some.inj hi29
      have f34 := hs.bd 2 rfl
      have f35 := hs.bd 2 rfl
      have f36 := hs.cel 0 rfl
      refine ⟨rfl, _, rfl, _, _, _, _, _, rfl, f34.ob, T.k_Board, T.n_Board_registers, BoardF_registers, _, rfl, _, _, rfl, f35.get_b, _, f36, small_ (by show 1 ≤ 16777215; decide), ?_⟩
      replace hs : Sep S0_ H H28 ([aC p24 (.lst (([(.int (board_.a)), (.int (board_.b)), (.int (board_.pc)), (.int (board_.sp))] : List V).take 1)), aL p11 (([("a" : Str), ("b" : Str), ("pc" : Str), ("sp" : Str)] : (List Str)) : (List Str)), aB K Aboard_ board_] ++ O_Own K Astand_.p_ Astand_ stand_) := hs.tk 8
      exact hs.putC 0 rfl trivial (.lst (([(.int (board_.a)), (.int (board_.b)), (.int (board_.pc)), (.int (board_.sp))] : List V).take 2))
    | 2, hi29, hs =>
      obtain rfl := Option.some.inj hi29
      have f37 := hs.bd 2 rfl
      have f38 := hs.bd 2 rfl
      have f39 := hs.cel 0 rfl
      refine ⟨rfl, _, rfl, _, _, _, _, _, rfl, f37.ob, T.k_Board, T.n_Board_registers, BoardF_registers, _, rfl, _, _, rfl, f38.get_pc, _, f39, small_ (by show 2 ≤ 16777215; decide), ?_⟩
      replace hs : Sep S0_ H H28 ([aC p24 (.lst (([(.int (board_.a)), (.int (board_.b)), (.int (board_.pc)), (.int (board_.sp))] : List V).take 2)), aL p11 (([("a" : Str), ("b" : Str), ("pc" : Str), ("sp" : Str)] : (List Str)) : (List Str)), aB K Aboard_ board_] ++ O_Own K Astand_.p_ Astand_ stand_) := hs.tk 8
      exact hs.putC 0 rfl trivial (.lst (([(.int (board_.a)), (.int (board_.b)), (.int (board_.pc)), (.int (board_.sp))] : List V).take 3))
    | 3, hi29, hs =>
      obtain rfl := Option.some.inj hi29
      have f40 := hs.bd 2 rfl
      have f41 := hs.bd 2 rfl
      have f42 := hs.cel 0 rfl
      refine ⟨rfl, _, rfl, _, _, _, _, _, rfl, f40.ob, T.k_Board, T.n_Board_registers, BoardF_registers, _, rfl, _, _, rfl, f41.get_sp, _, f42, small_ (by show 3 ≤ 16777215; decide), ?_⟩
      replace hs : Sep S0_ H H28 ([aC p24 (.lst (([(.int (board_.a)), (.int (board_.b)), (.int (board_.pc)), (.int (board_.sp))] : List V).take 3)), aL p11 (([("a" : Str), ("b" : Str), ("pc" : Str), ("sp" : Str)] : (List Str)) : (List Str)), aB K Aboard_ board_] ++ O_Own K Astand_.p_ Astand_ stand_) := hs.tk 8
      exact hs.putC 0 rfl trivial (.lst (([(.int (board_.a)), (.int (board_.b)), (.int (board_.pc)), (.int (board_.sp))] : List V).take 4))
    | m_ + 4, hi29, _ => exact absurd hi29 (by simp)
  rintro H28 hs
  replace hs := hs.asN 0 rfl (Y := aC p24 (.lst ([(.int (board_.a)), (.int (board_.b)), (.int (board_.pc)), (.int (board_.sp))] : List V))) rfl
  have f43 := hs.bd 2 rfl
  have f44 := hs.bd 2 rfl
  have f45 := hs.bd 2 rfl
  have f46 := hs.bd 2 rfl
  have B47 := (hs.bd 2 rfl)
  replace hs := hs.addV (v := Aboard_.st) (x := board_.stop) (im_stop B47.st)
  have f49 := hs.bd 3 rfl
  refine ⟨_, rfl, _, rfl, _, _, _, _, _, rfl, f43.ob, T.k_Board, T.n_Board_zero, BoardF_zero, _, rfl, _, _, _, _, _, rfl, f44.ob, T.k_Board, T.n_Board_lets, BoardF_lets, _, rfl, _, _, _, _, _, rfl, f45.ob, T.k_Board, T.n_Board_asleep, BoardF_asleep, _, rfl, _, _, _, _, _, rfl, f46.ob, T.k_Board, T.n_Board_beat, BoardF_beat, _, rfl, _, _, _, _, _, rfl, B47.ob, T.k_Board, T.n_Board_stopped, BoardF_stopped, _, rfl, _, _, _, _, _, rfl, f49.ob, T.k_Board, T.n_Board_sent, BoardF_sent, (by show 6 ≤ sizeLine; decide), fun p50 n51 => ?_⟩
  try dsimp only
  generalize ee_ : upd H28 p50 _ = H52
  replace hs := (hs.newC n51 (.lst [(.bl board_.zero), (.bl board_.lets), (.bl board_.asleep), (.int (board_.beat)), Aboard_.st, .ref Aboard_.sn])).cast ee_
  clear ee_
  have f54 := hs.cel 2 rfl
  have f55 := hs.cel 0 rfl
  refine ⟨_, _, _, _, rfl, rfl, f54, f55, (by show 4 + 6 ≤ sizeLine; decide), fun p56 n57 => ?_⟩
  try dsimp only
  generalize ee_ : upd H52 p56 _ = H58
  replace hs := (hs.newC n57 (.lst [(.int (board_.a)), (.int (board_.b)), (.int (board_.pc)), (.int (board_.sp)), (.bl board_.zero), (.bl board_.lets), (.bl board_.asleep), (.int (board_.beat)), Aboard_.st, .ref Aboard_.sn])).cast ee_
  clear ee_
  replace hs : Sep S0_ H H58 ([aC p56 (.lst [(.int (board_.a)), (.int (board_.b)), (.int (board_.pc)), (.int (board_.sp)), (.bl board_.zero), (.bl board_.lets), (.bl board_.asleep), (.int (board_.beat)), Aboard_.st, .ref Aboard_.sn]), aV Aboard_.st board_.stop, aB K Aboard_ board_] ++ O_Own K Astand_.p_ Astand_ stand_) := hs.pick [10, 10, 10, 10, 10, 10, 8, 7] 8 (by kernel_rfl)
  refine ⟨(by show 10 ≤ sizeLine; decide), fun p64 n65 => ?_⟩
  try dsimp only
  generalize ee_ : upd H58 p64 _ = H66
  replace hs := (hs.newL (ys := (([("a" : Str), ("b" : Str), ("pc" : Str), ("sp" : Str), ("zero" : Str), ("lets" : Str), ("asleep" : Str), ("beat" : Str), ("stopped" : Str), ("sent" : Str)] : (List Str)) : (List Str))) n65 ((.cons imS (.cons imS (.cons imS (.cons imS (.cons imS (.cons imS (.cons imS (.cons imS (.cons imS (.cons imS .nil)))))))))))).cast ee_
  clear ee_
  have hw78 := hs.scs 0 rfl
  refine ⟨_, rfl, ⟨_, SqL.of hw78⟩, fun p79 n80 => lc_list (K := K) (a := p64) (xs := ([(.str "a"), (.str "b"), (.str "pc"), (.str "sp"), (.str "zero"), (.str "lets"), (.str "asleep"), (.str "beat"), (.str "stopped"), (.str "sent")] : List V)) (fun i81 H83 => Sep S0_ H H83 (aC p79 (.lst (([(.int stand_.a), (.int stand_.b), (.int stand_.pc), (.int stand_.sp), (.bl stand_.zero), (.bl stand_.lets), (.bl stand_.asleep), (.int stand_.beat), Astand_.stopped, .ref Astand_.sent] : List V).take i81)) :: [aL p64 (([("a" : Str), ("b" : Str), ("pc" : Str), ("sp" : Str), ("zero" : Str), ("lets" : Str), ("asleep" : Str), ("beat" : Str), ("stopped" : Str), ("sent" : Str)] : (List Str)) : (List Str)), aC p56 (.lst [(.int (board_.a)), (.int (board_.b)), (.int (board_.pc)), (.int (board_.sp)), (.bl board_.zero), (.bl board_.lets), (.bl board_.asleep), (.int (board_.beat)), Aboard_.st, .ref Aboard_.sn]), aV Aboard_.st board_.stop, aB K Aboard_ board_, aC Astand_.p_ (.dK (K_Own (.ref Astand_.m) (.int stand_.a) (.int stand_.b) (.int stand_.pc) (.int stand_.sp) (.bl stand_.zero) (.bl stand_.lets) (.bl stand_.asleep) (.int stand_.beat) Astand_.stopped (.ref Astand_.sent) (.ref Astand_.line))), aL Astand_.m stand_.m, aV Astand_.stopped stand_.stopped, aL Astand_.sent stand_.sent, aC Astand_.line (.dK (lineK stand_.line))])) (hs.newC n80 (.lst [])) (fun i81 H83 _ pz => SqL.of (pz.scs 1 rfl)) ?_ ?_⟩
  · rintro i81 y82 H83 hi84 hs
    match i81, hi84, hs with
    | 0, hi84, hs =>
      obtain rfl := Option.some.inj hi84
      have f86 := hs.cel 5 rfl
      have f87 := hs.cel 0 rfl
      refine ⟨rfl, _, rfl, _, rfl, _, _, rfl, K_Own_dget_a f86, _, f87, small_ (by show 0 ≤ 16777215; decide), ?_⟩
      replace hs : Sep S0_ H H83 ([aC p79 (.lst (([(.int stand_.a), (.int stand_.b), (.int stand_.pc), (.int stand_.sp), (.bl stand_.zero), (.bl stand_.lets), (.bl stand_.asleep), (.int stand_.beat), Astand_.stopped, .ref Astand_.sent] : List V).take 0)), aL p64 (([("a" : Str), ("b" : Str), ("pc" : Str), ("sp" : Str), ("zero" : Str), ("lets" : Str), ("asleep" : Str), ("beat" : Str), ("stopped" : Str), ("sent" : Str)] : (List Str)) : (List Str)), aC p56 (.lst [(.int (board_.a)), (.int (board_.b)), (.int (board_.pc)), (.int (board_.sp)), (.bl board_.zero), (.bl board_.lets), (.bl board_.asleep), (.int (board_.beat)), Aboard_.st, .ref Aboard_.sn]), aV Aboard_.st board_.stop, aB K Aboard_ board_] ++ O_Own K Astand_.p_ Astand_ stand_) := hs.tk 10
      exact hs.putC 0 rfl trivial (.lst (([(.int stand_.a), (.int stand_.b), (.int stand_.pc), (.int stand_.sp), (.bl stand_.zero), (.bl stand_.lets), (.bl stand_.asleep), (.int stand_.beat), Astand_.stopped, .ref Astand_.sent] : List V).take 1))
    | 1, hi84, hs =>
      obtain rfl := Option.some.inj hi84
      have f88 := hs.cel 5 rfl
      have f89 := hs.cel 0 rfl
      refine ⟨rfl, _, rfl, _, rfl, _, _, rfl, K_Own_dget_b f88, _, f89, small_ (by show 1 ≤ 16777215; decide), ?_⟩
      replace hs : Sep S0_ H H83 ([aC p79 (.lst (([(.int stand_.a), (.int stand_.b), (.int stand_.pc), (.int stand_.sp), (.bl stand_.zero), (.bl stand_.lets), (.bl stand_.asleep), (.int stand_.beat), Astand_.stopped, .ref Astand_.sent] : List V).take 1)), aL p64 (([("a" : Str), ("b" : Str), ("pc" : Str), ("sp" : Str), ("zero" : Str), ("lets" : Str), ("asleep" : Str), ("beat" : Str), ("stopped" : Str), ("sent" : Str)] : (List Str)) : (List Str)), aC p56 (.lst [(.int (board_.a)), (.int (board_.b)), (.int (board_.pc)), (.int (board_.sp)), (.bl board_.zero), (.bl board_.lets), (.bl board_.asleep), (.int (board_.beat)), Aboard_.st, .ref Aboard_.sn]), aV Aboard_.st board_.stop, aB K Aboard_ board_] ++ O_Own K Astand_.p_ Astand_ stand_) := hs.tk 10
      exact hs.putC 0 rfl trivial (.lst (([(.int stand_.a), (.int stand_.b), (.int stand_.pc), (.int stand_.sp), (.bl stand_.zero), (.bl stand_.lets), (.bl stand_.asleep), (.int stand_.beat), Astand_.stopped, .ref Astand_.sent] : List V).take 2))
    | 2, hi84, hs =>
      obtain rfl := Option.some.inj hi84
      have f90 := hs.cel 5 rfl
      have f91 := hs.cel 0 rfl
      refine ⟨rfl, _, rfl, _, rfl, _, _, rfl, K_Own_dget_pc f90, _, f91, small_ (by show 2 ≤ 16777215; decide), ?_⟩
      replace hs : Sep S0_ H H83 ([aC p79 (.lst (([(.int stand_.a), (.int stand_.b), (.int stand_.pc), (.int stand_.sp), (.bl stand_.zero), (.bl stand_.lets), (.bl stand_.asleep), (.int stand_.beat), Astand_.stopped, .ref Astand_.sent] : List V).take 2)), aL p64 (([("a" : Str), ("b" : Str), ("pc" : Str), ("sp" : Str), ("zero" : Str), ("lets" : Str), ("asleep" : Str), ("beat" : Str), ("stopped" : Str), ("sent" : Str)] : (List Str)) : (List Str)), aC p56 (.lst [(.int (board_.a)), (.int (board_.b)), (.int (board_.pc)), (.int (board_.sp)), (.bl board_.zero), (.bl board_.lets), (.bl board_.asleep), (.int (board_.beat)), Aboard_.st, .ref Aboard_.sn]), aV Aboard_.st board_.stop, aB K Aboard_ board_] ++ O_Own K Astand_.p_ Astand_ stand_) := hs.tk 10
      exact hs.putC 0 rfl trivial (.lst (([(.int stand_.a), (.int stand_.b), (.int stand_.pc), (.int stand_.sp), (.bl stand_.zero), (.bl stand_.lets), (.bl stand_.asleep), (.int stand_.beat), Astand_.stopped, .ref Astand_.sent] : List V).take 3))
    | 3, hi84, hs =>
      obtain rfl := Option.some.inj hi84
      have f92 := hs.cel 5 rfl
      have f93 := hs.cel 0 rfl
      refine ⟨rfl, _, rfl, _, rfl, _, _, rfl, K_Own_dget_sp f92, _, f93, small_ (by show 3 ≤ 16777215; decide), ?_⟩
      replace hs : Sep S0_ H H83 ([aC p79 (.lst (([(.int stand_.a), (.int stand_.b), (.int stand_.pc), (.int stand_.sp), (.bl stand_.zero), (.bl stand_.lets), (.bl stand_.asleep), (.int stand_.beat), Astand_.stopped, .ref Astand_.sent] : List V).take 3)), aL p64 (([("a" : Str), ("b" : Str), ("pc" : Str), ("sp" : Str), ("zero" : Str), ("lets" : Str), ("asleep" : Str), ("beat" : Str), ("stopped" : Str), ("sent" : Str)] : (List Str)) : (List Str)), aC p56 (.lst [(.int (board_.a)), (.int (board_.b)), (.int (board_.pc)), (.int (board_.sp)), (.bl board_.zero), (.bl board_.lets), (.bl board_.asleep), (.int (board_.beat)), Aboard_.st, .ref Aboard_.sn]), aV Aboard_.st board_.stop, aB K Aboard_ board_] ++ O_Own K Astand_.p_ Astand_ stand_) := hs.tk 10
      exact hs.putC 0 rfl trivial (.lst (([(.int stand_.a), (.int stand_.b), (.int stand_.pc), (.int stand_.sp), (.bl stand_.zero), (.bl stand_.lets), (.bl stand_.asleep), (.int stand_.beat), Astand_.stopped, .ref Astand_.sent] : List V).take 4))
    | 4, hi84, hs =>
      obtain rfl := Option.some.inj hi84
      have f94 := hs.cel 5 rfl
      have f95 := hs.cel 0 rfl
      refine ⟨rfl, _, rfl, _, rfl, _, _, rfl, K_Own_dget_zero f94, _, f95, small_ (by show 4 ≤ 16777215; decide), ?_⟩
      replace hs : Sep S0_ H H83 ([aC p79 (.lst (([(.int stand_.a), (.int stand_.b), (.int stand_.pc), (.int stand_.sp), (.bl stand_.zero), (.bl stand_.lets), (.bl stand_.asleep), (.int stand_.beat), Astand_.stopped, .ref Astand_.sent] : List V).take 4)), aL p64 (([("a" : Str), ("b" : Str), ("pc" : Str), ("sp" : Str), ("zero" : Str), ("lets" : Str), ("asleep" : Str), ("beat" : Str), ("stopped" : Str), ("sent" : Str)] : (List Str)) : (List Str)), aC p56 (.lst [(.int (board_.a)), (.int (board_.b)), (.int (board_.pc)), (.int (board_.sp)), (.bl board_.zero), (.bl board_.lets), (.bl board_.asleep), (.int (board_.beat)), Aboard_.st, .ref Aboard_.sn]), aV Aboard_.st board_.stop, aB K Aboard_ board_] ++ O_Own K Astand_.p_ Astand_ stand_) := hs.tk 10
      exact hs.putC 0 rfl trivial (.lst (([(.int stand_.a), (.int stand_.b), (.int stand_.pc), (.int stand_.sp), (.bl stand_.zero), (.bl stand_.lets), (.bl stand_.asleep), (.int stand_.beat), Astand_.stopped, .ref Astand_.sent] : List V).take 5))
    | 5, hi84, hs =>
      obtain rfl := Option.some.inj hi84
      have f96 := hs.cel 5 rfl
      have f97 := hs.cel 0 rfl
      refine ⟨rfl, _, rfl, _, rfl, _, _, rfl, K_Own_dget_lets f96, _, f97, small_ (by show 5 ≤ 16777215; decide), ?_⟩
      replace hs : Sep S0_ H H83 ([aC p79 (.lst (([(.int stand_.a), (.int stand_.b), (.int stand_.pc), (.int stand_.sp), (.bl stand_.zero), (.bl stand_.lets), (.bl stand_.asleep), (.int stand_.beat), Astand_.stopped, .ref Astand_.sent] : List V).take 5)), aL p64 (([("a" : Str), ("b" : Str), ("pc" : Str), ("sp" : Str), ("zero" : Str), ("lets" : Str), ("asleep" : Str), ("beat" : Str), ("stopped" : Str), ("sent" : Str)] : (List Str)) : (List Str)), aC p56 (.lst [(.int (board_.a)), (.int (board_.b)), (.int (board_.pc)), (.int (board_.sp)), (.bl board_.zero), (.bl board_.lets), (.bl board_.asleep), (.int (board_.beat)), Aboard_.st, .ref Aboard_.sn]), aV Aboard_.st board_.stop, aB K Aboard_ board_] ++ O_Own K Astand_.p_ Astand_ stand_) := hs.tk 10
      exact hs.putC 0 rfl trivial (.lst (([(.int stand_.a), (.int stand_.b), (.int stand_.pc), (.int stand_.sp), (.bl stand_.zero), (.bl stand_.lets), (.bl stand_.asleep), (.int stand_.beat), Astand_.stopped, .ref Astand_.sent] : List V).take 6))
    | 6, hi84, hs =>
      obtain rfl := Option.some.inj hi84
      have f98 := hs.cel 5 rfl
      have f99 := hs.cel 0 rfl
      refine ⟨rfl, _, rfl, _, rfl, _, _, rfl, K_Own_dget_asleep f98, _, f99, small_ (by show 6 ≤ 16777215; decide), ?_⟩
      replace hs : Sep S0_ H H83 ([aC p79 (.lst (([(.int stand_.a), (.int stand_.b), (.int stand_.pc), (.int stand_.sp), (.bl stand_.zero), (.bl stand_.lets), (.bl stand_.asleep), (.int stand_.beat), Astand_.stopped, .ref Astand_.sent] : List V).take 6)), aL p64 (([("a" : Str), ("b" : Str), ("pc" : Str), ("sp" : Str), ("zero" : Str), ("lets" : Str), ("asleep" : Str), ("beat" : Str), ("stopped" : Str), ("sent" : Str)] : (List Str)) : (List Str)), aC p56 (.lst [(.int (board_.a)), (.int (board_.b)), (.int (board_.pc)), (.int (board_.sp)), (.bl board_.zero), (.bl board_.lets), (.bl board_.asleep), (.int (board_.beat)), Aboard_.st, .ref Aboard_.sn]), aV Aboard_.st board_.stop, aB K Aboard_ board_] ++ O_Own K Astand_.p_ Astand_ stand_) := hs.tk 10
      exact hs.putC 0 rfl trivial (.lst (([(.int stand_.a), (.int stand_.b), (.int stand_.pc), (.int stand_.sp), (.bl stand_.zero), (.bl stand_.lets), (.bl stand_.asleep), (.int stand_.beat), Astand_.stopped, .ref Astand_.sent] : List V).take 7))
    | 7, hi84, hs =>
      obtain rfl := Option.some.inj hi84
      have f100 := hs.cel 5 rfl
      have f101 := hs.cel 0 rfl
      refine ⟨rfl, _, rfl, _, rfl, _, _, rfl, K_Own_dget_beat f100, _, f101, small_ (by show 7 ≤ 16777215; decide), ?_⟩
      replace hs : Sep S0_ H H83 ([aC p79 (.lst (([(.int stand_.a), (.int stand_.b), (.int stand_.pc), (.int stand_.sp), (.bl stand_.zero), (.bl stand_.lets), (.bl stand_.asleep), (.int stand_.beat), Astand_.stopped, .ref Astand_.sent] : List V).take 7)), aL p64 (([("a" : Str), ("b" : Str), ("pc" : Str), ("sp" : Str), ("zero" : Str), ("lets" : Str), ("asleep" : Str), ("beat" : Str), ("stopped" : Str), ("sent" : Str)] : (List Str)) : (List Str)), aC p56 (.lst [(.int (board_.a)), (.int (board_.b)), (.int (board_.pc)), (.int (board_.sp)), (.bl board_.zero), (.bl board_.lets), (.bl board_.asleep), (.int (board_.beat)), Aboard_.st, .ref Aboard_.sn]), aV Aboard_.st board_.stop, aB K Aboard_ board_] ++ O_Own K Astand_.p_ Astand_ stand_) := hs.tk 10
      exact hs.putC 0 rfl trivial (.lst (([(.int stand_.a), (.int stand_.b), (.int stand_.pc), (.int stand_.sp), (.bl stand_.zero), (.bl stand_.lets), (.bl stand_.asleep), (.int stand_.beat), Astand_.stopped, .ref Astand_.sent] : List V).take 8))
    | 8, hi84, hs =>
      obtain rfl := Option.some.inj hi84
      have f102 := hs.cel 5 rfl
      have f103 := hs.cel 0 rfl
      refine ⟨rfl, _, rfl, _, rfl, _, _, rfl, K_Own_dget_stopped f102, _, f103, small_ (by show 8 ≤ 16777215; decide), ?_⟩
      replace hs : Sep S0_ H H83 ([aC p79 (.lst (([(.int stand_.a), (.int stand_.b), (.int stand_.pc), (.int stand_.sp), (.bl stand_.zero), (.bl stand_.lets), (.bl stand_.asleep), (.int stand_.beat), Astand_.stopped, .ref Astand_.sent] : List V).take 8)), aL p64 (([("a" : Str), ("b" : Str), ("pc" : Str), ("sp" : Str), ("zero" : Str), ("lets" : Str), ("asleep" : Str), ("beat" : Str), ("stopped" : Str), ("sent" : Str)] : (List Str)) : (List Str)), aC p56 (.lst [(.int (board_.a)), (.int (board_.b)), (.int (board_.pc)), (.int (board_.sp)), (.bl board_.zero), (.bl board_.lets), (.bl board_.asleep), (.int (board_.beat)), Aboard_.st, .ref Aboard_.sn]), aV Aboard_.st board_.stop, aB K Aboard_ board_] ++ O_Own K Astand_.p_ Astand_ stand_) := hs.tk 10
      exact hs.putC 0 rfl trivial (.lst (([(.int stand_.a), (.int stand_.b), (.int stand_.pc), (.int stand_.sp), (.bl stand_.zero), (.bl stand_.lets), (.bl stand_.asleep), (.int stand_.beat), Astand_.stopped, .ref Astand_.sent] : List V).take 9))
    | 9, hi84, hs =>
      obtain rfl := Option.some.inj hi84
      have f104 := hs.cel 5 rfl
      have f105 := hs.cel 0 rfl
      refine ⟨rfl, _, rfl, _, rfl, _, _, rfl, K_Own_dget_sent f104, _, f105, small_ (by show 9 ≤ 16777215; decide), ?_⟩
      replace hs : Sep S0_ H H83 ([aC p79 (.lst (([(.int stand_.a), (.int stand_.b), (.int stand_.pc), (.int stand_.sp), (.bl stand_.zero), (.bl stand_.lets), (.bl stand_.asleep), (.int stand_.beat), Astand_.stopped, .ref Astand_.sent] : List V).take 9)), aL p64 (([("a" : Str), ("b" : Str), ("pc" : Str), ("sp" : Str), ("zero" : Str), ("lets" : Str), ("asleep" : Str), ("beat" : Str), ("stopped" : Str), ("sent" : Str)] : (List Str)) : (List Str)), aC p56 (.lst [(.int (board_.a)), (.int (board_.b)), (.int (board_.pc)), (.int (board_.sp)), (.bl board_.zero), (.bl board_.lets), (.bl board_.asleep), (.int (board_.beat)), Aboard_.st, .ref Aboard_.sn]), aV Aboard_.st board_.stop, aB K Aboard_ board_] ++ O_Own K Astand_.p_ Astand_ stand_) := hs.tk 10
      exact hs.putC 0 rfl trivial (.lst (([(.int stand_.a), (.int stand_.b), (.int stand_.pc), (.int stand_.sp), (.bl stand_.zero), (.bl stand_.lets), (.bl stand_.asleep), (.int stand_.beat), Astand_.stopped, .ref Astand_.sent] : List V).take 10))
    | m_ + 10, hi84, _ => exact absurd hi84 (by simp)
  rintro H83 hs
  replace hs := hs.asN 0 rfl (Y := aC p79 (.lst ([(.int stand_.a), (.int stand_.b), (.int stand_.pc), (.int stand_.sp), (.bl stand_.zero), (.bl stand_.lets), (.bl stand_.asleep), (.int stand_.beat), Astand_.stopped, .ref Astand_.sent] : List V))) rfl
  have hw110 := hs.cel 2 rfl
  refine ⟨_, rfl, _, rfl, ⟨_, SqL.of hw110⟩, fun p111 n112 => lc_list (K := K) (a := p56) (xs := ([(.int (board_.a)), (.int (board_.b)), (.int (board_.pc)), (.int (board_.sp)), (.bl board_.zero), (.bl board_.lets), (.bl board_.asleep), (.int (board_.beat)), Aboard_.st, .ref Aboard_.sn] : List V)) (fun i113 H115 => Sep S0_ H H115 (aC p111 (.lst (([(.bl false), (.bl false), (.bl false), (.bl false), (.bl true), (.bl true), (.bl true), (.bl false), (.bl false), (.bl false)] : List V).take i113)) :: [aC p79 (.lst ([(.int stand_.a), (.int stand_.b), (.int stand_.pc), (.int stand_.sp), (.bl stand_.zero), (.bl stand_.lets), (.bl stand_.asleep), (.int stand_.beat), Astand_.stopped, .ref Astand_.sent] : List V)), aL p64 (([("a" : Str), ("b" : Str), ("pc" : Str), ("sp" : Str), ("zero" : Str), ("lets" : Str), ("asleep" : Str), ("beat" : Str), ("stopped" : Str), ("sent" : Str)] : (List Str)) : (List Str)), aC p56 (.lst [(.int (board_.a)), (.int (board_.b)), (.int (board_.pc)), (.int (board_.sp)), (.bl board_.zero), (.bl board_.lets), (.bl board_.asleep), (.int (board_.beat)), Aboard_.st, .ref Aboard_.sn]), aV Aboard_.st board_.stop, aB K Aboard_ board_, aC Astand_.p_ (.dK (K_Own (.ref Astand_.m) (.int stand_.a) (.int stand_.b) (.int stand_.pc) (.int stand_.sp) (.bl stand_.zero) (.bl stand_.lets) (.bl stand_.asleep) (.int stand_.beat) Astand_.stopped (.ref Astand_.sent) (.ref Astand_.line))), aL Astand_.m stand_.m, aV Astand_.stopped stand_.stopped, aL Astand_.sent stand_.sent, aC Astand_.line (.dK (lineK stand_.line))])) (hs.newC n112 (.lst [])) (fun i113 H115 _ pz => SqL.of (pz.cel 3 rfl)) ?_ ?_⟩
  · rintro i113 y114 H115 hi116 hs
    match i113, hi116, hs with
    | 0, hi116, hs =>
      obtain rfl := Option.some.inj hi116
      have f118 := hs.cel 0 rfl
      refine ⟨rfl, _, rfl, _, _, _, _, false, rfl, .ty "bool", .base (.int _), kit_ty (by decide +kernel), _, f118, small_ (by show 0 ≤ 16777215; decide), ?_⟩
      replace hs : Sep S0_ H H115 ([aC p111 (.lst (([(.bl false), (.bl false), (.bl false), (.bl false), (.bl true), (.bl true), (.bl true), (.bl false), (.bl false), (.bl false)] : List V).take 0)), aC p79 (.lst ([(.int stand_.a), (.int stand_.b), (.int stand_.pc), (.int stand_.sp), (.bl stand_.zero), (.bl stand_.lets), (.bl stand_.asleep), (.int stand_.beat), Astand_.stopped, .ref Astand_.sent] : List V)), aL p64 (([("a" : Str), ("b" : Str), ("pc" : Str), ("sp" : Str), ("zero" : Str), ("lets" : Str), ("asleep" : Str), ("beat" : Str), ("stopped" : Str), ("sent" : Str)] : (List Str)) : (List Str)), aC p56 (.lst [(.int (board_.a)), (.int (board_.b)), (.int (board_.pc)), (.int (board_.sp)), (.bl board_.zero), (.bl board_.lets), (.bl board_.asleep), (.int (board_.beat)), Aboard_.st, .ref Aboard_.sn]), aV Aboard_.st board_.stop, aB K Aboard_ board_] ++ O_Own K Astand_.p_ Astand_ stand_) := hs.tk 11
      exact hs.putC 0 rfl trivial (.lst (([(.bl false), (.bl false), (.bl false), (.bl false), (.bl true), (.bl true), (.bl true), (.bl false), (.bl false), (.bl false)] : List V).take 1))
    | 1, hi116, hs =>
      obtain rfl := Option.some.inj hi116
      have f119 := hs.cel 0 rfl
      refine ⟨rfl, _, rfl, _, _, _, _, false, rfl, .ty "bool", .base (.int _), kit_ty (by decide +kernel), _, f119, small_ (by show 1 ≤ 16777215; decide), ?_⟩
      replace hs : Sep S0_ H H115 ([aC p111 (.lst (([(.bl false), (.bl false), (.bl false), (.bl false), (.bl true), (.bl true), (.bl true), (.bl false), (.bl false), (.bl false)] : List V).take 1)), aC p79 (.lst ([(.int stand_.a), (.int stand_.b), (.int stand_.pc), (.int stand_.sp), (.bl stand_.zero), (.bl stand_.lets), (.bl stand_.asleep), (.int stand_.beat), Astand_.stopped, .ref Astand_.sent] : List V)), aL p64 (([("a" : Str), ("b" : Str), ("pc" : Str), ("sp" : Str), ("zero" : Str), ("lets" : Str), ("asleep" : Str), ("beat" : Str), ("stopped" : Str), ("sent" : Str)] : (List Str)) : (List Str)), aC p56 (.lst [(.int (board_.a)), (.int (board_.b)), (.int (board_.pc)), (.int (board_.sp)), (.bl board_.zero), (.bl board_.lets), (.bl board_.asleep), (.int (board_.beat)), Aboard_.st, .ref Aboard_.sn]), aV Aboard_.st board_.stop, aB K Aboard_ board_] ++ O_Own K Astand_.p_ Astand_ stand_) := hs.tk 11
      exact hs.putC 0 rfl trivial (.lst (([(.bl false), (.bl false), (.bl false), (.bl false), (.bl true), (.bl true), (.bl true), (.bl false), (.bl false), (.bl false)] : List V).take 2))
    | 2, hi116, hs =>
      obtain rfl := Option.some.inj hi116
      have f120 := hs.cel 0 rfl
      refine ⟨rfl, _, rfl, _, _, _, _, false, rfl, .ty "bool", .base (.int _), kit_ty (by decide +kernel), _, f120, small_ (by show 2 ≤ 16777215; decide), ?_⟩
      replace hs : Sep S0_ H H115 ([aC p111 (.lst (([(.bl false), (.bl false), (.bl false), (.bl false), (.bl true), (.bl true), (.bl true), (.bl false), (.bl false), (.bl false)] : List V).take 2)), aC p79 (.lst ([(.int stand_.a), (.int stand_.b), (.int stand_.pc), (.int stand_.sp), (.bl stand_.zero), (.bl stand_.lets), (.bl stand_.asleep), (.int stand_.beat), Astand_.stopped, .ref Astand_.sent] : List V)), aL p64 (([("a" : Str), ("b" : Str), ("pc" : Str), ("sp" : Str), ("zero" : Str), ("lets" : Str), ("asleep" : Str), ("beat" : Str), ("stopped" : Str), ("sent" : Str)] : (List Str)) : (List Str)), aC p56 (.lst [(.int (board_.a)), (.int (board_.b)), (.int (board_.pc)), (.int (board_.sp)), (.bl board_.zero), (.bl board_.lets), (.bl board_.asleep), (.int (board_.beat)), Aboard_.st, .ref Aboard_.sn]), aV Aboard_.st board_.stop, aB K Aboard_ board_] ++ O_Own K Astand_.p_ Astand_ stand_) := hs.tk 11
      exact hs.putC 0 rfl trivial (.lst (([(.bl false), (.bl false), (.bl false), (.bl false), (.bl true), (.bl true), (.bl true), (.bl false), (.bl false), (.bl false)] : List V).take 3))
    | 3, hi116, hs =>
      obtain rfl := Option.some.inj hi116
      have f121 := hs.cel 0 rfl
      refine ⟨rfl, _, rfl, _, _, _, _, false, rfl, .ty "bool", .base (.int _), kit_ty (by decide +kernel), _, f121, small_ (by show 3 ≤ 16777215; decide), ?_⟩
      replace hs : Sep S0_ H H115 ([aC p111 (.lst (([(.bl false), (.bl false), (.bl false), (.bl false), (.bl true), (.bl true), (.bl true), (.bl false), (.bl false), (.bl false)] : List V).take 3)), aC p79 (.lst ([(.int stand_.a), (.int stand_.b), (.int stand_.pc), (.int stand_.sp), (.bl stand_.zero), (.bl stand_.lets), (.bl stand_.asleep), (.int stand_.beat), Astand_.stopped, .ref Astand_.sent] : List V)), aL p64 (([("a" : Str), ("b" : Str), ("pc" : Str), ("sp" : Str), ("zero" : Str), ("lets" : Str), ("asleep" : Str), ("beat" : Str), ("stopped" : Str), ("sent" : Str)] : (List Str)) : (List Str)), aC p56 (.lst [(.int (board_.a)), (.int (board_.b)), (.int (board_.pc)), (.int (board_.sp)), (.bl board_.zero), (.bl board_.lets), (.bl board_.asleep), (.int (board_.beat)), Aboard_.st, .ref Aboard_.sn]), aV Aboard_.st board_.stop, aB K Aboard_ board_] ++ O_Own K Astand_.p_ Astand_ stand_) := hs.tk 11
      exact hs.putC 0 rfl trivial (.lst (([(.bl false), (.bl false), (.bl false), (.bl false), (.bl true), (.bl true), (.bl true), (.bl false), (.bl false), (.bl false)] : List V).take 4))
    | 4, hi116, hs =>
      obtain rfl := Option.some.inj hi116
      have f122 := hs.cel 0 rfl
      refine ⟨rfl, _, rfl, _, _, _, _, true, rfl, .ty "bool", .base (.bl _), kit_ty (by decide +kernel), _, f122, small_ (by show 4 ≤ 16777215; decide), ?_⟩
      replace hs : Sep S0_ H H115 ([aC p111 (.lst (([(.bl false), (.bl false), (.bl false), (.bl false), (.bl true), (.bl true), (.bl true), (.bl false), (.bl false), (.bl false)] : List V).take 4)), aC p79 (.lst ([(.int stand_.a), (.int stand_.b), (.int stand_.pc), (.int stand_.sp), (.bl stand_.zero), (.bl stand_.lets), (.bl stand_.asleep), (.int stand_.beat), Astand_.stopped, .ref Astand_.sent] : List V)), aL p64 (([("a" : Str), ("b" : Str), ("pc" : Str), ("sp" : Str), ("zero" : Str), ("lets" : Str), ("asleep" : Str), ("beat" : Str), ("stopped" : Str), ("sent" : Str)] : (List Str)) : (List Str)), aC p56 (.lst [(.int (board_.a)), (.int (board_.b)), (.int (board_.pc)), (.int (board_.sp)), (.bl board_.zero), (.bl board_.lets), (.bl board_.asleep), (.int (board_.beat)), Aboard_.st, .ref Aboard_.sn]), aV Aboard_.st board_.stop, aB K Aboard_ board_] ++ O_Own K Astand_.p_ Astand_ stand_) := hs.tk 11
      exact hs.putC 0 rfl trivial (.lst (([(.bl false), (.bl false), (.bl false), (.bl false), (.bl true), (.bl true), (.bl true), (.bl false), (.bl false), (.bl false)] : List V).take 5))
    | 5, hi116, hs =>
      obtain rfl := Option.some.inj hi116
      have f123 := hs.cel 0 rfl
      refine ⟨rfl, _, rfl, _, _, _, _, true, rfl, .ty "bool", .base (.bl _), kit_ty (by decide +kernel), _, f123, small_ (by show 5 ≤ 16777215; decide), ?_⟩
      replace hs : Sep S0_ H H115 ([aC p111 (.lst (([(.bl false), (.bl false), (.bl false), (.bl false), (.bl true), (.bl true), (.bl true), (.bl false), (.bl false), (.bl false)] : List V).take 5)), aC p79 (.lst ([(.int stand_.a), (.int stand_.b), (.int stand_.pc), (.int stand_.sp), (.bl stand_.zero), (.bl stand_.lets), (.bl stand_.asleep), (.int stand_.beat), Astand_.stopped, .ref Astand_.sent] : List V)), aL p64 (([("a" : Str), ("b" : Str), ("pc" : Str), ("sp" : Str), ("zero" : Str), ("lets" : Str), ("asleep" : Str), ("beat" : Str), ("stopped" : Str), ("sent" : Str)] : (List Str)) : (List Str)), aC p56 (.lst [(.int (board_.a)), (.int (board_.b)), (.int (board_.pc)), (.int (board_.sp)), (.bl board_.zero), (.bl board_.lets), (.bl board_.asleep), (.int (board_.beat)), Aboard_.st, .ref Aboard_.sn]), aV Aboard_.st board_.stop, aB K Aboard_ board_] ++ O_Own K Astand_.p_ Astand_ stand_) := hs.tk 11
      exact hs.putC 0 rfl trivial (.lst (([(.bl false), (.bl false), (.bl false), (.bl false), (.bl true), (.bl true), (.bl true), (.bl false), (.bl false), (.bl false)] : List V).take 6))
    | 6, hi116, hs =>
      obtain rfl := Option.some.inj hi116
      have f124 := hs.cel 0 rfl
      refine ⟨rfl, _, rfl, _, _, _, _, true, rfl, .ty "bool", .base (.bl _), kit_ty (by decide +kernel), _, f124, small_ (by show 6 ≤ 16777215; decide), ?_⟩
      replace hs : Sep S0_ H H115 ([aC p111 (.lst (([(.bl false), (.bl false), (.bl false), (.bl false), (.bl true), (.bl true), (.bl true), (.bl false), (.bl false), (.bl false)] : List V).take 6)), aC p79 (.lst ([(.int stand_.a), (.int stand_.b), (.int stand_.pc), (.int stand_.sp), (.bl stand_.zero), (.bl stand_.lets), (.bl stand_.asleep), (.int stand_.beat), Astand_.stopped, .ref Astand_.sent] : List V)), aL p64 (([("a" : Str), ("b" : Str), ("pc" : Str), ("sp" : Str), ("zero" : Str), ("lets" : Str), ("asleep" : Str), ("beat" : Str), ("stopped" : Str), ("sent" : Str)] : (List Str)) : (List Str)), aC p56 (.lst [(.int (board_.a)), (.int (board_.b)), (.int (board_.pc)), (.int (board_.sp)), (.bl board_.zero), (.bl board_.lets), (.bl board_.asleep), (.int (board_.beat)), Aboard_.st, .ref Aboard_.sn]), aV Aboard_.st board_.stop, aB K Aboard_ board_] ++ O_Own K Astand_.p_ Astand_ stand_) := hs.tk 11
      exact hs.putC 0 rfl trivial (.lst (([(.bl false), (.bl false), (.bl false), (.bl false), (.bl true), (.bl true), (.bl true), (.bl false), (.bl false), (.bl false)] : List V).take 7))
    | 7, hi116, hs =>
      obtain rfl := Option.some.inj hi116
      have f125 := hs.cel 0 rfl
      refine ⟨rfl, _, rfl, _, _, _, _, false, rfl, .ty "bool", .base (.int _), kit_ty (by decide +kernel), _, f125, small_ (by show 7 ≤ 16777215; decide), ?_⟩
      replace hs : Sep S0_ H H115 ([aC p111 (.lst (([(.bl false), (.bl false), (.bl false), (.bl false), (.bl true), (.bl true), (.bl true), (.bl false), (.bl false), (.bl false)] : List V).take 7)), aC p79 (.lst ([(.int stand_.a), (.int stand_.b), (.int stand_.pc), (.int stand_.sp), (.bl stand_.zero), (.bl stand_.lets), (.bl stand_.asleep), (.int stand_.beat), Astand_.stopped, .ref Astand_.sent] : List V)), aL p64 (([("a" : Str), ("b" : Str), ("pc" : Str), ("sp" : Str), ("zero" : Str), ("lets" : Str), ("asleep" : Str), ("beat" : Str), ("stopped" : Str), ("sent" : Str)] : (List Str)) : (List Str)), aC p56 (.lst [(.int (board_.a)), (.int (board_.b)), (.int (board_.pc)), (.int (board_.sp)), (.bl board_.zero), (.bl board_.lets), (.bl board_.asleep), (.int (board_.beat)), Aboard_.st, .ref Aboard_.sn]), aV Aboard_.st board_.stop, aB K Aboard_ board_] ++ O_Own K Astand_.p_ Astand_ stand_) := hs.tk 11
      exact hs.putC 0 rfl trivial (.lst (([(.bl false), (.bl false), (.bl false), (.bl false), (.bl true), (.bl true), (.bl true), (.bl false), (.bl false), (.bl false)] : List V).take 8))
    | 8, hi116, hs =>
      obtain rfl := Option.some.inj hi116
      obtain ⟨t126, h127, h128⟩ := isi_st (K := K) (hs.val 4 rfl)
      have f129 := hs.cel 0 rfl
      refine ⟨rfl, _, rfl, _, _, t126, _, false, rfl, .ty "bool", h127, h128, _, f129, small_ (by show 8 ≤ 16777215; decide), ?_⟩
      replace hs : Sep S0_ H H115 ([aC p111 (.lst (([(.bl false), (.bl false), (.bl false), (.bl false), (.bl true), (.bl true), (.bl true), (.bl false), (.bl false), (.bl false)] : List V).take 8)), aC p79 (.lst ([(.int stand_.a), (.int stand_.b), (.int stand_.pc), (.int stand_.sp), (.bl stand_.zero), (.bl stand_.lets), (.bl stand_.asleep), (.int stand_.beat), Astand_.stopped, .ref Astand_.sent] : List V)), aL p64 (([("a" : Str), ("b" : Str), ("pc" : Str), ("sp" : Str), ("zero" : Str), ("lets" : Str), ("asleep" : Str), ("beat" : Str), ("stopped" : Str), ("sent" : Str)] : (List Str)) : (List Str)), aC p56 (.lst [(.int (board_.a)), (.int (board_.b)), (.int (board_.pc)), (.int (board_.sp)), (.bl board_.zero), (.bl board_.lets), (.bl board_.asleep), (.int (board_.beat)), Aboard_.st, .ref Aboard_.sn]), aV Aboard_.st board_.stop, aB K Aboard_ board_] ++ O_Own K Astand_.p_ Astand_ stand_) := hs.tk 11
      exact hs.putC 0 rfl trivial (.lst (([(.bl false), (.bl false), (.bl false), (.bl false), (.bl true), (.bl true), (.bl true), (.bl false), (.bl false), (.bl false)] : List V).take 9))
    | 9, hi116, hs =>
      obtain rfl := Option.some.inj hi116
      have f130 := hs.bd 5 rfl
      have f131 := hs.cel 0 rfl
      refine ⟨rfl, _, rfl, _, _, _, _, false, rfl, .ty "bool", .base (.lst f130.sn), kit_ty (by decide +kernel), _, f131, small_ (by show 9 ≤ 16777215; decide), ?_⟩
      replace hs : Sep S0_ H H115 ([aC p111 (.lst (([(.bl false), (.bl false), (.bl false), (.bl false), (.bl true), (.bl true), (.bl true), (.bl false), (.bl false), (.bl false)] : List V).take 9)), aC p79 (.lst ([(.int stand_.a), (.int stand_.b), (.int stand_.pc), (.int stand_.sp), (.bl stand_.zero), (.bl stand_.lets), (.bl stand_.asleep), (.int stand_.beat), Astand_.stopped, .ref Astand_.sent] : List V)), aL p64 (([("a" : Str), ("b" : Str), ("pc" : Str), ("sp" : Str), ("zero" : Str), ("lets" : Str), ("asleep" : Str), ("beat" : Str), ("stopped" : Str), ("sent" : Str)] : (List Str)) : (List Str)), aC p56 (.lst [(.int (board_.a)), (.int (board_.b)), (.int (board_.pc)), (.int (board_.sp)), (.bl board_.zero), (.bl board_.lets), (.bl board_.asleep), (.int (board_.beat)), Aboard_.st, .ref Aboard_.sn]), aV Aboard_.st board_.stop, aB K Aboard_ board_] ++ O_Own K Astand_.p_ Astand_ stand_) := hs.tk 11
      exact hs.putC 0 rfl trivial (.lst (([(.bl false), (.bl false), (.bl false), (.bl false), (.bl true), (.bl true), (.bl true), (.bl false), (.bl false), (.bl false)] : List V).take 10))
    | m_ + 10, hi116, _ => exact absurd hi116 (by simp)
  rintro H115 hs
  replace hs := hs.asN 0 rfl (Y := aC p111 (.lst ([(.bl false), (.bl false), (.bl false), (.bl false), (.bl true), (.bl true), (.bl true), (.bl false), (.bl false), (.bl false)] : List V))) rfl
  obtain ⟨b218, eb218, hm⟩ := bnd hm
  try dsimp only [tNext, gName, tRet, tAsg, tYes]
  try with_reducible refine iteF ?_
  try with_reducible refine iteT ?_
  refine andV_use hs (b := b218) ?_ ?_
  · skip
    refine evB_and eb218 (fun b219 hb220 => ?_) (fun b221 hb222 => ?_)
    · skip
      refine fun H223 hs Q_ hQ224 => ?_
      have hm := hb220
      obtain ⟨g225, hm⟩ := gd hm
      obtain ⟨g226, hm⟩ := gd hm
      have f227 := hs.cel 3 rfl
      have f228 := hs.val 4 rfl
      have f229 := hs.bd 5 rfl
      have f230 := hs.bd 5 rfl
      have f231 := hs.cel 1 rfl
      have f232 := hs.val 8 rfl
      refine ⟨_, rfl, _, rfl, .list [.int board_.a, .int board_.b, .int board_.pc, .int board_.sp, .bool board_.zero, .bool board_.lets, .bool board_.asleep, .int board_.beat, stD board_.stop, .list (board_.sent.map prD)], .list [.int stand_.a, .int stand_.b, .int stand_.pc, .int stand_.sp, .bool stand_.zero, .bool stand_.lets, .bool stand_.asleep, .int stand_.beat, stD stand_.stopped, .list (stand_.sent.map prD)], .lst (SqL.of f227) (.cons (.int _) (.cons (.int _) (.cons (.int _) (.cons (.int _) (.cons (.bl _) (.cons (.bl _) (.cons (.bl _) (.cons (.int _) (.cons (dp_st g225 f228) (.cons (dpPairs ⟨_, f229.sn, imms_of f230.sent⟩) .nil)))))))))), .lst (SqL.of f231) (.cons (.int _) (.cons (.int _) (.cons (.int _) (.cons (.int _) (.cons (.bl _) (.cons (.bl _) (.cons (.bl _) (.cons (.int _) (.cons (dp_st g226 f232) (.cons (dpPairs (hs.lst 9 rfl)) .nil)))))))))), (shp_of (k := 9) (ok_L (okA_cons ok_i (okA_cons ok_i (okA_cons ok_i (okA_cons ok_i (okA_cons ok_b (okA_cons ok_b (okA_cons ok_b (okA_cons ok_i (okA_cons (ok_st g225) (okA_cons (ok_L (okA_map (fun _ => ok_pr) _)) okA_nil))))))))))) (by decide)), (shp_of (k := 9) (ok_L (okA_cons ok_i (okA_cons ok_i (okA_cons ok_i (okA_cons ok_i (okA_cons ok_b (okA_cons ok_b (okA_cons ok_b (okA_cons ok_i (okA_cons (ok_st g226) (okA_cons (ok_L (okA_map (fun _ => ok_pr) _)) okA_nil))))))))))) (by decide)), ?_⟩
      refine bl_use (P := True) (((eqv_dec (eqvL (eqvC (eqv_i _ _) (eqvC (eqv_i _ _) (eqvC (eqv_i _ _) (eqvC (eqv_i _ _) (eqvC (eqv_b _ _) (eqvC (eqv_b _ _) (eqvC (eqv_b _ _) (eqvC (eqv_i _ _) (eqvC (eqv_st g225 g226) (eqvC (eqv_prs _ _) eqvN))))))))))))).trans (dbt hm)) ?_
      exact hQ224 _ (hs.tl 0)
    · skip
      refine fun H233 hs Q_ hQ234 => ?_
      have hm := hb222
      refine ⟨_, rfl, (by show 1 ≤ sizeLine; decide), fun p235 n236 => ?_⟩
      try dsimp only
      generalize ee_ : upd H233 p235 _ = H237
      replace hs := (hs.newL (ys := (([false] : (List Bool)) : (List Bool))) n236 ((.cons imB .nil))).cast ee_
      clear ee_
      obtain ⟨y239, ey239, hm⟩ := bnd hm
      obtain ⟨vs240, hl241, hv242⟩ := hs.lst 0 rfl
      obtain ⟨g243, e244⟩ := repL_eq ey239
      refine ⟨_, _, _, rfl, rfl, hl241, g243.1, g243.2.1, small_le (by rw [hv242.length]; exact Nat.le_of_lt (Nat.lt_of_lt_of_le g243.2.2 (by decide))), fun p245 n246 => ?_⟩
      try dsimp only
      generalize ee_ : upd H237 p245 _ = H247
      replace hs := (hs.newL (ys := (y239 : (List Bool))) n246 (by rw [e244]; exact hv242.rep _)).cast ee_
      clear ee_
      refine ⟨(by show 1 ≤ sizeLine; decide), fun p249 n250 => ?_⟩
      try dsimp only
      generalize ee_ : upd H247 p249 _ = H251
      replace hs := (hs.newL (ys := (([true] : (List Bool)) : (List Bool))) n250 ((.cons imB .nil))).cast ee_
      clear ee_
      obtain ⟨y253, ey253, hm⟩ := bnd hm
      obtain ⟨vs254, hl255, hv256⟩ := hs.lst 0 rfl
      obtain ⟨g257, e258⟩ := repL_eq ey253
      refine ⟨_, _, _, rfl, rfl, hl255, g257.1, g257.2.1, small_le (by rw [hv256.length]; exact Nat.le_of_lt (Nat.lt_of_lt_of_le g257.2.2 (by decide))), fun p259 n260 => ?_⟩
      try dsimp only
      generalize ee_ : upd H251 p259 _ = H261
      replace hs := (hs.newL (ys := (y253 : (List Bool))) n260 (by rw [e258]; exact hv256.rep _)).cast ee_
      clear ee_
      obtain ⟨y263, ey263, hm⟩ := bnd hm
      obtain ⟨vs264, hl265, hv266⟩ := hs.lst 2 rfl
      obtain ⟨vs267, hl268, hv269⟩ := hs.lst 0 rfl
      obtain ⟨g270, e271⟩ := catL_eq ey263
      refine ⟨_, _, _, _, rfl, rfl, hl265, hl268, small_le (by have := hv266.length; have := hv269.length; omega), fun p272 n273 => ?_⟩
      try dsimp only
      generalize ee_ : upd H261 p272 _ = H274
      replace hs := (hs.newL (ys := (y263 : (List Bool))) n273 (by rw [e271]; exact hv266.app hv269)).cast ee_
      clear ee_
      refine ⟨(by show 1 ≤ sizeLine; decide), fun p276 n277 => ?_⟩
      try dsimp only
      generalize ee_ : upd H274 p276 _ = H278
      replace hs := (hs.newL (ys := (([false] : (List Bool)) : (List Bool))) n277 ((.cons imB .nil))).cast ee_
      clear ee_
      obtain ⟨y280, ey280, hm⟩ := bnd hm
      obtain ⟨vs281, hl282, hv283⟩ := hs.lst 0 rfl
      obtain ⟨g284, e285⟩ := repL_eq ey280
      refine ⟨_, _, _, rfl, rfl, hl282, g284.1, g284.2.1, small_le (by rw [hv283.length]; exact Nat.le_of_lt (Nat.lt_of_lt_of_le g284.2.2 (by decide))), fun p286 n287 => ?_⟩
      try dsimp only
      generalize ee_ : upd H278 p286 _ = H288
      replace hs := (hs.newL (ys := (y280 : (List Bool))) n287 (by rw [e285]; exact hv283.rep _)).cast ee_
      clear ee_
      obtain ⟨y290, ey290, hm⟩ := bnd hm
      obtain ⟨vs291, hl292, hv293⟩ := hs.lst 2 rfl
      obtain ⟨vs294, hl295, hv296⟩ := hs.lst 0 rfl
      obtain ⟨g297, e298⟩ := catL_eq ey290
      refine ⟨_, _, _, _, rfl, rfl, hl292, hl295, small_le (by have := hv293.length; have := hv296.length; omega), fun p299 n300 => ?_⟩
      try dsimp only
      generalize ee_ : upd H288 p299 _ = H301
      replace hs := (hs.newL (ys := (y290 : (List Bool))) n300 (by rw [e298]; exact hv293.app hv296)).cast ee_
      clear ee_
      have f303 := hs.cel 8 rfl
      have f304 := hs.scs 0 rfl
      refine ⟨.list (([false, false, false, false, true, true, true, false, false, false] : List Bool).map PyData.bool), .list (y290.map PyData.bool), dpBools (xs := ([false, false, false, false, true, true, true, false, false, false] : List Bool)) f303, dpBools f304, (shp_of (k := 9) (ok_L (okA_map (fun _ => ok_b) _)) (by decide)), (shp_of (k := 9) (ok_L (okA_map (fun _ => ok_b) _)) (by decide)), ?_⟩
      refine bl_use (P := True) (((eqv_dec (eqv_bs _ _))).trans (dbt hm)) ?_
      exact hQ234 _ (hs.tl 8)
  intro H305 hs
  replace hs : Sep S0_ H H305 [a_Own K Astand_ stand_, aC p111 (.lst ([(.bl false), (.bl false), (.bl false), (.bl false), (.bl true), (.bl true), (.bl true), (.bl false), (.bl false), (.bl false)] : List V)), aC p79 (.lst ([(.int stand_.a), (.int stand_.b), (.int stand_.pc), (.int stand_.sp), (.bl stand_.zero), (.bl stand_.lets), (.bl stand_.asleep), (.int stand_.beat), Astand_.stopped, .ref Astand_.sent] : List V)), aL p64 (([("a" : Str), ("b" : Str), ("pc" : Str), ("sp" : Str), ("zero" : Str), ("lets" : Str), ("asleep" : Str), ("beat" : Str), ("stopped" : Str), ("sent" : Str)] : (List Str)) : (List Str)), aC p56 (.lst [(.int (board_.a)), (.int (board_.b)), (.int (board_.pc)), (.int (board_.sp)), (.bl board_.zero), (.bl board_.lets), (.bl board_.asleep), (.int (board_.beat)), Aboard_.st, .ref Aboard_.sn]), aV Aboard_.st board_.stop, aB K Aboard_ board_] := hs.cl [10,10,10,10,10] 5 (by kernel_rfl)
  replace hs : Sep S0_ H H305 [aB K Aboard_ board_, a_Own K Astand_ stand_] := ((hs.mv 0 rfl).mv 6 rfl).tk 2
  obtain rfl := Option.some.inj hm
  exact q H305 hs
end
def m__law_like_words_l1 (board_ : BD) (k22 : Int) (a21 : (List (Option Int))) : Option ((List (Option Int))) :=
  snoc a21 (board_.m.at k22)
def m__law_like_words (board_ : BD) (stand_ : R_Own) (low_ : Int) (high_ : Int) : Option (Bool) :=
  if -(2 ^ 62) ≤ low_ ∧ low_ < 2 ^ 62 ∧ -(2 ^ 62) ≤ high_ ∧ high_ < 2 ^ 62 then
  (forS (m__law_like_words_l1 board_) (rangeL low_ (Int.toNat (high_ - low_))) []).bind fun a21 =>
  some (decide (a21 = (cutX stand_.m (some low_) (some high_)).map some)) else none
section
variable {P : Program} {w : World} {K : PySem.W.Frag} {mg : Str → Option Value} {base : Heap}
def sp__law_like_words (K : PySem.W.Frag) : Sp := fun vs H Q E_ => ∃ (Aboard_ : BA) (board_ : BD) (Astand_ : A_Own) (stand_ : R_Own) (low_ : Int) (high_ : Int) (r_ : Bool), vs = [.ref Aboard_.p, .ref Astand_.p_, (.int low_), (.int high_)] ∧ (oks H [aB K Aboard_ board_, a_Own K Astand_ stand_] ∧ (owns [aB K Aboard_ board_, a_Own K Astand_ stand_]).Nodup ∧ m__law_like_words board_ stand_ low_ high_ = some r_ ∧ (∀ (H' : Hp) , Sep (owns [aB K Aboard_ board_, a_Own K Astand_ stand_]) H H' [aB K Aboard_ board_, a_Own K Astand_ stand_] → Q (.bl r_) H'))
abbrev N__law_like_words : List Str := ["_law_board", "_law_stand", "_law_low", "_law_high", "_law_address", "_law_found"]
theorem sc__law_like_words : FnScope N__law_like_words ["_law_board", "_law_stand", "_law_low", "_law_high"] (defScope s__law_like_words) := ⟨rfl, rfl, rfl, by decide +kernel, rfl, by decide +kernel, by decide +kernel⟩
theorem ok__law_like_words (T : Txt K mg) : Ok P w K mg base CX0 2 (He.fAd K ("_law_like_words", none)) ["_law_board", "_law_stand", "_law_low", "_law_high"] (sp__law_like_words K) := by
  obtain ⟨_, G_Memory_word_at, b_Memory_word_at, kp_Memory_word_at⟩ := ok_Memory_word_at (P := P) (w := w) (base := base) T
  obtain ⟨fd, F⟩ := T.d__law_like_words
  refine ⟨fd, F.ok sc__law_like_words (fun vs H Q E h => by obtain ⟨Aboard_, board_, Astand_, stand_, low_, high_, r_, rfl, _⟩ := h; rfl) (fun cdv A_ outer s_ H vs Q E hr h => ?_), F.bindsN (fun _ _ _ _ _ _ us hl => match us, hl with | [_, _, _, _], _ => rfl), F.kp⟩
  obtain ⟨Aboard_, board_, Astand_, stand_, low_, high_, r_, rfl, h⟩ := h
  have hu := hu_of hr
  refine ⟨_, PSs.nox (pss_cons (ps_setLc (i := 5) (own := [("_law_address", 4)]) (g := gName 4) (tt := tYes) rfl sc__law_like_words.nd rfl rfl (sw_true rfl rfl rfl (by decide +kernel)) (pi_range2 (by rfl) T.f_range (pa_cons (pv 2) (pa_cons (pv 3) pa_nil))) (blkOk_by (own := [("_law_address", 4)]) (N := N__law_like_words) (sc := defScope s__law_like_words) (by decide +kernel)) (fun _ _ _ _ _ => pg_name (i := 4) sc__law_like_words.nd rfl (Or.inl rfl)) (fun _ _ _ _ _ => pts_nil) (fun _ _ _ _ _ => (pe_meth (pe_fldK (K := K) rfl (pv 0) rfl) T.k_Memory T.m_Memory_word_at G_Memory_word_at (hr.mono (by decide)) b_Memory_word_at .nil pass0 (pa_cons (pv 4) pa_nil))))
  (pss_one (ps_ret (pe_cmpR (op_eqD hr.units) (pv 5) (pe_slice sl_list (pe_dget hu (pv 1) pe_str (fun _ _ => rfl)) (po_some (pv 2)) (po_some (pv 3))) (nomark _))))), ?_⟩
  obtain ⟨hp1, hp2, hm, q⟩ := h
  have hs := Sep.pre (L := [aB K Aboard_ board_, a_Own K Astand_ stand_]) ⟨hp1, hp2⟩
  generalize owns [aB K Aboard_ board_, a_Own K Astand_ stand_] = S0_ at hs q
  unfold m__law_like_words at hm
  clear hp1 hp2
  replace hs := hs.opn 1 rfl
  replace hs : Sep S0_ H H ([aB K Aboard_ board_] ++ O_Own K Astand_.p_ Astand_ stand_) := hs
  obtain ⟨g14, hm⟩ := gd hm
  obtain ⟨z23, eL24, hm⟩ := bnd hm
  refine ⟨_, rfl, _, rfl, _, _, rfl, g14, fun p25 n26 => lc_range (lo := low_) (n := (Int.toNat (high_ - low_))) (fun i27 H28 => ∃ (a21 : (List (Option Int))), forS (m__law_like_words_l1 board_) ((rangeL low_ (Int.toNat (high_ - low_))).drop i27) a21 = some z23 ∧ Sep S0_ H H28 (aL p25 a21 :: [aB K Aboard_ board_, aC Astand_.p_ (.dK (K_Own (.ref Astand_.m) (.int stand_.a) (.int stand_.b) (.int stand_.pc) (.int stand_.sp) (.bl stand_.zero) (.bl stand_.lets) (.bl stand_.asleep) (.int stand_.beat) Astand_.stopped (.ref Astand_.sent) (.ref Astand_.line))), aL Astand_.m stand_.m, aV Astand_.stopped stand_.stopped, aL Astand_.sent stand_.sent, aC Astand_.line (.dK (lineK stand_.line))])) ⟨([] : (List (Option Int))), eL24, hs.newL n26 .nil⟩ ?_ ?_⟩
  · rintro i27 H28 hi29 ⟨a21, hf, hs⟩
    obtain ⟨sN_, hm, hf⟩ := forS_s (range_get hi29) hf
    generalize hk_ : low_ + ((i27 : Nat) : Int) = k22 at hm ⊢
    unfold m__law_like_words_l1 at hm
    refine ⟨by kernel_rfl, ?_⟩
    have f31 := hs.bd 1 rfl
    have f32 := hs.bd 1 rfl
    have f33 := hs.bd 1 rfl
    refine ⟨_, rfl, _, _, _, _, _, rfl, f31.ob, T.k_Board, T.n_Board_memory, BoardF_memory, _, _, _, rfl, f32.mem.ob, (by kernel_rfl), _, rfl, _, _, _, rfl, f33.mem, ?_⟩
    generalize ev_ : optV (board_.m.at k22) = v34
    replace hs := hs.addV (v := v34) (x := board_.m.at k22) (by rw [← ev_]; exact im_optV _)
    clear ev_
    obtain ⟨vs37, hD38, hv39⟩ := hs.lst 1 rfl
    obtain ⟨g40, g41⟩ := snoc_eq hm
    subst g41
    refine ⟨_, hD38, small_ (by have := hv39.length; omega), ?_⟩
    replace hv39 := hv39.snoc (v := v34) (x := (board_.m.at k22 : (Option Int))) (hs.val 0 rfl)
    replace hs : Sep S0_ H H28 ([aL p25 a21, aB K Aboard_ board_] ++ O_Own K Astand_.p_ Astand_ stand_) := hs.pick [7, 7, 7, 7, 7, 7, 7] 7 (by kernel_rfl)
    exact ⟨_, hf, hs.putL 0 rfl hD38 hv39⟩
  rintro H28 ⟨a21, hf, hs⟩
  have ez_ := forS_e (Nat.le_of_eq range_len) hf
  subst ez_
  have f42 := hs.cel 2 rfl
  obtain ⟨vs43, hl44, hv45⟩ := hs.lst 3 rfl
  refine ⟨_, rfl, _, rfl, _, _, rfl, K_Own_dget_m f42, _, rfl, _, rfl, _, rfl, _, rfl, _, _, rfl, SqL.of hl44, fun p46 n47 => ?_⟩
  try dsimp only
  generalize ee_ : upd H28 p46 _ = H48
  replace hs := (hs.newL (ys := ((cutX stand_.m (some low_) (some high_)) : (List Int))) n47 (hv45.cut (some low_) (some high_))).cast ee_
  clear ee_
  have f50 := hs.scs 0 rfl
  refine ⟨.list (a21.map optD'), .list ((cutX stand_.m (some low_) (some high_)).map PyData.int), dpOpts (hs.lst 1 rfl), dpL (SqL.of f50), (shp_of (k := 9) (ok_L (okA_map (fun _ => ok_o) _)) (by decide)), (shp_of (k := 9) (ok_L (okA_map (fun _ => ok_i) _)) (by decide)), ?_⟩
  try dsimp only
  rw [(eqv_dec (eqv_osi _ _))]
  replace hs : Sep S0_ H H48 [a_Own K Astand_ stand_, aL p46 ((cutX stand_.m (some low_) (some high_)) : (List Int)), aL p25 a21, aB K Aboard_ board_] := hs.cl [7,7,7,7,7] 5 (by kernel_rfl)
  replace hs : Sep S0_ H H48 [aB K Aboard_ board_, a_Own K Astand_ stand_] := ((hs.mv 0 rfl).mv 3 rfl).tk 2
  obtain rfl := Option.some.inj hm
  exact q H48 hs
end
def m__law_own_twin (stand_ : R_Own) : Option (R_Own) :=
  some (R_Own.mk stand_.m stand_.a stand_.b stand_.pc stand_.sp stand_.zero stand_.lets stand_.asleep stand_.beat stand_.stopped stand_.sent stand_.line)
section
variable {P : Program} {w : World} {K : PySem.W.Frag} {mg : Str → Option Value} {base : Heap}
def sp__law_own_twin (K : PySem.W.Frag) : Sp := fun vs H Q E_ => ∃ (Astand_ : A_Own) (stand_ : R_Own) (r_ : R_Own), vs = [.ref Astand_.p_] ∧ (oks H [a_Own K Astand_ stand_] ∧ (owns [a_Own K Astand_ stand_]).Nodup ∧ m__law_own_twin stand_ = some r_ ∧ (∀ (H' : Hp) (Az : A_Own), Sep (owns [a_Own K Astand_ stand_]) H H' [aX_Own K Astand_.line Az r_, a_Own K Astand_ stand_] → Q (.ref Az.p_) H'))
abbrev N__law_own_twin : List Str := ["_law_stand", "_law_other"]
theorem sc__law_own_twin : FnScope N__law_own_twin ["_law_stand"] (defScope s__law_own_twin) := ⟨rfl, rfl, rfl, by decide +kernel, rfl, by decide +kernel, by decide +kernel⟩
theorem ok__law_own_twin (T : Txt K mg) : Ok P w K mg base CX0 1 (He.fAd K ("_law_own_twin", none)) ["_law_stand"] (sp__law_own_twin K) := by
  obtain ⟨fd, F⟩ := T.d__law_own_twin
  refine ⟨fd, F.ok sc__law_own_twin (fun vs H Q E h => by obtain ⟨Astand_, stand_, r_, rfl, _⟩ := h; rfl) (fun cdv A_ outer s_ H vs Q E hr h => ?_), F.bindsN (fun _ _ _ _ _ _ us hl => match us, hl with | [_], _ => rfl), F.kp⟩
  obtain ⟨Astand_, stand_, r_, rfl, h⟩ := h
  have hu := hu_of hr
  refine ⟨_, PSs.nox (pss_cons (ps_set (i := 1) sc__law_own_twin.nd rfl (.inl rfl) (pe_callTy call_dictD (by rfl) T.f_dict (by decide +kernel) (pa_cons (pv 0) pa_nil)))
  (pss_cons (ps_dput hu (pv 1) pe_str (pe_callTy call_list_of (by rfl) T.f_list (by decide +kernel) (pa_cons (pe_dget hu (pv 0) pe_str (fun _ _ => rfl)) pa_nil)) rfl)
  (pss_cons (ps_dput hu (pv 1) pe_str (pe_callTy call_list_of (by rfl) T.f_list (by decide +kernel) (pa_cons (pe_dget hu (pv 0) pe_str (fun _ _ => rfl)) pa_nil)) rfl)
  (pss_one (ps_ret (pv 1)))))), ?_⟩
  obtain ⟨hp1, hp2, hm, q⟩ := h
  have hs := Sep.pre (L := [a_Own K Astand_ stand_]) ⟨hp1, hp2⟩
  generalize owns [a_Own K Astand_ stand_] = S0_ at hs q
  unfold m__law_own_twin at hm
  clear hp1 hp2
  replace hs := hs.opn 0 rfl
  replace hs : Sep S0_ H H (O_Own K Astand_.p_ Astand_ stand_) := hs
  have f8 := hs.cel 0 rfl
  refine ⟨_, rfl, _, _, rfl, .inl f8, fun p6 n7 => ?_⟩
  try dsimp only
  generalize ee_ : upd H p6 _ = H9
  replace hs := (hs.newC n7 (.dK (K_Own (.ref Astand_.m) (.int stand_.a) (.int stand_.b) (.int stand_.pc) (.int stand_.sp) (.bl stand_.zero) (.bl stand_.lets) (.bl stand_.asleep) (.int stand_.beat) Astand_.stopped (.ref Astand_.sent) (.ref Astand_.line)))).cast ee_
  clear ee_
  replace hs := hs.addV (hs.val 3 rfl)
  have f12 := hs.cel 2 rfl
  obtain ⟨vs13, hl14, hv15⟩ := hs.lst 3 rfl
  refine ⟨_, rfl, _, _, rfl, K_Own_dget_m f12, _, _, rfl, .inl (SqL.of hl14), fun p16 n17 => ?_⟩
  try dsimp only
  generalize ee_ : upd H9 p16 _ = H18
  replace hs := (hs.newL (ys := (stand_.m : (List Int))) n17 (hv15)).cast ee_
  clear ee_
  have f20 := hs.cel 2 rfl
  refine ⟨_, rfl, _, _, rfl, K_Own_dput_m f20, ?_⟩
  try dsimp only
  generalize ee_ : upd H18 p6 _ = H21
  replace hs := (hs.putC 2 rfl trivial (.dK (K_Own (.ref p16) (.int stand_.a) (.int stand_.b) (.int stand_.pc) (.int stand_.sp) (.bl stand_.zero) (.bl stand_.lets) (.bl stand_.asleep) (.int stand_.beat) Astand_.stopped (.ref Astand_.sent) (.ref Astand_.line)))).cast ee_
  clear ee_
  have f22 := hs.cel 3 rfl
  obtain ⟨vs23, hl24, hv25⟩ := hs.lst 6 rfl
  refine ⟨_, rfl, _, _, rfl, K_Own_dget_sent f22, _, _, rfl, .inl (SqL.of hl24), fun p26 n27 => ?_⟩
  try dsimp only
  generalize ee_ : upd H21 p26 _ = H28
  replace hs := (hs.newL (ys := (stand_.sent : (List (Int × Int)))) n27 (hv25)).cast ee_
  clear ee_
  have f30 := hs.cel 3 rfl
  refine ⟨_, rfl, _, _, rfl, K_Own_dput_sent f30, ?_⟩
  try dsimp only
  generalize ee_ : upd H28 p6 _ = H31
  replace hs := (hs.putC 3 rfl trivial (.dK (K_Own (.ref p16) (.int stand_.a) (.int stand_.b) (.int stand_.pc) (.int stand_.sp) (.bl stand_.zero) (.bl stand_.lets) (.bl stand_.asleep) (.int stand_.beat) Astand_.stopped (.ref p26) (.ref Astand_.line)))).cast ee_
  clear ee_
  replace hs := hs.mv 0 rfl
  replace hs := hs.mv 2 rfl
  replace hs := hs.mv 2 rfl
  replace hs := hs.mv 3 rfl
  replace hs := (hs.clsN 4).as1 (Y := aX_Own K Astand_.line (A_Own.mk p6 p16 Astand_.stopped p26 Astand_.line) (R_Own.mk stand_.m stand_.a stand_.b stand_.pc stand_.sp stand_.zero stand_.lets stand_.asleep stand_.beat stand_.stopped stand_.sent stand_.line)) rfl
  replace hs : Sep S0_ H H31 [a_Own K Astand_ stand_, aX_Own K Astand_.line (A_Own.mk p6 p16 Astand_.stopped p26 Astand_.line) ((R_Own.mk stand_.m stand_.a stand_.b stand_.pc stand_.sp stand_.zero stand_.lets stand_.asleep stand_.beat stand_.stopped stand_.sent stand_.line) : R_Own)] := hs.cl [5,5,5,5,5] 5 (by kernel_rfl)
  refine ⟨_, rfl, ?_⟩
  replace hs : Sep S0_ H H31 [aX_Own K Astand_.line (A_Own.mk p6 p16 Astand_.stopped p26 Astand_.line) ((R_Own.mk stand_.m stand_.a stand_.b stand_.pc stand_.sp stand_.zero stand_.lets stand_.asleep stand_.beat stand_.stopped stand_.sent stand_.line) : R_Own), a_Own K Astand_ stand_] := ((hs.mv 0 rfl).mv 1 rfl).tk 2
  obtain rfl := Option.some.inj hm
  exact q H31 (A_Own.mk p6 p16 Astand_.stopped p26 Astand_.line) hs
end
def m_law_l3 (r1020 : R_Own) (y1746 : (List R_Own)) (y1751 : (List BD)) (k1782 : Int) (s1781 : Unit) : Option (Ctl (Bool) (Unit)) :=
  (atI y1751 k1782).bind fun d1794 =>
  (atI y1746 k1782).bind fun d1803 =>
  if d1803.line = r1020.line then
  (m__law_same d1794 d1803).bind fun r1813 =>
  if r1813 = true then
    some (.nx ())
  else
    some (.rt false) else none
def m_law_l2 (r970 : (List Int)) (r1020 : R_Own) (k1416 : Int) (s1415 : (List R_Own) × (List BD)) : Option (Ctl (Bool) ((List R_Own) × (List BD))) :=
  ((andO (some (decide ((s1415.2.length : Int) < (3 : Int)))) ((atI r970 (0 : Int)).bind fun x1597 => (atI r970 (1 : Int)).bind fun x1604 => some (decide (k1416 ∈ ([x1597 % (40 : Int), (40 : Int) + (x1604 % (40 : Int))] : (List Int)))))).bind fun b1616 =>
  if b1616 = true then
    (atI s1415.2 (-1 : Int)).bind fun d1648 =>
    (m_Board_twin d1648).bind fun r1658 =>
    (snoc s1415.2 r1658).bind fun y1663 =>
    (atI s1415.1 (-1 : Int)).bind fun d1669 =>
    if d1669.line = r1020.line then
    (m__law_own_twin d1669).bind fun r1679 =>
    (snoc s1415.1 r1679).bind fun y1684 =>
    some (y1684, y1663) else none
  else
    some (s1415.1, s1415.2)).bind fun (j1557 : (List R_Own) × (List BD)) =>
  (atI r970 (k1416 % (60 : Int))).bind fun x1689 =>
  if 0 < (j1557.2.length : Int) then
  (some ((x1689 / (3 : Int)) % (j1557.2.length : Int))).bind fun n1698 =>
  (atI j1557.2 n1698).bind fun d1699 =>
  (BD.turnM d1699).bind fun z1708 =>
  (atI j1557.1 n1698).bind fun d1719 =>
  if d1719.line = r1020.line then
  (m__law_once d1719).bind fun r1729 =>
  if ¬ z1708.1 = r1729.1 then
    if r1729.2.line = r1020.line then
    (setX j1557.1 n1698 r1729.2).bind fun y1735 =>
    (setX j1557.2 n1698 z1708.2).bind fun y1740 =>
    some (.rt false) else none
  else
    if r1729.2.line = r1020.line then
    (setX j1557.1 n1698 r1729.2).bind fun y1746 =>
    (setX j1557.2 n1698 z1708.2).bind fun y1751 =>
    if -(2 ^ 62) ≤ (y1751.length : Int) ∧ (y1751.length : Int) < 2 ^ 62 then
    thenC (forC (m_law_l3 r1020 y1746 y1751) (rangeL 0 (Int.toNat (y1751.length : Int))) ()) (fun r => some (.rt r)) fun (s1781 : Unit) =>
    some (.nx (y1746, y1751)) else none else none else none else none
def m_law_l4 (r1020 : R_Own) (s1415 : (List R_Own) × (List BD)) (k1843 : Int) (s1842 : Unit) : Option (Ctl (Bool) (Unit)) :=
  (atI s1415.2 k1843).bind fun d1857 =>
  (atI s1415.1 k1843).bind fun d1866 =>
  if d1866.line = r1020.line then
  (m__law_like_words d1857 d1866 (500 : Int) (774 : Int)).bind fun r1876 =>
  if r1876 = true then
    some (.nx ())
  else
    some (.rt false) else none
def m_law_l1 (y5 : (List Int)) (k943 : Int) (s942 : Unit) : Option (Ctl (Bool) (Unit)) :=
  (atI (cutX y5 none (some (6 : Int))) (((2 : Int) * k943) + (1 : Int))).bind fun x963 =>
  (m__law_digits x963 (60 : Int)).bind fun r970 =>
  (atI (cutX y5 none (some (6 : Int))) ((2 : Int) * k943)).bind fun x975 =>
  (m__law_drawn_image x975).bind fun r982 =>
  (atI (cutX y5 none (some (6 : Int))) (((2 : Int) * k943) + (1 : Int))).bind fun x987 =>
  (m__law_drawn_line x987).bind fun r994 =>
  if initOk r982 r994 then
  (m__law_new r982 r994).bind fun r1020 =>
  thenC (forC (m_law_l2 r970 r1020) (rangeL 0 (Int.toNat (90 : Int))) (([r1020] : (List R_Own)), ([BD.init r982 r994] : (List BD)))) (fun r => some (.rt r)) fun (s1415 : (List R_Own) × (List BD)) =>
  if -(2 ^ 62) ≤ (s1415.2.length : Int) ∧ (s1415.2.length : Int) < 2 ^ 62 then
  thenC (forC (m_law_l4 r1020 s1415) (rangeL 0 (Int.toNat (s1415.2.length : Int))) ()) (fun r => some (.rt r)) fun (s1842 : Unit) =>
  some (.nx ()) else none else none
def m_law (script_ : List Int) : Option (Bool) :=
  (catL script_ ([(5 : Int), (17 : Int)] : (List Int))).bind fun y5 =>
  if -(2 ^ 62) ≤ (((cutX y5 none (some (6 : Int))).length : Int) / (2 : Int)) ∧ (((cutX y5 none (some (6 : Int))).length : Int) / (2 : Int)) < 2 ^ 62 then
  thenC (forC (m_law_l1 y5) (rangeL 0 (Int.toNat (((cutX y5 none (some (6 : Int))).length : Int) / (2 : Int)))) ()) (fun r => some r) fun (s942 : Unit) =>
  some true else none
section
variable {P : Program} {w : World} {K : PySem.W.Frag} {mg : Str → Option Value} {base : Heap}
def sp_law (K : PySem.W.Frag) : Sp := fun vs H Q E_ => ∃ (pscript_ : Addr) (script_ : List Int) (r_ : Bool), vs = [.ref pscript_] ∧ (SqL K H pscript_ (script_.map V.int) ∧ oks H [] ∧ (owns []).Nodup ∧ m_law script_ = some r_ ∧ (∀ (H' : Hp) , Sep (owns []) H H' [] → Q (.bl r_) H'))
abbrev N_law : List Str := ["_law_script", "_law_cells", "_law_k", "_law_row", "_law_image", "_law_line", "_law_boards", "_law_stands", "_law_turn", "_law_at", "_law_j"]
theorem sc_law : FnScope N_law ["_law_script"] (defScope s_law) := ⟨rfl, rfl, rfl, by decide +kernel, rfl, by decide +kernel, by decide +kernel⟩
theorem okF_law (T : Txt K mg) {fd : FuncData} (F : FnP K "law" "law" s_law (He.fAd K ("law", none)) fd) : FnOk P w K mg base CX0 7 (He.fAd K ("law", none)) fd ["_law_script"] (sp_law K) := by
  obtain ⟨_, G__law_digits, b__law_digits, kp__law_digits⟩ := ok__law_digits (P := P) (w := w) (base := base) T
  obtain ⟨_, G__law_drawn_line, b__law_drawn_line, kp__law_drawn_line⟩ := ok__law_drawn_line (P := P) (w := w) (base := base) T
  obtain ⟨_, G__law_drawn_image, b__law_drawn_image, kp__law_drawn_image⟩ := ok__law_drawn_image (P := P) (w := w) (base := base) T
  obtain ⟨_, G__law_new, b__law_new, kp__law_new⟩ := ok__law_new (P := P) (w := w) (base := base) T
  obtain ⟨_, G_Board_init, b_Board_init, kp_Board_init⟩ := ok_Board_init (P := P) (w := w) (base := base) T
  obtain ⟨_, G_Board_twin, b_Board_twin, kp_Board_twin⟩ := ok_Board_twin (P := P) (w := w) (base := base) T
  obtain ⟨_, G__law_own_twin, b__law_own_twin, kp__law_own_twin⟩ := ok__law_own_twin (P := P) (w := w) (base := base) T
  obtain ⟨_, G_Board_turn, b_Board_turn, kp_Board_turn⟩ := ok_Board_turn (P := P) (w := w) (base := base) T
  obtain ⟨_, G__law_once, b__law_once, kp__law_once⟩ := ok__law_once (P := P) (w := w) (base := base) T
  obtain ⟨_, G__law_same, b__law_same, kp__law_same⟩ := ok__law_same (P := P) (w := w) (base := base) T
  obtain ⟨_, G__law_like_words, b__law_like_words, kp__law_like_words⟩ := ok__law_like_words (P := P) (w := w) (base := base) T
  refine F.ok sc_law (fun vs H Q E h => by obtain ⟨pscript_, script_, r_, rfl, _⟩ := h; rfl) (fun cdv A_ outer s_ H vs Q E hr h => ?_)
  obtain ⟨pscript_, script_, r_, rfl, h⟩ := h
  have hu := hu_of hr
  refine ⟨_, PSs.nox (pss_cons (ps_set (i := 1) sc_law.nd rfl (.inl rfl) (pe_slice sl_list (pe_op op_catL (pv 0) (pe_lst (pa_cons pe_int (pa_cons pe_int pa_nil)))) po_none (po_some pe_int)))
  (pss_cons (ps_for PassesOwn.never rfl (pi_range1 (by rfl) T.f_range (pa_cons (pe_op op_fdiv (pe_callB call_len_seq (by rfl) T.f_len PySem.boot_len (pa_cons (pv 1) pa_nil)) pe_int) pa_nil)) (pg_name (i := 2) sc_law.nd rfl (.inl rfl)) (pss_cons (ps_set (i := 3) sc_law.nd rfl (.inl rfl) (pe_call G__law_digits (hr.mono (by decide)) (by rfl) T.g__law_digits kp__law_digits b__law_digits .nil pass0 (pa_cons (pe_ix ix_list (pv 1) (pe_op op_add (pe_op op_mul pe_int (pv 2)) pe_int) (fun _ _ => rfl)) (pa_cons pe_int pa_nil))))
    (pss_cons (ps_par (i := 4) (j := 5) (by rfl) sc_law.nd rfl rfl (by decide) rfl rfl (pa_cons (pe_call G__law_drawn_image (hr.mono (by decide)) (by rfl) T.g__law_drawn_image kp__law_drawn_image b__law_drawn_image .nil pass0 (pa_cons (pe_ix ix_list (pv 1) (pe_op op_mul pe_int (pv 2)) (fun _ _ => rfl)) pa_nil)) (pa_cons (pe_call G__law_drawn_line (hr.mono (by decide)) (by rfl) T.g__law_drawn_line kp__law_drawn_line b__law_drawn_line .nil pass0 (pa_cons (pe_ix ix_list (pv 1) (pe_op op_add (pe_op op_mul pe_int (pv 2)) pe_int) (fun _ _ => rfl)) pa_nil)) pa_nil)) (by rfl))
    (pss_cons (ps_par (i := 6) (j := 7) (by rfl) sc_law.nd rfl rfl (by decide) rfl rfl (pa_cons (pe_lst (pa_cons (pe_make T.mk_Board G_Board_init (hr.mono (by decide)) (by rfl) T.g_Board b_Board_init .nil pass0 (pa_cons (pv 4) (pa_cons (pv 5) pa_nil))) pa_nil)) (pa_cons (pe_lst (pa_cons (pe_call G__law_new (hr.mono (by decide)) (by rfl) T.g__law_new kp__law_new b__law_new .nil pass0 (pa_cons (pv 4) (pa_cons (pv 5) pa_nil))) pa_nil)) pa_nil)) (by rfl))
    (pss_cons (ps_for PassesOwn.never rfl (pi_range1 (by rfl) T.f_range (pa_cons pe_int pa_nil)) (pg_name (i := 8) sc_law.nd rfl (.inl rfl)) (C8.pss_cut (ps_if (PW.pt (pw_and (pt_cmpR op_lt (pe_callB call_len_seq (by rfl) T.f_len PySem.boot_len (pa_cons (pv 6) pa_nil)) pe_int (nomark _)) (pw_and1 (pt_cmpR op_in_seq (pv 8) (pe_lst (pa_cons (pe_op op_mod (pe_ix ix_list (pv 3) pe_int (fun _ _ => rfl)) pe_int) (pa_cons (pe_op op_add pe_int (pe_op op_mod (pe_ix ix_list (pv 3) pe_int (fun _ _ => rfl)) pe_int)) pa_nil))) (by rfl))))) (pss_cons (ps_expr (pe_bm PySem.F.plainAttrs_list PySem.F.slot_list_append PySem.F.type_list_append mt_append (pv 6) (pa_cons (pe_meth0 (pe_ix ix_list (pv 6) (pe_un un_neg pe_int) (fun _ _ => rfl)) T.k_Board T.m_Board_twin G_Board_twin (hr.mono (by decide)) b_Board_twin .nil pass0) pa_nil)))
        (pss_one (ps_expr (pe_bm PySem.F.plainAttrs_list PySem.F.slot_list_append PySem.F.type_list_append mt_append (pv 7) (pa_cons (pe_call G__law_own_twin (hr.mono (by decide)) (by rfl) T.g__law_own_twin kp__law_own_twin b__law_own_twin .nil pass0 (pa_cons (pe_ix ix_list (pv 7) (pe_un un_neg pe_int) (fun _ _ => rfl)) pa_nil)) pa_nil))))) pss_nil)
      (pss_cons (ps_set (i := 9) sc_law.nd rfl (.inl rfl) (pe_op op_mod (pe_op op_fdiv (pe_ix ix_list (pv 3) (pe_op op_mod (pv 8) pe_int) (fun _ _ => rfl)) pe_int) (pe_callB call_len_seq (by rfl) T.f_len PySem.boot_len (pa_cons (pv 6) pa_nil))))
      (pss_cons (ps_if (pt_cmpR op_ne (pe_meth0 (pe_ix ix_list (pv 6) (pv 9) (fun _ _ => rfl)) T.k_Board T.m_Board_turn G_Board_turn (hr.mono (by decide)) b_Board_turn .nil pass0) (pe_call G__law_once (hr.mono (by decide)) (by rfl) T.g__law_once kp__law_once b__law_once .nil pass0 (pa_cons (pe_ix ix_list (pv 7) (pv 9) (fun _ _ => rfl)) pa_nil)) (nomark _)) (pss_one (ps_ret pe_bl)) pss_nil)
      (pss_one (ps_for PassesOwn.never rfl (pi_range1 (by rfl) T.f_range (pa_cons (pe_callB call_len_seq (by rfl) T.f_len PySem.boot_len (pa_cons (pv 6) pa_nil)) pa_nil)) (pg_name (i := 10) sc_law.nd rfl (.inl rfl)) (pss_one (ps_if (pt_not (pt_val (pe_call G__law_same (hr.mono (by decide)) (by rfl) T.g__law_same kp__law_same b__law_same .nil pass0 (pa_cons (pe_ix ix_list (pv 6) (pv 10) (fun _ _ => rfl)) (pa_cons (pe_ix ix_list (pv 7) (pv 10) (fun _ _ => rfl)) pa_nil))))) (pss_one (ps_ret pe_bl)) pss_nil))))))))
    (pss_one (ps_for PassesOwn.never rfl (pi_range1 (by rfl) T.f_range (pa_cons (pe_callB call_len_seq (by rfl) T.f_len PySem.boot_len (pa_cons (pv 6) pa_nil)) pa_nil)) (pg_name (i := 10) sc_law.nd rfl (.inl rfl)) (pss_one (ps_if (pt_not (pt_val (pe_call G__law_like_words (hr.mono (by decide)) (by rfl) T.g__law_like_words kp__law_like_words b__law_like_words .nil pass0 (pa_cons (pe_ix ix_list (pv 6) (pv 10) (fun _ _ => rfl)) (pa_cons (pe_ix ix_list (pv 7) (pv 10) (fun _ _ => rfl)) (pa_cons pe_int (pa_cons pe_int pa_nil))))))) (pss_one (ps_ret pe_bl)) pss_nil)))))))))
  (pss_one (ps_ret pe_bl)))), ?_⟩
  obtain ⟨sscript_, hp1, hp2, hm, q⟩ := h
  have hs := Sep.pre (L := []) ⟨hp1, hp2⟩
  unfold m_law at hm
  clear hp1 hp2
  refine ⟨_, rfl, (by show 2 ≤ sizeLine; decide), fun p1 n2 => ?_⟩
  try dsimp only
  generalize ee_ : upd H p1 _ = H3
  replace hs := (hs.newL (ys := (([(5 : Int), (17 : Int)] : (List Int)) : (List Int))) n2 ((.cons imI (.cons imI .nil)))).cast ee_
  clear ee_
  obtain ⟨y5, ey5, hm⟩ := bnd hm
  obtain ⟨vs6, hl7, hv8⟩ := hs.lst 0 rfl
  obtain ⟨g9, e10⟩ := catL_eq ey5
  have f11 := hs.kp.seq not_in_nil sscript_
  refine ⟨_, _, _, _, rfl, rfl, f11, SqL.of hl7, small_le (by rw [List.length_map]; have := hv8.length; omega), fun p12 n13 => ?_⟩
  try dsimp only
  generalize ee_ : upd H3 p12 _ = H14
  replace hs := (hs.newL (ys := (y5 : (List Int))) n13 (by rw [e10]; exact (Imms.ofSc script_).app hv8)).cast ee_
  clear ee_
  obtain ⟨vs16, hl17, hv18⟩ := hs.lst 0 rfl
  refine ⟨_, rfl, _, _, rfl, SqL.of hl17, fun p19 n20 => ?_⟩
  try dsimp only
  generalize ee_ : upd H14 p19 _ = H21
  replace hs := (hs.newL (ys := ((cutX y5 none (some (6 : Int))) : (List Int))) n20 (hv18.cut none (some (6 : Int)))).cast ee_
  clear ee_
  obtain ⟨vs23, hl24, hv25⟩ := hs.lst 0 rfl
  refine ⟨_, rfl, _, _, rfl, .inl (SqL.of hl24), ?_⟩
  rw [hv25.length]
  obtain ⟨g26, hm⟩ := gd hm
  obtain ⟨z944, eL945, hmO948⟩ := thenC_eq hm
  replace hs : Sep (owns []) H H21 [aL p19 ((cutX y5 none (some (6 : Int))) : (List Int))] := hs.tk 1
  refine ⟨_, _, rfl, rfl, ⟨by decide, by decide⟩, _, rfl, g26.1, g26.2, for_rangeN (lo := (0 : Int)) (n := (Int.toNat (((cutX y5 none (some (6 : Int))).length : Int) / (2 : Int)))) (fun i958 σ960 H959 => ∃ (s942 : Unit) (o949 : Option V) (o950 : Option V) (o951 : Option V) (o952 : Option V) (o953 : Option V) (o954 : Option V) (o955 : Option V) (o956 : Option V) (o957 : Option V), forC (m_law_l1 y5) ((rangeL 0 (Int.toNat (((cutX y5 none (some (6 : Int))).length : Int) / (2 : Int)))).drop i958) s942 = some z944 ∧ Sep (owns []) H H959 [aL p19 ((cutX y5 none (some (6 : Int))) : (List Int))] ∧ σ960 = [some (.ref pscript_), some (.ref p19), o949, o950, o951, o952, o953, o954, o955, o956, o957]) ⟨(), _, _, _, _, _, _, _, _, _, eL945, hs, rfl⟩ ?_ ?_⟩
  · rintro i958 σ960 H959 hi961 ⟨s942, o949, o950, o951, o952, o953, o954, o955, o956, o957, hf946, hs, rfl⟩
    obtain ⟨cN947, hm, hf946⟩ := forC_s (range_get hi961) hf946
    generalize hk_ : (0 : Int) + ((i958 : Nat) : Int) = k943 at hm ⊢
    unfold m_law_l1 at hm
    obtain ⟨x963, ex963, hm⟩ := bnd hm
    obtain ⟨vs964, hl965, hv966⟩ := hs.lst 0 rfl
    obtain ⟨u967, hu968, hx969⟩ := hv966.ix ex963
    have hx969 : u967 = (.int x963) := hx969
    subst hx969
    obtain ⟨r970, er970, hm⟩ := bnd hm
    refine ⟨_, rfl, _, rfl, _, _, rfl, rfl, .inl ⟨by decide, by decide⟩, _, _, rfl, rfl, _, _, _, _, rfl, rfl, SqL.of hl965, hu968, x963, (60 : Int), r970, rfl, (hs.frontN 0).1, (hs.frontN 0).2, er970, fun H971 pz973 hc972 => ?_⟩
    replace hs := hs.callN 0 hc972
    obtain ⟨x975, ex975, hm⟩ := bnd hm
    obtain ⟨vs976, hl977, hv978⟩ := hs.lst 1 rfl
    obtain ⟨u979, hu980, hx981⟩ := hv978.ix ex975
    have hx981 : u979 = (.int x975) := hx981
    subst hx981
    obtain ⟨r982, er982, hm⟩ := bnd hm
    refine ⟨_, rfl, _, rfl, _, _, rfl, rfl, .inl ⟨by decide, by decide⟩, _, _, _, _, rfl, rfl, SqL.of hl977, hu980, x975, r982, rfl, (hs.frontN 0).1, (hs.frontN 0).2, er982, fun H983 pz985 hc984 => ?_⟩
    replace hs := hs.callN 0 hc984
    obtain ⟨x987, ex987, hm⟩ := bnd hm
    obtain ⟨vs988, hl989, hv990⟩ := hs.lst 2 rfl
    obtain ⟨u991, hu992, hx993⟩ := hv990.ix ex987
    have hx993 : u991 = (.int x987) := hx993
    subst hx993
    obtain ⟨r994, er994, hm⟩ := bnd hm
    refine ⟨_, rfl, _, rfl, _, _, rfl, rfl, .inl ⟨by decide, by decide⟩, _, _, rfl, rfl, _, _, _, _, rfl, rfl, SqL.of hl989, hu992, x987, r994, rfl, (hs.frontN 0).1, (hs.frontN 0).2, er994, fun H995 pz997 hc996 => ?_⟩
    replace hs := hs.callN 0 hc996
    refine ⟨_, _, rfl, ?_⟩
    obtain ⟨g999, hm⟩ := gd hm
    refine ⟨_, rfl, _, rfl, fun pb1000 dx1001 n1002 n1003 ne1004 => ?_⟩
    have np_ : (upd H995 dx1001 (.own pb1000)) pb1000 = none := by rw [upd_ne (fun e => ne1004 e.symm)]; exact n1002
    replace hs := ((hs.newT (o := .own pb1000) n1003).newC np_ (.ins (He.ga K "Board") dx1001 []))
    obtain ⟨ls1007, hl1008, hv1009⟩ := hs.lst 1 rfl
    refine ⟨pb1000, dx1001, pz985, pz997, r982, ls1007, r994, rfl, hs.cel 0 rfl, SqL.of (hs.scs 2 rfl), hl1008, (tups_of hv1009), g999.1, g999.2.1, g999.2.2.1, g999.2.2.2, fun H1014 A1011 B1010 eA1012 kA1013 => ⟨rfl, ?_⟩⟩
    subst eA1012
    replace hs := hs.put 0 rfl (aB K A1011 (BD.init r982 r994)) kA1013 B1010
    refine ⟨(by show 1 ≤ sizeLine; decide), fun p1016 n1017 => ?_⟩
    try dsimp only
    generalize ee_ : upd H1014 p1016 _ = H1018
    replace hs := (hs.newC n1017 (.lst [.ref A1011.p])).cast ee_
    clear ee_
    replace hs := hs.mv 1 rfl
    replace hs := hs.mv 1 rfl
    replace hs := hs.ol1 (v := bdV) (e := aB K) (a := A1011) (d := (BD.init r982 r994))
    replace hs : Sep (owns []) H H1018 [aOBd K p1016 ([A1011]) (([BD.init r982 r994] : (List BD)) : (List BD)), aL pz997 r994, aL pz985 r982, aL pz973 r970, aL p19 ((cutX y5 none (some (6 : Int))) : (List Int))] := hs
    obtain ⟨r1020, er1020, hm⟩ := bnd hm
    replace hs := hs.mv 1 rfl
    replace hs := hs.mv 2 rfl
    refine ⟨_, rfl, _, rfl, pz985, r982, pz997, r994, r1020, rfl, (hs.frontN 2).1, (hs.frontN 2).2, er1020, fun H1021 Az1023 hc1022 => ?_⟩
    replace hs := hs.callN 2 hc1022
    refine ⟨(by show 1 ≤ sizeLine; decide), fun p1025 n1026 => ?_⟩
    try dsimp only
    generalize ee_ : upd H1021 p1025 _ = H1027
    replace hs := (hs.newC n1026 (.lst [.ref Az1023.p_])).cast ee_
    clear ee_
    replace hs := hs.mv 1 rfl
    replace hs := hs.splitX_Own (pl := Az1023.line) (ln := r1020.line) rfl rfl
    replace hs := hs.mv 2 rfl
    replace hs := hs.ol1 (v := v_Own_) (e := aX_Own K Az1023.line) (a := Az1023) (d := r1020)
    replace hs : Sep (owns []) H H1027 [aOs_Own K Az1023.line p1025 ([Az1023]) (([r1020] : (List R_Own)) : (List R_Own)), aC Az1023.line (.dK (lineK r1020.line)), aL pz985 r982, aL pz997 r994, aOBd K p1016 ([A1011]) (([BD.init r982 r994] : (List BD)) : (List BD)), aL pz973 r970, aL p19 ((cutX y5 none (some (6 : Int))) : (List Int))] := hs
    refine ⟨_, _, rfl, ?_⟩
    obtain ⟨z1417, eL1418, hmO1421⟩ := thenC_eq hm
    replace hs : Sep (owns []) H H1027 [aOs_Own K Az1023.line p1025 ([Az1023]) (([r1020] : (List R_Own)) : (List R_Own)), aC Az1023.line (.dK (lineK r1020.line)), aL pz985 r982, aL pz997 r994, aOBd K p1016 ([A1011]) (([BD.init r982 r994] : (List BD)) : (List BD)), aL pz973 r970, aL p19 ((cutX y5 none (some (6 : Int))) : (List Int))] := hs.tk 7
    refine ⟨_, rfl, by decide, by decide, for_rangeN (lo := (0 : Int)) (n := (Int.toNat (90 : Int))) (fun i1427 σ1429 H1428 => ∃ (s1415 : (List R_Own) × (List BD)) (A1422 : List A_Own) (A1423 : List BA) (o1424 : Option V) (o1425 : Option V) (o1426 : Option V), forC (m_law_l2 r970 r1020) ((rangeL 0 (Int.toNat (90 : Int))).drop i1427) s1415 = some z1417 ∧ Sep (owns []) H H1428 [aOs_Own K Az1023.line p1025 A1422 s1415.1, aC Az1023.line (.dK (lineK r1020.line)), aL pz985 r982, aL pz997 r994, aOBd K p1016 A1423 s1415.2, aL pz973 r970, aL p19 ((cutX y5 none (some (6 : Int))) : (List Int))] ∧ σ1429 = [some (.ref pscript_), some (.ref p19), some (.int k943), some (.ref pz973), some (.ref pz985), some (.ref pz997), some (.ref p1016), some (.ref p1025), o1424, o1425, o1426]) ⟨(([r1020] : (List R_Own)), ([BD.init r982 r994] : (List BD))), [Az1023], [A1011], _, _, _, eL1418, hs, rfl⟩ ?_ ?_⟩
    · rintro i1427 σ1429 H1428 hi1430 ⟨s1415, A1422, A1423, o1424, o1425, o1426, hf1419, hs, rfl⟩
      obtain ⟨cN1420, hm, hf1419⟩ := forC_s (range_get hi1430) hf1419
      generalize hk_ : (0 : Int) + ((i1427 : Nat) : Int) = k1416 at hm ⊢
      unfold m_law_l2 at hm
      obtain ⟨j1557, es1558, hm⟩ := bnd hm
      refine ⟨fun σ' H1563 => ∃ (A1559 : List A_Own) (A1560 : List BA) (o1561 : Option V) (o1562 : Option V), Sep (owns []) H H1563 [aOs_Own K Az1023.line p1025 A1559 j1557.1, aC Az1023.line (.dK (lineK r1020.line)), aL pz985 r982, aL pz997 r994, aOBd K p1016 A1560 j1557.2, aL pz973 r970, aL p19 ((cutX y5 none (some (6 : Int))) : (List Int))] ∧ σ' = [some (.ref pscript_), some (.ref p19), some (.int k943), some (.ref pz973), some (.ref pz985), some (.ref pz997), some (.ref p1016), some (.ref p1025), some (.int k1416), o1561, o1562], ?_, ?_⟩
      · have hm := es1558
        obtain ⟨b1616, eb1616, hm⟩ := bnd hm
        try dsimp only [tNext, gName]
        try with_reducible refine iteF ?_
        refine if_use hs (b := b1616) ?_ ?_
        · skip
          refine evT_and eb1616 (fun b1617 hb1618 => ?_) (fun b1619 hb1620 => ?_)
          · skip
            refine fun H1621 hs Q_ hQ1622 => ?_
            have hm := hb1618
            have hl1623 := hs.olk 4 rfl
            refine ⟨_, rfl, _, _, rfl, .inl (SqL.of hl1623.1), ?_⟩
            rw [List.length_map, hl1623.2]
            refine ⟨_, _, rfl, rfl, _, rfl, ?_⟩
            rw [Option.some.inj hm]
            exact hQ1622 _ (hs.tl 0)
          · skip
            refine fun H1624 hs Q_ hQ1625 => ?_
            have hm := hb1620
            obtain ⟨x1626, ex1626, hm⟩ := bnd hm
            obtain ⟨vs1627, hl1628, hv1629⟩ := hs.lst 5 rfl
            obtain ⟨u1630, hu1631, hx1632⟩ := hv1629.ix ex1626
            have hx1632 : u1630 = (.int x1626) := hx1632
            subst hx1632
            obtain ⟨x1633, ex1633, hm⟩ := bnd hm
            obtain ⟨vs1634, hl1635, hv1636⟩ := hs.lst 5 rfl
            obtain ⟨u1637, hu1638, hx1639⟩ := hv1636.ix ex1633
            have hx1639 : u1637 = (.int x1633) := hx1639
            subst hx1639
            refine ⟨_, rfl, _, rfl, _, _, _, _, rfl, rfl, SqL.of hl1628, hu1631, _, _, rfl, rfl, (show (0 : Int) < (40 : Int) by decide), _, rfl, _, _, _, _, rfl, rfl, SqL.of hl1635, hu1638, _, _, rfl, rfl, (show (0 : Int) < (40 : Int) by decide), _, _, rfl, rfl, (by show 2 ≤ sizeLine; decide), fun p1640 n1641 => ?_⟩
            try dsimp only
            generalize ee_ : upd H1624 p1640 _ = H1642
            replace hs := (hs.newL (ys := (([x1626 % (40 : Int), (40 : Int) + (x1633 % (40 : Int))] : (List Int)) : (List Int))) n1641 ((.cons imI (.cons imI .nil)))).cast ee_
            clear ee_
            have f1644 := hs.scs 0 rfl
            refine ⟨_, _, rfl, .inl (SqL.of f1644), rfl, flat_int _, _, in_int, ?_⟩
            rw [Option.some.inj hm]
            exact hQ1625 _ (hs.tl 1)
        intro H1646 hs
        refine iteBt (fun c1645 => ?_) (fun c1645 => ?_)
        · replace hm := ift c1645 hm
          have hl1647 := hs.olk 4 rfl
          obtain ⟨d1648, ed1648, hm⟩ := bnd hm
          have hl1655 := hs.olk 4 rfl
          obtain ⟨j1649, a1650, ha1651, hd1652, hu1653, hj1654⟩ := ol_at (v := bdV) hl1655.2 ed1648
          replace hs := hs.mv 4 rfl
          replace hs := hs.brwO ha1651 hd1652
          have B1657 := hs.bd 0 rfl
          obtain ⟨r1658, er1658, hm⟩ := bnd hm
          replace hs := hs.mv 0 rfl
          refine ⟨_, rfl, .inl ⟨rfl, _, SqL.of hl1647.1⟩, _, rfl, _, rfl, _, _, _, _, rfl, rfl, SqL.of hl1655.1, hu1653, _, _, _, rfl, B1657.ob, (by kernel_rfl), a1650, d1648, r1658, rfl, (hs.frontN 1).1, (hs.frontN 1).2, er1658, fun H1659 Az1661 hc1660 => ?_⟩
          replace hs := hs.callN 1 hc1660
          replace hs := hs.mv 2 rfl
          replace hs := hs.mv 2 rfl
          replace hs := hs.retO0 ha1651 hd1652
          obtain ⟨y1663, ey1663, hm⟩ := bnd hm
          have h1664 := hs.olk 0 rfl
          obtain ⟨g1665, q1666⟩ := snoc_eq ey1663
          refine ⟨_, _, _, rfl, rfl, h1664.1, small_ (by rw [List.length_map]; have := h1664.2; omega), ?_⟩
          replace hs := hs.mv 1 rfl
          replace hs := hs.mv 1 rfl
          try dsimp only
          generalize ee_ : upd H1659 p1016 _ = H1667
          replace hs := (hs.snocO).cast ee_
          clear ee_
          rw [← q1666] at hs
          have hl1668 := hs.olk 1 rfl
          obtain ⟨d1669, ed1669, hm⟩ := bnd hm
          have hl1676 := hs.olk 1 rfl
          obtain ⟨j1670, a1671, ha1672, hd1673, hu1674, hj1675⟩ := ol_at (v := v_Own_) hl1676.2 ed1669
          replace hs := hs.mv 1 rfl
          replace hs := hs.brwO ha1672 hd1673
          obtain ⟨g1678, hm⟩ := gd hm
          replace hs := hs.mv 3 rfl
          replace hs := hs.mv 1 rfl
          replace hs := hs.joinX_Own g1678
          obtain ⟨r1679, er1679, hm⟩ := bnd hm
          replace hs := hs.mv 0 rfl
          refine ⟨_, rfl, .inl ⟨rfl, _, SqL.of hl1668.1⟩, _, rfl, _, rfl, _, _, _, _, rfl, rfl, SqL.of hl1676.1, hu1674, (a1671.w_line a1671.p_ Az1023.line), d1669, r1679, rfl, (hs.frontN 1).1, (hs.frontN 1).2, er1679, fun H1680 Az1682 hc1681 => ?_⟩
          replace hs := hs.callN 1 hc1681
          replace hs := hs.mv 1 rfl
          replace hs := hs.splitX_Own (pl := Az1023.line) (ln := r1020.line) rfl g1678
          replace hs : Sep (owns []) H H1680 [aX_Own K Az1023.line a1671 d1669, aC Az1023.line (.dK (lineK r1020.line)), aX_Own K Az1023.line Az1682 r1679, aOsH_Own K Az1023.line p1025 A1422 s1415.1 j1670, aOBd K p1016 (A1423 ++ [Az1661]) y1663, aL pz985 r982, aL pz997 r994, aL pz973 r970, aL p19 ((cutX y5 none (some (6 : Int))) : (List Int))] := hs
          replace hs := hs.mv 3 rfl
          replace hs := hs.mv 1 rfl
          replace hs := hs.retO0 ha1672 hd1673
          obtain ⟨y1684, ey1684, hm⟩ := bnd hm
          have h1685 := hs.olk 0 rfl
          obtain ⟨g1686, q1687⟩ := snoc_eq ey1684
          refine ⟨_, _, _, rfl, rfl, h1685.1, small_ (by rw [List.length_map]; have := h1685.2; omega), ?_⟩
          replace hs := hs.mv 2 rfl
          replace hs := hs.mv 1 rfl
          try dsimp only
          generalize ee_ : upd H1680 p1025 _ = H1688
          replace hs := (hs.snocO).cast ee_
          clear ee_
          rw [← q1687] at hs
          replace hs : Sep (owns []) H H1688 [aOs_Own K Az1023.line p1025 (A1422 ++ [Az1682]) y1684, aC Az1023.line (.dK (lineK r1020.line)), aL pz985 r982, aL pz997 r994, aOBd K p1016 (A1423 ++ [Az1661]) y1663, aL pz973 r970, aL p19 ((cutX y5 none (some (6 : Int))) : (List Int))] := hs.pick [6, 6, 4, 6, 6, 6, 6] 7 (by kernel_rfl)
          obtain rfl := Option.some.inj hm
          exact ⟨(A1422 ++ [Az1682]), (A1423 ++ [Az1661]), _, _, hs, rfl⟩
        · replace hm := ife c1645 hm
          replace hs : Sep (owns []) H H1646 [aOs_Own K Az1023.line p1025 A1422 s1415.1, aC Az1023.line (.dK (lineK r1020.line)), aL pz985 r982, aL pz997 r994, aOBd K p1016 A1423 s1415.2, aL pz973 r970, aL p19 ((cutX y5 none (some (6 : Int))) : (List Int))] := hs.tk 7
          obtain rfl := Option.some.inj hm
          exact ⟨A1422, A1423, _, _, hs, rfl⟩
      rintro σ' H1563 ⟨A1559, A1560, o1561, o1562, hs, rfl⟩
      obtain ⟨x1689, ex1689, hm⟩ := bnd hm
      obtain ⟨vs1690, hl1691, hv1692⟩ := hs.lst 5 rfl
      obtain ⟨u1693, hu1694, hx1695⟩ := hv1692.ix ex1689
      have hx1695 : u1693 = (.int x1689) := hx1695
      subst hx1695
      have hl1696 := hs.olk 4 rfl
      refine ⟨_, rfl, _, rfl, _, _, rfl, rfl, (show (0 : Int) < (60 : Int) by decide), _, _, _, _, rfl, rfl, SqL.of hl1691, hu1694, _, _, rfl, rfl, ⟨by decide, by decide⟩, _, rfl, _, _, rfl, .inl (SqL.of hl1696.1), ?_⟩
      rw [List.length_map, hl1696.2]
      obtain ⟨g1697, hm⟩ := gd hm
      refine ⟨_, _, rfl, rfl, g1697, ?_⟩
      obtain ⟨n1698, en1698, hm⟩ := bnd hm
      try dsimp only
      rw [Option.some.inj en1698]
      obtain ⟨d1699, ed1699, hm⟩ := bnd hm
      have hl1706 := hs.olk 4 rfl
      obtain ⟨j1700, a1701, ha1702, hd1703, hu1704, hj1705⟩ := ol_at (v := bdV) hl1706.2 ed1699
      replace hs := hs.mv 4 rfl
      replace hs := hs.brwO ha1702 hd1703
      obtain ⟨z1708, ez1708, hm⟩ := bnd hm
      obtain ⟨g1709, g1710, e1711⟩ := turnM_eq ez1708
      have f1717 := hs.bd 0 rfl
      have f1718 := hs.bd 0 rfl
      refine ⟨_, rfl, _, rfl, _, _, _, _, rfl, rfl, SqL.of hl1706.1, hu1704, _, _, _, rfl, f1717.ob, (by kernel_rfl), a1701, d1699, rfl, f1718, g1709, g1710, fun H1716 A1712 B1713 ep1715 kb1714 => ?_⟩
      replace hs := hs.put 0 rfl (aB K (A1712.w a1701.p) z1708.2) (kb1714.as ep1715) (by rw [e1711]; exact B1713.as ep1715)
      rw [← e1711]
      obtain ⟨d1719, ed1719, hm⟩ := bnd hm
      have hl1726 := hs.olk 2 rfl
      obtain ⟨j1720, a1721, ha1722, hd1723, hu1724, hj1725⟩ := ol_at (v := v_Own_) hl1726.2 ed1719
      replace hs := hs.mv 2 rfl
      replace hs := hs.brwO ha1722 hd1723
      obtain ⟨g1728, hm⟩ := gd hm
      replace hs := hs.mv 4 rfl
      replace hs := hs.mv 1 rfl
      replace hs := hs.joinX_Own g1728
      obtain ⟨r1729, er1729, hm⟩ := bnd hm
      replace hs := hs.mv 0 rfl
      refine ⟨_, rfl, _, rfl, _, _, _, _, rfl, rfl, SqL.of hl1726.1, hu1724, (a1721.w_line a1721.p_ Az1023.line), d1719, r1729, rfl, (hs.frontN 1).1, (hs.frontN 1).2, er1729, fun H1730 A1732 hc1731 => ?_⟩
      replace hs := hs.callN 1 hc1731
      refine ⟨rfl, _, dnS, ?_⟩
      refine iteD (fun c1733 => ?_) (fun c1733 => ?_)
      · replace hm := ift c1733 hm
        obtain ⟨g1734, hm⟩ := gd hm
        replace hs := hs.splitX_Own (pl := Az1023.line) (ln := r1020.line) rfl g1734
        replace hs := hs.mv 2 rfl
        replace hs := hs.mv 1 rfl
        obtain ⟨y1735, ey1735, hm⟩ := bnd hm
        obtain ⟨j1736, hj1737, ed1738⟩ := setX_ix rfl ey1735
        have ej1739 : j1736 = j1720 := Option.some.inj (hj1737.symm.trans hj1725)
        rw [ej1739] at ed1738
        replace hs := hs.retO (a' := (A1732.w_line a1721.p_ Az1023.line)) (d' := r1729.2) ha1722 hd1723 rfl
        rw [← ed1738] at hs
        replace hs := hs.mv 3 rfl
        replace hs := hs.mv 3 rfl
        obtain ⟨y1740, ey1740, hm⟩ := bnd hm
        obtain ⟨j1741, hj1742, ed1743⟩ := setX_ix rfl ey1740
        have ej1744 : j1741 = j1700 := Option.some.inj (hj1742.symm.trans hj1705)
        rw [ej1744] at ed1743
        replace hs := hs.retO (a' := (A1712.w a1701.p)) (d' := z1708.2) ha1702 hd1703 rfl
        rw [← ed1743] at hs
        replace hs : Sep (owns []) H H1730 [] := hs.tk 0
        obtain rfl := Option.some.inj hm
        have hc_ : z1417 = .rt _ := hf1419
        subst hc_
        obtain rfl := Option.some.inj hmO1421
        have hc_ : z944 = .rt _ := hf946
        subst hc_
        obtain rfl := Option.some.inj hmO948
        exact q H1730 hs
      · replace hm := ife c1733 hm
        obtain ⟨g1745, hm⟩ := gd hm
        replace hs := hs.splitX_Own (pl := Az1023.line) (ln := r1020.line) rfl g1745
        replace hs := hs.mv 2 rfl
        replace hs := hs.mv 1 rfl
        obtain ⟨y1746, ey1746, hm⟩ := bnd hm
        obtain ⟨j1747, hj1748, ed1749⟩ := setX_ix rfl ey1746
        have ej1750 : j1747 = j1720 := Option.some.inj (hj1748.symm.trans hj1725)
        rw [ej1750] at ed1749
        replace hs := hs.retO (a' := (A1732.w_line a1721.p_ Az1023.line)) (d' := r1729.2) ha1722 hd1723 rfl
        rw [← ed1749] at hs
        replace hs := hs.mv 3 rfl
        replace hs := hs.mv 3 rfl
        obtain ⟨y1751, ey1751, hm⟩ := bnd hm
        obtain ⟨j1752, hj1753, ed1754⟩ := setX_ix rfl ey1751
        have ej1755 : j1752 = j1700 := Option.some.inj (hj1753.symm.trans hj1705)
        rw [ej1755] at ed1754
        replace hs := hs.retO (a' := (A1712.w a1701.p)) (d' := z1708.2) ha1702 hd1703 rfl
        rw [← ed1754] at hs
        have hl1756 := hs.olk 0 rfl
        refine ⟨_, rfl, _, _, rfl, .inl (SqL.of hl1756.1), ?_⟩
        rw [List.length_map, hl1756.2]
        obtain ⟨g1757, hm⟩ := gd hm
        obtain ⟨z1783, eL1784, hmO1787⟩ := thenC_eq hm
        replace hs : Sep (owns []) H H1730 [aOBd K p1016 (A1560.set j1700 (A1712.w a1701.p)) y1751, aOs_Own K Az1023.line p1025 (A1559.set j1720 (A1732.w_line a1721.p_ Az1023.line)) y1746, aC Az1023.line (.dK (lineK r1020.line)), aL pz985 r982, aL pz997 r994, aL pz973 r970, aL p19 ((cutX y5 none (some (6 : Int))) : (List Int))] := hs.tk 7
        refine ⟨_, rfl, g1757.1, g1757.2, for_rangeN (lo := (0 : Int)) (n := (Int.toNat (y1751.length : Int))) (fun i1789 σ1791 H1790 => ∃ (s1781 : Unit) (o1788 : Option V), forC (m_law_l3 r1020 y1746 y1751) ((rangeL 0 (Int.toNat (y1751.length : Int))).drop i1789) s1781 = some z1783 ∧ Sep (owns []) H H1790 [aOBd K p1016 (A1560.set j1700 (A1712.w a1701.p)) y1751, aOs_Own K Az1023.line p1025 (A1559.set j1720 (A1732.w_line a1721.p_ Az1023.line)) y1746, aC Az1023.line (.dK (lineK r1020.line)), aL pz985 r982, aL pz997 r994, aL pz973 r970, aL p19 ((cutX y5 none (some (6 : Int))) : (List Int))] ∧ σ1791 = [some (.ref pscript_), some (.ref p19), some (.int k943), some (.ref pz973), some (.ref pz985), some (.ref pz997), some (.ref p1016), some (.ref p1025), some (.int k1416), some (.int n1698), o1788]) ⟨(), _, eL1784, hs, rfl⟩ ?_ ?_⟩
        · rintro i1789 σ1791 H1790 hi1792 ⟨s1781, o1788, hf1785, hs, rfl⟩
          obtain ⟨cN1786, hm, hf1785⟩ := forC_s (range_get hi1792) hf1785
          generalize hk_ : (0 : Int) + ((i1789 : Nat) : Int) = k1782 at hm ⊢
          unfold m_law_l3 at hm
          obtain ⟨d1794, ed1794, hm⟩ := bnd hm
          have hl1801 := hs.olk 0 rfl
          obtain ⟨j1795, a1796, ha1797, hd1798, hu1799, hj1800⟩ := ol_at (v := bdV) hl1801.2 ed1794
          replace hs := hs.brwO ha1797 hd1798
          obtain ⟨d1803, ed1803, hm⟩ := bnd hm
          have hl1810 := hs.olk 2 rfl
          obtain ⟨j1804, a1805, ha1806, hd1807, hu1808, hj1809⟩ := ol_at (v := v_Own_) hl1810.2 ed1803
          replace hs := hs.mv 2 rfl
          replace hs := hs.brwO ha1806 hd1807
          obtain ⟨g1812, hm⟩ := gd hm
          replace hs := hs.mv 4 rfl
          replace hs := hs.mv 1 rfl
          replace hs := hs.joinX_Own g1812
          obtain ⟨r1813, er1813, hm⟩ := bnd hm
          replace hs := hs.mv 0 rfl
          replace hs := hs.mv 2 rfl
          refine ⟨_, rfl, _, rfl, _, _, _, _, rfl, rfl, SqL.of hl1801.1, hu1799, _, rfl, _, rfl, _, _, _, _, rfl, rfl, SqL.of hl1810.1, hu1808, a1796, d1794, (a1805.w_line a1805.p_ Az1023.line), d1803, r1813, rfl, (hs.frontN 2).1, (hs.frontN 2).2, er1813, fun H1814 hc1815 => ?_⟩
          replace hs := hs.callN 2 hc1815
          refine ⟨_, dB, ?_⟩
          refine iteNot (fun c1816 => ?_) (fun c1816 => ?_)
          · replace hm := ift c1816 hm
            replace hs := hs.mv 1 rfl
            replace hs := hs.splitX_Own (pl := Az1023.line) (ln := r1020.line) rfl g1812
            replace hs : Sep (owns []) H H1814 [aX_Own K Az1023.line a1805 d1803, aC Az1023.line (.dK (lineK r1020.line)), aB K a1796 d1794, aOsH_Own K Az1023.line p1025 (A1559.set j1720 (A1732.w_line a1721.p_ Az1023.line)) y1746 j1804, aOBdH K p1016 (A1560.set j1700 (A1712.w a1701.p)) y1751 j1795, aL pz985 r982, aL pz997 r994, aL pz973 r970, aL p19 ((cutX y5 none (some (6 : Int))) : (List Int))] := hs
            replace hs := hs.mv 3 rfl
            replace hs := hs.mv 1 rfl
            replace hs := hs.retO0 ha1806 hd1807
            replace hs := hs.mv 3 rfl
            replace hs := hs.mv 3 rfl
            replace hs := hs.retO0 ha1797 hd1798
            replace hs : Sep (owns []) H H1814 [aOBd K p1016 (A1560.set j1700 (A1712.w a1701.p)) y1751, aOs_Own K Az1023.line p1025 (A1559.set j1720 (A1732.w_line a1721.p_ Az1023.line)) y1746, aC Az1023.line (.dK (lineK r1020.line)), aL pz985 r982, aL pz997 r994, aL pz973 r970, aL p19 ((cutX y5 none (some (6 : Int))) : (List Int))] := hs.tk 7
            obtain rfl := Option.some.inj hm
            exact ⟨(), _, hf1785, hs, rfl⟩
          · replace hm := ife c1816 hm
            replace hs := hs.mv 1 rfl
            replace hs := hs.splitX_Own (pl := Az1023.line) (ln := r1020.line) rfl g1812
            replace hs : Sep (owns []) H H1814 [aX_Own K Az1023.line a1805 d1803, aC Az1023.line (.dK (lineK r1020.line)), aB K a1796 d1794, aOsH_Own K Az1023.line p1025 (A1559.set j1720 (A1732.w_line a1721.p_ Az1023.line)) y1746 j1804, aOBdH K p1016 (A1560.set j1700 (A1712.w a1701.p)) y1751 j1795, aL pz985 r982, aL pz997 r994, aL pz973 r970, aL p19 ((cutX y5 none (some (6 : Int))) : (List Int))] := hs
            replace hs := hs.mv 3 rfl
            replace hs := hs.mv 1 rfl
            replace hs := hs.retO0 ha1806 hd1807
            replace hs := hs.mv 3 rfl
            replace hs := hs.mv 3 rfl
            replace hs := hs.retO0 ha1797 hd1798
            replace hs : Sep (owns []) H H1814 [] := hs.tk 0
            obtain rfl := Option.some.inj hm
            have hc_ : z1783 = .rt _ := hf1785
            subst hc_
            obtain rfl := Option.some.inj hmO1787
            have hc_ : z1417 = .rt _ := hf1419
            subst hc_
            obtain rfl := Option.some.inj hmO1421
            have hc_ : z944 = .rt _ := hf946
            subst hc_
            obtain rfl := Option.some.inj hmO948
            exact q H1814 hs
        rintro σ1791 H1790 ⟨s1781, o1788, hf1785, hs, rfl⟩
        have ez_ := forC_e (Nat.le_of_eq range_len) hf1785
        subst ez_
        have hm := hmO1787
        replace hs : Sep (owns []) H H1790 [aOs_Own K Az1023.line p1025 (A1559.set j1720 (A1732.w_line a1721.p_ Az1023.line)) y1746, aC Az1023.line (.dK (lineK r1020.line)), aL pz985 r982, aL pz997 r994, aOBd K p1016 (A1560.set j1700 (A1712.w a1701.p)) y1751, aL pz973 r970, aL p19 ((cutX y5 none (some (6 : Int))) : (List Int))] := hs.pick [6, 6, 2, 6, 6, 6, 6] 7 (by kernel_rfl)
        obtain rfl := Option.some.inj hm
        exact ⟨(y1746, y1751), (A1559.set j1720 (A1732.w_line a1721.p_ Az1023.line)), (A1560.set j1700 (A1712.w a1701.p)), _, _, _, hf1419, hs, rfl⟩
    rintro σ1429 H1428 ⟨s1415, A1422, A1423, o1424, o1425, o1426, hf1419, hs, rfl⟩
    have ez_ := forC_e (Nat.le_of_eq range_len) hf1419
    subst ez_
    have hm := hmO1421
    have hl1817 := hs.olk 4 rfl
    refine ⟨_, rfl, _, _, rfl, .inl (SqL.of hl1817.1), ?_⟩
    rw [List.length_map, hl1817.2]
    obtain ⟨g1818, hm⟩ := gd hm
    obtain ⟨z1844, eL1845, hmO1848⟩ := thenC_eq hm
    replace hs : Sep (owns []) H H1428 [aOs_Own K Az1023.line p1025 A1422 s1415.1, aC Az1023.line (.dK (lineK r1020.line)), aL pz985 r982, aL pz997 r994, aOBd K p1016 A1423 s1415.2, aL pz973 r970, aL p19 ((cutX y5 none (some (6 : Int))) : (List Int))] := hs.tk 7
    refine ⟨_, rfl, g1818.1, g1818.2, for_rangeN (lo := (0 : Int)) (n := (Int.toNat (s1415.2.length : Int))) (fun i1852 σ1854 H1853 => ∃ (s1842 : Unit) (o1849 : Option V) (o1850 : Option V) (o1851 : Option V), forC (m_law_l4 r1020 s1415) ((rangeL 0 (Int.toNat (s1415.2.length : Int))).drop i1852) s1842 = some z1844 ∧ Sep (owns []) H H1853 [aOs_Own K Az1023.line p1025 A1422 s1415.1, aC Az1023.line (.dK (lineK r1020.line)), aL pz985 r982, aL pz997 r994, aOBd K p1016 A1423 s1415.2, aL pz973 r970, aL p19 ((cutX y5 none (some (6 : Int))) : (List Int))] ∧ σ1854 = [some (.ref pscript_), some (.ref p19), some (.int k943), some (.ref pz973), some (.ref pz985), some (.ref pz997), some (.ref p1016), some (.ref p1025), o1849, o1850, o1851]) ⟨(), _, _, _, eL1845, hs, rfl⟩ ?_ ?_⟩
    · rintro i1852 σ1854 H1853 hi1855 ⟨s1842, o1849, o1850, o1851, hf1846, hs, rfl⟩
      obtain ⟨cN1847, hm, hf1846⟩ := forC_s (range_get hi1855) hf1846
      generalize hk_ : (0 : Int) + ((i1852 : Nat) : Int) = k1843 at hm ⊢
      unfold m_law_l4 at hm
      obtain ⟨d1857, ed1857, hm⟩ := bnd hm
      have hl1864 := hs.olk 4 rfl
      obtain ⟨j1858, a1859, ha1860, hd1861, hu1862, hj1863⟩ := ol_at (v := bdV) hl1864.2 ed1857
      replace hs := hs.mv 4 rfl
      replace hs := hs.brwO ha1860 hd1861
      obtain ⟨d1866, ed1866, hm⟩ := bnd hm
      have hl1873 := hs.olk 2 rfl
      obtain ⟨j1867, a1868, ha1869, hd1870, hu1871, hj1872⟩ := ol_at (v := v_Own_) hl1873.2 ed1866
      replace hs := hs.mv 2 rfl
      replace hs := hs.brwO ha1869 hd1870
      obtain ⟨g1875, hm⟩ := gd hm
      replace hs := hs.mv 4 rfl
      replace hs := hs.mv 1 rfl
      replace hs := hs.joinX_Own g1875
      obtain ⟨r1876, er1876, hm⟩ := bnd hm
      replace hs := hs.mv 0 rfl
      replace hs := hs.mv 2 rfl
      refine ⟨_, rfl, _, rfl, _, _, _, _, rfl, rfl, SqL.of hl1864.1, hu1862, _, rfl, _, rfl, _, _, _, _, rfl, rfl, SqL.of hl1873.1, hu1871, a1859, d1857, (a1868.w_line a1868.p_ Az1023.line), d1866, (500 : Int), (774 : Int), r1876, rfl, (hs.frontN 2).1, (hs.frontN 2).2, er1876, fun H1877 hc1878 => ?_⟩
      replace hs := hs.callN 2 hc1878
      refine ⟨_, dB, ?_⟩
      refine iteNot (fun c1879 => ?_) (fun c1879 => ?_)
      · replace hm := ift c1879 hm
        replace hs := hs.mv 1 rfl
        replace hs := hs.splitX_Own (pl := Az1023.line) (ln := r1020.line) rfl g1875
        replace hs : Sep (owns []) H H1877 [aX_Own K Az1023.line a1868 d1866, aC Az1023.line (.dK (lineK r1020.line)), aB K a1859 d1857, aOsH_Own K Az1023.line p1025 A1422 s1415.1 j1867, aOBdH K p1016 A1423 s1415.2 j1858, aL pz985 r982, aL pz997 r994, aL pz973 r970, aL p19 ((cutX y5 none (some (6 : Int))) : (List Int))] := hs
        replace hs := hs.mv 3 rfl
        replace hs := hs.mv 1 rfl
        replace hs := hs.retO0 ha1869 hd1870
        replace hs := hs.mv 3 rfl
        replace hs := hs.mv 3 rfl
        replace hs := hs.retO0 ha1860 hd1861
        replace hs : Sep (owns []) H H1877 [aOs_Own K Az1023.line p1025 A1422 s1415.1, aC Az1023.line (.dK (lineK r1020.line)), aL pz985 r982, aL pz997 r994, aOBd K p1016 A1423 s1415.2, aL pz973 r970, aL p19 ((cutX y5 none (some (6 : Int))) : (List Int))] := hs.pick [6, 6, 2, 6, 6, 6, 6] 7 (by kernel_rfl)
        obtain rfl := Option.some.inj hm
        exact ⟨(), _, _, _, hf1846, hs, rfl⟩
      · replace hm := ife c1879 hm
        replace hs := hs.mv 1 rfl
        replace hs := hs.splitX_Own (pl := Az1023.line) (ln := r1020.line) rfl g1875
        replace hs : Sep (owns []) H H1877 [aX_Own K Az1023.line a1868 d1866, aC Az1023.line (.dK (lineK r1020.line)), aB K a1859 d1857, aOsH_Own K Az1023.line p1025 A1422 s1415.1 j1867, aOBdH K p1016 A1423 s1415.2 j1858, aL pz985 r982, aL pz997 r994, aL pz973 r970, aL p19 ((cutX y5 none (some (6 : Int))) : (List Int))] := hs
        replace hs := hs.mv 3 rfl
        replace hs := hs.mv 1 rfl
        replace hs := hs.retO0 ha1869 hd1870
        replace hs := hs.mv 3 rfl
        replace hs := hs.mv 3 rfl
        replace hs := hs.retO0 ha1860 hd1861
        replace hs : Sep (owns []) H H1877 [] := hs.tk 0
        obtain rfl := Option.some.inj hm
        have hc_ : z1844 = .rt _ := hf1846
        subst hc_
        obtain rfl := Option.some.inj hmO1848
        have hc_ : z944 = .rt _ := hf946
        subst hc_
        obtain rfl := Option.some.inj hmO948
        exact q H1877 hs
    rintro σ1854 H1853 ⟨s1842, o1849, o1850, o1851, hf1846, hs, rfl⟩
    have ez_ := forC_e (Nat.le_of_eq range_len) hf1846
    subst ez_
    have hm := hmO1848
    replace hs : Sep (owns []) H H1853 [aL p19 ((cutX y5 none (some (6 : Int))) : (List Int))] := (hs.mv 6 rfl).tk 1
    obtain rfl := Option.some.inj hm
    exact ⟨(), _, _, _, _, _, _, _, _, _, hf946, hs, rfl⟩
  rintro σ960 H959 ⟨s942, o949, o950, o951, o952, o953, o954, o955, o956, o957, hf946, hs, rfl⟩
  have ez_ := forC_e (Nat.le_of_eq range_len) hf946
  subst ez_
  have hm := hmO948
  replace hs : Sep (owns []) H H959 [] := hs.tk 0
  obtain rfl := Option.some.inj hm
  exact q H959 hs
end

/-! ### the turns of any board in plain words: beats change the places alone -/
/-- all but the places and the beat -/
def BD.core (D : BD) : BD := { D with m := { D.m with pl := [] }, beat := 0 }
theorem core_m (D : BD) (l : List Int) (b : Int) : ({ D with m := { D.m with pl := l }, beat := b } : BD).core = D.core := rfl
theorem comes_pl (M : MD) (v : Int) : ∃ l, M.comes v = { M with pl := l } ∧ l.length = M.pl.length := by
  unfold MD.comes
  split
  · exact ⟨_, rfl, by show ((M.pl.set 2 _).set 4 _).length = _; rw [List.length_set, List.length_set]⟩
  · exact ⟨_, rfl, by rw [List.length_set]⟩
theorem tick_keep (D : BD) : D.tick.core = D.core ∧ D.tick.m.pl.length = D.m.pl.length ∧ D.tick.beat = D.beat + 1 := by
  unfold BD.tick BD.lineComes
  obtain ⟨l, e, h⟩ := comes_pl D.m (lineGet D.ln (D.beat + 1) (D.m.place 4))
  show ((({ D with beat := D.beat + 1, m := D.m.comes (lineGet D.ln (D.beat + 1) (D.m.place 4)) } : BD)).timerGoes).core = _ ∧ _
  rw [e]
  unfold BD.timerGoes
  dsimp only
  split
  · split
    · exact ⟨rfl, by show ((l.set 2 _).set 0 _).length = _; rw [List.length_set, List.length_set, h], rfl⟩
    · exact ⟨rfl, by show (l.set 0 _).length = _; rw [List.length_set, h], rfl⟩
  · exact ⟨rfl, h, rfl⟩
theorem pass_keep (D : BD) : ∀ n : Nat, (D.pass n).core = D.core ∧ (D.pass n).m.pl.length = D.m.pl.length ∧ (D.pass n).beat = D.beat + n
  | 0 => ⟨rfl, rfl, (Int.add_zero _).symm⟩
  | n + 1 => by
    obtain ⟨h1, h2, h3⟩ := pass_keep D n
    obtain ⟨g1, g2, g3⟩ := tick_keep (D.pass n)
    exact ⟨g1.trans h1, g2.trans h2, by show (D.pass n).tick.beat = _; rw [g3, h3]; omega⟩
section
variable {D E : BD}
theorem core_fl (h : D.core = E.core) : D.m.fl = E.m.fl := by have e := congrArg (fun z : BD => z.m.fl) h; exact e
theorem core_ra (h : D.core = E.core) : D.m.ra = E.m.ra := by have e := congrArg (fun z : BD => z.m.ra) h; exact e
theorem core_a (h : D.core = E.core) : D.a = E.a := by have e := congrArg (fun z : BD => z.a) h; exact e
theorem core_b (h : D.core = E.core) : D.b = E.b := by have e := congrArg (fun z : BD => z.b) h; exact e
theorem core_pc (h : D.core = E.core) : D.pc = E.pc := by have e := congrArg (fun z : BD => z.pc) h; exact e
theorem core_sp (h : D.core = E.core) : D.sp = E.sp := by have e := congrArg (fun z : BD => z.sp) h; exact e
theorem core_zero (h : D.core = E.core) : D.zero = E.zero := by have e := congrArg (fun z : BD => z.zero) h; exact e
theorem core_lets (h : D.core = E.core) : D.lets = E.lets := by have e := congrArg (fun z : BD => z.lets) h; exact e
theorem core_asleep (h : D.core = E.core) : D.asleep = E.asleep := by have e := congrArg (fun z : BD => z.asleep) h; exact e
theorem core_stop (h : D.core = E.core) : D.stop = E.stop := by have e := congrArg (fun z : BD => z.stop) h; exact e
theorem core_sent (h : D.core = E.core) : D.sent = E.sent := by have e := congrArg (fun z : BD => z.sent) h; exact e
theorem core_bend (h : D.core = E.core) : D.bend = E.bend := by have e := congrArg (fun z : BD => z.bend) h; exact e
theorem core_ln (h : D.core = E.core) : D.ln = E.ln := by have e := congrArg (fun z : BD => z.ln) h; exact e
theorem turn_asleep (hs : D.stop = none) (h : D.asleep = true ∧ D.pending = 0) : D.turn = (("asleep" : Str), ({ D with tc := [] } : BD).pass 1) := by
  unfold BD.turn BD.turnB
  exact (if_neg (show ¬ D.stop.isSome = true by rw [hs]; simp)).trans (if_pos h)
theorem turn_inter (hs : D.stop = none) (h : ¬ (D.asleep = true ∧ D.pending = 0)) (hl : D.lets = true ∧ 0 < D.pending) : D.turn = ({ D with tc := [], asleep := false } : BD).interrupt := by
  unfold BD.turn BD.turnB
  refine (if_neg (show ¬ D.stop.isSome = true by rw [hs]; simp)).trans ((if_neg h).trans ?_)
  unfold BD.wake
  exact if_pos hl
theorem turn_deed (hs : D.stop = none) (h : ¬ (D.asleep = true ∧ D.pending = 0)) (hl : ¬ (D.lets = true ∧ 0 < D.pending)) : D.turn = ({ D with tc := [], asleep := false } : BD).deed := by
  unfold BD.turn BD.turnB
  refine (if_neg (show ¬ D.stop.isSome = true by rw [hs]; simp)).trans ((if_neg h).trans ?_)
  unfold BD.wake
  exact if_neg hl
theorem deed_of {w x : Int} {k : Nat} (h0 : 0 ≤ D.pc) (h1 : D.pc < 768) (hw : D.m.at D.pc = some w) (hk : w = 1024 * (k : Int) + x) (hx : 0 ≤ x ∧ x < 1024) (k23 : k < 23 := by decide) (k0 : k ≠ 0 := by decide)
    (hb : barOf D.m D.pc (addrs k x D.b D.sp).1 (addrs k x D.b D.sp).2 = none) : D.deed = (("deed" : Str), D.deedA k x (addrs k x D.b D.sp)) := by
  unfold BD.deed
  rw [if_neg (by omega), hw, show (some w).getD 0 = w from rfl]
  have ek : (w / 1024).toNat = k := by omega
  have ex : w % 1024 = x := by omega
  unfold BD.deedW
  rw [ek, ex, if_neg (by omega), if_neg k0]
  unfold BD.deedB
  rw [hb]
/-- an interrupt whose two words can be pushed -/
theorem inter_of (h1 : 512 < D.sp) (h2 : D.sp < 768) : D.interrupt = (("interrupt" : Str), D.inter) := by
  unfold BD.interrupt
  rw [barRam (by omega) h2, barRam (x := D.sp - 1) (by omega) (by omega)]
end
theorem at_ram {M : MD} {i : Int} (h0 : 512 ≤ i) (h1 : i < 768) : M.at i = M.ra[(i - 512).toNat]? := by
  unfold MD.at
  rw [if_neg (by omega), if_neg (by omega), if_pos h1]
theorem at_place {M : MD} {i : Int} (h0 : 768 ≤ i) (h1 : i ≤ 773) (hl : M.pl.length = 6) : ∃ v, M.at i = some v ∧ v = M.place (i - 768).toNat := by
  unfold MD.at MD.place
  rw [if_neg (by omega), if_neg (by omega), if_neg (by omega), List.getD_eq_getElem?_getD]
  have : (i - 768).toNat < M.pl.length := by omega
  rw [List.getElem?_eq_getElem this]
  exact ⟨_, rfl, rfl⟩
theorem put_fl (M : MD) (x w : Int) : (M.put x w).fl = M.fl := by
  unfold MD.put; split
  · rfl
  · split <;> rfl
theorem put_ra (M : MD) {x : Int} (w : Int) (h : 768 ≤ x) : (M.put x w).ra = M.ra := by
  unfold MD.put; rw [if_neg (by omega)]; split <;> rfl
theorem put_len (M : MD) (x w : Int) : (M.put x w).ra.length = M.ra.length ∧ (M.put x w).pl.length = M.pl.length := by
  unfold MD.put; split
  · exact ⟨List.length_set, rfl⟩
  · split
    · exact ⟨rfl, List.length_set⟩
    · exact ⟨rfl, List.length_set⟩

/-! ### the own board and the board: the memory -/
def mem (m : MD) : List Int := m.fl ++ m.ra ++ m.pl
def W16 (x : Int) : Prop := 0 ≤ x ∧ x ≤ 65535
structure WM (m : MD) : Prop where
  lf : m.fl.length = 512
  lr : m.ra.length = 256
  lp : m.pl.length = 6
  wf : ∀ x ∈ m.fl, W16 x
  wr : ∀ x ∈ m.ra, W16 x
  wp : ∀ x ∈ m.pl, W16 x
theorem W16.or {x y : Int} (hx : W16 x) (hy : W16 y) : W16 (Builtin.bitOr x y) := by
  obtain ⟨a, rfl⟩ : ∃ a : Nat, x = a := ⟨x.toNat, by have := hx.1; omega⟩
  obtain ⟨b, rfl⟩ : ∃ b : Nat, y = b := ⟨y.toNat, by have := hy.1; omega⟩
  have e : Builtin.bitOr (a : Int) (b : Int) = ((a ||| b : Nat) : Int) := by rw [Bits.bitOr_pp (by omega) (by omega)]; simp
  rw [e]
  have h1 : a < 2 ^ 16 := by have := hx.2; omega
  have h2 : b < 2 ^ 16 := by have := hy.2; omega
  have := Nat.or_lt_two_pow h1 h2
  exact ⟨by omega, by omega⟩
theorem W16.and {x y : Int} (hx : W16 x) (hy : W16 y) : W16 (Builtin.bitAnd x y) := by
  obtain ⟨a, rfl⟩ : ∃ a : Nat, x = a := ⟨x.toNat, by have := hx.1; omega⟩
  obtain ⟨b, rfl⟩ : ∃ b : Nat, y = b := ⟨y.toNat, by have := hy.1; omega⟩
  have e : Builtin.bitAnd (a : Int) (b : Int) = ((a &&& b : Nat) : Int) := by rfl
  rw [e]
  have h1 : a < 2 ^ 16 := by have := hx.2; omega
  have := Nat.lt_of_le_of_lt (Nat.and_le_left (n := a) (m := b)) h1
  exact ⟨by omega, by omega⟩
theorem W16.xor {x y : Int} (hx : W16 x) (hy : W16 y) : W16 (Builtin.bitXor x y) := by
  obtain ⟨a, rfl⟩ : ∃ a : Nat, x = a := ⟨x.toNat, by have := hx.1; omega⟩
  obtain ⟨b, rfl⟩ : ∃ b : Nat, y = b := ⟨y.toNat, by have := hy.1; omega⟩
  have e : Builtin.bitXor (a : Int) (b : Int) = ((a ^^^ b : Nat) : Int) := by rw [Bits.bitXor_pp (by omega) (by omega)]; simp
  rw [e]
  have h1 : a < 2 ^ 16 := by have := hx.2; omega
  have h2 : b < 2 ^ 16 := by have := hy.2; omega
  have := Nat.xor_lt_two_pow h1 h2
  exact ⟨by omega, by omega⟩
theorem and_not {x w : Int} (hx : W16 x) (hw : W16 w) : x - Builtin.bitAnd x w = Builtin.bitAnd x (65535 - w) := by
  obtain ⟨a, rfl⟩ : ∃ a : Nat, x = a := ⟨x.toNat, by have := hx.1; omega⟩
  obtain ⟨b, rfl⟩ : ∃ b : Nat, w = b := ⟨w.toNat, by have := hw.1; omega⟩
  have h1 : a < 2 ^ 16 := by have := hx.2; omega
  have h2 : b < 2 ^ 16 := by have := hw.2; omega
  have e1 : Builtin.bitAnd (a : Int) (b : Int) = ((a &&& b : Nat) : Int) := by rfl
  have e2 : (65535 : Int) - (b : Int) = ((2 ^ 16 - (b + 1) : Nat) : Int) := by omega
  have e3 : Builtin.bitAnd (a : Int) ((2 ^ 16 - (b + 1) : Nat) : Int) = ((a &&& (2 ^ 16 - (b + 1)) : Nat) : Int) := by rfl
  rw [e1, e2, e3]
  have dis : (a &&& b) &&& (a &&& (2 ^ 16 - (b + 1))) = 0 := by
    apply Nat.eq_of_testBit_eq
    intro i
    simp only [Nat.testBit_and, Nat.zero_testBit, Nat.testBit_two_pow_sub_succ h2]
    cases a.testBit i <;> cases b.testBit i <;> simp
  have un : (a &&& b) ||| (a &&& (2 ^ 16 - (b + 1))) = a := by
    apply Nat.eq_of_testBit_eq
    intro i
    simp only [Nat.testBit_or, Nat.testBit_and, Nat.testBit_two_pow_sub_succ h2]
    by_cases hi : i < 16
    · simp only [hi, decide_true]; cases a.testBit i <;> cases b.testBit i <;> simp
    · have : a.testBit i = false := Nat.testBit_lt_two_pow (Nat.lt_of_lt_of_le h1 (Nat.pow_le_pow_right (by decide) (by omega)))
      simp [this]
  have sm := nat_or_add_and (a &&& b) (a &&& (2 ^ 16 - (b + 1)))
  rw [un, dis] at sm
  omega
theorem mem_at {m : MD} (h : WM m) {i : Int} (h0 : 0 ≤ i) : atI (mem m) i = m.at i := by
  unfold MD.at
  have e : atI (mem m) i = (mem m)[i.toNat]? := by
    by_cases hl : i.toNat < (mem m).length
    · rw [List.getElem?_eq_getElem hl]
      exact atI_z h0 (List.getElem?_eq_getElem hl)
    · rw [List.getElem?_eq_none (by omega)]
      unfold atI ixN
      rw [if_pos h0, if_neg (by omega)]; rfl
  rw [e]
  have hl : (mem m).length = 774 := by unfold mem; rw [List.length_append, List.length_append, h.lf, h.lr, h.lp]
  by_cases c : 773 < i
  · rw [if_pos (.inr c), List.getElem?_eq_none (by omega)]
  · rw [if_neg (by omega)]
    unfold mem
    by_cases c1 : i < 512
    · rw [if_pos c1, List.append_assoc, List.getElem?_append_left (by rw [h.lf]; omega)]
    · rw [if_neg c1]
      by_cases c2 : i < 768
      · rw [if_pos c2, List.append_assoc, List.getElem?_append_right (by rw [h.lf]; omega), List.getElem?_append_left (by rw [h.lf, h.lr]; omega), h.lf]
        congr 1; omega
      · rw [if_neg c2, List.getElem?_append_right (by rw [List.length_append, h.lf, h.lr]; omega), List.length_append, h.lf, h.lr]
        congr 1; omega
theorem place_at {m : MD} (h : WM m) {k : Nat} (hk : k < 6) : m.at (768 + (k : Int)) = some (m.place k) := by
  obtain ⟨v, e1, e2⟩ := at_place (M := m) (i := 768 + (k : Int)) (by omega) (by omega) h.lp
  rw [e1, e2]
  congr 2; omega
theorem mem_pl {m : MD} (h : WM m) {i : Int} {k : Nat} (hi : i = 768 + (k : Int)) (hk : k < 6) : atI (mem m) i = some (m.place k) := by
  rw [mem_at h (by omega), hi]; exact place_at h hk
theorem place_w {m : MD} (h : WM m) (k : Nat) (hk : k < 6) : W16 (m.place k) := by
  unfold MD.place
  rw [List.getD_eq_getElem?_getD, List.getElem?_eq_getElem (by rw [h.lp]; exact hk)]
  exact h.wp _ (List.getElem_mem _)
theorem set_w {l : List Int} {k : Nat} {v : Int} (h : ∀ x ∈ l, W16 x) (hv : W16 v) : ∀ x ∈ l.set k v, W16 x := fun x hx => by
  rcases List.mem_or_eq_of_mem_set hx with z | z
  · exact h x z
  · rw [z]; exact hv
theorem WM.setPlace {m : MD} (h : WM m) (k : Nat) {v : Int} (hv : W16 v) : WM (m.setPlace k v) := ⟨h.lf, h.lr, by show (m.pl.set k v).length = 6; rw [List.length_set]; exact h.lp, h.wf, h.wr, set_w h.wp hv⟩
theorem WM.raise {m : MD} (h : WM m) {b : Int} (hb : W16 b) : WM (m.raise b) := ⟨h.lf, h.lr, by show (m.pl.set 2 _).length = 6; rw [List.length_set]; exact h.lp, h.wf, h.wr, set_w h.wp ((place_w h 2 (by decide)).or hb)⟩
theorem setX_pl {m : MD} (h : WM m) {i v : Int} {k : Nat} (hi : i = 768 + (k : Int)) (hk : k < 6) : setX (mem m) i v = some (mem (m.setPlace k v)) := by
  unfold setX ixN
  have hl : (mem m).length = 774 := by unfold mem; rw [List.length_append, List.length_append, h.lf, h.lr, h.lp]
  rw [if_pos (by omega), if_pos (by omega)]
  show some ((mem m).set i.toNat v) = _
  unfold mem MD.setPlace
  rw [show i.toNat = (m.fl ++ m.ra).length + k by rw [List.length_append, h.lf, h.lr]; omega, List.set_append_right _ _ (by omega)]
  congr 3; omega
theorem setX_ra {m : MD} (h : WM m) {i v : Int} (h0 : 512 ≤ i) (h1 : i < 768) : setX (mem m) i v = some (mem { m with ra := m.ra.set (i - 512).toNat v }) := by
  unfold setX ixN
  have hl : (mem m).length = 774 := by unfold mem; rw [List.length_append, List.length_append, h.lf, h.lr, h.lp]
  rw [if_pos (by omega), if_pos (by omega)]
  show some ((mem m).set i.toNat v) = _
  unfold mem
  rw [List.append_assoc, List.set_append_right _ _ (by rw [h.lf]; omega), List.set_append_left _ _ (by rw [h.lf, h.lr]; omega), ← List.append_assoc, h.lf]
  congr 4; omega

/-! ### a board whose data are in bounds stays so (no law's own board) -/
def WL (l : List (Int × Int)) : Prop := ∀ p ∈ l, 0 ≤ p.2 ∧ p.2 < 4
theorem look_w {l : List (Int × Int)} (h : WL l) {b d : Int} (hd : W16 d) : W16 ((lookI l b).getD d) := by
  unfold lookI
  cases e : l.find? (fun p => decide (p.1 = b)) with
  | none => exact hd
  | some p =>
    have := h p (List.mem_of_find?_eq_some e)
    show W16 p.2
    exact ⟨by omega, by omega⟩
/-- one beat of the board's memory -/
def MD.beat1 (m : MD) (v : Int) : MD :=
  if 0 < (m.comes v).place 1 then
    (if (m.comes v).place 1 ≤ (m.comes v).place 0 + 1 then ((m.comes v).raise 1).setPlace 0 0 else (m.comes v).setPlace 0 ((m.comes v).place 0 + 1))
  else m.comes v
theorem tick_m (D : BD) : D.tick = { D with beat := D.beat + 1, m := D.m.beat1 ((lookI D.ln (D.beat + 1)).getD (D.m.place 4)) } := by
  unfold BD.tick BD.lineComes BD.timerGoes MD.beat1
  show (if 0 < (D.m.comes (lineGet D.ln (D.beat + 1) (D.m.place 4))).place 1 then _ else _) = _
  have e : lineGet D.ln (D.beat + 1) (D.m.place 4) = (lookI D.ln (D.beat + 1)).getD (D.m.place 4) := rfl
  rw [← e]
  split
  · split <;> rfl
  · rfl
theorem comes_w {m : MD} (h : WM m) {v : Int} (hv : W16 v) : WM (m.comes v) := by
  unfold MD.comes
  split
  · exact (h.raise ⟨by decide, by decide⟩).setPlace 4 hv
  · exact h.setPlace 4 hv
theorem beat1_w {m : MD} (h : WM m) {v : Int} (hv : W16 v) : WM (m.beat1 v) := by
  have hc := comes_w h hv
  unfold MD.beat1
  split
  · split
    · exact (hc.raise ⟨by decide, by decide⟩).setPlace 0 ⟨by decide, by decide⟩
    · rename_i c1 c2
      have a := place_w hc 0 (by decide)
      have b := place_w hc 1 (by decide)
      exact hc.setPlace 0 ⟨by have := a.1; omega, by have := b.2; omega⟩
  · exact hc
theorem with_bm {D E : BD} {x : Int} {y : MD} (h : E = { D with beat := x, m := y }) (b : Int) (m : MD) : ({ E with beat := b, m := m } : BD) = { D with beat := b, m := m } := by subst h; rfl
theorem pass_m (D : BD) : ∀ n : Nat, D.pass n = { D with beat := (D.pass n).beat, m := (D.pass n).m }
  | 0 => rfl
  | n + 1 => by
    have ih := pass_m D n
    show (D.pass n).tick = { D with beat := ((D.pass n).tick).beat, m := ((D.pass n).tick).m }
    have h : (D.pass n).tick = { D.pass n with beat := ((D.pass n).tick).beat, m := ((D.pass n).tick).m } := by rw [tick_m]
    exact h.trans (with_bm ih _ _)
theorem pass_w {D : BD} (hm : WM D.m) (hl : WL D.ln) : ∀ n : Nat, WM (D.pass n).m
  | 0 => hm
  | n + 1 => by
    have hw := pass_w hm hl n
    have el : (D.pass n).ln = D.ln := by have := congrArg BD.ln (pass_m D n); exact this
    show WM ((D.pass n).tick).m
    rw [tick_m]
    exact beat1_w hw (look_w (by rw [el]; exact hl) (place_w hw 4 (by decide)))
theorem barTo_no {i : Int} (h : barTo i = none) : 512 ≤ i ∧ i ≤ 773 ∧ i ≠ 772 := by
  unfold barTo at h
  split at h
  · cases h
  · split at h
    · cases h
    · split at h
      · cases h
      · omega
theorem put_w {m : MD} (h : WM m) {i w : Int} (hb : barTo i = none) (hw : W16 w) : WM (m.put i w) := by
  obtain ⟨b1, b2, b3⟩ := barTo_no hb
  obtain ⟨l1, l2⟩ := put_len m i w
  refine ⟨by rw [put_fl]; exact h.lf, l1.trans h.lr, l2.trans h.lp, by rw [put_fl]; exact h.wf, ?_, ?_⟩
  · unfold MD.put; split
    · exact set_w h.wr hw
    · split <;> exact h.wr
  · unfold MD.put; split
    · exact h.wp
    · split
      · exact set_w h.wp ((place_w h 2 (by decide)).and ⟨by have := hw.2; omega, by have := hw.1; omega⟩)
      · exact set_w h.wp hw
theorem at_none_iff {m : MD} (h : WM m) (i : Int) : (m.at i).isNone = true ↔ (773 < i ∨ i < 0) := by
  unfold MD.at
  by_cases c : i < 0 ∨ 773 < i
  · rw [if_pos c]; exact ⟨fun _ => by omega, fun _ => rfl⟩
  · rw [if_neg c]
    refine ⟨fun z => ?_, fun z => by omega⟩
    split at z
    · rw [List.getElem?_eq_getElem (by rw [h.lf]; omega)] at z; cases z
    · split at z
      · rw [List.getElem?_eq_getElem (by rw [h.lr]; omega)] at z; cases z
      · rw [List.getElem?_eq_getElem (by rw [h.lp]; omega)] at z; cases z
/-- what was touched, of two kinds -/
def TcOk (l : List (Str × Int)) : Prop := ∀ p ∈ l, p.1 = "r" ∨ p.1 = "w"
theorem TcOk.snoc {l : List (Str × Int)} (h : TcOk l) {s : Str} {i : Int} (hs : s = "r" ∨ s = "w") : TcOk (l ++ [(s, i)]) := fun p hp => by
  rcases List.mem_append.mp hp with z | z
  · exact h p z
  · rw [List.mem_singleton.mp z]; exact hs
theorem fetches_eq : ∀ (l : List Int) {D : BD}, D.bend = 0 → TcOk D.tc → (∀ i ∈ l, 0 ≤ (D.m.at i).getD 0) → ∃ t, TcOk t ∧ D.fetches l = (l.map (fun i => (D.m.at i).getD 0), { D with tc := t, bend := 0 })
  | [], D, hb, ht, _ => ⟨D.tc, ht, by
    show (([] : List Int), D) = ([], { D with tc := D.tc, bend := 0 })
    rw [← hb]⟩
  | i :: r, D, hb, ht, h => by
    obtain ⟨t, et, e⟩ := fetches_eq r (D := D.fetch i) rfl (TcOk.snoc ht (.inl rfl)) (fun j hj => h j (List.mem_cons_of_mem _ hj))
    refine ⟨t, et, ?_⟩
    show (D.fetchV i :: ((D.fetch i).fetches r).1, ((D.fetch i).fetches r).2) = _
    rw [e]
    have ev : D.fetchV i = (D.m.at i).getD 0 := by
      unfold BD.fetchV; rw [hb]; exact xor0 (h i List.mem_cons_self)
    rw [ev]; rfl
theorem k22 {k : Nat} (h0 : k ≠ 0) (h : k < 23) : k = 1 ∨ k = 2 ∨ k = 3 ∨ k = 4 ∨ k = 5 ∨ k = 6 ∨ k = 7 ∨ k = 8 ∨ k = 9 ∨ k = 10 ∨ k = 11 ∨ k = 12 ∨ k = 13 ∨ k = 14 ∨ k = 15 ∨ k = 16 ∨ k = 17 ∨ k = 18 ∨ k = 19 ∨ k = 20 ∨ k = 21 ∨ k = 22 := by omega
/-- the board is as one may be -/
structure WD (D : BD) (n : Nat) : Prop where
  m : WM D.m
  ln : WL D.ln
  a : W16 D.a
  b : W16 D.b
  pc : W16 D.pc
  bend : D.bend = 0
  sent : D.sent.length ≤ n
  stop : stOk D.stop = true
  tc : TcOk D.tc
theorem WD.le {D : BD} {n k : Nat} (h : WD D n) (l : n ≤ k) : WD D k := ⟨h.m, h.ln, h.a, h.b, h.pc, h.bend, Nat.le_trans h.sent l, h.stop, h.tc⟩
theorem WD.pass {D : BD} {n : Nat} (h : WD D n) (k : Nat) : WD (D.pass k) n := by
  have w := pass_w h.m h.ln k
  rw [pass_m D k]
  exact ⟨w, h.ln, h.a, h.b, h.pc, h.bend, h.sent, h.stop, h.tc⟩
theorem WD.store {D : BD} {n : Nat} (h : WD D n) {i w : Int} (hb : barTo i = none) (hw : W16 w) : WD (D.store i w) (n + 1) := by
  refine ⟨put_w h.m hb hw, h.ln, h.a, h.b, h.pc, h.bend, ?_, h.stop, TcOk.snoc h.tc (.inr rfl)⟩
  show (if i = 773 then D.sent ++ [(D.beat, w)] else D.sent).length ≤ n + 1
  have := h.sent
  split
  · rw [List.length_append]; show D.sent.length + 1 ≤ n + 1; omega
  · omega
theorem doing_w {D : BD} {n : Nat} (h : WD D n) {k : Nat} (h0 : k ≠ 0) (hk : k < 23) {x : Int} (hx : 0 ≤ x ∧ x < 1024) (g : Int → Int) (hg : ∀ i ∈ (addrs k x D.b D.sp).1, W16 (g i)) (hp : ∀ i ∈ (addrs k x D.b D.sp).2, barTo i = none) :
    WD (D.doing k x ((addrs k x D.b D.sp).1.map g) (addrs k x D.b D.sp).2) (n + 1) := by
  have xw : W16 x := ⟨by omega, by omega⟩
  have up : D.sent.length ≤ n + 1 := by have := h.sent; omega
  have A : ∀ (a' : Int) (b' : Int) (pc' sp' : Int) (z l s : Bool), W16 a' → W16 b' → W16 pc' → WD ({ D with a := a', b := b', pc := pc', sp := sp', zero := z, lets := l, asleep := s } : BD) (n + 1) := fun a' b' pc' sp' z l s h1 h2 h3 => ⟨h.m, h.ln, h1, h2, h3, h.bend, up, h.stop, h.tc⟩
  have md : ∀ y : Int, W16 (y % 65536) := fun y => ⟨by omega, by omega⟩
  rcases k22 h0 hk with rfl | rfl | rfl | rfl | rfl | rfl | rfl | rfl | rfl | rfl | rfl | rfl | rfl | rfl | rfl | rfl | rfl | rfl | rfl | rfl | rfl | rfl
  · exact A _ _ _ _ _ _ _ xw h.b h.pc
  · exact A _ _ _ _ _ _ _ (hg _ List.mem_cons_self) h.b h.pc
  · exact (h.store (hp _ List.mem_cons_self) h.a)
  · exact A _ _ _ _ _ _ _ (md _) h.b h.pc
  · exact A _ _ _ _ _ _ _ (md _) h.b h.pc
  · exact A _ _ _ _ _ _ _ (h.a.and (hg _ List.mem_cons_self)) h.b h.pc
  · exact A _ _ _ _ _ _ _ (h.a.xor (hg _ List.mem_cons_self)) h.b h.pc
  · exact A _ _ _ _ _ _ _ (hg _ List.mem_cons_self) h.b h.pc
  · exact (h.store (hp _ List.mem_cons_self) h.a)
  · exact A _ _ _ _ _ _ _ h.a h.a h.pc
  · exact A _ _ _ _ _ _ _ h.b h.a h.pc
  · exact A _ _ _ _ _ _ _ h.a h.b xw
  · unfold BD.doing
    show WD (if 13 = 12 ∨ 13 = 13 ∨ 13 = 14 then (if 13 = 12 ∨ (13 = 13 ∧ D.zero = true) ∨ (13 = 14 ∧ 32768 ≤ D.a) then { D with pc := x } else D) else _) (n + 1)
    rw [if_pos (by decide)]
    split
    · exact A _ _ _ _ _ _ _ h.a h.b xw
    · exact A _ _ _ _ _ _ _ h.a h.b h.pc
  · unfold BD.doing
    show WD (if 14 = 12 ∨ 14 = 13 ∨ 14 = 14 then (if 14 = 12 ∨ (14 = 13 ∧ D.zero = true) ∨ (14 = 14 ∧ 32768 ≤ D.a) then { D with pc := x } else D) else _) (n + 1)
    rw [if_pos (by decide)]
    split
    · exact A _ _ _ _ _ _ _ h.a h.b xw
    · exact A _ _ _ _ _ _ _ h.a h.b h.pc
  · have s := h.store (hp _ List.mem_cons_self) h.pc
    exact ⟨s.m, s.ln, s.a, s.b, xw, s.bend, s.sent, s.stop, s.tc⟩
  · exact A _ _ _ _ _ _ _ h.a h.b (hg _ List.mem_cons_self)
  · have s := h.store (hp _ List.mem_cons_self) h.a
    exact ⟨s.m, s.ln, s.a, s.b, s.pc, s.bend, s.sent, s.stop, s.tc⟩
  · exact A _ _ _ _ _ _ _ (hg _ List.mem_cons_self) h.b h.pc
  · exact A _ _ _ _ _ _ _ h.a h.b h.pc
  · exact A _ _ _ _ _ _ _ h.a h.b h.pc
  · exact A _ _ _ _ _ _ _ h.a h.b (hg _ (List.mem_cons_of_mem _ List.mem_cons_self))
  · exact A _ _ _ _ _ _ _ (show W16 (D.a / 2) from ⟨by have := h.a.1; omega, by have := h.a.2; omega⟩) h.b h.pc
theorem bars_none {m : MD} {pc : Int} : ∀ {rs ps : List Int}, barOf m pc rs ps = none → (∀ i ∈ rs, (m.at i).isNone ≠ true) ∧ ∀ i ∈ ps, barTo i = none := by
  have hR : ∀ l : List Int, barR m pc l = none → ∀ i ∈ l, (m.at i).isNone ≠ true := fun l => by
    induction l with
    | nil => intro _ i hi; cases hi
    | cons j r ih =>
      intro h i hi
      unfold barR at h
      split at h
      · cases h
      · rename_i c
        rcases List.mem_cons.mp hi with z | z
        · rw [z]; exact c
        · exact ih h i z
  have hP : ∀ l : List Int, barP pc l = none → ∀ i ∈ l, barTo i = none := fun l => by
    induction l with
    | nil => intro _ i hi; cases hi
    | cons j r ih =>
      intro h i hi
      unfold barP at h
      cases e : barTo j with
      | some b => rw [e] at h; cases h
      | none =>
        rw [e] at h
        rcases List.mem_cons.mp hi with z | z
        · rw [z]; exact e
        · exact ih h i z
  intro rs ps h
  unfold barOf at h
  cases e : barR m pc rs with
  | some c => rw [e] at h; cases h
  | none => rw [e] at h; exact ⟨hR rs e, hP ps h⟩
theorem at_w {m : MD} (h : WM m) {i v : Int} (e : m.at i = some v) : W16 v := by
  unfold MD.at at e
  split at e
  · cases e
  · split at e
    · exact h.wf _ (List.mem_of_getElem? e)
    · split at e
      · exact h.wr _ (List.mem_of_getElem? e)
      · exact h.wp _ (List.mem_of_getElem? e)
theorem barTo_s (i : Int) : ∀ b, barTo i = some b → PyData.strOk b.s = true := fun b _ => by cases b <;> kernel_rfl
theorem barOf_st {m : MD} {pc : Int} {rs ps : List Int} {c : List V} (h : barOf m pc rs ps = some c) : stOk (some c) = true := by
  have hR : ∀ l : List Int, ∀ c, barR m pc l = some c → stOk (some c) = true := fun l => by
    induction l with
    | nil => intro c h; cases h
    | cons j r ih =>
      intro c h
      unfold barR at h
      split at h
      · rw [← Option.some.inj h]; kernel_rfl
      · exact ih c h
  have hP : ∀ l : List Int, ∀ c, barP pc l = some c → stOk (some c) = true := fun l => by
    induction l with
    | nil => intro c h; cases h
    | cons j r ih =>
      intro c h
      unfold barP at h
      cases e : barTo j with
      | some b =>
        rw [e] at h
        rw [← Option.some.inj h]
        cases b <;> kernel_rfl
      | none => rw [e] at h; exact ih c h
  unfold barOf at h
  cases e : barR m pc rs with
  | some d => rw [e] at h; rw [← Option.some.inj h]; exact hR rs d e
  | none => rw [e] at h; exact hP ps c h
theorem doing_stop (D : BD) (k : Nat) (x : Int) (ws ps : List Int) : (D.doing k x ws ps).stop = D.stop := by
  unfold BD.doing
  split
  · unfold BD.putting
    dsimp only
    split <;> split <;> rfl
  · split
    · split <;> rfl
    · split
      · unfold BD.returning
        dsimp only
        split <;> rfl
      · split
        · rfl
        · split
          · rfl
          · split <;> rfl
theorem deedB_w {D : BD} {n : Nat} (h : WD D n) (hpc : D.pc < 768) {k : Nat} (h0 : k ≠ 0) (hk : k < 23) {x : Int} (hx : 0 ≤ x ∧ x < 1024) :
    WD (D.deedB k x (addrs k x D.b D.sp)).2 (n + 1) ∧ (((D.deedB k x (addrs k x D.b D.sp)).1 = "deed" ∧ (D.deedB k x (addrs k x D.b D.sp)).2.stop = D.stop) ∨ ((D.deedB k x (addrs k x D.b D.sp)).1 = "stopped" ∧ (D.deedB k x (addrs k x D.b D.sp)).2.stop ≠ none)) := by
  have up : D.sent.length ≤ n + 1 := by have := h.sent; omega
  unfold BD.deedB
  cases e : barOf D.m D.pc (addrs k x D.b D.sp).1 (addrs k x D.b D.sp).2 with
  | some c => exact ⟨⟨h.m, h.ln, h.a, h.b, h.pc, h.bend, up, barOf_st e, h.tc⟩, .inr ⟨rfl, fun z => by cases z⟩⟩
  | none =>
    obtain ⟨b1, b2⟩ := bars_none e
    have hg : ∀ i ∈ (addrs k x D.b D.sp).1, W16 ((D.m.at i).getD 0) := fun i hi => by
      cases ea : D.m.at i with
      | none => exact absurd (by rw [ea]; rfl) (b1 i hi)
      | some v => exact at_w h.m ea
    have h1 : WD ({ D with pc := D.pc + 1 } : BD) n := ⟨h.m, h.ln, h.a, h.b, ⟨by show 0 ≤ D.pc + 1; have := h.pc.1; omega, by show D.pc + 1 ≤ 65535; omega⟩, h.bend, h.sent, h.stop, h.tc⟩
    obtain ⟨t, tt, et⟩ := fetches_eq (addrs k x D.b D.sp).1 (D := { D with pc := D.pc + 1 }) h.bend h.tc (fun i hi => (hg i hi).1)
    have h2 : WD ({ D with pc := D.pc + 1, tc := t, bend := 0 } : BD) n := ⟨h1.m, h1.ln, h1.a, h1.b, h1.pc, rfl, h1.sent, h1.stop, tt⟩
    have dw := doing_w h2 h0 hk hx (fun i => (D.m.at i).getD 0) hg b2
    have pw := dw.pass (1 + (addrs k x D.b D.sp).1.length + (addrs k x D.b D.sp).2.length)
    have eA : D.deedA k x (addrs k x D.b D.sp) = ((({ D with pc := D.pc + 1, tc := t, bend := 0 } : BD).doing k x ((addrs k x D.b D.sp).1.map fun i => (D.m.at i).getD 0) (addrs k x D.b D.sp).2)).pass (1 + (addrs k x D.b D.sp).1.length + (addrs k x D.b D.sp).2.length) := by
      unfold BD.deedA; rw [et]
    refine ⟨by show WD (D.deedA k x (addrs k x D.b D.sp)) (n + 1); rw [eA]; exact pw, .inl ⟨rfl, ?_⟩⟩
    show (D.deedA k x (addrs k x D.b D.sp)).stop = D.stop
    rw [eA]
    exact (core_stop (pass_keep _ _).1).trans (doing_stop _ _ _ _ _)
theorem deed_w {D : BD} {n : Nat} (h : WD D n) :
    WD D.deed.2 (n + 1) ∧ ((D.deed.1 = "deed" ∧ D.deed.2.stop = D.stop) ∨ (D.deed.1 = "stopped" ∧ D.deed.2.stop ≠ none)) := by
  have up : D.sent.length ≤ n + 1 := by have := h.sent; omega
  have hs : ∀ c, stOk (some c) = true → WD (D.halt c) (n + 1) := fun c hc => ⟨h.m, h.ln, h.a, h.b, h.pc, h.bend, up, hc, h.tc⟩
  have hn : ∀ c, (D.halt c).stop ≠ none := fun c z => by cases z
  have p0 := h.pc.1
  unfold BD.deed
  by_cases c : 767 < D.pc
  · rw [if_pos (show D.pc < 0 ∨ 768 ≤ D.pc by omega)]
    exact ⟨hs _ (by kernel_rfl), .inr ⟨rfl, hn _⟩⟩
  · rw [if_neg (show ¬ (D.pc < 0 ∨ 768 ≤ D.pc) by omega)]
    obtain ⟨w, ew⟩ : ∃ w, D.m.at D.pc = some w := by
      cases e : D.m.at D.pc with
      | none => have := (at_none_iff h.m D.pc).mp (by rw [e]; rfl); omega
      | some w => exact ⟨w, rfl⟩
    have ww := at_w h.m ew
    rw [ew, show (some w).getD 0 = w from rfl]
    unfold BD.deedW
    by_cases c1 : 22 < w / 1024
    · rw [if_pos (show ¬ (w / 1024).toNat < 23 by omega)]
      exact ⟨hs _ (by kernel_rfl), .inr ⟨rfl, hn _⟩⟩
    · rw [if_neg (show ¬ ¬ (w / 1024).toNat < 23 by have := ww.1; omega)]
      by_cases c0 : w / 1024 = 0
      · rw [if_pos (show (w / 1024).toNat = 0 by omega)]
        exact ⟨hs _ (by kernel_rfl), .inr ⟨rfl, hn _⟩⟩
      · have := ww.1
        rw [if_neg (show ¬ (w / 1024).toNat = 0 by omega)]
        exact deedB_w h (by omega) (by omega) (by omega) ⟨by omega, by omega⟩
/-- a turn: the data stay in bounds; its kind is one of four; it is «stopped» just where the board stands stopped after it -/
theorem turn_w {D : BD} {n : Nat} (h : WD D n) : WD D.turn.2 (n + 2) ∧ (D.turn.1 = "stopped" ∨ D.turn.1 = "asleep" ∨ D.turn.1 = "interrupt" ∨ D.turn.1 = "deed") ∧ (D.turn.1 = "stopped" ↔ D.turn.2.stop ≠ none) := by
  have up : D.sent.length ≤ n + 2 := by have := h.sent; omega
  have tn : TcOk [] := fun _ z => by cases z
  by_cases cs : D.stop = none
  · by_cases c1 : D.asleep = true ∧ D.pending = 0
    · rw [turn_asleep cs c1]
      have h' : WD ({ D with tc := [] } : BD) (n + 2) := ⟨h.m, h.ln, h.a, h.b, h.pc, h.bend, up, h.stop, tn⟩
      have es : (({ D with tc := [] } : BD).pass 1).stop = none := (core_stop (pass_keep _ 1).1).trans cs
      exact ⟨h'.pass 1, .inr (.inl rfl), ⟨fun z => absurd (show ("asleep" : Str) = "stopped" from z) (by decide), fun z => absurd es z⟩⟩
    · have h' : WD ({ D with tc := [], asleep := false } : BD) n := ⟨h.m, h.ln, h.a, h.b, h.pc, h.bend, h.sent, h.stop, tn⟩
      by_cases c2 : D.lets = true ∧ 0 < D.pending
      · rw [turn_inter cs c1 c2]
        cases b1 : barTo D.sp with
        | some b =>
          have ei : ({ D with tc := [], asleep := false } : BD).interrupt = (("stopped" : Str), ({ D with tc := [], asleep := false } : BD).halt [.str b.s, .int D.pc, .int D.sp]) := by
            unfold BD.interrupt
            simp only [b1]
          rw [ei]
          exact ⟨⟨h.m, h.ln, h.a, h.b, h.pc, h.bend, up, (by cases b <;> kernel_rfl), tn⟩, .inl rfl, ⟨(fun _ z => by cases z), fun _ => rfl⟩⟩
        | none =>
          cases b2 : barTo (D.sp - 1) with
          | some b =>
            have ei : ({ D with tc := [], asleep := false } : BD).interrupt = (("stopped" : Str), ({ D with tc := [], asleep := false } : BD).halt [.str b.s, .int D.pc, .int (D.sp - 1)]) := by
              unfold BD.interrupt
              simp only [b1, b2]
            rw [ei]
            exact ⟨⟨h.m, h.ln, h.a, h.b, h.pc, h.bend, up, (by cases b <;> kernel_rfl), tn⟩, .inl rfl, ⟨(fun _ z => by cases z), fun _ => rfl⟩⟩
          | none =>
            have ei : ({ D with tc := [], asleep := false } : BD).interrupt = (("interrupt" : Str), ({ D with tc := [], asleep := false } : BD).inter) := by
              unfold BD.interrupt
              simp only [b1, b2]
            rw [ei]
            have w1 := h'.store b1 h.pc
            have zw : W16 (if D.zero = true then (1 : Int) else 0) := by split <;> exact ⟨by decide, by decide⟩
            have w2 := w1.store b2 zw
            have w3 : WD ({ ((({ D with tc := [], asleep := false } : BD).store D.sp D.pc).store (D.sp - 1) (if D.zero = true then 1 else 0)) with sp := D.sp - 2, lets := false, pc := if D.pending % 2 = 0 then 2 else 1 } : BD) (n + 2) :=
              ⟨w2.m, w2.ln, w2.a, w2.b, by show W16 (if D.pending % 2 = 0 then 2 else 1); split <;> exact ⟨by decide, by decide⟩, w2.bend, w2.sent, w2.stop, w2.tc⟩
            have p1 := w3.pass 3
            refine ⟨p1, .inr (.inr (.inl rfl)), ⟨fun z => absurd (show ("interrupt" : Str) = "stopped" from z) (by decide), fun z => absurd ?_ z⟩⟩
            exact (core_stop (pass_keep _ 3).1).trans cs
      · rw [turn_deed cs c1 c2]
        obtain ⟨w, e⟩ := deed_w h'
        refine ⟨w.le (by omega), ?_⟩
        rcases e with ⟨e1, e2⟩ | ⟨e1, e2⟩
        · exact ⟨.inr (.inr (.inr e1)), ⟨fun z => absurd (e1.symm.trans z) (by decide), fun z => absurd (e2.trans cs) z⟩⟩
        · exact ⟨.inl e1, ⟨fun _ => e2, fun _ => e1⟩⟩
  · have e : D.turn = (("stopped" : Str), { D with tc := [] }) := by
      unfold BD.turn BD.turnB
      exact if_pos (by show D.stop.isSome = true; cases hh : D.stop with
        | none => exact absurd hh cs
        | some _ => rfl)
    rw [e]
    exact ⟨⟨h.m, h.ln, h.a, h.b, h.pc, h.bend, up, h.stop, tn⟩, .inl rfl, ⟨fun _ => cs, fun _ => rfl⟩⟩
theorem init_w {im : List Int} {ln : List (Int × Int)} (hi : im.length ≤ 512) (hw : ∀ n ∈ im, 0 ≤ n ∧ n ≤ 65535) (hl : LineOk ln) : WD (BD.init im ln) 0 := by
  refine ⟨⟨?_, List.length_replicate, List.length_replicate, fun x hx => ?_, fun x hx => ?_, fun x hx => ?_⟩, hl.val, ⟨Int.le_refl _, (show (0 : Int) ≤ 65535 by decide)⟩, ⟨Int.le_refl _, (show (0 : Int) ≤ 65535 by decide)⟩, ⟨Int.le_refl _, (show (0 : Int) ≤ 65535 by decide)⟩, rfl, Nat.le_refl _, rfl, fun _ z => by cases z⟩
  · show (im ++ List.replicate (512 - im.length) 65535).length = 512
    rw [List.length_append, List.length_replicate]; omega
  · rcases List.mem_append.mp hx with z | z
    · exact hw x z
    · rw [List.eq_of_mem_replicate z]; exact ⟨by decide, by decide⟩
  · rw [List.eq_of_mem_replicate hx]; exact ⟨by decide, by decide⟩
  · rw [List.eq_of_mem_replicate hx]; exact ⟨by decide, by decide⟩
theorem okF_w {D : BD} {n : Nat} (h : WD D n) : D.okF := fun v hv => (at_w h.m hv).1
theorem turnM_w {D : BD} {n : Nat} (h : WD D n) (hn : n ≤ 999000) : D.turnM = some D.turn := if_pos ⟨okF_w h, Nat.le_trans h.sent hn⟩

/-! ### the law's own board (k09's), in a namespace of its own -/
namespace OB
/-! ### the own board's beats, words put, bars -/
def ownR (D : BD) : R_Own := ⟨mem D.m, D.a, D.b, D.pc, D.sp, D.zero, D.lets, D.asleep, D.beat, D.stop, D.sent, D.ln⟩
theorem set_comm {l : List Int} {i j : Nat} (h : i ≠ j) (x y : Int) : (l.set i x).set j y = (l.set j y).set i x := List.set_comm x y h
theorem place_set {m : MD} (h : WM m) {j k : Nat} (hk : k < 6) {v : Int} : (m.setPlace j v).place k = if j = k then v else m.place k := by
  unfold MD.setPlace MD.place
  show (m.pl.set j v).getD k 0 = _
  rw [List.getD_eq_getElem?_getD, List.getElem?_set]
  by_cases e : j = k
  · subst e
    rw [if_pos rfl, if_pos rfl, if_pos (by rw [h.lp]; exact hk)]; rfl
  · rw [if_neg e, if_neg e, List.getD_eq_getElem?_getD]
theorem go_step {O : R_Own} {m : MD} (hm : WM m) (hl : WL O.line) (k t : Int) : m__law_go_by_l1 O k (mem m, t) = some (mem (m.beat1 ((lookI O.line (t + 1)).getD (m.place 4))), t + 1) := by
  have p4 := place_w hm 4 (by decide)
  have hv := look_w hl (b := t + 1) p4
  unfold m__law_go_by_l1
  dsimp only
  refine bnd_of (mem_pl hm (k := 4) rfl (by decide)) (bnd_of rfl ?_)
  generalize (lookI O.line (t + 1)).getD (m.place 4) = v at *
  have hc := comes_w hm hv
  refine bnd_of (x := mem (if m.place 4 % 2 < v % 2 then m.raise 2 else m)) ?_ ?_
  · have e : andO (some (decide (v % 2 = 1))) ((atI (mem m) 772).bind fun x => some (decide (x % 2 = 0))) = some (decide (m.place 4 % 2 < v % 2)) := by
      rw [mem_pl hm (i := 772) (k := 4) rfl (by decide)]
      show andO (some (decide (v % 2 = 1))) (some (decide (m.place 4 % 2 = 0))) = _
      by_cases c1 : v % 2 = 1 <;> by_cases c2 : m.place 4 % 2 = 0
      · rw [decide_eq_true c1, decide_eq_true c2, decide_eq_true (by omega)]; rfl
      · rw [decide_eq_true c1, decide_eq_false c2, decide_eq_false (by omega)]; rfl
      · rw [decide_eq_false c1, decide_eq_true c2, decide_eq_false (by omega)]; rfl
      · rw [decide_eq_false c1, decide_eq_false c2, decide_eq_false (by omega)]; rfl
    refine bnd_of e ?_
    by_cases c : m.place 4 % 2 < v % 2
    · rw [if_pos (decide_eq_true c), if_pos c]
      refine bnd_of (mem_pl hm (k := 2) rfl (by decide)) (bnd_of (setX_pl hm (k := 2) rfl (by decide)) rfl)
    · rw [if_neg (by rw [decide_eq_false c]; exact Bool.false_ne_true), if_neg c]
  · have h1 : WM (if m.place 4 % 2 < v % 2 then m.raise 2 else m) := by
      split
      · exact hm.raise ⟨by decide, by decide⟩
      · exact hm
    refine bnd_of (setX_pl h1 (k := 4) rfl (by decide)) ?_
    have ec : MD.setPlace (if m.place 4 % 2 < v % 2 then m.raise 2 else m) 4 v = m.comes v := rfl
    rw [ec]
    unfold MD.beat1
    generalize m.comes v = c at *
    refine bnd_of (bnd_of (mem_pl hc (k := 1) rfl (by decide)) rfl) ?_
    by_cases c1 : 0 < c.place 1
    · rw [if_pos (decide_eq_true c1), if_pos c1]
      refine bnd_of (mem_pl hc (k := 0) rfl (by decide)) ?_
      have w0 := place_w hc 0 (by decide)
      have w1 := place_w hc 1 (by decide)
      refine bnd_of (setX_pl hc (k := 0) rfl (by decide)) ?_
      by_cases c2 : c.place 1 ≤ c.place 0 + 1
      · have hd : WM (c.setPlace 0 (c.place 0 + 1)) ∨ c.place 0 + 1 = 65536 := by
          by_cases z : c.place 0 + 1 ≤ 65535
          · exact .inl (hc.setPlace 0 ⟨by have := w0.1; omega, z⟩)
          · exact .inr (by have := w0.2; omega)
        have gl : ∀ {q : MD}, q.fl.length = 512 → q.ra.length = 256 → q.pl.length = 6 → ∀ {i : Int} {k : Nat}, i = 768 + (k : Int) → k < 6 → atI (mem q) i = some (q.place k) := fun {q} l1 l2 l3 {i k} hi hk => by
          have hl : (mem q).length = 774 := by unfold mem; rw [List.length_append, List.length_append, l1, l2, l3]
          refine atI_z (by omega) ?_
          unfold mem
          rw [show i.toNat = (q.fl ++ q.ra).length + k by rw [List.length_append, l1, l2]; omega, List.getElem?_append_right (by omega), Nat.add_sub_cancel_left]
          unfold MD.place
          rw [List.getD_eq_getElem?_getD, List.getElem?_eq_getElem (by rw [l3]; exact hk)]; rfl
        have sl : ∀ {q : MD}, q.fl.length = 512 → q.ra.length = 256 → q.pl.length = 6 → ∀ {i v : Int} {k : Nat}, i = 768 + (k : Int) → k < 6 → setX (mem q) i v = some (mem (q.setPlace k v)) := fun {q} l1 l2 l3 {i v k} hi hk => by
          have hl : (mem q).length = 774 := by unfold mem; rw [List.length_append, List.length_append, l1, l2, l3]
          unfold setX ixN
          rw [if_pos (by omega), if_pos (by omega)]
          show some ((mem q).set i.toNat v) = _
          unfold mem MD.setPlace
          rw [show i.toNat = (q.fl ++ q.ra).length + k by rw [List.length_append, l1, l2]; omega, List.set_append_right _ _ (by omega)]
          congr 3; omega
        have q0 : (c.setPlace 0 (c.place 0 + 1)).pl.length = 6 := by show (c.pl.set 0 _).length = 6; rw [List.length_set]; exact hc.lp
        have q1 : ((c.setPlace 0 (c.place 0 + 1)).setPlace 0 0).pl.length = 6 := by show ((c.setPlace 0 (c.place 0 + 1)).pl.set 0 _).length = 6; rw [List.length_set]; exact q0
        refine bnd_of (x := true) (bnd_of (gl (q := c.setPlace 0 (c.place 0 + 1)) hc.lf hc.lr q0 (k := 0) rfl (by decide)) (bnd_of (gl (q := c.setPlace 0 (c.place 0 + 1)) hc.lf hc.lr q0 (k := 1) rfl (by decide)) ?_)) ?_
        · rw [place_set hc (by decide), place_set hc (by decide), if_pos rfl, if_neg (by decide), decide_eq_true c2]
        rw [if_pos rfl, if_pos c2]
        refine bnd_of (sl (q := c.setPlace 0 (c.place 0 + 1)) hc.lf hc.lr q0 (k := 0) rfl (by decide)) ?_
        refine bnd_of (gl (q := (c.setPlace 0 (c.place 0 + 1)).setPlace 0 0) hc.lf hc.lr q1 (k := 2) rfl (by decide)) ?_
        refine bnd_of (sl (q := (c.setPlace 0 (c.place 0 + 1)).setPlace 0 0) hc.lf hc.lr q1 (k := 2) rfl (by decide)) ?_
        congr 3
        show ({ c with pl := ((c.pl.set 0 (c.place 0 + 1)).set 0 0).set 2 _ } : MD) = { c with pl := (c.pl.set 2 _).set 0 0 }
        have e2 : ((c.setPlace 0 (c.place 0 + 1)).setPlace 0 0).place 2 = c.place 2 := by
          unfold MD.setPlace MD.place
          show ((c.pl.set 0 _).set 0 _).getD 2 0 = c.pl.getD 2 0
          rw [List.getD_eq_getElem?_getD, List.getElem?_set_ne (by decide), List.getElem?_set_ne (by decide), List.getD_eq_getElem?_getD]
        rw [e2, List.set_set, set_comm (by decide)]
      · have hd : WM (c.setPlace 0 (c.place 0 + 1)) := hc.setPlace 0 ⟨by have := w0.1; omega, by have := w1.2; omega⟩
        refine bnd_of (x := false) (bnd_of (mem_pl hd (k := 0) rfl (by decide)) (bnd_of (mem_pl hd (k := 1) rfl (by decide)) ?_)) ?_
        · rw [place_set hc (by decide), place_set hc (by decide), if_pos rfl, if_neg (by decide), decide_eq_false c2]
        rw [if_neg Bool.false_ne_true, if_neg c2]
    · rw [if_neg (by rw [decide_eq_false c1]; exact Bool.false_ne_true), if_neg c1]
theorem go_by_ok {D : BD} (hm : WM D.m) (hl : WL D.ln) {n : Nat} (hn : n < 1000) : m__law_go_by (ownR D) (n : Int) = some (ownR (D.pass n)) ∧ WM (D.pass n).m := by
  have key : ∀ k : Nat, ∃ s, forS (m__law_go_by_l1 (ownR D)) (rangeL 0 k) (mem D.m, D.beat) = some s ∧ s = (mem (D.pass k).m, (D.pass k).beat) ∧ WM (D.pass k).m := fun k => by
    obtain ⟨s, e, h1, h2⟩ := forS_inv (f := m__law_go_by_l1 (ownR D)) (xs := rangeL 0 k) (s := (mem D.m, D.beat)) (fun i s => s = (mem (D.pass i).m, (D.pass i).beat) ∧ WM (D.pass i).m) ⟨rfl, hm⟩ fun i x s hx ⟨hs, hw⟩ => by
      have el : (D.pass i).ln = D.ln := by have := congrArg BD.ln (pass_m D i); exact this
      have hw' : WM (D.pass (i + 1)).m := by
        show WM ((D.pass i).tick).m
        rw [tick_m]
        exact beat1_w hw (look_w (by rw [el]; exact hl) (place_w hw 4 (by decide)))
      refine ⟨_, ?_, rfl, hw'⟩
      rw [hs, go_step hw (O := ownR D) hl]
      show some (mem _, _) = some (mem ((D.pass i).tick).m, ((D.pass i).tick).beat)
      rw [tick_m, el]; rfl
    rw [range_len] at h1 h2
    exact ⟨s, e, h1, h2⟩
  obtain ⟨s, e, h1, h2⟩ := key n
  refine ⟨?_, h2⟩
  unfold m__law_go_by
  rw [if_pos ⟨by omega, by omega⟩, show Int.toNat (n : Int) = n from rfl]
  refine bnd_of e ?_
  rw [h1]
  show some ({ ownR D with m := mem (D.pass n).m, beat := (D.pass n).beat } : R_Own) = _
  rw [pass_m D n]; rfl

/-! ### the own board: words put, bars, deeds -/
theorem lay_ok {D : BD} (hm : WM D.m) {i w : Int} (hb : barTo i = none) (hw : W16 w) (hs : D.sent.length < 16000000) : m__law_lay (ownR D) i w = some (ownR (D.store i w)) := by
  obtain ⟨b1, b2, b3⟩ := barTo_no hb
  unfold m__law_lay
  refine bnd_of (x := mem (D.m.put i w)) ?_ ?_
  · by_cases c : i = 770
    · rw [if_pos c, c]
      refine bnd_of (mem_pl hm (k := 2) rfl (by decide)) (bnd_of (mem_pl hm (k := 2) rfl (by decide)) (bnd_of (setX_pl hm (k := 2) rfl (by decide)) ?_))
      unfold MD.put
      rw [if_neg (by decide), if_pos rfl, and_not (place_w hm 2 (by decide)) hw]; rfl
    · rw [if_neg c]
      by_cases c2 : i < 768
      · refine bnd_of (setX_ra hm b1 c2) ?_
        unfold MD.put; rw [if_pos c2]
      · refine bnd_of (setX_pl hm (k := (i - 768).toNat) (by omega) (by omega)) ?_
        unfold MD.put; rw [if_neg c2, if_neg c]; rfl
  · unfold BD.store
    by_cases c : i = 773
    · rw [if_pos c, if_pos c]
      exact bnd_of (snoc_ok hs) rfl
    · rw [if_neg c, if_neg c]; rfl
theorem barR_ok {m : MD} (h : WM m) (O : R_Own) : ∀ l : List Int, ∃ c, forC (m__law_barred_l1 O) l () = some c ∧ c = (match barR m O.pc l with | some x => .rt (some x) | none => .nx ())
  | [] => ⟨_, rfl, rfl⟩
  | i :: r => by
    obtain ⟨c, h1, h2⟩ := barR_ok h O r
    unfold barR
    by_cases b : (m.at i).isNone = true
    · rw [if_pos b]
      refine ⟨_, ?_, rfl⟩
      show ((m__law_barred_l1 O i ()).bind fun c => _) = _
      unfold m__law_barred_l1
      rw [if_pos ((at_none_iff h i).mp b)]; rfl
    · rw [if_neg b]
      refine ⟨c, ?_, h2⟩
      show ((m__law_barred_l1 O i ()).bind fun c => _) = _
      unfold m__law_barred_l1
      rw [if_neg (fun z => b ((at_none_iff h i).mpr z))]
      exact h1
theorem barP_ok (O : R_Own) : ∀ l : List Int, ∃ c, forC (m__law_barred_l2 O) l () = some c ∧ c = (match barP O.pc l with | some x => .rt (some x) | none => .nx ())
  | [] => ⟨_, rfl, rfl⟩
  | i :: r => by
    obtain ⟨c, h1, h2⟩ := barP_ok O r
    unfold barP barTo
    by_cases b1 : i < 0 ∨ 773 < i
    · rw [if_pos b1]
      refine ⟨_, ?_, rfl⟩
      show ((m__law_barred_l2 O i ()).bind fun c => _) = _
      unfold m__law_barred_l2
      rw [if_pos (by omega)]; rfl
    · rw [if_neg b1]
      by_cases b2 : i < 512
      · rw [if_pos b2]
        refine ⟨_, ?_, rfl⟩
        show ((m__law_barred_l2 O i ()).bind fun c => _) = _
        unfold m__law_barred_l2
        rw [if_neg (by omega), if_pos (.inl b2), decide_eq_true b2]; rfl
      · rw [if_neg b2]
        by_cases b3 : i = 772
        · rw [if_pos b3]
          refine ⟨_, ?_, rfl⟩
          show ((m__law_barred_l2 O i ()).bind fun c => _) = _
          unfold m__law_barred_l2
          rw [if_neg (by omega), if_pos (.inr b3), decide_eq_false b2]; rfl
        · rw [if_neg b3]
          refine ⟨c, ?_, h2⟩
          show ((m__law_barred_l2 O i ()).bind fun c => _) = _
          unfold m__law_barred_l2
          rw [if_neg (by omega), if_neg (by omega)]
          exact h1
theorem barred_ok {m : MD} (h : WM m) (O : R_Own) (rs ps : List Int) : m__law_barred O rs ps = some (barOf m O.pc rs ps) := by
  obtain ⟨c1, e1, d1⟩ := barR_ok h O rs
  obtain ⟨c2, e2, d2⟩ := barP_ok O ps
  unfold m__law_barred barOf thenC
  rw [e1]
  cases hr : barR m O.pc rs with
  | some x => rw [hr] at d1; rw [d1]; rfl
  | none =>
    rw [hr] at d1; rw [d1]
    show ((forC (m__law_barred_l2 O) ps ()).bind _) = _
    rw [e2]
    cases hp : barP O.pc ps with
    | some x => rw [hp] at d2; rw [d2]; rfl
    | none => rw [hp] at d2; rw [d2]; rfl
/-- the board but for what it touched -/
theorem ownR_tc (D : BD) (t : List (Str × Int)) (b : Int) : ownR { D with tc := t, bend := b } = ownR D := rfl
theorem fetch_l {O : R_Own} {m : MD} (hm : WM m) (ho : O.m = mem m) : ∀ (l acc : List Int), (∀ i ∈ l, 0 ≤ i ∧ i ≤ 773) → acc.length + l.length < 1000 → forS (m__law_deed_l1 O) l acc = some (acc ++ l.map fun i => (m.at i).getD 0)
  | [], acc, _, _ => by rw [List.map_nil, List.append_nil]; rfl
  | i :: r, acc, hi, hl => by
    obtain ⟨i0, i1⟩ := hi i (List.mem_cons_self)
    have hl2 : acc.length + (r.length + 1) < 1000 := hl
    have ha : ∃ v, m.at i = some v := by
      cases e : m.at i with
      | none => have := (at_none_iff hm i).mp (by rw [e]; rfl); omega
      | some v => exact ⟨v, rfl⟩
    obtain ⟨v, ev⟩ := ha
    show (m__law_deed_l1 O i acc).bind _ = _
    refine bnd_of (x := acc ++ [v]) ?_ ?_
    · unfold m__law_deed_l1
      refine bnd_of (x := v) (by rw [ho, mem_at hm i0]; exact ev) (snoc_ok (by omega))
    · rw [fetch_l hm ho r (acc ++ [v]) (fun j hj => hi j (List.mem_cons_of_mem _ hj)) (by rw [List.length_append]; show acc.length + 1 + r.length < 1000; omega), List.append_assoc, List.map_cons, ev]; rfl

/-! ### the own board: what a deed does -/
section
variable {D : BD} {x w v : Int}
theorem dn_1 : m__law_done (ownR D) 1 x [] [] = some (ownR (D.doing 1 x [] [])) := by kernel_rfl
theorem dn_2 : m__law_done (ownR D) 2 x [w] [] = some (ownR (D.doing 2 x [w] [])) := by kernel_rfl
theorem dn_4 : m__law_done (ownR D) 4 x [w] [] = some (ownR (D.doing 4 x [w] [])) := by kernel_rfl
theorem dn_5 : m__law_done (ownR D) 5 x [w] [] = some (ownR (D.doing 5 x [w] [])) := by kernel_rfl
theorem dn_6 : m__law_done (ownR D) 6 x [w] [] = some (ownR (D.doing 6 x [w] [])) := by kernel_rfl
theorem dn_7 : m__law_done (ownR D) 7 x [w] [] = some (ownR (D.doing 7 x [w] [])) := by kernel_rfl
theorem dn_8 : m__law_done (ownR D) 8 x [w] [] = some (ownR (D.doing 8 x [w] [])) := by kernel_rfl
theorem dn_10 : m__law_done (ownR D) 10 x [] [] = some (ownR (D.doing 10 x [] [])) := by kernel_rfl
theorem dn_11 : m__law_done (ownR D) 11 x [] [] = some (ownR (D.doing 11 x [] [])) := by kernel_rfl
theorem dn_16 : m__law_done (ownR D) 16 x [w] [] = some (ownR (D.doing 16 x [w] [])) := by kernel_rfl
theorem dn_18 : m__law_done (ownR D) 18 x [w] [] = some (ownR (D.doing 18 x [w] [])) := by kernel_rfl
theorem dn_19 : m__law_done (ownR D) 19 x [] [] = some (ownR (D.doing 19 x [] [])) := by kernel_rfl
theorem dn_20 : m__law_done (ownR D) 20 x [] [] = some (ownR (D.doing 20 x [] [])) := by kernel_rfl
theorem dn_21 : m__law_done (ownR D) 21 x [w, v] [] = some (ownR (D.doing 21 x [w, v] [])) := by kernel_rfl
theorem dn_22 : m__law_done (ownR D) 22 x [] [] = some (ownR (D.doing 22 x [] [])) := by kernel_rfl
theorem dn_12 : m__law_done (ownR D) 12 x [] [] = some (ownR (D.doing 12 x [] [])) := by kernel_rfl
theorem dn_13 : m__law_done (ownR D) 13 x [] [] = some (ownR (D.doing 13 x [] [])) := by
  obtain ⟨m, ln, a, b, pc, sp, zero, lets, asleep, beat, stop, sent, tc, bend⟩ := D
  cases zero <;> kernel_rfl
theorem dn_3 {i : Int} (h : m__law_lay (ownR D) i D.a = some (ownR (D.store i D.a))) : m__law_done (ownR D) 3 x [] [i] = some (ownR (D.doing 3 x [] [i])) := by
  unfold m__law_done
  refine bnd_of (x := ((ownR (D.store i D.a)).m, (ownR (D.store i D.a)).a, (ownR (D.store i D.a)).b, (ownR (D.store i D.a)).pc, (ownR (D.store i D.a)).sp, (ownR (D.store i D.a)).zero, (ownR (D.store i D.a)).lets, (ownR (D.store i D.a)).asleep, (ownR (D.store i D.a)).beat, (ownR (D.store i D.a)).stopped, (ownR (D.store i D.a)).sent, (ownR (D.store i D.a)).line)) ?_ ?_
  · rw [if_pos (by decide)]
    exact bnd_of rfl (bnd_of h rfl)
  · kernel_rfl
theorem dn_9 {i : Int} (h : m__law_lay (ownR D) i D.a = some (ownR (D.store i D.a))) : m__law_done (ownR D) 9 x [] [i] = some (ownR (D.doing 9 x [] [i])) := by
  unfold m__law_done
  refine bnd_of (x := ((ownR (D.store i D.a)).m, (ownR (D.store i D.a)).a, (ownR (D.store i D.a)).b, (ownR (D.store i D.a)).pc, (ownR (D.store i D.a)).sp, (ownR (D.store i D.a)).zero, (ownR (D.store i D.a)).lets, (ownR (D.store i D.a)).asleep, (ownR (D.store i D.a)).beat, (ownR (D.store i D.a)).stopped, (ownR (D.store i D.a)).sent, (ownR (D.store i D.a)).line)) ?_ ?_
  · rw [if_pos (by decide)]
    exact bnd_of rfl (bnd_of h rfl)
  · kernel_rfl
theorem dn_17 {i : Int} (h : m__law_lay (ownR D) i D.a = some (ownR (D.store i D.a))) (e : i = D.sp) : m__law_done (ownR D) 17 x [] [i] = some (ownR (D.doing 17 x [] [i])) := by
  unfold m__law_done
  refine bnd_of (x := ((ownR (D.store i D.a)).m, (ownR (D.store i D.a)).a, (ownR (D.store i D.a)).b, (ownR (D.store i D.a)).pc, (ownR (D.store i D.a)).sp, (ownR (D.store i D.a)).zero, (ownR (D.store i D.a)).lets, (ownR (D.store i D.a)).asleep, (ownR (D.store i D.a)).beat, (ownR (D.store i D.a)).stopped, (ownR (D.store i D.a)).sent, (ownR (D.store i D.a)).line)) ?_ ?_
  · rw [if_pos (by decide)]
    exact bnd_of rfl (bnd_of h rfl)
  · subst e; kernel_rfl
theorem dn_15 {i : Int} (h : m__law_lay (ownR D) i D.pc = some (ownR (D.store i D.pc))) (e : i = D.sp) : m__law_done (ownR D) 15 x [] [i] = some (ownR (D.doing 15 x [] [i])) := by
  unfold m__law_done
  refine bnd_of (x := ((ownR D).m, (ownR D).a, (ownR D).b, (ownR D).pc, (ownR D).sp, (ownR D).zero, (ownR D).lets, (ownR D).asleep, (ownR D).beat, (ownR D).stopped, (ownR D).sent, (ownR D).line)) (by kernel_rfl) ?_
  refine bnd_of (x := ((ownR (D.store i D.pc)).m, (ownR (D.store i D.pc)).a, (ownR (D.store i D.pc)).b, (ownR (D.store i D.pc)).pc, (ownR (D.store i D.pc)).sp, (ownR (D.store i D.pc)).zero, (ownR (D.store i D.pc)).lets, (ownR (D.store i D.pc)).asleep, (ownR (D.store i D.pc)).beat, (ownR (D.store i D.pc)).stopped, (ownR (D.store i D.pc)).sent, (ownR (D.store i D.pc)).line)) ?_ ?_
  · rw [if_pos rfl]
    exact bnd_of rfl (bnd_of h rfl)
  · subst e; kernel_rfl
theorem dn_14 : m__law_done (ownR D) 14 x [] [] = some (ownR (D.doing 14 x [] [])) := by
  have e : D.doing 14 x [] [] = if 32768 ≤ D.a then { D with pc := x } else D := by
    unfold BD.doing
    by_cases c : 32768 ≤ D.a
    · simp [c]
    · simp [c]
  rw [e]
  unfold m__law_done
  refine bnd_of (x := ((ownR D).m, (ownR D).a, (ownR D).b, (ownR D).pc, (ownR D).sp, (ownR D).zero, (ownR D).lets, (ownR D).asleep, (ownR D).beat, (ownR D).stopped, (ownR D).sent, (ownR D).line)) (by kernel_rfl) ?_
  refine bnd_of (x := ((ownR D).m, (ownR D).a, (ownR D).b, (ownR D).pc, (ownR D).sp, (ownR D).zero, (ownR D).lets, (ownR D).asleep, (ownR D).beat, (ownR D).stopped, (ownR D).sent, (ownR D).line)) (by kernel_rfl) ?_
  refine bnd_of (x := D.sp) (by kernel_rfl) (bnd_of (x := D.sp) (by kernel_rfl) ?_)
  by_cases c : 32768 ≤ D.a
  · refine bnd_of (x := x) (if_pos (.inr (.inr ⟨rfl, c⟩))) ?_
    rw [if_pos c]; kernel_rfl
  · refine bnd_of (x := D.pc) (if_neg (fun z => ?_)) ?_
    · rcases z with z | z | z
      · exact absurd z (by decide)
      · exact absurd z.1 (by decide)
      · exact c z.2
    · rw [if_neg c]; kernel_rfl
end

/-! ### the own board: a whole deed -/
theorem fetches_eq : ∀ (l : List Int) {D : BD}, D.bend = 0 → (∀ i ∈ l, 0 ≤ (D.m.at i).getD 0) → ∃ t, D.fetches l = (l.map (fun i => (D.m.at i).getD 0), { D with tc := t, bend := 0 })
  | [], D, hb, _ => ⟨D.tc, by
    show (([] : List Int), D) = ([], { D with tc := D.tc, bend := 0 })
    rw [← hb]⟩
  | i :: r, D, hb, h => by
    obtain ⟨t, e⟩ := fetches_eq r (D := D.fetch i) rfl (fun j hj => h j (List.mem_cons_of_mem _ hj))
    refine ⟨t, ?_⟩
    show (D.fetchV i :: ((D.fetch i).fetches r).1, ((D.fetch i).fetches r).2) = _
    rw [e]
    have ev : D.fetchV i = (D.m.at i).getD 0 := by
      unfold BD.fetchV; rw [hb]; exact xor0 (h i List.mem_cons_self)
    rw [ev]; rfl
theorem done_ok {D : BD} {k : Nat} (h0 : k ≠ 0) (h : k < 23) (x : Int) (g : Int → Int) (hl : ∀ i v, i ∈ (addrs k x D.b D.sp).2 → W16 v → m__law_lay (ownR D) i v = some (ownR (D.store i v))) (ha : W16 D.a) (hp : W16 D.pc) :
    m__law_done (ownR D) (k : Int) x ((addrs k x D.b D.sp).1.map g) (addrs k x D.b D.sp).2 = some (ownR (D.doing k x ((addrs k x D.b D.sp).1.map g) (addrs k x D.b D.sp).2)) := by
  rcases k22 h0 h with rfl | rfl | rfl | rfl | rfl | rfl | rfl | rfl | rfl | rfl | rfl | rfl | rfl | rfl | rfl | rfl | rfl | rfl | rfl | rfl | rfl | rfl
  · exact dn_1
  · exact dn_2
  · exact dn_3 (hl _ _ List.mem_cons_self ha)
  · exact dn_4
  · exact dn_5
  · exact dn_6
  · exact dn_7
  · exact dn_8
  · exact dn_9 (hl _ _ List.mem_cons_self ha)
  · exact dn_10
  · exact dn_11
  · exact dn_12
  · exact dn_13
  · exact dn_14
  · exact dn_15 (hl _ _ List.mem_cons_self hp) rfl
  · exact dn_16
  · exact dn_17 (hl _ _ List.mem_cons_self ha) rfl
  · exact dn_18
  · exact dn_19
  · exact dn_20
  · exact dn_21
  · exact dn_22
/-- the board is as one may be -/
structure WD (D : BD) (n : Nat) : Prop where
  m : WM D.m
  ln : WL D.ln
  a : W16 D.a
  b : W16 D.b
  pc : W16 D.pc
  bend : D.bend = 0
  sent : D.sent.length ≤ n
  stop : stOk D.stop = true
theorem WD.pass {D : BD} {n : Nat} (h : WD D n) {k : Nat} (hk : k < 1000) : WD (D.pass k) n ∧ m__law_go_by (ownR D) (k : Int) = some (ownR (D.pass k)) := by
  obtain ⟨e, w⟩ := go_by_ok h.m h.ln hk
  refine ⟨?_, e⟩
  rw [pass_m D k]
  exact ⟨w, h.ln, h.a, h.b, h.pc, h.bend, h.sent, h.stop⟩
theorem WD.store {D : BD} {n : Nat} (h : WD D n) {i w : Int} (hb : barTo i = none) (hw : W16 w) : WD (D.store i w) (n + 1) := by
  refine ⟨put_w h.m hb hw, h.ln, h.a, h.b, h.pc, h.bend, ?_, h.stop⟩
  show (if i = 773 then D.sent ++ [(D.beat, w)] else D.sent).length ≤ n + 1
  have := h.sent
  split
  · rw [List.length_append]; show D.sent.length + 1 ≤ n + 1; omega
  · omega
theorem doing_w {D : BD} {n : Nat} (h : WD D n) {k : Nat} (h0 : k ≠ 0) (hk : k < 23) {x : Int} (hx : 0 ≤ x ∧ x < 1024) (g : Int → Int) (hg : ∀ i ∈ (addrs k x D.b D.sp).1, W16 (g i)) (hp : ∀ i ∈ (addrs k x D.b D.sp).2, barTo i = none) :
    WD (D.doing k x ((addrs k x D.b D.sp).1.map g) (addrs k x D.b D.sp).2) (n + 1) := by
  have xw : W16 x := ⟨by omega, by omega⟩
  have up : D.sent.length ≤ n + 1 := by have := h.sent; omega
  have A : ∀ (a' : Int) (b' : Int) (pc' sp' : Int) (z l s : Bool), W16 a' → W16 b' → W16 pc' → WD ({ D with a := a', b := b', pc := pc', sp := sp', zero := z, lets := l, asleep := s } : BD) (n + 1) := fun a' b' pc' sp' z l s h1 h2 h3 => ⟨h.m, h.ln, h1, h2, h3, h.bend, up, h.stop⟩
  have md : ∀ y : Int, W16 (y % 65536) := fun y => ⟨by omega, by omega⟩
  rcases k22 h0 hk with rfl | rfl | rfl | rfl | rfl | rfl | rfl | rfl | rfl | rfl | rfl | rfl | rfl | rfl | rfl | rfl | rfl | rfl | rfl | rfl | rfl | rfl
  · exact A _ _ _ _ _ _ _ xw h.b h.pc
  · exact A _ _ _ _ _ _ _ (hg _ List.mem_cons_self) h.b h.pc
  · exact (h.store (hp _ List.mem_cons_self) h.a)
  · exact A _ _ _ _ _ _ _ (md _) h.b h.pc
  · exact A _ _ _ _ _ _ _ (md _) h.b h.pc
  · exact A _ _ _ _ _ _ _ (h.a.and (hg _ List.mem_cons_self)) h.b h.pc
  · exact A _ _ _ _ _ _ _ (h.a.xor (hg _ List.mem_cons_self)) h.b h.pc
  · exact A _ _ _ _ _ _ _ (hg _ List.mem_cons_self) h.b h.pc
  · exact (h.store (hp _ List.mem_cons_self) h.a)
  · exact A _ _ _ _ _ _ _ h.a h.a h.pc
  · exact A _ _ _ _ _ _ _ h.b h.a h.pc
  · exact A _ _ _ _ _ _ _ h.a h.b xw
  · unfold BD.doing
    show WD (if 13 = 12 ∨ 13 = 13 ∨ 13 = 14 then (if 13 = 12 ∨ (13 = 13 ∧ D.zero = true) ∨ (13 = 14 ∧ 32768 ≤ D.a) then { D with pc := x } else D) else _) (n + 1)
    rw [if_pos (by decide)]
    split
    · exact A _ _ _ _ _ _ _ h.a h.b xw
    · exact A _ _ _ _ _ _ _ h.a h.b h.pc
  · unfold BD.doing
    show WD (if 14 = 12 ∨ 14 = 13 ∨ 14 = 14 then (if 14 = 12 ∨ (14 = 13 ∧ D.zero = true) ∨ (14 = 14 ∧ 32768 ≤ D.a) then { D with pc := x } else D) else _) (n + 1)
    rw [if_pos (by decide)]
    split
    · exact A _ _ _ _ _ _ _ h.a h.b xw
    · exact A _ _ _ _ _ _ _ h.a h.b h.pc
  · have s := h.store (hp _ List.mem_cons_self) h.pc
    exact ⟨s.m, s.ln, s.a, s.b, xw, s.bend, s.sent, s.stop⟩
  · exact A _ _ _ _ _ _ _ h.a h.b (hg _ List.mem_cons_self)
  · have s := h.store (hp _ List.mem_cons_self) h.a
    exact ⟨s.m, s.ln, s.a, s.b, s.pc, s.bend, s.sent, s.stop⟩
  · exact A _ _ _ _ _ _ _ (hg _ List.mem_cons_self) h.b h.pc
  · exact A _ _ _ _ _ _ _ h.a h.b h.pc
  · exact A _ _ _ _ _ _ _ h.a h.b h.pc
  · exact A _ _ _ _ _ _ _ h.a h.b (hg _ (List.mem_cons_of_mem _ List.mem_cons_self))
  · exact A _ _ _ _ _ _ _ (show W16 (D.a / 2) from ⟨by have := h.a.1; omega, by have := h.a.2; omega⟩) h.b h.pc

/-! ### the own board's turn is the board's -/
def restD (O : R_Own) (op x : Int) (rs ps : List Int) : Option (Str × R_Own) :=
  (m__law_barred O rs ps).bind fun r => if (r ≠ none) then (m__law_halts O r).bind fun r2 => some (r2.1, r2.2)
  else (forS (m__law_deed_l1 O) rs []).bind fun ws => (m__law_done ({ O with pc := O.pc + (1 : Int) }) op x ws ps).bind fun r2 => (m__law_go_by r2 (((1 : Int) + (rs.length : Int)) + (ps.length : Int))).bind fun r3 => some (("deed" : Str), r3)
theorem halts_ok (D : BD) (c : List V) : m__law_halts (ownR D) (some c) = some (("stopped" : Str), ownR (D.halt c)) := rfl
theorem rest_ok {D : BD} {n : Nat} (h : WD D n) (hn : n < 1000000) (hpc : D.pc < 768) {k : Nat} (h0 : k ≠ 0) (hk : k < 23) {x : Int} (hx : 0 ≤ x ∧ x < 1024) :
    restD (ownR D) (k : Int) x (addrs k x D.b D.sp).1 (addrs k x D.b D.sp).2 = some ((D.deedB k x (addrs k x D.b D.sp)).1, ownR (D.deedB k x (addrs k x D.b D.sp)).2) ∧ WD (D.deedB k x (addrs k x D.b D.sp)).2 (n + 1) := by
  have up : D.sent.length ≤ n + 1 := by have := h.sent; omega
  unfold restD
  rw [barred_ok h.m]
  show ((some (barOf D.m D.pc (addrs k x D.b D.sp).1 (addrs k x D.b D.sp).2)).bind _) = _ ∧ _
  unfold BD.deedB
  cases e : barOf D.m D.pc (addrs k x D.b D.sp).1 (addrs k x D.b D.sp).2 with
  | some c => exact ⟨rfl, ⟨h.m, h.ln, h.a, h.b, h.pc, h.bend, up, barOf_st e⟩⟩
  | none =>
    obtain ⟨b1, b2⟩ := bars_none e
    have hat : ∀ i ∈ (addrs k x D.b D.sp).1, ∃ v, D.m.at i = some v ∧ W16 v := fun i hi => by
      cases ea : D.m.at i with
      | none => exact absurd (by rw [ea]; rfl) (b1 i hi)
      | some v => exact ⟨v, rfl, at_w h.m ea⟩
    have hg : ∀ i ∈ (addrs k x D.b D.sp).1, W16 ((D.m.at i).getD 0) := fun i hi => by
      obtain ⟨v, ev, wv⟩ := hat i hi
      rw [ev]; exact wv
    have hin : ∀ i ∈ (addrs k x D.b D.sp).1, 0 ≤ i ∧ i ≤ 773 := fun i hi => by
      by_cases c : 0 ≤ i ∧ i ≤ 773
      · exact c
      · exact absurd ((at_none_iff h.m i).mpr (by omega)) (b1 i hi)
    have hlen : (addrs k x D.b D.sp).1.length + (addrs k x D.b D.sp).2.length ≤ 2 := by
      rcases k22 h0 hk with rfl | rfl | rfl | rfl | rfl | rfl | rfl | rfl | rfl | rfl | rfl | rfl | rfl | rfl | rfl | rfl | rfl | rfl | rfl | rfl | rfl | rfl <;> exact Nat.le_of_ble_eq_true (by kernel_rfl)
    have h1 : WD ({ D with pc := D.pc + 1 } : BD) n := ⟨h.m, h.ln, h.a, h.b, ⟨by show 0 ≤ D.pc + 1; have := h.pc.1; omega, by show D.pc + 1 ≤ 65535; omega⟩, h.bend, h.sent, h.stop⟩
    obtain ⟨t, et⟩ := fetches_eq (addrs k x D.b D.sp).1 (D := { D with pc := D.pc + 1 }) h.bend (fun i hi => (hg i hi).1)
    have h2 : WD ({ D with pc := D.pc + 1, tc := t, bend := 0 } : BD) n := ⟨h1.m, h1.ln, h1.a, h1.b, h1.pc, rfl, h1.sent, h1.stop⟩
    have dk := done_ok (D := ({ D with pc := D.pc + 1, tc := t, bend := 0 } : BD)) h0 hk x (fun i => (D.m.at i).getD 0) (fun i v hi wv => lay_ok h2.m (b2 i hi) wv (by have := h2.sent; omega)) h2.a h2.pc
    have dw := doing_w h2 h0 hk hx (fun i => (D.m.at i).getD 0) hg b2
    have hkk : 1 + (addrs k x D.b D.sp).1.length + (addrs k x D.b D.sp).2.length < 1000 := by omega
    obtain ⟨pw, pe⟩ := dw.pass hkk
    have eA : D.deedA k x (addrs k x D.b D.sp) = ((({ D with pc := D.pc + 1, tc := t, bend := 0 } : BD).doing k x ((addrs k x D.b D.sp).1.map fun i => (D.m.at i).getD 0) (addrs k x D.b D.sp).2)).pass (1 + (addrs k x D.b D.sp).1.length + (addrs k x D.b D.sp).2.length) := by
      unfold BD.deedA; rw [et]
    refine ⟨?_, by show WD (D.deedA k x (addrs k x D.b D.sp)) (n + 1); rw [eA]; exact pw⟩
    refine bnd_of (x := (none : Option (List V))) rfl ?_
    refine (if_neg (fun z => z rfl)).trans ?_
    refine bnd_of ((fetch_l h.m rfl _ [] hin (by show 0 + _ < 1000; omega)).trans (congrArg some (List.nil_append _))) ?_
    refine bnd_of dk ?_
    refine bnd_of (x := ownR (D.deedA k x (addrs k x D.b D.sp))) ?_ rfl
    rw [eA, ← pe]
    congr 1

theorem sel_ok {k : Nat} (h0 : k ≠ 0) (hk : k < 23) (x b sp : Int) :
    (if (k : Int) = 21 then ([sp + 1, sp + 2] : List Int) else if (k : Int) = 2 then [x] else if (k : Int) = 4 then [x] else if (k : Int) = 5 then [x] else if (k : Int) = 6 then [x] else if (k : Int) = 7 then [x] else if (k : Int) = 8 then [x + b] else if (k : Int) = 16 then [sp + 1] else if (k : Int) = 18 then [sp + 1] else []) = (addrs k x b sp).1 ∧
    (if (k : Int) = 3 then ([x] : List Int) else if (k : Int) = 9 then [x + b] else if (k : Int) = 15 then [sp] else if (k : Int) = 17 then [sp] else []) = (addrs k x b sp).2 := by
  rcases k22 h0 hk with rfl | rfl | rfl | rfl | rfl | rfl | rfl | rfl | rfl | rfl | rfl | rfl | rfl | rfl | rfl | rfl | rfl | rfl | rfl | rfl | rfl | rfl <;> exact ⟨by kernel_rfl, by kernel_rfl⟩
theorem pickM (c : Bool) (pc : Int) : atI [(("mark" : Str), pc), (("none" : Str), pc)] (if c = true then 1 else 0) = some (if c = true then (("none" : Str), pc) else (("mark" : Str), pc)) := by cases c <;> rfl
theorem deed_ok {D : BD} {n : Nat} (h : WD D n) (hn : n < 1000000) : m__law_deed (ownR D) = some (D.deed.1, ownR D.deed.2) ∧ WD D.deed.2 (n + 1) := by
  have up : D.sent.length ≤ n + 1 := by have := h.sent; omega
  have hs : ∀ c, stOk (some c) = true → WD (D.halt c) (n + 1) := fun c hc => ⟨h.m, h.ln, h.a, h.b, h.pc, h.bend, up, hc⟩
  have p0 := h.pc.1
  unfold m__law_deed BD.deed
  by_cases c : 767 < D.pc
  · rw [if_pos (show D.pc < 0 ∨ 768 ≤ D.pc by omega)]
    refine ⟨(if_pos c).trans (bnd_of (halts_ok D _) rfl), hs _ (by kernel_rfl)⟩
  · rw [if_neg (show ¬ (D.pc < 0 ∨ 768 ≤ D.pc) by omega)]
    obtain ⟨w, ew⟩ : ∃ w, D.m.at D.pc = some w := by
      cases e : D.m.at D.pc with
      | none => have := (at_none_iff h.m D.pc).mp (by rw [e]; rfl); omega
      | some w => exact ⟨w, rfl⟩
    have ww := at_w h.m ew
    rw [ew, show (some w).getD 0 = w from rfl]
    have ea : atI (mem D.m) D.pc = some w := (mem_at h.m p0).trans ew
    have kk : w / 1024 = (((w / 1024).toNat : Nat) : Int) := by have := ww.1; omega
    unfold BD.deedW
    by_cases c0 : (w / 1024 = 0) ∨ (22 < w / 1024)
    · by_cases c1 : 22 < w / 1024
      · rw [if_pos (show ¬ (w / 1024).toNat < 23 by omega)]
        refine ⟨(if_neg c).trans (bnd_of ea (bnd_of ea ((if_pos c0).trans ?_))), hs _ (by kernel_rfl)⟩
        refine bnd_of (pickM _ _) ?_
        rw [decide_eq_true c1]
        exact bnd_of (halts_ok D _) rfl
      · rw [if_neg (show ¬ ¬ (w / 1024).toNat < 23 by omega), if_pos (show (w / 1024).toNat = 0 by omega)]
        refine ⟨(if_neg c).trans (bnd_of ea (bnd_of ea ((if_pos c0).trans ?_))), hs _ (by kernel_rfl)⟩
        refine bnd_of (pickM _ _) ?_
        rw [decide_eq_false c1]
        exact bnd_of (halts_ok D _) rfl
    · rw [if_neg (show ¬ ¬ (w / 1024).toNat < 23 by omega), if_neg (show ¬ (w / 1024).toNat = 0 by omega)]
      have k0 : (w / 1024).toNat ≠ 0 := by omega
      have k1 : (w / 1024).toNat < 23 := by omega
      obtain ⟨r1, r2⟩ := rest_ok h hn (by omega) k0 k1 (x := w % 1024) ⟨by omega, by omega⟩
      refine ⟨(if_neg c).trans (bnd_of ea (bnd_of ea ((if_neg c0).trans ?_))), r2⟩
      obtain ⟨s1, s2⟩ := sel_ok k0 k1 (w % 1024) D.b D.sp
      rw [← r1, ← s1, ← s2, ← kk]
      by_cases c21 : w / 1024 = 21
      · refine bnd_of (if_pos c21) ?_
        rw [if_pos c21]; rfl
      · refine bnd_of (if_neg c21) ?_
        rw [if_neg c21]; rfl

/-! ### the own board: a whole turn -/
theorem once_ok {D : BD} {n : Nat} (h : WD D n) (hn : n < 999000) : m__law_once (ownR D) = some (D.turn.1, ownR D.turn.2) ∧ WD D.turn.2 (n + 2) := by
  have up : D.sent.length ≤ n + 2 := by have := h.sent; omega
  have up1 : D.sent.length ≤ n + 1 := by have := h.sent; omega
  have ep : Builtin.bitAnd (D.m.place 2) (D.m.place 3) = D.pending := rfl
  have e2 : atI (mem D.m) 770 = some (D.m.place 2) := mem_pl h.m (k := 2) rfl (by decide)
  have e3 : atI (mem D.m) 771 = some (D.m.place 3) := mem_pl h.m (k := 3) rfl (by decide)
  have hp : W16 D.pending := (place_w h.m 2 (by decide)).and (place_w h.m 3 (by decide))
  unfold m__law_once
  by_cases cs : D.stop = none
  · refine (show _ = _ ∧ _ from ?_)
    have c0 : ¬ ((ownR D).stopped ≠ none) := fun z => z cs
    rw [if_neg c0]
    by_cases c1 : D.asleep = true ∧ D.pending = 0
    · rw [turn_asleep cs c1]
      have h' : WD ({ D with tc := [] } : BD) (n + 2) := ⟨h.m, h.ln, h.a, h.b, h.pc, h.bend, up, h.stop⟩
      obtain ⟨w1, w2⟩ := h'.pass (k := 1) (by decide)
      rw [show ((1 : Nat) : Int) = (1 : Int) from rfl] at w2
      exact ⟨bnd_of e2 (bnd_of e3 ((if_pos c1).trans (bnd_of w2 rfl))), w1⟩
    · by_cases c2 : D.lets = true ∧ 0 < D.pending
      · rw [turn_inter cs c1 c2]
        have c2' : ¬ ((¬ (D.lets = true)) ∨ (D.pending = 0)) := by
          rintro (z | z)
          · exact z c2.1
          · omega
        have h' : WD ({ D with tc := [], asleep := false } : BD) n := ⟨h.m, h.ln, h.a, h.b, h.pc, h.bend, h.sent, h.stop⟩
        have bo : barOf D.m D.pc [] [D.sp, D.sp - 1] = (match barTo D.sp with | some b => some [.str b.s, .int D.pc, .int D.sp] | none => match barTo (D.sp - 1) with | some b => some [.str b.s, .int D.pc, .int (D.sp - 1)] | none => none) := by
          unfold barOf barR barP
          cases barTo D.sp with
          | some b => rfl
          | none =>
            unfold barP
            cases barTo (D.sp - 1) with
            | some b => rfl
            | none => rfl
        have em : m__law_barred ({ ownR D with asleep := false } : R_Own) ([] : List Int) [D.sp, D.sp - 1] = some (barOf D.m D.pc [] [D.sp, D.sp - 1]) := barred_ok h.m _ _ _
        unfold BD.interrupt
        show _ = some ((match barTo D.sp with | some b => _ | none => match barTo (D.sp - 1) with | some b => _ | none => _ : Str × BD).1, _) ∧ _
        cases b1 : barTo D.sp with
        | some b =>
          rw [b1] at bo
          refine ⟨bnd_of e2 (bnd_of e3 ((if_neg c1).trans ((if_neg c2').trans (bnd_of (em.trans (congrArg some bo)) ?_)))), ⟨h.m, h.ln, h.a, h.b, h.pc, h.bend, up, by cases b <;> kernel_rfl⟩⟩
          exact (if_pos (fun z => by cases z)).trans (bnd_of rfl rfl)
        | none =>
          cases b2 : barTo (D.sp - 1) with
          | some b =>
            rw [b1, b2] at bo
            refine ⟨bnd_of e2 (bnd_of e3 ((if_neg c1).trans ((if_neg c2').trans (bnd_of (em.trans (congrArg some bo)) ?_)))), ⟨h.m, h.ln, h.a, h.b, h.pc, h.bend, up, by cases b <;> kernel_rfl⟩⟩
            exact (if_pos (fun z => by cases z)).trans (bnd_of rfl rfl)
          | none =>
            rw [b1, b2] at bo
            have s1 := lay_ok (D := ({ D with tc := [], asleep := false } : BD)) h.m b1 h.pc (by have := h.sent; show D.sent.length < _; omega)
            have w1 := h'.store b1 h.pc
            have zw : W16 (if D.zero = true then (1 : Int) else 0) := by split <;> exact ⟨by decide, by decide⟩
            have s2 := lay_ok (D := (({ D with tc := [], asleep := false } : BD).store D.sp D.pc)) w1.m b2 zw (by have := w1.sent; omega)
            have w2 := w1.store b2 zw
            have w3 : WD ({ ((({ D with tc := [], asleep := false } : BD).store D.sp D.pc).store (D.sp - 1) (if D.zero = true then 1 else 0)) with sp := D.sp - 2, lets := false, pc := if D.pending % 2 = 0 then 2 else 1 } : BD) (n + 2) :=
              ⟨w2.m, w2.ln, w2.a, w2.b, by show W16 (if D.pending % 2 = 0 then 2 else 1); split <;> exact ⟨by decide, by decide⟩, w2.bend, w2.sent, w2.stop⟩
            obtain ⟨p1, p2⟩ := w3.pass (k := 3) (by decide)
            rw [show ((3 : Nat) : Int) = (3 : Int) from rfl] at p2
            have epc : (2 : Int) - D.pending % 2 = if D.pending % 2 = 0 then 2 else 1 := by split <;> omega
            generalize hS1 : (({ D with tc := [], asleep := false } : BD).store D.sp D.pc) = S1 at *
            generalize hS2 : S1.store (D.sp - 1) (if D.zero = true then 1 else 0) = S2 at *
            have ez : S1.zero = D.zero := by rw [← hS1]; rfl
            have t1 : m__law_lay ({ ownR D with asleep := false } : R_Own) D.sp D.pc = some (ownR S1) := s1
            have t2 : m__law_lay (ownR S1) (D.sp - 1) (if decide (S1.zero = true) = true then 1 else 0) = some (ownR S2) := by
              rw [← s2, ez]
              congr 1
              cases D.zero <;> rfl
            have t3 : m__law_go_by ({ ownR S2 with pc := (2 : Int) - D.pending % 2, sp := D.sp - 2, lets := false } : R_Own) 3 = some (ownR (({ S2 with sp := D.sp - 2, lets := false, pc := if D.pending % 2 = 0 then 2 else 1 } : BD).pass 3)) := by
              rw [epc]; exact p2
            have fin : D.inter = D.inter := rfl
            refine ⟨?_, ?_⟩
            · refine bnd_of e2 (bnd_of e3 ((if_neg c1).trans ((if_neg c2').trans ?_)))
              refine bnd_of (em.trans (congrArg some bo)) ?_
              refine (if_neg (fun z => z rfl)).trans ?_
              refine bnd_of t1 ?_
              refine bnd_of t2 ?_
              refine bnd_of t3 ?_
              show some (("interrupt" : Str), ownR (({ S2 with sp := D.sp - 2, lets := false, pc := if D.pending % 2 = 0 then 2 else 1 } : BD).pass 3)) = some (("interrupt" : Str), ownR (BD.inter { D with tc := [], asleep := false }))
              rw [← hS2, ← hS1]; rfl
            · have p1' := p1
              rw [← hS2, ← hS1] at p1'
              exact p1'
      · rw [turn_deed cs c1 c2]
        have c2' : (¬ (D.lets = true)) ∨ (D.pending = 0) := by
          by_cases z : D.lets = true
          · have q : ¬ 0 < D.pending := fun y => c2 ⟨z, y⟩
            have := hp.1
            exact .inr (by omega)
          · exact .inl z
        have h' : WD ({ D with tc := [], asleep := false } : BD) n := ⟨h.m, h.ln, h.a, h.b, h.pc, h.bend, h.sent, h.stop⟩
        obtain ⟨w1, w2⟩ := deed_ok h' (by omega)
        refine ⟨bnd_of e2 (bnd_of e3 ((if_neg c1).trans ((if_pos c2').trans (bnd_of w1 rfl)))), ⟨w2.m, w2.ln, w2.a, w2.b, w2.pc, w2.bend, by have := w2.sent; omega, w2.stop⟩⟩
  · have e : D.turn = (("stopped" : Str), { D with tc := [] }) := by
      unfold BD.turn BD.turnB
      exact if_pos (by show D.stop.isSome = true; cases hh : D.stop with
        | none => exact absurd hh cs
        | some _ => rfl)
    rw [e]
    exact ⟨if_pos cs, ⟨h.m, h.ln, h.a, h.b, h.pc, h.bend, up, h.stop⟩⟩

end OB
/-- the own board's turn, for boards in bounds -/
theorem WD.ob {D : BD} {n : Nat} (h : WD D n) : OB.WD D n := ⟨h.m, h.ln, h.a, h.b, h.pc, h.bend, h.sent, h.stop⟩
theorem onceC {D : BD} {n : Nat} (h : WD D n) (hn : n < 999000) : m__law_once (OB.ownR D) = some (D.turn.1, OB.ownR D.turn.2) := (OB.once_ok h.ob hn).1
theorem mk_go : ∀ (l acc : List (Int × Int)), ((acc ++ l).map (·.1)).Pairwise (· < ·) → l.foldl (fun acc p => putI acc p.1 p.2) acc = acc ++ l
  | [], acc, _ => (List.append_nil _).symm
  | p :: r, acc, h => by
    have e : putI acc p.1 p.2 = acc ++ [p] := by
      unfold putI
      rw [if_neg]
      intro z
      obtain ⟨q, mq, eq⟩ := List.any_eq_true.mp z
      have eq' : q.1 = p.1 := of_decide_eq_true eq
      rw [List.map_append] at h
      have := (List.pairwise_append.mp h).2.2 q.1 (List.mem_map_of_mem mq) p.1 (by simp)
      omega
    rw [List.foldl_cons, e, mk_go r (acc ++ [p]) (by rw [List.append_assoc]; exact h), List.append_assoc]
    rfl
theorem mkI_ok {l : List (Int × Int)} (h : LineOk l) : mkI l = l := mk_go l [] h.up
theorem new_ok {im : List Int} {ln : List (Int × Int)} (hi : im.length ≤ 512) (hl : LineOk ln) : m__law_new im ln = some (OB.ownR (BD.init im ln)) := by
  unfold m__law_new
  refine bnd_of (repL_one (x := (65535 : Int)) (n := 512 - (im.length : Int)) (by omega) (by omega)) ?_
  have e1 : (512 - (im.length : Int)).toNat = 512 - im.length := by omega
  rw [e1]
  refine bnd_of (catL_ok (by rw [List.length_replicate]; omega)) (bnd_of (repL_one (x := (0 : Int)) (n := 262) (by decide) (by decide)) (bnd_of (catL_ok (by rw [List.length_append, List.length_replicate, List.length_replicate]; show _ + Int.toNat 262 < _; rw [show Int.toNat 262 = 262 from rfl]; omega)) ?_))
  rw [mkI_ok hl]
  have e2 : (im ++ List.replicate (512 - im.length) 65535) ++ List.replicate (Int.toNat 262) (0 : Int) = mem (BD.init im ln).m := by
    unfold mem BD.init
    dsimp only
    rw [List.append_assoc (im ++ _), List.replicate_append_replicate]
    rfl
  rw [e2]; rfl

theorem digits_ok (c : Int) {n : Nat} (hn : n ≤ 1000) : ∃ ds, m__law_digits c n = some ds ∧ ds.length = n ∧ Digs ds := by
  unfold m__law_digits
  have key : ∀ j : Int, ∃ s, forS m__law_digits_l1 (rangeL 0 (Int.toNat n)) (j, c % 2147483647, []) = some s ∧ (s.2.2.length = n ∧ Digs s.2.2 ∧ 0 ≤ s.2.1 ∧ s.2.1 < 2147483647) := fun j => by
    have := forS_inv (f := m__law_digits_l1) (xs := rangeL 0 (Int.toNat n)) (s := (j, c % 2147483647, [])) (fun i s => s.2.2.length = i ∧ Digs s.2.2 ∧ 0 ≤ s.2.1 ∧ s.2.1 < 2147483647) ⟨rfl, (fun _ z => by cases z), Int.emod_nonneg _ (by decide), Int.emod_lt_of_pos _ (by decide)⟩ ?_
    · rw [range_len] at this
      simpa using this
    · rintro i k ⟨rest, m, ds⟩ hk ⟨hl, hd, h0, h1⟩
      obtain ⟨rfl, hi⟩ := range_mem hk
      have hi2 : i < n := by simpa using hi
      have hl : ds.length = i := hl
      have h0 : 0 ≤ m := h0
      have h1 : m < 2147483647 := h1
      obtain ⟨u, eu⟩ : ∃ u, u = (m * 48271 + 30103 * (0 + (i : Int)) + 11) % 2147483647 := ⟨_, rfl⟩
      have g1 : 0 ≤ u := by rw [eu]; exact Int.emod_nonneg _ (by decide)
      have g2 : u < 2147483647 := by rw [eu]; exact Int.emod_lt_of_pos _ (by decide)
      obtain ⟨v, ev⟩ : ∃ v, v = u * (u / 1009 + 69621) % 2147483629 := ⟨_, rfl⟩
      have g3 : 0 ≤ v := by rw [ev]; exact Int.emod_nonneg _ (by decide)
      have g4 : v < 2147483629 := by rw [ev]; exact Int.emod_lt_of_pos _ (by decide)
      have step : m__law_digits_l1 (0 + (i : Int)) (rest, m, ds) = (if 0 < rest then (snoc ds (rest % 1009)).bind fun y => some (rest / 1009, v, y) else (snoc ds (v / 7 % 1009)).bind fun y => some (rest, v, y)) := by
        unfold m__law_digits_l1
        refine bnd_of rfl ?_
        dsimp only
        rw [← eu, if_pos (show CMul u (u / 1009 + 69621) from .inl ⟨by omega, by omega⟩)]
        refine bnd_of rfl ?_
        try dsimp only
        rw [← ev]
      rw [step]
      by_cases hr : 0 < rest
      · refine ⟨(rest / 1009, v, ds ++ [rest % 1009]), ?_, by show (ds ++ [_]).length = _; rw [List.length_append, hl]; rfl, Digs.snoc hd (by omega), by show 0 ≤ v; omega, by show v < _; omega⟩
        rw [if_pos hr]
        exact bnd_of (snoc_ok (by omega)) rfl
      · refine ⟨(rest, v, ds ++ [v / 7 % 1009]), ?_, by show (ds ++ [_]).length = _; rw [List.length_append, hl]; rfl, Digs.snoc hd (by omega), by show 0 ≤ v; omega, by show v < _; omega⟩
        rw [if_neg hr]
        exact bnd_of (snoc_ok (by omega)) rfl
  by_cases hc : (10 : Int) ^ Int.toNat 18 ≤ c
  · obtain ⟨s, e, h1, h2, _, _⟩ := key c
    refine ⟨s.2.2, ?_, h1, h2⟩
    rw [if_pos hc]
    refine bnd_of rfl (bnd_of rfl ?_)
    rw [if_pos ⟨by omega, by omega⟩]
    exact bnd_of e rfl
  · obtain ⟨s, e, h1, h2, _, _⟩ := key 0
    refine ⟨s.2.2, ?_, h1, h2⟩
    rw [if_neg hc]
    refine bnd_of rfl (bnd_of rfl ?_)
    rw [if_pos ⟨by omega, by omega⟩]
    exact bnd_of e rfl

/-! ### k09: what is drawn, in plain words -/
theorem atI_mem {α : Type} {xs : List α} {i : Int} (h0 : 0 ≤ i) (h1 : i < xs.length) : ∃ v, v ∈ xs ∧ atI xs i = some v :=
  ⟨xs[i.toNat]'(by omega), List.getElem_mem _, atI_z h0 (List.getElem?_eq_getElem _)⟩
theorem word_by_ok {n m : Int} (hn : 0 ≤ n) (hm : 0 < m ∧ m ≤ 1024) : ∃ r, m__law_word_by n m = some r ∧ W16 r := by
  have kn : ∀ v ∈ ([1, 2, 3, 4, 5, 6, 7, 8, 9, 10, 11, 12, 13, 14, 15, 16, 17, 18, 19, 20, 21, 22, 1, 3, 2, 17, 18, 15, 13, 4] : List Int), 1 ≤ v ∧ v ≤ 22 := by decide
  obtain ⟨op, mo, eo⟩ := atI_mem (xs := ([1, 2, 3, 4, 5, 6, 7, 8, 9, 10, 11, 12, 13, 14, 15, 16, 17, 18, 19, 20, 21, 22, 1, 3, 2, 17, 18, 15, 13, 4] : List Int)) (i := n % 30) (by omega) (by show n % 30 < 30; omega)
  have ho := kn op mo
  have q0 : 0 ≤ n / 30 := by omega
  unfold m__law_word_by
  generalize n / 30 = q at *
  by_cases c1 : op ∈ ([12, 13, 14, 15] : List Int)
  · have g0 := Int.emod_nonneg q (show m ≠ 0 by omega)
    have g1 := Int.emod_lt_of_pos q hm.1
    exact ⟨_, bnd_of eo ((if_pos c1).trans (if_pos hm.1)), by omega, by omega⟩
  · by_cases c2 : op ∈ ([2, 3, 4, 5, 6, 7, 8, 9] : List Int) ∧ 0 < q % 29
    · obtain ⟨x, mx, ex⟩ := atI_mem (xs := ([512 + q % 12, 768 + q / 4 % 6, 512 + q % 12, 520 + q % 5] : List Int)) (i := q / 2 % 4) (by omega) (by show q / 2 % 4 < 4; omega)
      simp only [List.mem_cons, List.not_mem_nil, or_false] at mx
      exact ⟨_, bnd_of eo ((if_neg c1).trans ((if_pos c2).trans (bnd_of ex rfl))), by omega, by omega⟩
    · obtain ⟨x, mx, ex⟩ := atI_mem (xs := ([1024 * op + q % 1024, q % 65536] : List Int)) (i := if decide (q % 97 = 5) = true then 1 else 0) (by split <;> decide) (by show (if decide (q % 97 = 5) = true then (1 : Int) else 0) < 2; split <;> decide)
      simp only [List.mem_cons, List.not_mem_nil, or_false] at mx
      exact ⟨x, bnd_of eo ((if_neg c1).trans ((if_neg c2).trans (bnd_of ex rfl))), by omega, by omega⟩
theorem forS_map {α β : Type} {f : α → List β → Option (List β)} {P : β → Prop} {xs : List α} (hx : xs.length < 1000) (h : ∀ x ∈ xs, ∀ acc : List β, acc.length < 1000 → ∃ y, f x acc = some (acc ++ [y]) ∧ P y) : ∃ ys, forS f xs [] = some ys ∧ ys.length = xs.length ∧ ∀ y ∈ ys, P y := by
  obtain ⟨s, e, h1, h2⟩ := forS_inv (f := f) (xs := xs) (s := []) (fun i s => s.length = i ∧ ∀ y ∈ s, P y) ⟨rfl, fun _ z => by cases z⟩ fun i x s hi ⟨g1, g2⟩ => by
    have hl := (List.getElem?_eq_some_iff.mp hi).1
    obtain ⟨y, ey, py⟩ := h x (List.mem_of_getElem? hi) s (by omega)
    refine ⟨s ++ [y], ey, by rw [List.length_append, g1]; rfl, fun z hz => ?_⟩
    rcases List.mem_append.mp hz with q | q
    · exact g2 z q
    · rw [List.mem_singleton.mp q]; exact py
  exact ⟨s, e, h1, h2⟩
theorem line_ok (c : Int) : ∃ ln, m__law_drawn_line c = some ln ∧ LineOk ln ∧ ln.length < 64 := by
  obtain ⟨row, er, hl, hd⟩ := digits_ok c (n := 40) (by decide)
  obtain ⟨x0, e0, g0⟩ := dg_at hl hd 0 (by decide) (by decide)
  obtain ⟨x39, e39, g39⟩ := dg_at hl hd 39 (by decide) (by decide)
  obtain ⟨md, mm, em⟩ := atI_mem (xs := ([3, 20, 60] : List Int)) (i := x39 % 3) (by omega) (by show x39 % 3 < 3; omega)
  have hmd : 0 < md := by
    simp only [List.mem_cons, List.not_mem_nil, or_false] at mm
    omega
  have key := forS_inv (f := m__law_drawn_line_l1 row) (xs := rangeL 0 (Int.toNat (x0 % 14))) (s := ((0 : Int), ([] : List (Int × Int)))) (fun i s => s.2.length = i ∧ 0 ≤ s.1 ∧ LineOk s.2 ∧ ∀ p ∈ s.2, p.1 ≤ s.1)
    ⟨rfl, Int.le_refl _, lineOk_nil, (fun _ h => by cases h)⟩ ?_
  · obtain ⟨s, e, h1, _, h3, _⟩ := key
    rw [range_len] at h1
    refine ⟨s.2, ?_, h3, by omega⟩
    unfold m__law_drawn_line
    refine bnd_of er (bnd_of e0 ?_)
    rw [if_pos ⟨by omega, by omega⟩]
    exact bnd_of e rfl
  · rintro i k ⟨bt, ls⟩ hk ⟨h1, h2, h3, h4⟩
    obtain ⟨rfl, hi⟩ := range_mem hk
    obtain ⟨x5, e5, g5⟩ := dg_at hl hd (1 + 2 * (0 + (i : Int))) (by omega) (by omega)
    obtain ⟨x6, e6, g6⟩ := dg_at hl hd (2 + 2 * (0 + (i : Int))) (by omega) (by omega)
    have h1 : ls.length = i := h1
    have h2 : 0 ≤ bt := h2
    have h4 : ∀ p ∈ ls, p.1 ≤ bt := h4
    have r0 := Int.emod_nonneg x5 (show md ≠ 0 by omega)
    refine ⟨(bt + 1 + x5 % md, ls ++ [(bt + 1 + x5 % md, x6 % 4)]), ?_, by show (ls ++ _).length = _; rw [List.length_append, h1]; rfl, by show 0 ≤ bt + 1 + x5 % md; omega, ?_, ?_⟩
    · unfold m__law_drawn_line_l1
      refine bnd_of e5 (bnd_of e39 (bnd_of em ((if_pos hmd).trans (bnd_of rfl (bnd_of e6 (bnd_of (snoc_ok (by omega)) rfl))))))
    · exact LineOk.snoc h3 (by intro p hp; have := h4 p hp; show p.1 < bt + 1 + x5 % md; omega) (by show 0 < bt + 1 + x5 % md; omega) (by show 0 ≤ x6 % 4 ∧ x6 % 4 < 4; omega)
    · intro p hp
      show p.1 ≤ bt + 1 + x5 % md
      rcases List.mem_append.mp hp with z | z
      · have := h4 p z; omega
      · rw [List.mem_singleton.mp z]; exact Int.le_refl _

/-! ### k09: the drawn image -/
theorem cutX_mem {α : Type} {xs : List α} {lo hi : Option Int} : (cutX xs lo hi).length ≤ xs.length ∧ ∀ x ∈ cutX xs lo hi, x ∈ xs := by
  unfold cutX
  exact ⟨by rw [List.length_take, List.length_drop]; omega, fun x hx => List.mem_of_mem_drop (List.mem_of_mem_take hx)⟩
theorem cut_len {ns : List Int} {k : Nat} : (cutX ns (some (k : Int)) none).length = ns.length - k := by
  unfold cutX
  rw [List.length_take, List.length_drop]
  show min (HT.sIx ns.length ns.length none - HT.sIx ns.length 0 (some (k : Int))) _ = _
  rw [HT.sIx_nat, HT.sIx_none]
  omega
theorem img_ok2 (c : Int) : ∃ im, m__law_drawn_image c = some im ∧ (24 ≤ im.length ∧ im.length ≤ 100) ∧ ∀ n ∈ im, 0 ≤ n ∧ n ≤ 65535 := by
  obtain ⟨row, er, hl, hd⟩ := digits_ok c (n := 60) (by decide)
  obtain ⟨x0, e0, g0⟩ := dg_at hl hd 0 (by decide) (by decide)
  obtain ⟨x1, e1, g1⟩ := dg_at hl hd 1 (by decide) (by decide)
  obtain ⟨x2, e2, g2⟩ := dg_at hl hd 2 (by decide) (by decide)
  obtain ⟨x3, e3, g3⟩ := dg_at hl hd 3 (by decide) (by decide)
  have mny : 24 ≤ 24 + x0 % 60 ∧ 24 + x0 % 60 ≤ 83 := by omega
  obtain ⟨ns, en, ln, pn⟩ := forS_map (f := m__law_drawn_image_l1 row) (P := fun y : Int => 0 ≤ y) (xs := rangeL 0 (Int.toNat (24 + x0 % 60))) (by rw [range_len]; omega) fun k hk acc ha => by
    obtain ⟨a, ea, ga⟩ := dg_at hl hd (k % 60) (by omega) (by omega)
    obtain ⟨b, eb, gb⟩ := dg_at hl hd ((7 * k + 3) % 60) (by omega) (by omega)
    exact ⟨a * 1009 + b, bnd_of ea (bnd_of eb (snoc_ok (by omega))), by omega⟩
  rw [range_len] at ln
  obtain ⟨n3, m3, a3⟩ := atI_mem (xs := ns) (i := 3) (by decide) (by omega)
  obtain ⟨n7, m7, a7⟩ := atI_mem (xs := ns) (i := 7) (by decide) (by omega)
  obtain ⟨w3, ew3, ww3⟩ := word_by_ok (pn n3 m3) (m := 24 + x0 % 60) ⟨by omega, by omega⟩
  obtain ⟨w7, ew7, ww7⟩ := word_by_ok (pn n7 m7) (m := 24 + x0 % 60) ⟨by omega, by omega⟩
  have y1 := catL_ok (xs := ([1024 * 12 + 12, 1024 * 12 + 3, 1024 * 12 + 7] : List Int)) (ys := [1024 + 1, 1024 * 3 + 770, w3, 1024 * 21]) (by simp)
  have y2 := catL_ok (xs := ([1024 * 12 + 12, 1024 * 12 + 3, 1024 * 12 + 7] : List Int) ++ [1024 + 1, 1024 * 3 + 770, w3, 1024 * 21]) (ys := [1024 + 2, 1024 * 3 + 770, w7, 1024 * 21, 1024 * 19]) (by simp)
  have y3 := catL_ok (xs := ([1024 * 12 + 12, 1024 * 12 + 3, 1024 * 12 + 7] : List Int) ++ [1024 + 1, 1024 * 3 + 770, w3, 1024 * 21] ++ [1024 + 2, 1024 * 3 + 770, w7, 1024 * 21, 1024 * 19]) (ys := [1024 + x1 % 40, 1024 * 3 + 769, 1024 + x2 % 4, 1024 * 3 + 771, 1024 * 20 + x3 % 3]) (by simp)
  have hw : ∀ n ∈ ([1024 * 12 + 12, 1024 * 12 + 3, 1024 * 12 + 7] : List Int) ++ [1024 + 1, 1024 * 3 + 770, w3, 1024 * 21] ++ [1024 + 2, 1024 * 3 + 770, w7, 1024 * 21, 1024 * 19] ++ [1024 + x1 % 40, 1024 * 3 + 769, 1024 + x2 % 4, 1024 * 3 + 771, 1024 * 20 + x3 % 3], 0 ≤ n ∧ n ≤ 65535 := by
    have := ww3.1; have := ww3.2; have := ww7.1; have := ww7.2
    simp only [List.forall_mem_append, List.forall_mem_cons]
    have z : ∀ x ∈ ([] : List Int), 0 ≤ x ∧ x ≤ 65535 := fun _ h => by cases h
    refine ⟨⟨⟨⟨?_, ?_, ?_, z⟩, ?_, ?_, ?_, ?_, z⟩, ?_, ?_, ?_, ?_, ?_, z⟩, ?_, ?_, ?_, ?_, ?_, z⟩ <;> omega
  generalize hh : ([1024 * 12 + 12, 1024 * 12 + 3, 1024 * 12 + 7] : List Int) ++ [1024 + 1, 1024 * 3 + 770, w3, 1024 * 21] ++ [1024 + 2, 1024 * 3 + 770, w7, 1024 * 21, 1024 * 19] ++ [1024 + x1 % 40, 1024 * 3 + 769, 1024 + x2 % 4, 1024 * 3 + 771, 1024 * 20 + x3 % 3] = hd0 at *
  have hlen : hd0.length = 17 := by rw [← hh]; rfl
  obtain ⟨cl, cm⟩ := cutX_mem (xs := ns) (lo := some (hd0.length : Int)) (hi := none)
  obtain ⟨ws, ews, lws, pws⟩ := forS_map (f := m__law_drawn_image_l2 x0) (P := W16) (xs := cutX ns (some (hd0.length : Int)) none) (by omega) fun k hk acc ha => by
    obtain ⟨r, e, w⟩ := word_by_ok (pn k (cm k hk)) (m := 24 + x0 % 60) ⟨by omega, by omega⟩
    exact ⟨r, bnd_of e (snoc_ok (by omega)), w⟩
  have cl2 := cut_len (ns := ns) (k := hd0.length)
  refine ⟨hd0 ++ ws, ?_, by rw [List.length_append]; omega, fun n hn => ?_⟩
  · unfold m__law_drawn_image
    refine bnd_of er (bnd_of e0 ?_)
    rw [if_pos ⟨by omega, by omega⟩]
    refine bnd_of en (bnd_of a3 (bnd_of ew3 (bnd_of y1 (bnd_of a7 (bnd_of ew7 (bnd_of y2 (bnd_of e1 (bnd_of e2 (bnd_of e3 (bnd_of y3 (bnd_of ews (bnd_of (catL_ok (by omega)) rfl))))))))))))
  · rcases List.mem_append.mp hn with z | z
    · exact hw n z
    · exact pws n z
theorem img_ok (c : Int) : ∃ im, m__law_drawn_image c = some im ∧ im.length ≤ 512 ∧ ∀ n ∈ im, 0 ≤ n ∧ n ≤ 65535 := by
  obtain ⟨im, e, h1, h2⟩ := img_ok2 c
  exact ⟨im, e, by omega, h2⟩

theorem atI_last {α : Type} {xs : List α} {x : α} (h : 0 < xs.length) (e : xs[xs.length - 1]? = some x) : atI xs (-1) = some x := by
  unfold atI ixN
  rw [if_neg (by decide), if_pos (by omega)]
  show xs[_]? = _
  rw [← e]
  congr 1
  omega
theorem setX_z {α : Type} {xs : List α} {i : Int} {v : α} (h0 : 0 ≤ i) (h1 : i < xs.length) : setX xs i v = some (xs.set i.toNat v) := by
  unfold setX ixN
  rw [if_pos h0, if_pos (by omega)]; rfl
theorem doing_tc (D : BD) (k : Nat) (x : Int) (ws ps : List Int) : (D.doing k x ws ps).tc = D.tc ++ (ps.take 1).map fun i => (("w" : Str), i) := by
  cases ps with
  | cons i r =>
    show (D.putting k x i).tc = _
    unfold BD.putting
    dsimp only
    split <;> split <;> rfl
  | nil =>
    rw [List.take_nil, List.map_nil, List.append_nil]
    unfold BD.doing
    dsimp only
    split
    · split <;> rfl
    · split
      · unfold BD.returning
        dsimp only
        split <;> rfl
      · split
        · rfl
        · split
          · rfl
          · split <;> rfl

/-! ### a turn touches few words -/
theorem pass_tc (D : BD) (n : Nat) : (D.pass n).tc = D.tc := by have := congrArg BD.tc (pass_m D n); exact this
theorem doing_tcl (D : BD) (k : Nat) (x : Int) (ws ps : List Int) : (D.doing k x ws ps).tc.length ≤ D.tc.length + 1 := by
  rw [doing_tc, List.length_append, List.length_map, List.length_take]; omega
theorem deed_tc (D : BD) (h : D.tc = []) : D.deed.2.tc.length ≤ 3 := by
  unfold BD.deed
  split
  · show D.tc.length ≤ 3; rw [h]; exact Nat.zero_le _
  · unfold BD.deedW
    split
    · show D.tc.length ≤ 3; rw [h]; exact Nat.zero_le _
    · split
      · show D.tc.length ≤ 3; rw [h]; exact Nat.zero_le _
      · unfold BD.deedB
        split
        · show D.tc.length ≤ 3; rw [h]; exact Nat.zero_le _
        · unfold BD.deedA
          dsimp only
          rw [pass_tc]
          refine Nat.le_trans (doing_tcl _ _ _ _ _) ?_
          rw [(BD.fetches_keep _ _).2.2.1]
          show D.tc.length + _ + 1 ≤ 3
          rw [h]
          have := addrs_len ((((D.m.at D.pc).getD 0) / 1024).toNat) (((D.m.at D.pc).getD 0) % 1024) D.b D.sp
          show 0 + _ + 1 ≤ 3
          omega
theorem turn_tc (D : BD) : D.turn.2.tc.length ≤ 3 := by
  unfold BD.turn BD.turnB
  split
  · exact Nat.zero_le _
  · split
    · dsimp only; rw [pass_tc]; exact Nat.zero_le _
    · unfold BD.wake
      split
      · unfold BD.interrupt
        split
        · exact Nat.zero_le _
        · split
          · exact Nat.zero_le _
          · unfold BD.inter
            dsimp only
            rw [pass_tc]
            exact Nat.le_of_ble_eq_true rfl
      · exact deed_tc _ rfl

/-! ### a twin stands as the board does -/
theorem mem_twin {fl ra pl : List Int} (h : fl.length = 512) : m_Memory_twin (R_Memory.mk fl ra pl) = some (R_Memory.mk fl ra pl) := by
  unfold m_Memory_twin
  refine bnd_of (x := R_Memory.mk fl (List.replicate 256 0) (List.replicate 6 0)) ?_ rfl
  unfold m_Memory_init_v_g
  have e1 : repL ([(65535 : Int)] : List Int) ((512 : Int) - (fl.length : Int)) = some [] := by
    rw [repL_one (by omega) (by omega), h]; rfl
  refine bnd_of e1 (bnd_of (catL_ok (by show fl.length + 0 < _; omega)) (bnd_of (repL_one (by decide) (by decide)) (bnd_of (repL_one (by decide) (by decide)) ?_)))
  rw [List.append_nil]; rfl
theorem twin_ok {D : BD} (h : BDok D) : m_Board_twin D = some D := by
  unfold m_Board_twin
  exact (if_pos ⟨lineOk_nil, by decide, by decide, fun _ z => by cases z⟩).trans (bnd_of (mem_twin h.2.2.1) (if_pos h))

/-! ### k18: twins -/
theorem pass_ln (D : BD) (n : Nat) : (D.pass n).ln = D.ln := by have := congrArg BD.ln (pass_m D n); exact this
theorem doing_ln (D : BD) (k : Nat) (x : Int) (ws ps : List Int) : (D.doing k x ws ps).ln = D.ln := by
  cases ps with
  | cons i r =>
    show (D.putting k x i).ln = _
    unfold BD.putting
    dsimp only
    split <;> split <;> rfl
  | nil =>
    unfold BD.doing
    dsimp only
    split
    · split <;> rfl
    · split
      · unfold BD.returning
        dsimp only
        split <;> rfl
      · split
        · rfl
        · split
          · rfl
          · split <;> rfl
theorem fetches_ln : ∀ (l : List Int) (D : BD), (D.fetches l).2.ln = D.ln
  | [], _ => rfl
  | i :: r, D => fetches_ln r (D.fetch i)
theorem deed_ln (D : BD) : D.deed.2.ln = D.ln := by
  unfold BD.deed
  split
  · rfl
  · unfold BD.deedW
    split
    · rfl
    · split
      · rfl
      · unfold BD.deedB
        split
        · rfl
        · unfold BD.deedA
          dsimp only
          rw [pass_ln, doing_ln, fetches_ln]
theorem turn_ln (D : BD) : D.turn.2.ln = D.ln := by
  unfold BD.turn BD.turnB
  split
  · rfl
  · split
    · dsimp only; rw [pass_ln]
    · unfold BD.wake
      split
      · unfold BD.interrupt
        split
        · rfl
        · split
          · rfl
          · unfold BD.inter
            dsimp only
            rw [pass_ln]; rfl
      · rw [deed_ln]
theorem same_ok {D : BD} (h : stOk D.stop = true) : m__law_same D (OB.ownR D) = some true := by
  have k2 : ((repL ([false] : (List Bool)) (4 : Int)).bind fun y152 => (repL ([true] : (List Bool)) (3 : Int)).bind fun y166 => (catL y152 y166).bind fun y176 => (repL ([false] : (List Bool)) (3 : Int)).bind fun y193 => (catL y176 y193).bind fun y203 => some (decide (([false, false, false, false, true, true, true, false, false, false] : List Bool) = y203))) = some true := by kernel_rfl
  unfold m__law_same
  rw [k2, if_pos h, if_pos (show stOk (OB.ownR D).stopped = true from h), decide_eq_true ⟨rfl, rfl, rfl, rfl, rfl, rfl, rfl, rfl, rfl, rfl, trivial⟩]
  rfl
theorem like_ok {D : BD} (h : WM D.m) : m__law_like_words D (OB.ownR D) 500 774 = some true := by
  have hl : (mem D.m).length = 774 := by unfold mem; rw [List.length_append, List.length_append, h.lf, h.lr, h.lp]
  obtain ⟨s, e, h1⟩ := forS_inv (f := m__law_like_words_l1 D) (xs := rangeL 500 (Int.toNat (774 - 500))) (s := []) (fun i s => s = (((mem D.m).drop 500).take i).map some) rfl fun i k s hk hs => by
    obtain ⟨rfl, hi⟩ := range_mem hk
    have hi : i < 274 := hi
    refine ⟨s ++ [D.m.at (500 + (i : Int))], snoc_ok (by rw [hs, List.length_map, List.length_take, List.length_drop]; omega), ?_⟩
    have e0 := List.getElem?_eq_getElem (l := mem D.m) (i := 500 + i) (by omega)
    rw [← mem_at h (by omega), atI_z (by omega) (by rw [show (500 + (i : Int)).toNat = 500 + i by omega]; exact e0), List.take_add_one, List.map_append, ← hs, List.getElem?_drop, e0]
    simp
  rw [range_len] at h1
  unfold m__law_like_words
  rw [if_pos (by decide)]
  refine bnd_of e ?_
  have ec : cutX (OB.ownR D).m (some (500 : Int)) (some (774 : Int)) = ((mem D.m).drop 500).take 274 := by
    show cutX (mem D.m) _ _ = _
    unfold cutX
    rw [hl]
    rfl
  rw [ec, h1]
  show some (decide ((((mem D.m).drop 500).take 274).map some = (((mem D.m).drop 500).take 274).map some)) = some true
  rw [decide_eq_true rfl]
structure Bx (ln : List (Int × Int)) (n : Nat) (D : BD) : Prop where
  w : WD D n
  l : D.ln = ln
  t : D.tc.length ≤ 3
theorem Bx.ok {ln : List (Int × Int)} {n : Nat} {D : BD} (h : Bx ln n D) (hn : n ≤ 1000) : BDok D := by
  have := h.w.sent
  have := h.t
  exact ⟨by omega, by omega, h.w.m.lf, h.w.m.lr, h.w.m.lp⟩
theorem Bx.turn {ln : List (Int × Int)} {n : Nat} {D : BD} (h : Bx ln n D) : Bx ln (n + 2) D.turn.2 := ⟨(turn_w h.w).1, (turn_ln D).trans h.l, turn_tc D⟩
theorem Bx.le {ln : List (Int × Int)} {n k : Nat} {D : BD} (h : Bx ln n D) (l : n ≤ k) : Bx ln k D := ⟨h.w.le l, h.l, h.t⟩
def All18 (ln : List (Int × Int)) (n : Nat) (ds : List BD) : Prop := 1 ≤ ds.length ∧ ds.length ≤ 3 ∧ ∀ D ∈ ds, Bx ln n D
abbrev st18 (ds : List BD) : List R_Own × List BD := (ds.map OB.ownR, ds)
theorem map_at {ds : List BD} {i : Int} {D : BD} (h0 : 0 ≤ i) (h : ds[i.toNat]? = some D) : atI ds i = some D ∧ atI (ds.map OB.ownR) i = some (OB.ownR D) := ⟨atI_z h0 h, atI_z h0 (by rw [List.getElem?_map, h]; rfl)⟩
theorem twin18 {ln : List (Int × Int)} {n : Nat} {ds : List BD} (h : All18 ln n ds) (hn : n ≤ 1000) (h3 : ds.length < 3) {r : R_Own} (hr : r.line = ln) :
    ∃ ds', ((atI ds (-1 : Int)).bind fun d1648 => (m_Board_twin d1648).bind fun r1658 => (snoc ds r1658).bind fun y1663 => (atI (ds.map OB.ownR) (-1 : Int)).bind fun d1669 =>
      if d1669.line = r.line then (m__law_own_twin d1669).bind fun r1679 => (snoc (ds.map OB.ownR) r1679).bind fun y1684 => some (y1684, y1663) else none) = some (st18 ds') ∧ All18 ln n ds' := by
  have hl := h.1
  have e := List.getElem?_eq_getElem (l := ds) (i := ds.length - 1) (by omega)
  have hD := h.2.2 _ (List.getElem_mem (l := ds) (n := ds.length - 1) (by omega))
  generalize ds[ds.length - 1] = D at e hD
  have e1 := atI_last (xs := ds) (by omega) e
  have e2 := atI_last (xs := ds.map OB.ownR) (x := OB.ownR D) (by rw [List.length_map]; omega) (by rw [List.length_map, List.getElem?_map, e]; rfl)
  refine ⟨ds ++ [D], ?_, ?_⟩
  · refine bnd_of e1 (bnd_of (twin_ok (hD.ok hn)) (bnd_of (snoc_ok (by omega)) (bnd_of e2 ((if_pos (hD.l.trans hr.symm)).trans (bnd_of (x := OB.ownR D) rfl (bnd_of (snoc_ok (by rw [List.length_map]; omega)) ?_))))))
    show some (ds.map OB.ownR ++ [OB.ownR D], ds ++ [D]) = some ((ds ++ [D]).map OB.ownR, ds ++ [D])
    rw [List.map_append]; rfl
  · refine ⟨by rw [List.length_append]; omega, by rw [List.length_append]; show _ + 1 ≤ 3; omega, fun E hE => ?_⟩
    rcases List.mem_append.mp hE with z | z
    · exact h.2.2 E z
    · rw [List.mem_singleton.mp z]; exact hD
theorem all_same {ln : List (Int × Int)} {n : Nat} {ds : List BD} (h : All18 ln n ds) {r : R_Own} (hr : r.line = ln) : forC (m_law_l3 r (ds.map OB.ownR) ds) (rangeL 0 (Int.toNat (ds.length : Int))) () = some (.nx ()) := by
  obtain ⟨s, e, _⟩ := forC_inv (f := m_law_l3 r (ds.map OB.ownR) ds) (xs := rangeL 0 (Int.toNat (ds.length : Int))) (s := ()) (fun _ _ => True) trivial (by
    rintro i k s hk _
    obtain ⟨rfl, hi⟩ := range_mem hk
    have hi : i < ds.length := by omega
    have e := List.getElem?_eq_getElem (l := ds) (i := i) hi
    have hD := h.2.2 _ (List.getElem_mem (l := ds) (n := i) hi)
    generalize ds[i] = D at e hD
    obtain ⟨e1, e2⟩ := map_at (i := 0 + (i : Int)) (by omega) (by rw [show (0 + (i : Int)).toNat = i by omega]; exact e)
    refine ⟨(), ?_, trivial⟩
    unfold m_law_l3
    exact bnd_of e1 (bnd_of e2 ((if_pos (hD.l.trans hr.symm)).trans (bnd_of (same_ok hD.w.stop) (if_pos rfl)))))
  exact e
theorem all_like {ln : List (Int × Int)} {n : Nat} {ds : List BD} (h : All18 ln n ds) {r : R_Own} (hr : r.line = ln) : forC (m_law_l4 r (st18 ds)) (rangeL 0 (Int.toNat (ds.length : Int))) () = some (.nx ()) := by
  obtain ⟨s, e, _⟩ := forC_inv (f := m_law_l4 r (st18 ds)) (xs := rangeL 0 (Int.toNat (ds.length : Int))) (s := ()) (fun _ _ => True) trivial (by
    rintro i k s hk _
    obtain ⟨rfl, hi⟩ := range_mem hk
    have hi : i < ds.length := by omega
    have e := List.getElem?_eq_getElem (l := ds) (i := i) hi
    have hD := h.2.2 _ (List.getElem_mem (l := ds) (n := i) hi)
    generalize ds[i] = D at e hD
    obtain ⟨e1, e2⟩ := map_at (i := 0 + (i : Int)) (by omega) (by rw [show (0 + (i : Int)).toNat = i by omega]; exact e)
    refine ⟨(), ?_, trivial⟩
    unfold m_law_l4
    exact bnd_of e1 (bnd_of e2 ((if_pos (hD.l.trans hr.symm)).trans (bnd_of (like_ok hD.w.m) (if_pos rfl)))))
  exact e
theorem turn18 {ln : List (Int × Int)} {n : Nat} {ds : List BD} (h : All18 ln n ds) (hn : n ≤ 1000) {r : R_Own} (hr : r.line = ln) {row : List Int} (hl : row.length = 60) (hd : Digs row) (k : Nat) :
    ∃ ds', m_law_l2 row r (0 + (k : Int)) (st18 ds) = some (.nx (st18 ds')) ∧ All18 ln (n + 2) ds' := by
  obtain ⟨x0, e0, g0⟩ := dg_at hl hd 0 (by decide) (by decide)
  obtain ⟨x1, e1, g1⟩ := dg_at hl hd 1 (by decide) (by decide)
  obtain ⟨x, ex, gx⟩ := dg_at hl hd ((0 + (k : Int)) % 60) (by omega) (by omega)
  obtain ⟨ds1, es, h1⟩ : ∃ ds1, ((andO (some (decide ((ds.length : Int) < (3 : Int)))) ((atI row (0 : Int)).bind fun x1597 => (atI row (1 : Int)).bind fun x1604 => some (decide ((0 + (k : Int)) ∈ ([x1597 % (40 : Int), (40 : Int) + (x1604 % (40 : Int))] : (List Int)))))).bind fun b1616 =>
      if b1616 = true then
        (atI ds (-1 : Int)).bind fun d1648 => (m_Board_twin d1648).bind fun r1658 => (snoc ds r1658).bind fun y1663 => (atI (ds.map OB.ownR) (-1 : Int)).bind fun d1669 =>
        if d1669.line = r.line then (m__law_own_twin d1669).bind fun r1679 => (snoc (ds.map OB.ownR) r1679).bind fun y1684 => some (y1684, y1663) else none
      else some (st18 ds)) = some (st18 ds1) ∧ All18 ln n ds1 := by
    by_cases c : (ds.length : Int) < 3
    · rw [decide_eq_true c, e0]
      show ∃ ds1, (((atI row (1 : Int)).bind fun x1604 => some (decide ((0 + (k : Int)) ∈ ([x0 % (40 : Int), (40 : Int) + (x1604 % (40 : Int))] : (List Int))))).bind fun b1616 => _) = some (st18 ds1) ∧ All18 ln n ds1
      rw [e1]
      show ∃ ds1, (if decide ((0 + (k : Int)) ∈ ([x0 % (40 : Int), (40 : Int) + (x1 % (40 : Int))] : (List Int))) = true then _ else _) = some (st18 ds1) ∧ All18 ln n ds1
      by_cases d : (0 + (k : Int)) ∈ ([x0 % (40 : Int), (40 : Int) + (x1 % (40 : Int))] : (List Int))
      · rw [if_pos (decide_eq_true d)]
        exact twin18 h hn (by omega) hr
      · rw [if_neg (by rw [decide_eq_true_eq]; exact d)]
        exact ⟨ds, rfl, h⟩
    · rw [decide_eq_false c]
      exact ⟨ds, rfl, h⟩
  have l1 := h1.1
  have p0 := Int.emod_nonneg (x / 3) (show (ds1.length : Int) ≠ 0 by omega)
  have p1 := Int.emod_lt_of_pos (x / 3) (show 0 < (ds1.length : Int) by omega)
  have e := List.getElem?_eq_getElem (l := ds1) (i := ((x / 3) % (ds1.length : Int)).toNat) (by omega)
  have hD := h1.2.2 _ (List.getElem_mem (l := ds1) (n := ((x / 3) % (ds1.length : Int)).toNat) (by omega))
  generalize ds1[((x / 3) % (ds1.length : Int)).toNat] = D at e hD
  obtain ⟨a1, a2⟩ := map_at p0 e
  have oc := onceC hD.w (by omega)
  have tm := turnM_w hD.w (by omega)
  have hT := hD.turn
  have s1 : setX (ds1.map OB.ownR) ((x / 3) % (ds1.length : Int)) (OB.ownR D.turn.2) = some ((ds1.set ((x / 3) % (ds1.length : Int)).toNat D.turn.2).map OB.ownR) := by
    rw [setX_z p0 (by rw [List.length_map]; exact p1), List.map_set]
  have s2 : setX ds1 ((x / 3) % (ds1.length : Int)) D.turn.2 = some (ds1.set ((x / 3) % (ds1.length : Int)).toNat D.turn.2) := setX_z p0 p1
  have h2 : All18 ln (n + 2) (ds1.set ((x / 3) % (ds1.length : Int)).toNat D.turn.2) := ⟨by rw [List.length_set]; exact h1.1, by rw [List.length_set]; exact h1.2.1, fun E hE => by
    rcases List.mem_or_eq_of_mem_set hE with z | z
    · exact (h1.2.2 E z).le (by omega)
    · rw [z]; exact hT⟩
  have h23 := h2.2.1
  refine ⟨_, ?_, h2⟩
  unfold m_law_l2
  refine bnd_of es (bnd_of ex ((if_pos (show 0 < (ds1.length : Int) by omega)).trans (bnd_of (x := (x / 3) % (ds1.length : Int)) rfl (bnd_of a1 (bnd_of tm (bnd_of a2 ((if_pos (hD.l.trans hr.symm)).trans (bnd_of oc ?_))))))))
  refine (if_neg (fun z => z rfl)).trans ((if_pos (show (OB.ownR D.turn.2).line = r.line from hT.l.trans hr.symm)).trans (bnd_of s1 (bnd_of s2 ((if_pos ⟨by omega, by omega⟩).trans (thenC_nx (all_same h2 hr) rfl)))))
theorem pair18 {y5 : List Int} {k : Nat} (hk : 2 * k + 1 < (cutX y5 none (some (6 : Int))).length) : m_law_l1 y5 (0 + (k : Int)) () = some (.nx ()) := by
  generalize hc : cutX y5 none (some (6 : Int)) = cs at hk
  unfold m_law_l1
  rw [hc]
  refine bnd_of (atI_z (by omega) (List.getElem?_eq_getElem (h := by omega))) ?_
  obtain ⟨row, er, hrl, hrd⟩ := digits_ok (cs[((2 : Int) * (0 + (k : Int)) + 1).toNat]'(by omega)) (n := 60) (by decide)
  refine bnd_of er (bnd_of (atI_z (by omega) (List.getElem?_eq_getElem (h := by omega))) ?_)
  obtain ⟨im, ei, hi, hw⟩ := img_ok (cs[((2 : Int) * (0 + (k : Int))).toNat]'(by omega))
  refine bnd_of ei (bnd_of (atI_z (by omega) (List.getElem?_eq_getElem (h := by omega))) ?_)
  obtain ⟨ln, el, hl, hl2⟩ := line_ok (cs[((2 : Int) * (0 + (k : Int)) + 1).toNat]'(by omega))
  refine bnd_of el ?_
  rw [if_pos ⟨hl, hl2, hi, hw⟩]
  refine bnd_of (new_ok hi hl) ?_
  have hr : (OB.ownR (BD.init im ln)).line = ln := rfl
  have h0 : All18 ln 0 [BD.init im ln] := ⟨Nat.le_refl 1, (by show 1 ≤ 3; omega), fun E hE => by rw [List.mem_singleton.mp hE]; exact ⟨init_w hi hw hl, rfl, Nat.zero_le _⟩⟩
  obtain ⟨s, e, ds, rfl, hA⟩ := forC_inv (f := m_law_l2 row (OB.ownR (BD.init im ln))) (xs := rangeL 0 (Int.toNat 90)) (s := st18 [BD.init im ln]) (fun i s => ∃ ds, s = st18 ds ∧ (All18 ln (2 * i) ds ∧ i ≤ 90)) ⟨_, rfl, h0, by decide⟩ fun i k s hk ⟨ds, es, hA, _⟩ => by
    obtain ⟨rfl, hi⟩ := range_mem hk
    have hi : i < 90 := hi
    obtain ⟨ds', q1, q2⟩ := turn18 hA (by omega) hr hrl hrd i
    exact ⟨_, by rw [es]; exact q1, _, rfl, q2, by omega⟩
  refine thenC_nx e ?_
  have := hA.1.2.1
  exact (if_pos ⟨by show -(2 ^ 62) ≤ (ds.length : Int); omega, by show (ds.length : Int) < 2 ^ 62; omega⟩).trans (thenC_nx (all_like hA.1 hr) rfl)
theorem law_true (ns : List Int) (hns : ns.length ≤ 63) : m_law ns = some true := by
  unfold m_law
  refine bnd_of (catL_ok (by show _ + 2 < _; omega)) ?_
  generalize hc : cutX (ns ++ [5, 17]) none (some (6 : Int)) = cs
  have hcl : cs.length ≤ ns.length + 2 := by rw [← hc]; have := (cutX_mem (xs := ns ++ [5, 17]) (lo := none) (hi := some (6 : Int))).1; rw [List.length_append] at this; exact this
  rw [if_pos ⟨by omega, by omega⟩]
  obtain ⟨s, e, _⟩ := forC_inv (f := m_law_l1 (ns ++ [5, 17])) (xs := rangeL 0 (Int.toNat ((cs.length : Int) / 2))) (s := ()) (fun _ _ => True) trivial fun i k s hk _ => by
    obtain ⟨rfl, hi⟩ := range_mem hk
    exact ⟨(), pair18 (by rw [hc]; omega), trivial⟩
  exact thenC_nx e rfl

theorem txt_of {K : PySem.W.Frag} {h : Heap} {mg : Str → Option Value} (X : K.In h) (G : h.Ns mainGlobals mg) (c : SaysM fa fn ex K) : Txt K mg := by
  constructor
  case g__wall => exact He.glo_ok X G (c.d.fact 0 (f := .glo "_wall"))
  case g_BoardError => exact He.glo_ok X G (c.d.fact 1 (f := .glo "BoardError"))
  case g_NoImage => exact He.glo_ok X G (c.d.fact 2 (f := .glo "NoImage"))
  case c_FLASH => exact He.int_ok X G (c.d.fact 3 (f := .int "FLASH" 512))
  case c_RAM => exact He.int_ok X G (c.d.fact 4 (f := .int "RAM" 768))
  case c_COUNT => exact He.int_ok X G (c.d.fact 5 (f := .int "COUNT" 768))
  case c_TOP => exact He.int_ok X G (c.d.fact 6 (f := .int "TOP" 769))
  case c_FLAGS => exact He.int_ok X G (c.d.fact 7 (f := .int "FLAGS" 770))
  case c_MASK => exact He.int_ok X G (c.d.fact 8 (f := .int "MASK" 771))
  case c_LINE_IN => exact He.int_ok X G (c.d.fact 9 (f := .int "LINE_IN" 772))
  case c_LINE_OUT => exact He.int_ok X G (c.d.fact 10 (f := .int "LINE_OUT" 773))
  case c_ERASED => exact He.int_ok X G (c.d.fact 11 (f := .int "ERASED" 65535))
  case g_Memory => exact He.glo_ok X G (c.d.fact 12 (f := .glo "Memory"))
  case g_NAMES => exact He.glo_ok X G (c.d.fact 13 (f := .glo "NAMES"))
  case g_READING => exact He.glo_ok X G (c.d.fact 14 (f := .glo "READING"))
  case c_MOST => exact He.int_ok X G (c.d.fact 15 (f := .int "MOST" 65535))
  case g_is_word => exact He.glo_ok X G (c.d.fact 16 (f := .glo "is_word"))
  case g_name_of => exact He.glo_ok X G (c.d.fact 17 (f := .glo "name_of"))
  case g_part_of => exact He.glo_ok X G (c.d.fact 18 (f := .glo "part_of"))
  case c_FIRST_STACK => exact He.int_ok X G (c.d.fact 19 (f := .int "FIRST_STACK" 767))
  case c_TIMER_BIT => exact He.int_ok X G (c.d.fact 20 (f := .int "TIMER_BIT" 1))
  case c_LINE_BIT => exact He.int_ok X G (c.d.fact 21 (f := .int "LINE_BIT" 2))
  case g_is_line => exact He.glo_ok X G (c.d.fact 22 (f := .glo "is_line"))
  case g_Board => exact He.glo_ok X G (c.d.fact 23 (f := .glo "Board"))
  case g__law_cell => exact He.glo_ok X G (c.d.fact 24 (f := .glo "_law_cell"))
  case g__law_digits => exact He.glo_ok X G (c.d.fact 25 (f := .glo "_law_digits"))
  case g__law_new => exact He.glo_ok X G (c.d.fact 26 (f := .glo "_law_new"))
  case g__law_go_by => exact He.glo_ok X G (c.d.fact 27 (f := .glo "_law_go_by"))
  case g__law_barred => exact He.glo_ok X G (c.d.fact 28 (f := .glo "_law_barred"))
  case g__law_lay => exact He.glo_ok X G (c.d.fact 29 (f := .glo "_law_lay"))
  case g__law_halts => exact He.glo_ok X G (c.d.fact 30 (f := .glo "_law_halts"))
  case g__law_once => exact He.glo_ok X G (c.d.fact 31 (f := .glo "_law_once"))
  case g__law_deed => exact He.glo_ok X G (c.d.fact 32 (f := .glo "_law_deed"))
  case g__law_done => exact He.glo_ok X G (c.d.fact 33 (f := .glo "_law_done"))
  case g__law_same => exact He.glo_ok X G (c.d.fact 34 (f := .glo "_law_same"))
  case g__law_like_words => exact He.glo_ok X G (c.d.fact 35 (f := .glo "_law_like_words"))
  case g__law_word_by => exact He.glo_ok X G (c.d.fact 36 (f := .glo "_law_word_by"))
  case g__law_drawn_image => exact He.glo_ok X G (c.d.fact 37 (f := .glo "_law_drawn_image"))
  case g__law_drawn_line => exact He.glo_ok X G (c.d.fact 38 (f := .glo "_law_drawn_line"))
  case g__law_own_twin => exact He.glo_ok X G (c.d.fact 39 (f := .glo "_law_own_twin"))
  case g_law => exact He.glo_ok X G (c.d.fact 40 (f := .glo "law"))
  case f_all => exact He.free_ok X G (c.d.fact 41 (f := .free "all"))
  case f_bool => exact He.free_ok X G (c.d.fact 42 (f := .free "bool"))
  case f_dict => exact He.free_ok X G (c.d.fact 43 (f := .free "dict"))
  case f_int => exact He.free_ok X G (c.d.fact 44 (f := .free "int"))
  case f_isinstance => exact He.free_ok X G (c.d.fact 45 (f := .free "isinstance"))
  case f_len => exact He.free_ok X G (c.d.fact 46 (f := .free "len"))
  case f_list => exact He.free_ok X G (c.d.fact 47 (f := .free "list"))
  case f_range => exact He.free_ok X G (c.d.fact 48 (f := .free "range"))
  case f_set => exact He.free_ok X G (c.d.fact 49 (f := .free "set"))
  case f_sorted => exact He.free_ok X G (c.d.fact 50 (f := .free "sorted"))
  case x_BoardError => exact He.exc_ok (c.d.fact 51 (f := .exc "BoardError"))
  case xm_BoardError_BoardError => exact He.exm_ok (c.d.fact 52 (f := .exm "BoardError" "BoardError" true))
  case xm_BoardError_NoImage => exact He.exm_ok (c.d.fact 53 (f := .exm "BoardError" "NoImage" false))
  case x_NoImage => exact He.exc_ok (c.d.fact 54 (f := .exc "NoImage"))
  case xm_NoImage_BoardError => exact He.exm_ok (c.d.fact 55 (f := .exm "NoImage" "BoardError" true))
  case xm_NoImage_NoImage => exact He.exm_ok (c.d.fact 56 (f := .exm "NoImage" "NoImage" true))
  case k_Memory => exact He.cls_ok (c.d.fact 57 (f := .cls "Memory"))
  case n_Memory_flash => exact He.noat_ok (c.d.fact 58 (f := .noat "Memory" "flash"))
  case n_Memory_ram => exact He.noat_ok (c.d.fact 59 (f := .noat "Memory" "ram"))
  case n_Memory_places => exact He.noat_ok (c.d.fact 60 (f := .noat "Memory" "places"))
  case m_Memory_init => exact He.meth_ok (c.d.fact 61 (f := .meth "Memory" "__init__"))
  case mk_Memory => exact He.mkr_ok (c.d.fact 62 (f := .mkr "Memory"))
  case m_Memory_word_at => exact He.meth_ok (c.d.fact 63 (f := .meth "Memory" "word_at"))
  case m_Memory_bar_to => exact He.meth_ok (c.d.fact 64 (f := .meth "Memory" "bar_to"))
  case m_Memory_put => exact He.meth_ok (c.d.fact 65 (f := .meth "Memory" "put"))
  case m_Memory_turn_bit => exact He.meth_ok (c.d.fact 66 (f := .meth "Memory" "turn_bit"))
  case m_Memory_raise_flag => exact He.meth_ok (c.d.fact 67 (f := .meth "Memory" "raise_flag"))
  case m_Memory_place => exact He.meth_ok (c.d.fact 68 (f := .meth "Memory" "place"))
  case m_Memory_set_place => exact He.meth_ok (c.d.fact 69 (f := .meth "Memory" "set_place"))
  case m_Memory_twin => exact He.meth_ok (c.d.fact 70 (f := .meth "Memory" "twin"))
  case k_Board => exact He.cls_ok (c.d.fact 71 (f := .cls "Board"))
  case n_Board_memory => exact He.noat_ok (c.d.fact 72 (f := .noat "Board" "memory"))
  case n_Board_line => exact He.noat_ok (c.d.fact 73 (f := .noat "Board" "line"))
  case n_Board_registers => exact He.noat_ok (c.d.fact 74 (f := .noat "Board" "registers"))
  case n_Board_zero => exact He.noat_ok (c.d.fact 75 (f := .noat "Board" "zero"))
  case n_Board_lets => exact He.noat_ok (c.d.fact 76 (f := .noat "Board" "lets"))
  case n_Board_asleep => exact He.noat_ok (c.d.fact 77 (f := .noat "Board" "asleep"))
  case n_Board_beat => exact He.noat_ok (c.d.fact 78 (f := .noat "Board" "beat"))
  case n_Board_stopped => exact He.noat_ok (c.d.fact 79 (f := .noat "Board" "stopped"))
  case n_Board_sent => exact He.noat_ok (c.d.fact 80 (f := .noat "Board" "sent"))
  case n_Board_touched => exact He.noat_ok (c.d.fact 81 (f := .noat "Board" "touched"))
  case n_Board_bend => exact He.noat_ok (c.d.fact 82 (f := .noat "Board" "bend"))
  case m_Board_init => exact He.meth_ok (c.d.fact 83 (f := .meth "Board" "__init__"))
  case mk_Board => exact He.mkr_ok (c.d.fact 84 (f := .mkr "Board"))
  case m_Board_twin => exact He.meth_ok (c.d.fact 85 (f := .meth "Board" "twin"))
  case m_Board_pass_beats => exact He.meth_ok (c.d.fact 86 (f := .meth "Board" "pass_beats"))
  case m_Board_line_comes => exact He.meth_ok (c.d.fact 87 (f := .meth "Board" "line_comes"))
  case m_Board_timer_goes => exact He.meth_ok (c.d.fact 88 (f := .meth "Board" "timer_goes"))
  case m_Board_pending => exact He.meth_ok (c.d.fact 89 (f := .meth "Board" "pending"))
  case m_Board_turn => exact He.meth_ok (c.d.fact 90 (f := .meth "Board" "turn"))
  case m_Board_stop => exact He.meth_ok (c.d.fact 91 (f := .meth "Board" "stop"))
  case m_Board_interrupt => exact He.meth_ok (c.d.fact 92 (f := .meth "Board" "interrupt"))
  case m_Board_store => exact He.meth_ok (c.d.fact 93 (f := .meth "Board" "store"))
  case m_Board_fetch => exact He.meth_ok (c.d.fact 94 (f := .meth "Board" "fetch"))
  case m_Board_addresses => exact He.meth_ok (c.d.fact 95 (f := .meth "Board" "addresses"))
  case m_Board_bar_of => exact He.meth_ok (c.d.fact 96 (f := .meth "Board" "bar_of"))
  case m_Board_deed => exact He.meth_ok (c.d.fact 97 (f := .meth "Board" "deed"))
  case m_Board_do => exact He.meth_ok (c.d.fact 98 (f := .meth "Board" "do"))
  case m_Board_do_putting => exact He.meth_ok (c.d.fact 99 (f := .meth "Board" "do_putting"))
  case m_Board_do_returning => exact He.meth_ok (c.d.fact 100 (f := .meth "Board" "do_returning"))
  case m_Board_do_reckoning => exact He.meth_ok (c.d.fact 101 (f := .meth "Board" "do_reckoning"))
  case l_NAMES => exact fun H => He.lstB_ok ((He.ba c.more).1) H
  case l_READING => exact fun H => He.lstB_ok ((He.ba c.more).2) H
  case d__wall => exact c.d.def_ 0
  case d_Memory_init => exact c.d.def_ 1
  case d_Memory_word_at => exact c.d.def_ 2
  case d_Memory_bar_to => exact c.d.def_ 3
  case d_Memory_put => exact c.d.def_ 4
  case d_Memory_turn_bit => exact c.d.def_ 5
  case d_Memory_raise_flag => exact c.d.def_ 6
  case d_Memory_place => exact c.d.def_ 7
  case d_Memory_set_place => exact c.d.def_ 8
  case d_Memory_twin => exact c.d.def_ 9
  case d_is_word => exact c.d.def_ 10
  case d_name_of => exact c.d.def_ 11
  case d_part_of => exact c.d.def_ 12
  case d_is_line => exact c.d.def_ 13
  case d_Board_init => exact c.d.def_ 14
  case d_Board_twin => exact c.d.def_ 15
  case d_Board_pass_beats => exact c.d.def_ 16
  case d_Board_line_comes => exact c.d.def_ 17
  case d_Board_timer_goes => exact c.d.def_ 18
  case d_Board_pending => exact c.d.def_ 19
  case d_Board_turn => exact c.d.def_ 20
  case d_Board_stop => exact c.d.def_ 21
  case d_Board_interrupt => exact c.d.def_ 22
  case d_Board_store => exact c.d.def_ 23
  case d_Board_fetch => exact c.d.def_ 24
  case d_Board_addresses => exact c.d.def_ 25
  case d_Board_bar_of => exact c.d.def_ 26
  case d_Board_deed => exact c.d.def_ 27
  case d_Board_do => exact c.d.def_ 28
  case d_Board_do_putting => exact c.d.def_ 29
  case d_Board_do_returning => exact c.d.def_ 30
  case d_Board_do_reckoning => exact c.d.def_ 31
  case d__law_cell => exact c.d.def_ 32
  case d__law_digits => exact c.d.def_ 33
  case d__law_new => exact c.d.def_ 34
  case d__law_go_by => exact c.d.def_ 35
  case d__law_barred => exact c.d.def_ 36
  case d__law_lay => exact c.d.def_ 37
  case d__law_halts => exact c.d.def_ 38
  case d__law_once => exact c.d.def_ 39
  case d__law_deed => exact c.d.def_ 40
  case d__law_done => exact c.d.def_ 41
  case d__law_same => exact c.d.def_ 42
  case d__law_like_words => exact c.d.def_ 43
  case d__law_word_by => exact c.d.def_ 44
  case d__law_drawn_image => exact c.d.def_ 45
  case d__law_drawn_line => exact c.d.def_ 46
  case d__law_own_twin => exact c.d.def_ 47
  case d_law => exact c.d.def_ 48

theorem law_ok {P : Program} {w : World} {K : PySem.W.Frag} {h : Heap} {mg : Str → Option Value} {f : Addr} (X : K.In h) (G : h.Ns mainGlobals mg) (hfa : mg ("law" : Str) = some (.ref f)) (c : SaysM fa fn ex K) :
    ∃ fd : FuncData, (∀ (s : Shared) (v : Value), BindsTo s fd ⟨[v], []⟩ [("_law_script", v)]) ∧ ∀ base : Heap, K.In base → base.Ns mainGlobals mg → FnOk P w K mg base CX0 7 f fd ["_law_script"] (sp_law K) := by
  have T := txt_of X G c
  have e := hfa.symm.trans T.g_law
  obtain ⟨fd, F⟩ := T.d_law
  have ef : f = He.fAd K ("law", none) := by cases e; rfl
  subst ef
  have b := FunD.bindsA (ps := ["_law_script"]) F fun _ _ _ _ _ _ us hl => match us, hl with | [_], _ => rfl
  exact ⟨fd, fun s v => b s [v] rfl, fun base _ _ => okF_law T F⟩
end Q
open PySem PySem.W PySem.Calls PyProof.Rows
theorem PySem.Challenge.cw_boardheld_k18_twins_holds : PySem.Challenge.rw_boardheld_k18_twins.Holds := by
  w_on
  o_law
  refine HandSHeadRun.head_any (r := OpenLaw.row PySem.Challenge.rw_boardheld_k18_twins) (q := view (OpenLaw.row PySem.Challenge.rw_boardheld_k18_twins).prog [45]) (H := Q.hk) (ob := Q.ob) (M := 8000) (loose := Q.loose) (d := HandSHeadRun.topDef (OpenLaw.row PySem.Challenge.rw_boardheld_k18_twins).prog 45) (kwd := []) Q.ob_eq
    (by kernel_rfl) (fun s => by kernel_rfl) Q.run (by kernel_rfl) (by kernel_rfl) (by kernel_rfl) (by rfl) (by first | assumption | decide +kernel) (by decide +kernel) ⟨rfl, rfl, rfl, rfl, rfl, by decide +kernel⟩ ?hw ?hc
  case hw => w_witness2
  case hc =>
    refine L2.walk_ofE (l := PySem.Challenge.rw_boardheld_k18_twins) (n := 63) (k := 7) (x := "_law_script") (CX := L2.CX0) rfl (by decide) (by kernel_rfl) ⟨rfl, by decide, by decide⟩ ?F (fun _ _ _ _ z => z)
    intro w mg fa h Y G hmg0
    obtain ⟨K, KX, c⟩ := Y
    have hmg : mg ("law" : PySem.Str) = some (.ref fa) := by
      have e : (HandSHeadRun.topDef (OpenLaw.row PySem.Challenge.rw_boardheld_k18_twins).prog 45).name = ("law" : PySem.Str) := by kernel_rfl
      rw [← e]
      exact hmg0
    obtain ⟨fd, hb, hF⟩ := Q.law_ok (P := (PySem.Challenge.rw_boardheld_k18_twins).prog) (w := w) KX G hmg c
    exact ⟨K, fd, Q.sp_law K, KX, hb, fun H a ns hl _ hS => ⟨a, ns, true, rfl, hS, trivial, List.nodup_nil, (by first | exact Q.law_true ns | exact Q.law_true ns hl), fun _ _ => rfl⟩, hF⟩

