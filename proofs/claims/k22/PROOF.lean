import PyProof.Rows.All
import Wide.All
import OpenK.AllK
import Wide.FinOn
import KE.KStateDown
import Lean
import HandS.ForMost
import HandS.ForExc
import HandS.More
import HandS.Strs
import HandS.Text
import HandS.TryOnly
import PyProof.P3Eq
import HandS.IsInst
import HandS.Style
import HandS.Flow
import HandS.Zip
import HandS.Codes
import HandS.SetFor
import HandS.Wide
import HandS.Conv
import HandS.Defaults
import HandS.Head0
import HandS.Head1
import HandS.Head2
import HandS.HeadEnd
import HandS.HeadHook1
import HandS.HeadHook2
import KE.KDictSum
import KE.KItemsList
import HandS.SortInts
import PyProof.Rows.SortShellAny
import HandS.SortRule
import HandS.DictTup
import HandS.ListItems
import HandS.ExcValue
import HandS.ExcIs
import HandS.ExcInit
import HandS.ExcField
import KE.KExcIs
import KE.KIsAll
import PySem.Challenge.RW_boardheld_k22_letters
import HandS.DeepEq
import HandS.DictComp
import HandS.Codes
import HandS.StrSplit
import PyProof.Rows.StrRev
set_option Elab.async false
set_option linter.all false
set_option maxRecDepth 100000
set_option maxHeartbeats 0
namespace Q
open PySem PySem.Spec PyProof.Rows L2

/-! ### a Hook: facts, defs, one more Bool -/
def obsM (fa : List He.Fa) (fn : List He.DefD) (ex : PySem.W.Frag → Bool) (K : PySem.W.Frag) : He.AlD × Bool := (He.obsD fa fn K, ex K)
def asM (g : Addr → Option Obj) (n : Nat) : List Addr := He.asD g n ++ [PySem.cStatics]
def obsMG (n : Nat) (fa : List He.Fa) (fn : List He.DefD) (ex : PySem.W.Frag → Bool) (g : Addr → Option Obj) : He.AlD × Bool := obsM fa fn ex (He.frG g (asM g n))
def SaysM (fa : List He.Fa) (fn : List He.DefD) (ex : PySem.W.Frag → Bool) (K : PySem.W.Frag) : Prop := obsM fa fn ex K = (He.valD fn, true)
def hookM (n : Nat) (fa : List He.Fa) (fn : List He.DefD) (ex : PySem.W.Frag → Bool) : PySem.W.Hook where
  α := He.AlD × Bool
  obs := fun s => obsMG n fa fn ex s.heap.get?
  val := fun _ => (He.valD fn, true)
  says := fun _ h => ∃ K : PySem.W.Frag, K.In h ∧ SaysM fa fn ex K
  of := fun _ _ e => ⟨_, He.frG_in, e⟩
  keeps := fun _ _ _ ⟨K, hK, c⟩ k => ⟨K, PySem.W.Frag.In.keeps hK k, c⟩
theorem obsMG_eq {n : Nat} {fa : List He.Fa} {fn : List He.DefD} {ex : PySem.W.Frag → Bool} {g : Addr → Option Obj} {s : Shared} (h : ∀ a, g a = s.heap.get? a) : obsMG n fa fn ex g = (hookM n fa fn ex).obs s := by
  have e : g = s.heap.get? := funext h
  rw [e] <;> rfl
theorem SaysM.d {fa : List He.Fa} {fn : List He.DefD} {ex : PySem.W.Frag → Bool} {K : PySem.W.Frag} (c : SaysM fa fn ex K) : He.SaysD fa fn K := congrArg (fun z : He.AlD × Bool => z.1) c
theorem SaysM.more {fa : List He.Fa} {fn : List He.DefD} {ex : PySem.W.Frag → Bool} {K : PySem.W.Frag} (c : SaysM fa fn ex K) : ex K = true := congrArg (fun z : He.AlD × Bool => z.2) c
abbrev FnP (K : PySem.W.Frag) (x q : Str) (st : Stmt) (f : Addr) (fd : FuncData) : Prop := FunD K x q (defArgs st) (defBody st) (defScope st) [] [] f fd


/-! ### heaps: what is kept, what is owned (Kp S S': all but S is kept; S' is S and new places) -/
structure Kp (S S' : List Addr) (H H' : Hp) : Prop where
  kept : ∀ b o, H b = some o → b ∉ S → H' b = some o
  own : ∀ b, b ∈ S' → b ∈ S ∨ H b = none
  tups : ∀ b xs, H b = some (.tup xs) → H' b = some (.tup xs)
theorem Kp.refl (S : List Addr) (H : Hp) : Kp S S H H := ⟨fun _ _ h _ => h, fun _ h => .inl h, fun _ _ h => h⟩
theorem Kp.trans {S S1 S2 : List Addr} {H H1 H2 : Hp} (a : Kp S S1 H H1) (b : Kp S1 S2 H1 H2) : Kp S S2 H H2 := by
  refine ⟨fun c o h n => b.kept c o (a.kept c o h n) fun m => ?_, fun c m => ?_, fun c xs h => b.tups c xs (a.tups c xs h)⟩
  · rcases a.own c m with z | z
    · exact n z
    · rw [z] at h; cases h
  · rcases b.own c m with z | z
    · exact a.own c z
    · by_cases hc : c ∈ S
      · exact .inl hc
      · right
        cases q : H c with
        | none => rfl
        | some o => rw [a.kept c o q hc] at z; cases z
theorem Kp.sub {S S1 S2 : List Addr} {H H' : Hp} (a : Kp S S1 H H') (h : ∀ b, b ∈ S2 → b ∈ S1) : Kp S S2 H H' := ⟨a.kept, fun b m => a.own b (h b m), a.tups⟩
theorem Kp.more {S S' T : List Addr} {H H' : Hp} (a : Kp S S' H H') (h : ∀ b, b ∈ S → b ∈ T) : Kp T S' H H' :=
  ⟨fun b o e n => a.kept b o e fun m => n (h b m), fun b m => (a.own b m).imp (h b) id, a.tups⟩
def notTup : HO → Prop
  | .tup _ => False
  | _ => True
theorem Kp.upd {S : List Addr} {H : Hp} {a : Addr} {o o' : HO} (h : H a = some o) (hn : notTup o) (m : a ∈ S) : Kp S S H (upd H a o') :=
  ⟨fun b u e n => by rw [upd_ne (fun z => n (by rw [z]; exact m))]; exact e, fun _ z => .inl z, fun b xs e => by
    rw [upd_ne]; exact e
    rintro rfl; rw [e] at h; cases h; exact hn⟩
theorem Kp.new {S : List Addr} {H : Hp} {a : Addr} {o : HO} (h : H a = none) : Kp S S H (L2.upd H a o) :=
  ⟨fun b u e _ => by rw [upd_ne (ne_of_none e h)]; exact e, fun _ z => .inl z, fun b xs e => by rw [upd_ne (ne_of_none e h)]; exact e⟩
theorem Kp.newIn {S : List Addr} {H : Hp} {a : Addr} {o : HO} (h : H a = none) : Kp S (a :: S) H (L2.upd H a o) :=
  ⟨(Kp.new (S := S) h).kept, fun b m => by
    rcases List.mem_cons.mp m with z | z
    · rw [z]; exact .inr h
    · exact .inl z, (Kp.new (S := S) h).tups⟩
/-- nothing owned: all is kept -/
theorem Kp.same {S : List Addr} {H H' : Hp} (a : Kp [] S H H') : Same H H' := fun b o e => a.kept b o e (by simp)
theorem Kp.ofSame {H H' : Hp} (a : Same H H') : Kp [] [] H H' := ⟨fun b o e _ => a b o e, fun _ m => .inl m, fun b xs e => a b _ e⟩
theorem Kp.free {S S' : List Addr} {H H' : Hp} (a : Kp S S' H H') {l : Addr} (h : H' l = none) (n : l ∉ S) : H l = none := by
  cases q : H l with
  | none => rfl
  | some o => rw [a.kept l o q n] at h; cases h
theorem Kp.seq {K : PySem.W.Frag} {S S' : List Addr} {H H' : Hp} {a : Addr} {xs : List V} (k : Kp S S' H H') (n : a ∉ S) (h : SqL K H a xs) : SqL K H' a xs := by
  rcases h with (h | ⟨o, h⟩) | h
  · exact .inl (.inl (k.kept _ _ h n))
  · exact .inl (.inr ⟨o, k.kept _ _ h n⟩)
  · exact .inr h
/-- tuples at the addresses of a list of values -/
abbrev Tups (H : Hp) (vs : List V) (xss : List (List V)) : Prop := Paired (fun v xs => ∃ t, v = V.ref t ∧ H t = some (.tup xs)) vs xss
theorem Tups.mono {H H' : Hp} (k : ∀ b xs, H b = some (.tup xs) → H' b = some (.tup xs)) : ∀ {vs : List V} {xss : List (List V)}, Tups H vs xss → Tups H' vs xss
  | _, _, .nil => .nil
  | _, _, .cons ⟨t, e, h⟩ r => .cons ⟨t, e, k _ _ h⟩ (Tups.mono k r)
theorem paired_snoc {α β : Type} {F : α → β → Prop} {x : α} {y : β} (h : F x y) : ∀ {xs : List α} {ys : List β}, Paired F xs ys → Paired F (xs ++ [x]) (ys ++ [y])
  | _, _, .nil => .cons h .nil
  | _, _, .cons r t => .cons r (paired_snoc h t)
/-! ### small rules -/
section
variable {X : Cx}
theorem gi_ {x : Str} {i : Int} {pos : Pos} (hg : Gl X x) (hm : ∃ t, X.mg x = some (.int i t)) (hd : (x == ("__debug__" : Str)) = false := by decide) : PE X (.Name x pos) (tC (.int i)) := by
  obtain ⟨t, h⟩ := hm
  exact pe_glob hg h ⟨t, rfl⟩ hd
theorem gr_ {x : Str} {a : Addr} {pos : Pos} (hg : Gl X x) (hm : X.mg x = some (.ref a)) (hd : (x == ("__debug__" : Str)) = false := by decide) : PE X (.Name x pos) (tC (.ref a)) := pe_glob hg hm rfl hd
theorem gs_ {x z : Str} {pos : Pos} (hg : Gl X x) (hm : ∃ t, X.mg x = some (.str z t)) (hd : (x == ("__debug__" : Str)) = false := by decide) : PE X (.Name x pos) (tC (.str z)) := by
  obtain ⟨t, h⟩ := hm
  exact pe_glob hg h ⟨t, rfl⟩ hd
end
/-- a def's promise kept, how it binds, that it stays -/
def Ok (P : Program) (w : World) (K : PySem.W.Frag) (mg : Str → Option Value) (base : Heap) (CX : CXT) (k : Nat) (f : Addr) (ps : List Str) (sp : Sp) : Prop :=
  ∃ fd, FnOk P w K mg base CX k f fd ps sp ∧ Binds K fd ps [] ∧ PySem.W.keepIn K (.ref f) = true
theorem small_ {n : Nat} (h : n ≤ 16777215) : n < sizeLine := Nat.lt_of_le_of_lt h (by decide)
theorem small_le {n : Nat} (h : n ≤ 16777216) : n ≤ sizeLine := Nat.le_trans h (by decide)
theorem at_i {xs : List Int} {i : Int} {n : Int} (h0 : 0 ≤ i) (h : xs[i.toNat]? = some n) : atI (xs.map V.int) i = some (.int n) := by
  have e : i = ((i.toNat : Nat) : Int) := by omega
  rw [e]
  refine atI_nat ?_
  rw [List.getElem?_map]
  have e2 : ((i.toNat : Nat) : Int).toNat = i.toNat := by omega
  rw [h] <;> rfl
/-! ### tests whose answer is open -/
section
variable {A B : Prop}
theorem iteD {p : Prop} [Decidable p] (h1 : p → A) (h2 : ¬ p → B) : if decide p = true then A else B := ite2 (fun h => h1 (of_decide_eq_true h)) (fun h => h2 fun z => h (decide_eq_true z))
theorem iteN {p : Prop} [Decidable p] (h1 : ¬ p → A) (h2 : p → B) : if (!decide p) = true then A else B := by
  by_cases h : p
  · rw [decide_eq_true h]; exact h2 h
  · rw [decide_eq_false h]; exact h1 h
theorem iteI {a b : Int} (h1 : a = b → A) (h2 : a ≠ b → B) : if decide (V.int a = V.int b) = true then A else B := iteD (fun h => h1 (V.int.inj h)) (fun h => h2 fun z => h (congrArg V.int z))
theorem iteIN {a b : Int} (h1 : a ≠ b → A) (h2 : a = b → B) : if (!decide (V.int a = V.int b)) = true then A else B := iteN (fun h => h1 fun z => h (congrArg V.int z)) (fun h => h2 (V.int.inj h))
theorem iteBo {b : Bool} (h1 : b = true → A) (h2 : b = false → B) : if b = true then A else B := by
  cases b with
  | true => exact h1 rfl
  | false => exact h2 rfl
theorem iteBs {b c : Bool} (e : b = c) (h : if c = true then A else B) : if b = true then A else B := by rw [e]; exact h
end
/-! ### data read deep -/
section
variable {K : PySem.W.Frag} {H : Hp}
theorem dpInts : ∀ xs : List Int, DpAll K H (xs.map V.int) (xs.map PyData.int)
  | [] => .nil
  | x :: r => .cons (.int x) (dpInts r)
theorem dpL {a : Addr} {xs : List Int} (h : SqL K H a (xs.map V.int)) : Dp K H (.ref a) (.list (xs.map PyData.int)) := .lst h (dpInts xs)
theorem lay_all {ds : List PyData} (h : ∀ d ∈ ds, d.canLay0 = true) : PyData.canLayAll0 ds = true := by
  induction ds with
  | nil => simp only [PyData.canLayAll0]
  | cons d r ih => simp only [PyData.canLayAll0, h d (by simp), ih fun e he => h e (by simp [he]), Bool.and_self]
theorem lay_ints (xs : List Int) : PyData.canLay0 (.list (xs.map PyData.int)) = true := by
  simp only [PyData.canLay0]
  refine lay_all fun d hd => ?_
  obtain ⟨x, _, rfl⟩ := List.mem_map.mp hd
  simp only [PyData.canLay0]
theorem shp {d : PyData} (h1 : d.canLay0 = true) (h2 : d.depth ≤ 64) : SeqAt.shaped d = true := by
  unfold SeqAt.shaped
  rw [h1, decide_eq_true h2]; rfl
theorem depth_all {ds : List PyData} {n : Nat} (h : ∀ d ∈ ds, d.depth ≤ n) : PyData.depthAll ds ≤ n := by
  induction ds with
  | nil => simp only [PyData.depthAll]; exact Nat.zero_le _
  | cons d r ih =>
    simp only [PyData.depthAll]
    exact Nat.max_le.mpr ⟨h d (by simp), ih fun e he => h e (by simp [he])⟩
theorem shp_ints (xs : List Int) : SeqAt.shaped (.list (xs.map PyData.int)) = true := by
  refine shp (lay_ints xs) ?_
  simp only [PyData.depth]
  have : PyData.depthAll (xs.map PyData.int) ≤ 0 := depth_all fun d hd => by
    obtain ⟨x, _, rfl⟩ := List.mem_map.mp hd
    simp only [PyData.depth]; exact Nat.le_refl _
  omega
theorem eqv_ints : ∀ xs ys : List Int, PyData.eqvAll (xs.map PyData.int) (ys.map PyData.int) = decide (xs = ys)
  | [], [] => by simp [PyData.eqvAll]
  | [], _ :: _ => by simp [PyData.eqvAll]
  | _ :: _, [] => by simp [PyData.eqvAll]
  | x :: r, y :: q => by
    simp only [List.map_cons, PyData.eqvAll, PyData.eqv, eqv_ints r q]
    by_cases h : x = y <;> by_cases h2 : r = q <;> simp [h, h2]
theorem eqv_intL (xs ys : List Int) : PyData.eqv (.list (xs.map PyData.int)) (.list (ys.map PyData.int)) = decide (xs = ys) := by
  rw [PyData.eqv]; exact eqv_ints xs ys
end

/-! ### defs that raise, isinstance of what is caught: own rules -/
inductive Rz (ρ ε : Type) where
  | ok (r : ρ)
  | ex (e : ε)
def Rz.on {ρ ε τ : Type} (z : Rz ρ ε) (h : ε → τ) (k : ρ → τ) : τ := match z with
  | .ok r => k r
  | .ex e => h e
def rIsEv (K : PySem.W.Frag) (cls : Value) (d : Option Addr) (a : Addr) : List V → Hp → VK → Prop := fun xs H Q => ∃ (D : Addr) (c : V) (cv : Value) (b : Bool), cls = .ref D ∧ d = none ∧ ExcC K D ∧ xs = [.ref a, c] ∧ (∀ u, RelV c u → u = cv) ∧ PySem.W.kitOne K (.ref D) cv = some b ∧ Q (.bl b) H
theorem call_isEv {X : Cx} {a : Addr} {oe : Obj} {cls : Value} {d : Option Addr} {pn : List (Addr × Obj)} (hz : Zc cls d oe) (hf : ∃ vs, oe.data = .fields vs) : CallR (X.suite a ((a, oe) :: pn)) (.builtin "isinstance") (rIsEv X.K cls d a) := by
  intro pins s σ H xs us Q I r h
  obtain ⟨D, c, cv, b, rfl, rfl, C, e1, e2, e3, q⟩ := h
  exact call_isE C hz hf pins s σ H xs us Q I r ⟨c, cv, b, e1, e2, e3, q⟩
def rIsEvT (K : PySem.W.Frag) (cls : Value) (d : Option Addr) (a : Addr) : List V → Hp → VK → Prop := fun xs H Q => ∃ (D tp : Addr) (cs : List V) (us : List Value) (b : Bool), cls = .ref D ∧ d = none ∧ ExcC K D ∧ xs = [.ref a, .ref tp] ∧ H tp = some (.tup cs) ∧ Paired ClsV cs us ∧ PySem.W.kitAny K (.ref D) us = some b ∧ Q (.bl b) H
theorem call_isEvT {X : Cx} {a : Addr} {oe : Obj} {cls : Value} {d : Option Addr} {pn : List (Addr × Obj)} (hz : Zc cls d oe) (hf : ∃ vs, oe.data = .fields vs) : CallR (X.suite a ((a, oe) :: pn)) (.builtin "isinstance") (rIsEvT X.K cls d a) := by
  intro pins s σ H xs us Q I r h
  obtain ⟨D, tp, cs, ws, b, rfl, rfl, C, rfl, hT, k, e, q⟩ := h
  obtain ⟨u1, u2, rfl, r1, r2⟩ := vals2 r
  cases (show u1 = Value.ref a from r1)
  cases (show u2 = Value.ref tp from r2)
  obtain ⟨hget, _⟩ := I.pin (a, oe) (List.mem_append.mpr (.inl List.mem_cons_self))
  obtain ⟨vs, hv⟩ := hf
  have J : PySem.W.InstAt s.heap a oe D none := by
    obtain ⟨oc, od, oda, osl⟩ := oe
    obtain ⟨h1, h2⟩ := hz
    dsimp only at h1 h2 hv
    subst h1 h2 hv
    exact ⟨hget, rfl, rfl, trivial⟩
  obtain ⟨_, its, rv, o, h1, h2, n, h3⟩ := (show ObjOk X.prog X.w H s.heap tp (.tup cs) from I.hok tp _ hT)
  have e3 := ClsV.all k rv
  subst e3
  obtain ⟨oc, od, dt, sl⟩ := o
  simp only at h2 h3
  subst h2 h3
  exact PySem.W.kia_tup (PySem.W.handS_kitx_exc C.hg C.hk C.hs C.hd C.ha C.hn C.ht C.hm) I.kIn J h1 e (fun z => nomatch z) fun tk => ⟨.bl b, H, I.kept (t' := tk) fun _ _ z => z, rfl, q⟩
/-- what a class must say so that isinstance asks its instances rightly, as one Bool -/
def excB (K : PySem.W.Frag) (x : Str) : Bool :=
  decide (PySem.W.findIn K (.ref (He.ga K x)) "__getattribute__" = some (some (.builtin "BaseException.__getattribute__"))) && (decide (PySem.W.findIn K (.ref (He.ga K x)) "__getattr__" = some none) &&
  (decide (PySem.W.subIn K (.ref (He.ga K x)) (.type "BaseException") = some true) && (PySem.W.hasDictIn K (He.ga K x) && (decide (PySem.W.findIn K (.ref (He.ga K x)) "__class__" = some (some (.builtin "object.__class__"))) &&
  (decide (PySem.W.specialIn K (.builtin "object.__class__") "__get__" = some (some (.builtin "getset_descriptor.__get__"))) && (decide (PySem.W.takesIn K (.builtin "object.__class__") = some true) && decide (PySem.W.mroIn K (He.ga K x) (.type "object") = some true)))))))
theorem excB_ok {K : PySem.W.Frag} {x : Str} (h : excB K x = true) : ExcC K (He.ga K x) := by
  obtain ⟨h1, h⟩ := He.ba h
  obtain ⟨h2, h⟩ := He.ba h
  obtain ⟨h3, h⟩ := He.ba h
  obtain ⟨h4, h⟩ := He.ba h
  obtain ⟨h5, h⟩ := He.ba h
  obtain ⟨h6, h⟩ := He.ba h
  obtain ⟨h7, h8⟩ := He.ba h
  exact ⟨of_decide_eq_true h1, of_decide_eq_true h2, of_decide_eq_true h3, h4, of_decide_eq_true h5, of_decide_eq_true h6, of_decide_eq_true h7, of_decide_eq_true h8⟩

/-! ### what is caught may carry a field: isinstance of it, its field, its making: own rules -/
/-- the dict of what is caught: none, or fields -/
def XdOf (H : Hp) (d : Option Addr) : Prop := d = none ∨ ∃ dd fs, d = some dd ∧ H dd = some (.xd fs)
theorem inst_ev {X : Cx} {pins : List (Addr × Obj)} {σ : L2.St} {H : Hp} {s : Shared} {a D : Addr} {oe : Obj} {d : Option Addr} (hok : HOk X.prog X.w H s.heap) (hz : Zc (.ref D) d oe) (hf : ∃ vs, oe.data = .fields vs) (hd : XdOf H d) (ha : s.heap.get? a = some oe) : ∃ od, PySem.W.InstAt s.heap a oe D od := by
  obtain ⟨vs, hv⟩ := hf
  obtain ⟨oc, od, oda, osl⟩ := oe
  obtain ⟨h1, h2⟩ := hz
  dsimp only at h1 h2 hv
  subst h1 h2 hv
  rcases hd with rfl | ⟨dd, fs, rfl, e⟩
  · exact ⟨none, ha, rfl, rfl, trivial⟩
  · have hx : ObjOk X.prog X.w H s.heap dd (.xd fs) := hok dd _ e
    obtain ⟨mA, hns, hr⟩ := hx
    obtain ⟨od, ho, hl⟩ := lookIn_ns hns
    exact ⟨some od, ha, rfl, rfl, ho⟩
theorem kitx_ev {K : PySem.W.Frag} {x D : Addr} {ox : Obj} {od : Option Obj} (C : ExcC K D) : PySem.W.KitX K (.ref x) (.ref D) (fun h => PySem.W.InstAt h x ox D od) :=
  PySem.W.kitx_exc (by obtain ⟨cd, hc, _⟩ := PySem.W.any_some C.hd; rw [hc]; rfl) C.hg C.hk C.hs C.ha C.hn C.ht C.hm
def rIsEw (K : PySem.W.Frag) (cls : Value) (d : Option Addr) (a : Addr) : List V → Hp → VK → Prop := fun xs H Q => ∃ (D : Addr) (c : V) (cv : Value) (b : Bool), cls = .ref D ∧ XdOf H d ∧ ExcC K D ∧ xs = [.ref a, c] ∧ (∀ u, RelV c u → u = cv) ∧ PySem.W.kitOne K (.ref D) cv = some b ∧ Q (.bl b) H
theorem call_isEw {X : Cx} {a : Addr} {oe : Obj} {cls : Value} {d : Option Addr} {pn : List (Addr × Obj)} (hz : Zc cls d oe) (hf : ∃ vs, oe.data = .fields vs) : CallR (X.suite a ((a, oe) :: pn)) (.builtin "isinstance") (rIsEw X.K cls d a) := by
  intro pins s σ H xs us Q I r h
  obtain ⟨D, c, cv, b, rfl, hd, C, rfl, hcv, e, q⟩ := h
  obtain ⟨u1, u2, rfl, r1, r2⟩ := vals2 r
  cases (show u1 = Value.ref a from r1)
  have ec := hcv _ r2
  subst ec
  obtain ⟨hget, _⟩ := I.pin (a, oe) (List.mem_append.mpr (.inl List.mem_cons_self))
  obtain ⟨od, J⟩ := inst_ev (pins := pins) (σ := σ) I.hok hz hf hd hget
  exact PySem.W.kia_one (kitx_ev C) I.kIn J e (fun z => nomatch z) fun tk => ⟨.bl b, H, I.kept (t' := tk) fun _ _ z => z, rfl, q⟩
def rIsEwT (K : PySem.W.Frag) (cls : Value) (d : Option Addr) (a : Addr) : List V → Hp → VK → Prop := fun xs H Q => ∃ (D tp : Addr) (cs : List V) (us : List Value) (b : Bool), cls = .ref D ∧ XdOf H d ∧ ExcC K D ∧ xs = [.ref a, .ref tp] ∧ H tp = some (.tup cs) ∧ Paired ClsV cs us ∧ PySem.W.kitAny K (.ref D) us = some b ∧ Q (.bl b) H
theorem call_isEwT {X : Cx} {a : Addr} {oe : Obj} {cls : Value} {d : Option Addr} {pn : List (Addr × Obj)} (hz : Zc cls d oe) (hf : ∃ vs, oe.data = .fields vs) : CallR (X.suite a ((a, oe) :: pn)) (.builtin "isinstance") (rIsEwT X.K cls d a) := by
  intro pins s σ H xs us Q I r h
  obtain ⟨D, tp, cs, ws, b, rfl, hd, C, rfl, hT, k, e, q⟩ := h
  obtain ⟨u1, u2, rfl, r1, r2⟩ := vals2 r
  cases (show u1 = Value.ref a from r1)
  cases (show u2 = Value.ref tp from r2)
  obtain ⟨hget, _⟩ := I.pin (a, oe) (List.mem_append.mpr (.inl List.mem_cons_self))
  obtain ⟨od, J⟩ := inst_ev (pins := pins) (σ := σ) I.hok hz hf hd hget
  obtain ⟨_, its, rv, o, h1, h2, n, h3⟩ := (show ObjOk X.prog X.w H s.heap tp (.tup cs) from I.hok tp _ hT)
  have e3 := ClsV.all k rv
  subst e3
  obtain ⟨oc, oda, dt, sl⟩ := o
  simp only at h2 h3
  subst h2 h3
  exact PySem.W.kia_tup (kitx_ev C) I.kIn J h1 e (fun z => nomatch z) fun tk => ⟨.bl b, H, I.kept (t' := tk) fun _ _ z => z, rfl, q⟩
/-- xs.count(y), all of them plain -/
def rCntF (K : PySem.W.Frag) : V → List V → Hp → VK → Prop := fun x xs H Q => ∃ (p : Addr) (ys : List V) (y : V), x = .ref p ∧ xs = [y] ∧ SqL K H p ys ∧ flatV y = true ∧ ys.all flatV = true ∧ Q (.int ((ys.countP fun z => eqV z y : Nat) : Int)) H
theorem countP_eqU {x : V} : ∀ {xs : List V} {us : List Value}, Vals xs us → xs.all flatV = true → us.countP (eqU x) = xs.countP fun y => eqV y x
  | _, _, .nil, _ => rfl
  | y :: xs, u :: us, .cons r t, f => by
    rw [List.all_cons, Bool.and_eq_true] at f
    rw [List.countP_cons, List.countP_cons, eqU_of r f.1, countP_eqU t f.2]
theorem mt_countF {X : Cx} : MtR X "list.count" (rCntF X.K) := by
  intro pins s σ H x xs v us Q I rx rxs h
  obtain ⟨p, ys, y, rfl, rfl, hs, fy, fys, q⟩ := h
  cases rx
  obtain ⟨u, rfl, ru⟩ := rxs.one
  obtain ⟨its, rv, ⟨⟨cls, dd, data, sl⟩, n, ho, hc, hdn, hd⟩, hlen⟩ := I.list hs
  simp only at hc hd
  subst hc hd
  refine call_meets PySem.F.slot_list_count ⟨_, ho, rfl⟩ PySem.F.entry_list_count (PySem.F.args_list_count_2 _ _)
    (SeqAt.list_countAt p its.toArray n dd sl u (eqU y)) ⟨ho, fun u' hu' => mem_eqAt ru fy rv fys u' (by simpa using hu'), ?_⟩
  have ec : its.toArray.toList.countP (eqU y) = ys.countP fun z => eqV z y := countP_eqU rv fys
  refine ⟨.int ((ys.countP fun z => eqV z y : Nat) : Int), H, I.tok _, ⟨s.toks, ?_⟩, q⟩
  show Value.int ((its.toArray.toList.countP (eqU y) : Nat) : Int) s.toks = Value.int ((ys.countP fun z => eqV z y : Nat) : Int) s.toks
  rw [ec]
/-! an own class whose __init__ tells its base, then keeps one field -/
def oexB (K : PySem.W.Frag) (x : Str) : Bool :=
  (match K.lookup (He.ga K x) with
  | some ⟨.type "type", _, .cls cd, sl⟩ => (match cd.mro, sl.toList with
    | .ref C' :: bm, [_, _, _, _, some (.builtin n), _] => C' == He.ga K x && (n == "ValueError.__new__" && (!cd.hasDel && (cd.hasDict && PySem.HandSPX.refsVE bm)))
    | _, _ => false)
  | _ => false) && (decide (PySem.W.findIn K (.ref (He.ga K x)) "__setattr__" = some (some (.builtin "object.__setattr__"))) && (decide (PySem.W.subIn K (.ref (He.ga K x)) (.type "BaseException") = some true) && (decide (PySem.W.typeIn K (.ref (He.ga K x)) = some (.type "type")) && PySem.W.keepIn K (.ref (He.ga K x)))))
theorem oexB_ok {K : PySem.W.Frag} {x : Str} (h : oexB K x = true) : OexC K (He.ga K x) := by
  obtain ⟨h0, h⟩ := He.ba h
  obtain ⟨h1, h⟩ := He.ba h
  obtain ⟨h2, h⟩ := He.ba h
  obtain ⟨h3, h4⟩ := He.ba h
  refine ⟨?_, of_decide_eq_true h1, of_decide_eq_true h2, of_decide_eq_true h3, h4⟩
  split at h0
  · rename_i dd cd sl ho
    split at h0
    · rename_i C' bm k0 k1 k2 k3 n k5 hm hs
      simp only [Bool.and_eq_true, beq_iff_eq, Bool.not_eq_true'] at h0
      obtain ⟨rfl, rfl, hdel, hdi, hr⟩ := h0
      obtain ⟨nm, bs, mro, ns, qn, hd, sn, sub, ab, col, del⟩ := cd
      dsimp only at hm hdel hdi
      subst hm hdel hdi
      have hsl : sl = #[k0, k1, k2, k3, some (.builtin "ValueError.__new__"), k5] := by
        obtain ⟨l⟩ := sl
        simp only at hs
        rw [hs]
      subst hsl
      exact ⟨nm, qn, ns, bs, bm, sn, sub, ab, col, dd, k0, k1, k2, k3, k5, ho, hr⟩
    · cases h0
  · cases h0
/-- what a base class that has no __init__ of its own must say -/
def beiB (K : PySem.W.Frag) (x : Str) : Bool := decide (PySem.W.specialIn K (.ref (He.ga K x)) "__getattribute__" = some (some (.builtin "type.__getattribute__"))) && (PySem.W.readsIn K (He.ga K x) (.type "type") && (match PySem.W.findCls K (.ref (He.ga K x)) (.type "type") "__init__" with
  | some (.val (.builtin n)) => n == "ValueError.__init__"
  | _ => false))
structure BeI (K : PySem.W.Frag) (B : Addr) : Prop where
  sp : PySem.W.specialIn K (.ref B) "__getattribute__" = some (some (.builtin "type.__getattribute__"))
  rd : PySem.W.readsIn K B (.type "type") = true
  at_ : PySem.W.findCls K (.ref B) (.type "type") "__init__" = some (.val (.builtin "ValueError.__init__"))
theorem beiB_ok {K : PySem.W.Frag} {x : Str} (h : beiB K x = true) : BeI K (He.ga K x) := by
  obtain ⟨h1, h⟩ := He.ba h
  obtain ⟨h2, h3⟩ := He.ba h
  refine ⟨of_decide_eq_true h1, h2, ?_⟩
  split at h3
  · rename_i n e
    rw [e, beq_iff_eq.mp h3]
  · cases h3
theorem pe_beinit {X : Cx} {e : Expr} {es : List Expr} {ta : TA} {p1 p2 pos : Pos} {B : Addr} {bn : Str} {pl : Sem Bool} (hg : Gl X bn) (hm : X.mg bn = some (.ref B)) (T : BeI X.K B) (ha : PA X (e :: es) ta) (hdb : (bn == ("__debug__" : Str)) = false := by decide)
    (hc : eval (.Call (.Attribute (.Name bn p1) "__init__" p2) (e :: es) [] pos) X.env = (do
      let ov ← eval (.Name bn p1) X.env
      standAt p2.atName
      let (f, first) ← holding [ov] (getMethod ov "__init__" pl)
      callWith pos f first (backTo pos (starEach (e :: es) X.env)) (backToKw pos (keywordEach [] X.env))) := by rfl)
    (he : starEach (e :: es) X.env = (false, eval e X.env) :: starEach es X.env := by rfl) (hpl : (backTo pos (starEach es X.env)).any (·.1) = false := by rfl) :
    PE X (.Call (.Attribute (.Name bn p1) "__init__" p2) (e :: es) [] pos) (tVeI X.K ta) := by
  refine ⟨fun pins s σ H Q I h => ?_⟩
  refine PySem.W.methodCall_KW (ld_glob I hg hm ?_ hdb) hc
  refine PySem.W.method_cls I.kIn T.sp (PySem.W.cls_value I.kIn T.rd T.at_ rfl ?_)
  show wpAny _ _ (callWith pos (Value.builtin "ValueError.__init__") [] (backTo pos (starEach (e :: es) X.env)) []) _ _ _
  refine PyProof.Rows.callWith_method1 (thn (ha.run pos pins _ σ H _ (I.tok _) h) fun us s1 ⟨vs, H1, I1, r1, a, C, ws, ev, hl, T, ea, q⟩ => ?_) he hpl
  subst ev
  cases r1 with
  | @cons _ u0 _ ur ra rw' =>
    obtain rfl : u0 = Value.ref a := ra
    have hlen : ur.length ≤ sizeLine := by
      rw [← Paired.length rw', sizeLine_eq]
      omega
    exact oinit_ok T I1 ea hlen fun s' J => ⟨.non, H1, J, rfl, q⟩
/-! a method that may raise -/
section
variable {X : Cx} {CX : CXT} {k : Nat} {f C : Addr} {fd : FuncData} {ps : List Str} {sp : Sp} {E : L2.St → XK} {m : Str} {pos apos : Pos} {e o : Expr} {es : List Expr} {ta : TE} {t : TA}
theorem nil_app {a : V} {vs : List V} {H : Hp} {Q : VK} {E : XK} (h : sp (a :: (vs ++ [])) H Q E) : sp (a :: vs) H Q E := by rw [List.append_nil] at h; exact h
def tMethS (C : Addr) (m : Str) (sp : Sp) (E : L2.St → XK) (ta : TE) (t : TA) : TE := fun σ H Q => tMeth C m sp [] (E σ) ta t σ H Q
theorem binds_nil {K : PySem.W.Frag} {fd : FuncData} {ps : List Str} {ds : List Value} (h : Vals [] ds) (b : Binds K fd ps ds) : Binds K fd ps [] := by cases h; exact b
theorem pe_methS {pl : Sem Bool} (he : PE X o ta) (c : Cls X.K C) (hm : Meth X.K C m f) (F : FnOk X.prog X.w X.K X.mg X.base CX k f fd ps sp) (hr : Room k X.A) (hb : Binds X.K fd ps []) (hx : ∀ σ, PassesAt CX X σ (E σ)) (ha : PA X (e :: es) t)
    (hst : starEach (e :: es) X.env = (false, eval e X.env) :: starEach es X.env := by rfl) (hpl : (backTo pos (starEach es X.env)).any (·.1) = false := by rfl)
    (ht : eval (.Call (.Attribute o m apos) (e :: es) [] pos) X.env = (do
      let ov ← eval o X.env
      standAt apos.atName
      let (f, first) ← holding [ov] (getMethod ov m pl)
      callWith pos f first (backTo pos (starEach (e :: es) X.env)) (backToKw pos (keywordEach [] X.env))) := by rfl) :
    PE X (.Call (.Attribute o m apos) (e :: es) [] pos) (tMethS C m sp E ta t) := by
  refine ⟨fun pins s σ H Q I h => ?_⟩
  refine PySem.W.methodCall_KW (pl := pl) (thn (he.run pins s σ H _ I h) fun u s1 ⟨x, H1, I1, rx, a, dx, fs, ex, ea, l, q⟩ => ?_) ht
  subst ex
  obtain rfl : u = Value.ref a := rx
  refine getmeth_ok I1 ea c hm l ?_
  refine PySem.W.callWith_K (first := [.ref a]) (h₀ := X.base) I.ok.mod.kin hm.kp (thn (ha.run pos pins s1 σ H1 _ I1 q) fun us s2 ⟨vs, H2, I2, r, q2⟩ => ⟨I2.kIn, ?_⟩) hst hpl
  exact run_fnS (us := .ref a :: us) (vs := .ref a :: vs) F hr hb (hx σ) I2 (.cons rfl r) (nil_app q2)
theorem pe_meth0S {pl : Sem Bool} (he : PE X o ta) (c : Cls X.K C) (hm : Meth X.K C m f) (F : FnOk X.prog X.w X.K X.mg X.base CX k f fd ps sp) (hr : Room k X.A) (hb : Binds X.K fd ps []) (hx : ∀ σ, PassesAt CX X σ (E σ))
    (ht : eval (.Call (.Attribute o m apos) [] [] pos) X.env = (do
      let ov ← eval o X.env
      standAt apos.atName
      let (f, first) ← holding [ov] (getMethod ov m pl)
      callWith pos f first (backTo pos (starEach [] X.env)) (backToKw pos (keywordEach [] X.env))) := by rfl) :
    PE X (.Call (.Attribute o m apos) [] [] pos) (tMethS C m sp E ta tNil) := by
  refine ⟨fun pins s σ H Q I h => ?_⟩
  refine PySem.W.methodCall_KW (pl := pl) (thn (he.run pins s σ H _ I h) fun u s1 ⟨x, H1, I1, rx, a, dx, fs, ex, ea, l, q⟩ => ?_) ht
  subst ex
  obtain rfl : u = Value.ref a := rx
  refine getmeth_ok I1 ea c hm l ?_
  exact PySem.W.callWith_K0 (first := [.ref a]) I1.kIn hm.kp (run_fnS (us := [.ref a]) (vs := [.ref a]) F hr hb (hx σ) I1 (.cons rfl .nil) q)
end
/-- what C.__init__(self, v) of such a class keeps: f -/
def spXi (C : Addr) (f : Str) : Sp := fun vs H Q _ => ∃ (a : Addr) (v : V), vs = [.ref a, v] ∧ H a = some (exo a C none) ∧ ∀ dx, H dx = none → dx ≠ a → Q .non (upd (upd H dx (exd dx [(f, v)])) a (exo a C (some dx)))
/-- raise C(v) -/
theorem xi_end {C : Addr} {f : Str} {v : V} {H1 : Hp} {Q : XK} (q : ∀ d, H1 d = none → Q (.ref C) (some d) (upd H1 d (.xd [(f, v)]))) :
    [v].length ≤ 1000 ∧ ∀ a, H1 a = none → spXi C f (.ref a :: ([v] ++ [])) (upd H1 a (exo a C none)) (fun v H2 => v = .non ∧ ∃ (d : Addr) (fs : List (Str × V)), H2 a = some (exo a C (some d)) ∧ H2 d = some (exd d fs) ∧ H1 d = none ∧ Q (.ref C) (some d) (upd (del H2 a) d (.xd fs))) (fun _ _ _ => False) := by
  refine ⟨(show 1 ≤ 1000 by decide), fun a na => ⟨a, v, rfl, upd_same, fun dx hd hne => ⟨rfl, dx, [(f, v)], upd_same, by rw [upd_ne hne]; exact upd_same, ?_, ?_⟩⟩⟩
  · rw [upd_ne hne] at hd; exact hd
  · rw [upd_ne hne] at hd
    have e : (upd (del (upd (upd (upd H1 a (exo a C none)) dx (exd dx [(f, v)])) a (exo a C (some dx))) a) dx (.xd [(f, v)])) = upd H1 dx (.xd [(f, v)]) := by
      funext b
      by_cases hb : b = dx
      · rw [hb, upd_same, upd_same]
      · rw [upd_ne hb, upd_ne hb]
        by_cases ha : b = a
        · rw [ha, del_same, na]
        · rw [del_ne ha, upd_ne ha, upd_ne hb, upd_ne ha]
    rw [e]
    exact q dx hd
/-! truths that are known -/
theorem iteTs {A B : Prop} (h : A) : if true = true then A else B := by rw [if_pos rfl]; exact h
theorem iteFs {A B : Prop} (h : B) : if false = true then A else B := by rw [if_neg (by decide)]; exact h
theorem ix_first {bs : List Bool} {j : Nat} (h : (bs.take j).all (fun b => !b) = true) : ∀ (m : Nat) (z : V), m < j → (bs.map V.bl)[m]? = some z → eqV z (.bl true) = false := fun m z hm hz => by
  rw [List.getElem?_map] at hz
  cases e : bs[m]? with
  | none => rw [e] at hz; cases hz
  | some b =>
    rw [e] at hz
    obtain rfl := Option.some.inj hz
    have : b ∈ bs.take j := List.mem_of_getElem? (i := m) (by rw [List.getElem?_take, if_pos hm]; exact e)
    have := List.all_eq_true.mp h b this
    cases b
    · rfl
    · cases this

/-! ### the text by places -/
def top (i : Nat) : Stmt := PySem.Challenge.pw_boardheld_k22_letters.main.body.getD i (.Pass ⟨0, 0, 0, 0⟩)
abbrev s_number_in : Stmt := top 5
abbrev s_check_of : Stmt := top 8
abbrev s_letter_of : Stmt := top 9
abbrev s_opened : Stmt := top 10
abbrev s__law_cell : Stmt := top 12
abbrev s__law_digits : Stmt := top 13
abbrev s__law_signs : Stmt := top 14
abbrev s__law_check : Stmt := top 15
abbrev s__law_number : Stmt := top 16
abbrev s__law_due : Stmt := top 17
abbrev s__law_told : Stmt := top 18
abbrev s__law_bent : Stmt := top 19
abbrev s_law : Stmt := top 20
/-! ### what the top has written -/
structure Txt (K : PySem.W.Frag) (mg : Str → Option Value) : Prop where
  g_BoardError : mg "BoardError" = some (.ref (He.ga K "BoardError"))
  g_NoLetter : mg "NoLetter" = some (.ref (He.ga K "NoLetter"))
  c_FIGURES : ∃ t, mg "FIGURES" = some (.str "0123456789" t)
  g_number_in : mg "number_in" = some (.ref (He.ga K "number_in"))
  c_MODULUS : ∃ t, mg "MODULUS" = some (.int 9973 t)
  g_check_of : mg "check_of" = some (.ref (He.ga K "check_of"))
  g_letter_of : mg "letter_of" = some (.ref (He.ga K "letter_of"))
  g_opened : mg "opened" = some (.ref (He.ga K "opened"))
  g__law_cell : mg "_law_cell" = some (.ref (He.ga K "_law_cell"))
  g__law_digits : mg "_law_digits" = some (.ref (He.ga K "_law_digits"))
  g__law_signs : mg "_law_signs" = some (.ref (He.ga K "_law_signs"))
  g__law_check : mg "_law_check" = some (.ref (He.ga K "_law_check"))
  g__law_number : mg "_law_number" = some (.ref (He.ga K "_law_number"))
  g__law_due : mg "_law_due" = some (.ref (He.ga K "_law_due"))
  g__law_told : mg "_law_told" = some (.ref (He.ga K "_law_told"))
  g__law_bent : mg "_law_bent" = some (.ref (He.ga K "_law_bent"))
  g_law : mg "law" = some (.ref (He.ga K "law"))
  f_all : mg "all" = none
  f_enumerate : mg "enumerate" = none
  f_int : mg "int" = none
  f_isinstance : mg "isinstance" = none
  f_len : mg "len" = none
  f_ord : mg "ord" = none
  f_range : mg "range" = none
  f_str : mg "str" = none
  x_BoardError : PySem.W.excIn K (He.ga K "BoardError") He.veBase "ValueError.__new__" = true ∧ PySem.W.keepIn K (.ref (He.ga K "BoardError")) = true ∧ PySem.W.subIn K (.ref (He.ga K "BoardError")) (.type "BaseException") = some true ∧ PySem.W.typeIn K (.ref (He.ga K "BoardError")) = some (.type "type")
  xm_BoardError_BoardError : PySem.W.exmOne K (.ref (He.ga K "BoardError")) (.ref (He.ga K "BoardError")) = some true
  xm_BoardError_NoLetter : PySem.W.exmOne K (.ref (He.ga K "BoardError")) (.ref (He.ga K "NoLetter")) = some false
  x_NoLetter : PySem.W.excIn K (He.ga K "NoLetter") He.veBase "ValueError.__new__" = true ∧ PySem.W.keepIn K (.ref (He.ga K "NoLetter")) = true ∧ PySem.W.subIn K (.ref (He.ga K "NoLetter")) (.type "BaseException") = some true ∧ PySem.W.typeIn K (.ref (He.ga K "NoLetter")) = some (.type "type")
  xm_NoLetter_BoardError : PySem.W.exmOne K (.ref (He.ga K "NoLetter")) (.ref (He.ga K "BoardError")) = some true
  xm_NoLetter_NoLetter : PySem.W.exmOne K (.ref (He.ga K "NoLetter")) (.ref (He.ga K "NoLetter")) = some true
  xi_NoLetter : ExcC K (He.ga K "NoLetter")
  kt_NoLetter_NoLetter : PySem.W.kitOne K (.ref (He.ga K "NoLetter")) (.ref (He.ga K "NoLetter")) = some true
  d_number_in : ∃ fd, FnP K "number_in" "number_in" s_number_in (He.fAd K ("number_in", none)) fd
  d_check_of : ∃ fd, FnP K "check_of" "check_of" s_check_of (He.fAd K ("check_of", none)) fd
  d_letter_of : ∃ fd, FnP K "letter_of" "letter_of" s_letter_of (He.fAd K ("letter_of", none)) fd
  d_opened : ∃ fd, FnP K "opened" "opened" s_opened (He.fAd K ("opened", none)) fd
  d__law_cell : ∃ fd, FnP K "_law_cell" "_law_cell" s__law_cell (He.fAd K ("_law_cell", none)) fd
  d__law_digits : ∃ fd, FnP K "_law_digits" "_law_digits" s__law_digits (He.fAd K ("_law_digits", none)) fd
  d__law_signs : ∃ fd, FnP K "_law_signs" "_law_signs" s__law_signs (He.fAd K ("_law_signs", none)) fd
  d__law_check : ∃ fd, FnP K "_law_check" "_law_check" s__law_check (He.fAd K ("_law_check", none)) fd
  d__law_number : ∃ fd, FnP K "_law_number" "_law_number" s__law_number (He.fAd K ("_law_number", none)) fd
  d__law_due : ∃ fd, FnP K "_law_due" "_law_due" s__law_due (He.fAd K ("_law_due", none)) fd
  d__law_told : ∃ fd, FnP K "_law_told" "_law_told" s__law_told (He.fAd K ("_law_told", none)) fd
  d__law_bent : ∃ fd, FnP K "_law_bent" "_law_bent" s__law_bent (He.fAd K ("_law_bent", none)) fd
  d_law : ∃ fd, FnP K "law" "law" s_law (He.fAd K ("law", none)) fd
/-! ### the head: facts by names, written lists of the top, the run -/
def fa : List He.Fa := [.glo "BoardError",
  .glo "NoLetter",
  .str "FIGURES" "0123456789",
  .glo "number_in",
  .int "MODULUS" 9973,
  .glo "check_of",
  .glo "letter_of",
  .glo "opened",
  .glo "_law_cell",
  .glo "_law_digits",
  .glo "_law_signs",
  .glo "_law_check",
  .glo "_law_number",
  .glo "_law_due",
  .glo "_law_told",
  .glo "_law_bent",
  .glo "law",
  .free "all",
  .free "enumerate",
  .free "int",
  .free "isinstance",
  .free "len",
  .free "ord",
  .free "range",
  .free "str",
  .exc "BoardError",
  .exm "BoardError" "BoardError" true,
  .exm "BoardError" "NoLetter" false,
  .exc "NoLetter",
  .exm "NoLetter" "BoardError" true,
  .exm "NoLetter" "NoLetter" true]
def fn : List He.DefD := [⟨("number_in", none), "number_in", "number_in", defArgs s_number_in, defBody s_number_in, defScope s_number_in, [], []⟩,
  ⟨("check_of", none), "check_of", "check_of", defArgs s_check_of, defBody s_check_of, defScope s_check_of, [], []⟩,
  ⟨("letter_of", none), "letter_of", "letter_of", defArgs s_letter_of, defBody s_letter_of, defScope s_letter_of, [], []⟩,
  ⟨("opened", none), "opened", "opened", defArgs s_opened, defBody s_opened, defScope s_opened, [], []⟩,
  ⟨("_law_cell", none), "_law_cell", "_law_cell", defArgs s__law_cell, defBody s__law_cell, defScope s__law_cell, [], []⟩,
  ⟨("_law_digits", none), "_law_digits", "_law_digits", defArgs s__law_digits, defBody s__law_digits, defScope s__law_digits, [], []⟩,
  ⟨("_law_signs", none), "_law_signs", "_law_signs", defArgs s__law_signs, defBody s__law_signs, defScope s__law_signs, [], []⟩,
  ⟨("_law_check", none), "_law_check", "_law_check", defArgs s__law_check, defBody s__law_check, defScope s__law_check, [], []⟩,
  ⟨("_law_number", none), "_law_number", "_law_number", defArgs s__law_number, defBody s__law_number, defScope s__law_number, [], []⟩,
  ⟨("_law_due", none), "_law_due", "_law_due", defArgs s__law_due, defBody s__law_due, defScope s__law_due, [], []⟩,
  ⟨("_law_told", none), "_law_told", "_law_told", defArgs s__law_told, defBody s__law_told, defScope s__law_told, [], []⟩,
  ⟨("_law_bent", none), "_law_bent", "_law_bent", defArgs s__law_bent, defBody s__law_bent, defScope s__law_bent, [], []⟩,
  ⟨("law", none), "law", "law", defArgs s_law, defBody s_law, defScope s_law, [], []⟩]
def ex (K : PySem.W.Frag) : Bool := excB K "NoLetter" && (decide (PySem.W.kitOne K (.ref (He.ga K "NoLetter")) (.ref (He.ga K "NoLetter")) = some true))
abbrev R : PySem.W.OpenRow := PySem.W.OpenLaw.row PySem.Challenge.rw_boardheld_k22_letters
abbrev hk : PySem.W.Hook := hookM 4 fa fn ex
def ob (s : PySem.W.SharedT) : He.AlD × Bool := obsMG 4 fa fn ex (HandSHeadRun.getT s)
theorem ob_eq (s : PySem.W.SharedT) : ob s = hk.obs s.abs := obsMG_eq (HandSHeadRun.getT_eq s)
def loose : List PySem.Str := ([(PySem.Str.ofString "BoardError"), (PySem.Str.ofString "NoLetter"), (PySem.Str.ofString "FIGURES"), (PySem.Str.ofString "number_in"), (PySem.Str.ofString "MODULUS"), (PySem.Str.ofString "check_of"), (PySem.Str.ofString "letter_of"), (PySem.Str.ofString "opened"), (PySem.Str.ofString "_law_cell"), (PySem.Str.ofString "_law_digits"), (PySem.Str.ofString "_law_signs"), (PySem.Str.ofString "_law_check"), (PySem.Str.ofString "_law_number"), (PySem.Str.ofString "_law_due"), (PySem.Str.ofString "_law_told"), (PySem.Str.ofString "_law_bent")] : List PySem.Str)
theorem map3 {α β γ δ : Type} {o : Option α} {f : α → β} {g : α → γ} {h : α → δ} {a : β} {b : γ} {c : δ} (h1 : o.map f = some a) (h2 : o.map g = some b) (h3 : o.map h = some c) : (o.map fun s => (f s, g s, h s)) = some (a, b, c) := by
  cases o with
  | none => cases h1
  | some s => rw [Option.map_some] at *; rw [Option.some.inj h1, Option.some.inj h2, Option.some.inj h3]
theorem oall_cut {σ α : Type} {o : Option σ} {p : σ → α → Bool} {l : List α} (i k : Nat) (h1 : (o.map fun s => ((l.drop i).take k).all (p s)) = some true) (h2 : (o.map fun s => (l.drop (i + k)).all (p s)) = some true) : (o.map fun s => (l.drop i).all (p s)) = some true := by
  cases o with
  | none => cases h1
  | some s =>
    rw [Option.map_some] at *
    rw [← List.take_append_drop k (l.drop i), List.all_append, Option.some.inj h1, List.drop_drop, Option.some.inj h2]; rfl
theorem omap_cut {σ α β : Type} {o : Option σ} {p : σ → α → β} {g : α → β} {l : List α} (i k : Nat) (h1 : (o.map fun s => ((l.drop i).take k).map (p s)) = some (((l.drop i).take k).map g)) (h2 : (o.map fun s => (l.drop (i + k)).map (p s)) = some ((l.drop (i + k)).map g)) : (o.map fun s => (l.drop i).map (p s)) = some ((l.drop i).map g) := by
  cases o with
  | none => cases h1
  | some s =>
    rw [Option.map_some] at *
    rw [← List.take_append_drop k (l.drop i), List.map_append, List.map_append, Option.some.inj h1, List.drop_drop, Option.some.inj h2]
def Kof (s : PySem.W.SharedT) : PySem.W.Frag := He.frG (HandSHeadRun.getT s) (asM (HandSHeadRun.getT s) 4)
theorem obs3 {o : Option PySem.W.SharedT} (h1 : (o.map fun s => (fa.drop 0).all fun f => f.ok (Kof s)) = some true) (h3 : (o.map fun s => (fn.drop 0).all (fun d => d.ok (Kof s))) = some true) (h4 : (o.map fun s => (fn.drop 0).map (fun d => He.fnW (Kof s) d.at_)) = some ((fn.drop 0).map He.DefD.val)) (h5 : (o.map fun s => ex (Kof s)) = some true) (w : World) : (o.map fun s => ob s) = some (hk.val w) := by
  cases o with
  | none => cases h1
  | some s =>
    rw [Option.map_some] at *
    have e1 : (fa.all fun f => f.ok (Kof s)) = true := Option.some.inj h1
    have e4 : (fn.all fun d => d.ok (Kof s)) = true := Option.some.inj h3
    have e5 : (fn.map fun d => He.fnW (Kof s) d.at_) = fn.map He.DefD.val := Option.some.inj h4
    have e6 := Option.some.inj h5
    show some (((fa.all fun f => f.ok (Kof s)) && fn.all fun d => d.ok (Kof s), fn.map fun d => He.fnW (Kof s) d.at_), ex (Kof s)) = some ((true, fn.map He.DefD.val), true)
    rw [e1, e4, e5, e6]; rfl
section
open PySem.W PySem.Calls HandSHeadRun
noncomputable abbrev rOf (w : World) (os : OsState) : Option PySem.W.SharedT := endF (stepQ (denQ tabQ) R.prog w) 3000 R.prog w os
theorem run1 (w : World) (os : OsState) : ((rOf w os).map fun s => looksF R.prog (boot_heap w.params) s.abs) = some true := by kernel_rfl
theorem run2 (w : World) (os : OsState) : ((rOf w os).map fun s => seenQ (PySem.W.view R.prog [20]) loose (importedModules R.prog.main.body) (fun s => xlAt (PySem.W.view R.prog [20]) [] s && recOk R.toRowW.records s) s.abs) = some (openGood (PySem.W.view R.prog [20]) loose) := by kernel_rfl
theorem run7 (w : World) (os : OsState) : ((rOf w os).map fun s => ex (Kof s)) = some true := by kernel_rfl
theorem ra0 (w : World) (os : OsState) : ((rOf w os).map fun s => ((fa.drop 0).take 15).all fun f => f.ok (Kof s)) = some true := by kernel_rfl
theorem ra1 (w : World) (os : OsState) : ((rOf w os).map fun s => (fa.drop 15).all fun f => f.ok (Kof s)) = some true := by kernel_rfl
theorem rb0 (w : World) (os : OsState) : ((rOf w os).map fun s => (fn.drop 0).all (fun d => d.ok (Kof s))) = some true := by kernel_rfl
theorem rc0 (w : World) (os : OsState) : ((rOf w os).map fun s => ((fn.drop 0).take 6).map (fun d => He.fnW (Kof s) d.at_)) = some (((fn.drop 0).take 6).map He.DefD.val) := by kernel_rfl
theorem rc1 (w : World) (os : OsState) : ((rOf w os).map fun s => (fn.drop 6).map (fun d => He.fnW (Kof s) d.at_)) = some ((fn.drop 6).map He.DefD.val) := by kernel_rfl
theorem run (w : World) : HandSHeadRun.RunEq R (PySem.W.view R.prog [20]) hk ob 3000 loose w := by
  intro os
  refine map3 (run1 w os) (run2 w os) (obs3 ?_ ?_ ?_ (run7 w os) w)
  · exact (oall_cut 0 15 (ra0 w os) (ra1 w os))
  · exact (rb0 w os)
  · exact (omap_cut 0 6 (rc0 w os) (rc1 w os))
end


/-! ### own rules: x is a truth -/
section
variable {X : Cx}
theorem op_isB : OpR X (compareOp .Is) (fun x y H Q => ∃ a b : Bool, x = .bl a ∧ y = .bl b ∧ Q (.bl (decide (a = b))) H) := by
  intro pins s σ H x y v u Q I rx ry h
  obtain ⟨a, b, rfl, rfl, q⟩ := h
  cases rx
  cases ry
  refine wpAny_is_plain (by cases a <;> cases b <;> rfl) (fin_bl I q ?_)
  cases a <;> cases b <;> rfl
theorem op_isnotB : OpR X (compareOp .IsNot) (fun x y H Q => ∃ a b : Bool, x = .bl a ∧ y = .bl b ∧ Q (.bl (!decide (a = b))) H) := by
  intro pins s σ H x y v u Q I rx ry h
  obtain ⟨a, b, rfl, rfl, q⟩ := h
  cases rx
  cases ry
  show wpAny _ _ ((isSame (Value.bool a) (Value.bool b)) >>= fun z => pure (Value.bool (!z))) _ _ s
  exact wpAny_bind (wpAny_isSame_plain (by cases a <;> cases b <;> rfl) (wpAny_pure (fin_bl I q (by cases a <;> cases b <;> rfl))))
theorem pe_fldK {K : PySem.W.Frag} {e : Expr} {f : Str} {pos : Pos} {ta : TE} (hK : X.K = K) (he : PE X e ta) (hb : attributeBase e f X.env (eval e X.env) = eval e X.env) : PE X (.Attribute e f pos) (tFld K ta f) := by
  subst hK; exact pe_fld he hb
end
/-! ### own rule: d.update(e), both tracked dicts -/
def rDUpdate : V → List V → Hp → VK → Prop := fun x vs H Q => ∃ (a b : Addr) (kvs more : List (Key × V)), x = .ref a ∧ vs = [.ref b] ∧ a ≠ b ∧ H a = some (.dK kvs) ∧ H b = some (.dK more) ∧ kvs.length + more.length ≤ sizeLine ∧ Q .non (upd H a (.dK (mergeK kvs more)))
theorem mt_update {X : Cx} : MtR X "dict.update" rDUpdate := by
  intro pins s σ H x vs v us Q I rx rv h
  obtain ⟨a, b, kvs, more, rfl, rfl, hne, e, e2, hz, q⟩ := h
  obtain rfl : v = Value.ref a := rx
  obtain ⟨u, rfl, ru⟩ := rv.one
  obtain rfl : u = Value.ref b := ru
  obtain ⟨z, hd, ws, rel, dd⟩ := dk_of I.hok e
  obtain ⟨z2, hd2, ws2, rel2, dd2⟩ := dk_of I.hok e2
  refine call_meetsIn PySem.F.slot_dict_update dd.typeIs PySem.F.entry_dict_update (PySem.F.args_dict_update_2 _ _) (meets_dict_update (mixKind X.prog X.w) a b hne hd2) ⟨ws, ws2, dd, dd2, by rw [← rel.length, ← rel2.length]; exact hz, fun h' dd' _ hs => ?_⟩
  have he : ∃ q, h'.get? a = some q := let ⟨q, _, _, hq, _⟩ := dd'; ⟨q, hq⟩
  exact ⟨.non, _, d_write (t' := s.toks) I (by rw [e]; exact True.intro) hs he (dk_new (Nat.le_trans (length_mergeK more kvs) hz) hd (KV.merge rel2 rel) dd'), rfl, q⟩
theorem ix_listK {X : Cx} {K : PySem.W.Frag} (hK : X.K = K) : IxR X (rIxL K) := by subst hK; exact ix_list
theorem ix_tupK {X : Cx} {K : PySem.W.Frag} (hK : X.K = K) : IxR X (rIxT K) := by subst hK; exact ix_tup
theorem sl_tupK {X : Cx} {K : PySem.W.Frag} (hK : X.K = K) : SlR X (rSlT K) := by subst hK; exact sl_tup

/-! ### what the shared parts name of boards, where there is no board -/
def lineK (l : List (Int × Int)) : List (Key × V) := l.map fun p => (Sum.inl p.1, V.int p.2)
def StopV (H : Hp) (v : V) : Option (List V) → Prop
  | none => v = .non
  | some xs => ∃ t, v = .ref t ∧ H t = some (.tup xs)
theorem StopV.mono {H H' : Hp} {v : V} (k : ∀ b xs, H b = some (.tup xs) → H' b = some (.tup xs)) : ∀ {o : Option (List V)}, StopV H v o → StopV H' v o
  | none, h => h
  | some _, ⟨t, e, h⟩ => ⟨t, e, k _ _ h⟩
def sentT (l : List (Int × Int)) : List (List V) := l.map fun p => [.int p.1, .int p.2]
def optV : Option Int → V
  | none => .non
  | some n => .int n

/-! ### own rule: list + list, either may be read alone -/
def rCatL (K : PySem.W.Frag) : R2 := fun x y H Q => ∃ l b xs zs, x = .ref l ∧ y = .ref b ∧ SqL K H l xs ∧ SqL K H b zs ∧ xs.length + zs.length ≤ sizeLine ∧ ∀ p, H p = none → Q (.ref p) (upd H p (.lst (xs ++ zs)))
theorem op_catL {X : Cx} : OpR X (binaryOp .Add) (rCatL X.K) := by
  intro pins s σ H x y v u Q I rx ry h
  obtain ⟨l, b, xs, zs, rfl, rfl, hH, hB, hz, q⟩ := h
  cases rx
  cases ry
  obtain ⟨its, r, pl, _⟩ := I.list hH
  obtain ⟨its2, r2, pl2, _⟩ := I.list hB
  obtain ⟨⟨cls, dd, data, sl⟩, ho, hc, n, hd⟩ := id pl.isList
  obtain ⟨⟨cls2, dd2, data2, sl2⟩, ho2, hc2, n2, hd2⟩ := id pl2.isList
  simp only at hc hd hc2 hd2
  subst hc hd hc2 hd2
  have e : its.toArray ++ its2.toArray = (its ++ its2).toArray := by simp
  have hsz : its.length + its2.length ≤ sizeLine := by rw [← r.length, ← r2.length]; exact hz
  refine concat_meets ⟨_, ho, rfl⟩ ⟨_, ho2, rfl⟩ noFill_list_add seq_list_add PySem.F.slot_list_add PySem.F.entry_list_add (PySem.F.args_list_add_2 _ _) (list_addW l b its.toArray its2.toArray n n2 dd dd2 sl sl2 (by simpa using hsz)) ⟨ho, ho2, ?_⟩
  rw [e]
  exact ⟨.ref _, _, I.lnew (t' := s.toks) (r.append r2) (by rw [List.length_append]; omega), rfl, q _ I.fresh⟩
theorem call_isi' {X : Cx} {K : PySem.W.Frag} (hK : X.K = K) : CallR X (.builtin "isinstance") (rIsi K) := by subst hK; exact call_isi
theorem call_list_of' {X : Cx} {K : PySem.W.Frag} (hK : X.K = K) : CallR X (.type "list") (fun xs H Q => ∃ p ys, xs = [.ref p] ∧ (SqL K H p ys ∨ SqT K H p ys) ∧ ∀ l, H l = none → Q (.ref l) (upd H l (.lst ys))) := by subst hK; exact call_list_of

/-! ### assertions on a heap, each with what it owns -/
theorem not_in_nil {a : Addr} : a ∉ ([] : List Addr) := by intro h; cases h
theorem Kp.frame {S S' T T' : List Addr} {H H' : Hp} (k : Kp S S' H H') (h1 : ∀ b, b ∈ S → b ∈ T) (h2 : ∀ b, b ∈ T' → b ∈ S' ∨ b ∈ T) : Kp T T' H H' :=
  ⟨fun b o e n => k.kept b o e fun m => n (h1 b m), fun b m => (h2 b m).elim (fun z => (k.own b z).imp (h1 b) id) .inl, k.tups⟩
abbrev TupK (H H' : Hp) : Prop := ∀ b xs, H b = some (.tup xs) → H' b = some (.tup xs)
structure As where
  own : List Addr
  ok : Hp → Prop
  st : ∀ {H H' : Hp}, ok H → (∀ b, b ∈ own → ∀ o, H b = some o → H' b = some o) → TupK H H' → ok H'
  al : ∀ {H : Hp}, ok H → ∀ b, b ∈ own → ∃ o, H b = some o
  nd : ∀ {H : Hp}, ok H → own.Nodup
def oks (H : Hp) : List As → Prop
  | [] => True
  | A :: r => A.ok H ∧ oks H r
def owns : List As → List Addr
  | [] => []
  | A :: r => A.own ++ owns r
theorem oks_app {H : Hp} : ∀ {L M : List As}, oks H (L ++ M) ↔ oks H L ∧ oks H M
  | [], _ => ⟨fun h => ⟨trivial, h⟩, fun h => h.2⟩
  | A :: r, M => by
    show A.ok H ∧ oks H (r ++ M) ↔ (A.ok H ∧ oks H r) ∧ oks H M
    rw [oks_app (L := r)]; exact and_assoc.symm
theorem owns_app : ∀ {L M : List As}, owns (L ++ M) = owns L ++ owns M
  | [], _ => rfl
  | A :: r, M => by
    show A.own ++ owns (r ++ M) = (A.own ++ owns r) ++ owns M
    rw [owns_app (L := r), List.append_assoc]
theorem oks_st {H H' : Hp} (t : TupK H H') : ∀ {L : List As}, oks H L → (∀ b, b ∈ owns L → ∀ o, H b = some o → H' b = some o) → oks H' L
  | [], _, _ => trivial
  | A :: _, h, k => ⟨A.st h.1 (fun b m => k b (List.mem_append_left _ m)) t, oks_st t h.2 fun b m => k b (List.mem_append_right _ m)⟩
theorem oks_al {H : Hp} : ∀ {L : List As}, oks H L → ∀ b, b ∈ owns L → ∃ o, H b = some o
  | [], _, _, m => by cases m
  | A :: _, h, b, m => (List.mem_append.mp m).elim (A.al h.1 b) (oks_al h.2 b)
/-- many in one -/
def aG (L : List As) : As where
  own := owns L
  ok := fun H => oks H L ∧ (owns L).Nodup
  st := fun h k t => ⟨oks_st t h.1 k, h.2⟩
  al := fun h => oks_al h.1
  nd := fun h => h.2
structure Sep (S0 : List Addr) (H0 H : Hp) (L : List As) : Prop where
  ok : oks H L
  nd : (owns L).Nodup
  kp : Kp S0 (owns L) H0 H
def nth : List As → Nat → Option As
  | [], _ => none
  | A :: _, 0 => some A
  | _ :: r, n + 1 => nth r n
def setN : List As → Nat → List As → List As
  | [], _, _ => []
  | _ :: r, 0, M => M ++ r
  | A :: r, n + 1, M => A :: setN r n M
theorem nth_split : ∀ {L : List As} {i : Nat} {A : As}, nth L i = some A → ∃ L1 L2, L = L1 ++ A :: L2 ∧ ∀ M, setN L i M = L1 ++ (M ++ L2)
  | [], _, _, e => by cases e
  | B :: r, 0, A, e => by
    have e : B = A := Option.some.inj e
    exact ⟨[], r, by rw [e]; rfl, fun M => rfl⟩
  | B :: r, n + 1, A, e => by
    obtain ⟨L1, L2, h1, h2⟩ := nth_split (L := r) (i := n) e
    exact ⟨B :: L1, L2, by rw [h1]; rfl, fun M => by show B :: setN r n M = _; rw [h2]; rfl⟩
theorem nd_app {a b : List Addr} : (a ++ b).Nodup ↔ a.Nodup ∧ b.Nodup ∧ ∀ x, x ∈ a → x ∈ b → False := by
  rw [List.nodup_append]
  exact ⟨fun h => ⟨h.1, h.2.1, fun x h1 h2 => h.2.2 x h1 x h2 rfl⟩, fun h => ⟨h.1, h.2.1, fun x h1 y h2 e => h.2.2 x h1 (e ▸ h2)⟩⟩
namespace Sep
variable {S0 : List Addr} {H0 H H' : Hp} {L : List As}
theorem get (h : Sep S0 H0 H L) (i : Nat) {A : As} (e : nth L i = some A) : A.ok H := by
  obtain ⟨L1, L2, rfl, _⟩ := nth_split e
  exact (oks_app.mp h.ok).2.1
theorem start {L : List As} (o : oks H L) (n : (owns L).Nodup) : Sep (owns L) H H L := ⟨o, n, Kp.refl _ _⟩
/-- the place i exchanged for M, by what changes what it owns alone -/
theorem swap (h : Sep S0 H0 H L) (i : Nat) {A : As} (e : nth L i = some A) {M : List As} (k : Kp A.own (owns M) H H') (o : oks H' M) (n : (owns M).Nodup) : Sep S0 H0 H' (setN L i M) := by
  obtain ⟨L1, L2, rfl, e2⟩ := nth_split e
  rw [e2]
  obtain ⟨o1, o2⟩ := oks_app.mp h.ok
  have hn := h.nd
  have hk := h.kp
  rw [owns_app] at hn hk
  obtain ⟨n1, n2, d1⟩ := nd_app.mp hn
  obtain ⟨nA, n3, d2⟩ := nd_app.mp (show (A.own ++ owns L2).Nodup from n2)
  have dA1 : ∀ b, b ∈ owns L1 → b ∉ A.own := fun b m z => d1 b m (List.mem_append_left _ z)
  have dA2 : ∀ b, b ∈ owns L2 → b ∉ A.own := fun b m z => d2 b z m
  have al1 := oks_al o1
  have al2 := oks_al (show oks H L2 from o2.2)
  have fr : ∀ {X : List As}, (∀ b, b ∈ owns X → b ∉ A.own) → (∀ b, b ∈ owns X → ∃ o, H b = some o) → ∀ b, b ∈ owns M → b ∈ owns X → False := fun hx ax b m mx => by
    rcases k.own b m with z | z
    · exact hx b mx z
    · obtain ⟨u, eu⟩ := ax b mx
      rw [z] at eu; cases eu
  refine ⟨oks_app.mpr ⟨oks_st k.tups o1 fun b m u hu => k.kept b u hu (dA1 b m), oks_app.mpr ⟨o, oks_st k.tups o2.2 fun b m u hu => k.kept b u hu (dA2 b m)⟩⟩, ?_, ?_⟩
  · rw [owns_app, owns_app]
    refine nd_app.mpr ⟨n1, nd_app.mpr ⟨n, n3, fr dA2 al2⟩, fun b m1 m2 => ?_⟩
    rcases List.mem_append.mp m2 with z | z
    · exact fr dA1 al1 b z m1
    · exact d1 b m1 (List.mem_append_right _ z)
  · refine hk.trans (k.frame (fun b m => List.mem_append_right _ (List.mem_append_left _ m)) fun b m => ?_)
    rw [owns_app, owns_app] at m
    rcases List.mem_append.mp m with z | z
    · exact .inr (List.mem_append_left _ z)
    · rcases List.mem_append.mp z with z | z
      · exact .inl z
      · exact .inr (List.mem_append_right _ (List.mem_append_right _ z))
theorem put (h : Sep S0 H0 H L) (i : Nat) {A : As} (e : nth L i = some A) (B : As) (k : Kp A.own B.own H H') (o : B.ok H') : Sep S0 H0 H' (setN L i [B]) :=
  h.swap i e (M := [B]) (k.sub fun b m => by rw [show owns [B] = B.own ++ [] from rfl, List.append_nil] at m; exact m) ⟨o, trivial⟩ (by rw [show owns [B] = B.own ++ [] from rfl, List.append_nil]; exact B.nd o)
/-- nothing owned is changed -/
theorem heap (h : Sep S0 H0 H L) (k : Kp [] [] H H') : Sep S0 H0 H' L :=
  ⟨oks_st k.tups h.ok fun b _ o e => k.kept b o e not_in_nil, h.nd, h.kp.trans (k.frame (fun _ m => by cases m) fun _ m => .inr m)⟩
theorem addM (h : Sep S0 H0 H L) {M : List As} (k : Kp [] (owns M) H H') (o : oks H' M) (n : (owns M).Nodup) : Sep S0 H0 H' (M ++ L) := by
  have fr : ∀ b, b ∈ owns M → b ∈ owns L → False := fun b m mx => by
    rcases k.own b m with z | z
    · cases z
    · obtain ⟨u, eu⟩ := oks_al h.ok b mx
      rw [z] at eu; cases eu
  refine ⟨oks_app.mpr ⟨o, oks_st k.tups h.ok fun b _ o e => k.kept b o e not_in_nil⟩, by rw [owns_app]; exact nd_app.mpr ⟨n, h.nd, fr⟩, ?_⟩
  rw [owns_app]
  exact h.kp.trans (k.frame (fun _ m => by cases m) fun _ m => List.mem_append.mp m)
/-- an object more -/
theorem new (h : Sep S0 H0 H L) {p : Addr} {o : HO} (np : H p = none) (B : As) (eo : B.own = [p]) (ok : B.ok (upd H p o)) : Sep S0 H0 (upd H p o) (B :: L) := by
  have e : owns [B] = [p] := by rw [show owns [B] = B.own ++ [] from rfl, List.append_nil, eo]
  exact h.addM (M := [B]) (by rw [e]; exact Kp.newIn np) ⟨ok, trivial⟩ (by rw [e]; simp)
/-- what owns nothing, more -/
theorem add0 (h : Sep S0 H0 H L) (B : As) (eo : B.own = []) (ok : B.ok H) : Sep S0 H0 H (B :: L) := by
  have e : owns [B] = [] := by rw [show owns [B] = B.own ++ [] from rfl, List.append_nil, eo]
  exact h.addM (M := [B]) (by rw [e]; exact Kp.refl _ _) ⟨ok, trivial⟩ (by rw [e]; exact List.nodup_nil)
theorem newT (h : Sep S0 H0 H L) {p : Addr} {o : HO} (np : H p = none) : Sep S0 H0 (upd H p o) L := h.heap (Kp.new np)
theorem rm (h : Sep S0 H0 H L) (i : Nat) {A : As} (e : nth L i = some A) : Sep S0 H0 H (setN L i []) := by
  refine h.swap i e (M := []) ⟨fun b o e _ => e, fun b m => (by cases m), fun _ _ e => e⟩ trivial List.nodup_nil
theorem opn (h : Sep S0 H0 H L) (i : Nat) {M : List As} (e : nth L i = some (aG M)) : Sep S0 H0 H (setN L i M) := by
  obtain ⟨o, n⟩ := h.get i e
  exact h.swap i e (Kp.refl _ _) o n
/-- a place's part ahead, for a call -/
theorem perm {M : List As} (h : Sep S0 H0 H L) (o : oks H M) (n : (owns M).Nodup) (s : ∀ b, b ∈ owns M → b ∈ owns L) : Sep S0 H0 H M := ⟨o, n, h.kp.sub s⟩
theorem mv (h : Sep S0 H0 H L) (i : Nat) {A : As} (e : nth L i = some A) : Sep S0 H0 H (A :: setN L i []) := by
  obtain ⟨L1, L2, rfl, e2⟩ := nth_split e
  rw [e2]
  obtain ⟨o1, o2⟩ := oks_app.mp h.ok
  have hn := h.nd
  rw [owns_app] at hn
  obtain ⟨n1, n2, d1⟩ := nd_app.mp hn
  obtain ⟨nA, n3, d2⟩ := nd_app.mp (show (A.own ++ owns L2).Nodup from n2)
  refine h.perm ⟨o2.1, oks_app.mpr ⟨o1, o2.2⟩⟩ ?_ fun b m => ?_
  · show (A.own ++ owns (L1 ++ ([] ++ L2))).Nodup
    rw [owns_app]
    refine nd_app.mpr ⟨nA, nd_app.mpr ⟨n1, n3, fun b m z => d1 b m (List.mem_append_right _ z)⟩, fun b m z => ?_⟩
    rcases List.mem_append.mp z with z | z
    · exact d1 b z (List.mem_append_left _ m)
    · exact d2 b m z
  · have m : b ∈ A.own ++ owns (L1 ++ ([] ++ L2)) := m
    rw [owns_app] at m ⊢
    rcases List.mem_append.mp m with z | z
    · exact List.mem_append_right _ (List.mem_append_left _ z)
    · rcases List.mem_append.mp z with z | z
      · exact List.mem_append_left _ z
      · exact List.mem_append_right _ (List.mem_append_right _ z)
theorem front {M : List As} (h : Sep S0 H0 H (M ++ L)) : oks H M ∧ (owns M).Nodup := by
  have hn := h.nd
  rw [owns_app] at hn
  exact ⟨(oks_app.mp h.ok).1, (nd_app.mp hn).1⟩
theorem cls {M : List As} (h : Sep S0 H0 H (M ++ L)) : Sep S0 H0 H (aG M :: L) := by
  have hn := h.nd
  rw [owns_app] at hn
  obtain ⟨o1, o2⟩ := oks_app.mp h.ok
  refine h.perm ⟨⟨o1, (nd_app.mp hn).1⟩, o2⟩ (show (owns M ++ owns L).Nodup from hn) fun b m => by rw [owns_app]; exact m
/-- a call of what stands in front -/
theorem sub {M : List As} (h : Sep S0 H0 H (M ++ L)) : Sep (owns M) H H M := ⟨h.front.1, h.front.2, Kp.refl _ _⟩
theorem call {M M' : List As} (h : Sep S0 H0 H (M ++ L)) (c : Sep (owns M) H H' M') : Sep S0 H0 H' (M' ++ L) := by
  have e1 : nth (aG M :: L) 0 = some (aG M) := rfl
  exact h.cls.swap 0 e1 (M := M') c.kp c.ok c.nd
theorem fin (h : Sep S0 H0 H L) (c : Sep (owns L) H H' L) : True := trivial
end Sep
/-! ### values that do not change -/
class Imm (α : Type) where
  at_ : Hp → V → α → Prop
  mono : ∀ {H H' : Hp} {v : V} {x : α}, TupK H H' → at_ H v x → at_ H' v x
instance : Imm Int := ⟨fun _ v x => v = .int x, fun _ h => h⟩
instance : Imm Bool := ⟨fun _ v x => v = .bl x, fun _ h => h⟩
instance : Imm Str := ⟨fun _ v x => v = .str x, fun _ h => h⟩
instance : Imm Unit := ⟨fun _ v _ => v = .non, fun _ h => h⟩
instance {α : Type} [Imm α] : Imm (Option α) := ⟨fun H v x => match x with
  | none => v = .non
  | some y => Imm.at_ H v y, fun {H H' v x} t h => by
    cases x with
    | none => exact h
    | some y => exact Imm.mono t h⟩
instance {α β : Type} [Imm α] [Imm β] : Imm (α × β) := ⟨fun H v x => ∃ p u w, v = .ref p ∧ H p = some (.tup [u, w]) ∧ Imm.at_ H u x.1 ∧ Imm.at_ H w x.2, fun t h => by
  obtain ⟨p, u, w, e, h, h1, h2⟩ := h
  exact ⟨p, u, w, e, t _ _ h, Imm.mono t h1, Imm.mono t h2⟩⟩
structure T3 (α β γ : Type) where
  a : α
  b : β
  c : γ
  deriving DecidableEq
instance {α β γ : Type} [Imm α] [Imm β] [Imm γ] : Imm (T3 α β γ) := ⟨fun H v x => ∃ p u w z, v = .ref p ∧ H p = some (.tup [u, w, z]) ∧ Imm.at_ H u x.a ∧ Imm.at_ H w x.b ∧ Imm.at_ H z x.c, fun t h => by
  obtain ⟨p, u, w, z, e, h, h1, h2, h3⟩ := h
  exact ⟨p, u, w, z, e, t _ _ h, Imm.mono t h1, Imm.mono t h2, Imm.mono t h3⟩⟩
class Sc (α : Type) extends Imm α where
  v : α → V
  eq : ∀ {H : Hp} {u : V} {x : α}, Imm.at_ H u x ↔ u = v x
instance : Sc Int := ⟨V.int, Iff.rfl⟩
instance : Sc Bool := ⟨V.bl, Iff.rfl⟩
instance : Sc Str := ⟨V.str, Iff.rfl⟩
def Imms {α : Type} [Imm α] (H : Hp) (vs : List V) (xs : List α) : Prop := Paired (fun v x => Imm.at_ H v x) vs xs
section
variable {α : Type} [Imm α] {H H' : Hp}
theorem Imms.mono (t : TupK H H') : ∀ {vs : List V} {xs : List α}, Imms H vs xs → Imms H' vs xs
  | _, _, .nil => .nil
  | _, _, .cons h r => .cons (Imm.mono t h) (Imms.mono t r)
theorem Imms.length {vs : List V} {xs : List α} (h : Imms H vs xs) : vs.length = xs.length := Paired.length h
theorem Imms.snoc {vs : List V} {xs : List α} (h : Imms H vs xs) {v : V} {x : α} (hv : Imm.at_ H v x) : Imms H (vs ++ [v]) (xs ++ [x]) := paired_snoc hv h
theorem Imms.app : ∀ {vs ws : List V} {xs ys : List α}, Imms H vs xs → Imms H ws ys → Imms H (vs ++ ws) (xs ++ ys)
  | _, _, _, _, .nil, h => h
  | _, _, _, _, .cons h r, h2 => .cons h (Imms.app r h2)
theorem Imms.nth : ∀ {vs : List V} {xs : List α} {i : Nat} {x : α}, Imms H vs xs → xs[i]? = some x → ∃ v, vs[i]? = some v ∧ Imm.at_ H v x
  | _, _, _, _, .nil, e => by simp at e
  | _, _, 0, _, .cons h _, e => by simp at e; subst e; exact ⟨_, rfl, h⟩
  | _, _, i + 1, _, .cons _ r, e => by
    obtain ⟨v, h1, h2⟩ := Imms.nth (i := i) r (by simpa using e)
    exact ⟨v, by simpa using h1, h2⟩
theorem Imms.ix {vs : List V} {xs : List α} {i : Int} {x : α} (h : Imms H vs xs) (e : atI xs i = some x) : ∃ v, atI vs i = some v ∧ Imm.at_ H v x := by
  unfold atI at e ⊢
  rw [h.length]
  cases hj : ixN xs.length i with
  | none => rw [hj] at e; cases e
  | some j =>
    rw [hj] at e
    obtain ⟨v, h1, h2⟩ := h.nth (i := j) (x := x) e
    exact ⟨v, h1, h2⟩
theorem Imms.take : ∀ {vs : List V} {xs : List α} (n : Nat), Imms H vs xs → Imms H (vs.take n) (xs.take n)
  | _, _, 0, _ => .nil
  | _, _, _ + 1, .nil => .nil
  | _, _, n + 1, .cons h r => .cons h (Imms.take n r)
theorem Imms.drop : ∀ {vs : List V} {xs : List α} (n : Nat), Imms H vs xs → Imms H (vs.drop n) (xs.drop n)
  | _, _, 0, h => h
  | _, _, _ + 1, .nil => .nil
  | _, _, n + 1, .cons _ r => Imms.drop n r
theorem Imms.set : ∀ {vs : List V} {xs : List α} (n : Nat) {v : V} {x : α}, Imms H vs xs → Imm.at_ H v x → Imms H (vs.set n v) (xs.set n x)
  | _, _, _, _, _, .nil, _ => .nil
  | _, _, 0, _, _, .cons _ r, h => .cons h r
  | _, _, n + 1, _, _, .cons h r, h2 => .cons h (Imms.set n r h2)
end
theorem Imms.sc {α : Type} [Sc α] {H : Hp} : ∀ {vs : List V} {xs : List α}, Imms H vs xs → vs = xs.map Sc.v
  | _, _, .nil => rfl
  | _, _, .cons h r => by rw [Imms.sc r, Sc.eq.mp h]; rfl
theorem Imms.ofSc {α : Type} [Sc α] {H : Hp} : ∀ (xs : List α), Imms H (xs.map Sc.v) xs
  | [] => .nil
  | _ :: r => .cons (Sc.eq.mpr rfl) (Imms.ofSc r)
/-! ### atoms -/
theorem one_nd {a : Addr} : [a].Nodup := by simp
/-- a value -/
def aV {α : Type} [Imm α] (v : V) (x : α) : As where
  own := []
  ok := fun H => Imm.at_ H v x
  st := fun h _ t => Imm.mono t h
  al := fun _ b m => by cases m
  nd := fun _ => List.nodup_nil
/-- a list -/
def aL {α : Type} [Imm α] (p : Addr) (xs : List α) : As where
  own := [p]
  ok := fun H => ∃ vs, H p = some (.lst vs) ∧ Imms H vs xs
  st := fun ⟨vs, e, h⟩ k t => ⟨vs, k p (by simp) _ e, h.mono t⟩
  al := fun ⟨vs, e, _⟩ b m => by
    have z := List.mem_singleton.mp m
    subst z; exact ⟨_, e⟩
  nd := fun _ => one_nd
/-- an object by what stands there -/
def aC (p : Addr) (o : HO) : As where
  own := [p]
  ok := fun H => H p = some o
  st := fun e k _ => k p (by simp) _ e
  al := fun e b m => by
    have z := List.mem_singleton.mp m
    subst z; exact ⟨_, e⟩
  nd := fun _ => one_nd
/-! ### more atoms, and what stands ahead of a call -/
def aT (p : Addr) (vs : List V) : As where
  own := []
  ok := fun H => H p = some (.tup vs)
  st := fun h _ t => t _ _ h
  al := fun _ b m => by cases m
  nd := fun _ => List.nodup_nil
/-- a list whose values are told -/
def aW {α : Type} [Imm α] (p : Addr) (vs : List V) (xs : List α) : As where
  own := [p]
  ok := fun H => H p = some (.lst vs) ∧ Imms H vs xs
  st := fun ⟨e, h⟩ k t => ⟨k p (by simp) _ e, h.mono t⟩
  al := fun ⟨e, _⟩ b m => by
    have z := List.mem_singleton.mp m
    subst z; exact ⟨_, e⟩
  nd := fun _ => one_nd
def takeN : Nat → List As → List As
  | 0, _ => []
  | _, [] => []
  | n + 1, A :: r => A :: takeN n r
def dropN : Nat → List As → List As
  | 0, L => L
  | _, [] => []
  | n + 1, _ :: r => dropN n r
theorem take_drop : ∀ (n : Nat) (L : List As), takeN n L ++ dropN n L = L
  | 0, _ => rfl
  | _ + 1, [] => rfl
  | n + 1, A :: r => congrArg (A :: ·) (take_drop n r)
namespace Sep
variable {S0 : List Addr} {H0 H H' : Hp} {L : List As}
theorem frontN (h : Sep S0 H0 H L) (n : Nat) : oks H (takeN n L) ∧ (owns (takeN n L)).Nodup := by
  rw [← take_drop n L] at h
  exact h.front
theorem callN (h : Sep S0 H0 H L) (n : Nat) {M' : List As} (c : Sep (owns (takeN n L)) H H' M') : Sep S0 H0 H' (M' ++ dropN n L) := by
  rw [← take_drop n L] at h
  exact h.call c
theorem tl (h : Sep S0 H0 H L) (n : Nat) : Sep S0 H0 H (dropN n L) := by
  rw [← take_drop n L] at h
  have hn := h.nd
  rw [owns_app] at hn
  exact h.perm (oks_app.mp h.ok).2 (nd_app.mp hn).2.1 fun b m => by rw [owns_app]; exact List.mem_append_right _ m
theorem clsN (h : Sep S0 H0 H L) (n : Nat) : Sep S0 H0 H (aG (takeN n L) :: dropN n L) := by
  rw [← take_drop n L] at h
  exact h.cls
theorem lst (h : Sep S0 H0 H L) (i : Nat) {α : Type} [Imm α] {p : Addr} {xs : List α} (e : nth L i = some (aL p xs)) : ∃ vs, H p = some (.lst vs) ∧ Imms H vs xs := h.get i e
theorem tup (h : Sep S0 H0 H L) (i : Nat) {p : Addr} {vs : List V} (e : nth L i = some (aT p vs)) : H p = some (.tup vs) := h.get i e
theorem cel (h : Sep S0 H0 H L) (i : Nat) {p : Addr} {o : HO} (e : nth L i = some (aC p o)) : H p = some o := h.get i e
theorem val (h : Sep S0 H0 H L) (i : Nat) {α : Type} [Imm α] {v : V} {x : α} (e : nth L i = some (aV v x)) : Imm.at_ H v x := h.get i e
theorem scs (h : Sep S0 H0 H L) (i : Nat) {α : Type} [Sc α] {p : Addr} {xs : List α} (e : nth L i = some (aL p xs)) : H p = some (.lst (xs.map Sc.v)) := by
  obtain ⟨vs, h1, h2⟩ := h.lst i e
  rw [← Imms.sc h2]; exact h1
theorem putL (h : Sep S0 H0 H L) (i : Nat) {α : Type} [Imm α] {p : Addr} {xs ys : List α} (e : nth L i = some (aL p xs)) {vs ws : List V} (hl : H p = some (.lst vs)) (hv : Imms H ws ys) : Sep S0 H0 (upd H p (.lst ws)) (setN L i [aL p ys]) :=
  have k : Kp [p] [p] H (upd H p (.lst ws)) := Kp.upd hl trivial (List.mem_singleton.mpr rfl)
  h.put i e (aL p ys) k ⟨_, upd_same, hv.mono k.tups⟩
theorem newL (h : Sep S0 H0 H L) {α : Type} [Imm α] {p : Addr} (np : H p = none) {ys : List α} {ws : List V} (hv : Imms H ws ys) : Sep S0 H0 (upd H p (.lst ws)) (aL p ys :: L) :=
  h.new np (aL p ys) rfl ⟨_, upd_same, hv.mono (Kp.new (S := []) np).tups⟩
theorem newTup (h : Sep S0 H0 H L) {p : Addr} (np : H p = none) (vs : List V) : Sep S0 H0 (upd H p (.tup vs)) (aT p vs :: L) :=
  (h.newT np).add0 (aT p vs) rfl upd_same
theorem newC (h : Sep S0 H0 H L) {p : Addr} (np : H p = none) (o : HO) : Sep S0 H0 (upd H p o) (aC p o :: L) := h.new np (aC p o) rfl upd_same
theorem putC (h : Sep S0 H0 H L) (i : Nat) {p : Addr} {o : HO} (e : nth L i = some (aC p o)) (n : notTup o) (o' : HO) : Sep S0 H0 (upd H p o') (setN L i [aC p o']) :=
  h.put i e (aC p o') (Kp.upd (S := [p]) (h.cel i e) n (List.mem_singleton.mpr rfl)) upd_same
/-- the values of a list told, while it is walked -/
theorem fix (h : Sep S0 H0 H L) (i : Nat) {α : Type} [Imm α] {p : Addr} {xs : List α} (e : nth L i = some (aL p xs)) : ∃ vs, vs.length = xs.length ∧ Sep S0 H0 H (setN L i [aW p vs xs]) := by
  obtain ⟨vs, h1, h2⟩ := h.lst i e
  exact ⟨vs, h2.length, h.put i e (aW p vs xs) (Kp.refl _ _) ⟨h1, h2⟩⟩
theorem unfix (h : Sep S0 H0 H L) (i : Nat) {α : Type} [Imm α] {p : Addr} {vs : List V} {xs : List α} (e : nth L i = some (aW p vs xs)) : Sep S0 H0 H (setN L i [aL p xs]) := by
  obtain ⟨h1, h2⟩ := h.get i e
  exact h.put i e (aL p xs) (Kp.refl _ _) ⟨_, h1, h2⟩
theorem wal (h : Sep S0 H0 H L) (i : Nat) {α : Type} [Imm α] {p : Addr} {vs : List V} {xs : List α} (e : nth L i = some (aW p vs xs)) : H p = some (.lst vs) ∧ Imms H vs xs := h.get i e
theorem addV (h : Sep S0 H0 H L) {α : Type} [Imm α] {v : V} {x : α} (a : Imm.at_ H v x) : Sep S0 H0 H (aV v x :: L) := h.add0 (aV v x) rfl a
theorem addT (h : Sep S0 H0 H L) {p : Addr} {vs : List V} (a : H p = some (.tup vs)) : Sep S0 H0 H (aT p vs :: L) := h.add0 (aT p vs) rfl a
theorem pre {L : List As} (c : oks H L ∧ (owns L).Nodup) : Sep (owns L) H H L := ⟨c.1, c.2, Kp.refl _ _⟩
end Sep
theorem imI {H : Hp} {x : Int} : Imm.at_ H (.int x) x := rfl
theorem imB {H : Hp} {x : Bool} : Imm.at_ H (.bl x) x := rfl
theorem imS {H : Hp} {x : Str} : Imm.at_ H (.str x) x := rfl
theorem imU {H : Hp} : Imm.at_ H .non () := rfl
theorem imN {α : Type} [Imm α] {H : Hp} : Imm.at_ H .non (none : Option α) := rfl
theorem imO {α : Type} [Imm α] {H : Hp} {v : V} {x : α} (h : Imm.at_ H v x) : Imm.at_ H v (some x) := h
theorem im2 {α β : Type} [Imm α] [Imm β] {H : Hp} {p : Addr} {u w : V} {x : α} {y : β} (h : H p = some (.tup [u, w])) (a : Imm.at_ H u x) (b : Imm.at_ H w y) : Imm.at_ H (.ref p) (x, y) := ⟨p, u, w, rfl, h, a, b⟩
theorem im3 {α β γ : Type} [Imm α] [Imm β] [Imm γ] {H : Hp} {p : Addr} {u w z : V} {x : α} {y : β} {t : γ} (h : H p = some (.tup [u, w, z])) (a : Imm.at_ H u x) (b : Imm.at_ H w y) (c : Imm.at_ H z t) : Imm.at_ H (.ref p) (T3.mk x y t) := ⟨p, u, w, z, rfl, h, a, b, c⟩
theorem Imms.nthv {α : Type} [Imm α] {H : Hp} : ∀ {vs : List V} {xs : List α} {i : Nat} {v : V}, Imms H vs xs → vs[i]? = some v → ∃ x, xs[i]? = some x ∧ Imm.at_ H v x
  | _, _, _, _, .nil, e => by simp at e
  | _, _, 0, _, .cons h _, e => by simp at e; subst e; exact ⟨_, rfl, h⟩
  | _, _, i + 1, _, .cons _ r, e => by
    obtain ⟨v, h1, h2⟩ := Imms.nthv (i := i) r (by simpa using e)
    exact ⟨v, by simpa using h1, h2⟩
/-! ### the mirrors' words -/
theorem bnd {α β : Type} {o : Option α} {f : α → Option β} {r : β} (h : o.bind f = some r) : ∃ x, o = some x ∧ f x = some r := by
  cases o with
  | none => cases h
  | some x => exact ⟨x, rfl, h⟩
theorem ift {α : Type} {c : Prop} [Decidable c] {a b r : α} (h : c) (e : (if c then a else b) = r) : a = r := by rw [if_pos h] at e; exact e
theorem ife {α : Type} {c : Prop} [Decidable c] {a b r : α} (h : ¬ c) (e : (if c then a else b) = r) : b = r := by rw [if_neg h] at e; exact e
theorem gd {α : Type} {c : Prop} [Decidable c] {o : Option α} {r : α} (e : (if c then o else none) = some r) : c ∧ o = some r := by
  by_cases h : c
  · rw [if_pos h] at e; exact ⟨h, e⟩
  · rw [if_neg h] at e; cases e
abbrev big : Nat := 16000000
def snoc {α : Type} (xs : List α) (x : α) : Option (List α) := if xs.length < big then some (xs ++ [x]) else none
def catL {α : Type} (xs ys : List α) : Option (List α) := if xs.length + ys.length < big then some (xs ++ ys) else none
def repL {α : Type} (xs : List α) (n : Int) : Option (List α) := if -(2 ^ 63) ≤ n ∧ n < 2 ^ 63 ∧ xs.length * n.toNat < big then some ((List.replicate n.toNat xs).flatten) else none
def forS {α σ : Type} (f : α → σ → Option σ) : List α → σ → Option σ
  | [], s => some s
  | x :: r, s => (f x s).bind (forS f r)
inductive Ctl (ρ σ : Type) where
  | nx (s : σ)
  | bk (s : σ)
  | rt (r : ρ)
def forC {α σ ρ : Type} (f : α → σ → Option (Ctl ρ σ)) : List α → σ → Option (Ctl ρ σ)
  | [], s => some (.nx s)
  | x :: r, s => (f x s).bind fun c => match c with
    | .nx s' => forC f r s'
    | .bk s' => some (.bk s')
    | .rt r => some (.rt r)
def rangeL (lo : Int) (n : Nat) : List Int := (List.range n).map fun (k : Nat) => lo + (k : Int)
theorem drop_s {α : Type} : ∀ {xs : List α} {i : Nat} {x : α}, xs[i]? = some x → xs.drop i = x :: xs.drop (i + 1)
  | [], _, _, e => by simp at e
  | y :: r, 0, x, e => by simp at e; rw [e]; rfl
  | y :: r, i + 1, x, e => by
    show r.drop i = x :: r.drop (i + 1)
    exact drop_s (by simpa using e)
theorem forS_s {α σ : Type} {f : α → σ → Option σ} {xs : List α} {i : Nat} {x : α} {s sE : σ} (hx : xs[i]? = some x) (h : forS f (xs.drop i) s = some sE) : ∃ s', f x s = some s' ∧ forS f (xs.drop (i + 1)) s' = some sE := by
  rw [drop_s hx] at h
  exact bnd h
theorem forS_e {α σ : Type} {f : α → σ → Option σ} {xs : List α} {n : Nat} {s sE : σ} (hn : xs.length ≤ n) (h : forS f (xs.drop n) s = some sE) : s = sE := by
  rw [List.drop_of_length_le hn] at h
  exact Option.some.inj h
theorem forC_s {α σ ρ : Type} {f : α → σ → Option (Ctl ρ σ)} {xs : List α} {i : Nat} {x : α} {s : σ} {cE : Ctl ρ σ} (hx : xs[i]? = some x) (h : forC f (xs.drop i) s = some cE) :
    ∃ c, f x s = some c ∧ match c with
      | .nx s' => forC f (xs.drop (i + 1)) s' = some cE
      | .bk s' => cE = .bk s'
      | .rt r => cE = .rt r := by
  rw [drop_s hx] at h
  obtain ⟨c, h1, h2⟩ := bnd h
  refine ⟨c, h1, ?_⟩
  cases c with
  | nx s' => exact h2
  | bk s' => exact (Option.some.inj h2).symm
  | rt r => exact (Option.some.inj h2).symm
theorem forC_e {α σ ρ : Type} {f : α → σ → Option (Ctl ρ σ)} {xs : List α} {n : Nat} {s : σ} {cE : Ctl ρ σ} (hn : xs.length ≤ n) (h : forC f (xs.drop n) s = some cE) : cE = .nx s := by
  rw [List.drop_of_length_le hn] at h
  exact (Option.some.inj h).symm
theorem range_get {lo : Int} {n i : Nat} (h : i < n) : (rangeL lo n)[i]? = some (lo + (i : Int)) := by
  unfold rangeL
  rw [List.getElem?_map, List.getElem?_range h]; rfl
theorem range_len {lo : Int} {n : Nat} : (rangeL lo n).length = n := by unfold rangeL; rw [List.length_map, List.length_range]
/-! ### tests -/
def EvT (S0 : List Addr) (H0 : Hp) (L : List As) (t : TT) (σ : L2.St) (b : Bool) : Prop := ∀ H, Sep S0 H0 H L → ∀ Q : Bool → Hp → Prop, (∀ H', Sep S0 H0 H' L → Q b H') → t σ H Q
section
variable {S0 : List Addr} {H0 H : Hp} {L : List As} {σ : L2.St} {c t u : TT} {P R : Prop} [Decidable P] [Decidable R]
theorem if_use {c : TT} {t u : TS} {D : Ends} {b : Bool} (hs : Sep S0 H0 H L) (e : EvT S0 H0 L c σ b) (q : ∀ H', Sep S0 H0 H' L → if b = true then t D σ H' else u D σ H') : tIfS c t u D σ H := e H hs _ q
theorem ev_and (a : EvT S0 H0 L t σ (decide P)) (b : P → EvT S0 H0 L u σ (decide R)) : EvT S0 H0 L (tAnd t u) σ (decide (P ∧ R)) := fun H hs Q q => a H hs _ fun H1 h1 => by
  by_cases h : P
  · rw [decide_eq_true h, if_pos rfl]
    refine b h H1 h1 Q fun H2 h2 => ?_
    have z := q H2 h2
    rw [show decide (P ∧ R) = decide R from decide_eq_decide.mpr ⟨fun x => x.2, fun x => ⟨h, x⟩⟩] at z
    exact z
  · rw [decide_eq_false h, if_neg Bool.false_ne_true]
    have z := q H1 h1
    rw [decide_eq_false (fun x : P ∧ R => h x.1)] at z
    exact z
theorem ev_or (a : EvT S0 H0 L t σ (decide P)) (b : ¬ P → EvT S0 H0 L u σ (decide R)) : EvT S0 H0 L (tOr t u) σ (decide (P ∨ R)) := fun H hs Q q => a H hs _ fun H1 h1 => by
  by_cases h : P
  · rw [decide_eq_true h, if_pos rfl]
    have z := q H1 h1
    rw [decide_eq_true (show P ∨ R from .inl h)] at z
    exact z
  · rw [decide_eq_false h, if_neg Bool.false_ne_true]
    refine b h H1 h1 Q fun H2 h2 => ?_
    have z := q H2 h2
    rw [show decide (P ∨ R) = decide R from decide_eq_decide.mpr ⟨fun x => x.resolve_left h, .inr⟩] at z
    exact z
theorem ev_not (a : EvT S0 H0 L t σ (decide P)) : EvT S0 H0 L (tNot t) σ (decide (¬ P)) := fun H hs Q q => a H hs _ fun H1 h1 => by
  have z := q H1 h1
  rw [decide_not] at z
  exact z
end
theorem dI {a b : Int} : V.bl (decide (V.int a = V.int b)) = V.bl (decide (a = b)) := congrArg V.bl (decide_eq_decide.mpr ⟨V.int.inj, congrArg V.int⟩)
theorem dnI {a b : Int} : V.bl (!decide (V.int a = V.int b)) = V.bl (decide (¬ a = b)) := congrArg V.bl (by rw [decide_not, decide_eq_decide.mpr ⟨V.int.inj, congrArg V.int⟩])
theorem dS {a b : Str} : V.bl (decide (V.str a = V.str b)) = V.bl (decide (a = b)) := congrArg V.bl (decide_eq_decide.mpr ⟨V.str.inj, congrArg V.str⟩)
theorem dnS {a b : Str} : V.bl (!decide (V.str a = V.str b)) = V.bl (decide (¬ a = b)) := congrArg V.bl (by rw [decide_not, decide_eq_decide.mpr ⟨V.str.inj, congrArg V.str⟩])
theorem dBb {a b : Bool} : V.bl (decide (V.bl a = V.bl b)) = V.bl (decide (a = b)) := congrArg V.bl (decide_eq_decide.mpr ⟨V.bl.inj, congrArg V.bl⟩)
theorem dnBb {a b : Bool} : V.bl (!decide (V.bl a = V.bl b)) = V.bl (decide (¬ a = b)) := congrArg V.bl (by rw [decide_not, decide_eq_decide.mpr ⟨V.bl.inj, congrArg V.bl⟩])
theorem dB {b : Bool} : V.bl b = V.bl (decide (b = true)) := by cases b <;> rfl
theorem dN {P : Prop} [Decidable P] : V.bl (!decide P) = V.bl (decide (¬ P)) := by rw [decide_not]
theorem dOpt {α : Type} [Imm α] {H : Hp} {v : V} {x : Option α} (hnn : ∀ y : α, ¬ Imm.at_ H .non y) (h : Imm.at_ H v x) : V.bl (decide (v = .non)) = V.bl (decide (x = none)) := by
  cases x with
  | none => rw [show v = .non from h]; simp
  | some y =>
    refine congrArg V.bl (decide_eq_decide.mpr ⟨fun e => ?_, fun e => by cases e⟩)
    subst e; exact (hnn y h).elim
/-! ### the words' meaning -/
theorem Sep.tk {S0 : List Addr} {H0 H : Hp} {L : List As} (h : Sep S0 H0 H L) (n : Nat) : Sep S0 H0 H (takeN n L) := by
  rw [← take_drop n L] at h
  have hn := h.nd
  rw [owns_app] at hn
  exact h.perm (oks_app.mp h.ok).1 (nd_app.mp hn).1 fun b m => by rw [owns_app]; exact List.mem_append_left _ m
def mvsL : List Nat → List As → Option (List As)
  | [], L => some L
  | i :: r, L => match nth L i with
    | some A => mvsL r (A :: setN L i [])
    | none => none
theorem Sep.mvs {S0 : List Addr} {H0 H : Hp} : ∀ (is : List Nat) {L L' : List As}, Sep S0 H0 H L → mvsL is L = some L' → Sep S0 H0 H L'
  | [], _, _, h, e => by rw [← Option.some.inj e]; exact h
  | i :: r, L, L', h, e => by
    unfold mvsL at e
    cases en : nth L i with
    | none => rw [en] at e; cases e
    | some A => rw [en] at e; exact Sep.mvs r (h.mv i en) e
/-- entries chosen, in one go -/
theorem Sep.pick {S0 : List Addr} {H0 H : Hp} {L : List As} (h : Sep S0 H0 H L) (is : List Nat) (n : Nat) {L' : List As} (e : (mvsL is L).map (takeN n) = some L') : Sep S0 H0 H L' := by
  cases em : mvsL is L with
  | none => rw [em] at e; cases e
  | some M =>
    rw [em] at e
    rw [← Option.some.inj e]
    exact (h.mvs is em).tk n
theorem snoc_eq {α : Type} {xs ys : List α} {x : α} (h : snoc xs x = some ys) : xs.length < 16000000 ∧ ys = xs ++ [x] := by
  unfold snoc at h
  obtain ⟨g, e⟩ := gd h
  exact ⟨g, (Option.some.inj e).symm⟩
theorem catL_eq {α : Type} {xs ys zs : List α} (h : catL xs ys = some zs) : xs.length + ys.length < 16000000 ∧ zs = xs ++ ys := by
  unfold catL at h
  obtain ⟨g, e⟩ := gd h
  exact ⟨g, (Option.some.inj e).symm⟩
theorem repL_eq {α : Type} {xs zs : List α} {n : Int} (h : repL xs n = some zs) : (-(2 ^ 63) ≤ n ∧ n < 2 ^ 63 ∧ xs.length * n.toNat < 16000000) ∧ zs = (List.replicate n.toNat xs).flatten := by
  unfold repL at h
  obtain ⟨g, e⟩ := gd h
  exact ⟨g, (Option.some.inj e).symm⟩
def setX {α : Type} (xs : List α) (i : Int) (v : α) : Option (List α) := (ixN xs.length i).bind fun j => some (xs.set j v)
theorem setX_ix {α : Type} {xs ys : List α} {i : Int} {v : α} {n : Nat} (hn : n = xs.length) (h : setX xs i v = some ys) : ∃ j, ixN n i = some j ∧ ys = xs.set j v := by
  subst hn
  obtain ⟨j, h1, h2⟩ := bnd h
  exact ⟨j, h1, (Option.some.inj h2).symm⟩
def cutX {α : Type} (xs : List α) (lo hi : Option Int) : List α := (xs.drop (HT.sIx xs.length 0 lo)).take (HT.sIx xs.length xs.length hi - HT.sIx xs.length 0 lo)
section
variable {α : Type} [Imm α] {H : Hp}
theorem Imms.cut {vs : List V} {xs : List α} (h : Imms H vs xs) (lo hi : Option Int) : Imms H (cutV vs lo hi) (cutX xs lo hi) := by
  unfold cutV cutX
  rw [h.length]
  exact (h.drop _).take _
theorem Imms.rep {vs : List V} {xs : List α} (h : Imms H vs xs) : ∀ n : Nat, Imms H (List.replicate n vs).flatten (List.replicate n xs).flatten
  | 0 => .nil
  | n + 1 => by
    rw [List.replicate_succ, List.replicate_succ, List.flatten_cons, List.flatten_cons]
    exact h.app (h.rep n)
end
theorem iteNot {A B : Prop} {p : Prop} [Decidable p] (h1 : p → B) (h2 : ¬ p → A) : if (!decide p) = true then A else B := iteN h2 h1
instance : Decidable (CMul i j) := by unfold CMul; infer_instance
theorem tups_of {H : Hp} : ∀ {ls : List V} {l : List (Int × Int)}, Imms H ls l → Tups H ls (sentT l)
  | _, _, .nil => .nil
  | _, _, .cons ⟨p, u, w, e, h, h1, h2⟩ r => .cons ⟨p, e, by rw [h, show u = _ from h1, show w = _ from h2]⟩ (tups_of r)
theorem tups_nil {α : Type} [Imm α] {H : Hp} {ls : List V} (h : Imms H ls ([] : List α)) : Tups H ls (sentT []) := by
  cases h; exact .nil
theorem stop_dec {H : Hp} {v : V} {o : Option (List V)} (h : StopV H v o) : V.bl (decide (v = .non)) = V.bl (decide (o = none)) := by
  cases o with
  | none => rw [show v = .non from h]; rfl
  | some xs =>
    obtain ⟨t, e, _⟩ := h
    rw [e]; rfl
theorem stop_decN {H : Hp} {v : V} {o : Option (List V)} (h : StopV H v o) : V.bl (!decide (v = .non)) = V.bl (decide (o ≠ none)) := by
  have := V.bl.inj (stop_dec h)
  rw [this, decide_not]
theorem opt_dec {H : Hp} {v : V} {o : Option Int} (h : Imm.at_ H v o) : V.bl (decide (v = .non)) = V.bl (decide (o = none)) := by
  cases o with
  | none => rw [show v = .non from h]; rfl
  | some x => rw [show v = .int x from h]; rfl
theorem opt_decN {H : Hp} {v : V} {o : Option Int} (h : Imm.at_ H v o) : V.bl (!decide (v = .non)) = V.bl (decide (o ≠ none)) := by
  have := V.bl.inj (opt_dec h)
  rw [this, decide_not]
theorem dnX {P : Prop} [Decidable P] : V.bl (!decide P) = V.bl (decide (¬ P)) := by rw [decide_not]
theorem im_optV {H : Hp} (o : Option Int) : Imm.at_ H (optV o) o := by cases o <;> rfl
/-! a dict of ints to ints -/
def lookI (l : List (Int × Int)) (k : Int) : Option Int := (l.find? fun p => decide (p.1 = k)).map (·.2)
def putI (l : List (Int × Int)) (k v : Int) : List (Int × Int) :=
  if (l.any fun p => decide (p.1 = k)) = true then l.map (fun p => if p.1 = k then (k, v) else p) else l ++ [(k, v)]
theorem lineK_len (l : List (Int × Int)) : (lineK l).length = l.length := by unfold lineK; rw [List.length_map]
theorem valV_lineK : ∀ (l : List (Int × Int)) (k : Int), valV (lineK l) (Sum.inl k : Key) = (lookI l k).map V.int
  | [], _ => rfl
  | (x, y) :: r, k => by
    by_cases e : x = k
    · have h1 : valV (lineK ((x, y) :: r)) (Sum.inl k : Key) = some (.int y) := valV_pos (p := ((Sum.inl x : Key), V.int y)) (by rw [e])
      rw [h1]; unfold lookI
      rw [List.find?_cons_of_pos (by simp [e])]; rfl
    · have h1 : valV (lineK ((x, y) :: r)) (Sum.inl k : Key) = valV (lineK r) (Sum.inl k : Key) := valV_neg (p := ((Sum.inl x : Key), V.int y)) (fun z => e (Sum.inl.inj z))
      rw [h1, valV_lineK r k]
      unfold lookI
      rw [List.find?_cons_of_neg (by simp [e])]
theorem lookI_valV {l : List (Int × Int)} {k v : Int} (h : lookI l k = some v) : valV (lineK l) (Sum.inl k : Key) = some (.int v) := by rw [valV_lineK, h]; rfl
/-! ### in, == -/
theorem eqV_int {a b : Int} : eqV (.int a) (.int b) = decide (a = b) := by unfold eqV; rfl
theorem inV_ints (x : Int) : ∀ xs : List Int, inV (.int x) (xs.map V.int) = decide (x ∈ xs)
  | [] => rfl
  | y :: r => by
    show (eqV (.int y) (.int x) || inV (.int x) (r.map V.int)) = _
    rw [inV_ints x r, eqV_int, ← Bool.decide_or]
    exact decide_eq_decide.mpr ⟨fun h => by rcases h with h | h; exact List.mem_cons.mpr (.inl h.symm); exact List.mem_cons_of_mem _ h, fun h => by rcases List.mem_cons.mp h with h | h; exact .inl h.symm; exact .inr h⟩
theorem in_int {x : Int} {xs : List Int} : V.bl (if false = true then !inV (.int x) (xs.map Sc.v) else inV (.int x) (xs.map Sc.v)) = V.bl (decide (x ∈ xs)) := by
  rw [if_neg Bool.false_ne_true]; exact congrArg V.bl (inV_ints x xs)
theorem inN_int {x : Int} {xs : List Int} : V.bl (if true = true then !inV (.int x) (xs.map Sc.v) else inV (.int x) (xs.map Sc.v)) = V.bl (decide (x ∉ xs)) := by
  rw [if_pos rfl, decide_not]; exact congrArg (fun b => V.bl (!b)) (inV_ints x xs)
theorem flat_int (xs : List Int) : (xs.map Sc.v).all flatV = true := by
  rw [List.all_eq_true]; intro v hv
  obtain ⟨x, _, rfl⟩ := List.mem_map.mp hv
  rfl
theorem eqv_dec {d e : PyData} {P : Prop} [Decidable P] (h : PyData.eqv d e = decide P) : V.bl (PyData.eqv d e) = V.bl (decide P) := congrArg V.bl h
theorem eqv_decN {d e : PyData} {P : Prop} [Decidable P] (h : PyData.eqv d e = decide P) : V.bl (!PyData.eqv d e) = V.bl (decide (¬ (P))) := by rw [h, decide_not]
theorem eqv_i (a b : Int) : PyData.eqv (.int a) (.int b) = decide (a = b) := by simp only [PyData.eqv]; rfl
theorem eqv_b (a b : Bool) : PyData.eqv (.bool a) (.bool b) = decide (a = b) := by cases a <;> cases b <;> simp [PyData.eqv]
theorem eqv_s (a b : Str) : PyData.eqv (.str a) (.str b) = decide (a = b) := by simp only [PyData.eqv]; by_cases h : a = b <;> simp [h]
theorem eqvN : PyData.eqvAll [] [] = decide True := by simp [PyData.eqvAll]
theorem eqvC {x y : PyData} {xs ys : List PyData} {P R : Prop} [Decidable P] [Decidable R] (h : PyData.eqv x y = decide P) (t : PyData.eqvAll xs ys = decide R) : PyData.eqvAll (x :: xs) (y :: ys) = decide (P ∧ R) := by
  simp only [PyData.eqvAll, h, t, Bool.decide_and]
theorem eqvL {xs ys : List PyData} {P : Prop} [Decidable P] (t : PyData.eqvAll xs ys = decide P) : PyData.eqv (.list xs) (.list ys) = decide P := by rw [PyData.eqv]; exact t
theorem eqvT {xs ys : List PyData} {P : Prop} [Decidable P] (t : PyData.eqvAll xs ys = decide P) : PyData.eqv (.tuple xs) (.tuple ys) = decide P := by rw [PyData.eqv]; exact t
def optD' : Option Int → PyData
  | none => .none
  | some n => .int n
theorem eqv_o (a b : Option Int) : PyData.eqv (optD' a) (optD' b) = decide (a = b) := by
  cases a <;> cases b <;> simp only [PyData.eqv, optD'] <;> first | rfl | (rename_i x y; by_cases h : x = y <;> simp [h]) | simp
theorem dp_opt' {K : PySem.W.Frag} {H : Hp} {v : V} {o : Option Int} (h : Imm.at_ H v o) : Dp K H v (optD' o) := by
  cases o with
  | none => rw [show v = .non from h]; exact .non
  | some n => rw [show v = .int n from h]; exact .int n
theorem dpOptsL {K : PySem.W.Frag} {H : Hp} : ∀ {vs : List V} {xs : List (Option Int)}, Imms H vs xs → DpAll K H vs (xs.map optD')
  | _, _, .nil => .nil
  | _, _, .cons h r => .cons (dp_opt' h) (dpOptsL r)
theorem dpOpts {K : PySem.W.Frag} {H : Hp} {p : Addr} {xs : List (Option Int)} (h : ∃ vs, H p = some (.lst vs) ∧ Imms H vs xs) : Dp K H (.ref p) (.list (xs.map optD')) := by
  obtain ⟨vs, h1, h2⟩ := h
  exact .lst (SqL.of h1) (dpOptsL h2)
theorem shp_opts (xs : List (Option Int)) : SeqAt.shaped (.list (xs.map optD')) = true := by
  have e : ∀ d ∈ xs.map optD', d.canLay0 = true ∧ d.depth ≤ 0 := fun d hd => by
    obtain ⟨v, hv, rfl⟩ := List.mem_map.mp hd
    cases v <;> exact ⟨by simp only [optD', PyData.canLay0], by simp only [optD', PyData.depth]; exact Nat.le_refl _⟩
  refine shp (by simp only [PyData.canLay0]; exact lay_all fun d hd => (e d hd).1) ?_
  simp only [PyData.depth]
  have := depth_all (ds := xs.map optD') (n := 0) fun d hd => (e d hd).2
  omega
theorem eqv_osA : ∀ xs ys : List (Option Int), PyData.eqvAll (xs.map optD') (ys.map optD') = decide (xs = ys)
  | [], [] => by simp [PyData.eqvAll]
  | [], _ :: _ => by simp [PyData.eqvAll]
  | _ :: _, [] => by simp [PyData.eqvAll]
  | x :: r, y :: q => by
    simp only [List.map_cons, PyData.eqvAll, eqv_o, eqv_osA r q]
    by_cases h : x = y <;> by_cases h2 : r = q <;> simp [h, h2]
theorem eqv_os (xs ys : List (Option Int)) : PyData.eqv (.list (xs.map optD')) (.list (ys.map optD')) = decide (xs = ys) := by
  rw [PyData.eqv]; exact eqv_osA xs ys
theorem Sep.cast {S0 : List Addr} {H0 Ha Hb : Hp} {L : List As} (h : Sep S0 H0 Ha L) (e : Ha = Hb) : Sep S0 H0 Hb L := e ▸ h
/-! ### True and False as values; with what may be out of bounds -/
def EvB (S0 : List Addr) (H0 : Hp) (L : List As) (t : TE) (σ : L2.St) (b : Bool) : Prop := ∀ H, Sep S0 H0 H L → ∀ Q : VK, (∀ H', Sep S0 H0 H' L → Q (.bl b) H') → t σ H Q
section
variable {S0 : List Addr} {H0 H : Hp} {L : List As} {σ : L2.St} {b : Bool}
theorem andV_use {ta tb : TE} {Q : VK} (hs : Sep S0 H0 H L) (e : EvB S0 H0 L (tAndV ta tb) σ b) (q : ∀ H', Sep S0 H0 H' L → Q (.bl b) H') : tAndV ta tb σ H Q := e H hs Q q
theorem orV_use {ta tb : TE} {Q : VK} (hs : Sep S0 H0 H L) (e : EvB S0 H0 L (tOrV ta tb) σ b) (q : ∀ H', Sep S0 H0 H' L → Q (.bl b) H') : tOrV ta tb σ H Q := e H hs Q q
theorem notV_use {ta : TE} {Q : VK} (hs : Sep S0 H0 H L) (e : EvB S0 H0 L (tNotV ta) σ b) (q : ∀ H', Sep S0 H0 H' L → Q (.bl b) H') : tNotV ta σ H Q := e H hs Q q
def andO (o u : Option Bool) : Option Bool := o.bind fun x => if x = true then u else some false
def orO (o u : Option Bool) : Option Bool := o.bind fun x => if x = true then some true else u
def notO (o : Option Bool) : Option Bool := o.bind fun x => some (!x)
theorem evB_and {ta tb : TE} {o u : Option Bool} (hb : andO o u = some b) (a : ∀ b1, o = some b1 → EvB S0 H0 L ta σ b1) (c : ∀ b1, u = some b1 → EvB S0 H0 L tb σ b1) : EvB S0 H0 L (tAndV ta tb) σ b := fun H hs Q q => by
  obtain ⟨x, h1, h2⟩ := bnd hb
  refine a x h1 H hs _ fun H1 hs1 => ⟨x, rfl, ?_⟩
  cases x with
  | true => rw [if_pos rfl] at h2 ⊢; exact c b h2 H1 hs1 Q q
  | false => rw [if_neg Bool.false_ne_true] at h2 ⊢; rw [Option.some.inj h2]; exact q H1 hs1
theorem evB_or {ta tb : TE} {o u : Option Bool} (hb : orO o u = some b) (a : ∀ b1, o = some b1 → EvB S0 H0 L ta σ b1) (c : ∀ b1, u = some b1 → EvB S0 H0 L tb σ b1) : EvB S0 H0 L (tOrV ta tb) σ b := fun H hs Q q => by
  obtain ⟨x, h1, h2⟩ := bnd hb
  refine a x h1 H hs _ fun H1 hs1 => ⟨x, rfl, ?_⟩
  cases x with
  | true => rw [if_pos rfl] at h2 ⊢; rw [Option.some.inj h2]; exact q H1 hs1
  | false => rw [if_neg Bool.false_ne_true] at h2 ⊢; exact c b h2 H1 hs1 Q q
theorem evB_not {ta : TE} {o : Option Bool} (hb : notO o = some b) (a : ∀ b1, o = some b1 → EvB S0 H0 L ta σ b1) : EvB S0 H0 L (tNotV ta) σ b := fun H hs Q q => by
  obtain ⟨x, h1, h2⟩ := bnd hb
  refine a x h1 H hs _ fun H1 hs1 => ⟨x, rfl, ?_⟩
  rw [Option.some.inj h2]; exact q H1 hs1
theorem evT_and {ta tb : TT} {o u : Option Bool} (hb : andO o u = some b) (a : ∀ b1, o = some b1 → EvT S0 H0 L ta σ b1) (c : ∀ b1, u = some b1 → EvT S0 H0 L tb σ b1) : EvT S0 H0 L (tAnd ta tb) σ b := fun H hs Q q => by
  obtain ⟨x, h1, h2⟩ := bnd hb
  refine a x h1 H hs _ fun H1 hs1 => ?_
  cases x with
  | true => rw [if_pos rfl] at h2 ⊢; exact c b h2 H1 hs1 Q q
  | false => rw [if_neg Bool.false_ne_true] at h2 ⊢; rw [Option.some.inj h2]; exact q H1 hs1
theorem evT_or {ta tb : TT} {o u : Option Bool} (hb : orO o u = some b) (a : ∀ b1, o = some b1 → EvT S0 H0 L ta σ b1) (c : ∀ b1, u = some b1 → EvT S0 H0 L tb σ b1) : EvT S0 H0 L (tOr ta tb) σ b := fun H hs Q q => by
  obtain ⟨x, h1, h2⟩ := bnd hb
  refine a x h1 H hs _ fun H1 hs1 => ?_
  cases x with
  | true => rw [if_pos rfl] at h2 ⊢; rw [Option.some.inj h2]; exact q H1 hs1
  | false => rw [if_neg Bool.false_ne_true] at h2 ⊢; exact c b h2 H1 hs1 Q q
theorem evT_not {ta : TT} {o : Option Bool} (hb : notO o = some b) (a : ∀ b1, o = some b1 → EvT S0 H0 L ta σ b1) : EvT S0 H0 L (tNot ta) σ b := fun H hs Q q => by
  obtain ⟨x, h1, h2⟩ := bnd hb
  refine a x h1 H hs _ fun H1 hs1 => ?_
  rw [Option.some.inj h2]; exact q H1 hs1
end
def thenC {ρ σ τ : Type} (o : Option (Ctl ρ σ)) (fr : ρ → Option τ) (k : σ → Option τ) : Option τ := o.bind fun c => match c with
  | .nx s => k s
  | .bk s => k s
  | .rt r => fr r
theorem thenC_eq {ρ σ τ : Type} {o : Option (Ctl ρ σ)} {fr : ρ → Option τ} {k : σ → Option τ} {x : τ} (h : thenC o fr k = some x) : ∃ c, o = some c ∧ (match c with
  | .nx s => k s
  | .bk s => k s
  | .rt r => fr r) = some x := bnd h
theorem thenC_exit {ρ σ τ : Type} {c : Ctl ρ σ} {fr : ρ → Option τ} {k : σ → Option τ} {x : τ} {s : σ} (h : (match c with
  | .nx s => k s
  | .bk s => k s
  | .rt r => fr r) = some x) (z : c = .nx s ∨ c = .bk s) : k s = some x := by
  rcases z with rfl | rfl <;> exact h
theorem bl_use {P : Prop} {Q : VK} {H : Hp} {v : V} {b : Bool} (e : v = .bl b) (h : Q (.bl b) H) : Q v H := by rw [e]; exact h
theorem dbt {b : Bool} {P : Prop} [Decidable P] (h : some (decide P) = some b) : V.bl (decide P) = V.bl b := congrArg V.bl (Option.some.inj h)
theorem iteBt {A B : Prop} {b : Bool} (h1 : b = true → A) (h2 : ¬ b = true → B) : if b = true then A else B := ite2 h1 h2
/-! ### loops, with what follows as it stands -/
theorem for_listN {K : PySem.W.Frag} {a : Addr} {xs : List V} {g : TG} {tb : TS} {nx : L2.St → Hp → Prop} {rt : VK} {σ : L2.St} {H : Hp} (Pv : Nat → L2.St → Hp → Prop) (h0 : Pv 0 σ H) (hl : ∀ i σ H, i ≤ xs.length → Pv i σ H → SqL K H a xs)
    (hs : ∀ i x σ H, xs[i]? = some x → Pv i σ H → g x σ H fun σ2 H2 => tb { nx := Pv (i + 1), rt := rt, bk := nx, ct := Pv (i + 1) } σ2 H2) (hd : ∀ σ H, Pv xs.length σ H → nx σ H) :
    ∃ W : Nat → Nat → L2.St → Hp → Prop, (∃ m, W 0 m σ H) ∧ ∀ i m σ H, W i m σ H →
      ((Itl K a).stop i H ∧ nx σ H) ∨ ((Itl K a).go i H ∧ ∃ N : L2.St → Hp → Prop, (∀ σ' H', N σ' H' → ∃ m', m' < m ∧ W (i + 1) m' σ' H') ∧ ∀ x H', (Itl K a).yld i H x H' → g x σ H' fun σ2 H2 => tb { nx := N, rt := rt, bk := nx, ct := N } σ2 H2) :=
  for_list (D := { nx := nx, rt := rt, bk := nx, ct := nx }) Pv h0 hl hs hd
theorem for_rangeN {lo : Int} {n : Nat} {g : TG} {tb : TS} {nx : L2.St → Hp → Prop} {rt : VK} {σ : L2.St} {H : Hp} (Pv : Nat → L2.St → Hp → Prop) (h0 : Pv 0 σ H)
    (hs : ∀ i σ H, i < n → Pv i σ H → g (.int (lo + i)) σ H fun σ2 H2 => tb { nx := Pv (i + 1), rt := rt, bk := nx, ct := Pv (i + 1) } σ2 H2) (hd : ∀ σ H, Pv n σ H → nx σ H) :
    ∃ W : Nat → Nat → L2.St → Hp → Prop, (∃ m, W 0 m σ H) ∧ ∀ i m σ H, W i m σ H →
      ((Itr lo n).stop i H ∧ nx σ H) ∨ ((Itr lo n).go i H ∧ ∃ N : L2.St → Hp → Prop, (∀ σ' H', N σ' H' → ∃ m', m' < m ∧ W (i + 1) m' σ' H') ∧ ∀ x H', (Itr lo n).yld i H x H' → g x σ H' fun σ2 H2 => tb { nx := N, rt := rt, bk := nx, ct := N } σ2 H2) :=
  for_range (D := { nx := nx, rt := rt, bk := nx, ct := nx }) Pv h0 hs hd
/-- with breaks: what comes behind is told ahead -/
theorem for_rangeB {lo : Int} {n : Nat} {g : TG} {tb : TS} {nx : L2.St → Hp → Prop} {rt : VK} {σ : L2.St} {H : Hp} (Pv : Nat → L2.St → Hp → Prop) (B : L2.St → Hp → Prop) (h0 : Pv 0 σ H)
    (hs : (∀ σ H, B σ H → nx σ H) → ∀ i σ H, i < n → Pv i σ H → g (.int (lo + i)) σ H fun σ2 H2 => tb { nx := Pv (i + 1), rt := rt, bk := nx, ct := Pv (i + 1) } σ2 H2) (hd : ∀ σ H, Pv n σ H → B σ H) (hb : ∀ σ H, B σ H → nx σ H) :
    ∃ W : Nat → Nat → L2.St → Hp → Prop, (∃ m, W 0 m σ H) ∧ ∀ i m σ H, W i m σ H →
      ((Itr lo n).stop i H ∧ nx σ H) ∨ ((Itr lo n).go i H ∧ ∃ N : L2.St → Hp → Prop, (∀ σ' H', N σ' H' → ∃ m', m' < m ∧ W (i + 1) m' σ' H') ∧ ∀ x H', (Itr lo n).yld i H x H' → g x σ H' fun σ2 H2 => tb { nx := N, rt := rt, bk := nx, ct := N } σ2 H2) :=
  for_rangeN Pv h0 (hs hb) (fun σ H p => hb σ H (hd σ H p))
/-! ### data that can be laid -/
def okD (k : Nat) (d : PyData) : Prop := d.canLay0 = true ∧ d.depth ≤ k
def okA (k : Nat) (ds : List PyData) : Prop := ∀ d ∈ ds, okD k d
theorem okA_nil {k : Nat} : okA k [] := fun _ h => by cases h
theorem okA_cons {k : Nat} {d : PyData} {ds : List PyData} (h : okD k d) (r : okA k ds) : okA k (d :: ds) := fun e he => by
  rcases List.mem_cons.mp he with z | z
  · rw [z]; exact h
  · exact r e z
theorem ok_i {k : Nat} {n : Int} : okD k (.int n) := ⟨by simp only [PyData.canLay0], by simp only [PyData.depth]; exact Nat.zero_le _⟩
theorem ok_b {k : Nat} {n : Bool} : okD k (.bool n) := ⟨by simp only [PyData.canLay0], by simp only [PyData.depth]; exact Nat.zero_le _⟩
theorem ok_n {k : Nat} : okD k .none := ⟨by simp only [PyData.canLay0], by simp only [PyData.depth]; exact Nat.zero_le _⟩
theorem ok_s {k : Nat} {s : Str} (h : PyData.strOk s = true) : okD k (.str s) := ⟨by simp only [PyData.canLay0]; exact h, by simp only [PyData.depth]; exact Nat.zero_le _⟩
theorem ok_o {k : Nat} {o : Option Int} : okD k (optD' o) := by
  cases o
  · exact ok_n
  · exact ok_i
theorem ok_L {k : Nat} {ds : List PyData} (h : okA k ds) : okD (k + 1) (.list ds) := ⟨by simp only [PyData.canLay0]; exact lay_all fun d hd => (h d hd).1, by
  simp only [PyData.depth]
  have := depth_all fun d hd => (h d hd).2
  omega⟩
theorem ok_T {k : Nat} {ds : List PyData} (h : okA k ds) : okD (k + 1) (.tuple ds) := ⟨by simp only [PyData.canLay0]; exact lay_all fun d hd => (h d hd).1, by
  simp only [PyData.depth]
  have := depth_all fun d hd => (h d hd).2
  omega⟩
theorem okA_map {k : Nat} {α : Type} {f : α → PyData} (h : ∀ x, okD k (f x)) (xs : List α) : okA k (xs.map f) := fun d hd => by
  obtain ⟨x, _, rfl⟩ := List.mem_map.mp hd
  exact h x
theorem shp_of {k : Nat} {d : PyData} (h : okD k d) (hk : k ≤ 64) : SeqAt.shaped d = true := shp h.1 (Nat.le_trans h.2 hk)
/-! ### records -/
/-- entries chosen and closed as one, in one go -/
theorem Sep.cl {S0 : List Addr} {H0 H : Hp} {L : List As} (h : Sep S0 H0 H L) (is : List Nat) (n : Nat) {L' : List As} (e : (mvsL is L).map (fun M => aG (takeN n M) :: dropN n M) = some L') : Sep S0 H0 H L' := by
  cases em : mvsL is L with
  | none => rw [em] at e; cases e
  | some M =>
    rw [em] at e
    rw [← Option.some.inj e]
    exact (h.mvs is em).clsN n
theorem Sep.as1 {S0 : List Addr} {H0 H : Hp} {L : List As} {X Y : As} (h : Sep S0 H0 H (X :: L)) (e : X = Y) : Sep S0 H0 H (Y :: L) := e ▸ h
theorem Sep.asN {S0 : List Addr} {H0 H : Hp} {L : List As} {X Y : As} (h : Sep S0 H0 H L) (i : Nat) (n : nth L i = some X) (e : X = Y) : Sep S0 H0 H (setN L i [Y]) := by
  subst e
  exact h.put i n X (Kp.refl _ _) (h.get i n)
theorem nth_own : ∀ {L : List As} {i : Nat} {A : As}, nth L i = some A → ∀ b, b ∈ A.own → b ∈ owns L
  | [], _, _, e, _, _ => by cases e
  | B :: r, 0, A, e, b, m => by
    have e : B = A := Option.some.inj e
    exact List.mem_append_left _ (e ▸ m)
  | _ :: _, n + 1, _, e, b, m => List.mem_append_right _ (nth_own (i := n) e b m)
theorem apart_aux {p : Addr} {o u : HO} : ∀ {L : List As} {i j : Nat}, nth L i = some (aC p o) → nth L j = some (aC p u) → i ≠ j → (owns L).Nodup → False
  | [], _, _, e, _, _, _ => by cases e
  | A :: r, 0, 0, _, _, n, _ => n rfl
  | A :: r, 0, j + 1, e1, e2, _, nd => by
    have e1 : A = aC p o := Option.some.inj e1
    subst e1
    exact (nd_app.mp nd).2.2 p (List.mem_singleton.mpr rfl) (nth_own (i := j) e2 p (List.mem_singleton.mpr rfl))
  | A :: r, i + 1, 0, e1, e2, _, nd => by
    have e2 : A = aC p u := Option.some.inj e2
    subst e2
    exact (nd_app.mp nd).2.2 p (List.mem_singleton.mpr rfl) (nth_own (i := i) e1 p (List.mem_singleton.mpr rfl))
  | A :: r, i + 1, j + 1, e1, e2, n, nd => apart_aux (L := r) (i := i) (j := j) e1 e2 (fun z => n (congrArg (· + 1) z)) (nd_app.mp nd).2.1
theorem Sep.apart {S0 : List Addr} {H0 H : Hp} {L : List As} {p q : Addr} {o u : HO} (h : Sep S0 H0 H L) (i j : Nat) (e1 : nth L i = some (aC p o)) (e2 : nth L j = some (aC q u)) (n : i ≠ j) : p ≠ q := fun e => by
  subst e
  exact apart_aux e1 e2 n h.nd
theorem getI_map {o : Option Int} {d : Int} : (o.map V.int).getD (.int d) = .int (o.getD d) := by cases o <;> rfl
def mkI (l : List (Int × Int)) : List (Int × Int) := l.foldl (fun acc p => putI acc p.1 p.2) []
theorem lineK_put (l : List (Int × Int)) (k v : Int) : putK (lineK l) (Sum.inl k : Key) (.int v) = lineK (putI l k v) := by
  have e : ((lineK l).any fun kv => decide (kv.1 = (Sum.inl k : Key))) = (l.any fun p => decide (p.1 = k)) := by
    unfold lineK
    rw [List.any_map]
    congr 1
    funext p
    exact decide_eq_decide.mpr ⟨fun h => Sum.inl.inj h, fun h => congrArg Sum.inl h⟩
  unfold putK putI
  rw [e]
  by_cases h : (l.any fun p => decide (p.1 = k)) = true
  · rw [if_pos h, if_pos h]
    unfold lineK
    rw [List.map_map, List.map_map]
    refine List.map_congr_left fun p _ => ?_
    show (if (Sum.inl p.1 : Key) = Sum.inl k then _ else _) = ((Sum.inl (if p.1 = k then (k, v) else p).1 : Key), V.int (if p.1 = k then (k, v) else p).2)
    by_cases c : p.1 = k
    · rw [if_pos (congrArg Sum.inl c), if_pos c]
      show ((Sum.inl p.1 : Key), V.int v) = (Sum.inl k, V.int v)
      rw [c]
    · rw [if_neg (fun z => c (Sum.inl.inj z)), if_neg c]
  · rw [if_neg h, if_neg h]
    unfold lineK
    rw [List.map_append]; rfl
theorem Sep.putD {S0 : List Addr} {H0 H : Hp} {L : List As} (h : Sep S0 H0 H L) (i : Nat) {p : Addr} {l : List (Int × Int)} (e : nth L i = some (aC p (.dK (lineK l)))) (k v : Int) : Sep S0 H0 (upd H p (.dK (putK (lineK l) (Sum.inl k : Key) (.int v)))) (setN L i [aC p (.dK (lineK (putI l k v)))]) := by
  rw [lineK_put]; exact h.putC i e trivial _
theorem merge_go : ∀ (l : List (Int × Int)) (acc : List (Int × Int)), mergeK (lineK acc) (lineK l) = lineK (l.foldl (fun acc p => putI acc p.1 p.2) acc)
  | [], _ => rfl
  | p :: r, acc => by
    show mergeK (putK (lineK acc) (Sum.inl p.1 : Key) (.int p.2)) (lineK r) = _
    rw [lineK_put, merge_go r]; rfl
theorem merge_mkI (l : List (Int × Int)) : mergeK [] (lineK l) = lineK (mkI l) := merge_go l []
/-! ### flat tuples: what stops a board -/
instance : Imm (List V) := ⟨fun H v xs => ∃ p, v = .ref p ∧ H p = some (.tup xs), fun t ⟨p, e, h⟩ => ⟨p, e, t _ _ h⟩⟩
theorem imF {H : Hp} {p : Addr} {xs : List V} (h : H p = some (.tup xs)) : Imm.at_ H (.ref p) xs := ⟨p, rfl, h⟩
theorem im_stop {H : Hp} {v : V} {o : Option (List V)} (h : StopV H v o) : Imm.at_ H v o := by
  cases o with
  | none => exact h
  | some xs => exact h
theorem opt_decF {H : Hp} {v : V} {o : Option (List V)} (h : Imm.at_ H v o) : V.bl (decide (v = .non)) = V.bl (decide (o = none)) := by
  cases o with
  | none => rw [show v = .non from h]; rfl
  | some x =>
    obtain ⟨p, e, _⟩ := (show Imm.at_ H v x from h)
    rw [e]; rfl
theorem opt_decFN {H : Hp} {v : V} {o : Option (List V)} (h : Imm.at_ H v o) : V.bl (!decide (v = .non)) = V.bl (decide (o ≠ none)) := by
  have := V.bl.inj (opt_decF h)
  rw [this, decide_not]
def flD : V → PyData
  | .int i => .int i
  | .str s => .str s
  | _ => .none
def flOk : V → Bool
  | .int _ => true
  | .str s => PyData.strOk s
  | _ => false
def stOk : Option (List V) → Bool
  | none => true
  | some xs => xs.all flOk
def stD : Option (List V) → PyData
  | none => .none
  | some xs => .tuple (xs.map flD)
theorem dp_flatA {K : PySem.W.Frag} {H : Hp} : ∀ {st : List V}, st.all flOk = true → DpAll K H st (st.map flD)
  | [], _ => .nil
  | v :: r, h => by
    simp only [List.all_cons, Bool.and_eq_true] at h
    obtain ⟨h1, h2⟩ := h
    refine .cons ?_ (dp_flatA h2)
    cases v <;> first | exact .int _ | exact .str _ | cases h1
theorem dp_st {K : PySem.W.Frag} {H : Hp} {v : V} {o : Option (List V)} (g : stOk o = true) (h : Imm.at_ H v o) : Dp K H v (stD o) := by
  cases o with
  | none => rw [show v = .non from h]; exact .non
  | some xs =>
    obtain ⟨p, e, ht⟩ := (show Imm.at_ H v xs from h)
    rw [e]; exact .tup (SqT.of ht) (dp_flatA g)
theorem ok_st {k : Nat} {o : Option (List V)} (g : stOk o = true) : okD (k + 1) (stD o) := by
  cases o with
  | none => exact ok_n
  | some xs =>
    refine ok_T fun d hd => ?_
    obtain ⟨v, hv, rfl⟩ := List.mem_map.mp hd
    have := List.all_eq_true.mp g v hv
    cases v <;> first | exact ok_i | exact ok_s this | cases this
theorem eqv_fl {x y : V} (hx : flOk x = true) (hy : flOk y = true) : PyData.eqv (flD x) (flD y) = decide (x = y) := by
  cases x <;> first | cases hx; done | skip
  all_goals cases y <;> first | cases hy; done | skip
  all_goals simp only [flD, PyData.eqv]
  all_goals first | (rename_i a b; by_cases h : a = b <;> simp [h]) | simp
theorem eqv_flA : ∀ {xs ys : List V}, xs.all flOk = true → ys.all flOk = true → PyData.eqvAll (xs.map flD) (ys.map flD) = decide (xs = ys)
  | [], [], _, _ => by simp [PyData.eqvAll]
  | [], _ :: _, _, _ => by simp [PyData.eqvAll]
  | _ :: _, [], _, _ => by simp [PyData.eqvAll]
  | x :: r, y :: q, h1, h2 => by
    simp only [List.all_cons, Bool.and_eq_true] at h1 h2
    simp only [List.map_cons, PyData.eqvAll, eqv_fl h1.1 h2.1, eqv_flA h1.2 h2.2]
    by_cases h : x = y <;> by_cases h2 : r = q <;> simp [h, h2]
theorem eqv_st {a b : Option (List V)} (h1 : stOk a = true) (h2 : stOk b = true) : PyData.eqv (stD a) (stD b) = decide (a = b) := by
  cases a with
  | none => cases b <;> simp [stD, PyData.eqv]
  | some x =>
    cases b with
    | none => simp [stD, PyData.eqv]
    | some y =>
      simp only [stD, PyData.eqv]
      rw [eqv_flA h1 h2]
      by_cases h : x = y <;> simp [h]
def prD (p : Int × Int) : PyData := .tuple [.int p.1, .int p.2]
theorem ok_pr {k : Nat} {p : Int × Int} : okD (k + 1) (prD p) := ok_T (okA_cons ok_i (okA_cons ok_i okA_nil))
theorem dpPairsL {K : PySem.W.Frag} {H : Hp} : ∀ {vs : List V} {xs : List (Int × Int)}, Imms H vs xs → DpAll K H vs (xs.map prD)
  | _, _, .nil => .nil
  | _, _, .cons ⟨p, u, w, e, h, h1, h2⟩ r => by
    have h1 : u = _ := h1
    have h2 : w = _ := h2
    subst h1 h2 e
    exact .cons (.tup (SqT.of h) (.cons (.int _) (.cons (.int _) .nil))) (dpPairsL r)
theorem dpPairs {K : PySem.W.Frag} {H : Hp} {p : Addr} {xs : List (Int × Int)} (h : ∃ vs, H p = some (.lst vs) ∧ Imms H vs xs) : Dp K H (.ref p) (.list (xs.map prD)) := by
  obtain ⟨vs, h1, h2⟩ := h
  exact .lst (SqL.of h1) (dpPairsL h2)
theorem eqv_prA : ∀ xs ys : List (Int × Int), PyData.eqvAll (xs.map prD) (ys.map prD) = decide (xs = ys)
  | [], [] => by simp [PyData.eqvAll]
  | [], _ :: _ => by simp [PyData.eqvAll]
  | _ :: _, [] => by simp [PyData.eqvAll]
  | (a, b) :: r, (c, d) :: q => by
    simp only [List.map_cons, PyData.eqvAll, eqv_prA r q, prD, PyData.eqv]
    by_cases h : a = c <;> by_cases h2 : b = d <;> by_cases h3 : r = q <;> simp [h, h2, h3]
theorem eqv_prs (xs ys : List (Int × Int)) : PyData.eqv (.list (xs.map prD)) (.list (ys.map prD)) = decide (xs = ys) := by
  rw [PyData.eqv]; exact eqv_prA xs ys
theorem imms_of {H : Hp} : ∀ {ls : List V} {l : List (Int × Int)}, Tups H ls (sentT l) → Imms H ls l
  | _, [], .nil => .nil
  | _, x :: r, .cons ⟨t, e, h⟩ q => .cons ⟨t, _, _, e, h, rfl, rfl⟩ (imms_of (l := r) q)
theorem dpBools {K : PySem.W.Frag} {H : Hp} {p : Addr} {xs : List Bool} (h : H p = some (.lst (xs.map Sc.v))) : Dp K H (.ref p) (.list (xs.map PyData.bool)) := by
  refine .lst (SqL.of h) ?_
  clear h
  induction xs with
  | nil => exact .nil
  | cons x r ih => exact .cons (.bl x) ih
theorem eqv_bs (xs ys : List Bool) : PyData.eqv (.list (xs.map PyData.bool)) (.list (ys.map PyData.bool)) = decide (xs = ys) := by
  rw [PyData.eqv]
  induction xs generalizing ys with
  | nil => cases ys <;> simp [PyData.eqvAll]
  | cons x r ih =>
    cases ys with
    | nil => simp [PyData.eqvAll]
    | cons y q =>
      simp only [List.map_cons, PyData.eqvAll, eqv_b, ih q]
      by_cases h : x = y <;> by_cases h2 : r = q <;> simp [h, h2]
theorem isi_st {K : PySem.W.Frag} {H : Hp} {v : V} {o : Option (List V)} (h : Imm.at_ H v o) : ∃ t, TyX K H v t ∧ PySem.W.kitOne K t (.type "bool") = some false := by
  cases o with
  | none =>
    rw [show v = .non from h]
    exact ⟨_, .base .non, kit_ty (by decide +kernel)⟩
  | some xs =>
    obtain ⟨p, e, ht⟩ := (show Imm.at_ H v xs from h)
    rw [e]
    exact ⟨_, .base (.tup ht), kit_ty (by decide +kernel)⟩
theorem dIn {o : Option Int} : V.bl ((o.map V.int).isSome) = V.bl (decide (o.isSome = true)) := by cases o <;> rfl
theorem dInN {o : Option Int} : V.bl (!(o.map V.int).isSome) = V.bl (decide (o.isSome = false)) := by cases o <;> rfl
def updI (a b : List (Int × Int)) : List (Int × Int) := b.foldl (fun acc p => putI acc p.1 p.2) a
theorem valV_c {k x : Int} {v : V} {r : List (Key × V)} : valV (((Sum.inl k : Key), v) :: r) (Sum.inl x : Key) = if x = k then some v else valV r (Sum.inl x : Key) := by
  by_cases h : x = k
  · rw [if_pos h]; exact valV_pos (by rw [h])
  · rw [if_neg h]; exact valV_neg (fun z => h (Sum.inl.inj z).symm)
theorem eqv_osi (xs : List (Option Int)) (ys : List Int) : PyData.eqv (.list (xs.map optD')) (.list (ys.map PyData.int)) = decide (xs = ys.map some) := by
  rw [← eqv_os xs (ys.map some), List.map_map]; rfl
theorem eqv_ios (xs : List Int) (ys : List (Option Int)) : PyData.eqv (.list (xs.map PyData.int)) (.list (ys.map optD')) = decide (xs.map some = ys) := by
  rw [← eqv_os (xs.map some) ys, List.map_map]; rfl
instance : Decidable (CPow i j) := by unfold CPow; infer_instance
theorem dpApp {K : PySem.W.Frag} {H : Hp} : ∀ {vs ws : List V} {ds es : List PyData}, DpAll K H vs ds → DpAll K H ws es → DpAll K H (vs ++ ws) (ds ++ es)
  | _, _, _, _, .nil, h => h
  | _, _, _, _, .cons h r, h2 => .cons h (dpApp r h2)
theorem okA_app {k : Nat} {ds es : List PyData} (h : okA k ds) (r : okA k es) : okA k (ds ++ es) := fun e he => by
  rcases List.mem_append.mp he with z | z
  · exact h e z
  · exact r e z
theorem eqvApp : ∀ {ps qs : List PyData} {P : Prop} [Decidable P] {xs ys : List Int}, ps.length = qs.length → PyData.eqvAll ps qs = decide P → PyData.eqvAll (ps ++ xs.map PyData.int) (qs ++ ys.map PyData.int) = decide (P ∧ xs = ys)
  | [], [], P, _, xs, ys, _, h => by
    have hp : P := of_decide_eq_true (by rw [← h]; simp [PyData.eqvAll])
    rw [List.nil_append, List.nil_append, eqv_ints]
    by_cases c : xs = ys <;> simp [c, hp]
  | [], _ :: _, _, _, _, _, l, _ => by simp at l
  | _ :: _, [], _, _, _, _, l, _ => by simp at l
  | p :: ps, q :: qs, P, _, xs, ys, l, h => by
    have ih := eqvApp (ps := ps) (qs := qs) (P := PyData.eqvAll ps qs = true) (xs := xs) (ys := ys) (by simpa using l) (by simp)
    simp only [List.cons_append, PyData.eqvAll] at h ⊢
    rw [ih]
    by_cases a : PyData.eqv p q = true <;> by_cases b : PyData.eqvAll ps qs = true <;> by_cases c : xs = ys <;> simp_all
theorem opt_scal {H : Hp} {v w : V} {a b : Option Int} (h : Imm.at_ H v a) (g : Imm.at_ H w b) : scal v w = true := by
  cases a <;> cases b <;> (cases h; cases g; rfl)
theorem opt_iff {H : Hp} {v w : V} {a b : Option Int} (h : Imm.at_ H v a) (g : Imm.at_ H w b) : v = w ↔ a = b := by
  cases a <;> cases b <;> cases h <;> cases g
  · exact ⟨fun _ => rfl, fun _ => rfl⟩
  · exact ⟨fun z => (by cases z), fun z => (by cases z)⟩
  · exact ⟨fun z => (by cases z), fun z => (by cases z)⟩
  · exact ⟨fun z => (by cases z; rfl), fun z => (by cases z; rfl)⟩
theorem opt_eqd {H : Hp} {v w : V} {a b : Option Int} (h : Imm.at_ H v a) (g : Imm.at_ H w b) : V.bl (decide (v = w)) = V.bl (decide (a = b)) := congrArg V.bl (decide_eq_decide.mpr (opt_iff h g))
theorem opt_neqd {H : Hp} {v w : V} {a b : Option Int} (h : Imm.at_ H v a) (g : Imm.at_ H w b) : V.bl (!decide (v = w)) = V.bl (decide (¬ a = b)) := by rw [decide_not, decide_eq_decide.mpr (opt_iff h g)]
/-! answers of several ways -/
def altO {α β γ : Type} (s : α ⊕ β) (f : α → Option γ) (g : β → Option γ) : Option γ := match s with | .inl a => f a | .inr b => g b
theorem alt_l {α β γ : Type} {s : α ⊕ β} {f : α → Option γ} {g : β → Option γ} {o : Option γ} {a : α} (h : s = .inl a) (e : altO s f g = o) : f a = o := by subst h; exact e
theorem alt_r {α β γ : Type} {s : α ⊕ β} {f : α → Option γ} {g : β → Option γ} {o : Option γ} {b : β} (h : s = .inr b) (e : altO s f g = o) : g b = o := by subst h; exact e
theorem dBb2 {a b a' b' : Bool} (ha : V.bl a' = V.bl a) (hb : V.bl b' = V.bl b) : V.bl (decide (V.bl a' = V.bl b')) = V.bl (decide (a = b)) := by rw [ha, hb]; exact dBb
theorem dnBb2 {a b a' b' : Bool} (ha : V.bl a' = V.bl a) (hb : V.bl b' = V.bl b) : V.bl (!decide (V.bl a' = V.bl b')) = V.bl (decide (¬ a = b)) := by rw [ha, hb]; exact dnBb


/-! ### data of values that do not change: how they read, when two are alike -/
class Dat (α : Type) [Imm α] [DecidableEq α] where
  d : α → PyData
  b : α → Bool
  dep : Nat
  dp : ∀ {K : PySem.W.Frag} {H : Hp} {v : V} {x : α}, b x = true → Imm.at_ H v x → Dp K H v (d x)
  ok : ∀ {x : α} {k : Nat}, b x = true → dep ≤ k → okD k (d x)
  eq : ∀ {x y : α}, b x = true → b y = true → PyData.eqv (d x) (d y) = decide (x = y)
/-- none of them is None -/
class DatN (α : Type) [Imm α] [DecidableEq α] [Dat α] : Prop where
  n1 : ∀ x : α, PyData.eqv .none (Dat.d x) = false
  n2 : ∀ x : α, PyData.eqv (Dat.d x) .none = false
instance : Dat Int := ⟨.int, fun _ => true, 0, fun {_ _ v x} _ h => by rw [show v = .int x from h]; exact .int x, fun _ _ => ok_i, fun _ _ => eqv_i _ _⟩
instance : Dat Bool := ⟨.bool, fun _ => true, 0, fun {_ _ v x} _ h => by rw [show v = .bl x from h]; exact .bl x, fun _ _ => ok_b, fun _ _ => eqv_b _ _⟩
instance : Dat Str := ⟨.str, PyData.strOk, 0, fun {_ _ v x} _ h => by rw [show v = .str x from h]; exact .str x, fun h _ => ok_s h, fun _ _ => eqv_s _ _⟩
instance : DatN Int := ⟨fun _ => by simp [Dat.d, PyData.eqv], fun _ => by simp [Dat.d, PyData.eqv]⟩
instance : DatN Bool := ⟨fun _ => by simp [Dat.d, PyData.eqv], fun _ => by simp [Dat.d, PyData.eqv]⟩
instance : DatN Str := ⟨fun _ => by simp [Dat.d, PyData.eqv], fun _ => by simp [Dat.d, PyData.eqv]⟩
theorem okD_up {d : PyData} {j k : Nat} (h : okD j d) (l : j ≤ k) : okD k d := ⟨h.1, Nat.le_trans h.2 l⟩
instance {α : Type} [Imm α] [DecidableEq α] [Dat α] [DatN α] : Dat (Option α) where
  d := fun o => match o with
    | none => .none
    | some x => Dat.d x
  b := fun o => match o with
    | none => true
    | some x => Dat.b x
  dep := Dat.dep α
  dp := fun {_ _ v x} g h => by
    cases x with
    | none => rw [show v = .non from h]; exact .non
    | some y => exact Dat.dp g h
  ok := fun {x _} g l => by
    cases x with
    | none => exact ok_n
    | some y => exact Dat.ok g l
  eq := fun {x y} g1 g2 => by
    cases x with
    | none => cases y with
      | none => simp [PyData.eqv]
      | some y => exact (DatN.n1 y).trans (by simp)
    | some x => cases y with
      | none => exact (DatN.n2 x).trans (by simp)
      | some y => exact (Dat.eq g1 g2).trans (by simp)
theorem and_bb {a b : Bool} (h : (a && b) = true) : a = true ∧ b = true := by simpa using h
theorem ok_T2 {k : Nat} {x y : PyData} (h1 : okD k x) (h2 : okD k y) : okD (k + 1) (.tuple [x, y]) := ok_T (okA_cons h1 (okA_cons h2 okA_nil))
instance {α β : Type} [Imm α] [Imm β] [DecidableEq α] [DecidableEq β] [Dat α] [Dat β] : Dat (α × β) where
  d := fun x => .tuple [Dat.d x.1, Dat.d x.2]
  b := fun x => Dat.b x.1 && Dat.b x.2
  dep := max (Dat.dep α) (Dat.dep β) + 1
  dp := fun {_ _ v x} g h => by
    obtain ⟨g1, g2⟩ := and_bb g
    obtain ⟨p, u, w, e, ht, a, b⟩ := h
    rw [e]; exact .tup (SqT.of ht) (.cons (Dat.dp g1 a) (.cons (Dat.dp g2 b) .nil))
  ok := fun {x k} g l => by
    obtain ⟨g1, g2⟩ := and_bb g
    obtain ⟨j, rfl⟩ : ∃ j, k = j + 1 := ⟨k - 1, by omega⟩
    exact ok_T2 (Dat.ok g1 (by omega)) (Dat.ok g2 (by omega))
  eq := fun {x y} g1 g2 => by
    obtain ⟨a1, a2⟩ := and_bb g1
    obtain ⟨b1, b2⟩ := and_bb g2
    refine (eqvT (eqvC (Dat.eq a1 b1) (eqvC (Dat.eq a2 b2) eqvN))).trans (decide_eq_decide.mpr ⟨fun h => ?_, fun h => ?_⟩)
    · exact Prod.ext h.1 h.2.1
    · subst h; exact ⟨rfl, rfl, trivial⟩
instance {α β : Type} [Imm α] [Imm β] [DecidableEq α] [DecidableEq β] [Dat α] [Dat β] : DatN (α × β) := ⟨fun _ => by simp [Dat.d, PyData.eqv], fun _ => by simp [Dat.d, PyData.eqv]⟩
instance {α β γ : Type} [Imm α] [Imm β] [Imm γ] [DecidableEq α] [DecidableEq β] [DecidableEq γ] [Dat α] [Dat β] [Dat γ] : Dat (T3 α β γ) where
  d := fun x => .tuple [Dat.d x.a, Dat.d x.b, Dat.d x.c]
  b := fun x => Dat.b x.a && (Dat.b x.b && Dat.b x.c)
  dep := max (Dat.dep α) (max (Dat.dep β) (Dat.dep γ)) + 1
  dp := fun {_ _ v x} g h => by
    obtain ⟨g1, g2⟩ := and_bb g
    obtain ⟨g2, g3⟩ := and_bb g2
    obtain ⟨p, u, w, z, e, ht, a, b, c⟩ := h
    rw [e]; exact .tup (SqT.of ht) (.cons (Dat.dp g1 a) (.cons (Dat.dp g2 b) (.cons (Dat.dp g3 c) .nil)))
  ok := fun {x k} g l => by
    obtain ⟨g1, g2⟩ := and_bb g
    obtain ⟨g2, g3⟩ := and_bb g2
    obtain ⟨j, rfl⟩ : ∃ j, k = j + 1 := ⟨k - 1, by omega⟩
    exact ok_T (okA_cons (Dat.ok g1 (by omega)) (okA_cons (Dat.ok g2 (by omega)) (okA_cons (Dat.ok g3 (by omega)) okA_nil)))
  eq := fun {x y} g1 g2 => by
    obtain ⟨a1, a2⟩ := and_bb g1
    obtain ⟨a2, a3⟩ := and_bb a2
    obtain ⟨b1, b2⟩ := and_bb g2
    obtain ⟨b2, b3⟩ := and_bb b2
    refine (eqvT (eqvC (Dat.eq a1 b1) (eqvC (Dat.eq a2 b2) (eqvC (Dat.eq a3 b3) eqvN)))).trans (decide_eq_decide.mpr ⟨fun h => ?_, fun h => ?_⟩)
    · obtain ⟨h1, h2, h3, _⟩ := h
      cases x; cases y
      exact T3.mk.injEq .. ▸ ⟨h1, h2, h3⟩
    · subst h; exact ⟨rfl, rfl, rfl, trivial⟩
instance {α β γ : Type} [Imm α] [Imm β] [Imm γ] [DecidableEq α] [DecidableEq β] [DecidableEq γ] [Dat α] [Dat β] [Dat γ] : DatN (T3 α β γ) := ⟨fun _ => by simp [Dat.d, PyData.eqv], fun _ => by simp [Dat.d, PyData.eqv]⟩
/-- flat tuples -/
def fxD : V → PyData
  | .int i => .int i
  | .str s => .str s
  | _ => .none
def fxOk : V → Bool
  | .int _ => true
  | .str s => PyData.strOk s
  | .non => true
  | _ => false
theorem fxOk_fl {v : V} (h : flOk v = true) : fxOk v = true := by cases v <;> first | exact h | cases h
theorem fx_fl {xs : List V} (h : xs.all flOk = true) : xs.all fxOk = true := List.all_eq_true.mpr fun v hv => fxOk_fl (List.all_eq_true.mp h v hv)
theorem dp_fxA {K : PySem.W.Frag} {H : Hp} : ∀ {st : List V}, st.all fxOk = true → DpAll K H st (st.map fxD)
  | [], _ => .nil
  | v :: r, h => by
    simp only [List.all_cons, Bool.and_eq_true] at h
    obtain ⟨h1, h2⟩ := h
    refine .cons ?_ (dp_fxA h2)
    cases v <;> first | exact .int _ | exact .str _ | exact .non | cases h1
theorem eqv_fx {x y : V} (hx : fxOk x = true) (hy : fxOk y = true) : PyData.eqv (fxD x) (fxD y) = decide (x = y) := by
  cases x <;> first | cases hx; done | skip
  all_goals cases y <;> first | cases hy; done | skip
  all_goals simp only [fxD, PyData.eqv]
  all_goals first | (rename_i a b; by_cases h : a = b <;> simp [h]) | simp
theorem eqv_fxA : ∀ {xs ys : List V}, xs.all fxOk = true → ys.all fxOk = true → PyData.eqvAll (xs.map fxD) (ys.map fxD) = decide (xs = ys)
  | [], [], _, _ => by simp [PyData.eqvAll]
  | [], _ :: _, _, _ => by simp [PyData.eqvAll]
  | _ :: _, [], _, _ => by simp [PyData.eqvAll]
  | x :: r, y :: q, h1, h2 => by
    simp only [List.all_cons, Bool.and_eq_true] at h1 h2
    simp only [List.map_cons, PyData.eqvAll, eqv_fx h1.1 h2.1, eqv_fxA h1.2 h2.2]
    by_cases h : x = y <;> by_cases h2 : r = q <;> simp [h, h2]
instance : Dat (List V) where
  d := fun xs => .tuple (xs.map fxD)
  b := fun xs => xs.all fxOk
  dep := 1
  dp := fun {_ _ v x} g h => by
    obtain ⟨p, e, ht⟩ := h
    rw [e]; exact .tup (SqT.of ht) (dp_fxA g)
  ok := fun {x k} g l => by
    obtain ⟨j, rfl⟩ : ∃ j, k = j + 1 := ⟨k - 1, by omega⟩
    refine ok_T fun d hd => ?_
    obtain ⟨v, hv, rfl⟩ := List.mem_map.mp hd
    have := List.all_eq_true.mp g v hv
    cases v <;> first | exact ok_i | exact ok_s this | exact ok_n | cases this
  eq := fun {x y} g1 g2 => by rw [PyData.eqv]; exact eqv_fxA g1 g2
instance : DatN (List V) := ⟨fun _ => by simp [Dat.d, PyData.eqv], fun _ => by simp [Dat.d, PyData.eqv]⟩
section
variable {α : Type} [Imm α] [DecidableEq α] [Dat α]
theorem dpDatA {K : PySem.W.Frag} {H : Hp} : ∀ {vs : List V} {xs : List α}, xs.all Dat.b = true → Imms H vs xs → DpAll K H vs (xs.map Dat.d)
  | _, _, _, .nil => .nil
  | _, _, g, .cons h r => by
    simp only [List.all_cons, Bool.and_eq_true] at g
    exact .cons (Dat.dp g.1 h) (dpDatA g.2 r)
theorem dpDatL {K : PySem.W.Frag} {H : Hp} {p : Addr} {xs : List α} (g : xs.all Dat.b = true) (h : ∃ vs, H p = some (.lst vs) ∧ Imms H vs xs) : Dp K H (.ref p) (.list (xs.map Dat.d)) := by
  obtain ⟨vs, e, i⟩ := h
  exact .lst (SqL.of e) (dpDatA g i)
theorem okDatL {xs : List α} {k : Nat} (g : xs.all Dat.b = true) (l : Dat.dep α ≤ k) : okD (k + 1) (.list (xs.map (Dat.d (α := α)))) := ok_L fun d hd => by
  obtain ⟨v, hv, rfl⟩ := List.mem_map.mp hd
  exact Dat.ok (List.all_eq_true.mp g v hv) l
theorem eqvDatA : ∀ {xs ys : List α}, xs.all Dat.b = true → ys.all Dat.b = true → PyData.eqvAll (xs.map Dat.d) (ys.map Dat.d) = decide (xs = ys)
  | [], [], _, _ => by simp [PyData.eqvAll]
  | [], _ :: _, _, _ => by simp [PyData.eqvAll]
  | _ :: _, [], _, _ => by simp [PyData.eqvAll]
  | x :: r, y :: q, h1, h2 => by
    simp only [List.all_cons, Bool.and_eq_true] at h1 h2
    simp only [List.map_cons, PyData.eqvAll, Dat.eq h1.1 h2.1, eqvDatA h1.2 h2.2]
    by_cases h : x = y <;> by_cases h2 : r = q <;> simp [h, h2]
theorem eqvDatL {xs ys : List α} (h1 : xs.all Dat.b = true) (h2 : ys.all Dat.b = true) : PyData.eqv (.list (xs.map Dat.d)) (.list (ys.map Dat.d)) = decide (xs = ys) := by
  rw [PyData.eqv]; exact eqvDatA h1 h2
end
theorem optS_scal {H : Hp} {v w : V} {a b : Option Str} (h : Imm.at_ H v a) (g : Imm.at_ H w b) : scal v w = true := by
  cases a <;> cases b <;> (cases h; cases g; rfl)
theorem optS_iff {H : Hp} {v w : V} {a b : Option Str} (h : Imm.at_ H v a) (g : Imm.at_ H w b) : v = w ↔ a = b := by
  cases a <;> cases b <;> cases h <;> cases g
  · exact ⟨fun _ => rfl, fun _ => rfl⟩
  · exact ⟨fun z => (by cases z), fun z => (by cases z)⟩
  · exact ⟨fun z => (by cases z), fun z => (by cases z)⟩
  · exact ⟨fun z => (by cases z; rfl), fun z => (by cases z; rfl)⟩
theorem optS_eqd {H : Hp} {v w : V} {a b : Option Str} (h : Imm.at_ H v a) (g : Imm.at_ H w b) : V.bl (decide (v = w)) = V.bl (decide (a = b)) := congrArg V.bl (decide_eq_decide.mpr (optS_iff h g))
theorem optS_neqd {H : Hp} {v w : V} {a b : Option Str} (h : Imm.at_ H v a) (g : Imm.at_ H w b) : V.bl (!decide (v = w)) = V.bl (decide (¬ a = b)) := by rw [decide_not, decide_eq_decide.mpr (optS_iff h g)]
theorem if_chain {P R : Prop} [Decidable P] [Decidable R] {A : Prop} {Q : VK} {H : Hp} (q : Q (.bl (decide (P ∧ R))) H) (h1 : P → Q (.bl (decide R)) H → A) : if decide P = true then A else Q (.bl false) H := by
  by_cases h : P
  · rw [if_pos (decide_eq_true h)]
    refine h1 h ?_
    rwa [show decide (P ∧ R) = decide R from decide_eq_decide.mpr ⟨fun z => z.2, fun z => ⟨h, z⟩⟩] at q
  · rw [if_neg (by rw [decide_eq_false h]; simp)]
    rwa [show decide (P ∧ R) = false from decide_eq_false fun z => h z.1] at q
theorem if_chainT {P R : Prop} [Decidable P] [Decidable R] {A : Prop} {Q : Bool → Hp → Prop} {H : Hp} (q : ∃ b, V.bl (decide (P ∧ R)) = .bl b ∧ Q b H) (h1 : P → (∃ b, V.bl (decide R) = .bl b ∧ Q b H) → A) : if decide P = true then A else ∃ b, V.bl false = .bl b ∧ Q b H :=
  if_chain (Q := fun v H => ∃ b, v = .bl b ∧ Q b H) q h1
/-! ### the name of a deed -/
/-! ### dicts with other keys and values -/
abbrev boolK (l : List (Int × Bool)) : List (Key × V) := l.map fun p => (Sum.inl p.1, V.bl p.2)

/-! ### loops over enumerate, over a dict's keys -/
theorem for_enumN {K : PySem.W.Frag} {a : Addr} {xs : List V} {g : TG} {tb : TS} {nx : L2.St → Hp → Prop} {rt : VK} {σ : L2.St} {H : Hp} (Pv : Nat → L2.St → Hp → Prop) (h0 : Pv 0 σ H) (hl : ∀ i σ H, i ≤ xs.length → Pv i σ H → SqL K H a xs)
    (hs : ∀ i x T σ H, xs[i]? = some x → Pv i σ H → H T = none → g (.ref T) σ (upd H T (.tup [.int (i : Nat), x])) fun σ2 H2 => tb { nx := Pv (i + 1), rt := rt, bk := nx, ct := Pv (i + 1) } σ2 H2) (hd : ∀ σ H, Pv xs.length σ H → nx σ H) :
    ∃ W : Nat → Nat → L2.St → Hp → Prop, (∃ m, W 0 m σ H) ∧ ∀ i m σ H, W i m σ H →
      ((Ite K a).stop i H ∧ nx σ H) ∨ ((Ite K a).go i H ∧ ∃ N : L2.St → Hp → Prop, (∀ σ' H', N σ' H' → ∃ m', m' < m ∧ W (i + 1) m' σ' H') ∧ ∀ x H', (Ite K a).yld i H x H' → g x σ H' fun σ2 H2 => tb { nx := N, rt := rt, bk := nx, ct := N } σ2 H2) := by
  refine ⟨fun i m σ H => m = xs.length - i ∧ i ≤ xs.length ∧ Pv i σ H, ⟨xs.length, by simp, Nat.zero_le _, h0⟩, ?_⟩
  rintro i m σ H ⟨rfl, hi, p⟩
  have q := hl i σ H hi p
  by_cases hlt : i < xs.length
  · refine .inr ⟨⟨xs, xs[i], q, by simp [hlt]⟩, Pv (i + 1), fun σ' H' p' => ⟨xs.length - (i + 1), by omega, rfl, hlt, p'⟩, fun v H' y => ?_⟩
    obtain ⟨T, x, ev, nT, eH, hx⟩ := y
    subst ev eH
    exact hs i x T σ H (hx xs q) p nT
  · have e : i = xs.length := by omega
    subst e
    exact .inl ⟨⟨xs, q, Nat.le_refl _⟩, hd σ H p⟩
theorem for_keysN {d : Addr} {o : Obj} {kvs : List (Key × V)} {g : TG} {tb : TS} {nx : L2.St → Hp → Prop} {rt : VK} {σ : L2.St} {H : Hp} (Pv : Nat → L2.St → Hp → Prop) (h0 : Pv 0 σ H) (hl : ∀ i σ H, i ≤ kvs.length → Pv i σ H → H d = some (.frz o (.dK kvs)))
    (hs : ∀ i k v σ H, kvs[i]? = some (k, v) → Pv i σ H → g (kV k) σ H fun σ2 H2 => tb { nx := Pv (i + 1), rt := rt, bk := nx, ct := Pv (i + 1) } σ2 H2) (hd : ∀ σ H, Pv kvs.length σ H → nx σ H) :
    ∃ W : Nat → Nat → L2.St → Hp → Prop, (∃ m, W 0 m σ H) ∧ ∀ i m σ H, W i m σ H →
      ((Itk d o kvs).stop i H ∧ nx σ H) ∨ ((Itk d o kvs).go i H ∧ ∃ N : L2.St → Hp → Prop, (∀ σ' H', N σ' H' → ∃ m', m' < m ∧ W (i + 1) m' σ' H') ∧ ∀ x H', (Itk d o kvs).yld i H x H' → g x σ H' fun σ2 H2 => tb { nx := N, rt := rt, bk := nx, ct := N } σ2 H2) := by
  refine ⟨fun i m σ H => m = kvs.length - i ∧ i ≤ kvs.length ∧ Pv i σ H, ⟨kvs.length, by simp, Nat.zero_le _, h0⟩, ?_⟩
  rintro i m σ H ⟨rfl, hi, p⟩
  have q := hl i σ H hi p
  by_cases hlt : i < kvs.length
  · refine .inr ⟨⟨q, hlt⟩, Pv (i + 1), fun σ' H' p' => ⟨kvs.length - (i + 1), by omega, rfl, hlt, p'⟩, fun x H' y => ?_⟩
    obtain ⟨eH, k, v, hk, ex⟩ := y
    subst eH ex
    exact hs i k v σ _ hk p
  · have e : i = kvs.length := by omega
    subst e
    exact .inl ⟨⟨q, Nat.le_refl _⟩, hd σ H p⟩
def enumL {α : Type} (xs : List α) : List (Int × α) := xs.zipIdx.map fun p => ((p.2 : Int), p.1)
theorem enumL_get {α : Type} {xs : List α} {i : Nat} {x : α} (h : xs[i]? = some x) : (enumL xs)[i]? = some ((i : Int), x) := by
  unfold enumL
  rw [List.getElem?_map, List.getElem?_zipIdx, h]; simp
theorem enumL_len {α : Type} {xs : List α} : (enumL xs).length = xs.length := by unfold enumL; simp
theorem keyI_get {l : List (Int × Int)} {i : Nat} {k : Key} {v : V} (h : (lineK l)[i]? = some (k, v)) : ∃ x, (l.map (·.1))[i]? = some x ∧ k = Sum.inl x := by
  unfold lineK at h
  rw [List.getElem?_map] at h
  cases e : l[i]? with
  | none => rw [e] at h; cases h
  | some p =>
    rw [e] at h
    have h := Option.some.inj h
    exact ⟨p.1, by rw [List.getElem?_map, e]; rfl, (congrArg Prod.fst h).symm⟩
/-! ### dicts of truths -/
def lookB (l : List (Int × Bool)) (k : Int) : Option Bool := (l.find? fun p => decide (p.1 = k)).map (·.2)
def putB (l : List (Int × Bool)) (k : Int) (v : Bool) : List (Int × Bool) := if l.any (fun p => decide (p.1 = k)) then l.map (fun p => if p.1 = k then (k, v) else p) else l ++ [(k, v)]
theorem boolK_len (l : List (Int × Bool)) : (boolK l).length = l.length := List.length_map _
theorem valV_boolK : ∀ (l : List (Int × Bool)) (k : Int), valV (boolK l) (Sum.inl k : Key) = (lookB l k).map V.bl
  | [], _ => rfl
  | p :: r, k => by
    show valV (((Sum.inl p.1 : Key), V.bl p.2) :: boolK r) _ = _
    rw [valV_c, valV_boolK r k]
    unfold lookB
    rw [List.find?_cons]
    by_cases e : p.1 = k
    · rw [if_pos e.symm, decide_eq_true e]; rfl
    · rw [if_neg (fun z => e z.symm), decide_eq_false e]
theorem dInB {o : Option Bool} : V.bl ((o.map V.bl).isSome) = V.bl (decide (o.isSome = true)) := by cases o <;> rfl
theorem dInBN {o : Option Bool} : V.bl (!(o.map V.bl).isSome) = V.bl (decide (o.isSome = false)) := by cases o <;> rfl
theorem boolK_put (l : List (Int × Bool)) (k : Int) (v : Bool) : putK (boolK l) (Sum.inl k : Key) (.bl v) = boolK (putB l k v) := by
  have e : ((boolK l).any fun kv => decide (kv.1 = (Sum.inl k : Key))) = (l.any fun p => decide (p.1 = k)) := by
    show (l.map _).any _ = _
    rw [List.any_map]
    congr 1
    funext p
    exact decide_eq_decide.mpr ⟨fun h => Sum.inl.inj h, fun h => congrArg Sum.inl h⟩
  unfold putK putB
  rw [e]
  by_cases h : (l.any fun p => decide (p.1 = k)) = true
  · rw [if_pos h, if_pos h]
    show (l.map _).map _ = (l.map _).map _
    rw [List.map_map, List.map_map]
    refine List.map_congr_left fun p _ => ?_
    show (if (Sum.inl p.1 : Key) = Sum.inl k then _ else _) = ((Sum.inl (if p.1 = k then (k, v) else p).1 : Key), V.bl (if p.1 = k then (k, v) else p).2)
    by_cases c : p.1 = k
    · rw [if_pos (congrArg Sum.inl c), if_pos c]
      show ((Sum.inl p.1 : Key), V.bl v) = (Sum.inl k, V.bl v)
      rw [c]
    · rw [if_neg (fun z => c (Sum.inl.inj z)), if_neg c]
  · rw [if_neg h, if_neg h]
    show _ = (l ++ [(k, v)]).map _
    rw [List.map_append]; rfl
theorem Sep.putDB {S0 : List Addr} {H0 H : Hp} {L : List As} (h : Sep S0 H0 H L) (i : Nat) {p : Addr} {l : List (Int × Bool)} (e : nth L i = some (aC p (.dK (boolK l)))) (k : Int) (v : Bool) : Sep S0 H0 (upd H p (.dK (putK (boolK l) (Sum.inl k : Key) (.bl v)))) (setN L i [aC p (.dK (boolK (putB l k v)))]) := by
  rw [boolK_put]; exact h.putC i e trivial _
theorem imms_keys {α : Type} {H : Hp} (l : List (Int × α)) {f : α → V} : Imms H ((l.map fun p => ((Sum.inl p.1 : Key), f p.2)).map fun kv => kV kv.1) (l.map (·.1)) := by
  induction l with
  | nil => exact .nil
  | cons p r ih => exact .cons rfl ih
theorem stop_im {H : Hp} {v : V} {o : Option (List V)} (h : Imm.at_ H v o) : StopV H v o := by
  cases o with
  | none => exact h
  | some xs => exact h
theorem in_str {x : Str} {xs : List Str} : V.bl (if false = true then !inV (.str x) (xs.map V.str) else inV (.str x) (xs.map V.str)) = V.bl (decide (x ∈ xs)) := by
  rw [if_neg (by decide)]
  congr 1
  induction xs with
  | nil => rfl
  | cons y r ih =>
    show (eqV (.str y) (.str x) || inV (.str x) (r.map V.str)) = _
    rw [ih]
    have e : eqV (.str y) (.str x) = decide (y = x) := by unfold eqV; by_cases c : y = x <;> simp [c]
    rw [e]
    by_cases c : y = x <;> by_cases d : x ∈ r <;> simp [c, d, eq_comm (a := x) (b := y)]
theorem inN_str {x : Str} {xs : List Str} : V.bl (if true = true then !inV (.str x) (xs.map V.str) else inV (.str x) (xs.map V.str)) = V.bl (decide (x ∉ xs)) := by
  have h := in_str (x := x) (xs := xs)
  rw [if_neg (by decide)] at h
  rw [if_pos rfl, V.bl.inj h, decide_not]
/-! ### pop -/
def popL {α : Type} (xs : List α) : Option (α × List α) := xs[xs.length - 1]?.map fun x => (x, xs.dropLast)
theorem Imms.dropLast {α : Type} [Imm α] {H : Hp} : ∀ {vs : List V} {xs : List α}, Imms H vs xs → Imms H vs.dropLast xs.dropLast
  | _, _, .nil => .nil
  | _, _, .cons h .nil => .nil
  | _, _, .cons h (.cons h2 r) => .cons h (Imms.dropLast (.cons h2 r))
theorem popL_eq {α : Type} [Imm α] {H : Hp} {vs : List V} {xs : List α} {z : α × List α} (hv : Imms H vs xs) (h : popL xs = some z) : ∃ u, vs[vs.length - 1]? = some u ∧ Imm.at_ H u z.1 ∧ z.2 = xs.dropLast := by
  unfold popL at h
  cases e : xs[xs.length - 1]? with
  | none => rw [e] at h; cases h
  | some x =>
    rw [e] at h
    have h := Option.some.inj h
    obtain ⟨u, h1, h2⟩ := hv.nth e
    refine ⟨u, by rw [hv.length]; exact h1, ?_, ?_⟩
    · rw [← h]; exact h2
    · rw [← h]
def popZ {α : Type} : List α → Option (α × List α)
  | [] => none
  | x :: r => some (x, r)
theorem popZ_eq {α : Type} [Imm α] {H : Hp} {vs : List V} {xs : List α} {z : α × List α} (hv : Imms H vs xs) (h : popZ xs = some z) : ∃ u ws, vs = u :: ws ∧ Imm.at_ H u z.1 ∧ Imms H ws z.2 := by
  cases hv with
  | nil => cases h
  | cons a r =>
    have h := Option.some.inj h
    rw [← h]
    exact ⟨_, _, rfl, a, r⟩
theorem seqI0 {n : Nat} : seqIndex? 0 (n + 1) = some 0 := by
  unfold seqIndex?
  simp
/-! ### what a tuple's part may be, registers by their names, values of either kind -/
theorem noneIs : V.bl (decide ((V.non : V) = .non)) = V.bl (decide True) := by simp
theorem refIs {p : Addr} : V.bl (decide ((V.ref p : V) = .non)) = V.bl (decide False) := by simp
theorem refIsN {p : Addr} : V.bl (!decide ((V.ref p : V) = .non)) = V.bl (decide True) := by simp
theorem noneIsN : V.bl (!decide ((V.non : V) = .non)) = V.bl (decide False) := by simp
def tNeverE : TE := fun _ _ _ => False
theorem pe_neverE {X : Cx} {e : Expr} : PE X e tNeverE := ⟨fun _ _ _ _ _ _ h => h.elim⟩
instance : Imm V := ⟨fun _ v x => v = x, fun _ h => h⟩
instance : Sc V := ⟨id, Iff.rfl⟩
def flB : V → PyData
  | .int i => .int i
  | .bl b => .bool b
  | .str s => .str s
  | _ => .none
def flBok : V → Bool
  | .int _ => true
  | .bl _ => true
  | .str s => PyData.strOk s
  | .non => true
  | _ => false
theorem dp_flB {K : PySem.W.Frag} {H : Hp} : ∀ {st : List V}, st.all flBok = true → DpAll K H st (st.map flB)
  | [], _ => .nil
  | v :: r, h => by
    simp only [List.all_cons, Bool.and_eq_true] at h
    obtain ⟨h1, h2⟩ := h
    refine .cons ?_ (dp_flB h2)
    cases v <;> first | exact .int _ | exact .str _ | exact .bl _ | exact .non | cases h1
theorem dp_flBL {K : PySem.W.Frag} {H : Hp} {p : Addr} {xs : List V} (g : xs.all flBok = true) (h : H p = some (.lst xs)) : Dp K H (.ref p) (.list (xs.map flB)) := .lst (SqL.of h) (dp_flB g)
theorem ok_flB {k : Nat} {xs : List V} (g : xs.all flBok = true) : okD (k + 1) (.list (xs.map flB)) := ok_L fun d hd => by
  obtain ⟨v, hv, rfl⟩ := List.mem_map.mp hd
  have := List.all_eq_true.mp g v hv
  cases v <;> first | exact ok_i | exact ok_b | exact ok_n | exact ok_s this | cases this
theorem eqv_flB {xs ys : List V} : PyData.eqv (.list (xs.map flB)) (.list (ys.map flB)) = decide (PyData.eqvAll (xs.map flB) (ys.map flB) = true) := by
  rw [PyData.eqv]; simp
theorem map_id_sc (xs : List V) : xs.map (Sc.v (α := V)) = xs := List.map_id xs
theorem dropSc {o : Option HO} {xs : List V} (h : o = some (.lst (xs.map (Sc.v (α := V))))) : o = some (.lst xs) := by rw [h, map_id_sc]
/-- a text of one sign -/
def oneS (s : Str) : Option Nat := match s.cps.toList with
  | [c] => some c
  | _ => none
theorem oneS_eq {s : Str} {c : Nat} (h : oneS s = some c) : s = ⟨#[c]⟩ := by
  unfold oneS at h
  split at h
  · rename_i c' e
    cases h
    have : s.cps = #[c] := by
      have := congrArg List.toArray e
      simpa using this
    cases s
    simp_all
  · cases h
theorem anyP {xs : List V} : xs = xs.map id := (List.map_id _).symm
/-- a def with written defaults, all of them taken -/
def OkD (P : Program) (w : World) (K : PySem.W.Frag) (mg : Str → Option Value) (base : Heap) (CX : CXT) (k : Nat) (f : Addr) (ps : List Str) (dvs : List V) (sp : Sp) : Prop :=
  ∃ fd ds, FnOk P w K mg base CX k f fd ps sp ∧ Vals dvs ds ∧ Binds K fd ps ds ∧ PySem.W.keepIn K (.ref f) = true
class NN (α : Type) [Imm α] : Prop where
  nn : ∀ (H : Hp) (x : α), ¬ Imm.at_ H .non x
instance {α β : Type} [Imm α] [Imm β] : NN (α × β) := ⟨fun _ _ ⟨_, _, _, e, _⟩ => by cases e⟩
instance {α β γ : Type} [Imm α] [Imm β] [Imm γ] : NN (T3 α β γ) := ⟨fun _ _ ⟨_, _, _, _, e, _⟩ => by cases e⟩
instance : NN Str := ⟨fun _ _ e => by cases e⟩
theorem opt_iffG {α : Type} [Imm α] [NN α] {H : Hp} {v : V} {o : Option α} (h : Imm.at_ H v o) : v = .non ↔ o = none := by
  cases o with
  | none => exact ⟨fun _ => rfl, fun _ => h⟩
  | some x => exact ⟨fun e => absurd (show Imm.at_ H .non x from e ▸ h) (NN.nn H x), fun e => by cases e⟩
theorem opt_decG {α : Type} [Imm α] [NN α] [DecidableEq α] {H : Hp} {v : V} {o : Option α} (h : Imm.at_ H v o) : V.bl (decide (v = .non)) = V.bl (decide (o = none)) := congrArg V.bl (decide_eq_decide.mpr (opt_iffG h))
theorem opt_decGN {α : Type} [Imm α] [NN α] [DecidableEq α] {H : Hp} {v : V} {o : Option α} (h : Imm.at_ H v o) : V.bl (!decide (v = .non)) = V.bl (decide (o ≠ none)) := by
  have e := opt_iffG h
  by_cases c : o = none
  · rw [decide_eq_false (show ¬ (o ≠ none) from fun z => z c), decide_eq_true (e.mpr c)]; rfl
  · rw [decide_eq_true (show o ≠ none from c), decide_eq_false (fun z => c (e.mp z))]; rfl
theorem ct_use {S0 : List Addr} {H0 H : Hp} {L : List As} {σ : L2.St} {c : TT} {b : Bool} {Q : Bool → Hp → Prop} (hs : Sep S0 H0 H L) (e : EvT S0 H0 L c σ b) (q : ∀ H', Sep S0 H0 H' L → Q b H') : c σ H Q := e H hs _ q
/-! ### list(range), sorted -/
instance (a b : Int) : Decidable (RgOk a b) := by unfold RgOk; infer_instance
theorem imms_rg {H : Hp} (a b : Int) : Imms H (rgV a b) (rangeL a (Int.toNat (b - a))) := by
  have e : rgV a b = (rangeL a (Int.toNat (b - a))).map Sc.v := by
    unfold rgV rangeL
    rw [List.map_map]
    rfl
  rw [e]; exact Imms.ofSc _
def sortI (xs : List Int) : List Int := xs.mergeSort (fun a b => decide (a ≤ b))
theorem perm_sorted : ∀ {xs ys : List Int}, xs.Perm ys → xs.Pairwise (· ≤ ·) → ys.Pairwise (· ≤ ·) → xs = ys
  | [], ys, p, _, _ => (List.nil_perm.mp p).symm
  | x :: r, [], p, _, _ => absurd (List.perm_nil.mp p) (by simp)
  | x :: r, y :: q, p, h1, h2 => by
    obtain ⟨a1, a2⟩ := List.pairwise_cons.mp h1
    obtain ⟨b1, b2⟩ := List.pairwise_cons.mp h2
    have e : x = y := by
      have m1 := p.mem_iff.mp (List.mem_cons_self (a := x) (l := r))
      have m2 := p.mem_iff.mpr (List.mem_cons_self (a := y) (l := q))
      rcases List.mem_cons.mp m1 with z | z
      · exact z
      · rcases List.mem_cons.mp m2 with z2 | z2
        · exact z2.symm
        · have := b1 x z; have := a1 y z2; omega
    subst e
    rw [perm_sorted (List.perm_cons _ |>.mp p) a2 b2]
theorem sortI_perm (xs : List Int) : (sortI xs).Perm xs := List.mergeSort_perm _ _
theorem sortI_eq {xs ns : List Int} (p : ns.Perm xs) (h : ns.Pairwise (· ≤ ·)) : sortI xs = ns := by
  refine perm_sorted ((sortI_perm xs).trans p.symm) ?_ h
  have s := List.pairwise_mergeSort (le := fun a b : Int => decide (a ≤ b)) (fun a b c h1 h2 => by simp at *; omega) (fun a b => by simp; omega) xs
  exact s.imp fun h => of_decide_eq_true h
/-! ### a truth whose first part changes what is owned -/
def tK (v : V) : TE := fun _ H Q => Q v H
theorem evB_k {S0 : List Addr} {H0 : Hp} {L : List As} {σ : L2.St} {c b : Bool} (h : some c = some b) : EvB S0 H0 L (tK (.bl c)) σ b := fun H hs Q q => by
  obtain rfl := Option.some.inj h
  exact q H hs
section
variable {ta tb tc : TE} {σ : L2.St} {H : Hp} {Q : VK}
theorem first_a (h : ta σ H fun v H1 => tAndV (tK v) tb σ H1 Q) : tAndV ta tb σ H Q := h
theorem first_o (h : ta σ H fun v H1 => tOrV (tK v) tb σ H1 Q) : tOrV ta tb σ H Q := h
theorem first_oa (h : ta σ H fun v H1 => tOrV (tAndV (tK v) tb) tc σ H1 Q) : tOrV (tAndV ta tb) tc σ H Q := h
theorem first_ao (h : ta σ H fun v H1 => tAndV (tOrV (tK v) tb) tc σ H1 Q) : tAndV (tOrV ta tb) tc σ H Q := h
end


/-! ### texts -/
abbrev strI (i : Int) : Str := (toString i : String)
/-- the signs of a text -/
def sgn (x : Str) : List Str := x.cps.toList.map fun c => ⟨#[c]⟩
theorem sgn_len (x : Str) : (sgn x).length = x.cps.size := by unfold sgn; rw [List.length_map, Array.length_toList]
theorem lc_str {z : Str} {g : TG} {tt : TT} {te : TE} {vs : List Nat} {σ : L2.St} {H1 : Hp} {D : Addr} {Qd : Hp → Prop} (Pv : Nat → Hp → Prop) (h0 : Pv 0 (upd H1 D (.lst [])))
    (hs : ∀ i c H, (sgn z)[i]? = some c → Pv i H → g (.str c) (wipe σ vs) H fun σ2 H2 => wipe σ2 vs = wipe σ vs ∧ tt σ2 H2 fun b H3 =>
      if b = true then te σ2 H3 fun y H4 => ∃ acc, H4 D = some (.lst acc) ∧ acc.length < sizeLine ∧ Pv (i + 1) (upd H4 D (.lst (acc ++ [y]))) else Pv (i + 1) H3) (hd : ∀ H, Pv (sgn z).length H → Qd H) :
    ∃ W : Nat → Nat → Hp → Prop, (∃ m, W 0 m (upd H1 D (.lst []))) ∧ ∀ i m H, W i m H →
      ((Its z).stop i H ∧ Qd H) ∨ ((Its z).go i H ∧ ∃ Nx : Hp → Prop, (∀ H', Nx H' → ∃ m', m' < m ∧ W (i + 1) m' H') ∧ ∀ x H', (Its z).yld i H x H' → g x (wipe σ vs) H' fun σ2 H2 => wipe σ2 vs = wipe σ vs ∧ tt σ2 H2 fun b H3 =>
        if b = true then te σ2 H3 fun y H4 => ∃ acc, H4 D = some (.lst acc) ∧ acc.length < sizeLine ∧ Nx (upd H4 D (.lst (acc ++ [y]))) else Nx H3) := by
  have len := sgn_len z
  refine ⟨fun i m H => m = z.cps.size - i ∧ i ≤ z.cps.size ∧ Pv i H, ⟨z.cps.size, by simp, Nat.zero_le _, h0⟩, ?_⟩
  rintro i m H ⟨rfl, hi, p⟩
  by_cases hlt : i < z.cps.size
  · refine .inr ⟨hlt, Pv (i + 1), fun H' p' => ⟨z.cps.size - (i + 1), by omega, rfl, hlt, p'⟩, fun x H' y => ?_⟩
    obtain ⟨e, c, hc, y⟩ := y
    subst e y
    refine hs i _ _ ?_ p
    unfold sgn
    rw [List.getElem?_map, Array.getElem?_toList, hc]; rfl
  · refine .inl ⟨show z.cps.size ≤ i by omega, hd _ ?_⟩
    rw [len, show z.cps.size = i by omega]; exact p
theorem oneS_sgn {x c : Str} {i : Nat} (h : (sgn x)[i]? = some c) : ∃ k, oneS c = some k := by
  unfold sgn at h
  rw [List.getElem?_map] at h
  obtain ⟨k, _, rfl⟩ := Option.map_eq_some_iff.mp h
  exact ⟨k, rfl⟩
theorem flat_strs (xs : List Str) : (xs.map Sc.v).all flatV = true := by
  induction xs with
  | nil => rfl
  | cons x r ih => rw [List.map_cons, List.all_cons, ih]; rfl
/-- the place of a text in a list -/
def idxS : List Str → Str → Option Nat
  | [], _ => none
  | y :: r, x => if y = x then some 0 else (idxS r x).map (· + 1)
theorem eqV_str {a b : Str} : eqV (.str a) (.str b) = decide (a = b) := by unfold eqV; rfl
theorem idxS_at : ∀ {l : List Str} {x : Str} {j : Nat}, idxS l x = some j → (l.map Sc.v)[j]? = some (V.str x) ∧ eqV (.str x) (.str x) = true ∧ ∀ (m : Nat) (z : V), m < j → (l.map Sc.v)[m]? = some z → eqV z (.str x) = false
  | [], _, _, h => by cases h
  | y :: r, x, j, h => by
    have e0 : eqV (.str x) (.str x) = true := by rw [eqV_str]; exact decide_eq_true rfl
    unfold idxS at h
    by_cases c : y = x
    · rw [if_pos c] at h
      have h := Option.some.inj h
      subst h c
      exact ⟨rfl, e0, fun m z hm => absurd hm (Nat.not_lt_zero _)⟩
    · rw [if_neg c] at h
      obtain ⟨k, hk, rfl⟩ := Option.map_eq_some_iff.mp h
      obtain ⟨h1, _, h3⟩ := idxS_at hk
      refine ⟨h1, e0, fun m z hm hz => ?_⟩
      cases m with
      | zero =>
        have hz : some (V.str y) = some z := hz
        rw [← Option.some.inj hz, eqV_str]
        exact decide_eq_false c
      | succ m => exact h3 m z (by omega) hz
/-! ### dicts of texts and whole numbers -/
def strK (l : List (Str × Int)) : List (Key × V) := l.map fun p => (Sum.inr p.1, V.int p.2)
theorem strK_len (l : List (Str × Int)) : (strK l).length = l.length := by unfold strK; rw [List.length_map]
def lookT : List (Str × Int) → Str → Option Int
  | [], _ => none
  | (x, v) :: r, s => if x = s then some v else lookT r s
theorem valV_strK : ∀ (l : List (Str × Int)) (s : Str), valV (strK l) (Sum.inr s : Key) = (lookT l s).map V.int
  | [], _ => rfl
  | (x, v) :: r, s => by
    unfold lookT
    by_cases e : x = s
    · rw [if_pos e]
      exact valV_pos (p := ((Sum.inr x : Key), V.int v)) (by rw [e])
    · rw [if_neg e, ← valV_strK r s]
      exact valV_neg (p := ((Sum.inr x : Key), V.int v)) (fun z => e (Sum.inr.inj z))
theorem lookT_valV {l : List (Str × Int)} {s : Str} {v : Int} (h : lookT l s = some v) : valV (strK l) (Sum.inr s : Key) = some (.int v) := by rw [valV_strK, h]; rfl
def putT (l : List (Str × Int)) (k : Str) (v : Int) : List (Str × Int) :=
  if (l.any fun p => decide (p.1 = k)) = true then l.map (fun p => if p.1 = k then (k, v) else p) else l ++ [(k, v)]
theorem strK_put (l : List (Str × Int)) (k : Str) (v : Int) : putK (strK l) (Sum.inr k : Key) (.int v) = strK (putT l k v) := by
  have e : ((strK l).any fun kv => decide (kv.1 = (Sum.inr k : Key))) = (l.any fun p => decide (p.1 = k)) := by
    unfold strK
    rw [List.any_map]
    congr 1
    funext p
    exact decide_eq_decide.mpr ⟨fun h => Sum.inr.inj h, fun h => congrArg Sum.inr h⟩
  unfold putK putT
  rw [e]
  by_cases c : (l.any fun p => decide (p.1 = k)) = true
  · rw [if_pos c, if_pos c]
    unfold strK
    rw [List.map_map, List.map_map]
    congr 1
    funext p
    show (if (Sum.inr p.1 : Key) = Sum.inr k then _ else _) = ((Sum.inr (if p.1 = k then (k, v) else p).1 : Key), V.int (if p.1 = k then (k, v) else p).2)
    by_cases h : p.1 = k
    · rw [if_pos (congrArg Sum.inr h), if_pos h]
      show ((Sum.inr p.1 : Key), V.int v) = (Sum.inr k, V.int v)
      rw [h]
    · rw [if_neg (fun z => h (Sum.inr.inj z)), if_neg h]
  · rw [if_neg c, if_neg c]
    unfold strK
    rw [List.map_append]; rfl
theorem Sep.putDT {S0 : List Addr} {H0 H : Hp} {L : List As} (h : Sep S0 H0 H L) (i : Nat) {p : Addr} {l : List (Str × Int)} (e : nth L i = some (aC p (.dK (strK l)))) (k : Str) (v : Int) :
    Sep S0 H0 (upd H p (.dK (putK (strK l) (Sum.inr k : Key) (.int v)))) (setN L i [aC p (.dK (strK (putT l k v)))]) := by
  rw [strK_put]; exact h.putC i e trivial _
theorem neLD_dec {xs ys : List Int} {ks : List (Str × Int)} : V.bl (!(decide (xs = ys) && decide ((strK ks).length = 0))) = V.bl (decide (¬ (xs = ys ∧ ks = []))) := by
  rw [strK_len, ← Bool.decide_and, ← decide_not]
  refine congrArg V.bl (decide_eq_decide.mpr ?_)
  rw [List.length_eq_zero_iff]
theorem flat_str (xs : List Str) : (xs.map Sc.v).all flatV = true := flat_strs xs

/-! ### own rule: (a list, a dict) != (a list, a dict) -/
section
open PySem PySem.Spec PyProof.Rows PySem.SeqAt
open PySem.AutoSeq1 (wpAny_loadPart')
variable {prog : Program} {w : World}
theorem tup2_neIn (l b : Addr) (x1 x2 y1 y2 : Value) (n n2 : Nat) (dd dd2 : Option Addr) (sl sl2 : Array (Option Value)) (e1 e2 : Bool) :
    MeetsIn prog w (Builtin.«tuple.__ne__» ⟨[.ref l, .ref b], []⟩)
      (fun A R s => s.heap.get? l = some { cls := .type "tuple", dict := dd, data := .seq #[x1, x2] n, slots := sl } ∧ s.heap.get? b = some { cls := .type "tuple", dict := dd2, data := .seq #[y1, y2] n2, slots := sl2 } ∧
        EqP prog w A.in1 s x1 y1 e1 ∧ EqP prog w A.in1 s x2 y2 e2 ∧ R (.ok (.ret (.bool (!(e1 && e2))))) s) :=
  .of_wp fun A R s h => by
    obtain ⟨hp, g, d, tk, os⟩ := s
    obtain ⟨hl, hb, h1, h2, h⟩ := h
    have f2 := AutoSeq1.sub_tuple_tuple
    wp_walk using wpAny_loadPart' hl, wpAny_loadPart' hb, wpAny_forIn_list _ (fun rest b s' => b.1 = none ∧ s' = ⟨hp, g, d, tk, os⟩ ∧
      (rest = [(x1, y1), (x2, y2)] ∨ rest = [(x2, y2)] ∧ e1 = true ∨ rest = [] ∧ e1 = true ∧ e2 = true)) _
    case turn =>
      rintro ⟨y, x⟩ rest c s' ⟨hc, rfl, hz⟩
      rcases hz with hz | ⟨hz, t1⟩ | ⟨hz, _⟩
      · injection hz with ha hr
        obtain ⟨rfl, rfl⟩ := Prod.mk.inj ha
        refine wpAny_bind (h1 _ _ ?_)
        cases e1 with
        | true => wp_walk; exact ⟨rfl, rfl, .inr (.inl ⟨hr, rfl⟩)⟩
        | false => wp_walk; exact ⟨_, rfl, h⟩
      · injection hz with ha hr
        obtain ⟨rfl, rfl⟩ := Prod.mk.inj ha
        refine wpAny_bind (h2 _ _ ?_)
        cases e2 with
        | true => wp_walk; exact ⟨rfl, rfl, .inr (.inr ⟨hr, t1, rfl⟩)⟩
        | false => wp_walk; exact ⟨_, rfl, by rw [t1] at h; exact h⟩
      · cases hz
    case fin =>
      rintro ⟨c1, c2⟩ s' ⟨hc, rfl, hz⟩
      simp only at hc
      subst hc
      rcases hz with hz | ⟨hz, _⟩ | ⟨_, t1, t2⟩
      · cases hz
      · cases hz
      · wp_walk
        refine ⟨_, rfl, ?_⟩
        rw [t1, t2] at h
        simpa [Builtin.Tuple.tupleCompareSizes, bne] using h
    case h => exact ⟨rfl, rfl, .inl rfl⟩
theorem rcNe_tup2 {A : Around} {s : Shared} {E Q : Value → Shared → Prop} {l b : Addr} {x1 x2 y1 y2 : Value} {e1 e2 : Bool} (hl : s.heap.IsTuple l #[x1, x2]) (hb : s.heap.IsTuple b #[y1, y2]) (hu : A.units < cLine)
    (h1 : EqP prog w A.in1 s x1 y1 e1) (h2 : EqP prog w A.in1 s x2 y2 e2) (h : Q (.bool (!(e1 && e2))) s) : wpAny (model prog w) A (richCompare .NotEq (.ref l) (.ref b)) Q E s := by
  obtain ⟨⟨cls, dd, data, sl⟩, ho, hc, n, hd⟩ := id hl
  obtain ⟨⟨cls2, dd2, data2, sl2⟩, ho2, hc2, n2, hd2⟩ := id hb
  simp only at hc hd hc2 hd2
  subst hc hd hc2 hd2
  have ta : s.TypeIs (.ref l) "tuple" := ⟨_, ho, rfl⟩
  have tb : s.TypeIs (.ref b) "tuple" := ⟨_, ho2, rfl⟩
  exact wpAny_richCompare_same_room (op := .NotEq) ta tb F.slot_tuple_ne (call_meetsIn F.slot_tuple_ne ta F.entry_tuple_ne (F.args_tuple_ne_2 _ _) (tup2_neIn l b x1 x2 y1 y2 n n2 dd dd2 sl sl2 e1 e2)
    ⟨ho, ho2, h1, h2, ⟨(fun x => nomatch x), h⟩⟩) hu
end
def rNeLD (K : PySem.W.Frag) : R2 := fun x y H Q => ∃ (a b l m d e : Addr) (xs ys : List Int) (ks : List (Key × V)), x = .ref a ∧ y = .ref b ∧ SqT K H a [.ref l, .ref d] ∧ SqT K H b [.ref m, .ref e] ∧ d ≠ e ∧
  SqL K H l (xs.map V.int) ∧ SqL K H m (ys.map V.int) ∧ H d = some (.dK ks) ∧ H e = some (.dK []) ∧ Q (.bl (!(decide (xs = ys) && decide (ks.length = 0)))) H
theorem dep_ints (xs : List Int) : (PyData.list (xs.map PyData.int)).depth ≤ 2 := by
  have h := depth_all (ds := xs.map PyData.int) (n := 1) fun d hd => by
    obtain ⟨i, _, rfl⟩ := List.mem_map.mp hd
    simp [PyData.depth]
  simp only [PyData.depth]
  omega
theorem two_refs {a b : Addr} : ∀ {us : List Value}, Vals [.ref a, .ref b] us → us = [.ref a, .ref b]
  | _, .cons h1 (.cons h2 .nil) => by cases (show _ = Value.ref a from h1); cases (show _ = Value.ref b from h2); rfl
theorem op_neLD {X : Cx} (hu : X.A.units + 64 < cLine) : OpR X (compareOp .NotEq) (rNeLD X.K) := by
  intro pins s σ H x y v u Q I rx ry h
  obtain ⟨a, b, l, m, d, e, xs, ys, ks, rfl, rfl, ha, hb, hne, hl, hm, hd, he, q⟩ := h
  cases (show v = Value.ref a from rx)
  cases (show u = Value.ref b from ry)
  obtain ⟨us, r1, p1, _⟩ := I.tuple ha
  obtain ⟨ws, r2, p2, _⟩ := I.tuple hb
  obtain rfl := two_refs r1
  obtain rfl := two_refs r2
  obtain ⟨as, ra⟩ := Dp.reads I (.list (xs.map PyData.int)) (.ref l) (.ref l) (dpL hl) rfl
  obtain ⟨bs, rb⟩ := Dp.reads I (.list (ys.map PyData.int)) (.ref m) (.ref m) (dpL hm) rfl
  have dx := dep_ints xs
  have e1 : PySem.SeqAt.EqP X.prog X.w X.A.in1 s (.ref l) (.ref m) (decide (xs = ys)) := by
    rw [← eqv_intL xs ys]
    refine (PySem.SeqAt.eqAt_reads _ _ X.A.in1 s _ _ _ _ ra rb (lay_ints xs) (lay_ints ys) ?_).eqP
    show X.A.units + 1 + _ < cLine
    have : min (PyData.list (xs.map PyData.int)).depth (PyData.list (ys.map PyData.int)).depth ≤ (PyData.list (xs.map PyData.int)).depth := Nat.min_le_left _ _
    omega
  obtain ⟨_, ya, va, qa, da⟩ := (show ObjOk X.prog X.w H s.heap d (.dK ks) from I.hok d _ hd)
  obtain ⟨_, yb, vb, qb, db⟩ := (show ObjOk X.prog X.w H s.heap e (.dK []) from I.hok e _ he)
  have lb : vb.length = 0 := by rw [← qb.length]; rfl
  have la : va.length = ks.length := qa.length.symm
  have e2 : PySem.SeqAt.EqP X.prog X.w X.A.in1 s (.ref d) (.ref e) (decide (ks.length = 0)) := by
    refine PySem.SeqAt.eqP_refs hne fun E Q' h' => ?_
    refine PySem.W.rcP_dicts (knd := mixKind X.prog X.w) (r := true) ya yb da db (by show X.A.units + 1 < cLine; omega) (fun hz => ?_) E Q' ?_
    · have : va = [] := List.length_eq_zero_iff.mp (hz.trans lb)
      rw [this]
      exact .nil
    · have ez : (va.length == vb.length && true) = decide (ks.length = 0) := by
        rw [lb, la, Bool.and_true]
        exact Bool.eq_iff_iff.mpr (by simp)
      rw [ez]; exact h'
  exact rcNe_tup2 p1 p2 (by omega) e1 e2 ⟨.bl _, H, I, rfl, q⟩
theorem op_neLD' {X : Cx} {K : PySem.W.Frag} (hK : X.K = K) (hu : X.A.units + 64 < cLine) : OpR X (compareOp .NotEq) (rNeLD K) := by subst hK; exact op_neLD hu

/-! ### dicts that are alike -/
def sameK (ks ls : List (Key × V)) : Bool := decide (ks.length = ls.length) && ks.all fun p => decide (valV ls p.1 = some p.2) && flatB p.2
theorem sameK_of {ks ls : List (Key × V)} (h : sameK ks ls = true) : ks.length = ls.length ∧ ∀ p ∈ ks, valV ls p.1 = some p.2 ∧ flatB p.2 = true := by
  unfold sameK at h
  obtain ⟨h1, h2⟩ := Bool.and_eq_true_iff.mp h
  refine ⟨of_decide_eq_true h1, fun p hp => ?_⟩
  obtain ⟨h3, h4⟩ := Bool.and_eq_true_iff.mp (List.all_eq_true.mp h2 p hp)
  exact ⟨of_decide_eq_true h3, h4⟩
def rNeDQ : R2 := fun x y H Q => ∃ a b ks ls, x = .ref a ∧ y = .ref b ∧ H a = some (.dK ks) ∧ H b = some (.dK ls) ∧ sameK ks ls = true ∧ Q (.bl false) H
def rEqDQ : R2 := fun x y H Q => ∃ a b ks ls, x = .ref a ∧ y = .ref b ∧ H a = some (.dK ks) ∧ H b = some (.dK ls) ∧ sameK ks ls = true ∧ Q (.bl true) H
theorem op_neDQ {X : Cx} (hu : X.A.units + 64 < cLine) : OpR X (compareOp .NotEq) rNeDQ := by
  intro pins s σ H x y v u Q I rx ry h
  obtain ⟨a, b, ks, ls, e1, e2, ha, hb, g, q⟩ := h
  obtain ⟨g1, g2⟩ := sameK_of g
  exact op_ne_dictA (by omega) pins s σ H x y v u Q I rx ry ⟨a, b, ks, ls, e1, e2, ha, hb, g1, g2, q⟩
theorem op_eqDQ {X : Cx} (hu : X.A.units + 64 < cLine) : OpR X (compareOp .Eq) rEqDQ := by
  intro pins s σ H x y v u Q I rx ry h
  obtain ⟨a, b, ks, ls, e1, e2, ha, hb, g, q⟩ := h
  obtain ⟨g1, g2⟩ := sameK_of g
  exact op_eq_dictA (by omega) pins s σ H x y v u Q I rx ry ⟨a, b, ks, ls, e1, e2, ha, hb, g1, g2, q⟩

/-! ### walks over a text, and over enumerate of a text -/
theorem draws_text {prog : Program} {w : World} {A : Around} (hh : A.handled = none) (it : Addr) (x : Str) (t : Tok) :
    Draws prog w A it [it] x.cps.size (fun i v => ∃ c u, x.cps[i]? = some c ∧ v = .str ⟨#[c]⟩ u) (fun i h => h.IsStrIter it (strIterType x) x t i) := by
  cases ha : x.cps.all (· < 128)
  · simp only [strIterType, ha, Bool.false_eq_true, if_false]
    exact .strWide hh it x t
  · simp only [strIterType, ha, if_true]
    exact .strAscii hh it x t
def Itse (z : Str) : It :=
  ⟨fun i _ => i < z.cps.size, fun i H v H' => ∃ T c, v = .ref T ∧ H T = none ∧ H' = upd H T (.tup [.int (i : Nat), .str ⟨#[c]⟩]) ∧ z.cps[i]? = some c, fun i _ => i = z.cps.size⟩
theorem turn_enumS {P : Program} {w : World} {K : PySem.W.Frag} {elts : List Expr} {kk : Nat} {tpos : Pos} (z : Str) (t : Tok) (e it : Addr) :
    Turn P w K (.Tuple elts kk tpos) (Itse z) [e, it] e (fun i h => (∃ old, IsEnum h e it ((i : Nat) : Int) old) ∧ h.IsStrIter it (strIterType z) z t i ∧ e ≠ it) where
  mem := by simp
  obj := fun i h st b hb => by
    obtain ⟨⟨old, he⟩, ⟨o, ho, hc, hd⟩, _⟩ := st
    have e' : b = e ∨ b = it := by simpa using hb
    rcases e' with z | z
    · rw [z]; exact ⟨_, he, fun v q => nomatch q⟩
    · rw [z]; exact ⟨o, ho, fun v q => by rw [hd] at q; cases q⟩
  keep := fun i h h' st k => let ⟨⟨old, he⟩, ⟨o, ho, r⟩, hne⟩ := st; ⟨⟨old, k e (by simp) _ he⟩, ⟨o, k it (by simp) o ho, r⟩, hne⟩
  item := by
    intro X hP hw hK hc i pins s σ H E I hf st hg
    subst hP hw hK
    obtain ⟨⟨old, he⟩, hit, hne⟩ := st
    have hel : e < s.heap.objs.size := Heap.lt_size he
    have hil : it < s.heap.objs.size := by obtain ⟨_, q, _⟩ := hit; exact Heap.lt_size q
    refine wpAny_pyNext_enum_itemD (fp := [it]) (St := fun i h => h.IsStrIter it (strIterType z) z t i) (draws_text (A := X.A.in1) (I.ok.hd hc) it z t) he hit hg hne (by simpa using hne) fun x h' tk hPx ho hit' hT hsz hk => ?_
    obtain ⟨c, u, hcx, rfl⟩ := hPx
    refine ⟨_, rfl, wpAny_letOwnedTupleGo_enum (s := { s with heap := h', toks := tk + 1 }) ho fun h'' he' sb => ?_⟩
    have hT2 : h''.get? s.heap.objs.size = some { cls := .type "tuple", data := .seq #[.int i tk, .str ⟨#[c]⟩ u] } := (sb.2 _ (Nat.ne_of_gt hel)).trans hT
    have new : ObjOk X.prog X.w (upd H s.heap.objs.size (.tup [.int (i : Nat), .str ⟨#[c]⟩])) h'' s.heap.objs.size (.tup [.int (i : Nat), .str ⟨#[c]⟩]) :=
      ⟨by show 2 ≤ sizeLine; decide, [.int i tk, .str ⟨#[c]⟩ u], .cons ⟨_, rfl⟩ (.cons ⟨_, rfl⟩ .nil), ⟨_, hT2, rfl, _, rfl⟩⟩
    have I1 : Inv X pins σ (upd H s.heap.objs.size (.tup [.int (i : Nat), .str ⟨#[c]⟩])) { s with heap := h'', toks := tk + 1 } :=
      I.turnedNew (ch := [e, it]) (fun b ob hb q => (sb.2 b (fun z => hb (by simp [z]))).trans (hk b ob (fun z => hb (by simp [z])) (fun z => hb (by simp [z])) q)) hf (Nat.le_refl _) new
    refine ⟨.ref s.heap.objs.size, _, I1, rfl, ⟨_, c, rfl, I.hok.fresh (Nat.le_refl _), rfl, hcx⟩, ⟨⟨.str ⟨#[c]⟩ u, ?_⟩, ?_, hne⟩, fun b hb => ?_⟩
    · have e1 : ((i + 1 : Nat) : Int) = (i : Int) + 1 := by omega
      rw [e1]; exact he'
    · obtain ⟨o, ho2, r⟩ := hit'
      exact ⟨o, (sb.2 it (Ne.symm hne)).trans ho2, r⟩
    · have hb' : b < s.heap.objs.size := by
        have e' : b = e ∨ b = it := by simpa using hb
        rcases e' with z | z
        · rw [z]; exact hel
        · rw [z]; exact hil
      rw [upd_ne (Nat.ne_of_lt hb')]
      exact (hf b hb).1
  done := by
    intro X hP hw hK hc i pins s σ H E I hf st hg
    subst hP hw hK
    obtain ⟨⟨old, he⟩, hit, hne⟩ := st
    have hg : i = z.cps.size := hg
    subst hg
    obtain ⟨f0, f1, f2, f3, f4, f5⟩ := hf it (by simp)
    exact wpAny_pyNext_enum_endD (fp := [it]) (St := fun i h => h.IsStrIter it (strIterType z) z t i) (draws_text (A := X.A.in1) (I.ok.hd hc) it z t) he hit fun h' eb => ⟨rfl, I.turned (t' := s.toks) (fun b o hb q => eb b o hb q) f0 f1 f3 f4 f5⟩
  self := fun A i s Q E st h => let ⟨⟨_, he⟩, _⟩ := st; wpAny_pyIter_enum he h
def iEnumS (ta : TA) : TI := fun σ H R => ta σ H fun vs H1 => ∃ z, vs = [.str z] ∧ R (Itse z) H1
theorem pi_enumS {X : Cx} {e : Expr} {ta : TA} {p pos tpos : Pos} {elts : List Expr} {kk : Nat} (hg : Gl X "enumerate") (hm : X.mg "enumerate" = none) (ha : PA X [e] ta) (hs : starEach [e] X.env = [(false, eval e X.env)] := by rfl) :
    PI X (.Tuple elts kk tpos) (.Call (.Name "enumerate" p) [e] [] pos) (iEnumS ta) := by
  refine ⟨fun pins s σ H R I h => ?_⟩
  refine Call_ (ld_blt I hg hm boot_enumerate (PyProof.Rows.callWith_type1 (thn (ha.run pos pins s σ H _ I h) fun us s1 ⟨vs, H1, I1, r1, q1⟩ => ?_) hs rfl))
  obtain ⟨z, ex, q⟩ := q1
  subst ex
  cases r1 with
  | cons r rr =>
    cases rr
    obtain ⟨t, rfl⟩ := r
    refine call_enumerate_str fun h' he hit hsz hk => wpAny_pyIter_enum he ?_
    have I2 : Inv X pins σ H1 { s1 with heap := h' } := I1.kept (t' := s1.toks) hk
    refine ⟨s1.heap.objs.size + 1, [s1.heap.objs.size + 1, s1.heap.objs.size], _, _, H1, rfl, I2, turn_enumS z t (s1.heap.objs.size + 1) s1.heap.objs.size, ⟨⟨.none, he⟩, hit, Nat.succ_ne_self _⟩, fun b hb => ?_, q⟩
    have e' : b = s1.heap.objs.size + 1 ∨ b = s1.heap.objs.size := by simpa using hb
    have hle : s1.heap.objs.size ≤ b := by
      rcases e' with z | z
      · rw [z]; exact Nat.le_add_right _ _
      · rw [z]; exact Nat.le_refl _
    exact I1.fpOk hle (I1.hok.fresh hle)
theorem sgn_get {z : Str} {i : Nat} {c : Nat} (h : z.cps[i]? = some c) : (sgn z)[i]? = some (⟨#[c]⟩ : Str) := by
  unfold sgn
  rw [List.getElem?_map, Array.getElem?_toList, h]; rfl
theorem for_strN {z : Str} {g : TG} {tb : TS} {nx : L2.St → Hp → Prop} {rt : VK} {σ : L2.St} {H : Hp} (Pv : Nat → L2.St → Hp → Prop) (h0 : Pv 0 σ H)
    (hs : ∀ i c σ H, (sgn z)[i]? = some c → Pv i σ H → g (.str c) σ H fun σ2 H2 => tb { nx := Pv (i + 1), rt := rt, bk := nx, ct := Pv (i + 1) } σ2 H2) (hd : ∀ σ H, Pv (sgn z).length σ H → nx σ H) :
    ∃ W : Nat → Nat → L2.St → Hp → Prop, (∃ m, W 0 m σ H) ∧ ∀ i m σ H, W i m σ H →
      ((Its z).stop i H ∧ nx σ H) ∨ ((Its z).go i H ∧ ∃ N : L2.St → Hp → Prop, (∀ σ' H', N σ' H' → ∃ m', m' < m ∧ W (i + 1) m' σ' H') ∧ ∀ x H', (Its z).yld i H x H' → g x σ H' fun σ2 H2 => tb { nx := N, rt := rt, bk := nx, ct := N } σ2 H2) := by
  refine ⟨fun i m σ H => m = z.cps.size - i ∧ i ≤ z.cps.size ∧ Pv i σ H, ⟨z.cps.size, by simp, Nat.zero_le _, h0⟩, ?_⟩
  rintro i m σ H ⟨rfl, hi, p⟩
  by_cases hlt : i < z.cps.size
  · refine .inr ⟨hlt, Pv (i + 1), fun σ' H' p' => ⟨z.cps.size - (i + 1), by omega, rfl, hlt, p'⟩, fun v H' y => ?_⟩
    obtain ⟨eH, c, hc, ev⟩ := y
    subst ev eH
    exact hs i _ σ _ (sgn_get hc) p
  · refine .inl ⟨show z.cps.size ≤ i by omega, hd σ H ?_⟩
    rw [sgn_len, show z.cps.size = i by omega]; exact p
theorem for_enumSN {z : Str} {g : TG} {tb : TS} {nx : L2.St → Hp → Prop} {rt : VK} {σ : L2.St} {H : Hp} (Pv : Nat → L2.St → Hp → Prop) (h0 : Pv 0 σ H)
    (hs : ∀ i c T σ H, (sgn z)[i]? = some c → Pv i σ H → H T = none → g (.ref T) σ (upd H T (.tup [.int (i : Nat), .str c])) fun σ2 H2 => tb { nx := Pv (i + 1), rt := rt, bk := nx, ct := Pv (i + 1) } σ2 H2) (hd : ∀ σ H, Pv (sgn z).length σ H → nx σ H) :
    ∃ W : Nat → Nat → L2.St → Hp → Prop, (∃ m, W 0 m σ H) ∧ ∀ i m σ H, W i m σ H →
      ((Itse z).stop i H ∧ nx σ H) ∨ ((Itse z).go i H ∧ ∃ N : L2.St → Hp → Prop, (∀ σ' H', N σ' H' → ∃ m', m' < m ∧ W (i + 1) m' σ' H') ∧ ∀ x H', (Itse z).yld i H x H' → g x σ H' fun σ2 H2 => tb { nx := N, rt := rt, bk := nx, ct := N } σ2 H2) := by
  refine ⟨fun i m σ H => m = z.cps.size - i ∧ i ≤ z.cps.size ∧ Pv i σ H, ⟨z.cps.size, by simp, Nat.zero_le _, h0⟩, ?_⟩
  rintro i m σ H ⟨rfl, hi, p⟩
  by_cases hlt : i < z.cps.size
  · refine .inr ⟨hlt, Pv (i + 1), fun σ' H' p' => ⟨z.cps.size - (i + 1), by omega, rfl, hlt, p'⟩, fun v H' y => ?_⟩
    obtain ⟨T, c, ev, nT, eH, hc⟩ := y
    subst ev eH
    exact hs i _ T σ _ (sgn_get hc) p nT
  · refine .inl ⟨show i = z.cps.size by omega, hd σ H ?_⟩
    rw [sgn_len, show z.cps.size = i by omega]; exact p

/-! ### a text times a number; a text the other way round -/
def repS (z : Str) (n : Nat) : Str := ⟨(List.replicate n z.cps).foldl (· ++ ·) #[]⟩
theorem fold_empty {α : Type} : ∀ n : Nat, (List.replicate n (#[] : Array α)).foldl (· ++ ·) #[] = #[]
  | 0 => rfl
  | n + 1 => by rw [List.replicate_succ, List.foldl_cons, Array.append_empty, fold_empty n]
theorem repS_one (z : Str) : repS z 1 = z := by
  unfold repS
  show (⟨#[] ++ z.cps⟩ : Str) = z
  rw [Array.empty_append]
theorem repS_none {z : Str} (h : z.length = 0) (n : Nat) : repS z n = z := by
  obtain ⟨c⟩ := z
  have hc : c = #[] := Array.eq_empty_of_size_eq_zero h
  subst hc
  unfold repS
  rw [fold_empty]
def rRepS : R2 := fun x y H Q => ∃ z k, x = .str z ∧ y = .int k ∧ (0 ≤ k ∧ k ≤ 1000) ∧ z.length * k.toNat ≤ 16000000 ∧ Q (.str (repS z k.toNat)) H
theorem op_mulS {X : Cx} : OpR X (binaryOp .Mult) rRepS := by
  intro pins s σ H x y v u Q I rx ry h
  obtain ⟨z, k, rfl, rfl, ⟨h0, h1⟩, hz, q⟩ := h
  obtain ⟨t1, rfl⟩ := rx
  obtain ⟨t, rfl⟩ := ry
  have hlong : Builtin.Str.tooLong (z.length * k.toNat) = false := by
    unfold Builtin.Str.tooLong
    exact decide_eq_false (by have : (16000000 : Nat) < sizeLine := by decide
                              omega)
  refine PySem.P.mul_str ?_ (fun hk _ => ?_) (fun _ _ => hlong) ?_
  · rw [decide_eq_false (by omega), decide_eq_false (by omega)]; rfl
  · have hd : (2 ^ 63 - 1) / 1000 ≤ ((2 : Int) ^ 63 - 1) / k := by
      refine (Int.le_ediv_iff_mul_le (by omega)).mpr ?_
      have : ((2 : Int) ^ 63 - 1) / 1000 * k ≤ ((2 : Int) ^ 63 - 1) / 1000 * 1000 := Int.mul_le_mul_of_nonneg_left h1 (by decide)
      have : ((2 : Int) ^ 63 - 1) / 1000 * 1000 ≤ (2 : Int) ^ 63 - 1 := by decide
      omega
    have h3 : (z.length : Int) ≤ 16000000 := by
      have : z.length * 1 ≤ z.length * k.toNat := Nat.mul_le_mul_left _ (by omega)
      omega
    have h4 : (16000000 : Int) ≤ ((2 : Int) ^ 63 - 1) / 1000 := by decide
    omega
  · by_cases c : k < 1
    · rw [if_pos c]
      have e0 : k.toNat = 0 := by omega
      rw [e0] at q
      exact ⟨by decide, .str _, H, I.tok _, ⟨_, rfl⟩, q⟩
    · rw [if_neg c]
      by_cases d : (k == 1 || z.length == 0) = true
      · rw [if_pos d]
        have e : repS z k.toNat = z := by
          rcases Bool.or_eq_true_iff.mp d with g | g
          · have : k = 1 := eq_of_beq g
            subst this
            exact repS_one z
          · exact repS_none (eq_of_beq g) _
        rw [e] at q
        exact ⟨.str z, H, I, ⟨t1, rfl⟩, q⟩
      · rw [if_neg d]
        refine ⟨?_, .str _, H, I.tok _, ⟨_, rfl⟩, q⟩
        exact PySem.fits_reps hlong
def revS (z : Str) : Str := ⟨((List.range z.length).map fun k => z.cps.getD (z.length - 1 - k) 0).toArray⟩
theorem revS_len (z : Str) : (revS z).length = z.length := by
  unfold revS Str.length
  simp
def tRevS (te : TE) : TE := fun σ H Q => te σ H fun x H1 => ∃ z, x = .str z ∧ z.length ≤ sizeLine ∧ Q (.str (revS z)) H1
theorem pe_revS {X : Cx} {e : Expr} {te : TE} {k : Nat} {p1 p2 p3 pos : Pos} (he : PE X e te) : PE X (.Subscript e (.Slice none none (some (.UnaryOp .USub (.Constant (.int 1) k p1) p2)) p3) pos) (tRevS te) := by
  refine ⟨fun pins s σ H Q I h => ?_⟩
  refine Subscript_ (thn (he.run pins s σ H _ I h) fun v s1 ⟨x, H1, I1, r1, q1⟩ => ?_)
  obtain ⟨z, ex, hz, q⟩ := q1
  subst ex
  obtain ⟨t, rfl⟩ := r1
  have hst : PO X (some (.UnaryOp .USub (.Constant (.int 1) k p1) p2)) (tPart (tUn (rU fun i => .int (-i)) (tC (.int 1)))) := po_some (pe_un un_neg pe_int)
  refine wpAny_Slice (thn (po_none.run pins s1 σ H1 (fun o H2 => o = none ∧ H2 = H1) I1 ⟨rfl, rfl⟩) fun vl s2 ⟨l, H2, I2, pl, el, e2⟩ => ?_)
  subst el e2
  refine thn (po_none.run pins s2 σ H2 (fun o H3 => o = none ∧ H3 = H2) I2 ⟨rfl, rfl⟩) fun vu s3 ⟨u, H3, I3, pu, eu, e3⟩ => ?_
  subst eu e3
  refine thn (hst.run pins s3 σ H3 (fun o H4 => o = some (-1) ∧ H4 = H3) I3 ⟨1, rfl, -1, rfl, rfl, rfl⟩) fun vs s4 ⟨o, H4, I4, ps, eo, e4⟩ => ?_
  subst eo e4
  obtain ⟨l', rfl, hl'⟩ := IsPart.raw pl
  obtain ⟨u', rfl, hu'⟩ := IsPart.raw pu
  obtain ⟨w', rfl, hw'⟩ := IsPart.raw ps
  obtain rfl : l' = none := by cases l' with | none => rfl | some _ => cases hl'
  obtain rfl : u' = none := by cases u' with | none => rfl | some _ => cases hu'
  obtain ⟨uu, rfl⟩ : ∃ uu, w' = some (-1, uu) := by
    cases w' with
    | none => cases hw'
    | some y => obtain ⟨a, b⟩ := y; cases hw'; exact ⟨b, rfl⟩
  have I5 : Inv X pins σ H4 { s4 with heap := s4.heap.push { cls := .type "slice", data := .fields #[partValue none, partValue none, partValue (some (-1, uu))] } } := I4.kept (t' := s4.toks) fun b ob q => Heap.get?_push_of_some _ q
  refine tail_any (ops := [.str z t, .ref s4.heap.objs.size]) (typeIs_str _ z t) F.slot_str_getitem.lookup ?_ (by with_unfolding_all rfl)
  refine wpAny_getItem_str_slice (l := none) (u := none) (st := some (-1, uu)) ⟨_, Heap.get?_push_size _ rfl, rfl, rfl⟩ rfl ?_
  have hs := PyProof.Rows.step_rev_list z uu
  have hn : ¬ (((((some ((-1 : Int), uu)).map (·.1)).getD 1 == 1) && ((slicePicked z none none (some (-1, uu))).length == z.length)) = true) := by
    have : ((((some ((-1 : Int), uu)).map (·.1)).getD 1 == 1)) = false := rfl
    rw [this]; simp
  unfold Txt.sliceBy at hs
  rw [if_neg hn] at hs
  unfold sliceMade
  rw [if_neg hn]
  have he : ((slicePicked z none none (some (-1, uu))).filterMap (z.cps[·]?)).toArray = (revS z).cps := by
    unfold revS
    rw [← hs]
  have hl : ((⟨((slicePicked z none none (some (-1, uu))).filterMap (z.cps[·]?)).toArray⟩ : Str)).length ≤ sizeLine := by
    rw [he]
    have := revS_len z
    exact this ▸ hz
  refine ⟨hl, .str _, H4, I5.tok _, ⟨_, rfl⟩, ?_⟩
  rw [he]; exact q

/-! ### a value of one of two kinds -/
instance {α β : Type} [Imm α] [Imm β] : Imm (α ⊕ β) := ⟨fun H v x => match x with
  | .inl y => Imm.at_ H v y
  | .inr y => Imm.at_ H v y, fun {H H' v x} t h => by
    cases x with
    | inl y => exact Imm.mono t h
    | inr y => exact Imm.mono t h⟩
theorem imL {α β : Type} [Imm α] [Imm β] {H : Hp} {v : V} {x : α} (h : Imm.at_ H v x) : Imm.at_ H v (.inl x : α ⊕ β) := h
theorem imR {α β : Type} [Imm α] [Imm β] {H : Hp} {v : V} {x : β} (h : Imm.at_ H v x) : Imm.at_ H v (.inr x : α ⊕ β) := h
/-- two kinds never alike -/
class DatX (α β : Type) [Imm α] [DecidableEq α] [Dat α] [Imm β] [DecidableEq β] [Dat β] : Prop where
  n1 : ∀ (x : α) (y : β), PyData.eqv (Dat.d x) (Dat.d y) = false
  n2 : ∀ (x : α) (y : β), PyData.eqv (Dat.d y) (Dat.d x) = false
instance {α β : Type} [Imm α] [Imm β] [DecidableEq α] [DecidableEq β] [Dat α] [Dat β] : DatX Str (α × β) := ⟨fun _ _ => by simp [Dat.d, PyData.eqv], fun _ _ => by simp [Dat.d, PyData.eqv]⟩
instance {α β : Type} [Imm α] [Imm β] [DecidableEq α] [DecidableEq β] [Dat α] [Dat β] [DatX α β] : Dat (α ⊕ β) where
  d := fun o => match o with
    | .inl x => Dat.d x
    | .inr x => Dat.d x
  b := fun o => match o with
    | .inl x => Dat.b x
    | .inr x => Dat.b x
  dep := max (Dat.dep α) (Dat.dep β)
  dp := fun {_ _ v x} g h => by
    cases x with
    | inl y => exact Dat.dp g h
    | inr y => exact Dat.dp g h
  ok := fun {x _} g l => by
    cases x with
    | inl y => exact Dat.ok g (by omega)
    | inr y => exact Dat.ok g (by omega)
  eq := fun {x y} g1 g2 => by
    cases x with
    | inl x => cases y with
      | inl y => exact (Dat.eq g1 g2).trans (by simp)
      | inr y => exact (DatX.n1 x y).trans (by simp)
    | inr x => cases y with
      | inl y => exact (DatX.n2 y x).trans (by simp)
      | inr y => exact (Dat.eq g1 g2).trans (by simp)

def m_number_in_l1  (k8 : Str) (a7 : (List Bool)) : Option ((List Bool)) :=
  (oneS k8).bind fun c17 =>
  snoc a7 (decide (c17 ∈ (Str.cps ("0123456789" : Str)).toList))
def m_number_in (text_ : Str) : Option ((Option Int)) :=
  if text_ = ("" : Str) then
    some none
  else
    if text_.length < 16000000 then
    if (5 : Int) < (text_.length : Int) then
      some none
    else
      (forS (m_number_in_l1) (sgn text_) []).bind fun a7 =>
      if (a7.all id) = true then
        (atI (Str.cps text_).toList (0 : Int)).bind fun c25 =>
        if text_.length < 16000000 then
        if (⟨#[c25]⟩ : Str) = ("0" : Str) then
          if ¬ text_ = ("0" : Str) then
            some none
          else
            (PySem.intText? text_).bind fun y30 =>
            if text_.length ≤ 640 then
            some (some y30) else none
        else
          (PySem.intText? text_).bind fun y33 =>
          if text_.length ≤ 640 then
          some (some y33) else none else none
      else
        some none else none
section
variable {P : Program} {w : World} {K : PySem.W.Frag} {mg : Str → Option Value} {base : Heap}
def sp_number_in (K : PySem.W.Frag) : Sp := fun vs H Q E_ => ∃ (text_ : Str) (r_ : (Option Int)), vs = [(.str text_)] ∧ (oks H [] ∧ (owns []).Nodup ∧ m_number_in text_ = some r_ ∧ (∀ (H' : Hp) (vz : V), Sep (owns []) H H' [aV vz r_] → Q vz H'))
abbrev N_number_in : List Str := ["text", "sign"]
theorem sc_number_in : FnScope N_number_in ["text"] (defScope s_number_in) := ⟨rfl, rfl, rfl, by decide +kernel, rfl, by decide +kernel, by decide +kernel⟩
theorem ok_number_in (T : Txt K mg) : Ok P w K mg base CX0 1 (He.fAd K ("number_in", none)) ["text"] (sp_number_in K) := by
  obtain ⟨fd, F⟩ := T.d_number_in
  refine ⟨fd, F.ok sc_number_in (fun vs H Q E h => by obtain ⟨text_, r_, rfl, _⟩ := h; rfl) (fun cdv A_ outer s_ H vs Q E hr h => ?_), F.bindsN (fun _ _ _ _ _ _ us hl => match us, hl with | [_], _ => rfl), F.kp⟩
  obtain ⟨text_, r_, rfl, h⟩ := h
  have hu := hu_of hr
  refine ⟨_, PSs.nox (pss_cons (ps_if (PW.pt (pw_or (pt_cmpR op_eq (pv 0) pe_str (nomark _)) (pw_or (pt_cmpR op_gt (pe_callB call_len_str (by rfl) T.f_len PySem.boot_len (pa_cons (pv 0) pa_nil)) pe_int (nomark _)) (pw_or (pt_not (pt_val (pe_callB (cr_all rfl) (by rfl) T.f_all (by decide +kernel) (pa_cons (pe_lc (own := [("sign", 1)]) (g := gName 1) (tt := tYes) rfl sc_number_in.nd (pi_str (pv 0)) (blkOk_by (own := [("sign", 1)]) (N := N_number_in) (sc := defScope s_number_in) (by decide +kernel)) (fun _ _ _ _ _ => pg_name (i := 1) sc_number_in.nd rfl (Or.inl rfl)) (fun _ _ _ _ _ => pts_nil) (fun _ _ _ _ _ => (pe_cmpR op_in_sign (pv 1) (gs_ (by rfl) T.c_FIGURES) rfl))) pa_nil)))) (pw_or1 (PW.pt (pw_and (pt_cmpR op_eq (pe_ix ix_str (pv 0) pe_int (fun _ _ => rfl)) pe_str (nomark _)) (pw_and1 (pt_cmpR op_ne (pv 0) pe_str (nomark _)))))))))) (pss_one (ps_ret pe_non)) pss_nil)
  (pss_one (ps_ret (pe_callTy call_int_str (by rfl) T.f_int (by decide +kernel) (pa_cons (pv 0) pa_nil))))), ?_⟩
  obtain ⟨hp1, hp2, hm, q⟩ := h
  have hs := Sep.pre (L := []) ⟨hp1, hp2⟩
  unfold m_number_in at hm
  clear hp1 hp2
  refine ⟨_, rfl, rfl, _, dS, ?_⟩
  refine iteD (fun c1 => ?_) (fun c1 => ?_)
  · replace hm := ift c1 hm
    replace hs := hs.addV (v := .non) (x := (none : (Option Int))) imN
    replace hs : Sep (owns []) H H [aV .non (none : (Option Int))] := hs.tk 1
    obtain rfl := Option.some.inj hm
    exact q H .non hs
  · replace hm := ife c1 hm
    obtain ⟨g3, hm⟩ := gd hm
    refine ⟨_, rfl, _, rfl, small_le (Nat.le_of_lt (Nat.lt_trans g3 (by decide))), ?_⟩
    refine ⟨_, _, rfl, rfl, _, rfl, ?_⟩
    refine iteD (fun c4 => ?_) (fun c4 => ?_)
    · replace hm := ift c4 hm
      replace hs := hs.addV (v := .non) (x := (none : (Option Int))) imN
      replace hs : Sep (owns []) H H [aV .non (none : (Option Int))] := hs.tk 1
      obtain rfl := Option.some.inj hm
      exact q H .non hs
    · replace hm := ife c4 hm
      obtain ⟨z9, eL10, hm⟩ := bnd hm
      refine ⟨_, rfl, _, rfl, fun p11 n12 => lc_str (z := text_) (fun i13 H14 => ∃ (a7 : (List Bool)), forS (m_number_in_l1) ((sgn text_).drop i13) a7 = some z9 ∧ Sep (owns []) H H14 (aL p11 a7 :: [])) ⟨([] : (List Bool)), eL10, hs.newL n12 .nil⟩ ?_ ?_⟩
      · rintro i13 k8 H14 hi15 ⟨a7, hf, hs⟩
        obtain ⟨sN_, hm, hf⟩ := forS_s hi15 hf
        unfold m_number_in_l1 at hm
        refine ⟨by kernel_rfl, ?_⟩
        obtain ⟨c17, ec17, hm⟩ := bnd hm
        obtain ⟨vs18, hD19, hv20⟩ := hs.lst 0 rfl
        obtain ⟨g21, g22⟩ := snoc_eq hm
        subst g22
        refine ⟨_, rfl, _, _, (congrArg V.str (oneS_eq ec17)), rfl, _, hD19, small_ (by have := hv20.length; omega), ?_⟩
        replace hv20 := hv20.snoc (v := (.bl (decide (c17 ∈ (Str.cps ("0123456789" : Str)).toList)))) (x := (decide (c17 ∈ (Str.cps ("0123456789" : Str)).toList) : Bool)) imB
        replace hs : Sep (owns []) H H14 [aL p11 a7] := hs.tk 1
        exact ⟨_, hf, hs.putL 0 rfl hD19 hv20⟩
      rintro H14 ⟨a7, hf, hs⟩
      have ez_ := forS_e (Nat.le_of_eq rfl) hf
      subst ez_
      have f23 := hs.scs 0 rfl
      refine ⟨_, a7, rfl, SqL.of f23, ?_⟩
      refine ⟨_, dB, ?_⟩
      refine iteNot (fun c24 => ?_) (fun c24 => ?_)
      · replace hm := ift c24 hm
        obtain ⟨c25, ec25, hm⟩ := bnd hm
        obtain ⟨g26, hm⟩ := gd hm
        refine ⟨_, rfl, _, _, _, rfl, rfl, small_le (Nat.le_of_lt (Nat.lt_trans g26 (by decide))), ec25, rfl, _, dS, ?_⟩
        refine iteD (fun c27 => ?_) (fun c27 => ?_)
        · replace hm := ift c27 hm
          refine ⟨_, rfl, rfl, _, dnS, ?_⟩
          refine iteD (fun c28 => ?_) (fun c28 => ?_)
          · replace hm := ift c28 hm
            replace hs := hs.addV (v := .non) (x := (none : (Option Int))) imN
            replace hs : Sep (owns []) H H14 [aV .non (none : (Option Int))] := hs.tk 1
            obtain rfl := Option.some.inj hm
            exact q H14 .non hs
          · replace hm := ife c28 hm
            obtain ⟨y30, ey30, hm⟩ := bnd hm
            obtain ⟨g31, hm⟩ := gd hm
            refine ⟨_, rfl, _, _, rfl, ey30, g31, ?_⟩
            replace hs := hs.addV (v := (.int (y30))) (x := ((some y30) : (Option Int))) (imO imI)
            replace hs : Sep (owns []) H H14 [aV (.int (y30)) ((some y30) : (Option Int))] := hs.tk 1
            obtain rfl := Option.some.inj hm
            exact q H14 (.int (y30)) hs
        · replace hm := ife c27 hm
          obtain ⟨y33, ey33, hm⟩ := bnd hm
          obtain ⟨g34, hm⟩ := gd hm
          refine ⟨_, rfl, _, _, rfl, ey33, g34, ?_⟩
          replace hs := hs.addV (v := (.int (y33))) (x := ((some y33) : (Option Int))) (imO imI)
          replace hs : Sep (owns []) H H14 [aV (.int (y33)) ((some y33) : (Option Int))] := hs.tk 1
          obtain rfl := Option.some.inj hm
          exact q H14 (.int (y33)) hs
      · replace hm := ife c24 hm
        replace hs := hs.addV (v := .non) (x := (none : (Option Int))) imN
        replace hs : Sep (owns []) H H14 [aV .non (none : (Option Int))] := hs.tk 1
        obtain rfl := Option.some.inj hm
        exact q H14 .non hs
end
def m_check_of_l1  (k10 : (Int × Str)) (s9 : Int) : Option (Int) :=
  if k10.2.length = 1 then
  if CMul (k10.1 + (1 : Int)) ((k10.2.cps.getD 0 0 : Nat) : Int) then
  if 0 < (9973 : Int) then
  (some ((s9 + ((k10.1 + (1 : Int)) * ((k10.2.cps.getD 0 0 : Nat) : Int))) % (9973 : Int))).bind fun n32 =>
  some n32 else none else none else none
def m_check_of (kind_ : Str) (number_ : Int) (text_ : Str) : Option (Int) :=
  if number_.natAbs.log2 < 1920 then
  if kind_.length + (strI number_).length < 16000000 then
  if (kind_ ++ (strI number_)).length + (" " : Str).length < 16000000 then
  if ((kind_ ++ (strI number_)) ++ (" " : Str)).length + text_.length < 16000000 then
  (forS (m_check_of_l1) (enumL (sgn (((kind_ ++ (strI number_)) ++ (" " : Str)) ++ text_))) (0 : Int)).bind fun (s9 : Int) =>
  some s9 else none else none else none else none
section
variable {P : Program} {w : World} {K : PySem.W.Frag} {mg : Str → Option Value} {base : Heap}
def sp_check_of (K : PySem.W.Frag) : Sp := fun vs H Q E_ => ∃ (kind_ : Str) (number_ : Int) (text_ : Str) (r_ : Int), vs = [(.str kind_), (.int number_), (.str text_)] ∧ (oks H [] ∧ (owns []).Nodup ∧ m_check_of kind_ number_ text_ = some r_ ∧ (∀ (H' : Hp) , Sep (owns []) H H' [] → Q (.int r_) H'))
abbrev N_check_of : List Str := ["kind", "number", "text", "found", "at", "sign"]
theorem sc_check_of : FnScope N_check_of ["kind", "number", "text"] (defScope s_check_of) := ⟨rfl, rfl, rfl, by decide +kernel, rfl, by decide +kernel, by decide +kernel⟩
theorem ok_check_of (T : Txt K mg) : Ok P w K mg base CX0 1 (He.fAd K ("check_of", none)) ["kind", "number", "text"] (sp_check_of K) := by
  obtain ⟨fd, F⟩ := T.d_check_of
  refine ⟨fd, F.ok sc_check_of (fun vs H Q E h => by obtain ⟨kind_, number_, text_, r_, rfl, _⟩ := h; rfl) (fun cdv A_ outer s_ H vs Q E hr h => ?_), F.bindsN (fun _ _ _ _ _ _ us hl => match us, hl with | [_, _, _], _ => rfl), F.kp⟩
  obtain ⟨kind_, number_, text_, r_, rfl, h⟩ := h
  have hu := hu_of hr
  refine ⟨_, PSs.nox (pss_cons (ps_set (i := 3) sc_check_of.nd rfl (.inl rfl) pe_int)
  (pss_cons (ps_for PassesOwn.never rfl (pi_enumS (by rfl) T.f_enumerate (pa_cons (pe_op op_add_str (pe_op op_add_str (pe_op op_add_str (pv 0) (pe_callTy call_str_int (by rfl) T.f_str (by decide +kernel) (pa_cons (pv 1) pa_nil))) pe_str) (pv 2)) pa_nil)) (pg_tup rfl (pgs_cons (pg_name (i := 4) sc_check_of.nd rfl (.inl rfl)) (pgs_cons (pg_name (i := 5) sc_check_of.nd rfl (.inl rfl)) pgs_nil))) (pss_one (ps_set (i := 3) sc_check_of.nd rfl (.inl rfl) (pe_op op_mod (pe_op op_add (pv 3) (pe_op op_mul (pe_op op_add (pv 4) pe_int) (pe_callB call_ord (by rfl) T.f_ord (by decide +kernel) (pa_cons (pv 5) pa_nil)))) (gi_ (by rfl) T.c_MODULUS)))))
  (pss_one (ps_ret (pv 3))))), ?_⟩
  obtain ⟨hp1, hp2, hm, q⟩ := h
  have hs := Sep.pre (L := []) ⟨hp1, hp2⟩
  unfold m_check_of at hm
  clear hp1 hp2
  obtain ⟨g1, hm⟩ := gd hm
  refine ⟨_, rfl, _, rfl, _, rfl, g1, ?_⟩
  obtain ⟨g2, hm⟩ := gd hm
  obtain ⟨g3, hm⟩ := gd hm
  obtain ⟨g4, hm⟩ := gd hm
  obtain ⟨z11, eL12, hm⟩ := bnd hm
  replace hs : Sep (owns []) H H [] := hs.tk 0
  refine ⟨_, _, rfl, rfl, small_le (Nat.le_of_lt (Nat.lt_trans g2 (by decide))), _, _, rfl, rfl, small_le (Nat.le_of_lt (Nat.lt_trans g3 (by decide))), _, rfl, _, _, rfl, rfl, small_le (Nat.le_of_lt (Nat.lt_trans g4 (by decide))), _, rfl, for_enumSN (z := (((kind_ ++ (strI number_)) ++ (" " : Str)) ++ text_)) (fun i18 σ20 H19 => ∃ (s9 : Int) (o16 : Option V) (o17 : Option V), forS (m_check_of_l1) ((enumL (sgn (((kind_ ++ (strI number_)) ++ (" " : Str)) ++ text_))).drop i18) s9 = some z11 ∧ Sep (owns []) H H19 [] ∧ σ20 = [some (.str kind_), some (.int number_), some (.str text_), some (.int s9), o16, o17]) ⟨(0 : Int), _, _, eL12, hs, rfl⟩ ?_ ?_⟩
  · rintro i18 y23 T24 σ20 H19 hi21 ⟨s9, o16, o17, hf13, hs, rfl⟩ nT25
    obtain ⟨cN14, hm, hf13⟩ := forS_s (enumL_get hi21) hf13
    obtain ⟨k10, hx1_⟩ : ∃ z_, z_ = (((i18 : Nat) : Int), y23) := ⟨_, rfl⟩
    rw [← hx1_] at hm
    have e1_ : ((i18 : Nat) : Int) = k10.1 := by rw [hx1_]
    have e2_ : y23 = k10.2 := by rw [hx1_]
    rw [e1_, e2_]
    clear e1_ e2_ hx1_
    try dsimp only
    generalize ee_ : upd H19 T24 _ = H26
    replace hs := (hs.newTup nT25 [(.int k10.1), (.str k10.2)]).cast ee_
    clear ee_
    unfold m_check_of_l1 at hm
    have f28 := hs.tup 0 rfl
    refine ⟨_, _, rfl, SqT.of f28, rfl, _, _, rfl, _, _, rfl, rfl, ?_⟩
    obtain ⟨g29, hm⟩ := gd hm
    refine ⟨_, rfl, _, rfl, _, _, rfl, rfl, _, rfl, _, rfl, g29, ?_⟩
    obtain ⟨g30, hm⟩ := gd hm
    obtain ⟨g31, hm⟩ := gd hm
    refine ⟨_, _, rfl, rfl, g30, _, _, rfl, rfl, _, _, rfl, rfl, g31, ?_⟩
    obtain ⟨n32, en32, hm⟩ := bnd hm
    try dsimp only
    rw [Option.some.inj en32]
    replace hs : Sep (owns []) H H26 [] := hs.tk 0
    obtain rfl := Option.some.inj hm
    exact ⟨n32, _, _, hf13, hs, rfl⟩
  rintro σ20 H19 ⟨s9, o16, o17, hf13, hs, rfl⟩
  have ez_ := forS_e (Nat.le_of_eq enumL_len) hf13
  subst ez_
  refine ⟨_, rfl, ?_⟩
  replace hs : Sep (owns []) H H19 [] := hs.tk 0
  obtain rfl := Option.some.inj hm
  exact q H19 hs
end
def m_letter_of (kind_ : Str) (number_ : Int) (text_ : Str) : Option (Str) :=
  if number_.natAbs.log2 < 1920 then
  if kind_.length + (strI number_).length < 16000000 then
  if (kind_ ++ (strI number_)).length + (" " : Str).length < 16000000 then
  (m_check_of kind_ number_ text_).bind fun r4 =>
  if r4.natAbs.log2 < 1920 then
  if ((kind_ ++ (strI number_)) ++ (" " : Str)).length + (strI r4).length < 16000000 then
  if (((kind_ ++ (strI number_)) ++ (" " : Str)) ++ (strI r4)).length + (" " : Str).length < 16000000 then
  if ((((kind_ ++ (strI number_)) ++ (" " : Str)) ++ (strI r4)) ++ (" " : Str)).length + text_.length < 16000000 then
  some (((((kind_ ++ (strI number_)) ++ (" " : Str)) ++ (strI r4)) ++ (" " : Str)) ++ text_) else none else none else none else none else none else none else none
section
variable {P : Program} {w : World} {K : PySem.W.Frag} {mg : Str → Option Value} {base : Heap}
def sp_letter_of (K : PySem.W.Frag) : Sp := fun vs H Q E_ => ∃ (kind_ : Str) (number_ : Int) (text_ : Str) (r_ : Str), vs = [(.str kind_), (.int number_), (.str text_)] ∧ (oks H [] ∧ (owns []).Nodup ∧ m_letter_of kind_ number_ text_ = some r_ ∧ (∀ (H' : Hp) , Sep (owns []) H H' [] → Q (.str r_) H'))
abbrev N_letter_of : List Str := ["kind", "number", "text"]
theorem sc_letter_of : FnScope N_letter_of ["kind", "number", "text"] (defScope s_letter_of) := ⟨rfl, rfl, rfl, by decide +kernel, rfl, by decide +kernel, by decide +kernel⟩
theorem ok_letter_of (T : Txt K mg) : Ok P w K mg base CX0 2 (He.fAd K ("letter_of", none)) ["kind", "number", "text"] (sp_letter_of K) := by
  obtain ⟨_, G_check_of, b_check_of, kp_check_of⟩ := ok_check_of (P := P) (w := w) (base := base) T
  obtain ⟨fd, F⟩ := T.d_letter_of
  refine ⟨fd, F.ok sc_letter_of (fun vs H Q E h => by obtain ⟨kind_, number_, text_, r_, rfl, _⟩ := h; rfl) (fun cdv A_ outer s_ H vs Q E hr h => ?_), F.bindsN (fun _ _ _ _ _ _ us hl => match us, hl with | [_, _, _], _ => rfl), F.kp⟩
  obtain ⟨kind_, number_, text_, r_, rfl, h⟩ := h
  have hu := hu_of hr
  refine ⟨_, PSs.nox (pss_one (ps_ret (pe_op op_add_str (pe_op op_add_str (pe_op op_add_str (pe_op op_add_str (pe_op op_add_str (pv 0) (pe_callTy call_str_int (by rfl) T.f_str (by decide +kernel) (pa_cons (pv 1) pa_nil))) pe_str) (pe_callTy call_str_int (by rfl) T.f_str (by decide +kernel) (pa_cons (pe_call G_check_of (hr.mono (by decide)) (by rfl) T.g_check_of kp_check_of b_check_of .nil pass0 (pa_cons (pv 0) (pa_cons (pv 1) (pa_cons (pv 2) pa_nil)))) pa_nil))) pe_str) (pv 2)))), ?_⟩
  obtain ⟨hp1, hp2, hm, q⟩ := h
  have hs := Sep.pre (L := []) ⟨hp1, hp2⟩
  unfold m_letter_of at hm
  clear hp1 hp2
  obtain ⟨g1, hm⟩ := gd hm
  refine ⟨_, rfl, _, rfl, _, rfl, g1, ?_⟩
  obtain ⟨g2, hm⟩ := gd hm
  obtain ⟨g3, hm⟩ := gd hm
  obtain ⟨r4, er4, hm⟩ := bnd hm
  refine ⟨_, _, rfl, rfl, small_le (Nat.le_of_lt (Nat.lt_trans g2 (by decide))), _, _, rfl, rfl, small_le (Nat.le_of_lt (Nat.lt_trans g3 (by decide))), _, rfl, _, rfl, _, rfl, kind_, number_, text_, r4, rfl, (hs.frontN 0).1, (hs.frontN 0).2, er4, fun H5 hc6 => ?_⟩
  replace hs := hs.callN 0 hc6
  obtain ⟨g7, hm⟩ := gd hm
  refine ⟨_, rfl, g7, ?_⟩
  obtain ⟨g8, hm⟩ := gd hm
  obtain ⟨g9, hm⟩ := gd hm
  obtain ⟨g10, hm⟩ := gd hm
  refine ⟨_, _, rfl, rfl, small_le (Nat.le_of_lt (Nat.lt_trans g8 (by decide))), _, _, rfl, rfl, small_le (Nat.le_of_lt (Nat.lt_trans g9 (by decide))), _, rfl, _, _, rfl, rfl, small_le (Nat.le_of_lt (Nat.lt_trans g10 (by decide))), ?_⟩
  replace hs : Sep (owns []) H H5 [] := hs.tk 0
  obtain rfl := Option.some.inj hm
  exact q H5 hs
end
def m_opened (kind_ : Str) (letter_ : Str) : Option (Rz ((Int × Str)) (Str)) :=
  if letter_.length < 16000000 then
  (orO (some (decide (((Txt.splitMax letter_ (" " : Str) (2 : Int)).length : Int) < (3 : Int)))) ((atI (Txt.splitMax letter_ (" " : Str) (2 : Int)) (0 : Int)).bind fun x32 => if x32.length < 16000000 then some (decide (¬ (cutS x32 none (some (1 : Int))) = kind_)) else none)).bind fun b40 =>
  if b40 = true then
    some (.ex ("NoLetter" : Str))
  else
    (atI (Txt.splitMax letter_ (" " : Str) (2 : Int)) (0 : Int)).bind fun x62 =>
    if x62.length < 16000000 then
    (m_number_in (cutS x62 (some (1 : Int)) none)).bind fun r70 =>
    (atI (Txt.splitMax letter_ (" " : Str) (2 : Int)) (1 : Int)).bind fun x75 =>
    (m_number_in x75).bind fun r82 =>
    if r70 = none then
      some (.ex ("NoLetter" : Str))
    else
      if r82 = none then
        some (.ex ("NoLetter" : Str))
      else
        (atI (Txt.splitMax letter_ (" " : Str) (2 : Int)) (2 : Int)).bind fun x91 =>
        (r70).bind fun x98 =>
        (m_check_of kind_ x98 x91).bind fun r100 =>
        if ¬ r82 = (some r100) then
          some (.ex ("NoLetter" : Str))
        else
          (atI (Txt.splitMax letter_ (" " : Str) (2 : Int)) (2 : Int)).bind fun x106 =>
          some (.ok (x98, x106)) else none else none
section
variable {P : Program} {w : World} {K : PySem.W.Frag} {mg : Str → Option Value} {base : Heap}
def sp_opened (K : PySem.W.Frag) : Sp := fun vs H Q E_ => ∃ (kind_ : Str) (letter_ : Str) (r_ : Rz ((Int × Str)) (Str)), vs = [(.str kind_), (.str letter_)] ∧ (oks H [] ∧ (owns []).Nodup ∧ m_opened kind_ letter_ = some r_ ∧ (r_ = .ex ("NoLetter" : Str) → ∀ (H' : Hp), Sep (owns []) H H' [] → E_ (.ref (He.ga K "NoLetter")) none H') ∧ (∀ (v_ : (Int × Str)), r_ = .ok v_ → ∀ (H' : Hp) (vz : V), Sep (owns []) H H' [aV vz v_] → Q vz H'))
abbrev N_opened : List Str := ["kind", "letter", "parts", "number", "check"]
theorem sc_opened : FnScope N_opened ["kind", "letter"] (defScope s_opened) := ⟨rfl, rfl, rfl, by decide +kernel, rfl, by decide +kernel, by decide +kernel⟩
theorem ok_opened (T : Txt K mg) : Ok P w K mg base (L2.CX P w) 2 (He.fAd K ("opened", none)) ["kind", "letter"] (sp_opened K) := by
  obtain ⟨_, G_number_in, b_number_in, kp_number_in⟩ := ok_number_in (P := P) (w := w) (base := base) T
  obtain ⟨_, G_check_of, b_check_of, kp_check_of⟩ := ok_check_of (P := P) (w := w) (base := base) T
  obtain ⟨fd, F⟩ := T.d_opened
  refine ⟨fd, F.ok sc_opened (fun vs H Q E h => by obtain ⟨kind_, letter_, r_, rfl, _⟩ := h; rfl) (fun cdv A_ outer s_ H vs Q E hr h => ?_), F.bindsN (fun _ _ _ _ _ _ us hl => match us, hl with | [_, _], _ => rfl), F.kp⟩
  obtain ⟨kind_, letter_, r_, rfl, h⟩ := h
  have hu := hu_of hr
  refine ⟨_, (pss_cons (ps_set (i := 2) sc_opened.nd rfl (.inl rfl) (pe_bm PySem.F.plainAttrs_str PySem.F.slot_str_split PySem.F.type_str_split mt_splitMax (pv 1) (pa_cons pe_str (pa_cons pe_int pa_nil))))
  (pss_cons (ps_if (PW.pt (pw_or (pt_cmpR op_lt (pe_callB call_len_seq (by rfl) T.f_len PySem.boot_len (pa_cons (pv 2) pa_nil)) pe_int (nomark _)) (pw_or1 (pt_cmpR op_ne (pe_slice sl_str (pe_ix ix_list (pv 2) pe_int (fun _ _ => rfl)) po_none (po_some pe_int)) (pv 0) (nomark _))))) (pss_one (ps_raise rfl (takes_of rfl rfl rfl rfl) (pmk_own PySem.F.excBase_ValueError T.x_NoLetter.1 T.g_NoLetter T.x_NoLetter.2.1 (raises_own T.x_NoLetter.2.2.1 T.x_NoLetter.2.2.2) rfl))) pss_nil)
  (pss_cons (ps_par (i := 3) (j := 4) (by rfl) sc_opened.nd rfl rfl (by decide) rfl rfl (pa_cons (pe_call G_number_in (hr.mono (by decide)) (by rfl) T.g_number_in kp_number_in b_number_in .nil pass0 (pa_cons (pe_slice sl_str (pe_ix ix_list (pv 2) pe_int (fun _ _ => rfl)) (po_some pe_int) po_none) pa_nil)) (pa_cons (pe_call G_number_in (hr.mono (by decide)) (by rfl) T.g_number_in kp_number_in b_number_in .nil pass0 (pa_cons (pe_ix ix_list (pv 2) pe_int (fun _ _ => rfl)) pa_nil)) pa_nil)) (by rfl))
  (pss_cons (ps_if (PW.pt (pw_or (pt_cmpR op_isN (pv 3) pe_non (nomark _)) (pw_or (pt_cmpR op_isN (pv 4) pe_non (nomark _)) (pw_or1 (pt_cmpR op_ne (pv 4) (pe_call G_check_of (hr.mono (by decide)) (by rfl) T.g_check_of kp_check_of b_check_of .nil pass0 (pa_cons (pv 0) (pa_cons (pv 3) (pa_cons (pe_ix ix_list (pv 2) pe_int (fun _ _ => rfl)) pa_nil)))) (nomark _)))))) (pss_one (ps_raise rfl (takes_of rfl rfl rfl rfl) (pmk_own PySem.F.excBase_ValueError T.x_NoLetter.1 T.g_NoLetter T.x_NoLetter.2.1 (raises_own T.x_NoLetter.2.2.1 T.x_NoLetter.2.2.2) rfl))) pss_nil)
  (PSs.nox (pss_one (ps_ret (pe_tup (pa_cons (pv 3) (pa_cons (pe_ix ix_list (pv 2) pe_int (fun _ _ => rfl)) pa_nil)))))))))), ?_⟩
  obtain ⟨hp1, hp2, hm, qx_NoLetter, q⟩ := h
  have hs := Sep.pre (L := []) ⟨hp1, hp2⟩
  unfold m_opened at hm
  clear hp1 hp2
  obtain ⟨g1, hm⟩ := gd hm
  refine ⟨_, rfl, rfl, _, _, _, rfl, rfl, rfl, by decide, by decide, small_le (show letter_.length + 2 ≤ 16777216 by omega), fun p2 n3 => ?_⟩
  try dsimp only
  generalize ee_ : upd H p2 _ = H4
  replace hs := (hs.newL (ys := ((Txt.splitMax letter_ (" " : Str) (2 : Int)) : (List Str))) n3 (Imms.ofSc _)).cast ee_
  clear ee_
  obtain ⟨b40, eb40, hm⟩ := bnd hm
  try dsimp only [tNext, gName]
  try with_reducible refine iteF ?_
  refine if_use hs (b := b40) ?_ ?_
  · skip
    refine evT_or eb40 (fun b41 hb42 => ?_) (fun b43 hb44 => ?_)
    · skip
      refine fun H45 hs Q_ hQ46 => ?_
      have hm := hb42
      obtain ⟨vs47, hl48, hv49⟩ := hs.lst 0 rfl
      refine ⟨_, rfl, _, _, rfl, .inl (SqL.of hl48), ?_⟩
      rw [hv49.length]
      refine ⟨_, _, rfl, rfl, _, rfl, ?_⟩
      rw [Option.some.inj hm]
      exact hQ46 _ (hs.tl 0)
    · skip
      refine fun H50 hs Q_ hQ51 => ?_
      have hm := hb44
      obtain ⟨x52, ex52, hm⟩ := bnd hm
      obtain ⟨vs53, hl54, hv55⟩ := hs.lst 0 rfl
      obtain ⟨u56, hu57, hx58⟩ := hv55.ix ex52
      have hx58 : u56 = (.str x52) := hx58
      subst hx58
      obtain ⟨g59, hm⟩ := gd hm
      refine ⟨_, rfl, _, _, _, _, rfl, rfl, SqL.of hl54, hu57, _, rfl, _, rfl, small_le (Nat.le_of_lt (Nat.lt_trans g59 (by decide))), ?_⟩
      refine ⟨_, rfl, rfl, _, dnS, ?_⟩
      rw [Option.some.inj hm]
      exact hQ51 _ (hs.tl 0)
  intro H61 hs
  refine iteBt (fun c60 => ?_) (fun c60 => ?_)
  · replace hm := ift c60 hm
    replace hs : Sep (owns []) H H61 [] := hs.tk 0
    obtain rfl := Option.some.inj hm
    exact qx_NoLetter rfl H61 hs
  · replace hm := ife c60 hm
    obtain ⟨x62, ex62, hm⟩ := bnd hm
    obtain ⟨vs63, hl64, hv65⟩ := hs.lst 0 rfl
    obtain ⟨u66, hu67, hx68⟩ := hv65.ix ex62
    have hx68 : u66 = (.str x62) := hx68
    subst hx68
    obtain ⟨g69, hm⟩ := gd hm
    refine ⟨_, rfl, _, _, _, _, rfl, rfl, SqL.of hl64, hu67, _, rfl, _, rfl, small_le (Nat.le_of_lt (Nat.lt_trans g69 (by decide))), ?_⟩
    obtain ⟨r70, er70, hm⟩ := bnd hm
    refine ⟨(cutS x62 (some (1 : Int)) none), r70, rfl, (hs.frontN 0).1, (hs.frontN 0).2, er70, fun H71 vz73 hc72 => ?_⟩
    replace hs := hs.callN 0 hc72
    obtain ⟨x75, ex75, hm⟩ := bnd hm
    obtain ⟨vs76, hl77, hv78⟩ := hs.lst 1 rfl
    obtain ⟨u79, hu80, hx81⟩ := hv78.ix ex75
    have hx81 : u79 = (.str x75) := hx81
    subst hx81
    obtain ⟨r82, er82, hm⟩ := bnd hm
    refine ⟨_, rfl, _, _, _, _, rfl, rfl, SqL.of hl77, hu80, x75, r82, rfl, (hs.frontN 0).1, (hs.frontN 0).2, er82, fun H83 vz85 hc84 => ?_⟩
    replace hs := hs.callN 0 hc84
    refine ⟨_, _, rfl, ?_⟩
    have f87 := hs.val 1 rfl
    refine ⟨_, rfl, rfl, _, (opt_dec f87), ?_⟩
    refine iteD (fun c88 => ?_) (fun c88 => ?_)
    · replace hm := ift c88 hm
      replace hs : Sep (owns []) H H83 [] := hs.tk 0
      obtain rfl := Option.some.inj hm
      exact qx_NoLetter rfl H83 hs
    · replace hm := ife c88 hm
      have f89 := hs.val 0 rfl
      refine ⟨_, rfl, rfl, _, (opt_dec f89), ?_⟩
      refine iteD (fun c90 => ?_) (fun c90 => ?_)
      · replace hm := ift c90 hm
        replace hs : Sep (owns []) H H83 [] := hs.tk 0
        obtain rfl := Option.some.inj hm
        exact qx_NoLetter rfl H83 hs
      · replace hm := ife c90 hm
        obtain ⟨x91, ex91, hm⟩ := bnd hm
        obtain ⟨vs92, hl93, hv94⟩ := hs.lst 2 rfl
        obtain ⟨u95, hu96, hx97⟩ := hv94.ix ex91
        have hx97 : u95 = (.str x91) := hx97
        subst hx97
        obtain ⟨x98, ex98, hm⟩ := bnd hm
        have e99 := hs.val 1 rfl
        rw [ex98] at e99
        have e99 : vz73 = .int x98 := e99
        subst e99
        obtain ⟨r100, er100, hm⟩ := bnd hm
        refine ⟨_, rfl, _, rfl, _, rfl, _, rfl, _, _, _, _, rfl, rfl, SqL.of hl93, hu96, kind_, x98, x91, r100, rfl, (hs.frontN 0).1, (hs.frontN 0).2, er100, fun H101 hc102 => ?_⟩
        replace hs := hs.callN 0 hc102
        have f103 := hs.val 0 rfl
        have f104 := hs.val 0 rfl
        refine ⟨(opt_scal f103 (imO imI)), _, (opt_neqd f104 (imO imI)), ?_⟩
        refine iteD (fun c105 => ?_) (fun c105 => ?_)
        · replace hm := ift c105 hm
          replace hs : Sep (owns []) H H101 [] := hs.tk 0
          obtain rfl := Option.some.inj hm
          exact qx_NoLetter rfl H101 hs
        · replace hm := ife c105 hm
          obtain ⟨x106, ex106, hm⟩ := bnd hm
          obtain ⟨vs107, hl108, hv109⟩ := hs.lst 2 rfl
          obtain ⟨u110, hu111, hx112⟩ := hv109.ix ex106
          have hx112 : u110 = (.str x106) := hx112
          subst hx112
          refine ⟨_, rfl, _, rfl, _, _, _, _, rfl, rfl, SqL.of hl108, hu111, (by show 2 ≤ sizeLine; decide), fun t113 n114 => ?_⟩
          try dsimp only
          generalize ee_ : upd H101 t113 _ = H115
          replace hs := (hs.newTup n114 [(.int x98), (.str x106)]).cast ee_
          clear ee_
          replace hs := hs.addV (v := .ref t113) (x := ((x98, x106) : (Int × Str))) (im2 (hs.tup 0 rfl) imI imS)
          replace hs : Sep (owns []) H H115 [aV (.ref t113) ((x98, x106) : (Int × Str))] := hs.tk 1
          obtain rfl := Option.some.inj hm
          exact q _ rfl H115 (.ref t113) hs
end
def m__law_cell (script_ : List Int) (k_ : Int) : Option (Int) :=
  if (k_ < (script_.length : Int)) then
    (atI script_ k_).bind fun x9 =>
    some x9
  else
    some (k_ + (1 : Int))
section
variable {P : Program} {w : World} {K : PySem.W.Frag} {mg : Str → Option Value} {base : Heap}
def sp__law_cell (K : PySem.W.Frag) : Sp := fun vs H Q E_ => ∃ (pscript_ : Addr) (script_ : List Int) (k_ : Int) (r_ : Int), vs = [.ref pscript_, (.int k_)] ∧ (SqL K H pscript_ (script_.map V.int) ∧ oks H [] ∧ (owns []).Nodup ∧ m__law_cell script_ k_ = some r_ ∧ (∀ (H' : Hp) , Sep (owns []) H H' [] → Q (.int r_) H'))
abbrev N__law_cell : List Str := ["_law_script", "_law_k"]
theorem sc__law_cell : FnScope N__law_cell ["_law_script", "_law_k"] (defScope s__law_cell) := ⟨rfl, rfl, rfl, by decide +kernel, rfl, by decide +kernel, by decide +kernel⟩
theorem ok__law_cell (T : Txt K mg) : Ok P w K mg base CX0 1 (He.fAd K ("_law_cell", none)) ["_law_script", "_law_k"] (sp__law_cell K) := by
  obtain ⟨fd, F⟩ := T.d__law_cell
  refine ⟨fd, F.ok sc__law_cell (fun vs H Q E h => by obtain ⟨pscript_, script_, k_, r_, rfl, _⟩ := h; rfl) (fun cdv A_ outer s_ H vs Q E hr h => ?_), F.bindsN (fun _ _ _ _ _ _ us hl => match us, hl with | [_, _], _ => rfl), F.kp⟩
  obtain ⟨pscript_, script_, k_, r_, rfl, h⟩ := h
  have hu := hu_of hr
  refine ⟨_, PSs.nox (pss_cons (ps_if (pt_cmpR op_lt (pv 1) (pe_callB call_len_seq (by rfl) T.f_len PySem.boot_len (pa_cons (pv 0) pa_nil)) (nomark _)) (pss_one (ps_ret (pe_ix ix_list (pv 0) (pv 1) (fun _ _ => rfl)))) pss_nil)
  (pss_one (ps_ret (pe_op op_add (pv 1) pe_int)))), ?_⟩
  obtain ⟨sscript_, hp1, hp2, hm, q⟩ := h
  have hs := Sep.pre (L := []) ⟨hp1, hp2⟩
  unfold m__law_cell at hm
  clear hp1 hp2
  try dsimp only [tNext, gName]
  refine if_use hs (b := decide ((k_ < (script_.length : Int)))) ?_ ?_
  · skip
    refine fun H4 hs Q_ hQ5 => ?_
    have f6 := hs.kp.seq not_in_nil sscript_
    refine ⟨_, rfl, _, rfl, _, _, rfl, .inl f6, ?_⟩
    rw [List.length_map]
    refine ⟨_, _, rfl, rfl, _, rfl, ?_⟩
    exact hQ5 _ (hs.tl 0)
  intro H8 hs
  refine iteD (fun c7 => ?_) (fun c7 => ?_)
  · replace hm := ift c7 hm
    obtain ⟨x9, ex9, hm⟩ := bnd hm
    obtain ⟨u10, hu11, hx12⟩ := (Imms.ofSc (H := H8) script_).ix ex9
    have hx12 : u10 = .int x9 := hx12
    subst hx12
    have f13 := hs.kp.seq not_in_nil sscript_
    refine ⟨_, rfl, _, rfl, _, _, _, _, rfl, rfl, f13, hu11, ?_⟩
    replace hs : Sep (owns []) H H8 [] := hs.tk 0
    obtain rfl := Option.some.inj hm
    exact q H8 hs
  · replace hm := ife c7 hm
    refine ⟨_, rfl, _, _, rfl, rfl, ?_⟩
    replace hs : Sep (owns []) H H8 [] := hs.tk 0
    obtain rfl := Option.some.inj hm
    exact q H8 hs
end
def m__law_digits_l1  (k48 : Int) (s47 : Int × Int × (List Int)) : Option (Int × Int × (List Int)) :=
  (some ((((s47.2.1 * (48271 : Int)) + ((30103 : Int) * k48)) + (11 : Int)) % (2147483647 : Int))).bind fun n60 =>
  if CMul n60 ((n60 / (1009 : Int)) + (69621 : Int)) then
  (some ((n60 * ((n60 / (1009 : Int)) + (69621 : Int))) % (2147483629 : Int))).bind fun n62 =>
  if ((0 : Int) < s47.1) then
    (snoc s47.2.2 (s47.1 % (1009 : Int))).bind fun y73 =>
    some (s47.1 / (1009 : Int), n62, y73)
  else
    (snoc s47.2.2 ((n62 / (7 : Int)) % (1009 : Int))).bind fun y81 =>
    some (s47.1, n62, y81) else none
def m__law_digits (cell_here_ : Int) (many_ : Int) : Option ((List Int)) :=
  (if (((10 : Int) ^ Int.toNat (18 : Int)) ≤ cell_here_) then
    some cell_here_
  else
    some (0 : Int)).bind fun (j11 : Int) =>
  (some (cell_here_ % (2147483647 : Int))).bind fun n20 =>
  if -(2 ^ 62) ≤ many_ ∧ many_ < 2 ^ 62 then
  (forS (m__law_digits_l1) (rangeL 0 (Int.toNat many_)) (j11, n20, ([] : (List Int)))).bind fun (s47 : Int × Int × (List Int)) =>
  some s47.2.2 else none
section
variable {P : Program} {w : World} {K : PySem.W.Frag} {mg : Str → Option Value} {base : Heap}
def sp__law_digits (K : PySem.W.Frag) : Sp := fun vs H Q E_ => ∃ (cell_here_ : Int) (many_ : Int) (r_ : (List Int)), vs = [(.int cell_here_), (.int many_)] ∧ (oks H [] ∧ (owns []).Nodup ∧ m__law_digits cell_here_ many_ = some r_ ∧ (∀ (H' : Hp) (pz : Addr), Sep (owns []) H H' [aL pz r_] → Q (.ref pz) H'))
abbrev N__law_digits : List Str := ["_law_cell_here", "_law_many", "_law_row", "_law_rest", "_law_number_here", "_law_k"]
theorem sc__law_digits : FnScope N__law_digits ["_law_cell_here", "_law_many"] (defScope s__law_digits) := ⟨rfl, rfl, rfl, by decide +kernel, rfl, by decide +kernel, by decide +kernel⟩
theorem ok__law_digits (T : Txt K mg) : Ok P w K mg base CX0 1 (He.fAd K ("_law_digits", none)) ["_law_cell_here", "_law_many"] (sp__law_digits K) := by
  obtain ⟨fd, F⟩ := T.d__law_digits
  refine ⟨fd, F.ok sc__law_digits (fun vs H Q E h => by obtain ⟨cell_here_, many_, r_, rfl, _⟩ := h; rfl) (fun cdv A_ outer s_ H vs Q E hr h => ?_), F.bindsN (fun _ _ _ _ _ _ us hl => match us, hl with | [_, _], _ => rfl), F.kp⟩
  obtain ⟨cell_here_, many_, r_, rfl, h⟩ := h
  have hu := hu_of hr
  refine ⟨_, PSs.nox (pss_cons (ps_set (i := 2) sc__law_digits.nd rfl (.inl rfl) (pe_lst pa_nil))
  (pss_cons (ps_set (i := 3) sc__law_digits.nd rfl (.inl rfl) pe_int)
  (C8.pss_cut (ps_if (pt_cmpR op_ge (pv 0) (pe_op op_pow pe_int pe_int) (nomark _)) (pss_one (ps_set (i := 3) sc__law_digits.nd rfl (.inl rfl) (pv 0))) pss_nil)
  (pss_cons (ps_set (i := 4) sc__law_digits.nd rfl (.inl rfl) (pe_op op_mod (pv 0) pe_int))
  (pss_cons (ps_for PassesOwn.never rfl (pi_range1 (by rfl) T.f_range (pa_cons (pv 1) pa_nil)) (pg_name (i := 5) sc__law_digits.nd rfl (.inl rfl)) (pss_cons (ps_set (i := 4) sc__law_digits.nd rfl (.inl rfl) (pe_op op_mod (pe_op op_add (pe_op op_add (pe_op op_mul (pv 4) pe_int) (pe_op op_mul pe_int (pv 5))) pe_int) pe_int))
    (pss_cons (ps_set (i := 4) sc__law_digits.nd rfl (.inl rfl) (pe_op op_mod (pe_op op_mul (pv 4) (pe_op op_add (pe_op op_fdiv (pv 4) pe_int) pe_int)) pe_int))
    (pss_one (ps_if (pt_cmpR op_gt (pv 3) pe_int (nomark _)) (pss_cons (ps_expr (pe_bm PySem.F.plainAttrs_list PySem.F.slot_list_append PySem.F.type_list_append mt_append (pv 2) (pa_cons (pe_op op_mod (pv 3) pe_int) pa_nil)))
      (pss_one (ps_set (i := 3) sc__law_digits.nd rfl (.inl rfl) (pe_op op_fdiv (pv 3) pe_int)))) (pss_one (ps_expr (pe_bm PySem.F.plainAttrs_list PySem.F.slot_list_append PySem.F.type_list_append mt_append (pv 2) (pa_cons (pe_op op_mod (pe_op op_fdiv (pv 4) pe_int) pe_int) pa_nil)))))))))
  (pss_one (ps_ret (pv 2)))))))), ?_⟩
  obtain ⟨hp1, hp2, hm, q⟩ := h
  have hs := Sep.pre (L := []) ⟨hp1, hp2⟩
  unfold m__law_digits at hm
  clear hp1 hp2
  refine ⟨(by show 0 ≤ sizeLine; decide), fun p1 n2 => ?_⟩
  try dsimp only
  generalize ee_ : upd H p1 _ = H3
  replace hs := (hs.newL (ys := (([] : (List Int)) : (List Int))) n2 (.nil)).cast ee_
  clear ee_
  obtain ⟨j11, es12, hm⟩ := bnd hm
  refine ⟨fun σ' H13 => Sep (owns []) H H13 [aL p1 (([] : (List Int)) : (List Int))] ∧ σ' = [some (.int cell_here_), some (.int many_), some (.ref p1), some (.int j11), none, none], ?_, ?_⟩
  · have hm := es12
    try dsimp only [tNext, gName]
    refine if_use hs (b := decide ((((10 : Int) ^ Int.toNat (18 : Int)) ≤ cell_here_))) ?_ ?_
    · skip
      refine fun H16 hs Q_ hQ17 => ?_
      refine ⟨_, rfl, _, _, rfl, rfl, ⟨by decide, by decide, by decide⟩, _, _, rfl, rfl, _, rfl, ?_⟩
      exact hQ17 _ (hs.tl 0)
    intro H19 hs
    refine iteD (fun c18 => ?_) (fun c18 => ?_)
    · replace hm := ift c18 hm
      refine ⟨_, rfl, ?_⟩
      replace hs : Sep (owns []) H H19 [aL p1 (([] : (List Int)) : (List Int))] := hs.tk 1
      obtain rfl := Option.some.inj hm
      exact ⟨hs, rfl⟩
    · replace hm := ife c18 hm
      replace hs : Sep (owns []) H H19 [aL p1 (([] : (List Int)) : (List Int))] := hs.tk 1
      obtain rfl := Option.some.inj hm
      exact ⟨hs, rfl⟩
  rintro σ' H13 ⟨hs, rfl⟩
  refine ⟨_, rfl, _, _, rfl, rfl, (show (0 : Int) < (2147483647 : Int) by decide), ?_⟩
  obtain ⟨n20, en20, hm⟩ := bnd hm
  try dsimp only
  rw [Option.some.inj en20]
  obtain ⟨g21, hm⟩ := gd hm
  obtain ⟨z49, eL50, hm⟩ := bnd hm
  replace hs : Sep (owns []) H H13 [aL p1 (([] : (List Int)) : (List Int))] := hs.tk 1
  refine ⟨_, rfl, _, rfl, g21.1, g21.2, for_rangeN (lo := (0 : Int)) (n := (Int.toNat many_)) (fun i55 σ57 H56 => ∃ (s47 : Int × Int × (List Int)) (o54 : Option V), forS (m__law_digits_l1) ((rangeL 0 (Int.toNat many_)).drop i55) s47 = some z49 ∧ Sep (owns []) H H56 [aL p1 s47.2.2] ∧ σ57 = [some (.int cell_here_), some (.int many_), some (.ref p1), some (.int s47.1), some (.int s47.2.1), o54]) ⟨(j11, n20, ([] : (List Int))), _, eL50, hs, rfl⟩ ?_ ?_⟩
  · rintro i55 σ57 H56 hi58 ⟨s47, o54, hf51, hs, rfl⟩
    obtain ⟨cN52, hm, hf51⟩ := forS_s (range_get hi58) hf51
    generalize hk_ : (0 : Int) + ((i55 : Nat) : Int) = k48 at hm ⊢
    unfold m__law_digits_l1 at hm
    refine ⟨_, rfl, _, _, rfl, rfl, .inr ⟨by decide, by decide⟩, _, rfl, _, _, rfl, rfl, .inl ⟨by decide, by decide⟩, _, _, rfl, rfl, _, _, rfl, rfl, _, _, rfl, rfl, (show (0 : Int) < (2147483647 : Int) by decide), ?_⟩
    obtain ⟨n60, en60, hm⟩ := bnd hm
    try dsimp only
    rw [Option.some.inj en60]
    obtain ⟨g61, hm⟩ := gd hm
    refine ⟨_, rfl, _, rfl, _, _, rfl, rfl, ⟨by decide, by decide⟩, _, _, rfl, rfl, _, _, rfl, rfl, g61, _, _, rfl, rfl, (show (0 : Int) < (2147483629 : Int) by decide), ?_⟩
    obtain ⟨n62, en62, hm⟩ := bnd hm
    try dsimp only
    rw [Option.some.inj en62]
    try dsimp only [tNext, gName]
    refine if_use hs (b := decide (((0 : Int) < s47.1))) ?_ ?_
    · skip
      refine fun H65 hs Q_ hQ66 => ?_
      refine ⟨_, rfl, _, _, rfl, rfl, _, rfl, ?_⟩
      exact hQ66 _ (hs.tl 0)
    intro H68 hs
    refine iteD (fun c67 => ?_) (fun c67 => ?_)
    · replace hm := ift c67 hm
      have f69 := (hs.lst 0 rfl).choose_spec.1
      obtain ⟨y73, ey73, hm⟩ := bnd hm
      obtain ⟨vs70, hl71, hv72⟩ := hs.lst 0 rfl
      obtain ⟨g74, e75⟩ := snoc_eq ey73
      refine ⟨_, rfl, .inl ⟨rfl, _, SqL.of f69⟩, _, rfl, _, _, rfl, rfl, (show (0 : Int) < (1009 : Int) by decide), _, _, _, rfl, rfl, hl71, small_ (by have := hv72.length; omega), ?_⟩
      try dsimp only
      generalize ee_ : upd H68 p1 _ = H76
      replace hs := (hs.putL (ys := y73) 0 rfl hl71 (by rw [e75]; exact hv72.snoc imI)).cast ee_
      clear ee_
      refine ⟨_, rfl, _, _, rfl, rfl, ⟨by decide, by decide⟩, ?_⟩
      replace hs : Sep (owns []) H H76 [aL p1 y73] := hs.tk 1
      obtain rfl := Option.some.inj hm
      exact ⟨(s47.1 / (1009 : Int), n62, y73), _, hf51, hs, rfl⟩
    · replace hm := ife c67 hm
      have f77 := (hs.lst 0 rfl).choose_spec.1
      obtain ⟨y81, ey81, hm⟩ := bnd hm
      obtain ⟨vs78, hl79, hv80⟩ := hs.lst 0 rfl
      obtain ⟨g82, e83⟩ := snoc_eq ey81
      refine ⟨_, rfl, .inl ⟨rfl, _, SqL.of f77⟩, _, rfl, _, _, rfl, rfl, ⟨by decide, by decide⟩, _, _, rfl, rfl, (show (0 : Int) < (1009 : Int) by decide), _, _, _, rfl, rfl, hl79, small_ (by have := hv80.length; omega), ?_⟩
      try dsimp only
      generalize ee_ : upd H68 p1 _ = H84
      replace hs := (hs.putL (ys := y81) 0 rfl hl79 (by rw [e83]; exact hv80.snoc imI)).cast ee_
      clear ee_
      replace hs : Sep (owns []) H H84 [aL p1 y81] := hs.tk 1
      obtain rfl := Option.some.inj hm
      exact ⟨(s47.1, n62, y81), _, hf51, hs, rfl⟩
  rintro σ57 H56 ⟨s47, o54, hf51, hs, rfl⟩
  have ez_ := forS_e (Nat.le_of_eq range_len) hf51
  subst ez_
  refine ⟨_, rfl, ?_⟩
  replace hs : Sep (owns []) H H56 [aL p1 s47.2.2] := hs.tk 1
  obtain rfl := Option.some.inj hm
  exact q H56 p1 hs
end
def m__law_signs  : Option (Str) :=
  if ("abc XYZ019;:-_.~!qa" : Str).length + ("defghijklmnoprstuvwxyz" : Str).length < 16000000 then
  some (("abc XYZ019;:-_.~!qa" : Str) ++ ("defghijklmnoprstuvwxyz" : Str)) else none
section
variable {P : Program} {w : World} {K : PySem.W.Frag} {mg : Str → Option Value} {base : Heap}
def sp__law_signs (K : PySem.W.Frag) : Sp := fun vs H Q E_ => ∃ (r_ : Str), vs = [] ∧ (oks H [] ∧ (owns []).Nodup ∧ m__law_signs  = some r_ ∧ (∀ (H' : Hp) , Sep (owns []) H H' [] → Q (.str r_) H'))
abbrev N__law_signs : List Str := []
theorem sc__law_signs : FnScope N__law_signs [] (defScope s__law_signs) := ⟨rfl, rfl, rfl, by decide +kernel, rfl, by decide +kernel, by decide +kernel⟩
theorem ok__law_signs (T : Txt K mg) : Ok P w K mg base CX0 1 (He.fAd K ("_law_signs", none)) [] (sp__law_signs K) := by
  obtain ⟨fd, F⟩ := T.d__law_signs
  refine ⟨fd, F.ok sc__law_signs (fun vs H Q E h => by obtain ⟨r_, rfl, _⟩ := h; rfl) (fun cdv A_ outer s_ H vs Q E hr h => ?_), F.bindsN (fun _ _ _ _ _ _ us hl => match us, hl with | [], _ => rfl), F.kp⟩
  obtain ⟨r_, rfl, h⟩ := h
  have hu := hu_of hr
  refine ⟨_, PSs.nox (pss_one (ps_ret (pe_op op_add_str pe_str pe_str))), ?_⟩
  obtain ⟨hp1, hp2, hm, q⟩ := h
  have hs := Sep.pre (L := []) ⟨hp1, hp2⟩
  unfold m__law_signs at hm
  clear hp1 hp2
  obtain ⟨g1, hm⟩ := gd hm
  refine ⟨_, _, rfl, rfl, small_le (Nat.le_of_lt (Nat.lt_trans g1 (by decide))), ?_⟩
  replace hs : Sep (owns []) H H [] := hs.tk 0
  obtain rfl := Option.some.inj hm
  exact q H hs
end
def m__law_check_l1  (k9 : Str) (s8 : Int × Int) : Option (Int × Int) :=
  if k9.length = 1 then
  if CMul (s8.2 + (1 : Int)) ((k9.cps.getD 0 0 : Nat) : Int) then
  (some (s8.1 + ((s8.2 + (1 : Int)) * ((k9.cps.getD 0 0 : Nat) : Int)))).bind fun n24 =>
  some (n24, s8.2 + (1 : Int)) else none else none
def m__law_check (head_ : Str) (text_ : Str) : Option (Int) :=
  if head_.length + (" " : Str).length < 16000000 then
  if (head_ ++ (" " : Str)).length + text_.length < 16000000 then
  (forS (m__law_check_l1) (sgn ((head_ ++ (" " : Str)) ++ text_)) ((0 : Int), (0 : Int))).bind fun (s8 : Int × Int) =>
  some (s8.1 % (9973 : Int)) else none else none
section
variable {P : Program} {w : World} {K : PySem.W.Frag} {mg : Str → Option Value} {base : Heap}
def sp__law_check (K : PySem.W.Frag) : Sp := fun vs H Q E_ => ∃ (head_ : Str) (text_ : Str) (r_ : Int), vs = [(.str head_), (.str text_)] ∧ (oks H [] ∧ (owns []).Nodup ∧ m__law_check head_ text_ = some r_ ∧ (∀ (H' : Hp) , Sep (owns []) H H' [] → Q (.int r_) H'))
abbrev N__law_check : List Str := ["_law_head", "_law_text", "_law_found", "_law_place", "_law_sign"]
theorem sc__law_check : FnScope N__law_check ["_law_head", "_law_text"] (defScope s__law_check) := ⟨rfl, rfl, rfl, by decide +kernel, rfl, by decide +kernel, by decide +kernel⟩
theorem ok__law_check (T : Txt K mg) : Ok P w K mg base CX0 1 (He.fAd K ("_law_check", none)) ["_law_head", "_law_text"] (sp__law_check K) := by
  obtain ⟨fd, F⟩ := T.d__law_check
  refine ⟨fd, F.ok sc__law_check (fun vs H Q E h => by obtain ⟨head_, text_, r_, rfl, _⟩ := h; rfl) (fun cdv A_ outer s_ H vs Q E hr h => ?_), F.bindsN (fun _ _ _ _ _ _ us hl => match us, hl with | [_, _], _ => rfl), F.kp⟩
  obtain ⟨head_, text_, r_, rfl, h⟩ := h
  have hu := hu_of hr
  refine ⟨_, PSs.nox (pss_cons (ps_set (i := 2) sc__law_check.nd rfl (.inl rfl) pe_int)
  (pss_cons (ps_set (i := 3) sc__law_check.nd rfl (.inl rfl) pe_int)
  (pss_cons (ps_for PassesOwn.never rfl (pi_str (pe_op op_add_str (pe_op op_add_str (pv 0) pe_str) (pv 1))) (pg_name (i := 4) sc__law_check.nd rfl (.inl rfl)) (pss_cons (ps_set (i := 3) sc__law_check.nd rfl (.inl rfl) (pe_op op_add (pv 3) pe_int))
    (pss_one (ps_set (i := 2) sc__law_check.nd rfl (.inl rfl) (pe_op op_add (pv 2) (pe_op op_mul (pv 3) (pe_callB call_ord (by rfl) T.f_ord (by decide +kernel) (pa_cons (pv 4) pa_nil))))))))
  (pss_one (ps_ret (pe_op op_mod (pv 2) pe_int)))))), ?_⟩
  obtain ⟨hp1, hp2, hm, q⟩ := h
  have hs := Sep.pre (L := []) ⟨hp1, hp2⟩
  unfold m__law_check at hm
  clear hp1 hp2
  obtain ⟨g3, hm⟩ := gd hm
  obtain ⟨g4, hm⟩ := gd hm
  obtain ⟨z10, eL11, hm⟩ := bnd hm
  replace hs : Sep (owns []) H H [] := hs.tk 0
  refine ⟨_, rfl, _, _, rfl, rfl, small_le (Nat.le_of_lt (Nat.lt_trans g3 (by decide))), _, rfl, _, _, rfl, rfl, small_le (Nat.le_of_lt (Nat.lt_trans g4 (by decide))), _, rfl, for_strN (z := ((head_ ++ (" " : Str)) ++ text_)) (fun i16 σ18 H17 => ∃ (s8 : Int × Int) (o15 : Option V), forS (m__law_check_l1) ((sgn ((head_ ++ (" " : Str)) ++ text_)).drop i16) s8 = some z10 ∧ Sep (owns []) H H17 [] ∧ σ18 = [some (.str head_), some (.str text_), some (.int s8.1), some (.int s8.2), o15]) ⟨((0 : Int), (0 : Int)), _, eL11, hs, rfl⟩ ?_ ?_⟩
  · rintro i16 y21 σ18 H17 hi19 ⟨s8, o15, hf12, hs, rfl⟩
    obtain ⟨cN13, hm, hf12⟩ := forS_s hi19 hf12
    obtain ⟨k9, hx_⟩ : ∃ z_ : Str, z_ = y21 := ⟨_, rfl⟩
    rw [← hx_] at hm ⊢
    unfold m__law_check_l1 at hm
    refine ⟨_, rfl, _, _, rfl, rfl, ?_⟩
    obtain ⟨g22, hm⟩ := gd hm
    refine ⟨_, rfl, _, rfl, _, rfl, _, rfl, g22, ?_⟩
    obtain ⟨g23, hm⟩ := gd hm
    refine ⟨_, _, rfl, rfl, g23, _, _, rfl, rfl, ?_⟩
    obtain ⟨n24, en24, hm⟩ := bnd hm
    try dsimp only
    rw [Option.some.inj en24]
    replace hs : Sep (owns []) H H17 [] := hs.tk 0
    obtain rfl := Option.some.inj hm
    exact ⟨(n24, s8.2 + (1 : Int)), _, hf12, hs, rfl⟩
  rintro σ18 H17 ⟨s8, o15, hf12, hs, rfl⟩
  have ez_ := forS_e (Nat.le_of_eq rfl) hf12
  subst ez_
  refine ⟨_, rfl, _, _, rfl, rfl, (show (0 : Int) < (9973 : Int) by decide), ?_⟩
  replace hs : Sep (owns []) H H17 [] := hs.tk 0
  obtain rfl := Option.some.inj hm
  exact q H17 hs
end
def m__law_number_l1  (k14 : Str) (a13 : (List Str)) : Option ((List Str)) :=
  ((oneS k14).bind fun c28 => some (decide (c28 ∈ (Str.cps ("0123456789" : Str)).toList))).bind fun b29 =>
  if b29 = true then
    snoc a13 k14
  else
    some a13
def m__law_number (text_ : Str) : Option ((Option Int)) :=
  (forS (m__law_number_l1) (sgn text_) []).bind fun a13 =>
  (orO (some (decide (text_ = ("" : Str)))) (orO (if text_.length < 16000000 then some (decide ((5 : Int) < (text_.length : Int))) else none) (orO (if text_.length < 16000000 then some (decide ((a13.length : Int) < (text_.length : Int))) else none) (andO (if text_.length < 16000000 then some (decide ((1 : Int) < (text_.length : Int))) else none) ((atI (Str.cps text_).toList (0 : Int)).bind fun c77 => if text_.length < 16000000 then some (decide ((⟨#[c77]⟩ : Str) = ("0" : Str))) else none))))).bind fun b79 =>
  if b79 = true then
    some none
  else
    (PySem.intText? text_).bind fun y117 =>
    if text_.length ≤ 640 then
    some (some y117) else none
section
variable {P : Program} {w : World} {K : PySem.W.Frag} {mg : Str → Option Value} {base : Heap}
def sp__law_number (K : PySem.W.Frag) : Sp := fun vs H Q E_ => ∃ (text_ : Str) (r_ : (Option Int)), vs = [(.str text_)] ∧ (oks H [] ∧ (owns []).Nodup ∧ m__law_number text_ = some r_ ∧ (∀ (H' : Hp) (vz : V), Sep (owns []) H H' [aV vz r_] → Q vz H'))
abbrev N__law_number : List Str := ["_law_text", "_law_sign", "_law_good"]
theorem sc__law_number : FnScope N__law_number ["_law_text"] (defScope s__law_number) := ⟨rfl, rfl, rfl, by decide +kernel, rfl, by decide +kernel, by decide +kernel⟩
theorem ok__law_number (T : Txt K mg) : Ok P w K mg base CX0 1 (He.fAd K ("_law_number", none)) ["_law_text"] (sp__law_number K) := by
  obtain ⟨fd, F⟩ := T.d__law_number
  refine ⟨fd, F.ok sc__law_number (fun vs H Q E h => by obtain ⟨text_, r_, rfl, _⟩ := h; rfl) (fun cdv A_ outer s_ H vs Q E hr h => ?_), F.bindsN (fun _ _ _ _ _ _ us hl => match us, hl with | [_], _ => rfl), F.kp⟩
  obtain ⟨text_, r_, rfl, h⟩ := h
  have hu := hu_of hr
  refine ⟨_, PSs.nox (pss_cons (ps_setLc (i := 2) (own := [("_law_sign", 1)]) (g := gName 1) rfl sc__law_number.nd rfl rfl (sw_true rfl rfl rfl (by decide +kernel)) (pi_str (pv 0)) (blkOk_by (own := [("_law_sign", 1)]) (N := N__law_number) (sc := defScope s__law_number) (by decide +kernel)) (fun _ _ _ _ _ => pg_name (i := 1) sc__law_number.nd rfl (Or.inl rfl)) (fun _ _ _ _ _ => pts_one (pt_cmpR op_in_sign (pv 1) pe_str rfl)) (fun _ _ _ _ _ => (pv 1)))
  (pss_cons (ps_if (PW.pt (pw_or (pt_cmpR op_eq (pv 0) pe_str (nomark _)) (pw_or (pt_cmpR op_gt (pe_callB call_len_str (by rfl) T.f_len PySem.boot_len (pa_cons (pv 0) pa_nil)) pe_int (nomark _)) (pw_or (pt_cmpR op_lt (pe_callB call_len_seq (by rfl) T.f_len PySem.boot_len (pa_cons (pv 2) pa_nil)) (pe_callB call_len_str (by rfl) T.f_len PySem.boot_len (pa_cons (pv 0) pa_nil)) (nomark _)) (pw_or1 (PW.pt (pw_and (pt_cmpR op_gt (pe_callB call_len_str (by rfl) T.f_len PySem.boot_len (pa_cons (pv 0) pa_nil)) pe_int (nomark _)) (pw_and1 (pt_cmpR op_eq (pe_ix ix_str (pv 0) pe_int (fun _ _ => rfl)) pe_str (nomark _)))))))))) (pss_one (ps_ret pe_non)) pss_nil)
  (pss_one (ps_ret (pe_callTy call_int_str (by rfl) T.f_int (by decide +kernel) (pa_cons (pv 0) pa_nil)))))), ?_⟩
  obtain ⟨hp1, hp2, hm, q⟩ := h
  have hs := Sep.pre (L := []) ⟨hp1, hp2⟩
  unfold m__law_number at hm
  clear hp1 hp2
  obtain ⟨z15, eL16, hm⟩ := bnd hm
  refine ⟨_, rfl, _, rfl, fun p17 n18 => lc_str (z := text_) (fun i19 H20 => ∃ (a13 : (List Str)), forS (m__law_number_l1) ((sgn text_).drop i19) a13 = some z15 ∧ Sep (owns []) H H20 (aL p17 a13 :: [])) ⟨([] : (List Str)), eL16, hs.newL n18 .nil⟩ ?_ ?_⟩
  · rintro i19 k14 H20 hi21 ⟨a13, hf, hs⟩
    obtain ⟨sN_, hm, hf⟩ := forS_s hi21 hf
    unfold m__law_number_l1 at hm
    refine ⟨by kernel_rfl, ?_⟩
    obtain ⟨b29, eb29, hm⟩ := bnd hm
    refine ct_use hs (b := b29) ?_ ?_
    · skip
      refine fun H30 hs Q_ hQ31 => ?_
      have hm := eb29
      obtain ⟨c32, ec32, hm⟩ := bnd hm
      refine ⟨_, rfl, _, _, (congrArg V.str (oneS_eq ec32)), rfl, _, rfl, ?_⟩
      rw [Option.some.inj hm]
      exact hQ31 _ (hs.tl 0)
    intro H34 hs
    refine iteBt (fun c33 => ?_) (fun c33 => ?_)
    · replace hm := ift c33 hm
      obtain ⟨vs35, hD36, hv37⟩ := hs.lst 0 rfl
      obtain ⟨g38, g39⟩ := snoc_eq hm
      subst g39
      refine ⟨_, rfl, _, hD36, small_ (by have := hv37.length; omega), ?_⟩
      replace hv37 := hv37.snoc (v := (.str k14)) (x := (k14 : Str)) imS
      replace hs : Sep (owns []) H H34 [aL p17 a13] := hs.tk 1
      exact ⟨_, hf, hs.putL 0 rfl hD36 hv37⟩
    · replace hm := ife c33 hm
      replace hs : Sep (owns []) H H34 [aL p17 a13] := hs.tk 1
      obtain rfl := Option.some.inj hm
      exact ⟨_, hf, hs⟩
  rintro H20 ⟨a13, hf, hs⟩
  have ez_ := forS_e (Nat.le_of_eq rfl) hf
  subst ez_
  obtain ⟨b79, eb79, hm⟩ := bnd hm
  try dsimp only [tNext, gName]
  try with_reducible refine iteF ?_
  refine if_use hs (b := b79) ?_ ?_
  · skip
    refine evT_or eb79 (fun b80 hb81 => ?_) (fun b82 hb83 => ?_)
    · skip
      refine fun H84 hs Q_ hQ85 => ?_
      have hm := hb81
      refine ⟨_, rfl, rfl, _, dS, ?_⟩
      rw [Option.some.inj hm]
      exact hQ85 _ (hs.tl 0)
    · skip
      refine evT_or hb83 (fun b86 hb87 => ?_) (fun b88 hb89 => ?_)
      · skip
        refine fun H90 hs Q_ hQ91 => ?_
        have hm := hb87
        obtain ⟨g92, hm⟩ := gd hm
        refine ⟨_, rfl, _, rfl, small_le (Nat.le_of_lt (Nat.lt_trans g92 (by decide))), ?_⟩
        refine ⟨_, _, rfl, rfl, _, rfl, ?_⟩
        rw [Option.some.inj hm]
        exact hQ91 _ (hs.tl 0)
      · skip
        refine evT_or hb89 (fun b93 hb94 => ?_) (fun b95 hb96 => ?_)
        · skip
          refine fun H97 hs Q_ hQ98 => ?_
          have hm := hb94
          obtain ⟨vs99, hl100, hv101⟩ := hs.lst 0 rfl
          refine ⟨_, rfl, _, _, rfl, .inl (SqL.of hl100), ?_⟩
          rw [hv101.length]
          obtain ⟨g102, hm⟩ := gd hm
          refine ⟨_, rfl, _, rfl, small_le (Nat.le_of_lt (Nat.lt_trans g102 (by decide))), ?_⟩
          refine ⟨_, _, rfl, rfl, _, rfl, ?_⟩
          rw [Option.some.inj hm]
          exact hQ98 _ (hs.tl 0)
        · skip
          refine evT_and hb96 (fun b103 hb104 => ?_) (fun b105 hb106 => ?_)
          · skip
            refine fun H107 hs Q_ hQ108 => ?_
            have hm := hb104
            obtain ⟨g109, hm⟩ := gd hm
            refine ⟨_, rfl, _, rfl, small_le (Nat.le_of_lt (Nat.lt_trans g109 (by decide))), ?_⟩
            refine ⟨_, _, rfl, rfl, _, rfl, ?_⟩
            rw [Option.some.inj hm]
            exact hQ108 _ (hs.tl 0)
          · skip
            refine fun H110 hs Q_ hQ111 => ?_
            have hm := hb106
            obtain ⟨c112, ec112, hm⟩ := bnd hm
            obtain ⟨g113, hm⟩ := gd hm
            refine ⟨_, rfl, _, _, _, rfl, rfl, small_le (Nat.le_of_lt (Nat.lt_trans g113 (by decide))), ec112, rfl, _, dS, ?_⟩
            rw [Option.some.inj hm]
            exact hQ111 _ (hs.tl 0)
  intro H115 hs
  refine iteBt (fun c114 => ?_) (fun c114 => ?_)
  · replace hm := ift c114 hm
    replace hs := hs.addV (v := .non) (x := (none : (Option Int))) imN
    replace hs : Sep (owns []) H H115 [aV .non (none : (Option Int))] := hs.tk 1
    obtain rfl := Option.some.inj hm
    exact q H115 .non hs
  · replace hm := ife c114 hm
    obtain ⟨y117, ey117, hm⟩ := bnd hm
    obtain ⟨g118, hm⟩ := gd hm
    refine ⟨_, rfl, _, _, rfl, ey117, g118, ?_⟩
    replace hs := hs.addV (v := (.int (y117))) (x := ((some y117) : (Option Int))) (imO imI)
    replace hs : Sep (owns []) H H115 [aV (.int (y117)) ((some y117) : (Option Int))] := hs.tk 1
    obtain rfl := Option.some.inj hm
    exact q H115 (.int (y117)) hs
end
def m__law_due (kind_ : Str) (letter_ : Str) : Option ((Str ⊕ (Int × Str))) :=
  if letter_.length < 16000000 then
  (orO (some (decide (((Txt.split letter_ (" " : Str)).length : Int) < (3 : Int)))) ((atI (Txt.split letter_ (" " : Str)) (0 : Int)).bind fun x32 => if x32.length < 16000000 then some (decide (¬ (cutS x32 none (some (1 : Int))) = kind_)) else none)).bind fun b40 =>
  if b40 = true then
    some (.inl ("none" : Str))
  else
    (atI (Txt.split letter_ (" " : Str)) (0 : Int)).bind fun x63 =>
    if x63.length < 16000000 then
    (m__law_number (cutS x63 (some (1 : Int)) none)).bind fun r71 =>
    (atI (Txt.split letter_ (" " : Str)) (1 : Int)).bind fun x76 =>
    (m__law_number x76).bind fun r83 =>
    if ((cutX (Txt.split letter_ (" " : Str)) (some (2 : Int)) none).map (·.length)).sum + (cutX (Txt.split letter_ (" " : Str)) (some (2 : Int)) none).length * (" " : Str).length ≤ 16777216 then
    if r71 = none then
      some (.inl ("none" : Str))
    else
      if r83 = none then
        some (.inl ("none" : Str))
      else
        (atI (Txt.split letter_ (" " : Str)) (0 : Int)).bind fun x103 =>
        (m__law_check x103 (Txt.join (" " : Str) (cutX (Txt.split letter_ (" " : Str)) (some (2 : Int)) none))).bind fun r110 =>
        if ¬ r83 = (some r110) then
          some (.inl ("none" : Str))
        else
          (r71).bind fun x117 =>
          some (.inr (x117, (Txt.join (" " : Str) (cutX (Txt.split letter_ (" " : Str)) (some (2 : Int)) none)))) else none else none else none
section
variable {P : Program} {w : World} {K : PySem.W.Frag} {mg : Str → Option Value} {base : Heap}
def sp__law_due (K : PySem.W.Frag) : Sp := fun vs H Q E_ => ∃ (kind_ : Str) (letter_ : Str) (r_ : (Str ⊕ (Int × Str))), vs = [(.str kind_), (.str letter_)] ∧ (oks H [] ∧ (owns []).Nodup ∧ m__law_due kind_ letter_ = some r_ ∧ (∀ (H' : Hp) (vz : V), Sep (owns []) H H' [aV vz r_] → Q vz H'))
abbrev N__law_due : List Str := ["_law_kind", "_law_letter", "_law_words", "_law_number_here", "_law_check_here", "_law_text"]
theorem sc__law_due : FnScope N__law_due ["_law_kind", "_law_letter"] (defScope s__law_due) := ⟨rfl, rfl, rfl, by decide +kernel, rfl, by decide +kernel, by decide +kernel⟩
theorem ok__law_due (T : Txt K mg) : Ok P w K mg base CX0 2 (He.fAd K ("_law_due", none)) ["_law_kind", "_law_letter"] (sp__law_due K) := by
  obtain ⟨_, G__law_number, b__law_number, kp__law_number⟩ := ok__law_number (P := P) (w := w) (base := base) T
  obtain ⟨_, G__law_check, b__law_check, kp__law_check⟩ := ok__law_check (P := P) (w := w) (base := base) T
  obtain ⟨fd, F⟩ := T.d__law_due
  refine ⟨fd, F.ok sc__law_due (fun vs H Q E h => by obtain ⟨kind_, letter_, r_, rfl, _⟩ := h; rfl) (fun cdv A_ outer s_ H vs Q E hr h => ?_), F.bindsN (fun _ _ _ _ _ _ us hl => match us, hl with | [_, _], _ => rfl), F.kp⟩
  obtain ⟨kind_, letter_, r_, rfl, h⟩ := h
  have hu := hu_of hr
  refine ⟨_, PSs.nox (pss_cons (ps_set (i := 2) sc__law_due.nd rfl (.inl rfl) (pe_split (pv 1) pe_str))
  (pss_cons (ps_if (PW.pt (pw_or (pt_cmpR op_lt (pe_callB call_len_seq (by rfl) T.f_len PySem.boot_len (pa_cons (pv 2) pa_nil)) pe_int (nomark _)) (pw_or1 (pt_cmpR op_ne (pe_slice sl_str (pe_ix ix_list (pv 2) pe_int (fun _ _ => rfl)) po_none (po_some pe_int)) (pv 0) (nomark _))))) (pss_one (ps_ret pe_str)) pss_nil)
  (pss_cons (ps_par (i := 3) (j := 4) (by rfl) sc__law_due.nd rfl rfl (by decide) rfl rfl (pa_cons (pe_call G__law_number (hr.mono (by decide)) (by rfl) T.g__law_number kp__law_number b__law_number .nil pass0 (pa_cons (pe_slice sl_str (pe_ix ix_list (pv 2) pe_int (fun _ _ => rfl)) (po_some pe_int) po_none) pa_nil)) (pa_cons (pe_call G__law_number (hr.mono (by decide)) (by rfl) T.g__law_number kp__law_number b__law_number .nil pass0 (pa_cons (pe_ix ix_list (pv 2) pe_int (fun _ _ => rfl)) pa_nil)) pa_nil)) (by rfl))
  (pss_cons (ps_set (i := 5) sc__law_due.nd rfl (.inl rfl) (pe_join pe_str (pe_slice sl_list (pv 2) (po_some pe_int) po_none)))
  (pss_cons (ps_if (PW.pt (pw_or (pt_cmpR op_isN (pv 3) pe_non (nomark _)) (pw_or (pt_cmpR op_isN (pv 4) pe_non (nomark _)) (pw_or1 (pt_cmpR op_ne (pv 4) (pe_call G__law_check (hr.mono (by decide)) (by rfl) T.g__law_check kp__law_check b__law_check .nil pass0 (pa_cons (pe_ix ix_list (pv 2) pe_int (fun _ _ => rfl)) (pa_cons (pv 5) pa_nil))) (nomark _)))))) (pss_one (ps_ret pe_str)) pss_nil)
  (pss_one (ps_ret (pe_tup (pa_cons (pv 3) (pa_cons (pv 5) pa_nil)))))))))), ?_⟩
  obtain ⟨hp1, hp2, hm, q⟩ := h
  have hs := Sep.pre (L := []) ⟨hp1, hp2⟩
  unfold m__law_due at hm
  clear hp1 hp2
  obtain ⟨g1, hm⟩ := gd hm
  refine ⟨_, rfl, ⟨_, rfl⟩, _, _, rfl, rfl, rfl, small_le (show letter_.length + 2 ≤ 16777216 by omega), fun p2 n3 => ?_⟩
  try dsimp only
  generalize ee_ : upd H p2 _ = H4
  replace hs := (hs.newL (ys := ((Txt.split letter_ (" " : Str)) : (List Str))) n3 (Imms.ofSc _)).cast ee_
  clear ee_
  obtain ⟨b40, eb40, hm⟩ := bnd hm
  try dsimp only [tNext, gName]
  try with_reducible refine iteF ?_
  refine if_use hs (b := b40) ?_ ?_
  · skip
    refine evT_or eb40 (fun b41 hb42 => ?_) (fun b43 hb44 => ?_)
    · skip
      refine fun H45 hs Q_ hQ46 => ?_
      have hm := hb42
      obtain ⟨vs47, hl48, hv49⟩ := hs.lst 0 rfl
      refine ⟨_, rfl, _, _, rfl, .inl (SqL.of hl48), ?_⟩
      rw [hv49.length]
      refine ⟨_, _, rfl, rfl, _, rfl, ?_⟩
      rw [Option.some.inj hm]
      exact hQ46 _ (hs.tl 0)
    · skip
      refine fun H50 hs Q_ hQ51 => ?_
      have hm := hb44
      obtain ⟨x52, ex52, hm⟩ := bnd hm
      obtain ⟨vs53, hl54, hv55⟩ := hs.lst 0 rfl
      obtain ⟨u56, hu57, hx58⟩ := hv55.ix ex52
      have hx58 : u56 = (.str x52) := hx58
      subst hx58
      obtain ⟨g59, hm⟩ := gd hm
      refine ⟨_, rfl, _, _, _, _, rfl, rfl, SqL.of hl54, hu57, _, rfl, _, rfl, small_le (Nat.le_of_lt (Nat.lt_trans g59 (by decide))), ?_⟩
      refine ⟨_, rfl, rfl, _, dnS, ?_⟩
      rw [Option.some.inj hm]
      exact hQ51 _ (hs.tl 0)
  intro H61 hs
  refine iteBt (fun c60 => ?_) (fun c60 => ?_)
  · replace hm := ift c60 hm
    replace hs := hs.addV (v := (.str "none")) (x := ((.inl ("none" : Str)) : (Str ⊕ (Int × Str)))) (imL (α := Str) (β := (Int × Str)) imS)
    replace hs : Sep (owns []) H H61 [aV (.str "none") ((.inl ("none" : Str)) : (Str ⊕ (Int × Str)))] := hs.tk 1
    obtain rfl := Option.some.inj hm
    exact q H61 (.str "none") hs
  · replace hm := ife c60 hm
    obtain ⟨x63, ex63, hm⟩ := bnd hm
    obtain ⟨vs64, hl65, hv66⟩ := hs.lst 0 rfl
    obtain ⟨u67, hu68, hx69⟩ := hv66.ix ex63
    have hx69 : u67 = (.str x63) := hx69
    subst hx69
    obtain ⟨g70, hm⟩ := gd hm
    refine ⟨_, rfl, _, _, _, _, rfl, rfl, SqL.of hl65, hu68, _, rfl, _, rfl, small_le (Nat.le_of_lt (Nat.lt_trans g70 (by decide))), ?_⟩
    obtain ⟨r71, er71, hm⟩ := bnd hm
    refine ⟨(cutS x63 (some (1 : Int)) none), r71, rfl, (hs.frontN 0).1, (hs.frontN 0).2, er71, fun H72 vz74 hc73 => ?_⟩
    replace hs := hs.callN 0 hc73
    obtain ⟨x76, ex76, hm⟩ := bnd hm
    obtain ⟨vs77, hl78, hv79⟩ := hs.lst 1 rfl
    obtain ⟨u80, hu81, hx82⟩ := hv79.ix ex76
    have hx82 : u80 = (.str x76) := hx82
    subst hx82
    obtain ⟨r83, er83, hm⟩ := bnd hm
    refine ⟨_, rfl, _, _, _, _, rfl, rfl, SqL.of hl78, hu81, x76, r83, rfl, (hs.frontN 0).1, (hs.frontN 0).2, er83, fun H84 vz86 hc85 => ?_⟩
    replace hs := hs.callN 0 hc85
    refine ⟨_, _, rfl, ?_⟩
    obtain ⟨vs88, hl89, hv90⟩ := hs.lst 2 rfl
    refine ⟨⟨_, rfl⟩, _, rfl, _, rfl, _, _, rfl, SqL.of hl89, fun p91 n92 => ?_⟩
    try dsimp only
    generalize ee_ : upd H84 p91 _ = H93
    replace hs := (hs.newL (ys := ((cutX (Txt.split letter_ (" " : Str)) (some (2 : Int)) none) : (List Str))) n92 (hv90.cut (some (2 : Int)) none)).cast ee_
    clear ee_
    obtain ⟨g95, hm⟩ := gd hm
    have f96 := hs.scs 0 rfl
    refine ⟨_, _, (cutX (Txt.split letter_ (" " : Str)) (some (2 : Int)) none), rfl, rfl, .inl (SqL.of f96), g95, ?_⟩
    have f97 := hs.val 2 rfl
    refine ⟨_, rfl, rfl, _, (opt_dec f97), ?_⟩
    refine iteD (fun c98 => ?_) (fun c98 => ?_)
    · replace hm := ift c98 hm
      replace hs := hs.addV (v := (.str "none")) (x := ((.inl ("none" : Str)) : (Str ⊕ (Int × Str)))) (imL (α := Str) (β := (Int × Str)) imS)
      replace hs : Sep (owns []) H H93 [aV (.str "none") ((.inl ("none" : Str)) : (Str ⊕ (Int × Str)))] := hs.tk 1
      obtain rfl := Option.some.inj hm
      exact q H93 (.str "none") hs
    · replace hm := ife c98 hm
      have f100 := hs.val 1 rfl
      refine ⟨_, rfl, rfl, _, (opt_dec f100), ?_⟩
      refine iteD (fun c101 => ?_) (fun c101 => ?_)
      · replace hm := ift c101 hm
        replace hs := hs.addV (v := (.str "none")) (x := ((.inl ("none" : Str)) : (Str ⊕ (Int × Str)))) (imL (α := Str) (β := (Int × Str)) imS)
        replace hs : Sep (owns []) H H93 [aV (.str "none") ((.inl ("none" : Str)) : (Str ⊕ (Int × Str)))] := hs.tk 1
        obtain rfl := Option.some.inj hm
        exact q H93 (.str "none") hs
      · replace hm := ife c101 hm
        obtain ⟨x103, ex103, hm⟩ := bnd hm
        obtain ⟨vs104, hl105, hv106⟩ := hs.lst 3 rfl
        obtain ⟨u107, hu108, hx109⟩ := hv106.ix ex103
        have hx109 : u107 = (.str x103) := hx109
        subst hx109
        obtain ⟨r110, er110, hm⟩ := bnd hm
        refine ⟨_, rfl, _, rfl, _, _, _, _, rfl, rfl, SqL.of hl105, hu108, _, rfl, x103, (Txt.join (" " : Str) (cutX (Txt.split letter_ (" " : Str)) (some (2 : Int)) none)), r110, rfl, (hs.frontN 0).1, (hs.frontN 0).2, er110, fun H111 hc112 => ?_⟩
        replace hs := hs.callN 0 hc112
        have f113 := hs.val 1 rfl
        have f114 := hs.val 1 rfl
        refine ⟨(opt_scal f113 (imO imI)), _, (opt_neqd f114 (imO imI)), ?_⟩
        refine iteD (fun c115 => ?_) (fun c115 => ?_)
        · replace hm := ift c115 hm
          replace hs := hs.addV (v := (.str "none")) (x := ((.inl ("none" : Str)) : (Str ⊕ (Int × Str)))) (imL (α := Str) (β := (Int × Str)) imS)
          replace hs : Sep (owns []) H H111 [aV (.str "none") ((.inl ("none" : Str)) : (Str ⊕ (Int × Str)))] := hs.tk 1
          obtain rfl := Option.some.inj hm
          exact q H111 (.str "none") hs
        · replace hm := ife c115 hm
          obtain ⟨x117, ex117, hm⟩ := bnd hm
          have e118 := hs.val 2 rfl
          rw [ex117] at e118
          have e118 : vz74 = .int x117 := e118
          subst e118
          refine ⟨_, rfl, _, rfl, (by show 2 ≤ sizeLine; decide), fun t119 n120 => ?_⟩
          try dsimp only
          generalize ee_ : upd H111 t119 _ = H121
          replace hs := (hs.newTup n120 [(.int x117), (.str (Txt.join (" " : Str) (cutX (Txt.split letter_ (" " : Str)) (some (2 : Int)) none)))]).cast ee_
          clear ee_
          replace hs := hs.addV (v := .ref t119) (x := ((.inr (x117, (Txt.join (" " : Str) (cutX (Txt.split letter_ (" " : Str)) (some (2 : Int)) none)))) : (Str ⊕ (Int × Str)))) (imR (α := Str) (β := (Int × Str)) (im2 (hs.tup 0 rfl) imI imS))
          replace hs : Sep (owns []) H H121 [aV (.ref t119) ((.inr (x117, (Txt.join (" " : Str) (cutX (Txt.split letter_ (" " : Str)) (some (2 : Int)) none)))) : (Str ⊕ (Int × Str)))] := hs.tk 1
          obtain rfl := Option.some.inj hm
          exact q H121 (.ref t119) hs
end
def m__law_told (kind_ : Str) (letter_ : Str) : Option ((Str ⊕ (Int × Str))) :=
  (m_opened kind_ letter_).bind fun z1 => z1.on (fun e6 =>
  (atI ([("other" : Str), ("none" : Str)] : (List Str)) (if decide (true = true) = true then (1 : Int) else 0)).bind fun x13 =>
  some (.inl x13)) fun r2 =>
  some (.inr r2)
section
variable {P : Program} {w : World} {K : PySem.W.Frag} {mg : Str → Option Value} {base : Heap}
def sp__law_told (K : PySem.W.Frag) : Sp := fun vs H Q E_ => ∃ (kind_ : Str) (letter_ : Str) (r_ : (Str ⊕ (Int × Str))), vs = [(.str kind_), (.str letter_)] ∧ (oks H [] ∧ (owns []).Nodup ∧ m__law_told kind_ letter_ = some r_ ∧ (∀ (H' : Hp) (vz : V), Sep (owns []) H H' [aV vz r_] → Q vz H'))
abbrev N__law_told : List Str := ["_law_kind", "_law_letter", "_law_found", "e"]
theorem sc__law_told : FnScope N__law_told ["_law_kind", "_law_letter"] (defScope s__law_told) := ⟨rfl, rfl, rfl, by decide +kernel, rfl, by decide +kernel, by decide +kernel⟩
theorem ok__law_told (T : Txt K mg) : Ok P w K mg base CX0 3 (He.fAd K ("_law_told", none)) ["_law_kind", "_law_letter"] (sp__law_told K) := by
  obtain ⟨_, G_opened, b_opened, kp_opened⟩ := ok_opened (P := P) (w := w) (base := base) T
  obtain ⟨fd, F⟩ := T.d__law_told
  refine ⟨fd, F.ok sc__law_told (fun vs H Q E h => by obtain ⟨kind_, letter_, r_, rfl, _⟩ := h; rfl) (fun cdv A_ outer s_ H vs Q E hr h => ?_), F.bindsN (fun _ _ _ _ _ _ us hl => match us, hl with | [_, _], _ => rfl), F.kp⟩
  obtain ⟨kind_, letter_, r_, rfl, h⟩ := h
  have hu := hu_of hr
  refine ⟨_, PSs.nox (pss_cons (ps_try_as (i := 3) rfl rfl sc__law_told.nd rfl rfl ⟨rfl, by decide, .inl T.g_BoardError⟩ takes0 (fun W_ pn_ xe_ tk_ po_ => (pss_one (ps_set (i := 2) sc__law_told.nd rfl (.inl rfl) (pe_callS G_opened (hr.mono (by decide)) (by rfl) T.g_opened kp_opened b_opened (fun σ_ => passAt tk_ σ_) (pa_cons (pv 0) (pa_cons (pv 1) pa_nil)))))) (fun a_ oe_ cls_ d_ pn2_ hz_ hf_ => (pss_one (ps_ret (pe_ix (ix_listK (K := K) rfl) (pe_lst (pa_cons pe_str (pa_cons pe_str pa_nil))) (pe_callTy call_int1 (by rfl) T.f_int (by decide +kernel) (pa_cons (pe_callB (call_isEw hz_ hf_) (by rfl) T.f_isinstance (by decide +kernel) (pa_cons (pv 3) (pa_cons (gr_ (by rfl) T.g_NoLetter) pa_nil))) pa_nil)) (fun _ _ => rfl))))))
  (pss_one (ps_ret (pv 2)))), ?_⟩
  obtain ⟨hp1, hp2, hm, q⟩ := h
  have hs := Sep.pre (L := []) ⟨hp1, hp2⟩
  unfold m__law_told at hm
  clear hp1 hp2
  obtain ⟨z1, ez1, hm⟩ := bnd hm
  refine ⟨_, rfl, _, rfl, kind_, letter_, z1, rfl, (hs.frontN 0).1, (hs.frontN 0).2, ez1, ?_, ?_⟩
  · intro  he_ H7  hc8
    subst he_
    dsimp only [Rz.on] at hm
    replace hs := hs.callN 0 hc8
    refine ⟨true, T.xm_NoLetter_BoardError, fun _ ea_ na_ => ?_, fun z_ => nomatch z_⟩
    refine ⟨(by show 2 ≤ sizeLine; decide), fun p9 n10 => ?_⟩
    try dsimp only
    generalize ee_ : upd H7 p9 _ = H11
    replace hs := (hs.newL (ys := (([("other" : Str), ("none" : Str)] : (List Str)) : (List Str))) n10 ((.cons imS (.cons imS .nil)))).cast ee_
    clear ee_
    refine ⟨_, rfl, (He.ga K "NoLetter"), _, _, _, rfl, .inl rfl, T.xi_NoLetter, rfl, fun _ r_ => r_, T.kt_NoLetter_NoLetter, .inr ⟨_, congrArg (fun z => [z]) dB, ?_⟩⟩
    obtain ⟨x13, ex13, hm⟩ := bnd hm
    obtain ⟨vs14, hl15, hv16⟩ := hs.lst 0 rfl
    obtain ⟨u17, hu18, hx19⟩ := hv16.ix ex13
    have hx19 : u17 = (.str x13) := hx19
    subst hx19
    replace hs := hs.addV (v := (.str x13)) (x := ((.inl x13) : (Str ⊕ (Int × Str)))) (imL (α := Str) (β := (Int × Str)) imS)
    refine ⟨_, _, _, _, rfl, rfl, SqL.of hl15, hu18, ?_⟩
    replace hs : Sep (owns []) H H11 [aV (.str x13) ((.inl x13) : (Str ⊕ (Int × Str)))] := hs.tk 1
    obtain rfl := Option.some.inj hm
    exact q H11 (.str x13) hs
  intro r2 he_ H3 vz5 hc4
  subst he_
  dsimp only [Rz.on] at hm
  replace hs := hs.callN 0 hc4
  replace hs := hs.addV (v := vz5) (x := ((.inr r2) : (Str ⊕ (Int × Str)))) (imR (α := Str) (β := (Int × Str)) (hs.val 0 rfl))
  refine ⟨_, rfl, ?_⟩
  replace hs : Sep (owns []) H H3 [aV vz5 ((.inr r2) : (Str ⊕ (Int × Str)))] := hs.tk 1
  obtain rfl := Option.some.inj hm
  exact q H3 vz5 hs
end
def m__law_bent (letter_ : Str) (row_ : (List Int)) : Option (Str) :=
  (atI row_ (1 : Int)).bind fun x2 =>
  if letter_.length < 16000000 then
  if 0 < (letter_.length : Int) then
  (m__law_signs ).bind fun r11 =>
  (atI row_ (2 : Int)).bind fun x14 =>
  (atI (Str.cps r11).toList (x14 % (41 : Int))).bind fun c21 =>
  if r11.length < 16000000 then
  (atI row_ (0 : Int)).bind fun x23 =>
  if ((x23 % (6 : Int)) = (0 : Int)) then
    if letter_.length < 16000000 then
    if (cutS letter_ none (some (x2 % (letter_.length : Int)))).length + (⟨#[c21]⟩ : Str).length < 16000000 then
    if letter_.length < 16000000 then
    if ((cutS letter_ none (some (x2 % (letter_.length : Int)))) ++ (⟨#[c21]⟩ : Str)).length + (cutS letter_ (some ((x2 % (letter_.length : Int)) + (1 : Int))) none).length < 16000000 then
    some (((cutS letter_ none (some (x2 % (letter_.length : Int)))) ++ (⟨#[c21]⟩ : Str)) ++ (cutS letter_ (some ((x2 % (letter_.length : Int)) + (1 : Int))) none)) else none else none else none else none
  else
    if ((x23 % (6 : Int)) = (1 : Int)) then
      if letter_.length < 16000000 then
      if letter_.length < 16000000 then
      if (cutS letter_ none (some (x2 % (letter_.length : Int)))).length + (cutS letter_ (some ((x2 % (letter_.length : Int)) + (1 : Int))) none).length < 16000000 then
      some ((cutS letter_ none (some (x2 % (letter_.length : Int)))) ++ (cutS letter_ (some ((x2 % (letter_.length : Int)) + (1 : Int))) none)) else none else none else none
    else
      if ((x23 % (6 : Int)) = (2 : Int)) then
        if letter_.length < 16000000 then
        if (cutS letter_ none (some (x2 % (letter_.length : Int)))).length + (⟨#[c21]⟩ : Str).length < 16000000 then
        if letter_.length < 16000000 then
        if ((cutS letter_ none (some (x2 % (letter_.length : Int)))) ++ (⟨#[c21]⟩ : Str)).length + (cutS letter_ (some (x2 % (letter_.length : Int))) none).length < 16000000 then
        some (((cutS letter_ none (some (x2 % (letter_.length : Int)))) ++ (⟨#[c21]⟩ : Str)) ++ (cutS letter_ (some (x2 % (letter_.length : Int))) none)) else none else none else none else none
      else
        if ((x23 % (6 : Int)) = (3 : Int)) then
          if letter_.length < 16000000 then
          if letter_.length < 16000000 then
          if (cutS letter_ (some (x2 % (letter_.length : Int))) (some ((x2 % (letter_.length : Int)) + (2 : Int)))).length < 16000000 then
          if (cutS letter_ none (some (x2 % (letter_.length : Int)))).length + (revS (cutS letter_ (some (x2 % (letter_.length : Int))) (some ((x2 % (letter_.length : Int)) + (2 : Int))))).length < 16000000 then
          if letter_.length < 16000000 then
          if ((cutS letter_ none (some (x2 % (letter_.length : Int)))) ++ (revS (cutS letter_ (some (x2 % (letter_.length : Int))) (some ((x2 % (letter_.length : Int)) + (2 : Int)))))).length + (cutS letter_ (some ((x2 % (letter_.length : Int)) + (2 : Int))) none).length < 16000000 then
          some (((cutS letter_ none (some (x2 % (letter_.length : Int)))) ++ (revS (cutS letter_ (some (x2 % (letter_.length : Int))) (some ((x2 % (letter_.length : Int)) + (2 : Int)))))) ++ (cutS letter_ (some ((x2 % (letter_.length : Int)) + (2 : Int))) none)) else none else none else none else none else none else none
        else
          if ((x23 % (6 : Int)) = (4 : Int)) then
            if letter_.length < 16000000 then
            some (cutS letter_ none (some (x2 % (letter_.length : Int)))) else none
          else
            (atI row_ (3 : Int)).bind fun x82 =>
            (atI ([("a" : Str), ("q" : Str), ("x" : Str), ("" : Str)] : (List Str)) (x82 % (4 : Int))).bind fun x89 =>
            if letter_.length < 16000000 then
            if x89.length + (cutS letter_ (some (1 : Int)) none).length < 16000000 then
            some (x89 ++ (cutS letter_ (some (1 : Int)) none)) else none else none else none else none else none
section
variable {P : Program} {w : World} {K : PySem.W.Frag} {mg : Str → Option Value} {base : Heap}
def sp__law_bent (K : PySem.W.Frag) : Sp := fun vs H Q E_ => ∃ (letter_ : Str) (prow_ : Addr) (row_ : (List Int)) (r_ : Str), vs = [(.str letter_), .ref prow_] ∧ (oks H [aL prow_ row_] ∧ (owns [aL prow_ row_]).Nodup ∧ m__law_bent letter_ row_ = some r_ ∧ (∀ (H' : Hp) , Sep (owns [aL prow_ row_]) H H' [aL prow_ row_] → Q (.str r_) H'))
abbrev N__law_bent : List Str := ["_law_letter", "_law_row", "_law_at", "_law_sign", "_law_way", "_law_two"]
theorem sc__law_bent : FnScope N__law_bent ["_law_letter", "_law_row"] (defScope s__law_bent) := ⟨rfl, rfl, rfl, by decide +kernel, rfl, by decide +kernel, by decide +kernel⟩
theorem ok__law_bent (T : Txt K mg) : Ok P w K mg base CX0 2 (He.fAd K ("_law_bent", none)) ["_law_letter", "_law_row"] (sp__law_bent K) := by
  obtain ⟨_, G__law_signs, b__law_signs, kp__law_signs⟩ := ok__law_signs (P := P) (w := w) (base := base) T
  obtain ⟨fd, F⟩ := T.d__law_bent
  refine ⟨fd, F.ok sc__law_bent (fun vs H Q E h => by obtain ⟨letter_, prow_, row_, r_, rfl, _⟩ := h; rfl) (fun cdv A_ outer s_ H vs Q E hr h => ?_), F.bindsN (fun _ _ _ _ _ _ us hl => match us, hl with | [_, _], _ => rfl), F.kp⟩
  obtain ⟨letter_, prow_, row_, r_, rfl, h⟩ := h
  have hu := hu_of hr
  refine ⟨_, PSs.nox (pss_cons (ps_set (i := 2) sc__law_bent.nd rfl (.inl rfl) (pe_op op_mod (pe_ix ix_list (pv 1) pe_int (fun _ _ => rfl)) (pe_callB call_len_str (by rfl) T.f_len PySem.boot_len (pa_cons (pv 0) pa_nil))))
  (pss_cons (ps_set (i := 3) sc__law_bent.nd rfl (.inl rfl) (pe_ix ix_str (pe_call0 G__law_signs (hr.mono (by decide)) (by rfl) T.g__law_signs kp__law_signs b__law_signs .nil pass0) (pe_op op_mod (pe_ix ix_list (pv 1) pe_int (fun _ _ => rfl)) pe_int) (fun _ _ => rfl)))
  (pss_cons (ps_set (i := 4) sc__law_bent.nd rfl (.inl rfl) (pe_op op_mod (pe_ix ix_list (pv 1) pe_int (fun _ _ => rfl)) pe_int))
  (pss_cons (ps_if (pt_cmpR op_eq (pv 4) pe_int (nomark _)) (pss_one (ps_ret (pe_op op_add_str (pe_op op_add_str (pe_slice sl_str (pv 0) po_none (po_some (pv 2))) (pv 3)) (pe_slice sl_str (pv 0) (po_some (pe_op op_add (pv 2) pe_int)) po_none)))) pss_nil)
  (pss_cons (ps_if (pt_cmpR op_eq (pv 4) pe_int (nomark _)) (pss_one (ps_ret (pe_op op_add_str (pe_slice sl_str (pv 0) po_none (po_some (pv 2))) (pe_slice sl_str (pv 0) (po_some (pe_op op_add (pv 2) pe_int)) po_none)))) pss_nil)
  (pss_cons (ps_if (pt_cmpR op_eq (pv 4) pe_int (nomark _)) (pss_one (ps_ret (pe_op op_add_str (pe_op op_add_str (pe_slice sl_str (pv 0) po_none (po_some (pv 2))) (pv 3)) (pe_slice sl_str (pv 0) (po_some (pv 2)) po_none)))) pss_nil)
  (pss_cons (ps_if (pt_cmpR op_eq (pv 4) pe_int (nomark _)) (pss_cons (ps_set (i := 5) sc__law_bent.nd rfl (.inl rfl) (pe_slice sl_str (pv 0) (po_some (pv 2)) (po_some (pe_op op_add (pv 2) pe_int))))
    (pss_one (ps_ret (pe_op op_add_str (pe_op op_add_str (pe_slice sl_str (pv 0) po_none (po_some (pv 2))) (pe_revS (pv 5))) (pe_slice sl_str (pv 0) (po_some (pe_op op_add (pv 2) pe_int)) po_none))))) pss_nil)
  (pss_cons (ps_if (pt_cmpR op_eq (pv 4) pe_int (nomark _)) (pss_one (ps_ret (pe_slice sl_str (pv 0) po_none (po_some (pv 2))))) pss_nil)
  (pss_one (ps_ret (pe_op op_add_str (pe_ix ix_list (pe_lst (pa_cons pe_str (pa_cons pe_str (pa_cons pe_str (pa_cons pe_str pa_nil))))) (pe_op op_mod (pe_ix ix_list (pv 1) pe_int (fun _ _ => rfl)) pe_int) (fun _ _ => rfl)) (pe_slice sl_str (pv 0) (po_some pe_int) po_none)))))))))))), ?_⟩
  obtain ⟨hp1, hp2, hm, q⟩ := h
  have hs := Sep.pre (L := [aL prow_ row_]) ⟨hp1, hp2⟩
  generalize owns [aL prow_ row_] = S0_ at hs q
  unfold m__law_bent at hm
  clear hp1 hp2
  obtain ⟨x2, ex2, hm⟩ := bnd hm
  obtain ⟨vs3, hl4, hv5⟩ := hs.lst 0 rfl
  obtain ⟨u6, hu7, hx8⟩ := hv5.ix ex2
  have hx8 : u6 = (.int x2) := hx8
  subst hx8
  obtain ⟨g9, hm⟩ := gd hm
  refine ⟨_, rfl, _, _, _, _, rfl, rfl, SqL.of hl4, hu7, _, rfl, _, rfl, small_le (Nat.le_of_lt (Nat.lt_trans g9 (by decide))), ?_⟩
  obtain ⟨g10, hm⟩ := gd hm
  refine ⟨_, _, rfl, rfl, g10, ?_⟩
  obtain ⟨r11, er11, hm⟩ := bnd hm
  refine ⟨r11, rfl, (hs.frontN 0).1, (hs.frontN 0).2, er11, fun H12 hc13 => ?_⟩
  replace hs := hs.callN 0 hc13
  obtain ⟨x14, ex14, hm⟩ := bnd hm
  obtain ⟨vs15, hl16, hv17⟩ := hs.lst 0 rfl
  obtain ⟨u18, hu19, hx20⟩ := hv17.ix ex14
  have hx20 : u18 = (.int x14) := hx20
  subst hx20
  obtain ⟨c21, ec21, hm⟩ := bnd hm
  obtain ⟨g22, hm⟩ := gd hm
  refine ⟨_, rfl, _, _, _, _, rfl, rfl, SqL.of hl16, hu19, _, _, rfl, rfl, (show (0 : Int) < (41 : Int) by decide), _, _, _, rfl, rfl, small_le (Nat.le_of_lt (Nat.lt_trans g22 (by decide))), ec21, ?_⟩
  obtain ⟨x23, ex23, hm⟩ := bnd hm
  obtain ⟨vs24, hl25, hv26⟩ := hs.lst 0 rfl
  obtain ⟨u27, hu28, hx29⟩ := hv26.ix ex23
  have hx29 : u27 = (.int x23) := hx29
  subst hx29
  refine ⟨_, rfl, _, _, _, _, rfl, rfl, SqL.of hl25, hu28, _, _, rfl, rfl, (show (0 : Int) < (6 : Int) by decide), ?_⟩
  try dsimp only [tNext, gName]
  refine if_use hs (b := decide (((x23 % (6 : Int)) = (0 : Int)))) ?_ ?_
  · skip
    refine fun H32 hs Q_ hQ33 => ?_
    refine ⟨_, rfl, rfl, _, dI, ?_⟩
    exact hQ33 _ (hs.tl 0)
  intro H35 hs
  refine iteD (fun c34 => ?_) (fun c34 => ?_)
  · replace hm := ift c34 hm
    obtain ⟨g36, hm⟩ := gd hm
    refine ⟨_, rfl, _, rfl, _, rfl, _, rfl, small_le (Nat.le_of_lt (Nat.lt_trans g36 (by decide))), ?_⟩
    obtain ⟨g37, hm⟩ := gd hm
    obtain ⟨g38, hm⟩ := gd hm
    refine ⟨_, rfl, _, _, rfl, rfl, small_le (Nat.le_of_lt (Nat.lt_trans g37 (by decide))), _, rfl, _, rfl, _, _, rfl, rfl, _, rfl, _, rfl, small_le (Nat.le_of_lt (Nat.lt_trans g38 (by decide))), ?_⟩
    obtain ⟨g39, hm⟩ := gd hm
    refine ⟨_, _, rfl, rfl, small_le (Nat.le_of_lt (Nat.lt_trans g39 (by decide))), ?_⟩
    replace hs : Sep S0_ H H35 [aL prow_ row_] := hs.tk 1
    obtain rfl := Option.some.inj hm
    exact q H35 hs
  · replace hm := ife c34 hm
    try dsimp only [tNext, gName]
    refine if_use hs (b := decide (((x23 % (6 : Int)) = (1 : Int)))) ?_ ?_
    · skip
      refine fun H42 hs Q_ hQ43 => ?_
      refine ⟨_, rfl, rfl, _, dI, ?_⟩
      exact hQ43 _ (hs.tl 0)
    intro H45 hs
    refine iteD (fun c44 => ?_) (fun c44 => ?_)
    · replace hm := ift c44 hm
      obtain ⟨g46, hm⟩ := gd hm
      refine ⟨_, rfl, _, rfl, _, rfl, _, rfl, small_le (Nat.le_of_lt (Nat.lt_trans g46 (by decide))), ?_⟩
      obtain ⟨g47, hm⟩ := gd hm
      refine ⟨_, rfl, _, rfl, _, _, rfl, rfl, _, rfl, _, rfl, small_le (Nat.le_of_lt (Nat.lt_trans g47 (by decide))), ?_⟩
      obtain ⟨g48, hm⟩ := gd hm
      refine ⟨_, _, rfl, rfl, small_le (Nat.le_of_lt (Nat.lt_trans g48 (by decide))), ?_⟩
      replace hs : Sep S0_ H H45 [aL prow_ row_] := hs.tk 1
      obtain rfl := Option.some.inj hm
      exact q H45 hs
    · replace hm := ife c44 hm
      try dsimp only [tNext, gName]
      refine if_use hs (b := decide (((x23 % (6 : Int)) = (2 : Int)))) ?_ ?_
      · skip
        refine fun H51 hs Q_ hQ52 => ?_
        refine ⟨_, rfl, rfl, _, dI, ?_⟩
        exact hQ52 _ (hs.tl 0)
      intro H54 hs
      refine iteD (fun c53 => ?_) (fun c53 => ?_)
      · replace hm := ift c53 hm
        obtain ⟨g55, hm⟩ := gd hm
        refine ⟨_, rfl, _, rfl, _, rfl, _, rfl, small_le (Nat.le_of_lt (Nat.lt_trans g55 (by decide))), ?_⟩
        obtain ⟨g56, hm⟩ := gd hm
        obtain ⟨g57, hm⟩ := gd hm
        refine ⟨_, rfl, _, _, rfl, rfl, small_le (Nat.le_of_lt (Nat.lt_trans g56 (by decide))), _, rfl, _, rfl, _, rfl, _, rfl, small_le (Nat.le_of_lt (Nat.lt_trans g57 (by decide))), ?_⟩
        obtain ⟨g58, hm⟩ := gd hm
        refine ⟨_, _, rfl, rfl, small_le (Nat.le_of_lt (Nat.lt_trans g58 (by decide))), ?_⟩
        replace hs : Sep S0_ H H54 [aL prow_ row_] := hs.tk 1
        obtain rfl := Option.some.inj hm
        exact q H54 hs
      · replace hm := ife c53 hm
        try dsimp only [tNext, gName]
        refine if_use hs (b := decide (((x23 % (6 : Int)) = (3 : Int)))) ?_ ?_
        · skip
          refine fun H61 hs Q_ hQ62 => ?_
          refine ⟨_, rfl, rfl, _, dI, ?_⟩
          exact hQ62 _ (hs.tl 0)
        intro H64 hs
        refine iteD (fun c63 => ?_) (fun c63 => ?_)
        · replace hm := ift c63 hm
          obtain ⟨g65, hm⟩ := gd hm
          refine ⟨_, rfl, _, rfl, _, rfl, _, rfl, _, _, rfl, rfl, _, rfl, _, rfl, small_le (Nat.le_of_lt (Nat.lt_trans g65 (by decide))), ?_⟩
          obtain ⟨g66, hm⟩ := gd hm
          refine ⟨_, rfl, _, rfl, _, rfl, _, rfl, small_le (Nat.le_of_lt (Nat.lt_trans g66 (by decide))), ?_⟩
          obtain ⟨g67, hm⟩ := gd hm
          refine ⟨_, rfl, _, rfl, small_le (Nat.le_of_lt (Nat.lt_trans g67 (by decide))), ?_⟩
          obtain ⟨g68, hm⟩ := gd hm
          obtain ⟨g69, hm⟩ := gd hm
          refine ⟨_, _, rfl, rfl, small_le (Nat.le_of_lt (Nat.lt_trans g68 (by decide))), _, rfl, _, rfl, _, _, rfl, rfl, _, rfl, _, rfl, small_le (Nat.le_of_lt (Nat.lt_trans g69 (by decide))), ?_⟩
          obtain ⟨g70, hm⟩ := gd hm
          refine ⟨_, _, rfl, rfl, small_le (Nat.le_of_lt (Nat.lt_trans g70 (by decide))), ?_⟩
          replace hs : Sep S0_ H H64 [aL prow_ row_] := hs.tk 1
          obtain rfl := Option.some.inj hm
          exact q H64 hs
        · replace hm := ife c63 hm
          try dsimp only [tNext, gName]
          refine if_use hs (b := decide (((x23 % (6 : Int)) = (4 : Int)))) ?_ ?_
          · skip
            refine fun H73 hs Q_ hQ74 => ?_
            refine ⟨_, rfl, rfl, _, dI, ?_⟩
            exact hQ74 _ (hs.tl 0)
          intro H76 hs
          refine iteD (fun c75 => ?_) (fun c75 => ?_)
          · replace hm := ift c75 hm
            obtain ⟨g77, hm⟩ := gd hm
            refine ⟨_, rfl, _, rfl, _, rfl, _, rfl, small_le (Nat.le_of_lt (Nat.lt_trans g77 (by decide))), ?_⟩
            replace hs : Sep S0_ H H76 [aL prow_ row_] := hs.tk 1
            obtain rfl := Option.some.inj hm
            exact q H76 hs
          · replace hm := ife c75 hm
            refine ⟨(by show 4 ≤ sizeLine; decide), fun p78 n79 => ?_⟩
            try dsimp only
            generalize ee_ : upd H76 p78 _ = H80
            replace hs := (hs.newL (ys := (([("a" : Str), ("q" : Str), ("x" : Str), ("" : Str)] : (List Str)) : (List Str))) n79 ((.cons imS (.cons imS (.cons imS (.cons imS .nil)))))).cast ee_
            clear ee_
            obtain ⟨x82, ex82, hm⟩ := bnd hm
            obtain ⟨vs83, hl84, hv85⟩ := hs.lst 1 rfl
            obtain ⟨u86, hu87, hx88⟩ := hv85.ix ex82
            have hx88 : u86 = (.int x82) := hx88
            subst hx88
            obtain ⟨x89, ex89, hm⟩ := bnd hm
            obtain ⟨vs90, hl91, hv92⟩ := hs.lst 0 rfl
            obtain ⟨u93, hu94, hx95⟩ := hv92.ix ex89
            have hx95 : u93 = (.str x89) := hx95
            subst hx95
            obtain ⟨g96, hm⟩ := gd hm
            refine ⟨_, rfl, _, _, _, _, rfl, rfl, SqL.of hl84, hu87, _, _, rfl, rfl, (show (0 : Int) < (4 : Int) by decide), _, _, _, _, rfl, rfl, SqL.of hl91, hu94, _, rfl, _, rfl, _, rfl, small_le (Nat.le_of_lt (Nat.lt_trans g96 (by decide))), ?_⟩
            obtain ⟨g97, hm⟩ := gd hm
            refine ⟨_, _, rfl, rfl, small_le (Nat.le_of_lt (Nat.lt_trans g97 (by decide))), ?_⟩
            replace hs : Sep S0_ H H80 [aL prow_ row_] := (hs.mv 1 rfl).tk 1
            obtain rfl := Option.some.inj hm
            exact q H80 hs
end
def m_law_l2 (r565 : (List Int)) (k652 : Int) (a651 : (List Str)) : Option ((List Str)) :=
  (m__law_signs ).bind fun r661 =>
  (atI r565 ((10 : Int) + k652)).bind fun x664 =>
  (atI (Str.cps r661).toList (x664 % (41 : Int))).bind fun c671 =>
  if r661.length < 16000000 then
  snoc a651 (⟨#[c671]⟩ : Str) else none
def m_law_l4 (r915 : Str) (k945 : Str) (s944 : Unit) : Option (Ctl (Bool) (Unit)) :=
  (m__law_told k945 r915).bind fun r959 =>
  (m__law_due k945 r915).bind fun r964 =>
  if Dat.b r959 = true then
  if Dat.b r964 = true then
  if ¬ (r959 = r964) then
    some (.rt false)
  else
    some (.nx ()) else none else none
def m_law_l3 (r565 : (List Int)) (c577 : Nat) (x604 : Int) (a651 : (List Str)) (x691 : Int) (r704 : Int) (k893 : Int) (s892 : Unit) : Option (Ctl (Bool) (Unit)) :=
  (m__law_bent ((((((⟨#[c577]⟩ : Str) ++ (strI x604)) ++ (" " : Str)) ++ (strI r704)) ++ (" " : Str)) ++ (repS (Txt.join ("" : Str) a651) (Int.toNat x691))) (cutX r565 (some ((41 : Int) + ((4 : Int) * k893))) (some ((45 : Int) + ((4 : Int) * k893))))).bind fun r915 =>
  thenC (forC (m_law_l4 r915) ([("q" : Str), ("a" : Str)] : (List Str)) ()) (fun r => some (.rt r)) fun (s944 : Unit) =>
  (andO ((atI r565 ((42 : Int) + ((4 : Int) * k893))).bind fun x991 => if ((((((⟨#[c577]⟩ : Str) ++ (strI x604)) ++ (" " : Str)) ++ (strI r704)) ++ (" " : Str)) ++ (repS (Txt.join ("" : Str) a651) (Int.toNat x691))).length < 16000000 then if 0 < (((((((⟨#[c577]⟩ : Str) ++ (strI x604)) ++ (" " : Str)) ++ (strI r704)) ++ (" " : Str)) ++ (repS (Txt.join ("" : Str) a651) (Int.toNat x691))).length : Int) then if ((((((⟨#[c577]⟩ : Str) ++ (strI x604)) ++ (" " : Str)) ++ (strI r704)) ++ (" " : Str)) ++ (repS (Txt.join ("" : Str) a651) (Int.toNat x691))).length < 16000000 then if (repS (Txt.join ("" : Str) a651) (Int.toNat x691)).length < 16000000 then some (decide (((((((((⟨#[c577]⟩ : Str) ++ (strI x604)) ++ (" " : Str)) ++ (strI r704)) ++ (" " : Str)) ++ (repS (Txt.join ("" : Str) a651) (Int.toNat x691))).length : Int) - ((repS (Txt.join ("" : Str) a651) (Int.toNat x691)).length : Int)) ≤ (x991 % (((((((⟨#[c577]⟩ : Str) ++ (strI x604)) ++ (" " : Str)) ++ (strI r704)) ++ (" " : Str)) ++ (repS (Txt.join ("" : Str) a651) (Int.toNat x691))).length : Int)))) else none else none else none else none) (some (decide (¬ r915 = ((((((⟨#[c577]⟩ : Str) ++ (strI x604)) ++ (" " : Str)) ++ (strI r704)) ++ (" " : Str)) ++ (repS (Txt.join ("" : Str) a651) (Int.toNat x691))))))).bind fun b1004 =>
  (atI r565 ((41 : Int) + ((4 : Int) * k893))).bind fun x1025 =>
  if (x1025 % (6 : Int)) ∈ ([(0 : Int), (3 : Int)] : (List Int)) then
    if b1004 = true then
      (m__law_told (⟨#[c577]⟩ : Str) r915).bind fun r1039 =>
      if Dat.b r1039 = true then
      if Dat.b ((.inl ("none" : Str)) : (Str ⊕ (Int × Str))) = true then
      if ¬ (r1039 = ((.inl ("none" : Str)) : (Str ⊕ (Int × Str)))) then
        some (.rt false)
      else
        some (.nx ()) else none else none
    else
      some (.nx ())
  else
    some (.nx ())
def m_law_l1  (k543 : Int) (s542 : Unit) : Option (Ctl (Bool) (Unit)) :=
  (m__law_digits k543 (60 : Int)).bind fun r565 =>
  (atI r565 (0 : Int)).bind fun x570 =>
  (atI (Str.cps ("qa" : Str)).toList (x570 % (2 : Int))).bind fun c577 =>
  if ("qa" : Str).length < 16000000 then
  (atI r565 (1 : Int)).bind fun x579 =>
  (atI r565 (1 : Int)).bind fun x586 =>
  (atI r565 (2 : Int)).bind fun x597 =>
  (atI ([x579 + (1 : Int), (x586 * (99 : Int)) + (1 : Int), (99999 : Int), (1 : Int)] : (List Int)) (x597 % (4 : Int))).bind fun x604 =>
  (atI r565 (3 : Int)).bind fun x631 =>
  if -(2 ^ 62) ≤ (x631 % (31 : Int)) ∧ (x631 % (31 : Int)) < 2 ^ 62 then
  (forS (m_law_l2 r565) (rangeL 0 (Int.toNat (x631 % (31 : Int)))) []).bind fun a651 =>
  if (a651.map (·.length)).sum + a651.length * ("" : Str).length ≤ 16777216 then
  (atI r565 (9 : Int)).bind fun x684 =>
  (atI ([(1 : Int), (280 : Int)] : (List Int)) (if decide ((x684 % (8 : Int)) = (7 : Int)) = true then (1 : Int) else 0)).bind fun x691 =>
  if (0 ≤ x691 ∧ x691 ≤ 1000) ∧ (Txt.join ("" : Str) a651).length * Int.toNat x691 ≤ 16000000 then
  if x604.natAbs.log2 < 1920 then
  if (⟨#[c577]⟩ : Str).length + (strI x604).length < 16000000 then
  if ((⟨#[c577]⟩ : Str) ++ (strI x604)).length + (" " : Str).length < 16000000 then
  if x604.natAbs.log2 < 1920 then
  if (⟨#[c577]⟩ : Str).length + (strI x604).length < 16000000 then
  (m__law_check ((⟨#[c577]⟩ : Str) ++ (strI x604)) (repS (Txt.join ("" : Str) a651) (Int.toNat x691))).bind fun r704 =>
  if r704.natAbs.log2 < 1920 then
  if (((⟨#[c577]⟩ : Str) ++ (strI x604)) ++ (" " : Str)).length + (strI r704).length < 16000000 then
  if ((((⟨#[c577]⟩ : Str) ++ (strI x604)) ++ (" " : Str)) ++ (strI r704)).length + (" " : Str).length < 16000000 then
  if (((((⟨#[c577]⟩ : Str) ++ (strI x604)) ++ (" " : Str)) ++ (strI r704)) ++ (" " : Str)).length + (repS (Txt.join ("" : Str) a651) (Int.toNat x691)).length < 16000000 then
  (m_letter_of (⟨#[c577]⟩ : Str) x604 (repS (Txt.join ("" : Str) a651) (Int.toNat x691))).bind fun r711 =>
  if ¬ r711 = ((((((⟨#[c577]⟩ : Str) ++ (strI x604)) ++ (" " : Str)) ++ (strI r704)) ++ (" " : Str)) ++ (repS (Txt.join ("" : Str) a651) (Int.toNat x691))) then
    some (.rt false)
  else
    (m__law_told (⟨#[c577]⟩ : Str) ((((((⟨#[c577]⟩ : Str) ++ (strI x604)) ++ (" " : Str)) ++ (strI r704)) ++ (" " : Str)) ++ (repS (Txt.join ("" : Str) a651) (Int.toNat x691)))).bind fun r715 =>
    if Dat.b r715 = true then
    if Dat.b ((.inr (x604, (repS (Txt.join ("" : Str) a651) (Int.toNat x691)))) : (Str ⊕ (Int × Str))) = true then
    if ¬ (r715 = ((.inr (x604, (repS (Txt.join ("" : Str) a651) (Int.toNat x691)))) : (Str ⊕ (Int × Str)))) then
      some (.rt false)
    else
      (atI r565 (0 : Int)).bind fun x730 =>
      (atI (Str.cps ("aq" : Str)).toList (x730 % (2 : Int))).bind fun c737 =>
      if ("aq" : Str).length < 16000000 then
      (m__law_told (⟨#[c737]⟩ : Str) ((((((⟨#[c577]⟩ : Str) ++ (strI x604)) ++ (" " : Str)) ++ (strI r704)) ++ (" " : Str)) ++ (repS (Txt.join ("" : Str) a651) (Int.toNat x691)))).bind fun r739 =>
      if Dat.b r739 = true then
      if Dat.b ((.inl ("none" : Str)) : (Str ⊕ (Int × Str))) = true then
      if ¬ (r739 = ((.inl ("none" : Str)) : (Str ⊕ (Int × Str)))) then
        some (.rt false)
      else
        thenC (forC (m_law_l3 r565 c577 x604 a651 x691 r704) (rangeL 0 (Int.toNat (4 : Int))) ()) (fun r => some (.rt r)) fun (s892 : Unit) =>
        some (.nx ()) else none else none else none else none else none else none else none else none else none else none else none else none else none else none else none else none else none else none
def m_law (script_ : List Int) : Option (Bool) :=
  (if ((cutX script_ none (some (8 : Int))) = ([] : List Int)) then
    some ([(4 : Int), (19 : Int), (300 : Int)] : (List Int))
  else
    some (cutX script_ none (some (8 : Int)))).bind fun (j28 : (List Int)) =>
  thenC (forC (m_law_l1) j28 ()) (fun r => some r) fun (s542 : Unit) =>
  some true
section
variable {P : Program} {w : World} {K : PySem.W.Frag} {mg : Str → Option Value} {base : Heap}
def sp_law (K : PySem.W.Frag) : Sp := fun vs H Q E_ => ∃ (pscript_ : Addr) (script_ : List Int) (r_ : Bool), vs = [.ref pscript_] ∧ (SqL K H pscript_ (script_.map V.int) ∧ oks H [] ∧ (owns []).Nodup ∧ m_law script_ = some r_ ∧ (∀ (H' : Hp) , Sep (owns []) H H' [] → Q (.bl r_) H'))
abbrev N_law : List Str := ["_law_script", "_law_cells", "_law_cell_here", "_law_row", "_law_kind", "_law_number_here", "_law_k", "_law_text", "_law_letter", "_law_bent_here", "_law_one", "_law_touched"]
theorem sc_law : FnScope N_law ["_law_script"] (defScope s_law) := ⟨rfl, rfl, rfl, by decide +kernel, rfl, by decide +kernel, by decide +kernel⟩
theorem okF_law (T : Txt K mg) {fd : FuncData} (F : FnP K "law" "law" s_law (He.fAd K ("law", none)) fd) : FnOk P w K mg base CX0 4 (He.fAd K ("law", none)) fd ["_law_script"] (sp_law K) := by
  obtain ⟨_, G__law_digits, b__law_digits, kp__law_digits⟩ := ok__law_digits (P := P) (w := w) (base := base) T
  obtain ⟨_, G__law_signs, b__law_signs, kp__law_signs⟩ := ok__law_signs (P := P) (w := w) (base := base) T
  obtain ⟨_, G__law_check, b__law_check, kp__law_check⟩ := ok__law_check (P := P) (w := w) (base := base) T
  obtain ⟨_, G_letter_of, b_letter_of, kp_letter_of⟩ := ok_letter_of (P := P) (w := w) (base := base) T
  obtain ⟨_, G__law_told, b__law_told, kp__law_told⟩ := ok__law_told (P := P) (w := w) (base := base) T
  obtain ⟨_, G__law_bent, b__law_bent, kp__law_bent⟩ := ok__law_bent (P := P) (w := w) (base := base) T
  obtain ⟨_, G__law_due, b__law_due, kp__law_due⟩ := ok__law_due (P := P) (w := w) (base := base) T
  refine F.ok sc_law (fun vs H Q E h => by obtain ⟨pscript_, script_, r_, rfl, _⟩ := h; rfl) (fun cdv A_ outer s_ H vs Q E hr h => ?_)
  obtain ⟨pscript_, script_, r_, rfl, h⟩ := h
  have hu := hu_of hr
  refine ⟨_, PSs.nox (pss_cons (ps_set (i := 1) sc_law.nd rfl (.inl rfl) (pe_slice sl_list (pv 0) po_none (po_some pe_int)))
  (C8.pss_cut (ps_if (pt_cmpR (op_eqD hr.units) (pv 1) (pe_lst pa_nil) (nomark _)) (pss_one (ps_set (i := 1) sc_law.nd rfl (.inl rfl) (pe_lst (pa_cons pe_int (pa_cons pe_int (pa_cons pe_int pa_nil)))))) pss_nil)
  (pss_cons (ps_for PassesOwn.never rfl (pi_list (pv 1)) (pg_name (i := 2) sc_law.nd rfl (.inl rfl)) (pss_cons (ps_set (i := 3) sc_law.nd rfl (.inr rfl) (pe_call G__law_digits (hr.mono (by decide)) (by rfl) T.g__law_digits kp__law_digits b__law_digits .nil pass0 (pa_cons (pv 2) (pa_cons pe_int pa_nil))))
    (pss_cons (ps_set (i := 4) sc_law.nd rfl (.inl rfl) (pe_ix ix_str pe_str (pe_op op_mod (pe_ix ix_list (pv 3) pe_int (fun _ _ => rfl)) pe_int) (fun _ _ => rfl)))
    (pss_cons (ps_set (i := 5) sc_law.nd rfl (.inl rfl) (pe_ix ix_list (pe_lst (pa_cons (pe_op op_add (pe_ix ix_list (pv 3) pe_int (fun _ _ => rfl)) pe_int) (pa_cons (pe_op op_add (pe_op op_mul (pe_ix ix_list (pv 3) pe_int (fun _ _ => rfl)) pe_int) pe_int) (pa_cons pe_int (pa_cons pe_int pa_nil))))) (pe_op op_mod (pe_ix ix_list (pv 3) pe_int (fun _ _ => rfl)) pe_int) (fun _ _ => rfl)))
    (pss_cons (ps_set (i := 7) sc_law.nd rfl (.inl rfl) (pe_join pe_str (pe_lc (own := [("_law_k", 6)]) (g := gName 6) (tt := tYes) rfl sc_law.nd (pi_range1 (by rfl) T.f_range (pa_cons (pe_op op_mod (pe_ix ix_list (pv 3) pe_int (fun _ _ => rfl)) pe_int) pa_nil)) (blkOk_by (own := [("_law_k", 6)]) (N := N_law) (sc := defScope s_law) (by decide +kernel)) (fun _ _ _ _ _ => pg_name (i := 6) sc_law.nd rfl (Or.inl rfl)) (fun _ _ _ _ _ => pts_nil) (fun _ _ _ _ _ => (pe_ix ix_str (pe_call0 G__law_signs (hr.mono (by decide)) (by rfl) T.g__law_signs kp__law_signs b__law_signs .nil pass0) (pe_op op_mod (pe_ix (ix_listK (K := K) rfl) (pv 3) (pe_op op_add pe_int (pv 6)) (fun _ _ => rfl)) pe_int) (fun _ _ => rfl))))))
    (pss_cons (ps_set (i := 7) sc_law.nd rfl (.inl rfl) (pe_op op_mulS (pv 7) (pe_ix ix_list (pe_lst (pa_cons pe_int (pa_cons pe_int pa_nil))) (pe_callTy call_int1 (by rfl) T.f_int (by decide +kernel) (pa_cons (pe_cmpR op_eq (pe_op op_mod (pe_ix ix_list (pv 3) pe_int (fun _ _ => rfl)) pe_int) pe_int (nomark _)) pa_nil)) (fun _ _ => rfl))))
    (pss_cons (ps_set (i := 8) sc_law.nd rfl (.inl rfl) (pe_op op_add_str (pe_op op_add_str (pe_op op_add_str (pe_op op_add_str (pe_op op_add_str (pv 4) (pe_callTy call_str_int (by rfl) T.f_str (by decide +kernel) (pa_cons (pv 5) pa_nil))) pe_str) (pe_callTy call_str_int (by rfl) T.f_str (by decide +kernel) (pa_cons (pe_call G__law_check (hr.mono (by decide)) (by rfl) T.g__law_check kp__law_check b__law_check .nil pass0 (pa_cons (pe_op op_add_str (pv 4) (pe_callTy call_str_int (by rfl) T.f_str (by decide +kernel) (pa_cons (pv 5) pa_nil))) (pa_cons (pv 7) pa_nil))) pa_nil))) pe_str) (pv 7)))
    (pss_cons (ps_if (PW.pt (pw_or (pt_cmpR op_ne (pe_call G_letter_of (hr.mono (by decide)) (by rfl) T.g_letter_of kp_letter_of b_letter_of .nil pass0 (pa_cons (pv 4) (pa_cons (pv 5) (pa_cons (pv 7) pa_nil)))) (pv 8) (nomark _)) (pw_or1 (pt_cmpR (op_neD hr.units) (pe_call G__law_told (hr.mono (by decide)) (by rfl) T.g__law_told kp__law_told b__law_told .nil pass0 (pa_cons (pv 4) (pa_cons (pv 8) pa_nil))) (pe_tup (pa_cons (pv 5) (pa_cons (pv 7) pa_nil))) (nomark _))))) (pss_one (ps_ret pe_bl)) pss_nil)
    (pss_cons (ps_if (pt_cmpR (op_neD hr.units) (pe_call G__law_told (hr.mono (by decide)) (by rfl) T.g__law_told kp__law_told b__law_told .nil pass0 (pa_cons (pe_ix ix_str pe_str (pe_op op_mod (pe_ix ix_list (pv 3) pe_int (fun _ _ => rfl)) pe_int) (fun _ _ => rfl)) (pa_cons (pv 8) pa_nil))) pe_str (nomark _)) (pss_one (ps_ret pe_bl)) pss_nil)
    (pss_one (ps_for PassesOwn.never rfl (pi_range1 (by rfl) T.f_range (pa_cons pe_int pa_nil)) (pg_name (i := 6) sc_law.nd rfl (.inl rfl)) (pss_cons (ps_set (i := 9) sc_law.nd rfl (.inl rfl) (pe_call G__law_bent (hr.mono (by decide)) (by rfl) T.g__law_bent kp__law_bent b__law_bent .nil pass0 (pa_cons (pv 8) (pa_cons (pe_slice sl_list (pv 3) (po_some (pe_op op_add pe_int (pe_op op_mul pe_int (pv 6)))) (po_some (pe_op op_add pe_int (pe_op op_mul pe_int (pv 6))))) pa_nil))))
      (pss_cons (ps_for PassesOwn.never rfl (pi_list (pe_lst (pa_cons pe_str (pa_cons pe_str pa_nil)))) (pg_name (i := 10) sc_law.nd rfl (.inl rfl)) (pss_one (ps_if (pt_cmpR (op_neD hr.units) (pe_call G__law_told (hr.mono (by decide)) (by rfl) T.g__law_told kp__law_told b__law_told .nil pass0 (pa_cons (pv 10) (pa_cons (pv 9) pa_nil))) (pe_call G__law_due (hr.mono (by decide)) (by rfl) T.g__law_due kp__law_due b__law_due .nil pass0 (pa_cons (pv 10) (pa_cons (pv 9) pa_nil))) (nomark _)) (pss_one (ps_ret pe_bl)) pss_nil)))
      (pss_cons (ps_set (i := 11) sc_law.nd rfl (.inl rfl) (pe_and (pe_cmpR op_ge (pe_op op_mod (pe_ix ix_list (pv 3) (pe_op op_add pe_int (pe_op op_mul pe_int (pv 6))) (fun _ _ => rfl)) (pe_callB call_len_str (by rfl) T.f_len PySem.boot_len (pa_cons (pv 8) pa_nil))) (pe_op op_sub (pe_callB call_len_str (by rfl) T.f_len PySem.boot_len (pa_cons (pv 8) pa_nil)) (pe_callB call_len_str (by rfl) T.f_len PySem.boot_len (pa_cons (pv 7) pa_nil))) (nomark _)) (pe_one (pe_cmpR op_ne (pv 9) (pv 8) (nomark _)))))
      (pss_one (ps_if (PW.pt (pw_and (pt_cmpR op_in_seq (pe_op op_mod (pe_ix ix_list (pv 3) (pe_op op_add pe_int (pe_op op_mul pe_int (pv 6))) (fun _ _ => rfl)) pe_int) (pe_lst (pa_cons pe_int (pa_cons pe_int pa_nil))) (by rfl)) (pw_and (pt_val (pv 11)) (pw_and1 (pt_cmpR (op_neD hr.units) (pe_call G__law_told (hr.mono (by decide)) (by rfl) T.g__law_told kp__law_told b__law_told .nil pass0 (pa_cons (pv 4) (pa_cons (pv 9) pa_nil))) pe_str (nomark _)))))) (pss_one (ps_ret pe_bl)) pss_nil))))))))))))))))
  (pss_one (ps_ret pe_bl))))), ?_⟩
  obtain ⟨sscript_, hp1, hp2, hm, q⟩ := h
  have hs := Sep.pre (L := []) ⟨hp1, hp2⟩
  unfold m_law at hm
  clear hp1 hp2
  have f1 := hs.kp.seq not_in_nil sscript_
  refine ⟨_, rfl, _, rfl, _, _, rfl, f1, fun p2 n3 => ?_⟩
  try dsimp only
  generalize ee_ : upd H p2 _ = H4
  replace hs := (hs.newL (ys := ((cutX script_ none (some (8 : Int))) : (List Int))) n3 ((Imms.ofSc script_).cut none (some (8 : Int)))).cast ee_
  clear ee_
  obtain ⟨j28, es29, hm⟩ := bnd hm
  refine ⟨fun σ' H32 => ∃ (p30 : Addr), Sep (owns []) H H32 [aL p30 j28] ∧ σ' = [some (.ref pscript_), some (.ref p30), none, none, none, none, none, none, none, none, none, none], ?_, ?_⟩
  · have hm := es29
    try dsimp only [tNext, gName]
    refine if_use hs (b := decide (((cutX script_ none (some (8 : Int))) = ([] : List Int)))) ?_ ?_
    · skip
      refine fun H41 hs Q_ hQ42 => ?_
      refine ⟨_, rfl, (by show 0 ≤ sizeLine; decide), fun p43 n44 => ?_⟩
      try dsimp only
      generalize ee_ : upd H41 p43 _ = H45
      replace hs := (hs.newC n44 (.lst [])).cast ee_
      clear ee_
      have f47 := hs.scs 1 rfl
      have f48 := hs.cel 0 rfl
      refine ⟨.list ((cutX script_ none (some (8 : Int))).map PyData.int), .list (([] : List Int).map PyData.int), dpL (SqL.of f47), dpL (xs := ([] : List Int)) (SqL.of f48), (shp_of (k := 9) (ok_L (okA_map (fun _ => ok_i) _)) (by decide)), (shp_ints _), _, (eqv_dec (eqv_intL _ _)), ?_⟩
      exact hQ42 _ (hs.tl 1)
    intro H50 hs
    refine iteD (fun c49 => ?_) (fun c49 => ?_)
    · replace hm := ift c49 hm
      refine ⟨(by show 3 ≤ sizeLine; decide), fun p51 n52 => ?_⟩
      try dsimp only
      generalize ee_ : upd H50 p51 _ = H53
      replace hs := (hs.newL (ys := (([(4 : Int), (19 : Int), (300 : Int)] : (List Int)) : (List Int))) n52 ((.cons imI (.cons imI (.cons imI .nil))))).cast ee_
      clear ee_
      replace hs : Sep (owns []) H H53 [aL p51 (([(4 : Int), (19 : Int), (300 : Int)] : (List Int)) : (List Int))] := hs.tk 1
      obtain rfl := Option.some.inj hm
      exact ⟨p51, hs, rfl⟩
    · replace hm := ife c49 hm
      replace hs : Sep (owns []) H H50 [aL p2 ((cutX script_ none (some (8 : Int))) : (List Int))] := hs.tk 1
      obtain rfl := Option.some.inj hm
      exact ⟨p2, hs, rfl⟩
  rintro σ' H32 ⟨p30, hs, rfl⟩
  obtain ⟨vs55, lv56, hs⟩ := hs.fix 0 rfl
  have hw57 := (hs.wal 0 rfl).1
  obtain ⟨z544, eL545, hmO548⟩ := thenC_eq hm
  replace hs : Sep (owns []) H H32 [aW p30 vs55 j28] := hs.tk 1
  refine ⟨_, rfl, _, rfl, ⟨_, SqL.of hw57⟩, for_listN (K := K) (a := p30) (xs := vs55) (fun i559 σ561 H560 => ∃ (s542 : Unit) (o549 : Option V) (o550 : Option V) (o551 : Option V) (o552 : Option V) (o553 : Option V) (o554 : Option V) (o555 : Option V) (o556 : Option V) (o557 : Option V) (o558 : Option V), forC (m_law_l1) (j28.drop i559) s542 = some z544 ∧ Sep (owns []) H H560 [aW p30 vs55 j28] ∧ σ561 = [some (.ref pscript_), some (.ref p30), o549, o550, o551, o552, o553, o554, o555, o556, o557, o558]) ⟨(), _, _, _, _, _, _, _, _, _, _, eL545, hs, rfl⟩ (fun i559 σ561 H560 _ pz => by obtain ⟨s542, o549, o550, o551, o552, o553, o554, o555, o556, o557, o558, hf546, hs, rfl⟩ := pz; exact SqL.of (hs.wal 0 rfl).1) ?_ ?_⟩
  · rintro i559 y564 σ561 H560 hi562 ⟨s542, o549, o550, o551, o552, o553, o554, o555, o556, o557, o558, hf546, hs, rfl⟩
    obtain ⟨k543, hx_, hy_⟩ := (hs.wal 0 rfl).2.nthv hi562
    obtain ⟨cN547, hm, hf546⟩ := forC_s hx_ hf546
    have hy_ : y564 = (.int k543) := hy_
    subst hy_
    unfold m_law_l1 at hm
    obtain ⟨r565, er565, hm⟩ := bnd hm
    refine ⟨_, rfl, k543, (60 : Int), r565, rfl, (hs.frontN 0).1, (hs.frontN 0).2, er565, fun H566 pz568 hc567 => ?_⟩
    replace hs := hs.callN 0 hc567
    obtain ⟨x570, ex570, hm⟩ := bnd hm
    obtain ⟨vs571, hl572, hv573⟩ := hs.lst 0 rfl
    obtain ⟨u574, hu575, hx576⟩ := hv573.ix ex570
    have hx576 : u574 = (.int x570) := hx576
    subst hx576
    obtain ⟨c577, ec577, hm⟩ := bnd hm
    obtain ⟨g578, hm⟩ := gd hm
    refine ⟨_, rfl, _, _, _, _, rfl, rfl, SqL.of hl572, hu575, _, _, rfl, rfl, (show (0 : Int) < (2 : Int) by decide), _, _, _, rfl, rfl, small_le (Nat.le_of_lt (Nat.lt_trans g578 (by decide))), ec577, ?_⟩
    obtain ⟨x579, ex579, hm⟩ := bnd hm
    obtain ⟨vs580, hl581, hv582⟩ := hs.lst 0 rfl
    obtain ⟨u583, hu584, hx585⟩ := hv582.ix ex579
    have hx585 : u583 = (.int x579) := hx585
    subst hx585
    obtain ⟨x586, ex586, hm⟩ := bnd hm
    obtain ⟨vs587, hl588, hv589⟩ := hs.lst 0 rfl
    obtain ⟨u590, hu591, hx592⟩ := hv589.ix ex586
    have hx592 : u590 = (.int x586) := hx592
    subst hx592
    refine ⟨_, rfl, _, _, _, _, rfl, rfl, SqL.of hl581, hu584, _, _, rfl, rfl, _, rfl, _, _, _, _, rfl, rfl, SqL.of hl588, hu591, _, _, rfl, rfl, .inr ⟨by decide, by decide⟩, _, _, rfl, rfl, (by show 4 ≤ sizeLine; decide), fun p593 n594 => ?_⟩
    try dsimp only
    generalize ee_ : upd H566 p593 _ = H595
    replace hs := (hs.newL (ys := (([x579 + (1 : Int), (x586 * (99 : Int)) + (1 : Int), (99999 : Int), (1 : Int)] : (List Int)) : (List Int))) n594 ((.cons imI (.cons imI (.cons imI (.cons imI .nil)))))).cast ee_
    clear ee_
    obtain ⟨x597, ex597, hm⟩ := bnd hm
    obtain ⟨vs598, hl599, hv600⟩ := hs.lst 1 rfl
    obtain ⟨u601, hu602, hx603⟩ := hv600.ix ex597
    have hx603 : u601 = (.int x597) := hx603
    subst hx603
    obtain ⟨x604, ex604, hm⟩ := bnd hm
    obtain ⟨vs605, hl606, hv607⟩ := hs.lst 0 rfl
    obtain ⟨u608, hu609, hx610⟩ := hv607.ix ex604
    have hx610 : u608 = (.int x604) := hx610
    subst hx610
    refine ⟨_, rfl, _, _, _, _, rfl, rfl, SqL.of hl599, hu602, _, _, rfl, rfl, (show (0 : Int) < (4 : Int) by decide), _, _, _, _, rfl, rfl, SqL.of hl606, hu609, ?_⟩
    obtain ⟨x631, ex631, hm⟩ := bnd hm
    obtain ⟨vs632, hl633, hv634⟩ := hs.lst 1 rfl
    obtain ⟨u635, hu636, hx637⟩ := hv634.ix ex631
    have hx637 : u635 = (.int x631) := hx637
    subst hx637
    obtain ⟨g638, hm⟩ := gd hm
    obtain ⟨z653, eL654, hm⟩ := bnd hm
    refine ⟨⟨_, rfl⟩, _, rfl, _, _, _, _, rfl, rfl, SqL.of hl633, hu636, _, _, rfl, rfl, (show (0 : Int) < (31 : Int) by decide), _, rfl, g638.1, g638.2, fun p655 n656 => lc_range (lo := (0 : Int)) (n := (Int.toNat (x631 % (31 : Int)))) (fun i657 H658 => ∃ (a651 : (List Str)), forS (m_law_l2 r565) ((rangeL 0 (Int.toNat (x631 % (31 : Int)))).drop i657) a651 = some z653 ∧ Sep (owns []) H H658 (aL p655 a651 :: [aL p593 (([x579 + (1 : Int), (x586 * (99 : Int)) + (1 : Int), (99999 : Int), (1 : Int)] : (List Int)) : (List Int)), aL pz568 r565, aW p30 vs55 j28])) ⟨([] : (List Str)), eL654, hs.newL n656 .nil⟩ ?_ ?_⟩
    · rintro i657 H658 hi659 ⟨a651, hf, hs⟩
      obtain ⟨sN_, hm, hf⟩ := forS_s (range_get hi659) hf
      generalize hk_ : (0 : Int) + ((i657 : Nat) : Int) = k652 at hm ⊢
      unfold m_law_l2 at hm
      refine ⟨by kernel_rfl, ?_⟩
      obtain ⟨r661, er661, hm⟩ := bnd hm
      refine ⟨r661, rfl, (hs.frontN 0).1, (hs.frontN 0).2, er661, fun H662 hc663 => ?_⟩
      replace hs := hs.callN 0 hc663
      obtain ⟨x664, ex664, hm⟩ := bnd hm
      obtain ⟨vs665, hl666, hv667⟩ := hs.lst 2 rfl
      obtain ⟨u668, hu669, hx670⟩ := hv667.ix ex664
      have hx670 : u668 = (.int x664) := hx670
      subst hx670
      obtain ⟨c671, ec671, hm⟩ := bnd hm
      obtain ⟨g672, hm⟩ := gd hm
      obtain ⟨vs673, hD674, hv675⟩ := hs.lst 0 rfl
      obtain ⟨g676, g677⟩ := snoc_eq hm
      subst g677
      refine ⟨_, rfl, _, rfl, _, _, rfl, rfl, _, _, _, _, rfl, rfl, SqL.of hl666, hu669, _, _, rfl, rfl, (show (0 : Int) < (41 : Int) by decide), _, _, _, rfl, rfl, small_le (Nat.le_of_lt (Nat.lt_trans g672 (by decide))), ec671, _, hD674, small_ (by have := hv675.length; omega), ?_⟩
      replace hv675 := hv675.snoc (v := (.str ⟨#[c671]⟩)) (x := ((⟨#[c671]⟩ : Str) : Str)) imS
      replace hs : Sep (owns []) H H662 [aL p655 a651, aL p593 (([x579 + (1 : Int), (x586 * (99 : Int)) + (1 : Int), (99999 : Int), (1 : Int)] : (List Int)) : (List Int)), aL pz568 r565, aW p30 vs55 j28] := hs.tk 4
      exact ⟨_, hf, hs.putL 0 rfl hD674 hv675⟩
    rintro H658 ⟨a651, hf, hs⟩
    have ez_ := forS_e (Nat.le_of_eq range_len) hf
    subst ez_
    obtain ⟨g678, hm⟩ := gd hm
    have f679 := hs.scs 0 rfl
    refine ⟨_, _, a651, rfl, rfl, .inl (SqL.of f679), g678, ?_⟩
    refine ⟨_, rfl, (by show 2 ≤ sizeLine; decide), fun p680 n681 => ?_⟩
    try dsimp only
    generalize ee_ : upd H658 p680 _ = H682
    replace hs := (hs.newL (ys := (([(1 : Int), (280 : Int)] : (List Int)) : (List Int))) n681 ((.cons imI (.cons imI .nil)))).cast ee_
    clear ee_
    obtain ⟨x684, ex684, hm⟩ := bnd hm
    obtain ⟨vs685, hl686, hv687⟩ := hs.lst 3 rfl
    obtain ⟨u688, hu689, hx690⟩ := hv687.ix ex684
    have hx690 : u688 = (.int x684) := hx690
    subst hx690
    refine ⟨_, rfl, _, _, _, _, rfl, rfl, SqL.of hl686, hu689, _, _, rfl, rfl, (show (0 : Int) < (8 : Int) by decide), rfl, .inr ⟨_, congrArg (fun z => [z]) dI, ?_⟩⟩
    obtain ⟨x691, ex691, hm⟩ := bnd hm
    obtain ⟨vs692, hl693, hv694⟩ := hs.lst 0 rfl
    obtain ⟨u695, hu696, hx697⟩ := hv694.ix ex691
    have hx697 : u695 = (.int x691) := hx697
    subst hx697
    obtain ⟨g698, hm⟩ := gd hm
    refine ⟨_, _, _, _, rfl, rfl, SqL.of hl693, hu696, _, _, rfl, rfl, g698.1, g698.2, ?_⟩
    replace hs : Sep (owns []) H H682 [aL pz568 r565, aW p30 vs55 j28] := ((hs.mv 4 rfl).mv 4 rfl).tk 2
    obtain ⟨g699, hm⟩ := gd hm
    refine ⟨_, rfl, _, rfl, _, rfl, g699, ?_⟩
    obtain ⟨g700, hm⟩ := gd hm
    obtain ⟨g701, hm⟩ := gd hm
    obtain ⟨g702, hm⟩ := gd hm
    refine ⟨_, _, rfl, rfl, small_le (Nat.le_of_lt (Nat.lt_trans g700 (by decide))), _, _, rfl, rfl, small_le (Nat.le_of_lt (Nat.lt_trans g701 (by decide))), _, rfl, _, rfl, _, rfl, g702, ?_⟩
    obtain ⟨g703, hm⟩ := gd hm
    obtain ⟨r704, er704, hm⟩ := bnd hm
    refine ⟨_, _, rfl, rfl, small_le (Nat.le_of_lt (Nat.lt_trans g703 (by decide))), _, rfl, ((⟨#[c577]⟩ : Str) ++ (strI x604)), (repS (Txt.join ("" : Str) a651) (Int.toNat x691)), r704, rfl, (hs.frontN 0).1, (hs.frontN 0).2, er704, fun H705 hc706 => ?_⟩
    replace hs := hs.callN 0 hc706
    obtain ⟨g707, hm⟩ := gd hm
    refine ⟨_, rfl, g707, ?_⟩
    obtain ⟨g708, hm⟩ := gd hm
    obtain ⟨g709, hm⟩ := gd hm
    obtain ⟨g710, hm⟩ := gd hm
    refine ⟨_, _, rfl, rfl, small_le (Nat.le_of_lt (Nat.lt_trans g708 (by decide))), _, _, rfl, rfl, small_le (Nat.le_of_lt (Nat.lt_trans g709 (by decide))), _, rfl, _, _, rfl, rfl, small_le (Nat.le_of_lt (Nat.lt_trans g710 (by decide))), ?_⟩
    obtain ⟨r711, er711, hm⟩ := bnd hm
    refine ⟨_, rfl, _, rfl, _, rfl, (⟨#[c577]⟩ : Str), x604, (repS (Txt.join ("" : Str) a651) (Int.toNat x691)), r711, rfl, (hs.frontN 0).1, (hs.frontN 0).2, er711, fun H712 hc713 => ?_⟩
    replace hs := hs.callN 0 hc713
    refine ⟨_, rfl, rfl, _, dnS, ?_⟩
    refine iteD (fun c714 => ?_) (fun c714 => ?_)
    · replace hm := ift c714 hm
      replace hs := hs.unfix 1 rfl
      replace hs : Sep (owns []) H H712 [] := hs.tk 0
      obtain rfl := Option.some.inj hm
      have hc_ : z544 = .rt _ := hf546
      subst hc_
      obtain rfl := Option.some.inj hmO548
      exact q H712 hs
    · replace hm := ife c714 hm
      obtain ⟨r715, er715, hm⟩ := bnd hm
      refine ⟨_, rfl, _, rfl, (⟨#[c577]⟩ : Str), ((((((⟨#[c577]⟩ : Str) ++ (strI x604)) ++ (" " : Str)) ++ (strI r704)) ++ (" " : Str)) ++ (repS (Txt.join ("" : Str) a651) (Int.toNat x691))), r715, rfl, (hs.frontN 0).1, (hs.frontN 0).2, er715, fun H716 vz718 hc717 => ?_⟩
      replace hs := hs.callN 0 hc717
      refine ⟨_, rfl, _, rfl, (by show 2 ≤ sizeLine; decide), fun t720 n721 => ?_⟩
      try dsimp only
      generalize ee_ : upd H716 t720 _ = H722
      replace hs := (hs.newTup n721 [(.int x604), (.str (repS (Txt.join ("" : Str) a651) (Int.toNat x691)))]).cast ee_
      clear ee_
      replace hs := hs.addV (v := .ref t720) (x := ((.inr (x604, (repS (Txt.join ("" : Str) a651) (Int.toNat x691)))) : (Str ⊕ (Int × Str)))) (imR (α := Str) (β := (Int × Str)) (im2 (hs.tup 0 rfl) imI imS))
      obtain ⟨g725, hm⟩ := gd hm
      obtain ⟨g726, hm⟩ := gd hm
      have f727 := hs.val 2 rfl
      have f728 := hs.val 0 rfl
      refine ⟨Dat.d r715, Dat.d ((.inr (x604, (repS (Txt.join ("" : Str) a651) (Int.toNat x691)))) : (Str ⊕ (Int × Str))), Dat.dp g725 f727, Dat.dp g726 f728, (shp_of (k := 9) (Dat.ok g725 (by decide)) (by decide)), (shp_of (k := 9) (Dat.ok g726 (by decide)) (by decide)), _, (eqv_decN (Dat.eq g725 g726)), ?_⟩
      refine iteD (fun c729 => ?_) (fun c729 => ?_)
      · replace hm := ift c729 hm
        replace hs : Sep (owns []) H H722 [aL pz568 r565, aW p30 vs55 j28] := ((hs.mv 4 rfl).mv 4 rfl).tk 2
        replace hs := hs.unfix 1 rfl
        replace hs : Sep (owns []) H H722 [] := hs.tk 0
        obtain rfl := Option.some.inj hm
        have hc_ : z544 = .rt _ := hf546
        subst hc_
        obtain rfl := Option.some.inj hmO548
        exact q H722 hs
      · replace hm := ife c729 hm
        replace hs : Sep (owns []) H H722 [aL pz568 r565, aW p30 vs55 j28] := ((hs.mv 4 rfl).mv 4 rfl).tk 2
        obtain ⟨x730, ex730, hm⟩ := bnd hm
        obtain ⟨vs731, hl732, hv733⟩ := hs.lst 0 rfl
        obtain ⟨u734, hu735, hx736⟩ := hv733.ix ex730
        have hx736 : u734 = (.int x730) := hx736
        subst hx736
        obtain ⟨c737, ec737, hm⟩ := bnd hm
        obtain ⟨g738, hm⟩ := gd hm
        obtain ⟨r739, er739, hm⟩ := bnd hm
        refine ⟨_, rfl, _, _, _, _, rfl, rfl, SqL.of hl732, hu735, _, _, rfl, rfl, (show (0 : Int) < (2 : Int) by decide), _, _, _, rfl, rfl, small_le (Nat.le_of_lt (Nat.lt_trans g738 (by decide))), ec737, _, rfl, (⟨#[c737]⟩ : Str), ((((((⟨#[c577]⟩ : Str) ++ (strI x604)) ++ (" " : Str)) ++ (strI r704)) ++ (" " : Str)) ++ (repS (Txt.join ("" : Str) a651) (Int.toNat x691))), r739, rfl, (hs.frontN 0).1, (hs.frontN 0).2, er739, fun H740 vz742 hc741 => ?_⟩
        replace hs := hs.callN 0 hc741
        replace hs := hs.addV (v := (.str "none")) (x := ((.inl ("none" : Str)) : (Str ⊕ (Int × Str)))) (imL (α := Str) (β := (Int × Str)) imS)
        obtain ⟨g745, hm⟩ := gd hm
        obtain ⟨g746, hm⟩ := gd hm
        have f747 := hs.val 1 rfl
        have f748 := hs.val 0 rfl
        refine ⟨Dat.d r739, Dat.d ((.inl ("none" : Str)) : (Str ⊕ (Int × Str))), Dat.dp g745 f747, Dat.dp g746 f748, (shp_of (k := 9) (Dat.ok g745 (by decide)) (by decide)), (shp_of (k := 9) (Dat.ok g746 (by decide)) (by decide)), _, (eqv_decN (Dat.eq g745 g746)), ?_⟩
        refine iteD (fun c749 => ?_) (fun c749 => ?_)
        · replace hm := ift c749 hm
          replace hs := hs.unfix 3 rfl
          replace hs : Sep (owns []) H H740 [] := hs.tk 0
          obtain rfl := Option.some.inj hm
          have hc_ : z544 = .rt _ := hf546
          subst hc_
          obtain rfl := Option.some.inj hmO548
          exact q H740 hs
        · replace hm := ife c749 hm
          obtain ⟨z894, eL895, hmO898⟩ := thenC_eq hm
          replace hs : Sep (owns []) H H740 [aL pz568 r565, aW p30 vs55 j28] := ((hs.mv 3 rfl).mv 3 rfl).tk 2
          refine ⟨_, rfl, by decide, by decide, for_rangeN (lo := (0 : Int)) (n := (Int.toNat (4 : Int))) (fun i903 σ905 H904 => ∃ (s892 : Unit) (o899 : Option V) (o900 : Option V) (o901 : Option V) (o902 : Option V), forC (m_law_l3 r565 c577 x604 a651 x691 r704) ((rangeL 0 (Int.toNat (4 : Int))).drop i903) s892 = some z894 ∧ Sep (owns []) H H904 [aL pz568 r565, aW p30 vs55 j28] ∧ σ905 = [some (.ref pscript_), some (.ref p30), some (.int k543), some (.ref pz568), some (.str ⟨#[c577]⟩), some (.int x604), o899, some (.str (repS (Txt.join ("" : Str) a651) (Int.toNat x691))), some (.str ((((((⟨#[c577]⟩ : Str) ++ (strI x604)) ++ (" " : Str)) ++ (strI r704)) ++ (" " : Str)) ++ (repS (Txt.join ("" : Str) a651) (Int.toNat x691)))), o900, o901, o902]) ⟨(), _, _, _, _, eL895, hs, rfl⟩ ?_ ?_⟩
          · rintro i903 σ905 H904 hi906 ⟨s892, o899, o900, o901, o902, hf896, hs, rfl⟩
            obtain ⟨cN897, hm, hf896⟩ := forC_s (range_get hi906) hf896
            generalize hk_ : (0 : Int) + ((i903 : Nat) : Int) = k893 at hm ⊢
            unfold m_law_l3 at hm
            obtain ⟨vs908, hl909, hv910⟩ := hs.lst 0 rfl
            refine ⟨_, rfl, _, rfl, _, rfl, _, _, rfl, rfl, .inl ⟨by decide, by decide⟩, _, _, rfl, rfl, _, rfl, _, rfl, _, _, rfl, rfl, .inl ⟨by decide, by decide⟩, _, _, rfl, rfl, _, rfl, _, _, rfl, SqL.of hl909, fun p911 n912 => ?_⟩
            try dsimp only
            generalize ee_ : upd H904 p911 _ = H913
            replace hs := (hs.newL (ys := ((cutX r565 (some ((41 : Int) + ((4 : Int) * k893))) (some ((45 : Int) + ((4 : Int) * k893)))) : (List Int))) n912 (hv910.cut (some ((41 : Int) + ((4 : Int) * k893))) (some ((45 : Int) + ((4 : Int) * k893))))).cast ee_
            clear ee_
            obtain ⟨r915, er915, hm⟩ := bnd hm
            replace hs := hs.mv 0 rfl
            refine ⟨((((((⟨#[c577]⟩ : Str) ++ (strI x604)) ++ (" " : Str)) ++ (strI r704)) ++ (" " : Str)) ++ (repS (Txt.join ("" : Str) a651) (Int.toNat x691))), p911, (cutX r565 (some ((41 : Int) + ((4 : Int) * k893))) (some ((45 : Int) + ((4 : Int) * k893)))), r915, rfl, (hs.frontN 1).1, (hs.frontN 1).2, er915, fun H916 hc917 => ?_⟩
            replace hs := hs.callN 1 hc917
            refine ⟨(by show 2 ≤ sizeLine; decide), fun p922 n923 => ?_⟩
            try dsimp only
            generalize ee_ : upd H916 p922 _ = H924
            replace hs := (hs.newL (ys := (([("q" : Str), ("a" : Str)] : (List Str)) : (List Str))) n923 ((.cons imS (.cons imS .nil)))).cast ee_
            clear ee_
            obtain ⟨vs926, lv927, hs⟩ := hs.fix 0 rfl
            have hw928 := (hs.wal 0 rfl).1
            obtain ⟨z946, eL947, hmO950⟩ := thenC_eq hm
            replace hs : Sep (owns []) H H924 [aW p922 vs926 (([("q" : Str), ("a" : Str)] : (List Str)) : (List Str)), aL pz568 r565, aW p30 vs55 j28] := (((hs.mv 3 rfl).mv 3 rfl).mv 2 rfl).tk 3
            refine ⟨_, rfl, ⟨_, SqL.of hw928⟩, for_listN (K := K) (a := p922) (xs := vs926) (fun i953 σ955 H954 => ∃ (s944 : Unit) (o951 : Option V) (o952 : Option V), forC (m_law_l4 r915) (([("q" : Str), ("a" : Str)] : (List Str)).drop i953) s944 = some z946 ∧ Sep (owns []) H H954 [aW p922 vs926 (([("q" : Str), ("a" : Str)] : (List Str)) : (List Str)), aL pz568 r565, aW p30 vs55 j28] ∧ σ955 = [some (.ref pscript_), some (.ref p30), some (.int k543), some (.ref pz568), some (.str ⟨#[c577]⟩), some (.int x604), some (.int k893), some (.str (repS (Txt.join ("" : Str) a651) (Int.toNat x691))), some (.str ((((((⟨#[c577]⟩ : Str) ++ (strI x604)) ++ (" " : Str)) ++ (strI r704)) ++ (" " : Str)) ++ (repS (Txt.join ("" : Str) a651) (Int.toNat x691)))), some (.str r915), o951, o952]) ⟨(), _, _, eL947, hs, rfl⟩ (fun i953 σ955 H954 _ pz => by obtain ⟨s944, o951, o952, hf948, hs, rfl⟩ := pz; exact SqL.of (hs.wal 0 rfl).1) ?_ ?_⟩
            · rintro i953 y958 σ955 H954 hi956 ⟨s944, o951, o952, hf948, hs, rfl⟩
              obtain ⟨k945, hx_, hy_⟩ := (hs.wal 0 rfl).2.nthv hi956
              obtain ⟨cN949, hm, hf948⟩ := forC_s hx_ hf948
              have hy_ : y958 = (.str k945) := hy_
              subst hy_
              unfold m_law_l4 at hm
              obtain ⟨r959, er959, hm⟩ := bnd hm
              refine ⟨_, rfl, _, rfl, k945, r915, r959, rfl, (hs.frontN 0).1, (hs.frontN 0).2, er959, fun H960 vz962 hc961 => ?_⟩
              replace hs := hs.callN 0 hc961
              obtain ⟨r964, er964, hm⟩ := bnd hm
              refine ⟨_, rfl, _, rfl, k945, r915, r964, rfl, (hs.frontN 0).1, (hs.frontN 0).2, er964, fun H965 vz967 hc966 => ?_⟩
              replace hs := hs.callN 0 hc966
              obtain ⟨g969, hm⟩ := gd hm
              obtain ⟨g970, hm⟩ := gd hm
              have f971 := hs.val 1 rfl
              have f972 := hs.val 0 rfl
              refine ⟨Dat.d r959, Dat.d r964, Dat.dp g969 f971, Dat.dp g970 f972, (shp_of (k := 9) (Dat.ok g969 (by decide)) (by decide)), (shp_of (k := 9) (Dat.ok g970 (by decide)) (by decide)), _, (eqv_decN (Dat.eq g969 g970)), ?_⟩
              refine iteD (fun c973 => ?_) (fun c973 => ?_)
              · replace hm := ift c973 hm
                replace hs := hs.unfix 2 rfl
                replace hs := hs.unfix 4 rfl
                replace hs : Sep (owns []) H H965 [] := hs.tk 0
                obtain rfl := Option.some.inj hm
                have hc_ : z946 = .rt _ := hf948
                subst hc_
                obtain rfl := Option.some.inj hmO950
                have hc_ : z894 = .rt _ := hf896
                subst hc_
                obtain rfl := Option.some.inj hmO898
                have hc_ : z544 = .rt _ := hf546
                subst hc_
                obtain rfl := Option.some.inj hmO548
                exact q H965 hs
              · replace hm := ife c973 hm
                replace hs : Sep (owns []) H H965 [aW p922 vs926 (([("q" : Str), ("a" : Str)] : (List Str)) : (List Str)), aL pz568 r565, aW p30 vs55 j28] := (((hs.mv 4 rfl).mv 4 rfl).mv 4 rfl).tk 3
                obtain rfl := Option.some.inj hm
                exact ⟨(), _, _, hf948, hs, rfl⟩
            rintro σ955 H954 ⟨s944, o951, o952, hf948, hs, rfl⟩
            have ez_ := forC_e (Nat.le_of_eq lv927.symm) hf948
            subst ez_
            have hm := hmO950
            replace hs := hs.unfix 0 rfl
            obtain ⟨b1004, eb1004, hm⟩ := bnd hm
            try dsimp only [tNext, gName, tRet, tAsg, tYes]
            try with_reducible refine iteF ?_
            try with_reducible refine iteT ?_
            refine andV_use hs (b := b1004) ?_ ?_
            · skip
              refine evB_and eb1004 (fun b1005 hb1006 => ?_) (fun b1007 hb1008 => ?_)
              · skip
                refine fun H1009 hs Q_ hQ1010 => ?_
                have hm := hb1006
                obtain ⟨x1011, ex1011, hm⟩ := bnd hm
                obtain ⟨vs1012, hl1013, hv1014⟩ := hs.lst 1 rfl
                obtain ⟨u1015, hu1016, hx1017⟩ := hv1014.ix ex1011
                have hx1017 : u1015 = (.int x1011) := hx1017
                subst hx1017
                obtain ⟨g1018, hm⟩ := gd hm
                refine ⟨_, rfl, _, rfl, _, _, rfl, rfl, .inl ⟨by decide, by decide⟩, _, _, rfl, rfl, _, _, _, _, rfl, rfl, SqL.of hl1013, hu1016, _, rfl, _, rfl, small_le (Nat.le_of_lt (Nat.lt_trans g1018 (by decide))), ?_⟩
                obtain ⟨g1019, hm⟩ := gd hm
                obtain ⟨g1020, hm⟩ := gd hm
                refine ⟨_, _, rfl, rfl, g1019, _, rfl, _, rfl, small_le (Nat.le_of_lt (Nat.lt_trans g1020 (by decide))), ?_⟩
                obtain ⟨g1021, hm⟩ := gd hm
                refine ⟨_, rfl, _, rfl, small_le (Nat.le_of_lt (Nat.lt_trans g1021 (by decide))), ?_⟩
                refine ⟨_, _, rfl, rfl, _, _, rfl, rfl, ?_⟩
                refine bl_use (P := True) ((rfl).trans (dbt hm)) ?_
                exact hQ1010 _ (hs.tl 0)
              · skip
                refine fun H1022 hs Q_ hQ1023 => ?_
                have hm := hb1008
                refine ⟨_, rfl, _, rfl, rfl, ?_⟩
                refine bl_use (P := True) ((dnS).trans (dbt hm)) ?_
                exact hQ1023 _ (hs.tl 0)
            intro H1024 hs
            obtain ⟨x1025, ex1025, hm⟩ := bnd hm
            obtain ⟨vs1026, hl1027, hv1028⟩ := hs.lst 1 rfl
            obtain ⟨u1029, hu1030, hx1031⟩ := hv1028.ix ex1025
            have hx1031 : u1029 = (.int x1025) := hx1031
            subst hx1031
            refine ⟨_, rfl, _, rfl, _, _, rfl, rfl, .inl ⟨by decide, by decide⟩, _, _, rfl, rfl, _, _, _, _, rfl, rfl, SqL.of hl1027, hu1030, _, _, rfl, rfl, (show (0 : Int) < (6 : Int) by decide), (by show 2 ≤ sizeLine; decide), fun p1032 n1033 => ?_⟩
            try dsimp only
            generalize ee_ : upd H1024 p1032 _ = H1034
            replace hs := (hs.newL (ys := (([(0 : Int), (3 : Int)] : (List Int)) : (List Int))) n1033 ((.cons imI (.cons imI .nil)))).cast ee_
            clear ee_
            have f1036 := hs.scs 0 rfl
            refine ⟨_, _, rfl, .inl (SqL.of f1036), rfl, flat_int _, _, in_int, ?_⟩
            refine iteD (fun c1037 => ?_) (fun c1037 => ?_)
            · replace hm := ift c1037 hm
              refine ⟨_, rfl, _, dB, ?_⟩
              refine iteD (fun c1038 => ?_) (fun c1038 => ?_)
              · replace hm := ift c1038 hm
                obtain ⟨r1039, er1039, hm⟩ := bnd hm
                refine ⟨_, rfl, _, rfl, (⟨#[c577]⟩ : Str), r915, r1039, rfl, (hs.frontN 0).1, (hs.frontN 0).2, er1039, fun H1040 vz1042 hc1041 => ?_⟩
                replace hs := hs.callN 0 hc1041
                replace hs := hs.addV (v := (.str "none")) (x := ((.inl ("none" : Str)) : (Str ⊕ (Int × Str)))) (imL (α := Str) (β := (Int × Str)) imS)
                obtain ⟨g1045, hm⟩ := gd hm
                obtain ⟨g1046, hm⟩ := gd hm
                have f1047 := hs.val 1 rfl
                have f1048 := hs.val 0 rfl
                refine ⟨Dat.d r1039, Dat.d ((.inl ("none" : Str)) : (Str ⊕ (Int × Str))), Dat.dp g1045 f1047, Dat.dp g1046 f1048, (shp_of (k := 9) (Dat.ok g1045 (by decide)) (by decide)), (shp_of (k := 9) (Dat.ok g1046 (by decide)) (by decide)), _, (eqv_decN (Dat.eq g1045 g1046)), ?_⟩
                refine iteD (fun c1049 => ?_) (fun c1049 => ?_)
                · replace hm := ift c1049 hm
                  replace hs : Sep (owns []) H H1040 [aL pz568 r565, aW p30 vs55 j28] := ((hs.mv 5 rfl).mv 5 rfl).tk 2
                  replace hs := hs.unfix 1 rfl
                  replace hs : Sep (owns []) H H1040 [] := hs.tk 0
                  obtain rfl := Option.some.inj hm
                  have hc_ : z894 = .rt _ := hf896
                  subst hc_
                  obtain rfl := Option.some.inj hmO898
                  have hc_ : z544 = .rt _ := hf546
                  subst hc_
                  obtain rfl := Option.some.inj hmO548
                  exact q H1040 hs
                · replace hm := ife c1049 hm
                  replace hs : Sep (owns []) H H1040 [aL pz568 r565, aW p30 vs55 j28] := ((hs.mv 5 rfl).mv 5 rfl).tk 2
                  obtain rfl := Option.some.inj hm
                  exact ⟨(), _, _, _, _, hf896, hs, rfl⟩
              · replace hm := ife c1038 hm
                replace hs : Sep (owns []) H H1034 [aL pz568 r565, aW p30 vs55 j28] := ((hs.mv 3 rfl).mv 3 rfl).tk 2
                obtain rfl := Option.some.inj hm
                exact ⟨(), _, _, _, _, hf896, hs, rfl⟩
            · replace hm := ife c1037 hm
              replace hs : Sep (owns []) H H1034 [aL pz568 r565, aW p30 vs55 j28] := ((hs.mv 3 rfl).mv 3 rfl).tk 2
              obtain rfl := Option.some.inj hm
              exact ⟨(), _, _, _, _, hf896, hs, rfl⟩
          rintro σ905 H904 ⟨s892, o899, o900, o901, o902, hf896, hs, rfl⟩
          have ez_ := forC_e (Nat.le_of_eq range_len) hf896
          subst ez_
          have hm := hmO898
          replace hs : Sep (owns []) H H904 [aW p30 vs55 j28] := (hs.mv 1 rfl).tk 1
          obtain rfl := Option.some.inj hm
          exact ⟨(), _, _, _, _, _, _, _, _, _, _, hf546, hs, rfl⟩
  rintro σ561 H560 ⟨s542, o549, o550, o551, o552, o553, o554, o555, o556, o557, o558, hf546, hs, rfl⟩
  have ez_ := forC_e (Nat.le_of_eq lv56.symm) hf546
  subst ez_
  have hm := hmO548
  replace hs := hs.unfix 0 rfl
  replace hs : Sep (owns []) H H560 [] := hs.tk 0
  obtain rfl := Option.some.inj hm
  exact q H560 hs
end

def Digs (ds : List Int) : Prop := ∀ d ∈ ds, 0 ≤ d ∧ d < 1009
theorem Digs.snoc {ds : List Int} (h : Digs ds) {d : Int} (h0 : 0 ≤ d ∧ d < 1009) : Digs (ds ++ [d]) := fun x hx => by
  rcases List.mem_append.mp hx with z | z
  · exact h x z
  · rw [List.mem_singleton.mp z]; exact h0

/-! ### loops of the mirrors, in plain words -/
theorem forS_inv {α σ : Type} {f : α → σ → Option σ} {xs : List α} {s : σ} (P : Nat → σ → Prop) (h0 : P 0 s) (hs : ∀ i x s, xs[i]? = some x → P i s → ∃ s', f x s = some s' ∧ P (i + 1) s') : ∃ s', forS f xs s = some s' ∧ P xs.length s' := by
  induction xs generalizing s P with
  | nil => exact ⟨s, rfl, h0⟩
  | cons x r ih =>
    obtain ⟨s1, e1, p1⟩ := hs 0 x s rfl h0
    obtain ⟨s2, e2, p2⟩ := ih (s := s1) (fun i => P (i + 1)) p1 fun i y s hy hp => hs (i + 1) y s (by simpa using hy) hp
    refine ⟨s2, ?_, p2⟩
    show (f x s).bind (forS f r) = _
    rw [e1]; exact e2
theorem forC_inv {α σ ρ : Type} {f : α → σ → Option (Ctl ρ σ)} {xs : List α} {s : σ} (P : Nat → σ → Prop) (h0 : P 0 s) (hs : ∀ i x s, xs[i]? = some x → P i s → ∃ s', f x s = some (.nx s') ∧ P (i + 1) s') : ∃ s', forC f xs s = some (.nx s') ∧ P xs.length s' := by
  induction xs generalizing s P with
  | nil => exact ⟨s, rfl, h0⟩
  | cons x r ih =>
    obtain ⟨s1, e1, p1⟩ := hs 0 x s rfl h0
    obtain ⟨s2, e2, p2⟩ := ih (s := s1) (fun i => P (i + 1)) p1 fun i y s hy hp => hs (i + 1) y s (by simpa using hy) hp
    refine ⟨s2, ?_, p2⟩
    show ((f x s).bind fun c => _) = _
    rw [e1]; exact e2
theorem bnd_of {α β : Type} {o : Option α} {f : α → Option β} {x : α} {r : Option β} (h : o = some x) (e : f x = r) : o.bind f = r := by rw [h]; exact e
theorem thenC_nx {ρ σ τ : Type} {o : Option (Ctl ρ σ)} {fr : ρ → Option τ} {k : σ → Option τ} {s : σ} {x : Option τ} (h : o = some (.nx s)) (e : k s = x) : thenC o fr k = x := by rw [h]; exact e
theorem snoc_ok {α : Type} {xs : List α} {x : α} (h : xs.length < 16000000) : snoc xs x = some (xs ++ [x]) := if_pos h
theorem catL_ok {α : Type} {xs ys : List α} (h : xs.length + ys.length < 16000000) : catL xs ys = some (xs ++ ys) := if_pos h
theorem repL_one {α : Type} {x : α} {n : Int} (h0 : 0 ≤ n) (h : n < 16000000) : repL [x] n = some (List.replicate n.toNat x) := by
  unfold repL
  rw [if_pos ⟨by omega, by omega, by show 1 * n.toNat < 16000000; omega⟩]
  congr 1
  generalize n.toNat = m
  induction m with
  | zero => rfl
  | succ m ih => rw [List.replicate_succ, List.flatten_cons, ih, List.replicate_succ]; rfl
theorem atI_ok {α : Type} {xs : List α} {i : Nat} {x : α} (h : xs[i]? = some x) : atI xs (i : Int) = some x := atI_nat h
theorem atI_z {α : Type} {xs : List α} {i : Int} {x : α} (h0 : 0 ≤ i) (h : xs[i.toNat]? = some x) : atI xs i = some x := by
  have := atI_nat (xs := xs) h
  rwa [show ((i.toNat : Nat) : Int) = i by omega] at this
theorem dg_at {ds : List Int} {n : Nat} (hl : ds.length = n) (hd : Digs ds) (i : Int) (h0 : 0 ≤ i) (hi : i < n) : ∃ d, atI ds i = some d ∧ 0 ≤ d ∧ d < 1009 := by
  have hlt : i.toNat < ds.length := by omega
  exact ⟨ds[i.toNat], atI_z h0 (List.getElem?_eq_getElem hlt), hd _ (List.getElem_mem _)⟩
theorem range_mem {lo : Int} {n i : Nat} {x : Int} (h : (rangeL lo n)[i]? = some x) : x = lo + (i : Int) ∧ i < n := by
  have hl := (List.getElem?_eq_some_iff.mp h).1
  rw [range_len] at hl
  rw [range_get hl] at h
  exact ⟨(Option.some.inj h).symm, hl⟩

theorem digits_ok (c : Int) {n : Nat} (hn : n ≤ 1000) : ∃ ds, m__law_digits c n = some ds ∧ ds.length = n ∧ Digs ds := by
  unfold m__law_digits
  have key : ∀ j : Int, ∃ s, forS m__law_digits_l1 (rangeL 0 (Int.toNat n)) (j, c % 2147483647, []) = some s ∧ (s.2.2.length = n ∧ Digs s.2.2 ∧ 0 ≤ s.2.1 ∧ s.2.1 < 2147483647) := fun j => by
    have := forS_inv (f := m__law_digits_l1) (xs := rangeL 0 (Int.toNat n)) (s := (j, c % 2147483647, [])) (fun i s => s.2.2.length = i ∧ Digs s.2.2 ∧ 0 ≤ s.2.1 ∧ s.2.1 < 2147483647) ⟨rfl, (fun _ z => by cases z), Int.emod_nonneg _ (by decide), Int.emod_lt_of_pos _ (by decide)⟩ ?_
    · rw [range_len] at this
      simpa using this
    · rintro i k ⟨rest, m, ds⟩ hk ⟨hl, hd, h0, h1⟩
      obtain ⟨rfl, hi⟩ := range_mem hk
      have hi2 : i < n := by simpa using hi
      have hl : ds.length = i := hl
      have h0 : 0 ≤ m := h0
      have h1 : m < 2147483647 := h1
      obtain ⟨u, eu⟩ : ∃ u, u = (m * 48271 + 30103 * (0 + (i : Int)) + 11) % 2147483647 := ⟨_, rfl⟩
      have g1 : 0 ≤ u := by rw [eu]; exact Int.emod_nonneg _ (by decide)
      have g2 : u < 2147483647 := by rw [eu]; exact Int.emod_lt_of_pos _ (by decide)
      obtain ⟨v, ev⟩ : ∃ v, v = u * (u / 1009 + 69621) % 2147483629 := ⟨_, rfl⟩
      have g3 : 0 ≤ v := by rw [ev]; exact Int.emod_nonneg _ (by decide)
      have g4 : v < 2147483629 := by rw [ev]; exact Int.emod_lt_of_pos _ (by decide)
      have step : m__law_digits_l1 (0 + (i : Int)) (rest, m, ds) = (if 0 < rest then (snoc ds (rest % 1009)).bind fun y => some (rest / 1009, v, y) else (snoc ds (v / 7 % 1009)).bind fun y => some (rest, v, y)) := by
        unfold m__law_digits_l1
        refine bnd_of rfl ?_
        dsimp only
        rw [← eu, if_pos (show CMul u (u / 1009 + 69621) from .inl ⟨by omega, by omega⟩)]
        refine bnd_of rfl ?_
        try dsimp only
        rw [← ev]
      rw [step]
      by_cases hr : 0 < rest
      · refine ⟨(rest / 1009, v, ds ++ [rest % 1009]), ?_, by show (ds ++ [_]).length = _; rw [List.length_append, hl]; rfl, Digs.snoc hd (by omega), by show 0 ≤ v; omega, by show v < _; omega⟩
        rw [if_pos hr]
        exact bnd_of (snoc_ok (by omega)) rfl
      · refine ⟨(rest, v, ds ++ [v / 7 % 1009]), ?_, by show (ds ++ [_]).length = _; rw [List.length_append, hl]; rfl, Digs.snoc hd (by omega), by show 0 ≤ v; omega, by show v < _; omega⟩
        rw [if_neg hr]
        exact bnd_of (snoc_ok (by omega)) rfl
  by_cases hc : (10 : Int) ^ Int.toNat 18 ≤ c
  · obtain ⟨s, e, h1, h2, _, _⟩ := key c
    refine ⟨s.2.2, ?_, h1, h2⟩
    rw [if_pos hc]
    refine bnd_of rfl (bnd_of rfl ?_)
    rw [if_pos ⟨by omega, by omega⟩]
    exact bnd_of e rfl
  · obtain ⟨s, e, h1, h2, _, _⟩ := key 0
    refine ⟨s.2.2, ?_, h1, h2⟩
    rw [if_neg hc]
    refine bnd_of rfl (bnd_of rfl ?_)
    rw [if_pos ⟨by omega, by omega⟩]
    exact bnd_of e rfl

/-! ### k01: numbers written and read -/
theorem num_head : ∀ (n : Nat), 0 < n → ∃ c r, TL.numL n = c :: r ∧ c ≠ 48 := fun n => by
  induction n using Nat.strongRecOn with
  | _ n ih =>
    intro h0
    by_cases h : n < 10
    · rw [TL.numL_lt h]
      exact ⟨48 + n, [], rfl, by omega⟩
    · obtain ⟨c, r, e, hc⟩ := ih (n / 10) (by omega) (by omega)
      rw [TL.numL_step (by omega), e]
      exact ⟨c, r ++ [48 + n % 10], rfl, hc⟩
theorem strI_S (n : Nat) : strI (n : Int) = SX.S (TL.numL n) := SX.num_S n
theorem sgn_S (l : List Nat) : sgn (SX.S l) = l.map fun c => (⟨#[c]⟩ : Str) := by unfold sgn; rfl
theorem S_ne {a b : List Nat} (h : a ≠ b) : ¬ SX.S a = SX.S b := fun z => h (SX.S_inj z)
theorem forS_signs {f : Str → List Bool → Option (List Bool)} {good : List Nat} (hf : ∀ (c : Nat) (acc : List Bool), c ∈ good → acc.length < 1000 → f ⟨#[c]⟩ acc = some (acc ++ [true])) :
    ∀ (l : List Nat) (acc : List Bool), l.length + acc.length < 1000 → (∀ c ∈ l, c ∈ good) → forS f (l.map fun c => (⟨#[c]⟩ : Str)) acc = some (acc ++ List.replicate l.length true)
  | [], acc, _, _ => by rw [List.map_nil]; show some acc = _; simp
  | c :: r, acc, hl, h => by
    rw [List.map_cons]
    have hl : r.length + 1 + acc.length < 1000 := hl
    refine bnd_of (hf c acc (h c List.mem_cons_self) (by omega)) ?_
    rw [forS_signs hf r (acc ++ [true]) (by rw [List.length_append]; show r.length + (acc.length + 1) < 1000; omega) fun d hd => h d (List.mem_cons_of_mem _ hd)]
    rw [List.append_assoc, List.length_cons, List.replicate_succ]; rfl
theorem dig_mem {c : Nat} (h : 48 ≤ c ∧ c ≤ 57) : c ∈ (Str.cps ("0123456789" : Str)).toList := by
  have : ∀ d : Nat, d ≤ 9 → 48 + d ∈ (Str.cps ("0123456789" : Str)).toList := by
    intro d hd
    have : d = 0 ∨ d = 1 ∨ d = 2 ∨ d = 3 ∨ d = 4 ∨ d = 5 ∨ d = 6 ∨ d = 7 ∨ d = 8 ∨ d = 9 := by omega
    rcases this with rfl | rfl | rfl | rfl | rfl | rfl | rfl | rfl | rfl | rfl <;> decide +kernel
  have := this (c - 48) (by omega)
  rwa [show 48 + (c - 48) = c by omega] at this
theorem number_ok {n : Nat} (h : n < 100000) : m_number_in (strI (n : Int)) = some (some (n : Int)) := by
  rw [strI_S]
  have ne := TL.numL_ne n
  have ll : (TL.numL n).length ≤ 5 := TL.numL_len (k := 5) (by decide) h
  have len : (SX.S (TL.numL n)).length = (TL.numL n).length := SX.S_len _
  have al : forS m_number_in_l1 (sgn (SX.S (TL.numL n))) [] = some (List.replicate (TL.numL n).length true) := by
    rw [sgn_S]
    have z := forS_signs (f := m_number_in_l1) (good := (Str.cps ("0123456789" : Str)).toList) (fun c acc hc ha => by
      unfold m_number_in_l1
      refine bnd_of (x := c) rfl ?_
      rw [decide_eq_true hc]
      exact snoc_ok (by omega)) (TL.numL n) [] (by show _ + 0 < 1000; omega) fun c hc => dig_mem (TL.numL_digits n c hc)
    simpa using z
  have it : PySem.intText? (SX.S (TL.numL n)) = some (n : Int) := by
    rw [← strI_S]
    exact TL.int_num (by omega)
  have big : (SX.S (TL.numL n)).length < 16000000 := by rw [len]; omega
  obtain ⟨c, r, e⟩ : ∃ c r, TL.numL n = c :: r := List.exists_cons_of_ne_nil ne
  have ea : atI (Str.cps (SX.S (TL.numL n))).toList (0 : Int) = some c := by
    show atI (TL.numL n) 0 = some c
    rw [e]
    exact atI_z (by decide) rfl
  have fin : ((PySem.intText? (SX.S (TL.numL n))).bind fun y => if (SX.S (TL.numL n)).length ≤ 640 then some (some y) else none) = some (some (n : Int)) := bnd_of it (if_pos (by rw [len]; omega))
  have hall : (List.replicate (TL.numL n).length true).all id = true := List.all_eq_true.mpr fun b hb => List.eq_of_mem_replicate hb
  unfold m_number_in
  rw [if_neg (show ¬ SX.S (TL.numL n) = ("" : Str) from S_ne (b := []) ne), if_pos big, if_neg (show ¬ (5 : Int) < ((SX.S (TL.numL n)).length : Int) by rw [len]; omega), al]
  refine bnd_of (x := List.replicate (TL.numL n).length true) rfl ((if_pos hall).trans (bnd_of ea ((if_pos big).trans ?_)))
  by_cases h0 : n = 0
  · subst h0
    have e0 : TL.numL 0 = [48] := TL.numL_lt (by decide)
    have z : SX.S (TL.numL 0) = ("0" : Str) := by rw [e0]; rfl
    have ec : c = 48 := by rw [e0] at e; exact (List.cons.inj e).1.symm
    refine (if_pos (by rw [ec]; rfl)).trans ((if_neg (fun q => q z)).trans fin)
  · obtain ⟨c', r', e', hc⟩ := num_head n (by omega)
    have : c = c' := by rw [e] at e'; exact (List.cons.inj e').1
    have nz : ¬ (⟨#[c]⟩ : Str) = ("0" : Str) := fun z => hc (by rw [← this]; exact (List.cons.inj (SX.S_inj (a := [c]) (b := [48]) z)).1)
    exact (if_neg nz).trans fin

/-! ### k22: a text cut at one sign, at most so many times -/
theorem occ_take2 (s sub : Str) (hi L k : Nat) : ∀ (l : List Nat) (a b : Array Nat × Nat), b.1.toList = a.1.toList.take k → (a.1.size < k → b.2 = a.2) → a.1.size + l.length ≤ L →
    (forIn l b (PySem.StrLaws.occBody s sub hi k)).run.fst.toList = ((forIn l a (PySem.StrLaws.occBody s sub hi L)).run.fst.toList).take k
  | [], a, b, h, _, _ => h
  | i :: l, a, b, h, hf, hl => by
    have hl : a.1.size + (l.length + 1) ≤ L := hl
    rw [List.forIn_cons, List.forIn_cons]
    unfold PySem.StrLaws.occBody
    by_cases c : a.1.size < k
    · have e : b.1 = a.1 := Array.toList_inj.mp (by rw [h, List.take_of_length_le (by rw [Array.length_toList]; omega)])
      have e2 := hf c
      obtain ⟨b1, b2⟩ := b
      obtain ⟨a1, a2⟩ := a
      have e : b1 = a1 := e
      have e2 : b2 = a2 := e2
      have c : a1.size < k := c
      have hl : a1.size + (l.length + 1) ≤ L := hl
      subst e e2
      by_cases d : (b2 ≤ i ∧ i + sub.length ≤ hi) ∧ PySem.Builtin.Str.subAt s sub i = true
      · rw [if_pos ⟨⟨⟨c, d.1.1⟩, d.1.2⟩, d.2⟩, if_pos ⟨⟨⟨show b1.size < L by omega, d.1.1⟩, d.1.2⟩, d.2⟩]
        refine occ_take2 s sub hi L k l (b1.push i, i + sub.length) (b1.push i, i + sub.length) ?_ (fun _ => rfl) (by show (b1.push i).size + l.length ≤ L; rw [Array.size_push]; omega)
        rw [List.take_of_length_le (by show (b1.push i).toList.length ≤ k; rw [Array.length_toList, Array.size_push]; omega)]
      · rw [if_neg (fun z => d ⟨⟨z.1.1.2, z.1.2⟩, z.2⟩), if_neg (fun z => d ⟨⟨z.1.1.2, z.1.2⟩, z.2⟩)]
        exact occ_take2 s sub hi L k l (b1, b2) (b1, b2) h (fun _ => rfl) (by show b1.size + l.length ≤ L; omega)
    · have hb : b.1.size = k := by
        have := congrArg List.length h
        rw [Array.length_toList, List.length_take, Array.length_toList] at this
        omega
      rw [if_neg (fun z => by have := z.1.1.1; omega)]
      by_cases d : ((a.1.size < L ∧ a.2 ≤ i) ∧ i + sub.length ≤ hi) ∧ PySem.Builtin.Str.subAt s sub i = true
      · rw [if_pos d]
        refine occ_take2 s sub hi L k l (a.1.push i, i + sub.length) b ?_ (fun z => ?_) (by show (a.1.push i).size + l.length ≤ L; rw [Array.size_push]; omega)
        · show _ = (a.1.push i).toList.take k
          rw [Array.toList_push, List.take_append_of_le_length (by rw [Array.length_toList]; omega)]
          exact h
        · have z : (a.1.push i).size < k := z
          rw [Array.size_push] at z
          omega
      · rw [if_neg d]
        exact occ_take2 s sub hi L k l (a.1, a.2) b h (fun z => absurd z c) (by show a.1.size + l.length ≤ L; omega)
theorem occ_k (x y : Str) (k : Nat) : PySem.Builtin.Str.occurrences x y 0 x.length k = (PySem.Builtin.Str.occurrences x y 0 x.length (x.length + 1)).take k := by
  rw [PySem.StrLaws.occ_eq, PySem.StrLaws.occ_eq]
  exact occ_take2 x y x.length (x.length + 1) k _ (#[], 0) (#[], 0) (by simp) (fun _ => rfl) (by rw [List.length_range']; show 0 + _ ≤ _; omega)
/-- cut at a sign, at most so many times -/
def cutN (s : Nat) : Nat → List Nat → List (List Nat)
  | 0, l => [l]
  | k + 1, l => match TL.par [s] [] l with
    | none => [l]
    | some (a, b) => a :: cutN s k b
theorem parts_cut {x y : Str} {s : Nat} (ey : TL.tl y = [s]) : ∀ (cuts : List Nat) (k a f : Nat), a ≤ (TL.tl x).length → PySem.StrLaws.ChainG x y x.length a cuts f → (∀ k, f ≤ k → ¬ PySem.StrLaws.At x y x.length k) →
    (PySem.StrLaws.partsFrom x y.length a (cuts.take k)).map TL.tl = cutN s k ((TL.tl x).drop a)
  | cuts, 0, a, f, ha, h, hn => by
    rw [List.take_zero]
    show [TL.tl (PySem.Builtin.Str.strSub x a x.length)] = [_]
    rw [TL.tl_strSub_end]
  | [], k + 1, a, f, ha, h, hn => by
    have hy : TL.tl y ≠ [] := by rw [ey]; simp
    have e : f = a := h
    subst e
    show [TL.tl (PySem.Builtin.Str.strSub x f x.length)] = _
    have run := TL.par_run (TL.tl y) (TL.tl x) ((TL.tl x).length - f) f [] (by omega) (fun k h1 _ => TL.no_at hy (hn k h1))
    have e2 : f + ((TL.tl x).length - f) = (TL.tl x).length := by omega
    rw [e2, List.drop_length, ey] at run
    have run : TL.par [s] [] ((TL.tl x).drop f) = none := run
    unfold cutN
    rw [run, TL.tl_strSub_end]
  | c :: r, k + 1, a, f, ha, h, hn => by
    have hy : TL.tl y ≠ [] := by rw [ey]; simp
    obtain ⟨h1, h2, h3, h4⟩ := h
    have hc : c + y.length ≤ x.length := h2.1
    have hx := TL.len_tl x
    have hl := TL.len_tl y
    have ih := parts_cut ey r k (c + y.length) f (by omega) h4 hn
    show TL.tl (PySem.Builtin.Str.strSub x a c) :: (PySem.StrLaws.partsFrom x y.length (c + y.length) (r.take k)).map TL.tl = _
    have run := TL.par_run (TL.tl y) (TL.tl x) (c - a) a [] (by omega) (fun k k1 k2 => TL.no_at hy (h3 k k1 (by omega)))
    have e2 : a + (c - a) = c := by omega
    rw [e2, List.nil_append, TL.par_at hy ((TL.at_iff hy c).mp h2), ey] at run
    unfold cutN
    rw [run, ih, TL.tl_strSub, hl, ey]
theorem splitMax_cut {x y : Str} {s : Nat} (ey : TL.tl y = [s]) (hk : y.cps.all (· < 256) = true) (k : Nat) : (Txt.splitMax x y (k : Int)).map TL.tl = cutN s k (TL.tl x) := by
  have hy : TL.tl y ≠ [] := by rw [ey]; simp
  obtain ⟨f, g, hn⟩ := PySem.StrLaws.occ_tight x y (TL.len1 hy)
  have key := parts_cut ey _ k 0 f (Nat.zero_le _) g hn
  rw [List.drop_zero, ← occ_k] at key
  have none_case : PySem.Builtin.Str.occurrences x y 0 x.length k = [] → [x].map TL.tl = cutN s k (TL.tl x) := fun ho => by
    rw [ho] at key
    rw [← key]
    show [TL.tl x] = [TL.tl (PySem.Builtin.Str.strSub x 0 x.length)]
    rw [PySem.StrLaws.sub_whole]
  have el : limitOf x (k : Int) = k := by
    unfold limitOf
    rw [if_neg (by omega), Int.toNat_natCast]
  unfold Txt.splitMax
  rw [el]
  by_cases h1 : (decide (x.length < y.length) || decide (PySem.Builtin.Str.strKind x < PySem.Builtin.Str.strKind y)) = true
  · rw [if_pos h1]
    have hlt : x.length < y.length := by
      simp only [Bool.or_eq_true, decide_eq_true_eq] at h1
      rcases h1 with h | h
      · exact h
      · exact absurd h (TL.kind_ok hk)
    refine none_case ?_
    rw [occ_k]
    cases ho : PySem.Builtin.Str.occurrences x y 0 x.length (x.length + 1) with
    | nil => rw [List.take_nil]
    | cons c r =>
      rw [ho] at g
      have hc : c + y.length ≤ x.length := g.2.1.1
      omega
  · rw [if_neg h1]
    by_cases h2 : (PySem.Builtin.Str.occurrences x y 0 x.length k).isEmpty = true
    · rw [if_pos h2]
      exact none_case (List.isEmpty_iff.mp h2)
    · rw [if_neg h2, PySem.StrLaws.partsBetween_eq]
      exact key
theorem sp_tl : TL.tl (" " : Str) = [32] := by kernel_rfl
theorem sp_k : (" " : Str).cps.all (· < 256) = true := by kernel_rfl
theorem to_S {l : List Str} {m : List (List Nat)} (h : l.map TL.tl = m) : l = m.map SX.S := TL.map_tl_inj (by rw [h, List.map_map]; exact (List.map_id m).symm)
theorem first_sp (s : Nat) : ∀ l : List Nat, s ∉ l ∨ ∃ a b, l = a ++ (s :: b) ∧ s ∉ a
  | [] => .inl (by simp)
  | c :: r => by
    by_cases e : c = s
    · exact .inr ⟨[], r, by rw [e]; rfl, by simp⟩
    · rcases first_sp s r with h | ⟨a, b, h, ha⟩
      · exact .inl (fun z => (List.mem_cons.mp z).elim (fun q => e q.symm) h)
      · exact .inr ⟨c :: a, b, by rw [h]; rfl, fun z => (List.mem_cons.mp z).elim (fun q => e q.symm) ha⟩
/-- a letter's three parts -/
inductive Cut3 (l : List Nat) : Prop where
  | few : (∃ m, Txt.splitMax (SX.S l) (" " : Str) 2 = m ∧ m.length < 3) → (∃ m, Txt.split (SX.S l) (" " : Str) = m ∧ m.length < 3) → (∀ a c d : List Nat, 32 ∉ a → 32 ∉ c → l ≠ a ++ (32 :: (c ++ (32 :: d)))) → Cut3 l
  | all (a c d : List Nat) : l = a ++ (32 :: (c ++ (32 :: d))) → 32 ∉ a → 32 ∉ c → Cut3 l
theorem cut_three {a c d : List Nat} (ha : 32 ∉ a) (hc : 32 ∉ c) : Txt.splitMax (SX.S (a ++ (32 :: (c ++ (32 :: d))))) (" " : Str) 2 = [SX.S a, SX.S c, SX.S d] ∧
    Txt.split (SX.S (a ++ (32 :: (c ++ (32 :: d))))) (" " : Str) = SX.S a :: SX.S c :: Txt.split (SX.S d) (" " : Str) := by
  have p1 : TL.par [32] [] (a ++ (32 :: (c ++ (32 :: d)))) = some (a, c ++ (32 :: d)) := TL.par_part1 (S := []) (rest := c ++ (32 :: d)) ha
  have p2 : TL.par [32] [] (c ++ (32 :: d)) = some (c, d) := TL.par_part1 (S := []) (rest := d) hc
  refine ⟨?_, TL.map_tl_inj ?_⟩
  · refine (to_S (splitMax_cut (x := SX.S (a ++ (32 :: (c ++ (32 :: d))))) sp_tl sp_k 2)).trans ?_
    show (cutN 32 2 (a ++ (32 :: (c ++ (32 :: d))))).map SX.S = _
    unfold cutN
    rw [p1]
    show (a :: cutN 32 1 (c ++ (32 :: d))).map SX.S = _
    unfold cutN
    rw [p2]
    rfl
  · rw [TL.split_spl _ _ (by rw [sp_tl]; simp) (TL.kind_ok sp_k), List.map_cons, List.map_cons, TL.split_spl _ _ (by rw [sp_tl]; simp) (TL.kind_ok sp_k), sp_tl]
    show TL.spl [32] 0 [] (a ++ (32 :: (c ++ (32 :: d)))) = a :: c :: TL.spl [32] 0 [] d
    rw [show TL.spl [32] 0 [] (a ++ (32 :: (c ++ (32 :: d)))) = ([] ++ a) :: TL.spl [32] 0 [] (c ++ (32 :: d)) from TL.spl_part1 (S := []) ha]
    rw [show TL.spl [32] 0 [] (c ++ (32 :: d)) = ([] ++ c) :: TL.spl [32] 0 [] d from TL.spl_part1 (S := []) hc]
    rfl
theorem cut3 (l : List Nat) : Cut3 l := by
  rcases first_sp 32 l with h | ⟨a, b, rfl, ha⟩
  · refine .few ⟨_, rfl, ?_⟩ ⟨_, rfl, ?_⟩ (fun a c d _ _ e => h (by rw [e]; simp))
    · rw [show Txt.splitMax (SX.S l) (" " : Str) 2 = _ from to_S (splitMax_cut (x := SX.S l) sp_tl sp_k 2)]
      show ((cutN 32 2 l).map SX.S).length < 3
      unfold cutN
      rw [show TL.par [32] [] l = none from TL.par_none1 (S := []) h]
      exact (by decide : 1 < 3)
    · rw [← List.length_map (f := TL.tl), TL.split_spl _ _ (by rw [sp_tl]; simp) (TL.kind_ok sp_k), sp_tl, show TL.spl [32] 0 [] (TL.tl (SX.S l)) = [[] ++ l] from TL.spl_last1 (S := []) h]
      exact (by decide : 1 < 3)
  · have p1 : TL.par [32] [] (a ++ (32 :: b)) = some (a, b) := TL.par_part1 (S := []) (rest := b) ha
    rcases first_sp 32 b with h | ⟨c, d, rfl, hc⟩
    · refine .few ⟨_, rfl, ?_⟩ ⟨_, rfl, ?_⟩ (fun a' c' d' h1 h2 e => ?_)
      · rw [show Txt.splitMax (SX.S (a ++ (32 :: b))) (" " : Str) 2 = _ from to_S (splitMax_cut (x := SX.S (a ++ (32 :: b))) sp_tl sp_k 2)]
        show ((cutN 32 2 (a ++ (32 :: b))).map SX.S).length < 3
        unfold cutN
        rw [p1]
        show ((a :: cutN 32 1 b).map SX.S).length < 3
        unfold cutN
        rw [show TL.par [32] [] b = none from TL.par_none1 (S := []) h]
        exact (by decide : 2 < 3)
      · rw [← List.length_map (f := TL.tl), TL.split_spl _ _ (by rw [sp_tl]; simp) (TL.kind_ok sp_k), sp_tl]
        show (TL.spl [32] 0 [] (a ++ (32 :: b))).length < 3
        rw [show TL.spl [32] 0 [] (a ++ (32 :: b)) = ([] ++ a) :: TL.spl [32] 0 [] b from TL.spl_part1 (S := []) ha, show TL.spl [32] 0 [] b = [[] ++ b] from TL.spl_last1 (S := []) h]
        exact (by decide : 2 < 3)
      · have p2 : TL.par [32] [] (a' ++ (32 :: (c' ++ (32 :: d')))) = some (a', c' ++ (32 :: d')) := TL.par_part1 (S := []) (rest := c' ++ (32 :: d')) h1
        rw [← e, p1] at p2
        have := (Prod.mk.inj (Option.some.inj p2)).2
        exact h (by rw [this]; simp)
    · exact .all a c d rfl ha hc

/-! ### k22: numbers by their figures; the check of a letter -/
def isD (c : Nat) : Bool := decide (48 ≤ c) && decide (c ≤ 57)
def numT (l : List Nat) : Option Nat :=
  if l = [] ∨ 5 < l.length ∨ l.all isD = false ∨ (l.head? = some 48 ∧ l ≠ [48]) then none else some (NumText.digitsVal l)
theorem isD_mem (c : Nat) : decide (c ∈ (Str.cps ("0123456789" : Str)).toList) = isD c := by
  have h : c ∈ (Str.cps ("0123456789" : Str)).toList ↔ 48 ≤ c ∧ c ≤ 57 := by
    refine ⟨fun h => ?_, dig_mem⟩
    have : ∀ d ∈ (Str.cps ("0123456789" : Str)).toList, 48 ≤ d ∧ d ≤ 57 := by decide +kernel
    exact this c h
  unfold isD
  rw [decide_eq_decide.mpr h, Bool.decide_and]
theorem bools22 : ∀ (l : List Nat) (acc : List Bool), l.length + acc.length < 16000000 → forS m_number_in_l1 (l.map fun c => (⟨#[c]⟩ : Str)) acc = some (acc ++ l.map isD)
  | [], acc, _ => by rw [List.map_nil]; show some acc = _; simp
  | c :: r, acc, h => by
    have h : r.length + 1 + acc.length < 16000000 := h
    rw [List.map_cons]
    have e : m_number_in_l1 (⟨#[c]⟩ : Str) acc = some (acc ++ [isD c]) := by
      unfold m_number_in_l1
      refine bnd_of (x := c) rfl ?_
      rw [isD_mem]
      exact snoc_ok (by omega)
    refine bnd_of e ?_
    rw [bools22 r (acc ++ [isD c]) (by rw [List.length_append]; show r.length + (acc.length + 1) < _; omega), List.append_assoc]; rfl
theorem goods22 : ∀ (l : List Nat) (acc : List Str), l.length + acc.length < 16000000 → forS m__law_number_l1 (l.map fun c => (⟨#[c]⟩ : Str)) acc = some (acc ++ (l.filter isD).map fun c => (⟨#[c]⟩ : Str))
  | [], acc, _ => by rw [List.map_nil]; show some acc = _; simp
  | c :: r, acc, h => by
    have h : r.length + 1 + acc.length < 16000000 := h
    rw [List.map_cons]
    by_cases d : isD c = true
    · have e : m__law_number_l1 (⟨#[c]⟩ : Str) acc = some (acc ++ [(⟨#[c]⟩ : Str)]) := by
        unfold m__law_number_l1
        refine bnd_of (x := true) (bnd_of (x := c) rfl ?_) ((if_pos rfl).trans (snoc_ok (by omega)))
        rw [isD_mem, d]
      refine bnd_of e ?_
      rw [goods22 r _ (by rw [List.length_append]; show r.length + (acc.length + 1) < _; omega), List.append_assoc, List.filter_cons_of_pos d]; rfl
    · have e : m__law_number_l1 (⟨#[c]⟩ : Str) acc = some acc := by
        unfold m__law_number_l1
        refine bnd_of (x := false) (bnd_of (x := c) rfl ?_) (if_neg (by decide))
        rw [isD_mem, Bool.eq_false_iff.mpr d]
      refine bnd_of e ?_
      rw [goods22 r _ (by omega), List.filter_cons_of_neg d]
theorem sizeS {l : List Nat} (h : l.length < 1000000) : (SX.S l).length < 16000000 := by rw [SX.S_len]; omega
theorem nilS (l : List Nat) : SX.S l = ("" : Str) ↔ l = [] := ⟨fun h => SX.S_inj (b := []) h, fun h => by rw [h]; rfl⟩
theorem zeroS (l : List Nat) : SX.S l = ("0" : Str) ↔ l = [48] := ⟨fun h => SX.S_inj (b := [48]) h, fun h => by rw [h]; rfl⟩
theorem intS {l : List Nat} (h0 : l ≠ []) (h5 : l.length ≤ 5) (ha : l.all isD = true) : PySem.intText? (SX.S l) = some ((NumText.digitsVal l : Nat) : Int) := SX.int_S ha h0 (by omega)
theorem numT_no {l : List Nat} (h : l = [] ∨ 5 < l.length ∨ l.all isD = false ∨ (l.head? = some 48 ∧ l ≠ [48])) : (numT l).map (fun n : Nat => (n : Int)) = none := by
  unfold numT; rw [if_pos h]; rfl
theorem numT_yes {l : List Nat} (h : ¬ (l = [] ∨ 5 < l.length ∨ l.all isD = false ∨ (l.head? = some 48 ∧ l ≠ [48]))) : (numT l).map (fun n : Nat => (n : Int)) = some ((NumText.digitsVal l : Nat) : Int) := by
  unfold numT; rw [if_neg h]; rfl
theorem number_in22 {l : List Nat} (hl : l.length < 1000000) : m_number_in (SX.S l) = some ((numT l).map fun n : Nat => (n : Int)) := by
  have sz := sizeS hl
  unfold m_number_in
  by_cases h0 : l = []
  · rw [if_pos ((nilS l).mpr h0), numT_no (.inl h0)]
  rw [if_neg (fun z => h0 ((nilS l).mp z)), if_pos sz]
  by_cases h5 : 5 < l.length
  · rw [if_pos (by rw [SX.S_len]; omega), numT_no (.inr (.inl h5))]
  rw [if_neg (by rw [SX.S_len]; omega), sgn_S]
  refine bnd_of (bools22 l [] (by show _ + 0 < _; omega)) ?_
  rw [List.nil_append]
  have ea : (l.map isD).all id = l.all isD := by rw [List.all_map]; rfl
  rw [ea]
  by_cases ha : l.all isD = true
  · rw [if_pos ha]
    obtain ⟨c, r, e⟩ := List.exists_cons_of_ne_nil h0
    have ec : atI (Str.cps (SX.S l)).toList (0 : Int) = some c := by
      show atI l 0 = some c
      rw [e]; exact atI_z (by decide) rfl
    refine bnd_of ec ((if_pos sz).trans ?_)
    have fin : ((PySem.intText? (SX.S l)).bind fun y => if (SX.S l).length ≤ 640 then some (some y) else none) = some (some ((NumText.digitsVal l : Nat) : Int)) := bnd_of (intS h0 (by omega) ha) (if_pos (by rw [SX.S_len]; omega))
    by_cases hc : c = 48
    · rw [if_pos (by rw [hc]; rfl)]
      by_cases hz : l = [48]
      · rw [if_neg (fun z => z ((zeroS l).mpr hz)), fin, numT_yes]
        rintro (z | z | z | z)
        · exact h0 z
        · exact h5 z
        · rw [ha] at z; cases z
        · exact z.2 hz
      · rw [if_pos (fun z => hz ((zeroS l).mp z)), numT_no (.inr (.inr (.inr ⟨by rw [e, hc]; rfl, hz⟩)))]
    · rw [if_neg (show ¬ (⟨#[c]⟩ : Str) = ("0" : Str) from fun z => hc (List.cons.inj (SX.S_inj (a := [c]) (b := [48]) z)).1), fin, numT_yes]
      rintro (z | z | z | z)
      · exact h0 z
      · exact h5 z
      · rw [ha] at z; cases z
      · rw [e] at z; exact hc (Option.some.inj z.1)
  · rw [if_neg ha, numT_no (.inr (.inr (.inl (Bool.eq_false_iff.mpr ha))))]
theorem filter_less {l : List Nat} : (l.filter isD).length < l.length ↔ ¬ l.all isD = true := by
  constructor
  · intro h ha
    rw [List.filter_eq_self.mpr fun c hc => List.all_eq_true.mp ha c hc] at h
    omega
  · intro h
    have := List.length_filter_le isD l
    rcases Nat.lt_or_ge (l.filter isD).length l.length with z | z
    · exact z
    · refine absurd (List.all_eq_true.mpr fun c hc => ?_) h
      have e : l.filter isD = l := List.filter_sublist.eq_of_length_le z
      exact List.filter_eq_self.mp e c hc
theorem law_number22 {l : List Nat} (hl : l.length < 1000000) : m__law_number (SX.S l) = some ((numT l).map fun n : Nat => (n : Int)) := by
  have sz := sizeS hl
  unfold m__law_number
  rw [sgn_S]
  refine bnd_of (goods22 l [] (by show _ + 0 < _; omega)) ?_
  rw [List.nil_append, if_pos sz, if_pos sz, if_pos sz, List.length_map, SX.S_len]
  by_cases h0 : l = []
  · rw [show (decide (SX.S l = ("" : Str))) = true from decide_eq_true ((nilS l).mpr h0), numT_no (.inl h0)]
    rfl
  rw [show (decide (SX.S l = ("" : Str))) = false from decide_eq_false fun z => h0 ((nilS l).mp z)]
  by_cases h5 : 5 < l.length
  · rw [show decide ((5 : Int) < (l.length : Int)) = true from decide_eq_true (by omega), numT_no (.inr (.inl h5))]
    rfl
  rw [show decide ((5 : Int) < (l.length : Int)) = false from decide_eq_false (by omega)]
  by_cases ha : l.all isD = true
  · rw [show decide (((l.filter isD).length : Int) < (l.length : Int)) = false from decide_eq_false fun z => filter_less.mp (by omega) ha]
    obtain ⟨c, r, e⟩ := List.exists_cons_of_ne_nil h0
    have ec : atI (Str.cps (SX.S l)).toList (0 : Int) = some c := by
      show atI l 0 = some c
      rw [e]; exact atI_z (by decide) rfl
    rw [ec]
    have fin : ((PySem.intText? (SX.S l)).bind fun y => if l.length ≤ 640 then some (some y) else none) = some (some ((NumText.digitsVal l : Nat) : Int)) := bnd_of (intS h0 (by omega) ha) (if_pos (by omega))
    by_cases h1 : 1 < l.length
    · rw [show decide ((1 : Int) < (l.length : Int)) = true from decide_eq_true (by omega)]
      by_cases hc : c = 48
      · rw [numT_no (.inr (.inr (.inr ⟨by rw [e, hc]; rfl, fun z => by rw [z] at h1; exact absurd h1 (by decide)⟩)))]
        refine bnd_of (x := true) ((if_pos sz).trans (congrArg some (decide_eq_true (by rw [hc]; rfl)))) (if_pos rfl)
      · rw [numT_yes]
        · refine bnd_of (x := false) ((if_pos sz).trans (congrArg some (decide_eq_false (show ¬ (⟨#[c]⟩ : Str) = ("0" : Str) from fun z => hc (List.cons.inj (SX.S_inj (a := [c]) (b := [48]) z)).1)))) ((if_neg Bool.false_ne_true).trans fin)
        · rintro (z | z | z | z)
          · exact h0 z
          · exact h5 z
          · rw [ha] at z; cases z
          · rw [e] at z; exact hc (Option.some.inj z.1)
    · rw [show decide ((1 : Int) < (l.length : Int)) = false from decide_eq_false (by omega), numT_yes]
      · exact fin
      · rintro (z | z | z | z)
        · exact h0 z
        · exact h5 z
        · rw [ha] at z; cases z
        · refine z.2 ?_
          rw [e] at z h1 ⊢
          have : r = [] := by
            cases r with
            | nil => rfl
            | cons a b => exact absurd (show 1 < b.length + 1 + 1 by omega) h1
          rw [Option.some.inj z.1, this]
  · rw [show decide (((l.filter isD).length : Int) < (l.length : Int)) = true from decide_eq_true (by have := filter_less.mpr ha; omega), numT_no (.inr (.inr (.inl (Bool.eq_false_iff.mpr ha))))]
    rfl
theorem numT_num {n : Nat} (h : n < 100000) : numT (TL.numL n) = some n := by
  have e2 : m_number_in (SX.S (TL.numL n)) = some (some (n : Int)) := by rw [← strI_S]; exact number_ok h
  have e := (number_in22 (l := TL.numL n) (by have := TL.numL_len (n := n) (k := 5) (by decide) h; omega)).symm.trans e2
  have e := Option.some.inj e
  cases q : numT (TL.numL n) with
  | none => rw [q] at e; cases e
  | some m =>
    rw [q] at e
    have : ((m : Nat) : Int) = n := Option.some.inj e
    rw [show m = n by omega]
theorem numT_back {l : List Nat} {n : Nat} (h : numT l = some n) : TL.numL n = l ∧ n < 100000 ∧ l.length ≤ 5 := by
  unfold numT at h
  by_cases c : l = [] ∨ 5 < l.length ∨ l.all isD = false ∨ (l.head? = some 48 ∧ l ≠ [48])
  · rw [if_pos c] at h; cases h
  rw [if_neg c] at h
  have h := Option.some.inj h
  have h0 : l ≠ [] := fun z => c (.inl z)
  have h5 : l.length ≤ 5 := Nat.le_of_not_lt fun z => c (.inr (.inl z))
  have ha : NumText.AllDigits l := fun d hd => by
    have z : l.all isD = true := by
      cases q : l.all isD with
      | true => rfl
      | false => exact absurd (.inr (.inr (.inl q))) c
    have := List.all_eq_true.mp z d hd
    unfold isD at this
    simpa using this
  obtain ⟨d, r, e⟩ := List.exists_cons_of_ne_nil h0
  have hd := ha d (by rw [e]; simp)
  have hz : l.length = (l.length - 1) + 1 := by rw [e]; rfl
  have ht := NumText.toDigits_digitsVal (l.length - 1) l hz ha (by
    by_cases q : d = 48
    · left
      have : l = [48] := by
        cases Classical.em (l = [48]) with
        | inl z => exact z
        | inr z => exact absurd (.inr (.inr (.inr ⟨by rw [e, q]; rfl, z⟩))) c
      rw [this]; rfl
    · right
      exact ⟨d, r, e, by omega⟩)
  rw [h] at ht
  have hn : TL.numL n = l := by
    unfold TL.numL
    rw [ht, List.map_map]
    refine (List.map_congr_left fun x hx => ?_).trans (List.map_id l)
    have := ha x hx
    show (Char.ofNat x).toNat = x
    have hv : x.isValidChar := .inl (by omega)
    rw [Char.ofNat, dif_pos hv]
    rfl
  refine ⟨hn, ?_, h5⟩
  rcases Nat.lt_or_ge n 100000 with z | z
  · exact z
  · exfalso
    have grow : ∀ k m : Nat, 10 ^ k ≤ m → k < (TL.numL m).length := by
      intro k
      induction k with
      | zero => intro m _; exact List.length_pos_iff.mpr (TL.numL_ne m)
      | succ k ih =>
        intro m hm
        have hm : 10 ^ k * 10 ≤ m := by rw [← Nat.pow_succ]; exact hm
        have p : 0 < 10 ^ k := Nat.pow_pos (by decide)
        rw [TL.numL_step (by omega), List.length_append]
        have := ih (m / 10) ((Nat.le_div_iff_mul_le (by decide)).mpr hm)
        show k + 1 < _ + 1
        omega
    have := grow 5 n z
    rw [hn] at this
    omega

/-! ### k22: the check; letters read -/
def chk : Nat → List Nat → Nat
  | _, [] => 0
  | i, c :: r => (i + 1) * c + chk (i + 1) r
theorem chk_app : ∀ (u v : List Nat) (i : Nat), chk i (u ++ v) = chk i u + chk (i + u.length) v
  | [], v, i => by show chk i v = 0 + chk (i + 0) v; simp
  | c :: r, v, i => by
    show (i + 1) * c + chk (i + 1) (r ++ v) = (i + 1) * c + chk (i + 1) r + chk (i + (r.length + 1)) v
    rw [chk_app r v (i + 1), show i + 1 + r.length = i + (r.length + 1) by omega]; omega
theorem chk_run : ∀ (l : List Nat) (i s : Nat), i + l.length < 1000000000 → s < 9973 →
    forS m_check_of_l1 (((l.map fun c => (⟨#[c]⟩ : Str)).zipIdx i).map fun p => ((p.2 : Int), p.1)) (s : Int) = some (((s + chk i l) % 9973 : Nat) : Int)
  | [], i, s, _, h => by
    show some (s : Int) = some (((s + 0) % 9973 : Nat) : Int)
    rw [Nat.add_zero, Nat.mod_eq_of_lt h]
  | c :: r, i, s, hl, h => by
    have hl : i + (r.length + 1) < 1000000000 := hl
    rw [List.map_cons, List.zipIdx_cons, List.map_cons]
    have e : m_check_of_l1 ((i : Int), (⟨#[c]⟩ : Str)) (s : Int) = some (((s + (i + 1) * c) % 9973 : Nat) : Int) := by
      unfold m_check_of_l1
      refine (if_pos rfl).trans ((if_pos (.inl ⟨by show -(2 ^ 64) < ((i : Int) + 1); omega, by show ((i : Int) + 1) < 2 ^ 64; omega⟩)).trans ((if_pos (by decide)).trans ?_))
      show some (((s : Int) + ((i : Int) + 1) * (c : Int)) % 9973) = _
      congr 1
    refine bnd_of e ?_
    rw [chk_run r (i + 1) _ (by omega) (Nat.mod_lt _ (by decide))]
    show some _ = some (((s + ((i + 1) * c + chk (i + 1) r)) % 9973 : Nat) : Int)
    rw [Nat.mod_add_mod, Nat.add_assoc]
theorem catS (a b : List Nat) : SX.S a ++ SX.S b = SX.S (a ++ b) := SX.S_cat a b
theorem spS : (" " : Str) = SX.S [32] := by kernel_rfl
theorem log22 {n : Nat} (h : n < 100000) : ((n : Int)).natAbs.log2 < 1920 := by
  rw [Int.natAbs_natCast]
  by_cases z : n = 0
  · rw [z]; decide
  · rw [Nat.log2_lt z]
    exact Nat.lt_of_lt_of_le h (Nat.le_trans (show 100000 ≤ 2 ^ 17 by decide) (Nat.pow_le_pow_right (by decide) (by decide)))
theorem numL5 {n : Nat} (h : n < 100000) : (TL.numL n).length ≤ 5 := TL.numL_len (k := 5) (by decide) h
theorem check_of22 {kc n : Nat} (hn : n < 100000) {d : List Nat} (hd : d.length < 1000000) : m_check_of (SX.S [kc]) (n : Int) (SX.S d) = some ((chk 0 ((kc :: TL.numL n) ++ (32 :: d)) % 9973 : Nat) : Int) := by
  have h5 := numL5 hn
  unfold m_check_of
  rw [if_pos (log22 hn), strI_S, spS, catS, catS, catS, if_pos (by rw [SX.S_len, SX.S_len]; show 1 + _ < _; omega), if_pos (by rw [SX.S_len, SX.S_len, List.length_append]; show 1 + _ + 1 < _; omega),
    if_pos (by rw [SX.S_len, SX.S_len, List.length_append, List.length_append]; show 1 + _ + 1 + _ < _; omega), sgn_S]
  have el : (([kc] ++ TL.numL n) ++ [32]) ++ d = (kc :: TL.numL n) ++ (32 :: d) := by simp
  rw [el]
  have r := chk_run ((kc :: TL.numL n) ++ (32 :: d)) 0 0 (by rw [List.length_append]; show 0 + ((_ + 1) + (_ + 1)) < _; omega) (by decide)
  rw [Nat.zero_add] at r
  exact bnd_of r rfl
theorem lchk_run : ∀ (l : List Nat) (s p : Nat), p + l.length < 1000000000 → forS m__law_check_l1 (l.map fun c => (⟨#[c]⟩ : Str)) ((s : Int), (p : Int)) = some (((s + chk p l : Nat) : Int), ((p + l.length : Nat) : Int))
  | [], s, p, _ => rfl
  | c :: r, s, p, hl => by
    have hl : p + (r.length + 1) < 1000000000 := hl
    rw [List.map_cons]
    have e : m__law_check_l1 (⟨#[c]⟩ : Str) ((s : Int), (p : Int)) = some (((s + (p + 1) * c : Nat) : Int), ((p + 1 : Nat) : Int)) := by
      unfold m__law_check_l1
      refine (if_pos rfl).trans ((if_pos (.inl ⟨by show -(2 ^ 64) < ((p : Int) + 1); omega, by show ((p : Int) + 1) < 2 ^ 64; omega⟩)).trans ?_)
      show some ((s : Int) + ((p : Int) + 1) * (c : Int), (p : Int) + 1) = _
      congr 1
    refine bnd_of e ?_
    rw [lchk_run r _ (p + 1) (by omega)]
    show some (((s + (p + 1) * c + chk (p + 1) r : Nat) : Int), ((p + 1 + r.length : Nat) : Int)) = some (((s + ((p + 1) * c + chk (p + 1) r) : Nat) : Int), ((p + (r.length + 1) : Nat) : Int))
    rw [Nat.add_assoc, show p + 1 + r.length = p + (r.length + 1) by omega]
theorem law_check22 {h d : List Nat} (hh : h.length < 1000000) (hd : d.length < 1000000) : m__law_check (SX.S h) (SX.S d) = some ((chk 0 (h ++ (32 :: d)) % 9973 : Nat) : Int) := by
  unfold m__law_check
  rw [spS, catS, catS, if_pos (by rw [SX.S_len, SX.S_len]; show _ + 1 < _; omega), if_pos (by rw [SX.S_len, SX.S_len, List.length_append]; show _ + 1 + _ < _; omega), sgn_S]
  have el : (h ++ [32]) ++ d = h ++ (32 :: d) := by simp
  rw [el]
  refine bnd_of (lchk_run (h ++ (32 :: d)) 0 0 (by rw [List.length_append]; show 0 + (_ + (_ + 1)) < _; omega)) ?_
  show some (((0 + chk 0 (h ++ (32 :: d)) : Nat) : Int) % 9973) = _
  rw [Nat.zero_add]; rfl
theorem cut_first (a : List Nat) : cutS (SX.S a) none (some (1 : Int)) = SX.S (a.take 1) := by
  have h : HT.sIx (SX.S a).length (SX.S a).length (some (1 : Int)) = min 1 a.length := by rw [SX.S_len]; exact HT.sIx_nat _ _ 1
  have h0 : HT.sIx (SX.S a).length 0 none = 0 := rfl
  unfold cutS
  rw [h, h0]
  show SX.S _ = _
  congr 1
  rw [List.drop_zero, Nat.sub_zero]
  show a.take (min 1 a.length) = _
  rw [← List.take_eq_take_min]
theorem cut_from (a : List Nat) (k : Nat) : cutS (SX.S a) (some (k : Int)) none = SX.S (a.drop k) := by
  have h : HT.sIx (SX.S a).length 0 (some (k : Int)) = min k a.length := by rw [SX.S_len]; exact HT.sIx_nat _ _ k
  have h0 : HT.sIx (SX.S a).length (SX.S a).length none = a.length := by rw [SX.S_len]; rfl
  unfold cutS
  rw [h, h0]
  show SX.S _ = _
  congr 1
  show (a.drop (min k a.length)).take (a.length - min k a.length) = _
  rw [List.take_of_length_le (by rw [List.length_drop]; omega)]
  rcases Nat.le_total k a.length with z | z
  · rw [Nat.min_eq_left z]
  · rw [Nat.min_eq_right z, List.drop_length, List.drop_eq_nil_of_le z]
theorem cut_to (a : List Nat) (k : Nat) : cutS (SX.S a) none (some (k : Int)) = SX.S (a.take k) := by
  have h : HT.sIx (SX.S a).length (SX.S a).length (some (k : Int)) = min k a.length := by rw [SX.S_len]; exact HT.sIx_nat _ _ k
  have h0 : HT.sIx (SX.S a).length 0 none = 0 := rfl
  unfold cutS
  rw [h, h0]
  show SX.S _ = _
  congr 1
  rw [List.drop_zero, Nat.sub_zero]
  show a.take (min k a.length) = _
  rw [← List.take_eq_take_min]
theorem cut_mid (a : List Nat) (j k : Nat) (h : j ≤ k) : cutS (SX.S a) (some (j : Int)) (some (k : Int)) = SX.S ((a.drop j).take (k - j)) := by
  have h1 : HT.sIx (SX.S a).length 0 (some (j : Int)) = min j a.length := by rw [SX.S_len]; exact HT.sIx_nat _ _ j
  have h2 : HT.sIx (SX.S a).length (SX.S a).length (some (k : Int)) = min k a.length := by rw [SX.S_len]; exact HT.sIx_nat _ _ k
  unfold cutS
  rw [h1, h2]
  show SX.S _ = _
  congr 1
  show (a.drop (min j a.length)).take (min k a.length - min j a.length) = _
  rcases Nat.le_total j a.length with z | z
  · rw [Nat.min_eq_left z]
    rcases Nat.le_total k a.length with y | y
    · rw [Nat.min_eq_left y]
    · rw [Nat.min_eq_right y, List.take_of_length_le (by rw [List.length_drop]; omega), List.take_of_length_le (by rw [List.length_drop]; omega)]
  · rw [Nat.min_eq_right z, List.drop_length, List.drop_eq_nil_of_le z, List.take_nil, List.take_nil]

/-! ### k22: a letter opened -/
structure Rd (kc : Nat) (l : List Nat) (n : Nat) (d : List Nat) : Prop where
  lt : n < 100000
  ex : ∃ c k, l = (kc :: TL.numL n) ++ (32 :: (c ++ (32 :: d))) ∧ numT c = some k ∧ chk 0 ((kc :: TL.numL n) ++ (32 :: d)) % 9973 = k
theorem num32 (n : Nat) : 32 ∉ TL.numL n := TL.numL_free (.inl (by decide))
theorem numT32 {c : List Nat} {k : Nat} (h : numT c = some k) : 32 ∉ c := by rw [← (numT_back h).1]; exact num32 k
theorem cut_uniq {a c d a' c' d' : List Nat} (ha : 32 ∉ a) (hc : 32 ∉ c) (ha' : 32 ∉ a') (hc' : 32 ∉ c') (e : a ++ (32 :: (c ++ (32 :: d))) = a' ++ (32 :: (c' ++ (32 :: d')))) : a = a' ∧ c = c' ∧ d = d' := by
  have p1 : TL.par [32] [] (a ++ (32 :: (c ++ (32 :: d)))) = some (a, c ++ (32 :: d)) := TL.par_part1 (S := []) (rest := c ++ (32 :: d)) ha
  have p2 : TL.par [32] [] (a' ++ (32 :: (c' ++ (32 :: d')))) = some (a', c' ++ (32 :: d')) := TL.par_part1 (S := []) (rest := c' ++ (32 :: d')) ha'
  rw [e, p2] at p1
  obtain ⟨e1, e2⟩ := Prod.mk.inj (Option.some.inj p1)
  have q1 : TL.par [32] [] (c ++ (32 :: d)) = some (c, d) := TL.par_part1 (S := []) (rest := d) hc
  have q2 : TL.par [32] [] (c' ++ (32 :: d')) = some (c', d') := TL.par_part1 (S := []) (rest := d') hc'
  rw [← e2, q2] at q1
  obtain ⟨e3, e4⟩ := Prod.mk.inj (Option.some.inj q1)
  exact ⟨e1.symm, e3.symm, e4.symm⟩
theorem Rd.parts {kc n : Nat} {a c d e : List Nat} (h32 : kc ≠ 32) (ha : 32 ∉ a) (hc : 32 ∉ c) (h : Rd kc (a ++ (32 :: (c ++ (32 :: d)))) n e) : a = kc :: TL.numL n ∧ e = d ∧ ∃ k, numT c = some k ∧ chk 0 ((kc :: TL.numL n) ++ (32 :: d)) % 9973 = k := by
  obtain ⟨lt, c', k, e1, e2, e3⟩ := h
  obtain ⟨f1, f2, f3⟩ := cut_uniq ha hc (fun z => (List.mem_cons.mp z).elim (fun q => h32 q.symm) (num32 n)) (numT32 e2) e1
  subst f3
  exact ⟨f1, rfl, k, by rw [f2]; exact e2, e3⟩
theorem join_len : ∀ (m : List (List Nat)), m ≠ [] → (TL.joinL [32] m).length + 1 = (m.map (·.length)).sum + m.length
  | [], h => absurd rfl h
  | [p], _ => by simp [TL.joinL]
  | p :: q :: r, _ => by
    have ih := join_len (q :: r) (by simp)
    show (p ++ ([32] ++ TL.joinL [32] (q :: r))).length + 1 = _
    rw [List.length_append, List.length_append, List.map_cons, List.sum_cons, List.length_cons (a := p)]
    show p.length + (1 + (TL.joinL [32] (q :: r)).length) + 1 = _
    omega
theorem split_join22 (d : List Nat) : Txt.join (" " : Str) (Txt.split (SX.S d) (" " : Str)) = SX.S d := by
  rw [TL.join_eq]; exact PySem.StrLaws.join_split _ _
theorem split_sum {d : List Nat} (hd : d.length < 1000000) : ((Txt.split (SX.S d) (" " : Str)).map (·.length)).sum + (Txt.split (SX.S d) (" " : Str)).length * (" " : Str).length ≤ 16777216 := by
  have ne : (Txt.split (SX.S d) (" " : Str)).map TL.tl ≠ [] := by
    rw [TL.split_spl _ _ (by rw [sp_tl]; simp) (TL.kind_ok sp_k), sp_tl]
    rcases first_sp 32 d with h | ⟨a, b, rfl, ha⟩
    · rw [show TL.spl [32] 0 [] (TL.tl (SX.S d)) = [[] ++ d] from TL.spl_last1 (S := []) h]; simp
    · rw [show TL.spl [32] 0 [] (TL.tl (SX.S (a ++ 32 :: b))) = ([] ++ a) :: TL.spl [32] 0 [] b from TL.spl_part1 (S := []) ha]; simp
  have j := join_len _ ne
  have e := split_join22 d
  rw [TL.join_eq] at e
  have e2 := congrArg TL.tl e
  rw [TL.tl_join, sp_tl] at e2
  rw [e2] at j
  have j : d.length + 1 = _ := j
  rw [List.map_map, List.length_map] at j
  have el : (Txt.split (SX.S d) (" " : Str)).map (List.length ∘ TL.tl) = (Txt.split (SX.S d) (" " : Str)).map (·.length) := List.map_congr_left fun x _ => (TL.len_tl x).symm
  have j : d.length + 1 = ((Txt.split (SX.S d) (" " : Str)).map (List.length ∘ TL.tl)).sum + (Txt.split (SX.S d) (" " : Str)).length := j
  rw [el] at j
  have s1 : (" " : Str).length = 1 := by decide +kernel
  rw [s1]
  omega
theorem cut_two (x y : Str) (m : List Str) : cutX (x :: y :: m) (some (2 : Int)) none = m := by
  have h : HT.sIx (x :: y :: m).length 0 (some (2 : Int)) = min 2 (x :: y :: m).length := HT.sIx_nat _ _ 2
  have h2 : HT.sIx (x :: y :: m).length (x :: y :: m).length none = (x :: y :: m).length := rfl
  unfold cutX
  rw [h, h2]
  have e : min 2 (x :: y :: m).length = 2 := Nat.min_eq_left (by show 2 ≤ m.length + 1 + 1; omega)
  rw [e]
  show m.take (m.length + 1 + 1 - 2) = m
  exact List.take_of_length_le (by omega)
theorem orO_f {u : Option Bool} : orO (some false) u = u := rfl
theorem read22 {kc : Nat} (h32 : kc ≠ 32) {l : List Nat} (hl : l.length < 1000000) :
    (∃ n d, Rd kc l n d ∧ m_opened (SX.S [kc]) (SX.S l) = some (.ok ((n : Int), SX.S d)) ∧ m__law_due (SX.S [kc]) (SX.S l) = some (.inr ((n : Int), SX.S d))) ∨
    ((∀ n d, ¬ Rd kc l n d) ∧ m_opened (SX.S [kc]) (SX.S l) = some (.ex ("NoLetter" : Str)) ∧ m__law_due (SX.S [kc]) (SX.S l) = some (.inl ("none" : Str))) := by
  have sz := sizeS hl
  rcases cut3 l with ⟨⟨m, e1, l1⟩, ⟨m2, e2, l2⟩, no⟩ | ⟨a, c, d, e, ha, hc⟩
  · refine .inr ⟨fun n d ⟨_, c, k, f1, f2, _⟩ => no _ c d (fun z => (List.mem_cons.mp z).elim (fun q => h32 q.symm) (num32 n)) (numT32 f2) f1, ?_, ?_⟩
    · unfold m_opened
      rw [if_pos sz, e1, decide_eq_true (show ((m.length : Nat) : Int) < 3 by omega)]
      exact bnd_of (x := true) rfl (if_pos rfl)
    · unfold m__law_due
      rw [if_pos sz, e2, decide_eq_true (show ((m2.length : Nat) : Int) < 3 by omega)]
      exact bnd_of (x := true) rfl (if_pos rfl)
  · subst e
    obtain ⟨s1, s2⟩ := cut_three (d := d) ha hc
    have hal : a.length < 1000000 := by rw [List.length_append] at hl; omega
    have hcl : c.length < 1000000 := by
      rw [List.length_append, List.length_cons, List.length_append] at hl; omega
    have hdl : d.length < 1000000 := by
      rw [List.length_append, List.length_cons, List.length_append, List.length_cons] at hl; omega
    have sa := sizeS hal
    have d3 : decide (((([SX.S a, SX.S c, SX.S d] : List Str).length : Nat) : Int) < 3) = false := decide_eq_false (show ¬ (((3 : Nat) : Int) < 3) by decide)
    have d4 : decide ((((SX.S a :: SX.S c :: Txt.split (SX.S d) (" " : Str)).length : Nat) : Int) < 3) = false := by
      refine decide_eq_false ?_
      have : 1 ≤ (Txt.split (SX.S d) (" " : Str)).length := by
        rcases Nat.eq_zero_or_pos (Txt.split (SX.S d) (" " : Str)).length with z | z
        · exfalso
          have z := List.length_eq_zero_iff.mp z
          have ne := congrArg (List.map TL.tl) z
          rw [TL.split_spl _ _ (by rw [sp_tl]; simp) (TL.kind_ok sp_k), sp_tl] at ne
          rcases first_sp 32 d with h | ⟨a, b, rfl, ha⟩
          · rw [show TL.spl [32] 0 [] (TL.tl (SX.S d)) = [[] ++ d] from TL.spl_last1 (S := []) h] at ne; simp at ne
          · rw [show TL.spl [32] 0 [] (TL.tl (SX.S (a ++ 32 :: b))) = ([] ++ a) :: TL.spl [32] 0 [] b from TL.spl_part1 (S := []) ha] at ne; simp at ne
        · exact z
      show ¬ (((((Txt.split (SX.S d) (" " : Str)).length + 1 + 1) : Nat) : Int) < 3)
      omega
    -- the first part's first sign
    by_cases h1 : a.take 1 = [kc]
    · have ea : a = kc :: a.drop 1 := by
        have := List.take_append_drop 1 a
        rw [h1] at this
        exact this.symm
      generalize a.drop 1 = a' at ea
      subst ea
      have hal' : a'.length < 1000000 := by have : a'.length + 1 < 1000000 := hal; omega
      have c1 : cutS (SX.S (kc :: a')) none (some (1 : Int)) = SX.S [kc] := cut_first (kc :: a')
      have c2 : cutS (SX.S (kc :: a')) (some (1 : Int)) none = SX.S a' := cut_from (kc :: a') 1
      have bo : (orO (some (decide (((([SX.S (kc :: a'), SX.S c, SX.S d] : List Str).length : Nat) : Int) < 3))) ((atI [SX.S (kc :: a'), SX.S c, SX.S d] (0 : Int)).bind fun x32 => if x32.length < 16000000 then some (decide (¬ (cutS x32 none (some (1 : Int))) = SX.S [kc])) else none)) = some false := by
        rw [d3, orO_f]
        refine bnd_of (x := SX.S (kc :: a')) (atI_z (by decide) rfl) ((if_pos sa).trans (congrArg some (decide_eq_false (fun z => z c1))))
      have bd : (orO (some (decide ((((SX.S (kc :: a') :: SX.S c :: Txt.split (SX.S d) (" " : Str)).length : Nat) : Int) < 3))) ((atI (SX.S (kc :: a') :: SX.S c :: Txt.split (SX.S d) (" " : Str)) (0 : Int)).bind fun x32 => if x32.length < 16000000 then some (decide (¬ (cutS x32 none (some (1 : Int))) = SX.S [kc])) else none)) = some false := by
        rw [d4, orO_f]
        refine bnd_of (x := SX.S (kc :: a')) (atI_z (by decide) rfl) ((if_pos sa).trans (congrArg some (decide_eq_false (fun z => z c1))))
      have A0 : ∀ m : List Str, atI (SX.S (kc :: a') :: m) (0 : Int) = some (SX.S (kc :: a')) := fun m => atI_z (by decide) rfl
      have A1 : ∀ m : List Str, atI (SX.S (kc :: a') :: SX.S c :: m) (1 : Int) = some (SX.S c) := fun m => atI_z (by decide) rfl
      have A2 : atI [SX.S (kc :: a'), SX.S c, SX.S d] (2 : Int) = some (SX.S d) := atI_z (by decide) rfl
      have N1 := number_in22 hal'
      have N2 := number_in22 hcl
      have L1 := law_number22 hal'
      have L2 := law_number22 hcl
      have ss := split_sum hdl
      unfold m_opened m__law_due
      rw [if_pos sz, if_pos sz, s1, s2, bo, bd, A0, A0, cut_two, split_join22]
      cases q1 : numT a' with
      | none =>
        refine .inr ⟨fun n e r => ?_, ?_, ?_⟩
        · obtain ⟨f1, _⟩ := r.parts h32 ha hc
          rw [(List.cons.inj f1).2, numT_num r.lt] at q1; cases q1
        · refine bnd_of (x := false) rfl ((if_neg Bool.false_ne_true).trans (bnd_of rfl ((if_pos sa).trans ?_)))
          rw [c2]
          refine bnd_of N1 (bnd_of (A1 _) (bnd_of N2 ((if_pos (by rw [q1]; rfl)).trans rfl)))
        · refine bnd_of (x := false) rfl ((if_neg Bool.false_ne_true).trans (bnd_of rfl ((if_pos sa).trans ?_)))
          rw [c2]
          refine bnd_of L1 (bnd_of (A1 _) (bnd_of L2 ((if_pos ss).trans ((if_pos (by rw [q1]; rfl)).trans rfl))))
      | some n =>
        obtain ⟨g1, g2, g3⟩ := numT_back q1
        subst g1
        cases q2 : numT c with
        | none =>
          refine .inr ⟨fun n' e r => ?_, ?_, ?_⟩
          · obtain ⟨_, _, k, f3, _⟩ := r.parts h32 ha hc
            rw [f3] at q2; cases q2
          · refine bnd_of (x := false) rfl ((if_neg Bool.false_ne_true).trans (bnd_of rfl ((if_pos sa).trans ?_)))
            rw [c2]
            refine bnd_of N1 (bnd_of (A1 _) (bnd_of N2 ((if_neg (by rw [q1]; exact fun z => by cases z)).trans ((if_pos (by rw [q2]; rfl)).trans rfl))))
          · refine bnd_of (x := false) rfl ((if_neg Bool.false_ne_true).trans (bnd_of rfl ((if_pos sa).trans ?_)))
            rw [c2]
            refine bnd_of L1 (bnd_of (A1 _) (bnd_of L2 ((if_pos ss).trans ((if_neg (by rw [q1]; exact fun z => by cases z)).trans ((if_pos (by rw [q2]; rfl)).trans rfl)))))
        | some k =>
          have C1 := check_of22 (kc := kc) g2 hdl
          have C2 := law_check22 hal hdl
          have head : ∀ {Z : Option (Rz (Int × Str) Str)}, (if ¬ (some (k : Int)) = (some ((chk 0 ((kc :: TL.numL n) ++ (32 :: d)) % 9973 : Nat) : Int)) then some (.ex ("NoLetter" : Str)) else some (.ok ((n : Int), SX.S d))) = Z →
              ((some false).bind fun b40 => if b40 = true then some (Rz.ex ("NoLetter" : Str)) else (some (SX.S (kc :: TL.numL n))).bind fun x62 => if x62.length < 16000000 then
    (m_number_in (cutS x62 (some (1 : Int)) none)).bind fun r70 =>
    (atI [SX.S (kc :: TL.numL n), SX.S c, SX.S d] (1 : Int)).bind fun x75 =>
    (m_number_in x75).bind fun r82 =>
    if r70 = none then some (.ex ("NoLetter" : Str)) else
      if r82 = none then some (.ex ("NoLetter" : Str)) else
        (atI [SX.S (kc :: TL.numL n), SX.S c, SX.S d] (2 : Int)).bind fun x91 =>
        (r70).bind fun x98 =>
        (m_check_of (SX.S [kc]) x98 x91).bind fun r100 =>
        if ¬ r82 = (some r100) then some (.ex ("NoLetter" : Str)) else
          (atI [SX.S (kc :: TL.numL n), SX.S c, SX.S d] (2 : Int)).bind fun x106 =>
          some (Rz.ok (x98, x106)) else none) = Z := fun {Z} hz => by
            refine bnd_of (x := false) rfl ((if_neg Bool.false_ne_true).trans (bnd_of rfl ((if_pos sa).trans ?_)))
            rw [c2]
            refine bnd_of N1 (bnd_of (A1 _) (bnd_of N2 ((if_neg (by rw [q1]; exact fun z => by cases z)).trans ((if_neg (by rw [q2]; exact fun z => by cases z)).trans (bnd_of A2 (bnd_of (x := (n : Int)) (by rw [q1]; rfl) (bnd_of C1 ?_)))))))
            rw [q2]
            refine Eq.trans ?_ hz
            congr 1
          have tail : ∀ {Z : Option (Str ⊕ (Int × Str))}, (if ¬ (some (k : Int)) = (some ((chk 0 ((kc :: TL.numL n) ++ (32 :: d)) % 9973 : Nat) : Int)) then some (.inl ("none" : Str)) else some (.inr ((n : Int), SX.S d))) = Z →
              ((some false).bind fun b40 => if b40 = true then some (Sum.inl ("none" : Str)) else (some (SX.S (kc :: TL.numL n))).bind fun x63 => if x63.length < 16000000 then
    (m__law_number (cutS x63 (some (1 : Int)) none)).bind fun r71 =>
    (atI (SX.S (kc :: TL.numL n) :: SX.S c :: Txt.split (SX.S d) (" " : Str)) (1 : Int)).bind fun x76 =>
    (m__law_number x76).bind fun r83 =>
    if ((Txt.split (SX.S d) (" " : Str)).map (·.length)).sum + (Txt.split (SX.S d) (" " : Str)).length * (" " : Str).length ≤ 16777216 then
    if r71 = none then some (.inl ("none" : Str)) else
      if r83 = none then some (.inl ("none" : Str)) else
        (some (SX.S (kc :: TL.numL n))).bind fun x103 =>
        (m__law_check x103 (SX.S d)).bind fun r110 =>
        if ¬ r83 = (some r110) then some (.inl ("none" : Str)) else
          (r71).bind fun x118 => some (.inr (x118, SX.S d)) else none else none) = Z := fun {Z} hz => by
            refine bnd_of (x := false) rfl ((if_neg Bool.false_ne_true).trans (bnd_of rfl ((if_pos sa).trans ?_)))
            rw [c2]
            refine bnd_of L1 (bnd_of (A1 _) (bnd_of L2 ((if_pos ss).trans ((if_neg (by rw [q1]; exact fun z => by cases z)).trans ((if_neg (by rw [q2]; exact fun z => by cases z)).trans (bnd_of rfl (bnd_of C2 ?_)))))))
            rw [q2, q1]
            refine Eq.trans ?_ hz
            congr 1
          by_cases q3 : chk 0 ((kc :: TL.numL n) ++ (32 :: d)) % 9973 = k
          · refine .inl ⟨n, d, ⟨g2, c, k, rfl, q2, q3⟩, head ?_, tail ?_⟩
            · rw [q3]; exact if_neg (fun z => z rfl)
            · rw [q3]; exact if_neg (fun z => z rfl)
          · refine .inr ⟨fun n' e r => ?_, head (if_pos fun z => q3 ?_), tail (if_pos fun z => q3 ?_)⟩
            · obtain ⟨f1, f2, k', f3, f4⟩ := r.parts h32 ha hc
              have := TL.numL_inj (List.cons.inj f1).2
              subst this
              rw [f3] at q2
              exact q3 (f4.trans (Option.some.inj q2))
            · have := Option.some.inj z
              omega
            · have := Option.some.inj z
              omega
    · have bo : (orO (some (decide (((([SX.S a, SX.S c, SX.S d] : List Str).length : Nat) : Int) < 3))) ((atI [SX.S a, SX.S c, SX.S d] (0 : Int)).bind fun x32 => if x32.length < 16000000 then some (decide (¬ (cutS x32 none (some (1 : Int))) = SX.S [kc])) else none)) = some true := by
        rw [d3, orO_f]
        refine bnd_of (x := SX.S a) (atI_z (by decide) rfl) ((if_pos sa).trans (congrArg some (decide_eq_true (fun z => h1 ?_))))
        rw [cut_first] at z
        exact SX.S_inj z
      have bd : (orO (some (decide ((((SX.S a :: SX.S c :: Txt.split (SX.S d) (" " : Str)).length : Nat) : Int) < 3))) ((atI (SX.S a :: SX.S c :: Txt.split (SX.S d) (" " : Str)) (0 : Int)).bind fun x32 => if x32.length < 16000000 then some (decide (¬ (cutS x32 none (some (1 : Int))) = SX.S [kc])) else none)) = some true := by
        rw [d4, orO_f]
        refine bnd_of (x := SX.S a) (atI_z (by decide) rfl) ((if_pos sa).trans (congrArg some (decide_eq_true (fun z => h1 ?_))))
        rw [cut_first] at z
        exact SX.S_inj z
      refine .inr ⟨fun n e r => ?_, ?_, ?_⟩
      · obtain ⟨f1, _⟩ := r.parts h32 ha hc
        exact h1 (by rw [f1]; rfl)
      · unfold m_opened
        rw [if_pos sz, s1, bo]
        exact bnd_of (x := true) rfl (if_pos rfl)
      · unfold m__law_due
        rw [if_pos sz, s2, bd]
        exact bnd_of (x := true) rfl (if_pos rfl)
theorem told22 {kc : Nat} (h32 : kc ≠ 32) {l : List Nat} (hl : l.length < 1000000) :
    (∃ n d, Rd kc l n d ∧ m__law_told (SX.S [kc]) (SX.S l) = some (.inr ((n : Int), SX.S d)) ∧ m__law_due (SX.S [kc]) (SX.S l) = some (.inr ((n : Int), SX.S d))) ∨
    ((∀ n d, ¬ Rd kc l n d) ∧ m__law_told (SX.S [kc]) (SX.S l) = some (.inl ("none" : Str)) ∧ m__law_due (SX.S [kc]) (SX.S l) = some (.inl ("none" : Str))) := by
  rcases read22 h32 hl with ⟨n, d, r, e1, e2⟩ | ⟨r, e1, e2⟩
  · refine .inl ⟨n, d, r, ?_, e2⟩
    unfold m__law_told
    exact bnd_of e1 rfl
  · refine .inr ⟨r, ?_, e2⟩
    unfold m__law_told
    refine bnd_of e1 ?_
    show ((atI ([("other" : Str), ("none" : Str)] : List Str) (1 : Int)).bind fun x13 => some (Sum.inl x13)) = _
    exact bnd_of (x := ("none" : Str)) (atI_z (by decide) rfl) rfl

/-! ### k22: letters bent -/
def Asc (l : List Nat) : Prop := ∀ c ∈ l, c < 128
theorem Asc.app {a b : List Nat} (h : Asc a) (g : Asc b) : Asc (a ++ b) := fun c hc => (List.mem_append.mp hc).elim (h c) (g c)
theorem Asc.take {a : List Nat} (h : Asc a) (k : Nat) : Asc (a.take k) := fun c hc => h c (List.mem_of_mem_take hc)
theorem Asc.drop {a : List Nat} (h : Asc a) (k : Nat) : Asc (a.drop k) := fun c hc => h c (List.mem_of_mem_drop hc)
theorem Asc.one {c : Nat} (h : c < 128) : Asc [c] := fun d hd => by rw [List.mem_singleton.mp hd]; exact h
theorem Asc.num (n : Nat) : Asc (TL.numL n) := fun c hc => by
  have := TL.numL_digits n c hc
  omega
theorem Asc.ok {l : List Nat} (h : Asc l) : PyData.strOk (SX.S l) = true := by
  unfold PyData.strOk
  rw [← Array.all_toList]
  refine List.all_eq_true.mpr fun c hc => decide_eq_true ?_
  have := h c hc
  omega
def sg22 : List Nat := [97, 98, 99, 32, 88, 89, 90, 48, 49, 57, 59, 58, 45, 95, 46, 126, 33, 113, 97, 100, 101, 102, 103, 104, 105, 106, 107, 108, 109, 110, 111, 112, 114, 115, 116, 117, 118, 119, 120, 121, 122]
theorem signs22 : m__law_signs = some (SX.S sg22) := by kernel_rfl
theorem sg_asc : Asc sg22 := by unfold Asc; decide
theorem rev2 {m : List Nat} (h : m.length ≤ 2) : revS (SX.S m) = SX.S m.reverse := by
  match m, h with
  | [], _ => rfl
  | [x], _ => rfl
  | [x, y], _ => rfl
theorem atS {l : List Nat} {c : Nat} {i : Int} (h0 : 0 ≤ i) (h : l[i.toNat]? = some c) : atI (Str.cps (SX.S l)).toList i = some c := atI_z h0 h
theorem oneS22 (c : Nat) : (⟨#[c]⟩ : Str) = SX.S [c] := rfl
theorem bent22 {l : List Nat} (h0 : l ≠ []) (hl : l.length < 100000) (hc : Asc l) {x0 x1 x2 x3 : Int} (q0 : 0 ≤ x0) (q1 : 0 ≤ x1) (q2 : 0 ≤ x2) (q3 : 0 ≤ x3) :
    ∃ b : List Nat, m__law_bent (SX.S l) [x0, x1, x2, x3] = some (SX.S b) ∧ b.length ≤ l.length + 1 ∧ Asc b ∧ (x0 % 6 = 0 → ∃ s, s < 128 ∧ b = l.take (x1 % (l.length : Int)).toNat ++ (s :: l.drop ((x1 % (l.length : Int)).toNat + 1))) ∧
      (x0 % 6 = 3 → b = l.take (x1 % (l.length : Int)).toNat ++ (((l.drop (x1 % (l.length : Int)).toNat).take 2).reverse ++ l.drop ((x1 % (l.length : Int)).toNat + 2))) := by
  have sz : (SX.S l).length < 16000000 := by rw [SX.S_len]; omega
  have hp : 0 < l.length := List.length_pos_iff.mpr h0
  have pz : 0 < ((SX.S l).length : Int) := by rw [SX.S_len]; omega
  have eL : ((SX.S l).length : Int) = (l.length : Int) := by rw [SX.S_len]
  obtain ⟨at_, ha⟩ : ∃ at_ : Nat, x1 % (l.length : Int) = (at_ : Int) := ⟨(x1 % (l.length : Int)).toNat, by have := Int.emod_nonneg x1 (show (l.length : Int) ≠ 0 by omega); omega⟩
  have hlt : at_ < l.length := by have := Int.emod_lt_of_pos x1 (show (0 : Int) < l.length by omega); omega
  have r41 : 0 ≤ x2 % 41 ∧ x2 % 41 < 41 := ⟨Int.emod_nonneg _ (by decide), Int.emod_lt_of_pos _ (by decide)⟩
  obtain ⟨s, es, hs⟩ : ∃ s, sg22[(x2 % 41).toNat]? = some s ∧ s < 128 := by
    have hi : (x2 % 41).toNat < sg22.length := by show _ < 41; omega
    exact ⟨sg22[(x2 % 41).toNat], List.getElem?_eq_getElem hi, sg_asc _ (List.getElem_mem hi)⟩
  have A0 : atI [x0, x1, x2, x3] (0 : Int) = some x0 := atI_z (by decide) rfl
  have A1 : atI [x0, x1, x2, x3] (1 : Int) = some x1 := atI_z (by decide) rfl
  have A2 : atI [x0, x1, x2, x3] (2 : Int) = some x2 := atI_z (by decide) rfl
  have A3 : atI [x0, x1, x2, x3] (3 : Int) = some x3 := atI_z (by decide) rfl
  have c1 : cutS (SX.S l) none (some ((at_ : Nat) : Int)) = SX.S (l.take at_) := cut_to l at_
  have c2 : cutS (SX.S l) (some (((at_ : Nat) : Int) + 1)) none = SX.S (l.drop (at_ + 1)) := cut_from l (at_ + 1)
  have c3 : cutS (SX.S l) (some ((at_ : Nat) : Int)) none = SX.S (l.drop at_) := cut_from l at_
  have c4 : cutS (SX.S l) (some (((at_ : Nat) : Int) + 2)) none = SX.S (l.drop (at_ + 2)) := cut_from l (at_ + 2)
  have c5 : cutS (SX.S l) (some ((at_ : Nat) : Int)) (some (((at_ : Nat) : Int) + 2)) = SX.S ((l.drop at_).take 2) := by
    have := cut_mid l at_ (at_ + 2) (by omega)
    rw [show at_ + 2 - at_ = 2 by omega] at this
    exact this
  have c6 : cutS (SX.S l) (some (1 : Int)) none = SX.S (l.drop 1) := cut_from l 1
  have l2 : ((l.drop at_).take 2).length ≤ 2 := by rw [List.length_take]; omega
  have lt1 := List.length_take_le at_ l
  have ld : ∀ k, (l.drop k).length ≤ l.length := fun k => by rw [List.length_drop]; omega
  have hA : x1 % ((SX.S l).length : Int) = (at_ : Int) := by rw [eL]; exact ha
  have sgl : (SX.S sg22).length < 16000000 := by rw [SX.S_len]; decide
  have fit : ∀ a b : List Nat, a.length + b.length < 16000000 → (SX.S a).length + (SX.S b).length < 16000000 := fun a b h => by rw [SX.S_len, SX.S_len]; exact h
  rw [ha, Int.toNat_natCast]
  unfold m__law_bent
  rw [A1, A2, A0, A3, signs22]
  have l1 := ld (at_ + 1)
  have l0 := ld at_
  have l3 := ld (at_ + 2)
  have l4 := ld 1
  have e1 : (l.drop (at_ + 1)).length = l.length - (at_ + 1) := List.length_drop
  have e2 : (l.drop (at_ + 2)).length = l.length - (at_ + 2) := List.length_drop
  have e0 : (l.drop at_).length = l.length - at_ := List.length_drop
  have et : (l.take at_).length = at_ := by rw [List.length_take]; omega
  have e5 : ((l.drop at_).take 2).length = min 2 (l.length - at_) := by rw [List.length_take, List.length_drop]
  by_cases w0 : x0 % 6 = 0
  · refine ⟨(l.take at_ ++ [s]) ++ l.drop (at_ + 1), ?_, ?_, ((hc.take _).app (Asc.one hs)).app (hc.drop _), fun _ => ⟨s, hs, by rw [List.append_assoc]; rfl⟩, fun z => by omega⟩
    · refine bnd_of rfl ((if_pos sz).trans ((if_pos pz).trans (bnd_of rfl (bnd_of rfl (bnd_of (atS r41.1 es) ((if_pos sgl).trans (bnd_of rfl ((if_pos w0).trans ?_))))))))
      rw [hA, c1, c2, oneS22, catS, catS]
      exact (if_pos sz).trans ((if_pos (fit _ _ (by show _ + 1 < _; omega))).trans ((if_pos sz).trans ((if_pos (fit _ _ (by rw [List.length_append]; show _ + 1 + _ < _; omega))).trans rfl)))
    · rw [List.length_append, List.length_append]
      show _ + 1 + _ ≤ _
      omega
  by_cases w1 : x0 % 6 = 1
  · refine ⟨l.take at_ ++ l.drop (at_ + 1), ?_, ?_, (hc.take _).app (hc.drop _), fun z => by omega, fun z => by omega⟩
    · refine bnd_of rfl ((if_pos sz).trans ((if_pos pz).trans (bnd_of rfl (bnd_of rfl (bnd_of (atS r41.1 es) ((if_pos sgl).trans (bnd_of rfl ((if_neg w0).trans ((if_pos w1).trans ?_)))))))))
      rw [hA, c1, c2, catS]
      exact (if_pos sz).trans ((if_pos sz).trans ((if_pos (fit _ _ (by omega))).trans rfl))
    · rw [List.length_append]; omega
  by_cases w2 : x0 % 6 = 2
  · refine ⟨(l.take at_ ++ [s]) ++ l.drop at_, ?_, ?_, ((hc.take _).app (Asc.one hs)).app (hc.drop _), fun z => by omega, fun z => by omega⟩
    · refine bnd_of rfl ((if_pos sz).trans ((if_pos pz).trans (bnd_of rfl (bnd_of rfl (bnd_of (atS r41.1 es) ((if_pos sgl).trans (bnd_of rfl ((if_neg w0).trans ((if_neg w1).trans ((if_pos w2).trans ?_))))))))))
      rw [hA, c1, c3, oneS22, catS, catS]
      exact (if_pos sz).trans ((if_pos (fit _ _ (by show _ + 1 < _; omega))).trans ((if_pos sz).trans ((if_pos (fit _ _ (by rw [List.length_append]; show _ + 1 + _ < _; omega))).trans rfl)))
    · rw [List.length_append, List.length_append]
      show _ + 1 + _ ≤ _
      omega
  by_cases w3 : x0 % 6 = 3
  · have lr : ((l.drop at_).take 2).reverse.length = min 2 (l.length - at_) := by rw [List.length_reverse]; exact e5
    have ar : Asc ((l.drop at_).take 2).reverse := fun c h => ((hc.drop _).take _) c (List.mem_reverse.mp h)
    refine ⟨(l.take at_ ++ ((l.drop at_).take 2).reverse) ++ l.drop (at_ + 2), ?_, ?_, ((hc.take _).app ar).app (hc.drop _), fun z => by omega, fun _ => List.append_assoc _ _ _⟩
    · refine bnd_of rfl ((if_pos sz).trans ((if_pos pz).trans (bnd_of rfl (bnd_of rfl (bnd_of (atS r41.1 es) ((if_pos sgl).trans (bnd_of rfl ((if_neg w0).trans ((if_neg w1).trans ((if_neg w2).trans ((if_pos w3).trans ?_)))))))))))
      rw [hA, c1, c4, c5, rev2 l2, catS, catS]
      exact (if_pos sz).trans ((if_pos sz).trans ((if_pos (by rw [SX.S_len]; omega)).trans ((if_pos (fit _ _ (by omega))).trans ((if_pos sz).trans ((if_pos (fit _ _ (by rw [List.length_append]; omega))).trans rfl)))))
    · rw [List.length_append, List.length_append]; omega
  by_cases w4 : x0 % 6 = 4
  · refine ⟨l.take at_, ?_, by omega, hc.take _, fun z => by omega, fun z => by omega⟩
    refine bnd_of rfl ((if_pos sz).trans ((if_pos pz).trans (bnd_of rfl (bnd_of rfl (bnd_of (atS r41.1 es) ((if_pos sgl).trans (bnd_of rfl ((if_neg w0).trans ((if_neg w1).trans ((if_neg w2).trans ((if_neg w3).trans ((if_pos w4).trans ?_))))))))))))
    rw [hA, c1]
    exact (if_pos sz).trans rfl
  · obtain ⟨p, ep, pl, pa⟩ : ∃ p : List Nat, atI ([("a" : Str), ("q" : Str), ("x" : Str), ("" : Str)] : (List Str)) (x3 % (4 : Int)) = some (SX.S p) ∧ p.length ≤ 1 ∧ Asc p := by
      have : x3 % 4 = 0 ∨ x3 % 4 = 1 ∨ x3 % 4 = 2 ∨ x3 % 4 = 3 := by omega
      rcases this with z | z | z | z <;> rw [z]
      · exact ⟨[97], atI_z (by decide) rfl, by decide, Asc.one (by decide)⟩
      · exact ⟨[113], atI_z (by decide) rfl, by decide, Asc.one (by decide)⟩
      · exact ⟨[120], atI_z (by decide) rfl, by decide, Asc.one (by decide)⟩
      · exact ⟨[], atI_z (by decide) rfl, by decide, fun c h => by cases h⟩
    refine ⟨p ++ l.drop 1, ?_, ?_, pa.app (hc.drop _), fun z => by omega, fun z => by omega⟩
    · refine bnd_of rfl ((if_pos sz).trans ((if_pos pz).trans (bnd_of rfl (bnd_of rfl (bnd_of (atS r41.1 es) ((if_pos sgl).trans (bnd_of rfl ((if_neg w0).trans ((if_neg w1).trans ((if_neg w2).trans ((if_neg w3).trans ((if_neg w4).trans (bnd_of rfl (bnd_of ep ((if_pos sz).trans ?_)))))))))))))))
      rw [c6, catS]
      exact (if_pos (fit _ _ (by omega))).trans rfl
    · rw [List.length_append]; omega

/-! ### k22: the check of a letter bent within its text; the law -/
theorem cop22 : ∀ d : _root_.Fin 128, 0 < d.1 → Nat.gcd 9973 d.1 = 1 := by decide +kernel
theorem no_dvd {p d : Nat} (hp : 0 < p) (hp2 : p < 9973) (hd : 0 < d) (hd2 : d < 128) : ¬ 9973 ∣ p * d := fun h => by
  have c : Nat.Coprime 9973 d := cop22 ⟨d, hd2⟩ hd
  have := Nat.le_of_dvd hp (c.dvd_of_dvd_mul_right h)
  omega
theorem mod_ne {A p c c' : Nat} (hp : 0 < p) (hp2 : p < 9973) (h1 : c < 128) (h2 : c' < 128) (hne : c ≠ c') : (A + p * c) % 9973 ≠ (A + p * c') % 9973 := fun h => by
  rcases Nat.lt_or_gt_of_ne hne with z | z
  · refine no_dvd hp hp2 (d := c' - c) (by omega) (by omega) ?_
    have e : p * c' = p * c + p * (c' - c) := by rw [← Nat.mul_add]; congr 1; omega
    rw [e] at h
    omega
  · refine no_dvd hp hp2 (d := c - c') (by omega) (by omega) ?_
    have e : p * c = p * c' + p * (c - c') := by rw [← Nat.mul_add]; congr 1; omega
    rw [e] at h
    omega
theorem chk_one {h u v : List Nat} {c c' : Nat} (hl : h.length + u.length < 9970) (h1 : c < 128) (h2 : c' < 128) (hne : c ≠ c') :
    chk 0 (h ++ (32 :: (u ++ (c :: v)))) % 9973 ≠ chk 0 (h ++ (32 :: (u ++ (c' :: v)))) % 9973 := by
  have e : ∀ x, chk 0 (h ++ (32 :: (u ++ (x :: v)))) = (chk 0 h + (0 + h.length + 1) * 32 + chk (0 + h.length + 1) u + chk (0 + h.length + 1 + u.length + 1) v) + (0 + h.length + 1 + u.length + 1) * x := fun x => by
    rw [chk_app]
    show chk 0 h + ((0 + h.length + 1) * 32 + chk (0 + h.length + 1) (u ++ (x :: v))) = _
    rw [chk_app]
    show chk 0 h + ((0 + h.length + 1) * 32 + (chk (0 + h.length + 1) u + ((0 + h.length + 1 + u.length + 1) * x + chk (0 + h.length + 1 + u.length + 1) v))) = _
    omega
  rw [e, e]
  exact mod_ne (by omega) (by omega) h1 h2 hne
theorem chk_two {h u v : List Nat} {c c' : Nat} (h1 : c < 128) (h2 : c' < 128) (hne : c ≠ c') :
    chk 0 (h ++ (32 :: (u ++ (c :: c' :: v)))) % 9973 ≠ chk 0 (h ++ (32 :: (u ++ (c' :: c :: v)))) % 9973 := by
  have e : ∀ x y, chk 0 (h ++ (32 :: (u ++ (x :: y :: v)))) = (chk 0 h + (0 + h.length + 1) * 32 + chk (0 + h.length + 1) u + chk (0 + h.length + 1 + u.length + 1 + 1) v + (0 + h.length + 1 + u.length + 1) * (x + y)) + 1 * y := fun x y => by
    rw [chk_app]
    show chk 0 h + ((0 + h.length + 1) * 32 + chk (0 + h.length + 1) (u ++ (x :: y :: v))) = _
    rw [chk_app]
    show chk 0 h + ((0 + h.length + 1) * 32 + (chk (0 + h.length + 1) u + ((0 + h.length + 1 + u.length + 1) * x + ((0 + h.length + 1 + u.length + 1 + 1) * y + chk (0 + h.length + 1 + u.length + 1 + 1) v)))) = _
    rw [Nat.mul_add, Nat.add_mul (0 + h.length + 1 + u.length + 1) 1 y]
    omega
  rw [e, e, Nat.add_comm c' c]
  exact mod_ne (by decide) (by decide) h2 h1 (fun z => hne z.symm)
/-- a letter -/
def L22 (kc n : Nat) (t : List Nat) : List Nat := (kc :: TL.numL n) ++ (32 :: (TL.numL (chk 0 ((kc :: TL.numL n) ++ (32 :: t)) % 9973) ++ (32 :: t)))
theorem ck_lt (l : List Nat) : chk 0 l % 9973 < 100000 := Nat.lt_trans (Nat.mod_lt _ (by decide)) (by decide)
theorem L22.rd {kc n : Nat} {t : List Nat} (hn : n < 100000) : Rd kc (L22 kc n t) n t := ⟨hn, _, _, rfl, numT_num (ck_lt _), rfl⟩
theorem head32 {kc : Nat} (h : kc ≠ 32) (n : Nat) : 32 ∉ kc :: TL.numL n := fun z => (List.mem_cons.mp z).elim (fun q => h q.symm) (num32 n)
theorem L22.rd_eq {kc kc' n : Nat} {t : List Nat} (hk : kc ≠ 32) (hk' : kc' ≠ 32) {m : Nat} {e : List Nat} (h : Rd kc' (L22 kc n t) m e) : kc' = kc ∧ m = n ∧ e = t := by
  obtain ⟨f1, f2, _⟩ := h.parts hk' (head32 hk n) (num32 _)
  obtain ⟨g1, g2⟩ := List.cons.inj f1
  exact ⟨g1.symm, (TL.numL_inj g2).symm, f2⟩
/-- another text under the same head and check -/
theorem L22.other {kc n : Nat} {t t' : List Nat} (hk : kc ≠ 32) (h : chk 0 ((kc :: TL.numL n) ++ (32 :: t)) % 9973 ≠ chk 0 ((kc :: TL.numL n) ++ (32 :: t')) % 9973) (m : Nat) (e : List Nat) :
    ¬ Rd kc ((kc :: TL.numL n) ++ (32 :: (TL.numL (chk 0 ((kc :: TL.numL n) ++ (32 :: t)) % 9973) ++ (32 :: t')))) m e := fun r => by
  obtain ⟨f1, f2, k, f3, f4⟩ := r.parts hk (head32 hk n) (num32 _)
  have := TL.numL_inj (List.cons.inj f1).2
  subst this
  rw [numT_num (ck_lt _)] at f3
  exact h ((Option.some.inj f3).trans f4.symm)
theorem L22.len {kc n : Nat} {t : List Nat} (hn : n < 100000) : ∃ p, (L22 kc n t).length = p + t.length ∧ p ≤ 13 ∧ 0 < p ∧ (L22 kc n t).drop p = t ∧ (L22 kc n t).take p = (kc :: TL.numL n) ++ (32 :: (TL.numL (chk 0 ((kc :: TL.numL n) ++ (32 :: t)) % 9973) ++ [32])) := by
  have h1 := numL5 hn
  have h2 := numL5 (ck_lt ((kc :: TL.numL n) ++ (32 :: t)))
  have e : L22 kc n t = ((kc :: TL.numL n) ++ (32 :: (TL.numL (chk 0 ((kc :: TL.numL n) ++ (32 :: t)) % 9973) ++ [32]))) ++ t := by unfold L22; simp
  refine ⟨((kc :: TL.numL n) ++ (32 :: (TL.numL (chk 0 ((kc :: TL.numL n) ++ (32 :: t)) % 9973) ++ [32]))).length, ?_, ?_, ?_, ?_, ?_⟩
  · rw [e, List.length_append]
  · rw [List.length_append, List.length_cons, List.length_cons, List.length_append]
    show _ + 1 + (_ + 1 + 1) ≤ 13
    omega
  · rw [List.length_append, List.length_cons]; omega
  · rw [e]; exact List.drop_left
  · rw [e]; exact List.take_left
/-- bent within the text, it is no letter any more -/
theorem bent_no {kc n : Nat} (hk : kc ≠ 32) (hn : n < 100000) {t : List Nat} (ht : Asc t) (hl : t.length ≤ 9000) {at_ : Nat} (h1 : (L22 kc n t).length - t.length ≤ at_) (h2 : at_ < (L22 kc n t).length) {b : List Nat} (hb : b ≠ L22 kc n t)
    (hw : (∃ s, s < 128 ∧ b = (L22 kc n t).take at_ ++ (s :: (L22 kc n t).drop (at_ + 1))) ∨ b = (L22 kc n t).take at_ ++ ((((L22 kc n t).drop at_).take 2).reverse ++ (L22 kc n t).drop (at_ + 2))) (m : Nat) (e : List Nat) : ¬ Rd kc b m e := by
  obtain ⟨p, lp, p13, p0, dp, tp⟩ := L22.len (kc := kc) (t := t) hn
  have h5 := numL5 hn
  rw [lp] at h1 h2
  obtain ⟨j, rfl⟩ : ∃ j, at_ = p + j := ⟨at_ - p, by omega⟩
  have hj : j < t.length := by omega
  have dj : ∀ k, (L22 kc n t).drop (p + k) = t.drop k := fun k => by rw [← List.drop_drop, dp]
  have tj : (L22 kc n t).take (p + j) = (L22 kc n t).take p ++ t.take j := by rw [List.take_add, dp]
  have ej : t = t.take j ++ (t[j] :: t.drop (j + 1)) := by rw [← List.drop_eq_getElem_cons hj, List.take_append_drop]
  have cj : t[j] < 128 := ht _ (List.getElem_mem hj)
  have eL : ∀ t' : List Nat, (L22 kc n t).take p ++ t' = (kc :: TL.numL n) ++ (32 :: (TL.numL (chk 0 ((kc :: TL.numL n) ++ (32 :: t)) % 9973) ++ (32 :: t'))) := fun t' => by rw [tp]; simp
  have whole : L22 kc n t = (L22 kc n t).take p ++ t := by
    have := List.take_append_drop p (L22 kc n t)
    rw [dp] at this
    exact this.symm
  rcases hw with ⟨s, hs, eb⟩ | eb
  · rw [tj, show p + j + 1 = p + (j + 1) by omega, dj, List.append_assoc] at eb
    have ne : t[j] ≠ s := fun z => hb (by rw [eb, ← z, ← ej]; exact whole.symm)
    rw [eb, eL]
    refine L22.other hk ?_ m e
    have := chk_one (h := kc :: TL.numL n) (u := t.take j) (v := t.drop (j + 1)) (c := t[j]) (c' := s) (by rw [List.length_cons, List.length_take]; omega) cj hs ne
    rwa [← ej] at this
  · rw [tj, show p + j + 2 = p + (j + 2) by omega, dj, dj, List.append_assoc] at eb
    by_cases q : j + 1 < t.length
    · have e2 : t.drop j = t[j] :: t[j + 1] :: t.drop (j + 2) := by rw [List.drop_eq_getElem_cons hj, List.drop_eq_getElem_cons q]
      have cj2 : t[j + 1] < 128 := ht _ (List.getElem_mem q)
      have et : t = t.take j ++ (t[j] :: t[j + 1] :: t.drop (j + 2)) := by rw [← e2, List.take_append_drop]
      have er : ((t.drop j).take 2).reverse ++ t.drop (j + 2) = t[j + 1] :: t[j] :: t.drop (j + 2) := by rw [e2]; rfl
      rw [er] at eb
      have ne : t[j] ≠ t[j + 1] := fun z => hb (by
        rw [eb, ← z]
        conv => lhs; rw [show t[j] :: t[j] :: t.drop (j + 2) = t[j] :: t[j + 1] :: t.drop (j + 2) by rw [← z]]
        rw [← et]; exact whole.symm)
      rw [eb, eL]
      refine L22.other hk ?_ m e
      have := chk_two (h := kc :: TL.numL n) (u := t.take j) (v := t.drop (j + 2)) (c := t[j]) (c' := t[j + 1]) cj cj2 ne
      rwa [← et] at this
    · exfalso
      have q2 : t.drop (j + 1) = [] := List.drop_eq_nil_of_le (by omega)
      have q3 : t.drop (j + 2) = [] := List.drop_eq_nil_of_le (by omega)
      have e2 : t.drop j = [t[j]] := by rw [List.drop_eq_getElem_cons hj, q2]
      refine hb ?_
      rw [eb, e2, q3]
      show (L22 kc n t).take p ++ (t.take j ++ [t[j]]) = _
      rw [q2] at ej
      rw [← ej]; exact whole.symm

/-! ### k22: the law -/
theorem cut4 {ds : List Int} {m : Nat} (h : m + 4 ≤ ds.length) : ∃ x0 x1 x2 x3, cutX ds (some (m : Int)) (some ((m + 4 : Nat) : Int)) = [x0, x1, x2, x3] ∧ ds[m]? = some x0 ∧ ds[m + 1]? = some x1 ∧ x2 ∈ ds ∧ x3 ∈ ds := by
  refine ⟨ds[m], ds[m + 1], ds[m + 2], ds[m + 3], ?_, List.getElem?_eq_getElem _, List.getElem?_eq_getElem _, List.getElem_mem _, List.getElem_mem _⟩
  have h1 : HT.sIx ds.length 0 (some (m : Int)) = min m ds.length := HT.sIx_nat _ _ m
  have h2 : HT.sIx ds.length ds.length (some ((m + 4 : Nat) : Int)) = min (m + 4) ds.length := HT.sIx_nat _ _ (m + 4)
  unfold cutX
  rw [h1, h2, Nat.min_eq_left h, Nat.min_eq_left (show m ≤ ds.length by omega), show m + 4 - m = 4 by omega]
  rw [List.drop_eq_getElem_cons (show m < ds.length by omega), List.drop_eq_getElem_cons (show m + 1 < ds.length by omega), List.drop_eq_getElem_cons (show m + 1 + 1 < ds.length by omega), List.drop_eq_getElem_cons (show m + 1 + 1 + 1 < ds.length by omega)]
  rfl
theorem Rd.asc {kc n : Nat} {l d : List Nat} (h : Rd kc l n d) (ha : Asc l) : Asc d := by
  obtain ⟨_, c, k, e, _⟩ := h
  intro x hx
  refine ha x ?_
  rw [e]
  simp [hx]
theorem none_b : Dat.b (Sum.inl ("none" : Str) : Str ⊕ (Int × Str)) = true := by
  show PyData.strOk ("none" : Str) = true
  kernel_rfl
theorem text_b {n : Int} {d : List Nat} (h : Asc d) : Dat.b (Sum.inr (n, SX.S d) : Str ⊕ (Int × Str)) = true := by
  show (true && PyData.strOk (SX.S d)) = true
  rw [h.ok]; rfl
theorem l4_22 {b : List Nat} (hb : b.length < 1000000) (ha : Asc b) {k : Nat} (hk : k ≠ 32) : m_law_l4 (SX.S b) (SX.S [k]) () = some (.nx ()) := by
  unfold m_law_l4
  rcases told22 hk hb with ⟨n, d, r, e1, e2⟩ | ⟨_, e1, e2⟩
  · have hd := text_b (n := (n : Int)) (r.asc ha)
    exact bnd_of e1 (bnd_of e2 ((if_pos hd).trans ((if_pos hd).trans (if_neg (fun z => z rfl)))))
  · exact bnd_of e1 (bnd_of e2 ((if_pos none_b).trans ((if_pos none_b).trans (if_neg (fun z => z rfl)))))
theorem letter22 (kc n : Nat) (t : List Nat) : ((((((⟨#[kc]⟩ : Str) ++ (strI (n : Int))) ++ (" " : Str)) ++ (strI ((chk 0 ((kc :: TL.numL n) ++ (32 :: t)) % 9973 : Nat) : Int))) ++ (" " : Str)) ++ SX.S t) = SX.S (L22 kc n t) := by
  rw [oneS22, strI_S, strI_S, spS, catS, catS, catS, catS, catS]
  unfold L22
  congr 1
  simp
theorem letter_of22 {kc n : Nat} (hn : n < 100000) {t : List Nat} (hl : t.length < 900000) : m_letter_of (SX.S [kc]) (n : Int) (SX.S t) = some (SX.S (L22 kc n t)) := by
  have h5 := numL5 hn
  have c5 := numL5 (ck_lt ((kc :: TL.numL n) ++ (32 :: t)))
  have C := check_of22 (kc := kc) hn (d := t) (by omega)
  unfold m_letter_of
  rw [C, if_pos (log22 hn)]
  have fit : ∀ a b : List Nat, a.length + b.length < 16000000 → (SX.S a).length + (SX.S b).length < 16000000 := fun a b h => by rw [SX.S_len, SX.S_len]; exact h
  rw [strI_S, spS, catS, catS, if_pos (fit _ _ (by show 1 + _ < _; omega)), if_pos (fit _ _ (by rw [List.length_append]; show 1 + _ + 1 < _; omega))]
  refine bnd_of rfl ((if_pos (log22 (ck_lt _))).trans ?_)
  rw [strI_S, catS, catS, catS, if_pos (fit _ _ (by rw [List.length_append, List.length_append]; show 1 + _ + 1 + _ < _; omega)), if_pos (fit _ _ (by rw [List.length_append, List.length_append, List.length_append]; show 1 + _ + 1 + _ + 1 < _; omega)),
    if_pos (fit _ _ (by rw [List.length_append, List.length_append, List.length_append, List.length_append]; show 1 + _ + 1 + _ + 1 + _ < _; omega))]
  unfold L22
  congr 2
  simp
theorem l3_22 {ds : List Int} (dl : ds.length = 60) (hd : Digs ds) {kc : Nat} (hk : kc ≠ 32) (hk2 : kc < 128) {n : Nat} (hn : n < 100000) {t : List Nat} (ht : Asc t) (tl : t.length ≤ 9000) {a : List Str} {x : Int} (eT : repS (Txt.join ("" : Str) a) (Int.toNat x) = SX.S t) {j : Nat} (hj : j < 4) :
    m_law_l3 ds kc (n : Int) a x ((chk 0 ((kc :: TL.numL n) ++ (32 :: t)) % 9973 : Nat) : Int) (0 + (j : Int)) () = some (.nx ()) := by
  obtain ⟨x0, x1, x2, x3, ec, e0, e1, m2, m3⟩ := cut4 (ds := ds) (m := 41 + 4 * j) (by omega)
  obtain ⟨p, lp, p13, p0, _⟩ := L22.len (kc := kc) (t := t) hn
  have hL : Asc (L22 kc n t) := by
    unfold L22
    have h32 : Asc (32 :: t) := fun c hc => (List.mem_cons.mp hc).elim (fun q => by omega) (ht c)
    have h33 : Asc (kc :: TL.numL n) := fun c hc => (List.mem_cons.mp hc).elim (fun q => by omega) (Asc.num n c)
    exact h33.app (fun c hc => (List.mem_cons.mp hc).elim (fun q => by omega) (((Asc.num _).app h32) c))
  have q0 := hd _ (List.mem_of_getElem? e0)
  have q1 := hd _ (List.mem_of_getElem? e1)
  obtain ⟨b, eb, bl, ba, w0, w3⟩ := bent22 (l := L22 kc n t) (fun z => by rw [z] at lp; simp at lp; omega) (by omega) hL q0.1 q1.1 (hd _ m2).1 (hd _ m3).1 (x0 := x0) (x1 := x1) (x2 := x2) (x3 := x3)
  have k41 : (41 : Int) + 4 * (0 + (j : Int)) = ((41 + 4 * j : Nat) : Int) := by omega
  have k42 : (42 : Int) + 4 * (0 + (j : Int)) = ((41 + 4 * j + 1 : Nat) : Int) := by omega
  have k45 : (45 : Int) + 4 * (0 + (j : Int)) = ((41 + 4 * j + 4 : Nat) : Int) := by omega
  have A0 : atI ds ((41 + 4 * j : Nat) : Int) = some x0 := atI_ok e0
  have A1 : atI ds ((41 + 4 * j + 1 : Nat) : Int) = some x1 := atI_ok e1
  have eb2 : m__law_bent (SX.S (L22 kc n t)) (cutX ds (some ((41 + 4 * j : Nat) : Int)) (some ((41 + 4 * j + 4 : Nat) : Int))) = some (SX.S b) := by rw [ec]; exact eb
  have sL : (SX.S (L22 kc n t)).length < 16000000 := by rw [SX.S_len]; omega
  have sT : (SX.S t).length < 16000000 := by rw [SX.S_len]; omega
  have pL : 0 < ((SX.S (L22 kc n t)).length : Int) := by rw [SX.S_len]; omega
  unfold m_law_l3
  rw [eT, letter22, k41, k42, k45]
  refine bnd_of eb2 ?_
  have loop : forC (m_law_l4 (SX.S b)) ([("q" : Str), ("a" : Str)] : (List Str)) () = some (.nx ()) := by
    have g1 := l4_22 (b := b) (by omega) ba (k := 113) (by decide)
    have g2 := l4_22 (b := b) (by omega) ba (k := 97) (by decide)
    obtain ⟨s, e, _⟩ := forC_inv (f := m_law_l4 (SX.S b)) (xs := ([("q" : Str), ("a" : Str)] : (List Str))) (s := ()) (fun _ _ => True) trivial (by
      rintro i y ⟨⟩ hy _
      have := List.mem_of_getElem? hy
      simp only [List.mem_cons, List.not_mem_nil, or_false] at this
      rcases this with rfl | rfl
      · exact ⟨(), g1, trivial⟩
      · exact ⟨(), g2, trivial⟩)
    exact e
  refine thenC_nx loop ?_
  have hA : ((atI ds ((41 + 4 * j + 1 : Nat) : Int)).bind fun x991 => if (SX.S (L22 kc n t)).length < 16000000 then if 0 < ((SX.S (L22 kc n t)).length : Int) then if (SX.S (L22 kc n t)).length < 16000000 then if (SX.S t).length < 16000000 then
      some (decide ((((SX.S (L22 kc n t)).length : Int) - ((SX.S t).length : Int)) ≤ (x991 % ((SX.S (L22 kc n t)).length : Int)))) else none else none else none else none) = some (decide ((((SX.S (L22 kc n t)).length : Int) - ((SX.S t).length : Int)) ≤ (x1 % ((SX.S (L22 kc n t)).length : Int)))) :=
    bnd_of A1 ((if_pos sL).trans ((if_pos pL).trans ((if_pos sL).trans (if_pos sT))))
  rw [hA]
  obtain ⟨v, ev, hv⟩ : ∃ v, andO (some (decide ((((SX.S (L22 kc n t)).length : Int) - ((SX.S t).length : Int)) ≤ (x1 % ((SX.S (L22 kc n t)).length : Int))))) (some (decide (¬ SX.S b = SX.S (L22 kc n t)))) = some v ∧
      (v = true → (((SX.S (L22 kc n t)).length : Int) - ((SX.S t).length : Int)) ≤ (x1 % ((SX.S (L22 kc n t)).length : Int)) ∧ ¬ SX.S b = SX.S (L22 kc n t)) := by
    by_cases c : (((SX.S (L22 kc n t)).length : Int) - ((SX.S t).length : Int)) ≤ (x1 % ((SX.S (L22 kc n t)).length : Int))
    · rw [decide_eq_true c]
      exact ⟨_, rfl, fun z => ⟨c, of_decide_eq_true z⟩⟩
    · rw [decide_eq_false c]
      exact ⟨false, rfl, fun z => by cases z⟩
  refine bnd_of ev (bnd_of A0 ?_)
  by_cases cw : (x0 % (6 : Int)) ∈ ([(0 : Int), (3 : Int)] : (List Int))
  · refine (if_pos cw).trans ?_
    cases v with
    | false => exact if_neg Bool.false_ne_true
    | true =>
      obtain ⟨h1, h2⟩ := hv rfl
      rw [SX.S_len, SX.S_len] at h1
      have hn0 : 0 ≤ x1 % ((L22 kc n t).length : Int) := Int.emod_nonneg _ (by omega)
      have hlt := Int.emod_lt_of_pos x1 (show (0 : Int) < (L22 kc n t).length by omega)
      have no := bent_no hk hn ht tl (at_ := (x1 % ((L22 kc n t).length : Int)).toNat) (by omega) (by omega) (b := b) (fun z => h2 (by rw [z])) (by
        simp only [List.mem_cons, List.not_mem_nil, or_false] at cw
        rcases cw with z | z
        · exact .inl (w0 z)
        · exact .inr (w3 z))
      refine (if_pos rfl).trans ?_
      rcases told22 hk (l := b) (by omega) with ⟨n', d, r, _⟩ | ⟨_, e1, _⟩
      · exact absurd r (no n' d)
      · exact bnd_of e1 ((if_pos none_b).trans ((if_pos none_b).trans (if_neg (fun z => z rfl))))
  · exact if_neg cw
theorem join0 : ∀ us : List Nat, TL.joinL [] (us.map fun c => [c]) = us
  | [] => rfl
  | [_] => rfl
  | x :: y :: r => by
    show [x] ++ ([] ++ TL.joinL [] ((y :: r).map fun c => [c])) = _
    rw [join0 (y :: r)]; rfl
theorem join22 (us : List Nat) : Txt.join ("" : Str) (us.map fun c => SX.S [c]) = SX.S us := by
  rw [TL.join_eq]
  refine TL.ext_tl ?_
  rw [TL.tl_join, List.map_map]
  exact join0 us
theorem rep_fold {us : List Nat} : ∀ (n : Nat) (acc : Array Nat), (List.replicate n us.toArray).foldl (· ++ ·) acc = (acc.toList ++ (List.replicate n us).flatten).toArray
  | 0, acc => by simp
  | n + 1, acc => by
    rw [List.replicate_succ, List.foldl_cons, rep_fold n]
    simp [List.replicate_succ]
theorem rep22 (us : List Nat) (n : Nat) : repS (SX.S us) n = SX.S (List.replicate n us).flatten := by
  unfold repS
  show (⟨_⟩ : Str) = ⟨_⟩
  congr 1
  refine (rep_fold n #[]).trans ?_
  simp
theorem rep_len (us : List Nat) : ∀ n : Nat, ((List.replicate n us).flatten).length = n * us.length
  | 0 => by simp
  | n + 1 => by rw [List.replicate_succ, List.flatten_cons, List.length_append, rep_len us n, Nat.add_mul]; omega
theorem rep_asc {us : List Nat} (h : Asc us) (n : Nat) : Asc (List.replicate n us).flatten := fun c hc => by
  obtain ⟨l, hl, hc⟩ := List.mem_flatten.mp hc
  rw [List.eq_of_mem_replicate hl] at hc
  exact h c hc
theorem text22 {ds : List Int} (dl : ds.length = 60) (hd : Digs ds) {m : Nat} (hm : m ≤ 30) : ∃ us : List Nat, forS (m_law_l2 ds) (rangeL 0 m) [] = some (us.map fun c => SX.S [c]) ∧ us.length = m ∧ Asc us := by
  obtain ⟨s, e, us, rfl, h1, h2⟩ := forS_inv (f := m_law_l2 ds) (xs := rangeL 0 m) (s := []) (fun i s => ∃ us : List Nat, s = us.map (fun c => SX.S [c]) ∧ us.length = i ∧ Asc us) ⟨[], rfl, rfl, fun c h => by cases h⟩ (by
    rintro i k s hk ⟨us, rfl, h1, h2⟩
    obtain ⟨rfl, hi⟩ := range_mem hk
    obtain ⟨x, ex, hx, _⟩ := dg_at dl hd (10 + (0 + (i : Int))) (by omega) (by omega)
    have r41 : 0 ≤ x % 41 ∧ x % 41 < 41 := ⟨Int.emod_nonneg _ (by decide), Int.emod_lt_of_pos _ (by decide)⟩
    obtain ⟨c, ec, hc⟩ : ∃ c, sg22[(x % 41).toNat]? = some c ∧ c < 128 := by
      have hi : (x % 41).toNat < sg22.length := by show _ < 41; omega
      exact ⟨sg22[(x % 41).toNat], List.getElem?_eq_getElem hi, sg_asc _ (List.getElem_mem hi)⟩
    refine ⟨us.map (fun c => SX.S [c]) ++ [SX.S [c]], ?_, us ++ [c], by rw [List.map_append]; rfl, by rw [List.length_append, h1]; rfl, h2.app (Asc.one hc)⟩
    unfold m_law_l2
    exact bnd_of signs22 (bnd_of ex (bnd_of (atS r41.1 ec) ((if_pos (by rw [SX.S_len]; decide)).trans (snoc_ok (by rw [List.length_map]; omega)))))) 
  rw [range_len] at h1
  exact ⟨us, e, h1, h2⟩
theorem law1 (k : Int) : m_law_l1 k () = some (.nx ()) := by
  obtain ⟨ds, e0, dl, hd⟩ := digits_ok k (n := 60) (by decide)
  have at' : ∀ i : Int, 0 ≤ i → i < 60 → ∃ d, atI ds i = some d ∧ 0 ≤ d ∧ d < 1009 := fun i h0 h1 => dg_at dl hd i h0 (by exact h1)
  obtain ⟨d0, a0, b0⟩ := at' 0 (by decide) (by decide)
  obtain ⟨d1, a1, b1⟩ := at' 1 (by decide) (by decide)
  obtain ⟨d2, a2, b2⟩ := at' 2 (by decide) (by decide)
  obtain ⟨d3, a3, b3⟩ := at' 3 (by decide) (by decide)
  obtain ⟨d9, a9, b9⟩ := at' 9 (by decide) (by decide)
  -- the kind, and the other one
  obtain ⟨kc, kd, c1, c2, hk, hk2, hkd, hne⟩ : ∃ kc kd, atI (Str.cps ("qa" : Str)).toList (d0 % (2 : Int)) = some kc ∧ atI (Str.cps ("aq" : Str)).toList (d0 % (2 : Int)) = some kd ∧ kc ≠ 32 ∧ kc < 128 ∧ kd ≠ 32 ∧ kd ≠ kc := by
    have : d0 % 2 = 0 ∨ d0 % 2 = 1 := by omega
    rcases this with z | z <;> rw [z]
    · exact ⟨113, 97, atI_z (by decide) rfl, atI_z (by decide) rfl, by decide, by decide, by decide, by decide⟩
    · exact ⟨97, 113, atI_z (by decide) rfl, atI_z (by decide) rfl, by decide, by decide, by decide, by decide⟩
  obtain ⟨x, ex, hx0, hx⟩ : ∃ x, atI ([d1 + (1 : Int), (d1 * (99 : Int)) + (1 : Int), (99999 : Int), (1 : Int)] : (List Int)) (d2 % (4 : Int)) = some x ∧ 0 ≤ x ∧ x < 100000 := by
    have : d2 % 4 = 0 ∨ d2 % 4 = 1 ∨ d2 % 4 = 2 ∨ d2 % 4 = 3 := by omega
    rcases this with z | z | z | z <;> rw [z]
    · exact ⟨_, atI_z (by decide) rfl, by omega, by omega⟩
    · exact ⟨_, atI_z (by decide) rfl, by omega, by omega⟩
    · exact ⟨_, atI_z (by decide) rfl, by omega, by omega⟩
    · exact ⟨_, atI_z (by decide) rfl, by omega, by omega⟩
  obtain ⟨n, rfl⟩ : ∃ n : Nat, x = (n : Int) := ⟨x.toNat, by omega⟩
  have hn : n < 100000 := by omega
  have r3 : 0 ≤ d3 % 31 ∧ d3 % 31 < 31 := ⟨Int.emod_nonneg _ (by decide), Int.emod_lt_of_pos _ (by decide)⟩
  obtain ⟨us, eu, lu, au⟩ := text22 dl hd (m := Int.toNat (d3 % 31)) (by omega)
  obtain ⟨y, ey, hy0, hy⟩ : ∃ y, atI ([(1 : Int), (280 : Int)] : (List Int)) (if decide ((d9 % (8 : Int)) = (7 : Int)) = true then (1 : Int) else 0) = some y ∧ 0 ≤ y ∧ y ≤ 280 := by
    by_cases z : d9 % 8 = 7
    · rw [if_pos (decide_eq_true z)]; exact ⟨280, atI_z (by decide) rfl, by decide, by decide⟩
    · rw [if_neg (by rw [decide_eq_false z]; exact Bool.false_ne_true)]; exact ⟨1, atI_z (by decide) rfl, by decide, by decide⟩
  have sum1 : ((us.map fun c => SX.S [c]).map (·.length)).sum + (us.map fun c => SX.S [c]).length * ("" : Str).length ≤ 16777216 := by
    have z : ("" : Str).length = 0 := by kernel_rfl
    have w : ∀ l : List Nat, ((l.map fun c => SX.S [c]).map (·.length)).sum = l.length := fun l => by
      induction l with
      | nil => rfl
      | cons a r ih => rw [List.map_cons, List.map_cons, List.sum_cons, ih, List.length_cons]; show 1 + _ = _; omega
    rw [w, z]
    omega
  have eT : repS (Txt.join ("" : Str) (us.map fun c => SX.S [c])) (Int.toNat y) = SX.S (List.replicate (Int.toNat y) us).flatten := by rw [join22, rep22]
  have ht := rep_asc au (Int.toNat y)
  have tl : ((List.replicate (Int.toNat y) us).flatten).length ≤ 9000 := by
    rw [rep_len]
    have : Int.toNat y * us.length ≤ 280 * 30 := Nat.mul_le_mul (by omega) (by omega)
    omega
  have lJ : (Txt.join ("" : Str) (us.map fun c => SX.S [c])).length * Int.toNat y ≤ 16000000 := by
    rw [join22, SX.S_len]
    have : us.length * Int.toNat y ≤ 30 * 280 := Nat.mul_le_mul (by omega) (by omega)
    omega
  generalize (List.replicate (Int.toNat y) us).flatten = t at eT ht tl
  have h5 := numL5 hn
  have c5 := numL5 (ck_lt ((kc :: TL.numL n) ++ (32 :: t)))
  have fit : ∀ a b : List Nat, a.length + b.length < 16000000 → (SX.S a).length + (SX.S b).length < 16000000 := fun a b h => by rw [SX.S_len, SX.S_len]; exact h
  have f1 : (⟨#[kc]⟩ : Str).length + (strI (n : Int)).length < 16000000 := by rw [oneS22, strI_S]; exact fit _ _ (by show 1 + _ < _; omega)
  have f2 : ((⟨#[kc]⟩ : Str) ++ (strI (n : Int))).length + (" " : Str).length < 16000000 := by rw [oneS22, strI_S, spS, catS]; exact fit _ _ (by rw [List.length_append]; show 1 + _ + 1 < _; omega)
  have ch : m__law_check ((⟨#[kc]⟩ : Str) ++ (strI (n : Int))) (SX.S t) = some ((chk 0 ((kc :: TL.numL n) ++ (32 :: t)) % 9973 : Nat) : Int) := by
    rw [oneS22, strI_S, catS]
    exact law_check22 (h := kc :: TL.numL n) (by rw [List.length_cons]; omega) (by omega)
  have f3 : (((⟨#[kc]⟩ : Str) ++ (strI (n : Int))) ++ (" " : Str)).length + (strI ((chk 0 ((kc :: TL.numL n) ++ (32 :: t)) % 9973 : Nat) : Int)).length < 16000000 := by
    rw [oneS22, strI_S, strI_S, spS, catS, catS]; exact fit _ _ (by rw [List.length_append, List.length_append]; show 1 + _ + 1 + _ < _; omega)
  have f4 : ((((⟨#[kc]⟩ : Str) ++ (strI (n : Int))) ++ (" " : Str)) ++ (strI ((chk 0 ((kc :: TL.numL n) ++ (32 :: t)) % 9973 : Nat) : Int))).length + (" " : Str).length < 16000000 := by
    rw [oneS22, strI_S, strI_S, spS, catS, catS, catS]; exact fit _ _ (by rw [List.length_append, List.length_append, List.length_append]; show 1 + _ + 1 + _ + 1 < _; omega)
  have f5 : (((((⟨#[kc]⟩ : Str) ++ (strI (n : Int))) ++ (" " : Str)) ++ (strI ((chk 0 ((kc :: TL.numL n) ++ (32 :: t)) % 9973 : Nat) : Int))) ++ (" " : Str)).length + (SX.S t).length < 16000000 := by
    rw [oneS22, strI_S, strI_S, spS, catS, catS, catS, catS]; exact fit _ _ (by rw [List.length_append, List.length_append, List.length_append, List.length_append]; show 1 + _ + 1 + _ + 1 + _ < _; omega)
  have lo := letter_of22 (kc := kc) hn (t := t) (by omega)
  obtain ⟨p, lp, p13, p0, _⟩ := L22.len (kc := kc) (t := t) hn
  have t1 : m__law_told (SX.S [kc]) (SX.S (L22 kc n t)) = some (.inr ((n : Int), SX.S t)) := by
    rcases told22 hk (l := L22 kc n t) (by omega) with ⟨m, d, r, e1, _⟩ | ⟨no, _⟩
    · obtain ⟨_, g2, g3⟩ := L22.rd_eq hk hk r
      rw [e1, g2, g3]
    · exact absurd (L22.rd hn) (no n t)
  have t2 : m__law_told (SX.S [kd]) (SX.S (L22 kc n t)) = some (.inl ("none" : Str)) := by
    rcases told22 hkd (l := L22 kc n t) (by omega) with ⟨m, d, r, _⟩ | ⟨_, e1, _⟩
    · exact absurd (L22.rd_eq hk hkd r).1 hne
    · exact e1
  have tb := text_b (n := (n : Int)) ht
  have loop : forC (m_law_l3 ds kc (n : Int) (us.map fun c => SX.S [c]) y ((chk 0 ((kc :: TL.numL n) ++ (32 :: t)) % 9973 : Nat) : Int)) (rangeL 0 (Int.toNat (4 : Int))) () = some (.nx ()) := by
    obtain ⟨s, e, _⟩ := forC_inv (f := m_law_l3 ds kc (n : Int) (us.map fun c => SX.S [c]) y ((chk 0 ((kc :: TL.numL n) ++ (32 :: t)) % 9973 : Nat) : Int)) (xs := rangeL 0 (Int.toNat (4 : Int))) (s := ()) (fun _ _ => True) trivial (by
      rintro i z ⟨⟩ hz _
      obtain ⟨rfl, hi⟩ := range_mem hz
      exact ⟨(), l3_22 dl hd hk hk2 hn ht tl eT hi, trivial⟩)
    exact e
  unfold m_law_l1
  refine bnd_of e0 (bnd_of a0 (bnd_of c1 ((if_pos (by decide +kernel)).trans (bnd_of a1 (bnd_of a1 (bnd_of a2 (bnd_of ex (bnd_of a3 ((if_pos ⟨by omega, by omega⟩).trans (bnd_of eu ((if_pos sum1).trans (bnd_of a9 (bnd_of ey ((if_pos ⟨⟨hy0, by omega⟩, lJ⟩).trans ?_))))))))))))))
  rw [eT]
  refine (if_pos (log22 hn)).trans ((if_pos f1).trans ((if_pos f2).trans ((if_pos (log22 hn)).trans ((if_pos f1).trans (bnd_of ch ((if_pos (log22 (ck_lt _))).trans ((if_pos f3).trans ((if_pos f4).trans ((if_pos f5).trans (bnd_of lo ?_))))))))))
  rw [letter22]
  refine (if_neg (fun z => z rfl)).trans (bnd_of t1 ((if_pos tb).trans ((if_pos tb).trans ((if_neg (fun z => z rfl)).trans (bnd_of a0 (bnd_of c2 ((if_pos (by decide +kernel)).trans (bnd_of t2 ((if_pos none_b).trans ((if_pos none_b).trans ((if_neg (fun z => z rfl)).trans (thenC_nx loop rfl))))))))))))
theorem law_true (ns : List Int) (hl : ns.length ≤ 63) : m_law ns = some true := by
  unfold m_law
  obtain ⟨xs, e⟩ : ∃ xs, (if ((cutX ns none (some (8 : Int))) = ([] : List Int)) then some ([(4 : Int), (19 : Int), (300 : Int)] : (List Int)) else some (cutX ns none (some (8 : Int)))) = some xs := by
    split
    · exact ⟨_, rfl⟩
    · exact ⟨_, rfl⟩
  obtain ⟨s, e2, _⟩ := forC_inv (f := m_law_l1) (xs := xs) (s := ()) (fun _ _ => True) trivial (by
    rintro i z ⟨⟩ hz _
    exact ⟨(), law1 z, trivial⟩)
  exact bnd_of e (thenC_nx e2 rfl)

theorem txt_of {K : PySem.W.Frag} {h : Heap} {mg : Str → Option Value} (X : K.In h) (G : h.Ns mainGlobals mg) (c : SaysM fa fn ex K) : Txt K mg := by
  constructor
  case g_BoardError => exact He.glo_ok X G (c.d.fact 0 (f := .glo "BoardError"))
  case g_NoLetter => exact He.glo_ok X G (c.d.fact 1 (f := .glo "NoLetter"))
  case c_FIGURES => exact He.str_ok X G (c.d.fact 2 (f := .str "FIGURES" "0123456789"))
  case g_number_in => exact He.glo_ok X G (c.d.fact 3 (f := .glo "number_in"))
  case c_MODULUS => exact He.int_ok X G (c.d.fact 4 (f := .int "MODULUS" 9973))
  case g_check_of => exact He.glo_ok X G (c.d.fact 5 (f := .glo "check_of"))
  case g_letter_of => exact He.glo_ok X G (c.d.fact 6 (f := .glo "letter_of"))
  case g_opened => exact He.glo_ok X G (c.d.fact 7 (f := .glo "opened"))
  case g__law_cell => exact He.glo_ok X G (c.d.fact 8 (f := .glo "_law_cell"))
  case g__law_digits => exact He.glo_ok X G (c.d.fact 9 (f := .glo "_law_digits"))
  case g__law_signs => exact He.glo_ok X G (c.d.fact 10 (f := .glo "_law_signs"))
  case g__law_check => exact He.glo_ok X G (c.d.fact 11 (f := .glo "_law_check"))
  case g__law_number => exact He.glo_ok X G (c.d.fact 12 (f := .glo "_law_number"))
  case g__law_due => exact He.glo_ok X G (c.d.fact 13 (f := .glo "_law_due"))
  case g__law_told => exact He.glo_ok X G (c.d.fact 14 (f := .glo "_law_told"))
  case g__law_bent => exact He.glo_ok X G (c.d.fact 15 (f := .glo "_law_bent"))
  case g_law => exact He.glo_ok X G (c.d.fact 16 (f := .glo "law"))
  case f_all => exact He.free_ok X G (c.d.fact 17 (f := .free "all"))
  case f_enumerate => exact He.free_ok X G (c.d.fact 18 (f := .free "enumerate"))
  case f_int => exact He.free_ok X G (c.d.fact 19 (f := .free "int"))
  case f_isinstance => exact He.free_ok X G (c.d.fact 20 (f := .free "isinstance"))
  case f_len => exact He.free_ok X G (c.d.fact 21 (f := .free "len"))
  case f_ord => exact He.free_ok X G (c.d.fact 22 (f := .free "ord"))
  case f_range => exact He.free_ok X G (c.d.fact 23 (f := .free "range"))
  case f_str => exact He.free_ok X G (c.d.fact 24 (f := .free "str"))
  case x_BoardError => exact He.exc_ok (c.d.fact 25 (f := .exc "BoardError"))
  case xm_BoardError_BoardError => exact He.exm_ok (c.d.fact 26 (f := .exm "BoardError" "BoardError" true))
  case xm_BoardError_NoLetter => exact He.exm_ok (c.d.fact 27 (f := .exm "BoardError" "NoLetter" false))
  case x_NoLetter => exact He.exc_ok (c.d.fact 28 (f := .exc "NoLetter"))
  case xm_NoLetter_BoardError => exact He.exm_ok (c.d.fact 29 (f := .exm "NoLetter" "BoardError" true))
  case xm_NoLetter_NoLetter => exact He.exm_ok (c.d.fact 30 (f := .exm "NoLetter" "NoLetter" true))
  case xi_NoLetter => exact excB_ok ((He.ba c.more).1)
  case kt_NoLetter_NoLetter => exact of_decide_eq_true ((He.ba c.more).2)
  case d_number_in => exact c.d.def_ 0
  case d_check_of => exact c.d.def_ 1
  case d_letter_of => exact c.d.def_ 2
  case d_opened => exact c.d.def_ 3
  case d__law_cell => exact c.d.def_ 4
  case d__law_digits => exact c.d.def_ 5
  case d__law_signs => exact c.d.def_ 6
  case d__law_check => exact c.d.def_ 7
  case d__law_number => exact c.d.def_ 8
  case d__law_due => exact c.d.def_ 9
  case d__law_told => exact c.d.def_ 10
  case d__law_bent => exact c.d.def_ 11
  case d_law => exact c.d.def_ 12

theorem law_ok {P : Program} {w : World} {K : PySem.W.Frag} {h : Heap} {mg : Str → Option Value} {f : Addr} (X : K.In h) (G : h.Ns mainGlobals mg) (hfa : mg ("law" : Str) = some (.ref f)) (c : SaysM fa fn ex K) :
    ∃ fd : FuncData, (∀ (s : Shared) (v : Value), BindsTo s fd ⟨[v], []⟩ [("_law_script", v)]) ∧ ∀ base : Heap, K.In base → base.Ns mainGlobals mg → FnOk P w K mg base CX0 4 f fd ["_law_script"] (sp_law K) := by
  have T := txt_of X G c
  have e := hfa.symm.trans T.g_law
  obtain ⟨fd, F⟩ := T.d_law
  have ef : f = He.fAd K ("law", none) := by cases e; rfl
  subst ef
  have b := FunD.bindsA (ps := ["_law_script"]) F fun _ _ _ _ _ _ us hl => match us, hl with | [_], _ => rfl
  exact ⟨fd, fun s v => b s [v] rfl, fun base _ _ => okF_law T F⟩
end Q
open PySem PySem.W PySem.Calls PyProof.Rows
theorem PySem.Challenge.cw_boardheld_k22_letters_holds : PySem.Challenge.rw_boardheld_k22_letters.Holds := by
  w_on
  o_law
  refine HandSHeadRun.head_any (r := OpenLaw.row PySem.Challenge.rw_boardheld_k22_letters) (q := view (OpenLaw.row PySem.Challenge.rw_boardheld_k22_letters).prog [20]) (H := Q.hk) (ob := Q.ob) (M := 3000) (loose := Q.loose) (d := HandSHeadRun.topDef (OpenLaw.row PySem.Challenge.rw_boardheld_k22_letters).prog 20) (kwd := []) Q.ob_eq
    (by kernel_rfl) (fun s => by kernel_rfl) Q.run (by kernel_rfl) (by kernel_rfl) (by kernel_rfl) (by rfl) (by first | assumption | decide +kernel) (by decide +kernel) ⟨rfl, rfl, rfl, rfl, rfl, by decide +kernel⟩ ?hw ?hc
  case hw => w_witness2
  case hc =>
    refine L2.walk_ofE (l := PySem.Challenge.rw_boardheld_k22_letters) (n := 63) (k := 4) (x := "_law_script") (CX := L2.CX0) rfl (by decide) (by kernel_rfl) ⟨rfl, by decide, by decide⟩ ?F (fun _ _ _ _ z => z)
    intro w mg fa h Y G hmg0
    obtain ⟨K, KX, c⟩ := Y
    have hmg : mg ("law" : PySem.Str) = some (.ref fa) := by
      have e : (HandSHeadRun.topDef (OpenLaw.row PySem.Challenge.rw_boardheld_k22_letters).prog 20).name = ("law" : PySem.Str) := by kernel_rfl
      rw [← e]
      exact hmg0
    obtain ⟨fd, hb, hF⟩ := Q.law_ok (P := (PySem.Challenge.rw_boardheld_k22_letters).prog) (w := w) KX G hmg c
    exact ⟨K, fd, Q.sp_law K, KX, hb, fun H a ns hl _ hS => ⟨a, ns, true, rfl, hS, trivial, List.nodup_nil, (by first | exact Q.law_true ns | exact Q.law_true ns hl), fun _ _ => rfl⟩, hF⟩

