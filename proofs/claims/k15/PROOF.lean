import PyProof.Rows.All
import Wide.All
import OpenK.AllK
import Wide.FinOn
import KE.KStateDown
import Lean
import HandS.ForMost
import HandS.ForExc
import HandS.More
import HandS.Strs
import HandS.Text
import HandS.TryOnly
import PyProof.P3Eq
import HandS.IsInst
import HandS.Style
import HandS.Flow
import HandS.Zip
import HandS.Codes
import HandS.SetFor
import HandS.Wide
import HandS.Conv
import HandS.Defaults
import HandS.Head0
import HandS.Head1
import HandS.Head2
import HandS.HeadEnd
import HandS.HeadHook1
import HandS.HeadHook2
import KE.KDictSum
import KE.KItemsList
import HandS.SortInts
import PyProof.Rows.SortShellAny
import HandS.SortRule
import HandS.DictTup
import HandS.ListItems
import HandS.ExcValue
import HandS.ExcIs
import HandS.ExcInit
import HandS.ExcField
import KE.KExcIs
import KE.KIsAll
import PySem.Challenge.RW_boardheld_k15_the_line
set_option Elab.async false
set_option linter.all false
set_option maxRecDepth 100000
set_option maxHeartbeats 0
namespace Q
open PySem PySem.Spec PyProof.Rows L2

/-! ### a Hook: facts, defs, one more Bool -/
def obsM (fa : List He.Fa) (fn : List He.DefD) (ex : PySem.W.Frag → Bool) (K : PySem.W.Frag) : He.AlD × Bool := (He.obsD fa fn K, ex K)
def asM (g : Addr → Option Obj) (n : Nat) : List Addr := He.asD g n ++ [PySem.cStatics]
def obsMG (n : Nat) (fa : List He.Fa) (fn : List He.DefD) (ex : PySem.W.Frag → Bool) (g : Addr → Option Obj) : He.AlD × Bool := obsM fa fn ex (He.frG g (asM g n))
def SaysM (fa : List He.Fa) (fn : List He.DefD) (ex : PySem.W.Frag → Bool) (K : PySem.W.Frag) : Prop := obsM fa fn ex K = (He.valD fn, true)
def hookM (n : Nat) (fa : List He.Fa) (fn : List He.DefD) (ex : PySem.W.Frag → Bool) : PySem.W.Hook where
  α := He.AlD × Bool
  obs := fun s => obsMG n fa fn ex s.heap.get?
  val := fun _ => (He.valD fn, true)
  says := fun _ h => ∃ K : PySem.W.Frag, K.In h ∧ SaysM fa fn ex K
  of := fun _ _ e => ⟨_, He.frG_in, e⟩
  keeps := fun _ _ _ ⟨K, hK, c⟩ k => ⟨K, PySem.W.Frag.In.keeps hK k, c⟩
theorem obsMG_eq {n : Nat} {fa : List He.Fa} {fn : List He.DefD} {ex : PySem.W.Frag → Bool} {g : Addr → Option Obj} {s : Shared} (h : ∀ a, g a = s.heap.get? a) : obsMG n fa fn ex g = (hookM n fa fn ex).obs s := by
  have e : g = s.heap.get? := funext h
  rw [e] <;> rfl
theorem SaysM.d {fa : List He.Fa} {fn : List He.DefD} {ex : PySem.W.Frag → Bool} {K : PySem.W.Frag} (c : SaysM fa fn ex K) : He.SaysD fa fn K := congrArg (fun z : He.AlD × Bool => z.1) c
theorem SaysM.more {fa : List He.Fa} {fn : List He.DefD} {ex : PySem.W.Frag → Bool} {K : PySem.W.Frag} (c : SaysM fa fn ex K) : ex K = true := congrArg (fun z : He.AlD × Bool => z.2) c
abbrev FnP (K : PySem.W.Frag) (x q : Str) (st : Stmt) (f : Addr) (fd : FuncData) : Prop := FunD K x q (defArgs st) (defBody st) (defScope st) [] [] f fd


/-! ### heaps: what is kept, what is owned (Kp S S': all but S is kept; S' is S and new places) -/
structure Kp (S S' : List Addr) (H H' : Hp) : Prop where
  kept : ∀ b o, H b = some o → b ∉ S → H' b = some o
  own : ∀ b, b ∈ S' → b ∈ S ∨ H b = none
  tups : ∀ b xs, H b = some (.tup xs) → H' b = some (.tup xs)
theorem Kp.refl (S : List Addr) (H : Hp) : Kp S S H H := ⟨fun _ _ h _ => h, fun _ h => .inl h, fun _ _ h => h⟩
theorem Kp.trans {S S1 S2 : List Addr} {H H1 H2 : Hp} (a : Kp S S1 H H1) (b : Kp S1 S2 H1 H2) : Kp S S2 H H2 := by
  refine ⟨fun c o h n => b.kept c o (a.kept c o h n) fun m => ?_, fun c m => ?_, fun c xs h => b.tups c xs (a.tups c xs h)⟩
  · rcases a.own c m with z | z
    · exact n z
    · rw [z] at h; cases h
  · rcases b.own c m with z | z
    · exact a.own c z
    · by_cases hc : c ∈ S
      · exact .inl hc
      · right
        cases q : H c with
        | none => rfl
        | some o => rw [a.kept c o q hc] at z; cases z
theorem Kp.sub {S S1 S2 : List Addr} {H H' : Hp} (a : Kp S S1 H H') (h : ∀ b, b ∈ S2 → b ∈ S1) : Kp S S2 H H' := ⟨a.kept, fun b m => a.own b (h b m), a.tups⟩
theorem Kp.more {S S' T : List Addr} {H H' : Hp} (a : Kp S S' H H') (h : ∀ b, b ∈ S → b ∈ T) : Kp T S' H H' :=
  ⟨fun b o e n => a.kept b o e fun m => n (h b m), fun b m => (a.own b m).imp (h b) id, a.tups⟩
def notTup : HO → Prop
  | .tup _ => False
  | _ => True
theorem Kp.upd {S : List Addr} {H : Hp} {a : Addr} {o o' : HO} (h : H a = some o) (hn : notTup o) (m : a ∈ S) : Kp S S H (upd H a o') :=
  ⟨fun b u e n => by rw [upd_ne (fun z => n (by rw [z]; exact m))]; exact e, fun _ z => .inl z, fun b xs e => by
    rw [upd_ne]; exact e
    rintro rfl; rw [e] at h; cases h; exact hn⟩
theorem Kp.new {S : List Addr} {H : Hp} {a : Addr} {o : HO} (h : H a = none) : Kp S S H (L2.upd H a o) :=
  ⟨fun b u e _ => by rw [upd_ne (ne_of_none e h)]; exact e, fun _ z => .inl z, fun b xs e => by rw [upd_ne (ne_of_none e h)]; exact e⟩
theorem Kp.newIn {S : List Addr} {H : Hp} {a : Addr} {o : HO} (h : H a = none) : Kp S (a :: S) H (L2.upd H a o) :=
  ⟨(Kp.new (S := S) h).kept, fun b m => by
    rcases List.mem_cons.mp m with z | z
    · rw [z]; exact .inr h
    · exact .inl z, (Kp.new (S := S) h).tups⟩
/-- nothing owned: all is kept -/
theorem Kp.same {S : List Addr} {H H' : Hp} (a : Kp [] S H H') : Same H H' := fun b o e => a.kept b o e (by simp)
theorem Kp.ofSame {H H' : Hp} (a : Same H H') : Kp [] [] H H' := ⟨fun b o e _ => a b o e, fun _ m => .inl m, fun b xs e => a b _ e⟩
theorem Kp.free {S S' : List Addr} {H H' : Hp} (a : Kp S S' H H') {l : Addr} (h : H' l = none) (n : l ∉ S) : H l = none := by
  cases q : H l with
  | none => rfl
  | some o => rw [a.kept l o q n] at h; cases h
theorem Kp.seq {K : PySem.W.Frag} {S S' : List Addr} {H H' : Hp} {a : Addr} {xs : List V} (k : Kp S S' H H') (n : a ∉ S) (h : SqL K H a xs) : SqL K H' a xs := by
  rcases h with (h | ⟨o, h⟩) | h
  · exact .inl (.inl (k.kept _ _ h n))
  · exact .inl (.inr ⟨o, k.kept _ _ h n⟩)
  · exact .inr h
/-- tuples at the addresses of a list of values -/
abbrev Tups (H : Hp) (vs : List V) (xss : List (List V)) : Prop := Paired (fun v xs => ∃ t, v = V.ref t ∧ H t = some (.tup xs)) vs xss
theorem Tups.mono {H H' : Hp} (k : ∀ b xs, H b = some (.tup xs) → H' b = some (.tup xs)) : ∀ {vs : List V} {xss : List (List V)}, Tups H vs xss → Tups H' vs xss
  | _, _, .nil => .nil
  | _, _, .cons ⟨t, e, h⟩ r => .cons ⟨t, e, k _ _ h⟩ (Tups.mono k r)
theorem paired_snoc {α β : Type} {F : α → β → Prop} {x : α} {y : β} (h : F x y) : ∀ {xs : List α} {ys : List β}, Paired F xs ys → Paired F (xs ++ [x]) (ys ++ [y])
  | _, _, .nil => .cons h .nil
  | _, _, .cons r t => .cons r (paired_snoc h t)
/-! ### small rules -/
section
variable {X : Cx}
theorem gi_ {x : Str} {i : Int} {pos : Pos} (hg : Gl X x) (hm : ∃ t, X.mg x = some (.int i t)) (hd : (x == ("__debug__" : Str)) = false := by decide) : PE X (.Name x pos) (tC (.int i)) := by
  obtain ⟨t, h⟩ := hm
  exact pe_glob hg h ⟨t, rfl⟩ hd
theorem gr_ {x : Str} {a : Addr} {pos : Pos} (hg : Gl X x) (hm : X.mg x = some (.ref a)) (hd : (x == ("__debug__" : Str)) = false := by decide) : PE X (.Name x pos) (tC (.ref a)) := pe_glob hg hm rfl hd
theorem gs_ {x z : Str} {pos : Pos} (hg : Gl X x) (hm : ∃ t, X.mg x = some (.str z t)) (hd : (x == ("__debug__" : Str)) = false := by decide) : PE X (.Name x pos) (tC (.str z)) := by
  obtain ⟨t, h⟩ := hm
  exact pe_glob hg h ⟨t, rfl⟩ hd
end
/-- a def's promise kept, how it binds, that it stays -/
def Ok (P : Program) (w : World) (K : PySem.W.Frag) (mg : Str → Option Value) (base : Heap) (CX : CXT) (k : Nat) (f : Addr) (ps : List Str) (sp : Sp) : Prop :=
  ∃ fd, FnOk P w K mg base CX k f fd ps sp ∧ Binds K fd ps [] ∧ PySem.W.keepIn K (.ref f) = true
theorem small_ {n : Nat} (h : n ≤ 16777215) : n < sizeLine := Nat.lt_of_le_of_lt h (by decide)
theorem small_le {n : Nat} (h : n ≤ 16777216) : n ≤ sizeLine := Nat.le_trans h (by decide)
theorem at_i {xs : List Int} {i : Int} {n : Int} (h0 : 0 ≤ i) (h : xs[i.toNat]? = some n) : atI (xs.map V.int) i = some (.int n) := by
  have e : i = ((i.toNat : Nat) : Int) := by omega
  rw [e]
  refine atI_nat ?_
  rw [List.getElem?_map]
  have e2 : ((i.toNat : Nat) : Int).toNat = i.toNat := by omega
  rw [h] <;> rfl
/-! ### tests whose answer is open -/
section
variable {A B : Prop}
theorem iteD {p : Prop} [Decidable p] (h1 : p → A) (h2 : ¬ p → B) : if decide p = true then A else B := ite2 (fun h => h1 (of_decide_eq_true h)) (fun h => h2 fun z => h (decide_eq_true z))
theorem iteN {p : Prop} [Decidable p] (h1 : ¬ p → A) (h2 : p → B) : if (!decide p) = true then A else B := by
  by_cases h : p
  · rw [decide_eq_true h]; exact h2 h
  · rw [decide_eq_false h]; exact h1 h
theorem iteI {a b : Int} (h1 : a = b → A) (h2 : a ≠ b → B) : if decide (V.int a = V.int b) = true then A else B := iteD (fun h => h1 (V.int.inj h)) (fun h => h2 fun z => h (congrArg V.int z))
theorem iteIN {a b : Int} (h1 : a ≠ b → A) (h2 : a = b → B) : if (!decide (V.int a = V.int b)) = true then A else B := iteN (fun h => h1 fun z => h (congrArg V.int z)) (fun h => h2 (V.int.inj h))
theorem iteBo {b : Bool} (h1 : b = true → A) (h2 : b = false → B) : if b = true then A else B := by
  cases b with
  | true => exact h1 rfl
  | false => exact h2 rfl
theorem iteBs {b c : Bool} (e : b = c) (h : if c = true then A else B) : if b = true then A else B := by rw [e]; exact h
end
/-! ### data read deep -/
section
variable {K : PySem.W.Frag} {H : Hp}
theorem dpInts : ∀ xs : List Int, DpAll K H (xs.map V.int) (xs.map PyData.int)
  | [] => .nil
  | x :: r => .cons (.int x) (dpInts r)
theorem dpL {a : Addr} {xs : List Int} (h : SqL K H a (xs.map V.int)) : Dp K H (.ref a) (.list (xs.map PyData.int)) := .lst h (dpInts xs)
theorem lay_all {ds : List PyData} (h : ∀ d ∈ ds, d.canLay0 = true) : PyData.canLayAll0 ds = true := by
  induction ds with
  | nil => simp only [PyData.canLayAll0]
  | cons d r ih => simp only [PyData.canLayAll0, h d (by simp), ih fun e he => h e (by simp [he]), Bool.and_self]
theorem lay_ints (xs : List Int) : PyData.canLay0 (.list (xs.map PyData.int)) = true := by
  simp only [PyData.canLay0]
  refine lay_all fun d hd => ?_
  obtain ⟨x, _, rfl⟩ := List.mem_map.mp hd
  simp only [PyData.canLay0]
theorem shp {d : PyData} (h1 : d.canLay0 = true) (h2 : d.depth ≤ 64) : SeqAt.shaped d = true := by
  unfold SeqAt.shaped
  rw [h1, decide_eq_true h2]; rfl
theorem depth_all {ds : List PyData} {n : Nat} (h : ∀ d ∈ ds, d.depth ≤ n) : PyData.depthAll ds ≤ n := by
  induction ds with
  | nil => simp only [PyData.depthAll]; exact Nat.zero_le _
  | cons d r ih =>
    simp only [PyData.depthAll]
    exact Nat.max_le.mpr ⟨h d (by simp), ih fun e he => h e (by simp [he])⟩
theorem shp_ints (xs : List Int) : SeqAt.shaped (.list (xs.map PyData.int)) = true := by
  refine shp (lay_ints xs) ?_
  simp only [PyData.depth]
  have : PyData.depthAll (xs.map PyData.int) ≤ 0 := depth_all fun d hd => by
    obtain ⟨x, _, rfl⟩ := List.mem_map.mp hd
    simp only [PyData.depth]; exact Nat.le_refl _
  omega
theorem eqv_ints : ∀ xs ys : List Int, PyData.eqvAll (xs.map PyData.int) (ys.map PyData.int) = decide (xs = ys)
  | [], [] => by simp [PyData.eqvAll]
  | [], _ :: _ => by simp [PyData.eqvAll]
  | _ :: _, [] => by simp [PyData.eqvAll]
  | x :: r, y :: q => by
    simp only [List.map_cons, PyData.eqvAll, PyData.eqv, eqv_ints r q]
    by_cases h : x = y <;> by_cases h2 : r = q <;> simp [h, h2]
theorem eqv_intL (xs ys : List Int) : PyData.eqv (.list (xs.map PyData.int)) (.list (ys.map PyData.int)) = decide (xs = ys) := by
  rw [PyData.eqv]; exact eqv_ints xs ys
end

/-! ### the text by places -/
def top (i : Nat) : Stmt := PySem.Challenge.pw_boardheld_k15_the_line.main.body.getD i (.Pass ⟨0, 0, 0, 0⟩)
abbrev s__wall : Stmt := top 0
abbrev s_Memory_init : Stmt := inClass (top 14) 0
abbrev s_Memory_word_at : Stmt := inClass (top 14) 1
abbrev s_Memory_bar_to : Stmt := inClass (top 14) 2
abbrev s_Memory_put : Stmt := inClass (top 14) 3
abbrev s_Memory_turn_bit : Stmt := inClass (top 14) 4
abbrev s_Memory_raise_flag : Stmt := inClass (top 14) 5
abbrev s_Memory_place : Stmt := inClass (top 14) 6
abbrev s_Memory_set_place : Stmt := inClass (top 14) 7
abbrev s_Memory_twin : Stmt := inClass (top 14) 8
abbrev s_is_word : Stmt := top 19
abbrev s_name_of : Stmt := top 20
abbrev s_part_of : Stmt := top 21
abbrev s_is_line : Stmt := top 26
abbrev s_Board_init : Stmt := inClass (top 27) 0
abbrev s_Board_twin : Stmt := inClass (top 27) 1
abbrev s_Board_pass_beats : Stmt := inClass (top 27) 2
abbrev s_Board_line_comes : Stmt := inClass (top 27) 3
abbrev s_Board_timer_goes : Stmt := inClass (top 27) 4
abbrev s_Board_pending : Stmt := inClass (top 27) 5
abbrev s_Board_turn : Stmt := inClass (top 27) 6
abbrev s_Board_stop : Stmt := inClass (top 27) 7
abbrev s_Board_interrupt : Stmt := inClass (top 27) 8
abbrev s_Board_store : Stmt := inClass (top 27) 9
abbrev s_Board_fetch : Stmt := inClass (top 27) 10
abbrev s_Board_addresses : Stmt := inClass (top 27) 11
abbrev s_Board_bar_of : Stmt := inClass (top 27) 12
abbrev s_Board_deed : Stmt := inClass (top 27) 13
abbrev s_Board_do : Stmt := inClass (top 27) 14
abbrev s_Board_do_putting : Stmt := inClass (top 27) 15
abbrev s_Board_do_returning : Stmt := inClass (top 27) 16
abbrev s_Board_do_reckoning : Stmt := inClass (top 27) 17
abbrev s__law_cell : Stmt := top 29
abbrev s__law_digits : Stmt := top 30
abbrev s__law_drawn : Stmt := top 31
abbrev s__law_beat : Stmt := top 32
abbrev s__law_step : Stmt := top 33
abbrev s_law : Stmt := top 34
/-! ### what the top has written -/
structure Txt (K : PySem.W.Frag) (mg : Str → Option Value) : Prop where
  g__wall : mg "_wall" = some (.ref (He.ga K "_wall"))
  g_BoardError : mg "BoardError" = some (.ref (He.ga K "BoardError"))
  g_NoImage : mg "NoImage" = some (.ref (He.ga K "NoImage"))
  c_FLASH : ∃ t, mg "FLASH" = some (.int 512 t)
  c_RAM : ∃ t, mg "RAM" = some (.int 768 t)
  c_COUNT : ∃ t, mg "COUNT" = some (.int 768 t)
  c_TOP : ∃ t, mg "TOP" = some (.int 769 t)
  c_FLAGS : ∃ t, mg "FLAGS" = some (.int 770 t)
  c_MASK : ∃ t, mg "MASK" = some (.int 771 t)
  c_LINE_IN : ∃ t, mg "LINE_IN" = some (.int 772 t)
  c_LINE_OUT : ∃ t, mg "LINE_OUT" = some (.int 773 t)
  c_ERASED : ∃ t, mg "ERASED" = some (.int 65535 t)
  g_Memory : mg "Memory" = some (.ref (He.ga K "Memory"))
  g_NAMES : mg "NAMES" = some (.ref (He.ga K "NAMES"))
  g_READING : mg "READING" = some (.ref (He.ga K "READING"))
  c_MOST : ∃ t, mg "MOST" = some (.int 65535 t)
  g_is_word : mg "is_word" = some (.ref (He.ga K "is_word"))
  g_name_of : mg "name_of" = some (.ref (He.ga K "name_of"))
  g_part_of : mg "part_of" = some (.ref (He.ga K "part_of"))
  c_FIRST_STACK : ∃ t, mg "FIRST_STACK" = some (.int 767 t)
  c_TIMER_BIT : ∃ t, mg "TIMER_BIT" = some (.int 1 t)
  c_LINE_BIT : ∃ t, mg "LINE_BIT" = some (.int 2 t)
  g_is_line : mg "is_line" = some (.ref (He.ga K "is_line"))
  g_Board : mg "Board" = some (.ref (He.ga K "Board"))
  g__law_cell : mg "_law_cell" = some (.ref (He.ga K "_law_cell"))
  g__law_digits : mg "_law_digits" = some (.ref (He.ga K "_law_digits"))
  g__law_drawn : mg "_law_drawn" = some (.ref (He.ga K "_law_drawn"))
  g__law_beat : mg "_law_beat" = some (.ref (He.ga K "_law_beat"))
  g__law_step : mg "_law_step" = some (.ref (He.ga K "_law_step"))
  g_law : mg "law" = some (.ref (He.ga K "law"))
  f_all : mg "all" = none
  f_bool : mg "bool" = none
  f_dict : mg "dict" = none
  f_int : mg "int" = none
  f_isinstance : mg "isinstance" = none
  f_len : mg "len" = none
  f_list : mg "list" = none
  f_range : mg "range" = none
  f_set : mg "set" = none
  f_sorted : mg "sorted" = none
  x_BoardError : PySem.W.excIn K (He.ga K "BoardError") He.veBase "ValueError.__new__" = true ∧ PySem.W.keepIn K (.ref (He.ga K "BoardError")) = true ∧ PySem.W.subIn K (.ref (He.ga K "BoardError")) (.type "BaseException") = some true ∧ PySem.W.typeIn K (.ref (He.ga K "BoardError")) = some (.type "type")
  xm_BoardError_BoardError : PySem.W.exmOne K (.ref (He.ga K "BoardError")) (.ref (He.ga K "BoardError")) = some true
  xm_BoardError_NoImage : PySem.W.exmOne K (.ref (He.ga K "BoardError")) (.ref (He.ga K "NoImage")) = some false
  x_NoImage : PySem.W.excIn K (He.ga K "NoImage") He.veBase "ValueError.__new__" = true ∧ PySem.W.keepIn K (.ref (He.ga K "NoImage")) = true ∧ PySem.W.subIn K (.ref (He.ga K "NoImage")) (.type "BaseException") = some true ∧ PySem.W.typeIn K (.ref (He.ga K "NoImage")) = some (.type "type")
  xm_NoImage_BoardError : PySem.W.exmOne K (.ref (He.ga K "NoImage")) (.ref (He.ga K "BoardError")) = some true
  xm_NoImage_NoImage : PySem.W.exmOne K (.ref (He.ga K "NoImage")) (.ref (He.ga K "NoImage")) = some true
  k_Memory : Cls K (He.ga K "Memory")
  n_Memory_flash : NoAttr K (He.ga K "Memory") "flash"
  n_Memory_ram : NoAttr K (He.ga K "Memory") "ram"
  n_Memory_places : NoAttr K (He.ga K "Memory") "places"
  m_Memory_init : Meth K (He.ga K "Memory") "__init__" (He.ma K (He.ga K "Memory") "__init__")
  mk_Memory : Mk K (He.ga K "Memory") (He.ma K (He.ga K "Memory") "__init__")
  m_Memory_word_at : Meth K (He.ga K "Memory") "word_at" (He.ma K (He.ga K "Memory") "word_at")
  m_Memory_bar_to : Meth K (He.ga K "Memory") "bar_to" (He.ma K (He.ga K "Memory") "bar_to")
  m_Memory_put : Meth K (He.ga K "Memory") "put" (He.ma K (He.ga K "Memory") "put")
  m_Memory_turn_bit : Meth K (He.ga K "Memory") "turn_bit" (He.ma K (He.ga K "Memory") "turn_bit")
  m_Memory_raise_flag : Meth K (He.ga K "Memory") "raise_flag" (He.ma K (He.ga K "Memory") "raise_flag")
  m_Memory_place : Meth K (He.ga K "Memory") "place" (He.ma K (He.ga K "Memory") "place")
  m_Memory_set_place : Meth K (He.ga K "Memory") "set_place" (He.ma K (He.ga K "Memory") "set_place")
  m_Memory_twin : Meth K (He.ga K "Memory") "twin" (He.ma K (He.ga K "Memory") "twin")
  k_Board : Cls K (He.ga K "Board")
  n_Board_memory : NoAttr K (He.ga K "Board") "memory"
  n_Board_line : NoAttr K (He.ga K "Board") "line"
  n_Board_registers : NoAttr K (He.ga K "Board") "registers"
  n_Board_zero : NoAttr K (He.ga K "Board") "zero"
  n_Board_lets : NoAttr K (He.ga K "Board") "lets"
  n_Board_asleep : NoAttr K (He.ga K "Board") "asleep"
  n_Board_beat : NoAttr K (He.ga K "Board") "beat"
  n_Board_stopped : NoAttr K (He.ga K "Board") "stopped"
  n_Board_sent : NoAttr K (He.ga K "Board") "sent"
  n_Board_touched : NoAttr K (He.ga K "Board") "touched"
  n_Board_bend : NoAttr K (He.ga K "Board") "bend"
  m_Board_init : Meth K (He.ga K "Board") "__init__" (He.ma K (He.ga K "Board") "__init__")
  mk_Board : Mk K (He.ga K "Board") (He.ma K (He.ga K "Board") "__init__")
  m_Board_twin : Meth K (He.ga K "Board") "twin" (He.ma K (He.ga K "Board") "twin")
  m_Board_pass_beats : Meth K (He.ga K "Board") "pass_beats" (He.ma K (He.ga K "Board") "pass_beats")
  m_Board_line_comes : Meth K (He.ga K "Board") "line_comes" (He.ma K (He.ga K "Board") "line_comes")
  m_Board_timer_goes : Meth K (He.ga K "Board") "timer_goes" (He.ma K (He.ga K "Board") "timer_goes")
  m_Board_pending : Meth K (He.ga K "Board") "pending" (He.ma K (He.ga K "Board") "pending")
  m_Board_turn : Meth K (He.ga K "Board") "turn" (He.ma K (He.ga K "Board") "turn")
  m_Board_stop : Meth K (He.ga K "Board") "stop" (He.ma K (He.ga K "Board") "stop")
  m_Board_interrupt : Meth K (He.ga K "Board") "interrupt" (He.ma K (He.ga K "Board") "interrupt")
  m_Board_store : Meth K (He.ga K "Board") "store" (He.ma K (He.ga K "Board") "store")
  m_Board_fetch : Meth K (He.ga K "Board") "fetch" (He.ma K (He.ga K "Board") "fetch")
  m_Board_addresses : Meth K (He.ga K "Board") "addresses" (He.ma K (He.ga K "Board") "addresses")
  m_Board_bar_of : Meth K (He.ga K "Board") "bar_of" (He.ma K (He.ga K "Board") "bar_of")
  m_Board_deed : Meth K (He.ga K "Board") "deed" (He.ma K (He.ga K "Board") "deed")
  m_Board_do : Meth K (He.ga K "Board") "do" (He.ma K (He.ga K "Board") "do")
  m_Board_do_putting : Meth K (He.ga K "Board") "do_putting" (He.ma K (He.ga K "Board") "do_putting")
  m_Board_do_returning : Meth K (He.ga K "Board") "do_returning" (He.ma K (He.ga K "Board") "do_returning")
  m_Board_do_reckoning : Meth K (He.ga K "Board") "do_reckoning" (He.ma K (He.ga K "Board") "do_reckoning")
  l_NAMES : ∀ H : Hp, SqL K H (He.ga K "NAMES") [V.str "mark", V.str "lit", V.str "get", V.str "put", V.str "add", V.str "sub", V.str "and", V.str "xor", V.str "getb", V.str "putb", V.str "tob", V.str "swap", V.str "go", V.str "ifz", V.str "ifn", V.str "call", V.str "ret", V.str "push", V.str "pop", V.str "sleep", V.str "let", V.str "back", V.str "half"]
  l_READING : ∀ H : Hp, SqL K H (He.ga K "READING") [V.str "get", V.str "add", V.str "sub", V.str "and", V.str "xor"]
  d__wall : ∃ fd, FnP K "_wall" "_wall" s__wall (He.fAd K ("_wall", none)) fd
  d_Memory_init : ∃ fd, FnP K "__init__" "Memory.__init__" s_Memory_init (He.fAd K ("Memory", some "__init__")) fd
  d_Memory_word_at : ∃ fd, FnP K "word_at" "Memory.word_at" s_Memory_word_at (He.fAd K ("Memory", some "word_at")) fd
  d_Memory_bar_to : ∃ fd, FnP K "bar_to" "Memory.bar_to" s_Memory_bar_to (He.fAd K ("Memory", some "bar_to")) fd
  d_Memory_put : ∃ fd, FnP K "put" "Memory.put" s_Memory_put (He.fAd K ("Memory", some "put")) fd
  d_Memory_turn_bit : ∃ fd, FnP K "turn_bit" "Memory.turn_bit" s_Memory_turn_bit (He.fAd K ("Memory", some "turn_bit")) fd
  d_Memory_raise_flag : ∃ fd, FnP K "raise_flag" "Memory.raise_flag" s_Memory_raise_flag (He.fAd K ("Memory", some "raise_flag")) fd
  d_Memory_place : ∃ fd, FnP K "place" "Memory.place" s_Memory_place (He.fAd K ("Memory", some "place")) fd
  d_Memory_set_place : ∃ fd, FnP K "set_place" "Memory.set_place" s_Memory_set_place (He.fAd K ("Memory", some "set_place")) fd
  d_Memory_twin : ∃ fd, FnP K "twin" "Memory.twin" s_Memory_twin (He.fAd K ("Memory", some "twin")) fd
  d_is_word : ∃ fd, FnP K "is_word" "is_word" s_is_word (He.fAd K ("is_word", none)) fd
  d_name_of : ∃ fd, FnP K "name_of" "name_of" s_name_of (He.fAd K ("name_of", none)) fd
  d_part_of : ∃ fd, FnP K "part_of" "part_of" s_part_of (He.fAd K ("part_of", none)) fd
  d_is_line : ∃ fd, FnP K "is_line" "is_line" s_is_line (He.fAd K ("is_line", none)) fd
  d_Board_init : ∃ fd, FnP K "__init__" "Board.__init__" s_Board_init (He.fAd K ("Board", some "__init__")) fd
  d_Board_twin : ∃ fd, FnP K "twin" "Board.twin" s_Board_twin (He.fAd K ("Board", some "twin")) fd
  d_Board_pass_beats : ∃ fd, FnP K "pass_beats" "Board.pass_beats" s_Board_pass_beats (He.fAd K ("Board", some "pass_beats")) fd
  d_Board_line_comes : ∃ fd, FnP K "line_comes" "Board.line_comes" s_Board_line_comes (He.fAd K ("Board", some "line_comes")) fd
  d_Board_timer_goes : ∃ fd, FnP K "timer_goes" "Board.timer_goes" s_Board_timer_goes (He.fAd K ("Board", some "timer_goes")) fd
  d_Board_pending : ∃ fd, FnP K "pending" "Board.pending" s_Board_pending (He.fAd K ("Board", some "pending")) fd
  d_Board_turn : ∃ fd, FnP K "turn" "Board.turn" s_Board_turn (He.fAd K ("Board", some "turn")) fd
  d_Board_stop : ∃ fd, FnP K "stop" "Board.stop" s_Board_stop (He.fAd K ("Board", some "stop")) fd
  d_Board_interrupt : ∃ fd, FnP K "interrupt" "Board.interrupt" s_Board_interrupt (He.fAd K ("Board", some "interrupt")) fd
  d_Board_store : ∃ fd, FnP K "store" "Board.store" s_Board_store (He.fAd K ("Board", some "store")) fd
  d_Board_fetch : ∃ fd, FnP K "fetch" "Board.fetch" s_Board_fetch (He.fAd K ("Board", some "fetch")) fd
  d_Board_addresses : ∃ fd, FnP K "addresses" "Board.addresses" s_Board_addresses (He.fAd K ("Board", some "addresses")) fd
  d_Board_bar_of : ∃ fd, FnP K "bar_of" "Board.bar_of" s_Board_bar_of (He.fAd K ("Board", some "bar_of")) fd
  d_Board_deed : ∃ fd, FnP K "deed" "Board.deed" s_Board_deed (He.fAd K ("Board", some "deed")) fd
  d_Board_do : ∃ fd, FnP K "do" "Board.do" s_Board_do (He.fAd K ("Board", some "do")) fd
  d_Board_do_putting : ∃ fd, FnP K "do_putting" "Board.do_putting" s_Board_do_putting (He.fAd K ("Board", some "do_putting")) fd
  d_Board_do_returning : ∃ fd, FnP K "do_returning" "Board.do_returning" s_Board_do_returning (He.fAd K ("Board", some "do_returning")) fd
  d_Board_do_reckoning : ∃ fd, FnP K "do_reckoning" "Board.do_reckoning" s_Board_do_reckoning (He.fAd K ("Board", some "do_reckoning")) fd
  d__law_cell : ∃ fd, FnP K "_law_cell" "_law_cell" s__law_cell (He.fAd K ("_law_cell", none)) fd
  d__law_digits : ∃ fd, FnP K "_law_digits" "_law_digits" s__law_digits (He.fAd K ("_law_digits", none)) fd
  d__law_drawn : ∃ fd, FnP K "_law_drawn" "_law_drawn" s__law_drawn (He.fAd K ("_law_drawn", none)) fd
  d__law_beat : ∃ fd, FnP K "_law_beat" "_law_beat" s__law_beat (He.fAd K ("_law_beat", none)) fd
  d__law_step : ∃ fd, FnP K "_law_step" "_law_step" s__law_step (He.fAd K ("_law_step", none)) fd
  d_law : ∃ fd, FnP K "law" "law" s_law (He.fAd K ("law", none)) fd


/-! ### memory -/
structure MA where
  p : Addr
  dx : Addr
  f : Addr
  r : Addr
  pl : Addr
structure MD where
  fl : List Int
  ra : List Int
  pl : List Int
def MemoryF (A : MA) : List (Str × V) := [(("flash" : Str), .ref A.f), (("ram" : Str), .ref A.r), (("places" : Str), .ref A.pl)]
theorem MemoryF_flash {A : MA} : (MemoryF A).lookup ("flash" : Str) = some (.ref A.f) := by kernel_rfl
theorem MemoryF_put_flash {A : MA} {x_ : V} : putF ("flash" : Str) x_ (MemoryF A) = [(("flash" : Str), x_), (("ram" : Str), .ref A.r), (("places" : Str), .ref A.pl)] := by kernel_rfl
theorem MemoryF_ram {A : MA} : (MemoryF A).lookup ("ram" : Str) = some (.ref A.r) := by kernel_rfl
theorem MemoryF_put_ram {A : MA} {x_ : V} : putF ("ram" : Str) x_ (MemoryF A) = [(("flash" : Str), .ref A.f), (("ram" : Str), x_), (("places" : Str), .ref A.pl)] := by kernel_rfl
theorem MemoryF_places {A : MA} : (MemoryF A).lookup ("places" : Str) = some (.ref A.pl) := by kernel_rfl
theorem MemoryF_put_places {A : MA} {x_ : V} : putF ("places" : Str) x_ (MemoryF A) = [(("flash" : Str), .ref A.f), (("ram" : Str), .ref A.r), (("places" : Str), x_)] := by kernel_rfl
theorem MemoryF_len {A : MA} : (MemoryF A).length < 1000 := by show 3 < 1000; decide
abbrev MA.own (A : MA) : List Addr := [A.p, A.f, A.r, A.pl]
structure MemAt (K : PySem.W.Frag) (H : Hp) (A : MA) (M : MD) : Prop where
  ob : H A.p = some (.ins (He.ga K "Memory") A.dx (MemoryF A))
  fl : H A.f = some (.lst (M.fl.map V.int))
  ra : H A.r = some (.lst (M.ra.map V.int))
  pl : H A.pl = some (.lst (M.pl.map V.int))
  lf : M.fl.length = 512
  lr : M.ra.length = 256
  lp : M.pl.length = 6
namespace MemAt
variable {K : PySem.W.Frag} {H H' : Hp} {A : MA} {M : MD} {S : List Addr}
theorem lne {xs ys : List Int} (h : xs.length ≠ ys.length) : (HO.lst (xs.map V.int)) ≠ HO.lst (ys.map V.int) := fun e => by
  injection e with e
  have e2 := congrArg List.length e
  rw [List.length_map, List.length_map] at e2
  exact h e2
theorem nfr (B : MemAt K H A M) : A.f ≠ A.r := ne_of B.fl B.ra (lne (by rw [B.lf, B.lr]; decide))
theorem nfp (B : MemAt K H A M) : A.f ≠ A.pl := ne_of B.fl B.pl (lne (by rw [B.lf, B.lp]; decide))
theorem nrp (B : MemAt K H A M) : A.r ≠ A.pl := ne_of B.ra B.pl (lne (by rw [B.lr, B.lp]; decide))
theorem npf (B : MemAt K H A M) : A.p ≠ A.f := ne_of B.ob B.fl (by intro z; cases z)
theorem npr (B : MemAt K H A M) : A.p ≠ A.r := ne_of B.ob B.ra (by intro z; cases z)
theorem npp (B : MemAt K H A M) : A.p ≠ A.pl := ne_of B.ob B.pl (by intro z; cases z)
theorem frame (B : MemAt K H A M) (k : ∀ b, b ∈ A.own → ∀ o, H b = some o → H' b = some o) : MemAt K H' A M :=
  ⟨k _ (by simp) _ B.ob, k _ (by simp) _ B.fl, k _ (by simp) _ B.ra, k _ (by simp) _ B.pl, B.lf, B.lr, B.lp⟩
theorem keep (B : MemAt K H A M) {S S' : List Addr} (k : Kp S S' H H') (d : ∀ b, b ∈ A.own → b ∉ S) : MemAt K H' A M := B.frame fun b hb o e => k.kept b o e (d b hb)
/-- a word of ram, of the places, of flash set -/
theorem setPl (B : MemAt K H A M) (i : Nat) (n : Int) : MemAt K (upd H A.pl (.lst ((M.pl.map V.int).set i (.int n)))) A { M with pl := M.pl.set i n } ∧ Kp A.own A.own H (upd H A.pl (.lst ((M.pl.map V.int).set i (.int n)))) :=
  ⟨⟨by rw [upd_ne B.npp]; exact B.ob, by rw [upd_ne B.nfp]; exact B.fl, by rw [upd_ne B.nrp]; exact B.ra, by rw [upd_same]; show _ = some (HO.lst ((M.pl.set i n).map V.int)); rw [List.map_set], B.lf, B.lr, by show (M.pl.set i n).length = 6; rw [List.length_set]; exact B.lp⟩,
    Kp.upd B.pl trivial (by simp)⟩
theorem setRa (B : MemAt K H A M) (i : Nat) (n : Int) : MemAt K (upd H A.r (.lst ((M.ra.map V.int).set i (.int n)))) A { M with ra := M.ra.set i n } ∧ Kp A.own A.own H (upd H A.r (.lst ((M.ra.map V.int).set i (.int n)))) :=
  ⟨⟨by rw [upd_ne B.npr]; exact B.ob, by rw [upd_ne B.nfr]; exact B.fl, by rw [upd_same]; show _ = some (HO.lst ((M.ra.set i n).map V.int)); rw [List.map_set], by rw [upd_ne B.nrp.symm]; exact B.pl, B.lf, by show (M.ra.set i n).length = 256; rw [List.length_set]; exact B.lr, B.lp⟩,
    Kp.upd B.ra trivial (by simp)⟩
end MemAt
/-! the mirror: what the memory's methods do -/
def MD.at (M : MD) (i : Int) : Option Int :=
  if i < 0 ∨ 773 < i then none else if i < 512 then M.fl[i.toNat]? else if i < 768 then M.ra[(i - 512).toNat]? else M.pl[(i - 768).toNat]?
def optV : Option Int → V
  | none => .non
  | some n => .int n
inductive Bar where
  | far | flash | still
  deriving DecidableEq
def Bar.s : Bar → Str
  | .far => "far"
  | .flash => "flash"
  | .still => "still"
def barTo (i : Int) : Option Bar :=
  if i < 0 ∨ 773 < i then some .far else if i < 512 then some .flash else if i = 772 then some .still else none
def barV : Option Bar → V
  | none => .non
  | some b => .str b.s
def MD.place (M : MD) (k : Nat) : Int := M.pl.getD k 0
def MD.put (M : MD) (i w : Int) : MD :=
  if i < 768 then { M with ra := M.ra.set (i - 512).toNat w }
  else if i = 770 then { M with pl := M.pl.set 2 (Builtin.bitAnd (M.place 2) (65535 - w)) }
  else { M with pl := M.pl.set (i - 768).toNat w }
def MD.raise (M : MD) (b : Int) : MD := { M with pl := M.pl.set 2 (Builtin.bitOr (M.place 2) b) }
def MD.setPlace (M : MD) (k : Nat) (w : Int) : MD := { M with pl := M.pl.set k w }
theorem getD_at {xs : List Int} {i : Int} {k : Nat} (hk : i = (k : Int)) (h : k < xs.length) : atI (xs.map V.int) i = some (.int (xs.getD k 0)) := by
  refine at_i (by omega) ?_
  have e : i.toNat = k := by omega
  rw [e, List.getD_eq_getElem?_getD, List.getElem?_eq_getElem h] <;> rfl
theorem ixN_at {xs : List Int} {i : Int} {k : Nat} (hk : i = (k : Int)) (h : k < xs.length) : ixN (xs.map V.int).length i = some k := by
  subst hk
  rw [List.length_map]
  unfold ixN
  rw [if_pos (by omega), if_pos (by omega)]
  rfl
section
variable {P : Program} {w : World} {K : PySem.W.Frag} {mg : Str → Option Value} {base : Heap}
def sp_Memory_place (K : PySem.W.Frag) : Sp := fun vs H Q E_ => ∃ (A : MA) (M : MD) (k : Nat), vs = [.ref A.p, .int (768 + (k : Int))] ∧ (MemAt K H A M ∧ k < 6 ∧ Q (.int (M.place k)) H)
abbrev N_Memory_place : List Str := ["self", "address"]
theorem sc_Memory_place : FnScope N_Memory_place ["self", "address"] (defScope s_Memory_place) := ⟨rfl, rfl, rfl, by decide +kernel, rfl, by decide +kernel, by decide +kernel⟩
theorem ok_Memory_place (T : Txt K mg) : Ok P w K mg base CX0 1 (He.fAd K ("Memory", some "place")) ["self", "address"] (sp_Memory_place K) := by
  obtain ⟨fd, F⟩ := T.d_Memory_place
  refine ⟨fd, F.ok sc_Memory_place (fun vs H Q E h => by obtain ⟨A, M, k, rfl, _⟩ := h; rfl) (fun cdv A_ outer s_ H vs Q E hr h => ?_), F.bindsN (fun _ _ _ _ _ _ us hl => match us, hl with | [_, _], _ => rfl), F.kp⟩
  obtain ⟨A, M, k, rfl, h⟩ := h
  have hu := hu_of hr
  refine ⟨_, PSs.nox (pss_one (ps_ret (pe_ix ix_list (pe_fld (pv 0) rfl) (pe_op op_sub (pv 1) (gi_ (by rfl) T.c_RAM)) (fun _ _ => rfl)))), ?_⟩
  obtain ⟨B, hk, q⟩ := h
  refine ⟨_, rfl, _, _, _, _, _, rfl, B.ob, T.k_Memory, T.n_Memory_places, MemoryF_places, _, rfl, _, _, rfl, rfl, _, _, _, _, rfl, rfl, SqL.of B.pl, getD_at (k := k) (by omega) (by rw [B.lp]; exact hk), q⟩
def sp_Memory_set_place (K : PySem.W.Frag) : Sp := fun vs H Q E_ => ∃ (A : MA) (M : MD) (k : Nat) (n : Int), vs = [.ref A.p, .int (768 + (k : Int)), .int n] ∧ (MemAt K H A M ∧ k < 6 ∧ ∀ H', MemAt K H' A (M.setPlace k n) → Kp A.own A.own H H' → Q .non H')
abbrev N_Memory_set_place : List Str := ["self", "address", "word"]
theorem sc_Memory_set_place : FnScope N_Memory_set_place ["self", "address", "word"] (defScope s_Memory_set_place) := ⟨rfl, rfl, rfl, by decide +kernel, rfl, by decide +kernel, by decide +kernel⟩
theorem ok_Memory_set_place (T : Txt K mg) : Ok P w K mg base CX0 1 (He.fAd K ("Memory", some "set_place")) ["self", "address", "word"] (sp_Memory_set_place K) := by
  obtain ⟨fd, F⟩ := T.d_Memory_set_place
  refine ⟨fd, F.ok sc_Memory_set_place (fun vs H Q E h => by obtain ⟨A, M, k, n, rfl, _⟩ := h; rfl) (fun cdv A_ outer s_ H vs Q E hr h => ?_), F.bindsN (fun _ _ _ _ _ _ us hl => match us, hl with | [_, _, _], _ => rfl), F.kp⟩
  obtain ⟨A, M, k, n, rfl, h⟩ := h
  have hu := hu_of hr
  refine ⟨_, PSs.nox (pss_one (ps_asg (pv 2) (pg_sub (pe_fld (pv 0) rfl) (pe_op op_sub (pv 1) (gi_ (by rfl) T.c_RAM)) set_list))), ?_⟩
  obtain ⟨B, hk, q⟩ := h
  refine ⟨_, rfl, _, rfl, _, _, _, _, _, rfl, B.ob, T.k_Memory, T.n_Memory_places, MemoryF_places, _, rfl, _, _, rfl, rfl, _, _, _, _, rfl, rfl, B.pl, ixN_at (k := k) (by omega) (by rw [B.lp]; exact hk), ?_⟩
  exact q _ (B.setPl k n).1 (B.setPl k n).2
def sp_Memory_raise_flag (K : PySem.W.Frag) : Sp := fun vs H Q E_ => ∃ (A : MA) (M : MD) (b : Int), vs = [.ref A.p, .int b] ∧ (MemAt K H A M ∧ ∀ H', MemAt K H' A (M.raise b) → Kp A.own A.own H H' → Q .non H')
abbrev N_Memory_raise_flag : List Str := ["self", "bit"]
theorem sc_Memory_raise_flag : FnScope N_Memory_raise_flag ["self", "bit"] (defScope s_Memory_raise_flag) := ⟨rfl, rfl, rfl, by decide +kernel, rfl, by decide +kernel, by decide +kernel⟩
theorem ok_Memory_raise_flag (T : Txt K mg) : Ok P w K mg base CX0 1 (He.fAd K ("Memory", some "raise_flag")) ["self", "bit"] (sp_Memory_raise_flag K) := by
  obtain ⟨fd, F⟩ := T.d_Memory_raise_flag
  refine ⟨fd, F.ok sc_Memory_raise_flag (fun vs H Q E h => by obtain ⟨A, M, b, rfl, _⟩ := h; rfl) (fun cdv A_ outer s_ H vs Q E hr h => ?_), F.bindsN (fun _ _ _ _ _ _ us hl => match us, hl with | [_, _], _ => rfl), F.kp⟩
  obtain ⟨A, M, b, rfl, h⟩ := h
  have hu := hu_of hr
  refine ⟨_, PSs.nox (pss_one (ps_asg (pe_op op_or (pe_ix ix_list (pe_fld (pv 0) rfl) (pe_op op_sub (gi_ (by rfl) T.c_FLAGS) (gi_ (by rfl) T.c_RAM)) (fun _ _ => rfl)) (pv 1)) (pg_sub (pe_fld (pv 0) rfl) (pe_op op_sub (gi_ (by rfl) T.c_FLAGS) (gi_ (by rfl) T.c_RAM)) set_list))), ?_⟩
  obtain ⟨B, q⟩ := h
  refine ⟨_, rfl, _, _, _, _, _, rfl, B.ob, T.k_Memory, T.n_Memory_places, MemoryF_places, _, _, rfl, rfl, _, _, _, _, rfl, rfl, SqL.of B.pl, getD_at (k := 2) (by decide) (by rw [B.lp]; decide), _, rfl, _, _, rfl, rfl, _, rfl, _, _, _, _, _, rfl, B.ob, T.k_Memory, T.n_Memory_places, MemoryF_places, _, _, rfl, rfl, _, _, _, _, rfl, rfl, B.pl, ixN_at (k := 2) (by decide) (by rw [B.lp]; decide), ?_⟩
  exact q _ (B.setPl 2 _).1 (B.setPl 2 _).2
end


/-! ### a board -/
theorem ndne {l : List Addr} (h : l.Nodup) {a b : Addr} (i j : Nat) (ha : l[i]? = some a := by rfl) (hb : l[j]? = some b := by rfl) (hij : i ≠ j := by decide) : a ≠ b := fun e =>
  hij (nd_ix h ha (by rw [e]; exact hb))
structure BA where
  p : Addr
  dx : Addr
  ln : Addr
  rg : Addr
  sn : Addr
  tc : Addr
  m : MA
  st : V
  sv : List V
  tv : List V
structure BD where
  m : MD
  ln : List (Int × Int)
  a : Int
  b : Int
  pc : Int
  sp : Int
  zero : Bool
  lets : Bool
  asleep : Bool
  beat : Int
  stop : Option (List V)
  sent : List (Int × Int)
  tc : List (Str × Int)
  bend : Int
def RegD (a b pc sp : Int) : List (Key × V) := [((Sum.inr ("a" : Str) : Key), .int a), ((Sum.inr ("b" : Str) : Key), .int b), ((Sum.inr ("pc" : Str) : Key), .int pc), ((Sum.inr ("sp" : Str) : Key), .int sp)]
theorem RegD_a {a b pc sp : Int} : valV (RegD a b pc sp) (Sum.inr ("a" : Str) : Key) = some (.int a) := by kernel_rfl
theorem RegD_put_a {a b pc sp : Int} {x_ : V} : putK (RegD a b pc sp) (Sum.inr ("a" : Str) : Key) x_ = [((Sum.inr ("a" : Str) : Key), x_), ((Sum.inr ("b" : Str) : Key), .int b), ((Sum.inr ("pc" : Str) : Key), .int pc), ((Sum.inr ("sp" : Str) : Key), .int sp)] := by kernel_rfl
theorem RegD_b {a b pc sp : Int} : valV (RegD a b pc sp) (Sum.inr ("b" : Str) : Key) = some (.int b) := by kernel_rfl
theorem RegD_put_b {a b pc sp : Int} {x_ : V} : putK (RegD a b pc sp) (Sum.inr ("b" : Str) : Key) x_ = [((Sum.inr ("a" : Str) : Key), .int a), ((Sum.inr ("b" : Str) : Key), x_), ((Sum.inr ("pc" : Str) : Key), .int pc), ((Sum.inr ("sp" : Str) : Key), .int sp)] := by kernel_rfl
theorem RegD_pc {a b pc sp : Int} : valV (RegD a b pc sp) (Sum.inr ("pc" : Str) : Key) = some (.int pc) := by kernel_rfl
theorem RegD_put_pc {a b pc sp : Int} {x_ : V} : putK (RegD a b pc sp) (Sum.inr ("pc" : Str) : Key) x_ = [((Sum.inr ("a" : Str) : Key), .int a), ((Sum.inr ("b" : Str) : Key), .int b), ((Sum.inr ("pc" : Str) : Key), x_), ((Sum.inr ("sp" : Str) : Key), .int sp)] := by kernel_rfl
theorem RegD_sp {a b pc sp : Int} : valV (RegD a b pc sp) (Sum.inr ("sp" : Str) : Key) = some (.int sp) := by kernel_rfl
theorem RegD_put_sp {a b pc sp : Int} {x_ : V} : putK (RegD a b pc sp) (Sum.inr ("sp" : Str) : Key) x_ = [((Sum.inr ("a" : Str) : Key), .int a), ((Sum.inr ("b" : Str) : Key), .int b), ((Sum.inr ("pc" : Str) : Key), .int pc), ((Sum.inr ("sp" : Str) : Key), x_)] := by kernel_rfl
theorem RegD_len {a b pc sp : Int} : (RegD a b pc sp).length < 1000 := by show 4 < 1000; decide
def BoardF (A : BA) (D : BD) : List (Str × V) := [(("memory" : Str), .ref A.m.p), (("line" : Str), .ref A.ln), (("registers" : Str), .ref A.rg), (("zero" : Str), .bl D.zero), (("lets" : Str), .bl D.lets), (("asleep" : Str), .bl D.asleep), (("beat" : Str), .int D.beat), (("stopped" : Str), A.st), (("sent" : Str), .ref A.sn), (("touched" : Str), .ref A.tc), (("bend" : Str), .int D.bend)]
theorem BoardF_memory {A : BA} {D : BD} : (BoardF A D).lookup ("memory" : Str) = some (.ref A.m.p) := by kernel_rfl
theorem BoardF_put_memory {A : BA} {D : BD} {x_ : V} : putF ("memory" : Str) x_ (BoardF A D) = [(("memory" : Str), x_), (("line" : Str), .ref A.ln), (("registers" : Str), .ref A.rg), (("zero" : Str), .bl D.zero), (("lets" : Str), .bl D.lets), (("asleep" : Str), .bl D.asleep), (("beat" : Str), .int D.beat), (("stopped" : Str), A.st), (("sent" : Str), .ref A.sn), (("touched" : Str), .ref A.tc), (("bend" : Str), .int D.bend)] := by kernel_rfl
theorem BoardF_line {A : BA} {D : BD} : (BoardF A D).lookup ("line" : Str) = some (.ref A.ln) := by kernel_rfl
theorem BoardF_put_line {A : BA} {D : BD} {x_ : V} : putF ("line" : Str) x_ (BoardF A D) = [(("memory" : Str), .ref A.m.p), (("line" : Str), x_), (("registers" : Str), .ref A.rg), (("zero" : Str), .bl D.zero), (("lets" : Str), .bl D.lets), (("asleep" : Str), .bl D.asleep), (("beat" : Str), .int D.beat), (("stopped" : Str), A.st), (("sent" : Str), .ref A.sn), (("touched" : Str), .ref A.tc), (("bend" : Str), .int D.bend)] := by kernel_rfl
theorem BoardF_registers {A : BA} {D : BD} : (BoardF A D).lookup ("registers" : Str) = some (.ref A.rg) := by kernel_rfl
theorem BoardF_put_registers {A : BA} {D : BD} {x_ : V} : putF ("registers" : Str) x_ (BoardF A D) = [(("memory" : Str), .ref A.m.p), (("line" : Str), .ref A.ln), (("registers" : Str), x_), (("zero" : Str), .bl D.zero), (("lets" : Str), .bl D.lets), (("asleep" : Str), .bl D.asleep), (("beat" : Str), .int D.beat), (("stopped" : Str), A.st), (("sent" : Str), .ref A.sn), (("touched" : Str), .ref A.tc), (("bend" : Str), .int D.bend)] := by kernel_rfl
theorem BoardF_zero {A : BA} {D : BD} : (BoardF A D).lookup ("zero" : Str) = some (.bl D.zero) := by kernel_rfl
theorem BoardF_put_zero {A : BA} {D : BD} {x_ : V} : putF ("zero" : Str) x_ (BoardF A D) = [(("memory" : Str), .ref A.m.p), (("line" : Str), .ref A.ln), (("registers" : Str), .ref A.rg), (("zero" : Str), x_), (("lets" : Str), .bl D.lets), (("asleep" : Str), .bl D.asleep), (("beat" : Str), .int D.beat), (("stopped" : Str), A.st), (("sent" : Str), .ref A.sn), (("touched" : Str), .ref A.tc), (("bend" : Str), .int D.bend)] := by kernel_rfl
theorem BoardF_lets {A : BA} {D : BD} : (BoardF A D).lookup ("lets" : Str) = some (.bl D.lets) := by kernel_rfl
theorem BoardF_put_lets {A : BA} {D : BD} {x_ : V} : putF ("lets" : Str) x_ (BoardF A D) = [(("memory" : Str), .ref A.m.p), (("line" : Str), .ref A.ln), (("registers" : Str), .ref A.rg), (("zero" : Str), .bl D.zero), (("lets" : Str), x_), (("asleep" : Str), .bl D.asleep), (("beat" : Str), .int D.beat), (("stopped" : Str), A.st), (("sent" : Str), .ref A.sn), (("touched" : Str), .ref A.tc), (("bend" : Str), .int D.bend)] := by kernel_rfl
theorem BoardF_asleep {A : BA} {D : BD} : (BoardF A D).lookup ("asleep" : Str) = some (.bl D.asleep) := by kernel_rfl
theorem BoardF_put_asleep {A : BA} {D : BD} {x_ : V} : putF ("asleep" : Str) x_ (BoardF A D) = [(("memory" : Str), .ref A.m.p), (("line" : Str), .ref A.ln), (("registers" : Str), .ref A.rg), (("zero" : Str), .bl D.zero), (("lets" : Str), .bl D.lets), (("asleep" : Str), x_), (("beat" : Str), .int D.beat), (("stopped" : Str), A.st), (("sent" : Str), .ref A.sn), (("touched" : Str), .ref A.tc), (("bend" : Str), .int D.bend)] := by kernel_rfl
theorem BoardF_beat {A : BA} {D : BD} : (BoardF A D).lookup ("beat" : Str) = some (.int D.beat) := by kernel_rfl
theorem BoardF_put_beat {A : BA} {D : BD} {x_ : V} : putF ("beat" : Str) x_ (BoardF A D) = [(("memory" : Str), .ref A.m.p), (("line" : Str), .ref A.ln), (("registers" : Str), .ref A.rg), (("zero" : Str), .bl D.zero), (("lets" : Str), .bl D.lets), (("asleep" : Str), .bl D.asleep), (("beat" : Str), x_), (("stopped" : Str), A.st), (("sent" : Str), .ref A.sn), (("touched" : Str), .ref A.tc), (("bend" : Str), .int D.bend)] := by kernel_rfl
theorem BoardF_stopped {A : BA} {D : BD} : (BoardF A D).lookup ("stopped" : Str) = some (A.st) := by kernel_rfl
theorem BoardF_put_stopped {A : BA} {D : BD} {x_ : V} : putF ("stopped" : Str) x_ (BoardF A D) = [(("memory" : Str), .ref A.m.p), (("line" : Str), .ref A.ln), (("registers" : Str), .ref A.rg), (("zero" : Str), .bl D.zero), (("lets" : Str), .bl D.lets), (("asleep" : Str), .bl D.asleep), (("beat" : Str), .int D.beat), (("stopped" : Str), x_), (("sent" : Str), .ref A.sn), (("touched" : Str), .ref A.tc), (("bend" : Str), .int D.bend)] := by kernel_rfl
theorem BoardF_sent {A : BA} {D : BD} : (BoardF A D).lookup ("sent" : Str) = some (.ref A.sn) := by kernel_rfl
theorem BoardF_put_sent {A : BA} {D : BD} {x_ : V} : putF ("sent" : Str) x_ (BoardF A D) = [(("memory" : Str), .ref A.m.p), (("line" : Str), .ref A.ln), (("registers" : Str), .ref A.rg), (("zero" : Str), .bl D.zero), (("lets" : Str), .bl D.lets), (("asleep" : Str), .bl D.asleep), (("beat" : Str), .int D.beat), (("stopped" : Str), A.st), (("sent" : Str), x_), (("touched" : Str), .ref A.tc), (("bend" : Str), .int D.bend)] := by kernel_rfl
theorem BoardF_touched {A : BA} {D : BD} : (BoardF A D).lookup ("touched" : Str) = some (.ref A.tc) := by kernel_rfl
theorem BoardF_put_touched {A : BA} {D : BD} {x_ : V} : putF ("touched" : Str) x_ (BoardF A D) = [(("memory" : Str), .ref A.m.p), (("line" : Str), .ref A.ln), (("registers" : Str), .ref A.rg), (("zero" : Str), .bl D.zero), (("lets" : Str), .bl D.lets), (("asleep" : Str), .bl D.asleep), (("beat" : Str), .int D.beat), (("stopped" : Str), A.st), (("sent" : Str), .ref A.sn), (("touched" : Str), x_), (("bend" : Str), .int D.bend)] := by kernel_rfl
theorem BoardF_bend {A : BA} {D : BD} : (BoardF A D).lookup ("bend" : Str) = some (.int D.bend) := by kernel_rfl
theorem BoardF_put_bend {A : BA} {D : BD} {x_ : V} : putF ("bend" : Str) x_ (BoardF A D) = [(("memory" : Str), .ref A.m.p), (("line" : Str), .ref A.ln), (("registers" : Str), .ref A.rg), (("zero" : Str), .bl D.zero), (("lets" : Str), .bl D.lets), (("asleep" : Str), .bl D.asleep), (("beat" : Str), .int D.beat), (("stopped" : Str), A.st), (("sent" : Str), .ref A.sn), (("touched" : Str), .ref A.tc), (("bend" : Str), x_)] := by kernel_rfl
theorem BoardF_len {A : BA} {D : BD} : (BoardF A D).length < 1000 := by show 11 < 1000; decide
abbrev BA.own (A : BA) : List Addr := [A.p, A.ln, A.rg, A.sn, A.tc, A.m.p, A.m.f, A.m.r, A.m.pl]
def lineK (l : List (Int × Int)) : List (Key × V) := l.map fun p => (Sum.inl p.1, V.int p.2)
def StopV (H : Hp) (v : V) : Option (List V) → Prop
  | none => v = .non
  | some xs => ∃ t, v = .ref t ∧ H t = some (.tup xs)
def sentT (l : List (Int × Int)) : List (List V) := l.map fun p => [.int p.1, .int p.2]
def tcT (l : List (Str × Int)) : List (List V) := l.map fun p => [.str p.1, .int p.2]
structure BoardAt (K : PySem.W.Frag) (H : Hp) (A : BA) (D : BD) : Prop where
  ob : H A.p = some (.ins (He.ga K "Board") A.dx (BoardF A D))
  ln : H A.ln = some (.dK (lineK D.ln))
  rg : H A.rg = some (.dK (RegD D.a D.b D.pc D.sp))
  sn : H A.sn = some (.lst A.sv)
  tc : H A.tc = some (.lst A.tv)
  st : StopV H A.st D.stop
  sent : Tups H A.sv (sentT D.sent)
  tch : Tups H A.tv (tcT D.tc)
  mem : MemAt K H A.m D.m
  nd : A.own.Nodup
  ls : D.sent.length ≤ 1000000
  lt : D.tc.length ≤ 1000
theorem BA.mown {A : BA} {b : Addr} (h : b ∈ A.m.own) : b ∈ A.own := List.mem_cons_of_mem _ (List.mem_cons_of_mem _ (List.mem_cons_of_mem _ (List.mem_cons_of_mem _ (List.mem_cons_of_mem _ h))))
theorem StopV.mono {H H' : Hp} {v : V} (k : ∀ b xs, H b = some (.tup xs) → H' b = some (.tup xs)) : ∀ {o : Option (List V)}, StopV H v o → StopV H' v o
  | none, h => h
  | some _, ⟨t, e, h⟩ => ⟨t, e, k _ _ h⟩
namespace BoardAt
variable {K : PySem.W.Frag} {H H' : Hp} {A : BA} {D : BD}
theorem frame (B : BoardAt K H A D) (k : ∀ b, b ∈ A.own → ∀ o, H b = some o → H' b = some o) (t : ∀ b xs, H b = some (.tup xs) → H' b = some (.tup xs)) : BoardAt K H' A D :=
  ⟨k _ (by simp) _ B.ob, k _ (by simp) _ B.ln, k _ (by simp) _ B.rg, k _ (by simp) _ B.sn, k _ (by simp) _ B.tc, B.st.mono t, B.sent.mono t, B.tch.mono t,
    B.mem.frame fun b hb => k b (BA.mown hb), B.nd, B.ls, B.lt⟩
theorem keep (B : BoardAt K H A D) {S S' : List Addr} (k : Kp S S' H H') (d : ∀ b, b ∈ A.own → b ∉ S) : BoardAt K H' A D := B.frame (fun b hb o e => k.kept b o e (d b hb)) k.tups
theorem live (B : BoardAt K H A D) {b : Addr} (h : b ∈ A.own) : ∃ o, H b = some o ∧ notTup o := by
  simp only [BA.own, List.mem_cons, List.not_mem_nil, or_false] at h
  rcases h with rfl | rfl | rfl | rfl | rfl | rfl | rfl | rfl | rfl
  · exact ⟨_, B.ob, trivial⟩
  · exact ⟨_, B.ln, trivial⟩
  · exact ⟨_, B.rg, trivial⟩
  · exact ⟨_, B.sn, trivial⟩
  · exact ⟨_, B.tc, trivial⟩
  · exact ⟨_, B.mem.ob, trivial⟩
  · exact ⟨_, B.mem.fl, trivial⟩
  · exact ⟨_, B.mem.ra, trivial⟩
  · exact ⟨_, B.mem.pl, trivial⟩
theorem fresh (B : BoardAt K H A D) {b : Addr} (h : H b = none) : b ∉ A.own := fun m => by
  obtain ⟨o, e, _⟩ := B.live m
  rw [h] at e; cases e
theorem new (B : BoardAt K H A D) {b : Addr} {o : HO} (h : H b = none) : BoardAt K (upd H b o) A D := B.keep (S := []) (Kp.new h) fun _ _ z => by cases z
theorem get_a (B : BoardAt K H A D) : DGet H A.rg (.str "a") (some (.int D.a)) := by have g := DGet.k (k := Sum.inr "a") B.rg; rw [RegD_a] at g; exact g
theorem get_b (B : BoardAt K H A D) : DGet H A.rg (.str "b") (some (.int D.b)) := by have g := DGet.k (k := Sum.inr "b") B.rg; rw [RegD_b] at g; exact g
theorem get_pc (B : BoardAt K H A D) : DGet H A.rg (.str "pc") (some (.int D.pc)) := by have g := DGet.k (k := Sum.inr "pc") B.rg; rw [RegD_pc] at g; exact g
theorem get_sp (B : BoardAt K H A D) : DGet H A.rg (.str "sp") (some (.int D.sp)) := by have g := DGet.k (k := Sum.inr "sp") B.rg; rw [RegD_sp] at g; exact g
theorem put_a (B : BoardAt K H A D) (n : Int) : DPut H A.rg (.str "a") (.int n) (upd H A.rg (.dK (RegD n D.b D.pc D.sp))) := by have g := DPut.k (k := Sum.inr "a") (v := .int n) B.rg (small_ (by show 4 ≤ 16777215; decide)); rw [RegD_put_a] at g; exact g
theorem put_b (B : BoardAt K H A D) (n : Int) : DPut H A.rg (.str "b") (.int n) (upd H A.rg (.dK (RegD D.a n D.pc D.sp))) := by have g := DPut.k (k := Sum.inr "b") (v := .int n) B.rg (small_ (by show 4 ≤ 16777215; decide)); rw [RegD_put_b] at g; exact g
theorem put_pc (B : BoardAt K H A D) (n : Int) : DPut H A.rg (.str "pc") (.int n) (upd H A.rg (.dK (RegD D.a D.b n D.sp))) := by have g := DPut.k (k := Sum.inr "pc") (v := .int n) B.rg (small_ (by show 4 ≤ 16777215; decide)); rw [RegD_put_pc] at g; exact g
theorem put_sp (B : BoardAt K H A D) (n : Int) : DPut H A.rg (.str "sp") (.int n) (upd H A.rg (.dK (RegD D.a D.b D.pc n))) := by have g := DPut.k (k := Sum.inr "sp") (v := .int n) B.rg (small_ (by show 4 ≤ 16777215; decide)); rw [RegD_put_sp] at g; exact g
/-- another registers' dict -/
theorem setRg (B : BoardAt K H A D) (a b pc sp : Int) : BoardAt K (upd H A.rg (.dK (RegD a b pc sp))) A { D with a := a, b := b, pc := pc, sp := sp } ∧ Kp A.own A.own H (upd H A.rg (.dK (RegD a b pc sp))) := by
  have k : Kp A.own A.own H (upd H A.rg (.dK (RegD a b pc sp))) := Kp.upd B.rg trivial (by simp)
  have n (i : Nat) {c : Addr} (hc : A.own[i]? = some c) (hi : i ≠ 2) : c ≠ A.rg := ndne B.nd i 2 hc rfl hi
  exact ⟨⟨by rw [upd_ne (n 0 rfl (by decide))]; exact B.ob, by rw [upd_ne (n 1 rfl (by decide))]; exact B.ln, upd_same, by rw [upd_ne (n 3 rfl (by decide))]; exact B.sn, by rw [upd_ne (n 4 rfl (by decide))]; exact B.tc,
    B.st.mono k.tups, B.sent.mono k.tups, B.tch.mono k.tups,
    ⟨by rw [upd_ne (n 5 rfl (by decide))]; exact B.mem.ob, by rw [upd_ne (n 6 rfl (by decide))]; exact B.mem.fl, by rw [upd_ne (n 7 rfl (by decide))]; exact B.mem.ra, by rw [upd_ne (n 8 rfl (by decide))]; exact B.mem.pl, B.mem.lf, B.mem.lr, B.mem.lp⟩, B.nd, B.ls, B.lt⟩, k⟩
/-- the object's own fields -/
theorem setOb (B : BoardAt K H A D) {A' : BA} {D' : BD} (ep : A'.p = A.p) (edx : A'.dx = A.dx) (eln : A'.ln = A.ln) (erg : A'.rg = A.rg) (esn : A'.sn = A.sn) (em : A'.m = A.m) (esv : A'.sv = A.sv)
    (dm : D'.m = D.m) (dl : D'.ln = D.ln) (dr : RegD D'.a D'.b D'.pc D'.sp = RegD D.a D.b D.pc D.sp) (ds : D'.sent = D.sent) (hst : StopV H A'.st D'.stop)
    (htc : (A'.tc = A.tc ∧ A'.tv = A.tv ∧ D'.tc = D.tc) ∨ (H A'.tc = some (.lst A'.tv) ∧ Tups H A'.tv (tcT D'.tc) ∧ A'.tc ∉ A.own ∧ D'.tc.length ≤ 1000)) :
    BoardAt K (upd H A.p (.ins (He.ga K "Board") A.dx (BoardF A' D'))) A' D' ∧ Kp A.own (A'.tc :: A.own) H (upd H A.p (.ins (He.ga K "Board") A.dx (BoardF A' D'))) ∨ A'.tc ∉ A.own := by
  rcases htc with ⟨e1, e2, e3⟩ | ⟨h1, h2, h3, h4⟩
  · left
    have k : Kp A.own A.own H (upd H A.p (.ins (He.ga K "Board") A.dx (BoardF A' D'))) := Kp.upd B.ob trivial (by simp)
    have n (i : Nat) {c : Addr} (hc : A.own[i]? = some c) (hi : i ≠ 0) : c ≠ A.p := ndne B.nd i 0 hc rfl hi
    refine ⟨⟨by rw [ep, edx]; exact upd_same, by rw [eln, dl, upd_ne (n 1 rfl (by decide))]; exact B.ln, by rw [erg, dr, upd_ne (n 2 rfl (by decide))]; exact B.rg, by rw [esn, esv, upd_ne (n 3 rfl (by decide))]; exact B.sn, by rw [e1, e2, upd_ne (n 4 rfl (by decide))]; exact B.tc,
      hst.mono k.tups, by rw [esv, ds]; exact B.sent.mono k.tups, by rw [e2, e3]; exact B.tch.mono k.tups,
      by rw [em, dm]; exact ⟨by rw [upd_ne (n 5 rfl (by decide))]; exact B.mem.ob, by rw [upd_ne (n 6 rfl (by decide))]; exact B.mem.fl, by rw [upd_ne (n 7 rfl (by decide))]; exact B.mem.ra, by rw [upd_ne (n 8 rfl (by decide))]; exact B.mem.pl, B.mem.lf, B.mem.lr, B.mem.lp⟩,
      by show [A'.p, A'.ln, A'.rg, A'.sn, A'.tc, A'.m.p, A'.m.f, A'.m.r, A'.m.pl].Nodup; rw [ep, eln, erg, esn, e1, em]; exact B.nd, by rw [ds]; exact B.ls, by rw [e3]; exact B.lt⟩,
      k.sub fun b hb => by
        rcases List.mem_cons.mp hb with h | h
        · rw [h, e1]; simp
        · exact h⟩
  · exact .inr h3
theorem setZ (B : BoardAt K H A D) (z l s : Bool) (t n : Int) : BoardAt K (upd H A.p (.ins (He.ga K "Board") A.dx (BoardF A { D with zero := z, lets := l, asleep := s, beat := t, bend := n }))) A { D with zero := z, lets := l, asleep := s, beat := t, bend := n } ∧
    Kp A.own A.own H (upd H A.p (.ins (He.ga K "Board") A.dx (BoardF A { D with zero := z, lets := l, asleep := s, beat := t, bend := n }))) := by
  rcases B.setOb (A' := A) (D' := { D with zero := z, lets := l, asleep := s, beat := t, bend := n }) rfl rfl rfl rfl rfl rfl rfl rfl rfl rfl rfl B.st (.inl ⟨rfl, rfl, rfl⟩) with h | h
  · exact ⟨h.1, h.2.sub fun b hb => List.mem_cons_of_mem _ hb⟩
  · exact absurd (by simp) h
theorem setStop (B : BoardAt K H A D) {v : V} {o : Option (List V)} (hv : StopV H v o) : BoardAt K (upd H A.p (.ins (He.ga K "Board") A.dx (BoardF { A with st := v } { D with stop := o }))) { A with st := v } { D with stop := o } ∧
    Kp A.own A.own H (upd H A.p (.ins (He.ga K "Board") A.dx (BoardF { A with st := v } { D with stop := o }))) := by
  rcases B.setOb (A' := { A with st := v }) (D' := { D with stop := o }) rfl rfl rfl rfl rfl rfl rfl rfl rfl rfl rfl hv (.inl ⟨rfl, rfl, rfl⟩) with h | h
  · exact ⟨h.1, h.2.sub fun b hb => List.mem_cons_of_mem _ hb⟩
  · exact absurd (by simp) h
/-- touched is a new list -/
theorem setTc (B : BoardAt K H A D) {t : Addr} (ht : H t = none) : BoardAt K (upd (upd H t (.lst [])) A.p (.ins (He.ga K "Board") A.dx (BoardF { A with tc := t, tv := [] } { D with tc := [] }))) { A with tc := t, tv := [] } { D with tc := [] } ∧
    Kp A.own ({ A with tc := t, tv := [] } : BA).own H (upd (upd H t (.lst [])) A.p (.ins (He.ga K "Board") A.dx (BoardF { A with tc := t, tv := [] } { D with tc := [] }))) := by
  have f := B.fresh ht
  have k0 : Kp A.own (t :: A.own) H (upd H t (.lst [])) := Kp.newIn ht
  have B1 : BoardAt K (upd H t (.lst [])) A D := B.new ht
  have k1 : Kp (t :: A.own) (t :: A.own) (upd H t (.lst [])) (upd (upd H t (.lst [])) A.p (.ins (He.ga K "Board") A.dx (BoardF { A with tc := t, tv := [] } { D with tc := [] }))) := Kp.upd B1.ob trivial (by simp)
  have n (i : Nat) {c : Addr} (hc : A.own[i]? = some c) (hi : i ≠ 0) : c ≠ A.p := ndne B.nd i 0 hc rfl hi
  have ntp : t ≠ A.p := fun e => f (by rw [e]; simp)
  refine ⟨⟨upd_same, by rw [upd_ne (n 1 rfl (by decide))]; exact B1.ln, by rw [upd_ne (n 2 rfl (by decide))]; exact B1.rg, by rw [upd_ne (n 3 rfl (by decide))]; exact B1.sn, by rw [upd_ne ntp]; exact upd_same,
      B1.st.mono k1.tups, B1.sent.mono k1.tups, .nil,
      ⟨by rw [upd_ne (n 5 rfl (by decide))]; exact B1.mem.ob, by rw [upd_ne (n 6 rfl (by decide))]; exact B1.mem.fl, by rw [upd_ne (n 7 rfl (by decide))]; exact B1.mem.ra, by rw [upd_ne (n 8 rfl (by decide))]; exact B1.mem.pl, B.mem.lf, B.mem.lr, B.mem.lp⟩,
      ?_, B.ls, Nat.zero_le _⟩, (k0.trans k1).sub ?_⟩
  · have h := B.nd
    simp only [BA.own, List.nodup_cons, List.mem_cons, List.not_mem_nil, or_false, not_or] at h f ⊢
    refine ⟨?_, ?_, ?_, ?_, ?_, ?_⟩ <;> first | (refine ⟨?_, ?_⟩) | skip
    all_goals (try simp_all)
    all_goals (try exact fun e => by simp_all)
  · intro b hb
    simp only [BA.own, List.mem_cons, List.not_mem_nil, or_false] at hb ⊢
    rcases hb with h | h | h | h | h | h | h | h | h <;> simp [h]
theorem setMem (B : BoardAt K H A D) {M : MD} (hm : MemAt K H' A.m M) (k : Kp A.m.own A.m.own H H') : BoardAt K H' A { D with m := M } ∧ Kp A.own A.own H H' := by
  have n (i j : Nat) {c d : Addr} (hc : A.own[i]? = some c) (hd : A.own[j]? = some d) (hi : i ≠ j) : c ≠ d := ndne B.nd i j hc hd hi
  have q (i : Nat) {c : Addr} (hc : A.own[i]? = some c) (hi : i < 5) : c ∉ A.m.own := fun h => by
    simp only [MA.own, List.mem_cons, List.not_mem_nil, or_false] at h
    rcases h with h | h | h | h
    · exact n i 5 hc rfl (by omega) h
    · exact n i 6 hc rfl (by omega) h
    · exact n i 7 hc rfl (by omega) h
    · exact n i 8 hc rfl (by omega) h
  refine ⟨⟨k.kept _ _ B.ob (q 0 rfl (by decide)), k.kept _ _ B.ln (q 1 rfl (by decide)), k.kept _ _ B.rg (q 2 rfl (by decide)), k.kept _ _ B.sn (q 3 rfl (by decide)), k.kept _ _ B.tc (q 4 rfl (by decide)),
    B.st.mono k.tups, B.sent.mono k.tups, B.tch.mono k.tups, hm, B.nd, B.ls, B.lt⟩, ?_⟩
  refine ⟨fun b o e hb => k.kept b o e fun h => hb (BA.mown h), fun b hb => .inl hb, k.tups⟩
end BoardAt

/-! ### the mirror of a board -/
def opNames : List Str := ["mark", "lit", "get", "put", "add", "sub", "and", "xor", "getb", "putb", "tob", "swap", "go", "ifz", "ifn", "call", "ret", "push", "pop", "sleep", "let", "back", "half"]
def nameS (k : Nat) : Str := opNames.getD k "none"
def nameV (k : Nat) : V := if k < 23 then .str (nameS k) else .non
def lineGet (l : List (Int × Int)) (b d : Int) : Int := ((l.find? fun p => decide (p.1 = b)).map (·.2)).getD d
def MD.comes (M : MD) (v : Int) : MD := (if M.place 4 % 2 < v % 2 then M.raise 2 else M).setPlace 4 v
def BD.lineComes (D : BD) : BD := { D with m := D.m.comes (lineGet D.ln D.beat (D.m.place 4)) }
def BD.timerGoes (D : BD) : BD :=
  if 0 < D.m.place 1 then
    if D.m.place 1 ≤ D.m.place 0 + 1 then { D with m := (D.m.raise 1).setPlace 0 0 } else { D with m := D.m.setPlace 0 (D.m.place 0 + 1) }
  else D
def BD.tick (D : BD) : BD := (BD.lineComes { D with beat := D.beat + 1 }).timerGoes
def BD.pass (D : BD) : Nat → BD
  | 0 => D
  | n + 1 => (D.pass n).tick
def BD.pending (D : BD) : Int := Builtin.bitAnd (D.m.place 2) (D.m.place 3)
def BD.halt (D : BD) (c : List V) : BD := { D with stop := some c }
def BD.store (D : BD) (i w : Int) : BD :=
  { D with tc := D.tc ++ [(("w" : Str), i)], m := D.m.put i w, sent := if i = 773 then D.sent ++ [(D.beat, w)] else D.sent }
def BD.fetchV (D : BD) (i : Int) : Int := Builtin.bitXor ((D.m.at i).getD 0) D.bend
def BD.fetch (D : BD) (i : Int) : BD := { D with tc := D.tc ++ [(("r" : Str), i)], bend := 0 }
def BD.fetches : BD → List Int → List Int × BD
  | D, [] => ([], D)
  | D, i :: r => (D.fetchV i :: ((D.fetch i).fetches r).1, ((D.fetch i).fetches r).2)
def addrs (k : Nat) (part b sp : Int) : List Int × List Int :=
  if k = 2 ∨ k = 4 ∨ k = 5 ∨ k = 6 ∨ k = 7 then ([part], [])
  else if k = 3 then ([], [part])
  else if k = 8 then ([part + b], [])
  else if k = 9 then ([], [part + b])
  else if k = 15 ∨ k = 17 then ([], [sp])
  else if k = 16 ∨ k = 18 then ([sp + 1], [])
  else if k = 21 then ([sp + 1, sp + 2], [])
  else ([], [])
def barR (M : MD) (pc : Int) : List Int → Option (List V)
  | [] => none
  | i :: r => if (M.at i).isNone = true then some [.str "far", .int pc, .int i] else barR M pc r
def barP (pc : Int) : List Int → Option (List V)
  | [] => none
  | i :: r => match barTo i with
    | some b => some [.str b.s, .int pc, .int i]
    | none => barP pc r
def barOf (M : MD) (pc : Int) (reads puts : List Int) : Option (List V) := match barR M pc reads with
  | some c => some c
  | none => barP pc puts
def BD.putting (D : BD) (k : Nat) (part i : Int) : BD :=
  let D1 := if k = 15 then { D.store i D.pc with pc := part } else D.store i D.a
  if k = 15 ∨ k = 17 then { D1 with sp := i - 1 } else D1
def BD.returning (D : BD) (k : Nat) (ws : List Int) : BD :=
  let D1 := { D with sp := D.sp + ws.length, pc := ws.getLastD 0 }
  if k = 21 then { D1 with zero := decide (ws.headD 0 % 2 = 1), lets := true } else D1
def reckA (k : Nat) (a b part w : Int) : Int :=
  if k = 1 then part else if k = 2 ∨ k = 8 ∨ k = 18 then w else if k = 4 then (a + w) % 65536 else if k = 5 then (a - w) % 65536
  else if k = 6 then Builtin.bitAnd a w else if k = 7 then Builtin.bitXor a w else if k = 22 then a / 2 else b
def isSwap (k : Nat) : Bool := !(k = 1 ∨ k = 2 ∨ k = 8 ∨ k = 18 ∨ k = 4 ∨ k = 5 ∨ k = 6 ∨ k = 7 ∨ k = 22)
def BD.reckoning (D : BD) (k : Nat) (part : Int) (ws : List Int) : BD :=
  { D with a := reckA k D.a D.b part (ws.headD 0), b := if isSwap k = true then D.a else D.b, sp := if k = 18 then D.sp + 1 else D.sp }
def BD.doing (D : BD) (k : Nat) (part : Int) (ws puts : List Int) : BD := match puts with
  | i :: _ => D.putting k part i
  | [] =>
    if k = 12 ∨ k = 13 ∨ k = 14 then
      if k = 12 ∨ (k = 13 ∧ D.zero = true) ∨ (k = 14 ∧ 32768 ≤ D.a) then { D with pc := part } else D
    else if k = 16 ∨ k = 21 then D.returning k ws
    else if k = 10 then { D with b := D.a }
    else if k = 19 then { D with asleep := true }
    else if k = 20 then { D with lets := decide (part % 2 = 1) }
    else { D.reckoning k part ws with zero := decide ((D.reckoning k part ws).a = 0) }
def BD.deedA (D : BD) (k : Nat) (part : Int) (rp : List Int × List Int) : BD :=
  ((({ D with pc := D.pc + 1 } : BD).fetches rp.1).2.doing k part (({ D with pc := D.pc + 1 } : BD).fetches rp.1).1 rp.2).pass (1 + rp.1.length + rp.2.length)
def BD.deedB (D : BD) (k : Nat) (part : Int) (rp : List Int × List Int) : Str × BD := match barOf D.m D.pc rp.1 rp.2 with
  | some c => ("stopped", D.halt c)
  | none => ("deed", D.deedA k part rp)
def BD.deedW (D : BD) (w : Int) : Str × BD :=
  if ¬ (w / 1024).toNat < 23 then ("stopped", D.halt [.str "none", .int D.pc])
  else if (w / 1024).toNat = 0 then ("stopped", D.halt [.str "mark", .int D.pc])
  else D.deedB (w / 1024).toNat (w % 1024) (addrs (w / 1024).toNat (w % 1024) D.b D.sp)
def BD.deed (D : BD) : Str × BD :=
  if D.pc < 0 ∨ 768 ≤ D.pc then ("stopped", D.halt [.str "far", .int D.pc, .int D.pc]) else D.deedW ((D.m.at D.pc).getD 0)
def BD.inter (D : BD) : BD :=
  ({ (D.store D.sp D.pc).store (D.sp - 1) (if D.zero = true then 1 else 0) with sp := D.sp - 2, lets := false, pc := if D.pending % 2 = 0 then 2 else 1 } : BD).pass 3
def BD.interrupt (D : BD) : Str × BD := match barTo D.sp with
  | some b => ("stopped", D.halt [.str b.s, .int D.pc, .int D.sp])
  | none => match barTo (D.sp - 1) with
    | some b => ("stopped", D.halt [.str b.s, .int D.pc, .int (D.sp - 1)])
    | none => ("interrupt", D.inter)
def BD.wake (D : BD) : Str × BD := if D.lets = true ∧ 0 < D.pending then D.interrupt else D.deed
def BD.turnB (D : BD) : Str × BD :=
  if D.stop.isSome = true then ("stopped", D)
  else if D.asleep = true ∧ D.pending = 0 then ("asleep", D.pass 1)
  else BD.wake { D with asleep := false }
def BD.turn (D : BD) : Str × BD := BD.turnB { D with tc := [] }
/-! ### facts for the walk -/
theorem nm_inj {j k : Nat} (hj : j < 23) (hk : k < 23) (h : nameS k = nameS j) : k = j := by
  have z : ∀ a b : _root_.Fin 23, nameS a.1 = nameS b.1 → a.1 = b.1 := by decide +kernel
  exact z ⟨k, hk⟩ ⟨j, hj⟩ h
theorem iteNm {A B : Prop} {k : Nat} (hk : k < 23) (j : Nat) {z : Str} (hj : j < 23 := by decide) (hz : z = nameS j := by decide +kernel) (h1 : k = j → A) (h2 : k ≠ j → B) : if decide (V.str (nameS k) = V.str z) = true then A else B := by
  refine iteD (fun h => h1 ?_) (fun h => h2 fun e => h (by rw [hz, e]))
  exact nm_inj hj hk ((V.str.inj h).trans hz)
theorem name_at {k : Nat} (hk : k < 23) : atI (opNames.map V.str) (k : Int) = some (.str (nameS k)) := by
  refine atI_nat ?_
  rw [List.getElem?_map]
  unfold nameS
  have : k < opNames.length := hk
  rw [List.getD_eq_getElem?_getD, List.getElem?_eq_getElem this] <;> rfl
def inKs (ks : List Nat) (k : Nat) : Bool := ks.contains k
theorem iteIn {A B : Prop} {k : Nat} (hk : k < 23) (xs : List V) (ks : List Nat) (e : ∀ j : _root_.Fin 23, inV (V.str (nameS j.1)) xs = inKs ks j.1) (h1 : k ∈ ks → A) (h2 : k ∉ ks → B) :
    if (if false = true then !inV (V.str (nameS k)) xs else inV (V.str (nameS k)) xs) = true then A else B := by
  rw [if_neg Bool.false_ne_true, e ⟨k, hk⟩]
  unfold inKs
  by_cases h : k ∈ ks
  · rw [if_pos (List.contains_iff_mem.mpr h)]; exact h1 h
  · rw [if_neg (fun z => h (List.contains_iff_mem.mp z))]; exact h2 h
theorem line_get : ∀ (l : List (Int × Int)) (b d : Int), (valV (lineK l) (Sum.inl b : Key)).getD (.int d) = .int (lineGet l b d)
  | [], _, _ => rfl
  | (x, y) :: r, b, d => by
    by_cases e : x = b
    · have h1 : valV (lineK ((x, y) :: r)) (Sum.inl b : Key) = some (.int y) := valV_pos (p := ((Sum.inl x : Key), V.int y)) (by rw [e])
      rw [h1]
      show V.int y = _
      unfold lineGet
      rw [List.find?_cons_of_pos (by simp [e])]; rfl
    · have h1 : valV (lineK ((x, y) :: r)) (Sum.inl b : Key) = valV (lineK r) (Sum.inl b : Key) := valV_neg (p := ((Sum.inl x : Key), V.int y)) (fun z => e (Sum.inl.inj z))
      rw [h1, line_get r b d]
      unfold lineGet
      rw [List.find?_cons_of_neg (by simp [e])]
namespace BoardAt
variable {K : PySem.W.Frag} {H H' : Hp} {A : BA} {D : BD} {Φ : Hp → Prop}
theorem goBeat (B : BoardAt K H A D) {t : Int} (k : ∀ H1, BoardAt K H1 A { D with beat := t } → Kp A.own A.own H H1 → Φ H1) : Φ (upd H A.p (.ins (He.ga K "Board") A.dx (putF "beat" (.int t) (BoardF A D)))) := by
  rw [BoardF_put_beat]; exact k _ (B.setZ D.zero D.lets D.asleep t D.bend).1 (B.setZ D.zero D.lets D.asleep t D.bend).2
theorem goZero (B : BoardAt K H A D) {z : Bool} (k : ∀ H1, BoardAt K H1 A { D with zero := z } → Kp A.own A.own H H1 → Φ H1) : Φ (upd H A.p (.ins (He.ga K "Board") A.dx (putF "zero" (.bl z) (BoardF A D)))) := by
  rw [BoardF_put_zero]; exact k _ (B.setZ z D.lets D.asleep D.beat D.bend).1 (B.setZ z D.lets D.asleep D.beat D.bend).2
theorem goLets (B : BoardAt K H A D) {z : Bool} (k : ∀ H1, BoardAt K H1 A { D with lets := z } → Kp A.own A.own H H1 → Φ H1) : Φ (upd H A.p (.ins (He.ga K "Board") A.dx (putF "lets" (.bl z) (BoardF A D)))) := by
  rw [BoardF_put_lets]; exact k _ (B.setZ D.zero z D.asleep D.beat D.bend).1 (B.setZ D.zero z D.asleep D.beat D.bend).2
theorem goAsleep (B : BoardAt K H A D) {z : Bool} (k : ∀ H1, BoardAt K H1 A { D with asleep := z } → Kp A.own A.own H H1 → Φ H1) : Φ (upd H A.p (.ins (He.ga K "Board") A.dx (putF "asleep" (.bl z) (BoardF A D)))) := by
  rw [BoardF_put_asleep]; exact k _ (B.setZ D.zero D.lets z D.beat D.bend).1 (B.setZ D.zero D.lets z D.beat D.bend).2
theorem goBend (B : BoardAt K H A D) {n : Int} (k : ∀ H1, BoardAt K H1 A { D with bend := n } → Kp A.own A.own H H1 → Φ H1) : Φ (upd H A.p (.ins (He.ga K "Board") A.dx (putF "bend" (.int n) (BoardF A D)))) := by
  rw [BoardF_put_bend]; exact k _ (B.setZ D.zero D.lets D.asleep D.beat n).1 (B.setZ D.zero D.lets D.asleep D.beat n).2
theorem goStop (B : BoardAt K H A D) {v : V} {o : Option (List V)} (hv : StopV H v o) (k : ∀ H1, BoardAt K H1 { A with st := v } { D with stop := o } → Kp A.own A.own H H1 → Φ H1) : Φ (upd H A.p (.ins (He.ga K "Board") A.dx (putF "stopped" v (BoardF A D)))) := by
  rw [BoardF_put_stopped]; exact k _ (B.setStop hv).1 (B.setStop hv).2
theorem goTc (B : BoardAt K H A D) {t : Addr} (ht : H t = none) (k : ∀ H1, BoardAt K H1 { A with tc := t, tv := [] } { D with tc := [] } → Kp A.own ({ A with tc := t, tv := [] } : BA).own H H1 → Φ H1) :
    Φ (upd (upd H t (.lst [])) A.p (.ins (He.ga K "Board") A.dx (putF "touched" (.ref t) (BoardF A D)))) := by
  rw [BoardF_put_touched]; exact k _ (B.setTc ht).1 (B.setTc ht).2
theorem goRg (B : BoardAt K H A D) {a b pc sp : Int} (k : ∀ H1, BoardAt K H1 A { D with a := a, b := b, pc := pc, sp := sp } → Kp A.own A.own H H1 → Φ H1) : Φ (upd H A.rg (.dK (RegD a b pc sp))) :=
  k _ (B.setRg a b pc sp).1 (B.setRg a b pc sp).2
/-- a word more in touched -/
theorem goTouch (B : BoardAt K H A D) {t : Addr} {s : Str} {i : Int} (ht : H t = none) (hl : D.tc.length < 1000) (k : ∀ H1, BoardAt K H1 { A with tv := A.tv ++ [.ref t] } { D with tc := D.tc ++ [(s, i)] } → Kp A.own A.own H H1 → Φ H1) :
    Φ (upd (upd H t (.tup [.str s, .int i])) A.tc (.lst (A.tv ++ [.ref t]))) := by
  have B1 : BoardAt K (upd H t (.tup [.str s, .int i])) A D := B.new ht
  have k0 : Kp A.own A.own H (upd H t (.tup [.str s, .int i])) := Kp.new ht
  have k1 : Kp A.own A.own (upd H t (.tup [.str s, .int i])) (upd (upd H t (.tup [.str s, .int i])) A.tc (.lst (A.tv ++ [.ref t]))) := Kp.upd B1.tc trivial (by simp)
  have n (i : Nat) {c : Addr} (hc : A.own[i]? = some c) (hi : i ≠ 4) : c ≠ A.tc := ndne B.nd i 4 hc rfl hi
  refine k _ ⟨by rw [upd_ne (n 0 rfl (by decide))]; exact B1.ob, by rw [upd_ne (n 1 rfl (by decide))]; exact B1.ln, by rw [upd_ne (n 2 rfl (by decide))]; exact B1.rg, by rw [upd_ne (n 3 rfl (by decide))]; exact B1.sn, upd_same,
    B1.st.mono k1.tups, B1.sent.mono k1.tups, ?_,
    ⟨by rw [upd_ne (n 5 rfl (by decide))]; exact B1.mem.ob, by rw [upd_ne (n 6 rfl (by decide))]; exact B1.mem.fl, by rw [upd_ne (n 7 rfl (by decide))]; exact B1.mem.ra, by rw [upd_ne (n 8 rfl (by decide))]; exact B1.mem.pl, B.mem.lf, B.mem.lr, B.mem.lp⟩,
    B.nd, B.ls, by show (D.tc ++ [(s, i)]).length ≤ 1000; rw [List.length_append]; exact hl⟩ (k0.trans k1)
  show Tups _ (A.tv ++ [.ref t]) (tcT (D.tc ++ [(s, i)]))
  unfold tcT
  rw [List.map_append]
  exact paired_snoc ⟨t, rfl, k1.tups _ _ upd_same⟩ (B1.tch.mono k1.tups)
/-- a word more sent -/
theorem goSend (B : BoardAt K H A D) {t : Addr} {b w : Int} (ht : H t = none) (hl : D.sent.length < 1000000) (k : ∀ H1, BoardAt K H1 { A with sv := A.sv ++ [.ref t] } { D with sent := D.sent ++ [(b, w)] } → Kp A.own A.own H H1 → Φ H1) :
    Φ (upd (upd H t (.tup [.int b, .int w])) A.sn (.lst (A.sv ++ [.ref t]))) := by
  have B1 : BoardAt K (upd H t (.tup [.int b, .int w])) A D := B.new ht
  have k0 : Kp A.own A.own H (upd H t (.tup [.int b, .int w])) := Kp.new ht
  have k1 : Kp A.own A.own (upd H t (.tup [.int b, .int w])) (upd (upd H t (.tup [.int b, .int w])) A.sn (.lst (A.sv ++ [.ref t]))) := Kp.upd B1.sn trivial (by simp)
  have n (i : Nat) {c : Addr} (hc : A.own[i]? = some c) (hi : i ≠ 3) : c ≠ A.sn := ndne B.nd i 3 hc rfl hi
  refine k _ ⟨by rw [upd_ne (n 0 rfl (by decide))]; exact B1.ob, by rw [upd_ne (n 1 rfl (by decide))]; exact B1.ln, by rw [upd_ne (n 2 rfl (by decide))]; exact B1.rg, upd_same, by rw [upd_ne (n 4 rfl (by decide))]; exact B1.tc,
    B1.st.mono k1.tups, ?_, B1.tch.mono k1.tups,
    ⟨by rw [upd_ne (n 5 rfl (by decide))]; exact B1.mem.ob, by rw [upd_ne (n 6 rfl (by decide))]; exact B1.mem.fl, by rw [upd_ne (n 7 rfl (by decide))]; exact B1.mem.ra, by rw [upd_ne (n 8 rfl (by decide))]; exact B1.mem.pl, B.mem.lf, B.mem.lr, B.mem.lp⟩,
    B.nd, by show (D.sent ++ [(b, w)]).length ≤ 1000000; rw [List.length_append]; exact hl, B.lt⟩ (k0.trans k1)
  show Tups _ (A.sv ++ [.ref t]) (sentT (D.sent ++ [(b, w)]))
  unfold sentT
  rw [List.map_append]
  exact paired_snoc ⟨t, rfl, k1.tups _ _ upd_same⟩ (B1.sent.mono k1.tups)
theorem goMem (B : BoardAt K H A D) {M : MD} (hm : MemAt K H' A.m M) (k : Kp A.m.own A.m.own H H') : BoardAt K H' A { D with m := M } ∧ Kp A.own A.own H H' := B.setMem hm k
end BoardAt

section
variable {P : Program} {w : World} {K : PySem.W.Frag} {mg : Str → Option Value} {base : Heap}
def sp_name_of (K : PySem.W.Frag) : Sp := fun vs H Q E_ => ∃ (n : Int), vs = [.int n] ∧ (0 ≤ n ∧ Q (nameV (n / 1024).toNat) H)
abbrev N_name_of : List Str := ["word"]
theorem sc_name_of : FnScope N_name_of ["word"] (defScope s_name_of) := ⟨rfl, rfl, rfl, by decide +kernel, rfl, by decide +kernel, by decide +kernel⟩
theorem ok_name_of (T : Txt K mg) : Ok P w K mg base CX0 1 (He.fAd K ("name_of", none)) ["word"] (sp_name_of K) := by
  obtain ⟨fd, F⟩ := T.d_name_of
  refine ⟨fd, F.ok sc_name_of (fun vs H Q E h => by obtain ⟨n, rfl, _⟩ := h; rfl) (fun cdv A_ outer s_ H vs Q E hr h => ?_), F.bindsN (fun _ _ _ _ _ _ us hl => match us, hl with | [_], _ => rfl), F.kp⟩
  obtain ⟨n, rfl, h⟩ := h
  have hu := hu_of hr
  refine ⟨_, PSs.nox (pss_cons (ps_if (pt_cmpR op_lt (pe_op op_fdiv (pv 0) pe_int) (pe_callB call_len_seq (by rfl) T.f_len PySem.boot_len (pa_cons (gr_ (by rfl) T.g_NAMES) pa_nil)) (nomark _)) (pss_one (ps_ret (pe_ix ix_list (gr_ (by rfl) T.g_NAMES) (pe_op op_fdiv (pv 0) pe_int) (fun _ _ => rfl)))) pss_nil)
  (pss_one (ps_ret pe_non))), ?_⟩
  obtain ⟨hn, q⟩ := h
  refine ⟨_, rfl, _, _, rfl, rfl, ⟨by decide, by decide⟩, _, _, rfl, .inl (T.l_NAMES _), _, _, rfl, rfl, _, rfl, iteD (fun h1 => ?_) (fun h1 => ?_)⟩
  · have h2 : n / 1024 < 23 := h1
    have h3 : (n / 1024).toNat < 23 := by omega
    have e : n / 1024 = (((n / 1024).toNat : Nat) : Int) := by omega
    have hA : atI (opNames.map V.str) (n / 1024) = some (.str (nameS (n / 1024).toNat)) := by rw [e]; exact name_at h3
    unfold nameV at q; rw [if_pos h3] at q
    exact ⟨_, rfl, _, _, rfl, rfl, ⟨by decide, by decide⟩, _, _, _, _, rfl, rfl, T.l_NAMES _, hA, q⟩
  · have h2 : ¬ (n / 1024).toNat < 23 := fun z => h1 (by show n / 1024 < 23; omega)
    unfold nameV at q; rw [if_neg h2] at q; exact q
def sp_part_of (K : PySem.W.Frag) : Sp := fun vs H Q E_ => ∃ (n : Int), vs = [.int n] ∧ (Q (.int (n % 1024)) H)
abbrev N_part_of : List Str := ["word"]
theorem sc_part_of : FnScope N_part_of ["word"] (defScope s_part_of) := ⟨rfl, rfl, rfl, by decide +kernel, rfl, by decide +kernel, by decide +kernel⟩
theorem ok_part_of (T : Txt K mg) : Ok P w K mg base CX0 1 (He.fAd K ("part_of", none)) ["word"] (sp_part_of K) := by
  obtain ⟨fd, F⟩ := T.d_part_of
  refine ⟨fd, F.ok sc_part_of (fun vs H Q E h => by obtain ⟨n, rfl, _⟩ := h; rfl) (fun cdv A_ outer s_ H vs Q E hr h => ?_), F.bindsN (fun _ _ _ _ _ _ us hl => match us, hl with | [_], _ => rfl), F.kp⟩
  obtain ⟨n, rfl, h⟩ := h
  have hu := hu_of hr
  refine ⟨_, PSs.nox (pss_one (ps_ret (pe_op op_mod (pv 0) pe_int))), ?_⟩
  exact ⟨_, rfl, _, _, rfl, rfl, (by show (0 : Int) < 1024; decide), h⟩
def sp_Memory_word_at (K : PySem.W.Frag) : Sp := fun vs H Q E_ => ∃ (A : MA) (M : MD) (i : Int), vs = [.ref A.p, .int i] ∧ (MemAt K H A M ∧ Q (optV (M.at i)) H)
abbrev N_Memory_word_at : List Str := ["self", "address"]
theorem sc_Memory_word_at : FnScope N_Memory_word_at ["self", "address"] (defScope s_Memory_word_at) := ⟨rfl, rfl, rfl, by decide +kernel, rfl, by decide +kernel, by decide +kernel⟩
theorem ok_Memory_word_at (T : Txt K mg) : Ok P w K mg base CX0 1 (He.fAd K ("Memory", some "word_at")) ["self", "address"] (sp_Memory_word_at K) := by
  obtain ⟨fd, F⟩ := T.d_Memory_word_at
  refine ⟨fd, F.ok sc_Memory_word_at (fun vs H Q E h => by obtain ⟨A, M, i, rfl, _⟩ := h; rfl) (fun cdv A_ outer s_ H vs Q E hr h => ?_), F.bindsN (fun _ _ _ _ _ _ us hl => match us, hl with | [_, _], _ => rfl), F.kp⟩
  obtain ⟨A, M, i, rfl, h⟩ := h
  have hu := hu_of hr
  refine ⟨_, PSs.nox (pss_cons (ps_if (PW.pt (pw_or (pt_cmpR op_lt (pv 1) pe_int (nomark _)) (pw_or1 (pt_cmpR op_gt (pv 1) (gi_ (by rfl) T.c_LINE_OUT) (nomark _))))) (pss_one (ps_ret pe_non)) pss_nil)
  (pss_cons (ps_if (pt_cmpR op_lt (pv 1) (gi_ (by rfl) T.c_FLASH) (nomark _)) (pss_one (ps_ret (pe_ix ix_list (pe_fld (pv 0) rfl) (pv 1) (fun _ _ => rfl)))) pss_nil)
  (pss_cons (ps_if (pt_cmpR op_lt (pv 1) (gi_ (by rfl) T.c_RAM) (nomark _)) (pss_one (ps_ret (pe_ix ix_list (pe_fld (pv 0) rfl) (pe_op op_sub (pv 1) (gi_ (by rfl) T.c_FLASH)) (fun _ _ => rfl)))) pss_nil)
  (pss_one (ps_ret (pe_ix ix_list (pe_fld (pv 0) rfl) (pe_op op_sub (pv 1) (gi_ (by rfl) T.c_RAM)) (fun _ _ => rfl))))))), ?_⟩
  obtain ⟨B, q⟩ := h
  have none_ : (i < 0 ∨ 773 < i) → Q .non H := fun z => by unfold MD.at at q; rw [if_pos z] at q; exact q
  refine ⟨_, rfl, _, _, rfl, rfl, _, rfl, iteD (fun h1 => iteT (none_ (.inl h1))) (fun h1 => ?_)⟩
  refine ⟨_, rfl, _, _, rfl, rfl, _, rfl, iteD (fun h2 => none_ (.inr h2)) (fun h2 => ?_)⟩
  unfold MD.at at q
  rw [if_neg (by omega)] at q
  refine ⟨_, rfl, _, _, rfl, rfl, _, rfl, iteD (fun h3 => ?_) (fun h3 => ?_)⟩
  · rw [if_pos h3] at q
    have hl : i.toNat < M.fl.length := by rw [B.lf]; omega
    rw [List.getElem?_eq_getElem hl] at q
    exact ⟨_, rfl, _, _, _, _, _, rfl, B.ob, T.k_Memory, T.n_Memory_flash, MemoryF_flash, _, rfl, _, _, _, _, rfl, rfl, SqL.of B.fl, at_i (by omega) (List.getElem?_eq_getElem hl), q⟩
  · rw [if_neg h3] at q
    refine ⟨_, rfl, _, _, rfl, rfl, _, rfl, iteD (fun h4 => ?_) (fun h4 => ?_)⟩
    · rw [if_pos h4] at q
      have hl : (i - 512).toNat < M.ra.length := by rw [B.lr]; omega
      rw [List.getElem?_eq_getElem hl] at q
      exact ⟨_, rfl, _, _, _, _, _, rfl, B.ob, T.k_Memory, T.n_Memory_ram, MemoryF_ram, _, rfl, _, _, rfl, rfl, _, _, _, _, rfl, rfl, SqL.of B.ra, at_i (by omega) (List.getElem?_eq_getElem hl), q⟩
    · rw [if_neg h4] at q
      have hl : (i - 768).toNat < M.pl.length := by rw [B.lp]; omega
      rw [List.getElem?_eq_getElem hl] at q
      exact ⟨_, rfl, _, _, _, _, _, rfl, B.ob, T.k_Memory, T.n_Memory_places, MemoryF_places, _, rfl, _, _, rfl, rfl, _, _, _, _, rfl, rfl, SqL.of B.pl, at_i (by omega) (List.getElem?_eq_getElem hl), q⟩
def sp_Memory_bar_to (K : PySem.W.Frag) : Sp := fun vs H Q E_ => ∃ (A : MA) (i : Int), vs = [.ref A.p, .int i] ∧ ((∃ M, MemAt K H A M) ∧ Q (barV (barTo i)) H)
abbrev N_Memory_bar_to : List Str := ["self", "address"]
theorem sc_Memory_bar_to : FnScope N_Memory_bar_to ["self", "address"] (defScope s_Memory_bar_to) := ⟨rfl, rfl, rfl, by decide +kernel, rfl, by decide +kernel, by decide +kernel⟩
theorem ok_Memory_bar_to (T : Txt K mg) : Ok P w K mg base CX0 1 (He.fAd K ("Memory", some "bar_to")) ["self", "address"] (sp_Memory_bar_to K) := by
  obtain ⟨fd, F⟩ := T.d_Memory_bar_to
  refine ⟨fd, F.ok sc_Memory_bar_to (fun vs H Q E h => by obtain ⟨A, i, rfl, _⟩ := h; rfl) (fun cdv A_ outer s_ H vs Q E hr h => ?_), F.bindsN (fun _ _ _ _ _ _ us hl => match us, hl with | [_, _], _ => rfl), F.kp⟩
  obtain ⟨A, i, rfl, h⟩ := h
  have hu := hu_of hr
  refine ⟨_, PSs.nox (pss_cons (ps_if (PW.pt (pw_or (pt_cmpR op_lt (pv 1) pe_int (nomark _)) (pw_or1 (pt_cmpR op_gt (pv 1) (gi_ (by rfl) T.c_LINE_OUT) (nomark _))))) (pss_one (ps_ret pe_str)) pss_nil)
  (pss_cons (ps_if (pt_cmpR op_lt (pv 1) (gi_ (by rfl) T.c_FLASH) (nomark _)) (pss_one (ps_ret pe_str)) pss_nil)
  (pss_cons (ps_if (pt_cmpR op_eq (pv 1) (gi_ (by rfl) T.c_LINE_IN) (nomark _)) (pss_one (ps_ret pe_str)) pss_nil)
  (pss_one (ps_ret pe_non))))), ?_⟩
  obtain ⟨⟨M, B⟩, q⟩ := h
  have far_ : (i < 0 ∨ 773 < i) → Q (.str "far") H := fun z => by unfold barTo at q; rw [if_pos z] at q; exact q
  refine ⟨_, rfl, _, _, rfl, rfl, _, rfl, iteD (fun h1 => iteT (far_ (.inl h1))) (fun h1 => ?_)⟩
  refine ⟨_, rfl, _, _, rfl, rfl, _, rfl, iteD (fun h2 => far_ (.inr h2)) (fun h2 => ?_)⟩
  unfold barTo at q
  rw [if_neg (by omega)] at q
  refine ⟨_, rfl, _, _, rfl, rfl, _, rfl, iteD (fun h3 => ?_) (fun h3 => ?_)⟩
  · rw [if_pos h3] at q; exact q
  · rw [if_neg h3] at q
    refine ⟨_, rfl, rfl, _, rfl, iteI (fun h4 => ?_) (fun h4 => ?_)⟩
    · rw [if_pos h4] at q; exact q
    · rw [if_neg h4] at q; exact q
def sp_Memory_put (K : PySem.W.Frag) : Sp := fun vs H Q E_ => ∃ (A : MA) (M : MD) (i n : Int), vs = [.ref A.p, .int i, .int n] ∧ (MemAt K H A M ∧ barTo i = none ∧ ∀ H', MemAt K H' A (M.put i n) → Kp A.own A.own H H' → Q .non H')
abbrev N_Memory_put : List Str := ["self", "address", "word"]
theorem sc_Memory_put : FnScope N_Memory_put ["self", "address", "word"] (defScope s_Memory_put) := ⟨rfl, rfl, rfl, by decide +kernel, rfl, by decide +kernel, by decide +kernel⟩
theorem ok_Memory_put (T : Txt K mg) : Ok P w K mg base CX0 1 (He.fAd K ("Memory", some "put")) ["self", "address", "word"] (sp_Memory_put K) := by
  obtain ⟨fd, F⟩ := T.d_Memory_put
  refine ⟨fd, F.ok sc_Memory_put (fun vs H Q E h => by obtain ⟨A, M, i, n, rfl, _⟩ := h; rfl) (fun cdv A_ outer s_ H vs Q E hr h => ?_), F.bindsN (fun _ _ _ _ _ _ us hl => match us, hl with | [_, _, _], _ => rfl), F.kp⟩
  obtain ⟨A, M, i, n, rfl, h⟩ := h
  have hu := hu_of hr
  refine ⟨_, PSs.nox (pss_one (ps_if (pt_cmpR op_lt (pv 1) (gi_ (by rfl) T.c_RAM) (nomark _)) (pss_one (ps_asg (pv 2) (pg_sub (pe_fld (pv 0) rfl) (pe_op op_sub (pv 1) (gi_ (by rfl) T.c_FLASH)) set_list))) (pss_one (ps_if (pt_cmpR op_eq (pv 1) (gi_ (by rfl) T.c_FLAGS) (nomark _)) (pss_one (ps_asg (pe_op op_and (pe_ix ix_list (pe_fld (pv 0) rfl) (pe_op op_sub (gi_ (by rfl) T.c_FLAGS) (gi_ (by rfl) T.c_RAM)) (fun _ _ => rfl)) (pe_op op_sub pe_int (pv 2))) (pg_sub (pe_fld (pv 0) rfl) (pe_op op_sub (gi_ (by rfl) T.c_FLAGS) (gi_ (by rfl) T.c_RAM)) set_list))) (pss_one (ps_asg (pv 2) (pg_sub (pe_fld (pv 0) rfl) (pe_op op_sub (pv 1) (gi_ (by rfl) T.c_RAM)) set_list))))))), ?_⟩
  obtain ⟨B, hb, q⟩ := h
  have hr : 512 ≤ i ∧ i ≤ 773 := by
    unfold barTo at hb
    split at hb
    · cases hb
    · split at hb
      · cases hb
      · omega
  unfold MD.put at q
  refine ⟨_, rfl, _, _, rfl, rfl, _, rfl, iteD (fun h1 => ?_) (fun h1 => ?_)⟩
  · rw [if_pos h1] at q
    refine ⟨_, rfl, _, rfl, _, _, _, _, _, rfl, B.ob, T.k_Memory, T.n_Memory_ram, MemoryF_ram, _, rfl, _, _, rfl, rfl, _, _, _, _, rfl, rfl, B.ra, ixN_at (k := (i - 512).toNat) (by omega) (by rw [B.lr]; omega), ?_⟩
    exact q _ (B.setRa _ n).1 (B.setRa _ n).2
  · rw [if_neg h1] at q
    refine ⟨_, rfl, rfl, _, rfl, iteI (fun h2 => ?_) (fun h2 => ?_)⟩
    · rw [if_pos h2] at q
      refine ⟨_, rfl, _, _, _, _, _, rfl, B.ob, T.k_Memory, T.n_Memory_places, MemoryF_places, _, _, rfl, rfl, _, _, _, _, rfl, rfl, SqL.of B.pl, getD_at (k := 2) (by decide) (by rw [B.lp]; decide), _, rfl, _, _, rfl, rfl, _, _, rfl, rfl, _, rfl, _, _, _, _, _, rfl, B.ob, T.k_Memory, T.n_Memory_places, MemoryF_places, _, _, rfl, rfl, _, _, _, _, rfl, rfl, B.pl, ixN_at (k := 2) (by decide) (by rw [B.lp]; decide), ?_⟩
      exact q _ (B.setPl 2 _).1 (B.setPl 2 _).2
    · rw [if_neg h2] at q
      refine ⟨_, rfl, _, rfl, _, _, _, _, _, rfl, B.ob, T.k_Memory, T.n_Memory_places, MemoryF_places, _, rfl, _, _, rfl, rfl, _, _, _, _, rfl, rfl, B.pl, ixN_at (k := (i - 768).toNat) (by omega) (by rw [B.lp]; omega), ?_⟩
      exact q _ (B.setPl _ n).1 (B.setPl _ n).2
def sp_Board_line_comes (K : PySem.W.Frag) : Sp := fun vs H Q E_ => ∃ (A : BA) (D : BD), vs = [.ref A.p] ∧ (BoardAt K H A D ∧ ∀ H', BoardAt K H' A D.lineComes → Kp A.own A.own H H' → Q .non H')
abbrev N_Board_line_comes : List Str := ["self", "value"]
theorem sc_Board_line_comes : FnScope N_Board_line_comes ["self"] (defScope s_Board_line_comes) := ⟨rfl, rfl, rfl, by decide +kernel, rfl, by decide +kernel, by decide +kernel⟩
theorem ok_Board_line_comes (T : Txt K mg) : Ok P w K mg base CX0 2 (He.fAd K ("Board", some "line_comes")) ["self"] (sp_Board_line_comes K) := by
  obtain ⟨_, G_Memory_place, b_Memory_place, kp_Memory_place⟩ := ok_Memory_place (P := P) (w := w) (base := base) T
  obtain ⟨_, G_Memory_raise_flag, b_Memory_raise_flag, kp_Memory_raise_flag⟩ := ok_Memory_raise_flag (P := P) (w := w) (base := base) T
  obtain ⟨_, G_Memory_set_place, b_Memory_set_place, kp_Memory_set_place⟩ := ok_Memory_set_place (P := P) (w := w) (base := base) T
  obtain ⟨fd, F⟩ := T.d_Board_line_comes
  refine ⟨fd, F.ok sc_Board_line_comes (fun vs H Q E h => by obtain ⟨A, D, rfl, _⟩ := h; rfl) (fun cdv A_ outer s_ H vs Q E hr h => ?_), F.bindsN (fun _ _ _ _ _ _ us hl => match us, hl with | [_], _ => rfl), F.kp⟩
  obtain ⟨A, D, rfl, h⟩ := h
  have hu := hu_of hr
  refine ⟨_, PSs.nox (pss_cons (ps_set (i := 1) sc_Board_line_comes.nd rfl (.inl rfl) (pe_dget2 hu (pe_fld (pv 0) rfl) (pe_fld (pv 0) rfl) (pe_meth (pe_fld (pv 0) rfl) T.k_Memory T.m_Memory_place G_Memory_place (hr.mono (by decide)) b_Memory_place .nil pass0 (pa_cons (gi_ (by rfl) T.c_LINE_IN) pa_nil)) ⟨rfl, rfl, rfl, rfl⟩))
  (pss_cons (ps_if (pt_cmpR op_gt (pe_op op_mod (pv 1) pe_int) (pe_op op_mod (pe_meth (pe_fld (pv 0) rfl) T.k_Memory T.m_Memory_place G_Memory_place (hr.mono (by decide)) b_Memory_place .nil pass0 (pa_cons (gi_ (by rfl) T.c_LINE_IN) pa_nil)) pe_int) (nomark _)) (pss_one (ps_expr (pe_meth (pe_fld (pv 0) rfl) T.k_Memory T.m_Memory_raise_flag G_Memory_raise_flag (hr.mono (by decide)) b_Memory_raise_flag .nil pass0 (pa_cons (gi_ (by rfl) T.c_LINE_BIT) pa_nil)))) pss_nil)
  (pss_one (ps_expr (pe_meth (pe_fld (pv 0) rfl) T.k_Memory T.m_Memory_set_place G_Memory_set_place (hr.mono (by decide)) b_Memory_set_place .nil pass0 (pa_cons (gi_ (by rfl) T.c_LINE_IN) (pa_cons (pv 1) pa_nil))))))), ?_⟩
  obtain ⟨B, q⟩ := h
  obtain ⟨o, ho, eo⟩ : ∃ o, DGet H A.ln (.int D.beat) o ∧ o.getD (.int (D.m.place 4)) = .int (lineGet D.ln D.beat (D.m.place 4)) := ⟨_, DGet.k (k := Sum.inl D.beat) B.ln, line_get _ _ _⟩
  refine ⟨_, rfl, _, _, _, _, _, rfl, B.ob, T.k_Board, T.n_Board_line, BoardF_line, _, rfl, .inl ⟨_, .inl B.ln⟩, _, rfl, _, _, _, _, _, rfl, B.ob, T.k_Board, T.n_Board_beat, BoardF_beat, _, rfl, _, _, _, _, _, rfl, B.ob, T.k_Board, T.n_Board_memory, BoardF_memory, _, _, _, rfl, B.mem.ob, (by kernel_rfl), _, _, 4, rfl, B.mem, (by decide), o, ho, ?_⟩
  rw [eo]
  refine ⟨_, rfl, _, _, rfl, rfl, (by show (0 : Int) < 2; decide), _, rfl, _, _, _, _, _, rfl, B.ob, T.k_Board, T.n_Board_memory, BoardF_memory, _, _, _, rfl, B.mem.ob, (by kernel_rfl), _, _, 4, rfl, B.mem, (by decide), _, _, rfl, rfl, (by show (0 : Int) < 2; decide), _, _, rfl, rfl, _, rfl, iteD (fun h1 => ?_) (fun h1 => ?_)⟩
  · refine ⟨_, rfl, _, _, _, _, _, rfl, B.ob, T.k_Board, T.n_Board_memory, BoardF_memory, _, _, _, rfl, B.mem.ob, (by kernel_rfl), _, _, 2, rfl, B.mem, fun H1 M1 k1 => ?_⟩
    obtain ⟨B1, k2⟩ := B.setMem M1 k1
    refine ⟨_, rfl, _, _, _, _, _, rfl, B1.ob, T.k_Board, T.n_Board_memory, BoardF_memory, _, _, _, rfl, B1.mem.ob, (by kernel_rfl), _, rfl, _, _, 4, _, rfl, B1.mem, (by decide), fun H2 M2 k3 => ?_⟩
    obtain ⟨B2, k4⟩ := B1.setMem M2 k3
    refine q _ ?_ (k2.trans k4)
    unfold BD.lineComes MD.comes
    rw [if_pos h1]
    exact B2
  · refine ⟨_, rfl, _, _, _, _, _, rfl, B.ob, T.k_Board, T.n_Board_memory, BoardF_memory, _, _, _, rfl, B.mem.ob, (by kernel_rfl), _, rfl, _, _, 4, _, rfl, B.mem, (by decide), fun H2 M2 k3 => ?_⟩
    obtain ⟨B2, k4⟩ := B.setMem M2 k3
    refine q _ ?_ k4
    unfold BD.lineComes MD.comes
    rw [if_neg h1]
    exact B2
def sp_Board_timer_goes (K : PySem.W.Frag) : Sp := fun vs H Q E_ => ∃ (A : BA) (D : BD), vs = [.ref A.p] ∧ (BoardAt K H A D ∧ ∀ H', BoardAt K H' A D.timerGoes → Kp A.own A.own H H' → Q .non H')
abbrev N_Board_timer_goes : List Str := ["self", "count"]
theorem sc_Board_timer_goes : FnScope N_Board_timer_goes ["self"] (defScope s_Board_timer_goes) := ⟨rfl, rfl, rfl, by decide +kernel, rfl, by decide +kernel, by decide +kernel⟩
theorem ok_Board_timer_goes (T : Txt K mg) : Ok P w K mg base CX0 2 (He.fAd K ("Board", some "timer_goes")) ["self"] (sp_Board_timer_goes K) := by
  obtain ⟨_, G_Memory_place, b_Memory_place, kp_Memory_place⟩ := ok_Memory_place (P := P) (w := w) (base := base) T
  obtain ⟨_, G_Memory_raise_flag, b_Memory_raise_flag, kp_Memory_raise_flag⟩ := ok_Memory_raise_flag (P := P) (w := w) (base := base) T
  obtain ⟨_, G_Memory_set_place, b_Memory_set_place, kp_Memory_set_place⟩ := ok_Memory_set_place (P := P) (w := w) (base := base) T
  obtain ⟨fd, F⟩ := T.d_Board_timer_goes
  refine ⟨fd, F.ok sc_Board_timer_goes (fun vs H Q E h => by obtain ⟨A, D, rfl, _⟩ := h; rfl) (fun cdv A_ outer s_ H vs Q E hr h => ?_), F.bindsN (fun _ _ _ _ _ _ us hl => match us, hl with | [_], _ => rfl), F.kp⟩
  obtain ⟨A, D, rfl, h⟩ := h
  have hu := hu_of hr
  refine ⟨_, PSs.nox (pss_one (ps_if (pt_cmpR op_gt (pe_meth (pe_fld (pv 0) rfl) T.k_Memory T.m_Memory_place G_Memory_place (hr.mono (by decide)) b_Memory_place .nil pass0 (pa_cons (gi_ (by rfl) T.c_TOP) pa_nil)) pe_int (nomark _)) (pss_cons (ps_set (i := 1) sc_Board_timer_goes.nd rfl (.inl rfl) (pe_op op_add (pe_meth (pe_fld (pv 0) rfl) T.k_Memory T.m_Memory_place G_Memory_place (hr.mono (by decide)) b_Memory_place .nil pass0 (pa_cons (gi_ (by rfl) T.c_COUNT) pa_nil)) pe_int))
    (pss_cons (ps_if (pt_cmpR op_ge (pv 1) (pe_meth (pe_fld (pv 0) rfl) T.k_Memory T.m_Memory_place G_Memory_place (hr.mono (by decide)) b_Memory_place .nil pass0 (pa_cons (gi_ (by rfl) T.c_TOP) pa_nil)) (nomark _)) (pss_cons (ps_set (i := 1) sc_Board_timer_goes.nd rfl (.inl rfl) pe_int)
      (pss_one (ps_expr (pe_meth (pe_fld (pv 0) rfl) T.k_Memory T.m_Memory_raise_flag G_Memory_raise_flag (hr.mono (by decide)) b_Memory_raise_flag .nil pass0 (pa_cons (gi_ (by rfl) T.c_TIMER_BIT) pa_nil))))) pss_nil)
    (pss_one (ps_expr (pe_meth (pe_fld (pv 0) rfl) T.k_Memory T.m_Memory_set_place G_Memory_set_place (hr.mono (by decide)) b_Memory_set_place .nil pass0 (pa_cons (gi_ (by rfl) T.c_COUNT) (pa_cons (pv 1) pa_nil))))))) pss_nil)), ?_⟩
  obtain ⟨B, q⟩ := h
  refine ⟨_, rfl, _, _, _, _, _, rfl, B.ob, T.k_Board, T.n_Board_memory, BoardF_memory, _, _, _, rfl, B.mem.ob, (by kernel_rfl), _, _, 1, rfl, B.mem, (by decide), _, _, rfl, rfl, _, rfl, iteD (fun h1 => ?_) (fun h1 => ?_)⟩
  · refine ⟨_, rfl, _, _, _, _, _, rfl, B.ob, T.k_Board, T.n_Board_memory, BoardF_memory, _, _, _, rfl, B.mem.ob, (by kernel_rfl), _, _, 0, rfl, B.mem, (by decide), _, _, rfl, rfl, ?_⟩
    refine ⟨_, rfl, _, rfl, _, _, _, _, _, rfl, B.ob, T.k_Board, T.n_Board_memory, BoardF_memory, _, _, _, rfl, B.mem.ob, (by kernel_rfl), _, _, 1, rfl, B.mem, (by decide), _, _, rfl, rfl, _, rfl, iteD (fun h2 => ?_) (fun h2 => ?_)⟩
    · refine ⟨_, rfl, _, _, _, _, _, rfl, B.ob, T.k_Board, T.n_Board_memory, BoardF_memory, _, _, _, rfl, B.mem.ob, (by kernel_rfl), _, _, 1, rfl, B.mem, fun H1 M1 k1 => ?_⟩
      obtain ⟨B1, k2⟩ := B.setMem M1 k1
      refine ⟨_, rfl, _, _, _, _, _, rfl, B1.ob, T.k_Board, T.n_Board_memory, BoardF_memory, _, _, _, rfl, B1.mem.ob, (by kernel_rfl), _, rfl, _, _, 0, _, rfl, B1.mem, (by decide), fun H2 M2 k3 => ?_⟩
      obtain ⟨B2, k4⟩ := B1.setMem M2 k3
      refine q _ ?_ (k2.trans k4)
      unfold BD.timerGoes
      rw [if_pos h1, if_pos h2]
      exact B2
    · refine ⟨_, rfl, _, _, _, _, _, rfl, B.ob, T.k_Board, T.n_Board_memory, BoardF_memory, _, _, _, rfl, B.mem.ob, (by kernel_rfl), _, rfl, _, _, 0, _, rfl, B.mem, (by decide), fun H2 M2 k3 => ?_⟩
      obtain ⟨B2, k4⟩ := B.setMem M2 k3
      refine q _ ?_ k4
      unfold BD.timerGoes
      rw [if_pos h1, if_neg h2]
      exact B2
  · refine q _ ?_ (Kp.refl _ _)
    unfold BD.timerGoes
    rw [if_neg h1]
    exact B
def sp_Board_pending (K : PySem.W.Frag) : Sp := fun vs H Q E_ => ∃ (A : BA) (D : BD), vs = [.ref A.p] ∧ (BoardAt K H A D ∧ Q (.int D.pending) H)
abbrev N_Board_pending : List Str := ["self"]
theorem sc_Board_pending : FnScope N_Board_pending ["self"] (defScope s_Board_pending) := ⟨rfl, rfl, rfl, by decide +kernel, rfl, by decide +kernel, by decide +kernel⟩
theorem ok_Board_pending (T : Txt K mg) : Ok P w K mg base CX0 2 (He.fAd K ("Board", some "pending")) ["self"] (sp_Board_pending K) := by
  obtain ⟨_, G_Memory_place, b_Memory_place, kp_Memory_place⟩ := ok_Memory_place (P := P) (w := w) (base := base) T
  obtain ⟨fd, F⟩ := T.d_Board_pending
  refine ⟨fd, F.ok sc_Board_pending (fun vs H Q E h => by obtain ⟨A, D, rfl, _⟩ := h; rfl) (fun cdv A_ outer s_ H vs Q E hr h => ?_), F.bindsN (fun _ _ _ _ _ _ us hl => match us, hl with | [_], _ => rfl), F.kp⟩
  obtain ⟨A, D, rfl, h⟩ := h
  have hu := hu_of hr
  refine ⟨_, PSs.nox (pss_one (ps_ret (pe_op op_and (pe_meth (pe_fld (pv 0) rfl) T.k_Memory T.m_Memory_place G_Memory_place (hr.mono (by decide)) b_Memory_place .nil pass0 (pa_cons (gi_ (by rfl) T.c_FLAGS) pa_nil)) (pe_meth (pe_fld (pv 0) rfl) T.k_Memory T.m_Memory_place G_Memory_place (hr.mono (by decide)) b_Memory_place .nil pass0 (pa_cons (gi_ (by rfl) T.c_MASK) pa_nil))))), ?_⟩
  obtain ⟨B, q⟩ := h
  exact ⟨_, rfl, _, _, _, _, _, rfl, B.ob, T.k_Board, T.n_Board_memory, BoardF_memory, _, _, _, rfl, B.mem.ob, (by kernel_rfl), _, _, 2, rfl, B.mem, (by decide), _, rfl, _, _, _, _, _, rfl, B.ob, T.k_Board, T.n_Board_memory, BoardF_memory, _, _, _, rfl, B.mem.ob, (by kernel_rfl), _, _, 3, rfl, B.mem, (by decide), _, _, rfl, rfl, q⟩
def sp_Board_pass_beats (K : PySem.W.Frag) : Sp := fun vs H Q E_ => ∃ (A : BA) (D : BD) (n : Nat), vs = [.ref A.p, .int (n : Int)] ∧ (BoardAt K H A D ∧ n ≤ 1000 ∧ ∀ H', BoardAt K H' A (D.pass n) → Kp A.own A.own H H' → Q .non H')
abbrev N_Board_pass_beats : List Str := ["self", "many", "k"]
theorem sc_Board_pass_beats : FnScope N_Board_pass_beats ["self", "many"] (defScope s_Board_pass_beats) := ⟨rfl, rfl, rfl, by decide +kernel, rfl, by decide +kernel, by decide +kernel⟩
theorem ok_Board_pass_beats (T : Txt K mg) : Ok P w K mg base CX0 3 (He.fAd K ("Board", some "pass_beats")) ["self", "many"] (sp_Board_pass_beats K) := by
  obtain ⟨_, G_Board_line_comes, b_Board_line_comes, kp_Board_line_comes⟩ := ok_Board_line_comes (P := P) (w := w) (base := base) T
  obtain ⟨_, G_Board_timer_goes, b_Board_timer_goes, kp_Board_timer_goes⟩ := ok_Board_timer_goes (P := P) (w := w) (base := base) T
  obtain ⟨fd, F⟩ := T.d_Board_pass_beats
  refine ⟨fd, F.ok sc_Board_pass_beats (fun vs H Q E h => by obtain ⟨A, D, n, rfl, _⟩ := h; rfl) (fun cdv A_ outer s_ H vs Q E hr h => ?_), F.bindsN (fun _ _ _ _ _ _ us hl => match us, hl with | [_, _], _ => rfl), F.kp⟩
  obtain ⟨A, D, n, rfl, h⟩ := h
  have hu := hu_of hr
  refine ⟨_, PSs.nox (pss_one (ps_for PassesOwn.never rfl (pi_range1 (by rfl) T.f_range (pa_cons (pv 1) pa_nil)) (pg_name (i := 2) sc_Board_pass_beats.nd rfl (.inl rfl)) (pss_cons (ps_fld (pv 0) (pe_op op_add (pe_fld (pv 0) rfl) pe_int) rfl)
    (pss_cons (ps_expr (pe_meth0 (pv 0) T.k_Board T.m_Board_line_comes G_Board_line_comes (hr.mono (by decide)) b_Board_line_comes .nil pass0))
    (pss_one (ps_expr (pe_meth0 (pv 0) T.k_Board T.m_Board_timer_goes G_Board_timer_goes (hr.mono (by decide)) b_Board_timer_goes .nil pass0))))))), ?_⟩
  obtain ⟨B, hn, q⟩ := h
  refine ⟨_, rfl, _, rfl, by omega, by omega, for_range (lo := 0) (n := (n : Int).toNat) (fun i σ H' => ∃ v, σ = [some (.ref A.p), some (.int n), v] ∧ BoardAt K H' A (D.pass i) ∧ Kp A.own A.own H H') ⟨_, rfl, B, Kp.refl _ _⟩ ?_ ?_⟩
  · rintro i σ H1 hi ⟨v, rfl, B1, k1⟩
    refine ⟨_, rfl, _, _, _, _, _, rfl, B1.ob, T.k_Board, T.n_Board_beat, BoardF_beat, _, _, rfl, rfl, _, rfl, _, _, _, _, rfl, B1.ob, T.k_Board, T.n_Board_beat, BoardF_len, B1.goBeat fun H2 B2 k2 => ?_⟩
    refine ⟨_, rfl, _, _, _, rfl, B2.ob, (by kernel_rfl), _, _, rfl, B2, fun H3 B3 k3 => ?_⟩
    refine ⟨_, rfl, _, _, _, rfl, B3.ob, (by kernel_rfl), _, _, rfl, B3, fun H4 B4 k4 => ?_⟩
    exact ⟨_, rfl, B4, k1.trans (k2.trans (k3.trans k4))⟩
  · rintro σ H1 ⟨v, rfl, B1, k1⟩
    exact q _ B1 k1
end

theorem barTo_none {i : Int} (h : barTo i = none) : 512 ≤ i ∧ i ≤ 773 ∧ i ≠ 772 := by
  unfold barTo at h
  split at h
  · cases h
  · split at h
    · cases h
    · split at h
      · cases h
      · exact ⟨by omega, by omega, by assumption⟩
theorem barV_some {b : Bar} : barV (some b) ≠ .non := fun z => by cases z
theorem iteOptN {A B : Prop} {o : Option Bar} (h1 : ∀ b, o = some b → A) (h2 : o = none → B) : if (!decide (barV o = .non)) = true then A else B := by
  cases o with
  | some b => rw [decide_eq_false (show ¬ barV (some b) = .non from barV_some)]; exact h1 b rfl
  | none => exact h2 rfl
theorem iteOptI {A B : Prop} {o : Option Int} (h1 : o = none → A) (h2 : ∀ n, o = some n → B) : if decide (optV o = .non) = true then A else B := by
  cases o with
  | some b => rw [decide_eq_false (show ¬ optV (some b) = .non from fun z => by cases z)]; exact h2 b rfl
  | none => exact h1 rfl
/-- a pair of two new lists -/
theorem pair_new {K : PySem.W.Frag} {H H0 : Hp} {A : BA} {D : BD} (B0 : BoardAt K H0 A D) (k0 : Kp A.own A.own H H0) {Q : VK} (r p : List Int) {l1 l2 t : Addr} (n1 : H0 l1 = none) (n2 : upd H0 l1 (.lst (r.map V.int)) l2 = none)
    (nt : upd (upd H0 l1 (.lst (r.map V.int))) l2 (.lst (p.map V.int)) t = none)
    (q : ∀ H' t l1 l2, BoardAt K H' A D → Kp A.own A.own H H' → H' t = some (.tup [.ref l1, .ref l2]) → H' l1 = some (.lst (r.map V.int)) → H' l2 = some (.lst (p.map V.int)) → H l1 = none → H l2 = none → l1 ≠ l2 → Q (.ref t) H') :
    Q (.ref t) (upd (upd (upd H0 l1 (.lst (r.map V.int))) l2 (.lst (p.map V.int))) t (.tup [.ref l1, .ref l2])) := by
  have h12 : l1 ≠ l2 := fun z => by rw [← z, upd_same] at n2; cases n2
  have n2' : H0 l2 = none := by rw [upd_ne h12.symm] at n2; exact n2
  have ht2 : t ≠ l2 := fun z => by rw [z, upd_same] at nt; cases nt
  have ht1 : t ≠ l1 := fun z => by rw [z, upd_ne h12, upd_same] at nt; cases nt
  exact q _ t l1 l2 (((B0.new n1).new n2).new nt) (k0.trans ((Kp.new n1).trans ((Kp.new n2).trans (Kp.new nt)))) upd_same (by rw [upd_ne ht1.symm, upd_ne h12, upd_same]) (by rw [upd_ne ht2.symm, upd_same]) (k0.free n1 (B0.fresh n1)) (k0.free n2' (B0.fresh n2')) h12
section
variable {P : Program} {w : World} {K : PySem.W.Frag} {mg : Str → Option Value} {base : Heap}
def sp_Board_stop (K : PySem.W.Frag) : Sp := fun vs H Q E_ => ∃ (A : BA) (D : BD) (t : Addr) (xs : List V), vs = [.ref A.p, .ref t] ∧ (BoardAt K H A D ∧ H t = some (.tup xs) ∧ ∀ H' A', BoardAt K H' A' (D.halt xs) → A'.p = A.p → Kp A.own A'.own H H' → Q (.str "stopped") H')
abbrev N_Board_stop : List Str := ["self", "cause"]
theorem sc_Board_stop : FnScope N_Board_stop ["self", "cause"] (defScope s_Board_stop) := ⟨rfl, rfl, rfl, by decide +kernel, rfl, by decide +kernel, by decide +kernel⟩
theorem ok_Board_stop (T : Txt K mg) : Ok P w K mg base CX0 1 (He.fAd K ("Board", some "stop")) ["self", "cause"] (sp_Board_stop K) := by
  obtain ⟨fd, F⟩ := T.d_Board_stop
  refine ⟨fd, F.ok sc_Board_stop (fun vs H Q E h => by obtain ⟨A, D, t, xs, rfl, _⟩ := h; rfl) (fun cdv A_ outer s_ H vs Q E hr h => ?_), F.bindsN (fun _ _ _ _ _ _ us hl => match us, hl with | [_, _], _ => rfl), F.kp⟩
  obtain ⟨A, D, t, xs, rfl, h⟩ := h
  have hu := hu_of hr
  refine ⟨_, PSs.nox (pss_cons (ps_fld (pv 0) (pv 1) rfl)
  (pss_one (ps_ret pe_str))), ?_⟩
  obtain ⟨B, ht, q⟩ := h
  refine ⟨_, rfl, _, rfl, _, _, _, _, rfl, B.ob, T.k_Board, T.n_Board_stopped, BoardF_len, B.goStop (o := some xs) ⟨t, rfl, ht⟩ fun H1 B1 k1 => ?_⟩
  exact q _ _ B1 rfl k1
def sp_Board_store (K : PySem.W.Frag) : Sp := fun vs H Q E_ => ∃ (A : BA) (D : BD) (i n : Int), vs = [.ref A.p, .int i, .int n] ∧ (BoardAt K H A D ∧ barTo i = none ∧ D.tc.length < 1000 ∧ D.sent.length < 1000000 ∧ ∀ H' A', BoardAt K H' A' (D.store i n) → A'.p = A.p → Kp A.own A'.own H H' → Q .non H')
abbrev N_Board_store : List Str := ["self", "address", "word"]
theorem sc_Board_store : FnScope N_Board_store ["self", "address", "word"] (defScope s_Board_store) := ⟨rfl, rfl, rfl, by decide +kernel, rfl, by decide +kernel, by decide +kernel⟩
theorem ok_Board_store (T : Txt K mg) : Ok P w K mg base CX0 2 (He.fAd K ("Board", some "store")) ["self", "address", "word"] (sp_Board_store K) := by
  obtain ⟨_, G_Memory_put, b_Memory_put, kp_Memory_put⟩ := ok_Memory_put (P := P) (w := w) (base := base) T
  obtain ⟨fd, F⟩ := T.d_Board_store
  refine ⟨fd, F.ok sc_Board_store (fun vs H Q E h => by obtain ⟨A, D, i, n, rfl, _⟩ := h; rfl) (fun cdv A_ outer s_ H vs Q E hr h => ?_), F.bindsN (fun _ _ _ _ _ _ us hl => match us, hl with | [_, _, _], _ => rfl), F.kp⟩
  obtain ⟨A, D, i, n, rfl, h⟩ := h
  have hu := hu_of hr
  refine ⟨_, PSs.nox (pss_cons (ps_expr (pe_bm PySem.F.plainAttrs_list PySem.F.slot_list_append PySem.F.type_list_append mt_append (pe_fld (pv 0) rfl) (pa_cons (pe_tup (pa_cons pe_str (pa_cons (pv 1) pa_nil))) pa_nil)))
  (pss_cons (ps_expr (pe_meth (pe_fld (pv 0) rfl) T.k_Memory T.m_Memory_put G_Memory_put (hr.mono (by decide)) b_Memory_put .nil pass0 (pa_cons (pv 1) (pa_cons (pv 2) pa_nil))))
  (pss_one (ps_if (pt_cmpR op_eq (pv 1) (gi_ (by rfl) T.c_LINE_OUT) (nomark _)) (pss_one (ps_expr (pe_bm PySem.F.plainAttrs_list PySem.F.slot_list_append PySem.F.type_list_append mt_append (pe_fld (pv 0) rfl) (pa_cons (pe_tup (pa_cons (pe_fld (pv 0) rfl) (pa_cons (pv 2) pa_nil))) pa_nil)))) pss_nil)))), ?_⟩
  obtain ⟨B, hb, hl, hs, q⟩ := h
  refine ⟨_, rfl, _, _, _, _, _, rfl, B.ob, T.k_Board, T.n_Board_touched, BoardF_touched, .inl ⟨rfl, _, SqL.of B.tc⟩, _, rfl, by show 2 ≤ sizeLine; decide, fun t ht => ⟨_, _, _, rfl, rfl, by rw [upd_ne (ne_of_none B.tc ht)]; exact B.tc, small_ ?_, B.goTouch ht hl fun H1 B1 k1 => ?_⟩⟩
  · have e := Paired.length B.tch
    unfold tcT at e
    rw [List.length_map] at e
    omega
  refine ⟨_, rfl, _, _, _, _, _, rfl, B1.ob, T.k_Board, T.n_Board_memory, BoardF_memory, _, _, _, rfl, B1.mem.ob, (by kernel_rfl), _, rfl, _, rfl, _, _, _, _, rfl, B1.mem, hb, fun H2 M2 k2 => ?_⟩
  obtain ⟨B2, k3⟩ := B1.setMem M2 k2
  unfold BD.store at q
  refine ⟨_, rfl, rfl, _, rfl, iteI (fun h1 => ?_) (fun h1 => ?_)⟩
  · rw [if_pos h1] at q
    refine ⟨_, rfl, _, _, _, _, _, rfl, B2.ob, T.k_Board, T.n_Board_sent, BoardF_sent, .inl ⟨rfl, _, SqL.of B2.sn⟩, _, rfl, _, _, _, _, _, rfl, B2.ob, T.k_Board, T.n_Board_beat, BoardF_beat, _, rfl, by show 2 ≤ sizeLine; decide, fun u hu2 => ⟨_, _, _, rfl, rfl, by rw [upd_ne (ne_of_none B2.sn hu2)]; exact B2.sn, small_ ?_, B2.goSend hu2 hs fun H3 B3 k4 => ?_⟩⟩
    · have e : A.sv.length = (sentT D.sent).length := Paired.length B2.sent
      unfold sentT at e
      rw [List.length_map] at e
      have : D.sent.length < 1000000 := hs
      show A.sv.length ≤ 16777215
      omega
    exact q _ _ B3 rfl (k1.trans (k3.trans k4))
  · rw [if_neg h1] at q
    exact q _ _ B2 rfl (k1.trans k3)
def sp_Board_fetch (K : PySem.W.Frag) : Sp := fun vs H Q E_ => ∃ (A : BA) (D : BD) (i n : Int), vs = [.ref A.p, .int i] ∧ (BoardAt K H A D ∧ D.m.at i = some n ∧ D.tc.length < 1000 ∧ ∀ H' A', BoardAt K H' A' (D.fetch i) → A'.p = A.p → Kp A.own A'.own H H' → Q (.int (D.fetchV i)) H')
abbrev N_Board_fetch : List Str := ["self", "address", "word"]
theorem sc_Board_fetch : FnScope N_Board_fetch ["self", "address"] (defScope s_Board_fetch) := ⟨rfl, rfl, rfl, by decide +kernel, rfl, by decide +kernel, by decide +kernel⟩
theorem ok_Board_fetch (T : Txt K mg) : Ok P w K mg base CX0 2 (He.fAd K ("Board", some "fetch")) ["self", "address"] (sp_Board_fetch K) := by
  obtain ⟨_, G_Memory_word_at, b_Memory_word_at, kp_Memory_word_at⟩ := ok_Memory_word_at (P := P) (w := w) (base := base) T
  obtain ⟨fd, F⟩ := T.d_Board_fetch
  refine ⟨fd, F.ok sc_Board_fetch (fun vs H Q E h => by obtain ⟨A, D, i, n, rfl, _⟩ := h; rfl) (fun cdv A_ outer s_ H vs Q E hr h => ?_), F.bindsN (fun _ _ _ _ _ _ us hl => match us, hl with | [_, _], _ => rfl), F.kp⟩
  obtain ⟨A, D, i, n, rfl, h⟩ := h
  have hu := hu_of hr
  refine ⟨_, PSs.nox (pss_cons (ps_expr (pe_bm PySem.F.plainAttrs_list PySem.F.slot_list_append PySem.F.type_list_append mt_append (pe_fld (pv 0) rfl) (pa_cons (pe_tup (pa_cons pe_str (pa_cons (pv 1) pa_nil))) pa_nil)))
  (pss_cons (ps_set (i := 2) sc_Board_fetch.nd rfl (.inl rfl) (pe_op op_xor (pe_meth (pe_fld (pv 0) rfl) T.k_Memory T.m_Memory_word_at G_Memory_word_at (hr.mono (by decide)) b_Memory_word_at .nil pass0 (pa_cons (pv 1) pa_nil)) (pe_fld (pv 0) rfl)))
  (pss_cons (ps_fld (pv 0) pe_int rfl)
  (pss_one (ps_ret (pv 2)))))), ?_⟩
  obtain ⟨B, hb, hl, q⟩ := h
  refine ⟨_, rfl, _, _, _, _, _, rfl, B.ob, T.k_Board, T.n_Board_touched, BoardF_touched, .inl ⟨rfl, _, SqL.of B.tc⟩, _, rfl, by show 2 ≤ sizeLine; decide, fun t ht => ⟨_, _, _, rfl, rfl, by rw [upd_ne (ne_of_none B.tc ht)]; exact B.tc, small_ ?_, B.goTouch ht hl fun H1 B1 k1 => ?_⟩⟩
  · have e := Paired.length B.tch
    unfold tcT at e
    rw [List.length_map] at e
    omega
  refine ⟨_, rfl, _, _, _, _, _, rfl, B1.ob, T.k_Board, T.n_Board_memory, BoardF_memory, _, _, _, rfl, B1.mem.ob, (by kernel_rfl), _, rfl, _, _, _, rfl, B1.mem, ?_⟩
  rw [hb]
  refine ⟨_, rfl, _, _, _, _, _, rfl, B1.ob, T.k_Board, T.n_Board_bend, BoardF_bend, _, _, rfl, rfl, ?_⟩
  refine ⟨_, rfl, _, _, _, _, rfl, B1.ob, T.k_Board, T.n_Board_bend, BoardF_len, B1.goBend fun H2 B2 k2 => ?_⟩
  unfold BD.fetchV at q
  rw [hb] at q
  exact ⟨_, rfl, q _ _ B2 rfl (k1.trans k2)⟩
def sp_Board_addresses (K : PySem.W.Frag) : Sp := fun vs H Q E_ => ∃ (A : BA) (D : BD) (k : Nat) (x : Int), vs = [.ref A.p, .str (nameS k), .int x] ∧ (BoardAt K H A D ∧ k < 23 ∧ ∀ H' t l1 l2, BoardAt K H' A D → Kp A.own A.own H H' → H' t = some (.tup [.ref l1, .ref l2]) → H' l1 = some (.lst ((addrs k x D.b D.sp).1.map V.int)) → H' l2 = some (.lst ((addrs k x D.b D.sp).2.map V.int)) → H l1 = none → H l2 = none → l1 ≠ l2 → Q (.ref t) H')
abbrev N_Board_addresses : List Str := ["self", "name", "part", "sp"]
theorem sc_Board_addresses : FnScope N_Board_addresses ["self", "name", "part"] (defScope s_Board_addresses) := ⟨rfl, rfl, rfl, by decide +kernel, rfl, by decide +kernel, by decide +kernel⟩
theorem ok_Board_addresses (T : Txt K mg) : Ok P w K mg base CX0 1 (He.fAd K ("Board", some "addresses")) ["self", "name", "part"] (sp_Board_addresses K) := by
  obtain ⟨fd, F⟩ := T.d_Board_addresses
  refine ⟨fd, F.ok sc_Board_addresses (fun vs H Q E h => by obtain ⟨A, D, k, x, rfl, _⟩ := h; rfl) (fun cdv A_ outer s_ H vs Q E hr h => ?_), F.bindsN (fun _ _ _ _ _ _ us hl => match us, hl with | [_, _, _], _ => rfl), F.kp⟩
  obtain ⟨A, D, k, x, rfl, h⟩ := h
  have hu := hu_of hr
  refine ⟨_, PSs.nox (pss_cons (ps_set (i := 3) sc_Board_addresses.nd rfl (.inl rfl) (pe_dget hu (pe_fld (pv 0) rfl) pe_str (fun _ _ => rfl)))
  (pss_cons (ps_if (pt_cmpR op_in_seq (pv 1) (gr_ (by rfl) T.g_READING) (by rfl)) (pss_one (ps_ret (pe_tup (pa_cons (pe_lst (pa_cons (pv 2) pa_nil)) (pa_cons (pe_lst pa_nil) pa_nil))))) pss_nil)
  (pss_cons (ps_if (pt_cmpR op_eq (pv 1) pe_str (nomark _)) (pss_one (ps_ret (pe_tup (pa_cons (pe_lst pa_nil) (pa_cons (pe_lst (pa_cons (pv 2) pa_nil)) pa_nil))))) pss_nil)
  (pss_cons (ps_if (pt_cmpR op_eq (pv 1) pe_str (nomark _)) (pss_one (ps_ret (pe_tup (pa_cons (pe_lst (pa_cons (pe_op op_add (pv 2) (pe_dget hu (pe_fld (pv 0) rfl) pe_str (fun _ _ => rfl))) pa_nil)) (pa_cons (pe_lst pa_nil) pa_nil))))) pss_nil)
  (pss_cons (ps_if (pt_cmpR op_eq (pv 1) pe_str (nomark _)) (pss_one (ps_ret (pe_tup (pa_cons (pe_lst pa_nil) (pa_cons (pe_lst (pa_cons (pe_op op_add (pv 2) (pe_dget hu (pe_fld (pv 0) rfl) pe_str (fun _ _ => rfl))) pa_nil)) pa_nil))))) pss_nil)
  (pss_cons (ps_if (pt_cmpR op_in_seq (pv 1) (pe_tup (pa_cons pe_str (pa_cons pe_str pa_nil))) (by rfl)) (pss_one (ps_ret (pe_tup (pa_cons (pe_lst pa_nil) (pa_cons (pe_lst (pa_cons (pv 3) pa_nil)) pa_nil))))) pss_nil)
  (pss_cons (ps_if (pt_cmpR op_in_seq (pv 1) (pe_tup (pa_cons pe_str (pa_cons pe_str pa_nil))) (by rfl)) (pss_one (ps_ret (pe_tup (pa_cons (pe_lst (pa_cons (pe_op op_add (pv 3) pe_int) pa_nil)) (pa_cons (pe_lst pa_nil) pa_nil))))) pss_nil)
  (pss_cons (ps_if (pt_cmpR op_eq (pv 1) pe_str (nomark _)) (pss_one (ps_ret (pe_tup (pa_cons (pe_lst (pa_cons (pe_op op_add (pv 3) pe_int) (pa_cons (pe_op op_add (pv 3) pe_int) pa_nil))) (pa_cons (pe_lst pa_nil) pa_nil))))) pss_nil)
  (pss_one (ps_ret (pe_tup (pa_cons (pe_lst pa_nil) (pa_cons (pe_lst pa_nil) pa_nil))))))))))))), ?_⟩
  obtain ⟨B, hk, q⟩ := h
  have s0 : 0 ≤ sizeLine := by decide
  have s1 : 1 ≤ sizeLine := by decide
  have s2 : 2 ≤ sizeLine := by decide
  unfold addrs at q
  refine ⟨_, rfl, _, _, _, _, _, rfl, B.ob, T.k_Board, T.n_Board_registers, BoardF_registers, _, _, rfl, B.get_sp, ?_⟩
  refine ⟨_, rfl, _, _, rfl, .inl (T.l_READING _), rfl, rfl, _, rfl, iteIn hk _ [2, 4, 5, 6, 7] (by decide +kernel) (fun h1 => ?_) (fun h1 => ?_)⟩
  · rw [if_pos (by simpa using h1)] at q
    exact ⟨_, rfl, s1, fun l1 n1 => ⟨s0, fun l2 n2 => ⟨s2, fun t nt => pair_new B (Kp.refl _ _) [x] [] n1 n2 nt q⟩⟩⟩
  rw [if_neg (by simpa using h1)] at q
  refine ⟨_, rfl, rfl, _, rfl, iteNm hk 3 (h1 := fun h2 => ?_) (h2 := fun h2 => ?_)⟩
  · rw [if_pos h2] at q
    exact ⟨s0, fun l1 n1 => ⟨_, rfl, s1, fun l2 n2 => ⟨s2, fun t nt => pair_new B (Kp.refl _ _) [] [x] n1 n2 nt q⟩⟩⟩
  rw [if_neg h2] at q
  refine ⟨_, rfl, rfl, _, rfl, iteNm hk 8 (h1 := fun h3 => ?_) (h2 := fun h3 => ?_)⟩
  · rw [if_pos h3] at q
    exact ⟨_, rfl, _, rfl, _, _, _, _, _, rfl, B.ob, T.k_Board, T.n_Board_registers, BoardF_registers, _, _, rfl, B.get_b, _, _, rfl, rfl, s1, fun l1 n1 => ⟨s0, fun l2 n2 => ⟨s2, fun t nt => pair_new B (Kp.refl _ _) [x + D.b] [] n1 n2 nt q⟩⟩⟩
  rw [if_neg h3] at q
  refine ⟨_, rfl, rfl, _, rfl, iteNm hk 9 (h1 := fun h4 => ?_) (h2 := fun h4 => ?_)⟩
  · rw [if_pos h4] at q
    refine ⟨s0, fun l1 n1 => ?_⟩
    have B1 : BoardAt K _ A D := B.new (o := .lst (([] : List Int).map V.int)) n1
    exact ⟨_, rfl, _, rfl, _, _, _, _, _, rfl, B1.ob, T.k_Board, T.n_Board_registers, BoardF_registers, _, _, rfl, B1.get_b, _, _, rfl, rfl, s1, fun l2 n2 => ⟨s2, fun t nt => pair_new B (Kp.refl _ _) [] [x + D.b] n1 n2 nt q⟩⟩
  rw [if_neg h4] at q
  refine ⟨_, rfl, s2, fun u1 nu1 => ⟨_, _, rfl, .inr (SqT.of upd_same), rfl, rfl, _, rfl, iteIn hk _ [15, 17] (by decide +kernel) (fun h5 => ?_) (fun h5 => ?_)⟩⟩
  · rw [if_pos (by simpa using h5)] at q
    exact ⟨s0, fun l1 n1 => ⟨_, rfl, s1, fun l2 n2 => ⟨s2, fun t nt => pair_new (B.new nu1) (Kp.new nu1) [] [D.sp] n1 n2 nt q⟩⟩⟩
  rw [if_neg (by simpa using h5)] at q
  have B1 : BoardAt K _ A D := B.new (o := .tup [.str "call", .str "push"]) nu1
  have k1 : Kp A.own A.own H _ := Kp.new (o := .tup [.str "call", .str "push"]) nu1
  refine ⟨_, rfl, s2, fun u2 nu2 => ⟨_, _, rfl, .inr (SqT.of upd_same), rfl, rfl, _, rfl, iteIn hk _ [16, 18] (by decide +kernel) (fun h6 => ?_) (fun h6 => ?_)⟩⟩
  · rw [if_pos (by simpa using h6)] at q
    exact ⟨_, rfl, _, _, rfl, rfl, s1, fun l1 n1 => ⟨s0, fun l2 n2 => ⟨s2, fun t nt => pair_new (B1.new nu2) (k1.trans (Kp.new nu2)) [D.sp + 1] [] n1 n2 nt q⟩⟩⟩
  rw [if_neg (by simpa using h6)] at q
  have B2 : BoardAt K _ A D := B1.new (o := .tup [.str "ret", .str "pop"]) nu2
  have k2 : Kp A.own A.own H _ := k1.trans (Kp.new (o := .tup [.str "ret", .str "pop"]) nu2)
  refine ⟨_, rfl, rfl, _, rfl, iteNm hk 21 (h1 := fun h7 => ?_) (h2 := fun h7 => ?_)⟩
  · rw [if_pos h7] at q
    exact ⟨_, rfl, _, _, rfl, rfl, _, rfl, _, _, rfl, rfl, s2, fun l1 n1 => ⟨s0, fun l2 n2 => ⟨s2, fun t nt => pair_new B2 k2 [D.sp + 1, D.sp + 2] [] n1 n2 nt q⟩⟩⟩
  · rw [if_neg h7] at q
    exact ⟨s0, fun l1 n1 => ⟨s0, fun l2 n2 => ⟨s2, fun t nt => pair_new B2 k2 [] [] n1 n2 nt q⟩⟩⟩
def sp_Board_bar_of (K : PySem.W.Frag) : Sp := fun vs H Q E_ => ∃ (A : BA) (D : BD) (l1 l2 : Addr) (r p : List Int), vs = [.ref A.p, .ref l1, .ref l2] ∧ (BoardAt K H A D ∧ H l1 = some (.lst (r.map V.int)) ∧ H l2 = some (.lst (p.map V.int)) ∧ ∀ H' v, Kp A.own A.own H H' → BoardAt K H' A D → (match barOf D.m D.pc r p with | none => v = V.non | some xs => ∃ t, v = .ref t ∧ H' t = some (.tup xs)) → Q v H')
abbrev N_Board_bar_of : List Str := ["self", "reads", "puts", "address", "bar"]
theorem sc_Board_bar_of : FnScope N_Board_bar_of ["self", "reads", "puts"] (defScope s_Board_bar_of) := ⟨rfl, rfl, rfl, by decide +kernel, rfl, by decide +kernel, by decide +kernel⟩
theorem ok_Board_bar_of (T : Txt K mg) : Ok P w K mg base CX0 2 (He.fAd K ("Board", some "bar_of")) ["self", "reads", "puts"] (sp_Board_bar_of K) := by
  obtain ⟨_, G_Memory_word_at, b_Memory_word_at, kp_Memory_word_at⟩ := ok_Memory_word_at (P := P) (w := w) (base := base) T
  obtain ⟨_, G_Memory_bar_to, b_Memory_bar_to, kp_Memory_bar_to⟩ := ok_Memory_bar_to (P := P) (w := w) (base := base) T
  obtain ⟨fd, F⟩ := T.d_Board_bar_of
  refine ⟨fd, F.ok sc_Board_bar_of (fun vs H Q E h => by obtain ⟨A, D, l1, l2, r, p, rfl, _⟩ := h; rfl) (fun cdv A_ outer s_ H vs Q E hr h => ?_), F.bindsN (fun _ _ _ _ _ _ us hl => match us, hl with | [_, _, _], _ => rfl), F.kp⟩
  obtain ⟨A, D, l1, l2, r, p, rfl, h⟩ := h
  have hu := hu_of hr
  refine ⟨_, PSs.nox (pss_cons (ps_for PassesOwn.never rfl (pi_list (pv 1)) (pg_name (i := 3) sc_Board_bar_of.nd rfl (.inl rfl)) (pss_one (ps_if (pt_cmpR op_isN (pe_meth (pe_fld (pv 0) rfl) T.k_Memory T.m_Memory_word_at G_Memory_word_at (hr.mono (by decide)) b_Memory_word_at .nil pass0 (pa_cons (pv 3) pa_nil)) pe_non (nomark _)) (pss_one (ps_ret (pe_tup (pa_cons pe_str (pa_cons (pe_dget hu (pe_fld (pv 0) rfl) pe_str (fun _ _ => rfl)) (pa_cons (pv 3) pa_nil)))))) pss_nil)))
  (pss_cons (ps_for PassesOwn.never rfl (pi_list (pv 2)) (pg_name (i := 3) sc_Board_bar_of.nd rfl (.inl rfl)) (pss_cons (ps_set (i := 4) sc_Board_bar_of.nd rfl (.inl rfl) (pe_meth (pe_fld (pv 0) rfl) T.k_Memory T.m_Memory_bar_to G_Memory_bar_to (hr.mono (by decide)) b_Memory_bar_to .nil pass0 (pa_cons (pv 3) pa_nil)))
    (pss_one (ps_if (pt_cmpR op_notN (pv 4) pe_non (nomark _)) (pss_one (ps_ret (pe_tup (pa_cons (pv 4) (pa_cons (pe_dget hu (pe_fld (pv 0) rfl) pe_str (fun _ _ => rfl)) (pa_cons (pv 3) pa_nil)))))) pss_nil))))
  (pss_one (ps_ret pe_non)))), ?_⟩
  obtain ⟨B, h1, h2, q⟩ := h
  have s3 : 3 ≤ sizeLine := by decide
  unfold barOf at q
  refine ⟨_, rfl, _, rfl, ⟨_, SqL.of h1⟩, for_list (K := K) (a := l1) (xs := r.map V.int) (fun i σ H' => ∃ v, σ = [some (.ref A.p), some (.ref l1), some (.ref l2), v, none] ∧ H' = H ∧ barR D.m D.pc r = barR D.m D.pc (r.drop i)) ⟨_, rfl, rfl, rfl⟩ (fun i σ H' _ ⟨_, _, e, _⟩ => by rw [e]; exact SqL.of h1) ?_ ?_⟩
  · rintro i y σ H1 hi ⟨v, rfl, rfl, e⟩
    rw [List.getElem?_map] at hi
    cases hz : r[i]? with
    | none => rw [hz] at hi; cases hi
    | some z =>
      rw [hz] at hi
      have ey : y = .int z := (Option.some.inj hi).symm
      subst ey
      have hil := (List.getElem?_eq_some_iff.mp hz).1
      have ed : r.drop i = z :: r.drop (i + 1) := by
        rw [List.drop_eq_getElem_cons hil]
        congr 1
        exact (List.getElem?_eq_some_iff.mp hz).2
      rw [ed, show barR D.m D.pc (z :: r.drop (i + 1)) = if (D.m.at z).isNone = true then some [.str "far", .int D.pc, .int z] else barR D.m D.pc (r.drop (i + 1)) from rfl] at e
      refine ⟨_, rfl, _, _, _, _, _, rfl, B.ob, T.k_Board, T.n_Board_memory, BoardF_memory, _, _, _, rfl, B.mem.ob, (by kernel_rfl), _, rfl, _, _, _, rfl, B.mem, rfl, _, rfl, iteOptI (fun g => ?_) (fun n g => ?_)⟩
      · rw [g, if_pos (show (none : Option Int).isNone = true from rfl)] at e
        rw [e] at q
        refine ⟨_, rfl, _, _, _, _, _, rfl, B.ob, T.k_Board, T.n_Board_registers, BoardF_registers, _, _, rfl, B.get_pc, _, rfl, s3, fun t nt => ?_⟩
        exact q _ _ (Kp.new nt) (B.new nt) ⟨t, rfl, upd_same⟩
      · rw [g, if_neg (by simp)] at e
        exact ⟨_, rfl, rfl, e⟩
  · rintro σ H1 ⟨v, rfl, rfl, e⟩
    rw [List.length_map, List.drop_length] at e
    rw [e, show barR D.m D.pc [] = none from rfl] at q
    refine ⟨_, rfl, _, rfl, ⟨_, SqL.of h2⟩, for_list (K := K) (a := l2) (xs := p.map V.int) (fun i σ H' => ∃ v u, σ = [some (.ref A.p), some (.ref l1), some (.ref l2), v, u] ∧ H' = H1 ∧ barP D.pc p = barP D.pc (p.drop i)) ⟨_, _, rfl, rfl, rfl⟩ (fun i σ H' _ ⟨_, _, _, e, _⟩ => by rw [e]; exact SqL.of h2) ?_ ?_⟩
    · rintro i y σ H2 hi ⟨v, u, rfl, rfl, e⟩
      rw [List.getElem?_map] at hi
      cases hz : p[i]? with
      | none => rw [hz] at hi; cases hi
      | some z =>
        rw [hz] at hi
        have ey : y = .int z := (Option.some.inj hi).symm
        subst ey
        have hil := (List.getElem?_eq_some_iff.mp hz).1
        have ed : p.drop i = z :: p.drop (i + 1) := by
          rw [List.drop_eq_getElem_cons hil]
          congr 1
          exact (List.getElem?_eq_some_iff.mp hz).2
        rw [ed, show barP D.pc (z :: p.drop (i + 1)) = match barTo z with | some b => some [.str b.s, .int D.pc, .int z] | none => barP D.pc (p.drop (i + 1)) from rfl] at e
        refine ⟨_, rfl, _, _, _, _, _, rfl, B.ob, T.k_Board, T.n_Board_memory, BoardF_memory, _, _, _, rfl, B.mem.ob, (by kernel_rfl), _, rfl, _, _, rfl, ⟨_, B.mem⟩, ?_⟩
        refine ⟨_, rfl, rfl, _, rfl, iteOptN (fun b g => ?_) (fun g => ?_)⟩
        · rw [g] at e
          simp only [] at e
          rw [e] at q
          refine ⟨_, rfl, _, rfl, _, _, _, _, _, rfl, B.ob, T.k_Board, T.n_Board_registers, BoardF_registers, _, _, rfl, B.get_pc, _, rfl, s3, fun t nt => ?_⟩
          exact q _ _ (Kp.new nt) (B.new nt) ⟨t, rfl, by rw [g]; exact upd_same⟩
        · rw [g] at e
          exact ⟨_, _, rfl, rfl, e⟩
    · rintro σ H2 ⟨v, u, rfl, rfl, e⟩
      rw [List.length_map, List.drop_length] at e
      rw [e, show barP D.pc [] = none from rfl] at q
      exact q _ _ (Kp.refl _ _) B rfl
end

theorem BoardAt.as {K : PySem.W.Frag} {H : Hp} {A1 : BA} {D : BD} {p : Addr} (B : BoardAt K H A1 D) (e : A1.p = p) : BoardAt K H { A1 with p := p } D := by subst e; exact B
theorem Kp.as {S : List Addr} {H H' : Hp} {A1 : BA} {p : Addr} (k : Kp S A1.own H H') (e : A1.p = p) : Kp S ({ A1 with p := p } : BA).own H H' := by subst e; exact k
theorem decI {a b : Int} : decide (V.int a = V.int b) = decide (a = b) := by
  by_cases h : a = b
  · rw [decide_eq_true h, decide_eq_true (congrArg V.int h)]
  · rw [decide_eq_false h, decide_eq_false fun z => h (V.int.inj z)]
theorem at_last {ws : List Int} (h : ws ≠ []) : atI (ws.map V.int) (-1) = some (.int (ws.getLastD 0)) := by
  obtain ⟨r, y, rfl⟩ : ∃ r y, ws = r ++ [y] := ⟨_, _, (List.dropLast_concat_getLast h).symm⟩
  have e2 : (r ++ [y]).getLastD 0 = y := by rw [List.getLastD_eq_getLast?, List.getLast?_concat]; rfl
  rw [e2, List.map_append]
  exact atI_last (r.map V.int) (.int y)
theorem at_head {ws : List Int} (h : ws ≠ []) : atI (ws.map V.int) 0 = some (.int (ws.headD 0)) := by
  cases ws with
  | nil => exact absurd rfl h
  | cons x r => exact atI_nat (j := 0) rfl
section
variable {P : Program} {w : World} {K : PySem.W.Frag} {mg : Str → Option Value} {base : Heap}
def sp_Board_do_putting (K : PySem.W.Frag) : Sp := fun vs H Q E_ => ∃ (A : BA) (D : BD) (k : Nat) (x i : Int), vs = [.ref A.p, .str (nameS k), .int x, .int i] ∧ (BoardAt K H A D ∧ k < 23 ∧ barTo i = none ∧ D.tc.length < 1000 ∧ D.sent.length < 1000000 ∧ ∀ H' A', BoardAt K H' A' (D.putting k x i) → A'.p = A.p → Kp A.own A'.own H H' → Q .non H')
abbrev N_Board_do_putting : List Str := ["self", "name", "part", "address"]
theorem sc_Board_do_putting : FnScope N_Board_do_putting ["self", "name", "part", "address"] (defScope s_Board_do_putting) := ⟨rfl, rfl, rfl, by decide +kernel, rfl, by decide +kernel, by decide +kernel⟩
theorem ok_Board_do_putting (T : Txt K mg) : Ok P w K mg base CX0 3 (He.fAd K ("Board", some "do_putting")) ["self", "name", "part", "address"] (sp_Board_do_putting K) := by
  obtain ⟨_, G_Board_store, b_Board_store, kp_Board_store⟩ := ok_Board_store (P := P) (w := w) (base := base) T
  obtain ⟨fd, F⟩ := T.d_Board_do_putting
  refine ⟨fd, F.ok sc_Board_do_putting (fun vs H Q E h => by obtain ⟨A, D, k, x, i, rfl, _⟩ := h; rfl) (fun cdv A_ outer s_ H vs Q E hr h => ?_), F.bindsN (fun _ _ _ _ _ _ us hl => match us, hl with | [_, _, _, _], _ => rfl), F.kp⟩
  obtain ⟨A, D, k, x, i, rfl, h⟩ := h
  have hu := hu_of hr
  refine ⟨_, PSs.nox (C8.pss_cut (ps_if (pt_cmpR op_eq (pv 1) pe_str (nomark _)) (pss_cons (ps_expr (pe_meth (pv 0) T.k_Board T.m_Board_store G_Board_store (hr.mono (by decide)) b_Board_store .nil pass0 (pa_cons (pv 3) (pa_cons (pe_dget hu (pe_fld (pv 0) rfl) pe_str (fun _ _ => rfl)) pa_nil))))
    (pss_one (ps_dput hu (pe_fld (pv 0) rfl) pe_str (pv 2) rfl))) (pss_one (ps_expr (pe_meth (pv 0) T.k_Board T.m_Board_store G_Board_store (hr.mono (by decide)) b_Board_store .nil pass0 (pa_cons (pv 3) (pa_cons (pe_dget hu (pe_fld (pv 0) rfl) pe_str (fun _ _ => rfl)) pa_nil))))))
  (pss_one (ps_if (pt_cmpR op_in_seq (pv 1) (pe_tup (pa_cons pe_str (pa_cons pe_str pa_nil))) (by rfl)) (pss_one (ps_dput hu (pe_fld (pv 0) rfl) pe_str (pe_op op_sub (pv 3) pe_int) rfl)) pss_nil))), ?_⟩
  obtain ⟨B, hk, hb, hl, hs, q⟩ := h
  have s2 : 2 ≤ sizeLine := by decide
  unfold BD.putting at q
  refine ⟨fun σ' H1 => σ' = [some (.ref A.p), some (.str (nameS k)), some (.int x), some (.int i)] ∧ ∃ A1 : BA, A1.p = A.p ∧ BoardAt K H1 A1 (if k = 15 then { D.store i D.pc with pc := x } else D.store i D.a) ∧ Kp A.own A1.own H H1, ?_, ?_⟩
  · refine ⟨_, rfl, rfl, _, rfl, iteNm hk 15 (h1 := fun h1 => ?_) (h2 := fun h1 => ?_)⟩
    · refine ⟨_, rfl, _, _, _, rfl, B.ob, (by kernel_rfl), _, rfl, _, rfl, _, _, _, _, _, rfl, B.ob, T.k_Board, T.n_Board_registers, BoardF_registers, _, _, rfl, B.get_pc, _, _, _, _, rfl, B, hb, hl, hs, fun H1 A1 B1 e1 k1 => ?_⟩
      replace B1 := B1.as e1
      replace k1 := k1.as e1
      refine ⟨_, rfl, _, rfl, _, _, _, _, _, rfl, B1.ob, T.k_Board, T.n_Board_registers, BoardF_registers, _, _, rfl, B1.put_pc _, B1.goRg fun H2 B2 k2 => ?_⟩
      rw [if_pos h1]
      exact ⟨rfl, { A1 with p := A.p }, rfl, B2, k1.trans k2⟩
    · refine ⟨_, rfl, _, _, _, rfl, B.ob, (by kernel_rfl), _, rfl, _, rfl, _, _, _, _, _, rfl, B.ob, T.k_Board, T.n_Board_registers, BoardF_registers, _, _, rfl, B.get_a, _, _, _, _, rfl, B, hb, hl, hs, fun H1 A1 B1 e1 k1 => ?_⟩
      rw [if_neg h1]
      exact ⟨rfl, A1, e1, B1, k1⟩
  · rintro σ' H1 ⟨rfl, A1, e1, B1, k1⟩
    replace B1 := B1.as e1
    replace k1 := k1.as e1
    refine ⟨_, rfl, s2, fun u1 nu1 => ⟨_, _, rfl, .inr (SqT.of upd_same), rfl, rfl, _, rfl, iteIn hk _ [15, 17] (by decide +kernel) (fun h5 => ?_) (fun h5 => ?_)⟩⟩
    · rw [if_pos (c := k = 15 ∨ k = 17) (by simpa using h5)] at q
      have B2 := B1.new (o := .tup [.str "call", .str "push"]) nu1
      have k2 := Kp.new (S := ({ A1 with p := A.p } : BA).own) (o := .tup [.str "call", .str "push"]) nu1
      refine ⟨_, rfl, _, _, rfl, rfl, _, rfl, _, _, _, _, _, rfl, B2.ob, T.k_Board, T.n_Board_registers, BoardF_registers, _, _, rfl, B2.put_sp _, B2.goRg fun H3 B3 k3 => ?_⟩
      exact q _ _ B3 rfl (k1.trans (k2.trans k3))
    · rw [if_neg (c := k = 15 ∨ k = 17) (by simpa using h5)] at q
      exact q _ _ (B1.new (o := .tup [.str "call", .str "push"]) nu1) rfl (k1.trans (Kp.new nu1))
def sp_Board_do_returning (K : PySem.W.Frag) : Sp := fun vs H Q E_ => ∃ (A : BA) (D : BD) (k : Nat) (l : Addr) (ws : List Int), vs = [.ref A.p, .str (nameS k), .ref l] ∧ (BoardAt K H A D ∧ k < 23 ∧ H l = some (.lst (ws.map V.int)) ∧ l ∉ A.own ∧ ws ≠ [] ∧ ∀ H', BoardAt K H' A (D.returning k ws) → Kp A.own A.own H H' → Q .non H')
abbrev N_Board_do_returning : List Str := ["self", "name", "words"]
theorem sc_Board_do_returning : FnScope N_Board_do_returning ["self", "name", "words"] (defScope s_Board_do_returning) := ⟨rfl, rfl, rfl, by decide +kernel, rfl, by decide +kernel, by decide +kernel⟩
theorem ok_Board_do_returning (T : Txt K mg) : Ok P w K mg base CX0 1 (He.fAd K ("Board", some "do_returning")) ["self", "name", "words"] (sp_Board_do_returning K) := by
  obtain ⟨fd, F⟩ := T.d_Board_do_returning
  refine ⟨fd, F.ok sc_Board_do_returning (fun vs H Q E h => by obtain ⟨A, D, k, l, ws, rfl, _⟩ := h; rfl) (fun cdv A_ outer s_ H vs Q E hr h => ?_), F.bindsN (fun _ _ _ _ _ _ us hl => match us, hl with | [_, _, _], _ => rfl), F.kp⟩
  obtain ⟨A, D, k, l, ws, rfl, h⟩ := h
  have hu := hu_of hr
  refine ⟨_, PSs.nox (pss_cons (ps_dput hu (pe_fld (pv 0) rfl) pe_str (pe_op op_add (pe_dget hu (pe_fld (pv 0) rfl) pe_str (fun _ _ => rfl)) (pe_callB call_len_seq (by rfl) T.f_len PySem.boot_len (pa_cons (pv 2) pa_nil))) rfl)
  (pss_cons (ps_dput hu (pe_fld (pv 0) rfl) pe_str (pe_ix ix_list (pv 2) (pe_un un_neg pe_int) (fun _ _ => rfl)) rfl)
  (pss_one (ps_if (pt_cmpR op_eq (pv 1) pe_str (nomark _)) (pss_cons (ps_fld (pv 0) (pe_cmpR op_eq (pe_op op_mod (pe_ix ix_list (pv 2) pe_int (fun _ _ => rfl)) pe_int) pe_int (nomark _)) rfl)
    (pss_one (ps_fld (pv 0) pe_bl rfl))) pss_nil)))), ?_⟩
  obtain ⟨B, hk, hl, nl, hw, q⟩ := h
  unfold BD.returning at q
  refine ⟨_, rfl, _, _, _, _, _, rfl, B.ob, T.k_Board, T.n_Board_registers, BoardF_registers, _, _, rfl, B.get_sp, _, rfl, _, _, rfl, .inl (SqL.of hl), _, _, rfl, rfl, _, rfl, _, _, _, _, _, rfl, B.ob, T.k_Board, T.n_Board_registers, BoardF_registers, _, _, rfl, B.put_sp _, B.goRg fun H1 B1 k1 => ?_⟩
  have hl1 := k1.kept _ _ hl nl
  refine ⟨_, rfl, _, rfl, _, _, _, _, rfl, rfl, SqL.of hl1, at_last hw, _, rfl, _, _, _, _, _, rfl, B1.ob, T.k_Board, T.n_Board_registers, BoardF_registers, _, _, rfl, B1.put_pc _, B1.goRg fun H2 B2 k2 => ?_⟩
  have hl2 := k2.kept _ _ hl1 nl
  have ez : ((ws.map V.int).length : Int) = (ws.length : Int) := by rw [List.length_map]
  rw [ez] at B2
  refine ⟨_, rfl, rfl, _, rfl, iteNm hk 21 (h1 := fun h1 => ?_) (h2 := fun h1 => ?_)⟩
  · rw [if_pos h1] at q
    refine ⟨_, rfl, _, _, _, _, rfl, rfl, SqL.of hl2, at_head hw, _, _, rfl, rfl, (by show (0 : Int) < 2; decide), rfl, _, rfl, _, _, _, _, rfl, B2.ob, T.k_Board, T.n_Board_zero, BoardF_len, B2.goZero fun H3 B3 k3 => ?_⟩
    refine ⟨_, rfl, _, _, _, _, rfl, B3.ob, T.k_Board, T.n_Board_lets, BoardF_len, B3.goLets fun H4 B4 k4 => ?_⟩
    rw [decI] at B4
    exact q _ B4 (k1.trans (k2.trans (k3.trans k4)))
  · rw [if_neg h1] at q
    exact q _ B2 (k1.trans k2)
def sp_Board_do_reckoning (K : PySem.W.Frag) : Sp := fun vs H Q E_ => ∃ (A : BA) (D : BD) (k : Nat) (x : Int) (l : Addr) (ws : List Int), vs = [.ref A.p, .str (nameS k), .int x, .ref l] ∧ (BoardAt K H A D ∧ k < 23 ∧ H l = some (.lst (ws.map V.int)) ∧ l ∉ A.own ∧ (k ∈ [2, 8, 18, 4, 5, 6, 7] → ws ≠ []) ∧ ∀ H', BoardAt K H' A (D.reckoning k x ws) → Kp A.own A.own H H' → Q .non H')
abbrev N_Board_do_reckoning : List Str := ["self", "name", "part", "words", "a"]
theorem sc_Board_do_reckoning : FnScope N_Board_do_reckoning ["self", "name", "part", "words"] (defScope s_Board_do_reckoning) := ⟨rfl, rfl, rfl, by decide +kernel, rfl, by decide +kernel, by decide +kernel⟩
theorem ok_Board_do_reckoning (T : Txt K mg) : Ok P w K mg base CX0 1 (He.fAd K ("Board", some "do_reckoning")) ["self", "name", "part", "words"] (sp_Board_do_reckoning K) := by
  obtain ⟨fd, F⟩ := T.d_Board_do_reckoning
  refine ⟨fd, F.ok sc_Board_do_reckoning (fun vs H Q E h => by obtain ⟨A, D, k, x, l, ws, rfl, _⟩ := h; rfl) (fun cdv A_ outer s_ H vs Q E hr h => ?_), F.bindsN (fun _ _ _ _ _ _ us hl => match us, hl with | [_, _, _, _], _ => rfl), F.kp⟩
  obtain ⟨A, D, k, x, l, ws, rfl, h⟩ := h
  have hu := hu_of hr
  refine ⟨_, PSs.nox (pss_cons (ps_set (i := 4) sc_Board_do_reckoning.nd rfl (.inl rfl) (pe_dget hu (pe_fld (pv 0) rfl) pe_str (fun _ _ => rfl)))
  (C8.pss_cut (ps_if (pt_cmpR op_eq (pv 1) pe_str (nomark _)) (pss_one (ps_set (i := 4) sc_Board_do_reckoning.nd rfl (.inl rfl) (pv 2))) (pss_one (ps_if (pt_cmpR op_in_seq (pv 1) (pe_tup (pa_cons pe_str (pa_cons pe_str (pa_cons pe_str pa_nil)))) (by rfl)) (pss_one (ps_set (i := 4) sc_Board_do_reckoning.nd rfl (.inl rfl) (pe_ix ix_list (pv 3) pe_int (fun _ _ => rfl)))) (pss_one (ps_if (pt_cmpR op_eq (pv 1) pe_str (nomark _)) (pss_one (ps_set (i := 4) sc_Board_do_reckoning.nd rfl (.inl rfl) (pe_op op_mod (pe_op op_add (pv 4) (pe_ix ix_list (pv 3) pe_int (fun _ _ => rfl))) pe_int))) (pss_one (ps_if (pt_cmpR op_eq (pv 1) pe_str (nomark _)) (pss_one (ps_set (i := 4) sc_Board_do_reckoning.nd rfl (.inl rfl) (pe_op op_mod (pe_op op_sub (pv 4) (pe_ix ix_list (pv 3) pe_int (fun _ _ => rfl))) pe_int))) (pss_one (ps_if (pt_cmpR op_eq (pv 1) pe_str (nomark _)) (pss_one (ps_set (i := 4) sc_Board_do_reckoning.nd rfl (.inl rfl) (pe_op op_and (pv 4) (pe_ix ix_list (pv 3) pe_int (fun _ _ => rfl))))) (pss_one (ps_if (pt_cmpR op_eq (pv 1) pe_str (nomark _)) (pss_one (ps_set (i := 4) sc_Board_do_reckoning.nd rfl (.inl rfl) (pe_op op_xor (pv 4) (pe_ix ix_list (pv 3) pe_int (fun _ _ => rfl))))) (pss_one (ps_if (pt_cmpR op_eq (pv 1) pe_str (nomark _)) (pss_one (ps_set (i := 4) sc_Board_do_reckoning.nd rfl (.inl rfl) (pe_op op_fdiv (pv 4) pe_int))) (pss_cons (ps_set (i := 4) sc_Board_do_reckoning.nd rfl (.inl rfl) (pe_dget hu (pe_fld (pv 0) rfl) pe_str (fun _ _ => rfl)))
                (pss_one (ps_dput hu (pe_fld (pv 0) rfl) pe_str (pe_dget hu (pe_fld (pv 0) rfl) pe_str (fun _ _ => rfl)) rfl))))))))))))))))
  (pss_cons (ps_dput hu (pe_fld (pv 0) rfl) pe_str (pv 4) rfl)
  (pss_one (ps_if (pt_cmpR op_eq (pv 1) pe_str (nomark _)) (pss_one (ps_dput hu (pe_fld (pv 0) rfl) pe_str (pe_op op_add (pe_dget hu (pe_fld (pv 0) rfl) pe_str (fun _ _ => rfl)) pe_int) rfl)) pss_nil))))), ?_⟩
  obtain ⟨B, hk, hl, nl, hw, q⟩ := h
  have s3 : 3 ≤ sizeLine := by decide
  refine ⟨_, rfl, _, _, _, _, _, rfl, B.ob, T.k_Board, T.n_Board_registers, BoardF_registers, _, _, rfl, B.get_a, fun σ' H1 => σ' = [some (.ref A.p), some (.str (nameS k)), some (.int x), some (.ref l), some (.int (reckA k D.a D.b x (ws.headD 0)))] ∧ BoardAt K H1 A { D with b := if isSwap k = true then D.a else D.b } ∧ Kp A.own A.own H H1, ?_, ?_⟩
  · -- the ways
    have fin : ∀ (H1 : Hp) (z : Int), BoardAt K H1 A D → Kp A.own A.own H H1 → z = reckA k D.a D.b x (ws.headD 0) → isSwap k = false → ([some (.ref A.p), some (.str (nameS k)), some (.int x), some (.ref l), some (.int z)] : L2.St) = [some (.ref A.p), some (.str (nameS k)), some (.int x), some (.ref l), some (.int (reckA k D.a D.b x (ws.headD 0)))] ∧ BoardAt K H1 A { D with b := if isSwap k = true then D.a else D.b } ∧ Kp A.own A.own H H1 := by
      intro H1 z B1 k1 e1 e2
      rw [e1, e2]
      exact ⟨rfl, B1, k1⟩
    refine ⟨_, rfl, rfl, _, rfl, iteNm hk 1 (h1 := fun h1 => ?_) (h2 := fun h1 => ?_)⟩
    · exact ⟨_, rfl, fin _ _ B (Kp.refl _ _) (by rw [h1]; rfl) (by rw [h1]; rfl)⟩
    refine ⟨_, rfl, s3, fun u1 nu1 => ⟨_, _, rfl, .inr (SqT.of upd_same), rfl, rfl, _, rfl, iteIn hk _ [2, 8, 18] (by decide +kernel) (fun h2 => ?_) (fun h2 => ?_)⟩⟩
    · have hn : ws ≠ [] := hw (by simp at h2 ⊢; omega)
      refine ⟨_, rfl, _, _, _, _, rfl, rfl, SqL.of ?_, at_head hn, fin _ _ (B.new nu1) (Kp.new nu1) ?_ ?_⟩
      · rw [upd_ne (ne_of_none hl nu1)]; exact hl
      · simp only [List.mem_cons, List.not_mem_nil, or_false] at h2
        unfold reckA
        rw [if_neg h1, if_pos h2]
      · simp only [List.mem_cons, List.not_mem_nil, or_false] at h2
        rcases h2 with rfl | rfl | rfl <;> rfl
    have B1 : BoardAt K _ A D := B.new (o := .tup [.str "get", .str "getb", .str "pop"]) nu1
    have k1 : Kp A.own A.own H _ := Kp.new (o := .tup [.str "get", .str "getb", .str "pop"]) nu1
    have hl1 := k1.kept _ _ hl nl
    simp only [List.mem_cons, List.not_mem_nil, or_false, not_or] at h2
    refine ⟨_, rfl, rfl, _, rfl, iteNm hk 4 (h1 := fun h3 => ?_) (h2 := fun h3 => ?_)⟩
    · refine ⟨_, rfl, _, rfl, _, _, _, _, rfl, rfl, SqL.of hl1, at_head (hw (by simp [h3])), _, _, rfl, rfl, _, _, rfl, rfl, (by show (0 : Int) < 65536; decide), fin _ _ B1 k1 (by rw [h3]; rfl) (by rw [h3]; rfl)⟩
    refine ⟨_, rfl, rfl, _, rfl, iteNm hk 5 (h1 := fun h4 => ?_) (h2 := fun h4 => ?_)⟩
    · refine ⟨_, rfl, _, rfl, _, _, _, _, rfl, rfl, SqL.of hl1, at_head (hw (by simp [h4])), _, _, rfl, rfl, _, _, rfl, rfl, (by show (0 : Int) < 65536; decide), fin _ _ B1 k1 (by rw [h4]; rfl) (by rw [h4]; rfl)⟩
    refine ⟨_, rfl, rfl, _, rfl, iteNm hk 6 (h1 := fun h5 => ?_) (h2 := fun h5 => ?_)⟩
    · refine ⟨_, rfl, _, rfl, _, _, _, _, rfl, rfl, SqL.of hl1, at_head (hw (by simp [h5])), _, _, rfl, rfl, fin _ _ B1 k1 (by rw [h5]; rfl) (by rw [h5]; rfl)⟩
    refine ⟨_, rfl, rfl, _, rfl, iteNm hk 7 (h1 := fun h6 => ?_) (h2 := fun h6 => ?_)⟩
    · refine ⟨_, rfl, _, rfl, _, _, _, _, rfl, rfl, SqL.of hl1, at_head (hw (by simp [h6])), _, _, rfl, rfl, fin _ _ B1 k1 (by rw [h6]; rfl) (by rw [h6]; rfl)⟩
    refine ⟨_, rfl, rfl, _, rfl, iteNm hk 22 (h1 := fun h7 => ?_) (h2 := fun h7 => ?_)⟩
    · refine ⟨_, rfl, _, _, rfl, rfl, ⟨by decide, by decide⟩, fin _ _ B1 k1 (by rw [h7]; rfl) (by rw [h7]; rfl)⟩
    have es : isSwap k = true := by
      unfold isSwap
      simp only [h1, h2, h3, h4, h5, h6, h7]
      rfl
    have ea : reckA k D.a D.b x (ws.headD 0) = D.b := by
      unfold reckA
      rw [if_neg h1, if_neg (by omega), if_neg h3, if_neg h4, if_neg h5, if_neg h6, if_neg h7]
    refine ⟨_, rfl, _, _, _, _, _, rfl, B1.ob, T.k_Board, T.n_Board_registers, BoardF_registers, _, _, rfl, B1.get_b, _, rfl, _, _, _, _, _, rfl, B1.ob, T.k_Board, T.n_Board_registers, BoardF_registers, _, _, rfl, B1.get_a, _, rfl, _, _, _, _, _, rfl, B1.ob, T.k_Board, T.n_Board_registers, BoardF_registers, _, _, rfl, B1.put_b _, B1.goRg fun H2 B2 k2 => ?_⟩
    rw [ea, es]
    exact ⟨rfl, B2, k1.trans k2⟩
  · rintro σ' H1 ⟨rfl, B1, k1⟩
    unfold BD.reckoning at q
    refine ⟨_, rfl, _, rfl, _, _, _, _, _, rfl, B1.ob, T.k_Board, T.n_Board_registers, BoardF_registers, _, _, rfl, B1.put_a _, B1.goRg fun H2 B2 k2 => ?_⟩
    refine ⟨_, rfl, rfl, _, rfl, iteNm hk 18 (h1 := fun h1 => ?_) (h2 := fun h1 => ?_)⟩
    · rw [if_pos h1] at q
      refine ⟨_, rfl, _, _, _, _, _, rfl, B2.ob, T.k_Board, T.n_Board_registers, BoardF_registers, _, _, rfl, B2.get_sp, _, _, rfl, rfl, _, rfl, _, _, _, _, _, rfl, B2.ob, T.k_Board, T.n_Board_registers, BoardF_registers, _, _, rfl, B2.put_sp _, B2.goRg fun H3 B3 k3 => ?_⟩
      exact q _ B3 (k1.trans (k2.trans k3))
    · rw [if_neg h1] at q
      exact q _ B2 (k1.trans k2)
end

theorem nameV_some {k : Nat} (h : k < 23) : nameV k = .str (nameS k) := if_pos h
theorem nameV_none {k : Nat} (h : ¬ k < 23) : nameV k = .non := if_neg h
theorem eqv_ne_nil (x : Int) (r : List Int) : PyData.eqv (.list ((x :: r).map PyData.int)) (.list ((([] : List Int)).map PyData.int)) = false := by
  rw [eqv_intL]; rfl
section
variable {P : Program} {w : World} {K : PySem.W.Frag} {mg : Str → Option Value} {base : Heap}
def sp_Board_do (K : PySem.W.Frag) : Sp := fun vs H Q E_ => ∃ (A : BA) (D : BD) (k : Nat) (x : Int) (lw lp : Addr) (ws ps : List Int), vs = [.ref A.p, .str (nameS k), .int x, .ref lw, .ref lp] ∧ (BoardAt K H A D ∧ k < 23 ∧ H lw = some (.lst (ws.map V.int)) ∧ H lp = some (.lst (ps.map V.int)) ∧ lw ∉ A.own ∧ lp ∉ A.own ∧ (∀ i ∈ ps, barTo i = none) ∧ D.tc.length < 1000 ∧ D.sent.length < 1000000 ∧ (k ∈ [2, 8, 18, 4, 5, 6, 7] → ws ≠ []) ∧ (k = 16 ∨ k = 21 → ws ≠ []) ∧ ∀ H' A', BoardAt K H' A' (D.doing k x ws ps) → A'.p = A.p → Kp A.own A'.own H H' → Q .non H')
abbrev N_Board_do : List Str := ["self", "name", "part", "words", "puts"]
theorem sc_Board_do : FnScope N_Board_do ["self", "name", "part", "words", "puts"] (defScope s_Board_do) := ⟨rfl, rfl, rfl, by decide +kernel, rfl, by decide +kernel, by decide +kernel⟩
theorem ok_Board_do (T : Txt K mg) : Ok P w K mg base CX0 4 (He.fAd K ("Board", some "do")) ["self", "name", "part", "words", "puts"] (sp_Board_do K) := by
  obtain ⟨_, G_Board_do_putting, b_Board_do_putting, kp_Board_do_putting⟩ := ok_Board_do_putting (P := P) (w := w) (base := base) T
  obtain ⟨_, G_Board_do_returning, b_Board_do_returning, kp_Board_do_returning⟩ := ok_Board_do_returning (P := P) (w := w) (base := base) T
  obtain ⟨_, G_Board_do_reckoning, b_Board_do_reckoning, kp_Board_do_reckoning⟩ := ok_Board_do_reckoning (P := P) (w := w) (base := base) T
  obtain ⟨fd, F⟩ := T.d_Board_do
  refine ⟨fd, F.ok sc_Board_do (fun vs H Q E h => by obtain ⟨A, D, k, x, lw, lp, ws, ps, rfl, _⟩ := h; rfl) (fun cdv A_ outer s_ H vs Q E hr h => ?_), F.bindsN (fun _ _ _ _ _ _ us hl => match us, hl with | [_, _, _, _, _], _ => rfl), F.kp⟩
  obtain ⟨A, D, k, x, lw, lp, ws, ps, rfl, h⟩ := h
  have hu := hu_of hr
  refine ⟨_, PSs.nox (pss_one (ps_if (pt_cmpR (op_neD hr.units) (pv 4) (pe_lst pa_nil) (nomark _)) (pss_one (ps_expr (pe_meth (pv 0) T.k_Board T.m_Board_do_putting G_Board_do_putting (hr.mono (by decide)) b_Board_do_putting .nil pass0 (pa_cons (pv 1) (pa_cons (pv 2) (pa_cons (pe_ix ix_list (pv 4) pe_int (fun _ _ => rfl)) pa_nil)))))) (pss_one (ps_if (pt_cmpR op_in_seq (pv 1) (pe_tup (pa_cons pe_str (pa_cons pe_str (pa_cons pe_str pa_nil)))) (by rfl)) (pss_one (ps_if (PW.pt (pw_or (pt_cmpR op_eq (pv 1) pe_str (nomark _)) (pw_or (PW.pt (pw_and (pt_cmpR op_eq (pv 1) pe_str (nomark _)) (pw_and1 (pt_val (pe_fld (pv 0) rfl))))) (pw_or1 (PW.pt (pw_and (pt_cmpR op_eq (pv 1) pe_str (nomark _)) (pw_and1 (pt_cmpR op_ge (pe_dget hu (pe_fld (pv 0) rfl) pe_str (fun _ _ => rfl)) pe_int (nomark _))))))))) (pss_one (ps_dput hu (pe_fld (pv 0) rfl) pe_str (pv 2) rfl)) pss_nil)) (pss_one (ps_if (pt_cmpR op_in_seq (pv 1) (pe_tup (pa_cons pe_str (pa_cons pe_str pa_nil))) (by rfl)) (pss_one (ps_expr (pe_meth (pv 0) T.k_Board T.m_Board_do_returning G_Board_do_returning (hr.mono (by decide)) b_Board_do_returning .nil pass0 (pa_cons (pv 1) (pa_cons (pv 3) pa_nil))))) (pss_one (ps_if (pt_cmpR op_eq (pv 1) pe_str (nomark _)) (pss_one (ps_dput hu (pe_fld (pv 0) rfl) pe_str (pe_dget hu (pe_fld (pv 0) rfl) pe_str (fun _ _ => rfl)) rfl)) (pss_one (ps_if (pt_cmpR op_eq (pv 1) pe_str (nomark _)) (pss_one (ps_fld (pv 0) pe_bl rfl)) (pss_one (ps_if (pt_cmpR op_eq (pv 1) pe_str (nomark _)) (pss_one (ps_fld (pv 0) (pe_cmpR op_eq (pe_op op_mod (pv 2) pe_int) pe_int (nomark _)) rfl)) (pss_cons (ps_expr (pe_meth (pv 0) T.k_Board T.m_Board_do_reckoning G_Board_do_reckoning (hr.mono (by decide)) b_Board_do_reckoning .nil pass0 (pa_cons (pv 1) (pa_cons (pv 2) (pa_cons (pv 3) pa_nil)))))
              (pss_one (ps_fld (pv 0) (pe_cmpR op_eq (pe_dget hu (pe_fld (pv 0) rfl) pe_str (fun _ _ => rfl)) pe_int (nomark _)) rfl))))))))))))))), ?_⟩
  obtain ⟨B, hk, hlw, hlp, nlw, nlp, hb, hl, hs, hw1, hw2, q⟩ := h
  have s0 : 0 ≤ sizeLine := by decide
  have s2 : 2 ≤ sizeLine := by decide
  have s3 : 3 ≤ sizeLine := by decide
  refine ⟨_, rfl, s0, fun e0 ne0 => ⟨_, _, dpL (SqL.of (by rw [upd_ne (ne_of_none hlp ne0)]; exact hlp)), dpL (xs := []) (SqL.of upd_same), shp_ints _, shp_ints _, _, rfl, ?_⟩⟩
  have B0 : BoardAt K _ A D := B.new (o := .lst []) ne0
  have k0 : Kp A.own A.own H _ := Kp.new (o := .lst []) ne0
  have hlw0 := k0.kept _ _ hlw nlw
  have hlp0 := k0.kept _ _ hlp nlp
  cases ps with
  | cons i r =>
    rw [eqv_ne_nil]
    refine iteT ?_
    refine ⟨_, rfl, _, _, _, rfl, B0.ob, (by kernel_rfl), _, rfl, _, rfl, _, rfl, _, _, _, _, rfl, rfl, SqL.of hlp0, at_head (by simp), _, _, _, _, _, rfl, B0, hk, hb i (by simp), hl, hs, fun H1 A1 B1 e1 k1 => ?_⟩
    exact q _ _ B1 e1 (k0.trans k1)
  | nil =>
    rw [eqv_intL]
    refine iteF ?_
    unfold BD.doing at q
    simp only [] at q
    refine ⟨_, rfl, s3, fun u1 nu1 => ⟨_, _, rfl, .inr (SqT.of upd_same), rfl, rfl, _, rfl, iteIn hk _ [12, 13, 14] (by decide +kernel) (fun h2 => ?_) (fun h2 => ?_)⟩⟩
    · rw [if_pos (c := k = 12 ∨ k = 13 ∨ k = 14) (by simpa using h2)] at q
      have B1 : BoardAt K _ A D := B0.new (o := .tup [.str "go", .str "ifz", .str "ifn"]) nu1
      have k1 : Kp A.own A.own H _ := k0.trans (Kp.new (o := .tup [.str "go", .str "ifz", .str "ifn"]) nu1)
      have qT : (k = 12 ∨ (k = 13 ∧ D.zero = true) ∨ (k = 14 ∧ 32768 ≤ D.a)) → ∀ H1, BoardAt K H1 A { D with pc := x } → Kp A.own A.own H H1 → Q .non H1 := fun c H1 B2 k2 => by
        rw [if_pos c] at q; exact q _ _ B2 rfl k2
      have qF : ¬ (k = 12 ∨ (k = 13 ∧ D.zero = true) ∨ (k = 14 ∧ 32768 ≤ D.a)) → Q .non _ := fun c => by
        rw [if_neg c] at q; exact q _ _ B1 rfl k1
      refine ⟨_, rfl, rfl, _, rfl, iteNm hk 12 (h1 := fun c1 => iteT ?_) (h2 := fun c1 => ?_)⟩
      · exact ⟨_, rfl, _, rfl, _, _, _, _, _, rfl, B1.ob, T.k_Board, T.n_Board_registers, BoardF_registers, _, _, rfl, B1.put_pc _, B1.goRg fun H2 B2 k2 => qT (.inl c1) _ B2 (k1.trans k2)⟩
      refine ⟨_, rfl, rfl, _, rfl, iteNm hk 13 (h1 := fun c2 => ?_) (h2 := fun c2 => iteF ?_)⟩
      · refine ⟨_, rfl, _, _, _, _, _, rfl, B1.ob, T.k_Board, T.n_Board_zero, BoardF_zero, _, rfl, iteBo (fun c3 => iteT ?_) (fun c3 => ?_)⟩
        · exact ⟨_, rfl, _, rfl, _, _, _, _, _, rfl, B1.ob, T.k_Board, T.n_Board_registers, BoardF_registers, _, _, rfl, B1.put_pc _, B1.goRg fun H2 B2 k2 => qT (.inr (.inl ⟨c2, c3⟩)) _ B2 (k1.trans k2)⟩
        · refine ⟨_, rfl, rfl, _, rfl, iteNm hk 14 (h1 := fun c4 => ?_) (h2 := fun c4 => iteF ?_)⟩
          · exact absurd (c2.symm.trans c4) (by decide)
          · exact qF (by rintro (z | ⟨_, z⟩ | ⟨z, _⟩); exact c1 z; rw [c3] at z; cases z; exact c4 z)
      · refine ⟨_, rfl, rfl, _, rfl, iteNm hk 14 (h1 := fun c4 => ?_) (h2 := fun c4 => iteF ?_)⟩
        · refine ⟨_, rfl, _, _, _, _, _, rfl, B1.ob, T.k_Board, T.n_Board_registers, BoardF_registers, _, _, rfl, B1.get_a, _, _, rfl, rfl, _, rfl, iteD (fun c5 => ?_) (fun c5 => ?_)⟩
          · exact ⟨_, rfl, _, rfl, _, _, _, _, _, rfl, B1.ob, T.k_Board, T.n_Board_registers, BoardF_registers, _, _, rfl, B1.put_pc _, B1.goRg fun H2 B2 k2 => qT (.inr (.inr ⟨c4, c5⟩)) _ B2 (k1.trans k2)⟩
          · exact qF (by rintro (z | ⟨z, _⟩ | ⟨_, z⟩); exact c1 z; exact c2 z; exact c5 z)
        · exact qF (by rintro (z | ⟨z, _⟩ | ⟨z, _⟩); exact c1 z; exact c2 z; exact c4 z)
    rw [if_neg (c := k = 12 ∨ k = 13 ∨ k = 14) (by simpa using h2)] at q
    have B1 : BoardAt K _ A D := B0.new (o := .tup [.str "go", .str "ifz", .str "ifn"]) nu1
    have k1 : Kp A.own A.own H _ := k0.trans (Kp.new (o := .tup [.str "go", .str "ifz", .str "ifn"]) nu1)
    have hlw1 := k1.kept _ _ hlw nlw
    refine ⟨_, rfl, s2, fun u2 nu2 => ⟨_, _, rfl, .inr (SqT.of upd_same), rfl, rfl, _, rfl, iteIn hk _ [16, 21] (by decide +kernel) (fun h3 => ?_) (fun h3 => ?_)⟩⟩
    · have h3' : k = 16 ∨ k = 21 := by simpa using h3
      rw [if_pos h3'] at q
      have B2 : BoardAt K _ A D := B1.new (o := .tup [.str "ret", .str "back"]) nu2
      have k2 : Kp A.own A.own H _ := k1.trans (Kp.new (o := .tup [.str "ret", .str "back"]) nu2)
      have hlw2 := k2.kept _ _ hlw nlw
      exact ⟨_, rfl, _, _, _, rfl, B2.ob, (by kernel_rfl), _, rfl, _, rfl, _, _, _, _, _, rfl, B2, hk, hlw2, nlw, hw2 h3', fun H3 B3 k3 => q _ _ B3 rfl (k2.trans k3)⟩
    rw [if_neg (c := k = 16 ∨ k = 21) (by simpa using h3)] at q
    have B2 : BoardAt K _ A D := B1.new (o := .tup [.str "ret", .str "back"]) nu2
    have k2 : Kp A.own A.own H _ := k1.trans (Kp.new (o := .tup [.str "ret", .str "back"]) nu2)
    have hlw2 := k2.kept _ _ hlw nlw
    refine ⟨_, rfl, rfl, _, rfl, iteNm hk 10 (h1 := fun h4 => ?_) (h2 := fun h4 => ?_)⟩
    · rw [if_pos h4] at q
      exact ⟨_, rfl, _, _, _, _, _, rfl, B2.ob, T.k_Board, T.n_Board_registers, BoardF_registers, _, _, rfl, B2.get_a, _, rfl, _, _, _, _, _, rfl, B2.ob, T.k_Board, T.n_Board_registers, BoardF_registers, _, _, rfl, B2.put_b _, B2.goRg fun H3 B3 k3 => q _ _ B3 rfl (k2.trans k3)⟩
    rw [if_neg h4] at q
    refine ⟨_, rfl, rfl, _, rfl, iteNm hk 19 (h1 := fun h5 => ?_) (h2 := fun h5 => ?_)⟩
    · rw [if_pos h5] at q
      exact ⟨_, rfl, _, _, _, _, rfl, B2.ob, T.k_Board, T.n_Board_asleep, BoardF_len, B2.goAsleep fun H3 B3 k3 => q _ _ B3 rfl (k2.trans k3)⟩
    rw [if_neg h5] at q
    refine ⟨_, rfl, rfl, _, rfl, iteNm hk 20 (h1 := fun h6 => ?_) (h2 := fun h6 => ?_)⟩
    · rw [if_pos h6] at q
      rw [← decI] at q
      exact ⟨_, rfl, _, _, rfl, rfl, (by show (0 : Int) < 2; decide), rfl, _, rfl, _, _, _, _, rfl, B2.ob, T.k_Board, T.n_Board_lets, BoardF_len, B2.goLets fun H3 B3 k3 => q _ _ B3 rfl (k2.trans k3)⟩
    rw [if_neg h6] at q
    refine ⟨_, rfl, _, _, _, rfl, B2.ob, (by kernel_rfl), _, rfl, _, rfl, _, rfl, _, _, _, _, _, _, rfl, B2, hk, hlw2, nlw, hw1, fun H3 B3 k3 => ?_⟩
    rw [← decI] at q
    exact ⟨_, rfl, _, _, _, _, _, rfl, B3.ob, T.k_Board, T.n_Board_registers, BoardF_registers, _, _, rfl, B3.get_a, rfl, _, rfl, _, _, _, _, rfl, B3.ob, T.k_Board, T.n_Board_zero, BoardF_len, B3.goZero fun H4 B4 k4 => q _ _ B4 rfl (k2.trans (k3.trans k4))⟩
end

theorem barR_none {M : MD} {pc : Int} : ∀ {l : List Int}, barR M pc l = none → ∀ i ∈ l, ∃ n, M.at i = some n
  | [], _, i, hi => by cases hi
  | a :: r, h, i, hi => by
    rw [show barR M pc (a :: r) = if (M.at a).isNone = true then some [.str "far", .int pc, .int a] else barR M pc r from rfl] at h
    cases e : M.at a with
    | none => rw [e, if_pos (show (none : Option Int).isNone = true from rfl)] at h; cases h
    | some n =>
      rw [e, if_neg (by simp)] at h
      rcases List.mem_cons.mp hi with z | z
      · rw [z]; exact ⟨n, e⟩
      · exact barR_none h i z
theorem barP_none {pc : Int} : ∀ {l : List Int}, barP pc l = none → ∀ i ∈ l, barTo i = none
  | [], _, i, hi => by cases hi
  | a :: r, h, i, hi => by
    rw [show barP pc (a :: r) = match barTo a with | some b => some [.str b.s, .int pc, .int a] | none => barP pc r from rfl] at h
    cases e : barTo a with
    | some b => rw [e] at h; cases h
    | none =>
      rw [e] at h
      rcases List.mem_cons.mp hi with z | z
      · rw [z]; exact e
      · exact barP_none h i z
theorem barOf_none {M : MD} {pc : Int} {r p : List Int} (h : barOf M pc r p = none) : (∀ i ∈ r, ∃ n, M.at i = some n) ∧ ∀ i ∈ p, barTo i = none := by
  unfold barOf at h
  cases e : barR M pc r with
  | some c => rw [e] at h; cases h
  | none => rw [e] at h; exact ⟨barR_none e, barP_none h⟩
theorem BD.fetch_m (D : BD) (i : Int) : (D.fetch i).m = D.m := rfl
theorem BD.fetches_snoc : ∀ (D : BD) (l : List Int) (i : Int), D.fetches (l ++ [i]) = ((D.fetches l).1 ++ [(D.fetches l).2.fetchV i], (D.fetches l).2.fetch i)
  | D, [], i => rfl
  | D, a :: r, i => by
    show (D.fetchV a :: ((D.fetch a).fetches (r ++ [i])).1, ((D.fetch a).fetches (r ++ [i])).2) = _
    rw [BD.fetches_snoc (D.fetch a) r i]
    rfl
theorem BD.fetches_keep : ∀ (D : BD) (l : List Int), (D.fetches l).2.m = D.m ∧ (D.fetches l).2.sent = D.sent ∧ (D.fetches l).2.tc.length = D.tc.length + l.length ∧ (D.fetches l).1.length = l.length
  | D, [] => ⟨rfl, rfl, rfl, rfl⟩
  | D, a :: r => by
    obtain ⟨h1, h2, h3, h4⟩ := BD.fetches_keep (D.fetch a) r
    refine ⟨h1, h2, ?_, ?_⟩
    · show ((D.fetch a).fetches r).2.tc.length = _
      rw [h3, show (D.fetch a).tc = D.tc ++ [(("r" : Str), a)] from rfl, List.length_append]
      simp; omega
    · show (((D.fetch a).fetches r).1).length + 1 = r.length + 1
      rw [h4]
theorem addrs_len (k : Nat) (x b sp : Int) : (addrs k x b sp).1.length + (addrs k x b sp).2.length ≤ 2 := by
  unfold addrs
  repeat' split
  all_goals simp
theorem addrs_reads {k : Nat} {x b sp : Int} (h : k ∈ [2, 8, 18, 4, 5, 6, 7] ∨ k = 16 ∨ k = 21) : (addrs k x b sp).1 ≠ [] := by
  simp only [List.mem_cons, List.not_mem_nil, or_false] at h
  rcases h with (rfl | rfl | rfl | rfl | rfl | rfl | rfl) | rfl | rfl <;> (unfold addrs; simp)
abbrev BA.w (A1 : BA) (p : Addr) : BA := { A1 with p := p }
theorem Kp.cons {S S' : List Addr} {H H' : Hp} (k : Kp S S' H H') (L : Addr) : Kp (L :: S) (L :: S') H H' :=
  ⟨fun b o e n => k.kept b o e fun m => n (List.mem_cons_of_mem _ m), fun b m => by
    rcases List.mem_cons.mp m with z | z
    · rw [z]; exact .inl (by simp)
    · exact (k.own b z).imp (List.mem_cons_of_mem _) id, k.tups⟩
section
variable {P : Program} {w : World} {K : PySem.W.Frag} {mg : Str → Option Value} {base : Heap}
def sp_Board_deed (K : PySem.W.Frag) : Sp := fun vs H Q E_ => ∃ (A : BA) (D : BD), vs = [.ref A.p] ∧ (BoardAt K H A D ∧ (∀ n, D.m.at D.pc = some n → 0 ≤ n) ∧ D.tc.length ≤ 100 ∧ D.sent.length ≤ 999000 ∧ ∀ H' A', BoardAt K H' A' D.deed.2 → A'.p = A.p → Kp A.own A'.own H H' → Q (.str D.deed.1) H')
abbrev N_Board_deed : List Str := ["self", "pc", "word", "name", "part", "reads", "puts", "bar", "address"]
theorem sc_Board_deed : FnScope N_Board_deed ["self"] (defScope s_Board_deed) := ⟨rfl, rfl, rfl, by decide +kernel, rfl, by decide +kernel, by decide +kernel⟩
theorem ok_Board_deed (T : Txt K mg) : Ok P w K mg base CX0 5 (He.fAd K ("Board", some "deed")) ["self"] (sp_Board_deed K) := by
  obtain ⟨_, G_Board_stop, b_Board_stop, kp_Board_stop⟩ := ok_Board_stop (P := P) (w := w) (base := base) T
  obtain ⟨_, G_Memory_word_at, b_Memory_word_at, kp_Memory_word_at⟩ := ok_Memory_word_at (P := P) (w := w) (base := base) T
  obtain ⟨_, G_part_of, b_part_of, kp_part_of⟩ := ok_part_of (P := P) (w := w) (base := base) T
  obtain ⟨_, G_name_of, b_name_of, kp_name_of⟩ := ok_name_of (P := P) (w := w) (base := base) T
  obtain ⟨_, G_Board_addresses, b_Board_addresses, kp_Board_addresses⟩ := ok_Board_addresses (P := P) (w := w) (base := base) T
  obtain ⟨_, G_Board_bar_of, b_Board_bar_of, kp_Board_bar_of⟩ := ok_Board_bar_of (P := P) (w := w) (base := base) T
  obtain ⟨_, G_Board_do, b_Board_do, kp_Board_do⟩ := ok_Board_do (P := P) (w := w) (base := base) T
  obtain ⟨_, G_Board_fetch, b_Board_fetch, kp_Board_fetch⟩ := ok_Board_fetch (P := P) (w := w) (base := base) T
  obtain ⟨_, G_Board_pass_beats, b_Board_pass_beats, kp_Board_pass_beats⟩ := ok_Board_pass_beats (P := P) (w := w) (base := base) T
  obtain ⟨fd, F⟩ := T.d_Board_deed
  refine ⟨fd, F.ok sc_Board_deed (fun vs H Q E h => by obtain ⟨A, D, rfl, _⟩ := h; rfl) (fun cdv A_ outer s_ H vs Q E hr h => ?_), F.bindsN (fun _ _ _ _ _ _ us hl => match us, hl with | [_], _ => rfl), F.kp⟩
  obtain ⟨A, D, rfl, h⟩ := h
  have hu := hu_of hr
  refine ⟨_, PSs.nox (pss_cons (ps_set (i := 1) sc_Board_deed.nd rfl (.inl rfl) (pe_dget hu (pe_fld (pv 0) rfl) pe_str (fun _ _ => rfl)))
  (pss_cons (ps_if (PW.pt (pw_or (pt_cmpR op_lt (pv 1) pe_int (nomark _)) (pw_or1 (pt_cmpR op_ge (pv 1) (gi_ (by rfl) T.c_RAM) (nomark _))))) (pss_one (ps_ret (pe_meth (pv 0) T.k_Board T.m_Board_stop G_Board_stop (hr.mono (by decide)) b_Board_stop .nil pass0 (pa_cons (pe_tup (pa_cons pe_str (pa_cons (pv 1) (pa_cons (pv 1) pa_nil)))) pa_nil)))) pss_nil)
  (pss_cons (ps_set (i := 2) sc_Board_deed.nd rfl (.inl rfl) (pe_meth (pe_fld (pv 0) rfl) T.k_Memory T.m_Memory_word_at G_Memory_word_at (hr.mono (by decide)) b_Memory_word_at .nil pass0 (pa_cons (pv 1) pa_nil)))
  (pss_cons (ps_par (i := 3) (j := 4) (by rfl) sc_Board_deed.nd rfl rfl (by decide) rfl rfl (pa_cons (pe_call G_name_of (hr.mono (by decide)) (by rfl) T.g_name_of kp_name_of b_name_of .nil pass0 (pa_cons (pv 2) pa_nil)) (pa_cons (pe_call G_part_of (hr.mono (by decide)) (by rfl) T.g_part_of kp_part_of b_part_of .nil pass0 (pa_cons (pv 2) pa_nil)) pa_nil)) (by rfl))
  (pss_cons (ps_if (PW.pt (pw_or (pt_cmpR op_isN (pv 3) pe_non (nomark _)) (pw_or1 (pt_cmpR op_eq (pv 3) pe_str (nomark _))))) (pss_one (ps_ret (pe_meth (pv 0) T.k_Board T.m_Board_stop G_Board_stop (hr.mono (by decide)) b_Board_stop .nil pass0 (pa_cons (pe_tup (pa_cons (pe_ix ix_list (pe_lst (pa_cons (pv 3) (pa_cons pe_str pa_nil))) (pe_callTy call_int1 (by rfl) T.f_int (by decide +kernel) (pa_cons (pe_cmpR op_isN (pv 3) pe_non (nomark _)) pa_nil)) (fun _ _ => rfl)) (pa_cons (pv 1) pa_nil))) pa_nil)))) pss_nil)
  (pss_cons (ps_asg (pe_meth (pv 0) T.k_Board T.m_Board_addresses G_Board_addresses (hr.mono (by decide)) b_Board_addresses .nil pass0 (pa_cons (pv 3) (pa_cons (pv 4) pa_nil))) (pg_tup rfl (pgs_cons (pg_name (i := 5) sc_Board_deed.nd rfl (.inl rfl)) (pgs_cons (pg_name (i := 6) sc_Board_deed.nd rfl (.inl rfl)) pgs_nil))))
  (pss_cons (ps_set (i := 7) sc_Board_deed.nd rfl (.inl rfl) (pe_meth (pv 0) T.k_Board T.m_Board_bar_of G_Board_bar_of (hr.mono (by decide)) b_Board_bar_of .nil pass0 (pa_cons (pv 5) (pa_cons (pv 6) pa_nil))))
  (pss_cons (ps_if (pt_cmpR op_notN (pv 7) pe_non (nomark _)) (pss_one (ps_ret (pe_meth (pv 0) T.k_Board T.m_Board_stop G_Board_stop (hr.mono (by decide)) b_Board_stop .nil pass0 (pa_cons (pv 7) pa_nil)))) pss_nil)
  (pss_cons (ps_dput hu (pe_fld (pv 0) rfl) pe_str (pe_op op_add (pv 1) pe_int) rfl)
  (pss_cons (ps_expr (pe_meth (pv 0) T.k_Board T.m_Board_do G_Board_do (hr.mono (by decide)) b_Board_do .nil pass0 (pa_cons (pv 3) (pa_cons (pv 4) (pa_cons (pe_lc (own := [("address", 8)]) (g := gName 8) (tt := tYes) rfl sc_Board_deed.nd (pi_list (pv 5)) (blkOk_by (own := [("address", 8)]) (N := N_Board_deed) (sc := defScope s_Board_deed) (by decide +kernel)) (fun _ _ _ _ _ => pg_name (i := 8) sc_Board_deed.nd rfl (Or.inl rfl)) (fun _ _ _ _ _ => pts_nil) (fun _ _ _ _ _ => (pe_meth (pv 0) T.k_Board T.m_Board_fetch G_Board_fetch (hr.mono (by decide)) b_Board_fetch .nil pass0 (pa_cons (pv 8) pa_nil)))) (pa_cons (pv 6) pa_nil))))))
  (pss_cons (ps_expr (pe_meth (pv 0) T.k_Board T.m_Board_pass_beats G_Board_pass_beats (hr.mono (by decide)) b_Board_pass_beats .nil pass0 (pa_cons (pe_op op_add (pe_op op_add pe_int (pe_callB call_len_seq (by rfl) T.f_len PySem.boot_len (pa_cons (pv 5) pa_nil))) (pe_callB call_len_seq (by rfl) T.f_len PySem.boot_len (pa_cons (pv 6) pa_nil))) pa_nil)))
  (pss_one (ps_ret pe_str))))))))))))), ?_⟩
  obtain ⟨B, hn, ht, hs, q⟩ := h
  have s2 : 2 ≤ sizeLine := by decide
  have s3 : 3 ≤ sizeLine := by decide
  unfold BD.deed at q
  refine ⟨_, rfl, _, _, _, _, _, rfl, B.ob, T.k_Board, T.n_Board_registers, BoardF_registers, _, _, rfl, B.get_pc, ?_⟩
  refine ⟨_, rfl, _, _, rfl, rfl, _, rfl, iteD (fun h1 => iteT ?_) (fun h1 => ?_)⟩
  · rw [if_pos (.inl h1)] at q
    refine ⟨_, rfl, _, _, _, rfl, B.ob, (by kernel_rfl), _, rfl, _, rfl, s3, fun t nt => ⟨_, _, t, _, rfl, B.new nt, upd_same, fun H1 A1 B1 e1 k1 => q _ _ B1 e1 ((Kp.new nt).trans k1)⟩⟩
  refine ⟨_, rfl, _, _, rfl, rfl, _, rfl, iteD (fun h2 => ?_) (fun h2 => ?_)⟩
  · rw [if_pos (.inr h2)] at q
    refine ⟨_, rfl, _, _, _, rfl, B.ob, (by kernel_rfl), _, rfl, _, rfl, s3, fun t nt => ⟨_, _, t, _, rfl, B.new nt, upd_same, fun H1 A1 B1 e1 k1 => q _ _ B1 e1 ((Kp.new nt).trans k1)⟩⟩
  rw [if_neg (by omega)] at q
  refine ⟨_, rfl, _, _, _, _, _, rfl, B.ob, T.k_Board, T.n_Board_memory, BoardF_memory, _, _, _, rfl, B.mem.ob, (by kernel_rfl), _, rfl, _, _, _, rfl, B.mem, ?_⟩
  cases eW : D.m.at D.pc with
  | none =>
    exfalso
    unfold MD.at at eW
    rw [if_neg (by omega)] at eW
    split at eW
    · rw [List.getElem?_eq_none_iff, B.mem.lf] at eW; omega
    · rw [if_pos (by omega), List.getElem?_eq_none_iff, B.mem.lr] at eW; omega
  | some n =>
  have h0 : 0 ≤ n := hn n eW
  rw [eW, show (some n).getD 0 = n from rfl] at q
  unfold BD.deedW at q
  by_cases hk : (n / 1024).toNat < 23
  case neg =>
    rw [if_pos hk] at q
    refine ⟨_, rfl, _, rfl, h0, _, rfl, _, rfl, _, _, rfl, ?_⟩
    rw [nameV_none hk]
    refine ⟨_, rfl, rfl, _, rfl, iteT (iteT ?_)⟩
    refine ⟨_, rfl, _, _, _, rfl, B.ob, (by kernel_rfl), _, rfl, s2, fun l nl => ⟨_, rfl, rfl, .inr ⟨_, rfl, _, _, _, V.str "none", rfl, rfl, SqL.of upd_same, atI_nat (j := 1) rfl, ?_⟩⟩⟩
    have B1 : BoardAt K _ A D := B.new (o := .lst [V.non, V.str "none"]) nl
    have k1 : Kp A.own A.own H _ := Kp.new (o := .lst [V.non, V.str "none"]) nl
    exact ⟨_, rfl, s2, fun t nt => ⟨_, _, t, _, rfl, B1.new nt, upd_same, fun H1 A1 B2 e1 k2 => q _ _ B2 e1 (k1.trans ((Kp.new nt).trans k2))⟩⟩
  case pos =>
  rw [if_neg (by omega)] at q
  refine ⟨_, rfl, _, rfl, h0, _, rfl, _, rfl, _, _, rfl, ?_⟩
  rw [nameV_some hk]
  refine ⟨_, rfl, rfl, _, rfl, iteF ?_⟩
  refine ⟨_, rfl, rfl, _, rfl, iteNm hk 0 (h1 := fun h3 => ?_) (h2 := fun h3 => ?_)⟩
  · rw [if_pos h3] at q
    refine ⟨_, rfl, _, _, _, rfl, B.ob, (by kernel_rfl), _, rfl, s2, fun l nl => ⟨_, rfl, rfl, .inr ⟨_, rfl, _, _, _, V.str (nameS (n / 1024).toNat), rfl, rfl, SqL.of upd_same, atI_nat (j := 0) rfl, ?_⟩⟩⟩
    have B1 : BoardAt K _ A D := B.new (o := .lst [V.str (nameS (n / 1024).toNat), V.str "none"]) nl
    have k1 : Kp A.own A.own H _ := Kp.new (o := .lst [V.str (nameS (n / 1024).toNat), V.str "none"]) nl
    have em : V.str "mark" = V.str (nameS (n / 1024).toNat) := by rw [h3]; rfl
    rw [em] at q
    exact ⟨_, rfl, s2, fun t nt => ⟨_, _, t, _, rfl, B1.new nt, upd_same, fun H1 A1 B2 e1 k2 => q _ _ B2 e1 (k1.trans ((Kp.new nt).trans k2))⟩⟩
  rw [if_neg h3] at q
  generalize hkk : (n / 1024).toNat = k at *
  generalize hxx : n % 1024 = x at *
  refine ⟨_, rfl, _, _, _, rfl, B.ob, (by kernel_rfl), _, rfl, _, rfl, _, _, _, _, rfl, B, hk, fun H1 t l1 l2 B1 k1 ht1 hl1 hl2 nl1 nl2 n12 => ?_⟩
  refine ⟨_, _, rfl, SqT.of ht1, rfl, _, _, rfl, _, _, rfl, rfl, ?_⟩
  generalize hR : (addrs k x D.b D.sp).1 = R at *
  generalize hU : (addrs k x D.b D.sp).2 = U at *
  have hlen : R.length + U.length ≤ 2 := by rw [← hR, ← hU]; exact addrs_len k x D.b D.sp
  have qd : ∀ (Hz : Hp) (Az : BA), BoardAt K Hz Az (D.deedB k x (addrs k x D.b D.sp)).2 → Az.p = A.p → Kp A.own Az.own H Hz → Q (.str (D.deedB k x (addrs k x D.b D.sp)).1) Hz := q
  have eB : D.deedB k x (addrs k x D.b D.sp) = D.deedB k x (R, U) := by rw [← hR, ← hU]
  rw [eB] at qd
  refine ⟨_, rfl, _, _, _, rfl, B1.ob, (by kernel_rfl), _, rfl, _, rfl, _, _, _, _, _, _, rfl, B1, hl1, hl2, fun H2 v k2 B2 hv => ?_⟩
  cases eb : barOf D.m D.pc R U with
  | some c =>
    rw [eb] at hv
    obtain ⟨t2, rfl, ht2⟩ := hv
    have eC : D.deedB k x (R, U) = (("stopped" : Str), D.halt c) := by unfold BD.deedB; rw [eb]
    rw [eC] at qd
    refine ⟨_, rfl, rfl, _, rfl, iteT ?_⟩
    exact ⟨_, rfl, _, _, _, rfl, B2.ob, (by kernel_rfl), _, rfl, _, _, t2, _, rfl, B2, ht2, fun H3 A3 B3 e3 k3 => qd _ _ B3 e3 (k1.trans (k2.trans k3))⟩
  | none =>
    rw [eb] at hv
    subst hv
    have eC : D.deedB k x (R, U) = (("deed" : Str), D.deedA k x (R, U)) := by unfold BD.deedB; rw [eb]
    rw [eC] at qd
    obtain ⟨hr1, hr2⟩ := barOf_none eb
    refine ⟨_, rfl, rfl, _, rfl, iteF ?_⟩
    refine ⟨_, rfl, _, _, rfl, rfl, _, rfl, _, _, _, _, _, rfl, B2.ob, T.k_Board, T.n_Board_registers, BoardF_registers, _, _, rfl, B2.put_pc _, B2.goRg fun H3 B3 k3 => ?_⟩
    have k03 := k1.trans (k2.trans k3)
    have f1 : l1 ∉ A.own := B.fresh nl1
    have f2 : l2 ∉ A.own := B.fresh nl2
    have hl13 : H3 l1 = some (.lst (R.map V.int)) := k3.kept _ _ (k2.kept _ _ hl1 f1) f1
    have hl23 : H3 l2 = some (.lst (U.map V.int)) := k3.kept _ _ (k2.kept _ _ hl2 f2) f2
    -- self.do(name, part, [..], puts)
    refine ⟨_, rfl, _, _, _, rfl, B3.ob, (by kernel_rfl), _, rfl, _, rfl, _, rfl, _, rfl, ⟨_, SqL.of hl13⟩, fun L nL => lc_list (K := K) (a := l1) (xs := R.map V.int)
      (fun i H4 => ∃ A4 : BA, BoardAt K H4 (A4.w A.p) (({ D with pc := D.pc + 1 } : BD).fetches (R.take i)).2 ∧ Kp A.own (L :: (A4.w A.p).own) H H4 ∧ H4 L = some (.lst ((({ D with pc := D.pc + 1 } : BD).fetches (R.take i)).1.map V.int)) ∧ L ∉ (A4.w A.p).own ∧ H4 l1 = some (.lst (R.map V.int)) ∧ H4 l2 = some (.lst (U.map V.int)) ∧ l1 ∉ (A4.w A.p).own ∧ l2 ∉ (A4.w A.p).own) ?_ ?_ ?_ ?_⟩
    · have fL : L ∉ A.own := B3.fresh nL
      have nl1L : l1 ≠ L := ne_of_none hl13 nL
      have nl2L : l2 ≠ L := ne_of_none hl23 nL
      exact ⟨A, B3.new nL, k03.trans (Kp.newIn nL), upd_same, fL, by rw [upd_ne nl1L]; exact hl13, by rw [upd_ne nl2L]; exact hl23, f1, f2⟩
    · rintro i H4 _ ⟨A4, _, _, _, _, h, _⟩
      exact SqL.of h
    · rintro i y H4 hi ⟨A4, B4, k4, hL, fL, h1', h2', g1, g2⟩
      have nl1L : l1 ≠ L := ne_of_none hl13 nL
      have nl2L : l2 ≠ L := ne_of_none hl23 nL
      rw [List.getElem?_map] at hi
      cases hz : R[i]? with
      | none => rw [hz] at hi; cases hi
      | some z =>
        rw [hz] at hi
        have ey : y = .int z := (Option.some.inj hi).symm
        subst ey
        have hil := (List.getElem?_eq_some_iff.mp hz).1
        have hmem : z ∈ R := (List.getElem?_eq_some_iff.mp hz).2 ▸ List.getElem_mem hil
        obtain ⟨m1, m2, m3, m4⟩ := BD.fetches_keep ({ D with pc := D.pc + 1 } : BD) (R.take i)
        obtain ⟨nz, hnz⟩ := hr1 z hmem
        have et : R.take (i + 1) = R.take i ++ [z] := by rw [List.take_add_one, hz]; rfl
        have hlt : (({ D with pc := D.pc + 1 } : BD).fetches (R.take i)).2.tc.length < 1000 := by
          rw [m3, List.length_take]
          show D.tc.length + _ < 1000
          omega
        refine ⟨rfl, _, rfl, _, _, _, rfl, B4.ob, (by kernel_rfl), _, rfl, A4.w A.p, _, _, nz, rfl, B4, by rw [m1]; exact hnz, hlt, fun H5 A5 B5 e5 k5 => ?_⟩
        replace B5 := B5.as e5
        replace k5 := k5.as e5
        have hL5 := k5.kept _ _ hL fL
        have nown : ∀ c o, H4 c = some o → c ∉ (A4.w A.p).own → c ∉ (A5.w A.p).own := fun c o hc nc m => by
          rcases k5.own c m with q1 | q1
          · exact nc q1
          · rw [q1] at hc; cases hc
        have fL5 := nown _ _ hL fL
        have k6 : Kp (L :: (A5.w A.p).own) (L :: (A5.w A.p).own) H5 _ := Kp.upd (o' := .lst ((({ D with pc := D.pc + 1 } : BD).fetches (R.take i)).1.map V.int ++ [.int (BD.fetchV (({ D with pc := D.pc + 1 } : BD).fetches (R.take i)).2 z)])) hL5 trivial (by simp)
        refine ⟨_, hL5, small_ (by rw [List.length_map, m4, List.length_take]; omega), A5, ?_, k4.trans ((k5.cons L).trans k6), ?_, fL5, ?_, ?_, nown _ _ h1' g1, nown _ _ h2' g2⟩
        · rw [et, BD.fetches_snoc]
          exact B5.frame (fun b hb o e => by rw [upd_ne (fun z2 => fL5 (by rw [← z2]; exact hb))]; exact e) k6.tups
        · rw [et, BD.fetches_snoc, upd_same, List.map_append]; rfl
        · rw [upd_ne nl1L]; exact k5.kept _ _ h1' g1
        · rw [upd_ne nl2L]; exact k5.kept _ _ h2' g2
    · rintro H4 ⟨A4, B4, k4, hL, fL, h1', h2', g1, g2⟩
      rw [List.length_map, List.take_length] at B4 hL
      obtain ⟨m1, m2, m3, m4⟩ := BD.fetches_keep ({ D with pc := D.pc + 1 } : BD) R
      have nR : (k ∈ [2, 8, 18, 4, 5, 6, 7] ∨ k = 16 ∨ k = 21) → (({ D with pc := D.pc + 1 } : BD).fetches R).1 ≠ [] := fun hz e => by
        have := addrs_reads (x := x) (b := D.b) (sp := D.sp) hz
        rw [hR] at this
        rw [e] at m4
        exact this (List.eq_nil_of_length_eq_zero m4.symm)
      refine ⟨_, rfl, A4.w A.p, _, _, _, _, _, _, _, rfl, B4, hk, hL, h2', fL, g2, hr2, by rw [m3]; show D.tc.length + _ < 1000; omega, by rw [m2]; show D.sent.length < 1000000; omega, fun hz => nR (.inl hz), fun hz => nR (.inr hz), fun H5 A5 B5 e5 k5 => ?_⟩
      replace B5 := B5.as e5
      replace k5 := k5.as e5
      have h15 := k5.kept _ _ h1' g1
      have h25 := k5.kept _ _ h2' g2
      refine ⟨_, rfl, _, _, _, rfl, B5.ob, (by kernel_rfl), _, rfl, _, _, rfl, .inl (SqL.of h15), _, _, rfl, rfl, _, rfl, _, _, rfl, .inl (SqL.of h25), _, _, rfl, rfl, A5.w A.p, _, 1 + R.length + U.length, ?_, B5, by omega, fun H6 B6 k6 => ?_⟩
      · rw [List.length_map, List.length_map]
        congr 2
      · exact qd _ _ B6 rfl ((k4.sub fun b hb => List.mem_cons_of_mem _ hb).trans (k5.trans k6))
def sp_Board_interrupt (K : PySem.W.Frag) : Sp := fun vs H Q E_ => ∃ (A : BA) (D : BD), vs = [.ref A.p] ∧ (BoardAt K H A D ∧ D.tc.length ≤ 100 ∧ D.sent.length ≤ 999000 ∧ ∀ H' A', BoardAt K H' A' D.interrupt.2 → A'.p = A.p → Kp A.own A'.own H H' → Q (.str D.interrupt.1) H')
abbrev N_Board_interrupt : List Str := ["self", "pc", "sp", "address", "bar", "first"]
theorem sc_Board_interrupt : FnScope N_Board_interrupt ["self"] (defScope s_Board_interrupt) := ⟨rfl, rfl, rfl, by decide +kernel, rfl, by decide +kernel, by decide +kernel⟩
theorem ok_Board_interrupt (T : Txt K mg) : Ok P w K mg base CX0 4 (He.fAd K ("Board", some "interrupt")) ["self"] (sp_Board_interrupt K) := by
  obtain ⟨_, G_Memory_bar_to, b_Memory_bar_to, kp_Memory_bar_to⟩ := ok_Memory_bar_to (P := P) (w := w) (base := base) T
  obtain ⟨_, G_Board_stop, b_Board_stop, kp_Board_stop⟩ := ok_Board_stop (P := P) (w := w) (base := base) T
  obtain ⟨_, G_Board_pending, b_Board_pending, kp_Board_pending⟩ := ok_Board_pending (P := P) (w := w) (base := base) T
  obtain ⟨_, G_Board_store, b_Board_store, kp_Board_store⟩ := ok_Board_store (P := P) (w := w) (base := base) T
  obtain ⟨_, G_Board_pass_beats, b_Board_pass_beats, kp_Board_pass_beats⟩ := ok_Board_pass_beats (P := P) (w := w) (base := base) T
  obtain ⟨fd, F⟩ := T.d_Board_interrupt
  refine ⟨fd, F.ok sc_Board_interrupt (fun vs H Q E h => by obtain ⟨A, D, rfl, _⟩ := h; rfl) (fun cdv A_ outer s_ H vs Q E hr h => ?_), F.bindsN (fun _ _ _ _ _ _ us hl => match us, hl with | [_], _ => rfl), F.kp⟩
  obtain ⟨A, D, rfl, h⟩ := h
  have hu := hu_of hr
  refine ⟨_, PSs.nox (pss_cons (ps_par (i := 1) (j := 2) (by rfl) sc_Board_interrupt.nd rfl rfl (by decide) rfl rfl (pa_cons (pe_dget hu (pe_fld (pv 0) rfl) pe_str (fun _ _ => rfl)) (pa_cons (pe_dget hu (pe_fld (pv 0) rfl) pe_str (fun _ _ => rfl)) pa_nil)) (by rfl))
  (pss_cons (ps_for PassesOwn.never rfl (pi_list (pe_lst (pa_cons (pv 2) (pa_cons (pe_op op_sub (pv 2) pe_int) pa_nil)))) (pg_name (i := 3) sc_Board_interrupt.nd rfl (.inl rfl)) (pss_cons (ps_set (i := 4) sc_Board_interrupt.nd rfl (.inl rfl) (pe_meth (pe_fld (pv 0) rfl) T.k_Memory T.m_Memory_bar_to G_Memory_bar_to (hr.mono (by decide)) b_Memory_bar_to .nil pass0 (pa_cons (pv 3) pa_nil)))
    (pss_one (ps_if (pt_cmpR op_notN (pv 4) pe_non (nomark _)) (pss_one (ps_ret (pe_meth (pv 0) T.k_Board T.m_Board_stop G_Board_stop (hr.mono (by decide)) b_Board_stop .nil pass0 (pa_cons (pe_tup (pa_cons (pv 4) (pa_cons (pv 1) (pa_cons (pv 3) pa_nil)))) pa_nil)))) pss_nil))))
  (pss_cons (ps_set (i := 5) sc_Board_interrupt.nd rfl (.inl rfl) (pe_ix ix_list (pe_lst (pa_cons pe_int (pa_cons pe_int pa_nil))) (pe_op op_mod (pe_meth0 (pv 0) T.k_Board T.m_Board_pending G_Board_pending (hr.mono (by decide)) b_Board_pending .nil pass0) pe_int) (fun _ _ => rfl)))
  (pss_cons (ps_expr (pe_meth (pv 0) T.k_Board T.m_Board_store G_Board_store (hr.mono (by decide)) b_Board_store .nil pass0 (pa_cons (pv 2) (pa_cons (pv 1) pa_nil))))
  (pss_cons (ps_expr (pe_meth (pv 0) T.k_Board T.m_Board_store G_Board_store (hr.mono (by decide)) b_Board_store .nil pass0 (pa_cons (pe_op op_sub (pv 2) pe_int) (pa_cons (pe_callTy call_int1 (by rfl) T.f_int (by decide +kernel) (pa_cons (pe_fld (pv 0) rfl) pa_nil)) pa_nil))))
  (pss_cons (ps_dput hu (pe_fld (pv 0) rfl) pe_str (pe_op op_sub (pv 2) pe_int) rfl)
  (pss_cons (ps_fld (pv 0) pe_bl rfl)
  (pss_cons (ps_dput hu (pe_fld (pv 0) rfl) pe_str (pv 5) rfl)
  (pss_cons (ps_expr (pe_meth (pv 0) T.k_Board T.m_Board_pass_beats G_Board_pass_beats (hr.mono (by decide)) b_Board_pass_beats .nil pass0 (pa_cons pe_int pa_nil)))
  (pss_one (ps_ret pe_str))))))))))), ?_⟩
  obtain ⟨B, ht, hs, q⟩ := h
  have s2 : 2 ≤ sizeLine := by decide
  have s3 : 3 ≤ sizeLine := by decide
  unfold BD.interrupt at q
  refine ⟨_, rfl, _, _, _, _, _, rfl, B.ob, T.k_Board, T.n_Board_registers, BoardF_registers, _, _, rfl, B.get_pc, _, rfl, _, _, _, _, _, rfl, B.ob, T.k_Board, T.n_Board_registers, BoardF_registers, _, _, rfl, B.get_sp, _, _, rfl, ?_⟩
  refine ⟨_, rfl, _, rfl, _, _, rfl, rfl, s2, fun l nl => ⟨_, rfl, ⟨_, SqL.of upd_same⟩, ?_⟩⟩
  have B1 : BoardAt K _ A D := B.new (o := .lst [.int D.sp, .int (D.sp - 1)]) nl
  have k1 : Kp A.own A.own H _ := Kp.new (o := .lst [.int D.sp, .int (D.sp - 1)]) nl
  refine for_list (K := K) (a := l) (xs := [.int D.sp, .int (D.sp - 1)]) (fun i σ H' => H' = upd H l (.lst [.int D.sp, .int (D.sp - 1)]) ∧ (1 ≤ i → barTo D.sp = none) ∧ (2 ≤ i → barTo (D.sp - 1) = none) ∧ ∃ v u, σ = [some (.ref A.p), some (.int D.pc), some (.int D.sp), v, u, none]) ⟨rfl, fun z => absurd z (by omega), fun z => absurd z (by omega), _, _, rfl⟩ (fun i σ H' _ ⟨e, _⟩ => by rw [e]; exact SqL.of upd_same) ?_ ?_
  · rintro i y σ H1 hi ⟨rfl, c1, c2, v, u, rfl⟩
    have hi2 : i < 2 := (List.getElem?_eq_some_iff.mp hi).1
    obtain ⟨z, ey, ez⟩ : ∃ z, y = .int z ∧ z = (if i = 0 then D.sp else D.sp - 1) := by
      match i, hi2, hi with
      | 0, _, hi => exact ⟨D.sp, (Option.some.inj hi).symm, rfl⟩
      | 1, _, hi => exact ⟨D.sp - 1, (Option.some.inj hi).symm, rfl⟩
    subst ey
    refine ⟨_, rfl, _, _, _, _, _, rfl, B1.ob, T.k_Board, T.n_Board_memory, BoardF_memory, _, _, _, rfl, B1.mem.ob, (by kernel_rfl), _, rfl, _, _, rfl, ⟨_, B1.mem⟩, ?_⟩
    refine ⟨_, rfl, rfl, _, rfl, iteOptN (fun b g => ?_) (fun g => ?_)⟩
    · rw [g]
      refine ⟨_, rfl, _, _, _, rfl, B1.ob, (by kernel_rfl), _, rfl, _, rfl, _, rfl, s3, fun t nt => ⟨_, _, t, _, rfl, B1.new nt, upd_same, fun H2 A2 B2 e2 k2 => ?_⟩⟩
      have qq : Q (.str "stopped") H2 := by
        by_cases hi0 : i = 0
        · rw [if_pos hi0] at ez
          rw [ez] at g B2
          rw [g] at q
          exact q _ _ B2 e2 (k1.trans ((Kp.new nt).trans k2))
        · rw [if_neg hi0] at ez
          rw [ez] at g B2
          rw [c1 (by omega), g] at q
          exact q _ _ B2 e2 (k1.trans ((Kp.new nt).trans k2))
      exact qq
    · refine ⟨rfl, fun z2 => ?_, fun z2 => ?_, _, _, rfl⟩
      · by_cases hi0 : i = 0
        · rw [if_pos hi0] at ez; rw [← ez]; exact g
        · exact c1 (by omega)
      · rw [if_neg (by omega)] at ez; rw [← ez]; exact g
  · rintro σ H1 ⟨rfl, c1, c2, v, u, rfl⟩
    have b1 := c1 (show 1 ≤ 2 by decide)
    have b2 := c2 (show 2 ≤ 2 by decide)
    rw [b1, b2] at q
    simp only [] at q
    unfold BD.inter at q
    refine ⟨s2, fun l2 nl2 => ?_⟩
    have B2 : BoardAt K _ A D := B1.new (o := .lst [.int 2, .int 1]) nl2
    have k2 : Kp A.own A.own H _ := k1.trans (Kp.new (o := .lst [.int 2, .int 1]) nl2)
    refine ⟨_, rfl, _, _, _, rfl, B2.ob, (by kernel_rfl), _, _, rfl, B2, _, _, rfl, rfl, (by show (0 : Int) < 2; decide), _, _, _, V.int (if D.pending % 2 = 0 then 2 else 1), rfl, rfl, SqL.of upd_same, ?_, ?_⟩
    · have h2 : D.pending % 2 = 0 ∨ D.pending % 2 = 1 := by omega
      rcases h2 with e | e
      · rw [e]; exact atI_nat (j := 0) rfl
      · rw [e]; exact atI_nat (j := 1) rfl
    refine ⟨_, rfl, _, _, _, rfl, B2.ob, (by kernel_rfl), _, rfl, _, rfl, _, _, _, _, rfl, B2, b1, by omega, by omega, fun H3 A3 B3 e3 k3 => ?_⟩
    replace B3 := B3.as e3
    replace k3 := k3.as e3
    refine ⟨_, rfl, _, _, _, rfl, B3.ob, (by kernel_rfl), _, rfl, _, _, rfl, rfl, _, rfl, _, _, _, _, _, rfl, B3.ob, T.k_Board, T.n_Board_zero, BoardF_zero, .inr ⟨_, rfl, ?_⟩⟩
    refine ⟨A3.w A.p, _, _, _, rfl, B3, b2, ?_, ?_, fun H4 A4 B4 e4 k4 => ?_⟩
    · show (D.tc ++ [_]).length < 1000
      rw [List.length_append]; simp; omega
    · show (if D.sp = 773 then D.sent ++ [_] else D.sent).length < 1000000
      split
      · rw [List.length_append]; simp; omega
      · omega
    replace B4 := B4.as e4
    replace k4 := k4.as e4
    refine ⟨_, rfl, _, _, rfl, rfl, _, rfl, _, _, _, _, _, rfl, B4.ob, T.k_Board, T.n_Board_registers, BoardF_registers, _, _, rfl, B4.put_sp _, B4.goRg fun H5 B5 k5 => ?_⟩
    refine ⟨_, rfl, _, _, _, _, rfl, B5.ob, T.k_Board, T.n_Board_lets, BoardF_len, B5.goLets fun H6 B6 k6 => ?_⟩
    refine ⟨_, rfl, _, rfl, _, _, _, _, _, rfl, B6.ob, T.k_Board, T.n_Board_registers, BoardF_registers, _, _, rfl, B6.put_pc _, B6.goRg fun H7 B7 k7 => ?_⟩
    refine ⟨_, rfl, _, _, _, rfl, B7.ob, (by kernel_rfl), A4.w A.p, _, 3, rfl, B7, by decide, fun H8 B8 k8 => ?_⟩
    exact q _ _ B8 rfl (k2.trans (k3.trans (k4.trans (k5.trans (k6.trans (k7.trans k8))))))
def sp_Board_turn (K : PySem.W.Frag) : Sp := fun vs H Q E_ => ∃ (A : BA) (D : BD), vs = [.ref A.p] ∧ (BoardAt K H A D ∧ (∀ n, D.m.at D.pc = some n → 0 ≤ n) ∧ D.sent.length ≤ 999000 ∧ ∀ H' A', BoardAt K H' A' D.turn.2 → A'.p = A.p → Kp A.own A'.own H H' → Q (.str D.turn.1) H')
abbrev N_Board_turn : List Str := ["self"]
theorem sc_Board_turn : FnScope N_Board_turn ["self"] (defScope s_Board_turn) := ⟨rfl, rfl, rfl, by decide +kernel, rfl, by decide +kernel, by decide +kernel⟩
theorem ok_Board_turn (T : Txt K mg) : Ok P w K mg base CX0 6 (He.fAd K ("Board", some "turn")) ["self"] (sp_Board_turn K) := by
  obtain ⟨_, G_Board_pending, b_Board_pending, kp_Board_pending⟩ := ok_Board_pending (P := P) (w := w) (base := base) T
  obtain ⟨_, G_Board_pass_beats, b_Board_pass_beats, kp_Board_pass_beats⟩ := ok_Board_pass_beats (P := P) (w := w) (base := base) T
  obtain ⟨_, G_Board_interrupt, b_Board_interrupt, kp_Board_interrupt⟩ := ok_Board_interrupt (P := P) (w := w) (base := base) T
  obtain ⟨_, G_Board_deed, b_Board_deed, kp_Board_deed⟩ := ok_Board_deed (P := P) (w := w) (base := base) T
  obtain ⟨fd, F⟩ := T.d_Board_turn
  refine ⟨fd, F.ok sc_Board_turn (fun vs H Q E h => by obtain ⟨A, D, rfl, _⟩ := h; rfl) (fun cdv A_ outer s_ H vs Q E hr h => ?_), F.bindsN (fun _ _ _ _ _ _ us hl => match us, hl with | [_], _ => rfl), F.kp⟩
  obtain ⟨A, D, rfl, h⟩ := h
  have hu := hu_of hr
  refine ⟨_, PSs.nox (pss_cons (ps_fld (pv 0) (pe_lst pa_nil) rfl)
  (pss_cons (ps_if (pt_cmpR op_notN (pe_fld (pv 0) rfl) pe_non (nomark _)) (pss_one (ps_ret pe_str)) pss_nil)
  (C8.pss_cut (ps_if (PW.pt (pw_and (pt_val (pe_fld (pv 0) rfl)) (pw_and1 (pt_cmpR op_eq (pe_meth0 (pv 0) T.k_Board T.m_Board_pending G_Board_pending (hr.mono (by decide)) b_Board_pending .nil pass0) pe_int (nomark _))))) (pss_cons (ps_expr (pe_meth (pv 0) T.k_Board T.m_Board_pass_beats G_Board_pass_beats (hr.mono (by decide)) b_Board_pass_beats .nil pass0 (pa_cons pe_int pa_nil)))
    (pss_one (ps_ret pe_str))) pss_nil)
  (pss_cons (ps_fld (pv 0) pe_bl rfl)
  (pss_cons (ps_if (PW.pt (pw_and (pt_val (pe_fld (pv 0) rfl)) (pw_and1 (pt_cmpR op_gt (pe_meth0 (pv 0) T.k_Board T.m_Board_pending G_Board_pending (hr.mono (by decide)) b_Board_pending .nil pass0) pe_int (nomark _))))) (pss_one (ps_ret (pe_meth0 (pv 0) T.k_Board T.m_Board_interrupt G_Board_interrupt (hr.mono (by decide)) b_Board_interrupt .nil pass0))) pss_nil)
  (pss_one (ps_ret (pe_meth0 (pv 0) T.k_Board T.m_Board_deed G_Board_deed (hr.mono (by decide)) b_Board_deed .nil pass0)))))))), ?_⟩
  obtain ⟨B, hn, hs, q⟩ := h
  have s0 : 0 ≤ sizeLine := by decide
  unfold BD.turn BD.turnB at q
  refine ⟨s0, fun t nt => ⟨_, rfl, _, _, _, _, rfl, (B.new (o := .lst []) nt).ob, T.k_Board, T.n_Board_touched, BoardF_len, B.goTc nt fun H1 B1 k1 => ?_⟩⟩
  cases es : D.stop with
  | some c =>
    rw [if_pos (by show D.stop.isSome = true; rw [es]; rfl)] at q
    have hst := B1.st
    rw [show ({ D with tc := [] } : BD).stop = D.stop from rfl, es] at hst
    obtain ⟨u, eu, hu2⟩ := hst
    have eu' : A.st = .ref u := eu
    refine ⟨_, rfl, _, _, _, _, _, rfl, B1.ob, T.k_Board, T.n_Board_stopped, BoardF_stopped, rfl, _, rfl, ?_⟩
    rw [show ({ A with tc := t, tv := [] } : BA).st = A.st from rfl, eu']
    exact iteT (q _ _ B1 rfl k1)
  | none =>
    rw [if_neg (by show ¬ D.stop.isSome = true; rw [es]; simp)] at q
    have hst := B1.st
    rw [show ({ D with tc := [] } : BD).stop = D.stop from rfl, es] at hst
    have eu' : A.st = .non := hst
    refine ⟨_, rfl, _, _, _, _, _, rfl, B1.ob, T.k_Board, T.n_Board_stopped, BoardF_stopped, rfl, _, rfl, ?_⟩
    rw [show ({ A with tc := t, tv := [] } : BA).st = A.st from rfl, eu']
    refine iteF ?_
    refine ⟨fun σ' H' => σ' = [some (.ref A.p)] ∧ H' = H1 ∧ ¬ (D.asleep = true ∧ ({ D with tc := [] } : BD).pending = 0), ?_, ?_⟩
    · refine ⟨_, rfl, _, _, _, _, _, rfl, B1.ob, T.k_Board, T.n_Board_asleep, BoardF_asleep, _, rfl, iteBo (fun c1 => ?_) (fun c1 => iteF ?_)⟩
      · refine ⟨_, rfl, _, _, _, rfl, B1.ob, (by kernel_rfl), { A with tc := t, tv := [] }, _, rfl, B1, rfl, _, rfl, iteI (fun c2 => ?_) (fun c2 => ?_)⟩
        · rw [if_pos ⟨c1, c2⟩] at q
          exact ⟨_, rfl, _, _, _, rfl, B1.ob, (by kernel_rfl), { A with tc := t, tv := [] }, _, 1, rfl, B1, by decide, fun H2 B2 k2 => q _ _ B2 rfl (k1.trans k2)⟩
        · exact ⟨rfl, rfl, fun z => c2 z.2⟩
      · exact ⟨rfl, rfl, fun z => by rw [show D.asleep = false from c1] at z; exact absurd z.1 (by decide)⟩
    · rintro σ' H' ⟨rfl, rfl, c⟩
      rw [if_neg c] at q
      unfold BD.wake at q
      refine ⟨_, rfl, _, _, _, _, rfl, B1.ob, T.k_Board, T.n_Board_asleep, BoardF_len, B1.goAsleep fun H2 B2 k2 => ?_⟩
      refine ⟨_, rfl, _, _, _, _, _, rfl, B2.ob, T.k_Board, T.n_Board_lets, BoardF_lets, _, rfl, iteBo (fun c1 => ?_) (fun c1 => iteF ?_)⟩
      · refine ⟨_, rfl, _, _, _, rfl, B2.ob, (by kernel_rfl), { A with tc := t, tv := [] }, _, rfl, B2, _, _, rfl, rfl, _, rfl, iteD (fun c2 => ?_) (fun c2 => ?_)⟩
        · rw [if_pos ⟨c1, c2⟩] at q
          exact ⟨_, rfl, _, _, _, rfl, B2.ob, (by kernel_rfl), { A with tc := t, tv := [] }, _, rfl, B2, Nat.zero_le _, hs, fun H3 A3 B3 e3 k3 => q _ _ B3 e3 (k1.trans (k2.trans k3))⟩
        · rw [if_neg (fun z => c2 z.2)] at q
          exact ⟨_, rfl, _, _, _, rfl, B2.ob, (by kernel_rfl), { A with tc := t, tv := [] }, _, rfl, B2, hn, Nat.zero_le _, hs, fun H3 A3 B3 e3 k3 => q _ _ B3 e3 (k1.trans (k2.trans k3))⟩
      · rw [if_neg (fun z => by rw [show D.lets = false from c1] at z; exact absurd z.1 (by decide))] at q
        exact ⟨_, rfl, _, _, _, rfl, B2.ob, (by kernel_rfl), { A with tc := t, tv := [] }, _, rfl, B2, hn, Nat.zero_le _, hs, fun H3 A3 B3 e3 k3 => q _ _ B3 e3 (k1.trans (k2.trans k3))⟩
end

/-! ### set(l) of a list of ints: as the library's set of a tuple, for lists -/
section
open PySem.Spec PyProof.Rows
variable {P : Program} {w : World} {A : Around} {E : Value → Shared → Prop} {s : Shared}
abbrev nSet (w : World) : Obj := { cls := .type "set", dict := none, data := .set #[] 0 (.fresh 0 0 (!w.params.followText "set-order")) }
set_option maxHeartbeats 6400000 in
theorem callSetL {l : Addr} {its : Array Value} (ns : List Int) {Q : Value → Shared → Prop} (ha : A.handled = none) (li : s.heap.IsList l its) (hn : IntsAre its.toList ns) (few : ns.length + 1 < scanBound)
    (goal : ∀ (g : Heap) (t m : Nat), SetR w g s.heap.objs.size (fun j => decide (j ∈ ns)) m → m ≤ ns.length → (∀ b o, s.heap.get? b = some o → g.get? b = some o) → Q (.ref s.heap.objs.size) { s with heap := g, toks := t }) :
    wpAny (model P w) A (call (.type "set") [.ref l]) Q E s := by
  have sz : its.size = ns.length := by
    have z := IntsAre.length hn
    rwa [Array.length_toList] at z
  have ⟨m1, m2, m3⟩ := F.called_set.mro
  have made_ := F.called_set.made
  have sub_ := F.called_set.sub
  refine wpAny_call (codeAny_of_tree ?_); show wpAny _ _ (callAny (.type "set") _) _ _ _
  refine wpAny_pure ⟨Code.quiet_builtin _ (by decide +kernel), codeAny_builtin F.entry_type_call ?_⟩; rw [Around.under_plain (weight_type_call_type "set" [.ref l] []) rfl]
  have nt_ := F.called_set.notType
  have cc_ := F.called_set.canCreate
  have tc_ := F.typeCall_set_1 (.ref l)
  repeat (any_goals first | assumption | wp_step)
  refine codeAny_mono (code_set_led1 (.ref l) (E := E) (Q₁ := fun obj s₁ => obj = .ref s.heap.objs.size ∧ s₁ = { s with heap := s.heap.push (nSet w) }) ⟨rfl, rfl⟩) fun r s₁ hr => ?_
  cases r with
  | error e => exact hr
  | ok fl => cases fl with
    | ret obj =>
      obtain ⟨rfl, rfl⟩ := hr
      have at_ : (s.heap.push (nSet w)).get? s.heap.objs.size = some (nSet w) := Heap.get?_push_size _ rfl
      have ty_ : Shared.TypeIs { s with heap := s.heap.push (nSet w) } (.ref s.heap.objs.size) "set" := ⟨_, at_, rfl⟩
      have lk_ := F.called_set.init.lookup
      have bd_ := F.called_set.init.bind (.ref s.heap.objs.size)
      repeat (any_goals first | assumption | wp_step)
      refine codeAny_mono (codeAny_call_builtin (R := wants (fun r s₂ => r = .none ∧ ∃ g t m, s₂ = { s with heap := g, toks := t } ∧ SetR w g s.heap.objs.size (fun j => decide (j ∈ ns)) m ∧ m ≤ ns.length ∧ (∀ b o, s.heap.get? b = some o → g.get? b = some o)) E) F.called_set.init.plain F.entry_set_init (check_set_init_1 ty_ ?_)) fun r₂ s₂ hr₂ => ?_
      · obtain ⟨⟨oc, od, dt, sl⟩, hol, c1, n1, c2⟩ := li
        simp only at c1 c2
        subst c1 c2
        have old_ : (s.heap.push (nSet w)).get? l = some { cls := .type "list", dict := od, data := .seq its n1, slots := sl } := Heap.get?_push_of_some _ hol
        have sl1 := F.sub_list_set
        have sl2 := F.sub_list_frozenset
        have ne1 : (Value.type "list" == Value.type "dict") = false := by decide
        have li1 : (s.heap.push (nSet w)).IsList l its := ⟨_, old_, rfl, n1, rfl⟩
        unfold Builtin.«set.__init__» noKeywords Builtin.Frozenset.updateFrom
        generalize pe : pyIter = PI
        wp_walk
        subst pe
        refine wpAny_pyIter_list li1 ?_
        refine wpAny_bind (wpAny_runValue ?_)
        have lt_ : l < s.heap.objs.size := Heap.lt_size hol
        have hd3 : A.in1.in1.in1.handled = none := by simp [ha]
        have neI : l ≠ (s.heap.push (nSet w)).objs.size := by rw [Heap.size_push]; exact Nat.ne_of_lt (Nat.lt_succ_of_lt lt_)
        have nin : s.heap.objs.size ∉ [(s.heap.push (nSet w)).objs.size, l] := by
          rw [Heap.size_push]; simp only [List.mem_cons, List.mem_singleton, List.not_mem_nil, or_false, not_or]; exact ⟨Nat.ne_of_lt (Nat.lt_succ_self _), Nat.ne_of_gt lt_⟩
        have vals_ : ∀ (i : Nat) (v : Value), its[i]? = some v → ∃ k t, ns[i]? = some k ∧ v = .int k t := fun i v hv => by
          have lti : i < ns.length := by rw [← sz]; exact (Array.getElem?_eq_some_iff.mp hv).1
          obtain ⟨t, e⟩ := IntsAre.int_at hn i v (by rw [Array.getElem?_toList]; exact hv)
          exact ⟨ns[i], t, List.getElem?_eq_getElem lti, by rw [e, List.getD_eq_getElem?_getD, List.getElem?_eq_getElem lti] <;> rfl⟩
        refine set_update_ints ((Walks.list hd3 _ l neI its).toS) s.heap.objs.size nin ns sz few vals_ (its.size - 0) 0 _ (by omega) (Nat.zero_le _) ⟨⟨_, Heap.get?_push_size _ rfl, rfl, rfl⟩, (li1.push _)⟩ ?s0 ?s1
        case s0 => exact ⟨0, Nat.le_refl 0, setR_new_at (Heap.get?_push_of_some _ at_)⟩
        case s1 =>
          rintro ⟨g, g2, d2, t2, o2⟩ m mv hm hS
          have e1 : g2 = s.gens := mv.gens
          have e2 : d2 = s.drawn := mv.drawn
          have e3 : o2 = s.os := mv.os
          subst e1 e2 e3
          show wpAny _ _ _ _ _ _
          refine wpAny_pure ?_
          show wpAny _ _ (ret Value.none) _ _ _
          rw [sz] at hm
          refine wpAny_pure ⟨rfl, g, t2, m, rfl, hS, hm, fun b o e => ?_⟩
          have b0 : b < s.heap.objs.size := Heap.lt_size e
          refine mv.heap b o ?_ (Heap.get?_push_of_some _ (Heap.get?_push_of_some _ e))
          simp only [List.mem_cons, List.mem_singleton, List.not_mem_nil, or_false, not_or]
          exact ⟨Nat.ne_of_lt b0, by rw [Heap.size_push]; exact Nat.ne_of_lt (Nat.lt_succ_of_lt b0)⟩
      · cases r₂ with
        | error e => exact hr₂
        | ok fl₂ => cases fl₂ with
          | ret r =>
            obtain ⟨rfl, g, t, m, rfl, h1, h2, h3⟩ := hr₂
            repeat (any_goals first | assumption | wp_step)
            exact goal _ _ _ h1 h2 h3
          | _ => exact hr₂.elim
    | _ => exact hr.elim
end
section
variable {X : Cx}
def rSetL (K : PySem.W.Frag) (w : World) : List V → Hp → VK → Prop := fun xs H Q => ∃ (a : Addr) (ns : List Int), xs = [.ref a] ∧ SqL K H a (ns.map V.int) ∧ ns.length ≤ 1000 ∧
  ∀ p c, c ≤ ns.length → H p = none → Q (.ref p) (upd H p (SetO w p (fun j => decide (j ∈ ns)) c))
theorem cr_setL (hc : X.calm = true) : CallR X (.type "set") (rSetL X.K X.w) := by
  intro pins s σ H xs us Q I r h
  obtain ⟨a, ns, rfl, hs, hz, q⟩ := h
  obtain ⟨its, rv, hl, hz2⟩ := I.list hs
  rw [Vals.ref1 r]
  refine callSetL ns (I.ok.hd hc) hl.isList (rv.ints) (by unfold scanBound; omega) fun g t c h1 h2 h3 => ?_
  have hn : H s.heap.objs.size = none := I.hok.fresh (Nat.le_refl _)
  exact ⟨.ref _, upd H s.heap.objs.size (SetO X.w s.heap.objs.size (fun j => decide (j ∈ ns)) c), I.laid (t' := t) h3 (Nat.le_refl _) (setO_new h1), rfl, q _ _ h2 hn⟩
end

/-! ### sorted(s) of a set of hInt, however many: the library's own walk, with the sort of any length -/
section
open PySem.Spec PyProof.Rows
variable {P : Program} {w : World} {A : Around} {E : Value → Shared → Prop} {s : Shared} {a : Addr}
theorem sorted_setLong {S : Int → Bool} {n : Nat} {Q : Value → Shared → Prop} (R : SetR w s.heap a S n) (hA : A.handled = none) (few : n < scanBound)
    (goal : ∀ (s' : Shared) (p : Addr) (out : Array Value) (c : Nat) (ns : List Int), (∀ b o, s.heap.get? b = some o → s'.heap.get? b = some o) → s'.gens = s.gens → s'.os = s.os → s.heap.objs.size ≤ p → s'.heap.get? p = some (seqObj "list" out c) → IntsAre out.toList ns → ns.Pairwise (· < ·) → (∀ k, k ∈ ns ↔ S k = true) → ns.length = n → Q (.ref p) s') :
    wpAny (model P w) A (call (.builtin "sorted") [.ref a]) Q E s := by
  obtain ⟨ob, es, ep, tb, hob, ex, dt, ky, nod, mem, bnd, fit, cnt, ris, led⟩ := R
  refine Calls.call_function_entry kind_sorted plain_sorted entry_sorted (args_sorted1 _) ?_
  have small : n ≤ sizeLine := fits_of_scanBound few
  unfold Builtin.«sorted»; refine wpAny_bind (m := checkCount "sorted" 1 1 _) (wpAny_pure ?_)
  refine wpAny_bind (collect_set (A := A.in1) hA ⟨ob, hob, ex.1, dt⟩ fit bnd ris led fun s1 vs kept le g1 o1 perm => ?_)
  have len : vs.length = n := by rw [perm.length_eq, List.length_map, Array.length_toList]; exact cnt
  have hInt : IntsAre vs (vs.map Builtin.Re.reRawOf) := ints_of vs fun v hv => by
    obtain ⟨e, he, rfl⟩ := List.mem_map.mp (perm.mem_iff.mp hv)
    obtain ⟨k, tk, h1, _⟩ := ky e he
    exact ⟨k, tk, h1⟩
  have keys : (vs.map Builtin.Re.reRawOf).Perm (es.toList.map keyOf) := by
    have z := perm.map Builtin.Re.reRawOf; rw [List.map_map] at z; exact z
  refine wpAny_bind (wpAny_newList ?_ (by omega))
  have at0 : (s1.heap.push (seqObj "list" vs.toArray 0)).get? s1.heap.objs.size = some (seqObj "list" vs.toArray 0) := Heap.get?_push_size _ rfl
  refine wpAny_bind (wpAny_holding (wpAny_call_entry slot_list_sort ⟨_, at0, rfl⟩ entry_list_sort (list_sort_treeAny at0 hInt (by omega) fun out ms i1 i2 i3 => ⟨_, rfl, ?_⟩) (args_list_sort _)))
  obtain ⟨c, hc⟩ := sortedHeap_at (vs := vs) (out := out) at0
  have all : ms.Perm (es.toList.map keyOf) := i2.trans keys
  refine wpAny_pure ⟨_, rfl, goal _ s1.heap.objs.size out c ms (fun b u e => ?_) g1 o1 le hc i1 (lt_of_le_nodup ms i3 (all.nodup_iff.mpr nod)) (fun k => by rw [all.mem_iff, ← mem k]) (by rw [all.length_eq, List.length_map, Array.length_toList]; exact cnt)⟩
  have z := kept b u e; have lt := Heap.lt_size z
  show (sortedHeap (s1.heap.push (seqObj "list" vs.toArray 0)) s1.heap.objs.size vs out).get? b = some u
  exact (sortedHeap_old (Nat.ne_of_lt lt) (by rw [size_push']; exact Nat.lt_succ_of_lt lt)).trans (Heap.get?_push_of_some _ z)
end
section
variable {X : Cx}
def rSortedSetL (w : World) : List V → Hp → VK → Prop := fun vs H Q => ∃ (a : Addr) (S : Int → Bool) (n : Nat), vs = [V.ref a] ∧ H a = some (SetO w a S n) ∧ n < 1000 ∧
  ∀ (ns : List Int) (p : Addr), ns.Pairwise (· < ·) → (∀ k : Int, k ∈ ns ↔ S k = true) → ns.length = n → H p = none → Q (.ref p) (upd H p (.lst (ns.map V.int)))
theorem cr_sortedSetL (hc : X.calm = true) : CallR X (.builtin "sorted") (rSortedSetL X.w) := by
  intro pins s σ H vs us Q I r h
  obtain ⟨a, S, n, rfl, ha, few, q⟩ := h
  rw [Vals.ref1 r]
  refine sorted_setLong (setO_get I ha) (I.ok.hd hc) (by unfold scanBound; omega) fun s' p out c ns kp gn os le at_ hInt up mem len => ?_
  have free : H p = none := I.hok.fresh le
  have sz : (ns.map V.int).length ≤ sizeLine := by rw [List.length_map, len]; exact fits_of_scanBound (by unfold scanBound; omega)
  have J : Inv X pins σ (upd H p (.lst (ns.map V.int))) { s with heap := s'.heap, gens := s'.gens, drawn := s'.drawn, toks := s'.toks } := I.call (ch := []) (Un.laid kp le free) (I.hok.laid kp le ⟨sz, out.toList, c, vals_of_ints hInt, at_⟩) (by rw [gn]; exact I.bare) (fun _ z => nomatch z)
  have eq : s' = { s with heap := s'.heap, gens := s'.gens, drawn := s'.drawn, toks := s'.toks } := by cases s'; cases s; cases os; rfl
  rw [eq]
  exact ⟨.ref p, _, J, rfl, q ns p up mem len free⟩
end

section
variable {H : Hp} {Φ : Hp → Prop}
theorem goF {p C dx : Addr} {fs : List (Str × V)} {f : Str} {v : V} (h : H p = some (.ins C dx fs)) (k : ∀ H1, H1 p = some (.ins C dx (putF f v fs)) → Kp [p] [p] H H1 → Φ H1) : Φ (upd H p (.ins C dx (putF f v fs))) :=
  k _ upd_same (Kp.upd h trivial (by simp))
theorem goNew {q : Addr} {o : HO} (hn : H q = none) (k : ∀ H1, H1 q = some o → Kp [] [q] H H1 → Φ H1) : Φ (upd H q o) := k _ upd_same (Kp.newIn hn)
end
theorem Kp.at1 {S S' : List Addr} {H H' : Hp} (k : Kp S S' H H') {b : Addr} {o : HO} (h : H b = some o) (n : ∀ s ∈ S, b ≠ s) : H' b = some o := k.kept b o h fun m => n b m rfl
theorem none_in {b : Addr} : b ∉ ([] : List Addr) := fun h => by cases h
theorem not1 {b p : Addr} (h : b ≠ p) : b ∉ [p] := fun m => h (List.mem_singleton.mp m)
theorem Kp.drop {S T : List Addr} {H H' : Hp} (k : Kp [] T H H') : Kp S S H H' := ⟨fun b o e _ => k.kept b o e none_in, fun _ m => .inl m, k.tups⟩
theorem Kp.add {S : List Addr} {q : Addr} {H H' : Hp} (k : Kp [] [q] H H') : Kp S (q :: S) H H' :=
  ⟨fun b o e _ => k.kept b o e none_in, fun b m => by
    rcases List.mem_cons.mp m with z | z
    · exact (k.own b (by simp [z])).imp (fun h => by cases h) id
    · exact .inl z, k.tups⟩
theorem Kp.inS {S : List Addr} {p : Addr} {H H' : Hp} (k : Kp [p] [p] H H') (h : p ∈ S) : Kp S S H H' :=
  ⟨fun b o e n => k.kept b o e fun m => n (by rw [List.mem_singleton.mp m]; exact h), fun _ m => .inl m, k.tups⟩
theorem Kp.inT {S T : List Addr} {x : Addr} {H H' : Hp} (k : Kp [x] T H H') (h : x ∈ S) : Kp S (T ++ S) H H' :=
  ⟨fun b o e n => k.kept b o e fun m => n (by rw [List.mem_singleton.mp m]; exact h), fun b m => by
    rcases List.mem_append.mp m with z | z
    · exact (k.own b z).imp (fun z => by rw [List.mem_singleton.mp z]; exact h) id
    · exact .inl z, k.tups⟩
theorem live0 {L T : List Addr} {H H' : Hp} (k : Kp [] T H H') (lv : ∀ b ∈ L, ∃ o, H b = some o) : ∀ b ∈ L, ∃ o, H' b = some o := fun b hb => by
  obtain ⟨o, e⟩ := lv b hb
  exact ⟨o, k.kept _ _ e none_in⟩
theorem live1 {L T : List Addr} {p : Addr} {o' : HO} {H H' : Hp} (k : Kp [p] T H H') (hp : H' p = some o') (lv : ∀ b ∈ L, ∃ o, H b = some o) : ∀ b ∈ L, ∃ o, H' b = some o := fun b hb => by
  obtain ⟨o, e⟩ := lv b hb
  by_cases z : b = p
  · rw [z]; exact ⟨_, hp⟩
  · exact ⟨o, k.kept _ _ e (not1 z)⟩
theorem live2 {L : List Addr} {q : Addr} {o : HO} {H : Hp} (h : H q = some o) (lv : ∀ b ∈ L, ∃ o, H b = some o) : ∀ b ∈ q :: L, ∃ o, H b = some o := fun b hb => by
  rcases List.mem_cons.mp hb with z | z
  · rw [z]; exact ⟨o, h⟩
  · exact lv b z
theorem dead {L : List Addr} {q : Addr} {H : Hp} (h : H q = none) (lv : ∀ b ∈ L, ∃ o, H b = some o) : q ∉ L := fun m => by
  obtain ⟨o, e⟩ := lv q m
  rw [h] at e; cases e
/-- what is owned and what is added -/
theorem Kp.one {p q : Addr} {H H' : Hp} (k : Kp [] [q] H H') : Kp [p] [p, q] H H' :=
  ⟨fun b o e _ => k.kept b o e none_in, fun b m => by
    rcases List.mem_cons.mp m with z | z
    · exact .inl (by simp [z])
    · exact (k.own b z).imp (fun h => by cases h) id, k.tups⟩
def BD.init (ns : List Int) (l : List (Int × Int)) : BD :=
  { m := ⟨ns ++ List.replicate (512 - ns.length) 65535, List.replicate 256 0, List.replicate 6 0⟩, ln := l, a := 0, b := 0, pc := 0, sp := 767, zero := false, lets := false, asleep := false, beat := 0, stop := none, sent := [], tc := [], bend := 0 }
theorem rep_flat (n : Nat) (x : Int) : (List.replicate n [V.int x]).flatten = (List.replicate n x).map V.int := by
  induction n with
  | zero => rfl
  | succ n ih => rw [List.replicate_succ, List.flatten_cons, ih, List.replicate_succ, List.map_cons]; rfl
theorem sorted_eq : ∀ {xs ys : List Int}, xs.Pairwise (· < ·) → ys.Pairwise (· < ·) → (∀ k, k ∈ xs ↔ k ∈ ys) → xs = ys
  | [], [], _, _, _ => rfl
  | [], y :: r, _, _, h => absurd ((h y).mpr (by simp)) (by simp)
  | x :: r, [], _, _, h => absurd ((h x).mp (by simp)) (by simp)
  | x :: r, y :: q, h1, h2, h => by
    obtain ⟨a1, a2⟩ := List.pairwise_cons.mp h1
    obtain ⟨b1, b2⟩ := List.pairwise_cons.mp h2
    have e : x = y := by
      have m1 := (h x).mp (by simp)
      have m2 := (h y).mpr (by simp)
      rcases List.mem_cons.mp m1 with z | z
      · exact z
      · rcases List.mem_cons.mp m2 with z2 | z2
        · exact z2.symm
        · have := b1 x z; have := a1 y z2; omega
    subst e
    congr 1
    refine sorted_eq a2 b2 fun k => ⟨fun m => ?_, fun m => ?_⟩
    · rcases List.mem_cons.mp ((h k).mp (List.mem_cons_of_mem _ m)) with z | z
      · subst z; exact absurd (a1 k m) (by omega)
      · exact z
    · rcases List.mem_cons.mp ((h k).mpr (List.mem_cons_of_mem _ m)) with z | z
      · subst z; exact absurd (b1 k m) (by omega)
      · exact z
structure LineOk (l : List (Int × Int)) : Prop where
  up : (l.map (·.1)).Pairwise (· < ·)
  pos : ∀ p ∈ l, 0 < p.1
  val : ∀ p ∈ l, 0 ≤ p.2 ∧ p.2 < 4
theorem tup_at {H : Hp} : ∀ {vs : List V} {l : List (Int × Int)} {i : Nat} {v : V}, Tups H vs (sentT l) → vs[i]? = some v → ∃ (t : Addr) (x : Int × Int), v = .ref t ∧ H t = some (.tup [.int x.1, .int x.2]) ∧ l[i]? = some x
  | _, [], i, v, .nil, h => by simp at h
  | _, x :: r, 0, v, .cons ⟨t, e, ht⟩ _, h => ⟨t, x, (Option.some.inj h).symm.trans e, ht, rfl⟩
  | _, x :: r, i + 1, v, .cons _ q, h => tup_at (l := r) (i := i) q h
theorem take_snoc {α : Type} {l : List α} {i : Nat} {x : α} (h : l[i]? = some x) : l.take (i + 1) = l.take i ++ [x] := by rw [List.take_add_one, h]; rfl
section
variable {P : Program} {w : World} {K : PySem.W.Frag} {mg : Str → Option Value} {base : Heap}
def sp_is_word (K : PySem.W.Frag) : Sp := fun vs H Q E_ => ∃ (n : Int), vs = [.int n] ∧ (Q (.bl (decide (0 ≤ n ∧ n ≤ 65535))) H)
abbrev N_is_word : List Str := ["thing"]
theorem sc_is_word : FnScope N_is_word ["thing"] (defScope s_is_word) := ⟨rfl, rfl, rfl, by decide +kernel, rfl, by decide +kernel, by decide +kernel⟩
theorem ok_is_word (T : Txt K mg) : Ok P w K mg base CX0 1 (He.fAd K ("is_word", none)) ["thing"] (sp_is_word K) := by
  obtain ⟨fd, F⟩ := T.d_is_word
  refine ⟨fd, F.ok sc_is_word (fun vs H Q E h => by obtain ⟨n, rfl, _⟩ := h; rfl) (fun cdv A_ outer s_ H vs Q E hr h => ?_), F.bindsN (fun _ _ _ _ _ _ us hl => match us, hl with | [_], _ => rfl), F.kp⟩
  obtain ⟨n, rfl, h⟩ := h
  have hu := hu_of hr
  refine ⟨_, PSs.nox (pss_one (ps_ret (pe_and (pe_callB call_isi (by rfl) T.f_isinstance (by decide +kernel) (pa_cons (pv 0) (pa_cons (pe_bltn (v := .ty "int") (by rfl) T.f_int (by decide +kernel) rfl) pa_nil))) (pe_and (pe_not (pe_callB call_isi (by rfl) T.f_isinstance (by decide +kernel) (pa_cons (pv 0) (pa_cons (pe_bltn (v := .ty "bool") (by rfl) T.f_bool (by decide +kernel) rfl) pa_nil)))) (pe_one (pe_chain op_le op_le pe_int (pv 0) (gi_ (by rfl) T.c_MOST))))))), ?_⟩
  refine ⟨_, rfl, _, _, _, _, true, rfl, .ty "int", .base (.int n), kit_ty (by decide +kernel), _, rfl, iteT ?_⟩
  refine ⟨_, rfl, _, _, _, _, false, rfl, .ty "bool", .base (.int n), kit_ty (by decide +kernel), _, rfl, _, rfl, iteT ?_⟩
  refine ⟨_, rfl, _, _, rfl, rfl, _, rfl, iteD (fun h1 => ?_) (fun h1 => ?_)⟩
  · refine ⟨_, _, rfl, rfl, ?_⟩
    have e : decide (n ≤ 65535) = decide (0 ≤ n ∧ n ≤ 65535) := by by_cases z : n ≤ 65535 <;> simp [z, h1]
    show Q (.bl (decide (n ≤ 65535))) H
    rw [e]; exact h
  · have e : decide (0 ≤ n ∧ n ≤ 65535) = false := decide_eq_false fun z => h1 z.1
    rw [e] at h; exact h
def sp_is_line (K : PySem.W.Frag) : Sp := fun vs H Q E_ => ∃ (a : Addr) (ls : List V) (l : List (Int × Int)), vs = [.ref a] ∧ (SqL K H a ls ∧ Tups H ls (sentT l) ∧ LineOk l ∧ l.length < 1000 ∧ ∀ H', Same H H' → Q (.bl true) H')
abbrev N_is_line : List Str := ["line", "beat", "value", "beats", "good"]
theorem sc_is_line : FnScope N_is_line ["line"] (defScope s_is_line) := ⟨rfl, rfl, rfl, by decide +kernel, rfl, by decide +kernel, by decide +kernel⟩
theorem ok_is_line (T : Txt K mg) : Ok P w K mg base CX0 1 (He.fAd K ("is_line", none)) ["line"] (sp_is_line K) := by
  obtain ⟨fd, F⟩ := T.d_is_line
  refine ⟨fd, F.ok sc_is_line (fun vs H Q E h => by obtain ⟨a, ls, l, rfl, _⟩ := h; rfl) (fun cdv A_ outer s_ H vs Q E hr h => ?_), F.bindsN (fun _ _ _ _ _ _ us hl => match us, hl with | [_], _ => rfl), F.kp⟩
  obtain ⟨a, ls, l, rfl, h⟩ := h
  have hu := hu_of hr
  refine ⟨_, PSs.nox (pss_cons (ps_setLc (i := 3) (own := [("beat", 1), ("value", 2)]) (g := (gTup K 2 (gCons (gName 1) (gCons (gName 2) gNil)))) (tt := tYes) rfl sc_is_line.nd rfl rfl (sw_true rfl rfl rfl (by decide +kernel)) (pi_list (pv 0)) (blkOk_by (own := [("beat", 1), ("value", 2)]) (N := N_is_line) (sc := defScope s_is_line) (by decide +kernel)) (fun _ _ _ _ _ => (pg_tup rfl (pgs_cons (pg_name (i := 1) sc_is_line.nd rfl (.inl rfl)) (pgs_cons (pg_name (i := 2) sc_is_line.nd rfl (.inl rfl)) pgs_nil)))) (fun _ _ _ _ _ => pts_nil) (fun _ _ _ _ _ => (pv 1)))
  (pss_cons (ps_setLc (i := 4) (own := [("beat", 1), ("value", 2)]) (g := (gTup K 2 (gCons (gName 1) (gCons (gName 2) gNil)))) rfl sc_is_line.nd rfl rfl (sw_true rfl rfl rfl (by decide +kernel)) (pi_list (pv 0)) (blkOk_by (own := [("beat", 1), ("value", 2)]) (N := N_is_line) (sc := defScope s_is_line) (by decide +kernel)) (fun _ _ _ _ _ => (pg_tup rfl (pgs_cons (pg_name (i := 1) sc_is_line.nd rfl (.inl rfl)) (pgs_cons (pg_name (i := 2) sc_is_line.nd rfl (.inl rfl)) pgs_nil)))) (fun _ _ _ _ _ => pts_one (pt_chain op_le op_lt pe_int (pv 2) pe_int)) (fun _ _ _ _ _ => (pv 2)))
  (pss_one (ps_ret (pe_and (pe_cmpR op_eq (pe_callB call_len_seq (by rfl) T.f_len PySem.boot_len (pa_cons (pv 4) pa_nil)) (pe_callB call_len_seq (by rfl) T.f_len PySem.boot_len (pa_cons (pv 0) pa_nil)) (nomark _)) (pe_and (pe_cmpR (op_eqD hr.units) (pv 3) (pe_callB (cr_sortedSetL rfl) (by rfl) T.f_sorted (by decide +kernel) (pa_cons (pe_callTy (cr_setL rfl) (by rfl) T.f_set (by decide +kernel) (pa_cons (pv 3) pa_nil)) pa_nil)) (nomark _)) (pe_one (pe_or (pe_cmpR (op_eqD hr.units) (pv 3) (pe_lst pa_nil) (nomark _)) (pe_one (pe_cmpR op_gt (pe_ix ix_list (pv 3) pe_int (fun _ _ => rfl)) pe_int (nomark _))))))))))), ?_⟩
  obtain ⟨hs, ht, ok, hl, q⟩ := h
  have len : ls.length = l.length := by have e := Paired.length ht; unfold sentT at e; rwa [List.length_map] at e
  have s0 : 0 ≤ sizeLine := by decide
  -- beats
  refine ⟨_, rfl, _, rfl, ⟨_, hs⟩, fun b nb => lc_list (K := K) (a := a) (xs := ls) (fun i H1 => Same H H1 ∧ H1 b = some (.lst (((l.take i).map (·.1)).map V.int))) ⟨fun c o e => by rw [upd_ne (ne_of_none e nb)]; exact e, upd_same⟩ (fun i H1 _ p => p.1.seq hs) ?_ ?_⟩
  · rintro i v H1 hi ⟨sm, hb⟩
    obtain ⟨t, x, rfl, hx, hlx⟩ := tup_at ht hi
    have il := (List.getElem?_eq_some_iff.mp hlx).1
    refine ⟨_, _, rfl, SqT.of (sm _ _ hx), rfl, _, _, rfl, _, _, rfl, rfl, rfl, _, rfl, _, hb, small_ (by simp; omega), ?_, ?_⟩
    · intro c o e
      rw [upd_ne (ne_of_none e nb)]; exact sm c o e
    · rw [upd_same, take_snoc hlx, List.map_append, List.map_append]; rfl
  rintro H1 ⟨s1, hb⟩
  rw [len, List.take_length] at hb
  -- good
  refine ⟨_, rfl, _, rfl, ⟨_, s1.seq hs⟩, fun g ng => lc_list (K := K) (a := a) (xs := ls) (fun i H2 => Same H1 H2 ∧ H2 g = some (.lst (((l.take i).map (·.2)).map V.int))) ⟨fun c o e => by rw [upd_ne (ne_of_none e ng)]; exact e, upd_same⟩ (fun i H2 _ p => p.1.seq (s1.seq hs)) ?_ ?_⟩
  · rintro i v H2 hi ⟨sm, hg⟩
    obtain ⟨t, x, rfl, hx, hlx⟩ := tup_at ht hi
    have il := (List.getElem?_eq_some_iff.mp hlx).1
    obtain ⟨v1, v2⟩ := ok.val x (List.mem_of_getElem? hlx)
    refine ⟨_, _, rfl, SqT.of (sm _ _ (s1 _ _ hx)), rfl, _, _, rfl, _, _, rfl, rfl, rfl, ?_⟩
    refine ⟨_, rfl, _, _, rfl, rfl, _, rfl, iteD (fun _ => ?_) (fun z => absurd v1 z)⟩
    refine ⟨_, _, rfl, rfl, _, rfl, iteD (fun _ => ?_) (fun z => absurd v2 z)⟩
    refine ⟨_, rfl, _, hg, small_ (by simp; omega), ?_, ?_⟩
    · intro c o e
      rw [upd_ne (ne_of_none e ng)]; exact sm c o e
    · rw [upd_same, take_snoc hlx, List.map_append, List.map_append]; rfl
  rintro H2 ⟨s2, hg⟩
  rw [len, List.take_length] at hg
  have s02 := s1.trans s2
  have hb2 := s2 _ _ hb
  refine ⟨_, rfl, _, _, rfl, .inl (SqL.of hg), _, rfl, _, _, rfl, .inl (s02.seq hs), rfl, _, rfl, ?_⟩
  rw [decide_eq_true (show V.int (((l.map (·.2)).map V.int).length : Int) = V.int (ls.length : Int) from by rw [List.length_map, List.length_map, len])]
  refine iteT ?_
  refine ⟨_, rfl, _, rfl, _, _, rfl, SqL.of hb2, by rw [List.length_map]; omega, fun p c hc np => ?_⟩
  refine ⟨_, _, _, rfl, upd_same, by rw [List.length_map] at hc; omega, fun ns d up mem_ nlen nd => ?_⟩
  have en : ns = l.map (·.1) := sorted_eq up ok.up fun k => by rw [mem_ k]; simp
  subst en
  have hb3 : (upd (upd H2 p (SetO w p (fun j => decide (j ∈ l.map (·.1))) c)) d (.lst ((l.map (·.1)).map V.int))) b = some (.lst ((l.map (·.1)).map V.int)) := by
    have h1 : (upd H2 p (SetO w p (fun j => decide (j ∈ l.map (·.1))) c)) b = some (.lst ((l.map (·.1)).map V.int)) := by rw [upd_ne (ne_of_none hb2 np)]; exact hb2
    rw [upd_ne (ne_of_none h1 nd)]; exact h1
  have s3 : Same H (upd (upd H2 p (SetO w p (fun j => decide (j ∈ l.map (·.1))) c)) d (.lst ((l.map (·.1)).map V.int))) := fun x o e => by
    have h1 : (upd H2 p (SetO w p (fun j => decide (j ∈ l.map (·.1))) c)) x = some o := by rw [upd_ne (ne_of_none (s02 _ _ e) np)]; exact s02 _ _ e
    rw [upd_ne (ne_of_none h1 nd)]; exact h1
  refine ⟨_, _, dpL (SqL.of hb3), dpL (SqL.of upd_same), shp_ints _, shp_ints _, _, rfl, ?_⟩
  rw [eqv_intL, decide_eq_true rfl]
  refine iteT ?_
  refine ⟨_, rfl, s0, fun e0 ne0 => ?_⟩
  refine ⟨_, _, dpL (SqL.of ((upd_ne (ne_of_none hb3 ne0)).trans hb3)), dpL (xs := []) (SqL.of upd_same), shp_ints _, shp_ints _, _, rfl, ?_⟩
  rw [eqv_intL]
  have s4 : Same H (upd _ e0 (.lst [])) := fun x o e => (upd_ne (ne_of_none (s3 _ _ e) ne0)).trans (s3 _ _ e)
  cases l with
  | nil => exact iteT (q _ s4)
  | cons x r =>
    refine iteF ?_
    refine ⟨_, rfl, _, _, _, _, rfl, rfl, SqL.of ((upd_ne (ne_of_none hb3 ne0)).trans hb3), atI_nat (j := 0) rfl, _, _, rfl, rfl, ?_⟩
    show Q (.bl (decide (0 < x.1))) _
    rw [decide_eq_true (ok.pos x (by simp))]
    exact q _ s4
end

theorem merge_nil (l : List (Int × Int)) (h : (l.map (·.1)).Pairwise (· < ·)) : mergeK [] (lineK l) = lineK l := by
  have go : ∀ (r : List (Int × Int)) (acc : List (Key × V)), (r.map (·.1)).Pairwise (· < ·) → (∀ p ∈ r, valV acc (Sum.inl p.1 : Key) = none) → mergeK acc (lineK r) = acc ++ lineK r := by
    intro r
    induction r with
    | nil => intro acc _ _; exact (List.append_nil acc).symm
    | cons x r ih =>
      intro acc hp hn
      obtain ⟨h1, h2⟩ := List.pairwise_cons.mp (show (x.1 :: r.map (·.1)).Pairwise (· < ·) from hp)
      show mergeK (putK acc (Sum.inl x.1) (V.int x.2)) (lineK r) = _
      rw [putK_new _ (hn x (by simp)), ih _ h2 (fun p hp2 => by
        rw [valV_snoc _ _ _ _ (hn x (by simp))]
        rw [if_neg]
        · exact hn p (List.mem_cons_of_mem _ hp2)
        · intro e
          have := h1 p.1 (List.mem_map_of_mem hp2)
          have e2 := Sum.inl.inj e
          omega)]
      rw [List.append_assoc]; rfl
  have := go l [] h (fun _ _ => rfl)
  rw [this]; rfl
section
variable {P : Program} {w : World} {K : PySem.W.Frag} {mg : Str → Option Value} {base : Heap}
def sp_Memory_init (K : PySem.W.Frag) : Sp := fun vs H Q E_ => ∃ (p dx a : Addr) (ns : List Int), vs = [.ref p, .ref a] ∧ (H p = some (.ins (He.ga K "Memory") dx []) ∧ SqL K H a (ns.map V.int) ∧ ns.length ≤ 512 ∧ ∀ H' A, MemAt K H' A ⟨ns ++ List.replicate (512 - ns.length) 65535, List.replicate 256 0, List.replicate 6 0⟩ → A.p = p → Kp [p] A.own H H' → [A.f, A.r, A.pl].Nodup → Q .non H')
abbrev N_Memory_init : List Str := ["self", "image"]
theorem sc_Memory_init : FnScope N_Memory_init ["self", "image"] (defScope s_Memory_init) := ⟨rfl, rfl, rfl, by decide +kernel, rfl, by decide +kernel, by decide +kernel⟩
theorem ok_Memory_init (T : Txt K mg) : Ok P w K mg base CX0 1 (He.fAd K ("Memory", some "__init__")) ["self", "image"] (sp_Memory_init K) := by
  obtain ⟨fd, F⟩ := T.d_Memory_init
  refine ⟨fd, F.ok sc_Memory_init (fun vs H Q E h => by obtain ⟨p, dx, a, ns, rfl, _⟩ := h; rfl) (fun cdv A_ outer s_ H vs Q E hr h => ?_), F.bindsN (fun _ _ _ _ _ _ us hl => match us, hl with | [_, _], _ => rfl), F.kp⟩
  obtain ⟨p, dx, a, ns, rfl, h⟩ := h
  have hu := hu_of hr
  refine ⟨_, PSs.nox (pss_cons (ps_fld (pv 0) (pe_op op_cat (pe_callTy call_list_of (by rfl) T.f_list (by decide +kernel) (pa_cons (pv 1) pa_nil)) (pe_op op_rep (pe_lst (pa_cons (gi_ (by rfl) T.c_ERASED) pa_nil)) (pe_op op_sub (gi_ (by rfl) T.c_FLASH) (pe_callB call_len_seq (by rfl) T.f_len PySem.boot_len (pa_cons (pv 1) pa_nil))))) rfl)
  (pss_cons (ps_fld (pv 0) (pe_op op_rep (pe_lst (pa_cons pe_int pa_nil)) (pe_op op_sub (gi_ (by rfl) T.c_RAM) (gi_ (by rfl) T.c_FLASH))) rfl)
  (pss_one (ps_fld (pv 0) (pe_op op_rep (pe_lst (pa_cons pe_int pa_nil)) pe_int) rfl)))), ?_⟩
  obtain ⟨hp, ha, hl, q⟩ := h
  have s1 : 1 ≤ sizeLine := by decide
  refine ⟨_, rfl, a, _, rfl, .inl ha, fun l1 n1 => ?_⟩
  have k1 := Kp.newIn (S := []) (o := .lst (ns.map V.int)) n1
  have h1 : (upd H l1 (.lst (ns.map V.int))) l1 = some (.lst (ns.map V.int)) := upd_same
  generalize upd H l1 (.lst (ns.map V.int)) = H1 at *
  refine ⟨s1, fun l2 n2 => ?_⟩
  have k2 := Kp.newIn (S := []) (o := .lst [V.int 65535]) n2
  have h2 : (upd H1 l2 (.lst [V.int 65535])) l2 = some (.lst [V.int 65535]) := upd_same
  generalize upd H1 l2 (.lst [V.int 65535]) = H2 at *
  have ha2 := k2.seq none_in (k1.seq none_in ha)
  have hp2 := k2.kept _ _ (k1.kept _ _ hp none_in) none_in
  have h12 := k2.kept _ _ h1 none_in
  have et : ((512 : Int) - ((ns.map V.int).length : Int)).toNat = 512 - ns.length := by rw [List.length_map]; omega
  refine ⟨_, rfl, a, _, rfl, .inl ha2, _, _, rfl, rfl, _, _, _, rfl, rfl, h2, ?_, ?_, ?_, fun l3 n3 => ?_⟩
  · rw [List.length_map]; omega
  · rw [List.length_map]; omega
  · rw [List.length_map]; exact small_le (by simp; omega)
  rw [et, rep_flat]
  have k3 := Kp.newIn (S := []) (o := .lst ((List.replicate (512 - ns.length) (65535 : Int)).map V.int)) n3
  have h3 : (upd H2 l3 (.lst ((List.replicate (512 - ns.length) (65535 : Int)).map V.int))) l3 = some _ := upd_same
  generalize upd H2 l3 (.lst ((List.replicate (512 - ns.length) (65535 : Int)).map V.int)) = H3 at *
  have h13 := k3.kept _ _ h12 none_in
  have hp3 := k3.kept _ _ hp2 none_in
  refine ⟨_, _, _, _, rfl, rfl, h13, h3, small_le (by simp; omega), fun l4 n4 => ?_⟩
  rw [← List.map_append]
  have k4 := Kp.newIn (S := []) (o := .lst ((ns ++ List.replicate (512 - ns.length) (65535 : Int)).map V.int)) n4
  have h4 : (upd H3 l4 (.lst ((ns ++ List.replicate (512 - ns.length) (65535 : Int)).map V.int))) l4 = some _ := upd_same
  generalize upd H3 l4 (.lst ((ns ++ List.replicate (512 - ns.length) (65535 : Int)).map V.int)) = H4 at *
  have hp4 := k4.kept _ _ hp3 none_in
  refine ⟨_, rfl, _, _, _, _, rfl, hp4, T.k_Memory, T.n_Memory_flash, (by show 0 < 1000; decide), goF hp4 fun H5 hp5 k5 => ?_⟩
  have n4p : l4 ≠ p := fun e => by rw [e, hp3] at n4; cases n4
  have h45 := k5.at1 h4 (by simpa using n4p)
  -- self.ram = [0] * (RAM - FLASH)
  refine ⟨s1, fun l5 n5 => ?_⟩
  have k6 := Kp.newIn (S := []) (o := .lst [V.int 0]) n5
  have h6 : (upd H5 l5 (.lst [V.int 0])) l5 = some (.lst [V.int 0]) := upd_same
  generalize upd H5 l5 (.lst [V.int 0]) = H6 at *
  refine ⟨_, _, rfl, rfl, _, _, _, rfl, rfl, h6, by decide, by decide, small_le (by decide), fun l6 n6 => ?_⟩
  rw [rep_flat]
  have k7 := Kp.newIn (S := []) (o := .lst ((List.replicate 256 (0 : Int)).map V.int)) n6
  have h7 : (upd H6 l6 (.lst ((List.replicate 256 (0 : Int)).map V.int))) l6 = some _ := upd_same
  have e7 : (upd H6 l6 (.lst ((List.replicate ((768 : Int) - 512).toNat (0 : Int)).map V.int))) = (upd H6 l6 (.lst ((List.replicate 256 (0 : Int)).map V.int))) := rfl
  rw [e7]
  generalize upd H6 l6 (.lst ((List.replicate 256 (0 : Int)).map V.int)) = H7 at *
  have hp7 := k7.kept _ _ (k6.kept _ _ hp5 none_in) none_in
  have h47 := k7.kept _ _ (k6.kept _ _ h45 none_in) none_in
  have n6p : l6 ≠ p := fun e => by rw [e, k6.kept _ _ hp5 none_in] at n6; cases n6
  have n64 : l6 ≠ l4 := fun e => by rw [e, k6.kept _ _ h45 none_in] at n6; cases n6
  refine ⟨_, rfl, _, _, _, _, rfl, hp7, T.k_Memory, T.n_Memory_ram, (by show 1 < 1000; decide), goF hp7 fun H8 hp8 k8 => ?_⟩
  have h48 := k8.at1 h47 (by simpa using n4p)
  have h68 := k8.at1 h7 (by simpa using n6p)
  -- self.places = [0] * 6
  refine ⟨s1, fun l7 n7 => ?_⟩
  have k9 := Kp.newIn (S := []) (o := .lst [V.int 0]) n7
  have h9 : (upd H8 l7 (.lst [V.int 0])) l7 = some (.lst [V.int 0]) := upd_same
  generalize upd H8 l7 (.lst [V.int 0]) = H9 at *
  refine ⟨_, _, _, rfl, rfl, h9, by decide, by decide, small_le (by decide), fun l8 n8 => ?_⟩
  rw [rep_flat]
  have kA := Kp.newIn (S := []) (o := .lst ((List.replicate 6 (0 : Int)).map V.int)) n8
  have hA : (upd H9 l8 (.lst ((List.replicate 6 (0 : Int)).map V.int))) l8 = some _ := upd_same
  have e8 : (upd H9 l8 (.lst ((List.replicate (6 : Int).toNat (0 : Int)).map V.int))) = (upd H9 l8 (.lst ((List.replicate 6 (0 : Int)).map V.int))) := rfl
  rw [e8]
  generalize upd H9 l8 (.lst ((List.replicate 6 (0 : Int)).map V.int)) = HA at *
  have hpA := kA.kept _ _ (k9.kept _ _ hp8 none_in) none_in
  have h4A := kA.kept _ _ (k9.kept _ _ h48 none_in) none_in
  have h6A := kA.kept _ _ (k9.kept _ _ h68 none_in) none_in
  have n8p : l8 ≠ p := fun e => by rw [e, k9.kept _ _ hp8 none_in] at n8; cases n8
  have n84 : l8 ≠ l4 := fun e => by rw [e, k9.kept _ _ h48 none_in] at n8; cases n8
  have n86 : l8 ≠ l6 := fun e => by rw [e, k9.kept _ _ h68 none_in] at n8; cases n8
  refine ⟨_, rfl, _, _, _, _, rfl, hpA, T.k_Memory, T.n_Memory_places, (by show 2 < 1000; decide), goF hpA fun HB hpB kB => ?_⟩
  refine q HB ⟨p, dx, l4, l6, l8⟩ ⟨?_, kB.at1 h4A (by simpa using n4p), kB.at1 h6A (by simpa using n6p), kB.at1 hA (by simpa using n8p), by simp; omega, by simp, by simp⟩ rfl ?_ (by simp [n64.symm, n84.symm, n86.symm])
  · exact hpB
  · have a1 : Kp [p] [l4, p] H H5 := (k1.drop.trans (k2.drop.trans (k3.drop.trans k4.add))).trans (k5.inS (by simp))
    have a2 : Kp [l4, p] [l6, l4, p] H5 H8 := (k6.drop.trans k7.add).trans (k8.inS (by simp))
    have a3 : Kp [l6, l4, p] [l8, l6, l4, p] H8 HB := (k9.drop.trans kA.add).trans (kB.inS (by simp))
    exact (a1.trans (a2.trans a3)).sub fun b hb => by
      simp only [MA.own, List.mem_cons, List.not_mem_nil, or_false] at hb ⊢
      rcases hb with h | h | h | h <;> simp [h]
end

theorem tups_pairs {K : PySem.W.Frag} {H : Hp} : ∀ {ls : List V} {l : List (Int × Int)}, Tups H ls (sentT l) → ∃ ps : List Addr, ls = ps.map V.ref ∧ Paired (fun p (kv : Key × V) => SqT K H p [kV kv.1, kv.2]) ps (lineK l)
  | _, [], .nil => ⟨[], rfl, .nil⟩
  | _, x :: r, .cons ⟨t, e, h⟩ q => by
    obtain ⟨ps, e2, h2⟩ := tups_pairs (K := K) (l := r) q
    exact ⟨t :: ps, by rw [e, e2]; rfl, .cons (SqT.of h) h2⟩
theorem Same.tups {H H' : Hp} (s : Same H H') {ls : List V} {xss : List (List V)} (h : Tups H ls xss) : Tups H' ls xss := h.mono fun b xs e => s b _ e
section
variable {P : Program} {w : World} {K : PySem.W.Frag} {mg : Str → Option Value} {base : Heap}
def sp_Board_init (K : PySem.W.Frag) : Sp := fun vs H Q E_ => ∃ (p dx a al : Addr) (ns : List Int) (ls : List V) (l : List (Int × Int)), vs = [.ref p, .ref a, .ref al] ∧ (H p = some (.ins (He.ga K "Board") dx []) ∧ SqL K H a (ns.map V.int) ∧ H al = some (.lst ls) ∧ Tups H ls (sentT l) ∧ LineOk l ∧ l.length < 1000 ∧ ns.length ≤ 512 ∧ (∀ n ∈ ns, 0 ≤ n ∧ n ≤ 65535) ∧ ∀ H' A, BoardAt K H' A (BD.init ns l) → A.p = p → Kp [p] A.own H H' → Q .non H')
abbrev N_Board_init : List Str := ["self", "image", "line", "word"]
theorem sc_Board_init : FnScope N_Board_init ["self", "image", "line"] (defScope s_Board_init) := ⟨rfl, rfl, rfl, by decide +kernel, rfl, by decide +kernel, by decide +kernel⟩
theorem ok_Board_init (T : Txt K mg) : Ok P w K mg base CX0 3 (He.fAd K ("Board", some "__init__")) ["self", "image", "line"] (sp_Board_init K) := by
  obtain ⟨_, G_is_word, b_is_word, kp_is_word⟩ := ok_is_word (P := P) (w := w) (base := base) T
  obtain ⟨_, G_is_line, b_is_line, kp_is_line⟩ := ok_is_line (P := P) (w := w) (base := base) T
  obtain ⟨_, G_Memory_init, b_Memory_init, kp_Memory_init⟩ := ok_Memory_init (P := P) (w := w) (base := base) T
  obtain ⟨fd, F⟩ := T.d_Board_init
  refine ⟨fd, F.ok sc_Board_init (fun vs H Q E h => by obtain ⟨p, dx, a, al, ns, ls, l, rfl, _⟩ := h; rfl) (fun cdv A_ outer s_ H vs Q E hr h => ?_), F.bindsN (fun _ _ _ _ _ _ us hl => match us, hl with | [_, _, _], _ => rfl), F.kp⟩
  obtain ⟨p, dx, a, al, ns, ls, l, rfl, h⟩ := h
  have hu := hu_of hr
  refine ⟨_, PSs.nox (pss_cons (ps_if (PW.pt (pw_or (pt_cmpR op_gt (pe_callB call_len_seq (by rfl) T.f_len PySem.boot_len (pa_cons (pv 1) pa_nil)) (gi_ (by rfl) T.c_FLASH) (nomark _)) (pw_or (pt_not (pt_val (pe_callB (cr_all rfl) (by rfl) T.f_all (by decide +kernel) (pa_cons (pe_lc (own := [("word", 3)]) (g := gName 3) (tt := tYes) rfl sc_Board_init.nd (pi_list (pv 1)) (blkOk_by (own := [("word", 3)]) (N := N_Board_init) (sc := defScope s_Board_init) (by decide +kernel)) (fun _ _ _ _ _ => pg_name (i := 3) sc_Board_init.nd rfl (Or.inl rfl)) (fun _ _ _ _ _ => pts_nil) (fun _ _ _ _ _ => (pe_call G_is_word (hr.mono (by decide)) (by rfl) T.g_is_word kp_is_word b_is_word .nil pass0 (pa_cons (pv 3) pa_nil)))) pa_nil)))) (pw_or1 (pt_not (pt_val (pe_call G_is_line (hr.mono (by decide)) (by rfl) T.g_is_line kp_is_line b_is_line .nil pass0 (pa_cons (pv 2) pa_nil)))))))) (pss_one ps_never) pss_nil)
  (pss_cons (ps_fld (pv 0) (pe_make T.mk_Memory G_Memory_init (hr.mono (by decide)) (by rfl) T.g_Memory b_Memory_init .nil pass0 (pa_cons (pv 1) pa_nil)) rfl)
  (pss_cons (ps_fld (pv 0) (pe_callTy (call_dictP rfl) (by rfl) T.f_dict (by decide +kernel) (pa_cons (pv 2) pa_nil)) rfl)
  (pss_cons (ps_fld (pv 0) (pe_disp (pps_cons pe_str pe_int (pps_cons pe_str pe_int (pps_cons pe_str pe_int (pps_cons pe_str (gi_ (by rfl) T.c_FIRST_STACK) pps_nil)))) (by rfl) (by rfl) (fun z => by cases z) (by decide)) rfl)
  (pss_cons (ps_fld (pv 0) pe_bl rfl)
  (pss_cons (ps_fld (pv 0) pe_bl rfl)
  (pss_cons (ps_fld (pv 0) pe_bl rfl)
  (pss_cons (ps_fld (pv 0) pe_int rfl)
  (pss_cons (ps_fld (pv 0) pe_non rfl)
  (pss_cons (ps_fld (pv 0) (pe_lst pa_nil) rfl)
  (pss_cons (ps_fld (pv 0) (pe_lst pa_nil) rfl)
  (pss_one (ps_fld (pv 0) pe_int rfl))))))))))))), ?_⟩
  obtain ⟨hp, ha, hal, htu, lok, ll, hl, hw, q⟩ := h
  have s0 : 0 ≤ sizeLine := by decide
  refine ⟨_, rfl, _, _, rfl, .inl ha, _, _, rfl, rfl, _, rfl, iteD (fun z => absurd (show (512 : Int) < ((ns.map V.int).length : Int) from z) (by rw [List.length_map]; omega)) (fun _ => ?_)⟩
  refine ⟨_, rfl, _, rfl, ⟨_, ha⟩, fun b nb => lc_list (K := K) (a := a) (xs := ns.map V.int) (fun i H1 => Same H H1 ∧ H1 b = some (.lst ((List.replicate i true).map V.bl))) ⟨fun c o e => by rw [upd_ne (ne_of_none e nb)]; exact e, upd_same⟩ (fun i H1 _ p => p.1.seq ha) ?_ ?_⟩
  · rintro i v H1 hi ⟨sm, hb⟩
    rw [List.getElem?_map] at hi
    cases hz : ns[i]? with
    | none => rw [hz] at hi; cases hi
    | some n =>
      rw [hz] at hi
      have ev : v = .int n := (Option.some.inj hi).symm
      subst ev
      have il := (List.getElem?_eq_some_iff.mp hz).1
      refine ⟨rfl, _, rfl, n, rfl, _, hb, small_ (by simp; omega), ?_, ?_⟩
      · intro c o e
        rw [upd_ne (ne_of_none e nb)]; exact sm c o e
      · rw [upd_same, decide_eq_true (hw n (List.mem_of_getElem? hz)), List.replicate_succ', List.map_append]; rfl
  rintro H1 ⟨s1, hb⟩
  rw [List.length_map] at hb
  refine ⟨_, _, rfl, SqL.of hb, _, rfl, ?_⟩
  rw [show (List.replicate ns.length true).all id = true from by rw [List.all_eq_true]; intro x hx; exact (List.mem_replicate.mp hx).2]
  refine iteF ?_
  refine ⟨_, rfl, _, _, _, rfl, SqL.of (s1 _ _ hal), htu.mono (fun b xs e => s1 b _ e), lok, ll, fun H2 s2 => ⟨_, rfl, iteF ?_⟩⟩
  have s02 := s1.trans s2
  -- self.memory = Memory(image)
  have hp2 := s02 _ _ hp
  have ha2 := s02.seq ha
  have k02 : Kp [p] [p] H H2 := (Kp.ofSame s02).drop
  refine ⟨_, rfl, fun x dx2 nx ndx nex => ?_⟩
  have hx : (upd (upd H2 dx2 (.own x)) x (.ins (He.ga K "Memory") dx2 [])) x = some (.ins (He.ga K "Memory") dx2 []) := upd_same
  have kA : Kp [] [x] H2 (upd (upd H2 dx2 (.own x)) x (.ins (He.ga K "Memory") dx2 [])) := (Kp.new (S := []) ndx).trans (Kp.newIn (by rw [upd_ne nex.symm]; exact nx))
  generalize (upd (upd H2 dx2 (.own x)) x (.ins (He.ga K "Memory") dx2 [])) = H3 at *
  have hp3 := kA.kept _ _ hp2 none_in
  have nxp : x ≠ p := fun e => by rw [e, hp2] at nx; cases nx
  refine ⟨x, dx2, a, ns, rfl, hx, kA.seq none_in ha2, hl, fun H4 M mem eM kB ndM => ⟨rfl, ?_⟩⟩
  subst eM
  have k24 : Kp [p] (M.own ++ [M.p, p]) H H4 := (k02.trans kA.add).trans (kB.inT (by simp))
  have hp4 := kB.kept _ _ hp3 (not1 nxp.symm)
  have nMp : ∀ b ∈ M.own, b ≠ p := by
    intro b hb
    simp only [MA.own, List.mem_cons, List.not_mem_nil, or_false] at hb
    rcases hb with h | h | h | h <;> rw [h]
    · exact nxp
    · exact ne_of mem.fl hp4 (by intro z; cases z)
    · exact ne_of mem.ra hp4 (by intro z; cases z)
    · exact ne_of mem.pl hp4 (by intro z; cases z)
  have lv4 : ∀ b ∈ p :: M.own, ∃ o, H4 b = some o := live2 hp4 fun b hb => by
    simp only [MA.own, List.mem_cons, List.not_mem_nil, or_false] at hb
    rcases hb with h | h | h | h <;> rw [h]
    · exact ⟨_, mem.ob⟩
    · exact ⟨_, mem.fl⟩
    · exact ⟨_, mem.ra⟩
    · exact ⟨_, mem.pl⟩
  have nd4 : (p :: M.own).Nodup := by
    refine List.nodup_cons.mpr ⟨fun m => nMp p m rfl, ?_⟩
    refine List.nodup_cons.mpr ⟨?_, ndM⟩
    simp only [List.mem_cons, List.not_mem_nil, or_false, not_or]
    exact ⟨mem.npf, mem.npr, mem.npp⟩
  have mkeep : ∀ {Ha Hb : Hp}, MemAt K Ha M ⟨ns ++ List.replicate (512 - ns.length) 65535, List.replicate 256 0, List.replicate 6 0⟩ → Kp [p] [p] Ha Hb → MemAt K Hb M ⟨ns ++ List.replicate (512 - ns.length) 65535, List.replicate 256 0, List.replicate 6 0⟩ := fun m k => m.keep k fun b hb => not1 (nMp b hb)
  have mkeep0 : ∀ {Ha Hb : Hp} {T : List Addr}, MemAt K Ha M ⟨ns ++ List.replicate (512 - ns.length) 65535, List.replicate 256 0, List.replicate 6 0⟩ → Kp [] T Ha Hb → MemAt K Hb M ⟨ns ++ List.replicate (512 - ns.length) 65535, List.replicate 256 0, List.replicate 6 0⟩ := fun m k => m.keep k fun b hb => none_in
  have hal4 : H4 al = some (.lst ls) := kB.kept _ _ (kA.kept _ _ (s02 _ _ hal) none_in) (not1 fun e => by rw [← e, s02 _ _ hal] at nx; cases nx)
  have htu4 : Tups H4 ls (sentT l) := htu.mono k24.tups
  refine ⟨_, rfl, _, _, _, _, rfl, hp4, T.k_Board, T.n_Board_memory, (by show 0 < 1000; decide), goF hp4 fun H5 hp5 k5 => ?_⟩
  have lv5 := live1 k5 hp5 lv4
  have nalp : al ≠ p := ne_of hal4 hp4 (by intro z; cases z)
  have hal5 := k5.at1 hal4 (by simpa using nalp)
  obtain ⟨ps, els, hps⟩ := tups_pairs (K := K) (htu4.mono k5.tups)
  -- self.line = dict(line)
  refine ⟨_, rfl, al, ps, lineK l, rfl, SqL.of (by rw [← els]; exact hal5), hps, fun d nd => ?_⟩
  rw [merge_nil l lok.up]
  have k6 := Kp.newIn (S := []) (o := .dK (lineK l)) nd
  have h6 : (upd H5 d (.dK (lineK l))) d = some _ := upd_same
  generalize upd H5 d (.dK (lineK l)) = H6 at *
  have hp6 := k6.kept _ _ hp5 none_in
  have fd := dead nd lv5
  have lv6 := live2 h6 (live0 k6 lv5)
  have nd6 : (d :: p :: M.own).Nodup := List.nodup_cons.mpr ⟨fd, nd4⟩
  have ndp : d ≠ p := fun e => fd (by simp [e])
  refine ⟨_, rfl, _, _, _, _, rfl, hp6, T.k_Board, T.n_Board_line, (by show 1 < 1000; decide), goF hp6 fun H7 hp7 k7 => ?_⟩
  have lv7 := live1 k7 hp7 lv6
  have hd7 := k7.at1 h6 (by simpa using ndp)
  have mem7 := mkeep (mkeep0 (mkeep mem k5) k6) k7
  -- self.registers
  refine fun r nr => ?_
  refine ⟨upd_same, RegD 0 0 0 767, rfl, (by show 4 ≤ 15; decide), ?_⟩
  rw [upd_upd, show mergeK [] (RegD 0 0 0 767) = RegD 0 0 0 767 from by kernel_rfl]
  have k8 := Kp.newIn (S := []) (o := .dK (RegD 0 0 0 767)) nr
  have h8 : (upd H7 r (.dK (RegD 0 0 0 767))) r = some _ := upd_same
  generalize upd H7 r (.dK (RegD 0 0 0 767)) = H8 at *
  have hp8 := k8.kept _ _ hp7 none_in
  have fr := dead nr lv7
  have lv8 := live2 h8 (live0 k8 lv7)
  have nd8 : (r :: d :: p :: M.own).Nodup := List.nodup_cons.mpr ⟨fr, nd6⟩
  have nrp : r ≠ p := fun e => fr (by simp [e])
  refine ⟨_, rfl, _, _, _, _, rfl, hp8, T.k_Board, T.n_Board_registers, (by show 2 < 1000; decide), goF hp8 fun H9 hp9 k9 => ?_⟩
  refine ⟨_, rfl, _, _, _, _, rfl, hp9, T.k_Board, T.n_Board_zero, (by show 3 < 1000; decide), goF hp9 fun HA hpA kA2 => ?_⟩
  refine ⟨_, rfl, _, _, _, _, rfl, hpA, T.k_Board, T.n_Board_lets, (by show 4 < 1000; decide), goF hpA fun HB hpB kB2 => ?_⟩
  refine ⟨_, rfl, _, _, _, _, rfl, hpB, T.k_Board, T.n_Board_asleep, (by show 5 < 1000; decide), goF hpB fun HC hpC kC => ?_⟩
  refine ⟨_, rfl, _, _, _, _, rfl, hpC, T.k_Board, T.n_Board_beat, (by show 6 < 1000; decide), goF hpC fun HD hpD kD => ?_⟩
  refine ⟨_, rfl, _, _, _, _, rfl, hpD, T.k_Board, T.n_Board_stopped, (by show 7 < 1000; decide), goF hpD fun HE hpE kE => ?_⟩
  have k8E : Kp [p] [p] H8 HE := k9.trans (kA2.trans (kB2.trans (kC.trans (kD.trans kE))))
  have lvE := live1 k8E hpE lv8
  have hdE := k8E.at1 (k8.kept _ _ hd7 none_in) (by simpa using ndp)
  have hrE := k8E.at1 h8 (by simpa using nrp)
  have memE := mkeep (mkeep0 mem7 k8) k8E
  refine ⟨s0, fun sn nsn => ?_⟩
  have kF := Kp.newIn (S := []) (o := .lst []) nsn
  have hF : (upd HE sn (.lst [])) sn = some _ := upd_same
  generalize upd HE sn (.lst []) = HF at *
  have hpF := kF.kept _ _ hpE none_in
  have fsn := dead nsn lvE
  have lvF := live2 hF (live0 kF lvE)
  have ndF : (sn :: r :: d :: p :: M.own).Nodup := List.nodup_cons.mpr ⟨fsn, nd8⟩
  have nsp : sn ≠ p := fun e => fsn (by simp [e])
  refine ⟨_, rfl, _, _, _, _, rfl, hpF, T.k_Board, T.n_Board_sent, (by show 8 < 1000; decide), goF hpF fun HG hpG kG => ?_⟩
  have lvG := live1 kG hpG lvF
  have hsG := kG.at1 hF (by simpa using nsp)
  refine ⟨s0, fun tc ntc => ?_⟩
  have kI := Kp.newIn (S := []) (o := .lst []) ntc
  have hI : (upd HG tc (.lst [])) tc = some _ := upd_same
  generalize upd HG tc (.lst []) = HI at *
  have hpI := kI.kept _ _ hpG none_in
  have ftc := dead ntc lvG
  have ndI : (tc :: sn :: r :: d :: p :: M.own).Nodup := List.nodup_cons.mpr ⟨ftc, ndF⟩
  have ntp : tc ≠ p := fun e => ftc (by simp [e])
  refine ⟨_, rfl, _, _, _, _, rfl, hpI, T.k_Board, T.n_Board_touched, (by show 9 < 1000; decide), goF hpI fun HJ hpJ kJ => ?_⟩
  refine ⟨_, rfl, _, _, _, _, rfl, hpJ, T.k_Board, T.n_Board_bend, (by show 10 < 1000; decide), goF hpJ fun HK hpK kK => ?_⟩
  have kIK := kJ.trans kK
  have kEK0 : Kp [p] [p] HE HK := (kF.drop.trans kG).trans (kI.drop.trans kIK)
  refine q HK ⟨p, dx, d, r, sn, tc, M, .non, [], []⟩ ⟨hpK, kEK0.at1 hdE (by simpa using ndp), kEK0.at1 hrE (by simpa using nrp), (kI.drop.trans kIK).at1 hsG (by simpa using nsp), kIK.at1 hI (by simpa using ntp), rfl, .nil, .nil, mkeep memE kEK0, ?_, Nat.zero_le _, Nat.zero_le _⟩ rfl ?_
  · show [p, d, r, sn, tc, M.p, M.f, M.r, M.pl].Nodup
    have h : [tc, sn, r, d, p, M.p, M.f, M.r, M.pl].Nodup := ndI
    have n (i j : Nat) {a b : Addr} (ha : [tc, sn, r, d, p, M.p, M.f, M.r, M.pl][i]? = some a) (hb : [tc, sn, r, d, p, M.p, M.f, M.r, M.pl][j]? = some b) (hij : i ≠ j) : ¬ a = b := ndne h i j ha hb hij
    simp only [List.nodup_cons, List.mem_cons, List.not_mem_nil, or_false, not_or]
    refine ⟨⟨n 4 3 rfl rfl ?_, n 4 2 rfl rfl ?_, n 4 1 rfl rfl ?_, n 4 0 rfl rfl ?_, n 4 5 rfl rfl ?_, n 4 6 rfl rfl ?_, n 4 7 rfl rfl ?_, n 4 8 rfl rfl ?_⟩, ⟨n 3 2 rfl rfl ?_, n 3 1 rfl rfl ?_, n 3 0 rfl rfl ?_, n 3 5 rfl rfl ?_, n 3 6 rfl rfl ?_, n 3 7 rfl rfl ?_, n 3 8 rfl rfl ?_⟩, ⟨n 2 1 rfl rfl ?_, n 2 0 rfl rfl ?_, n 2 5 rfl rfl ?_, n 2 6 rfl rfl ?_, n 2 7 rfl rfl ?_, n 2 8 rfl rfl ?_⟩, ⟨n 1 0 rfl rfl ?_, n 1 5 rfl rfl ?_, n 1 6 rfl rfl ?_, n 1 7 rfl rfl ?_, n 1 8 rfl rfl ?_⟩, ⟨n 0 5 rfl rfl ?_, n 0 6 rfl rfl ?_, n 0 7 rfl rfl ?_, n 0 8 rfl rfl ?_⟩, ⟨n 5 6 rfl rfl ?_, n 5 7 rfl rfl ?_, n 5 8 rfl rfl ?_⟩, ⟨n 6 7 rfl rfl ?_, n 6 8 rfl rfl ?_⟩, n 7 8 rfl rfl ?_, ?_⟩
    all_goals first | decide | exact ⟨not_false, List.nodup_nil⟩ | simp
  · have a1 : Kp [p] (d :: (M.own ++ [M.p, p])) H H7 := (k24.trans (k5.inS (by simp))).trans (k6.add.trans (k7.inS (by simp)))
    have a2 : Kp (d :: (M.own ++ [M.p, p])) (r :: d :: (M.own ++ [M.p, p])) H7 HE := k8.add.trans (k8E.inS (by simp))
    have a3 : Kp (r :: d :: (M.own ++ [M.p, p])) (sn :: r :: d :: (M.own ++ [M.p, p])) HE HG := kF.add.trans (kG.inS (by simp))
    have a4 : Kp (sn :: r :: d :: (M.own ++ [M.p, p])) (tc :: sn :: r :: d :: (M.own ++ [M.p, p])) HG HK := kI.add.trans (kIK.inS (by simp))
    exact (a1.trans (a2.trans (a3.trans a4))).sub fun b hb => by
      simp only [BA.own, List.mem_cons, List.not_mem_nil, or_false] at hb
      simp only [MA.own, List.mem_cons, List.mem_append, List.not_mem_nil, or_false]
      rcases hb with h | h | h | h | h | h | h | h | h <;> simp [h]
end

/-! ### own rules: x is a truth -/
section
variable {X : Cx}
theorem op_isB : OpR X (compareOp .Is) (fun x y H Q => ∃ a b : Bool, x = .bl a ∧ y = .bl b ∧ Q (.bl (decide (a = b))) H) := by
  intro pins s σ H x y v u Q I rx ry h
  obtain ⟨a, b, rfl, rfl, q⟩ := h
  cases rx
  cases ry
  refine wpAny_is_plain (by cases a <;> cases b <;> rfl) (fin_bl I q ?_)
  cases a <;> cases b <;> rfl
theorem op_isnotB : OpR X (compareOp .IsNot) (fun x y H Q => ∃ a b : Bool, x = .bl a ∧ y = .bl b ∧ Q (.bl (!decide (a = b))) H) := by
  intro pins s σ H x y v u Q I rx ry h
  obtain ⟨a, b, rfl, rfl, q⟩ := h
  cases rx
  cases ry
  show wpAny _ _ ((isSame (Value.bool a) (Value.bool b)) >>= fun z => pure (Value.bool (!z))) _ _ s
  exact wpAny_bind (wpAny_isSame_plain (by cases a <;> cases b <;> rfl) (wpAny_pure (fin_bl I q (by cases a <;> cases b <;> rfl))))
theorem pe_fldK {K : PySem.W.Frag} {e : Expr} {f : Str} {pos : Pos} {ta : TE} (hK : X.K = K) (he : PE X e ta) (hb : attributeBase e f X.env (eval e X.env) = eval e X.env) : PE X (.Attribute e f pos) (tFld K ta f) := by
  subst hK; exact pe_fld he hb
end
/-! ### own rule: d.update(e), both tracked dicts -/
def rDUpdate : V → List V → Hp → VK → Prop := fun x vs H Q => ∃ (a b : Addr) (kvs more : List (Key × V)), x = .ref a ∧ vs = [.ref b] ∧ a ≠ b ∧ H a = some (.dK kvs) ∧ H b = some (.dK more) ∧ kvs.length + more.length ≤ sizeLine ∧ Q .non (upd H a (.dK (mergeK kvs more)))
theorem mt_update {X : Cx} : MtR X "dict.update" rDUpdate := by
  intro pins s σ H x vs v us Q I rx rv h
  obtain ⟨a, b, kvs, more, rfl, rfl, hne, e, e2, hz, q⟩ := h
  obtain rfl : v = Value.ref a := rx
  obtain ⟨u, rfl, ru⟩ := rv.one
  obtain rfl : u = Value.ref b := ru
  obtain ⟨z, hd, ws, rel, dd⟩ := dk_of I.hok e
  obtain ⟨z2, hd2, ws2, rel2, dd2⟩ := dk_of I.hok e2
  refine call_meetsIn PySem.F.slot_dict_update dd.typeIs PySem.F.entry_dict_update (PySem.F.args_dict_update_2 _ _) (meets_dict_update (mixKind X.prog X.w) a b hne hd2) ⟨ws, ws2, dd, dd2, by rw [← rel.length, ← rel2.length]; exact hz, fun h' dd' _ hs => ?_⟩
  have he : ∃ q, h'.get? a = some q := let ⟨q, _, _, hq, _⟩ := dd'; ⟨q, hq⟩
  exact ⟨.non, _, d_write (t' := s.toks) I (by rw [e]; exact True.intro) hs he (dk_new (Nat.le_trans (length_mergeK more kvs) hz) hd (KV.merge rel2 rel) dd'), rfl, q⟩
theorem ix_listK {X : Cx} {K : PySem.W.Frag} (hK : X.K = K) : IxR X (rIxL K) := by subst hK; exact ix_list
theorem ix_tupK {X : Cx} {K : PySem.W.Frag} (hK : X.K = K) : IxR X (rIxT K) := by subst hK; exact ix_tup

/-! ### a board that no line, no timer, no interrupt comes upon: its turns in plain words -/
def qD (m : MD) (a b pc sp : Int) (z : Bool) (t : Int) (s : List (Int × Int)) (tc : List (Str × Int)) : BD :=
  { m := m, ln := [], a := a, b := b, pc := pc, sp := sp, zero := z, lets := false, asleep := false, beat := t, stop := none, sent := s, tc := tc, bend := 0 }
def Still (m : MD) : Prop := m.pl.length = 6 ∧ m.place 1 = 0
theorem init_q (ns : List Int) : BD.init ns [] = qD ⟨ns ++ List.replicate (512 - ns.length) 65535, List.replicate 256 0, List.replicate 6 0⟩ 0 0 0 767 false 0 [] [] := rfl
theorem MD.setPlace_same {m : MD} {k : Nat} (h : k < m.pl.length) : m.setPlace k (m.place k) = m := by
  unfold MD.setPlace MD.place
  rw [List.getD_eq_getElem?_getD, List.getElem?_eq_getElem h]
  show ({ m with pl := m.pl.set k m.pl[k] } : MD) = m
  rw [List.set_getElem_self]
theorem q_tick {D : BD} (h : D.ln = []) (q : Still D.m) : D.tick = { D with beat := D.beat + 1 } := by
  unfold BD.tick BD.lineComes
  rw [show ({ D with beat := D.beat + 1 } : BD).ln = [] from h]
  rw [show lineGet [] ({ D with beat := D.beat + 1 } : BD).beat (({ D with beat := D.beat + 1 } : BD).m.place 4) = D.m.place 4 from rfl]
  unfold MD.comes
  rw [show (({ D with beat := D.beat + 1 } : BD).m) = D.m from rfl, if_neg (by omega), MD.setPlace_same (by rw [q.1]; decide)]
  unfold BD.timerGoes
  rw [if_neg (by show ¬ 0 < D.m.place 1; rw [q.2]; decide)]
theorem q_pass {D : BD} (h : D.ln = []) (q : Still D.m) : ∀ n : Nat, D.pass n = { D with beat := D.beat + (n : Int) }
  | 0 => by show D = { D with beat := D.beat + 0 }; rw [Int.add_zero]
  | n + 1 => by
    rw [show D.pass (n + 1) = (D.pass n).tick from rfl, q_pass h q n, q_tick (D := { D with beat := D.beat + (n : Int) }) h q]
    show ({ D with beat := D.beat + (n : Int) + 1 } : BD) = _
    rw [show D.beat + (n : Int) + 1 = D.beat + ((n + 1 : Nat) : Int) by omega]
theorem xor0 {n : Int} (h : 0 ≤ n) : Builtin.bitXor n 0 = n := by
  rw [Bits.bitXor_pp h (by decide)]
  show ((n.toNat ^^^ 0 : Nat) : Int) = n
  rw [Nat.xor_zero]; omega
section
variable {m : MD} {a b pc sp : Int} {z : Bool} {t : Int} {s : List (Int × Int)} {tc : List (Str × Int)} {w x : Int} {k : Nat}
theorem q_turn (h0 : 0 ≤ pc) (h1 : pc < 768) (hw : m.at pc = some w) (hk : w = 1024 * (k : Int) + x) (hx : 0 ≤ x ∧ x < 1024) (k23 : k < 23 := by decide) (k0 : k ≠ 0 := by decide)
    (hb : barOf m pc (addrs k x b sp).1 (addrs k x b sp).2 = none) :
    (qD m a b pc sp z t s tc).turn = (("deed" : Str), (qD m a b pc sp z t s []).deedA k x (addrs k x b sp)) := by
  unfold BD.turn BD.turnB
  rw [if_neg (by show ¬ (none : Option (List V)).isSome = true; simp), if_neg (by show ¬ (false = true ∧ _); simp)]
  unfold BD.wake
  rw [if_neg (by show ¬ (false = true ∧ _); simp)]
  show (qD m a b pc sp z t s []).deed = _
  unfold BD.deed
  rw [if_neg (by show ¬ (pc < 0 ∨ 768 ≤ pc); omega)]
  show (qD m a b pc sp z t s []).deedW ((m.at pc).getD 0) = _
  rw [hw, show (some w).getD 0 = w from rfl]
  have ek : (w / 1024).toNat = k := by omega
  have ex : w % 1024 = x := by omega
  unfold BD.deedW
  rw [ek, ex, if_neg (by omega), if_neg k0]
  show (qD m a b pc sp z t s []).deedB k x (addrs k x b sp) = _
  unfold BD.deedB
  rw [show barOf (qD m a b pc sp z t s []).m (qD m a b pc sp z t s []).pc (addrs k x b sp).1 (addrs k x b sp).2 = none from hb]
theorem bar0 : barOf m pc [] [] = none := rfl
theorem barG {v : Int} (h : m.at x = some v) : barOf m pc [x] [] = none := by
  unfold barOf barR; rw [h]; rfl
theorem barPu (h : barTo x = none) : barOf m pc [] [x] = none := by
  unfold barOf barP; rw [h]; rfl
theorem barRam (h0 : 512 ≤ x) (h1 : x < 768) : barTo x = none := by
  unfold barTo; rw [if_neg (by omega), if_neg (by omega), if_neg (by omega)]
theorem still_put (q : Still m) (h1 : x < 768) : Still (m.put x w) := by
  unfold MD.put; rw [if_pos h1]; exact q
/-- lit -/
theorem t_lit (q : Still m) (h0 : 0 ≤ pc) (h1 : pc < 768) (hw : m.at pc = some w) (hk : w = 1024 * 1 + x) (hx : 0 ≤ x ∧ x < 1024) :
    ∃ tc', (qD m a b pc sp z t s tc).turn = (("deed" : Str), qD m x b (pc + 1) sp (decide (x = 0)) (t + 1) s tc') := by
  refine ⟨[], ?_⟩
  rw [q_turn (k := 1) h0 h1 hw hk hx (hb := rfl)]
  show (("deed" : Str), (qD m x b (pc + 1) sp (decide (x = 0)) t s []).pass 1) = _
  rw [q_pass rfl q]; rfl
/-- get -/
theorem t_get (q : Still m) (h0 : 0 ≤ pc) (h1 : pc < 768) (hw : m.at pc = some w) (hk : w = 1024 * 2 + x) (hx : 0 ≤ x ∧ x < 1024) {v : Int} (hv : m.at x = some v) (v0 : 0 ≤ v) :
    ∃ tc', (qD m a b pc sp z t s tc).turn = (("deed" : Str), qD m v b (pc + 1) sp (decide (v = 0)) (t + 2) s tc') := by
  refine ⟨[(("r" : Str), x)], ?_⟩
  rw [q_turn (k := 2) h0 h1 hw hk hx (hb := barG hv)]
  show (("deed" : Str), (qD m (Builtin.bitXor ((m.at x).getD 0) 0) b (pc + 1) sp (decide (Builtin.bitXor ((m.at x).getD 0) 0 = 0)) t s [(("r" : Str), x)]).pass 2) = _
  rw [hv, show (some v).getD 0 = v from rfl, xor0 v0, q_pass rfl q]; rfl
/-- tob -/
theorem t_tob (q : Still m) (h0 : 0 ≤ pc) (h1 : pc < 768) (hw : m.at pc = some w) (hk : w = 1024 * 10 + x) (hx : 0 ≤ x ∧ x < 1024) :
    ∃ tc', (qD m a b pc sp z t s tc).turn = (("deed" : Str), qD m a a (pc + 1) sp z (t + 1) s tc') := by
  refine ⟨[], ?_⟩
  rw [q_turn (k := 10) h0 h1 hw hk hx (hb := rfl)]
  show (("deed" : Str), (qD m a a (pc + 1) sp z t s []).pass 1) = _
  rw [q_pass rfl q]; rfl
theorem sent_ram (h : x < 768) : (if x = 773 then s ++ [(t, a)] else s) = s := if_neg (by omega)
/-- put in ram -/
theorem t_put (q : Still m) (h0 : 0 ≤ pc) (h1 : pc < 768) (hw : m.at pc = some w) (hk : w = 1024 * 3 + x) (hx : 512 ≤ x ∧ x < 768) :
    ∃ tc', (qD m a b pc sp z t s tc).turn = (("deed" : Str), qD (m.put x a) a b (pc + 1) sp z (t + 2) s tc') := by
  refine ⟨[(("w" : Str), x)], ?_⟩
  rw [q_turn (k := 3) h0 h1 hw hk (by omega) (hb := barPu (barRam hx.1 hx.2))]
  show (("deed" : Str), (qD (m.put x a) a b (pc + 1) sp z t (if x = 773 then s ++ [(t, a)] else s) [(("w" : Str), x)]).pass 2) = _
  rw [sent_ram hx.2, q_pass rfl (still_put q hx.2)]; rfl
/-- putb in ram -/
theorem t_putb (q : Still m) (h0 : 0 ≤ pc) (h1 : pc < 768) (hw : m.at pc = some w) (hk : w = 1024 * 9 + x) (hx0 : 0 ≤ x ∧ x < 1024) (hx : 512 ≤ x + b ∧ x + b < 768) :
    ∃ tc', (qD m a b pc sp z t s tc).turn = (("deed" : Str), qD (m.put (x + b) a) a b (pc + 1) sp z (t + 2) s tc') := by
  refine ⟨[(("w" : Str), x + b)], ?_⟩
  rw [q_turn (k := 9) h0 h1 hw hk hx0 (hb := barPu (barRam hx.1 hx.2))]
  show (("deed" : Str), (qD (m.put (x + b) a) a b (pc + 1) sp z t (if x + b = 773 then s ++ [(t, a)] else s) [(("w" : Str), x + b)]).pass 2) = _
  rw [sent_ram hx.2, q_pass rfl (still_put q hx.2)]; rfl
/-- push in ram -/
theorem t_push (q : Still m) (h0 : 0 ≤ pc) (h1 : pc < 768) (hw : m.at pc = some w) (hk : w = 1024 * 17 + x) (hx0 : 0 ≤ x ∧ x < 1024) (hx : 512 ≤ sp ∧ sp < 768) :
    ∃ tc', (qD m a b pc sp z t s tc).turn = (("deed" : Str), qD (m.put sp a) a b (pc + 1) (sp - 1) z (t + 2) s tc') := by
  refine ⟨[(("w" : Str), sp)], ?_⟩
  rw [q_turn (k := 17) h0 h1 hw hk hx0 (hb := barPu (barRam hx.1 hx.2))]
  show (("deed" : Str), (qD (m.put sp a) a b (pc + 1) (sp - 1) z t (if sp = 773 then s ++ [(t, a)] else s) [(("w" : Str), sp)]).pass 2) = _
  rw [sent_ram hx.2, q_pass rfl (still_put q hx.2)]; rfl
/-- go, ifz, ifn -/
abbrev leads (k : Nat) (a : Int) (z : Bool) : Prop := k = 12 ∨ (k = 13 ∧ z = true) ∨ (k = 14 ∧ 32768 ≤ a)
theorem t_lead (q : Still m) (h0 : 0 ≤ pc) (h1 : pc < 768) (hw : m.at pc = some w) (hk : w = 1024 * (k : Int) + x) (hx : 0 ≤ x ∧ x < 1024) (h3 : k = 12 ∨ k = 13 ∨ k = 14) :
    ∃ tc', (qD m a b pc sp z t s tc).turn = (("deed" : Str), qD m a b (if leads k a z then x else pc + 1) sp z (t + 1) s tc') := by
  refine ⟨[], ?_⟩
  have ea : addrs k x b sp = ([], []) := by rcases h3 with rfl | rfl | rfl <;> rfl
  rw [q_turn (k := k) h0 h1 hw hk hx (by omega) (by omega) (hb := by rw [ea]; rfl), ea]
  show (("deed" : Str), ((qD m a b (pc + 1) sp z t s []).doing k x [] []).pass 1) = _
  rw [show (qD m a b (pc + 1) sp z t s []).doing k x [] [] = qD m a b (if leads k a z then x else pc + 1) sp z t s [] by
    unfold BD.doing leads
    show (if k = 12 ∨ k = 13 ∨ k = 14 then _ else _) = _
    rw [if_pos h3]
    by_cases h : k = 12 ∨ (k = 13 ∧ z = true) ∨ (k = 14 ∧ 32768 ≤ a)
    · refine (if_pos h).trans ?_
      show qD m a b x sp z t s [] = _
      exact congrArg (fun u => qD m a b u sp z t s []) (if_pos h).symm
    · refine (if_neg h).trans ?_
      exact congrArg (fun u => qD m a b u sp z t s []) (if_neg h).symm]
  rw [q_pass rfl q]; rfl
theorem at_ram_put {m : MD} (hl : m.ra.length = 256) {i j w : Int} (h0 : 512 ≤ i) (h1 : i < 768) : (m.put i w).at j = if j = i then some w else m.at j := by
  unfold MD.put
  rw [if_pos h1]
  unfold MD.at
  by_cases e : j = i
  · subst e
    rw [if_pos rfl, if_neg (by omega), if_neg (by omega), if_pos h1]
    show (m.ra.set (j - 512).toNat w)[(j - 512).toNat]? = some w
    rw [List.getElem?_set_self (by omega)]
  · rw [if_neg e]
    by_cases r : j < 0 ∨ 773 < j
    · rw [if_pos r, if_pos r]
    · rw [if_neg r, if_neg r]
      by_cases r2 : j < 512
      · rw [if_pos r2, if_pos r2]
      · rw [if_neg r2, if_neg r2]
        by_cases r3 : j < 768
        · rw [if_pos r3, if_pos r3]
          show (m.ra.set (i - 512).toNat w)[(j - 512).toNat]? = _
          rw [List.getElem?_set_ne (by omega)]
        · rw [if_neg r3, if_neg r3]
theorem ra_put {m : MD} {i w : Int} (h1 : i < 768) : (m.put i w).ra.length = m.ra.length := by
  unfold MD.put
  rw [if_pos h1]
  show (m.ra.set _ w).length = _
  rw [List.length_set]
theorem at_flash {fl ra pl : List Int} {i : Int} (h0 : 0 ≤ i) (h1 : i < 512) : (⟨fl, ra, pl⟩ : MD).at i = fl[i.toNat]? := by
  unfold MD.at
  rw [if_neg (by omega), if_pos h1]
end

/-! ### own rule: list + list, either may be read alone -/
def rCatL (K : PySem.W.Frag) : R2 := fun x y H Q => ∃ l b xs zs, x = .ref l ∧ y = .ref b ∧ SqL K H l xs ∧ SqL K H b zs ∧ xs.length + zs.length ≤ sizeLine ∧ ∀ p, H p = none → Q (.ref p) (upd H p (.lst (xs ++ zs)))
theorem op_catL {X : Cx} : OpR X (binaryOp .Add) (rCatL X.K) := by
  intro pins s σ H x y v u Q I rx ry h
  obtain ⟨l, b, xs, zs, rfl, rfl, hH, hB, hz, q⟩ := h
  cases rx
  cases ry
  obtain ⟨its, r, pl, _⟩ := I.list hH
  obtain ⟨its2, r2, pl2, _⟩ := I.list hB
  obtain ⟨⟨cls, dd, data, sl⟩, ho, hc, n, hd⟩ := id pl.isList
  obtain ⟨⟨cls2, dd2, data2, sl2⟩, ho2, hc2, n2, hd2⟩ := id pl2.isList
  simp only at hc hd hc2 hd2
  subst hc hd hc2 hd2
  have e : its.toArray ++ its2.toArray = (its ++ its2).toArray := by simp
  have hsz : its.length + its2.length ≤ sizeLine := by rw [← r.length, ← r2.length]; exact hz
  refine concat_meets ⟨_, ho, rfl⟩ ⟨_, ho2, rfl⟩ noFill_list_add seq_list_add PySem.F.slot_list_add PySem.F.entry_list_add (PySem.F.args_list_add_2 _ _) (list_addW l b its.toArray its2.toArray n n2 dd dd2 sl sl2 (by simpa using hsz)) ⟨ho, ho2, ?_⟩
  rw [e]
  exact ⟨.ref _, _, I.lnew (t' := s.toks) (r.append r2) (by rw [List.length_append]; omega), rfl, q _ I.fresh⟩
theorem call_isi' {X : Cx} {K : PySem.W.Frag} (hK : X.K = K) : CallR X (.builtin "isinstance") (rIsi K) := by subst hK; exact call_isi
theorem call_list_of' {X : Cx} {K : PySem.W.Frag} (hK : X.K = K) : CallR X (.type "list") (fun xs H Q => ∃ p ys, xs = [.ref p] ∧ (SqL K H p ys ∨ SqT K H p ys) ∧ ∀ l, H l = none → Q (.ref l) (upd H l (.lst ys))) := by subst hK; exact call_list_of

/-! ### assertions on a heap, each with what it owns -/
theorem not_in_nil {a : Addr} : a ∉ ([] : List Addr) := by intro h; cases h
theorem Kp.frame {S S' T T' : List Addr} {H H' : Hp} (k : Kp S S' H H') (h1 : ∀ b, b ∈ S → b ∈ T) (h2 : ∀ b, b ∈ T' → b ∈ S' ∨ b ∈ T) : Kp T T' H H' :=
  ⟨fun b o e n => k.kept b o e fun m => n (h1 b m), fun b m => (h2 b m).elim (fun z => (k.own b z).imp (h1 b) id) .inl, k.tups⟩
abbrev TupK (H H' : Hp) : Prop := ∀ b xs, H b = some (.tup xs) → H' b = some (.tup xs)
structure As where
  own : List Addr
  ok : Hp → Prop
  st : ∀ {H H' : Hp}, ok H → (∀ b, b ∈ own → ∀ o, H b = some o → H' b = some o) → TupK H H' → ok H'
  al : ∀ {H : Hp}, ok H → ∀ b, b ∈ own → ∃ o, H b = some o
  nd : ∀ {H : Hp}, ok H → own.Nodup
def oks (H : Hp) : List As → Prop
  | [] => True
  | A :: r => A.ok H ∧ oks H r
def owns : List As → List Addr
  | [] => []
  | A :: r => A.own ++ owns r
theorem oks_app {H : Hp} : ∀ {L M : List As}, oks H (L ++ M) ↔ oks H L ∧ oks H M
  | [], _ => ⟨fun h => ⟨trivial, h⟩, fun h => h.2⟩
  | A :: r, M => by
    show A.ok H ∧ oks H (r ++ M) ↔ (A.ok H ∧ oks H r) ∧ oks H M
    rw [oks_app (L := r)]; exact and_assoc.symm
theorem owns_app : ∀ {L M : List As}, owns (L ++ M) = owns L ++ owns M
  | [], _ => rfl
  | A :: r, M => by
    show A.own ++ owns (r ++ M) = (A.own ++ owns r) ++ owns M
    rw [owns_app (L := r), List.append_assoc]
theorem oks_st {H H' : Hp} (t : TupK H H') : ∀ {L : List As}, oks H L → (∀ b, b ∈ owns L → ∀ o, H b = some o → H' b = some o) → oks H' L
  | [], _, _ => trivial
  | A :: _, h, k => ⟨A.st h.1 (fun b m => k b (List.mem_append_left _ m)) t, oks_st t h.2 fun b m => k b (List.mem_append_right _ m)⟩
theorem oks_al {H : Hp} : ∀ {L : List As}, oks H L → ∀ b, b ∈ owns L → ∃ o, H b = some o
  | [], _, _, m => by cases m
  | A :: _, h, b, m => (List.mem_append.mp m).elim (A.al h.1 b) (oks_al h.2 b)
/-- many in one -/
def aG (L : List As) : As where
  own := owns L
  ok := fun H => oks H L ∧ (owns L).Nodup
  st := fun h k t => ⟨oks_st t h.1 k, h.2⟩
  al := fun h => oks_al h.1
  nd := fun h => h.2
structure Sep (S0 : List Addr) (H0 H : Hp) (L : List As) : Prop where
  ok : oks H L
  nd : (owns L).Nodup
  kp : Kp S0 (owns L) H0 H
def nth : List As → Nat → Option As
  | [], _ => none
  | A :: _, 0 => some A
  | _ :: r, n + 1 => nth r n
def setN : List As → Nat → List As → List As
  | [], _, _ => []
  | _ :: r, 0, M => M ++ r
  | A :: r, n + 1, M => A :: setN r n M
theorem nth_split : ∀ {L : List As} {i : Nat} {A : As}, nth L i = some A → ∃ L1 L2, L = L1 ++ A :: L2 ∧ ∀ M, setN L i M = L1 ++ (M ++ L2)
  | [], _, _, e => by cases e
  | B :: r, 0, A, e => by
    have e : B = A := Option.some.inj e
    exact ⟨[], r, by rw [e]; rfl, fun M => rfl⟩
  | B :: r, n + 1, A, e => by
    obtain ⟨L1, L2, h1, h2⟩ := nth_split (L := r) (i := n) e
    exact ⟨B :: L1, L2, by rw [h1]; rfl, fun M => by show B :: setN r n M = _; rw [h2]; rfl⟩
theorem nd_app {a b : List Addr} : (a ++ b).Nodup ↔ a.Nodup ∧ b.Nodup ∧ ∀ x, x ∈ a → x ∈ b → False := by
  rw [List.nodup_append]
  exact ⟨fun h => ⟨h.1, h.2.1, fun x h1 h2 => h.2.2 x h1 x h2 rfl⟩, fun h => ⟨h.1, h.2.1, fun x h1 y h2 e => h.2.2 x h1 (e ▸ h2)⟩⟩
namespace Sep
variable {S0 : List Addr} {H0 H H' : Hp} {L : List As}
theorem get (h : Sep S0 H0 H L) (i : Nat) {A : As} (e : nth L i = some A) : A.ok H := by
  obtain ⟨L1, L2, rfl, _⟩ := nth_split e
  exact (oks_app.mp h.ok).2.1
theorem start {L : List As} (o : oks H L) (n : (owns L).Nodup) : Sep (owns L) H H L := ⟨o, n, Kp.refl _ _⟩
/-- the place i exchanged for M, by what changes what it owns alone -/
theorem swap (h : Sep S0 H0 H L) (i : Nat) {A : As} (e : nth L i = some A) {M : List As} (k : Kp A.own (owns M) H H') (o : oks H' M) (n : (owns M).Nodup) : Sep S0 H0 H' (setN L i M) := by
  obtain ⟨L1, L2, rfl, e2⟩ := nth_split e
  rw [e2]
  obtain ⟨o1, o2⟩ := oks_app.mp h.ok
  have hn := h.nd
  have hk := h.kp
  rw [owns_app] at hn hk
  obtain ⟨n1, n2, d1⟩ := nd_app.mp hn
  obtain ⟨nA, n3, d2⟩ := nd_app.mp (show (A.own ++ owns L2).Nodup from n2)
  have dA1 : ∀ b, b ∈ owns L1 → b ∉ A.own := fun b m z => d1 b m (List.mem_append_left _ z)
  have dA2 : ∀ b, b ∈ owns L2 → b ∉ A.own := fun b m z => d2 b z m
  have al1 := oks_al o1
  have al2 := oks_al (show oks H L2 from o2.2)
  have fr : ∀ {X : List As}, (∀ b, b ∈ owns X → b ∉ A.own) → (∀ b, b ∈ owns X → ∃ o, H b = some o) → ∀ b, b ∈ owns M → b ∈ owns X → False := fun hx ax b m mx => by
    rcases k.own b m with z | z
    · exact hx b mx z
    · obtain ⟨u, eu⟩ := ax b mx
      rw [z] at eu; cases eu
  refine ⟨oks_app.mpr ⟨oks_st k.tups o1 fun b m u hu => k.kept b u hu (dA1 b m), oks_app.mpr ⟨o, oks_st k.tups o2.2 fun b m u hu => k.kept b u hu (dA2 b m)⟩⟩, ?_, ?_⟩
  · rw [owns_app, owns_app]
    refine nd_app.mpr ⟨n1, nd_app.mpr ⟨n, n3, fr dA2 al2⟩, fun b m1 m2 => ?_⟩
    rcases List.mem_append.mp m2 with z | z
    · exact fr dA1 al1 b z m1
    · exact d1 b m1 (List.mem_append_right _ z)
  · refine hk.trans (k.frame (fun b m => List.mem_append_right _ (List.mem_append_left _ m)) fun b m => ?_)
    rw [owns_app, owns_app] at m
    rcases List.mem_append.mp m with z | z
    · exact .inr (List.mem_append_left _ z)
    · rcases List.mem_append.mp z with z | z
      · exact .inl z
      · exact .inr (List.mem_append_right _ (List.mem_append_right _ z))
theorem put (h : Sep S0 H0 H L) (i : Nat) {A : As} (e : nth L i = some A) (B : As) (k : Kp A.own B.own H H') (o : B.ok H') : Sep S0 H0 H' (setN L i [B]) :=
  h.swap i e (M := [B]) (k.sub fun b m => by rw [show owns [B] = B.own ++ [] from rfl, List.append_nil] at m; exact m) ⟨o, trivial⟩ (by rw [show owns [B] = B.own ++ [] from rfl, List.append_nil]; exact B.nd o)
/-- nothing owned is changed -/
theorem heap (h : Sep S0 H0 H L) (k : Kp [] [] H H') : Sep S0 H0 H' L :=
  ⟨oks_st k.tups h.ok fun b _ o e => k.kept b o e not_in_nil, h.nd, h.kp.trans (k.frame (fun _ m => by cases m) fun _ m => .inr m)⟩
theorem addM (h : Sep S0 H0 H L) {M : List As} (k : Kp [] (owns M) H H') (o : oks H' M) (n : (owns M).Nodup) : Sep S0 H0 H' (M ++ L) := by
  have fr : ∀ b, b ∈ owns M → b ∈ owns L → False := fun b m mx => by
    rcases k.own b m with z | z
    · cases z
    · obtain ⟨u, eu⟩ := oks_al h.ok b mx
      rw [z] at eu; cases eu
  refine ⟨oks_app.mpr ⟨o, oks_st k.tups h.ok fun b _ o e => k.kept b o e not_in_nil⟩, by rw [owns_app]; exact nd_app.mpr ⟨n, h.nd, fr⟩, ?_⟩
  rw [owns_app]
  exact h.kp.trans (k.frame (fun _ m => by cases m) fun _ m => List.mem_append.mp m)
/-- an object more -/
theorem new (h : Sep S0 H0 H L) {p : Addr} {o : HO} (np : H p = none) (B : As) (eo : B.own = [p]) (ok : B.ok (upd H p o)) : Sep S0 H0 (upd H p o) (B :: L) := by
  have e : owns [B] = [p] := by rw [show owns [B] = B.own ++ [] from rfl, List.append_nil, eo]
  exact h.addM (M := [B]) (by rw [e]; exact Kp.newIn np) ⟨ok, trivial⟩ (by rw [e]; simp)
/-- what owns nothing, more -/
theorem add0 (h : Sep S0 H0 H L) (B : As) (eo : B.own = []) (ok : B.ok H) : Sep S0 H0 H (B :: L) := by
  have e : owns [B] = [] := by rw [show owns [B] = B.own ++ [] from rfl, List.append_nil, eo]
  exact h.addM (M := [B]) (by rw [e]; exact Kp.refl _ _) ⟨ok, trivial⟩ (by rw [e]; exact List.nodup_nil)
theorem newT (h : Sep S0 H0 H L) {p : Addr} {o : HO} (np : H p = none) : Sep S0 H0 (upd H p o) L := h.heap (Kp.new np)
theorem rm (h : Sep S0 H0 H L) (i : Nat) {A : As} (e : nth L i = some A) : Sep S0 H0 H (setN L i []) := by
  refine h.swap i e (M := []) ⟨fun b o e _ => e, fun b m => (by cases m), fun _ _ e => e⟩ trivial List.nodup_nil
theorem opn (h : Sep S0 H0 H L) (i : Nat) {M : List As} (e : nth L i = some (aG M)) : Sep S0 H0 H (setN L i M) := by
  obtain ⟨o, n⟩ := h.get i e
  exact h.swap i e (Kp.refl _ _) o n
/-- a place's part ahead, for a call -/
theorem perm {M : List As} (h : Sep S0 H0 H L) (o : oks H M) (n : (owns M).Nodup) (s : ∀ b, b ∈ owns M → b ∈ owns L) : Sep S0 H0 H M := ⟨o, n, h.kp.sub s⟩
theorem mv (h : Sep S0 H0 H L) (i : Nat) {A : As} (e : nth L i = some A) : Sep S0 H0 H (A :: setN L i []) := by
  obtain ⟨L1, L2, rfl, e2⟩ := nth_split e
  rw [e2]
  obtain ⟨o1, o2⟩ := oks_app.mp h.ok
  have hn := h.nd
  rw [owns_app] at hn
  obtain ⟨n1, n2, d1⟩ := nd_app.mp hn
  obtain ⟨nA, n3, d2⟩ := nd_app.mp (show (A.own ++ owns L2).Nodup from n2)
  refine h.perm ⟨o2.1, oks_app.mpr ⟨o1, o2.2⟩⟩ ?_ fun b m => ?_
  · show (A.own ++ owns (L1 ++ ([] ++ L2))).Nodup
    rw [owns_app]
    refine nd_app.mpr ⟨nA, nd_app.mpr ⟨n1, n3, fun b m z => d1 b m (List.mem_append_right _ z)⟩, fun b m z => ?_⟩
    rcases List.mem_append.mp z with z | z
    · exact d1 b z (List.mem_append_left _ m)
    · exact d2 b m z
  · have m : b ∈ A.own ++ owns (L1 ++ ([] ++ L2)) := m
    rw [owns_app] at m ⊢
    rcases List.mem_append.mp m with z | z
    · exact List.mem_append_right _ (List.mem_append_left _ z)
    · rcases List.mem_append.mp z with z | z
      · exact List.mem_append_left _ z
      · exact List.mem_append_right _ (List.mem_append_right _ z)
theorem front {M : List As} (h : Sep S0 H0 H (M ++ L)) : oks H M ∧ (owns M).Nodup := by
  have hn := h.nd
  rw [owns_app] at hn
  exact ⟨(oks_app.mp h.ok).1, (nd_app.mp hn).1⟩
theorem cls {M : List As} (h : Sep S0 H0 H (M ++ L)) : Sep S0 H0 H (aG M :: L) := by
  have hn := h.nd
  rw [owns_app] at hn
  obtain ⟨o1, o2⟩ := oks_app.mp h.ok
  refine h.perm ⟨⟨o1, (nd_app.mp hn).1⟩, o2⟩ (show (owns M ++ owns L).Nodup from hn) fun b m => by rw [owns_app]; exact m
/-- a call of what stands in front -/
theorem sub {M : List As} (h : Sep S0 H0 H (M ++ L)) : Sep (owns M) H H M := ⟨h.front.1, h.front.2, Kp.refl _ _⟩
theorem call {M M' : List As} (h : Sep S0 H0 H (M ++ L)) (c : Sep (owns M) H H' M') : Sep S0 H0 H' (M' ++ L) := by
  have e1 : nth (aG M :: L) 0 = some (aG M) := rfl
  exact h.cls.swap 0 e1 (M := M') c.kp c.ok c.nd
theorem fin (h : Sep S0 H0 H L) (c : Sep (owns L) H H' L) : True := trivial
end Sep
/-! ### values that do not change -/
class Imm (α : Type) where
  at_ : Hp → V → α → Prop
  mono : ∀ {H H' : Hp} {v : V} {x : α}, TupK H H' → at_ H v x → at_ H' v x
instance : Imm Int := ⟨fun _ v x => v = .int x, fun _ h => h⟩
instance : Imm Bool := ⟨fun _ v x => v = .bl x, fun _ h => h⟩
instance : Imm Str := ⟨fun _ v x => v = .str x, fun _ h => h⟩
instance : Imm Unit := ⟨fun _ v _ => v = .non, fun _ h => h⟩
instance {α : Type} [Imm α] : Imm (Option α) := ⟨fun H v x => match x with
  | none => v = .non
  | some y => Imm.at_ H v y, fun {H H' v x} t h => by
    cases x with
    | none => exact h
    | some y => exact Imm.mono t h⟩
instance {α β : Type} [Imm α] [Imm β] : Imm (α × β) := ⟨fun H v x => ∃ p u w, v = .ref p ∧ H p = some (.tup [u, w]) ∧ Imm.at_ H u x.1 ∧ Imm.at_ H w x.2, fun t h => by
  obtain ⟨p, u, w, e, h, h1, h2⟩ := h
  exact ⟨p, u, w, e, t _ _ h, Imm.mono t h1, Imm.mono t h2⟩⟩
structure T3 (α β γ : Type) where
  a : α
  b : β
  c : γ
  deriving DecidableEq
instance {α β γ : Type} [Imm α] [Imm β] [Imm γ] : Imm (T3 α β γ) := ⟨fun H v x => ∃ p u w z, v = .ref p ∧ H p = some (.tup [u, w, z]) ∧ Imm.at_ H u x.a ∧ Imm.at_ H w x.b ∧ Imm.at_ H z x.c, fun t h => by
  obtain ⟨p, u, w, z, e, h, h1, h2, h3⟩ := h
  exact ⟨p, u, w, z, e, t _ _ h, Imm.mono t h1, Imm.mono t h2, Imm.mono t h3⟩⟩
class Sc (α : Type) extends Imm α where
  v : α → V
  eq : ∀ {H : Hp} {u : V} {x : α}, Imm.at_ H u x ↔ u = v x
instance : Sc Int := ⟨V.int, Iff.rfl⟩
instance : Sc Bool := ⟨V.bl, Iff.rfl⟩
instance : Sc Str := ⟨V.str, Iff.rfl⟩
def Imms {α : Type} [Imm α] (H : Hp) (vs : List V) (xs : List α) : Prop := Paired (fun v x => Imm.at_ H v x) vs xs
section
variable {α : Type} [Imm α] {H H' : Hp}
theorem Imms.mono (t : TupK H H') : ∀ {vs : List V} {xs : List α}, Imms H vs xs → Imms H' vs xs
  | _, _, .nil => .nil
  | _, _, .cons h r => .cons (Imm.mono t h) (Imms.mono t r)
theorem Imms.length {vs : List V} {xs : List α} (h : Imms H vs xs) : vs.length = xs.length := Paired.length h
theorem Imms.snoc {vs : List V} {xs : List α} (h : Imms H vs xs) {v : V} {x : α} (hv : Imm.at_ H v x) : Imms H (vs ++ [v]) (xs ++ [x]) := paired_snoc hv h
theorem Imms.app : ∀ {vs ws : List V} {xs ys : List α}, Imms H vs xs → Imms H ws ys → Imms H (vs ++ ws) (xs ++ ys)
  | _, _, _, _, .nil, h => h
  | _, _, _, _, .cons h r, h2 => .cons h (Imms.app r h2)
theorem Imms.nth : ∀ {vs : List V} {xs : List α} {i : Nat} {x : α}, Imms H vs xs → xs[i]? = some x → ∃ v, vs[i]? = some v ∧ Imm.at_ H v x
  | _, _, _, _, .nil, e => by simp at e
  | _, _, 0, _, .cons h _, e => by simp at e; subst e; exact ⟨_, rfl, h⟩
  | _, _, i + 1, _, .cons _ r, e => by
    obtain ⟨v, h1, h2⟩ := Imms.nth (i := i) r (by simpa using e)
    exact ⟨v, by simpa using h1, h2⟩
theorem Imms.ix {vs : List V} {xs : List α} {i : Int} {x : α} (h : Imms H vs xs) (e : atI xs i = some x) : ∃ v, atI vs i = some v ∧ Imm.at_ H v x := by
  unfold atI at e ⊢
  rw [h.length]
  cases hj : ixN xs.length i with
  | none => rw [hj] at e; cases e
  | some j =>
    rw [hj] at e
    obtain ⟨v, h1, h2⟩ := h.nth (i := j) (x := x) e
    exact ⟨v, h1, h2⟩
theorem Imms.take : ∀ {vs : List V} {xs : List α} (n : Nat), Imms H vs xs → Imms H (vs.take n) (xs.take n)
  | _, _, 0, _ => .nil
  | _, _, _ + 1, .nil => .nil
  | _, _, n + 1, .cons h r => .cons h (Imms.take n r)
theorem Imms.drop : ∀ {vs : List V} {xs : List α} (n : Nat), Imms H vs xs → Imms H (vs.drop n) (xs.drop n)
  | _, _, 0, h => h
  | _, _, _ + 1, .nil => .nil
  | _, _, n + 1, .cons _ r => Imms.drop n r
theorem Imms.set : ∀ {vs : List V} {xs : List α} (n : Nat) {v : V} {x : α}, Imms H vs xs → Imm.at_ H v x → Imms H (vs.set n v) (xs.set n x)
  | _, _, _, _, _, .nil, _ => .nil
  | _, _, 0, _, _, .cons _ r, h => .cons h r
  | _, _, n + 1, _, _, .cons h r, h2 => .cons h (Imms.set n r h2)
end
theorem Imms.sc {α : Type} [Sc α] {H : Hp} : ∀ {vs : List V} {xs : List α}, Imms H vs xs → vs = xs.map Sc.v
  | _, _, .nil => rfl
  | _, _, .cons h r => by rw [Imms.sc r, Sc.eq.mp h]; rfl
theorem Imms.ofSc {α : Type} [Sc α] {H : Hp} : ∀ (xs : List α), Imms H (xs.map Sc.v) xs
  | [] => .nil
  | _ :: r => .cons (Sc.eq.mpr rfl) (Imms.ofSc r)
/-! ### atoms -/
theorem one_nd {a : Addr} : [a].Nodup := by simp
/-- a value -/
def aV {α : Type} [Imm α] (v : V) (x : α) : As where
  own := []
  ok := fun H => Imm.at_ H v x
  st := fun h _ t => Imm.mono t h
  al := fun _ b m => by cases m
  nd := fun _ => List.nodup_nil
/-- a list -/
def aL {α : Type} [Imm α] (p : Addr) (xs : List α) : As where
  own := [p]
  ok := fun H => ∃ vs, H p = some (.lst vs) ∧ Imms H vs xs
  st := fun ⟨vs, e, h⟩ k t => ⟨vs, k p (by simp) _ e, h.mono t⟩
  al := fun ⟨vs, e, _⟩ b m => by
    have z := List.mem_singleton.mp m
    subst z; exact ⟨_, e⟩
  nd := fun _ => one_nd
/-- an object by what stands there -/
def aC (p : Addr) (o : HO) : As where
  own := [p]
  ok := fun H => H p = some o
  st := fun e k _ => k p (by simp) _ e
  al := fun e b m => by
    have z := List.mem_singleton.mp m
    subst z; exact ⟨_, e⟩
  nd := fun _ => one_nd
/-- a board -/
def aB (K : PySem.W.Frag) (A : BA) (D : BD) : As where
  own := A.own
  ok := fun H => BoardAt K H A D
  st := fun B k t => B.frame k t
  al := fun B b m => by
    obtain ⟨o, e, _⟩ := B.live m
    exact ⟨o, e⟩
  nd := fun B => B.nd

/-! ### more atoms, and what stands ahead of a call -/
def aT (p : Addr) (vs : List V) : As where
  own := []
  ok := fun H => H p = some (.tup vs)
  st := fun h _ t => t _ _ h
  al := fun _ b m => by cases m
  nd := fun _ => List.nodup_nil
/-- a list whose values are told -/
def aW {α : Type} [Imm α] (p : Addr) (vs : List V) (xs : List α) : As where
  own := [p]
  ok := fun H => H p = some (.lst vs) ∧ Imms H vs xs
  st := fun ⟨e, h⟩ k t => ⟨k p (by simp) _ e, h.mono t⟩
  al := fun ⟨e, _⟩ b m => by
    have z := List.mem_singleton.mp m
    subst z; exact ⟨_, e⟩
  nd := fun _ => one_nd
def takeN : Nat → List As → List As
  | 0, _ => []
  | _, [] => []
  | n + 1, A :: r => A :: takeN n r
def dropN : Nat → List As → List As
  | 0, L => L
  | _, [] => []
  | n + 1, _ :: r => dropN n r
theorem take_drop : ∀ (n : Nat) (L : List As), takeN n L ++ dropN n L = L
  | 0, _ => rfl
  | _ + 1, [] => rfl
  | n + 1, A :: r => congrArg (A :: ·) (take_drop n r)
namespace Sep
variable {S0 : List Addr} {H0 H H' : Hp} {L : List As}
theorem frontN (h : Sep S0 H0 H L) (n : Nat) : oks H (takeN n L) ∧ (owns (takeN n L)).Nodup := by
  rw [← take_drop n L] at h
  exact h.front
theorem callN (h : Sep S0 H0 H L) (n : Nat) {M' : List As} (c : Sep (owns (takeN n L)) H H' M') : Sep S0 H0 H' (M' ++ dropN n L) := by
  rw [← take_drop n L] at h
  exact h.call c
theorem tl (h : Sep S0 H0 H L) (n : Nat) : Sep S0 H0 H (dropN n L) := by
  rw [← take_drop n L] at h
  have hn := h.nd
  rw [owns_app] at hn
  exact h.perm (oks_app.mp h.ok).2 (nd_app.mp hn).2.1 fun b m => by rw [owns_app]; exact List.mem_append_right _ m
theorem clsN (h : Sep S0 H0 H L) (n : Nat) : Sep S0 H0 H (aG (takeN n L) :: dropN n L) := by
  rw [← take_drop n L] at h
  exact h.cls
theorem lst (h : Sep S0 H0 H L) (i : Nat) {α : Type} [Imm α] {p : Addr} {xs : List α} (e : nth L i = some (aL p xs)) : ∃ vs, H p = some (.lst vs) ∧ Imms H vs xs := h.get i e
theorem bd (h : Sep S0 H0 H L) (i : Nat) {K : PySem.W.Frag} {A : BA} {D : BD} (e : nth L i = some (aB K A D)) : BoardAt K H A D := h.get i e
theorem tup (h : Sep S0 H0 H L) (i : Nat) {p : Addr} {vs : List V} (e : nth L i = some (aT p vs)) : H p = some (.tup vs) := h.get i e
theorem cel (h : Sep S0 H0 H L) (i : Nat) {p : Addr} {o : HO} (e : nth L i = some (aC p o)) : H p = some o := h.get i e
theorem val (h : Sep S0 H0 H L) (i : Nat) {α : Type} [Imm α] {v : V} {x : α} (e : nth L i = some (aV v x)) : Imm.at_ H v x := h.get i e
theorem scs (h : Sep S0 H0 H L) (i : Nat) {α : Type} [Sc α] {p : Addr} {xs : List α} (e : nth L i = some (aL p xs)) : H p = some (.lst (xs.map Sc.v)) := by
  obtain ⟨vs, h1, h2⟩ := h.lst i e
  rw [← Imms.sc h2]; exact h1
theorem putL (h : Sep S0 H0 H L) (i : Nat) {α : Type} [Imm α] {p : Addr} {xs ys : List α} (e : nth L i = some (aL p xs)) {vs ws : List V} (hl : H p = some (.lst vs)) (hv : Imms H ws ys) : Sep S0 H0 (upd H p (.lst ws)) (setN L i [aL p ys]) :=
  have k : Kp [p] [p] H (upd H p (.lst ws)) := Kp.upd hl trivial (List.mem_singleton.mpr rfl)
  h.put i e (aL p ys) k ⟨_, upd_same, hv.mono k.tups⟩
theorem newL (h : Sep S0 H0 H L) {α : Type} [Imm α] {p : Addr} (np : H p = none) {ys : List α} {ws : List V} (hv : Imms H ws ys) : Sep S0 H0 (upd H p (.lst ws)) (aL p ys :: L) :=
  h.new np (aL p ys) rfl ⟨_, upd_same, hv.mono (Kp.new (S := []) np).tups⟩
theorem newTup (h : Sep S0 H0 H L) {p : Addr} (np : H p = none) (vs : List V) : Sep S0 H0 (upd H p (.tup vs)) (aT p vs :: L) :=
  (h.newT np).add0 (aT p vs) rfl upd_same
theorem newC (h : Sep S0 H0 H L) {p : Addr} (np : H p = none) (o : HO) : Sep S0 H0 (upd H p o) (aC p o :: L) := h.new np (aC p o) rfl upd_same
theorem putC (h : Sep S0 H0 H L) (i : Nat) {p : Addr} {o : HO} (e : nth L i = some (aC p o)) (n : notTup o) (o' : HO) : Sep S0 H0 (upd H p o') (setN L i [aC p o']) :=
  h.put i e (aC p o') (Kp.upd (S := [p]) (h.cel i e) n (List.mem_singleton.mpr rfl)) upd_same
/-- the values of a list told, while it is walked -/
theorem fix (h : Sep S0 H0 H L) (i : Nat) {α : Type} [Imm α] {p : Addr} {xs : List α} (e : nth L i = some (aL p xs)) : ∃ vs, vs.length = xs.length ∧ Sep S0 H0 H (setN L i [aW p vs xs]) := by
  obtain ⟨vs, h1, h2⟩ := h.lst i e
  exact ⟨vs, h2.length, h.put i e (aW p vs xs) (Kp.refl _ _) ⟨h1, h2⟩⟩
theorem unfix (h : Sep S0 H0 H L) (i : Nat) {α : Type} [Imm α] {p : Addr} {vs : List V} {xs : List α} (e : nth L i = some (aW p vs xs)) : Sep S0 H0 H (setN L i [aL p xs]) := by
  obtain ⟨h1, h2⟩ := h.get i e
  exact h.put i e (aL p xs) (Kp.refl _ _) ⟨_, h1, h2⟩
theorem wal (h : Sep S0 H0 H L) (i : Nat) {α : Type} [Imm α] {p : Addr} {vs : List V} {xs : List α} (e : nth L i = some (aW p vs xs)) : H p = some (.lst vs) ∧ Imms H vs xs := h.get i e
theorem addV (h : Sep S0 H0 H L) {α : Type} [Imm α] {v : V} {x : α} (a : Imm.at_ H v x) : Sep S0 H0 H (aV v x :: L) := h.add0 (aV v x) rfl a
theorem addT (h : Sep S0 H0 H L) {p : Addr} {vs : List V} (a : H p = some (.tup vs)) : Sep S0 H0 H (aT p vs :: L) := h.add0 (aT p vs) rfl a
theorem pre {L : List As} (c : oks H L ∧ (owns L).Nodup) : Sep (owns L) H H L := ⟨c.1, c.2, Kp.refl _ _⟩
end Sep
theorem imI {H : Hp} {x : Int} : Imm.at_ H (.int x) x := rfl
theorem imB {H : Hp} {x : Bool} : Imm.at_ H (.bl x) x := rfl
theorem imS {H : Hp} {x : Str} : Imm.at_ H (.str x) x := rfl
theorem imU {H : Hp} : Imm.at_ H .non () := rfl
theorem imN {α : Type} [Imm α] {H : Hp} : Imm.at_ H .non (none : Option α) := rfl
theorem imO {α : Type} [Imm α] {H : Hp} {v : V} {x : α} (h : Imm.at_ H v x) : Imm.at_ H v (some x) := h
theorem im2 {α β : Type} [Imm α] [Imm β] {H : Hp} {p : Addr} {u w : V} {x : α} {y : β} (h : H p = some (.tup [u, w])) (a : Imm.at_ H u x) (b : Imm.at_ H w y) : Imm.at_ H (.ref p) (x, y) := ⟨p, u, w, rfl, h, a, b⟩
theorem im3 {α β γ : Type} [Imm α] [Imm β] [Imm γ] {H : Hp} {p : Addr} {u w z : V} {x : α} {y : β} {t : γ} (h : H p = some (.tup [u, w, z])) (a : Imm.at_ H u x) (b : Imm.at_ H w y) (c : Imm.at_ H z t) : Imm.at_ H (.ref p) (T3.mk x y t) := ⟨p, u, w, z, rfl, h, a, b, c⟩
theorem Imms.nthv {α : Type} [Imm α] {H : Hp} : ∀ {vs : List V} {xs : List α} {i : Nat} {v : V}, Imms H vs xs → vs[i]? = some v → ∃ x, xs[i]? = some x ∧ Imm.at_ H v x
  | _, _, _, _, .nil, e => by simp at e
  | _, _, 0, _, .cons h _, e => by simp at e; subst e; exact ⟨_, rfl, h⟩
  | _, _, i + 1, _, .cons _ r, e => by
    obtain ⟨v, h1, h2⟩ := Imms.nthv (i := i) r (by simpa using e)
    exact ⟨v, by simpa using h1, h2⟩
/-! ### the mirrors' words -/
theorem bnd {α β : Type} {o : Option α} {f : α → Option β} {r : β} (h : o.bind f = some r) : ∃ x, o = some x ∧ f x = some r := by
  cases o with
  | none => cases h
  | some x => exact ⟨x, rfl, h⟩
theorem ift {α : Type} {c : Prop} [Decidable c] {a b r : α} (h : c) (e : (if c then a else b) = r) : a = r := by rw [if_pos h] at e; exact e
theorem ife {α : Type} {c : Prop} [Decidable c] {a b r : α} (h : ¬ c) (e : (if c then a else b) = r) : b = r := by rw [if_neg h] at e; exact e
theorem gd {α : Type} {c : Prop} [Decidable c] {o : Option α} {r : α} (e : (if c then o else none) = some r) : c ∧ o = some r := by
  by_cases h : c
  · rw [if_pos h] at e; exact ⟨h, e⟩
  · rw [if_neg h] at e; cases e
abbrev big : Nat := 16000000
def snoc {α : Type} (xs : List α) (x : α) : Option (List α) := if xs.length < big then some (xs ++ [x]) else none
def catL {α : Type} (xs ys : List α) : Option (List α) := if xs.length + ys.length < big then some (xs ++ ys) else none
def repL {α : Type} (xs : List α) (n : Int) : Option (List α) := if -(2 ^ 63) ≤ n ∧ n < 2 ^ 63 ∧ xs.length * n.toNat < big then some ((List.replicate n.toNat xs).flatten) else none
def forS {α σ : Type} (f : α → σ → Option σ) : List α → σ → Option σ
  | [], s => some s
  | x :: r, s => (f x s).bind (forS f r)
inductive Ctl (ρ σ : Type) where
  | nx (s : σ)
  | bk (s : σ)
  | rt (r : ρ)
def forC {α σ ρ : Type} (f : α → σ → Option (Ctl ρ σ)) : List α → σ → Option (Ctl ρ σ)
  | [], s => some (.nx s)
  | x :: r, s => (f x s).bind fun c => match c with
    | .nx s' => forC f r s'
    | .bk s' => some (.bk s')
    | .rt r => some (.rt r)
def rangeL (lo : Int) (n : Nat) : List Int := (List.range n).map fun (k : Nat) => lo + (k : Int)
theorem drop_s {α : Type} : ∀ {xs : List α} {i : Nat} {x : α}, xs[i]? = some x → xs.drop i = x :: xs.drop (i + 1)
  | [], _, _, e => by simp at e
  | y :: r, 0, x, e => by simp at e; rw [e]; rfl
  | y :: r, i + 1, x, e => by
    show r.drop i = x :: r.drop (i + 1)
    exact drop_s (by simpa using e)
theorem forS_s {α σ : Type} {f : α → σ → Option σ} {xs : List α} {i : Nat} {x : α} {s sE : σ} (hx : xs[i]? = some x) (h : forS f (xs.drop i) s = some sE) : ∃ s', f x s = some s' ∧ forS f (xs.drop (i + 1)) s' = some sE := by
  rw [drop_s hx] at h
  exact bnd h
theorem forS_e {α σ : Type} {f : α → σ → Option σ} {xs : List α} {n : Nat} {s sE : σ} (hn : xs.length ≤ n) (h : forS f (xs.drop n) s = some sE) : s = sE := by
  rw [List.drop_of_length_le hn] at h
  exact Option.some.inj h
theorem forC_s {α σ ρ : Type} {f : α → σ → Option (Ctl ρ σ)} {xs : List α} {i : Nat} {x : α} {s : σ} {cE : Ctl ρ σ} (hx : xs[i]? = some x) (h : forC f (xs.drop i) s = some cE) :
    ∃ c, f x s = some c ∧ match c with
      | .nx s' => forC f (xs.drop (i + 1)) s' = some cE
      | .bk s' => cE = .bk s'
      | .rt r => cE = .rt r := by
  rw [drop_s hx] at h
  obtain ⟨c, h1, h2⟩ := bnd h
  refine ⟨c, h1, ?_⟩
  cases c with
  | nx s' => exact h2
  | bk s' => exact (Option.some.inj h2).symm
  | rt r => exact (Option.some.inj h2).symm
theorem forC_e {α σ ρ : Type} {f : α → σ → Option (Ctl ρ σ)} {xs : List α} {n : Nat} {s : σ} {cE : Ctl ρ σ} (hn : xs.length ≤ n) (h : forC f (xs.drop n) s = some cE) : cE = .nx s := by
  rw [List.drop_of_length_le hn] at h
  exact (Option.some.inj h).symm
theorem range_get {lo : Int} {n i : Nat} (h : i < n) : (rangeL lo n)[i]? = some (lo + (i : Int)) := by
  unfold rangeL
  rw [List.getElem?_map, List.getElem?_range h]; rfl
theorem range_len {lo : Int} {n : Nat} : (rangeL lo n).length = n := by unfold rangeL; rw [List.length_map, List.length_range]
/-! ### tests -/
def EvT (S0 : List Addr) (H0 : Hp) (L : List As) (t : TT) (σ : L2.St) (b : Bool) : Prop := ∀ H, Sep S0 H0 H L → ∀ Q : Bool → Hp → Prop, (∀ H', Sep S0 H0 H' L → Q b H') → t σ H Q
section
variable {S0 : List Addr} {H0 H : Hp} {L : List As} {σ : L2.St} {c t u : TT} {P R : Prop} [Decidable P] [Decidable R]
theorem if_use {c : TT} {t u : TS} {D : Ends} {b : Bool} (hs : Sep S0 H0 H L) (e : EvT S0 H0 L c σ b) (q : ∀ H', Sep S0 H0 H' L → if b = true then t D σ H' else u D σ H') : tIfS c t u D σ H := e H hs _ q
theorem ev_and (a : EvT S0 H0 L t σ (decide P)) (b : P → EvT S0 H0 L u σ (decide R)) : EvT S0 H0 L (tAnd t u) σ (decide (P ∧ R)) := fun H hs Q q => a H hs _ fun H1 h1 => by
  by_cases h : P
  · rw [decide_eq_true h, if_pos rfl]
    refine b h H1 h1 Q fun H2 h2 => ?_
    have z := q H2 h2
    rw [show decide (P ∧ R) = decide R from decide_eq_decide.mpr ⟨fun x => x.2, fun x => ⟨h, x⟩⟩] at z
    exact z
  · rw [decide_eq_false h, if_neg Bool.false_ne_true]
    have z := q H1 h1
    rw [decide_eq_false (fun x : P ∧ R => h x.1)] at z
    exact z
theorem ev_or (a : EvT S0 H0 L t σ (decide P)) (b : ¬ P → EvT S0 H0 L u σ (decide R)) : EvT S0 H0 L (tOr t u) σ (decide (P ∨ R)) := fun H hs Q q => a H hs _ fun H1 h1 => by
  by_cases h : P
  · rw [decide_eq_true h, if_pos rfl]
    have z := q H1 h1
    rw [decide_eq_true (show P ∨ R from .inl h)] at z
    exact z
  · rw [decide_eq_false h, if_neg Bool.false_ne_true]
    refine b h H1 h1 Q fun H2 h2 => ?_
    have z := q H2 h2
    rw [show decide (P ∨ R) = decide R from decide_eq_decide.mpr ⟨fun x => x.resolve_left h, .inr⟩] at z
    exact z
theorem ev_not (a : EvT S0 H0 L t σ (decide P)) : EvT S0 H0 L (tNot t) σ (decide (¬ P)) := fun H hs Q q => a H hs _ fun H1 h1 => by
  have z := q H1 h1
  rw [decide_not] at z
  exact z
end
theorem dI {a b : Int} : V.bl (decide (V.int a = V.int b)) = V.bl (decide (a = b)) := congrArg V.bl (decide_eq_decide.mpr ⟨V.int.inj, congrArg V.int⟩)
theorem dnI {a b : Int} : V.bl (!decide (V.int a = V.int b)) = V.bl (decide (¬ a = b)) := congrArg V.bl (by rw [decide_not, decide_eq_decide.mpr ⟨V.int.inj, congrArg V.int⟩])
theorem dS {a b : Str} : V.bl (decide (V.str a = V.str b)) = V.bl (decide (a = b)) := congrArg V.bl (decide_eq_decide.mpr ⟨V.str.inj, congrArg V.str⟩)
theorem dnS {a b : Str} : V.bl (!decide (V.str a = V.str b)) = V.bl (decide (¬ a = b)) := congrArg V.bl (by rw [decide_not, decide_eq_decide.mpr ⟨V.str.inj, congrArg V.str⟩])
theorem dBb {a b : Bool} : V.bl (decide (V.bl a = V.bl b)) = V.bl (decide (a = b)) := congrArg V.bl (decide_eq_decide.mpr ⟨V.bl.inj, congrArg V.bl⟩)
theorem dnBb {a b : Bool} : V.bl (!decide (V.bl a = V.bl b)) = V.bl (decide (¬ a = b)) := congrArg V.bl (by rw [decide_not, decide_eq_decide.mpr ⟨V.bl.inj, congrArg V.bl⟩])
theorem dB {b : Bool} : V.bl b = V.bl (decide (b = true)) := by cases b <;> rfl
theorem dN {P : Prop} [Decidable P] : V.bl (!decide P) = V.bl (decide (¬ P)) := by rw [decide_not]
theorem dOpt {α : Type} [Imm α] {H : Hp} {v : V} {x : Option α} (hnn : ∀ y : α, ¬ Imm.at_ H .non y) (h : Imm.at_ H v x) : V.bl (decide (v = .non)) = V.bl (decide (x = none)) := by
  cases x with
  | none => rw [show v = .non from h]; simp
  | some y =>
    refine congrArg V.bl (decide_eq_decide.mpr ⟨fun e => ?_, fun e => by cases e⟩)
    subst e; exact (hnn y h).elim
/-! ### the words' meaning -/
theorem Sep.tk {S0 : List Addr} {H0 H : Hp} {L : List As} (h : Sep S0 H0 H L) (n : Nat) : Sep S0 H0 H (takeN n L) := by
  rw [← take_drop n L] at h
  have hn := h.nd
  rw [owns_app] at hn
  exact h.perm (oks_app.mp h.ok).1 (nd_app.mp hn).1 fun b m => by rw [owns_app]; exact List.mem_append_left _ m
def mvsL : List Nat → List As → Option (List As)
  | [], L => some L
  | i :: r, L => match nth L i with
    | some A => mvsL r (A :: setN L i [])
    | none => none
theorem Sep.mvs {S0 : List Addr} {H0 H : Hp} : ∀ (is : List Nat) {L L' : List As}, Sep S0 H0 H L → mvsL is L = some L' → Sep S0 H0 H L'
  | [], _, _, h, e => by rw [← Option.some.inj e]; exact h
  | i :: r, L, L', h, e => by
    unfold mvsL at e
    cases en : nth L i with
    | none => rw [en] at e; cases e
    | some A => rw [en] at e; exact Sep.mvs r (h.mv i en) e
/-- entries chosen, in one go -/
theorem Sep.pick {S0 : List Addr} {H0 H : Hp} {L : List As} (h : Sep S0 H0 H L) (is : List Nat) (n : Nat) {L' : List As} (e : (mvsL is L).map (takeN n) = some L') : Sep S0 H0 H L' := by
  cases em : mvsL is L with
  | none => rw [em] at e; cases e
  | some M =>
    rw [em] at e
    rw [← Option.some.inj e]
    exact (h.mvs is em).tk n
theorem snoc_eq {α : Type} {xs ys : List α} {x : α} (h : snoc xs x = some ys) : xs.length < 16000000 ∧ ys = xs ++ [x] := by
  unfold snoc at h
  obtain ⟨g, e⟩ := gd h
  exact ⟨g, (Option.some.inj e).symm⟩
theorem catL_eq {α : Type} {xs ys zs : List α} (h : catL xs ys = some zs) : xs.length + ys.length < 16000000 ∧ zs = xs ++ ys := by
  unfold catL at h
  obtain ⟨g, e⟩ := gd h
  exact ⟨g, (Option.some.inj e).symm⟩
theorem repL_eq {α : Type} {xs zs : List α} {n : Int} (h : repL xs n = some zs) : (-(2 ^ 63) ≤ n ∧ n < 2 ^ 63 ∧ xs.length * n.toNat < 16000000) ∧ zs = (List.replicate n.toNat xs).flatten := by
  unfold repL at h
  obtain ⟨g, e⟩ := gd h
  exact ⟨g, (Option.some.inj e).symm⟩
def setX {α : Type} (xs : List α) (i : Int) (v : α) : Option (List α) := (ixN xs.length i).bind fun j => some (xs.set j v)
theorem setX_ix {α : Type} {xs ys : List α} {i : Int} {v : α} {n : Nat} (hn : n = xs.length) (h : setX xs i v = some ys) : ∃ j, ixN n i = some j ∧ ys = xs.set j v := by
  subst hn
  obtain ⟨j, h1, h2⟩ := bnd h
  exact ⟨j, h1, (Option.some.inj h2).symm⟩
def cutX {α : Type} (xs : List α) (lo hi : Option Int) : List α := (xs.drop (HT.sIx xs.length 0 lo)).take (HT.sIx xs.length xs.length hi - HT.sIx xs.length 0 lo)
section
variable {α : Type} [Imm α] {H : Hp}
theorem Imms.cut {vs : List V} {xs : List α} (h : Imms H vs xs) (lo hi : Option Int) : Imms H (cutV vs lo hi) (cutX xs lo hi) := by
  unfold cutV cutX
  rw [h.length]
  exact (h.drop _).take _
theorem Imms.rep {vs : List V} {xs : List α} (h : Imms H vs xs) : ∀ n : Nat, Imms H (List.replicate n vs).flatten (List.replicate n xs).flatten
  | 0 => .nil
  | n + 1 => by
    rw [List.replicate_succ, List.replicate_succ, List.flatten_cons, List.flatten_cons]
    exact h.app (h.rep n)
end
theorem iteNot {A B : Prop} {p : Prop} [Decidable p] (h1 : p → B) (h2 : ¬ p → A) : if (!decide p) = true then A else B := iteN h2 h1
instance : Decidable (CMul i j) := by unfold CMul; infer_instance
def BD.okF (D : BD) : Prop := ∀ n, D.m.at D.pc = some n → 0 ≤ n
instance (D : BD) : Decidable D.okF := by
  unfold BD.okF
  cases D.m.at D.pc with
  | none => exact isTrue fun n h => by cases h
  | some x => exact if h : 0 ≤ x then isTrue fun n e => by rw [← Option.some.inj e]; exact h else isFalse fun z => h (z x rfl)
def BD.turnM (D : BD) : Option (Str × BD) := if D.okF ∧ D.sent.length ≤ 999000 then some D.turn else none
theorem turnM_eq {D : BD} {z : Str × BD} (h : D.turnM = some z) : (∀ n, D.m.at D.pc = some n → 0 ≤ n) ∧ D.sent.length ≤ 999000 ∧ z = D.turn := by
  unfold BD.turnM at h
  obtain ⟨⟨g1, g2⟩, e⟩ := gd h
  exact ⟨g1, g2, (Option.some.inj e).symm⟩
def lineOkB (l : List (Int × Int)) : Bool := l.all (fun p => decide (0 ≤ p.2 ∧ p.2 < 4) && decide (0 < p.1)) && decide (l.Pairwise fun p q => p.1 < q.1)
instance decPw {l : List Int} : Decidable (l.Pairwise (· < ·)) := inferInstance
def initOk (ns : List Int) (l : List (Int × Int)) : Prop := LineOk l ∧ l.length < 1000 ∧ ns.length ≤ 512 ∧ ∀ n ∈ ns, 0 ≤ n ∧ n ≤ 65535
instance (l : List (Int × Int)) : Decidable (LineOk l) :=
  if h : (l.map (·.1)).Pairwise (· < ·) ∧ (∀ p ∈ l, 0 < p.1) ∧ ∀ p ∈ l, 0 ≤ p.2 ∧ p.2 < 4 then isTrue ⟨h.1, h.2.1, h.2.2⟩ else isFalse fun z => h ⟨z.up, z.pos, z.val⟩
instance (ns : List Int) (l : List (Int × Int)) : Decidable (initOk ns l) := by unfold initOk; infer_instance
theorem tups_of {H : Hp} : ∀ {ls : List V} {l : List (Int × Int)}, Imms H ls l → Tups H ls (sentT l)
  | _, _, .nil => .nil
  | _, _, .cons ⟨p, u, w, e, h, h1, h2⟩ r => .cons ⟨p, e, by rw [h, show u = _ from h1, show w = _ from h2]⟩ (tups_of r)
theorem tups_nil {α : Type} [Imm α] {H : Hp} {ls : List V} (h : Imms H ls ([] : List α)) : Tups H ls (sentT []) := by
  cases h; exact .nil
theorem stop_dec {H : Hp} {v : V} {o : Option (List V)} (h : StopV H v o) : V.bl (decide (v = .non)) = V.bl (decide (o = none)) := by
  cases o with
  | none => rw [show v = .non from h]; rfl
  | some xs =>
    obtain ⟨t, e, _⟩ := h
    rw [e]; rfl
theorem stop_decN {H : Hp} {v : V} {o : Option (List V)} (h : StopV H v o) : V.bl (!decide (v = .non)) = V.bl (decide (o ≠ none)) := by
  have := V.bl.inj (stop_dec h)
  rw [this, decide_not]
theorem opt_dec {H : Hp} {v : V} {o : Option Int} (h : Imm.at_ H v o) : V.bl (decide (v = .non)) = V.bl (decide (o = none)) := by
  cases o with
  | none => rw [show v = .non from h]; rfl
  | some x => rw [show v = .int x from h]; rfl
theorem opt_decN {H : Hp} {v : V} {o : Option Int} (h : Imm.at_ H v o) : V.bl (!decide (v = .non)) = V.bl (decide (o ≠ none)) := by
  have := V.bl.inj (opt_dec h)
  rw [this, decide_not]
theorem dnX {P : Prop} [Decidable P] : V.bl (!decide P) = V.bl (decide (¬ P)) := by rw [decide_not]
theorem im_optV {H : Hp} (o : Option Int) : Imm.at_ H (optV o) o := by cases o <;> rfl
/-! a dict of ints to ints -/
def lookI (l : List (Int × Int)) (k : Int) : Option Int := (l.find? fun p => decide (p.1 = k)).map (·.2)
def putI (l : List (Int × Int)) (k v : Int) : List (Int × Int) :=
  if (l.any fun p => decide (p.1 = k)) = true then l.map (fun p => if p.1 = k then (k, v) else p) else l ++ [(k, v)]
theorem lineK_len (l : List (Int × Int)) : (lineK l).length = l.length := by unfold lineK; rw [List.length_map]
theorem valV_lineK : ∀ (l : List (Int × Int)) (k : Int), valV (lineK l) (Sum.inl k : Key) = (lookI l k).map V.int
  | [], _ => rfl
  | (x, y) :: r, k => by
    by_cases e : x = k
    · have h1 : valV (lineK ((x, y) :: r)) (Sum.inl k : Key) = some (.int y) := valV_pos (p := ((Sum.inl x : Key), V.int y)) (by rw [e])
      rw [h1]; unfold lookI
      rw [List.find?_cons_of_pos (by simp [e])]; rfl
    · have h1 : valV (lineK ((x, y) :: r)) (Sum.inl k : Key) = valV (lineK r) (Sum.inl k : Key) := valV_neg (p := ((Sum.inl x : Key), V.int y)) (fun z => e (Sum.inl.inj z))
      rw [h1, valV_lineK r k]
      unfold lookI
      rw [List.find?_cons_of_neg (by simp [e])]
theorem lookI_valV {l : List (Int × Int)} {k v : Int} (h : lookI l k = some v) : valV (lineK l) (Sum.inl k : Key) = some (.int v) := by rw [valV_lineK, h]; rfl
/-! ### in, == -/
theorem eqV_int {a b : Int} : eqV (.int a) (.int b) = decide (a = b) := by unfold eqV; rfl
theorem inV_ints (x : Int) : ∀ xs : List Int, inV (.int x) (xs.map V.int) = decide (x ∈ xs)
  | [] => rfl
  | y :: r => by
    show (eqV (.int y) (.int x) || inV (.int x) (r.map V.int)) = _
    rw [inV_ints x r, eqV_int, ← Bool.decide_or]
    exact decide_eq_decide.mpr ⟨fun h => by rcases h with h | h; exact List.mem_cons.mpr (.inl h.symm); exact List.mem_cons_of_mem _ h, fun h => by rcases List.mem_cons.mp h with h | h; exact .inl h.symm; exact .inr h⟩
theorem in_int {x : Int} {xs : List Int} : V.bl (if false = true then !inV (.int x) (xs.map Sc.v) else inV (.int x) (xs.map Sc.v)) = V.bl (decide (x ∈ xs)) := by
  rw [if_neg Bool.false_ne_true]; exact congrArg V.bl (inV_ints x xs)
theorem inN_int {x : Int} {xs : List Int} : V.bl (if true = true then !inV (.int x) (xs.map Sc.v) else inV (.int x) (xs.map Sc.v)) = V.bl (decide (x ∉ xs)) := by
  rw [if_pos rfl, decide_not]; exact congrArg (fun b => V.bl (!b)) (inV_ints x xs)
theorem flat_int (xs : List Int) : (xs.map Sc.v).all flatV = true := by
  rw [List.all_eq_true]; intro v hv
  obtain ⟨x, _, rfl⟩ := List.mem_map.mp hv
  rfl
theorem eqv_dec {d e : PyData} {P : Prop} [Decidable P] (h : PyData.eqv d e = decide P) : V.bl (PyData.eqv d e) = V.bl (decide P) := congrArg V.bl h
theorem eqv_decN {d e : PyData} {P : Prop} [Decidable P] (h : PyData.eqv d e = decide P) : V.bl (!PyData.eqv d e) = V.bl (decide (¬ (P))) := by rw [h, decide_not]
theorem eqv_i (a b : Int) : PyData.eqv (.int a) (.int b) = decide (a = b) := by simp only [PyData.eqv]; rfl
theorem eqv_b (a b : Bool) : PyData.eqv (.bool a) (.bool b) = decide (a = b) := by cases a <;> cases b <;> simp [PyData.eqv]
theorem eqv_s (a b : Str) : PyData.eqv (.str a) (.str b) = decide (a = b) := by simp only [PyData.eqv]; by_cases h : a = b <;> simp [h]
theorem eqvN : PyData.eqvAll [] [] = decide True := by simp [PyData.eqvAll]
theorem eqvC {x y : PyData} {xs ys : List PyData} {P R : Prop} [Decidable P] [Decidable R] (h : PyData.eqv x y = decide P) (t : PyData.eqvAll xs ys = decide R) : PyData.eqvAll (x :: xs) (y :: ys) = decide (P ∧ R) := by
  simp only [PyData.eqvAll, h, t, Bool.decide_and]
theorem eqvL {xs ys : List PyData} {P : Prop} [Decidable P] (t : PyData.eqvAll xs ys = decide P) : PyData.eqv (.list xs) (.list ys) = decide P := by rw [PyData.eqv]; exact t
theorem eqvT {xs ys : List PyData} {P : Prop} [Decidable P] (t : PyData.eqvAll xs ys = decide P) : PyData.eqv (.tuple xs) (.tuple ys) = decide P := by rw [PyData.eqv]; exact t
def optD' : Option Int → PyData
  | none => .none
  | some n => .int n
theorem eqv_o (a b : Option Int) : PyData.eqv (optD' a) (optD' b) = decide (a = b) := by
  cases a <;> cases b <;> simp only [PyData.eqv, optD'] <;> first | rfl | (rename_i x y; by_cases h : x = y <;> simp [h]) | simp
theorem dp_opt' {K : PySem.W.Frag} {H : Hp} {v : V} {o : Option Int} (h : Imm.at_ H v o) : Dp K H v (optD' o) := by
  cases o with
  | none => rw [show v = .non from h]; exact .non
  | some n => rw [show v = .int n from h]; exact .int n
theorem dpOptsL {K : PySem.W.Frag} {H : Hp} : ∀ {vs : List V} {xs : List (Option Int)}, Imms H vs xs → DpAll K H vs (xs.map optD')
  | _, _, .nil => .nil
  | _, _, .cons h r => .cons (dp_opt' h) (dpOptsL r)
theorem dpOpts {K : PySem.W.Frag} {H : Hp} {p : Addr} {xs : List (Option Int)} (h : ∃ vs, H p = some (.lst vs) ∧ Imms H vs xs) : Dp K H (.ref p) (.list (xs.map optD')) := by
  obtain ⟨vs, h1, h2⟩ := h
  exact .lst (SqL.of h1) (dpOptsL h2)
theorem shp_opts (xs : List (Option Int)) : SeqAt.shaped (.list (xs.map optD')) = true := by
  have e : ∀ d ∈ xs.map optD', d.canLay0 = true ∧ d.depth ≤ 0 := fun d hd => by
    obtain ⟨v, hv, rfl⟩ := List.mem_map.mp hd
    cases v <;> exact ⟨by simp only [optD', PyData.canLay0], by simp only [optD', PyData.depth]; exact Nat.le_refl _⟩
  refine shp (by simp only [PyData.canLay0]; exact lay_all fun d hd => (e d hd).1) ?_
  simp only [PyData.depth]
  have := depth_all (ds := xs.map optD') (n := 0) fun d hd => (e d hd).2
  omega
theorem eqv_osA : ∀ xs ys : List (Option Int), PyData.eqvAll (xs.map optD') (ys.map optD') = decide (xs = ys)
  | [], [] => by simp [PyData.eqvAll]
  | [], _ :: _ => by simp [PyData.eqvAll]
  | _ :: _, [] => by simp [PyData.eqvAll]
  | x :: r, y :: q => by
    simp only [List.map_cons, PyData.eqvAll, eqv_o, eqv_osA r q]
    by_cases h : x = y <;> by_cases h2 : r = q <;> simp [h, h2]
theorem eqv_os (xs ys : List (Option Int)) : PyData.eqv (.list (xs.map optD')) (.list (ys.map optD')) = decide (xs = ys) := by
  rw [PyData.eqv]; exact eqv_osA xs ys
theorem Sep.cast {S0 : List Addr} {H0 Ha Hb : Hp} {L : List As} (h : Sep S0 H0 Ha L) (e : Ha = Hb) : Sep S0 H0 Hb L := e ▸ h
/-! ### True and False as values; with what may be out of bounds -/
def EvB (S0 : List Addr) (H0 : Hp) (L : List As) (t : TE) (σ : L2.St) (b : Bool) : Prop := ∀ H, Sep S0 H0 H L → ∀ Q : VK, (∀ H', Sep S0 H0 H' L → Q (.bl b) H') → t σ H Q
section
variable {S0 : List Addr} {H0 H : Hp} {L : List As} {σ : L2.St} {b : Bool}
theorem andV_use {ta tb : TE} {Q : VK} (hs : Sep S0 H0 H L) (e : EvB S0 H0 L (tAndV ta tb) σ b) (q : ∀ H', Sep S0 H0 H' L → Q (.bl b) H') : tAndV ta tb σ H Q := e H hs Q q
theorem orV_use {ta tb : TE} {Q : VK} (hs : Sep S0 H0 H L) (e : EvB S0 H0 L (tOrV ta tb) σ b) (q : ∀ H', Sep S0 H0 H' L → Q (.bl b) H') : tOrV ta tb σ H Q := e H hs Q q
theorem notV_use {ta : TE} {Q : VK} (hs : Sep S0 H0 H L) (e : EvB S0 H0 L (tNotV ta) σ b) (q : ∀ H', Sep S0 H0 H' L → Q (.bl b) H') : tNotV ta σ H Q := e H hs Q q
def andO (o u : Option Bool) : Option Bool := o.bind fun x => if x = true then u else some false
def orO (o u : Option Bool) : Option Bool := o.bind fun x => if x = true then some true else u
def notO (o : Option Bool) : Option Bool := o.bind fun x => some (!x)
theorem evB_and {ta tb : TE} {o u : Option Bool} (hb : andO o u = some b) (a : ∀ b1, o = some b1 → EvB S0 H0 L ta σ b1) (c : ∀ b1, u = some b1 → EvB S0 H0 L tb σ b1) : EvB S0 H0 L (tAndV ta tb) σ b := fun H hs Q q => by
  obtain ⟨x, h1, h2⟩ := bnd hb
  refine a x h1 H hs _ fun H1 hs1 => ⟨x, rfl, ?_⟩
  cases x with
  | true => rw [if_pos rfl] at h2 ⊢; exact c b h2 H1 hs1 Q q
  | false => rw [if_neg Bool.false_ne_true] at h2 ⊢; rw [Option.some.inj h2]; exact q H1 hs1
theorem evB_or {ta tb : TE} {o u : Option Bool} (hb : orO o u = some b) (a : ∀ b1, o = some b1 → EvB S0 H0 L ta σ b1) (c : ∀ b1, u = some b1 → EvB S0 H0 L tb σ b1) : EvB S0 H0 L (tOrV ta tb) σ b := fun H hs Q q => by
  obtain ⟨x, h1, h2⟩ := bnd hb
  refine a x h1 H hs _ fun H1 hs1 => ⟨x, rfl, ?_⟩
  cases x with
  | true => rw [if_pos rfl] at h2 ⊢; rw [Option.some.inj h2]; exact q H1 hs1
  | false => rw [if_neg Bool.false_ne_true] at h2 ⊢; exact c b h2 H1 hs1 Q q
theorem evB_not {ta : TE} {o : Option Bool} (hb : notO o = some b) (a : ∀ b1, o = some b1 → EvB S0 H0 L ta σ b1) : EvB S0 H0 L (tNotV ta) σ b := fun H hs Q q => by
  obtain ⟨x, h1, h2⟩ := bnd hb
  refine a x h1 H hs _ fun H1 hs1 => ⟨x, rfl, ?_⟩
  rw [Option.some.inj h2]; exact q H1 hs1
theorem evT_and {ta tb : TT} {o u : Option Bool} (hb : andO o u = some b) (a : ∀ b1, o = some b1 → EvT S0 H0 L ta σ b1) (c : ∀ b1, u = some b1 → EvT S0 H0 L tb σ b1) : EvT S0 H0 L (tAnd ta tb) σ b := fun H hs Q q => by
  obtain ⟨x, h1, h2⟩ := bnd hb
  refine a x h1 H hs _ fun H1 hs1 => ?_
  cases x with
  | true => rw [if_pos rfl] at h2 ⊢; exact c b h2 H1 hs1 Q q
  | false => rw [if_neg Bool.false_ne_true] at h2 ⊢; rw [Option.some.inj h2]; exact q H1 hs1
theorem evT_or {ta tb : TT} {o u : Option Bool} (hb : orO o u = some b) (a : ∀ b1, o = some b1 → EvT S0 H0 L ta σ b1) (c : ∀ b1, u = some b1 → EvT S0 H0 L tb σ b1) : EvT S0 H0 L (tOr ta tb) σ b := fun H hs Q q => by
  obtain ⟨x, h1, h2⟩ := bnd hb
  refine a x h1 H hs _ fun H1 hs1 => ?_
  cases x with
  | true => rw [if_pos rfl] at h2 ⊢; rw [Option.some.inj h2]; exact q H1 hs1
  | false => rw [if_neg Bool.false_ne_true] at h2 ⊢; exact c b h2 H1 hs1 Q q
theorem evT_not {ta : TT} {o : Option Bool} (hb : notO o = some b) (a : ∀ b1, o = some b1 → EvT S0 H0 L ta σ b1) : EvT S0 H0 L (tNot ta) σ b := fun H hs Q q => by
  obtain ⟨x, h1, h2⟩ := bnd hb
  refine a x h1 H hs _ fun H1 hs1 => ?_
  rw [Option.some.inj h2]; exact q H1 hs1
end
def thenC {ρ σ τ : Type} (o : Option (Ctl ρ σ)) (fr : ρ → Option τ) (k : σ → Option τ) : Option τ := o.bind fun c => match c with
  | .nx s => k s
  | .bk s => k s
  | .rt r => fr r
theorem thenC_eq {ρ σ τ : Type} {o : Option (Ctl ρ σ)} {fr : ρ → Option τ} {k : σ → Option τ} {x : τ} (h : thenC o fr k = some x) : ∃ c, o = some c ∧ (match c with
  | .nx s => k s
  | .bk s => k s
  | .rt r => fr r) = some x := bnd h
theorem thenC_exit {ρ σ τ : Type} {c : Ctl ρ σ} {fr : ρ → Option τ} {k : σ → Option τ} {x : τ} {s : σ} (h : (match c with
  | .nx s => k s
  | .bk s => k s
  | .rt r => fr r) = some x) (z : c = .nx s ∨ c = .bk s) : k s = some x := by
  rcases z with rfl | rfl <;> exact h
theorem bl_use {P : Prop} {Q : VK} {H : Hp} {v : V} {b : Bool} (e : v = .bl b) (h : Q (.bl b) H) : Q v H := by rw [e]; exact h
theorem dbt {b : Bool} {P : Prop} [Decidable P] (h : some (decide P) = some b) : V.bl (decide P) = V.bl b := congrArg V.bl (Option.some.inj h)
theorem iteBt {A B : Prop} {b : Bool} (h1 : b = true → A) (h2 : ¬ b = true → B) : if b = true then A else B := ite2 h1 h2
/-! ### loops, with what follows as it stands -/
theorem for_listN {K : PySem.W.Frag} {a : Addr} {xs : List V} {g : TG} {tb : TS} {nx : L2.St → Hp → Prop} {rt : VK} {σ : L2.St} {H : Hp} (Pv : Nat → L2.St → Hp → Prop) (h0 : Pv 0 σ H) (hl : ∀ i σ H, i ≤ xs.length → Pv i σ H → SqL K H a xs)
    (hs : ∀ i x σ H, xs[i]? = some x → Pv i σ H → g x σ H fun σ2 H2 => tb { nx := Pv (i + 1), rt := rt, bk := nx, ct := Pv (i + 1) } σ2 H2) (hd : ∀ σ H, Pv xs.length σ H → nx σ H) :
    ∃ W : Nat → Nat → L2.St → Hp → Prop, (∃ m, W 0 m σ H) ∧ ∀ i m σ H, W i m σ H →
      ((Itl K a).stop i H ∧ nx σ H) ∨ ((Itl K a).go i H ∧ ∃ N : L2.St → Hp → Prop, (∀ σ' H', N σ' H' → ∃ m', m' < m ∧ W (i + 1) m' σ' H') ∧ ∀ x H', (Itl K a).yld i H x H' → g x σ H' fun σ2 H2 => tb { nx := N, rt := rt, bk := nx, ct := N } σ2 H2) :=
  for_list (D := { nx := nx, rt := rt, bk := nx, ct := nx }) Pv h0 hl hs hd
theorem for_rangeN {lo : Int} {n : Nat} {g : TG} {tb : TS} {nx : L2.St → Hp → Prop} {rt : VK} {σ : L2.St} {H : Hp} (Pv : Nat → L2.St → Hp → Prop) (h0 : Pv 0 σ H)
    (hs : ∀ i σ H, i < n → Pv i σ H → g (.int (lo + i)) σ H fun σ2 H2 => tb { nx := Pv (i + 1), rt := rt, bk := nx, ct := Pv (i + 1) } σ2 H2) (hd : ∀ σ H, Pv n σ H → nx σ H) :
    ∃ W : Nat → Nat → L2.St → Hp → Prop, (∃ m, W 0 m σ H) ∧ ∀ i m σ H, W i m σ H →
      ((Itr lo n).stop i H ∧ nx σ H) ∨ ((Itr lo n).go i H ∧ ∃ N : L2.St → Hp → Prop, (∀ σ' H', N σ' H' → ∃ m', m' < m ∧ W (i + 1) m' σ' H') ∧ ∀ x H', (Itr lo n).yld i H x H' → g x σ H' fun σ2 H2 => tb { nx := N, rt := rt, bk := nx, ct := N } σ2 H2) :=
  for_range (D := { nx := nx, rt := rt, bk := nx, ct := nx }) Pv h0 hs hd
/-- with breaks: what comes behind is told ahead -/
theorem for_rangeB {lo : Int} {n : Nat} {g : TG} {tb : TS} {nx : L2.St → Hp → Prop} {rt : VK} {σ : L2.St} {H : Hp} (Pv : Nat → L2.St → Hp → Prop) (B : L2.St → Hp → Prop) (h0 : Pv 0 σ H)
    (hs : (∀ σ H, B σ H → nx σ H) → ∀ i σ H, i < n → Pv i σ H → g (.int (lo + i)) σ H fun σ2 H2 => tb { nx := Pv (i + 1), rt := rt, bk := nx, ct := Pv (i + 1) } σ2 H2) (hd : ∀ σ H, Pv n σ H → B σ H) (hb : ∀ σ H, B σ H → nx σ H) :
    ∃ W : Nat → Nat → L2.St → Hp → Prop, (∃ m, W 0 m σ H) ∧ ∀ i m σ H, W i m σ H →
      ((Itr lo n).stop i H ∧ nx σ H) ∨ ((Itr lo n).go i H ∧ ∃ N : L2.St → Hp → Prop, (∀ σ' H', N σ' H' → ∃ m', m' < m ∧ W (i + 1) m' σ' H') ∧ ∀ x H', (Itr lo n).yld i H x H' → g x σ H' fun σ2 H2 => tb { nx := N, rt := rt, bk := nx, ct := N } σ2 H2) :=
  for_rangeN Pv h0 (hs hb) (fun σ H p => hb σ H (hd σ H p))
/-! ### data that can be laid -/
def okD (k : Nat) (d : PyData) : Prop := d.canLay0 = true ∧ d.depth ≤ k
def okA (k : Nat) (ds : List PyData) : Prop := ∀ d ∈ ds, okD k d
theorem okA_nil {k : Nat} : okA k [] := fun _ h => by cases h
theorem okA_cons {k : Nat} {d : PyData} {ds : List PyData} (h : okD k d) (r : okA k ds) : okA k (d :: ds) := fun e he => by
  rcases List.mem_cons.mp he with z | z
  · rw [z]; exact h
  · exact r e z
theorem ok_i {k : Nat} {n : Int} : okD k (.int n) := ⟨by simp only [PyData.canLay0], by simp only [PyData.depth]; exact Nat.zero_le _⟩
theorem ok_b {k : Nat} {n : Bool} : okD k (.bool n) := ⟨by simp only [PyData.canLay0], by simp only [PyData.depth]; exact Nat.zero_le _⟩
theorem ok_n {k : Nat} : okD k .none := ⟨by simp only [PyData.canLay0], by simp only [PyData.depth]; exact Nat.zero_le _⟩
theorem ok_s {k : Nat} {s : Str} (h : PyData.strOk s = true) : okD k (.str s) := ⟨by simp only [PyData.canLay0]; exact h, by simp only [PyData.depth]; exact Nat.zero_le _⟩
theorem ok_o {k : Nat} {o : Option Int} : okD k (optD' o) := by
  cases o
  · exact ok_n
  · exact ok_i
theorem ok_L {k : Nat} {ds : List PyData} (h : okA k ds) : okD (k + 1) (.list ds) := ⟨by simp only [PyData.canLay0]; exact lay_all fun d hd => (h d hd).1, by
  simp only [PyData.depth]
  have := depth_all fun d hd => (h d hd).2
  omega⟩
theorem ok_T {k : Nat} {ds : List PyData} (h : okA k ds) : okD (k + 1) (.tuple ds) := ⟨by simp only [PyData.canLay0]; exact lay_all fun d hd => (h d hd).1, by
  simp only [PyData.depth]
  have := depth_all fun d hd => (h d hd).2
  omega⟩
theorem okA_map {k : Nat} {α : Type} {f : α → PyData} (h : ∀ x, okD k (f x)) (xs : List α) : okA k (xs.map f) := fun d hd => by
  obtain ⟨x, _, rfl⟩ := List.mem_map.mp hd
  exact h x
theorem shp_of {k : Nat} {d : PyData} (h : okD k d) (hk : k ≤ 64) : SeqAt.shaped d = true := shp h.1 (Nat.le_trans h.2 hk)
/-! ### records -/
/-- entries chosen and closed as one, in one go -/
theorem Sep.cl {S0 : List Addr} {H0 H : Hp} {L : List As} (h : Sep S0 H0 H L) (is : List Nat) (n : Nat) {L' : List As} (e : (mvsL is L).map (fun M => aG (takeN n M) :: dropN n M) = some L') : Sep S0 H0 H L' := by
  cases em : mvsL is L with
  | none => rw [em] at e; cases e
  | some M =>
    rw [em] at e
    rw [← Option.some.inj e]
    exact (h.mvs is em).clsN n
theorem Sep.as1 {S0 : List Addr} {H0 H : Hp} {L : List As} {X Y : As} (h : Sep S0 H0 H (X :: L)) (e : X = Y) : Sep S0 H0 H (Y :: L) := e ▸ h
theorem Sep.asN {S0 : List Addr} {H0 H : Hp} {L : List As} {X Y : As} (h : Sep S0 H0 H L) (i : Nat) (n : nth L i = some X) (e : X = Y) : Sep S0 H0 H (setN L i [Y]) := by
  subst e
  exact h.put i n X (Kp.refl _ _) (h.get i n)
theorem nth_own : ∀ {L : List As} {i : Nat} {A : As}, nth L i = some A → ∀ b, b ∈ A.own → b ∈ owns L
  | [], _, _, e, _, _ => by cases e
  | B :: r, 0, A, e, b, m => by
    have e : B = A := Option.some.inj e
    exact List.mem_append_left _ (e ▸ m)
  | _ :: _, n + 1, _, e, b, m => List.mem_append_right _ (nth_own (i := n) e b m)
theorem apart_aux {p : Addr} {o u : HO} : ∀ {L : List As} {i j : Nat}, nth L i = some (aC p o) → nth L j = some (aC p u) → i ≠ j → (owns L).Nodup → False
  | [], _, _, e, _, _, _ => by cases e
  | A :: r, 0, 0, _, _, n, _ => n rfl
  | A :: r, 0, j + 1, e1, e2, _, nd => by
    have e1 : A = aC p o := Option.some.inj e1
    subst e1
    exact (nd_app.mp nd).2.2 p (List.mem_singleton.mpr rfl) (nth_own (i := j) e2 p (List.mem_singleton.mpr rfl))
  | A :: r, i + 1, 0, e1, e2, _, nd => by
    have e2 : A = aC p u := Option.some.inj e2
    subst e2
    exact (nd_app.mp nd).2.2 p (List.mem_singleton.mpr rfl) (nth_own (i := i) e1 p (List.mem_singleton.mpr rfl))
  | A :: r, i + 1, j + 1, e1, e2, n, nd => apart_aux (L := r) (i := i) (j := j) e1 e2 (fun z => n (congrArg (· + 1) z)) (nd_app.mp nd).2.1
theorem Sep.apart {S0 : List Addr} {H0 H : Hp} {L : List As} {p q : Addr} {o u : HO} (h : Sep S0 H0 H L) (i j : Nat) (e1 : nth L i = some (aC p o)) (e2 : nth L j = some (aC q u)) (n : i ≠ j) : p ≠ q := fun e => by
  subst e
  exact apart_aux e1 e2 n h.nd
theorem getI_map {o : Option Int} {d : Int} : (o.map V.int).getD (.int d) = .int (o.getD d) := by cases o <;> rfl
def mkI (l : List (Int × Int)) : List (Int × Int) := l.foldl (fun acc p => putI acc p.1 p.2) []
theorem lineK_put (l : List (Int × Int)) (k v : Int) : putK (lineK l) (Sum.inl k : Key) (.int v) = lineK (putI l k v) := by
  have e : ((lineK l).any fun kv => decide (kv.1 = (Sum.inl k : Key))) = (l.any fun p => decide (p.1 = k)) := by
    unfold lineK
    rw [List.any_map]
    congr 1
    funext p
    exact decide_eq_decide.mpr ⟨fun h => Sum.inl.inj h, fun h => congrArg Sum.inl h⟩
  unfold putK putI
  rw [e]
  by_cases h : (l.any fun p => decide (p.1 = k)) = true
  · rw [if_pos h, if_pos h]
    unfold lineK
    rw [List.map_map, List.map_map]
    refine List.map_congr_left fun p _ => ?_
    show (if (Sum.inl p.1 : Key) = Sum.inl k then _ else _) = ((Sum.inl (if p.1 = k then (k, v) else p).1 : Key), V.int (if p.1 = k then (k, v) else p).2)
    by_cases c : p.1 = k
    · rw [if_pos (congrArg Sum.inl c), if_pos c]
      show ((Sum.inl p.1 : Key), V.int v) = (Sum.inl k, V.int v)
      rw [c]
    · rw [if_neg (fun z => c (Sum.inl.inj z)), if_neg c]
  · rw [if_neg h, if_neg h]
    unfold lineK
    rw [List.map_append]; rfl
theorem Sep.putD {S0 : List Addr} {H0 H : Hp} {L : List As} (h : Sep S0 H0 H L) (i : Nat) {p : Addr} {l : List (Int × Int)} (e : nth L i = some (aC p (.dK (lineK l)))) (k v : Int) : Sep S0 H0 (upd H p (.dK (putK (lineK l) (Sum.inl k : Key) (.int v)))) (setN L i [aC p (.dK (lineK (putI l k v)))]) := by
  rw [lineK_put]; exact h.putC i e trivial _
theorem merge_go : ∀ (l : List (Int × Int)) (acc : List (Int × Int)), mergeK (lineK acc) (lineK l) = lineK (l.foldl (fun acc p => putI acc p.1 p.2) acc)
  | [], _ => rfl
  | p :: r, acc => by
    show mergeK (putK (lineK acc) (Sum.inl p.1 : Key) (.int p.2)) (lineK r) = _
    rw [lineK_put, merge_go r]; rfl
theorem merge_mkI (l : List (Int × Int)) : mergeK [] (lineK l) = lineK (mkI l) := merge_go l []
/-! ### flat tuples: what stops a board -/
instance : Imm (List V) := ⟨fun H v xs => ∃ p, v = .ref p ∧ H p = some (.tup xs), fun t ⟨p, e, h⟩ => ⟨p, e, t _ _ h⟩⟩
theorem imF {H : Hp} {p : Addr} {xs : List V} (h : H p = some (.tup xs)) : Imm.at_ H (.ref p) xs := ⟨p, rfl, h⟩
theorem im_stop {H : Hp} {v : V} {o : Option (List V)} (h : StopV H v o) : Imm.at_ H v o := by
  cases o with
  | none => exact h
  | some xs => exact h
theorem opt_decF {H : Hp} {v : V} {o : Option (List V)} (h : Imm.at_ H v o) : V.bl (decide (v = .non)) = V.bl (decide (o = none)) := by
  cases o with
  | none => rw [show v = .non from h]; rfl
  | some x =>
    obtain ⟨p, e, _⟩ := (show Imm.at_ H v x from h)
    rw [e]; rfl
theorem opt_decFN {H : Hp} {v : V} {o : Option (List V)} (h : Imm.at_ H v o) : V.bl (!decide (v = .non)) = V.bl (decide (o ≠ none)) := by
  have := V.bl.inj (opt_decF h)
  rw [this, decide_not]
def flD : V → PyData
  | .int i => .int i
  | .str s => .str s
  | _ => .none
def flOk : V → Bool
  | .int _ => true
  | .str s => PyData.strOk s
  | _ => false
def stOk : Option (List V) → Bool
  | none => true
  | some xs => xs.all flOk
def stD : Option (List V) → PyData
  | none => .none
  | some xs => .tuple (xs.map flD)
theorem dp_flatA {K : PySem.W.Frag} {H : Hp} : ∀ {st : List V}, st.all flOk = true → DpAll K H st (st.map flD)
  | [], _ => .nil
  | v :: r, h => by
    simp only [List.all_cons, Bool.and_eq_true] at h
    obtain ⟨h1, h2⟩ := h
    refine .cons ?_ (dp_flatA h2)
    cases v <;> first | exact .int _ | exact .str _ | cases h1
theorem dp_st {K : PySem.W.Frag} {H : Hp} {v : V} {o : Option (List V)} (g : stOk o = true) (h : Imm.at_ H v o) : Dp K H v (stD o) := by
  cases o with
  | none => rw [show v = .non from h]; exact .non
  | some xs =>
    obtain ⟨p, e, ht⟩ := (show Imm.at_ H v xs from h)
    rw [e]; exact .tup (SqT.of ht) (dp_flatA g)
theorem ok_st {k : Nat} {o : Option (List V)} (g : stOk o = true) : okD (k + 1) (stD o) := by
  cases o with
  | none => exact ok_n
  | some xs =>
    refine ok_T fun d hd => ?_
    obtain ⟨v, hv, rfl⟩ := List.mem_map.mp hd
    have := List.all_eq_true.mp g v hv
    cases v <;> first | exact ok_i | exact ok_s this | cases this
theorem eqv_fl {x y : V} (hx : flOk x = true) (hy : flOk y = true) : PyData.eqv (flD x) (flD y) = decide (x = y) := by
  cases x <;> first | cases hx; done | skip
  all_goals cases y <;> first | cases hy; done | skip
  all_goals simp only [flD, PyData.eqv]
  all_goals first | (rename_i a b; by_cases h : a = b <;> simp [h]) | simp
theorem eqv_flA : ∀ {xs ys : List V}, xs.all flOk = true → ys.all flOk = true → PyData.eqvAll (xs.map flD) (ys.map flD) = decide (xs = ys)
  | [], [], _, _ => by simp [PyData.eqvAll]
  | [], _ :: _, _, _ => by simp [PyData.eqvAll]
  | _ :: _, [], _, _ => by simp [PyData.eqvAll]
  | x :: r, y :: q, h1, h2 => by
    simp only [List.all_cons, Bool.and_eq_true] at h1 h2
    simp only [List.map_cons, PyData.eqvAll, eqv_fl h1.1 h2.1, eqv_flA h1.2 h2.2]
    by_cases h : x = y <;> by_cases h2 : r = q <;> simp [h, h2]
theorem eqv_st {a b : Option (List V)} (h1 : stOk a = true) (h2 : stOk b = true) : PyData.eqv (stD a) (stD b) = decide (a = b) := by
  cases a with
  | none => cases b <;> simp [stD, PyData.eqv]
  | some x =>
    cases b with
    | none => simp [stD, PyData.eqv]
    | some y =>
      simp only [stD, PyData.eqv]
      rw [eqv_flA h1 h2]
      by_cases h : x = y <;> simp [h]
def prD (p : Int × Int) : PyData := .tuple [.int p.1, .int p.2]
theorem ok_pr {k : Nat} {p : Int × Int} : okD (k + 1) (prD p) := ok_T (okA_cons ok_i (okA_cons ok_i okA_nil))
theorem dpPairsL {K : PySem.W.Frag} {H : Hp} : ∀ {vs : List V} {xs : List (Int × Int)}, Imms H vs xs → DpAll K H vs (xs.map prD)
  | _, _, .nil => .nil
  | _, _, .cons ⟨p, u, w, e, h, h1, h2⟩ r => by
    have h1 : u = _ := h1
    have h2 : w = _ := h2
    subst h1 h2 e
    exact .cons (.tup (SqT.of h) (.cons (.int _) (.cons (.int _) .nil))) (dpPairsL r)
theorem dpPairs {K : PySem.W.Frag} {H : Hp} {p : Addr} {xs : List (Int × Int)} (h : ∃ vs, H p = some (.lst vs) ∧ Imms H vs xs) : Dp K H (.ref p) (.list (xs.map prD)) := by
  obtain ⟨vs, h1, h2⟩ := h
  exact .lst (SqL.of h1) (dpPairsL h2)
theorem eqv_prA : ∀ xs ys : List (Int × Int), PyData.eqvAll (xs.map prD) (ys.map prD) = decide (xs = ys)
  | [], [] => by simp [PyData.eqvAll]
  | [], _ :: _ => by simp [PyData.eqvAll]
  | _ :: _, [] => by simp [PyData.eqvAll]
  | (a, b) :: r, (c, d) :: q => by
    simp only [List.map_cons, PyData.eqvAll, eqv_prA r q, prD, PyData.eqv]
    by_cases h : a = c <;> by_cases h2 : b = d <;> by_cases h3 : r = q <;> simp [h, h2, h3]
theorem eqv_prs (xs ys : List (Int × Int)) : PyData.eqv (.list (xs.map prD)) (.list (ys.map prD)) = decide (xs = ys) := by
  rw [PyData.eqv]; exact eqv_prA xs ys
theorem imms_of {H : Hp} : ∀ {ls : List V} {l : List (Int × Int)}, Tups H ls (sentT l) → Imms H ls l
  | _, [], .nil => .nil
  | _, x :: r, .cons ⟨t, e, h⟩ q => .cons ⟨t, _, _, e, h, rfl, rfl⟩ (imms_of (l := r) q)
theorem dpBools {K : PySem.W.Frag} {H : Hp} {p : Addr} {xs : List Bool} (h : H p = some (.lst (xs.map Sc.v))) : Dp K H (.ref p) (.list (xs.map PyData.bool)) := by
  refine .lst (SqL.of h) ?_
  clear h
  induction xs with
  | nil => exact .nil
  | cons x r ih => exact .cons (.bl x) ih
theorem eqv_bs (xs ys : List Bool) : PyData.eqv (.list (xs.map PyData.bool)) (.list (ys.map PyData.bool)) = decide (xs = ys) := by
  rw [PyData.eqv]
  induction xs generalizing ys with
  | nil => cases ys <;> simp [PyData.eqvAll]
  | cons x r ih =>
    cases ys with
    | nil => simp [PyData.eqvAll]
    | cons y q =>
      simp only [List.map_cons, PyData.eqvAll, eqv_b, ih q]
      by_cases h : x = y <;> by_cases h2 : r = q <;> simp [h, h2]
theorem isi_st {K : PySem.W.Frag} {H : Hp} {v : V} {o : Option (List V)} (h : Imm.at_ H v o) : ∃ t, TyX K H v t ∧ PySem.W.kitOne K t (.type "bool") = some false := by
  cases o with
  | none =>
    rw [show v = .non from h]
    exact ⟨_, .base .non, kit_ty (by decide +kernel)⟩
  | some xs =>
    obtain ⟨p, e, ht⟩ := (show Imm.at_ H v xs from h)
    rw [e]
    exact ⟨_, .base (.tup ht), kit_ty (by decide +kernel)⟩
theorem dIn {o : Option Int} : V.bl ((o.map V.int).isSome) = V.bl (decide (o.isSome = true)) := by cases o <;> rfl
theorem dInN {o : Option Int} : V.bl (!(o.map V.int).isSome) = V.bl (decide (o.isSome = false)) := by cases o <;> rfl
def updI (a b : List (Int × Int)) : List (Int × Int) := b.foldl (fun acc p => putI acc p.1 p.2) a
theorem valV_c {k x : Int} {v : V} {r : List (Key × V)} : valV (((Sum.inl k : Key), v) :: r) (Sum.inl x : Key) = if x = k then some v else valV r (Sum.inl x : Key) := by
  by_cases h : x = k
  · rw [if_pos h]; exact valV_pos (by rw [h])
  · rw [if_neg h]; exact valV_neg (fun z => h (Sum.inl.inj z).symm)
theorem eqv_osi (xs : List (Option Int)) (ys : List Int) : PyData.eqv (.list (xs.map optD')) (.list (ys.map PyData.int)) = decide (xs = ys.map some) := by
  rw [← eqv_os xs (ys.map some), List.map_map]; rfl
theorem eqv_ios (xs : List Int) (ys : List (Option Int)) : PyData.eqv (.list (xs.map PyData.int)) (.list (ys.map optD')) = decide (xs.map some = ys) := by
  rw [← eqv_os (xs.map some) ys, List.map_map]; rfl
instance : Decidable (CPow i j) := by unfold CPow; infer_instance
theorem dpApp {K : PySem.W.Frag} {H : Hp} : ∀ {vs ws : List V} {ds es : List PyData}, DpAll K H vs ds → DpAll K H ws es → DpAll K H (vs ++ ws) (ds ++ es)
  | _, _, _, _, .nil, h => h
  | _, _, _, _, .cons h r, h2 => .cons h (dpApp r h2)
theorem okA_app {k : Nat} {ds es : List PyData} (h : okA k ds) (r : okA k es) : okA k (ds ++ es) := fun e he => by
  rcases List.mem_append.mp he with z | z
  · exact h e z
  · exact r e z
theorem eqvApp : ∀ {ps qs : List PyData} {P : Prop} [Decidable P] {xs ys : List Int}, ps.length = qs.length → PyData.eqvAll ps qs = decide P → PyData.eqvAll (ps ++ xs.map PyData.int) (qs ++ ys.map PyData.int) = decide (P ∧ xs = ys)
  | [], [], P, _, xs, ys, _, h => by
    have hp : P := of_decide_eq_true (by rw [← h]; simp [PyData.eqvAll])
    rw [List.nil_append, List.nil_append, eqv_ints]
    by_cases c : xs = ys <;> simp [c, hp]
  | [], _ :: _, _, _, _, _, l, _ => by simp at l
  | _ :: _, [], _, _, _, _, l, _ => by simp at l
  | p :: ps, q :: qs, P, _, xs, ys, l, h => by
    have ih := eqvApp (ps := ps) (qs := qs) (P := PyData.eqvAll ps qs = true) (xs := xs) (ys := ys) (by simpa using l) (by simp)
    simp only [List.cons_append, PyData.eqvAll] at h ⊢
    rw [ih]
    by_cases a : PyData.eqv p q = true <;> by_cases b : PyData.eqvAll ps qs = true <;> by_cases c : xs = ys <;> simp_all
theorem opt_scal {H : Hp} {v w : V} {a b : Option Int} (h : Imm.at_ H v a) (g : Imm.at_ H w b) : scal v w = true := by
  cases a <;> cases b <;> (cases h; cases g; rfl)
theorem opt_iff {H : Hp} {v w : V} {a b : Option Int} (h : Imm.at_ H v a) (g : Imm.at_ H w b) : v = w ↔ a = b := by
  cases a <;> cases b <;> cases h <;> cases g
  · exact ⟨fun _ => rfl, fun _ => rfl⟩
  · exact ⟨fun z => (by cases z), fun z => (by cases z)⟩
  · exact ⟨fun z => (by cases z), fun z => (by cases z)⟩
  · exact ⟨fun z => (by cases z; rfl), fun z => (by cases z; rfl)⟩
theorem opt_eqd {H : Hp} {v w : V} {a b : Option Int} (h : Imm.at_ H v a) (g : Imm.at_ H w b) : V.bl (decide (v = w)) = V.bl (decide (a = b)) := congrArg V.bl (decide_eq_decide.mpr (opt_iff h g))
theorem opt_neqd {H : Hp} {v w : V} {a b : Option Int} (h : Imm.at_ H v a) (g : Imm.at_ H w b) : V.bl (!decide (v = w)) = V.bl (decide (¬ a = b)) := by rw [decide_not, decide_eq_decide.mpr (opt_iff h g)]
/-! answers of several ways -/
def altO {α β γ : Type} (s : α ⊕ β) (f : α → Option γ) (g : β → Option γ) : Option γ := match s with | .inl a => f a | .inr b => g b
theorem alt_l {α β γ : Type} {s : α ⊕ β} {f : α → Option γ} {g : β → Option γ} {o : Option γ} {a : α} (h : s = .inl a) (e : altO s f g = o) : f a = o := by subst h; exact e
theorem alt_r {α β γ : Type} {s : α ⊕ β} {f : α → Option γ} {g : β → Option γ} {o : Option γ} {b : β} (h : s = .inr b) (e : altO s f g = o) : g b = o := by subst h; exact e
theorem dBb2 {a b a' b' : Bool} (ha : V.bl a' = V.bl a) (hb : V.bl b' = V.bl b) : V.bl (decide (V.bl a' = V.bl b')) = V.bl (decide (a = b)) := by rw [ha, hb]; exact dBb
theorem dnBb2 {a b a' b' : Bool} (ha : V.bl a' = V.bl a) (hb : V.bl b' = V.bl b) : V.bl (!decide (V.bl a' = V.bl b')) = V.bl (decide (¬ a = b)) := by rw [ha, hb]; exact dnBb

def Digs (ds : List Int) : Prop := ∀ d ∈ ds, 0 ≤ d ∧ d < 1009
theorem Digs.snoc {ds : List Int} (h : Digs ds) {d : Int} (h0 : 0 ≤ d ∧ d < 1009) : Digs (ds ++ [d]) := fun x hx => by
  rcases List.mem_append.mp hx with z | z
  · exact h x z
  · rw [List.mem_singleton.mp z]; exact h0

/-! ### loops of the mirrors, in plain words -/
theorem forS_inv {α σ : Type} {f : α → σ → Option σ} {xs : List α} {s : σ} (P : Nat → σ → Prop) (h0 : P 0 s) (hs : ∀ i x s, xs[i]? = some x → P i s → ∃ s', f x s = some s' ∧ P (i + 1) s') : ∃ s', forS f xs s = some s' ∧ P xs.length s' := by
  induction xs generalizing s P with
  | nil => exact ⟨s, rfl, h0⟩
  | cons x r ih =>
    obtain ⟨s1, e1, p1⟩ := hs 0 x s rfl h0
    obtain ⟨s2, e2, p2⟩ := ih (s := s1) (fun i => P (i + 1)) p1 fun i y s hy hp => hs (i + 1) y s (by simpa using hy) hp
    refine ⟨s2, ?_, p2⟩
    show (f x s).bind (forS f r) = _
    rw [e1]; exact e2
theorem forC_inv {α σ ρ : Type} {f : α → σ → Option (Ctl ρ σ)} {xs : List α} {s : σ} (P : Nat → σ → Prop) (h0 : P 0 s) (hs : ∀ i x s, xs[i]? = some x → P i s → ∃ s', f x s = some (.nx s') ∧ P (i + 1) s') : ∃ s', forC f xs s = some (.nx s') ∧ P xs.length s' := by
  induction xs generalizing s P with
  | nil => exact ⟨s, rfl, h0⟩
  | cons x r ih =>
    obtain ⟨s1, e1, p1⟩ := hs 0 x s rfl h0
    obtain ⟨s2, e2, p2⟩ := ih (s := s1) (fun i => P (i + 1)) p1 fun i y s hy hp => hs (i + 1) y s (by simpa using hy) hp
    refine ⟨s2, ?_, p2⟩
    show ((f x s).bind fun c => _) = _
    rw [e1]; exact e2
theorem bnd_of {α β : Type} {o : Option α} {f : α → Option β} {x : α} {r : Option β} (h : o = some x) (e : f x = r) : o.bind f = r := by rw [h]; exact e
theorem thenC_nx {ρ σ τ : Type} {o : Option (Ctl ρ σ)} {fr : ρ → Option τ} {k : σ → Option τ} {s : σ} {x : Option τ} (h : o = some (.nx s)) (e : k s = x) : thenC o fr k = x := by rw [h]; exact e
theorem snoc_ok {α : Type} {xs : List α} {x : α} (h : xs.length < 16000000) : snoc xs x = some (xs ++ [x]) := if_pos h
theorem catL_ok {α : Type} {xs ys : List α} (h : xs.length + ys.length < 16000000) : catL xs ys = some (xs ++ ys) := if_pos h
theorem repL_one {α : Type} {x : α} {n : Int} (h0 : 0 ≤ n) (h : n < 16000000) : repL [x] n = some (List.replicate n.toNat x) := by
  unfold repL
  rw [if_pos ⟨by omega, by omega, by show 1 * n.toNat < 16000000; omega⟩]
  congr 1
  generalize n.toNat = m
  induction m with
  | zero => rfl
  | succ m ih => rw [List.replicate_succ, List.flatten_cons, ih, List.replicate_succ]; rfl
theorem atI_ok {α : Type} {xs : List α} {i : Nat} {x : α} (h : xs[i]? = some x) : atI xs (i : Int) = some x := atI_nat h
theorem atI_z {α : Type} {xs : List α} {i : Int} {x : α} (h0 : 0 ≤ i) (h : xs[i.toNat]? = some x) : atI xs i = some x := by
  have := atI_nat (xs := xs) h
  rwa [show ((i.toNat : Nat) : Int) = i by omega] at this
theorem dg_at {ds : List Int} {n : Nat} (hl : ds.length = n) (hd : Digs ds) (i : Int) (h0 : 0 ≤ i) (hi : i < n) : ∃ d, atI ds i = some d ∧ 0 ≤ d ∧ d < 1009 := by
  have hlt : i.toNat < ds.length := by omega
  exact ⟨ds[i.toNat], atI_z h0 (List.getElem?_eq_getElem hlt), hd _ (List.getElem_mem _)⟩
theorem range_mem {lo : Int} {n i : Nat} {x : Int} (h : (rangeL lo n)[i]? = some x) : x = lo + (i : Int) ∧ i < n := by
  have hl := (List.getElem?_eq_some_iff.mp h).1
  rw [range_len] at hl
  rw [range_get hl] at h
  exact ⟨(Option.some.inj h).symm, hl⟩
theorem lineOk_nil : LineOk [] := by
  constructor <;> first | exact fun _ h => by cases h | simp
theorem LineOk.snoc {l : List (Int × Int)} {q : Int × Int} (h : LineOk l) (h1 : ∀ p ∈ l, p.1 < q.1) (h2 : 0 < q.1) (h3 : 0 ≤ q.2 ∧ q.2 < 4) : LineOk (l ++ [q]) := by
  refine ⟨?_, fun p hp => ?_, fun p hp => ?_⟩
  · rw [List.map_append]
    refine List.pairwise_append.mpr ⟨h.up, by simp, fun x hx y hy => ?_⟩
    obtain ⟨p, hp, rfl⟩ := List.mem_map.mp hx
    simp only [List.map_cons, List.map_nil, List.mem_singleton] at hy
    rw [hy]; exact h1 p hp
  · rcases List.mem_append.mp hp with z | z
    · exact h.pos p z
    · rw [List.mem_singleton.mp z]; exact h2
  · rcases List.mem_append.mp hp with z | z
    · exact h.val p z
    · rw [List.mem_singleton.mp z]; exact h3

/-! ### data of values that do not change: how they read, when two are alike -/
class Dat (α : Type) [Imm α] [DecidableEq α] where
  d : α → PyData
  b : α → Bool
  dep : Nat
  dp : ∀ {K : PySem.W.Frag} {H : Hp} {v : V} {x : α}, b x = true → Imm.at_ H v x → Dp K H v (d x)
  ok : ∀ {x : α} {k : Nat}, b x = true → dep ≤ k → okD k (d x)
  eq : ∀ {x y : α}, b x = true → b y = true → PyData.eqv (d x) (d y) = decide (x = y)
/-- none of them is None -/
class DatN (α : Type) [Imm α] [DecidableEq α] [Dat α] : Prop where
  n1 : ∀ x : α, PyData.eqv .none (Dat.d x) = false
  n2 : ∀ x : α, PyData.eqv (Dat.d x) .none = false
instance : Dat Int := ⟨.int, fun _ => true, 0, fun {_ _ v x} _ h => by rw [show v = .int x from h]; exact .int x, fun _ _ => ok_i, fun _ _ => eqv_i _ _⟩
instance : Dat Bool := ⟨.bool, fun _ => true, 0, fun {_ _ v x} _ h => by rw [show v = .bl x from h]; exact .bl x, fun _ _ => ok_b, fun _ _ => eqv_b _ _⟩
instance : Dat Str := ⟨.str, PyData.strOk, 0, fun {_ _ v x} _ h => by rw [show v = .str x from h]; exact .str x, fun h _ => ok_s h, fun _ _ => eqv_s _ _⟩
instance : DatN Int := ⟨fun _ => by simp [Dat.d, PyData.eqv], fun _ => by simp [Dat.d, PyData.eqv]⟩
instance : DatN Bool := ⟨fun _ => by simp [Dat.d, PyData.eqv], fun _ => by simp [Dat.d, PyData.eqv]⟩
instance : DatN Str := ⟨fun _ => by simp [Dat.d, PyData.eqv], fun _ => by simp [Dat.d, PyData.eqv]⟩
theorem okD_up {d : PyData} {j k : Nat} (h : okD j d) (l : j ≤ k) : okD k d := ⟨h.1, Nat.le_trans h.2 l⟩
instance {α : Type} [Imm α] [DecidableEq α] [Dat α] [DatN α] : Dat (Option α) where
  d := fun o => match o with
    | none => .none
    | some x => Dat.d x
  b := fun o => match o with
    | none => true
    | some x => Dat.b x
  dep := Dat.dep α
  dp := fun {_ _ v x} g h => by
    cases x with
    | none => rw [show v = .non from h]; exact .non
    | some y => exact Dat.dp g h
  ok := fun {x _} g l => by
    cases x with
    | none => exact ok_n
    | some y => exact Dat.ok g l
  eq := fun {x y} g1 g2 => by
    cases x with
    | none => cases y with
      | none => simp [PyData.eqv]
      | some y => exact (DatN.n1 y).trans (by simp)
    | some x => cases y with
      | none => exact (DatN.n2 x).trans (by simp)
      | some y => exact (Dat.eq g1 g2).trans (by simp)
theorem and_bb {a b : Bool} (h : (a && b) = true) : a = true ∧ b = true := by simpa using h
theorem ok_T2 {k : Nat} {x y : PyData} (h1 : okD k x) (h2 : okD k y) : okD (k + 1) (.tuple [x, y]) := ok_T (okA_cons h1 (okA_cons h2 okA_nil))
instance {α β : Type} [Imm α] [Imm β] [DecidableEq α] [DecidableEq β] [Dat α] [Dat β] : Dat (α × β) where
  d := fun x => .tuple [Dat.d x.1, Dat.d x.2]
  b := fun x => Dat.b x.1 && Dat.b x.2
  dep := max (Dat.dep α) (Dat.dep β) + 1
  dp := fun {_ _ v x} g h => by
    obtain ⟨g1, g2⟩ := and_bb g
    obtain ⟨p, u, w, e, ht, a, b⟩ := h
    rw [e]; exact .tup (SqT.of ht) (.cons (Dat.dp g1 a) (.cons (Dat.dp g2 b) .nil))
  ok := fun {x k} g l => by
    obtain ⟨g1, g2⟩ := and_bb g
    obtain ⟨j, rfl⟩ : ∃ j, k = j + 1 := ⟨k - 1, by omega⟩
    exact ok_T2 (Dat.ok g1 (by omega)) (Dat.ok g2 (by omega))
  eq := fun {x y} g1 g2 => by
    obtain ⟨a1, a2⟩ := and_bb g1
    obtain ⟨b1, b2⟩ := and_bb g2
    refine (eqvT (eqvC (Dat.eq a1 b1) (eqvC (Dat.eq a2 b2) eqvN))).trans (decide_eq_decide.mpr ⟨fun h => ?_, fun h => ?_⟩)
    · exact Prod.ext h.1 h.2.1
    · subst h; exact ⟨rfl, rfl, trivial⟩
instance {α β : Type} [Imm α] [Imm β] [DecidableEq α] [DecidableEq β] [Dat α] [Dat β] : DatN (α × β) := ⟨fun _ => by simp [Dat.d, PyData.eqv], fun _ => by simp [Dat.d, PyData.eqv]⟩
instance {α β γ : Type} [Imm α] [Imm β] [Imm γ] [DecidableEq α] [DecidableEq β] [DecidableEq γ] [Dat α] [Dat β] [Dat γ] : Dat (T3 α β γ) where
  d := fun x => .tuple [Dat.d x.a, Dat.d x.b, Dat.d x.c]
  b := fun x => Dat.b x.a && (Dat.b x.b && Dat.b x.c)
  dep := max (Dat.dep α) (max (Dat.dep β) (Dat.dep γ)) + 1
  dp := fun {_ _ v x} g h => by
    obtain ⟨g1, g2⟩ := and_bb g
    obtain ⟨g2, g3⟩ := and_bb g2
    obtain ⟨p, u, w, z, e, ht, a, b, c⟩ := h
    rw [e]; exact .tup (SqT.of ht) (.cons (Dat.dp g1 a) (.cons (Dat.dp g2 b) (.cons (Dat.dp g3 c) .nil)))
  ok := fun {x k} g l => by
    obtain ⟨g1, g2⟩ := and_bb g
    obtain ⟨g2, g3⟩ := and_bb g2
    obtain ⟨j, rfl⟩ : ∃ j, k = j + 1 := ⟨k - 1, by omega⟩
    exact ok_T (okA_cons (Dat.ok g1 (by omega)) (okA_cons (Dat.ok g2 (by omega)) (okA_cons (Dat.ok g3 (by omega)) okA_nil)))
  eq := fun {x y} g1 g2 => by
    obtain ⟨a1, a2⟩ := and_bb g1
    obtain ⟨a2, a3⟩ := and_bb a2
    obtain ⟨b1, b2⟩ := and_bb g2
    obtain ⟨b2, b3⟩ := and_bb b2
    refine (eqvT (eqvC (Dat.eq a1 b1) (eqvC (Dat.eq a2 b2) (eqvC (Dat.eq a3 b3) eqvN)))).trans (decide_eq_decide.mpr ⟨fun h => ?_, fun h => ?_⟩)
    · obtain ⟨h1, h2, h3, _⟩ := h
      cases x; cases y
      exact T3.mk.injEq .. ▸ ⟨h1, h2, h3⟩
    · subst h; exact ⟨rfl, rfl, rfl, trivial⟩
instance {α β γ : Type} [Imm α] [Imm β] [Imm γ] [DecidableEq α] [DecidableEq β] [DecidableEq γ] [Dat α] [Dat β] [Dat γ] : DatN (T3 α β γ) := ⟨fun _ => by simp [Dat.d, PyData.eqv], fun _ => by simp [Dat.d, PyData.eqv]⟩
/-- flat tuples -/
def fxD : V → PyData
  | .int i => .int i
  | .str s => .str s
  | _ => .none
def fxOk : V → Bool
  | .int _ => true
  | .str s => PyData.strOk s
  | .non => true
  | _ => false
theorem fxOk_fl {v : V} (h : flOk v = true) : fxOk v = true := by cases v <;> first | exact h | cases h
theorem fx_fl {xs : List V} (h : xs.all flOk = true) : xs.all fxOk = true := List.all_eq_true.mpr fun v hv => fxOk_fl (List.all_eq_true.mp h v hv)
theorem dp_fxA {K : PySem.W.Frag} {H : Hp} : ∀ {st : List V}, st.all fxOk = true → DpAll K H st (st.map fxD)
  | [], _ => .nil
  | v :: r, h => by
    simp only [List.all_cons, Bool.and_eq_true] at h
    obtain ⟨h1, h2⟩ := h
    refine .cons ?_ (dp_fxA h2)
    cases v <;> first | exact .int _ | exact .str _ | exact .non | cases h1
theorem eqv_fx {x y : V} (hx : fxOk x = true) (hy : fxOk y = true) : PyData.eqv (fxD x) (fxD y) = decide (x = y) := by
  cases x <;> first | cases hx; done | skip
  all_goals cases y <;> first | cases hy; done | skip
  all_goals simp only [fxD, PyData.eqv]
  all_goals first | (rename_i a b; by_cases h : a = b <;> simp [h]) | simp
theorem eqv_fxA : ∀ {xs ys : List V}, xs.all fxOk = true → ys.all fxOk = true → PyData.eqvAll (xs.map fxD) (ys.map fxD) = decide (xs = ys)
  | [], [], _, _ => by simp [PyData.eqvAll]
  | [], _ :: _, _, _ => by simp [PyData.eqvAll]
  | _ :: _, [], _, _ => by simp [PyData.eqvAll]
  | x :: r, y :: q, h1, h2 => by
    simp only [List.all_cons, Bool.and_eq_true] at h1 h2
    simp only [List.map_cons, PyData.eqvAll, eqv_fx h1.1 h2.1, eqv_fxA h1.2 h2.2]
    by_cases h : x = y <;> by_cases h2 : r = q <;> simp [h, h2]
instance : Dat (List V) where
  d := fun xs => .tuple (xs.map fxD)
  b := fun xs => xs.all fxOk
  dep := 1
  dp := fun {_ _ v x} g h => by
    obtain ⟨p, e, ht⟩ := h
    rw [e]; exact .tup (SqT.of ht) (dp_fxA g)
  ok := fun {x k} g l => by
    obtain ⟨j, rfl⟩ : ∃ j, k = j + 1 := ⟨k - 1, by omega⟩
    refine ok_T fun d hd => ?_
    obtain ⟨v, hv, rfl⟩ := List.mem_map.mp hd
    have := List.all_eq_true.mp g v hv
    cases v <;> first | exact ok_i | exact ok_s this | exact ok_n | cases this
  eq := fun {x y} g1 g2 => by rw [PyData.eqv]; exact eqv_fxA g1 g2
instance : DatN (List V) := ⟨fun _ => by simp [Dat.d, PyData.eqv], fun _ => by simp [Dat.d, PyData.eqv]⟩
section
variable {α : Type} [Imm α] [DecidableEq α] [Dat α]
theorem dpDatA {K : PySem.W.Frag} {H : Hp} : ∀ {vs : List V} {xs : List α}, xs.all Dat.b = true → Imms H vs xs → DpAll K H vs (xs.map Dat.d)
  | _, _, _, .nil => .nil
  | _, _, g, .cons h r => by
    simp only [List.all_cons, Bool.and_eq_true] at g
    exact .cons (Dat.dp g.1 h) (dpDatA g.2 r)
theorem dpDatL {K : PySem.W.Frag} {H : Hp} {p : Addr} {xs : List α} (g : xs.all Dat.b = true) (h : ∃ vs, H p = some (.lst vs) ∧ Imms H vs xs) : Dp K H (.ref p) (.list (xs.map Dat.d)) := by
  obtain ⟨vs, e, i⟩ := h
  exact .lst (SqL.of e) (dpDatA g i)
theorem okDatL {xs : List α} {k : Nat} (g : xs.all Dat.b = true) (l : Dat.dep α ≤ k) : okD (k + 1) (.list (xs.map (Dat.d (α := α)))) := ok_L fun d hd => by
  obtain ⟨v, hv, rfl⟩ := List.mem_map.mp hd
  exact Dat.ok (List.all_eq_true.mp g v hv) l
theorem eqvDatA : ∀ {xs ys : List α}, xs.all Dat.b = true → ys.all Dat.b = true → PyData.eqvAll (xs.map Dat.d) (ys.map Dat.d) = decide (xs = ys)
  | [], [], _, _ => by simp [PyData.eqvAll]
  | [], _ :: _, _, _ => by simp [PyData.eqvAll]
  | _ :: _, [], _, _ => by simp [PyData.eqvAll]
  | x :: r, y :: q, h1, h2 => by
    simp only [List.all_cons, Bool.and_eq_true] at h1 h2
    simp only [List.map_cons, PyData.eqvAll, Dat.eq h1.1 h2.1, eqvDatA h1.2 h2.2]
    by_cases h : x = y <;> by_cases h2 : r = q <;> simp [h, h2]
theorem eqvDatL {xs ys : List α} (h1 : xs.all Dat.b = true) (h2 : ys.all Dat.b = true) : PyData.eqv (.list (xs.map Dat.d)) (.list (ys.map Dat.d)) = decide (xs = ys) := by
  rw [PyData.eqv]; exact eqvDatA h1 h2
end
theorem optS_scal {H : Hp} {v w : V} {a b : Option Str} (h : Imm.at_ H v a) (g : Imm.at_ H w b) : scal v w = true := by
  cases a <;> cases b <;> (cases h; cases g; rfl)
theorem optS_iff {H : Hp} {v w : V} {a b : Option Str} (h : Imm.at_ H v a) (g : Imm.at_ H w b) : v = w ↔ a = b := by
  cases a <;> cases b <;> cases h <;> cases g
  · exact ⟨fun _ => rfl, fun _ => rfl⟩
  · exact ⟨fun z => (by cases z), fun z => (by cases z)⟩
  · exact ⟨fun z => (by cases z), fun z => (by cases z)⟩
  · exact ⟨fun z => (by cases z; rfl), fun z => (by cases z; rfl)⟩
theorem optS_eqd {H : Hp} {v w : V} {a b : Option Str} (h : Imm.at_ H v a) (g : Imm.at_ H w b) : V.bl (decide (v = w)) = V.bl (decide (a = b)) := congrArg V.bl (decide_eq_decide.mpr (optS_iff h g))
theorem optS_neqd {H : Hp} {v w : V} {a b : Option Str} (h : Imm.at_ H v a) (g : Imm.at_ H w b) : V.bl (!decide (v = w)) = V.bl (decide (¬ a = b)) := by rw [decide_not, decide_eq_decide.mpr (optS_iff h g)]
theorem if_chain {P R : Prop} [Decidable P] [Decidable R] {A : Prop} {Q : VK} {H : Hp} (q : Q (.bl (decide (P ∧ R))) H) (h1 : P → Q (.bl (decide R)) H → A) : if decide P = true then A else Q (.bl false) H := by
  by_cases h : P
  · rw [if_pos (decide_eq_true h)]
    refine h1 h ?_
    rwa [show decide (P ∧ R) = decide R from decide_eq_decide.mpr ⟨fun z => z.2, fun z => ⟨h, z⟩⟩] at q
  · rw [if_neg (by rw [decide_eq_false h]; simp)]
    rwa [show decide (P ∧ R) = false from decide_eq_false fun z => h z.1] at q
theorem if_chainT {P R : Prop} [Decidable P] [Decidable R] {A : Prop} {Q : Bool → Hp → Prop} {H : Hp} (q : ∃ b, V.bl (decide (P ∧ R)) = .bl b ∧ Q b H) (h1 : P → (∃ b, V.bl (decide R) = .bl b ∧ Q b H) → A) : if decide P = true then A else ∃ b, V.bl false = .bl b ∧ Q b H :=
  if_chain (Q := fun v H => ∃ b, v = .bl b ∧ Q b H) q h1
/-! ### the name of a deed -/
def nameO (k : Nat) : Option Str := if k < 23 then some (nameS k) else none
theorem im_name {H : Hp} (k : Nat) : Imm.at_ H (nameV k) (nameO k) := by
  unfold nameV nameO
  split <;> rfl
/-! ### dicts with other keys and values -/
abbrev boolK (l : List (Int × Bool)) : List (Key × V) := l.map fun p => (Sum.inl p.1, V.bl p.2)

/-! ### loops over enumerate, over a dict's keys -/
theorem for_enumN {K : PySem.W.Frag} {a : Addr} {xs : List V} {g : TG} {tb : TS} {nx : L2.St → Hp → Prop} {rt : VK} {σ : L2.St} {H : Hp} (Pv : Nat → L2.St → Hp → Prop) (h0 : Pv 0 σ H) (hl : ∀ i σ H, i ≤ xs.length → Pv i σ H → SqL K H a xs)
    (hs : ∀ i x T σ H, xs[i]? = some x → Pv i σ H → H T = none → g (.ref T) σ (upd H T (.tup [.int (i : Nat), x])) fun σ2 H2 => tb { nx := Pv (i + 1), rt := rt, bk := nx, ct := Pv (i + 1) } σ2 H2) (hd : ∀ σ H, Pv xs.length σ H → nx σ H) :
    ∃ W : Nat → Nat → L2.St → Hp → Prop, (∃ m, W 0 m σ H) ∧ ∀ i m σ H, W i m σ H →
      ((Ite K a).stop i H ∧ nx σ H) ∨ ((Ite K a).go i H ∧ ∃ N : L2.St → Hp → Prop, (∀ σ' H', N σ' H' → ∃ m', m' < m ∧ W (i + 1) m' σ' H') ∧ ∀ x H', (Ite K a).yld i H x H' → g x σ H' fun σ2 H2 => tb { nx := N, rt := rt, bk := nx, ct := N } σ2 H2) := by
  refine ⟨fun i m σ H => m = xs.length - i ∧ i ≤ xs.length ∧ Pv i σ H, ⟨xs.length, by simp, Nat.zero_le _, h0⟩, ?_⟩
  rintro i m σ H ⟨rfl, hi, p⟩
  have q := hl i σ H hi p
  by_cases hlt : i < xs.length
  · refine .inr ⟨⟨xs, xs[i], q, by simp [hlt]⟩, Pv (i + 1), fun σ' H' p' => ⟨xs.length - (i + 1), by omega, rfl, hlt, p'⟩, fun v H' y => ?_⟩
    obtain ⟨T, x, ev, nT, eH, hx⟩ := y
    subst ev eH
    exact hs i x T σ H (hx xs q) p nT
  · have e : i = xs.length := by omega
    subst e
    exact .inl ⟨⟨xs, q, Nat.le_refl _⟩, hd σ H p⟩
theorem for_keysN {d : Addr} {o : Obj} {kvs : List (Key × V)} {g : TG} {tb : TS} {nx : L2.St → Hp → Prop} {rt : VK} {σ : L2.St} {H : Hp} (Pv : Nat → L2.St → Hp → Prop) (h0 : Pv 0 σ H) (hl : ∀ i σ H, i ≤ kvs.length → Pv i σ H → H d = some (.frz o (.dK kvs)))
    (hs : ∀ i k v σ H, kvs[i]? = some (k, v) → Pv i σ H → g (kV k) σ H fun σ2 H2 => tb { nx := Pv (i + 1), rt := rt, bk := nx, ct := Pv (i + 1) } σ2 H2) (hd : ∀ σ H, Pv kvs.length σ H → nx σ H) :
    ∃ W : Nat → Nat → L2.St → Hp → Prop, (∃ m, W 0 m σ H) ∧ ∀ i m σ H, W i m σ H →
      ((Itk d o kvs).stop i H ∧ nx σ H) ∨ ((Itk d o kvs).go i H ∧ ∃ N : L2.St → Hp → Prop, (∀ σ' H', N σ' H' → ∃ m', m' < m ∧ W (i + 1) m' σ' H') ∧ ∀ x H', (Itk d o kvs).yld i H x H' → g x σ H' fun σ2 H2 => tb { nx := N, rt := rt, bk := nx, ct := N } σ2 H2) := by
  refine ⟨fun i m σ H => m = kvs.length - i ∧ i ≤ kvs.length ∧ Pv i σ H, ⟨kvs.length, by simp, Nat.zero_le _, h0⟩, ?_⟩
  rintro i m σ H ⟨rfl, hi, p⟩
  have q := hl i σ H hi p
  by_cases hlt : i < kvs.length
  · refine .inr ⟨⟨q, hlt⟩, Pv (i + 1), fun σ' H' p' => ⟨kvs.length - (i + 1), by omega, rfl, hlt, p'⟩, fun x H' y => ?_⟩
    obtain ⟨eH, k, v, hk, ex⟩ := y
    subst eH ex
    exact hs i k v σ _ hk p
  · have e : i = kvs.length := by omega
    subst e
    exact .inl ⟨⟨q, Nat.le_refl _⟩, hd σ H p⟩
def enumL {α : Type} (xs : List α) : List (Int × α) := xs.zipIdx.map fun p => ((p.2 : Int), p.1)
theorem enumL_get {α : Type} {xs : List α} {i : Nat} {x : α} (h : xs[i]? = some x) : (enumL xs)[i]? = some ((i : Int), x) := by
  unfold enumL
  rw [List.getElem?_map, List.getElem?_zipIdx, h]; simp
theorem enumL_len {α : Type} {xs : List α} : (enumL xs).length = xs.length := by unfold enumL; simp
theorem keyI_get {l : List (Int × Int)} {i : Nat} {k : Key} {v : V} (h : (lineK l)[i]? = some (k, v)) : ∃ x, (l.map (·.1))[i]? = some x ∧ k = Sum.inl x := by
  unfold lineK at h
  rw [List.getElem?_map] at h
  cases e : l[i]? with
  | none => rw [e] at h; cases h
  | some p =>
    rw [e] at h
    have h := Option.some.inj h
    exact ⟨p.1, by rw [List.getElem?_map, e]; rfl, (congrArg Prod.fst h).symm⟩
theorem imms_tc {H : Hp} : ∀ {ls : List V} {l : List (Str × Int)}, Tups H ls (tcT l) → Imms H ls l
  | _, [], .nil => .nil
  | _, _ :: _, .cons ⟨t, e, h⟩ r => .cons ⟨t, _, _, e, h, rfl, rfl⟩ (imms_tc r)
/-! ### dicts of truths -/
def lookB (l : List (Int × Bool)) (k : Int) : Option Bool := (l.find? fun p => decide (p.1 = k)).map (·.2)
def putB (l : List (Int × Bool)) (k : Int) (v : Bool) : List (Int × Bool) := if l.any (fun p => decide (p.1 = k)) then l.map (fun p => if p.1 = k then (k, v) else p) else l ++ [(k, v)]
theorem boolK_len (l : List (Int × Bool)) : (boolK l).length = l.length := List.length_map _
theorem valV_boolK : ∀ (l : List (Int × Bool)) (k : Int), valV (boolK l) (Sum.inl k : Key) = (lookB l k).map V.bl
  | [], _ => rfl
  | p :: r, k => by
    show valV (((Sum.inl p.1 : Key), V.bl p.2) :: boolK r) _ = _
    rw [valV_c, valV_boolK r k]
    unfold lookB
    rw [List.find?_cons]
    by_cases e : p.1 = k
    · rw [if_pos e.symm, decide_eq_true e]; rfl
    · rw [if_neg (fun z => e z.symm), decide_eq_false e]
theorem dInB {o : Option Bool} : V.bl ((o.map V.bl).isSome) = V.bl (decide (o.isSome = true)) := by cases o <;> rfl
theorem dInBN {o : Option Bool} : V.bl (!(o.map V.bl).isSome) = V.bl (decide (o.isSome = false)) := by cases o <;> rfl
theorem boolK_put (l : List (Int × Bool)) (k : Int) (v : Bool) : putK (boolK l) (Sum.inl k : Key) (.bl v) = boolK (putB l k v) := by
  have e : ((boolK l).any fun kv => decide (kv.1 = (Sum.inl k : Key))) = (l.any fun p => decide (p.1 = k)) := by
    show (l.map _).any _ = _
    rw [List.any_map]
    congr 1
    funext p
    exact decide_eq_decide.mpr ⟨fun h => Sum.inl.inj h, fun h => congrArg Sum.inl h⟩
  unfold putK putB
  rw [e]
  by_cases h : (l.any fun p => decide (p.1 = k)) = true
  · rw [if_pos h, if_pos h]
    show (l.map _).map _ = (l.map _).map _
    rw [List.map_map, List.map_map]
    refine List.map_congr_left fun p _ => ?_
    show (if (Sum.inl p.1 : Key) = Sum.inl k then _ else _) = ((Sum.inl (if p.1 = k then (k, v) else p).1 : Key), V.bl (if p.1 = k then (k, v) else p).2)
    by_cases c : p.1 = k
    · rw [if_pos (congrArg Sum.inl c), if_pos c]
      show ((Sum.inl p.1 : Key), V.bl v) = (Sum.inl k, V.bl v)
      rw [c]
    · rw [if_neg (fun z => c (Sum.inl.inj z)), if_neg c]
  · rw [if_neg h, if_neg h]
    show _ = (l ++ [(k, v)]).map _
    rw [List.map_append]; rfl
theorem Sep.putDB {S0 : List Addr} {H0 H : Hp} {L : List As} (h : Sep S0 H0 H L) (i : Nat) {p : Addr} {l : List (Int × Bool)} (e : nth L i = some (aC p (.dK (boolK l)))) (k : Int) (v : Bool) : Sep S0 H0 (upd H p (.dK (putK (boolK l) (Sum.inl k : Key) (.bl v)))) (setN L i [aC p (.dK (boolK (putB l k v)))]) := by
  rw [boolK_put]; exact h.putC i e trivial _
theorem imms_keys {α : Type} {H : Hp} (l : List (Int × α)) {f : α → V} : Imms H ((l.map fun p => ((Sum.inl p.1 : Key), f p.2)).map fun kv => kV kv.1) (l.map (·.1)) := by
  induction l with
  | nil => exact .nil
  | cons p r ih => exact .cons rfl ih
theorem stop_im {H : Hp} {v : V} {o : Option (List V)} (h : Imm.at_ H v o) : StopV H v o := by
  cases o with
  | none => exact h
  | some xs => exact h
theorem in_str {x : Str} {xs : List Str} : V.bl (if false = true then !inV (.str x) (xs.map V.str) else inV (.str x) (xs.map V.str)) = V.bl (decide (x ∈ xs)) := by
  rw [if_neg (by decide)]
  congr 1
  induction xs with
  | nil => rfl
  | cons y r ih =>
    show (eqV (.str y) (.str x) || inV (.str x) (r.map V.str)) = _
    rw [ih]
    have e : eqV (.str y) (.str x) = decide (y = x) := by unfold eqV; by_cases c : y = x <;> simp [c]
    rw [e]
    by_cases c : y = x <;> by_cases d : x ∈ r <;> simp [c, d, eq_comm (a := x) (b := y)]
theorem inN_str {x : Str} {xs : List Str} : V.bl (if true = true then !inV (.str x) (xs.map V.str) else inV (.str x) (xs.map V.str)) = V.bl (decide (x ∉ xs)) := by
  have h := in_str (x := x) (xs := xs)
  rw [if_neg (by decide)] at h
  rw [if_pos rfl, V.bl.inj h, decide_not]
/-! ### pop -/
def popL {α : Type} (xs : List α) : Option (α × List α) := xs[xs.length - 1]?.map fun x => (x, xs.dropLast)
theorem Imms.dropLast {α : Type} [Imm α] {H : Hp} : ∀ {vs : List V} {xs : List α}, Imms H vs xs → Imms H vs.dropLast xs.dropLast
  | _, _, .nil => .nil
  | _, _, .cons h .nil => .nil
  | _, _, .cons h (.cons h2 r) => .cons h (Imms.dropLast (.cons h2 r))
theorem popL_eq {α : Type} [Imm α] {H : Hp} {vs : List V} {xs : List α} {z : α × List α} (hv : Imms H vs xs) (h : popL xs = some z) : ∃ u, vs[vs.length - 1]? = some u ∧ Imm.at_ H u z.1 ∧ z.2 = xs.dropLast := by
  unfold popL at h
  cases e : xs[xs.length - 1]? with
  | none => rw [e] at h; cases h
  | some x =>
    rw [e] at h
    have h := Option.some.inj h
    obtain ⟨u, h1, h2⟩ := hv.nth e
    refine ⟨u, by rw [hv.length]; exact h1, ?_, ?_⟩
    · rw [← h]; exact h2
    · rw [← h]
def popZ {α : Type} : List α → Option (α × List α)
  | [] => none
  | x :: r => some (x, r)
theorem popZ_eq {α : Type} [Imm α] {H : Hp} {vs : List V} {xs : List α} {z : α × List α} (hv : Imms H vs xs) (h : popZ xs = some z) : ∃ u ws, vs = u :: ws ∧ Imm.at_ H u z.1 ∧ Imms H ws z.2 := by
  cases hv with
  | nil => cases h
  | cons a r =>
    have h := Option.some.inj h
    rw [← h]
    exact ⟨_, _, rfl, a, r⟩
theorem seqI0 {n : Nat} : seqIndex? 0 (n + 1) = some 0 := by
  unfold seqIndex?
  simp
/-! ### what a tuple's part may be, registers by their names, values of either kind -/
theorem noneIs : V.bl (decide ((V.non : V) = .non)) = V.bl (decide True) := by simp
theorem refIs {p : Addr} : V.bl (decide ((V.ref p : V) = .non)) = V.bl (decide False) := by simp
theorem refIsN {p : Addr} : V.bl (!decide ((V.ref p : V) = .non)) = V.bl (decide True) := by simp
theorem noneIsN : V.bl (!decide ((V.non : V) = .non)) = V.bl (decide False) := by simp
def tNeverE : TE := fun _ _ _ => False
theorem pe_neverE {X : Cx} {e : Expr} : PE X e tNeverE := ⟨fun _ _ _ _ _ _ h => h.elim⟩
def BD.regO (D : BD) (n : Str) : Option Int := if n = "a" then some D.a else if n = "b" then some D.b else if n = "pc" then some D.pc else if n = "sp" then some D.sp else none
theorem BoardAt.get_reg {K : PySem.W.Frag} {H : Hp} {A : BA} {D : BD} (B : BoardAt K H A D) {n : Str} {v : Int} (h : D.regO n = some v) : DGet H A.rg (.str n) (some (.int v)) := by
  unfold BD.regO at h
  split at h
  · rename_i e; subst e; cases h; exact B.get_a
  · split at h
    · rename_i e; subst e; cases h; exact B.get_b
    · split at h
      · rename_i e; subst e; cases h; exact B.get_pc
      · split at h
        · rename_i e; subst e; cases h; exact B.get_sp
        · cases h
instance : Imm V := ⟨fun _ v x => v = x, fun _ h => h⟩
instance : Sc V := ⟨id, Iff.rfl⟩
def flB : V → PyData
  | .int i => .int i
  | .bl b => .bool b
  | .str s => .str s
  | _ => .none
def flBok : V → Bool
  | .int _ => true
  | .bl _ => true
  | .str s => PyData.strOk s
  | _ => false
theorem dp_flB {K : PySem.W.Frag} {H : Hp} : ∀ {st : List V}, st.all flBok = true → DpAll K H st (st.map flB)
  | [], _ => .nil
  | v :: r, h => by
    simp only [List.all_cons, Bool.and_eq_true] at h
    obtain ⟨h1, h2⟩ := h
    refine .cons ?_ (dp_flB h2)
    cases v <;> first | exact .int _ | exact .str _ | exact .bl _ | cases h1
theorem dp_flBL {K : PySem.W.Frag} {H : Hp} {p : Addr} {xs : List V} (g : xs.all flBok = true) (h : H p = some (.lst xs)) : Dp K H (.ref p) (.list (xs.map flB)) := .lst (SqL.of h) (dp_flB g)
theorem ok_flB {k : Nat} {xs : List V} (g : xs.all flBok = true) : okD (k + 1) (.list (xs.map flB)) := ok_L fun d hd => by
  obtain ⟨v, hv, rfl⟩ := List.mem_map.mp hd
  have := List.all_eq_true.mp g v hv
  cases v <;> first | exact ok_i | exact ok_b | exact ok_s this | cases this
theorem eqv_flB {xs ys : List V} : PyData.eqv (.list (xs.map flB)) (.list (ys.map flB)) = decide (PyData.eqvAll (xs.map flB) (ys.map flB) = true) := by
  rw [PyData.eqv]; simp
theorem map_id_sc (xs : List V) : xs.map (Sc.v (α := V)) = xs := List.map_id xs
theorem dropSc {o : Option HO} {xs : List V} (h : o = some (.lst (xs.map (Sc.v (α := V))))) : o = some (.lst xs) := by rw [h, map_id_sc]
/-- a text of one sign -/
def oneS (s : Str) : Option Nat := match s.cps.toList with
  | [c] => some c
  | _ => none
theorem oneS_eq {s : Str} {c : Nat} (h : oneS s = some c) : s = ⟨#[c]⟩ := by
  unfold oneS at h
  split at h
  · rename_i c' e
    cases h
    have : s.cps = #[c] := by
      have := congrArg List.toArray e
      simpa using this
    cases s
    simp_all
  · cases h
theorem anyP {xs : List V} : xs = xs.map id := (List.map_id _).symm
/-- a def with written defaults, all of them taken -/
def OkD (P : Program) (w : World) (K : PySem.W.Frag) (mg : Str → Option Value) (base : Heap) (CX : CXT) (k : Nat) (f : Addr) (ps : List Str) (dvs : List V) (sp : Sp) : Prop :=
  ∃ fd ds, FnOk P w K mg base CX k f fd ps sp ∧ Vals dvs ds ∧ Binds K fd ps ds ∧ PySem.W.keepIn K (.ref f) = true
class NN (α : Type) [Imm α] : Prop where
  nn : ∀ (H : Hp) (x : α), ¬ Imm.at_ H .non x
instance {α β : Type} [Imm α] [Imm β] : NN (α × β) := ⟨fun _ _ ⟨_, _, _, e, _⟩ => by cases e⟩
instance {α β γ : Type} [Imm α] [Imm β] [Imm γ] : NN (T3 α β γ) := ⟨fun _ _ ⟨_, _, _, _, e, _⟩ => by cases e⟩
instance : NN Str := ⟨fun _ _ e => by cases e⟩
theorem opt_iffG {α : Type} [Imm α] [NN α] {H : Hp} {v : V} {o : Option α} (h : Imm.at_ H v o) : v = .non ↔ o = none := by
  cases o with
  | none => exact ⟨fun _ => rfl, fun _ => h⟩
  | some x => exact ⟨fun e => absurd (show Imm.at_ H .non x from e ▸ h) (NN.nn H x), fun e => by cases e⟩
theorem opt_decG {α : Type} [Imm α] [NN α] [DecidableEq α] {H : Hp} {v : V} {o : Option α} (h : Imm.at_ H v o) : V.bl (decide (v = .non)) = V.bl (decide (o = none)) := congrArg V.bl (decide_eq_decide.mpr (opt_iffG h))
theorem opt_decGN {α : Type} [Imm α] [NN α] [DecidableEq α] {H : Hp} {v : V} {o : Option α} (h : Imm.at_ H v o) : V.bl (!decide (v = .non)) = V.bl (decide (o ≠ none)) := by
  have e := opt_iffG h
  by_cases c : o = none
  · rw [decide_eq_false (show ¬ (o ≠ none) from fun z => z c), decide_eq_true (e.mpr c)]; rfl
  · rw [decide_eq_true (show o ≠ none from c), decide_eq_false (fun z => c (e.mp z))]; rfl
theorem ct_use {S0 : List Addr} {H0 H : Hp} {L : List As} {σ : L2.St} {c : TT} {b : Bool} {Q : Bool → Hp → Prop} (hs : Sep S0 H0 H L) (e : EvT S0 H0 L c σ b) (q : ∀ H', Sep S0 H0 H' L → Q b H') : c σ H Q := e H hs _ q
/-! ### list(range), sorted -/
instance (a b : Int) : Decidable (RgOk a b) := by unfold RgOk; infer_instance
theorem imms_rg {H : Hp} (a b : Int) : Imms H (rgV a b) (rangeL a (Int.toNat (b - a))) := by
  have e : rgV a b = (rangeL a (Int.toNat (b - a))).map Sc.v := by
    unfold rgV rangeL
    rw [List.map_map]
    rfl
  rw [e]; exact Imms.ofSc _
def sortI (xs : List Int) : List Int := xs.mergeSort (fun a b => decide (a ≤ b))
theorem perm_sorted : ∀ {xs ys : List Int}, xs.Perm ys → xs.Pairwise (· ≤ ·) → ys.Pairwise (· ≤ ·) → xs = ys
  | [], ys, p, _, _ => (List.nil_perm.mp p).symm
  | x :: r, [], p, _, _ => absurd (List.perm_nil.mp p) (by simp)
  | x :: r, y :: q, p, h1, h2 => by
    obtain ⟨a1, a2⟩ := List.pairwise_cons.mp h1
    obtain ⟨b1, b2⟩ := List.pairwise_cons.mp h2
    have e : x = y := by
      have m1 := p.mem_iff.mp (List.mem_cons_self (a := x) (l := r))
      have m2 := p.mem_iff.mpr (List.mem_cons_self (a := y) (l := q))
      rcases List.mem_cons.mp m1 with z | z
      · exact z
      · rcases List.mem_cons.mp m2 with z2 | z2
        · exact z2.symm
        · have := b1 x z; have := a1 y z2; omega
    subst e
    rw [perm_sorted (List.perm_cons _ |>.mp p) a2 b2]
theorem sortI_perm (xs : List Int) : (sortI xs).Perm xs := List.mergeSort_perm _ _
theorem sortI_eq {xs ns : List Int} (p : ns.Perm xs) (h : ns.Pairwise (· ≤ ·)) : sortI xs = ns := by
  refine perm_sorted ((sortI_perm xs).trans p.symm) ?_ h
  have s := List.pairwise_mergeSort (le := fun a b : Int => decide (a ≤ b)) (fun a b c h1 h2 => by simp at *; omega) (fun a b => by simp; omega) xs
  exact s.imp fun h => of_decide_eq_true h
/-! ### a truth whose first part changes what is owned -/
def tK (v : V) : TE := fun _ H Q => Q v H
theorem evB_k {S0 : List Addr} {H0 : Hp} {L : List As} {σ : L2.St} {c b : Bool} (h : some c = some b) : EvB S0 H0 L (tK (.bl c)) σ b := fun H hs Q q => by
  obtain rfl := Option.some.inj h
  exact q H hs
section
variable {ta tb tc : TE} {σ : L2.St} {H : Hp} {Q : VK}
theorem first_a (h : ta σ H fun v H1 => tAndV (tK v) tb σ H1 Q) : tAndV ta tb σ H Q := h
theorem first_o (h : ta σ H fun v H1 => tOrV (tK v) tb σ H1 Q) : tOrV ta tb σ H Q := h
theorem first_oa (h : ta σ H fun v H1 => tOrV (tAndV (tK v) tb) tc σ H1 Q) : tOrV (tAndV ta tb) tc σ H Q := h
theorem first_ao (h : ta σ H fun v H1 => tAndV (tOrV (tK v) tb) tc σ H1 Q) : tAndV (tOrV ta tb) tc σ H Q := h
end

/-! ### walks over two or three things, one by one -/
theorem lc_range2 {n : Nat} {g : TG} {tt : TT} {te : TE} {vs : List Nat} {σ : L2.St} {H1 : Hp} {D : Addr} {Qd : Hp → Prop} (hn : n = 2)
    (h : g (.int 0) (wipe σ vs) (upd H1 D (.lst [])) fun σ2 H2 => wipe σ2 vs = wipe σ vs ∧ tt σ2 H2 fun b H3 =>
      if b = true then te σ2 H3 fun y H4 => ∃ acc, H4 D = some (.lst acc) ∧ acc.length < sizeLine ∧
        (g (.int 1) (wipe σ vs) (upd H4 D (.lst (acc ++ [y]))) fun σ2 H2 => wipe σ2 vs = wipe σ vs ∧ tt σ2 H2 fun b H3 =>
          if b = true then te σ2 H3 fun y H4 => ∃ acc, H4 D = some (.lst acc) ∧ acc.length < sizeLine ∧ Qd (upd H4 D (.lst (acc ++ [y]))) else Qd H3)
      else (g (.int 1) (wipe σ vs) H3 fun σ2 H2 => wipe σ2 vs = wipe σ vs ∧ tt σ2 H2 fun b H3 =>
          if b = true then te σ2 H3 fun y H4 => ∃ acc, H4 D = some (.lst acc) ∧ acc.length < sizeLine ∧ Qd (upd H4 D (.lst (acc ++ [y]))) else Qd H3)) :
    ∃ W : Nat → Nat → Hp → Prop, (∃ m, W 0 m (upd H1 D (.lst []))) ∧ ∀ i m H, W i m H →
      ((Itr 0 n).stop i H ∧ Qd H) ∨ ((Itr 0 n).go i H ∧ ∃ Nx : Hp → Prop, (∀ H', Nx H' → ∃ m', m' < m ∧ W (i + 1) m' H') ∧ ∀ x H', (Itr 0 n).yld i H x H' → g x (wipe σ vs) H' fun σ2 H2 => wipe σ2 vs = wipe σ vs ∧ tt σ2 H2 fun b H3 =>
        if b = true then te σ2 H3 fun y H4 => ∃ acc, H4 D = some (.lst acc) ∧ acc.length < sizeLine ∧ Nx (upd H4 D (.lst (acc ++ [y]))) else Nx H3) := by
  subst hn
  refine lc_range (lo := 0) (n := 2) (fun i H => match i with
    | 0 => g (.int 0) (wipe σ vs) H fun σ2 H2 => wipe σ2 vs = wipe σ vs ∧ tt σ2 H2 fun b H3 =>
      if b = true then te σ2 H3 fun y H4 => ∃ acc, H4 D = some (.lst acc) ∧ acc.length < sizeLine ∧
        (g (.int 1) (wipe σ vs) (upd H4 D (.lst (acc ++ [y]))) fun σ2 H2 => wipe σ2 vs = wipe σ vs ∧ tt σ2 H2 fun b H3 =>
          if b = true then te σ2 H3 fun y H4 => ∃ acc, H4 D = some (.lst acc) ∧ acc.length < sizeLine ∧ Qd (upd H4 D (.lst (acc ++ [y]))) else Qd H3)
      else (g (.int 1) (wipe σ vs) H3 fun σ2 H2 => wipe σ2 vs = wipe σ vs ∧ tt σ2 H2 fun b H3 =>
          if b = true then te σ2 H3 fun y H4 => ∃ acc, H4 D = some (.lst acc) ∧ acc.length < sizeLine ∧ Qd (upd H4 D (.lst (acc ++ [y]))) else Qd H3)
    | 1 => g (.int 1) (wipe σ vs) H fun σ2 H2 => wipe σ2 vs = wipe σ vs ∧ tt σ2 H2 fun b H3 =>
          if b = true then te σ2 H3 fun y H4 => ∃ acc, H4 D = some (.lst acc) ∧ acc.length < sizeLine ∧ Qd (upd H4 D (.lst (acc ++ [y]))) else Qd H3
    | _ => Qd H) h (fun i H hi p => ?_) (fun H p => p)
  match i, hi, p with
  | 0, _, p => exact p
  | 1, _, p => exact p
  | k + 2, hi, _ => exact absurd hi (by omega)
theorem lc_list2 {K : PySem.W.Frag} {a : Addr} {x0 x1 : V} {g : TG} {tt : TT} {te : TE} {vs : List Nat} {σ : L2.St} {H1 : Hp} {D : Addr} {Qd : Hp → Prop}
    (h : SqL K (upd H1 D (.lst [])) a [x0, x1] ∧ g x0 (wipe σ vs) (upd H1 D (.lst [])) fun σ2 H2 => wipe σ2 vs = wipe σ vs ∧ tt σ2 H2 fun b H3 =>
      if b = true then te σ2 H3 fun y H4 => ∃ acc, H4 D = some (.lst acc) ∧ acc.length < sizeLine ∧
        (SqL K (upd H4 D (.lst (acc ++ [y]))) a [x0, x1] ∧ g x1 (wipe σ vs) (upd H4 D (.lst (acc ++ [y]))) fun σ2 H2 => wipe σ2 vs = wipe σ vs ∧ tt σ2 H2 fun b H3 =>
          if b = true then te σ2 H3 fun y H4 => ∃ acc, H4 D = some (.lst acc) ∧ acc.length < sizeLine ∧ (SqL K (upd H4 D (.lst (acc ++ [y]))) a [x0, x1] ∧ Qd (upd H4 D (.lst (acc ++ [y])))) else SqL K H3 a [x0, x1] ∧ Qd H3)
      else (SqL K H3 a [x0, x1] ∧ g x1 (wipe σ vs) H3 fun σ2 H2 => wipe σ2 vs = wipe σ vs ∧ tt σ2 H2 fun b H3 =>
          if b = true then te σ2 H3 fun y H4 => ∃ acc, H4 D = some (.lst acc) ∧ acc.length < sizeLine ∧ (SqL K (upd H4 D (.lst (acc ++ [y]))) a [x0, x1] ∧ Qd (upd H4 D (.lst (acc ++ [y])))) else SqL K H3 a [x0, x1] ∧ Qd H3)) :
    ∃ W : Nat → Nat → Hp → Prop, (∃ m, W 0 m (upd H1 D (.lst []))) ∧ ∀ i m H, W i m H →
      ((Itl K a).stop i H ∧ Qd H) ∨ ((Itl K a).go i H ∧ ∃ Nx : Hp → Prop, (∀ H', Nx H' → ∃ m', m' < m ∧ W (i + 1) m' H') ∧ ∀ x H', (Itl K a).yld i H x H' → g x (wipe σ vs) H' fun σ2 H2 => wipe σ2 vs = wipe σ vs ∧ tt σ2 H2 fun b H3 =>
        if b = true then te σ2 H3 fun y H4 => ∃ acc, H4 D = some (.lst acc) ∧ acc.length < sizeLine ∧ Nx (upd H4 D (.lst (acc ++ [y]))) else Nx H3) := by
  refine lc_list (K := K) (a := a) (xs := [x0, x1]) (fun i H => match i with
    | 0 => SqL K H a [x0, x1] ∧ g x0 (wipe σ vs) H fun σ2 H2 => wipe σ2 vs = wipe σ vs ∧ tt σ2 H2 fun b H3 =>
      if b = true then te σ2 H3 fun y H4 => ∃ acc, H4 D = some (.lst acc) ∧ acc.length < sizeLine ∧
        (SqL K (upd H4 D (.lst (acc ++ [y]))) a [x0, x1] ∧ g x1 (wipe σ vs) (upd H4 D (.lst (acc ++ [y]))) fun σ2 H2 => wipe σ2 vs = wipe σ vs ∧ tt σ2 H2 fun b H3 =>
          if b = true then te σ2 H3 fun y H4 => ∃ acc, H4 D = some (.lst acc) ∧ acc.length < sizeLine ∧ (SqL K (upd H4 D (.lst (acc ++ [y]))) a [x0, x1] ∧ Qd (upd H4 D (.lst (acc ++ [y])))) else SqL K H3 a [x0, x1] ∧ Qd H3)
      else (SqL K H3 a [x0, x1] ∧ g x1 (wipe σ vs) H3 fun σ2 H2 => wipe σ2 vs = wipe σ vs ∧ tt σ2 H2 fun b H3 =>
          if b = true then te σ2 H3 fun y H4 => ∃ acc, H4 D = some (.lst acc) ∧ acc.length < sizeLine ∧ (SqL K (upd H4 D (.lst (acc ++ [y]))) a [x0, x1] ∧ Qd (upd H4 D (.lst (acc ++ [y])))) else SqL K H3 a [x0, x1] ∧ Qd H3)
    | 1 => SqL K H a [x0, x1] ∧ g x1 (wipe σ vs) H fun σ2 H2 => wipe σ2 vs = wipe σ vs ∧ tt σ2 H2 fun b H3 =>
          if b = true then te σ2 H3 fun y H4 => ∃ acc, H4 D = some (.lst acc) ∧ acc.length < sizeLine ∧ (SqL K (upd H4 D (.lst (acc ++ [y]))) a [x0, x1] ∧ Qd (upd H4 D (.lst (acc ++ [y])))) else SqL K H3 a [x0, x1] ∧ Qd H3
    | _ => SqL K H a [x0, x1] ∧ Qd H) h (fun i H hi p => ?_) (fun i x H hx p => ?_) (fun H p => p.2)
  · match i, p with
    | 0, p => exact p.1
    | 1, p => exact p.1
    | _ + 2, p => exact p.1
  · match i, hx, p with
    | 0, hx, p => obtain rfl := Option.some.inj hx; exact p.2
    | 1, hx, p => obtain rfl := Option.some.inj hx; exact p.2
    | k + 2, hx, _ => exact absurd hx (by simp)
theorem for_range2 {n : Nat} {g : TG} {tb : TS} {nx : L2.St → Hp → Prop} {rt : VK} {σ : L2.St} {H : Hp} (hn : n = 2)
    (h : g (.int 0) σ H fun σ2 H2 => tb { nx := fun σ H => g (.int 1) σ H fun σ2 H2 => tb { nx := nx, rt := rt, bk := nx, ct := nx } σ2 H2, rt := rt, bk := nx, ct := fun σ H => g (.int 1) σ H fun σ2 H2 => tb { nx := nx, rt := rt, bk := nx, ct := nx } σ2 H2 } σ2 H2) :
    ∃ W : Nat → Nat → L2.St → Hp → Prop, (∃ m, W 0 m σ H) ∧ ∀ i m σ H, W i m σ H →
      ((Itr 0 n).stop i H ∧ nx σ H) ∨ ((Itr 0 n).go i H ∧ ∃ N : L2.St → Hp → Prop, (∀ σ' H', N σ' H' → ∃ m', m' < m ∧ W (i + 1) m' σ' H') ∧ ∀ x H', (Itr 0 n).yld i H x H' → g x σ H' fun σ2 H2 => tb { nx := N, rt := rt, bk := nx, ct := N } σ2 H2) := by
  subst hn
  have P2 : L2.St → Hp → Prop := nx
  refine for_rangeN (lo := 0) (n := 2) (nx := nx) (fun i => match i with
    | 0 => fun σ H => g (.int 0) σ H fun σ2 H2 => tb { nx := fun σ H => g (.int 1) σ H fun σ2 H2 => tb { nx := nx, rt := rt, bk := nx, ct := nx } σ2 H2, rt := rt, bk := nx, ct := fun σ H => g (.int 1) σ H fun σ2 H2 => tb { nx := nx, rt := rt, bk := nx, ct := nx } σ2 H2 } σ2 H2
    | 1 => fun σ H => g (.int 1) σ H fun σ2 H2 => tb { nx := nx, rt := rt, bk := nx, ct := nx } σ2 H2
    | _ => nx) h (fun i σ H hi p => ?_) (fun σ H p => p)
  match i, hi, p with
  | 0, _, p => exact p
  | 1, _, p => exact p
  | k + 2, hi, _ => exact absurd hi (by omega)
theorem for_list2 {K : PySem.W.Frag} {a : Addr} {x0 x1 : V} {g : TG} {tb : TS} {nx : L2.St → Hp → Prop} {rt : VK} {σ : L2.St} {H : Hp}
    (h : SqL K H a [x0, x1] ∧ g x0 σ H fun σ2 H2 => tb { nx := fun σ H => SqL K H a [x0, x1] ∧ g x1 σ H fun σ2 H2 => tb { nx := fun σ H => SqL K H a [x0, x1] ∧ nx σ H, rt := rt, bk := nx, ct := fun σ H => SqL K H a [x0, x1] ∧ nx σ H } σ2 H2, rt := rt, bk := nx, ct := fun σ H => SqL K H a [x0, x1] ∧ g x1 σ H fun σ2 H2 => tb { nx := fun σ H => SqL K H a [x0, x1] ∧ nx σ H, rt := rt, bk := nx, ct := fun σ H => SqL K H a [x0, x1] ∧ nx σ H } σ2 H2 } σ2 H2) :
    ∃ W : Nat → Nat → L2.St → Hp → Prop, (∃ m, W 0 m σ H) ∧ ∀ i m σ H, W i m σ H →
      ((Itl K a).stop i H ∧ nx σ H) ∨ ((Itl K a).go i H ∧ ∃ N : L2.St → Hp → Prop, (∀ σ' H', N σ' H' → ∃ m', m' < m ∧ W (i + 1) m' σ' H') ∧ ∀ x H', (Itl K a).yld i H x H' → g x σ H' fun σ2 H2 => tb { nx := N, rt := rt, bk := nx, ct := N } σ2 H2) := by
  refine for_listN (K := K) (a := a) (xs := [x0, x1]) (nx := nx) (fun i => match i with
    | 0 => fun σ H => SqL K H a [x0, x1] ∧ g x0 σ H fun σ2 H2 => tb { nx := fun σ H => SqL K H a [x0, x1] ∧ g x1 σ H fun σ2 H2 => tb { nx := fun σ H => SqL K H a [x0, x1] ∧ nx σ H, rt := rt, bk := nx, ct := fun σ H => SqL K H a [x0, x1] ∧ nx σ H } σ2 H2, rt := rt, bk := nx, ct := fun σ H => SqL K H a [x0, x1] ∧ g x1 σ H fun σ2 H2 => tb { nx := fun σ H => SqL K H a [x0, x1] ∧ nx σ H, rt := rt, bk := nx, ct := fun σ H => SqL K H a [x0, x1] ∧ nx σ H } σ2 H2 } σ2 H2
    | 1 => fun σ H => SqL K H a [x0, x1] ∧ g x1 σ H fun σ2 H2 => tb { nx := fun σ H => SqL K H a [x0, x1] ∧ nx σ H, rt := rt, bk := nx, ct := fun σ H => SqL K H a [x0, x1] ∧ nx σ H } σ2 H2
    | _ => fun σ H => SqL K H a [x0, x1] ∧ nx σ H) h (fun i σ H hi p => ?_) (fun i x σ H hx p => ?_) (fun σ H p => p.2)
  · match i, p with
    | 0, p => exact p.1
    | 1, p => exact p.1
    | _ + 2, p => exact p.1
  · match i, hx, p with
    | 0, hx, p => obtain rfl := Option.some.inj hx; exact p.2
    | 1, hx, p => obtain rfl := Option.some.inj hx; exact p.2
    | k + 2, hx, _ => exact absurd hx (by simp)
/-- a walk over a list whose things are known, one by one -/
def forU (K : PySem.W.Frag) (a : Addr) (all : List V) (g : TG) (tb : TS) (nx : L2.St → Hp → Prop) (rt : VK) : List V → L2.St → Hp → Prop
  | [], σ, H => SqL K H a all ∧ nx σ H
  | x :: r, σ, H => SqL K H a all ∧ g x σ H fun σ2 H2 => tb { nx := forU K a all g tb nx rt r, rt := rt, bk := nx, ct := forU K a all g tb nx rt r } σ2 H2
theorem forU_sq {K : PySem.W.Frag} {a : Addr} {all : List V} {g : TG} {tb : TS} {nx : L2.St → Hp → Prop} {rt : VK} : ∀ {l : List V} {σ : L2.St} {H : Hp}, forU K a all g tb nx rt l σ H → SqL K H a all
  | [], _, _, h => h.1
  | _ :: _, _, _, h => h.1
theorem forU_cons {K : PySem.W.Frag} {a : Addr} {all : List V} {g : TG} {tb : TS} {nx : L2.St → Hp → Prop} {rt : VK} {x : V} {r : List V} {σ : L2.St} {H : Hp} (h : SqL K H a all ∧ g x σ H fun σ2 H2 => tb { nx := forU K a all g tb nx rt r, rt := rt, bk := nx, ct := forU K a all g tb nx rt r } σ2 H2) : forU K a all g tb nx rt (x :: r) σ H := h
theorem forU_nil {K : PySem.W.Frag} {a : Addr} {all : List V} {g : TG} {tb : TS} {nx : L2.St → Hp → Prop} {rt : VK} {σ : L2.St} {H : Hp} (h : SqL K H a all ∧ nx σ H) : forU K a all g tb nx rt [] σ H := h
theorem for_listU {K : PySem.W.Frag} {a : Addr} {xs : List V} {g : TG} {tb : TS} {nx : L2.St → Hp → Prop} {rt : VK} {σ : L2.St} {H : Hp} (h : forU K a xs g tb nx rt xs σ H) :
    ∃ W : Nat → Nat → L2.St → Hp → Prop, (∃ m, W 0 m σ H) ∧ ∀ i m σ H, W i m σ H →
      ((Itl K a).stop i H ∧ nx σ H) ∨ ((Itl K a).go i H ∧ ∃ N : L2.St → Hp → Prop, (∀ σ' H', N σ' H' → ∃ m', m' < m ∧ W (i + 1) m' σ' H') ∧ ∀ x H', (Itl K a).yld i H x H' → g x σ H' fun σ2 H2 => tb { nx := N, rt := rt, bk := nx, ct := N } σ2 H2) := by
  refine for_listN (K := K) (a := a) (xs := xs) (nx := nx) (fun i => forU K a xs g tb nx rt (xs.drop i)) h (fun i σ H _ p => forU_sq p) (fun i x σ H hx p => ?_) (fun σ H p => ?_)
  · have e : xs.drop i = x :: xs.drop (i + 1) := drop_s hx
    have p : forU K a xs g tb nx rt (xs.drop i) σ H := p
    rw [e] at p
    exact p.2
  · have p : forU K a xs g tb nx rt (xs.drop xs.length) σ H := p
    rw [List.drop_length] at p
    exact p.2
/-! loops by a test, no more turns than so many -/
def whileC {σ ρ : Type} (f : σ → Option (Ctl ρ σ)) : Nat → σ → Option (Ctl ρ σ)
  | 0, _ => none
  | n + 1, s => (f s).bind fun c => match c with
    | .nx s' => whileC f n s'
    | .bk s' => some (.nx s')
    | .rt r => some (.rt r)
theorem whileC_s {σ ρ : Type} {f : σ → Option (Ctl ρ σ)} {m : Nat} {s : σ} {cE : Ctl ρ σ} (h : whileC f m s = some cE) :
    ∃ m' c, m = m' + 1 ∧ f s = some c ∧ (match c with
      | .nx s' => whileC f m' s' = some cE
      | .bk s' => cE = .nx s'
      | .rt r => cE = .rt r) := by
  cases m with
  | zero => cases h
  | succ m' =>
    obtain ⟨c, e, h⟩ := bnd h
    refine ⟨m', c, rfl, e, ?_⟩
    cases c with
    | nx s' => exact h
    | bk s' => exact (Option.some.inj h).symm
    | rt r => exact (Option.some.inj h).symm
/-! one of two lists, not known which: taken out ahead of the other one, and put back -/
theorem alias2 {S0 : List Addr} {H0 H : Hp} {L : List As} {α : Type} [Imm α] {p0 p1 : Addr} {x0 x1 : List α} {b : Bool} {v : V} (hv : (if b = true then V.ref p0 else V.ref p1) = v) (h : Sep S0 H0 H (aL p0 x0 :: aL p1 x1 :: L)) :
    ∃ (p : Addr) (R : As), v = .ref p ∧ Sep S0 H0 H (aL p (if b = true then x0 else x1) :: R :: L) ∧ ∀ {H' : Hp} {L' : List As}, Sep S0 H0 H' (aL p (if b = true then x0 else x1) :: R :: L') → Sep S0 H0 H' (aL p0 x0 :: aL p1 x1 :: L') := by
  cases b with
  | true => exact ⟨p0, aL p1 x1, hv.symm, h, fun h' => h'⟩
  | false => exact ⟨p1, aL p0 x0, hv.symm, h.mv 1 rfl, fun h' => h'.mv 1 rfl⟩
theorem forU_st {K : PySem.W.Frag} {a : Addr} {all l : List V} {g : TG} {tb : TS} {nx : L2.St → Hp → Prop} {rt : VK} {σ σ' : L2.St} {H : Hp} (e : σ = σ') (h : forU K a all g tb nx rt l σ' H) : forU K a all g tb nx rt l σ H := e ▸ h
/-! flat tuples with truths, compared as data -/
theorem ok_flT {k : Nat} {xs : List V} (g : xs.all flBok = true) : okD (k + 1) (.tuple (xs.map flB)) := ok_T fun d hd => by
  obtain ⟨v, hv, rfl⟩ := List.mem_map.mp hd
  have := List.all_eq_true.mp g v hv
  cases v <;> first | exact ok_i | exact ok_b | exact ok_s this | cases this
theorem eqv_flT {xs ys : List V} : PyData.eqv (.tuple (xs.map flB)) (.tuple (ys.map flB)) = decide (PyData.eqvAll (xs.map flB) (ys.map flB) = true) := by
  rw [PyData.eqv]; simp
theorem call_len_seq' {X : Cx} {K : PySem.W.Frag} (hK : X.K = K) : CallR X (.builtin "len") (fun xs H Q => ∃ p ys, xs = [.ref p] ∧ (SqL K H p ys ∨ SqT K H p ys) ∧ Q (.int ys.length) H) := by subst hK; exact call_len_seq

def m__law_digits_l1  (k48 : Int) (s47 : Int × Int × (List Int)) : Option (Int × Int × (List Int)) :=
  (some ((((s47.2.1 * (48271 : Int)) + ((30103 : Int) * k48)) + (11 : Int)) % (2147483647 : Int))).bind fun n60 =>
  if CMul n60 ((n60 / (1009 : Int)) + (69621 : Int)) then
  (some ((n60 * ((n60 / (1009 : Int)) + (69621 : Int))) % (2147483629 : Int))).bind fun n62 =>
  if ((0 : Int) < s47.1) then
    (snoc s47.2.2 (s47.1 % (1009 : Int))).bind fun y73 =>
    some (s47.1 / (1009 : Int), n62, y73)
  else
    (snoc s47.2.2 ((n62 / (7 : Int)) % (1009 : Int))).bind fun y81 =>
    some (s47.1, n62, y81) else none
def m__law_digits (cell_here_ : Int) (many_ : Int) : Option ((List Int)) :=
  (if (((10 : Int) ^ Int.toNat (18 : Int)) ≤ cell_here_) then
    some cell_here_
  else
    some (0 : Int)).bind fun (j11 : Int) =>
  (some (cell_here_ % (2147483647 : Int))).bind fun n20 =>
  if -(2 ^ 62) ≤ many_ ∧ many_ < 2 ^ 62 then
  (forS (m__law_digits_l1) (rangeL 0 (Int.toNat many_)) (j11, n20, ([] : (List Int)))).bind fun (s47 : Int × Int × (List Int)) =>
  some s47.2.2 else none
section
variable {P : Program} {w : World} {K : PySem.W.Frag} {mg : Str → Option Value} {base : Heap}
def sp__law_digits (K : PySem.W.Frag) : Sp := fun vs H Q E_ => ∃ (cell_here_ : Int) (many_ : Int) (r_ : (List Int)), vs = [(.int cell_here_), (.int many_)] ∧ (oks H [] ∧ (owns []).Nodup ∧ m__law_digits cell_here_ many_ = some r_ ∧ (∀ (H' : Hp) (pz : Addr), Sep (owns []) H H' [aL pz r_] → Q (.ref pz) H'))
abbrev N__law_digits : List Str := ["_law_cell_here", "_law_many", "_law_row", "_law_rest", "_law_number", "_law_k"]
theorem sc__law_digits : FnScope N__law_digits ["_law_cell_here", "_law_many"] (defScope s__law_digits) := ⟨rfl, rfl, rfl, by decide +kernel, rfl, by decide +kernel, by decide +kernel⟩
theorem ok__law_digits (T : Txt K mg) : Ok P w K mg base CX0 1 (He.fAd K ("_law_digits", none)) ["_law_cell_here", "_law_many"] (sp__law_digits K) := by
  obtain ⟨fd, F⟩ := T.d__law_digits
  refine ⟨fd, F.ok sc__law_digits (fun vs H Q E h => by obtain ⟨cell_here_, many_, r_, rfl, _⟩ := h; rfl) (fun cdv A_ outer s_ H vs Q E hr h => ?_), F.bindsN (fun _ _ _ _ _ _ us hl => match us, hl with | [_, _], _ => rfl), F.kp⟩
  obtain ⟨cell_here_, many_, r_, rfl, h⟩ := h
  have hu := hu_of hr
  refine ⟨_, PSs.nox (pss_cons (ps_set (i := 2) sc__law_digits.nd rfl (.inl rfl) (pe_lst pa_nil))
  (pss_cons (ps_set (i := 3) sc__law_digits.nd rfl (.inl rfl) pe_int)
  (C8.pss_cut (ps_if (pt_cmpR op_ge (pv 0) (pe_op op_pow pe_int pe_int) (nomark _)) (pss_one (ps_set (i := 3) sc__law_digits.nd rfl (.inl rfl) (pv 0))) pss_nil)
  (pss_cons (ps_set (i := 4) sc__law_digits.nd rfl (.inl rfl) (pe_op op_mod (pv 0) pe_int))
  (pss_cons (ps_for PassesOwn.never rfl (pi_range1 (by rfl) T.f_range (pa_cons (pv 1) pa_nil)) (pg_name (i := 5) sc__law_digits.nd rfl (.inl rfl)) (pss_cons (ps_set (i := 4) sc__law_digits.nd rfl (.inl rfl) (pe_op op_mod (pe_op op_add (pe_op op_add (pe_op op_mul (pv 4) pe_int) (pe_op op_mul pe_int (pv 5))) pe_int) pe_int))
    (pss_cons (ps_set (i := 4) sc__law_digits.nd rfl (.inl rfl) (pe_op op_mod (pe_op op_mul (pv 4) (pe_op op_add (pe_op op_fdiv (pv 4) pe_int) pe_int)) pe_int))
    (pss_one (ps_if (pt_cmpR op_gt (pv 3) pe_int (nomark _)) (pss_cons (ps_expr (pe_bm PySem.F.plainAttrs_list PySem.F.slot_list_append PySem.F.type_list_append mt_append (pv 2) (pa_cons (pe_op op_mod (pv 3) pe_int) pa_nil)))
      (pss_one (ps_set (i := 3) sc__law_digits.nd rfl (.inl rfl) (pe_op op_fdiv (pv 3) pe_int)))) (pss_one (ps_expr (pe_bm PySem.F.plainAttrs_list PySem.F.slot_list_append PySem.F.type_list_append mt_append (pv 2) (pa_cons (pe_op op_mod (pe_op op_fdiv (pv 4) pe_int) pe_int) pa_nil)))))))))
  (pss_one (ps_ret (pv 2)))))))), ?_⟩
  obtain ⟨hp1, hp2, hm, q⟩ := h
  have hs := Sep.pre (L := []) ⟨hp1, hp2⟩
  unfold m__law_digits at hm
  clear hp1 hp2
  refine ⟨(by show 0 ≤ sizeLine; decide), fun p1 n2 => ?_⟩
  try dsimp only
  generalize ee_ : upd H p1 _ = H3
  replace hs := (hs.newL (ys := (([] : (List Int)) : (List Int))) n2 (.nil)).cast ee_
  clear ee_
  obtain ⟨j11, es12, hm⟩ := bnd hm
  refine ⟨fun σ' H13 => Sep (owns []) H H13 [aL p1 (([] : (List Int)) : (List Int))] ∧ σ' = [some (.int cell_here_), some (.int many_), some (.ref p1), some (.int j11), none, none], ?_, ?_⟩
  · have hm := es12
    try dsimp only [tNext, gName]
    refine if_use hs (b := decide ((((10 : Int) ^ Int.toNat (18 : Int)) ≤ cell_here_))) ?_ ?_
    · skip
      refine fun H16 hs Q_ hQ17 => ?_
      refine ⟨_, rfl, _, _, rfl, rfl, ⟨by decide, by decide, by decide⟩, _, _, rfl, rfl, _, rfl, ?_⟩
      exact hQ17 _ (hs.tl 0)
    intro H19 hs
    refine iteD (fun c18 => ?_) (fun c18 => ?_)
    · replace hm := ift c18 hm
      refine ⟨_, rfl, ?_⟩
      replace hs : Sep (owns []) H H19 [aL p1 (([] : (List Int)) : (List Int))] := hs.tk 1
      obtain rfl := Option.some.inj hm
      exact ⟨hs, rfl⟩
    · replace hm := ife c18 hm
      replace hs : Sep (owns []) H H19 [aL p1 (([] : (List Int)) : (List Int))] := hs.tk 1
      obtain rfl := Option.some.inj hm
      exact ⟨hs, rfl⟩
  rintro σ' H13 ⟨hs, rfl⟩
  refine ⟨_, rfl, _, _, rfl, rfl, (show (0 : Int) < (2147483647 : Int) by decide), ?_⟩
  obtain ⟨n20, en20, hm⟩ := bnd hm
  try dsimp only
  rw [Option.some.inj en20]
  obtain ⟨g21, hm⟩ := gd hm
  obtain ⟨z49, eL50, hm⟩ := bnd hm
  replace hs : Sep (owns []) H H13 [aL p1 (([] : (List Int)) : (List Int))] := hs.tk 1
  refine ⟨_, rfl, _, rfl, g21.1, g21.2, for_rangeN (lo := (0 : Int)) (n := (Int.toNat many_)) (fun i55 σ57 H56 => ∃ (s47 : Int × Int × (List Int)) (o54 : Option V), forS (m__law_digits_l1) ((rangeL 0 (Int.toNat many_)).drop i55) s47 = some z49 ∧ Sep (owns []) H H56 [aL p1 s47.2.2] ∧ σ57 = [some (.int cell_here_), some (.int many_), some (.ref p1), some (.int s47.1), some (.int s47.2.1), o54]) ⟨(j11, n20, ([] : (List Int))), _, eL50, hs, rfl⟩ ?_ ?_⟩
  · rintro i55 σ57 H56 hi58 ⟨s47, o54, hf51, hs, rfl⟩
    obtain ⟨cN52, hm, hf51⟩ := forS_s (range_get hi58) hf51
    generalize hk_ : (0 : Int) + ((i55 : Nat) : Int) = k48 at hm ⊢
    unfold m__law_digits_l1 at hm
    refine ⟨_, rfl, _, _, rfl, rfl, .inr ⟨by decide, by decide⟩, _, rfl, _, _, rfl, rfl, .inl ⟨by decide, by decide⟩, _, _, rfl, rfl, _, _, rfl, rfl, _, _, rfl, rfl, (show (0 : Int) < (2147483647 : Int) by decide), ?_⟩
    obtain ⟨n60, en60, hm⟩ := bnd hm
    try dsimp only
    rw [Option.some.inj en60]
    obtain ⟨g61, hm⟩ := gd hm
    refine ⟨_, rfl, _, rfl, _, _, rfl, rfl, ⟨by decide, by decide⟩, _, _, rfl, rfl, _, _, rfl, rfl, g61, _, _, rfl, rfl, (show (0 : Int) < (2147483629 : Int) by decide), ?_⟩
    obtain ⟨n62, en62, hm⟩ := bnd hm
    try dsimp only
    rw [Option.some.inj en62]
    try dsimp only [tNext, gName]
    refine if_use hs (b := decide (((0 : Int) < s47.1))) ?_ ?_
    · skip
      refine fun H65 hs Q_ hQ66 => ?_
      refine ⟨_, rfl, _, _, rfl, rfl, _, rfl, ?_⟩
      exact hQ66 _ (hs.tl 0)
    intro H68 hs
    refine iteD (fun c67 => ?_) (fun c67 => ?_)
    · replace hm := ift c67 hm
      have f69 := (hs.lst 0 rfl).choose_spec.1
      obtain ⟨y73, ey73, hm⟩ := bnd hm
      obtain ⟨vs70, hl71, hv72⟩ := hs.lst 0 rfl
      obtain ⟨g74, e75⟩ := snoc_eq ey73
      refine ⟨_, rfl, .inl ⟨rfl, _, SqL.of f69⟩, _, rfl, _, _, rfl, rfl, (show (0 : Int) < (1009 : Int) by decide), _, _, _, rfl, rfl, hl71, small_ (by have := hv72.length; omega), ?_⟩
      try dsimp only
      generalize ee_ : upd H68 p1 _ = H76
      replace hs := (hs.putL (ys := y73) 0 rfl hl71 (by rw [e75]; exact hv72.snoc imI)).cast ee_
      clear ee_
      refine ⟨_, rfl, _, _, rfl, rfl, ⟨by decide, by decide⟩, ?_⟩
      replace hs : Sep (owns []) H H76 [aL p1 y73] := hs.tk 1
      obtain rfl := Option.some.inj hm
      exact ⟨(s47.1 / (1009 : Int), n62, y73), _, hf51, hs, rfl⟩
    · replace hm := ife c67 hm
      have f77 := (hs.lst 0 rfl).choose_spec.1
      obtain ⟨y81, ey81, hm⟩ := bnd hm
      obtain ⟨vs78, hl79, hv80⟩ := hs.lst 0 rfl
      obtain ⟨g82, e83⟩ := snoc_eq ey81
      refine ⟨_, rfl, .inl ⟨rfl, _, SqL.of f77⟩, _, rfl, _, _, rfl, rfl, ⟨by decide, by decide⟩, _, _, rfl, rfl, (show (0 : Int) < (1009 : Int) by decide), _, _, _, rfl, rfl, hl79, small_ (by have := hv80.length; omega), ?_⟩
      try dsimp only
      generalize ee_ : upd H68 p1 _ = H84
      replace hs := (hs.putL (ys := y81) 0 rfl hl79 (by rw [e83]; exact hv80.snoc imI)).cast ee_
      clear ee_
      replace hs : Sep (owns []) H H84 [aL p1 y81] := hs.tk 1
      obtain rfl := Option.some.inj hm
      exact ⟨(s47.1, n62, y81), _, hf51, hs, rfl⟩
  rintro σ57 H56 ⟨s47, o54, hf51, hs, rfl⟩
  have ez_ := forS_e (Nat.le_of_eq range_len) hf51
  subst ez_
  refine ⟨_, rfl, ?_⟩
  replace hs : Sep (owns []) H H56 [aL p1 s47.2.2] := hs.tk 1
  obtain rfl := Option.some.inj hm
  exact q H56 p1 hs
end

theorem digits_ok (c : Int) {n : Nat} (hn : n ≤ 1000) : ∃ ds, m__law_digits c n = some ds ∧ ds.length = n ∧ Digs ds := by
  unfold m__law_digits
  have key : ∀ j : Int, ∃ s, forS m__law_digits_l1 (rangeL 0 (Int.toNat n)) (j, c % 2147483647, []) = some s ∧ (s.2.2.length = n ∧ Digs s.2.2 ∧ 0 ≤ s.2.1 ∧ s.2.1 < 2147483647) := fun j => by
    have := forS_inv (f := m__law_digits_l1) (xs := rangeL 0 (Int.toNat n)) (s := (j, c % 2147483647, [])) (fun i s => s.2.2.length = i ∧ Digs s.2.2 ∧ 0 ≤ s.2.1 ∧ s.2.1 < 2147483647) ⟨rfl, (fun _ z => by cases z), Int.emod_nonneg _ (by decide), Int.emod_lt_of_pos _ (by decide)⟩ ?_
    · rw [range_len] at this
      simpa using this
    · rintro i k ⟨rest, m, ds⟩ hk ⟨hl, hd, h0, h1⟩
      obtain ⟨rfl, hi⟩ := range_mem hk
      have hi2 : i < n := by simpa using hi
      have hl : ds.length = i := hl
      have h0 : 0 ≤ m := h0
      have h1 : m < 2147483647 := h1
      obtain ⟨u, eu⟩ : ∃ u, u = (m * 48271 + 30103 * (0 + (i : Int)) + 11) % 2147483647 := ⟨_, rfl⟩
      have g1 : 0 ≤ u := by rw [eu]; exact Int.emod_nonneg _ (by decide)
      have g2 : u < 2147483647 := by rw [eu]; exact Int.emod_lt_of_pos _ (by decide)
      obtain ⟨v, ev⟩ : ∃ v, v = u * (u / 1009 + 69621) % 2147483629 := ⟨_, rfl⟩
      have g3 : 0 ≤ v := by rw [ev]; exact Int.emod_nonneg _ (by decide)
      have g4 : v < 2147483629 := by rw [ev]; exact Int.emod_lt_of_pos _ (by decide)
      have step : m__law_digits_l1 (0 + (i : Int)) (rest, m, ds) = (if 0 < rest then (snoc ds (rest % 1009)).bind fun y => some (rest / 1009, v, y) else (snoc ds (v / 7 % 1009)).bind fun y => some (rest, v, y)) := by
        unfold m__law_digits_l1
        refine bnd_of rfl ?_
        dsimp only
        rw [← eu, if_pos (show CMul u (u / 1009 + 69621) from .inl ⟨by omega, by omega⟩)]
        refine bnd_of rfl ?_
        try dsimp only
        rw [← ev]
      rw [step]
      by_cases hr : 0 < rest
      · refine ⟨(rest / 1009, v, ds ++ [rest % 1009]), ?_, by show (ds ++ [_]).length = _; rw [List.length_append, hl]; rfl, Digs.snoc hd (by omega), by show 0 ≤ v; omega, by show v < _; omega⟩
        rw [if_pos hr]
        exact bnd_of (snoc_ok (by omega)) rfl
      · refine ⟨(rest, v, ds ++ [v / 7 % 1009]), ?_, by show (ds ++ [_]).length = _; rw [List.length_append, hl]; rfl, Digs.snoc hd (by omega), by show 0 ≤ v; omega, by show v < _; omega⟩
        rw [if_neg hr]
        exact bnd_of (snoc_ok (by omega)) rfl
  by_cases hc : (10 : Int) ^ Int.toNat 18 ≤ c
  · obtain ⟨s, e, h1, h2, _, _⟩ := key c
    refine ⟨s.2.2, ?_, h1, h2⟩
    rw [if_pos hc]
    refine bnd_of rfl (bnd_of rfl ?_)
    rw [if_pos ⟨by omega, by omega⟩]
    exact bnd_of e rfl
  · obtain ⟨s, e, h1, h2, _, _⟩ := key 0
    refine ⟨s.2.2, ?_, h1, h2⟩
    rw [if_neg hc]
    refine bnd_of rfl (bnd_of rfl ?_)
    rw [if_pos ⟨by omega, by omega⟩]
    exact bnd_of e rfl

structure R_Ln where
  beat : Int
  level : Int
  flags : Int
  a : Int
  sent : (List (Int × Int))
structure A_Ln where
  p_ : Addr
  sent : Addr
abbrev A_Ln.w (B : A_Ln) (p : Addr) : A_Ln := { B with p_ := p }
def K_Ln (v_beat v_level v_flags v_a v_sent : V) : List (Key × V) := [((Sum.inr "beat" : Key), v_beat), ((Sum.inr "level" : Key), v_level), ((Sum.inr "flags" : Key), v_flags), ((Sum.inr "a" : Key), v_a), ((Sum.inr "sent" : Key), v_sent)]
theorem K_Ln_beat {v_beat v_level v_flags v_a v_sent : V} : valV (K_Ln v_beat v_level v_flags v_a v_sent) (Sum.inr "beat" : Key) = some v_beat := by kernel_rfl
theorem K_Ln_put_beat {v_beat v_level v_flags v_a v_sent x_ : V} : putK (K_Ln v_beat v_level v_flags v_a v_sent) (Sum.inr "beat" : Key) x_ = K_Ln x_ v_level v_flags v_a v_sent := by kernel_rfl
theorem K_Ln_dput_beat {v_beat v_level v_flags v_a v_sent x_ : V} {H : Hp} {p : Addr} (h : H p = some (.dK (K_Ln v_beat v_level v_flags v_a v_sent))) : DPut H p (.str "beat") x_ (upd H p (.dK (K_Ln x_ v_level v_flags v_a v_sent))) := by
  have g := DPut.k (k := Sum.inr "beat") (v := x_) h (small_ (by show 5 ≤ 16777215; decide))
  rw [K_Ln_put_beat] at g; exact g
theorem K_Ln_dget_beat {v_beat v_level v_flags v_a v_sent : V} {H : Hp} {p : Addr} (h : H p = some (.dK (K_Ln v_beat v_level v_flags v_a v_sent))) : DGet H p (.str "beat") (some v_beat) := by
  have g := DGet.k (k := Sum.inr "beat") h
  rw [K_Ln_beat] at g; exact g
theorem K_Ln_level {v_beat v_level v_flags v_a v_sent : V} : valV (K_Ln v_beat v_level v_flags v_a v_sent) (Sum.inr "level" : Key) = some v_level := by kernel_rfl
theorem K_Ln_put_level {v_beat v_level v_flags v_a v_sent x_ : V} : putK (K_Ln v_beat v_level v_flags v_a v_sent) (Sum.inr "level" : Key) x_ = K_Ln v_beat x_ v_flags v_a v_sent := by kernel_rfl
theorem K_Ln_dput_level {v_beat v_level v_flags v_a v_sent x_ : V} {H : Hp} {p : Addr} (h : H p = some (.dK (K_Ln v_beat v_level v_flags v_a v_sent))) : DPut H p (.str "level") x_ (upd H p (.dK (K_Ln v_beat x_ v_flags v_a v_sent))) := by
  have g := DPut.k (k := Sum.inr "level") (v := x_) h (small_ (by show 5 ≤ 16777215; decide))
  rw [K_Ln_put_level] at g; exact g
theorem K_Ln_dget_level {v_beat v_level v_flags v_a v_sent : V} {H : Hp} {p : Addr} (h : H p = some (.dK (K_Ln v_beat v_level v_flags v_a v_sent))) : DGet H p (.str "level") (some v_level) := by
  have g := DGet.k (k := Sum.inr "level") h
  rw [K_Ln_level] at g; exact g
theorem K_Ln_flags {v_beat v_level v_flags v_a v_sent : V} : valV (K_Ln v_beat v_level v_flags v_a v_sent) (Sum.inr "flags" : Key) = some v_flags := by kernel_rfl
theorem K_Ln_put_flags {v_beat v_level v_flags v_a v_sent x_ : V} : putK (K_Ln v_beat v_level v_flags v_a v_sent) (Sum.inr "flags" : Key) x_ = K_Ln v_beat v_level x_ v_a v_sent := by kernel_rfl
theorem K_Ln_dput_flags {v_beat v_level v_flags v_a v_sent x_ : V} {H : Hp} {p : Addr} (h : H p = some (.dK (K_Ln v_beat v_level v_flags v_a v_sent))) : DPut H p (.str "flags") x_ (upd H p (.dK (K_Ln v_beat v_level x_ v_a v_sent))) := by
  have g := DPut.k (k := Sum.inr "flags") (v := x_) h (small_ (by show 5 ≤ 16777215; decide))
  rw [K_Ln_put_flags] at g; exact g
theorem K_Ln_dget_flags {v_beat v_level v_flags v_a v_sent : V} {H : Hp} {p : Addr} (h : H p = some (.dK (K_Ln v_beat v_level v_flags v_a v_sent))) : DGet H p (.str "flags") (some v_flags) := by
  have g := DGet.k (k := Sum.inr "flags") h
  rw [K_Ln_flags] at g; exact g
theorem K_Ln_a {v_beat v_level v_flags v_a v_sent : V} : valV (K_Ln v_beat v_level v_flags v_a v_sent) (Sum.inr "a" : Key) = some v_a := by kernel_rfl
theorem K_Ln_put_a {v_beat v_level v_flags v_a v_sent x_ : V} : putK (K_Ln v_beat v_level v_flags v_a v_sent) (Sum.inr "a" : Key) x_ = K_Ln v_beat v_level v_flags x_ v_sent := by kernel_rfl
theorem K_Ln_dput_a {v_beat v_level v_flags v_a v_sent x_ : V} {H : Hp} {p : Addr} (h : H p = some (.dK (K_Ln v_beat v_level v_flags v_a v_sent))) : DPut H p (.str "a") x_ (upd H p (.dK (K_Ln v_beat v_level v_flags x_ v_sent))) := by
  have g := DPut.k (k := Sum.inr "a") (v := x_) h (small_ (by show 5 ≤ 16777215; decide))
  rw [K_Ln_put_a] at g; exact g
theorem K_Ln_dget_a {v_beat v_level v_flags v_a v_sent : V} {H : Hp} {p : Addr} (h : H p = some (.dK (K_Ln v_beat v_level v_flags v_a v_sent))) : DGet H p (.str "a") (some v_a) := by
  have g := DGet.k (k := Sum.inr "a") h
  rw [K_Ln_a] at g; exact g
theorem K_Ln_sent {v_beat v_level v_flags v_a v_sent : V} : valV (K_Ln v_beat v_level v_flags v_a v_sent) (Sum.inr "sent" : Key) = some v_sent := by kernel_rfl
theorem K_Ln_put_sent {v_beat v_level v_flags v_a v_sent x_ : V} : putK (K_Ln v_beat v_level v_flags v_a v_sent) (Sum.inr "sent" : Key) x_ = K_Ln v_beat v_level v_flags v_a x_ := by kernel_rfl
theorem K_Ln_dput_sent {v_beat v_level v_flags v_a v_sent x_ : V} {H : Hp} {p : Addr} (h : H p = some (.dK (K_Ln v_beat v_level v_flags v_a v_sent))) : DPut H p (.str "sent") x_ (upd H p (.dK (K_Ln v_beat v_level v_flags v_a x_))) := by
  have g := DPut.k (k := Sum.inr "sent") (v := x_) h (small_ (by show 5 ≤ 16777215; decide))
  rw [K_Ln_put_sent] at g; exact g
theorem K_Ln_dget_sent {v_beat v_level v_flags v_a v_sent : V} {H : Hp} {p : Addr} (h : H p = some (.dK (K_Ln v_beat v_level v_flags v_a v_sent))) : DGet H p (.str "sent") (some v_sent) := by
  have g := DGet.k (k := Sum.inr "sent") h
  rw [K_Ln_sent] at g; exact g
abbrev q_Ln (K : PySem.W.Frag) (p : Addr) (A : A_Ln) (D : R_Ln) : As := aC p (.dK (K_Ln (.int D.beat) (.int D.level) (.int D.flags) (.int D.a) (.ref A.sent)))
abbrev O_Ln (K : PySem.W.Frag) (p : Addr) (A : A_Ln) (D : R_Ln) : List As := [aC p (.dK (K_Ln (.int D.beat) (.int D.level) (.int D.flags) (.int D.a) (.ref A.sent))), aL A.sent D.sent]
def a_Ln (K : PySem.W.Frag) (A : A_Ln) (D : R_Ln) : As := aG (O_Ln K A.p_ A D)
def m__law_drawn_l1 (row_ : (List Int)) (k80 : Int) (s79 : Int × (List (Int × Int))) : Option (Int × (List (Int × Int))) :=
  (atI row_ (((1 : Int) + k80) % (60 : Int))).bind fun x92 =>
  (atI row_ (21 : Int)).bind fun x103 =>
  (atI ([(2 : Int), (4 : Int), (30 : Int)] : (List Int)) (x103 % (3 : Int))).bind fun x110 =>
  if 0 < x110 then
  (some ((s79.1 + (1 : Int)) + (x92 % x110))).bind fun n118 =>
  (atI row_ (((22 : Int) + k80) % (60 : Int))).bind fun x123 =>
  (snoc s79.2 (n118, (x123 + (k80 / (38 : Int))) % (4 : Int))).bind fun y134 =>
  some (n118, y134) else none
def m__law_drawn_l2 (row_ : (List Int)) (k232 : Int) (s231 : (List Int)) : Option ((List Int)) :=
  (atI row_ ((40 : Int) + k232)).bind fun x247 =>
  if ((x247 % (6 : Int)) = (0 : Int)) then
    (atI row_ k232).bind fun x260 =>
    (catL s231 ([((1024 : Int) * (1 : Int)) + (x260 % (4 : Int)), ((1024 : Int) * (3 : Int)) + (770 : Int)] : (List Int))).bind fun y271 =>
    some y271
  else
    if ((x247 % (6 : Int)) = (1 : Int)) then
      (atI row_ k232).bind fun x290 =>
      (catL s231 ([((1024 : Int) * (1 : Int)) + x290, ((1024 : Int) * (3 : Int)) + (773 : Int)] : (List Int))).bind fun y301 =>
      some y301
    else
      if ((x247 % (6 : Int)) < (4 : Int)) then
        (snoc s231 (((1024 : Int) * (2 : Int)) + (772 : Int))).bind fun y324 =>
        some y324
      else
        (snoc s231 (((1024 : Int) * (20 : Int)) + (0 : Int))).bind fun y332 =>
        some y332
def m__law_drawn (row_ : (List Int)) : Option (((List (Int × Int)) × (List Int))) :=
  (atI row_ (0 : Int)).bind fun x6 =>
  (atI row_ (58 : Int)).bind fun x17 =>
  (atI ([(20 : Int), (20 : Int), (20 : Int), (100 : Int)] : (List Int)) (x17 % (4 : Int))).bind fun x24 =>
  if 0 < x24 then
  if -(2 ^ 62) ≤ ((1 : Int) + (x6 % x24)) ∧ ((1 : Int) + (x6 % x24)) < 2 ^ 62 then
  (forS (m__law_drawn_l1 row_) (rangeL 0 (Int.toNat ((1 : Int) + (x6 % x24)))) ((0 : Int), ([] : (List (Int × Int))))).bind fun (s79 : Int × (List (Int × Int))) =>
  (forS (m__law_drawn_l2 row_) (rangeL 0 (Int.toNat (18 : Int))) ([] : (List Int))).bind fun (s231 : (List Int)) =>
  some (s79.2, s231) else none else none
section
variable {P : Program} {w : World} {K : PySem.W.Frag} {mg : Str → Option Value} {base : Heap}
def sp__law_drawn (K : PySem.W.Frag) : Sp := fun vs H Q E_ => ∃ (prow_ : Addr) (row_ : (List Int)) (r_ : ((List (Int × Int)) × (List Int))), vs = [.ref prow_] ∧ (oks H [aL prow_ row_] ∧ (owns [aL prow_ row_]).Nodup ∧ m__law_drawn row_ = some r_ ∧ (∀ (H' : Hp) (pz : Addr) (pz0 : Addr) (pz1 : Addr), Sep (owns [aL prow_ row_]) H H' [aT pz [(.ref pz0), (.ref pz1)], aL pz0 r_.1, aL pz1 r_.2, aL prow_ row_] → Q (.ref pz) H'))
abbrev N__law_drawn : List Str := ["_law_row", "_law_line", "_law_beat_here", "_law_k", "_law_deeds", "_law_way"]
theorem sc__law_drawn : FnScope N__law_drawn ["_law_row"] (defScope s__law_drawn) := ⟨rfl, rfl, rfl, by decide +kernel, rfl, by decide +kernel, by decide +kernel⟩
theorem ok__law_drawn (T : Txt K mg) : Ok P w K mg base CX0 1 (He.fAd K ("_law_drawn", none)) ["_law_row"] (sp__law_drawn K) := by
  obtain ⟨fd, F⟩ := T.d__law_drawn
  refine ⟨fd, F.ok sc__law_drawn (fun vs H Q E h => by obtain ⟨prow_, row_, r_, rfl, _⟩ := h; rfl) (fun cdv A_ outer s_ H vs Q E hr h => ?_), F.bindsN (fun _ _ _ _ _ _ us hl => match us, hl with | [_], _ => rfl), F.kp⟩
  obtain ⟨prow_, row_, r_, rfl, h⟩ := h
  have hu := hu_of hr
  refine ⟨_, PSs.nox (pss_cons (ps_set (i := 1) sc__law_drawn.nd rfl (.inl rfl) (pe_lst pa_nil))
  (pss_cons (ps_set (i := 2) sc__law_drawn.nd rfl (.inl rfl) pe_int)
  (pss_cons (ps_for PassesOwn.never rfl (pi_range1 (by rfl) T.f_range (pa_cons (pe_op op_add pe_int (pe_op op_mod (pe_ix ix_list (pv 0) pe_int (fun _ _ => rfl)) (pe_ix ix_list (pe_lst (pa_cons pe_int (pa_cons pe_int (pa_cons pe_int (pa_cons pe_int pa_nil))))) (pe_op op_mod (pe_ix ix_list (pv 0) pe_int (fun _ _ => rfl)) pe_int) (fun _ _ => rfl)))) pa_nil)) (pg_name (i := 3) sc__law_drawn.nd rfl (.inl rfl)) (pss_cons (ps_set (i := 2) sc__law_drawn.nd rfl (.inl rfl) (pe_op op_add (pe_op op_add (pv 2) pe_int) (pe_op op_mod (pe_ix ix_list (pv 0) (pe_op op_mod (pe_op op_add pe_int (pv 3)) pe_int) (fun _ _ => rfl)) (pe_ix ix_list (pe_lst (pa_cons pe_int (pa_cons pe_int (pa_cons pe_int pa_nil)))) (pe_op op_mod (pe_ix ix_list (pv 0) pe_int (fun _ _ => rfl)) pe_int) (fun _ _ => rfl)))))
    (pss_one (ps_expr (pe_bm PySem.F.plainAttrs_list PySem.F.slot_list_append PySem.F.type_list_append mt_append (pv 1) (pa_cons (pe_tup (pa_cons (pv 2) (pa_cons (pe_op op_mod (pe_op op_add (pe_ix ix_list (pv 0) (pe_op op_mod (pe_op op_add pe_int (pv 3)) pe_int) (fun _ _ => rfl)) (pe_op op_fdiv (pv 3) pe_int)) pe_int) pa_nil))) pa_nil))))))
  (pss_cons (ps_set (i := 4) sc__law_drawn.nd rfl (.inl rfl) (pe_lst pa_nil))
  (pss_cons (ps_for PassesOwn.never rfl (pi_range1 (by rfl) T.f_range (pa_cons pe_int pa_nil)) (pg_name (i := 3) sc__law_drawn.nd rfl (.inl rfl)) (pss_cons (ps_set (i := 5) sc__law_drawn.nd rfl (.inl rfl) (pe_op op_mod (pe_ix ix_list (pv 0) (pe_op op_add pe_int (pv 3)) (fun _ _ => rfl)) pe_int))
    (pss_one (ps_if (pt_cmpR op_eq (pv 5) pe_int (nomark _)) (pss_one (ps_set (i := 4) sc__law_drawn.nd rfl (.inl rfl) (pe_op op_cat (pv 4) (pe_lst (pa_cons (pe_op op_add (pe_op op_mul pe_int pe_int) (pe_op op_mod (pe_ix ix_list (pv 0) (pv 3) (fun _ _ => rfl)) pe_int)) (pa_cons (pe_op op_add (pe_op op_mul pe_int pe_int) pe_int) pa_nil)))))) (pss_one (ps_if (pt_cmpR op_eq (pv 5) pe_int (nomark _)) (pss_one (ps_set (i := 4) sc__law_drawn.nd rfl (.inl rfl) (pe_op op_cat (pv 4) (pe_lst (pa_cons (pe_op op_add (pe_op op_mul pe_int pe_int) (pe_ix ix_list (pv 0) (pv 3) (fun _ _ => rfl))) (pa_cons (pe_op op_add (pe_op op_mul pe_int pe_int) pe_int) pa_nil)))))) (pss_one (ps_if (pt_cmpR op_lt (pv 5) pe_int (nomark _)) (pss_one (ps_expr (pe_bm PySem.F.plainAttrs_list PySem.F.slot_list_append PySem.F.type_list_append mt_append (pv 4) (pa_cons (pe_op op_add (pe_op op_mul pe_int pe_int) pe_int) pa_nil)))) (pss_one (ps_expr (pe_bm PySem.F.plainAttrs_list PySem.F.slot_list_append PySem.F.type_list_append mt_append (pv 4) (pa_cons (pe_op op_add (pe_op op_mul pe_int pe_int) pe_int) pa_nil))))))))))))
  (pss_one (ps_ret (pe_tup (pa_cons (pv 1) (pa_cons (pv 4) pa_nil)))))))))), ?_⟩
  obtain ⟨hp1, hp2, hm, q⟩ := h
  have hs := Sep.pre (L := [aL prow_ row_]) ⟨hp1, hp2⟩
  generalize owns [aL prow_ row_] = S0_ at hs q
  unfold m__law_drawn at hm
  clear hp1 hp2
  refine ⟨(by show 0 ≤ sizeLine; decide), fun p2 n3 => ?_⟩
  try dsimp only
  generalize ee_ : upd H p2 _ = H4
  replace hs := (hs.newL (ys := (([] : (List (Int × Int))) : (List (Int × Int)))) n3 (.nil)).cast ee_
  clear ee_
  obtain ⟨x6, ex6, hm⟩ := bnd hm
  obtain ⟨vs7, hl8, hv9⟩ := hs.lst 1 rfl
  obtain ⟨u10, hu11, hx12⟩ := hv9.ix ex6
  have hx12 : u10 = (.int x6) := hx12
  subst hx12
  refine ⟨_, rfl, _, _, _, _, rfl, rfl, SqL.of hl8, hu11, (by show 4 ≤ sizeLine; decide), fun p13 n14 => ?_⟩
  try dsimp only
  generalize ee_ : upd H4 p13 _ = H15
  replace hs := (hs.newL (ys := (([(20 : Int), (20 : Int), (20 : Int), (100 : Int)] : (List Int)) : (List Int))) n14 ((.cons imI (.cons imI (.cons imI (.cons imI .nil)))))).cast ee_
  clear ee_
  obtain ⟨x17, ex17, hm⟩ := bnd hm
  obtain ⟨vs18, hl19, hv20⟩ := hs.lst 2 rfl
  obtain ⟨u21, hu22, hx23⟩ := hv20.ix ex17
  have hx23 : u21 = (.int x17) := hx23
  subst hx23
  obtain ⟨x24, ex24, hm⟩ := bnd hm
  obtain ⟨vs25, hl26, hv27⟩ := hs.lst 0 rfl
  obtain ⟨u28, hu29, hx30⟩ := hv27.ix ex24
  have hx30 : u28 = (.int x24) := hx30
  subst hx30
  obtain ⟨g31, hm⟩ := gd hm
  obtain ⟨g32, hm⟩ := gd hm
  obtain ⟨z81, eL82, hm⟩ := bnd hm
  replace hs : Sep S0_ H H15 [aL p2 (([] : (List (Int × Int))) : (List (Int × Int))), aL prow_ row_] := ((hs.mv 2 rfl).mv 2 rfl).tk 2
  refine ⟨_, rfl, _, _, _, _, rfl, rfl, SqL.of hl19, hu22, _, _, rfl, rfl, (show (0 : Int) < (4 : Int) by decide), _, _, _, _, rfl, rfl, SqL.of hl26, hu29, _, _, rfl, rfl, g31, _, _, rfl, rfl, _, rfl, g32.1, g32.2, for_rangeN (lo := (0 : Int)) (n := (Int.toNat ((1 : Int) + (x6 % x24)))) (fun i87 σ89 H88 => ∃ (s79 : Int × (List (Int × Int))) (o86 : Option V), forS (m__law_drawn_l1 row_) ((rangeL 0 (Int.toNat ((1 : Int) + (x6 % x24)))).drop i87) s79 = some z81 ∧ Sep S0_ H H88 [aL p2 s79.2, aL prow_ row_] ∧ σ89 = [some (.ref prow_), some (.ref p2), some (.int s79.1), o86, none, none]) ⟨((0 : Int), ([] : (List (Int × Int)))), _, eL82, hs, rfl⟩ ?_ ?_⟩
  · rintro i87 σ89 H88 hi90 ⟨s79, o86, hf83, hs, rfl⟩
    obtain ⟨cN84, hm, hf83⟩ := forS_s (range_get hi90) hf83
    generalize hk_ : (0 : Int) + ((i87 : Nat) : Int) = k80 at hm ⊢
    unfold m__law_drawn_l1 at hm
    obtain ⟨x92, ex92, hm⟩ := bnd hm
    obtain ⟨vs93, hl94, hv95⟩ := hs.lst 1 rfl
    obtain ⟨u96, hu97, hx98⟩ := hv95.ix ex92
    have hx98 : u96 = (.int x92) := hx98
    subst hx98
    refine ⟨_, rfl, _, _, rfl, rfl, _, rfl, _, rfl, _, _, rfl, rfl, _, _, rfl, rfl, (show (0 : Int) < (60 : Int) by decide), _, _, _, _, rfl, rfl, SqL.of hl94, hu97, (by show 3 ≤ sizeLine; decide), fun p99 n100 => ?_⟩
    try dsimp only
    generalize ee_ : upd H88 p99 _ = H101
    replace hs := (hs.newL (ys := (([(2 : Int), (4 : Int), (30 : Int)] : (List Int)) : (List Int))) n100 ((.cons imI (.cons imI (.cons imI .nil))))).cast ee_
    clear ee_
    obtain ⟨x103, ex103, hm⟩ := bnd hm
    obtain ⟨vs104, hl105, hv106⟩ := hs.lst 2 rfl
    obtain ⟨u107, hu108, hx109⟩ := hv106.ix ex103
    have hx109 : u107 = (.int x103) := hx109
    subst hx109
    obtain ⟨x110, ex110, hm⟩ := bnd hm
    obtain ⟨vs111, hl112, hv113⟩ := hs.lst 0 rfl
    obtain ⟨u114, hu115, hx116⟩ := hv113.ix ex110
    have hx116 : u114 = (.int x110) := hx116
    subst hx116
    obtain ⟨g117, hm⟩ := gd hm
    refine ⟨_, rfl, _, _, _, _, rfl, rfl, SqL.of hl105, hu108, _, _, rfl, rfl, (show (0 : Int) < (3 : Int) by decide), _, _, _, _, rfl, rfl, SqL.of hl112, hu115, _, _, rfl, rfl, g117, _, _, rfl, rfl, ?_⟩
    obtain ⟨n118, en118, hm⟩ := bnd hm
    try dsimp only
    rw [Option.some.inj en118]
    have f119 := (hs.lst 1 rfl).choose_spec.1
    obtain ⟨x123, ex123, hm⟩ := bnd hm
    obtain ⟨vs124, hl125, hv126⟩ := hs.lst 2 rfl
    obtain ⟨u127, hu128, hx129⟩ := hv126.ix ex123
    have hx129 : u127 = (.int x123) := hx129
    subst hx129
    refine ⟨_, rfl, .inl ⟨rfl, _, SqL.of f119⟩, _, rfl, _, rfl, _, rfl, _, _, rfl, rfl, _, _, rfl, rfl, (show (0 : Int) < (60 : Int) by decide), _, _, _, _, rfl, rfl, SqL.of hl125, hu128, _, rfl, _, _, rfl, rfl, ⟨by decide, by decide⟩, _, _, rfl, rfl, _, _, rfl, rfl, (show (0 : Int) < (4 : Int) by decide), (by show 2 ≤ sizeLine; decide), fun t130 n131 => ?_⟩
    try dsimp only
    generalize ee_ : upd H101 t130 _ = H132
    replace hs := (hs.newTup n131 [(.int n118), (.int ((x123 + (k80 / (38 : Int))) % (4 : Int)))]).cast ee_
    clear ee_
    obtain ⟨y134, ey134, hm⟩ := bnd hm
    obtain ⟨vs120, hl121, hv122⟩ := hs.lst 2 rfl
    obtain ⟨g135, e136⟩ := snoc_eq ey134
    refine ⟨_, _, _, rfl, rfl, hl121, small_ (by have := hv122.length; omega), ?_⟩
    try dsimp only
    generalize ee_ : upd H132 p2 _ = H137
    replace hs := (hs.putL (ys := y134) 2 rfl hl121 (by rw [e136]; exact hv122.snoc (im2 (hs.tup 0 rfl) imI imI))).cast ee_
    clear ee_
    replace hs : Sep S0_ H H137 [aL p2 y134, aL prow_ row_] := ((hs.mv 3 rfl).mv 3 rfl).tk 2
    obtain rfl := Option.some.inj hm
    exact ⟨(n118, y134), _, hf83, hs, rfl⟩
  rintro σ89 H88 ⟨s79, o86, hf83, hs, rfl⟩
  have ez_ := forS_e (Nat.le_of_eq range_len) hf83
  subst ez_
  refine ⟨(by show 0 ≤ sizeLine; decide), fun p138 n139 => ?_⟩
  try dsimp only
  generalize ee_ : upd H88 p138 _ = H140
  replace hs := (hs.newL (ys := (([] : (List Int)) : (List Int))) n139 (.nil)).cast ee_
  clear ee_
  obtain ⟨z233, eL234, hm⟩ := bnd hm
  replace hs : Sep S0_ H H140 [aL p138 (([] : (List Int)) : (List Int)), aL p2 s79.2, aL prow_ row_] := hs.tk 3
  refine ⟨_, rfl, by decide, by decide, for_rangeN (lo := (0 : Int)) (n := (Int.toNat (18 : Int))) (fun i242 σ244 H243 => ∃ (s231 : (List Int)) (p238 : Addr) (o240 : Option V) (o241 : Option V), forS (m__law_drawn_l2 row_) ((rangeL 0 (Int.toNat (18 : Int))).drop i242) s231 = some z233 ∧ Sep S0_ H H243 [aL p238 s231, aL p2 s79.2, aL prow_ row_] ∧ σ244 = [some (.ref prow_), some (.ref p2), some (.int s79.1), o240, some (.ref p238), o241]) ⟨([] : (List Int)), p138, _, _, eL234, hs, rfl⟩ ?_ ?_⟩
  · rintro i242 σ244 H243 hi245 ⟨s231, p238, o240, o241, hf235, hs, rfl⟩
    obtain ⟨cN236, hm, hf235⟩ := forS_s (range_get hi245) hf235
    generalize hk_ : (0 : Int) + ((i242 : Nat) : Int) = k232 at hm ⊢
    unfold m__law_drawn_l2 at hm
    obtain ⟨x247, ex247, hm⟩ := bnd hm
    obtain ⟨vs248, hl249, hv250⟩ := hs.lst 2 rfl
    obtain ⟨u251, hu252, hx253⟩ := hv250.ix ex247
    have hx253 : u251 = (.int x247) := hx253
    subst hx253
    refine ⟨_, rfl, _, rfl, _, _, rfl, rfl, _, _, _, _, rfl, rfl, SqL.of hl249, hu252, _, _, rfl, rfl, (show (0 : Int) < (6 : Int) by decide), ?_⟩
    try dsimp only [tNext, gName]
    refine if_use hs (b := decide (((x247 % (6 : Int)) = (0 : Int)))) ?_ ?_
    · skip
      refine fun H256 hs Q_ hQ257 => ?_
      refine ⟨_, rfl, rfl, _, dI, ?_⟩
      exact hQ257 _ (hs.tl 0)
    intro H259 hs
    refine iteD (fun c258 => ?_) (fun c258 => ?_)
    · replace hm := ift c258 hm
      obtain ⟨x260, ex260, hm⟩ := bnd hm
      obtain ⟨vs261, hl262, hv263⟩ := hs.lst 2 rfl
      obtain ⟨u264, hu265, hx266⟩ := hv263.ix ex260
      have hx266 : u264 = (.int x260) := hx266
      subst hx266
      refine ⟨_, rfl, _, _, rfl, rfl, .inl ⟨by decide, by decide⟩, _, rfl, _, rfl, _, _, _, _, rfl, rfl, SqL.of hl262, hu265, _, _, rfl, rfl, (show (0 : Int) < (4 : Int) by decide), _, _, rfl, rfl, _, _, rfl, rfl, .inl ⟨by decide, by decide⟩, _, _, rfl, rfl, (by show 2 ≤ sizeLine; decide), fun p267 n268 => ?_⟩
      try dsimp only
      generalize ee_ : upd H259 p267 _ = H269
      replace hs := (hs.newL (ys := (([((1024 : Int) * (1 : Int)) + (x260 % (4 : Int)), ((1024 : Int) * (3 : Int)) + (770 : Int)] : (List Int)) : (List Int))) n268 ((.cons imI (.cons imI .nil)))).cast ee_
      clear ee_
      obtain ⟨y271, ey271, hm⟩ := bnd hm
      obtain ⟨vs272, hl273, hv274⟩ := hs.lst 1 rfl
      obtain ⟨vs275, hl276, hv277⟩ := hs.lst 0 rfl
      obtain ⟨g278, e279⟩ := catL_eq ey271
      refine ⟨_, _, _, _, rfl, rfl, hl273, hl276, small_le (by have := hv274.length; have := hv277.length; omega), fun p280 n281 => ?_⟩
      try dsimp only
      generalize ee_ : upd H269 p280 _ = H282
      replace hs := (hs.newL (ys := (y271 : (List Int))) n281 (by rw [e279]; exact hv274.app hv277)).cast ee_
      clear ee_
      replace hs : Sep S0_ H H282 [aL p280 y271, aL p2 s79.2, aL prow_ row_] := (((hs.mv 4 rfl).mv 4 rfl).mv 2 rfl).tk 3
      obtain rfl := Option.some.inj hm
      exact ⟨y271, p280, _, _, hf235, hs, rfl⟩
    · replace hm := ife c258 hm
      try dsimp only [tNext, gName]
      refine if_use hs (b := decide (((x247 % (6 : Int)) = (1 : Int)))) ?_ ?_
      · skip
        refine fun H286 hs Q_ hQ287 => ?_
        refine ⟨_, rfl, rfl, _, dI, ?_⟩
        exact hQ287 _ (hs.tl 0)
      intro H289 hs
      refine iteD (fun c288 => ?_) (fun c288 => ?_)
      · replace hm := ift c288 hm
        obtain ⟨x290, ex290, hm⟩ := bnd hm
        obtain ⟨vs291, hl292, hv293⟩ := hs.lst 2 rfl
        obtain ⟨u294, hu295, hx296⟩ := hv293.ix ex290
        have hx296 : u294 = (.int x290) := hx296
        subst hx296
        refine ⟨_, rfl, _, _, rfl, rfl, .inl ⟨by decide, by decide⟩, _, rfl, _, rfl, _, _, _, _, rfl, rfl, SqL.of hl292, hu295, _, _, rfl, rfl, _, _, rfl, rfl, .inl ⟨by decide, by decide⟩, _, _, rfl, rfl, (by show 2 ≤ sizeLine; decide), fun p297 n298 => ?_⟩
        try dsimp only
        generalize ee_ : upd H289 p297 _ = H299
        replace hs := (hs.newL (ys := (([((1024 : Int) * (1 : Int)) + x290, ((1024 : Int) * (3 : Int)) + (773 : Int)] : (List Int)) : (List Int))) n298 ((.cons imI (.cons imI .nil)))).cast ee_
        clear ee_
        obtain ⟨y301, ey301, hm⟩ := bnd hm
        obtain ⟨vs302, hl303, hv304⟩ := hs.lst 1 rfl
        obtain ⟨vs305, hl306, hv307⟩ := hs.lst 0 rfl
        obtain ⟨g308, e309⟩ := catL_eq ey301
        refine ⟨_, _, _, _, rfl, rfl, hl303, hl306, small_le (by have := hv304.length; have := hv307.length; omega), fun p310 n311 => ?_⟩
        try dsimp only
        generalize ee_ : upd H299 p310 _ = H312
        replace hs := (hs.newL (ys := (y301 : (List Int))) n311 (by rw [e309]; exact hv304.app hv307)).cast ee_
        clear ee_
        replace hs : Sep S0_ H H312 [aL p310 y301, aL p2 s79.2, aL prow_ row_] := (((hs.mv 4 rfl).mv 4 rfl).mv 2 rfl).tk 3
        obtain rfl := Option.some.inj hm
        exact ⟨y301, p310, _, _, hf235, hs, rfl⟩
      · replace hm := ife c288 hm
        try dsimp only [tNext, gName]
        refine if_use hs (b := decide (((x247 % (6 : Int)) < (4 : Int)))) ?_ ?_
        · skip
          refine fun H316 hs Q_ hQ317 => ?_
          refine ⟨_, rfl, _, _, rfl, rfl, _, rfl, ?_⟩
          exact hQ317 _ (hs.tl 0)
        intro H319 hs
        refine iteD (fun c318 => ?_) (fun c318 => ?_)
        · replace hm := ift c318 hm
          have f320 := (hs.lst 0 rfl).choose_spec.1
          obtain ⟨y324, ey324, hm⟩ := bnd hm
          obtain ⟨vs321, hl322, hv323⟩ := hs.lst 0 rfl
          obtain ⟨g325, e326⟩ := snoc_eq ey324
          refine ⟨_, rfl, .inl ⟨rfl, _, SqL.of f320⟩, _, _, rfl, rfl, .inl ⟨by decide, by decide⟩, _, _, rfl, rfl, _, _, _, rfl, rfl, hl322, small_ (by have := hv323.length; omega), ?_⟩
          try dsimp only
          generalize ee_ : upd H319 p238 _ = H327
          replace hs := (hs.putL (ys := y324) 0 rfl hl322 (by rw [e326]; exact hv323.snoc imI)).cast ee_
          clear ee_
          replace hs : Sep S0_ H H327 [aL p238 y324, aL p2 s79.2, aL prow_ row_] := hs.tk 3
          obtain rfl := Option.some.inj hm
          exact ⟨y324, p238, _, _, hf235, hs, rfl⟩
        · replace hm := ife c318 hm
          have f328 := (hs.lst 0 rfl).choose_spec.1
          obtain ⟨y332, ey332, hm⟩ := bnd hm
          obtain ⟨vs329, hl330, hv331⟩ := hs.lst 0 rfl
          obtain ⟨g333, e334⟩ := snoc_eq ey332
          refine ⟨_, rfl, .inl ⟨rfl, _, SqL.of f328⟩, _, _, rfl, rfl, .inl ⟨by decide, by decide⟩, _, _, rfl, rfl, _, _, _, rfl, rfl, hl330, small_ (by have := hv331.length; omega), ?_⟩
          try dsimp only
          generalize ee_ : upd H319 p238 _ = H335
          replace hs := (hs.putL (ys := y332) 0 rfl hl330 (by rw [e334]; exact hv331.snoc imI)).cast ee_
          clear ee_
          replace hs : Sep S0_ H H335 [aL p238 y332, aL p2 s79.2, aL prow_ row_] := hs.tk 3
          obtain rfl := Option.some.inj hm
          exact ⟨y332, p238, _, _, hf235, hs, rfl⟩
  rintro σ244 H243 ⟨s231, p238, o240, o241, hf235, hs, rfl⟩
  have ez_ := forS_e (Nat.le_of_eq range_len) hf235
  subst ez_
  refine ⟨_, rfl, _, rfl, (by show 2 ≤ sizeLine; decide), fun t336 n337 => ?_⟩
  try dsimp only
  generalize ee_ : upd H243 t336 _ = H338
  replace hs := (hs.newTup n337 [.ref p2, .ref p238]).cast ee_
  clear ee_
  replace hs : Sep S0_ H H338 [aT t336 [.ref p2, .ref p238], aL p2 s79.2, aL p238 s231, aL prow_ row_] := hs.pick [3, 2, 3, 3] 4 (by kernel_rfl)
  obtain rfl := Option.some.inj hm
  exact q H338 t336 p2 p238 hs
end
def m__law_beat (stand_ : R_Ln) (values_ : (List (Int × Int))) : Option (R_Ln) :=
  (some ((lookI values_ (stand_.beat + (1 : Int))).getD stand_.level)).bind fun n11 =>
  (if (((stand_.level % (2 : Int)) = (0 : Int)) ∧ ((n11 % (2 : Int)) = (1 : Int))) then
    some (Builtin.bitOr stand_.flags (2 : Int))
  else
    some stand_.flags).bind fun (j39 : Int) =>
  some ({ stand_ with beat := stand_.beat + (1 : Int), level := n11, flags := j39 })
section
variable {P : Program} {w : World} {K : PySem.W.Frag} {mg : Str → Option Value} {base : Heap}
def sp__law_beat (K : PySem.W.Frag) : Sp := fun vs H Q E_ => ∃ (Astand_ : A_Ln) (stand_ : R_Ln) (pvalues_ : Addr) (values_ : (List (Int × Int))) (r_ : R_Ln), vs = [.ref Astand_.p_, .ref pvalues_] ∧ (oks H [a_Ln K Astand_ stand_, aC pvalues_ (.dK (lineK values_))] ∧ (owns [a_Ln K Astand_ stand_, aC pvalues_ (.dK (lineK values_))]).Nodup ∧ m__law_beat stand_ values_ = some r_ ∧ (∀ (H' : Hp) (Bstand_ : A_Ln), Sep (owns [a_Ln K Astand_ stand_, aC pvalues_ (.dK (lineK values_))]) H H' [a_Ln K (Bstand_.w Astand_.p_) r_, aC pvalues_ (.dK (lineK values_))] → Q .non H'))
abbrev N__law_beat : List Str := ["_law_stand", "_law_values", "_law_value"]
theorem sc__law_beat : FnScope N__law_beat ["_law_stand", "_law_values"] (defScope s__law_beat) := ⟨rfl, rfl, rfl, by decide +kernel, rfl, by decide +kernel, by decide +kernel⟩
theorem ok__law_beat (T : Txt K mg) : Ok P w K mg base CX0 1 (He.fAd K ("_law_beat", none)) ["_law_stand", "_law_values"] (sp__law_beat K) := by
  obtain ⟨fd, F⟩ := T.d__law_beat
  refine ⟨fd, F.ok sc__law_beat (fun vs H Q E h => by obtain ⟨Astand_, stand_, pvalues_, values_, r_, rfl, _⟩ := h; rfl) (fun cdv A_ outer s_ H vs Q E hr h => ?_), F.bindsN (fun _ _ _ _ _ _ us hl => match us, hl with | [_, _], _ => rfl), F.kp⟩
  obtain ⟨Astand_, stand_, pvalues_, values_, r_, rfl, h⟩ := h
  have hu := hu_of hr
  refine ⟨_, PSs.nox (pss_cons (ps_dput hu (pv 0) pe_str (pe_op op_add (pe_dget hu (pv 0) pe_str (fun _ _ => rfl)) pe_int) rfl)
  (pss_cons (ps_set (i := 2) sc__law_beat.nd rfl (.inl rfl) (pe_dget2 hu (pv 1) (pe_dget hu (pv 0) pe_str (fun _ _ => rfl)) (pe_dget hu (pv 0) pe_str (fun _ _ => rfl)) ⟨rfl, rfl, rfl, rfl⟩))
  (C8.pss_cut (ps_if (PW.pt (pw_and (pt_cmpR op_eq (pe_op op_mod (pe_dget hu (pv 0) pe_str (fun _ _ => rfl)) pe_int) pe_int (nomark _)) (pw_and1 (pt_cmpR op_eq (pe_op op_mod (pv 2) pe_int) pe_int (nomark _))))) (pss_one (ps_dput hu (pv 0) pe_str (pe_op op_or (pe_dget hu (pv 0) pe_str (fun _ _ => rfl)) pe_int) rfl)) pss_nil)
  (pss_one (ps_dput hu (pv 0) pe_str (pv 2) rfl))))), ?_⟩
  obtain ⟨hp1, hp2, hm, q⟩ := h
  have hs := Sep.pre (L := [a_Ln K Astand_ stand_, aC pvalues_ (.dK (lineK values_))]) ⟨hp1, hp2⟩
  generalize owns [a_Ln K Astand_ stand_, aC pvalues_ (.dK (lineK values_))] = S0_ at hs q
  unfold m__law_beat at hm
  clear hp1 hp2
  replace hs := hs.opn 0 rfl
  replace hs : Sep S0_ H H (O_Ln K Astand_.p_ Astand_ stand_ ++ [aC pvalues_ (.dK (lineK values_))]) := hs
  have f4 := hs.cel 0 rfl
  have f5 := hs.cel 0 rfl
  refine ⟨_, rfl, _, _, rfl, K_Ln_dget_beat f4, _, _, rfl, rfl, _, rfl, _, _, rfl, K_Ln_dput_beat f5, ?_⟩
  try dsimp only
  generalize ee_ : upd H Astand_.p_ _ = H6
  replace hs := (hs.putC 0 rfl trivial (.dK (K_Ln (.int (stand_.beat + (1 : Int))) (.int stand_.level) (.int stand_.flags) (.int stand_.a) (.ref Astand_.sent)))).cast ee_
  clear ee_
  have f7 := hs.cel 2 rfl
  have f8 := hs.cel 0 rfl
  have f9 := hs.cel 0 rfl
  have f10 := hs.cel 2 rfl
  refine ⟨_, rfl, _, rfl, .inl ⟨_, .inl f7⟩, _, rfl, _, _, rfl, K_Ln_dget_beat f8, _, rfl, _, _, rfl, K_Ln_dget_level f9, _, .inl ⟨_, Sum.inl (stand_.beat + (1 : Int)), .inl f10, rfl, (valV_lineK _ _).symm⟩, ?_⟩
  rw [getI_map]
  obtain ⟨n11, en11, hm⟩ := bnd hm
  try dsimp only
  rw [Option.some.inj en11]
  obtain ⟨j39, es40, hm⟩ := bnd hm
  refine ⟨fun σ' H41 => Sep S0_ H H41 [aC Astand_.p_ (.dK (K_Ln (.int (stand_.beat + (1 : Int))) (.int stand_.level) (.int j39) (.int stand_.a) (.ref Astand_.sent))), aL Astand_.sent stand_.sent, aC pvalues_ (.dK (lineK values_))] ∧ σ' = [some (.ref Astand_.p_), some (.ref pvalues_), some (.int n11)], ?_, ?_⟩
  · have hm := es40
    try dsimp only [tNext, gName]
    refine if_use hs (b := decide ((((stand_.level % (2 : Int)) = (0 : Int)) ∧ ((n11 % (2 : Int)) = (1 : Int))))) ?_ ?_
    · skip
      refine ev_and (P := ((stand_.level % (2 : Int)) = (0 : Int))) (R := ((n11 % (2 : Int)) = (1 : Int))) ?_ (fun c58 => ?_)
      · skip
        refine fun H59 hs Q_ hQ60 => ?_
        have f61 := hs.cel 0 rfl
        refine ⟨_, rfl, _, _, rfl, K_Ln_dget_level f61, _, _, rfl, rfl, (show (0 : Int) < (2 : Int) by decide), rfl, _, dI, ?_⟩
        exact hQ60 _ (hs.tl 0)
      · skip
        refine fun H62 hs Q_ hQ63 => ?_
        refine ⟨_, rfl, _, _, rfl, rfl, (show (0 : Int) < (2 : Int) by decide), rfl, _, dI, ?_⟩
        exact hQ63 _ (hs.tl 0)
    intro H65 hs
    refine iteD (fun c64 => ?_) (fun c64 => ?_)
    · replace hm := ift c64 hm
      have f66 := hs.cel 0 rfl
      have f67 := hs.cel 0 rfl
      refine ⟨_, rfl, _, _, rfl, K_Ln_dget_flags f66, _, _, rfl, rfl, _, rfl, _, _, rfl, K_Ln_dput_flags f67, ?_⟩
      try dsimp only
      generalize ee_ : upd H65 Astand_.p_ _ = H68
      replace hs := (hs.putC 0 rfl trivial (.dK (K_Ln (.int (stand_.beat + (1 : Int))) (.int stand_.level) (.int (Builtin.bitOr stand_.flags (2 : Int))) (.int stand_.a) (.ref Astand_.sent)))).cast ee_
      clear ee_
      replace hs : Sep S0_ H H68 [aC Astand_.p_ (.dK (K_Ln (.int (stand_.beat + (1 : Int))) (.int stand_.level) (.int (Builtin.bitOr stand_.flags (2 : Int))) (.int stand_.a) (.ref Astand_.sent))), aL Astand_.sent stand_.sent, aC pvalues_ (.dK (lineK values_))] := hs.tk 3
      obtain rfl := Option.some.inj hm
      exact ⟨hs, rfl⟩
    · replace hm := ife c64 hm
      replace hs : Sep S0_ H H65 [aC Astand_.p_ (.dK (K_Ln (.int (stand_.beat + (1 : Int))) (.int stand_.level) (.int stand_.flags) (.int stand_.a) (.ref Astand_.sent))), aL Astand_.sent stand_.sent, aC pvalues_ (.dK (lineK values_))] := hs.tk 3
      obtain rfl := Option.some.inj hm
      exact ⟨hs, rfl⟩
  rintro σ' H41 ⟨hs, rfl⟩
  have f69 := hs.cel 0 rfl
  refine ⟨_, rfl, _, rfl, _, _, rfl, K_Ln_dput_level f69, ?_⟩
  try dsimp only
  generalize ee_ : upd H41 Astand_.p_ _ = H70
  replace hs := (hs.putC 0 rfl trivial (.dK (K_Ln (.int (stand_.beat + (1 : Int))) (.int n11) (.int j39) (.int stand_.a) (.ref Astand_.sent)))).cast ee_
  clear ee_
  replace hs : Sep S0_ H H70 [a_Ln K Astand_ ({ stand_ with beat := stand_.beat + (1 : Int), level := n11, flags := j39 }), aC pvalues_ (.dK (lineK values_))] := hs.cl [1,1] 2 (by kernel_rfl)
  replace hs : Sep S0_ H H70 [a_Ln K Astand_ ({ stand_ with beat := stand_.beat + (1 : Int), level := n11, flags := j39 }), aC pvalues_ (.dK (lineK values_))] := hs.tk 2
  obtain rfl := Option.some.inj hm
  exact q H70 Astand_ hs
end
def m__law_step_l1 (values_ : (List (Int × Int))) (k182 : Int) (s181 : Int × Int × Int × Int × (List (Int × Int))) : Option (Int × Int × Int × Int × (List (Int × Int))) :=
  (m__law_beat (R_Ln.mk s181.1 s181.2.1 s181.2.2.1 s181.2.2.2.1 s181.2.2.2.2) values_).bind fun r196 =>
  some (r196.beat, r196.level, r196.flags, r196.a, r196.sent)
def m__law_step (stand_ : R_Ln) (word_ : Int) (values_ : (List (Int × Int))) : Option (R_Ln) :=
  (if ((word_ / (1024 : Int)) = (1 : Int)) then
    some (word_ % (1024 : Int))
  else
    some stand_.a).bind fun (j12 : Int) =>
  (if ((word_ / (1024 : Int)) = (2 : Int)) then
    some stand_.level
  else
    some j12).bind fun (j32 : Int) =>
  (if (((word_ / (1024 : Int)) = (3 : Int)) ∧ ((word_ % (1024 : Int)) = (770 : Int))) then
    some (stand_.flags - (Builtin.bitAnd stand_.flags j32))
  else
    some stand_.flags).bind fun (j69 : Int) =>
  (if (((word_ / (1024 : Int)) = (3 : Int)) ∧ ((word_ % (1024 : Int)) = (773 : Int))) then
    (snoc stand_.sent (stand_.beat, j32)).bind fun y166 =>
    some y166
  else
    some stand_.sent).bind fun (j132 : (List (Int × Int))) =>
  if -(2 ^ 62) ≤ ((1 : Int) + (if decide ((word_ / (1024 : Int)) ∈ ([(2 : Int), (3 : Int)] : (List Int))) = true then (1 : Int) else 0)) ∧ ((1 : Int) + (if decide ((word_ / (1024 : Int)) ∈ ([(2 : Int), (3 : Int)] : (List Int))) = true then (1 : Int) else 0)) < 2 ^ 62 then
  (forS (m__law_step_l1 values_) (rangeL 0 (Int.toNat ((1 : Int) + (if decide ((word_ / (1024 : Int)) ∈ ([(2 : Int), (3 : Int)] : (List Int))) = true then (1 : Int) else 0)))) (stand_.beat, stand_.level, j69, j32, j132)).bind fun (s181 : Int × Int × Int × Int × (List (Int × Int))) =>
  some (R_Ln.mk s181.1 s181.2.1 s181.2.2.1 s181.2.2.2.1 s181.2.2.2.2) else none
section
variable {P : Program} {w : World} {K : PySem.W.Frag} {mg : Str → Option Value} {base : Heap}
def sp__law_step (K : PySem.W.Frag) : Sp := fun vs H Q E_ => ∃ (Astand_ : A_Ln) (stand_ : R_Ln) (word_ : Int) (pvalues_ : Addr) (values_ : (List (Int × Int))) (r_ : R_Ln), vs = [.ref Astand_.p_, (.int word_), .ref pvalues_] ∧ (oks H [a_Ln K Astand_ stand_, aC pvalues_ (.dK (lineK values_))] ∧ (owns [a_Ln K Astand_ stand_, aC pvalues_ (.dK (lineK values_))]).Nodup ∧ m__law_step stand_ word_ values_ = some r_ ∧ (∀ (H' : Hp) (Bstand_ : A_Ln), Sep (owns [a_Ln K Astand_ stand_, aC pvalues_ (.dK (lineK values_))]) H H' [a_Ln K (Bstand_.w Astand_.p_) r_, aC pvalues_ (.dK (lineK values_))] → Q .non H'))
abbrev N__law_step : List Str := ["_law_stand", "_law_word", "_law_values", "_law_op", "_law_x", "_law_k"]
theorem sc__law_step : FnScope N__law_step ["_law_stand", "_law_word", "_law_values"] (defScope s__law_step) := ⟨rfl, rfl, rfl, by decide +kernel, rfl, by decide +kernel, by decide +kernel⟩
theorem ok__law_step (T : Txt K mg) : Ok P w K mg base CX0 2 (He.fAd K ("_law_step", none)) ["_law_stand", "_law_word", "_law_values"] (sp__law_step K) := by
  obtain ⟨_, G__law_beat, b__law_beat, kp__law_beat⟩ := ok__law_beat (P := P) (w := w) (base := base) T
  obtain ⟨fd, F⟩ := T.d__law_step
  refine ⟨fd, F.ok sc__law_step (fun vs H Q E h => by obtain ⟨Astand_, stand_, word_, pvalues_, values_, r_, rfl, _⟩ := h; rfl) (fun cdv A_ outer s_ H vs Q E hr h => ?_), F.bindsN (fun _ _ _ _ _ _ us hl => match us, hl with | [_, _, _], _ => rfl), F.kp⟩
  obtain ⟨Astand_, stand_, word_, pvalues_, values_, r_, rfl, h⟩ := h
  have hu := hu_of hr
  refine ⟨_, PSs.nox (pss_cons (ps_par (i := 3) (j := 4) (by rfl) sc__law_step.nd rfl rfl (by decide) rfl rfl (pa_cons (pe_op op_fdiv (pv 1) pe_int) (pa_cons (pe_op op_mod (pv 1) pe_int) pa_nil)) (by rfl))
  (C8.pss_cut (ps_if (pt_cmpR op_eq (pv 3) pe_int (nomark _)) (pss_one (ps_dput hu (pv 0) pe_str (pv 4) rfl)) pss_nil)
  (C8.pss_cut (ps_if (pt_cmpR op_eq (pv 3) pe_int (nomark _)) (pss_one (ps_dput hu (pv 0) pe_str (pe_dget hu (pv 0) pe_str (fun _ _ => rfl)) rfl)) pss_nil)
  (C8.pss_cut (ps_if (PW.pt (pw_and (pt_cmpR op_eq (pv 3) pe_int (nomark _)) (pw_and1 (pt_cmpR op_eq (pv 4) pe_int (nomark _))))) (pss_one (ps_dput hu (pv 0) pe_str (pe_op op_sub (pe_dget hu (pv 0) pe_str (fun _ _ => rfl)) (pe_op op_and (pe_dget hu (pv 0) pe_str (fun _ _ => rfl)) (pe_dget hu (pv 0) pe_str (fun _ _ => rfl)))) rfl)) pss_nil)
  (C8.pss_cut (ps_if (PW.pt (pw_and (pt_cmpR op_eq (pv 3) pe_int (nomark _)) (pw_and1 (pt_cmpR op_eq (pv 4) pe_int (nomark _))))) (pss_one (ps_expr (pe_bm PySem.F.plainAttrs_list PySem.F.slot_list_append PySem.F.type_list_append mt_append (pe_dget hu (pv 0) pe_str (fun _ _ => rfl)) (pa_cons (pe_tup (pa_cons (pe_dget hu (pv 0) pe_str (fun _ _ => rfl)) (pa_cons (pe_dget hu (pv 0) pe_str (fun _ _ => rfl)) pa_nil))) pa_nil)))) pss_nil)
  (pss_one (ps_for PassesOwn.never rfl (pi_range1 (by rfl) T.f_range (pa_cons (pe_op op_add pe_int (pe_callTy call_int1 (by rfl) T.f_int (by decide +kernel) (pa_cons (pe_cmpR op_in_seq (pv 3) (pe_lst (pa_cons pe_int (pa_cons pe_int pa_nil))) (by rfl)) pa_nil))) pa_nil)) (pg_name (i := 5) sc__law_step.nd rfl (.inl rfl)) (pss_one (ps_expr (pe_call G__law_beat (hr.mono (by decide)) (by rfl) T.g__law_beat kp__law_beat b__law_beat .nil pass0 (pa_cons (pv 0) (pa_cons (pv 2) pa_nil)))))))))))), ?_⟩
  obtain ⟨hp1, hp2, hm, q⟩ := h
  have hs := Sep.pre (L := [a_Ln K Astand_ stand_, aC pvalues_ (.dK (lineK values_))]) ⟨hp1, hp2⟩
  generalize owns [a_Ln K Astand_ stand_, aC pvalues_ (.dK (lineK values_))] = S0_ at hs q
  unfold m__law_step at hm
  clear hp1 hp2
  replace hs := hs.opn 0 rfl
  replace hs : Sep S0_ H H (O_Ln K Astand_.p_ Astand_ stand_ ++ [aC pvalues_ (.dK (lineK values_))]) := hs
  refine ⟨_, rfl, _, _, rfl, rfl, ⟨by decide, by decide⟩, _, rfl, _, _, rfl, rfl, (show (0 : Int) < (1024 : Int) by decide), _, _, rfl, ?_⟩
  obtain ⟨j12, es13, hm⟩ := bnd hm
  refine ⟨fun σ' H14 => Sep S0_ H H14 [aC Astand_.p_ (.dK (K_Ln (.int stand_.beat) (.int stand_.level) (.int stand_.flags) (.int j12) (.ref Astand_.sent))), aL Astand_.sent stand_.sent, aC pvalues_ (.dK (lineK values_))] ∧ σ' = [some (.ref Astand_.p_), some (.int word_), some (.ref pvalues_), some (.int (word_ / (1024 : Int))), some (.int (word_ % (1024 : Int))), none], ?_, ?_⟩
  · have hm := es13
    try dsimp only [tNext, gName]
    refine if_use hs (b := decide (((word_ / (1024 : Int)) = (1 : Int)))) ?_ ?_
    · skip
      refine fun H17 hs Q_ hQ18 => ?_
      refine ⟨_, rfl, rfl, _, dI, ?_⟩
      exact hQ18 _ (hs.tl 0)
    intro H20 hs
    refine iteD (fun c19 => ?_) (fun c19 => ?_)
    · replace hm := ift c19 hm
      have f21 := hs.cel 0 rfl
      refine ⟨_, rfl, _, rfl, _, _, rfl, K_Ln_dput_a f21, ?_⟩
      try dsimp only
      generalize ee_ : upd H20 Astand_.p_ _ = H22
      replace hs := (hs.putC 0 rfl trivial (.dK (K_Ln (.int stand_.beat) (.int stand_.level) (.int stand_.flags) (.int (word_ % (1024 : Int))) (.ref Astand_.sent)))).cast ee_
      clear ee_
      replace hs : Sep S0_ H H22 [aC Astand_.p_ (.dK (K_Ln (.int stand_.beat) (.int stand_.level) (.int stand_.flags) (.int (word_ % (1024 : Int))) (.ref Astand_.sent))), aL Astand_.sent stand_.sent, aC pvalues_ (.dK (lineK values_))] := hs.tk 3
      obtain rfl := Option.some.inj hm
      exact ⟨hs, rfl⟩
    · replace hm := ife c19 hm
      replace hs : Sep S0_ H H20 (O_Ln K Astand_.p_ Astand_ stand_ ++ [aC pvalues_ (.dK (lineK values_))]) := hs.tk 3
      obtain rfl := Option.some.inj hm
      exact ⟨hs, rfl⟩
  rintro σ' H14 ⟨hs, rfl⟩
  obtain ⟨j32, es33, hm⟩ := bnd hm
  refine ⟨fun σ' H34 => Sep S0_ H H34 [aC Astand_.p_ (.dK (K_Ln (.int stand_.beat) (.int stand_.level) (.int stand_.flags) (.int j32) (.ref Astand_.sent))), aL Astand_.sent stand_.sent, aC pvalues_ (.dK (lineK values_))] ∧ σ' = [some (.ref Astand_.p_), some (.int word_), some (.ref pvalues_), some (.int (word_ / (1024 : Int))), some (.int (word_ % (1024 : Int))), none], ?_, ?_⟩
  · have hm := es33
    try dsimp only [tNext, gName]
    refine if_use hs (b := decide (((word_ / (1024 : Int)) = (2 : Int)))) ?_ ?_
    · skip
      refine fun H37 hs Q_ hQ38 => ?_
      refine ⟨_, rfl, rfl, _, dI, ?_⟩
      exact hQ38 _ (hs.tl 0)
    intro H40 hs
    refine iteD (fun c39 => ?_) (fun c39 => ?_)
    · replace hm := ift c39 hm
      have f41 := hs.cel 0 rfl
      have f42 := hs.cel 0 rfl
      refine ⟨_, rfl, _, _, rfl, K_Ln_dget_level f41, _, rfl, _, _, rfl, K_Ln_dput_a f42, ?_⟩
      try dsimp only
      generalize ee_ : upd H40 Astand_.p_ _ = H43
      replace hs := (hs.putC 0 rfl trivial (.dK (K_Ln (.int stand_.beat) (.int stand_.level) (.int stand_.flags) (.int stand_.level) (.ref Astand_.sent)))).cast ee_
      clear ee_
      replace hs : Sep S0_ H H43 [aC Astand_.p_ (.dK (K_Ln (.int stand_.beat) (.int stand_.level) (.int stand_.flags) (.int stand_.level) (.ref Astand_.sent))), aL Astand_.sent stand_.sent, aC pvalues_ (.dK (lineK values_))] := hs.tk 3
      obtain rfl := Option.some.inj hm
      exact ⟨hs, rfl⟩
    · replace hm := ife c39 hm
      replace hs : Sep S0_ H H40 [aC Astand_.p_ (.dK (K_Ln (.int stand_.beat) (.int stand_.level) (.int stand_.flags) (.int j12) (.ref Astand_.sent))), aL Astand_.sent stand_.sent, aC pvalues_ (.dK (lineK values_))] := hs.tk 3
      obtain rfl := Option.some.inj hm
      exact ⟨hs, rfl⟩
  rintro σ' H34 ⟨hs, rfl⟩
  obtain ⟨j69, es70, hm⟩ := bnd hm
  refine ⟨fun σ' H71 => Sep S0_ H H71 [aC Astand_.p_ (.dK (K_Ln (.int stand_.beat) (.int stand_.level) (.int j69) (.int j32) (.ref Astand_.sent))), aL Astand_.sent stand_.sent, aC pvalues_ (.dK (lineK values_))] ∧ σ' = [some (.ref Astand_.p_), some (.int word_), some (.ref pvalues_), some (.int (word_ / (1024 : Int))), some (.int (word_ % (1024 : Int))), none], ?_, ?_⟩
  · have hm := es70
    try dsimp only [tNext, gName]
    refine if_use hs (b := decide ((((word_ / (1024 : Int)) = (3 : Int)) ∧ ((word_ % (1024 : Int)) = (770 : Int))))) ?_ ?_
    · skip
      refine ev_and (P := ((word_ / (1024 : Int)) = (3 : Int))) (R := ((word_ % (1024 : Int)) = (770 : Int))) ?_ (fun c85 => ?_)
      · skip
        refine fun H86 hs Q_ hQ87 => ?_
        refine ⟨_, rfl, rfl, _, dI, ?_⟩
        exact hQ87 _ (hs.tl 0)
      · skip
        refine fun H88 hs Q_ hQ89 => ?_
        refine ⟨_, rfl, rfl, _, dI, ?_⟩
        exact hQ89 _ (hs.tl 0)
    intro H91 hs
    refine iteD (fun c90 => ?_) (fun c90 => ?_)
    · replace hm := ift c90 hm
      have f92 := hs.cel 0 rfl
      have f93 := hs.cel 0 rfl
      have f94 := hs.cel 0 rfl
      have f95 := hs.cel 0 rfl
      refine ⟨_, rfl, _, _, rfl, K_Ln_dget_flags f92, _, rfl, _, _, rfl, K_Ln_dget_flags f93, _, rfl, _, _, rfl, K_Ln_dget_a f94, _, _, rfl, rfl, _, _, rfl, rfl, _, rfl, _, _, rfl, K_Ln_dput_flags f95, ?_⟩
      try dsimp only
      generalize ee_ : upd H91 Astand_.p_ _ = H96
      replace hs := (hs.putC 0 rfl trivial (.dK (K_Ln (.int stand_.beat) (.int stand_.level) (.int (stand_.flags - (Builtin.bitAnd stand_.flags j32))) (.int j32) (.ref Astand_.sent)))).cast ee_
      clear ee_
      replace hs : Sep S0_ H H96 [aC Astand_.p_ (.dK (K_Ln (.int stand_.beat) (.int stand_.level) (.int (stand_.flags - (Builtin.bitAnd stand_.flags j32))) (.int j32) (.ref Astand_.sent))), aL Astand_.sent stand_.sent, aC pvalues_ (.dK (lineK values_))] := hs.tk 3
      obtain rfl := Option.some.inj hm
      exact ⟨hs, rfl⟩
    · replace hm := ife c90 hm
      replace hs : Sep S0_ H H91 [aC Astand_.p_ (.dK (K_Ln (.int stand_.beat) (.int stand_.level) (.int stand_.flags) (.int j32) (.ref Astand_.sent))), aL Astand_.sent stand_.sent, aC pvalues_ (.dK (lineK values_))] := hs.tk 3
      obtain rfl := Option.some.inj hm
      exact ⟨hs, rfl⟩
  rintro σ' H71 ⟨hs, rfl⟩
  obtain ⟨j132, es133, hm⟩ := bnd hm
  refine ⟨fun σ' H134 => Sep S0_ H H134 [aC Astand_.p_ (.dK (K_Ln (.int stand_.beat) (.int stand_.level) (.int j69) (.int j32) (.ref Astand_.sent))), aL Astand_.sent j132, aC pvalues_ (.dK (lineK values_))] ∧ σ' = [some (.ref Astand_.p_), some (.int word_), some (.ref pvalues_), some (.int (word_ / (1024 : Int))), some (.int (word_ % (1024 : Int))), none], ?_, ?_⟩
  · have hm := es133
    try dsimp only [tNext, gName]
    refine if_use hs (b := decide ((((word_ / (1024 : Int)) = (3 : Int)) ∧ ((word_ % (1024 : Int)) = (773 : Int))))) ?_ ?_
    · skip
      refine ev_and (P := ((word_ / (1024 : Int)) = (3 : Int))) (R := ((word_ % (1024 : Int)) = (773 : Int))) ?_ (fun c148 => ?_)
      · skip
        refine fun H149 hs Q_ hQ150 => ?_
        refine ⟨_, rfl, rfl, _, dI, ?_⟩
        exact hQ150 _ (hs.tl 0)
      · skip
        refine fun H151 hs Q_ hQ152 => ?_
        refine ⟨_, rfl, rfl, _, dI, ?_⟩
        exact hQ152 _ (hs.tl 0)
    intro H154 hs
    refine iteD (fun c153 => ?_) (fun c153 => ?_)
    · replace hm := ift c153 hm
      have f155 := hs.cel 0 rfl
      have f156 := (hs.lst 1 rfl).choose_spec.1
      have f160 := hs.cel 0 rfl
      have f161 := hs.cel 0 rfl
      refine ⟨_, rfl, _, _, rfl, K_Ln_dget_sent f155, .inl ⟨rfl, _, SqL.of f156⟩, _, rfl, _, _, rfl, K_Ln_dget_beat f160, _, rfl, _, _, rfl, K_Ln_dget_a f161, (by show 2 ≤ sizeLine; decide), fun t162 n163 => ?_⟩
      try dsimp only
      generalize ee_ : upd H154 t162 _ = H164
      replace hs := (hs.newTup n163 [(.int stand_.beat), (.int j32)]).cast ee_
      clear ee_
      obtain ⟨y166, ey166, hm⟩ := bnd hm
      obtain ⟨vs157, hl158, hv159⟩ := hs.lst 2 rfl
      obtain ⟨g167, e168⟩ := snoc_eq ey166
      refine ⟨_, _, _, rfl, rfl, hl158, small_ (by have := hv159.length; omega), ?_⟩
      try dsimp only
      generalize ee_ : upd H164 Astand_.sent _ = H169
      replace hs := (hs.putL (ys := y166) 2 rfl hl158 (by rw [e168]; exact hv159.snoc (im2 (hs.tup 0 rfl) imI imI))).cast ee_
      clear ee_
      replace hs : Sep S0_ H H169 [aC Astand_.p_ (.dK (K_Ln (.int stand_.beat) (.int stand_.level) (.int j69) (.int j32) (.ref Astand_.sent))), aL Astand_.sent y166, aC pvalues_ (.dK (lineK values_))] := (((hs.mv 3 rfl).mv 3 rfl).mv 3 rfl).tk 3
      obtain rfl := Option.some.inj hm
      exact ⟨hs, rfl⟩
    · replace hm := ife c153 hm
      replace hs : Sep S0_ H H154 [aC Astand_.p_ (.dK (K_Ln (.int stand_.beat) (.int stand_.level) (.int j69) (.int j32) (.ref Astand_.sent))), aL Astand_.sent stand_.sent, aC pvalues_ (.dK (lineK values_))] := hs.tk 3
      obtain rfl := Option.some.inj hm
      exact ⟨hs, rfl⟩
  rintro σ' H134 ⟨hs, rfl⟩
  refine ⟨_, rfl, (by show 2 ≤ sizeLine; decide), fun p170 n171 => ?_⟩
  try dsimp only
  generalize ee_ : upd H134 p170 _ = H172
  replace hs := (hs.newL (ys := (([(2 : Int), (3 : Int)] : (List Int)) : (List Int))) n171 ((.cons imI (.cons imI .nil)))).cast ee_
  clear ee_
  have f174 := hs.scs 0 rfl
  refine ⟨_, _, rfl, .inl (SqL.of f174), rfl, flat_int _, .inr ⟨_, congrArg (fun z => [z]) in_int, ?_⟩⟩
  obtain ⟨g175, hm⟩ := gd hm
  obtain ⟨z183, eL184, hm⟩ := bnd hm
  replace hs : Sep S0_ H H172 [aL Astand_.sent j132, aC Astand_.p_ (.dK (K_Ln (.int stand_.beat) (.int stand_.level) (.int j69) (.int j32) (.ref Astand_.sent))), aC pvalues_ (.dK (lineK values_))] := (((hs.mv 3 rfl).mv 2 rfl).mv 3 rfl).tk 3
  refine ⟨_, _, rfl, rfl, _, rfl, g175.1, g175.2, for_rangeN (lo := (0 : Int)) (n := (Int.toNat ((1 : Int) + (if decide ((word_ / (1024 : Int)) ∈ ([(2 : Int), (3 : Int)] : (List Int))) = true then (1 : Int) else 0)))) (fun i191 σ193 H192 => ∃ (s181 : Int × Int × Int × Int × (List (Int × Int))) (q188 : Addr) (o190 : Option V), forS (m__law_step_l1 values_) ((rangeL 0 (Int.toNat ((1 : Int) + (if decide ((word_ / (1024 : Int)) ∈ ([(2 : Int), (3 : Int)] : (List Int))) = true then (1 : Int) else 0)))).drop i191) s181 = some z183 ∧ Sep S0_ H H192 [aL q188 s181.2.2.2.2, aC Astand_.p_ (.dK (K_Ln (.int s181.1) (.int s181.2.1) (.int s181.2.2.1) (.int s181.2.2.2.1) (.ref q188))), aC pvalues_ (.dK (lineK values_))] ∧ σ193 = [some (.ref Astand_.p_), some (.int word_), some (.ref pvalues_), some (.int (word_ / (1024 : Int))), some (.int (word_ % (1024 : Int))), o190]) ⟨(stand_.beat, stand_.level, j69, j32, j132), Astand_.sent, _, eL184, hs, rfl⟩ ?_ ?_⟩
  · rintro i191 σ193 H192 hi194 ⟨s181, q188, o190, hf185, hs, rfl⟩
    obtain ⟨cN186, hm, hf185⟩ := forS_s (range_get hi194) hf185
    generalize hk_ : (0 : Int) + ((i191 : Nat) : Int) = k182 at hm ⊢
    unfold m__law_step_l1 at hm
    replace hs : Sep S0_ H H192 [a_Ln K (A_Ln.mk Astand_.p_ q188) (R_Ln.mk s181.1 s181.2.1 s181.2.2.1 s181.2.2.2.1 s181.2.2.2.2), aC pvalues_ (.dK (lineK values_))] := hs.cl [0,1] 2 (by kernel_rfl)
    obtain ⟨r196, er196, hm⟩ := bnd hm
    replace hs := hs.mv 1 rfl
    replace hs := hs.mv 1 rfl
    refine ⟨_, rfl, _, rfl, (A_Ln.mk Astand_.p_ q188), (R_Ln.mk s181.1 s181.2.1 s181.2.2.1 s181.2.2.2.1 s181.2.2.2.2), pvalues_, values_, r196, rfl, (hs.frontN 2).1, (hs.frontN 2).2, er196, fun H197 A199 hc198 => ?_⟩
    replace hs := hs.callN 2 hc198
    replace hs := hs.opn 0 rfl
    replace hs : Sep S0_ H H197 (O_Ln K Astand_.p_ A199 r196 ++ [aC pvalues_ (.dK (lineK values_))]) := hs
    replace hs : Sep S0_ H H197 [aL A199.sent r196.sent, q_Ln K Astand_.p_ A199 r196, aC pvalues_ (.dK (lineK values_))] := (((hs.mv 2 rfl).mv 1 rfl).mv 2 rfl).tk 3
    obtain rfl := Option.some.inj hm
    exact ⟨(r196.beat, r196.level, r196.flags, r196.a, r196.sent), A199.sent, _, hf185, hs, rfl⟩
  rintro σ193 H192 ⟨s181, q188, o190, hf185, hs, rfl⟩
  have ez_ := forS_e (Nat.le_of_eq range_len) hf185
  subst ez_
  replace hs : Sep S0_ H H192 [a_Ln K (A_Ln.mk Astand_.p_ q188) (R_Ln.mk s181.1 s181.2.1 s181.2.2.1 s181.2.2.2.1 s181.2.2.2.2), aC pvalues_ (.dK (lineK values_))] := hs.cl [0,1] 2 (by kernel_rfl)
  replace hs : Sep S0_ H H192 [a_Ln K (A_Ln.mk Astand_.p_ q188) (R_Ln.mk s181.1 s181.2.1 s181.2.2.1 s181.2.2.2.1 s181.2.2.2.2), aC pvalues_ (.dK (lineK values_))] := hs.tk 2
  obtain rfl := Option.some.inj hm
  exact q H192 (A_Ln.mk Astand_.p_ q188) hs
end
def m_law_l2 (r452 : ((List (Int × Int)) × (List Int))) (k650 : Int) (s649 : BD × Int × Int × Int × Int × (List (Int × Int))) : Option (Ctl (Bool) (BD × Int × Int × Int × Int × (List (Int × Int)))) :=
  (BD.turnM s649.1).bind fun z667 =>
  if ¬ z667.1 = ("deed" : Str) then
    some (.rt false)
  else
    (m__law_step (R_Ln.mk s649.2.1 s649.2.2.1 s649.2.2.2.1 s649.2.2.2.2.1 s649.2.2.2.2.2) k650 (mkI r452.1)).bind fun r689 =>
    if ((¬ (((z667.2.m.at (772 : Int)) = some r689.level) ∧ (((z667.2.m.at (770 : Int)) = some r689.flags) ∧ ((z667.2.a = r689.a) ∧ ((z667.2.sent = r689.sent) ∧ True))))) ∨ (¬ z667.2.beat = r689.beat)) then
      some (.rt false)
    else
      some (.nx (z667.2, r689.beat, r689.level, r689.flags, r689.a, r689.sent))
def m_law_l1  (k428 : Int) (s427 : Unit) : Option (Ctl (Bool) (Unit)) :=
  (m__law_digits k428 (60 : Int)).bind fun r447 =>
  (m__law_drawn r447).bind fun r452 =>
  if initOk r452.2 r452.1 then
  thenC (forC (m_law_l2 r452) r452.2 (BD.init r452.2 r452.1, (0 : Int), (0 : Int), (0 : Int), (0 : Int), ([] : (List (Int × Int))))) (fun r => some (.rt r)) fun (s649 : BD × Int × Int × Int × Int × (List (Int × Int))) =>
  some (.nx ()) else none
def m_law (script_ : List Int) : Option (Bool) :=
  (if ((cutX script_ none (some (8 : Int))) = ([] : List Int)) then
    some ([(4 : Int), (19 : Int), (300 : Int)] : (List Int))
  else
    some (cutX script_ none (some (8 : Int)))).bind fun (j28 : (List Int)) =>
  thenC (forC (m_law_l1) j28 ()) (fun r => some r) fun (s427 : Unit) =>
  some true
section
variable {P : Program} {w : World} {K : PySem.W.Frag} {mg : Str → Option Value} {base : Heap}
def sp_law (K : PySem.W.Frag) : Sp := fun vs H Q E_ => ∃ (pscript_ : Addr) (script_ : List Int) (r_ : Bool), vs = [.ref pscript_] ∧ (SqL K H pscript_ (script_.map V.int) ∧ oks H [] ∧ (owns []).Nodup ∧ m_law script_ = some r_ ∧ (∀ (H' : Hp) , Sep (owns []) H H' [] → Q (.bl r_) H'))
abbrev N_law : List Str := ["_law_script", "_law_cells", "_law_cell_here", "_law_line", "_law_deeds", "_law_board", "_law_stand", "_law_word", "_law_address", "_law_found"]
theorem sc_law : FnScope N_law ["_law_script"] (defScope s_law) := ⟨rfl, rfl, rfl, by decide +kernel, rfl, by decide +kernel, by decide +kernel⟩
theorem okF_law (T : Txt K mg) {fd : FuncData} (F : FnP K "law" "law" s_law (He.fAd K ("law", none)) fd) : FnOk P w K mg base CX0 7 (He.fAd K ("law", none)) fd ["_law_script"] (sp_law K) := by
  obtain ⟨_, G__law_drawn, b__law_drawn, kp__law_drawn⟩ := ok__law_drawn (P := P) (w := w) (base := base) T
  obtain ⟨_, G__law_digits, b__law_digits, kp__law_digits⟩ := ok__law_digits (P := P) (w := w) (base := base) T
  obtain ⟨_, G_Board_init, b_Board_init, kp_Board_init⟩ := ok_Board_init (P := P) (w := w) (base := base) T
  obtain ⟨_, G_Board_turn, b_Board_turn, kp_Board_turn⟩ := ok_Board_turn (P := P) (w := w) (base := base) T
  obtain ⟨_, G__law_step, b__law_step, kp__law_step⟩ := ok__law_step (P := P) (w := w) (base := base) T
  obtain ⟨_, G_Memory_word_at, b_Memory_word_at, kp_Memory_word_at⟩ := ok_Memory_word_at (P := P) (w := w) (base := base) T
  refine F.ok sc_law (fun vs H Q E h => by obtain ⟨pscript_, script_, r_, rfl, _⟩ := h; rfl) (fun cdv A_ outer s_ H vs Q E hr h => ?_)
  obtain ⟨pscript_, script_, r_, rfl, h⟩ := h
  have hu := hu_of hr
  refine ⟨_, PSs.nox (pss_cons (ps_set (i := 1) sc_law.nd rfl (.inl rfl) (pe_slice sl_list (pv 0) po_none (po_some pe_int)))
  (C8.pss_cut (ps_if (pt_cmpR (op_eqD hr.units) (pv 1) (pe_lst pa_nil) (nomark _)) (pss_one (ps_set (i := 1) sc_law.nd rfl (.inl rfl) (pe_lst (pa_cons pe_int (pa_cons pe_int (pa_cons pe_int pa_nil)))))) pss_nil)
  (pss_cons (ps_for PassesOwn.never rfl (pi_list (pv 1)) (pg_name (i := 2) sc_law.nd rfl (.inl rfl)) (pss_cons (ps_asg (pe_call G__law_drawn (hr.mono (by decide)) (by rfl) T.g__law_drawn kp__law_drawn b__law_drawn .nil pass0 (pa_cons (pe_call G__law_digits (hr.mono (by decide)) (by rfl) T.g__law_digits kp__law_digits b__law_digits .nil pass0 (pa_cons (pv 2) (pa_cons pe_int pa_nil))) pa_nil)) (pg_tup rfl (pgs_cons (pg_name (i := 3) sc_law.nd rfl (.inl rfl)) (pgs_cons (pg_name (i := 4) sc_law.nd rfl (.inl rfl)) pgs_nil))))
    (pss_cons (ps_set (i := 5) sc_law.nd rfl (.inr rfl) (pe_make T.mk_Board G_Board_init (hr.mono (by decide)) (by rfl) T.g_Board b_Board_init .nil pass0 (pa_cons (pv 4) (pa_cons (pe_callTy call_list_of (by rfl) T.f_list (by decide +kernel) (pa_cons (pv 3) pa_nil)) pa_nil))))
    (pss_cons (ps_set (i := 6) sc_law.nd rfl (.inl rfl) (pe_disp (pps_cons pe_str pe_int (pps_cons pe_str pe_int (pps_cons pe_str pe_int (pps_cons pe_str pe_int (pps_cons pe_str (pe_lst pa_nil) pps_nil))))) (by rfl) (by rfl) (fun z => by cases z) (by decide)))
    (pss_one (ps_for PassesOwn.never rfl (pi_list (pv 4)) (pg_name (i := 7) sc_law.nd rfl (.inl rfl)) (pss_cons (ps_if (pt_cmpR op_ne (pe_meth0 (pv 5) T.k_Board T.m_Board_turn G_Board_turn (hr.mono (by decide)) b_Board_turn .nil pass0) pe_str (nomark _)) (pss_one (ps_ret pe_bl)) pss_nil)
      (pss_cons (ps_expr (pe_call G__law_step (hr.mono (by decide)) (by rfl) T.g__law_step kp__law_step b__law_step .nil pass0 (pa_cons (pv 6) (pa_cons (pv 7) (pa_cons (pe_callTy (call_dictP rfl) (by rfl) T.f_dict (by decide +kernel) (pa_cons (pv 3) pa_nil)) pa_nil)))))
      (pss_cons (ps_set (i := 9) sc_law.nd rfl (.inl rfl) (pe_op op_cat (pe_lc (own := [("_law_address", 8)]) (g := gName 8) (tt := tYes) rfl sc_law.nd (pi_list (pe_lst (pa_cons pe_int (pa_cons pe_int pa_nil)))) (blkOk_by (own := [("_law_address", 8)]) (N := N_law) (sc := defScope s_law) (by decide +kernel)) (fun _ _ _ _ _ => pg_name (i := 8) sc_law.nd rfl (Or.inl rfl)) (fun _ _ _ _ _ => pts_nil) (fun _ _ _ _ _ => (pe_meth (pe_fldK (K := K) rfl (pv 5) rfl) T.k_Memory T.m_Memory_word_at G_Memory_word_at (hr.mono (by decide)) b_Memory_word_at .nil pass0 (pa_cons (pv 8) pa_nil)))) (pe_lst (pa_cons (pe_dget hu (pe_fld (pv 5) rfl) pe_str (fun _ _ => rfl)) (pa_cons (pe_fld (pv 5) rfl) pa_nil)))))
      (pss_one (ps_if (PW.pt (pw_or (pt_cmpR (op_neD hr.units) (pv 9) (pe_lst (pa_cons (pe_dget hu (pv 6) pe_str (fun _ _ => rfl)) (pa_cons (pe_dget hu (pv 6) pe_str (fun _ _ => rfl)) (pa_cons (pe_dget hu (pv 6) pe_str (fun _ _ => rfl)) (pa_cons (pe_dget hu (pv 6) pe_str (fun _ _ => rfl)) pa_nil))))) (nomark _)) (pw_or1 (pt_cmpR op_ne (pe_fld (pv 5) rfl) (pe_dget hu (pv 6) pe_str (fun _ _ => rfl)) (nomark _))))) (pss_one (ps_ret pe_bl)) pss_nil)))))))))))
  (pss_one (ps_ret pe_bl))))), ?_⟩
  obtain ⟨sscript_, hp1, hp2, hm, q⟩ := h
  have hs := Sep.pre (L := []) ⟨hp1, hp2⟩
  unfold m_law at hm
  clear hp1 hp2
  have f1 := hs.kp.seq not_in_nil sscript_
  refine ⟨_, rfl, _, rfl, _, _, rfl, f1, fun p2 n3 => ?_⟩
  try dsimp only
  generalize ee_ : upd H p2 _ = H4
  replace hs := (hs.newL (ys := ((cutX script_ none (some (8 : Int))) : (List Int))) n3 ((Imms.ofSc script_).cut none (some (8 : Int)))).cast ee_
  clear ee_
  obtain ⟨j28, es29, hm⟩ := bnd hm
  refine ⟨fun σ' H32 => ∃ (p30 : Addr), Sep (owns []) H H32 [aL p30 j28] ∧ σ' = [some (.ref pscript_), some (.ref p30), none, none, none, none, none, none, none, none], ?_, ?_⟩
  · have hm := es29
    try dsimp only [tNext, gName]
    refine if_use hs (b := decide (((cutX script_ none (some (8 : Int))) = ([] : List Int)))) ?_ ?_
    · skip
      refine fun H41 hs Q_ hQ42 => ?_
      refine ⟨_, rfl, (by show 0 ≤ sizeLine; decide), fun p43 n44 => ?_⟩
      try dsimp only
      generalize ee_ : upd H41 p43 _ = H45
      replace hs := (hs.newC n44 (.lst [])).cast ee_
      clear ee_
      have f47 := hs.scs 1 rfl
      have f48 := hs.cel 0 rfl
      refine ⟨.list ((cutX script_ none (some (8 : Int))).map PyData.int), .list (([] : List Int).map PyData.int), dpL (SqL.of f47), dpL (xs := ([] : List Int)) (SqL.of f48), (shp_of (k := 9) (ok_L (okA_map (fun _ => ok_i) _)) (by decide)), (shp_ints _), _, (eqv_dec (eqv_intL _ _)), ?_⟩
      exact hQ42 _ (hs.tl 1)
    intro H50 hs
    refine iteD (fun c49 => ?_) (fun c49 => ?_)
    · replace hm := ift c49 hm
      refine ⟨(by show 3 ≤ sizeLine; decide), fun p51 n52 => ?_⟩
      try dsimp only
      generalize ee_ : upd H50 p51 _ = H53
      replace hs := (hs.newL (ys := (([(4 : Int), (19 : Int), (300 : Int)] : (List Int)) : (List Int))) n52 ((.cons imI (.cons imI (.cons imI .nil))))).cast ee_
      clear ee_
      replace hs : Sep (owns []) H H53 [aL p51 (([(4 : Int), (19 : Int), (300 : Int)] : (List Int)) : (List Int))] := hs.tk 1
      obtain rfl := Option.some.inj hm
      exact ⟨p51, hs, rfl⟩
    · replace hm := ife c49 hm
      replace hs : Sep (owns []) H H50 [aL p2 ((cutX script_ none (some (8 : Int))) : (List Int))] := hs.tk 1
      obtain rfl := Option.some.inj hm
      exact ⟨p2, hs, rfl⟩
  rintro σ' H32 ⟨p30, hs, rfl⟩
  obtain ⟨vs55, lv56, hs⟩ := hs.fix 0 rfl
  have hw57 := (hs.wal 0 rfl).1
  obtain ⟨z429, eL430, hmO433⟩ := thenC_eq hm
  replace hs : Sep (owns []) H H32 [aW p30 vs55 j28] := hs.tk 1
  refine ⟨_, rfl, _, rfl, ⟨_, SqL.of hw57⟩, for_listN (K := K) (a := p30) (xs := vs55) (fun i441 σ443 H442 => ∃ (s427 : Unit) (o434 : Option V) (o435 : Option V) (o436 : Option V) (o437 : Option V) (o438 : Option V) (o439 : Option V) (o440 : Option V), forC (m_law_l1) (j28.drop i441) s427 = some z429 ∧ Sep (owns []) H H442 [aW p30 vs55 j28] ∧ σ443 = [some (.ref pscript_), some (.ref p30), o434, o435, o436, o437, o438, o439, none, o440]) ⟨(), _, _, _, _, _, _, _, eL430, hs, rfl⟩ (fun i441 σ443 H442 _ pz => by obtain ⟨s427, o434, o435, o436, o437, o438, o439, o440, hf431, hs, rfl⟩ := pz; exact SqL.of (hs.wal 0 rfl).1) ?_ ?_⟩
  · rintro i441 y446 σ443 H442 hi444 ⟨s427, o434, o435, o436, o437, o438, o439, o440, hf431, hs, rfl⟩
    obtain ⟨k428, hx_, hy_⟩ := (hs.wal 0 rfl).2.nthv hi444
    obtain ⟨cN432, hm, hf431⟩ := forC_s hx_ hf431
    have hy_ : y446 = (.int k428) := hy_
    subst hy_
    unfold m_law_l1 at hm
    obtain ⟨r447, er447, hm⟩ := bnd hm
    refine ⟨_, rfl, k428, (60 : Int), r447, rfl, (hs.frontN 0).1, (hs.frontN 0).2, er447, fun H448 pz450 hc449 => ?_⟩
    replace hs := hs.callN 0 hc449
    obtain ⟨r452, er452, hm⟩ := bnd hm
    replace hs := hs.mv 0 rfl
    refine ⟨pz450, r447, r452, rfl, (hs.frontN 1).1, (hs.frontN 1).2, er452, fun H453 pz455 pz0456 pz1457 hc454 => ?_⟩
    replace hs := hs.callN 1 hc454
    have f461 := hs.tup 0 rfl
    refine ⟨_, _, rfl, SqT.of f461, rfl, _, _, rfl, _, _, rfl, rfl, ?_⟩
    obtain ⟨vs462, hl463, hv464⟩ := hs.lst 1 rfl
    refine ⟨_, rfl, _, rfl, _, _, rfl, .inl (SqL.of hl463), fun p465 n466 => ?_⟩
    try dsimp only
    generalize ee_ : upd H453 p465 _ = H467
    replace hs := (hs.newL (ys := (r452.1 : (List (Int × Int)))) n466 (hv464)).cast ee_
    clear ee_
    obtain ⟨g469, hm⟩ := gd hm
    refine fun pb470 dx471 n472 n473 ne474 => ?_
    have np_ : (upd H467 dx471 (.own pb470)) pb470 = none := by rw [upd_ne (fun e => ne474 e.symm)]; exact n472
    replace hs := ((hs.newT (o := .own pb470) n473).newC np_ (.ins (He.ga K "Board") dx471 []))
    obtain ⟨ls477, hl478, hv479⟩ := hs.lst 1 rfl
    refine ⟨pb470, dx471, pz1457, p465, r452.2, ls477, r452.1, rfl, hs.cel 0 rfl, SqL.of (hs.scs 4 rfl), hl478, (tups_of hv479), g469.1, g469.2.1, g469.2.2.1, g469.2.2.2, fun H484 A481 B480 eA482 kA483 => ⟨rfl, ?_⟩⟩
    subst eA482
    replace hs := hs.put 0 rfl (aB K A481 (BD.init r452.2 r452.1)) kA483 B480
    replace hs : Sep (owns []) H H484 [aB K A481 (BD.init r452.2 r452.1), aL pz0456 r452.1, aL pz1457 r452.2, aW p30 vs55 j28] := hs.pick [6, 5, 5, 3] 4 (by kernel_rfl)
    refine fun p486 n487 => ?_
    try dsimp only
    generalize ee_ : upd H484 p486 _ = H488
    replace hs := (hs.newC n487 (.dK [])).cast ee_
    clear ee_
    refine ⟨(by show 0 ≤ sizeLine; decide), fun p490 n491 => ?_⟩
    try dsimp only
    generalize ee_ : upd H488 p490 _ = H492
    replace hs := (hs.newL (ys := (([] : (List (Int × Int))) : (List (Int × Int)))) n491 (.nil)).cast ee_
    clear ee_
    have f494 := hs.cel 1 rfl
    refine ⟨f494, [((Sum.inr "beat" : Key), (.int 0)), ((Sum.inr "level" : Key), (.int 0)), ((Sum.inr "flags" : Key), (.int 0)), ((Sum.inr "a" : Key), (.int 0)), ((Sum.inr "sent" : Key), .ref p490)], rfl, (by show 5 ≤ 15; decide), ?_⟩
    have em495 : mergeK [] ([((Sum.inr "beat" : Key), (.int 0)), ((Sum.inr "level" : Key), (.int 0)), ((Sum.inr "flags" : Key), (.int 0)), ((Sum.inr "a" : Key), (.int 0)), ((Sum.inr "sent" : Key), .ref p490)] : List (Key × V)) = [((Sum.inr "beat" : Key), (.int 0)), ((Sum.inr "level" : Key), (.int 0)), ((Sum.inr "flags" : Key), (.int 0)), ((Sum.inr "a" : Key), (.int 0)), ((Sum.inr "sent" : Key), .ref p490)] := by kernel_rfl
    rw [em495]
    try dsimp only
    generalize ee_ : upd H492 p486 _ = H496
    replace hs := (hs.putC 1 rfl trivial (.dK [((Sum.inr "beat" : Key), (.int 0)), ((Sum.inr "level" : Key), (.int 0)), ((Sum.inr "flags" : Key), (.int 0)), ((Sum.inr "a" : Key), (.int 0)), ((Sum.inr "sent" : Key), .ref p490)])).cast ee_
    clear ee_
    replace hs := hs.asN 1 rfl (Y := aC p486 (.dK (K_Ln (.int 0) (.int 0) (.int 0) (.int 0) (.ref p490)))) rfl
    obtain ⟨vs497, lv498, hs⟩ := hs.fix 4 rfl
    have hw499 := (hs.wal 4 rfl).1
    obtain ⟨z651, eL652, hmO655⟩ := thenC_eq hm
    replace hs : Sep (owns []) H H496 [aL p490 (([] : (List (Int × Int))) : (List (Int × Int))), aC p486 (.dK (K_Ln (.int 0) (.int 0) (.int 0) (.int 0) (.ref p490))), aB K A481 (BD.init r452.2 r452.1), aL pz0456 r452.1, aW pz1457 vs497 r452.2, aW p30 vs55 j28] := hs.tk 6
    refine ⟨_, rfl, _, rfl, ⟨_, SqL.of hw499⟩, for_listN (K := K) (a := pz1457) (xs := vs497) (fun i661 σ663 H662 => ∃ (s649 : BD × Int × Int × Int × Int × (List (Int × Int))) (A656 : BA) (q657 : Addr) (o659 : Option V) (o660 : Option V), forC (m_law_l2 r452) (r452.2.drop i661) s649 = some z651 ∧ Sep (owns []) H H662 [aL q657 s649.2.2.2.2.2, aC p486 (.dK (K_Ln (.int s649.2.1) (.int s649.2.2.1) (.int s649.2.2.2.1) (.int s649.2.2.2.2.1) (.ref q657))), aB K (A656.w A481.p) s649.1, aL pz0456 r452.1, aW pz1457 vs497 r452.2, aW p30 vs55 j28] ∧ σ663 = [some (.ref pscript_), some (.ref p30), some (.int k428), some (.ref pz0456), some (.ref pz1457), some (.ref A481.p), some (.ref p486), o659, none, o660]) ⟨(BD.init r452.2 r452.1, (0 : Int), (0 : Int), (0 : Int), (0 : Int), ([] : (List (Int × Int)))), A481, p490, _, _, eL652, hs, rfl⟩ (fun i661 σ663 H662 _ pz => by obtain ⟨s649, A656, q657, o659, o660, hf653, hs, rfl⟩ := pz; exact SqL.of (hs.wal 4 rfl).1) ?_ ?_⟩
    · rintro i661 y666 σ663 H662 hi664 ⟨s649, A656, q657, o659, o660, hf653, hs, rfl⟩
      obtain ⟨k650, hx_, hy_⟩ := (hs.wal 4 rfl).2.nthv hi664
      obtain ⟨cN654, hm, hf653⟩ := forC_s hx_ hf653
      have hy_ : y666 = (.int k650) := hy_
      subst hy_
      unfold m_law_l2 at hm
      obtain ⟨z667, ez667, hm⟩ := bnd hm
      obtain ⟨g668, g669, e670⟩ := turnM_eq ez667
      have f676 := hs.bd 2 rfl
      have f677 := hs.bd 2 rfl
      refine ⟨_, rfl, _, _, _, rfl, f676.ob, (by kernel_rfl), (A656.w A481.p), s649.1, rfl, f677, g668, g669, fun H675 A671 B672 ep674 kb673 => ?_⟩
      replace hs := hs.put 2 rfl (aB K (A671.w A481.p) z667.2) (kb673.as ep674) (by rw [e670]; exact B672.as ep674)
      rw [← e670]
      refine ⟨rfl, _, dnS, ?_⟩
      refine iteD (fun c678 => ?_) (fun c678 => ?_)
      · replace hm := ift c678 hm
        replace hs := hs.unfix 4 rfl
        replace hs := hs.unfix 5 rfl
        replace hs : Sep (owns []) H H675 [] := hs.tk 0
        obtain rfl := Option.some.inj hm
        have hc_ : z651 = .rt _ := hf653
        subst hc_
        obtain rfl := Option.some.inj hmO655
        have hc_ : z429 = .rt _ := hf431
        subst hc_
        obtain rfl := Option.some.inj hmO433
        exact q H675 hs
      · replace hm := ife c678 hm
        obtain ⟨vs679, hl680, hv681⟩ := hs.lst 3 rfl
        obtain ⟨ps682, e683, hps684⟩ := tups_pairs (K := K) (tups_of hv681)
        refine ⟨_, rfl, _, rfl, _, rfl, _, ps682, lineK r452.1, rfl, SqL.of (by rw [← e683]; exact hl680), hps684, fun p685 n686 => ?_⟩
        rw [merge_mkI]
        try dsimp only
        generalize ee_ : upd H675 p685 _ = H687
        replace hs := (hs.newC n686 (.dK (lineK (mkI r452.1)))).cast ee_
        clear ee_
        replace hs : Sep (owns []) H H687 [a_Ln K (A_Ln.mk p486 q657) (R_Ln.mk s649.2.1 s649.2.2.1 s649.2.2.2.1 s649.2.2.2.2.1 s649.2.2.2.2.2), aC p685 (.dK (lineK (mkI r452.1))), aB K (A671.w A481.p) z667.2, aL pz0456 r452.1, aW pz1457 vs497 r452.2, aW p30 vs55 j28] := hs.cl [1,2] 2 (by kernel_rfl)
        obtain ⟨r689, er689, hm⟩ := bnd hm
        replace hs := hs.mv 1 rfl
        replace hs := hs.mv 1 rfl
        refine ⟨(A_Ln.mk p486 q657), (R_Ln.mk s649.2.1 s649.2.2.1 s649.2.2.2.1 s649.2.2.2.2.1 s649.2.2.2.2.2), k650, p685, (mkI r452.1), r689, rfl, (hs.frontN 2).1, (hs.frontN 2).2, er689, fun H690 A692 hc691 => ?_⟩
        replace hs := hs.callN 2 hc691
        replace hs := hs.opn 0 rfl
        replace hs : Sep (owns []) H H690 (O_Ln K p486 A692 r689 ++ [aC p685 (.dK (lineK (mkI r452.1))), aB K (A671.w A481.p) z667.2, aL pz0456 r452.1, aW pz1457 vs497 r452.2, aW p30 vs55 j28]) := hs
        refine ⟨(by show 2 ≤ sizeLine; decide), fun p696 n697 => ?_⟩
        try dsimp only
        generalize ee_ : upd H690 p696 _ = H698
        replace hs := (hs.newC n697 (.lst [(.int 772), (.int 770)])).cast ee_
        clear ee_
        have f700 := hs.cel 0 rfl
        refine ⟨_, rfl, ⟨_, SqL.of f700⟩, fun p694 n695 => lc_list2 (K := K) (a := p696) (x0 := (.int 772)) (x1 := (.int 770)) ?_⟩
        try dsimp only
        generalize ee_ : upd H698 p694 _ = H701
        replace hs := (hs.newC n695 (.lst ([] : List V))).cast ee_
        clear ee_
        refine ⟨SqL.of (hs.cel 1 rfl), ?_⟩
        have f703 := hs.bd 5 rfl
        have f704 := hs.bd 5 rfl
        have f705 := hs.bd 5 rfl
        refine ⟨rfl, _, rfl, _, _, _, _, _, rfl, f703.ob, T.k_Board, T.n_Board_memory, BoardF_memory, _, _, _, rfl, f704.mem.ob, (by kernel_rfl), _, rfl, _, _, _, rfl, f705.mem, ?_⟩
        generalize ev_ : optV (z667.2.m.at (772 : Int)) = v706
        replace hs := hs.addV (v := v706) (x := z667.2.m.at (772 : Int)) (by rw [← ev_]; exact im_optV _)
        clear ev_
        have f709 := hs.cel 1 rfl
        refine ⟨_, f709, small_ (by show 0 ≤ 16777215; decide), ?_⟩
        try dsimp only
        generalize ee_ : upd H701 p694 _ = H710
        replace hs := (hs.putC 1 rfl trivial (.lst ([v706] : List V))).cast ee_
        clear ee_
        refine ⟨SqL.of (hs.cel 2 rfl), ?_⟩
        have f711 := hs.bd 6 rfl
        have f712 := hs.bd 6 rfl
        have f713 := hs.bd 6 rfl
        refine ⟨rfl, _, rfl, _, _, _, _, _, rfl, f711.ob, T.k_Board, T.n_Board_memory, BoardF_memory, _, _, _, rfl, f712.mem.ob, (by kernel_rfl), _, rfl, _, _, _, rfl, f713.mem, ?_⟩
        generalize ev_ : optV (z667.2.m.at (770 : Int)) = v714
        replace hs := hs.addV (v := v714) (x := z667.2.m.at (770 : Int)) (by rw [← ev_]; exact im_optV _)
        clear ev_
        have f717 := hs.cel 2 rfl
        refine ⟨_, f717, small_ (by show 1 ≤ 16777215; decide), ?_⟩
        try dsimp only
        generalize ee_ : upd H710 p694 _ = H718
        replace hs := (hs.putC 2 rfl trivial (.lst ([v706, v714] : List V))).cast ee_
        clear ee_
        refine ⟨SqL.of (hs.cel 3 rfl), ?_⟩
        have f719 := hs.bd 7 rfl
        have f720 := hs.bd 7 rfl
        have f721 := hs.bd 7 rfl
        refine ⟨_, rfl, _, _, _, _, _, rfl, f719.ob, T.k_Board, T.n_Board_registers, BoardF_registers, _, _, rfl, f720.get_a, _, rfl, _, _, _, _, _, rfl, f721.ob, T.k_Board, T.n_Board_sent, BoardF_sent, (by show 2 ≤ sizeLine; decide), fun p722 n723 => ?_⟩
        try dsimp only
        generalize ee_ : upd H718 p722 _ = H724
        replace hs := (hs.newC n723 (.lst [(.int (z667.2.a)), .ref (A671.w A481.p).sn])).cast ee_
        clear ee_
        have f726 := hs.cel 3 rfl
        have f727 := hs.cel 0 rfl
        refine ⟨_, _, _, _, rfl, rfl, f726, f727, (by show 2 + 2 ≤ sizeLine; decide), fun p728 n729 => ?_⟩
        try dsimp only
        generalize ee_ : upd H724 p728 _ = H730
        replace hs := (hs.newC n729 (.lst [v706, v714, (.int (z667.2.a)), .ref (A671.w A481.p).sn])).cast ee_
        clear ee_
        replace hs : Sep (owns []) H H730 ([aC p728 (.lst [v706, v714, (.int (z667.2.a)), .ref (A671.w A481.p).sn]), aV v714 (z667.2.m.at (770 : Int) : (Option Int)), aV v706 (z667.2.m.at (772 : Int) : (Option Int))] ++ O_Ln K p486 A692 r689 ++ [aB K (A671.w A481.p) z667.2, aL pz0456 r452.1, aW pz1457 vs497 r452.2, aW p30 vs55 j28]) := hs.pick [12, 12, 12, 12, 11, 11, 9, 9, 8] 9 (by kernel_rfl)
        try dsimp only [tNext, gName]
        refine if_use hs (b := decide (((¬ (((z667.2.m.at (772 : Int)) = some r689.level) ∧ (((z667.2.m.at (770 : Int)) = some r689.flags) ∧ ((z667.2.a = r689.a) ∧ ((z667.2.sent = r689.sent) ∧ True))))) ∨ (¬ z667.2.beat = r689.beat)))) ?_ ?_
        · skip
          refine ev_or (P := (¬ (((z667.2.m.at (772 : Int)) = some r689.level) ∧ (((z667.2.m.at (770 : Int)) = some r689.flags) ∧ ((z667.2.a = r689.a) ∧ ((z667.2.sent = r689.sent) ∧ True)))))) (R := (¬ z667.2.beat = r689.beat)) ?_ (fun c793 => ?_)
          · skip
            refine fun H794 hs Q_ hQ795 => ?_
            have f796 := hs.cel 3 rfl
            have f797 := hs.cel 3 rfl
            have f798 := hs.cel 3 rfl
            have f799 := hs.cel 3 rfl
            refine ⟨_, rfl, _, rfl, _, _, rfl, K_Ln_dget_level f796, _, rfl, _, _, rfl, K_Ln_dget_flags f797, _, rfl, _, _, rfl, K_Ln_dget_a f798, _, rfl, _, _, rfl, K_Ln_dget_sent f799, (by show 4 ≤ sizeLine; decide), fun p800 n801 => ?_⟩
            try dsimp only
            generalize ee_ : upd H794 p800 _ = H802
            replace hs := (hs.newC n801 (.lst [(.int r689.level), (.int r689.flags), (.int r689.a), .ref A692.sent])).cast ee_
            clear ee_
            have f804 := hs.cel 1 rfl
            have f805 := hs.val 3 rfl
            have f806 := hs.val 2 rfl
            have f807 := hs.bd 6 rfl
            have f808 := hs.bd 6 rfl
            have f809 := hs.cel 0 rfl
            refine ⟨.list [optD' (z667.2.m.at (772 : Int)), optD' (z667.2.m.at (770 : Int)), .int z667.2.a, .list (z667.2.sent.map prD)], .list [.int r689.level, .int r689.flags, .int r689.a, .list (r689.sent.map prD)], .lst (SqL.of f804) (.cons (dp_opt' f805) (.cons (dp_opt' f806) (.cons (.int _) (.cons (dpPairs ⟨_, f807.sn, imms_of f808.sent⟩) .nil)))), .lst (SqL.of f809) (.cons (.int _) (.cons (.int _) (.cons (.int _) (.cons (dpPairs (hs.lst 5 rfl)) .nil)))), (shp_of (k := 9) (ok_L (okA_cons ok_o (okA_cons ok_o (okA_cons ok_i (okA_cons (ok_L (okA_map (fun _ => ok_pr) _)) okA_nil))))) (by decide)), (shp_of (k := 9) (ok_L (okA_cons ok_i (okA_cons ok_i (okA_cons ok_i (okA_cons (ok_L (okA_map (fun _ => ok_pr) _)) okA_nil))))) (by decide)), _, (eqv_decN (eqvL (eqvC (eqv_o (z667.2.m.at (772 : Int)) (some r689.level)) (eqvC (eqv_o (z667.2.m.at (770 : Int)) (some r689.flags)) (eqvC (eqv_i _ _) (eqvC (eqv_prs _ _) eqvN)))))), ?_⟩
            exact hQ795 _ (hs.tl 1)
          · skip
            refine fun H810 hs Q_ hQ811 => ?_
            have f812 := hs.bd 5 rfl
            have f813 := hs.cel 3 rfl
            refine ⟨_, rfl, _, _, _, _, _, rfl, f812.ob, T.k_Board, T.n_Board_beat, BoardF_beat, _, rfl, _, _, rfl, K_Ln_dget_beat f813, rfl, _, dnI, ?_⟩
            exact hQ811 _ (hs.tl 0)
        intro H815 hs
        refine iteD (fun c814 => ?_) (fun c814 => ?_)
        · replace hm := ift c814 hm
          replace hs := hs.unfix 7 rfl
          replace hs := hs.unfix 8 rfl
          replace hs : Sep (owns []) H H815 [] := hs.tk 0
          obtain rfl := Option.some.inj hm
          have hc_ : z651 = .rt _ := hf653
          subst hc_
          obtain rfl := Option.some.inj hmO655
          have hc_ : z429 = .rt _ := hf431
          subst hc_
          obtain rfl := Option.some.inj hmO433
          exact q H815 hs
        · replace hm := ife c814 hm
          replace hs : Sep (owns []) H H815 [aL A692.sent r689.sent, q_Ln K p486 A692 r689, aB K (A671.w A481.p) z667.2, aL pz0456 r452.1, aW pz1457 vs497 r452.2, aW p30 vs55 j28] := hs.pick [8, 8, 8, 8, 7, 8] 6 (by kernel_rfl)
          obtain rfl := Option.some.inj hm
          exact ⟨(z667.2, r689.beat, r689.level, r689.flags, r689.a, r689.sent), A671.w A481.p, A692.sent, _, _, hf653, hs, rfl⟩
    rintro σ663 H662 ⟨s649, A656, q657, o659, o660, hf653, hs, rfl⟩
    have ez_ := forC_e (Nat.le_of_eq lv498.symm) hf653
    subst ez_
    have hm := hmO655
    replace hs := hs.unfix 4 rfl
    replace hs : Sep (owns []) H H662 [aW p30 vs55 j28] := (hs.mv 5 rfl).tk 1
    obtain rfl := Option.some.inj hm
    exact ⟨(), _, _, _, _, _, _, _, hf431, hs, rfl⟩
  rintro σ443 H442 ⟨s427, o434, o435, o436, o437, o438, o439, o440, hf431, hs, rfl⟩
  have ez_ := forC_e (Nat.le_of_eq lv56.symm) hf431
  subst ez_
  have hm := hmO433
  replace hs := hs.unfix 0 rfl
  replace hs : Sep (owns []) H H442 [] := hs.tk 0
  obtain rfl := Option.some.inj hm
  exact q H442 hs
end

/-! ### the turns of any board in plain words: beats change the places alone -/
/-- all but the places and the beat -/
def BD.core (D : BD) : BD := { D with m := { D.m with pl := [] }, beat := 0 }
theorem core_m (D : BD) (l : List Int) (b : Int) : ({ D with m := { D.m with pl := l }, beat := b } : BD).core = D.core := rfl
theorem comes_pl (M : MD) (v : Int) : ∃ l, M.comes v = { M with pl := l } ∧ l.length = M.pl.length := by
  unfold MD.comes
  split
  · exact ⟨_, rfl, by show ((M.pl.set 2 _).set 4 _).length = _; rw [List.length_set, List.length_set]⟩
  · exact ⟨_, rfl, by rw [List.length_set]⟩
theorem tick_keep (D : BD) : D.tick.core = D.core ∧ D.tick.m.pl.length = D.m.pl.length ∧ D.tick.beat = D.beat + 1 := by
  unfold BD.tick BD.lineComes
  obtain ⟨l, e, h⟩ := comes_pl D.m (lineGet D.ln (D.beat + 1) (D.m.place 4))
  show ((({ D with beat := D.beat + 1, m := D.m.comes (lineGet D.ln (D.beat + 1) (D.m.place 4)) } : BD)).timerGoes).core = _ ∧ _
  rw [e]
  unfold BD.timerGoes
  dsimp only
  split
  · split
    · exact ⟨rfl, by show ((l.set 2 _).set 0 _).length = _; rw [List.length_set, List.length_set, h], rfl⟩
    · exact ⟨rfl, by show (l.set 0 _).length = _; rw [List.length_set, h], rfl⟩
  · exact ⟨rfl, h, rfl⟩
theorem pass_keep (D : BD) : ∀ n : Nat, (D.pass n).core = D.core ∧ (D.pass n).m.pl.length = D.m.pl.length ∧ (D.pass n).beat = D.beat + n
  | 0 => ⟨rfl, rfl, (Int.add_zero _).symm⟩
  | n + 1 => by
    obtain ⟨h1, h2, h3⟩ := pass_keep D n
    obtain ⟨g1, g2, g3⟩ := tick_keep (D.pass n)
    exact ⟨g1.trans h1, g2.trans h2, by show (D.pass n).tick.beat = _; rw [g3, h3]; omega⟩
section
variable {D E : BD}
theorem core_fl (h : D.core = E.core) : D.m.fl = E.m.fl := by have e := congrArg (fun z : BD => z.m.fl) h; exact e
theorem core_ra (h : D.core = E.core) : D.m.ra = E.m.ra := by have e := congrArg (fun z : BD => z.m.ra) h; exact e
theorem core_a (h : D.core = E.core) : D.a = E.a := by have e := congrArg (fun z : BD => z.a) h; exact e
theorem core_b (h : D.core = E.core) : D.b = E.b := by have e := congrArg (fun z : BD => z.b) h; exact e
theorem core_pc (h : D.core = E.core) : D.pc = E.pc := by have e := congrArg (fun z : BD => z.pc) h; exact e
theorem core_sp (h : D.core = E.core) : D.sp = E.sp := by have e := congrArg (fun z : BD => z.sp) h; exact e
theorem core_zero (h : D.core = E.core) : D.zero = E.zero := by have e := congrArg (fun z : BD => z.zero) h; exact e
theorem core_lets (h : D.core = E.core) : D.lets = E.lets := by have e := congrArg (fun z : BD => z.lets) h; exact e
theorem core_asleep (h : D.core = E.core) : D.asleep = E.asleep := by have e := congrArg (fun z : BD => z.asleep) h; exact e
theorem core_stop (h : D.core = E.core) : D.stop = E.stop := by have e := congrArg (fun z : BD => z.stop) h; exact e
theorem core_sent (h : D.core = E.core) : D.sent = E.sent := by have e := congrArg (fun z : BD => z.sent) h; exact e
theorem core_bend (h : D.core = E.core) : D.bend = E.bend := by have e := congrArg (fun z : BD => z.bend) h; exact e
theorem core_ln (h : D.core = E.core) : D.ln = E.ln := by have e := congrArg (fun z : BD => z.ln) h; exact e
theorem turn_asleep (hs : D.stop = none) (h : D.asleep = true ∧ D.pending = 0) : D.turn = (("asleep" : Str), ({ D with tc := [] } : BD).pass 1) := by
  unfold BD.turn BD.turnB
  exact (if_neg (show ¬ D.stop.isSome = true by rw [hs]; simp)).trans (if_pos h)
theorem turn_inter (hs : D.stop = none) (h : ¬ (D.asleep = true ∧ D.pending = 0)) (hl : D.lets = true ∧ 0 < D.pending) : D.turn = ({ D with tc := [], asleep := false } : BD).interrupt := by
  unfold BD.turn BD.turnB
  refine (if_neg (show ¬ D.stop.isSome = true by rw [hs]; simp)).trans ((if_neg h).trans ?_)
  unfold BD.wake
  exact if_pos hl
theorem turn_deed (hs : D.stop = none) (h : ¬ (D.asleep = true ∧ D.pending = 0)) (hl : ¬ (D.lets = true ∧ 0 < D.pending)) : D.turn = ({ D with tc := [], asleep := false } : BD).deed := by
  unfold BD.turn BD.turnB
  refine (if_neg (show ¬ D.stop.isSome = true by rw [hs]; simp)).trans ((if_neg h).trans ?_)
  unfold BD.wake
  exact if_neg hl
theorem deed_of {w x : Int} {k : Nat} (h0 : 0 ≤ D.pc) (h1 : D.pc < 768) (hw : D.m.at D.pc = some w) (hk : w = 1024 * (k : Int) + x) (hx : 0 ≤ x ∧ x < 1024) (k23 : k < 23 := by decide) (k0 : k ≠ 0 := by decide)
    (hb : barOf D.m D.pc (addrs k x D.b D.sp).1 (addrs k x D.b D.sp).2 = none) : D.deed = (("deed" : Str), D.deedA k x (addrs k x D.b D.sp)) := by
  unfold BD.deed
  rw [if_neg (by omega), hw, show (some w).getD 0 = w from rfl]
  have ek : (w / 1024).toNat = k := by omega
  have ex : w % 1024 = x := by omega
  unfold BD.deedW
  rw [ek, ex, if_neg (by omega), if_neg k0]
  unfold BD.deedB
  rw [hb]
/-- an interrupt whose two words can be pushed -/
theorem inter_of (h1 : 512 < D.sp) (h2 : D.sp < 768) : D.interrupt = (("interrupt" : Str), D.inter) := by
  unfold BD.interrupt
  rw [barRam (by omega) h2, barRam (x := D.sp - 1) (by omega) (by omega)]
end
theorem at_ram {M : MD} {i : Int} (h0 : 512 ≤ i) (h1 : i < 768) : M.at i = M.ra[(i - 512).toNat]? := by
  unfold MD.at
  rw [if_neg (by omega), if_neg (by omega), if_pos h1]
theorem at_place {M : MD} {i : Int} (h0 : 768 ≤ i) (h1 : i ≤ 773) (hl : M.pl.length = 6) : ∃ v, M.at i = some v ∧ v = M.place (i - 768).toNat := by
  unfold MD.at MD.place
  rw [if_neg (by omega), if_neg (by omega), if_neg (by omega), List.getD_eq_getElem?_getD]
  have : (i - 768).toNat < M.pl.length := by omega
  rw [List.getElem?_eq_getElem this]
  exact ⟨_, rfl, rfl⟩
theorem put_fl (M : MD) (x w : Int) : (M.put x w).fl = M.fl := by
  unfold MD.put; split
  · rfl
  · split <;> rfl
theorem put_ra (M : MD) {x : Int} (w : Int) (h : 768 ≤ x) : (M.put x w).ra = M.ra := by
  unfold MD.put; rw [if_neg (by omega)]; split <;> rfl
theorem put_len (M : MD) (x w : Int) : (M.put x w).ra.length = M.ra.length ∧ (M.put x w).pl.length = M.pl.length := by
  unfold MD.put; split
  · exact ⟨List.length_set, rfl⟩
  · split
    · exact ⟨rfl, List.length_set⟩
    · exact ⟨rfl, List.length_set⟩

/-! ### the own board and the board: the memory -/
def mem (m : MD) : List Int := m.fl ++ m.ra ++ m.pl
def W16 (x : Int) : Prop := 0 ≤ x ∧ x ≤ 65535
structure WM (m : MD) : Prop where
  lf : m.fl.length = 512
  lr : m.ra.length = 256
  lp : m.pl.length = 6
  wf : ∀ x ∈ m.fl, W16 x
  wr : ∀ x ∈ m.ra, W16 x
  wp : ∀ x ∈ m.pl, W16 x
theorem W16.or {x y : Int} (hx : W16 x) (hy : W16 y) : W16 (Builtin.bitOr x y) := by
  obtain ⟨a, rfl⟩ : ∃ a : Nat, x = a := ⟨x.toNat, by have := hx.1; omega⟩
  obtain ⟨b, rfl⟩ : ∃ b : Nat, y = b := ⟨y.toNat, by have := hy.1; omega⟩
  have e : Builtin.bitOr (a : Int) (b : Int) = ((a ||| b : Nat) : Int) := by rw [Bits.bitOr_pp (by omega) (by omega)]; simp
  rw [e]
  have h1 : a < 2 ^ 16 := by have := hx.2; omega
  have h2 : b < 2 ^ 16 := by have := hy.2; omega
  have := Nat.or_lt_two_pow h1 h2
  exact ⟨by omega, by omega⟩
theorem W16.and {x y : Int} (hx : W16 x) (hy : W16 y) : W16 (Builtin.bitAnd x y) := by
  obtain ⟨a, rfl⟩ : ∃ a : Nat, x = a := ⟨x.toNat, by have := hx.1; omega⟩
  obtain ⟨b, rfl⟩ : ∃ b : Nat, y = b := ⟨y.toNat, by have := hy.1; omega⟩
  have e : Builtin.bitAnd (a : Int) (b : Int) = ((a &&& b : Nat) : Int) := by rfl
  rw [e]
  have h1 : a < 2 ^ 16 := by have := hx.2; omega
  have := Nat.lt_of_le_of_lt (Nat.and_le_left (n := a) (m := b)) h1
  exact ⟨by omega, by omega⟩
theorem W16.xor {x y : Int} (hx : W16 x) (hy : W16 y) : W16 (Builtin.bitXor x y) := by
  obtain ⟨a, rfl⟩ : ∃ a : Nat, x = a := ⟨x.toNat, by have := hx.1; omega⟩
  obtain ⟨b, rfl⟩ : ∃ b : Nat, y = b := ⟨y.toNat, by have := hy.1; omega⟩
  have e : Builtin.bitXor (a : Int) (b : Int) = ((a ^^^ b : Nat) : Int) := by rw [Bits.bitXor_pp (by omega) (by omega)]; simp
  rw [e]
  have h1 : a < 2 ^ 16 := by have := hx.2; omega
  have h2 : b < 2 ^ 16 := by have := hy.2; omega
  have := Nat.xor_lt_two_pow h1 h2
  exact ⟨by omega, by omega⟩
theorem and_not {x w : Int} (hx : W16 x) (hw : W16 w) : x - Builtin.bitAnd x w = Builtin.bitAnd x (65535 - w) := by
  obtain ⟨a, rfl⟩ : ∃ a : Nat, x = a := ⟨x.toNat, by have := hx.1; omega⟩
  obtain ⟨b, rfl⟩ : ∃ b : Nat, w = b := ⟨w.toNat, by have := hw.1; omega⟩
  have h1 : a < 2 ^ 16 := by have := hx.2; omega
  have h2 : b < 2 ^ 16 := by have := hw.2; omega
  have e1 : Builtin.bitAnd (a : Int) (b : Int) = ((a &&& b : Nat) : Int) := by rfl
  have e2 : (65535 : Int) - (b : Int) = ((2 ^ 16 - (b + 1) : Nat) : Int) := by omega
  have e3 : Builtin.bitAnd (a : Int) ((2 ^ 16 - (b + 1) : Nat) : Int) = ((a &&& (2 ^ 16 - (b + 1)) : Nat) : Int) := by rfl
  rw [e1, e2, e3]
  have dis : (a &&& b) &&& (a &&& (2 ^ 16 - (b + 1))) = 0 := by
    apply Nat.eq_of_testBit_eq
    intro i
    simp only [Nat.testBit_and, Nat.zero_testBit, Nat.testBit_two_pow_sub_succ h2]
    cases a.testBit i <;> cases b.testBit i <;> simp
  have un : (a &&& b) ||| (a &&& (2 ^ 16 - (b + 1))) = a := by
    apply Nat.eq_of_testBit_eq
    intro i
    simp only [Nat.testBit_or, Nat.testBit_and, Nat.testBit_two_pow_sub_succ h2]
    by_cases hi : i < 16
    · simp only [hi, decide_true]; cases a.testBit i <;> cases b.testBit i <;> simp
    · have : a.testBit i = false := Nat.testBit_lt_two_pow (Nat.lt_of_lt_of_le h1 (Nat.pow_le_pow_right (by decide) (by omega)))
      simp [this]
  have sm := nat_or_add_and (a &&& b) (a &&& (2 ^ 16 - (b + 1)))
  rw [un, dis] at sm
  omega
theorem mem_at {m : MD} (h : WM m) {i : Int} (h0 : 0 ≤ i) : atI (mem m) i = m.at i := by
  unfold MD.at
  have e : atI (mem m) i = (mem m)[i.toNat]? := by
    by_cases hl : i.toNat < (mem m).length
    · rw [List.getElem?_eq_getElem hl]
      exact atI_z h0 (List.getElem?_eq_getElem hl)
    · rw [List.getElem?_eq_none (by omega)]
      unfold atI ixN
      rw [if_pos h0, if_neg (by omega)]; rfl
  rw [e]
  have hl : (mem m).length = 774 := by unfold mem; rw [List.length_append, List.length_append, h.lf, h.lr, h.lp]
  by_cases c : 773 < i
  · rw [if_pos (.inr c), List.getElem?_eq_none (by omega)]
  · rw [if_neg (by omega)]
    unfold mem
    by_cases c1 : i < 512
    · rw [if_pos c1, List.append_assoc, List.getElem?_append_left (by rw [h.lf]; omega)]
    · rw [if_neg c1]
      by_cases c2 : i < 768
      · rw [if_pos c2, List.append_assoc, List.getElem?_append_right (by rw [h.lf]; omega), List.getElem?_append_left (by rw [h.lf, h.lr]; omega), h.lf]
        congr 1; omega
      · rw [if_neg c2, List.getElem?_append_right (by rw [List.length_append, h.lf, h.lr]; omega), List.length_append, h.lf, h.lr]
        congr 1; omega
theorem place_at {m : MD} (h : WM m) {k : Nat} (hk : k < 6) : m.at (768 + (k : Int)) = some (m.place k) := by
  obtain ⟨v, e1, e2⟩ := at_place (M := m) (i := 768 + (k : Int)) (by omega) (by omega) h.lp
  rw [e1, e2]
  congr 2; omega
theorem mem_pl {m : MD} (h : WM m) {i : Int} {k : Nat} (hi : i = 768 + (k : Int)) (hk : k < 6) : atI (mem m) i = some (m.place k) := by
  rw [mem_at h (by omega), hi]; exact place_at h hk
theorem place_w {m : MD} (h : WM m) (k : Nat) (hk : k < 6) : W16 (m.place k) := by
  unfold MD.place
  rw [List.getD_eq_getElem?_getD, List.getElem?_eq_getElem (by rw [h.lp]; exact hk)]
  exact h.wp _ (List.getElem_mem _)
theorem set_w {l : List Int} {k : Nat} {v : Int} (h : ∀ x ∈ l, W16 x) (hv : W16 v) : ∀ x ∈ l.set k v, W16 x := fun x hx => by
  rcases List.mem_or_eq_of_mem_set hx with z | z
  · exact h x z
  · rw [z]; exact hv
theorem WM.setPlace {m : MD} (h : WM m) (k : Nat) {v : Int} (hv : W16 v) : WM (m.setPlace k v) := ⟨h.lf, h.lr, by show (m.pl.set k v).length = 6; rw [List.length_set]; exact h.lp, h.wf, h.wr, set_w h.wp hv⟩
theorem WM.raise {m : MD} (h : WM m) {b : Int} (hb : W16 b) : WM (m.raise b) := ⟨h.lf, h.lr, by show (m.pl.set 2 _).length = 6; rw [List.length_set]; exact h.lp, h.wf, h.wr, set_w h.wp ((place_w h 2 (by decide)).or hb)⟩
theorem setX_pl {m : MD} (h : WM m) {i v : Int} {k : Nat} (hi : i = 768 + (k : Int)) (hk : k < 6) : setX (mem m) i v = some (mem (m.setPlace k v)) := by
  unfold setX ixN
  have hl : (mem m).length = 774 := by unfold mem; rw [List.length_append, List.length_append, h.lf, h.lr, h.lp]
  rw [if_pos (by omega), if_pos (by omega)]
  show some ((mem m).set i.toNat v) = _
  unfold mem MD.setPlace
  rw [show i.toNat = (m.fl ++ m.ra).length + k by rw [List.length_append, h.lf, h.lr]; omega, List.set_append_right _ _ (by omega)]
  congr 3; omega
theorem setX_ra {m : MD} (h : WM m) {i v : Int} (h0 : 512 ≤ i) (h1 : i < 768) : setX (mem m) i v = some (mem { m with ra := m.ra.set (i - 512).toNat v }) := by
  unfold setX ixN
  have hl : (mem m).length = 774 := by unfold mem; rw [List.length_append, List.length_append, h.lf, h.lr, h.lp]
  rw [if_pos (by omega), if_pos (by omega)]
  show some ((mem m).set i.toNat v) = _
  unfold mem
  rw [List.append_assoc, List.set_append_right _ _ (by rw [h.lf]; omega), List.set_append_left _ _ (by rw [h.lf, h.lr]; omega), ← List.append_assoc, h.lf]
  congr 4; omega

/-! ### a board whose data are in bounds stays so (no law's own board) -/
def WL (l : List (Int × Int)) : Prop := ∀ p ∈ l, 0 ≤ p.2 ∧ p.2 < 4
theorem look_w {l : List (Int × Int)} (h : WL l) {b d : Int} (hd : W16 d) : W16 ((lookI l b).getD d) := by
  unfold lookI
  cases e : l.find? (fun p => decide (p.1 = b)) with
  | none => exact hd
  | some p =>
    have := h p (List.mem_of_find?_eq_some e)
    show W16 p.2
    exact ⟨by omega, by omega⟩
/-- one beat of the board's memory -/
def MD.beat1 (m : MD) (v : Int) : MD :=
  if 0 < (m.comes v).place 1 then
    (if (m.comes v).place 1 ≤ (m.comes v).place 0 + 1 then ((m.comes v).raise 1).setPlace 0 0 else (m.comes v).setPlace 0 ((m.comes v).place 0 + 1))
  else m.comes v
theorem tick_m (D : BD) : D.tick = { D with beat := D.beat + 1, m := D.m.beat1 ((lookI D.ln (D.beat + 1)).getD (D.m.place 4)) } := by
  unfold BD.tick BD.lineComes BD.timerGoes MD.beat1
  show (if 0 < (D.m.comes (lineGet D.ln (D.beat + 1) (D.m.place 4))).place 1 then _ else _) = _
  have e : lineGet D.ln (D.beat + 1) (D.m.place 4) = (lookI D.ln (D.beat + 1)).getD (D.m.place 4) := rfl
  rw [← e]
  split
  · split <;> rfl
  · rfl
theorem comes_w {m : MD} (h : WM m) {v : Int} (hv : W16 v) : WM (m.comes v) := by
  unfold MD.comes
  split
  · exact (h.raise ⟨by decide, by decide⟩).setPlace 4 hv
  · exact h.setPlace 4 hv
theorem beat1_w {m : MD} (h : WM m) {v : Int} (hv : W16 v) : WM (m.beat1 v) := by
  have hc := comes_w h hv
  unfold MD.beat1
  split
  · split
    · exact (hc.raise ⟨by decide, by decide⟩).setPlace 0 ⟨by decide, by decide⟩
    · rename_i c1 c2
      have a := place_w hc 0 (by decide)
      have b := place_w hc 1 (by decide)
      exact hc.setPlace 0 ⟨by have := a.1; omega, by have := b.2; omega⟩
  · exact hc
theorem with_bm {D E : BD} {x : Int} {y : MD} (h : E = { D with beat := x, m := y }) (b : Int) (m : MD) : ({ E with beat := b, m := m } : BD) = { D with beat := b, m := m } := by subst h; rfl
theorem pass_m (D : BD) : ∀ n : Nat, D.pass n = { D with beat := (D.pass n).beat, m := (D.pass n).m }
  | 0 => rfl
  | n + 1 => by
    have ih := pass_m D n
    show (D.pass n).tick = { D with beat := ((D.pass n).tick).beat, m := ((D.pass n).tick).m }
    have h : (D.pass n).tick = { D.pass n with beat := ((D.pass n).tick).beat, m := ((D.pass n).tick).m } := by rw [tick_m]
    exact h.trans (with_bm ih _ _)
theorem pass_w {D : BD} (hm : WM D.m) (hl : WL D.ln) : ∀ n : Nat, WM (D.pass n).m
  | 0 => hm
  | n + 1 => by
    have hw := pass_w hm hl n
    have el : (D.pass n).ln = D.ln := by have := congrArg BD.ln (pass_m D n); exact this
    show WM ((D.pass n).tick).m
    rw [tick_m]
    exact beat1_w hw (look_w (by rw [el]; exact hl) (place_w hw 4 (by decide)))
theorem barTo_no {i : Int} (h : barTo i = none) : 512 ≤ i ∧ i ≤ 773 ∧ i ≠ 772 := by
  unfold barTo at h
  split at h
  · cases h
  · split at h
    · cases h
    · split at h
      · cases h
      · omega
theorem put_w {m : MD} (h : WM m) {i w : Int} (hb : barTo i = none) (hw : W16 w) : WM (m.put i w) := by
  obtain ⟨b1, b2, b3⟩ := barTo_no hb
  obtain ⟨l1, l2⟩ := put_len m i w
  refine ⟨by rw [put_fl]; exact h.lf, l1.trans h.lr, l2.trans h.lp, by rw [put_fl]; exact h.wf, ?_, ?_⟩
  · unfold MD.put; split
    · exact set_w h.wr hw
    · split <;> exact h.wr
  · unfold MD.put; split
    · exact h.wp
    · split
      · exact set_w h.wp ((place_w h 2 (by decide)).and ⟨by have := hw.2; omega, by have := hw.1; omega⟩)
      · exact set_w h.wp hw
theorem at_none_iff {m : MD} (h : WM m) (i : Int) : (m.at i).isNone = true ↔ (773 < i ∨ i < 0) := by
  unfold MD.at
  by_cases c : i < 0 ∨ 773 < i
  · rw [if_pos c]; exact ⟨fun _ => by omega, fun _ => rfl⟩
  · rw [if_neg c]
    refine ⟨fun z => ?_, fun z => by omega⟩
    split at z
    · rw [List.getElem?_eq_getElem (by rw [h.lf]; omega)] at z; cases z
    · split at z
      · rw [List.getElem?_eq_getElem (by rw [h.lr]; omega)] at z; cases z
      · rw [List.getElem?_eq_getElem (by rw [h.lp]; omega)] at z; cases z
/-- what was touched, of two kinds -/
def TcOk (l : List (Str × Int)) : Prop := ∀ p ∈ l, p.1 = "r" ∨ p.1 = "w"
theorem TcOk.snoc {l : List (Str × Int)} (h : TcOk l) {s : Str} {i : Int} (hs : s = "r" ∨ s = "w") : TcOk (l ++ [(s, i)]) := fun p hp => by
  rcases List.mem_append.mp hp with z | z
  · exact h p z
  · rw [List.mem_singleton.mp z]; exact hs
theorem fetches_eq : ∀ (l : List Int) {D : BD}, D.bend = 0 → TcOk D.tc → (∀ i ∈ l, 0 ≤ (D.m.at i).getD 0) → ∃ t, TcOk t ∧ D.fetches l = (l.map (fun i => (D.m.at i).getD 0), { D with tc := t, bend := 0 })
  | [], D, hb, ht, _ => ⟨D.tc, ht, by
    show (([] : List Int), D) = ([], { D with tc := D.tc, bend := 0 })
    rw [← hb]⟩
  | i :: r, D, hb, ht, h => by
    obtain ⟨t, et, e⟩ := fetches_eq r (D := D.fetch i) rfl (TcOk.snoc ht (.inl rfl)) (fun j hj => h j (List.mem_cons_of_mem _ hj))
    refine ⟨t, et, ?_⟩
    show (D.fetchV i :: ((D.fetch i).fetches r).1, ((D.fetch i).fetches r).2) = _
    rw [e]
    have ev : D.fetchV i = (D.m.at i).getD 0 := by
      unfold BD.fetchV; rw [hb]; exact xor0 (h i List.mem_cons_self)
    rw [ev]; rfl
theorem k22 {k : Nat} (h0 : k ≠ 0) (h : k < 23) : k = 1 ∨ k = 2 ∨ k = 3 ∨ k = 4 ∨ k = 5 ∨ k = 6 ∨ k = 7 ∨ k = 8 ∨ k = 9 ∨ k = 10 ∨ k = 11 ∨ k = 12 ∨ k = 13 ∨ k = 14 ∨ k = 15 ∨ k = 16 ∨ k = 17 ∨ k = 18 ∨ k = 19 ∨ k = 20 ∨ k = 21 ∨ k = 22 := by omega
/-- the board is as one may be -/
structure WD (D : BD) (n : Nat) : Prop where
  m : WM D.m
  ln : WL D.ln
  a : W16 D.a
  b : W16 D.b
  pc : W16 D.pc
  bend : D.bend = 0
  sent : D.sent.length ≤ n
  stop : stOk D.stop = true
  tc : TcOk D.tc
theorem WD.le {D : BD} {n k : Nat} (h : WD D n) (l : n ≤ k) : WD D k := ⟨h.m, h.ln, h.a, h.b, h.pc, h.bend, Nat.le_trans h.sent l, h.stop, h.tc⟩
theorem WD.pass {D : BD} {n : Nat} (h : WD D n) (k : Nat) : WD (D.pass k) n := by
  have w := pass_w h.m h.ln k
  rw [pass_m D k]
  exact ⟨w, h.ln, h.a, h.b, h.pc, h.bend, h.sent, h.stop, h.tc⟩
theorem WD.store {D : BD} {n : Nat} (h : WD D n) {i w : Int} (hb : barTo i = none) (hw : W16 w) : WD (D.store i w) (n + 1) := by
  refine ⟨put_w h.m hb hw, h.ln, h.a, h.b, h.pc, h.bend, ?_, h.stop, TcOk.snoc h.tc (.inr rfl)⟩
  show (if i = 773 then D.sent ++ [(D.beat, w)] else D.sent).length ≤ n + 1
  have := h.sent
  split
  · rw [List.length_append]; show D.sent.length + 1 ≤ n + 1; omega
  · omega
theorem doing_w {D : BD} {n : Nat} (h : WD D n) {k : Nat} (h0 : k ≠ 0) (hk : k < 23) {x : Int} (hx : 0 ≤ x ∧ x < 1024) (g : Int → Int) (hg : ∀ i ∈ (addrs k x D.b D.sp).1, W16 (g i)) (hp : ∀ i ∈ (addrs k x D.b D.sp).2, barTo i = none) :
    WD (D.doing k x ((addrs k x D.b D.sp).1.map g) (addrs k x D.b D.sp).2) (n + 1) := by
  have xw : W16 x := ⟨by omega, by omega⟩
  have up : D.sent.length ≤ n + 1 := by have := h.sent; omega
  have A : ∀ (a' : Int) (b' : Int) (pc' sp' : Int) (z l s : Bool), W16 a' → W16 b' → W16 pc' → WD ({ D with a := a', b := b', pc := pc', sp := sp', zero := z, lets := l, asleep := s } : BD) (n + 1) := fun a' b' pc' sp' z l s h1 h2 h3 => ⟨h.m, h.ln, h1, h2, h3, h.bend, up, h.stop, h.tc⟩
  have md : ∀ y : Int, W16 (y % 65536) := fun y => ⟨by omega, by omega⟩
  rcases k22 h0 hk with rfl | rfl | rfl | rfl | rfl | rfl | rfl | rfl | rfl | rfl | rfl | rfl | rfl | rfl | rfl | rfl | rfl | rfl | rfl | rfl | rfl | rfl
  · exact A _ _ _ _ _ _ _ xw h.b h.pc
  · exact A _ _ _ _ _ _ _ (hg _ List.mem_cons_self) h.b h.pc
  · exact (h.store (hp _ List.mem_cons_self) h.a)
  · exact A _ _ _ _ _ _ _ (md _) h.b h.pc
  · exact A _ _ _ _ _ _ _ (md _) h.b h.pc
  · exact A _ _ _ _ _ _ _ (h.a.and (hg _ List.mem_cons_self)) h.b h.pc
  · exact A _ _ _ _ _ _ _ (h.a.xor (hg _ List.mem_cons_self)) h.b h.pc
  · exact A _ _ _ _ _ _ _ (hg _ List.mem_cons_self) h.b h.pc
  · exact (h.store (hp _ List.mem_cons_self) h.a)
  · exact A _ _ _ _ _ _ _ h.a h.a h.pc
  · exact A _ _ _ _ _ _ _ h.b h.a h.pc
  · exact A _ _ _ _ _ _ _ h.a h.b xw
  · unfold BD.doing
    show WD (if 13 = 12 ∨ 13 = 13 ∨ 13 = 14 then (if 13 = 12 ∨ (13 = 13 ∧ D.zero = true) ∨ (13 = 14 ∧ 32768 ≤ D.a) then { D with pc := x } else D) else _) (n + 1)
    rw [if_pos (by decide)]
    split
    · exact A _ _ _ _ _ _ _ h.a h.b xw
    · exact A _ _ _ _ _ _ _ h.a h.b h.pc
  · unfold BD.doing
    show WD (if 14 = 12 ∨ 14 = 13 ∨ 14 = 14 then (if 14 = 12 ∨ (14 = 13 ∧ D.zero = true) ∨ (14 = 14 ∧ 32768 ≤ D.a) then { D with pc := x } else D) else _) (n + 1)
    rw [if_pos (by decide)]
    split
    · exact A _ _ _ _ _ _ _ h.a h.b xw
    · exact A _ _ _ _ _ _ _ h.a h.b h.pc
  · have s := h.store (hp _ List.mem_cons_self) h.pc
    exact ⟨s.m, s.ln, s.a, s.b, xw, s.bend, s.sent, s.stop, s.tc⟩
  · exact A _ _ _ _ _ _ _ h.a h.b (hg _ List.mem_cons_self)
  · have s := h.store (hp _ List.mem_cons_self) h.a
    exact ⟨s.m, s.ln, s.a, s.b, s.pc, s.bend, s.sent, s.stop, s.tc⟩
  · exact A _ _ _ _ _ _ _ (hg _ List.mem_cons_self) h.b h.pc
  · exact A _ _ _ _ _ _ _ h.a h.b h.pc
  · exact A _ _ _ _ _ _ _ h.a h.b h.pc
  · exact A _ _ _ _ _ _ _ h.a h.b (hg _ (List.mem_cons_of_mem _ List.mem_cons_self))
  · exact A _ _ _ _ _ _ _ (show W16 (D.a / 2) from ⟨by have := h.a.1; omega, by have := h.a.2; omega⟩) h.b h.pc
theorem bars_none {m : MD} {pc : Int} : ∀ {rs ps : List Int}, barOf m pc rs ps = none → (∀ i ∈ rs, (m.at i).isNone ≠ true) ∧ ∀ i ∈ ps, barTo i = none := by
  have hR : ∀ l : List Int, barR m pc l = none → ∀ i ∈ l, (m.at i).isNone ≠ true := fun l => by
    induction l with
    | nil => intro _ i hi; cases hi
    | cons j r ih =>
      intro h i hi
      unfold barR at h
      split at h
      · cases h
      · rename_i c
        rcases List.mem_cons.mp hi with z | z
        · rw [z]; exact c
        · exact ih h i z
  have hP : ∀ l : List Int, barP pc l = none → ∀ i ∈ l, barTo i = none := fun l => by
    induction l with
    | nil => intro _ i hi; cases hi
    | cons j r ih =>
      intro h i hi
      unfold barP at h
      cases e : barTo j with
      | some b => rw [e] at h; cases h
      | none =>
        rw [e] at h
        rcases List.mem_cons.mp hi with z | z
        · rw [z]; exact e
        · exact ih h i z
  intro rs ps h
  unfold barOf at h
  cases e : barR m pc rs with
  | some c => rw [e] at h; cases h
  | none => rw [e] at h; exact ⟨hR rs e, hP ps h⟩
theorem at_w {m : MD} (h : WM m) {i v : Int} (e : m.at i = some v) : W16 v := by
  unfold MD.at at e
  split at e
  · cases e
  · split at e
    · exact h.wf _ (List.mem_of_getElem? e)
    · split at e
      · exact h.wr _ (List.mem_of_getElem? e)
      · exact h.wp _ (List.mem_of_getElem? e)
theorem barTo_s (i : Int) : ∀ b, barTo i = some b → PyData.strOk b.s = true := fun b _ => by cases b <;> kernel_rfl
theorem barOf_st {m : MD} {pc : Int} {rs ps : List Int} {c : List V} (h : barOf m pc rs ps = some c) : stOk (some c) = true := by
  have hR : ∀ l : List Int, ∀ c, barR m pc l = some c → stOk (some c) = true := fun l => by
    induction l with
    | nil => intro c h; cases h
    | cons j r ih =>
      intro c h
      unfold barR at h
      split at h
      · rw [← Option.some.inj h]; kernel_rfl
      · exact ih c h
  have hP : ∀ l : List Int, ∀ c, barP pc l = some c → stOk (some c) = true := fun l => by
    induction l with
    | nil => intro c h; cases h
    | cons j r ih =>
      intro c h
      unfold barP at h
      cases e : barTo j with
      | some b =>
        rw [e] at h
        rw [← Option.some.inj h]
        cases b <;> kernel_rfl
      | none => rw [e] at h; exact ih c h
  unfold barOf at h
  cases e : barR m pc rs with
  | some d => rw [e] at h; rw [← Option.some.inj h]; exact hR rs d e
  | none => rw [e] at h; exact hP ps c h
theorem doing_stop (D : BD) (k : Nat) (x : Int) (ws ps : List Int) : (D.doing k x ws ps).stop = D.stop := by
  unfold BD.doing
  split
  · unfold BD.putting
    dsimp only
    split <;> split <;> rfl
  · split
    · split <;> rfl
    · split
      · unfold BD.returning
        dsimp only
        split <;> rfl
      · split
        · rfl
        · split
          · rfl
          · split <;> rfl
theorem deedB_w {D : BD} {n : Nat} (h : WD D n) (hpc : D.pc < 768) {k : Nat} (h0 : k ≠ 0) (hk : k < 23) {x : Int} (hx : 0 ≤ x ∧ x < 1024) :
    WD (D.deedB k x (addrs k x D.b D.sp)).2 (n + 1) ∧ (((D.deedB k x (addrs k x D.b D.sp)).1 = "deed" ∧ (D.deedB k x (addrs k x D.b D.sp)).2.stop = D.stop) ∨ ((D.deedB k x (addrs k x D.b D.sp)).1 = "stopped" ∧ (D.deedB k x (addrs k x D.b D.sp)).2.stop ≠ none)) := by
  have up : D.sent.length ≤ n + 1 := by have := h.sent; omega
  unfold BD.deedB
  cases e : barOf D.m D.pc (addrs k x D.b D.sp).1 (addrs k x D.b D.sp).2 with
  | some c => exact ⟨⟨h.m, h.ln, h.a, h.b, h.pc, h.bend, up, barOf_st e, h.tc⟩, .inr ⟨rfl, fun z => by cases z⟩⟩
  | none =>
    obtain ⟨b1, b2⟩ := bars_none e
    have hg : ∀ i ∈ (addrs k x D.b D.sp).1, W16 ((D.m.at i).getD 0) := fun i hi => by
      cases ea : D.m.at i with
      | none => exact absurd (by rw [ea]; rfl) (b1 i hi)
      | some v => exact at_w h.m ea
    have h1 : WD ({ D with pc := D.pc + 1 } : BD) n := ⟨h.m, h.ln, h.a, h.b, ⟨by show 0 ≤ D.pc + 1; have := h.pc.1; omega, by show D.pc + 1 ≤ 65535; omega⟩, h.bend, h.sent, h.stop, h.tc⟩
    obtain ⟨t, tt, et⟩ := fetches_eq (addrs k x D.b D.sp).1 (D := { D with pc := D.pc + 1 }) h.bend h.tc (fun i hi => (hg i hi).1)
    have h2 : WD ({ D with pc := D.pc + 1, tc := t, bend := 0 } : BD) n := ⟨h1.m, h1.ln, h1.a, h1.b, h1.pc, rfl, h1.sent, h1.stop, tt⟩
    have dw := doing_w h2 h0 hk hx (fun i => (D.m.at i).getD 0) hg b2
    have pw := dw.pass (1 + (addrs k x D.b D.sp).1.length + (addrs k x D.b D.sp).2.length)
    have eA : D.deedA k x (addrs k x D.b D.sp) = ((({ D with pc := D.pc + 1, tc := t, bend := 0 } : BD).doing k x ((addrs k x D.b D.sp).1.map fun i => (D.m.at i).getD 0) (addrs k x D.b D.sp).2)).pass (1 + (addrs k x D.b D.sp).1.length + (addrs k x D.b D.sp).2.length) := by
      unfold BD.deedA; rw [et]
    refine ⟨by show WD (D.deedA k x (addrs k x D.b D.sp)) (n + 1); rw [eA]; exact pw, .inl ⟨rfl, ?_⟩⟩
    show (D.deedA k x (addrs k x D.b D.sp)).stop = D.stop
    rw [eA]
    exact (core_stop (pass_keep _ _).1).trans (doing_stop _ _ _ _ _)
theorem deed_w {D : BD} {n : Nat} (h : WD D n) :
    WD D.deed.2 (n + 1) ∧ ((D.deed.1 = "deed" ∧ D.deed.2.stop = D.stop) ∨ (D.deed.1 = "stopped" ∧ D.deed.2.stop ≠ none)) := by
  have up : D.sent.length ≤ n + 1 := by have := h.sent; omega
  have hs : ∀ c, stOk (some c) = true → WD (D.halt c) (n + 1) := fun c hc => ⟨h.m, h.ln, h.a, h.b, h.pc, h.bend, up, hc, h.tc⟩
  have hn : ∀ c, (D.halt c).stop ≠ none := fun c z => by cases z
  have p0 := h.pc.1
  unfold BD.deed
  by_cases c : 767 < D.pc
  · rw [if_pos (show D.pc < 0 ∨ 768 ≤ D.pc by omega)]
    exact ⟨hs _ (by kernel_rfl), .inr ⟨rfl, hn _⟩⟩
  · rw [if_neg (show ¬ (D.pc < 0 ∨ 768 ≤ D.pc) by omega)]
    obtain ⟨w, ew⟩ : ∃ w, D.m.at D.pc = some w := by
      cases e : D.m.at D.pc with
      | none => have := (at_none_iff h.m D.pc).mp (by rw [e]; rfl); omega
      | some w => exact ⟨w, rfl⟩
    have ww := at_w h.m ew
    rw [ew, show (some w).getD 0 = w from rfl]
    unfold BD.deedW
    by_cases c1 : 22 < w / 1024
    · rw [if_pos (show ¬ (w / 1024).toNat < 23 by omega)]
      exact ⟨hs _ (by kernel_rfl), .inr ⟨rfl, hn _⟩⟩
    · rw [if_neg (show ¬ ¬ (w / 1024).toNat < 23 by have := ww.1; omega)]
      by_cases c0 : w / 1024 = 0
      · rw [if_pos (show (w / 1024).toNat = 0 by omega)]
        exact ⟨hs _ (by kernel_rfl), .inr ⟨rfl, hn _⟩⟩
      · have := ww.1
        rw [if_neg (show ¬ (w / 1024).toNat = 0 by omega)]
        exact deedB_w h (by omega) (by omega) (by omega) ⟨by omega, by omega⟩
/-- a turn: the data stay in bounds; its kind is one of four; it is «stopped» just where the board stands stopped after it -/
theorem turn_w {D : BD} {n : Nat} (h : WD D n) : WD D.turn.2 (n + 2) ∧ (D.turn.1 = "stopped" ∨ D.turn.1 = "asleep" ∨ D.turn.1 = "interrupt" ∨ D.turn.1 = "deed") ∧ (D.turn.1 = "stopped" ↔ D.turn.2.stop ≠ none) := by
  have up : D.sent.length ≤ n + 2 := by have := h.sent; omega
  have tn : TcOk [] := fun _ z => by cases z
  by_cases cs : D.stop = none
  · by_cases c1 : D.asleep = true ∧ D.pending = 0
    · rw [turn_asleep cs c1]
      have h' : WD ({ D with tc := [] } : BD) (n + 2) := ⟨h.m, h.ln, h.a, h.b, h.pc, h.bend, up, h.stop, tn⟩
      have es : (({ D with tc := [] } : BD).pass 1).stop = none := (core_stop (pass_keep _ 1).1).trans cs
      exact ⟨h'.pass 1, .inr (.inl rfl), ⟨fun z => absurd (show ("asleep" : Str) = "stopped" from z) (by decide), fun z => absurd es z⟩⟩
    · have h' : WD ({ D with tc := [], asleep := false } : BD) n := ⟨h.m, h.ln, h.a, h.b, h.pc, h.bend, h.sent, h.stop, tn⟩
      by_cases c2 : D.lets = true ∧ 0 < D.pending
      · rw [turn_inter cs c1 c2]
        cases b1 : barTo D.sp with
        | some b =>
          have ei : ({ D with tc := [], asleep := false } : BD).interrupt = (("stopped" : Str), ({ D with tc := [], asleep := false } : BD).halt [.str b.s, .int D.pc, .int D.sp]) := by
            unfold BD.interrupt
            simp only [b1]
          rw [ei]
          exact ⟨⟨h.m, h.ln, h.a, h.b, h.pc, h.bend, up, (by cases b <;> kernel_rfl), tn⟩, .inl rfl, ⟨(fun _ z => by cases z), fun _ => rfl⟩⟩
        | none =>
          cases b2 : barTo (D.sp - 1) with
          | some b =>
            have ei : ({ D with tc := [], asleep := false } : BD).interrupt = (("stopped" : Str), ({ D with tc := [], asleep := false } : BD).halt [.str b.s, .int D.pc, .int (D.sp - 1)]) := by
              unfold BD.interrupt
              simp only [b1, b2]
            rw [ei]
            exact ⟨⟨h.m, h.ln, h.a, h.b, h.pc, h.bend, up, (by cases b <;> kernel_rfl), tn⟩, .inl rfl, ⟨(fun _ z => by cases z), fun _ => rfl⟩⟩
          | none =>
            have ei : ({ D with tc := [], asleep := false } : BD).interrupt = (("interrupt" : Str), ({ D with tc := [], asleep := false } : BD).inter) := by
              unfold BD.interrupt
              simp only [b1, b2]
            rw [ei]
            have w1 := h'.store b1 h.pc
            have zw : W16 (if D.zero = true then (1 : Int) else 0) := by split <;> exact ⟨by decide, by decide⟩
            have w2 := w1.store b2 zw
            have w3 : WD ({ ((({ D with tc := [], asleep := false } : BD).store D.sp D.pc).store (D.sp - 1) (if D.zero = true then 1 else 0)) with sp := D.sp - 2, lets := false, pc := if D.pending % 2 = 0 then 2 else 1 } : BD) (n + 2) :=
              ⟨w2.m, w2.ln, w2.a, w2.b, by show W16 (if D.pending % 2 = 0 then 2 else 1); split <;> exact ⟨by decide, by decide⟩, w2.bend, w2.sent, w2.stop, w2.tc⟩
            have p1 := w3.pass 3
            refine ⟨p1, .inr (.inr (.inl rfl)), ⟨fun z => absurd (show ("interrupt" : Str) = "stopped" from z) (by decide), fun z => absurd ?_ z⟩⟩
            exact (core_stop (pass_keep _ 3).1).trans cs
      · rw [turn_deed cs c1 c2]
        obtain ⟨w, e⟩ := deed_w h'
        refine ⟨w.le (by omega), ?_⟩
        rcases e with ⟨e1, e2⟩ | ⟨e1, e2⟩
        · exact ⟨.inr (.inr (.inr e1)), ⟨fun z => absurd (e1.symm.trans z) (by decide), fun z => absurd (e2.trans cs) z⟩⟩
        · exact ⟨.inl e1, ⟨fun _ => e2, fun _ => e1⟩⟩
  · have e : D.turn = (("stopped" : Str), { D with tc := [] }) := by
      unfold BD.turn BD.turnB
      exact if_pos (by show D.stop.isSome = true; cases hh : D.stop with
        | none => exact absurd hh cs
        | some _ => rfl)
    rw [e]
    exact ⟨⟨h.m, h.ln, h.a, h.b, h.pc, h.bend, up, h.stop, tn⟩, .inl rfl, ⟨fun _ => cs, fun _ => rfl⟩⟩
theorem init_w {im : List Int} {ln : List (Int × Int)} (hi : im.length ≤ 512) (hw : ∀ n ∈ im, 0 ≤ n ∧ n ≤ 65535) (hl : LineOk ln) : WD (BD.init im ln) 0 := by
  refine ⟨⟨?_, List.length_replicate, List.length_replicate, fun x hx => ?_, fun x hx => ?_, fun x hx => ?_⟩, hl.val, ⟨Int.le_refl _, (show (0 : Int) ≤ 65535 by decide)⟩, ⟨Int.le_refl _, (show (0 : Int) ≤ 65535 by decide)⟩, ⟨Int.le_refl _, (show (0 : Int) ≤ 65535 by decide)⟩, rfl, Nat.le_refl _, rfl, fun _ z => by cases z⟩
  · show (im ++ List.replicate (512 - im.length) 65535).length = 512
    rw [List.length_append, List.length_replicate]; omega
  · rcases List.mem_append.mp hx with z | z
    · exact hw x z
    · rw [List.eq_of_mem_replicate z]; exact ⟨by decide, by decide⟩
  · rw [List.eq_of_mem_replicate hx]; exact ⟨by decide, by decide⟩
  · rw [List.eq_of_mem_replicate hx]; exact ⟨by decide, by decide⟩
theorem okF_w {D : BD} {n : Nat} (h : WD D n) : D.okF := fun v hv => (at_w h.m hv).1
theorem turnM_w {D : BD} {n : Nat} (h : WD D n) (hn : n ≤ 999000) : D.turnM = some D.turn := if_pos ⟨okF_w h, Nat.le_trans h.sent hn⟩

/-! ### a deed's turn of any board in bounds: what it comes to -/
theorem turn_of {D : BD} {n : Nat} (h : WD D n) (hs : D.stop = none) (h1 : ¬ (D.asleep = true ∧ D.pending = 0)) (h2 : ¬ (D.lets = true ∧ 0 < D.pending)) (hp : D.pc < 768) {w x : Int} {k : Nat} (hw : D.m.at D.pc = some w) (hk : w = 1024 * (k : Int) + x) (hx : 0 ≤ x ∧ x < 1024) (k23 : k < 23 := by decide) (k0 : k ≠ 0 := by decide)
    (hb : barOf D.m D.pc (addrs k x D.b D.sp).1 (addrs k x D.b D.sp).2 = none) :
    ∃ t, TcOk t ∧ D.turn = (("deed" : Str), (({ D with tc := t, bend := 0, asleep := false, pc := D.pc + 1 } : BD).doing k x ((addrs k x D.b D.sp).1.map fun i => (D.m.at i).getD 0) (addrs k x D.b D.sp).2).pass (1 + (addrs k x D.b D.sp).1.length + (addrs k x D.b D.sp).2.length)) := by
  have p0 := h.pc.1
  obtain ⟨b1, b2⟩ := bars_none hb
  have hg : ∀ i ∈ (addrs k x D.b D.sp).1, 0 ≤ (D.m.at i).getD 0 := fun i hi => by
    cases ez : D.m.at i with
    | none => exact absurd (by rw [ez]; rfl) (b1 i hi)
    | some v => exact (at_w h.m ez).1
  obtain ⟨t, tt, et⟩ := fetches_eq (addrs k x D.b D.sp).1 (D := ({ D with tc := [], asleep := false, pc := D.pc + 1 } : BD)) h.bend (fun p hp => by cases hp) hg
  refine ⟨t, tt, ?_⟩
  rw [turn_deed hs h1 h2, deed_of (D := ({ D with tc := [], asleep := false } : BD)) (k := k) (x := x) p0 hp hw hk hx k23 k0 hb]
  unfold BD.deedA
  have et' : ({ ({ D with tc := [], asleep := false } : BD) with pc := ({ D with tc := [], asleep := false } : BD).pc + 1 } : BD).fetches (addrs k x ({ D with tc := [], asleep := false } : BD).b ({ D with tc := [], asleep := false } : BD).sp).1 = _ := et
  rw [et']

/-! ### k15: the line alone; the timer stands still -/
theorem tick15 {D : BD} (h : WD D 1000) (ht : D.m.place 1 = 0) : D.tick = { D with beat := D.beat + 1, m := D.m.comes ((lookI D.ln (D.beat + 1)).getD (D.m.place 4)) } := by
  rw [tick_m]
  unfold MD.beat1
  have e : (D.m.comes ((lookI D.ln (D.beat + 1)).getD (D.m.place 4))).place 1 = 0 := by
    rw [← ht]
    unfold MD.comes
    split <;> simp [MD.setPlace, MD.raise, MD.place, List.getD_eq_getElem?_getD, List.getElem?_set]
  rw [e, if_neg (by decide)]
/-- the own stand that goes with a board -/
def ln15 (D : BD) : R_Ln := R_Ln.mk D.beat (D.m.place 4) (D.m.place 2) D.a D.sent
theorem comes_p {m : MD} (h : WM m) (v : Int) : (m.comes v).place 4 = v ∧ (m.comes v).place 1 = m.place 1 ∧ (m.comes v).place 2 = (if m.place 4 % 2 = 0 ∧ v % 2 = 1 then Builtin.bitOr (m.place 2) 2 else m.place 2) := by
  have hl := h.lp
  have e4 : ∀ q : MD, q.pl.length = 6 → (q.setPlace 4 v).place 4 = v ∧ (q.setPlace 4 v).place 1 = q.place 1 ∧ (q.setPlace 4 v).place 2 = q.place 2 := fun q hq => by
    unfold MD.setPlace MD.place
    refine ⟨?_, ?_, ?_⟩ <;> simp [List.getD_eq_getElem?_getD, List.getElem?_set, hq]
  unfold MD.comes
  by_cases c : m.place 4 % 2 < v % 2
  · rw [if_pos c, if_pos (show m.place 4 % 2 = 0 ∧ v % 2 = 1 by omega)]
    obtain ⟨a, b, d⟩ := e4 (m.raise 2) (by show (m.pl.set 2 _).length = 6; rw [List.length_set]; exact hl)
    refine ⟨a, b.trans ?_, d.trans ?_⟩
    · unfold MD.raise MD.place; simp [List.getD_eq_getElem?_getD, List.getElem?_set]
    · unfold MD.raise MD.place; simp [List.getD_eq_getElem?_getD, List.getElem?_set, hl]
  · rw [if_neg c, if_neg (show ¬ (m.place 4 % 2 = 0 ∧ v % 2 = 1) by omega)]
    exact e4 m hl
theorem beat15 {D : BD} (h : WD D 1000) (ht : D.m.place 1 = 0) : m__law_beat (ln15 D) D.ln = some (ln15 D.tick) ∧ D.tick.m.place 1 = 0 := by
  rw [tick15 h ht]
  obtain ⟨e4, e1, e2⟩ := comes_p h.m ((lookI D.ln (D.beat + 1)).getD (D.m.place 4))
  refine ⟨?_, e1.trans ht⟩
  unfold m__law_beat ln15
  dsimp only
  rw [e4, e2]
  refine bnd_of rfl (bnd_of (x := if D.m.place 4 % 2 = 0 ∧ (lookI D.ln (D.beat + 1)).getD (D.m.place 4) % 2 = 1 then Builtin.bitOr (D.m.place 2) 2 else D.m.place 2) ?_ rfl)
  split <;> rfl
def tup15 (s : R_Ln) : Int × Int × Int × Int × List (Int × Int) := (s.beat, s.level, s.flags, s.a, s.sent)
theorem pass15 {D : BD} (h : WD D 1000) (ht : D.m.place 1 = 0) : ∀ n : Nat, n < 1000 → forS (m__law_step_l1 D.ln) (rangeL 0 n) (tup15 (ln15 D)) = some (tup15 (ln15 (D.pass n))) ∧ (D.pass n).m.place 1 = 0 := fun n hn => by
  obtain ⟨s, e, hs, h1⟩ := forS_inv (f := m__law_step_l1 D.ln) (xs := rangeL 0 n) (s := tup15 (ln15 D)) (fun i s => s = tup15 (ln15 (D.pass i)) ∧ (D.pass i).m.place 1 = 0) ⟨rfl, ht⟩ (by
    rintro i k s hk ⟨rfl, hp⟩
    obtain ⟨e, e1⟩ := beat15 (D := D.pass i) (h.pass i) hp
    have el : (D.pass i).ln = D.ln := core_ln (pass_keep D i).1
    rw [el] at e
    refine ⟨tup15 (ln15 (D.pass i).tick), ?_, rfl, e1⟩
    unfold m__law_step_l1
    exact bnd_of e rfl)
  rw [range_len] at hs h1
  exact ⟨by rw [e, hs], h1⟩
/-- how the board stands behind so many deeds -/
structure J15 (F : List Int) (D : BD) (i : Nat) : Prop where
  w : WD D (2 * i)
  fl : D.m.fl = F ++ List.replicate (512 - F.length) 65535
  pc : D.pc = (i : Int)
  stop : D.stop = none
  lets : D.lets = false
  asl : D.asleep = false
  top : D.m.place 1 = 0
theorem at15 {F : List Int} {D : BD} {i : Nat} (J : J15 F D i) {w : Int} (h : F[i]? = some w) (hl : F.length ≤ 512) : D.m.at D.pc = some w := by
  have hi := (List.getElem?_eq_some_iff.mp h).1
  rw [J.pc]
  unfold MD.at
  rw [if_neg (by omega), if_pos (by omega), J.fl]
  show (F ++ _)[((i : Int)).toNat]? = _
  rw [show ((i : Int)).toNat = i by omega, List.getElem?_append_left hi]; exact h
/-- the deeds of this law -/
inductive Dd15 : Int → Prop
  | lit (x : Int) (h : 0 ≤ x ∧ x < 1024) : Dd15 (1024 * 1 + x)
  | cl : Dd15 (1024 * 3 + 770)
  | out : Dd15 (1024 * 3 + 773)
  | get : Dd15 (1024 * 2 + 772)
  | let_ : Dd15 (1024 * 20 + 0)
theorem step15 {F : List Int} {D : BD} {i : Nat} (J : J15 F D i) (hF : F.length ≤ 400) {w : Int} (hw : F[i]? = some w) (hd : Dd15 w) :
    D.turn.1 = "deed" ∧ m__law_step (ln15 D) w D.ln = some (ln15 D.turn.2) ∧ J15 F D.turn.2 (i + 1) ∧ D.turn.2.ln = D.ln := by
  have hi := (List.getElem?_eq_some_iff.mp hw).1
  have hat := at15 J hw (by omega)
  have hm := J.w.m
  have na : ¬ (D.asleep = true ∧ D.pending = 0) := fun z => by rw [J.asl] at z; exact absurd z.1 (by decide)
  have nl : ¬ (D.lets = true ∧ 0 < D.pending) := fun z => by rw [J.lets] at z; exact absurd z.1 (by decide)
  have hpc : D.pc < 768 := by rw [J.pc]; omega
  have ww := (turn_w J.w).1
  -- what is left when the state ahead of the beats is known
  have fin : ∀ (E : BD) (n : Nat), n < 1000 → D.turn = (("deed" : Str), E.pass n) → WD E 1000 → E.m.fl = D.m.fl → E.pc = D.pc + 1 → E.stop = none → E.lets = false → E.asleep = false → E.m.place 1 = 0 → E.ln = D.ln →
      (∀ s : R_Ln, ((forS (m__law_step_l1 D.ln) (rangeL 0 n) (tup15 (ln15 E))).bind fun s181 => some (R_Ln.mk s181.1 s181.2.1 s181.2.2.1 s181.2.2.2.1 s181.2.2.2.2)) = some s → m__law_step (ln15 D) w D.ln = some s) →
      D.turn.1 = "deed" ∧ m__law_step (ln15 D) w D.ln = some (ln15 D.turn.2) ∧ J15 F D.turn.2 (i + 1) ∧ D.turn.2.ln = D.ln := fun E n hn et hE h1 h2 h3 h4 h5 h6 h7 hs => by
    obtain ⟨e, e1⟩ := pass15 hE h6 n hn
    obtain ⟨k1, k2, k3⟩ := pass_keep E n
    rw [h7] at e
    rw [et] at ww ⊢
    refine ⟨rfl, hs _ (bnd_of e rfl), ⟨ww.le (by omega), (core_fl k1).trans (h1.trans J.fl), ?_, (core_stop k1).trans h3, (core_lets k1).trans h4, (core_asleep k1).trans h5, e1⟩, (core_ln k1).trans h7⟩
    show (E.pass n).pc = _
    rw [core_pc k1, h2, J.pc]; omega
  have hW : WD D 1000 := J.w.le (by omega)
  have hW' : ∀ t, TcOk t → WD ({ D with tc := t, bend := 0, asleep := false, pc := D.pc + 1 } : BD) 999 := fun t ht => ⟨hm, J.w.ln, J.w.a, J.w.b, ⟨by show 0 ≤ D.pc + 1; rw [J.pc]; omega, by show D.pc + 1 ≤ 65535; omega⟩, rfl, Nat.le_trans J.w.sent (by omega), J.w.stop, ht⟩
  have a2 := mem_at hm (i := 770) (by decide)
  cases hd with
  | lit x hx =>
    obtain ⟨t, tt, et⟩ := turn_of J.w J.stop na nl hpc (k := 1) (x := x) hat rfl hx (by decide) (by decide) rfl
    have hE := hW' t tt
    refine fin ({ D with tc := t, bend := 0, asleep := false, pc := D.pc + 1, a := x, zero := decide (x = 0) } : BD) 1 (by decide) et ⟨hE.m, hE.ln, ⟨hx.1, by show x ≤ 65535; omega⟩, hE.b, hE.pc, rfl, Nat.le_trans hE.sent (by decide), hE.stop, hE.tc⟩ rfl rfl J.stop J.lets rfl J.top rfl fun s hs => ?_
    unfold m__law_step
    refine bnd_of (x := x) ((if_pos (by omega)).trans (congrArg some (by omega))) (bnd_of (x := x) (if_neg (by omega)) (bnd_of (x := D.m.place 2) (if_neg (by omega)) (bnd_of (x := D.sent) (if_neg (by omega)) ?_)))
    have eb : decide ((1024 * 1 + x) / 1024 ∈ ([2, 3] : List Int)) = false := decide_eq_false (by rw [show (1024 * 1 + x) / 1024 = 1 by omega]; decide)
    rw [eb]; exact hs
  | cl =>
    obtain ⟨t, tt, et⟩ := turn_of J.w J.stop na nl hpc (k := 3) (x := 770) hat rfl (by decide) (by decide) (by decide) rfl
    have hE := hW' t tt
    have hst := hE.store (i := 770) (w := D.a) rfl J.w.a
    refine fin (({ D with tc := t, bend := 0, asleep := false, pc := D.pc + 1 } : BD).store 770 D.a) 2 (by decide) et (hst.le (by decide)) rfl rfl J.stop J.lets rfl ?_ rfl fun s hs => ?_
    · show (D.m.put 770 D.a).place 1 = 0
      rw [← J.top]
      unfold MD.put MD.place
      simp [List.getD_eq_getElem?_getD, List.getElem?_set]
    · have ep : (D.m.put 770 D.a).place 2 = D.m.place 2 - Builtin.bitAnd (D.m.place 2) D.a := by
        rw [and_not (place_w hm 2 (by decide)) J.w.a]
        have hl := hm.lp
        unfold MD.put MD.place
        simp [List.getD_eq_getElem?_getD, List.getElem?_set, hl]
      have ep4 : (D.m.put 770 D.a).place 4 = D.m.place 4 := by
        unfold MD.put MD.place
        simp [List.getD_eq_getElem?_getD, List.getElem?_set]
      unfold m__law_step
      refine bnd_of (x := D.a) (if_neg (by decide)) (bnd_of (x := D.a) (if_neg (by decide)) (bnd_of (x := D.m.place 2 - Builtin.bitAnd (D.m.place 2) D.a) ((if_pos (by decide)).trans rfl) (bnd_of (x := D.sent) (if_neg (by decide)) ?_)))
      have e15 : ln15 (({ D with tc := t, bend := 0, asleep := false, pc := D.pc + 1 } : BD).store 770 D.a) = R_Ln.mk D.beat (D.m.place 4) (D.m.place 2 - Builtin.bitAnd (D.m.place 2) D.a) D.a D.sent := by
        unfold ln15
        show R_Ln.mk D.beat ((D.m.put 770 D.a).place 4) ((D.m.put 770 D.a).place 2) D.a D.sent = _
        rw [ep, ep4]
      rw [e15] at hs
      exact hs
  | out =>
    obtain ⟨t, tt, et⟩ := turn_of J.w J.stop na nl hpc (k := 3) (x := 773) hat rfl (by decide) (by decide) (by decide) rfl
    have hE := hW' t tt
    have hst := hE.store (i := 773) (w := D.a) rfl J.w.a
    have pl : ∀ k : Nat, k < 5 → (D.m.put 773 D.a).place k = D.m.place k := fun k hk => by
      unfold MD.put MD.place
      have : ¬ 5 = k := by omega
      simp [List.getD_eq_getElem?_getD, List.getElem?_set, this]
    refine fin (({ D with tc := t, bend := 0, asleep := false, pc := D.pc + 1 } : BD).store 773 D.a) 2 (by decide) et (hst.le (by decide)) rfl rfl J.stop J.lets rfl ((pl 1 (by decide)).trans J.top) rfl fun s hs => ?_
    have hsn := J.w.sent
    unfold m__law_step
    refine bnd_of (x := D.a) (if_neg (by decide)) (bnd_of (x := D.a) (if_neg (by decide)) (bnd_of (x := D.m.place 2) (if_neg (by decide)) (bnd_of (x := D.sent ++ [(D.beat, D.a)]) ((if_pos (by decide)).trans (bnd_of (snoc_ok (by show D.sent.length < _; omega)) rfl)) ?_)))
    have e15 : ln15 (({ D with tc := t, bend := 0, asleep := false, pc := D.pc + 1 } : BD).store 773 D.a) = R_Ln.mk D.beat (D.m.place 4) (D.m.place 2) D.a (D.sent ++ [(D.beat, D.a)]) := by
      unfold ln15
      show R_Ln.mk D.beat ((D.m.put 773 D.a).place 4) ((D.m.put 773 D.a).place 2) D.a (D.sent ++ [(D.beat, D.a)]) = _
      rw [pl 4 (by decide), pl 2 (by decide)]
    rw [e15] at hs
    exact hs
  | get =>
    have e772 := place_at hm (k := 4) (by decide)
    have e772 : D.m.at 772 = some (D.m.place 4) := e772
    have hbar : barOf D.m D.pc (addrs 2 772 D.b D.sp).1 (addrs 2 772 D.b D.sp).2 = none := by
      show barOf D.m D.pc [772] [] = none
      exact barG e772
    obtain ⟨t, tt, et⟩ := turn_of J.w J.stop na nl hpc (k := 2) (x := 772) hat rfl (by decide) (by decide) (by decide) hbar
    have hE := hW' t tt
    have e1 : ((addrs 2 772 D.b D.sp).1.map fun i => (D.m.at i).getD 0) = [D.m.place 4] := by
      show [(D.m.at 772).getD 0] = _
      rw [e772]; rfl
    rw [e1] at et
    refine fin ({ D with tc := t, bend := 0, asleep := false, pc := D.pc + 1, a := D.m.place 4, zero := decide (D.m.place 4 = 0) } : BD) 2 (by decide) et ⟨hE.m, hE.ln, place_w hm 4 (by decide), hE.b, hE.pc, rfl, Nat.le_trans hE.sent (by decide), hE.stop, hE.tc⟩ rfl rfl J.stop J.lets rfl J.top rfl fun s hs => ?_
    unfold m__law_step
    exact bnd_of (x := D.a) (if_neg (by decide)) (bnd_of (x := D.m.place 4) ((if_pos (by decide)).trans rfl) (bnd_of (x := D.m.place 2) (if_neg (by decide)) (bnd_of (x := D.sent) (if_neg (by decide)) hs)))
  | let_ =>
    obtain ⟨t, tt, et⟩ := turn_of J.w J.stop na nl hpc (k := 20) (x := 0) hat rfl (by decide) (by decide) (by decide) rfl
    have hE := hW' t tt
    refine fin ({ D with tc := t, bend := 0, asleep := false, pc := D.pc + 1, lets := false } : BD) 1 (by decide) et ⟨hE.m, hE.ln, hE.a, hE.b, hE.pc, rfl, Nat.le_trans hE.sent (by decide), hE.stop, hE.tc⟩ rfl rfl J.stop rfl rfl J.top rfl fun s hs => ?_
    unfold m__law_step
    exact bnd_of (x := D.a) (if_neg (by decide)) (bnd_of (x := D.a) (if_neg (by decide)) (bnd_of (x := D.m.place 2) (if_neg (by decide)) (bnd_of (x := D.sent) (if_neg (by decide)) hs)))

/-! ### k15: the law whole -/
theorem mk_go15 : ∀ (l acc : List (Int × Int)), (acc.map (·.1) ++ l.map (·.1)).Pairwise (· < ·) → l.foldl (fun a p => putI a p.1 p.2) acc = acc ++ l
  | [], acc, _ => (List.append_nil acc).symm
  | (x, y) :: r, acc, h => by
    have hn : acc.any (fun p => decide (p.1 = x)) = false := by
      rw [List.any_eq_false]
      intro p hp z
      have e : p.1 = x := of_decide_eq_true z
      have := (List.pairwise_append.mp h).2.2 p.1 (List.mem_map.mpr ⟨p, hp, rfl⟩) x (by simp)
      omega
    rw [List.foldl_cons]
    have e : putI acc x y = acc ++ [(x, y)] := by
      unfold putI
      rw [hn]; rfl
    rw [e, mk_go15 r (acc ++ [(x, y)]) (by rw [List.map_append, List.append_assoc]; exact h), List.append_assoc]
    rfl
theorem mkI15 {l : List (Int × Int)} (h : LineOk l) : mkI l = l := mk_go15 l [] h.up
theorem pick15 {a b c : Int} (x : Int) (h : 0 < a ∧ 0 < b ∧ 0 < c) : ∃ v, atI [a, b, c] (x % 3) = some v ∧ 0 < v := by
  rcases (show x % 3 = 0 ∨ x % 3 = 1 ∨ x % 3 = 2 by omega) with e | e | e <;> rw [e]
  · exact ⟨a, rfl, h.1⟩
  · exact ⟨b, rfl, h.2.1⟩
  · exact ⟨c, rfl, h.2.2⟩
theorem pickM (x : Int) : ∃ v, atI ([20, 20, 20, 100] : List Int) (x % 4) = some v ∧ 0 < v ∧ v ≤ 100 := by
  rcases (show x % 4 = 0 ∨ x % 4 = 1 ∨ x % 4 = 2 ∨ x % 4 = 3 by omega) with e | e | e | e <;> rw [e]
  · exact ⟨20, rfl, by decide, by decide⟩
  · exact ⟨20, rfl, by decide, by decide⟩
  · exact ⟨20, rfl, by decide, by decide⟩
  · exact ⟨100, rfl, by decide, by decide⟩
theorem drawn15 {row : List Int} (hl : row.length = 60) (hd : Digs row) : ∃ ln ds, m__law_drawn row = some (ln, ds) ∧ LineOk ln ∧ ln.length ≤ 100 ∧ (∀ w ∈ ds, Dd15 w) ∧ ds.length ≤ 36 := by
  obtain ⟨x0, e0, g0⟩ := dg_at hl hd 0 (by decide) (by decide)
  obtain ⟨x58, e58, g58⟩ := dg_at hl hd 58 (by decide) (by decide)
  obtain ⟨x21, e21, g21⟩ := dg_at hl hd 21 (by decide) (by decide)
  obtain ⟨mo, em, m0, m1⟩ := pickM x58
  obtain ⟨gp, eg, gp0⟩ := pick15 (a := 2) (b := 4) (c := 30) x21 (by decide)
  have hmod : 0 ≤ x0 % mo ∧ x0 % mo < mo := ⟨Int.emod_nonneg _ (by omega), Int.emod_lt_of_pos _ m0⟩
  obtain ⟨⟨bt, ln⟩, el, h1, _, h3, _⟩ := forS_inv (f := m__law_drawn_l1 row) (xs := rangeL 0 (Int.toNat (1 + x0 % mo))) (s := ((0 : Int), ([] : List (Int × Int)))) (fun i s => s.2.length = i ∧ 0 ≤ s.1 ∧ LineOk s.2 ∧ ∀ p ∈ s.2, p.1 ≤ s.1) ⟨rfl, Int.le_refl _, lineOk_nil, (fun _ h => by cases h)⟩ (by
    rintro i k ⟨bt, ls⟩ hk ⟨h1, h2, h3, h4⟩
    obtain ⟨rfl, hi⟩ := range_mem hk
    have h1 : ls.length = i := h1
    have h2 : 0 ≤ bt := h2
    have h4 : ∀ p ∈ ls, p.1 ≤ bt := h4
    obtain ⟨x5, e5, g5⟩ := dg_at hl hd ((1 + (0 + (i : Int))) % 60) (by omega) (by omega)
    obtain ⟨x6, e6, g6⟩ := dg_at hl hd ((22 + (0 + (i : Int))) % 60) (by omega) (by omega)
    have gm : 0 ≤ x5 % gp := Int.emod_nonneg _ (by omega)
    refine ⟨(bt + 1 + x5 % gp, ls ++ [(bt + 1 + x5 % gp, (x6 + (0 + (i : Int)) / 38) % 4)]), ?_, by show (ls ++ _).length = _; rw [List.length_append, h1]; rfl, by show 0 ≤ bt + 1 + x5 % gp; omega, ?_, ?_⟩
    · unfold m__law_drawn_l1
      exact bnd_of e5 (bnd_of e21 (bnd_of eg ((if_pos gp0).trans (bnd_of rfl (bnd_of e6 (bnd_of (snoc_ok (by omega)) rfl))))))
    · exact LineOk.snoc h3 (by intro p hp; have := h4 p hp; show p.1 < bt + 1 + x5 % gp; omega) (by show 0 < bt + 1 + x5 % gp; omega) (by show 0 ≤ _ ∧ _ < 4; omega)
    · intro p hp
      show p.1 ≤ bt + 1 + x5 % gp
      rcases List.mem_append.mp hp with z | z
      · have := h4 p z; omega
      · rw [List.mem_singleton.mp z]; exact Int.le_refl _)
  rw [range_len] at h1
  have h1 : ln.length = _ := h1
  obtain ⟨ds, ed, q1, q2⟩ := forS_inv (f := m__law_drawn_l2 row) (xs := rangeL 0 (Int.toNat 18)) (s := ([] : List Int)) (fun i s => s.length ≤ 2 * i ∧ ∀ w ∈ s, Dd15 w) ⟨Nat.le_refl _, fun _ h => (by cases h)⟩ (by
    rintro i k s hk ⟨q1, q2⟩
    obtain ⟨rfl, hi⟩ := range_mem hk
    have hi : i < 18 := hi
    obtain ⟨x40, e40, g40⟩ := dg_at hl hd (40 + (0 + (i : Int))) (by omega) (by omega)
    obtain ⟨xk, ek, gk⟩ := dg_at hl hd (0 + (i : Int)) (by omega) (by omega)
    have two : ∀ {a b : Int}, Dd15 a → Dd15 b → (∀ w ∈ s ++ [a, b], Dd15 w) := fun {a b} ha hb w hw => by
      rcases List.mem_append.mp hw with z | z
      · exact q2 w z
      · rcases List.mem_cons.mp z with z | z
        · rw [z]; exact ha
        · rw [List.mem_singleton.mp z]; exact hb
    have one : ∀ {a : Int}, Dd15 a → (∀ w ∈ s ++ [a], Dd15 w) := fun {a} ha w hw => by
      rcases List.mem_append.mp hw with z | z
      · exact q2 w z
      · rw [List.mem_singleton.mp z]; exact ha
    have c2 : ∀ a b : Int, catL s [a, b] = some (s ++ [a, b]) := fun a b => catL_ok (by show s.length + 2 < _; omega)
    have l2 : ∀ a b : Int, (s ++ [a, b]).length ≤ 2 * (i + 1) := fun a b => by rw [List.length_append]; show s.length + 2 ≤ _; omega
    have l1 : ∀ a : Int, (s ++ [a]).length ≤ 2 * (i + 1) := fun a => by rw [List.length_append]; show s.length + 1 ≤ _; omega
    unfold m__law_drawn_l2
    by_cases d0 : x40 % 6 = 0
    · exact ⟨_, bnd_of e40 ((if_pos d0).trans (bnd_of ek (bnd_of (c2 _ _) rfl))), l2 _ _, two (.lit _ (by omega)) .cl⟩
    by_cases d1 : x40 % 6 = 1
    · exact ⟨_, bnd_of e40 ((if_neg d0).trans ((if_pos d1).trans (bnd_of ek (bnd_of (c2 _ _) rfl)))), l2 _ _, two (.lit _ (by omega)) .out⟩
    by_cases d4 : x40 % 6 < 4
    · exact ⟨_, bnd_of e40 ((if_neg d0).trans ((if_neg d1).trans ((if_pos d4).trans (bnd_of (snoc_ok (by omega)) rfl)))), l1 _, one .get⟩
    · exact ⟨_, bnd_of e40 ((if_neg d0).trans ((if_neg d1).trans ((if_neg d4).trans (bnd_of (snoc_ok (by omega)) rfl)))), l1 _, one .let_⟩)
  refine ⟨ln, ds, ?_, h3, by omega, q2, by rw [range_len] at q1; exact q1⟩
  unfold m__law_drawn
  exact bnd_of e0 (bnd_of e58 (bnd_of em ((if_pos m0).trans ((if_pos ⟨by omega, by omega⟩).trans (bnd_of el (bnd_of ed rfl))))))
theorem word15 {w : Int} (h : Dd15 w) : 0 ≤ w ∧ w ≤ 65535 := by
  cases h with
  | lit x hx => omega
  | cl => decide
  | out => decide
  | get => decide
  | let_ => decide
theorem cell15 (c : Int) : m_law_l1 c () = some (.nx ()) := by
  obtain ⟨row, e1, hl, hd⟩ := digits_ok c (n := 60) (by decide)
  obtain ⟨ln, ds, e2, lo, ll, hw, hn⟩ := drawn15 hl hd
  have io : initOk ds ln := ⟨lo, by omega, by omega, fun n h => word15 (hw n h)⟩
  have J0 : J15 ds (BD.init ds ln) 0 := ⟨init_w (by omega) (fun n h => word15 (hw n h)) lo, rfl, rfl, rfl, rfl, rfl, rfl⟩
  have em := mkI15 lo
  obtain ⟨s, e, D, hs, J, el⟩ := forC_inv (f := m_law_l2 (ln, ds)) (xs := ds) (s := (BD.init ds ln, (0 : Int), (0 : Int), (0 : Int), (0 : Int), ([] : List (Int × Int)))) (fun i s => ∃ D, s = (D, tup15 (ln15 D)) ∧ J15 ds D i ∧ D.ln = ln) ⟨BD.init ds ln, rfl, J0, rfl⟩ (by
    rintro i w s hx ⟨D, rfl, J, el⟩
    have hi := (List.getElem?_eq_some_iff.mp hx).1
    obtain ⟨t1, t2, J', el'⟩ := step15 J (by omega) hx (hw w (List.mem_of_getElem? hx))
    have tm := turnM_w J.w (by omega)
    rw [el] at t2
    refine ⟨(D.turn.2, tup15 (ln15 D.turn.2)), ?_, D.turn.2, rfl, J', el'.trans el⟩
    have e4 : D.turn.2.m.at 772 = some (D.turn.2.m.place 4) := place_at J'.w.m (k := 4) (by decide)
    have e2 : D.turn.2.m.at 770 = some (D.turn.2.m.place 2) := place_at J'.w.m (k := 2) (by decide)
    unfold m_law_l2
    refine bnd_of tm ((if_neg (fun z => z t1)).trans ?_)
    refine bnd_of (x := ln15 D.turn.2) ?_ ((if_neg ?_).trans rfl)
    · show m__law_step (ln15 D) w (mkI ln) = _
      rw [em]; exact t2
    · rintro (z | z)
      · exact z ⟨e4, e2, rfl, rfl, trivial⟩
      · exact z rfl)
  unfold m_law_l1
  exact bnd_of e1 (bnd_of e2 ((if_pos io).trans (thenC_nx e rfl)))
theorem law_true (ns : List Int) (hl : ns.length ≤ 63) : m_law ns = some true := by
  have key : ∀ xs : List Int, forC m_law_l1 xs () = some (.nx ()) := fun xs => by
    induction xs with
    | nil => rfl
    | cons x r ih =>
      show ((m_law_l1 x ()).bind fun c => _) = _
      rw [cell15 x]; exact ih
  unfold m_law
  by_cases c : cutX ns none (some 8) = []
  · exact bnd_of (if_pos c) (thenC_nx (key _) rfl)
  · exact bnd_of (if_neg c) (thenC_nx (key _) rfl)

/-! ### the head: facts by names, written lists of the top, the run -/
def fa : List He.Fa := [.glo "_wall",
  .glo "BoardError",
  .glo "NoImage",
  .int "FLASH" 512,
  .int "RAM" 768,
  .int "COUNT" 768,
  .int "TOP" 769,
  .int "FLAGS" 770,
  .int "MASK" 771,
  .int "LINE_IN" 772,
  .int "LINE_OUT" 773,
  .int "ERASED" 65535,
  .glo "Memory",
  .glo "NAMES",
  .glo "READING",
  .int "MOST" 65535,
  .glo "is_word",
  .glo "name_of",
  .glo "part_of",
  .int "FIRST_STACK" 767,
  .int "TIMER_BIT" 1,
  .int "LINE_BIT" 2,
  .glo "is_line",
  .glo "Board",
  .glo "_law_cell",
  .glo "_law_digits",
  .glo "_law_drawn",
  .glo "_law_beat",
  .glo "_law_step",
  .glo "law",
  .free "all",
  .free "bool",
  .free "dict",
  .free "int",
  .free "isinstance",
  .free "len",
  .free "list",
  .free "range",
  .free "set",
  .free "sorted",
  .exc "BoardError",
  .exm "BoardError" "BoardError" true,
  .exm "BoardError" "NoImage" false,
  .exc "NoImage",
  .exm "NoImage" "BoardError" true,
  .exm "NoImage" "NoImage" true,
  .cls "Memory",
  .noat "Memory" "flash",
  .noat "Memory" "ram",
  .noat "Memory" "places",
  .meth "Memory" "__init__",
  .mkr "Memory",
  .meth "Memory" "word_at",
  .meth "Memory" "bar_to",
  .meth "Memory" "put",
  .meth "Memory" "turn_bit",
  .meth "Memory" "raise_flag",
  .meth "Memory" "place",
  .meth "Memory" "set_place",
  .meth "Memory" "twin",
  .cls "Board",
  .noat "Board" "memory",
  .noat "Board" "line",
  .noat "Board" "registers",
  .noat "Board" "zero",
  .noat "Board" "lets",
  .noat "Board" "asleep",
  .noat "Board" "beat",
  .noat "Board" "stopped",
  .noat "Board" "sent",
  .noat "Board" "touched",
  .noat "Board" "bend",
  .meth "Board" "__init__",
  .mkr "Board",
  .meth "Board" "twin",
  .meth "Board" "pass_beats",
  .meth "Board" "line_comes",
  .meth "Board" "timer_goes",
  .meth "Board" "pending",
  .meth "Board" "turn",
  .meth "Board" "stop",
  .meth "Board" "interrupt",
  .meth "Board" "store",
  .meth "Board" "fetch",
  .meth "Board" "addresses",
  .meth "Board" "bar_of",
  .meth "Board" "deed",
  .meth "Board" "do",
  .meth "Board" "do_putting",
  .meth "Board" "do_returning",
  .meth "Board" "do_reckoning"]
def fn : List He.DefD := [⟨("_wall", none), "_wall", "_wall", defArgs s__wall, defBody s__wall, defScope s__wall, [], []⟩,
  ⟨("Memory", some "__init__"), "__init__", "Memory.__init__", defArgs s_Memory_init, defBody s_Memory_init, defScope s_Memory_init, [], []⟩,
  ⟨("Memory", some "word_at"), "word_at", "Memory.word_at", defArgs s_Memory_word_at, defBody s_Memory_word_at, defScope s_Memory_word_at, [], []⟩,
  ⟨("Memory", some "bar_to"), "bar_to", "Memory.bar_to", defArgs s_Memory_bar_to, defBody s_Memory_bar_to, defScope s_Memory_bar_to, [], []⟩,
  ⟨("Memory", some "put"), "put", "Memory.put", defArgs s_Memory_put, defBody s_Memory_put, defScope s_Memory_put, [], []⟩,
  ⟨("Memory", some "turn_bit"), "turn_bit", "Memory.turn_bit", defArgs s_Memory_turn_bit, defBody s_Memory_turn_bit, defScope s_Memory_turn_bit, [], []⟩,
  ⟨("Memory", some "raise_flag"), "raise_flag", "Memory.raise_flag", defArgs s_Memory_raise_flag, defBody s_Memory_raise_flag, defScope s_Memory_raise_flag, [], []⟩,
  ⟨("Memory", some "place"), "place", "Memory.place", defArgs s_Memory_place, defBody s_Memory_place, defScope s_Memory_place, [], []⟩,
  ⟨("Memory", some "set_place"), "set_place", "Memory.set_place", defArgs s_Memory_set_place, defBody s_Memory_set_place, defScope s_Memory_set_place, [], []⟩,
  ⟨("Memory", some "twin"), "twin", "Memory.twin", defArgs s_Memory_twin, defBody s_Memory_twin, defScope s_Memory_twin, [], []⟩,
  ⟨("is_word", none), "is_word", "is_word", defArgs s_is_word, defBody s_is_word, defScope s_is_word, [], []⟩,
  ⟨("name_of", none), "name_of", "name_of", defArgs s_name_of, defBody s_name_of, defScope s_name_of, [], []⟩,
  ⟨("part_of", none), "part_of", "part_of", defArgs s_part_of, defBody s_part_of, defScope s_part_of, [], []⟩,
  ⟨("is_line", none), "is_line", "is_line", defArgs s_is_line, defBody s_is_line, defScope s_is_line, [], []⟩,
  ⟨("Board", some "__init__"), "__init__", "Board.__init__", defArgs s_Board_init, defBody s_Board_init, defScope s_Board_init, [], []⟩,
  ⟨("Board", some "twin"), "twin", "Board.twin", defArgs s_Board_twin, defBody s_Board_twin, defScope s_Board_twin, [], []⟩,
  ⟨("Board", some "pass_beats"), "pass_beats", "Board.pass_beats", defArgs s_Board_pass_beats, defBody s_Board_pass_beats, defScope s_Board_pass_beats, [], []⟩,
  ⟨("Board", some "line_comes"), "line_comes", "Board.line_comes", defArgs s_Board_line_comes, defBody s_Board_line_comes, defScope s_Board_line_comes, [], []⟩,
  ⟨("Board", some "timer_goes"), "timer_goes", "Board.timer_goes", defArgs s_Board_timer_goes, defBody s_Board_timer_goes, defScope s_Board_timer_goes, [], []⟩,
  ⟨("Board", some "pending"), "pending", "Board.pending", defArgs s_Board_pending, defBody s_Board_pending, defScope s_Board_pending, [], []⟩,
  ⟨("Board", some "turn"), "turn", "Board.turn", defArgs s_Board_turn, defBody s_Board_turn, defScope s_Board_turn, [], []⟩,
  ⟨("Board", some "stop"), "stop", "Board.stop", defArgs s_Board_stop, defBody s_Board_stop, defScope s_Board_stop, [], []⟩,
  ⟨("Board", some "interrupt"), "interrupt", "Board.interrupt", defArgs s_Board_interrupt, defBody s_Board_interrupt, defScope s_Board_interrupt, [], []⟩,
  ⟨("Board", some "store"), "store", "Board.store", defArgs s_Board_store, defBody s_Board_store, defScope s_Board_store, [], []⟩,
  ⟨("Board", some "fetch"), "fetch", "Board.fetch", defArgs s_Board_fetch, defBody s_Board_fetch, defScope s_Board_fetch, [], []⟩,
  ⟨("Board", some "addresses"), "addresses", "Board.addresses", defArgs s_Board_addresses, defBody s_Board_addresses, defScope s_Board_addresses, [], []⟩,
  ⟨("Board", some "bar_of"), "bar_of", "Board.bar_of", defArgs s_Board_bar_of, defBody s_Board_bar_of, defScope s_Board_bar_of, [], []⟩,
  ⟨("Board", some "deed"), "deed", "Board.deed", defArgs s_Board_deed, defBody s_Board_deed, defScope s_Board_deed, [], []⟩,
  ⟨("Board", some "do"), "do", "Board.do", defArgs s_Board_do, defBody s_Board_do, defScope s_Board_do, [], []⟩,
  ⟨("Board", some "do_putting"), "do_putting", "Board.do_putting", defArgs s_Board_do_putting, defBody s_Board_do_putting, defScope s_Board_do_putting, [], []⟩,
  ⟨("Board", some "do_returning"), "do_returning", "Board.do_returning", defArgs s_Board_do_returning, defBody s_Board_do_returning, defScope s_Board_do_returning, [], []⟩,
  ⟨("Board", some "do_reckoning"), "do_reckoning", "Board.do_reckoning", defArgs s_Board_do_reckoning, defBody s_Board_do_reckoning, defScope s_Board_do_reckoning, [], []⟩,
  ⟨("_law_cell", none), "_law_cell", "_law_cell", defArgs s__law_cell, defBody s__law_cell, defScope s__law_cell, [], []⟩,
  ⟨("_law_digits", none), "_law_digits", "_law_digits", defArgs s__law_digits, defBody s__law_digits, defScope s__law_digits, [], []⟩,
  ⟨("_law_drawn", none), "_law_drawn", "_law_drawn", defArgs s__law_drawn, defBody s__law_drawn, defScope s__law_drawn, [], []⟩,
  ⟨("_law_beat", none), "_law_beat", "_law_beat", defArgs s__law_beat, defBody s__law_beat, defScope s__law_beat, [], []⟩,
  ⟨("_law_step", none), "_law_step", "_law_step", defArgs s__law_step, defBody s__law_step, defScope s__law_step, [], []⟩,
  ⟨("law", none), "law", "law", defArgs s_law, defBody s_law, defScope s_law, [], []⟩]
def ex (K : PySem.W.Frag) : Bool := He.lstB K "NAMES" [.str "mark", .str "lit", .str "get", .str "put", .str "add", .str "sub", .str "and", .str "xor", .str "getb", .str "putb", .str "tob", .str "swap", .str "go", .str "ifz", .str "ifn", .str "call", .str "ret", .str "push", .str "pop", .str "sleep", .str "let", .str "back", .str "half"] && (He.lstB K "READING" [.str "get", .str "add", .str "sub", .str "and", .str "xor"])
abbrev R : PySem.W.OpenRow := PySem.W.OpenLaw.row PySem.Challenge.rw_boardheld_k15_the_line
abbrev hk : PySem.W.Hook := hookM 4 fa fn ex
def ob (s : PySem.W.SharedT) : He.AlD × Bool := obsMG 4 fa fn ex (HandSHeadRun.getT s)
theorem ob_eq (s : PySem.W.SharedT) : ob s = hk.obs s.abs := obsMG_eq (HandSHeadRun.getT_eq s)
def loose : List PySem.Str := ([(PySem.Str.ofString "_wall"), (PySem.Str.ofString "BoardError"), (PySem.Str.ofString "NoImage"), (PySem.Str.ofString "FLASH"), (PySem.Str.ofString "RAM"), (PySem.Str.ofString "COUNT"), (PySem.Str.ofString "TOP"), (PySem.Str.ofString "FLAGS"), (PySem.Str.ofString "MASK"), (PySem.Str.ofString "LINE_IN"), (PySem.Str.ofString "LINE_OUT"), (PySem.Str.ofString "ERASED"), (PySem.Str.ofString "Memory"), (PySem.Str.ofString "NAMES"), (PySem.Str.ofString "READING"), (PySem.Str.ofString "MOST"), (PySem.Str.ofString "is_word"), (PySem.Str.ofString "name_of"), (PySem.Str.ofString "part_of"), (PySem.Str.ofString "FIRST_STACK"), (PySem.Str.ofString "TIMER_BIT"), (PySem.Str.ofString "LINE_BIT"), (PySem.Str.ofString "is_line"), (PySem.Str.ofString "Board"), (PySem.Str.ofString "_law_cell"), (PySem.Str.ofString "_law_digits"), (PySem.Str.ofString "_law_drawn"), (PySem.Str.ofString "_law_beat"), (PySem.Str.ofString "_law_step")] : List PySem.Str)
theorem run (w : World) : HandSHeadRun.RunEq R (PySem.W.view R.prog [34]) hk ob 3000 loose w := by
  intro os
  kernel_rfl

theorem txt_of {K : PySem.W.Frag} {h : Heap} {mg : Str → Option Value} (X : K.In h) (G : h.Ns mainGlobals mg) (c : SaysM fa fn ex K) : Txt K mg := by
  constructor
  case g__wall => exact He.glo_ok X G (c.d.fact 0 (f := .glo "_wall"))
  case g_BoardError => exact He.glo_ok X G (c.d.fact 1 (f := .glo "BoardError"))
  case g_NoImage => exact He.glo_ok X G (c.d.fact 2 (f := .glo "NoImage"))
  case c_FLASH => exact He.int_ok X G (c.d.fact 3 (f := .int "FLASH" 512))
  case c_RAM => exact He.int_ok X G (c.d.fact 4 (f := .int "RAM" 768))
  case c_COUNT => exact He.int_ok X G (c.d.fact 5 (f := .int "COUNT" 768))
  case c_TOP => exact He.int_ok X G (c.d.fact 6 (f := .int "TOP" 769))
  case c_FLAGS => exact He.int_ok X G (c.d.fact 7 (f := .int "FLAGS" 770))
  case c_MASK => exact He.int_ok X G (c.d.fact 8 (f := .int "MASK" 771))
  case c_LINE_IN => exact He.int_ok X G (c.d.fact 9 (f := .int "LINE_IN" 772))
  case c_LINE_OUT => exact He.int_ok X G (c.d.fact 10 (f := .int "LINE_OUT" 773))
  case c_ERASED => exact He.int_ok X G (c.d.fact 11 (f := .int "ERASED" 65535))
  case g_Memory => exact He.glo_ok X G (c.d.fact 12 (f := .glo "Memory"))
  case g_NAMES => exact He.glo_ok X G (c.d.fact 13 (f := .glo "NAMES"))
  case g_READING => exact He.glo_ok X G (c.d.fact 14 (f := .glo "READING"))
  case c_MOST => exact He.int_ok X G (c.d.fact 15 (f := .int "MOST" 65535))
  case g_is_word => exact He.glo_ok X G (c.d.fact 16 (f := .glo "is_word"))
  case g_name_of => exact He.glo_ok X G (c.d.fact 17 (f := .glo "name_of"))
  case g_part_of => exact He.glo_ok X G (c.d.fact 18 (f := .glo "part_of"))
  case c_FIRST_STACK => exact He.int_ok X G (c.d.fact 19 (f := .int "FIRST_STACK" 767))
  case c_TIMER_BIT => exact He.int_ok X G (c.d.fact 20 (f := .int "TIMER_BIT" 1))
  case c_LINE_BIT => exact He.int_ok X G (c.d.fact 21 (f := .int "LINE_BIT" 2))
  case g_is_line => exact He.glo_ok X G (c.d.fact 22 (f := .glo "is_line"))
  case g_Board => exact He.glo_ok X G (c.d.fact 23 (f := .glo "Board"))
  case g__law_cell => exact He.glo_ok X G (c.d.fact 24 (f := .glo "_law_cell"))
  case g__law_digits => exact He.glo_ok X G (c.d.fact 25 (f := .glo "_law_digits"))
  case g__law_drawn => exact He.glo_ok X G (c.d.fact 26 (f := .glo "_law_drawn"))
  case g__law_beat => exact He.glo_ok X G (c.d.fact 27 (f := .glo "_law_beat"))
  case g__law_step => exact He.glo_ok X G (c.d.fact 28 (f := .glo "_law_step"))
  case g_law => exact He.glo_ok X G (c.d.fact 29 (f := .glo "law"))
  case f_all => exact He.free_ok X G (c.d.fact 30 (f := .free "all"))
  case f_bool => exact He.free_ok X G (c.d.fact 31 (f := .free "bool"))
  case f_dict => exact He.free_ok X G (c.d.fact 32 (f := .free "dict"))
  case f_int => exact He.free_ok X G (c.d.fact 33 (f := .free "int"))
  case f_isinstance => exact He.free_ok X G (c.d.fact 34 (f := .free "isinstance"))
  case f_len => exact He.free_ok X G (c.d.fact 35 (f := .free "len"))
  case f_list => exact He.free_ok X G (c.d.fact 36 (f := .free "list"))
  case f_range => exact He.free_ok X G (c.d.fact 37 (f := .free "range"))
  case f_set => exact He.free_ok X G (c.d.fact 38 (f := .free "set"))
  case f_sorted => exact He.free_ok X G (c.d.fact 39 (f := .free "sorted"))
  case x_BoardError => exact He.exc_ok (c.d.fact 40 (f := .exc "BoardError"))
  case xm_BoardError_BoardError => exact He.exm_ok (c.d.fact 41 (f := .exm "BoardError" "BoardError" true))
  case xm_BoardError_NoImage => exact He.exm_ok (c.d.fact 42 (f := .exm "BoardError" "NoImage" false))
  case x_NoImage => exact He.exc_ok (c.d.fact 43 (f := .exc "NoImage"))
  case xm_NoImage_BoardError => exact He.exm_ok (c.d.fact 44 (f := .exm "NoImage" "BoardError" true))
  case xm_NoImage_NoImage => exact He.exm_ok (c.d.fact 45 (f := .exm "NoImage" "NoImage" true))
  case k_Memory => exact He.cls_ok (c.d.fact 46 (f := .cls "Memory"))
  case n_Memory_flash => exact He.noat_ok (c.d.fact 47 (f := .noat "Memory" "flash"))
  case n_Memory_ram => exact He.noat_ok (c.d.fact 48 (f := .noat "Memory" "ram"))
  case n_Memory_places => exact He.noat_ok (c.d.fact 49 (f := .noat "Memory" "places"))
  case m_Memory_init => exact He.meth_ok (c.d.fact 50 (f := .meth "Memory" "__init__"))
  case mk_Memory => exact He.mkr_ok (c.d.fact 51 (f := .mkr "Memory"))
  case m_Memory_word_at => exact He.meth_ok (c.d.fact 52 (f := .meth "Memory" "word_at"))
  case m_Memory_bar_to => exact He.meth_ok (c.d.fact 53 (f := .meth "Memory" "bar_to"))
  case m_Memory_put => exact He.meth_ok (c.d.fact 54 (f := .meth "Memory" "put"))
  case m_Memory_turn_bit => exact He.meth_ok (c.d.fact 55 (f := .meth "Memory" "turn_bit"))
  case m_Memory_raise_flag => exact He.meth_ok (c.d.fact 56 (f := .meth "Memory" "raise_flag"))
  case m_Memory_place => exact He.meth_ok (c.d.fact 57 (f := .meth "Memory" "place"))
  case m_Memory_set_place => exact He.meth_ok (c.d.fact 58 (f := .meth "Memory" "set_place"))
  case m_Memory_twin => exact He.meth_ok (c.d.fact 59 (f := .meth "Memory" "twin"))
  case k_Board => exact He.cls_ok (c.d.fact 60 (f := .cls "Board"))
  case n_Board_memory => exact He.noat_ok (c.d.fact 61 (f := .noat "Board" "memory"))
  case n_Board_line => exact He.noat_ok (c.d.fact 62 (f := .noat "Board" "line"))
  case n_Board_registers => exact He.noat_ok (c.d.fact 63 (f := .noat "Board" "registers"))
  case n_Board_zero => exact He.noat_ok (c.d.fact 64 (f := .noat "Board" "zero"))
  case n_Board_lets => exact He.noat_ok (c.d.fact 65 (f := .noat "Board" "lets"))
  case n_Board_asleep => exact He.noat_ok (c.d.fact 66 (f := .noat "Board" "asleep"))
  case n_Board_beat => exact He.noat_ok (c.d.fact 67 (f := .noat "Board" "beat"))
  case n_Board_stopped => exact He.noat_ok (c.d.fact 68 (f := .noat "Board" "stopped"))
  case n_Board_sent => exact He.noat_ok (c.d.fact 69 (f := .noat "Board" "sent"))
  case n_Board_touched => exact He.noat_ok (c.d.fact 70 (f := .noat "Board" "touched"))
  case n_Board_bend => exact He.noat_ok (c.d.fact 71 (f := .noat "Board" "bend"))
  case m_Board_init => exact He.meth_ok (c.d.fact 72 (f := .meth "Board" "__init__"))
  case mk_Board => exact He.mkr_ok (c.d.fact 73 (f := .mkr "Board"))
  case m_Board_twin => exact He.meth_ok (c.d.fact 74 (f := .meth "Board" "twin"))
  case m_Board_pass_beats => exact He.meth_ok (c.d.fact 75 (f := .meth "Board" "pass_beats"))
  case m_Board_line_comes => exact He.meth_ok (c.d.fact 76 (f := .meth "Board" "line_comes"))
  case m_Board_timer_goes => exact He.meth_ok (c.d.fact 77 (f := .meth "Board" "timer_goes"))
  case m_Board_pending => exact He.meth_ok (c.d.fact 78 (f := .meth "Board" "pending"))
  case m_Board_turn => exact He.meth_ok (c.d.fact 79 (f := .meth "Board" "turn"))
  case m_Board_stop => exact He.meth_ok (c.d.fact 80 (f := .meth "Board" "stop"))
  case m_Board_interrupt => exact He.meth_ok (c.d.fact 81 (f := .meth "Board" "interrupt"))
  case m_Board_store => exact He.meth_ok (c.d.fact 82 (f := .meth "Board" "store"))
  case m_Board_fetch => exact He.meth_ok (c.d.fact 83 (f := .meth "Board" "fetch"))
  case m_Board_addresses => exact He.meth_ok (c.d.fact 84 (f := .meth "Board" "addresses"))
  case m_Board_bar_of => exact He.meth_ok (c.d.fact 85 (f := .meth "Board" "bar_of"))
  case m_Board_deed => exact He.meth_ok (c.d.fact 86 (f := .meth "Board" "deed"))
  case m_Board_do => exact He.meth_ok (c.d.fact 87 (f := .meth "Board" "do"))
  case m_Board_do_putting => exact He.meth_ok (c.d.fact 88 (f := .meth "Board" "do_putting"))
  case m_Board_do_returning => exact He.meth_ok (c.d.fact 89 (f := .meth "Board" "do_returning"))
  case m_Board_do_reckoning => exact He.meth_ok (c.d.fact 90 (f := .meth "Board" "do_reckoning"))
  case l_NAMES => exact fun H => He.lstB_ok ((He.ba c.more).1) H
  case l_READING => exact fun H => He.lstB_ok ((He.ba c.more).2) H
  case d__wall => exact c.d.def_ 0
  case d_Memory_init => exact c.d.def_ 1
  case d_Memory_word_at => exact c.d.def_ 2
  case d_Memory_bar_to => exact c.d.def_ 3
  case d_Memory_put => exact c.d.def_ 4
  case d_Memory_turn_bit => exact c.d.def_ 5
  case d_Memory_raise_flag => exact c.d.def_ 6
  case d_Memory_place => exact c.d.def_ 7
  case d_Memory_set_place => exact c.d.def_ 8
  case d_Memory_twin => exact c.d.def_ 9
  case d_is_word => exact c.d.def_ 10
  case d_name_of => exact c.d.def_ 11
  case d_part_of => exact c.d.def_ 12
  case d_is_line => exact c.d.def_ 13
  case d_Board_init => exact c.d.def_ 14
  case d_Board_twin => exact c.d.def_ 15
  case d_Board_pass_beats => exact c.d.def_ 16
  case d_Board_line_comes => exact c.d.def_ 17
  case d_Board_timer_goes => exact c.d.def_ 18
  case d_Board_pending => exact c.d.def_ 19
  case d_Board_turn => exact c.d.def_ 20
  case d_Board_stop => exact c.d.def_ 21
  case d_Board_interrupt => exact c.d.def_ 22
  case d_Board_store => exact c.d.def_ 23
  case d_Board_fetch => exact c.d.def_ 24
  case d_Board_addresses => exact c.d.def_ 25
  case d_Board_bar_of => exact c.d.def_ 26
  case d_Board_deed => exact c.d.def_ 27
  case d_Board_do => exact c.d.def_ 28
  case d_Board_do_putting => exact c.d.def_ 29
  case d_Board_do_returning => exact c.d.def_ 30
  case d_Board_do_reckoning => exact c.d.def_ 31
  case d__law_cell => exact c.d.def_ 32
  case d__law_digits => exact c.d.def_ 33
  case d__law_drawn => exact c.d.def_ 34
  case d__law_beat => exact c.d.def_ 35
  case d__law_step => exact c.d.def_ 36
  case d_law => exact c.d.def_ 37

theorem law_ok {P : Program} {w : World} {K : PySem.W.Frag} {h : Heap} {mg : Str → Option Value} {f : Addr} (X : K.In h) (G : h.Ns mainGlobals mg) (hfa : mg ("law" : Str) = some (.ref f)) (c : SaysM fa fn ex K) :
    ∃ fd : FuncData, (∀ (s : Shared) (v : Value), BindsTo s fd ⟨[v], []⟩ [("_law_script", v)]) ∧ ∀ base : Heap, K.In base → base.Ns mainGlobals mg → FnOk P w K mg base CX0 7 f fd ["_law_script"] (sp_law K) := by
  have T := txt_of X G c
  have e := hfa.symm.trans T.g_law
  obtain ⟨fd, F⟩ := T.d_law
  have ef : f = He.fAd K ("law", none) := by cases e; rfl
  subst ef
  have b := FunD.bindsA (ps := ["_law_script"]) F fun _ _ _ _ _ _ us hl => match us, hl with | [_], _ => rfl
  exact ⟨fd, fun s v => b s [v] rfl, fun base _ _ => okF_law T F⟩
end Q
open PySem PySem.W PySem.Calls PyProof.Rows
theorem PySem.Challenge.cw_boardheld_k15_the_line_holds : PySem.Challenge.rw_boardheld_k15_the_line.Holds := by
  w_on
  o_law
  refine HandSHeadRun.head_any (r := OpenLaw.row PySem.Challenge.rw_boardheld_k15_the_line) (q := view (OpenLaw.row PySem.Challenge.rw_boardheld_k15_the_line).prog [34]) (H := Q.hk) (ob := Q.ob) (M := 3000) (loose := Q.loose) (d := HandSHeadRun.topDef (OpenLaw.row PySem.Challenge.rw_boardheld_k15_the_line).prog 34) (kwd := []) Q.ob_eq
    (by kernel_rfl) (fun s => by kernel_rfl) Q.run (by kernel_rfl) (by kernel_rfl) (by kernel_rfl) (by rfl) (by first | assumption | decide +kernel) (by decide +kernel) ⟨rfl, rfl, rfl, rfl, rfl, by decide +kernel⟩ ?hw ?hc
  case hw => w_witness2
  case hc =>
    refine L2.walk_ofE (l := PySem.Challenge.rw_boardheld_k15_the_line) (n := 63) (k := 7) (x := "_law_script") (CX := L2.CX0) rfl (by decide) (by kernel_rfl) ⟨rfl, by decide, by decide⟩ ?F (fun _ _ _ _ z => z)
    intro w mg fa h Y G hmg0
    obtain ⟨K, KX, c⟩ := Y
    have hmg : mg ("law" : PySem.Str) = some (.ref fa) := by
      have e : (HandSHeadRun.topDef (OpenLaw.row PySem.Challenge.rw_boardheld_k15_the_line).prog 34).name = ("law" : PySem.Str) := by kernel_rfl
      rw [← e]
      exact hmg0
    obtain ⟨fd, hb, hF⟩ := Q.law_ok (P := (PySem.Challenge.rw_boardheld_k15_the_line).prog) (w := w) KX G hmg c
    exact ⟨K, fd, Q.sp_law K, KX, hb, fun H a ns hl _ hS => ⟨a, ns, true, rfl, hS, trivial, List.nodup_nil, (by first | exact Q.law_true ns | exact Q.law_true ns hl), fun _ _ => rfl⟩, hF⟩

