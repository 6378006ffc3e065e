import PyProof.Rows.All
import Wide.All
import OpenK.AllK
import Wide.FinOn
import KE.KStateDown
import Lean
import HandS.ForMost
import HandS.ForExc
import HandS.More
import HandS.Strs
import HandS.Text
import HandS.TryOnly
import PyProof.P3Eq
import HandS.IsInst
import HandS.Style
import HandS.Flow
import HandS.Codes
import HandS.SetFor
import HandS.Wide
import HandS.Defaults
import HandS.Head0
import HandS.Head1
import HandS.Head2
import HandS.HeadEnd
import HandS.HeadHook1
import HandS.HeadHook2
import PySem.Challenge.RW_boardheld_k13_what_stops_a_board
set_option Elab.async false
set_option linter.all false
set_option maxRecDepth 100000
set_option maxHeartbeats 0
namespace Q
open PySem PySem.Spec PyProof.Rows L2

/-! ### a Hook: facts, defs, one more Bool -/
def obsM (fa : List He.Fa) (fn : List He.DefD) (ex : PySem.W.Frag → Bool) (K : PySem.W.Frag) : He.AlD × Bool := (He.obsD fa fn K, ex K)
def obsMG (n : Nat) (fa : List He.Fa) (fn : List He.DefD) (ex : PySem.W.Frag → Bool) (g : Addr → Option Obj) : He.AlD × Bool := obsM fa fn ex (He.frG g (He.asD g n))
def SaysM (fa : List He.Fa) (fn : List He.DefD) (ex : PySem.W.Frag → Bool) (K : PySem.W.Frag) : Prop := obsM fa fn ex K = (He.valD fn, true)
def hookM (n : Nat) (fa : List He.Fa) (fn : List He.DefD) (ex : PySem.W.Frag → Bool) : PySem.W.Hook where
  α := He.AlD × Bool
  obs := fun s => obsMG n fa fn ex s.heap.get?
  val := fun _ => (He.valD fn, true)
  says := fun _ h => ∃ K : PySem.W.Frag, K.In h ∧ SaysM fa fn ex K
  of := fun _ _ e => ⟨_, He.frG_in, e⟩
  keeps := fun _ _ _ ⟨K, hK, c⟩ k => ⟨K, PySem.W.Frag.In.keeps hK k, c⟩
theorem obsMG_eq {n : Nat} {fa : List He.Fa} {fn : List He.DefD} {ex : PySem.W.Frag → Bool} {g : Addr → Option Obj} {s : Shared} (h : ∀ a, g a = s.heap.get? a) : obsMG n fa fn ex g = (hookM n fa fn ex).obs s := by
  have e : g = s.heap.get? := funext h
  rw [e] <;> rfl
theorem SaysM.d {fa : List He.Fa} {fn : List He.DefD} {ex : PySem.W.Frag → Bool} {K : PySem.W.Frag} (c : SaysM fa fn ex K) : He.SaysD fa fn K := congrArg (fun z : He.AlD × Bool => z.1) c
theorem SaysM.more {fa : List He.Fa} {fn : List He.DefD} {ex : PySem.W.Frag → Bool} {K : PySem.W.Frag} (c : SaysM fa fn ex K) : ex K = true := congrArg (fun z : He.AlD × Bool => z.2) c
abbrev FnP (K : PySem.W.Frag) (x q : Str) (st : Stmt) (f : Addr) (fd : FuncData) : Prop := FunD K x q (defArgs st) (defBody st) (defScope st) [] [] f fd


/-! ### heaps: what is kept, what is owned (Kp S S': all but S is kept; S' is S and new places) -/
structure Kp (S S' : List Addr) (H H' : Hp) : Prop where
  kept : ∀ b o, H b = some o → b ∉ S → H' b = some o
  own : ∀ b, b ∈ S' → b ∈ S ∨ H b = none
  tups : ∀ b xs, H b = some (.tup xs) → H' b = some (.tup xs)
theorem Kp.refl (S : List Addr) (H : Hp) : Kp S S H H := ⟨fun _ _ h _ => h, fun _ h => .inl h, fun _ _ h => h⟩
theorem Kp.trans {S S1 S2 : List Addr} {H H1 H2 : Hp} (a : Kp S S1 H H1) (b : Kp S1 S2 H1 H2) : Kp S S2 H H2 := by
  refine ⟨fun c o h n => b.kept c o (a.kept c o h n) fun m => ?_, fun c m => ?_, fun c xs h => b.tups c xs (a.tups c xs h)⟩
  · rcases a.own c m with z | z
    · exact n z
    · rw [z] at h; cases h
  · rcases b.own c m with z | z
    · exact a.own c z
    · by_cases hc : c ∈ S
      · exact .inl hc
      · right
        cases q : H c with
        | none => rfl
        | some o => rw [a.kept c o q hc] at z; cases z
theorem Kp.sub {S S1 S2 : List Addr} {H H' : Hp} (a : Kp S S1 H H') (h : ∀ b, b ∈ S2 → b ∈ S1) : Kp S S2 H H' := ⟨a.kept, fun b m => a.own b (h b m), a.tups⟩
theorem Kp.more {S S' T : List Addr} {H H' : Hp} (a : Kp S S' H H') (h : ∀ b, b ∈ S → b ∈ T) : Kp T S' H H' :=
  ⟨fun b o e n => a.kept b o e fun m => n (h b m), fun b m => (a.own b m).imp (h b) id, a.tups⟩
def notTup : HO → Prop
  | .tup _ => False
  | _ => True
theorem Kp.upd {S : List Addr} {H : Hp} {a : Addr} {o o' : HO} (h : H a = some o) (hn : notTup o) (m : a ∈ S) : Kp S S H (upd H a o') :=
  ⟨fun b u e n => by rw [upd_ne (fun z => n (by rw [z]; exact m))]; exact e, fun _ z => .inl z, fun b xs e => by
    rw [upd_ne]; exact e
    rintro rfl; rw [e] at h; cases h; exact hn⟩
theorem Kp.new {S : List Addr} {H : Hp} {a : Addr} {o : HO} (h : H a = none) : Kp S S H (L2.upd H a o) :=
  ⟨fun b u e _ => by rw [upd_ne (ne_of_none e h)]; exact e, fun _ z => .inl z, fun b xs e => by rw [upd_ne (ne_of_none e h)]; exact e⟩
theorem Kp.newIn {S : List Addr} {H : Hp} {a : Addr} {o : HO} (h : H a = none) : Kp S (a :: S) H (L2.upd H a o) :=
  ⟨(Kp.new (S := S) h).kept, fun b m => by
    rcases List.mem_cons.mp m with z | z
    · rw [z]; exact .inr h
    · exact .inl z, (Kp.new (S := S) h).tups⟩
/-- nothing owned: all is kept -/
theorem Kp.same {S : List Addr} {H H' : Hp} (a : Kp [] S H H') : Same H H' := fun b o e => a.kept b o e (by simp)
theorem Kp.ofSame {H H' : Hp} (a : Same H H') : Kp [] [] H H' := ⟨fun b o e _ => a b o e, fun _ m => .inl m, fun b xs e => a b _ e⟩
theorem Kp.free {S S' : List Addr} {H H' : Hp} (a : Kp S S' H H') {l : Addr} (h : H' l = none) (n : l ∉ S) : H l = none := by
  cases q : H l with
  | none => rfl
  | some o => rw [a.kept l o q n] at h; cases h
theorem Kp.seq {K : PySem.W.Frag} {S S' : List Addr} {H H' : Hp} {a : Addr} {xs : List V} (k : Kp S S' H H') (n : a ∉ S) (h : SqL K H a xs) : SqL K H' a xs := by
  rcases h with (h | ⟨o, h⟩) | h
  · exact .inl (.inl (k.kept _ _ h n))
  · exact .inl (.inr ⟨o, k.kept _ _ h n⟩)
  · exact .inr h
/-- tuples at the addresses of a list of values -/
abbrev Tups (H : Hp) (vs : List V) (xss : List (List V)) : Prop := Paired (fun v xs => ∃ t, v = V.ref t ∧ H t = some (.tup xs)) vs xss
theorem Tups.mono {H H' : Hp} (k : ∀ b xs, H b = some (.tup xs) → H' b = some (.tup xs)) : ∀ {vs : List V} {xss : List (List V)}, Tups H vs xss → Tups H' vs xss
  | _, _, .nil => .nil
  | _, _, .cons ⟨t, e, h⟩ r => .cons ⟨t, e, k _ _ h⟩ (Tups.mono k r)
theorem paired_snoc {α β : Type} {F : α → β → Prop} {x : α} {y : β} (h : F x y) : ∀ {xs : List α} {ys : List β}, Paired F xs ys → Paired F (xs ++ [x]) (ys ++ [y])
  | _, _, .nil => .cons h .nil
  | _, _, .cons r t => .cons r (paired_snoc h t)
/-! ### small rules -/
section
variable {X : Cx}
theorem gi_ {x : Str} {i : Int} {pos : Pos} (hg : Gl X x) (hm : ∃ t, X.mg x = some (.int i t)) (hd : (x == ("__debug__" : Str)) = false := by decide) : PE X (.Name x pos) (tC (.int i)) := by
  obtain ⟨t, h⟩ := hm
  exact pe_glob hg h ⟨t, rfl⟩ hd
theorem gr_ {x : Str} {a : Addr} {pos : Pos} (hg : Gl X x) (hm : X.mg x = some (.ref a)) (hd : (x == ("__debug__" : Str)) = false := by decide) : PE X (.Name x pos) (tC (.ref a)) := pe_glob hg hm rfl hd
theorem gs_ {x z : Str} {pos : Pos} (hg : Gl X x) (hm : ∃ t, X.mg x = some (.str z t)) (hd : (x == ("__debug__" : Str)) = false := by decide) : PE X (.Name x pos) (tC (.str z)) := by
  obtain ⟨t, h⟩ := hm
  exact pe_glob hg h ⟨t, rfl⟩ hd
end
/-- a def's promise kept, how it binds, that it stays -/
def Ok (P : Program) (w : World) (K : PySem.W.Frag) (mg : Str → Option Value) (base : Heap) (CX : CXT) (k : Nat) (f : Addr) (ps : List Str) (sp : Sp) : Prop :=
  ∃ fd, FnOk P w K mg base CX k f fd ps sp ∧ Binds K fd ps [] ∧ PySem.W.keepIn K (.ref f) = true
theorem small_ {n : Nat} (h : n ≤ 16777215) : n < sizeLine := Nat.lt_of_le_of_lt h (by decide)
theorem small_le {n : Nat} (h : n ≤ 16777216) : n ≤ sizeLine := Nat.le_trans h (by decide)
theorem at_i {xs : List Int} {i : Int} {n : Int} (h0 : 0 ≤ i) (h : xs[i.toNat]? = some n) : atI (xs.map V.int) i = some (.int n) := by
  have e : i = ((i.toNat : Nat) : Int) := by omega
  rw [e]
  refine atI_nat ?_
  rw [List.getElem?_map]
  have e2 : ((i.toNat : Nat) : Int).toNat = i.toNat := by omega
  rw [h] <;> rfl
/-! ### tests whose answer is open -/
section
variable {A B : Prop}
theorem iteD {p : Prop} [Decidable p] (h1 : p → A) (h2 : ¬ p → B) : if decide p = true then A else B := ite2 (fun h => h1 (of_decide_eq_true h)) (fun h => h2 fun z => h (decide_eq_true z))
theorem iteN {p : Prop} [Decidable p] (h1 : ¬ p → A) (h2 : p → B) : if (!decide p) = true then A else B := by
  by_cases h : p
  · rw [decide_eq_true h]; exact h2 h
  · rw [decide_eq_false h]; exact h1 h
theorem iteI {a b : Int} (h1 : a = b → A) (h2 : a ≠ b → B) : if decide (V.int a = V.int b) = true then A else B := iteD (fun h => h1 (V.int.inj h)) (fun h => h2 fun z => h (congrArg V.int z))
theorem iteIN {a b : Int} (h1 : a ≠ b → A) (h2 : a = b → B) : if (!decide (V.int a = V.int b)) = true then A else B := iteN (fun h => h1 fun z => h (congrArg V.int z)) (fun h => h2 (V.int.inj h))
theorem iteBo {b : Bool} (h1 : b = true → A) (h2 : b = false → B) : if b = true then A else B := by
  cases b with
  | true => exact h1 rfl
  | false => exact h2 rfl
theorem iteBs {b c : Bool} (e : b = c) (h : if c = true then A else B) : if b = true then A else B := by rw [e]; exact h
end
/-! ### data read deep -/
section
variable {K : PySem.W.Frag} {H : Hp}
theorem dpInts : ∀ xs : List Int, DpAll K H (xs.map V.int) (xs.map PyData.int)
  | [] => .nil
  | x :: r => .cons (.int x) (dpInts r)
theorem dpL {a : Addr} {xs : List Int} (h : SqL K H a (xs.map V.int)) : Dp K H (.ref a) (.list (xs.map PyData.int)) := .lst h (dpInts xs)
theorem lay_all {ds : List PyData} (h : ∀ d ∈ ds, d.canLay0 = true) : PyData.canLayAll0 ds = true := by
  induction ds with
  | nil => simp only [PyData.canLayAll0]
  | cons d r ih => simp only [PyData.canLayAll0, h d (by simp), ih fun e he => h e (by simp [he]), Bool.and_self]
theorem lay_ints (xs : List Int) : PyData.canLay0 (.list (xs.map PyData.int)) = true := by
  simp only [PyData.canLay0]
  refine lay_all fun d hd => ?_
  obtain ⟨x, _, rfl⟩ := List.mem_map.mp hd
  simp only [PyData.canLay0]
theorem shp {d : PyData} (h1 : d.canLay0 = true) (h2 : d.depth ≤ 64) : SeqAt.shaped d = true := by
  unfold SeqAt.shaped
  rw [h1, decide_eq_true h2]; rfl
theorem depth_all {ds : List PyData} {n : Nat} (h : ∀ d ∈ ds, d.depth ≤ n) : PyData.depthAll ds ≤ n := by
  induction ds with
  | nil => simp only [PyData.depthAll]; exact Nat.zero_le _
  | cons d r ih =>
    simp only [PyData.depthAll]
    exact Nat.max_le.mpr ⟨h d (by simp), ih fun e he => h e (by simp [he])⟩
theorem shp_ints (xs : List Int) : SeqAt.shaped (.list (xs.map PyData.int)) = true := by
  refine shp (lay_ints xs) ?_
  simp only [PyData.depth]
  have : PyData.depthAll (xs.map PyData.int) ≤ 0 := depth_all fun d hd => by
    obtain ⟨x, _, rfl⟩ := List.mem_map.mp hd
    simp only [PyData.depth]; exact Nat.le_refl _
  omega
theorem eqv_ints : ∀ xs ys : List Int, PyData.eqvAll (xs.map PyData.int) (ys.map PyData.int) = decide (xs = ys)
  | [], [] => by simp [PyData.eqvAll]
  | [], _ :: _ => by simp [PyData.eqvAll]
  | _ :: _, [] => by simp [PyData.eqvAll]
  | x :: r, y :: q => by
    simp only [List.map_cons, PyData.eqvAll, PyData.eqv, eqv_ints r q]
    by_cases h : x = y <;> by_cases h2 : r = q <;> simp [h, h2]
theorem eqv_intL (xs ys : List Int) : PyData.eqv (.list (xs.map PyData.int)) (.list (ys.map PyData.int)) = decide (xs = ys) := by
  rw [PyData.eqv]; exact eqv_ints xs ys
end

/-! ### the text by places -/
def top (i : Nat) : Stmt := PySem.Challenge.pw_boardheld_k13_what_stops_a_board.main.body.getD i (.Pass ⟨0, 0, 0, 0⟩)
abbrev s__wall : Stmt := top 0
abbrev s_Memory_init : Stmt := inClass (top 14) 0
abbrev s_Memory_word_at : Stmt := inClass (top 14) 1
abbrev s_Memory_bar_to : Stmt := inClass (top 14) 2
abbrev s_Memory_put : Stmt := inClass (top 14) 3
abbrev s_Memory_turn_bit : Stmt := inClass (top 14) 4
abbrev s_Memory_raise_flag : Stmt := inClass (top 14) 5
abbrev s_Memory_place : Stmt := inClass (top 14) 6
abbrev s_Memory_set_place : Stmt := inClass (top 14) 7
abbrev s_Memory_twin : Stmt := inClass (top 14) 8
abbrev s_is_word : Stmt := top 19
abbrev s_name_of : Stmt := top 20
abbrev s_part_of : Stmt := top 21
abbrev s_is_line : Stmt := top 26
abbrev s_Board_init : Stmt := inClass (top 27) 0
abbrev s_Board_twin : Stmt := inClass (top 27) 1
abbrev s_Board_pass_beats : Stmt := inClass (top 27) 2
abbrev s_Board_line_comes : Stmt := inClass (top 27) 3
abbrev s_Board_timer_goes : Stmt := inClass (top 27) 4
abbrev s_Board_pending : Stmt := inClass (top 27) 5
abbrev s_Board_turn : Stmt := inClass (top 27) 6
abbrev s_Board_stop : Stmt := inClass (top 27) 7
abbrev s_Board_interrupt : Stmt := inClass (top 27) 8
abbrev s_Board_store : Stmt := inClass (top 27) 9
abbrev s_Board_fetch : Stmt := inClass (top 27) 10
abbrev s_Board_addresses : Stmt := inClass (top 27) 11
abbrev s_Board_bar_of : Stmt := inClass (top 27) 12
abbrev s_Board_deed : Stmt := inClass (top 27) 13
abbrev s_Board_do : Stmt := inClass (top 27) 14
abbrev s_Board_do_putting : Stmt := inClass (top 27) 15
abbrev s_Board_do_returning : Stmt := inClass (top 27) 16
abbrev s_Board_do_reckoning : Stmt := inClass (top 27) 17
abbrev s__law_cell : Stmt := top 29
abbrev s__law_digits : Stmt := top 30
abbrev s__law_case : Stmt := top 31
abbrev s__law_stand : Stmt := top 32
abbrev s_law : Stmt := top 33
/-! ### what the top has written -/
structure Txt (K : PySem.W.Frag) (mg : Str → Option Value) : Prop where
  g__wall : mg "_wall" = some (.ref (He.ga K "_wall"))
  g_BoardError : mg "BoardError" = some (.ref (He.ga K "BoardError"))
  g_NoImage : mg "NoImage" = some (.ref (He.ga K "NoImage"))
  c_FLASH : ∃ t, mg "FLASH" = some (.int 512 t)
  c_RAM : ∃ t, mg "RAM" = some (.int 768 t)
  c_COUNT : ∃ t, mg "COUNT" = some (.int 768 t)
  c_TOP : ∃ t, mg "TOP" = some (.int 769 t)
  c_FLAGS : ∃ t, mg "FLAGS" = some (.int 770 t)
  c_MASK : ∃ t, mg "MASK" = some (.int 771 t)
  c_LINE_IN : ∃ t, mg "LINE_IN" = some (.int 772 t)
  c_LINE_OUT : ∃ t, mg "LINE_OUT" = some (.int 773 t)
  c_ERASED : ∃ t, mg "ERASED" = some (.int 65535 t)
  g_Memory : mg "Memory" = some (.ref (He.ga K "Memory"))
  g_NAMES : mg "NAMES" = some (.ref (He.ga K "NAMES"))
  g_READING : mg "READING" = some (.ref (He.ga K "READING"))
  c_MOST : ∃ t, mg "MOST" = some (.int 65535 t)
  g_is_word : mg "is_word" = some (.ref (He.ga K "is_word"))
  g_name_of : mg "name_of" = some (.ref (He.ga K "name_of"))
  g_part_of : mg "part_of" = some (.ref (He.ga K "part_of"))
  c_FIRST_STACK : ∃ t, mg "FIRST_STACK" = some (.int 767 t)
  c_TIMER_BIT : ∃ t, mg "TIMER_BIT" = some (.int 1 t)
  c_LINE_BIT : ∃ t, mg "LINE_BIT" = some (.int 2 t)
  g_is_line : mg "is_line" = some (.ref (He.ga K "is_line"))
  g_Board : mg "Board" = some (.ref (He.ga K "Board"))
  g__law_cell : mg "_law_cell" = some (.ref (He.ga K "_law_cell"))
  g__law_digits : mg "_law_digits" = some (.ref (He.ga K "_law_digits"))
  g__law_case : mg "_law_case" = some (.ref (He.ga K "_law_case"))
  g__law_stand : mg "_law_stand" = some (.ref (He.ga K "_law_stand"))
  g_law : mg "law" = some (.ref (He.ga K "law"))
  f_all : mg "all" = none
  f_bool : mg "bool" = none
  f_dict : mg "dict" = none
  f_int : mg "int" = none
  f_isinstance : mg "isinstance" = none
  f_len : mg "len" = none
  f_list : mg "list" = none
  f_range : mg "range" = none
  f_set : mg "set" = none
  f_sorted : mg "sorted" = none
  x_BoardError : PySem.W.excIn K (He.ga K "BoardError") He.veBase "ValueError.__new__" = true ∧ PySem.W.keepIn K (.ref (He.ga K "BoardError")) = true ∧ PySem.W.subIn K (.ref (He.ga K "BoardError")) (.type "BaseException") = some true ∧ PySem.W.typeIn K (.ref (He.ga K "BoardError")) = some (.type "type")
  xm_BoardError_BoardError : PySem.W.exmOne K (.ref (He.ga K "BoardError")) (.ref (He.ga K "BoardError")) = some true
  xm_BoardError_NoImage : PySem.W.exmOne K (.ref (He.ga K "BoardError")) (.ref (He.ga K "NoImage")) = some false
  x_NoImage : PySem.W.excIn K (He.ga K "NoImage") He.veBase "ValueError.__new__" = true ∧ PySem.W.keepIn K (.ref (He.ga K "NoImage")) = true ∧ PySem.W.subIn K (.ref (He.ga K "NoImage")) (.type "BaseException") = some true ∧ PySem.W.typeIn K (.ref (He.ga K "NoImage")) = some (.type "type")
  xm_NoImage_BoardError : PySem.W.exmOne K (.ref (He.ga K "NoImage")) (.ref (He.ga K "BoardError")) = some true
  xm_NoImage_NoImage : PySem.W.exmOne K (.ref (He.ga K "NoImage")) (.ref (He.ga K "NoImage")) = some true
  k_Memory : Cls K (He.ga K "Memory")
  n_Memory_flash : NoAttr K (He.ga K "Memory") "flash"
  n_Memory_ram : NoAttr K (He.ga K "Memory") "ram"
  n_Memory_places : NoAttr K (He.ga K "Memory") "places"
  m_Memory_init : Meth K (He.ga K "Memory") "__init__" (He.ma K (He.ga K "Memory") "__init__")
  mk_Memory : Mk K (He.ga K "Memory") (He.ma K (He.ga K "Memory") "__init__")
  m_Memory_word_at : Meth K (He.ga K "Memory") "word_at" (He.ma K (He.ga K "Memory") "word_at")
  m_Memory_bar_to : Meth K (He.ga K "Memory") "bar_to" (He.ma K (He.ga K "Memory") "bar_to")
  m_Memory_put : Meth K (He.ga K "Memory") "put" (He.ma K (He.ga K "Memory") "put")
  m_Memory_turn_bit : Meth K (He.ga K "Memory") "turn_bit" (He.ma K (He.ga K "Memory") "turn_bit")
  m_Memory_raise_flag : Meth K (He.ga K "Memory") "raise_flag" (He.ma K (He.ga K "Memory") "raise_flag")
  m_Memory_place : Meth K (He.ga K "Memory") "place" (He.ma K (He.ga K "Memory") "place")
  m_Memory_set_place : Meth K (He.ga K "Memory") "set_place" (He.ma K (He.ga K "Memory") "set_place")
  m_Memory_twin : Meth K (He.ga K "Memory") "twin" (He.ma K (He.ga K "Memory") "twin")
  k_Board : Cls K (He.ga K "Board")
  n_Board_memory : NoAttr K (He.ga K "Board") "memory"
  n_Board_line : NoAttr K (He.ga K "Board") "line"
  n_Board_registers : NoAttr K (He.ga K "Board") "registers"
  n_Board_zero : NoAttr K (He.ga K "Board") "zero"
  n_Board_lets : NoAttr K (He.ga K "Board") "lets"
  n_Board_asleep : NoAttr K (He.ga K "Board") "asleep"
  n_Board_beat : NoAttr K (He.ga K "Board") "beat"
  n_Board_stopped : NoAttr K (He.ga K "Board") "stopped"
  n_Board_sent : NoAttr K (He.ga K "Board") "sent"
  n_Board_touched : NoAttr K (He.ga K "Board") "touched"
  n_Board_bend : NoAttr K (He.ga K "Board") "bend"
  m_Board_init : Meth K (He.ga K "Board") "__init__" (He.ma K (He.ga K "Board") "__init__")
  mk_Board : Mk K (He.ga K "Board") (He.ma K (He.ga K "Board") "__init__")
  m_Board_twin : Meth K (He.ga K "Board") "twin" (He.ma K (He.ga K "Board") "twin")
  m_Board_pass_beats : Meth K (He.ga K "Board") "pass_beats" (He.ma K (He.ga K "Board") "pass_beats")
  m_Board_line_comes : Meth K (He.ga K "Board") "line_comes" (He.ma K (He.ga K "Board") "line_comes")
  m_Board_timer_goes : Meth K (He.ga K "Board") "timer_goes" (He.ma K (He.ga K "Board") "timer_goes")
  m_Board_pending : Meth K (He.ga K "Board") "pending" (He.ma K (He.ga K "Board") "pending")
  m_Board_turn : Meth K (He.ga K "Board") "turn" (He.ma K (He.ga K "Board") "turn")
  m_Board_stop : Meth K (He.ga K "Board") "stop" (He.ma K (He.ga K "Board") "stop")
  m_Board_interrupt : Meth K (He.ga K "Board") "interrupt" (He.ma K (He.ga K "Board") "interrupt")
  m_Board_store : Meth K (He.ga K "Board") "store" (He.ma K (He.ga K "Board") "store")
  m_Board_fetch : Meth K (He.ga K "Board") "fetch" (He.ma K (He.ga K "Board") "fetch")
  m_Board_addresses : Meth K (He.ga K "Board") "addresses" (He.ma K (He.ga K "Board") "addresses")
  m_Board_bar_of : Meth K (He.ga K "Board") "bar_of" (He.ma K (He.ga K "Board") "bar_of")
  m_Board_deed : Meth K (He.ga K "Board") "deed" (He.ma K (He.ga K "Board") "deed")
  m_Board_do : Meth K (He.ga K "Board") "do" (He.ma K (He.ga K "Board") "do")
  m_Board_do_putting : Meth K (He.ga K "Board") "do_putting" (He.ma K (He.ga K "Board") "do_putting")
  m_Board_do_returning : Meth K (He.ga K "Board") "do_returning" (He.ma K (He.ga K "Board") "do_returning")
  m_Board_do_reckoning : Meth K (He.ga K "Board") "do_reckoning" (He.ma K (He.ga K "Board") "do_reckoning")
  l_NAMES : ∀ H : Hp, SqL K H (He.ga K "NAMES") [V.str "mark", V.str "lit", V.str "get", V.str "put", V.str "add", V.str "sub", V.str "and", V.str "xor", V.str "getb", V.str "putb", V.str "tob", V.str "swap", V.str "go", V.str "ifz", V.str "ifn", V.str "call", V.str "ret", V.str "push", V.str "pop", V.str "sleep", V.str "let", V.str "back", V.str "half"]
  l_READING : ∀ H : Hp, SqL K H (He.ga K "READING") [V.str "get", V.str "add", V.str "sub", V.str "and", V.str "xor"]
  d__wall : ∃ fd, FnP K "_wall" "_wall" s__wall (He.fAd K ("_wall", none)) fd
  d_Memory_init : ∃ fd, FnP K "__init__" "Memory.__init__" s_Memory_init (He.fAd K ("Memory", some "__init__")) fd
  d_Memory_word_at : ∃ fd, FnP K "word_at" "Memory.word_at" s_Memory_word_at (He.fAd K ("Memory", some "word_at")) fd
  d_Memory_bar_to : ∃ fd, FnP K "bar_to" "Memory.bar_to" s_Memory_bar_to (He.fAd K ("Memory", some "bar_to")) fd
  d_Memory_put : ∃ fd, FnP K "put" "Memory.put" s_Memory_put (He.fAd K ("Memory", some "put")) fd
  d_Memory_turn_bit : ∃ fd, FnP K "turn_bit" "Memory.turn_bit" s_Memory_turn_bit (He.fAd K ("Memory", some "turn_bit")) fd
  d_Memory_raise_flag : ∃ fd, FnP K "raise_flag" "Memory.raise_flag" s_Memory_raise_flag (He.fAd K ("Memory", some "raise_flag")) fd
  d_Memory_place : ∃ fd, FnP K "place" "Memory.place" s_Memory_place (He.fAd K ("Memory", some "place")) fd
  d_Memory_set_place : ∃ fd, FnP K "set_place" "Memory.set_place" s_Memory_set_place (He.fAd K ("Memory", some "set_place")) fd
  d_Memory_twin : ∃ fd, FnP K "twin" "Memory.twin" s_Memory_twin (He.fAd K ("Memory", some "twin")) fd
  d_is_word : ∃ fd, FnP K "is_word" "is_word" s_is_word (He.fAd K ("is_word", none)) fd
  d_name_of : ∃ fd, FnP K "name_of" "name_of" s_name_of (He.fAd K ("name_of", none)) fd
  d_part_of : ∃ fd, FnP K "part_of" "part_of" s_part_of (He.fAd K ("part_of", none)) fd
  d_is_line : ∃ fd, FnP K "is_line" "is_line" s_is_line (He.fAd K ("is_line", none)) fd
  d_Board_init : ∃ fd, FnP K "__init__" "Board.__init__" s_Board_init (He.fAd K ("Board", some "__init__")) fd
  d_Board_twin : ∃ fd, FnP K "twin" "Board.twin" s_Board_twin (He.fAd K ("Board", some "twin")) fd
  d_Board_pass_beats : ∃ fd, FnP K "pass_beats" "Board.pass_beats" s_Board_pass_beats (He.fAd K ("Board", some "pass_beats")) fd
  d_Board_line_comes : ∃ fd, FnP K "line_comes" "Board.line_comes" s_Board_line_comes (He.fAd K ("Board", some "line_comes")) fd
  d_Board_timer_goes : ∃ fd, FnP K "timer_goes" "Board.timer_goes" s_Board_timer_goes (He.fAd K ("Board", some "timer_goes")) fd
  d_Board_pending : ∃ fd, FnP K "pending" "Board.pending" s_Board_pending (He.fAd K ("Board", some "pending")) fd
  d_Board_turn : ∃ fd, FnP K "turn" "Board.turn" s_Board_turn (He.fAd K ("Board", some "turn")) fd
  d_Board_stop : ∃ fd, FnP K "stop" "Board.stop" s_Board_stop (He.fAd K ("Board", some "stop")) fd
  d_Board_interrupt : ∃ fd, FnP K "interrupt" "Board.interrupt" s_Board_interrupt (He.fAd K ("Board", some "interrupt")) fd
  d_Board_store : ∃ fd, FnP K "store" "Board.store" s_Board_store (He.fAd K ("Board", some "store")) fd
  d_Board_fetch : ∃ fd, FnP K "fetch" "Board.fetch" s_Board_fetch (He.fAd K ("Board", some "fetch")) fd
  d_Board_addresses : ∃ fd, FnP K "addresses" "Board.addresses" s_Board_addresses (He.fAd K ("Board", some "addresses")) fd
  d_Board_bar_of : ∃ fd, FnP K "bar_of" "Board.bar_of" s_Board_bar_of (He.fAd K ("Board", some "bar_of")) fd
  d_Board_deed : ∃ fd, FnP K "deed" "Board.deed" s_Board_deed (He.fAd K ("Board", some "deed")) fd
  d_Board_do : ∃ fd, FnP K "do" "Board.do" s_Board_do (He.fAd K ("Board", some "do")) fd
  d_Board_do_putting : ∃ fd, FnP K "do_putting" "Board.do_putting" s_Board_do_putting (He.fAd K ("Board", some "do_putting")) fd
  d_Board_do_returning : ∃ fd, FnP K "do_returning" "Board.do_returning" s_Board_do_returning (He.fAd K ("Board", some "do_returning")) fd
  d_Board_do_reckoning : ∃ fd, FnP K "do_reckoning" "Board.do_reckoning" s_Board_do_reckoning (He.fAd K ("Board", some "do_reckoning")) fd
  d__law_cell : ∃ fd, FnP K "_law_cell" "_law_cell" s__law_cell (He.fAd K ("_law_cell", none)) fd
  d__law_digits : ∃ fd, FnP K "_law_digits" "_law_digits" s__law_digits (He.fAd K ("_law_digits", none)) fd
  d__law_case : ∃ fd, FnP K "_law_case" "_law_case" s__law_case (He.fAd K ("_law_case", none)) fd
  d__law_stand : ∃ fd, FnP K "_law_stand" "_law_stand" s__law_stand (He.fAd K ("_law_stand", none)) fd
  d_law : ∃ fd, FnP K "law" "law" s_law (He.fAd K ("law", none)) fd


/-! ### memory -/
structure MA where
  p : Addr
  dx : Addr
  f : Addr
  r : Addr
  pl : Addr
structure MD where
  fl : List Int
  ra : List Int
  pl : List Int
def MemoryF (A : MA) : List (Str × V) := [(("flash" : Str), .ref A.f), (("ram" : Str), .ref A.r), (("places" : Str), .ref A.pl)]
theorem MemoryF_flash {A : MA} : (MemoryF A).lookup ("flash" : Str) = some (.ref A.f) := by kernel_rfl
theorem MemoryF_put_flash {A : MA} {x_ : V} : putF ("flash" : Str) x_ (MemoryF A) = [(("flash" : Str), x_), (("ram" : Str), .ref A.r), (("places" : Str), .ref A.pl)] := by kernel_rfl
theorem MemoryF_ram {A : MA} : (MemoryF A).lookup ("ram" : Str) = some (.ref A.r) := by kernel_rfl
theorem MemoryF_put_ram {A : MA} {x_ : V} : putF ("ram" : Str) x_ (MemoryF A) = [(("flash" : Str), .ref A.f), (("ram" : Str), x_), (("places" : Str), .ref A.pl)] := by kernel_rfl
theorem MemoryF_places {A : MA} : (MemoryF A).lookup ("places" : Str) = some (.ref A.pl) := by kernel_rfl
theorem MemoryF_put_places {A : MA} {x_ : V} : putF ("places" : Str) x_ (MemoryF A) = [(("flash" : Str), .ref A.f), (("ram" : Str), .ref A.r), (("places" : Str), x_)] := by kernel_rfl
theorem MemoryF_len {A : MA} : (MemoryF A).length < 1000 := by show 3 < 1000; decide
abbrev MA.own (A : MA) : List Addr := [A.p, A.f, A.r, A.pl]
structure MemAt (K : PySem.W.Frag) (H : Hp) (A : MA) (M : MD) : Prop where
  ob : H A.p = some (.ins (He.ga K "Memory") A.dx (MemoryF A))
  fl : H A.f = some (.lst (M.fl.map V.int))
  ra : H A.r = some (.lst (M.ra.map V.int))
  pl : H A.pl = some (.lst (M.pl.map V.int))
  lf : M.fl.length = 512
  lr : M.ra.length = 256
  lp : M.pl.length = 6
namespace MemAt
variable {K : PySem.W.Frag} {H H' : Hp} {A : MA} {M : MD} {S : List Addr}
theorem lne {xs ys : List Int} (h : xs.length ≠ ys.length) : (HO.lst (xs.map V.int)) ≠ HO.lst (ys.map V.int) := fun e => by
  injection e with e
  have e2 := congrArg List.length e
  rw [List.length_map, List.length_map] at e2
  exact h e2
theorem nfr (B : MemAt K H A M) : A.f ≠ A.r := ne_of B.fl B.ra (lne (by rw [B.lf, B.lr]; decide))
theorem nfp (B : MemAt K H A M) : A.f ≠ A.pl := ne_of B.fl B.pl (lne (by rw [B.lf, B.lp]; decide))
theorem nrp (B : MemAt K H A M) : A.r ≠ A.pl := ne_of B.ra B.pl (lne (by rw [B.lr, B.lp]; decide))
theorem npf (B : MemAt K H A M) : A.p ≠ A.f := ne_of B.ob B.fl (by intro z; cases z)
theorem npr (B : MemAt K H A M) : A.p ≠ A.r := ne_of B.ob B.ra (by intro z; cases z)
theorem npp (B : MemAt K H A M) : A.p ≠ A.pl := ne_of B.ob B.pl (by intro z; cases z)
theorem frame (B : MemAt K H A M) (k : ∀ b, b ∈ A.own → ∀ o, H b = some o → H' b = some o) : MemAt K H' A M :=
  ⟨k _ (by simp) _ B.ob, k _ (by simp) _ B.fl, k _ (by simp) _ B.ra, k _ (by simp) _ B.pl, B.lf, B.lr, B.lp⟩
theorem keep (B : MemAt K H A M) {S S' : List Addr} (k : Kp S S' H H') (d : ∀ b, b ∈ A.own → b ∉ S) : MemAt K H' A M := B.frame fun b hb o e => k.kept b o e (d b hb)
/-- a word of ram, of the places, of flash set -/
theorem setPl (B : MemAt K H A M) (i : Nat) (n : Int) : MemAt K (upd H A.pl (.lst ((M.pl.map V.int).set i (.int n)))) A { M with pl := M.pl.set i n } ∧ Kp A.own A.own H (upd H A.pl (.lst ((M.pl.map V.int).set i (.int n)))) :=
  ⟨⟨by rw [upd_ne B.npp]; exact B.ob, by rw [upd_ne B.nfp]; exact B.fl, by rw [upd_ne B.nrp]; exact B.ra, by rw [upd_same]; show _ = some (HO.lst ((M.pl.set i n).map V.int)); rw [List.map_set], B.lf, B.lr, by show (M.pl.set i n).length = 6; rw [List.length_set]; exact B.lp⟩,
    Kp.upd B.pl trivial (by simp)⟩
theorem setRa (B : MemAt K H A M) (i : Nat) (n : Int) : MemAt K (upd H A.r (.lst ((M.ra.map V.int).set i (.int n)))) A { M with ra := M.ra.set i n } ∧ Kp A.own A.own H (upd H A.r (.lst ((M.ra.map V.int).set i (.int n)))) :=
  ⟨⟨by rw [upd_ne B.npr]; exact B.ob, by rw [upd_ne B.nfr]; exact B.fl, by rw [upd_same]; show _ = some (HO.lst ((M.ra.set i n).map V.int)); rw [List.map_set], by rw [upd_ne B.nrp.symm]; exact B.pl, B.lf, by show (M.ra.set i n).length = 256; rw [List.length_set]; exact B.lr, B.lp⟩,
    Kp.upd B.ra trivial (by simp)⟩
end MemAt
/-! the mirror: what the memory's methods do -/
def MD.at (M : MD) (i : Int) : Option Int :=
  if i < 0 ∨ 773 < i then none else if i < 512 then M.fl[i.toNat]? else if i < 768 then M.ra[(i - 512).toNat]? else M.pl[(i - 768).toNat]?
def optV : Option Int → V
  | none => .non
  | some n => .int n
inductive Bar where
  | far | flash | still
  deriving DecidableEq
def Bar.s : Bar → Str
  | .far => "far"
  | .flash => "flash"
  | .still => "still"
def barTo (i : Int) : Option Bar :=
  if i < 0 ∨ 773 < i then some .far else if i < 512 then some .flash else if i = 772 then some .still else none
def barV : Option Bar → V
  | none => .non
  | some b => .str b.s
def MD.place (M : MD) (k : Nat) : Int := M.pl.getD k 0
def MD.put (M : MD) (i w : Int) : MD :=
  if i < 768 then { M with ra := M.ra.set (i - 512).toNat w }
  else if i = 770 then { M with pl := M.pl.set 2 (Builtin.bitAnd (M.place 2) (65535 - w)) }
  else { M with pl := M.pl.set (i - 768).toNat w }
def MD.raise (M : MD) (b : Int) : MD := { M with pl := M.pl.set 2 (Builtin.bitOr (M.place 2) b) }
def MD.setPlace (M : MD) (k : Nat) (w : Int) : MD := { M with pl := M.pl.set k w }
theorem getD_at {xs : List Int} {i : Int} {k : Nat} (hk : i = (k : Int)) (h : k < xs.length) : atI (xs.map V.int) i = some (.int (xs.getD k 0)) := by
  refine at_i (by omega) ?_
  have e : i.toNat = k := by omega
  rw [e, List.getD_eq_getElem?_getD, List.getElem?_eq_getElem h] <;> rfl
theorem ixN_at {xs : List Int} {i : Int} {k : Nat} (hk : i = (k : Int)) (h : k < xs.length) : ixN (xs.map V.int).length i = some k := by
  subst hk
  rw [List.length_map]
  unfold ixN
  rw [if_pos (by omega), if_pos (by omega)]
  rfl
section
variable {P : Program} {w : World} {K : PySem.W.Frag} {mg : Str → Option Value} {base : Heap}
def sp_Memory_place (K : PySem.W.Frag) : Sp := fun vs H Q _ => ∃ (A : MA) (M : MD) (k : Nat), vs = [.ref A.p, .int (768 + (k : Int))] ∧ (MemAt K H A M ∧ k < 6 ∧ Q (.int (M.place k)) H)
abbrev N_Memory_place : List Str := ["self", "address"]
theorem sc_Memory_place : FnScope N_Memory_place ["self", "address"] (defScope s_Memory_place) := ⟨rfl, rfl, rfl, by decide +kernel, rfl, by decide +kernel, by decide +kernel⟩
theorem ok_Memory_place (T : Txt K mg) : Ok P w K mg base CX0 1 (He.fAd K ("Memory", some "place")) ["self", "address"] (sp_Memory_place K) := by
  obtain ⟨fd, F⟩ := T.d_Memory_place
  refine ⟨fd, F.ok sc_Memory_place (fun vs H Q E h => by obtain ⟨A, M, k, rfl, _⟩ := h; rfl) (fun cdv A_ outer s_ H vs Q E hr h => ?_), F.bindsN (fun _ _ _ _ _ _ us hl => match us, hl with | [_, _], _ => rfl), F.kp⟩
  obtain ⟨A, M, k, rfl, h⟩ := h
  have hu := hu_of hr
  refine ⟨_, PSs.nox (pss_one (ps_ret (pe_ix ix_list (pe_fld (pv 0) rfl) (pe_op op_sub (pv 1) (gi_ (by rfl) T.c_RAM)) (fun _ _ => rfl)))), ?_⟩
  obtain ⟨B, hk, q⟩ := h
  refine ⟨_, rfl, _, _, _, _, _, rfl, B.ob, T.k_Memory, T.n_Memory_places, MemoryF_places, _, rfl, _, _, rfl, rfl, _, _, _, _, rfl, rfl, SqL.of B.pl, getD_at (k := k) (by omega) (by rw [B.lp]; exact hk), q⟩
def sp_Memory_set_place (K : PySem.W.Frag) : Sp := fun vs H Q _ => ∃ (A : MA) (M : MD) (k : Nat) (n : Int), vs = [.ref A.p, .int (768 + (k : Int)), .int n] ∧ (MemAt K H A M ∧ k < 6 ∧ ∀ H', MemAt K H' A (M.setPlace k n) → Kp A.own A.own H H' → Q .non H')
abbrev N_Memory_set_place : List Str := ["self", "address", "word"]
theorem sc_Memory_set_place : FnScope N_Memory_set_place ["self", "address", "word"] (defScope s_Memory_set_place) := ⟨rfl, rfl, rfl, by decide +kernel, rfl, by decide +kernel, by decide +kernel⟩
theorem ok_Memory_set_place (T : Txt K mg) : Ok P w K mg base CX0 1 (He.fAd K ("Memory", some "set_place")) ["self", "address", "word"] (sp_Memory_set_place K) := by
  obtain ⟨fd, F⟩ := T.d_Memory_set_place
  refine ⟨fd, F.ok sc_Memory_set_place (fun vs H Q E h => by obtain ⟨A, M, k, n, rfl, _⟩ := h; rfl) (fun cdv A_ outer s_ H vs Q E hr h => ?_), F.bindsN (fun _ _ _ _ _ _ us hl => match us, hl with | [_, _, _], _ => rfl), F.kp⟩
  obtain ⟨A, M, k, n, rfl, h⟩ := h
  have hu := hu_of hr
  refine ⟨_, PSs.nox (pss_one (ps_asg (pv 2) (pg_sub (pe_fld (pv 0) rfl) (pe_op op_sub (pv 1) (gi_ (by rfl) T.c_RAM)) set_list))), ?_⟩
  obtain ⟨B, hk, q⟩ := h
  refine ⟨_, rfl, _, rfl, _, _, _, _, _, rfl, B.ob, T.k_Memory, T.n_Memory_places, MemoryF_places, _, rfl, _, _, rfl, rfl, _, _, _, _, rfl, rfl, B.pl, ixN_at (k := k) (by omega) (by rw [B.lp]; exact hk), ?_⟩
  exact q _ (B.setPl k n).1 (B.setPl k n).2
def sp_Memory_raise_flag (K : PySem.W.Frag) : Sp := fun vs H Q _ => ∃ (A : MA) (M : MD) (b : Int), vs = [.ref A.p, .int b] ∧ (MemAt K H A M ∧ ∀ H', MemAt K H' A (M.raise b) → Kp A.own A.own H H' → Q .non H')
abbrev N_Memory_raise_flag : List Str := ["self", "bit"]
theorem sc_Memory_raise_flag : FnScope N_Memory_raise_flag ["self", "bit"] (defScope s_Memory_raise_flag) := ⟨rfl, rfl, rfl, by decide +kernel, rfl, by decide +kernel, by decide +kernel⟩
theorem ok_Memory_raise_flag (T : Txt K mg) : Ok P w K mg base CX0 1 (He.fAd K ("Memory", some "raise_flag")) ["self", "bit"] (sp_Memory_raise_flag K) := by
  obtain ⟨fd, F⟩ := T.d_Memory_raise_flag
  refine ⟨fd, F.ok sc_Memory_raise_flag (fun vs H Q E h => by obtain ⟨A, M, b, rfl, _⟩ := h; rfl) (fun cdv A_ outer s_ H vs Q E hr h => ?_), F.bindsN (fun _ _ _ _ _ _ us hl => match us, hl with | [_, _], _ => rfl), F.kp⟩
  obtain ⟨A, M, b, rfl, h⟩ := h
  have hu := hu_of hr
  refine ⟨_, PSs.nox (pss_one (ps_asg (pe_op op_or (pe_ix ix_list (pe_fld (pv 0) rfl) (pe_op op_sub (gi_ (by rfl) T.c_FLAGS) (gi_ (by rfl) T.c_RAM)) (fun _ _ => rfl)) (pv 1)) (pg_sub (pe_fld (pv 0) rfl) (pe_op op_sub (gi_ (by rfl) T.c_FLAGS) (gi_ (by rfl) T.c_RAM)) set_list))), ?_⟩
  obtain ⟨B, q⟩ := h
  refine ⟨_, rfl, _, _, _, _, _, rfl, B.ob, T.k_Memory, T.n_Memory_places, MemoryF_places, _, _, rfl, rfl, _, _, _, _, rfl, rfl, SqL.of B.pl, getD_at (k := 2) (by decide) (by rw [B.lp]; decide), _, rfl, _, _, rfl, rfl, _, rfl, _, _, _, _, _, rfl, B.ob, T.k_Memory, T.n_Memory_places, MemoryF_places, _, _, rfl, rfl, _, _, _, _, rfl, rfl, B.pl, ixN_at (k := 2) (by decide) (by rw [B.lp]; decide), ?_⟩
  exact q _ (B.setPl 2 _).1 (B.setPl 2 _).2
end


/-! ### a board -/
theorem ndne {l : List Addr} (h : l.Nodup) {a b : Addr} (i j : Nat) (ha : l[i]? = some a := by rfl) (hb : l[j]? = some b := by rfl) (hij : i ≠ j := by decide) : a ≠ b := fun e =>
  hij (nd_ix h ha (by rw [e]; exact hb))
structure BA where
  p : Addr
  dx : Addr
  ln : Addr
  rg : Addr
  sn : Addr
  tc : Addr
  m : MA
  st : V
  sv : List V
  tv : List V
structure BD where
  m : MD
  ln : List (Int × Int)
  a : Int
  b : Int
  pc : Int
  sp : Int
  zero : Bool
  lets : Bool
  asleep : Bool
  beat : Int
  stop : Option (List V)
  sent : List (Int × Int)
  tc : List (Str × Int)
  bend : Int
def RegD (a b pc sp : Int) : List (Key × V) := [((Sum.inr ("a" : Str) : Key), .int a), ((Sum.inr ("b" : Str) : Key), .int b), ((Sum.inr ("pc" : Str) : Key), .int pc), ((Sum.inr ("sp" : Str) : Key), .int sp)]
theorem RegD_a {a b pc sp : Int} : valV (RegD a b pc sp) (Sum.inr ("a" : Str) : Key) = some (.int a) := by kernel_rfl
theorem RegD_put_a {a b pc sp : Int} {x_ : V} : putK (RegD a b pc sp) (Sum.inr ("a" : Str) : Key) x_ = [((Sum.inr ("a" : Str) : Key), x_), ((Sum.inr ("b" : Str) : Key), .int b), ((Sum.inr ("pc" : Str) : Key), .int pc), ((Sum.inr ("sp" : Str) : Key), .int sp)] := by kernel_rfl
theorem RegD_b {a b pc sp : Int} : valV (RegD a b pc sp) (Sum.inr ("b" : Str) : Key) = some (.int b) := by kernel_rfl
theorem RegD_put_b {a b pc sp : Int} {x_ : V} : putK (RegD a b pc sp) (Sum.inr ("b" : Str) : Key) x_ = [((Sum.inr ("a" : Str) : Key), .int a), ((Sum.inr ("b" : Str) : Key), x_), ((Sum.inr ("pc" : Str) : Key), .int pc), ((Sum.inr ("sp" : Str) : Key), .int sp)] := by kernel_rfl
theorem RegD_pc {a b pc sp : Int} : valV (RegD a b pc sp) (Sum.inr ("pc" : Str) : Key) = some (.int pc) := by kernel_rfl
theorem RegD_put_pc {a b pc sp : Int} {x_ : V} : putK (RegD a b pc sp) (Sum.inr ("pc" : Str) : Key) x_ = [((Sum.inr ("a" : Str) : Key), .int a), ((Sum.inr ("b" : Str) : Key), .int b), ((Sum.inr ("pc" : Str) : Key), x_), ((Sum.inr ("sp" : Str) : Key), .int sp)] := by kernel_rfl
theorem RegD_sp {a b pc sp : Int} : valV (RegD a b pc sp) (Sum.inr ("sp" : Str) : Key) = some (.int sp) := by kernel_rfl
theorem RegD_put_sp {a b pc sp : Int} {x_ : V} : putK (RegD a b pc sp) (Sum.inr ("sp" : Str) : Key) x_ = [((Sum.inr ("a" : Str) : Key), .int a), ((Sum.inr ("b" : Str) : Key), .int b), ((Sum.inr ("pc" : Str) : Key), .int pc), ((Sum.inr ("sp" : Str) : Key), x_)] := by kernel_rfl
theorem RegD_len {a b pc sp : Int} : (RegD a b pc sp).length < 1000 := by show 4 < 1000; decide
def BoardF (A : BA) (D : BD) : List (Str × V) := [(("memory" : Str), .ref A.m.p), (("line" : Str), .ref A.ln), (("registers" : Str), .ref A.rg), (("zero" : Str), .bl D.zero), (("lets" : Str), .bl D.lets), (("asleep" : Str), .bl D.asleep), (("beat" : Str), .int D.beat), (("stopped" : Str), A.st), (("sent" : Str), .ref A.sn), (("touched" : Str), .ref A.tc), (("bend" : Str), .int D.bend)]
theorem BoardF_memory {A : BA} {D : BD} : (BoardF A D).lookup ("memory" : Str) = some (.ref A.m.p) := by kernel_rfl
theorem BoardF_put_memory {A : BA} {D : BD} {x_ : V} : putF ("memory" : Str) x_ (BoardF A D) = [(("memory" : Str), x_), (("line" : Str), .ref A.ln), (("registers" : Str), .ref A.rg), (("zero" : Str), .bl D.zero), (("lets" : Str), .bl D.lets), (("asleep" : Str), .bl D.asleep), (("beat" : Str), .int D.beat), (("stopped" : Str), A.st), (("sent" : Str), .ref A.sn), (("touched" : Str), .ref A.tc), (("bend" : Str), .int D.bend)] := by kernel_rfl
theorem BoardF_line {A : BA} {D : BD} : (BoardF A D).lookup ("line" : Str) = some (.ref A.ln) := by kernel_rfl
theorem BoardF_put_line {A : BA} {D : BD} {x_ : V} : putF ("line" : Str) x_ (BoardF A D) = [(("memory" : Str), .ref A.m.p), (("line" : Str), x_), (("registers" : Str), .ref A.rg), (("zero" : Str), .bl D.zero), (("lets" : Str), .bl D.lets), (("asleep" : Str), .bl D.asleep), (("beat" : Str), .int D.beat), (("stopped" : Str), A.st), (("sent" : Str), .ref A.sn), (("touched" : Str), .ref A.tc), (("bend" : Str), .int D.bend)] := by kernel_rfl
theorem BoardF_registers {A : BA} {D : BD} : (BoardF A D).lookup ("registers" : Str) = some (.ref A.rg) := by kernel_rfl
theorem BoardF_put_registers {A : BA} {D : BD} {x_ : V} : putF ("registers" : Str) x_ (BoardF A D) = [(("memory" : Str), .ref A.m.p), (("line" : Str), .ref A.ln), (("registers" : Str), x_), (("zero" : Str), .bl D.zero), (("lets" : Str), .bl D.lets), (("asleep" : Str), .bl D.asleep), (("beat" : Str), .int D.beat), (("stopped" : Str), A.st), (("sent" : Str), .ref A.sn), (("touched" : Str), .ref A.tc), (("bend" : Str), .int D.bend)] := by kernel_rfl
theorem BoardF_zero {A : BA} {D : BD} : (BoardF A D).lookup ("zero" : Str) = some (.bl D.zero) := by kernel_rfl
theorem BoardF_put_zero {A : BA} {D : BD} {x_ : V} : putF ("zero" : Str) x_ (BoardF A D) = [(("memory" : Str), .ref A.m.p), (("line" : Str), .ref A.ln), (("registers" : Str), .ref A.rg), (("zero" : Str), x_), (("lets" : Str), .bl D.lets), (("asleep" : Str), .bl D.asleep), (("beat" : Str), .int D.beat), (("stopped" : Str), A.st), (("sent" : Str), .ref A.sn), (("touched" : Str), .ref A.tc), (("bend" : Str), .int D.bend)] := by kernel_rfl
theorem BoardF_lets {A : BA} {D : BD} : (BoardF A D).lookup ("lets" : Str) = some (.bl D.lets) := by kernel_rfl
theorem BoardF_put_lets {A : BA} {D : BD} {x_ : V} : putF ("lets" : Str) x_ (BoardF A D) = [(("memory" : Str), .ref A.m.p), (("line" : Str), .ref A.ln), (("registers" : Str), .ref A.rg), (("zero" : Str), .bl D.zero), (("lets" : Str), x_), (("asleep" : Str), .bl D.asleep), (("beat" : Str), .int D.beat), (("stopped" : Str), A.st), (("sent" : Str), .ref A.sn), (("touched" : Str), .ref A.tc), (("bend" : Str), .int D.bend)] := by kernel_rfl
theorem BoardF_asleep {A : BA} {D : BD} : (BoardF A D).lookup ("asleep" : Str) = some (.bl D.asleep) := by kernel_rfl
theorem BoardF_put_asleep {A : BA} {D : BD} {x_ : V} : putF ("asleep" : Str) x_ (BoardF A D) = [(("memory" : Str), .ref A.m.p), (("line" : Str), .ref A.ln), (("registers" : Str), .ref A.rg), (("zero" : Str), .bl D.zero), (("lets" : Str), .bl D.lets), (("asleep" : Str), x_), (("beat" : Str), .int D.beat), (("stopped" : Str), A.st), (("sent" : Str), .ref A.sn), (("touched" : Str), .ref A.tc), (("bend" : Str), .int D.bend)] := by kernel_rfl
theorem BoardF_beat {A : BA} {D : BD} : (BoardF A D).lookup ("beat" : Str) = some (.int D.beat) := by kernel_rfl
theorem BoardF_put_beat {A : BA} {D : BD} {x_ : V} : putF ("beat" : Str) x_ (BoardF A D) = [(("memory" : Str), .ref A.m.p), (("line" : Str), .ref A.ln), (("registers" : Str), .ref A.rg), (("zero" : Str), .bl D.zero), (("lets" : Str), .bl D.lets), (("asleep" : Str), .bl D.asleep), (("beat" : Str), x_), (("stopped" : Str), A.st), (("sent" : Str), .ref A.sn), (("touched" : Str), .ref A.tc), (("bend" : Str), .int D.bend)] := by kernel_rfl
theorem BoardF_stopped {A : BA} {D : BD} : (BoardF A D).lookup ("stopped" : Str) = some (A.st) := by kernel_rfl
theorem BoardF_put_stopped {A : BA} {D : BD} {x_ : V} : putF ("stopped" : Str) x_ (BoardF A D) = [(("memory" : Str), .ref A.m.p), (("line" : Str), .ref A.ln), (("registers" : Str), .ref A.rg), (("zero" : Str), .bl D.zero), (("lets" : Str), .bl D.lets), (("asleep" : Str), .bl D.asleep), (("beat" : Str), .int D.beat), (("stopped" : Str), x_), (("sent" : Str), .ref A.sn), (("touched" : Str), .ref A.tc), (("bend" : Str), .int D.bend)] := by kernel_rfl
theorem BoardF_sent {A : BA} {D : BD} : (BoardF A D).lookup ("sent" : Str) = some (.ref A.sn) := by kernel_rfl
theorem BoardF_put_sent {A : BA} {D : BD} {x_ : V} : putF ("sent" : Str) x_ (BoardF A D) = [(("memory" : Str), .ref A.m.p), (("line" : Str), .ref A.ln), (("registers" : Str), .ref A.rg), (("zero" : Str), .bl D.zero), (("lets" : Str), .bl D.lets), (("asleep" : Str), .bl D.asleep), (("beat" : Str), .int D.beat), (("stopped" : Str), A.st), (("sent" : Str), x_), (("touched" : Str), .ref A.tc), (("bend" : Str), .int D.bend)] := by kernel_rfl
theorem BoardF_touched {A : BA} {D : BD} : (BoardF A D).lookup ("touched" : Str) = some (.ref A.tc) := by kernel_rfl
theorem BoardF_put_touched {A : BA} {D : BD} {x_ : V} : putF ("touched" : Str) x_ (BoardF A D) = [(("memory" : Str), .ref A.m.p), (("line" : Str), .ref A.ln), (("registers" : Str), .ref A.rg), (("zero" : Str), .bl D.zero), (("lets" : Str), .bl D.lets), (("asleep" : Str), .bl D.asleep), (("beat" : Str), .int D.beat), (("stopped" : Str), A.st), (("sent" : Str), .ref A.sn), (("touched" : Str), x_), (("bend" : Str), .int D.bend)] := by kernel_rfl
theorem BoardF_bend {A : BA} {D : BD} : (BoardF A D).lookup ("bend" : Str) = some (.int D.bend) := by kernel_rfl
theorem BoardF_put_bend {A : BA} {D : BD} {x_ : V} : putF ("bend" : Str) x_ (BoardF A D) = [(("memory" : Str), .ref A.m.p), (("line" : Str), .ref A.ln), (("registers" : Str), .ref A.rg), (("zero" : Str), .bl D.zero), (("lets" : Str), .bl D.lets), (("asleep" : Str), .bl D.asleep), (("beat" : Str), .int D.beat), (("stopped" : Str), A.st), (("sent" : Str), .ref A.sn), (("touched" : Str), .ref A.tc), (("bend" : Str), x_)] := by kernel_rfl
theorem BoardF_len {A : BA} {D : BD} : (BoardF A D).length < 1000 := by show 11 < 1000; decide
abbrev BA.own (A : BA) : List Addr := [A.p, A.ln, A.rg, A.sn, A.tc, A.m.p, A.m.f, A.m.r, A.m.pl]
def lineK (l : List (Int × Int)) : List (Key × V) := l.map fun p => (Sum.inl p.1, V.int p.2)
def StopV (H : Hp) (v : V) : Option (List V) → Prop
  | none => v = .non
  | some xs => ∃ t, v = .ref t ∧ H t = some (.tup xs)
def sentT (l : List (Int × Int)) : List (List V) := l.map fun p => [.int p.1, .int p.2]
def tcT (l : List (Str × Int)) : List (List V) := l.map fun p => [.str p.1, .int p.2]
structure BoardAt (K : PySem.W.Frag) (H : Hp) (A : BA) (D : BD) : Prop where
  ob : H A.p = some (.ins (He.ga K "Board") A.dx (BoardF A D))
  ln : H A.ln = some (.dK (lineK D.ln))
  rg : H A.rg = some (.dK (RegD D.a D.b D.pc D.sp))
  sn : H A.sn = some (.lst A.sv)
  tc : H A.tc = some (.lst A.tv)
  st : StopV H A.st D.stop
  sent : Tups H A.sv (sentT D.sent)
  tch : Tups H A.tv (tcT D.tc)
  mem : MemAt K H A.m D.m
  nd : A.own.Nodup
  ls : D.sent.length ≤ 1000000
  lt : D.tc.length ≤ 1000
theorem BA.mown {A : BA} {b : Addr} (h : b ∈ A.m.own) : b ∈ A.own := List.mem_cons_of_mem _ (List.mem_cons_of_mem _ (List.mem_cons_of_mem _ (List.mem_cons_of_mem _ (List.mem_cons_of_mem _ h))))
theorem StopV.mono {H H' : Hp} {v : V} (k : ∀ b xs, H b = some (.tup xs) → H' b = some (.tup xs)) : ∀ {o : Option (List V)}, StopV H v o → StopV H' v o
  | none, h => h
  | some _, ⟨t, e, h⟩ => ⟨t, e, k _ _ h⟩
namespace BoardAt
variable {K : PySem.W.Frag} {H H' : Hp} {A : BA} {D : BD}
theorem frame (B : BoardAt K H A D) (k : ∀ b, b ∈ A.own → ∀ o, H b = some o → H' b = some o) (t : ∀ b xs, H b = some (.tup xs) → H' b = some (.tup xs)) : BoardAt K H' A D :=
  ⟨k _ (by simp) _ B.ob, k _ (by simp) _ B.ln, k _ (by simp) _ B.rg, k _ (by simp) _ B.sn, k _ (by simp) _ B.tc, B.st.mono t, B.sent.mono t, B.tch.mono t,
    B.mem.frame fun b hb => k b (BA.mown hb), B.nd, B.ls, B.lt⟩
theorem keep (B : BoardAt K H A D) {S S' : List Addr} (k : Kp S S' H H') (d : ∀ b, b ∈ A.own → b ∉ S) : BoardAt K H' A D := B.frame (fun b hb o e => k.kept b o e (d b hb)) k.tups
theorem live (B : BoardAt K H A D) {b : Addr} (h : b ∈ A.own) : ∃ o, H b = some o ∧ notTup o := by
  simp only [BA.own, List.mem_cons, List.not_mem_nil, or_false] at h
  rcases h with rfl | rfl | rfl | rfl | rfl | rfl | rfl | rfl | rfl
  · exact ⟨_, B.ob, trivial⟩
  · exact ⟨_, B.ln, trivial⟩
  · exact ⟨_, B.rg, trivial⟩
  · exact ⟨_, B.sn, trivial⟩
  · exact ⟨_, B.tc, trivial⟩
  · exact ⟨_, B.mem.ob, trivial⟩
  · exact ⟨_, B.mem.fl, trivial⟩
  · exact ⟨_, B.mem.ra, trivial⟩
  · exact ⟨_, B.mem.pl, trivial⟩
theorem fresh (B : BoardAt K H A D) {b : Addr} (h : H b = none) : b ∉ A.own := fun m => by
  obtain ⟨o, e, _⟩ := B.live m
  rw [h] at e; cases e
theorem new (B : BoardAt K H A D) {b : Addr} {o : HO} (h : H b = none) : BoardAt K (upd H b o) A D := B.keep (S := []) (Kp.new h) fun _ _ z => by cases z
theorem get_a (B : BoardAt K H A D) : DGet H A.rg (.str "a") (some (.int D.a)) := by have g := DGet.k (k := Sum.inr "a") B.rg; rw [RegD_a] at g; exact g
theorem get_b (B : BoardAt K H A D) : DGet H A.rg (.str "b") (some (.int D.b)) := by have g := DGet.k (k := Sum.inr "b") B.rg; rw [RegD_b] at g; exact g
theorem get_pc (B : BoardAt K H A D) : DGet H A.rg (.str "pc") (some (.int D.pc)) := by have g := DGet.k (k := Sum.inr "pc") B.rg; rw [RegD_pc] at g; exact g
theorem get_sp (B : BoardAt K H A D) : DGet H A.rg (.str "sp") (some (.int D.sp)) := by have g := DGet.k (k := Sum.inr "sp") B.rg; rw [RegD_sp] at g; exact g
theorem put_a (B : BoardAt K H A D) (n : Int) : DPut H A.rg (.str "a") (.int n) (upd H A.rg (.dK (RegD n D.b D.pc D.sp))) := by have g := DPut.k (k := Sum.inr "a") (v := .int n) B.rg (small_ (by show 4 ≤ 16777215; decide)); rw [RegD_put_a] at g; exact g
theorem put_b (B : BoardAt K H A D) (n : Int) : DPut H A.rg (.str "b") (.int n) (upd H A.rg (.dK (RegD D.a n D.pc D.sp))) := by have g := DPut.k (k := Sum.inr "b") (v := .int n) B.rg (small_ (by show 4 ≤ 16777215; decide)); rw [RegD_put_b] at g; exact g
theorem put_pc (B : BoardAt K H A D) (n : Int) : DPut H A.rg (.str "pc") (.int n) (upd H A.rg (.dK (RegD D.a D.b n D.sp))) := by have g := DPut.k (k := Sum.inr "pc") (v := .int n) B.rg (small_ (by show 4 ≤ 16777215; decide)); rw [RegD_put_pc] at g; exact g
theorem put_sp (B : BoardAt K H A D) (n : Int) : DPut H A.rg (.str "sp") (.int n) (upd H A.rg (.dK (RegD D.a D.b D.pc n))) := by have g := DPut.k (k := Sum.inr "sp") (v := .int n) B.rg (small_ (by show 4 ≤ 16777215; decide)); rw [RegD_put_sp] at g; exact g
/-- another registers' dict -/
theorem setRg (B : BoardAt K H A D) (a b pc sp : Int) : BoardAt K (upd H A.rg (.dK (RegD a b pc sp))) A { D with a := a, b := b, pc := pc, sp := sp } ∧ Kp A.own A.own H (upd H A.rg (.dK (RegD a b pc sp))) := by
  have k : Kp A.own A.own H (upd H A.rg (.dK (RegD a b pc sp))) := Kp.upd B.rg trivial (by simp)
  have n (i : Nat) {c : Addr} (hc : A.own[i]? = some c) (hi : i ≠ 2) : c ≠ A.rg := ndne B.nd i 2 hc rfl hi
  exact ⟨⟨by rw [upd_ne (n 0 rfl (by decide))]; exact B.ob, by rw [upd_ne (n 1 rfl (by decide))]; exact B.ln, upd_same, by rw [upd_ne (n 3 rfl (by decide))]; exact B.sn, by rw [upd_ne (n 4 rfl (by decide))]; exact B.tc,
    B.st.mono k.tups, B.sent.mono k.tups, B.tch.mono k.tups,
    ⟨by rw [upd_ne (n 5 rfl (by decide))]; exact B.mem.ob, by rw [upd_ne (n 6 rfl (by decide))]; exact B.mem.fl, by rw [upd_ne (n 7 rfl (by decide))]; exact B.mem.ra, by rw [upd_ne (n 8 rfl (by decide))]; exact B.mem.pl, B.mem.lf, B.mem.lr, B.mem.lp⟩, B.nd, B.ls, B.lt⟩, k⟩
/-- the object's own fields -/
theorem setOb (B : BoardAt K H A D) {A' : BA} {D' : BD} (ep : A'.p = A.p) (edx : A'.dx = A.dx) (eln : A'.ln = A.ln) (erg : A'.rg = A.rg) (esn : A'.sn = A.sn) (em : A'.m = A.m) (esv : A'.sv = A.sv)
    (dm : D'.m = D.m) (dl : D'.ln = D.ln) (dr : RegD D'.a D'.b D'.pc D'.sp = RegD D.a D.b D.pc D.sp) (ds : D'.sent = D.sent) (hst : StopV H A'.st D'.stop)
    (htc : (A'.tc = A.tc ∧ A'.tv = A.tv ∧ D'.tc = D.tc) ∨ (H A'.tc = some (.lst A'.tv) ∧ Tups H A'.tv (tcT D'.tc) ∧ A'.tc ∉ A.own ∧ D'.tc.length ≤ 1000)) :
    BoardAt K (upd H A.p (.ins (He.ga K "Board") A.dx (BoardF A' D'))) A' D' ∧ Kp A.own (A'.tc :: A.own) H (upd H A.p (.ins (He.ga K "Board") A.dx (BoardF A' D'))) ∨ A'.tc ∉ A.own := by
  rcases htc with ⟨e1, e2, e3⟩ | ⟨h1, h2, h3, h4⟩
  · left
    have k : Kp A.own A.own H (upd H A.p (.ins (He.ga K "Board") A.dx (BoardF A' D'))) := Kp.upd B.ob trivial (by simp)
    have n (i : Nat) {c : Addr} (hc : A.own[i]? = some c) (hi : i ≠ 0) : c ≠ A.p := ndne B.nd i 0 hc rfl hi
    refine ⟨⟨by rw [ep, edx]; exact upd_same, by rw [eln, dl, upd_ne (n 1 rfl (by decide))]; exact B.ln, by rw [erg, dr, upd_ne (n 2 rfl (by decide))]; exact B.rg, by rw [esn, esv, upd_ne (n 3 rfl (by decide))]; exact B.sn, by rw [e1, e2, upd_ne (n 4 rfl (by decide))]; exact B.tc,
      hst.mono k.tups, by rw [esv, ds]; exact B.sent.mono k.tups, by rw [e2, e3]; exact B.tch.mono k.tups,
      by rw [em, dm]; exact ⟨by rw [upd_ne (n 5 rfl (by decide))]; exact B.mem.ob, by rw [upd_ne (n 6 rfl (by decide))]; exact B.mem.fl, by rw [upd_ne (n 7 rfl (by decide))]; exact B.mem.ra, by rw [upd_ne (n 8 rfl (by decide))]; exact B.mem.pl, B.mem.lf, B.mem.lr, B.mem.lp⟩,
      by show [A'.p, A'.ln, A'.rg, A'.sn, A'.tc, A'.m.p, A'.m.f, A'.m.r, A'.m.pl].Nodup; rw [ep, eln, erg, esn, e1, em]; exact B.nd, by rw [ds]; exact B.ls, by rw [e3]; exact B.lt⟩,
      k.sub fun b hb => by
        rcases List.mem_cons.mp hb with h | h
        · rw [h, e1]; simp
        · exact h⟩
  · exact .inr h3
theorem setZ (B : BoardAt K H A D) (z l s : Bool) (t n : Int) : BoardAt K (upd H A.p (.ins (He.ga K "Board") A.dx (BoardF A { D with zero := z, lets := l, asleep := s, beat := t, bend := n }))) A { D with zero := z, lets := l, asleep := s, beat := t, bend := n } ∧
    Kp A.own A.own H (upd H A.p (.ins (He.ga K "Board") A.dx (BoardF A { D with zero := z, lets := l, asleep := s, beat := t, bend := n }))) := by
  rcases B.setOb (A' := A) (D' := { D with zero := z, lets := l, asleep := s, beat := t, bend := n }) rfl rfl rfl rfl rfl rfl rfl rfl rfl rfl rfl B.st (.inl ⟨rfl, rfl, rfl⟩) with h | h
  · exact ⟨h.1, h.2.sub fun b hb => List.mem_cons_of_mem _ hb⟩
  · exact absurd (by simp) h
theorem setStop (B : BoardAt K H A D) {v : V} {o : Option (List V)} (hv : StopV H v o) : BoardAt K (upd H A.p (.ins (He.ga K "Board") A.dx (BoardF { A with st := v } { D with stop := o }))) { A with st := v } { D with stop := o } ∧
    Kp A.own A.own H (upd H A.p (.ins (He.ga K "Board") A.dx (BoardF { A with st := v } { D with stop := o }))) := by
  rcases B.setOb (A' := { A with st := v }) (D' := { D with stop := o }) rfl rfl rfl rfl rfl rfl rfl rfl rfl rfl rfl hv (.inl ⟨rfl, rfl, rfl⟩) with h | h
  · exact ⟨h.1, h.2.sub fun b hb => List.mem_cons_of_mem _ hb⟩
  · exact absurd (by simp) h
/-- touched is a new list -/
theorem setTc (B : BoardAt K H A D) {t : Addr} (ht : H t = none) : BoardAt K (upd (upd H t (.lst [])) A.p (.ins (He.ga K "Board") A.dx (BoardF { A with tc := t, tv := [] } { D with tc := [] }))) { A with tc := t, tv := [] } { D with tc := [] } ∧
    Kp A.own ({ A with tc := t, tv := [] } : BA).own H (upd (upd H t (.lst [])) A.p (.ins (He.ga K "Board") A.dx (BoardF { A with tc := t, tv := [] } { D with tc := [] }))) := by
  have f := B.fresh ht
  have k0 : Kp A.own (t :: A.own) H (upd H t (.lst [])) := Kp.newIn ht
  have B1 : BoardAt K (upd H t (.lst [])) A D := B.new ht
  have k1 : Kp (t :: A.own) (t :: A.own) (upd H t (.lst [])) (upd (upd H t (.lst [])) A.p (.ins (He.ga K "Board") A.dx (BoardF { A with tc := t, tv := [] } { D with tc := [] }))) := Kp.upd B1.ob trivial (by simp)
  have n (i : Nat) {c : Addr} (hc : A.own[i]? = some c) (hi : i ≠ 0) : c ≠ A.p := ndne B.nd i 0 hc rfl hi
  have ntp : t ≠ A.p := fun e => f (by rw [e]; simp)
  refine ⟨⟨upd_same, by rw [upd_ne (n 1 rfl (by decide))]; exact B1.ln, by rw [upd_ne (n 2 rfl (by decide))]; exact B1.rg, by rw [upd_ne (n 3 rfl (by decide))]; exact B1.sn, by rw [upd_ne ntp]; exact upd_same,
      B1.st.mono k1.tups, B1.sent.mono k1.tups, .nil,
      ⟨by rw [upd_ne (n 5 rfl (by decide))]; exact B1.mem.ob, by rw [upd_ne (n 6 rfl (by decide))]; exact B1.mem.fl, by rw [upd_ne (n 7 rfl (by decide))]; exact B1.mem.ra, by rw [upd_ne (n 8 rfl (by decide))]; exact B1.mem.pl, B.mem.lf, B.mem.lr, B.mem.lp⟩,
      ?_, B.ls, Nat.zero_le _⟩, (k0.trans k1).sub ?_⟩
  · have h := B.nd
    simp only [BA.own, List.nodup_cons, List.mem_cons, List.not_mem_nil, or_false, not_or] at h f ⊢
    refine ⟨?_, ?_, ?_, ?_, ?_, ?_⟩ <;> first | (refine ⟨?_, ?_⟩) | skip
    all_goals (try simp_all)
    all_goals (try exact fun e => by simp_all)
  · intro b hb
    simp only [BA.own, List.mem_cons, List.not_mem_nil, or_false] at hb ⊢
    rcases hb with h | h | h | h | h | h | h | h | h <;> simp [h]
theorem setMem (B : BoardAt K H A D) {M : MD} (hm : MemAt K H' A.m M) (k : Kp A.m.own A.m.own H H') : BoardAt K H' A { D with m := M } ∧ Kp A.own A.own H H' := by
  have n (i j : Nat) {c d : Addr} (hc : A.own[i]? = some c) (hd : A.own[j]? = some d) (hi : i ≠ j) : c ≠ d := ndne B.nd i j hc hd hi
  have q (i : Nat) {c : Addr} (hc : A.own[i]? = some c) (hi : i < 5) : c ∉ A.m.own := fun h => by
    simp only [MA.own, List.mem_cons, List.not_mem_nil, or_false] at h
    rcases h with h | h | h | h
    · exact n i 5 hc rfl (by omega) h
    · exact n i 6 hc rfl (by omega) h
    · exact n i 7 hc rfl (by omega) h
    · exact n i 8 hc rfl (by omega) h
  refine ⟨⟨k.kept _ _ B.ob (q 0 rfl (by decide)), k.kept _ _ B.ln (q 1 rfl (by decide)), k.kept _ _ B.rg (q 2 rfl (by decide)), k.kept _ _ B.sn (q 3 rfl (by decide)), k.kept _ _ B.tc (q 4 rfl (by decide)),
    B.st.mono k.tups, B.sent.mono k.tups, B.tch.mono k.tups, hm, B.nd, B.ls, B.lt⟩, ?_⟩
  refine ⟨fun b o e hb => k.kept b o e fun h => hb (BA.mown h), fun b hb => .inl hb, k.tups⟩
end BoardAt

/-! ### the mirror of a board -/
def opNames : List Str := ["mark", "lit", "get", "put", "add", "sub", "and", "xor", "getb", "putb", "tob", "swap", "go", "ifz", "ifn", "call", "ret", "push", "pop", "sleep", "let", "back", "half"]
def nameS (k : Nat) : Str := opNames.getD k "none"
def nameV (k : Nat) : V := if k < 23 then .str (nameS k) else .non
def lineGet (l : List (Int × Int)) (b d : Int) : Int := ((l.find? fun p => decide (p.1 = b)).map (·.2)).getD d
def MD.comes (M : MD) (v : Int) : MD := (if M.place 4 % 2 < v % 2 then M.raise 2 else M).setPlace 4 v
def BD.lineComes (D : BD) : BD := { D with m := D.m.comes (lineGet D.ln D.beat (D.m.place 4)) }
def BD.timerGoes (D : BD) : BD :=
  if 0 < D.m.place 1 then
    if D.m.place 1 ≤ D.m.place 0 + 1 then { D with m := (D.m.raise 1).setPlace 0 0 } else { D with m := D.m.setPlace 0 (D.m.place 0 + 1) }
  else D
def BD.tick (D : BD) : BD := (BD.lineComes { D with beat := D.beat + 1 }).timerGoes
def BD.pass (D : BD) : Nat → BD
  | 0 => D
  | n + 1 => (D.pass n).tick
def BD.pending (D : BD) : Int := Builtin.bitAnd (D.m.place 2) (D.m.place 3)
def BD.halt (D : BD) (c : List V) : BD := { D with stop := some c }
def BD.store (D : BD) (i w : Int) : BD :=
  { D with tc := D.tc ++ [(("w" : Str), i)], m := D.m.put i w, sent := if i = 773 then D.sent ++ [(D.beat, w)] else D.sent }
def BD.fetchV (D : BD) (i : Int) : Int := Builtin.bitXor ((D.m.at i).getD 0) D.bend
def BD.fetch (D : BD) (i : Int) : BD := { D with tc := D.tc ++ [(("r" : Str), i)], bend := 0 }
def BD.fetches : BD → List Int → List Int × BD
  | D, [] => ([], D)
  | D, i :: r => (D.fetchV i :: ((D.fetch i).fetches r).1, ((D.fetch i).fetches r).2)
def addrs (k : Nat) (part b sp : Int) : List Int × List Int :=
  if k = 2 ∨ k = 4 ∨ k = 5 ∨ k = 6 ∨ k = 7 then ([part], [])
  else if k = 3 then ([], [part])
  else if k = 8 then ([part + b], [])
  else if k = 9 then ([], [part + b])
  else if k = 15 ∨ k = 17 then ([], [sp])
  else if k = 16 ∨ k = 18 then ([sp + 1], [])
  else if k = 21 then ([sp + 1, sp + 2], [])
  else ([], [])
def barR (M : MD) (pc : Int) : List Int → Option (List V)
  | [] => none
  | i :: r => if (M.at i).isNone = true then some [.str "far", .int pc, .int i] else barR M pc r
def barP (pc : Int) : List Int → Option (List V)
  | [] => none
  | i :: r => match barTo i with
    | some b => some [.str b.s, .int pc, .int i]
    | none => barP pc r
def barOf (M : MD) (pc : Int) (reads puts : List Int) : Option (List V) := match barR M pc reads with
  | some c => some c
  | none => barP pc puts
def BD.putting (D : BD) (k : Nat) (part i : Int) : BD :=
  let D1 := if k = 15 then { D.store i D.pc with pc := part } else D.store i D.a
  if k = 15 ∨ k = 17 then { D1 with sp := i - 1 } else D1
def BD.returning (D : BD) (k : Nat) (ws : List Int) : BD :=
  let D1 := { D with sp := D.sp + ws.length, pc := ws.getLastD 0 }
  if k = 21 then { D1 with zero := decide (ws.headD 0 % 2 = 1), lets := true } else D1
def reckA (k : Nat) (a b part w : Int) : Int :=
  if k = 1 then part else if k = 2 ∨ k = 8 ∨ k = 18 then w else if k = 4 then (a + w) % 65536 else if k = 5 then (a - w) % 65536
  else if k = 6 then Builtin.bitAnd a w else if k = 7 then Builtin.bitXor a w else if k = 22 then a / 2 else b
def isSwap (k : Nat) : Bool := !(k = 1 ∨ k = 2 ∨ k = 8 ∨ k = 18 ∨ k = 4 ∨ k = 5 ∨ k = 6 ∨ k = 7 ∨ k = 22)
def BD.reckoning (D : BD) (k : Nat) (part : Int) (ws : List Int) : BD :=
  { D with a := reckA k D.a D.b part (ws.headD 0), b := if isSwap k = true then D.a else D.b, sp := if k = 18 then D.sp + 1 else D.sp }
def BD.doing (D : BD) (k : Nat) (part : Int) (ws puts : List Int) : BD := match puts with
  | i :: _ => D.putting k part i
  | [] =>
    if k = 12 ∨ k = 13 ∨ k = 14 then
      if k = 12 ∨ (k = 13 ∧ D.zero = true) ∨ (k = 14 ∧ 32768 ≤ D.a) then { D with pc := part } else D
    else if k = 16 ∨ k = 21 then D.returning k ws
    else if k = 10 then { D with b := D.a }
    else if k = 19 then { D with asleep := true }
    else if k = 20 then { D with lets := decide (part % 2 = 1) }
    else { D.reckoning k part ws with zero := decide ((D.reckoning k part ws).a = 0) }
def BD.deedA (D : BD) (k : Nat) (part : Int) (rp : List Int × List Int) : BD :=
  ((({ D with pc := D.pc + 1 } : BD).fetches rp.1).2.doing k part (({ D with pc := D.pc + 1 } : BD).fetches rp.1).1 rp.2).pass (1 + rp.1.length + rp.2.length)
def BD.deedB (D : BD) (k : Nat) (part : Int) (rp : List Int × List Int) : Str × BD := match barOf D.m D.pc rp.1 rp.2 with
  | some c => ("stopped", D.halt c)
  | none => ("deed", D.deedA k part rp)
def BD.deedW (D : BD) (w : Int) : Str × BD :=
  if ¬ (w / 1024).toNat < 23 then ("stopped", D.halt [.str "none", .int D.pc])
  else if (w / 1024).toNat = 0 then ("stopped", D.halt [.str "mark", .int D.pc])
  else D.deedB (w / 1024).toNat (w % 1024) (addrs (w / 1024).toNat (w % 1024) D.b D.sp)
def BD.deed (D : BD) : Str × BD :=
  if D.pc < 0 ∨ 768 ≤ D.pc then ("stopped", D.halt [.str "far", .int D.pc, .int D.pc]) else D.deedW ((D.m.at D.pc).getD 0)
def BD.inter (D : BD) : BD :=
  ({ (D.store D.sp D.pc).store (D.sp - 1) (if D.zero = true then 1 else 0) with sp := D.sp - 2, lets := false, pc := if D.pending % 2 = 0 then 2 else 1 } : BD).pass 3
def BD.interrupt (D : BD) : Str × BD := match barTo D.sp with
  | some b => ("stopped", D.halt [.str b.s, .int D.pc, .int D.sp])
  | none => match barTo (D.sp - 1) with
    | some b => ("stopped", D.halt [.str b.s, .int D.pc, .int (D.sp - 1)])
    | none => ("interrupt", D.inter)
def BD.wake (D : BD) : Str × BD := if D.lets = true ∧ 0 < D.pending then D.interrupt else D.deed
def BD.turnB (D : BD) : Str × BD :=
  if D.stop.isSome = true then ("stopped", D)
  else if D.asleep = true ∧ D.pending = 0 then ("asleep", D.pass 1)
  else BD.wake { D with asleep := false }
def BD.turn (D : BD) : Str × BD := BD.turnB { D with tc := [] }
/-! ### facts for the walk -/
theorem nm_inj {j k : Nat} (hj : j < 23) (hk : k < 23) (h : nameS k = nameS j) : k = j := by
  have z : ∀ a b : _root_.Fin 23, nameS a.1 = nameS b.1 → a.1 = b.1 := by decide +kernel
  exact z ⟨k, hk⟩ ⟨j, hj⟩ h
theorem iteNm {A B : Prop} {k : Nat} (hk : k < 23) (j : Nat) {z : Str} (hj : j < 23 := by decide) (hz : z = nameS j := by decide +kernel) (h1 : k = j → A) (h2 : k ≠ j → B) : if decide (V.str (nameS k) = V.str z) = true then A else B := by
  refine iteD (fun h => h1 ?_) (fun h => h2 fun e => h (by rw [hz, e]))
  exact nm_inj hj hk ((V.str.inj h).trans hz)
theorem name_at {k : Nat} (hk : k < 23) : atI (opNames.map V.str) (k : Int) = some (.str (nameS k)) := by
  refine atI_nat ?_
  rw [List.getElem?_map]
  unfold nameS
  have : k < opNames.length := hk
  rw [List.getD_eq_getElem?_getD, List.getElem?_eq_getElem this] <;> rfl
def inKs (ks : List Nat) (k : Nat) : Bool := ks.contains k
theorem iteIn {A B : Prop} {k : Nat} (hk : k < 23) (xs : List V) (ks : List Nat) (e : ∀ j : _root_.Fin 23, inV (V.str (nameS j.1)) xs = inKs ks j.1) (h1 : k ∈ ks → A) (h2 : k ∉ ks → B) :
    if (if false = true then !inV (V.str (nameS k)) xs else inV (V.str (nameS k)) xs) = true then A else B := by
  rw [if_neg Bool.false_ne_true, e ⟨k, hk⟩]
  unfold inKs
  by_cases h : k ∈ ks
  · rw [if_pos (List.contains_iff_mem.mpr h)]; exact h1 h
  · rw [if_neg (fun z => h (List.contains_iff_mem.mp z))]; exact h2 h
theorem line_get : ∀ (l : List (Int × Int)) (b d : Int), (valV (lineK l) (Sum.inl b : Key)).getD (.int d) = .int (lineGet l b d)
  | [], _, _ => rfl
  | (x, y) :: r, b, d => by
    by_cases e : x = b
    · have h1 : valV (lineK ((x, y) :: r)) (Sum.inl b : Key) = some (.int y) := valV_pos (p := ((Sum.inl x : Key), V.int y)) (by rw [e])
      rw [h1]
      show V.int y = _
      unfold lineGet
      rw [List.find?_cons_of_pos (by simp [e])]; rfl
    · have h1 : valV (lineK ((x, y) :: r)) (Sum.inl b : Key) = valV (lineK r) (Sum.inl b : Key) := valV_neg (p := ((Sum.inl x : Key), V.int y)) (fun z => e (Sum.inl.inj z))
      rw [h1, line_get r b d]
      unfold lineGet
      rw [List.find?_cons_of_neg (by simp [e])]
namespace BoardAt
variable {K : PySem.W.Frag} {H H' : Hp} {A : BA} {D : BD} {Φ : Hp → Prop}
theorem goBeat (B : BoardAt K H A D) {t : Int} (k : ∀ H1, BoardAt K H1 A { D with beat := t } → Kp A.own A.own H H1 → Φ H1) : Φ (upd H A.p (.ins (He.ga K "Board") A.dx (putF "beat" (.int t) (BoardF A D)))) := by
  rw [BoardF_put_beat]; exact k _ (B.setZ D.zero D.lets D.asleep t D.bend).1 (B.setZ D.zero D.lets D.asleep t D.bend).2
theorem goZero (B : BoardAt K H A D) {z : Bool} (k : ∀ H1, BoardAt K H1 A { D with zero := z } → Kp A.own A.own H H1 → Φ H1) : Φ (upd H A.p (.ins (He.ga K "Board") A.dx (putF "zero" (.bl z) (BoardF A D)))) := by
  rw [BoardF_put_zero]; exact k _ (B.setZ z D.lets D.asleep D.beat D.bend).1 (B.setZ z D.lets D.asleep D.beat D.bend).2
theorem goLets (B : BoardAt K H A D) {z : Bool} (k : ∀ H1, BoardAt K H1 A { D with lets := z } → Kp A.own A.own H H1 → Φ H1) : Φ (upd H A.p (.ins (He.ga K "Board") A.dx (putF "lets" (.bl z) (BoardF A D)))) := by
  rw [BoardF_put_lets]; exact k _ (B.setZ D.zero z D.asleep D.beat D.bend).1 (B.setZ D.zero z D.asleep D.beat D.bend).2
theorem goAsleep (B : BoardAt K H A D) {z : Bool} (k : ∀ H1, BoardAt K H1 A { D with asleep := z } → Kp A.own A.own H H1 → Φ H1) : Φ (upd H A.p (.ins (He.ga K "Board") A.dx (putF "asleep" (.bl z) (BoardF A D)))) := by
  rw [BoardF_put_asleep]; exact k _ (B.setZ D.zero D.lets z D.beat D.bend).1 (B.setZ D.zero D.lets z D.beat D.bend).2
theorem goBend (B : BoardAt K H A D) {n : Int} (k : ∀ H1, BoardAt K H1 A { D with bend := n } → Kp A.own A.own H H1 → Φ H1) : Φ (upd H A.p (.ins (He.ga K "Board") A.dx (putF "bend" (.int n) (BoardF A D)))) := by
  rw [BoardF_put_bend]; exact k _ (B.setZ D.zero D.lets D.asleep D.beat n).1 (B.setZ D.zero D.lets D.asleep D.beat n).2
theorem goStop (B : BoardAt K H A D) {v : V} {o : Option (List V)} (hv : StopV H v o) (k : ∀ H1, BoardAt K H1 { A with st := v } { D with stop := o } → Kp A.own A.own H H1 → Φ H1) : Φ (upd H A.p (.ins (He.ga K "Board") A.dx (putF "stopped" v (BoardF A D)))) := by
  rw [BoardF_put_stopped]; exact k _ (B.setStop hv).1 (B.setStop hv).2
theorem goTc (B : BoardAt K H A D) {t : Addr} (ht : H t = none) (k : ∀ H1, BoardAt K H1 { A with tc := t, tv := [] } { D with tc := [] } → Kp A.own ({ A with tc := t, tv := [] } : BA).own H H1 → Φ H1) :
    Φ (upd (upd H t (.lst [])) A.p (.ins (He.ga K "Board") A.dx (putF "touched" (.ref t) (BoardF A D)))) := by
  rw [BoardF_put_touched]; exact k _ (B.setTc ht).1 (B.setTc ht).2
theorem goRg (B : BoardAt K H A D) {a b pc sp : Int} (k : ∀ H1, BoardAt K H1 A { D with a := a, b := b, pc := pc, sp := sp } → Kp A.own A.own H H1 → Φ H1) : Φ (upd H A.rg (.dK (RegD a b pc sp))) :=
  k _ (B.setRg a b pc sp).1 (B.setRg a b pc sp).2
/-- a word more in touched -/
theorem goTouch (B : BoardAt K H A D) {t : Addr} {s : Str} {i : Int} (ht : H t = none) (hl : D.tc.length < 1000) (k : ∀ H1, BoardAt K H1 { A with tv := A.tv ++ [.ref t] } { D with tc := D.tc ++ [(s, i)] } → Kp A.own A.own H H1 → Φ H1) :
    Φ (upd (upd H t (.tup [.str s, .int i])) A.tc (.lst (A.tv ++ [.ref t]))) := by
  have B1 : BoardAt K (upd H t (.tup [.str s, .int i])) A D := B.new ht
  have k0 : Kp A.own A.own H (upd H t (.tup [.str s, .int i])) := Kp.new ht
  have k1 : Kp A.own A.own (upd H t (.tup [.str s, .int i])) (upd (upd H t (.tup [.str s, .int i])) A.tc (.lst (A.tv ++ [.ref t]))) := Kp.upd B1.tc trivial (by simp)
  have n (i : Nat) {c : Addr} (hc : A.own[i]? = some c) (hi : i ≠ 4) : c ≠ A.tc := ndne B.nd i 4 hc rfl hi
  refine k _ ⟨by rw [upd_ne (n 0 rfl (by decide))]; exact B1.ob, by rw [upd_ne (n 1 rfl (by decide))]; exact B1.ln, by rw [upd_ne (n 2 rfl (by decide))]; exact B1.rg, by rw [upd_ne (n 3 rfl (by decide))]; exact B1.sn, upd_same,
    B1.st.mono k1.tups, B1.sent.mono k1.tups, ?_,
    ⟨by rw [upd_ne (n 5 rfl (by decide))]; exact B1.mem.ob, by rw [upd_ne (n 6 rfl (by decide))]; exact B1.mem.fl, by rw [upd_ne (n 7 rfl (by decide))]; exact B1.mem.ra, by rw [upd_ne (n 8 rfl (by decide))]; exact B1.mem.pl, B.mem.lf, B.mem.lr, B.mem.lp⟩,
    B.nd, B.ls, by show (D.tc ++ [(s, i)]).length ≤ 1000; rw [List.length_append]; exact hl⟩ (k0.trans k1)
  show Tups _ (A.tv ++ [.ref t]) (tcT (D.tc ++ [(s, i)]))
  unfold tcT
  rw [List.map_append]
  exact paired_snoc ⟨t, rfl, k1.tups _ _ upd_same⟩ (B1.tch.mono k1.tups)
/-- a word more sent -/
theorem goSend (B : BoardAt K H A D) {t : Addr} {b w : Int} (ht : H t = none) (hl : D.sent.length < 1000000) (k : ∀ H1, BoardAt K H1 { A with sv := A.sv ++ [.ref t] } { D with sent := D.sent ++ [(b, w)] } → Kp A.own A.own H H1 → Φ H1) :
    Φ (upd (upd H t (.tup [.int b, .int w])) A.sn (.lst (A.sv ++ [.ref t]))) := by
  have B1 : BoardAt K (upd H t (.tup [.int b, .int w])) A D := B.new ht
  have k0 : Kp A.own A.own H (upd H t (.tup [.int b, .int w])) := Kp.new ht
  have k1 : Kp A.own A.own (upd H t (.tup [.int b, .int w])) (upd (upd H t (.tup [.int b, .int w])) A.sn (.lst (A.sv ++ [.ref t]))) := Kp.upd B1.sn trivial (by simp)
  have n (i : Nat) {c : Addr} (hc : A.own[i]? = some c) (hi : i ≠ 3) : c ≠ A.sn := ndne B.nd i 3 hc rfl hi
  refine k _ ⟨by rw [upd_ne (n 0 rfl (by decide))]; exact B1.ob, by rw [upd_ne (n 1 rfl (by decide))]; exact B1.ln, by rw [upd_ne (n 2 rfl (by decide))]; exact B1.rg, upd_same, by rw [upd_ne (n 4 rfl (by decide))]; exact B1.tc,
    B1.st.mono k1.tups, ?_, B1.tch.mono k1.tups,
    ⟨by rw [upd_ne (n 5 rfl (by decide))]; exact B1.mem.ob, by rw [upd_ne (n 6 rfl (by decide))]; exact B1.mem.fl, by rw [upd_ne (n 7 rfl (by decide))]; exact B1.mem.ra, by rw [upd_ne (n 8 rfl (by decide))]; exact B1.mem.pl, B.mem.lf, B.mem.lr, B.mem.lp⟩,
    B.nd, by show (D.sent ++ [(b, w)]).length ≤ 1000000; rw [List.length_append]; exact hl, B.lt⟩ (k0.trans k1)
  show Tups _ (A.sv ++ [.ref t]) (sentT (D.sent ++ [(b, w)]))
  unfold sentT
  rw [List.map_append]
  exact paired_snoc ⟨t, rfl, k1.tups _ _ upd_same⟩ (B1.sent.mono k1.tups)
theorem goMem (B : BoardAt K H A D) {M : MD} (hm : MemAt K H' A.m M) (k : Kp A.m.own A.m.own H H') : BoardAt K H' A { D with m := M } ∧ Kp A.own A.own H H' := B.setMem hm k
end BoardAt

section
variable {P : Program} {w : World} {K : PySem.W.Frag} {mg : Str → Option Value} {base : Heap}
def sp_name_of (K : PySem.W.Frag) : Sp := fun vs H Q _ => ∃ (n : Int), vs = [.int n] ∧ (0 ≤ n ∧ Q (nameV (n / 1024).toNat) H)
abbrev N_name_of : List Str := ["word"]
theorem sc_name_of : FnScope N_name_of ["word"] (defScope s_name_of) := ⟨rfl, rfl, rfl, by decide +kernel, rfl, by decide +kernel, by decide +kernel⟩
theorem ok_name_of (T : Txt K mg) : Ok P w K mg base CX0 1 (He.fAd K ("name_of", none)) ["word"] (sp_name_of K) := by
  obtain ⟨fd, F⟩ := T.d_name_of
  refine ⟨fd, F.ok sc_name_of (fun vs H Q E h => by obtain ⟨n, rfl, _⟩ := h; rfl) (fun cdv A_ outer s_ H vs Q E hr h => ?_), F.bindsN (fun _ _ _ _ _ _ us hl => match us, hl with | [_], _ => rfl), F.kp⟩
  obtain ⟨n, rfl, h⟩ := h
  have hu := hu_of hr
  refine ⟨_, PSs.nox (pss_cons (ps_if (pt_cmpR op_lt (pe_op op_fdiv (pv 0) pe_int) (pe_callB call_len_seq (by rfl) T.f_len PySem.boot_len (pa_cons (gr_ (by rfl) T.g_NAMES) pa_nil)) (nomark _)) (pss_one (ps_ret (pe_ix ix_list (gr_ (by rfl) T.g_NAMES) (pe_op op_fdiv (pv 0) pe_int) (fun _ _ => rfl)))) pss_nil)
  (pss_one (ps_ret pe_non))), ?_⟩
  obtain ⟨hn, q⟩ := h
  refine ⟨_, rfl, _, _, rfl, rfl, ⟨by decide, by decide⟩, _, _, rfl, .inl (T.l_NAMES _), _, _, rfl, rfl, _, rfl, iteD (fun h1 => ?_) (fun h1 => ?_)⟩
  · have h2 : n / 1024 < 23 := h1
    have h3 : (n / 1024).toNat < 23 := by omega
    have e : n / 1024 = (((n / 1024).toNat : Nat) : Int) := by omega
    have hA : atI (opNames.map V.str) (n / 1024) = some (.str (nameS (n / 1024).toNat)) := by rw [e]; exact name_at h3
    unfold nameV at q; rw [if_pos h3] at q
    exact ⟨_, rfl, _, _, rfl, rfl, ⟨by decide, by decide⟩, _, _, _, _, rfl, rfl, T.l_NAMES _, hA, q⟩
  · have h2 : ¬ (n / 1024).toNat < 23 := fun z => h1 (by show n / 1024 < 23; omega)
    unfold nameV at q; rw [if_neg h2] at q; exact q
def sp_part_of (K : PySem.W.Frag) : Sp := fun vs H Q _ => ∃ (n : Int), vs = [.int n] ∧ (Q (.int (n % 1024)) H)
abbrev N_part_of : List Str := ["word"]
theorem sc_part_of : FnScope N_part_of ["word"] (defScope s_part_of) := ⟨rfl, rfl, rfl, by decide +kernel, rfl, by decide +kernel, by decide +kernel⟩
theorem ok_part_of (T : Txt K mg) : Ok P w K mg base CX0 1 (He.fAd K ("part_of", none)) ["word"] (sp_part_of K) := by
  obtain ⟨fd, F⟩ := T.d_part_of
  refine ⟨fd, F.ok sc_part_of (fun vs H Q E h => by obtain ⟨n, rfl, _⟩ := h; rfl) (fun cdv A_ outer s_ H vs Q E hr h => ?_), F.bindsN (fun _ _ _ _ _ _ us hl => match us, hl with | [_], _ => rfl), F.kp⟩
  obtain ⟨n, rfl, h⟩ := h
  have hu := hu_of hr
  refine ⟨_, PSs.nox (pss_one (ps_ret (pe_op op_mod (pv 0) pe_int))), ?_⟩
  exact ⟨_, rfl, _, _, rfl, rfl, (by show (0 : Int) < 1024; decide), h⟩
def sp_Memory_word_at (K : PySem.W.Frag) : Sp := fun vs H Q _ => ∃ (A : MA) (M : MD) (i : Int), vs = [.ref A.p, .int i] ∧ (MemAt K H A M ∧ Q (optV (M.at i)) H)
abbrev N_Memory_word_at : List Str := ["self", "address"]
theorem sc_Memory_word_at : FnScope N_Memory_word_at ["self", "address"] (defScope s_Memory_word_at) := ⟨rfl, rfl, rfl, by decide +kernel, rfl, by decide +kernel, by decide +kernel⟩
theorem ok_Memory_word_at (T : Txt K mg) : Ok P w K mg base CX0 1 (He.fAd K ("Memory", some "word_at")) ["self", "address"] (sp_Memory_word_at K) := by
  obtain ⟨fd, F⟩ := T.d_Memory_word_at
  refine ⟨fd, F.ok sc_Memory_word_at (fun vs H Q E h => by obtain ⟨A, M, i, rfl, _⟩ := h; rfl) (fun cdv A_ outer s_ H vs Q E hr h => ?_), F.bindsN (fun _ _ _ _ _ _ us hl => match us, hl with | [_, _], _ => rfl), F.kp⟩
  obtain ⟨A, M, i, rfl, h⟩ := h
  have hu := hu_of hr
  refine ⟨_, PSs.nox (pss_cons (ps_if (PW.pt (pw_or (pt_cmpR op_lt (pv 1) pe_int (nomark _)) (pw_or1 (pt_cmpR op_gt (pv 1) (gi_ (by rfl) T.c_LINE_OUT) (nomark _))))) (pss_one (ps_ret pe_non)) pss_nil)
  (pss_cons (ps_if (pt_cmpR op_lt (pv 1) (gi_ (by rfl) T.c_FLASH) (nomark _)) (pss_one (ps_ret (pe_ix ix_list (pe_fld (pv 0) rfl) (pv 1) (fun _ _ => rfl)))) pss_nil)
  (pss_cons (ps_if (pt_cmpR op_lt (pv 1) (gi_ (by rfl) T.c_RAM) (nomark _)) (pss_one (ps_ret (pe_ix ix_list (pe_fld (pv 0) rfl) (pe_op op_sub (pv 1) (gi_ (by rfl) T.c_FLASH)) (fun _ _ => rfl)))) pss_nil)
  (pss_one (ps_ret (pe_ix ix_list (pe_fld (pv 0) rfl) (pe_op op_sub (pv 1) (gi_ (by rfl) T.c_RAM)) (fun _ _ => rfl))))))), ?_⟩
  obtain ⟨B, q⟩ := h
  have none_ : (i < 0 ∨ 773 < i) → Q .non H := fun z => by unfold MD.at at q; rw [if_pos z] at q; exact q
  refine ⟨_, rfl, _, _, rfl, rfl, _, rfl, iteD (fun h1 => iteT (none_ (.inl h1))) (fun h1 => ?_)⟩
  refine ⟨_, rfl, _, _, rfl, rfl, _, rfl, iteD (fun h2 => none_ (.inr h2)) (fun h2 => ?_)⟩
  unfold MD.at at q
  rw [if_neg (by omega)] at q
  refine ⟨_, rfl, _, _, rfl, rfl, _, rfl, iteD (fun h3 => ?_) (fun h3 => ?_)⟩
  · rw [if_pos h3] at q
    have hl : i.toNat < M.fl.length := by rw [B.lf]; omega
    rw [List.getElem?_eq_getElem hl] at q
    exact ⟨_, rfl, _, _, _, _, _, rfl, B.ob, T.k_Memory, T.n_Memory_flash, MemoryF_flash, _, rfl, _, _, _, _, rfl, rfl, SqL.of B.fl, at_i (by omega) (List.getElem?_eq_getElem hl), q⟩
  · rw [if_neg h3] at q
    refine ⟨_, rfl, _, _, rfl, rfl, _, rfl, iteD (fun h4 => ?_) (fun h4 => ?_)⟩
    · rw [if_pos h4] at q
      have hl : (i - 512).toNat < M.ra.length := by rw [B.lr]; omega
      rw [List.getElem?_eq_getElem hl] at q
      exact ⟨_, rfl, _, _, _, _, _, rfl, B.ob, T.k_Memory, T.n_Memory_ram, MemoryF_ram, _, rfl, _, _, rfl, rfl, _, _, _, _, rfl, rfl, SqL.of B.ra, at_i (by omega) (List.getElem?_eq_getElem hl), q⟩
    · rw [if_neg h4] at q
      have hl : (i - 768).toNat < M.pl.length := by rw [B.lp]; omega
      rw [List.getElem?_eq_getElem hl] at q
      exact ⟨_, rfl, _, _, _, _, _, rfl, B.ob, T.k_Memory, T.n_Memory_places, MemoryF_places, _, rfl, _, _, rfl, rfl, _, _, _, _, rfl, rfl, SqL.of B.pl, at_i (by omega) (List.getElem?_eq_getElem hl), q⟩
def sp_Memory_bar_to (K : PySem.W.Frag) : Sp := fun vs H Q _ => ∃ (A : MA) (i : Int), vs = [.ref A.p, .int i] ∧ ((∃ M, MemAt K H A M) ∧ Q (barV (barTo i)) H)
abbrev N_Memory_bar_to : List Str := ["self", "address"]
theorem sc_Memory_bar_to : FnScope N_Memory_bar_to ["self", "address"] (defScope s_Memory_bar_to) := ⟨rfl, rfl, rfl, by decide +kernel, rfl, by decide +kernel, by decide +kernel⟩
theorem ok_Memory_bar_to (T : Txt K mg) : Ok P w K mg base CX0 1 (He.fAd K ("Memory", some "bar_to")) ["self", "address"] (sp_Memory_bar_to K) := by
  obtain ⟨fd, F⟩ := T.d_Memory_bar_to
  refine ⟨fd, F.ok sc_Memory_bar_to (fun vs H Q E h => by obtain ⟨A, i, rfl, _⟩ := h; rfl) (fun cdv A_ outer s_ H vs Q E hr h => ?_), F.bindsN (fun _ _ _ _ _ _ us hl => match us, hl with | [_, _], _ => rfl), F.kp⟩
  obtain ⟨A, i, rfl, h⟩ := h
  have hu := hu_of hr
  refine ⟨_, PSs.nox (pss_cons (ps_if (PW.pt (pw_or (pt_cmpR op_lt (pv 1) pe_int (nomark _)) (pw_or1 (pt_cmpR op_gt (pv 1) (gi_ (by rfl) T.c_LINE_OUT) (nomark _))))) (pss_one (ps_ret pe_str)) pss_nil)
  (pss_cons (ps_if (pt_cmpR op_lt (pv 1) (gi_ (by rfl) T.c_FLASH) (nomark _)) (pss_one (ps_ret pe_str)) pss_nil)
  (pss_cons (ps_if (pt_cmpR op_eq (pv 1) (gi_ (by rfl) T.c_LINE_IN) (nomark _)) (pss_one (ps_ret pe_str)) pss_nil)
  (pss_one (ps_ret pe_non))))), ?_⟩
  obtain ⟨⟨M, B⟩, q⟩ := h
  have far_ : (i < 0 ∨ 773 < i) → Q (.str "far") H := fun z => by unfold barTo at q; rw [if_pos z] at q; exact q
  refine ⟨_, rfl, _, _, rfl, rfl, _, rfl, iteD (fun h1 => iteT (far_ (.inl h1))) (fun h1 => ?_)⟩
  refine ⟨_, rfl, _, _, rfl, rfl, _, rfl, iteD (fun h2 => far_ (.inr h2)) (fun h2 => ?_)⟩
  unfold barTo at q
  rw [if_neg (by omega)] at q
  refine ⟨_, rfl, _, _, rfl, rfl, _, rfl, iteD (fun h3 => ?_) (fun h3 => ?_)⟩
  · rw [if_pos h3] at q; exact q
  · rw [if_neg h3] at q
    refine ⟨_, rfl, rfl, _, rfl, iteI (fun h4 => ?_) (fun h4 => ?_)⟩
    · rw [if_pos h4] at q; exact q
    · rw [if_neg h4] at q; exact q
def sp_Memory_put (K : PySem.W.Frag) : Sp := fun vs H Q _ => ∃ (A : MA) (M : MD) (i n : Int), vs = [.ref A.p, .int i, .int n] ∧ (MemAt K H A M ∧ barTo i = none ∧ ∀ H', MemAt K H' A (M.put i n) → Kp A.own A.own H H' → Q .non H')
abbrev N_Memory_put : List Str := ["self", "address", "word"]
theorem sc_Memory_put : FnScope N_Memory_put ["self", "address", "word"] (defScope s_Memory_put) := ⟨rfl, rfl, rfl, by decide +kernel, rfl, by decide +kernel, by decide +kernel⟩
theorem ok_Memory_put (T : Txt K mg) : Ok P w K mg base CX0 1 (He.fAd K ("Memory", some "put")) ["self", "address", "word"] (sp_Memory_put K) := by
  obtain ⟨fd, F⟩ := T.d_Memory_put
  refine ⟨fd, F.ok sc_Memory_put (fun vs H Q E h => by obtain ⟨A, M, i, n, rfl, _⟩ := h; rfl) (fun cdv A_ outer s_ H vs Q E hr h => ?_), F.bindsN (fun _ _ _ _ _ _ us hl => match us, hl with | [_, _, _], _ => rfl), F.kp⟩
  obtain ⟨A, M, i, n, rfl, h⟩ := h
  have hu := hu_of hr
  refine ⟨_, PSs.nox (pss_one (ps_if (pt_cmpR op_lt (pv 1) (gi_ (by rfl) T.c_RAM) (nomark _)) (pss_one (ps_asg (pv 2) (pg_sub (pe_fld (pv 0) rfl) (pe_op op_sub (pv 1) (gi_ (by rfl) T.c_FLASH)) set_list))) (pss_one (ps_if (pt_cmpR op_eq (pv 1) (gi_ (by rfl) T.c_FLAGS) (nomark _)) (pss_one (ps_asg (pe_op op_and (pe_ix ix_list (pe_fld (pv 0) rfl) (pe_op op_sub (gi_ (by rfl) T.c_FLAGS) (gi_ (by rfl) T.c_RAM)) (fun _ _ => rfl)) (pe_op op_sub pe_int (pv 2))) (pg_sub (pe_fld (pv 0) rfl) (pe_op op_sub (gi_ (by rfl) T.c_FLAGS) (gi_ (by rfl) T.c_RAM)) set_list))) (pss_one (ps_asg (pv 2) (pg_sub (pe_fld (pv 0) rfl) (pe_op op_sub (pv 1) (gi_ (by rfl) T.c_RAM)) set_list))))))), ?_⟩
  obtain ⟨B, hb, q⟩ := h
  have hr : 512 ≤ i ∧ i ≤ 773 := by
    unfold barTo at hb
    split at hb
    · cases hb
    · split at hb
      · cases hb
      · omega
  unfold MD.put at q
  refine ⟨_, rfl, _, _, rfl, rfl, _, rfl, iteD (fun h1 => ?_) (fun h1 => ?_)⟩
  · rw [if_pos h1] at q
    refine ⟨_, rfl, _, rfl, _, _, _, _, _, rfl, B.ob, T.k_Memory, T.n_Memory_ram, MemoryF_ram, _, rfl, _, _, rfl, rfl, _, _, _, _, rfl, rfl, B.ra, ixN_at (k := (i - 512).toNat) (by omega) (by rw [B.lr]; omega), ?_⟩
    exact q _ (B.setRa _ n).1 (B.setRa _ n).2
  · rw [if_neg h1] at q
    refine ⟨_, rfl, rfl, _, rfl, iteI (fun h2 => ?_) (fun h2 => ?_)⟩
    · rw [if_pos h2] at q
      refine ⟨_, rfl, _, _, _, _, _, rfl, B.ob, T.k_Memory, T.n_Memory_places, MemoryF_places, _, _, rfl, rfl, _, _, _, _, rfl, rfl, SqL.of B.pl, getD_at (k := 2) (by decide) (by rw [B.lp]; decide), _, rfl, _, _, rfl, rfl, _, _, rfl, rfl, _, rfl, _, _, _, _, _, rfl, B.ob, T.k_Memory, T.n_Memory_places, MemoryF_places, _, _, rfl, rfl, _, _, _, _, rfl, rfl, B.pl, ixN_at (k := 2) (by decide) (by rw [B.lp]; decide), ?_⟩
      exact q _ (B.setPl 2 _).1 (B.setPl 2 _).2
    · rw [if_neg h2] at q
      refine ⟨_, rfl, _, rfl, _, _, _, _, _, rfl, B.ob, T.k_Memory, T.n_Memory_places, MemoryF_places, _, rfl, _, _, rfl, rfl, _, _, _, _, rfl, rfl, B.pl, ixN_at (k := (i - 768).toNat) (by omega) (by rw [B.lp]; omega), ?_⟩
      exact q _ (B.setPl _ n).1 (B.setPl _ n).2
def sp_Board_line_comes (K : PySem.W.Frag) : Sp := fun vs H Q _ => ∃ (A : BA) (D : BD), vs = [.ref A.p] ∧ (BoardAt K H A D ∧ ∀ H', BoardAt K H' A D.lineComes → Kp A.own A.own H H' → Q .non H')
abbrev N_Board_line_comes : List Str := ["self", "value"]
theorem sc_Board_line_comes : FnScope N_Board_line_comes ["self"] (defScope s_Board_line_comes) := ⟨rfl, rfl, rfl, by decide +kernel, rfl, by decide +kernel, by decide +kernel⟩
theorem ok_Board_line_comes (T : Txt K mg) : Ok P w K mg base CX0 2 (He.fAd K ("Board", some "line_comes")) ["self"] (sp_Board_line_comes K) := by
  obtain ⟨_, G_Memory_place, b_Memory_place, kp_Memory_place⟩ := ok_Memory_place (P := P) (w := w) (base := base) T
  obtain ⟨_, G_Memory_raise_flag, b_Memory_raise_flag, kp_Memory_raise_flag⟩ := ok_Memory_raise_flag (P := P) (w := w) (base := base) T
  obtain ⟨_, G_Memory_set_place, b_Memory_set_place, kp_Memory_set_place⟩ := ok_Memory_set_place (P := P) (w := w) (base := base) T
  obtain ⟨fd, F⟩ := T.d_Board_line_comes
  refine ⟨fd, F.ok sc_Board_line_comes (fun vs H Q E h => by obtain ⟨A, D, rfl, _⟩ := h; rfl) (fun cdv A_ outer s_ H vs Q E hr h => ?_), F.bindsN (fun _ _ _ _ _ _ us hl => match us, hl with | [_], _ => rfl), F.kp⟩
  obtain ⟨A, D, rfl, h⟩ := h
  have hu := hu_of hr
  refine ⟨_, PSs.nox (pss_cons (ps_set (i := 1) sc_Board_line_comes.nd rfl (.inl rfl) (pe_dget2 hu (pe_fld (pv 0) rfl) (pe_fld (pv 0) rfl) (pe_meth (pe_fld (pv 0) rfl) T.k_Memory T.m_Memory_place G_Memory_place (hr.mono (by decide)) b_Memory_place .nil pass0 (pa_cons (gi_ (by rfl) T.c_LINE_IN) pa_nil)) ⟨rfl, rfl, rfl, rfl⟩))
  (pss_cons (ps_if (pt_cmpR op_gt (pe_op op_mod (pv 1) pe_int) (pe_op op_mod (pe_meth (pe_fld (pv 0) rfl) T.k_Memory T.m_Memory_place G_Memory_place (hr.mono (by decide)) b_Memory_place .nil pass0 (pa_cons (gi_ (by rfl) T.c_LINE_IN) pa_nil)) pe_int) (nomark _)) (pss_one (ps_expr (pe_meth (pe_fld (pv 0) rfl) T.k_Memory T.m_Memory_raise_flag G_Memory_raise_flag (hr.mono (by decide)) b_Memory_raise_flag .nil pass0 (pa_cons (gi_ (by rfl) T.c_LINE_BIT) pa_nil)))) pss_nil)
  (pss_one (ps_expr (pe_meth (pe_fld (pv 0) rfl) T.k_Memory T.m_Memory_set_place G_Memory_set_place (hr.mono (by decide)) b_Memory_set_place .nil pass0 (pa_cons (gi_ (by rfl) T.c_LINE_IN) (pa_cons (pv 1) pa_nil))))))), ?_⟩
  obtain ⟨B, q⟩ := h
  obtain ⟨o, ho, eo⟩ : ∃ o, DGet H A.ln (.int D.beat) o ∧ o.getD (.int (D.m.place 4)) = .int (lineGet D.ln D.beat (D.m.place 4)) := ⟨_, DGet.k (k := Sum.inl D.beat) B.ln, line_get _ _ _⟩
  refine ⟨_, rfl, _, _, _, _, _, rfl, B.ob, T.k_Board, T.n_Board_line, BoardF_line, _, rfl, .inl ⟨_, .inl B.ln⟩, _, rfl, _, _, _, _, _, rfl, B.ob, T.k_Board, T.n_Board_beat, BoardF_beat, _, rfl, _, _, _, _, _, rfl, B.ob, T.k_Board, T.n_Board_memory, BoardF_memory, _, _, _, rfl, B.mem.ob, (by kernel_rfl), _, _, 4, rfl, B.mem, (by decide), o, ho, ?_⟩
  rw [eo]
  refine ⟨_, rfl, _, _, rfl, rfl, (by show (0 : Int) < 2; decide), _, rfl, _, _, _, _, _, rfl, B.ob, T.k_Board, T.n_Board_memory, BoardF_memory, _, _, _, rfl, B.mem.ob, (by kernel_rfl), _, _, 4, rfl, B.mem, (by decide), _, _, rfl, rfl, (by show (0 : Int) < 2; decide), _, _, rfl, rfl, _, rfl, iteD (fun h1 => ?_) (fun h1 => ?_)⟩
  · refine ⟨_, rfl, _, _, _, _, _, rfl, B.ob, T.k_Board, T.n_Board_memory, BoardF_memory, _, _, _, rfl, B.mem.ob, (by kernel_rfl), _, _, 2, rfl, B.mem, fun H1 M1 k1 => ?_⟩
    obtain ⟨B1, k2⟩ := B.setMem M1 k1
    refine ⟨_, rfl, _, _, _, _, _, rfl, B1.ob, T.k_Board, T.n_Board_memory, BoardF_memory, _, _, _, rfl, B1.mem.ob, (by kernel_rfl), _, rfl, _, _, 4, _, rfl, B1.mem, (by decide), fun H2 M2 k3 => ?_⟩
    obtain ⟨B2, k4⟩ := B1.setMem M2 k3
    refine q _ ?_ (k2.trans k4)
    unfold BD.lineComes MD.comes
    rw [if_pos h1]
    exact B2
  · refine ⟨_, rfl, _, _, _, _, _, rfl, B.ob, T.k_Board, T.n_Board_memory, BoardF_memory, _, _, _, rfl, B.mem.ob, (by kernel_rfl), _, rfl, _, _, 4, _, rfl, B.mem, (by decide), fun H2 M2 k3 => ?_⟩
    obtain ⟨B2, k4⟩ := B.setMem M2 k3
    refine q _ ?_ k4
    unfold BD.lineComes MD.comes
    rw [if_neg h1]
    exact B2
def sp_Board_timer_goes (K : PySem.W.Frag) : Sp := fun vs H Q _ => ∃ (A : BA) (D : BD), vs = [.ref A.p] ∧ (BoardAt K H A D ∧ ∀ H', BoardAt K H' A D.timerGoes → Kp A.own A.own H H' → Q .non H')
abbrev N_Board_timer_goes : List Str := ["self", "count"]
theorem sc_Board_timer_goes : FnScope N_Board_timer_goes ["self"] (defScope s_Board_timer_goes) := ⟨rfl, rfl, rfl, by decide +kernel, rfl, by decide +kernel, by decide +kernel⟩
theorem ok_Board_timer_goes (T : Txt K mg) : Ok P w K mg base CX0 2 (He.fAd K ("Board", some "timer_goes")) ["self"] (sp_Board_timer_goes K) := by
  obtain ⟨_, G_Memory_place, b_Memory_place, kp_Memory_place⟩ := ok_Memory_place (P := P) (w := w) (base := base) T
  obtain ⟨_, G_Memory_raise_flag, b_Memory_raise_flag, kp_Memory_raise_flag⟩ := ok_Memory_raise_flag (P := P) (w := w) (base := base) T
  obtain ⟨_, G_Memory_set_place, b_Memory_set_place, kp_Memory_set_place⟩ := ok_Memory_set_place (P := P) (w := w) (base := base) T
  obtain ⟨fd, F⟩ := T.d_Board_timer_goes
  refine ⟨fd, F.ok sc_Board_timer_goes (fun vs H Q E h => by obtain ⟨A, D, rfl, _⟩ := h; rfl) (fun cdv A_ outer s_ H vs Q E hr h => ?_), F.bindsN (fun _ _ _ _ _ _ us hl => match us, hl with | [_], _ => rfl), F.kp⟩
  obtain ⟨A, D, rfl, h⟩ := h
  have hu := hu_of hr
  refine ⟨_, PSs.nox (pss_one (ps_if (pt_cmpR op_gt (pe_meth (pe_fld (pv 0) rfl) T.k_Memory T.m_Memory_place G_Memory_place (hr.mono (by decide)) b_Memory_place .nil pass0 (pa_cons (gi_ (by rfl) T.c_TOP) pa_nil)) pe_int (nomark _)) (pss_cons (ps_set (i := 1) sc_Board_timer_goes.nd rfl (.inl rfl) (pe_op op_add (pe_meth (pe_fld (pv 0) rfl) T.k_Memory T.m_Memory_place G_Memory_place (hr.mono (by decide)) b_Memory_place .nil pass0 (pa_cons (gi_ (by rfl) T.c_COUNT) pa_nil)) pe_int))
    (pss_cons (ps_if (pt_cmpR op_ge (pv 1) (pe_meth (pe_fld (pv 0) rfl) T.k_Memory T.m_Memory_place G_Memory_place (hr.mono (by decide)) b_Memory_place .nil pass0 (pa_cons (gi_ (by rfl) T.c_TOP) pa_nil)) (nomark _)) (pss_cons (ps_set (i := 1) sc_Board_timer_goes.nd rfl (.inl rfl) pe_int)
      (pss_one (ps_expr (pe_meth (pe_fld (pv 0) rfl) T.k_Memory T.m_Memory_raise_flag G_Memory_raise_flag (hr.mono (by decide)) b_Memory_raise_flag .nil pass0 (pa_cons (gi_ (by rfl) T.c_TIMER_BIT) pa_nil))))) pss_nil)
    (pss_one (ps_expr (pe_meth (pe_fld (pv 0) rfl) T.k_Memory T.m_Memory_set_place G_Memory_set_place (hr.mono (by decide)) b_Memory_set_place .nil pass0 (pa_cons (gi_ (by rfl) T.c_COUNT) (pa_cons (pv 1) pa_nil))))))) pss_nil)), ?_⟩
  obtain ⟨B, q⟩ := h
  refine ⟨_, rfl, _, _, _, _, _, rfl, B.ob, T.k_Board, T.n_Board_memory, BoardF_memory, _, _, _, rfl, B.mem.ob, (by kernel_rfl), _, _, 1, rfl, B.mem, (by decide), _, _, rfl, rfl, _, rfl, iteD (fun h1 => ?_) (fun h1 => ?_)⟩
  · refine ⟨_, rfl, _, _, _, _, _, rfl, B.ob, T.k_Board, T.n_Board_memory, BoardF_memory, _, _, _, rfl, B.mem.ob, (by kernel_rfl), _, _, 0, rfl, B.mem, (by decide), _, _, rfl, rfl, ?_⟩
    refine ⟨_, rfl, _, rfl, _, _, _, _, _, rfl, B.ob, T.k_Board, T.n_Board_memory, BoardF_memory, _, _, _, rfl, B.mem.ob, (by kernel_rfl), _, _, 1, rfl, B.mem, (by decide), _, _, rfl, rfl, _, rfl, iteD (fun h2 => ?_) (fun h2 => ?_)⟩
    · refine ⟨_, rfl, _, _, _, _, _, rfl, B.ob, T.k_Board, T.n_Board_memory, BoardF_memory, _, _, _, rfl, B.mem.ob, (by kernel_rfl), _, _, 1, rfl, B.mem, fun H1 M1 k1 => ?_⟩
      obtain ⟨B1, k2⟩ := B.setMem M1 k1
      refine ⟨_, rfl, _, _, _, _, _, rfl, B1.ob, T.k_Board, T.n_Board_memory, BoardF_memory, _, _, _, rfl, B1.mem.ob, (by kernel_rfl), _, rfl, _, _, 0, _, rfl, B1.mem, (by decide), fun H2 M2 k3 => ?_⟩
      obtain ⟨B2, k4⟩ := B1.setMem M2 k3
      refine q _ ?_ (k2.trans k4)
      unfold BD.timerGoes
      rw [if_pos h1, if_pos h2]
      exact B2
    · refine ⟨_, rfl, _, _, _, _, _, rfl, B.ob, T.k_Board, T.n_Board_memory, BoardF_memory, _, _, _, rfl, B.mem.ob, (by kernel_rfl), _, rfl, _, _, 0, _, rfl, B.mem, (by decide), fun H2 M2 k3 => ?_⟩
      obtain ⟨B2, k4⟩ := B.setMem M2 k3
      refine q _ ?_ k4
      unfold BD.timerGoes
      rw [if_pos h1, if_neg h2]
      exact B2
  · refine q _ ?_ (Kp.refl _ _)
    unfold BD.timerGoes
    rw [if_neg h1]
    exact B
def sp_Board_pending (K : PySem.W.Frag) : Sp := fun vs H Q _ => ∃ (A : BA) (D : BD), vs = [.ref A.p] ∧ (BoardAt K H A D ∧ Q (.int D.pending) H)
abbrev N_Board_pending : List Str := ["self"]
theorem sc_Board_pending : FnScope N_Board_pending ["self"] (defScope s_Board_pending) := ⟨rfl, rfl, rfl, by decide +kernel, rfl, by decide +kernel, by decide +kernel⟩
theorem ok_Board_pending (T : Txt K mg) : Ok P w K mg base CX0 2 (He.fAd K ("Board", some "pending")) ["self"] (sp_Board_pending K) := by
  obtain ⟨_, G_Memory_place, b_Memory_place, kp_Memory_place⟩ := ok_Memory_place (P := P) (w := w) (base := base) T
  obtain ⟨fd, F⟩ := T.d_Board_pending
  refine ⟨fd, F.ok sc_Board_pending (fun vs H Q E h => by obtain ⟨A, D, rfl, _⟩ := h; rfl) (fun cdv A_ outer s_ H vs Q E hr h => ?_), F.bindsN (fun _ _ _ _ _ _ us hl => match us, hl with | [_], _ => rfl), F.kp⟩
  obtain ⟨A, D, rfl, h⟩ := h
  have hu := hu_of hr
  refine ⟨_, PSs.nox (pss_one (ps_ret (pe_op op_and (pe_meth (pe_fld (pv 0) rfl) T.k_Memory T.m_Memory_place G_Memory_place (hr.mono (by decide)) b_Memory_place .nil pass0 (pa_cons (gi_ (by rfl) T.c_FLAGS) pa_nil)) (pe_meth (pe_fld (pv 0) rfl) T.k_Memory T.m_Memory_place G_Memory_place (hr.mono (by decide)) b_Memory_place .nil pass0 (pa_cons (gi_ (by rfl) T.c_MASK) pa_nil))))), ?_⟩
  obtain ⟨B, q⟩ := h
  exact ⟨_, rfl, _, _, _, _, _, rfl, B.ob, T.k_Board, T.n_Board_memory, BoardF_memory, _, _, _, rfl, B.mem.ob, (by kernel_rfl), _, _, 2, rfl, B.mem, (by decide), _, rfl, _, _, _, _, _, rfl, B.ob, T.k_Board, T.n_Board_memory, BoardF_memory, _, _, _, rfl, B.mem.ob, (by kernel_rfl), _, _, 3, rfl, B.mem, (by decide), _, _, rfl, rfl, q⟩
def sp_Board_pass_beats (K : PySem.W.Frag) : Sp := fun vs H Q _ => ∃ (A : BA) (D : BD) (n : Nat), vs = [.ref A.p, .int (n : Int)] ∧ (BoardAt K H A D ∧ n ≤ 1000 ∧ ∀ H', BoardAt K H' A (D.pass n) → Kp A.own A.own H H' → Q .non H')
abbrev N_Board_pass_beats : List Str := ["self", "many", "k"]
theorem sc_Board_pass_beats : FnScope N_Board_pass_beats ["self", "many"] (defScope s_Board_pass_beats) := ⟨rfl, rfl, rfl, by decide +kernel, rfl, by decide +kernel, by decide +kernel⟩
theorem ok_Board_pass_beats (T : Txt K mg) : Ok P w K mg base CX0 3 (He.fAd K ("Board", some "pass_beats")) ["self", "many"] (sp_Board_pass_beats K) := by
  obtain ⟨_, G_Board_line_comes, b_Board_line_comes, kp_Board_line_comes⟩ := ok_Board_line_comes (P := P) (w := w) (base := base) T
  obtain ⟨_, G_Board_timer_goes, b_Board_timer_goes, kp_Board_timer_goes⟩ := ok_Board_timer_goes (P := P) (w := w) (base := base) T
  obtain ⟨fd, F⟩ := T.d_Board_pass_beats
  refine ⟨fd, F.ok sc_Board_pass_beats (fun vs H Q E h => by obtain ⟨A, D, n, rfl, _⟩ := h; rfl) (fun cdv A_ outer s_ H vs Q E hr h => ?_), F.bindsN (fun _ _ _ _ _ _ us hl => match us, hl with | [_, _], _ => rfl), F.kp⟩
  obtain ⟨A, D, n, rfl, h⟩ := h
  have hu := hu_of hr
  refine ⟨_, PSs.nox (pss_one (ps_for PassesOwn.never rfl (pi_range1 (by rfl) T.f_range (pa_cons (pv 1) pa_nil)) (pg_name (i := 2) sc_Board_pass_beats.nd rfl (.inl rfl)) (pss_cons (ps_fld (pv 0) (pe_op op_add (pe_fld (pv 0) rfl) pe_int) rfl)
    (pss_cons (ps_expr (pe_meth0 (pv 0) T.k_Board T.m_Board_line_comes G_Board_line_comes (hr.mono (by decide)) b_Board_line_comes .nil pass0))
    (pss_one (ps_expr (pe_meth0 (pv 0) T.k_Board T.m_Board_timer_goes G_Board_timer_goes (hr.mono (by decide)) b_Board_timer_goes .nil pass0))))))), ?_⟩
  obtain ⟨B, hn, q⟩ := h
  refine ⟨_, rfl, _, rfl, by omega, by omega, for_range (lo := 0) (n := (n : Int).toNat) (fun i σ H' => ∃ v, σ = [some (.ref A.p), some (.int n), v] ∧ BoardAt K H' A (D.pass i) ∧ Kp A.own A.own H H') ⟨_, rfl, B, Kp.refl _ _⟩ ?_ ?_⟩
  · rintro i σ H1 hi ⟨v, rfl, B1, k1⟩
    refine ⟨_, rfl, _, _, _, _, _, rfl, B1.ob, T.k_Board, T.n_Board_beat, BoardF_beat, _, _, rfl, rfl, _, rfl, _, _, _, _, rfl, B1.ob, T.k_Board, T.n_Board_beat, BoardF_len, B1.goBeat fun H2 B2 k2 => ?_⟩
    refine ⟨_, rfl, _, _, _, rfl, B2.ob, (by kernel_rfl), _, _, rfl, B2, fun H3 B3 k3 => ?_⟩
    refine ⟨_, rfl, _, _, _, rfl, B3.ob, (by kernel_rfl), _, _, rfl, B3, fun H4 B4 k4 => ?_⟩
    exact ⟨_, rfl, B4, k1.trans (k2.trans (k3.trans k4))⟩
  · rintro σ H1 ⟨v, rfl, B1, k1⟩
    exact q _ B1 k1
end

theorem barTo_none {i : Int} (h : barTo i = none) : 512 ≤ i ∧ i ≤ 773 ∧ i ≠ 772 := by
  unfold barTo at h
  split at h
  · cases h
  · split at h
    · cases h
    · split at h
      · cases h
      · exact ⟨by omega, by omega, by assumption⟩
theorem barV_some {b : Bar} : barV (some b) ≠ .non := fun z => by cases z
theorem iteOptN {A B : Prop} {o : Option Bar} (h1 : ∀ b, o = some b → A) (h2 : o = none → B) : if (!decide (barV o = .non)) = true then A else B := by
  cases o with
  | some b => rw [decide_eq_false (show ¬ barV (some b) = .non from barV_some)]; exact h1 b rfl
  | none => exact h2 rfl
theorem iteOptI {A B : Prop} {o : Option Int} (h1 : o = none → A) (h2 : ∀ n, o = some n → B) : if decide (optV o = .non) = true then A else B := by
  cases o with
  | some b => rw [decide_eq_false (show ¬ optV (some b) = .non from fun z => by cases z)]; exact h2 b rfl
  | none => exact h1 rfl
/-- a pair of two new lists -/
theorem pair_new {K : PySem.W.Frag} {H H0 : Hp} {A : BA} {D : BD} (B0 : BoardAt K H0 A D) (k0 : Kp A.own A.own H H0) {Q : VK} (r p : List Int) {l1 l2 t : Addr} (n1 : H0 l1 = none) (n2 : upd H0 l1 (.lst (r.map V.int)) l2 = none)
    (nt : upd (upd H0 l1 (.lst (r.map V.int))) l2 (.lst (p.map V.int)) t = none)
    (q : ∀ H' t l1 l2, BoardAt K H' A D → Kp A.own A.own H H' → H' t = some (.tup [.ref l1, .ref l2]) → H' l1 = some (.lst (r.map V.int)) → H' l2 = some (.lst (p.map V.int)) → H l1 = none → H l2 = none → l1 ≠ l2 → Q (.ref t) H') :
    Q (.ref t) (upd (upd (upd H0 l1 (.lst (r.map V.int))) l2 (.lst (p.map V.int))) t (.tup [.ref l1, .ref l2])) := by
  have h12 : l1 ≠ l2 := fun z => by rw [← z, upd_same] at n2; cases n2
  have n2' : H0 l2 = none := by rw [upd_ne h12.symm] at n2; exact n2
  have ht2 : t ≠ l2 := fun z => by rw [z, upd_same] at nt; cases nt
  have ht1 : t ≠ l1 := fun z => by rw [z, upd_ne h12, upd_same] at nt; cases nt
  exact q _ t l1 l2 (((B0.new n1).new n2).new nt) (k0.trans ((Kp.new n1).trans ((Kp.new n2).trans (Kp.new nt)))) upd_same (by rw [upd_ne ht1.symm, upd_ne h12, upd_same]) (by rw [upd_ne ht2.symm, upd_same]) (k0.free n1 (B0.fresh n1)) (k0.free n2' (B0.fresh n2')) h12
section
variable {P : Program} {w : World} {K : PySem.W.Frag} {mg : Str → Option Value} {base : Heap}
def sp_Board_stop (K : PySem.W.Frag) : Sp := fun vs H Q _ => ∃ (A : BA) (D : BD) (t : Addr) (xs : List V), vs = [.ref A.p, .ref t] ∧ (BoardAt K H A D ∧ H t = some (.tup xs) ∧ ∀ H' A', BoardAt K H' A' (D.halt xs) → A'.p = A.p → Kp A.own A'.own H H' → Q (.str "stopped") H')
abbrev N_Board_stop : List Str := ["self", "cause"]
theorem sc_Board_stop : FnScope N_Board_stop ["self", "cause"] (defScope s_Board_stop) := ⟨rfl, rfl, rfl, by decide +kernel, rfl, by decide +kernel, by decide +kernel⟩
theorem ok_Board_stop (T : Txt K mg) : Ok P w K mg base CX0 1 (He.fAd K ("Board", some "stop")) ["self", "cause"] (sp_Board_stop K) := by
  obtain ⟨fd, F⟩ := T.d_Board_stop
  refine ⟨fd, F.ok sc_Board_stop (fun vs H Q E h => by obtain ⟨A, D, t, xs, rfl, _⟩ := h; rfl) (fun cdv A_ outer s_ H vs Q E hr h => ?_), F.bindsN (fun _ _ _ _ _ _ us hl => match us, hl with | [_, _], _ => rfl), F.kp⟩
  obtain ⟨A, D, t, xs, rfl, h⟩ := h
  have hu := hu_of hr
  refine ⟨_, PSs.nox (pss_cons (ps_fld (pv 0) (pv 1) rfl)
  (pss_one (ps_ret pe_str))), ?_⟩
  obtain ⟨B, ht, q⟩ := h
  refine ⟨_, rfl, _, rfl, _, _, _, _, rfl, B.ob, T.k_Board, T.n_Board_stopped, BoardF_len, B.goStop (o := some xs) ⟨t, rfl, ht⟩ fun H1 B1 k1 => ?_⟩
  exact q _ _ B1 rfl k1
def sp_Board_store (K : PySem.W.Frag) : Sp := fun vs H Q _ => ∃ (A : BA) (D : BD) (i n : Int), vs = [.ref A.p, .int i, .int n] ∧ (BoardAt K H A D ∧ barTo i = none ∧ D.tc.length < 1000 ∧ D.sent.length < 1000000 ∧ ∀ H' A', BoardAt K H' A' (D.store i n) → A'.p = A.p → Kp A.own A'.own H H' → Q .non H')
abbrev N_Board_store : List Str := ["self", "address", "word"]
theorem sc_Board_store : FnScope N_Board_store ["self", "address", "word"] (defScope s_Board_store) := ⟨rfl, rfl, rfl, by decide +kernel, rfl, by decide +kernel, by decide +kernel⟩
theorem ok_Board_store (T : Txt K mg) : Ok P w K mg base CX0 2 (He.fAd K ("Board", some "store")) ["self", "address", "word"] (sp_Board_store K) := by
  obtain ⟨_, G_Memory_put, b_Memory_put, kp_Memory_put⟩ := ok_Memory_put (P := P) (w := w) (base := base) T
  obtain ⟨fd, F⟩ := T.d_Board_store
  refine ⟨fd, F.ok sc_Board_store (fun vs H Q E h => by obtain ⟨A, D, i, n, rfl, _⟩ := h; rfl) (fun cdv A_ outer s_ H vs Q E hr h => ?_), F.bindsN (fun _ _ _ _ _ _ us hl => match us, hl with | [_, _, _], _ => rfl), F.kp⟩
  obtain ⟨A, D, i, n, rfl, h⟩ := h
  have hu := hu_of hr
  refine ⟨_, PSs.nox (pss_cons (ps_expr (pe_bm PySem.F.plainAttrs_list PySem.F.slot_list_append PySem.F.type_list_append mt_append (pe_fld (pv 0) rfl) (pa_cons (pe_tup (pa_cons pe_str (pa_cons (pv 1) pa_nil))) pa_nil)))
  (pss_cons (ps_expr (pe_meth (pe_fld (pv 0) rfl) T.k_Memory T.m_Memory_put G_Memory_put (hr.mono (by decide)) b_Memory_put .nil pass0 (pa_cons (pv 1) (pa_cons (pv 2) pa_nil))))
  (pss_one (ps_if (pt_cmpR op_eq (pv 1) (gi_ (by rfl) T.c_LINE_OUT) (nomark _)) (pss_one (ps_expr (pe_bm PySem.F.plainAttrs_list PySem.F.slot_list_append PySem.F.type_list_append mt_append (pe_fld (pv 0) rfl) (pa_cons (pe_tup (pa_cons (pe_fld (pv 0) rfl) (pa_cons (pv 2) pa_nil))) pa_nil)))) pss_nil)))), ?_⟩
  obtain ⟨B, hb, hl, hs, q⟩ := h
  refine ⟨_, rfl, _, _, _, _, _, rfl, B.ob, T.k_Board, T.n_Board_touched, BoardF_touched, .inl ⟨rfl, _, SqL.of B.tc⟩, _, rfl, by show 2 ≤ sizeLine; decide, fun t ht => ⟨_, _, _, rfl, rfl, by rw [upd_ne (ne_of_none B.tc ht)]; exact B.tc, small_ ?_, B.goTouch ht hl fun H1 B1 k1 => ?_⟩⟩
  · have e := Paired.length B.tch
    unfold tcT at e
    rw [List.length_map] at e
    omega
  refine ⟨_, rfl, _, _, _, _, _, rfl, B1.ob, T.k_Board, T.n_Board_memory, BoardF_memory, _, _, _, rfl, B1.mem.ob, (by kernel_rfl), _, rfl, _, rfl, _, _, _, _, rfl, B1.mem, hb, fun H2 M2 k2 => ?_⟩
  obtain ⟨B2, k3⟩ := B1.setMem M2 k2
  unfold BD.store at q
  refine ⟨_, rfl, rfl, _, rfl, iteI (fun h1 => ?_) (fun h1 => ?_)⟩
  · rw [if_pos h1] at q
    refine ⟨_, rfl, _, _, _, _, _, rfl, B2.ob, T.k_Board, T.n_Board_sent, BoardF_sent, .inl ⟨rfl, _, SqL.of B2.sn⟩, _, rfl, _, _, _, _, _, rfl, B2.ob, T.k_Board, T.n_Board_beat, BoardF_beat, _, rfl, by show 2 ≤ sizeLine; decide, fun u hu2 => ⟨_, _, _, rfl, rfl, by rw [upd_ne (ne_of_none B2.sn hu2)]; exact B2.sn, small_ ?_, B2.goSend hu2 hs fun H3 B3 k4 => ?_⟩⟩
    · have e : A.sv.length = (sentT D.sent).length := Paired.length B2.sent
      unfold sentT at e
      rw [List.length_map] at e
      have : D.sent.length < 1000000 := hs
      show A.sv.length ≤ 16777215
      omega
    exact q _ _ B3 rfl (k1.trans (k3.trans k4))
  · rw [if_neg h1] at q
    exact q _ _ B2 rfl (k1.trans k3)
def sp_Board_fetch (K : PySem.W.Frag) : Sp := fun vs H Q _ => ∃ (A : BA) (D : BD) (i n : Int), vs = [.ref A.p, .int i] ∧ (BoardAt K H A D ∧ D.m.at i = some n ∧ D.tc.length < 1000 ∧ ∀ H' A', BoardAt K H' A' (D.fetch i) → A'.p = A.p → Kp A.own A'.own H H' → Q (.int (D.fetchV i)) H')
abbrev N_Board_fetch : List Str := ["self", "address", "word"]
theorem sc_Board_fetch : FnScope N_Board_fetch ["self", "address"] (defScope s_Board_fetch) := ⟨rfl, rfl, rfl, by decide +kernel, rfl, by decide +kernel, by decide +kernel⟩
theorem ok_Board_fetch (T : Txt K mg) : Ok P w K mg base CX0 2 (He.fAd K ("Board", some "fetch")) ["self", "address"] (sp_Board_fetch K) := by
  obtain ⟨_, G_Memory_word_at, b_Memory_word_at, kp_Memory_word_at⟩ := ok_Memory_word_at (P := P) (w := w) (base := base) T
  obtain ⟨fd, F⟩ := T.d_Board_fetch
  refine ⟨fd, F.ok sc_Board_fetch (fun vs H Q E h => by obtain ⟨A, D, i, n, rfl, _⟩ := h; rfl) (fun cdv A_ outer s_ H vs Q E hr h => ?_), F.bindsN (fun _ _ _ _ _ _ us hl => match us, hl with | [_, _], _ => rfl), F.kp⟩
  obtain ⟨A, D, i, n, rfl, h⟩ := h
  have hu := hu_of hr
  refine ⟨_, PSs.nox (pss_cons (ps_expr (pe_bm PySem.F.plainAttrs_list PySem.F.slot_list_append PySem.F.type_list_append mt_append (pe_fld (pv 0) rfl) (pa_cons (pe_tup (pa_cons pe_str (pa_cons (pv 1) pa_nil))) pa_nil)))
  (pss_cons (ps_set (i := 2) sc_Board_fetch.nd rfl (.inl rfl) (pe_op op_xor (pe_meth (pe_fld (pv 0) rfl) T.k_Memory T.m_Memory_word_at G_Memory_word_at (hr.mono (by decide)) b_Memory_word_at .nil pass0 (pa_cons (pv 1) pa_nil)) (pe_fld (pv 0) rfl)))
  (pss_cons (ps_fld (pv 0) pe_int rfl)
  (pss_one (ps_ret (pv 2)))))), ?_⟩
  obtain ⟨B, hb, hl, q⟩ := h
  refine ⟨_, rfl, _, _, _, _, _, rfl, B.ob, T.k_Board, T.n_Board_touched, BoardF_touched, .inl ⟨rfl, _, SqL.of B.tc⟩, _, rfl, by show 2 ≤ sizeLine; decide, fun t ht => ⟨_, _, _, rfl, rfl, by rw [upd_ne (ne_of_none B.tc ht)]; exact B.tc, small_ ?_, B.goTouch ht hl fun H1 B1 k1 => ?_⟩⟩
  · have e := Paired.length B.tch
    unfold tcT at e
    rw [List.length_map] at e
    omega
  refine ⟨_, rfl, _, _, _, _, _, rfl, B1.ob, T.k_Board, T.n_Board_memory, BoardF_memory, _, _, _, rfl, B1.mem.ob, (by kernel_rfl), _, rfl, _, _, _, rfl, B1.mem, ?_⟩
  rw [hb]
  refine ⟨_, rfl, _, _, _, _, _, rfl, B1.ob, T.k_Board, T.n_Board_bend, BoardF_bend, _, _, rfl, rfl, ?_⟩
  refine ⟨_, rfl, _, _, _, _, rfl, B1.ob, T.k_Board, T.n_Board_bend, BoardF_len, B1.goBend fun H2 B2 k2 => ?_⟩
  unfold BD.fetchV at q
  rw [hb] at q
  exact ⟨_, rfl, q _ _ B2 rfl (k1.trans k2)⟩
def sp_Board_addresses (K : PySem.W.Frag) : Sp := fun vs H Q _ => ∃ (A : BA) (D : BD) (k : Nat) (x : Int), vs = [.ref A.p, .str (nameS k), .int x] ∧ (BoardAt K H A D ∧ k < 23 ∧ ∀ H' t l1 l2, BoardAt K H' A D → Kp A.own A.own H H' → H' t = some (.tup [.ref l1, .ref l2]) → H' l1 = some (.lst ((addrs k x D.b D.sp).1.map V.int)) → H' l2 = some (.lst ((addrs k x D.b D.sp).2.map V.int)) → H l1 = none → H l2 = none → l1 ≠ l2 → Q (.ref t) H')
abbrev N_Board_addresses : List Str := ["self", "name", "part", "sp"]
theorem sc_Board_addresses : FnScope N_Board_addresses ["self", "name", "part"] (defScope s_Board_addresses) := ⟨rfl, rfl, rfl, by decide +kernel, rfl, by decide +kernel, by decide +kernel⟩
theorem ok_Board_addresses (T : Txt K mg) : Ok P w K mg base CX0 1 (He.fAd K ("Board", some "addresses")) ["self", "name", "part"] (sp_Board_addresses K) := by
  obtain ⟨fd, F⟩ := T.d_Board_addresses
  refine ⟨fd, F.ok sc_Board_addresses (fun vs H Q E h => by obtain ⟨A, D, k, x, rfl, _⟩ := h; rfl) (fun cdv A_ outer s_ H vs Q E hr h => ?_), F.bindsN (fun _ _ _ _ _ _ us hl => match us, hl with | [_, _, _], _ => rfl), F.kp⟩
  obtain ⟨A, D, k, x, rfl, h⟩ := h
  have hu := hu_of hr
  refine ⟨_, PSs.nox (pss_cons (ps_set (i := 3) sc_Board_addresses.nd rfl (.inl rfl) (pe_dget hu (pe_fld (pv 0) rfl) pe_str (fun _ _ => rfl)))
  (pss_cons (ps_if (pt_cmpR op_in_seq (pv 1) (gr_ (by rfl) T.g_READING) (by rfl)) (pss_one (ps_ret (pe_tup (pa_cons (pe_lst (pa_cons (pv 2) pa_nil)) (pa_cons (pe_lst pa_nil) pa_nil))))) pss_nil)
  (pss_cons (ps_if (pt_cmpR op_eq (pv 1) pe_str (nomark _)) (pss_one (ps_ret (pe_tup (pa_cons (pe_lst pa_nil) (pa_cons (pe_lst (pa_cons (pv 2) pa_nil)) pa_nil))))) pss_nil)
  (pss_cons (ps_if (pt_cmpR op_eq (pv 1) pe_str (nomark _)) (pss_one (ps_ret (pe_tup (pa_cons (pe_lst (pa_cons (pe_op op_add (pv 2) (pe_dget hu (pe_fld (pv 0) rfl) pe_str (fun _ _ => rfl))) pa_nil)) (pa_cons (pe_lst pa_nil) pa_nil))))) pss_nil)
  (pss_cons (ps_if (pt_cmpR op_eq (pv 1) pe_str (nomark _)) (pss_one (ps_ret (pe_tup (pa_cons (pe_lst pa_nil) (pa_cons (pe_lst (pa_cons (pe_op op_add (pv 2) (pe_dget hu (pe_fld (pv 0) rfl) pe_str (fun _ _ => rfl))) pa_nil)) pa_nil))))) pss_nil)
  (pss_cons (ps_if (pt_cmpR op_in_seq (pv 1) (pe_tup (pa_cons pe_str (pa_cons pe_str pa_nil))) (by rfl)) (pss_one (ps_ret (pe_tup (pa_cons (pe_lst pa_nil) (pa_cons (pe_lst (pa_cons (pv 3) pa_nil)) pa_nil))))) pss_nil)
  (pss_cons (ps_if (pt_cmpR op_in_seq (pv 1) (pe_tup (pa_cons pe_str (pa_cons pe_str pa_nil))) (by rfl)) (pss_one (ps_ret (pe_tup (pa_cons (pe_lst (pa_cons (pe_op op_add (pv 3) pe_int) pa_nil)) (pa_cons (pe_lst pa_nil) pa_nil))))) pss_nil)
  (pss_cons (ps_if (pt_cmpR op_eq (pv 1) pe_str (nomark _)) (pss_one (ps_ret (pe_tup (pa_cons (pe_lst (pa_cons (pe_op op_add (pv 3) pe_int) (pa_cons (pe_op op_add (pv 3) pe_int) pa_nil))) (pa_cons (pe_lst pa_nil) pa_nil))))) pss_nil)
  (pss_one (ps_ret (pe_tup (pa_cons (pe_lst pa_nil) (pa_cons (pe_lst pa_nil) pa_nil))))))))))))), ?_⟩
  obtain ⟨B, hk, q⟩ := h
  have s0 : 0 ≤ sizeLine := by decide
  have s1 : 1 ≤ sizeLine := by decide
  have s2 : 2 ≤ sizeLine := by decide
  unfold addrs at q
  refine ⟨_, rfl, _, _, _, _, _, rfl, B.ob, T.k_Board, T.n_Board_registers, BoardF_registers, _, _, rfl, B.get_sp, ?_⟩
  refine ⟨_, rfl, _, _, rfl, .inl (T.l_READING _), rfl, rfl, _, rfl, iteIn hk _ [2, 4, 5, 6, 7] (by decide +kernel) (fun h1 => ?_) (fun h1 => ?_)⟩
  · rw [if_pos (by simpa using h1)] at q
    exact ⟨_, rfl, s1, fun l1 n1 => ⟨s0, fun l2 n2 => ⟨s2, fun t nt => pair_new B (Kp.refl _ _) [x] [] n1 n2 nt q⟩⟩⟩
  rw [if_neg (by simpa using h1)] at q
  refine ⟨_, rfl, rfl, _, rfl, iteNm hk 3 (h1 := fun h2 => ?_) (h2 := fun h2 => ?_)⟩
  · rw [if_pos h2] at q
    exact ⟨s0, fun l1 n1 => ⟨_, rfl, s1, fun l2 n2 => ⟨s2, fun t nt => pair_new B (Kp.refl _ _) [] [x] n1 n2 nt q⟩⟩⟩
  rw [if_neg h2] at q
  refine ⟨_, rfl, rfl, _, rfl, iteNm hk 8 (h1 := fun h3 => ?_) (h2 := fun h3 => ?_)⟩
  · rw [if_pos h3] at q
    exact ⟨_, rfl, _, rfl, _, _, _, _, _, rfl, B.ob, T.k_Board, T.n_Board_registers, BoardF_registers, _, _, rfl, B.get_b, _, _, rfl, rfl, s1, fun l1 n1 => ⟨s0, fun l2 n2 => ⟨s2, fun t nt => pair_new B (Kp.refl _ _) [x + D.b] [] n1 n2 nt q⟩⟩⟩
  rw [if_neg h3] at q
  refine ⟨_, rfl, rfl, _, rfl, iteNm hk 9 (h1 := fun h4 => ?_) (h2 := fun h4 => ?_)⟩
  · rw [if_pos h4] at q
    refine ⟨s0, fun l1 n1 => ?_⟩
    have B1 : BoardAt K _ A D := B.new (o := .lst (([] : List Int).map V.int)) n1
    exact ⟨_, rfl, _, rfl, _, _, _, _, _, rfl, B1.ob, T.k_Board, T.n_Board_registers, BoardF_registers, _, _, rfl, B1.get_b, _, _, rfl, rfl, s1, fun l2 n2 => ⟨s2, fun t nt => pair_new B (Kp.refl _ _) [] [x + D.b] n1 n2 nt q⟩⟩
  rw [if_neg h4] at q
  refine ⟨_, rfl, s2, fun u1 nu1 => ⟨_, _, rfl, .inr (SqT.of upd_same), rfl, rfl, _, rfl, iteIn hk _ [15, 17] (by decide +kernel) (fun h5 => ?_) (fun h5 => ?_)⟩⟩
  · rw [if_pos (by simpa using h5)] at q
    exact ⟨s0, fun l1 n1 => ⟨_, rfl, s1, fun l2 n2 => ⟨s2, fun t nt => pair_new (B.new nu1) (Kp.new nu1) [] [D.sp] n1 n2 nt q⟩⟩⟩
  rw [if_neg (by simpa using h5)] at q
  have B1 : BoardAt K _ A D := B.new (o := .tup [.str "call", .str "push"]) nu1
  have k1 : Kp A.own A.own H _ := Kp.new (o := .tup [.str "call", .str "push"]) nu1
  refine ⟨_, rfl, s2, fun u2 nu2 => ⟨_, _, rfl, .inr (SqT.of upd_same), rfl, rfl, _, rfl, iteIn hk _ [16, 18] (by decide +kernel) (fun h6 => ?_) (fun h6 => ?_)⟩⟩
  · rw [if_pos (by simpa using h6)] at q
    exact ⟨_, rfl, _, _, rfl, rfl, s1, fun l1 n1 => ⟨s0, fun l2 n2 => ⟨s2, fun t nt => pair_new (B1.new nu2) (k1.trans (Kp.new nu2)) [D.sp + 1] [] n1 n2 nt q⟩⟩⟩
  rw [if_neg (by simpa using h6)] at q
  have B2 : BoardAt K _ A D := B1.new (o := .tup [.str "ret", .str "pop"]) nu2
  have k2 : Kp A.own A.own H _ := k1.trans (Kp.new (o := .tup [.str "ret", .str "pop"]) nu2)
  refine ⟨_, rfl, rfl, _, rfl, iteNm hk 21 (h1 := fun h7 => ?_) (h2 := fun h7 => ?_)⟩
  · rw [if_pos h7] at q
    exact ⟨_, rfl, _, _, rfl, rfl, _, rfl, _, _, rfl, rfl, s2, fun l1 n1 => ⟨s0, fun l2 n2 => ⟨s2, fun t nt => pair_new B2 k2 [D.sp + 1, D.sp + 2] [] n1 n2 nt q⟩⟩⟩
  · rw [if_neg h7] at q
    exact ⟨s0, fun l1 n1 => ⟨s0, fun l2 n2 => ⟨s2, fun t nt => pair_new B2 k2 [] [] n1 n2 nt q⟩⟩⟩
def sp_Board_bar_of (K : PySem.W.Frag) : Sp := fun vs H Q _ => ∃ (A : BA) (D : BD) (l1 l2 : Addr) (r p : List Int), vs = [.ref A.p, .ref l1, .ref l2] ∧ (BoardAt K H A D ∧ H l1 = some (.lst (r.map V.int)) ∧ H l2 = some (.lst (p.map V.int)) ∧ ∀ H' v, Kp A.own A.own H H' → BoardAt K H' A D → (match barOf D.m D.pc r p with | none => v = V.non | some xs => ∃ t, v = .ref t ∧ H' t = some (.tup xs)) → Q v H')
abbrev N_Board_bar_of : List Str := ["self", "reads", "puts", "address", "bar"]
theorem sc_Board_bar_of : FnScope N_Board_bar_of ["self", "reads", "puts"] (defScope s_Board_bar_of) := ⟨rfl, rfl, rfl, by decide +kernel, rfl, by decide +kernel, by decide +kernel⟩
theorem ok_Board_bar_of (T : Txt K mg) : Ok P w K mg base CX0 2 (He.fAd K ("Board", some "bar_of")) ["self", "reads", "puts"] (sp_Board_bar_of K) := by
  obtain ⟨_, G_Memory_word_at, b_Memory_word_at, kp_Memory_word_at⟩ := ok_Memory_word_at (P := P) (w := w) (base := base) T
  obtain ⟨_, G_Memory_bar_to, b_Memory_bar_to, kp_Memory_bar_to⟩ := ok_Memory_bar_to (P := P) (w := w) (base := base) T
  obtain ⟨fd, F⟩ := T.d_Board_bar_of
  refine ⟨fd, F.ok sc_Board_bar_of (fun vs H Q E h => by obtain ⟨A, D, l1, l2, r, p, rfl, _⟩ := h; rfl) (fun cdv A_ outer s_ H vs Q E hr h => ?_), F.bindsN (fun _ _ _ _ _ _ us hl => match us, hl with | [_, _, _], _ => rfl), F.kp⟩
  obtain ⟨A, D, l1, l2, r, p, rfl, h⟩ := h
  have hu := hu_of hr
  refine ⟨_, PSs.nox (pss_cons (ps_for PassesOwn.never rfl (pi_list (pv 1)) (pg_name (i := 3) sc_Board_bar_of.nd rfl (.inl rfl)) (pss_one (ps_if (pt_cmpR op_isN (pe_meth (pe_fld (pv 0) rfl) T.k_Memory T.m_Memory_word_at G_Memory_word_at (hr.mono (by decide)) b_Memory_word_at .nil pass0 (pa_cons (pv 3) pa_nil)) pe_non (nomark _)) (pss_one (ps_ret (pe_tup (pa_cons pe_str (pa_cons (pe_dget hu (pe_fld (pv 0) rfl) pe_str (fun _ _ => rfl)) (pa_cons (pv 3) pa_nil)))))) pss_nil)))
  (pss_cons (ps_for PassesOwn.never rfl (pi_list (pv 2)) (pg_name (i := 3) sc_Board_bar_of.nd rfl (.inl rfl)) (pss_cons (ps_set (i := 4) sc_Board_bar_of.nd rfl (.inl rfl) (pe_meth (pe_fld (pv 0) rfl) T.k_Memory T.m_Memory_bar_to G_Memory_bar_to (hr.mono (by decide)) b_Memory_bar_to .nil pass0 (pa_cons (pv 3) pa_nil)))
    (pss_one (ps_if (pt_cmpR op_notN (pv 4) pe_non (nomark _)) (pss_one (ps_ret (pe_tup (pa_cons (pv 4) (pa_cons (pe_dget hu (pe_fld (pv 0) rfl) pe_str (fun _ _ => rfl)) (pa_cons (pv 3) pa_nil)))))) pss_nil))))
  (pss_one (ps_ret pe_non)))), ?_⟩
  obtain ⟨B, h1, h2, q⟩ := h
  have s3 : 3 ≤ sizeLine := by decide
  unfold barOf at q
  refine ⟨_, rfl, _, rfl, ⟨_, SqL.of h1⟩, for_list (K := K) (a := l1) (xs := r.map V.int) (fun i σ H' => ∃ v, σ = [some (.ref A.p), some (.ref l1), some (.ref l2), v, none] ∧ H' = H ∧ barR D.m D.pc r = barR D.m D.pc (r.drop i)) ⟨_, rfl, rfl, rfl⟩ (fun i σ H' _ ⟨_, _, e, _⟩ => by rw [e]; exact SqL.of h1) ?_ ?_⟩
  · rintro i y σ H1 hi ⟨v, rfl, rfl, e⟩
    rw [List.getElem?_map] at hi
    cases hz : r[i]? with
    | none => rw [hz] at hi; cases hi
    | some z =>
      rw [hz] at hi
      have ey : y = .int z := (Option.some.inj hi).symm
      subst ey
      have hil := (List.getElem?_eq_some_iff.mp hz).1
      have ed : r.drop i = z :: r.drop (i + 1) := by
        rw [List.drop_eq_getElem_cons hil]
        congr 1
        exact (List.getElem?_eq_some_iff.mp hz).2
      rw [ed, show barR D.m D.pc (z :: r.drop (i + 1)) = if (D.m.at z).isNone = true then some [.str "far", .int D.pc, .int z] else barR D.m D.pc (r.drop (i + 1)) from rfl] at e
      refine ⟨_, rfl, _, _, _, _, _, rfl, B.ob, T.k_Board, T.n_Board_memory, BoardF_memory, _, _, _, rfl, B.mem.ob, (by kernel_rfl), _, rfl, _, _, _, rfl, B.mem, rfl, _, rfl, iteOptI (fun g => ?_) (fun n g => ?_)⟩
      · rw [g, if_pos (show (none : Option Int).isNone = true from rfl)] at e
        rw [e] at q
        refine ⟨_, rfl, _, _, _, _, _, rfl, B.ob, T.k_Board, T.n_Board_registers, BoardF_registers, _, _, rfl, B.get_pc, _, rfl, s3, fun t nt => ?_⟩
        exact q _ _ (Kp.new nt) (B.new nt) ⟨t, rfl, upd_same⟩
      · rw [g, if_neg (by simp)] at e
        exact ⟨_, rfl, rfl, e⟩
  · rintro σ H1 ⟨v, rfl, rfl, e⟩
    rw [List.length_map, List.drop_length] at e
    rw [e, show barR D.m D.pc [] = none from rfl] at q
    refine ⟨_, rfl, _, rfl, ⟨_, SqL.of h2⟩, for_list (K := K) (a := l2) (xs := p.map V.int) (fun i σ H' => ∃ v u, σ = [some (.ref A.p), some (.ref l1), some (.ref l2), v, u] ∧ H' = H1 ∧ barP D.pc p = barP D.pc (p.drop i)) ⟨_, _, rfl, rfl, rfl⟩ (fun i σ H' _ ⟨_, _, _, e, _⟩ => by rw [e]; exact SqL.of h2) ?_ ?_⟩
    · rintro i y σ H2 hi ⟨v, u, rfl, rfl, e⟩
      rw [List.getElem?_map] at hi
      cases hz : p[i]? with
      | none => rw [hz] at hi; cases hi
      | some z =>
        rw [hz] at hi
        have ey : y = .int z := (Option.some.inj hi).symm
        subst ey
        have hil := (List.getElem?_eq_some_iff.mp hz).1
        have ed : p.drop i = z :: p.drop (i + 1) := by
          rw [List.drop_eq_getElem_cons hil]
          congr 1
          exact (List.getElem?_eq_some_iff.mp hz).2
        rw [ed, show barP D.pc (z :: p.drop (i + 1)) = match barTo z with | some b => some [.str b.s, .int D.pc, .int z] | none => barP D.pc (p.drop (i + 1)) from rfl] at e
        refine ⟨_, rfl, _, _, _, _, _, rfl, B.ob, T.k_Board, T.n_Board_memory, BoardF_memory, _, _, _, rfl, B.mem.ob, (by kernel_rfl), _, rfl, _, _, rfl, ⟨_, B.mem⟩, ?_⟩
        refine ⟨_, rfl, rfl, _, rfl, iteOptN (fun b g => ?_) (fun g => ?_)⟩
        · rw [g] at e
          simp only [] at e
          rw [e] at q
          refine ⟨_, rfl, _, rfl, _, _, _, _, _, rfl, B.ob, T.k_Board, T.n_Board_registers, BoardF_registers, _, _, rfl, B.get_pc, _, rfl, s3, fun t nt => ?_⟩
          exact q _ _ (Kp.new nt) (B.new nt) ⟨t, rfl, by rw [g]; exact upd_same⟩
        · rw [g] at e
          exact ⟨_, _, rfl, rfl, e⟩
    · rintro σ H2 ⟨v, u, rfl, rfl, e⟩
      rw [List.length_map, List.drop_length] at e
      rw [e, show barP D.pc [] = none from rfl] at q
      exact q _ _ (Kp.refl _ _) B rfl
end

theorem BoardAt.as {K : PySem.W.Frag} {H : Hp} {A1 : BA} {D : BD} {p : Addr} (B : BoardAt K H A1 D) (e : A1.p = p) : BoardAt K H { A1 with p := p } D := by subst e; exact B
theorem Kp.as {S : List Addr} {H H' : Hp} {A1 : BA} {p : Addr} (k : Kp S A1.own H H') (e : A1.p = p) : Kp S ({ A1 with p := p } : BA).own H H' := by subst e; exact k
theorem decI {a b : Int} : decide (V.int a = V.int b) = decide (a = b) := by
  by_cases h : a = b
  · rw [decide_eq_true h, decide_eq_true (congrArg V.int h)]
  · rw [decide_eq_false h, decide_eq_false fun z => h (V.int.inj z)]
theorem at_last {ws : List Int} (h : ws ≠ []) : atI (ws.map V.int) (-1) = some (.int (ws.getLastD 0)) := by
  obtain ⟨r, y, rfl⟩ : ∃ r y, ws = r ++ [y] := ⟨_, _, (List.dropLast_concat_getLast h).symm⟩
  have e2 : (r ++ [y]).getLastD 0 = y := by rw [List.getLastD_eq_getLast?, List.getLast?_concat]; rfl
  rw [e2, List.map_append]
  exact atI_last (r.map V.int) (.int y)
theorem at_head {ws : List Int} (h : ws ≠ []) : atI (ws.map V.int) 0 = some (.int (ws.headD 0)) := by
  cases ws with
  | nil => exact absurd rfl h
  | cons x r => exact atI_nat (j := 0) rfl
section
variable {P : Program} {w : World} {K : PySem.W.Frag} {mg : Str → Option Value} {base : Heap}
def sp_Board_do_putting (K : PySem.W.Frag) : Sp := fun vs H Q _ => ∃ (A : BA) (D : BD) (k : Nat) (x i : Int), vs = [.ref A.p, .str (nameS k), .int x, .int i] ∧ (BoardAt K H A D ∧ k < 23 ∧ barTo i = none ∧ D.tc.length < 1000 ∧ D.sent.length < 1000000 ∧ ∀ H' A', BoardAt K H' A' (D.putting k x i) → A'.p = A.p → Kp A.own A'.own H H' → Q .non H')
abbrev N_Board_do_putting : List Str := ["self", "name", "part", "address"]
theorem sc_Board_do_putting : FnScope N_Board_do_putting ["self", "name", "part", "address"] (defScope s_Board_do_putting) := ⟨rfl, rfl, rfl, by decide +kernel, rfl, by decide +kernel, by decide +kernel⟩
theorem ok_Board_do_putting (T : Txt K mg) : Ok P w K mg base CX0 3 (He.fAd K ("Board", some "do_putting")) ["self", "name", "part", "address"] (sp_Board_do_putting K) := by
  obtain ⟨_, G_Board_store, b_Board_store, kp_Board_store⟩ := ok_Board_store (P := P) (w := w) (base := base) T
  obtain ⟨fd, F⟩ := T.d_Board_do_putting
  refine ⟨fd, F.ok sc_Board_do_putting (fun vs H Q E h => by obtain ⟨A, D, k, x, i, rfl, _⟩ := h; rfl) (fun cdv A_ outer s_ H vs Q E hr h => ?_), F.bindsN (fun _ _ _ _ _ _ us hl => match us, hl with | [_, _, _, _], _ => rfl), F.kp⟩
  obtain ⟨A, D, k, x, i, rfl, h⟩ := h
  have hu := hu_of hr
  refine ⟨_, PSs.nox (C8.pss_cut (ps_if (pt_cmpR op_eq (pv 1) pe_str (nomark _)) (pss_cons (ps_expr (pe_meth (pv 0) T.k_Board T.m_Board_store G_Board_store (hr.mono (by decide)) b_Board_store .nil pass0 (pa_cons (pv 3) (pa_cons (pe_dget hu (pe_fld (pv 0) rfl) pe_str (fun _ _ => rfl)) pa_nil))))
    (pss_one (ps_dput hu (pe_fld (pv 0) rfl) pe_str (pv 2) rfl))) (pss_one (ps_expr (pe_meth (pv 0) T.k_Board T.m_Board_store G_Board_store (hr.mono (by decide)) b_Board_store .nil pass0 (pa_cons (pv 3) (pa_cons (pe_dget hu (pe_fld (pv 0) rfl) pe_str (fun _ _ => rfl)) pa_nil))))))
  (pss_one (ps_if (pt_cmpR op_in_seq (pv 1) (pe_tup (pa_cons pe_str (pa_cons pe_str pa_nil))) (by rfl)) (pss_one (ps_dput hu (pe_fld (pv 0) rfl) pe_str (pe_op op_sub (pv 3) pe_int) rfl)) pss_nil))), ?_⟩
  obtain ⟨B, hk, hb, hl, hs, q⟩ := h
  have s2 : 2 ≤ sizeLine := by decide
  unfold BD.putting at q
  refine ⟨fun σ' H1 => σ' = [some (.ref A.p), some (.str (nameS k)), some (.int x), some (.int i)] ∧ ∃ A1 : BA, A1.p = A.p ∧ BoardAt K H1 A1 (if k = 15 then { D.store i D.pc with pc := x } else D.store i D.a) ∧ Kp A.own A1.own H H1, ?_, ?_⟩
  · refine ⟨_, rfl, rfl, _, rfl, iteNm hk 15 (h1 := fun h1 => ?_) (h2 := fun h1 => ?_)⟩
    · refine ⟨_, rfl, _, _, _, rfl, B.ob, (by kernel_rfl), _, rfl, _, rfl, _, _, _, _, _, rfl, B.ob, T.k_Board, T.n_Board_registers, BoardF_registers, _, _, rfl, B.get_pc, _, _, _, _, rfl, B, hb, hl, hs, fun H1 A1 B1 e1 k1 => ?_⟩
      replace B1 := B1.as e1
      replace k1 := k1.as e1
      refine ⟨_, rfl, _, rfl, _, _, _, _, _, rfl, B1.ob, T.k_Board, T.n_Board_registers, BoardF_registers, _, _, rfl, B1.put_pc _, B1.goRg fun H2 B2 k2 => ?_⟩
      rw [if_pos h1]
      exact ⟨rfl, { A1 with p := A.p }, rfl, B2, k1.trans k2⟩
    · refine ⟨_, rfl, _, _, _, rfl, B.ob, (by kernel_rfl), _, rfl, _, rfl, _, _, _, _, _, rfl, B.ob, T.k_Board, T.n_Board_registers, BoardF_registers, _, _, rfl, B.get_a, _, _, _, _, rfl, B, hb, hl, hs, fun H1 A1 B1 e1 k1 => ?_⟩
      rw [if_neg h1]
      exact ⟨rfl, A1, e1, B1, k1⟩
  · rintro σ' H1 ⟨rfl, A1, e1, B1, k1⟩
    replace B1 := B1.as e1
    replace k1 := k1.as e1
    refine ⟨_, rfl, s2, fun u1 nu1 => ⟨_, _, rfl, .inr (SqT.of upd_same), rfl, rfl, _, rfl, iteIn hk _ [15, 17] (by decide +kernel) (fun h5 => ?_) (fun h5 => ?_)⟩⟩
    · rw [if_pos (c := k = 15 ∨ k = 17) (by simpa using h5)] at q
      have B2 := B1.new (o := .tup [.str "call", .str "push"]) nu1
      have k2 := Kp.new (S := ({ A1 with p := A.p } : BA).own) (o := .tup [.str "call", .str "push"]) nu1
      refine ⟨_, rfl, _, _, rfl, rfl, _, rfl, _, _, _, _, _, rfl, B2.ob, T.k_Board, T.n_Board_registers, BoardF_registers, _, _, rfl, B2.put_sp _, B2.goRg fun H3 B3 k3 => ?_⟩
      exact q _ _ B3 rfl (k1.trans (k2.trans k3))
    · rw [if_neg (c := k = 15 ∨ k = 17) (by simpa using h5)] at q
      exact q _ _ (B1.new (o := .tup [.str "call", .str "push"]) nu1) rfl (k1.trans (Kp.new nu1))
def sp_Board_do_returning (K : PySem.W.Frag) : Sp := fun vs H Q _ => ∃ (A : BA) (D : BD) (k : Nat) (l : Addr) (ws : List Int), vs = [.ref A.p, .str (nameS k), .ref l] ∧ (BoardAt K H A D ∧ k < 23 ∧ H l = some (.lst (ws.map V.int)) ∧ l ∉ A.own ∧ ws ≠ [] ∧ ∀ H', BoardAt K H' A (D.returning k ws) → Kp A.own A.own H H' → Q .non H')
abbrev N_Board_do_returning : List Str := ["self", "name", "words"]
theorem sc_Board_do_returning : FnScope N_Board_do_returning ["self", "name", "words"] (defScope s_Board_do_returning) := ⟨rfl, rfl, rfl, by decide +kernel, rfl, by decide +kernel, by decide +kernel⟩
theorem ok_Board_do_returning (T : Txt K mg) : Ok P w K mg base CX0 1 (He.fAd K ("Board", some "do_returning")) ["self", "name", "words"] (sp_Board_do_returning K) := by
  obtain ⟨fd, F⟩ := T.d_Board_do_returning
  refine ⟨fd, F.ok sc_Board_do_returning (fun vs H Q E h => by obtain ⟨A, D, k, l, ws, rfl, _⟩ := h; rfl) (fun cdv A_ outer s_ H vs Q E hr h => ?_), F.bindsN (fun _ _ _ _ _ _ us hl => match us, hl with | [_, _, _], _ => rfl), F.kp⟩
  obtain ⟨A, D, k, l, ws, rfl, h⟩ := h
  have hu := hu_of hr
  refine ⟨_, PSs.nox (pss_cons (ps_dput hu (pe_fld (pv 0) rfl) pe_str (pe_op op_add (pe_dget hu (pe_fld (pv 0) rfl) pe_str (fun _ _ => rfl)) (pe_callB call_len_seq (by rfl) T.f_len PySem.boot_len (pa_cons (pv 2) pa_nil))) rfl)
  (pss_cons (ps_dput hu (pe_fld (pv 0) rfl) pe_str (pe_ix ix_list (pv 2) (pe_un un_neg pe_int) (fun _ _ => rfl)) rfl)
  (pss_one (ps_if (pt_cmpR op_eq (pv 1) pe_str (nomark _)) (pss_cons (ps_fld (pv 0) (pe_cmpR op_eq (pe_op op_mod (pe_ix ix_list (pv 2) pe_int (fun _ _ => rfl)) pe_int) pe_int (nomark _)) rfl)
    (pss_one (ps_fld (pv 0) pe_bl rfl))) pss_nil)))), ?_⟩
  obtain ⟨B, hk, hl, nl, hw, q⟩ := h
  unfold BD.returning at q
  refine ⟨_, rfl, _, _, _, _, _, rfl, B.ob, T.k_Board, T.n_Board_registers, BoardF_registers, _, _, rfl, B.get_sp, _, rfl, _, _, rfl, .inl (SqL.of hl), _, _, rfl, rfl, _, rfl, _, _, _, _, _, rfl, B.ob, T.k_Board, T.n_Board_registers, BoardF_registers, _, _, rfl, B.put_sp _, B.goRg fun H1 B1 k1 => ?_⟩
  have hl1 := k1.kept _ _ hl nl
  refine ⟨_, rfl, _, rfl, _, _, _, _, rfl, rfl, SqL.of hl1, at_last hw, _, rfl, _, _, _, _, _, rfl, B1.ob, T.k_Board, T.n_Board_registers, BoardF_registers, _, _, rfl, B1.put_pc _, B1.goRg fun H2 B2 k2 => ?_⟩
  have hl2 := k2.kept _ _ hl1 nl
  have ez : ((ws.map V.int).length : Int) = (ws.length : Int) := by rw [List.length_map]
  rw [ez] at B2
  refine ⟨_, rfl, rfl, _, rfl, iteNm hk 21 (h1 := fun h1 => ?_) (h2 := fun h1 => ?_)⟩
  · rw [if_pos h1] at q
    refine ⟨_, rfl, _, _, _, _, rfl, rfl, SqL.of hl2, at_head hw, _, _, rfl, rfl, (by show (0 : Int) < 2; decide), rfl, _, rfl, _, _, _, _, rfl, B2.ob, T.k_Board, T.n_Board_zero, BoardF_len, B2.goZero fun H3 B3 k3 => ?_⟩
    refine ⟨_, rfl, _, _, _, _, rfl, B3.ob, T.k_Board, T.n_Board_lets, BoardF_len, B3.goLets fun H4 B4 k4 => ?_⟩
    rw [decI] at B4
    exact q _ B4 (k1.trans (k2.trans (k3.trans k4)))
  · rw [if_neg h1] at q
    exact q _ B2 (k1.trans k2)
def sp_Board_do_reckoning (K : PySem.W.Frag) : Sp := fun vs H Q _ => ∃ (A : BA) (D : BD) (k : Nat) (x : Int) (l : Addr) (ws : List Int), vs = [.ref A.p, .str (nameS k), .int x, .ref l] ∧ (BoardAt K H A D ∧ k < 23 ∧ H l = some (.lst (ws.map V.int)) ∧ l ∉ A.own ∧ (k ∈ [2, 8, 18, 4, 5, 6, 7] → ws ≠ []) ∧ ∀ H', BoardAt K H' A (D.reckoning k x ws) → Kp A.own A.own H H' → Q .non H')
abbrev N_Board_do_reckoning : List Str := ["self", "name", "part", "words", "a"]
theorem sc_Board_do_reckoning : FnScope N_Board_do_reckoning ["self", "name", "part", "words"] (defScope s_Board_do_reckoning) := ⟨rfl, rfl, rfl, by decide +kernel, rfl, by decide +kernel, by decide +kernel⟩
theorem ok_Board_do_reckoning (T : Txt K mg) : Ok P w K mg base CX0 1 (He.fAd K ("Board", some "do_reckoning")) ["self", "name", "part", "words"] (sp_Board_do_reckoning K) := by
  obtain ⟨fd, F⟩ := T.d_Board_do_reckoning
  refine ⟨fd, F.ok sc_Board_do_reckoning (fun vs H Q E h => by obtain ⟨A, D, k, x, l, ws, rfl, _⟩ := h; rfl) (fun cdv A_ outer s_ H vs Q E hr h => ?_), F.bindsN (fun _ _ _ _ _ _ us hl => match us, hl with | [_, _, _, _], _ => rfl), F.kp⟩
  obtain ⟨A, D, k, x, l, ws, rfl, h⟩ := h
  have hu := hu_of hr
  refine ⟨_, PSs.nox (pss_cons (ps_set (i := 4) sc_Board_do_reckoning.nd rfl (.inl rfl) (pe_dget hu (pe_fld (pv 0) rfl) pe_str (fun _ _ => rfl)))
  (C8.pss_cut (ps_if (pt_cmpR op_eq (pv 1) pe_str (nomark _)) (pss_one (ps_set (i := 4) sc_Board_do_reckoning.nd rfl (.inl rfl) (pv 2))) (pss_one (ps_if (pt_cmpR op_in_seq (pv 1) (pe_tup (pa_cons pe_str (pa_cons pe_str (pa_cons pe_str pa_nil)))) (by rfl)) (pss_one (ps_set (i := 4) sc_Board_do_reckoning.nd rfl (.inl rfl) (pe_ix ix_list (pv 3) pe_int (fun _ _ => rfl)))) (pss_one (ps_if (pt_cmpR op_eq (pv 1) pe_str (nomark _)) (pss_one (ps_set (i := 4) sc_Board_do_reckoning.nd rfl (.inl rfl) (pe_op op_mod (pe_op op_add (pv 4) (pe_ix ix_list (pv 3) pe_int (fun _ _ => rfl))) pe_int))) (pss_one (ps_if (pt_cmpR op_eq (pv 1) pe_str (nomark _)) (pss_one (ps_set (i := 4) sc_Board_do_reckoning.nd rfl (.inl rfl) (pe_op op_mod (pe_op op_sub (pv 4) (pe_ix ix_list (pv 3) pe_int (fun _ _ => rfl))) pe_int))) (pss_one (ps_if (pt_cmpR op_eq (pv 1) pe_str (nomark _)) (pss_one (ps_set (i := 4) sc_Board_do_reckoning.nd rfl (.inl rfl) (pe_op op_and (pv 4) (pe_ix ix_list (pv 3) pe_int (fun _ _ => rfl))))) (pss_one (ps_if (pt_cmpR op_eq (pv 1) pe_str (nomark _)) (pss_one (ps_set (i := 4) sc_Board_do_reckoning.nd rfl (.inl rfl) (pe_op op_xor (pv 4) (pe_ix ix_list (pv 3) pe_int (fun _ _ => rfl))))) (pss_one (ps_if (pt_cmpR op_eq (pv 1) pe_str (nomark _)) (pss_one (ps_set (i := 4) sc_Board_do_reckoning.nd rfl (.inl rfl) (pe_op op_fdiv (pv 4) pe_int))) (pss_cons (ps_set (i := 4) sc_Board_do_reckoning.nd rfl (.inl rfl) (pe_dget hu (pe_fld (pv 0) rfl) pe_str (fun _ _ => rfl)))
                (pss_one (ps_dput hu (pe_fld (pv 0) rfl) pe_str (pe_dget hu (pe_fld (pv 0) rfl) pe_str (fun _ _ => rfl)) rfl))))))))))))))))
  (pss_cons (ps_dput hu (pe_fld (pv 0) rfl) pe_str (pv 4) rfl)
  (pss_one (ps_if (pt_cmpR op_eq (pv 1) pe_str (nomark _)) (pss_one (ps_dput hu (pe_fld (pv 0) rfl) pe_str (pe_op op_add (pe_dget hu (pe_fld (pv 0) rfl) pe_str (fun _ _ => rfl)) pe_int) rfl)) pss_nil))))), ?_⟩
  obtain ⟨B, hk, hl, nl, hw, q⟩ := h
  have s3 : 3 ≤ sizeLine := by decide
  refine ⟨_, rfl, _, _, _, _, _, rfl, B.ob, T.k_Board, T.n_Board_registers, BoardF_registers, _, _, rfl, B.get_a, fun σ' H1 => σ' = [some (.ref A.p), some (.str (nameS k)), some (.int x), some (.ref l), some (.int (reckA k D.a D.b x (ws.headD 0)))] ∧ BoardAt K H1 A { D with b := if isSwap k = true then D.a else D.b } ∧ Kp A.own A.own H H1, ?_, ?_⟩
  · -- the ways
    have fin : ∀ (H1 : Hp) (z : Int), BoardAt K H1 A D → Kp A.own A.own H H1 → z = reckA k D.a D.b x (ws.headD 0) → isSwap k = false → ([some (.ref A.p), some (.str (nameS k)), some (.int x), some (.ref l), some (.int z)] : L2.St) = [some (.ref A.p), some (.str (nameS k)), some (.int x), some (.ref l), some (.int (reckA k D.a D.b x (ws.headD 0)))] ∧ BoardAt K H1 A { D with b := if isSwap k = true then D.a else D.b } ∧ Kp A.own A.own H H1 := by
      intro H1 z B1 k1 e1 e2
      rw [e1, e2]
      exact ⟨rfl, B1, k1⟩
    refine ⟨_, rfl, rfl, _, rfl, iteNm hk 1 (h1 := fun h1 => ?_) (h2 := fun h1 => ?_)⟩
    · exact ⟨_, rfl, fin _ _ B (Kp.refl _ _) (by rw [h1]; rfl) (by rw [h1]; rfl)⟩
    refine ⟨_, rfl, s3, fun u1 nu1 => ⟨_, _, rfl, .inr (SqT.of upd_same), rfl, rfl, _, rfl, iteIn hk _ [2, 8, 18] (by decide +kernel) (fun h2 => ?_) (fun h2 => ?_)⟩⟩
    · have hn : ws ≠ [] := hw (by simp at h2 ⊢; omega)
      refine ⟨_, rfl, _, _, _, _, rfl, rfl, SqL.of ?_, at_head hn, fin _ _ (B.new nu1) (Kp.new nu1) ?_ ?_⟩
      · rw [upd_ne (ne_of_none hl nu1)]; exact hl
      · simp only [List.mem_cons, List.not_mem_nil, or_false] at h2
        unfold reckA
        rw [if_neg h1, if_pos h2]
      · simp only [List.mem_cons, List.not_mem_nil, or_false] at h2
        rcases h2 with rfl | rfl | rfl <;> rfl
    have B1 : BoardAt K _ A D := B.new (o := .tup [.str "get", .str "getb", .str "pop"]) nu1
    have k1 : Kp A.own A.own H _ := Kp.new (o := .tup [.str "get", .str "getb", .str "pop"]) nu1
    have hl1 := k1.kept _ _ hl nl
    simp only [List.mem_cons, List.not_mem_nil, or_false, not_or] at h2
    refine ⟨_, rfl, rfl, _, rfl, iteNm hk 4 (h1 := fun h3 => ?_) (h2 := fun h3 => ?_)⟩
    · refine ⟨_, rfl, _, rfl, _, _, _, _, rfl, rfl, SqL.of hl1, at_head (hw (by simp [h3])), _, _, rfl, rfl, _, _, rfl, rfl, (by show (0 : Int) < 65536; decide), fin _ _ B1 k1 (by rw [h3]; rfl) (by rw [h3]; rfl)⟩
    refine ⟨_, rfl, rfl, _, rfl, iteNm hk 5 (h1 := fun h4 => ?_) (h2 := fun h4 => ?_)⟩
    · refine ⟨_, rfl, _, rfl, _, _, _, _, rfl, rfl, SqL.of hl1, at_head (hw (by simp [h4])), _, _, rfl, rfl, _, _, rfl, rfl, (by show (0 : Int) < 65536; decide), fin _ _ B1 k1 (by rw [h4]; rfl) (by rw [h4]; rfl)⟩
    refine ⟨_, rfl, rfl, _, rfl, iteNm hk 6 (h1 := fun h5 => ?_) (h2 := fun h5 => ?_)⟩
    · refine ⟨_, rfl, _, rfl, _, _, _, _, rfl, rfl, SqL.of hl1, at_head (hw (by simp [h5])), _, _, rfl, rfl, fin _ _ B1 k1 (by rw [h5]; rfl) (by rw [h5]; rfl)⟩
    refine ⟨_, rfl, rfl, _, rfl, iteNm hk 7 (h1 := fun h6 => ?_) (h2 := fun h6 => ?_)⟩
    · refine ⟨_, rfl, _, rfl, _, _, _, _, rfl, rfl, SqL.of hl1, at_head (hw (by simp [h6])), _, _, rfl, rfl, fin _ _ B1 k1 (by rw [h6]; rfl) (by rw [h6]; rfl)⟩
    refine ⟨_, rfl, rfl, _, rfl, iteNm hk 22 (h1 := fun h7 => ?_) (h2 := fun h7 => ?_)⟩
    · refine ⟨_, rfl, _, _, rfl, rfl, ⟨by decide, by decide⟩, fin _ _ B1 k1 (by rw [h7]; rfl) (by rw [h7]; rfl)⟩
    have es : isSwap k = true := by
      unfold isSwap
      simp only [h1, h2, h3, h4, h5, h6, h7]
      rfl
    have ea : reckA k D.a D.b x (ws.headD 0) = D.b := by
      unfold reckA
      rw [if_neg h1, if_neg (by omega), if_neg h3, if_neg h4, if_neg h5, if_neg h6, if_neg h7]
    refine ⟨_, rfl, _, _, _, _, _, rfl, B1.ob, T.k_Board, T.n_Board_registers, BoardF_registers, _, _, rfl, B1.get_b, _, rfl, _, _, _, _, _, rfl, B1.ob, T.k_Board, T.n_Board_registers, BoardF_registers, _, _, rfl, B1.get_a, _, rfl, _, _, _, _, _, rfl, B1.ob, T.k_Board, T.n_Board_registers, BoardF_registers, _, _, rfl, B1.put_b _, B1.goRg fun H2 B2 k2 => ?_⟩
    rw [ea, es]
    exact ⟨rfl, B2, k1.trans k2⟩
  · rintro σ' H1 ⟨rfl, B1, k1⟩
    unfold BD.reckoning at q
    refine ⟨_, rfl, _, rfl, _, _, _, _, _, rfl, B1.ob, T.k_Board, T.n_Board_registers, BoardF_registers, _, _, rfl, B1.put_a _, B1.goRg fun H2 B2 k2 => ?_⟩
    refine ⟨_, rfl, rfl, _, rfl, iteNm hk 18 (h1 := fun h1 => ?_) (h2 := fun h1 => ?_)⟩
    · rw [if_pos h1] at q
      refine ⟨_, rfl, _, _, _, _, _, rfl, B2.ob, T.k_Board, T.n_Board_registers, BoardF_registers, _, _, rfl, B2.get_sp, _, _, rfl, rfl, _, rfl, _, _, _, _, _, rfl, B2.ob, T.k_Board, T.n_Board_registers, BoardF_registers, _, _, rfl, B2.put_sp _, B2.goRg fun H3 B3 k3 => ?_⟩
      exact q _ B3 (k1.trans (k2.trans k3))
    · rw [if_neg h1] at q
      exact q _ B2 (k1.trans k2)
end

theorem nameV_some {k : Nat} (h : k < 23) : nameV k = .str (nameS k) := if_pos h
theorem nameV_none {k : Nat} (h : ¬ k < 23) : nameV k = .non := if_neg h
theorem eqv_ne_nil (x : Int) (r : List Int) : PyData.eqv (.list ((x :: r).map PyData.int)) (.list ((([] : List Int)).map PyData.int)) = false := by
  rw [eqv_intL]; rfl
section
variable {P : Program} {w : World} {K : PySem.W.Frag} {mg : Str → Option Value} {base : Heap}
def sp_Board_do (K : PySem.W.Frag) : Sp := fun vs H Q _ => ∃ (A : BA) (D : BD) (k : Nat) (x : Int) (lw lp : Addr) (ws ps : List Int), vs = [.ref A.p, .str (nameS k), .int x, .ref lw, .ref lp] ∧ (BoardAt K H A D ∧ k < 23 ∧ H lw = some (.lst (ws.map V.int)) ∧ H lp = some (.lst (ps.map V.int)) ∧ lw ∉ A.own ∧ lp ∉ A.own ∧ (∀ i ∈ ps, barTo i = none) ∧ D.tc.length < 1000 ∧ D.sent.length < 1000000 ∧ (k ∈ [2, 8, 18, 4, 5, 6, 7] → ws ≠ []) ∧ (k = 16 ∨ k = 21 → ws ≠ []) ∧ ∀ H' A', BoardAt K H' A' (D.doing k x ws ps) → A'.p = A.p → Kp A.own A'.own H H' → Q .non H')
abbrev N_Board_do : List Str := ["self", "name", "part", "words", "puts"]
theorem sc_Board_do : FnScope N_Board_do ["self", "name", "part", "words", "puts"] (defScope s_Board_do) := ⟨rfl, rfl, rfl, by decide +kernel, rfl, by decide +kernel, by decide +kernel⟩
theorem ok_Board_do (T : Txt K mg) : Ok P w K mg base CX0 4 (He.fAd K ("Board", some "do")) ["self", "name", "part", "words", "puts"] (sp_Board_do K) := by
  obtain ⟨_, G_Board_do_putting, b_Board_do_putting, kp_Board_do_putting⟩ := ok_Board_do_putting (P := P) (w := w) (base := base) T
  obtain ⟨_, G_Board_do_returning, b_Board_do_returning, kp_Board_do_returning⟩ := ok_Board_do_returning (P := P) (w := w) (base := base) T
  obtain ⟨_, G_Board_do_reckoning, b_Board_do_reckoning, kp_Board_do_reckoning⟩ := ok_Board_do_reckoning (P := P) (w := w) (base := base) T
  obtain ⟨fd, F⟩ := T.d_Board_do
  refine ⟨fd, F.ok sc_Board_do (fun vs H Q E h => by obtain ⟨A, D, k, x, lw, lp, ws, ps, rfl, _⟩ := h; rfl) (fun cdv A_ outer s_ H vs Q E hr h => ?_), F.bindsN (fun _ _ _ _ _ _ us hl => match us, hl with | [_, _, _, _, _], _ => rfl), F.kp⟩
  obtain ⟨A, D, k, x, lw, lp, ws, ps, rfl, h⟩ := h
  have hu := hu_of hr
  refine ⟨_, PSs.nox (pss_one (ps_if (pt_cmpR (op_neD hr.units) (pv 4) (pe_lst pa_nil) (nomark _)) (pss_one (ps_expr (pe_meth (pv 0) T.k_Board T.m_Board_do_putting G_Board_do_putting (hr.mono (by decide)) b_Board_do_putting .nil pass0 (pa_cons (pv 1) (pa_cons (pv 2) (pa_cons (pe_ix ix_list (pv 4) pe_int (fun _ _ => rfl)) pa_nil)))))) (pss_one (ps_if (pt_cmpR op_in_seq (pv 1) (pe_tup (pa_cons pe_str (pa_cons pe_str (pa_cons pe_str pa_nil)))) (by rfl)) (pss_one (ps_if (PW.pt (pw_or (pt_cmpR op_eq (pv 1) pe_str (nomark _)) (pw_or (PW.pt (pw_and (pt_cmpR op_eq (pv 1) pe_str (nomark _)) (pw_and1 (pt_val (pe_fld (pv 0) rfl))))) (pw_or1 (PW.pt (pw_and (pt_cmpR op_eq (pv 1) pe_str (nomark _)) (pw_and1 (pt_cmpR op_ge (pe_dget hu (pe_fld (pv 0) rfl) pe_str (fun _ _ => rfl)) pe_int (nomark _))))))))) (pss_one (ps_dput hu (pe_fld (pv 0) rfl) pe_str (pv 2) rfl)) pss_nil)) (pss_one (ps_if (pt_cmpR op_in_seq (pv 1) (pe_tup (pa_cons pe_str (pa_cons pe_str pa_nil))) (by rfl)) (pss_one (ps_expr (pe_meth (pv 0) T.k_Board T.m_Board_do_returning G_Board_do_returning (hr.mono (by decide)) b_Board_do_returning .nil pass0 (pa_cons (pv 1) (pa_cons (pv 3) pa_nil))))) (pss_one (ps_if (pt_cmpR op_eq (pv 1) pe_str (nomark _)) (pss_one (ps_dput hu (pe_fld (pv 0) rfl) pe_str (pe_dget hu (pe_fld (pv 0) rfl) pe_str (fun _ _ => rfl)) rfl)) (pss_one (ps_if (pt_cmpR op_eq (pv 1) pe_str (nomark _)) (pss_one (ps_fld (pv 0) pe_bl rfl)) (pss_one (ps_if (pt_cmpR op_eq (pv 1) pe_str (nomark _)) (pss_one (ps_fld (pv 0) (pe_cmpR op_eq (pe_op op_mod (pv 2) pe_int) pe_int (nomark _)) rfl)) (pss_cons (ps_expr (pe_meth (pv 0) T.k_Board T.m_Board_do_reckoning G_Board_do_reckoning (hr.mono (by decide)) b_Board_do_reckoning .nil pass0 (pa_cons (pv 1) (pa_cons (pv 2) (pa_cons (pv 3) pa_nil)))))
              (pss_one (ps_fld (pv 0) (pe_cmpR op_eq (pe_dget hu (pe_fld (pv 0) rfl) pe_str (fun _ _ => rfl)) pe_int (nomark _)) rfl))))))))))))))), ?_⟩
  obtain ⟨B, hk, hlw, hlp, nlw, nlp, hb, hl, hs, hw1, hw2, q⟩ := h
  have s0 : 0 ≤ sizeLine := by decide
  have s2 : 2 ≤ sizeLine := by decide
  have s3 : 3 ≤ sizeLine := by decide
  refine ⟨_, rfl, s0, fun e0 ne0 => ⟨_, _, dpL (SqL.of (by rw [upd_ne (ne_of_none hlp ne0)]; exact hlp)), dpL (xs := []) (SqL.of upd_same), shp_ints _, shp_ints _, _, rfl, ?_⟩⟩
  have B0 : BoardAt K _ A D := B.new (o := .lst []) ne0
  have k0 : Kp A.own A.own H _ := Kp.new (o := .lst []) ne0
  have hlw0 := k0.kept _ _ hlw nlw
  have hlp0 := k0.kept _ _ hlp nlp
  cases ps with
  | cons i r =>
    rw [eqv_ne_nil]
    refine iteT ?_
    refine ⟨_, rfl, _, _, _, rfl, B0.ob, (by kernel_rfl), _, rfl, _, rfl, _, rfl, _, _, _, _, rfl, rfl, SqL.of hlp0, at_head (by simp), _, _, _, _, _, rfl, B0, hk, hb i (by simp), hl, hs, fun H1 A1 B1 e1 k1 => ?_⟩
    exact q _ _ B1 e1 (k0.trans k1)
  | nil =>
    rw [eqv_intL]
    refine iteF ?_
    unfold BD.doing at q
    simp only [] at q
    refine ⟨_, rfl, s3, fun u1 nu1 => ⟨_, _, rfl, .inr (SqT.of upd_same), rfl, rfl, _, rfl, iteIn hk _ [12, 13, 14] (by decide +kernel) (fun h2 => ?_) (fun h2 => ?_)⟩⟩
    · rw [if_pos (c := k = 12 ∨ k = 13 ∨ k = 14) (by simpa using h2)] at q
      have B1 : BoardAt K _ A D := B0.new (o := .tup [.str "go", .str "ifz", .str "ifn"]) nu1
      have k1 : Kp A.own A.own H _ := k0.trans (Kp.new (o := .tup [.str "go", .str "ifz", .str "ifn"]) nu1)
      have qT : (k = 12 ∨ (k = 13 ∧ D.zero = true) ∨ (k = 14 ∧ 32768 ≤ D.a)) → ∀ H1, BoardAt K H1 A { D with pc := x } → Kp A.own A.own H H1 → Q .non H1 := fun c H1 B2 k2 => by
        rw [if_pos c] at q; exact q _ _ B2 rfl k2
      have qF : ¬ (k = 12 ∨ (k = 13 ∧ D.zero = true) ∨ (k = 14 ∧ 32768 ≤ D.a)) → Q .non _ := fun c => by
        rw [if_neg c] at q; exact q _ _ B1 rfl k1
      refine ⟨_, rfl, rfl, _, rfl, iteNm hk 12 (h1 := fun c1 => iteT ?_) (h2 := fun c1 => ?_)⟩
      · exact ⟨_, rfl, _, rfl, _, _, _, _, _, rfl, B1.ob, T.k_Board, T.n_Board_registers, BoardF_registers, _, _, rfl, B1.put_pc _, B1.goRg fun H2 B2 k2 => qT (.inl c1) _ B2 (k1.trans k2)⟩
      refine ⟨_, rfl, rfl, _, rfl, iteNm hk 13 (h1 := fun c2 => ?_) (h2 := fun c2 => iteF ?_)⟩
      · refine ⟨_, rfl, _, _, _, _, _, rfl, B1.ob, T.k_Board, T.n_Board_zero, BoardF_zero, _, rfl, iteBo (fun c3 => iteT ?_) (fun c3 => ?_)⟩
        · exact ⟨_, rfl, _, rfl, _, _, _, _, _, rfl, B1.ob, T.k_Board, T.n_Board_registers, BoardF_registers, _, _, rfl, B1.put_pc _, B1.goRg fun H2 B2 k2 => qT (.inr (.inl ⟨c2, c3⟩)) _ B2 (k1.trans k2)⟩
        · refine ⟨_, rfl, rfl, _, rfl, iteNm hk 14 (h1 := fun c4 => ?_) (h2 := fun c4 => iteF ?_)⟩
          · exact absurd (c2.symm.trans c4) (by decide)
          · exact qF (by rintro (z | ⟨_, z⟩ | ⟨z, _⟩); exact c1 z; rw [c3] at z; cases z; exact c4 z)
      · refine ⟨_, rfl, rfl, _, rfl, iteNm hk 14 (h1 := fun c4 => ?_) (h2 := fun c4 => iteF ?_)⟩
        · refine ⟨_, rfl, _, _, _, _, _, rfl, B1.ob, T.k_Board, T.n_Board_registers, BoardF_registers, _, _, rfl, B1.get_a, _, _, rfl, rfl, _, rfl, iteD (fun c5 => ?_) (fun c5 => ?_)⟩
          · exact ⟨_, rfl, _, rfl, _, _, _, _, _, rfl, B1.ob, T.k_Board, T.n_Board_registers, BoardF_registers, _, _, rfl, B1.put_pc _, B1.goRg fun H2 B2 k2 => qT (.inr (.inr ⟨c4, c5⟩)) _ B2 (k1.trans k2)⟩
          · exact qF (by rintro (z | ⟨z, _⟩ | ⟨_, z⟩); exact c1 z; exact c2 z; exact c5 z)
        · exact qF (by rintro (z | ⟨z, _⟩ | ⟨z, _⟩); exact c1 z; exact c2 z; exact c4 z)
    rw [if_neg (c := k = 12 ∨ k = 13 ∨ k = 14) (by simpa using h2)] at q
    have B1 : BoardAt K _ A D := B0.new (o := .tup [.str "go", .str "ifz", .str "ifn"]) nu1
    have k1 : Kp A.own A.own H _ := k0.trans (Kp.new (o := .tup [.str "go", .str "ifz", .str "ifn"]) nu1)
    have hlw1 := k1.kept _ _ hlw nlw
    refine ⟨_, rfl, s2, fun u2 nu2 => ⟨_, _, rfl, .inr (SqT.of upd_same), rfl, rfl, _, rfl, iteIn hk _ [16, 21] (by decide +kernel) (fun h3 => ?_) (fun h3 => ?_)⟩⟩
    · have h3' : k = 16 ∨ k = 21 := by simpa using h3
      rw [if_pos h3'] at q
      have B2 : BoardAt K _ A D := B1.new (o := .tup [.str "ret", .str "back"]) nu2
      have k2 : Kp A.own A.own H _ := k1.trans (Kp.new (o := .tup [.str "ret", .str "back"]) nu2)
      have hlw2 := k2.kept _ _ hlw nlw
      exact ⟨_, rfl, _, _, _, rfl, B2.ob, (by kernel_rfl), _, rfl, _, rfl, _, _, _, _, _, rfl, B2, hk, hlw2, nlw, hw2 h3', fun H3 B3 k3 => q _ _ B3 rfl (k2.trans k3)⟩
    rw [if_neg (c := k = 16 ∨ k = 21) (by simpa using h3)] at q
    have B2 : BoardAt K _ A D := B1.new (o := .tup [.str "ret", .str "back"]) nu2
    have k2 : Kp A.own A.own H _ := k1.trans (Kp.new (o := .tup [.str "ret", .str "back"]) nu2)
    have hlw2 := k2.kept _ _ hlw nlw
    refine ⟨_, rfl, rfl, _, rfl, iteNm hk 10 (h1 := fun h4 => ?_) (h2 := fun h4 => ?_)⟩
    · rw [if_pos h4] at q
      exact ⟨_, rfl, _, _, _, _, _, rfl, B2.ob, T.k_Board, T.n_Board_registers, BoardF_registers, _, _, rfl, B2.get_a, _, rfl, _, _, _, _, _, rfl, B2.ob, T.k_Board, T.n_Board_registers, BoardF_registers, _, _, rfl, B2.put_b _, B2.goRg fun H3 B3 k3 => q _ _ B3 rfl (k2.trans k3)⟩
    rw [if_neg h4] at q
    refine ⟨_, rfl, rfl, _, rfl, iteNm hk 19 (h1 := fun h5 => ?_) (h2 := fun h5 => ?_)⟩
    · rw [if_pos h5] at q
      exact ⟨_, rfl, _, _, _, _, rfl, B2.ob, T.k_Board, T.n_Board_asleep, BoardF_len, B2.goAsleep fun H3 B3 k3 => q _ _ B3 rfl (k2.trans k3)⟩
    rw [if_neg h5] at q
    refine ⟨_, rfl, rfl, _, rfl, iteNm hk 20 (h1 := fun h6 => ?_) (h2 := fun h6 => ?_)⟩
    · rw [if_pos h6] at q
      rw [← decI] at q
      exact ⟨_, rfl, _, _, rfl, rfl, (by show (0 : Int) < 2; decide), rfl, _, rfl, _, _, _, _, rfl, B2.ob, T.k_Board, T.n_Board_lets, BoardF_len, B2.goLets fun H3 B3 k3 => q _ _ B3 rfl (k2.trans k3)⟩
    rw [if_neg h6] at q
    refine ⟨_, rfl, _, _, _, rfl, B2.ob, (by kernel_rfl), _, rfl, _, rfl, _, rfl, _, _, _, _, _, _, rfl, B2, hk, hlw2, nlw, hw1, fun H3 B3 k3 => ?_⟩
    rw [← decI] at q
    exact ⟨_, rfl, _, _, _, _, _, rfl, B3.ob, T.k_Board, T.n_Board_registers, BoardF_registers, _, _, rfl, B3.get_a, rfl, _, rfl, _, _, _, _, rfl, B3.ob, T.k_Board, T.n_Board_zero, BoardF_len, B3.goZero fun H4 B4 k4 => q _ _ B4 rfl (k2.trans (k3.trans k4))⟩
end

theorem barR_none {M : MD} {pc : Int} : ∀ {l : List Int}, barR M pc l = none → ∀ i ∈ l, ∃ n, M.at i = some n
  | [], _, i, hi => by cases hi
  | a :: r, h, i, hi => by
    rw [show barR M pc (a :: r) = if (M.at a).isNone = true then some [.str "far", .int pc, .int a] else barR M pc r from rfl] at h
    cases e : M.at a with
    | none => rw [e, if_pos (show (none : Option Int).isNone = true from rfl)] at h; cases h
    | some n =>
      rw [e, if_neg (by simp)] at h
      rcases List.mem_cons.mp hi with z | z
      · rw [z]; exact ⟨n, e⟩
      · exact barR_none h i z
theorem barP_none {pc : Int} : ∀ {l : List Int}, barP pc l = none → ∀ i ∈ l, barTo i = none
  | [], _, i, hi => by cases hi
  | a :: r, h, i, hi => by
    rw [show barP pc (a :: r) = match barTo a with | some b => some [.str b.s, .int pc, .int a] | none => barP pc r from rfl] at h
    cases e : barTo a with
    | some b => rw [e] at h; cases h
    | none =>
      rw [e] at h
      rcases List.mem_cons.mp hi with z | z
      · rw [z]; exact e
      · exact barP_none h i z
theorem barOf_none {M : MD} {pc : Int} {r p : List Int} (h : barOf M pc r p = none) : (∀ i ∈ r, ∃ n, M.at i = some n) ∧ ∀ i ∈ p, barTo i = none := by
  unfold barOf at h
  cases e : barR M pc r with
  | some c => rw [e] at h; cases h
  | none => rw [e] at h; exact ⟨barR_none e, barP_none h⟩
theorem BD.fetch_m (D : BD) (i : Int) : (D.fetch i).m = D.m := rfl
theorem BD.fetches_snoc : ∀ (D : BD) (l : List Int) (i : Int), D.fetches (l ++ [i]) = ((D.fetches l).1 ++ [(D.fetches l).2.fetchV i], (D.fetches l).2.fetch i)
  | D, [], i => rfl
  | D, a :: r, i => by
    show (D.fetchV a :: ((D.fetch a).fetches (r ++ [i])).1, ((D.fetch a).fetches (r ++ [i])).2) = _
    rw [BD.fetches_snoc (D.fetch a) r i]
    rfl
theorem BD.fetches_keep : ∀ (D : BD) (l : List Int), (D.fetches l).2.m = D.m ∧ (D.fetches l).2.sent = D.sent ∧ (D.fetches l).2.tc.length = D.tc.length + l.length ∧ (D.fetches l).1.length = l.length
  | D, [] => ⟨rfl, rfl, rfl, rfl⟩
  | D, a :: r => by
    obtain ⟨h1, h2, h3, h4⟩ := BD.fetches_keep (D.fetch a) r
    refine ⟨h1, h2, ?_, ?_⟩
    · show ((D.fetch a).fetches r).2.tc.length = _
      rw [h3, show (D.fetch a).tc = D.tc ++ [(("r" : Str), a)] from rfl, List.length_append]
      simp; omega
    · show (((D.fetch a).fetches r).1).length + 1 = r.length + 1
      rw [h4]
theorem addrs_len (k : Nat) (x b sp : Int) : (addrs k x b sp).1.length + (addrs k x b sp).2.length ≤ 2 := by
  unfold addrs
  repeat' split
  all_goals simp
theorem addrs_reads {k : Nat} {x b sp : Int} (h : k ∈ [2, 8, 18, 4, 5, 6, 7] ∨ k = 16 ∨ k = 21) : (addrs k x b sp).1 ≠ [] := by
  simp only [List.mem_cons, List.not_mem_nil, or_false] at h
  rcases h with (rfl | rfl | rfl | rfl | rfl | rfl | rfl) | rfl | rfl <;> (unfold addrs; simp)
abbrev BA.w (A1 : BA) (p : Addr) : BA := { A1 with p := p }
theorem Kp.cons {S S' : List Addr} {H H' : Hp} (k : Kp S S' H H') (L : Addr) : Kp (L :: S) (L :: S') H H' :=
  ⟨fun b o e n => k.kept b o e fun m => n (List.mem_cons_of_mem _ m), fun b m => by
    rcases List.mem_cons.mp m with z | z
    · rw [z]; exact .inl (by simp)
    · exact (k.own b z).imp (List.mem_cons_of_mem _) id, k.tups⟩
section
variable {P : Program} {w : World} {K : PySem.W.Frag} {mg : Str → Option Value} {base : Heap}
def sp_Board_deed (K : PySem.W.Frag) : Sp := fun vs H Q _ => ∃ (A : BA) (D : BD), vs = [.ref A.p] ∧ (BoardAt K H A D ∧ (∀ n, D.m.at D.pc = some n → 0 ≤ n) ∧ D.tc.length ≤ 100 ∧ D.sent.length ≤ 999000 ∧ ∀ H' A', BoardAt K H' A' D.deed.2 → A'.p = A.p → Kp A.own A'.own H H' → Q (.str D.deed.1) H')
abbrev N_Board_deed : List Str := ["self", "pc", "word", "name", "part", "reads", "puts", "bar", "address"]
theorem sc_Board_deed : FnScope N_Board_deed ["self"] (defScope s_Board_deed) := ⟨rfl, rfl, rfl, by decide +kernel, rfl, by decide +kernel, by decide +kernel⟩
theorem ok_Board_deed (T : Txt K mg) : Ok P w K mg base CX0 5 (He.fAd K ("Board", some "deed")) ["self"] (sp_Board_deed K) := by
  obtain ⟨_, G_Board_stop, b_Board_stop, kp_Board_stop⟩ := ok_Board_stop (P := P) (w := w) (base := base) T
  obtain ⟨_, G_Memory_word_at, b_Memory_word_at, kp_Memory_word_at⟩ := ok_Memory_word_at (P := P) (w := w) (base := base) T
  obtain ⟨_, G_part_of, b_part_of, kp_part_of⟩ := ok_part_of (P := P) (w := w) (base := base) T
  obtain ⟨_, G_name_of, b_name_of, kp_name_of⟩ := ok_name_of (P := P) (w := w) (base := base) T
  obtain ⟨_, G_Board_addresses, b_Board_addresses, kp_Board_addresses⟩ := ok_Board_addresses (P := P) (w := w) (base := base) T
  obtain ⟨_, G_Board_bar_of, b_Board_bar_of, kp_Board_bar_of⟩ := ok_Board_bar_of (P := P) (w := w) (base := base) T
  obtain ⟨_, G_Board_do, b_Board_do, kp_Board_do⟩ := ok_Board_do (P := P) (w := w) (base := base) T
  obtain ⟨_, G_Board_fetch, b_Board_fetch, kp_Board_fetch⟩ := ok_Board_fetch (P := P) (w := w) (base := base) T
  obtain ⟨_, G_Board_pass_beats, b_Board_pass_beats, kp_Board_pass_beats⟩ := ok_Board_pass_beats (P := P) (w := w) (base := base) T
  obtain ⟨fd, F⟩ := T.d_Board_deed
  refine ⟨fd, F.ok sc_Board_deed (fun vs H Q E h => by obtain ⟨A, D, rfl, _⟩ := h; rfl) (fun cdv A_ outer s_ H vs Q E hr h => ?_), F.bindsN (fun _ _ _ _ _ _ us hl => match us, hl with | [_], _ => rfl), F.kp⟩
  obtain ⟨A, D, rfl, h⟩ := h
  have hu := hu_of hr
  refine ⟨_, PSs.nox (pss_cons (ps_set (i := 1) sc_Board_deed.nd rfl (.inl rfl) (pe_dget hu (pe_fld (pv 0) rfl) pe_str (fun _ _ => rfl)))
  (pss_cons (ps_if (PW.pt (pw_or (pt_cmpR op_lt (pv 1) pe_int (nomark _)) (pw_or1 (pt_cmpR op_ge (pv 1) (gi_ (by rfl) T.c_RAM) (nomark _))))) (pss_one (ps_ret (pe_meth (pv 0) T.k_Board T.m_Board_stop G_Board_stop (hr.mono (by decide)) b_Board_stop .nil pass0 (pa_cons (pe_tup (pa_cons pe_str (pa_cons (pv 1) (pa_cons (pv 1) pa_nil)))) pa_nil)))) pss_nil)
  (pss_cons (ps_set (i := 2) sc_Board_deed.nd rfl (.inl rfl) (pe_meth (pe_fld (pv 0) rfl) T.k_Memory T.m_Memory_word_at G_Memory_word_at (hr.mono (by decide)) b_Memory_word_at .nil pass0 (pa_cons (pv 1) pa_nil)))
  (pss_cons (ps_par (i := 3) (j := 4) (by rfl) sc_Board_deed.nd rfl rfl (by decide) rfl rfl (pa_cons (pe_call G_name_of (hr.mono (by decide)) (by rfl) T.g_name_of kp_name_of b_name_of .nil pass0 (pa_cons (pv 2) pa_nil)) (pa_cons (pe_call G_part_of (hr.mono (by decide)) (by rfl) T.g_part_of kp_part_of b_part_of .nil pass0 (pa_cons (pv 2) pa_nil)) pa_nil)) (by rfl))
  (pss_cons (ps_if (PW.pt (pw_or (pt_cmpR op_isN (pv 3) pe_non (nomark _)) (pw_or1 (pt_cmpR op_eq (pv 3) pe_str (nomark _))))) (pss_one (ps_ret (pe_meth (pv 0) T.k_Board T.m_Board_stop G_Board_stop (hr.mono (by decide)) b_Board_stop .nil pass0 (pa_cons (pe_tup (pa_cons (pe_ix ix_list (pe_lst (pa_cons (pv 3) (pa_cons pe_str pa_nil))) (pe_callTy call_int1 (by rfl) T.f_int (by decide +kernel) (pa_cons (pe_cmpR op_isN (pv 3) pe_non (nomark _)) pa_nil)) (fun _ _ => rfl)) (pa_cons (pv 1) pa_nil))) pa_nil)))) pss_nil)
  (pss_cons (ps_asg (pe_meth (pv 0) T.k_Board T.m_Board_addresses G_Board_addresses (hr.mono (by decide)) b_Board_addresses .nil pass0 (pa_cons (pv 3) (pa_cons (pv 4) pa_nil))) (pg_tup rfl (pgs_cons (pg_name (i := 5) sc_Board_deed.nd rfl (.inl rfl)) (pgs_cons (pg_name (i := 6) sc_Board_deed.nd rfl (.inl rfl)) pgs_nil))))
  (pss_cons (ps_set (i := 7) sc_Board_deed.nd rfl (.inl rfl) (pe_meth (pv 0) T.k_Board T.m_Board_bar_of G_Board_bar_of (hr.mono (by decide)) b_Board_bar_of .nil pass0 (pa_cons (pv 5) (pa_cons (pv 6) pa_nil))))
  (pss_cons (ps_if (pt_cmpR op_notN (pv 7) pe_non (nomark _)) (pss_one (ps_ret (pe_meth (pv 0) T.k_Board T.m_Board_stop G_Board_stop (hr.mono (by decide)) b_Board_stop .nil pass0 (pa_cons (pv 7) pa_nil)))) pss_nil)
  (pss_cons (ps_dput hu (pe_fld (pv 0) rfl) pe_str (pe_op op_add (pv 1) pe_int) rfl)
  (pss_cons (ps_expr (pe_meth (pv 0) T.k_Board T.m_Board_do G_Board_do (hr.mono (by decide)) b_Board_do .nil pass0 (pa_cons (pv 3) (pa_cons (pv 4) (pa_cons (pe_lc (own := [("address", 8)]) (g := gName 8) (tt := tYes) rfl sc_Board_deed.nd (pi_list (pv 5)) (blkOk_by (own := [("address", 8)]) (N := N_Board_deed) (sc := defScope s_Board_deed) (by decide +kernel)) (fun _ _ _ _ _ => pg_name (i := 8) sc_Board_deed.nd rfl (Or.inl rfl)) (fun _ _ _ _ _ => pts_nil) (fun _ _ _ _ _ => (pe_meth (pv 0) T.k_Board T.m_Board_fetch G_Board_fetch (hr.mono (by decide)) b_Board_fetch .nil pass0 (pa_cons (pv 8) pa_nil)))) (pa_cons (pv 6) pa_nil))))))
  (pss_cons (ps_expr (pe_meth (pv 0) T.k_Board T.m_Board_pass_beats G_Board_pass_beats (hr.mono (by decide)) b_Board_pass_beats .nil pass0 (pa_cons (pe_op op_add (pe_op op_add pe_int (pe_callB call_len_seq (by rfl) T.f_len PySem.boot_len (pa_cons (pv 5) pa_nil))) (pe_callB call_len_seq (by rfl) T.f_len PySem.boot_len (pa_cons (pv 6) pa_nil))) pa_nil)))
  (pss_one (ps_ret pe_str))))))))))))), ?_⟩
  obtain ⟨B, hn, ht, hs, q⟩ := h
  have s2 : 2 ≤ sizeLine := by decide
  have s3 : 3 ≤ sizeLine := by decide
  unfold BD.deed at q
  refine ⟨_, rfl, _, _, _, _, _, rfl, B.ob, T.k_Board, T.n_Board_registers, BoardF_registers, _, _, rfl, B.get_pc, ?_⟩
  refine ⟨_, rfl, _, _, rfl, rfl, _, rfl, iteD (fun h1 => iteT ?_) (fun h1 => ?_)⟩
  · rw [if_pos (.inl h1)] at q
    refine ⟨_, rfl, _, _, _, rfl, B.ob, (by kernel_rfl), _, rfl, _, rfl, s3, fun t nt => ⟨_, _, t, _, rfl, B.new nt, upd_same, fun H1 A1 B1 e1 k1 => q _ _ B1 e1 ((Kp.new nt).trans k1)⟩⟩
  refine ⟨_, rfl, _, _, rfl, rfl, _, rfl, iteD (fun h2 => ?_) (fun h2 => ?_)⟩
  · rw [if_pos (.inr h2)] at q
    refine ⟨_, rfl, _, _, _, rfl, B.ob, (by kernel_rfl), _, rfl, _, rfl, s3, fun t nt => ⟨_, _, t, _, rfl, B.new nt, upd_same, fun H1 A1 B1 e1 k1 => q _ _ B1 e1 ((Kp.new nt).trans k1)⟩⟩
  rw [if_neg (by omega)] at q
  refine ⟨_, rfl, _, _, _, _, _, rfl, B.ob, T.k_Board, T.n_Board_memory, BoardF_memory, _, _, _, rfl, B.mem.ob, (by kernel_rfl), _, rfl, _, _, _, rfl, B.mem, ?_⟩
  cases eW : D.m.at D.pc with
  | none =>
    exfalso
    unfold MD.at at eW
    rw [if_neg (by omega)] at eW
    split at eW
    · rw [List.getElem?_eq_none_iff, B.mem.lf] at eW; omega
    · rw [if_pos (by omega), List.getElem?_eq_none_iff, B.mem.lr] at eW; omega
  | some n =>
  have h0 : 0 ≤ n := hn n eW
  rw [eW, show (some n).getD 0 = n from rfl] at q
  unfold BD.deedW at q
  by_cases hk : (n / 1024).toNat < 23
  case neg =>
    rw [if_pos hk] at q
    refine ⟨_, rfl, _, rfl, h0, _, rfl, _, rfl, _, _, rfl, ?_⟩
    rw [nameV_none hk]
    refine ⟨_, rfl, rfl, _, rfl, iteT (iteT ?_)⟩
    refine ⟨_, rfl, _, _, _, rfl, B.ob, (by kernel_rfl), _, rfl, s2, fun l nl => ⟨_, rfl, rfl, .inr ⟨_, rfl, _, _, _, V.str "none", rfl, rfl, SqL.of upd_same, atI_nat (j := 1) rfl, ?_⟩⟩⟩
    have B1 : BoardAt K _ A D := B.new (o := .lst [V.non, V.str "none"]) nl
    have k1 : Kp A.own A.own H _ := Kp.new (o := .lst [V.non, V.str "none"]) nl
    exact ⟨_, rfl, s2, fun t nt => ⟨_, _, t, _, rfl, B1.new nt, upd_same, fun H1 A1 B2 e1 k2 => q _ _ B2 e1 (k1.trans ((Kp.new nt).trans k2))⟩⟩
  case pos =>
  rw [if_neg (by omega)] at q
  refine ⟨_, rfl, _, rfl, h0, _, rfl, _, rfl, _, _, rfl, ?_⟩
  rw [nameV_some hk]
  refine ⟨_, rfl, rfl, _, rfl, iteF ?_⟩
  refine ⟨_, rfl, rfl, _, rfl, iteNm hk 0 (h1 := fun h3 => ?_) (h2 := fun h3 => ?_)⟩
  · rw [if_pos h3] at q
    refine ⟨_, rfl, _, _, _, rfl, B.ob, (by kernel_rfl), _, rfl, s2, fun l nl => ⟨_, rfl, rfl, .inr ⟨_, rfl, _, _, _, V.str (nameS (n / 1024).toNat), rfl, rfl, SqL.of upd_same, atI_nat (j := 0) rfl, ?_⟩⟩⟩
    have B1 : BoardAt K _ A D := B.new (o := .lst [V.str (nameS (n / 1024).toNat), V.str "none"]) nl
    have k1 : Kp A.own A.own H _ := Kp.new (o := .lst [V.str (nameS (n / 1024).toNat), V.str "none"]) nl
    have em : V.str "mark" = V.str (nameS (n / 1024).toNat) := by rw [h3]; rfl
    rw [em] at q
    exact ⟨_, rfl, s2, fun t nt => ⟨_, _, t, _, rfl, B1.new nt, upd_same, fun H1 A1 B2 e1 k2 => q _ _ B2 e1 (k1.trans ((Kp.new nt).trans k2))⟩⟩
  rw [if_neg h3] at q
  generalize hkk : (n / 1024).toNat = k at *
  generalize hxx : n % 1024 = x at *
  refine ⟨_, rfl, _, _, _, rfl, B.ob, (by kernel_rfl), _, rfl, _, rfl, _, _, _, _, rfl, B, hk, fun H1 t l1 l2 B1 k1 ht1 hl1 hl2 nl1 nl2 n12 => ?_⟩
  refine ⟨_, _, rfl, SqT.of ht1, rfl, _, _, rfl, _, _, rfl, rfl, ?_⟩
  generalize hR : (addrs k x D.b D.sp).1 = R at *
  generalize hU : (addrs k x D.b D.sp).2 = U at *
  have hlen : R.length + U.length ≤ 2 := by rw [← hR, ← hU]; exact addrs_len k x D.b D.sp
  have qd : ∀ (Hz : Hp) (Az : BA), BoardAt K Hz Az (D.deedB k x (addrs k x D.b D.sp)).2 → Az.p = A.p → Kp A.own Az.own H Hz → Q (.str (D.deedB k x (addrs k x D.b D.sp)).1) Hz := q
  have eB : D.deedB k x (addrs k x D.b D.sp) = D.deedB k x (R, U) := by rw [← hR, ← hU]
  rw [eB] at qd
  refine ⟨_, rfl, _, _, _, rfl, B1.ob, (by kernel_rfl), _, rfl, _, rfl, _, _, _, _, _, _, rfl, B1, hl1, hl2, fun H2 v k2 B2 hv => ?_⟩
  cases eb : barOf D.m D.pc R U with
  | some c =>
    rw [eb] at hv
    obtain ⟨t2, rfl, ht2⟩ := hv
    have eC : D.deedB k x (R, U) = (("stopped" : Str), D.halt c) := by unfold BD.deedB; rw [eb]
    rw [eC] at qd
    refine ⟨_, rfl, rfl, _, rfl, iteT ?_⟩
    exact ⟨_, rfl, _, _, _, rfl, B2.ob, (by kernel_rfl), _, rfl, _, _, t2, _, rfl, B2, ht2, fun H3 A3 B3 e3 k3 => qd _ _ B3 e3 (k1.trans (k2.trans k3))⟩
  | none =>
    rw [eb] at hv
    subst hv
    have eC : D.deedB k x (R, U) = (("deed" : Str), D.deedA k x (R, U)) := by unfold BD.deedB; rw [eb]
    rw [eC] at qd
    obtain ⟨hr1, hr2⟩ := barOf_none eb
    refine ⟨_, rfl, rfl, _, rfl, iteF ?_⟩
    refine ⟨_, rfl, _, _, rfl, rfl, _, rfl, _, _, _, _, _, rfl, B2.ob, T.k_Board, T.n_Board_registers, BoardF_registers, _, _, rfl, B2.put_pc _, B2.goRg fun H3 B3 k3 => ?_⟩
    have k03 := k1.trans (k2.trans k3)
    have f1 : l1 ∉ A.own := B.fresh nl1
    have f2 : l2 ∉ A.own := B.fresh nl2
    have hl13 : H3 l1 = some (.lst (R.map V.int)) := k3.kept _ _ (k2.kept _ _ hl1 f1) f1
    have hl23 : H3 l2 = some (.lst (U.map V.int)) := k3.kept _ _ (k2.kept _ _ hl2 f2) f2
    -- self.do(name, part, [..], puts)
    refine ⟨_, rfl, _, _, _, rfl, B3.ob, (by kernel_rfl), _, rfl, _, rfl, _, rfl, _, rfl, ⟨_, SqL.of hl13⟩, fun L nL => lc_list (K := K) (a := l1) (xs := R.map V.int)
      (fun i H4 => ∃ A4 : BA, BoardAt K H4 (A4.w A.p) (({ D with pc := D.pc + 1 } : BD).fetches (R.take i)).2 ∧ Kp A.own (L :: (A4.w A.p).own) H H4 ∧ H4 L = some (.lst ((({ D with pc := D.pc + 1 } : BD).fetches (R.take i)).1.map V.int)) ∧ L ∉ (A4.w A.p).own ∧ H4 l1 = some (.lst (R.map V.int)) ∧ H4 l2 = some (.lst (U.map V.int)) ∧ l1 ∉ (A4.w A.p).own ∧ l2 ∉ (A4.w A.p).own) ?_ ?_ ?_ ?_⟩
    · have fL : L ∉ A.own := B3.fresh nL
      have nl1L : l1 ≠ L := ne_of_none hl13 nL
      have nl2L : l2 ≠ L := ne_of_none hl23 nL
      exact ⟨A, B3.new nL, k03.trans (Kp.newIn nL), upd_same, fL, by rw [upd_ne nl1L]; exact hl13, by rw [upd_ne nl2L]; exact hl23, f1, f2⟩
    · rintro i H4 _ ⟨A4, _, _, _, _, h, _⟩
      exact SqL.of h
    · rintro i y H4 hi ⟨A4, B4, k4, hL, fL, h1', h2', g1, g2⟩
      have nl1L : l1 ≠ L := ne_of_none hl13 nL
      have nl2L : l2 ≠ L := ne_of_none hl23 nL
      rw [List.getElem?_map] at hi
      cases hz : R[i]? with
      | none => rw [hz] at hi; cases hi
      | some z =>
        rw [hz] at hi
        have ey : y = .int z := (Option.some.inj hi).symm
        subst ey
        have hil := (List.getElem?_eq_some_iff.mp hz).1
        have hmem : z ∈ R := (List.getElem?_eq_some_iff.mp hz).2 ▸ List.getElem_mem hil
        obtain ⟨m1, m2, m3, m4⟩ := BD.fetches_keep ({ D with pc := D.pc + 1 } : BD) (R.take i)
        obtain ⟨nz, hnz⟩ := hr1 z hmem
        have et : R.take (i + 1) = R.take i ++ [z] := by rw [List.take_add_one, hz]; rfl
        have hlt : (({ D with pc := D.pc + 1 } : BD).fetches (R.take i)).2.tc.length < 1000 := by
          rw [m3, List.length_take]
          show D.tc.length + _ < 1000
          omega
        refine ⟨rfl, _, rfl, _, _, _, rfl, B4.ob, (by kernel_rfl), _, rfl, A4.w A.p, _, _, nz, rfl, B4, by rw [m1]; exact hnz, hlt, fun H5 A5 B5 e5 k5 => ?_⟩
        replace B5 := B5.as e5
        replace k5 := k5.as e5
        have hL5 := k5.kept _ _ hL fL
        have nown : ∀ c o, H4 c = some o → c ∉ (A4.w A.p).own → c ∉ (A5.w A.p).own := fun c o hc nc m => by
          rcases k5.own c m with q1 | q1
          · exact nc q1
          · rw [q1] at hc; cases hc
        have fL5 := nown _ _ hL fL
        have k6 : Kp (L :: (A5.w A.p).own) (L :: (A5.w A.p).own) H5 _ := Kp.upd (o' := .lst ((({ D with pc := D.pc + 1 } : BD).fetches (R.take i)).1.map V.int ++ [.int (BD.fetchV (({ D with pc := D.pc + 1 } : BD).fetches (R.take i)).2 z)])) hL5 trivial (by simp)
        refine ⟨_, hL5, small_ (by rw [List.length_map, m4, List.length_take]; omega), A5, ?_, k4.trans ((k5.cons L).trans k6), ?_, fL5, ?_, ?_, nown _ _ h1' g1, nown _ _ h2' g2⟩
        · rw [et, BD.fetches_snoc]
          exact B5.frame (fun b hb o e => by rw [upd_ne (fun z2 => fL5 (by rw [← z2]; exact hb))]; exact e) k6.tups
        · rw [et, BD.fetches_snoc, upd_same, List.map_append]; rfl
        · rw [upd_ne nl1L]; exact k5.kept _ _ h1' g1
        · rw [upd_ne nl2L]; exact k5.kept _ _ h2' g2
    · rintro H4 ⟨A4, B4, k4, hL, fL, h1', h2', g1, g2⟩
      rw [List.length_map, List.take_length] at B4 hL
      obtain ⟨m1, m2, m3, m4⟩ := BD.fetches_keep ({ D with pc := D.pc + 1 } : BD) R
      have nR : (k ∈ [2, 8, 18, 4, 5, 6, 7] ∨ k = 16 ∨ k = 21) → (({ D with pc := D.pc + 1 } : BD).fetches R).1 ≠ [] := fun hz e => by
        have := addrs_reads (x := x) (b := D.b) (sp := D.sp) hz
        rw [hR] at this
        rw [e] at m4
        exact this (List.eq_nil_of_length_eq_zero m4.symm)
      refine ⟨_, rfl, A4.w A.p, _, _, _, _, _, _, _, rfl, B4, hk, hL, h2', fL, g2, hr2, by rw [m3]; show D.tc.length + _ < 1000; omega, by rw [m2]; show D.sent.length < 1000000; omega, fun hz => nR (.inl hz), fun hz => nR (.inr hz), fun H5 A5 B5 e5 k5 => ?_⟩
      replace B5 := B5.as e5
      replace k5 := k5.as e5
      have h15 := k5.kept _ _ h1' g1
      have h25 := k5.kept _ _ h2' g2
      refine ⟨_, rfl, _, _, _, rfl, B5.ob, (by kernel_rfl), _, rfl, _, _, rfl, .inl (SqL.of h15), _, _, rfl, rfl, _, rfl, _, _, rfl, .inl (SqL.of h25), _, _, rfl, rfl, A5.w A.p, _, 1 + R.length + U.length, ?_, B5, by omega, fun H6 B6 k6 => ?_⟩
      · rw [List.length_map, List.length_map]
        congr 2
      · exact qd _ _ B6 rfl ((k4.sub fun b hb => List.mem_cons_of_mem _ hb).trans (k5.trans k6))
def sp_Board_interrupt (K : PySem.W.Frag) : Sp := fun vs H Q _ => ∃ (A : BA) (D : BD), vs = [.ref A.p] ∧ (BoardAt K H A D ∧ D.tc.length ≤ 100 ∧ D.sent.length ≤ 999000 ∧ ∀ H' A', BoardAt K H' A' D.interrupt.2 → A'.p = A.p → Kp A.own A'.own H H' → Q (.str D.interrupt.1) H')
abbrev N_Board_interrupt : List Str := ["self", "pc", "sp", "address", "bar", "first"]
theorem sc_Board_interrupt : FnScope N_Board_interrupt ["self"] (defScope s_Board_interrupt) := ⟨rfl, rfl, rfl, by decide +kernel, rfl, by decide +kernel, by decide +kernel⟩
theorem ok_Board_interrupt (T : Txt K mg) : Ok P w K mg base CX0 4 (He.fAd K ("Board", some "interrupt")) ["self"] (sp_Board_interrupt K) := by
  obtain ⟨_, G_Memory_bar_to, b_Memory_bar_to, kp_Memory_bar_to⟩ := ok_Memory_bar_to (P := P) (w := w) (base := base) T
  obtain ⟨_, G_Board_stop, b_Board_stop, kp_Board_stop⟩ := ok_Board_stop (P := P) (w := w) (base := base) T
  obtain ⟨_, G_Board_pending, b_Board_pending, kp_Board_pending⟩ := ok_Board_pending (P := P) (w := w) (base := base) T
  obtain ⟨_, G_Board_store, b_Board_store, kp_Board_store⟩ := ok_Board_store (P := P) (w := w) (base := base) T
  obtain ⟨_, G_Board_pass_beats, b_Board_pass_beats, kp_Board_pass_beats⟩ := ok_Board_pass_beats (P := P) (w := w) (base := base) T
  obtain ⟨fd, F⟩ := T.d_Board_interrupt
  refine ⟨fd, F.ok sc_Board_interrupt (fun vs H Q E h => by obtain ⟨A, D, rfl, _⟩ := h; rfl) (fun cdv A_ outer s_ H vs Q E hr h => ?_), F.bindsN (fun _ _ _ _ _ _ us hl => match us, hl with | [_], _ => rfl), F.kp⟩
  obtain ⟨A, D, rfl, h⟩ := h
  have hu := hu_of hr
  refine ⟨_, PSs.nox (pss_cons (ps_par (i := 1) (j := 2) (by rfl) sc_Board_interrupt.nd rfl rfl (by decide) rfl rfl (pa_cons (pe_dget hu (pe_fld (pv 0) rfl) pe_str (fun _ _ => rfl)) (pa_cons (pe_dget hu (pe_fld (pv 0) rfl) pe_str (fun _ _ => rfl)) pa_nil)) (by rfl))
  (pss_cons (ps_for PassesOwn.never rfl (pi_list (pe_lst (pa_cons (pv 2) (pa_cons (pe_op op_sub (pv 2) pe_int) pa_nil)))) (pg_name (i := 3) sc_Board_interrupt.nd rfl (.inl rfl)) (pss_cons (ps_set (i := 4) sc_Board_interrupt.nd rfl (.inl rfl) (pe_meth (pe_fld (pv 0) rfl) T.k_Memory T.m_Memory_bar_to G_Memory_bar_to (hr.mono (by decide)) b_Memory_bar_to .nil pass0 (pa_cons (pv 3) pa_nil)))
    (pss_one (ps_if (pt_cmpR op_notN (pv 4) pe_non (nomark _)) (pss_one (ps_ret (pe_meth (pv 0) T.k_Board T.m_Board_stop G_Board_stop (hr.mono (by decide)) b_Board_stop .nil pass0 (pa_cons (pe_tup (pa_cons (pv 4) (pa_cons (pv 1) (pa_cons (pv 3) pa_nil)))) pa_nil)))) pss_nil))))
  (pss_cons (ps_set (i := 5) sc_Board_interrupt.nd rfl (.inl rfl) (pe_ix ix_list (pe_lst (pa_cons pe_int (pa_cons pe_int pa_nil))) (pe_op op_mod (pe_meth0 (pv 0) T.k_Board T.m_Board_pending G_Board_pending (hr.mono (by decide)) b_Board_pending .nil pass0) pe_int) (fun _ _ => rfl)))
  (pss_cons (ps_expr (pe_meth (pv 0) T.k_Board T.m_Board_store G_Board_store (hr.mono (by decide)) b_Board_store .nil pass0 (pa_cons (pv 2) (pa_cons (pv 1) pa_nil))))
  (pss_cons (ps_expr (pe_meth (pv 0) T.k_Board T.m_Board_store G_Board_store (hr.mono (by decide)) b_Board_store .nil pass0 (pa_cons (pe_op op_sub (pv 2) pe_int) (pa_cons (pe_callTy call_int1 (by rfl) T.f_int (by decide +kernel) (pa_cons (pe_fld (pv 0) rfl) pa_nil)) pa_nil))))
  (pss_cons (ps_dput hu (pe_fld (pv 0) rfl) pe_str (pe_op op_sub (pv 2) pe_int) rfl)
  (pss_cons (ps_fld (pv 0) pe_bl rfl)
  (pss_cons (ps_dput hu (pe_fld (pv 0) rfl) pe_str (pv 5) rfl)
  (pss_cons (ps_expr (pe_meth (pv 0) T.k_Board T.m_Board_pass_beats G_Board_pass_beats (hr.mono (by decide)) b_Board_pass_beats .nil pass0 (pa_cons pe_int pa_nil)))
  (pss_one (ps_ret pe_str))))))))))), ?_⟩
  obtain ⟨B, ht, hs, q⟩ := h
  have s2 : 2 ≤ sizeLine := by decide
  have s3 : 3 ≤ sizeLine := by decide
  unfold BD.interrupt at q
  refine ⟨_, rfl, _, _, _, _, _, rfl, B.ob, T.k_Board, T.n_Board_registers, BoardF_registers, _, _, rfl, B.get_pc, _, rfl, _, _, _, _, _, rfl, B.ob, T.k_Board, T.n_Board_registers, BoardF_registers, _, _, rfl, B.get_sp, _, _, rfl, ?_⟩
  refine ⟨_, rfl, _, rfl, _, _, rfl, rfl, s2, fun l nl => ⟨_, rfl, ⟨_, SqL.of upd_same⟩, ?_⟩⟩
  have B1 : BoardAt K _ A D := B.new (o := .lst [.int D.sp, .int (D.sp - 1)]) nl
  have k1 : Kp A.own A.own H _ := Kp.new (o := .lst [.int D.sp, .int (D.sp - 1)]) nl
  refine for_list (K := K) (a := l) (xs := [.int D.sp, .int (D.sp - 1)]) (fun i σ H' => H' = upd H l (.lst [.int D.sp, .int (D.sp - 1)]) ∧ (1 ≤ i → barTo D.sp = none) ∧ (2 ≤ i → barTo (D.sp - 1) = none) ∧ ∃ v u, σ = [some (.ref A.p), some (.int D.pc), some (.int D.sp), v, u, none]) ⟨rfl, fun z => absurd z (by omega), fun z => absurd z (by omega), _, _, rfl⟩ (fun i σ H' _ ⟨e, _⟩ => by rw [e]; exact SqL.of upd_same) ?_ ?_
  · rintro i y σ H1 hi ⟨rfl, c1, c2, v, u, rfl⟩
    have hi2 : i < 2 := (List.getElem?_eq_some_iff.mp hi).1
    obtain ⟨z, ey, ez⟩ : ∃ z, y = .int z ∧ z = (if i = 0 then D.sp else D.sp - 1) := by
      match i, hi2, hi with
      | 0, _, hi => exact ⟨D.sp, (Option.some.inj hi).symm, rfl⟩
      | 1, _, hi => exact ⟨D.sp - 1, (Option.some.inj hi).symm, rfl⟩
    subst ey
    refine ⟨_, rfl, _, _, _, _, _, rfl, B1.ob, T.k_Board, T.n_Board_memory, BoardF_memory, _, _, _, rfl, B1.mem.ob, (by kernel_rfl), _, rfl, _, _, rfl, ⟨_, B1.mem⟩, ?_⟩
    refine ⟨_, rfl, rfl, _, rfl, iteOptN (fun b g => ?_) (fun g => ?_)⟩
    · rw [g]
      refine ⟨_, rfl, _, _, _, rfl, B1.ob, (by kernel_rfl), _, rfl, _, rfl, _, rfl, s3, fun t nt => ⟨_, _, t, _, rfl, B1.new nt, upd_same, fun H2 A2 B2 e2 k2 => ?_⟩⟩
      have qq : Q (.str "stopped") H2 := by
        by_cases hi0 : i = 0
        · rw [if_pos hi0] at ez
          rw [ez] at g B2
          rw [g] at q
          exact q _ _ B2 e2 (k1.trans ((Kp.new nt).trans k2))
        · rw [if_neg hi0] at ez
          rw [ez] at g B2
          rw [c1 (by omega), g] at q
          exact q _ _ B2 e2 (k1.trans ((Kp.new nt).trans k2))
      exact qq
    · refine ⟨rfl, fun z2 => ?_, fun z2 => ?_, _, _, rfl⟩
      · by_cases hi0 : i = 0
        · rw [if_pos hi0] at ez; rw [← ez]; exact g
        · exact c1 (by omega)
      · rw [if_neg (by omega)] at ez; rw [← ez]; exact g
  · rintro σ H1 ⟨rfl, c1, c2, v, u, rfl⟩
    have b1 := c1 (show 1 ≤ 2 by decide)
    have b2 := c2 (show 2 ≤ 2 by decide)
    rw [b1, b2] at q
    simp only [] at q
    unfold BD.inter at q
    refine ⟨s2, fun l2 nl2 => ?_⟩
    have B2 : BoardAt K _ A D := B1.new (o := .lst [.int 2, .int 1]) nl2
    have k2 : Kp A.own A.own H _ := k1.trans (Kp.new (o := .lst [.int 2, .int 1]) nl2)
    refine ⟨_, rfl, _, _, _, rfl, B2.ob, (by kernel_rfl), _, _, rfl, B2, _, _, rfl, rfl, (by show (0 : Int) < 2; decide), _, _, _, V.int (if D.pending % 2 = 0 then 2 else 1), rfl, rfl, SqL.of upd_same, ?_, ?_⟩
    · have h2 : D.pending % 2 = 0 ∨ D.pending % 2 = 1 := by omega
      rcases h2 with e | e
      · rw [e]; exact atI_nat (j := 0) rfl
      · rw [e]; exact atI_nat (j := 1) rfl
    refine ⟨_, rfl, _, _, _, rfl, B2.ob, (by kernel_rfl), _, rfl, _, rfl, _, _, _, _, rfl, B2, b1, by omega, by omega, fun H3 A3 B3 e3 k3 => ?_⟩
    replace B3 := B3.as e3
    replace k3 := k3.as e3
    refine ⟨_, rfl, _, _, _, rfl, B3.ob, (by kernel_rfl), _, rfl, _, _, rfl, rfl, _, rfl, _, _, _, _, _, rfl, B3.ob, T.k_Board, T.n_Board_zero, BoardF_zero, .inr ⟨_, rfl, ?_⟩⟩
    refine ⟨A3.w A.p, _, _, _, rfl, B3, b2, ?_, ?_, fun H4 A4 B4 e4 k4 => ?_⟩
    · show (D.tc ++ [_]).length < 1000
      rw [List.length_append]; simp; omega
    · show (if D.sp = 773 then D.sent ++ [_] else D.sent).length < 1000000
      split
      · rw [List.length_append]; simp; omega
      · omega
    replace B4 := B4.as e4
    replace k4 := k4.as e4
    refine ⟨_, rfl, _, _, rfl, rfl, _, rfl, _, _, _, _, _, rfl, B4.ob, T.k_Board, T.n_Board_registers, BoardF_registers, _, _, rfl, B4.put_sp _, B4.goRg fun H5 B5 k5 => ?_⟩
    refine ⟨_, rfl, _, _, _, _, rfl, B5.ob, T.k_Board, T.n_Board_lets, BoardF_len, B5.goLets fun H6 B6 k6 => ?_⟩
    refine ⟨_, rfl, _, rfl, _, _, _, _, _, rfl, B6.ob, T.k_Board, T.n_Board_registers, BoardF_registers, _, _, rfl, B6.put_pc _, B6.goRg fun H7 B7 k7 => ?_⟩
    refine ⟨_, rfl, _, _, _, rfl, B7.ob, (by kernel_rfl), A4.w A.p, _, 3, rfl, B7, by decide, fun H8 B8 k8 => ?_⟩
    exact q _ _ B8 rfl (k2.trans (k3.trans (k4.trans (k5.trans (k6.trans (k7.trans k8))))))
def sp_Board_turn (K : PySem.W.Frag) : Sp := fun vs H Q _ => ∃ (A : BA) (D : BD), vs = [.ref A.p] ∧ (BoardAt K H A D ∧ (∀ n, D.m.at D.pc = some n → 0 ≤ n) ∧ D.sent.length ≤ 999000 ∧ ∀ H' A', BoardAt K H' A' D.turn.2 → A'.p = A.p → Kp A.own A'.own H H' → Q (.str D.turn.1) H')
abbrev N_Board_turn : List Str := ["self"]
theorem sc_Board_turn : FnScope N_Board_turn ["self"] (defScope s_Board_turn) := ⟨rfl, rfl, rfl, by decide +kernel, rfl, by decide +kernel, by decide +kernel⟩
theorem ok_Board_turn (T : Txt K mg) : Ok P w K mg base CX0 6 (He.fAd K ("Board", some "turn")) ["self"] (sp_Board_turn K) := by
  obtain ⟨_, G_Board_pending, b_Board_pending, kp_Board_pending⟩ := ok_Board_pending (P := P) (w := w) (base := base) T
  obtain ⟨_, G_Board_pass_beats, b_Board_pass_beats, kp_Board_pass_beats⟩ := ok_Board_pass_beats (P := P) (w := w) (base := base) T
  obtain ⟨_, G_Board_interrupt, b_Board_interrupt, kp_Board_interrupt⟩ := ok_Board_interrupt (P := P) (w := w) (base := base) T
  obtain ⟨_, G_Board_deed, b_Board_deed, kp_Board_deed⟩ := ok_Board_deed (P := P) (w := w) (base := base) T
  obtain ⟨fd, F⟩ := T.d_Board_turn
  refine ⟨fd, F.ok sc_Board_turn (fun vs H Q E h => by obtain ⟨A, D, rfl, _⟩ := h; rfl) (fun cdv A_ outer s_ H vs Q E hr h => ?_), F.bindsN (fun _ _ _ _ _ _ us hl => match us, hl with | [_], _ => rfl), F.kp⟩
  obtain ⟨A, D, rfl, h⟩ := h
  have hu := hu_of hr
  refine ⟨_, PSs.nox (pss_cons (ps_fld (pv 0) (pe_lst pa_nil) rfl)
  (pss_cons (ps_if (pt_cmpR op_notN (pe_fld (pv 0) rfl) pe_non (nomark _)) (pss_one (ps_ret pe_str)) pss_nil)
  (C8.pss_cut (ps_if (PW.pt (pw_and (pt_val (pe_fld (pv 0) rfl)) (pw_and1 (pt_cmpR op_eq (pe_meth0 (pv 0) T.k_Board T.m_Board_pending G_Board_pending (hr.mono (by decide)) b_Board_pending .nil pass0) pe_int (nomark _))))) (pss_cons (ps_expr (pe_meth (pv 0) T.k_Board T.m_Board_pass_beats G_Board_pass_beats (hr.mono (by decide)) b_Board_pass_beats .nil pass0 (pa_cons pe_int pa_nil)))
    (pss_one (ps_ret pe_str))) pss_nil)
  (pss_cons (ps_fld (pv 0) pe_bl rfl)
  (pss_cons (ps_if (PW.pt (pw_and (pt_val (pe_fld (pv 0) rfl)) (pw_and1 (pt_cmpR op_gt (pe_meth0 (pv 0) T.k_Board T.m_Board_pending G_Board_pending (hr.mono (by decide)) b_Board_pending .nil pass0) pe_int (nomark _))))) (pss_one (ps_ret (pe_meth0 (pv 0) T.k_Board T.m_Board_interrupt G_Board_interrupt (hr.mono (by decide)) b_Board_interrupt .nil pass0))) pss_nil)
  (pss_one (ps_ret (pe_meth0 (pv 0) T.k_Board T.m_Board_deed G_Board_deed (hr.mono (by decide)) b_Board_deed .nil pass0)))))))), ?_⟩
  obtain ⟨B, hn, hs, q⟩ := h
  have s0 : 0 ≤ sizeLine := by decide
  unfold BD.turn BD.turnB at q
  refine ⟨s0, fun t nt => ⟨_, rfl, _, _, _, _, rfl, (B.new (o := .lst []) nt).ob, T.k_Board, T.n_Board_touched, BoardF_len, B.goTc nt fun H1 B1 k1 => ?_⟩⟩
  cases es : D.stop with
  | some c =>
    rw [if_pos (by show D.stop.isSome = true; rw [es]; rfl)] at q
    have hst := B1.st
    rw [show ({ D with tc := [] } : BD).stop = D.stop from rfl, es] at hst
    obtain ⟨u, eu, hu2⟩ := hst
    have eu' : A.st = .ref u := eu
    refine ⟨_, rfl, _, _, _, _, _, rfl, B1.ob, T.k_Board, T.n_Board_stopped, BoardF_stopped, rfl, _, rfl, ?_⟩
    rw [show ({ A with tc := t, tv := [] } : BA).st = A.st from rfl, eu']
    exact iteT (q _ _ B1 rfl k1)
  | none =>
    rw [if_neg (by show ¬ D.stop.isSome = true; rw [es]; simp)] at q
    have hst := B1.st
    rw [show ({ D with tc := [] } : BD).stop = D.stop from rfl, es] at hst
    have eu' : A.st = .non := hst
    refine ⟨_, rfl, _, _, _, _, _, rfl, B1.ob, T.k_Board, T.n_Board_stopped, BoardF_stopped, rfl, _, rfl, ?_⟩
    rw [show ({ A with tc := t, tv := [] } : BA).st = A.st from rfl, eu']
    refine iteF ?_
    refine ⟨fun σ' H' => σ' = [some (.ref A.p)] ∧ H' = H1 ∧ ¬ (D.asleep = true ∧ ({ D with tc := [] } : BD).pending = 0), ?_, ?_⟩
    · refine ⟨_, rfl, _, _, _, _, _, rfl, B1.ob, T.k_Board, T.n_Board_asleep, BoardF_asleep, _, rfl, iteBo (fun c1 => ?_) (fun c1 => iteF ?_)⟩
      · refine ⟨_, rfl, _, _, _, rfl, B1.ob, (by kernel_rfl), { A with tc := t, tv := [] }, _, rfl, B1, rfl, _, rfl, iteI (fun c2 => ?_) (fun c2 => ?_)⟩
        · rw [if_pos ⟨c1, c2⟩] at q
          exact ⟨_, rfl, _, _, _, rfl, B1.ob, (by kernel_rfl), { A with tc := t, tv := [] }, _, 1, rfl, B1, by decide, fun H2 B2 k2 => q _ _ B2 rfl (k1.trans k2)⟩
        · exact ⟨rfl, rfl, fun z => c2 z.2⟩
      · exact ⟨rfl, rfl, fun z => by rw [show D.asleep = false from c1] at z; exact absurd z.1 (by decide)⟩
    · rintro σ' H' ⟨rfl, rfl, c⟩
      rw [if_neg c] at q
      unfold BD.wake at q
      refine ⟨_, rfl, _, _, _, _, rfl, B1.ob, T.k_Board, T.n_Board_asleep, BoardF_len, B1.goAsleep fun H2 B2 k2 => ?_⟩
      refine ⟨_, rfl, _, _, _, _, _, rfl, B2.ob, T.k_Board, T.n_Board_lets, BoardF_lets, _, rfl, iteBo (fun c1 => ?_) (fun c1 => iteF ?_)⟩
      · refine ⟨_, rfl, _, _, _, rfl, B2.ob, (by kernel_rfl), { A with tc := t, tv := [] }, _, rfl, B2, _, _, rfl, rfl, _, rfl, iteD (fun c2 => ?_) (fun c2 => ?_)⟩
        · rw [if_pos ⟨c1, c2⟩] at q
          exact ⟨_, rfl, _, _, _, rfl, B2.ob, (by kernel_rfl), { A with tc := t, tv := [] }, _, rfl, B2, Nat.zero_le _, hs, fun H3 A3 B3 e3 k3 => q _ _ B3 e3 (k1.trans (k2.trans k3))⟩
        · rw [if_neg (fun z => c2 z.2)] at q
          exact ⟨_, rfl, _, _, _, rfl, B2.ob, (by kernel_rfl), { A with tc := t, tv := [] }, _, rfl, B2, hn, Nat.zero_le _, hs, fun H3 A3 B3 e3 k3 => q _ _ B3 e3 (k1.trans (k2.trans k3))⟩
      · rw [if_neg (fun z => by rw [show D.lets = false from c1] at z; exact absurd z.1 (by decide))] at q
        exact ⟨_, rfl, _, _, _, rfl, B2.ob, (by kernel_rfl), { A with tc := t, tv := [] }, _, rfl, B2, hn, Nat.zero_le _, hs, fun H3 A3 B3 e3 k3 => q _ _ B3 e3 (k1.trans (k2.trans k3))⟩
end

/-! ### set(l) of a list of ints: as the library's set of a tuple, for lists -/
section
open PySem.Spec PyProof.Rows
variable {P : Program} {w : World} {A : Around} {E : Value → Shared → Prop} {s : Shared}
abbrev nSet (w : World) : Obj := { cls := .type "set", dict := none, data := .set #[] 0 (.fresh 0 0 (!w.params.followText "set-order")) }
set_option maxHeartbeats 6400000 in
theorem callSetL {l : Addr} {its : Array Value} (ns : List Int) {Q : Value → Shared → Prop} (ha : A.handled = none) (li : s.heap.IsList l its) (hn : IntsAre its.toList ns) (few : ns.length + 1 < scanBound)
    (goal : ∀ (g : Heap) (t m : Nat), SetR w g s.heap.objs.size (fun j => decide (j ∈ ns)) m → m ≤ ns.length → (∀ b o, s.heap.get? b = some o → g.get? b = some o) → Q (.ref s.heap.objs.size) { s with heap := g, toks := t }) :
    wpAny (model P w) A (call (.type "set") [.ref l]) Q E s := by
  have sz : its.size = ns.length := by
    have z := IntsAre.length hn
    rwa [Array.length_toList] at z
  have ⟨m1, m2, m3⟩ := F.called_set.mro
  have made_ := F.called_set.made
  have sub_ := F.called_set.sub
  refine wpAny_call (codeAny_of_tree ?_); show wpAny _ _ (callAny (.type "set") _) _ _ _
  refine wpAny_pure ⟨Code.quiet_builtin _ (by decide +kernel), codeAny_builtin F.entry_type_call ?_⟩; rw [Around.under_plain (weight_type_call_type "set" [.ref l] []) rfl]
  have nt_ := F.called_set.notType
  have cc_ := F.called_set.canCreate
  have tc_ := F.typeCall_set_1 (.ref l)
  repeat (any_goals first | assumption | wp_step)
  refine codeAny_mono (code_set_led1 (.ref l) (E := E) (Q₁ := fun obj s₁ => obj = .ref s.heap.objs.size ∧ s₁ = { s with heap := s.heap.push (nSet w) }) ⟨rfl, rfl⟩) fun r s₁ hr => ?_
  cases r with
  | error e => exact hr
  | ok fl => cases fl with
    | ret obj =>
      obtain ⟨rfl, rfl⟩ := hr
      have at_ : (s.heap.push (nSet w)).get? s.heap.objs.size = some (nSet w) := Heap.get?_push_size _ rfl
      have ty_ : Shared.TypeIs { s with heap := s.heap.push (nSet w) } (.ref s.heap.objs.size) "set" := ⟨_, at_, rfl⟩
      have lk_ := F.called_set.init.lookup
      have bd_ := F.called_set.init.bind (.ref s.heap.objs.size)
      repeat (any_goals first | assumption | wp_step)
      refine codeAny_mono (codeAny_call_builtin (R := wants (fun r s₂ => r = .none ∧ ∃ g t m, s₂ = { s with heap := g, toks := t } ∧ SetR w g s.heap.objs.size (fun j => decide (j ∈ ns)) m ∧ m ≤ ns.length ∧ (∀ b o, s.heap.get? b = some o → g.get? b = some o)) E) F.called_set.init.plain F.entry_set_init (check_set_init_1 ty_ ?_)) fun r₂ s₂ hr₂ => ?_
      · obtain ⟨⟨oc, od, dt, sl⟩, hol, c1, n1, c2⟩ := li
        simp only at c1 c2
        subst c1 c2
        have old_ : (s.heap.push (nSet w)).get? l = some { cls := .type "list", dict := od, data := .seq its n1, slots := sl } := Heap.get?_push_of_some _ hol
        have sl1 := F.sub_list_set
        have sl2 := F.sub_list_frozenset
        have ne1 : (Value.type "list" == Value.type "dict") = false := by decide
        have li1 : (s.heap.push (nSet w)).IsList l its := ⟨_, old_, rfl, n1, rfl⟩
        unfold Builtin.«set.__init__» noKeywords Builtin.Frozenset.updateFrom
        generalize pe : pyIter = PI
        wp_walk
        subst pe
        refine wpAny_pyIter_list li1 ?_
        refine wpAny_bind (wpAny_runValue ?_)
        have lt_ : l < s.heap.objs.size := Heap.lt_size hol
        have hd3 : A.in1.in1.in1.handled = none := by simp [ha]
        have neI : l ≠ (s.heap.push (nSet w)).objs.size := by rw [Heap.size_push]; exact Nat.ne_of_lt (Nat.lt_succ_of_lt lt_)
        have nin : s.heap.objs.size ∉ [(s.heap.push (nSet w)).objs.size, l] := by
          rw [Heap.size_push]; simp only [List.mem_cons, List.mem_singleton, List.not_mem_nil, or_false, not_or]; exact ⟨Nat.ne_of_lt (Nat.lt_succ_self _), Nat.ne_of_gt lt_⟩
        have vals_ : ∀ (i : Nat) (v : Value), its[i]? = some v → ∃ k t, ns[i]? = some k ∧ v = .int k t := fun i v hv => by
          have lti : i < ns.length := by rw [← sz]; exact (Array.getElem?_eq_some_iff.mp hv).1
          obtain ⟨t, e⟩ := IntsAre.int_at hn i v (by rw [Array.getElem?_toList]; exact hv)
          exact ⟨ns[i], t, List.getElem?_eq_getElem lti, by rw [e, List.getD_eq_getElem?_getD, List.getElem?_eq_getElem lti] <;> rfl⟩
        refine set_update_ints ((Walks.list hd3 _ l neI its).toS) s.heap.objs.size nin ns sz few vals_ (its.size - 0) 0 _ (by omega) (Nat.zero_le _) ⟨⟨_, Heap.get?_push_size _ rfl, rfl, rfl⟩, (li1.push _)⟩ ?s0 ?s1
        case s0 => exact ⟨0, Nat.le_refl 0, setR_new_at (Heap.get?_push_of_some _ at_)⟩
        case s1 =>
          rintro ⟨g, g2, d2, t2, o2⟩ m mv hm hS
          have e1 : g2 = s.gens := mv.gens
          have e2 : d2 = s.drawn := mv.drawn
          have e3 : o2 = s.os := mv.os
          subst e1 e2 e3
          show wpAny _ _ _ _ _ _
          refine wpAny_pure ?_
          show wpAny _ _ (ret Value.none) _ _ _
          rw [sz] at hm
          refine wpAny_pure ⟨rfl, g, t2, m, rfl, hS, hm, fun b o e => ?_⟩
          have b0 : b < s.heap.objs.size := Heap.lt_size e
          refine mv.heap b o ?_ (Heap.get?_push_of_some _ (Heap.get?_push_of_some _ e))
          simp only [List.mem_cons, List.mem_singleton, List.not_mem_nil, or_false, not_or]
          exact ⟨Nat.ne_of_lt b0, by rw [Heap.size_push]; exact Nat.ne_of_lt (Nat.lt_succ_of_lt b0)⟩
      · cases r₂ with
        | error e => exact hr₂
        | ok fl₂ => cases fl₂ with
          | ret r =>
            obtain ⟨rfl, g, t, m, rfl, h1, h2, h3⟩ := hr₂
            repeat (any_goals first | assumption | wp_step)
            exact goal _ _ _ h1 h2 h3
          | _ => exact hr₂.elim
    | _ => exact hr.elim
end
section
variable {X : Cx}
def rSetL (K : PySem.W.Frag) (w : World) : List V → Hp → VK → Prop := fun xs H Q => ∃ (a : Addr) (ns : List Int), xs = [.ref a] ∧ SqL K H a (ns.map V.int) ∧ ns.length ≤ 1000 ∧
  ∀ p c, c ≤ ns.length → H p = none → Q (.ref p) (upd H p (SetO w p (fun j => decide (j ∈ ns)) c))
theorem cr_setL (hc : X.calm = true) : CallR X (.type "set") (rSetL X.K X.w) := by
  intro pins s σ H xs us Q I r h
  obtain ⟨a, ns, rfl, hs, hz, q⟩ := h
  obtain ⟨its, rv, hl, hz2⟩ := I.list hs
  rw [Vals.ref1 r]
  refine callSetL ns (I.ok.hd hc) hl.isList (rv.ints) (by unfold scanBound; omega) fun g t c h1 h2 h3 => ?_
  have hn : H s.heap.objs.size = none := I.hok.fresh (Nat.le_refl _)
  exact ⟨.ref _, upd H s.heap.objs.size (SetO X.w s.heap.objs.size (fun j => decide (j ∈ ns)) c), I.laid (t' := t) h3 (Nat.le_refl _) (setO_new h1), rfl, q _ _ h2 hn⟩
end

section
variable {H : Hp} {Φ : Hp → Prop}
theorem goF {p C dx : Addr} {fs : List (Str × V)} {f : Str} {v : V} (h : H p = some (.ins C dx fs)) (k : ∀ H1, H1 p = some (.ins C dx (putF f v fs)) → Kp [p] [p] H H1 → Φ H1) : Φ (upd H p (.ins C dx (putF f v fs))) :=
  k _ upd_same (Kp.upd h trivial (by simp))
theorem goNew {q : Addr} {o : HO} (hn : H q = none) (k : ∀ H1, H1 q = some o → Kp [] [q] H H1 → Φ H1) : Φ (upd H q o) := k _ upd_same (Kp.newIn hn)
end
theorem Kp.at1 {S S' : List Addr} {H H' : Hp} (k : Kp S S' H H') {b : Addr} {o : HO} (h : H b = some o) (n : ∀ s ∈ S, b ≠ s) : H' b = some o := k.kept b o h fun m => n b m rfl
theorem none_in {b : Addr} : b ∉ ([] : List Addr) := fun h => by cases h
theorem not1 {b p : Addr} (h : b ≠ p) : b ∉ [p] := fun m => h (List.mem_singleton.mp m)
theorem Kp.drop {S T : List Addr} {H H' : Hp} (k : Kp [] T H H') : Kp S S H H' := ⟨fun b o e _ => k.kept b o e none_in, fun _ m => .inl m, k.tups⟩
theorem Kp.add {S : List Addr} {q : Addr} {H H' : Hp} (k : Kp [] [q] H H') : Kp S (q :: S) H H' :=
  ⟨fun b o e _ => k.kept b o e none_in, fun b m => by
    rcases List.mem_cons.mp m with z | z
    · exact (k.own b (by simp [z])).imp (fun h => by cases h) id
    · exact .inl z, k.tups⟩
theorem Kp.inS {S : List Addr} {p : Addr} {H H' : Hp} (k : Kp [p] [p] H H') (h : p ∈ S) : Kp S S H H' :=
  ⟨fun b o e n => k.kept b o e fun m => n (by rw [List.mem_singleton.mp m]; exact h), fun _ m => .inl m, k.tups⟩
theorem Kp.inT {S T : List Addr} {x : Addr} {H H' : Hp} (k : Kp [x] T H H') (h : x ∈ S) : Kp S (T ++ S) H H' :=
  ⟨fun b o e n => k.kept b o e fun m => n (by rw [List.mem_singleton.mp m]; exact h), fun b m => by
    rcases List.mem_append.mp m with z | z
    · exact (k.own b z).imp (fun z => by rw [List.mem_singleton.mp z]; exact h) id
    · exact .inl z, k.tups⟩
theorem live0 {L T : List Addr} {H H' : Hp} (k : Kp [] T H H') (lv : ∀ b ∈ L, ∃ o, H b = some o) : ∀ b ∈ L, ∃ o, H' b = some o := fun b hb => by
  obtain ⟨o, e⟩ := lv b hb
  exact ⟨o, k.kept _ _ e none_in⟩
theorem live1 {L T : List Addr} {p : Addr} {o' : HO} {H H' : Hp} (k : Kp [p] T H H') (hp : H' p = some o') (lv : ∀ b ∈ L, ∃ o, H b = some o) : ∀ b ∈ L, ∃ o, H' b = some o := fun b hb => by
  obtain ⟨o, e⟩ := lv b hb
  by_cases z : b = p
  · rw [z]; exact ⟨_, hp⟩
  · exact ⟨o, k.kept _ _ e (not1 z)⟩
theorem live2 {L : List Addr} {q : Addr} {o : HO} {H : Hp} (h : H q = some o) (lv : ∀ b ∈ L, ∃ o, H b = some o) : ∀ b ∈ q :: L, ∃ o, H b = some o := fun b hb => by
  rcases List.mem_cons.mp hb with z | z
  · rw [z]; exact ⟨o, h⟩
  · exact lv b z
theorem dead {L : List Addr} {q : Addr} {H : Hp} (h : H q = none) (lv : ∀ b ∈ L, ∃ o, H b = some o) : q ∉ L := fun m => by
  obtain ⟨o, e⟩ := lv q m
  rw [h] at e; cases e
/-- what is owned and what is added -/
theorem Kp.one {p q : Addr} {H H' : Hp} (k : Kp [] [q] H H') : Kp [p] [p, q] H H' :=
  ⟨fun b o e _ => k.kept b o e none_in, fun b m => by
    rcases List.mem_cons.mp m with z | z
    · exact .inl (by simp [z])
    · exact (k.own b z).imp (fun h => by cases h) id, k.tups⟩
def BD.init (ns : List Int) (l : List (Int × Int)) : BD :=
  { m := ⟨ns ++ List.replicate (512 - ns.length) 65535, List.replicate 256 0, List.replicate 6 0⟩, ln := l, a := 0, b := 0, pc := 0, sp := 767, zero := false, lets := false, asleep := false, beat := 0, stop := none, sent := [], tc := [], bend := 0 }
theorem rep_flat (n : Nat) (x : Int) : (List.replicate n [V.int x]).flatten = (List.replicate n x).map V.int := by
  induction n with
  | zero => rfl
  | succ n ih => rw [List.replicate_succ, List.flatten_cons, ih, List.replicate_succ, List.map_cons]; rfl
theorem sorted_eq : ∀ {xs ys : List Int}, xs.Pairwise (· < ·) → ys.Pairwise (· < ·) → (∀ k, k ∈ xs ↔ k ∈ ys) → xs = ys
  | [], [], _, _, _ => rfl
  | [], y :: r, _, _, h => absurd ((h y).mpr (by simp)) (by simp)
  | x :: r, [], _, _, h => absurd ((h x).mp (by simp)) (by simp)
  | x :: r, y :: q, h1, h2, h => by
    obtain ⟨a1, a2⟩ := List.pairwise_cons.mp h1
    obtain ⟨b1, b2⟩ := List.pairwise_cons.mp h2
    have e : x = y := by
      have m1 := (h x).mp (by simp)
      have m2 := (h y).mpr (by simp)
      rcases List.mem_cons.mp m1 with z | z
      · exact z
      · rcases List.mem_cons.mp m2 with z2 | z2
        · exact z2.symm
        · have := b1 x z; have := a1 y z2; omega
    subst e
    congr 1
    refine sorted_eq a2 b2 fun k => ⟨fun m => ?_, fun m => ?_⟩
    · rcases List.mem_cons.mp ((h k).mp (List.mem_cons_of_mem _ m)) with z | z
      · subst z; exact absurd (a1 k m) (by omega)
      · exact z
    · rcases List.mem_cons.mp ((h k).mpr (List.mem_cons_of_mem _ m)) with z | z
      · subst z; exact absurd (b1 k m) (by omega)
      · exact z
structure LineOk (l : List (Int × Int)) : Prop where
  up : (l.map (·.1)).Pairwise (· < ·)
  pos : ∀ p ∈ l, 0 < p.1
  val : ∀ p ∈ l, 0 ≤ p.2 ∧ p.2 < 4
theorem tup_at {H : Hp} : ∀ {vs : List V} {l : List (Int × Int)} {i : Nat} {v : V}, Tups H vs (sentT l) → vs[i]? = some v → ∃ (t : Addr) (x : Int × Int), v = .ref t ∧ H t = some (.tup [.int x.1, .int x.2]) ∧ l[i]? = some x
  | _, [], i, v, .nil, h => by simp at h
  | _, x :: r, 0, v, .cons ⟨t, e, ht⟩ _, h => ⟨t, x, (Option.some.inj h).symm.trans e, ht, rfl⟩
  | _, x :: r, i + 1, v, .cons _ q, h => tup_at (l := r) (i := i) q h
theorem take_snoc {α : Type} {l : List α} {i : Nat} {x : α} (h : l[i]? = some x) : l.take (i + 1) = l.take i ++ [x] := by rw [List.take_add_one, h]; rfl
section
variable {P : Program} {w : World} {K : PySem.W.Frag} {mg : Str → Option Value} {base : Heap}
def sp_is_word (K : PySem.W.Frag) : Sp := fun vs H Q _ => ∃ (n : Int), vs = [.int n] ∧ (Q (.bl (decide (0 ≤ n ∧ n ≤ 65535))) H)
abbrev N_is_word : List Str := ["thing"]
theorem sc_is_word : FnScope N_is_word ["thing"] (defScope s_is_word) := ⟨rfl, rfl, rfl, by decide +kernel, rfl, by decide +kernel, by decide +kernel⟩
theorem ok_is_word (T : Txt K mg) : Ok P w K mg base CX0 1 (He.fAd K ("is_word", none)) ["thing"] (sp_is_word K) := by
  obtain ⟨fd, F⟩ := T.d_is_word
  refine ⟨fd, F.ok sc_is_word (fun vs H Q E h => by obtain ⟨n, rfl, _⟩ := h; rfl) (fun cdv A_ outer s_ H vs Q E hr h => ?_), F.bindsN (fun _ _ _ _ _ _ us hl => match us, hl with | [_], _ => rfl), F.kp⟩
  obtain ⟨n, rfl, h⟩ := h
  have hu := hu_of hr
  refine ⟨_, PSs.nox (pss_one (ps_ret (pe_and (pe_callB call_isi (by rfl) T.f_isinstance (by decide +kernel) (pa_cons (pv 0) (pa_cons (pe_bltn (v := .ty "int") (by rfl) T.f_int (by decide +kernel) rfl) pa_nil))) (pe_and (pe_not (pe_callB call_isi (by rfl) T.f_isinstance (by decide +kernel) (pa_cons (pv 0) (pa_cons (pe_bltn (v := .ty "bool") (by rfl) T.f_bool (by decide +kernel) rfl) pa_nil)))) (pe_one (pe_chain op_le op_le pe_int (pv 0) (gi_ (by rfl) T.c_MOST))))))), ?_⟩
  refine ⟨_, rfl, _, _, _, _, true, rfl, .ty "int", .base (.int n), kit_ty (by decide +kernel), _, rfl, iteT ?_⟩
  refine ⟨_, rfl, _, _, _, _, false, rfl, .ty "bool", .base (.int n), kit_ty (by decide +kernel), _, rfl, _, rfl, iteT ?_⟩
  refine ⟨_, rfl, _, _, rfl, rfl, _, rfl, iteD (fun h1 => ?_) (fun h1 => ?_)⟩
  · refine ⟨_, _, rfl, rfl, ?_⟩
    have e : decide (n ≤ 65535) = decide (0 ≤ n ∧ n ≤ 65535) := by by_cases z : n ≤ 65535 <;> simp [z, h1]
    show Q (.bl (decide (n ≤ 65535))) H
    rw [e]; exact h
  · have e : decide (0 ≤ n ∧ n ≤ 65535) = false := decide_eq_false fun z => h1 z.1
    rw [e] at h; exact h
def sp_is_line (K : PySem.W.Frag) : Sp := fun vs H Q _ => ∃ (a : Addr) (ls : List V) (l : List (Int × Int)), vs = [.ref a] ∧ (SqL K H a ls ∧ Tups H ls (sentT l) ∧ LineOk l ∧ l.length < 64 ∧ ∀ H', Same H H' → Q (.bl true) H')
abbrev N_is_line : List Str := ["line", "beat", "value", "beats", "good"]
theorem sc_is_line : FnScope N_is_line ["line"] (defScope s_is_line) := ⟨rfl, rfl, rfl, by decide +kernel, rfl, by decide +kernel, by decide +kernel⟩
theorem ok_is_line (T : Txt K mg) : Ok P w K mg base CX0 1 (He.fAd K ("is_line", none)) ["line"] (sp_is_line K) := by
  obtain ⟨fd, F⟩ := T.d_is_line
  refine ⟨fd, F.ok sc_is_line (fun vs H Q E h => by obtain ⟨a, ls, l, rfl, _⟩ := h; rfl) (fun cdv A_ outer s_ H vs Q E hr h => ?_), F.bindsN (fun _ _ _ _ _ _ us hl => match us, hl with | [_], _ => rfl), F.kp⟩
  obtain ⟨a, ls, l, rfl, h⟩ := h
  have hu := hu_of hr
  refine ⟨_, PSs.nox (pss_cons (ps_setLc (i := 3) (own := [("beat", 1), ("value", 2)]) (g := (gTup K 2 (gCons (gName 1) (gCons (gName 2) gNil)))) (tt := tYes) rfl sc_is_line.nd rfl rfl (sw_true rfl rfl rfl (by decide +kernel)) (pi_list (pv 0)) (blkOk_by (own := [("beat", 1), ("value", 2)]) (N := N_is_line) (sc := defScope s_is_line) (by decide +kernel)) (fun _ _ _ _ _ => (pg_tup rfl (pgs_cons (pg_name (i := 1) sc_is_line.nd rfl (.inl rfl)) (pgs_cons (pg_name (i := 2) sc_is_line.nd rfl (.inl rfl)) pgs_nil)))) (fun _ _ _ _ _ => pts_nil) (fun _ _ _ _ _ => (pv 1)))
  (pss_cons (ps_setLc (i := 4) (own := [("beat", 1), ("value", 2)]) (g := (gTup K 2 (gCons (gName 1) (gCons (gName 2) gNil)))) rfl sc_is_line.nd rfl rfl (sw_true rfl rfl rfl (by decide +kernel)) (pi_list (pv 0)) (blkOk_by (own := [("beat", 1), ("value", 2)]) (N := N_is_line) (sc := defScope s_is_line) (by decide +kernel)) (fun _ _ _ _ _ => (pg_tup rfl (pgs_cons (pg_name (i := 1) sc_is_line.nd rfl (.inl rfl)) (pgs_cons (pg_name (i := 2) sc_is_line.nd rfl (.inl rfl)) pgs_nil)))) (fun _ _ _ _ _ => pts_one (pt_chain op_le op_lt pe_int (pv 2) pe_int)) (fun _ _ _ _ _ => (pv 2)))
  (pss_one (ps_ret (pe_and (pe_cmpR op_eq (pe_callB call_len_seq (by rfl) T.f_len PySem.boot_len (pa_cons (pv 4) pa_nil)) (pe_callB call_len_seq (by rfl) T.f_len PySem.boot_len (pa_cons (pv 0) pa_nil)) (nomark _)) (pe_and (pe_cmpR (op_eqD hr.units) (pv 3) (pe_callB (cr_sortedSet rfl) (by rfl) T.f_sorted (by decide +kernel) (pa_cons (pe_callTy (cr_setL rfl) (by rfl) T.f_set (by decide +kernel) (pa_cons (pv 3) pa_nil)) pa_nil)) (nomark _)) (pe_one (pe_or (pe_cmpR (op_eqD hr.units) (pv 3) (pe_lst pa_nil) (nomark _)) (pe_one (pe_cmpR op_gt (pe_ix ix_list (pv 3) pe_int (fun _ _ => rfl)) pe_int (nomark _))))))))))), ?_⟩
  obtain ⟨hs, ht, ok, hl, q⟩ := h
  have len : ls.length = l.length := by have e := Paired.length ht; unfold sentT at e; rwa [List.length_map] at e
  have s0 : 0 ≤ sizeLine := by decide
  -- beats
  refine ⟨_, rfl, _, rfl, ⟨_, hs⟩, fun b nb => lc_list (K := K) (a := a) (xs := ls) (fun i H1 => Same H H1 ∧ H1 b = some (.lst (((l.take i).map (·.1)).map V.int))) ⟨fun c o e => by rw [upd_ne (ne_of_none e nb)]; exact e, upd_same⟩ (fun i H1 _ p => p.1.seq hs) ?_ ?_⟩
  · rintro i v H1 hi ⟨sm, hb⟩
    obtain ⟨t, x, rfl, hx, hlx⟩ := tup_at ht hi
    have il := (List.getElem?_eq_some_iff.mp hlx).1
    refine ⟨_, _, rfl, SqT.of (sm _ _ hx), rfl, _, _, rfl, _, _, rfl, rfl, rfl, _, rfl, _, hb, small_ (by simp; omega), ?_, ?_⟩
    · intro c o e
      rw [upd_ne (ne_of_none e nb)]; exact sm c o e
    · rw [upd_same, take_snoc hlx, List.map_append, List.map_append]; rfl
  rintro H1 ⟨s1, hb⟩
  rw [len, List.take_length] at hb
  -- good
  refine ⟨_, rfl, _, rfl, ⟨_, s1.seq hs⟩, fun g ng => lc_list (K := K) (a := a) (xs := ls) (fun i H2 => Same H1 H2 ∧ H2 g = some (.lst (((l.take i).map (·.2)).map V.int))) ⟨fun c o e => by rw [upd_ne (ne_of_none e ng)]; exact e, upd_same⟩ (fun i H2 _ p => p.1.seq (s1.seq hs)) ?_ ?_⟩
  · rintro i v H2 hi ⟨sm, hg⟩
    obtain ⟨t, x, rfl, hx, hlx⟩ := tup_at ht hi
    have il := (List.getElem?_eq_some_iff.mp hlx).1
    obtain ⟨v1, v2⟩ := ok.val x (List.mem_of_getElem? hlx)
    refine ⟨_, _, rfl, SqT.of (sm _ _ (s1 _ _ hx)), rfl, _, _, rfl, _, _, rfl, rfl, rfl, ?_⟩
    refine ⟨_, rfl, _, _, rfl, rfl, _, rfl, iteD (fun _ => ?_) (fun z => absurd v1 z)⟩
    refine ⟨_, _, rfl, rfl, _, rfl, iteD (fun _ => ?_) (fun z => absurd v2 z)⟩
    refine ⟨_, rfl, _, hg, small_ (by simp; omega), ?_, ?_⟩
    · intro c o e
      rw [upd_ne (ne_of_none e ng)]; exact sm c o e
    · rw [upd_same, take_snoc hlx, List.map_append, List.map_append]; rfl
  rintro H2 ⟨s2, hg⟩
  rw [len, List.take_length] at hg
  have s02 := s1.trans s2
  have hb2 := s2 _ _ hb
  refine ⟨_, rfl, _, _, rfl, .inl (SqL.of hg), _, rfl, _, _, rfl, .inl (s02.seq hs), rfl, _, rfl, ?_⟩
  rw [decide_eq_true (show V.int (((l.map (·.2)).map V.int).length : Int) = V.int (ls.length : Int) from by rw [List.length_map, List.length_map, len])]
  refine iteT ?_
  refine ⟨_, rfl, _, rfl, _, _, rfl, SqL.of hb2, by rw [List.length_map]; omega, fun p c hc np => ?_⟩
  refine ⟨_, _, _, rfl, upd_same, by rw [List.length_map] at hc; omega, fun ns d up mem_ nlen nd => ?_⟩
  have en : ns = l.map (·.1) := sorted_eq up ok.up fun k => by rw [mem_ k]; simp
  subst en
  have hb3 : (upd (upd H2 p (SetO w p (fun j => decide (j ∈ l.map (·.1))) c)) d (.lst ((l.map (·.1)).map V.int))) b = some (.lst ((l.map (·.1)).map V.int)) := by
    have h1 : (upd H2 p (SetO w p (fun j => decide (j ∈ l.map (·.1))) c)) b = some (.lst ((l.map (·.1)).map V.int)) := by rw [upd_ne (ne_of_none hb2 np)]; exact hb2
    rw [upd_ne (ne_of_none h1 nd)]; exact h1
  have s3 : Same H (upd (upd H2 p (SetO w p (fun j => decide (j ∈ l.map (·.1))) c)) d (.lst ((l.map (·.1)).map V.int))) := fun x o e => by
    have h1 : (upd H2 p (SetO w p (fun j => decide (j ∈ l.map (·.1))) c)) x = some o := by rw [upd_ne (ne_of_none (s02 _ _ e) np)]; exact s02 _ _ e
    rw [upd_ne (ne_of_none h1 nd)]; exact h1
  refine ⟨_, _, dpL (SqL.of hb3), dpL (SqL.of upd_same), shp_ints _, shp_ints _, _, rfl, ?_⟩
  rw [eqv_intL, decide_eq_true rfl]
  refine iteT ?_
  refine ⟨_, rfl, s0, fun e0 ne0 => ?_⟩
  refine ⟨_, _, dpL (SqL.of ((upd_ne (ne_of_none hb3 ne0)).trans hb3)), dpL (xs := []) (SqL.of upd_same), shp_ints _, shp_ints _, _, rfl, ?_⟩
  rw [eqv_intL]
  have s4 : Same H (upd _ e0 (.lst [])) := fun x o e => (upd_ne (ne_of_none (s3 _ _ e) ne0)).trans (s3 _ _ e)
  cases l with
  | nil => exact iteT (q _ s4)
  | cons x r =>
    refine iteF ?_
    refine ⟨_, rfl, _, _, _, _, rfl, rfl, SqL.of ((upd_ne (ne_of_none hb3 ne0)).trans hb3), atI_nat (j := 0) rfl, _, _, rfl, rfl, ?_⟩
    show Q (.bl (decide (0 < x.1))) _
    rw [decide_eq_true (ok.pos x (by simp))]
    exact q _ s4
end

theorem merge_nil (l : List (Int × Int)) (h : (l.map (·.1)).Pairwise (· < ·)) : mergeK [] (lineK l) = lineK l := by
  have go : ∀ (r : List (Int × Int)) (acc : List (Key × V)), (r.map (·.1)).Pairwise (· < ·) → (∀ p ∈ r, valV acc (Sum.inl p.1 : Key) = none) → mergeK acc (lineK r) = acc ++ lineK r := by
    intro r
    induction r with
    | nil => intro acc _ _; exact (List.append_nil acc).symm
    | cons x r ih =>
      intro acc hp hn
      obtain ⟨h1, h2⟩ := List.pairwise_cons.mp (show (x.1 :: r.map (·.1)).Pairwise (· < ·) from hp)
      show mergeK (putK acc (Sum.inl x.1) (V.int x.2)) (lineK r) = _
      rw [putK_new _ (hn x (by simp)), ih _ h2 (fun p hp2 => by
        rw [valV_snoc _ _ _ _ (hn x (by simp))]
        rw [if_neg]
        · exact hn p (List.mem_cons_of_mem _ hp2)
        · intro e
          have := h1 p.1 (List.mem_map_of_mem hp2)
          have e2 := Sum.inl.inj e
          omega)]
      rw [List.append_assoc]; rfl
  have := go l [] h (fun _ _ => rfl)
  rw [this]; rfl
section
variable {P : Program} {w : World} {K : PySem.W.Frag} {mg : Str → Option Value} {base : Heap}
def sp_Memory_init (K : PySem.W.Frag) : Sp := fun vs H Q _ => ∃ (p dx a : Addr) (ns : List Int), vs = [.ref p, .ref a] ∧ (H p = some (.ins (He.ga K "Memory") dx []) ∧ SqL K H a (ns.map V.int) ∧ ns.length ≤ 512 ∧ ∀ H' A, MemAt K H' A ⟨ns ++ List.replicate (512 - ns.length) 65535, List.replicate 256 0, List.replicate 6 0⟩ → A.p = p → Kp [p] A.own H H' → [A.f, A.r, A.pl].Nodup → Q .non H')
abbrev N_Memory_init : List Str := ["self", "image"]
theorem sc_Memory_init : FnScope N_Memory_init ["self", "image"] (defScope s_Memory_init) := ⟨rfl, rfl, rfl, by decide +kernel, rfl, by decide +kernel, by decide +kernel⟩
theorem ok_Memory_init (T : Txt K mg) : Ok P w K mg base CX0 1 (He.fAd K ("Memory", some "__init__")) ["self", "image"] (sp_Memory_init K) := by
  obtain ⟨fd, F⟩ := T.d_Memory_init
  refine ⟨fd, F.ok sc_Memory_init (fun vs H Q E h => by obtain ⟨p, dx, a, ns, rfl, _⟩ := h; rfl) (fun cdv A_ outer s_ H vs Q E hr h => ?_), F.bindsN (fun _ _ _ _ _ _ us hl => match us, hl with | [_, _], _ => rfl), F.kp⟩
  obtain ⟨p, dx, a, ns, rfl, h⟩ := h
  have hu := hu_of hr
  refine ⟨_, PSs.nox (pss_cons (ps_fld (pv 0) (pe_op op_cat (pe_callTy call_list_of (by rfl) T.f_list (by decide +kernel) (pa_cons (pv 1) pa_nil)) (pe_op op_rep (pe_lst (pa_cons (gi_ (by rfl) T.c_ERASED) pa_nil)) (pe_op op_sub (gi_ (by rfl) T.c_FLASH) (pe_callB call_len_seq (by rfl) T.f_len PySem.boot_len (pa_cons (pv 1) pa_nil))))) rfl)
  (pss_cons (ps_fld (pv 0) (pe_op op_rep (pe_lst (pa_cons pe_int pa_nil)) (pe_op op_sub (gi_ (by rfl) T.c_RAM) (gi_ (by rfl) T.c_FLASH))) rfl)
  (pss_one (ps_fld (pv 0) (pe_op op_rep (pe_lst (pa_cons pe_int pa_nil)) pe_int) rfl)))), ?_⟩
  obtain ⟨hp, ha, hl, q⟩ := h
  have s1 : 1 ≤ sizeLine := by decide
  refine ⟨_, rfl, a, _, rfl, .inl ha, fun l1 n1 => ?_⟩
  have k1 := Kp.newIn (S := []) (o := .lst (ns.map V.int)) n1
  have h1 : (upd H l1 (.lst (ns.map V.int))) l1 = some (.lst (ns.map V.int)) := upd_same
  generalize upd H l1 (.lst (ns.map V.int)) = H1 at *
  refine ⟨s1, fun l2 n2 => ?_⟩
  have k2 := Kp.newIn (S := []) (o := .lst [V.int 65535]) n2
  have h2 : (upd H1 l2 (.lst [V.int 65535])) l2 = some (.lst [V.int 65535]) := upd_same
  generalize upd H1 l2 (.lst [V.int 65535]) = H2 at *
  have ha2 := k2.seq none_in (k1.seq none_in ha)
  have hp2 := k2.kept _ _ (k1.kept _ _ hp none_in) none_in
  have h12 := k2.kept _ _ h1 none_in
  have et : ((512 : Int) - ((ns.map V.int).length : Int)).toNat = 512 - ns.length := by rw [List.length_map]; omega
  refine ⟨_, rfl, a, _, rfl, .inl ha2, _, _, rfl, rfl, _, _, _, rfl, rfl, h2, ?_, ?_, ?_, fun l3 n3 => ?_⟩
  · rw [List.length_map]; omega
  · rw [List.length_map]; omega
  · rw [List.length_map]; exact small_le (by simp; omega)
  rw [et, rep_flat]
  have k3 := Kp.newIn (S := []) (o := .lst ((List.replicate (512 - ns.length) (65535 : Int)).map V.int)) n3
  have h3 : (upd H2 l3 (.lst ((List.replicate (512 - ns.length) (65535 : Int)).map V.int))) l3 = some _ := upd_same
  generalize upd H2 l3 (.lst ((List.replicate (512 - ns.length) (65535 : Int)).map V.int)) = H3 at *
  have h13 := k3.kept _ _ h12 none_in
  have hp3 := k3.kept _ _ hp2 none_in
  refine ⟨_, _, _, _, rfl, rfl, h13, h3, small_le (by simp; omega), fun l4 n4 => ?_⟩
  rw [← List.map_append]
  have k4 := Kp.newIn (S := []) (o := .lst ((ns ++ List.replicate (512 - ns.length) (65535 : Int)).map V.int)) n4
  have h4 : (upd H3 l4 (.lst ((ns ++ List.replicate (512 - ns.length) (65535 : Int)).map V.int))) l4 = some _ := upd_same
  generalize upd H3 l4 (.lst ((ns ++ List.replicate (512 - ns.length) (65535 : Int)).map V.int)) = H4 at *
  have hp4 := k4.kept _ _ hp3 none_in
  refine ⟨_, rfl, _, _, _, _, rfl, hp4, T.k_Memory, T.n_Memory_flash, (by show 0 < 1000; decide), goF hp4 fun H5 hp5 k5 => ?_⟩
  have n4p : l4 ≠ p := fun e => by rw [e, hp3] at n4; cases n4
  have h45 := k5.at1 h4 (by simpa using n4p)
  -- self.ram = [0] * (RAM - FLASH)
  refine ⟨s1, fun l5 n5 => ?_⟩
  have k6 := Kp.newIn (S := []) (o := .lst [V.int 0]) n5
  have h6 : (upd H5 l5 (.lst [V.int 0])) l5 = some (.lst [V.int 0]) := upd_same
  generalize upd H5 l5 (.lst [V.int 0]) = H6 at *
  refine ⟨_, _, rfl, rfl, _, _, _, rfl, rfl, h6, by decide, by decide, small_le (by decide), fun l6 n6 => ?_⟩
  rw [rep_flat]
  have k7 := Kp.newIn (S := []) (o := .lst ((List.replicate 256 (0 : Int)).map V.int)) n6
  have h7 : (upd H6 l6 (.lst ((List.replicate 256 (0 : Int)).map V.int))) l6 = some _ := upd_same
  have e7 : (upd H6 l6 (.lst ((List.replicate ((768 : Int) - 512).toNat (0 : Int)).map V.int))) = (upd H6 l6 (.lst ((List.replicate 256 (0 : Int)).map V.int))) := rfl
  rw [e7]
  generalize upd H6 l6 (.lst ((List.replicate 256 (0 : Int)).map V.int)) = H7 at *
  have hp7 := k7.kept _ _ (k6.kept _ _ hp5 none_in) none_in
  have h47 := k7.kept _ _ (k6.kept _ _ h45 none_in) none_in
  have n6p : l6 ≠ p := fun e => by rw [e, k6.kept _ _ hp5 none_in] at n6; cases n6
  have n64 : l6 ≠ l4 := fun e => by rw [e, k6.kept _ _ h45 none_in] at n6; cases n6
  refine ⟨_, rfl, _, _, _, _, rfl, hp7, T.k_Memory, T.n_Memory_ram, (by show 1 < 1000; decide), goF hp7 fun H8 hp8 k8 => ?_⟩
  have h48 := k8.at1 h47 (by simpa using n4p)
  have h68 := k8.at1 h7 (by simpa using n6p)
  -- self.places = [0] * 6
  refine ⟨s1, fun l7 n7 => ?_⟩
  have k9 := Kp.newIn (S := []) (o := .lst [V.int 0]) n7
  have h9 : (upd H8 l7 (.lst [V.int 0])) l7 = some (.lst [V.int 0]) := upd_same
  generalize upd H8 l7 (.lst [V.int 0]) = H9 at *
  refine ⟨_, _, _, rfl, rfl, h9, by decide, by decide, small_le (by decide), fun l8 n8 => ?_⟩
  rw [rep_flat]
  have kA := Kp.newIn (S := []) (o := .lst ((List.replicate 6 (0 : Int)).map V.int)) n8
  have hA : (upd H9 l8 (.lst ((List.replicate 6 (0 : Int)).map V.int))) l8 = some _ := upd_same
  have e8 : (upd H9 l8 (.lst ((List.replicate (6 : Int).toNat (0 : Int)).map V.int))) = (upd H9 l8 (.lst ((List.replicate 6 (0 : Int)).map V.int))) := rfl
  rw [e8]
  generalize upd H9 l8 (.lst ((List.replicate 6 (0 : Int)).map V.int)) = HA at *
  have hpA := kA.kept _ _ (k9.kept _ _ hp8 none_in) none_in
  have h4A := kA.kept _ _ (k9.kept _ _ h48 none_in) none_in
  have h6A := kA.kept _ _ (k9.kept _ _ h68 none_in) none_in
  have n8p : l8 ≠ p := fun e => by rw [e, k9.kept _ _ hp8 none_in] at n8; cases n8
  have n84 : l8 ≠ l4 := fun e => by rw [e, k9.kept _ _ h48 none_in] at n8; cases n8
  have n86 : l8 ≠ l6 := fun e => by rw [e, k9.kept _ _ h68 none_in] at n8; cases n8
  refine ⟨_, rfl, _, _, _, _, rfl, hpA, T.k_Memory, T.n_Memory_places, (by show 2 < 1000; decide), goF hpA fun HB hpB kB => ?_⟩
  refine q HB ⟨p, dx, l4, l6, l8⟩ ⟨?_, kB.at1 h4A (by simpa using n4p), kB.at1 h6A (by simpa using n6p), kB.at1 hA (by simpa using n8p), by simp; omega, by simp, by simp⟩ rfl ?_ (by simp [n64.symm, n84.symm, n86.symm])
  · exact hpB
  · have a1 : Kp [p] [l4, p] H H5 := (k1.drop.trans (k2.drop.trans (k3.drop.trans k4.add))).trans (k5.inS (by simp))
    have a2 : Kp [l4, p] [l6, l4, p] H5 H8 := (k6.drop.trans k7.add).trans (k8.inS (by simp))
    have a3 : Kp [l6, l4, p] [l8, l6, l4, p] H8 HB := (k9.drop.trans kA.add).trans (kB.inS (by simp))
    exact (a1.trans (a2.trans a3)).sub fun b hb => by
      simp only [MA.own, List.mem_cons, List.not_mem_nil, or_false] at hb ⊢
      rcases hb with h | h | h | h <;> simp [h]
end

theorem tups_pairs {K : PySem.W.Frag} {H : Hp} : ∀ {ls : List V} {l : List (Int × Int)}, Tups H ls (sentT l) → ∃ ps : List Addr, ls = ps.map V.ref ∧ Paired (fun p (kv : Key × V) => SqT K H p [kV kv.1, kv.2]) ps (lineK l)
  | _, [], .nil => ⟨[], rfl, .nil⟩
  | _, x :: r, .cons ⟨t, e, h⟩ q => by
    obtain ⟨ps, e2, h2⟩ := tups_pairs (K := K) (l := r) q
    exact ⟨t :: ps, by rw [e, e2]; rfl, .cons (SqT.of h) h2⟩
theorem Same.tups {H H' : Hp} (s : Same H H') {ls : List V} {xss : List (List V)} (h : Tups H ls xss) : Tups H' ls xss := h.mono fun b xs e => s b _ e
section
variable {P : Program} {w : World} {K : PySem.W.Frag} {mg : Str → Option Value} {base : Heap}
def sp_Board_init (K : PySem.W.Frag) : Sp := fun vs H Q _ => ∃ (p dx a al : Addr) (ns : List Int) (ls : List V) (l : List (Int × Int)), vs = [.ref p, .ref a, .ref al] ∧ (H p = some (.ins (He.ga K "Board") dx []) ∧ SqL K H a (ns.map V.int) ∧ H al = some (.lst ls) ∧ Tups H ls (sentT l) ∧ LineOk l ∧ l.length < 64 ∧ ns.length ≤ 512 ∧ (∀ n ∈ ns, 0 ≤ n ∧ n ≤ 65535) ∧ ∀ H' A, BoardAt K H' A (BD.init ns l) → A.p = p → Kp [p] A.own H H' → Q .non H')
abbrev N_Board_init : List Str := ["self", "image", "line", "word"]
theorem sc_Board_init : FnScope N_Board_init ["self", "image", "line"] (defScope s_Board_init) := ⟨rfl, rfl, rfl, by decide +kernel, rfl, by decide +kernel, by decide +kernel⟩
theorem ok_Board_init (T : Txt K mg) : Ok P w K mg base CX0 3 (He.fAd K ("Board", some "__init__")) ["self", "image", "line"] (sp_Board_init K) := by
  obtain ⟨_, G_is_word, b_is_word, kp_is_word⟩ := ok_is_word (P := P) (w := w) (base := base) T
  obtain ⟨_, G_is_line, b_is_line, kp_is_line⟩ := ok_is_line (P := P) (w := w) (base := base) T
  obtain ⟨_, G_Memory_init, b_Memory_init, kp_Memory_init⟩ := ok_Memory_init (P := P) (w := w) (base := base) T
  obtain ⟨fd, F⟩ := T.d_Board_init
  refine ⟨fd, F.ok sc_Board_init (fun vs H Q E h => by obtain ⟨p, dx, a, al, ns, ls, l, rfl, _⟩ := h; rfl) (fun cdv A_ outer s_ H vs Q E hr h => ?_), F.bindsN (fun _ _ _ _ _ _ us hl => match us, hl with | [_, _, _], _ => rfl), F.kp⟩
  obtain ⟨p, dx, a, al, ns, ls, l, rfl, h⟩ := h
  have hu := hu_of hr
  refine ⟨_, PSs.nox (pss_cons (ps_if (PW.pt (pw_or (pt_cmpR op_gt (pe_callB call_len_seq (by rfl) T.f_len PySem.boot_len (pa_cons (pv 1) pa_nil)) (gi_ (by rfl) T.c_FLASH) (nomark _)) (pw_or (pt_not (pt_val (pe_callB (cr_all rfl) (by rfl) T.f_all (by decide +kernel) (pa_cons (pe_lc (own := [("word", 3)]) (g := gName 3) (tt := tYes) rfl sc_Board_init.nd (pi_list (pv 1)) (blkOk_by (own := [("word", 3)]) (N := N_Board_init) (sc := defScope s_Board_init) (by decide +kernel)) (fun _ _ _ _ _ => pg_name (i := 3) sc_Board_init.nd rfl (Or.inl rfl)) (fun _ _ _ _ _ => pts_nil) (fun _ _ _ _ _ => (pe_call G_is_word (hr.mono (by decide)) (by rfl) T.g_is_word kp_is_word b_is_word .nil pass0 (pa_cons (pv 3) pa_nil)))) pa_nil)))) (pw_or1 (pt_not (pt_val (pe_call G_is_line (hr.mono (by decide)) (by rfl) T.g_is_line kp_is_line b_is_line .nil pass0 (pa_cons (pv 2) pa_nil)))))))) (pss_one ps_never) pss_nil)
  (pss_cons (ps_fld (pv 0) (pe_make T.mk_Memory G_Memory_init (hr.mono (by decide)) (by rfl) T.g_Memory b_Memory_init .nil pass0 (pa_cons (pv 1) pa_nil)) rfl)
  (pss_cons (ps_fld (pv 0) (pe_callTy (call_dictP rfl) (by rfl) T.f_dict (by decide +kernel) (pa_cons (pv 2) pa_nil)) rfl)
  (pss_cons (ps_fld (pv 0) (pe_disp (pps_cons pe_str pe_int (pps_cons pe_str pe_int (pps_cons pe_str pe_int (pps_cons pe_str (gi_ (by rfl) T.c_FIRST_STACK) pps_nil)))) (by rfl) (by rfl) (fun z => by cases z) (by decide)) rfl)
  (pss_cons (ps_fld (pv 0) pe_bl rfl)
  (pss_cons (ps_fld (pv 0) pe_bl rfl)
  (pss_cons (ps_fld (pv 0) pe_bl rfl)
  (pss_cons (ps_fld (pv 0) pe_int rfl)
  (pss_cons (ps_fld (pv 0) pe_non rfl)
  (pss_cons (ps_fld (pv 0) (pe_lst pa_nil) rfl)
  (pss_cons (ps_fld (pv 0) (pe_lst pa_nil) rfl)
  (pss_one (ps_fld (pv 0) pe_int rfl))))))))))))), ?_⟩
  obtain ⟨hp, ha, hal, htu, lok, ll, hl, hw, q⟩ := h
  have s0 : 0 ≤ sizeLine := by decide
  refine ⟨_, rfl, _, _, rfl, .inl ha, _, _, rfl, rfl, _, rfl, iteD (fun z => absurd (show (512 : Int) < ((ns.map V.int).length : Int) from z) (by rw [List.length_map]; omega)) (fun _ => ?_)⟩
  refine ⟨_, rfl, _, rfl, ⟨_, ha⟩, fun b nb => lc_list (K := K) (a := a) (xs := ns.map V.int) (fun i H1 => Same H H1 ∧ H1 b = some (.lst ((List.replicate i true).map V.bl))) ⟨fun c o e => by rw [upd_ne (ne_of_none e nb)]; exact e, upd_same⟩ (fun i H1 _ p => p.1.seq ha) ?_ ?_⟩
  · rintro i v H1 hi ⟨sm, hb⟩
    rw [List.getElem?_map] at hi
    cases hz : ns[i]? with
    | none => rw [hz] at hi; cases hi
    | some n =>
      rw [hz] at hi
      have ev : v = .int n := (Option.some.inj hi).symm
      subst ev
      have il := (List.getElem?_eq_some_iff.mp hz).1
      refine ⟨rfl, _, rfl, n, rfl, _, hb, small_ (by simp; omega), ?_, ?_⟩
      · intro c o e
        rw [upd_ne (ne_of_none e nb)]; exact sm c o e
      · rw [upd_same, decide_eq_true (hw n (List.mem_of_getElem? hz)), List.replicate_succ', List.map_append]; rfl
  rintro H1 ⟨s1, hb⟩
  rw [List.length_map] at hb
  refine ⟨_, _, rfl, SqL.of hb, _, rfl, ?_⟩
  rw [show (List.replicate ns.length true).all id = true from by rw [List.all_eq_true]; intro x hx; exact (List.mem_replicate.mp hx).2]
  refine iteF ?_
  refine ⟨_, rfl, _, _, _, rfl, SqL.of (s1 _ _ hal), htu.mono (fun b xs e => s1 b _ e), lok, ll, fun H2 s2 => ⟨_, rfl, iteF ?_⟩⟩
  have s02 := s1.trans s2
  -- self.memory = Memory(image)
  have hp2 := s02 _ _ hp
  have ha2 := s02.seq ha
  have k02 : Kp [p] [p] H H2 := (Kp.ofSame s02).drop
  refine ⟨_, rfl, fun x dx2 nx ndx nex => ?_⟩
  have hx : (upd (upd H2 dx2 (.own x)) x (.ins (He.ga K "Memory") dx2 [])) x = some (.ins (He.ga K "Memory") dx2 []) := upd_same
  have kA : Kp [] [x] H2 (upd (upd H2 dx2 (.own x)) x (.ins (He.ga K "Memory") dx2 [])) := (Kp.new (S := []) ndx).trans (Kp.newIn (by rw [upd_ne nex.symm]; exact nx))
  generalize (upd (upd H2 dx2 (.own x)) x (.ins (He.ga K "Memory") dx2 [])) = H3 at *
  have hp3 := kA.kept _ _ hp2 none_in
  have nxp : x ≠ p := fun e => by rw [e, hp2] at nx; cases nx
  refine ⟨x, dx2, a, ns, rfl, hx, kA.seq none_in ha2, hl, fun H4 M mem eM kB ndM => ⟨rfl, ?_⟩⟩
  subst eM
  have k24 : Kp [p] (M.own ++ [M.p, p]) H H4 := (k02.trans kA.add).trans (kB.inT (by simp))
  have hp4 := kB.kept _ _ hp3 (not1 nxp.symm)
  have nMp : ∀ b ∈ M.own, b ≠ p := by
    intro b hb
    simp only [MA.own, List.mem_cons, List.not_mem_nil, or_false] at hb
    rcases hb with h | h | h | h <;> rw [h]
    · exact nxp
    · exact ne_of mem.fl hp4 (by intro z; cases z)
    · exact ne_of mem.ra hp4 (by intro z; cases z)
    · exact ne_of mem.pl hp4 (by intro z; cases z)
  have lv4 : ∀ b ∈ p :: M.own, ∃ o, H4 b = some o := live2 hp4 fun b hb => by
    simp only [MA.own, List.mem_cons, List.not_mem_nil, or_false] at hb
    rcases hb with h | h | h | h <;> rw [h]
    · exact ⟨_, mem.ob⟩
    · exact ⟨_, mem.fl⟩
    · exact ⟨_, mem.ra⟩
    · exact ⟨_, mem.pl⟩
  have nd4 : (p :: M.own).Nodup := by
    refine List.nodup_cons.mpr ⟨fun m => nMp p m rfl, ?_⟩
    refine List.nodup_cons.mpr ⟨?_, ndM⟩
    simp only [List.mem_cons, List.not_mem_nil, or_false, not_or]
    exact ⟨mem.npf, mem.npr, mem.npp⟩
  have mkeep : ∀ {Ha Hb : Hp}, MemAt K Ha M ⟨ns ++ List.replicate (512 - ns.length) 65535, List.replicate 256 0, List.replicate 6 0⟩ → Kp [p] [p] Ha Hb → MemAt K Hb M ⟨ns ++ List.replicate (512 - ns.length) 65535, List.replicate 256 0, List.replicate 6 0⟩ := fun m k => m.keep k fun b hb => not1 (nMp b hb)
  have mkeep0 : ∀ {Ha Hb : Hp} {T : List Addr}, MemAt K Ha M ⟨ns ++ List.replicate (512 - ns.length) 65535, List.replicate 256 0, List.replicate 6 0⟩ → Kp [] T Ha Hb → MemAt K Hb M ⟨ns ++ List.replicate (512 - ns.length) 65535, List.replicate 256 0, List.replicate 6 0⟩ := fun m k => m.keep k fun b hb => none_in
  have hal4 : H4 al = some (.lst ls) := kB.kept _ _ (kA.kept _ _ (s02 _ _ hal) none_in) (not1 fun e => by rw [← e, s02 _ _ hal] at nx; cases nx)
  have htu4 : Tups H4 ls (sentT l) := htu.mono k24.tups
  refine ⟨_, rfl, _, _, _, _, rfl, hp4, T.k_Board, T.n_Board_memory, (by show 0 < 1000; decide), goF hp4 fun H5 hp5 k5 => ?_⟩
  have lv5 := live1 k5 hp5 lv4
  have nalp : al ≠ p := ne_of hal4 hp4 (by intro z; cases z)
  have hal5 := k5.at1 hal4 (by simpa using nalp)
  obtain ⟨ps, els, hps⟩ := tups_pairs (K := K) (htu4.mono k5.tups)
  -- self.line = dict(line)
  refine ⟨_, rfl, al, ps, lineK l, rfl, SqL.of (by rw [← els]; exact hal5), hps, fun d nd => ?_⟩
  rw [merge_nil l lok.up]
  have k6 := Kp.newIn (S := []) (o := .dK (lineK l)) nd
  have h6 : (upd H5 d (.dK (lineK l))) d = some _ := upd_same
  generalize upd H5 d (.dK (lineK l)) = H6 at *
  have hp6 := k6.kept _ _ hp5 none_in
  have fd := dead nd lv5
  have lv6 := live2 h6 (live0 k6 lv5)
  have nd6 : (d :: p :: M.own).Nodup := List.nodup_cons.mpr ⟨fd, nd4⟩
  have ndp : d ≠ p := fun e => fd (by simp [e])
  refine ⟨_, rfl, _, _, _, _, rfl, hp6, T.k_Board, T.n_Board_line, (by show 1 < 1000; decide), goF hp6 fun H7 hp7 k7 => ?_⟩
  have lv7 := live1 k7 hp7 lv6
  have hd7 := k7.at1 h6 (by simpa using ndp)
  have mem7 := mkeep (mkeep0 (mkeep mem k5) k6) k7
  -- self.registers
  refine fun r nr => ?_
  refine ⟨upd_same, RegD 0 0 0 767, rfl, (by show 4 ≤ 15; decide), ?_⟩
  rw [upd_upd, show mergeK [] (RegD 0 0 0 767) = RegD 0 0 0 767 from by kernel_rfl]
  have k8 := Kp.newIn (S := []) (o := .dK (RegD 0 0 0 767)) nr
  have h8 : (upd H7 r (.dK (RegD 0 0 0 767))) r = some _ := upd_same
  generalize upd H7 r (.dK (RegD 0 0 0 767)) = H8 at *
  have hp8 := k8.kept _ _ hp7 none_in
  have fr := dead nr lv7
  have lv8 := live2 h8 (live0 k8 lv7)
  have nd8 : (r :: d :: p :: M.own).Nodup := List.nodup_cons.mpr ⟨fr, nd6⟩
  have nrp : r ≠ p := fun e => fr (by simp [e])
  refine ⟨_, rfl, _, _, _, _, rfl, hp8, T.k_Board, T.n_Board_registers, (by show 2 < 1000; decide), goF hp8 fun H9 hp9 k9 => ?_⟩
  refine ⟨_, rfl, _, _, _, _, rfl, hp9, T.k_Board, T.n_Board_zero, (by show 3 < 1000; decide), goF hp9 fun HA hpA kA2 => ?_⟩
  refine ⟨_, rfl, _, _, _, _, rfl, hpA, T.k_Board, T.n_Board_lets, (by show 4 < 1000; decide), goF hpA fun HB hpB kB2 => ?_⟩
  refine ⟨_, rfl, _, _, _, _, rfl, hpB, T.k_Board, T.n_Board_asleep, (by show 5 < 1000; decide), goF hpB fun HC hpC kC => ?_⟩
  refine ⟨_, rfl, _, _, _, _, rfl, hpC, T.k_Board, T.n_Board_beat, (by show 6 < 1000; decide), goF hpC fun HD hpD kD => ?_⟩
  refine ⟨_, rfl, _, _, _, _, rfl, hpD, T.k_Board, T.n_Board_stopped, (by show 7 < 1000; decide), goF hpD fun HE hpE kE => ?_⟩
  have k8E : Kp [p] [p] H8 HE := k9.trans (kA2.trans (kB2.trans (kC.trans (kD.trans kE))))
  have lvE := live1 k8E hpE lv8
  have hdE := k8E.at1 (k8.kept _ _ hd7 none_in) (by simpa using ndp)
  have hrE := k8E.at1 h8 (by simpa using nrp)
  have memE := mkeep (mkeep0 mem7 k8) k8E
  refine ⟨s0, fun sn nsn => ?_⟩
  have kF := Kp.newIn (S := []) (o := .lst []) nsn
  have hF : (upd HE sn (.lst [])) sn = some _ := upd_same
  generalize upd HE sn (.lst []) = HF at *
  have hpF := kF.kept _ _ hpE none_in
  have fsn := dead nsn lvE
  have lvF := live2 hF (live0 kF lvE)
  have ndF : (sn :: r :: d :: p :: M.own).Nodup := List.nodup_cons.mpr ⟨fsn, nd8⟩
  have nsp : sn ≠ p := fun e => fsn (by simp [e])
  refine ⟨_, rfl, _, _, _, _, rfl, hpF, T.k_Board, T.n_Board_sent, (by show 8 < 1000; decide), goF hpF fun HG hpG kG => ?_⟩
  have lvG := live1 kG hpG lvF
  have hsG := kG.at1 hF (by simpa using nsp)
  refine ⟨s0, fun tc ntc => ?_⟩
  have kI := Kp.newIn (S := []) (o := .lst []) ntc
  have hI : (upd HG tc (.lst [])) tc = some _ := upd_same
  generalize upd HG tc (.lst []) = HI at *
  have hpI := kI.kept _ _ hpG none_in
  have ftc := dead ntc lvG
  have ndI : (tc :: sn :: r :: d :: p :: M.own).Nodup := List.nodup_cons.mpr ⟨ftc, ndF⟩
  have ntp : tc ≠ p := fun e => ftc (by simp [e])
  refine ⟨_, rfl, _, _, _, _, rfl, hpI, T.k_Board, T.n_Board_touched, (by show 9 < 1000; decide), goF hpI fun HJ hpJ kJ => ?_⟩
  refine ⟨_, rfl, _, _, _, _, rfl, hpJ, T.k_Board, T.n_Board_bend, (by show 10 < 1000; decide), goF hpJ fun HK hpK kK => ?_⟩
  have kIK := kJ.trans kK
  have kEK0 : Kp [p] [p] HE HK := (kF.drop.trans kG).trans (kI.drop.trans kIK)
  refine q HK ⟨p, dx, d, r, sn, tc, M, .non, [], []⟩ ⟨hpK, kEK0.at1 hdE (by simpa using ndp), kEK0.at1 hrE (by simpa using nrp), (kI.drop.trans kIK).at1 hsG (by simpa using nsp), kIK.at1 hI (by simpa using ntp), rfl, .nil, .nil, mkeep memE kEK0, ?_, Nat.zero_le _, Nat.zero_le _⟩ rfl ?_
  · show [p, d, r, sn, tc, M.p, M.f, M.r, M.pl].Nodup
    have h : [tc, sn, r, d, p, M.p, M.f, M.r, M.pl].Nodup := ndI
    have n (i j : Nat) {a b : Addr} (ha : [tc, sn, r, d, p, M.p, M.f, M.r, M.pl][i]? = some a) (hb : [tc, sn, r, d, p, M.p, M.f, M.r, M.pl][j]? = some b) (hij : i ≠ j) : ¬ a = b := ndne h i j ha hb hij
    simp only [List.nodup_cons, List.mem_cons, List.not_mem_nil, or_false, not_or]
    refine ⟨⟨n 4 3 rfl rfl ?_, n 4 2 rfl rfl ?_, n 4 1 rfl rfl ?_, n 4 0 rfl rfl ?_, n 4 5 rfl rfl ?_, n 4 6 rfl rfl ?_, n 4 7 rfl rfl ?_, n 4 8 rfl rfl ?_⟩, ⟨n 3 2 rfl rfl ?_, n 3 1 rfl rfl ?_, n 3 0 rfl rfl ?_, n 3 5 rfl rfl ?_, n 3 6 rfl rfl ?_, n 3 7 rfl rfl ?_, n 3 8 rfl rfl ?_⟩, ⟨n 2 1 rfl rfl ?_, n 2 0 rfl rfl ?_, n 2 5 rfl rfl ?_, n 2 6 rfl rfl ?_, n 2 7 rfl rfl ?_, n 2 8 rfl rfl ?_⟩, ⟨n 1 0 rfl rfl ?_, n 1 5 rfl rfl ?_, n 1 6 rfl rfl ?_, n 1 7 rfl rfl ?_, n 1 8 rfl rfl ?_⟩, ⟨n 0 5 rfl rfl ?_, n 0 6 rfl rfl ?_, n 0 7 rfl rfl ?_, n 0 8 rfl rfl ?_⟩, ⟨n 5 6 rfl rfl ?_, n 5 7 rfl rfl ?_, n 5 8 rfl rfl ?_⟩, ⟨n 6 7 rfl rfl ?_, n 6 8 rfl rfl ?_⟩, n 7 8 rfl rfl ?_, ?_⟩
    all_goals first | decide | exact ⟨not_false, List.nodup_nil⟩ | simp
  · have a1 : Kp [p] (d :: (M.own ++ [M.p, p])) H H7 := (k24.trans (k5.inS (by simp))).trans (k6.add.trans (k7.inS (by simp)))
    have a2 : Kp (d :: (M.own ++ [M.p, p])) (r :: d :: (M.own ++ [M.p, p])) H7 HE := k8.add.trans (k8E.inS (by simp))
    have a3 : Kp (r :: d :: (M.own ++ [M.p, p])) (sn :: r :: d :: (M.own ++ [M.p, p])) HE HG := kF.add.trans (kG.inS (by simp))
    have a4 : Kp (sn :: r :: d :: (M.own ++ [M.p, p])) (tc :: sn :: r :: d :: (M.own ++ [M.p, p])) HG HK := kI.add.trans (kIK.inS (by simp))
    exact (a1.trans (a2.trans (a3.trans a4))).sub fun b hb => by
      simp only [BA.own, List.mem_cons, List.not_mem_nil, or_false] at hb
      simp only [MA.own, List.mem_cons, List.mem_append, List.not_mem_nil, or_false]
      rcases hb with h | h | h | h | h | h | h | h | h <;> simp [h]
end

/-! ### own rules: x is a truth -/
section
variable {X : Cx}
theorem op_isB : OpR X (compareOp .Is) (fun x y H Q => ∃ a b : Bool, x = .bl a ∧ y = .bl b ∧ Q (.bl (decide (a = b))) H) := by
  intro pins s σ H x y v u Q I rx ry h
  obtain ⟨a, b, rfl, rfl, q⟩ := h
  cases rx
  cases ry
  refine wpAny_is_plain (by cases a <;> cases b <;> rfl) (fin_bl I q ?_)
  cases a <;> cases b <;> rfl
theorem op_isnotB : OpR X (compareOp .IsNot) (fun x y H Q => ∃ a b : Bool, x = .bl a ∧ y = .bl b ∧ Q (.bl (!decide (a = b))) H) := by
  intro pins s σ H x y v u Q I rx ry h
  obtain ⟨a, b, rfl, rfl, q⟩ := h
  cases rx
  cases ry
  show wpAny _ _ ((isSame (Value.bool a) (Value.bool b)) >>= fun z => pure (Value.bool (!z))) _ _ s
  exact wpAny_bind (wpAny_isSame_plain (by cases a <;> cases b <;> rfl) (wpAny_pure (fin_bl I q (by cases a <;> cases b <;> rfl))))
theorem pe_fldK {K : PySem.W.Frag} {e : Expr} {f : Str} {pos : Pos} {ta : TE} (hK : X.K = K) (he : PE X e ta) (hb : attributeBase e f X.env (eval e X.env) = eval e X.env) : PE X (.Attribute e f pos) (tFld K ta f) := by
  subst hK; exact pe_fld he hb
end
/-! ### own rule: d.update(e), both tracked dicts -/
def rDUpdate : V → List V → Hp → VK → Prop := fun x vs H Q => ∃ (a b : Addr) (kvs more : List (Key × V)), x = .ref a ∧ vs = [.ref b] ∧ a ≠ b ∧ H a = some (.dK kvs) ∧ H b = some (.dK more) ∧ kvs.length + more.length ≤ sizeLine ∧ Q .non (upd H a (.dK (mergeK kvs more)))
theorem mt_update {X : Cx} : MtR X "dict.update" rDUpdate := by
  intro pins s σ H x vs v us Q I rx rv h
  obtain ⟨a, b, kvs, more, rfl, rfl, hne, e, e2, hz, q⟩ := h
  obtain rfl : v = Value.ref a := rx
  obtain ⟨u, rfl, ru⟩ := rv.one
  obtain rfl : u = Value.ref b := ru
  obtain ⟨z, hd, ws, rel, dd⟩ := dk_of I.hok e
  obtain ⟨z2, hd2, ws2, rel2, dd2⟩ := dk_of I.hok e2
  refine call_meetsIn PySem.F.slot_dict_update dd.typeIs PySem.F.entry_dict_update (PySem.F.args_dict_update_2 _ _) (meets_dict_update (mixKind X.prog X.w) a b hne hd2) ⟨ws, ws2, dd, dd2, by rw [← rel.length, ← rel2.length]; exact hz, fun h' dd' _ hs => ?_⟩
  have he : ∃ q, h'.get? a = some q := let ⟨q, _, _, hq, _⟩ := dd'; ⟨q, hq⟩
  exact ⟨.non, _, d_write (t' := s.toks) I (by rw [e]; exact True.intro) hs he (dk_new (Nat.le_trans (length_mergeK more kvs) hz) hd (KV.merge rel2 rel) dd'), rfl, q⟩
theorem ix_listK {X : Cx} {K : PySem.W.Frag} (hK : X.K = K) : IxR X (rIxL K) := by subst hK; exact ix_list
theorem ix_tupK {X : Cx} {K : PySem.W.Frag} (hK : X.K = K) : IxR X (rIxT K) := by subst hK; exact ix_tup

/-! ### the digits that a law draws of a number -/
def Digs (ds : List Int) : Prop := ∀ d ∈ ds, 0 ≤ d ∧ d < 1009
theorem Digs.snoc {ds : List Int} (h : Digs ds) {d : Int} (h0 : 0 ≤ d ∧ d < 1009) : Digs (ds ++ [d]) := fun x hx => by
  rcases List.mem_append.mp hx with z | z
  · exact h x z
  · rw [List.mem_singleton.mp z]; exact h0
section
variable {P : Program} {w : World} {K : PySem.W.Frag} {mg : Str → Option Value} {base : Heap}
def sp__law_digits (K : PySem.W.Frag) : Sp := fun vs H Q _ => ∃ (c : Int) (n : Nat), vs = [.int c, .int (n : Int)] ∧ (n ≤ 1000 ∧ ∀ H' a ds, ds.length = n → Digs ds → H a = none → H' a = some (.lst (ds.map V.int)) → Kp [] [] H H' → Q (.ref a) H')
abbrev N__law_digits : List Str := ["_law_cell_here", "_law_many", "_law_row", "_law_rest", "_law_number", "_law_k"]
theorem sc__law_digits : FnScope N__law_digits ["_law_cell_here", "_law_many"] (defScope s__law_digits) := ⟨rfl, rfl, rfl, by decide +kernel, rfl, by decide +kernel, by decide +kernel⟩
theorem ok__law_digits (T : Txt K mg) : Ok P w K mg base CX0 1 (He.fAd K ("_law_digits", none)) ["_law_cell_here", "_law_many"] (sp__law_digits K) := by
  obtain ⟨fd, F⟩ := T.d__law_digits
  refine ⟨fd, F.ok sc__law_digits (fun vs H Q E h => by obtain ⟨c, n, rfl, _⟩ := h; rfl) (fun cdv A_ outer s_ H vs Q E hr h => ?_), F.bindsN (fun _ _ _ _ _ _ us hl => match us, hl with | [_, _], _ => rfl), F.kp⟩
  obtain ⟨c, n, rfl, h⟩ := h
  have hu := hu_of hr
  refine ⟨_, PSs.nox (pss_cons (ps_set (i := 2) sc__law_digits.nd rfl (.inl rfl) (pe_lst pa_nil))
  (pss_cons (ps_set (i := 3) sc__law_digits.nd rfl (.inl rfl) pe_int)
  (C8.pss_cut (ps_if (pt_cmpR op_ge (pv 0) (pe_op op_pow pe_int pe_int) (nomark _)) (pss_one (ps_set (i := 3) sc__law_digits.nd rfl (.inl rfl) (pv 0))) pss_nil)
  (pss_cons (ps_set (i := 4) sc__law_digits.nd rfl (.inl rfl) (pe_op op_mod (pv 0) pe_int))
  (pss_cons (ps_for PassesOwn.never rfl (pi_range1 (by rfl) T.f_range (pa_cons (pv 1) pa_nil)) (pg_name (i := 5) sc__law_digits.nd rfl (.inl rfl)) (pss_cons (ps_set (i := 4) sc__law_digits.nd rfl (.inl rfl) (pe_op op_mod (pe_op op_add (pe_op op_add (pe_op op_mul (pv 4) pe_int) (pe_op op_mul pe_int (pv 5))) pe_int) pe_int))
    (pss_cons (ps_set (i := 4) sc__law_digits.nd rfl (.inl rfl) (pe_op op_mod (pe_op op_mul (pv 4) (pe_op op_add (pe_op op_fdiv (pv 4) pe_int) pe_int)) pe_int))
    (pss_one (ps_if (pt_cmpR op_gt (pv 3) pe_int (nomark _)) (pss_cons (ps_expr (pe_bm PySem.F.plainAttrs_list PySem.F.slot_list_append PySem.F.type_list_append mt_append (pv 2) (pa_cons (pe_op op_mod (pv 3) pe_int) pa_nil)))
      (pss_one (ps_set (i := 3) sc__law_digits.nd rfl (.inl rfl) (pe_op op_fdiv (pv 3) pe_int)))) (pss_one (ps_expr (pe_bm PySem.F.plainAttrs_list PySem.F.slot_list_append PySem.F.type_list_append mt_append (pv 2) (pa_cons (pe_op op_mod (pe_op op_fdiv (pv 4) pe_int) pe_int) pa_nil)))))))))
  (pss_one (ps_ret (pv 2)))))))), ?_⟩
  obtain ⟨hn, q⟩ := h
  refine ⟨(by decide), fun r nr => ?_⟩
  have k1 := Kp.newIn (S := []) (o := .lst []) nr
  have h1 : (upd H r (.lst [])) r = some _ := upd_same
  generalize upd H r (.lst []) = H1 at *
  have h10 : CPow (10 : Int) 18 := ⟨by decide, by decide, by decide⟩
  refine ⟨fun σ' H2 => H2 = H1 ∧ ∃ rest : Int, σ' = [some (.int c), some (.int n), some (.ref r), some (.int rest), none, none], ⟨_, rfl, _, _, rfl, rfl, h10, _, _, rfl, rfl, _, rfl, iteD (fun _ => ⟨_, rfl, rfl, c, rfl⟩) (fun _ => ⟨rfl, 0, rfl⟩)⟩, ?_⟩
  rintro σ' H2 ⟨rfl, rest, rfl⟩
  refine ⟨_, rfl, _, _, rfl, rfl, (by show (0 : Int) < 2147483647; decide), ?_⟩
  refine ⟨_, rfl, _, rfl, by omega, by omega, for_range (lo := 0) (n := (n : Int).toNat) (fun i σ H' => ∃ (rest m : Int) (v : Option V) (ds : List Int), ds.length = i ∧ Digs ds ∧ 0 ≤ m ∧ m < 2147483647 ∧ σ = [some (.int c), some (.int n), some (.ref r), some (.int rest), some (.int m), v] ∧ H' r = some (.lst (ds.map V.int)) ∧ Kp [] [r] H H') ⟨rest, _, _, [], rfl, (fun _ z => by cases z), Int.emod_nonneg _ (by decide), Int.emod_lt_of_pos _ (by decide), rfl, h1, k1⟩ ?_ ?_⟩
  · rintro i σ H3 hi ⟨rest, m, v, ds, rfl, hd, hm0, hm1, rfl, h3, k3⟩
    have c1 : CMul m 48271 := .inr ⟨by decide, by decide⟩
    have c2 : CMul 30103 (0 + ((ds.length : Nat) : Int)) := .inl ⟨by decide, by decide⟩
    refine ⟨_, rfl, _, _, rfl, rfl, c1, _, rfl, _, _, rfl, rfl, c2, _, _, rfl, rfl, _, _, rfl, rfl, _, _, rfl, rfl, (by show (0 : Int) < 2147483647; decide), ?_⟩
    have g1 := Int.emod_nonneg (m * 48271 + 30103 * (0 + ((ds.length : Nat) : Int)) + 11) (show (2147483647 : Int) ≠ 0 by decide)
    have g2 := Int.emod_lt_of_pos (m * 48271 + 30103 * (0 + ((ds.length : Nat) : Int)) + 11) (show (0 : Int) < 2147483647 by decide)
    have c3 : CMul ((m * 48271 + 30103 * (0 + ((ds.length : Nat) : Int)) + 11) % 2147483647) ((m * 48271 + 30103 * (0 + ((ds.length : Nat) : Int)) + 11) % 2147483647 / 1009 + 69621) := .inl ⟨by omega, by omega⟩
    generalize e1 : (m * 48271 + 30103 * (0 + ((ds.length : Nat) : Int)) + 11) % 2147483647 = m1 at c3 g1 g2
    refine ⟨_, rfl, _, rfl, _, _, rfl, rfl, ⟨by decide, by decide⟩, _, _, rfl, rfl, _, _, rfl, rfl, (by rw [e1]; exact c3), _, _, rfl, rfl, (by show (0 : Int) < 2147483629; decide), ?_⟩
    rw [e1]
    have g3 := Int.emod_nonneg (m1 * (m1 / 1009 + 69621)) (show (2147483629 : Int) ≠ 0 by decide)
    have g4 := Int.emod_lt_of_pos (m1 * (m1 / 1009 + 69621)) (show (0 : Int) < 2147483629 by decide)
    have hl : (ds.map V.int).length < sizeLine := small_ (by rw [List.length_map]; omega)
    have fin : ∀ d : Int, 0 ≤ d ∧ d < 1009 → (upd H3 r (.lst (ds.map V.int ++ [.int d]))) r = some (.lst ((ds ++ [d]).map V.int)) ∧ Kp [] [r] H (upd H3 r (.lst (ds.map V.int ++ [.int d]))) := fun d _ =>
      ⟨by rw [upd_same, List.map_append]; rfl, k3.trans (Kp.upd h3 trivial (by simp))⟩
    refine ⟨_, rfl, _, _, rfl, rfl, _, rfl, iteD (fun _ => ?_) (fun _ => ?_)⟩
    · refine ⟨_, rfl, .inl ⟨rfl, _, SqL.of h3⟩, _, rfl, _, _, rfl, rfl, (by show (0 : Int) < 1009; decide), _, _, _, rfl, rfl, h3, hl, ?_⟩
      refine ⟨_, rfl, _, _, rfl, rfl, ⟨by decide, by decide⟩, ?_⟩
      have hd1 : 0 ≤ rest % 1009 ∧ rest % 1009 < 1009 := ⟨Int.emod_nonneg _ (by decide), Int.emod_lt_of_pos _ (by decide)⟩
      exact ⟨_, _, _, ds ++ [rest % 1009], by rw [List.length_append]; rfl, hd.snoc hd1, g3, Int.lt_of_lt_of_le g4 (by decide), rfl, (fin _ hd1).1, (fin _ hd1).2⟩
    · refine ⟨_, rfl, .inl ⟨rfl, _, SqL.of h3⟩, _, rfl, _, _, rfl, rfl, ⟨by decide, by decide⟩, _, _, rfl, rfl, (by show (0 : Int) < 1009; decide), _, _, _, rfl, rfl, h3, hl, ?_⟩
      have hd1 : ∀ z : Int, 0 ≤ z / 7 % 1009 ∧ z / 7 % 1009 < 1009 := fun z => ⟨Int.emod_nonneg _ (by decide), Int.emod_lt_of_pos _ (by decide)⟩
      exact ⟨_, _, _, ds ++ [m1 * (m1 / 1009 + 69621) % 2147483629 / 7 % 1009], by rw [List.length_append]; rfl, hd.snoc (hd1 _), g3, Int.lt_of_lt_of_le g4 (by decide), rfl, (fin _ (hd1 _)).1, (fin _ (hd1 _)).2⟩
  · rintro σ H3 ⟨rest, m, v, ds, hl, hd, _, _, rfl, h3, k3⟩
    exact ⟨_, rfl, q _ r ds (by omega) hd nr h3 k3.drop⟩
end

/-! ### a board that no line, no timer, no interrupt comes upon: its turns in plain words -/
def qD (m : MD) (a b pc sp : Int) (z : Bool) (t : Int) (s : List (Int × Int)) (tc : List (Str × Int)) : BD :=
  { m := m, ln := [], a := a, b := b, pc := pc, sp := sp, zero := z, lets := false, asleep := false, beat := t, stop := none, sent := s, tc := tc, bend := 0 }
def Still (m : MD) : Prop := m.pl.length = 6 ∧ m.place 1 = 0
theorem init_q (ns : List Int) : BD.init ns [] = qD ⟨ns ++ List.replicate (512 - ns.length) 65535, List.replicate 256 0, List.replicate 6 0⟩ 0 0 0 767 false 0 [] [] := rfl
theorem MD.setPlace_same {m : MD} {k : Nat} (h : k < m.pl.length) : m.setPlace k (m.place k) = m := by
  unfold MD.setPlace MD.place
  rw [List.getD_eq_getElem?_getD, List.getElem?_eq_getElem h]
  show ({ m with pl := m.pl.set k m.pl[k] } : MD) = m
  rw [List.set_getElem_self]
theorem q_tick {D : BD} (h : D.ln = []) (q : Still D.m) : D.tick = { D with beat := D.beat + 1 } := by
  unfold BD.tick BD.lineComes
  rw [show ({ D with beat := D.beat + 1 } : BD).ln = [] from h]
  rw [show lineGet [] ({ D with beat := D.beat + 1 } : BD).beat (({ D with beat := D.beat + 1 } : BD).m.place 4) = D.m.place 4 from rfl]
  unfold MD.comes
  rw [show (({ D with beat := D.beat + 1 } : BD).m) = D.m from rfl, if_neg (by omega), MD.setPlace_same (by rw [q.1]; decide)]
  unfold BD.timerGoes
  rw [if_neg (by show ¬ 0 < D.m.place 1; rw [q.2]; decide)]
theorem q_pass {D : BD} (h : D.ln = []) (q : Still D.m) : ∀ n : Nat, D.pass n = { D with beat := D.beat + (n : Int) }
  | 0 => by show D = { D with beat := D.beat + 0 }; rw [Int.add_zero]
  | n + 1 => by
    rw [show D.pass (n + 1) = (D.pass n).tick from rfl, q_pass h q n, q_tick (D := { D with beat := D.beat + (n : Int) }) h q]
    show ({ D with beat := D.beat + (n : Int) + 1 } : BD) = _
    rw [show D.beat + (n : Int) + 1 = D.beat + ((n + 1 : Nat) : Int) by omega]
theorem xor0 {n : Int} (h : 0 ≤ n) : Builtin.bitXor n 0 = n := by
  rw [Bits.bitXor_pp h (by decide)]
  show ((n.toNat ^^^ 0 : Nat) : Int) = n
  rw [Nat.xor_zero]; omega
section
variable {m : MD} {a b pc sp : Int} {z : Bool} {t : Int} {s : List (Int × Int)} {tc : List (Str × Int)} {w x : Int} {k : Nat}
theorem q_turn (h0 : 0 ≤ pc) (h1 : pc < 768) (hw : m.at pc = some w) (hk : w = 1024 * (k : Int) + x) (hx : 0 ≤ x ∧ x < 1024) (k23 : k < 23 := by decide) (k0 : k ≠ 0 := by decide)
    (hb : barOf m pc (addrs k x b sp).1 (addrs k x b sp).2 = none) :
    (qD m a b pc sp z t s tc).turn = (("deed" : Str), (qD m a b pc sp z t s []).deedA k x (addrs k x b sp)) := by
  unfold BD.turn BD.turnB
  rw [if_neg (by show ¬ (none : Option (List V)).isSome = true; simp), if_neg (by show ¬ (false = true ∧ _); simp)]
  unfold BD.wake
  rw [if_neg (by show ¬ (false = true ∧ _); simp)]
  show (qD m a b pc sp z t s []).deed = _
  unfold BD.deed
  rw [if_neg (by show ¬ (pc < 0 ∨ 768 ≤ pc); omega)]
  show (qD m a b pc sp z t s []).deedW ((m.at pc).getD 0) = _
  rw [hw, show (some w).getD 0 = w from rfl]
  have ek : (w / 1024).toNat = k := by omega
  have ex : w % 1024 = x := by omega
  unfold BD.deedW
  rw [ek, ex, if_neg (by omega), if_neg k0]
  show (qD m a b pc sp z t s []).deedB k x (addrs k x b sp) = _
  unfold BD.deedB
  rw [show barOf (qD m a b pc sp z t s []).m (qD m a b pc sp z t s []).pc (addrs k x b sp).1 (addrs k x b sp).2 = none from hb]
theorem bar0 : barOf m pc [] [] = none := rfl
theorem barG {v : Int} (h : m.at x = some v) : barOf m pc [x] [] = none := by
  unfold barOf barR; rw [h]; rfl
theorem barPu (h : barTo x = none) : barOf m pc [] [x] = none := by
  unfold barOf barP; rw [h]; rfl
theorem barRam (h0 : 512 ≤ x) (h1 : x < 768) : barTo x = none := by
  unfold barTo; rw [if_neg (by omega), if_neg (by omega), if_neg (by omega)]
theorem still_put (q : Still m) (h1 : x < 768) : Still (m.put x w) := by
  unfold MD.put; rw [if_pos h1]; exact q
/-- lit -/
theorem t_lit (q : Still m) (h0 : 0 ≤ pc) (h1 : pc < 768) (hw : m.at pc = some w) (hk : w = 1024 * 1 + x) (hx : 0 ≤ x ∧ x < 1024) :
    ∃ tc', (qD m a b pc sp z t s tc).turn = (("deed" : Str), qD m x b (pc + 1) sp (decide (x = 0)) (t + 1) s tc') := by
  refine ⟨[], ?_⟩
  rw [q_turn (k := 1) h0 h1 hw hk hx (hb := rfl)]
  show (("deed" : Str), (qD m x b (pc + 1) sp (decide (x = 0)) t s []).pass 1) = _
  rw [q_pass rfl q]; rfl
/-- get -/
theorem t_get (q : Still m) (h0 : 0 ≤ pc) (h1 : pc < 768) (hw : m.at pc = some w) (hk : w = 1024 * 2 + x) (hx : 0 ≤ x ∧ x < 1024) {v : Int} (hv : m.at x = some v) (v0 : 0 ≤ v) :
    ∃ tc', (qD m a b pc sp z t s tc).turn = (("deed" : Str), qD m v b (pc + 1) sp (decide (v = 0)) (t + 2) s tc') := by
  refine ⟨[(("r" : Str), x)], ?_⟩
  rw [q_turn (k := 2) h0 h1 hw hk hx (hb := barG hv)]
  show (("deed" : Str), (qD m (Builtin.bitXor ((m.at x).getD 0) 0) b (pc + 1) sp (decide (Builtin.bitXor ((m.at x).getD 0) 0 = 0)) t s [(("r" : Str), x)]).pass 2) = _
  rw [hv, show (some v).getD 0 = v from rfl, xor0 v0, q_pass rfl q]; rfl
/-- tob -/
theorem t_tob (q : Still m) (h0 : 0 ≤ pc) (h1 : pc < 768) (hw : m.at pc = some w) (hk : w = 1024 * 10 + x) (hx : 0 ≤ x ∧ x < 1024) :
    ∃ tc', (qD m a b pc sp z t s tc).turn = (("deed" : Str), qD m a a (pc + 1) sp z (t + 1) s tc') := by
  refine ⟨[], ?_⟩
  rw [q_turn (k := 10) h0 h1 hw hk hx (hb := rfl)]
  show (("deed" : Str), (qD m a a (pc + 1) sp z t s []).pass 1) = _
  rw [q_pass rfl q]; rfl
theorem sent_ram (h : x < 768) : (if x = 773 then s ++ [(t, a)] else s) = s := if_neg (by omega)
/-- put in ram -/
theorem t_put (q : Still m) (h0 : 0 ≤ pc) (h1 : pc < 768) (hw : m.at pc = some w) (hk : w = 1024 * 3 + x) (hx : 512 ≤ x ∧ x < 768) :
    ∃ tc', (qD m a b pc sp z t s tc).turn = (("deed" : Str), qD (m.put x a) a b (pc + 1) sp z (t + 2) s tc') := by
  refine ⟨[(("w" : Str), x)], ?_⟩
  rw [q_turn (k := 3) h0 h1 hw hk (by omega) (hb := barPu (barRam hx.1 hx.2))]
  show (("deed" : Str), (qD (m.put x a) a b (pc + 1) sp z t (if x = 773 then s ++ [(t, a)] else s) [(("w" : Str), x)]).pass 2) = _
  rw [sent_ram hx.2, q_pass rfl (still_put q hx.2)]; rfl
/-- putb in ram -/
theorem t_putb (q : Still m) (h0 : 0 ≤ pc) (h1 : pc < 768) (hw : m.at pc = some w) (hk : w = 1024 * 9 + x) (hx0 : 0 ≤ x ∧ x < 1024) (hx : 512 ≤ x + b ∧ x + b < 768) :
    ∃ tc', (qD m a b pc sp z t s tc).turn = (("deed" : Str), qD (m.put (x + b) a) a b (pc + 1) sp z (t + 2) s tc') := by
  refine ⟨[(("w" : Str), x + b)], ?_⟩
  rw [q_turn (k := 9) h0 h1 hw hk hx0 (hb := barPu (barRam hx.1 hx.2))]
  show (("deed" : Str), (qD (m.put (x + b) a) a b (pc + 1) sp z t (if x + b = 773 then s ++ [(t, a)] else s) [(("w" : Str), x + b)]).pass 2) = _
  rw [sent_ram hx.2, q_pass rfl (still_put q hx.2)]; rfl
/-- push in ram -/
theorem t_push (q : Still m) (h0 : 0 ≤ pc) (h1 : pc < 768) (hw : m.at pc = some w) (hk : w = 1024 * 17 + x) (hx0 : 0 ≤ x ∧ x < 1024) (hx : 512 ≤ sp ∧ sp < 768) :
    ∃ tc', (qD m a b pc sp z t s tc).turn = (("deed" : Str), qD (m.put sp a) a b (pc + 1) (sp - 1) z (t + 2) s tc') := by
  refine ⟨[(("w" : Str), sp)], ?_⟩
  rw [q_turn (k := 17) h0 h1 hw hk hx0 (hb := barPu (barRam hx.1 hx.2))]
  show (("deed" : Str), (qD (m.put sp a) a b (pc + 1) (sp - 1) z t (if sp = 773 then s ++ [(t, a)] else s) [(("w" : Str), sp)]).pass 2) = _
  rw [sent_ram hx.2, q_pass rfl (still_put q hx.2)]; rfl
/-- go, ifz, ifn -/
abbrev leads (k : Nat) (a : Int) (z : Bool) : Prop := k = 12 ∨ (k = 13 ∧ z = true) ∨ (k = 14 ∧ 32768 ≤ a)
theorem t_lead (q : Still m) (h0 : 0 ≤ pc) (h1 : pc < 768) (hw : m.at pc = some w) (hk : w = 1024 * (k : Int) + x) (hx : 0 ≤ x ∧ x < 1024) (h3 : k = 12 ∨ k = 13 ∨ k = 14) :
    ∃ tc', (qD m a b pc sp z t s tc).turn = (("deed" : Str), qD m a b (if leads k a z then x else pc + 1) sp z (t + 1) s tc') := by
  refine ⟨[], ?_⟩
  have ea : addrs k x b sp = ([], []) := by rcases h3 with rfl | rfl | rfl <;> rfl
  rw [q_turn (k := k) h0 h1 hw hk hx (by omega) (by omega) (hb := by rw [ea]; rfl), ea]
  show (("deed" : Str), ((qD m a b (pc + 1) sp z t s []).doing k x [] []).pass 1) = _
  rw [show (qD m a b (pc + 1) sp z t s []).doing k x [] [] = qD m a b (if leads k a z then x else pc + 1) sp z t s [] by
    unfold BD.doing leads
    show (if k = 12 ∨ k = 13 ∨ k = 14 then _ else _) = _
    rw [if_pos h3]
    by_cases h : k = 12 ∨ (k = 13 ∧ z = true) ∨ (k = 14 ∧ 32768 ≤ a)
    · refine (if_pos h).trans ?_
      show qD m a b x sp z t s [] = _
      exact congrArg (fun u => qD m a b u sp z t s []) (if_pos h).symm
    · refine (if_neg h).trans ?_
      exact congrArg (fun u => qD m a b u sp z t s []) (if_neg h).symm]
  rw [q_pass rfl q]; rfl
theorem at_ram_put {m : MD} (hl : m.ra.length = 256) {i j w : Int} (h0 : 512 ≤ i) (h1 : i < 768) : (m.put i w).at j = if j = i then some w else m.at j := by
  unfold MD.put
  rw [if_pos h1]
  unfold MD.at
  by_cases e : j = i
  · subst e
    rw [if_pos rfl, if_neg (by omega), if_neg (by omega), if_pos h1]
    show (m.ra.set (j - 512).toNat w)[(j - 512).toNat]? = some w
    rw [List.getElem?_set_self (by omega)]
  · rw [if_neg e]
    by_cases r : j < 0 ∨ 773 < j
    · rw [if_pos r, if_pos r]
    · rw [if_neg r, if_neg r]
      by_cases r2 : j < 512
      · rw [if_pos r2, if_pos r2]
      · rw [if_neg r2, if_neg r2]
        by_cases r3 : j < 768
        · rw [if_pos r3, if_pos r3]
          show (m.ra.set (i - 512).toNat w)[(j - 512).toNat]? = _
          rw [List.getElem?_set_ne (by omega)]
        · rw [if_neg r3, if_neg r3]
theorem ra_put {m : MD} {i w : Int} (h1 : i < 768) : (m.put i w).ra.length = m.ra.length := by
  unfold MD.put
  rw [if_pos h1]
  show (m.ra.set _ w).length = _
  rw [List.length_set]
theorem at_flash {fl ra pl : List Int} {i : Int} (h0 : 0 ≤ i) (h1 : i < 512) : (⟨fl, ra, pl⟩ : MD).at i = fl[i.toNat]? := by
  unfold MD.at
  rw [if_neg (by omega), if_pos h1]
end

def BD.goN (D : BD) : Nat → BD
  | 0 => D
  | n + 1 => (D.goN n).turn.2
theorem goN_s {D E F : BD} {i : Nat} {z : Str} (g : D.goN i = E) (e : E.turn = (z, F)) : D.goN (i + 1) = F := by
  show (D.goN i).turn.2 = F
  rw [g, e]
theorem and1 (z : Int) : Builtin.bitAnd z 1 = z % 2 := by
  have h := Bits.bit_at (x := z) 0
  rw [show (2 : Int) ^ 0 = 1 from rfl, Int.fdiv_one, Int.ediv_one] at h
  exact h
theorem at_im {ns : List Int} {i : Nat} {v : Int} {ra pl : List Int} (h : ns[i]? = some v) (hi : i < 512) : (⟨ns ++ List.replicate (512 - ns.length) 65535, ra, pl⟩ : MD).at (i : Int) = some v := by
  rw [at_flash (by omega) (by omega), show ((i : Nat) : Int).toNat = i by omega, List.getElem?_append_left (List.getElem?_eq_some_iff.mp h).1]
  exact h
def n0 (ns : List Int) : MD := ⟨ns ++ List.replicate (512 - ns.length) 65535, List.replicate 256 0, List.replicate 6 0⟩
section
variable {m : MD} {a b pc sp : Int} {z : Bool} {t : Int} {s : List (Int × Int)} {tc : List (Str × Int)} {w x : Int} {k : Nat}
theorem t_rd (q : Still m) (h0 : 0 ≤ pc) (h1 : pc < 768) (hw : m.at pc = some w) (hk : w = 1024 * (k : Int) + x) (hx : 0 ≤ x ∧ x < 1024) (hkk : k = 4 ∨ k = 5 ∨ k = 6 ∨ k = 7) {v : Int} (hv : m.at x = some v) (v0 : 0 ≤ v) :
    ∃ tc', (qD m a b pc sp z t s tc).turn = (("deed" : Str), qD m (reckA k a b x v) b (pc + 1) sp (decide (reckA k a b x v = 0)) (t + 2) s tc') := by
  refine ⟨[(("r" : Str), x)], ?_⟩
  rcases hkk with rfl | rfl | rfl | rfl
  all_goals
    rw [q_turn h0 h1 hw hk hx (hb := barG hv)]
  · show (("deed" : Str), (qD m (reckA 4 a b x (Builtin.bitXor ((m.at x).getD 0) 0)) b (pc + 1) sp (decide (reckA 4 a b x (Builtin.bitXor ((m.at x).getD 0) 0) = 0)) t s [(("r" : Str), x)]).pass 2) = _
    rw [hv, show (some v).getD 0 = v from rfl, xor0 v0, q_pass rfl q]; rfl
  · show (("deed" : Str), (qD m (reckA 5 a b x (Builtin.bitXor ((m.at x).getD 0) 0)) b (pc + 1) sp (decide (reckA 5 a b x (Builtin.bitXor ((m.at x).getD 0) 0) = 0)) t s [(("r" : Str), x)]).pass 2) = _
    rw [hv, show (some v).getD 0 = v from rfl, xor0 v0, q_pass rfl q]; rfl
  · show (("deed" : Str), (qD m (reckA 6 a b x (Builtin.bitXor ((m.at x).getD 0) 0)) b (pc + 1) sp (decide (reckA 6 a b x (Builtin.bitXor ((m.at x).getD 0) 0) = 0)) t s [(("r" : Str), x)]).pass 2) = _
    rw [hv, show (some v).getD 0 = v from rfl, xor0 v0, q_pass rfl q]; rfl
  · show (("deed" : Str), (qD m (reckA 7 a b x (Builtin.bitXor ((m.at x).getD 0) 0)) b (pc + 1) sp (decide (reckA 7 a b x (Builtin.bitXor ((m.at x).getD 0) 0) = 0)) t s [(("r" : Str), x)]).pass 2) = _
    rw [hv, show (some v).getD 0 = v from rfl, xor0 v0, q_pass rfl q]; rfl
theorem t_getb (q : Still m) (h0 : 0 ≤ pc) (h1 : pc < 768) (hw : m.at pc = some w) (hk : w = 1024 * 8 + x) (hx : 0 ≤ x ∧ x < 1024) {v : Int} (hv : m.at (x + b) = some v) (v0 : 0 ≤ v) :
    ∃ tc', (qD m a b pc sp z t s tc).turn = (("deed" : Str), qD m v b (pc + 1) sp (decide (v = 0)) (t + 2) s tc') := by
  refine ⟨[(("r" : Str), x + b)], ?_⟩
  rw [q_turn (k := 8) h0 h1 hw hk hx (hb := barG hv)]
  show (("deed" : Str), (qD m (Builtin.bitXor ((m.at (x + b)).getD 0) 0) b (pc + 1) sp (decide (Builtin.bitXor ((m.at (x + b)).getD 0) 0 = 0)) t s [(("r" : Str), x + b)]).pass 2) = _
  rw [hv, show (some v).getD 0 = v from rfl, xor0 v0, q_pass rfl q]; rfl
theorem t_pop (q : Still m) (h0 : 0 ≤ pc) (h1 : pc < 768) (hw : m.at pc = some w) (hk : w = 1024 * 18 + x) (hx : 0 ≤ x ∧ x < 1024) {v : Int} (hv : m.at (sp + 1) = some v) (v0 : 0 ≤ v) :
    ∃ tc', (qD m a b pc sp z t s tc).turn = (("deed" : Str), qD m v b (pc + 1) (sp + 1) (decide (v = 0)) (t + 2) s tc') := by
  refine ⟨[(("r" : Str), sp + 1)], ?_⟩
  rw [q_turn (k := 18) h0 h1 hw hk hx (hb := barG hv)]
  show (("deed" : Str), (qD m (Builtin.bitXor ((m.at (sp + 1)).getD 0) 0) b (pc + 1) (sp + 1) (decide (Builtin.bitXor ((m.at (sp + 1)).getD 0) 0 = 0)) t s [(("r" : Str), sp + 1)]).pass 2) = _
  rw [hv, show (some v).getD 0 = v from rfl, xor0 v0, q_pass rfl q]; rfl
theorem t_swap (q : Still m) (h0 : 0 ≤ pc) (h1 : pc < 768) (hw : m.at pc = some w) (hk : w = 1024 * 11 + x) (hx : 0 ≤ x ∧ x < 1024) :
    ∃ tc', (qD m a b pc sp z t s tc).turn = (("deed" : Str), qD m b a (pc + 1) sp (decide (b = 0)) (t + 1) s tc') := by
  refine ⟨[], ?_⟩
  rw [q_turn (k := 11) h0 h1 hw hk hx (hb := rfl)]
  show (("deed" : Str), (qD m b a (pc + 1) sp (decide (b = 0)) t s []).pass 1) = _
  rw [q_pass rfl q]; rfl
theorem t_half (q : Still m) (h0 : 0 ≤ pc) (h1 : pc < 768) (hw : m.at pc = some w) (hk : w = 1024 * 22 + x) (hx : 0 ≤ x ∧ x < 1024) :
    ∃ tc', (qD m a b pc sp z t s tc).turn = (("deed" : Str), qD m (a / 2) b (pc + 1) sp (decide (a / 2 = 0)) (t + 1) s tc') := by
  refine ⟨[], ?_⟩
  rw [q_turn (k := 22) h0 h1 hw hk hx (hb := rfl)]
  show (("deed" : Str), (qD m (a / 2) b (pc + 1) sp (decide (a / 2 = 0)) t s []).pass 1) = _
  rw [q_pass rfl q]; rfl
end

/-! ### lists of numbers in a law's rows -/
theorem cut_ints (ns : List Int) (lo hi : Option Int) : ∃ cs : List Int, cutV (ns.map V.int) lo hi = cs.map V.int ∧ cs.length ≤ ns.length := by
  refine ⟨(ns.drop (HT.sIx (ns.map V.int).length 0 lo)).take (HT.sIx (ns.map V.int).length (ns.map V.int).length hi - HT.sIx (ns.map V.int).length 0 lo), ?_, ?_⟩
  · unfold cutV; rw [← List.map_drop, ← List.map_take]
  · rw [List.length_take, List.length_drop]; omega
theorem dig {ds : List Int} {n : Nat} (hl : ds.length = n) (hd : Digs ds) (i : Nat) (hi : i < n) : ∃ d, atI (ds.map V.int) (i : Int) = some (.int d) ∧ 0 ≤ d ∧ d < 1009 := by
  refine ⟨ds[i]'(by omega), at_i (by omega) ?_, hd _ (List.getElem_mem _)⟩
  rw [show ((i : Nat) : Int).toNat = i by omega, List.getElem?_eq_getElem]
theorem pick (xs : List Int) (i : Int) (h0 : 0 ≤ i) (h1 : i < xs.length) : ∃ v, v ∈ xs ∧ atI (xs.map V.int) i = some (.int v) :=
  ⟨xs[i.toNat]'(by omega), List.getElem_mem _, at_i h0 (List.getElem?_eq_getElem _)⟩
theorem mulc {i j : Int} (h : -(2 ^ 64) < i ∧ i < 2 ^ 64) : CMul i j := .inl h
theorem lineOk_nil : LineOk [] := by
  constructor <;> first | exact fun _ h => by cases h | simp
theorem digI {ds : List Int} {n : Nat} (hl : ds.length = n) (hd : Digs ds) (i : Int) (h0 : 0 ≤ i) (hi : i < n) : ∃ d, atI (ds.map V.int) i = some (.int d) ∧ 0 ≤ d ∧ d < 1009 := by
  obtain ⟨d, e, h⟩ := dig hl hd i.toNat (by omega)
  rw [show ((i.toNat : Nat) : Int) = i by omega] at e
  exact ⟨d, e, h⟩
theorem paired_get {α β : Type} {F : α → β → Prop} : ∀ {xs : List α} {ys : List β} {i : Nat} {x : α}, Paired F xs ys → xs[i]? = some x → ∃ y, ys[i]? = some y ∧ F x y
  | _, _, i, x, .nil, h => by simp at h
  | _, _, 0, x, .cons h r, e => ⟨_, rfl, by rw [← Option.some.inj e]; exact h⟩
  | _, _, i + 1, x, .cons h r, e => paired_get (i := i) r e

/-! ### k13: the cases, as they lie -/
structure Cs where
  deeds : List Int
  many : Nat
  stop : Option (List V)
def CaseAt (H : Hp) (da : Addr) (v : V) (c : Cs) : Prop := ∃ (t dl : Addr) (u : V), v = .ref t ∧ H t = some (.tup [.ref dl, .int (c.many : Int), u]) ∧ H dl = some (.lst (c.deeds.map V.int)) ∧ dl ≠ da ∧ StopV H u c.stop
theorem cases_mono {T : List Addr} {H H' : Hp} {da : Addr} (k : Kp [] T H H') : ∀ {vs : List V} {cs : List Cs}, Paired (CaseAt H da) vs cs → Paired (CaseAt H' da) vs cs
  | _, _, .nil => .nil
  | _, _, .cons ⟨t, dl, u, e, ht, hl, ne, hs⟩ r => .cons ⟨t, dl, u, e, k.tups _ _ ht, k.kept _ _ hl none_in, ne, hs.mono k.tups⟩ (cases_mono k r)
theorem cases_mut {H H' : Hp} {da : Addr} (k : Kp [da] [da] H H') : ∀ {vs : List V} {cs : List Cs}, Paired (CaseAt H da) vs cs → Paired (CaseAt H' da) vs cs
  | _, _, .nil => .nil
  | _, _, .cons ⟨t, dl, u, e, ht, hl, ne, hs⟩ r => .cons ⟨t, dl, u, e, k.tups _ _ ht, k.kept _ _ hl (by simpa using ne), ne, hs.mono k.tups⟩ (cases_mut k r)
theorem paired_all {α β : Type} {F : α → β → Prop} {G : β → Prop} : ∀ {xs : List α} {ys : List β}, Paired F xs ys → xs.length = ys.length
  | _, _, .nil => rfl
  | _, _, .cons _ r => by rw [List.length_cons, List.length_cons, paired_all (G := G) r]
def farC (d pc : Int) (op : Int) : Cs := ⟨[1024 * op + (774 + d % 250)], 0, some [.str "far", .int pc, .int (774 + d % 250)]⟩
def baseC (d pc : Int) : List Cs := [⟨[d % 1024], 0, some [.str "mark", .int pc]⟩, ⟨[1024 * (23 + d % 41) + 5], 0, some [.str "none", .int pc]⟩]
def cases13 (d pc : Int) : List Cs :=
  baseC d pc ++ [2, 3, 4, 5, 6, 7].map (farC d pc) ++
  [⟨[1024 * 3 + d % 512], 0, some [.str "flash", .int pc, .int (d % 512)]⟩, ⟨[1024 * 3 + 772], 0, some [.str "still", .int pc, .int 772]⟩,
   ⟨[1024 * 1 + 700, 1024 * 10, 1024 * 8 + 74 + d % 900], 2, some [.str "far", .int (pc + 2), .int (774 + d % 900)]⟩,
   ⟨[1024 * 1 + 70, 1024 * 10, 1024 * 9 + 441 - d % 50], 2, some [.str "flash", .int (pc + 2), .int (511 - d % 50)]⟩,
   ⟨List.replicate 7 (1024 * 18), 6, some [.str "far", .int (pc + 6), .int 774]⟩,
   ⟨[1024 * 12 + 768 + d % 256], 1, some [.str "far", .int (768 + d % 256), .int (768 + d % 256)]⟩,
   ⟨[1024 * 2 + 773, 1024 * 3 + 773, 1024 * 3 + 512, 1024 * 2 + 511, 1024 * 3 + 767], 5, none⟩]
section
variable {P : Program} {w : World} {K : PySem.W.Frag} {mg : Str → Option Value} {base : Heap}
def sp__law_case (K : PySem.W.Frag) : Sp := fun vs H Q _ => ∃ (n d pc : Int), vs = [.int n, .int d, .int pc] ∧ (0 ≤ n ∧ 0 ≤ d ∧ ∀ H' (t dl : Addr) (u : V) (c : Cs), c ∈ cases13 d pc → H' t = some (.tup [.ref dl, .int (c.many : Int), u]) → H' dl = some (.lst (c.deeds.map V.int)) → StopV H' u c.stop → Kp [] [] H H' → Q (.ref t) H')
abbrev N__law_case : List Str := ["_law_number", "_law_digit", "_law_pc", "_law_far", "_law_some", "_law_op"]
theorem sc__law_case : FnScope N__law_case ["_law_number", "_law_digit", "_law_pc"] (defScope s__law_case) := ⟨rfl, rfl, rfl, by decide +kernel, rfl, by decide +kernel, by decide +kernel⟩
theorem ok__law_case (T : Txt K mg) : Ok P w K mg base CX0 1 (He.fAd K ("_law_case", none)) ["_law_number", "_law_digit", "_law_pc"] (sp__law_case K) := by
  obtain ⟨fd, F⟩ := T.d__law_case
  refine ⟨fd, F.ok sc__law_case (fun vs H Q E h => by obtain ⟨n, d, pc, rfl, _⟩ := h; rfl) (fun cdv A_ outer s_ H vs Q E hr h => ?_), F.bindsN (fun _ _ _ _ _ _ us hl => match us, hl with | [_, _, _], _ => rfl), F.kp⟩
  obtain ⟨n, d, pc, rfl, h⟩ := h
  have hu := hu_of hr
  refine ⟨_, PSs.nox (pss_cons (ps_set (i := 3) sc__law_case.nd rfl (.inl rfl) (pe_op op_add pe_int (pe_op op_mod (pv 1) pe_int)))
  (pss_cons (ps_set (i := 4) sc__law_case.nd rfl (.inl rfl) (pe_lst (pa_cons (pe_tup (pa_cons (pe_lst (pa_cons (pe_op op_mod (pv 1) pe_int) pa_nil)) (pa_cons pe_int (pa_cons (pe_tup (pa_cons pe_str (pa_cons (pv 2) pa_nil))) pa_nil)))) (pa_cons (pe_tup (pa_cons (pe_lst (pa_cons (pe_op op_add (pe_op op_mul pe_int (pe_op op_add pe_int (pe_op op_mod (pv 1) pe_int))) pe_int) pa_nil)) (pa_cons pe_int (pa_cons (pe_tup (pa_cons pe_str (pa_cons (pv 2) pa_nil))) pa_nil)))) pa_nil))))
  (pss_cons (ps_for PassesOwn.never rfl (pi_list (pe_lst (pa_cons pe_int (pa_cons pe_int (pa_cons pe_int (pa_cons pe_int (pa_cons pe_int (pa_cons pe_int pa_nil)))))))) (pg_name (i := 5) sc__law_case.nd rfl (.inl rfl)) (pss_one (ps_expr (pe_bm PySem.F.plainAttrs_list PySem.F.slot_list_append PySem.F.type_list_append mt_append (pv 4) (pa_cons (pe_tup (pa_cons (pe_lst (pa_cons (pe_op op_add (pe_op op_mul pe_int (pv 5)) (pv 3)) pa_nil)) (pa_cons pe_int (pa_cons (pe_tup (pa_cons pe_str (pa_cons (pv 2) (pa_cons (pv 3) pa_nil)))) pa_nil)))) pa_nil)))))
  (pss_cons (ps_expr (pe_bm PySem.F.plainAttrs_list PySem.F.slot_list_append PySem.F.type_list_append mt_append (pv 4) (pa_cons (pe_tup (pa_cons (pe_lst (pa_cons (pe_op op_add (pe_op op_mul pe_int pe_int) (pe_op op_mod (pv 1) pe_int)) pa_nil)) (pa_cons pe_int (pa_cons (pe_tup (pa_cons pe_str (pa_cons (pv 2) (pa_cons (pe_op op_mod (pv 1) pe_int) pa_nil)))) pa_nil)))) pa_nil)))
  (pss_cons (ps_expr (pe_bm PySem.F.plainAttrs_list PySem.F.slot_list_append PySem.F.type_list_append mt_append (pv 4) (pa_cons (pe_tup (pa_cons (pe_lst (pa_cons (pe_op op_add (pe_op op_mul pe_int pe_int) pe_int) pa_nil)) (pa_cons pe_int (pa_cons (pe_tup (pa_cons pe_str (pa_cons (pv 2) (pa_cons pe_int pa_nil)))) pa_nil)))) pa_nil)))
  (pss_cons (ps_expr (pe_bm PySem.F.plainAttrs_list PySem.F.slot_list_append PySem.F.type_list_append mt_append (pv 4) (pa_cons (pe_tup (pa_cons (pe_lst (pa_cons (pe_op op_add (pe_op op_mul pe_int pe_int) pe_int) (pa_cons (pe_op op_mul pe_int pe_int) (pa_cons (pe_op op_add (pe_op op_add (pe_op op_mul pe_int pe_int) pe_int) (pe_op op_mod (pv 1) pe_int)) pa_nil)))) (pa_cons pe_int (pa_cons (pe_tup (pa_cons pe_str (pa_cons (pe_op op_add (pv 2) pe_int) (pa_cons (pe_op op_add pe_int (pe_op op_mod (pv 1) pe_int)) pa_nil)))) pa_nil)))) pa_nil)))
  (pss_cons (ps_expr (pe_bm PySem.F.plainAttrs_list PySem.F.slot_list_append PySem.F.type_list_append mt_append (pv 4) (pa_cons (pe_tup (pa_cons (pe_lst (pa_cons (pe_op op_add (pe_op op_mul pe_int pe_int) pe_int) (pa_cons (pe_op op_mul pe_int pe_int) (pa_cons (pe_op op_sub (pe_op op_add (pe_op op_mul pe_int pe_int) pe_int) (pe_op op_mod (pv 1) pe_int)) pa_nil)))) (pa_cons pe_int (pa_cons (pe_tup (pa_cons pe_str (pa_cons (pe_op op_add (pv 2) pe_int) (pa_cons (pe_op op_sub pe_int (pe_op op_mod (pv 1) pe_int)) pa_nil)))) pa_nil)))) pa_nil)))
  (pss_cons (ps_expr (pe_bm PySem.F.plainAttrs_list PySem.F.slot_list_append PySem.F.type_list_append mt_append (pv 4) (pa_cons (pe_tup (pa_cons (pe_op op_rep (pe_lst (pa_cons (pe_op op_mul pe_int pe_int) pa_nil)) pe_int) (pa_cons pe_int (pa_cons (pe_tup (pa_cons pe_str (pa_cons (pe_op op_add (pv 2) pe_int) (pa_cons pe_int pa_nil)))) pa_nil)))) pa_nil)))
  (pss_cons (ps_expr (pe_bm PySem.F.plainAttrs_list PySem.F.slot_list_append PySem.F.type_list_append mt_append (pv 4) (pa_cons (pe_tup (pa_cons (pe_lst (pa_cons (pe_op op_add (pe_op op_add (pe_op op_mul pe_int pe_int) pe_int) (pe_op op_mod (pv 1) pe_int)) pa_nil)) (pa_cons pe_int (pa_cons (pe_tup (pa_cons pe_str (pa_cons (pe_op op_add pe_int (pe_op op_mod (pv 1) pe_int)) (pa_cons (pe_op op_add pe_int (pe_op op_mod (pv 1) pe_int)) pa_nil)))) pa_nil)))) pa_nil)))
  (pss_cons (ps_expr (pe_bm PySem.F.plainAttrs_list PySem.F.slot_list_append PySem.F.type_list_append mt_append (pv 4) (pa_cons (pe_tup (pa_cons (pe_lst (pa_cons (pe_op op_add (pe_op op_mul pe_int pe_int) pe_int) (pa_cons (pe_op op_add (pe_op op_mul pe_int pe_int) pe_int) (pa_cons (pe_op op_add (pe_op op_mul pe_int pe_int) pe_int) (pa_cons (pe_op op_add (pe_op op_mul pe_int pe_int) pe_int) (pa_cons (pe_op op_add (pe_op op_mul pe_int pe_int) pe_int) pa_nil)))))) (pa_cons pe_int (pa_cons pe_non pa_nil)))) pa_nil)))
  (pss_one (ps_ret (pe_ix ix_list (pv 4) (pe_op op_mod (pv 0) (pe_callB call_len_seq (by rfl) T.f_len PySem.boot_len (pa_cons (pv 4) pa_nil))) (fun _ _ => rfl)))))))))))))), ?_⟩
  obtain ⟨hn, hd, q⟩ := h
  have s1 : 1 ≤ sizeLine := by decide
  have s2 : 2 ≤ sizeLine := by decide
  have s3 : 3 ≤ sizeLine := by decide
  have s5 : 5 ≤ sizeLine := by decide
  have s6 : 6 ≤ sizeLine := by decide
  have cm (j : Int) : CMul 1024 j := .inl ⟨by decide, by decide⟩
  refine ⟨_, rfl, _, _, rfl, rfl, (by show (0 : Int) < 250; decide), _, _, rfl, rfl, ?_⟩
  have k1 := Kp.refl [] H
  refine ⟨_, rfl, _, _, rfl, rfl, (by show (0 : Int) < 1024; decide), s1, fun a1 n1 => ?_⟩
  try dsimp only
  have kf_ : ∀ o, Kp [] [a1] H (upd H a1 o) := fun o => Kp.newIn (S := []) n1
  generalize ee_ : upd H a1 _ = H1
  have kn_ : Kp [] [a1] H H1 := by rw [← ee_]; exact kf_ _
  have h_a1 : H1 a1 = some (.lst ([d % 1024].map V.int)) := by
    rw [← ee_]
    refine upd_same.trans ?_
    rfl
  clear ee_ kf_
  replace k1 := k1.trans kn_.drop
  clear kn_
  refine ⟨_, rfl, s2, fun a2 n2 => ?_⟩
  try dsimp only
  have kn_ := Kp.newIn (S := []) (o := .tup [.str "mark", .int pc]) n2
  have h_a2 : (upd H1 a2 (.tup [.str "mark", .int pc])) a2 = some _ := upd_same
  replace h_a1 := kn_.kept _ _ h_a1 none_in
  generalize upd H1 a2 (.tup [.str "mark", .int pc]) = H2 at *
  replace k1 := k1.trans kn_.drop
  clear kn_
  refine ⟨s3, fun a3 n3 => ?_⟩
  try dsimp only
  have kn_ := Kp.newIn (S := []) (o := .tup [.ref a1, .int 0, .ref a2]) n3
  have h_a3 : (upd H2 a3 (.tup [.ref a1, .int 0, .ref a2])) a3 = some _ := upd_same
  replace h_a1 := kn_.kept _ _ h_a1 none_in
  replace h_a2 := kn_.kept _ _ h_a2 none_in
  generalize upd H2 a3 (.tup [.ref a1, .int 0, .ref a2]) = H3 at *
  replace k1 := k1.trans kn_.drop
  clear kn_
  refine ⟨_, rfl, _, _, rfl, rfl, (by show (0 : Int) < 41; decide), _, _, rfl, rfl, _, _, rfl, rfl, cm _, _, _, rfl, rfl, s1, fun a4 n4 => ?_⟩
  try dsimp only
  have kf_ : ∀ o, Kp [] [a4] H3 (upd H3 a4 o) := fun o => Kp.newIn (S := []) n4
  generalize ee_ : upd H3 a4 _ = H4
  have kn_ : Kp [] [a4] H3 H4 := by rw [← ee_]; exact kf_ _
  have h_a4 : H4 a4 = some (.lst ([1024 * (23 + d % 41) + 5].map V.int)) := by
    rw [← ee_]
    refine upd_same.trans ?_
    rfl
  replace h_a1 := kn_.kept _ _ h_a1 none_in
  replace h_a2 := kn_.kept _ _ h_a2 none_in
  replace h_a3 := kn_.kept _ _ h_a3 none_in
  clear ee_ kf_
  replace k1 := k1.trans kn_.drop
  clear kn_
  refine ⟨_, rfl, s2, fun a5 n5 => ?_⟩
  try dsimp only
  have kn_ := Kp.newIn (S := []) (o := .tup [.str "none", .int pc]) n5
  have h_a5 : (upd H4 a5 (.tup [.str "none", .int pc])) a5 = some _ := upd_same
  replace h_a1 := kn_.kept _ _ h_a1 none_in
  replace h_a2 := kn_.kept _ _ h_a2 none_in
  replace h_a3 := kn_.kept _ _ h_a3 none_in
  replace h_a4 := kn_.kept _ _ h_a4 none_in
  generalize upd H4 a5 (.tup [.str "none", .int pc]) = H5 at *
  replace k1 := k1.trans kn_.drop
  clear kn_
  refine ⟨s3, fun a6 n6 => ?_⟩
  try dsimp only
  have kn_ := Kp.newIn (S := []) (o := .tup [.ref a4, .int 0, .ref a5]) n6
  have h_a6 : (upd H5 a6 (.tup [.ref a4, .int 0, .ref a5])) a6 = some _ := upd_same
  replace h_a1 := kn_.kept _ _ h_a1 none_in
  replace h_a2 := kn_.kept _ _ h_a2 none_in
  replace h_a3 := kn_.kept _ _ h_a3 none_in
  replace h_a4 := kn_.kept _ _ h_a4 none_in
  replace h_a5 := kn_.kept _ _ h_a5 none_in
  generalize upd H5 a6 (.tup [.ref a4, .int 0, .ref a5]) = H6 at *
  replace k1 := k1.trans kn_.drop
  clear kn_
  refine ⟨s2, fun da nda => ?_⟩
  have ne1 : a1 ≠ da := ne_of_none h_a1 nda
  have ne4 : a4 ≠ da := ne_of_none h_a4 nda
  try dsimp only
  have kn_ := Kp.newIn (S := []) (o := .lst [.ref a3, .ref a6]) nda
  have h_da : (upd H6 da (.lst [.ref a3, .ref a6])) da = some _ := upd_same
  replace h_a1 := kn_.kept _ _ h_a1 none_in
  replace h_a2 := kn_.kept _ _ h_a2 none_in
  replace h_a3 := kn_.kept _ _ h_a3 none_in
  replace h_a4 := kn_.kept _ _ h_a4 none_in
  replace h_a5 := kn_.kept _ _ h_a5 none_in
  replace h_a6 := kn_.kept _ _ h_a6 none_in
  generalize upd H6 da (.lst [.ref a3, .ref a6]) = H7 at *
  have kk := kn_
  clear kn_
  have hp : Paired (CaseAt H7 da) [.ref a3, .ref a6] (baseC d pc) :=
    .cons ⟨a3, a1, _, rfl, h_a3, h_a1, ne1, a2, rfl, h_a2⟩ (.cons ⟨a6, a4, _, rfl, h_a6, h_a4, ne4, a5, rfl, h_a5⟩ .nil)
  clear h_a1 h_a2 h_a3 h_a4 h_a5 h_a6
  -- the six far ones
  refine ⟨s6, fun lo nlo => ?_⟩
  have h_da7 := h_da
  have kf_ : ∀ o, Kp [] [lo] H7 (upd H7 lo o) := fun o => Kp.newIn (S := []) nlo
  generalize ee_ : upd H7 lo _ = H8
  have kn_ : Kp [] [lo] H7 H8 := by rw [← ee_]; exact kf_ _
  have h_lo : H8 lo = some (.lst ([2, 3, 4, 5, 6, 7].map V.int)) := by
    rw [← ee_]
    refine upd_same.trans ?_
    rfl
  replace h_da := kn_.kept _ _ h_da none_in
  replace hp := cases_mono kn_ hp
  clear ee_ kf_
  replace kk := kk.trans kn_.drop
  clear kn_
  have nlod : lo ≠ da := fun e => by rw [e] at nlo; rw [nlo] at h_da7; cases h_da7
  have kd := k1.trans kk
  clear k1 kk h_da7 n1 n2 n3 n4 n5 n6 nda ne1 ne4
  refine ⟨_, rfl, ⟨_, SqL.of h_lo⟩, for_list (K := K) (a := lo) (xs := ([2, 3, 4, 5, 6, 7] : List Int).map V.int) (fun i σ H' => ∃ (vs : List V) (v5 : Option V), σ = [some (.int n), some (.int d), some (.int pc), some (.int (774 + d % 250)), some (.ref da), v5] ∧ H' da = some (.lst vs) ∧
    Paired (CaseAt H' da) vs (baseC d pc ++ (([2, 3, 4, 5, 6, 7] : List Int).take i).map (farC d pc)) ∧ Kp [] [da] H H' ∧ H' lo = some (.lst (([2, 3, 4, 5, 6, 7] : List Int).map V.int))) ⟨_, none, rfl, h_da, hp, kd, h_lo⟩ (fun i σ H' _ p => by
      obtain ⟨_, _, _, _, _, _, hlo⟩ := p
      exact SqL.of hlo) ?_ ?_⟩
  · clear hp h_da kd h_lo
    rintro i y σ G hi ⟨vs, v5, rfl, h_da, hp, kd, h_lo⟩
    have il := (List.getElem?_eq_some_iff.mp hi).1
    obtain ⟨op, rfl, hop⟩ : ∃ op, y = .int op ∧ ([2, 3, 4, 5, 6, 7] : List Int)[i]? = some op := by
      rw [List.getElem?_map] at hi
      cases hz : ([2, 3, 4, 5, 6, 7] : List Int)[i]? with
      | none => rw [hz] at hi; cases hi
      | some n => rw [hz] at hi; exact ⟨n, (Option.some.inj hi).symm, rfl⟩
    have hvl : vs.length ≤ 100 := by
      rw [paired_all (G := fun _ => True) hp, List.length_append, List.length_map, List.length_take, show (baseC d pc).length = 2 from rfl, show ([2, 3, 4, 5, 6, 7] : List Int).length = 6 from rfl]
      omega
    refine ⟨_, rfl, .inl ⟨rfl, _, SqL.of h_da⟩, _, rfl, _, _, rfl, rfl, cm _, _, rfl, _, _, rfl, rfl, s1, fun b1 m1 => ?_⟩
    have nb : b1 ≠ da := (ne_of_none h_da m1).symm
    try dsimp only
    have kf_ : ∀ o, Kp [] [b1] G (upd G b1 o) := fun o => Kp.newIn (S := []) m1
    generalize ee_ : upd G b1 _ = G1
    have kn_ : Kp [] [b1] G G1 := by rw [← ee_]; exact kf_ _
    have h_b1 : G1 b1 = some (.lst ([1024 * op + (774 + d % 250)].map V.int)) := by
      rw [← ee_]
      refine upd_same.trans ?_
      rfl
    replace h_da := kn_.kept _ _ h_da none_in
    replace hp := cases_mono kn_ hp
    replace h_lo := kn_.kept _ _ h_lo none_in
    clear ee_ kf_
    replace kd := kd.trans kn_.drop
    clear kn_
    refine ⟨_, rfl, _, rfl, s3, fun b2 m2 => ?_⟩
    try dsimp only
    have kn_ := Kp.newIn (S := []) (o := .tup [.str "far", .int pc, .int (774 + d % 250)]) m2
    have h_b2 : (upd G1 b2 (.tup [.str "far", .int pc, .int (774 + d % 250)])) b2 = some _ := upd_same
    replace h_da := kn_.kept _ _ h_da none_in
    replace hp := cases_mono kn_ hp
    replace h_lo := kn_.kept _ _ h_lo none_in
    replace h_b1 := kn_.kept _ _ h_b1 none_in
    generalize upd G1 b2 (.tup [.str "far", .int pc, .int (774 + d % 250)]) = G2 at *
    replace kd := kd.trans kn_.drop
    clear kn_
    refine ⟨s3, fun b3 m3 => ?_⟩
    try dsimp only
    have kn_ := Kp.newIn (S := []) (o := .tup [.ref b1, .int 0, .ref b2]) m3
    have h_b3 : (upd G2 b3 (.tup [.ref b1, .int 0, .ref b2])) b3 = some _ := upd_same
    replace h_da := kn_.kept _ _ h_da none_in
    replace hp := cases_mono kn_ hp
    replace h_lo := kn_.kept _ _ h_lo none_in
    replace h_b1 := kn_.kept _ _ h_b1 none_in
    replace h_b2 := kn_.kept _ _ h_b2 none_in
    generalize upd G2 b3 (.tup [.ref b1, .int 0, .ref b2]) = G3 at *
    replace kd := kd.trans kn_.drop
    clear kn_
    refine ⟨_, _, _, rfl, rfl, h_da, small_ (by omega), ?_⟩
    try dsimp only
    generalize ee_ : upd G3 da _ = G4
    have km_ : Kp [da] [da] G3 G4 := by rw [← ee_]; exact Kp.upd h_da trivial (by simp)
    have hn_ : G4 da = some (.lst (vs ++ [.ref b3])) := by
      rw [← ee_]
      refine upd_same.trans ?_
      first | rfl | kernel_rfl
    replace h_b2 := km_.tups _ _ h_b2
    replace h_b3 := km_.tups _ _ h_b3
    replace hp := cases_mut km_ hp
    replace h_b1 := km_.kept _ _ h_b1 (by simpa using nb)
    replace h_lo := km_.kept _ _ h_lo (by simpa using nlod)
    clear ee_
    clear h_da
    have h_da := hn_
    clear hn_
    replace kd := kd.trans km_
    clear km_
    refine ⟨_, _, rfl, h_da, ?_, kd, h_lo⟩
    have := paired_snoc (F := CaseAt G4 da) (x := V.ref b3) (y := farC d pc op) ⟨b3, b1, _, rfl, h_b3, h_b1, nb, b2, rfl, h_b2⟩ hp
    rw [List.append_assoc] at this
    rw [List.take_add_one, hop, List.map_append]
    exact this
  clear hp h_da kd h_lo
  rintro σ G0 ⟨vs, v5, rfl, h_da, hp, kd, _⟩
  replace hp : Paired (CaseAt G0 da) vs (baseC d pc ++ ([2, 3, 4, 5, 6, 7] : List Int).map (farC d pc)) := hp
  have hvl : vs.length = 8 := by rw [paired_all (G := fun _ => True) hp]; rfl
  refine ⟨_, rfl, .inl ⟨rfl, _, SqL.of h_da⟩, _, _, rfl, rfl, cm _, _, rfl, _, _, rfl, rfl, (by show (0 : Int) < 512; decide), _, _, rfl, rfl, s1, fun c0a c0n => ?_⟩
  have c0e : c0a ≠ da := (ne_of_none h_da c0n).symm
  try dsimp only
  have kf_ : ∀ o, Kp [] [c0a] G0 (upd G0 c0a o) := fun o => Kp.newIn (S := []) c0n
  generalize ee_ : upd G0 c0a _ = C0A
  have kn_ : Kp [] [c0a] G0 C0A := by rw [← ee_]; exact kf_ _
  have h_c0a : C0A c0a = some (.lst ([1024 * 3 + d % 512].map V.int)) := by
    rw [← ee_]
    refine upd_same.trans ?_
    rfl
  replace h_da := kn_.kept _ _ h_da none_in
  replace hp := cases_mono kn_ hp
  clear ee_ kf_
  replace kd := kd.trans kn_.drop
  clear kn_
  refine ⟨_, rfl, _, rfl, _, _, rfl, rfl, (by show (0 : Int) < 512; decide), s3, fun c0b c0m => ?_⟩
  try dsimp only
  have kn_ := Kp.newIn (S := []) (o := .tup [.str "flash", .int (pc), .int (d % 512)]) c0m
  have h_c0b : (upd C0A c0b (.tup [.str "flash", .int (pc), .int (d % 512)])) c0b = some _ := upd_same
  replace h_da := kn_.kept _ _ h_da none_in
  replace hp := cases_mono kn_ hp
  replace h_c0a := kn_.kept _ _ h_c0a none_in
  generalize upd C0A c0b (.tup [.str "flash", .int (pc), .int (d % 512)]) = C0B at *
  replace kd := kd.trans kn_.drop
  clear kn_
  refine ⟨s3, fun c0c c0o => ?_⟩
  try dsimp only
  have kn_ := Kp.newIn (S := []) (o := .tup [.ref c0a, .int 0, .ref c0b]) c0o
  have h_c0c : (upd C0B c0c (.tup [.ref c0a, .int 0, .ref c0b])) c0c = some _ := upd_same
  replace h_da := kn_.kept _ _ h_da none_in
  replace hp := cases_mono kn_ hp
  replace h_c0a := kn_.kept _ _ h_c0a none_in
  replace h_c0b := kn_.kept _ _ h_c0b none_in
  generalize upd C0B c0c (.tup [.ref c0a, .int 0, .ref c0b]) = C0C at *
  replace kd := kd.trans kn_.drop
  clear kn_
  refine ⟨_, _, _, rfl, rfl, h_da, small_ (by simp [hvl]), ?_⟩
  try dsimp only
  generalize ee_ : upd C0C da _ = C0D
  have km_ : Kp [da] [da] C0C C0D := by rw [← ee_]; exact Kp.upd h_da trivial (by simp)
  have hn_ : C0D da = some (.lst (vs ++ [.ref c0c])) := by
    rw [← ee_]
    refine upd_same.trans ?_
    first | rfl | kernel_rfl
  replace h_c0b := km_.tups _ _ h_c0b
  replace h_c0c := km_.tups _ _ h_c0c
  replace hp := cases_mut km_ hp
  replace h_c0a := km_.kept _ _ h_c0a (by simpa using c0e)
  clear ee_
  clear h_da
  have h_da := hn_
  clear hn_
  replace kd := kd.trans km_
  clear km_
  replace hp := paired_snoc (F := CaseAt C0D da) (x := V.ref c0c) (y := ⟨[1024 * 3 + d % 512], 0, some [.str "flash", .int (pc), .int (d % 512)]⟩) ⟨c0c, c0a, _, rfl, h_c0c, h_c0a, c0e, ⟨c0b, rfl, h_c0b⟩⟩ hp
  clear h_c0a h_c0c h_c0b
  refine ⟨_, rfl, .inl ⟨rfl, _, SqL.of h_da⟩, _, _, rfl, rfl, cm _, _, _, rfl, rfl, s1, fun c1a c1n => ?_⟩
  have c1e : c1a ≠ da := (ne_of_none h_da c1n).symm
  try dsimp only
  have kf_ : ∀ o, Kp [] [c1a] C0D (upd C0D c1a o) := fun o => Kp.newIn (S := []) c1n
  generalize ee_ : upd C0D c1a _ = C1A
  have kn_ : Kp [] [c1a] C0D C1A := by rw [← ee_]; exact kf_ _
  have h_c1a : C1A c1a = some (.lst ([1024 * 3 + 772].map V.int)) := by
    rw [← ee_]
    refine upd_same.trans ?_
    rfl
  replace h_da := kn_.kept _ _ h_da none_in
  replace hp := cases_mono kn_ hp
  clear ee_ kf_
  replace kd := kd.trans kn_.drop
  clear kn_
  refine ⟨_, rfl, s3, fun c1b c1m => ?_⟩
  try dsimp only
  have kn_ := Kp.newIn (S := []) (o := .tup [.str "still", .int (pc), .int (772)]) c1m
  have h_c1b : (upd C1A c1b (.tup [.str "still", .int (pc), .int (772)])) c1b = some _ := upd_same
  replace h_da := kn_.kept _ _ h_da none_in
  replace hp := cases_mono kn_ hp
  replace h_c1a := kn_.kept _ _ h_c1a none_in
  generalize upd C1A c1b (.tup [.str "still", .int (pc), .int (772)]) = C1B at *
  replace kd := kd.trans kn_.drop
  clear kn_
  refine ⟨s3, fun c1c c1o => ?_⟩
  try dsimp only
  have kn_ := Kp.newIn (S := []) (o := .tup [.ref c1a, .int 0, .ref c1b]) c1o
  have h_c1c : (upd C1B c1c (.tup [.ref c1a, .int 0, .ref c1b])) c1c = some _ := upd_same
  replace h_da := kn_.kept _ _ h_da none_in
  replace hp := cases_mono kn_ hp
  replace h_c1a := kn_.kept _ _ h_c1a none_in
  replace h_c1b := kn_.kept _ _ h_c1b none_in
  generalize upd C1B c1c (.tup [.ref c1a, .int 0, .ref c1b]) = C1C at *
  replace kd := kd.trans kn_.drop
  clear kn_
  refine ⟨_, _, _, rfl, rfl, h_da, small_ (by simp [hvl]), ?_⟩
  try dsimp only
  generalize ee_ : upd C1C da _ = C1D
  have km_ : Kp [da] [da] C1C C1D := by rw [← ee_]; exact Kp.upd h_da trivial (by simp)
  have hn_ : C1D da = some (.lst ((vs ++ [.ref c0c]) ++ [.ref c1c])) := by
    rw [← ee_]
    refine upd_same.trans ?_
    first | rfl | kernel_rfl
  replace h_c1b := km_.tups _ _ h_c1b
  replace h_c1c := km_.tups _ _ h_c1c
  replace hp := cases_mut km_ hp
  replace h_c1a := km_.kept _ _ h_c1a (by simpa using c1e)
  clear ee_
  clear h_da
  have h_da := hn_
  clear hn_
  replace kd := kd.trans km_
  clear km_
  replace hp := paired_snoc (F := CaseAt C1D da) (x := V.ref c1c) (y := ⟨[1024 * 3 + 772], 0, some [.str "still", .int (pc), .int (772)]⟩) ⟨c1c, c1a, _, rfl, h_c1c, h_c1a, c1e, ⟨c1b, rfl, h_c1b⟩⟩ hp
  clear h_c1a h_c1c h_c1b
  refine ⟨_, rfl, .inl ⟨rfl, _, SqL.of h_da⟩, _, _, rfl, rfl, cm _, _, _, rfl, rfl, _, _, rfl, rfl, cm _, _, _, rfl, rfl, cm _, _, _, rfl, rfl, _, rfl, _, _, rfl, rfl, (by show (0 : Int) < 900; decide), _, _, rfl, rfl, s3, fun c2a c2n => ?_⟩
  have c2e : c2a ≠ da := (ne_of_none h_da c2n).symm
  try dsimp only
  have kf_ : ∀ o, Kp [] [c2a] C1D (upd C1D c2a o) := fun o => Kp.newIn (S := []) c2n
  generalize ee_ : upd C1D c2a _ = C2A
  have kn_ : Kp [] [c2a] C1D C2A := by rw [← ee_]; exact kf_ _
  have h_c2a : C2A c2a = some (.lst ([1024 * 1 + 700, 1024 * 10, 1024 * 8 + 74 + d % 900].map V.int)) := by
    rw [← ee_]
    refine upd_same.trans ?_
    rfl
  replace h_da := kn_.kept _ _ h_da none_in
  replace hp := cases_mono kn_ hp
  clear ee_ kf_
  replace kd := kd.trans kn_.drop
  clear kn_
  refine ⟨_, rfl, _, _, rfl, rfl, _, rfl, _, _, rfl, rfl, (by show (0 : Int) < 900; decide), _, _, rfl, rfl, s3, fun c2b c2m => ?_⟩
  try dsimp only
  have kn_ := Kp.newIn (S := []) (o := .tup [.str "far", .int (pc + 2), .int (774 + d % 900)]) c2m
  have h_c2b : (upd C2A c2b (.tup [.str "far", .int (pc + 2), .int (774 + d % 900)])) c2b = some _ := upd_same
  replace h_da := kn_.kept _ _ h_da none_in
  replace hp := cases_mono kn_ hp
  replace h_c2a := kn_.kept _ _ h_c2a none_in
  generalize upd C2A c2b (.tup [.str "far", .int (pc + 2), .int (774 + d % 900)]) = C2B at *
  replace kd := kd.trans kn_.drop
  clear kn_
  refine ⟨s3, fun c2c c2o => ?_⟩
  try dsimp only
  have kn_ := Kp.newIn (S := []) (o := .tup [.ref c2a, .int 2, .ref c2b]) c2o
  have h_c2c : (upd C2B c2c (.tup [.ref c2a, .int 2, .ref c2b])) c2c = some _ := upd_same
  replace h_da := kn_.kept _ _ h_da none_in
  replace hp := cases_mono kn_ hp
  replace h_c2a := kn_.kept _ _ h_c2a none_in
  replace h_c2b := kn_.kept _ _ h_c2b none_in
  generalize upd C2B c2c (.tup [.ref c2a, .int 2, .ref c2b]) = C2C at *
  replace kd := kd.trans kn_.drop
  clear kn_
  refine ⟨_, _, _, rfl, rfl, h_da, small_ (by simp [hvl]), ?_⟩
  try dsimp only
  generalize ee_ : upd C2C da _ = C2D
  have km_ : Kp [da] [da] C2C C2D := by rw [← ee_]; exact Kp.upd h_da trivial (by simp)
  have hn_ : C2D da = some (.lst (((vs ++ [.ref c0c]) ++ [.ref c1c]) ++ [.ref c2c])) := by
    rw [← ee_]
    refine upd_same.trans ?_
    first | rfl | kernel_rfl
  replace h_c2b := km_.tups _ _ h_c2b
  replace h_c2c := km_.tups _ _ h_c2c
  replace hp := cases_mut km_ hp
  replace h_c2a := km_.kept _ _ h_c2a (by simpa using c2e)
  clear ee_
  clear h_da
  have h_da := hn_
  clear hn_
  replace kd := kd.trans km_
  clear km_
  replace hp := paired_snoc (F := CaseAt C2D da) (x := V.ref c2c) (y := ⟨[1024 * 1 + 700, 1024 * 10, 1024 * 8 + 74 + d % 900], 2, some [.str "far", .int (pc + 2), .int (774 + d % 900)]⟩) ⟨c2c, c2a, _, rfl, h_c2c, h_c2a, c2e, ⟨c2b, rfl, h_c2b⟩⟩ hp
  clear h_c2a h_c2c h_c2b
  refine ⟨_, rfl, .inl ⟨rfl, _, SqL.of h_da⟩, _, _, rfl, rfl, cm _, _, _, rfl, rfl, _, _, rfl, rfl, cm _, _, _, rfl, rfl, cm _, _, _, rfl, rfl, _, rfl, _, _, rfl, rfl, (by show (0 : Int) < 50; decide), _, _, rfl, rfl, s3, fun c3a c3n => ?_⟩
  have c3e : c3a ≠ da := (ne_of_none h_da c3n).symm
  try dsimp only
  have kf_ : ∀ o, Kp [] [c3a] C2D (upd C2D c3a o) := fun o => Kp.newIn (S := []) c3n
  generalize ee_ : upd C2D c3a _ = C3A
  have kn_ : Kp [] [c3a] C2D C3A := by rw [← ee_]; exact kf_ _
  have h_c3a : C3A c3a = some (.lst ([1024 * 1 + 70, 1024 * 10, 1024 * 9 + 441 - d % 50].map V.int)) := by
    rw [← ee_]
    refine upd_same.trans ?_
    rfl
  replace h_da := kn_.kept _ _ h_da none_in
  replace hp := cases_mono kn_ hp
  clear ee_ kf_
  replace kd := kd.trans kn_.drop
  clear kn_
  refine ⟨_, rfl, _, _, rfl, rfl, _, rfl, _, _, rfl, rfl, (by show (0 : Int) < 50; decide), _, _, rfl, rfl, s3, fun c3b c3m => ?_⟩
  try dsimp only
  have kn_ := Kp.newIn (S := []) (o := .tup [.str "flash", .int (pc + 2), .int (511 - d % 50)]) c3m
  have h_c3b : (upd C3A c3b (.tup [.str "flash", .int (pc + 2), .int (511 - d % 50)])) c3b = some _ := upd_same
  replace h_da := kn_.kept _ _ h_da none_in
  replace hp := cases_mono kn_ hp
  replace h_c3a := kn_.kept _ _ h_c3a none_in
  generalize upd C3A c3b (.tup [.str "flash", .int (pc + 2), .int (511 - d % 50)]) = C3B at *
  replace kd := kd.trans kn_.drop
  clear kn_
  refine ⟨s3, fun c3c c3o => ?_⟩
  try dsimp only
  have kn_ := Kp.newIn (S := []) (o := .tup [.ref c3a, .int 2, .ref c3b]) c3o
  have h_c3c : (upd C3B c3c (.tup [.ref c3a, .int 2, .ref c3b])) c3c = some _ := upd_same
  replace h_da := kn_.kept _ _ h_da none_in
  replace hp := cases_mono kn_ hp
  replace h_c3a := kn_.kept _ _ h_c3a none_in
  replace h_c3b := kn_.kept _ _ h_c3b none_in
  generalize upd C3B c3c (.tup [.ref c3a, .int 2, .ref c3b]) = C3C at *
  replace kd := kd.trans kn_.drop
  clear kn_
  refine ⟨_, _, _, rfl, rfl, h_da, small_ (by simp [hvl]), ?_⟩
  try dsimp only
  generalize ee_ : upd C3C da _ = C3D
  have km_ : Kp [da] [da] C3C C3D := by rw [← ee_]; exact Kp.upd h_da trivial (by simp)
  have hn_ : C3D da = some (.lst ((((vs ++ [.ref c0c]) ++ [.ref c1c]) ++ [.ref c2c]) ++ [.ref c3c])) := by
    rw [← ee_]
    refine upd_same.trans ?_
    first | rfl | kernel_rfl
  replace h_c3b := km_.tups _ _ h_c3b
  replace h_c3c := km_.tups _ _ h_c3c
  replace hp := cases_mut km_ hp
  replace h_c3a := km_.kept _ _ h_c3a (by simpa using c3e)
  clear ee_
  clear h_da
  have h_da := hn_
  clear hn_
  replace kd := kd.trans km_
  clear km_
  replace hp := paired_snoc (F := CaseAt C3D da) (x := V.ref c3c) (y := ⟨[1024 * 1 + 70, 1024 * 10, 1024 * 9 + 441 - d % 50], 2, some [.str "flash", .int (pc + 2), .int (511 - d % 50)]⟩) ⟨c3c, c3a, _, rfl, h_c3c, h_c3a, c3e, ⟨c3b, rfl, h_c3b⟩⟩ hp
  clear h_c3a h_c3c h_c3b
  refine ⟨_, rfl, .inl ⟨rfl, _, SqL.of h_da⟩, _, _, rfl, rfl, cm _, s1, fun c4z c4y => ?_⟩
  try dsimp only
  have kn_ := Kp.newIn (S := []) (o := .lst [.int (1024 * 18)]) c4y
  have h_c4z : (upd C3D c4z (.lst [.int (1024 * 18)])) c4z = some _ := upd_same
  replace h_da := kn_.kept _ _ h_da none_in
  replace hp := cases_mono kn_ hp
  generalize upd C3D c4z (.lst [.int (1024 * 18)]) = C4Z at *
  replace kd := kd.trans kn_.drop
  clear kn_
  refine ⟨_, _, _, rfl, rfl, h_c4z, by decide, by decide, small_le (by show 1 * (7 : Int).toNat ≤ 16777216; decide), fun c4a c4n => ?_⟩
  have c4e : c4a ≠ da := (ne_of_none h_da c4n).symm
  try dsimp only
  have kf_ : ∀ o, Kp [] [c4a] C4Z (upd C4Z c4a o) := fun o => Kp.newIn (S := []) c4n
  generalize ee_ : upd C4Z c4a _ = C4A
  have kn_ : Kp [] [c4a] C4Z C4A := by rw [← ee_]; exact kf_ _
  have h_c4a : C4A c4a = some (.lst ((List.replicate 7 (1024 * 18)).map V.int)) := by
    rw [← ee_]
    refine upd_same.trans ?_
    show some (HO.lst (List.replicate 7 [V.int (1024 * 18)]).flatten) = _; rw [rep_flat]
  replace h_da := kn_.kept _ _ h_da none_in
  replace hp := cases_mono kn_ hp
  clear ee_ kf_
  replace kd := kd.trans kn_.drop
  clear kn_
  refine ⟨_, rfl, _, _, rfl, rfl, s3, fun c4b c4m => ?_⟩
  try dsimp only
  have kn_ := Kp.newIn (S := []) (o := .tup [.str "far", .int (pc + 6), .int (774)]) c4m
  have h_c4b : (upd C4A c4b (.tup [.str "far", .int (pc + 6), .int (774)])) c4b = some _ := upd_same
  replace h_da := kn_.kept _ _ h_da none_in
  replace hp := cases_mono kn_ hp
  replace h_c4a := kn_.kept _ _ h_c4a none_in
  generalize upd C4A c4b (.tup [.str "far", .int (pc + 6), .int (774)]) = C4B at *
  replace kd := kd.trans kn_.drop
  clear kn_
  refine ⟨s3, fun c4c c4o => ?_⟩
  try dsimp only
  have kn_ := Kp.newIn (S := []) (o := .tup [.ref c4a, .int 6, .ref c4b]) c4o
  have h_c4c : (upd C4B c4c (.tup [.ref c4a, .int 6, .ref c4b])) c4c = some _ := upd_same
  replace h_da := kn_.kept _ _ h_da none_in
  replace hp := cases_mono kn_ hp
  replace h_c4a := kn_.kept _ _ h_c4a none_in
  replace h_c4b := kn_.kept _ _ h_c4b none_in
  generalize upd C4B c4c (.tup [.ref c4a, .int 6, .ref c4b]) = C4C at *
  replace kd := kd.trans kn_.drop
  clear kn_
  refine ⟨_, _, _, rfl, rfl, h_da, small_ (by simp [hvl]), ?_⟩
  try dsimp only
  generalize ee_ : upd C4C da _ = C4D
  have km_ : Kp [da] [da] C4C C4D := by rw [← ee_]; exact Kp.upd h_da trivial (by simp)
  have hn_ : C4D da = some (.lst (((((vs ++ [.ref c0c]) ++ [.ref c1c]) ++ [.ref c2c]) ++ [.ref c3c]) ++ [.ref c4c])) := by
    rw [← ee_]
    refine upd_same.trans ?_
    first | rfl | kernel_rfl
  replace h_c4b := km_.tups _ _ h_c4b
  replace h_c4c := km_.tups _ _ h_c4c
  replace hp := cases_mut km_ hp
  replace h_c4a := km_.kept _ _ h_c4a (by simpa using c4e)
  clear ee_
  clear h_da
  have h_da := hn_
  clear hn_
  replace kd := kd.trans km_
  clear km_
  replace hp := paired_snoc (F := CaseAt C4D da) (x := V.ref c4c) (y := ⟨List.replicate 7 (1024 * 18), 6, some [.str "far", .int (pc + 6), .int (774)]⟩) ⟨c4c, c4a, _, rfl, h_c4c, h_c4a, c4e, ⟨c4b, rfl, h_c4b⟩⟩ hp
  clear h_c4a h_c4c h_c4b
  refine ⟨_, rfl, .inl ⟨rfl, _, SqL.of h_da⟩, _, _, rfl, rfl, cm _, _, _, rfl, rfl, _, rfl, _, _, rfl, rfl, (by show (0 : Int) < 256; decide), _, _, rfl, rfl, s1, fun c5a c5n => ?_⟩
  have c5e : c5a ≠ da := (ne_of_none h_da c5n).symm
  try dsimp only
  have kf_ : ∀ o, Kp [] [c5a] C4D (upd C4D c5a o) := fun o => Kp.newIn (S := []) c5n
  generalize ee_ : upd C4D c5a _ = C5A
  have kn_ : Kp [] [c5a] C4D C5A := by rw [← ee_]; exact kf_ _
  have h_c5a : C5A c5a = some (.lst ([1024 * 12 + 768 + d % 256].map V.int)) := by
    rw [← ee_]
    refine upd_same.trans ?_
    rfl
  replace h_da := kn_.kept _ _ h_da none_in
  replace hp := cases_mono kn_ hp
  clear ee_ kf_
  replace kd := kd.trans kn_.drop
  clear kn_
  refine ⟨_, rfl, _, _, rfl, rfl, (by show (0 : Int) < 256; decide), _, _, rfl, rfl, _, rfl, _, _, rfl, rfl, (by show (0 : Int) < 256; decide), _, _, rfl, rfl, s3, fun c5b c5m => ?_⟩
  try dsimp only
  have kn_ := Kp.newIn (S := []) (o := .tup [.str "far", .int (768 + d % 256), .int (768 + d % 256)]) c5m
  have h_c5b : (upd C5A c5b (.tup [.str "far", .int (768 + d % 256), .int (768 + d % 256)])) c5b = some _ := upd_same
  replace h_da := kn_.kept _ _ h_da none_in
  replace hp := cases_mono kn_ hp
  replace h_c5a := kn_.kept _ _ h_c5a none_in
  generalize upd C5A c5b (.tup [.str "far", .int (768 + d % 256), .int (768 + d % 256)]) = C5B at *
  replace kd := kd.trans kn_.drop
  clear kn_
  refine ⟨s3, fun c5c c5o => ?_⟩
  try dsimp only
  have kn_ := Kp.newIn (S := []) (o := .tup [.ref c5a, .int 1, .ref c5b]) c5o
  have h_c5c : (upd C5B c5c (.tup [.ref c5a, .int 1, .ref c5b])) c5c = some _ := upd_same
  replace h_da := kn_.kept _ _ h_da none_in
  replace hp := cases_mono kn_ hp
  replace h_c5a := kn_.kept _ _ h_c5a none_in
  replace h_c5b := kn_.kept _ _ h_c5b none_in
  generalize upd C5B c5c (.tup [.ref c5a, .int 1, .ref c5b]) = C5C at *
  replace kd := kd.trans kn_.drop
  clear kn_
  refine ⟨_, _, _, rfl, rfl, h_da, small_ (by simp [hvl]), ?_⟩
  try dsimp only
  generalize ee_ : upd C5C da _ = C5D
  have km_ : Kp [da] [da] C5C C5D := by rw [← ee_]; exact Kp.upd h_da trivial (by simp)
  have hn_ : C5D da = some (.lst ((((((vs ++ [.ref c0c]) ++ [.ref c1c]) ++ [.ref c2c]) ++ [.ref c3c]) ++ [.ref c4c]) ++ [.ref c5c])) := by
    rw [← ee_]
    refine upd_same.trans ?_
    first | rfl | kernel_rfl
  replace h_c5b := km_.tups _ _ h_c5b
  replace h_c5c := km_.tups _ _ h_c5c
  replace hp := cases_mut km_ hp
  replace h_c5a := km_.kept _ _ h_c5a (by simpa using c5e)
  clear ee_
  clear h_da
  have h_da := hn_
  clear hn_
  replace kd := kd.trans km_
  clear km_
  replace hp := paired_snoc (F := CaseAt C5D da) (x := V.ref c5c) (y := ⟨[1024 * 12 + 768 + d % 256], 1, some [.str "far", .int (768 + d % 256), .int (768 + d % 256)]⟩) ⟨c5c, c5a, _, rfl, h_c5c, h_c5a, c5e, ⟨c5b, rfl, h_c5b⟩⟩ hp
  clear h_c5a h_c5c h_c5b
  refine ⟨_, rfl, .inl ⟨rfl, _, SqL.of h_da⟩, _, _, rfl, rfl, cm _, _, _, rfl, rfl, _, _, rfl, rfl, cm _, _, _, rfl, rfl, _, _, rfl, rfl, cm _, _, _, rfl, rfl, _, _, rfl, rfl, cm _, _, _, rfl, rfl, _, _, rfl, rfl, cm _, _, _, rfl, rfl, s5, fun c6a c6n => ?_⟩
  have c6e : c6a ≠ da := (ne_of_none h_da c6n).symm
  try dsimp only
  have kf_ : ∀ o, Kp [] [c6a] C5D (upd C5D c6a o) := fun o => Kp.newIn (S := []) c6n
  generalize ee_ : upd C5D c6a _ = C6A
  have kn_ : Kp [] [c6a] C5D C6A := by rw [← ee_]; exact kf_ _
  have h_c6a : C6A c6a = some (.lst ([1024 * 2 + 773, 1024 * 3 + 773, 1024 * 3 + 512, 1024 * 2 + 511, 1024 * 3 + 767].map V.int)) := by
    rw [← ee_]
    refine upd_same.trans ?_
    rfl
  replace h_da := kn_.kept _ _ h_da none_in
  replace hp := cases_mono kn_ hp
  clear ee_ kf_
  replace kd := kd.trans kn_.drop
  clear kn_
  refine ⟨s3, fun c6c c6o => ?_⟩
  try dsimp only
  have kn_ := Kp.newIn (S := []) (o := .tup [.ref c6a, .int 5, .non]) c6o
  have h_c6c : (upd C6A c6c (.tup [.ref c6a, .int 5, .non])) c6c = some _ := upd_same
  replace h_da := kn_.kept _ _ h_da none_in
  replace hp := cases_mono kn_ hp
  replace h_c6a := kn_.kept _ _ h_c6a none_in
  generalize upd C6A c6c (.tup [.ref c6a, .int 5, .non]) = C6C at *
  replace kd := kd.trans kn_.drop
  clear kn_
  refine ⟨_, _, _, rfl, rfl, h_da, small_ (by simp [hvl]), ?_⟩
  try dsimp only
  generalize ee_ : upd C6C da _ = C6D
  have km_ : Kp [da] [da] C6C C6D := by rw [← ee_]; exact Kp.upd h_da trivial (by simp)
  have hn_ : C6D da = some (.lst (((((((vs ++ [.ref c0c]) ++ [.ref c1c]) ++ [.ref c2c]) ++ [.ref c3c]) ++ [.ref c4c]) ++ [.ref c5c]) ++ [.ref c6c])) := by
    rw [← ee_]
    refine upd_same.trans ?_
    first | rfl | kernel_rfl
  replace h_c6c := km_.tups _ _ h_c6c
  replace hp := cases_mut km_ hp
  replace h_c6a := km_.kept _ _ h_c6a (by simpa using c6e)
  clear ee_
  clear h_da
  have h_da := hn_
  clear hn_
  replace kd := kd.trans km_
  clear km_
  replace hp := paired_snoc (F := CaseAt C6D da) (x := V.ref c6c) (y := ⟨[1024 * 2 + 773, 1024 * 3 + 773, 1024 * 3 + 512, 1024 * 2 + 511, 1024 * 3 + 767], 5, none⟩) ⟨c6c, c6a, _, rfl, h_c6c, h_c6a, c6e, rfl⟩ hp
  clear h_c6a h_c6c
  have hv15 : (((((((vs ++ [V.ref c0c]) ++ [V.ref c1c]) ++ [V.ref c2c]) ++ [V.ref c3c]) ++ [V.ref c4c]) ++ [V.ref c5c]) ++ [V.ref c6c]).length = 15 := by simp [hvl]
  replace hp : Paired (CaseAt C6D da) (((((((vs ++ [V.ref c0c]) ++ [V.ref c1c]) ++ [V.ref c2c]) ++ [V.ref c3c]) ++ [V.ref c4c]) ++ [V.ref c5c]) ++ [V.ref c6c]) (cases13 d pc) := hp
  generalize (((((((vs ++ [V.ref c0c]) ++ [V.ref c1c]) ++ [V.ref c2c]) ++ [V.ref c3c]) ++ [V.ref c4c]) ++ [V.ref c5c]) ++ [V.ref c6c]) = ws at *
  have hj : (n % (ws.length : Int)).toNat < ws.length := by rw [hv15]; omega
  obtain ⟨c, hc, t, dl, u, e1, e2, e3, e4, e5⟩ := paired_get hp (List.getElem?_eq_getElem hj)
  have hat : atI ws (n % (ws.length : Int)) = some (V.ref t) := by
    have := atI_nat (xs := ws) (j := (n % (ws.length : Int)).toNat) ((List.getElem?_eq_getElem hj).trans (congrArg some e1))
    rwa [show (((n % (ws.length : Int)).toNat : Nat) : Int) = n % (ws.length : Int) by rw [hv15]; omega] at this
  refine ⟨_, rfl, _, rfl, _, rfl, _, _, rfl, .inl (SqL.of h_da), _, _, rfl, rfl, by show (0 : Int) < (ws.length : Int); rw [hv15]; decide, _, _, _, _, rfl, rfl, SqL.of h_da, hat, ?_⟩
  exact q _ t dl u c (List.mem_of_getElem? hc) e2 e3 e5 (kd.sub fun b hb => absurd hb none_in)
end

/-! ### k13: how a board stands, as data -/
def optD : Option Int → PyData
  | none => .none
  | some n => .int n
def stand0 (D : BD) : List PyData := [.int D.a, .int D.b, .int D.pc, .int D.sp, .bool D.zero, .bool D.lets, .bool D.asleep, .int D.beat]
def standW (D : BD) (n : Nat) : List PyData := (List.range n).map fun (i : Nat) => optD (D.m.at (505 + (i : Int)))
def sentD (l : List (Int × Int)) : PyData := .list (l.map fun p => .tuple [.int p.1, .int p.2])
def standD (D : BD) : List PyData := stand0 D ++ standW D 269 ++ [sentD D.sent]
section
variable {K : PySem.W.Frag} {H H' : Hp}
theorem dp_opt (o : Option Int) : Dp K H (optV o) (optD o) := by
  cases o with
  | none => exact .non
  | some n => exact .int n
theorem dpAll_app {ys : List V} {es : List PyData} : ∀ {xs : List V} {ds : List PyData}, DpAll K H xs ds → DpAll K H ys es → DpAll K H (xs ++ ys) (ds ++ es)
  | _, _, .nil, h => h
  | _, _, .cons a r, h => .cons a (dpAll_app r h)
theorem dp_sent : ∀ {vs : List V} {l : List (Int × Int)}, Tups H vs (sentT l) → DpAll K H vs (l.map fun p => .tuple [.int p.1, .int p.2])
  | _, [], .nil => .nil
  | _, x :: r, .cons ⟨t, e, h⟩ q => by
    subst e
    exact .cons (.tup (SqT.of h) (.cons (.int _) (.cons (.int _) .nil))) (dp_sent (l := r) q)
theorem dp_words {D : BD} : ∀ l : List Nat, DpAll K H (l.map fun (i : Nat) => optV (D.m.at (505 + (i : Int)))) (l.map fun (i : Nat) => optD (D.m.at (505 + (i : Int))))
  | [] => .nil
  | _ :: r => .cons (dp_opt _) (dp_words r)
theorem lay_sent (l : List (Int × Int)) : (sentD l).canLay0 = true := by
  unfold sentD
  simp only [PyData.canLay0]
  refine lay_all fun d hd => ?_
  obtain ⟨x, _, rfl⟩ := List.mem_map.mp hd
  simp only [PyData.canLay0, PyData.canLayAll0, Bool.and_self]
theorem stand_mem {D : BD} {d : PyData} (h : d ∈ standD D) : d.canLay0 = true ∧ d.depth ≤ 5 := by
  unfold standD stand0 standW at h
  rcases List.mem_append.mp h with h | h
  · rcases List.mem_append.mp h with h | h
    · simp only [List.mem_cons, List.not_mem_nil, or_false] at h
      rcases h with rfl | rfl | rfl | rfl | rfl | rfl | rfl | rfl <;> exact ⟨by simp only [PyData.canLay0], by simp only [PyData.depth]; decide⟩
    · obtain ⟨i, _, rfl⟩ := List.mem_map.mp h
      cases D.m.at (505 + (i : Int)) <;> exact ⟨by simp only [optD, PyData.canLay0], by simp only [optD, PyData.depth]; decide⟩
  · rw [List.mem_singleton.mp h]
    refine ⟨lay_sent _, ?_⟩
    unfold sentD
    simp only [PyData.depth]
    have : PyData.depthAll (D.sent.map fun p => PyData.tuple [.int p.1, .int p.2]) ≤ 2 := depth_all fun d hd => by
      obtain ⟨x, _, rfl⟩ := List.mem_map.mp hd
      simp only [PyData.depth, PyData.depthAll]; decide
    omega
theorem stand_shaped (D : BD) : SeqAt.shaped (.list (standD D)) = true := by
  refine shp ?_ ?_
  · simp only [PyData.canLay0]; exact lay_all fun d hd => (stand_mem hd).1
  · simp only [PyData.depth]
    have := depth_all (ds := standD D) (n := 5) fun d hd => (stand_mem hd).2
    omega
theorem stand_eqv (D : BD) : PyData.eqv (.list (standD D)) (.list (standD D)) = true := SeqAt.eqv_refl _ (by simp only [PyData.canLay0]; exact lay_all fun d hd => (stand_mem hd).1)
end
section
variable {P : Program} {w : World} {K : PySem.W.Frag} {mg : Str → Option Value} {base : Heap}
def sp__law_stand (K : PySem.W.Frag) : Sp := fun vs H Q _ => ∃ (A : BA) (D : BD), vs = [.ref A.p] ∧ (BoardAt K H A D ∧ ∀ H' a (vs : List V), (∀ H'' : Hp, (∀ b, H b = none → ∀ o, H' b = some o → H'' b = some o) → (∀ b xs, H' b = some (.tup xs) → H'' b = some (.tup xs)) → H'' a = some (.lst vs) ∧ DpAll K H'' vs (standD D)) → Kp [] [] H H' → Q (.ref a) H')
abbrev N__law_stand : List Str := ["_law_board", "_law_names", "_law_name", "_law_found", "_law_address"]
theorem sc__law_stand : FnScope N__law_stand ["_law_board"] (defScope s__law_stand) := ⟨rfl, rfl, rfl, by decide +kernel, rfl, by decide +kernel, by decide +kernel⟩
theorem ok__law_stand (T : Txt K mg) : Ok P w K mg base CX0 2 (He.fAd K ("_law_stand", none)) ["_law_board"] (sp__law_stand K) := by
  obtain ⟨_, G_Memory_word_at, b_Memory_word_at, kp_Memory_word_at⟩ := ok_Memory_word_at (P := P) (w := w) (base := base) T
  obtain ⟨fd, F⟩ := T.d__law_stand
  refine ⟨fd, F.ok sc__law_stand (fun vs H Q E h => by obtain ⟨A, D, rfl, _⟩ := h; rfl) (fun cdv A_ outer s_ H vs Q E hr h => ?_), F.bindsN (fun _ _ _ _ _ _ us hl => match us, hl with | [_], _ => rfl), F.kp⟩
  obtain ⟨A, D, rfl, h⟩ := h
  have hu := hu_of hr
  refine ⟨_, PSs.nox (pss_cons (ps_set (i := 1) sc__law_stand.nd rfl (.inl rfl) (pe_lst (pa_cons pe_str (pa_cons pe_str (pa_cons pe_str (pa_cons pe_str pa_nil))))))
  (pss_cons (ps_set (i := 3) sc__law_stand.nd rfl (.inl rfl) (pe_op op_cat (pe_lc (own := [("_law_name", 2)]) (g := gName 2) (tt := tYes) rfl sc__law_stand.nd (pi_list (pv 1)) (blkOk_by (own := [("_law_name", 2)]) (N := N__law_stand) (sc := defScope s__law_stand) (by decide +kernel)) (fun _ _ _ _ _ => pg_name (i := 2) sc__law_stand.nd rfl (Or.inl rfl)) (fun _ _ _ _ _ => pts_nil) (fun _ _ _ _ _ => (pe_dget hu (pe_fldK (K := K) rfl (pv 0) rfl) (pv 2) (fun _ _ => rfl)))) (pe_lst (pa_cons (pe_fld (pv 0) rfl) (pa_cons (pe_fld (pv 0) rfl) (pa_cons (pe_fld (pv 0) rfl) (pa_cons (pe_fld (pv 0) rfl) pa_nil)))))))
  (pss_one (ps_ret (pe_op op_cat (pe_op op_cat (pv 3) (pe_lc (own := [("_law_address", 4)]) (g := gName 4) (tt := tYes) rfl sc__law_stand.nd (pi_range2 (by rfl) T.f_range (pa_cons pe_int (pa_cons pe_int pa_nil))) (blkOk_by (own := [("_law_address", 4)]) (N := N__law_stand) (sc := defScope s__law_stand) (by decide +kernel)) (fun _ _ _ _ _ => pg_name (i := 4) sc__law_stand.nd rfl (Or.inl rfl)) (fun _ _ _ _ _ => pts_nil) (fun _ _ _ _ _ => (pe_meth (pe_fldK (K := K) rfl (pv 0) rfl) T.k_Memory T.m_Memory_word_at G_Memory_word_at (hr.mono (by decide)) b_Memory_word_at .nil pass0 (pa_cons (pv 4) pa_nil))))) (pe_lst (pa_cons (pe_callTy call_list_of (by rfl) T.f_list (by decide +kernel) (pa_cons (pe_fld (pv 0) rfl) pa_nil)) pa_nil))))))), ?_⟩
  obtain ⟨B, q⟩ := h
  have s4 : 4 ≤ sizeLine := by decide
  have s1 : 1 ≤ sizeLine := by decide
  have k1 := Kp.refl [] H
  refine ⟨s4, fun l0 n0 => ?_⟩
  try dsimp only
  have kn_ := Kp.newIn (S := []) (o := .lst [.str "a", .str "b", .str "pc", .str "sp"]) n0
  have h_l0 : (upd H l0 (.lst [.str "a", .str "b", .str "pc", .str "sp"])) l0 = some _ := upd_same
  replace B := B.frame (fun b hb o e => kn_.kept b o e none_in) kn_.tups
  generalize upd H l0 (.lst [.str "a", .str "b", .str "pc", .str "sp"]) = H0 at *
  replace k1 := k1.trans kn_.drop
  clear kn_
  refine ⟨_, rfl, _, rfl, ⟨_, SqL.of h_l0⟩, fun L nL => lc_list (K := K) (a := l0) (xs := [.str "a", .str "b", .str "pc", .str "sp"]) (fun j H' => Kp [] [L] H0 H' ∧ H' L = some (.lst (([D.a, D.b, D.pc, D.sp].take j).map V.int))) ⟨Kp.newIn nL, upd_same⟩ (fun j H' _ p => SqL.of (p.1.kept _ _ h_l0 none_in)) ?_ ?_⟩
  · rintro j y H6 hj ⟨k6, hL⟩
    have B6 := B.frame (fun b hb o e => k6.kept b o e none_in) k6.tups
    obtain ⟨z, n, rfl, hn, hv⟩ : ∃ z n, y = .str z ∧ [D.a, D.b, D.pc, D.sp][j]? = some n ∧ DGet H6 A.rg (.str z) (some (.int n)) := by
      match j, hj with
      | 0, hj => exact ⟨"a", D.a, (Option.some.inj hj).symm, rfl, B6.get_a⟩
      | 1, hj => exact ⟨"b", D.b, (Option.some.inj hj).symm, rfl, B6.get_b⟩
      | 2, hj => exact ⟨"pc", D.pc, (Option.some.inj hj).symm, rfl, B6.get_pc⟩
      | 3, hj => exact ⟨"sp", D.sp, (Option.some.inj hj).symm, rfl, B6.get_sp⟩
      | n + 4, hj => simp at hj
    refine ⟨rfl, _, rfl, _, _, _, _, _, rfl, B6.ob, T.k_Board, T.n_Board_registers, BoardF_registers, _, rfl, _, _, rfl, hv, _, hL, small_ (by rw [List.length_map, List.length_take]; simp; omega), k6.trans (Kp.upd hL trivial (by simp)), ?_⟩
    refine upd_same.trans ?_
    rw [List.take_add_one, hn, List.map_append]; rfl
  rintro H1 ⟨k6, hL⟩
  replace hL : H1 L = some (.lst ([D.a, D.b, D.pc, D.sp].map V.int)) := hL
  replace B := B.frame (fun b hb o e => k6.kept b o e none_in) k6.tups
  replace k1 := k1.trans k6.drop
  clear k6
  refine ⟨_, rfl, _, _, _, _, _, rfl, B.ob, T.k_Board, T.n_Board_zero, BoardF_zero, _, rfl, _, _, _, _, _, rfl, B.ob, T.k_Board, T.n_Board_lets, BoardF_lets, _, rfl, _, _, _, _, _, rfl, B.ob, T.k_Board, T.n_Board_asleep, BoardF_asleep, _, rfl, _, _, _, _, _, rfl, B.ob, T.k_Board, T.n_Board_beat, BoardF_beat, s4, fun l1 n1 => ?_⟩
  try dsimp only
  have kn_ := Kp.newIn (S := []) (o := .lst [.bl D.zero, .bl D.lets, .bl D.asleep, .int D.beat]) n1
  have h_l1 : (upd H1 l1 (.lst [.bl D.zero, .bl D.lets, .bl D.asleep, .int D.beat])) l1 = some _ := upd_same
  replace hL := kn_.kept _ _ hL none_in
  replace B := B.frame (fun b hb o e => kn_.kept b o e none_in) kn_.tups
  generalize upd H1 l1 (.lst [.bl D.zero, .bl D.lets, .bl D.asleep, .int D.beat]) = H2 at *
  replace k1 := k1.trans kn_.drop
  clear kn_
  refine ⟨_, _, _, _, rfl, rfl, hL, h_l1, small_le (by show 4 + 4 ≤ 16777216; decide), fun l2 n2 => ?_⟩
  try dsimp only
  have kn_ := Kp.newIn (S := []) (o := .lst ([D.a, D.b, D.pc, D.sp].map V.int ++ [.bl D.zero, .bl D.lets, .bl D.asleep, .int D.beat])) n2
  have h_l2 : (upd H2 l2 (.lst ([D.a, D.b, D.pc, D.sp].map V.int ++ [.bl D.zero, .bl D.lets, .bl D.asleep, .int D.beat]))) l2 = some _ := upd_same
  replace B := B.frame (fun b hb o e => kn_.kept b o e none_in) kn_.tups
  generalize upd H2 l2 (.lst ([D.a, D.b, D.pc, D.sp].map V.int ++ [.bl D.zero, .bl D.lets, .bl D.asleep, .int D.beat])) = H3 at *
  replace k1 := k1.trans kn_.drop
  clear kn_
  -- the words
  refine ⟨_, rfl, _, _, rfl, by decide, fun M nM => lc_range (lo := 505) (n := (774 - 505 : Int).toNat) (fun j H' => Kp [] [M] H3 H' ∧ H' M = some (.lst ((List.range j).map fun (i : Nat) => optV (D.m.at (505 + (i : Int)))))) ⟨Kp.newIn nM, upd_same⟩ ?_ ?_⟩
  · rintro j H6 hj ⟨k6, hM⟩
    have B6 := B.frame (fun b hb o e => k6.kept b o e none_in) k6.tups
    refine ⟨rfl, _, rfl, _, _, _, _, _, rfl, B6.ob, T.k_Board, T.n_Board_memory, BoardF_memory, _, _, _, rfl, B6.mem.ob, (by kernel_rfl), _, rfl, _, _, _, rfl, B6.mem, _, hM, small_ (by rw [List.length_map, List.length_range]; omega), k6.trans (Kp.upd hM trivial (by simp)), ?_⟩
    refine upd_same.trans ?_
    rw [List.range_succ, List.map_append]; rfl
  rintro H4 ⟨k6, hM⟩
  replace B := B.frame (fun b hb o e => k6.kept b o e none_in) k6.tups
  replace h_l2 := k6.kept _ _ h_l2 none_in
  replace k1 := k1.trans k6.drop
  clear k6
  have hn : (774 - 505 : Int).toNat = 269 := rfl
  rw [hn] at hM
  refine ⟨_, _, _, _, rfl, rfl, h_l2, hM, small_le (by rw [List.length_map (as := List.range 269), List.length_range]; show 8 + 269 ≤ 16777216; decide), fun l3 n3 => ?_⟩
  try dsimp only
  have kf_ : ∀ o, Kp [] [l3] H4 (upd H4 l3 o) := fun o => Kp.newIn (S := []) n3
  generalize ee_ : upd H4 l3 _ = H5
  have kn_ : Kp [] [l3] H4 H5 := by rw [← ee_]; exact kf_ _
  have h_l3 : H5 l3 = some (.lst (([D.a, D.b, D.pc, D.sp].map V.int ++ [.bl D.zero, .bl D.lets, .bl D.asleep, .int D.beat]) ++ (List.range 269).map fun (i : Nat) => optV (D.m.at (505 + (i : Int))))) := by
    rw [← ee_]
    refine upd_same.trans ?_
    rfl
  replace B := B.frame (fun b hb o e => kn_.kept b o e none_in) kn_.tups
  clear ee_ kf_
  replace k1 := k1.trans kn_.drop
  clear kn_
  refine ⟨_, rfl, _, _, _, _, _, rfl, B.ob, T.k_Board, T.n_Board_sent, BoardF_sent, _, _, rfl, .inl (SqL.of B.sn), fun l4 n4 => ?_⟩
  have f4 := k1.free n4 none_in
  try dsimp only
  have kn_ := Kp.newIn (S := []) (o := .lst A.sv) n4
  have h_l4 : (upd H5 l4 (.lst A.sv)) l4 = some _ := upd_same
  replace h_l3 := kn_.kept _ _ h_l3 none_in
  replace B := B.frame (fun b hb o e => kn_.kept b o e none_in) kn_.tups
  generalize upd H5 l4 (.lst A.sv) = H6 at *
  replace k1 := k1.trans kn_.drop
  clear kn_
  refine ⟨s1, fun l5 n5 => ?_⟩
  try dsimp only
  have kn_ := Kp.newIn (S := []) (o := .lst [.ref l4]) n5
  have h_l5 : (upd H6 l5 (.lst [.ref l4])) l5 = some _ := upd_same
  replace h_l3 := kn_.kept _ _ h_l3 none_in
  replace h_l4 := kn_.kept _ _ h_l4 none_in
  replace B := B.frame (fun b hb o e => kn_.kept b o e none_in) kn_.tups
  generalize upd H6 l5 (.lst [.ref l4]) = H7 at *
  replace k1 := k1.trans kn_.drop
  clear kn_
  refine ⟨_, _, _, _, rfl, rfl, h_l3, h_l5, small_le (by rw [List.length_append, List.length_map (as := List.range 269), List.length_range]; show 8 + 269 + 1 ≤ 16777216; decide), fun l6 n6 => ?_⟩
  have f6 := k1.free n6 none_in
  try dsimp only
  have kf_ : ∀ o, Kp [] [l6] H7 (upd H7 l6 o) := fun o => Kp.newIn (S := []) n6
  generalize ee_ : upd H7 l6 _ = H8
  have kn_ : Kp [] [l6] H7 H8 := by rw [← ee_]; exact kf_ _
  have h_l6 : H8 l6 = some (.lst ((([D.a, D.b, D.pc, D.sp].map V.int ++ [.bl D.zero, .bl D.lets, .bl D.asleep, .int D.beat]) ++ (List.range 269).map fun (i : Nat) => optV (D.m.at (505 + (i : Int)))) ++ [.ref l4])) := by
    rw [← ee_]
    refine upd_same.trans ?_
    rfl
  replace h_l4 := kn_.kept _ _ h_l4 none_in
  replace B := B.frame (fun b hb o e => kn_.kept b o e none_in) kn_.tups
  clear ee_ kf_
  replace k1 := k1.trans kn_.drop
  clear kn_
  refine q _ l6 _ (fun H9 kk tt => ⟨kk _ f6 _ h_l6, ?_⟩) k1
  exact dpAll_app (dpAll_app (.cons (.int _) (.cons (.int _) (.cons (.int _) (.cons (.int _) (.cons (.bl _) (.cons (.bl _) (.cons (.bl _) (.cons (.int _) .nil)))))))) (dp_words _)) (.cons (.lst (SqL.of (kk _ f4 _ h_l4)) (dp_sent (B.sent.mono tt))) .nil)
end

/-! ### k13 in plain words: what stops a board -/
section
variable {m : MD} {a b pc sp : Int} {z : Bool} {t : Int} {s : List (Int × Int)} {tc : List (Str × Int)} {w x : Int} {k : Nat}
theorem q_deed (h0 : 0 ≤ pc) (h1 : pc < 768) (hw : m.at pc = some w) : (qD m a b pc sp z t s tc).turn = (qD m a b pc sp z t s []).deedW w := by
  unfold BD.turn BD.turnB
  rw [if_neg (by show ¬ (none : Option (List V)).isSome = true; simp), if_neg (by show ¬ (false = true ∧ _); simp)]
  unfold BD.wake
  rw [if_neg (by show ¬ (false = true ∧ _); simp)]
  show (qD m a b pc sp z t s []).deed = _
  unfold BD.deed
  rw [if_neg (by show ¬ (pc < 0 ∨ 768 ≤ pc); omega)]
  show (qD m a b pc sp z t s []).deedW ((m.at pc).getD 0) = _
  rw [hw]; rfl
theorem q_far (h : 768 ≤ pc) : (qD m a b pc sp z t s tc).turn = (("stopped" : Str), (qD m a b pc sp z t s []).halt [.str "far", .int pc, .int pc]) := by
  unfold BD.turn BD.turnB
  rw [if_neg (by show ¬ (none : Option (List V)).isSome = true; simp), if_neg (by show ¬ (false = true ∧ _); simp)]
  unfold BD.wake
  rw [if_neg (by show ¬ (false = true ∧ _); simp)]
  show (qD m a b pc sp z t s []).deed = _
  unfold BD.deed
  rw [if_pos (by show pc < 0 ∨ 768 ≤ pc; omega)]; rfl
theorem q_mark (h0 : 0 ≤ pc) (h1 : pc < 768) (hw : m.at pc = some w) (hk : 0 ≤ w ∧ w < 1024) : (qD m a b pc sp z t s tc).turn = (("stopped" : Str), (qD m a b pc sp z t s []).halt [.str "mark", .int pc]) := by
  rw [q_deed h0 h1 hw]
  unfold BD.deedW
  rw [if_neg (by omega), if_pos (by omega)]; rfl
theorem q_none (h0 : 0 ≤ pc) (h1 : pc < 768) (hw : m.at pc = some w) (hk : 1024 * 23 ≤ w) : (qD m a b pc sp z t s tc).turn = (("stopped" : Str), (qD m a b pc sp z t s []).halt [.str "none", .int pc]) := by
  rw [q_deed h0 h1 hw]
  unfold BD.deedW
  rw [if_pos (by omega)]; rfl
theorem q_bar (h0 : 0 ≤ pc) (h1 : pc < 768) (hw : m.at pc = some w) (hk : w = 1024 * (k : Int) + x) (hx : 0 ≤ x ∧ x < 1024) (k23 : k < 23) (k0 : k ≠ 0) {c : List V}
    (hb : barOf m pc (addrs k x b sp).1 (addrs k x b sp).2 = some c) : (qD m a b pc sp z t s tc).turn = (("stopped" : Str), (qD m a b pc sp z t s []).halt c) := by
  rw [q_deed h0 h1 hw]
  have ek : (w / 1024).toNat = k := by omega
  have ex : w % 1024 = x := by omega
  unfold BD.deedW
  rw [ek, ex, if_neg (by omega), if_neg k0]
  show (qD m a b pc sp z t s []).deedB k x (addrs k x b sp) = _
  unfold BD.deedB
  rw [show barOf (qD m a b pc sp z t s []).m (qD m a b pc sp z t s []).pc (addrs k x b sp).1 (addrs k x b sp).2 = some c from hb]
end
theorem stopped_turn {D : BD} (h : D.stop.isSome = true) : D.turn = (("stopped" : Str), { D with tc := [] }) := by
  unfold BD.turn BD.turnB
  rw [if_pos h]
/-- n deeds are done, none of them stops the board; behind them it is E -/
def Runs (D : BD) (n : Nat) (E : BD) : Prop := (∀ i, i < n → (D.goN i).turn.1 = ("deed" : Str) ∧ (D.goN (i + 1)).stop = none ∧ (∀ w, (D.goN i).m.at (D.goN i).pc = some w → 0 ≤ w) ∧ (D.goN i).sent.length ≤ 999000) ∧ D.goN n = E
theorem Runs.nil (D : BD) : Runs D 0 D := ⟨fun i h => by omega, rfl⟩
theorem Runs.snoc {D E F : BD} {n : Nat} (r : Runs D n E) (e : E.turn = (("deed" : Str), F)) (hs : F.stop = none) (hw : ∀ w, E.m.at E.pc = some w → 0 ≤ w) (hl : E.sent.length ≤ 999000) : Runs D (n + 1) F := by
  obtain ⟨h, g⟩ := r
  refine ⟨fun i hi => ?_, goN_s g e⟩
  by_cases c : i < n
  · exact h i c
  · have : i = n := by omega
    subst this
    exact ⟨by rw [g, e], by rw [goN_s g e]; exact hs, by rw [g]; exact hw, by rw [g]; exact hl⟩
/-- a board that stopped by c, with nothing done -/
def Stops (E : BD) (c : List V) : Prop := E.turn = (("stopped" : Str), { E with tc := [], stop := some c })
theorem t_let {m : MD} {a b pc sp : Int} {z : Bool} {t : Int} {s : List (Int × Int)} {tc : List (Str × Int)} {w : Int} (q : Still m) (h0 : 0 ≤ pc) (h1 : pc < 768) (hw : m.at pc = some w) (hk : w = 1024 * 20 + 0) :
    ∃ tc', (qD m a b pc sp z t s tc).turn = (("deed" : Str), qD m a b (pc + 1) sp z (t + 1) s tc') := by
  refine ⟨[], ?_⟩
  rw [q_turn (k := 20) h0 h1 hw hk (by decide) (hb := rfl)]
  show (("deed" : Str), (qD m a b (pc + 1) sp z t s []).pass 1) = _
  rw [q_pass rfl q]; rfl
def harm : List Int := [1024 * 20, 1024 * 1 + 3, 1024 * 22]
theorem n0_still (ns : List Int) : Still (n0 ns) := ⟨rfl, rfl⟩
theorem nn_of {m : MD} {i v : Int} (e : m.at i = some v) (h0 : 0 ≤ v) : ∀ n, m.at i = some n → 0 ≤ n := fun n e2 => by
  rw [e] at e2; rw [← Option.some.inj e2]; exact h0
theorem pre13 {ns : List Int} {h : Nat} (hh : h ≤ 3) (hn : ∀ i, i < h → ns[i]? = harm[i]?) : ∃ a z t tc, Runs (BD.init ns []) h (qD (n0 ns) a 0 (h : Int) 767 z t [] tc) := by
  have A (i : Nat) (v : Int) (e : ns[i]? = some v) (hi : i < 512) : (n0 ns).at (i : Int) = some v := at_im e hi
  have r0 : Runs (BD.init ns []) 0 (qD (n0 ns) 0 0 0 767 false 0 [] []) := Runs.nil _
  by_cases c0 : h = 0
  · subst c0; exact ⟨0, false, 0, [], r0⟩
  have w0 := A 0 _ (hn 0 (by omega)) (by omega)
  obtain ⟨t1, e1⟩ := t_let (a := 0) (b := 0) (sp := 767) (z := false) (t := 0) (s := []) (tc := []) (n0_still ns) (pc := 0) (by omega) (by omega) w0 rfl
  have r1 := r0.snoc e1 rfl (nn_of w0 (by decide)) (Nat.zero_le _)
  by_cases c1 : h = 1
  · subst c1; exact ⟨0, false, 1, t1, r1⟩
  have w1 := A 1 _ (hn 1 (by omega)) (by omega)
  obtain ⟨t2, e2⟩ := t_lit (a := 0) (b := 0) (sp := 767) (z := false) (t := 1) (s := []) (tc := t1) (x := 3) (n0_still ns) (pc := 1) (by omega) (by omega) w1 rfl (by omega)
  have r2 := Runs.snoc (E := qD (n0 ns) 0 0 1 767 false 1 [] t1) r1 e2 rfl (nn_of w1 (by decide)) (Nat.zero_le _)
  by_cases c2 : h = 2
  · subst c2; exact ⟨3, _, 2, t2, r2⟩
  have c3 : h = 3 := by omega
  subst c3
  have w2 := A 2 _ (hn 2 (by omega)) (by omega)
  obtain ⟨t3, e3⟩ := t_half (a := 3) (b := 0) (sp := 767) (z := decide ((3 : Int) = 0)) (t := 2) (s := []) (tc := t2) (x := 0) (n0_still ns) (pc := 2) (by omega) (by omega) w2 rfl (by omega)
  have r3 := Runs.snoc (E := qD (n0 ns) 3 0 2 767 (decide ((3 : Int) = 0)) 2 [] t2) r2 e3 rfl (nn_of w2 (by decide)) (Nat.zero_le _)
  exact ⟨_, _, 3, t3, r3⟩

/-! ### k13: each case runs as told -/
def im13 (h : Nat) (l : List Int) : List Int := harm.take h ++ l
structure Run13 (h : Nat) (c : Cs) (E : BD) : Prop where
  runs : Runs (BD.init (im13 h c.deeds) []) (h + c.many) E
  fetch : c.stop.isSome = true → ∀ w, E.m.at E.pc = some w → 0 ≤ w
  sent : E.sent.length ≤ 999000
  stop : E.stop = none
  ends : ∀ st, c.stop = some st → E.turn = (("stopped" : Str), { E with tc := [], stop := some st })
theorem im13_lo {h : Nat} {l : List Int} (hh : h ≤ 3) : ∀ i, i < h → (im13 h l)[i]? = harm[i]? := fun i hi => by
  unfold im13
  rw [List.getElem?_append_left (by rw [List.length_take]; show i < min h 3; omega), List.getElem?_take_of_lt hi]
theorem im13_hi {h : Nat} {l : List Int} (hh : h ≤ 3) (j : Nat) : (im13 h l)[h + j]? = l[j]? := by
  unfold im13
  have e : (harm.take h).length = h := by rw [List.length_take]; show min h 3 = h; omega
  rw [List.getElem?_append_right (by omega), e, show h + j - h = j by omega]
theorem im13_at {h : Nat} {l : List Int} (hh : h ≤ 3) {j : Nat} {v : Int} (e : l[j]? = some v) (hj : j < 8) : (n0 (im13 h l)).at ((h : Int) + (j : Int)) = some v := by
  have := at_im (ns := im13 h l) (i := h + j) (v := v) (ra := List.replicate 256 0) (pl := List.replicate 6 0) (by rw [im13_hi hh, e]) (by omega)
  rw [show (((h + j : Nat) : Int)) = (h : Int) + (j : Int) by omega] at this
  exact this
/-- a first deed that stops the board -/
theorem run13_one {h : Nat} {v : Int} {st : List V} (hh : h ≤ 3) (h0 : 0 ≤ v) (e : ∀ a z t tc, (qD (n0 (im13 h [v])) a 0 (h : Int) 767 z t [] tc).turn = (("stopped" : Str), (qD (n0 (im13 h [v])) a 0 (h : Int) 767 z t [] []).halt st)) :
    ∃ E, Run13 h ⟨[v], 0, some st⟩ E := by
  obtain ⟨a, z, t, tc, r⟩ := pre13 (ns := im13 h [v]) hh (im13_lo hh)
  have w0 := im13_at (h := h) (l := [v]) hh (j := 0) rfl (by decide)
  rw [show (h : Int) + ((0 : Nat) : Int) = h by omega] at w0
  exact ⟨_, r, fun _ => nn_of w0 h0, Nat.zero_le _, rfl, fun st' es => by rw [← Option.some.inj es]; exact e a z t tc⟩
theorem at_none {m : MD} {x : Int} (hx : 773 < x) : m.at x = none := by
  unfold MD.at; rw [if_pos (.inr hx)]
theorem w13 {h : Nat} {v : Int} (hh : h ≤ 3) : (n0 (im13 h [v])).at (h : Int) = some v := by
  have w0 := im13_at (h := h) (l := [v]) hh (j := 0) rfl (by decide)
  rwa [show (h : Int) + ((0 : Nat) : Int) = h by omega] at w0
theorem run13_mark {h : Nat} {d : Int} (hh : h ≤ 3) : ∃ E, Run13 h ⟨[d % 1024], 0, some [.str "mark", .int (h : Int)]⟩ E :=
  run13_one hh (by omega) fun a z t tc => q_mark (by omega) (by omega) (w13 hh) (by omega)
theorem run13_none {h : Nat} {d : Int} (hh : h ≤ 3) : ∃ E, Run13 h ⟨[1024 * (23 + d % 41) + 5], 0, some [.str "none", .int (h : Int)]⟩ E :=
  run13_one hh (by omega) fun a z t tc => q_none (by omega) (by omega) (w13 hh) (by omega)
theorem bar_far {m : MD} {pc x : Int} (hx : 773 < x) : barOf m pc [x] [] = some [.str "far", .int pc, .int x] := by
  unfold barOf barR
  rw [at_none hx]; rfl
theorem bar_put {m : MD} {pc x : Int} {bb : Bar} (hx : barTo x = some bb) : barOf m pc [] [x] = some [.str bb.s, .int pc, .int x] := by
  unfold barOf barR barP
  rw [hx]
theorem run13_far {h : Nat} {d op : Int} (hh : h ≤ 3) (ho : op = 2 ∨ op = 3 ∨ op = 4 ∨ op = 5 ∨ op = 6 ∨ op = 7) : ∃ E, Run13 h (farC d (h : Int) op) E := by
  have bx : 774 ≤ 774 + d % 250 ∧ 774 + d % 250 < 1024 := by omega
  refine run13_one hh (by omega) fun a z t tc => ?_
  have hb : barTo (774 + d % 250) = some .far := by unfold barTo; rw [if_pos (by omega)]
  rcases ho with rfl | rfl | rfl | rfl | rfl | rfl
  · exact q_bar (k := 2) (by omega) (by omega) (w13 hh) rfl (by omega) (by decide) (by decide) (bar_far (by omega))
  · exact q_bar (k := 3) (by omega) (by omega) (w13 hh) rfl (by omega) (by decide) (by decide) (bar_put hb)
  · exact q_bar (k := 4) (by omega) (by omega) (w13 hh) rfl (by omega) (by decide) (by decide) (bar_far (by omega))
  · exact q_bar (k := 5) (by omega) (by omega) (w13 hh) rfl (by omega) (by decide) (by decide) (bar_far (by omega))
  · exact q_bar (k := 6) (by omega) (by omega) (w13 hh) rfl (by omega) (by decide) (by decide) (bar_far (by omega))
  · exact q_bar (k := 7) (by omega) (by omega) (w13 hh) rfl (by omega) (by decide) (by decide) (bar_far (by omega))
theorem run13_flash {h : Nat} {d : Int} (hh : h ≤ 3) : ∃ E, Run13 h ⟨[1024 * 3 + d % 512], 0, some [.str "flash", .int (h : Int), .int (d % 512)]⟩ E := by
  have hb : barTo (d % 512) = some .flash := by unfold barTo; rw [if_neg (by omega), if_pos (by omega)]
  exact run13_one hh (by omega) fun a z t tc => q_bar (k := 3) (by omega) (by omega) (w13 hh) rfl (by omega) (by decide) (by decide) (bar_put hb)
theorem run13_still {h : Nat} (hh : h ≤ 3) : ∃ E, Run13 h ⟨[1024 * 3 + 772], 0, some [.str "still", .int (h : Int), .int 772]⟩ E :=
  run13_one hh (by omega) fun a z t tc => q_bar (k := 3) (x := 772) (by omega) (by omega) (w13 hh) rfl (by omega) (by decide) (by decide) (bar_put (bb := .still) rfl)

theorem w13p {h : Nat} {l : List Int} (hh : h ≤ 3) (j : Nat) {v pc : Int} (e : l[j]? = some v) (hj : j < 8) (hp : pc = (h : Int) + (j : Int)) : (n0 (im13 h l)).at pc = some v := by
  rw [hp]; exact im13_at hh e hj
theorem run13_getb {h : Nat} {d : Int} (hh : h ≤ 3) (hd : 0 ≤ d) : ∃ E, Run13 h ⟨[1024 * 1 + 700, 1024 * 10, 1024 * 8 + 74 + d % 900], 2, some [.str "far", .int ((h : Int) + 2), .int (774 + d % 900)]⟩ E := by
  obtain ⟨a, z, t, tc, r⟩ := pre13 (ns := im13 h [1024 * 1 + 700, 1024 * 10, 1024 * 8 + 74 + d % 900]) hh (im13_lo hh)
  have w0 := w13p (h := h) (l := [1024 * 1 + 700, 1024 * 10, 1024 * 8 + 74 + d % 900]) hh 0 (pc := (h : Int)) rfl (by decide) (by omega)
  have w1 := w13p (h := h) (l := [1024 * 1 + 700, 1024 * 10, 1024 * 8 + 74 + d % 900]) hh 1 (pc := (h : Int) + 1) rfl (by decide) (by omega)
  have w2 := w13p (h := h) (l := [1024 * 1 + 700, 1024 * 10, 1024 * 8 + 74 + d % 900]) hh 2 (pc := (h : Int) + 1 + 1) rfl (by decide) (by omega)
  obtain ⟨t1, e1⟩ := t_lit (a := a) (b := 0) (sp := 767) (z := z) (t := t) (s := []) (tc := tc) (x := 700) (n0_still _) (pc := (h : Int)) (by omega) (by omega) w0 rfl (by omega)
  have r1 := r.snoc e1 rfl (nn_of w0 (by decide)) (Nat.zero_le _)
  obtain ⟨t2, e2⟩ := t_tob (a := 700) (b := 0) (sp := 767) (z := decide ((700 : Int) = 0)) (t := t + 1) (s := []) (tc := t1) (x := 0) (n0_still _) (pc := (h : Int) + 1) (by omega) (by omega) w1 rfl (by omega)
  have r2 := r1.snoc e2 rfl (nn_of w1 (by decide)) (Nat.zero_le _)
  refine ⟨_, r2, fun _ => nn_of w2 (by omega), Nat.zero_le _, rfl, fun st es => ?_⟩
  rw [← Option.some.inj es]
  have := q_bar (a := 700) (b := 700) (sp := 767) (z := decide ((700 : Int) = 0)) (t := t + 1 + 1) (s := []) (tc := t2) (k := 8) (x := 74 + d % 900) (c := [.str "far", .int ((h : Int) + 1 + 1), .int (74 + d % 900 + 700)]) (pc := (h : Int) + 1 + 1) (by omega) (by omega) w2 (by omega) (by omega) (by decide) (by decide) (bar_far (by omega))
  rw [show (h : Int) + 2 = (h : Int) + 1 + 1 by omega, show 774 + d % 900 = 74 + d % 900 + 700 by omega]
  exact this
theorem run13_putb {h : Nat} {d : Int} (hh : h ≤ 3) (hd : 0 ≤ d) : ∃ E, Run13 h ⟨[1024 * 1 + 70, 1024 * 10, 1024 * 9 + 441 - d % 50], 2, some [.str "flash", .int ((h : Int) + 2), .int (511 - d % 50)]⟩ E := by
  obtain ⟨a, z, t, tc, r⟩ := pre13 (ns := im13 h [1024 * 1 + 70, 1024 * 10, 1024 * 9 + 441 - d % 50]) hh (im13_lo hh)
  have w0 := w13p (h := h) (l := [1024 * 1 + 70, 1024 * 10, 1024 * 9 + 441 - d % 50]) hh 0 (pc := (h : Int)) rfl (by decide) (by omega)
  have w1 := w13p (h := h) (l := [1024 * 1 + 70, 1024 * 10, 1024 * 9 + 441 - d % 50]) hh 1 (pc := (h : Int) + 1) rfl (by decide) (by omega)
  have w2 := w13p (h := h) (l := [1024 * 1 + 70, 1024 * 10, 1024 * 9 + 441 - d % 50]) hh 2 (pc := (h : Int) + 1 + 1) rfl (by decide) (by omega)
  obtain ⟨t1, e1⟩ := t_lit (a := a) (b := 0) (sp := 767) (z := z) (t := t) (s := []) (tc := tc) (x := 70) (n0_still _) (pc := (h : Int)) (by omega) (by omega) w0 rfl (by omega)
  have r1 := r.snoc e1 rfl (nn_of w0 (by decide)) (Nat.zero_le _)
  obtain ⟨t2, e2⟩ := t_tob (a := 70) (b := 0) (sp := 767) (z := decide ((70 : Int) = 0)) (t := t + 1) (s := []) (tc := t1) (x := 0) (n0_still _) (pc := (h : Int) + 1) (by omega) (by omega) w1 rfl (by omega)
  have r2 := r1.snoc e2 rfl (nn_of w1 (by decide)) (Nat.zero_le _)
  refine ⟨_, r2, fun _ => nn_of w2 (by omega), Nat.zero_le _, rfl, fun st es => ?_⟩
  rw [← Option.some.inj es]
  have hb : barTo (441 - d % 50 + 70) = some .flash := by unfold barTo; rw [if_neg (by omega), if_pos (by omega)]
  have := q_bar (a := 70) (b := 70) (sp := 767) (z := decide ((70 : Int) = 0)) (t := t + 1 + 1) (s := []) (tc := t2) (k := 9) (x := 441 - d % 50) (c := [.str "flash", .int ((h : Int) + 1 + 1), .int (441 - d % 50 + 70)]) (pc := (h : Int) + 1 + 1) (by omega) (by omega) w2 (by omega) (by omega) (by decide) (by decide) (bar_put hb)
  rw [show (h : Int) + 2 = (h : Int) + 1 + 1 by omega, show 511 - d % 50 = 441 - d % 50 + 70 by omega]
  exact this
theorem run13_go {h : Nat} {d : Int} (hh : h ≤ 3) (hd : 0 ≤ d) : ∃ E, Run13 h ⟨[1024 * 12 + 768 + d % 256], 1, some [.str "far", .int (768 + d % 256), .int (768 + d % 256)]⟩ E := by
  obtain ⟨a, z, t, tc, r⟩ := pre13 (ns := im13 h [1024 * 12 + 768 + d % 256]) hh (im13_lo hh)
  have w0 := w13p (h := h) (l := [1024 * 12 + 768 + d % 256]) hh 0 (pc := (h : Int)) rfl (by decide) (by omega)
  obtain ⟨t1, e1⟩ := t_lead (a := a) (b := 0) (sp := 767) (z := z) (t := t) (s := []) (tc := tc) (x := 768 + d % 256) (k := 12) (n0_still _) (pc := (h : Int)) (by omega) (by omega) w0 (by omega) (by omega) (by omega)
  rw [if_pos (.inl rfl)] at e1
  have r1 := r.snoc e1 rfl (nn_of w0 (by omega)) (Nat.zero_le _)
  refine ⟨_, r1, fun _ w hw => ?_, Nat.zero_le _, rfl, fun st es => ?_⟩
  · have hw : (n0 (im13 h [1024 * 12 + 768 + d % 256])).at (768 + d % 256) = some w := hw
    unfold MD.at n0 at hw
    by_cases c : 768 + d % 256 < 0 ∨ 773 < 768 + d % 256
    · rw [if_pos c] at hw; cases hw
    · rw [if_neg c, if_neg (by omega), if_neg (by omega)] at hw
      have hw : (List.replicate 6 (0 : Int))[(768 + d % 256 - 768).toNat]? = some w := hw
      rw [List.getElem?_replicate] at hw
      split at hw
      · rw [← Option.some.inj hw]; decide
      · cases hw
  · rw [← Option.some.inj es]
    exact q_far (by omega)

theorem n0_pl {ns : List Int} {x : Int} (h0 : 768 ≤ x) (h1 : x ≤ 773) : (n0 ns).at x = some 0 := by
  unfold MD.at n0
  rw [if_neg (by omega), if_neg (by omega), if_neg (by omega)]
  show (List.replicate 6 (0 : Int))[(x - 768).toNat]? = some 0
  rw [List.getElem?_replicate, if_pos (by omega)]
theorem pops13 {h : Nat} (hh : h ≤ 3) : ∀ j : Nat, j ≤ 6 → ∃ a z t tc, Runs (BD.init (im13 h (List.replicate 7 (1024 * 18))) []) (h + j) (qD (n0 (im13 h (List.replicate 7 (1024 * 18)))) a 0 ((h : Int) + (j : Int)) (767 + (j : Int)) z t [] tc)
  | 0, _ => by
    obtain ⟨a, z, t, tc, r⟩ := pre13 (ns := im13 h (List.replicate 7 (1024 * 18))) hh (im13_lo hh)
    refine ⟨a, z, t, tc, ?_⟩
    rw [show (h : Int) + ((0 : Nat) : Int) = h by omega, show (767 : Int) + ((0 : Nat) : Int) = 767 by omega]
    exact r
  | j + 1, hj => by
    obtain ⟨a, z, t, tc, r⟩ := pops13 hh j (by omega)
    have w0 := w13p (h := h) (l := List.replicate 7 (1024 * 18)) hh j (v := 1024 * 18) (pc := (h : Int) + (j : Int)) (by rw [List.getElem?_replicate, if_pos (by omega)]) (by omega) rfl
    obtain ⟨t1, e1⟩ := t_pop (a := a) (b := 0) (sp := 767 + (j : Int)) (z := z) (t := t) (s := []) (tc := tc) (x := 0) (n0_still _) (pc := (h : Int) + (j : Int)) (by omega) (by omega) w0 rfl (by omega) (v := 0) (n0_pl (by omega) (by omega)) (Int.le_refl _)
    have r1 := r.snoc e1 rfl (nn_of w0 (by decide)) (Nat.zero_le _)
    refine ⟨0, decide ((0 : Int) = 0), t + 2, t1, ?_⟩
    rw [show (h : Int) + ((j + 1 : Nat) : Int) = (h : Int) + (j : Int) + 1 by omega, show (767 : Int) + ((j + 1 : Nat) : Int) = 767 + (j : Int) + 1 by omega]
    exact r1
theorem run13_pops {h : Nat} (hh : h ≤ 3) : ∃ E, Run13 h ⟨List.replicate 7 (1024 * 18), 6, some [.str "far", .int ((h : Int) + 6), .int 774]⟩ E := by
  obtain ⟨a, z, t, tc, r⟩ := pops13 hh 6 (Nat.le_refl _)
  have w0 := w13p (h := h) (l := List.replicate 7 (1024 * 18)) hh 6 (v := 1024 * 18) (pc := (h : Int) + ((6 : Nat) : Int)) rfl (by decide) rfl
  refine ⟨_, r, fun _ => nn_of w0 (by decide), Nat.zero_le _, rfl, fun st es => ?_⟩
  rw [← Option.some.inj es]
  exact q_bar (k := 18) (x := 0) (by omega) (by omega) w0 rfl (by decide) (by decide) (by decide) (bar_far (by decide))
theorem at_773 {m : MD} {w j : Int} (hj : j < 768) : (m.put 773 w).at j = m.at j := by
  unfold MD.put
  rw [if_neg (by decide), if_neg (by decide)]
  unfold MD.at
  by_cases c : j < 0 ∨ 773 < j
  · rw [if_pos c, if_pos c]
  · rw [if_neg c, if_neg c]
    by_cases c2 : j < 512
    · rw [if_pos c2, if_pos c2]
    · rw [if_neg c2, if_neg c2, if_pos hj, if_pos hj]
theorem t_out {m : MD} {a b pc sp : Int} {z : Bool} {t : Int} {s : List (Int × Int)} {tc : List (Str × Int)} {w : Int} (q : Still m) (h0 : 0 ≤ pc) (h1 : pc < 768) (hw : m.at pc = some w) (hk : w = 1024 * 3 + 773) (q2 : Still (m.put 773 a)) :
    ∃ tc', (qD m a b pc sp z t s tc).turn = (("deed" : Str), qD (m.put 773 a) a b (pc + 1) sp z (t + 2) (s ++ [(t, a)]) tc') := by
  refine ⟨[(("w" : Str), 773)], ?_⟩
  rw [q_turn (k := 3) h0 h1 hw hk (by omega) (hb := barPu rfl)]
  show (("deed" : Str), (qD (m.put 773 a) a b (pc + 1) sp z t (s ++ [(t, a)]) [(("w" : Str), 773)]).pass 2) = _
  rw [q_pass rfl q2]; rfl
theorem run13_bounds {h : Nat} (hh : h ≤ 3) : ∃ E, Run13 h ⟨[1024 * 2 + 773, 1024 * 3 + 773, 1024 * 3 + 512, 1024 * 2 + 511, 1024 * 3 + 767], 5, none⟩ E := by
  obtain ⟨a, z, t, tc, r⟩ := pre13 (ns := im13 h [1024 * 2 + 773, 1024 * 3 + 773, 1024 * 3 + 512, 1024 * 2 + 511, 1024 * 3 + 767]) hh (im13_lo hh)
  have W (j : Nat) (v pc : Int) (e : [1024 * 2 + 773, 1024 * 3 + 773, 1024 * 3 + 512, 1024 * 2 + 511, 1024 * 3 + 767][j]? = some v) (hj : j < 8) (hp : pc = (h : Int) + (j : Int)) := w13p (h := h) hh j e hj hp
  have w0 := W 0 _ (h : Int) rfl (by decide) (by omega)
  have w1 := W 1 _ ((h : Int) + 1) rfl (by decide) (by omega)
  have w2 := W 2 _ ((h : Int) + 1 + 1) rfl (by decide) (by omega)
  have w3 := W 3 _ ((h : Int) + 1 + 1 + 1) rfl (by decide) (by omega)
  have w4 := W 4 _ ((h : Int) + 1 + 1 + 1 + 1) rfl (by decide) (by omega)
  have w511 : (n0 (im13 h [1024 * 2 + 773, 1024 * 3 + 773, 1024 * 3 + 512, 1024 * 2 + 511, 1024 * 3 + 767])).at 511 = some 65535 := by
    unfold n0
    rw [at_flash (by decide) (by decide), List.getElem?_append_right (by unfold im13; simp; omega), List.getElem?_replicate, if_pos (by unfold im13; simp; omega)]
  generalize hM : n0 (im13 h [1024 * 2 + 773, 1024 * 3 + 773, 1024 * 3 + 512, 1024 * 2 + 511, 1024 * 3 + 767]) = M at *
  have sM : Still M := by rw [← hM]; exact n0_still _
  have lM : M.ra.length = 256 := by rw [← hM]; unfold n0; rw [List.length_replicate]
  have v773 : M.at 773 = some 0 := by rw [← hM]; exact n0_pl (by decide) (by decide)
  have sM1 : Still (M.put 773 0) := by rw [← hM]; exact ⟨rfl, rfl⟩
  have lM1 : (M.put 773 0).ra.length = 256 := by rw [← lM]; rfl
  obtain ⟨t1, e1⟩ := t_get (a := a) (b := 0) (sp := 767) (z := z) (t := t) (s := []) (tc := tc) (x := 773) sM (pc := (h : Int)) (by omega) (by omega) w0 rfl (by decide) v773 (Int.le_refl _)
  have r1 := r.snoc e1 rfl (nn_of w0 (by decide)) (Nat.zero_le _)
  obtain ⟨t2, e2⟩ := t_out (a := 0) (b := 0) (sp := 767) (z := decide ((0 : Int) = 0)) (t := t + 2) (s := []) (tc := t1) sM (pc := (h : Int) + 1) (by omega) (by omega) w1 rfl sM1
  have r2 := r1.snoc e2 rfl (nn_of w1 (by decide)) (Nat.zero_le _)
  have w2' : (M.put 773 0).at ((h : Int) + 1 + 1) = some _ := (at_773 (by omega)).trans w2
  obtain ⟨t3, e3⟩ := t_put (a := 0) (b := 0) (sp := 767) (z := decide ((0 : Int) = 0)) (t := t + 2 + 2) (s := [] ++ [(t + 2, 0)]) (tc := t2) (x := 512) sM1 (pc := (h : Int) + 1 + 1) (by omega) (by omega) w2' rfl (by decide)
  have r3 := r2.snoc e3 rfl (nn_of w2' (by decide)) (by show 1 ≤ 999000; decide)
  have A3 (j v : Int) (hj : j < 512) (e : M.at j = some v) : ((M.put 773 0).put 512 0).at j = some v := by
    rw [at_ram_put lM1 (by decide) (by decide), if_neg (by omega), at_773 (by omega)]; exact e
  have w3' := A3 _ _ (by omega) w3
  have s3 : Still ((M.put 773 0).put 512 0) := still_put sM1 (by decide)
  obtain ⟨t4, e4⟩ := t_get (a := 0) (b := 0) (sp := 767) (z := decide ((0 : Int) = 0)) (t := t + 2 + 2 + 2) (s := [] ++ [(t + 2, 0)]) (tc := t3) (x := 511) s3 (pc := (h : Int) + 1 + 1 + 1) (by omega) (by omega) w3' rfl (by decide) (A3 _ _ (by decide) w511) (by decide)
  have r4 := r3.snoc e4 rfl (nn_of w3' (by decide)) (by show 1 ≤ 999000; decide)
  have w4' := A3 _ _ (by omega) w4
  obtain ⟨t5, e5⟩ := t_put (a := 65535) (b := 0) (sp := 767) (z := decide ((65535 : Int) = 0)) (t := t + 2 + 2 + 2 + 2) (s := [] ++ [(t + 2, 0)]) (tc := t4) (x := 767) s3 (pc := (h : Int) + 1 + 1 + 1 + 1) (by omega) (by omega) w4' rfl (by decide)
  have r5 := r4.snoc e5 rfl (nn_of w4' (by decide)) (by show 1 ≤ 999000; decide)
  exact ⟨_, r5, (fun z => by cases z), (by show 1 ≤ 999000; decide), rfl, (fun st es => by cases es)⟩
theorem run13_all {h : Nat} {d : Int} (hh : h ≤ 3) (hd : 0 ≤ d) {c : Cs} (hc : c ∈ cases13 d (h : Int)) : ∃ E, Run13 h c E := by
  unfold cases13 baseC at hc
  simp only [List.mem_append, List.mem_cons, List.not_mem_nil, or_false, List.mem_map] at hc
  rcases hc with ((rfl | rfl) | ⟨op, ho, rfl⟩) | rfl | rfl | rfl | rfl | rfl | rfl | rfl
  · exact run13_mark hh
  · exact run13_none hh
  · exact run13_far hh ho
  · exact run13_flash hh
  · exact run13_still hh
  · exact run13_getb hh hd
  · exact run13_putb hh hd
  · exact run13_pops hh
  · exact run13_go hh hd
  · exact run13_bounds hh

theorem words13 {d pc : Int} {c : Cs} (hd : 0 ≤ d) (hc : c ∈ cases13 d pc) : (∀ n ∈ c.deeds, 0 ≤ n ∧ n ≤ 65535) ∧ c.deeds.length ≤ 7 := by
  unfold cases13 baseC farC at hc
  simp only [List.mem_append, List.mem_cons, List.not_mem_nil, or_false, List.map_cons, List.map_nil] at hc
  rcases hc with ((rfl | rfl) | (rfl | rfl | rfl | rfl | rfl | rfl)) | rfl | rfl | rfl | rfl | rfl | rfl | rfl <;>
    refine ⟨fun n hn => ?_, by simp⟩ <;> simp [List.mem_replicate] at hn <;> omega
theorem many13 {d pc : Int} {c : Cs} (hc : c ∈ cases13 d pc) : c.many ≤ 6 := by
  unfold cases13 baseC farC at hc
  simp only [List.mem_append, List.mem_cons, List.not_mem_nil, or_false, List.map_cons, List.map_nil] at hc
  rcases hc with ((rfl | rfl) | (rfl | rfl | rfl | rfl | rfl | rfl)) | rfl | rfl | rfl | rfl | rfl | rfl | rfl <;> simp
/-- the stop's parts, as data -/
def flD : V → PyData
  | .int i => .int i
  | .str s => .str s
  | _ => .none
def flOk : V → Bool
  | .int _ => true
  | .str s => PyData.strOk s
  | _ => false
theorem stop13 {d pc : Int} {c : Cs} (hc : c ∈ cases13 d pc) {st : List V} (h : c.stop = some st) : st.all flOk = true ∧ st.length ≤ 3 := by
  unfold cases13 baseC farC at hc
  simp only [List.mem_append, List.mem_cons, List.not_mem_nil, or_false, List.map_cons, List.map_nil] at hc
  rcases hc with ((rfl | rfl) | (rfl | rfl | rfl | rfl | rfl | rfl)) | rfl | rfl | rfl | rfl | rfl | rfl | rfl <;> cases h <;> exact ⟨by kernel_rfl, by simp⟩
theorem dp_flat {K : PySem.W.Frag} {H : Hp} : ∀ {st : List V}, st.all flOk = true → DpAll K H st (st.map flD)
  | [], _ => .nil
  | v :: r, h => by
    simp only [List.all_cons, Bool.and_eq_true] at h
    obtain ⟨h1, h2⟩ := h
    refine .cons ?_ (dp_flat h2)
    cases v <;> first | exact .int _ | exact .str _ | cases h1
theorem shp_flat {st : List V} (h : st.all flOk = true) : (PyData.tuple (st.map flD)).canLay0 = true ∧ SeqAt.shaped (.tuple (st.map flD)) = true := by
  have e : ∀ d ∈ st.map flD, d.canLay0 = true ∧ d.depth ≤ 0 := fun d hd => by
    obtain ⟨v, hv, rfl⟩ := List.mem_map.mp hd
    have := List.all_eq_true.mp h v hv
    cases v <;> first | exact ⟨by simp only [flD, PyData.canLay0] <;> exact this, by simp only [flD, PyData.depth]; exact Nat.le_refl _⟩ | cases this
  have c : (PyData.tuple (st.map flD)).canLay0 = true := by
    simp only [PyData.canLay0]; exact lay_all fun d hd => (e d hd).1
  refine ⟨c, shp c ?_⟩
  simp only [PyData.depth]
  have := depth_all (ds := st.map flD) (n := 0) fun d hd => (e d hd).2
  omega
section
variable {P : Program} {w : World} {K : PySem.W.Frag} {mg : Str → Option Value} {base : Heap}
def sp_law (K : PySem.W.Frag) : Sp := fun vs H Q _ => ∃ (s : Addr) (ns : List Int), vs = [.ref s] ∧ (SqL K H s (ns.map V.int) ∧ ns.length ≤ 63 ∧ ∀ H', Q (.bl true) H')
abbrev N_law : List Str := ["_law_script", "_law_cells", "_law_cell_here", "_law_row", "_law_harmless", "_law_deeds", "_law_many", "_law_stop", "_law_board", "_law_turn", "_law_ahead"]
theorem sc_law : FnScope N_law ["_law_script"] (defScope s_law) := ⟨rfl, rfl, rfl, by decide +kernel, rfl, by decide +kernel, by decide +kernel⟩
theorem okF_law (T : Txt K mg) {fd : FuncData} (F : FnP K "law" "law" s_law (He.fAd K ("law", none)) fd) : FnOk P w K mg base CX0 7 (He.fAd K ("law", none)) fd ["_law_script"] (sp_law K) := by
  obtain ⟨_, G__law_digits, b__law_digits, kp__law_digits⟩ := ok__law_digits (P := P) (w := w) (base := base) T
  obtain ⟨_, G__law_case, b__law_case, kp__law_case⟩ := ok__law_case (P := P) (w := w) (base := base) T
  obtain ⟨_, G_Board_init, b_Board_init, kp_Board_init⟩ := ok_Board_init (P := P) (w := w) (base := base) T
  obtain ⟨_, G_Board_turn, b_Board_turn, kp_Board_turn⟩ := ok_Board_turn (P := P) (w := w) (base := base) T
  obtain ⟨_, G__law_stand, b__law_stand, kp__law_stand⟩ := ok__law_stand (P := P) (w := w) (base := base) T
  refine F.ok sc_law (fun vs H Q E h => by obtain ⟨s, ns, rfl, _⟩ := h; rfl) (fun cdv A_ outer s_ H vs Q E hr h => ?_)
  obtain ⟨s, ns, rfl, h⟩ := h
  have hu := hu_of hr
  refine ⟨_, PSs.nox (pss_cons (ps_set (i := 1) sc_law.nd rfl (.inl rfl) (pe_slice sl_list (pv 0) po_none (po_some pe_int)))
  (C8.pss_cut (ps_if (pt_cmpR (op_eqD hr.units) (pv 1) (pe_lst pa_nil) (nomark _)) (pss_one (ps_set (i := 1) sc_law.nd rfl (.inl rfl) (pe_lst (pa_cons pe_int (pa_cons pe_int (pa_cons pe_int pa_nil)))))) pss_nil)
  (pss_cons (ps_for PassesOwn.never rfl (pi_list (pv 1)) (pg_name (i := 2) sc_law.nd rfl (.inl rfl)) (pss_cons (ps_set (i := 3) sc_law.nd rfl (.inl rfl) (pe_call G__law_digits (hr.mono (by decide)) (by rfl) T.g__law_digits kp__law_digits b__law_digits .nil pass0 (pa_cons (pv 2) (pa_cons pe_int pa_nil))))
    (pss_cons (ps_set (i := 4) sc_law.nd rfl (.inl rfl) (pe_slice sl_list (pe_lst (pa_cons (pe_op op_mul pe_int pe_int) (pa_cons (pe_op op_add (pe_op op_mul pe_int pe_int) pe_int) (pa_cons (pe_op op_mul pe_int pe_int) pa_nil)))) po_none (po_some (pe_op op_mod (pe_ix ix_list (pv 3) pe_int (fun _ _ => rfl)) pe_int))))
    (pss_cons (ps_asg (pe_call G__law_case (hr.mono (by decide)) (by rfl) T.g__law_case kp__law_case b__law_case .nil pass0 (pa_cons (pe_ix ix_list (pv 3) pe_int (fun _ _ => rfl)) (pa_cons (pe_ix ix_list (pv 3) pe_int (fun _ _ => rfl)) (pa_cons (pe_callB call_len_seq (by rfl) T.f_len PySem.boot_len (pa_cons (pv 4) pa_nil)) pa_nil)))) (pg_tup rfl (pgs_cons (pg_name (i := 5) sc_law.nd rfl (.inl rfl)) (pgs_cons (pg_name (i := 6) sc_law.nd rfl (.inl rfl)) (pgs_cons (pg_name (i := 7) sc_law.nd rfl (.inl rfl)) pgs_nil)))))
    (pss_cons (ps_set (i := 8) sc_law.nd rfl (.inl rfl) (pe_make T.mk_Board G_Board_init (hr.mono (by decide)) (by rfl) T.g_Board b_Board_init .nil pass0 (pa_cons (pe_op op_cat (pv 4) (pv 5)) (pa_cons (pe_lst pa_nil) pa_nil))))
    (pss_cons (ps_for PassesOwn.never rfl (pi_range1 (by rfl) T.f_range (pa_cons (pe_op op_add (pe_callB call_len_seq (by rfl) T.f_len PySem.boot_len (pa_cons (pv 4) pa_nil)) (pv 6)) pa_nil)) (pg_name (i := 9) sc_law.nd rfl (.inl rfl)) (pss_one (ps_if (PW.pt (pw_or (pt_cmpR op_ne (pe_meth0 (pv 8) T.k_Board T.m_Board_turn G_Board_turn (hr.mono (by decide)) b_Board_turn .nil pass0) pe_str (nomark _)) (pw_or1 (pt_cmpR op_notN (pe_fld (pv 8) rfl) pe_non (nomark _))))) (pss_one (ps_ret pe_bl)) pss_nil)))
    (pss_one (ps_if (pt_cmpR op_notN (pv 7) pe_non (nomark _)) (pss_cons (ps_set (i := 10) sc_law.nd rfl (.inl rfl) (pe_call G__law_stand (hr.mono (by decide)) (by rfl) T.g__law_stand kp__law_stand b__law_stand .nil pass0 (pa_cons (pv 8) pa_nil)))
      (pss_one (ps_for PassesOwn.never rfl (pi_range1 (by rfl) T.f_range (pa_cons pe_int pa_nil)) (pg_name (i := 9) sc_law.nd rfl (.inl rfl)) (pss_one (ps_if (PW.pt (pw_or (pt_cmpR op_ne (pe_meth0 (pv 8) T.k_Board T.m_Board_turn G_Board_turn (hr.mono (by decide)) b_Board_turn .nil pass0) pe_str (nomark _)) (pw_or (pt_cmpR (op_neD hr.units) (pe_fld (pv 8) rfl) (pv 7) (nomark _)) (pw_or1 (pt_cmpR (op_neD hr.units) (pe_call G__law_stand (hr.mono (by decide)) (by rfl) T.g__law_stand kp__law_stand b__law_stand .nil pass0 (pa_cons (pv 8) pa_nil)) (pv 10) (nomark _)))))) (pss_one (ps_ret pe_bl)) pss_nil))))) pss_nil))))))))
  (pss_one (ps_ret pe_bl))))), ?_⟩
  obtain ⟨hs, hl, q⟩ := h
  have s0 : 0 ≤ sizeLine := by decide
  have s1 : 1 ≤ sizeLine := by decide
  have s2 : 2 ≤ sizeLine := by decide
  have s3 : 3 ≤ sizeLine := by decide
  have s4 : 4 ≤ sizeLine := by decide
  have s5 : 5 ≤ sizeLine := by decide
  refine ⟨_, rfl, _, rfl, _, _, rfl, hs, fun c0 n0 => ?_⟩
  have kc := Kp.newIn (S := []) (o := .lst (cutV (ns.map V.int) none (some 12))) n0
  have hc : (upd H c0 (.lst (cutV (ns.map V.int) none (some 12)))) c0 = some _ := upd_same
  obtain ⟨cs, ec, lc⟩ := cut_ints ns none (some 12)
  rw [ec] at hc kc
  rw [ec]
  generalize upd H c0 (.lst (cs.map V.int)) = H1 at *
  refine ⟨fun σ' H2 => Kp [] [] H H2 ∧ ∃ (ac : Addr) (cs : List Int), H2 ac = some (.lst (cs.map V.int)) ∧ cs.length ≤ 63 ∧ σ' = [some (.ref s), some (.ref ac), none, none, none, none, none, none, none, none, none], ?_, ?_⟩
  · refine ⟨_, rfl, s0, fun l nl => ⟨_, _, dpL (.of (xs := cs.map V.int) (by rw [upd_ne (ne_of_none hc nl)]; exact hc)), dpL (xs := []) (SqL.of upd_same), shp_ints _, shp_ints _, ?_⟩⟩
    rw [eqv_intL]
    have kl := Kp.newIn (S := []) (o := .lst []) nl
    have hcl := kl.kept _ _ hc none_in
    generalize upd H1 l (.lst []) = H2 at *
    refine ⟨_, rfl, iteD (fun _ => ?_) (fun _ => ?_)⟩
    · refine ⟨s3, fun c1 n1 => ?_⟩
      exact ⟨kc.drop.trans (kl.drop.trans (Kp.new n1)), c1, [4, 19, 300], upd_same, by decide, rfl⟩
    · exact ⟨kc.drop.trans kl.drop, c0, cs, hcl, by omega, rfl⟩
  clear hc lc ec kc cs
  rintro σ' H2 ⟨k2, ac, cs, hac, lcs, rfl⟩
  refine ⟨_, rfl, _, rfl, ⟨_, SqL.of hac⟩, for_list (K := K) (a := ac) (xs := cs.map V.int) (fun i σ H' => Kp [] [] H H' ∧ H' ac = some (.lst (cs.map V.int)) ∧ ∃ v2 v3 v4 v5 v6 v7 v8 v9 v10 : Option V, σ = [some (.ref s), some (.ref ac), v2, v3, v4, v5, v6, v7, v8, v9, v10]) ⟨k2, hac, _, _, _, _, _, _, _, _, _, rfl⟩ (fun i σ H' _ p => SqL.of p.2.1) ?_ ?_⟩
  rotate_left
  · rintro σ H3 ⟨k3, h3, v2, v3, v4, v5, v6, v7, v8, v9, v10, rfl⟩
    exact q _
  rintro i y σ H3 hi ⟨k3, h3, v2, v3, v4, v5, v6, v7, v8, v9, v10, rfl⟩
  obtain ⟨c, rfl⟩ : ∃ c, y = .int c := by
    rw [List.getElem?_map] at hi
    cases hz : cs[i]? with
    | none => rw [hz] at hi; cases hi
    | some n => rw [hz] at hi; exact ⟨n, (Option.some.inj hi).symm⟩
  clear hi
  refine ⟨_, rfl, c, 8, rfl, by decide, fun H4 r ds hdl hdg nr hr k4 => ?_⟩
  have h4 := k4.kept _ _ h3 none_in
  replace k3 := k3.trans k4
  have cm (j : Int) : CMul 1024 j := .inl ⟨by decide, by decide⟩
  obtain ⟨d0, e0, b0⟩ := dig hdl hdg 0 (by decide)
  obtain ⟨d1, e1, b1⟩ := dig hdl hdg 1 (by decide)
  obtain ⟨d2, e2, b2⟩ := dig hdl hdg 2 (by decide)
  refine ⟨_, _, rfl, rfl, cm _, _, _, rfl, rfl, cm _, _, _, rfl, rfl, _, _, rfl, rfl, cm _, s3, fun l1 n1 => ?_⟩
  try dsimp only
  have kf_ : ∀ o, Kp [] [l1] H4 (upd H4 l1 o) := fun o => Kp.newIn (S := []) n1
  generalize ee_ : upd H4 l1 _ = H5
  have kn_ : Kp [] [l1] H4 H5 := by rw [← ee_]; exact kf_ _
  have h_l1 : H5 l1 = some (.lst (harm.map V.int)) := by
    rw [← ee_]
    refine upd_same.trans ?_
    rfl
  replace hr := kn_.kept _ _ hr none_in
  replace h4 := kn_.kept _ _ h4 none_in
  clear ee_ kf_
  replace k3 := k3.trans kn_.drop
  clear kn_
  refine ⟨_, rfl, _, _, _, _, rfl, rfl, SqL.of hr, e0, _, _, rfl, rfl, (by show (0 : Int) < 4; decide), _, rfl, _, _, rfl, SqL.of h_l1, fun l2 n2 => ?_⟩
  have hh : (d0 % 4).toNat ≤ 3 := by omega
  have ecut : cutV (harm.map V.int) none (some (d0 % 4)) = (harm.take (d0 % 4).toNat).map V.int := by
    rcases (show d0 % 4 = 0 ∨ d0 % 4 = 1 ∨ d0 % 4 = 2 ∨ d0 % 4 = 3 by omega) with z | z | z | z <;> rw [z] <;> rfl
  try dsimp only
  have kf_ : ∀ o, Kp [] [l2] H5 (upd H5 l2 o) := fun o => Kp.newIn (S := []) n2
  generalize ee_ : upd H5 l2 _ = H6
  have kn_ : Kp [] [l2] H5 H6 := by rw [← ee_]; exact kf_ _
  have h_l2 : H6 l2 = some (.lst ((harm.take (d0 % 4).toNat).map V.int)) := by
    rw [← ee_]
    refine upd_same.trans ?_
    rw [ecut]
  replace hr := kn_.kept _ _ hr none_in
  replace h4 := kn_.kept _ _ h4 none_in
  clear ee_ kf_
  replace k3 := k3.trans kn_.drop
  clear kn_
  generalize hhe : (d0 % 4).toNat = hn at *
  have elen : ((harm.take hn).map V.int).length = hn := by rw [List.length_map, List.length_take]; show min hn 3 = hn; omega
  refine ⟨_, rfl, _, _, _, _, rfl, rfl, SqL.of hr, e1, _, rfl, _, _, _, _, rfl, rfl, SqL.of hr, e2, _, rfl, _, _, rfl, .inl (SqL.of h_l2), d1, d2, _, rfl, b1.1, b2.1, fun H7 tt dl u cc hc ht hdl2 hst k7 => ?_⟩
  rw [elen] at hc
  have h7 := k7.kept _ _ h4 none_in
  replace h_l2 := k7.kept _ _ h_l2 none_in
  replace k3 := k3.trans k7
  refine ⟨_, _, rfl, SqT.of ht, rfl, _, _, rfl, _, _, rfl, _, _, rfl, rfl, ?_⟩
  have kI := Kp.refl [] H7
  obtain ⟨wd13, ln13⟩ := words13 (show 0 ≤ d2 from b2.1) hc
  refine ⟨_, rfl, _, rfl, _, _, _, _, rfl, rfl, h_l2, hdl2, small_le (by rw [elen, List.length_map]; omega), fun l3 n3 => ?_⟩
  try dsimp only
  have kf_ : ∀ o, Kp [] [l3] H7 (upd H7 l3 o) := fun o => Kp.newIn (S := []) n3
  generalize ee_ : upd H7 l3 _ = H8
  have kn_ : Kp [] [l3] H7 H8 := by rw [← ee_]; exact kf_ _
  have h_l3 : H8 l3 = some (.lst ((im13 hn cc.deeds).map V.int)) := by
    rw [← ee_]
    refine upd_same.trans ?_
    unfold im13; rw [List.map_append]
  replace h7 := kn_.kept _ _ h7 none_in
  replace h_l2 := kn_.kept _ _ h_l2 none_in
  clear ee_ kf_
  replace kI := kI.trans kn_.drop
  clear kn_
  refine ⟨s0, fun l4 n4 => ?_⟩
  try dsimp only
  have kn_ := Kp.newIn (S := []) (o := .lst []) n4
  have h_l4 : (upd H8 l4 (.lst [])) l4 = some _ := upd_same
  replace h7 := kn_.kept _ _ h7 none_in
  replace h_l2 := kn_.kept _ _ h_l2 none_in
  replace h_l3 := kn_.kept _ _ h_l3 none_in
  generalize upd H8 l4 (.lst []) = H9 at *
  replace kI := kI.trans kn_.drop
  clear kn_
  refine fun pb dx np nd ne => ?_
  have np' : (upd H9 dx (.own pb)) pb = none := by rw [upd_ne (fun e => ne e.symm)]; exact np
  try dsimp only
  have kn_ := Kp.newIn (S := []) (o := .own pb) nd
  have h_dx : (upd H9 dx (.own pb)) dx = some _ := upd_same
  replace h7 := kn_.kept _ _ h7 none_in
  replace h_l2 := kn_.kept _ _ h_l2 none_in
  replace h_l3 := kn_.kept _ _ h_l3 none_in
  replace h_l4 := kn_.kept _ _ h_l4 none_in
  generalize upd H9 dx (.own pb) = HA at *
  replace kI := kI.trans kn_.drop
  clear kn_
  have h_acI := h7
  have h_l2I := h_l2
  try dsimp only
  have kn_ := Kp.newIn (S := []) (o := .ins (He.ga K "Board") dx []) np'
  have h_pb : (upd HA pb (.ins (He.ga K "Board") dx [])) pb = some _ := upd_same
  replace h_l3 := kn_.kept _ _ h_l3 none_in
  replace h_l4 := kn_.kept _ _ h_l4 none_in
  generalize upd HA pb (.ins (He.ga K "Board") dx []) = HB at *
  have kp := kn_
  clear kn_
  refine ⟨pb, dx, l3, l4, im13 hn cc.deeds, [], [], rfl, h_pb, SqL.of h_l3, h_l4, .nil, lineOk_nil, by decide, ?_, ?_, fun HK A B eA kA => ⟨rfl, ?_⟩⟩
  · have := hh
    unfold im13; rw [List.length_append, List.length_take]; omega
  · intro n hm
    unfold im13 at hm
    rcases List.mem_append.mp hm with z | z
    · have z2 := List.mem_of_mem_take z
      unfold harm at z2
      simp only [List.mem_cons, List.not_mem_nil, or_false] at z2
      omega
    · exact wd13 n z
  subst eA
  have kb : Kp [] A.own HA HK := kp.trans kA
  clear kp kA h_l3 h_l4 h_pb h7 h_l2
  obtain ⟨E, ⟨rr, eE⟩, ef, esn, est, een⟩ := run13_all hh b2.1 hc
  have hnm : ((((harm.take hn).map V.int).length : Int) + (cc.many : Int)).toNat = hn + cc.many := by rw [elen]; omega
  refine ⟨_, rfl, _, _, rfl, .inl (SqL.of (kb.kept _ _ h_l2I none_in)), _, rfl, _, _, rfl, rfl, _, rfl, by rw [elen]; omega, by rw [elen]; have := many13 hc; omega, for_range (lo := 0) (n := ((((harm.take hn).map V.int).length : Int) + (cc.many : Int)).toNat) (fun i σ H' => ∃ (A' : BA) (u9 : Option V), A'.p = A.p ∧ BoardAt K H' A' ((BD.init (im13 hn cc.deeds) []).goN i) ∧ Kp [] A'.own HA H' ∧
    σ = [some (.ref s), some (.ref ac), some (.int c), some (.ref r), some (.ref l2), some (.ref dl), some (.int cc.many), some u, some (.ref A.p), u9, v10]) ⟨A, _, rfl, B, kb, rfl⟩ ?_ ?_⟩
  · rintro i σ H1 hi ⟨A1, u9, eA1, B1, k1, rfl⟩
    rw [hnm] at hi
    replace k1 : Kp [] (A1.w A.p).own HA H1 := by rw [← eA1]; exact k1
    replace B1 := B1.as eA1
    obtain ⟨g1, g2, g3, g4⟩ := rr i hi
    refine ⟨_, rfl, _, _, _, rfl, B1.ob, (by kernel_rfl), A1.w A.p, _, rfl, B1, g3, g4, fun H2 A2 B2 e2 k2 => ?_⟩
    refine ⟨rfl, _, rfl, iteN (fun h => absurd (congrArg V.str g1) h) (fun _ => ?_)⟩
    replace B2 := B2.as e2
    replace k2 : Kp (A1.w A.p).own (A2.w A.p).own H1 H2 := k2.as e2
    have B3 : BoardAt K H2 (A2.w A.p) ((BD.init (im13 hn cc.deeds) []).goN (i + 1)) := B2
    have est3 : (A2.w A.p).st = .non := by
      have := B3.st
      rw [g2] at this
      exact this
    refine ⟨_, rfl, _, _, _, _, _, rfl, B3.ob, T.k_Board, T.n_Board_stopped, BoardF_stopped, rfl, _, rfl, ?_⟩
    rw [est3]
    exact ⟨A2.w A.p, _, rfl, B3, k1.trans k2, rfl⟩
  rintro σ H1 ⟨A1, u9, eA1, B1, k1, rfl⟩
  rw [hnm, eE] at B1
  replace k1 : Kp [] (A1.w A.p).own HA H1 := by rw [← eA1]; exact k1
  replace B1 := B1.as eA1
  have k7H : Kp [] (A1.w A.p).own H7 H1 := kI.trans k1
  have hst1 := hst.mono k7H.tups
  have hcc1 := k1.kept _ _ h_acI none_in
  have kend : Kp [] [] H H1 := (k3.trans k7H).sub (S2 := []) (fun b hb => absurd hb none_in)
  revert hst1
  cases hcs : cc.stop with
  | none =>
    intro hst1
    have eu : u = .non := hst1
    subst eu
    refine ⟨_, rfl, rfl, _, rfl, iteF ?_⟩
    exact ⟨kend, hcc1, _, _, _, _, _, _, _, _, _, rfl⟩
  | some st =>
    intro hst1
    obtain ⟨ts, eu, hts⟩ := hst1
    subst eu
    refine ⟨_, rfl, rfl, _, rfl, iteT ?_⟩
    obtain ⟨fl, es⟩ := stop13 hc hcs
    have een := een st hcs
    have ef := ef (by rw [hcs]; rfl)
    refine ⟨_, rfl, A1.w A.p, E, rfl, B1, fun H2 aa va hS k2 => ?_⟩
    have fz : ∀ b, H1 b = none → b ∉ (A1.w A.p).own := fun b h => B1.fresh h
    replace B1 := B1.frame (fun b hb o e => k2.kept b o e none_in) k2.tups
    have hts2 := k2.tups _ _ hts
    have hcc2 := k2.kept _ _ hcc1 none_in
    have nac : ac ∉ (A1.w A.p).own := fun m => by
      rcases k1.own _ m with z | z
      · cases z
      · rw [z] at h_acI; cases h_acI
    have keep2 : ∀ {Hx : Hp} {T : List Addr}, Kp (A1.w A.p).own T H2 Hx → Hx aa = some (.lst va) ∧ DpAll K Hx va (standD E) := fun {Hx T} kx => hS Hx (fun b hb o e => kx.kept b o e (fz b hb)) kx.tups
    refine ⟨_, rfl, by decide, by decide, for_range (lo := 0) (n := (4 : Int).toNat) (fun i σ H' => ∃ (A' : BA) (x : List (Str × Int)) (y : Option (List V)) (u9 : Option V), A'.p = A.p ∧ BoardAt K H' A' { E with tc := x, stop := y } ∧ ((x = E.tc ∧ y = none) ∨ y = some st) ∧ Kp (A1.w A.p).own A'.own H2 H' ∧
      σ = [some (.ref s), some (.ref ac), some (.int c), some (.ref r), some (.ref l2), some (.ref dl), some (.int cc.many), some (.ref ts), some (.ref A.p), u9, some (.ref aa)]) ⟨A1.w A.p, E.tc, none, _, rfl, by rw [← est]; exact B1, .inl ⟨rfl, rfl⟩, Kp.refl _ _, rfl⟩ ?_ ?_⟩
    · rintro i σ H3 hi ⟨A3, x, y, u9, eA3, B3, hxy, k3', rfl⟩
      replace k3' : Kp (A1.w A.p).own (A3.w A.p).own H2 H3 := k3'.as eA3
      replace B3 := B3.as eA3
      have eT : (({ E with tc := x, stop := y } : BD).turn) = (("stopped" : Str), { E with tc := [], stop := some st }) := by
        rcases hxy with ⟨rfl, rfl⟩ | rfl
        · rw [← est]; exact een
        · rw [stopped_turn (by rfl)]
      refine ⟨_, rfl, _, _, _, rfl, B3.ob, (by kernel_rfl), A3.w A.p, _, rfl, B3, ef, esn, fun H4 A4 B4 e4 k4 => ?_⟩
      rw [eT] at B4
      rw [eT]
      replace B4 := B4.as e4
      replace k4 : Kp (A3.w A.p).own (A4.w A.p).own H3 H4 := k4.as e4
      have k24 := k3'.trans k4
      refine ⟨rfl, _, rfl, iteN (fun h => absurd rfl h) (fun _ => ?_)⟩
      obtain ⟨t2, et2, ht2⟩ := B4.st
      obtain ⟨cl, sl⟩ := shp_flat fl
      refine ⟨_, rfl, _, _, _, _, _, rfl, B4.ob, T.k_Board, T.n_Board_stopped, BoardF_stopped, _, rfl, .tuple (st.map flD), .tuple (st.map flD), ?_, .tup (SqT.of (k24.tups _ _ hts2)) (dp_flat fl), sl, sl, ?_⟩
      · rw [et2]; exact .tup (SqT.of ht2) (dp_flat fl)
      rw [SeqAt.eqv_refl _ cl]
      refine ⟨_, rfl, iteF ?_⟩
      refine ⟨_, rfl, A4.w A.p, _, rfl, B4, fun H5 ab vb hS5 k5 => ?_⟩
      obtain ⟨hab, dab⟩ := hS5 H5 (fun _ _ _ e => e) (fun _ _ e => e)
      obtain ⟨haa, daa⟩ := keep2 (k24.trans k5.drop)
      have eS : standD ({ E with tc := [], stop := some st } : BD) = standD E := rfl
      rw [eS] at dab
      refine ⟨_, rfl, _, _, .lst (SqL.of hab) dab, .lst (SqL.of haa) daa, stand_shaped E, stand_shaped E, ?_⟩
      rw [stand_eqv]
      refine ⟨_, rfl, iteF ?_⟩
      have B5 := B4.frame (fun b hb o e => k5.kept b o e none_in) k5.tups
      exact ⟨A4.w A.p, [], some st, _, rfl, B5, .inr rfl, k24.trans k5.drop, rfl⟩
    · rintro σ H3 ⟨A3, x, y, u9, eA3, B3, hxy, k3', rfl⟩
      have k23 : Kp (A1.w A.p).own A3.own H2 H3 := k3'
      exact ⟨(((k3.trans k7H).trans k2.drop).trans k23).sub (S2 := []) (fun b hb => absurd hb none_in), k23.kept _ _ hcc2 nac, _, _, _, _, _, _, _, _, _, rfl⟩
end

/-! ### the head: facts by names, written lists of the top, the run -/
def fa : List He.Fa := [.glo "_wall",
  .glo "BoardError",
  .glo "NoImage",
  .int "FLASH" 512,
  .int "RAM" 768,
  .int "COUNT" 768,
  .int "TOP" 769,
  .int "FLAGS" 770,
  .int "MASK" 771,
  .int "LINE_IN" 772,
  .int "LINE_OUT" 773,
  .int "ERASED" 65535,
  .glo "Memory",
  .glo "NAMES",
  .glo "READING",
  .int "MOST" 65535,
  .glo "is_word",
  .glo "name_of",
  .glo "part_of",
  .int "FIRST_STACK" 767,
  .int "TIMER_BIT" 1,
  .int "LINE_BIT" 2,
  .glo "is_line",
  .glo "Board",
  .glo "_law_cell",
  .glo "_law_digits",
  .glo "_law_case",
  .glo "_law_stand",
  .glo "law",
  .free "all",
  .free "bool",
  .free "dict",
  .free "int",
  .free "isinstance",
  .free "len",
  .free "list",
  .free "range",
  .free "set",
  .free "sorted",
  .exc "BoardError",
  .exm "BoardError" "BoardError" true,
  .exm "BoardError" "NoImage" false,
  .exc "NoImage",
  .exm "NoImage" "BoardError" true,
  .exm "NoImage" "NoImage" true,
  .cls "Memory",
  .noat "Memory" "flash",
  .noat "Memory" "ram",
  .noat "Memory" "places",
  .meth "Memory" "__init__",
  .mkr "Memory",
  .meth "Memory" "word_at",
  .meth "Memory" "bar_to",
  .meth "Memory" "put",
  .meth "Memory" "turn_bit",
  .meth "Memory" "raise_flag",
  .meth "Memory" "place",
  .meth "Memory" "set_place",
  .meth "Memory" "twin",
  .cls "Board",
  .noat "Board" "memory",
  .noat "Board" "line",
  .noat "Board" "registers",
  .noat "Board" "zero",
  .noat "Board" "lets",
  .noat "Board" "asleep",
  .noat "Board" "beat",
  .noat "Board" "stopped",
  .noat "Board" "sent",
  .noat "Board" "touched",
  .noat "Board" "bend",
  .meth "Board" "__init__",
  .mkr "Board",
  .meth "Board" "twin",
  .meth "Board" "pass_beats",
  .meth "Board" "line_comes",
  .meth "Board" "timer_goes",
  .meth "Board" "pending",
  .meth "Board" "turn",
  .meth "Board" "stop",
  .meth "Board" "interrupt",
  .meth "Board" "store",
  .meth "Board" "fetch",
  .meth "Board" "addresses",
  .meth "Board" "bar_of",
  .meth "Board" "deed",
  .meth "Board" "do",
  .meth "Board" "do_putting",
  .meth "Board" "do_returning",
  .meth "Board" "do_reckoning"]
def fn : List He.DefD := [⟨("_wall", none), "_wall", "_wall", defArgs s__wall, defBody s__wall, defScope s__wall, [], []⟩,
  ⟨("Memory", some "__init__"), "__init__", "Memory.__init__", defArgs s_Memory_init, defBody s_Memory_init, defScope s_Memory_init, [], []⟩,
  ⟨("Memory", some "word_at"), "word_at", "Memory.word_at", defArgs s_Memory_word_at, defBody s_Memory_word_at, defScope s_Memory_word_at, [], []⟩,
  ⟨("Memory", some "bar_to"), "bar_to", "Memory.bar_to", defArgs s_Memory_bar_to, defBody s_Memory_bar_to, defScope s_Memory_bar_to, [], []⟩,
  ⟨("Memory", some "put"), "put", "Memory.put", defArgs s_Memory_put, defBody s_Memory_put, defScope s_Memory_put, [], []⟩,
  ⟨("Memory", some "turn_bit"), "turn_bit", "Memory.turn_bit", defArgs s_Memory_turn_bit, defBody s_Memory_turn_bit, defScope s_Memory_turn_bit, [], []⟩,
  ⟨("Memory", some "raise_flag"), "raise_flag", "Memory.raise_flag", defArgs s_Memory_raise_flag, defBody s_Memory_raise_flag, defScope s_Memory_raise_flag, [], []⟩,
  ⟨("Memory", some "place"), "place", "Memory.place", defArgs s_Memory_place, defBody s_Memory_place, defScope s_Memory_place, [], []⟩,
  ⟨("Memory", some "set_place"), "set_place", "Memory.set_place", defArgs s_Memory_set_place, defBody s_Memory_set_place, defScope s_Memory_set_place, [], []⟩,
  ⟨("Memory", some "twin"), "twin", "Memory.twin", defArgs s_Memory_twin, defBody s_Memory_twin, defScope s_Memory_twin, [], []⟩,
  ⟨("is_word", none), "is_word", "is_word", defArgs s_is_word, defBody s_is_word, defScope s_is_word, [], []⟩,
  ⟨("name_of", none), "name_of", "name_of", defArgs s_name_of, defBody s_name_of, defScope s_name_of, [], []⟩,
  ⟨("part_of", none), "part_of", "part_of", defArgs s_part_of, defBody s_part_of, defScope s_part_of, [], []⟩,
  ⟨("is_line", none), "is_line", "is_line", defArgs s_is_line, defBody s_is_line, defScope s_is_line, [], []⟩,
  ⟨("Board", some "__init__"), "__init__", "Board.__init__", defArgs s_Board_init, defBody s_Board_init, defScope s_Board_init, [], []⟩,
  ⟨("Board", some "twin"), "twin", "Board.twin", defArgs s_Board_twin, defBody s_Board_twin, defScope s_Board_twin, [], []⟩,
  ⟨("Board", some "pass_beats"), "pass_beats", "Board.pass_beats", defArgs s_Board_pass_beats, defBody s_Board_pass_beats, defScope s_Board_pass_beats, [], []⟩,
  ⟨("Board", some "line_comes"), "line_comes", "Board.line_comes", defArgs s_Board_line_comes, defBody s_Board_line_comes, defScope s_Board_line_comes, [], []⟩,
  ⟨("Board", some "timer_goes"), "timer_goes", "Board.timer_goes", defArgs s_Board_timer_goes, defBody s_Board_timer_goes, defScope s_Board_timer_goes, [], []⟩,
  ⟨("Board", some "pending"), "pending", "Board.pending", defArgs s_Board_pending, defBody s_Board_pending, defScope s_Board_pending, [], []⟩,
  ⟨("Board", some "turn"), "turn", "Board.turn", defArgs s_Board_turn, defBody s_Board_turn, defScope s_Board_turn, [], []⟩,
  ⟨("Board", some "stop"), "stop", "Board.stop", defArgs s_Board_stop, defBody s_Board_stop, defScope s_Board_stop, [], []⟩,
  ⟨("Board", some "interrupt"), "interrupt", "Board.interrupt", defArgs s_Board_interrupt, defBody s_Board_interrupt, defScope s_Board_interrupt, [], []⟩,
  ⟨("Board", some "store"), "store", "Board.store", defArgs s_Board_store, defBody s_Board_store, defScope s_Board_store, [], []⟩,
  ⟨("Board", some "fetch"), "fetch", "Board.fetch", defArgs s_Board_fetch, defBody s_Board_fetch, defScope s_Board_fetch, [], []⟩,
  ⟨("Board", some "addresses"), "addresses", "Board.addresses", defArgs s_Board_addresses, defBody s_Board_addresses, defScope s_Board_addresses, [], []⟩,
  ⟨("Board", some "bar_of"), "bar_of", "Board.bar_of", defArgs s_Board_bar_of, defBody s_Board_bar_of, defScope s_Board_bar_of, [], []⟩,
  ⟨("Board", some "deed"), "deed", "Board.deed", defArgs s_Board_deed, defBody s_Board_deed, defScope s_Board_deed, [], []⟩,
  ⟨("Board", some "do"), "do", "Board.do", defArgs s_Board_do, defBody s_Board_do, defScope s_Board_do, [], []⟩,
  ⟨("Board", some "do_putting"), "do_putting", "Board.do_putting", defArgs s_Board_do_putting, defBody s_Board_do_putting, defScope s_Board_do_putting, [], []⟩,
  ⟨("Board", some "do_returning"), "do_returning", "Board.do_returning", defArgs s_Board_do_returning, defBody s_Board_do_returning, defScope s_Board_do_returning, [], []⟩,
  ⟨("Board", some "do_reckoning"), "do_reckoning", "Board.do_reckoning", defArgs s_Board_do_reckoning, defBody s_Board_do_reckoning, defScope s_Board_do_reckoning, [], []⟩,
  ⟨("_law_cell", none), "_law_cell", "_law_cell", defArgs s__law_cell, defBody s__law_cell, defScope s__law_cell, [], []⟩,
  ⟨("_law_digits", none), "_law_digits", "_law_digits", defArgs s__law_digits, defBody s__law_digits, defScope s__law_digits, [], []⟩,
  ⟨("_law_case", none), "_law_case", "_law_case", defArgs s__law_case, defBody s__law_case, defScope s__law_case, [], []⟩,
  ⟨("_law_stand", none), "_law_stand", "_law_stand", defArgs s__law_stand, defBody s__law_stand, defScope s__law_stand, [], []⟩,
  ⟨("law", none), "law", "law", defArgs s_law, defBody s_law, defScope s_law, [], []⟩]
def ex (K : PySem.W.Frag) : Bool := He.lstB K "NAMES" [.str "mark", .str "lit", .str "get", .str "put", .str "add", .str "sub", .str "and", .str "xor", .str "getb", .str "putb", .str "tob", .str "swap", .str "go", .str "ifz", .str "ifn", .str "call", .str "ret", .str "push", .str "pop", .str "sleep", .str "let", .str "back", .str "half"] && (He.lstB K "READING" [.str "get", .str "add", .str "sub", .str "and", .str "xor"])
abbrev R : PySem.W.OpenRow := PySem.W.OpenLaw.row PySem.Challenge.rw_boardheld_k13_what_stops_a_board
abbrev hk : PySem.W.Hook := hookM 4 fa fn ex
def ob (s : PySem.W.SharedT) : He.AlD × Bool := obsMG 4 fa fn ex (HandSHeadRun.getT s)
theorem ob_eq (s : PySem.W.SharedT) : ob s = hk.obs s.abs := obsMG_eq (HandSHeadRun.getT_eq s)
def loose : List PySem.Str := ([(PySem.Str.ofString "_wall"), (PySem.Str.ofString "BoardError"), (PySem.Str.ofString "NoImage"), (PySem.Str.ofString "FLASH"), (PySem.Str.ofString "RAM"), (PySem.Str.ofString "COUNT"), (PySem.Str.ofString "TOP"), (PySem.Str.ofString "FLAGS"), (PySem.Str.ofString "MASK"), (PySem.Str.ofString "LINE_IN"), (PySem.Str.ofString "LINE_OUT"), (PySem.Str.ofString "ERASED"), (PySem.Str.ofString "Memory"), (PySem.Str.ofString "NAMES"), (PySem.Str.ofString "READING"), (PySem.Str.ofString "MOST"), (PySem.Str.ofString "is_word"), (PySem.Str.ofString "name_of"), (PySem.Str.ofString "part_of"), (PySem.Str.ofString "FIRST_STACK"), (PySem.Str.ofString "TIMER_BIT"), (PySem.Str.ofString "LINE_BIT"), (PySem.Str.ofString "is_line"), (PySem.Str.ofString "Board"), (PySem.Str.ofString "_law_cell"), (PySem.Str.ofString "_law_digits"), (PySem.Str.ofString "_law_case"), (PySem.Str.ofString "_law_stand")] : List PySem.Str)
theorem run (w : World) : HandSHeadRun.RunEq R (PySem.W.view R.prog [33]) hk ob 3000 loose w := by
  intro os
  kernel_rfl

theorem txt_of {K : PySem.W.Frag} {h : Heap} {mg : Str → Option Value} (X : K.In h) (G : h.Ns mainGlobals mg) (c : SaysM fa fn ex K) : Txt K mg := by
  constructor
  case g__wall => exact He.glo_ok X G (c.d.fact 0 (f := .glo "_wall"))
  case g_BoardError => exact He.glo_ok X G (c.d.fact 1 (f := .glo "BoardError"))
  case g_NoImage => exact He.glo_ok X G (c.d.fact 2 (f := .glo "NoImage"))
  case c_FLASH => exact He.int_ok X G (c.d.fact 3 (f := .int "FLASH" 512))
  case c_RAM => exact He.int_ok X G (c.d.fact 4 (f := .int "RAM" 768))
  case c_COUNT => exact He.int_ok X G (c.d.fact 5 (f := .int "COUNT" 768))
  case c_TOP => exact He.int_ok X G (c.d.fact 6 (f := .int "TOP" 769))
  case c_FLAGS => exact He.int_ok X G (c.d.fact 7 (f := .int "FLAGS" 770))
  case c_MASK => exact He.int_ok X G (c.d.fact 8 (f := .int "MASK" 771))
  case c_LINE_IN => exact He.int_ok X G (c.d.fact 9 (f := .int "LINE_IN" 772))
  case c_LINE_OUT => exact He.int_ok X G (c.d.fact 10 (f := .int "LINE_OUT" 773))
  case c_ERASED => exact He.int_ok X G (c.d.fact 11 (f := .int "ERASED" 65535))
  case g_Memory => exact He.glo_ok X G (c.d.fact 12 (f := .glo "Memory"))
  case g_NAMES => exact He.glo_ok X G (c.d.fact 13 (f := .glo "NAMES"))
  case g_READING => exact He.glo_ok X G (c.d.fact 14 (f := .glo "READING"))
  case c_MOST => exact He.int_ok X G (c.d.fact 15 (f := .int "MOST" 65535))
  case g_is_word => exact He.glo_ok X G (c.d.fact 16 (f := .glo "is_word"))
  case g_name_of => exact He.glo_ok X G (c.d.fact 17 (f := .glo "name_of"))
  case g_part_of => exact He.glo_ok X G (c.d.fact 18 (f := .glo "part_of"))
  case c_FIRST_STACK => exact He.int_ok X G (c.d.fact 19 (f := .int "FIRST_STACK" 767))
  case c_TIMER_BIT => exact He.int_ok X G (c.d.fact 20 (f := .int "TIMER_BIT" 1))
  case c_LINE_BIT => exact He.int_ok X G (c.d.fact 21 (f := .int "LINE_BIT" 2))
  case g_is_line => exact He.glo_ok X G (c.d.fact 22 (f := .glo "is_line"))
  case g_Board => exact He.glo_ok X G (c.d.fact 23 (f := .glo "Board"))
  case g__law_cell => exact He.glo_ok X G (c.d.fact 24 (f := .glo "_law_cell"))
  case g__law_digits => exact He.glo_ok X G (c.d.fact 25 (f := .glo "_law_digits"))
  case g__law_case => exact He.glo_ok X G (c.d.fact 26 (f := .glo "_law_case"))
  case g__law_stand => exact He.glo_ok X G (c.d.fact 27 (f := .glo "_law_stand"))
  case g_law => exact He.glo_ok X G (c.d.fact 28 (f := .glo "law"))
  case f_all => exact He.free_ok X G (c.d.fact 29 (f := .free "all"))
  case f_bool => exact He.free_ok X G (c.d.fact 30 (f := .free "bool"))
  case f_dict => exact He.free_ok X G (c.d.fact 31 (f := .free "dict"))
  case f_int => exact He.free_ok X G (c.d.fact 32 (f := .free "int"))
  case f_isinstance => exact He.free_ok X G (c.d.fact 33 (f := .free "isinstance"))
  case f_len => exact He.free_ok X G (c.d.fact 34 (f := .free "len"))
  case f_list => exact He.free_ok X G (c.d.fact 35 (f := .free "list"))
  case f_range => exact He.free_ok X G (c.d.fact 36 (f := .free "range"))
  case f_set => exact He.free_ok X G (c.d.fact 37 (f := .free "set"))
  case f_sorted => exact He.free_ok X G (c.d.fact 38 (f := .free "sorted"))
  case x_BoardError => exact He.exc_ok (c.d.fact 39 (f := .exc "BoardError"))
  case xm_BoardError_BoardError => exact He.exm_ok (c.d.fact 40 (f := .exm "BoardError" "BoardError" true))
  case xm_BoardError_NoImage => exact He.exm_ok (c.d.fact 41 (f := .exm "BoardError" "NoImage" false))
  case x_NoImage => exact He.exc_ok (c.d.fact 42 (f := .exc "NoImage"))
  case xm_NoImage_BoardError => exact He.exm_ok (c.d.fact 43 (f := .exm "NoImage" "BoardError" true))
  case xm_NoImage_NoImage => exact He.exm_ok (c.d.fact 44 (f := .exm "NoImage" "NoImage" true))
  case k_Memory => exact He.cls_ok (c.d.fact 45 (f := .cls "Memory"))
  case n_Memory_flash => exact He.noat_ok (c.d.fact 46 (f := .noat "Memory" "flash"))
  case n_Memory_ram => exact He.noat_ok (c.d.fact 47 (f := .noat "Memory" "ram"))
  case n_Memory_places => exact He.noat_ok (c.d.fact 48 (f := .noat "Memory" "places"))
  case m_Memory_init => exact He.meth_ok (c.d.fact 49 (f := .meth "Memory" "__init__"))
  case mk_Memory => exact He.mkr_ok (c.d.fact 50 (f := .mkr "Memory"))
  case m_Memory_word_at => exact He.meth_ok (c.d.fact 51 (f := .meth "Memory" "word_at"))
  case m_Memory_bar_to => exact He.meth_ok (c.d.fact 52 (f := .meth "Memory" "bar_to"))
  case m_Memory_put => exact He.meth_ok (c.d.fact 53 (f := .meth "Memory" "put"))
  case m_Memory_turn_bit => exact He.meth_ok (c.d.fact 54 (f := .meth "Memory" "turn_bit"))
  case m_Memory_raise_flag => exact He.meth_ok (c.d.fact 55 (f := .meth "Memory" "raise_flag"))
  case m_Memory_place => exact He.meth_ok (c.d.fact 56 (f := .meth "Memory" "place"))
  case m_Memory_set_place => exact He.meth_ok (c.d.fact 57 (f := .meth "Memory" "set_place"))
  case m_Memory_twin => exact He.meth_ok (c.d.fact 58 (f := .meth "Memory" "twin"))
  case k_Board => exact He.cls_ok (c.d.fact 59 (f := .cls "Board"))
  case n_Board_memory => exact He.noat_ok (c.d.fact 60 (f := .noat "Board" "memory"))
  case n_Board_line => exact He.noat_ok (c.d.fact 61 (f := .noat "Board" "line"))
  case n_Board_registers => exact He.noat_ok (c.d.fact 62 (f := .noat "Board" "registers"))
  case n_Board_zero => exact He.noat_ok (c.d.fact 63 (f := .noat "Board" "zero"))
  case n_Board_lets => exact He.noat_ok (c.d.fact 64 (f := .noat "Board" "lets"))
  case n_Board_asleep => exact He.noat_ok (c.d.fact 65 (f := .noat "Board" "asleep"))
  case n_Board_beat => exact He.noat_ok (c.d.fact 66 (f := .noat "Board" "beat"))
  case n_Board_stopped => exact He.noat_ok (c.d.fact 67 (f := .noat "Board" "stopped"))
  case n_Board_sent => exact He.noat_ok (c.d.fact 68 (f := .noat "Board" "sent"))
  case n_Board_touched => exact He.noat_ok (c.d.fact 69 (f := .noat "Board" "touched"))
  case n_Board_bend => exact He.noat_ok (c.d.fact 70 (f := .noat "Board" "bend"))
  case m_Board_init => exact He.meth_ok (c.d.fact 71 (f := .meth "Board" "__init__"))
  case mk_Board => exact He.mkr_ok (c.d.fact 72 (f := .mkr "Board"))
  case m_Board_twin => exact He.meth_ok (c.d.fact 73 (f := .meth "Board" "twin"))
  case m_Board_pass_beats => exact He.meth_ok (c.d.fact 74 (f := .meth "Board" "pass_beats"))
  case m_Board_line_comes => exact He.meth_ok (c.d.fact 75 (f := .meth "Board" "line_comes"))
  case m_Board_timer_goes => exact He.meth_ok (c.d.fact 76 (f := .meth "Board" "timer_goes"))
  case m_Board_pending => exact He.meth_ok (c.d.fact 77 (f := .meth "Board" "pending"))
  case m_Board_turn => exact He.meth_ok (c.d.fact 78 (f := .meth "Board" "turn"))
  case m_Board_stop => exact He.meth_ok (c.d.fact 79 (f := .meth "Board" "stop"))
  case m_Board_interrupt => exact He.meth_ok (c.d.fact 80 (f := .meth "Board" "interrupt"))
  case m_Board_store => exact He.meth_ok (c.d.fact 81 (f := .meth "Board" "store"))
  case m_Board_fetch => exact He.meth_ok (c.d.fact 82 (f := .meth "Board" "fetch"))
  case m_Board_addresses => exact He.meth_ok (c.d.fact 83 (f := .meth "Board" "addresses"))
  case m_Board_bar_of => exact He.meth_ok (c.d.fact 84 (f := .meth "Board" "bar_of"))
  case m_Board_deed => exact He.meth_ok (c.d.fact 85 (f := .meth "Board" "deed"))
  case m_Board_do => exact He.meth_ok (c.d.fact 86 (f := .meth "Board" "do"))
  case m_Board_do_putting => exact He.meth_ok (c.d.fact 87 (f := .meth "Board" "do_putting"))
  case m_Board_do_returning => exact He.meth_ok (c.d.fact 88 (f := .meth "Board" "do_returning"))
  case m_Board_do_reckoning => exact He.meth_ok (c.d.fact 89 (f := .meth "Board" "do_reckoning"))
  case l_NAMES => exact fun H => He.lstB_ok ((He.ba c.more).1) H
  case l_READING => exact fun H => He.lstB_ok ((He.ba c.more).2) H
  case d__wall => exact c.d.def_ 0
  case d_Memory_init => exact c.d.def_ 1
  case d_Memory_word_at => exact c.d.def_ 2
  case d_Memory_bar_to => exact c.d.def_ 3
  case d_Memory_put => exact c.d.def_ 4
  case d_Memory_turn_bit => exact c.d.def_ 5
  case d_Memory_raise_flag => exact c.d.def_ 6
  case d_Memory_place => exact c.d.def_ 7
  case d_Memory_set_place => exact c.d.def_ 8
  case d_Memory_twin => exact c.d.def_ 9
  case d_is_word => exact c.d.def_ 10
  case d_name_of => exact c.d.def_ 11
  case d_part_of => exact c.d.def_ 12
  case d_is_line => exact c.d.def_ 13
  case d_Board_init => exact c.d.def_ 14
  case d_Board_twin => exact c.d.def_ 15
  case d_Board_pass_beats => exact c.d.def_ 16
  case d_Board_line_comes => exact c.d.def_ 17
  case d_Board_timer_goes => exact c.d.def_ 18
  case d_Board_pending => exact c.d.def_ 19
  case d_Board_turn => exact c.d.def_ 20
  case d_Board_stop => exact c.d.def_ 21
  case d_Board_interrupt => exact c.d.def_ 22
  case d_Board_store => exact c.d.def_ 23
  case d_Board_fetch => exact c.d.def_ 24
  case d_Board_addresses => exact c.d.def_ 25
  case d_Board_bar_of => exact c.d.def_ 26
  case d_Board_deed => exact c.d.def_ 27
  case d_Board_do => exact c.d.def_ 28
  case d_Board_do_putting => exact c.d.def_ 29
  case d_Board_do_returning => exact c.d.def_ 30
  case d_Board_do_reckoning => exact c.d.def_ 31
  case d__law_cell => exact c.d.def_ 32
  case d__law_digits => exact c.d.def_ 33
  case d__law_case => exact c.d.def_ 34
  case d__law_stand => exact c.d.def_ 35
  case d_law => exact c.d.def_ 36

theorem law_ok {P : Program} {w : World} {K : PySem.W.Frag} {h : Heap} {mg : Str → Option Value} {f : Addr} (X : K.In h) (G : h.Ns mainGlobals mg) (hfa : mg ("law" : Str) = some (.ref f)) (c : SaysM fa fn ex K) :
    ∃ fd : FuncData, (∀ (s : Shared) (v : Value), BindsTo s fd ⟨[v], []⟩ [("_law_script", v)]) ∧ ∀ base : Heap, K.In base → base.Ns mainGlobals mg → FnOk P w K mg base CX0 7 f fd ["_law_script"] (sp_law K) := by
  have T := txt_of X G c
  have e := hfa.symm.trans T.g_law
  obtain ⟨fd, F⟩ := T.d_law
  have ef : f = He.fAd K ("law", none) := by cases e; rfl
  subst ef
  have b := FunD.bindsA (ps := ["_law_script"]) F fun _ _ _ _ _ _ us hl => match us, hl with | [_], _ => rfl
  exact ⟨fd, fun s v => b s [v] rfl, fun base _ _ => okF_law T F⟩
end Q
open PySem PySem.W PySem.Calls PyProof.Rows
theorem PySem.Challenge.cw_boardheld_k13_what_stops_a_board_holds : PySem.Challenge.rw_boardheld_k13_what_stops_a_board.Holds := by
  w_on
  o_law
  refine HandSHeadRun.head_any (r := OpenLaw.row PySem.Challenge.rw_boardheld_k13_what_stops_a_board) (q := view (OpenLaw.row PySem.Challenge.rw_boardheld_k13_what_stops_a_board).prog [33]) (H := Q.hk) (ob := Q.ob) (M := 3000) (loose := Q.loose) (d := HandSHeadRun.topDef (OpenLaw.row PySem.Challenge.rw_boardheld_k13_what_stops_a_board).prog 33) (kwd := []) Q.ob_eq
    (by kernel_rfl) (fun s => by kernel_rfl) Q.run (by kernel_rfl) (by kernel_rfl) (by kernel_rfl) (by rfl) (by first | assumption | decide +kernel) (by decide +kernel) ⟨rfl, rfl, rfl, rfl, rfl, by decide +kernel⟩ ?hw ?hc
  case hw => w_witness2
  case hc =>
    refine L2.walk_ofE (l := PySem.Challenge.rw_boardheld_k13_what_stops_a_board) (n := 63) (k := 7) (x := "_law_script") (CX := L2.CX0) rfl (by decide) (by kernel_rfl) ⟨rfl, by decide, by decide⟩ ?F (fun _ _ _ _ z => z)
    intro w mg fa h Y G hmg0
    obtain ⟨K, KX, c⟩ := Y
    have hmg : mg ("law" : PySem.Str) = some (.ref fa) := by
      have e : (HandSHeadRun.topDef (OpenLaw.row PySem.Challenge.rw_boardheld_k13_what_stops_a_board).prog 33).name = ("law" : PySem.Str) := by kernel_rfl
      rw [← e]
      exact hmg0
    obtain ⟨fd, hb, hF⟩ := Q.law_ok (P := (PySem.Challenge.rw_boardheld_k13_what_stops_a_board).prog) (w := w) KX G hmg c
    exact ⟨K, fd, Q.sp_law K, KX, hb, fun H a ns hl _ hS => ⟨a, ns, rfl, hS, hl, fun _ => rfl⟩, hF⟩

