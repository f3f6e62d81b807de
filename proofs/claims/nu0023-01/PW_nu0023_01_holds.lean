import PyProof.Rows.All
import Wide.All
import OpenK.AllK
import Wide.FinOn
import KE.KWords
import PyProof.Rows.StrStrike
import PySem.Challenge.RW_nu0023_01
open PySem PySem.W PySem.Spec PySem.Calls PyProof.Rows
set_option Elab.async false
set_option linter.unusedVariables false
set_option linter.unusedSimpArgs false
set_option maxRecDepth 100000
set_option maxHeartbeats 8000000

-- part Head
namespace Mine
theorem same_find : @PySem.Manifest.find? = @PySem.Manifest.find? := rfl
name_quick tw7323300118178942943 for PySem.Manifest.find? by same_find
name_quick tw8075568018651887793 for PySem.Manifest.find? by same_find
name_quick tw9518749785886187100 for PySem.Manifest.find? by same_find
name_quick tw11378322030455005005 for PySem.Manifest.find? by same_find
name_quick tw9895078088415662389 for PySem.Manifest.find? by same_find
name_quick tw14979626087600564940 for PySem.Manifest.find? by same_find
name_quick tw11346108149598046533 for PySem.Manifest.find? by same_find
name_quick tw5040193762218094904 for PySem.Manifest.find? by same_find
name_quick tw17626266513156654558 for PySem.Manifest.find? by same_find
name_quick tw11166208814598095752 for PySem.Manifest.find? by same_find
name_quick tw7731394104533254306 for PySem.Manifest.find? by same_find
name_quick tw11510521692212771419 for PySem.Manifest.find? by same_find
name_quick tw5345256250457102556 for PySem.Manifest.find? by same_find
name_quick tw8017206721242287953 for PySem.Manifest.find? by same_find
name_quick tw6662432510661729299 for PySem.Manifest.find? by same_find
name_quick tw12758646416354461303 for PySem.Manifest.find? by same_find
name_quick tw17517737089405305841 for PySem.Manifest.find? by same_find
name_quick tw3820604794100220378 for PySem.Manifest.find? by same_find
name_quick tw11939915149646268982 for PySem.Manifest.find? by same_find
name_quick tw5076957145309523181 for PySem.Manifest.find? by same_find
name_quick tw3522871003180720194 for PySem.Manifest.find? by same_find
name_quick tw3856783459128436802 for PySem.Manifest.find? by same_find
name_quick tw15748488997098860443 for PySem.Manifest.find? by same_find
name_quick tw17954471519018878134 for PySem.Manifest.find? by same_find
name_quick tw3916196269025109296 for PySem.Manifest.find? by same_find
name_quick tw15509189653189762431 for PySem.Manifest.find? by same_find
name_quick tw10996506086634736982 for PySem.Manifest.find? by same_find
name_quick tw11270796479367742343 for PySem.Manifest.find? by same_find
name_quick tw2408619945344806742 for PySem.Manifest.find? by same_find
name_quick tw8693227569615203950 for PySem.Manifest.find? by same_find
name_quick tw10227693086864044499 for PySem.Manifest.find? by same_find
name_quick tw1523951592034530338 for PySem.Manifest.find? by same_find
name_quick tw6434138532213402376 for PySem.Manifest.find? by same_find
name_quick tw9315938663221665524 for PySem.Manifest.find? by same_find
name_quick tw5882768191206486792 for PySem.Manifest.find? by same_find
name_quick tw5032809538720368765 for PySem.Manifest.find? by same_find
name_quick tw15560500314895047343 for PySem.Manifest.find? by same_find
name_quick tw12635813782599140982 for PySem.Manifest.find? by same_find
name_quick tw6817277305950994716 for PySem.Manifest.find? by same_find
name_quick tw17612500589515189474 for PySem.Manifest.find? by same_find
name_quick tw16846860572762119324 for PySem.Manifest.find? by same_find
name_quick tw13615603153576403970 for PySem.Manifest.find? by same_find
name_quick tw17057272898397164401 for PySem.Manifest.find? by same_find
name_quick tw13640514254501968386 for PySem.Manifest.find? by same_find
name_quick tw4075660801711882420 for PySem.Manifest.find? by same_find
name_quick tw16548257151911338427 for PySem.Manifest.find? by same_find
name_quick tw9931943479562821362 for PySem.Manifest.find? by same_find
name_quick tw3698559305507148144 for PySem.Manifest.find? by same_find
name_quick tw10346894026039390216 for PySem.Manifest.find? by same_find
name_quick tw9151444980202551346 for PySem.Manifest.find? by same_find
name_quick tw1258299570235058372 for PySem.Manifest.find? by same_find
name_quick tw1402947280878808549 for PySem.Manifest.find? by same_find
name_quick tw9594665118957945026 for PySem.Manifest.find? by same_find
name_quick tw7392212959928792091 for PySem.Manifest.find? by same_find
name_quick tw1617757218408452269 for PySem.Manifest.find? by same_find
name_quick tw17975652961387846372 for PySem.Manifest.find? by same_find
name_quick tw9529234661008812162 for PySem.Manifest.find? by same_find
name_quick tw704327219915372674 for PySem.Manifest.find? by same_find
name_quick tw932993149863042379 for PySem.Manifest.find? by same_find
name_quick tw13759679279233594173 for PySem.Manifest.find? by same_find
name_quick tw16145008321745377990 for PySem.Manifest.find? by same_find
name_quick tw11588390666370768167 for PySem.Manifest.find? by same_find
name_quick tw13912434898499826684 for PySem.Manifest.find? by same_find
name_quick tw13145125596335152023 for PySem.Manifest.find? by same_find
name_quick tw18340240734955500558 for PySem.Manifest.find? by same_find
name_quick tw15066959818950650227 for PySem.Manifest.find? by same_find
name_quick tw682011567655089306 for PySem.Manifest.find? by same_find
name_quick tw13789449189825218787 for PySem.Manifest.find? by same_find
name_quick tw1355338860687761863 for PySem.Manifest.find? by same_find
name_quick tw15919542637913265678 for PySem.Manifest.find? by same_find
name_quick tw13512673800721320934 for PySem.Manifest.find? by same_find
name_quick tw7496433998918960881 for PySem.Manifest.find? by same_find
name_quick tw14884601019740666482 for PySem.Manifest.find? by same_find
name_quick tw4552823106982906706 for PySem.Manifest.find? by same_find
name_quick tw6683783046931543321 for PySem.Manifest.find? by same_find
name_quick tw3282434896037501709 for PySem.Manifest.find? by same_find
name_quick tw15894407043143930727 for PySem.Manifest.find? by same_find
name_quick tw16593013826814733010 for PySem.Manifest.find? by same_find
name_quick tw17111948838632640456 for PySem.Manifest.find? by same_find
name_quick tw3636048126100218174 for PySem.Manifest.find? by same_find
name_quick tw15475462885187679331 for PySem.Manifest.find? by same_find
name_quick tw470574548607681690 for PySem.Manifest.find? by same_find
name_quick tw13981391230805400906 for PySem.Manifest.find? by same_find
name_quick tw2478078296215019888 for PySem.Manifest.find? by same_find
name_quick tw11161088081135249708 for PySem.Manifest.find? by same_find
name_quick tw9787463984185863102 for PySem.Manifest.find? by same_find
name_quick tw6019396324639902685 for PySem.Manifest.find? by same_find
name_quick tw15007238320947547705 for PySem.Manifest.find? by same_find
name_quick tw12850107946570832962 for PySem.Manifest.find? by same_find
name_quick tw5770868932273138760 for PySem.Manifest.find? by same_find
name_quick tw18220123701641295943 for PySem.Manifest.find? by same_find
name_quick tw13317431791736044220 for PySem.Manifest.find? by same_find
name_quick tw183835017167291270 for PySem.Manifest.find? by same_find
name_quick tw4071324889030633612 for PySem.Manifest.find? by same_find
name_quick tw13559156169165276386 for PySem.Manifest.find? by same_find
name_quick tw11462045893675790159 for PySem.Manifest.find? by same_find
name_quick tw5721027456603625697 for PySem.Manifest.find? by same_find
name_quick tw10007627690174824804 for PySem.Manifest.find? by same_find
name_quick tw1962928258387122110 for PySem.Manifest.find? by same_find
name_quick tw6380047634161181297 for PySem.Manifest.find? by same_find

open_top hd for PySem.Challenge.rw_nu0023_01
end Mine
namespace Mine
theorem part_end_Head : True := by
  w_top off
  trivial
end Mine

-- part Base0
namespace Mine
noncomputable abbrev LO : List Str := looseW hd.view_39 [Str.ofString "fraction", Str.ofString "fitted"]
noncomputable abbrev tupO (vs : Array Value) (c : Nat) : Obj := { cls := .type "tuple", data := .seq vs c }

/-- a pair of ints stands at q wherever the ground and the ledger stand -/
noncomputable def PA (h₀ : Heap) (news : List (Addr × Obj)) (q : Addr) (x y : Int) : Prop :=
  ∃ t1 t2, ∀ h : Heap, (∀ b o, h₀.get? b = some o → h.get? b = some o) → (∀ p ∈ news, h.get? p.1 = some p.2) → IsTup h q #[.int x t1, .int y t2]
theorem PA.at {h₀ h : Heap} {L : Addr} {m : Str → Option Value} {news : List (Addr × Obj)} {q : Addr} {x y : Int} (P : PA h₀ news q x y) (F : Fr h₀ L h m) (N : News h₀ L h news) :
    ∃ t1 t2, IsTup h q #[.int x t1, .int y t2] :=
  let ⟨t1, t2, k⟩ := P; ⟨t1, t2, k h F.keep fun p hp => (N p hp).1⟩
theorem PA.up {h₀ g : Heap} {news : List (Addr × Obj)} {q : Addr} {x y : Int} (P : PA h₀ news q x y) (k : ∀ b o, h₀.get? b = some o → g.get? b = some o) : PA g news q x y :=
  let ⟨t1, t2, j⟩ := P; ⟨t1, t2, fun h a b => j h (fun c o e => a c o (k c o e)) b⟩
theorem PA.more {h₀ : Heap} {news news' : List (Addr × Obj)} {q : Addr} {x y : Int} (P : PA h₀ news q x y) (k : ∀ p ∈ news, p ∈ news') : PA h₀ news' q x y :=
  let ⟨t1, t2, j⟩ := P; ⟨t1, t2, fun h a b => j h a fun p hp => b p (k p hp)⟩
theorem PA.mem {h₀ : Heap} {news : List (Addr × Obj)} {q : Addr} {x y : Int} {t1 t2 : Tok} {c : Nat} (hm : (q, tupO #[.int x t1, .int y t2] c) ∈ news) : PA h₀ news q x y :=
  ⟨t1, t2, fun _ _ b => ⟨_, b _ hm, rfl, c, rfl⟩⟩
theorem PA.old {h₀ : Heap} {news : List (Addr × Obj)} {q : Addr} {x y : Int} {t1 t2 : Tok} {c : Nat} (hm : h₀.get? q = some (tupO #[.int x t1, .int y t2] c)) : PA h₀ news q x y :=
  ⟨t1, t2, fun _ a _ => ⟨_, a _ _ hm, rfl, c, rfl⟩⟩

section
variable {prog : Program} {w : World} {A : Around} {E : Value → Shared → Prop} {s : Shared} {h₀ : Heap} {L : Addr} {m : Str → Option Value} {news : List (Addr × Obj)} {q : Addr} {x y : Int} {value slice : PySem.Expr} {u : Tok} {Q : Value → Shared → Prop}
theorem pa_item0 (F : Fr h₀ L s.heap m) (N : News h₀ L s.heap news) (P : PA h₀ news q x y) (h : ∀ t, Q (.int x t) s)
    (hs : subscripted slice false (.ref q) (.int 0 u) = operate [.ref q, .int 0 u] (getItem (.ref q) (.int 0 u)) := by with_unfolding_all rfl) :
    wpAny (model prog w) A (subscriptTail value slice (.ref q) (.int 0 u)) Q E s := by
  obtain ⟨t1, t2, ht⟩ := P.at F N
  exact item_tupleT (l := [.int x t1, .int y t2]) (j := 0) ht (by decide) (by decide) rfl rfl (h t1) hs
theorem pa_item1 (F : Fr h₀ L s.heap m) (N : News h₀ L s.heap news) (P : PA h₀ news q x y) (h : ∀ t, Q (.int y t) s)
    (hs : subscripted slice false (.ref q) (.int 1 u) = operate [.ref q, .int 1 u] (getItem (.ref q) (.int 1 u)) := by with_unfolding_all rfl) :
    wpAny (model prog w) A (subscriptTail value slice (.ref q) (.int 1 u)) Q E s := by
  obtain ⟨t1, t2, ht⟩ := P.at F N
  exact item_tupleT (l := [.int x t1, .int y t2]) (j := 1) ht (by decide) (by decide) rfl rfl (h t2) hs
end
theorem sub_refl (l : List (Addr × Obj)) : ∀ p ∈ l, p ∈ l := fun _ h => h
theorem sub_cons {l l' : List (Addr × Obj)} (x : Addr × Obj) (h : ∀ p ∈ l, p ∈ l') : ∀ p ∈ l, p ∈ x :: l' := fun p hp => List.mem_cons_of_mem _ (h p hp)
theorem gcd_step {f s : Int} (hs : 0 < s) : Int.gcd s (Int.fmod f s) = Int.gcd f s := by
  rw [Int.fmod_eq_emod_of_nonneg _ (by omega), Int.emod_def, Int.gcd_sub_mul_left_right, Int.gcd_comm]
theorem gcd_st {f₀ s₀ f s : Int} (h3 : Int.gcd f s = Int.gcd f₀ s₀) (h1 : 0 ≤ f) (h2 : 0 ≤ s) (hp : 0 < s) : 0 ≤ s ∧ 0 ≤ Int.fmod f s ∧ Int.gcd s (Int.fmod f s) = Int.gcd f₀ s₀ :=
  ⟨h2, Int.fmod_nonneg h1 h2, (gcd_step hp).trans h3⟩
theorem gcd_s0 {x y : Int} (hy : 0 ≤ y) : 0 ≤ (if x < 0 then -x else x) ∧ 0 ≤ y ∧ Int.gcd (if x < 0 then -x else x) y = Int.gcd (if x < 0 then -x else x) y := ⟨by split <;> omega, hy, rfl⟩
theorem gcd_ms {f s : Int} (hp : 0 < s) : (Int.fmod f s).toNat < s.toNat := by
  have := Int.fmod_lt_of_pos f hp
  omega
theorem gcd_fin {x y f s : Int} (h2 : Int.gcd f s = Int.gcd (if x < 0 then -x else x) y) (h0 : 0 ≤ f) (h1 : 0 ≤ s) (hp : ¬ 0 < s) : f = (Int.gcd x y : Nat) := by
  have e : s = 0 := by omega
  have e2 : Int.gcd (if x < 0 then -x else x) y = Int.gcd x y := by split <;> simp
  rw [e, Int.gcd_zero, e2] at h2
  omega
section
variable {h₀ h' : Heap} {L : Addr} {m : Str → Option Value} {news news' : List (Addr × Obj)} {s : Shared} {Q : Value → Shared → Prop} {tk' : Nat}
theorem ret_int {v v' : Int} {t : Tok} (hret : ∀ t h' tk', Fr h₀ L h' m → News h₀ L h' news → Q (.int v t) { s with heap := h', toks := tk' }) (e : v' = v) (F : Fr h₀ L h' m) (N : News h₀ L h' news') (hs : ∀ p ∈ news, p ∈ news') :
    Q (.int v' t) { s with heap := h', toks := tk' } := e ▸ hret t h' tk' F fun p hp => N p (hs p hp)
theorem ret_pair {x y x' y' : Int} {D : Addr} {t1 t2 : Tok} {c : Nat} (hret : ∀ D t1 t2 c h' tk', Fr h₀ L h' m → News h₀ L h' ((D, tupO #[.int x t1, .int y t2] c) :: news) → AllLt D news → Q (.ref D) { s with heap := h', toks := tk' })
    (ex : x' = x) (ey : y' = y) (F : Fr h₀ L h' m) (N : News h₀ L h' news') (hm : (D, tupO #[.int x' t1, .int y' t2] c) ∈ news') (hs : ∀ p ∈ news, p ∈ news') (hl : AllLt D news) :
    Q (.ref D) { s with heap := h', toks := tk' } := by
  subst ex; subst ey
  refine hret D t1 t2 c h' tk' F (fun p hp => ?_) hl
  rcases List.mem_cons.mp hp with rfl | hp
  · exact N _ hm
  · exact N p (hs p hp)
end
theorem allLt_lt {d d' : Addr} {l : List (Addr × Obj)} (h : AllLt d l) (q : @LT.lt Nat _ d d') : AllLt d' l := by
  induction l with
  | nil => trivial
  | cons p r ih => exact ⟨Nat.lt_trans h.1 q, ih h.2⟩
noncomputable def Hold (P : Prop) : Prop := P
theorem hold_in {P : Prop} (h : Hold P) : P := h
theorem allLt_hd {d a : Addr} {o : Obj} {l : List (Addr × Obj)} (h : AllLt d ((a, o) :: l)) : @LT.lt Nat _ a d := h.1
theorem allLt_tail {d : Nat} {p : Addr × Obj} {l : List (Addr × Obj)} (h : AllLt d (p :: l)) : AllLt d l := h.2
noncomputable def fdAt (p : Params) (a : Addr) : Option FuncData := match List.lookup a (hd.heap_39 p) with
  | some o => (match o.data with
    | .func f => some f
    | _ => none)
  | none => none
noncomputable def bodyAt (p : Params) (a : Addr) : List Stmt := match fdAt p a with
  | some f => (match f.body with
    | .stmts b => b
    | _ => [])
  | none => []
noncomputable def scopeAt (p : Params) (a : Addr) : Scope := match fdAt p a with
  | some f => f.scope
  | none => default
noncomputable def forAt (l : List Stmt) : List Stmt := match l with
  | .For _ _ b _ _ :: _ => b
  | _ => []
theorem news_sub {h₀ h : Heap} {L : Addr} {news all : List (Addr × Obj)} (N : News h₀ L h all) (sub : ∀ p ∈ news, p ∈ all) : News h₀ L h news := fun p hp => N p (sub p hp)
theorem fr_eq {g h : Heap} {L : Addr} {m m' : Str → Option Value} (F : Fr g L h m) (e : ∀ z, m z = m' z) : Fr g L h m' := (funext e : m = m') ▸ F
theorem room_e {dp k R : Nat} (h : dp + k < R) : dp < R := Nat.lt_of_le_of_lt (Nat.le_add_right dp k) h
theorem room_0 {dp k i R : Nat} (h : dp + k < R) (e : Nat.ble i k = true) : dp + i < R := Nat.lt_of_le_of_lt (Nat.add_le_add_left (Nat.le_of_ble_eq_true e) dp) h
theorem room_in {dp k i R : Nat} (h : dp + k < R) (e : Nat.ble (1 + i) k = true) : dp + 1 + i < R := by rw [Nat.add_assoc]; exact room_0 h e
theorem unit_3 {dp k i R : Nat} (h : dp + k < R) (e : Nat.ble (3 + i) k = true) : dp + 3 + i < R := by rw [Nat.add_assoc]; exact room_0 h e
theorem unit_4 {dp k i R : Nat} (h : dp + k < R) (e : Nat.ble (4 + i) k = true) : dp + 3 + 1 + i < R := by rw [Nat.add_assoc dp 3 1, Nat.add_assoc]; exact room_0 h e
end Mine
namespace Mine
theorem part_end_Base0 : True := by
  w_top off
  trivial
end Mine

local macro_rules | `(tactic| walk_at "call ref") => `(tactic| k_extra "call ref")
local macro_rules | `(tactic| walk_at "subscriptTail") => `(tactic| k_extra "subscriptTail")
local macro_rules | `(tactic| walk_at "eval Dict") => `(tactic| k_extra "eval Dict")
local macro_rules | `(tactic| walk_at "exec While") => `(tactic| k_extra "exec While")
local macro_rules | `(tactic| walk_at "setAttr ref") => `(tactic| k_extra "setAttr ref")
local macro_rules | `(tactic| walk_at "execs cons") => `(tactic| k_extra "execs cons")
local macro_rules | `(tactic| walk_at "call builtin:str.replace") => `(tactic| k_extra "call builtin:str.replace")
local macro_rules | `(tactic| walk_at "UnrEnd") => `(tactic| k_extra "UnrEnd")
local macro_rules | `(tactic| walk_at "call builtin:str.split") => `(tactic| k_extra "call builtin:str.split")
local macro_rules | `(tactic| walk_at "call builtin:list.append") => `(tactic| k_extra "call builtin:list.append")
local macro_rules | `(tactic| walk_at "pyIter ref") => `(tactic| k_extra "pyIter ref")
local macro_rules | `(tactic| walk_at "eval IfExp") => `(tactic| k_extra "eval IfExp")
local macro_rules | `(tactic| walk_at "exec Raise some none") => `(tactic| k_extra "exec Raise some none")
local macro_rules | `(tactic| walk_at "compareOp Eq ref ref") => `(tactic| k_extra "compareOp Eq ref ref")
local macro_rules | `(tactic| walk_at "compareOp NotEq ref ref") => `(tactic| k_extra "compareOp NotEq ref ref")
local macro_rules | `(tactic| walk_at "compareOp NotIn ref ref") => `(tactic| k_extra "compareOp NotIn ref ref")
local macro_rules | `(tactic| walk_at "noteFrame ref") => `(tactic| k_extra "noteFrame ref")
local macro_rules | `(tactic| walk_at "binaryOp Mult int int") => `(tactic| k_extra "binaryOp Mult int int")
local macro_rules | `(tactic| walk_at "call builtin:len") => `(tactic| k_extra "call builtin:len")
local macro_rules | `(tactic| walk_at "exec Assign cons ListComp") => `(tactic| k_extra "exec Assign cons ListComp")
local macro_rules | `(tactic| walk_at "eval ListComp") => `(tactic| k_extra "eval ListComp")
local macro_rules | `(tactic| walk_at "CompSrc") => `(tactic| k_extra "CompSrc")
local macro_rules | `(tactic| walk_at "CompRest") => `(tactic| k_extra "CompRest")
local macro_rules | `(tactic| walk_at "CompEnd") => `(tactic| k_extra "CompEnd")
local macro_rules | `(tactic| walk_at "call builtin:str.join") => `(tactic| k_extra "call builtin:str.join")
local macro_rules | `(tactic| walk_at "compareOp NotEq int int") => `(tactic| k_extra "compareOp NotEq int int")
local macro_rules | `(tactic| walk_at "execs nil") => `(tactic| k_extra "execs nil")
local macro_rules | `(tactic| k_room) => `(tactic| ktr_room)
local macro_rules | `(tactic| k_all) => `(tactic| exact ne_all (by first | assumption | exact allLt_of (by assumption) | exact alt1 (by assumption) | exact alt2 (by assumption) | exact alt3 (by assumption)))
local macro_rules | `(tactic| k_all) => `(tactic| exact ne_all' (by first | assumption))
local macro_rules | `(tactic| k_mem) => `(tactic| ((show _ ∈ (_ : List (Addr × Obj))); ktr_member))
local macro_rules | `(tactic| k_ne) => `(tactic| (refine neN ?_; (try dsimp only); with_reducible first | exact Nat.ne_of_gt (by assumption) | exact Nat.ne_of_lt (by assumption) | exact Nat.ne_of_gt (And.left (by assumption)) | exact Nat.ne_of_lt (And.left (by assumption)) | exact Nat.ne_of_gt (And.left (And.right (by assumption))) | exact Nat.ne_of_lt (And.left (And.right (by assumption))) | exact Nat.ne_of_gt (And.left (And.right (And.right (by assumption)))) | exact Nat.ne_of_lt (And.left (And.right (And.right (by assumption)))) | exact Nat.ne_of_gt (And.left (And.right (And.right (And.right (by assumption))))) | exact Nat.ne_of_lt (And.left (And.right (And.right (And.right (by assumption))))) | exact Nat.ne_of_gt (And.left (And.right (And.right (And.right (And.right (by assumption)))))) | exact Nat.ne_of_lt (And.left (And.right (And.right (And.right (And.right (by assumption)))))) | exact Nat.ne_of_gt (And.left (And.right (And.right (And.right (And.right (And.right (by assumption))))))) | exact Nat.ne_of_lt (And.left (And.right (And.right (And.right (And.right (And.right (by assumption))))))) | exact Nat.ne_of_gt (And.left (And.right (And.right (And.right (And.right (And.right (And.right (by assumption)))))))) | exact Nat.ne_of_lt (And.left (And.right (And.right (And.right (And.right (And.right (And.right (by assumption)))))))) | exact Nat.ne_of_gt (And.left (And.right (And.right (And.right (And.right (And.right (And.right (And.right (by assumption))))))))) | exact Nat.ne_of_lt (And.left (And.right (And.right (And.right (And.right (And.right (And.right (And.right (by assumption))))))))) | exact Nat.ne_of_gt (And.left (And.right (And.right (And.right (And.right (And.right (And.right (And.right (And.right (by assumption)))))))))) | exact Nat.ne_of_lt (And.left (And.right (And.right (And.right (And.right (And.right (And.right (And.right (And.right (by assumption))))))))))))

-- part K3
namespace Mine
section
variable {w : World} {mean : ExcName → Option Value} {mg mb : Str → Option Value} {dp un : Nat} {gd : Option (List Code)} {cn : Str} {cs : Scope} {a : Addr} {ccd : Value} {cl : List (Str × Addr)} {outer : List Env} {A₀ : Around} {base h₀ : Heap} {L : Addr} {m : Str → Option Value} {news : List (Addr × Obj)} {s : Shared} {Q E : Value → Shared → Prop}

theorem gcd_inv0 {x y : Int} (hy : 0 ≤ y) : (0 ≤ (x.natAbs : Int) ∧ 0 ≤ y) ∧ Int.gcd (x.natAbs : Int) y = Int.gcd x y := ⟨⟨by omega, hy⟩, by simp [Int.gcd]⟩

theorem c_gcd {x y : Int} {tx ty : Tok} (B : Below A₀ base outer h₀) (F : Fr h₀ L s.heap m) (X : Frag.In (hd.heap_39 w.params) h₀) (N : News h₀ L s.heap news) (T : Top hd.view_39 LO mean mg mb h₀) (hk : cs.kind = .function)
   (hdp : dp + 1 < recursionLimit) (hun : un + 8 < cLine) (hy : 0 < y)
   (hret : ∀ t h' tk', 0 < ((Int.gcd x y : Nat) : Int) → ((Int.gcd x y : Nat) : Int) ≤ y → Fr h₀ L h' m → News h₀ L h' news → Q (.int (Int.gcd x y : Nat) t) { s with heap := h', toks := tk' }) :
   wpAny (model PySem.Challenge.rw_nu0023_01.row.toRowW.prog w) (ktrTop dp un gd cn cs L a ccd cl outer) (call (.ref 73) [.int x tx, .int y ty]) Q E s := by
  have hret := fun t h' tk' => hret t h' tk' (by have := Int.gcd_pos_of_ne_zero_right x (show y ≠ 0 by omega); omega) (Int.gcd_le_right x hy)
  have hy0 : 0 ≤ y := by omega
  revert X; k_fill; intro X
  k_with_none
  k_with "exec While Compare cons nil" => k_while_given ["first!", "second!"] (fun f₀ s₀ _ f s => 0 ≤ f ∧ 0 ≤ s ∧ Int.gcd f s = Int.gcd f₀ s₀) (fun _ _ _ _ s => s.toNat) "first" "second"
  k_with "state" => first | exact gcd_s0 (by assumption) | exact gcd_st (by assumption) (by assumption) (by assumption) (by assumption)
  k_with "measure" => exact gcd_ms (by assumption)
  refine wpAny_call ?_
  k_dflt cell_enter
  k_steps
  exact ret_int hret (gcd_fin (by assumption) (by assumption) (by assumption) (by assumption)) (by assumption) (by assumption) (sub_cons _ (sub_refl _))
end
end Mine
namespace Mine
theorem part_end_K3 : True := by
  w_top off
  trivial
end Mine

-- part K4
namespace Mine
theorem fr_num_pos {x y : Int} (hy : 0 < y) : Int.fdiv x (Int.gcd x y : Nat) = (Rat.divInt x y).num := by
  rw [Rat.num_divInt, Int.sign_eq_one_of_pos hy, Int.one_mul, Int.gcd_comm, Int.fdiv_eq_ediv_of_nonneg _ (by omega)]
theorem fr_den_pos {x y : Int} (hy : 0 < y) : Int.fdiv y (Int.gcd x y : Nat) = ((Rat.divInt x y).den : Int) := by
  rw [Rat.den_divInt, if_neg (by omega), Int.gcd_comm, Int.fdiv_eq_ediv_of_nonneg _ (by omega)]
  have : (y.natAbs : Int) = y := by omega
  rw [Int.natCast_ediv, this]
theorem fr_num_neg {x y : Int} (hy : y < 0) : Int.fdiv (-x) (Int.gcd (-x) (-y) : Nat) = (Rat.divInt x y).num := by
  rw [fr_num_pos (by omega), Rat.neg_divInt_neg]
theorem fr_den_neg {x y : Int} (hy : y < 0) : Int.fdiv (-y) (Int.gcd (-x) (-y) : Nat) = ((Rat.divInt x y).den : Int) := by
  rw [fr_den_pos (by omega), Rat.neg_divInt_neg]
theorem alt1 {p : Prop} {d : Nat} {l : List (Addr × Obj)} (h : p ∧ AllLt d l) : AllLt d l := h.2
theorem alt2 {p q : Prop} {d : Nat} {l : List (Addr × Obj)} (h : p ∧ q ∧ AllLt d l) : AllLt d l := h.2.2
theorem alt3 {p q r : Prop} {d : Nat} {l : List (Addr × Obj)} (h : p ∧ q ∧ r ∧ AllLt d l) : AllLt d l := h.2.2.2
theorem alt4 {p q r u : Prop} {d : Nat} {l : List (Addr × Obj)} (h : p ∧ q ∧ r ∧ u ∧ AllLt d l) : AllLt d l := h.2.2.2.2
theorem alt5 {p q r u v : Prop} {d : Nat} {l : List (Addr × Obj)} (h : p ∧ q ∧ r ∧ u ∧ v ∧ AllLt d l) : AllLt d l := h.2.2.2.2.2
theorem words_K4_0 : True := by
  k_with_none
  k_with "call ref" => (k_here; (with_reducible show wpAny _ _ (call (Value.ref 73) _) _ _ _); k_dflt (refine' c_gcd ?k1 ?k2 ?k3 ?k4 ?k5 ?kK ?kd ?ku ?p1 ?_; (case k1 => k_asm); (case k2 => k_asm); (case k3 => k_asm); (case k4 => k_asm); (case k5 => k_asm); (case kK => first | exact rfl | assumption); (case kd => first | exact room_in (by assumption) (by exact rfl) | exact room_0 (by assumption) (by exact rfl) | ktr_room); (case ku => first | exact unit_3 (by assumption) (by exact rfl) | exact unit_4 (by assumption) (by exact rfl) | exact room_0 (by assumption) (by exact rfl) | ktr_units); (case p1 => omega)); intro t9 h9 tk9 G9 G8 F9 N9; (try dsimp only); (try k_sweep); (try k_fold))
  trivial
section
variable {w : World} {mean : ExcName → Option Value} {mg mb : Str → Option Value} {dp un : Nat} {gd : Option (List Code)} {cn : Str} {cs : Scope} {a : Addr} {ccd : Value} {cl : List (Str × Addr)} {outer : List Env} {A₀ : Around} {base h₀ : Heap} {L : Addr} {m : Str → Option Value} {news : List (Addr × Obj)} {s : Shared} {Q E : Value → Shared → Prop}
theorem c_frac {x y : Int} {tx ty : Tok} (B : Below A₀ base outer h₀) (F : Fr h₀ L s.heap m) (X : Frag.In (hd.heap_39 w.params) h₀) (N : News h₀ L s.heap news) (T : Top hd.view_39 LO mean mg mb h₀) (hk : cs.kind = .function) (hdp : dp + 2 < recursionLimit) (hun : un + 16 < cLine) (hy : y ≠ 0) (hyb : y.natAbs < 1073741824)
   (hret : ∀ D t1 t2 c h' tk', Fr h₀ L h' m → News h₀ L h' ((D, tupO #[.int (Rat.divInt x y).num t1, .int ((Rat.divInt x y).den : Int) t2] c) :: news) → AllLt D news → Q (.ref D) { s with heap := h', toks := tk' }) :
   wpAny (model PySem.Challenge.rw_nu0023_01.row.toRowW.prog w) (ktrTop dp un gd cn cs L a ccd cl outer) (call (.ref 81) [.int x tx, .int y ty]) Q E s := by
  revert X; k_fill; intro X
  refine wpAny_call ?_
  k_dflt (refine' code_def ?k1 ?k2 ?k3 ?k4 ?k5 ?kA ?kF ?kK ?k6 ?k7 ?k8 ?k9 ?kB ?_ ?c2 ?c3 ?c4 ?c5; (case kA => exact rfl); (case kF => exact rfl); (case kK => assumption); (case k1 => k_asm); (case k2 => k_asm); (case k3 => k_asm); (case k4 => k_asm); (case k5 => k_asm); (case k6 => k_is); (case k7 => k_is); (case k8 => first | exact room_e (by assumption) | exact room_in (by assumption) (by exact rfl) | ktr_room); (case k9 => first | exact BindsTo.of_eq rfl | exact binds_K (by k_in) rfl (by k_is) rfl rfl rfl); (case c5 => decide); (case kB => exact locs rfl); (case c2 => exact rfl); (case c3 => exact rfl); (case c4 => exact rfl); k_whole; intro g' L' h' FG' F' N' B' X' T'; (try dsimp only); (try k_lift B'); (try k_fold))
  k_steps
  all_goals try (exfalso; omega)
  · exact ret_pair hret (fr_num_neg (by omega)) (fr_den_neg (by omega)) (by assumption) (by assumption) (by k_mem) (by intro p hp; (repeat (first | (with_reducible exact hp) | refine List.mem_cons_of_mem _ ?_))) (by first | assumption | exact allLt_of (by assumption) | exact alt1 (by assumption) | exact alt2 (by assumption) | exact alt3 (by assumption) | exact alt4 (by assumption) | exact alt5 (by assumption) | exact allLt_lt (by assumption) (by omega))
  · exact ret_pair hret (fr_num_pos (by omega)) (fr_den_pos (by omega)) (by assumption) (by assumption) (by k_mem) (by intro p hp; (repeat (first | (with_reducible exact hp) | refine List.mem_cons_of_mem _ ?_))) (by first | assumption | exact allLt_of (by assumption) | exact alt1 (by assumption) | exact alt2 (by assumption) | exact alt3 (by assumption) | exact alt4 (by assumption) | exact alt5 (by assumption) | exact allLt_lt (by assumption) (by omega))
end
end Mine
namespace Mine
theorem part_end_K4 : True := by
  w_top off
  trivial
end Mine

-- part K5
namespace Mine
theorem rm_mul (p r : Rat) : Rat.divInt (p.num * r.num) ((p.den : Int) * (r.den : Int)) = p * r := by
  rw [← Rat.divInt_mul_divInt, Rat.num_divInt_den, Rat.num_divInt_den]
theorem rm_add (p r : Rat) : Rat.divInt (p.num * (r.den : Int) + r.num * (p.den : Int)) ((p.den : Int) * (r.den : Int)) = p + r := by
  have h := Rat.divInt_add_divInt p.num r.num (d₁ := (p.den : Int)) (d₂ := (r.den : Int)) (by have := p.den_pos; omega) (by have := r.den_pos; omega)
  rw [Rat.num_divInt_den, Rat.num_divInt_den] at h
  exact h.symm
theorem rm_sub (p r : Rat) : Rat.divInt (p.num * (r.den : Int) - r.num * (p.den : Int)) ((p.den : Int) * (r.den : Int)) = p - r := by
  have h := Rat.divInt_sub_divInt p.num r.num (d₁ := (p.den : Int)) (d₂ := (r.den : Int)) (by have := p.den_pos; omega) (by have := r.den_pos; omega)
  rw [Rat.num_divInt_den, Rat.num_divInt_den] at h
  exact h.symm
theorem rm_div (p r : Rat) : Rat.divInt (p.num * (r.den : Int)) ((p.den : Int) * r.num) = p / r := by
  rw [← Rat.divInt_mul_divInt, Rat.num_divInt_den, Rat.div_def]
  congr 1
  rw [Rat.inv_def]
theorem dn_ne (p r : Rat) : (p.den : Int) * (r.den : Int) ≠ 0 := by
  have h1 := p.den_pos
  have h2 := r.den_pos
  exact Int.ne_of_gt (Int.mul_pos (by omega) (by omega))
theorem dn_lt {p r : Rat} (hp : p.den < 32768) (hr : r.den < 32768) : ((p.den : Int) * (r.den : Int)).natAbs < 1073741824 := by
  rw [Int.natAbs_mul, Int.natAbs_natCast, Int.natAbs_natCast]
  have := Nat.mul_le_mul (show p.den ≤ 32767 by omega) (show r.den ≤ 32767 by omega)
  omega
theorem dv_ne {p r : Rat} (hr : r.num ≠ 0) : (p.den : Int) * r.num ≠ 0 := by
  have h1 := p.den_pos
  exact Int.mul_ne_zero (by omega) hr
theorem dv_lt {p r : Rat} (hp : p.den < 32768) (hr : r.num.natAbs < 32768) : ((p.den : Int) * r.num).natAbs < 1073741824 := by
  rw [Int.natAbs_mul, Int.natAbs_natCast]
  have := Nat.mul_le_mul (show p.den ≤ 32767 by omega) (show r.num.natAbs ≤ 32767 by omega)
  omega
theorem words_K5_0 : True := by
  k_with_none
  k_with "subscriptTail" => (k_here; (with_reducible show wpAny _ _ (subscriptTail _ _ (Value.ref _) (Value.int 0 _)) _ _ _); k_dflt (refine' pa_item0 ?k1 ?k2 ?k3 ?_ ?k4; (case k1 => k_asm); (case k2 => k_asm); (case k3 => first | assumption | exact PA.more (by assumption) (by intro p hp; (repeat (first | (with_reducible exact hp) | refine List.mem_cons_of_mem _ ?_)))); (case k4 => with_unfolding_all rfl)); intro t9)
  k_with "subscriptTail" => (k_here; (with_reducible show wpAny _ _ (subscriptTail _ _ (Value.ref _) (Value.int 1 _)) _ _ _); k_dflt (refine' pa_item1 ?k1 ?k2 ?k3 ?_ ?k4; (case k1 => k_asm); (case k2 => k_asm); (case k3 => first | assumption | exact PA.more (by assumption) (by intro p hp; (repeat (first | (with_reducible exact hp) | refine List.mem_cons_of_mem _ ?_)))); (case k4 => with_unfolding_all rfl)); intro t9)
  k_with "call ref" => (k_here; (with_reducible show wpAny _ _ (call (Value.ref 81) _) _ _ _); k_dflt (refine' c_frac ?k1 ?k2 ?k3 ?k4 ?k5 ?kK ?kd ?ku ?p1 ?p2 ?_; (case k1 => k_asm); (case k2 => k_asm); (case k3 => k_asm); (case k4 => k_asm); (case k5 => k_asm); (case kK => first | exact rfl | assumption); (case kd => first | exact room_in (by assumption) (by exact rfl) | exact room_0 (by assumption) (by exact rfl) | ktr_room); (case ku => first | exact unit_3 (by assumption) (by exact rfl) | exact unit_4 (by assumption) (by exact rfl) | exact room_0 (by assumption) (by exact rfl) | ktr_units); (case p1 => assumption); (case p2 => assumption)); intro D9 t9 t8 c9 h9 tk9 F9 N9 l9; (try replace l9 := allLt_hd l9); (try dsimp only); (try k_sweep); (try k_fold))
  trivial
section
variable {w : World} {mean : ExcName → Option Value} {mg mb : Str → Option Value} {dp un : Nat} {gd : Option (List Code)} {cn : Str} {cs : Scope} {a : Addr} {ccd : Value} {cl : List (Str × Addr)} {outer : List Env} {A₀ : Around} {base h₀ : Heap} {L : Addr} {m : Str → Option Value} {news : List (Addr × Obj)} {s : Shared} {Q E : Value → Shared → Prop}
theorem c_times {p r : Rat} {qa qb : Addr} (B : Below A₀ base outer h₀) (F : Fr h₀ L s.heap m) (X : Frag.In (hd.heap_39 w.params) h₀) (N : News h₀ L s.heap news) (T : Top hd.view_39 LO mean mg mb h₀) (hk : cs.kind = .function) (hdp : dp + 3 < recursionLimit) (hun : un + 24 < cLine) (Pa : PA h₀ news qa p.num p.den) (Pb : PA h₀ news qb r.num r.den)
   (hp1 : p.num.natAbs < 32768) (hp2 : p.den < 32768) (hr1 : r.num.natAbs < 32768) (hr2 : r.den < 32768)
   (hret : ∀ D t1 t2 c h' tk', Fr h₀ L h' m → News h₀ L h' ((D, tupO #[.int (p * r).num t1, .int ((p * r).den : Int) t2] c) :: news) → AllLt D news → Q (.ref D) { s with heap := h', toks := tk' }) :
   wpAny (model PySem.Challenge.rw_nu0023_01.row.toRowW.prog w) (ktrTop dp un gd cn cs L a ccd cl outer) (call (.ref 102) [.ref qa, .ref qb]) Q E s := by
  rw [← rm_mul p r] at hret
  have hd1 := dn_ne p r
  have hd2 := dn_lt hp2 hr2
  revert X; k_fill; intro X
  refine wpAny_call ?_
  k_dflt (refine' code_def ?k1 ?k2 ?k3 ?k4 ?k5 ?kA ?kF ?kK ?k6 ?k7 ?k8 ?k9 ?kB ?_ ?c2 ?c3 ?c4 ?c5; (case kA => exact rfl); (case kF => exact rfl); (case kK => assumption); (case k1 => k_asm); (case k2 => k_asm); (case k3 => k_asm); (case k4 => k_asm); (case k5 => k_asm); (case k6 => k_is); (case k7 => k_is); (case k8 => first | exact room_e (by assumption) | exact room_in (by assumption) (by exact rfl) | ktr_room); (case k9 => first | exact BindsTo.of_eq rfl | exact binds_K (by k_in) rfl (by k_is) rfl rfl rfl); (case c5 => decide); (case kB => exact locs rfl); (case c2 => exact rfl); (case c3 => exact rfl); (case c4 => exact rfl); k_whole; intro g' L' h' FG' F' N' B' X' T'; (try dsimp only); (try k_lift B'); (try k_fold))
  have Pa' := PA.up Pa FG'.keep
  have Pb' := PA.up Pb FG'.keep
  clear Pa Pb
  k_steps
  all_goals exact ret_pair hret rfl rfl (by assumption) (by assumption) (by k_mem) (by intro p hp; (repeat (first | (with_reducible exact hp) | refine List.mem_cons_of_mem _ ?_))) (by first | assumption | exact allLt_of (by assumption) | exact alt1 (by assumption) | exact alt2 (by assumption) | exact alt3 (by assumption) | exact alt4 (by assumption) | exact alt5 (by assumption) | exact allLt_lt (by assumption) (by omega))
theorem c_plus {p r : Rat} {qa qb : Addr} (B : Below A₀ base outer h₀) (F : Fr h₀ L s.heap m) (X : Frag.In (hd.heap_39 w.params) h₀) (N : News h₀ L s.heap news) (T : Top hd.view_39 LO mean mg mb h₀) (hk : cs.kind = .function) (hdp : dp + 3 < recursionLimit) (hun : un + 24 < cLine) (Pa : PA h₀ news qa p.num p.den) (Pb : PA h₀ news qb r.num r.den)
   (hp1 : p.num.natAbs < 32768) (hp2 : p.den < 32768) (hr1 : r.num.natAbs < 32768) (hr2 : r.den < 32768)
   (hret : ∀ D t1 t2 c h' tk', Fr h₀ L h' m → News h₀ L h' ((D, tupO #[.int (p + r).num t1, .int ((p + r).den : Int) t2] c) :: news) → AllLt D news → Q (.ref D) { s with heap := h', toks := tk' }) :
   wpAny (model PySem.Challenge.rw_nu0023_01.row.toRowW.prog w) (ktrTop dp un gd cn cs L a ccd cl outer) (call (.ref 88) [.ref qa, .ref qb]) Q E s := by
  rw [← rm_add p r] at hret
  have hd1 := dn_ne p r
  have hd2 := dn_lt hp2 hr2
  revert X; k_fill; intro X
  refine wpAny_call ?_
  k_dflt (refine' code_def ?k1 ?k2 ?k3 ?k4 ?k5 ?kA ?kF ?kK ?k6 ?k7 ?k8 ?k9 ?kB ?_ ?c2 ?c3 ?c4 ?c5; (case kA => exact rfl); (case kF => exact rfl); (case kK => assumption); (case k1 => k_asm); (case k2 => k_asm); (case k3 => k_asm); (case k4 => k_asm); (case k5 => k_asm); (case k6 => k_is); (case k7 => k_is); (case k8 => first | exact room_e (by assumption) | exact room_in (by assumption) (by exact rfl) | ktr_room); (case k9 => first | exact BindsTo.of_eq rfl | exact binds_K (by k_in) rfl (by k_is) rfl rfl rfl); (case c5 => decide); (case kB => exact locs rfl); (case c2 => exact rfl); (case c3 => exact rfl); (case c4 => exact rfl); k_whole; intro g' L' h' FG' F' N' B' X' T'; (try dsimp only); (try k_lift B'); (try k_fold))
  have Pa' := PA.up Pa FG'.keep
  have Pb' := PA.up Pb FG'.keep
  clear Pa Pb
  k_steps
  all_goals exact ret_pair hret rfl rfl (by assumption) (by assumption) (by k_mem) (by intro p hp; (repeat (first | (with_reducible exact hp) | refine List.mem_cons_of_mem _ ?_))) (by first | assumption | exact allLt_of (by assumption) | exact alt1 (by assumption) | exact alt2 (by assumption) | exact alt3 (by assumption) | exact alt4 (by assumption) | exact alt5 (by assumption) | exact allLt_lt (by assumption) (by omega))
theorem c_minus {p r : Rat} {qa qb : Addr} (B : Below A₀ base outer h₀) (F : Fr h₀ L s.heap m) (X : Frag.In (hd.heap_39 w.params) h₀) (N : News h₀ L s.heap news) (T : Top hd.view_39 LO mean mg mb h₀) (hk : cs.kind = .function) (hdp : dp + 3 < recursionLimit) (hun : un + 24 < cLine) (Pa : PA h₀ news qa p.num p.den) (Pb : PA h₀ news qb r.num r.den)
   (hp1 : p.num.natAbs < 32768) (hp2 : p.den < 32768) (hr1 : r.num.natAbs < 32768) (hr2 : r.den < 32768)
   (hret : ∀ D t1 t2 c h' tk', Fr h₀ L h' m → News h₀ L h' ((D, tupO #[.int (p - r).num t1, .int ((p - r).den : Int) t2] c) :: news) → AllLt D news → Q (.ref D) { s with heap := h', toks := tk' }) :
   wpAny (model PySem.Challenge.rw_nu0023_01.row.toRowW.prog w) (ktrTop dp un gd cn cs L a ccd cl outer) (call (.ref 95) [.ref qa, .ref qb]) Q E s := by
  rw [← rm_sub p r] at hret
  have hd1 := dn_ne p r
  have hd2 := dn_lt hp2 hr2
  revert X; k_fill; intro X
  refine wpAny_call ?_
  k_dflt (refine' code_def ?k1 ?k2 ?k3 ?k4 ?k5 ?kA ?kF ?kK ?k6 ?k7 ?k8 ?k9 ?kB ?_ ?c2 ?c3 ?c4 ?c5; (case kA => exact rfl); (case kF => exact rfl); (case kK => assumption); (case k1 => k_asm); (case k2 => k_asm); (case k3 => k_asm); (case k4 => k_asm); (case k5 => k_asm); (case k6 => k_is); (case k7 => k_is); (case k8 => first | exact room_e (by assumption) | exact room_in (by assumption) (by exact rfl) | ktr_room); (case k9 => first | exact BindsTo.of_eq rfl | exact binds_K (by k_in) rfl (by k_is) rfl rfl rfl); (case c5 => decide); (case kB => exact locs rfl); (case c2 => exact rfl); (case c3 => exact rfl); (case c4 => exact rfl); k_whole; intro g' L' h' FG' F' N' B' X' T'; (try dsimp only); (try k_lift B'); (try k_fold))
  have Pa' := PA.up Pa FG'.keep
  have Pb' := PA.up Pb FG'.keep
  clear Pa Pb
  k_steps
  all_goals exact ret_pair hret rfl rfl (by assumption) (by assumption) (by k_mem) (by intro p hp; (repeat (first | (with_reducible exact hp) | refine List.mem_cons_of_mem _ ?_))) (by first | assumption | exact allLt_of (by assumption) | exact alt1 (by assumption) | exact alt2 (by assumption) | exact alt3 (by assumption) | exact alt4 (by assumption) | exact alt5 (by assumption) | exact allLt_lt (by assumption) (by omega))
end
end Mine
namespace Mine
theorem part_end_K5 : True := by
  w_top off
  trivial
end Mine

-- part K6
namespace Mine
theorem sg1 {x : Int} (h : 0 < x) : (1 : Int) = x.sign := (Int.sign_eq_one_of_pos h).symm
theorem sg2 {x : Int} (h : x < 0) : (-1 : Int) = x.sign := (Int.sign_eq_neg_one_of_neg h).symm
theorem sg3 {x : Int} (h1 : ¬ 0 < x) (h2 : ¬ x < 0) : (0 : Int) = x.sign := by
  have : x = 0 := by omega
  subst this; rfl
theorem words_K6_0 : True := by
  k_with_none
  k_with "subscriptTail" => (k_here; (with_reducible show wpAny _ _ (subscriptTail _ _ (Value.ref _) (Value.int 0 _)) _ _ _); k_dflt (refine' pa_item0 ?k1 ?k2 ?k3 ?_ ?k4; (case k1 => k_asm); (case k2 => k_asm); (case k3 => first | assumption | exact PA.more (by assumption) (by intro p hp; (repeat (first | (with_reducible exact hp) | refine List.mem_cons_of_mem _ ?_)))); (case k4 => with_unfolding_all rfl)); intro t9)
  k_with "subscriptTail" => (k_here; (with_reducible show wpAny _ _ (subscriptTail _ _ (Value.ref _) (Value.int 1 _)) _ _ _); k_dflt (refine' pa_item1 ?k1 ?k2 ?k3 ?_ ?k4; (case k1 => k_asm); (case k2 => k_asm); (case k3 => first | assumption | exact PA.more (by assumption) (by intro p hp; (repeat (first | (with_reducible exact hp) | refine List.mem_cons_of_mem _ ?_)))); (case k4 => with_unfolding_all rfl)); intro t9)
  k_with "call ref" => (k_here; (with_reducible show wpAny _ _ (call (Value.ref 81) _) _ _ _); k_dflt (refine' c_frac ?k1 ?k2 ?k3 ?k4 ?k5 ?kK ?kd ?ku ?p1 ?p2 ?_; (case k1 => k_asm); (case k2 => k_asm); (case k3 => k_asm); (case k4 => k_asm); (case k5 => k_asm); (case kK => first | exact rfl | assumption); (case kd => first | exact room_in (by assumption) (by exact rfl) | exact room_0 (by assumption) (by exact rfl) | ktr_room); (case ku => first | exact unit_3 (by assumption) (by exact rfl) | exact unit_4 (by assumption) (by exact rfl) | exact room_0 (by assumption) (by exact rfl) | ktr_units); (case p1 => assumption); (case p2 => assumption)); intro D9 t9 t8 c9 h9 tk9 F9 N9 l9; (try replace l9 := allLt_hd l9); (try dsimp only); (try k_sweep); (try k_fold))
  trivial
section
variable {w : World} {mean : ExcName → Option Value} {mg mb : Str → Option Value} {dp un : Nat} {gd : Option (List Code)} {cn : Str} {cs : Scope} {a : Addr} {ccd : Value} {cl : List (Str × Addr)} {outer : List Env} {A₀ : Around} {base h₀ : Heap} {L : Addr} {m : Str → Option Value} {news : List (Addr × Obj)} {s : Shared} {Q E : Value → Shared → Prop}
theorem c_sign {x y : Int} {qa : Addr} (B : Below A₀ base outer h₀) (F : Fr h₀ L s.heap m) (X : Frag.In (hd.heap_39 w.params) h₀) (N : News h₀ L s.heap news) (T : Top hd.view_39 LO mean mg mb h₀) (hk : cs.kind = .function) (hdp : dp + 1 < recursionLimit) (hun : un + 8 < cLine) (Pa : PA h₀ news qa x y)
   (hret : ∀ t h' tk', Fr h₀ L h' m → News h₀ L h' news → Q (.int (Int.sign x) t) { s with heap := h', toks := tk' }) :
   wpAny (model PySem.Challenge.rw_nu0023_01.row.toRowW.prog w) (ktrTop dp un gd cn cs L a ccd cl outer) (call (.ref 116) [.ref qa]) Q E s := by
  revert X; k_fill; intro X
  refine wpAny_call ?_
  k_dflt (refine' code_def ?k1 ?k2 ?k3 ?k4 ?k5 ?kA ?kF ?kK ?k6 ?k7 ?k8 ?k9 ?kB ?_ ?c2 ?c3 ?c4 ?c5; (case kA => exact rfl); (case kF => exact rfl); (case kK => assumption); (case k1 => k_asm); (case k2 => k_asm); (case k3 => k_asm); (case k4 => k_asm); (case k5 => k_asm); (case k6 => k_is); (case k7 => k_is); (case k8 => first | exact room_e (by assumption) | exact room_in (by assumption) (by exact rfl) | ktr_room); (case k9 => first | exact BindsTo.of_eq rfl | exact binds_K (by k_in) rfl (by k_is) rfl rfl rfl); (case c5 => decide); (case kB => exact locs rfl); (case c2 => exact rfl); (case c3 => exact rfl); (case c4 => exact rfl); k_whole; intro g' L' h' FG' F' N' B' X' T'; (try dsimp only); (try k_lift B'); (try k_fold))
  have Pa' := PA.up Pa FG'.keep
  clear Pa
  k_steps
  all_goals first
    | exact ret_int hret (sg1 (by assumption)) (by assumption) (by assumption) (sub_refl _)
    | exact ret_int hret (sg2 (by assumption)) (by assumption) (by assumption) (sub_refl _)
    | exact ret_int hret (sg3 (by assumption) (by assumption)) (by assumption) (by assumption) (sub_refl _)
end
theorem words_K6_1 : True := by
  k_with "call ref" => (k_here; (with_reducible show wpAny _ _ (call (Value.ref 116) _) _ _ _); k_dflt (refine' c_sign ?k1 ?k2 ?k3 ?k4 ?k5 ?kK ?kd ?ku ?p1 ?_; (case k1 => k_asm); (case k2 => k_asm); (case k3 => k_asm); (case k4 => k_asm); (case k5 => k_asm); (case kK => first | exact rfl | assumption); (case kd => first | exact room_in (by assumption) (by exact rfl) | exact room_0 (by assumption) (by exact rfl) | ktr_room); (case ku => first | exact unit_3 (by assumption) (by exact rfl) | exact unit_4 (by assumption) (by exact rfl) | exact room_0 (by assumption) (by exact rfl) | ktr_units); (case p1 => first | (with_reducible assumption) | exact PA.mem (by k_mem) | exact PA.more (by with_reducible assumption) (by intro p hp; (repeat (first | (with_reducible exact hp) | refine List.mem_cons_of_mem _ ?_))))); intro t9 h9 tk9 F9 N9; (try dsimp only); (try k_sweep); (try k_fold))
  trivial
section
variable {w : World} {mean : ExcName → Option Value} {mg mb : Str → Option Value} {dp un : Nat} {gd : Option (List Code)} {cn : Str} {cs : Scope} {a : Addr} {ccd : Value} {cl : List (Str × Addr)} {outer : List Env} {A₀ : Around} {base h₀ : Heap} {L : Addr} {m : Str → Option Value} {news : List (Addr × Obj)} {s : Shared} {Q E : Value → Shared → Prop}
theorem c_compare {p r : Rat} {qa qb : Addr} (B : Below A₀ base outer h₀) (F : Fr h₀ L s.heap m) (X : Frag.In (hd.heap_39 w.params) h₀) (N : News h₀ L s.heap news) (T : Top hd.view_39 LO mean mg mb h₀) (hk : cs.kind = .function) (hdp : dp + 2 < recursionLimit) (hun : un + 16 < cLine) (Pa : PA h₀ news qa p.num p.den) (Pb : PA h₀ news qb r.num r.den)
   (hp1 : p.num.natAbs < 32768) (hp2 : p.den < 32768) (hr1 : r.num.natAbs < 32768) (hr2 : r.den < 32768)
   (hret : ∀ t h' tk', Fr h₀ L h' m → News h₀ L h' news → Q (.int (Int.sign (p.num * (r.den : Int) - r.num * (p.den : Int))) t) { s with heap := h', toks := tk' }) :
   wpAny (model PySem.Challenge.rw_nu0023_01.row.toRowW.prog w) (ktrTop dp un gd cn cs L a ccd cl outer) (call (.ref 123) [.ref qa, .ref qb]) Q E s := by
  revert X; k_fill; intro X
  refine wpAny_call ?_
  k_dflt (refine' code_def ?k1 ?k2 ?k3 ?k4 ?k5 ?kA ?kF ?kK ?k6 ?k7 ?k8 ?k9 ?kB ?_ ?c2 ?c3 ?c4 ?c5; (case kA => exact rfl); (case kF => exact rfl); (case kK => assumption); (case k1 => k_asm); (case k2 => k_asm); (case k3 => k_asm); (case k4 => k_asm); (case k5 => k_asm); (case k6 => k_is); (case k7 => k_is); (case k8 => first | exact room_e (by assumption) | exact room_in (by assumption) (by exact rfl) | ktr_room); (case k9 => first | exact BindsTo.of_eq rfl | exact binds_K (by k_in) rfl (by k_is) rfl rfl rfl); (case c5 => decide); (case kB => exact locs rfl); (case c2 => exact rfl); (case c3 => exact rfl); (case c4 => exact rfl); k_whole; intro g' L' h' FG' F' N' B' X' T'; (try dsimp only); (try k_lift B'); (try k_fold))
  have Pa' := PA.up Pa FG'.keep
  have Pb' := PA.up Pb FG'.keep
  clear Pa Pb
  k_steps
  all_goals exact ret_int hret rfl (by assumption) (by assumption) (by intro p hp; (repeat (first | (with_reducible exact hp) | refine List.mem_cons_of_mem _ ?_)))
theorem c_divided {p r : Rat} {qa qb : Addr} (B : Below A₀ base outer h₀) (F : Fr h₀ L s.heap m) (X : Frag.In (hd.heap_39 w.params) h₀) (N : News h₀ L s.heap news) (T : Top hd.view_39 LO mean mg mb h₀) (hk : cs.kind = .function) (hdp : dp + 3 < recursionLimit) (hun : un + 24 < cLine) (Pa : PA h₀ news qa p.num p.den) (Pb : PA h₀ news qb r.num r.den)
   (hp1 : p.num.natAbs < 32768) (hp2 : p.den < 32768) (hr1 : r.num.natAbs < 32768) (hr2 : r.den < 32768) (hr : r.num ≠ 0)
   (hret : ∀ D t1 t2 c h' tk', Fr h₀ L h' m → News h₀ L h' ((D, tupO #[.int (p / r).num t1, .int ((p / r).den : Int) t2] c) :: news) → AllLt D news → Q (.ref D) { s with heap := h', toks := tk' }) :
   wpAny (model PySem.Challenge.rw_nu0023_01.row.toRowW.prog w) (ktrTop dp un gd cn cs L a ccd cl outer) (call (.ref 109) [.ref qa, .ref qb]) Q E s := by
  rw [← rm_div p r] at hret
  have hd1 := dv_ne (p := p) hr
  have hd2 := dv_lt hp2 hr1
  revert X; k_fill; intro X
  refine wpAny_call ?_
  k_dflt (refine' code_def ?k1 ?k2 ?k3 ?k4 ?k5 ?kA ?kF ?kK ?k6 ?k7 ?k8 ?k9 ?kB ?_ ?c2 ?c3 ?c4 ?c5; (case kA => exact rfl); (case kF => exact rfl); (case kK => assumption); (case k1 => k_asm); (case k2 => k_asm); (case k3 => k_asm); (case k4 => k_asm); (case k5 => k_asm); (case k6 => k_is); (case k7 => k_is); (case k8 => first | exact room_e (by assumption) | exact room_in (by assumption) (by exact rfl) | ktr_room); (case k9 => first | exact BindsTo.of_eq rfl | exact binds_K (by k_in) rfl (by k_is) rfl rfl rfl); (case c5 => decide); (case kB => exact locs rfl); (case c2 => exact rfl); (case c3 => exact rfl); (case c4 => exact rfl); k_whole; intro g' L' h' FG' F' N' B' X' T'; (try dsimp only); (try k_lift B'); (try k_fold))
  have Pa' := PA.up Pa FG'.keep
  have Pb' := PA.up Pb FG'.keep
  clear Pa Pb
  k_steps
  all_goals try (exfalso; omega)
  all_goals exact ret_pair hret rfl rfl (by assumption) (by assumption) (by k_mem) (by intro p hp; (repeat (first | (with_reducible exact hp) | refine List.mem_cons_of_mem _ ?_))) (by first | assumption | exact allLt_of (by assumption) | exact alt1 (by assumption) | exact alt2 (by assumption) | exact alt3 (by assumption) | exact alt4 (by assumption) | exact alt5 (by assumption) | exact allLt_lt (by assumption) (by omega))
end
end Mine
namespace Mine
theorem part_end_K6 : True := by
  w_top off
  trivial
end Mine

-- part K7
namespace Mine
noncomputable def partR (x : Str) : Rat := if x = Str.ofString "Min" then 0 else if x = Str.ofString "Mid" then 1 / 2 else 1
noncomputable def IsPlace (x : Str) : Prop := x = Str.ofString "Min" ∨ x = Str.ofString "Mid" ∨ x = Str.ofString "Max"
theorem part_min : partR (Str.ofString "Min") = 0 := rfl
theorem part_mid : partR (Str.ofString "Mid") = 1 / 2 := by unfold partR; rw [if_neg (by decide +kernel), if_pos rfl]
theorem part_max : partR (Str.ofString "Max") = 1 := by unfold partR; rw [if_neg (by decide +kernel), if_neg (by decide +kernel)]
section
variable {w : World} {h : Heap}
theorem k_zero (X : Frag.In (hd.heap_39 w.params) h) : ∃ t1 t2 c, h.get? 66 = some (tupO #[.int 0 t1, .int 1 t2] c) := ⟨_, _, _, X 66 _ rfl⟩
theorem k_half (X : Frag.In (hd.heap_39 w.params) h) : ∃ t1 t2 c, h.get? 250 = some (tupO #[.int 1 t1, .int 2 t2] c) := ⟨_, _, _, X 250 _ rfl⟩
end
theorem pa_zero {w : World} {h₀ : Heap} {news : List (Addr × Obj)} (X : Frag.In (hd.heap_39 w.params) h₀) : PA h₀ news 66 (0 : Rat).num ((0 : Rat).den : Int) :=
  let ⟨_, _, _, e⟩ := k_zero X; PA.old e
theorem half_num : (1 / 2 : Rat).num = 1 := by decide +kernel
theorem half_den : (1 / 2 : Rat).den = 2 := by decide +kernel
theorem pa_half {w : World} {h₀ : Heap} {news : List (Addr × Obj)} (X : Frag.In (hd.heap_39 w.params) h₀) : PA h₀ news 250 (1 / 2 : Rat).num ((1 / 2 : Rat).den : Int) := by
  rw [half_num, half_den]
  exact let ⟨_, _, _, e⟩ := k_half X; PA.old e
theorem allLt_out {d : Addr} : ∀ {l : List (Addr × Obj)}, AllLt d l → ∀ p ∈ l, p.1 < d
  | [], _, _, hp => nomatch hp
  | q :: r, h, p, hp => (List.mem_cons.mp hp).elim (fun e => e ▸ h.1) (allLt_out h.2 p)
theorem ne_all {d : Addr} {l : List (Addr × Obj)} (h : AllLt d l) : ∀ p ∈ l, p.1 ≠ d := fun p hp => Nat.ne_of_lt (allLt_out h p hp)
theorem ne_all' {d : Addr} {l : List (Addr × Obj)} (h : ∀ p ∈ l, p.1 < d) : ∀ p ∈ l, p.1 ≠ d := fun p hp => Nat.ne_of_lt (h p hp)
theorem words_K7_0 : True := by
  k_with_none
  k_with "subscriptTail" => (k_here; (with_reducible show wpAny _ _ (subscriptTail _ _ (Value.ref _) (Value.int 0 _)) _ _ _); k_dflt (refine' pa_item0 ?k1 ?k2 ?k3 ?_ ?k4; (case k1 => k_asm); (case k2 => k_asm); (case k3 => first | assumption | exact PA.more (by assumption) (by intro p hp; (repeat (first | (with_reducible exact hp) | refine List.mem_cons_of_mem _ ?_)))); (case k4 => with_unfolding_all rfl)); intro t9)
  k_with "subscriptTail" => (k_here; (with_reducible show wpAny _ _ (subscriptTail _ _ (Value.ref _) (Value.int 1 _)) _ _ _); k_dflt (refine' pa_item1 ?k1 ?k2 ?k3 ?_ ?k4; (case k1 => k_asm); (case k2 => k_asm); (case k3 => first | assumption | exact PA.more (by assumption) (by intro p hp; (repeat (first | (with_reducible exact hp) | refine List.mem_cons_of_mem _ ?_)))); (case k4 => with_unfolding_all rfl)); intro t9)
  k_with "eval Dict" => (k_here; k_dflt (refine' kdn_str ?q ?F ?N ?b ?a ?l ?e ?n ?_; (case q => rfl); (case F => k_asm); (case N => first | k_asm | exact News.nil); (case b => exact Top.nolimit (by k_asm)); (case a => rfl); (case l => rfl); (case e => exact List.cons_ne_nil _ _); (case n => exact Nat.le_of_ble_eq_true rfl)); intro d' h' o' F' N' l1 lo' hd'; (try k_lt l1))
  trivial
section
variable {h₀ h' : Heap} {L : Addr} {m : Str → Option Value} {news news' : List (Addr × Obj)} {s : Shared} {Q : Value → Shared → Prop} {tk' : Nat}
theorem ret_part {D D1 : Addr} {n d : Int} {t1 t2 : Tok} {c : Nat} (hret : ∀ D D1 t1 t2 c h' tk', Fr h₀ L h' m → News h₀ L h' ((D1, tupO #[.int 1 t1, .int 1 t2] c) :: news) → AllLt D1 news → PA h₀ ((D1, tupO #[.int 1 t1, .int 1 t2] c) :: news) D n d → Q (.ref D) { s with heap := h', toks := tk' })
    (F : Fr h₀ L h' m) (N : News h₀ L h' news') (hm : (D1, tupO #[.int 1 t1, .int 1 t2] c) ∈ news') (hs : ∀ p ∈ news, p ∈ news') (hl : AllLt D1 news) (hp : PA h₀ ((D1, tupO #[.int 1 t1, .int 1 t2] c) :: news) D n d) : Q (.ref D) { s with heap := h', toks := tk' } := by
  refine hret D D1 t1 t2 c h' tk' F (fun p hp => ?_) hl hp
  rcases List.mem_cons.mp hp with rfl | hp
  · exact N _ hm
  · exact N p (hs p hp)
end
section
variable {w : World} {mean : ExcName → Option Value} {mg mb : Str → Option Value} {dp un : Nat} {gd : Option (List Code)} {cn : Str} {cs : Scope} {a : Addr} {ccd : Value} {cl : List (Str × Addr)} {outer : List Env} {A₀ : Around} {base h₀ : Heap} {L : Addr} {m : Str → Option Value} {news : List (Addr × Obj)} {s : Shared} {Q E : Value → Shared → Prop}
theorem c_part {x : Str} {tx : Tok} (B : Below A₀ base outer h₀) (F : Fr h₀ L s.heap m) (X : Frag.In (hd.heap_39 w.params) h₀) (N : News h₀ L s.heap news) (T : Top hd.view_39 LO mean mg mb h₀) (hk : cs.kind = .function) (hdp : dp + 1 < recursionLimit) (hun : un + 8 < cLine) (hx : IsPlace x)
   (hret : ∀ D D1 t1 t2 c h' tk', Fr h₀ L h' m → News h₀ L h' ((D1, tupO #[.int 1 t1, .int 1 t2] c) :: news) → AllLt D1 news → PA h₀ ((D1, tupO #[.int 1 t1, .int 1 t2] c) :: news) D (partR x).num ((partR x).den : Int) → Q (.ref D) { s with heap := h', toks := tk' }) :
   wpAny (model PySem.Challenge.rw_nu0023_01.row.toRowW.prog w) (ktrTop dp un gd cn cs L a ccd cl outer) (call (.ref 285) [.str x tx]) Q E s := by
  revert X; k_fill; intro X
  rcases hx with rfl | rfl | rfl
  all_goals (
    refine wpAny_call ?_
    k_dflt (refine' code_def ?k1 ?k2 ?k3 ?k4 ?k5 ?kA ?kF ?kK ?k6 ?k7 ?k8 ?k9 ?kB ?_ ?c2 ?c3 ?c4 ?c5; (case kA => exact rfl); (case kF => exact rfl); (case kK => assumption); (case k1 => k_asm); (case k2 => k_asm); (case k3 => k_asm); (case k4 => k_asm); (case k5 => k_asm); (case k6 => k_is); (case k7 => k_is); (case k8 => first | exact room_e (by assumption) | exact room_in (by assumption) (by exact rfl) | ktr_room); (case k9 => first | exact BindsTo.of_eq rfl | exact binds_K (by k_in) rfl (by k_is) rfl rfl rfl); (case c5 => decide); (case kB => exact locs rfl); (case c2 => exact rfl); (case c3 => exact rfl); (case c4 => exact rfl); k_whole; intro g' L' h' FG' F' N' B' X' T'; (try dsimp only); (try k_lift B'); (try k_fold))
    k_steps)
  all_goals first | rw [part_min] at hret | rw [part_mid] at hret | rw [part_max] at hret
  · exact ret_part hret (by assumption) (by assumption) (by k_mem) (by intro p hp; (repeat (first | (with_reducible exact hp) | refine List.mem_cons_of_mem _ ?_))) (by first | assumption | exact allLt_of (by assumption) | exact alt1 (by assumption) | exact alt2 (by assumption) | exact alt3 (by assumption) | exact alt4 (by assumption) | exact alt5 (by assumption) | exact allLt_lt (by assumption) (by omega)) (pa_zero (by assumption))
  · exact ret_part hret (by assumption) (by assumption) (by k_mem) (by intro p hp; (repeat (first | (with_reducible exact hp) | refine List.mem_cons_of_mem _ ?_))) (by first | assumption | exact allLt_of (by assumption) | exact alt1 (by assumption) | exact alt2 (by assumption) | exact alt3 (by assumption) | exact alt4 (by assumption) | exact alt5 (by assumption) | exact allLt_lt (by assumption) (by omega)) (pa_half (by assumption))
  · exact ret_part hret (by assumption) (by assumption) (by k_mem) (by intro p hp; (repeat (first | (with_reducible exact hp) | refine List.mem_cons_of_mem _ ?_))) (by first | assumption | exact allLt_of (by assumption) | exact alt1 (by assumption) | exact alt2 (by assumption) | exact alt3 (by assumption) | exact alt4 (by assumption) | exact alt5 (by assumption) | exact allLt_lt (by assumption) (by omega)) (PA.mem (.head _))
end
end Mine
namespace Mine
theorem part_end_K7 : True := by
  w_top off
  trivial
end Mine

-- part K8
namespace Mine
noncomputable def BdN (n d : Nat) (p : Rat) : Prop := p.num.natAbs ≤ n ∧ p.den ≤ d
theorem bd_n {n d : Nat} {p : Rat} (h : BdN n d p) (hn : n < 32768) : p.num.natAbs < 32768 := Nat.lt_of_le_of_lt h.1 hn
theorem bd_d {n d : Nat} {p : Rat} (h : BdN n d p) (hn : d < 32768) : p.den < 32768 := Nat.lt_of_le_of_lt h.2 hn
theorem divInt_num_le (a b : Int) : (Rat.divInt a b).num.natAbs ≤ a.natAbs := by
  rw [Rat.num_divInt]
  by_cases hb : b = 0
  · subst hb; simp
  · have h1 : (b.sign * a / (b.gcd a : Nat)).natAbs ≤ (b.sign * a).natAbs := by
      rw [Int.natAbs_ediv_of_dvd (Int.dvd_mul_of_dvd_right (Int.gcd_dvd_right ..))]
      exact Nat.div_le_self _ _
    refine Nat.le_trans h1 ?_
    rw [Int.natAbs_mul, Int.natAbs_sign_of_ne_zero hb, Nat.one_mul]
    exact Nat.le_refl _
theorem divInt_den_le (a : Int) {b : Int} (hb : b ≠ 0) : (Rat.divInt a b).den ≤ b.natAbs := by
  rw [Rat.den_divInt, if_neg hb]
  exact Nat.div_le_self _ _
theorem bd_of {a b : Int} {n d : Nat} (hb : b ≠ 0) (h1 : a.natAbs ≤ n) (h2 : b.natAbs ≤ d) : BdN n d (Rat.divInt a b) := ⟨Nat.le_trans (divInt_num_le a b) h1, Nat.le_trans (divInt_den_le a hb) h2⟩
theorem mul_le4 {a b : Int} {n d : Nat} (h1 : a.natAbs ≤ n) (h2 : b.natAbs ≤ d) : (a * b).natAbs ≤ n * d := by
  rw [Int.natAbs_mul]; exact Nat.mul_le_mul h1 h2
theorem den_le {p : Rat} {d : Nat} (h : p.den ≤ d) : ((p.den : Int)).natAbs ≤ d := by rw [Int.natAbs_natCast]; exact h
theorem bd_mul {n1 d1 n2 d2 : Nat} {p r : Rat} (hp : BdN n1 d1 p) (hr : BdN n2 d2 r) : BdN (n1 * n2) (d1 * d2) (p * r) := by
  rw [← rm_mul]
  exact bd_of (dn_ne p r) (mul_le4 hp.1 hr.1) (mul_le4 (den_le hp.2) (den_le hr.2))
theorem bd_add {n1 d1 n2 d2 : Nat} {p r : Rat} (hp : BdN n1 d1 p) (hr : BdN n2 d2 r) : BdN (n1 * d2 + n2 * d1) (d1 * d2) (p + r) := by
  rw [← rm_add]
  refine bd_of (dn_ne p r) (Nat.le_trans (Int.natAbs_add_le ..) (Nat.add_le_add (mul_le4 hp.1 (den_le hr.2)) (mul_le4 hr.1 (den_le hp.2)))) (mul_le4 (den_le hp.2) (den_le hr.2))
theorem bd_sub {n1 d1 n2 d2 : Nat} {p r : Rat} (hp : BdN n1 d1 p) (hr : BdN n2 d2 r) : BdN (n1 * d2 + n2 * d1) (d1 * d2) (p - r) := by
  rw [← rm_sub]
  refine bd_of (dn_ne p r) (Nat.le_trans (Int.natAbs_sub_le ..) (Nat.add_le_add (mul_le4 hp.1 (den_le hr.2)) (mul_le4 hr.1 (den_le hp.2)))) (mul_le4 (den_le hp.2) (den_le hr.2))
theorem bd_div {n1 d1 n2 d2 : Nat} {p r : Rat} (hp : BdN n1 d1 p) (hr : BdN n2 d2 r) (h : r.num ≠ 0) : BdN (n1 * d2) (d1 * n2) (p / r) := by
  rw [← rm_div]
  exact bd_of (dv_ne h) (mul_le4 hp.1 (den_le hr.2)) (mul_le4 (den_le hp.2) hr.1)
theorem bd_part {x : Str} (h : IsPlace x) : BdN 1 2 (partR x) := by
  rcases h with rfl | rfl | rfl
  · rw [part_min]; exact ⟨by decide, by decide⟩
  · rw [part_mid]; exact ⟨by decide +kernel, by decide +kernel⟩
  · rw [part_max]; exact ⟨by decide, by decide⟩
theorem bd_zero : BdN 0 1 (0 : Rat) := ⟨by decide, by decide⟩
theorem bd_int {x : Int} {n : Nat} (h : x.natAbs ≤ n) : BdN n 1 (x : Rat) := ⟨h, Nat.le_refl _⟩
end Mine
namespace Mine
theorem part_end_K8 : True := by
  w_top off
  trivial
end Mine

-- part K10
namespace Mine
noncomputable abbrev ent (w : World) (x : String) (t : Tok) (v : Value) : DictEntry := { hash := PyData.keyHash w.params (Str.ofString x), key := .str (Str.ofString x) t, val := v }
noncomputable abbrev matD (w : World) (v1 v2 v3 v4 v5 v6 : Addr) (t1 t2 t3 t4 t5 t6 : Tok) : Obj := dictOf [ent w "a" t1 (.ref v1), ent w "b" t2 (.ref v2), ent w "c" t3 (.ref v3), ent w "d" t4 (.ref v4), ent w "e" t5 (.ref v5), ent w "f" t6 (.ref v6)] 6
theorem words_K10_0 : True := by
  k_with_none
  k_with "subscriptTail" => (k_here; (with_reducible show wpAny _ _ (subscriptTail _ _ (Value.ref _) (Value.int 0 _)) _ _ _); k_dflt (refine' pa_item0 ?k1 ?k2 ?k3 ?_ ?k4; (case k1 => k_asm); (case k2 => k_asm); (case k3 => first | assumption | exact PA.more (by assumption) (by intro p hp; (repeat (first | (with_reducible exact hp) | refine List.mem_cons_of_mem _ ?_)))); (case k4 => with_unfolding_all rfl)); intro t9)
  k_with "subscriptTail" => (k_here; (with_reducible show wpAny _ _ (subscriptTail _ _ (Value.ref _) (Value.int 1 _)) _ _ _); k_dflt (refine' pa_item1 ?k1 ?k2 ?k3 ?_ ?k4; (case k1 => k_asm); (case k2 => k_asm); (case k3 => first | assumption | exact PA.more (by assumption) (by intro p hp; (repeat (first | (with_reducible exact hp) | refine List.mem_cons_of_mem _ ?_)))); (case k4 => with_unfolding_all rfl)); intro t9)
  trivial
section
variable {w : World} {mean : ExcName → Option Value} {mg mb : Str → Option Value} {dp un : Nat} {gd : Option (List Code)} {cn : Str} {cs : Scope} {a : Addr} {ccd : Value} {cl : List (Str × Addr)} {outer : List Env} {A₀ : Around} {base h₀ : Heap} {L : Addr} {m : Str → Option Value} {news : List (Addr × Obj)} {s : Shared} {Q E : Value → Shared → Prop}
theorem c_matrix {v1 v2 v3 v4 v5 v6 : Addr} (B : Below A₀ base outer h₀) (F : Fr h₀ L s.heap m) (X : Frag.In (hd.heap_39 w.params) h₀) (N : News h₀ L s.heap news) (T : Top hd.view_39 LO mean mg mb h₀) (hk : cs.kind = .function) (hdp : dp + 3 < recursionLimit) (hun : un + 24 < cLine)
   (hret : ∀ M dM t1 t2 t3 t4 t5 t6 h' tk', Fr h₀ L h' m → News h₀ L h' ((M, instObj 245 dM) :: (dM, matD w v1 v2 v3 v4 v5 v6 t1 t2 t3 t4 t5 t6) :: news) → AllLt dM news → @LT.lt Nat _ dM M → Q (.ref M) { s with heap := h', toks := tk' }) :
   wpAny (model PySem.Challenge.rw_nu0023_01.row.toRowW.prog w) (ktrTop dp un gd cn cs L a ccd cl outer) (call (.ref 245) [.ref v1, .ref v2, .ref v3, .ref v4, .ref v5, .ref v6]) Q E s := by
  revert X; k_fill; intro X
  k_dflt (refine' call_cls ?k1 ?k2 ?k3 ?k4 ?k5 ?k6 ?_; (case k1 => k_asm); (case k2 => k_asm); (case k3 => k_asm); (case k4 => k_is); (case k5 => k_is); (case k6 => k_is); k_whole); intro x' d' hh' F1 N1 l1 l2; (try k_lt l1); (try k_lt2 l2)
  k_dflt (refine' code_def ?k1 ?k2 ?k3 ?k4 ?k5 ?kA ?kF ?kK ?k6 ?k7 ?k8 ?k9 ?kB ?_ ?c2 ?c3 ?c4 ?c5; (case kA => exact rfl); (case kF => exact rfl); (case kK => assumption); (case k1 => k_asm); (case k2 => k_asm); (case k3 => k_asm); (case k4 => k_asm); (case k5 => k_asm); (case k6 => k_is); (case k7 => k_is); (case k8 => first | exact room_e (by assumption) | exact room_in (by assumption) (by exact rfl) | ktr_room); (case k9 => first | exact BindsTo.of_eq rfl | exact binds_K (by k_in) rfl (by k_is) rfl rfl rfl); (case c5 => decide); (case kB => exact locs rfl); (case c2 => exact rfl); (case c3 => exact rfl); (case c4 => exact rfl); k_whole; intro g' L' h' FG' F' N' B' X' T'; (try dsimp only); (try k_lift B'); (try k_fold))
  k_steps
  exact hret _ _ _ _ _ _ _ _ _ _ (by assumption) (by assumption) (by first | assumption | exact allLt_of (by assumption) | exact alt1 (by assumption) | exact alt2 (by assumption) | exact alt3 (by assumption) | exact alt4 (by assumption) | exact alt5 (by assumption) | exact allLt_lt (by assumption) (by omega)) (by assumption)
end
end Mine
namespace Mine
theorem part_end_K10 : True := by
  w_top off
  trivial
end Mine

-- part K15
namespace Mine
noncomputable abbrev rdD (w : World) (x : Str) (k : Int) (t1 t2 t3 t4 : Tok) : Obj := dictOf [ent w "text" t1 (.str x t2), ent w "at" t3 (.int k t4)] 2
noncomputable def isone (x : Str) (k : Int) (y : Str) : Bool := decide (k < x.length) && Txt.contains y (Txt.item x k)
theorem isone_no {x y : Str} {k : Int} (h : ¬ k < x.length) : decide (k < (x.length : Int)) = isone x k y := by unfold isone; simp [h]
theorem isone_yes {x y : Str} {k : Int} (h : k < x.length) : (!(Builtin.Str.occurrences y (Txt.item x k) 0 y.length 1).isEmpty) = isone x k y := by unfold isone; rw [decide_eq_true h]; rfl
theorem ret_bool {h₀ h' : Heap} {L : Addr} {m : Str → Option Value} {news news' : List (Addr × Obj)} {s : Shared} {Q : Value → Shared → Prop} {tk' : Nat} {b b' : Bool}
    (hret : ∀ h' tk', Fr h₀ L h' m → News h₀ L h' news → Q (.bool b) { s with heap := h', toks := tk' }) (e : b' = b) (F : Fr h₀ L h' m) (N : News h₀ L h' news') (hs : ∀ p ∈ news, p ∈ news') : Q (.bool b') { s with heap := h', toks := tk' } :=
  e ▸ hret h' tk' F fun p hp => N p (hs p hp)
theorem words_K15_0 : True := by
  k_with_none
  k_with "subscriptTail" => (k_here; (with_reducible show wpAny _ _ (subscriptTail _ _ (Value.ref _) (Value.int 0 _)) _ _ _); k_dflt (refine' pa_item0 ?k1 ?k2 ?k3 ?_ ?k4; (case k1 => k_asm); (case k2 => k_asm); (case k3 => first | assumption | exact PA.more (by assumption) (by intro p hp; (repeat (first | (with_reducible exact hp) | refine List.mem_cons_of_mem _ ?_)))); (case k4 => with_unfolding_all rfl)); intro t9)
  k_with "subscriptTail" => (k_here; (with_reducible show wpAny _ _ (subscriptTail _ _ (Value.ref _) (Value.int 1 _)) _ _ _); k_dflt (refine' pa_item1 ?k1 ?k2 ?k3 ?_ ?k4; (case k1 => k_asm); (case k2 => k_asm); (case k3 => first | assumption | exact PA.more (by assumption) (by intro p hp; (repeat (first | (with_reducible exact hp) | refine List.mem_cons_of_mem _ ?_)))); (case k4 => with_unfolding_all rfl)); intro t9)
  k_with "subscriptTail" => (k_here; (with_reducible show wpAny _ _ (subscriptTail _ _ (Value.str _ _) (Value.int _ _)) _ _ _); k_dflt (refine' item_str ?k1 ?k2 ?k3 ?_ ?k4 ?k5; (case k1 => exact fitsSsize_of (N := 9223372036854775808) (by omega) (by omega) (Int.le_refl _)); (case k2 => omega); (case k3 => omega); (case k4 => with_unfolding_all rfl); (case k5 => intro _; with_unfolding_all rfl)); intro _)
  trivial
section
variable {w : World} {mean : ExcName → Option Value} {mg mb : Str → Option Value} {dp un : Nat} {gd : Option (List Code)} {cn : Str} {cs : Scope} {a : Addr} {ccd : Value} {cl : List (Str × Addr)} {outer : List Env} {A₀ : Around} {base h₀ : Heap} {L : Addr} {m : Str → Option Value} {news : List (Addr × Obj)} {s : Shared} {Q E : Value → Shared → Prop}
theorem c_isone {R dR : Addr} {x y : Str} {k : Int} {t1 t2 t3 t4 ty : Tok} (B : Below A₀ base outer h₀) (F : Fr h₀ L s.heap m) (X : Frag.In (hd.heap_39 w.params) h₀) (N : News h₀ L s.heap news) (T : Top hd.view_39 LO mean mg mb h₀) (hk : cs.kind = .function) (hdp : dp + 1 < recursionLimit) (hun : un + 8 < cLine) (hR : (R, instObj 161 dR) ∈ news) (hdR : (dR, rdD w x k t1 t2 t3 t4) ∈ news)
   (hk0 : 0 ≤ k) (hx : x.length ≤ 64) (hy : y.length ≤ 64)
   (hret : ∀ h' tk', Fr h₀ L h' m → News h₀ L h' news → Q (.bool (isone x k y)) { s with heap := h', toks := tk' }) :
   wpAny (model PySem.Challenge.rw_nu0023_01.row.toRowW.prog w) (ktrTop dp un gd cn cs L a ccd cl outer) (call (.ref 144) [.ref R, .str y ty]) Q E s := by
  revert X; k_fill; intro X
  refine wpAny_call ?_
  k_dflt (refine' code_def ?k1 ?k2 ?k3 ?k4 ?k5 ?kA ?kF ?kK ?k6 ?k7 ?k8 ?k9 ?kB ?_ ?c2 ?c3 ?c4 ?c5; (case kA => exact rfl); (case kF => exact rfl); (case kK => assumption); (case k1 => k_asm); (case k2 => k_asm); (case k3 => k_asm); (case k4 => k_asm); (case k5 => k_asm); (case k6 => k_is); (case k7 => k_is); (case k8 => first | exact room_e (by assumption) | exact room_in (by assumption) (by exact rfl) | ktr_room); (case k9 => first | exact BindsTo.of_eq rfl | exact binds_K (by k_in) rfl (by k_is) rfl rfl rfl); (case c5 => decide); (case kB => exact locs rfl); (case c2 => exact rfl); (case c3 => exact rfl); (case c4 => exact rfl); k_whole; intro g' L' h' FG' F' N' B' X' T'; (try dsimp only); (try k_lift B'); (try k_fold))
  k_steps
  all_goals first
    | exact ret_bool hret (isone_yes (by assumption)) (by assumption) (by assumption) (sub_refl _)
    | exact ret_bool hret (isone_no (by assumption)) (by assumption) (by assumption) (sub_refl _)
end
end Mine
namespace Mine
theorem part_end_K15 : True := by
  w_top off
  trivial
end Mine

-- part K16
namespace Mine
theorem upd_of {d : Addr} {o o' : Obj} : ∀ {l : List (Addr × Obj)} {g : Obj → List (Addr × Obj)}, UpdF d o l g → Upd d o o' l (g o')
  | _, _, .head h => .head h
  | _, _, .tail h r => .tail h (upd_of r)
theorem updF_same {d : Addr} {o : Obj} : ∀ {l : List (Addr × Obj)} {g : Obj → List (Addr × Obj)}, UpdF d o l g → g o = l
  | _, _, .head _ => rfl
  | _, _, .tail (p := p) _ r => congrArg (p :: ·) (updF_same r)
theorem updF_again {d : Addr} {o : Obj} (o' : Obj) : ∀ {l : List (Addr × Obj)} {g : Obj → List (Addr × Obj)}, UpdF d o l g → UpdF d o' (g o') g
  | _, _, .head h => .head h
  | _, _, .tail h r => .tail h (updF_again o' r)
theorem updF_mem {d : Addr} {o : Obj} (o' : Obj) : ∀ {l : List (Addr × Obj)} {g : Obj → List (Addr × Obj)}, UpdF d o l g → (d, o') ∈ g o'
  | _, _, .head _ => .head _
  | _, _, .tail _ r => .tail _ (updF_mem o' r)
theorem updF_mem0 {d : Addr} {o : Obj} {l : List (Addr × Obj)} {g : Obj → List (Addr × Obj)} (U : UpdF d o l g) : (d, o) ∈ l := by
  have := updF_mem o U
  rwa [updF_same U] at this
theorem isone_lt {x y : Str} {k : Int} (h : isone x k y = true) : k < x.length := by unfold isone at h; simp only [Bool.and_eq_true, decide_eq_true_eq] at h; exact h.1
noncomputable def skipV (x : Str) (k : Int) (y : Str) : Str := if isone x k y then Txt.item x k else Str.ofString ""
noncomputable def skipK (x : Str) (k : Int) (y : Str) : Int := if isone x k y then k + 1 else k
theorem skip_v1 {x y : Str} {k : Int} (h : isone x k y = true) : Txt.item x (k + 1 - 1) = skipV x k y := by unfold skipV; rw [if_pos h]; congr 1; omega
theorem skip_k1 {x y : Str} {k : Int} (h : isone x k y = true) : k + 1 = skipK x k y := by unfold skipK; rw [if_pos h]
theorem skip_v0 {x y : Str} {k : Int} (h : isone x k y = false) : Str.ofString "" = skipV x k y := by unfold skipV; rw [h]; rfl
theorem skip_k0 {x y : Str} {k : Int} (h : isone x k y = false) : k = skipK x k y := by unfold skipK; rw [h]; rfl
section
variable {w : World} {h₀ h' : Heap} {L dR : Addr} {m : Str → Option Value} {news : List (Addr × Obj)} {s : Shared} {Q : Value → Shared → Prop} {tk' : Nat} {x v v' : Str} {k kE kE' : Int} {g : Obj → List (Addr × Obj)} {t1 t2 t3 t4 tv u1 u2 u3 u4 : Tok}
theorem ret_skip (e : g (rdD w x k t1 t2 t3 t4) = news) (hret : ∀ t1' t2' t3' t4' tv h' tk', Fr h₀ L h' m → News h₀ L h' (g (rdD w x kE t1' t2' t3' t4')) → Q (.str v tv) { s with heap := h', toks := tk' })
    (ev : v' = v) (ek : kE' = kE) (F : Fr h₀ L h' m) (N : News h₀ L h' (g (rdD w x kE' u1 u2 u3 u4))) : Q (.str v' tv) { s with heap := h', toks := tk' } := by
  subst ev; subst ek; exact hret _ _ _ _ _ _ _ F N
theorem ret_skip0 (e : g (rdD w x k t1 t2 t3 t4) = news) (hret : ∀ t1' t2' t3' t4' tv h' tk', Fr h₀ L h' m → News h₀ L h' (g (rdD w x kE t1' t2' t3' t4')) → Q (.str v tv) { s with heap := h', toks := tk' })
    (ev : v' = v) (ek : k = kE) (F : Fr h₀ L h' m) (N : News h₀ L h' news) : Q (.str v' tv) { s with heap := h', toks := tk' } := by
  subst ev; subst ek; exact hret _ _ _ _ _ _ _ F (e ▸ N)
end
local macro_rules | `(tactic| k_upd) => `(tactic| exact upd_of (by with_reducible assumption))
local macro_rules | `(tactic| k_updF) => `(tactic| with_reducible assumption)
local macro_rules | `(tactic| k_mem) => `(tactic| ((show _ ∈ _); apply_assumption))
theorem words_K16_0 : True := by
  k_with_none
  k_with "subscriptTail" => (k_here; (with_reducible show wpAny _ _ (subscriptTail _ _ (Value.ref _) (Value.int 0 _)) _ _ _); k_dflt (refine' pa_item0 ?k1 ?k2 ?k3 ?_ ?k4; (case k1 => k_asm); (case k2 => k_asm); (case k3 => first | assumption | exact PA.more (by assumption) (by intro p hp; (repeat (first | (with_reducible exact hp) | refine List.mem_cons_of_mem _ ?_)))); (case k4 => with_unfolding_all rfl)); intro t9)
  k_with "subscriptTail" => (k_here; (with_reducible show wpAny _ _ (subscriptTail _ _ (Value.ref _) (Value.int 1 _)) _ _ _); k_dflt (refine' pa_item1 ?k1 ?k2 ?k3 ?_ ?k4; (case k1 => k_asm); (case k2 => k_asm); (case k3 => first | assumption | exact PA.more (by assumption) (by intro p hp; (repeat (first | (with_reducible exact hp) | refine List.mem_cons_of_mem _ ?_)))); (case k4 => with_unfolding_all rfl)); intro t9)
  k_with "subscriptTail" => (k_here; (with_reducible show wpAny _ _ (subscriptTail _ _ (Value.str _ _) (Value.int _ _)) _ _ _); (try have h9 := isone_lt (by with_reducible assumption)); k_dflt (refine' item_str ?k1 ?k2 ?k3 ?_ ?k4 ?k5; (case k1 => exact fitsSsize_of (N := 9223372036854775808) (by omega) (by omega) (Int.le_refl _)); (case k2 => omega); (case k3 => omega); (case k4 => with_unfolding_all rfl); (case k5 => intro _; with_unfolding_all rfl)); intro _)
  k_with "call ref" => (k_here; (with_reducible show wpAny _ _ (call (Value.ref 144) _) _ _ _); k_dflt (refine' c_isone ?k1 ?k2 ?k3 ?k4 ?k5 ?kK ?kd ?ku ?p1 ?p2 ?p3 ?p4 ?p5 ?_; (case k1 => k_asm); (case k2 => k_asm); (case k3 => k_asm); (case k4 => k_asm); (case k5 => k_asm); (case kK => first | exact rfl | assumption); (case kd => first | exact room_in (by assumption) (by exact rfl) | exact room_0 (by assumption) (by exact rfl) | ktr_room); (case ku => first | exact unit_3 (by assumption) (by exact rfl) | exact unit_4 (by assumption) (by exact rfl) | exact room_0 (by assumption) (by exact rfl) | ktr_units); (case p1 => k_mem); (case p2 => k_mem); (case p3 => omega); (case p4 => omega); (case p5 => first | omega | assumption | decide +kernel)); intro h9 tk9 F9 N9; (try dsimp only); (try k_sweep); (try k_fold))
  trivial
section
variable {w : World} {mean : ExcName → Option Value} {mg mb : Str → Option Value} {dp un : Nat} {gd : Option (List Code)} {cn : Str} {cs : Scope} {a : Addr} {ccd : Value} {cl : List (Str × Addr)} {outer : List Env} {A₀ : Around} {base h₀ : Heap} {L : Addr} {m : Str → Option Value} {news : List (Addr × Obj)} {s : Shared} {Q E : Value → Shared → Prop}
theorem c_skip {R dR : Addr} {x y : Str} {k : Int} {t1 t2 t3 t4 ty : Tok} {g : Obj → List (Addr × Obj)} (B : Below A₀ base outer h₀) (F : Fr h₀ L s.heap m) (X : Frag.In (hd.heap_39 w.params) h₀) (N : News h₀ L s.heap news) (T : Top hd.view_39 LO mean mg mb h₀) (hk : cs.kind = .function) (hdp : dp + 2 < recursionLimit) (hun : un + 16 < cLine) (U : UpdF dR (rdD w x k t1 t2 t3 t4) news g) (hR : (R, instObj 161 dR) ∈ news) (hgR : ∀ o', (R, instObj 161 dR) ∈ g o')
   (hk0 : 0 ≤ k) (hx : x.length ≤ 64) (hy : y.length ≤ 64)
   (hret : ∀ t1' t2' t3' t4' tv h' tk', Fr h₀ L h' m → News h₀ L h' (g (rdD w x (skipK x k y) t1' t2' t3' t4')) → Q (.str (skipV x k y) tv) { s with heap := h', toks := tk' }) :
   wpAny (model PySem.Challenge.rw_nu0023_01.row.toRowW.prog w) (ktrTop dp un gd cn cs L a ccd cl outer) (call (.ref 151) [.ref R, .str y ty]) Q E s := by
  have hdR := updF_mem0 U
  have hgd := fun o' => updF_mem o' U
  revert X; k_fill; intro X
  refine wpAny_call ?_
  k_dflt (refine' code_def ?k1 ?k2 ?k3 ?k4 ?k5 ?kA ?kF ?kK ?k6 ?k7 ?k8 ?k9 ?kB ?_ ?c2 ?c3 ?c4 ?c5; (case kA => exact rfl); (case kF => exact rfl); (case kK => assumption); (case k1 => k_asm); (case k2 => k_asm); (case k3 => k_asm); (case k4 => k_asm); (case k5 => k_asm); (case k6 => k_is); (case k7 => k_is); (case k8 => first | exact room_e (by assumption) | exact room_in (by assumption) (by exact rfl) | ktr_room); (case k9 => first | exact BindsTo.of_eq rfl | exact binds_K (by k_in) rfl (by k_is) rfl rfl rfl); (case c5 => decide); (case kB => exact locs rfl); (case c2 => exact rfl); (case c3 => exact rfl); (case c4 => exact rfl); k_whole; intro g' L' h' FG' F' N' B' X' T'; (try dsimp only); (try k_lift B'); (try k_fold))
  k_steps
  · exact ret_skip (updF_same U) hret (skip_v1 (by assumption)) (skip_k1 (by assumption)) (by assumption) (by assumption)
  · exact ret_skip0 (updF_same U) hret (skip_v0 (by assumption)) (skip_k0 (by assumption)) (by assumption) (by assumption)
end
end Mine
namespace Mine
theorem part_end_K16 : True := by
  w_top off
  trivial
end Mine

-- part K17
namespace Mine
noncomputable abbrev DG : Str := Str.ofString "0123456789"
noncomputable def digN : Nat → Str → Int → Int
  | 0, _, k => k
  | n + 1, x, k => if isone x k DG then digN n x (k + 1) else k
noncomputable def digK (x : Str) (k : Int) : Int := digN 65 x k
noncomputable def digV (x : Str) (k : Int) : Str := Txt.slice x (some k) (some (digK x k))
noncomputable def DigP (x : Str) (k0 k : Int) : Prop := 0 ≤ k ∧ ∃ n : Nat, (x.length : Int) - k ≤ n ∧ digN n x k = digK x k0
theorem dig_start {x : Str} {k : Int} (h : 0 ≤ k) (hx : x.length ≤ 64) : DigP x k k := ⟨h, 65, by omega, rfl⟩
theorem dig_turn {x : Str} {k0 k : Int} (h : DigP x k0 k) (hi : isone x k DG = true) : DigP x k0 (k + 1) := by
  obtain ⟨h0, n, hn, e⟩ := h
  have hl := isone_lt hi
  cases n with
  | zero => omega
  | succ n =>
    refine ⟨by omega, n, by omega, ?_⟩
    rw [← e, digN, if_pos hi]
theorem dig_stop {x : Str} {k0 k : Int} (h : DigP x k0 k) (hi : isone x k DG = false) : k = digK x k0 := by
  obtain ⟨h0, n, hn, e⟩ := h
  rw [← e]
  cases n with
  | zero => rfl
  | succ n => rw [digN, hi]; rfl
local macro_rules | `(tactic| k_upd) => `(tactic| exact upd_of (by with_reducible assumption))
local macro_rules | `(tactic| k_upd) => `(tactic| exact upd_of (updF_again _ (by with_reducible assumption)))
local macro_rules | `(tactic| k_updF) => `(tactic| with_reducible assumption)
local macro_rules | `(tactic| k_mem) => `(tactic| ((show _ ∈ _); apply_assumption))
theorem words_K17_0 : True := by
  k_with_none
  k_with "subscriptTail" => (k_here; (with_reducible show wpAny _ _ (subscriptTail _ _ (Value.ref _) (Value.int 0 _)) _ _ _); k_dflt (refine' pa_item0 ?k1 ?k2 ?k3 ?_ ?k4; (case k1 => k_asm); (case k2 => k_asm); (case k3 => first | assumption | exact PA.more (by assumption) (by intro p hp; (repeat (first | (with_reducible exact hp) | refine List.mem_cons_of_mem _ ?_)))); (case k4 => with_unfolding_all rfl)); intro t9)
  k_with "subscriptTail" => (k_here; (with_reducible show wpAny _ _ (subscriptTail _ _ (Value.ref _) (Value.int 1 _)) _ _ _); k_dflt (refine' pa_item1 ?k1 ?k2 ?k3 ?_ ?k4; (case k1 => k_asm); (case k2 => k_asm); (case k3 => first | assumption | exact PA.more (by assumption) (by intro p hp; (repeat (first | (with_reducible exact hp) | refine List.mem_cons_of_mem _ ?_)))); (case k4 => with_unfolding_all rfl)); intro t9)
  k_with "call ref" => (k_here; (with_reducible show wpAny _ _ (call (Value.ref 144) _) _ _ _); k_dflt (refine' c_isone ?k1 ?k2 ?k3 ?k4 ?k5 ?kK ?kd ?ku ?p1 ?p2 ?p3 ?p4 ?p5 ?_; (case k1 => k_asm); (case k2 => k_asm); (case k3 => k_asm); (case k4 => k_asm); (case k5 => k_asm); (case kK => first | exact rfl | assumption); (case kd => first | exact room_in (by assumption) (by exact rfl) | exact room_0 (by assumption) (by exact rfl) | ktr_room); (case ku => first | exact unit_3 (by assumption) (by exact rfl) | exact unit_4 (by assumption) (by exact rfl) | exact room_0 (by assumption) (by exact rfl) | ktr_units); (case p1 => k_mem); (case p2 => k_mem); (case p3 => omega); (case p4 => omega); (case p5 => first | omega | assumption | decide +kernel)); intro h9 tk9 F9 N9; (try dsimp only); (try k_sweep); (try k_fold))
  k_with "exec While" => (k_here; refine hold_in ?_)
  trivial
section
variable {w : World} {mean : ExcName → Option Value} {mg mb : Str → Option Value} {dp un : Nat} {gd : Option (List Code)} {cn : Str} {cs : Scope} {a : Addr} {ccd : Value} {cl : List (Str × Addr)} {outer : List Env} {A₀ : Around} {base h₀ : Heap} {L : Addr} {m : Str → Option Value} {news : List (Addr × Obj)} {s : Shared} {Q E : Value → Shared → Prop}
theorem c_digits {R dR : Addr} {x : Str} {k : Int} {t1 t2 t3 t4 : Tok} {g : Obj → List (Addr × Obj)} (B : Below A₀ base outer h₀) (F : Fr h₀ L s.heap m) (X : Frag.In (hd.heap_39 w.params) h₀) (N : News h₀ L s.heap news) (T : Top hd.view_39 LO mean mg mb h₀) (hk : cs.kind = .function) (hdp : dp + 2 < recursionLimit) (hun : un + 16 < cLine) (U : UpdF dR (rdD w x k t1 t2 t3 t4) news g) (hR : (R, instObj 161 dR) ∈ news) (hgR : ∀ o', (R, instObj 161 dR) ∈ g o')
   (hk0 : 0 ≤ k) (hx : x.length ≤ 64)
   (hret : ∀ t1' t2' t3' t4' tv h' tk', Fr h₀ L h' m → News h₀ L h' (g (rdD w x (digK x k) t1' t2' t3' t4')) → Q (.str (digV x k) tv) { s with heap := h', toks := tk' }) :
   wpAny (model PySem.Challenge.rw_nu0023_01.row.toRowW.prog w) (ktrTop dp un gd cn cs L a ccd cl outer) (call (.ref 158) [.ref R]) Q E s := by
  have hdR := updF_mem0 U
  have hgd := fun o' => updF_mem o' U
  revert X; k_fill; intro X
  refine wpAny_call ?_
  k_dflt (refine' code_def ?k1 ?k2 ?k3 ?k4 ?k5 ?kA ?kF ?kK ?k6 ?k7 ?k8 ?k9 ?kB ?_ ?c2 ?c3 ?c4 ?c5; (case kA => exact rfl); (case kF => exact rfl); (case kK => assumption); (case k1 => k_asm); (case k2 => k_asm); (case k3 => k_asm); (case k4 => k_asm); (case k5 => k_asm); (case k6 => k_is); (case k7 => k_is); (case k8 => first | exact room_e (by assumption) | exact room_in (by assumption) (by exact rfl) | ktr_room); (case k9 => first | exact BindsTo.of_eq rfl | exact binds_K (by k_in) rfl (by k_is) rfl rfl rfl); (case c5 => decide); (case kB => exact locs rfl); (case c2 => exact rfl); (case c3 => exact rfl); (case c4 => exact rfl); k_whole; intro g' L' h' FG' F' N' B' X' T'; (try dsimp only); (try k_lift B'); (try k_fold))
  k_steps
  unfold Hold
  (with_reducible rename Fr _ _ _ _ => F2)
  (with_reducible rename News _ _ _ _ => N2)
  refine ksw_while (σ := Int × Tok × Tok × Tok × Tok) (fun c => g (rdD w x c.1 c.2.1 c.2.2.1 c.2.2.2.1 c.2.2.2.2)) (fun _ => []) (fun _ => True) [] (fun c => DigP x k c.1) (fun c => ((x.length : Int) - c.1).toNat) (k, t1, t2, t3, t4) F2 (by rw [updF_same U]; exact N2) trivial (fun p hp => nomatch hp) (dig_start hk0 hx) ?_
  intro c u h3 tk3 _ hP F3 N3
  obtain ⟨j, a1, a2, a3, a4⟩ := c
  dsimp only at hP N3
  have hj0 := hP.1
  clear F2 N2
  (try k_fold)
  k_steps
  · (with_reducible rename News _ _ _ _ => N5)
    refine ksw_end (j + 1, _, _, _, _) (by assumption) N5 (fun p hp => hp) trivial (fun p hp => nomatch hp) (fun _ _ _ => rfl) (dig_turn hP (by assumption)) ?_
    have hl := isone_lt (x := x) (k := j) (y := DG) (by assumption)
    show ((x.length : Int) - (j + 1)).toNat < ((x.length : Int) - j).toNat
    omega
  · have e := dig_stop hP (by assumption)
    exact ret_skip (updF_same U) hret (by rw [e]; rfl) e (by assumption) (by assumption)
end
end Mine
namespace Mine
theorem part_end_K17 : True := by
  w_top off
  trivial
end Mine

-- part K18
namespace Mine
noncomputable def wholeL (l : List Int) : Int := l.foldl (fun a c => a * 10 + (c - 48)) 0
noncomputable def wholeF (x : Str) : Int := wholeL (KStt.codes x)
noncomputable def allDig (x : Str) : Bool := (KStt.codes x).all fun c => decide (48 ≤ c ∧ c ≤ 57)
theorem dig_find {n : Nat} (h : 48 ≤ (n : Int) ∧ (n : Int) ≤ 57) : Txt.find DG ⟨#[n]⟩ = (n : Int) - 48 := by
  have h' : n = 48 ∨ n = 49 ∨ n = 50 ∨ n = 51 ∨ n = 52 ∨ n = 53 ∨ n = 54 ∨ n = 55 ∨ n = 56 ∨ n = 57 := by omega
  rcases h' with rfl | rfl | rfl | rfl | rfl | rfl | rfl | rfl | rfl | rfl <;> decide +kernel
theorem ws0 : (0 : Int) = wholeL [] := rfl
theorem wsN {pre post : List Int} {n : Nat} {v : Int} {x : Str} (hd : ∀ c ∈ KStt.codes x, 48 ≤ c ∧ c ≤ 57) (he : KStt.codes x = pre ++ (n : Int) :: post) (hv : v = wholeL pre) : v * 10 + Txt.find DG ⟨#[n]⟩ = wholeL (pre ++ [(n : Int)]) := by
  have h1 := hd n (by rw [he]; simp)
  rw [dig_find h1]
  show _ = (pre ++ [(n : Int)]).foldl _ 0
  rw [List.foldl_append, hv]
  rfl
theorem wsE {pre post : List Int} {n : Nat} {x : Str} (hd : ∀ c ∈ KStt.codes x, 48 ≤ c ∧ c ≤ 57) (he : KStt.codes x = pre ++ (n : Int) :: post) (hv : Txt.find DG ⟨#[n]⟩ = -1) : False := by
  have h1 := hd n (by rw [he]; simp)
  rw [dig_find h1] at hv
  omega
theorem allDig_spec {x : Str} (h : allDig x = true) : ∀ c ∈ KStt.codes x, 48 ≤ c ∧ c ≤ 57 := fun c hc => by
  have := List.all_eq_true.mp h c hc
  simpa using this
theorem words_K18_0 : True := by
  k_with_none
  k_with "subscriptTail" => (k_here; (with_reducible show wpAny _ _ (subscriptTail _ _ (Value.ref _) (Value.int 0 _)) _ _ _); k_dflt (refine' pa_item0 ?k1 ?k2 ?k3 ?_ ?k4; (case k1 => k_asm); (case k2 => k_asm); (case k3 => first | assumption | exact PA.more (by assumption) (by intro p hp; (repeat (first | (with_reducible exact hp) | refine List.mem_cons_of_mem _ ?_)))); (case k4 => with_unfolding_all rfl)); intro t9)
  k_with "subscriptTail" => (k_here; (with_reducible show wpAny _ _ (subscriptTail _ _ (Value.ref _) (Value.int 1 _)) _ _ _); k_dflt (refine' pa_item1 ?k1 ?k2 ?k3 ?_ ?k4; (case k1 => k_asm); (case k2 => k_asm); (case k3 => first | assumption | exact PA.more (by assumption) (by intro p hp; (repeat (first | (with_reducible exact hp) | refine List.mem_cons_of_mem _ ?_)))); (case k4 => with_unfolding_all rfl)); intro t9)
  trivial
section
variable {w : World} {mean : ExcName → Option Value} {mg mb : Str → Option Value} {dp un : Nat} {gd : Option (List Code)} {cn : Str} {cs : Scope} {a : Addr} {ccd : Value} {cl : List (Str × Addr)} {outer : List Env} {A₀ : Around} {base h₀ : Heap} {L : Addr} {m : Str → Option Value} {news : List (Addr × Obj)} {s : Shared} {Q E : Value → Shared → Prop}
theorem c_whole {x : Str} {tx : Tok} (B : Below A₀ base outer h₀) (F : Fr h₀ L s.heap m) (X : Frag.In (hd.heap_39 w.params) h₀) (N : News h₀ L s.heap news) (T : Top hd.view_39 LO mean mg mb h₀) (hk : cs.kind = .function) (hdp : dp + 1 < recursionLimit) (hun : un + 8 < cLine) (hx : x.length ≤ 64) (hd : allDig x = true)
   (hret : ∀ t h' tk', Fr h₀ L h' m → News h₀ L h' news → Q (.int (wholeF x) t) { s with heap := h', toks := tk' }) :
   wpAny (model PySem.Challenge.rw_nu0023_01.row.toRowW.prog w) (ktrTop dp un gd cn cs L a ccd cl outer) (call (.ref 172) [.str x tx]) Q E s := by
  have hd := allDig_spec hd
  revert X; k_fill; intro X
  k_with "pyIter str" => k_state (fun pre n => n = wholeL pre) "number"
  k_with "state" => first | exact ws0 | exact wsN hd kEq kInv
  refine wpAny_call ?_
  k_dflt (refine' code_def ?k1 ?k2 ?k3 ?k4 ?k5 ?kA ?kF ?kK ?k6 ?k7 ?k8 ?k9 ?kB ?_ ?c2 ?c3 ?c4 ?c5; (case kA => exact rfl); (case kF => exact rfl); (case kK => assumption); (case k1 => k_asm); (case k2 => k_asm); (case k3 => k_asm); (case k4 => k_asm); (case k5 => k_asm); (case k6 => k_is); (case k7 => k_is); (case k8 => first | exact room_e (by assumption) | exact room_in (by assumption) (by exact rfl) | ktr_room); (case k9 => first | exact BindsTo.of_eq rfl | exact binds_K (by k_in) rfl (by k_is) rfl rfl rfl); (case c5 => decide); (case kB => exact locs rfl); (case c2 => exact rfl); (case c3 => exact rfl); (case c4 => exact rfl); k_whole; intro g' L' h' FG' F' N' B' X' T'; (try dsimp only); (try k_lift B'); (try k_fold))
  k_steps
  · exact (wsE hd kEq (by assumption)).elim
  · exact ret_int hret kInv (by assumption) (by assumption) (sub_refl _)
end
end Mine
namespace Mine
theorem part_end_K18 : True := by
  w_top off
  trivial
end Mine

-- part K19
namespace Mine
theorem skipK_nn {x y : Str} {k : Int} (h : 0 ≤ k) : 0 ≤ skipK x k y := by unfold skipK; split <;> omega
theorem digN_nn {x : Str} : ∀ (n : Nat) {k : Int}, 0 ≤ k → 0 ≤ digN n x k
  | 0, _, h => h
  | n + 1, k, h => by
    unfold digN
    split
    · exact digN_nn n (by omega)
    · exact h
theorem digK_nn {x : Str} {k : Int} (h : 0 ≤ k) (hx : x.length ≤ 64) : 0 ≤ digK x k := digN_nn _ h
section
variable {w : World} {mean : ExcName → Option Value} {mg mb : Str → Option Value} {dp un : Nat} {gd : Option (List Code)} {cn : Str} {cs : Scope} {a : Addr} {ccd : Value} {cl : List (Str × Addr)} {outer : List Env} {A₀ : Around} {base h₀ : Heap} {L : Addr} {m : Str → Option Value} {news : List (Addr × Obj)} {s : Shared} {Q E : Value → Shared → Prop}
theorem c_skip0 {R dR : Addr} {x y : Str} {k : Int} {t1 t2 t3 t4 ty : Tok} {g : Obj → List (Addr × Obj)} (B : Below A₀ base outer h₀) (F : Fr h₀ L s.heap m) (X : Frag.In (hd.heap_39 w.params) h₀) (N : News h₀ L s.heap news) (T : Top hd.view_39 LO mean mg mb h₀) (hk : cs.kind = .function) (hdp : dp + 2 < recursionLimit) (hun : un + 16 < cLine) (U : UpdF dR (rdD w x k t1 t2 t3 t4) news g) (hR : (R, instObj 161 dR) ∈ news) (hgR : ∀ o', (R, instObj 161 dR) ∈ g o')
   (hk0 : 0 ≤ k) (hx : x.length ≤ 64) (hy : y.length ≤ 64) (hi : isone x k y = false)
   (hret : ∀ t1' t2' t3' t4' tv h' tk', Fr h₀ L h' m → News h₀ L h' (g (rdD w x k t1' t2' t3' t4')) → Q (.str (Str.ofString "") tv) { s with heap := h', toks := tk' }) :
   wpAny (model PySem.Challenge.rw_nu0023_01.row.toRowW.prog w) (ktrTop dp un gd cn cs L a ccd cl outer) (call (.ref 151) [.ref R, .str y ty]) Q E s := by
  refine c_skip B F X N T hk hdp hun U hR hgR hk0 hx hy ?_
  unfold skipV skipK
  rw [hi]
  exact hret
theorem c_skip1 {R dR : Addr} {x y : Str} {k : Int} {t1 t2 t3 t4 ty : Tok} {g : Obj → List (Addr × Obj)} (B : Below A₀ base outer h₀) (F : Fr h₀ L s.heap m) (X : Frag.In (hd.heap_39 w.params) h₀) (N : News h₀ L s.heap news) (T : Top hd.view_39 LO mean mg mb h₀) (hk : cs.kind = .function) (hdp : dp + 2 < recursionLimit) (hun : un + 16 < cLine) (U : UpdF dR (rdD w x k t1 t2 t3 t4) news g) (hR : (R, instObj 161 dR) ∈ news) (hgR : ∀ o', (R, instObj 161 dR) ∈ g o')
   (hk0 : 0 ≤ k) (hx : x.length ≤ 64) (hy : y.length ≤ 64) (hi : isone x k y = true)
   (hret : ∀ t1' t2' t3' t4' tv h' tk', Fr h₀ L h' m → News h₀ L h' (g (rdD w x (k + 1) t1' t2' t3' t4')) → Q (.str (Txt.item x k) tv) { s with heap := h', toks := tk' }) :
   wpAny (model PySem.Challenge.rw_nu0023_01.row.toRowW.prog w) (ktrTop dp un gd cn cs L a ccd cl outer) (call (.ref 151) [.ref R, .str y ty]) Q E s := by
  refine c_skip B F X N T hk hdp hun U hR hgR hk0 hx hy ?_
  unfold skipV skipK
  rw [hi]
  exact hret
end
noncomputable def expD (x : Str) (k : Int) : Str := digV x (skipK x (k + 1) (Str.ofString "+-"))
noncomputable def expOk (x : Str) (k : Int) : Bool := !isone x k (Str.ofString "eE") || (!(Txt.item x k == Str.ofString "") && !(expD x k == Str.ofString "") && decide ((expD x k).length ≤ 9) && allDig (expD x k) && decide (wholeF (expD x k) ≤ 300))
noncomputable def expK (x : Str) (k : Int) : Int := if isone x k (Str.ofString "eE") then digK x (skipK x (k + 1) (Str.ofString "+-")) else k
noncomputable def expV (x : Str) (k : Int) : Int := if isone x k (Str.ofString "eE") then (if skipV x (k + 1) (Str.ofString "+-") == Str.ofString "-" then -wholeF (expD x k) else wholeF (expD x k)) else 0
local macro_rules | `(tactic| k_upd) => `(tactic| exact upd_of (by with_reducible assumption))
local macro_rules | `(tactic| k_upd) => `(tactic| exact upd_of (updF_again _ (by with_reducible assumption)))
local macro_rules | `(tactic| k_updF) => `(tactic| with_reducible assumption)
local macro_rules | `(tactic| k_updF) => `(tactic| exact updF_again _ (by with_reducible assumption))
local macro_rules | `(tactic| k_mem) => `(tactic| ((show _ ∈ _); apply_assumption))
theorem words_K19_0 : True := by
  k_with_none
  k_with "subscriptTail" => (k_here; (with_reducible show wpAny _ _ (subscriptTail _ _ (Value.ref _) (Value.int 0 _)) _ _ _); k_dflt (refine' pa_item0 ?k1 ?k2 ?k3 ?_ ?k4; (case k1 => k_asm); (case k2 => k_asm); (case k3 => first | assumption | exact PA.more (by assumption) (by intro p hp; (repeat (first | (with_reducible exact hp) | refine List.mem_cons_of_mem _ ?_)))); (case k4 => with_unfolding_all rfl)); intro t9)
  k_with "subscriptTail" => (k_here; (with_reducible show wpAny _ _ (subscriptTail _ _ (Value.ref _) (Value.int 1 _)) _ _ _); k_dflt (refine' pa_item1 ?k1 ?k2 ?k3 ?_ ?k4; (case k1 => k_asm); (case k2 => k_asm); (case k3 => first | assumption | exact PA.more (by assumption) (by intro p hp; (repeat (first | (with_reducible exact hp) | refine List.mem_cons_of_mem _ ?_)))); (case k4 => with_unfolding_all rfl)); intro t9)
  k_with "call ref" => (k_here; (with_reducible show wpAny _ _ (call (Value.ref _) _) _ _ _); refine hold_in ?_)
  k_with "call ref" => (k_here; (with_reducible show wpAny _ _ (call (Value.ref 151) _) _ _ _); k_dflt (refine' c_skip ?k1 ?k2 ?k3 ?k4 ?k5 ?kK ?kd ?ku ?p1 ?p2 ?p3 ?p4 ?p5 ?p6 ?_; (case k1 => k_asm); (case k2 => k_asm); (case k3 => k_asm); (case k4 => k_asm); (case k5 => k_asm); (case kK => first | exact rfl | assumption); (case kd => first | exact room_in (by assumption) (by exact rfl) | exact room_0 (by assumption) (by exact rfl) | ktr_room); (case ku => first | exact unit_3 (by assumption) (by exact rfl) | exact unit_4 (by assumption) (by exact rfl) | exact room_0 (by assumption) (by exact rfl) | ktr_units); (case p1 => first | (with_reducible assumption) | exact updF_again _ (by with_reducible assumption)); (case p2 => k_mem); (case p3 => assumption); (case p4 => first | omega | (exact skipK_nn (by omega)) | (exact digK_nn (skipK_nn (by omega)) (by omega))); (case p5 => omega); (case p6 => first | omega | assumption | decide +kernel)); intro t1 t2 t3 t4 tv h9 tk9 F9 N9; (try dsimp only); (try k_sweep); (try k_fold))
  k_with "call ref" => (k_here; (with_reducible show wpAny _ _ (call (Value.ref 151) _) _ _ _); k_dflt (refine' c_skip0 ?k1 ?k2 ?k3 ?k4 ?k5 ?kK ?kd ?ku ?p1 ?p2 ?p3 ?p4 ?p5 ?p6 ?p7 ?_; (case k1 => k_asm); (case k2 => k_asm); (case k3 => k_asm); (case k4 => k_asm); (case k5 => k_asm); (case kK => first | exact rfl | assumption); (case kd => first | exact room_in (by assumption) (by exact rfl) | exact room_0 (by assumption) (by exact rfl) | ktr_room); (case ku => first | exact unit_3 (by assumption) (by exact rfl) | exact unit_4 (by assumption) (by exact rfl) | exact room_0 (by assumption) (by exact rfl) | ktr_units); (case p1 => first | (with_reducible assumption) | exact updF_again _ (by with_reducible assumption)); (case p2 => k_mem); (case p3 => assumption); (case p4 => first | omega | (exact skipK_nn (by omega)) | (exact digK_nn (skipK_nn (by omega)) (by omega))); (case p5 => omega); (case p6 => first | omega | assumption | decide +kernel); (case p7 => with_reducible assumption)); intro t1 t2 t3 t4 tv h9 tk9 F9 N9; (try dsimp only); (try k_sweep); (try k_fold))
  k_with "call ref" => (k_here; (with_reducible show wpAny _ _ (call (Value.ref 151) _) _ _ _); k_dflt (refine' c_skip1 ?k1 ?k2 ?k3 ?k4 ?k5 ?kK ?kd ?ku ?p1 ?p2 ?p3 ?p4 ?p5 ?p6 ?p7 ?_; (case k1 => k_asm); (case k2 => k_asm); (case k3 => k_asm); (case k4 => k_asm); (case k5 => k_asm); (case kK => first | exact rfl | assumption); (case kd => first | exact room_in (by assumption) (by exact rfl) | exact room_0 (by assumption) (by exact rfl) | ktr_room); (case ku => first | exact unit_3 (by assumption) (by exact rfl) | exact unit_4 (by assumption) (by exact rfl) | exact room_0 (by assumption) (by exact rfl) | ktr_units); (case p1 => first | (with_reducible assumption) | exact updF_again _ (by with_reducible assumption)); (case p2 => k_mem); (case p3 => assumption); (case p4 => first | omega | (exact skipK_nn (by omega)) | (exact digK_nn (skipK_nn (by omega)) (by omega))); (case p5 => omega); (case p6 => first | omega | assumption | decide +kernel); (case p7 => with_reducible assumption)); intro t1 t2 t3 t4 tv h9 tk9 F9 N9; (try dsimp only); (try k_sweep); (try k_fold))
  k_with "call ref" => (k_here; (with_reducible show wpAny _ _ (call (Value.ref 158) _) _ _ _); k_dflt (refine' c_digits ?k1 ?k2 ?k3 ?k4 ?k5 ?kK ?kd ?ku ?p1 ?p2 ?p3 ?p4 ?p5 ?_; (case k1 => k_asm); (case k2 => k_asm); (case k3 => k_asm); (case k4 => k_asm); (case k5 => k_asm); (case kK => first | exact rfl | assumption); (case kd => first | exact room_in (by assumption) (by exact rfl) | exact room_0 (by assumption) (by exact rfl) | ktr_room); (case ku => first | exact unit_3 (by assumption) (by exact rfl) | exact unit_4 (by assumption) (by exact rfl) | exact room_0 (by assumption) (by exact rfl) | ktr_units); (case p1 => first | (with_reducible assumption) | exact updF_again _ (by with_reducible assumption)); (case p2 => k_mem); (case p3 => assumption); (case p4 => first | omega | (exact skipK_nn (by omega)) | (exact digK_nn (skipK_nn (by omega)) (by omega))); (case p5 => omega)); intro t1 t2 t3 t4 tv h9 tk9 F9 N9; (try dsimp only); (try k_sweep); (try k_fold))
  k_with "call ref" => (k_here; (with_reducible show wpAny _ _ (call (Value.ref 172) _) _ _ _); k_dflt (refine' c_whole ?k1 ?k2 ?k3 ?k4 ?k5 ?kK ?kd ?ku ?p1 ?p2 ?_; (case k1 => k_asm); (case k2 => k_asm); (case k3 => k_asm); (case k4 => k_asm); (case k5 => k_asm); (case kK => first | exact rfl | assumption); (case kd => first | exact room_in (by assumption) (by exact rfl) | exact room_0 (by assumption) (by exact rfl) | ktr_room); (case ku => first | exact unit_3 (by assumption) (by exact rfl) | exact unit_4 (by assumption) (by exact rfl) | exact room_0 (by assumption) (by exact rfl) | ktr_units); (case p1 => first | omega | assumption | decide +kernel); (case p2 => with_reducible assumption)); intro t9 h9 tk9 F9 N9; (try dsimp only); (try k_sweep); (try k_fold))
  trivial
section
variable {w : World} {mean : ExcName → Option Value} {mg mb : Str → Option Value} {dp un : Nat} {gd : Option (List Code)} {cn : Str} {cs : Scope} {a : Addr} {ccd : Value} {cl : List (Str × Addr)} {outer : List Env} {A₀ : Around} {base h₀ : Heap} {L : Addr} {m : Str → Option Value} {news : List (Addr × Obj)} {s : Shared} {Q E : Value → Shared → Prop}
theorem c_exp {R dR : Addr} {x : Str} {k : Int} {t1 t2 t3 t4 : Tok} {g : Obj → List (Addr × Obj)} (B : Below A₀ base outer h₀) (F : Fr h₀ L s.heap m) (X : Frag.In (hd.heap_39 w.params) h₀) (N : News h₀ L s.heap news) (T : Top hd.view_39 LO mean mg mb h₀) (hk : cs.kind = .function) (hdp : dp + 3 < recursionLimit) (hun : un + 24 < cLine) (U : UpdF dR (rdD w x k t1 t2 t3 t4) news g) (hR : (R, instObj 161 dR) ∈ news) (hgR : ∀ o', (R, instObj 161 dR) ∈ g o')
   (hk0 : 0 ≤ k) (hx : x.length ≤ 64) (hOk : expOk x k = true)
   (hret : ∀ t1' t2' t3' t4' tv h' tk', Fr h₀ L h' m → News h₀ L h' (g (rdD w x (expK x k) t1' t2' t3' t4')) → Q (.int (expV x k) tv) { s with heap := h', toks := tk' }) :
   wpAny (model PySem.Challenge.rw_nu0023_01.row.toRowW.prog w) (ktrTop dp un gd cn cs L a ccd cl outer) (call (.ref 179) [.ref R]) Q E s := by
  have hdR := updF_mem0 U
  have hgd := fun o' => updF_mem o' U
  cases hi : isone x k (Str.ofString "eE") with
  | false =>
    unfold expK expV at hret
    rw [hi] at hret
    simp only [Bool.false_eq_true, if_false] at hret
    revert X; k_fill; intro X
    refine wpAny_call ?_
    k_dflt (refine' code_def ?k1 ?k2 ?k3 ?k4 ?k5 ?kA ?kF ?kK ?k6 ?k7 ?k8 ?k9 ?kB ?_ ?c2 ?c3 ?c4 ?c5; (case kA => exact rfl); (case kF => exact rfl); (case kK => assumption); (case k1 => k_asm); (case k2 => k_asm); (case k3 => k_asm); (case k4 => k_asm); (case k5 => k_asm); (case k6 => k_is); (case k7 => k_is); (case k8 => first | exact room_e (by assumption) | exact room_in (by assumption) (by exact rfl) | ktr_room); (case k9 => first | exact BindsTo.of_eq rfl | exact binds_K (by k_in) rfl (by k_is) rfl rfl rfl); (case c5 => decide); (case kB => exact locs rfl); (case c2 => exact rfl); (case c3 => exact rfl); (case c4 => exact rfl); k_whole; intro g' L' h' FG' F' N' B' X' T'; (try dsimp only); (try k_lift B'); (try k_fold))
    k_steps
    exact hret _ _ _ _ _ _ _ (by assumption) (by assumption)
  | true =>
    unfold expOk at hOk
    unfold expK expV at hret
    rw [hi] at hret hOk
    simp only [if_true] at hret
    simp only [Bool.not_true, Bool.false_or, Bool.and_eq_true, Bool.not_eq_true', decide_eq_true_eq] at hOk
    obtain ⟨⟨⟨⟨o1, o2⟩, o3⟩, o4⟩, o5⟩ := hOk
    unfold expD at o2 o3 o4 o5 hret
    revert X; k_fill; intro X
    refine wpAny_call ?_
    k_dflt (refine' code_def ?k1 ?k2 ?k3 ?k4 ?k5 ?kA ?kF ?kK ?k6 ?k7 ?k8 ?k9 ?kB ?_ ?c2 ?c3 ?c4 ?c5; (case kA => exact rfl); (case kF => exact rfl); (case kK => assumption); (case k1 => k_asm); (case k2 => k_asm); (case k3 => k_asm); (case k4 => k_asm); (case k5 => k_asm); (case k6 => k_is); (case k7 => k_is); (case k8 => first | exact room_e (by assumption) | exact room_in (by assumption) (by exact rfl) | ktr_room); (case k9 => first | exact BindsTo.of_eq rfl | exact binds_K (by k_in) rfl (by k_is) rfl rfl rfl); (case c5 => decide); (case kB => exact locs rfl); (case c2 => exact rfl); (case c3 => exact rfl); (case c4 => exact rfl); k_whole; intro g' L' h' FG' F' N' B' X' T'; (try dsimp only); (try k_lift B'); (try k_fold))
    k_steps
    · have hs : (skipV x (k + 1) (Str.ofString "+-") == Str.ofString "-") = true := by assumption
      rw [hs] at hret
      exact hret _ _ _ _ _ _ _ (by assumption) (cb_drop (by assumption) (sub_cons _ (sub_refl _)))
    · have hs : (skipV x (k + 1) (Str.ofString "+-") == Str.ofString "-") = false := by assumption
      rw [hs] at hret
      exact hret _ _ _ _ _ _ _ (by assumption) (cb_drop (by assumption) (sub_cons _ (sub_refl _)))
end
end Mine
namespace Mine
theorem part_end_K19 : True := by
  w_top off
  trivial
end Mine

-- part K20
namespace Mine
section
variable {w : World} {mean : ExcName → Option Value} {mg mb : Str → Option Value} {dp un : Nat} {gd : Option (List Code)} {cn : Str} {cs : Scope} {a : Addr} {ccd : Value} {cl : List (Str × Addr)} {outer : List Env} {A₀ : Around} {base h₀ : Heap} {L : Addr} {m : Str → Option Value} {news : List (Addr × Obj)} {s : Shared} {Q E : Value → Shared → Prop}
theorem c_exp0 {R dR : Addr} {x : Str} {k : Int} {t1 t2 t3 t4 : Tok} {g : Obj → List (Addr × Obj)} (B : Below A₀ base outer h₀) (F : Fr h₀ L s.heap m) (X : Frag.In (hd.heap_39 w.params) h₀) (N : News h₀ L s.heap news) (T : Top hd.view_39 LO mean mg mb h₀) (hk : cs.kind = .function) (hdp : dp + 3 < recursionLimit) (hun : un + 24 < cLine) (U : UpdF dR (rdD w x k t1 t2 t3 t4) news g) (hR : (R, instObj 161 dR) ∈ news) (hgR : ∀ o', (R, instObj 161 dR) ∈ g o')
   (hk0 : 0 ≤ k) (hx : x.length ≤ 64) (hi : isone x k (Str.ofString "eE") = false)
   (hret : ∀ t1' t2' t3' t4' tv h' tk', Fr h₀ L h' m → News h₀ L h' (g (rdD w x k t1' t2' t3' t4')) → Q (.int 0 tv) { s with heap := h', toks := tk' }) :
   wpAny (model PySem.Challenge.rw_nu0023_01.row.toRowW.prog w) (ktrTop dp un gd cn cs L a ccd cl outer) (call (.ref 179) [.ref R]) Q E s := by
  refine c_exp B F X N T hk hdp hun U hR hgR hk0 hx (by unfold expOk; rw [hi]; rfl) ?_
  unfold expK expV
  rw [hi]
  exact hret
theorem c_expV {R dR : Addr} {x : Str} {k ev : Int} {t1 t2 t3 t4 : Tok} {g : Obj → List (Addr × Obj)} (B : Below A₀ base outer h₀) (F : Fr h₀ L s.heap m) (X : Frag.In (hd.heap_39 w.params) h₀) (N : News h₀ L s.heap news) (T : Top hd.view_39 LO mean mg mb h₀) (hk : cs.kind = .function) (hdp : dp + 3 < recursionLimit) (hun : un + 24 < cLine) (U : UpdF dR (rdD w x k t1 t2 t3 t4) news g) (hR : (R, instObj 161 dR) ∈ news) (hgR : ∀ o', (R, instObj 161 dR) ∈ g o')
   (hk0 : 0 ≤ k) (hx : x.length ≤ 64) (hOk : expOk x k = true) (he : expV x k = ev)
   (hret : ∀ t1' t2' t3' t4' tv h' tk', Fr h₀ L h' m → News h₀ L h' (g (rdD w x (expK x k) t1' t2' t3' t4')) → Q (.int ev tv) { s with heap := h', toks := tk' }) :
   wpAny (model PySem.Challenge.rw_nu0023_01.row.toRowW.prog w) (ktrTop dp un gd cn cs L a ccd cl outer) (call (.ref 179) [.ref R]) Q E s := by
  subst he
  exact c_exp B F X N T hk hdp hun U hR hgR hk0 hx hOk hret
theorem c_digitsV {R dR : Addr} {x v : Str} {k : Int} {t1 t2 t3 t4 : Tok} {g : Obj → List (Addr × Obj)} (B : Below A₀ base outer h₀) (F : Fr h₀ L s.heap m) (X : Frag.In (hd.heap_39 w.params) h₀) (N : News h₀ L s.heap news) (T : Top hd.view_39 LO mean mg mb h₀) (hk : cs.kind = .function) (hdp : dp + 2 < recursionLimit) (hun : un + 16 < cLine) (U : UpdF dR (rdD w x k t1 t2 t3 t4) news g) (hR : (R, instObj 161 dR) ∈ news) (hgR : ∀ o', (R, instObj 161 dR) ∈ g o')
   (hk0 : 0 ≤ k) (hx : x.length ≤ 64) (he : digV x k = v)
   (hret : ∀ t1' t2' t3' t4' tv h' tk', Fr h₀ L h' m → News h₀ L h' (g (rdD w x (digK x k) t1' t2' t3' t4')) → Q (.str v tv) { s with heap := h', toks := tk' }) :
   wpAny (model PySem.Challenge.rw_nu0023_01.row.toRowW.prog w) (ktrTop dp un gd cn cs L a ccd cl outer) (call (.ref 158) [.ref R]) Q E s := by
  subst he
  exact c_digits B F X N T hk hdp hun U hR hgR hk0 hx hret
end
theorem words_K20_0 : True := by
  k_with_none
  k_with "subscriptTail" => (k_here; (with_reducible show wpAny _ _ (subscriptTail _ _ (Value.ref _) (Value.int 0 _)) _ _ _); k_dflt (refine' pa_item0 ?k1 ?k2 ?k3 ?_ ?k4; (case k1 => k_asm); (case k2 => k_asm); (case k3 => first | assumption | exact PA.more (by assumption) (by intro p hp; (repeat (first | (with_reducible exact hp) | refine List.mem_cons_of_mem _ ?_)))); (case k4 => with_unfolding_all rfl)); intro t9)
  k_with "subscriptTail" => (k_here; (with_reducible show wpAny _ _ (subscriptTail _ _ (Value.ref _) (Value.int 1 _)) _ _ _); k_dflt (refine' pa_item1 ?k1 ?k2 ?k3 ?_ ?k4; (case k1 => k_asm); (case k2 => k_asm); (case k3 => first | assumption | exact PA.more (by assumption) (by intro p hp; (repeat (first | (with_reducible exact hp) | refine List.mem_cons_of_mem _ ?_)))); (case k4 => with_unfolding_all rfl)); intro t9)
  trivial
section
variable {w : World} {mean : ExcName → Option Value} {mg mb : Str → Option Value} {dp un : Nat} {gd : Option (List Code)} {cn : Str} {cs : Scope} {a : Addr} {ccd : Value} {cl : List (Str × Addr)} {outer : List Env} {A₀ : Around} {base h₀ : Heap} {L : Addr} {m : Str → Option Value} {news : List (Addr × Obj)} {s : Shared} {Q E : Value → Shared → Prop}
theorem c_reader {x : Str} {tx : Tok} (B : Below A₀ base outer h₀) (F : Fr h₀ L s.heap m) (X : Frag.In (hd.heap_39 w.params) h₀) (N : News h₀ L s.heap news) (T : Top hd.view_39 LO mean mg mb h₀) (hk : cs.kind = .function) (hdp : dp + 3 < recursionLimit) (hun : un + 24 < cLine)
   (hret : ∀ R dR t1 t2 t3 t4 h' tk', Fr h₀ L h' m → News h₀ L h' ((R, instObj 161 dR) :: (dR, rdD w x 0 t1 t2 t3 t4) :: news) → AllLt dR news → @LT.lt Nat _ dR R → Q (.ref R) { s with heap := h', toks := tk' }) :
   wpAny (model PySem.Challenge.rw_nu0023_01.row.toRowW.prog w) (ktrTop dp un gd cn cs L a ccd cl outer) (call (.ref 161) [.str x tx]) Q E s := by
  revert X; k_fill; intro X
  k_dflt (refine' call_cls ?k1 ?k2 ?k3 ?k4 ?k5 ?k6 ?_; (case k1 => k_asm); (case k2 => k_asm); (case k3 => k_asm); (case k4 => k_is); (case k5 => k_is); (case k6 => k_is); k_whole); intro x' d' hh' F1 N1 l1 l2; (try k_lt l1); (try k_lt2 l2)
  k_dflt (refine' code_def ?k1 ?k2 ?k3 ?k4 ?k5 ?kA ?kF ?kK ?k6 ?k7 ?k8 ?k9 ?kB ?_ ?c2 ?c3 ?c4 ?c5; (case kA => exact rfl); (case kF => exact rfl); (case kK => assumption); (case k1 => k_asm); (case k2 => k_asm); (case k3 => k_asm); (case k4 => k_asm); (case k5 => k_asm); (case k6 => k_is); (case k7 => k_is); (case k8 => first | exact room_e (by assumption) | exact room_in (by assumption) (by exact rfl) | ktr_room); (case k9 => first | exact BindsTo.of_eq rfl | exact binds_K (by k_in) rfl (by k_is) rfl rfl rfl); (case c5 => decide); (case kB => exact locs rfl); (case c2 => exact rfl); (case c3 => exact rfl); (case c4 => exact rfl); k_whole; intro g' L' h' FG' F' N' B' X' T'; (try dsimp only); (try k_lift B'); (try k_fold))
  k_steps
  exact hret _ _ _ _ _ _ _ _ (by assumption) (by assumption) (by first | assumption | exact allLt_of (by assumption) | exact alt1 (by assumption) | exact alt2 (by assumption) | exact alt3 (by assumption) | exact alt4 (by assumption) | exact alt5 (by assumption) | exact allLt_lt (by assumption) (by omega)) (by assumption)
end
theorem words_K20_1 : True := by
  k_with "call ref" => (k_here; (with_reducible show wpAny _ _ (call (Value.ref _) _) _ _ _); refine hold_in ?_)
  k_with "call ref" => (k_here; (with_reducible show wpAny _ _ (call (Value.ref 161) _) _ _ _); k_dflt (refine' c_reader ?k1 ?k2 ?k3 ?k4 ?k5 ?kK ?kd ?ku  ?_; (case k1 => k_asm); (case k2 => k_asm); (case k3 => k_asm); (case k4 => k_asm); (case k5 => k_asm); (case kK => first | exact rfl | assumption); (case kd => first | exact room_in (by assumption) (by exact rfl) | exact room_0 (by assumption) (by exact rfl) | ktr_room); (case ku => first | exact unit_3 (by assumption) (by exact rfl) | exact unit_4 (by assumption) (by exact rfl) | exact room_0 (by assumption) (by exact rfl) | ktr_units)); intro R9 D9 t1 t2 t3 t4 h9 tk9 F9 N9 l9 l8; (try replace l9 := allLt_hd l9); (try dsimp only); (try k_sweep); (try k_fold))
  k_with "call ref" => (k_here; (with_reducible show wpAny _ _ (call (Value.ref 151) _) _ _ _); k_dflt (refine' c_skip ?k1 ?k2 ?k3 ?k4 ?k5 ?kK ?kd ?ku ?p1 ?p2 ?p3 ?p4 ?p5 ?p6 ?_; (case k1 => k_asm); (case k2 => k_asm); (case k3 => k_asm); (case k4 => k_asm); (case k5 => k_asm); (case kK => first | exact rfl | assumption); (case kd => first | exact room_in (by assumption) (by exact rfl) | exact room_0 (by assumption) (by exact rfl) | ktr_room); (case ku => first | exact unit_3 (by assumption) (by exact rfl) | exact unit_4 (by assumption) (by exact rfl) | exact room_0 (by assumption) (by exact rfl) | ktr_units); (case p2 => k_mem); (case p1 => first | (with_reducible assumption) | k_updF); (case p3 => first | assumption | (intro o9; (try dsimp only); k_mem)); (case p4 => first | omega | (exact skipK_nn (by omega)) | (exact digK_nn (skipK_nn (by omega)) (by omega)) | (exact skipK_nn (digK_nn (skipK_nn (by omega)) (by omega))) | (exact digK_nn (skipK_nn (digK_nn (skipK_nn (by omega)) (by omega))) (by omega)) | (have h9 := digK_nn (x := _) (skipK_nn (y := _) (by omega)) (by omega); omega)); (case p5 => omega); (case p6 => first | omega | assumption | decide +kernel)); intro t1 t2 t3 t4 tv h9 tk9 F9 N9; (try dsimp only at N9); (try dsimp only); (try k_sweep); (try k_fold))
  k_with "call ref" => (k_here; (with_reducible show wpAny _ _ (call (Value.ref 151) _) _ _ _); k_dflt (refine' c_skip0 ?k1 ?k2 ?k3 ?k4 ?k5 ?kK ?kd ?ku ?p1 ?p2 ?p3 ?p4 ?p5 ?p6 ?p7 ?_; (case k1 => k_asm); (case k2 => k_asm); (case k3 => k_asm); (case k4 => k_asm); (case k5 => k_asm); (case kK => first | exact rfl | assumption); (case kd => first | exact room_in (by assumption) (by exact rfl) | exact room_0 (by assumption) (by exact rfl) | ktr_room); (case ku => first | exact unit_3 (by assumption) (by exact rfl) | exact unit_4 (by assumption) (by exact rfl) | exact room_0 (by assumption) (by exact rfl) | ktr_units); (case p2 => k_mem); (case p1 => first | (with_reducible assumption) | k_updF); (case p3 => first | assumption | (intro o9; (try dsimp only); k_mem)); (case p4 => first | omega | (exact skipK_nn (by omega)) | (exact digK_nn (skipK_nn (by omega)) (by omega)) | (exact skipK_nn (digK_nn (skipK_nn (by omega)) (by omega))) | (exact digK_nn (skipK_nn (digK_nn (skipK_nn (by omega)) (by omega))) (by omega)) | (have h9 := digK_nn (x := _) (skipK_nn (y := _) (by omega)) (by omega); omega)); (case p5 => omega); (case p6 => first | omega | assumption | decide +kernel); (case p7 => with_reducible assumption)); intro t1 t2 t3 t4 tv h9 tk9 F9 N9; (try dsimp only at N9); (try dsimp only); (try k_sweep); (try k_fold))
  k_with "call ref" => (k_here; (with_reducible show wpAny _ _ (call (Value.ref 151) _) _ _ _); k_dflt (refine' c_skip1 ?k1 ?k2 ?k3 ?k4 ?k5 ?kK ?kd ?ku ?p1 ?p2 ?p3 ?p4 ?p5 ?p6 ?p7 ?_; (case k1 => k_asm); (case k2 => k_asm); (case k3 => k_asm); (case k4 => k_asm); (case k5 => k_asm); (case kK => first | exact rfl | assumption); (case kd => first | exact room_in (by assumption) (by exact rfl) | exact room_0 (by assumption) (by exact rfl) | ktr_room); (case ku => first | exact unit_3 (by assumption) (by exact rfl) | exact unit_4 (by assumption) (by exact rfl) | exact room_0 (by assumption) (by exact rfl) | ktr_units); (case p2 => k_mem); (case p1 => first | (with_reducible assumption) | k_updF); (case p3 => first | assumption | (intro o9; (try dsimp only); k_mem)); (case p4 => first | omega | (exact skipK_nn (by omega)) | (exact digK_nn (skipK_nn (by omega)) (by omega)) | (exact skipK_nn (digK_nn (skipK_nn (by omega)) (by omega))) | (exact digK_nn (skipK_nn (digK_nn (skipK_nn (by omega)) (by omega))) (by omega)) | (have h9 := digK_nn (x := _) (skipK_nn (y := _) (by omega)) (by omega); omega)); (case p5 => omega); (case p6 => first | omega | assumption | decide +kernel); (case p7 => with_reducible assumption)); intro t1 t2 t3 t4 tv h9 tk9 F9 N9; (try dsimp only at N9); (try dsimp only); (try k_sweep); (try k_fold))
  k_with "call ref" => (k_here; (with_reducible show wpAny _ _ (call (Value.ref 158) _) _ _ _); k_dflt (refine' c_digits ?k1 ?k2 ?k3 ?k4 ?k5 ?kK ?kd ?ku ?p1 ?p2 ?p3 ?p4 ?p5 ?_; (case k1 => k_asm); (case k2 => k_asm); (case k3 => k_asm); (case k4 => k_asm); (case k5 => k_asm); (case kK => first | exact rfl | assumption); (case kd => first | exact room_in (by assumption) (by exact rfl) | exact room_0 (by assumption) (by exact rfl) | ktr_room); (case ku => first | exact unit_3 (by assumption) (by exact rfl) | exact unit_4 (by assumption) (by exact rfl) | exact room_0 (by assumption) (by exact rfl) | ktr_units); (case p2 => k_mem); (case p1 => first | (with_reducible assumption) | k_updF); (case p3 => first | assumption | (intro o9; (try dsimp only); k_mem)); (case p4 => first | omega | (exact skipK_nn (by omega)) | (exact digK_nn (skipK_nn (by omega)) (by omega)) | (exact skipK_nn (digK_nn (skipK_nn (by omega)) (by omega))) | (exact digK_nn (skipK_nn (digK_nn (skipK_nn (by omega)) (by omega))) (by omega)) | (have h9 := digK_nn (x := _) (skipK_nn (y := _) (by omega)) (by omega); omega)); (case p5 => omega)); intro t1 t2 t3 t4 tv h9 tk9 F9 N9; (try dsimp only at N9); (try dsimp only); (try k_sweep); (try k_fold))
  k_with "call ref" => (k_here; (with_reducible show wpAny _ _ (call (Value.ref 158) _) _ _ _); k_dflt (refine' c_digitsV ?k1 ?k2 ?k3 ?k4 ?k5 ?kK ?kd ?ku ?p1 ?p2 ?p3 ?p4 ?p5 ?p6 ?_; (case k1 => k_asm); (case k2 => k_asm); (case k3 => k_asm); (case k4 => k_asm); (case k5 => k_asm); (case kK => first | exact rfl | assumption); (case kd => first | exact room_in (by assumption) (by exact rfl) | exact room_0 (by assumption) (by exact rfl) | ktr_room); (case ku => first | exact unit_3 (by assumption) (by exact rfl) | exact unit_4 (by assumption) (by exact rfl) | exact room_0 (by assumption) (by exact rfl) | ktr_units); (case p2 => k_mem); (case p1 => first | (with_reducible assumption) | k_updF); (case p3 => first | assumption | (intro o9; (try dsimp only); k_mem)); (case p4 => first | omega | (exact skipK_nn (by omega)) | (exact digK_nn (skipK_nn (by omega)) (by omega)) | (exact skipK_nn (digK_nn (skipK_nn (by omega)) (by omega))) | (exact digK_nn (skipK_nn (digK_nn (skipK_nn (by omega)) (by omega))) (by omega)) | (have h9 := digK_nn (x := _) (skipK_nn (y := _) (by omega)) (by omega); omega)); (case p5 => omega); (case p6 => with_reducible assumption)); intro t1 t2 t3 t4 tv h9 tk9 F9 N9; (try dsimp only at N9); (try dsimp only); (try k_sweep); (try k_fold))
  k_with "call ref" => (k_here; (with_reducible show wpAny _ _ (call (Value.ref 179) _) _ _ _); k_dflt (refine' c_exp0 ?k1 ?k2 ?k3 ?k4 ?k5 ?kK ?kd ?ku ?p1 ?p2 ?p3 ?p4 ?p5 ?p6 ?_; (case k1 => k_asm); (case k2 => k_asm); (case k3 => k_asm); (case k4 => k_asm); (case k5 => k_asm); (case kK => first | exact rfl | assumption); (case kd => first | exact room_in (by assumption) (by exact rfl) | exact room_0 (by assumption) (by exact rfl) | ktr_room); (case ku => first | exact unit_3 (by assumption) (by exact rfl) | exact unit_4 (by assumption) (by exact rfl) | exact room_0 (by assumption) (by exact rfl) | ktr_units); (case p2 => k_mem); (case p1 => first | (with_reducible assumption) | k_updF); (case p3 => first | assumption | (intro o9; (try dsimp only); k_mem)); (case p4 => first | omega | (exact skipK_nn (by omega)) | (exact digK_nn (skipK_nn (by omega)) (by omega)) | (exact skipK_nn (digK_nn (skipK_nn (by omega)) (by omega))) | (exact digK_nn (skipK_nn (digK_nn (skipK_nn (by omega)) (by omega))) (by omega)) | (have h9 := digK_nn (x := _) (skipK_nn (y := _) (by omega)) (by omega); omega)); (case p5 => omega); (case p6 => with_reducible assumption)); intro t1 t2 t3 t4 tv h9 tk9 F9 N9; (try dsimp only at N9); (try dsimp only); (try k_sweep); (try k_fold))
  k_with "call ref" => (k_here; (with_reducible show wpAny _ _ (call (Value.ref 179) _) _ _ _); k_dflt (refine' c_expV ?k1 ?k2 ?k3 ?k4 ?k5 ?kK ?kd ?ku ?p1 ?p2 ?p3 ?p4 ?p5 ?p6 ?p7 ?_; (case k1 => k_asm); (case k2 => k_asm); (case k3 => k_asm); (case k4 => k_asm); (case k5 => k_asm); (case kK => first | exact rfl | assumption); (case kd => first | exact room_in (by assumption) (by exact rfl) | exact room_0 (by assumption) (by exact rfl) | ktr_room); (case ku => first | exact unit_3 (by assumption) (by exact rfl) | exact unit_4 (by assumption) (by exact rfl) | exact room_0 (by assumption) (by exact rfl) | ktr_units); (case p2 => k_mem); (case p1 => first | (with_reducible assumption) | k_updF); (case p3 => first | assumption | (intro o9; (try dsimp only); k_mem)); (case p4 => first | omega | (exact skipK_nn (by omega)) | (exact digK_nn (skipK_nn (by omega)) (by omega)) | (exact skipK_nn (digK_nn (skipK_nn (by omega)) (by omega))) | (exact digK_nn (skipK_nn (digK_nn (skipK_nn (by omega)) (by omega))) (by omega)) | (have h9 := digK_nn (x := _) (skipK_nn (y := _) (by omega)) (by omega); omega)); (case p5 => omega); (case p6 => with_reducible assumption); (case p7 => with_reducible assumption)); intro t1 t2 t3 t4 tv h9 tk9 F9 N9; (try dsimp only at N9); (try dsimp only); (try k_sweep); (try k_fold))
  k_with "call ref" => (k_here; (with_reducible show wpAny _ _ (call (Value.ref 172) _) _ _ _); k_dflt (refine' c_whole ?k1 ?k2 ?k3 ?k4 ?k5 ?kK ?kd ?ku ?p1 ?p2 ?_; (case k1 => k_asm); (case k2 => k_asm); (case k3 => k_asm); (case k4 => k_asm); (case k5 => k_asm); (case kK => first | exact rfl | assumption); (case kd => first | exact room_in (by assumption) (by exact rfl) | exact room_0 (by assumption) (by exact rfl) | ktr_room); (case ku => first | exact unit_3 (by assumption) (by exact rfl) | exact unit_4 (by assumption) (by exact rfl) | exact room_0 (by assumption) (by exact rfl) | ktr_units); (case p1 => first | omega | assumption | decide +kernel); (case p2 => with_reducible assumption)); intro t9 h9 tk9 F9 N9; (try dsimp only); (try k_sweep); (try k_fold))
  k_with "call ref" => (k_here; (with_reducible show wpAny _ _ (call (Value.ref 81) _) _ _ _); k_dflt (refine' c_frac ?k1 ?k2 ?k3 ?k4 ?k5 ?kK ?kd ?ku ?p1 ?p2 ?_; (case k1 => k_asm); (case k2 => k_asm); (case k3 => k_asm); (case k4 => k_asm); (case k5 => k_asm); (case kK => first | exact rfl | assumption); (case kd => first | exact room_in (by assumption) (by exact rfl) | exact room_0 (by assumption) (by exact rfl) | ktr_room); (case ku => first | exact unit_3 (by assumption) (by exact rfl) | exact unit_4 (by assumption) (by exact rfl) | exact room_0 (by assumption) (by exact rfl) | ktr_units); (case p1 => first | assumption | decide); (case p2 => first | assumption | decide)); intro D9 t9 t8 c9 h9 tk9 F9 N9 l9; (try replace l9 := allLt_hd l9); (try dsimp only); (try k_sweep); (try k_fold))
  trivial
theorem dec_a {v n : Int} {b c : Bool} (hb : b = c) (hn : (if b then -v else v) = n) (h : (if c then -v else v) = n → True) : (if c then -v else v) = n := hb ▸ hn
theorem dec_neg {v n : Int} {b : Bool} (hb : b = true) (hn : (if b then -v else v) = n) : -v = n := by subst hb; simpa using hn
theorem dec_pos {v n : Int} {b : Bool} (hb : b = false) (hn : (if b then -v else v) = n) : v = n := by subst hb; simpa using hn
theorem ten0 (v : Int) : v * 10 ^ ((0 : Int) - ((0 : Nat) : Int)).toNat = v := by simp
theorem tenN {v n y : Int} (h : v = 10 * n) (hy : y = 10) : (Rat.divInt v y).num = n := by
  subst h; subst hy
  have e : Rat.divInt (10 * n) 10 = (n : Rat) := by
    have := Rat.divInt_mul_left (n := n) (d := 1) (show (10 : Int) ≠ 0 by decide)
    rw [Int.mul_one] at this
    rw [this]
    rw [Rat.divInt_eq_div]
    rw [show ((1 : Int) : Rat) = 1 from rfl, Rat.div_def]
    rw [show (1 : Rat)⁻¹ = 1 by decide +kernel, Rat.mul_one]
  rw [e]; rfl
theorem tenD {v n y : Int} (h : v = 10 * n) (hy : y = 10) : ((Rat.divInt v y).den : Int) = 1 := by
  subst h; subst hy
  have e : Rat.divInt (10 * n) 10 = (n : Rat) := by
    have := Rat.divInt_mul_left (n := n) (d := 1) (show (10 : Int) ≠ 0 by decide)
    rw [Int.mul_one] at this
    rw [this]
    rw [Rat.divInt_eq_div]
    rw [show ((1 : Int) : Rat) = 1 from rfl, Rat.div_def]
    rw [show (1 : Rat)⁻¹ = 1 by decide +kernel, Rat.mul_one]
  rw [e]; rfl
section
variable {w : World} {mean : ExcName → Option Value} {mg mb : Str → Option Value} {dp un : Nat} {gd : Option (List Code)} {cn : Str} {cs : Scope} {a : Addr} {ccd : Value} {cl : List (Str × Addr)} {outer : List Env} {A₀ : Around} {base h₀ : Heap} {L : Addr} {m : Str → Option Value} {news : List (Addr × Obj)} {s : Shared} {Q E : Value → Shared → Prop}
theorem c_dec1 {x wh : Str} {n : Int} {tx : Tok} (B : Below A₀ base outer h₀) (F : Fr h₀ L s.heap m) (X : Frag.In (hd.heap_39 w.params) h₀) (N : News h₀ L s.heap news) (T : Top hd.view_39 LO mean mg mb h₀) (hk : cs.kind = .function) (hdp : dp + 5 < recursionLimit) (hun : un + 40 < cLine)
   (hx : x.length ≤ 16) (hwh : digV x (skipK x 0 (Str.ofString "+-")) = wh) (hwl : wh.length ≤ 16)
   (h1 : isone x (digK x (skipK x 0 (Str.ofString "+-"))) (Str.ofString ".") = false) (h2 : isone x (digK x (skipK x 0 (Str.ofString "+-"))) (Str.ofString "eE") = false) (h3 : ¬ digK x (skipK x 0 (Str.ofString "+-")) < x.length)
   (h4 : allDig (wh ++ Str.ofString "") = true) (h5 : (wh ++ Str.ofString "" == Str.ofString "") = false)
   (hn : (if skipV x 0 (Str.ofString "+-") == Str.ofString "-" then -wholeF (wh ++ Str.ofString "") else wholeF (wh ++ Str.ofString "")) = n)
   (hret : ∀ D t1 t2 c h' tk', Fr h₀ L h' m → News h₀ L h' ((D, tupO #[.int n t1, .int 1 t2] c) :: news) → AllLt D news → Q (.ref D) { s with heap := h', toks := tk' }) :
   wpAny (model PySem.Challenge.rw_nu0023_01.row.toRowW.prog w) (ktrTop dp un gd cn cs L a ccd cl outer) (call (.ref 186) [.str x tx]) Q E s := by
  have hl0 : (Str.ofString "").length = 0 := rfl
  have hl1 : (Str.ofString "0").length = 1 := rfl
  have hk1 : 0 ≤ skipK x 0 (Str.ofString "+-") := skipK_nn (by omega)
  have hk2 : 0 ≤ digK x (skipK x 0 (Str.ofString "+-")) := digK_nn hk1 (by omega)
  have hk3 : 0 ≤ digK x (digK x (skipK x 0 (Str.ofString "+-")) + 1) := digK_nn (by omega) (by omega)
  revert X; k_fill; intro X
  refine wpAny_call ?_
  k_dflt (refine' code_def ?k1 ?k2 ?k3 ?k4 ?k5 ?kA ?kF ?kK ?k6 ?k7 ?k8 ?k9 ?kB ?_ ?c2 ?c3 ?c4 ?c5; (case kA => exact rfl); (case kF => exact rfl); (case kK => assumption); (case k1 => k_asm); (case k2 => k_asm); (case k3 => k_asm); (case k4 => k_asm); (case k5 => k_asm); (case k6 => k_is); (case k7 => k_is); (case k8 => first | exact room_e (by assumption) | exact room_in (by assumption) (by exact rfl) | ktr_room); (case k9 => first | exact BindsTo.of_eq rfl | exact binds_K (by k_in) rfl (by k_is) rfl rfl rfl); (case c5 => decide); (case kB => exact locs rfl); (case c2 => exact rfl); (case c3 => exact rfl); (case c4 => exact rfl); k_whole; intro g' L' h' FG' F' N' B' X' T'; (try dsimp only); (try k_lift B'); (try k_fold))
  k_steps
  · refine ret_pair hret ?_ ?_ (by assumption) (by assumption) (by k_mem) (by intro p hp; (repeat (first | (with_reducible exact hp) | refine List.mem_cons_of_mem _ ?_))) (by first | assumption | exact allLt_of (by assumption) | exact alt1 (by assumption) | exact alt2 (by assumption) | exact alt3 (by assumption) | exact alt4 (by assumption) | exact alt5 (by assumption) | exact allLt_lt (by assumption) (by omega))
    · rw [ten0]; exact dec_neg (by assumption) hn
    · rfl
  · refine ret_pair hret ?_ ?_ (by assumption) (by assumption) (by k_mem) (by intro p hp; (repeat (first | (with_reducible exact hp) | refine List.mem_cons_of_mem _ ?_))) (by first | assumption | exact allLt_of (by assumption) | exact alt1 (by assumption) | exact alt2 (by assumption) | exact alt3 (by assumption) | exact alt4 (by assumption) | exact alt5 (by assumption) | exact allLt_lt (by assumption) (by omega))
    · rw [ten0]; exact dec_pos (by assumption) hn
    · rfl
theorem c_dec2 {x wh : Str} {n : Int} {tx : Tok} (B : Below A₀ base outer h₀) (F : Fr h₀ L s.heap m) (X : Frag.In (hd.heap_39 w.params) h₀) (N : News h₀ L s.heap news) (T : Top hd.view_39 LO mean mg mb h₀) (hk : cs.kind = .function) (hdp : dp + 5 < recursionLimit) (hun : un + 40 < cLine)
   (hx : x.length ≤ 16) (hwh : digV x (skipK x 0 (Str.ofString "+-")) = wh) (hwl : wh.length ≤ 16)
   (h1 : isone x (digK x (skipK x 0 (Str.ofString "+-"))) (Str.ofString ".") = true) (hne : (Txt.item x (digK x (skipK x 0 (Str.ofString "+-"))) != Str.ofString "") = true) (hp : digV x (digK x (skipK x 0 (Str.ofString "+-")) + 1) = Str.ofString "0") (h2 : isone x (digK x (digK x (skipK x 0 (Str.ofString "+-")) + 1)) (Str.ofString "eE") = false) (h3 : ¬ digK x (digK x (skipK x 0 (Str.ofString "+-")) + 1) < x.length)
   (h4 : allDig (wh ++ Str.ofString "0") = true) (h5 : (wh ++ Str.ofString "0" == Str.ofString "") = false)
   (hn : (if skipV x 0 (Str.ofString "+-") == Str.ofString "-" then -wholeF (wh ++ Str.ofString "0") else wholeF (wh ++ Str.ofString "0")) = 10 * n)
   (hret : ∀ D t1 t2 c h' tk', Fr h₀ L h' m → News h₀ L h' ((D, tupO #[.int n t1, .int 1 t2] c) :: news) → AllLt D news → Q (.ref D) { s with heap := h', toks := tk' }) :
   wpAny (model PySem.Challenge.rw_nu0023_01.row.toRowW.prog w) (ktrTop dp un gd cn cs L a ccd cl outer) (call (.ref 186) [.str x tx]) Q E s := by
  have hl0 : (Str.ofString "").length = 0 := rfl
  have hl1 : (Str.ofString "0").length = 1 := rfl
  have hk1 : 0 ≤ skipK x 0 (Str.ofString "+-") := skipK_nn (by omega)
  have hk2 : 0 ≤ digK x (skipK x 0 (Str.ofString "+-")) := digK_nn hk1 (by omega)
  have hk3 : 0 ≤ digK x (digK x (skipK x 0 (Str.ofString "+-")) + 1) := digK_nn (by omega) (by omega)
  revert X; k_fill; intro X
  refine wpAny_call ?_
  k_dflt (refine' code_def ?k1 ?k2 ?k3 ?k4 ?k5 ?kA ?kF ?kK ?k6 ?k7 ?k8 ?k9 ?kB ?_ ?c2 ?c3 ?c4 ?c5; (case kA => exact rfl); (case kF => exact rfl); (case kK => assumption); (case k1 => k_asm); (case k2 => k_asm); (case k3 => k_asm); (case k4 => k_asm); (case k5 => k_asm); (case k6 => k_is); (case k7 => k_is); (case k8 => first | exact room_e (by assumption) | exact room_in (by assumption) (by exact rfl) | ktr_room); (case k9 => first | exact BindsTo.of_eq rfl | exact binds_K (by k_in) rfl (by k_is) rfl rfl rfl); (case c5 => decide); (case kB => exact locs rfl); (case c2 => exact rfl); (case c3 => exact rfl); (case c4 => exact rfl); k_whole; intro g' L' h' FG' F' N' B' X' T'; (try dsimp only); (try k_lift B'); (try k_fold))
  k_steps
  · refine ret_pair hret ?_ ?_ (by assumption) (by assumption) (by k_mem) (by intro p hp; (repeat (first | (with_reducible exact hp) | refine List.mem_cons_of_mem _ ?_))) (by first | assumption | exact allLt_of (by assumption) | exact alt1 (by assumption) | exact alt2 (by assumption) | exact alt3 (by assumption) | exact alt4 (by assumption) | exact alt5 (by assumption) | exact allLt_lt (by assumption) (by omega))
    · exact tenN (dec_neg (by assumption) hn) (by decide)
    · exact tenD (dec_neg (by assumption) hn) (by decide)
  · refine ret_pair hret ?_ ?_ (by assumption) (by assumption) (by k_mem) (by intro p hp; (repeat (first | (with_reducible exact hp) | refine List.mem_cons_of_mem _ ?_))) (by first | assumption | exact allLt_of (by assumption) | exact alt1 (by assumption) | exact alt2 (by assumption) | exact alt3 (by assumption) | exact alt4 (by assumption) | exact alt5 (by assumption) | exact allLt_lt (by assumption) (by omega))
    · exact tenN (dec_pos (by assumption) hn) (by decide)
    · exact tenD (dec_pos (by assumption) hn) (by decide)
theorem c_dec3 {x wh : Str} {n : Int} {tx : Tok} (B : Below A₀ base outer h₀) (F : Fr h₀ L s.heap m) (X : Frag.In (hd.heap_39 w.params) h₀) (N : News h₀ L s.heap news) (T : Top hd.view_39 LO mean mg mb h₀) (hk : cs.kind = .function) (hdp : dp + 5 < recursionLimit) (hun : un + 40 < cLine)
   (hx : x.length ≤ 16) (hwh : digV x (skipK x 0 (Str.ofString "+-")) = wh) (hwl : wh.length ≤ 16)
   (h1 : isone x (digK x (skipK x 0 (Str.ofString "+-"))) (Str.ofString ".") = false) (h2 : expOk x (digK x (skipK x 0 (Str.ofString "+-"))) = true) (hev : expV x (digK x (skipK x 0 (Str.ofString "+-"))) = -1) (h3 : ¬ expK x (digK x (skipK x 0 (Str.ofString "+-"))) < x.length)
   (h4 : allDig (wh ++ Str.ofString "") = true) (h5 : (wh ++ Str.ofString "" == Str.ofString "") = false)
   (hn : (if skipV x 0 (Str.ofString "+-") == Str.ofString "-" then -wholeF (wh ++ Str.ofString "") else wholeF (wh ++ Str.ofString "")) = 10 * n)
   (hret : ∀ D t1 t2 c h' tk', Fr h₀ L h' m → News h₀ L h' ((D, tupO #[.int n t1, .int 1 t2] c) :: news) → AllLt D news → Q (.ref D) { s with heap := h', toks := tk' }) :
   wpAny (model PySem.Challenge.rw_nu0023_01.row.toRowW.prog w) (ktrTop dp un gd cn cs L a ccd cl outer) (call (.ref 186) [.str x tx]) Q E s := by
  have hl0 : (Str.ofString "").length = 0 := rfl
  have hl1 : (Str.ofString "0").length = 1 := rfl
  have hk1 : 0 ≤ skipK x 0 (Str.ofString "+-") := skipK_nn (by omega)
  have hk2 : 0 ≤ digK x (skipK x 0 (Str.ofString "+-")) := digK_nn hk1 (by omega)
  have hk3 : 0 ≤ digK x (digK x (skipK x 0 (Str.ofString "+-")) + 1) := digK_nn (by omega) (by omega)
  revert X; k_fill; intro X
  refine wpAny_call ?_
  k_dflt (refine' code_def ?k1 ?k2 ?k3 ?k4 ?k5 ?kA ?kF ?kK ?k6 ?k7 ?k8 ?k9 ?kB ?_ ?c2 ?c3 ?c4 ?c5; (case kA => exact rfl); (case kF => exact rfl); (case kK => assumption); (case k1 => k_asm); (case k2 => k_asm); (case k3 => k_asm); (case k4 => k_asm); (case k5 => k_asm); (case k6 => k_is); (case k7 => k_is); (case k8 => first | exact room_e (by assumption) | exact room_in (by assumption) (by exact rfl) | ktr_room); (case k9 => first | exact BindsTo.of_eq rfl | exact binds_K (by k_in) rfl (by k_is) rfl rfl rfl); (case c5 => decide); (case kB => exact locs rfl); (case c2 => exact rfl); (case c3 => exact rfl); (case c4 => exact rfl); k_whole; intro g' L' h' FG' F' N' B' X' T'; (try dsimp only); (try k_lift B'); (try k_fold))
  k_steps
  · refine ret_pair hret ?_ ?_ (by assumption) (by assumption) (by k_mem) (by intro p hp; (repeat (first | (with_reducible exact hp) | refine List.mem_cons_of_mem _ ?_))) (by first | assumption | exact allLt_of (by assumption) | exact alt1 (by assumption) | exact alt2 (by assumption) | exact alt3 (by assumption) | exact alt4 (by assumption) | exact alt5 (by assumption) | exact allLt_lt (by assumption) (by omega))
    · exact tenN (dec_neg (by assumption) hn) (by decide)
    · exact tenD (dec_neg (by assumption) hn) (by decide)
  · refine ret_pair hret ?_ ?_ (by assumption) (by assumption) (by k_mem) (by intro p hp; (repeat (first | (with_reducible exact hp) | refine List.mem_cons_of_mem _ ?_))) (by first | assumption | exact allLt_of (by assumption) | exact alt1 (by assumption) | exact alt2 (by assumption) | exact alt3 (by assumption) | exact alt4 (by assumption) | exact alt5 (by assumption) | exact allLt_lt (by assumption) (by omega))
    · exact tenN (dec_pos (by assumption) hn) (by decide)
    · exact tenD (dec_pos (by assumption) hn) (by decide)
end
end Mine
namespace Mine
theorem part_end_K20 : True := by
  w_top off
  trivial
end Mine

-- part K21
namespace Mine
noncomputable def chk1 (x : Str) (n : Int) : Bool := decide (x.length ≤ 16) && decide ((digV x (skipK x 0 (Str.ofString "+-"))).length ≤ 16) && !isone x (digK x (skipK x 0 (Str.ofString "+-"))) (Str.ofString ".") && !isone x (digK x (skipK x 0 (Str.ofString "+-"))) (Str.ofString "eE") && !decide (digK x (skipK x 0 (Str.ofString "+-")) < x.length) && allDig (digV x (skipK x 0 (Str.ofString "+-")) ++ Str.ofString "") && !(digV x (skipK x 0 (Str.ofString "+-")) ++ Str.ofString "" == Str.ofString "") && decide ((if skipV x 0 (Str.ofString "+-") == Str.ofString "-" then -wholeF (digV x (skipK x 0 (Str.ofString "+-")) ++ Str.ofString "") else wholeF (digV x (skipK x 0 (Str.ofString "+-")) ++ Str.ofString "")) = n)
noncomputable def chk2 (x : Str) (n : Int) : Bool := decide (x.length ≤ 16) && decide ((digV x (skipK x 0 (Str.ofString "+-"))).length ≤ 16) && isone x (digK x (skipK x 0 (Str.ofString "+-"))) (Str.ofString ".") && (Txt.item x (digK x (skipK x 0 (Str.ofString "+-"))) != Str.ofString "") && decide (digV x (digK x (skipK x 0 (Str.ofString "+-")) + 1) = Str.ofString "0") && !isone x (digK x (digK x (skipK x 0 (Str.ofString "+-")) + 1)) (Str.ofString "eE") && !decide (digK x (digK x (skipK x 0 (Str.ofString "+-")) + 1) < x.length) && allDig (digV x (skipK x 0 (Str.ofString "+-")) ++ Str.ofString "0") && !(digV x (skipK x 0 (Str.ofString "+-")) ++ Str.ofString "0" == Str.ofString "") && decide ((if skipV x 0 (Str.ofString "+-") == Str.ofString "-" then -wholeF (digV x (skipK x 0 (Str.ofString "+-")) ++ Str.ofString "0") else wholeF (digV x (skipK x 0 (Str.ofString "+-")) ++ Str.ofString "0")) = 10 * n)
noncomputable def chk3 (x : Str) (n : Int) : Bool := decide (x.length ≤ 16) && decide ((digV x (skipK x 0 (Str.ofString "+-"))).length ≤ 16) && !isone x (digK x (skipK x 0 (Str.ofString "+-"))) (Str.ofString ".") && expOk x (digK x (skipK x 0 (Str.ofString "+-"))) && decide (expV x (digK x (skipK x 0 (Str.ofString "+-"))) = -1) && !decide (expK x (digK x (skipK x 0 (Str.ofString "+-"))) < x.length) && allDig (digV x (skipK x 0 (Str.ofString "+-")) ++ Str.ofString "") && !(digV x (skipK x 0 (Str.ofString "+-")) ++ Str.ofString "" == Str.ofString "") && decide ((if skipV x 0 (Str.ofString "+-") == Str.ofString "-" then -wholeF (digV x (skipK x 0 (Str.ofString "+-")) ++ Str.ofString "") else wholeF (digV x (skipK x 0 (Str.ofString "+-")) ++ Str.ofString "")) = 10 * n)
noncomputable def form1 (n : Int) : Str := Str.ofString (toString n)
noncomputable def form2 (n : Int) : Str := Str.ofString (toString n) ++ Str.ofString ".0"
noncomputable def form3 (n : Int) : Str := Str.ofString (toString (10 * n)) ++ Str.ofString "e-1"
noncomputable def IsNum (x : Str) (n : Int) : Prop := x = form1 n ∨ x = form2 n ∨ x = form3 n
theorem chk_all : ((List.range 11).all fun i => chk1 (form1 ((i : Int) - 4)) ((i : Int) - 4) && chk2 (form2 ((i : Int) - 4)) ((i : Int) - 4) && chk3 (form3 ((i : Int) - 4)) ((i : Int) - 4)) = true := by decide +kernel
theorem chk_one {n : Int} (h1 : -4 ≤ n) (h2 : n ≤ 6) : chk1 (form1 n) n = true ∧ chk2 (form2 n) n = true ∧ chk3 (form3 n) n = true := by
  have h := List.all_eq_true.mp chk_all (n + 4).toNat (List.mem_range.mpr (by omega))
  have e : (((n + 4).toNat : Nat) : Int) - 4 = n := by omega
  rw [e] at h
  simp only [Bool.and_eq_true] at h
  exact ⟨h.1.1, h.1.2, h.2⟩
section
variable {w : World} {mean : ExcName → Option Value} {mg mb : Str → Option Value} {dp un : Nat} {gd : Option (List Code)} {cn : Str} {cs : Scope} {a : Addr} {ccd : Value} {cl : List (Str × Addr)} {outer : List Env} {A₀ : Around} {base h₀ : Heap} {L : Addr} {m : Str → Option Value} {news : List (Addr × Obj)} {s : Shared} {Q E : Value → Shared → Prop}
theorem c_dec {x : Str} {n : Int} {tx : Tok} (B : Below A₀ base outer h₀) (F : Fr h₀ L s.heap m) (X : Frag.In (hd.heap_39 w.params) h₀) (N : News h₀ L s.heap news) (T : Top hd.view_39 LO mean mg mb h₀) (hk : cs.kind = .function) (hdp : dp + 5 < recursionLimit) (hun : un + 40 < cLine) (hx : IsNum x n) (h1 : -4 ≤ n) (h2 : n ≤ 6)
   (hret : ∀ D t1 t2 c h' tk', Fr h₀ L h' m → News h₀ L h' ((D, tupO #[.int n t1, .int 1 t2] c) :: news) → AllLt D news → Q (.ref D) { s with heap := h', toks := tk' }) :
   wpAny (model PySem.Challenge.rw_nu0023_01.row.toRowW.prog w) (ktrTop dp un gd cn cs L a ccd cl outer) (call (.ref 186) [.str x tx]) Q E s := by
  obtain ⟨q1, q2, q3⟩ := chk_one h1 h2
  rcases hx with rfl | rfl | rfl
  · unfold chk1 at q1
    simp only [Bool.and_eq_true, decide_eq_true_eq, Bool.not_eq_true', decide_eq_false_iff_not] at q1
    obtain ⟨⟨⟨⟨⟨⟨⟨a1, a2⟩, a3⟩, a4⟩, a5⟩, a6⟩, a7⟩, a8⟩ := q1
    exact c_dec1 B F X N T hk hdp hun a1 rfl a2 a3 a4 a5 a6 a7 a8 hret
  · unfold chk2 at q2
    simp only [Bool.and_eq_true, decide_eq_true_eq, Bool.not_eq_true', decide_eq_false_iff_not] at q2
    obtain ⟨⟨⟨⟨⟨⟨⟨⟨⟨a1, a2⟩, a3⟩, a4⟩, a5⟩, a6⟩, a7⟩, a8⟩, a9⟩, a10⟩ := q2
    exact c_dec2 B F X N T hk hdp hun a1 rfl a2 a3 a4 a5 a6 a7 a8 a9 a10 hret
  · unfold chk3 at q3
    simp only [Bool.and_eq_true, decide_eq_true_eq, Bool.not_eq_true', decide_eq_false_iff_not] at q3
    obtain ⟨⟨⟨⟨⟨⟨⟨⟨a1, a2⟩, a3⟩, a4⟩, a5⟩, a6⟩, a7⟩, a8⟩, a9⟩ := q3
    exact c_dec3 B F X N T hk hdp hun a1 rfl a2 a3 a4 a5 a6 a7 a8 a9 hret
end
end Mine
namespace Mine
theorem part_end_K21 : True := by
  w_top off
  trivial
end Mine

-- part K24
namespace Mine
/-- the good places -/
noncomputable def goodP : List Str := [Str.ofString "none", Str.ofString "xMinYMin", Str.ofString "xMinYMid", Str.ofString "xMinYMax", Str.ofString "xMidYMin", Str.ofString "xMidYMid", Str.ofString "xMidYMax", Str.ofString "xMaxYMin", Str.ofString "xMaxYMid", Str.ofString "xMaxYMax"]
noncomputable def badP : List Str := [Str.ofString "xMid", Str.ofString "xMidyMid", Str.ofString "YMinxMin"]
section
variable {w : World} {mean : ExcName → Option Value} {mg mb : Str → Option Value} {dp un : Nat} {gd : Option (List Code)} {cn : Str} {cs : Scope} {a : Addr} {ccd : Value} {cl : List (Str × Addr)} {outer : List Env} {A₀ : Around} {base h₀ : Heap} {L : Addr} {m : Str → Option Value} {news : List (Addr × Obj)} {s : Shared} {Q E : Value → Shared → Prop}
theorem ret_b {b bb : Bool} (hret : ∀ h' tk', Fr h₀ L h' m → News h₀ L h' news → Q (.bool b) { s with heap := h', toks := tk' }) {h' : Heap} {tk' : Nat} {all : List (Addr × Obj)} (e : bb = b) (F : Fr h₀ L h' m) (N : News h₀ L h' all) (sub : ∀ p ∈ news, p ∈ all) : Q (.bool bb) { s with heap := h', toks := tk' } := by
  rw [e]; exact hret h' tk' F fun p hp => N p (sub p hp)
noncomputable def okAl (al : Str) : Bool := (al == Str.ofString "none") || ((Txt.slice al none (some 1) == Str.ofString "x") && (([Str.ofString "Min", Str.ofString "Mid", Str.ofString "Max"].any fun x => x == Txt.slice al (some 1) (some 4)) && ((Txt.slice al (some 4) (some 5) == Str.ofString "Y") && ([Str.ofString "Min", Str.ofString "Mid", Str.ofString "Max"].any fun x => x == Txt.slice al (some 5) none))))
theorem ok_good : ∀ al ∈ goodP, okAl al = true := by decide +kernel
theorem ok_bad : ∀ al ∈ badP, okAl al = false := by decide +kernel
theorem c_alG {al : Str} {tx : Tok} (B : Below A₀ base outer h₀) (F : Fr h₀ L s.heap m) (X : Frag.In (hd.heap_39 w.params) h₀) (N : News h₀ L s.heap news) (T : Top hd.view_39 LO mean mg mb h₀) (hk : cs.kind = .function) (hdp : dp + 1 < recursionLimit) (hun : un + 8 < cLine) (hlen : al.length ≤ 16)
   (hret : ∀ h' tk', Fr h₀ L h' m → News h₀ L h' news → Q (.bool (okAl al)) { s with heap := h', toks := tk' }) :
   wpAny (model PySem.Challenge.rw_nu0023_01.row.toRowW.prog w) (ktrTop dp un gd cn cs L a ccd cl outer) (call (.ref 271) [.str al tx]) Q E s := by
  revert X; k_fill; intro X
  k_with_none
  refine wpAny_call ?_
  k_dflt (refine' code_def ?k1 ?k2 ?k3 ?k4 ?k5 ?kA ?kF ?kK ?k6 ?k7 ?k8 ?k9 ?kB ?_ ?c2 ?c3 ?c4 ?c5; (case kA => exact rfl); (case kF => exact rfl); (case kK => assumption); (case k1 => k_asm); (case k2 => k_asm); (case k3 => k_asm); (case k4 => k_asm); (case k5 => k_asm); (case k6 => k_is); (case k7 => k_is); (case k8 => first | exact room_e (by assumption) | exact room_in (by assumption) (by exact rfl) | ktr_room); (case k9 => first | exact BindsTo.of_eq rfl | exact binds_K (by k_in) rfl (by k_is) rfl rfl rfl); (case c5 => decide); (case kB => exact locs rfl); (case c2 => exact rfl); (case c3 => exact rfl); (case c4 => exact rfl); k_whole; intro g' L' h' FG' F' N' B' X' T'; (try dsimp only); (try k_lift B'); (try k_fold))
  k_steps
  all_goals exact ret_b hret (by unfold okAl; simp only [*, Bool.true_or, Bool.false_or, Bool.true_and, Bool.false_and, Bool.and_true, Bool.and_false]) (by assumption) (by assumption) (by intro p hp; (repeat (first | (with_reducible exact hp) | refine List.mem_cons_of_mem _ ?_)))
end
end Mine
namespace Mine
theorem part_end_K24 : True := by
  w_top off
  trivial
end Mine

-- part E1
namespace Mine
/-- the line of a class of the program that stands under `Exception` -/
noncomputable def excLine : List Value → Bool
  | .ref _ :: r => excLine r
  | l => l == [.type "Exception", .type "BaseException", .type "object"]
theorem line_pass (self : Value) : ∀ {l : List Value}, excLine l = true → refuseLoop self "__setattr__" l = pure ()
  | .ref c :: r, e => by rw [refuseLoop_ref]; exact line_pass self (l := r) e
  | [], e => by cases e
  | .type a :: r, e => by rw [eq_of_beq (show (_ == _) = true from e)]; exact PySem.F.store_Exception.passes self
  | .none :: r, e => by rw [eq_of_beq (show (_ == _) = true from e)]; exact PySem.F.store_Exception.passes self
  | .bool _ :: r, e => by rw [eq_of_beq (show (_ == _) = true from e)]; exact PySem.F.store_Exception.passes self
  | .int _ _ :: r, e => by rw [eq_of_beq (show (_ == _) = true from e)]; exact PySem.F.store_Exception.passes self
  | .str _ _ :: r, e => by rw [eq_of_beq (show (_ == _) = true from e)]; exact PySem.F.store_Exception.passes self
  | .builtin _ :: r, e => by rw [eq_of_beq (show (_ == _) = true from e)]; exact PySem.F.store_Exception.passes self
  | v :: r, e => by
    cases v <;> first | (rw [refuseLoop_ref]; exact line_pass self (l := r) e) | (rw [eq_of_beq (show (_ == _) = true from e)]; exact PySem.F.store_Exception.passes self)
theorem line_has : ∀ {l : List Value}, excLine l = true → l.contains (.type "object") = true ∧ l.contains (.type "BaseException") = true ∧ l.contains (.type "Exception") = true ∧ l.contains (.type "AttributeError") = false ∧ l.contains (.type "NameError") = false
  | [], e => by cases e
  | v :: r, e => by
    by_cases q : ∃ a, v = .ref a
    · obtain ⟨a, rfl⟩ := q
      have h := line_has (l := r) e
      simp only [List.contains_cons, h]
      refine ⟨by simp, by simp, by simp, rfl, rfl⟩
    · have e' : ((v :: r) == [.type "Exception", .type "BaseException", .type "object"]) = true := by
        cases v <;> first | exact e | exact absurd ⟨_, rfl⟩ q
      rw [eq_of_beq e']
      exact ⟨rfl, rfl, rfl, rfl, rfl⟩

section
variable {prog : Program} {w : World} {A : Around} {E : Value → Shared → Prop} {s : Shared} {K : Frag} {x C L : Addr} {h₀ : Heap} {m : Str → Option Value} {pre post : List (Addr × Obj)} {name : Str} {v : Value} {R : Result → Shared → Prop} {cd : ClassData} {vs : Array Value} {sl : Array (Option Value)}

/-- the first attribute that is stored on an exception object of a class of the program -/
theorem store_exc {tk : Tok} (F : Fr h₀ L s.heap m) (N : News h₀ L s.heap (pre ++ (x, ⟨.ref C, none, .fields vs, sl⟩) :: post)) (X : K.In s.heap)
    (hc : clsIn K C = some cd) (hl : excLine cd.mro = true) (hd : cd.hasDict = true) (ht : findIn K (.ref C) name = some none) (h1 : ∀ p ∈ pre, p.1 ≠ x) (h2 : ∀ p ∈ post, p.1 ≠ x)
    (h : ∀ h' dx tk', Fr h₀ L h' m → News h₀ L h' (pre ++ (x, ⟨.ref C, some dx, .fields vs, sl⟩) :: post) → R (.ok (.ret .none)) { s with heap := h', toks := tk' }) :
    codeAny (model prog w) A (.call (.builtin "object.__setattr__") ⟨[.ref x, .str name tk, v], []⟩) R s := by
  have SF := PySem.F.store_object
  have hx := (N (x, ⟨.ref C, none, .fields vs, sl⟩) (by simp)).1
  have I : InstAt s.heap x ⟨.ref C, none, .fields vs, sl⟩ C none := ⟨hx, rfl, rfl, trivial⟩
  have ne : cd.mro.isEmpty = false := by cases q : cd.mro with | nil => rw [q] at hl; cases hl | cons _ _ => rfl
  have sub : Looks (model prog w) s.heap (isInstance (.ref x) (.type "object")) true := I.type.andThen (looks_mroIn X (by unfold mroIn; rw [hc, Option.bind_some, if_neg (by rw [ne]; decide), (line_has hl).1]))
  refine codeAny_call_builtin SF.slot.plain SF.entry (@check_slot (model prog w) _ _ s "object.__setattr__" "object" "__setattr__" (.ref x) [.str name tk, v] [] _ SF.kind SF.split sub (SF.args (.ref x) (.str name tk) v) ?_)
  have hm : Looks (model prog w) s.heap (mroOf (.ref C)) cd.mro := (looks_clsIn X hc).andThen .now
  rw [osa_eq, refuse_eq]
  refine wpAny_bind (wpAny_bind (I.type.here (wpAny_bind (hm.here ?_))))
  rw [line_pass _ hl]
  refine wpAny_pure (wpAny_bind (I.type.here (wpAny_bind ((looks_findIn X ht).here (wpAny_bind (wpAny_pure ?_))))))
  refine wpAny_bind (wpAny_pure (wpAny_bind (wpAny_bind (wpAny_loadPart hx (wpAny_bind ((looks_clsIn X hc).here ?_))))))
  rw [hd]
  obtain ⟨hp, gg, dd, tk0, os⟩ := s
  dsimp only at hx F N X ⊢
  have hxs : x ≠ hp.objs.size := Nat.ne_of_lt (Heap.lt_size hx)
  have F₁ := F.push { cls := .type "dict", data := .dict #[] }
  have N₁ := News.push F N { cls := .type "dict", data := .dict #[] }
  have N₁' : News h₀ L (hp.push { cls := .type "dict", data := .dict #[] }) (pre ++ (x, ⟨.ref C, none, .fields vs, sl⟩) :: post) := fun p q => N₁ p (.tail _ q)
  obtain ⟨F₂, N₂⟩ := news_upd (f := fun o => { cls := o.cls, dict := some hp.objs.size, data := o.data, slots := o.slots }) F₁ N₁' h1 h2 (o' := ⟨.ref C, some hp.objs.size, .fields vs, sl⟩) rfl rfl
  have hx₁ := (N₁' (x, ⟨.ref C, none, .fields vs, sl⟩) (by simp)).1
  have hgd : ((hp.push { cls := .type "dict", data := .dict #[] }).update x fun o => { cls := o.cls, dict := some hp.objs.size, data := o.data, slots := o.slots }).get? hp.objs.size
      = some { cls := .type "dict", data := .dict #[] } := (Heap.get?_update_ne _ _ _ _ hxs.symm).trans (Heap.get?_push_at rfl rfl)
  have hnd : ((hp.push { cls := .type "dict", data := .dict #[] }).update x fun o => { cls := o.cls, dict := some hp.objs.size, data := o.data, slots := o.slots }).Ns hp.objs.size (fun _ => none) :=
    ⟨_, #[], _, hgd, rfl, fun e he => absurd he (by simp), fun _ => rfl⟩
  refine wpAny_bind (wpAny_alloc' (wpAny_bind (wpAny_update' hx₁ (wpAny_bind (wpAny_pure ?_)))))
  refine wpAny_pure ?_
  show wpAny _ _ (Builtin.ObjectAttr.storeInDict hp.objs.size (.str name tk) name v) _ _ _
  unfold Builtin.ObjectAttr.storeInDict Builtin.ObjectAttr.newKeyGuard
  refine wpAny_bind (wpAny_pure (wpAny_bind (wpAny_nsSet1 (Heap.Ns1.of_empty hnd) fun h' hn' hs => ?_)))
  obtain ⟨oD, esD, epD, hoD, hdD, hcD⟩ := hn'.count (Within.cons name v Within.nil)
  refine wpAny_bind (wpAny_lookBehind hoD (by rw [hdD]; exact pastItsLine_dict (Nat.le_trans hcD (by rw [List.length_cons, List.length_nil, sizeLine_eq]; omega))) ?_)
  refine wpAny_pure (h h' hp.objs.size _ ⟨?_, ?_, ?_⟩ ?_)
  · have hne : L ≠ hp.objs.size := Nat.ne_of_lt (by obtain ⟨oL, _, _, hL, _⟩ := F.ns; exact Heap.lt_size hL)
    exact F₂.ns.sameBut hs hne
  · intro b o e
    have hne : b ≠ hp.objs.size := Nat.ne_of_lt (Heap.lt_size (F.keep b o e))
    exact (hs.2 b hne).trans (F₂.keep b o e)
  · exact F.above
  · intro p q
    have P := N₂ p q
    have hne : p.1 ≠ hp.objs.size := by
      rcases List.mem_append.mp q with q | q
      · exact Nat.ne_of_lt (Heap.lt_size (N p (List.mem_append_left _ q)).1)
      · rcases List.mem_cons.mp q with rfl | q
        · exact hxs
        · exact Nat.ne_of_lt (Heap.lt_size (N p (List.mem_append_right _ (.tail _ q))).1)
    exact ⟨(hs.2 p.1 hne).trans P.1, P.2⟩

theorem set_exc {Q : Unit → Shared → Prop} (F : Fr h₀ L s.heap m) (N : News h₀ L s.heap (pre ++ (x, ⟨.ref C, none, .fields vs, sl⟩) :: post)) (X₀ : K.In h₀)
    (hc : clsIn K C = some cd) (hl : excLine cd.mro = true) (hd : cd.hasDict = true) (hs : findIn K (.ref C) "__setattr__" = some (some (.builtin "object.__setattr__"))) (ht : findIn K (.ref C) name = some none) (h1 : ∀ p ∈ pre, p.1 ≠ x) (h2 : ∀ p ∈ post, p.1 ≠ x)
    (h : ∀ h' dx tk', Fr h₀ L h' m → News h₀ L h' (pre ++ (x, ⟨.ref C, some dx, .fields vs, sl⟩) :: post) → Q () { s with heap := h', toks := tk' }) :
    wpAny (model prog w) A (setAttr (.ref x) name v) Q E s := by
  have X := X₀.keeps F.keep
  have I : InstAt s.heap x ⟨.ref C, none, .fields vs, sl⟩ C none := ⟨(N (x, ⟨.ref C, none, .fields vs, sl⟩) (by simp)).1, rfl, rfl, trivial⟩
  exact set_plain X I hs (store_exc (s := { s with toks := s.toks + 1 }) F N X hc hl hd ht h1 h2 fun h' dx tk' F' N' => h h' dx tk' F' N')
end

section
variable {prog : Program} {w : World} {A : Around} {E : Value → Shared → Prop} {h : Heap} {g : Array GenState} {d : Drawn} {t : Nat} {os : OsState} {K : Frag}
variable {nm q : Str} {C N : Addr} {bs bm : List Value} {hdct : Bool} {sn : List Str} {sub : List Value} {ab : Bool} {col : Option Bool} {dd : Option Addr} {k0 k1 k2 k3 k5 : Option Value}

/-- an exception object of a class of the program whose `__init__` is a function of the program -/
theorem make_exc {rest : List Value} {fI : Addr} {Q : Fin → Shared → Prop} (X : K.In h) (hl : excLine bm = true)
    (hC : h.get? C = some (excClassObj nm q C N bs bm hdct sn sub ab col dd k0 k1 k2 k3 k5 "Exception.__new__"))
    (hi : findIn K (.ref C) "__init__" = some (some (.ref fI))) (hf : typeIn K (.ref fI) = some (.type "function"))
    (hq : ∀ h' e, Heap.MadeExcOf h h' e (.ref C) rest →
      wpAny (model prog w) A (call (.ref fI) (.ref e :: rest)) (fun r s' => r = .none ∧ Q (.done (.ret (.ref e))) s') E ⟨h', g, d, t, os⟩) (hrest : rest.length ≤ sizeLine := by size_fits) :
    wpAny (model prog w) A (Builtin.«type.__call__» ⟨.ref C :: rest, []⟩) Q E ⟨h, g, d, t, os⟩ := by
  have F := PySem.F.excBase_Exception
  obtain ⟨_, b2, b3, b4, b5⟩ := line_has hl
  have cE : (Value.ref C :: bm).contains (.type "Exception") = true := by rw [List.contains_cons, b3, Bool.or_true]
  have cA : (Value.ref C :: bm).contains (.type "AttributeError") = false := by rw [List.contains_cons, b4]; rfl
  have cN : (Value.ref C :: bm).contains (.type "NameError") = false := by rw [List.contains_cons, b5]; rfl
  have cC : (Value.ref C :: bm).contains (.ref C) = true := by simp
  have fend := F.ends
  have fstar := F.noStar
  repeat (first | with_reducible refine wpAny_loadPart_at hC ?_ | with_reducible refine wpAny_madeBy_exc hC ?_ | wp_step)
  have st1 : ∀ {Q' : Unit → Shared → Prop}, Q' () ⟨h, g, d, t, os⟩ → ∀ {A' : Around} {E' : Value → Shared → Prop}, wpAny (model prog w) A' (checkBuiltinCall "Exception.__new__" ⟨.ref C :: rest, []⟩) Q' E' ⟨h, g, d, t, os⟩ := by
    intro Q' hQ A' E'
    simp only [checkBuiltinCall, F.newKind, F.newSplit, F.newRow]
    repeat (first | refine wpAny_loadPart_at hC ?_ | (refine wpAny_isSubtype_exc hC ?_; rw [cE]) | refine wpAny_staticBase_exc hC ?_ | refine wpAny_madeBy_exc hC ?_ | simp only [bne_self_eq_false, Bool.false_eq_true, if_false] | wp_step)
    exact hQ
  refine codeAny_call_builtin_code (Code.quiet_builtin _ F.quiet) (st1 ?_)
  refine codeAny_builtinAt F.entry ?_
  unfold Builtin.«BaseException.__new__»
  refine PySem.wpAt_bind ?_
  show PySem.wpAt _ _ _ (stack >>= _) _ _ _
  refine PySem.wpAt_bind (PySem.wpAt_stack fun p below => PySem.wpAt_of_wpAny ?_)
  wp_walk
  refine PySem.wpAt_of_wpAny ?_
  rw [F.owner]
  repeat (first | with_reducible refine wpAny_madeHere_exc F.canon hC ?_ | with_reducible refine wpAny_loadPart_at hC ?_ | (with_reducible refine wpAny_isSubtype_exc hC ?_; first | rw [cE] | rw [cA] | rw [cN]) | wp_step)
  have hk : ∀ b o, h.get? b = some o → ((h.push { cls := .type "tuple", data := .seq rest.toArray }).push { cls := .ref C, data := .fields #[.ref h.objs.size, .none, .none, .none, .bool false, .none] }).get? b = some o :=
    fun b o e => Heap.get?_push_of_some _ (Heap.get?_push_of_some _ e)
  have hget : ((h.push { cls := .type "tuple", data := .seq rest.toArray }).push { cls := .ref C, data := .fields #[.ref h.objs.size, .none, .none, .none, .bool false, .none] }).get? (h.objs.size + 1) = some
      { cls := .ref C, data := .fields #[.ref h.objs.size, .none, .none, .none, .bool false, .none] } := by heap_get
  have ht : ((h.push { cls := .type "tuple", data := .seq rest.toArray }).push { cls := .ref C, data := .fields #[.ref h.objs.size, .none, .none, .none, .bool false, .none] }).get? h.objs.size = some
      { cls := .type "tuple", data := .seq rest.toArray } := Heap.get?_push_of_some _ (Heap.get?_push_at rfl rfl)
  have X₂ : K.In ((h.push { cls := .type "tuple", data := .seq rest.toArray }).push { cls := .ref C, data := .fields #[.ref h.objs.size, .none, .none, .none, .bool false, .none] }) := X.keeps hk
  have I : InstAt ((h.push { cls := .type "tuple", data := .seq rest.toArray }).push { cls := .ref C, data := .fields #[.ref h.objs.size, .none, .none, .none, .bool false, .none] }) (h.objs.size + 1)
      { cls := .ref C, data := .fields #[.ref h.objs.size, .none, .none, .none, .bool false, .none] } C none := ⟨hget, rfl, rfl, trivial⟩
  have M' : Heap.MadeExcOf h ((h.push { cls := .type "tuple", data := .seq rest.toArray }).push { cls := .ref C, data := .fields #[.ref h.objs.size, .none, .none, .none, .bool false, .none] }) (h.objs.size + 1) (.ref C) rest :=
    ⟨hk, Heap.get?_none_of_le (Nat.le_succ _), h.objs.size, hget, Heap.get?_none_of_le (Nat.le_refl _), ht⟩
  have sz : (h.push { cls := .type "tuple", data := .seq rest.toArray }).objs.size = h.objs.size + 1 := by simp only [Heap.size_push]
  simp only [sz]
  refine wpAny_isSubtype_exc (hk _ _ hC) ?_
  rw [cC, if_neg (by decide)]
  refine wpAny_bind (wpAny_holding (special_fn (s := ⟨_, g, d, t, os⟩) X₂ I hi hf (wpAny_mono (hq _ _ M') (fun r s' z => ?_) fun _ _ z => z)))
  obtain ⟨rfl, z⟩ := z
  wp_walk
  exact z

theorem call_exc {rest : List Value} {fI : Addr} {Q : Value → Shared → Prop} (X : K.In h) (hl : excLine bm = true)
    (hC : h.get? C = some (excClassObj nm q C N bs bm hdct sn sub ab col dd k0 k1 k2 k3 k5 "Exception.__new__"))
    (hi : findIn K (.ref C) "__init__" = some (some (.ref fI))) (hf : typeIn K (.ref fI) = some (.type "function"))
    (hq : ∀ h' e, Heap.MadeExcOf h h' e (.ref C) rest →
      wpAny (model prog w) (A.under (.builtin "type.__call__" ⟨.ref C :: rest, []⟩)) (call (.ref fI) (.ref e :: rest)) (fun r s' => r = .none ∧ Q (.ref e) s') E ⟨h', g, d, t, os⟩) (hrest : rest.length ≤ sizeLine := by size_fits) :
    wpAny (model prog w) A (call (.ref C) rest) Q E ⟨h, g, d, t, os⟩ := by
  have f1 := tc_lookup
  have f2 := tc_bind (.ref C)
  have hT : (⟨h, g, d, t, os⟩ : Shared).TypeIs (.ref C) "type" := ⟨_, hC, rfl⟩
  refine wpAny_call (codeAny_of_tree ?_)
  show wpAny _ _ (callAny (.ref C) _) _ _ _
  repeat (any_goals (first | assumption | with_reducible refine wpAny_loadPart_at hC ?_ | wp_step))
  refine ⟨rfl, ?_⟩
  exact codeAny_call_builtin_at (Code.quiet_builtin _ (by decide +kernel)) entry_typeCall (wpAny_check_type_call_sub hC (make_exc (hrest := hrest) X hl hC hi hf fun h' e hm => hq h' e hm))
end
end Mine
namespace Mine
theorem part_end_E1 : True := by
  w_top off
  trivial
end Mine

-- part E2
namespace Mine
section
variable {M : Model} {A : Around} {E : Value → Shared → Prop} {s s' : Shared} {base g : Heap} {outer : List Env} {L a e : Addr} {m : Str → Option Value} {name : Str} {scope : Scope} {cd : Value} {Q : Unit → Shared → Prop} {news : List (Addr × Obj)} {C : Addr}

/-- an exception of a class of the program leaves the function that made it -/
theorem leave_exc {oe : Obj} {vs : Array Value} {a0 : Value} (K : Below A base outer g) (F : Fr g L s'.heap m) (N : News g L s'.heap ((e, oe) :: news)) (hne : ∀ q ∈ news, q.1 ≠ e)
    (hc : oe.cls = .ref C) (hd : oe.data = .fields vs) (h1 : vs[1]? = some .none) (h0 : vs[0]? = some a0)
    (hQ : ∀ h', RaisedSN base g outer e (.ref C) news h' → g.UpToSlots h' → Q () { s' with heap := h' }) (hk : scope.kind = .function := by rfl) :
    wpAny M (A.deeper (envOf name scope L a cd)) (leaving (envOf name scope L a cd) (.ref e)) Q E s' := by
  have he := (N (e, oe) (.head _)).1
  have hge : g.get? e = none := (N (e, oe) (.head _)).2.2
  have hbe : base.get? e = none := fresh_of_stays K.stays hge
  have K' := K.push (name := name) (a := a) (cd := cd) F hk
  have inF : ∀ env ∈ (envOf name scope L a cd :: outer), ∀ b, env.frame = some b → b ∈ (envOf name scope L a cd :: outer).filterMap (·.frame) := fun env he b hb => List.mem_filterMap.mpr ⟨env, he, hb⟩
  have inA : ∀ env ∈ (envOf name scope L a cd :: outer), ∀ b, env.frame = some b → b ∈ e :: (envOf name scope L a cd :: outer).filterMap (·.frame) := fun env he b hb => .tail _ (inF env he b hb)
  have st : base.StaysIn (hideAll s'.heap (e :: (envOf name scope L a cd :: outer).filterMap (·.frame))) := fun b o q => hideAll_get _ (K'.stays b o q) fun hm => by
    rcases List.mem_cons.mp hm with z | hm
    · rw [z, hbe] at q; cases q
    · rw [(K'.frames.mem hm).1] at q; cases q
  have sg : ∀ b o, g.get? b = some o → b ∉ outer.filterMap (·.frame) → (hideAll s'.heap (e :: (envOf name scope L a cd :: outer).filterMap (·.frame))).get? b = some o := fun b o q nm => hideAll_get _ (F.keep b o q) fun hm => by
    rcases List.mem_cons.mp hm with z | hm
    · rw [z, hge] at q; cases q
    · rcases kts_mem hm with z | z
      · rw [z, kts_self F] at q; cases q
      · exact nm z
  have hl : ∀ q ∈ news, (hideAll s'.heap (e :: (envOf name scope L a cd :: outer).filterMap (·.frame))).get? q.1 = some q.2 ∧ g.get? q.1 = none ∧ base.get? q.1 = none := fun q hq => by
    have P := N q (.tail _ hq)
    refine ⟨hideAll_get _ P.1 fun hm => ?_, P.2.2, fresh_of_stays K.stays P.2.2⟩
    rcases List.mem_cons.mp hm with z | hm
    · exact hne q hq z
    · obtain ⟨env, he', hf⟩ := List.mem_filterMap.mp hm
      rcases List.mem_cons.mp he' with rfl | he'
      · exact P.2.1 (Option.some.inj hf).symm
      · obtain ⟨o, ho, _⟩ := (K.frames.mem (List.mem_filterMap.mpr ⟨env, he', hf⟩)).2
        rw [P.2.2] at ho; cases ho
  have hen : (hideAll s'.heap (e :: (envOf name scope L a cd :: outer).filterMap (·.frame))).get? e = none := hideAll_none _ (.head _)
  refine wpAny_leaving_firstW (a0 := a0) K'.stack (funFrames_hide K'.frames inA) rfl he (fun b o hb => of_hideAll _ hb) hen hd h1 h0 fun h' hL => ?_
  obtain ⟨k1, ⟨_, _, k2⟩, k3, k4⟩ := hL
  exact hQ h' ⟨_, a0, st, sg, hl, k1, hen, k2, by rw [← hc]; exact k3⟩ ((Heap.UpToSlots.of_keeps F.keep).trans k4)
end
/-- what a raised value of a class of the program must be -/
noncomputable def RaisableX (E : Value → Shared → Prop) (v : Value) (s₁ : Shared) : Prop :=
  ∃ (K : Frag) (C e : Addr) (oe : Obj) (cd : ClassData) (vs : Array Value), v = .ref e ∧ K.In s₁.heap ∧ clsIn K C = some cd ∧ excLine cd.mro = true ∧ typeIn K (.ref C) = some (.type "type") ∧ s₁.heap.get? e = some oe ∧ oe.cls = .ref C ∧
    oe.data = .fields vs ∧ vs[1]? = some .none ∧ E (.ref e) s₁
section
variable {prog : Program} {w : World} {A : Around} {E : Value → Shared → Prop} {s : Shared} {env : Env}
theorem Raise_exc {e₁ : Expr} {pos : Pos} {Q : Flow → Shared → Prop} (hh : A.handled = none)
    (h : wpAny (model prog w) A (eval e₁ env) (RaisableX E) E s) : wpAny (model prog w) A (exec (.Raise (some e₁) none pos) env) Q E s := by
  show wpAny (model prog w) A (do standAt pos; raiseStmt env (some (do let v ← eval e₁ env; standAt pos; pure v)) none) Q E s
  refine wpAny_bind (wpAny_standAt ?_)
  unfold raiseStmt
  dsimp only
  refine wpAny_bind (wpAny_bind (wpAny_mono h (fun v s₁ h₁ => wpAny_bind (wpAny_standAt (wpAny_pure ?_))) fun _ _ x => x))
  obtain ⟨K, C, e, oe, cd, vs, rfl, X, hc, hl, hT, he, hcls, hd, h1, hE⟩ := h₁
  have I : InstAt s₁.heap e oe C (oe.dict.bind fun d => s₁.heap.get? d) ∨ True := .inr trivial
  have notT : ∀ {Q' : Bool → Shared → Prop}, Q' false s₁ → wpAny (model prog w) A (isType (.ref e)) Q' E s₁ := by
    intro Q' hq
    simp only [isType, loadHead]
    refine wpAny_bind (wpAny_loadPart he ?_)
    rw [hd]; exact wpAny_pure hq
  have ty : Looks (model prog w) s₁.heap (typeOf (.ref e)) (.ref C) := hcls ▸ (Looks.ld he).andThen .now
  have ne : cd.mro.isEmpty = false := by cases q : cd.mro with | nil => rw [q] at hl; cases hl | cons _ _ => rfl
  have sub : Looks (model prog w) s₁.heap (isInstance (.ref e) (.type "BaseException")) true := ty.andThen (looks_mroIn X (by unfold mroIn; rw [hc, Option.bind_some, if_neg (by rw [ne]; decide), (line_has hl).2.1]))
  refine wpAny_bind (wpAny_pure ?_)
  dsimp only
  refine wpAny_bind (wpAny_holding ?_)
  unfold excFromValue isExcClass
  refine wpAny_bind (wpAny_bind (notT ?_))
  simp only [Bool.false_eq_true, if_false]
  refine wpAny_pure ?_
  simp only [Bool.false_eq_true, if_false]
  refine wpAny_bind (sub.here ?_)
  simp only [if_true]
  refine wpAny_pure ?_
  refine wpAny_bind (notT ?_)
  simp only [Bool.false_eq_true, if_false]
  unfold raisedInstance
  refine wpAny_bind (wpAny_bind (ty.here (wpAny_bind ((looks_typeIn X hT).here ?_))))
  rw [if_pos (by decide)]
  refine wpAny_pure ?_
  unfold setFlight
  refine wpAny_bind (wpAny_bind (wpAny_field he hd h1 ?_))
  rw [if_neg (by decide)]
  refine wpAny_pure ?_
  exact wpAny_raiseNew_none hh hE
end

end Mine
namespace Mine
theorem part_end_E2 : True := by
  w_top off
  trivial
end Mine

-- part E3
namespace Mine
noncomputable abbrev excO (C t : Addr) (d : Option Addr) : Obj := { cls := .ref C, dict := d, data := .fields #[.ref t, .none, .none, .none, .bool false, .none] }
section
variable {prog : Program} {w : World} {A : Around} {E : Value → Shared → Prop} {s : Shared} {K : Frag} {h₀ : Heap} {L : Addr} {m : Str → Option Value} {news : List (Addr × Obj)}
variable {nm q : Str} {C N₀ : Addr} {bs bm : List Value} {hdct : Bool} {sn : List Str} {sub : List Value} {ab : Bool} {col : Option Bool} {dd : Option Addr} {k0 k1 k2 k3 k5 : Option Value}
theorem call_excK {rest : List Value} {fI : Addr} {Q : Value → Shared → Prop} (F : Fr h₀ L s.heap m) (N : News h₀ L s.heap news) (X₀ : K.In h₀) (hl : excLine bm = true)
    (hC : K.lookup C = some (excClassObj nm q C N₀ bs bm hdct sn sub ab col dd k0 k1 k2 k3 k5 "Exception.__new__"))
    (hi : findIn K (.ref C) "__init__" = some (some (.ref fI))) (hf : typeIn K (.ref fI) = some (.type "function"))
    (hq : ∀ h' e t, Fr h₀ L h' m → News h₀ L h' ((e, excO C t none) :: news) → (∀ p ∈ news, p.1 ≠ e) →
      wpAny (model prog w) (A.under (.builtin "type.__call__" ⟨.ref C :: rest, []⟩)) (call (.ref fI) (.ref e :: rest)) (fun r s' => r = .none ∧ Q (.ref e) s') E { s with heap := h' }) (hrest : rest.length ≤ sizeLine := by size_fits) :
    wpAny (model prog w) A (call (.ref C) rest) Q E s := by
  have X := X₀.keeps F.keep
  obtain ⟨h, g, d, tk, os⟩ := s
  refine call_exc (hrest := hrest) X hl (X _ _ hC) hi hf fun h' e hm => ?_
  obtain ⟨t, he, _, _⟩ := hm.there
  have hL : ∃ o, h.get? L = some o := by obtain ⟨oL, _, _, hL, _⟩ := F.ns; exact ⟨oL, hL⟩
  refine hq h' e t ⟨F.ns.keeps hm.keeps, fun b o k => hm.keeps b o (F.keep b o k), F.above⟩ (fun p hp => ?_) fun p hp z => ?_
  · rcases List.mem_cons.mp hp with rfl | hp
    · refine ⟨he, fun z => ?_, ?_⟩
      · obtain ⟨o, ho⟩ := hL
        have := hm.new
        rw [show e = L from z, ho] at this; cases this
      · cases z : h₀.get? e with
        | none => rfl
        | some o => have := F.keep _ _ z; rw [hm.new] at this; cases this
    · exact ⟨hm.keeps _ _ (N p hp).1, (N p hp).2⟩
  · have := (N p hp).1
    rw [z, hm.new] at this; cases this
end
noncomputable abbrev excC (p : Params) (n : String) (C N₀ d : Addr) (t1 t2 : Tok) : Obj :=
  excClassObj (Str.ofString n) (Str.ofString n) C N₀ [.ref 38] [.ref 38, .type "Exception", .type "BaseException", .type "object"] true [] [] false none none (some (.ref d)) none (some (.str (Str.ofString n) t1)) (some (.str (Str.ofString n) t2)) (some (.bool true)) "Exception.__new__"
theorem look63 (p : Params) : List.lookup 63 (hd.heap_39 p) = some (excC p "SheetFault" 63 62 54 241 249) := by with_unfolding_all rfl
theorem look51 (p : Params) : List.lookup 51 (hd.heap_39 p) = some (excC p "NumberFault" 51 50 42 225 233) := by with_unfolding_all rfl
theorem cls63 (p : Params) : clsIn (hd.heap_39 p) 63 = some { name := Str.ofString "SheetFault", bases := [.ref 38], mro := [.ref 63, .ref 38, .type "Exception", .type "BaseException", .type "object"], ns := 62, qualname := Str.ofString "SheetFault" } := by with_unfolding_all rfl
theorem cls51 (p : Params) : clsIn (hd.heap_39 p) 51 = some { name := Str.ofString "NumberFault", bases := [.ref 38], mro := [.ref 51, .ref 38, .type "Exception", .type "BaseException", .type "object"], ns := 50, qualname := Str.ofString "NumberFault" } := by with_unfolding_all rfl
theorem ini63 (p : Params) : findIn (hd.heap_39 p) (.ref 63) "__init__" = some (some (.ref 35)) := by with_unfolding_all rfl
theorem ini51 (p : Params) : findIn (hd.heap_39 p) (.ref 51) "__init__" = some (some (.ref 35)) := by with_unfolding_all rfl
theorem set63 (p : Params) : findIn (hd.heap_39 p) (.ref 63) "__setattr__" = some (some (.builtin "object.__setattr__")) := by with_unfolding_all rfl
theorem set51 (p : Params) : findIn (hd.heap_39 p) (.ref 51) "__setattr__" = some (some (.builtin "object.__setattr__")) := by with_unfolding_all rfl
theorem msg63 (p : Params) : findIn (hd.heap_39 p) (.ref 63) (Str.ofString "message") = some none := by with_unfolding_all rfl
theorem msg51 (p : Params) : findIn (hd.heap_39 p) (.ref 51) (Str.ofString "message") = some none := by with_unfolding_all rfl
theorem fun35 (p : Params) : typeIn (hd.heap_39 p) (.ref 35) = some (.type "function") := by with_unfolding_all rfl
theorem typ63 (p : Params) : typeIn (hd.heap_39 p) (.ref 63) = some (.type "type") := by with_unfolding_all rfl
theorem typ51 (p : Params) : typeIn (hd.heap_39 p) (.ref 51) = some (.type "type") := by with_unfolding_all rfl
end Mine
namespace Mine
theorem part_end_E3 : True := by
  w_top off
  trivial
end Mine

-- part K26
namespace Mine
theorem words_K26_0 : True := by
  k_with_none
  k_with "setAttr ref" => (k_here; (with_reducible show wpAny _ _ (setAttr (Value.ref _) _ _) _ _ _); (first | (k_dflt (refine set_exc (K := hd.heap_39 _) (C := 63) (pre := []) (by k_asm) (by k_asm) (by k_asm) (cls63 _) rfl rfl (set63 _) (msg63 _) (fun p q => (nomatch q)) (by assumption) ?_)) | (k_dflt (refine set_exc (K := hd.heap_39 _) (C := 51) (pre := []) (by k_asm) (by k_asm) (by k_asm) (cls51 _) rfl rfl (set51 _) (msg51 _) (fun p q => (nomatch q)) (by assumption) ?_))); intro h9 dx9 tk9 F9 N9; (try dsimp only))
  trivial
section
variable {w : World} {mean : ExcName → Option Value} {mg mb : Str → Option Value} {dp un : Nat} {gd : Option (List Code)} {cn : Str} {cs : Scope} {a : Addr} {ccd : Value} {cl : List (Str × Addr)} {outer : List Env} {A₀ : Around} {base h₀ : Heap} {L : Addr} {m : Str → Option Value} {news : List (Addr × Obj)} {s : Shared} {Q E : Value → Shared → Prop}
theorem c_sheet {x : Str} {tx : Tok} (B : Below A₀ base outer h₀) (F : Fr h₀ L s.heap m) (X : Frag.In (hd.heap_39 w.params) h₀) (N : News h₀ L s.heap news) (T : Top hd.view_39 LO mean mg mb h₀) (hk : cs.kind = .function) (hdp : dp + 3 < recursionLimit) (hun : un + 24 < cLine)
   (hret : ∀ e t d h' tk', Fr h₀ L h' m → News h₀ L h' ((e, excO 63 t (some d)) :: news) → (∀ p ∈ news, p.1 ≠ e) → Q (.ref e) { s with heap := h', toks := tk' }) :
   wpAny (model PySem.Challenge.rw_nu0023_01.row.toRowW.prog w) (ktrTop dp un gd cn cs L a ccd cl outer) (call (.ref 63) [.str x tx]) Q E s := by
  refine call_excK F N X (by rfl) (look63 _) (ini63 _) (fun35 _) ?_ (by rw [sizeLine_eq]; exact Nat.le_of_ble_eq_true rfl)
  intro h1 e t1 F1 N1 hne
  clear F N
  revert X; k_fill; intro X
  refine wpAny_call ?_
  k_dflt (refine' code_def ?k1 ?k2 ?k3 ?k4 ?k5 ?kA ?kF ?kK ?k6 ?k7 ?k8 ?k9 ?kB ?_ ?c2 ?c3 ?c4 ?c5; (case kA => exact rfl); (case kF => exact rfl); (case kK => assumption); (case k1 => k_asm); (case k2 => k_asm); (case k3 => k_asm); (case k4 => k_asm); (case k5 => k_asm); (case k6 => k_is); (case k7 => k_is); (case k8 => first | exact room_e (by assumption) | exact room_in (by assumption) (by exact rfl) | ktr_room); (case k9 => first | exact BindsTo.of_eq rfl | exact binds_K (by k_in) rfl (by k_is) rfl rfl rfl); (case c5 => decide); (case kB => exact locs rfl); (case c2 => exact rfl); (case c3 => exact rfl); (case c4 => exact rfl); k_whole; intro g' L' h' FG' F' N' B' X' T'; (try dsimp only); (try k_lift B'); (try k_fold))
  k_steps
  k_dflt exact hret _ _ _ _ _ (by assumption) (by assumption) (by assumption)
end
section
variable {w : World} {mean : ExcName → Option Value} {mg mb : Str → Option Value} {dp un : Nat} {gd : Option (List Code)} {cn : Str} {cs : Scope} {a : Addr} {ccd : Value} {cl : List (Str × Addr)} {outer : List Env} {A₀ : Around} {base h₀ : Heap} {L : Addr} {m : Str → Option Value} {news : List (Addr × Obj)} {s : Shared} {Q E : Value → Shared → Prop}
theorem c_numf {x : Str} {tx : Tok} (B : Below A₀ base outer h₀) (F : Fr h₀ L s.heap m) (X : Frag.In (hd.heap_39 w.params) h₀) (N : News h₀ L s.heap news) (T : Top hd.view_39 LO mean mg mb h₀) (hk : cs.kind = .function) (hdp : dp + 3 < recursionLimit) (hun : un + 24 < cLine)
   (hret : ∀ e t d h' tk', Fr h₀ L h' m → News h₀ L h' ((e, excO 51 t (some d)) :: news) → (∀ p ∈ news, p.1 ≠ e) → Q (.ref e) { s with heap := h', toks := tk' }) :
   wpAny (model PySem.Challenge.rw_nu0023_01.row.toRowW.prog w) (ktrTop dp un gd cn cs L a ccd cl outer) (call (.ref 51) [.str x tx]) Q E s := by
  refine call_excK F N X (by rfl) (look51 _) (ini51 _) (fun35 _) ?_ (by rw [sizeLine_eq]; exact Nat.le_of_ble_eq_true rfl)
  intro h1 e t1 F1 N1 hne
  clear F N
  revert X; k_fill; intro X
  refine wpAny_call ?_
  k_dflt (refine' code_def ?k1 ?k2 ?k3 ?k4 ?k5 ?kA ?kF ?kK ?k6 ?k7 ?k8 ?k9 ?kB ?_ ?c2 ?c3 ?c4 ?c5; (case kA => exact rfl); (case kF => exact rfl); (case kK => assumption); (case k1 => k_asm); (case k2 => k_asm); (case k3 => k_asm); (case k4 => k_asm); (case k5 => k_asm); (case k6 => k_is); (case k7 => k_is); (case k8 => first | exact room_e (by assumption) | exact room_in (by assumption) (by exact rfl) | ktr_room); (case k9 => first | exact BindsTo.of_eq rfl | exact binds_K (by k_in) rfl (by k_is) rfl rfl rfl); (case c5 => decide); (case kB => exact locs rfl); (case c2 => exact rfl); (case c3 => exact rfl); (case c4 => exact rfl); k_whole; intro g' L' h' FG' F' N' B' X' T'; (try dsimp only); (try k_lift B'); (try k_fold))
  k_steps
  k_dflt exact hret _ _ _ _ _ (by assumption) (by assumption) (by assumption)
end
end Mine
namespace Mine
theorem part_end_K26 : True := by
  w_top off
  trivial
end Mine

-- part K22
namespace Mine
noncomputable def Drp (K : List Addr) (l l' : List (Addr × Obj)) : Prop := ∀ p ∈ l', p ∈ l
theorem Drp.tail {K : List Addr} (l : List (Addr × Obj)) : Drp K l l := fun _ h => h
theorem Drp.drop {K : List Addr} {i : Addr} {o : Obj} {l l' : List (Addr × Obj)} (h : i ∈ K) (d : Drp K l l') : Drp K ((i, o) :: l) l' := fun p hp => List.mem_cons_of_mem _ (d p hp)
theorem Drp.keep {K : List Addr} {p : Addr × Obj} {l l' : List (Addr × Obj)} (d : Drp K l l') : Drp K (p :: l) (p :: l') := fun q hq => (List.mem_cons.mp hq).elim (fun e => e ▸ List.mem_cons_self) fun hq => List.mem_cons_of_mem _ (d q hq)
theorem Drp.sub {K : List Addr} {l l' : List (Addr × Obj)} (d : Drp K l l') : ∀ p ∈ l', p ∈ l := d
theorem unrEnd_drp {h₀ : Heap} {L I : Addr} {it : Obj} {rest : (Str → Option Value) → List (Addr × Obj) → Prop} {s₁ : Shared} {h' : Heap} {tk : Nat} {m' : Str → Option Value} {all news' : List (Addr × Obj)} (F : Fr h₀ L h' m') (N : News h₀ L h' all)
    (mem : (I, it) ∈ all) (d : Drp [I] all news') (off : ∀ p ∈ news', p.1 ≠ I) (r : rest m' news') : UnrEnd h₀ L s₁ I it rest { s₁ with heap := h', toks := tk } :=
  UnrEnd.intro F N news' (fun p hp => (List.mem_cons.mp hp).elim (fun e => e ▸ mem) (d.sub p)) off r
theorem gen_toks {α : Type} {M : Model} {A : Around} {t' : Sem α} {Q : α → Shared → Prop} {E : Value → Shared → Prop} {hp : Heap} {gs : Array GenState} {dr : Drawn} {t : Nat} {os : OsState} (h : ∀ tk : Nat, 0 < tk → wpAny M A t' Q E ⟨hp, gs, dr, tk, os⟩) : wpAny M A t' Q E ⟨hp, gs, dr, t + 1, os⟩ := h _ (Nat.succ_pos _)
theorem words_K22_0 : True := by
  k_with_none
  k_with "subscriptTail" => (k_here; (with_reducible show wpAny _ _ (subscriptTail _ _ (Value.ref _) (Value.int 0 _)) _ _ _); k_dflt (refine' pa_item0 ?k1 ?k2 ?k3 ?_ ?k4; (case k1 => k_asm); (case k2 => k_asm); (case k3 => first | assumption | exact PA.more (by assumption) (by intro p hp; (repeat (first | (with_reducible exact hp) | refine List.mem_cons_of_mem _ ?_)))); (case k4 => with_unfolding_all rfl)); intro t9)
  k_with "subscriptTail" => (k_here; (with_reducible show wpAny _ _ (subscriptTail _ _ (Value.ref _) (Value.int 1 _)) _ _ _); k_dflt (refine' pa_item1 ?k1 ?k2 ?k3 ?_ ?k4; (case k1 => k_asm); (case k2 => k_asm); (case k3 => first | assumption | exact PA.more (by assumption) (by intro p hp; (repeat (first | (with_reducible exact hp) | refine List.mem_cons_of_mem _ ?_)))); (case k4 => with_unfolding_all rfl)); intro t9)
  k_with "execs cons" => (k_here; (with_reducible show wpAny _ _ _ _ _ (Shared.mk _ _ _ (_ + 1) _)); refine gen_toks ?_; intro tk9 htk9)
  k_with "call builtin:str.replace" => (k_here; (k_dflt (refine SC.replaceW (Nat.ne_of_gt (by assumption)) (Nat.succ_ne_zero _) (Nat.ne_of_lt (Nat.lt_succ_self _)) (by decide +kernel) (by omega) (by decide +kernel) ?_)); intro t9 k9)
  k_with "UnrEnd" => (k_dflt (refine' unrEnd_drp ?kF ?kN ?km ?kd ?ko ?_; (case kF => k_asm); (case kN => k_asm); (case km => k_mem); (case kd => with_reducible ((repeat (first | (apply Drp.drop; (first | exact List.mem_cons_self | exact List.mem_cons_of_mem _ List.mem_cons_self | exact List.mem_cons_of_mem _ (List.mem_cons_of_mem _ List.mem_cons_self))) | apply Drp.keep)); exact Drp.tail _)); (case ko => first | k_all | fail); (refine ⟨by k_mem, ?_⟩)))
  k_with "call ref" => (k_here; (with_reducible show wpAny _ _ (call (Value.ref 186) _) _ _ _); k_dflt (refine' c_dec ?k1 ?k2 ?k3 ?k4 ?k5 ?kK ?kd ?ku ?p1 ?p2 ?p3 ?_; (case k1 => k_asm); (case k2 => k_asm); (case k3 => k_asm); (case k4 => k_asm); (case k5 => k_asm); (case kK => first | exact rfl | assumption); (case kd => first | exact room_in (by assumption) (by exact rfl) | exact room_0 (by assumption) (by exact rfl) | ktr_room); (case ku => first | exact unit_3 (by assumption) (by exact rfl) | exact unit_4 (by assumption) (by exact rfl) | exact room_0 (by assumption) (by exact rfl) | ktr_units); (case p1 => with_reducible assumption); (case p2 => assumption); (case p3 => assumption)); intro D9 t9 t8 c9 h9 tk9 F9 N9 l9; (have l8 := allLt_hd l9); (try dsimp only); (try k_sweep); (try k_fold))
  k_with "call builtin:str.split" => (k_here; (with_reducible show wpAny _ _ (call (Value.builtin "str.split") [Value.str _ _]) _ _ _); (refine KSpl.split0 (by k_asm) (by k_asm) ?_ (by (rw [sizeLine_eq]; omega))); intro D' l' h' k' e' a' F' N' l1; (have e2 := Eq.trans e' (by assumption)); clear e'; kspl_open e2; clear e2 a'; (simp only [strValues, List.map_cons, List.map_nil] at N'); (try k_lt l1); (try dsimp only))
  k_with "call builtin:list.append" => (k_here; (with_reducible show wpAny _ _ (call (Value.builtin _) [Value.ref _, _]) _ _ _); k_dflt (refine' append_K ?k1 ?k2 ?k3 ?_ ?z; (case k1 => k_asm); (case k2 => k_asm); (case k3 => exact Upd.tail (Nat.ne_of_gt (by assumption)) (Upd.head (by assumption))); (case z => assumption)); intro h' F' N'; (try k_sweep))
  trivial
section
variable {w : World} {mean : ExcName → Option Value} {mg mb : Str → Option Value} {dp un : Nat} {gd : Option (List Code)} {cn : Str} {cs : Scope} {a : Addr} {ccd : Value} {cl : List (Str × Addr)} {outer : List Env} {base g : Heap} {L L' l : Addr} {s : Shared} {E : Value → Shared → Prop} {Q : Flow → Shared → Prop} {news : List (Addr × Obj)} {nm : Str} {cdv : Value} {bd : List Stmt} {sc : Scope} {wd : Str} {nn : Int} {tw : Tok} {m' : Str → Option Value} {vs : Array Value} {k : Nat}

theorem numTurn0 (hbd : bd = forAt ((bodyAt w.params 257).drop 1)) (hsc : sc = scopeAt w.params 257) (B : Below (ktrTop dp un gd cn cs L a ccd cl outer) base (envX cn cs L a ccd cl :: outer) g) (F : Fr g L' s.heap (fun z => if z = Str.ofString "word" then some (.str wd tw) else (fun z => if z = Str.ofString "found" then some (.ref l) else m' z) z)) (X : Frag.In (hd.heap_39 w.params) g) (N : News g L' s.heap ((l, W.listOf vs k) :: news)) (T : Top hd.view_39 LO mean mg mb g) (hdp : dp + 7 < recursionLimit) (hun : un + 56 < cLine)
   (hap : ∀ p ∈ news, p.1 ≠ l) (hvs : vs.size ≤ sizeLine) (hi : IsNum wd nn) (h1 : -4 ≤ nn) (h2 : nn ≤ 6)
   (hret : ∀ D t u c h' tk', Fr g L' h' (fun z => if z = Str.ofString "word" then some (.str wd tw) else (fun z => if z = Str.ofString "found" then some (.ref l) else m' z) z) → News g L' h' ((D, tupO #[.int nn t, .int 1 u] c) :: (l, W.listOf (vs.push (.ref D)) (k + 1)) :: news) → AllLt D ((l, W.listOf vs k) :: news) → Q .next { s with heap := h', toks := tk' }) :
   wpAny (model PySem.Challenge.rw_nu0023_01.row.toRowW.prog w) ((ktrTop dp un gd cn cs L a ccd cl outer).deeper (envOf nm sc L' 257 cdv)) (execs bd (envOf nm sc L' 257 cdv)) Q E s := by
  conv at hbd => rhs; whnf
  conv at hsc => rhs; whnf
  subst hbd; subst hsc
  revert X; k_fill; intro X
  k_steps
  exact hret _ _ _ _ _ _ (by assumption) (by assumption) (by assumption)
theorem fr_two {h : Heap} {va vb : Value} (F : Fr g L' h m') (hw : m' (Str.ofString "word") = some va) (hf : m' (Str.ofString "found") = some vb) : Fr g L' h (fun z => if z = Str.ofString "word" then some va else (fun z => if z = Str.ofString "found" then some vb else m' z) z) :=
  fr_eq F fun z => by
    by_cases e1 : z = Str.ofString "word"
    · subst e1; rw [hw, if_pos rfl]
    · rw [if_neg e1]
      by_cases e2 : z = Str.ofString "found"
      · subst e2; rw [hf]; exact (if_pos rfl).symm
      · exact (if_neg e2).symm
theorem numTurn {G : Obj → List (Addr × Obj)} (hbd : bd = forAt ((bodyAt w.params 257).drop 1)) (hsc : sc = scopeAt w.params 257) (B : Below (ktrTop dp un gd cn cs L a ccd cl outer) base (envX cn cs L a ccd cl :: outer) g) (F : Fr g L' s.heap m') (hw : m' (Str.ofString "word") = some (.str wd tw)) (hf : m' (Str.ofString "found") = some (.ref l)) (X : Frag.In (hd.heap_39 w.params) g) (N : News g L' s.heap news) (T : Top hd.view_39 LO mean mg mb g) (hdp : dp + 7 < recursionLimit) (hun : un + 56 < cLine)
   (U : UpdF l (W.listOf vs k) news G) (hvs : vs.size ≤ sizeLine) (hi : IsNum wd nn) (h1 : -4 ≤ nn) (h2 : nn ≤ 6)
   (hret : ∀ D t u c h' tk', Fr g L' h' m' → News g L' h' ((D, tupO #[.int nn t, .int 1 u] c) :: G (W.listOf (vs.push (.ref D)) (k + 1))) → AllLt D news → Q .next { s with heap := h', toks := tk' }) :
   wpAny (model PySem.Challenge.rw_nu0023_01.row.toRowW.prog w) ((ktrTop dp un gd cn cs L a ccd cl outer).deeper (envOf nm sc L' 257 cdv)) (execs bd (envOf nm sc L' 257 cdv)) Q E s := by
  obtain ⟨pre, post, e1, e2, a1, a2⟩ := U.split
  have hap : ∀ p ∈ pre ++ post, p.1 ≠ l := fun p hp => (List.mem_append.mp hp).elim (a1 p) (a2 p)
  have me : (fun z => if z = Str.ofString "word" then some (Value.str wd tw) else (fun z => if z = Str.ofString "found" then some (Value.ref l) else m' z) z) = m' := by
    funext z
    by_cases q1 : z = Str.ofString "word"
    · subst q1; rw [hw, if_pos rfl]
    · rw [if_neg q1]
      by_cases q2 : z = Str.ofString "found"
      · subst q2; rw [hf]; exact if_pos rfl
      · exact if_neg q2
  refine numTurn0 (l := l) (vs := vs) (k := k) (news := pre ++ post) (m' := m') (wd := wd) (tw := tw) hbd hsc B (fr_two F hw hf) X (news_sub N ?_) T hdp hun hap hvs hi h1 h2 ?_
  · intro p hp
    rw [e1]
    simp only [List.mem_cons, List.mem_append] at hp ⊢
    rcases hp with hp | hp | hp
    · exact .inr (.inl hp)
    · exact .inl hp
    · exact .inr (.inr hp)
  · intro D t u c h' tk' F' N' l'
    rw [me] at F'
    refine hret D t u c h' tk' F' (news_sub N' ?_) (allLt_of fun p hp => allLt_out l' p ?_)
    · intro p hp
      rw [e2] at hp
      simp only [List.mem_cons, List.mem_append] at hp ⊢
      rcases hp with hp | hp | hp | hp
      · exact .inl hp
      · exact .inr (.inr (.inl hp))
      · exact .inr (.inl hp)
      · exact .inr (.inr (.inr hp))
    · rw [e1] at hp
      simp only [List.mem_cons, List.mem_append] at hp ⊢
      rcases hp with hp | hp | hp
      · exact .inr (.inl hp)
      · exact .inl hp
      · exact .inr (.inr hp)
end
theorem words_K22_1 : True := by
  k_with "execs cons" => (k_here; (with_reducible show wpAny _ _ (execs (Stmt.Try _ _ _ _ _ :: _) _) _ _ _); k_dflt (refine' numTurn (by with_unfolding_all rfl) (by with_unfolding_all rfl) ?k1 ?k2 ?w1 ?w2 ?k3 ?k4 ?k5 ?kd ?ku ?U ?vs ?i1 ?i2 ?i3 ?_; (case k1 => k_asm); (case k2 => k_asm); (case k3 => k_asm); (case k4 => k_asm); (case k5 => k_asm); (case w1 => exact rfl); (case w2 => exact rfl); (case kd => ktr_room); (case ku => ktr_units); (case U => k_updF); (case vs => exact Nat.le_of_ble_eq_true rfl); (case i1 => with_reducible assumption); (case i2 => assumption); (case i3 => assumption)); intro D9 t9 t8 c9 h9 tk9 F9 N9 l9; (try dsimp only at N9); (try simp only [List.push_toArray, List.cons_append, List.nil_append] at N9); (try replace l9 := allLt_hd l9); (try dsimp only))
  trivial
section
variable {w : World} {mean : ExcName → Option Value} {mg mb : Str → Option Value} {dp un : Nat} {gd : Option (List Code)} {cn : Str} {cs : Scope} {a : Addr} {ccd : Value} {cl : List (Str × Addr)} {outer : List Env} {A₀ : Around} {base h₀ : Heap} {L : Addr} {m : Str → Option Value} {news : List (Addr × Obj)} {s : Shared} {Q E : Value → Shared → Prop}
theorem words_K22_2 : True := by
  k_with "pyIter ref" => (k_here; (with_reducible show wpAny _ _ (pyIter (Value.ref _)) (fun it s₂ => LoopAtV _ _ _ _ _ _ _ _ _ it s₂) _ _); (first | (k_dflt refine iter_listUnr (vs := []) (by rfl) (by assumption) (by assumption) (by k_mem) (by rfl) (by rfl) ?_) | (k_dflt refine iter_listUnr (vs := [_, _, _]) (by rfl) (by assumption) (by assumption) (by k_mem) (by rfl) (by rfl) ?_) | (k_dflt refine iter_listUnr (vs := [_, _, _, _]) (by rfl) (by assumption) (by assumption) (by k_mem) (by rfl) (by rfl) ?_) | (k_dflt refine iter_listUnr (vs := [_, _, _, _, _]) (by rfl) (by assumption) (by assumption) (by k_mem) (by rfl) (by rfl) ?_)); intro i' l1; (have l2 := allLt_of l1); (try k_lt l1))
  trivial
theorem ret_nums0  (hret : ∀ (l : Addr) (n : Nat) (h' : Heap) (tk' : Nat), Fr h₀ L h' m → News h₀ L h' ((l, W.listOf #[] n) :: news) → AllLt l news → Q (.ref l) { s with heap := h', toks := tk' }) { l : Addr}   {n : Nat} {h' : Heap} {tk' : Nat} {all : List (Addr × Obj)}
  (F : Fr h₀ L h' m) (N : News h₀ L h' all) (ml : (l, W.listOf #[] n) ∈ all)  (sub : ∀ p ∈ news, p ∈ all) (lt : AllLt l news)  :
  Q (.ref l) { s with heap := h', toks := tk' } :=
  hret  l n h' tk' F (by
    intro p hp
    simp only [List.mem_cons] at hp
    rcases hp with rfl | hp
    · exact N _ ml
    · exact N _ (sub p hp)) lt 
theorem c_nums0 {x : Str} {tx : Tok} (B : Below A₀ base outer h₀) (F : Fr h₀ L s.heap m) (X : Frag.In (hd.heap_39 w.params) h₀) (N : News h₀ L s.heap news) (T : Top hd.view_39 LO mean mg mb h₀) (hk : cs.kind = .function) (hdp : dp + 8 < recursionLimit) (hun : un + 64 < cLine) (hx : x.length ≤ 128) (hx2 : (Txt.replace x (Str.ofString ",") (Str.ofString " ")).length ≤ 128)
   (hw : Txt.words (Txt.replace x (Str.ofString ",") (Str.ofString " ")) = []) 
   (hret : ∀ (l : Addr) (n : Nat) (h' : Heap) (tk' : Nat), Fr h₀ L h' m → News h₀ L h' ((l, W.listOf #[] n) :: news) → AllLt l news → Q (.ref l) { s with heap := h', toks := tk' }) :
   wpAny (model PySem.Challenge.rw_nu0023_01.row.toRowW.prog w) (ktrTop dp un gd cn cs L a ccd cl outer) (call (.ref 257) [.str x tx]) Q E s := by
  revert X; k_fill; intro X
  refine wpAny_call ?_
  k_dflt (refine' code_def ?k1 ?k2 ?k3 ?k4 ?k5 ?kA ?kF ?kK ?k6 ?k7 ?k8 ?k9 ?kB ?_ ?c2 ?c3 ?c4 ?c5; (case kA => exact rfl); (case kF => exact rfl); (case kK => assumption); (case k1 => k_asm); (case k2 => k_asm); (case k3 => k_asm); (case k4 => k_asm); (case k5 => k_asm); (case k6 => k_is); (case k7 => k_is); (case k8 => first | exact room_e (by assumption) | exact room_in (by assumption) (by exact rfl) | ktr_room); (case k9 => first | exact BindsTo.of_eq rfl | exact binds_K (by k_in) rfl (by k_is) rfl rfl rfl); (case c5 => decide); (case kB => exact locs rfl); (case c2 => exact rfl); (case c3 => exact rfl); (case c4 => exact rfl); k_whole; intro g' L' h' FG' F' N' B' X' T'; (try dsimp only); (try k_lift B'); (try k_fold))
  k_steps
  exact ret_nums0 hret (by assumption) (by assumption) (by k_mem) (by intro p hp; (repeat (first | (with_reducible exact hp) | refine List.mem_cons_of_mem _ ?_))) (by first | assumption | exact allLt_of (by assumption) | exact alt1 (by assumption) | exact alt2 (by assumption) | exact alt3 (by assumption) | exact alt4 (by assumption) | exact alt5 (by assumption) | exact allLt_lt (by assumption) (by omega)) 
theorem ret_nums3 {n1 n2 n3 : Int} (hret : ∀ (D1 D2 D3 : Addr) (t1 u1 t2 u2 t3 u3 : Tok) (c1 c2 c3 : Nat) (l : Addr) (n : Nat) (h' : Heap) (tk' : Nat), Fr h₀ L h' m → News h₀ L h' ((l, W.listOf #[.ref D1, .ref D2, .ref D3] n) :: (D1, tupO #[.int n1 t1, .int 1 u1] c1) :: (D2, tupO #[.int n2 t2, .int 1 u2] c2) :: (D3, tupO #[.int n3 t3, .int 1 u3] c3) :: news) → AllLt l news → @LT.lt Nat _ l D1 → @LT.lt Nat _ l D2 → @LT.lt Nat _ l D3 → Q (.ref l) { s with heap := h', toks := tk' }) {D1 D2 D3 l : Addr} {t1 u1 t2 u2 t3 u3 : Tok} {c1 c2 c3 : Nat} {n : Nat} {h' : Heap} {tk' : Nat} {all : List (Addr × Obj)}
  (F : Fr h₀ L h' m) (N : News h₀ L h' all) (ml : (l, W.listOf #[.ref D1, .ref D2, .ref D3] n) ∈ all) (m1 : (D1, tupO #[.int n1 t1, .int 1 u1] c1) ∈ all) (m2 : (D2, tupO #[.int n2 t2, .int 1 u2] c2) ∈ all) (m3 : (D3, tupO #[.int n3 t3, .int 1 u3] c3) ∈ all) (sub : ∀ p ∈ news, p ∈ all) (lt : AllLt l news) (o1 : @LT.lt Nat _ l D1) (o2 : @LT.lt Nat _ l D2) (o3 : @LT.lt Nat _ l D3) :
  Q (.ref l) { s with heap := h', toks := tk' } :=
  hret D1 D2 D3 t1 u1 t2 u2 t3 u3 c1 c2 c3 l n h' tk' F (by
    intro p hp
    simp only [List.mem_cons] at hp
    rcases hp with rfl | rfl | rfl | rfl | hp
    · exact N _ ml
    · exact N _ m1
    · exact N _ m2
    · exact N _ m3
    · exact N _ (sub p hp)) lt o1 o2 o3
theorem c_nums3 {x : Str} {w1 w2 w3 : Str} {n1 n2 n3 : Int} {tx : Tok} (B : Below A₀ base outer h₀) (F : Fr h₀ L s.heap m) (X : Frag.In (hd.heap_39 w.params) h₀) (N : News h₀ L s.heap news) (T : Top hd.view_39 LO mean mg mb h₀) (hk : cs.kind = .function) (hdp : dp + 8 < recursionLimit) (hun : un + 64 < cLine) (hx : x.length ≤ 128) (hx2 : (Txt.replace x (Str.ofString ",") (Str.ofString " ")).length ≤ 128)
   (hw : Txt.words (Txt.replace x (Str.ofString ",") (Str.ofString " ")) = [w1, w2, w3]) (i1 : IsNum w1 n1) (j1 : -4 ≤ n1) (k1 : n1 ≤ 6) (i2 : IsNum w2 n2) (j2 : -4 ≤ n2) (k2 : n2 ≤ 6) (i3 : IsNum w3 n3) (j3 : -4 ≤ n3) (k3 : n3 ≤ 6)
   (hret : ∀ (D1 D2 D3 : Addr) (t1 u1 t2 u2 t3 u3 : Tok) (c1 c2 c3 : Nat) (l : Addr) (n : Nat) (h' : Heap) (tk' : Nat), Fr h₀ L h' m → News h₀ L h' ((l, W.listOf #[.ref D1, .ref D2, .ref D3] n) :: (D1, tupO #[.int n1 t1, .int 1 u1] c1) :: (D2, tupO #[.int n2 t2, .int 1 u2] c2) :: (D3, tupO #[.int n3 t3, .int 1 u3] c3) :: news) → AllLt l news → @LT.lt Nat _ l D1 → @LT.lt Nat _ l D2 → @LT.lt Nat _ l D3 → Q (.ref l) { s with heap := h', toks := tk' }) :
   wpAny (model PySem.Challenge.rw_nu0023_01.row.toRowW.prog w) (ktrTop dp un gd cn cs L a ccd cl outer) (call (.ref 257) [.str x tx]) Q E s := by
  revert X; k_fill; intro X
  refine wpAny_call ?_
  k_dflt (refine' code_def ?k1 ?k2 ?k3 ?k4 ?k5 ?kA ?kF ?kK ?k6 ?k7 ?k8 ?k9 ?kB ?_ ?c2 ?c3 ?c4 ?c5; (case kA => exact rfl); (case kF => exact rfl); (case kK => assumption); (case k1 => k_asm); (case k2 => k_asm); (case k3 => k_asm); (case k4 => k_asm); (case k5 => k_asm); (case k6 => k_is); (case k7 => k_is); (case k8 => first | exact room_e (by assumption) | exact room_in (by assumption) (by exact rfl) | ktr_room); (case k9 => first | exact BindsTo.of_eq rfl | exact binds_K (by k_in) rfl (by k_is) rfl rfl rfl); (case c5 => decide); (case kB => exact locs rfl); (case c2 => exact rfl); (case c3 => exact rfl); (case c4 => exact rfl); k_whole; intro g' L' h' FG' F' N' B' X' T'; (try dsimp only); (try k_lift B'); (try k_fold))
  k_steps
  exact ret_nums3 hret (by assumption) (by assumption) (by k_mem) (by k_mem) (by k_mem) (by k_mem) (by intro p hp; (repeat (first | (with_reducible exact hp) | refine List.mem_cons_of_mem _ ?_))) (by first | assumption | exact allLt_of (by assumption) | exact alt1 (by assumption) | exact alt2 (by assumption) | exact alt3 (by assumption) | exact alt4 (by assumption) | exact alt5 (by assumption) | exact allLt_lt (by assumption) (by omega)) (by omega) (by omega) (by omega) 
theorem ret_nums4 {n1 n2 n3 n4 : Int} (hret : ∀ (D1 D2 D3 D4 : Addr) (t1 u1 t2 u2 t3 u3 t4 u4 : Tok) (c1 c2 c3 c4 : Nat) (l : Addr) (n : Nat) (h' : Heap) (tk' : Nat), Fr h₀ L h' m → News h₀ L h' ((l, W.listOf #[.ref D1, .ref D2, .ref D3, .ref D4] n) :: (D1, tupO #[.int n1 t1, .int 1 u1] c1) :: (D2, tupO #[.int n2 t2, .int 1 u2] c2) :: (D3, tupO #[.int n3 t3, .int 1 u3] c3) :: (D4, tupO #[.int n4 t4, .int 1 u4] c4) :: news) → AllLt l news → @LT.lt Nat _ l D1 → @LT.lt Nat _ l D2 → @LT.lt Nat _ l D3 → @LT.lt Nat _ l D4 → Q (.ref l) { s with heap := h', toks := tk' }) {D1 D2 D3 D4 l : Addr} {t1 u1 t2 u2 t3 u3 t4 u4 : Tok} {c1 c2 c3 c4 : Nat} {n : Nat} {h' : Heap} {tk' : Nat} {all : List (Addr × Obj)}
  (F : Fr h₀ L h' m) (N : News h₀ L h' all) (ml : (l, W.listOf #[.ref D1, .ref D2, .ref D3, .ref D4] n) ∈ all) (m1 : (D1, tupO #[.int n1 t1, .int 1 u1] c1) ∈ all) (m2 : (D2, tupO #[.int n2 t2, .int 1 u2] c2) ∈ all) (m3 : (D3, tupO #[.int n3 t3, .int 1 u3] c3) ∈ all) (m4 : (D4, tupO #[.int n4 t4, .int 1 u4] c4) ∈ all) (sub : ∀ p ∈ news, p ∈ all) (lt : AllLt l news) (o1 : @LT.lt Nat _ l D1) (o2 : @LT.lt Nat _ l D2) (o3 : @LT.lt Nat _ l D3) (o4 : @LT.lt Nat _ l D4) :
  Q (.ref l) { s with heap := h', toks := tk' } :=
  hret D1 D2 D3 D4 t1 u1 t2 u2 t3 u3 t4 u4 c1 c2 c3 c4 l n h' tk' F (by
    intro p hp
    simp only [List.mem_cons] at hp
    rcases hp with rfl | rfl | rfl | rfl | rfl | hp
    · exact N _ ml
    · exact N _ m1
    · exact N _ m2
    · exact N _ m3
    · exact N _ m4
    · exact N _ (sub p hp)) lt o1 o2 o3 o4
theorem c_nums4 {x : Str} {w1 w2 w3 w4 : Str} {n1 n2 n3 n4 : Int} {tx : Tok} (B : Below A₀ base outer h₀) (F : Fr h₀ L s.heap m) (X : Frag.In (hd.heap_39 w.params) h₀) (N : News h₀ L s.heap news) (T : Top hd.view_39 LO mean mg mb h₀) (hk : cs.kind = .function) (hdp : dp + 8 < recursionLimit) (hun : un + 64 < cLine) (hx : x.length ≤ 128) (hx2 : (Txt.replace x (Str.ofString ",") (Str.ofString " ")).length ≤ 128)
   (hw : Txt.words (Txt.replace x (Str.ofString ",") (Str.ofString " ")) = [w1, w2, w3, w4]) (i1 : IsNum w1 n1) (j1 : -4 ≤ n1) (k1 : n1 ≤ 6) (i2 : IsNum w2 n2) (j2 : -4 ≤ n2) (k2 : n2 ≤ 6) (i3 : IsNum w3 n3) (j3 : -4 ≤ n3) (k3 : n3 ≤ 6) (i4 : IsNum w4 n4) (j4 : -4 ≤ n4) (k4 : n4 ≤ 6)
   (hret : ∀ (D1 D2 D3 D4 : Addr) (t1 u1 t2 u2 t3 u3 t4 u4 : Tok) (c1 c2 c3 c4 : Nat) (l : Addr) (n : Nat) (h' : Heap) (tk' : Nat), Fr h₀ L h' m → News h₀ L h' ((l, W.listOf #[.ref D1, .ref D2, .ref D3, .ref D4] n) :: (D1, tupO #[.int n1 t1, .int 1 u1] c1) :: (D2, tupO #[.int n2 t2, .int 1 u2] c2) :: (D3, tupO #[.int n3 t3, .int 1 u3] c3) :: (D4, tupO #[.int n4 t4, .int 1 u4] c4) :: news) → AllLt l news → @LT.lt Nat _ l D1 → @LT.lt Nat _ l D2 → @LT.lt Nat _ l D3 → @LT.lt Nat _ l D4 → Q (.ref l) { s with heap := h', toks := tk' }) :
   wpAny (model PySem.Challenge.rw_nu0023_01.row.toRowW.prog w) (ktrTop dp un gd cn cs L a ccd cl outer) (call (.ref 257) [.str x tx]) Q E s := by
  revert X; k_fill; intro X
  refine wpAny_call ?_
  k_dflt (refine' code_def ?k1 ?k2 ?k3 ?k4 ?k5 ?kA ?kF ?kK ?k6 ?k7 ?k8 ?k9 ?kB ?_ ?c2 ?c3 ?c4 ?c5; (case kA => exact rfl); (case kF => exact rfl); (case kK => assumption); (case k1 => k_asm); (case k2 => k_asm); (case k3 => k_asm); (case k4 => k_asm); (case k5 => k_asm); (case k6 => k_is); (case k7 => k_is); (case k8 => first | exact room_e (by assumption) | exact room_in (by assumption) (by exact rfl) | ktr_room); (case k9 => first | exact BindsTo.of_eq rfl | exact binds_K (by k_in) rfl (by k_is) rfl rfl rfl); (case c5 => decide); (case kB => exact locs rfl); (case c2 => exact rfl); (case c3 => exact rfl); (case c4 => exact rfl); k_whole; intro g' L' h' FG' F' N' B' X' T'; (try dsimp only); (try k_lift B'); (try k_fold))
  k_steps
  exact ret_nums4 hret (by assumption) (by assumption) (by k_mem) (by k_mem) (by k_mem) (by k_mem) (by k_mem) (by intro p hp; (repeat (first | (with_reducible exact hp) | refine List.mem_cons_of_mem _ ?_))) (by first | assumption | exact allLt_of (by assumption) | exact alt1 (by assumption) | exact alt2 (by assumption) | exact alt3 (by assumption) | exact alt4 (by assumption) | exact alt5 (by assumption) | exact allLt_lt (by assumption) (by omega)) (by omega) (by omega) (by omega) (by omega) 
theorem ret_nums5 {n1 n2 n3 n4 n5 : Int} (hret : ∀ (D1 D2 D3 D4 D5 : Addr) (t1 u1 t2 u2 t3 u3 t4 u4 t5 u5 : Tok) (c1 c2 c3 c4 c5 : Nat) (l : Addr) (n : Nat) (h' : Heap) (tk' : Nat), Fr h₀ L h' m → News h₀ L h' ((l, W.listOf #[.ref D1, .ref D2, .ref D3, .ref D4, .ref D5] n) :: (D1, tupO #[.int n1 t1, .int 1 u1] c1) :: (D2, tupO #[.int n2 t2, .int 1 u2] c2) :: (D3, tupO #[.int n3 t3, .int 1 u3] c3) :: (D4, tupO #[.int n4 t4, .int 1 u4] c4) :: (D5, tupO #[.int n5 t5, .int 1 u5] c5) :: news) → AllLt l news → @LT.lt Nat _ l D1 → @LT.lt Nat _ l D2 → @LT.lt Nat _ l D3 → @LT.lt Nat _ l D4 → @LT.lt Nat _ l D5 → Q (.ref l) { s with heap := h', toks := tk' }) {D1 D2 D3 D4 D5 l : Addr} {t1 u1 t2 u2 t3 u3 t4 u4 t5 u5 : Tok} {c1 c2 c3 c4 c5 : Nat} {n : Nat} {h' : Heap} {tk' : Nat} {all : List (Addr × Obj)}
  (F : Fr h₀ L h' m) (N : News h₀ L h' all) (ml : (l, W.listOf #[.ref D1, .ref D2, .ref D3, .ref D4, .ref D5] n) ∈ all) (m1 : (D1, tupO #[.int n1 t1, .int 1 u1] c1) ∈ all) (m2 : (D2, tupO #[.int n2 t2, .int 1 u2] c2) ∈ all) (m3 : (D3, tupO #[.int n3 t3, .int 1 u3] c3) ∈ all) (m4 : (D4, tupO #[.int n4 t4, .int 1 u4] c4) ∈ all) (m5 : (D5, tupO #[.int n5 t5, .int 1 u5] c5) ∈ all) (sub : ∀ p ∈ news, p ∈ all) (lt : AllLt l news) (o1 : @LT.lt Nat _ l D1) (o2 : @LT.lt Nat _ l D2) (o3 : @LT.lt Nat _ l D3) (o4 : @LT.lt Nat _ l D4) (o5 : @LT.lt Nat _ l D5) :
  Q (.ref l) { s with heap := h', toks := tk' } :=
  hret D1 D2 D3 D4 D5 t1 u1 t2 u2 t3 u3 t4 u4 t5 u5 c1 c2 c3 c4 c5 l n h' tk' F (by
    intro p hp
    simp only [List.mem_cons] at hp
    rcases hp with rfl | rfl | rfl | rfl | rfl | rfl | hp
    · exact N _ ml
    · exact N _ m1
    · exact N _ m2
    · exact N _ m3
    · exact N _ m4
    · exact N _ m5
    · exact N _ (sub p hp)) lt o1 o2 o3 o4 o5
theorem c_nums5 {x : Str} {w1 w2 w3 w4 w5 : Str} {n1 n2 n3 n4 n5 : Int} {tx : Tok} (B : Below A₀ base outer h₀) (F : Fr h₀ L s.heap m) (X : Frag.In (hd.heap_39 w.params) h₀) (N : News h₀ L s.heap news) (T : Top hd.view_39 LO mean mg mb h₀) (hk : cs.kind = .function) (hdp : dp + 8 < recursionLimit) (hun : un + 64 < cLine) (hx : x.length ≤ 128) (hx2 : (Txt.replace x (Str.ofString ",") (Str.ofString " ")).length ≤ 128)
   (hw : Txt.words (Txt.replace x (Str.ofString ",") (Str.ofString " ")) = [w1, w2, w3, w4, w5]) (i1 : IsNum w1 n1) (j1 : -4 ≤ n1) (k1 : n1 ≤ 6) (i2 : IsNum w2 n2) (j2 : -4 ≤ n2) (k2 : n2 ≤ 6) (i3 : IsNum w3 n3) (j3 : -4 ≤ n3) (k3 : n3 ≤ 6) (i4 : IsNum w4 n4) (j4 : -4 ≤ n4) (k4 : n4 ≤ 6) (i5 : IsNum w5 n5) (j5 : -4 ≤ n5) (k5 : n5 ≤ 6)
   (hret : ∀ (D1 D2 D3 D4 D5 : Addr) (t1 u1 t2 u2 t3 u3 t4 u4 t5 u5 : Tok) (c1 c2 c3 c4 c5 : Nat) (l : Addr) (n : Nat) (h' : Heap) (tk' : Nat), Fr h₀ L h' m → News h₀ L h' ((l, W.listOf #[.ref D1, .ref D2, .ref D3, .ref D4, .ref D5] n) :: (D1, tupO #[.int n1 t1, .int 1 u1] c1) :: (D2, tupO #[.int n2 t2, .int 1 u2] c2) :: (D3, tupO #[.int n3 t3, .int 1 u3] c3) :: (D4, tupO #[.int n4 t4, .int 1 u4] c4) :: (D5, tupO #[.int n5 t5, .int 1 u5] c5) :: news) → AllLt l news → @LT.lt Nat _ l D1 → @LT.lt Nat _ l D2 → @LT.lt Nat _ l D3 → @LT.lt Nat _ l D4 → @LT.lt Nat _ l D5 → Q (.ref l) { s with heap := h', toks := tk' }) :
   wpAny (model PySem.Challenge.rw_nu0023_01.row.toRowW.prog w) (ktrTop dp un gd cn cs L a ccd cl outer) (call (.ref 257) [.str x tx]) Q E s := by
  revert X; k_fill; intro X
  refine wpAny_call ?_
  k_dflt (refine' code_def ?k1 ?k2 ?k3 ?k4 ?k5 ?kA ?kF ?kK ?k6 ?k7 ?k8 ?k9 ?kB ?_ ?c2 ?c3 ?c4 ?c5; (case kA => exact rfl); (case kF => exact rfl); (case kK => assumption); (case k1 => k_asm); (case k2 => k_asm); (case k3 => k_asm); (case k4 => k_asm); (case k5 => k_asm); (case k6 => k_is); (case k7 => k_is); (case k8 => first | exact room_e (by assumption) | exact room_in (by assumption) (by exact rfl) | ktr_room); (case k9 => first | exact BindsTo.of_eq rfl | exact binds_K (by k_in) rfl (by k_is) rfl rfl rfl); (case c5 => decide); (case kB => exact locs rfl); (case c2 => exact rfl); (case c3 => exact rfl); (case c4 => exact rfl); k_whole; intro g' L' h' FG' F' N' B' X' T'; (try dsimp only); (try k_lift B'); (try k_fold))
  k_steps
  exact ret_nums5 hret (by assumption) (by assumption) (by k_mem) (by k_mem) (by k_mem) (by k_mem) (by k_mem) (by k_mem) (by intro p hp; (repeat (first | (with_reducible exact hp) | refine List.mem_cons_of_mem _ ?_))) (by first | assumption | exact allLt_of (by assumption) | exact alt1 (by assumption) | exact alt2 (by assumption) | exact alt3 (by assumption) | exact alt4 (by assumption) | exact alt5 (by assumption) | exact allLt_lt (by assumption) (by omega)) (by omega) (by omega) (by omega) (by omega) (by omega) 
end
end Mine
namespace Mine
theorem part_end_K22 : True := by
  w_top off
  trivial
end Mine

-- part K9
namespace Mine
theorem bd_mono {n d n' d' : Nat} {p : Rat} (h : BdN n d p) (hn : n ≤ n') (hd : d ≤ d') : BdN n' d' p := ⟨Nat.le_trans h.1 hn, Nat.le_trans h.2 hd⟩
/-- what a fitted matrix holds -/
noncomputable def FitS (rX rY rBW rBH rW rH A D rE rF : Rat) (al : Str) (sl : Bool) : Prop :=
  (al = Str.ofString "none" ∧ A = rW / rBW ∧ D = rH / rBH ∧ rE = 0 - rX * A ∧ rF = 0 - rY * D) ∨
  (al ≠ Str.ofString "none" ∧ D = A ∧ ((A = rW / rBW ∧ (decide (rW / rBW < rH / rBH) != sl) = true) ∨ (A = rH / rBH ∧ (decide (rW / rBW < rH / rBH) != sl) = false)) ∧
    rE = partR (Txt.slice al (some 1) (some 4)) * (rW - rBW * A) - rX * A ∧ rF = partR (Txt.slice al (some 5) none) * (rH - rBH * A) - rY * A)
noncomputable abbrev fitL (w : World) (M dM q1 q2 qe qf qa qd : Addr) (P R rE rF : Rat) (t1 t2 t3 t4 t5 t6 t7 t8 t9 t10 t11 t12 t13 t14 : Tok) (c1 c2 c3 c4 : Nat) (news : List (Addr × Obj)) : List (Addr × Obj) :=
  (M, instObj 245 dM) :: (dM, matD w qa 66 66 qd qe qf t1 t2 t3 t4 t5 t6) :: (qf, tupO #[.int rF.num t7, .int (rF.den : Int) t8] c1) :: (qe, tupO #[.int rE.num t9, .int (rE.den : Int) t10] c2) ::
    (q2, tupO #[.int R.num t11, .int (R.den : Int) t12] c3) :: (q1, tupO #[.int P.num t13, .int (P.den : Int) t14] c4) :: news
theorem sg_lt {p r : Rat} : decide ((p.num * (r.den : Int) - r.num * (p.den : Int)).sign < 0) = decide (p < r) := by
  rw [decide_eq_decide, Rat.lt_iff]
  have := Int.sign_neg_iff (x := p.num * (r.den : Int) - r.num * (p.den : Int))
  rw [this]
  omega
section
variable {w : World} {mean : ExcName → Option Value} {mg mb : Str → Option Value} {dp un : Nat} {gd : Option (List Code)} {cn : Str} {cs : Scope} {a : Addr} {ccd : Value} {cl : List (Str × Addr)} {outer : List Env} {A₀ : Around} {base h₀ : Heap} {L : Addr} {m : Str → Option Value} {news : List (Addr × Obj)} {s : Shared} {Q E : Value → Shared → Prop}
theorem ret_fit {rX rY rBW rBH rW rH : Rat} {al : Str} {sl : Bool} (hret : ∀ (A D rE rF : Rat) (M dM q1 q2 qe qf qa qd : Addr) (t1 t2 t3 t4 t5 t6 t7 t8 t9 t10 t11 t12 t13 t14 : Tok) (c1 c2 c3 c4 : Nat) (h' : Heap) (tk' : Nat), Fr h₀ L h' m → News h₀ L h' (fitL w M dM q1 q2 qe qf qa qd (rW / rBW) (rH / rBH) rE rF t1 t2 t3 t4 t5 t6 t7 t8 t9 t10 t11 t12 t13 t14 c1 c2 c3 c4 news) →
      PA h₀ (fitL w M dM q1 q2 qe qf qa qd (rW / rBW) (rH / rBH) rE rF t1 t2 t3 t4 t5 t6 t7 t8 t9 t10 t11 t12 t13 t14 c1 c2 c3 c4 news) qa A.num A.den → PA h₀ (fitL w M dM q1 q2 qe qf qa qd (rW / rBW) (rH / rBH) rE rF t1 t2 t3 t4 t5 t6 t7 t8 t9 t10 t11 t12 t13 t14 c1 c2 c3 c4 news) qd D.num D.den →
      AllLt q1 news → @LT.lt Nat _ q1 q2 → @LT.lt Nat _ q2 qe → @LT.lt Nat _ qe qf → @LT.lt Nat _ qf dM → @LT.lt Nat _ dM M →
      BdN 8 6 A → BdN 8 6 D → BdN 960 72 rE → BdN 960 72 rF → FitS rX rY rBW rBH rW rH A D rE rF al sl → Q (.ref M) { s with heap := h', toks := tk' })
   {A D rE rF : Rat} {M dM q1 q2 qe qf qa qd : Addr} {t1 t2 t3 t4 t5 t6 t7 t8 t9 t10 t11 t12 t13 t14 : Tok} {c1 c2 c3 c4 : Nat} {h' : Heap} {tk' : Nat} {news' : List (Addr × Obj)} (F : Fr h₀ L h' m) (N : News h₀ L h' news')
   (m1 : (M, instObj 245 dM) ∈ news') (m2 : (dM, matD w qa 66 66 qd qe qf t1 t2 t3 t4 t5 t6) ∈ news') (m3 : (qf, tupO #[.int rF.num t7, .int (rF.den : Int) t8] c1) ∈ news') (m4 : (qe, tupO #[.int rE.num t9, .int (rE.den : Int) t10] c2) ∈ news')
   (m5 : (q2, tupO #[.int (rH / rBH).num t11, .int ((rH / rBH).den : Int) t12] c3) ∈ news') (m6 : (q1, tupO #[.int (rW / rBW).num t13, .int ((rW / rBW).den : Int) t14] c4) ∈ news') (hs : ∀ p ∈ news, p ∈ news')
   (o1 : AllLt q1 news) (o2 : @LT.lt Nat _ q1 q2) (o3 : @LT.lt Nat _ q2 qe) (o4 : @LT.lt Nat _ qe qf) (o5 : @LT.lt Nat _ qf dM) (o6 : @LT.lt Nat _ dM M)
   (e1 : (qa = q1 ∧ A = rW / rBW) ∨ (qa = q2 ∧ A = rH / rBH)) (e2 : (qd = q1 ∧ D = rW / rBW) ∨ (qd = q2 ∧ D = rH / rBH))
   (b1 : BdN 8 6 (rW / rBW)) (b2 : BdN 8 6 (rH / rBH)) (b3 : BdN 960 72 rE) (b4 : BdN 960 72 rF) (hf : FitS rX rY rBW rBH rW rH A D rE rF al sl) : Q (.ref M) { s with heap := h', toks := tk' } := by
  refine hret A D rE rF M dM q1 q2 qe qf qa qd t1 t2 t3 t4 t5 t6 t7 t8 t9 t10 t11 t12 t13 t14 c1 c2 c3 c4 h' tk' F ?_ ?_ ?_ o1 o2 o3 o4 o5 o6 ?_ ?_ b3 b4 hf
  · intro p hp
    simp only [fitL, List.mem_cons] at hp
    rcases hp with rfl | rfl | rfl | rfl | rfl | rfl | hp
    · exact N _ m1
    · exact N _ m2
    · exact N _ m3
    · exact N _ m4
    · exact N _ m5
    · exact N _ m6
    · exact N p (hs p hp)
  · rcases e1 with ⟨rfl, rfl⟩ | ⟨rfl, rfl⟩
    · exact PA.mem (.tail _ (.tail _ (.tail _ (.tail _ (.tail _ (.head _))))))
    · exact PA.mem (.tail _ (.tail _ (.tail _ (.tail _ (.head _)))))
  · rcases e2 with ⟨rfl, rfl⟩ | ⟨rfl, rfl⟩
    · exact PA.mem (.tail _ (.tail _ (.tail _ (.tail _ (.tail _ (.head _))))))
    · exact PA.mem (.tail _ (.tail _ (.tail _ (.tail _ (.head _)))))
  · rcases e1 with ⟨_, rfl⟩ | ⟨_, rfl⟩ <;> assumption
  · rcases e2 with ⟨_, rfl⟩ | ⟨_, rfl⟩ <;> assumption
end
theorem words_K9_0 : True := by
  k_with_none
  k_with "subscriptTail" => (k_here; (with_reducible show wpAny _ _ (subscriptTail _ _ (Value.ref _) (Value.int 0 _)) _ _ _); k_dflt (refine' pa_item0 ?k1 ?k2 ?k3 ?_ ?k4; (case k1 => k_asm); (case k2 => k_asm); (case k3 => first | assumption | exact PA.more (by assumption) (by intro p hp; (repeat (first | (with_reducible exact hp) | refine List.mem_cons_of_mem _ ?_)))); (case k4 => with_unfolding_all rfl)); intro t9)
  k_with "subscriptTail" => (k_here; (with_reducible show wpAny _ _ (subscriptTail _ _ (Value.ref _) (Value.int 1 _)) _ _ _); k_dflt (refine' pa_item1 ?k1 ?k2 ?k3 ?_ ?k4; (case k1 => k_asm); (case k2 => k_asm); (case k3 => first | assumption | exact PA.more (by assumption) (by intro p hp; (repeat (first | (with_reducible exact hp) | refine List.mem_cons_of_mem _ ?_)))); (case k4 => with_unfolding_all rfl)); intro t9)
  k_with "call ref" => (k_here; (with_reducible show wpAny _ _ (call (Value.ref _) _) _ _ _); refine hold_in ?_)
  k_with "call ref" => (k_here; (with_reducible show wpAny _ _ (call (Value.ref 102) _) _ _ _); k_dflt (refine' c_times ?k1 ?k2 ?k3 ?k4 ?k5 ?kK ?kd ?ku ?p1 ?p2 ?p3 ?p4 ?p5 ?p6 ?_; (case k1 => k_asm); (case k2 => k_asm); (case k3 => k_asm); (case k4 => k_asm); (case k5 => k_asm); (case kK => first | exact rfl | assumption); (case kd => first | exact room_in (by assumption) (by exact rfl) | exact room_0 (by assumption) (by exact rfl) | ktr_room); (case ku => first | exact unit_3 (by assumption) (by exact rfl) | exact unit_4 (by assumption) (by exact rfl) | exact room_0 (by assumption) (by exact rfl) | ktr_units); (case p1 => first | (with_reducible assumption) | exact PA.mem (by k_mem) | exact pa_zero (by assumption) | exact PA.more (by with_reducible assumption) (by intro p hp; (repeat (first | (with_reducible exact hp) | refine List.mem_cons_of_mem _ ?_)))); (case p2 => first | (with_reducible assumption) | exact PA.mem (by k_mem) | exact pa_zero (by assumption) | exact PA.more (by with_reducible assumption) (by intro p hp; (repeat (first | (with_reducible exact hp) | refine List.mem_cons_of_mem _ ?_)))); (case p3 => exact bd_n (by with_reducible assumption) (by decide)); (case p4 => exact bd_d (by with_reducible assumption) (by decide)); (case p5 => exact bd_n (by with_reducible assumption) (by decide)); (case p6 => exact bd_d (by with_reducible assumption) (by decide))); intro D9 t9 t8 c9 h9 tk9 F9 N9 l9; (try replace l9 := allLt_hd l9); (try dsimp only); (try k_sweep); (try k_fold))
  k_with "call ref" => (k_here; (with_reducible show wpAny _ _ (call (Value.ref 88) _) _ _ _); k_dflt (refine' c_plus ?k1 ?k2 ?k3 ?k4 ?k5 ?kK ?kd ?ku ?p1 ?p2 ?p3 ?p4 ?p5 ?p6 ?_; (case k1 => k_asm); (case k2 => k_asm); (case k3 => k_asm); (case k4 => k_asm); (case k5 => k_asm); (case kK => first | exact rfl | assumption); (case kd => first | exact room_in (by assumption) (by exact rfl) | exact room_0 (by assumption) (by exact rfl) | ktr_room); (case ku => first | exact unit_3 (by assumption) (by exact rfl) | exact unit_4 (by assumption) (by exact rfl) | exact room_0 (by assumption) (by exact rfl) | ktr_units); (case p1 => first | (with_reducible assumption) | exact PA.mem (by k_mem) | exact pa_zero (by assumption) | exact PA.more (by with_reducible assumption) (by intro p hp; (repeat (first | (with_reducible exact hp) | refine List.mem_cons_of_mem _ ?_)))); (case p2 => first | (with_reducible assumption) | exact PA.mem (by k_mem) | exact pa_zero (by assumption) | exact PA.more (by with_reducible assumption) (by intro p hp; (repeat (first | (with_reducible exact hp) | refine List.mem_cons_of_mem _ ?_)))); (case p3 => exact bd_n (by with_reducible assumption) (by decide)); (case p4 => exact bd_d (by with_reducible assumption) (by decide)); (case p5 => exact bd_n (by with_reducible assumption) (by decide)); (case p6 => exact bd_d (by with_reducible assumption) (by decide))); intro D9 t9 t8 c9 h9 tk9 F9 N9 l9; (try replace l9 := allLt_hd l9); (try dsimp only); (try k_sweep); (try k_fold))
  k_with "call ref" => (k_here; (with_reducible show wpAny _ _ (call (Value.ref 95) _) _ _ _); k_dflt (refine' c_minus ?k1 ?k2 ?k3 ?k4 ?k5 ?kK ?kd ?ku ?p1 ?p2 ?p3 ?p4 ?p5 ?p6 ?_; (case k1 => k_asm); (case k2 => k_asm); (case k3 => k_asm); (case k4 => k_asm); (case k5 => k_asm); (case kK => first | exact rfl | assumption); (case kd => first | exact room_in (by assumption) (by exact rfl) | exact room_0 (by assumption) (by exact rfl) | ktr_room); (case ku => first | exact unit_3 (by assumption) (by exact rfl) | exact unit_4 (by assumption) (by exact rfl) | exact room_0 (by assumption) (by exact rfl) | ktr_units); (case p1 => first | (with_reducible assumption) | exact PA.mem (by k_mem) | exact pa_zero (by assumption) | exact PA.more (by with_reducible assumption) (by intro p hp; (repeat (first | (with_reducible exact hp) | refine List.mem_cons_of_mem _ ?_)))); (case p2 => first | (with_reducible assumption) | exact PA.mem (by k_mem) | exact pa_zero (by assumption) | exact PA.more (by with_reducible assumption) (by intro p hp; (repeat (first | (with_reducible exact hp) | refine List.mem_cons_of_mem _ ?_)))); (case p3 => exact bd_n (by with_reducible assumption) (by decide)); (case p4 => exact bd_d (by with_reducible assumption) (by decide)); (case p5 => exact bd_n (by with_reducible assumption) (by decide)); (case p6 => exact bd_d (by with_reducible assumption) (by decide))); intro D9 t9 t8 c9 h9 tk9 F9 N9 l9; (try replace l9 := allLt_hd l9); (try dsimp only); (try k_sweep); (try k_fold))
  k_with "call ref" => (k_here; (with_reducible show wpAny _ _ (call (Value.ref 109) _) _ _ _); k_dflt (refine' c_divided ?k1 ?k2 ?k3 ?k4 ?k5 ?kK ?kd ?ku ?p1 ?p2 ?p3 ?p4 ?p5 ?p6 ?p7 ?_; (case k1 => k_asm); (case k2 => k_asm); (case k3 => k_asm); (case k4 => k_asm); (case k5 => k_asm); (case kK => first | exact rfl | assumption); (case kd => first | exact room_in (by assumption) (by exact rfl) | exact room_0 (by assumption) (by exact rfl) | ktr_room); (case ku => first | exact unit_3 (by assumption) (by exact rfl) | exact unit_4 (by assumption) (by exact rfl) | exact room_0 (by assumption) (by exact rfl) | ktr_units); (case p1 => first | (with_reducible assumption) | exact PA.mem (by k_mem) | exact pa_zero (by assumption) | exact PA.more (by with_reducible assumption) (by intro p hp; (repeat (first | (with_reducible exact hp) | refine List.mem_cons_of_mem _ ?_)))); (case p2 => first | (with_reducible assumption) | exact PA.mem (by k_mem) | exact pa_zero (by assumption) | exact PA.more (by with_reducible assumption) (by intro p hp; (repeat (first | (with_reducible exact hp) | refine List.mem_cons_of_mem _ ?_)))); (case p3 => exact bd_n (by with_reducible assumption) (by decide)); (case p4 => exact bd_d (by with_reducible assumption) (by decide)); (case p5 => exact bd_n (by with_reducible assumption) (by decide)); (case p6 => exact bd_d (by with_reducible assumption) (by decide)); (case p7 => assumption)); intro D9 t9 t8 c9 h9 tk9 F9 N9 l9; (try replace l9 := allLt_hd l9); (try dsimp only); (try k_sweep); (try k_fold))
  k_with "call ref" => (k_here; (with_reducible show wpAny _ _ (call (Value.ref 123) _) _ _ _); k_dflt (refine' c_compare ?k1 ?k2 ?k3 ?k4 ?k5 ?kK ?kd ?ku ?p1 ?p2 ?p3 ?p4 ?p5 ?p6 ?_; (case k1 => k_asm); (case k2 => k_asm); (case k3 => k_asm); (case k4 => k_asm); (case k5 => k_asm); (case kK => first | exact rfl | assumption); (case kd => first | exact room_in (by assumption) (by exact rfl) | exact room_0 (by assumption) (by exact rfl) | ktr_room); (case ku => first | exact unit_3 (by assumption) (by exact rfl) | exact unit_4 (by assumption) (by exact rfl) | exact room_0 (by assumption) (by exact rfl) | ktr_units); (case p1 => first | (with_reducible assumption) | exact PA.mem (by k_mem) | exact pa_zero (by assumption) | exact PA.more (by with_reducible assumption) (by intro p hp; (repeat (first | (with_reducible exact hp) | refine List.mem_cons_of_mem _ ?_)))); (case p2 => first | (with_reducible assumption) | exact PA.mem (by k_mem) | exact pa_zero (by assumption) | exact PA.more (by with_reducible assumption) (by intro p hp; (repeat (first | (with_reducible exact hp) | refine List.mem_cons_of_mem _ ?_)))); (case p3 => exact bd_n (by with_reducible assumption) (by decide)); (case p4 => exact bd_d (by with_reducible assumption) (by decide)); (case p5 => exact bd_n (by with_reducible assumption) (by decide)); (case p6 => exact bd_d (by with_reducible assumption) (by decide))); intro t9 h9 tk9 F9 N9; (try dsimp only); (try k_sweep); (try k_fold))
  k_with "call ref" => (k_here; (with_reducible show wpAny _ _ (call (Value.ref 245) _) _ _ _); k_dflt (refine' c_matrix ?k1 ?k2 ?k3 ?k4 ?k5 ?kK ?kd ?ku  ?_; (case k1 => k_asm); (case k2 => k_asm); (case k3 => k_asm); (case k4 => k_asm); (case k5 => k_asm); (case kK => first | exact rfl | assumption); (case kd => first | exact room_in (by assumption) (by exact rfl) | exact room_0 (by assumption) (by exact rfl) | ktr_room); (case ku => first | exact unit_3 (by assumption) (by exact rfl) | exact unit_4 (by assumption) (by exact rfl) | exact room_0 (by assumption) (by exact rfl) | ktr_units)); intro M9 D9 t1 t2 t3 t4 t5 t6 h9 tk9 F9 N9 l9 l8; (try replace l9 := allLt_hd l9); (try dsimp only); (try k_sweep); (try k_fold))
  k_with "call ref" => (k_here; (with_reducible show wpAny _ _ (call (Value.ref 285) _) _ _ _); k_dflt (refine' c_part ?k1 ?k2 ?k3 ?k4 ?k5 ?kK ?kd ?ku ?p1 ?_; (case k1 => k_asm); (case k2 => k_asm); (case k3 => k_asm); (case k4 => k_asm); (case k5 => k_asm); (case kK => first | exact rfl | assumption); (case kd => first | exact room_in (by assumption) (by exact rfl) | exact room_0 (by assumption) (by exact rfl) | ktr_room); (case ku => first | exact unit_3 (by assumption) (by exact rfl) | exact unit_4 (by assumption) (by exact rfl) | exact room_0 (by assumption) (by exact rfl) | ktr_units); (case p1 => assumption)); intro D9 D8 t9 t8 c9 h9 tk9 F9 N9 l9 P9; (try replace l9 := allLt_hd l9); (try dsimp only); (try k_sweep); (try k_fold))
  trivial
noncomputable def JoinP (ss : Shared) (qa qb : Addr) (cc : Bool) (v : Value) (s' : Shared) : Prop := ∃ q : Addr, v = .ref q ∧ s' = ss ∧ ((q = qa ∧ cc = true) ∨ (q = qb ∧ cc = false))
theorem joinStep {prog : Program} {w : World} {A : Around} {E : Value → Shared → Prop} {s : Shared} {t : Sem Value} {Q : Value → Shared → Prop} {qa qb : Addr} (b : Bool) (_ : @LT.lt Nat _ qa qb) (h1 : wpAny (model prog w) A t (JoinP s qa qb b) E s) (h2 : ∀ q, ((q = qa ∧ b = true) ∨ (q = qb ∧ b = false)) → Q (.ref q) s) : wpAny (model prog w) A t Q E s :=
  wpAny_mono h1 (fun v s' ⟨q, e1, e2, e3⟩ => by subst e1; subst e2; exact h2 q e3) fun _ _ x => x
noncomputable def PAof {h₀ h : Heap} {L : Addr} {led : List (Addr × Obj)} (_ : News h₀ L h led) (q : Addr) (S : Rat) : Prop := PA h₀ led q S.num (S.den : Int)
theorem words_K9_1 : True := by
  k_with "eval IfExp" => (k_here; (with_reducible show wpAny _ _ (eval (Expr.IfExp _ _ _ _) _) _ _ _); refine hold_in ?_)
  trivial
section
variable {w : World} {mean : ExcName → Option Value} {mg mb : Str → Option Value} {dp un : Nat} {gd : Option (List Code)} {cn : Str} {cs : Scope} {a : Addr} {ccd : Value} {cl : List (Str × Addr)} {outer : List Env} {A₀ : Around} {base h₀ : Heap} {L : Addr} {m : Str → Option Value} {news : List (Addr × Obj)} {s : Shared} {Q E : Value → Shared → Prop}
theorem c_fitted {rX rY rBW rBH rW rH : Rat} {al : Str} {qbox qx qy qbw qbh qw qh : Addr} {ta : Tok} {sl : Bool} {cb : Nat} (B : Below A₀ base outer h₀) (F : Fr h₀ L s.heap m) (X : Frag.In (hd.heap_39 w.params) h₀) (N : News h₀ L s.heap news) (T : Top hd.view_39 LO mean mg mb h₀) (hk : cs.kind = .function) (hdp : dp + 4 < recursionLimit) (hun : un + 32 < cLine)
   (hbox : (qbox, tupO #[.ref qx, .ref qy, .ref qbw, .ref qbh] cb) ∈ news)
   (Px : PA h₀ news qx rX.num rX.den) (Py : PA h₀ news qy rY.num rY.den) (Pbw : PA h₀ news qbw rBW.num rBW.den) (Pbh : PA h₀ news qbh rBH.num rBH.den) (Pw : PA h₀ news qw rW.num rW.den) (Ph : PA h₀ news qh rH.num rH.den)
   (bx : BdN 4 1 rX) (by' : BdN 4 1 rY) (bbw : BdN 6 1 rBW) (bbh : BdN 6 1 rBH) (bw : BdN 8 1 rW) (bh : BdN 8 1 rH) (nbw : rBW.num ≠ 0) (nbh : rBH.num ≠ 0)
   (hsl : al.length ≤ 16) (hpl : al = Str.ofString "none" ∨ al ≠ Str.ofString "none" ∧ IsPlace (Txt.slice al (some 1) (some 4)) ∧ IsPlace (Txt.slice al (some 5) none))
   (hret : ∀ (A D rE rF : Rat) (M dM q1 q2 qe qf qa qd : Addr) (t1 t2 t3 t4 t5 t6 t7 t8 t9 t10 t11 t12 t13 t14 : Tok) (c1 c2 c3 c4 : Nat) (h' : Heap) (tk' : Nat), Fr h₀ L h' m → News h₀ L h' (fitL w M dM q1 q2 qe qf qa qd (rW / rBW) (rH / rBH) rE rF t1 t2 t3 t4 t5 t6 t7 t8 t9 t10 t11 t12 t13 t14 c1 c2 c3 c4 news) →
      PA h₀ (fitL w M dM q1 q2 qe qf qa qd (rW / rBW) (rH / rBH) rE rF t1 t2 t3 t4 t5 t6 t7 t8 t9 t10 t11 t12 t13 t14 c1 c2 c3 c4 news) qa A.num A.den → PA h₀ (fitL w M dM q1 q2 qe qf qa qd (rW / rBW) (rH / rBH) rE rF t1 t2 t3 t4 t5 t6 t7 t8 t9 t10 t11 t12 t13 t14 c1 c2 c3 c4 news) qd D.num D.den →
      AllLt q1 news → @LT.lt Nat _ q1 q2 → @LT.lt Nat _ q2 qe → @LT.lt Nat _ qe qf → @LT.lt Nat _ qf dM → @LT.lt Nat _ dM M →
      BdN 8 6 A → BdN 8 6 D → BdN 960 72 rE → BdN 960 72 rF → FitS rX rY rBW rBH rW rH A D rE rF al sl → Q (.ref M) { s with heap := h', toks := tk' }) :
   wpAny (model PySem.Challenge.rw_nu0023_01.row.toRowW.prog w) (ktrTop dp un gd cn cs L a ccd cl outer) (call (.ref 293) [.ref qbox, .ref qw, .ref qh, .str al ta, .bool sl]) Q E s := by
  have bP := bd_div bw bbw nbw
  have bR := bd_div bh bbh nbh
  rcases hpl with rfl | ⟨hal, h1, h2⟩
  · have bz := bd_zero
    have b4 := bd_mul bx bP
    have b5 := bd_sub bz b4
    have c4 := bd_mul by' bR
    have c5 := bd_sub bz c4
    revert X; k_fill; intro X
    refine wpAny_call ?_
    k_dflt (refine' code_def ?k1 ?k2 ?k3 ?k4 ?k5 ?kA ?kF ?kK ?k6 ?k7 ?k8 ?k9 ?kB ?_ ?c2 ?c3 ?c4 ?c5; (case kA => exact rfl); (case kF => exact rfl); (case kK => assumption); (case k1 => k_asm); (case k2 => k_asm); (case k3 => k_asm); (case k4 => k_asm); (case k5 => k_asm); (case k6 => k_is); (case k7 => k_is); (case k8 => first | exact room_e (by assumption) | exact room_in (by assumption) (by exact rfl) | ktr_room); (case k9 => first | exact BindsTo.of_eq rfl | exact binds_K (by k_in) rfl (by k_is) rfl rfl rfl); (case c5 => decide); (case kB => exact locs rfl); (case c2 => exact rfl); (case c3 => exact rfl); (case c4 => exact rfl); k_whole; intro g' L' h' FG' F' N' B' X' T'; (try dsimp only); (try k_lift B'); (try k_fold))
    have Px' := PA.up Px FG'.keep
    have Py' := PA.up Py FG'.keep
    have Pbw' := PA.up Pbw FG'.keep
    have Pbh' := PA.up Pbh FG'.keep
    have Pw' := PA.up Pw FG'.keep
    have Ph' := PA.up Ph FG'.keep
    clear Px Py Pbw Pbh Pw Ph
    k_steps
    · refine ret_fit hret (by assumption) (by assumption) (by k_mem) (by k_mem) (by k_mem) (by k_mem) (by k_mem) (by k_mem) (by intro p hp; (repeat (first | (with_reducible exact hp) | refine List.mem_cons_of_mem _ ?_))) (by first | assumption | exact allLt_of (by assumption) | exact alt1 (by assumption) | exact alt2 (by assumption) | exact alt3 (by assumption) | exact alt4 (by assumption) | exact alt5 (by assumption) | exact allLt_lt (by assumption) (by omega)) (by omega) (by omega) (by omega) (by omega) (by omega) ?_ ?_ (bd_mono bP (by decide) (by decide)) (bd_mono bR (by decide) (by decide)) (bd_mono (by with_reducible assumption) (by decide) (by decide)) (bd_mono (by with_reducible assumption) (by decide) (by decide)) (.inl ⟨rfl, rfl, rfl, rfl, rfl⟩)
      · exact .inl ⟨rfl, rfl⟩
      · exact .inr ⟨rfl, rfl⟩
  · have q1 := bd_part h1
    have q2 := bd_part h2
    revert X; k_fill; intro X
    refine wpAny_call ?_
    k_dflt (refine' code_def ?k1 ?k2 ?k3 ?k4 ?k5 ?kA ?kF ?kK ?k6 ?k7 ?k8 ?k9 ?kB ?_ ?c2 ?c3 ?c4 ?c5; (case kA => exact rfl); (case kF => exact rfl); (case kK => assumption); (case k1 => k_asm); (case k2 => k_asm); (case k3 => k_asm); (case k4 => k_asm); (case k5 => k_asm); (case k6 => k_is); (case k7 => k_is); (case k8 => first | exact room_e (by assumption) | exact room_in (by assumption) (by exact rfl) | ktr_room); (case k9 => first | exact BindsTo.of_eq rfl | exact binds_K (by k_in) rfl (by k_is) rfl rfl rfl); (case c5 => decide); (case kB => exact locs rfl); (case c2 => exact rfl); (case c3 => exact rfl); (case c4 => exact rfl); k_whole; intro g' L' h' FG' F' N' B' X' T'; (try dsimp only); (try k_lift B'); (try k_fold))
    have Px' := PA.up Px FG'.keep
    have Py' := PA.up Py FG'.keep
    have Pbw' := PA.up Pbw FG'.keep
    have Pbh' := PA.up Pbh FG'.keep
    have Pw' := PA.up Pw FG'.keep
    have Ph' := PA.up Ph FG'.keep
    clear Px Py Pbw Pbh Pw Ph
    k_steps
    · unfold Hold
      rename @LT.lt Nat _ _ _ => lZ
      refine joinStep (decide (rW / rBW < rH / rBH) != sl) lZ ?_ ?_
      · refine wpAny_IfExp ?_
        k_steps
        · exact ⟨_, rfl, rfl, .inl ⟨rfl, by rw [← sg_lt]; assumption⟩⟩
        · exact ⟨_, rfl, rfl, .inr ⟨rfl, by rw [← sg_lt]; assumption⟩⟩
      intro q hq
      rename News _ _ _ _ => NZ
      obtain ⟨S, PS, bS, hS⟩ : ∃ S : Rat, PAof NZ q S ∧ BdN 8 6 S ∧ ((q = _ ∧ S = rW / rBW ∧ (decide (rW / rBW < rH / rBH) != sl) = true) ∨ (q = _ ∧ S = rH / rBH ∧ (decide (rW / rBW < rH / rBH) != sl) = false)) := by
        rcases hq with ⟨e, hc⟩ | ⟨e, hc⟩
        · exact ⟨rW / rBW, by subst e; exact PA.mem (by k_mem), bP, .inl ⟨e, rfl, hc⟩⟩
        · exact ⟨rH / rBH, by subst e; exact PA.mem (by k_mem), bR, .inr ⟨e, rfl, hc⟩⟩
      clear hq
      unfold PAof at PS
      have b1s := bd_mul bbw bS
      have b2s := bd_sub bw b1s
      have b3s := bd_mul q1 b2s
      have b4s := bd_mul bx bS
      have b5s := bd_sub b3s b4s
      have c1s := bd_mul bbh bS
      have c2s := bd_sub bh c1s
      have c3s := bd_mul q2 c2s
      have c4s := bd_mul by' bS
      have c5s := bd_sub c3s c4s
      k_steps
      refine ret_fit hret (by assumption) (by assumption) (by k_mem) (by k_mem) (by k_mem) (by k_mem) (by k_mem) (by k_mem) (by intro p hp; (repeat (first | (with_reducible exact hp) | refine List.mem_cons_of_mem _ ?_))) (by first | assumption | exact allLt_of (by assumption) | exact alt1 (by assumption) | exact alt2 (by assumption) | exact alt3 (by assumption) | exact alt4 (by assumption) | exact alt5 (by assumption) | exact allLt_lt (by assumption) (by omega)) (by omega) (by omega) (by omega) (by omega) (by omega) ?_ ?_ (bd_mono bP (by decide) (by decide)) (bd_mono bR (by decide) (by decide)) (bd_mono (by with_reducible assumption) (by decide) (by decide)) (bd_mono (by with_reducible assumption) (by decide) (by decide)) (.inr ⟨hal, rfl, hS.elim (fun h => .inl ⟨h.2.1, h.2.2⟩) (fun h => .inr ⟨h.2.1, h.2.2⟩), rfl, rfl⟩)
      · exact hS.elim (fun h => .inl ⟨h.1, h.2.1⟩) (fun h => .inr ⟨h.1, h.2.1⟩)
      · exact hS.elim (fun h => .inl ⟨h.1, h.2.1⟩) (fun h => .inr ⟨h.1, h.2.1⟩)
    · exfalso
      have h9 : (al != Str.ofString "none") = false := by assumption
      simp only [bne_eq_false_iff_eq] at h9
      exact hal h9
end
end Mine
namespace Mine
theorem part_end_K9 : True := by
  w_top off
  trivial
end Mine

-- part K11
namespace Mine
theorem rz1 (a b c : Rat) : a * b + 0 * c = a * b := by rw [Rat.zero_mul, Rat.add_zero]
theorem rz2 (a b c : Rat) : 0 * c + a * b = a * b := by rw [Rat.zero_mul, Rat.zero_add]
noncomputable abbrev refT (a b : Addr) (c : Nat) : Obj := tupO #[.ref a, .ref b] c
theorem words_K11_0 : True := by
  k_with_none
  k_with "subscriptTail" => (k_here; (with_reducible show wpAny _ _ (subscriptTail _ _ (Value.ref _) (Value.int 0 _)) _ _ _); k_dflt (refine' pa_item0 ?k1 ?k2 ?k3 ?_ ?k4; (case k1 => k_asm); (case k2 => k_asm); (case k3 => first | assumption | exact PA.more (by assumption) (by intro p hp; (repeat (first | (with_reducible exact hp) | refine List.mem_cons_of_mem _ ?_)))); (case k4 => with_unfolding_all rfl)); intro t9)
  k_with "subscriptTail" => (k_here; (with_reducible show wpAny _ _ (subscriptTail _ _ (Value.ref _) (Value.int 1 _)) _ _ _); k_dflt (refine' pa_item1 ?k1 ?k2 ?k3 ?_ ?k4; (case k1 => k_asm); (case k2 => k_asm); (case k3 => first | assumption | exact PA.more (by assumption) (by intro p hp; (repeat (first | (with_reducible exact hp) | refine List.mem_cons_of_mem _ ?_)))); (case k4 => with_unfolding_all rfl)); intro t9)
  k_with "call ref" => (k_here; (with_reducible show wpAny _ _ (call (Value.ref _) _) _ _ _); refine hold_in ?_)
  k_with "call ref" => (k_here; (with_reducible show wpAny _ _ (call (Value.ref 102) _) _ _ _); k_dflt (refine' c_times ?k1 ?k2 ?k3 ?k4 ?k5 ?kK ?kd ?ku ?p1 ?p2 ?p3 ?p4 ?p5 ?p6 ?_; (case k1 => k_asm); (case k2 => k_asm); (case k3 => k_asm); (case k4 => k_asm); (case k5 => k_asm); (case kK => first | exact rfl | assumption); (case kd => first | exact room_in (by assumption) (by exact rfl) | exact room_0 (by assumption) (by exact rfl) | ktr_room); (case ku => first | exact unit_3 (by assumption) (by exact rfl) | exact unit_4 (by assumption) (by exact rfl) | exact room_0 (by assumption) (by exact rfl) | ktr_units); (case p1 => first | (with_reducible assumption) | exact PA.mem (by k_mem) | exact pa_zero (by assumption) | exact PA.more (by with_reducible assumption) (by intro p hp; (repeat (first | (with_reducible exact hp) | refine List.mem_cons_of_mem _ ?_)))); (case p2 => first | (with_reducible assumption) | exact PA.mem (by k_mem) | exact pa_zero (by assumption) | exact PA.more (by with_reducible assumption) (by intro p hp; (repeat (first | (with_reducible exact hp) | refine List.mem_cons_of_mem _ ?_)))); (case p3 => exact bd_n (by with_reducible assumption) (by decide)); (case p4 => exact bd_d (by with_reducible assumption) (by decide)); (case p5 => exact bd_n (by with_reducible assumption) (by decide)); (case p6 => exact bd_d (by with_reducible assumption) (by decide))); intro D9 t9 t8 c9 h9 tk9 F9 N9 l9; (try replace l9 := allLt_hd l9); (try dsimp only); (try k_sweep); (try k_fold))
  k_with "call ref" => (k_here; (with_reducible show wpAny _ _ (call (Value.ref 88) _) _ _ _); k_dflt (refine' c_plus ?k1 ?k2 ?k3 ?k4 ?k5 ?kK ?kd ?ku ?p1 ?p2 ?p3 ?p4 ?p5 ?p6 ?_; (case k1 => k_asm); (case k2 => k_asm); (case k3 => k_asm); (case k4 => k_asm); (case k5 => k_asm); (case kK => first | exact rfl | assumption); (case kd => first | exact room_in (by assumption) (by exact rfl) | exact room_0 (by assumption) (by exact rfl) | ktr_room); (case ku => first | exact unit_3 (by assumption) (by exact rfl) | exact unit_4 (by assumption) (by exact rfl) | exact room_0 (by assumption) (by exact rfl) | ktr_units); (case p1 => first | (with_reducible assumption) | exact PA.mem (by k_mem) | exact pa_zero (by assumption) | exact PA.more (by with_reducible assumption) (by intro p hp; (repeat (first | (with_reducible exact hp) | refine List.mem_cons_of_mem _ ?_)))); (case p2 => first | (with_reducible assumption) | exact PA.mem (by k_mem) | exact pa_zero (by assumption) | exact PA.more (by with_reducible assumption) (by intro p hp; (repeat (first | (with_reducible exact hp) | refine List.mem_cons_of_mem _ ?_)))); (case p3 => exact bd_n (by with_reducible assumption) (by decide)); (case p4 => exact bd_d (by with_reducible assumption) (by decide)); (case p5 => exact bd_n (by with_reducible assumption) (by decide)); (case p6 => exact bd_d (by with_reducible assumption) (by decide))); intro D9 t9 t8 c9 h9 tk9 F9 N9 l9; (try replace l9 := allLt_hd l9); (try dsimp only); (try k_sweep); (try k_fold))
  k_with "call ref" => (k_here; (with_reducible show wpAny _ _ (call (Value.ref 95) _) _ _ _); k_dflt (refine' c_minus ?k1 ?k2 ?k3 ?k4 ?k5 ?kK ?kd ?ku ?p1 ?p2 ?p3 ?p4 ?p5 ?p6 ?_; (case k1 => k_asm); (case k2 => k_asm); (case k3 => k_asm); (case k4 => k_asm); (case k5 => k_asm); (case kK => first | exact rfl | assumption); (case kd => first | exact room_in (by assumption) (by exact rfl) | exact room_0 (by assumption) (by exact rfl) | ktr_room); (case ku => first | exact unit_3 (by assumption) (by exact rfl) | exact unit_4 (by assumption) (by exact rfl) | exact room_0 (by assumption) (by exact rfl) | ktr_units); (case p1 => first | (with_reducible assumption) | exact PA.mem (by k_mem) | exact pa_zero (by assumption) | exact PA.more (by with_reducible assumption) (by intro p hp; (repeat (first | (with_reducible exact hp) | refine List.mem_cons_of_mem _ ?_)))); (case p2 => first | (with_reducible assumption) | exact PA.mem (by k_mem) | exact pa_zero (by assumption) | exact PA.more (by with_reducible assumption) (by intro p hp; (repeat (first | (with_reducible exact hp) | refine List.mem_cons_of_mem _ ?_)))); (case p3 => exact bd_n (by with_reducible assumption) (by decide)); (case p4 => exact bd_d (by with_reducible assumption) (by decide)); (case p5 => exact bd_n (by with_reducible assumption) (by decide)); (case p6 => exact bd_d (by with_reducible assumption) (by decide))); intro D9 t9 t8 c9 h9 tk9 F9 N9 l9; (try replace l9 := allLt_hd l9); (try dsimp only); (try k_sweep); (try k_fold))
  k_with "call ref" => (k_here; (with_reducible show wpAny _ _ (call (Value.ref 109) _) _ _ _); k_dflt (refine' c_divided ?k1 ?k2 ?k3 ?k4 ?k5 ?kK ?kd ?ku ?p1 ?p2 ?p3 ?p4 ?p5 ?p6 ?p7 ?_; (case k1 => k_asm); (case k2 => k_asm); (case k3 => k_asm); (case k4 => k_asm); (case k5 => k_asm); (case kK => first | exact rfl | assumption); (case kd => first | exact room_in (by assumption) (by exact rfl) | exact room_0 (by assumption) (by exact rfl) | ktr_room); (case ku => first | exact unit_3 (by assumption) (by exact rfl) | exact unit_4 (by assumption) (by exact rfl) | exact room_0 (by assumption) (by exact rfl) | ktr_units); (case p1 => first | (with_reducible assumption) | exact PA.mem (by k_mem) | exact pa_zero (by assumption) | exact PA.more (by with_reducible assumption) (by intro p hp; (repeat (first | (with_reducible exact hp) | refine List.mem_cons_of_mem _ ?_)))); (case p2 => first | (with_reducible assumption) | exact PA.mem (by k_mem) | exact pa_zero (by assumption) | exact PA.more (by with_reducible assumption) (by intro p hp; (repeat (first | (with_reducible exact hp) | refine List.mem_cons_of_mem _ ?_)))); (case p3 => exact bd_n (by with_reducible assumption) (by decide)); (case p4 => exact bd_d (by with_reducible assumption) (by decide)); (case p5 => exact bd_n (by with_reducible assumption) (by decide)); (case p6 => exact bd_d (by with_reducible assumption) (by decide)); (case p7 => assumption)); intro D9 t9 t8 c9 h9 tk9 F9 N9 l9; (try replace l9 := allLt_hd l9); (try dsimp only); (try k_sweep); (try k_fold))
  k_with "call ref" => (k_here; (with_reducible show wpAny _ _ (call (Value.ref 123) _) _ _ _); k_dflt (refine' c_compare ?k1 ?k2 ?k3 ?k4 ?k5 ?kK ?kd ?ku ?p1 ?p2 ?p3 ?p4 ?p5 ?p6 ?_; (case k1 => k_asm); (case k2 => k_asm); (case k3 => k_asm); (case k4 => k_asm); (case k5 => k_asm); (case kK => first | exact rfl | assumption); (case kd => first | exact room_in (by assumption) (by exact rfl) | exact room_0 (by assumption) (by exact rfl) | ktr_room); (case ku => first | exact unit_3 (by assumption) (by exact rfl) | exact unit_4 (by assumption) (by exact rfl) | exact room_0 (by assumption) (by exact rfl) | ktr_units); (case p1 => first | (with_reducible assumption) | exact PA.mem (by k_mem) | exact pa_zero (by assumption) | exact PA.more (by with_reducible assumption) (by intro p hp; (repeat (first | (with_reducible exact hp) | refine List.mem_cons_of_mem _ ?_)))); (case p2 => first | (with_reducible assumption) | exact PA.mem (by k_mem) | exact pa_zero (by assumption) | exact PA.more (by with_reducible assumption) (by intro p hp; (repeat (first | (with_reducible exact hp) | refine List.mem_cons_of_mem _ ?_)))); (case p3 => exact bd_n (by with_reducible assumption) (by decide)); (case p4 => exact bd_d (by with_reducible assumption) (by decide)); (case p5 => exact bd_n (by with_reducible assumption) (by decide)); (case p6 => exact bd_d (by with_reducible assumption) (by decide))); intro t9 h9 tk9 F9 N9; (try dsimp only); (try k_sweep); (try k_fold))
  trivial
section
variable {w : World} {mean : ExcName → Option Value} {mg mb : Str → Option Value} {dp un : Nat} {gd : Option (List Code)} {cn : Str} {cs : Scope} {a : Addr} {ccd : Value} {cl : List (Str × Addr)} {outer : List Env} {A₀ : Around} {base h₀ : Heap} {L : Addr} {m : Str → Option Value} {news : List (Addr × Obj)} {s : Shared} {Q E : Value → Shared → Prop}
theorem ret_two {X Y : Rat} (hret : ∀ (q q1 q2 : Addr) (u1 u2 u3 u4 : Tok) (c1 c2 c3 : Nat) (h' : Heap) (tk' : Nat), Fr h₀ L h' m → News h₀ L h' ((q, refT q1 q2 c1) :: (q2, tupO #[.int (Y).num u1, .int ((Y).den : Int) u2] c2) :: (q1, tupO #[.int (X).num u3, .int ((X).den : Int) u4] c3) :: news) → @LT.lt Nat _ q2 q → @LT.lt Nat _ q1 q2 → AllLt q1 news → Q (.ref q) { s with heap := h', toks := tk' })
   {q q1 q2 : Addr} {u1 u2 u3 u4 : Tok} {c1 c2 c3 : Nat} {h' : Heap} {tk' : Nat} {news' : List (Addr × Obj)} (F : Fr h₀ L h' m) (N : News h₀ L h' news')
   (m1 : (q, refT q1 q2 c1) ∈ news') (m2 : (q2, tupO #[.int Y.num u1, .int (Y.den : Int) u2] c2) ∈ news') (m3 : (q1, tupO #[.int X.num u3, .int (X.den : Int) u4] c3) ∈ news') (hs : ∀ p ∈ news, p ∈ news')
   (o1 : @LT.lt Nat _ q2 q) (o2 : @LT.lt Nat _ q1 q2) (o3 : AllLt q1 news) : Q (.ref q) { s with heap := h', toks := tk' } := by
  refine hret q q1 q2 u1 u2 u3 u4 c1 c2 c3 h' tk' F ?_ o1 o2 o3
  intro p hp
  simp only [List.mem_cons] at hp
  rcases hp with rfl | rfl | rfl | hp
  · exact N _ m1
  · exact N _ m2
  · exact N _ m3
  · exact N p (hs p hp)
theorem c_vector {A D rx ry : Rat} {M dM qa qd qe qf qp px py : Addr} {t1 t2 t3 t4 t5 t6 : Tok} {cp : Nat} (B : Below A₀ base outer h₀) (F : Fr h₀ L s.heap m) (X : Frag.In (hd.heap_39 w.params) h₀) (N : News h₀ L s.heap news) (T : Top hd.view_39 LO mean mg mb h₀) (hk : cs.kind = .function) (hdp : dp + 4 < recursionLimit) (hun : un + 32 < cLine)
   (hM : (M, instObj 245 dM) ∈ news) (hdM : (dM, matD w qa 66 66 qd qe qf t1 t2 t3 t4 t5 t6) ∈ news) (hp : (qp, refT px py cp) ∈ news)
   (Pa : PA h₀ news qa A.num A.den) (Pd : PA h₀ news qd D.num D.den) (Px : PA h₀ news px rx.num rx.den) (Py : PA h₀ news py ry.num ry.den)
   (bA : BdN 8 6 A) (bD : BdN 8 6 D) (bx : BdN 10 1 rx) (by' : BdN 10 1 ry)
   (hret : ∀ (q q1 q2 : Addr) (u1 u2 u3 u4 : Tok) (c1 c2 c3 : Nat) (h' : Heap) (tk' : Nat), Fr h₀ L h' m → News h₀ L h' ((q, refT q1 q2 c1) :: (q2, tupO #[.int (D * ry).num u1, .int ((D * ry).den : Int) u2] c2) :: (q1, tupO #[.int (A * rx).num u3, .int ((A * rx).den : Int) u4] c3) :: news) → @LT.lt Nat _ q2 q → @LT.lt Nat _ q1 q2 → AllLt q1 news → Q (.ref q) { s with heap := h', toks := tk' }) :
   wpAny (model PySem.Challenge.rw_nu0023_01.row.toRowW.prog w) (ktrTop dp un gd cn cs L a ccd cl outer) (call (.ref 214) [.ref M, .ref qp]) Q E s := by
  have b1 := bd_mul bA bx
  have b2 := bd_mul bd_zero by'
  have b3 := bd_add b1 b2
  have b4 := bd_mul bd_zero bx
  have b5 := bd_mul bD by'
  have b6 := bd_add b4 b5
  have bz := bd_zero
  rw [← rz1 A rx ry, ← rz2 D ry rx] at hret
  revert X; k_fill; intro X
  refine wpAny_call ?_
  k_dflt (refine' code_def ?k1 ?k2 ?k3 ?k4 ?k5 ?kA ?kF ?kK ?k6 ?k7 ?k8 ?k9 ?kB ?_ ?c2 ?c3 ?c4 ?c5; (case kA => exact rfl); (case kF => exact rfl); (case kK => assumption); (case k1 => k_asm); (case k2 => k_asm); (case k3 => k_asm); (case k4 => k_asm); (case k5 => k_asm); (case k6 => k_is); (case k7 => k_is); (case k8 => first | exact room_e (by assumption) | exact room_in (by assumption) (by exact rfl) | ktr_room); (case k9 => first | exact BindsTo.of_eq rfl | exact binds_K (by k_in) rfl (by k_is) rfl rfl rfl); (case c5 => decide); (case kB => exact locs rfl); (case c2 => exact rfl); (case c3 => exact rfl); (case c4 => exact rfl); k_whole; intro g' L' h' FG' F' N' B' X' T'; (try dsimp only); (try k_lift B'); (try k_fold))
  have Pa' := PA.up Pa FG'.keep
  have Pd' := PA.up Pd FG'.keep
  have Px' := PA.up Px FG'.keep
  have Py' := PA.up Py FG'.keep
  clear Pa Pd Px Py
  k_steps
  exact ret_two hret (by assumption) (by assumption) (by k_mem) (by k_mem) (by k_mem) (by intro p hp; (repeat (first | (with_reducible exact hp) | refine List.mem_cons_of_mem _ ?_))) (by omega) (by omega) (allLt_lt (by assumption) (by omega))
end
theorem words_K11_1 : True := by
  k_with "call ref" => (k_here; (with_reducible show wpAny _ _ (call (Value.ref 214) _) _ _ _); k_dflt (refine' c_vector ?k1 ?k2 ?k3 ?k4 ?k5 ?kK ?kd ?ku ?p1 ?p2 ?p3 ?p4 ?p5 ?p6 ?p7 ?p8 ?p9 ?pa ?pb ?_; (case k1 => k_asm); (case k2 => k_asm); (case k3 => k_asm); (case k4 => k_asm); (case k5 => k_asm); (case kK => first | exact rfl | assumption); (case kd => first | exact room_in (by assumption) (by exact rfl) | exact room_0 (by assumption) (by exact rfl) | ktr_room); (case ku => first | exact unit_3 (by assumption) (by exact rfl) | exact unit_4 (by assumption) (by exact rfl) | exact room_0 (by assumption) (by exact rfl) | ktr_units); (case p1 => k_mem); (case p2 => k_mem); (case p3 => k_mem); (case p4 => first | (with_reducible assumption) | exact PA.more (by with_reducible assumption) (by intro p hp; (repeat (first | (with_reducible exact hp) | refine List.mem_cons_of_mem _ ?_)))); (case p5 => first | (with_reducible assumption) | exact PA.more (by with_reducible assumption) (by intro p hp; (repeat (first | (with_reducible exact hp) | refine List.mem_cons_of_mem _ ?_)))); (case p6 => first | (with_reducible assumption) | exact PA.more (by with_reducible assumption) (by intro p hp; (repeat (first | (with_reducible exact hp) | refine List.mem_cons_of_mem _ ?_)))); (case p7 => first | (with_reducible assumption) | exact PA.more (by with_reducible assumption) (by intro p hp; (repeat (first | (with_reducible exact hp) | refine List.mem_cons_of_mem _ ?_)))); (case p8 => with_reducible assumption); (case p9 => with_reducible assumption); (case pa => with_reducible assumption); (case pb => with_reducible assumption)); intro q9 q8 q7 u1 u2 u3 u4 c1 c2 c3 h9 tk9 F9 N9 o1 o2 l8; (try dsimp only); (try k_sweep); (try k_fold))
  trivial
section
variable {w : World} {mean : ExcName → Option Value} {mg mb : Str → Option Value} {dp un : Nat} {gd : Option (List Code)} {cn : Str} {cs : Scope} {a : Addr} {ccd : Value} {cl : List (Str × Addr)} {outer : List Env} {A₀ : Around} {base h₀ : Heap} {L : Addr} {m : Str → Option Value} {news : List (Addr × Obj)} {s : Shared} {Q E : Value → Shared → Prop}
theorem c_point {A D rx ry rE rF : Rat} {M dM qa qd qe qf qp px py : Addr} {t1 t2 t3 t4 t5 t6 : Tok} {cp : Nat} (B : Below A₀ base outer h₀) (F : Fr h₀ L s.heap m) (X : Frag.In (hd.heap_39 w.params) h₀) (N : News h₀ L s.heap news) (T : Top hd.view_39 LO mean mg mb h₀) (hk : cs.kind = .function) (hdp : dp + 5 < recursionLimit) (hun : un + 40 < cLine)
   (hM : (M, instObj 245 dM) ∈ news) (hdM : (dM, matD w qa 66 66 qd qe qf t1 t2 t3 t4 t5 t6) ∈ news) (hp : (qp, refT px py cp) ∈ news)
   (Pa : PA h₀ news qa A.num A.den) (Pd : PA h₀ news qd D.num D.den) (Px : PA h₀ news px rx.num rx.den) (Py : PA h₀ news py ry.num ry.den)
   (bA : BdN 8 6 A) (bD : BdN 8 6 D) (bx : BdN 10 1 rx) (by' : BdN 10 1 ry)
   (Pe : PA h₀ news qe rE.num rE.den) (Pf : PA h₀ news qf rF.num rF.den) (bE : BdN 960 72 rE) (bF : BdN 960 72 rF)
   (hret : ∀ (q q1 q2 : Addr) (u1 u2 u3 u4 : Tok) (c1 c2 c3 : Nat) (h' : Heap) (tk' : Nat), Fr h₀ L h' m → News h₀ L h' ((q, refT q1 q2 c1) :: (q2, tupO #[.int (D * ry + rF).num u1, .int ((D * ry + rF).den : Int) u2] c2) :: (q1, tupO #[.int (A * rx + rE).num u3, .int ((A * rx + rE).den : Int) u4] c3) :: news) → @LT.lt Nat _ q2 q → @LT.lt Nat _ q1 q2 → AllLt q1 news → Q (.ref q) { s with heap := h', toks := tk' }) :
   wpAny (model PySem.Challenge.rw_nu0023_01.row.toRowW.prog w) (ktrTop dp un gd cn cs L a ccd cl outer) (call (.ref 221) [.ref M, .ref qp]) Q E s := by
  have b1 := bd_mul bA bx
  have b2 := bd_mul bD by'
  revert X; k_fill; intro X
  refine wpAny_call ?_
  k_dflt (refine' code_def ?k1 ?k2 ?k3 ?k4 ?k5 ?kA ?kF ?kK ?k6 ?k7 ?k8 ?k9 ?kB ?_ ?c2 ?c3 ?c4 ?c5; (case kA => exact rfl); (case kF => exact rfl); (case kK => assumption); (case k1 => k_asm); (case k2 => k_asm); (case k3 => k_asm); (case k4 => k_asm); (case k5 => k_asm); (case k6 => k_is); (case k7 => k_is); (case k8 => first | exact room_e (by assumption) | exact room_in (by assumption) (by exact rfl) | ktr_room); (case k9 => first | exact BindsTo.of_eq rfl | exact binds_K (by k_in) rfl (by k_is) rfl rfl rfl); (case c5 => decide); (case kB => exact locs rfl); (case c2 => exact rfl); (case c3 => exact rfl); (case c4 => exact rfl); k_whole; intro g' L' h' FG' F' N' B' X' T'; (try dsimp only); (try k_lift B'); (try k_fold))
  have Pa' := PA.up Pa FG'.keep
  have Pd' := PA.up Pd FG'.keep
  have Px' := PA.up Px FG'.keep
  have Py' := PA.up Py FG'.keep
  have Pe' := PA.up Pe FG'.keep
  have Pf' := PA.up Pf FG'.keep
  clear Pa Pd Px Py Pe Pf
  k_steps
  exact ret_two hret (by assumption) (by assumption) (by k_mem) (by k_mem) (by k_mem) (by intro p hp; (repeat (first | (with_reducible exact hp) | refine List.mem_cons_of_mem _ ?_))) (by omega) (by omega) (allLt_lt (by assumption) (by omega))
end
end Mine
namespace Mine
theorem part_end_K11 : True := by
  w_top off
  trivial
end Mine

-- part K23
namespace Mine
section
variable {w : World} {mean : ExcName → Option Value} {mg mb : Str → Option Value} {dp un : Nat} {gd : Option (List Code)} {cn : Str} {cs : Scope} {a : Addr} {ccd : Value} {cl : List (Str × Addr)} {outer : List Env} {A₀ : Around} {base h₀ : Heap} {L : Addr} {m : Str → Option Value} {news : List (Addr × Obj)} {s : Shared} {Q E : Value → Shared → Prop}
theorem c_cmp0 {n sg : Int} {q : Addr} (B : Below A₀ base outer h₀) (F : Fr h₀ L s.heap m) (X : Frag.In (hd.heap_39 w.params) h₀) (N : News h₀ L s.heap news) (T : Top hd.view_39 LO mean mg mb h₀) (hk : cs.kind = .function) (hdp : dp + 2 < recursionLimit) (hun : un + 16 < cLine) (P : PA h₀ news q n 1) (hb : n.natAbs < 32768) (hs : Int.sign n = sg)
   (hret : ∀ t h' tk', Fr h₀ L h' m → News h₀ L h' news → Q (.int sg t) { s with heap := h', toks := tk' }) :
   wpAny (model PySem.Challenge.rw_nu0023_01.row.toRowW.prog w) (ktrTop dp un gd cn cs L a ccd cl outer) (call (.ref 123) [.ref q, .ref 66]) Q E s := by
  refine c_compare (p := (n : Rat)) (r := (0 : Rat)) B F X N T hk hdp hun P (pa_zero X) hb (show (1 : Nat) < 32768 by decide) (by decide) (by decide) ?_
  intro t h' tk' F' N'
  have e : Int.sign ((n : Rat).num * ((0 : Rat).den : Int) - (0 : Rat).num * ((n : Rat).den : Int)) = sg := by
    rw [← hs]; show Int.sign (n * 1 - 0 * 1) = _; congr 1; omega
  rw [e]
  exact hret t h' tk' F' N'
end
theorem words_K23_0 : True := by
  k_with_none
  k_with "subscriptTail" => (k_here; (with_reducible show wpAny _ _ (subscriptTail _ _ (Value.ref _) (Value.int 0 _)) _ _ _); k_dflt (refine' pa_item0 ?k1 ?k2 ?k3 ?_ ?k4; (case k1 => k_asm); (case k2 => k_asm); (case k3 => first | assumption | exact PA.more (by assumption) (by intro p hp; (repeat (first | (with_reducible exact hp) | refine List.mem_cons_of_mem _ ?_)))); (case k4 => with_unfolding_all rfl)); intro t9)
  k_with "subscriptTail" => (k_here; (with_reducible show wpAny _ _ (subscriptTail _ _ (Value.ref _) (Value.int 1 _)) _ _ _); k_dflt (refine' pa_item1 ?k1 ?k2 ?k3 ?_ ?k4; (case k1 => k_asm); (case k2 => k_asm); (case k3 => first | assumption | exact PA.more (by assumption) (by intro p hp; (repeat (first | (with_reducible exact hp) | refine List.mem_cons_of_mem _ ?_)))); (case k4 => with_unfolding_all rfl)); intro t9)
  k_with "call ref" => (k_here; (with_reducible show wpAny _ _ (call (Value.ref 257) _) _ _ _); k_dflt (refine' c_nums4 ?k1 ?k2 ?k3 ?k4 ?k5 ?kK ?kd ?ku ?p1 ?p2 ?p3 ?qi1 ?qj1 ?qk1 ?qi2 ?qj2 ?qk2 ?qi3 ?qj3 ?qk3 ?qi4 ?qj4 ?qk4 ?_; (case k1 => k_asm); (case k2 => k_asm); (case k3 => k_asm); (case k4 => k_asm); (case k5 => k_asm); (case kK => first | exact rfl | assumption); (case kd => first | exact room_in (by assumption) (by exact rfl) | exact room_0 (by assumption) (by exact rfl) | ktr_room); (case ku => first | exact unit_3 (by assumption) (by exact rfl) | exact unit_4 (by assumption) (by exact rfl) | exact room_0 (by assumption) (by exact rfl) | ktr_units); (case p1 => assumption); (case p2 => assumption); (case p3 => assumption); (case qi1 => assumption); (case qj1 => assumption); (case qk1 => assumption); (case qi2 => assumption); (case qj2 => assumption); (case qk2 => assumption); (case qi3 => assumption); (case qj3 => assumption); (case qk3 => assumption); (case qi4 => assumption); (case qj4 => assumption); (case qk4 => assumption)); intro D1 D2 D3 D4 t1 u1 t2 u2 t3 u3 t4 u4 c1 c2 c3 c4 l n h9 tk9 F9 N9 l9 o1 o2 o3 o4; (try dsimp only); (try k_sweep); (try k_fold))
  k_with "call ref" => (k_here; (with_reducible show wpAny _ _ (call (Value.ref 123) _) _ _ _); k_dflt (refine' c_cmp0 ?k1 ?k2 ?k3 ?k4 ?k5 ?kK ?kd ?ku ?p1 ?p2 ?p3 ?_; (case k1 => k_asm); (case k2 => k_asm); (case k3 => k_asm); (case k4 => k_asm); (case k5 => k_asm); (case kK => first | exact rfl | assumption); (case kd => first | exact room_in (by assumption) (by exact rfl) | exact room_0 (by assumption) (by exact rfl) | ktr_room); (case ku => first | exact unit_3 (by assumption) (by exact rfl) | exact unit_4 (by assumption) (by exact rfl) | exact room_0 (by assumption) (by exact rfl) | ktr_units); (case p1 => first | (with_reducible assumption) | exact PA.mem (by k_mem) | exact PA.more (by with_reducible assumption) (by intro p hp; (repeat (first | (with_reducible exact hp) | refine List.mem_cons_of_mem _ ?_)))); (case p2 => omega); (case p3 => with_reducible assumption)); intro t9 h9 tk9 F9 N9; (try dsimp only); (try k_sweep); (try k_fold))
  trivial
section
variable {w : World} {mean : ExcName → Option Value} {mg mb : Str → Option Value} {dp un : Nat} {gd : Option (List Code)} {cn : Str} {cs : Scope} {a : Addr} {ccd : Value} {cl : List (Str × Addr)} {outer : List Env} {A₀ : Around} {base h₀ : Heap} {L : Addr} {m : Str → Option Value} {news : List (Addr × Obj)} {s : Shared} {Q E : Value → Shared → Prop}
theorem ret_box {n1 n2 n3 n4 : Int} (hret : ∀ (D1 D2 D3 D4 l : Addr) (t1 u1 t2 u2 t3 u3 t4 u4 : Tok) (c1 c2 c3 c4 n : Nat) (h' : Heap) (tk' : Nat), Fr h₀ L h' m → News h₀ L h' ((l, tupO #[.ref D1, .ref D2, .ref D3, .ref D4] n) :: (D1, tupO #[.int n1 t1, .int 1 u1] c1) :: (D2, tupO #[.int n2 t2, .int 1 u2] c2) :: (D3, tupO #[.int n3 t3, .int 1 u3] c3) :: (D4, tupO #[.int n4 t4, .int 1 u4] c4) :: news) → AllLt l news → (∀ i ∈ [D1, D2, D3, D4], AllLt i news) → Q (.ref l) { s with heap := h', toks := tk' }) {D1 D2 D3 D4 l l0 : Addr} {t1 u1 t2 u2 t3 u3 t4 u4 : Tok} {c1 c2 c3 c4 n : Nat} {h' : Heap} {tk' : Nat} {all : List (Addr × Obj)} (F : Fr h₀ L h' m) (N : News h₀ L h' all) (ml : (l, tupO #[.ref D1, .ref D2, .ref D3, .ref D4] n) ∈ all)
  (m1 : (D1, tupO #[.int n1 t1, .int 1 u1] c1) ∈ all) (m2 : (D2, tupO #[.int n2 t2, .int 1 u2] c2) ∈ all) (m3 : (D3, tupO #[.int n3 t3, .int 1 u3] c3) ∈ all) (m4 : (D4, tupO #[.int n4 t4, .int 1 u4] c4) ∈ all) (sub : ∀ p ∈ news, p ∈ all) (lt : AllLt l0 news)
  (o0 : @LT.lt Nat _ l0 l) (o1 : @LT.lt Nat _ l0 D1) (o2 : @LT.lt Nat _ l0 D2) (o3 : @LT.lt Nat _ l0 D3) (o4 : @LT.lt Nat _ l0 D4) : Q (.ref l) { s with heap := h', toks := tk' } :=
  hret D1 D2 D3 D4 l t1 u1 t2 u2 t3 u3 t4 u4 c1 c2 c3 c4 n h' tk' F (by
    intro p hp
    simp only [List.mem_cons] at hp
    rcases hp with rfl | rfl | rfl | rfl | rfl | hp
    · exact N _ ml
    · exact N _ m1
    · exact N _ m2
    · exact N _ m3
    · exact N _ m4
    · exact N _ (sub p hp)) (allLt_lt lt o0) (by
    intro i hi
    simp only [List.mem_cons, List.not_mem_nil, or_false] at hi
    rcases hi with rfl | rfl | rfl | rfl
    · exact allLt_lt lt o1
    · exact allLt_lt lt o2
    · exact allLt_lt lt o3
    · exact allLt_lt lt o4)
theorem c_box {x : Str} {w1 w2 w3 w4 : Str} {n1 n2 n3 n4 : Int} {tx : Tok} (B : Below A₀ base outer h₀) (F : Fr h₀ L s.heap m) (X : Frag.In (hd.heap_39 w.params) h₀) (N : News h₀ L s.heap news) (T : Top hd.view_39 LO mean mg mb h₀) (hk : cs.kind = .function) (hdp : dp + 9 < recursionLimit) (hun : un + 72 < cLine) (hx : x.length ≤ 128) (hx2 : (Txt.replace x (Str.ofString ",") (Str.ofString " ")).length ≤ 128)
   (hw : Txt.words (Txt.replace x (Str.ofString ",") (Str.ofString " ")) = [w1, w2, w3, w4]) (i1 : IsNum w1 n1) (j1 : -4 ≤ n1) (k1 : n1 ≤ 6) (i2 : IsNum w2 n2) (j2 : -4 ≤ n2) (k2 : n2 ≤ 6) (i3 : IsNum w3 n3) (j3 : -4 ≤ n3) (k3 : n3 ≤ 6) (i4 : IsNum w4 n4) (j4 : -4 ≤ n4) (k4 : n4 ≤ 6) (s3 : Int.sign n3 = 1) (s4 : Int.sign n4 = 1)
   (hret : ∀ (D1 D2 D3 D4 l : Addr) (t1 u1 t2 u2 t3 u3 t4 u4 : Tok) (c1 c2 c3 c4 n : Nat) (h' : Heap) (tk' : Nat), Fr h₀ L h' m → News h₀ L h' ((l, tupO #[.ref D1, .ref D2, .ref D3, .ref D4] n) :: (D1, tupO #[.int n1 t1, .int 1 u1] c1) :: (D2, tupO #[.int n2 t2, .int 1 u2] c2) :: (D3, tupO #[.int n3 t3, .int 1 u3] c3) :: (D4, tupO #[.int n4 t4, .int 1 u4] c4) :: news) → AllLt l news → (∀ i ∈ [D1, D2, D3, D4], AllLt i news) → Q (.ref l) { s with heap := h', toks := tk' }) :
   wpAny (model PySem.Challenge.rw_nu0023_01.row.toRowW.prog w) (ktrTop dp un gd cn cs L a ccd cl outer) (call (.ref 264) [.str x tx]) Q E s := by
  revert X; k_fill; intro X
  refine wpAny_call ?_
  k_dflt (refine' code_def ?k1 ?k2 ?k3 ?k4 ?k5 ?kA ?kF ?kK ?k6 ?k7 ?k8 ?k9 ?kB ?_ ?c2 ?c3 ?c4 ?c5; (case kA => exact rfl); (case kF => exact rfl); (case kK => assumption); (case k1 => k_asm); (case k2 => k_asm); (case k3 => k_asm); (case k4 => k_asm); (case k5 => k_asm); (case k6 => k_is); (case k7 => k_is); (case k8 => first | exact room_e (by assumption) | exact room_in (by assumption) (by exact rfl) | ktr_room); (case k9 => first | exact BindsTo.of_eq rfl | exact binds_K (by k_in) rfl (by k_is) rfl rfl rfl); (case c5 => decide); (case kB => exact locs rfl); (case c2 => exact rfl); (case c3 => exact rfl); (case c4 => exact rfl); k_whole; intro g' L' h' FG' F' N' B' X' T'; (try dsimp only); (try k_lift B'); (try k_fold))
  k_steps
  exact ret_box hret (by assumption) (by assumption) (by k_mem) (by k_mem) (by k_mem) (by k_mem) (by k_mem) (by intro p hp; (repeat (first | (with_reducible exact hp) | refine List.mem_cons_of_mem _ ?_))) (by assumption) (by omega) (by omega) (by omega) (by omega) (by omega)
end
end Mine
namespace Mine
theorem part_end_K23 : True := by
  w_top off
  trivial
end Mine

-- part K27
namespace Mine
theorem RaisedSN.sub {base G h : Heap} {l : List Env} {e : Addr} {cls : Value} {news all : List (Addr × Obj)} (R : RaisedSN base G l e cls all h) (sub : ∀ p ∈ news, p ∈ all) : RaisedSN base G l e cls news h := by
  obtain ⟨B, a0, h1, h2, h3, h4⟩ := R
  exact ⟨B, a0, h1, h2, fun q hq => h3 q (sub q hq), h4⟩
theorem words_K27_0 : True := by
  k_with_none
  k_with "subscriptTail" => (k_here; (with_reducible show wpAny _ _ (subscriptTail _ _ (Value.ref _) (Value.int 0 _)) _ _ _); k_dflt (refine' pa_item0 ?k1 ?k2 ?k3 ?_ ?k4; (case k1 => k_asm); (case k2 => k_asm); (case k3 => first | assumption | exact PA.more (by assumption) (by intro p hp; (repeat (first | (with_reducible exact hp) | refine List.mem_cons_of_mem _ ?_)))); (case k4 => with_unfolding_all rfl)); intro t9)
  k_with "subscriptTail" => (k_here; (with_reducible show wpAny _ _ (subscriptTail _ _ (Value.ref _) (Value.int 1 _)) _ _ _); k_dflt (refine' pa_item1 ?k1 ?k2 ?k3 ?_ ?k4; (case k1 => k_asm); (case k2 => k_asm); (case k3 => first | assumption | exact PA.more (by assumption) (by intro p hp; (repeat (first | (with_reducible exact hp) | refine List.mem_cons_of_mem _ ?_)))); (case k4 => with_unfolding_all rfl)); intro t9)
  k_with "exec Raise some none" => (k_here; (with_reducible show wpAny _ _ (exec (Stmt.Raise (some _) none _) _) _ _ _); k_dflt (refine' Raise_exc ?hh ?_; (case hh => first | exact rfl | assumption)))
  k_with "call ref" => (k_here; (with_reducible show wpAny _ _ (call (Value.ref 257) _) _ _ _); k_dflt (first | (refine' c_nums5 ?k1 ?k2 ?k3 ?k4 ?k5 ?kK ?kd ?ku ?p1 ?p2 ?p3 ?qi1 ?qj1 ?qk1 ?qi2 ?qj2 ?qk2 ?qi3 ?qj3 ?qk3 ?qi4 ?qj4 ?qk4 ?qi5 ?qj5 ?qk5 ?_; (case k1 => k_asm); (case k2 => k_asm); (case k3 => k_asm); (case k4 => k_asm); (case k5 => k_asm); (case kK => first | exact rfl | assumption); (case kd => first | exact room_in (by assumption) (by exact rfl) | exact room_0 (by assumption) (by exact rfl) | ktr_room); (case ku => first | exact unit_3 (by assumption) (by exact rfl) | exact unit_4 (by assumption) (by exact rfl) | exact room_0 (by assumption) (by exact rfl) | ktr_units); (case p1 => assumption); (case p2 => assumption); (case p3 => assumption); (case qi1 => assumption); (case qj1 => assumption); (case qk1 => assumption); (case qi2 => assumption); (case qj2 => assumption); (case qk2 => assumption); (case qi3 => assumption); (case qj3 => assumption); (case qk3 => assumption); (case qi4 => assumption); (case qj4 => assumption); (case qk4 => assumption); (case qi5 => assumption); (case qj5 => assumption); (case qk5 => assumption); intro D1 D2 D3 D4 D5 t1 u1 t2 u2 t3 u3 t4 u4 t5 u5 c1 c2 c3 c4 c5 l n h9 tk9 F9 N9 l9 o1 o2 o3 o4 o5) | (refine' c_nums4 ?k1 ?k2 ?k3 ?k4 ?k5 ?kK ?kd ?ku ?p1 ?p2 ?p3 ?qi1 ?qj1 ?qk1 ?qi2 ?qj2 ?qk2 ?qi3 ?qj3 ?qk3 ?qi4 ?qj4 ?qk4 ?_; (case k1 => k_asm); (case k2 => k_asm); (case k3 => k_asm); (case k4 => k_asm); (case k5 => k_asm); (case kK => first | exact rfl | assumption); (case kd => first | exact room_in (by assumption) (by exact rfl) | exact room_0 (by assumption) (by exact rfl) | ktr_room); (case ku => first | exact unit_3 (by assumption) (by exact rfl) | exact unit_4 (by assumption) (by exact rfl) | exact room_0 (by assumption) (by exact rfl) | ktr_units); (case p1 => assumption); (case p2 => assumption); (case p3 => assumption); (case qi1 => assumption); (case qj1 => assumption); (case qk1 => assumption); (case qi2 => assumption); (case qj2 => assumption); (case qk2 => assumption); (case qi3 => assumption); (case qj3 => assumption); (case qk3 => assumption); (case qi4 => assumption); (case qj4 => assumption); (case qk4 => assumption); intro D1 D2 D3 D4 t1 u1 t2 u2 t3 u3 t4 u4 c1 c2 c3 c4 l n h9 tk9 F9 N9 l9 o1 o2 o3 o4) | (refine' c_nums3 ?k1 ?k2 ?k3 ?k4 ?k5 ?kK ?kd ?ku ?p1 ?p2 ?p3 ?qi1 ?qj1 ?qk1 ?qi2 ?qj2 ?qk2 ?qi3 ?qj3 ?qk3 ?_; (case k1 => k_asm); (case k2 => k_asm); (case k3 => k_asm); (case k4 => k_asm); (case k5 => k_asm); (case kK => first | exact rfl | assumption); (case kd => first | exact room_in (by assumption) (by exact rfl) | exact room_0 (by assumption) (by exact rfl) | ktr_room); (case ku => first | exact unit_3 (by assumption) (by exact rfl) | exact unit_4 (by assumption) (by exact rfl) | exact room_0 (by assumption) (by exact rfl) | ktr_units); (case p1 => assumption); (case p2 => assumption); (case p3 => assumption); (case qi1 => assumption); (case qj1 => assumption); (case qk1 => assumption); (case qi2 => assumption); (case qj2 => assumption); (case qk2 => assumption); (case qi3 => assumption); (case qj3 => assumption); (case qk3 => assumption); intro D1 D2 D3 t1 u1 t2 u2 t3 u3 c1 c2 c3 l n h9 tk9 F9 N9 l9 o1 o2 o3) | (refine' c_nums0 ?k1 ?k2 ?k3 ?k4 ?k5 ?kK ?kd ?ku ?p1 ?p2 ?p3  ?_; (case k1 => k_asm); (case k2 => k_asm); (case k3 => k_asm); (case k4 => k_asm); (case k5 => k_asm); (case kK => first | exact rfl | assumption); (case kd => first | exact room_in (by assumption) (by exact rfl) | exact room_0 (by assumption) (by exact rfl) | ktr_room); (case ku => first | exact unit_3 (by assumption) (by exact rfl) | exact unit_4 (by assumption) (by exact rfl) | exact room_0 (by assumption) (by exact rfl) | ktr_units); (case p1 => assumption); (case p2 => assumption); (case p3 => assumption); intro l n h9 tk9 F9 N9 l9)); (try dsimp only); (try k_sweep); (try k_fold))
  k_with "call ref" => (k_here; (with_reducible show wpAny _ _ (call (Value.ref 63) _) _ _ _); k_dflt (refine' c_sheet ?k1 ?k2 ?k3 ?k4 ?k5 ?kK ?kd ?ku  ?_; (case k1 => k_asm); (case k2 => k_asm); (case k3 => k_asm); (case k4 => k_asm); (case k5 => k_asm); (case kK => first | exact rfl | assumption); (case kd => first | exact room_in (by assumption) (by exact rfl) | exact room_0 (by assumption) (by exact rfl) | ktr_room); (case ku => first | exact unit_3 (by assumption) (by exact rfl) | exact unit_4 (by assumption) (by exact rfl) | exact room_0 (by assumption) (by exact rfl) | ktr_units)); intro e9 t9 d9 h9 tk9 F9 N9 ne9; (try dsimp only); (try k_sweep); (try k_fold))
  k_with "call ref" => (k_here; (with_reducible show wpAny _ _ (call (Value.ref 123) _) _ _ _); k_dflt (refine' c_cmp0 ?k1 ?k2 ?k3 ?k4 ?k5 ?kK ?kd ?ku ?p1 ?p2 ?p3 ?_; (case k1 => k_asm); (case k2 => k_asm); (case k3 => k_asm); (case k4 => k_asm); (case k5 => k_asm); (case kK => first | exact rfl | assumption); (case kd => first | exact room_in (by assumption) (by exact rfl) | exact room_0 (by assumption) (by exact rfl) | ktr_room); (case ku => first | exact unit_3 (by assumption) (by exact rfl) | exact unit_4 (by assumption) (by exact rfl) | exact room_0 (by assumption) (by exact rfl) | ktr_units); (case p1 => first | (with_reducible assumption) | exact PA.mem (by k_mem) | exact PA.more (by with_reducible assumption) (by intro p hp; (repeat (first | (with_reducible exact hp) | refine List.mem_cons_of_mem _ ?_)))); (case p2 => omega); (case p3 => with_reducible assumption)); intro t9 h9 tk9 F9 N9; (try dsimp only); (try k_sweep); (try k_fold))
  trivial
section
variable {w : World} {mean : ExcName → Option Value} {mg mb : Str → Option Value} {dp un : Nat} {gd : Option (List Code)} {cn : Str} {cs : Scope} {a : Addr} {ccd : Value} {cl : List (Str × Addr)} {outer : List Env} {A₀ : Around} {base h₀ : Heap} {L : Addr} {m : Str → Option Value} {news : List (Addr × Obj)} {s : Shared} {Q E : Value → Shared → Prop}
theorem r_box0 {x : Str} {tx : Tok} (B : Below A₀ base outer h₀) (F : Fr h₀ L s.heap m) (X : Frag.In (hd.heap_39 w.params) h₀) (N : News h₀ L s.heap news) (T : Top hd.view_39 LO mean mg mb h₀) (hk : cs.kind = .function) (hdp : dp + 9 < recursionLimit) (hun : un + 72 < cLine) (hx : x.length ≤ 128) (hx2 : (Txt.replace x (Str.ofString ",") (Str.ofString " ")).length ≤ 128)
   (hw : Txt.words (Txt.replace x (Str.ofString ",") (Str.ofString " ")) = [])  
   (hexc : ∀ G e h' tk', Fr h₀ L G m → RaisedSN base G (envX cn cs L a ccd cl :: outer) e (.ref 63) news h' → G.UpToSlots h' → E (.ref e) { s with heap := h', toks := tk' }) :
   wpAny (model PySem.Challenge.rw_nu0023_01.row.toRowW.prog w) (ktrTop dp un gd cn cs L a ccd cl outer) (call (.ref 264) [.str x tx]) Q E s := by
  revert X; k_fill; intro X
  refine wpAny_call ?_
  k_dflt (refine' code_def ?k1 ?k2 ?k3 ?k4 ?k5 ?kA ?kF ?kK ?k6 ?k7 ?k8 ?k9 ?kB ?_ ?c2 ?c3 ?c4 ?c5; (case kA => exact rfl); (case kF => exact rfl); (case kK => assumption); (case k1 => k_asm); (case k2 => k_asm); (case k3 => k_asm); (case k4 => k_asm); (case k5 => k_asm); (case k6 => k_is); (case k7 => k_is); (case k8 => first | exact room_e (by assumption) | exact room_in (by assumption) (by exact rfl) | ktr_room); (case k9 => first | exact BindsTo.of_eq rfl | exact binds_K (by k_in) rfl (by k_is) rfl rfl rfl); (case c5 => decide); (case kB => exact locs rfl); (case c2 => exact rfl); (case c3 => exact rfl); (case c4 => exact rfl); k_whole; intro g' L' h' FG' F' N' B' X' T'; (try dsimp only); (try k_lift B'); (try k_fold))
  k_steps
  refine ⟨hd.heap_39 w.params, 63, _, _, _, _, rfl, Frag.In.keeps (by assumption) (Fr.keep (by assumption)), cls63 _, rfl, typ63 _, News.get (by assumption) (by k_mem), rfl, rfl, rfl, ?_⟩
  k_dflt refine leave_exc (C := 63) (by assumption) (by assumption) (by assumption) (by assumption) rfl rfl rfl rfl ?_
  intro hx Rx Ux
  exact hexc _ _ _ _ (by assumption) (RaisedSN.sub Rx (by intro p hp; (repeat (first | (with_reducible exact hp) | refine List.mem_cons_of_mem _ ?_)))) Ux
theorem r_box3 {x : Str} {w1 w2 w3 : Str} {n1 n2 n3 : Int} {tx : Tok} (B : Below A₀ base outer h₀) (F : Fr h₀ L s.heap m) (X : Frag.In (hd.heap_39 w.params) h₀) (N : News h₀ L s.heap news) (T : Top hd.view_39 LO mean mg mb h₀) (hk : cs.kind = .function) (hdp : dp + 9 < recursionLimit) (hun : un + 72 < cLine) (hx : x.length ≤ 128) (hx2 : (Txt.replace x (Str.ofString ",") (Str.ofString " ")).length ≤ 128)
   (hw : Txt.words (Txt.replace x (Str.ofString ",") (Str.ofString " ")) = [w1, w2, w3]) (i1 : IsNum w1 n1) (j1 : -4 ≤ n1) (k1 : n1 ≤ 6) (i2 : IsNum w2 n2) (j2 : -4 ≤ n2) (k2 : n2 ≤ 6) (i3 : IsNum w3 n3) (j3 : -4 ≤ n3) (k3 : n3 ≤ 6) 
   (hexc : ∀ G e h' tk', Fr h₀ L G m → RaisedSN base G (envX cn cs L a ccd cl :: outer) e (.ref 63) news h' → G.UpToSlots h' → E (.ref e) { s with heap := h', toks := tk' }) :
   wpAny (model PySem.Challenge.rw_nu0023_01.row.toRowW.prog w) (ktrTop dp un gd cn cs L a ccd cl outer) (call (.ref 264) [.str x tx]) Q E s := by
  revert X; k_fill; intro X
  refine wpAny_call ?_
  k_dflt (refine' code_def ?k1 ?k2 ?k3 ?k4 ?k5 ?kA ?kF ?kK ?k6 ?k7 ?k8 ?k9 ?kB ?_ ?c2 ?c3 ?c4 ?c5; (case kA => exact rfl); (case kF => exact rfl); (case kK => assumption); (case k1 => k_asm); (case k2 => k_asm); (case k3 => k_asm); (case k4 => k_asm); (case k5 => k_asm); (case k6 => k_is); (case k7 => k_is); (case k8 => first | exact room_e (by assumption) | exact room_in (by assumption) (by exact rfl) | ktr_room); (case k9 => first | exact BindsTo.of_eq rfl | exact binds_K (by k_in) rfl (by k_is) rfl rfl rfl); (case c5 => decide); (case kB => exact locs rfl); (case c2 => exact rfl); (case c3 => exact rfl); (case c4 => exact rfl); k_whole; intro g' L' h' FG' F' N' B' X' T'; (try dsimp only); (try k_lift B'); (try k_fold))
  k_steps
  refine ⟨hd.heap_39 w.params, 63, _, _, _, _, rfl, Frag.In.keeps (by assumption) (Fr.keep (by assumption)), cls63 _, rfl, typ63 _, News.get (by assumption) (by k_mem), rfl, rfl, rfl, ?_⟩
  k_dflt refine leave_exc (C := 63) (by assumption) (by assumption) (by assumption) (by assumption) rfl rfl rfl rfl ?_
  intro hx Rx Ux
  exact hexc _ _ _ _ (by assumption) (RaisedSN.sub Rx (by intro p hp; (repeat (first | (with_reducible exact hp) | refine List.mem_cons_of_mem _ ?_)))) Ux
theorem r_box5 {x : Str} {w1 w2 w3 w4 w5 : Str} {n1 n2 n3 n4 n5 : Int} {tx : Tok} (B : Below A₀ base outer h₀) (F : Fr h₀ L s.heap m) (X : Frag.In (hd.heap_39 w.params) h₀) (N : News h₀ L s.heap news) (T : Top hd.view_39 LO mean mg mb h₀) (hk : cs.kind = .function) (hdp : dp + 9 < recursionLimit) (hun : un + 72 < cLine) (hx : x.length ≤ 128) (hx2 : (Txt.replace x (Str.ofString ",") (Str.ofString " ")).length ≤ 128)
   (hw : Txt.words (Txt.replace x (Str.ofString ",") (Str.ofString " ")) = [w1, w2, w3, w4, w5]) (i1 : IsNum w1 n1) (j1 : -4 ≤ n1) (k1 : n1 ≤ 6) (i2 : IsNum w2 n2) (j2 : -4 ≤ n2) (k2 : n2 ≤ 6) (i3 : IsNum w3 n3) (j3 : -4 ≤ n3) (k3 : n3 ≤ 6) (i4 : IsNum w4 n4) (j4 : -4 ≤ n4) (k4 : n4 ≤ 6) (i5 : IsNum w5 n5) (j5 : -4 ≤ n5) (k5 : n5 ≤ 6) 
   (hexc : ∀ G e h' tk', Fr h₀ L G m → RaisedSN base G (envX cn cs L a ccd cl :: outer) e (.ref 63) news h' → G.UpToSlots h' → E (.ref e) { s with heap := h', toks := tk' }) :
   wpAny (model PySem.Challenge.rw_nu0023_01.row.toRowW.prog w) (ktrTop dp un gd cn cs L a ccd cl outer) (call (.ref 264) [.str x tx]) Q E s := by
  revert X; k_fill; intro X
  refine wpAny_call ?_
  k_dflt (refine' code_def ?k1 ?k2 ?k3 ?k4 ?k5 ?kA ?kF ?kK ?k6 ?k7 ?k8 ?k9 ?kB ?_ ?c2 ?c3 ?c4 ?c5; (case kA => exact rfl); (case kF => exact rfl); (case kK => assumption); (case k1 => k_asm); (case k2 => k_asm); (case k3 => k_asm); (case k4 => k_asm); (case k5 => k_asm); (case k6 => k_is); (case k7 => k_is); (case k8 => first | exact room_e (by assumption) | exact room_in (by assumption) (by exact rfl) | ktr_room); (case k9 => first | exact BindsTo.of_eq rfl | exact binds_K (by k_in) rfl (by k_is) rfl rfl rfl); (case c5 => decide); (case kB => exact locs rfl); (case c2 => exact rfl); (case c3 => exact rfl); (case c4 => exact rfl); k_whole; intro g' L' h' FG' F' N' B' X' T'; (try dsimp only); (try k_lift B'); (try k_fold))
  k_steps
  refine ⟨hd.heap_39 w.params, 63, _, _, _, _, rfl, Frag.In.keeps (by assumption) (Fr.keep (by assumption)), cls63 _, rfl, typ63 _, News.get (by assumption) (by k_mem), rfl, rfl, rfl, ?_⟩
  k_dflt refine leave_exc (C := 63) (by assumption) (by assumption) (by assumption) (by assumption) rfl rfl rfl rfl ?_
  intro hx Rx Ux
  exact hexc _ _ _ _ (by assumption) (RaisedSN.sub Rx (by intro p hp; (repeat (first | (with_reducible exact hp) | refine List.mem_cons_of_mem _ ?_)))) Ux
theorem r_box4a {x : Str} {w1 w2 w3 w4 : Str} {n1 n2 n3 n4 : Int} {tx : Tok} (B : Below A₀ base outer h₀) (F : Fr h₀ L s.heap m) (X : Frag.In (hd.heap_39 w.params) h₀) (N : News h₀ L s.heap news) (T : Top hd.view_39 LO mean mg mb h₀) (hk : cs.kind = .function) (hdp : dp + 9 < recursionLimit) (hun : un + 72 < cLine) (hx : x.length ≤ 128) (hx2 : (Txt.replace x (Str.ofString ",") (Str.ofString " ")).length ≤ 128)
   (hw : Txt.words (Txt.replace x (Str.ofString ",") (Str.ofString " ")) = [w1, w2, w3, w4]) (i1 : IsNum w1 n1) (j1 : -4 ≤ n1) (k1 : n1 ≤ 6) (i2 : IsNum w2 n2) (j2 : -4 ≤ n2) (k2 : n2 ≤ 6) (i3 : IsNum w3 n3) (j3 : -4 ≤ n3) (k3 : n3 ≤ 6) (i4 : IsNum w4 n4) (j4 : -4 ≤ n4) (k4 : n4 ≤ 6) (s3 : Int.sign n3 = -1)
   (hexc : ∀ G e h' tk', Fr h₀ L G m → RaisedSN base G (envX cn cs L a ccd cl :: outer) e (.ref 63) news h' → G.UpToSlots h' → E (.ref e) { s with heap := h', toks := tk' }) :
   wpAny (model PySem.Challenge.rw_nu0023_01.row.toRowW.prog w) (ktrTop dp un gd cn cs L a ccd cl outer) (call (.ref 264) [.str x tx]) Q E s := by
  revert X; k_fill; intro X
  refine wpAny_call ?_
  k_dflt (refine' code_def ?k1 ?k2 ?k3 ?k4 ?k5 ?kA ?kF ?kK ?k6 ?k7 ?k8 ?k9 ?kB ?_ ?c2 ?c3 ?c4 ?c5; (case kA => exact rfl); (case kF => exact rfl); (case kK => assumption); (case k1 => k_asm); (case k2 => k_asm); (case k3 => k_asm); (case k4 => k_asm); (case k5 => k_asm); (case k6 => k_is); (case k7 => k_is); (case k8 => first | exact room_e (by assumption) | exact room_in (by assumption) (by exact rfl) | ktr_room); (case k9 => first | exact BindsTo.of_eq rfl | exact binds_K (by k_in) rfl (by k_is) rfl rfl rfl); (case c5 => decide); (case kB => exact locs rfl); (case c2 => exact rfl); (case c3 => exact rfl); (case c4 => exact rfl); k_whole; intro g' L' h' FG' F' N' B' X' T'; (try dsimp only); (try k_lift B'); (try k_fold))
  k_steps
  refine ⟨hd.heap_39 w.params, 63, _, _, _, _, rfl, Frag.In.keeps (by assumption) (Fr.keep (by assumption)), cls63 _, rfl, typ63 _, News.get (by assumption) (by k_mem), rfl, rfl, rfl, ?_⟩
  k_dflt refine leave_exc (C := 63) (by assumption) (by assumption) (by assumption) (by assumption) rfl rfl rfl rfl ?_
  intro hx Rx Ux
  exact hexc _ _ _ _ (by assumption) (RaisedSN.sub Rx (by intro p hp; (repeat (first | (with_reducible exact hp) | refine List.mem_cons_of_mem _ ?_)))) Ux
theorem r_box4b {x : Str} {w1 w2 w3 w4 : Str} {n1 n2 n3 n4 : Int} {tx : Tok} (B : Below A₀ base outer h₀) (F : Fr h₀ L s.heap m) (X : Frag.In (hd.heap_39 w.params) h₀) (N : News h₀ L s.heap news) (T : Top hd.view_39 LO mean mg mb h₀) (hk : cs.kind = .function) (hdp : dp + 9 < recursionLimit) (hun : un + 72 < cLine) (hx : x.length ≤ 128) (hx2 : (Txt.replace x (Str.ofString ",") (Str.ofString " ")).length ≤ 128)
   (hw : Txt.words (Txt.replace x (Str.ofString ",") (Str.ofString " ")) = [w1, w2, w3, w4]) (i1 : IsNum w1 n1) (j1 : -4 ≤ n1) (k1 : n1 ≤ 6) (i2 : IsNum w2 n2) (j2 : -4 ≤ n2) (k2 : n2 ≤ 6) (i3 : IsNum w3 n3) (j3 : -4 ≤ n3) (k3 : n3 ≤ 6) (i4 : IsNum w4 n4) (j4 : -4 ≤ n4) (k4 : n4 ≤ 6) (s3 : Int.sign n3 = 1) (s4 : Int.sign n4 = 0)
   (hexc : ∀ G e h' tk', Fr h₀ L G m → RaisedSN base G (envX cn cs L a ccd cl :: outer) e (.ref 63) news h' → G.UpToSlots h' → E (.ref e) { s with heap := h', toks := tk' }) :
   wpAny (model PySem.Challenge.rw_nu0023_01.row.toRowW.prog w) (ktrTop dp un gd cn cs L a ccd cl outer) (call (.ref 264) [.str x tx]) Q E s := by
  revert X; k_fill; intro X
  refine wpAny_call ?_
  k_dflt (refine' code_def ?k1 ?k2 ?k3 ?k4 ?k5 ?kA ?kF ?kK ?k6 ?k7 ?k8 ?k9 ?kB ?_ ?c2 ?c3 ?c4 ?c5; (case kA => exact rfl); (case kF => exact rfl); (case kK => assumption); (case k1 => k_asm); (case k2 => k_asm); (case k3 => k_asm); (case k4 => k_asm); (case k5 => k_asm); (case k6 => k_is); (case k7 => k_is); (case k8 => first | exact room_e (by assumption) | exact room_in (by assumption) (by exact rfl) | ktr_room); (case k9 => first | exact BindsTo.of_eq rfl | exact binds_K (by k_in) rfl (by k_is) rfl rfl rfl); (case c5 => decide); (case kB => exact locs rfl); (case c2 => exact rfl); (case c3 => exact rfl); (case c4 => exact rfl); k_whole; intro g' L' h' FG' F' N' B' X' T'; (try dsimp only); (try k_lift B'); (try k_fold))
  k_steps
  refine ⟨hd.heap_39 w.params, 63, _, _, _, _, rfl, Frag.In.keeps (by assumption) (Fr.keep (by assumption)), cls63 _, rfl, typ63 _, News.get (by assumption) (by k_mem), rfl, rfl, rfl, ?_⟩
  k_dflt refine leave_exc (C := 63) (by assumption) (by assumption) (by assumption) (by assumption) rfl rfl rfl rfl ?_
  intro hx Rx Ux
  exact hexc _ _ _ _ (by assumption) (RaisedSN.sub Rx (by intro p hp; (repeat (first | (with_reducible exact hp) | refine List.mem_cons_of_mem _ ?_)))) Ux
end
end Mine
namespace Mine
theorem part_end_K27 : True := by
  w_top off
  trivial
end Mine

-- part K28
namespace Mine
noncomputable def fitT : List Str → Option (Str × Bool)
  | [] => some (Str.ofString "xMidYMid", false)
  | [w] => if okAl w = true then some (w, false) else none
  | [w, t] => if okAl w = true then (if (false || (Str.ofString "meet" == t && true || (Str.ofString "slice" == t && true || false))) = true then some (w, t == Str.ofString "slice") else none) else none
  | _ => none
noncomputable def fitR : List Str → Option (Str × Bool)
  | [] => fitT []
  | w :: r => if (w == Str.ofString "defer") = true then fitT r else fitT (w :: r)
theorem words_K28_0 : True := by
  k_with_none
  k_with "exec Raise some none" => (k_here; (with_reducible show wpAny _ _ (exec (Stmt.Raise (some _) none _) _) _ _ _); k_dflt (refine' Raise_exc ?hh ?_; (case hh => first | exact rfl | assumption)))
  k_with "call builtin:str.split" => (k_here; (with_reducible show wpAny _ _ (call (Value.builtin "str.split") [Value.str _ _]) _ _ _); (refine KSpl.split0 (by k_asm) (by k_asm) ?_ (by (rw [sizeLine_eq]; omega))); intro D' l' h' k' e' a' F' N' l1; (have e2 := Eq.trans e' (by assumption)); clear e'; kspl_open e2; clear e2 a'; (simp only [strValues, List.map_cons, List.map_nil] at N'); (try k_lt l1); (try dsimp only))
  k_with "compareOp Eq ref ref" => (k_here; (with_reducible show wpAny _ _ (compareOp CmpOp.Eq (Value.ref _) (Value.ref _)) _ _ _); (k_dflt refine eq_dataH (by ke_read) (by ke_read) (by (simp [SeqAt.shaped, PyData.canLay0, PyData.canLayAll0, PyData.depth, PyData.depthAll] <;> (repeat' (first | (with_reducible assumption) | decide +kernel | apply And.intro)))) (by (simp [SeqAt.shaped, PyData.canLay0, PyData.canLayAll0, PyData.depth, PyData.depthAll] <;> (repeat' (first | (with_reducible assumption) | decide +kernel | apply And.intro)))) (by ktr_units) ?_); (try (simp only [PyData.eqv, PyData.eqvAll, beq_self_eq_true, Bool.and_true, Bool.true_and, Bool.and_false, Bool.false_and, Bool.not_true, Bool.not_false, decide_true, decide_false, *])))
  k_with "compareOp NotEq ref ref" => (k_here; (with_reducible show wpAny _ _ (compareOp CmpOp.NotEq (Value.ref _) (Value.ref _)) _ _ _); (k_dflt refine ne_dataH (by ke_read) (by ke_read) (by (simp [SeqAt.shaped, PyData.canLay0, PyData.canLayAll0, PyData.depth, PyData.depthAll] <;> (repeat' (first | (with_reducible assumption) | decide +kernel | apply And.intro)))) (by (simp [SeqAt.shaped, PyData.canLay0, PyData.canLayAll0, PyData.depth, PyData.depthAll] <;> (repeat' (first | (with_reducible assumption) | decide +kernel | apply And.intro)))) (by ktr_units) ?_); (try (simp only [PyData.eqv, PyData.eqvAll, beq_self_eq_true, Bool.and_true, Bool.true_and, Bool.and_false, Bool.false_and, Bool.not_true, Bool.not_false, decide_true, decide_false, *])))
  k_with "compareOp NotIn ref ref" => (k_here; (with_reducible show wpAny _ _ (compareOp CmpOp.NotIn (Value.ref _) (Value.ref _)) _ _ _); (k_dflt refine PySem.SeqAt.notIn_tuple_reads (by ke_read) (by ke_read) (by (simp [SeqAt.shaped, PyData.canLay0, PyData.canLayAll0, PyData.depth, PyData.depthAll] <;> (repeat' (first | (with_reducible assumption) | decide +kernel | apply And.intro)))) (by (simp [SeqAt.shaped, PyData.canLay0, PyData.canLayAll0, PyData.depth, PyData.depthAll] <;> (repeat' (first | (with_reducible assumption) | decide +kernel | apply And.intro)))) (room_in_shaped (by (simp [SeqAt.shaped, PyData.canLay0, PyData.canLayAll0, PyData.depth, PyData.depthAll] <;> (repeat' (first | (with_reducible assumption) | decide +kernel | apply And.intro)))) (by ktr_units)) ?_); (try (simp only [PyData.eqv, PyData.eqvAll, beq_self_eq_true, Bool.and_true, Bool.true_and, Bool.and_false, Bool.false_and, Bool.not_true, Bool.not_false, decide_true, decide_false, *])); (try simp only [List.any_cons, List.any_nil, PyData.eqv, PyData.eqvAll]))
  k_with "call ref" => (k_here; (with_reducible show wpAny _ _ (call (Value.ref 271) _) _ _ _); k_dflt (refine' c_alG ?k1 ?k2 ?k3 ?k4 ?k5 ?kK ?kd ?ku ?p1 ?_; (case k1 => k_asm); (case k2 => k_asm); (case k3 => k_asm); (case k4 => k_asm); (case k5 => k_asm); (case kK => first | exact rfl | assumption); (case kd => first | exact room_in (by assumption) (by exact rfl) | exact room_0 (by assumption) (by exact rfl) | ktr_room); (case ku => first | exact unit_3 (by assumption) (by exact rfl) | exact unit_4 (by assumption) (by exact rfl) | exact room_0 (by assumption) (by exact rfl) | ktr_units); (case p1 => first | assumption | omega)); intro h9 tk9 F9 N9; (try dsimp only); (try k_sweep); (try k_fold))
  k_with "call ref" => (k_here; (with_reducible show wpAny _ _ (call (Value.ref 63) _) _ _ _); k_dflt (refine' c_sheet ?k1 ?k2 ?k3 ?k4 ?k5 ?kK ?kd ?ku  ?_; (case k1 => k_asm); (case k2 => k_asm); (case k3 => k_asm); (case k4 => k_asm); (case k5 => k_asm); (case kK => first | exact rfl | assumption); (case kd => first | exact room_in (by assumption) (by exact rfl) | exact room_0 (by assumption) (by exact rfl) | ktr_room); (case ku => first | exact unit_3 (by assumption) (by exact rfl) | exact unit_4 (by assumption) (by exact rfl) | exact room_0 (by assumption) (by exact rfl) | ktr_units)); intro e9 t9 d9 h9 tk9 F9 N9 ne9; (try dsimp only); (try k_sweep); (try k_fold))
  trivial
section
variable {w : World} {mean : ExcName → Option Value} {mg mb : Str → Option Value} {dp un : Nat} {gd : Option (List Code)} {cn : Str} {cs : Scope} {a : Addr} {ccd : Value} {cl : List (Str × Addr)} {outer : List Env} {A₀ : Around} {base h₀ : Heap} {L : Addr} {m : Str → Option Value} {news : List (Addr × Obj)} {s : Shared} {Q E : Value → Shared → Prop}
theorem ret_ft {al : Str} {sl : Bool} (hret : ∀ (q : Addr) (t : Tok) (c : Nat) (h' : Heap) (tk' : Nat), Fr h₀ L h' m → News h₀ L h' ((q, tupO #[.str al t, .bool sl] c) :: news) → AllLt q news → Q (.ref q) { s with heap := h', toks := tk' }) {q l0 : Addr} {t : Tok} {c : Nat} {h' : Heap} {tk' : Nat} {all : List (Addr × Obj)} (F : Fr h₀ L h' m) (N : News h₀ L h' all) (mq : (q, tupO #[.str al t, .bool sl] c) ∈ all) (sub : ∀ p ∈ news, p ∈ all) (lt : AllLt l0 news) (o : @LE.le Nat _ l0 q) : Q (.ref q) { s with heap := h', toks := tk' } :=
  hret q t c h' tk' F (fun p hp => by
    rcases List.mem_cons.mp hp with rfl | hp
    · exact N _ mq
    · exact N _ (sub p hp)) (by
    rcases Nat.lt_or_eq_of_le o with h | h
    · exact allLt_lt lt h
    · exact h ▸ lt)
theorem c_fitK0 {x : Str} {tx : Tok} (B : Below A₀ base outer h₀) (F : Fr h₀ L s.heap m) (X : Frag.In (hd.heap_39 w.params) h₀) (N : News h₀ L s.heap news) (T : Top hd.view_39 LO mean mg mb h₀) (hk : cs.kind = .function) (hdp : dp + 7 < recursionLimit) (hun : un + 96 < cLine) (hx : x.length ≤ 128) (hw : Txt.words x = []) 
   (hret : ∀ al sl, fitR [] = some (al, sl) → ∀ (q : Addr) (t : Tok) (c : Nat) (h' : Heap) (tk' : Nat), Fr h₀ L h' m → News h₀ L h' ((q, tupO #[.str al t, .bool sl] c) :: news) → AllLt q news → Q (.ref q) { s with heap := h', toks := tk' })  :
   wpAny (model PySem.Challenge.rw_nu0023_01.row.toRowW.prog w) (ktrTop dp un gd cn cs L a ccd cl outer) (call (.ref 278) [.str x tx]) Q E s := by
  revert X; k_fill; intro X
  refine wpAny_call ?_
  k_dflt (refine' code_def ?k1 ?k2 ?k3 ?k4 ?k5 ?kA ?kF ?kK ?k6 ?k7 ?k8 ?k9 ?kB ?_ ?c2 ?c3 ?c4 ?c5; (case kA => exact rfl); (case kF => exact rfl); (case kK => assumption); (case k1 => k_asm); (case k2 => k_asm); (case k3 => k_asm); (case k4 => k_asm); (case k5 => k_asm); (case k6 => k_is); (case k7 => k_is); (case k8 => first | exact room_e (by assumption) | exact room_in (by assumption) (by exact rfl) | ktr_room); (case k9 => first | exact BindsTo.of_eq rfl | exact binds_K (by k_in) rfl (by k_is) rfl rfl rfl); (case c5 => decide); (case kB => exact locs rfl); (case c2 => exact rfl); (case c3 => exact rfl); (case c4 => exact rfl); k_whole; intro g' L' h' FG' F' N' B' X' T'; (try dsimp only); (try k_lift B'); (try k_fold))
  k_steps
  · have lx := allLt_of (l := news) (by assumption)
    refine' ret_ft (hret _ _ ?zqe) (by assumption) (by assumption) ?zqm (by intro p hp; (repeat (first | (with_reducible exact hp) | refine List.mem_cons_of_mem _ ?_))) lx (by omega)
    case zqm => k_mem
    case zqe => exact (by simp only [fitR, fitT, *, Bool.false_eq_true, ↓reduceIte])
theorem c_fitK1 {x : Str} {w1 : Str} {tx : Tok} (B : Below A₀ base outer h₀) (F : Fr h₀ L s.heap m) (X : Frag.In (hd.heap_39 w.params) h₀) (N : News h₀ L s.heap news) (T : Top hd.view_39 LO mean mg mb h₀) (hk : cs.kind = .function) (hdp : dp + 7 < recursionLimit) (hun : un + 96 < cLine) (hx : x.length ≤ 128) (hw : Txt.words x = [w1]) (a1 : w1.length ≤ 16) (o1 : PyData.strOk w1 = true)
   (hret : ∀ al sl, fitR [w1] = some (al, sl) → ∀ (q : Addr) (t : Tok) (c : Nat) (h' : Heap) (tk' : Nat), Fr h₀ L h' m → News h₀ L h' ((q, tupO #[.str al t, .bool sl] c) :: news) → AllLt q news → Q (.ref q) { s with heap := h', toks := tk' }) (hexc : fitR [w1] = none → ∀ G e h' tk', Fr h₀ L G m → RaisedSN base G (envX cn cs L a ccd cl :: outer) e (.ref 63) news h' → G.UpToSlots h' → E (.ref e) { s with heap := h', toks := tk' }) :
   wpAny (model PySem.Challenge.rw_nu0023_01.row.toRowW.prog w) (ktrTop dp un gd cn cs L a ccd cl outer) (call (.ref 278) [.str x tx]) Q E s := by
  revert X; k_fill; intro X
  refine wpAny_call ?_
  k_dflt (refine' code_def ?k1 ?k2 ?k3 ?k4 ?k5 ?kA ?kF ?kK ?k6 ?k7 ?k8 ?k9 ?kB ?_ ?c2 ?c3 ?c4 ?c5; (case kA => exact rfl); (case kF => exact rfl); (case kK => assumption); (case k1 => k_asm); (case k2 => k_asm); (case k3 => k_asm); (case k4 => k_asm); (case k5 => k_asm); (case k6 => k_is); (case k7 => k_is); (case k8 => first | exact room_e (by assumption) | exact room_in (by assumption) (by exact rfl) | ktr_room); (case k9 => first | exact BindsTo.of_eq rfl | exact binds_K (by k_in) rfl (by k_is) rfl rfl rfl); (case c5 => decide); (case kB => exact locs rfl); (case c2 => exact rfl); (case c3 => exact rfl); (case c4 => exact rfl); k_whole; intro g' L' h' FG' F' N' B' X' T'; (try dsimp only); (try k_lift B'); (try k_fold))
  k_steps
  · have lx := allLt_of (l := news) (by assumption)
    refine' ret_ft (hret _ _ ?zqe) (by assumption) (by assumption) ?zqm (by intro p hp; (repeat (first | (with_reducible exact hp) | refine List.mem_cons_of_mem _ ?_))) lx (by omega)
    case zqm => k_mem
    case zqe => exact (by simp only [fitR, fitT, *, Bool.false_eq_true, ↓reduceIte])
  · have lx := allLt_of (l := news) (by assumption)
    refine' ret_ft (hret _ _ ?zqe) (by assumption) (by assumption) ?zqm (by intro p hp; (repeat (first | (with_reducible exact hp) | refine List.mem_cons_of_mem _ ?_))) lx (by omega)
    case zqm => k_mem
    case zqe => exact (by simp only [fitR, fitT, *, Bool.false_eq_true, ↓reduceIte])
  · refine ⟨hd.heap_39 w.params, 63, _, _, _, _, rfl, Frag.In.keeps (by assumption) (Fr.keep (by assumption)), cls63 _, rfl, typ63 _, News.get (by assumption) (by k_mem), rfl, rfl, rfl, ?_⟩
    k_dflt refine leave_exc (C := 63) (by assumption) (by assumption) (by assumption) (by assumption) rfl rfl rfl rfl ?_
    intro hx9 Rx Ux
    exact hexc (by simp only [fitR, fitT, *, Bool.false_eq_true, ↓reduceIte]) _ _ _ _ (by assumption) (RaisedSN.sub Rx (by intro p hp; (repeat (first | (with_reducible exact hp) | refine List.mem_cons_of_mem _ ?_)))) Ux
theorem c_fitK2 {x : Str} {w1 w2 : Str} {tx : Tok} (B : Below A₀ base outer h₀) (F : Fr h₀ L s.heap m) (X : Frag.In (hd.heap_39 w.params) h₀) (N : News h₀ L s.heap news) (T : Top hd.view_39 LO mean mg mb h₀) (hk : cs.kind = .function) (hdp : dp + 7 < recursionLimit) (hun : un + 96 < cLine) (hx : x.length ≤ 128) (hw : Txt.words x = [w1, w2]) (a1 : w1.length ≤ 16) (o1 : PyData.strOk w1 = true) (a2 : w2.length ≤ 16) (o2 : PyData.strOk w2 = true)
   (hret : ∀ al sl, fitR [w1, w2] = some (al, sl) → ∀ (q : Addr) (t : Tok) (c : Nat) (h' : Heap) (tk' : Nat), Fr h₀ L h' m → News h₀ L h' ((q, tupO #[.str al t, .bool sl] c) :: news) → AllLt q news → Q (.ref q) { s with heap := h', toks := tk' }) (hexc : fitR [w1, w2] = none → ∀ G e h' tk', Fr h₀ L G m → RaisedSN base G (envX cn cs L a ccd cl :: outer) e (.ref 63) news h' → G.UpToSlots h' → E (.ref e) { s with heap := h', toks := tk' }) :
   wpAny (model PySem.Challenge.rw_nu0023_01.row.toRowW.prog w) (ktrTop dp un gd cn cs L a ccd cl outer) (call (.ref 278) [.str x tx]) Q E s := by
  revert X; k_fill; intro X
  refine wpAny_call ?_
  k_dflt (refine' code_def ?k1 ?k2 ?k3 ?k4 ?k5 ?kA ?kF ?kK ?k6 ?k7 ?k8 ?k9 ?kB ?_ ?c2 ?c3 ?c4 ?c5; (case kA => exact rfl); (case kF => exact rfl); (case kK => assumption); (case k1 => k_asm); (case k2 => k_asm); (case k3 => k_asm); (case k4 => k_asm); (case k5 => k_asm); (case k6 => k_is); (case k7 => k_is); (case k8 => first | exact room_e (by assumption) | exact room_in (by assumption) (by exact rfl) | ktr_room); (case k9 => first | exact BindsTo.of_eq rfl | exact binds_K (by k_in) rfl (by k_is) rfl rfl rfl); (case c5 => decide); (case kB => exact locs rfl); (case c2 => exact rfl); (case c3 => exact rfl); (case c4 => exact rfl); k_whole; intro g' L' h' FG' F' N' B' X' T'; (try dsimp only); (try k_lift B'); (try k_fold))
  k_steps
  · have lx := allLt_of (l := news) (by assumption)
    refine' ret_ft (hret _ _ ?zqe) (by assumption) (by assumption) ?zqm (by intro p hp; (repeat (first | (with_reducible exact hp) | refine List.mem_cons_of_mem _ ?_))) lx (by omega)
    case zqm => k_mem
    case zqe => exact (by simp only [fitR, fitT, *, Bool.false_eq_true, ↓reduceIte])
  · refine ⟨hd.heap_39 w.params, 63, _, _, _, _, rfl, Frag.In.keeps (by assumption) (Fr.keep (by assumption)), cls63 _, rfl, typ63 _, News.get (by assumption) (by k_mem), rfl, rfl, rfl, ?_⟩
    k_dflt refine leave_exc (C := 63) (by assumption) (by assumption) (by assumption) (by assumption) rfl rfl rfl rfl ?_
    intro hx9 Rx Ux
    exact hexc (by simp only [fitR, fitT, *, Bool.false_eq_true, ↓reduceIte]) _ _ _ _ (by assumption) (RaisedSN.sub Rx (by intro p hp; (repeat (first | (with_reducible exact hp) | refine List.mem_cons_of_mem _ ?_)))) Ux
  · have lx := allLt_of (l := news) (by assumption)
    refine' ret_ft (hret _ _ ?zqe) (by assumption) (by assumption) ?zqm (by intro p hp; (repeat (first | (with_reducible exact hp) | refine List.mem_cons_of_mem _ ?_))) lx (by omega)
    case zqm => k_mem
    case zqe => exact (by simp only [fitR, fitT, *, Bool.false_eq_true, ↓reduceIte])
  · refine ⟨hd.heap_39 w.params, 63, _, _, _, _, rfl, Frag.In.keeps (by assumption) (Fr.keep (by assumption)), cls63 _, rfl, typ63 _, News.get (by assumption) (by k_mem), rfl, rfl, rfl, ?_⟩
    k_dflt refine leave_exc (C := 63) (by assumption) (by assumption) (by assumption) (by assumption) rfl rfl rfl rfl ?_
    intro hx9 Rx Ux
    exact hexc (by simp only [fitR, fitT, *, Bool.false_eq_true, ↓reduceIte]) _ _ _ _ (by assumption) (RaisedSN.sub Rx (by intro p hp; (repeat (first | (with_reducible exact hp) | refine List.mem_cons_of_mem _ ?_)))) Ux
  · refine ⟨hd.heap_39 w.params, 63, _, _, _, _, rfl, Frag.In.keeps (by assumption) (Fr.keep (by assumption)), cls63 _, rfl, typ63 _, News.get (by assumption) (by k_mem), rfl, rfl, rfl, ?_⟩
    k_dflt refine leave_exc (C := 63) (by assumption) (by assumption) (by assumption) (by assumption) rfl rfl rfl rfl ?_
    intro hx9 Rx Ux
    exact hexc (by simp only [fitR, fitT, *, Bool.false_eq_true, ↓reduceIte]) _ _ _ _ (by assumption) (RaisedSN.sub Rx (by intro p hp; (repeat (first | (with_reducible exact hp) | refine List.mem_cons_of_mem _ ?_)))) Ux
theorem c_fitK3 {x : Str} {w1 w2 w3 : Str} {tx : Tok} (B : Below A₀ base outer h₀) (F : Fr h₀ L s.heap m) (X : Frag.In (hd.heap_39 w.params) h₀) (N : News h₀ L s.heap news) (T : Top hd.view_39 LO mean mg mb h₀) (hk : cs.kind = .function) (hdp : dp + 7 < recursionLimit) (hun : un + 96 < cLine) (hx : x.length ≤ 128) (hw : Txt.words x = [w1, w2, w3]) (a1 : w1.length ≤ 16) (o1 : PyData.strOk w1 = true) (a2 : w2.length ≤ 16) (o2 : PyData.strOk w2 = true) (a3 : w3.length ≤ 16) (o3 : PyData.strOk w3 = true)
   (hret : ∀ al sl, fitR [w1, w2, w3] = some (al, sl) → ∀ (q : Addr) (t : Tok) (c : Nat) (h' : Heap) (tk' : Nat), Fr h₀ L h' m → News h₀ L h' ((q, tupO #[.str al t, .bool sl] c) :: news) → AllLt q news → Q (.ref q) { s with heap := h', toks := tk' }) (hexc : fitR [w1, w2, w3] = none → ∀ G e h' tk', Fr h₀ L G m → RaisedSN base G (envX cn cs L a ccd cl :: outer) e (.ref 63) news h' → G.UpToSlots h' → E (.ref e) { s with heap := h', toks := tk' }) :
   wpAny (model PySem.Challenge.rw_nu0023_01.row.toRowW.prog w) (ktrTop dp un gd cn cs L a ccd cl outer) (call (.ref 278) [.str x tx]) Q E s := by
  revert X; k_fill; intro X
  refine wpAny_call ?_
  k_dflt (refine' code_def ?k1 ?k2 ?k3 ?k4 ?k5 ?kA ?kF ?kK ?k6 ?k7 ?k8 ?k9 ?kB ?_ ?c2 ?c3 ?c4 ?c5; (case kA => exact rfl); (case kF => exact rfl); (case kK => assumption); (case k1 => k_asm); (case k2 => k_asm); (case k3 => k_asm); (case k4 => k_asm); (case k5 => k_asm); (case k6 => k_is); (case k7 => k_is); (case k8 => first | exact room_e (by assumption) | exact room_in (by assumption) (by exact rfl) | ktr_room); (case k9 => first | exact BindsTo.of_eq rfl | exact binds_K (by k_in) rfl (by k_is) rfl rfl rfl); (case c5 => decide); (case kB => exact locs rfl); (case c2 => exact rfl); (case c3 => exact rfl); (case c4 => exact rfl); k_whole; intro g' L' h' FG' F' N' B' X' T'; (try dsimp only); (try k_lift B'); (try k_fold))
  k_steps
  · have lx := allLt_of (l := news) (by assumption)
    refine' ret_ft (hret _ _ ?zqe) (by assumption) (by assumption) ?zqm (by intro p hp; (repeat (first | (with_reducible exact hp) | refine List.mem_cons_of_mem _ ?_))) lx (by omega)
    case zqm => k_mem
    case zqe => exact (by simp only [fitR, fitT, *, Bool.false_eq_true, ↓reduceIte])
  · refine ⟨hd.heap_39 w.params, 63, _, _, _, _, rfl, Frag.In.keeps (by assumption) (Fr.keep (by assumption)), cls63 _, rfl, typ63 _, News.get (by assumption) (by k_mem), rfl, rfl, rfl, ?_⟩
    k_dflt refine leave_exc (C := 63) (by assumption) (by assumption) (by assumption) (by assumption) rfl rfl rfl rfl ?_
    intro hx9 Rx Ux
    exact hexc (by simp only [fitR, fitT, *, Bool.false_eq_true, ↓reduceIte]) _ _ _ _ (by assumption) (RaisedSN.sub Rx (by intro p hp; (repeat (first | (with_reducible exact hp) | refine List.mem_cons_of_mem _ ?_)))) Ux
  · refine ⟨hd.heap_39 w.params, 63, _, _, _, _, rfl, Frag.In.keeps (by assumption) (Fr.keep (by assumption)), cls63 _, rfl, typ63 _, News.get (by assumption) (by k_mem), rfl, rfl, rfl, ?_⟩
    k_dflt refine leave_exc (C := 63) (by assumption) (by assumption) (by assumption) (by assumption) rfl rfl rfl rfl ?_
    intro hx9 Rx Ux
    exact hexc (by simp only [fitR, fitT, *, Bool.false_eq_true, ↓reduceIte]) _ _ _ _ (by assumption) (RaisedSN.sub Rx (by intro p hp; (repeat (first | (with_reducible exact hp) | refine List.mem_cons_of_mem _ ?_)))) Ux
  · refine ⟨hd.heap_39 w.params, 63, _, _, _, _, rfl, Frag.In.keeps (by assumption) (Fr.keep (by assumption)), cls63 _, rfl, typ63 _, News.get (by assumption) (by k_mem), rfl, rfl, rfl, ?_⟩
    k_dflt refine leave_exc (C := 63) (by assumption) (by assumption) (by assumption) (by assumption) rfl rfl rfl rfl ?_
    intro hx9 Rx Ux
    exact hexc (by simp only [fitR, fitT, *, Bool.false_eq_true, ↓reduceIte]) _ _ _ _ (by assumption) (RaisedSN.sub Rx (by intro p hp; (repeat (first | (with_reducible exact hp) | refine List.mem_cons_of_mem _ ?_)))) Ux
  · refine ⟨hd.heap_39 w.params, 63, _, _, _, _, rfl, Frag.In.keeps (by assumption) (Fr.keep (by assumption)), cls63 _, rfl, typ63 _, News.get (by assumption) (by k_mem), rfl, rfl, rfl, ?_⟩
    k_dflt refine leave_exc (C := 63) (by assumption) (by assumption) (by assumption) (by assumption) rfl rfl rfl rfl ?_
    intro hx9 Rx Ux
    exact hexc (by simp only [fitR, fitT, *, Bool.false_eq_true, ↓reduceIte]) _ _ _ _ (by assumption) (RaisedSN.sub Rx (by intro p hp; (repeat (first | (with_reducible exact hp) | refine List.mem_cons_of_mem _ ?_)))) Ux
end
end Mine
namespace Mine
theorem part_end_K28 : True := by
  w_top off
  trivial
end Mine

-- part E4
namespace Mine
section
variable {A₀ : Around} {base h₀ g g' h' : Heap} {outer : List Env} {L L' : Addr} {m m' : Str → Option Value} {env : Env} {news' : List (Addr × Obj)}
theorem memX {b : Addr} (hf : env.frame = some L) (hm : b ∈ (env :: outer).filterMap (·.frame)) : b = L ∨ b ∈ outer.filterMap (·.frame) := by
  rw [List.filterMap_cons_some hf] at hm
  rcases List.mem_cons.mp hm with h | h
  · exact .inl h
  · exact .inr h
/-- back in the caller after the frames below were looked at -/
theorem turned (B : Below A₀ base outer h₀) (FG : Fr h₀ L g m) (hf : env.frame = some L) (T' : KtsTurn ((env :: outer).filterMap (·.frame)) g g') (F' : Fr g' L' h' m') (N' : News g' L' h' news') :
    ∃ h₀', KtsTurn (outer.filterMap (·.frame)) h₀ h₀' ∧ Fr h₀' L h' m ∧ News h₀' L h' news' ∧ Below A₀ base outer h₀' := by
  obtain ⟨oL, es, ep, hLg, hLd, hLk, hLf⟩ := FG.ns
  have nL₀ : h₀.get? L = none := kts_self FG
  have st := FG.keep
  obtain ⟨sl, hs⟩ := T'.up hLg
  obtain ⟨T₁, S₁⟩ := kts_turn_at (h := h') (fs := outer.filterMap (·.frame)) (g := h₀)
    (fun b hb => by
      obtain ⟨_, o, ho', _⟩ := B.frames.mem hb
      exact ⟨o, ho'⟩)
    (fun b o e nmem => F'.keep b o (T'.other b o (st b o e) (fun q => by
      rcases memX hf q with z | z
      · rw [z, nL₀] at e; cases e
      · exact nmem z)))
    (fun b o e hm => by
      obtain ⟨sl', hs'⟩ := T'.up (st b o e)
      exact ⟨sl', F'.keep _ _ hs'⟩)
  have B₃ : Below A₀ base outer (ktsHeap h' (outer.filterMap (·.frame)) h₀) := ⟨B.stack, fun b o e => T₁.other b o (B.stays b o e) (fun hm => by
    rw [(B.frames.mem hm).1] at e; cases e), B.frames.of_keeps fun b o e _ => by
    obtain ⟨sl', hs'⟩ := T₁.up e
    exact ⟨_, hs', rfl⟩⟩
  refine ⟨_, T₁, ⟨⟨_, es, ep, F'.keep _ _ hs, hLd, hLk, hLf⟩, S₁, by rw [T₁.size]; exact FG.above⟩, fun p hp => ⟨(N' p hp).1, fun q => ?_, ?_⟩, B₃⟩
  · have := (N' p hp).2.2; rw [q, hs] at this; cases this
  · refine T₁.none_ _ ?_
    cases q : h₀.get? p.1 with
    | none => rfl
    | some o =>
      obtain ⟨sl', hs'⟩ := T'.up (st _ _ q)
      have := (N' p hp).2.2
      rw [hs'] at this; cases this
theorem dictsX (D : KtsDicts (outer.filterMap (·.frame)) h₀) (FG : Fr h₀ L g m) (hf : env.frame = some L) : KtsDicts ((env :: outer).filterMap (·.frame)) g := fun b hb => by
  rcases memX hf hb with rfl | hb
  · obtain ⟨oL, es, ep, hLg, hLd, _⟩ := FG.ns
    exact ⟨oL, es, ep, hLg, hLd⟩
  · obtain ⟨o, es', n', ho', hd'⟩ := D b hb
    exact ⟨o, es', n', FG.keep b o ho', hd'⟩
theorem backK {K : Frag} {p : Program} {loose : List Str} {mean : ExcName → Option Value} {mg mb : Str → Option Value} {R : Result → Shared → Prop} {v : Value} {s' : Shared} {g₀ : Heap} (B : Below A₀ base outer h₀) (FG : Fr h₀ L g m) (hf : env.frame = some L)
    (XB : K.In base) (TB : Top p loose mean mg mb base) (D : KtsDicts (outer.filterMap (·.frame)) h₀) (T0 : KtsTurn (outer.filterMap (·.frame)) g₀ h₀)
    (hl : LeaveS ((env :: outer).filterMap (·.frame)) A₀ base outer K p loose mean mg mb g₀ h₀ L m g R v s') : R (.ok (.ret v)) s' := by
  rcases hl with ⟨L', m', news', F', N', k⟩ | ⟨g', L', m', news', T', F', N', k⟩
  · obtain ⟨oL, es, ep, hLg, hLd, hLk, hLf⟩ := FG.ns
    refine k ⟨⟨oL, es, ep, F'.keep L oL hLg, hLd, hLk, hLf⟩, fun b o e => F'.keep b o (FG.keep b o e), FG.above⟩ fun p hp => ⟨(N' p hp).1, fun q => ?_, ?_⟩
    · have := (N' p hp).2.2; rw [q, hLg] at this; cases this
    · cases q : h₀.get? p.1 with
      | none => rfl
      | some o => have := (N' p hp).2.2; rw [FG.keep _ _ q] at this; cases this
  · obtain ⟨h₁, T₁, F₁, N₁, B₁⟩ := turned B FG hf T' F' N'
    exact k h₁ (T0.trans T₁) F₁ N₁ B₁ (XB.keeps B₁.stays) (TB.keeps B₁.stays) (D.turn T₁)
end
section
variable {prog : Program} {w : World} {A₀ A : Around} {s : Shared} {base h₀ g₀ : Heap} {outer : List Env} {L : Addr} {m : Str → Option Value} {env : Env} {news : List (Addr × Obj)} {K : Frag} {p : Program} {loose : List Str} {mean : ExcName → Option Value} {mg mb : Str → Option Value}
  {R : Result → Shared → Prop} {name qual : Str} {params : Arguments} {body : List Stmt} {scope : Scope} {dV kV doc pm cdv ct oc : Value} {an od : Option Addr} {osl : Array (Option Value)} {f : Addr} {args : Args} {binds : List (Str × Value)}

theorem code_defSX (B : Below A₀ base outer h₀) (F : Fr h₀ L s.heap m) (X₀ : K.In h₀) (N : News h₀ L s.heap news) (T : Top p loose mean mg mb h₀) (XB : K.In base) (TB : Top p loose mean mg mb base) (D : KtsDicts (outer.filterMap (·.frame)) h₀)
    (T0 : KtsTurn (outer.filterMap (·.frame)) g₀ h₀) (hA : A.frames = some (env :: outer)) (hf : env.frame = some L) (hke : env.scope.kind = .function)
    (ho : K.lookup f = some ⟨oc, od, .func (fnOf name qual params body scope dV kV doc pm an cdv ct), osl⟩) (hcd : codeIn K cdv qual = true) (hroom : A.depth < recursionLimit)
    (hbind : BindsTo s (fnOf name qual params body scope dV kV doc pm an cdv ct) args binds) (hloc : ∀ y ∈ binds, scope.names.lookup y.1 = some .local)
    (h : ∀ g L' h₁, Fr h₀ L g m → Fr g L' h₁ (fun y => binds.reverse.lookup y) → News g L' h₁ news → Below A base (env :: outer) g → K.In g → Top p loose mean mg mb g → KtsDicts ((env :: outer).filterMap (·.frame)) g →
      wpAny (model prog w) (A.deeper (envOf qual scope L' f cdv)) (execs body (envOf qual scope L' f cdv))
        (fun fl s' => LeaveS ((env :: outer).filterMap (·.frame)) A₀ base outer K p loose mean mg mb g₀ h₀ L m g R (match fl with | .ret v => v | _ => .none) s')
        (fun e s' => wpAny (model prog w) (A.deeper (envOf qual scope L' f cdv)) (leaving (envOf qual scope L' f cdv) e) (fun _ s'' => R (.error e) s'') (fun e' s'' => R (.error e') s'') s')
        { s with heap := h₁, toks := s.toks + binds.length })
    (hco : scope.isCoroutine = false) (hgen : scope.isGenerator = false) (hk : scope.kind = .function)
    (hcell : ∀ x ∈ scope.names, x.2 ≠ .cell) : codeAny (model prog w) A (.call (.ref f) args) R s := by
  have X := X₀.keeps F.keep
  obtain ⟨FG, BG, st, -⟩ := groundX (R := R) B F N hA hf hke
  refine codeAny_call_def (fd := fnOf name qual params body scope dV kV doc pm an cdv ct) (body := body) (binds := binds) hroom (X _ _ ho) rfl (T.nolimit.keeps F.keep) (codeRec_of X hcd) rfl hbind hcell hloc (fun h₁ hns hk₁ => ?_) hco hgen hk
  exact wpAny_mono (h _ s.heap.objs.size h₁ FG ⟨hns, fun b o e => hk₁ b o (of_hideAll _ e), Nat.le_of_eq (hideAll_size _ _)⟩
    (fun p hp => ⟨hk₁ _ _ (N p hp).1, Nat.ne_of_lt (Heap.lt_size (N p hp).1), hideAll_none _ (List.mem_map_of_mem hp)⟩) BG (X₀.keeps st) (T.keeps st) (dictsX D FG hf)) (fun fl s' hl => backK B FG hf XB TB D T0 hl) fun _ _ y => y

theorem code_defSC (B : Below A₀ base outer h₀) (F : Fr h₀ L s.heap m) (X₀ : K.In h₀) (N : News h₀ L s.heap news) (T : Top p loose mean mg mb h₀) (XB : K.In base) (TB : Top p loose mean mg mb base) (D : KtsDicts (outer.filterMap (·.frame)) h₀)
    (T0 : KtsTurn (outer.filterMap (·.frame)) g₀ h₀) (hA : A.frames = some (env :: outer)) (hf : env.frame = some L) (hke : env.scope.kind = .function)
    (ho : K.lookup f = some ⟨oc, od, .func (fnOf name qual params body scope dV kV doc pm an cdv ct), osl⟩) (hcd : codeIn K cdv qual = true) (hroom : A.depth < recursionLimit)
    (hbind : BindsTo s (fnOf name qual params body scope dV kV doc pm an cdv ct) args binds) (hkind : (binds.all fun y => scope.names.lookup y.1 == some .local || scope.names.lookup y.1 == some .cell) = true)
    (hnd : ((cellsFrom 0 scope.names []).map (·.1)).Nodup)
    (h : ∀ g L' h₁ tk cells, Fr h₀ L g m → Fr g L' h₁ (bindL (envOfC qual scope L' f cdv).kindOf binds fun _ => none) → News g L' h₁ (cells ++ news) →
      CellsAre (bindC (envOfC qual scope L' f cdv).kindOf binds fun _ => none) (cellsFrom (L' + 1) scope.names []) cells → Below A base (env :: outer) g → K.In g → Top p loose mean mg mb g → (∀ p ∈ news, p.1 < L') → KtsDicts ((env :: outer).filterMap (·.frame)) g →
      wpAny (model prog w) (A.deeper (envOfC qual scope L' f cdv)) (execs body (envOfC qual scope L' f cdv))
        (fun fl s' => LeaveS ((env :: outer).filterMap (·.frame)) A₀ base outer K p loose mean mg mb g₀ h₀ L m g R (match fl with | .ret v => v | _ => .none) s')
        (fun e s' => wpAny (model prog w) (A.deeper (envOfC qual scope L' f cdv)) (leaving (envOfC qual scope L' f cdv) e) (fun _ s'' => R (.error e) s'') (fun e' s'' => R (.error e') s'') s')
        { s with heap := h₁, toks := tk })
    (hco : scope.isCoroutine = false) (hgen : scope.isGenerator = false) (hk : scope.kind = .function) : codeAny (model prog w) A (.call (.ref f) args) R s := by
  have X := X₀.keeps F.keep
  obtain ⟨FG, BG, st, -⟩ := groundX (R := R) B F N hA hf hke
  refine codeAny_call_function hroom (X _ _ ho) rfl hco hgen rfl (codeRec_of X hcd) (hbind _ _ _ _ ?_)
  refine wpAny_newFunctionEnv_cells hk (kindsX hkind _) fun env' he s' x => ?_
  subst he
  refine ⟨(T.nolimit.keeps F.keep).keeps x.toInCall.keep, codeAny_func ?_⟩
  obtain ⟨h₁, tk, rfl, _⟩ := x.done
  have hk₁ := x.toInCall.keep
  obtain ⟨cells, NC, Y⟩ := Cl.news (h₀ := s.heap) (Nat.le_refl _) fun n c hm => ⟨x.cell n c (lookup_of_mem_nodup (cellsFrom_names scope.names 0 (s.heap.objs.size + 1) [] [] rfl ▸ hnd) hm), x.above n c hm⟩
  refine wpAny_mono (h _ s.heap.objs.size h₁ tk cells FG ⟨x.toInCall.ns, fun b o e => hk₁ b o (of_hideAll _ e), Nat.le_of_eq (hideAll_size _ _)⟩ (fun p hp => ?_) Y BG (X₀.keeps st) (T.keeps st) (fun p hp => Heap.lt_size (N p hp).1) (dictsX D FG hf)) (fun fl s' hl => backK B FG hf XB TB D T0 hl) fun _ _ y => y
  rcases List.mem_append.mp hp with hp | hp
  · refine ⟨(NC p hp).1, (NC p hp).2.1, ?_⟩
    cases q : (hideAll s.heap (news.map (·.1))).get? p.1 with
    | none => rfl
    | some o => have := of_hideAll _ q; rw [(NC p hp).2.2] at this; cases this
  · exact ⟨hk₁ _ _ (N p hp).1, Nat.ne_of_lt (Heap.lt_size (N p hp).1), hideAll_none _ (List.mem_map_of_mem hp)⟩
end
end Mine
namespace Mine
theorem part_end_E4 : True := by
  w_top off
  trivial
end Mine

-- part K29
namespace Mine
/-- in every surrounding the call raises SheetFault -/
noncomputable def Refuses (w : World) (f : Addr) (x : Str) : Prop := ∀ (mean : ExcName → Option Value) (mg mb : Str → Option Value) (dp un : Nat) (gd : Option (List Code)) (cn : Str) (cs : Scope) (a : Addr) (ccd : Value) (cl : List (Str × Addr)) (outer : List Env) (A₀ : Around) (base h₀ : Heap) (L : Addr) (m : Str → Option Value) (news : List (Addr × Obj)) (s : Shared) (Q E : Value → Shared → Prop) (tx : Tok),
  Below A₀ base outer h₀ → Fr h₀ L s.heap m → Frag.In (hd.heap_39 w.params) h₀ → News h₀ L s.heap news → Top hd.view_39 LO mean mg mb h₀ → cs.kind = .function → dp + 10 < recursionLimit → un + 104 < cLine →
  Frag.In (hd.heap_39 w.params) base → Top hd.view_39 LO mean mg mb base → KtsDicts (outer.filterMap (·.frame)) h₀ →
  (∀ G e h' tk', Fr h₀ L G m → RaisedSN base G (envX cn cs L a ccd cl :: outer) e (.ref 63) news h' → G.UpToSlots h' → E (.ref e) { s with heap := h', toks := tk' }) →
  wpAny (model PySem.Challenge.rw_nu0023_01.row.toRowW.prog w) (ktrTop dp un gd cn cs L a ccd cl outer) (call (.ref f) [.str x tx]) Q E s
theorem words_K29_0 : True := by
  k_with_none
  k_with "call ref" => (k_here; (with_reducible show wpAny _ _ (call (Value.ref _) [Value.str _ _]) _ _ _); k_dflt (refine (by assumption : Refuses _ _ _) _ _ _ _ _ _ _ _ _ _ _ _ _ _ _ _ _ _ _ _ _ _ (by k_asm) (by k_asm) (by k_asm) (by k_asm) (by k_asm) (by first | exact rfl | assumption) (by ktr_room) (by ktr_units) (by assumption) (by assumption) (by assumption) ?_); intro G9 e9 h9 tk9 FG9 R9 U9; (try dsimp only))
  trivial
section
variable {w : World} {mean : ExcName → Option Value} {mg mb : Str → Option Value} {dp un : Nat} {gd : Option (List Code)} {cn : Str} {cs : Scope} {a : Addr} {ccd : Value} {cl : List (Str × Addr)} {outer : List Env} {A₀ : Around} {base h₀ : Heap} {L : Addr} {m : Str → Option Value} {news : List (Addr × Obj)} {s : Shared} {Q E : Value → Shared → Prop}
variable {g₀ : Heap}
theorem c_refusedB {x : Str} {tx : Tok} (B : Below A₀ base outer h₀) (F : Fr h₀ L s.heap m) (X : Frag.In (hd.heap_39 w.params) h₀) (N : News h₀ L s.heap news) (T : Top hd.view_39 LO mean mg mb h₀) (hk : cs.kind = .function) (hdp : dp + 11 < recursionLimit) (hun : un + 120 < cLine) (XB : Frag.In (hd.heap_39 w.params) base) (TB : Top hd.view_39 LO mean mg mb base) (D : KtsDicts (outer.filterMap (·.frame)) h₀) (T0 : KtsTurn (outer.filterMap (·.frame)) g₀ h₀) (hR : Refuses w 264 x)
   (hret : ∀ g₁ h' tk', KtsTurn (outer.filterMap (·.frame)) g₀ g₁ → Fr g₁ L h' m → News g₁ L h' news → Below A₀ base outer g₁ → Frag.In (hd.heap_39 w.params) g₁ → Top hd.view_39 LO mean mg mb g₁ → KtsDicts (outer.filterMap (·.frame)) g₁ → Q (.bool true) { s with heap := h', toks := tk' }) :
   wpAny (model PySem.Challenge.rw_nu0023_01.row.toRowW.prog w) (ktrTop dp un gd cn cs L a ccd cl outer) (call (.ref 342) [.ref 264, .str x tx]) Q E s := by
  revert X; k_fill; intro X
  refine wpAny_call ?_
  k_dflt (refine' code_defSX ?k1 ?k2 ?k3 ?k4 ?k5 ?XB ?TB ?D ?T0 ?kA ?kF ?cK ?k6 ?k7 ?k8 ?k9 ?kB ?_ ?c2 ?c3 ?c4 ?c5; (case kA => exact rfl); (case kF => exact rfl); (case cK => assumption); (case k2 => k_asm); (case k1 => k_asm); (case XB => assumption); (case TB => assumption); (case D => assumption); (case T0 => assumption); (case k3 => k_asm); (case k4 => k_asm); (case k5 => k_asm); (case k6 => k_is); (case k7 => k_is); (case k8 => ktr_room); (case k9 => first | exact BindsTo.of_eq rfl | exact binds_K (by k_in) rfl (by k_is) rfl rfl rfl); (case kB => exact locs rfl); (case c2 => exact rfl); (case c3 => exact rfl); (case c4 => exact rfl); (case c5 => decide); k_whole; intro g' L' h' FG' F' N' B' X' T' D'; (try dsimp only); (try k_lift B'); (try k_fold))
  k_steps
  k_dflt exact hret _ _ _ (by assumption) (by assumption) (by assumption) (by assumption) (by assumption) (by assumption) (by assumption)
theorem c_refusedF {x : Str} {tx : Tok} (B : Below A₀ base outer h₀) (F : Fr h₀ L s.heap m) (X : Frag.In (hd.heap_39 w.params) h₀) (N : News h₀ L s.heap news) (T : Top hd.view_39 LO mean mg mb h₀) (hk : cs.kind = .function) (hdp : dp + 11 < recursionLimit) (hun : un + 120 < cLine) (XB : Frag.In (hd.heap_39 w.params) base) (TB : Top hd.view_39 LO mean mg mb base) (D : KtsDicts (outer.filterMap (·.frame)) h₀) (T0 : KtsTurn (outer.filterMap (·.frame)) g₀ h₀) (hR : Refuses w 278 x)
   (hret : ∀ g₁ h' tk', KtsTurn (outer.filterMap (·.frame)) g₀ g₁ → Fr g₁ L h' m → News g₁ L h' news → Below A₀ base outer g₁ → Frag.In (hd.heap_39 w.params) g₁ → Top hd.view_39 LO mean mg mb g₁ → KtsDicts (outer.filterMap (·.frame)) g₁ → Q (.bool true) { s with heap := h', toks := tk' }) :
   wpAny (model PySem.Challenge.rw_nu0023_01.row.toRowW.prog w) (ktrTop dp un gd cn cs L a ccd cl outer) (call (.ref 342) [.ref 278, .str x tx]) Q E s := by
  revert X; k_fill; intro X
  refine wpAny_call ?_
  k_dflt (refine' code_defSX ?k1 ?k2 ?k3 ?k4 ?k5 ?XB ?TB ?D ?T0 ?kA ?kF ?cK ?k6 ?k7 ?k8 ?k9 ?kB ?_ ?c2 ?c3 ?c4 ?c5; (case kA => exact rfl); (case kF => exact rfl); (case cK => assumption); (case k2 => k_asm); (case k1 => k_asm); (case XB => assumption); (case TB => assumption); (case D => assumption); (case T0 => assumption); (case k3 => k_asm); (case k4 => k_asm); (case k5 => k_asm); (case k6 => k_is); (case k7 => k_is); (case k8 => ktr_room); (case k9 => first | exact BindsTo.of_eq rfl | exact binds_K (by k_in) rfl (by k_is) rfl rfl rfl); (case kB => exact locs rfl); (case c2 => exact rfl); (case c3 => exact rfl); (case c4 => exact rfl); (case c5 => decide); k_whole; intro g' L' h' FG' F' N' B' X' T' D'; (try dsimp only); (try k_lift B'); (try k_fold))
  k_steps
  k_dflt exact hret _ _ _ (by assumption) (by assumption) (by assumption) (by assumption) (by assumption) (by assumption) (by assumption)
end
end Mine
namespace Mine
theorem part_end_K29 : True := by
  w_top off
  trivial
end Mine

-- part E5
namespace Mine
/-- the exception at `e` has no context; its first trace entry lies off the base and bears `fl` -/
noncomputable def Noted2 (base h : Heap) (e : Addr) (cls fl : Value) : Prop :=
  ∃ oe vs a0 T oT ts, (h.get? e = some oe ∧ oe.cls = cls ∧ oe.data = .fields vs) ∧ (vs[0]? = some a0 ∧ vs[1]? = some (.ref T) ∧ vs[2]? = some .none) ∧ (base.get? T = none ∧ T ≠ e) ∧ h.get? T = some oT ∧ oT.data = .fields ts ∧ ts[3]? = some fl
/-- .. and the base and the frames stand -/
noncomputable def Fly2 (base : Heap) (l : List Env) (e : Addr) (cls fl : Value) (h : Heap) : Prop :=
  base.StaysIn h ∧ base.get? e = none ∧ h.FunFrames base l ∧ Noted2 base h e cls fl
theorem Fly2.on {base h : Heap} {env : Env} {l : List Env} {e : Addr} {cls fl : Value} (x : Fly2 base (env :: l) e cls fl h) : Fly2 base l e cls fl h :=
  ⟨x.1, x.2.1, x.2.2.1.2.2, x.2.2.2⟩
section
variable {M : Model} {A : Around} {E : Value → Shared → Prop} {s : Shared} {base : Heap} {env : Env} {outer l : List Env} {L e : Addr} {cls fl : Value} {Q : Unit → Shared → Prop}
theorem not_rec {h : Heap} {T : Addr} {oT : Obj} {ts : Array Value} (hT : h.get? T = some oT) (hd : oT.data = .fields ts) {b : Addr} {o : Obj} (hb : h.get? b = some o) (hn : ∀ vs, o.data ≠ .fields vs) : b ≠ T := fun q => by
  subst q; rw [hT] at hb; cases hb; exact hn ts hd

theorem entry2 {oe : Obj} {vs : Array Value} {head a0 : Value} {hadNext : Bool} (hfr : A.frames = some (env :: outer)) (hl : s.heap.FunFrames base (env :: outer)) (hf : env.frame = some L)
    (he : s.heap.get? e = some oe) (hc : oe.cls = cls) (hd : oe.data = .fields vs) (hkb : base.StaysIn s.heap) (hen : base.get? e = none) (h0 : vs[0]? = some a0) (hsz : 1 < vs.size) (h2 : vs[2]? = some .none)
    (h : ∀ h', Fly2 base (env :: outer) e cls (rawInt L) h' → s.heap.UpToSlots h' → Q () { s with heap := h' }) :
    wpAny M A (do let a ← frameOf env; let pl ← entryPlaceOf L hadNext; let b ← EntryCells.newEntry head a .none (rawInt L) .none pl; setField (.ref e) 1 b) Q E s := by
  have hout : e ∉ (env :: outer).filterMap (·.frame) := fun hm => by
    obtain ⟨_, o, ho, hnf⟩ := hl.mem hm
    rw [he] at ho; cases ho; exact hnf vs hd
  refine wpAny_bind (wpAny_frameOf_fun hfr hl hf fun k hk => ?_)
  refine wpAny_bind (wpAny_entryPlaceOf fun pl hpl => ?_)
  unfold EntryCells.newEntry newFields
  refine wpAny_bind (wpAny_newObj_type ?_ (hpl.sizeOk5 _ _ _ _ _))
  have he₁ : k.get? e = some oe := (hk.2.1 e hout).trans he
  have hb₁ : base.StaysIn k := fun b o q => (hk.2.1 b fun hm => by rw [(hl.mem hm).1] at q; cases q).trans (hkb b o q)
  generalize hTO : ({ cls := .type "traceback", dict := none, data := .fields ([head, .ref L, .none, rawInt L, .none] ++ (if pl.isEmpty then List.replicate 6 Value.none else pl)).toArray } : Obj) = oT
  have he₂ := Heap.get?_push_of_some oT he₁
  refine wpAny_setField he₂ hd hsz (h _ ?_ ?_)
  all_goals
    have hTe : k.objs.size ≠ e := Nat.ne_of_gt (Heap.lt_size he₁)
    have keep : ∀ b o, b ≠ e → k.get? b = some o → ((k.push oT).update e (Obj.mapFields (·.setIfInBounds 1 (Value.ref k.objs.size)))).get? b = some o :=
      fun b o nb q => by rw [Heap.get?_update_other _ _ (Ne.symm nb)]; exact Heap.get?_push_of_some _ q
    have up : s.heap.UpToSlots ((k.push oT).update e (Obj.mapFields (·.setIfInBounds 1 (Value.ref k.objs.size)))) := fun b o q hn => by
      obtain ⟨sl, hs⟩ := hk.2.2 b o q
      exact ⟨sl, keep b _ (not_rec he hd q hn) hs⟩
  · refine ⟨fun b o q => keep b o (fun z => by rw [z, hen] at q; cases q) (hb₁ b o q), hen, hl.of_keeps fun b o q hn => ?_, ?_⟩
    · obtain ⟨sl, hs⟩ := up b o q hn
      exact ⟨_, hs, rfl⟩
    · have hd₃ := Obj.data_mapFields hd (·.setIfInBounds 1 (Value.ref k.objs.size))
      refine ⟨_, _, a0, k.objs.size, _, _, ⟨Heap.get?_update_self _ he₂ (Obj.isFreed_of_fields hd₃), (Obj.cls_mapFields _ _).trans hc, hd₃⟩, ⟨?_, by simp [hsz], ?_⟩, ⟨hb₁.fresh, hTe⟩,
        (Heap.get?_update_other _ _ (Ne.symm hTe)).trans (Heap.get?_push_size k (by rw [← hTO]; rfl)), by rw [← hTO], ?_⟩
      · rw [Array.getElem?_setIfInBounds_ne (by decide)]; exact h0
      · rw [Array.getElem?_setIfInBounds_ne (by decide)]; exact h2
      · first | (simp; done) | (rcases hpl with rfl | ⟨_, _, _, _, _, _, _, rfl⟩ <;> simp)
  · exact up

theorem flight2 (x : Fly2 base l e cls fl s.heap) (h : ∀ h', Fly2 base l e cls .none h' → s.heap.UpToSlots h' → Q () { s with heap := h' }) : wpAny M A (setFlight (.ref e) none) Q E s := by
  obtain ⟨f1, f2, f3, oe, vs, a0, T, oT, ts, ⟨e1, e2, e3⟩, ⟨v0, v1, v2⟩, ⟨t1, t2⟩, t3, t4, t5⟩ := x
  have h3 : 3 < ts.size := (Array.getElem?_eq_some_iff.mp t5).1
  unfold setFlight
  refine wpAny_bind (wpAny_field e1 e3 v1 ?_)
  rw [if_pos (show (Value.ref T != Value.none) = true from by simp)]
  have off : ∀ b, b ≠ T → (s.heap.update T (Obj.mapFields (·.setIfInBounds 3 ((none : Option Addr).elim Value.none fun f => rawInt f)))).get? b = s.heap.get? b := fun b nb => Heap.get?_update_other _ _ (Ne.symm nb)
  have up : s.heap.UpToSlots (s.heap.update T (Obj.mapFields (·.setIfInBounds 3 ((none : Option Addr).elim Value.none fun f => rawInt f)))) := fun b o q hn => ⟨o.slots, (off b (not_rec t3 t4 q hn)).trans q⟩
  refine wpAny_setField t3 t4 h3 (h _ ⟨fun b o q => (off b fun z => by rw [z, t1] at q; cases q).trans (f1 b o q), f2, f3.of_keeps fun b o q hn => ?_, ?_⟩ up)
  · obtain ⟨sl, hs⟩ := up b o q hn
    exact ⟨_, hs, rfl⟩
  · exact ⟨oe, vs, a0, T, _, _, ⟨(off e (Ne.symm t2)).trans e1, e2, e3⟩, ⟨v0, v1, v2⟩, ⟨t1, t2⟩, Heap.get?_update_self _ t3 (Obj.isFreed_of_fields (Obj.data_mapFields t4 _)), Obj.data_mapFields t4 _, by simp [h3]⟩

theorem note2 (hfr : A.frames = some (env :: outer)) (hf : env.frame = some L) (x : Fly2 base (env :: outer) e cls .none s.heap)
    (h : ∀ h', Fly2 base (env :: outer) e cls (rawInt L) h' → s.heap.UpToSlots h' → Q () { s with heap := h' }) : wpAny M A (noteFrame (.ref e) env) Q E s := by
  obtain ⟨f1, f2, f3, oe, vs, a0, T, oT, ts, ⟨e1, e2, e3⟩, ⟨v0, v1, v2⟩, ⟨t1, t2⟩, t3, t4, t5⟩ := x
  unfold noteFrame
  simp only [hf]
  refine wpAny_bind (wpAny_field e1 e3 v1 ?_)
  rw [if_pos (show (Value.ref T != Value.none) = true from by simp)]
  refine wpAny_bind (wpAny_field t3 t4 t5 ?_)
  rw [if_neg (show ¬ ((Value.none == rawInt L) = true) from by simp [rawInt])]
  refine wpAny_bind (wpAny_setField t3 t4 (Array.getElem?_eq_some_iff.mp t5).1 ?_)
  have off : ∀ b, b ≠ T → (s.heap.update T (Obj.mapFields (·.setIfInBounds 3 Value.none))).get? b = s.heap.get? b := fun b nb => Heap.get?_update_other _ _ (Ne.symm nb)
  have up : s.heap.UpToSlots (s.heap.update T (Obj.mapFields (·.setIfInBounds 3 Value.none))) := fun b o q hn => ⟨o.slots, (off b (not_rec t3 t4 q hn)).trans q⟩
  refine entry2 hfr (f3.of_keeps fun b o q hn => ⟨o, (off b (not_rec t3 t4 q hn)).trans q, rfl⟩) hf ((off e (Ne.symm t2)).trans e1) e2 e3 (fun b o q => (off b fun z => by rw [z, t1] at q; cases q).trans (f1 b o q)) f2 v0
    (Array.getElem?_eq_some_iff.mp v1).1 v2 fun h' y u => h h' y (up.trans u)

theorem leaving2 {oe : Obj} {vs : Array Value} {a0 : Value} (hfr : A.frames = some (env :: outer)) (hl : s.heap.FunFrames base (env :: outer)) (hf : env.frame = some L)
    (he : s.heap.get? e = some oe) (hc : oe.cls = cls) (hd : oe.data = .fields vs) (hkb : base.StaysIn s.heap) (hen : base.get? e = none) (h0 : vs[0]? = some a0) (h1 : vs[1]? = some .none) (h2 : vs[2]? = some .none)
    (h : ∀ h', Fly2 base outer e cls .none h' → s.heap.UpToSlots h' → Q () { s with heap := h' }) : wpAny M A (leaving env (.ref e)) Q E s := by
  unfold leaving
  refine wpAny_bind ?_
  unfold noteFrame
  simp only [hf]
  refine wpAny_bind (wpAny_field he hd h1 ?_)
  rw [if_neg (by decide)]
  exact entry2 hfr hl hf he hc hd hkb hen h0 (Array.getElem?_eq_some_iff.mp h1).1 h2 fun h' y u => flight2 y fun h'' z u' => h h'' z.on (u.trans u')
end
end Mine
namespace Mine
theorem part_end_E5 : True := by
  w_top off
  trivial
end Mine

-- part E6
namespace Mine
/-- raised, with no context: the ledger, the ground, the flight -/
noncomputable def RaisedZ (base G : Heap) (l : List Env) (e : Addr) (cls : Value) (news : List (Addr × Obj)) (h : Heap) : Prop :=
  ∃ B, base.StaysIn B ∧ (∀ b o, G.get? b = some o → b ∉ l.filterMap (·.frame) → B.get? b = some o) ∧ (∀ q ∈ news, B.get? q.1 = some q.2 ∧ G.get? q.1 = none ∧ base.get? q.1 = none) ∧ Fly2 B l e cls .none h
theorem RaisedZ.sub {base G h : Heap} {l : List Env} {e : Addr} {cls : Value} {news all : List (Addr × Obj)} (R : RaisedZ base G l e cls all h) (sub : ∀ p ∈ news, p ∈ all) : RaisedZ base G l e cls news h := by
  obtain ⟨B, h1, h2, h3, h4⟩ := R
  exact ⟨B, h1, h2, fun q hq => h3 q (sub q hq), h4⟩
section
variable {M : Model} {A : Around} {E : Value → Shared → Prop} {s s' : Shared} {base g : Heap} {outer : List Env} {L a e : Addr} {m : Str → Option Value} {name : Str} {scope : Scope} {cd : Value} {Q : Unit → Shared → Prop} {news : List (Addr × Obj)} {C : Addr}
theorem leaveZ {oe : Obj} {vs : Array Value} {a0 : Value} (K : Below A base outer g) (F : Fr g L s'.heap m) (N : News g L s'.heap ((e, oe) :: news)) (hne : ∀ q ∈ news, q.1 ≠ e)
    (hc : oe.cls = .ref C) (hd : oe.data = .fields vs) (h1 : vs[1]? = some .none) (h0 : vs[0]? = some a0) (h2 : vs[2]? = some .none)
    (hQ : ∀ h', RaisedZ base g outer e (.ref C) news h' → g.UpToSlots h' → Q () { s' with heap := h' }) (hk : scope.kind = .function := by rfl) :
    wpAny M (A.deeper (envOf name scope L a cd)) (leaving (envOf name scope L a cd) (.ref e)) Q E s' := by
  have he := (N (e, oe) (.head _)).1
  have hge : g.get? e = none := (N (e, oe) (.head _)).2.2
  have hbe : base.get? e = none := fresh_of_stays K.stays hge
  have K' := K.push (name := name) (a := a) (cd := cd) F hk
  have inF : ∀ env ∈ (envOf name scope L a cd :: outer), ∀ b, env.frame = some b → b ∈ (envOf name scope L a cd :: outer).filterMap (·.frame) := fun env he b hb => List.mem_filterMap.mpr ⟨env, he, hb⟩
  have inA : ∀ env ∈ (envOf name scope L a cd :: outer), ∀ b, env.frame = some b → b ∈ e :: (envOf name scope L a cd :: outer).filterMap (·.frame) := fun env he b hb => .tail _ (inF env he b hb)
  have st : base.StaysIn (hideAll s'.heap (e :: (envOf name scope L a cd :: outer).filterMap (·.frame))) := fun b o q => hideAll_get _ (K'.stays b o q) fun hm => by
    rcases List.mem_cons.mp hm with z | hm
    · rw [z, hbe] at q; cases q
    · rw [(K'.frames.mem hm).1] at q; cases q
  have sg : ∀ b o, g.get? b = some o → b ∉ outer.filterMap (·.frame) → (hideAll s'.heap (e :: (envOf name scope L a cd :: outer).filterMap (·.frame))).get? b = some o := fun b o q nm => hideAll_get _ (F.keep b o q) fun hm => by
    rcases List.mem_cons.mp hm with z | hm
    · rw [z, hge] at q; cases q
    · rcases kts_mem hm with z | z
      · rw [z, kts_self F] at q; cases q
      · exact nm z
  have hl : ∀ q ∈ news, (hideAll s'.heap (e :: (envOf name scope L a cd :: outer).filterMap (·.frame))).get? q.1 = some q.2 ∧ g.get? q.1 = none ∧ base.get? q.1 = none := fun q hq => by
    have P := N q (.tail _ hq)
    refine ⟨hideAll_get _ P.1 fun hm => ?_, P.2.2, fresh_of_stays K.stays P.2.2⟩
    rcases List.mem_cons.mp hm with z | hm
    · exact hne q hq z
    · obtain ⟨env, he', hf⟩ := List.mem_filterMap.mp hm
      rcases List.mem_cons.mp he' with rfl | he'
      · exact P.2.1 (Option.some.inj hf).symm
      · obtain ⟨o, ho, _⟩ := (K.frames.mem (List.mem_filterMap.mpr ⟨env, he', hf⟩)).2
        rw [P.2.2] at ho; cases ho
  exact leaving2 K'.stack (funFrames_hide K'.frames inA) rfl he hc hd (fun b o hb => of_hideAll _ hb) (hideAll_none _ (.head _)) h0 h1 h2 fun h' x u =>
    hQ h' ⟨_, st, sg, hl, x⟩ ((Heap.UpToSlots.of_keeps F.keep).trans u)
end
/-- what a raised value of a class of the program must be, where `e1` is being handled -/
noncomputable def RaisableZ (E : Value → Shared → Prop) (e1 : Addr) (v : Value) (s₁ : Shared) : Prop :=
  ∃ (K : Frag) (C e : Addr) (oe o1 : Obj) (cd : ClassData) (vs vs1 : Array Value), v = .ref e ∧ K.In s₁.heap ∧ clsIn K C = some cd ∧ excLine cd.mro = true ∧ typeIn K (.ref C) = some (.type "type") ∧ s₁.heap.get? e = some oe ∧ oe.cls = .ref C ∧
    oe.data = .fields vs ∧ vs[1]? = some .none ∧ 2 < vs.size ∧ e1 ≠ e ∧ s₁.heap.get? e1 = some o1 ∧ o1.data = .fields vs1 ∧ vs1[2]? = some .none ∧ E (.ref e) { s₁ with heap := s₁.heap.update e (Obj.mapFields (·.setIfInBounds 2 (.ref e1))) }
theorem entry_unchain : entryFor table "proto.unchain" = some Builtin.«proto.unchain» := entryFor_of_fast (by kernel_rfl)
section
variable {prog : Program} {w : World} {A : Around} {E : Value → Shared → Prop} {s : Shared} {env : Env}
theorem raiseNew_some {α : Type} {e e1 : Addr} {oe o1 : Obj} {vs vs1 : Array Value} {Q : α → Shared → Prop} (hh : A.handled = some (.ref e1)) (he : s.heap.get? e = some oe) (hd : oe.data = .fields vs) (h2 : 2 < vs.size) (hne : e1 ≠ e)
    (h1 : s.heap.get? e1 = some o1) (hd1 : o1.data = .fields vs1) (hn : vs1[2]? = some .none) (h : E (.ref e) { s with heap := s.heap.update e (Obj.mapFields (·.setIfInBounds 2 (.ref e1))) }) : wpAny (model prog w) A (raiseNew (.ref e) : Sem α) Q E s := by
  unfold raiseNew
  refine wpAny_bind (wpAny_handled ?_)
  rw [hh]
  dsimp only
  rw [if_pos (show (Value.ref e1 != Value.ref e) = true from by simpa using hne)]
  refine wpAny_bind (wpAny_holding (wpAny_runValue (codeAny_builtin entry_unchain ?_)))
  unfold Builtin.«proto.unchain»
  dsimp only
  refine wpAny_bind (wpAny_field h1 hd1 hn ?_)
  rw [if_pos (by decide)]
  refine wpAny_bind (wpAny_pure (wpAny_pure ?_))
  dsimp only
  have G : ∀ {Q' : Unit → Shared → Prop}, Q' () { s with heap := s.heap.update e (Obj.mapFields (·.setIfInBounds 2 (.ref e1))) } → wpAny (model prog w) A (updateField e 2 (.ref e1)) Q' E s := by
    intro Q' hq
    unfold updateField
    refine wpAny_bind (wpAny_load he ?_)
    rw [hd]
    dsimp only
    rw [if_pos h2]
    exact wpAny_update he hq
  first | exact G (wpAny_throw h) | exact wpAny_bind (G (wpAny_throw h)) | exact wpAny_bind (G (wpAny_bind (wpAny_pure (wpAny_throw h))))
theorem Raise_excZ {e₁ : Expr} {pos : Pos} {e1 : Addr} {Q : Flow → Shared → Prop} (hh : A.handled = some (.ref e1))
    (h : wpAny (model prog w) A (eval e₁ env) (RaisableZ E e1) E s) : wpAny (model prog w) A (exec (.Raise (some e₁) none pos) env) Q E s := by
  show wpAny (model prog w) A (do standAt pos; raiseStmt env (some (do let v ← eval e₁ env; standAt pos; pure v)) none) Q E s
  refine wpAny_bind (wpAny_standAt ?_)
  unfold raiseStmt
  dsimp only
  refine wpAny_bind (wpAny_bind (wpAny_mono h (fun v s₁ h₁ => wpAny_bind (wpAny_standAt (wpAny_pure ?_))) fun _ _ x => x))
  obtain ⟨K, C, e, oe, o1, cd, vs, vs1, rfl, X, hc, hl, hT, he, hcls, hd, h1, hsz, hne, he1, hd1, hn, hE⟩ := h₁
  have notT : ∀ {Q' : Bool → Shared → Prop}, Q' false s₁ → wpAny (model prog w) A (isType (.ref e)) Q' E s₁ := by
    intro Q' hq
    simp only [isType, loadHead]
    refine wpAny_bind (wpAny_loadPart he ?_)
    rw [hd]; exact wpAny_pure hq
  have ty : Looks (model prog w) s₁.heap (typeOf (.ref e)) (.ref C) := hcls ▸ (Looks.ld he).andThen .now
  have ne : cd.mro.isEmpty = false := by cases q : cd.mro with | nil => rw [q] at hl; cases hl | cons _ _ => rfl
  have sub : Looks (model prog w) s₁.heap (isInstance (.ref e) (.type "BaseException")) true := ty.andThen (looks_mroIn X (by unfold mroIn; rw [hc, Option.bind_some, if_neg (by rw [ne]; decide), (line_has hl).2.1]))
  refine wpAny_bind (wpAny_pure ?_)
  dsimp only
  refine wpAny_bind (wpAny_holding ?_)
  unfold excFromValue isExcClass
  refine wpAny_bind (wpAny_bind (notT ?_))
  simp only [Bool.false_eq_true, if_false]
  refine wpAny_pure ?_
  simp only [Bool.false_eq_true, if_false]
  refine wpAny_bind (sub.here ?_)
  simp only [if_true]
  refine wpAny_pure ?_
  refine wpAny_bind (notT ?_)
  simp only [Bool.false_eq_true, if_false]
  unfold raisedInstance
  refine wpAny_bind (wpAny_bind (ty.here (wpAny_bind ((looks_typeIn X hT).here ?_))))
  rw [if_pos (by decide)]
  refine wpAny_pure ?_
  unfold setFlight
  refine wpAny_bind (wpAny_bind (wpAny_field he hd h1 ?_))
  rw [if_neg (by decide)]
  refine wpAny_pure ?_
  exact raiseNew_some hh he hd hsz hne he1 hd1 hn hE
end

section
variable {prog : Program} {w : World} {A₀ : Around} {E : Value → Shared → Prop} {s' : Shared} {base g g₀ G : Heap} {outer : List Env} {L a e C : Addr} {m : Str → Option Value} {name : Str} {scope : Scope} {cd : Value}
  {b₀ : Stmt} {suite : List Stmt} {pos np : Pos} {rest : List ExceptHandler} {Q : Flow → Shared → Prop} {news : List (Addr × Obj)} {KF : Frag}
  {p : Program} {loose : List Str} {mean : ExcName → Option Value} {mg mb : Str → Option Value} {x : Str}
theorem Fly2.there {base h : Heap} {l : List Env} {cls fl : Value} (x : Fly2 base l e cls fl h) : ∃ ob vs, h.get? e = some ob ∧ ob.cls = cls ∧ ob.data = .fields vs ∧ vs[2]? = some .none := by
  obtain ⟨_, _, _, oe, vs, a0, T, oT, ts, ⟨e1, e2, e3⟩, ⟨v0, v1, v2⟩, _⟩ := x
  exact ⟨oe, vs, e1, e2, e3, v2⟩
/-- caught under its own name; the exception itself, with no context, stands in the ledger -/
theorem caughtZ (R : RaisedZ base G (envOf name scope L a cd :: outer) e (.ref C) news s'.heap) (F : Fr g L G m) (K : Below A₀ base outer g) (hsm : G.UpToSlots s'.heap) (XB : KF.In base) (TB : Top p loose mean mg mb base)
    (D : KtsDicts (outer.filterMap (·.frame)) g) (T0 : KtsTurn (outer.filterMap (·.frame)) g₀ g)
    (ex : nsIn KF mainGlobals x = some (some (.ref C))) (q : ktsIn KF C "BaseException" = true)
    (k : ∀ h' g' ob vs, ob.data = .fields vs → vs[2]? = some .none → (∀ p ∈ news, p.1 ≠ e) → KtsTurn (outer.filterMap (·.frame)) g₀ g' → Fr g' L h' m → News g' L h' ((e, ob) :: news) → Below A₀ base outer g' → KF.In g' → Top p loose mean mg mb g' → KtsDicts (outer.filterMap (·.frame)) g' →
      wpAny (model prog w) ((A₀.deeper (envOf name scope L a cd)).mark (some (.ref e))) (execs (b₀ :: suite) (envOf name scope L a cd)) Q E { s' with heap := h' })
    (hk : scope.kind = .function := by rfl) (hx : (envOf name scope L a cd).kindOf x = some .globalImplicit := by rfl) (hd : (x == ("__debug__" : Str)) = false := by decide)
    (hE : PassesOwnAt (model prog w) ((A₀.deeper (envOf name scope L a cd)).mark (some (.ref e))) (A₀.deeper (envOf name scope L a cd)) (envOf name scope L a cd) E := by passes_own) :
    wpAny (model prog w) (A₀.deeper (envOf name scope L a cd)) (noteFrame (.ref e) (envOf name scope L a cd))
      (fun _ s₂ => wpAny (model prog w) (A₀.deeper (envOf name scope L a cd)) (setFlight (.ref e) none) (fun _ s₃ =>
        wpAny (model prog w) (A₀.deeper (envOf name scope L a cd)) (handleBy (.ref e) (envOf name scope L a cd) (.ExceptHandler (some (.Name x np)) none (b₀ :: suite) pos :: rest)) Q E s₃) E s₂) E s' := by
  obtain ⟨B, hB, hBG, hl, hfl⟩ := R
  have hL : B.get? L = none := by
    obtain ⟨_, ⟨L', _, hf, hn', _⟩, _⟩ := hfl.2.2.1
    obtain rfl : L = L' := Option.some.inj hf
    exact hn'
  have hff : ∀ h, Fly2 B (envOf name scope L a cd :: outer) e (.ref C) .none h → e ∉ (envOf name scope L a cd :: outer).filterMap (·.frame) := fun h x hm => by
    obtain ⟨_, o, ho, hnf⟩ := x.2.2.1.mem hm
    obtain ⟨ob, vs, h1, _, h3, _⟩ := x.there
    rw [h1] at ho; cases ho; exact hnf vs h3
  have heL : e ≠ L := fun z => hff _ hfl (z ▸ List.mem_filterMap.mpr ⟨_, .head _, rfl⟩)
  have hge : g.get? e = none := kts_fresh F hBG hfl.2.1 fun o _ hm => hff _ hfl (by
    obtain ⟨env, h1, h2⟩ := List.mem_filterMap.mp hm
    exact List.mem_filterMap.mpr ⟨env, .tail _ h1, h2⟩)
  refine note2 (Around.frames_deeper K.stack) rfl hfl fun h₄ hheld₄ hsm₄ => ?_
  refine flight2 hheld₄ fun h₅ hheld hsm₅' => ?_
  have hsm₅ := hsm₄.trans hsm₅'
  obtain ⟨g₅, T₅, F₅, K₅⟩ := kts_ground K F hBG hheld.1 (hsm.trans hsm₅)
  have X₅ : KF.In g₅ := XB.keeps K₅.stays
  have P₅ : TopRead p loose mg mb g₅ := topRead_of (TB.keeps K₅.stays)
  obtain ⟨ob, _, hob, hobc, _⟩ := hheld.there
  obtain ⟨nm, q', N, bs, bm, hdct, sn, sub, ab, col, dd, k0, k1, k2, k3, k5, newId, hC, hbase, hbT⟩ := kts_cls X₅ q
  have hC₅ := F₅.keep _ _ hC
  refine wpAny_handleBy_cons (codeAny_handlers_test (name_K F₅ X₅ P₅ ex ?_ hk hx hd)) (by intro q; cases q)
  refine wpAny_excMatches_sub_self hC₅ hob hobc hbase (codeAny_handlers_suite ?_)
  refine flight2 hheld fun h₆ hfl₆ hsm₆ => ?_
  obtain ⟨g₆, T₆, F₆, K₆⟩ := kts_ground K F hBG hfl₆.1 ((hsm.trans hsm₅).trans hsm₆)
  obtain ⟨ob₆, vs₆, hob₆, _, hd₆, h2₆⟩ := hfl₆.there
  have Nl : News g₆ L h₆ ((e, ob₆) :: news) := fun q hq => by
    rcases List.mem_cons.mp hq with rfl | hq
    · exact ⟨hob₆, heL, T₆.none_ _ hge⟩
    · exact ⟨hfl₆.1 _ _ (hl q hq).1, (fun z => by have := (hl q hq).1; rw [z, hL] at this; cases this), T₆.none_ _ (kts_none F.keep (hl q hq).2.1)⟩
  have X₆ : KF.In g₆ := XB.keeps K₆.stays
  have P₆ : Top p loose mean mg mb g₆ := TB.keeps K₆.stays
  exact wpAny_passesOwnAt hE (k h₆ g₆ ob₆ vs₆ hd₆ h2₆ (fun q hq z => by have := (hl q hq).1; rw [z, hfl.2.1] at this; cases this) (T0.trans T₆) F₆ Nl K₆ X₆ P₆ (D.turn T₆))
end
end Mine
namespace Mine
theorem part_end_E6 : True := by
  w_top off
  trivial
end Mine

-- part K31
namespace Mine
theorem RaisedSN.turn {base G g h : Heap} {l : List Env} {e : Addr} {cls : Value} {news : List (Addr × Obj)} (T : KtsTurn (l.filterMap (·.frame)) g G) (R : RaisedSN base G l e cls news h) : RaisedSN base g l e cls news h := by
  obtain ⟨B, a0, h1, h2, h3, h4⟩ := R
  refine ⟨B, a0, h1, fun b o q nm => h2 b o (T.other b o q nm) nm, fun q hq => ⟨(h3 q hq).1, ?_, (h3 q hq).2.2⟩, h4⟩
  cases z : g.get? q.1 with
  | none => rfl
  | some o =>
    obtain ⟨sl, hs⟩ := T.up z
    rw [(h3 q hq).2.1] at hs; cases hs
theorem upto_turn {fs : List Addr} {G g h : Heap} (T : KtsTurn fs g G) (U : G.UpToSlots h) : g.UpToSlots h := fun b o q hn => by
  obtain ⟨sl, hs⟩ := T.up q
  obtain ⟨sl', hs'⟩ := U b _ hs hn
  exact ⟨sl', hs'⟩
theorem words_K31_0 : True := by
  k_with_none
  k_with "setAttr ref" => (k_here; (with_reducible show wpAny _ _ (setAttr (Value.ref _) _ _) _ _ _); (first | (k_dflt (refine set_exc (K := hd.heap_39 _) (C := 63) (pre := []) (by k_asm) (by k_asm) (by k_asm) (cls63 _) rfl rfl (set63 _) (msg63 _) (fun p q => (nomatch q)) (by assumption) ?_)) | (k_dflt (refine set_exc (K := hd.heap_39 _) (C := 51) (pre := []) (by k_asm) (by k_asm) (by k_asm) (cls51 _) rfl rfl (set51 _) (msg51 _) (fun p q => (nomatch q)) (by assumption) ?_))); intro h9 dx9 tk9 F9 N9; (try dsimp only))
  trivial
section
variable {w : World} {mean : ExcName → Option Value} {mg mb : Str → Option Value} {dp un : Nat} {gd : Option (List Code)} {cn : Str} {cs : Scope} {a : Addr} {ccd : Value} {cl : List (Str × Addr)} {outer : List Env} {A₀ : Around} {base h₀ : Heap} {L : Addr} {m : Str → Option Value} {news : List (Addr × Obj)} {s : Shared} {Q E : Value → Shared → Prop}
theorem c_sheetH {hv : Option Value} {x : Str} {tx : Tok} (B : Below A₀ base outer h₀) (F : Fr h₀ L s.heap m) (X : Frag.In (hd.heap_39 w.params) h₀) (N : News h₀ L s.heap news) (T : Top hd.view_39 LO mean mg mb h₀) (hk : cs.kind = .function) (hdp : dp + 3 < recursionLimit) (hun : un + 24 < cLine)
   (hret : ∀ e t d h' tk', Fr h₀ L h' m → News h₀ L h' ((e, excO 63 t (some d)) :: news) → (∀ p ∈ news, p.1 ≠ e) → Q (.ref e) { s with heap := h', toks := tk' }) :
   wpAny (model PySem.Challenge.rw_nu0023_01.row.toRowW.prog w) ({ handled := hv, depth := dp, frames := some (envX cn cs L a ccd cl :: outer), guards := gd, units := un } : Around) (call (.ref 63) [.str x tx]) Q E s := by
  refine call_excK F N X (by rfl) (look63 _) (ini63 _) (fun35 _) ?_ (by rw [sizeLine_eq]; exact Nat.le_of_ble_eq_true rfl)
  intro h1 e t1 F1 N1 hne
  clear F N
  revert X; k_fill; intro X
  refine wpAny_call ?_
  k_dflt (refine' code_def ?k1 ?k2 ?k3 ?k4 ?k5 ?kA ?kF ?kK ?k6 ?k7 ?k8 ?k9 ?kB ?_ ?c2 ?c3 ?c4 ?c5; (case kA => exact rfl); (case kF => exact rfl); (case kK => assumption); (case k1 => k_asm); (case k2 => k_asm); (case k3 => k_asm); (case k4 => k_asm); (case k5 => k_asm); (case k6 => k_is); (case k7 => k_is); (case k8 => first | exact room_e (by assumption) | exact room_in (by assumption) (by exact rfl) | ktr_room); (case k9 => first | exact BindsTo.of_eq rfl | exact binds_K (by k_in) rfl (by k_is) rfl rfl rfl); (case c5 => decide); (case kB => exact locs rfl); (case c2 => exact rfl); (case c3 => exact rfl); (case c4 => exact rfl); k_whole; intro g' L' h' FG' F' N' B' X' T'; (try dsimp only); (try k_lift B'); (try k_fold))
  k_steps
  k_dflt exact hret _ _ _ _ _ (by assumption) (by assumption) (by assumption)
end
end Mine
namespace Mine
theorem part_end_K31 : True := by
  w_top off
  trivial
end Mine

-- part K32
namespace Mine
theorem words_K32_0 : True := by
  k_with_none
  k_with "subscriptTail" => (k_here; (with_reducible show wpAny _ _ (subscriptTail _ _ (Value.ref _) (Value.int 0 _)) _ _ _); k_dflt (refine' pa_item0 ?k1 ?k2 ?k3 ?_ ?k4; (case k1 => k_asm); (case k2 => k_asm); (case k3 => first | assumption | exact PA.more (by assumption) (by intro p hp; (repeat (first | (with_reducible exact hp) | refine List.mem_cons_of_mem _ ?_)))); (case k4 => with_unfolding_all rfl)); intro t9)
  k_with "subscriptTail" => (k_here; (with_reducible show wpAny _ _ (subscriptTail _ _ (Value.ref _) (Value.int 1 _)) _ _ _); k_dflt (refine' pa_item1 ?k1 ?k2 ?k3 ?_ ?k4; (case k1 => k_asm); (case k2 => k_asm); (case k3 => first | assumption | exact PA.more (by assumption) (by intro p hp; (repeat (first | (with_reducible exact hp) | refine List.mem_cons_of_mem _ ?_)))); (case k4 => with_unfolding_all rfl)); intro t9)
  k_with "exec Raise some none" => (k_here; (with_reducible show wpAny _ _ (exec (Stmt.Raise (some _) none _) _) _ _ _); first | k_dflt (refine' Raise_exc ?hh ?_; (case hh => first | exact rfl | assumption)) | k_dflt (refine' Raise_excZ ?hh ?_; (case hh => exact rfl)))
  k_with "call ref" => (k_here; (with_reducible show wpAny _ _ (call (Value.ref 161) _) _ _ _); k_dflt (refine' c_reader ?k1 ?k2 ?k3 ?k4 ?k5 ?kK ?kd ?ku  ?_; (case k1 => k_asm); (case k2 => k_asm); (case k3 => k_asm); (case k4 => k_asm); (case k5 => k_asm); (case kK => first | exact rfl | assumption); (case kd => first | exact room_in (by assumption) (by exact rfl) | exact room_0 (by assumption) (by exact rfl) | ktr_room); (case ku => first | exact unit_3 (by assumption) (by exact rfl) | exact unit_4 (by assumption) (by exact rfl) | exact room_0 (by assumption) (by exact rfl) | ktr_units)); intro R9 D9 t1 t2 t3 t4 h9 tk9 F9 N9 l9 l8; (try replace l9 := allLt_hd l9); (try dsimp only); (try k_sweep); (try k_fold))
  k_with "call ref" => (k_here; (with_reducible show wpAny _ _ (call (Value.ref 151) _) _ _ _); k_dflt (refine' c_skip ?k1 ?k2 ?k3 ?k4 ?k5 ?kK ?kd ?ku ?p1 ?p2 ?p3 ?p4 ?p5 ?p6 ?_; (case k1 => k_asm); (case k2 => k_asm); (case k3 => k_asm); (case k4 => k_asm); (case k5 => k_asm); (case kK => first | exact rfl | assumption); (case kd => first | exact room_in (by assumption) (by exact rfl) | exact room_0 (by assumption) (by exact rfl) | ktr_room); (case ku => first | exact unit_3 (by assumption) (by exact rfl) | exact unit_4 (by assumption) (by exact rfl) | exact room_0 (by assumption) (by exact rfl) | ktr_units); (case p2 => k_mem); (case p1 => first | (with_reducible assumption) | k_updF); (case p3 => first | assumption | (intro o9; (try dsimp only); k_mem)); (case p4 => first | omega | (exact skipK_nn (by omega)) | (exact digK_nn (skipK_nn (by omega)) (by omega)) | (exact skipK_nn (digK_nn (skipK_nn (by omega)) (by omega)))); (case p5 => omega); (case p6 => first | omega | assumption | decide +kernel)); intro t1 t2 t3 t4 tv h9 tk9 F9 N9; (try dsimp only at N9); (try dsimp only); (try k_sweep); (try k_fold))
  k_with "call ref" => (k_here; (with_reducible show wpAny _ _ (call (Value.ref 151) _) _ _ _); k_dflt (refine' c_skip0 ?k1 ?k2 ?k3 ?k4 ?k5 ?kK ?kd ?ku ?p1 ?p2 ?p3 ?p4 ?p5 ?p6 ?p7 ?_; (case k1 => k_asm); (case k2 => k_asm); (case k3 => k_asm); (case k4 => k_asm); (case k5 => k_asm); (case kK => first | exact rfl | assumption); (case kd => first | exact room_in (by assumption) (by exact rfl) | exact room_0 (by assumption) (by exact rfl) | ktr_room); (case ku => first | exact unit_3 (by assumption) (by exact rfl) | exact unit_4 (by assumption) (by exact rfl) | exact room_0 (by assumption) (by exact rfl) | ktr_units); (case p2 => k_mem); (case p1 => first | (with_reducible assumption) | k_updF); (case p3 => first | assumption | (intro o9; (try dsimp only); k_mem)); (case p4 => first | omega | (exact skipK_nn (by omega)) | (exact digK_nn (skipK_nn (by omega)) (by omega)) | (exact skipK_nn (digK_nn (skipK_nn (by omega)) (by omega)))); (case p5 => omega); (case p6 => first | omega | assumption | decide +kernel); (case p7 => with_reducible assumption)); intro t1 t2 t3 t4 tv h9 tk9 F9 N9; (try dsimp only at N9); (try dsimp only); (try k_sweep); (try k_fold))
  k_with "call ref" => (k_here; (with_reducible show wpAny _ _ (call (Value.ref 158) _) _ _ _); k_dflt (refine' c_digitsV ?k1 ?k2 ?k3 ?k4 ?k5 ?kK ?kd ?ku ?p1 ?p2 ?p3 ?p4 ?p5 ?p6 ?_; (case k1 => k_asm); (case k2 => k_asm); (case k3 => k_asm); (case k4 => k_asm); (case k5 => k_asm); (case kK => first | exact rfl | assumption); (case kd => first | exact room_in (by assumption) (by exact rfl) | exact room_0 (by assumption) (by exact rfl) | ktr_room); (case ku => first | exact unit_3 (by assumption) (by exact rfl) | exact unit_4 (by assumption) (by exact rfl) | exact room_0 (by assumption) (by exact rfl) | ktr_units); (case p2 => k_mem); (case p1 => first | (with_reducible assumption) | k_updF); (case p3 => first | assumption | (intro o9; (try dsimp only); k_mem)); (case p4 => first | omega | (exact skipK_nn (by omega)) | (exact digK_nn (skipK_nn (by omega)) (by omega)) | (exact skipK_nn (digK_nn (skipK_nn (by omega)) (by omega)))); (case p5 => omega); (case p6 => with_reducible assumption)); intro t1 t2 t3 t4 tv h9 tk9 F9 N9; (try dsimp only at N9); (try dsimp only); (try k_sweep); (try k_fold))
  k_with "call ref" => (k_here; (with_reducible show wpAny _ _ (call (Value.ref 51) _) _ _ _); k_dflt (refine' c_numf ?k1 ?k2 ?k3 ?k4 ?k5 ?kK ?kd ?ku  ?_; (case k1 => k_asm); (case k2 => k_asm); (case k3 => k_asm); (case k4 => k_asm); (case k5 => k_asm); (case kK => first | exact rfl | assumption); (case kd => first | exact room_in (by assumption) (by exact rfl) | exact room_0 (by assumption) (by exact rfl) | ktr_room); (case ku => first | exact unit_3 (by assumption) (by exact rfl) | exact unit_4 (by assumption) (by exact rfl) | exact room_0 (by assumption) (by exact rfl) | ktr_units)); intro e9 t9 d9 h9 tk9 F9 N9 ne9; (try dsimp only); (try k_sweep); (try k_fold))
  trivial
section
variable {w : World} {mean : ExcName → Option Value} {mg mb : Str → Option Value} {dp un : Nat} {gd : Option (List Code)} {cn : Str} {cs : Scope} {a : Addr} {ccd : Value} {cl : List (Str × Addr)} {outer : List Env} {A₀ : Around} {base h₀ : Heap} {L : Addr} {m : Str → Option Value} {news : List (Addr × Obj)} {s : Shared} {Q E : Value → Shared → Prop}
theorem r_dec {x : Str} {tx : Tok} (B : Below A₀ base outer h₀) (F : Fr h₀ L s.heap m) (X : Frag.In (hd.heap_39 w.params) h₀) (N : News h₀ L s.heap news) (T : Top hd.view_39 LO mean mg mb h₀) (hk : cs.kind = .function) (hdp : dp + 6 < recursionLimit) (hun : un + 48 < cLine) (hx : x.length ≤ 16) (hwh : digV x (skipK x 0 (Str.ofString "+-")) = Str.ofString "") (h1 : isone x (digK x (skipK x 0 (Str.ofString "+-"))) (Str.ofString ".") = false)
   (hexc : ∀ G e h' tk', Fr h₀ L G m → RaisedZ base G (envX cn cs L a ccd cl :: outer) e (.ref 51) news h' → G.UpToSlots h' → E (.ref e) { s with heap := h', toks := tk' }) :
   wpAny (model PySem.Challenge.rw_nu0023_01.row.toRowW.prog w) (ktrTop dp un gd cn cs L a ccd cl outer) (call (.ref 186) [.str x tx]) Q E s := by
  have hl0 : (Str.ofString "no number: ").length = 11 := rfl
  have h5 : (Str.ofString "" ++ Str.ofString "" == Str.ofString "") = true := by decide +kernel
  have hk1 : 0 ≤ skipK x 0 (Str.ofString "+-") := skipK_nn (by omega)
  have hk2 : 0 ≤ digK x (skipK x 0 (Str.ofString "+-")) := digK_nn hk1 (by omega)
  revert X; k_fill; intro X
  refine wpAny_call ?_
  k_dflt (refine' code_def ?k1 ?k2 ?k3 ?k4 ?k5 ?kA ?kF ?kK ?k6 ?k7 ?k8 ?k9 ?kB ?_ ?c2 ?c3 ?c4 ?c5; (case kA => exact rfl); (case kF => exact rfl); (case kK => assumption); (case k1 => k_asm); (case k2 => k_asm); (case k3 => k_asm); (case k4 => k_asm); (case k5 => k_asm); (case k6 => k_is); (case k7 => k_is); (case k8 => first | exact room_e (by assumption) | exact room_in (by assumption) (by exact rfl) | ktr_room); (case k9 => first | exact BindsTo.of_eq rfl | exact binds_K (by k_in) rfl (by k_is) rfl rfl rfl); (case c5 => decide); (case kB => exact locs rfl); (case c2 => exact rfl); (case c3 => exact rfl); (case c4 => exact rfl); k_whole; intro g' L' h' FG' F' N' B' X' T'; (try dsimp only); (try k_lift B'); (try k_fold))
  k_steps
  refine ⟨hd.heap_39 w.params, 51, _, _, _, _, rfl, Frag.In.keeps (by assumption) (Fr.keep (by assumption)), cls51 _, rfl, typ51 _, News.get (by assumption) (by k_mem), rfl, rfl, rfl, ?_⟩
  k_dflt refine leaveZ (C := 51) (by assumption) (by assumption) (by assumption) (by assumption) rfl rfl rfl rfl rfl ?_
  intro hx Rx Ux
  exact hexc _ _ _ _ (by assumption) (RaisedZ.sub Rx (by intro p hp; (repeat (first | (with_reducible exact hp) | refine List.mem_cons_of_mem _ ?_)))) Ux
end
end Mine
namespace Mine
theorem part_end_K32 : True := by
  w_top off
  trivial
end Mine

-- part K33
namespace Mine
theorem words_K33_0 : True := by
  k_with_none
  k_with "subscriptTail" => (k_here; (with_reducible show wpAny _ _ (subscriptTail _ _ (Value.ref _) (Value.int 0 _)) _ _ _); k_dflt (refine' pa_item0 ?k1 ?k2 ?k3 ?_ ?k4; (case k1 => k_asm); (case k2 => k_asm); (case k3 => first | assumption | exact PA.more (by assumption) (by intro p hp; (repeat (first | (with_reducible exact hp) | refine List.mem_cons_of_mem _ ?_)))); (case k4 => with_unfolding_all rfl)); intro t9)
  k_with "subscriptTail" => (k_here; (with_reducible show wpAny _ _ (subscriptTail _ _ (Value.ref _) (Value.int 1 _)) _ _ _); k_dflt (refine' pa_item1 ?k1 ?k2 ?k3 ?_ ?k4; (case k1 => k_asm); (case k2 => k_asm); (case k3 => first | assumption | exact PA.more (by assumption) (by intro p hp; (repeat (first | (with_reducible exact hp) | refine List.mem_cons_of_mem _ ?_)))); (case k4 => with_unfolding_all rfl)); intro t9)
  k_with "execs cons" => (k_here; (with_reducible show wpAny _ _ _ _ _ (Shared.mk _ _ _ (_ + 1) _)); refine gen_toks ?_; intro tk9 htk9)
  k_with "call builtin:str.replace" => (k_here; (k_dflt (refine SC.replaceW (Nat.ne_of_gt (by assumption)) (Nat.succ_ne_zero _) (Nat.ne_of_lt (Nat.lt_succ_self _)) (by decide +kernel) (by omega) (by decide +kernel) ?_)); intro t9 k9)
  k_with "UnrEnd" => (k_dflt (refine' unrEnd_drp ?kF ?kN ?km ?kd ?ko ?_; (case kF => k_asm); (case kN => k_asm); (case km => k_mem); (case kd => with_reducible ((repeat (first | (apply Drp.drop; (first | exact List.mem_cons_self | exact List.mem_cons_of_mem _ List.mem_cons_self | exact List.mem_cons_of_mem _ (List.mem_cons_of_mem _ List.mem_cons_self))) | apply Drp.keep)); exact Drp.tail _)); (case ko => first | k_all | fail); (refine ⟨by k_mem, ?_⟩)))
  k_with "exec Raise some none" => (k_here; (with_reducible show wpAny _ _ (exec (Stmt.Raise (some _) none _) _) _ _ _); first | k_dflt (refine' Raise_exc ?hh ?_; (case hh => first | exact rfl | assumption)) | k_dflt (refine' Raise_excZ ?hh ?_; (case hh => exact rfl)))
  k_with "call builtin:str.split" => (k_here; (with_reducible show wpAny _ _ (call (Value.builtin "str.split") [Value.str _ _]) _ _ _); (refine KSpl.split0 (by k_asm) (by k_asm) ?_ (by (rw [sizeLine_eq]; omega))); intro D' l' h' k' e' a' F' N' l1; (have e2 := Eq.trans e' (by assumption)); clear e'; kspl_open e2; clear e2 a'; (simp only [strValues, List.map_cons, List.map_nil] at N'); (try k_lt l1); (try dsimp only))
  k_with "pyIter ref" => (k_here; (with_reducible show wpAny _ _ (pyIter (Value.ref _)) (fun it s₂ => LoopAtV _ _ _ _ _ _ _ _ _ it s₂) _ _); (first | (k_dflt refine iter_listUnr (vs := []) (by rfl) (by assumption) (by assumption) (by k_mem) (by rfl) (by rfl) ?_) | (k_dflt refine iter_listUnr (vs := [_, _, _]) (by rfl) (by assumption) (by assumption) (by k_mem) (by rfl) (by rfl) ?_) | (k_dflt refine iter_listUnr (vs := [_, _, _, _]) (by rfl) (by assumption) (by assumption) (by k_mem) (by rfl) (by rfl) ?_) | (k_dflt refine iter_listUnr (vs := [_, _, _, _, _]) (by rfl) (by assumption) (by assumption) (by k_mem) (by rfl) (by rfl) ?_)); intro i' l1; (have l2 := allLt_of l1); (try k_lt l1))
  k_with "call ref" => (k_here; (with_reducible show wpAny _ _ (call (Value.ref 186) _) _ _ _); k_dflt (refine' r_dec ?k1 ?k2 ?k3 ?k4 ?k5 ?kK ?kd ?ku ?p1 ?p2 ?p3 ?_; (case k1 => k_asm); (case k2 => k_asm); (case k3 => k_asm); (case k4 => k_asm); (case k5 => k_asm); (case kK => first | exact rfl | assumption); (case kd => first | exact room_in (by assumption) (by exact rfl) | exact room_0 (by assumption) (by exact rfl) | ktr_room); (case ku => first | exact unit_3 (by assumption) (by exact rfl) | exact unit_4 (by assumption) (by exact rfl) | exact room_0 (by assumption) (by exact rfl) | ktr_units); (case p1 => assumption); (case p2 => with_reducible assumption); (case p3 => with_reducible assumption)); intro G9 e9 h9 tk9 FG9 R9 U9; (try dsimp only); (try k_sweep); (try k_fold))
  k_with "call ref" => (k_here; (with_reducible show wpAny _ _ (call (Value.ref 63) _) _ _ _); k_dflt (refine' c_sheetH ?k1 ?k2 ?k3 ?k4 ?k5 ?kK ?kd ?ku ?_; (case k1 => k_asm); (case k2 => k_asm); (case k3 => k_asm); (case k4 => k_asm); (case k5 => k_asm); (case kK => first | exact rfl | assumption); (case kd => first | exact room_in (by assumption) (by exact rfl) | exact room_0 (by assumption) (by exact rfl) | ktr_room); (case ku => first | exact unit_3 (by assumption) (by exact rfl) | exact unit_4 (by assumption) (by exact rfl) | exact room_0 (by assumption) (by exact rfl) | ktr_units)); intro e8 t8 d8 h8 tk8 F8 N8 ne8; (try dsimp only))
  k_with "noteFrame ref" => (k_here; (rename RaisedZ _ _ _ _ _ _ _ => rsX); k_dflt (refine' caughtZ ?R ?F ?K ?U ?XB ?TB ?D ?T0 ?ex ?q ?_; (case R => assumption); (case F => assumption); (case K => assumption); (case U => assumption); (case XB => assumption); (case TB => assumption); (case D => assumption); (case T0 => first | assumption | exact KtsTurn.refl); (case ex => k_is); (case q => kts_isx); k_whole); intro h' g' ob' vs' hd' h2' ne' T' F' N' K' X' P' D'; (try k_lift K'); (try k_sweep))
  trivial
section
variable {w : World} {E : Value → Shared → Prop} {s : Shared} {g : Heap} {L : Addr} {m : Str → Option Value} {rest : List (Addr × Obj)}
theorem raisable_z {e1 e8 t d : Addr} {ob : Obj} {vs : Array Value} (X : Frag.In (hd.heap_39 w.params) g) (F : Fr g L s.heap m) (N : News g L s.heap ((e8, excO 63 t (some d)) :: (e1, ob) :: rest)) (ne8 : ∀ p ∈ (e1, ob) :: rest, p.1 ≠ e8) (hd' : ob.data = .fields vs) (h2 : vs[2]? = some .none)
    (hE : ∀ h', Fr g L h' m → News g L h' ((e8, ({ cls := .ref 63, dict := some d, data := .fields #[.ref t, .none, .ref e1, .none, .bool false, .none] } : Obj)) :: (e1, ob) :: rest) → E (.ref e8) { s with heap := h' }) : RaisableZ E e1 (.ref e8) s := by
  refine ⟨hd.heap_39 w.params, 63, e8, _, ob, _, _, vs, rfl, X.keeps F.keep, cls63 _, rfl, typ63 _, (N _ (.head _)).1, rfl, rfl, rfl, (show 2 < 6 by decide), ne8 _ (.head _), (N _ (.tail _ (.head _))).1, hd', h2, ?_⟩
  obtain ⟨F₂, N₂⟩ := news_upd (pre := []) (f := Obj.mapFields (·.setIfInBounds 2 (.ref e1))) F N (fun p q => nomatch q) ne8 (o' := ({ cls := .ref 63, dict := some d, data := .fields #[.ref t, .none, .ref e1, .none, .bool false, .none] } : Obj)) rfl rfl
  exact hE _ F₂ N₂
end
section
variable {w : World} {mean : ExcName → Option Value} {mg mb : Str → Option Value} {dp un : Nat} {gd : Option (List Code)} {cn : Str} {cs : Scope} {a : Addr} {ccd : Value} {cl : List (Str × Addr)} {outer : List Env} {A₀ : Around} {base h₀ : Heap} {L : Addr} {m : Str → Option Value} {news : List (Addr × Obj)} {s : Shared} {Q E : Value → Shared → Prop}
theorem r_nums {x w1 w2 w3 w4 : Str} {tx : Tok} (B : Below A₀ base outer h₀) (F : Fr h₀ L s.heap m) (X : Frag.In (hd.heap_39 w.params) h₀) (N : News h₀ L s.heap news) (T : Top hd.view_39 LO mean mg mb h₀) (hk : cs.kind = .function) (hdp : dp + 7 < recursionLimit) (hun : un + 56 < cLine) (XB : Frag.In (hd.heap_39 w.params) base) (TB : Top hd.view_39 LO mean mg mb base) (D : KtsDicts (outer.filterMap (·.frame)) h₀)
   (hx : x.length ≤ 128) (hx2 : (Txt.replace x (Str.ofString ",") (Str.ofString " ")).length ≤ 128)
   (hw : Txt.words (Txt.replace x (Str.ofString ",") (Str.ofString " ")) = [w1, w2, w3, w4]) (hw1 : w1.length ≤ 16) (hwh1 : digV w1 (skipK w1 0 (Str.ofString "+-")) = Str.ofString "") (hdt1 : isone w1 (digK w1 (skipK w1 0 (Str.ofString "+-"))) (Str.ofString ".") = false)
   (hexc : ∀ G e h' tk', Fr h₀ L G m → RaisedSN base G (envX cn cs L a ccd cl :: outer) e (.ref 63) news h' → G.UpToSlots h' → E (.ref e) { s with heap := h', toks := tk' }) :
   wpAny (model PySem.Challenge.rw_nu0023_01.row.toRowW.prog w) (ktrTop dp un gd cn cs L a ccd cl outer) (call (.ref 257) [.str x tx]) Q E s := by
  have hl0 : (Str.ofString "no number: ").length = 11 := rfl
  have T0 := KtsTurn.refl (fs := (outer.filterMap (·.frame))) (g := h₀)
  revert X; k_fill; intro X
  refine wpAny_call ?_
  k_dflt (refine' code_defSX ?k1 ?k2 ?k3 ?k4 ?k5 ?XB ?TB ?D ?T0 ?kA ?kF ?cK ?k6 ?k7 ?k8 ?k9 ?kB ?_ ?c2 ?c3 ?c4 ?c5; (case kA => exact rfl); (case kF => exact rfl); (case cK => assumption); (case k2 => k_asm); (case k1 => k_asm); (case XB => assumption); (case TB => assumption); (case D => assumption); (case T0 => assumption); (case k3 => k_asm); (case k4 => k_asm); (case k5 => k_asm); (case k6 => k_is); (case k7 => k_is); (case k8 => ktr_room); (case k9 => first | exact BindsTo.of_eq rfl | exact binds_K (by k_in) rfl (by k_is) rfl rfl rfl); (case kB => exact locs rfl); (case c2 => exact rfl); (case c3 => exact rfl); (case c4 => exact rfl); (case c5 => decide); k_whole; intro g' L' h' FG' F' N' B' X' T' D'; (try dsimp only); (try k_lift B'); (try k_fold))
  k_steps
  k_dflt refine raisable_z (by assumption) (by assumption) (by assumption) (by assumption) (by assumption) (by assumption) ?_
  intro h9 F9 N9
  k_dflt refine leave_exc (C := 63) (by assumption) (by assumption) (by assumption) (by assumption) rfl rfl rfl rfl ?_
  intro hx9 Rx Ux
  exact hexc _ _ _ _ FG' (RaisedSN.turn (by assumption) (RaisedSN.sub Rx (by intro p hp; (repeat (first | (with_reducible exact hp) | refine List.mem_cons_of_mem _ ?_))))) (upto_turn (by assumption) Ux)
end
theorem words_K33_1 : True := by
  k_with "call ref" => (k_here; (with_reducible show wpAny _ _ (call (Value.ref 257) _) _ _ _); k_dflt (refine' r_nums ?k1 ?k2 ?k3 ?k4 ?k5 ?kK ?kd ?ku ?XB ?TB ?D ?p1 ?p2 ?p3 ?p4 ?p5 ?p6 ?_; (case k1 => k_asm); (case k2 => k_asm); (case k3 => k_asm); (case k4 => k_asm); (case k5 => k_asm); (case kK => first | exact rfl | assumption); (case kd => first | exact room_in (by assumption) (by exact rfl) | exact room_0 (by assumption) (by exact rfl) | ktr_room); (case ku => first | exact unit_3 (by assumption) (by exact rfl) | exact unit_4 (by assumption) (by exact rfl) | exact room_0 (by assumption) (by exact rfl) | ktr_units); (case XB => assumption); (case TB => assumption); (case D => assumption); (case p1 => assumption); (case p2 => assumption); (case p3 => assumption); (case p4 => assumption); (case p5 => assumption); (case p6 => assumption)); intro G9 e9 h9 tk9 FG9 R9 U9; (try dsimp only))
  trivial
section
variable {w : World} {mean : ExcName → Option Value} {mg mb : Str → Option Value} {dp un : Nat} {gd : Option (List Code)} {cn : Str} {cs : Scope} {a : Addr} {ccd : Value} {cl : List (Str × Addr)} {outer : List Env} {A₀ : Around} {base h₀ : Heap} {L : Addr} {m : Str → Option Value} {news : List (Addr × Obj)} {s : Shared} {Q E : Value → Shared → Prop}
theorem r_boxW {x w1 w2 w3 w4 : Str} {tx : Tok} (B : Below A₀ base outer h₀) (F : Fr h₀ L s.heap m) (X : Frag.In (hd.heap_39 w.params) h₀) (N : News h₀ L s.heap news) (T : Top hd.view_39 LO mean mg mb h₀) (hk : cs.kind = .function) (hdp : dp + 8 < recursionLimit) (hun : un + 64 < cLine) (XB : Frag.In (hd.heap_39 w.params) base) (TB : Top hd.view_39 LO mean mg mb base) (D : KtsDicts (outer.filterMap (·.frame)) h₀)
   (hx : x.length ≤ 128) (hx2 : (Txt.replace x (Str.ofString ",") (Str.ofString " ")).length ≤ 128)
   (hw : Txt.words (Txt.replace x (Str.ofString ",") (Str.ofString " ")) = [w1, w2, w3, w4]) (hw1 : w1.length ≤ 16) (hwh1 : digV w1 (skipK w1 0 (Str.ofString "+-")) = Str.ofString "") (hdt1 : isone w1 (digK w1 (skipK w1 0 (Str.ofString "+-"))) (Str.ofString ".") = false)
   (hexc : ∀ G e h' tk', Fr h₀ L G m → RaisedSN base G (envX cn cs L a ccd cl :: outer) e (.ref 63) news h' → G.UpToSlots h' → E (.ref e) { s with heap := h', toks := tk' }) :
   wpAny (model PySem.Challenge.rw_nu0023_01.row.toRowW.prog w) (ktrTop dp un gd cn cs L a ccd cl outer) (call (.ref 264) [.str x tx]) Q E s := by
  have T0 := KtsTurn.refl (fs := (outer.filterMap (·.frame))) (g := h₀)
  revert X; k_fill; intro X
  refine wpAny_call ?_
  k_dflt (refine' code_defSX ?k1 ?k2 ?k3 ?k4 ?k5 ?XB ?TB ?D ?T0 ?kA ?kF ?cK ?k6 ?k7 ?k8 ?k9 ?kB ?_ ?c2 ?c3 ?c4 ?c5; (case kA => exact rfl); (case kF => exact rfl); (case cK => assumption); (case k2 => k_asm); (case k1 => k_asm); (case XB => assumption); (case TB => assumption); (case D => assumption); (case T0 => assumption); (case k3 => k_asm); (case k4 => k_asm); (case k5 => k_asm); (case k6 => k_is); (case k7 => k_is); (case k8 => ktr_room); (case k9 => first | exact BindsTo.of_eq rfl | exact binds_K (by k_in) rfl (by k_is) rfl rfl rfl); (case kB => exact locs rfl); (case c2 => exact rfl); (case c3 => exact rfl); (case c4 => exact rfl); (case c5 => decide); k_whole; intro g' L' h' FG' F' N' B' X' T' D'; (try dsimp only); (try k_lift B'); (try k_fold))
  k_steps
  exact hexc _ _ _ _ FG' (by assumption) (by assumption)
end
end Mine
namespace Mine
theorem part_end_K33 : True := by
  w_top off
  trivial
end Mine

-- part K34
namespace Mine
theorem rB0 {w : World} : Refuses w 264 (Str.ofString "") := by
  have hw : Txt.words (Txt.replace (Str.ofString "") (Str.ofString ",") (Str.ofString " ")) = [] := by decide +kernel
  exact fun mean mg mb dp un gd cn cs a ccd cl outer A₀ base h₀ L m news s Q E tx B F X N T hk hdp hun XB TB D hexc => r_box0 B F X N T hk (by omega) (by omega) (by decide +kernel) (by decide +kernel) hw   hexc
theorem rB1 {w : World} : Refuses w 264 (Str.ofString "1 2 3") := by
  have hw : Txt.words (Txt.replace (Str.ofString "1 2 3") (Str.ofString ",") (Str.ofString " ")) = [form1 (1), form1 (2), form1 (3)] := by decide +kernel
  exact fun mean mg mb dp un gd cn cs a ccd cl outer A₀ base h₀ L m news s Q E tx B F X N T hk hdp hun XB TB D hexc => r_box3 B F X N T hk (by omega) (by omega) (by decide +kernel) (by decide +kernel) hw (.inl rfl : IsNum (form1 (1)) (1)) (by decide) (by decide) (.inl rfl : IsNum (form1 (2)) (2)) (by decide) (by decide) (.inl rfl : IsNum (form1 (3)) (3)) (by decide) (by decide)  hexc
theorem rB2 {w : World} : Refuses w 264 (Str.ofString "1 2 3 0") := by
  have hw : Txt.words (Txt.replace (Str.ofString "1 2 3 0") (Str.ofString ",") (Str.ofString " ")) = [form1 (1), form1 (2), form1 (3), form1 (0)] := by decide +kernel
  exact fun mean mg mb dp un gd cn cs a ccd cl outer A₀ base h₀ L m news s Q E tx B F X N T hk hdp hun XB TB D hexc => r_box4b B F X N T hk (by omega) (by omega) (by decide +kernel) (by decide +kernel) hw (.inl rfl : IsNum (form1 (1)) (1)) (by decide) (by decide) (.inl rfl : IsNum (form1 (2)) (2)) (by decide) (by decide) (.inl rfl : IsNum (form1 (3)) (3)) (by decide) (by decide) (.inl rfl : IsNum (form1 (0)) (0)) (by decide) (by decide) (by decide) (by decide) hexc
theorem rB3 {w : World} : Refuses w 264 (Str.ofString "0 0 -1 1") := by
  have hw : Txt.words (Txt.replace (Str.ofString "0 0 -1 1") (Str.ofString ",") (Str.ofString " ")) = [form1 (0), form1 (0), form1 (-1), form1 (1)] := by decide +kernel
  exact fun mean mg mb dp un gd cn cs a ccd cl outer A₀ base h₀ L m news s Q E tx B F X N T hk hdp hun XB TB D hexc => r_box4a B F X N T hk (by omega) (by omega) (by decide +kernel) (by decide +kernel) hw (.inl rfl : IsNum (form1 (0)) (0)) (by decide) (by decide) (.inl rfl : IsNum (form1 (0)) (0)) (by decide) (by decide) (.inl rfl : IsNum (form1 (-1)) (-1)) (by decide) (by decide) (.inl rfl : IsNum (form1 (1)) (1)) (by decide) (by decide) (by decide) hexc
theorem rB4 {w : World} : Refuses w 264 (Str.ofString "0 0 1 1 1") := by
  have hw : Txt.words (Txt.replace (Str.ofString "0 0 1 1 1") (Str.ofString ",") (Str.ofString " ")) = [form1 (0), form1 (0), form1 (1), form1 (1), form1 (1)] := by decide +kernel
  exact fun mean mg mb dp un gd cn cs a ccd cl outer A₀ base h₀ L m news s Q E tx B F X N T hk hdp hun XB TB D hexc => r_box5 B F X N T hk (by omega) (by omega) (by decide +kernel) (by decide +kernel) hw (.inl rfl : IsNum (form1 (0)) (0)) (by decide) (by decide) (.inl rfl : IsNum (form1 (0)) (0)) (by decide) (by decide) (.inl rfl : IsNum (form1 (1)) (1)) (by decide) (by decide) (.inl rfl : IsNum (form1 (1)) (1)) (by decide) (by decide) (.inl rfl : IsNum (form1 (1)) (1)) (by decide) (by decide)  hexc
theorem rB5 {w : World} : Refuses w 264 (Str.ofString "a b c d") := by
  have hw : Txt.words (Txt.replace (Str.ofString "a b c d") (Str.ofString ",") (Str.ofString " ")) = [Str.ofString "a", Str.ofString "b", Str.ofString "c", Str.ofString "d"] := by decide +kernel
  exact fun mean mg mb dp un gd cn cs a ccd cl outer A₀ base h₀ L m news s Q E tx B F X N T hk hdp hun XB TB D hexc => r_boxW B F X N T hk (by omega) (by omega) XB TB D (by decide +kernel) (by decide +kernel) hw (by decide +kernel) (by decide +kernel) (by decide +kernel) hexc
theorem rF0 {w : World} : Refuses w 278 (Str.ofString "xMid") := by
  have hw : Txt.words (Str.ofString "xMid") = [Str.ofString "xMid"] := by decide +kernel
  have hr : fitR [Str.ofString "xMid"] = none := by decide +kernel
  exact fun mean mg mb dp un gd cn cs a ccd cl outer A₀ base h₀ L m news s Q E tx B F X N T hk hdp hun XB TB D hexc => c_fitK1 B F X N T hk (by omega) (by omega) (by decide +kernel) hw (by decide +kernel) (by decide +kernel)  (fun al sl e => by rw [hr] at e; cases e) (fun _ => hexc)
theorem rF1 {w : World} : Refuses w 278 (Str.ofString "xMidyMid") := by
  have hw : Txt.words (Str.ofString "xMidyMid") = [Str.ofString "xMidyMid"] := by decide +kernel
  have hr : fitR [Str.ofString "xMidyMid"] = none := by decide +kernel
  exact fun mean mg mb dp un gd cn cs a ccd cl outer A₀ base h₀ L m news s Q E tx B F X N T hk hdp hun XB TB D hexc => c_fitK1 B F X N T hk (by omega) (by omega) (by decide +kernel) hw (by decide +kernel) (by decide +kernel)  (fun al sl e => by rw [hr] at e; cases e) (fun _ => hexc)
theorem rF2 {w : World} : Refuses w 278 (Str.ofString "YMinxMin") := by
  have hw : Txt.words (Str.ofString "YMinxMin") = [Str.ofString "YMinxMin"] := by decide +kernel
  have hr : fitR [Str.ofString "YMinxMin"] = none := by decide +kernel
  exact fun mean mg mb dp un gd cn cs a ccd cl outer A₀ base h₀ L m news s Q E tx B F X N T hk hdp hun XB TB D hexc => c_fitK1 B F X N T hk (by omega) (by omega) (by decide +kernel) hw (by decide +kernel) (by decide +kernel)  (fun al sl e => by rw [hr] at e; cases e) (fun _ => hexc)
theorem rF3 {w : World} : Refuses w 278 (Str.ofString "xMinYMin cut") := by
  have hw : Txt.words (Str.ofString "xMinYMin cut") = [Str.ofString "xMinYMin", Str.ofString "cut"] := by decide +kernel
  have hr : fitR [Str.ofString "xMinYMin", Str.ofString "cut"] = none := by decide +kernel
  exact fun mean mg mb dp un gd cn cs a ccd cl outer A₀ base h₀ L m news s Q E tx B F X N T hk hdp hun XB TB D hexc => c_fitK2 B F X N T hk (by omega) (by omega) (by decide +kernel) hw (by decide +kernel) (by decide +kernel) (by decide +kernel) (by decide +kernel)  (fun al sl e => by rw [hr] at e; cases e) (fun _ => hexc)
theorem rF4 {w : World} : Refuses w 278 (Str.ofString "none none") := by
  have hw : Txt.words (Str.ofString "none none") = [Str.ofString "none", Str.ofString "none"] := by decide +kernel
  have hr : fitR [Str.ofString "none", Str.ofString "none"] = none := by decide +kernel
  exact fun mean mg mb dp un gd cn cs a ccd cl outer A₀ base h₀ L m news s Q E tx B F X N T hk hdp hun XB TB D hexc => c_fitK2 B F X N T hk (by omega) (by omega) (by decide +kernel) hw (by decide +kernel) (by decide +kernel) (by decide +kernel) (by decide +kernel)  (fun al sl e => by rw [hr] at e; cases e) (fun _ => hexc)
theorem rF5 {w : World} : Refuses w 278 (Str.ofString "xMinYMin meet slice") := by
  have hw : Txt.words (Str.ofString "xMinYMin meet slice") = [Str.ofString "xMinYMin", Str.ofString "meet", Str.ofString "slice"] := by decide +kernel
  have hr : fitR [Str.ofString "xMinYMin", Str.ofString "meet", Str.ofString "slice"] = none := by decide +kernel
  exact fun mean mg mb dp un gd cn cs a ccd cl outer A₀ base h₀ L m news s Q E tx B F X N T hk hdp hun XB TB D hexc => c_fitK3 B F X N T hk (by omega) (by omega) (by decide +kernel) hw (by decide +kernel) (by decide +kernel) (by decide +kernel) (by decide +kernel) (by decide +kernel) (by decide +kernel)  (fun al sl e => by rw [hr] at e; cases e) (fun _ => hexc)
end Mine
namespace Mine
theorem part_end_K34 : True := by
  w_top off
  trivial
end Mine

-- part K12
namespace Mine
noncomputable abbrev srcO (a b : Int) (ta tb : Tok) (n : Nat) : Obj := W.listOf #[.int a ta, .int b tb] n
theorem pool_a {x : Int} {P : Prop} [Decidable P] : 0 ≤ (if -1 - x > x then -1 - x else x) * (if P then (1 : Int) else 0) := by
  refine Int.mul_nonneg ?_ ?_ <;> split <;> omega
theorem mulok {v : Int} : IntMulOk (v.fmod 2147483647) (v.fmod 2147483647) := by
  have h1 := Int.fmod_nonneg_of_pos v (show (0 : Int) < 2147483647 by decide)
  have h2 := Int.fmod_lt_of_pos v (show (0 : Int) < 2147483647 by decide)
  exact IntMulOk.of_left (PySem.intBits_le_64 (by omega) (by omega))
theorem fd_nn {x k : Int} (h : 0 ≤ x) (hk : 0 < k) : 0 ≤ x.fdiv k := by rw [Int.fdiv_eq_ediv_of_nonneg _ (by omega)]; exact Int.ediv_nonneg h (by omega)
theorem fm_nn {x k : Int} (h : 0 < k) : 0 ≤ x.fmod k := Int.fmod_nonneg_of_pos x h
theorem fm_lt {x k : Int} (h : 0 < k) : x.fmod k < k := Int.fmod_lt_of_pos x h
local macro_rules | `(tactic| k_all) => `(tactic| assumption)
local macro_rules | `(tactic| k_mem) => `(tactic| exact List.Mem.head _)
theorem words_K12_0 : True := by
  k_with_none
  k_with "subscriptTail" => (k_here; (with_reducible show wpAny _ _ (subscriptTail _ _ (Value.ref _) (Value.int 0 _)) _ _ _); k_dflt (refine' pa_item0 ?k1 ?k2 ?k3 ?_ ?k4; (case k1 => k_asm); (case k2 => k_asm); (case k3 => first | assumption | exact PA.more (by assumption) (by intro p hp; (repeat (first | (with_reducible exact hp) | refine List.mem_cons_of_mem _ ?_)))); (case k4 => with_unfolding_all rfl)); intro t9)
  k_with "subscriptTail" => (k_here; (with_reducible show wpAny _ _ (subscriptTail _ _ (Value.ref _) (Value.int 1 _)) _ _ _); k_dflt (refine' pa_item1 ?k1 ?k2 ?k3 ?_ ?k4; (case k1 => k_asm); (case k2 => k_asm); (case k3 => first | assumption | exact PA.more (by assumption) (by intro p hp; (repeat (first | (with_reducible exact hp) | refine List.mem_cons_of_mem _ ?_)))); (case k4 => with_unfolding_all rfl)); intro t9)
  k_with "binaryOp Mult int int" => (k_here; k_dflt (refine PyProof.Rows.mul_int ?_ (by assumption)))
  trivial
section
variable {w : World} {mean : ExcName → Option Value} {mg mb : Str → Option Value} {dp un : Nat} {gd : Option (List Code)} {cn : Str} {cs : Scope} {a : Addr} {ccd : Value} {cl : List (Str × Addr)} {outer : List Env} {A₀ : Around} {base h₀ : Heap} {L : Addr} {m : Str → Option Value} {news : List (Addr × Obj)} {s : Shared} {Q E : Value → Shared → Prop}
theorem c_pool {l : Addr} {vs : List Value} {ns : List Int} {tk : Tok} (B : Below A₀ base outer h₀) (F : Fr h₀ L s.heap m) (X : Frag.In (hd.heap_39 w.params) h₀) (N : News h₀ L s.heap news) (T : Top hd.view_39 LO mean mg mb h₀) (hk : cs.kind = .function) (hdp : dp + 2 < recursionLimit) (hun : un + 16 < cLine) (hl : base.IsList l vs.toArray) (hi : IntsAre vs ns) (hn : ns.length ≤ 63)
   (hret : ∀ src a b ta tb n h' tk', 0 ≤ a → 0 ≤ b → b < 2147483647 → Fr h₀ L h' m → News h₀ L h' ((src, srcO a b ta tb n) :: news) → (∀ p ∈ news, p.1 < src) → Q (.ref src) { s with heap := h', toks := tk' }) :
   wpAny (model PySem.Challenge.rw_nu0023_01.row.toRowW.prog w) (ktrTop dp un gd cn cs L a ccd cl outer) (call (.ref 300) [.ref l, .int 0 tk]) Q E s := by
  revert X; k_fill; intro X
  refine wpAny_call ?_
  k_dflt (refine' code_def ?k1 ?k2 ?k3 ?k4 ?k5 ?kA ?kF ?kK ?k6 ?k7 ?k8 ?k9 ?kB ?_ ?c2 ?c3 ?c4 ?c5; (case kA => exact rfl); (case kF => exact rfl); (case kK => assumption); (case k1 => k_asm); (case k2 => k_asm); (case k3 => k_asm); (case k4 => k_asm); (case k5 => k_asm); (case k6 => k_is); (case k7 => k_is); (case k8 => first | exact room_e (by assumption) | exact room_in (by assumption) (by exact rfl) | ktr_room); (case k9 => first | exact BindsTo.of_eq rfl | exact binds_K (by k_in) rfl (by k_is) rfl rfl rfl); (case c5 => decide); (case kB => exact locs rfl); (case c2 => exact rfl); (case c3 => exact rfl); (case c4 => exact rfl); k_whole; intro g' L' h' FG' F' N' B' X' T'; (try dsimp only); (try k_lift B'); (try k_fold))
  k_steps
  · exact hret _ _ _ _ _ _ _ _ pool_a (fm_nn (by decide)) (fm_lt (by decide)) (by assumption) (by assumption) (by assumption)
  · exact hret _ _ _ _ _ _ _ _ pool_a (fm_nn (by decide)) (fm_lt (by decide)) (by assumption) (by assumption) (by assumption)
theorem c_take0 {src : Addr} {x b k : Int} {ta tb tk : Tok} {n : Nat} (B : Below A₀ base outer h₀) (F : Fr h₀ L s.heap m) (X : Frag.In (hd.heap_39 w.params) h₀) (N : News h₀ L s.heap news) (T : Top hd.view_39 LO mean mg mb h₀) (hk : cs.kind = .function) (hdp : dp + 2 < recursionLimit) (hun : un + 16 < cLine) (hap : ∀ p ∈ news, p.1 ≠ src) (hx : 0 ≤ x) (hb0 : 0 ≤ b) (hb : b < 2147483647) (hk0 : 0 < k) (hk1 : k < 1000)
   (hN : News h₀ L s.heap ((src, srcO x b ta tb n) :: news))
   (hret : ∀ r x' b' t ta' tb' n' h' tk', 0 ≤ r → r < k → 0 ≤ x' → 0 ≤ b' → b' < 2147483647 → Fr h₀ L h' m → News h₀ L h' ((src, srcO x' b' ta' tb' n') :: news) → Q (.int r t) { s with heap := h', toks := tk' }) :
   wpAny (model PySem.Challenge.rw_nu0023_01.row.toRowW.prog w) (ktrTop dp un gd cn cs L a ccd cl outer) (call (.ref 307) [.ref src, .int k tk]) Q E s := by
  clear N
  have hq := mulok (v := b * 39373 + 7)
  revert X; k_fill; intro X
  refine wpAny_call ?_
  k_dflt (refine' code_def ?k1 ?k2 ?k3 ?k4 ?k5 ?kA ?kF ?kK ?k6 ?k7 ?k8 ?k9 ?kB ?_ ?c2 ?c3 ?c4 ?c5; (case kA => exact rfl); (case kF => exact rfl); (case kK => assumption); (case k1 => k_asm); (case k2 => k_asm); (case k3 => k_asm); (case k4 => k_asm); (case k5 => k_asm); (case k6 => k_is); (case k7 => k_is); (case k8 => first | exact room_e (by assumption) | exact room_in (by assumption) (by exact rfl) | ktr_room); (case k9 => first | exact BindsTo.of_eq rfl | exact binds_K (by k_in) rfl (by k_is) rfl rfl rfl); (case c5 => decide); (case kB => exact locs rfl); (case c2 => exact rfl); (case c3 => exact rfl); (case c4 => exact rfl); k_whole; intro g' L' h' FG' F' N' B' X' T'; (try dsimp only); (try k_lift B'); (try k_fold))
  k_steps
  · exact hret _ _ _ _ _ _ _ _ _ (fm_nn hk0) (fm_lt hk0) (fd_nn hx hk0) hb0 hb (by assumption) (by assumption)
  · exact hret _ _ _ _ _ _ _ _ _ (fm_nn hk0) (fm_lt hk0) hx (fm_nn (by decide)) (fm_lt (by decide)) (by assumption) (by assumption)
end
end Mine
namespace Mine
theorem part_end_K12 : True := by
  w_top off
  trivial
end Mine

-- part K13
namespace Mine
section
variable {w : World} {mean : ExcName → Option Value} {mg mb : Str → Option Value} {dp un : Nat} {gd : Option (List Code)} {cn : Str} {cs : Scope} {a : Addr} {ccd : Value} {cl : List (Str × Addr)} {outer : List Env} {A₀ : Around} {base h₀ : Heap} {L : Addr} {m : Str → Option Value} {news : List (Addr × Obj)} {s : Shared} {Q E : Value → Shared → Prop}
theorem c_take {src : Addr} {x b k : Int} {ta tb tk : Tok} {n : Nat} {g : Obj → List (Addr × Obj)} (B : Below A₀ base outer h₀) (F : Fr h₀ L s.heap m) (X : Frag.In (hd.heap_39 w.params) h₀) (N : News h₀ L s.heap news) (T : Top hd.view_39 LO mean mg mb h₀) (hk : cs.kind = .function) (hdp : dp + 2 < recursionLimit) (hun : un + 16 < cLine) (U : UpdF src (srcO x b ta tb n) news g) (hx : 0 ≤ x) (hb0 : 0 ≤ b) (hb : b < 2147483647) (hk0 : 0 < k) (hk1 : k < 1000)
   (hret : ∀ r x' b' t ta' tb' n' h' tk', 0 ≤ r → r < k → 0 ≤ x' → 0 ≤ b' → b' < 2147483647 → Fr h₀ L h' m → News h₀ L h' (g (srcO x' b' ta' tb' n')) → Q (.int r t) { s with heap := h', toks := tk' }) :
   wpAny (model PySem.Challenge.rw_nu0023_01.row.toRowW.prog w) (ktrTop dp un gd cn cs L a ccd cl outer) (call (.ref 307) [.ref src, .int k tk]) Q E s := by
  obtain ⟨pre, post, e1, e2, h1, h2⟩ := U.split
  have hap : ∀ p ∈ pre ++ post, p.1 ≠ src := fun p hp => (List.mem_append.mp hp).elim (h1 p) (h2 p)
  have hN : News h₀ L s.heap ((src, srcO x b ta tb n) :: (pre ++ post)) := fun p hp => N p (by
    rw [e1]
    simp only [List.mem_cons, List.mem_append] at hp ⊢
    rcases hp with hp | hp | hp
    · exact .inr (.inl hp)
    · exact .inl hp
    · exact .inr (.inr hp))
  refine c_take0 (news := pre ++ post) B F X (fun p hp => hN p (.tail _ hp)) T hk hdp hun hap hx hb0 hb hk0 hk1 hN fun r x' b' t ta' tb' n' h' tk' q1 q2 q3 q4 q5 F' N' => hret r x' b' t ta' tb' n' h' tk' q1 q2 q3 q4 q5 F' fun p hp => N' p ?_
  rw [e2] at hp
  simp only [List.mem_cons, List.mem_append] at hp ⊢
  rcases hp with hp | hp | hp
  · exact .inr (.inl hp)
  · exact .inl hp
  · exact .inr (.inr hp)
end
section
variable {prog : Program} {w : World} {A : Around} {E : Value → Shared → Prop} {s : Shared} {h₀ : Heap} {L : Addr} {news : List (Addr × Obj)} {q : Addr} {value slice : PySem.Expr} {k : Int} {u : Tok} {Q : Value → Shared → Prop}
theorem one_item {vs : List Value} {n : Nat} (N : News h₀ L s.heap news) (hm : (q, W.listOf vs.toArray n) ∈ news) (h0 : 0 ≤ k) (h1 : k < vs.length) (h2 : vs.length ≤ 8) (h : ∀ v ∈ vs, Q v s)
    (hs : subscripted slice false (.ref q) (.int k u) = operate [.ref q, .int k u] (getItem (.ref q) (.int k u)) := by with_unfolding_all rfl) :
    wpAny (model prog w) A (subscriptTail value slice (.ref q) (.int k u)) Q E s := by
  have hl : s.heap.IsList q vs.toArray := ⟨_, (N _ hm).1, rfl, n, rfl⟩
  have hlt : k.toNat < vs.length := by omega
  exact tail_any hl.typeIs slot_list_getitem.lookup (wpAny_getItem_list hl h0 (by omega) (x := vs[k.toNat]) (by simp [hlt]) (h _ (List.getElem_mem hlt))) hs
end
section
variable {prog : Program} {w : World} {A : Around} {E : Value → Shared → Prop} {s : Shared} {h₀ : Heap} {L : Addr} {news : List (Addr × Obj)} {q : Addr} {Q : Value → Shared → Prop}
theorem one_len {vs : List Value} {n : Nat} (N : News h₀ L s.heap news) (hm : (q, W.listOf vs.toArray n) ∈ news) (h2 : vs.length ≤ 8) (h : ∀ t1 t2, Q (.int (vs.length : Int) t1) { s with toks := t2 }) :
    wpAny (model prog w) A (call (.builtin "len") [.ref q]) Q E s := by
  have hl : s.heap.IsList q vs.toArray := ⟨_, (N _ hm).1, rfl, n, rfl⟩
  refine len_list hl ?_ ?_
  · rw [List.size_toArray]; omega
  · rw [List.size_toArray]; exact h _ _
end
local macro_rules | `(tactic| k_mem) => `(tactic| ((show _ ∈ _); apply_assumption))
theorem words_K13_0 : True := by
  k_with_none
  k_with "subscriptTail" => (k_here; (with_reducible show wpAny _ _ (subscriptTail _ _ (Value.ref _) (Value.int 0 _)) _ _ _); k_dflt (refine' pa_item0 ?k1 ?k2 ?k3 ?_ ?k4; (case k1 => k_asm); (case k2 => k_asm); (case k3 => first | assumption | exact PA.more (by assumption) (by intro p hp; (repeat (first | (with_reducible exact hp) | refine List.mem_cons_of_mem _ ?_)))); (case k4 => with_unfolding_all rfl)); intro t9)
  k_with "subscriptTail" => (k_here; (with_reducible show wpAny _ _ (subscriptTail _ _ (Value.ref _) (Value.int 1 _)) _ _ _); k_dflt (refine' pa_item1 ?k1 ?k2 ?k3 ?_ ?k4; (case k1 => k_asm); (case k2 => k_asm); (case k3 => first | assumption | exact PA.more (by assumption) (by intro p hp; (repeat (first | (with_reducible exact hp) | refine List.mem_cons_of_mem _ ?_)))); (case k4 => with_unfolding_all rfl)); intro t9)
  k_with "call builtin:len" => (k_here; (with_reducible show wpAny _ _ (call (Value.builtin "len") [Value.ref _]) _ _ _); k_dflt (refine' one_len ?k1 ?k2 ?k3 ?_; (case k1 => k_asm); (case k2 => assumption); (case k3 => assumption)); intro t9 t8)
  k_with "call ref" => (k_here; (with_reducible show wpAny _ _ (call (Value.ref 307) _) _ _ _); k_dflt (refine' c_take ?k1 ?k2 ?k3 ?k4 ?k5 ?kK ?kd ?ku ?p1 ?p2 ?p3 ?p4 ?p5 ?p6 ?_; (case k1 => k_asm); (case k2 => k_asm); (case k3 => k_asm); (case k4 => k_asm); (case k5 => k_asm); (case kK => first | exact rfl | assumption); (case kd => first | exact room_in (by assumption) (by exact rfl) | exact room_0 (by assumption) (by exact rfl) | ktr_room); (case ku => first | exact unit_3 (by assumption) (by exact rfl) | exact unit_4 (by assumption) (by exact rfl) | exact room_0 (by assumption) (by exact rfl) | ktr_units); (case p1 => with_reducible assumption); (case p2 => omega); (case p3 => omega); (case p4 => omega); (case p5 => omega); (case p6 => omega)); intro r9 x9 b9 t9 t8 t7 n9 h9 tk9 q1 q2 q3 q4 q5 F9 N9; (try dsimp only); (try k_sweep); (try k_fold))
  k_with "subscriptTail" => (k_here; (with_reducible show wpAny _ _ (subscriptTail _ _ (Value.ref _) (Value.int _ _)) _ _ _); k_dflt (refine' one_item ?k1 ?k2 ?k3 ?k4 ?k5 ?_ ?k6; (case k1 => k_asm); (case k2 => (show _ ∈ _); apply_assumption); (case k3 => omega); (case k4 => omega); (case k5 => assumption); (case k6 => with_unfolding_all rfl)); intro v9 hv9)
  trivial
section
variable {w : World} {mean : ExcName → Option Value} {mg mb : Str → Option Value} {dp un : Nat} {gd : Option (List Code)} {cn : Str} {cs : Scope} {a : Addr} {ccd : Value} {cl : List (Str × Addr)} {outer : List Env} {A₀ : Around} {base h₀ : Heap} {L : Addr} {m : Str → Option Value} {news : List (Addr × Obj)} {s : Shared} {Q E : Value → Shared → Prop}
theorem c_one {src th : Addr} {x b : Int} {ta tb : Tok} {n nt : Nat} {vs : List Value} {g : Obj → List (Addr × Obj)} (B : Below A₀ base outer h₀) (F : Fr h₀ L s.heap m) (X : Frag.In (hd.heap_39 w.params) h₀) (N : News h₀ L s.heap news) (T : Top hd.view_39 LO mean mg mb h₀) (hk : cs.kind = .function) (hdp : dp + 3 < recursionLimit) (hun : un + 24 < cLine) (U : UpdF src (srcO x b ta tb n) news g) (hx : 0 ≤ x) (hb0 : 0 ≤ b) (hb : b < 2147483647)
   (hth : (th, W.listOf vs.toArray nt) ∈ news) (hg : ∀ o', (th, W.listOf vs.toArray nt) ∈ g o') (hv0 : 0 < vs.length) (hv : vs.length ≤ 8)
   (hret : ∀ v ∈ vs, ∀ x' b' ta' tb' n' h' tk', 0 ≤ x' → 0 ≤ b' → b' < 2147483647 → Fr h₀ L h' m → News h₀ L h' (g (srcO x' b' ta' tb' n')) → Q v { s with heap := h', toks := tk' }) :
   wpAny (model PySem.Challenge.rw_nu0023_01.row.toRowW.prog w) (ktrTop dp un gd cn cs L a ccd cl outer) (call (.ref 314) [.ref src, .ref th]) Q E s := by
  revert X; k_fill; intro X
  refine wpAny_call ?_
  k_dflt (refine' code_def ?k1 ?k2 ?k3 ?k4 ?k5 ?kA ?kF ?kK ?k6 ?k7 ?k8 ?k9 ?kB ?_ ?c2 ?c3 ?c4 ?c5; (case kA => exact rfl); (case kF => exact rfl); (case kK => assumption); (case k1 => k_asm); (case k2 => k_asm); (case k3 => k_asm); (case k4 => k_asm); (case k5 => k_asm); (case k6 => k_is); (case k7 => k_is); (case k8 => first | exact room_e (by assumption) | exact room_in (by assumption) (by exact rfl) | ktr_room); (case k9 => first | exact BindsTo.of_eq rfl | exact binds_K (by k_in) rfl (by k_is) rfl rfl rfl); (case c5 => decide); (case kB => exact locs rfl); (case c2 => exact rfl); (case c3 => exact rfl); (case c4 => exact rfl); k_whole; intro g' L' h' FG' F' N' B' X' T'; (try dsimp only); (try k_lift B'); (try k_fold))
  k_steps
  refine hret _ (by assumption) _ _ _ _ _ _ _ ?_ ?_ ?_ (by assumption) (by assumption)
  all_goals assumption
end
end Mine
namespace Mine
theorem part_end_K13 : True := by
  w_top off
  trivial
end Mine

-- part K14
namespace Mine
theorem mulB {a b : Int} (h : a.natAbs < 9000000000000000000) : IntMulOk a b := IntMulOk.of_left (PySem.intBits_le_64 (by omega) (by omega))
theorem ret_true {h₀ h' : Heap} {L : Addr} {m : Str → Option Value} {news news' : List (Addr × Obj)} {s : Shared} {Q : Value → Shared → Prop} {tk' : Nat} {b : Bool}
    (hret : ∀ h' tk', Fr h₀ L h' m → News h₀ L h' news → Q (.bool true) { s with heap := h', toks := tk' }) (e : b = true) (F : Fr h₀ L h' m) (N : News h₀ L h' news') (hs : ∀ p ∈ news, p ∈ news') : Q (.bool b) { s with heap := h', toks := tk' } :=
  e ▸ hret h' tk' F fun p hp => N p (hs p hp)
theorem words_K14_0 : True := by
  k_with_none
  k_with "subscriptTail" => (k_here; (with_reducible show wpAny _ _ (subscriptTail _ _ (Value.ref _) (Value.int 0 _)) _ _ _); k_dflt (refine' pa_item0 ?k1 ?k2 ?k3 ?_ ?k4; (case k1 => k_asm); (case k2 => k_asm); (case k3 => first | assumption | exact PA.more (by assumption) (by intro p hp; (repeat (first | (with_reducible exact hp) | refine List.mem_cons_of_mem _ ?_)))); (case k4 => with_unfolding_all rfl)); intro t9)
  k_with "subscriptTail" => (k_here; (with_reducible show wpAny _ _ (subscriptTail _ _ (Value.ref _) (Value.int 1 _)) _ _ _); k_dflt (refine' pa_item1 ?k1 ?k2 ?k3 ?_ ?k4; (case k1 => k_asm); (case k2 => k_asm); (case k3 => first | assumption | exact PA.more (by assumption) (by intro p hp; (repeat (first | (with_reducible exact hp) | refine List.mem_cons_of_mem _ ?_)))); (case k4 => with_unfolding_all rfl)); intro t9)
  trivial
section
variable {w : World} {mean : ExcName → Option Value} {mg mb : Str → Option Value} {dp un : Nat} {gd : Option (List Code)} {cn : Str} {cs : Scope} {a : Addr} {ccd : Value} {cl : List (Str × Addr)} {outer : List Env} {A₀ : Around} {base h₀ : Heap} {L : Addr} {m : Str → Option Value} {news : List (Addr × Obj)} {s : Shared} {Q E : Value → Shared → Prop}
theorem c_less {x1 y1 x2 y2 : Int} {qa qb : Addr} (B : Below A₀ base outer h₀) (F : Fr h₀ L s.heap m) (X : Frag.In (hd.heap_39 w.params) h₀) (N : News h₀ L s.heap news) (T : Top hd.view_39 LO mean mg mb h₀) (hk : cs.kind = .function) (hdp : dp + 1 < recursionLimit) (hun : un + 8 < cLine) (Pa : PA h₀ news qa x1 y1) (Pb : PA h₀ news qb x2 y2)
   (hx1 : x1.natAbs < 9000000000000000000) (hx2 : x2.natAbs < 9000000000000000000) (hy1 : y1.natAbs < 9000000000000000000)
   (hret : ∀ D t1 t2 c h' tk', Fr h₀ L h' m → News h₀ L h' ((D, tupO #[.int (x1 * y2 - x2 * y1) t1, .int (y1 * y2) t2] c) :: news) → AllLt D news → Q (.ref D) { s with heap := h', toks := tk' }) :
   wpAny (model PySem.Challenge.rw_nu0023_01.row.toRowW.prog w) (ktrTop dp un gd cn cs L a ccd cl outer) (call (.ref 321) [.ref qa, .ref qb]) Q E s := by
  revert X; k_fill; intro X
  refine wpAny_call ?_
  k_dflt (refine' code_def ?k1 ?k2 ?k3 ?k4 ?k5 ?kA ?kF ?kK ?k6 ?k7 ?k8 ?k9 ?kB ?_ ?c2 ?c3 ?c4 ?c5; (case kA => exact rfl); (case kF => exact rfl); (case kK => assumption); (case k1 => k_asm); (case k2 => k_asm); (case k3 => k_asm); (case k4 => k_asm); (case k5 => k_asm); (case k6 => k_is); (case k7 => k_is); (case k8 => first | exact room_e (by assumption) | exact room_in (by assumption) (by exact rfl) | ktr_room); (case k9 => first | exact BindsTo.of_eq rfl | exact binds_K (by k_in) rfl (by k_is) rfl rfl rfl); (case c5 => decide); (case kB => exact locs rfl); (case c2 => exact rfl); (case c3 => exact rfl); (case c4 => exact rfl); k_whole; intro g' L' h' FG' F' N' B' X' T'; (try dsimp only); (try k_lift B'); (try k_fold))
  have Pa' := PA.up Pa FG'.keep
  have Pb' := PA.up Pb FG'.keep
  clear Pa Pb
  k_steps
  all_goals exact ret_pair hret rfl rfl (by assumption) (by assumption) (by k_mem) (by intro p hp; (repeat (first | (with_reducible exact hp) | refine List.mem_cons_of_mem _ ?_))) (by first | assumption | exact allLt_of (by assumption) | exact alt1 (by assumption) | exact alt2 (by assumption) | exact alt3 (by assumption) | exact alt4 (by assumption) | exact alt5 (by assumption) | exact allLt_lt (by assumption) (by omega))
theorem c_like {x1 y1 x2 y2 : Int} {qa qb : Addr} (B : Below A₀ base outer h₀) (F : Fr h₀ L s.heap m) (X : Frag.In (hd.heap_39 w.params) h₀) (N : News h₀ L s.heap news) (T : Top hd.view_39 LO mean mg mb h₀) (hk : cs.kind = .function) (hdp : dp + 1 < recursionLimit) (hun : un + 8 < cLine) (Pa : PA h₀ news qa x1 y1) (Pb : PA h₀ news qb x2 y2)
   (hx1 : x1.natAbs < 9000000000000000000) (hx2 : x2.natAbs < 9000000000000000000) 
   (hret : ∀ h' tk', Fr h₀ L h' m → News h₀ L h' news → Q (.bool (x1 * y2 == x2 * y1)) { s with heap := h', toks := tk' }) :
   wpAny (model PySem.Challenge.rw_nu0023_01.row.toRowW.prog w) (ktrTop dp un gd cn cs L a ccd cl outer) (call (.ref 328) [.ref qa, .ref qb]) Q E s := by
  revert X; k_fill; intro X
  refine wpAny_call ?_
  k_dflt (refine' code_def ?k1 ?k2 ?k3 ?k4 ?k5 ?kA ?kF ?kK ?k6 ?k7 ?k8 ?k9 ?kB ?_ ?c2 ?c3 ?c4 ?c5; (case kA => exact rfl); (case kF => exact rfl); (case kK => assumption); (case k1 => k_asm); (case k2 => k_asm); (case k3 => k_asm); (case k4 => k_asm); (case k5 => k_asm); (case k6 => k_is); (case k7 => k_is); (case k8 => first | exact room_e (by assumption) | exact room_in (by assumption) (by exact rfl) | ktr_room); (case k9 => first | exact BindsTo.of_eq rfl | exact binds_K (by k_in) rfl (by k_is) rfl rfl rfl); (case c5 => decide); (case kB => exact locs rfl); (case c2 => exact rfl); (case c3 => exact rfl); (case c4 => exact rfl); k_whole; intro g' L' h' FG' F' N' B' X' T'; (try dsimp only); (try k_lift B'); (try k_fold))
  have Pa' := PA.up Pa FG'.keep
  have Pb' := PA.up Pb FG'.keep
  clear Pa Pb
  k_steps
  all_goals exact hret _ _ (by assumption) (by assumption)
end
theorem words_K14_1 : True := by
  k_with "call ref" => (k_here; (with_reducible show wpAny _ _ (call (Value.ref 321) _) _ _ _); k_dflt (refine' c_less ?k1 ?k2 ?k3 ?k4 ?k5 ?kK ?kd ?ku ?p1 ?p2 ?p3 ?p4 ?p5 ?_; (case k1 => k_asm); (case k2 => k_asm); (case k3 => k_asm); (case k4 => k_asm); (case k5 => k_asm); (case kK => first | exact rfl | assumption); (case kd => first | exact room_in (by assumption) (by exact rfl) | exact room_0 (by assumption) (by exact rfl) | ktr_room); (case ku => first | exact unit_3 (by assumption) (by exact rfl) | exact unit_4 (by assumption) (by exact rfl) | exact room_0 (by assumption) (by exact rfl) | ktr_units); (case p1 => first | (with_reducible assumption) | exact PA.mem (by k_mem) | exact PA.more (by with_reducible assumption) (by intro p hp; (repeat (first | (with_reducible exact hp) | refine List.mem_cons_of_mem _ ?_)))); (case p2 => first | (with_reducible assumption) | exact PA.mem (by k_mem) | exact PA.more (by with_reducible assumption) (by intro p hp; (repeat (first | (with_reducible exact hp) | refine List.mem_cons_of_mem _ ?_)))); (case p3 => omega); (case p4 => omega); (case p5 => omega)); intro D9 t9 t8 c9 h9 tk9 F9 N9 l9; (try replace l9 := allLt_hd l9); (try dsimp only); (try k_sweep); (try k_fold))
  k_with "call ref" => (k_here; (with_reducible show wpAny _ _ (call (Value.ref 328) _) _ _ _); k_dflt (refine' c_like ?k1 ?k2 ?k3 ?k4 ?k5 ?kK ?kd ?ku ?p1 ?p2 ?p3 ?p4 ?_; (case k1 => k_asm); (case k2 => k_asm); (case k3 => k_asm); (case k4 => k_asm); (case k5 => k_asm); (case kK => first | exact rfl | assumption); (case kd => first | exact room_in (by assumption) (by exact rfl) | exact room_0 (by assumption) (by exact rfl) | ktr_room); (case ku => first | exact unit_3 (by assumption) (by exact rfl) | exact unit_4 (by assumption) (by exact rfl) | exact room_0 (by assumption) (by exact rfl) | ktr_units); (case p1 => first | (with_reducible assumption) | exact PA.mem (by k_mem) | exact PA.more (by with_reducible assumption) (by intro p hp; (repeat (first | (with_reducible exact hp) | refine List.mem_cons_of_mem _ ?_)))); (case p2 => first | (with_reducible assumption) | exact PA.mem (by k_mem) | exact PA.more (by with_reducible assumption) (by intro p hp; (repeat (first | (with_reducible exact hp) | refine List.mem_cons_of_mem _ ?_)))); (case p3 => omega); (case p4 => omega)); intro h9 tk9 F9 N9; (try dsimp only); (try k_sweep); (try k_fold))
  trivial
section
variable {w : World} {mean : ExcName → Option Value} {mg mb : Str → Option Value} {dp un : Nat} {gd : Option (List Code)} {cn : Str} {cs : Scope} {a : Addr} {ccd : Value} {cl : List (Str × Addr)} {outer : List Env} {A₀ : Around} {base h₀ : Heap} {L : Addr} {m : Str → Option Value} {news : List (Addr × Obj)} {s : Shared} {Q E : Value → Shared → Prop}
theorem c_rest {x1 y1 x2 y2 z : Int} {wd : Str} {tz tw : Tok} {qa qb : Addr} (B : Below A₀ base outer h₀) (F : Fr h₀ L s.heap m) (X : Frag.In (hd.heap_39 w.params) h₀) (N : News h₀ L s.heap news) (T : Top hd.view_39 LO mean mg mb h₀) (hk : cs.kind = .function) (hdp : dp + 2 < recursionLimit) (hun : un + 16 < cLine) (Pa : PA h₀ news qa x1 y1) (Pb : PA h₀ news qb x2 y2) (hw : IsPlace wd)
   (hx1 : x1.natAbs < 9000000000000000000) (hx2 : x2.natAbs < 9000000000000000000) (hz : z.natAbs < 9000000000000000000) (hzz : (z * y2 - x2 * 1).natAbs < 9000000000000000000)
   (g1 : wd = Str.ofString "Min" → x1 = 0) (g2 : wd = Str.ofString "Max" → z * y2 - x2 * 1 = 0) (g3 : wd = Str.ofString "Mid" → x1 * (1 * y2) = (z * y2 - x2 * 1) * y1)
   (hret : ∀ h' tk', Fr h₀ L h' m → News h₀ L h' news → Q (.bool true) { s with heap := h', toks := tk' }) :
   wpAny (model PySem.Challenge.rw_nu0023_01.row.toRowW.prog w) (ktrTop dp un gd cn cs L a ccd cl outer) (call (.ref 335) [.ref qa, .ref qb, .int z tz, .str wd tw]) Q E s := by
  revert X; k_fill; intro X
  have g1' : wd = Str.ofString "Min" → (x1 == 0) = true := fun e => by rw [g1 e]; rfl
  have g2' : wd = Str.ofString "Max" → (z * y2 - x2 * 1 == 0) = true := fun e => by rw [g2 e]; rfl
  have g3' : wd = Str.ofString "Mid" → (x1 * (1 * y2) == (z * y2 - x2 * 1) * y1) = true := fun e => by rw [g3 e]; exact beq_self_eq_true _
  clear g1 g2 g3
  rcases hw with rfl | rfl | rfl
  all_goals (
    refine wpAny_call ?_
    k_dflt (refine' code_def ?k1 ?k2 ?k3 ?k4 ?k5 ?kA ?kF ?kK ?k6 ?k7 ?k8 ?k9 ?kB ?_ ?c2 ?c3 ?c4 ?c5; (case kA => exact rfl); (case kF => exact rfl); (case kK => assumption); (case k1 => k_asm); (case k2 => k_asm); (case k3 => k_asm); (case k4 => k_asm); (case k5 => k_asm); (case k6 => k_is); (case k7 => k_is); (case k8 => first | exact room_e (by assumption) | exact room_in (by assumption) (by exact rfl) | ktr_room); (case k9 => first | exact BindsTo.of_eq rfl | exact binds_K (by k_in) rfl (by k_is) rfl rfl rfl); (case c5 => decide); (case kB => exact locs rfl); (case c2 => exact rfl); (case c3 => exact rfl); (case c4 => exact rfl); k_whole; intro g' L' h' FG' F' N' B' X' T'; (try dsimp only); (try k_lift B'); (try k_fold))
    have Pa' := PA.up Pa FG'.keep
    have Pb' := PA.up Pb FG'.keep
    clear Pa Pb
    k_steps)
  · exact ret_true hret (g1' rfl) (by assumption) (by assumption) (by intro p hp; (repeat (first | (with_reducible exact hp) | refine List.mem_cons_of_mem _ ?_)))
  · exact ret_true hret (g3' rfl) (by assumption) (by assumption) (by intro p hp; (repeat (first | (with_reducible exact hp) | refine List.mem_cons_of_mem _ ?_)))
  · exact ret_true hret (g2' rfl) (by assumption) (by assumption) (by intro p hp; (repeat (first | (with_reducible exact hp) | refine List.mem_cons_of_mem _ ?_)))
end
end Mine
namespace Mine
theorem part_end_K14 : True := by
  w_top off
  trivial
end Mine

-- part T1
namespace Mine
noncomputable def cm (c : Nat) : Nat := if c = 44 then 32 else c
theorem cm_free : ∀ l : List Nat, 44 ∉ l → l.map cm = l
  | [], _ => rfl
  | a :: l, h => by
    have h1 : a ≠ 44 := fun e => h (e ▸ List.mem_cons_self)
    have h2 := cm_free l fun m => h (List.mem_cons_of_mem _ m)
    rw [List.map_cons, h2]
    show (if a = 44 then 32 else a) :: l = a :: l
    rw [if_neg h1]
theorem cm_join : ∀ parts : List Str, (∀ p ∈ parts, 44 ∉ p.cps.toList) → (Str.join ⟨#[44]⟩ parts).cps.toList.map cm = (Str.join ⟨#[32]⟩ parts).cps.toList
  | [], _ => rfl
  | [p], h => cm_free _ (h p (List.mem_singleton.mpr rfl))
  | p :: q :: r, h => by
    have ih := cm_join (q :: r) fun a ha => h a (List.mem_cons_of_mem _ ha)
    show (p ++ ⟨#[44]⟩ ++ Str.join ⟨#[44]⟩ (q :: r)).cps.toList.map cm = (p ++ ⟨#[32]⟩ ++ Str.join ⟨#[32]⟩ (q :: r)).cps.toList
    simp only [Str.cps_append, Array.toList_append, List.map_append]
    rw [ih, cm_free _ (h p (List.mem_cons_self ..))]
    rfl
theorem comma_eq : Str.ofString "," = ⟨#[44]⟩ := by decide +kernel
theorem space_eq : Str.ofString " " = ⟨#[32]⟩ := by decide +kernel
theorem replace_comma (x : Str) : (Txt.replace x (Str.ofString ",") (Str.ofString " ")).cps.toList = x.cps.toList.map cm := by
  rw [comma_eq, space_eq, StrLaws.replace_one, ← cm_join _ (StrLaws.split_free x 44), StrLaws.join_split]
theorem replace_len (x : Str) : (Txt.replace x (Str.ofString ",") (Str.ofString " ")).length = x.length := by
  have h := congrArg List.length (replace_comma x)
  rw [List.length_map, Array.length_toList, Array.length_toList] at h
  exact h
/-- the signs of a word: none, or some and neither blank nor comma -/
noncomputable def signy (l : List Nat) : Bool := !l.isEmpty && l.all (fun c => !Unicode.isSpace c && c != 44) && Nat.ble l.length 8
noncomputable def blanky (l : List Nat) : Bool := !l.isEmpty && l.all (fun c => Unicode.isSpace (cm c)) && Nat.ble l.length 2
theorem str_toList {x : Str} : (⟨x.cps.toList.toArray⟩ : Str) = x := Str.ext' (by simp)
theorem run_word : ∀ (l : List Nat) (ws : List Str) (r : Str), (∀ c ∈ l, Unicode.isSpace c = false) → l.foldl KWd.step (ws, r) = (ws, r ++ ⟨l.toArray⟩)
  | [], ws, r, _ => by
    show (ws, r) = _
    rw [show r ++ (⟨([] : List Nat).toArray⟩ : Str) = r from Str.ext' (by rw [Str.cps_append]; simp)]
  | c :: l, ws, r, h => by
    rw [List.foldl_cons]
    have e : KWd.step (ws, r) c = (ws, r ++ ⟨#[c]⟩) := by
      unfold KWd.step
      rw [if_neg (by rw [h c List.mem_cons_self]; exact Bool.false_ne_true)]
    rw [e, run_word l _ _ fun d hd => h d (List.mem_cons_of_mem _ hd)]
    refine congrArg (Prod.mk ws) (Str.ext' ?_)
    simp only [Str.cps_append]
    apply Array.toList_inj.mp
    simp
theorem run_gap0 : ∀ (l : List Nat) (ws : List Str), (∀ c ∈ l, Unicode.isSpace c = true) → l.foldl KWd.step (ws, Str.empty) = (ws, Str.empty)
  | [], ws, _ => rfl
  | c :: l, ws, h => by
    rw [List.foldl_cons]
    have e : KWd.step (ws, Str.empty) c = (ws, Str.empty) := by
      unfold KWd.step
      rw [if_pos (h c List.mem_cons_self)]
      rfl
    rw [e]
    exact run_gap0 l _ fun d hd => h d (List.mem_cons_of_mem _ hd)
theorem run_gap {l : List Nat} {ws : List Str} {r : Str} (hl : l ≠ []) (h : ∀ c ∈ l, Unicode.isSpace c = true) (hr : r.length ≠ 0) : l.foldl KWd.step (ws, r) = (ws ++ [r], Str.empty) := by
  cases l with
  | nil => exact absurd rfl hl
  | cons c l =>
    rw [List.foldl_cons]
    have e : KWd.step (ws, r) c = (ws ++ [r], Str.empty) := by
      unfold KWd.step
      rw [if_pos (h c List.mem_cons_self), if_neg hr]
    rw [e]
    exact run_gap0 l _ fun d hd => h d (List.mem_cons_of_mem _ hd)
theorem signy_space {l : List Nat} (h : signy l = true) : ∀ c ∈ l, Unicode.isSpace c = false := by
  intro c hc
  simp only [signy, Bool.and_eq_true, List.all_eq_true, Bool.not_eq_true'] at h
  exact (h.1.2 c hc).1
theorem signy_comma {l : List Nat} (h : signy l = true) : 44 ∉ l := by
  intro hc
  simp only [signy, Bool.and_eq_true, List.all_eq_true, Bool.not_eq_true'] at h
  exact absurd (h.1.2 44 hc).2 (by decide)
theorem signy_ne {l : List Nat} (h : signy l = true) : l ≠ [] := by
  intro e; subst e; exact absurd h (by decide)
theorem signy_len {l : List Nat} (h : signy l = true) : l.length ≤ 8 := by
  simp only [signy, Bool.and_eq_true] at h
  exact Nat.le_of_ble_eq_true h.2
theorem blanky_space {l : List Nat} (h : blanky l = true) : ∀ c ∈ l.map cm, Unicode.isSpace c = true := by
  intro c hc
  simp only [blanky, Bool.and_eq_true, List.all_eq_true] at h
  obtain ⟨d, hd, rfl⟩ := List.mem_map.mp hc
  exact h.1.2 d hd
theorem blanky_ne {l : List Nat} (h : blanky l = true) : l.map cm ≠ [] := by
  intro e
  rw [List.map_eq_nil_iff] at e
  subst e; exact absurd h (by decide)
theorem blanky_len {l : List Nat} (h : blanky l = true) : l.length ≤ 2 := by
  simp only [blanky, Bool.and_eq_true] at h
  exact Nat.le_of_ble_eq_true h.2
theorem empty_app (x : Str) : Str.empty ++ (⟨x.cps.toList.toArray⟩ : Str) = x := Str.ext' (by rw [Str.cps_append]; simp [Str.empty])
theorem signy_length {x : Str} (h : signy x.cps.toList = true) : x.length ≠ 0 := by
  intro e
  refine signy_ne h ?_
  have h' : x.cps.toList.length = 0 := by rw [Array.length_toList]; exact e
  exact List.length_eq_zero_iff.mp h'
theorem words_joined {b w1 w2 w3 w4 : Str} (hb : blanky b.cps.toList = true) (h1 : signy w1.cps.toList = true) (h2 : signy w2.cps.toList = true) (h3 : signy w3.cps.toList = true) (h4 : signy w4.cps.toList = true) :
    Txt.words (Txt.replace (Txt.join b [w1, w2, w3, w4]) (Str.ofString ",") (Str.ofString " ")) = [w1, w2, w3, w4] := by
  have ej : Txt.join b [w1, w2, w3, w4] = Str.join b [w1, w2, w3, w4] := StrLaws.glued_eq_join _ _
  have e : KWd.scan (Txt.replace (Txt.join b [w1, w2, w3, w4]) (Str.ofString ",") (Str.ofString " ")) = ([w1, w2, w3], w4) := by
    unfold KWd.scan
    rw [replace_comma, ej]
    show ((w1 ++ b ++ (w2 ++ b ++ (w3 ++ b ++ w4))).cps.toList.map cm).foldl KWd.step ([], Str.empty) = _
    simp only [Str.cps_append, Array.toList_append, List.map_append, List.foldl_append]
    rw [cm_free _ (signy_comma h1), cm_free _ (signy_comma h2), cm_free _ (signy_comma h3), cm_free _ (signy_comma h4)]
    rw [run_word _ _ _ (signy_space h1), empty_app, run_gap (blanky_ne hb) (blanky_space hb) (signy_length h1)]
    rw [run_word _ _ _ (signy_space h2), empty_app, run_gap (blanky_ne hb) (blanky_space hb) (signy_length h2)]
    rw [run_word _ _ _ (signy_space h3), empty_app, run_gap (blanky_ne hb) (blanky_space hb) (signy_length h3)]
    rw [run_word _ _ _ (signy_space h4), empty_app]
    rfl
  rw [KWd.words_of e, if_neg (signy_length h4)]
  rfl
theorem len_joined {b w1 w2 w3 w4 : Str} (hb : blanky b.cps.toList = true) (h1 : signy w1.cps.toList = true) (h2 : signy w2.cps.toList = true) (h3 : signy w3.cps.toList = true) (h4 : signy w4.cps.toList = true) :
    (Txt.join b [w1, w2, w3, w4]).length ≤ 128 := by
  have ej : Txt.join b [w1, w2, w3, w4] = Str.join b [w1, w2, w3, w4] := StrLaws.glued_eq_join _ _
  rw [ej]
  have e : (Str.join b [w1, w2, w3, w4]).length = (w1 ++ b ++ (w2 ++ b ++ (w3 ++ b ++ w4))).cps.toList.length := by rw [Array.length_toList]; rfl
  rw [e]
  simp only [Str.cps_append, Array.toList_append, List.length_append]
  have := signy_len h1; have := signy_len h2; have := signy_len h3; have := signy_len h4; have := blanky_len hb
  omega
noncomputable def IsBlank (x : Str) : Prop := x = Str.ofString " " ∨ x = Str.ofString ", " ∨ x = Str.ofString "\n" ∨ x = Str.ofString ","
theorem blank_ok {x : Str} (h : IsBlank x) : blanky x.cps.toList = true := by
  rcases h with rfl | rfl | rfl | rfl <;> decide +kernel
theorem num_all : ((List.range 11).all fun i => signy (form1 ((i : Int) - 4)).cps.toList && signy (form2 ((i : Int) - 4)).cps.toList && signy (form3 ((i : Int) - 4)).cps.toList) = true := by decide +kernel
theorem num_ok {x : Str} {n : Int} (h : IsNum x n) (h1 : -4 ≤ n) (h2 : n ≤ 6) : signy x.cps.toList = true := by
  have h0 := List.all_eq_true.mp num_all (n + 4).toNat (List.mem_range.mpr (by omega))
  have e : (((n + 4).toNat : Nat) : Int) - 4 = n := by omega
  simp only [e, Bool.and_eq_true] at h0
  rcases h with rfl | rfl | rfl
  · exact h0.1.1
  · exact h0.1.2
  · exact h0.2
theorem num_len {x : Str} {n : Int} (h : IsNum x n) (h1 : -4 ≤ n) (h2 : n ≤ 6) : x.length ≤ 8 := by
  have h := signy_len (num_ok h h1 h2)
  rwa [Array.length_toList] at h
theorem blank_len {x : Str} (h : IsBlank x) : x.length ≤ 2 := by
  have h := blanky_len (blank_ok h)
  rwa [Array.length_toList] at h
end Mine
namespace Mine
theorem part_end_T1 : True := by
  w_top off
  trivial
end Mine

-- part F1
namespace Mine
noncomputable def IsDefer (x : Str) : Prop := x = Str.ofString "" ∨ x = Str.ofString "defer "
noncomputable def IsMeet (x : Str) : Prop := x = Str.ofString "" ∨ x = Str.ofString " meet"
noncomputable def IsTail (sl : Bool) (x : Str) : Prop := (sl = true ∧ x = Str.ofString " slice") ∨ (sl = false ∧ IsMeet x)
theorem fw0 : ∀ al ∈ goodP, Txt.words (Str.ofString "" ++ al ++ Str.ofString "") = [al] := by decide +kernel
theorem fl0 : ∀ al ∈ goodP, (Str.ofString "" ++ al ++ Str.ofString "").length ≤ 128 := by decide +kernel
theorem fw1 : ∀ al ∈ goodP, Txt.words (Str.ofString "" ++ al ++ Str.ofString " meet") = [al, Str.ofString "meet"] := by decide +kernel
theorem fl1 : ∀ al ∈ goodP, (Str.ofString "" ++ al ++ Str.ofString " meet").length ≤ 128 := by decide +kernel
theorem fw2 : ∀ al ∈ goodP, Txt.words (Str.ofString "" ++ al ++ Str.ofString " slice") = [al, Str.ofString "slice"] := by decide +kernel
theorem fl2 : ∀ al ∈ goodP, (Str.ofString "" ++ al ++ Str.ofString " slice").length ≤ 128 := by decide +kernel
theorem fw3 : ∀ al ∈ goodP, Txt.words (Str.ofString "defer " ++ al ++ Str.ofString "") = [Str.ofString "defer", al] := by decide +kernel
theorem fl3 : ∀ al ∈ goodP, (Str.ofString "defer " ++ al ++ Str.ofString "").length ≤ 128 := by decide +kernel
theorem fw4 : ∀ al ∈ goodP, Txt.words (Str.ofString "defer " ++ al ++ Str.ofString " meet") = [Str.ofString "defer", al, Str.ofString "meet"] := by decide +kernel
theorem fl4 : ∀ al ∈ goodP, (Str.ofString "defer " ++ al ++ Str.ofString " meet").length ≤ 128 := by decide +kernel
theorem fw5 : ∀ al ∈ goodP, Txt.words (Str.ofString "defer " ++ al ++ Str.ofString " slice") = [Str.ofString "defer", al, Str.ofString "slice"] := by decide +kernel
theorem fl5 : ∀ al ∈ goodP, (Str.ofString "defer " ++ al ++ Str.ofString " slice").length ≤ 128 := by decide +kernel
theorem fr0 : ∀ al ∈ goodP, fitR [al] = some (al, false) := by decide +kernel
theorem fr1 : ∀ al ∈ goodP, fitR [al, Str.ofString "meet"] = some (al, false) := by decide +kernel
theorem fr2 : ∀ al ∈ goodP, fitR [al, Str.ofString "slice"] = some (al, true) := by decide +kernel
theorem fr3 : ∀ al ∈ goodP, fitR [Str.ofString "defer", al] = some (al, false) := by decide +kernel
theorem fr4 : ∀ al ∈ goodP, fitR [Str.ofString "defer", al, Str.ofString "meet"] = some (al, false) := by decide +kernel
theorem fr5 : ∀ al ∈ goodP, fitR [Str.ofString "defer", al, Str.ofString "slice"] = some (al, true) := by decide +kernel
theorem fa : ∀ al ∈ goodP, al.length ≤ 16 := by decide +kernel
theorem fitR_ret {P : Str → Bool → Prop} {ws : List Str} {al : Str} {sl : Bool} (e : fitR ws = some (al, sl)) (h : P al sl) : ∀ al' sl', fitR ws = some (al', sl') → P al' sl' := fun al' sl' e' => by
  rw [e] at e'
  injection e' with e'
  injection e' with e1 e2
  subst e1; subst e2
  exact h
theorem fitR_no {P : Prop} {ws : List Str} {al : Str} {sl : Bool} (e : fitR ws = some (al, sl)) (h : fitR ws = none) : P := by rw [e] at h; cases h
theorem fok : ∀ al ∈ goodP, PyData.strOk al = true := by decide +kernel
theorem fnd : ∀ al ∈ goodP, (al == Str.ofString "defer") = false := by decide +kernel
theorem fE : Txt.words (Str.ofString "") = [] := by decide +kernel
section
variable {w : World} {mean : ExcName → Option Value} {mg mb : Str → Option Value} {dp un : Nat} {gd : Option (List Code)} {cn : Str} {cs : Scope} {a : Addr} {ccd : Value} {cl : List (Str × Addr)} {outer : List Env} {A₀ : Around} {base h₀ : Heap} {L : Addr} {m : Str → Option Value} {news : List (Addr × Obj)} {s : Shared} {Q E : Value → Shared → Prop}
theorem c_fitAny {d al tl x : Str} {tx : Tok} {sl : Bool} (B : Below A₀ base outer h₀) (F : Fr h₀ L s.heap m) (X : Frag.In (hd.heap_39 w.params) h₀) (N : News h₀ L s.heap news) (T : Top hd.view_39 LO mean mg mb h₀) (hk : cs.kind = .function) (hdp : dp + 7 < recursionLimit) (hun : un + 96 < cLine) (hal : al ∈ goodP) (hd : IsDefer d) (ht : IsTail sl tl) (hx : x = d ++ al ++ tl)
   (hret : ∀ (q : Addr) (t : Tok) (c : Nat) (h' : Heap) (tk' : Nat), Fr h₀ L h' m → News h₀ L h' ((q, tupO #[.str al t, .bool sl] c) :: news) → AllLt q news → Q (.ref q) { s with heap := h', toks := tk' }) :
   wpAny (model PySem.Challenge.rw_nu0023_01.row.toRowW.prog w) (ktrTop dp un gd cn cs L a ccd cl outer) (call (.ref 278) [.str x tx]) Q E s := by
  subst hx
  rcases hd with rfl | rfl
  · rcases ht with ⟨rfl, rfl⟩ | ⟨rfl, rfl | rfl⟩
    · exact c_fitK2 B F X N T hk hdp hun (fl2 al hal) (fw2 al hal) (fa al hal) (fok al hal) (by decide +kernel) (by decide +kernel) (fitR_ret (fr2 al hal) hret) (fitR_no (fr2 al hal))
    · exact c_fitK1 B F X N T hk hdp hun (fl0 al hal) (fw0 al hal) (fa al hal) (fok al hal) (fitR_ret (fr0 al hal) hret) (fitR_no (fr0 al hal))
    · exact c_fitK2 B F X N T hk hdp hun (fl1 al hal) (fw1 al hal) (fa al hal) (fok al hal) (by decide +kernel) (by decide +kernel) (fitR_ret (fr1 al hal) hret) (fitR_no (fr1 al hal))
  · rcases ht with ⟨rfl, rfl⟩ | ⟨rfl, rfl | rfl⟩
    · exact c_fitK3 B F X N T hk hdp hun (fl5 al hal) (fw5 al hal) (by decide +kernel) (by decide +kernel) (fa al hal) (fok al hal) (by decide +kernel) (by decide +kernel) (fitR_ret (fr5 al hal) hret) (fitR_no (fr5 al hal))
    · exact c_fitK2 B F X N T hk hdp hun (fl3 al hal) (fw3 al hal) (by decide +kernel) (by decide +kernel) (fa al hal) (fok al hal) (fitR_ret (fr3 al hal) hret) (fitR_no (fr3 al hal))
    · exact c_fitK3 B F X N T hk hdp hun (fl4 al hal) (fw4 al hal) (by decide +kernel) (by decide +kernel) (fa al hal) (fok al hal) (by decide +kernel) (by decide +kernel) (fitR_ret (fr4 al hal) hret) (fitR_no (fr4 al hal))
theorem c_fitEmpty {x : Str} {tx : Tok} (B : Below A₀ base outer h₀) (F : Fr h₀ L s.heap m) (X : Frag.In (hd.heap_39 w.params) h₀) (N : News h₀ L s.heap news) (T : Top hd.view_39 LO mean mg mb h₀) (hk : cs.kind = .function) (hdp : dp + 7 < recursionLimit) (hun : un + 96 < cLine) (hx : x = Str.ofString "")
   (hret : ∀ (q : Addr) (t : Tok) (c : Nat) (h' : Heap) (tk' : Nat), Fr h₀ L h' m → News h₀ L h' ((q, tupO #[.str (Str.ofString "xMidYMid") t, .bool false] c) :: news) → AllLt q news → Q (.ref q) { s with heap := h', toks := tk' }) :
   wpAny (model PySem.Challenge.rw_nu0023_01.row.toRowW.prog w) (ktrTop dp un gd cn cs L a ccd cl outer) (call (.ref 278) [.str x tx]) Q E s := by
  subst hx
  exact c_fitK0 B F X N T hk hdp hun (by decide +kernel) fE (fitR_ret (by decide +kernel) hret)
end
section
variable {w : World} {mean : ExcName → Option Value} {mg mb : Str → Option Value} {dp un : Nat} {gd : Option (List Code)} {cn : Str} {cs : Scope} {a : Addr} {ccd : Value} {cl : List (Str × Addr)} {outer : List Env} {A₀ : Around} {base h₀ : Heap} {L : Addr} {m : Str → Option Value} {news : List (Addr × Obj)} {s : Shared} {Q E : Value → Shared → Prop}

theorem c_boxAny {b w1 w2 w3 w4 x : Str} {n1 n2 n3 n4 : Int} {tx : Tok} (B : Below A₀ base outer h₀) (F : Fr h₀ L s.heap m) (X : Frag.In (hd.heap_39 w.params) h₀) (N : News h₀ L s.heap news) (T : Top hd.view_39 LO mean mg mb h₀) (hk : cs.kind = .function) (hdp : dp + 9 < recursionLimit) (hun : un + 72 < cLine) (hb : IsBlank b) (i1 : IsNum w1 n1) (i2 : IsNum w2 n2) (i3 : IsNum w3 n3) (i4 : IsNum w4 n4)
   (j1 : -4 ≤ n1) (k1 : n1 ≤ 6) (j2 : -4 ≤ n2) (k2 : n2 ≤ 6) (j3 : 0 < n3) (k3 : n3 ≤ 6) (j4 : 0 < n4) (k4 : n4 ≤ 6) (hx : x = Txt.join b [w1, w2, w3, w4])
   (hret : ∀ (D1 D2 D3 D4 l : Addr) (t1 u1 t2 u2 t3 u3 t4 u4 : Tok) (c1 c2 c3 c4 n : Nat) (h' : Heap) (tk' : Nat), Fr h₀ L h' m → News h₀ L h' ((l, tupO #[.ref D1, .ref D2, .ref D3, .ref D4] n) :: (D1, tupO #[.int n1 t1, .int 1 u1] c1) :: (D2, tupO #[.int n2 t2, .int 1 u2] c2) :: (D3, tupO #[.int n3 t3, .int 1 u3] c3) :: (D4, tupO #[.int n4 t4, .int 1 u4] c4) :: news) → AllLt l news → (∀ i ∈ [D1, D2, D3, D4], AllLt i news) → Q (.ref l) { s with heap := h', toks := tk' }) :
   wpAny (model PySem.Challenge.rw_nu0023_01.row.toRowW.prog w) (ktrTop dp un gd cn cs L a ccd cl outer) (call (.ref 264) [.str x tx]) Q E s := by
  subst hx
  have q1 := num_ok i1 j1 k1
  have q2 := num_ok i2 j2 k2
  have q3 := num_ok i3 (by omega) k3
  have q4 := num_ok i4 (by omega) k4
  have hl := len_joined (blank_ok hb) q1 q2 q3 q4
  refine c_box B F X N T hk hdp hun hl (by rw [replace_len]; exact hl) (words_joined (blank_ok hb) q1 q2 q3 q4) i1 j1 k1 i2 j2 k2 i3 (by omega) k3 i4 (by omega) k4 (Int.sign_eq_one_of_pos j3) (Int.sign_eq_one_of_pos j4) hret
end
end Mine
namespace Mine
theorem part_end_F1 : True := by
  w_top off
  trivial
end Mine

-- part K30
namespace Mine
theorem compEnd_drp {h₀ : Heap} {L I C D : Addr} {m : Str → Option Value} {s₁ : Shared} {oI oC oD : Obj} {S : List (Addr × Obj) → Prop} {rest : Value → List (Addr × Obj) → Prop} {y : Value} {h' : Heap} {tk : Nat} {all news' : List (Addr × Obj)}
    (F : Fr h₀ L h' m) (N : News h₀ L h' all) (mI : (I, oI) ∈ all) (mC : (C, oC) ∈ all) (mD : (D, oD) ∈ all) (d : Drp [I, C, D] all news') (off : LCg.Off3 I C D news') (hS : S news') (r : rest y news') :
    LCg.CompEnd h₀ L m s₁ I oI C oC D oD S rest y { s₁ with heap := h', toks := tk } :=
  LCg.CompEnd.intro F N news' (fun p hp => (List.mem_cons.mp hp).elim (fun e => e ▸ mI) fun hp => (List.mem_cons.mp hp).elim (fun e => e ▸ mC) fun hp => (List.mem_cons.mp hp).elim (fun e => e ▸ mD) (d.sub p)) off hS r
theorem off3_use {I C D : Addr} {l t : List (Addr × Obj)} (h : ∀ p ∈ l, p.1 ≠ I ∧ p.1 ≠ C ∧ p.1 ≠ D) (s : ∀ p ∈ t, p ∈ l) : LCg.Off3 I C D t := LCg.Off3.of fun p hp => h p (s p hp)
theorem om0 {l : List (Addr × Obj)} {I C D a : Addr} {o : Obj} (h : ∀ p ∈ l, p.1 ≠ I ∧ p.1 ≠ C ∧ p.1 ≠ D) (m : (a, o) ∈ l) : @Ne Nat a I := (h _ m).1
theorem om1 {l : List (Addr × Obj)} {I C D a : Addr} {o : Obj} (h : ∀ p ∈ l, p.1 ≠ I ∧ p.1 ≠ C ∧ p.1 ≠ D) (m : (a, o) ∈ l) : @Ne Nat a C := (h _ m).2.1
theorem om2 {l : List (Addr × Obj)} {I C D a : Addr} {o : Obj} (h : ∀ p ∈ l, p.1 ≠ I ∧ p.1 ≠ C ∧ p.1 ≠ D) (m : (a, o) ∈ l) : @Ne Nat a D := (h _ m).2.2
theorem om3 {l : List (Addr × Obj)} {I C D a : Addr} {o : Obj} (h : ∀ p ∈ l, p.1 ≠ I ∧ p.1 ≠ C ∧ p.1 ≠ D) (m : (a, o) ∈ l) : @Ne Nat I a := (om0 h m).symm
theorem om4 {l : List (Addr × Obj)} {I C D a : Addr} {o : Obj} (h : ∀ p ∈ l, p.1 ≠ I ∧ p.1 ≠ C ∧ p.1 ≠ D) (m : (a, o) ∈ l) : @Ne Nat C a := (om1 h m).symm
theorem om5 {l : List (Addr × Obj)} {I C D a : Addr} {o : Obj} (h : ∀ p ∈ l, p.1 ≠ I ∧ p.1 ≠ C ∧ p.1 ≠ D) (m : (a, o) ∈ l) : @Ne Nat D a := (om2 h m).symm
section
end
theorem words_K30_0 : True := by
  k_with_none
  k_with "subscriptTail" => (k_here; (with_reducible show wpAny _ _ (subscriptTail _ _ (Value.ref _) (Value.int 0 _)) _ _ _); k_dflt (refine' pa_item0 ?k1 ?k2 ?k3 ?_ ?k4; (case k1 => k_asm); (case k2 => k_asm); (case k3 => first | assumption | exact PA.more (by assumption) (by intro p hp; (repeat (first | (with_reducible exact hp) | refine List.mem_cons_of_mem _ ?_)))); (case k4 => with_unfolding_all rfl)); intro t9)
  k_with "subscriptTail" => (k_here; (with_reducible show wpAny _ _ (subscriptTail _ _ (Value.ref _) (Value.int 1 _)) _ _ _); k_dflt (refine' pa_item1 ?k1 ?k2 ?k3 ?_ ?k4; (case k1 => k_asm); (case k2 => k_asm); (case k3 => first | assumption | exact PA.more (by assumption) (by intro p hp; (repeat (first | (with_reducible exact hp) | refine List.mem_cons_of_mem _ ?_)))); (case k4 => with_unfolding_all rfl)); intro t9)
  k_with "compareOp Eq ref ref" => (k_here; (with_reducible show wpAny _ _ (compareOp CmpOp.Eq (Value.ref _) (Value.ref _)) _ _ _); (k_dflt refine eq_dataH (by ke_read) (by ke_read) (by (simp [SeqAt.shaped, PyData.canLay0, PyData.canLayAll0, PyData.depth, PyData.depthAll] <;> (repeat' (first | (with_reducible assumption) | decide +kernel | apply And.intro)))) (by (simp [SeqAt.shaped, PyData.canLay0, PyData.canLayAll0, PyData.depth, PyData.depthAll] <;> (repeat' (first | (with_reducible assumption) | decide +kernel | apply And.intro)))) (by ktr_units) ?_); (try (simp only [PyData.eqv, PyData.eqvAll, beq_self_eq_true, Bool.and_true, Bool.true_and, Bool.and_false, Bool.false_and, Bool.not_true, Bool.not_false, decide_true, decide_false, *])))
  k_with "compareOp NotEq ref ref" => (k_here; (with_reducible show wpAny _ _ (compareOp CmpOp.NotEq (Value.ref _) (Value.ref _)) _ _ _); (k_dflt refine ne_dataH (by ke_read) (by ke_read) (by (simp [SeqAt.shaped, PyData.canLay0, PyData.canLayAll0, PyData.depth, PyData.depthAll] <;> (repeat' (first | (with_reducible assumption) | decide +kernel | apply And.intro)))) (by (simp [SeqAt.shaped, PyData.canLay0, PyData.canLayAll0, PyData.depth, PyData.depthAll] <;> (repeat' (first | (with_reducible assumption) | decide +kernel | apply And.intro)))) (by ktr_units) ?_); (try (simp only [PyData.eqv, PyData.eqvAll, beq_self_eq_true, Bool.and_true, Bool.true_and, Bool.and_false, Bool.false_and, Bool.not_true, Bool.not_false, decide_true, decide_false, *])))
  k_with "compareOp NotIn ref ref" => (k_here; (with_reducible show wpAny _ _ (compareOp CmpOp.NotIn (Value.ref _) (Value.ref _)) _ _ _); (k_dflt refine PySem.SeqAt.notIn_tuple_reads (by ke_read) (by ke_read) (by (simp [SeqAt.shaped, PyData.canLay0, PyData.canLayAll0, PyData.depth, PyData.depthAll] <;> (repeat' (first | (with_reducible assumption) | decide +kernel | apply And.intro)))) (by (simp [SeqAt.shaped, PyData.canLay0, PyData.canLayAll0, PyData.depth, PyData.depthAll] <;> (repeat' (first | (with_reducible assumption) | decide +kernel | apply And.intro)))) (room_in_shaped (by (simp [SeqAt.shaped, PyData.canLay0, PyData.canLayAll0, PyData.depth, PyData.depthAll] <;> (repeat' (first | (with_reducible assumption) | decide +kernel | apply And.intro)))) (by ktr_units)) ?_); (try (simp only [PyData.eqv, PyData.eqvAll, beq_self_eq_true, Bool.and_true, Bool.true_and, Bool.and_false, Bool.false_and, Bool.not_true, Bool.not_false, decide_true, decide_false, *])); (try simp only [List.any_cons, List.any_nil, PyData.eqv, PyData.eqvAll]))
  trivial
section
variable {w : World} {mean : ExcName → Option Value} {mg mb : Str → Option Value} {dp un : Nat} {gd : Option (List Code)} {cn : Str} {cs : Scope} {a : Addr} {ccd : Value} {cl : List (Str × Addr)} {outer : List Env} {A₀ : Around} {base h₀ : Heap} {L : Addr} {m : Str → Option Value} {news : List (Addr × Obj)} {s : Shared} {Q E : Value → Shared → Prop}
theorem c_oneB {src th : Addr} {x b : Int} {ta tb : Tok} {n nt : Nat} {t0 t1 t2 t3 : Tok} {g : Obj → List (Addr × Obj)} (B : Below A₀ base outer h₀) (F : Fr h₀ L s.heap m) (X : Frag.In (hd.heap_39 w.params) h₀) (N : News h₀ L s.heap news) (T : Top hd.view_39 LO mean mg mb h₀) (hk : cs.kind = .function) (hdp : dp + 3 < recursionLimit) (hun : un + 24 < cLine) (U : UpdF src (srcO x b ta tb n) news g) (hx : 0 ≤ x) (hb0 : 0 ≤ b) (hb : b < 2147483647) 
   (hth : (th, W.listOf #[.str (Str.ofString " ") t0, .str (Str.ofString ", ") t1, .str (Str.ofString "\n") t2, .str (Str.ofString ",") t3] nt) ∈ news) (hg : ∀ o', (th, W.listOf #[.str (Str.ofString " ") t0, .str (Str.ofString ", ") t1, .str (Str.ofString "\n") t2, .str (Str.ofString ",") t3] nt) ∈ g o')
   (hret : ∀ y t x' b' ta' tb' n' h' tk', IsBlank y → 0 ≤ x' → 0 ≤ b' → b' < 2147483647 → Fr h₀ L h' m → News h₀ L h' (g (srcO x' b' ta' tb' n')) → Q (.str y t) { s with heap := h', toks := tk' }) :
   wpAny (model PySem.Challenge.rw_nu0023_01.row.toRowW.prog w) (ktrTop dp un gd cn cs L a ccd cl outer) (call (.ref 314) [.ref src, .ref th]) Q E s := by
  refine c_one (vs := [.str (Str.ofString " ") t0, .str (Str.ofString ", ") t1, .str (Str.ofString "\n") t2, .str (Str.ofString ",") t3]) B F X N T hk hdp hun U hx hb0 hb hth hg (Nat.succ_pos _) (Nat.le_of_ble_eq_true rfl) ?_
  intro v hv x' b' ta' tb' n' h' tk' q1 q2 q3 F1 N1
  simp only [List.mem_cons, List.not_mem_nil, or_false] at hv
  rcases hv with rfl | rfl | rfl | rfl
  · exact hret _ _ _ _ _ _ _ _ _ (Or.inl rfl) q1 q2 q3 F1 N1
  · exact hret _ _ _ _ _ _ _ _ _ (Or.inr (Or.inl rfl)) q1 q2 q3 F1 N1
  · exact hret _ _ _ _ _ _ _ _ _ (Or.inr (Or.inr (Or.inl rfl))) q1 q2 q3 F1 N1
  · exact hret _ _ _ _ _ _ _ _ _ (Or.inr (Or.inr (Or.inr (rfl)))) q1 q2 q3 F1 N1
theorem c_oneN {src th : Addr} {x b : Int} {ta tb : Tok} {n nt : Nat} {t0 t1 t2 : Tok} {k : Int} {g : Obj → List (Addr × Obj)} (B : Below A₀ base outer h₀) (F : Fr h₀ L s.heap m) (X : Frag.In (hd.heap_39 w.params) h₀) (N : News h₀ L s.heap news) (T : Top hd.view_39 LO mean mg mb h₀) (hk : cs.kind = .function) (hdp : dp + 3 < recursionLimit) (hun : un + 24 < cLine) (U : UpdF src (srcO x b ta tb n) news g) (hx : 0 ≤ x) (hb0 : 0 ≤ b) (hb : b < 2147483647) 
   (hth : (th, W.listOf #[.str (Str.ofString (toString k)) t0, .str (Str.ofString (toString k) ++ Str.ofString ".0") t1, .str (Str.ofString (toString (10 * k)) ++ Str.ofString "e-1") t2] nt) ∈ news) (hg : ∀ o', (th, W.listOf #[.str (Str.ofString (toString k)) t0, .str (Str.ofString (toString k) ++ Str.ofString ".0") t1, .str (Str.ofString (toString (10 * k)) ++ Str.ofString "e-1") t2] nt) ∈ g o')
   (hret : ∀ y t x' b' ta' tb' n' h' tk', IsNum y k → 0 ≤ x' → 0 ≤ b' → b' < 2147483647 → Fr h₀ L h' m → News h₀ L h' (g (srcO x' b' ta' tb' n')) → Q (.str y t) { s with heap := h', toks := tk' }) :
   wpAny (model PySem.Challenge.rw_nu0023_01.row.toRowW.prog w) (ktrTop dp un gd cn cs L a ccd cl outer) (call (.ref 314) [.ref src, .ref th]) Q E s := by
  refine c_one (vs := [.str (Str.ofString (toString k)) t0, .str (Str.ofString (toString k) ++ Str.ofString ".0") t1, .str (Str.ofString (toString (10 * k)) ++ Str.ofString "e-1") t2]) B F X N T hk hdp hun U hx hb0 hb hth hg (Nat.succ_pos _) (Nat.le_of_ble_eq_true rfl) ?_
  intro v hv x' b' ta' tb' n' h' tk' q1 q2 q3 F1 N1
  simp only [List.mem_cons, List.not_mem_nil, or_false] at hv
  rcases hv with rfl | rfl | rfl
  · exact hret _ _ _ _ _ _ _ _ _ (Or.inl rfl) q1 q2 q3 F1 N1
  · exact hret _ _ _ _ _ _ _ _ _ (Or.inr (Or.inl rfl)) q1 q2 q3 F1 N1
  · exact hret _ _ _ _ _ _ _ _ _ (Or.inr (Or.inr (rfl))) q1 q2 q3 F1 N1
theorem c_oneD {src th : Addr} {x b : Int} {ta tb : Tok} {n nt : Nat} {t0 t1 : Tok} {g : Obj → List (Addr × Obj)} (B : Below A₀ base outer h₀) (F : Fr h₀ L s.heap m) (X : Frag.In (hd.heap_39 w.params) h₀) (N : News h₀ L s.heap news) (T : Top hd.view_39 LO mean mg mb h₀) (hk : cs.kind = .function) (hdp : dp + 3 < recursionLimit) (hun : un + 24 < cLine) (U : UpdF src (srcO x b ta tb n) news g) (hx : 0 ≤ x) (hb0 : 0 ≤ b) (hb : b < 2147483647) 
   (hth : (th, W.listOf #[.str (Str.ofString "") t0, .str (Str.ofString "defer ") t1] nt) ∈ news) (hg : ∀ o', (th, W.listOf #[.str (Str.ofString "") t0, .str (Str.ofString "defer ") t1] nt) ∈ g o')
   (hret : ∀ y t x' b' ta' tb' n' h' tk', IsDefer y → 0 ≤ x' → 0 ≤ b' → b' < 2147483647 → Fr h₀ L h' m → News h₀ L h' (g (srcO x' b' ta' tb' n')) → Q (.str y t) { s with heap := h', toks := tk' }) :
   wpAny (model PySem.Challenge.rw_nu0023_01.row.toRowW.prog w) (ktrTop dp un gd cn cs L a ccd cl outer) (call (.ref 314) [.ref src, .ref th]) Q E s := by
  refine c_one (vs := [.str (Str.ofString "") t0, .str (Str.ofString "defer ") t1]) B F X N T hk hdp hun U hx hb0 hb hth hg (Nat.succ_pos _) (Nat.le_of_ble_eq_true rfl) ?_
  intro v hv x' b' ta' tb' n' h' tk' q1 q2 q3 F1 N1
  simp only [List.mem_cons, List.not_mem_nil, or_false] at hv
  rcases hv with rfl | rfl
  · exact hret _ _ _ _ _ _ _ _ _ (Or.inl rfl) q1 q2 q3 F1 N1
  · exact hret _ _ _ _ _ _ _ _ _ (Or.inr (rfl)) q1 q2 q3 F1 N1
theorem c_oneM {src th : Addr} {x b : Int} {ta tb : Tok} {n nt : Nat} {t0 t1 : Tok} {g : Obj → List (Addr × Obj)} (B : Below A₀ base outer h₀) (F : Fr h₀ L s.heap m) (X : Frag.In (hd.heap_39 w.params) h₀) (N : News h₀ L s.heap news) (T : Top hd.view_39 LO mean mg mb h₀) (hk : cs.kind = .function) (hdp : dp + 3 < recursionLimit) (hun : un + 24 < cLine) (U : UpdF src (srcO x b ta tb n) news g) (hx : 0 ≤ x) (hb0 : 0 ≤ b) (hb : b < 2147483647) 
   (hth : (th, W.listOf #[.str (Str.ofString "") t0, .str (Str.ofString " meet") t1] nt) ∈ news) (hg : ∀ o', (th, W.listOf #[.str (Str.ofString "") t0, .str (Str.ofString " meet") t1] nt) ∈ g o')
   (hret : ∀ y t x' b' ta' tb' n' h' tk', IsMeet y → 0 ≤ x' → 0 ≤ b' → b' < 2147483647 → Fr h₀ L h' m → News h₀ L h' (g (srcO x' b' ta' tb' n')) → Q (.str y t) { s with heap := h', toks := tk' }) :
   wpAny (model PySem.Challenge.rw_nu0023_01.row.toRowW.prog w) (ktrTop dp un gd cn cs L a ccd cl outer) (call (.ref 314) [.ref src, .ref th]) Q E s := by
  refine c_one (vs := [.str (Str.ofString "") t0, .str (Str.ofString " meet") t1]) B F X N T hk hdp hun U hx hb0 hb hth hg (Nat.succ_pos _) (Nat.le_of_ble_eq_true rfl) ?_
  intro v hv x' b' ta' tb' n' h' tk' q1 q2 q3 F1 N1
  simp only [List.mem_cons, List.not_mem_nil, or_false] at hv
  rcases hv with rfl | rfl
  · exact hret _ _ _ _ _ _ _ _ _ (Or.inl rfl) q1 q2 q3 F1 N1
  · exact hret _ _ _ _ _ _ _ _ _ (Or.inr (rfl)) q1 q2 q3 F1 N1
theorem c_oneRB {src th : Addr} {x b : Int} {ta tb : Tok} {n nt : Nat} {t0 t1 t2 t3 t4 t5 : Tok} {g : Obj → List (Addr × Obj)} (B : Below A₀ base outer h₀) (F : Fr h₀ L s.heap m) (X : Frag.In (hd.heap_39 w.params) h₀) (N : News h₀ L s.heap news) (T : Top hd.view_39 LO mean mg mb h₀) (hk : cs.kind = .function) (hdp : dp + 3 < recursionLimit) (hun : un + 24 < cLine) (U : UpdF src (srcO x b ta tb n) news g) (hx : 0 ≤ x) (hb0 : 0 ≤ b) (hb : b < 2147483647) (r0 : Refuses w 264 (Str.ofString "")) (r1 : Refuses w 264 (Str.ofString "1 2 3")) (r2 : Refuses w 264 (Str.ofString "1 2 3 0")) (r3 : Refuses w 264 (Str.ofString "0 0 -1 1")) (r4 : Refuses w 264 (Str.ofString "0 0 1 1 1")) (r5 : Refuses w 264 (Str.ofString "a b c d"))
   (hth : (th, W.listOf #[.str (Str.ofString "") t0, .str (Str.ofString "1 2 3") t1, .str (Str.ofString "1 2 3 0") t2, .str (Str.ofString "0 0 -1 1") t3, .str (Str.ofString "0 0 1 1 1") t4, .str (Str.ofString "a b c d") t5] nt) ∈ news) (hg : ∀ o', (th, W.listOf #[.str (Str.ofString "") t0, .str (Str.ofString "1 2 3") t1, .str (Str.ofString "1 2 3 0") t2, .str (Str.ofString "0 0 -1 1") t3, .str (Str.ofString "0 0 1 1 1") t4, .str (Str.ofString "a b c d") t5] nt) ∈ g o')
   (hret : ∀ y t x' b' ta' tb' n' h' tk', Refuses w 264 y → 0 ≤ x' → 0 ≤ b' → b' < 2147483647 → Fr h₀ L h' m → News h₀ L h' (g (srcO x' b' ta' tb' n')) → Q (.str y t) { s with heap := h', toks := tk' }) :
   wpAny (model PySem.Challenge.rw_nu0023_01.row.toRowW.prog w) (ktrTop dp un gd cn cs L a ccd cl outer) (call (.ref 314) [.ref src, .ref th]) Q E s := by
  refine c_one (vs := [.str (Str.ofString "") t0, .str (Str.ofString "1 2 3") t1, .str (Str.ofString "1 2 3 0") t2, .str (Str.ofString "0 0 -1 1") t3, .str (Str.ofString "0 0 1 1 1") t4, .str (Str.ofString "a b c d") t5]) B F X N T hk hdp hun U hx hb0 hb hth hg (Nat.succ_pos _) (Nat.le_of_ble_eq_true rfl) ?_
  intro v hv x' b' ta' tb' n' h' tk' q1 q2 q3 F1 N1
  simp only [List.mem_cons, List.not_mem_nil, or_false] at hv
  rcases hv with rfl | rfl | rfl | rfl | rfl | rfl
  · exact hret _ _ _ _ _ _ _ _ _ r0 q1 q2 q3 F1 N1
  · exact hret _ _ _ _ _ _ _ _ _ r1 q1 q2 q3 F1 N1
  · exact hret _ _ _ _ _ _ _ _ _ r2 q1 q2 q3 F1 N1
  · exact hret _ _ _ _ _ _ _ _ _ r3 q1 q2 q3 F1 N1
  · exact hret _ _ _ _ _ _ _ _ _ r4 q1 q2 q3 F1 N1
  · exact hret _ _ _ _ _ _ _ _ _ r5 q1 q2 q3 F1 N1
theorem c_oneRF {src th : Addr} {x b : Int} {ta tb : Tok} {n nt : Nat} {t0 t1 t2 t3 t4 t5 : Tok} {g : Obj → List (Addr × Obj)} (B : Below A₀ base outer h₀) (F : Fr h₀ L s.heap m) (X : Frag.In (hd.heap_39 w.params) h₀) (N : News h₀ L s.heap news) (T : Top hd.view_39 LO mean mg mb h₀) (hk : cs.kind = .function) (hdp : dp + 3 < recursionLimit) (hun : un + 24 < cLine) (U : UpdF src (srcO x b ta tb n) news g) (hx : 0 ≤ x) (hb0 : 0 ≤ b) (hb : b < 2147483647) (r0 : Refuses w 278 (Str.ofString "xMid")) (r1 : Refuses w 278 (Str.ofString "xMidyMid")) (r2 : Refuses w 278 (Str.ofString "YMinxMin")) (r3 : Refuses w 278 (Str.ofString "xMinYMin cut")) (r4 : Refuses w 278 (Str.ofString "none none")) (r5 : Refuses w 278 (Str.ofString "xMinYMin meet slice"))
   (hth : (th, W.listOf #[.str (Str.ofString "xMid") t0, .str (Str.ofString "xMidyMid") t1, .str (Str.ofString "YMinxMin") t2, .str (Str.ofString "xMinYMin cut") t3, .str (Str.ofString "none none") t4, .str (Str.ofString "xMinYMin meet slice") t5] nt) ∈ news) (hg : ∀ o', (th, W.listOf #[.str (Str.ofString "xMid") t0, .str (Str.ofString "xMidyMid") t1, .str (Str.ofString "YMinxMin") t2, .str (Str.ofString "xMinYMin cut") t3, .str (Str.ofString "none none") t4, .str (Str.ofString "xMinYMin meet slice") t5] nt) ∈ g o')
   (hret : ∀ y t x' b' ta' tb' n' h' tk', Refuses w 278 y → 0 ≤ x' → 0 ≤ b' → b' < 2147483647 → Fr h₀ L h' m → News h₀ L h' (g (srcO x' b' ta' tb' n')) → Q (.str y t) { s with heap := h', toks := tk' }) :
   wpAny (model PySem.Challenge.rw_nu0023_01.row.toRowW.prog w) (ktrTop dp un gd cn cs L a ccd cl outer) (call (.ref 314) [.ref src, .ref th]) Q E s := by
  refine c_one (vs := [.str (Str.ofString "xMid") t0, .str (Str.ofString "xMidyMid") t1, .str (Str.ofString "YMinxMin") t2, .str (Str.ofString "xMinYMin cut") t3, .str (Str.ofString "none none") t4, .str (Str.ofString "xMinYMin meet slice") t5]) B F X N T hk hdp hun U hx hb0 hb hth hg (Nat.succ_pos _) (Nat.le_of_ble_eq_true rfl) ?_
  intro v hv x' b' ta' tb' n' h' tk' q1 q2 q3 F1 N1
  simp only [List.mem_cons, List.not_mem_nil, or_false] at hv
  rcases hv with rfl | rfl | rfl | rfl | rfl | rfl
  · exact hret _ _ _ _ _ _ _ _ _ r0 q1 q2 q3 F1 N1
  · exact hret _ _ _ _ _ _ _ _ _ r1 q1 q2 q3 F1 N1
  · exact hret _ _ _ _ _ _ _ _ _ r2 q1 q2 q3 F1 N1
  · exact hret _ _ _ _ _ _ _ _ _ r3 q1 q2 q3 F1 N1
  · exact hret _ _ _ _ _ _ _ _ _ r4 q1 q2 q3 F1 N1
  · exact hret _ _ _ _ _ _ _ _ _ r5 q1 q2 q3 F1 N1
end
section
variable {prog : Program} {w : World} {A : Around} {E : Value → Shared → Prop} {s : Shared} {Q : Value → Shared → Prop} {h₀ : Heap} {L D : Addr} {news : List (Addr × Obj)}
theorem join4 {y w1 w2 w3 w4 : Str} {t t1 t2 t3 t4 : Tok} {n1 n2 n3 n4 : Int} {c : Nat} (N : News h₀ L s.heap news) (hm : (D, ({ cls := .type "list", data := .seq #[.str w1 t1, .str w2 t2, .str w3 t3, .str w4 t4] c } : Obj)) ∈ news)
  (hb : IsBlank y) (i1 : IsNum w1 n1) (i2 : IsNum w2 n2) (i3 : IsNum w3 n3) (i4 : IsNum w4 n4) (a1 : -4 ≤ n1) (b1 : n1 ≤ 6) (a2 : -4 ≤ n2) (b2 : n2 ≤ 6) (a3 : 0 < n3) (b3 : n3 ≤ 6) (a4 : 0 < n4) (b4 : n4 ≤ 6)
  (h : ∀ t' k, Q (.str (Txt.join y [w1, w2, w3, w4]) t') { s with toks := k }) : wpAny (model prog w) A (call (.builtin "str.join") [.str y t, .ref D]) Q E s := by
  refine join_listW (N.isList hm) (ys := [w1, w2, w3, w4]) ?_ (Nat.le_trans (blank_len hb) (by decide)) ?_ h
  · repeat constructor
  · have := num_len i1 a1 b1; have := num_len i2 a2 b2; have := num_len i3 (by omega) b3; have := num_len i4 (by omega) b4
    simp only [List.map_cons, List.map_nil, List.sum_cons, List.sum_nil, List.length_cons, List.length_nil]
    omega
end
theorem len_defer {x : Str} (h : IsDefer x) : x.length ≤ 8 := by rcases h with rfl | rfl <;> decide
theorem len_meet {x : Str} (h : IsMeet x) : x.length ≤ 8 := by rcases h with rfl | rfl <;> decide
theorem len_good : ∀ al ∈ goodP, al.length ≤ 16 := by decide +kernel
end Mine
namespace Mine
theorem part_end_K30 : True := by
  w_top off
  trivial
end Mine

-- part K36
namespace Mine
local macro_rules | `(tactic| k_ne) => `(tactic| (refine neN ?_; (try dsimp only); first | exact om0 (by first | (with_reducible assumption) | fail) (by first | (with_reducible (repeat (first | exact List.mem_cons_self | apply List.mem_cons_of_mem))) | fail) | exact om1 (by first | (with_reducible assumption) | fail) (by first | (with_reducible (repeat (first | exact List.mem_cons_self | apply List.mem_cons_of_mem))) | fail) | exact om2 (by first | (with_reducible assumption) | fail) (by first | (with_reducible (repeat (first | exact List.mem_cons_self | apply List.mem_cons_of_mem))) | fail) | exact om3 (by first | (with_reducible assumption) | fail) (by first | (with_reducible (repeat (first | exact List.mem_cons_self | apply List.mem_cons_of_mem))) | fail) | exact om4 (by first | (with_reducible assumption) | fail) (by first | (with_reducible (repeat (first | exact List.mem_cons_self | apply List.mem_cons_of_mem))) | fail) | exact om5 (by first | (with_reducible assumption) | fail) (by first | (with_reducible (repeat (first | exact List.mem_cons_self | apply List.mem_cons_of_mem))) | fail) ))
local macro_rules | `(tactic| k_all) => `(tactic| with_reducible assumption)
theorem words_K36_0 : True := by
  k_with_none
  k_with "subscriptTail" => (k_here; (with_reducible show wpAny _ _ (subscriptTail _ _ (Value.ref _) (Value.int 0 _)) _ _ _); k_dflt (refine' pa_item0 ?k1 ?k2 ?k3 ?_ ?k4; (case k1 => k_asm); (case k2 => k_asm); (case k3 => first | assumption | exact PA.more (by assumption) (by intro p hp; (repeat (first | (with_reducible exact hp) | refine List.mem_cons_of_mem _ ?_)))); (case k4 => with_unfolding_all rfl)); intro t9)
  k_with "subscriptTail" => (k_here; (with_reducible show wpAny _ _ (subscriptTail _ _ (Value.ref _) (Value.int 1 _)) _ _ _); k_dflt (refine' pa_item1 ?k1 ?k2 ?k3 ?_ ?k4; (case k1 => k_asm); (case k2 => k_asm); (case k3 => first | assumption | exact PA.more (by assumption) (by intro p hp; (repeat (first | (with_reducible exact hp) | refine List.mem_cons_of_mem _ ?_)))); (case k4 => with_unfolding_all rfl)); intro t9)
  k_with "compareOp Eq ref ref" => (k_here; (with_reducible show wpAny _ _ (compareOp CmpOp.Eq (Value.ref _) (Value.ref _)) _ _ _); (k_dflt refine eq_dataH (by ke_read) (by ke_read) (by (simp [SeqAt.shaped, PyData.canLay0, PyData.canLayAll0, PyData.depth, PyData.depthAll] <;> (repeat' (first | (with_reducible assumption) | decide +kernel | apply And.intro)))) (by (simp [SeqAt.shaped, PyData.canLay0, PyData.canLayAll0, PyData.depth, PyData.depthAll] <;> (repeat' (first | (with_reducible assumption) | decide +kernel | apply And.intro)))) (by ktr_units) ?_); (try (simp only [PyData.eqv, PyData.eqvAll, beq_self_eq_true, Bool.and_true, Bool.true_and, Bool.and_false, Bool.false_and, Bool.not_true, Bool.not_false, decide_true, decide_false, *])))
  k_with "compareOp NotEq ref ref" => (k_here; (with_reducible show wpAny _ _ (compareOp CmpOp.NotEq (Value.ref _) (Value.ref _)) _ _ _); (k_dflt refine ne_dataH (by ke_read) (by ke_read) (by (simp [SeqAt.shaped, PyData.canLay0, PyData.canLayAll0, PyData.depth, PyData.depthAll] <;> (repeat' (first | (with_reducible assumption) | decide +kernel | apply And.intro)))) (by (simp [SeqAt.shaped, PyData.canLay0, PyData.canLayAll0, PyData.depth, PyData.depthAll] <;> (repeat' (first | (with_reducible assumption) | decide +kernel | apply And.intro)))) (by ktr_units) ?_); (try (simp only [PyData.eqv, PyData.eqvAll, beq_self_eq_true, Bool.and_true, Bool.true_and, Bool.and_false, Bool.false_and, Bool.not_true, Bool.not_false, decide_true, decide_false, *])))
  k_with "compareOp NotIn ref ref" => (k_here; (with_reducible show wpAny _ _ (compareOp CmpOp.NotIn (Value.ref _) (Value.ref _)) _ _ _); (k_dflt refine PySem.SeqAt.notIn_tuple_reads (by ke_read) (by ke_read) (by (simp [SeqAt.shaped, PyData.canLay0, PyData.canLayAll0, PyData.depth, PyData.depthAll] <;> (repeat' (first | (with_reducible assumption) | decide +kernel | apply And.intro)))) (by (simp [SeqAt.shaped, PyData.canLay0, PyData.canLayAll0, PyData.depth, PyData.depthAll] <;> (repeat' (first | (with_reducible assumption) | decide +kernel | apply And.intro)))) (room_in_shaped (by (simp [SeqAt.shaped, PyData.canLay0, PyData.canLayAll0, PyData.depth, PyData.depthAll] <;> (repeat' (first | (with_reducible assumption) | decide +kernel | apply And.intro)))) (by ktr_units)) ?_); (try (simp only [PyData.eqv, PyData.eqvAll, beq_self_eq_true, Bool.and_true, Bool.true_and, Bool.and_false, Bool.false_and, Bool.not_true, Bool.not_false, decide_true, decide_false, *])); (try simp only [List.any_cons, List.any_nil, PyData.eqv, PyData.eqvAll]))
  k_with "exec Assign cons ListComp" => (k_here; k_dflt (refine LCg.Assign_ListComp_U (F₀ := by k_asm) (by rfl) (by with_unfolding_all rfl) (by with_unfolding_all rfl) (by decide) (by rfl) (by decide) (by rfl) (by rfl) (by rfl) ?_); k_dflt lcg_toSrc)
  k_with "eval ListComp" => (k_here; k_dflt (refine LCg.ListComp_U (F₀ := by k_asm) (by with_unfolding_all rfl) (by decide) (by rfl) (by decide) (by rfl) ?_); k_dflt lcg_toSrc)
  k_with "CompSrc" => (k_here; k_dflt (refine LCg.CompSrc.ledger (by rfl) (by k_asm) (by k_asm) (by k_mem) (by first | size_fits | exact Nat.le_of_ble_eq_true rfl) ?_; intro g'; lcg_lit))
  k_with "CompRest" => (with_unfolding_all first | (refine LCg.CompRest.succ ?_; intro v' I' oI' C' oC' D' m' h' tk' E' hv' hC' hx' F' N' off' ne'; (first | lcg_open hv' | (obtain ⟨t9', hv9'⟩ := hv'; subst hv9')); (have om' := LCg.Off3.mem off'); clear off') | refine LCg.CompRest.zero ?_)
  k_with "CompEnd" => (k_dflt (refine' compEnd_drp ?kF ?kN ?m1 ?m2 ?m3 ?kd ?ko ?ks ?_; (case kF => k_asm); (case kN => k_asm); (case m1 => k_mem); (case m2 => k_mem); (case m3 => k_mem); (case kd => with_reducible ((repeat (first | (apply Drp.drop; (first | exact List.mem_cons_self | exact List.mem_cons_of_mem _ List.mem_cons_self | exact List.mem_cons_of_mem _ (List.mem_cons_of_mem _ List.mem_cons_self))) | apply Drp.keep)); exact Drp.tail _)); (case ko => (repeat (refine And.intro ⟨by k_ne, by k_ne, by k_ne⟩ ?_)); (first | exact True.intro | exact off3_use (by assumption) (by intro p hp; (repeat (first | (with_reducible exact hp) | refine List.mem_cons_of_mem _ ?_))))); (case ks => lcg_src)))
  k_with "call ref" => (k_here; (with_reducible show wpAny _ _ (call (Value.ref _) _) _ _ _); refine hold_in ?_)
  k_with "call builtin:str.join" => (k_here; (with_reducible show wpAny _ _ (call (Value.builtin "str.join") [Value.str _ _, Value.ref _]) _ _ _); k_dflt (refine' join4 ?k1 ?k2 ?p1 ?p2 ?p3 ?p4 ?p5 ?q1 ?q2 ?q3 ?q4 ?q5 ?q6 ?q7 ?q8 ?_; (case k1 => k_asm); (case k2 => k_mem); (case p1 => with_reducible assumption); (case p2 => with_reducible assumption); (case p3 => with_reducible assumption); (case p4 => with_reducible assumption); (case p5 => with_reducible assumption); (case q1 => assumption); (case q2 => assumption); (case q3 => assumption); (case q4 => assumption); (case q5 => assumption); (case q6 => assumption); (case q7 => assumption); (case q8 => assumption)); intro t9 k9)
  k_with "call ref" => (k_here; (with_reducible show wpAny _ _ (call (Value.ref 264) _) _ _ _); k_dflt (refine' c_boxAny ?k1 ?k2 ?k3 ?k4 ?k5 ?kK ?kd ?ku ?p1 ?p2 ?p3 ?p4 ?p5 ?q1 ?q2 ?q3 ?q4 ?q5 ?q6 ?q7 ?q8 ?px ?_; (case k1 => k_asm); (case k2 => k_asm); (case k3 => k_asm); (case k4 => k_asm); (case k5 => k_asm); (case kK => first | exact rfl | assumption); (case kd => first | exact room_in (by assumption) (by exact rfl) | exact room_0 (by assumption) (by exact rfl) | ktr_room); (case ku => first | exact unit_3 (by assumption) (by exact rfl) | exact unit_4 (by assumption) (by exact rfl) | exact room_0 (by assumption) (by exact rfl) | ktr_units); (case px => exact rfl); (case p1 => with_reducible assumption); (case p2 => with_reducible assumption); (case p3 => with_reducible assumption); (case p4 => with_reducible assumption); (case p5 => with_reducible assumption); (case q1 => assumption); (case q2 => assumption); (case q3 => assumption); (case q4 => assumption); (case q5 => assumption); (case q6 => assumption); (case q7 => assumption); (case q8 => assumption)); intro D1 D2 D3 D4 D5 t1 u1 t2 u2 t3 u3 t4 u4 c1 c2 c3 c4 n9 h9 tk9 F9 N9 l9 l8; (try dsimp only); (try k_sweep); (try k_fold))
  k_with "call ref" => (k_here; (with_reducible show wpAny _ _ (call (Value.ref 278) _) _ _ _); k_dflt (refine' c_fitEmpty ?k1 ?k2 ?k3 ?k4 ?k5 ?kK ?kd ?ku ?px ?_; (case k1 => k_asm); (case k2 => k_asm); (case k3 => k_asm); (case k4 => k_asm); (case k5 => k_asm); (case kK => first | exact rfl | assumption); (case kd => first | exact room_in (by assumption) (by exact rfl) | exact room_0 (by assumption) (by exact rfl) | ktr_room); (case ku => first | exact unit_3 (by assumption) (by exact rfl) | exact unit_4 (by assumption) (by exact rfl) | exact room_0 (by assumption) (by exact rfl) | ktr_units); (case px => exact rfl)); intro q9 t9 c9 h9 tk9 F9 N9 l9; (try dsimp only); (try k_sweep); (try k_fold))
  k_with "call ref" => (k_here; (with_reducible show wpAny _ _ (call (Value.ref 278) _) _ _ _); k_dflt (refine' c_fitAny ?k1 ?k2 ?k3 ?k4 ?k5 ?kK ?kd ?ku ?p1 ?p2 ?p3 ?px ?_; (case k1 => k_asm); (case k2 => k_asm); (case k3 => k_asm); (case k4 => k_asm); (case k5 => k_asm); (case kK => first | exact rfl | assumption); (case kd => first | exact room_in (by assumption) (by exact rfl) | exact room_0 (by assumption) (by exact rfl) | ktr_room); (case ku => first | exact unit_3 (by assumption) (by exact rfl) | exact unit_4 (by assumption) (by exact rfl) | exact room_0 (by assumption) (by exact rfl) | ktr_units); (case px => exact rfl); (case p1 => with_reducible assumption); (case p2 => with_reducible assumption); (case p3 => first | exact Or.inl ⟨by assumption, rfl⟩ | exact Or.inr ⟨by assumption, by with_reducible assumption⟩)); intro q9 t9 c9 h9 tk9 F9 N9 l9; (try dsimp only); (try k_sweep); (try k_fold))
  k_with "call ref" => (k_here; (with_reducible show wpAny _ _ (call (Value.ref 342) [Value.ref 264, _]) _ _ _); k_dflt (refine' c_refusedB ?k1 ?k2 ?k3 ?k4 ?k5 ?kK ?kd ?ku ?XB ?TB ?D ?T0 ?hR ?_; (case k1 => k_asm); (case k2 => k_asm); (case k3 => k_asm); (case k4 => k_asm); (case k5 => k_asm); (case kK => first | exact rfl | assumption); (case kd => first | exact room_in (by assumption) (by exact rfl) | exact room_0 (by assumption) (by exact rfl) | ktr_room); (case ku => first | exact unit_3 (by assumption) (by exact rfl) | exact unit_4 (by assumption) (by exact rfl) | exact room_0 (by assumption) (by exact rfl) | ktr_units); (case XB => assumption); (case TB => assumption); (case D => assumption); (case T0 => first | assumption | exact KtsTurn.refl); (case hR => with_reducible assumption)); intro g9 h9 tk9 T9 F9 N9 B9 X9 P9 D9; (try k_lift B9); (try dsimp only); (try k_sweep); (try k_fold))
  k_with "call ref" => (k_here; (with_reducible show wpAny _ _ (call (Value.ref 342) [Value.ref 278, _]) _ _ _); k_dflt (refine' c_refusedF ?k1 ?k2 ?k3 ?k4 ?k5 ?kK ?kd ?ku ?XB ?TB ?D ?T0 ?hR ?_; (case k1 => k_asm); (case k2 => k_asm); (case k3 => k_asm); (case k4 => k_asm); (case k5 => k_asm); (case kK => first | exact rfl | assumption); (case kd => first | exact room_in (by assumption) (by exact rfl) | exact room_0 (by assumption) (by exact rfl) | ktr_room); (case ku => first | exact unit_3 (by assumption) (by exact rfl) | exact unit_4 (by assumption) (by exact rfl) | exact room_0 (by assumption) (by exact rfl) | ktr_units); (case XB => assumption); (case TB => assumption); (case D => assumption); (case T0 => first | assumption | exact KtsTurn.refl); (case hR => with_reducible assumption)); intro g9 h9 tk9 T9 F9 N9 B9 X9 P9 D9; (try k_lift B9); (try dsimp only); (try k_sweep); (try k_fold))
  k_with "call ref" => (k_here; (with_reducible show wpAny _ _ (call (Value.ref 314) _) _ _ _); k_dflt (first | (refine' c_oneB ?k1 ?k2 ?k3 ?k4 ?k5 ?kK ?kd ?ku ?p1 ?p2 ?p3 ?p4  ?q1 ?q2 ?_; (case k1 => k_asm); (case k2 => k_asm); (case k3 => k_asm); (case k4 => k_asm); (case k5 => k_asm); (case q1 => with_reducible (repeat (first | exact List.mem_cons_self | apply List.mem_cons_of_mem))); (case kK => first | exact rfl | assumption); (case kd => ktr_room); (case ku => ktr_units); (case p1 => k_updF); (case p2 => with_reducible assumption); (case p3 => with_reducible assumption); (case p4 => with_reducible assumption); (case q2 => (intro o'; (try dsimp only); with_reducible (repeat (first | exact List.mem_cons_self | apply List.mem_cons_of_mem)))); intro y9 t9 x9 b9 ta9 tb9 n9 h9 tk9 hP9 q91 q92 q93 F9 N9) | (refine' c_oneN ?k1 ?k2 ?k3 ?k4 ?k5 ?kK ?kd ?ku ?p1 ?p2 ?p3 ?p4  ?q1 ?q2 ?_; (case k1 => k_asm); (case k2 => k_asm); (case k3 => k_asm); (case k4 => k_asm); (case k5 => k_asm); (case q1 => with_reducible (repeat (first | exact List.mem_cons_self | apply List.mem_cons_of_mem))); (case kK => first | exact rfl | assumption); (case kd => ktr_room); (case ku => ktr_units); (case p1 => k_updF); (case p2 => with_reducible assumption); (case p3 => with_reducible assumption); (case p4 => with_reducible assumption); (case q2 => (intro o'; (try dsimp only); with_reducible (repeat (first | exact List.mem_cons_self | apply List.mem_cons_of_mem)))); intro y9 t9 x9 b9 ta9 tb9 n9 h9 tk9 hP9 q91 q92 q93 F9 N9) | (refine' c_oneD ?k1 ?k2 ?k3 ?k4 ?k5 ?kK ?kd ?ku ?p1 ?p2 ?p3 ?p4  ?q1 ?q2 ?_; (case k1 => k_asm); (case k2 => k_asm); (case k3 => k_asm); (case k4 => k_asm); (case k5 => k_asm); (case q1 => with_reducible (repeat (first | exact List.mem_cons_self | apply List.mem_cons_of_mem))); (case kK => first | exact rfl | assumption); (case kd => ktr_room); (case ku => ktr_units); (case p1 => k_updF); (case p2 => with_reducible assumption); (case p3 => with_reducible assumption); (case p4 => with_reducible assumption); (case q2 => (intro o'; (try dsimp only); with_reducible (repeat (first | exact List.mem_cons_self | apply List.mem_cons_of_mem)))); intro y9 t9 x9 b9 ta9 tb9 n9 h9 tk9 hP9 q91 q92 q93 F9 N9; (have hL9 := len_defer hP9)) | (refine' c_oneM ?k1 ?k2 ?k3 ?k4 ?k5 ?kK ?kd ?ku ?p1 ?p2 ?p3 ?p4  ?q1 ?q2 ?_; (case k1 => k_asm); (case k2 => k_asm); (case k3 => k_asm); (case k4 => k_asm); (case k5 => k_asm); (case q1 => with_reducible (repeat (first | exact List.mem_cons_self | apply List.mem_cons_of_mem))); (case kK => first | exact rfl | assumption); (case kd => ktr_room); (case ku => ktr_units); (case p1 => k_updF); (case p2 => with_reducible assumption); (case p3 => with_reducible assumption); (case p4 => with_reducible assumption); (case q2 => (intro o'; (try dsimp only); with_reducible (repeat (first | exact List.mem_cons_self | apply List.mem_cons_of_mem)))); intro y9 t9 x9 b9 ta9 tb9 n9 h9 tk9 hP9 q91 q92 q93 F9 N9; (have hL9 := len_meet hP9)) | (refine' c_oneRB ?k1 ?k2 ?k3 ?k4 ?k5 ?kK ?kd ?ku ?p1 ?p2 ?p3 ?p4 ?r0 ?r1 ?r2 ?r3 ?r4 ?r5 ?q1 ?q2 ?_; (case k1 => k_asm); (case k2 => k_asm); (case k3 => k_asm); (case k4 => k_asm); (case k5 => k_asm); (case q1 => with_reducible (repeat (first | exact List.mem_cons_self | apply List.mem_cons_of_mem))); (case kK => first | exact rfl | assumption); (case kd => ktr_room); (case ku => ktr_units); (case p1 => k_updF); (case p2 => with_reducible assumption); (case p3 => with_reducible assumption); (case p4 => with_reducible assumption); (case r0 => with_reducible assumption); (case r1 => with_reducible assumption); (case r2 => with_reducible assumption); (case r3 => with_reducible assumption); (case r4 => with_reducible assumption); (case r5 => with_reducible assumption); (case q2 => (intro o'; (try dsimp only); with_reducible (repeat (first | exact List.mem_cons_self | apply List.mem_cons_of_mem)))); intro y9 t9 x9 b9 ta9 tb9 n9 h9 tk9 hP9 q91 q92 q93 F9 N9) | (refine' c_oneRF ?k1 ?k2 ?k3 ?k4 ?k5 ?kK ?kd ?ku ?p1 ?p2 ?p3 ?p4 ?r0 ?r1 ?r2 ?r3 ?r4 ?r5 ?q1 ?q2 ?_; (case k1 => k_asm); (case k2 => k_asm); (case k3 => k_asm); (case k4 => k_asm); (case k5 => k_asm); (case q1 => with_reducible (repeat (first | exact List.mem_cons_self | apply List.mem_cons_of_mem))); (case kK => first | exact rfl | assumption); (case kd => ktr_room); (case ku => ktr_units); (case p1 => k_updF); (case p2 => with_reducible assumption); (case p3 => with_reducible assumption); (case p4 => with_reducible assumption); (case r0 => with_reducible assumption); (case r1 => with_reducible assumption); (case r2 => with_reducible assumption); (case r3 => with_reducible assumption); (case r4 => with_reducible assumption); (case r5 => with_reducible assumption); (case q2 => (intro o'; (try dsimp only); with_reducible (repeat (first | exact List.mem_cons_self | apply List.mem_cons_of_mem)))); intro y9 t9 x9 b9 ta9 tb9 n9 h9 tk9 hP9 q91 q92 q93 F9 N9)); (try dsimp only at N9); (try dsimp only); (try k_sweep); (try k_fold))
  k_with "execs cons" => (k_here; (with_reducible show wpAny _ _ (execs (Stmt.Assign _ _ _ :: _) _) _ _ _); refine hold_in ?_)
  trivial
section
variable {w : World} {mean : ExcName → Option Value} {mg mb : Str → Option Value} {dp un : Nat} {gd : Option (List Code)} {cn : Str} {cs : Scope} {a : Addr} {ccd : Value} {cl : List (Str × Addr)} {outer : List Env} {base g : Heap} {L L' D src bx : Addr} {s : Shared} {E : Value → Shared → Prop} {Q : Flow → Shared → Prop} {rest : List (Addr × Obj)}
  {oc : Obj} {bd : List Stmt} {sc : Scope} {al y w1 w2 w3 w4 : Str} {tx ty t1 t2 t3 t4 u1 u2 u3 u4 : Tok} {sl : Bool} {x b k1 k2 k3 k4 : Int} {ta tb : Tok} {n nb : Nat}
theorem tx2 (hbd : bd = (bodyAt w.params 347).drop 2) (hsc : sc = scopeAt w.params 347) (B : Below (ktrTop dp un gd cn cs L a ccd cl outer) base (envX cn cs L a ccd cl :: outer) g) (F : Fr g L' s.heap (fun z => if z = Str.ofString "texts" then some (.ref D) else (fun z => if z = Str.ofString "blank" then some (.str y ty) else (fun z => if z = Str.ofString "is_slice" then some (.bool sl) else (fun z => if z = Str.ofString "align" then some (.str al tx) else (fun z => if z = Str.ofString "box" then some (.ref bx) else none) z) z) z) z)) (X : Frag.In (hd.heap_39 w.params) g) (N : News g L' s.heap ((D, LCg.lst [.str w1 t1, .str w2 t2, .str w3 t3, .str w4 t4]) :: (L' + 1, oc) :: (src, srcO x b ta tb n) :: (bx, W.listOf #[.int k1 u1, .int k2 u2, .int k3 u3, .int k4 u4] nb) :: rest)) (T : Top hd.view_39 LO mean mg mb g) (hdp : dp + 10 < recursionLimit) (hun : un + 96 < cLine) (dc : oc.data = .cell (some (.ref src))) (ne1 : @LT.lt Nat _ src L') (ne2 : @LT.lt Nat _ bx L') (ne3 : AllLt L' rest) (ne4 : @Ne Nat src bx) (ne5 : @Ne Nat bx src) (hap : ∀ p ∈ rest, p.1 ≠ src) (d1 : @Ne Nat src D) (d2 : @Ne Nat D src) (hy : IsBlank y) (i1 : IsNum w1 k1) (i2 : IsNum w2 k2) (i3 : IsNum w3 k3) (i4 : IsNum w4 k4) (j1 : -4 ≤ k1) (l1 : k1 ≤ 6) (j2 : -4 ≤ k2) (l2 : k2 ≤ 6) (j3 : 0 < k3) (l3 : k3 ≤ 6) (j4 : 0 < k4) (l4 : k4 ≤ 6)
   (hmid : ∀ h' tk', Fr g L' h' (fun z => if z = Str.ofString "texts" then some (.ref D) else (fun z => if z = Str.ofString "blank" then some (.str y ty) else (fun z => if z = Str.ofString "is_slice" then some (.bool sl) else (fun z => if z = Str.ofString "align" then some (.str al tx) else (fun z => if z = Str.ofString "box" then some (.ref bx) else none) z) z) z) z) → News g L' h' ((L' + 1, oc) :: (src, srcO x b ta tb n) :: (bx, W.listOf #[.int k1 u1, .int k2 u2, .int k3 u3, .int k4 u4] nb) :: rest) → wpAny (model PySem.Challenge.rw_nu0023_01.row.toRowW.prog w) ((ktrTop dp un gd cn cs L a ccd cl outer).deeper (envOfC (Str.ofString "_law_texts_right") sc L' 347 (.ref 346))) (execs (bd.drop 1) (envOfC (Str.ofString "_law_texts_right") sc L' 347 (.ref 346))) Q E { s with heap := h', toks := tk' }) :
   wpAny (model PySem.Challenge.rw_nu0023_01.row.toRowW.prog w) ((ktrTop dp un gd cn cs L a ccd cl outer).deeper (envOfC (Str.ofString "_law_texts_right") sc L' 347 (.ref 346))) (execs bd (envOfC (Str.ofString "_law_texts_right") sc L' 347 (.ref 346))) Q E s := by
  conv at hbd => rhs; whnf
  conv at hsc => rhs; whnf
  subst hbd; subst hsc
  revert X; k_fill; intro X
  k_steps
  exact hmid _ _ (by assumption) (news_sub (by assumption) (by intro p hp; (repeat (first | (with_reducible exact hp) | refine List.mem_cons_of_mem _ ?_))))
end
end Mine
namespace Mine
theorem part_end_K36 : True := by
  w_top off
  trivial
end Mine

-- part K37
namespace Mine
local macro_rules | `(tactic| k_ne) => `(tactic| (refine neN ?_; (try dsimp only); first | exact om0 (by first | (with_reducible assumption) | fail) (by first | (with_reducible (repeat (first | exact List.mem_cons_self | apply List.mem_cons_of_mem))) | fail) | exact om1 (by first | (with_reducible assumption) | fail) (by first | (with_reducible (repeat (first | exact List.mem_cons_self | apply List.mem_cons_of_mem))) | fail) | exact om2 (by first | (with_reducible assumption) | fail) (by first | (with_reducible (repeat (first | exact List.mem_cons_self | apply List.mem_cons_of_mem))) | fail) | exact om3 (by first | (with_reducible assumption) | fail) (by first | (with_reducible (repeat (first | exact List.mem_cons_self | apply List.mem_cons_of_mem))) | fail) | exact om4 (by first | (with_reducible assumption) | fail) (by first | (with_reducible (repeat (first | exact List.mem_cons_self | apply List.mem_cons_of_mem))) | fail) | exact om5 (by first | (with_reducible assumption) | fail) (by first | (with_reducible (repeat (first | exact List.mem_cons_self | apply List.mem_cons_of_mem))) | fail) ))
local macro_rules | `(tactic| k_all) => `(tactic| with_reducible assumption)
theorem words_K37_0 : True := by
  k_with_none
  k_with "subscriptTail" => (k_here; (with_reducible show wpAny _ _ (subscriptTail _ _ (Value.ref _) (Value.int 0 _)) _ _ _); k_dflt (refine' pa_item0 ?k1 ?k2 ?k3 ?_ ?k4; (case k1 => k_asm); (case k2 => k_asm); (case k3 => first | assumption | exact PA.more (by assumption) (by intro p hp; (repeat (first | (with_reducible exact hp) | refine List.mem_cons_of_mem _ ?_)))); (case k4 => with_unfolding_all rfl)); intro t9)
  k_with "subscriptTail" => (k_here; (with_reducible show wpAny _ _ (subscriptTail _ _ (Value.ref _) (Value.int 1 _)) _ _ _); k_dflt (refine' pa_item1 ?k1 ?k2 ?k3 ?_ ?k4; (case k1 => k_asm); (case k2 => k_asm); (case k3 => first | assumption | exact PA.more (by assumption) (by intro p hp; (repeat (first | (with_reducible exact hp) | refine List.mem_cons_of_mem _ ?_)))); (case k4 => with_unfolding_all rfl)); intro t9)
  k_with "compareOp Eq ref ref" => (k_here; (with_reducible show wpAny _ _ (compareOp CmpOp.Eq (Value.ref _) (Value.ref _)) _ _ _); (k_dflt refine eq_dataH (by ke_read) (by ke_read) (by (simp [SeqAt.shaped, PyData.canLay0, PyData.canLayAll0, PyData.depth, PyData.depthAll] <;> (repeat' (first | (with_reducible assumption) | decide +kernel | apply And.intro)))) (by (simp [SeqAt.shaped, PyData.canLay0, PyData.canLayAll0, PyData.depth, PyData.depthAll] <;> (repeat' (first | (with_reducible assumption) | decide +kernel | apply And.intro)))) (by ktr_units) ?_); (try (simp only [PyData.eqv, PyData.eqvAll, beq_self_eq_true, Bool.and_true, Bool.true_and, Bool.and_false, Bool.false_and, Bool.not_true, Bool.not_false, decide_true, decide_false, *])))
  k_with "compareOp NotEq ref ref" => (k_here; (with_reducible show wpAny _ _ (compareOp CmpOp.NotEq (Value.ref _) (Value.ref _)) _ _ _); (k_dflt refine ne_dataH (by ke_read) (by ke_read) (by (simp [SeqAt.shaped, PyData.canLay0, PyData.canLayAll0, PyData.depth, PyData.depthAll] <;> (repeat' (first | (with_reducible assumption) | decide +kernel | apply And.intro)))) (by (simp [SeqAt.shaped, PyData.canLay0, PyData.canLayAll0, PyData.depth, PyData.depthAll] <;> (repeat' (first | (with_reducible assumption) | decide +kernel | apply And.intro)))) (by ktr_units) ?_); (try (simp only [PyData.eqv, PyData.eqvAll, beq_self_eq_true, Bool.and_true, Bool.true_and, Bool.and_false, Bool.false_and, Bool.not_true, Bool.not_false, decide_true, decide_false, *])))
  k_with "compareOp NotIn ref ref" => (k_here; (with_reducible show wpAny _ _ (compareOp CmpOp.NotIn (Value.ref _) (Value.ref _)) _ _ _); (k_dflt refine PySem.SeqAt.notIn_tuple_reads (by ke_read) (by ke_read) (by (simp [SeqAt.shaped, PyData.canLay0, PyData.canLayAll0, PyData.depth, PyData.depthAll] <;> (repeat' (first | (with_reducible assumption) | decide +kernel | apply And.intro)))) (by (simp [SeqAt.shaped, PyData.canLay0, PyData.canLayAll0, PyData.depth, PyData.depthAll] <;> (repeat' (first | (with_reducible assumption) | decide +kernel | apply And.intro)))) (room_in_shaped (by (simp [SeqAt.shaped, PyData.canLay0, PyData.canLayAll0, PyData.depth, PyData.depthAll] <;> (repeat' (first | (with_reducible assumption) | decide +kernel | apply And.intro)))) (by ktr_units)) ?_); (try (simp only [PyData.eqv, PyData.eqvAll, beq_self_eq_true, Bool.and_true, Bool.true_and, Bool.and_false, Bool.false_and, Bool.not_true, Bool.not_false, decide_true, decide_false, *])); (try simp only [List.any_cons, List.any_nil, PyData.eqv, PyData.eqvAll]))
  k_with "exec Assign cons ListComp" => (k_here; k_dflt (refine LCg.Assign_ListComp_U (F₀ := by k_asm) (by rfl) (by with_unfolding_all rfl) (by with_unfolding_all rfl) (by decide) (by rfl) (by decide) (by rfl) (by rfl) (by rfl) ?_); k_dflt lcg_toSrc)
  k_with "eval ListComp" => (k_here; k_dflt (refine LCg.ListComp_U (F₀ := by k_asm) (by with_unfolding_all rfl) (by decide) (by rfl) (by decide) (by rfl) ?_); k_dflt lcg_toSrc)
  k_with "CompSrc" => (k_here; k_dflt (refine LCg.CompSrc.ledger (by rfl) (by k_asm) (by k_asm) (by k_mem) (by first | size_fits | exact Nat.le_of_ble_eq_true rfl) ?_; intro g'; lcg_lit))
  k_with "CompRest" => (with_unfolding_all first | (refine LCg.CompRest.succ ?_; intro v' I' oI' C' oC' D' m' h' tk' E' hv' hC' hx' F' N' off' ne'; (first | lcg_open hv' | (obtain ⟨t9', hv9'⟩ := hv'; subst hv9')); (have om' := LCg.Off3.mem off'); clear off') | refine LCg.CompRest.zero ?_)
  k_with "CompEnd" => (k_dflt (refine' compEnd_drp ?kF ?kN ?m1 ?m2 ?m3 ?kd ?ko ?ks ?_; (case kF => k_asm); (case kN => k_asm); (case m1 => k_mem); (case m2 => k_mem); (case m3 => k_mem); (case kd => with_reducible ((repeat (first | (apply Drp.drop; (first | exact List.mem_cons_self | exact List.mem_cons_of_mem _ List.mem_cons_self | exact List.mem_cons_of_mem _ (List.mem_cons_of_mem _ List.mem_cons_self))) | apply Drp.keep)); exact Drp.tail _)); (case ko => (repeat (refine And.intro ⟨by k_ne, by k_ne, by k_ne⟩ ?_)); (first | exact True.intro | exact off3_use (by assumption) (by intro p hp; (repeat (first | (with_reducible exact hp) | refine List.mem_cons_of_mem _ ?_))))); (case ks => lcg_src)))
  k_with "call ref" => (k_here; (with_reducible show wpAny _ _ (call (Value.ref _) _) _ _ _); refine hold_in ?_)
  k_with "call builtin:str.join" => (k_here; (with_reducible show wpAny _ _ (call (Value.builtin "str.join") [Value.str _ _, Value.ref _]) _ _ _); k_dflt (refine' join4 ?k1 ?k2 ?p1 ?p2 ?p3 ?p4 ?p5 ?q1 ?q2 ?q3 ?q4 ?q5 ?q6 ?q7 ?q8 ?_; (case k1 => k_asm); (case k2 => k_mem); (case p1 => with_reducible assumption); (case p2 => with_reducible assumption); (case p3 => with_reducible assumption); (case p4 => with_reducible assumption); (case p5 => with_reducible assumption); (case q1 => assumption); (case q2 => assumption); (case q3 => assumption); (case q4 => assumption); (case q5 => assumption); (case q6 => assumption); (case q7 => assumption); (case q8 => assumption)); intro t9 k9)
  k_with "call ref" => (k_here; (with_reducible show wpAny _ _ (call (Value.ref 264) _) _ _ _); k_dflt (refine' c_boxAny ?k1 ?k2 ?k3 ?k4 ?k5 ?kK ?kd ?ku ?p1 ?p2 ?p3 ?p4 ?p5 ?q1 ?q2 ?q3 ?q4 ?q5 ?q6 ?q7 ?q8 ?px ?_; (case k1 => k_asm); (case k2 => k_asm); (case k3 => k_asm); (case k4 => k_asm); (case k5 => k_asm); (case kK => first | exact rfl | assumption); (case kd => first | exact room_in (by assumption) (by exact rfl) | exact room_0 (by assumption) (by exact rfl) | ktr_room); (case ku => first | exact unit_3 (by assumption) (by exact rfl) | exact unit_4 (by assumption) (by exact rfl) | exact room_0 (by assumption) (by exact rfl) | ktr_units); (case px => exact rfl); (case p1 => with_reducible assumption); (case p2 => with_reducible assumption); (case p3 => with_reducible assumption); (case p4 => with_reducible assumption); (case p5 => with_reducible assumption); (case q1 => assumption); (case q2 => assumption); (case q3 => assumption); (case q4 => assumption); (case q5 => assumption); (case q6 => assumption); (case q7 => assumption); (case q8 => assumption)); intro D1 D2 D3 D4 D5 t1 u1 t2 u2 t3 u3 t4 u4 c1 c2 c3 c4 n9 h9 tk9 F9 N9 l9 l8; (try dsimp only); (try k_sweep); (try k_fold))
  k_with "call ref" => (k_here; (with_reducible show wpAny _ _ (call (Value.ref 278) _) _ _ _); k_dflt (refine' c_fitEmpty ?k1 ?k2 ?k3 ?k4 ?k5 ?kK ?kd ?ku ?px ?_; (case k1 => k_asm); (case k2 => k_asm); (case k3 => k_asm); (case k4 => k_asm); (case k5 => k_asm); (case kK => first | exact rfl | assumption); (case kd => first | exact room_in (by assumption) (by exact rfl) | exact room_0 (by assumption) (by exact rfl) | ktr_room); (case ku => first | exact unit_3 (by assumption) (by exact rfl) | exact unit_4 (by assumption) (by exact rfl) | exact room_0 (by assumption) (by exact rfl) | ktr_units); (case px => exact rfl)); intro q9 t9 c9 h9 tk9 F9 N9 l9; (try dsimp only); (try k_sweep); (try k_fold))
  k_with "call ref" => (k_here; (with_reducible show wpAny _ _ (call (Value.ref 278) _) _ _ _); k_dflt (refine' c_fitAny ?k1 ?k2 ?k3 ?k4 ?k5 ?kK ?kd ?ku ?p1 ?p2 ?p3 ?px ?_; (case k1 => k_asm); (case k2 => k_asm); (case k3 => k_asm); (case k4 => k_asm); (case k5 => k_asm); (case kK => first | exact rfl | assumption); (case kd => first | exact room_in (by assumption) (by exact rfl) | exact room_0 (by assumption) (by exact rfl) | ktr_room); (case ku => first | exact unit_3 (by assumption) (by exact rfl) | exact unit_4 (by assumption) (by exact rfl) | exact room_0 (by assumption) (by exact rfl) | ktr_units); (case px => exact rfl); (case p1 => with_reducible assumption); (case p2 => with_reducible assumption); (case p3 => first | exact Or.inl ⟨by assumption, rfl⟩ | exact Or.inr ⟨by assumption, by with_reducible assumption⟩)); intro q9 t9 c9 h9 tk9 F9 N9 l9; (try dsimp only); (try k_sweep); (try k_fold))
  k_with "call ref" => (k_here; (with_reducible show wpAny _ _ (call (Value.ref 342) [Value.ref 264, _]) _ _ _); k_dflt (refine' c_refusedB ?k1 ?k2 ?k3 ?k4 ?k5 ?kK ?kd ?ku ?XB ?TB ?D ?T0 ?hR ?_; (case k1 => k_asm); (case k2 => k_asm); (case k3 => k_asm); (case k4 => k_asm); (case k5 => k_asm); (case kK => first | exact rfl | assumption); (case kd => first | exact room_in (by assumption) (by exact rfl) | exact room_0 (by assumption) (by exact rfl) | ktr_room); (case ku => first | exact unit_3 (by assumption) (by exact rfl) | exact unit_4 (by assumption) (by exact rfl) | exact room_0 (by assumption) (by exact rfl) | ktr_units); (case XB => assumption); (case TB => assumption); (case D => assumption); (case T0 => first | assumption | exact KtsTurn.refl); (case hR => with_reducible assumption)); intro g9 h9 tk9 T9 F9 N9 B9 X9 P9 D9; (try k_lift B9); (try dsimp only); (try k_sweep); (try k_fold))
  k_with "call ref" => (k_here; (with_reducible show wpAny _ _ (call (Value.ref 342) [Value.ref 278, _]) _ _ _); k_dflt (refine' c_refusedF ?k1 ?k2 ?k3 ?k4 ?k5 ?kK ?kd ?ku ?XB ?TB ?D ?T0 ?hR ?_; (case k1 => k_asm); (case k2 => k_asm); (case k3 => k_asm); (case k4 => k_asm); (case k5 => k_asm); (case kK => first | exact rfl | assumption); (case kd => first | exact room_in (by assumption) (by exact rfl) | exact room_0 (by assumption) (by exact rfl) | ktr_room); (case ku => first | exact unit_3 (by assumption) (by exact rfl) | exact unit_4 (by assumption) (by exact rfl) | exact room_0 (by assumption) (by exact rfl) | ktr_units); (case XB => assumption); (case TB => assumption); (case D => assumption); (case T0 => first | assumption | exact KtsTurn.refl); (case hR => with_reducible assumption)); intro g9 h9 tk9 T9 F9 N9 B9 X9 P9 D9; (try k_lift B9); (try dsimp only); (try k_sweep); (try k_fold))
  k_with "call ref" => (k_here; (with_reducible show wpAny _ _ (call (Value.ref 314) _) _ _ _); k_dflt (first | (refine' c_oneB ?k1 ?k2 ?k3 ?k4 ?k5 ?kK ?kd ?ku ?p1 ?p2 ?p3 ?p4  ?q1 ?q2 ?_; (case k1 => k_asm); (case k2 => k_asm); (case k3 => k_asm); (case k4 => k_asm); (case k5 => k_asm); (case q1 => with_reducible (repeat (first | exact List.mem_cons_self | apply List.mem_cons_of_mem))); (case kK => first | exact rfl | assumption); (case kd => ktr_room); (case ku => ktr_units); (case p1 => k_updF); (case p2 => with_reducible assumption); (case p3 => with_reducible assumption); (case p4 => with_reducible assumption); (case q2 => (intro o'; (try dsimp only); with_reducible (repeat (first | exact List.mem_cons_self | apply List.mem_cons_of_mem)))); intro y9 t9 x9 b9 ta9 tb9 n9 h9 tk9 hP9 q91 q92 q93 F9 N9) | (refine' c_oneN ?k1 ?k2 ?k3 ?k4 ?k5 ?kK ?kd ?ku ?p1 ?p2 ?p3 ?p4  ?q1 ?q2 ?_; (case k1 => k_asm); (case k2 => k_asm); (case k3 => k_asm); (case k4 => k_asm); (case k5 => k_asm); (case q1 => with_reducible (repeat (first | exact List.mem_cons_self | apply List.mem_cons_of_mem))); (case kK => first | exact rfl | assumption); (case kd => ktr_room); (case ku => ktr_units); (case p1 => k_updF); (case p2 => with_reducible assumption); (case p3 => with_reducible assumption); (case p4 => with_reducible assumption); (case q2 => (intro o'; (try dsimp only); with_reducible (repeat (first | exact List.mem_cons_self | apply List.mem_cons_of_mem)))); intro y9 t9 x9 b9 ta9 tb9 n9 h9 tk9 hP9 q91 q92 q93 F9 N9) | (refine' c_oneD ?k1 ?k2 ?k3 ?k4 ?k5 ?kK ?kd ?ku ?p1 ?p2 ?p3 ?p4  ?q1 ?q2 ?_; (case k1 => k_asm); (case k2 => k_asm); (case k3 => k_asm); (case k4 => k_asm); (case k5 => k_asm); (case q1 => with_reducible (repeat (first | exact List.mem_cons_self | apply List.mem_cons_of_mem))); (case kK => first | exact rfl | assumption); (case kd => ktr_room); (case ku => ktr_units); (case p1 => k_updF); (case p2 => with_reducible assumption); (case p3 => with_reducible assumption); (case p4 => with_reducible assumption); (case q2 => (intro o'; (try dsimp only); with_reducible (repeat (first | exact List.mem_cons_self | apply List.mem_cons_of_mem)))); intro y9 t9 x9 b9 ta9 tb9 n9 h9 tk9 hP9 q91 q92 q93 F9 N9; (have hL9 := len_defer hP9)) | (refine' c_oneM ?k1 ?k2 ?k3 ?k4 ?k5 ?kK ?kd ?ku ?p1 ?p2 ?p3 ?p4  ?q1 ?q2 ?_; (case k1 => k_asm); (case k2 => k_asm); (case k3 => k_asm); (case k4 => k_asm); (case k5 => k_asm); (case q1 => with_reducible (repeat (first | exact List.mem_cons_self | apply List.mem_cons_of_mem))); (case kK => first | exact rfl | assumption); (case kd => ktr_room); (case ku => ktr_units); (case p1 => k_updF); (case p2 => with_reducible assumption); (case p3 => with_reducible assumption); (case p4 => with_reducible assumption); (case q2 => (intro o'; (try dsimp only); with_reducible (repeat (first | exact List.mem_cons_self | apply List.mem_cons_of_mem)))); intro y9 t9 x9 b9 ta9 tb9 n9 h9 tk9 hP9 q91 q92 q93 F9 N9; (have hL9 := len_meet hP9)) | (refine' c_oneRB ?k1 ?k2 ?k3 ?k4 ?k5 ?kK ?kd ?ku ?p1 ?p2 ?p3 ?p4 ?r0 ?r1 ?r2 ?r3 ?r4 ?r5 ?q1 ?q2 ?_; (case k1 => k_asm); (case k2 => k_asm); (case k3 => k_asm); (case k4 => k_asm); (case k5 => k_asm); (case q1 => with_reducible (repeat (first | exact List.mem_cons_self | apply List.mem_cons_of_mem))); (case kK => first | exact rfl | assumption); (case kd => ktr_room); (case ku => ktr_units); (case p1 => k_updF); (case p2 => with_reducible assumption); (case p3 => with_reducible assumption); (case p4 => with_reducible assumption); (case r0 => with_reducible assumption); (case r1 => with_reducible assumption); (case r2 => with_reducible assumption); (case r3 => with_reducible assumption); (case r4 => with_reducible assumption); (case r5 => with_reducible assumption); (case q2 => (intro o'; (try dsimp only); with_reducible (repeat (first | exact List.mem_cons_self | apply List.mem_cons_of_mem)))); intro y9 t9 x9 b9 ta9 tb9 n9 h9 tk9 hP9 q91 q92 q93 F9 N9) | (refine' c_oneRF ?k1 ?k2 ?k3 ?k4 ?k5 ?kK ?kd ?ku ?p1 ?p2 ?p3 ?p4 ?r0 ?r1 ?r2 ?r3 ?r4 ?r5 ?q1 ?q2 ?_; (case k1 => k_asm); (case k2 => k_asm); (case k3 => k_asm); (case k4 => k_asm); (case k5 => k_asm); (case q1 => with_reducible (repeat (first | exact List.mem_cons_self | apply List.mem_cons_of_mem))); (case kK => first | exact rfl | assumption); (case kd => ktr_room); (case ku => ktr_units); (case p1 => k_updF); (case p2 => with_reducible assumption); (case p3 => with_reducible assumption); (case p4 => with_reducible assumption); (case r0 => with_reducible assumption); (case r1 => with_reducible assumption); (case r2 => with_reducible assumption); (case r3 => with_reducible assumption); (case r4 => with_reducible assumption); (case r5 => with_reducible assumption); (case q2 => (intro o'; (try dsimp only); with_reducible (repeat (first | exact List.mem_cons_self | apply List.mem_cons_of_mem)))); intro y9 t9 x9 b9 ta9 tb9 n9 h9 tk9 hP9 q91 q92 q93 F9 N9)); (try dsimp only at N9); (try dsimp only); (try k_sweep); (try k_fold))
  k_with "execs cons" => (k_here; (with_reducible show wpAny _ _ (execs (Stmt.If ((Expr.UnaryOp _ _ _)) _ _ _ :: _) _) _ _ _); refine hold_in ?_)
  trivial
section
variable {w : World} {mean : ExcName → Option Value} {mg mb : Str → Option Value} {dp un : Nat} {gd : Option (List Code)} {cn : Str} {cs : Scope} {a : Addr} {ccd : Value} {cl : List (Str × Addr)} {outer : List Env} {base g : Heap} {L L' D src bx : Addr} {s : Shared} {E : Value → Shared → Prop} {Q : Flow → Shared → Prop} {rest : List (Addr × Obj)}
  {oc : Obj} {bd : List Stmt} {sc : Scope} {al y w1 w2 w3 w4 : Str} {tx ty t1 t2 t3 t4 u1 u2 u3 u4 : Tok} {sl : Bool} {x b k1 k2 k3 k4 : Int} {ta tb : Tok} {n nb : Nat}
theorem tx3 (hbd : bd = (bodyAt w.params 347).drop 3) (hsc : sc = scopeAt w.params 347) (B : Below (ktrTop dp un gd cn cs L a ccd cl outer) base (envX cn cs L a ccd cl :: outer) g) (F : Fr g L' s.heap (fun z => if z = Str.ofString "texts" then some (.ref D) else (fun z => if z = Str.ofString "blank" then some (.str y ty) else (fun z => if z = Str.ofString "is_slice" then some (.bool sl) else (fun z => if z = Str.ofString "align" then some (.str al tx) else (fun z => if z = Str.ofString "box" then some (.ref bx) else none) z) z) z) z)) (X : Frag.In (hd.heap_39 w.params) g) (N : News g L' s.heap ((L' + 1, oc) :: (src, srcO x b ta tb n) :: (bx, W.listOf #[.int k1 u1, .int k2 u2, .int k3 u3, .int k4 u4] nb) :: rest)) (T : Top hd.view_39 LO mean mg mb g) (hdp : dp + 9 < recursionLimit) (hun : un + 120 < cLine) (dc : oc.data = .cell (some (.ref src))) (ne1 : @LT.lt Nat _ src L') (ne2 : @LT.lt Nat _ bx L') (ne3 : AllLt L' rest) (ne4 : @Ne Nat src bx) (ne5 : @Ne Nat bx src) (hap : ∀ p ∈ rest, p.1 ≠ src) (hx : 0 ≤ x) (hb0 : 0 ≤ b) (hb : b < 2147483647) (hal : al ∈ goodP)
   (hmid : ∀ x' b' ta' tb' n' v tv h' tk', 0 ≤ x' → 0 ≤ b' → b' < 2147483647 → Fr g L' h' (fun z => if z = Str.ofString "text" then some (.str v tv) else (fun z => if z = Str.ofString "texts" then some (.ref D) else (fun z => if z = Str.ofString "blank" then some (.str y ty) else (fun z => if z = Str.ofString "is_slice" then some (.bool sl) else (fun z => if z = Str.ofString "align" then some (.str al tx) else (fun z => if z = Str.ofString "box" then some (.ref bx) else none) z) z) z) z) z) → News g L' h' ((L' + 1, oc) :: (src, srcO x' b' ta' tb' n') :: (bx, W.listOf #[.int k1 u1, .int k2 u2, .int k3 u3, .int k4 u4] nb) :: rest) → wpAny (model PySem.Challenge.rw_nu0023_01.row.toRowW.prog w) ((ktrTop dp un gd cn cs L a ccd cl outer).deeper (envOfC (Str.ofString "_law_texts_right") sc L' 347 (.ref 346))) (execs (bd.drop 2) (envOfC (Str.ofString "_law_texts_right") sc L' 347 (.ref 346))) Q E { s with heap := h', toks := tk' }) :
   wpAny (model PySem.Challenge.rw_nu0023_01.row.toRowW.prog w) ((ktrTop dp un gd cn cs L a ccd cl outer).deeper (envOfC (Str.ofString "_law_texts_right") sc L' 347 (.ref 346))) (execs bd (envOfC (Str.ofString "_law_texts_right") sc L' 347 (.ref 346))) Q E s := by
  have hal16 := len_good al hal
  have hok := fok al hal
  have hsl6 : (Str.ofString " slice").length = 6 := rfl
  conv at hbd => rhs; whnf
  conv at hsc => rhs; whnf
  subst hbd; subst hsc
  revert X; k_fill; intro X
  k_steps
  all_goals (refine' hmid _ _ _ _ _ _ _ _ _ ?zqa ?zqb ?zqc ?zqF ?zqN; (case zqN => exact news_sub (by assumption) (by intro p hp; (repeat (first | (with_reducible exact hp) | refine List.mem_cons_of_mem _ ?_)))); (case zqF => assumption); (case zqa => assumption); (case zqb => assumption); (case zqc => assumption))
end
end Mine
namespace Mine
theorem part_end_K37 : True := by
  w_top off
  trivial
end Mine

-- part K38
namespace Mine
local macro_rules | `(tactic| k_ne) => `(tactic| (refine neN ?_; (try dsimp only); first | exact om0 (by first | (with_reducible assumption) | fail) (by first | (with_reducible (repeat (first | exact List.mem_cons_self | apply List.mem_cons_of_mem))) | fail) | exact om1 (by first | (with_reducible assumption) | fail) (by first | (with_reducible (repeat (first | exact List.mem_cons_self | apply List.mem_cons_of_mem))) | fail) | exact om2 (by first | (with_reducible assumption) | fail) (by first | (with_reducible (repeat (first | exact List.mem_cons_self | apply List.mem_cons_of_mem))) | fail) | exact om3 (by first | (with_reducible assumption) | fail) (by first | (with_reducible (repeat (first | exact List.mem_cons_self | apply List.mem_cons_of_mem))) | fail) | exact om4 (by first | (with_reducible assumption) | fail) (by first | (with_reducible (repeat (first | exact List.mem_cons_self | apply List.mem_cons_of_mem))) | fail) | exact om5 (by first | (with_reducible assumption) | fail) (by first | (with_reducible (repeat (first | exact List.mem_cons_self | apply List.mem_cons_of_mem))) | fail) ))
local macro_rules | `(tactic| k_all) => `(tactic| with_reducible assumption)
theorem words_K38_0 : True := by
  k_with_none
  k_with "subscriptTail" => (k_here; (with_reducible show wpAny _ _ (subscriptTail _ _ (Value.ref _) (Value.int 0 _)) _ _ _); k_dflt (refine' pa_item0 ?k1 ?k2 ?k3 ?_ ?k4; (case k1 => k_asm); (case k2 => k_asm); (case k3 => first | assumption | exact PA.more (by assumption) (by intro p hp; (repeat (first | (with_reducible exact hp) | refine List.mem_cons_of_mem _ ?_)))); (case k4 => with_unfolding_all rfl)); intro t9)
  k_with "subscriptTail" => (k_here; (with_reducible show wpAny _ _ (subscriptTail _ _ (Value.ref _) (Value.int 1 _)) _ _ _); k_dflt (refine' pa_item1 ?k1 ?k2 ?k3 ?_ ?k4; (case k1 => k_asm); (case k2 => k_asm); (case k3 => first | assumption | exact PA.more (by assumption) (by intro p hp; (repeat (first | (with_reducible exact hp) | refine List.mem_cons_of_mem _ ?_)))); (case k4 => with_unfolding_all rfl)); intro t9)
  k_with "compareOp Eq ref ref" => (k_here; (with_reducible show wpAny _ _ (compareOp CmpOp.Eq (Value.ref _) (Value.ref _)) _ _ _); (k_dflt refine eq_dataH (by ke_read) (by ke_read) (by (simp [SeqAt.shaped, PyData.canLay0, PyData.canLayAll0, PyData.depth, PyData.depthAll] <;> (repeat' (first | (with_reducible assumption) | decide +kernel | apply And.intro)))) (by (simp [SeqAt.shaped, PyData.canLay0, PyData.canLayAll0, PyData.depth, PyData.depthAll] <;> (repeat' (first | (with_reducible assumption) | decide +kernel | apply And.intro)))) (by ktr_units) ?_); (try (simp only [PyData.eqv, PyData.eqvAll, beq_self_eq_true, Bool.and_true, Bool.true_and, Bool.and_false, Bool.false_and, Bool.not_true, Bool.not_false, decide_true, decide_false, *])))
  k_with "compareOp NotEq ref ref" => (k_here; (with_reducible show wpAny _ _ (compareOp CmpOp.NotEq (Value.ref _) (Value.ref _)) _ _ _); (k_dflt refine ne_dataH (by ke_read) (by ke_read) (by (simp [SeqAt.shaped, PyData.canLay0, PyData.canLayAll0, PyData.depth, PyData.depthAll] <;> (repeat' (first | (with_reducible assumption) | decide +kernel | apply And.intro)))) (by (simp [SeqAt.shaped, PyData.canLay0, PyData.canLayAll0, PyData.depth, PyData.depthAll] <;> (repeat' (first | (with_reducible assumption) | decide +kernel | apply And.intro)))) (by ktr_units) ?_); (try (simp only [PyData.eqv, PyData.eqvAll, beq_self_eq_true, Bool.and_true, Bool.true_and, Bool.and_false, Bool.false_and, Bool.not_true, Bool.not_false, decide_true, decide_false, *])))
  k_with "compareOp NotIn ref ref" => (k_here; (with_reducible show wpAny _ _ (compareOp CmpOp.NotIn (Value.ref _) (Value.ref _)) _ _ _); (k_dflt refine PySem.SeqAt.notIn_tuple_reads (by ke_read) (by ke_read) (by (simp [SeqAt.shaped, PyData.canLay0, PyData.canLayAll0, PyData.depth, PyData.depthAll] <;> (repeat' (first | (with_reducible assumption) | decide +kernel | apply And.intro)))) (by (simp [SeqAt.shaped, PyData.canLay0, PyData.canLayAll0, PyData.depth, PyData.depthAll] <;> (repeat' (first | (with_reducible assumption) | decide +kernel | apply And.intro)))) (room_in_shaped (by (simp [SeqAt.shaped, PyData.canLay0, PyData.canLayAll0, PyData.depth, PyData.depthAll] <;> (repeat' (first | (with_reducible assumption) | decide +kernel | apply And.intro)))) (by ktr_units)) ?_); (try (simp only [PyData.eqv, PyData.eqvAll, beq_self_eq_true, Bool.and_true, Bool.true_and, Bool.and_false, Bool.false_and, Bool.not_true, Bool.not_false, decide_true, decide_false, *])); (try simp only [List.any_cons, List.any_nil, PyData.eqv, PyData.eqvAll]))
  k_with "exec Assign cons ListComp" => (k_here; k_dflt (refine LCg.Assign_ListComp_U (F₀ := by k_asm) (by rfl) (by with_unfolding_all rfl) (by with_unfolding_all rfl) (by decide) (by rfl) (by decide) (by rfl) (by rfl) (by rfl) ?_); k_dflt lcg_toSrc)
  k_with "eval ListComp" => (k_here; k_dflt (refine LCg.ListComp_U (F₀ := by k_asm) (by with_unfolding_all rfl) (by decide) (by rfl) (by decide) (by rfl) ?_); k_dflt lcg_toSrc)
  k_with "CompSrc" => (k_here; k_dflt (refine LCg.CompSrc.ledger (by rfl) (by k_asm) (by k_asm) (by k_mem) (by first | size_fits | exact Nat.le_of_ble_eq_true rfl) ?_; intro g'; lcg_lit))
  k_with "CompRest" => (with_unfolding_all first | (refine LCg.CompRest.succ ?_; intro v' I' oI' C' oC' D' m' h' tk' E' hv' hC' hx' F' N' off' ne'; (first | lcg_open hv' | (obtain ⟨t9', hv9'⟩ := hv'; subst hv9')); (have om' := LCg.Off3.mem off'); clear off') | refine LCg.CompRest.zero ?_)
  k_with "CompEnd" => (k_dflt (refine' compEnd_drp ?kF ?kN ?m1 ?m2 ?m3 ?kd ?ko ?ks ?_; (case kF => k_asm); (case kN => k_asm); (case m1 => k_mem); (case m2 => k_mem); (case m3 => k_mem); (case kd => with_reducible ((repeat (first | (apply Drp.drop; (first | exact List.mem_cons_self | exact List.mem_cons_of_mem _ List.mem_cons_self | exact List.mem_cons_of_mem _ (List.mem_cons_of_mem _ List.mem_cons_self))) | apply Drp.keep)); exact Drp.tail _)); (case ko => (repeat (refine And.intro ⟨by k_ne, by k_ne, by k_ne⟩ ?_)); (first | exact True.intro | exact off3_use (by assumption) (by intro p hp; (repeat (first | (with_reducible exact hp) | refine List.mem_cons_of_mem _ ?_))))); (case ks => lcg_src)))
  k_with "call ref" => (k_here; (with_reducible show wpAny _ _ (call (Value.ref _) _) _ _ _); refine hold_in ?_)
  k_with "call builtin:str.join" => (k_here; (with_reducible show wpAny _ _ (call (Value.builtin "str.join") [Value.str _ _, Value.ref _]) _ _ _); k_dflt (refine' join4 ?k1 ?k2 ?p1 ?p2 ?p3 ?p4 ?p5 ?q1 ?q2 ?q3 ?q4 ?q5 ?q6 ?q7 ?q8 ?_; (case k1 => k_asm); (case k2 => k_mem); (case p1 => with_reducible assumption); (case p2 => with_reducible assumption); (case p3 => with_reducible assumption); (case p4 => with_reducible assumption); (case p5 => with_reducible assumption); (case q1 => assumption); (case q2 => assumption); (case q3 => assumption); (case q4 => assumption); (case q5 => assumption); (case q6 => assumption); (case q7 => assumption); (case q8 => assumption)); intro t9 k9)
  k_with "call ref" => (k_here; (with_reducible show wpAny _ _ (call (Value.ref 264) _) _ _ _); k_dflt (refine' c_boxAny ?k1 ?k2 ?k3 ?k4 ?k5 ?kK ?kd ?ku ?p1 ?p2 ?p3 ?p4 ?p5 ?q1 ?q2 ?q3 ?q4 ?q5 ?q6 ?q7 ?q8 ?px ?_; (case k1 => k_asm); (case k2 => k_asm); (case k3 => k_asm); (case k4 => k_asm); (case k5 => k_asm); (case kK => first | exact rfl | assumption); (case kd => first | exact room_in (by assumption) (by exact rfl) | exact room_0 (by assumption) (by exact rfl) | ktr_room); (case ku => first | exact unit_3 (by assumption) (by exact rfl) | exact unit_4 (by assumption) (by exact rfl) | exact room_0 (by assumption) (by exact rfl) | ktr_units); (case px => exact rfl); (case p1 => with_reducible assumption); (case p2 => with_reducible assumption); (case p3 => with_reducible assumption); (case p4 => with_reducible assumption); (case p5 => with_reducible assumption); (case q1 => assumption); (case q2 => assumption); (case q3 => assumption); (case q4 => assumption); (case q5 => assumption); (case q6 => assumption); (case q7 => assumption); (case q8 => assumption)); intro D1 D2 D3 D4 D5 t1 u1 t2 u2 t3 u3 t4 u4 c1 c2 c3 c4 n9 h9 tk9 F9 N9 l9 l8; (try dsimp only); (try k_sweep); (try k_fold))
  k_with "call ref" => (k_here; (with_reducible show wpAny _ _ (call (Value.ref 278) _) _ _ _); k_dflt (refine' c_fitEmpty ?k1 ?k2 ?k3 ?k4 ?k5 ?kK ?kd ?ku ?px ?_; (case k1 => k_asm); (case k2 => k_asm); (case k3 => k_asm); (case k4 => k_asm); (case k5 => k_asm); (case kK => first | exact rfl | assumption); (case kd => first | exact room_in (by assumption) (by exact rfl) | exact room_0 (by assumption) (by exact rfl) | ktr_room); (case ku => first | exact unit_3 (by assumption) (by exact rfl) | exact unit_4 (by assumption) (by exact rfl) | exact room_0 (by assumption) (by exact rfl) | ktr_units); (case px => exact rfl)); intro q9 t9 c9 h9 tk9 F9 N9 l9; (try dsimp only); (try k_sweep); (try k_fold))
  k_with "call ref" => (k_here; (with_reducible show wpAny _ _ (call (Value.ref 278) _) _ _ _); k_dflt (refine' c_fitAny ?k1 ?k2 ?k3 ?k4 ?k5 ?kK ?kd ?ku ?p1 ?p2 ?p3 ?px ?_; (case k1 => k_asm); (case k2 => k_asm); (case k3 => k_asm); (case k4 => k_asm); (case k5 => k_asm); (case kK => first | exact rfl | assumption); (case kd => first | exact room_in (by assumption) (by exact rfl) | exact room_0 (by assumption) (by exact rfl) | ktr_room); (case ku => first | exact unit_3 (by assumption) (by exact rfl) | exact unit_4 (by assumption) (by exact rfl) | exact room_0 (by assumption) (by exact rfl) | ktr_units); (case px => exact rfl); (case p1 => with_reducible assumption); (case p2 => with_reducible assumption); (case p3 => first | exact Or.inl ⟨by assumption, rfl⟩ | exact Or.inr ⟨by assumption, by with_reducible assumption⟩)); intro q9 t9 c9 h9 tk9 F9 N9 l9; (try dsimp only); (try k_sweep); (try k_fold))
  k_with "call ref" => (k_here; (with_reducible show wpAny _ _ (call (Value.ref 342) [Value.ref 264, _]) _ _ _); k_dflt (refine' c_refusedB ?k1 ?k2 ?k3 ?k4 ?k5 ?kK ?kd ?ku ?XB ?TB ?D ?T0 ?hR ?_; (case k1 => k_asm); (case k2 => k_asm); (case k3 => k_asm); (case k4 => k_asm); (case k5 => k_asm); (case kK => first | exact rfl | assumption); (case kd => first | exact room_in (by assumption) (by exact rfl) | exact room_0 (by assumption) (by exact rfl) | ktr_room); (case ku => first | exact unit_3 (by assumption) (by exact rfl) | exact unit_4 (by assumption) (by exact rfl) | exact room_0 (by assumption) (by exact rfl) | ktr_units); (case XB => assumption); (case TB => assumption); (case D => assumption); (case T0 => first | assumption | exact KtsTurn.refl); (case hR => with_reducible assumption)); intro g9 h9 tk9 T9 F9 N9 B9 X9 P9 D9; (try k_lift B9); (try dsimp only); (try k_sweep); (try k_fold))
  k_with "call ref" => (k_here; (with_reducible show wpAny _ _ (call (Value.ref 342) [Value.ref 278, _]) _ _ _); k_dflt (refine' c_refusedF ?k1 ?k2 ?k3 ?k4 ?k5 ?kK ?kd ?ku ?XB ?TB ?D ?T0 ?hR ?_; (case k1 => k_asm); (case k2 => k_asm); (case k3 => k_asm); (case k4 => k_asm); (case k5 => k_asm); (case kK => first | exact rfl | assumption); (case kd => first | exact room_in (by assumption) (by exact rfl) | exact room_0 (by assumption) (by exact rfl) | ktr_room); (case ku => first | exact unit_3 (by assumption) (by exact rfl) | exact unit_4 (by assumption) (by exact rfl) | exact room_0 (by assumption) (by exact rfl) | ktr_units); (case XB => assumption); (case TB => assumption); (case D => assumption); (case T0 => first | assumption | exact KtsTurn.refl); (case hR => with_reducible assumption)); intro g9 h9 tk9 T9 F9 N9 B9 X9 P9 D9; (try k_lift B9); (try dsimp only); (try k_sweep); (try k_fold))
  k_with "call ref" => (k_here; (with_reducible show wpAny _ _ (call (Value.ref 314) _) _ _ _); k_dflt (first | (refine' c_oneB ?k1 ?k2 ?k3 ?k4 ?k5 ?kK ?kd ?ku ?p1 ?p2 ?p3 ?p4  ?q1 ?q2 ?_; (case k1 => k_asm); (case k2 => k_asm); (case k3 => k_asm); (case k4 => k_asm); (case k5 => k_asm); (case q1 => with_reducible (repeat (first | exact List.mem_cons_self | apply List.mem_cons_of_mem))); (case kK => first | exact rfl | assumption); (case kd => ktr_room); (case ku => ktr_units); (case p1 => k_updF); (case p2 => with_reducible assumption); (case p3 => with_reducible assumption); (case p4 => with_reducible assumption); (case q2 => (intro o'; (try dsimp only); with_reducible (repeat (first | exact List.mem_cons_self | apply List.mem_cons_of_mem)))); intro y9 t9 x9 b9 ta9 tb9 n9 h9 tk9 hP9 q91 q92 q93 F9 N9) | (refine' c_oneN ?k1 ?k2 ?k3 ?k4 ?k5 ?kK ?kd ?ku ?p1 ?p2 ?p3 ?p4  ?q1 ?q2 ?_; (case k1 => k_asm); (case k2 => k_asm); (case k3 => k_asm); (case k4 => k_asm); (case k5 => k_asm); (case q1 => with_reducible (repeat (first | exact List.mem_cons_self | apply List.mem_cons_of_mem))); (case kK => first | exact rfl | assumption); (case kd => ktr_room); (case ku => ktr_units); (case p1 => k_updF); (case p2 => with_reducible assumption); (case p3 => with_reducible assumption); (case p4 => with_reducible assumption); (case q2 => (intro o'; (try dsimp only); with_reducible (repeat (first | exact List.mem_cons_self | apply List.mem_cons_of_mem)))); intro y9 t9 x9 b9 ta9 tb9 n9 h9 tk9 hP9 q91 q92 q93 F9 N9) | (refine' c_oneD ?k1 ?k2 ?k3 ?k4 ?k5 ?kK ?kd ?ku ?p1 ?p2 ?p3 ?p4  ?q1 ?q2 ?_; (case k1 => k_asm); (case k2 => k_asm); (case k3 => k_asm); (case k4 => k_asm); (case k5 => k_asm); (case q1 => with_reducible (repeat (first | exact List.mem_cons_self | apply List.mem_cons_of_mem))); (case kK => first | exact rfl | assumption); (case kd => ktr_room); (case ku => ktr_units); (case p1 => k_updF); (case p2 => with_reducible assumption); (case p3 => with_reducible assumption); (case p4 => with_reducible assumption); (case q2 => (intro o'; (try dsimp only); with_reducible (repeat (first | exact List.mem_cons_self | apply List.mem_cons_of_mem)))); intro y9 t9 x9 b9 ta9 tb9 n9 h9 tk9 hP9 q91 q92 q93 F9 N9; (have hL9 := len_defer hP9)) | (refine' c_oneM ?k1 ?k2 ?k3 ?k4 ?k5 ?kK ?kd ?ku ?p1 ?p2 ?p3 ?p4  ?q1 ?q2 ?_; (case k1 => k_asm); (case k2 => k_asm); (case k3 => k_asm); (case k4 => k_asm); (case k5 => k_asm); (case q1 => with_reducible (repeat (first | exact List.mem_cons_self | apply List.mem_cons_of_mem))); (case kK => first | exact rfl | assumption); (case kd => ktr_room); (case ku => ktr_units); (case p1 => k_updF); (case p2 => with_reducible assumption); (case p3 => with_reducible assumption); (case p4 => with_reducible assumption); (case q2 => (intro o'; (try dsimp only); with_reducible (repeat (first | exact List.mem_cons_self | apply List.mem_cons_of_mem)))); intro y9 t9 x9 b9 ta9 tb9 n9 h9 tk9 hP9 q91 q92 q93 F9 N9; (have hL9 := len_meet hP9)) | (refine' c_oneRB ?k1 ?k2 ?k3 ?k4 ?k5 ?kK ?kd ?ku ?p1 ?p2 ?p3 ?p4 ?r0 ?r1 ?r2 ?r3 ?r4 ?r5 ?q1 ?q2 ?_; (case k1 => k_asm); (case k2 => k_asm); (case k3 => k_asm); (case k4 => k_asm); (case k5 => k_asm); (case q1 => with_reducible (repeat (first | exact List.mem_cons_self | apply List.mem_cons_of_mem))); (case kK => first | exact rfl | assumption); (case kd => ktr_room); (case ku => ktr_units); (case p1 => k_updF); (case p2 => with_reducible assumption); (case p3 => with_reducible assumption); (case p4 => with_reducible assumption); (case r0 => with_reducible assumption); (case r1 => with_reducible assumption); (case r2 => with_reducible assumption); (case r3 => with_reducible assumption); (case r4 => with_reducible assumption); (case r5 => with_reducible assumption); (case q2 => (intro o'; (try dsimp only); with_reducible (repeat (first | exact List.mem_cons_self | apply List.mem_cons_of_mem)))); intro y9 t9 x9 b9 ta9 tb9 n9 h9 tk9 hP9 q91 q92 q93 F9 N9) | (refine' c_oneRF ?k1 ?k2 ?k3 ?k4 ?k5 ?kK ?kd ?ku ?p1 ?p2 ?p3 ?p4 ?r0 ?r1 ?r2 ?r3 ?r4 ?r5 ?q1 ?q2 ?_; (case k1 => k_asm); (case k2 => k_asm); (case k3 => k_asm); (case k4 => k_asm); (case k5 => k_asm); (case q1 => with_reducible (repeat (first | exact List.mem_cons_self | apply List.mem_cons_of_mem))); (case kK => first | exact rfl | assumption); (case kd => ktr_room); (case ku => ktr_units); (case p1 => k_updF); (case p2 => with_reducible assumption); (case p3 => with_reducible assumption); (case p4 => with_reducible assumption); (case r0 => with_reducible assumption); (case r1 => with_reducible assumption); (case r2 => with_reducible assumption); (case r3 => with_reducible assumption); (case r4 => with_reducible assumption); (case r5 => with_reducible assumption); (case q2 => (intro o'; (try dsimp only); with_reducible (repeat (first | exact List.mem_cons_self | apply List.mem_cons_of_mem)))); intro y9 t9 x9 b9 ta9 tb9 n9 h9 tk9 hP9 q91 q92 q93 F9 N9)); (try dsimp only at N9); (try dsimp only); (try k_sweep); (try k_fold))
  trivial
section
variable {w : World} {mean : ExcName → Option Value} {mg mb : Str → Option Value} {dp un : Nat} {gd : Option (List Code)} {cn : Str} {cs : Scope} {a : Addr} {ccd : Value} {cl : List (Str × Addr)} {outer : List Env} {base g : Heap} {L L' D src bx : Addr} {s : Shared} {E : Value → Shared → Prop} {Q : Flow → Shared → Prop} {rest : List (Addr × Obj)}
  {oc : Obj} {bd : List Stmt} {sc : Scope} {al y w1 w2 w3 w4 : Str} {tx ty t1 t2 t3 t4 u1 u2 u3 u4 : Tok} {sl : Bool} {x b k1 k2 k3 k4 : Int} {ta tb : Tok} {n nb : Nat}
variable {v : Str} {tv : Tok}
theorem tx4 (hbd : bd = (bodyAt w.params 347).drop 5) (hsc : sc = scopeAt w.params 347) (B : Below (ktrTop dp un gd cn cs L a ccd cl outer) base (envX cn cs L a ccd cl :: outer) g) (F : Fr g L' s.heap (fun z => if z = Str.ofString "text" then some (.str v tv) else (fun z => if z = Str.ofString "texts" then some (.ref D) else (fun z => if z = Str.ofString "blank" then some (.str y ty) else (fun z => if z = Str.ofString "is_slice" then some (.bool sl) else (fun z => if z = Str.ofString "align" then some (.str al tx) else (fun z => if z = Str.ofString "box" then some (.ref bx) else none) z) z) z) z) z)) (X : Frag.In (hd.heap_39 w.params) g) (N : News g L' s.heap ((L' + 1, oc) :: (src, srcO x b ta tb n) :: (bx, W.listOf #[.int k1 u1, .int k2 u2, .int k3 u3, .int k4 u4] nb) :: rest)) (T : Top hd.view_39 LO mean mg mb g) (hdp : dp + 13 < recursionLimit) (hun : un + 160 < cLine) (XB : Frag.In (hd.heap_39 w.params) base) (TB : Top hd.view_39 LO mean mg mb base) (DD : KtsDicts ((envX cn cs L a ccd cl :: outer).filterMap (·.frame)) g) (dc : oc.data = .cell (some (.ref src))) (ne1 : @LT.lt Nat _ src L') (ne2 : @LT.lt Nat _ bx L') (ne3 : AllLt L' rest) (ne4 : @Ne Nat src bx) (ne5 : @Ne Nat bx src) (hap : ∀ p ∈ rest, p.1 ≠ src) (hx : 0 ≤ x) (hb0 : 0 ≤ b) (hb : b < 2147483647) (rb0 : Refuses w 264 (Str.ofString "")) (rb1 : Refuses w 264 (Str.ofString "1 2 3")) (rb2 : Refuses w 264 (Str.ofString "1 2 3 0")) (rb3 : Refuses w 264 (Str.ofString "0 0 -1 1")) (rb4 : Refuses w 264 (Str.ofString "0 0 1 1 1")) (rb5 : Refuses w 264 (Str.ofString "a b c d")) (rf0 : Refuses w 278 (Str.ofString "xMid")) (rf1 : Refuses w 278 (Str.ofString "xMidyMid")) (rf2 : Refuses w 278 (Str.ofString "YMinxMin")) (rf3 : Refuses w 278 (Str.ofString "xMinYMin cut")) (rf4 : Refuses w 278 (Str.ofString "none none")) (rf5 : Refuses w 278 (Str.ofString "xMinYMin meet slice"))
   (hend : ∀ g₁ x' b' ta' tb' n' h' tk', 0 ≤ x' → 0 ≤ b' → b' < 2147483647 → KtsTurn ((envX cn cs L a ccd cl :: outer).filterMap (·.frame)) g g₁ → Fr g₁ L' h' (fun z => if z = Str.ofString "text" then some (.str v tv) else (fun z => if z = Str.ofString "texts" then some (.ref D) else (fun z => if z = Str.ofString "blank" then some (.str y ty) else (fun z => if z = Str.ofString "is_slice" then some (.bool sl) else (fun z => if z = Str.ofString "align" then some (.str al tx) else (fun z => if z = Str.ofString "box" then some (.ref bx) else none) z) z) z) z) z) → News g₁ L' h' ((L' + 1, oc) :: (src, srcO x' b' ta' tb' n') :: (bx, W.listOf #[.int k1 u1, .int k2 u2, .int k3 u3, .int k4 u4] nb) :: rest) → Q (.ret (.bool true)) { s with heap := h', toks := tk' }) :
   wpAny (model PySem.Challenge.rw_nu0023_01.row.toRowW.prog w) ((ktrTop dp un gd cn cs L a ccd cl outer).deeper (envOfC (Str.ofString "_law_texts_right") sc L' 347 (.ref 346))) (execs bd (envOfC (Str.ofString "_law_texts_right") sc L' 347 (.ref 346))) Q E s := by
  conv at hbd => rhs; whnf
  conv at hsc => rhs; whnf
  subst hbd; subst hsc
  revert X; k_fill; intro X
  k_steps
  refine' hend _ _ _ _ _ _ _ _ ?zqa ?zqb ?zqc ?zqT ?zqF ?zqN
  case zqN => exact news_sub (by assumption) (by intro p hp; (repeat (first | (with_reducible exact hp) | refine List.mem_cons_of_mem _ ?_)))
  case zqT => assumption
  case zqF => assumption
  case zqa => assumption
  case zqb => assumption
  case zqc => assumption
end
end Mine
namespace Mine
theorem part_end_K38 : True := by
  w_top off
  trivial
end Mine

-- part K39
namespace Mine
local macro_rules | `(tactic| k_ne) => `(tactic| (refine neN ?_; (try dsimp only); first | exact om0 (by first | (with_reducible assumption) | fail) (by first | (with_reducible (repeat (first | exact List.mem_cons_self | apply List.mem_cons_of_mem))) | fail) | exact om1 (by first | (with_reducible assumption) | fail) (by first | (with_reducible (repeat (first | exact List.mem_cons_self | apply List.mem_cons_of_mem))) | fail) | exact om2 (by first | (with_reducible assumption) | fail) (by first | (with_reducible (repeat (first | exact List.mem_cons_self | apply List.mem_cons_of_mem))) | fail) | exact om3 (by first | (with_reducible assumption) | fail) (by first | (with_reducible (repeat (first | exact List.mem_cons_self | apply List.mem_cons_of_mem))) | fail) | exact om4 (by first | (with_reducible assumption) | fail) (by first | (with_reducible (repeat (first | exact List.mem_cons_self | apply List.mem_cons_of_mem))) | fail) | exact om5 (by first | (with_reducible assumption) | fail) (by first | (with_reducible (repeat (first | exact List.mem_cons_self | apply List.mem_cons_of_mem))) | fail) ))
local macro_rules | `(tactic| k_all) => `(tactic| with_reducible assumption)
theorem words_K39_0 : True := by
  k_with_none
  k_with "subscriptTail" => (k_here; (with_reducible show wpAny _ _ (subscriptTail _ _ (Value.ref _) (Value.int 0 _)) _ _ _); k_dflt (refine' pa_item0 ?k1 ?k2 ?k3 ?_ ?k4; (case k1 => k_asm); (case k2 => k_asm); (case k3 => first | assumption | exact PA.more (by assumption) (by intro p hp; (repeat (first | (with_reducible exact hp) | refine List.mem_cons_of_mem _ ?_)))); (case k4 => with_unfolding_all rfl)); intro t9)
  k_with "subscriptTail" => (k_here; (with_reducible show wpAny _ _ (subscriptTail _ _ (Value.ref _) (Value.int 1 _)) _ _ _); k_dflt (refine' pa_item1 ?k1 ?k2 ?k3 ?_ ?k4; (case k1 => k_asm); (case k2 => k_asm); (case k3 => first | assumption | exact PA.more (by assumption) (by intro p hp; (repeat (first | (with_reducible exact hp) | refine List.mem_cons_of_mem _ ?_)))); (case k4 => with_unfolding_all rfl)); intro t9)
  k_with "compareOp Eq ref ref" => (k_here; (with_reducible show wpAny _ _ (compareOp CmpOp.Eq (Value.ref _) (Value.ref _)) _ _ _); (k_dflt refine eq_dataH (by ke_read) (by ke_read) (by (simp [SeqAt.shaped, PyData.canLay0, PyData.canLayAll0, PyData.depth, PyData.depthAll] <;> (repeat' (first | (with_reducible assumption) | decide +kernel | apply And.intro)))) (by (simp [SeqAt.shaped, PyData.canLay0, PyData.canLayAll0, PyData.depth, PyData.depthAll] <;> (repeat' (first | (with_reducible assumption) | decide +kernel | apply And.intro)))) (by ktr_units) ?_); (try (simp only [PyData.eqv, PyData.eqvAll, beq_self_eq_true, Bool.and_true, Bool.true_and, Bool.and_false, Bool.false_and, Bool.not_true, Bool.not_false, decide_true, decide_false, *])))
  k_with "compareOp NotEq ref ref" => (k_here; (with_reducible show wpAny _ _ (compareOp CmpOp.NotEq (Value.ref _) (Value.ref _)) _ _ _); (k_dflt refine ne_dataH (by ke_read) (by ke_read) (by (simp [SeqAt.shaped, PyData.canLay0, PyData.canLayAll0, PyData.depth, PyData.depthAll] <;> (repeat' (first | (with_reducible assumption) | decide +kernel | apply And.intro)))) (by (simp [SeqAt.shaped, PyData.canLay0, PyData.canLayAll0, PyData.depth, PyData.depthAll] <;> (repeat' (first | (with_reducible assumption) | decide +kernel | apply And.intro)))) (by ktr_units) ?_); (try (simp only [PyData.eqv, PyData.eqvAll, beq_self_eq_true, Bool.and_true, Bool.true_and, Bool.and_false, Bool.false_and, Bool.not_true, Bool.not_false, decide_true, decide_false, *])))
  k_with "compareOp NotIn ref ref" => (k_here; (with_reducible show wpAny _ _ (compareOp CmpOp.NotIn (Value.ref _) (Value.ref _)) _ _ _); (k_dflt refine PySem.SeqAt.notIn_tuple_reads (by ke_read) (by ke_read) (by (simp [SeqAt.shaped, PyData.canLay0, PyData.canLayAll0, PyData.depth, PyData.depthAll] <;> (repeat' (first | (with_reducible assumption) | decide +kernel | apply And.intro)))) (by (simp [SeqAt.shaped, PyData.canLay0, PyData.canLayAll0, PyData.depth, PyData.depthAll] <;> (repeat' (first | (with_reducible assumption) | decide +kernel | apply And.intro)))) (room_in_shaped (by (simp [SeqAt.shaped, PyData.canLay0, PyData.canLayAll0, PyData.depth, PyData.depthAll] <;> (repeat' (first | (with_reducible assumption) | decide +kernel | apply And.intro)))) (by ktr_units)) ?_); (try (simp only [PyData.eqv, PyData.eqvAll, beq_self_eq_true, Bool.and_true, Bool.true_and, Bool.and_false, Bool.false_and, Bool.not_true, Bool.not_false, decide_true, decide_false, *])); (try simp only [List.any_cons, List.any_nil, PyData.eqv, PyData.eqvAll]))
  k_with "exec Assign cons ListComp" => (k_here; k_dflt (refine LCg.Assign_ListComp_U (F₀ := by k_asm) (by rfl) (by with_unfolding_all rfl) (by with_unfolding_all rfl) (by decide) (by rfl) (by decide) (by rfl) (by rfl) (by rfl) ?_); k_dflt lcg_toSrc)
  k_with "eval ListComp" => (k_here; k_dflt (refine LCg.ListComp_U (F₀ := by k_asm) (by with_unfolding_all rfl) (by decide) (by rfl) (by decide) (by rfl) ?_); k_dflt lcg_toSrc)
  k_with "CompSrc" => (k_here; k_dflt (refine LCg.CompSrc.ledger (by rfl) (by k_asm) (by k_asm) (by k_mem) (by first | size_fits | exact Nat.le_of_ble_eq_true rfl) ?_; intro g'; lcg_lit))
  k_with "CompRest" => (with_unfolding_all first | (refine LCg.CompRest.succ ?_; intro v' I' oI' C' oC' D' m' h' tk' E' hv' hC' hx' F' N' off' ne'; (first | lcg_open hv' | (obtain ⟨t9', hv9'⟩ := hv'; subst hv9')); (have om' := LCg.Off3.mem off'); clear off') | refine LCg.CompRest.zero ?_)
  k_with "CompEnd" => (k_dflt (refine' compEnd_drp ?kF ?kN ?m1 ?m2 ?m3 ?kd ?ko ?ks ?_; (case kF => k_asm); (case kN => k_asm); (case m1 => k_mem); (case m2 => k_mem); (case m3 => k_mem); (case kd => with_reducible ((repeat (first | (apply Drp.drop; (first | exact List.mem_cons_self | exact List.mem_cons_of_mem _ List.mem_cons_self | exact List.mem_cons_of_mem _ (List.mem_cons_of_mem _ List.mem_cons_self))) | apply Drp.keep)); exact Drp.tail _)); (case ko => (repeat (refine And.intro ⟨by k_ne, by k_ne, by k_ne⟩ ?_)); (first | exact True.intro | exact off3_use (by assumption) (by intro p hp; (repeat (first | (with_reducible exact hp) | refine List.mem_cons_of_mem _ ?_))))); (case ks => lcg_src)))
  k_with "call ref" => (k_here; (with_reducible show wpAny _ _ (call (Value.ref _) _) _ _ _); refine hold_in ?_)
  k_with "call builtin:str.join" => (k_here; (with_reducible show wpAny _ _ (call (Value.builtin "str.join") [Value.str _ _, Value.ref _]) _ _ _); k_dflt (refine' join4 ?k1 ?k2 ?p1 ?p2 ?p3 ?p4 ?p5 ?q1 ?q2 ?q3 ?q4 ?q5 ?q6 ?q7 ?q8 ?_; (case k1 => k_asm); (case k2 => k_mem); (case p1 => with_reducible assumption); (case p2 => with_reducible assumption); (case p3 => with_reducible assumption); (case p4 => with_reducible assumption); (case p5 => with_reducible assumption); (case q1 => assumption); (case q2 => assumption); (case q3 => assumption); (case q4 => assumption); (case q5 => assumption); (case q6 => assumption); (case q7 => assumption); (case q8 => assumption)); intro t9 k9)
  k_with "call ref" => (k_here; (with_reducible show wpAny _ _ (call (Value.ref 264) _) _ _ _); k_dflt (refine' c_boxAny ?k1 ?k2 ?k3 ?k4 ?k5 ?kK ?kd ?ku ?p1 ?p2 ?p3 ?p4 ?p5 ?q1 ?q2 ?q3 ?q4 ?q5 ?q6 ?q7 ?q8 ?px ?_; (case k1 => k_asm); (case k2 => k_asm); (case k3 => k_asm); (case k4 => k_asm); (case k5 => k_asm); (case kK => first | exact rfl | assumption); (case kd => first | exact room_in (by assumption) (by exact rfl) | exact room_0 (by assumption) (by exact rfl) | ktr_room); (case ku => first | exact unit_3 (by assumption) (by exact rfl) | exact unit_4 (by assumption) (by exact rfl) | exact room_0 (by assumption) (by exact rfl) | ktr_units); (case px => exact rfl); (case p1 => with_reducible assumption); (case p2 => with_reducible assumption); (case p3 => with_reducible assumption); (case p4 => with_reducible assumption); (case p5 => with_reducible assumption); (case q1 => assumption); (case q2 => assumption); (case q3 => assumption); (case q4 => assumption); (case q5 => assumption); (case q6 => assumption); (case q7 => assumption); (case q8 => assumption)); intro D1 D2 D3 D4 D5 t1 u1 t2 u2 t3 u3 t4 u4 c1 c2 c3 c4 n9 h9 tk9 F9 N9 l9 l8; (try dsimp only); (try k_sweep); (try k_fold))
  k_with "call ref" => (k_here; (with_reducible show wpAny _ _ (call (Value.ref 278) _) _ _ _); k_dflt (refine' c_fitEmpty ?k1 ?k2 ?k3 ?k4 ?k5 ?kK ?kd ?ku ?px ?_; (case k1 => k_asm); (case k2 => k_asm); (case k3 => k_asm); (case k4 => k_asm); (case k5 => k_asm); (case kK => first | exact rfl | assumption); (case kd => first | exact room_in (by assumption) (by exact rfl) | exact room_0 (by assumption) (by exact rfl) | ktr_room); (case ku => first | exact unit_3 (by assumption) (by exact rfl) | exact unit_4 (by assumption) (by exact rfl) | exact room_0 (by assumption) (by exact rfl) | ktr_units); (case px => exact rfl)); intro q9 t9 c9 h9 tk9 F9 N9 l9; (try dsimp only); (try k_sweep); (try k_fold))
  k_with "call ref" => (k_here; (with_reducible show wpAny _ _ (call (Value.ref 278) _) _ _ _); k_dflt (refine' c_fitAny ?k1 ?k2 ?k3 ?k4 ?k5 ?kK ?kd ?ku ?p1 ?p2 ?p3 ?px ?_; (case k1 => k_asm); (case k2 => k_asm); (case k3 => k_asm); (case k4 => k_asm); (case k5 => k_asm); (case kK => first | exact rfl | assumption); (case kd => first | exact room_in (by assumption) (by exact rfl) | exact room_0 (by assumption) (by exact rfl) | ktr_room); (case ku => first | exact unit_3 (by assumption) (by exact rfl) | exact unit_4 (by assumption) (by exact rfl) | exact room_0 (by assumption) (by exact rfl) | ktr_units); (case px => exact rfl); (case p1 => with_reducible assumption); (case p2 => with_reducible assumption); (case p3 => first | exact Or.inl ⟨by assumption, rfl⟩ | exact Or.inr ⟨by assumption, by with_reducible assumption⟩)); intro q9 t9 c9 h9 tk9 F9 N9 l9; (try dsimp only); (try k_sweep); (try k_fold))
  k_with "call ref" => (k_here; (with_reducible show wpAny _ _ (call (Value.ref 342) [Value.ref 264, _]) _ _ _); k_dflt (refine' c_refusedB ?k1 ?k2 ?k3 ?k4 ?k5 ?kK ?kd ?ku ?XB ?TB ?D ?T0 ?hR ?_; (case k1 => k_asm); (case k2 => k_asm); (case k3 => k_asm); (case k4 => k_asm); (case k5 => k_asm); (case kK => first | exact rfl | assumption); (case kd => first | exact room_in (by assumption) (by exact rfl) | exact room_0 (by assumption) (by exact rfl) | ktr_room); (case ku => first | exact unit_3 (by assumption) (by exact rfl) | exact unit_4 (by assumption) (by exact rfl) | exact room_0 (by assumption) (by exact rfl) | ktr_units); (case XB => assumption); (case TB => assumption); (case D => assumption); (case T0 => first | assumption | exact KtsTurn.refl); (case hR => with_reducible assumption)); intro g9 h9 tk9 T9 F9 N9 B9 X9 P9 D9; (try k_lift B9); (try dsimp only); (try k_sweep); (try k_fold))
  k_with "call ref" => (k_here; (with_reducible show wpAny _ _ (call (Value.ref 342) [Value.ref 278, _]) _ _ _); k_dflt (refine' c_refusedF ?k1 ?k2 ?k3 ?k4 ?k5 ?kK ?kd ?ku ?XB ?TB ?D ?T0 ?hR ?_; (case k1 => k_asm); (case k2 => k_asm); (case k3 => k_asm); (case k4 => k_asm); (case k5 => k_asm); (case kK => first | exact rfl | assumption); (case kd => first | exact room_in (by assumption) (by exact rfl) | exact room_0 (by assumption) (by exact rfl) | ktr_room); (case ku => first | exact unit_3 (by assumption) (by exact rfl) | exact unit_4 (by assumption) (by exact rfl) | exact room_0 (by assumption) (by exact rfl) | ktr_units); (case XB => assumption); (case TB => assumption); (case D => assumption); (case T0 => first | assumption | exact KtsTurn.refl); (case hR => with_reducible assumption)); intro g9 h9 tk9 T9 F9 N9 B9 X9 P9 D9; (try k_lift B9); (try dsimp only); (try k_sweep); (try k_fold))
  k_with "call ref" => (k_here; (with_reducible show wpAny _ _ (call (Value.ref 314) _) _ _ _); k_dflt (first | (refine' c_oneB ?k1 ?k2 ?k3 ?k4 ?k5 ?kK ?kd ?ku ?p1 ?p2 ?p3 ?p4  ?q1 ?q2 ?_; (case k1 => k_asm); (case k2 => k_asm); (case k3 => k_asm); (case k4 => k_asm); (case k5 => k_asm); (case q1 => with_reducible (repeat (first | exact List.mem_cons_self | apply List.mem_cons_of_mem))); (case kK => first | exact rfl | assumption); (case kd => ktr_room); (case ku => ktr_units); (case p1 => k_updF); (case p2 => with_reducible assumption); (case p3 => with_reducible assumption); (case p4 => with_reducible assumption); (case q2 => (intro o'; (try dsimp only); with_reducible (repeat (first | exact List.mem_cons_self | apply List.mem_cons_of_mem)))); intro y9 t9 x9 b9 ta9 tb9 n9 h9 tk9 hP9 q91 q92 q93 F9 N9) | (refine' c_oneN ?k1 ?k2 ?k3 ?k4 ?k5 ?kK ?kd ?ku ?p1 ?p2 ?p3 ?p4  ?q1 ?q2 ?_; (case k1 => k_asm); (case k2 => k_asm); (case k3 => k_asm); (case k4 => k_asm); (case k5 => k_asm); (case q1 => with_reducible (repeat (first | exact List.mem_cons_self | apply List.mem_cons_of_mem))); (case kK => first | exact rfl | assumption); (case kd => ktr_room); (case ku => ktr_units); (case p1 => k_updF); (case p2 => with_reducible assumption); (case p3 => with_reducible assumption); (case p4 => with_reducible assumption); (case q2 => (intro o'; (try dsimp only); with_reducible (repeat (first | exact List.mem_cons_self | apply List.mem_cons_of_mem)))); intro y9 t9 x9 b9 ta9 tb9 n9 h9 tk9 hP9 q91 q92 q93 F9 N9) | (refine' c_oneD ?k1 ?k2 ?k3 ?k4 ?k5 ?kK ?kd ?ku ?p1 ?p2 ?p3 ?p4  ?q1 ?q2 ?_; (case k1 => k_asm); (case k2 => k_asm); (case k3 => k_asm); (case k4 => k_asm); (case k5 => k_asm); (case q1 => with_reducible (repeat (first | exact List.mem_cons_self | apply List.mem_cons_of_mem))); (case kK => first | exact rfl | assumption); (case kd => ktr_room); (case ku => ktr_units); (case p1 => k_updF); (case p2 => with_reducible assumption); (case p3 => with_reducible assumption); (case p4 => with_reducible assumption); (case q2 => (intro o'; (try dsimp only); with_reducible (repeat (first | exact List.mem_cons_self | apply List.mem_cons_of_mem)))); intro y9 t9 x9 b9 ta9 tb9 n9 h9 tk9 hP9 q91 q92 q93 F9 N9; (have hL9 := len_defer hP9)) | (refine' c_oneM ?k1 ?k2 ?k3 ?k4 ?k5 ?kK ?kd ?ku ?p1 ?p2 ?p3 ?p4  ?q1 ?q2 ?_; (case k1 => k_asm); (case k2 => k_asm); (case k3 => k_asm); (case k4 => k_asm); (case k5 => k_asm); (case q1 => with_reducible (repeat (first | exact List.mem_cons_self | apply List.mem_cons_of_mem))); (case kK => first | exact rfl | assumption); (case kd => ktr_room); (case ku => ktr_units); (case p1 => k_updF); (case p2 => with_reducible assumption); (case p3 => with_reducible assumption); (case p4 => with_reducible assumption); (case q2 => (intro o'; (try dsimp only); with_reducible (repeat (first | exact List.mem_cons_self | apply List.mem_cons_of_mem)))); intro y9 t9 x9 b9 ta9 tb9 n9 h9 tk9 hP9 q91 q92 q93 F9 N9; (have hL9 := len_meet hP9)) | (refine' c_oneRB ?k1 ?k2 ?k3 ?k4 ?k5 ?kK ?kd ?ku ?p1 ?p2 ?p3 ?p4 ?r0 ?r1 ?r2 ?r3 ?r4 ?r5 ?q1 ?q2 ?_; (case k1 => k_asm); (case k2 => k_asm); (case k3 => k_asm); (case k4 => k_asm); (case k5 => k_asm); (case q1 => with_reducible (repeat (first | exact List.mem_cons_self | apply List.mem_cons_of_mem))); (case kK => first | exact rfl | assumption); (case kd => ktr_room); (case ku => ktr_units); (case p1 => k_updF); (case p2 => with_reducible assumption); (case p3 => with_reducible assumption); (case p4 => with_reducible assumption); (case r0 => with_reducible assumption); (case r1 => with_reducible assumption); (case r2 => with_reducible assumption); (case r3 => with_reducible assumption); (case r4 => with_reducible assumption); (case r5 => with_reducible assumption); (case q2 => (intro o'; (try dsimp only); with_reducible (repeat (first | exact List.mem_cons_self | apply List.mem_cons_of_mem)))); intro y9 t9 x9 b9 ta9 tb9 n9 h9 tk9 hP9 q91 q92 q93 F9 N9) | (refine' c_oneRF ?k1 ?k2 ?k3 ?k4 ?k5 ?kK ?kd ?ku ?p1 ?p2 ?p3 ?p4 ?r0 ?r1 ?r2 ?r3 ?r4 ?r5 ?q1 ?q2 ?_; (case k1 => k_asm); (case k2 => k_asm); (case k3 => k_asm); (case k4 => k_asm); (case k5 => k_asm); (case q1 => with_reducible (repeat (first | exact List.mem_cons_self | apply List.mem_cons_of_mem))); (case kK => first | exact rfl | assumption); (case kd => ktr_room); (case ku => ktr_units); (case p1 => k_updF); (case p2 => with_reducible assumption); (case p3 => with_reducible assumption); (case p4 => with_reducible assumption); (case r0 => with_reducible assumption); (case r1 => with_reducible assumption); (case r2 => with_reducible assumption); (case r3 => with_reducible assumption); (case r4 => with_reducible assumption); (case r5 => with_reducible assumption); (case q2 => (intro o'; (try dsimp only); with_reducible (repeat (first | exact List.mem_cons_self | apply List.mem_cons_of_mem)))); intro y9 t9 x9 b9 ta9 tb9 n9 h9 tk9 hP9 q91 q92 q93 F9 N9)); (try dsimp only at N9); (try dsimp only); (try k_sweep); (try k_fold))
  k_with "execs cons" => (k_here; (with_reducible show wpAny _ _ (execs (Stmt.If _ _ _ _ :: _) _) _ _ _); refine hold_in ?_)
  trivial
section
variable {w : World} {mean : ExcName → Option Value} {mg mb : Str → Option Value} {dp un : Nat} {gd : Option (List Code)} {cn : Str} {cs : Scope} {a : Addr} {ccd : Value} {cl : List (Str × Addr)} {outer : List Env} {base g : Heap} {L L' D src bx : Addr} {s : Shared} {E : Value → Shared → Prop} {Q : Flow → Shared → Prop} {rest : List (Addr × Obj)}
  {oc : Obj} {bd : List Stmt} {sc : Scope} {al y w1 w2 w3 w4 : Str} {tx ty t1 t2 t3 t4 u1 u2 u3 u4 : Tok} {sl : Bool} {x b k1 k2 k3 k4 : Int} {ta tb : Tok} {n nb : Nat}
theorem tx1 (hbd : bd = (bodyAt w.params 347).drop 1) (hsc : sc = scopeAt w.params 347) (B : Below (ktrTop dp un gd cn cs L a ccd cl outer) base (envX cn cs L a ccd cl :: outer) g) (F : Fr g L' s.heap (fun z => if z = Str.ofString "blank" then some (.str y ty) else (fun z => if z = Str.ofString "is_slice" then some (.bool sl) else (fun z => if z = Str.ofString "align" then some (.str al tx) else (fun z => if z = Str.ofString "box" then some (.ref bx) else none) z) z) z)) (X : Frag.In (hd.heap_39 w.params) g) (N : News g L' s.heap ((L' + 1, oc) :: (src, srcO x b ta tb n) :: (bx, W.listOf #[.int k1 u1, .int k2 u2, .int k3 u3, .int k4 u4] nb) :: rest)) (T : Top hd.view_39 LO mean mg mb g) (hdp : dp + 4 < recursionLimit) (hun : un + 64 < cLine) (dc : oc.data = .cell (some (.ref src))) (ne1 : @LT.lt Nat _ src L') (ne2 : @LT.lt Nat _ bx L') (ne3 : AllLt L' rest) (ne4 : @Ne Nat src bx) (ne5 : @Ne Nat bx src) (hap : ∀ p ∈ rest, p.1 ≠ src) (hx : 0 ≤ x) (hb0 : 0 ≤ b) (hb : b < 2147483647) (j1 : -4 ≤ k1) (l1 : k1 ≤ 6) (j2 : -4 ≤ k2) (l2 : k2 ≤ 6) (j3 : 0 < k3) (l3 : k3 ≤ 6) (j4 : 0 < k4) (l4 : k4 ≤ 6)
   (hmid : ∀ D w1 w2 w3 w4 t1 t2 t3 t4 x' b' ta' tb' n' h' tk', IsNum w1 k1 → IsNum w2 k2 → IsNum w3 k3 → IsNum w4 k4 → 0 ≤ x' → 0 ≤ b' → b' < 2147483647 → @Ne Nat src D → Fr g L' h' (fun z => if z = Str.ofString "texts" then some (.ref D) else (fun z => if z = Str.ofString "blank" then some (.str y ty) else (fun z => if z = Str.ofString "is_slice" then some (.bool sl) else (fun z => if z = Str.ofString "align" then some (.str al tx) else (fun z => if z = Str.ofString "box" then some (.ref bx) else none) z) z) z) z) → News g L' h' ((D, LCg.lst [.str w1 t1, .str w2 t2, .str w3 t3, .str w4 t4]) :: (L' + 1, oc) :: (src, srcO x' b' ta' tb' n') :: (bx, W.listOf #[.int k1 u1, .int k2 u2, .int k3 u3, .int k4 u4] nb) :: rest) → wpAny (model PySem.Challenge.rw_nu0023_01.row.toRowW.prog w) ((ktrTop dp un gd cn cs L a ccd cl outer).deeper (envOfC (Str.ofString "_law_texts_right") sc L' 347 (.ref 346))) (execs (bd.drop 1) (envOfC (Str.ofString "_law_texts_right") sc L' 347 (.ref 346))) Q E { s with heap := h', toks := tk' }) :
   wpAny (model PySem.Challenge.rw_nu0023_01.row.toRowW.prog w) ((ktrTop dp un gd cn cs L a ccd cl outer).deeper (envOfC (Str.ofString "_law_texts_right") sc L' 347 (.ref 346))) (execs bd (envOfC (Str.ofString "_law_texts_right") sc L' 347 (.ref 346))) Q E s := by
  conv at hbd => rhs; whnf
  conv at hsc => rhs; whnf
  subst hbd; subst hsc
  revert X; k_fill; intro X
  k_steps
  refine' hmid _ _ _ _ _ _ _ _ _ _ _ _ _ _ _ _ ?zqi1 ?zqi2 ?zqi3 ?zqi4 ?zqa ?zqb ?zqc ?zqd ?zqF ?zqN
  case zqN =>
    refine news_sub (by assumption) ?_
    intro p hp
    rcases List.mem_cons.mp hp with rfl | hp
    · exact List.mem_cons_self
    · (repeat (first | (with_reducible exact hp) | refine List.mem_cons_of_mem _ ?_))
  case zqF => assumption
  case zqi1 => assumption
  case zqi2 => assumption
  case zqi3 => assumption
  case zqi4 => assumption
  case zqa => assumption
  case zqb => assumption
  case zqc => assumption
  case zqd => omega
end
end Mine
namespace Mine
theorem part_end_K39 : True := by
  w_top off
  trivial
end Mine

-- part K40
namespace Mine
local macro_rules | `(tactic| k_ne) => `(tactic| (refine neN ?_; (try dsimp only); first | exact om0 (by first | (with_reducible assumption) | fail) (by first | (with_reducible (repeat (first | exact List.mem_cons_self | apply List.mem_cons_of_mem))) | fail) | exact om1 (by first | (with_reducible assumption) | fail) (by first | (with_reducible (repeat (first | exact List.mem_cons_self | apply List.mem_cons_of_mem))) | fail) | exact om2 (by first | (with_reducible assumption) | fail) (by first | (with_reducible (repeat (first | exact List.mem_cons_self | apply List.mem_cons_of_mem))) | fail) | exact om3 (by first | (with_reducible assumption) | fail) (by first | (with_reducible (repeat (first | exact List.mem_cons_self | apply List.mem_cons_of_mem))) | fail) | exact om4 (by first | (with_reducible assumption) | fail) (by first | (with_reducible (repeat (first | exact List.mem_cons_self | apply List.mem_cons_of_mem))) | fail) | exact om5 (by first | (with_reducible assumption) | fail) (by first | (with_reducible (repeat (first | exact List.mem_cons_self | apply List.mem_cons_of_mem))) | fail) ))
local macro_rules | `(tactic| k_all) => `(tactic| with_reducible assumption)
theorem words_K40_0 : True := by
  k_with_none
  k_with "subscriptTail" => (k_here; (with_reducible show wpAny _ _ (subscriptTail _ _ (Value.ref _) (Value.int 0 _)) _ _ _); k_dflt (refine' pa_item0 ?k1 ?k2 ?k3 ?_ ?k4; (case k1 => k_asm); (case k2 => k_asm); (case k3 => first | assumption | exact PA.more (by assumption) (by intro p hp; (repeat (first | (with_reducible exact hp) | refine List.mem_cons_of_mem _ ?_)))); (case k4 => with_unfolding_all rfl)); intro t9)
  k_with "subscriptTail" => (k_here; (with_reducible show wpAny _ _ (subscriptTail _ _ (Value.ref _) (Value.int 1 _)) _ _ _); k_dflt (refine' pa_item1 ?k1 ?k2 ?k3 ?_ ?k4; (case k1 => k_asm); (case k2 => k_asm); (case k3 => first | assumption | exact PA.more (by assumption) (by intro p hp; (repeat (first | (with_reducible exact hp) | refine List.mem_cons_of_mem _ ?_)))); (case k4 => with_unfolding_all rfl)); intro t9)
  k_with "compareOp Eq ref ref" => (k_here; (with_reducible show wpAny _ _ (compareOp CmpOp.Eq (Value.ref _) (Value.ref _)) _ _ _); (k_dflt refine eq_dataH (by ke_read) (by ke_read) (by (simp [SeqAt.shaped, PyData.canLay0, PyData.canLayAll0, PyData.depth, PyData.depthAll] <;> (repeat' (first | (with_reducible assumption) | decide +kernel | apply And.intro)))) (by (simp [SeqAt.shaped, PyData.canLay0, PyData.canLayAll0, PyData.depth, PyData.depthAll] <;> (repeat' (first | (with_reducible assumption) | decide +kernel | apply And.intro)))) (by ktr_units) ?_); (try (simp only [PyData.eqv, PyData.eqvAll, beq_self_eq_true, Bool.and_true, Bool.true_and, Bool.and_false, Bool.false_and, Bool.not_true, Bool.not_false, decide_true, decide_false, *])))
  k_with "compareOp NotEq ref ref" => (k_here; (with_reducible show wpAny _ _ (compareOp CmpOp.NotEq (Value.ref _) (Value.ref _)) _ _ _); (k_dflt refine ne_dataH (by ke_read) (by ke_read) (by (simp [SeqAt.shaped, PyData.canLay0, PyData.canLayAll0, PyData.depth, PyData.depthAll] <;> (repeat' (first | (with_reducible assumption) | decide +kernel | apply And.intro)))) (by (simp [SeqAt.shaped, PyData.canLay0, PyData.canLayAll0, PyData.depth, PyData.depthAll] <;> (repeat' (first | (with_reducible assumption) | decide +kernel | apply And.intro)))) (by ktr_units) ?_); (try (simp only [PyData.eqv, PyData.eqvAll, beq_self_eq_true, Bool.and_true, Bool.true_and, Bool.and_false, Bool.false_and, Bool.not_true, Bool.not_false, decide_true, decide_false, *])))
  k_with "compareOp NotIn ref ref" => (k_here; (with_reducible show wpAny _ _ (compareOp CmpOp.NotIn (Value.ref _) (Value.ref _)) _ _ _); (k_dflt refine PySem.SeqAt.notIn_tuple_reads (by ke_read) (by ke_read) (by (simp [SeqAt.shaped, PyData.canLay0, PyData.canLayAll0, PyData.depth, PyData.depthAll] <;> (repeat' (first | (with_reducible assumption) | decide +kernel | apply And.intro)))) (by (simp [SeqAt.shaped, PyData.canLay0, PyData.canLayAll0, PyData.depth, PyData.depthAll] <;> (repeat' (first | (with_reducible assumption) | decide +kernel | apply And.intro)))) (room_in_shaped (by (simp [SeqAt.shaped, PyData.canLay0, PyData.canLayAll0, PyData.depth, PyData.depthAll] <;> (repeat' (first | (with_reducible assumption) | decide +kernel | apply And.intro)))) (by ktr_units)) ?_); (try (simp only [PyData.eqv, PyData.eqvAll, beq_self_eq_true, Bool.and_true, Bool.true_and, Bool.and_false, Bool.false_and, Bool.not_true, Bool.not_false, decide_true, decide_false, *])); (try simp only [List.any_cons, List.any_nil, PyData.eqv, PyData.eqvAll]))
  k_with "exec Assign cons ListComp" => (k_here; k_dflt (refine LCg.Assign_ListComp_U (F₀ := by k_asm) (by rfl) (by with_unfolding_all rfl) (by with_unfolding_all rfl) (by decide) (by rfl) (by decide) (by rfl) (by rfl) (by rfl) ?_); k_dflt lcg_toSrc)
  k_with "eval ListComp" => (k_here; k_dflt (refine LCg.ListComp_U (F₀ := by k_asm) (by with_unfolding_all rfl) (by decide) (by rfl) (by decide) (by rfl) ?_); k_dflt lcg_toSrc)
  k_with "CompSrc" => (k_here; k_dflt (refine LCg.CompSrc.ledger (by rfl) (by k_asm) (by k_asm) (by k_mem) (by first | size_fits | exact Nat.le_of_ble_eq_true rfl) ?_; intro g'; lcg_lit))
  k_with "CompRest" => (with_unfolding_all first | (refine LCg.CompRest.succ ?_; intro v' I' oI' C' oC' D' m' h' tk' E' hv' hC' hx' F' N' off' ne'; (first | lcg_open hv' | (obtain ⟨t9', hv9'⟩ := hv'; subst hv9')); (have om' := LCg.Off3.mem off'); clear off') | refine LCg.CompRest.zero ?_)
  k_with "CompEnd" => (k_dflt (refine' compEnd_drp ?kF ?kN ?m1 ?m2 ?m3 ?kd ?ko ?ks ?_; (case kF => k_asm); (case kN => k_asm); (case m1 => k_mem); (case m2 => k_mem); (case m3 => k_mem); (case kd => with_reducible ((repeat (first | (apply Drp.drop; (first | exact List.mem_cons_self | exact List.mem_cons_of_mem _ List.mem_cons_self | exact List.mem_cons_of_mem _ (List.mem_cons_of_mem _ List.mem_cons_self))) | apply Drp.keep)); exact Drp.tail _)); (case ko => (repeat (refine And.intro ⟨by k_ne, by k_ne, by k_ne⟩ ?_)); (first | exact True.intro | exact off3_use (by assumption) (by intro p hp; (repeat (first | (with_reducible exact hp) | refine List.mem_cons_of_mem _ ?_))))); (case ks => lcg_src)))
  k_with "call ref" => (k_here; (with_reducible show wpAny _ _ (call (Value.ref _) _) _ _ _); refine hold_in ?_)
  k_with "call builtin:str.join" => (k_here; (with_reducible show wpAny _ _ (call (Value.builtin "str.join") [Value.str _ _, Value.ref _]) _ _ _); k_dflt (refine' join4 ?k1 ?k2 ?p1 ?p2 ?p3 ?p4 ?p5 ?q1 ?q2 ?q3 ?q4 ?q5 ?q6 ?q7 ?q8 ?_; (case k1 => k_asm); (case k2 => k_mem); (case p1 => with_reducible assumption); (case p2 => with_reducible assumption); (case p3 => with_reducible assumption); (case p4 => with_reducible assumption); (case p5 => with_reducible assumption); (case q1 => assumption); (case q2 => assumption); (case q3 => assumption); (case q4 => assumption); (case q5 => assumption); (case q6 => assumption); (case q7 => assumption); (case q8 => assumption)); intro t9 k9)
  k_with "call ref" => (k_here; (with_reducible show wpAny _ _ (call (Value.ref 264) _) _ _ _); k_dflt (refine' c_boxAny ?k1 ?k2 ?k3 ?k4 ?k5 ?kK ?kd ?ku ?p1 ?p2 ?p3 ?p4 ?p5 ?q1 ?q2 ?q3 ?q4 ?q5 ?q6 ?q7 ?q8 ?px ?_; (case k1 => k_asm); (case k2 => k_asm); (case k3 => k_asm); (case k4 => k_asm); (case k5 => k_asm); (case kK => first | exact rfl | assumption); (case kd => first | exact room_in (by assumption) (by exact rfl) | exact room_0 (by assumption) (by exact rfl) | ktr_room); (case ku => first | exact unit_3 (by assumption) (by exact rfl) | exact unit_4 (by assumption) (by exact rfl) | exact room_0 (by assumption) (by exact rfl) | ktr_units); (case px => exact rfl); (case p1 => with_reducible assumption); (case p2 => with_reducible assumption); (case p3 => with_reducible assumption); (case p4 => with_reducible assumption); (case p5 => with_reducible assumption); (case q1 => assumption); (case q2 => assumption); (case q3 => assumption); (case q4 => assumption); (case q5 => assumption); (case q6 => assumption); (case q7 => assumption); (case q8 => assumption)); intro D1 D2 D3 D4 D5 t1 u1 t2 u2 t3 u3 t4 u4 c1 c2 c3 c4 n9 h9 tk9 F9 N9 l9 l8; (try dsimp only); (try k_sweep); (try k_fold))
  k_with "call ref" => (k_here; (with_reducible show wpAny _ _ (call (Value.ref 278) _) _ _ _); k_dflt (refine' c_fitEmpty ?k1 ?k2 ?k3 ?k4 ?k5 ?kK ?kd ?ku ?px ?_; (case k1 => k_asm); (case k2 => k_asm); (case k3 => k_asm); (case k4 => k_asm); (case k5 => k_asm); (case kK => first | exact rfl | assumption); (case kd => first | exact room_in (by assumption) (by exact rfl) | exact room_0 (by assumption) (by exact rfl) | ktr_room); (case ku => first | exact unit_3 (by assumption) (by exact rfl) | exact unit_4 (by assumption) (by exact rfl) | exact room_0 (by assumption) (by exact rfl) | ktr_units); (case px => exact rfl)); intro q9 t9 c9 h9 tk9 F9 N9 l9; (try dsimp only); (try k_sweep); (try k_fold))
  k_with "call ref" => (k_here; (with_reducible show wpAny _ _ (call (Value.ref 278) _) _ _ _); k_dflt (refine' c_fitAny ?k1 ?k2 ?k3 ?k4 ?k5 ?kK ?kd ?ku ?p1 ?p2 ?p3 ?px ?_; (case k1 => k_asm); (case k2 => k_asm); (case k3 => k_asm); (case k4 => k_asm); (case k5 => k_asm); (case kK => first | exact rfl | assumption); (case kd => first | exact room_in (by assumption) (by exact rfl) | exact room_0 (by assumption) (by exact rfl) | ktr_room); (case ku => first | exact unit_3 (by assumption) (by exact rfl) | exact unit_4 (by assumption) (by exact rfl) | exact room_0 (by assumption) (by exact rfl) | ktr_units); (case px => exact rfl); (case p1 => with_reducible assumption); (case p2 => with_reducible assumption); (case p3 => first | exact Or.inl ⟨by assumption, rfl⟩ | exact Or.inr ⟨by assumption, by with_reducible assumption⟩)); intro q9 t9 c9 h9 tk9 F9 N9 l9; (try dsimp only); (try k_sweep); (try k_fold))
  k_with "call ref" => (k_here; (with_reducible show wpAny _ _ (call (Value.ref 342) [Value.ref 264, _]) _ _ _); k_dflt (refine' c_refusedB ?k1 ?k2 ?k3 ?k4 ?k5 ?kK ?kd ?ku ?XB ?TB ?D ?T0 ?hR ?_; (case k1 => k_asm); (case k2 => k_asm); (case k3 => k_asm); (case k4 => k_asm); (case k5 => k_asm); (case kK => first | exact rfl | assumption); (case kd => first | exact room_in (by assumption) (by exact rfl) | exact room_0 (by assumption) (by exact rfl) | ktr_room); (case ku => first | exact unit_3 (by assumption) (by exact rfl) | exact unit_4 (by assumption) (by exact rfl) | exact room_0 (by assumption) (by exact rfl) | ktr_units); (case XB => assumption); (case TB => assumption); (case D => assumption); (case T0 => first | assumption | exact KtsTurn.refl); (case hR => with_reducible assumption)); intro g9 h9 tk9 T9 F9 N9 B9 X9 P9 D9; (try k_lift B9); (try dsimp only); (try k_sweep); (try k_fold))
  k_with "call ref" => (k_here; (with_reducible show wpAny _ _ (call (Value.ref 342) [Value.ref 278, _]) _ _ _); k_dflt (refine' c_refusedF ?k1 ?k2 ?k3 ?k4 ?k5 ?kK ?kd ?ku ?XB ?TB ?D ?T0 ?hR ?_; (case k1 => k_asm); (case k2 => k_asm); (case k3 => k_asm); (case k4 => k_asm); (case k5 => k_asm); (case kK => first | exact rfl | assumption); (case kd => first | exact room_in (by assumption) (by exact rfl) | exact room_0 (by assumption) (by exact rfl) | ktr_room); (case ku => first | exact unit_3 (by assumption) (by exact rfl) | exact unit_4 (by assumption) (by exact rfl) | exact room_0 (by assumption) (by exact rfl) | ktr_units); (case XB => assumption); (case TB => assumption); (case D => assumption); (case T0 => first | assumption | exact KtsTurn.refl); (case hR => with_reducible assumption)); intro g9 h9 tk9 T9 F9 N9 B9 X9 P9 D9; (try k_lift B9); (try dsimp only); (try k_sweep); (try k_fold))
  k_with "call ref" => (k_here; (with_reducible show wpAny _ _ (call (Value.ref 314) _) _ _ _); k_dflt (first | (refine' c_oneB ?k1 ?k2 ?k3 ?k4 ?k5 ?kK ?kd ?ku ?p1 ?p2 ?p3 ?p4  ?q1 ?q2 ?_; (case k1 => k_asm); (case k2 => k_asm); (case k3 => k_asm); (case k4 => k_asm); (case k5 => k_asm); (case q1 => with_reducible (repeat (first | exact List.mem_cons_self | apply List.mem_cons_of_mem))); (case kK => first | exact rfl | assumption); (case kd => ktr_room); (case ku => ktr_units); (case p1 => k_updF); (case p2 => with_reducible assumption); (case p3 => with_reducible assumption); (case p4 => with_reducible assumption); (case q2 => (intro o'; (try dsimp only); with_reducible (repeat (first | exact List.mem_cons_self | apply List.mem_cons_of_mem)))); intro y9 t9 x9 b9 ta9 tb9 n9 h9 tk9 hP9 q91 q92 q93 F9 N9) | (refine' c_oneN ?k1 ?k2 ?k3 ?k4 ?k5 ?kK ?kd ?ku ?p1 ?p2 ?p3 ?p4  ?q1 ?q2 ?_; (case k1 => k_asm); (case k2 => k_asm); (case k3 => k_asm); (case k4 => k_asm); (case k5 => k_asm); (case q1 => with_reducible (repeat (first | exact List.mem_cons_self | apply List.mem_cons_of_mem))); (case kK => first | exact rfl | assumption); (case kd => ktr_room); (case ku => ktr_units); (case p1 => k_updF); (case p2 => with_reducible assumption); (case p3 => with_reducible assumption); (case p4 => with_reducible assumption); (case q2 => (intro o'; (try dsimp only); with_reducible (repeat (first | exact List.mem_cons_self | apply List.mem_cons_of_mem)))); intro y9 t9 x9 b9 ta9 tb9 n9 h9 tk9 hP9 q91 q92 q93 F9 N9) | (refine' c_oneD ?k1 ?k2 ?k3 ?k4 ?k5 ?kK ?kd ?ku ?p1 ?p2 ?p3 ?p4  ?q1 ?q2 ?_; (case k1 => k_asm); (case k2 => k_asm); (case k3 => k_asm); (case k4 => k_asm); (case k5 => k_asm); (case q1 => with_reducible (repeat (first | exact List.mem_cons_self | apply List.mem_cons_of_mem))); (case kK => first | exact rfl | assumption); (case kd => ktr_room); (case ku => ktr_units); (case p1 => k_updF); (case p2 => with_reducible assumption); (case p3 => with_reducible assumption); (case p4 => with_reducible assumption); (case q2 => (intro o'; (try dsimp only); with_reducible (repeat (first | exact List.mem_cons_self | apply List.mem_cons_of_mem)))); intro y9 t9 x9 b9 ta9 tb9 n9 h9 tk9 hP9 q91 q92 q93 F9 N9; (have hL9 := len_defer hP9)) | (refine' c_oneM ?k1 ?k2 ?k3 ?k4 ?k5 ?kK ?kd ?ku ?p1 ?p2 ?p3 ?p4  ?q1 ?q2 ?_; (case k1 => k_asm); (case k2 => k_asm); (case k3 => k_asm); (case k4 => k_asm); (case k5 => k_asm); (case q1 => with_reducible (repeat (first | exact List.mem_cons_self | apply List.mem_cons_of_mem))); (case kK => first | exact rfl | assumption); (case kd => ktr_room); (case ku => ktr_units); (case p1 => k_updF); (case p2 => with_reducible assumption); (case p3 => with_reducible assumption); (case p4 => with_reducible assumption); (case q2 => (intro o'; (try dsimp only); with_reducible (repeat (first | exact List.mem_cons_self | apply List.mem_cons_of_mem)))); intro y9 t9 x9 b9 ta9 tb9 n9 h9 tk9 hP9 q91 q92 q93 F9 N9; (have hL9 := len_meet hP9)) | (refine' c_oneRB ?k1 ?k2 ?k3 ?k4 ?k5 ?kK ?kd ?ku ?p1 ?p2 ?p3 ?p4 ?r0 ?r1 ?r2 ?r3 ?r4 ?r5 ?q1 ?q2 ?_; (case k1 => k_asm); (case k2 => k_asm); (case k3 => k_asm); (case k4 => k_asm); (case k5 => k_asm); (case q1 => with_reducible (repeat (first | exact List.mem_cons_self | apply List.mem_cons_of_mem))); (case kK => first | exact rfl | assumption); (case kd => ktr_room); (case ku => ktr_units); (case p1 => k_updF); (case p2 => with_reducible assumption); (case p3 => with_reducible assumption); (case p4 => with_reducible assumption); (case r0 => with_reducible assumption); (case r1 => with_reducible assumption); (case r2 => with_reducible assumption); (case r3 => with_reducible assumption); (case r4 => with_reducible assumption); (case r5 => with_reducible assumption); (case q2 => (intro o'; (try dsimp only); with_reducible (repeat (first | exact List.mem_cons_self | apply List.mem_cons_of_mem)))); intro y9 t9 x9 b9 ta9 tb9 n9 h9 tk9 hP9 q91 q92 q93 F9 N9) | (refine' c_oneRF ?k1 ?k2 ?k3 ?k4 ?k5 ?kK ?kd ?ku ?p1 ?p2 ?p3 ?p4 ?r0 ?r1 ?r2 ?r3 ?r4 ?r5 ?q1 ?q2 ?_; (case k1 => k_asm); (case k2 => k_asm); (case k3 => k_asm); (case k4 => k_asm); (case k5 => k_asm); (case q1 => with_reducible (repeat (first | exact List.mem_cons_self | apply List.mem_cons_of_mem))); (case kK => first | exact rfl | assumption); (case kd => ktr_room); (case ku => ktr_units); (case p1 => k_updF); (case p2 => with_reducible assumption); (case p3 => with_reducible assumption); (case p4 => with_reducible assumption); (case r0 => with_reducible assumption); (case r1 => with_reducible assumption); (case r2 => with_reducible assumption); (case r3 => with_reducible assumption); (case r4 => with_reducible assumption); (case r5 => with_reducible assumption); (case q2 => (intro o'; (try dsimp only); with_reducible (repeat (first | exact List.mem_cons_self | apply List.mem_cons_of_mem)))); intro y9 t9 x9 b9 ta9 tb9 n9 h9 tk9 hP9 q91 q92 q93 F9 N9)); (try dsimp only at N9); (try dsimp only); (try k_sweep); (try k_fold))
  k_with "execs cons" => (k_here; (with_reducible show wpAny _ _ (execs (Stmt.Assign (Expr.Name (Str.ofString "texts") _ :: _) _ _ :: _) _) _ _ _); refine hold_in ?_)
  trivial
section
variable {w : World} {mean : ExcName → Option Value} {mg mb : Str → Option Value} {dp un : Nat} {gd : Option (List Code)} {cn : Str} {cs : Scope} {a : Addr} {ccd : Value} {cl : List (Str × Addr)} {outer : List Env} {A₀ : Around} {base h₀ : Heap} {L : Addr} {m : Str → Option Value} {news : List (Addr × Obj)} {s : Shared} {Q E : Value → Shared → Prop}
variable {g₀ : Heap}
theorem c_texts {src bx : Addr} {x b : Int} {ta tb : Tok} {n nb : Nat} {k1 k2 k3 k4 : Int} {u1 u2 u3 u4 : Tok} {al : Str} {tx : Tok} {sl : Bool} {g : Obj → List (Addr × Obj)} (B : Below A₀ base outer h₀) (F : Fr h₀ L s.heap m) (X : Frag.In (hd.heap_39 w.params) h₀) (N : News h₀ L s.heap news) (T : Top hd.view_39 LO mean mg mb h₀) (hk : cs.kind = .function) (hdp : dp + 14 < recursionLimit) (hun : un + 180 < cLine)
   (XB : Frag.In (hd.heap_39 w.params) base) (TB : Top hd.view_39 LO mean mg mb base) (D : KtsDicts (outer.filterMap (·.frame)) h₀) (T0 : KtsTurn (outer.filterMap (·.frame)) g₀ h₀)
   (U : UpdF src (srcO x b ta tb n) news g) (hx : 0 ≤ x) (hb0 : 0 ≤ b) (hb : b < 2147483647) (hbx : (bx, W.listOf #[.int k1 u1, .int k2 u2, .int k3 u3, .int k4 u4] nb) ∈ news) (hbg : ∀ o', (bx, W.listOf #[.int k1 u1, .int k2 u2, .int k3 u3, .int k4 u4] nb) ∈ g o')
   (j1 : -4 ≤ k1) (l1 : k1 ≤ 6) (j2 : -4 ≤ k2) (l2 : k2 ≤ 6) (j3 : 0 < k3) (l3 : k3 ≤ 6) (j4 : 0 < k4) (l4 : k4 ≤ 6) (hal : al ∈ goodP) (rb0 : Refuses w 264 (Str.ofString "")) (rb1 : Refuses w 264 (Str.ofString "1 2 3")) (rb2 : Refuses w 264 (Str.ofString "1 2 3 0")) (rb3 : Refuses w 264 (Str.ofString "0 0 -1 1")) (rb4 : Refuses w 264 (Str.ofString "0 0 1 1 1")) (rb5 : Refuses w 264 (Str.ofString "a b c d")) (rf0 : Refuses w 278 (Str.ofString "xMid")) (rf1 : Refuses w 278 (Str.ofString "xMidyMid")) (rf2 : Refuses w 278 (Str.ofString "YMinxMin")) (rf3 : Refuses w 278 (Str.ofString "xMinYMin cut")) (rf4 : Refuses w 278 (Str.ofString "none none")) (rf5 : Refuses w 278 (Str.ofString "xMinYMin meet slice"))
   (hret : ∀ g₁ x' b' ta' tb' n' h' tk', 0 ≤ x' → 0 ≤ b' → b' < 2147483647 → KtsTurn (outer.filterMap (·.frame)) g₀ g₁ → Fr g₁ L h' m → News g₁ L h' (g (srcO x' b' ta' tb' n')) → Below A₀ base outer g₁ → Frag.In (hd.heap_39 w.params) g₁ → Top hd.view_39 LO mean mg mb g₁ → KtsDicts (outer.filterMap (·.frame)) g₁ → Q (.bool true) { s with heap := h', toks := tk' }) :
   wpAny (model PySem.Challenge.rw_nu0023_01.row.toRowW.prog w) (ktrTop dp un gd cn cs L a ccd cl outer) (call (.ref 347) [.ref src, .ref bx, .str al tx, .bool sl]) Q E s := by
  obtain ⟨pre, post, e1, e2, h1, h2⟩ := U.split
  have hap : ∀ p ∈ pre ++ post, p.1 ≠ src := fun p hp => (List.mem_append.mp hp).elim (h1 p) (h2 p)
  have hsb : @Ne Nat src bx ∧ @Ne Nat bx src := by
    refine (fun (h : src ≠ bx) => ⟨h, fun e => h e.symm⟩) ?_
    intro e
    have P1 := (N _ (by rw [e1]; simp : (src, srcO x b ta tb n) ∈ news)).1
    have P2 := (N _ hbx).1
    rw [← e, P1] at P2
    injection P2 with P2
    injection P2 with _ _ P2 _
    injection P2 with P2 _
    injection P2 with P2
    simp at P2
  have hN : News h₀ L s.heap ((src, srcO x b ta tb n) :: (bx, W.listOf #[.int k1 u1, .int k2 u2, .int k3 u3, .int k4 u4] nb) :: (pre ++ post)) := fun p hp => by
    rcases List.mem_cons.mp hp with rfl | hp
    · exact N _ (by rw [e1]; simp)
    · rcases List.mem_cons.mp hp with rfl | hp
      · exact N _ hbx
      · exact N p (by rw [e1]; simp only [List.mem_cons, List.mem_append] at hp ⊢; rcases hp with hp | hp; exact .inl hp; exact .inr (.inr hp))
  clear N
  revert X; k_fill; intro X
  refine wpAny_call ?_
  k_dflt (refine' code_defSC ?k1 ?k2 ?k3 ?k4 ?k5 ?XB ?TB ?D ?T0 ?kA ?kF ?cK ?k6 ?k7 ?k8 ?k9 ?kB ?kD ?_ ?c2 ?c3 ?c4; (case kA => exact rfl); (case kF => exact rfl); (case cK => assumption); (case k2 => k_asm); (case k1 => k_asm); (case XB => assumption); (case TB => assumption); (case D => assumption); (case T0 => assumption); (case k3 => k_asm); (case k4 => k_asm); (case k5 => k_asm); (case k6 => k_is); (case k7 => k_is); (case k8 => ktr_room); (case k9 => first | exact BindsTo.of_eq rfl | exact binds_K (by k_in) rfl (by k_is) rfl rfl rfl); (case kB => exact rfl); (case kD => decide +kernel); (case c2 => exact rfl); (case c3 => exact rfl); (case c4 => exact rfl); k_whole; intro g' L' h' tk' cells' FG' F' N' Y' B' X' T' l1 D'; (try k_lt l1); k_cells Y'; (try simp only [List.cons_append, List.nil_append] at N'); (try dsimp only); (try k_lift B'); (try k_fold))
  k_steps
  rename Obj.data _ = Data.cell _ => dcx
  rename IsBlank _ => hy
  refine' tx1 (rest := pre ++ post) (by with_unfolding_all rfl) (by with_unfolding_all rfl) B' (fr_eq (by assumption) (by intro z; with_unfolding_all rfl)) X' (news_sub (by assumption) ?zsub) T' (by omega) (by omega) (dcx.trans (by with_unfolding_all rfl)) l1.1 l1.2.1 l1.2.2 hsb.1 hsb.2 hap ?zq1 ?zq2 ?zq3 j1 ‹k1 ≤ 6› j2 l2 j3 l3 j4 l4 ?zcon
  case zsub =>
    intro p hp
    (repeat (first | (with_reducible exact hp) | refine List.mem_cons_of_mem _ ?_))
  case zq1 => assumption
  case zq2 => assumption
  case zq3 => assumption
  intro D w1 w2 w3 w4 t1 t2 t3 t4 x1 b1 ta1 tb1 n1 hh1 tk1 i1 i2 i3 i4 q1 q2 q3 nd F1 N1
  refine tx2 (by with_unfolding_all rfl) (by with_unfolding_all rfl) B' F1 X' N1 T' (by omega) (by omega) (dcx.trans (by with_unfolding_all rfl)) l1.1 l1.2.1 l1.2.2 hsb.1 hsb.2 hap nd (Ne.symm nd) hy i1 i2 i3 i4 j1 ‹k1 ≤ 6› j2 l2 j3 l3 j4 l4 ?_
  intro hh2 tk2 F2 N2
  refine tx3 (by with_unfolding_all rfl) (by with_unfolding_all rfl) B' F2 X' N2 T' (by omega) (by omega) (dcx.trans (by with_unfolding_all rfl)) l1.1 l1.2.1 l1.2.2 hsb.1 hsb.2 hap q1 q2 q3 hal ?_
  intro x3 b3 ta3 tb3 n3 v3 tv3 hh3 tk3 q31 q32 q33 F3 N3
  refine tx4 (by with_unfolding_all rfl) (by with_unfolding_all rfl) B' F3 X' N3 T' (by omega) (by omega) XB TB D' (dcx.trans (by with_unfolding_all rfl)) l1.1 l1.2.1 l1.2.2 hsb.1 hsb.2 hap q31 q32 q33 rb0 rb1 rb2 rb3 rb4 rb5 rf0 rf1 rf2 rf3 rf4 rf5 ?_
  intro g4 x4 b4 ta4 tb4 n4 hh4 tk4 q41 q42 q43 T4 F4 N4
  refine leaveS_r F4 N4 T4 ?_
  intro kg kT kF kN kB kX kP kD
  refine hret kg x4 b4 ta4 tb4 n4 hh4 tk4 q41 q42 q43 kT kF ?_ kB kX kP kD
  intro p hp
  rw [e2] at hp
  refine kN p (List.mem_cons_of_mem _ ?_)
  simp only [List.mem_cons, List.mem_append] at hp ⊢
  rcases hp with hp | hp | hp
  · exact .inr (.inr (.inl hp))
  · exact .inl hp
  · exact .inr (.inr (.inr hp))
end
end Mine
namespace Mine
theorem part_end_K40 : True := by
  w_top off
  trivial
end Mine

-- part K35
namespace Mine
theorem z_num (x : Int) : ((x : Int) : Rat).num = x := rfl
theorem z_den (x : Int) : ((x : Int) : Rat).den = 1 := rfl
theorem z_bd {x : Int} {n : Nat} (h : x.natAbs ≤ n) : BdN n 1 ((x : Int) : Rat) := ⟨h, Nat.le_refl 1⟩
theorem z_pa {h₀ : Heap} {news : List (Addr × Obj)} {q : Addr} {x : Int} {t u : Tok} {c : Nat} (hm : (q, tupO #[.int x t, .int 1 u] c) ∈ news) : PA h₀ news q ((x : Int) : Rat).num (((x : Int) : Rat).den : Int) := PA.mem hm
section
variable {w : World} {mean : ExcName → Option Value} {mg mb : Str → Option Value} {dp un : Nat} {gd : Option (List Code)} {cn : Str} {cs : Scope} {a : Addr} {ccd : Value} {cl : List (Str × Addr)} {outer : List Env} {A₀ : Around} {base h₀ : Heap} {L : Addr} {m : Str → Option Value} {news : List (Addr × Obj)} {s : Shared} {Q E : Value → Shared → Prop}
theorem c_fittedZ {X9 Y BW BH W H : Int} {al : Str} {qbox qx qy qbw qbh qw qh : Addr} {ta : Tok} {sl : Bool} {cb : Nat} {v1 v2 v3 v4 v5 v6 o1 o2 o3 o4 o5 o6 : Tok} {e1 e2 e3 e4 e5 e6 : Nat} (B : Below A₀ base outer h₀) (F : Fr h₀ L s.heap m) (X : Frag.In (hd.heap_39 w.params) h₀) (N : News h₀ L s.heap news) (T : Top hd.view_39 LO mean mg mb h₀) (hk : cs.kind = .function) (hdp : dp + 4 < recursionLimit) (hun : un + 32 < cLine)
   (hbox : (qbox, tupO #[.ref qx, .ref qy, .ref qbw, .ref qbh] cb) ∈ news)
   (mx : (qx, tupO #[.int X9 v1, .int 1 o1] e1) ∈ news) (my : (qy, tupO #[.int Y v2, .int 1 o2] e2) ∈ news) (mbw : (qbw, tupO #[.int BW v3, .int 1 o3] e3) ∈ news) (mbh : (qbh, tupO #[.int BH v4, .int 1 o4] e4) ∈ news) (mw : (qw, tupO #[.int W v5, .int 1 o5] e5) ∈ news) (mh : (qh, tupO #[.int H v6, .int 1 o6] e6) ∈ news)
   (x1 : -4 ≤ X9) (x2 : X9 ≤ 4) (y1 : -4 ≤ Y) (y2 : Y ≤ 4) (a1 : 0 < BW) (a2 : BW ≤ 6) (b1 : 0 < BH) (b2 : BH ≤ 6) (w1 : 0 < W) (w2 : W ≤ 8) (h1 : 0 < H) (h2 : H ≤ 8)
   (hsl : al.length ≤ 16) (hpl : al = Str.ofString "none" ∨ al ≠ Str.ofString "none" ∧ IsPlace (Txt.slice al (some 1) (some 4)) ∧ IsPlace (Txt.slice al (some 5) none))
   (hret : ∀ (A D rE rF : Rat) (M dM q1 q2 qe qf qa qd : Addr) (t1 t2 t3 t4 t5 t6 t7 t8 t9 t10 t11 t12 t13 t14 : Tok) (c1 c2 c3 c4 : Nat) (h' : Heap) (tk' : Nat), Fr h₀ L h' m → News h₀ L h' (fitL w M dM q1 q2 qe qf qa qd (((W : Int) : Rat) / ((BW : Int) : Rat)) (((H : Int) : Rat) / ((BH : Int) : Rat)) rE rF t1 t2 t3 t4 t5 t6 t7 t8 t9 t10 t11 t12 t13 t14 c1 c2 c3 c4 news) →
      PA h₀ (fitL w M dM q1 q2 qe qf qa qd (((W : Int) : Rat) / ((BW : Int) : Rat)) (((H : Int) : Rat) / ((BH : Int) : Rat)) rE rF t1 t2 t3 t4 t5 t6 t7 t8 t9 t10 t11 t12 t13 t14 c1 c2 c3 c4 news) qa A.num A.den → PA h₀ (fitL w M dM q1 q2 qe qf qa qd (((W : Int) : Rat) / ((BW : Int) : Rat)) (((H : Int) : Rat) / ((BH : Int) : Rat)) rE rF t1 t2 t3 t4 t5 t6 t7 t8 t9 t10 t11 t12 t13 t14 c1 c2 c3 c4 news) qd D.num D.den →
      AllLt q1 news → @LT.lt Nat _ q1 q2 → @LT.lt Nat _ q2 qe → @LT.lt Nat _ qe qf → @LT.lt Nat _ qf dM → @LT.lt Nat _ dM M →
      BdN 8 6 A → BdN 8 6 D → BdN 960 72 rE → BdN 960 72 rF → FitS ((X9 : Int) : Rat) ((Y : Int) : Rat) ((BW : Int) : Rat) ((BH : Int) : Rat) ((W : Int) : Rat) ((H : Int) : Rat) A D rE rF al sl → Q (.ref M) { s with heap := h', toks := tk' }) :
   wpAny (model PySem.Challenge.rw_nu0023_01.row.toRowW.prog w) (ktrTop dp un gd cn cs L a ccd cl outer) (call (.ref 293) [.ref qbox, .ref qw, .ref qh, .str al ta, .bool sl]) Q E s :=
  c_fitted B F X N T hk hdp hun hbox (z_pa mx) (z_pa my) (z_pa mbw) (z_pa mbh) (z_pa mw) (z_pa mh) (z_bd (by omega)) (z_bd (by omega)) (z_bd (by omega)) (z_bd (by omega)) (z_bd (by omega)) (z_bd (by omega)) (by rw [z_num]; omega) (by rw [z_num]; omega) hsl hpl hret
theorem c_pointZ {A D rE rF : Rat} {x9 y9 : Int} {M dM qa qd qe qf qp px py : Addr} {t1 t2 t3 t4 t5 t6 o1 o2 o3 o4 o5 o6 o7 o8 : Tok} {cp e1 e2 e3 e4 : Nat} (B : Below A₀ base outer h₀) (F : Fr h₀ L s.heap m) (X : Frag.In (hd.heap_39 w.params) h₀) (N : News h₀ L s.heap news) (T : Top hd.view_39 LO mean mg mb h₀) (hk : cs.kind = .function) (hdp : dp + 5 < recursionLimit) (hun : un + 40 < cLine)
   (hM : (M, instObj 245 dM) ∈ news) (hdM : (dM, matD w qa 66 66 qd qe qf t1 t2 t3 t4 t5 t6) ∈ news) (hp : (qp, refT px py cp) ∈ news)
   (Pa : PA h₀ news qa A.num A.den) (Pd : PA h₀ news qd D.num D.den) (mx : (px, tupO #[.int x9 o1, .int 1 o2] e1) ∈ news) (my : (py, tupO #[.int y9 o3, .int 1 o4] e2) ∈ news)
   (me : (qe, tupO #[.int rE.num o5, .int (rE.den : Int) o6] e3) ∈ news) (mf : (qf, tupO #[.int rF.num o7, .int (rF.den : Int) o8] e4) ∈ news)
   (bA : BdN 8 6 A) (bD : BdN 8 6 D) (bE : BdN 960 72 rE) (bF : BdN 960 72 rF) (x1 : -10 ≤ x9) (x2 : x9 ≤ 10) (y1 : -10 ≤ y9) (y2 : y9 ≤ 10)
   (hret : ∀ (q q1 q2 : Addr) (u1 u2 u3 u4 : Tok) (c1 c2 c3 : Nat) (h' : Heap) (tk' : Nat), Fr h₀ L h' m → News h₀ L h' ((q, refT q1 q2 c1) :: (q2, tupO #[.int (D * ((y9 : Int) : Rat) + rF).num u1, .int ((D * ((y9 : Int) : Rat) + rF).den : Int) u2] c2) :: (q1, tupO #[.int (A * ((x9 : Int) : Rat) + rE).num u3, .int ((A * ((x9 : Int) : Rat) + rE).den : Int) u4] c3) :: news) → @LT.lt Nat _ q2 q → @LT.lt Nat _ q1 q2 → AllLt q1 news → Q (.ref q) { s with heap := h', toks := tk' }) :
   wpAny (model PySem.Challenge.rw_nu0023_01.row.toRowW.prog w) (ktrTop dp un gd cn cs L a ccd cl outer) (call (.ref 221) [.ref M, .ref qp]) Q E s :=
  c_point B F X N T hk hdp hun hM hdM hp Pa Pd (z_pa mx) (z_pa my) bA bD (z_bd (by omega)) (z_bd (by omega)) (PA.mem me) (PA.mem mf) bE bF hret
end
end Mine
namespace Mine
theorem part_end_K35 : True := by
  w_top off
  trivial
end Mine

-- part K41
namespace Mine
theorem len_place {x : Str} (h : IsPlace x) : x.length ≤ 3 := by rcases h with rfl | rfl | rfl <;> decide
noncomputable def GoodAl (al : Str) : Prop := al = Str.ofString "none" ∨ ∃ p q, IsPlace p ∧ IsPlace q ∧ al = Str.ofString "x" ++ p ++ Str.ofString "Y" ++ q
theorem fr_al {g h : Heap} {L : Addr} {I A : Str} {i v old : Option Value} {M : Str → Option Value} (ne : I ≠ A) (F : Fr g L h (fun z => if z = A then v else (fun z => if z = I then i else (fun z => if z = A then old else M z) z) z)) : Fr g L h (fun z => if z = I then i else (fun z => if z = A then v else M z) z) := by
  have e : (fun z => if z = A then v else (fun z => if z = I then i else (fun z => if z = A then old else M z) z) z) = (fun z => if z = I then i else (fun z => if z = A then v else M z) z) := by
    funext z
    by_cases h1 : z = A
    · have h2 : ¬ z = I := fun h => ne (h.symm.trans h1)
      simp only [if_pos h1, if_neg h2]
    · simp only [if_neg h1]
  exact e ▸ F
section
variable {w : World} {mean : ExcName → Option Value} {mg mb : Str → Option Value} {dp un : Nat} {gd : Option (List Code)} {cn : Str} {cs : Scope} {a : Addr} {ccd : Value} {cl : List (Str × Addr)} {outer : List Env} {A₀ : Around} {base h₀ : Heap} {L : Addr} {m : Str → Option Value} {news : List (Addr × Obj)} {s : Shared} {Q E : Value → Shared → Prop}
theorem c_oneP {src th : Addr} {x b : Int} {ta tb : Tok} {n nt : Nat} {t0 t1 t2 : Tok} {g : Obj → List (Addr × Obj)} (B : Below A₀ base outer h₀) (F : Fr h₀ L s.heap m) (X : Frag.In (hd.heap_39 w.params) h₀) (N : News h₀ L s.heap news) (T : Top hd.view_39 LO mean mg mb h₀) (hk : cs.kind = .function) (hdp : dp + 3 < recursionLimit) (hun : un + 24 < cLine) (U : UpdF src (srcO x b ta tb n) news g) (hx : 0 ≤ x) (hb0 : 0 ≤ b) (hb : b < 2147483647) 
   (hth : (th, W.listOf #[.str (Str.ofString "Min") t0, .str (Str.ofString "Mid") t1, .str (Str.ofString "Max") t2] nt) ∈ news) (hg : ∀ o', (th, W.listOf #[.str (Str.ofString "Min") t0, .str (Str.ofString "Mid") t1, .str (Str.ofString "Max") t2] nt) ∈ g o')
   (hret : ∀ y t x' b' ta' tb' n' h' tk', IsPlace y → 0 ≤ x' → 0 ≤ b' → b' < 2147483647 → Fr h₀ L h' m → News h₀ L h' (g (srcO x' b' ta' tb' n')) → Q (.str y t) { s with heap := h', toks := tk' }) :
   wpAny (model PySem.Challenge.rw_nu0023_01.row.toRowW.prog w) (ktrTop dp un gd cn cs L a ccd cl outer) (call (.ref 314) [.ref src, .ref th]) Q E s := by
  refine c_one (vs := [.str (Str.ofString "Min") t0, .str (Str.ofString "Mid") t1, .str (Str.ofString "Max") t2]) B F X N T hk hdp hun U hx hb0 hb hth hg (Nat.succ_pos _) (Nat.le_of_ble_eq_true rfl) ?_
  intro v hv x' b' ta' tb' n' h' tk' q1 q2 q3 F1 N1
  simp only [List.mem_cons, List.not_mem_nil, or_false] at hv
  rcases hv with rfl | rfl | rfl
  · exact hret _ _ _ _ _ _ _ _ _ (Or.inl rfl) q1 q2 q3 F1 N1
  · exact hret _ _ _ _ _ _ _ _ _ (Or.inr (Or.inl rfl)) q1 q2 q3 F1 N1
  · exact hret _ _ _ _ _ _ _ _ _ (Or.inr (Or.inr (rfl))) q1 q2 q3 F1 N1
end
theorem words_K41_0 : True := by
  k_with_none
  k_with "subscriptTail" => (k_here; (with_reducible show wpAny _ _ (subscriptTail _ _ (Value.ref _) (Value.int 0 _)) _ _ _); k_dflt (refine' pa_item0 ?k1 ?k2 ?k3 ?_ ?k4; (case k1 => k_asm); (case k2 => k_asm); (case k3 => first | assumption | exact PA.more (by assumption) (by intro p hp; (repeat (first | (with_reducible exact hp) | refine List.mem_cons_of_mem _ ?_)))); (case k4 => with_unfolding_all rfl)); intro t9)
  k_with "subscriptTail" => (k_here; (with_reducible show wpAny _ _ (subscriptTail _ _ (Value.ref _) (Value.int 1 _)) _ _ _); k_dflt (refine' pa_item1 ?k1 ?k2 ?k3 ?_ ?k4; (case k1 => k_asm); (case k2 => k_asm); (case k3 => first | assumption | exact PA.more (by assumption) (by intro p hp; (repeat (first | (with_reducible exact hp) | refine List.mem_cons_of_mem _ ?_)))); (case k4 => with_unfolding_all rfl)); intro t9)
  k_with "call ref" => (k_here; (with_reducible show wpAny _ _ (call (Value.ref _) _) _ _ _); refine hold_in ?_)
  k_with "call ref" => (k_here; (with_reducible show wpAny _ _ (call (Value.ref 307) _) _ _ _); k_dflt (refine' c_take ?k1 ?k2 ?k3 ?k4 ?k5 ?kK ?kd ?ku ?p1 ?p2 ?p3 ?p4 ?p5 ?p6 ?_; (case k1 => k_asm); (case k2 => k_asm); (case k3 => k_asm); (case k4 => k_asm); (case k5 => k_asm); (case kK => first | exact rfl | assumption); (case kd => first | exact room_in (by assumption) (by exact rfl) | exact room_0 (by assumption) (by exact rfl) | ktr_room); (case ku => first | exact unit_3 (by assumption) (by exact rfl) | exact unit_4 (by assumption) (by exact rfl) | exact room_0 (by assumption) (by exact rfl) | ktr_units); (case p1 => k_updF); (case p2 => assumption); (case p3 => assumption); (case p4 => assumption); (case p5 => decide); (case p6 => decide)); intro r9 x9 b9 t9 ta9 tb9 n9 h9 tk9 q91 q92 q93 q94 q95 F9 N9; (try dsimp only at N9); (try dsimp only); (try k_sweep); (try k_fold))
  k_with "call ref" => (k_here; (with_reducible show wpAny _ _ (call (Value.ref 300) _) _ _ _); k_dflt (refine' c_pool ?k1 ?k2 ?k3 ?k4 ?k5 ?kK ?kd ?ku ?p1 ?p2 ?p3 ?_; (case k1 => k_asm); (case k2 => k_asm); (case k3 => k_asm); (case k4 => k_asm); (case k5 => k_asm); (case kK => first | exact rfl | assumption); (case kd => first | exact room_in (by assumption) (by exact rfl) | exact room_0 (by assumption) (by exact rfl) | ktr_room); (case ku => first | exact unit_3 (by assumption) (by exact rfl) | exact unit_4 (by assumption) (by exact rfl) | exact room_0 (by assumption) (by exact rfl) | ktr_units); (case p1 => assumption); (case p2 => assumption); (case p3 => assumption)); intro s9 x9 b9 ta9 tb9 n9 h9 tk9 q91 q92 q93 F9 N9 l9; (try dsimp only); (try k_sweep); (try k_fold))
  k_with "call ref" => (k_here; (with_reducible show wpAny _ _ (call (Value.ref 314) _) _ _ _); k_dflt (refine' c_oneP ?k1 ?k2 ?k3 ?k4 ?k5 ?kK ?kd ?ku ?p1 ?p2 ?p3 ?p4 ?q1 ?q2 ?_; (case k1 => k_asm); (case k2 => k_asm); (case k3 => k_asm); (case k4 => k_asm); (case k5 => k_asm); (case q1 => with_reducible (repeat (first | exact List.mem_cons_self | apply List.mem_cons_of_mem))); (case kK => first | exact rfl | assumption); (case kd => ktr_room); (case ku => ktr_units); (case p1 => k_updF); (case p2 => with_reducible assumption); (case p3 => with_reducible assumption); (case p4 => with_reducible assumption); (case q2 => (intro o'; (try dsimp only); with_reducible (repeat (first | exact List.mem_cons_self | apply List.mem_cons_of_mem))))); intro y9 t9 x9 b9 ta9 tb9 n9 h9 tk9 hP9 q91 q92 q93 F9 N9; (have hL9 := len_place hP9); (try dsimp only at N9); (try dsimp only); (try k_sweep); (try k_fold))
  k_with "execs cons" => (k_here; (with_reducible show wpAny _ _ (execs (Stmt.Assign (Expr.Name (Str.ofString "box") _ :: _) _ _ :: _) _) _ _ _); refine hold_in ?_)
  trivial
section
variable {w : World} {mean : ExcName → Option Value} {mg mb : Str → Option Value} {nm : Str} {sc : Scope} {fa : Addr} {cdv : Value} {base h₀ : Heap} {L : Addr} {s : Shared} {E : Value → Shared → Prop} {Q : Flow → Shared → Prop} {bd : List Stmt}
theorem lawA {l : Addr} {vs : List Value} {ns : List Int} (hbd : bd = (bodyAt w.params 354).drop 0) (hsc : sc = scopeAt w.params 354) (B : Below callerA base [] h₀) (F : Fr h₀ L s.heap (fun z => if z = Str.ofString "script" then some (.ref l) else (fun _ => none) z)) (X : Frag.In (hd.heap_39 w.params) h₀) (N : News h₀ L s.heap []) (T : Top hd.view_39 LO mean mg mb h₀) (hl : base.IsList l vs.toArray) (hi : IntsAre vs ns) (hn : ns.length ≤ 63)
   (hmid : ∀ src a b ta tb n x y bw bh W H al sl tx ty tbw tbh tW tH tal (m₀ : Str → Option Value) h' tk', -4 ≤ x → x ≤ 4 → -4 ≤ y → y ≤ 4 → 0 < bw → bw ≤ 6 → 0 < bh → bh ≤ 6 → 0 < W → W ≤ 8 → 0 < H → H ≤ 8 → GoodAl al → 0 ≤ a → 0 ≤ b → b < 2147483647 → Fr h₀ L h' (fun z => if z = Str.ofString "is_slice" then some (.bool sl) else (fun z => if z = Str.ofString "align" then some (.str al tal) else (fun z => if z = Str.ofString "width" then some (.int W tW) else (fun z => if z = Str.ofString "height" then some (.int H tH) else (fun z => if z = Str.ofString "across" then some (.int bw tbw) else (fun z => if z = Str.ofString "down" then some (.int bh tbh) else (fun z => if z = Str.ofString "x" then some (.int x tx) else (fun z => if z = Str.ofString "y" then some (.int y ty) else (fun z => if z = Str.ofString "source" then some (.ref src) else (m₀) z) z) z) z) z) z) z) z) z) → News h₀ L h' [(src, srcO a b ta tb n)] → wpAny (model PySem.Challenge.rw_nu0023_01.row.toRowW.prog w) (callerA.deeper (envOf nm sc L fa cdv)) (execs (bd.drop 7) (envOf nm sc L fa cdv)) Q E { s with heap := h', toks := tk' }) :
   wpAny (model PySem.Challenge.rw_nu0023_01.row.toRowW.prog w) (callerA.deeper (envOf nm sc L fa cdv)) (execs bd (envOf nm sc L fa cdv)) Q E s := by
  conv at hbd => rhs; whnf
  conv at hsc => rhs; whnf
  subst hbd; subst hsc
  revert X; k_fill; intro X
  k_steps
  all_goals rename Fr h₀ L _ _ => F8
  all_goals (try (replace F8 := fr_al (by decide) F8))
  all_goals (refine' hmid _ _ _ _ _ _ _ _ _ _ _ _ _ _ _ _ _ _ _ _ _ _ _ _ ?zb1 ?zb2 ?zb3 ?zb4 ?zb5 ?zb6 ?zb7 ?zb8 ?zb9 ?zba ?zbb ?zbc ?zg ?zq1 ?zq2 ?zq3 ?zF ?zN; (case zF => exact F8); (case zN => exact news_sub (by assumption) (by intro p hp; rw [List.mem_singleton] at hp; subst hp; (repeat (first | exact List.mem_cons_self | refine List.mem_cons_of_mem _ ?_)))); (case zb1 => omega); (case zb2 => omega); (case zb3 => omega); (case zb4 => omega); (case zb5 => omega); (case zb6 => omega); (case zb7 => omega); (case zb8 => omega); (case zb9 => omega); (case zba => omega); (case zbb => omega); (case zbc => omega); (case zg => first | exact .inl rfl | (refine .inr ⟨_, _, ?_, ?_, rfl⟩ <;> assumption)); (case zq1 => assumption); (case zq2 => assumption); (case zq3 => assumption))
end
end Mine
namespace Mine
theorem part_end_K41 : True := by
  w_top off
  trivial
end Mine

-- part K42
namespace Mine
theorem good_len {al : Str} (h : GoodAl al) : al.length ≤ 16 := by
  rcases h with rfl | ⟨p, q, rfl | rfl | rfl, rfl | rfl | rfl, rfl⟩ <;> decide
theorem good_pl {al : Str} (h : GoodAl al) : al = Str.ofString "none" ∨ al ≠ Str.ofString "none" ∧ IsPlace (Txt.slice al (some 1) (some 4)) ∧ IsPlace (Txt.slice al (some 5) none) := by
  rcases h with rfl | ⟨p, q, h1, h2, rfl⟩
  · exact .inl rfl
  · refine .inr ?_
    have e1 : ∀ p q : Str, p ∈ [Str.ofString "Min", Str.ofString "Mid", Str.ofString "Max"] → q ∈ [Str.ofString "Min", Str.ofString "Mid", Str.ofString "Max"] → (Str.ofString "x" ++ p ++ Str.ofString "Y" ++ q ≠ Str.ofString "none" ∧ Txt.slice (Str.ofString "x" ++ p ++ Str.ofString "Y" ++ q) (some 1) (some 4) = p ∧ Txt.slice (Str.ofString "x" ++ p ++ Str.ofString "Y" ++ q) (some 5) none = q) := by
      have e0 : ∀ p ∈ [Str.ofString "Min", Str.ofString "Mid", Str.ofString "Max"], ∀ q ∈ [Str.ofString "Min", Str.ofString "Mid", Str.ofString "Max"], (Str.ofString "x" ++ p ++ Str.ofString "Y" ++ q ≠ Str.ofString "none" ∧ Txt.slice (Str.ofString "x" ++ p ++ Str.ofString "Y" ++ q) (some 1) (some 4) = p ∧ Txt.slice (Str.ofString "x" ++ p ++ Str.ofString "Y" ++ q) (some 5) none = q) := by decide +kernel
      exact fun p q a b => e0 p a q b
    have e := e1 p q (by rcases h1 with rfl | rfl | rfl <;> simp) (by rcases h2 with rfl | rfl | rfl <;> simp)
    exact ⟨e.1, by rw [e.2.1]; exact h1, by rw [e.2.2]; exact h2⟩
theorem good_mem {al : Str} (h : GoodAl al) : al ∈ goodP := by
  rcases h with rfl | ⟨p, q, rfl | rfl | rfl, rfl | rfl | rfl, rfl⟩ <;> decide +kernel
theorem words_K42_0 : True := by
  k_with_none
  k_with "subscriptTail" => (k_here; (with_reducible show wpAny _ _ (subscriptTail _ _ (Value.ref _) (Value.int 0 _)) _ _ _); k_dflt (refine' pa_item0 ?k1 ?k2 ?k3 ?_ ?k4; (case k1 => k_asm); (case k2 => k_asm); (case k3 => first | assumption | exact PA.more (by assumption) (by intro p hp; (repeat (first | (with_reducible exact hp) | refine List.mem_cons_of_mem _ ?_)))); (case k4 => with_unfolding_all rfl)); intro t9)
  k_with "subscriptTail" => (k_here; (with_reducible show wpAny _ _ (subscriptTail _ _ (Value.ref _) (Value.int 1 _)) _ _ _); k_dflt (refine' pa_item1 ?k1 ?k2 ?k3 ?_ ?k4; (case k1 => k_asm); (case k2 => k_asm); (case k3 => first | assumption | exact PA.more (by assumption) (by intro p hp; (repeat (first | (with_reducible exact hp) | refine List.mem_cons_of_mem _ ?_)))); (case k4 => with_unfolding_all rfl)); intro t9)
  k_with "compareOp Eq ref ref" => (k_here; (with_reducible show wpAny _ _ (compareOp CmpOp.Eq (Value.ref _) (Value.ref _)) _ _ _); (k_dflt refine eq_dataH (by ke_read) (by ke_read) (by (simp [SeqAt.shaped, PyData.canLay0, PyData.canLayAll0, PyData.depth, PyData.depthAll] <;> (repeat' (first | (with_reducible assumption) | decide +kernel | apply And.intro)))) (by (simp [SeqAt.shaped, PyData.canLay0, PyData.canLayAll0, PyData.depth, PyData.depthAll] <;> (repeat' (first | (with_reducible assumption) | decide +kernel | apply And.intro)))) (by ktr_units) ?_); (try (simp only [PyData.eqv, PyData.eqvAll, beq_self_eq_true, Bool.and_true, Bool.true_and, Bool.and_false, Bool.false_and, Bool.not_true, Bool.not_false, decide_true, decide_false, *])))
  k_with "compareOp NotEq ref ref" => (k_here; (with_reducible show wpAny _ _ (compareOp CmpOp.NotEq (Value.ref _) (Value.ref _)) _ _ _); (k_dflt refine ne_dataH (by ke_read) (by ke_read) (by (simp [SeqAt.shaped, PyData.canLay0, PyData.canLayAll0, PyData.depth, PyData.depthAll] <;> (repeat' (first | (with_reducible assumption) | decide +kernel | apply And.intro)))) (by (simp [SeqAt.shaped, PyData.canLay0, PyData.canLayAll0, PyData.depth, PyData.depthAll] <;> (repeat' (first | (with_reducible assumption) | decide +kernel | apply And.intro)))) (by ktr_units) ?_); (try (simp only [PyData.eqv, PyData.eqvAll, beq_self_eq_true, Bool.and_true, Bool.true_and, Bool.and_false, Bool.false_and, Bool.not_true, Bool.not_false, decide_true, decide_false, *])))
  k_with "compareOp NotIn ref ref" => (k_here; (with_reducible show wpAny _ _ (compareOp CmpOp.NotIn (Value.ref _) (Value.ref _)) _ _ _); (k_dflt refine PySem.SeqAt.notIn_tuple_reads (by ke_read) (by ke_read) (by (simp [SeqAt.shaped, PyData.canLay0, PyData.canLayAll0, PyData.depth, PyData.depthAll] <;> (repeat' (first | (with_reducible assumption) | decide +kernel | apply And.intro)))) (by (simp [SeqAt.shaped, PyData.canLay0, PyData.canLayAll0, PyData.depth, PyData.depthAll] <;> (repeat' (first | (with_reducible assumption) | decide +kernel | apply And.intro)))) (room_in_shaped (by (simp [SeqAt.shaped, PyData.canLay0, PyData.canLayAll0, PyData.depth, PyData.depthAll] <;> (repeat' (first | (with_reducible assumption) | decide +kernel | apply And.intro)))) (by ktr_units)) ?_); (try (simp only [PyData.eqv, PyData.eqvAll, beq_self_eq_true, Bool.and_true, Bool.true_and, Bool.and_false, Bool.false_and, Bool.not_true, Bool.not_false, decide_true, decide_false, *])); (try simp only [List.any_cons, List.any_nil, PyData.eqv, PyData.eqvAll]))
  k_with "call ref" => (k_here; (with_reducible show wpAny _ _ (call (Value.ref _) _) _ _ _); refine hold_in ?_)
  k_with "call ref" => (k_here; (with_reducible show wpAny _ _ (call (Value.ref 293) _) _ _ _); k_dflt (refine' c_fittedZ ?k1 ?k2 ?k3 ?k4 ?k5 ?kK ?kd ?ku ?p1 ?m1 ?m2 ?m3 ?m4 ?m5 ?m6 ?b1 ?b2 ?b3 ?b4 ?b5 ?b6 ?b7 ?b8 ?b9 ?ba ?bb ?bc ?hl ?hp ?_; (case k1 => k_asm); (case k2 => k_asm); (case k3 => k_asm); (case k4 => k_asm); (case k5 => k_asm); (case kK => first | exact rfl | assumption); (case kd => first | exact room_in (by assumption) (by exact rfl) | exact room_0 (by assumption) (by exact rfl) | ktr_room); (case ku => first | exact unit_3 (by assumption) (by exact rfl) | exact unit_4 (by assumption) (by exact rfl) | exact room_0 (by assumption) (by exact rfl) | ktr_units); (case p1 => k_mem); (case m1 => k_mem); (case m2 => k_mem); (case m3 => k_mem); (case m4 => k_mem); (case m5 => k_mem); (case m6 => k_mem); (case b1 => assumption); (case b2 => assumption); (case b3 => assumption); (case b4 => assumption); (case b5 => assumption); (case b6 => assumption); (case b7 => assumption); (case b8 => assumption); (case b9 => assumption); (case ba => assumption); (case bb => assumption); (case bc => assumption); (case hl => exact good_len (by assumption)); (case hp => exact good_pl (by assumption))); intro A9 D9 rE9 rF9 M9 dM9 q91 q92 qe9 qf9 qa9 qd9 t1 t2 t3 t4 t5 t6 t7 t8 t9 t10 t11 t12 t13 t14 c1 c2 c3 c4 h9 tk9 F9 N9 Pa9 Pd9 l9 o1 o2 o3 o4 o5 bA9 bD9 bE9 bF9 fit9; (try simp only [fitL] at N9 Pa9 Pd9); (try dsimp only); (try k_sweep); (try k_fold))
  k_with "call ref" => (k_here; (with_reducible show wpAny _ _ (call (Value.ref 221) _) _ _ _); k_dflt (refine' c_pointZ ?k1 ?k2 ?k3 ?k4 ?k5 ?kK ?kd ?ku ?p1 ?p2 ?p3 ?pa ?pd ?m1 ?m2 ?m3 ?m4 ?b1 ?b2 ?b3 ?b4 ?b5 ?b6 ?b7 ?b8 ?_; (case k1 => k_asm); (case k2 => k_asm); (case k3 => k_asm); (case k4 => k_asm); (case k5 => k_asm); (case kK => first | exact rfl | assumption); (case kd => first | exact room_in (by assumption) (by exact rfl) | exact room_0 (by assumption) (by exact rfl) | ktr_room); (case ku => first | exact unit_3 (by assumption) (by exact rfl) | exact unit_4 (by assumption) (by exact rfl) | exact room_0 (by assumption) (by exact rfl) | ktr_units); (case p1 => k_mem); (case p2 => k_mem); (case p3 => k_mem); (case pa => first | (with_reducible assumption) | exact PA.more (by with_reducible assumption) (by intro p hp; (repeat (first | (with_reducible exact hp) | refine List.mem_cons_of_mem _ ?_)))); (case pd => first | (with_reducible assumption) | exact PA.more (by with_reducible assumption) (by intro p hp; (repeat (first | (with_reducible exact hp) | refine List.mem_cons_of_mem _ ?_)))); (case m1 => k_mem); (case m2 => k_mem); (case m3 => k_mem); (case m4 => k_mem); (case b1 => with_reducible assumption); (case b2 => with_reducible assumption); (case b3 => with_reducible assumption); (case b4 => with_reducible assumption); (case b5 => omega); (case b6 => omega); (case b7 => omega); (case b8 => omega)); intro q9 q8 q7 u1 u2 u3 u4 c1 c2 c3 h9 tk9 F9 N9 o1 o2 l8; (try dsimp only); (try k_sweep); (try k_fold))
  k_with "execs cons" => (k_here; (with_reducible show wpAny _ _ (execs (Stmt.If (Expr.UnaryOp _ _ _) _ _ _ :: _) _) _ _ _); refine hold_in ?_)
  trivial
section
variable {w : World} {mean : ExcName → Option Value} {mg mb : Str → Option Value} {nm : Str} {sc : Scope} {fa : Addr} {cdv : Value} {base h₀ : Heap} {L : Addr} {s : Shared} {E : Value → Shared → Prop} {Q : Flow → Shared → Prop} {bd : List Stmt}
variable {src : Addr} {a b x y bw bh W H : Int} {ta tb tx ty tbw tbh tW tH tal : Tok} {n : Nat} {al : Str} {sl : Bool} {m₀ : Str → Option Value}
theorem lawB (hbd : bd = (bodyAt w.params 354).drop 7) (hsc : sc = scopeAt w.params 354) (B : Below callerA base [] h₀) (F : Fr h₀ L s.heap (fun z => if z = Str.ofString "is_slice" then some (.bool sl) else (fun z => if z = Str.ofString "align" then some (.str al tal) else (fun z => if z = Str.ofString "width" then some (.int W tW) else (fun z => if z = Str.ofString "height" then some (.int H tH) else (fun z => if z = Str.ofString "across" then some (.int bw tbw) else (fun z => if z = Str.ofString "down" then some (.int bh tbh) else (fun z => if z = Str.ofString "x" then some (.int x tx) else (fun z => if z = Str.ofString "y" then some (.int y ty) else (fun z => if z = Str.ofString "source" then some (.ref src) else (m₀) z) z) z) z) z) z) z) z) z)) (X : Frag.In (hd.heap_39 w.params) h₀) (N : News h₀ L s.heap [(src, srcO a b ta tb n)]) (T : Top hd.view_39 LO mean mg mb h₀) (x1 : -4 ≤ x) (x2 : x ≤ 4) (y1 : -4 ≤ y) (y2 : y ≤ 4) (a1 : 0 < bw) (a2 : bw ≤ 6) (b1 : 0 < bh) (b2 : bh ≤ 6) (w1 : 0 < W) (w2 : W ≤ 8) (h1 : 0 < H) (h2 : H ≤ 8) (hal : GoodAl al)
   (hmid : ∀ (A D rE rF : Rat) ql qt qr qb qM qbox g1 g2 g3 g4 i1 i2 i3 i4 e1 e2 e3 e4 h' tk', FitS ((x : Int) : Rat) ((y : Int) : Rat) ((bw : Int) : Rat) ((bh : Int) : Rat) ((W : Int) : Rat) ((H : Int) : Rat) A D rE rF al sl → BdN 8 6 A → BdN 8 6 D → BdN 960 72 rE → BdN 960 72 rF → Fr h₀ L h' (fun z => if z = Str.ofString "bottom" then some (.ref qb) else (fun z => if z = Str.ofString "right" then some (.ref qr) else (fun z => if z = Str.ofString "top" then some (.ref qt) else (fun z => if z = Str.ofString "left" then some (.ref ql) else (fun z => if z = Str.ofString "matrix" then some (.ref qM) else (fun z => if z = Str.ofString "box" then some (.ref qbox) else (fun z => if z = Str.ofString "is_slice" then some (.bool sl) else (fun z => if z = Str.ofString "align" then some (.str al tal) else (fun z => if z = Str.ofString "width" then some (.int W tW) else (fun z => if z = Str.ofString "height" then some (.int H tH) else (fun z => if z = Str.ofString "across" then some (.int bw tbw) else (fun z => if z = Str.ofString "down" then some (.int bh tbh) else (fun z => if z = Str.ofString "x" then some (.int x tx) else (fun z => if z = Str.ofString "y" then some (.int y ty) else (fun z => if z = Str.ofString "source" then some (.ref src) else (m₀) z) z) z) z) z) z) z) z) z) z) z) z) z) z) z) → News h₀ L h' [(ql, tupO #[.int (A * ((x : Int) : Rat) + rE).num g1, .int ((A * ((x : Int) : Rat) + rE).den : Int) i1] e1), (qt, tupO #[.int (D * ((y : Int) : Rat) + rF).num g2, .int ((D * ((y : Int) : Rat) + rF).den : Int) i2] e2), (qr, tupO #[.int (A * ((x + bw : Int) : Rat) + rE).num g3, .int ((A * ((x + bw : Int) : Rat) + rE).den : Int) i3] e3), (qb, tupO #[.int (D * ((y + bh : Int) : Rat) + rF).num g4, .int ((D * ((y + bh : Int) : Rat) + rF).den : Int) i4] e4), (src, srcO a b ta tb n)] → @Ne Nat ql src → @Ne Nat qt src → @Ne Nat qr src → @Ne Nat qb src → wpAny (model PySem.Challenge.rw_nu0023_01.row.toRowW.prog w) (callerA.deeper (envOf nm sc L fa cdv)) (execs (bd.drop 5) (envOf nm sc L fa cdv)) Q E { s with heap := h', toks := tk' }) :
   wpAny (model PySem.Challenge.rw_nu0023_01.row.toRowW.prog w) (callerA.deeper (envOf nm sc L fa cdv)) (execs bd (envOf nm sc L fa cdv)) Q E s := by
  conv at hbd => rhs; whnf
  conv at hsc => rhs; whnf
  subst hbd; subst hsc
  revert X; k_fill; intro X
  k_steps
  refine' hmid _ _ _ _ _ _ _ _ _ _ _ _ _ _ _ _ _ _ _ _ _ _ _ _ ?zq1 ?zq2 ?zq3 ?zq4 ?zq5 ?zF ?zN ?zn1 ?zn2 ?zn3 ?zn4
  case zF => assumption
  case zq1 => assumption
  case zN =>
    refine news_sub (by assumption) ?_
    intro p hp
    simp only [List.mem_cons, List.not_mem_nil, or_false] at hp
    rcases hp with rfl | rfl | rfl | rfl | rfl <;> (repeat (first | exact List.mem_cons_self | refine List.mem_cons_of_mem _ ?_))
  case zq2 => assumption
  case zq3 => assumption
  case zq4 => assumption
  case zq5 => assumption
  all_goals (simp only [AllLt] at *; omega)
end
end Mine
namespace Mine
theorem part_end_K42 : True := by
  w_top off
  trivial
end Mine

-- part K43
namespace Mine
theorem words_K43_0 : True := by
  k_with_none
  k_with "subscriptTail" => (k_here; (with_reducible show wpAny _ _ (subscriptTail _ _ (Value.ref _) (Value.int 0 _)) _ _ _); k_dflt (refine' pa_item0 ?k1 ?k2 ?k3 ?_ ?k4; (case k1 => k_asm); (case k2 => k_asm); (case k3 => first | assumption | exact PA.more (by assumption) (by intro p hp; (repeat (first | (with_reducible exact hp) | refine List.mem_cons_of_mem _ ?_)))); (case k4 => with_unfolding_all rfl)); intro t9)
  k_with "subscriptTail" => (k_here; (with_reducible show wpAny _ _ (subscriptTail _ _ (Value.ref _) (Value.int 1 _)) _ _ _); k_dflt (refine' pa_item1 ?k1 ?k2 ?k3 ?_ ?k4; (case k1 => k_asm); (case k2 => k_asm); (case k3 => first | assumption | exact PA.more (by assumption) (by intro p hp; (repeat (first | (with_reducible exact hp) | refine List.mem_cons_of_mem _ ?_)))); (case k4 => with_unfolding_all rfl)); intro t9)
  k_with "call ref" => (k_here; (with_reducible show wpAny _ _ (call (Value.ref _) _) _ _ _); refine hold_in ?_)
  k_with "call ref" => (k_here; (with_reducible show wpAny _ _ (call (Value.ref 347) _) _ _ _); k_dflt (refine' c_texts ?k1 ?k2 ?k3 ?k4 ?k5 ?kK ?kd ?ku ?XB ?TB ?DD ?T0 ?U ?z1 ?z2 ?z3 ?hbx ?hbg ?j1 ?j2 ?j3 ?j4 ?j5 ?j6 ?j7 ?j8 ?hal rB0 rB1 rB2 rB3 rB4 rB5 rF0 rF1 rF2 rF3 rF4 rF5 ?_; (case k1 => k_asm); (case k2 => k_asm); (case k3 => k_asm); (case k4 => k_asm); (case k5 => k_asm); (case kK => first | exact rfl | assumption); (case kd => first | exact room_in (by assumption) (by exact rfl) | exact room_0 (by assumption) (by exact rfl) | ktr_room); (case ku => first | exact unit_3 (by assumption) (by exact rfl) | exact unit_4 (by assumption) (by exact rfl) | exact room_0 (by assumption) (by exact rfl) | ktr_units); (case XB => assumption); (case TB => assumption); (case DD => exact ktsDicts_nil); (case T0 => exact KtsTurn.refl); (case U => k_updF); (case z1 => assumption); (case z2 => assumption); (case z3 => assumption); (case hbx => k_mem); (case hbg => (intro o'; (try dsimp only); with_reducible (repeat (first | exact List.mem_cons_self | apply List.mem_cons_of_mem)))); (case j1 => omega); (case j2 => omega); (case j3 => omega); (case j4 => omega); (case j5 => omega); (case j6 => omega); (case j7 => omega); (case j8 => omega); (case hal => exact good_mem (by assumption))); intro gg9 x9 b9 ta9 tb9 n9 h9 tk9 q91 q92 q93 T9 F9 N9 B9 X9 P9 D9; (try dsimp only at N9); (try dsimp only); (try k_sweep); (try k_fold))
  k_with "execs cons" => (k_here; (with_reducible show wpAny _ _ (execs (Stmt.If (Expr.Compare _ _ _ _) _ _ _ :: _) _) _ _ _); refine hold_in ?_)
  trivial
section
variable {w : World} {mean : ExcName → Option Value} {mg mb : Str → Option Value} {nm : Str} {sc : Scope} {fa : Addr} {cdv : Value} {base h₀ : Heap} {L : Addr} {s : Shared} {E : Value → Shared → Prop} {Q : Flow → Shared → Prop} {bd : List Stmt}
variable {src : Addr} {a b x y bw bh W H : Int} {ta tb tx ty tbw tbh tW tH tal : Tok} {n : Nat} {al : Str} {sl : Bool} {m₀ : Str → Option Value}
variable {A D rE rF : Rat} {ql qt qr qb qM qbox : Addr} {g1 g2 g3 g4 i1 i2 i3 i4 : Tok} {e1 e2 e3 e4 : Nat}
theorem lawC (hbd : bd = (bodyAt w.params 354).drop 12) (hsc : sc = scopeAt w.params 354) (B : Below callerA base [] h₀) (F : Fr h₀ L s.heap (fun z => if z = Str.ofString "bottom" then some (.ref qb) else (fun z => if z = Str.ofString "right" then some (.ref qr) else (fun z => if z = Str.ofString "top" then some (.ref qt) else (fun z => if z = Str.ofString "left" then some (.ref ql) else (fun z => if z = Str.ofString "matrix" then some (.ref qM) else (fun z => if z = Str.ofString "box" then some (.ref qbox) else (fun z => if z = Str.ofString "is_slice" then some (.bool sl) else (fun z => if z = Str.ofString "align" then some (.str al tal) else (fun z => if z = Str.ofString "width" then some (.int W tW) else (fun z => if z = Str.ofString "height" then some (.int H tH) else (fun z => if z = Str.ofString "across" then some (.int bw tbw) else (fun z => if z = Str.ofString "down" then some (.int bh tbh) else (fun z => if z = Str.ofString "x" then some (.int x tx) else (fun z => if z = Str.ofString "y" then some (.int y ty) else (fun z => if z = Str.ofString "source" then some (.ref src) else (m₀) z) z) z) z) z) z) z) z) z) z) z) z) z) z) z)) (X : Frag.In (hd.heap_39 w.params) h₀) (N : News h₀ L s.heap [(ql, tupO #[.int (A * ((x : Int) : Rat) + rE).num g1, .int ((A * ((x : Int) : Rat) + rE).den : Int) i1] e1), (qt, tupO #[.int (D * ((y : Int) : Rat) + rF).num g2, .int ((D * ((y : Int) : Rat) + rF).den : Int) i2] e2), (qr, tupO #[.int (A * ((x + bw : Int) : Rat) + rE).num g3, .int ((A * ((x + bw : Int) : Rat) + rE).den : Int) i3] e3), (qb, tupO #[.int (D * ((y + bh : Int) : Rat) + rF).num g4, .int ((D * ((y + bh : Int) : Rat) + rF).den : Int) i4] e4), (src, srcO a b ta tb n)]) (T : Top hd.view_39 LO mean mg mb h₀) (x1 : -4 ≤ x) (x2 : x ≤ 4) (y1 : -4 ≤ y) (y2 : y ≤ 4) (a1 : 0 < bw) (a2 : bw ≤ 6) (b1 : 0 < bh) (b2 : bh ≤ 6) (w1 : 0 < W) (w2 : W ≤ 8) (h1 : 0 < H) (h2 : H ≤ 8) (hal : GoodAl al) (XB : Frag.In (hd.heap_39 w.params) base) (TB : Top hd.view_39 LO mean mg mb base) (q1 : 0 ≤ a) (q2 : 0 ≤ b) (q3 : b < 2147483647) (ns1 : @Ne Nat ql src) (ns2 : @Ne Nat qt src) (ns3 : @Ne Nat qr src) (ns4 : @Ne Nat qb src)
   (hmid : ∀ g₁ h' tk', Below callerA base [] g₁ → Fr g₁ L h' (fun z => if z = Str.ofString "bottom" then some (.ref qb) else (fun z => if z = Str.ofString "right" then some (.ref qr) else (fun z => if z = Str.ofString "top" then some (.ref qt) else (fun z => if z = Str.ofString "left" then some (.ref ql) else (fun z => if z = Str.ofString "matrix" then some (.ref qM) else (fun z => if z = Str.ofString "box" then some (.ref qbox) else (fun z => if z = Str.ofString "is_slice" then some (.bool sl) else (fun z => if z = Str.ofString "align" then some (.str al tal) else (fun z => if z = Str.ofString "width" then some (.int W tW) else (fun z => if z = Str.ofString "height" then some (.int H tH) else (fun z => if z = Str.ofString "across" then some (.int bw tbw) else (fun z => if z = Str.ofString "down" then some (.int bh tbh) else (fun z => if z = Str.ofString "x" then some (.int x tx) else (fun z => if z = Str.ofString "y" then some (.int y ty) else (fun z => if z = Str.ofString "source" then some (.ref src) else (m₀) z) z) z) z) z) z) z) z) z) z) z) z) z) z) z) → Frag.In (hd.heap_39 w.params) g₁ → News g₁ L h' [(ql, tupO #[.int (A * ((x : Int) : Rat) + rE).num g1, .int ((A * ((x : Int) : Rat) + rE).den : Int) i1] e1), (qt, tupO #[.int (D * ((y : Int) : Rat) + rF).num g2, .int ((D * ((y : Int) : Rat) + rF).den : Int) i2] e2), (qr, tupO #[.int (A * ((x + bw : Int) : Rat) + rE).num g3, .int ((A * ((x + bw : Int) : Rat) + rE).den : Int) i3] e3), (qb, tupO #[.int (D * ((y + bh : Int) : Rat) + rF).num g4, .int ((D * ((y + bh : Int) : Rat) + rF).den : Int) i4] e4)] → Top hd.view_39 LO mean mg mb g₁ → wpAny (model PySem.Challenge.rw_nu0023_01.row.toRowW.prog w) (callerA.deeper (envOf nm sc L fa cdv)) (execs (bd.drop 1) (envOf nm sc L fa cdv)) Q E { s with heap := h', toks := tk' }) :
   wpAny (model PySem.Challenge.rw_nu0023_01.row.toRowW.prog w) (callerA.deeper (envOf nm sc L fa cdv)) (execs bd (envOf nm sc L fa cdv)) Q E s := by
  conv at hbd => rhs; whnf
  conv at hsc => rhs; whnf
  subst hbd; subst hsc
  revert X; k_fill; intro X
  k_steps
  refine' hmid _ _ _ ?zB ?zF ?zX ?zN ?zT
  case zF => assumption
  case zB => assumption
  case zX => assumption
  case zT => assumption
  case zN =>
    refine news_sub (by assumption) ?_
    intro p hp
    simp only [List.mem_cons, List.not_mem_nil, or_false] at hp
    rcases hp with rfl | rfl | rfl | rfl <;> (repeat (first | exact List.mem_cons_self | refine List.mem_cons_of_mem _ ?_))
end
end Mine
namespace Mine
theorem part_end_K43 : True := by
  w_top off
  trivial
end Mine

-- part K44
namespace Mine
noncomputable def Sm (e : Int) : Prop := e.natAbs < 9000000000000000000
noncomputable def Eqv (x y : Int) : Prop := x = y
section
variable {w : World} {mean : ExcName → Option Value} {mg mb : Str → Option Value} {dp un : Nat} {gd : Option (List Code)} {cn : Str} {cs : Scope} {a : Addr} {ccd : Value} {cl : List (Str × Addr)} {outer : List Env} {A₀ : Around} {base h₀ : Heap} {L : Addr} {m : Str → Option Value} {news : List (Addr × Obj)} {s : Shared} {Q E : Value → Shared → Prop}
theorem c_lessV {x1 y1 x2 y2 v u : Int} {qa qb : Addr} (B : Below A₀ base outer h₀) (F : Fr h₀ L s.heap m) (X : Frag.In (hd.heap_39 w.params) h₀) (N : News h₀ L s.heap news) (T : Top hd.view_39 LO mean mg mb h₀) (hk : cs.kind = .function) (hdp : dp + 1 < recursionLimit) (hun : un + 8 < cLine) (Pa : PA h₀ news qa x1 y1) (Pb : PA h₀ news qb x2 y2)
   (hx1 : x1.natAbs < 9000000000000000000) (hx2 : x2.natAbs < 9000000000000000000) (hy1 : y1.natAbs < 9000000000000000000) (ev : Eqv (x1 * y2 - x2 * y1) v) (eu : Eqv (y1 * y2) u)
   (hret : ∀ D t1 t2 c h' tk', Fr h₀ L h' m → News h₀ L h' ((D, tupO #[.int v t1, .int u t2] c) :: news) → AllLt D news → Q (.ref D) { s with heap := h', toks := tk' }) :
   wpAny (model PySem.Challenge.rw_nu0023_01.row.toRowW.prog w) (ktrTop dp un gd cn cs L a ccd cl outer) (call (.ref 321) [.ref qa, .ref qb]) Q E s := by
  unfold Eqv at ev eu
  subst ev; subst eu
  exact c_less B F X N T hk hdp hun Pa Pb hx1 hx2 hy1 hret
end
theorem words_K44_0 : True := by
  k_with_none
  k_with "subscriptTail" => (k_here; (with_reducible show wpAny _ _ (subscriptTail _ _ (Value.ref _) (Value.int 0 _)) _ _ _); k_dflt (refine' pa_item0 ?k1 ?k2 ?k3 ?_ ?k4; (case k1 => k_asm); (case k2 => k_asm); (case k3 => first | assumption | exact PA.more (by assumption) (by intro p hp; (repeat (first | (with_reducible exact hp) | refine List.mem_cons_of_mem _ ?_)))); (case k4 => with_unfolding_all rfl)); intro t9)
  k_with "subscriptTail" => (k_here; (with_reducible show wpAny _ _ (subscriptTail _ _ (Value.ref _) (Value.int 1 _)) _ _ _); k_dflt (refine' pa_item1 ?k1 ?k2 ?k3 ?_ ?k4; (case k1 => k_asm); (case k2 => k_asm); (case k3 => first | assumption | exact PA.more (by assumption) (by intro p hp; (repeat (first | (with_reducible exact hp) | refine List.mem_cons_of_mem _ ?_)))); (case k4 => with_unfolding_all rfl)); intro t9)
  k_with "compareOp Eq ref ref" => (k_here; (with_reducible show wpAny _ _ (compareOp CmpOp.Eq (Value.ref _) (Value.ref _)) _ _ _); (k_dflt refine eq_dataH (by ke_read) (by ke_read) (by (simp [SeqAt.shaped, PyData.canLay0, PyData.canLayAll0, PyData.depth, PyData.depthAll] <;> (repeat' (first | (with_reducible assumption) | decide +kernel | apply And.intro)))) (by (simp [SeqAt.shaped, PyData.canLay0, PyData.canLayAll0, PyData.depth, PyData.depthAll] <;> (repeat' (first | (with_reducible assumption) | decide +kernel | apply And.intro)))) (by ktr_units) ?_); (try (simp only [PyData.eqv, PyData.eqvAll, beq_self_eq_true, Bool.and_true, Bool.true_and, Bool.and_false, Bool.false_and, Bool.not_true, Bool.not_false, decide_true, decide_false, *])))
  k_with "compareOp NotEq ref ref" => (k_here; (with_reducible show wpAny _ _ (compareOp CmpOp.NotEq (Value.ref _) (Value.ref _)) _ _ _); (k_dflt refine ne_dataH (by ke_read) (by ke_read) (by (simp [SeqAt.shaped, PyData.canLay0, PyData.canLayAll0, PyData.depth, PyData.depthAll] <;> (repeat' (first | (with_reducible assumption) | decide +kernel | apply And.intro)))) (by (simp [SeqAt.shaped, PyData.canLay0, PyData.canLayAll0, PyData.depth, PyData.depthAll] <;> (repeat' (first | (with_reducible assumption) | decide +kernel | apply And.intro)))) (by ktr_units) ?_); (try (simp only [PyData.eqv, PyData.eqvAll, beq_self_eq_true, Bool.and_true, Bool.true_and, Bool.and_false, Bool.false_and, Bool.not_true, Bool.not_false, decide_true, decide_false, *])))
  k_with "compareOp NotIn ref ref" => (k_here; (with_reducible show wpAny _ _ (compareOp CmpOp.NotIn (Value.ref _) (Value.ref _)) _ _ _); (k_dflt refine PySem.SeqAt.notIn_tuple_reads (by ke_read) (by ke_read) (by (simp [SeqAt.shaped, PyData.canLay0, PyData.canLayAll0, PyData.depth, PyData.depthAll] <;> (repeat' (first | (with_reducible assumption) | decide +kernel | apply And.intro)))) (by (simp [SeqAt.shaped, PyData.canLay0, PyData.canLayAll0, PyData.depth, PyData.depthAll] <;> (repeat' (first | (with_reducible assumption) | decide +kernel | apply And.intro)))) (room_in_shaped (by (simp [SeqAt.shaped, PyData.canLay0, PyData.canLayAll0, PyData.depth, PyData.depthAll] <;> (repeat' (first | (with_reducible assumption) | decide +kernel | apply And.intro)))) (by ktr_units)) ?_); (try (simp only [PyData.eqv, PyData.eqvAll, beq_self_eq_true, Bool.and_true, Bool.true_and, Bool.and_false, Bool.false_and, Bool.not_true, Bool.not_false, decide_true, decide_false, *])); (try simp only [List.any_cons, List.any_nil, PyData.eqv, PyData.eqvAll]))
  k_with "call ref" => (k_here; (with_reducible show wpAny _ _ (call (Value.ref _) _) _ _ _); refine hold_in ?_)
  k_with "call ref" => (k_here; (with_reducible show wpAny _ _ (call (Value.ref 321) _) _ _ _); k_dflt (refine' c_lessV ?k1 ?k2 ?k3 ?k4 ?k5 ?kK ?kd ?ku ?p1 ?p2 ?p3 ?p4 ?p5 ?p6 ?p7 ?_; (case k1 => k_asm); (case k2 => k_asm); (case k3 => k_asm); (case k4 => k_asm); (case k5 => k_asm); (case kK => first | exact rfl | assumption); (case kd => first | exact room_in (by assumption) (by exact rfl) | exact room_0 (by assumption) (by exact rfl) | ktr_room); (case ku => first | exact unit_3 (by assumption) (by exact rfl) | exact unit_4 (by assumption) (by exact rfl) | exact room_0 (by assumption) (by exact rfl) | ktr_units); (case p1 => exact PA.mem (by k_mem)); (case p2 => exact PA.mem (by k_mem)); (case p3 => exact (show Sm _ by with_reducible assumption)); (case p4 => exact (show Sm _ by with_reducible assumption)); (case p5 => exact (show Sm _ by with_reducible assumption)); (case p6 => with_reducible assumption); (case p7 => with_reducible assumption)); intro D9 t9 t8 c9 h9 tk9 F9 N9 l9; (try replace l9 := allLt_hd l9); (try dsimp only); (try k_sweep); (try k_fold))
  k_with "call ref" => (k_here; (with_reducible show wpAny _ _ (call (Value.ref 335) _) _ _ _); k_dflt (refine' c_rest ?k1 ?k2 ?k3 ?k4 ?k5 ?kK ?kd ?ku ?p1 ?p2 ?p3 ?p4 ?p5 ?p6 ?p7 ?g1 ?g2 ?g3 ?_; (case k1 => k_asm); (case k2 => k_asm); (case k3 => k_asm); (case k4 => k_asm); (case k5 => k_asm); (case kK => first | exact rfl | assumption); (case kd => first | exact room_in (by assumption) (by exact rfl) | exact room_0 (by assumption) (by exact rfl) | ktr_room); (case ku => first | exact unit_3 (by assumption) (by exact rfl) | exact unit_4 (by assumption) (by exact rfl) | exact room_0 (by assumption) (by exact rfl) | ktr_units); (case p1 => exact PA.mem (by k_mem)); (case p2 => exact PA.mem (by k_mem)); (case p3 => with_reducible assumption); (case p4 => exact (show Sm _ by with_reducible assumption)); (case p5 => exact (show Sm _ by with_reducible assumption)); (case p6 => exact (show Sm _ by with_reducible assumption)); (case p7 => exact (show Sm _ by with_reducible assumption)); (case g1 => with_reducible assumption); (case g2 => with_reducible assumption); (case g3 => with_reducible assumption)); intro h9 tk9 F9 N9; (try dsimp only); (try k_sweep); (try k_fold))
  k_with "binaryOp Mult int int" => (k_here; k_dflt (refine PyProof.Rows.mul_int ?_ (mulB (by exact (show Sm _ by with_reducible assumption)))))
  trivial
section
variable {w : World} {mean : ExcName → Option Value} {mg mb : Str → Option Value} {nm : Str} {sc : Scope} {fa : Addr} {cdv : Value} {base h₀ : Heap} {L : Addr} {s : Shared} {E : Value → Shared → Prop} {Q : Flow → Shared → Prop} {bd : List Stmt}
variable {src : Addr} {a b x y bw bh W H : Int} {ta tb tx ty tbw tbh tW tH tal : Tok} {n : Nat} {al : Str} {sl : Bool} {m₀ : Str → Option Value}
variable {A D rE rF : Rat} {ql qt qr qb qM qbox : Addr} {g1 g2 g3 g4 i1 i2 i3 i4 : Tok} {e1 e2 e3 e4 : Nat}
variable {ln ld tn td rn rd bn bd' v0 v1 z0 z1 ov ab : Int}
theorem lawD1 (hbd : bd = (bodyAt w.params 354).drop 13) (hsc : sc = scopeAt w.params 354) (B : Below callerA base [] h₀) (F : Fr h₀ L s.heap (fun z => if z = Str.ofString "bottom" then some (.ref qb) else (fun z => if z = Str.ofString "right" then some (.ref qr) else (fun z => if z = Str.ofString "top" then some (.ref qt) else (fun z => if z = Str.ofString "left" then some (.ref ql) else (fun z => if z = Str.ofString "matrix" then some (.ref qM) else (fun z => if z = Str.ofString "box" then some (.ref qbox) else (fun z => if z = Str.ofString "is_slice" then some (.bool sl) else (fun z => if z = Str.ofString "align" then some (.str (Str.ofString "none") tal) else (fun z => if z = Str.ofString "width" then some (.int W tW) else (fun z => if z = Str.ofString "height" then some (.int H tH) else (fun z => if z = Str.ofString "across" then some (.int bw tbw) else (fun z => if z = Str.ofString "down" then some (.int bh tbh) else (fun z => if z = Str.ofString "x" then some (.int x tx) else (fun z => if z = Str.ofString "y" then some (.int y ty) else (fun z => if z = Str.ofString "source" then some (.ref src) else (m₀) z) z) z) z) z) z) z) z) z) z) z) z) z) z) z)) (X : Frag.In (hd.heap_39 w.params) h₀) (N : News h₀ L s.heap [(ql, tupO #[.int (0) g1, .int (1) i1] e1), (qt, tupO #[.int (0) g2, .int (1) i2] e2), (qr, tupO #[.int (W) g3, .int (1) i3] e3), (qb, tupO #[.int (H) g4, .int (1) i4] e4)]) (T : Top hd.view_39 LO mean mg mb h₀)
   (hfin : ∀ h' tk', (∀ b o, h₀.get? b = some o → h'.get? b = some o) → Q (.ret (.bool true)) { s with heap := h', toks := tk' }) :
   wpAny (model PySem.Challenge.rw_nu0023_01.row.toRowW.prog w) (callerA.deeper (envOf nm sc L fa cdv)) (execs bd (envOf nm sc L fa cdv)) Q E s := by
  conv at hbd => rhs; whnf
  conv at hsc => rhs; whnf
  subst hbd; subst hsc
  revert X; k_fill; intro X
  k_steps
  exact hfin _ _ (Fr.keep (by assumption))
end
end Mine
namespace Mine
theorem part_end_K44 : True := by
  w_top off
  trivial
end Mine

-- part K45
namespace Mine
theorem ne_no {prog : Program} {w : World} {A : Around} {E : Value → Shared → Prop} {s : Shared} {x y : Int} {t u : Tok} {Q : Value → Shared → Prop} (e : x = y) (h : Q (.bool false) s) : wpAny (model prog w) A (compareOp .NotEq (.int x t) (.int y u)) Q E s :=
  PyProof.Rows.ne_int (by rw [e, bne_self_eq_false]; exact h)
theorem words_K45_0 : True := by
  k_with_none
  k_with "subscriptTail" => (k_here; (with_reducible show wpAny _ _ (subscriptTail _ _ (Value.ref _) (Value.int 0 _)) _ _ _); k_dflt (refine' pa_item0 ?k1 ?k2 ?k3 ?_ ?k4; (case k1 => k_asm); (case k2 => k_asm); (case k3 => first | assumption | exact PA.more (by assumption) (by intro p hp; (repeat (first | (with_reducible exact hp) | refine List.mem_cons_of_mem _ ?_)))); (case k4 => with_unfolding_all rfl)); intro t9)
  k_with "subscriptTail" => (k_here; (with_reducible show wpAny _ _ (subscriptTail _ _ (Value.ref _) (Value.int 1 _)) _ _ _); k_dflt (refine' pa_item1 ?k1 ?k2 ?k3 ?_ ?k4; (case k1 => k_asm); (case k2 => k_asm); (case k3 => first | assumption | exact PA.more (by assumption) (by intro p hp; (repeat (first | (with_reducible exact hp) | refine List.mem_cons_of_mem _ ?_)))); (case k4 => with_unfolding_all rfl)); intro t9)
  k_with "compareOp Eq ref ref" => (k_here; (with_reducible show wpAny _ _ (compareOp CmpOp.Eq (Value.ref _) (Value.ref _)) _ _ _); (k_dflt refine eq_dataH (by ke_read) (by ke_read) (by (simp [SeqAt.shaped, PyData.canLay0, PyData.canLayAll0, PyData.depth, PyData.depthAll] <;> (repeat' (first | (with_reducible assumption) | decide +kernel | apply And.intro)))) (by (simp [SeqAt.shaped, PyData.canLay0, PyData.canLayAll0, PyData.depth, PyData.depthAll] <;> (repeat' (first | (with_reducible assumption) | decide +kernel | apply And.intro)))) (by ktr_units) ?_); (try (simp only [PyData.eqv, PyData.eqvAll, beq_self_eq_true, Bool.and_true, Bool.true_and, Bool.and_false, Bool.false_and, Bool.not_true, Bool.not_false, decide_true, decide_false, *])))
  k_with "compareOp NotEq ref ref" => (k_here; (with_reducible show wpAny _ _ (compareOp CmpOp.NotEq (Value.ref _) (Value.ref _)) _ _ _); (k_dflt refine ne_dataH (by ke_read) (by ke_read) (by (simp [SeqAt.shaped, PyData.canLay0, PyData.canLayAll0, PyData.depth, PyData.depthAll] <;> (repeat' (first | (with_reducible assumption) | decide +kernel | apply And.intro)))) (by (simp [SeqAt.shaped, PyData.canLay0, PyData.canLayAll0, PyData.depth, PyData.depthAll] <;> (repeat' (first | (with_reducible assumption) | decide +kernel | apply And.intro)))) (by ktr_units) ?_); (try (simp only [PyData.eqv, PyData.eqvAll, beq_self_eq_true, Bool.and_true, Bool.true_and, Bool.and_false, Bool.false_and, Bool.not_true, Bool.not_false, decide_true, decide_false, *])))
  k_with "compareOp NotIn ref ref" => (k_here; (with_reducible show wpAny _ _ (compareOp CmpOp.NotIn (Value.ref _) (Value.ref _)) _ _ _); (k_dflt refine PySem.SeqAt.notIn_tuple_reads (by ke_read) (by ke_read) (by (simp [SeqAt.shaped, PyData.canLay0, PyData.canLayAll0, PyData.depth, PyData.depthAll] <;> (repeat' (first | (with_reducible assumption) | decide +kernel | apply And.intro)))) (by (simp [SeqAt.shaped, PyData.canLay0, PyData.canLayAll0, PyData.depth, PyData.depthAll] <;> (repeat' (first | (with_reducible assumption) | decide +kernel | apply And.intro)))) (room_in_shaped (by (simp [SeqAt.shaped, PyData.canLay0, PyData.canLayAll0, PyData.depth, PyData.depthAll] <;> (repeat' (first | (with_reducible assumption) | decide +kernel | apply And.intro)))) (by ktr_units)) ?_); (try (simp only [PyData.eqv, PyData.eqvAll, beq_self_eq_true, Bool.and_true, Bool.true_and, Bool.and_false, Bool.false_and, Bool.not_true, Bool.not_false, decide_true, decide_false, *])); (try simp only [List.any_cons, List.any_nil, PyData.eqv, PyData.eqvAll]))
  k_with "call ref" => (k_here; (with_reducible show wpAny _ _ (call (Value.ref _) _) _ _ _); refine hold_in ?_)
  k_with "call ref" => (k_here; (with_reducible show wpAny _ _ (call (Value.ref 321) _) _ _ _); k_dflt (refine' c_lessV ?k1 ?k2 ?k3 ?k4 ?k5 ?kK ?kd ?ku ?p1 ?p2 ?p3 ?p4 ?p5 ?p6 ?p7 ?_; (case k1 => k_asm); (case k2 => k_asm); (case k3 => k_asm); (case k4 => k_asm); (case k5 => k_asm); (case kK => first | exact rfl | assumption); (case kd => first | exact room_in (by assumption) (by exact rfl) | exact room_0 (by assumption) (by exact rfl) | ktr_room); (case ku => first | exact unit_3 (by assumption) (by exact rfl) | exact unit_4 (by assumption) (by exact rfl) | exact room_0 (by assumption) (by exact rfl) | ktr_units); (case p1 => exact PA.mem (by k_mem)); (case p2 => exact PA.mem (by k_mem)); (case p3 => exact (show Sm _ by with_reducible assumption)); (case p4 => exact (show Sm _ by with_reducible assumption)); (case p5 => exact (show Sm _ by with_reducible assumption)); (case p6 => with_reducible assumption); (case p7 => with_reducible assumption)); intro D9 t9 t8 c9 h9 tk9 F9 N9 l9; (try replace l9 := allLt_hd l9); (try dsimp only); (try k_sweep); (try k_fold))
  k_with "call ref" => (k_here; (with_reducible show wpAny _ _ (call (Value.ref 335) _) _ _ _); k_dflt (refine' c_rest ?k1 ?k2 ?k3 ?k4 ?k5 ?kK ?kd ?ku ?p1 ?p2 ?p3 ?p4 ?p5 ?p6 ?p7 ?g1 ?g2 ?g3 ?_; (case k1 => k_asm); (case k2 => k_asm); (case k3 => k_asm); (case k4 => k_asm); (case k5 => k_asm); (case kK => first | exact rfl | assumption); (case kd => first | exact room_in (by assumption) (by exact rfl) | exact room_0 (by assumption) (by exact rfl) | ktr_room); (case ku => first | exact unit_3 (by assumption) (by exact rfl) | exact unit_4 (by assumption) (by exact rfl) | exact room_0 (by assumption) (by exact rfl) | ktr_units); (case p1 => exact PA.mem (by k_mem)); (case p2 => exact PA.mem (by k_mem)); (case p3 => with_reducible assumption); (case p4 => exact (show Sm _ by with_reducible assumption)); (case p5 => exact (show Sm _ by with_reducible assumption)); (case p6 => exact (show Sm _ by with_reducible assumption)); (case p7 => exact (show Sm _ by with_reducible assumption)); (case g1 => with_reducible assumption); (case g2 => with_reducible assumption); (case g3 => with_reducible assumption)); intro h9 tk9 F9 N9; (try dsimp only); (try k_sweep); (try k_fold))
  k_with "binaryOp Mult int int" => (k_here; k_dflt (refine PyProof.Rows.mul_int ?_ (mulB (by exact (show Sm _ by with_reducible assumption)))))
  k_with "compareOp NotEq int int" => (k_here; (with_reducible show wpAny _ _ (compareOp CmpOp.NotEq (Value.int _ _) (Value.int _ _)) _ _ _); k_dflt (refine ne_no (by first | with_reducible assumption | (apply_assumption; with_reducible assumption)) ?_))
  k_with "execs cons" => (k_here; (with_reducible show wpAny _ _ _ _ _ (Shared.mk _ _ _ (_ + 1) _)); refine gen_toks ?_; intro tk9 htk9)
  k_with "execs nil" => (k_here; (with_reducible show wpAny _ _ _ _ _ (Shared.mk _ _ _ (_ + 1) _)); refine gen_toks ?_; intro tk9 htk9)
  trivial
section
variable {w : World} {mean : ExcName → Option Value} {mg mb : Str → Option Value} {nm : Str} {sc : Scope} {fa : Addr} {cdv : Value} {base h₀ : Heap} {L : Addr} {s : Shared} {E : Value → Shared → Prop} {Q : Flow → Shared → Prop} {bd : List Stmt}
variable {src : Addr} {a b x y bw bh W H : Int} {ta tb tx ty tbw tbh tW tH tal : Tok} {n : Nat} {al : Str} {sl : Bool} {m₀ : Str → Option Value}
variable {A D rE rF : Rat} {ql qt qr qb qM qbox : Addr} {g1 g2 g3 g4 i1 i2 i3 i4 : Tok} {e1 e2 e3 e4 : Nat}
variable {ln ld tn td rn rd bn bd' v0 v1 z0 z1 ov ab : Int}
theorem lawD2 (hbd : bd = (bodyAt w.params 354).drop 13) (hsc : sc = scopeAt w.params 354) (B : Below callerA base [] h₀) (F : Fr h₀ L s.heap (fun z => if z = Str.ofString "bottom" then some (.ref qb) else (fun z => if z = Str.ofString "right" then some (.ref qr) else (fun z => if z = Str.ofString "top" then some (.ref qt) else (fun z => if z = Str.ofString "left" then some (.ref ql) else (fun z => if z = Str.ofString "matrix" then some (.ref qM) else (fun z => if z = Str.ofString "box" then some (.ref qbox) else (fun z => if z = Str.ofString "is_slice" then some (.bool sl) else (fun z => if z = Str.ofString "align" then some (.str al tal) else (fun z => if z = Str.ofString "width" then some (.int W tW) else (fun z => if z = Str.ofString "height" then some (.int H tH) else (fun z => if z = Str.ofString "across" then some (.int bw tbw) else (fun z => if z = Str.ofString "down" then some (.int bh tbh) else (fun z => if z = Str.ofString "x" then some (.int x tx) else (fun z => if z = Str.ofString "y" then some (.int y ty) else (fun z => if z = Str.ofString "source" then some (.ref src) else (m₀) z) z) z) z) z) z) z) z) z) z) z) z) z) z) z)) (X : Frag.In (hd.heap_39 w.params) h₀) (N : News h₀ L s.heap [(ql, tupO #[.int (ln) g1, .int (ld) i1] e1), (qt, tupO #[.int (tn) g2, .int (td) i2] e2), (qr, tupO #[.int (rn) g3, .int (rd) i3] e3), (qb, tupO #[.int (bn) g4, .int (bd') i4] e4)]) (T : Top hd.view_39 LO mean mg mb h₀) (hlen : al.length ≤ 16) (hne : (al == Str.ofString "none") = false) (p1 : IsPlace (Txt.slice al (some 1) (some 4))) (p5 : IsPlace (Txt.slice al (some 5) none)) (x1 : -4 ≤ x) (x2 : x ≤ 4) (y1 : -4 ≤ y) (y2 : y ≤ 4) (a1 : 0 < bw) (a2 : bw ≤ 6) (b1 : 0 < bh) (b2 : bh ≤ 6) (w1 : 0 < W) (w2 : W ≤ 8) (h1 : 0 < H) (h2 : H ≤ 8) (k0 : Sm (rn)) (k1 : Sm (ln)) (k2 : Sm (bn)) (k3 : Sm (tn)) (k4 : Sm (rd)) (k5 : Sm (bd')) (k6 : Sm (v0)) (k7 : Sm (v1)) (k8 : Sm (z0)) (k9 : Sm (z1)) (k10 : Sm (v0 * bh)) (k11 : Sm (z0 * bw)) (k12 : Sm (W * rd - rn * 1)) (k13 : Sm (H * bd' - bn * 1)) (k14 : Sm (ld)) (k15 : Sm (td)) (k16 : Sm (W)) (k17 : Sm (H))
   (c1 : Eqv (rn * ld - ln * rd) v0) (c2 : Eqv (rd * ld) v1) (c3 : Eqv (bn * td - tn * bd') z0) (c4 : Eqv (bd' * td) z1) (c5 : Eqv (v0 * 1 - W * v1) ov) (c6 : Eqv (v1 * 1) v1) (c7 : Eqv (z0 * 1 - H * z1) ab) (c8 : Eqv (z1 * 1) z1) (t1 : v0 * bh * z1 = z0 * bw * v1) (t2 : 0 < v0) (t3 : sl = true → (if ab < ov then ab else ov) = 0) (t4 : sl = false → (if ab > ov then ab else ov) = 0) (gl1 : Txt.slice al (some 1) (some 4) = Str.ofString "Min" → ln = 0) (gl2 : Txt.slice al (some 1) (some 4) = Str.ofString "Max" → W * rd - rn * 1 = 0) (gl3 : Txt.slice al (some 1) (some 4) = Str.ofString "Mid" → ln * (1 * rd) = (W * rd - rn * 1) * ld) (gt1 : Txt.slice al (some 5) none = Str.ofString "Min" → tn = 0) (gt2 : Txt.slice al (some 5) none = Str.ofString "Max" → H * bd' - bn * 1 = 0) (gt3 : Txt.slice al (some 5) none = Str.ofString "Mid" → tn * (1 * bd') = (H * bd' - bn * 1) * td)
   (hfin : ∀ h' tk', (∀ b o, h₀.get? b = some o → h'.get? b = some o) → Q (.ret (.bool true)) { s with heap := h', toks := tk' }) :
   wpAny (model PySem.Challenge.rw_nu0023_01.row.toRowW.prog w) (callerA.deeper (envOf nm sc L fa cdv)) (execs bd (envOf nm sc L fa cdv)) Q E s := by
  conv at hbd => rhs; whnf
  conv at hsc => rhs; whnf
  subst hbd; subst hsc
  revert X; k_fill; intro X
  k_steps
  all_goals exact hfin _ _ (Fr.keep (by assumption))
end
end Mine
namespace Mine
theorem part_end_K45 : True := by
  w_top off
  trivial
end Mine

-- part K46
namespace Mine
theorem rat_nd (r : Rat) : r * ((r.den : Int) : Rat) = (r.num : Rat) := by
  have h := Rat.num_divInt_den r
  rw [Rat.divInt_eq_div] at h
  have hd : ((r.den : Int) : Rat) ≠ 0 := fun e => r.den_nz (by have := Rat.intCast_inj.mp (e.trans (by rfl : (0 : Rat) = ((0 : Int) : Rat))); omega)
  grind
theorem rat_dp (r : Rat) : (0 : Rat) < ((r.den : Int) : Rat) := Rat.intCast_pos.mpr (by have := r.den_pos; omega)
theorem ri0 {x : Int} (h : ((x : Int) : Rat) = 0) : x = 0 := Rat.intCast_inj.mp (h.trans (by rfl : (0 : Rat) = ((0 : Int) : Rat)))
/-- what the box, the rectangle and the matrix tell -/
noncomputable abbrev Fit (x y bw bh W H : Rat) (A rE rF p q : Rat) (sl : Bool) : Prop :=
  0 < W ∧ 0 < H ∧ 0 < bw ∧ 0 < bh ∧ ((A = W / bw ∧ (decide (W / bw < H / bh) != sl) = true) ∨ (A = H / bh ∧ (decide (W / bw < H / bh) != sl) = false)) ∧
    rE = p * (W - bw * A) - x * A ∧ rF = q * (H - bh * A) - y * A
section
variable {x y bw bh W H A rE rF p q : Rat} {sl : Bool}
theorem Fit.pos (f : Fit x y bw bh W H A rE rF p q sl) : 0 < A := by
  obtain ⟨h1, h2, h3, h4, h5, _, _⟩ := f
  rcases h5 with ⟨rfl, _⟩ | ⟨rfl, _⟩
  · exact Rat.not_le.mp fun h => Rat.not_le.mpr h1 (by
      have e : W = W / bw * bw := by grind
      rw [e]
      have := Rat.mul_nonneg (a := -(W / bw)) (b := bw) (by grind) (Rat.le_of_lt h3)
      grind)
  · exact Rat.not_le.mp fun h => Rat.not_le.mpr h2 (by
      have e : H = H / bh * bh := by grind
      rw [e]
      have := Rat.mul_nonneg (a := -(H / bh)) (b := bh) (by grind) (Rat.le_of_lt h4)
      grind)
theorem Fit.ov (f : Fit x y bw bh W H A rE rF p q sl) : (A * bw = W ∧ (sl = true → H ≤ A * bh) ∧ (sl = false → A * bh ≤ H)) ∨ (A * bh = H ∧ (sl = true → W ≤ A * bw) ∧ (sl = false → A * bw ≤ W)) := by
  obtain ⟨h1, h2, h3, h4, h5, _, _⟩ := f
  have e1 : W / bw * bw = W := by grind
  have e2 : H / bh * bh = H := by grind
  rcases h5 with ⟨rfl, h⟩ | ⟨rfl, h⟩
  · refine .inl ⟨e1, fun e => ?_, fun e => ?_⟩
    · subst e
      have g : H / bh ≤ W / bw := Rat.not_lt.mp (by simpa using h)
      have := Rat.mul_nonneg (a := W / bw - H / bh) (b := bh) (by grind) (Rat.le_of_lt h4)
      grind
    · subst e
      have g : W / bw < H / bh := by simpa using h
      have := Rat.mul_nonneg (a := H / bh - W / bw) (b := bh) (by grind) (Rat.le_of_lt h4)
      grind
  · refine .inr ⟨e2, fun e => ?_, fun e => ?_⟩
    · subst e
      have g : W / bw < H / bh := by simpa using h
      have := Rat.mul_nonneg (a := H / bh - W / bw) (b := bw) (by grind) (Rat.le_of_lt h3)
      grind
    · subst e
      have g : H / bh ≤ W / bw := Rat.not_lt.mp (by simpa using h)
      have := Rat.mul_nonneg (a := W / bw - H / bh) (b := bw) (by grind) (Rat.le_of_lt h3)
      grind
end
section
variable {l r t b K K' : Rat}
theorem num_dif (h : r - l = K) : (((r.num * (l.den : Int) - l.num * (r.den : Int) : Int)) : Rat) = K * ((((r.den : Int) * (l.den : Int) : Int)) : Rat) := by
  have h1 := rat_nd r
  have h2 := rat_nd l
  rw [Rat.intCast_sub, Rat.intCast_mul, Rat.intCast_mul, Rat.intCast_mul]
  grind
theorem den_pos2 (r l : Rat) : (0 : Rat) < ((((r.den : Int) * (l.den : Int) : Int)) : Rat) := by
  rw [Rat.intCast_mul]
  exact Rat.mul_pos (rat_dp r) (rat_dp l)
end
section
variable {v0 v1 z0 z1 X Y BW BH W H : Int} {A : Rat} {sl : Bool}
theorem eq_t1 (h1 : ((v0 : Int) : Rat) = A * ((BW : Int) : Rat) * ((v1 : Int) : Rat)) (h2 : ((z0 : Int) : Rat) = A * ((BH : Int) : Rat) * ((z1 : Int) : Rat)) : v0 * BH * z1 = z0 * BW * v1 := by
  apply Rat.intCast_inj.mp
  rw [Rat.intCast_mul, Rat.intCast_mul, Rat.intCast_mul, Rat.intCast_mul, h1, h2]
  grind
theorem lt_t2 (h1 : ((v0 : Int) : Rat) = A * ((BW : Int) : Rat) * ((v1 : Int) : Rat)) (hA : 0 < A) (hb : 0 < BW) (hv : (0 : Rat) < ((v1 : Int) : Rat)) : 0 < v0 := by
  apply Rat.intCast_pos.mp
  rw [h1]
  exact Rat.mul_pos (Rat.mul_pos hA (Rat.intCast_pos.mpr hb)) hv
theorem ov_eq (h1 : ((v0 : Int) : Rat) = A * ((BW : Int) : Rat) * ((v1 : Int) : Rat)) : (((v0 * 1 - W * v1 : Int)) : Rat) = (A * ((BW : Int) : Rat) - ((W : Int) : Rat)) * ((v1 : Int) : Rat) := by
  rw [Rat.intCast_sub, Rat.intCast_mul, Rat.intCast_mul, h1, show ((1 : Int) : Rat) = 1 from rfl]
  grind
theorem ov_zero (h1 : ((v0 : Int) : Rat) = A * ((BW : Int) : Rat) * ((v1 : Int) : Rat)) (e : A * ((BW : Int) : Rat) = ((W : Int) : Rat)) : v0 * 1 - W * v1 = 0 := by
  apply ri0
  rw [ov_eq h1, e]
  grind
theorem ov_nn (h1 : ((v0 : Int) : Rat) = A * ((BW : Int) : Rat) * ((v1 : Int) : Rat)) (hv : (0 : Rat) < ((v1 : Int) : Rat)) (e : ((W : Int) : Rat) ≤ A * ((BW : Int) : Rat)) : 0 ≤ v0 * 1 - W * v1 := by
  apply Rat.intCast_nonneg.mp
  rw [ov_eq h1]
  exact Rat.mul_nonneg (by grind) (Rat.le_of_lt hv)
theorem ov_np (h1 : ((v0 : Int) : Rat) = A * ((BW : Int) : Rat) * ((v1 : Int) : Rat)) (hv : (0 : Rat) < ((v1 : Int) : Rat)) (e : A * ((BW : Int) : Rat) ≤ ((W : Int) : Rat)) : v0 * 1 - W * v1 ≤ 0 := by
  have h : 0 ≤ -(v0 * 1 - W * v1) := by
    apply Rat.intCast_nonneg.mp
    rw [Rat.intCast_neg, ov_eq h1]
    have := Rat.mul_nonneg (a := ((W : Int) : Rat) - A * ((BW : Int) : Rat)) (b := ((v1 : Int) : Rat)) (by grind) (Rat.le_of_lt hv)
    grind
  omega
end
section
variable {X BW W : Int} {A p l r : Rat}
/-- the three places of one direction -/
theorem place_facts {wd : Str} (hl : l = partR wd * (((W : Int) : Rat) - ((BW : Int) : Rat) * A)) (hr : r - l = A * ((BW : Int) : Rat)) :
    (wd = Str.ofString "Min" → l.num = 0) ∧ (wd = Str.ofString "Max" → W * (r.den : Int) - r.num * 1 = 0) ∧ (wd = Str.ofString "Mid" → l.num * (1 * (r.den : Int)) = (W * (r.den : Int) - r.num * 1) * (l.den : Int)) := by
  have n1 := rat_nd l
  have n2 := rat_nd r
  refine ⟨fun e => ?_, fun e => ?_, fun e => ?_⟩
  · subst e
    rw [part_min] at hl
    apply ri0
    rw [← n1, hl]
    grind
  · subst e
    rw [part_max] at hl
    apply ri0
    rw [Rat.intCast_sub, Rat.intCast_mul, Rat.intCast_mul, ← n2, show ((1 : Int) : Rat) = 1 from rfl]
    grind
  · subst e
    rw [part_mid] at hl
    apply Rat.intCast_inj.mp
    rw [Rat.intCast_mul, Rat.intCast_mul, Rat.intCast_mul, Rat.intCast_sub, Rat.intCast_mul, Rat.intCast_mul, ← n1, ← n2, show ((1 : Int) : Rat) = 1 from rfl]
    grind
end
/-- bounds -/
noncomputable def Bnd (n : Nat) (e : Int) : Prop := e.natAbs ≤ n
theorem bnd_mul {n k : Nat} {u v : Int} (h1 : Bnd n u) (h2 : Bnd k v) : Bnd (n * k) (u * v) := by
  unfold Bnd at *
  rw [Int.natAbs_mul]
  exact Nat.mul_le_mul h1 h2
theorem bnd_sub {n k : Nat} {u v : Int} (h1 : Bnd n u) (h2 : Bnd k v) : Bnd (n + k) (u - v) := by
  unfold Bnd at *
  omega
theorem bnd_sm {n : Nat} {u : Int} (h : Bnd n u) (hn : n < 9000000000000000000) : Sm u := Nat.lt_of_le_of_lt h hn
theorem bnd_num {n d : Nat} {p : Rat} (h : BdN n d p) : Bnd n p.num := h.1
theorem bnd_den {n d : Nat} {p : Rat} (h : BdN n d p) : Bnd d (p.den : Int) := by
  have := h.2
  unfold Bnd
  omega
end Mine
namespace Mine
theorem part_end_K46 : True := by
  w_top off
  trivial
end Mine

-- part K47
namespace Mine
section
variable {w : World} {mean : ExcName → Option Value} {mg mb : Str → Option Value} {nm : Str} {sc : Scope} {fa : Addr} {cdv : Value} {base h₀ : Heap} {L : Addr} {s : Shared} {E : Value → Shared → Prop} {Q : Flow → Shared → Prop} {bd : List Stmt}
variable {src : Addr} {a b x y bw bh W H : Int} {ta tb tx ty tbw tbh tW tH tal : Tok} {n : Nat} {al : Str} {sl : Bool} {m₀ : Str → Option Value}
variable {A D rE rF : Rat} {ql qt qr qb qM qbox : Addr} {g1 g2 g3 g4 i1 i2 i3 i4 : Tok} {e1 e2 e3 e4 : Nat}
theorem lawD (hbd : bd = (bodyAt w.params 354).drop 13) (hsc : sc = scopeAt w.params 354) (B : Below callerA base [] h₀) (F : Fr h₀ L s.heap (fun z => if z = Str.ofString "bottom" then some (.ref qb) else (fun z => if z = Str.ofString "right" then some (.ref qr) else (fun z => if z = Str.ofString "top" then some (.ref qt) else (fun z => if z = Str.ofString "left" then some (.ref ql) else (fun z => if z = Str.ofString "matrix" then some (.ref qM) else (fun z => if z = Str.ofString "box" then some (.ref qbox) else (fun z => if z = Str.ofString "is_slice" then some (.bool sl) else (fun z => if z = Str.ofString "align" then some (.str al tal) else (fun z => if z = Str.ofString "width" then some (.int W tW) else (fun z => if z = Str.ofString "height" then some (.int H tH) else (fun z => if z = Str.ofString "across" then some (.int bw tbw) else (fun z => if z = Str.ofString "down" then some (.int bh tbh) else (fun z => if z = Str.ofString "x" then some (.int x tx) else (fun z => if z = Str.ofString "y" then some (.int y ty) else (fun z => if z = Str.ofString "source" then some (.ref src) else (m₀) z) z) z) z) z) z) z) z) z) z) z) z) z) z) z)) (X : Frag.In (hd.heap_39 w.params) h₀) (N : News h₀ L s.heap [(ql, tupO #[.int (A * ((x : Int) : Rat) + rE).num g1, .int ((A * ((x : Int) : Rat) + rE).den : Int) i1] e1), (qt, tupO #[.int (D * ((y : Int) : Rat) + rF).num g2, .int ((D * ((y : Int) : Rat) + rF).den : Int) i2] e2), (qr, tupO #[.int (A * ((x + bw : Int) : Rat) + rE).num g3, .int ((A * ((x + bw : Int) : Rat) + rE).den : Int) i3] e3), (qb, tupO #[.int (D * ((y + bh : Int) : Rat) + rF).num g4, .int ((D * ((y + bh : Int) : Rat) + rF).den : Int) i4] e4)]) (T : Top hd.view_39 LO mean mg mb h₀) (x1 : -4 ≤ x) (x2 : x ≤ 4) (y1 : -4 ≤ y) (y2 : y ≤ 4) (a1 : 0 < bw) (a2 : bw ≤ 6) (b1 : 0 < bh) (b2 : bh ≤ 6) (w1 : 0 < W) (w2 : W ≤ 8) (h1 : 0 < H) (h2 : H ≤ 8) (hal : GoodAl al) (fit : FitS ((x : Int) : Rat) ((y : Int) : Rat) ((bw : Int) : Rat) ((bh : Int) : Rat) ((W : Int) : Rat) ((H : Int) : Rat) A D rE rF al sl) (bA : BdN 8 6 A) (bD : BdN 8 6 D) (bE : BdN 960 72 rE) (bF : BdN 960 72 rF)
   (hfin : ∀ h' tk', (∀ b o, h₀.get? b = some o → h'.get? b = some o) → Q (.ret (.bool true)) { s with heap := h', toks := tk' }) :
   wpAny (model PySem.Challenge.rw_nu0023_01.row.toRowW.prog w) (callerA.deeper (envOf nm sc L fa cdv)) (execs bd (envOf nm sc L fa cdv)) Q E s := by
  have nW : ((bw : Int) : Rat) ≠ 0 := fun e => by have := ri0 e; omega
  have nH : ((bh : Int) : Rat) ≠ 0 := fun e => by have := ri0 e; omega
  rcases fit with ⟨rfl, hA, hD, hE, hF⟩ | ⟨hne, hDA, hA, hE, hF⟩
  · have s1 : (A * ((x : Int) : Rat) + rE) = 0 := by rw [hE]; grind
    have s2 : (D * ((y : Int) : Rat) + rF) = 0 := by rw [hF]; grind
    have s3 : (A * ((x + bw : Int) : Rat) + rE) = ((W : Int) : Rat) := by rw [hE, Rat.intCast_add, hA]; grind
    have s4 : (D * ((y + bh : Int) : Rat) + rF) = ((H : Int) : Rat) := by rw [hF, Rat.intCast_add, hD]; grind
    rw [s1, s2, s3, s4] at N
    have N' : News h₀ L s.heap [(ql, tupO #[.int (0) g1, .int (1) i1] e1), (qt, tupO #[.int (0) g2, .int (1) i2] e2), (qr, tupO #[.int (W) g3, .int (1) i3] e3), (qb, tupO #[.int (H) g4, .int (1) i4] e4)] := N
    exact lawD1 hbd hsc B F X N' T hfin
  · subst hDA
    have hp : IsPlace (Txt.slice al (some 1) (some 4)) ∧ IsPlace (Txt.slice al (some 5) none) := by
      rcases good_pl hal with h | h
      · exact absurd h hne
      · exact h.2
    have FT : Fit ((x : Int) : Rat) ((y : Int) : Rat) ((bw : Int) : Rat) ((bh : Int) : Rat) ((W : Int) : Rat) ((H : Int) : Rat) D rE rF (partR (Txt.slice al (some 1) (some 4))) (partR (Txt.slice al (some 5) none)) sl := ⟨Rat.intCast_pos.mpr w1, Rat.intCast_pos.mpr h1, Rat.intCast_pos.mpr a1, Rat.intCast_pos.mpr b1, hA, hE, hF⟩
    have hl : (D * ((x : Int) : Rat) + rE) = partR (Txt.slice al (some 1) (some 4)) * (((W : Int) : Rat) - ((bw : Int) : Rat) * D) := by rw [hE]; grind
    have ht : (D * ((y : Int) : Rat) + rF) = partR (Txt.slice al (some 5) none) * (((H : Int) : Rat) - ((bh : Int) : Rat) * D) := by rw [hF]; grind
    have dr : (D * ((x + bw : Int) : Rat) + rE) - (D * ((x : Int) : Rat) + rE) = D * ((bw : Int) : Rat) := by rw [Rat.intCast_add]; grind
    have db : (D * ((y + bh : Int) : Rat) + rF) - (D * ((y : Int) : Rat) + rF) = D * ((bh : Int) : Rat) := by rw [Rat.intCast_add]; grind
    have bx : BdN 10 1 ((x : Int) : Rat) := z_bd (by omega)
    have by' : BdN 10 1 ((y : Int) : Rat) := z_bd (by omega)
    have bx2 : BdN 10 1 ((x + bw : Int) : Rat) := z_bd (by omega)
    have by2 : BdN 10 1 ((y + bh : Int) : Rat) := z_bd (by omega)
    have BL := bd_add (bd_mul bA bx) bE
    have BT := bd_add (bd_mul bA by') bF
    have BR := bd_add (bd_mul bA bx2) bE
    have BB := bd_add (bd_mul bA by2) bF
    have P1 := FT.pos
    have P2 := FT.ov
    clear FT hA hE hF
    generalize (D * ((x : Int) : Rat) + rE) = l at *
    generalize (D * ((y : Int) : Rat) + rF) = t at *
    generalize (D * ((x + bw : Int) : Rat) + rE) = r at *
    generalize (D * ((y + bh : Int) : Rat) + rF) = b' at *
    have V0 := num_dif dr
    have Z0 := num_dif db
    have V1 := den_pos2 r l
    have Z1 := den_pos2 b' t
    obtain ⟨g1, g2, g3⟩ := place_facts hl dr
    obtain ⟨g4, g5, g6⟩ := place_facts ht db
    have nL := bnd_num BL; have nT := bnd_num BT; have nR := bnd_num BR; have nB := bnd_num BB
    have dL := bnd_den BL; have dT := bnd_den BT; have dR := bnd_den BR; have dB := bnd_den BB
    have kW : Bnd 8 W := by unfold Bnd; omega
    have kH : Bnd 8 H := by unfold Bnd; omega
    have kbw : Bnd 8 bw := by unfold Bnd; omega
    have kbh : Bnd 8 bh := by unfold Bnd; omega
    have k1 : Bnd 1 (1 : Int) := by unfold Bnd; decide
    have kv0 := bnd_sub (bnd_mul nR dL) (bnd_mul nL dR)
    have kv1 := bnd_mul dR dL
    have kz0 := bnd_sub (bnd_mul nB dT) (bnd_mul nT dB)
    have kz1 := bnd_mul dB dT
    refine lawD2 (v0 := r.num * (l.den : Int) - l.num * (r.den : Int)) (v1 := (r.den : Int) * (l.den : Int)) (z0 := b'.num * (t.den : Int) - t.num * (b'.den : Int)) (z1 := (b'.den : Int) * (t.den : Int)) hbd hsc B F X N T (good_len hal) (by simpa using hne) hp.1 hp.2 x1 x2 y1 y2 a1 a2 b1 b2 w1 w2 h1 h2
      (bnd_sm nR (by decide)) (bnd_sm nL (by decide)) (bnd_sm nB (by decide)) (bnd_sm nT (by decide)) (bnd_sm dR (by decide)) (bnd_sm dB (by decide)) (bnd_sm kv0 (by decide)) (bnd_sm kv1 (by decide)) (bnd_sm kz0 (by decide)) (bnd_sm kz1 (by decide))
      (bnd_sm (bnd_mul kv0 kbh) (by decide)) (bnd_sm (bnd_mul kz0 kbw) (by decide)) (bnd_sm (bnd_sub (bnd_mul kW dR) (bnd_mul nR k1)) (by decide)) (bnd_sm (bnd_sub (bnd_mul kH dB) (bnd_mul nB k1)) (by decide)) (bnd_sm dL (by decide)) (bnd_sm dT (by decide)) (bnd_sm kW (by decide)) (bnd_sm kH (by decide))
      rfl rfl rfl rfl rfl (Int.mul_one _) rfl (Int.mul_one _) (eq_t1 V0 Z0) (lt_t2 V0 P1 a1 V1) ?_ ?_ g1 g2 g3 g4 g5 g6 hfin
    · intro hs
      rcases P2 with ⟨e, p, _⟩ | ⟨e, p, _⟩
      · have q1 := ov_zero V0 e
        have q2 := ov_nn Z0 Z1 (p hs)
        split <;> omega
      · have q1 := ov_zero Z0 e
        have q2 := ov_nn V0 V1 (p hs)
        split <;> omega
    · intro hs
      rcases P2 with ⟨e, _, p⟩ | ⟨e, _, p⟩
      · have q1 := ov_zero V0 e
        have q2 := ov_np Z0 Z1 (p hs)
        split <;> omega
      · have q1 := ov_zero Z0 e
        have q2 := ov_np V0 V1 (p hs)
        split <;> omega
end
end Mine
namespace Mine
theorem part_end_K47 : True := by
  w_top off
  trivial
end Mine

-- part K48
namespace Mine
theorem lk1 {k : Str} {v : Value} (z : Str) : List.lookup z [(k, v)].reverse = if z = k then some v else none := by
  show (match z == k with | true => some v | false => none) = _
  by_cases h : z = k
  · subst h; rw [if_pos rfl, beq_self_eq_true]
  · rw [if_neg h, beq_false_of_ne h]
theorem good_true {cl : Str → Option Addr} {mean : ExcName → Option Value} {args : List WData} {s₁ s' : Shared} (hk : ∀ b o, s₁.heap.get? b = some o → s'.heap.get? b = some o) (ho : s'.os = s₁.os) (hg : s'.gens = #[]) :
    GoodW PySem.Challenge.rw_nu0023_01.row.claim cl mean args s₁ (.ok (.ret (.bool true))) s' := by
  refine ⟨.inl ⟨.bool true, .bool true, [], rfl, fun _ => rfl, .bool _, ?_, ?_⟩, hk, ho, hg⟩
  · with_unfolding_all rfl
  · intro h; exact ⟨List.nodup_nil, fun a h => nomatch h⟩
theorem law_all : PySem.Challenge.rw_nu0023_01.Holds := hd (by
  k_go0
  rename Fr _ _ _ _ => FZ
  rename Top _ _ _ _ _ _ => TZ
  rename Below _ _ _ _ => BZ
  rename News _ _ _ _ => NZ
  rename Frag.In _ _ => XZ
  rename Heap.IsList _ _ _ => LZ
  rename IntsAre _ _ => IZ
  rename ¬ _ < _ => CZ
  rename Shared.gens _ = _ => HG
  refine lawA (by with_unfolding_all rfl) (by with_unfolding_all rfl) BZ (fr_eq FZ lk1) XZ NZ TZ LZ IZ (by omega) ?_
  intro src a b ta tb n x y bw bh W H al sl tx ty tbw tbh tW tH tal m₀ h1 tk1 x1 x2 y1 y2 a1 a2 b1 b2 w1 w2 c1 c2 hal q1 q2 q3 F1 N1
  refine lawB (by with_unfolding_all rfl) (by with_unfolding_all rfl) BZ F1 XZ N1 TZ x1 x2 y1 y2 a1 a2 b1 b2 w1 w2 c1 c2 hal ?_
  intro A D rE rF ql qt qr qb qM qbox g1 g2 g3 g4 i1 i2 i3 i4 e1 e2 e3 e4 h2 tk2 fit bA bD bE bF F2 N2 n1 n2 n3 n4
  refine lawC (by with_unfolding_all rfl) (by with_unfolding_all rfl) BZ F2 XZ N2 TZ x1 x2 y1 y2 a1 a2 b1 b2 w1 w2 c1 c2 hal XZ TZ q1 q2 q3 n1 n2 n3 n4 ?_
  intro G h3 tk3 B3 F3 X3 N3 T3
  refine lawD (by with_unfolding_all rfl) (by with_unfolding_all rfl) B3 F3 X3 N3 T3 x1 x2 y1 y2 a1 a2 b1 b2 w1 w2 c1 c2 hal fit bA bD bE bF ?_
  intro h4 tk4 hk4
  exact good_true (fun b o e => hk4 b o (B3.stays b o e)) rfl HG)
end Mine
namespace Mine
theorem part_end_K48 : True := by
  w_top off
  trivial
end Mine

theorem PySem.Challenge.cw_nu0023_01_holds : PySem.Challenge.rw_nu0023_01.Holds :=
  Mine.law_all
