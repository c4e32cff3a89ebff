import PyProof.Rows.All
import Wide.All
import OpenK.AllK
import Wide.FinOn
import PySem.Challenge.RW_rg0008_01
set_option maxRecDepth 100000
set_option maxHeartbeats 8000000
set_option linter.all false
set_option genInjectivity false
set_option genSizeOf false
set_option compiler.extract_closed false
open PySem PySem.W PyProof.Rows PySem.Calls PyProof.V PySem.Spec
set_option Elab.async false
namespace Mine.Tactic
theorem aside {G : Prop} (T1 T2 : Prop) (hl : T1) (hc : T2) (goal : G) : G := goal
noncomputable def hd : (T : Prop) ×' (T → PySem.Challenge.rw_rg0008_01.Holds) := by
  apply PSigma.mk
  case snd =>
    intro walk
    w_on
    o_law
    apply aside
    case goal =>
      k_head
      case hw => w_witness2
    case hc => exact walk
    case hl => exact fun w => by kernel_rfl
theorem offT : True := by
  w_top off
  trivial
theorem fill_join : PySem.Challenge.rw_rg0008_01.prog = PySem.Challenge.rw_rg0008_01.prog ∧ hd.heap_39 = hd.heap_39 := by
  k_fill
  exact ⟨rfl, rfl⟩
local macro_rules | `(tactic| walk_at $s:str) => `(tactic| k_extra $s)
local macro_rules | `(tactic| k_mem) => `(tactic| k_extra "x_k_mem")
local macro_rules | `(tactic| k_all) => `(tactic| k_extra "x_k_all")
local macro_rules | `(tactic| k_room) => `(tactic| k_extra "x_k_room")
local macro_rules | `(tactic| k_units) => `(tactic| k_extra "x_k_units")
local macro_rules | `(tactic| k_ne) => `(tactic| k_extra "x_k_ne")
local macro_rules | `(tactic| ktr_room) => `(tactic| k_extra "x_ktr_room")
local macro_rules | `(tactic| ktr_units) => `(tactic| k_extra "x_ktr_units")
local macro_rules | `(tactic| k_qdec) => `(tactic| decide +kernel)
theorem regstep : True := by
  k_with "m_step" => first | (k_unfold; (try dsimp only)) | (k_end; wrow_close) | walk1 | (dsimp only; walk1) | (leave1; walk_say "STEP leave1"; try dsimp only)
  trivial
theorem fillK : PySem.Challenge.rw_rg0008_01.prog = PySem.Challenge.rw_rg0008_01.prog ∧ hd.heap_39 = hd.heap_39 := by
  k_fill
  exact ⟨rfl, rfl⟩

theorem ne_two {a b c : Nat} (h : b < a) (g : c < b) : a ≠ c := Nat.ne_of_gt (Nat.lt_trans g h)
inductive Fld where
  | rs
  | dx
  | kt
  | kd
  | kdt
  | ow
  | pa
  | ro
  | mc
  | mct
  | nu
  | nut
  | lv
  | lvt
  | pt
  | ptt
  | a0
  | a1
  | a2
  | a3
  | a4
  | a5
  | o0
  | k0
  | l1
  | n1
  | l2
  | n2
  | l3
  | n3
  | o4
  | k4
  | o5
  | k5
  | ge
  | es
  | ex
  | et
  | ef
  | en
  | eu
  | eh
  | ep
  | er
  | ey
  | ms
  | wd
  | ca
  | wo
  | wk
  | wkt
  | cv
  | cn
@[reducible] noncomputable def Ty : Fld → Type
  | .rs => List Addr
  | .dx => Addr → Addr
  | .kt => Addr → Nat → Tok
  | .kd => Addr → Str
  | .kdt => Addr → Tok
  | .ow => Addr → Value
  | .pa => Addr → Value
  | .ro => Addr → Addr
  | .mc => Addr → Int
  | .mct => Addr → Tok
  | .nu => Addr → Int
  | .nut => Addr → Tok
  | .lv => Addr → Int
  | .lvt => Addr → Tok
  | .pt => Addr → Str
  | .ptt => Addr → Tok
  | .a0 => Addr → Addr
  | .a1 => Addr → Addr
  | .a2 => Addr → Addr
  | .a3 => Addr → Addr
  | .a4 => Addr → Addr
  | .a5 => Addr → Addr
  | .o0 => Addr → Obj
  | .k0 => Addr → List (Str × Value)
  | .l1 => Addr → List Value
  | .n1 => Addr → Nat
  | .l2 => Addr → List Value
  | .n2 => Addr → Nat
  | .l3 => Addr → List Value
  | .n3 => Addr → Nat
  | .o4 => Addr → Obj
  | .k4 => Addr → List (Str × Value)
  | .o5 => Addr → Obj
  | .k5 => Addr → List (Int × Value)
  | .ge => Addr → Value
  | .es => List Addr
  | .ex => Addr → Addr
  | .et => Addr → Nat → Tok
  | .ef => Addr → Nat → Value
  | .en => Addr → Value
  | .eu => Addr → Value
  | .eh => Addr → Value
  | .ep => Addr → Value
  | .er => Addr → Value
  | .ey => Addr → Value
  | .ms => List (Addr × Obj)
  | .wd => Addr
  | .ca => Addr
  | .wo => Obj
  | .wk => Int
  | .wkt => Tok
  | .cv => List Value
  | .cn => Nat
@[reducible] noncomputable def Sx : Type := (f : Fld) → Ty f

noncomputable def upd {β : Type} (f : Addr → β) (a : Addr) (v : β) : Addr → β := fun x => if x = a then v else f x
theorem upd_same {β : Type} (f : Addr → β) (a : Addr) (v : β) : upd f a v a = v := if_pos rfl
theorem upd_ne {β : Type} (f : Addr → β) {a b : Addr} (v : β) (h : b ≠ a) : upd f a v b = f b := if_neg h

inductive Role where
  | ri (a : Addr) | rd (a : Addr) | r0 (a : Addr) | r1 (a : Addr) | r2 (a : Addr) | r3 (a : Addr) | r4 (a : Addr) | r5 (a : Addr)
  | ei (a : Addr) | ed (a : Addr) | w0 | w1

noncomputable def regE (P : Params) (W : Sx) (a : Addr) : List DictEntry :=
  [⟨PyData.keyHash P "kind", .str "kind" ((W .kt) a 0), .str ((W .kd) a) ((W .kdt) a)⟩,
    ⟨PyData.keyHash P "owner", .str "owner" ((W .kt) a 1), (W .ow) a⟩,
    ⟨PyData.keyHash P "parent", .str "parent" ((W .kt) a 2), (W .pa) a⟩,
    ⟨PyData.keyHash P "root", .str "root" ((W .kt) a 3), .ref ((W .ro) a)⟩,
    ⟨PyData.keyHash P "made", .str "made" ((W .kt) a 4), .int ((W .mc) a) ((W .mct) a)⟩,
    ⟨PyData.keyHash P "number", .str "number" ((W .kt) a 5), .int ((W .nu) a) ((W .nut) a)⟩,
    ⟨PyData.keyHash P "level", .str "level" ((W .kt) a 6), .int ((W .lv) a) ((W .lvt) a)⟩,
    ⟨PyData.keyHash P "part", .str "part" ((W .kt) a 7), .str ((W .pt) a) ((W .ptt) a)⟩,
    ⟨PyData.keyHash P "names", .str "names" ((W .kt) a 8), .ref ((W .a0) a)⟩,
    ⟨PyData.keyHash P "order", .str "order" ((W .kt) a 9), .ref ((W .a1) a)⟩,
    ⟨PyData.keyHash P "uses", .str "uses" ((W .kt) a 10), .ref ((W .a2) a)⟩,
    ⟨PyData.keyHash P "use_types", .str "use_types" ((W .kt) a 11), .ref ((W .a3) a)⟩,
    ⟨PyData.keyHash P "counts", .str "counts" ((W .kt) a 12), .ref ((W .a4) a)⟩,
    ⟨PyData.keyHash P "type_homes", .str "type_homes" ((W .kt) a 13), .ref ((W .a5) a)⟩,
    ⟨PyData.keyHash P "generic", .str "generic" ((W .kt) a 14), (W .ge) a⟩]
noncomputable def entE (P : Params) (W : Sx) (a : Addr) : List DictEntry :=
  [⟨PyData.keyHash P "kind", .str "kind" ((W .et) a 0), (W .ef) a 0⟩,
    ⟨PyData.keyHash P "name", .str "name" ((W .et) a 1), (W .ef) a 1⟩,
    ⟨PyData.keyHash P "key", .str "key" ((W .et) a 2), (W .ef) a 2⟩,
    ⟨PyData.keyHash P "subtype", .str "subtype" ((W .et) a 3), (W .ef) a 3⟩,
    ⟨PyData.keyHash P "data", .str "data" ((W .et) a 4), (W .ef) a 4⟩,
    ⟨PyData.keyHash P "line", .str "line" ((W .et) a 5), (W .ef) a 5⟩,
    ⟨PyData.keyHash P "number", .str "number" ((W .et) a 6), (W .en) a⟩,
    ⟨PyData.keyHash P "unique", .str "unique" ((W .et) a 7), (W .eu) a⟩,
    ⟨PyData.keyHash P "home", .str "home" ((W .et) a 8), (W .eh) a⟩,
    ⟨PyData.keyHash P "part", .str "part" ((W .et) a 9), (W .ep) a⟩,
    ⟨PyData.keyHash P "region", .str "region" ((W .et) a 10), (W .er) a⟩,
    ⟨PyData.keyHash P "full", .str "full" ((W .et) a 11), .none⟩,
    ⟨PyData.keyHash P "is_ready", .str "is_ready" ((W .et) a 12), (W .ey) a⟩,
    ⟨PyData.keyHash P "is_complete", .str "is_complete" ((W .et) a 13), .bool false⟩,
    ⟨PyData.keyHash P "is_constant", .str "is_constant" ((W .et) a 14), .bool false⟩,
    ⟨PyData.keyHash P "is_implicit", .str "is_implicit" ((W .et) a 15), .bool false⟩,
    ⟨PyData.keyHash P "is_overridden", .str "is_overridden" ((W .et) a 16), .bool false⟩]

noncomputable def adr (W : Sx) : Role → Addr
  | .ri a => a | .rd a => (W .dx) a | .r0 a => (W .a0) a | .r1 a => (W .a1) a | .r2 a => (W .a2) a | .r3 a => (W .a3) a | .r4 a => (W .a4) a | .r5 a => (W .a5) a
  | .ei a => a | .ed a => (W .ex) a | .w0 => (W .wd) | .w1 => (W .ca)
noncomputable def obj (P : Params) (W : Sx) : Role → Obj
  | .ri a => instObj 106 ((W .dx) a) | .rd a => dictOf (regE P W a) 15
  | .r0 a => (W .o0) a | .r1 a => PySem.W.listOf ((W .l1) a).toArray ((W .n1) a) | .r2 a => PySem.W.listOf ((W .l2) a).toArray ((W .n2) a) | .r3 a => PySem.W.listOf ((W .l3) a).toArray ((W .n3) a) | .r4 a => (W .o4) a | .r5 a => (W .o5) a
  | .ei a => instObj 31 ((W .ex) a) | .ed a => dictOf (entE P W a) 17 | .w0 => (W .wo) | .w1 => PySem.W.listOf (W .cv).toArray (W .cn)
noncomputable def rRoles (a : Addr) : List Role := [.ri a, .rd a, .r0 a, .r1 a, .r2 a, .r3 a, .r4 a, .r5 a]
noncomputable def eRoles (a : Addr) : List Role := [.ei a, .ed a]
noncomputable def dom (W : Sx) : List Role := (W .rs).flatMap rRoles ++ ((W .es).flatMap eRoles ++ [.w0, .w1])
@[irreducible] noncomputable def led (P : Params) (W : Sx) : List (Addr × Obj) := (dom W).map (fun r => (adr W r, obj P W r)) ++ (W .ms)
@[irreducible] noncomputable def addrs (W : Sx) : List Addr := (dom W).map (adr W) ++ (W .ms).map (·.1)
theorem led_map (P : Params) (W : Sx) : (led P W).map (·.1) = addrs W := by
  unfold led addrs
  rw [List.map_append, List.map_map]; rfl
theorem mem_addrs {P : Params} {W : Sx} {p : Addr × Obj} (h : p ∈ led P W) : p.1 ∈ addrs W := by
  rw [← led_map P]; exact List.mem_map_of_mem h
theorem mem_of_role {P : Params} {W : Sx} {r : Role} (h : r ∈ dom W) : (adr W r, obj P W r) ∈ led P W := by
  unfold led; exact List.mem_append_left _ (List.mem_map.mpr ⟨r, h, rfl⟩)
theorem adr_mem {W : Sx} {r : Role} (h : r ∈ dom W) : adr W r ∈ addrs W := by
  unfold addrs; exact List.mem_append_left _ (List.mem_map_of_mem h)
theorem mem_ms {P : Params} {W : Sx} {p : Addr × Obj} (h : p ∈ (W .ms)) : p ∈ led P W := by
  unfold led; exact List.mem_append_right _ h
theorem dom_r {W : Sx} {a : Addr} (h : a ∈ (W .rs)) {r : Role} (hr : r ∈ rRoles a) : r ∈ dom W := by
  unfold dom; exact List.mem_append_left _ (List.mem_flatMap.mpr ⟨a, h, hr⟩)
theorem dom_e {W : Sx} {a : Addr} (h : a ∈ (W .es)) {r : Role} (hr : r ∈ eRoles a) : r ∈ dom W := by
  unfold dom; exact List.mem_append_right _ (List.mem_append_left _ (List.mem_flatMap.mpr ⟨a, h, hr⟩))
theorem dom_w {W : Sx} {r : Role} (hr : r ∈ [Role.w0, Role.w1]) : r ∈ dom W := by
  unfold dom; exact List.mem_append_right _ (List.mem_append_right _ hr)

theorem dom_ri {W : Sx} {a : Addr} (h : a ∈ (W .rs)) : Role.ri a ∈ dom W := dom_r h (by unfold rRoles; simp)
theorem mem_ri {P : Params} {W : Sx} {a : Addr} (h : a ∈ (W .rs)) : (a, instObj 106 ((W .dx) a)) ∈ led P W := mem_of_role (r := .ri a) (dom_ri h)
theorem dom_rd {W : Sx} {a : Addr} (h : a ∈ (W .rs)) : Role.rd a ∈ dom W := dom_r h (by unfold rRoles; simp)
theorem mem_rd {P : Params} {W : Sx} {a : Addr} (h : a ∈ (W .rs)) : ((W .dx) a, dictOf (regE P W a) 15) ∈ led P W := mem_of_role (r := .rd a) (dom_rd h)
theorem dom_r0 {W : Sx} {a : Addr} (h : a ∈ (W .rs)) : Role.r0 a ∈ dom W := dom_r h (by unfold rRoles; simp)
theorem mem_r0 {P : Params} {W : Sx} {a : Addr} (h : a ∈ (W .rs)) : ((W .a0) a, (W .o0) a) ∈ led P W := mem_of_role (r := .r0 a) (dom_r0 h)
theorem dom_r1 {W : Sx} {a : Addr} (h : a ∈ (W .rs)) : Role.r1 a ∈ dom W := dom_r h (by unfold rRoles; simp)
theorem mem_r1 {P : Params} {W : Sx} {a : Addr} (h : a ∈ (W .rs)) : ((W .a1) a, PySem.W.listOf ((W .l1) a).toArray ((W .n1) a)) ∈ led P W := mem_of_role (r := .r1 a) (dom_r1 h)
theorem dom_r2 {W : Sx} {a : Addr} (h : a ∈ (W .rs)) : Role.r2 a ∈ dom W := dom_r h (by unfold rRoles; simp)
theorem mem_r2 {P : Params} {W : Sx} {a : Addr} (h : a ∈ (W .rs)) : ((W .a2) a, PySem.W.listOf ((W .l2) a).toArray ((W .n2) a)) ∈ led P W := mem_of_role (r := .r2 a) (dom_r2 h)
theorem dom_r3 {W : Sx} {a : Addr} (h : a ∈ (W .rs)) : Role.r3 a ∈ dom W := dom_r h (by unfold rRoles; simp)
theorem mem_r3 {P : Params} {W : Sx} {a : Addr} (h : a ∈ (W .rs)) : ((W .a3) a, PySem.W.listOf ((W .l3) a).toArray ((W .n3) a)) ∈ led P W := mem_of_role (r := .r3 a) (dom_r3 h)
theorem dom_r4 {W : Sx} {a : Addr} (h : a ∈ (W .rs)) : Role.r4 a ∈ dom W := dom_r h (by unfold rRoles; simp)
theorem mem_r4 {P : Params} {W : Sx} {a : Addr} (h : a ∈ (W .rs)) : ((W .a4) a, (W .o4) a) ∈ led P W := mem_of_role (r := .r4 a) (dom_r4 h)
theorem dom_r5 {W : Sx} {a : Addr} (h : a ∈ (W .rs)) : Role.r5 a ∈ dom W := dom_r h (by unfold rRoles; simp)
theorem mem_r5 {P : Params} {W : Sx} {a : Addr} (h : a ∈ (W .rs)) : ((W .a5) a, (W .o5) a) ∈ led P W := mem_of_role (r := .r5 a) (dom_r5 h)
theorem dom_ei {W : Sx} {a : Addr} (h : a ∈ (W .es)) : Role.ei a ∈ dom W := dom_e h (by unfold eRoles; simp)
theorem mem_ei {P : Params} {W : Sx} {a : Addr} (h : a ∈ (W .es)) : (a, instObj 31 ((W .ex) a)) ∈ led P W := mem_of_role (r := .ei a) (dom_ei h)
theorem dom_ed {W : Sx} {a : Addr} (h : a ∈ (W .es)) : Role.ed a ∈ dom W := dom_e h (by unfold eRoles; simp)
theorem mem_ed {P : Params} {W : Sx} {a : Addr} (h : a ∈ (W .es)) : ((W .ex) a, dictOf (entE P W a) 17) ∈ led P W := mem_of_role (r := .ed a) (dom_ed h)
theorem mem_w0 {P : Params} {W : Sx} : ((W .wd), (W .wo)) ∈ led P W := mem_of_role (r := .w0) (dom_w (by simp))
theorem mem_w1 {P : Params} {W : Sx} : ((W .ca), PySem.W.listOf (W .cv).toArray (W .cn)) ∈ led P W := mem_of_role (r := .w1) (dom_w (by simp))

theorem lowF {x : Addr} (h : @LT.lt Nat _ sysModules x) : (x == sysModules) = false := by
  cases e : x == sysModules with
  | false => rfl
  | true => exact absurd (beq_iff_eq.mp e) (Nat.ne_of_gt h)
noncomputable def lowA (W : Sx) : Role → Addr | .w1 => (W .wd) | r => adr W r
structure Wf (prog : Program) (w : World) (W : Sx) : Prop where
  role : ∃ ρ : Addr → Option Role, (∀ r ∈ dom W, ρ (adr W r) = some r) ∧ ∀ p ∈ (W .ms), ρ p.1 = none
  root : ∀ a ∈ (W .rs), (W .ro) a ∈ (W .rs)
  d0 : ∀ a ∈ (W .rs), ((W .o0) a).IsDictOf (strKind prog w) ((W .k0) a)
  d4 : ∀ a ∈ (W .rs), ((W .o4) a).IsDictOf (strKind prog w) ((W .k4) a)
  d5 : ∀ a ∈ (W .rs), ((W .o5) a).IsDictOf (intKind prog w) ((W .k5) a)
  low : ∀ r ∈ dom W, @LT.lt Nat _ sysModules (lowA W r)
  nod : ((W .ms).map (·.1)).Nodup
  dw : (W .wo).IsDictOf (strKind prog w) [("cells", .ref (W .ca)), ("spot", .int (W .wk) (W .wkt))]
  cells : ∃ ns, IntsAre (W .cv) ns
  few : @LE.le Nat _ (@List.length Value (W .cv)) 30
  spot : @LE.le Int _ 0 (W .wk)

theorem wf_inj {prog : Program} {w : World} {W : Sx} (h : Wf prog w W) {r r' : Role} (hr : r ∈ dom W) (hr' : r' ∈ dom W) (e : adr W r = adr W r') : r = r' := by
  obtain ⟨ρ, h1, _⟩ := h.role
  have a := h1 r hr
  have b := h1 r' hr'
  rw [e, b] at a
  exact (Option.some.inj a).symm

inductive Sp (A : List Addr) (tl tl' : List (Addr × Obj)) : List (Addr × Obj) → List (Addr × Obj) → Prop
  | nil : Sp A tl tl' tl tl'
  | cons {p l l'} : p.1 ∉ A → Sp A tl tl' l l' → Sp A tl tl' (p :: l) (p :: l')
theorem Sp.split {A : List Addr} {tl tl' l l' : List (Addr × Obj)} (h : Sp A tl tl' l l') : ∃ r, l = r ++ tl ∧ l' = r ++ tl' ∧ ∀ p ∈ r, p.1 ∉ A := by
  induction h with
  | nil => exact ⟨[], rfl, rfl, fun _ h => nomatch h⟩
  | cons hp _ ih =>
    obtain ⟨r, rfl, rfl, hr⟩ := ih
    exact ⟨_ :: r, rfl, rfl, fun q hq => by rcases List.mem_cons.mp hq with rfl | hq; exact hp; exact hr q hq⟩
inductive SpF (A : List Addr) (tl : List (Addr × Obj)) (tf : Obj → List (Addr × Obj)) : List (Addr × Obj) → (Obj → List (Addr × Obj)) → Prop
  | nil : SpF A tl tf tl tf
  | cons {p l g} : p.1 ∉ A → SpF A tl tf l g → SpF A tl tf (p :: l) (fun o => p :: g o)
theorem SpF.at {A : List Addr} {tl : List (Addr × Obj)} {tf : Obj → List (Addr × Obj)} {l : List (Addr × Obj)} {g : Obj → List (Addr × Obj)} (h : SpF A tl tf l g) (o : Obj) : Sp A tl (tf o) l (g o) := by
  induction h with
  | nil => exact .nil
  | cons hp _ ih => exact .cons hp ih
theorem off_lt {P : Params} {W : Sx} {t : Addr} (h : AllLt t (led P W)) : t ∉ addrs W := by
  intro ht
  rw [← led_map P] at ht
  obtain ⟨p, hp, rfl⟩ := List.mem_map.mp ht
  have : ∀ {l : List (Addr × Obj)} {t : Addr}, AllLt t l → ∀ p ∈ l, p.1 < t := by
    intro l
    induction l with
    | nil => intro _ _ p hp; nomatch hp
    | cons x l ih =>
      intro t h p hp
      rcases List.mem_cons.mp hp with rfl | hp
      · exact h.1
      · exact ih h.2 p hp
  exact Nat.lt_irrefl _ (this h p hp)
theorem off_led {P : Params} {W : Sx} {t : Addr} (h : t ∉ addrs W) : ∀ p ∈ led P W, p.1 ≠ t := fun p hp e => h (e ▸ mem_addrs hp)

theorem led_chg {prog : Program} {w : World} {P : Params} {W : Sx} {r : Role} {h₀ h : Heap} {L : Addr} {news : List (Addr × Obj)} (hw : Wf prog w W) (hr : r ∈ dom W) (N : News h₀ L h news)
    (hin : ∀ p ∈ led P W, p ∈ news) : ∃ others, (∀ p ∈ others, p.1 ≠ adr W r) ∧ News h₀ L h ((adr W r, obj P W r) :: others) ∧
      ∀ (W' : Sx) (news' : List (Addr × Obj)) (h' : Heap), adr W' = adr W → dom W' = dom W → (W' .ms) = (W .ms) → (∀ q, q ≠ r → obj P W' q = obj P W q) → Sp (addrs W) (led P W) (led P W') news news' →
        News h₀ L h' ((adr W r, obj P W' r) :: others) → News h₀ L h' news' := by
  refine ⟨news.filter (fun p => !(p.1 == adr W r)), fun p hp e => ?_, ?_, ?_⟩
  · have := (List.mem_filter.mp hp).2
    rw [e] at this
    simp at this
  · intro p hp
    rcases List.mem_cons.mp hp with rfl | hp
    · exact N _ (hin _ (mem_of_role hr))
    · exact N p (List.mem_filter.mp hp).1
  · intro W' news' h' hadr hdom hms hobj S N'
    obtain ⟨t, rfl, rfl, ht⟩ := S.split
    have key : ∀ p ∈ t ++ led P W, p.1 ≠ adr W r → p ∈ (adr W r, obj P W' r) :: (t ++ led P W).filter (fun p => !(p.1 == adr W r)) := fun p hp hne =>
      .tail _ (List.mem_filter.mpr ⟨hp, by simpa using hne⟩)
    intro p hp
    refine N' p ?_
    rcases List.mem_append.mp hp with hp | hp
    · exact key p (List.mem_append_left _ hp) fun e => ht p hp (e ▸ adr_mem hr)
    · unfold led at hp
      rcases List.mem_append.mp hp with hp | hp
      · obtain ⟨q, hq, rfl⟩ := List.mem_map.mp hp
        rw [hdom] at hq
        by_cases hqr : q = r
        · subst hqr; rw [hadr]; exact .head _
        · rw [hadr, hobj q hqr]
          exact key _ (List.mem_append_right _ (mem_of_role hq)) fun e => hqr (wf_inj hw hq hr e)
      · rw [hms] at hp
        refine key p (List.mem_append_right _ (mem_ms hp)) fun e => ?_
        obtain ⟨ρ, h1, h2⟩ := hw.role
        have a := h1 r hr
        rw [← e, h2 p hp] at a
        cases a
theorem sp_in {A : List Addr} {tl tl' l l' : List (Addr × Obj)} (h : Sp A tl tl' l l') : ∀ p ∈ tl, p ∈ l := by
  obtain ⟨r, rfl, _, _⟩ := h.split
  exact fun p hp => List.mem_append_right _ hp
theorem news_sub {h₀ h : Heap} {L : Addr} {l l' : List (Addr × Obj)} (N : News h₀ L h l) (hs : ∀ p ∈ l', p ∈ l) : News h₀ L h l' := fun p hp => N p (hs p hp)

section
variable {prog : Program} {w : World} {A : Around} {E : Value → Shared → Prop} {s : Shared} {L : Addr} {h₀ : Heap} {m : Str → Option Value} {news news' : List (Addr × Obj)} {W : Sx}
noncomputable def Sx.setMc (W : Sx) (a : Addr) (i : Int) (t : Tok) : Sx := fun f => match f with | .mc => upd (W .mc) a i | .mct => upd (W .mct) a t | f => W f
theorem addrs_setMc (a : Addr) (i : Int) (t : Tok) : addrs (W.setMc a i t) = addrs W := by unfold addrs; rfl
theorem wf_setMc (a : Addr) (i : Int) (t : Tok) (h : Wf prog w W) : Wf prog w (W.setMc a i t) := ⟨h.role, h.root, h.d0, h.d4, h.d5, fun r hr => (by cases r <;> exact h.low _ hr), h.nod, h.dw, h.cells, h.few, h.spot⟩
theorem obj_setMc {P : Params} (a : Addr) (i : Int) (t : Tok) : ∀ q, q ≠ Role.rd a → obj P (W.setMc a i t) q = obj P W q := by
  intro q hq
  cases q <;> first
    | rfl
    | (rename_i b
       have hb : b ≠ a := fun e => hq (by rw [e])
       show dictOf (regE P (W.setMc a i t) b) 15 = dictOf (regE P W b) 15
       dsimp only [regE, Sx.setMc]; simp only [upd_ne _ _ hb])
theorem set_setMc (a : Addr) (i : Int) (t : Tok) {Q : Unit → Shared → Prop} (F : Fr h₀ L s.heap m) (X₀ : (hd.heap_39 w.params).In h₀) (N : News h₀ L s.heap news) (hw : Wf prog w W) (ha : a ∈ (W .rs))
    (S : Sp (addrs W) (led w.params W) (led w.params (W.setMc a i t)) news news')
    (h : ∀ h', Fr h₀ L h' m → News h₀ L h' news' → Wf prog w (W.setMc a i t) → Q () { s with heap := h', toks := s.toks + 2 }) : wpAny (model prog w) A (setAttr (.ref a) "made" (.int i t)) Q E s := by
  obtain ⟨others, ho, N1, hback⟩ := led_chg hw (dom_rd ha) N (sp_in S)
  have I : InstAt s.heap a (instObj 106 ((W .dx) a)) 106 (some (dictOf (regE w.params W a) 15)) := InstAt.of_news N (sp_in S _ (mem_ri ha)) (sp_in S _ (mem_rd ha))
  refine set_dict F X₀ N1 I rfl (by k_is) (by k_is) (by k_is) (by k_is) (by rfl) (es' := regE w.params (W.setMc a i t) a) (n' := 15) ?_ (Upd.head ho) (Nat.le_of_ble_eq_true rfl) fun h' F' N' => h h' F' (hback (W.setMc a i t) _ h' (by funext q; cases q <;> rfl) rfl rfl (obj_setMc a i t) S N') (wf_setMc a i t hw)
  have e : regE w.params (W.setMc a i t) a = putL "made" (PyData.keyHash w.params "made") (.str "made" (s.toks + 1)) (.int i t) (regE w.params W a) := by
    dsimp only [regE, Sx.setMc]
    simp only [upd_same]
    rfl
  rw [e]
  rfl
noncomputable def Sx.setPt (W : Sx) (a : Addr) (i : Str) (t : Tok) : Sx := fun f => match f with | .pt => upd (W .pt) a i | .ptt => upd (W .ptt) a t | f => W f
theorem addrs_setPt (a : Addr) (i : Str) (t : Tok) : addrs (W.setPt a i t) = addrs W := by unfold addrs; rfl
theorem wf_setPt (a : Addr) (i : Str) (t : Tok) (h : Wf prog w W) : Wf prog w (W.setPt a i t) := ⟨h.role, h.root, h.d0, h.d4, h.d5, fun r hr => (by cases r <;> exact h.low _ hr), h.nod, h.dw, h.cells, h.few, h.spot⟩
theorem obj_setPt {P : Params} (a : Addr) (i : Str) (t : Tok) : ∀ q, q ≠ Role.rd a → obj P (W.setPt a i t) q = obj P W q := by
  intro q hq
  cases q <;> first
    | rfl
    | (rename_i b
       have hb : b ≠ a := fun e => hq (by rw [e])
       show dictOf (regE P (W.setPt a i t) b) 15 = dictOf (regE P W b) 15
       dsimp only [regE, Sx.setPt]; simp only [upd_ne _ _ hb])
theorem set_setPt (a : Addr) (i : Str) (t : Tok) {Q : Unit → Shared → Prop} (F : Fr h₀ L s.heap m) (X₀ : (hd.heap_39 w.params).In h₀) (N : News h₀ L s.heap news) (hw : Wf prog w W) (ha : a ∈ (W .rs))
    (S : Sp (addrs W) (led w.params W) (led w.params (W.setPt a i t)) news news')
    (h : ∀ h', Fr h₀ L h' m → News h₀ L h' news' → Wf prog w (W.setPt a i t) → Q () { s with heap := h', toks := s.toks + 2 }) : wpAny (model prog w) A (setAttr (.ref a) "part" (.str i t)) Q E s := by
  obtain ⟨others, ho, N1, hback⟩ := led_chg hw (dom_rd ha) N (sp_in S)
  have I : InstAt s.heap a (instObj 106 ((W .dx) a)) 106 (some (dictOf (regE w.params W a) 15)) := InstAt.of_news N (sp_in S _ (mem_ri ha)) (sp_in S _ (mem_rd ha))
  refine set_dict F X₀ N1 I rfl (by k_is) (by k_is) (by k_is) (by k_is) (by rfl) (es' := regE w.params (W.setPt a i t) a) (n' := 15) ?_ (Upd.head ho) (Nat.le_of_ble_eq_true rfl) fun h' F' N' => h h' F' (hback (W.setPt a i t) _ h' (by funext q; cases q <;> rfl) rfl rfl (obj_setPt a i t) S N') (wf_setPt a i t hw)
  have e : regE w.params (W.setPt a i t) a = putL "part" (PyData.keyHash w.params "part") (.str "part" (s.toks + 1)) (.str i t) (regE w.params W a) := by
    dsimp only [regE, Sx.setPt]
    simp only [upd_same]
    rfl
  rw [e]
  rfl
noncomputable def Sx.setGe (W : Sx) (a : Addr) (v : Value) : Sx := fun f => match f with | .ge => upd (W .ge) a v | f => W f
theorem addrs_setGe (a : Addr) (v : Value) : addrs (W.setGe a v) = addrs W := by unfold addrs; rfl
theorem wf_setGe (a : Addr) (v : Value) (h : Wf prog w W) : Wf prog w (W.setGe a v) := ⟨h.role, h.root, h.d0, h.d4, h.d5, fun r hr => (by cases r <;> exact h.low _ hr), h.nod, h.dw, h.cells, h.few, h.spot⟩
theorem obj_setGe {P : Params} (a : Addr) (v : Value) : ∀ q, q ≠ Role.rd a → obj P (W.setGe a v) q = obj P W q := by
  intro q hq
  cases q <;> first
    | rfl
    | (rename_i b
       have hb : b ≠ a := fun e => hq (by rw [e])
       show dictOf (regE P (W.setGe a v) b) 15 = dictOf (regE P W b) 15
       dsimp only [regE, Sx.setGe]; simp only [upd_ne _ _ hb])
theorem set_setGe (a : Addr) (v : Value) {Q : Unit → Shared → Prop} (F : Fr h₀ L s.heap m) (X₀ : (hd.heap_39 w.params).In h₀) (N : News h₀ L s.heap news) (hw : Wf prog w W) (ha : a ∈ (W .rs))
    (S : Sp (addrs W) (led w.params W) (led w.params (W.setGe a v)) news news')
    (h : ∀ h', Fr h₀ L h' m → News h₀ L h' news' → Wf prog w (W.setGe a v) → Q () { s with heap := h', toks := s.toks + 2 }) : wpAny (model prog w) A (setAttr (.ref a) "generic" (v)) Q E s := by
  obtain ⟨others, ho, N1, hback⟩ := led_chg hw (dom_rd ha) N (sp_in S)
  have I : InstAt s.heap a (instObj 106 ((W .dx) a)) 106 (some (dictOf (regE w.params W a) 15)) := InstAt.of_news N (sp_in S _ (mem_ri ha)) (sp_in S _ (mem_rd ha))
  refine set_dict F X₀ N1 I rfl (by k_is) (by k_is) (by k_is) (by k_is) (by rfl) (es' := regE w.params (W.setGe a v) a) (n' := 15) ?_ (Upd.head ho) (Nat.le_of_ble_eq_true rfl) fun h' F' N' => h h' F' (hback (W.setGe a v) _ h' (by funext q; cases q <;> rfl) rfl rfl (obj_setGe a v) S N') (wf_setGe a v hw)
  have e : regE w.params (W.setGe a v) a = putL "generic" (PyData.keyHash w.params "generic") (.str "generic" (s.toks + 1)) (v) (regE w.params W a) := by
    dsimp only [regE, Sx.setGe]
    simp only [upd_same]
    rfl
  rw [e]
  rfl
noncomputable def Sx.setEn (W : Sx) (a : Addr) (v : Value) : Sx := fun f => match f with | .en => upd (W .en) a v | f => W f
theorem addrs_setEn (a : Addr) (v : Value) : addrs (W.setEn a v) = addrs W := by unfold addrs; rfl
theorem wf_setEn (a : Addr) (v : Value) (h : Wf prog w W) : Wf prog w (W.setEn a v) := ⟨h.role, h.root, h.d0, h.d4, h.d5, fun r hr => (by cases r <;> exact h.low _ hr), h.nod, h.dw, h.cells, h.few, h.spot⟩
theorem obj_setEn {P : Params} (a : Addr) (v : Value) : ∀ q, q ≠ Role.ed a → obj P (W.setEn a v) q = obj P W q := by
  intro q hq
  cases q <;> first
    | rfl
    | (rename_i b
       have hb : b ≠ a := fun e => hq (by rw [e])
       show dictOf (entE P (W.setEn a v) b) 17 = dictOf (entE P W b) 17
       dsimp only [entE, Sx.setEn]; simp only [upd_ne _ _ hb])
theorem set_setEn (a : Addr) (v : Value) {Q : Unit → Shared → Prop} (F : Fr h₀ L s.heap m) (X₀ : (hd.heap_39 w.params).In h₀) (N : News h₀ L s.heap news) (hw : Wf prog w W) (ha : a ∈ (W .es))
    (S : Sp (addrs W) (led w.params W) (led w.params (W.setEn a v)) news news')
    (h : ∀ h', Fr h₀ L h' m → News h₀ L h' news' → Wf prog w (W.setEn a v) → Q () { s with heap := h', toks := s.toks + 2 }) : wpAny (model prog w) A (setAttr (.ref a) "number" (v)) Q E s := by
  obtain ⟨others, ho, N1, hback⟩ := led_chg hw (dom_ed ha) N (sp_in S)
  have I : InstAt s.heap a (instObj 31 ((W .ex) a)) 31 (some (dictOf (entE w.params W a) 17)) := InstAt.of_news N (sp_in S _ (mem_ei ha)) (sp_in S _ (mem_ed ha))
  refine set_dict F X₀ N1 I rfl (by k_is) (by k_is) (by k_is) (by k_is) (by rfl) (es' := entE w.params (W.setEn a v) a) (n' := 17) ?_ (Upd.head ho) (Nat.le_of_ble_eq_true rfl) fun h' F' N' => h h' F' (hback (W.setEn a v) _ h' (by funext q; cases q <;> rfl) rfl rfl (obj_setEn a v) S N') (wf_setEn a v hw)
  have e : entE w.params (W.setEn a v) a = putL "number" (PyData.keyHash w.params "number") (.str "number" (s.toks + 1)) (v) (entE w.params W a) := by
    dsimp only [entE, Sx.setEn]
    simp only [upd_same]
    rfl
  rw [e]
  rfl
noncomputable def Sx.setEu (W : Sx) (a : Addr) (v : Value) : Sx := fun f => match f with | .eu => upd (W .eu) a v | f => W f
theorem addrs_setEu (a : Addr) (v : Value) : addrs (W.setEu a v) = addrs W := by unfold addrs; rfl
theorem wf_setEu (a : Addr) (v : Value) (h : Wf prog w W) : Wf prog w (W.setEu a v) := ⟨h.role, h.root, h.d0, h.d4, h.d5, fun r hr => (by cases r <;> exact h.low _ hr), h.nod, h.dw, h.cells, h.few, h.spot⟩
theorem obj_setEu {P : Params} (a : Addr) (v : Value) : ∀ q, q ≠ Role.ed a → obj P (W.setEu a v) q = obj P W q := by
  intro q hq
  cases q <;> first
    | rfl
    | (rename_i b
       have hb : b ≠ a := fun e => hq (by rw [e])
       show dictOf (entE P (W.setEu a v) b) 17 = dictOf (entE P W b) 17
       dsimp only [entE, Sx.setEu]; simp only [upd_ne _ _ hb])
theorem set_setEu (a : Addr) (v : Value) {Q : Unit → Shared → Prop} (F : Fr h₀ L s.heap m) (X₀ : (hd.heap_39 w.params).In h₀) (N : News h₀ L s.heap news) (hw : Wf prog w W) (ha : a ∈ (W .es))
    (S : Sp (addrs W) (led w.params W) (led w.params (W.setEu a v)) news news')
    (h : ∀ h', Fr h₀ L h' m → News h₀ L h' news' → Wf prog w (W.setEu a v) → Q () { s with heap := h', toks := s.toks + 2 }) : wpAny (model prog w) A (setAttr (.ref a) "unique" (v)) Q E s := by
  obtain ⟨others, ho, N1, hback⟩ := led_chg hw (dom_ed ha) N (sp_in S)
  have I : InstAt s.heap a (instObj 31 ((W .ex) a)) 31 (some (dictOf (entE w.params W a) 17)) := InstAt.of_news N (sp_in S _ (mem_ei ha)) (sp_in S _ (mem_ed ha))
  refine set_dict F X₀ N1 I rfl (by k_is) (by k_is) (by k_is) (by k_is) (by rfl) (es' := entE w.params (W.setEu a v) a) (n' := 17) ?_ (Upd.head ho) (Nat.le_of_ble_eq_true rfl) fun h' F' N' => h h' F' (hback (W.setEu a v) _ h' (by funext q; cases q <;> rfl) rfl rfl (obj_setEu a v) S N') (wf_setEu a v hw)
  have e : entE w.params (W.setEu a v) a = putL "unique" (PyData.keyHash w.params "unique") (.str "unique" (s.toks + 1)) (v) (entE w.params W a) := by
    dsimp only [entE, Sx.setEu]
    simp only [upd_same]
    rfl
  rw [e]
  rfl
noncomputable def Sx.setEh (W : Sx) (a : Addr) (v : Value) : Sx := fun f => match f with | .eh => upd (W .eh) a v | f => W f
theorem addrs_setEh (a : Addr) (v : Value) : addrs (W.setEh a v) = addrs W := by unfold addrs; rfl
theorem wf_setEh (a : Addr) (v : Value) (h : Wf prog w W) : Wf prog w (W.setEh a v) := ⟨h.role, h.root, h.d0, h.d4, h.d5, fun r hr => (by cases r <;> exact h.low _ hr), h.nod, h.dw, h.cells, h.few, h.spot⟩
theorem obj_setEh {P : Params} (a : Addr) (v : Value) : ∀ q, q ≠ Role.ed a → obj P (W.setEh a v) q = obj P W q := by
  intro q hq
  cases q <;> first
    | rfl
    | (rename_i b
       have hb : b ≠ a := fun e => hq (by rw [e])
       show dictOf (entE P (W.setEh a v) b) 17 = dictOf (entE P W b) 17
       dsimp only [entE, Sx.setEh]; simp only [upd_ne _ _ hb])
theorem set_setEh (a : Addr) (v : Value) {Q : Unit → Shared → Prop} (F : Fr h₀ L s.heap m) (X₀ : (hd.heap_39 w.params).In h₀) (N : News h₀ L s.heap news) (hw : Wf prog w W) (ha : a ∈ (W .es))
    (S : Sp (addrs W) (led w.params W) (led w.params (W.setEh a v)) news news')
    (h : ∀ h', Fr h₀ L h' m → News h₀ L h' news' → Wf prog w (W.setEh a v) → Q () { s with heap := h', toks := s.toks + 2 }) : wpAny (model prog w) A (setAttr (.ref a) "home" (v)) Q E s := by
  obtain ⟨others, ho, N1, hback⟩ := led_chg hw (dom_ed ha) N (sp_in S)
  have I : InstAt s.heap a (instObj 31 ((W .ex) a)) 31 (some (dictOf (entE w.params W a) 17)) := InstAt.of_news N (sp_in S _ (mem_ei ha)) (sp_in S _ (mem_ed ha))
  refine set_dict F X₀ N1 I rfl (by k_is) (by k_is) (by k_is) (by k_is) (by rfl) (es' := entE w.params (W.setEh a v) a) (n' := 17) ?_ (Upd.head ho) (Nat.le_of_ble_eq_true rfl) fun h' F' N' => h h' F' (hback (W.setEh a v) _ h' (by funext q; cases q <;> rfl) rfl rfl (obj_setEh a v) S N') (wf_setEh a v hw)
  have e : entE w.params (W.setEh a v) a = putL "home" (PyData.keyHash w.params "home") (.str "home" (s.toks + 1)) (v) (entE w.params W a) := by
    dsimp only [entE, Sx.setEh]
    simp only [upd_same]
    rfl
  rw [e]
  rfl
noncomputable def Sx.setEp (W : Sx) (a : Addr) (v : Value) : Sx := fun f => match f with | .ep => upd (W .ep) a v | f => W f
theorem addrs_setEp (a : Addr) (v : Value) : addrs (W.setEp a v) = addrs W := by unfold addrs; rfl
theorem wf_setEp (a : Addr) (v : Value) (h : Wf prog w W) : Wf prog w (W.setEp a v) := ⟨h.role, h.root, h.d0, h.d4, h.d5, fun r hr => (by cases r <;> exact h.low _ hr), h.nod, h.dw, h.cells, h.few, h.spot⟩
theorem obj_setEp {P : Params} (a : Addr) (v : Value) : ∀ q, q ≠ Role.ed a → obj P (W.setEp a v) q = obj P W q := by
  intro q hq
  cases q <;> first
    | rfl
    | (rename_i b
       have hb : b ≠ a := fun e => hq (by rw [e])
       show dictOf (entE P (W.setEp a v) b) 17 = dictOf (entE P W b) 17
       dsimp only [entE, Sx.setEp]; simp only [upd_ne _ _ hb])
theorem set_setEp (a : Addr) (v : Value) {Q : Unit → Shared → Prop} (F : Fr h₀ L s.heap m) (X₀ : (hd.heap_39 w.params).In h₀) (N : News h₀ L s.heap news) (hw : Wf prog w W) (ha : a ∈ (W .es))
    (S : Sp (addrs W) (led w.params W) (led w.params (W.setEp a v)) news news')
    (h : ∀ h', Fr h₀ L h' m → News h₀ L h' news' → Wf prog w (W.setEp a v) → Q () { s with heap := h', toks := s.toks + 2 }) : wpAny (model prog w) A (setAttr (.ref a) "part" (v)) Q E s := by
  obtain ⟨others, ho, N1, hback⟩ := led_chg hw (dom_ed ha) N (sp_in S)
  have I : InstAt s.heap a (instObj 31 ((W .ex) a)) 31 (some (dictOf (entE w.params W a) 17)) := InstAt.of_news N (sp_in S _ (mem_ei ha)) (sp_in S _ (mem_ed ha))
  refine set_dict F X₀ N1 I rfl (by k_is) (by k_is) (by k_is) (by k_is) (by rfl) (es' := entE w.params (W.setEp a v) a) (n' := 17) ?_ (Upd.head ho) (Nat.le_of_ble_eq_true rfl) fun h' F' N' => h h' F' (hback (W.setEp a v) _ h' (by funext q; cases q <;> rfl) rfl rfl (obj_setEp a v) S N') (wf_setEp a v hw)
  have e : entE w.params (W.setEp a v) a = putL "part" (PyData.keyHash w.params "part") (.str "part" (s.toks + 1)) (v) (entE w.params W a) := by
    dsimp only [entE, Sx.setEp]
    simp only [upd_same]
    rfl
  rw [e]
  rfl
noncomputable def Sx.setEr (W : Sx) (a : Addr) (v : Value) : Sx := fun f => match f with | .er => upd (W .er) a v | f => W f
theorem addrs_setEr (a : Addr) (v : Value) : addrs (W.setEr a v) = addrs W := by unfold addrs; rfl
theorem wf_setEr (a : Addr) (v : Value) (h : Wf prog w W) : Wf prog w (W.setEr a v) := ⟨h.role, h.root, h.d0, h.d4, h.d5, fun r hr => (by cases r <;> exact h.low _ hr), h.nod, h.dw, h.cells, h.few, h.spot⟩
theorem obj_setEr {P : Params} (a : Addr) (v : Value) : ∀ q, q ≠ Role.ed a → obj P (W.setEr a v) q = obj P W q := by
  intro q hq
  cases q <;> first
    | rfl
    | (rename_i b
       have hb : b ≠ a := fun e => hq (by rw [e])
       show dictOf (entE P (W.setEr a v) b) 17 = dictOf (entE P W b) 17
       dsimp only [entE, Sx.setEr]; simp only [upd_ne _ _ hb])
theorem set_setEr (a : Addr) (v : Value) {Q : Unit → Shared → Prop} (F : Fr h₀ L s.heap m) (X₀ : (hd.heap_39 w.params).In h₀) (N : News h₀ L s.heap news) (hw : Wf prog w W) (ha : a ∈ (W .es))
    (S : Sp (addrs W) (led w.params W) (led w.params (W.setEr a v)) news news')
    (h : ∀ h', Fr h₀ L h' m → News h₀ L h' news' → Wf prog w (W.setEr a v) → Q () { s with heap := h', toks := s.toks + 2 }) : wpAny (model prog w) A (setAttr (.ref a) "region" (v)) Q E s := by
  obtain ⟨others, ho, N1, hback⟩ := led_chg hw (dom_ed ha) N (sp_in S)
  have I : InstAt s.heap a (instObj 31 ((W .ex) a)) 31 (some (dictOf (entE w.params W a) 17)) := InstAt.of_news N (sp_in S _ (mem_ei ha)) (sp_in S _ (mem_ed ha))
  refine set_dict F X₀ N1 I rfl (by k_is) (by k_is) (by k_is) (by k_is) (by rfl) (es' := entE w.params (W.setEr a v) a) (n' := 17) ?_ (Upd.head ho) (Nat.le_of_ble_eq_true rfl) fun h' F' N' => h h' F' (hback (W.setEr a v) _ h' (by funext q; cases q <;> rfl) rfl rfl (obj_setEr a v) S N') (wf_setEr a v hw)
  have e : entE w.params (W.setEr a v) a = putL "region" (PyData.keyHash w.params "region") (.str "region" (s.toks + 1)) (v) (entE w.params W a) := by
    dsimp only [entE, Sx.setEr]
    simp only [upd_same]
    rfl
  rw [e]
  rfl
noncomputable def Sx.setEy (W : Sx) (a : Addr) (v : Value) : Sx := fun f => match f with | .ey => upd (W .ey) a v | f => W f
theorem addrs_setEy (a : Addr) (v : Value) : addrs (W.setEy a v) = addrs W := by unfold addrs; rfl
theorem wf_setEy (a : Addr) (v : Value) (h : Wf prog w W) : Wf prog w (W.setEy a v) := ⟨h.role, h.root, h.d0, h.d4, h.d5, fun r hr => (by cases r <;> exact h.low _ hr), h.nod, h.dw, h.cells, h.few, h.spot⟩
theorem obj_setEy {P : Params} (a : Addr) (v : Value) : ∀ q, q ≠ Role.ed a → obj P (W.setEy a v) q = obj P W q := by
  intro q hq
  cases q <;> first
    | rfl
    | (rename_i b
       have hb : b ≠ a := fun e => hq (by rw [e])
       show dictOf (entE P (W.setEy a v) b) 17 = dictOf (entE P W b) 17
       dsimp only [entE, Sx.setEy]; simp only [upd_ne _ _ hb])
theorem set_setEy (a : Addr) (v : Value) {Q : Unit → Shared → Prop} (F : Fr h₀ L s.heap m) (X₀ : (hd.heap_39 w.params).In h₀) (N : News h₀ L s.heap news) (hw : Wf prog w W) (ha : a ∈ (W .es))
    (S : Sp (addrs W) (led w.params W) (led w.params (W.setEy a v)) news news')
    (h : ∀ h', Fr h₀ L h' m → News h₀ L h' news' → Wf prog w (W.setEy a v) → Q () { s with heap := h', toks := s.toks + 2 }) : wpAny (model prog w) A (setAttr (.ref a) "is_ready" (v)) Q E s := by
  obtain ⟨others, ho, N1, hback⟩ := led_chg hw (dom_ed ha) N (sp_in S)
  have I : InstAt s.heap a (instObj 31 ((W .ex) a)) 31 (some (dictOf (entE w.params W a) 17)) := InstAt.of_news N (sp_in S _ (mem_ei ha)) (sp_in S _ (mem_ed ha))
  refine set_dict F X₀ N1 I rfl (by k_is) (by k_is) (by k_is) (by k_is) (by rfl) (es' := entE w.params (W.setEy a v) a) (n' := 17) ?_ (Upd.head ho) (Nat.le_of_ble_eq_true rfl) fun h' F' N' => h h' F' (hback (W.setEy a v) _ h' (by funext q; cases q <;> rfl) rfl rfl (obj_setEy a v) S N') (wf_setEy a v hw)
  have e : entE w.params (W.setEy a v) a = putL "is_ready" (PyData.keyHash w.params "is_ready") (.str "is_ready" (s.toks + 1)) (v) (entE w.params W a) := by
    dsimp only [entE, Sx.setEy]
    simp only [upd_same]
    rfl
  rw [e]
  rfl
noncomputable def Sx.app1 (W : Sx) (a : Addr) (v : Value) : Sx := fun f => match f with | .l1 => upd (W .l1) a ((W .l1) a ++ [v]) | .n1 => upd (W .n1) a ((W .n1) a + 1) | f => W f
theorem addrs_app1 (a : Addr) (v : Value) : addrs (W.app1 a v) = addrs W := by unfold addrs; rfl
theorem wf_app1 (a : Addr) (v : Value) (h : Wf prog w W) : Wf prog w (W.app1 a v) := ⟨h.role, h.root, h.d0, h.d4, h.d5, fun r hr => (by cases r <;> exact h.low _ hr), h.nod, h.dw, h.cells, h.few, h.spot⟩
theorem obj_app1 {P : Params} (a : Addr) (v : Value) : ∀ q, q ≠ Role.r1 a → obj P (W.app1 a v) q = obj P W q := by
  intro q hq
  cases q <;> first
    | rfl
    | (rename_i b
       have hb : b ≠ a := fun e => hq (by rw [e])
       show PySem.W.listOf ((W.app1 a v) .l1 b).toArray ((W.app1 a v) .n1 b) = PySem.W.listOf ((W .l1) b).toArray ((W .n1) b)
       dsimp only [Sx.app1]; simp only [upd_ne _ _ hb])
theorem run_app1 (a : Addr) (v : Value) {Q : Value → Shared → Prop} (F : Fr h₀ L s.heap m) (N : News h₀ L s.heap news) (hw : Wf prog w W) (ha : a ∈ (W .rs))
    (S : Sp (addrs W) (led w.params W) (led w.params (W.app1 a v)) news news') (hz : ((W .l1) a).length ≤ 1000)
    (h : ∀ h', Fr h₀ L h' m → News h₀ L h' news' → Wf prog w (W.app1 a v) → Q .none { s with heap := h' }) : wpAny (model prog w) A (call (.builtin "list.append") [.ref ((W .a1) a), v]) Q E s := by
  obtain ⟨others, ho, N1, hback⟩ := led_chg hw (dom_r1 ha) N (sp_in S)
  refine append_K F N1 (Upd.head ho) (fun h' F' N' => h h' F' (hback (W.app1 a v) _ h' (by funext q; cases q <;> rfl) rfl rfl (obj_app1 a v) S ?_) (wf_app1 a v hw)) (by rw [List.size_toArray, sizeLine_eq]; omega)
  have e : obj w.params (W.app1 a v) (Role.r1 a) = PySem.W.listOf (((W .l1) a).toArray.push v) ((W .n1) a + 1) := by
    show PySem.W.listOf ((W.app1 a v) .l1 a).toArray ((W.app1 a v) .n1 a) = _
    dsimp only [Sx.app1]
    simp only [upd_same, List.push_toArray]
  rw [e]; exact N'
noncomputable def Sx.app2 (W : Sx) (a : Addr) (v : Value) : Sx := fun f => match f with | .l2 => upd (W .l2) a ((W .l2) a ++ [v]) | .n2 => upd (W .n2) a ((W .n2) a + 1) | f => W f
theorem addrs_app2 (a : Addr) (v : Value) : addrs (W.app2 a v) = addrs W := by unfold addrs; rfl
theorem wf_app2 (a : Addr) (v : Value) (h : Wf prog w W) : Wf prog w (W.app2 a v) := ⟨h.role, h.root, h.d0, h.d4, h.d5, fun r hr => (by cases r <;> exact h.low _ hr), h.nod, h.dw, h.cells, h.few, h.spot⟩
theorem obj_app2 {P : Params} (a : Addr) (v : Value) : ∀ q, q ≠ Role.r2 a → obj P (W.app2 a v) q = obj P W q := by
  intro q hq
  cases q <;> first
    | rfl
    | (rename_i b
       have hb : b ≠ a := fun e => hq (by rw [e])
       show PySem.W.listOf ((W.app2 a v) .l2 b).toArray ((W.app2 a v) .n2 b) = PySem.W.listOf ((W .l2) b).toArray ((W .n2) b)
       dsimp only [Sx.app2]; simp only [upd_ne _ _ hb])
theorem run_app2 (a : Addr) (v : Value) {Q : Value → Shared → Prop} (F : Fr h₀ L s.heap m) (N : News h₀ L s.heap news) (hw : Wf prog w W) (ha : a ∈ (W .rs))
    (S : Sp (addrs W) (led w.params W) (led w.params (W.app2 a v)) news news') (hz : ((W .l2) a).length ≤ 1000)
    (h : ∀ h', Fr h₀ L h' m → News h₀ L h' news' → Wf prog w (W.app2 a v) → Q .none { s with heap := h' }) : wpAny (model prog w) A (call (.builtin "list.append") [.ref ((W .a2) a), v]) Q E s := by
  obtain ⟨others, ho, N1, hback⟩ := led_chg hw (dom_r2 ha) N (sp_in S)
  refine append_K F N1 (Upd.head ho) (fun h' F' N' => h h' F' (hback (W.app2 a v) _ h' (by funext q; cases q <;> rfl) rfl rfl (obj_app2 a v) S ?_) (wf_app2 a v hw)) (by rw [List.size_toArray, sizeLine_eq]; omega)
  have e : obj w.params (W.app2 a v) (Role.r2 a) = PySem.W.listOf (((W .l2) a).toArray.push v) ((W .n2) a + 1) := by
    show PySem.W.listOf ((W.app2 a v) .l2 a).toArray ((W.app2 a v) .n2 a) = _
    dsimp only [Sx.app2]
    simp only [upd_same, List.push_toArray]
  rw [e]; exact N'
noncomputable def Sx.app3 (W : Sx) (a : Addr) (v : Value) : Sx := fun f => match f with | .l3 => upd (W .l3) a ((W .l3) a ++ [v]) | .n3 => upd (W .n3) a ((W .n3) a + 1) | f => W f
theorem addrs_app3 (a : Addr) (v : Value) : addrs (W.app3 a v) = addrs W := by unfold addrs; rfl
theorem wf_app3 (a : Addr) (v : Value) (h : Wf prog w W) : Wf prog w (W.app3 a v) := ⟨h.role, h.root, h.d0, h.d4, h.d5, fun r hr => (by cases r <;> exact h.low _ hr), h.nod, h.dw, h.cells, h.few, h.spot⟩
theorem obj_app3 {P : Params} (a : Addr) (v : Value) : ∀ q, q ≠ Role.r3 a → obj P (W.app3 a v) q = obj P W q := by
  intro q hq
  cases q <;> first
    | rfl
    | (rename_i b
       have hb : b ≠ a := fun e => hq (by rw [e])
       show PySem.W.listOf ((W.app3 a v) .l3 b).toArray ((W.app3 a v) .n3 b) = PySem.W.listOf ((W .l3) b).toArray ((W .n3) b)
       dsimp only [Sx.app3]; simp only [upd_ne _ _ hb])
theorem run_app3 (a : Addr) (v : Value) {Q : Value → Shared → Prop} (F : Fr h₀ L s.heap m) (N : News h₀ L s.heap news) (hw : Wf prog w W) (ha : a ∈ (W .rs))
    (S : Sp (addrs W) (led w.params W) (led w.params (W.app3 a v)) news news') (hz : ((W .l3) a).length ≤ 1000)
    (h : ∀ h', Fr h₀ L h' m → News h₀ L h' news' → Wf prog w (W.app3 a v) → Q .none { s with heap := h' }) : wpAny (model prog w) A (call (.builtin "list.append") [.ref ((W .a3) a), v]) Q E s := by
  obtain ⟨others, ho, N1, hback⟩ := led_chg hw (dom_r3 ha) N (sp_in S)
  refine append_K F N1 (Upd.head ho) (fun h' F' N' => h h' F' (hback (W.app3 a v) _ h' (by funext q; cases q <;> rfl) rfl rfl (obj_app3 a v) S ?_) (wf_app3 a v hw)) (by rw [List.size_toArray, sizeLine_eq]; omega)
  have e : obj w.params (W.app3 a v) (Role.r3 a) = PySem.W.listOf (((W .l3) a).toArray.push v) ((W .n3) a + 1) := by
    show PySem.W.listOf ((W.app3 a v) .l3 a).toArray ((W.app3 a v) .n3 a) = _
    dsimp only [Sx.app3]
    simp only [upd_same, List.push_toArray]
  rw [e]; exact N'
noncomputable def Sx.put0 (W : Sx) (a : Addr) (o : Obj) (k : Str) (v : Value) : Sx := fun f => match f with | .o0 => upd (W .o0) a o | .k0 => upd (W .k0) a (stored ((W .k0) a) k v) | f => W f
theorem addrs_put0 (a : Addr) (o : Obj) (k : Str) (v : Value) : addrs (W.put0 a o k v) = addrs W := by unfold addrs; rfl
theorem wf_put0 (a : Addr) (o : Obj) (k : Str) (v : Value) (h : Wf prog w W) (ho : o.IsDictOf (strKind prog w) (stored ((W .k0) a) k v)) : Wf prog w (W.put0 a o k v) := ⟨h.role, h.root, fun b hb => by
    by_cases e : b = a
    · subst e
      show (upd (W .o0) b o b).IsDictOf _ (upd (W .k0) b (stored ((W .k0) b) k v) b)
      rw [upd_same, upd_same]; exact ho
    · show (upd (W .o0) a o b).IsDictOf _ (upd (W .k0) a (stored ((W .k0) a) k v) b)
      rw [upd_ne _ _ e, upd_ne _ _ e]; exact h.d0 b hb, h.d4, h.d5, fun r hr => (by cases r <;> exact h.low _ hr), h.nod, h.dw, h.cells, h.few, h.spot⟩
theorem obj_put0 {P : Params} (a : Addr) (o : Obj) (k : Str) (v : Value) : ∀ q, q ≠ Role.r0 a → obj P (W.put0 a o k v) q = obj P W q := by
  intro q hq
  cases q <;> first
    | rfl
    | (rename_i b
       have hb : b ≠ a := fun e => hq (by rw [e])
       show (W.put0 a o k v) .o0 b = (W .o0) b
       dsimp only [Sx.put0]; simp only [upd_ne _ _ hb])
theorem oba_put0 {P : Params} (a : Addr) (o : Obj) (k : Str) (v : Value) : obj P (W.put0 a o k v) (Role.r0 a) = o := by
  show (W.put0 a o k v) .o0 a = o
  dsimp only [Sx.put0]; simp only [upd_same]
noncomputable def Sx.put4 (W : Sx) (a : Addr) (o : Obj) (k : Str) (v : Value) : Sx := fun f => match f with | .o4 => upd (W .o4) a o | .k4 => upd (W .k4) a (stored ((W .k4) a) k v) | f => W f
theorem addrs_put4 (a : Addr) (o : Obj) (k : Str) (v : Value) : addrs (W.put4 a o k v) = addrs W := by unfold addrs; rfl
theorem wf_put4 (a : Addr) (o : Obj) (k : Str) (v : Value) (h : Wf prog w W) (ho : o.IsDictOf (strKind prog w) (stored ((W .k4) a) k v)) : Wf prog w (W.put4 a o k v) := ⟨h.role, h.root, h.d0, fun b hb => by
    by_cases e : b = a
    · subst e
      show (upd (W .o4) b o b).IsDictOf _ (upd (W .k4) b (stored ((W .k4) b) k v) b)
      rw [upd_same, upd_same]; exact ho
    · show (upd (W .o4) a o b).IsDictOf _ (upd (W .k4) a (stored ((W .k4) a) k v) b)
      rw [upd_ne _ _ e, upd_ne _ _ e]; exact h.d4 b hb, h.d5, fun r hr => (by cases r <;> exact h.low _ hr), h.nod, h.dw, h.cells, h.few, h.spot⟩
theorem obj_put4 {P : Params} (a : Addr) (o : Obj) (k : Str) (v : Value) : ∀ q, q ≠ Role.r4 a → obj P (W.put4 a o k v) q = obj P W q := by
  intro q hq
  cases q <;> first
    | rfl
    | (rename_i b
       have hb : b ≠ a := fun e => hq (by rw [e])
       show (W.put4 a o k v) .o4 b = (W .o4) b
       dsimp only [Sx.put4]; simp only [upd_ne _ _ hb])
theorem oba_put4 {P : Params} (a : Addr) (o : Obj) (k : Str) (v : Value) : obj P (W.put4 a o k v) (Role.r4 a) = o := by
  show (W.put4 a o k v) .o4 a = o
  dsimp only [Sx.put4]; simp only [upd_same]
noncomputable def Sx.put5 (W : Sx) (a : Addr) (o : Obj) (k : Int) (v : Value) : Sx := fun f => match f with | .o5 => upd (W .o5) a o | .k5 => upd (W .k5) a (stored ((W .k5) a) k v) | f => W f
theorem addrs_put5 (a : Addr) (o : Obj) (k : Int) (v : Value) : addrs (W.put5 a o k v) = addrs W := by unfold addrs; rfl
theorem wf_put5 (a : Addr) (o : Obj) (k : Int) (v : Value) (h : Wf prog w W) (ho : o.IsDictOf (intKind prog w) (stored ((W .k5) a) k v)) : Wf prog w (W.put5 a o k v) := ⟨h.role, h.root, h.d0, h.d4, fun b hb => by
    by_cases e : b = a
    · subst e
      show (upd (W .o5) b o b).IsDictOf _ (upd (W .k5) b (stored ((W .k5) b) k v) b)
      rw [upd_same, upd_same]; exact ho
    · show (upd (W .o5) a o b).IsDictOf _ (upd (W .k5) a (stored ((W .k5) a) k v) b)
      rw [upd_ne _ _ e, upd_ne _ _ e]; exact h.d5 b hb, fun r hr => (by cases r <;> exact h.low _ hr), h.nod, h.dw, h.cells, h.few, h.spot⟩
theorem obj_put5 {P : Params} (a : Addr) (o : Obj) (k : Int) (v : Value) : ∀ q, q ≠ Role.r5 a → obj P (W.put5 a o k v) q = obj P W q := by
  intro q hq
  cases q <;> first
    | rfl
    | (rename_i b
       have hb : b ≠ a := fun e => hq (by rw [e])
       show (W.put5 a o k v) .o5 b = (W .o5) b
       dsimp only [Sx.put5]; simp only [upd_ne _ _ hb])
theorem oba_put5 {P : Params} (a : Addr) (o : Obj) (k : Int) (v : Value) : obj P (W.put5 a o k v) (Role.r5 a) = o := by
  show (W.put5 a o k v) .o5 a = o
  dsimp only [Sx.put5]; simp only [upd_same]
theorem run_put4 {led2 : Obj → List (Addr × Obj)} (a : Addr) (k : Str) (t : Tok) (v : Value) {Q : Unit → Shared → Prop} (F : Fr h₀ L s.heap m) (N : News h₀ L s.heap news) (hw : Wf prog w W) (ha : a ∈ (W .rs))
    (S : SpF (addrs W) (led w.params W) (fun o => led w.params (W.put4 a o k v)) news led2) (hz : ((W .k4) a).length ≤ 1000)
    (h : ∀ h' o, Fr h₀ L h' m → News h₀ L h' (led2 o) → Wf prog w (W.put4 a o k v) → Q () { s with heap := h', toks := s.toks + 1 }) : wpAny (model prog w) A (setItem (.ref ((W .a4) a)) (.str k t) v) Q E s := by
  obtain ⟨others, ho, N1, hback⟩ := led_chg hw (dom_r4 ha) N (sp_in (S.at default))
  refine kda_set (knd := strKind prog w) F N1 (UpdF.head ho) (hw.d4 a ha) (strKind_is _ _ _ _) (by rw [sizeLine_eq]; omega) fun h' o' F' N' hd' => h h' o' F' (hback (W.put4 a o' k v) _ h' (by funext q; cases q <;> rfl) rfl rfl (obj_put4 a o' k v) (S.at o') ?_) (wf_put4 a o' k v hw hd')
  rw [oba_put4]; exact N'

theorem run_put0 {led2 : Obj → List (Addr × Obj)} (a : Addr) (k : Str) (t : Tok) (v : Value) {Q : Value → Shared → Prop} (F : Fr h₀ L s.heap m) (N : News h₀ L s.heap news) (hw : Wf prog w W) (ha : a ∈ (W .rs))
    (S : SpF (addrs W) (led w.params W) (fun o => led w.params (W.put0 a o k v)) news led2) (hl : valueAt ((W .k0) a) k = none) (hz : ((W .k0) a).length ≤ 1000)
    (h : ∀ h' o, Fr h₀ L h' m → News h₀ L h' (led2 o) → Wf prog w (W.put0 a o k v) → Q v { s with heap := h', toks := s.toks + 1 }) : wpAny (model prog w) A (call (.builtin "dict.setdefault") [.ref ((W .a0) a), .str k t, v]) Q E s := by
  obtain ⟨others, ho, N1, hback⟩ := led_chg hw (dom_r0 ha) N (sp_in (S.at default))
  refine kob_setdef_new (knd := strKind prog w) F N1 (UpdF.head ho) (hw.d0 a ha) (lowF (hw.low _ (dom_r0 ha))) (strKind_is _ _ _ _) (PySem.F.args_dict_setdefault_3 _ _ _) hl (by rw [sizeLine_eq]; omega) fun h' o' F' N' hd' => h h' o' F' (hback (W.put0 a o' k v) _ h' (by funext q; cases q <;> rfl) rfl rfl (obj_put0 a o' k v) (S.at o') ?_) (wf_put0 a o' k v hw hd')
  rw [oba_put0]; exact N'

theorem run_put5 {led2 : Obj → List (Addr × Obj)} (a : Addr) (k : Int) (t : Tok) (v : Value) {Q : Value → Shared → Prop} (F : Fr h₀ L s.heap m) (N : News h₀ L s.heap news) (hw : Wf prog w W) (ha : a ∈ (W .rs))
    (S : SpF (addrs W) (led w.params W) (fun o => led w.params (W.put5 a o k v)) news led2) (hl : valueAt ((W .k5) a) k = none) (hz : ((W .k5) a).length ≤ 1000)
    (h : ∀ h' o, Fr h₀ L h' m → News h₀ L h' (led2 o) → Wf prog w (W.put5 a o k v) → Q v { s with heap := h', toks := s.toks + 1 }) : wpAny (model prog w) A (call (.builtin "dict.setdefault") [.ref ((W .a5) a), .int k t, v]) Q E s := by
  obtain ⟨others, ho, N1, hback⟩ := led_chg hw (dom_r5 ha) N (sp_in (S.at default))
  refine kob_setdef_new (knd := intKind prog w) F N1 (UpdF.head ho) (hw.d5 a ha) (lowF (hw.low _ (dom_r5 ha))) (intKind_is _ _ _ _) (PySem.F.args_dict_setdefault_3 _ _ _) hl (by rw [sizeLine_eq]; omega) fun h' o' F' N' hd' => h h' o' F' (hback (W.put5 a o' k v) _ h' (by funext q; cases q <;> rfl) rfl rfl (obj_put5 a o' k v) (S.at o') ?_) (wf_put5 a o' k v hw hd')
  rw [oba_put5]; exact N'

noncomputable def Sx.setW (W : Sx) (o : Obj) (k : Int) (t : Tok) : Sx := fun f => match f with | .wo => o | .wk => k | .wkt => t | f => W f
theorem addrs_setW (o : Obj) (k : Int) (t : Tok) : addrs (W.setW o k t) = addrs W := by unfold addrs; rfl
theorem wf_setW (o : Obj) (k : Int) (t : Tok) (h : Wf prog w W) (ho : o.IsDictOf (strKind prog w) [("cells", .ref (W .ca)), ("spot", .int k t)]) (hk : 0 ≤ k) : Wf prog w (W.setW o k t) := ⟨h.role, h.root, h.d0, h.d4, h.d5, fun r hr => (by cases r <;> exact h.low _ hr), h.nod, ho, h.cells, h.few, hk⟩
theorem run_setW {led2 : Obj → List (Addr × Obj)} (k : Int) (t t' : Tok) {Q : Unit → Shared → Prop} (F : Fr h₀ L s.heap m) (N : News h₀ L s.heap news) (hw : Wf prog w W)
    (S : SpF (addrs W) (led w.params W) (fun o => led w.params (W.setW o k t)) news led2)
    (h : ∀ h' o, Fr h₀ L h' m → News h₀ L h' (led2 o) → Wf prog w (W.setW o k t) → Q () { s with heap := h', toks := s.toks + 1 }) (hk : 0 ≤ k) : wpAny (model prog w) A (setItem (.ref (W .wd)) (.str "spot" t') (.int k t)) Q E s := by
  obtain ⟨others, ho, N1, hback⟩ := led_chg hw (r := .w0) (dom_w (by simp)) N (sp_in (S.at default))
  refine kda_set (knd := strKind prog w) F N1 (UpdF.head ho) hw.dw (strKind_is _ _ _ _) (by rw [sizeLine_eq]; exact Nat.le_of_ble_eq_true rfl) fun h' o' F' N' hd' => h h' o' F' (hback (W.setW o' k t) _ h' (by funext q; cases q <;> rfl) rfl rfl (fun q hq => ?_) (S.at o') N') (wf_setW o' k t hw hd' hk)
  cases q <;> first | rfl | exact absurd rfl hq

noncomputable def Sx.addM (W : Sx) (p : Addr × Obj) : Sx := fun f => match f with | .ms => p :: (W .ms) | f => W f
theorem led_addM {P : Params} {q p : Addr × Obj} (h : q ∈ led P (W.addM p)) : q = p ∨ q ∈ led P W := by
  unfold led at h ⊢
  rcases List.mem_append.mp h with h | h
  · exact .inr (List.mem_append_left _ h)
  · rcases List.mem_cons.mp h with h | h
    · exact .inl h
    · exact .inr (List.mem_append_right _ h)
theorem addrs_addM {p : Addr × Obj} {x : Addr} (h : x ∈ addrs (W.addM p)) : x = p.1 ∨ x ∈ addrs W := by
  unfold addrs at h ⊢
  rcases List.mem_append.mp h with h | h
  · exact .inr (List.mem_append_left _ h)
  · rcases List.mem_cons.mp h with h | h
    · exact .inl h
    · exact .inr (List.mem_append_right _ h)
theorem wf_addM {p : Addr × Obj} (h : Wf prog w W) (hp : p.1 ∉ addrs W) : Wf prog w (W.addM p) := by
  obtain ⟨ρ, h1, h2⟩ := h.role
  refine ⟨⟨fun x => if x = p.1 then none else ρ x, fun r hr => ?_, fun q hq => ?_⟩, h.root, h.d0, h.d4, h.d5, fun r hr => (by cases r <;> exact h.low _ hr), ?_, h.dw, h.cells, h.few, h.spot⟩
  · have hr' : r ∈ dom W := hr
    have : adr W r ≠ p.1 := fun e => hp (e ▸ adr_mem hr')
    show (if adr W r = p.1 then none else ρ (adr W r)) = some r
    rw [if_neg this]; exact h1 r hr'
  · show (if q.1 = p.1 then none else ρ q.1) = none
    rcases List.mem_cons.mp hq with rfl | hq
    · rw [if_pos rfl]
    · split
      · rfl
      · exact h2 q hq
  · show (p.1 :: (W .ms).map (·.1)).Nodup
    refine List.nodup_cons.mpr ⟨fun hm => hp ?_, h.nod⟩
    unfold addrs; exact List.mem_append_right _ hm

inductive Fold (P : Params) (W₀ : Sx) : List (Addr × Obj) → Sx → Prop
  | base : Fold P W₀ (led P W₀) W₀
  | cons {p l W} : p.1 ∉ addrs W → Fold P W₀ l W → Fold P W₀ (p :: l) (W.addM p)
theorem Fold.sub {P : Params} {W₀ W : Sx} {l : List (Addr × Obj)} (h : Fold P W₀ l W) : ∀ p ∈ led P W, p ∈ l := by
  induction h with
  | base => exact fun p hp => hp
  | cons _ _ ih => exact fun p hp => (led_addM hp).elim (fun e => e ▸ .head _) fun h => .tail _ (ih p h)
theorem Fold.nws {P : Params} {W₀ W : Sx} {l : List (Addr × Obj)} {h : Heap} (S : Fold P W₀ l W) (N : News h₀ L h l) : News h₀ L h (led P W) := news_sub N S.sub
theorem Fold.wf {P : Params} {W₀ W : Sx} {l : List (Addr × Obj)} (S : Fold P W₀ l W) (h : Wf prog w W₀) : Wf prog w W := by
  induction S with
  | base => exact h
  | cons hp _ ih => exact wf_addM ih hp

end
structure ERec where
  ex : Addr
  et : Nat → Tok
  ef : Nat → Value
  en : Value
  eu : Value
  eh : Value
  ep : Value
  er : Value
  ey : Value
noncomputable def Sx.addE (W : Sx) (x : Addr) (R : ERec) : Sx := fun f => match f with | .es => x :: (W .es) | .ex => upd (W .ex) x R.ex | .et => upd (W .et) x R.et | .ef => upd (W .ef) x R.ef | .en => upd (W .en) x R.en | .eu => upd (W .eu) x R.eu | .eh => upd (W .eh) x R.eh | .ep => upd (W .ep) x R.ep | .er => upd (W .er) x R.er | .ey => upd (W .ey) x R.ey | f => W f

noncomputable def entR (P : Params) (R : ERec) : List DictEntry :=
  [⟨PyData.keyHash P "kind", .str "kind" (R.et 0), R.ef 0⟩,
    ⟨PyData.keyHash P "name", .str "name" (R.et 1), R.ef 1⟩,
    ⟨PyData.keyHash P "key", .str "key" (R.et 2), R.ef 2⟩,
    ⟨PyData.keyHash P "subtype", .str "subtype" (R.et 3), R.ef 3⟩,
    ⟨PyData.keyHash P "data", .str "data" (R.et 4), R.ef 4⟩,
    ⟨PyData.keyHash P "line", .str "line" (R.et 5), R.ef 5⟩,
    ⟨PyData.keyHash P "number", .str "number" (R.et 6), R.en⟩,
    ⟨PyData.keyHash P "unique", .str "unique" (R.et 7), R.eu⟩,
    ⟨PyData.keyHash P "home", .str "home" (R.et 8), R.eh⟩,
    ⟨PyData.keyHash P "part", .str "part" (R.et 9), R.ep⟩,
    ⟨PyData.keyHash P "region", .str "region" (R.et 10), R.er⟩,
    ⟨PyData.keyHash P "full", .str "full" (R.et 11), .none⟩,
    ⟨PyData.keyHash P "is_ready", .str "is_ready" (R.et 12), R.ey⟩,
    ⟨PyData.keyHash P "is_complete", .str "is_complete" (R.et 13), .bool false⟩,
    ⟨PyData.keyHash P "is_constant", .str "is_constant" (R.et 14), .bool false⟩,
    ⟨PyData.keyHash P "is_implicit", .str "is_implicit" (R.et 15), .bool false⟩,
    ⟨PyData.keyHash P "is_overridden", .str "is_overridden" (R.et 16), .bool false⟩]
structure RRec where
  dx : Addr
  kt : Nat → Tok
  kd : Str
  kdt : Tok
  ow : Value
  pa : Value
  ro : Addr
  mc : Int
  mct : Tok
  nu : Int
  nut : Tok
  lv : Int
  lvt : Tok
  pt : Str
  ptt : Tok
  a0 : Addr
  a1 : Addr
  a2 : Addr
  a3 : Addr
  a4 : Addr
  a5 : Addr
  o0 : Obj
  o4 : Obj
  o5 : Obj
  ge : Value
noncomputable def Sx.addR (W : Sx) (x : Addr) (R : RRec) : Sx := fun f => match f with | .rs => x :: (W .rs) | .dx => upd (W .dx) x R.dx | .kt => upd (W .kt) x R.kt | .kd => upd (W .kd) x R.kd | .kdt => upd (W .kdt) x R.kdt | .ow => upd (W .ow) x R.ow | .pa => upd (W .pa) x R.pa | .ro => upd (W .ro) x R.ro | .mc => upd (W .mc) x R.mc | .mct => upd (W .mct) x R.mct | .nu => upd (W .nu) x R.nu | .nut => upd (W .nut) x R.nut | .lv => upd (W .lv) x R.lv | .lvt => upd (W .lvt) x R.lvt | .pt => upd (W .pt) x R.pt | .ptt => upd (W .ptt) x R.ptt | .a0 => upd (W .a0) x R.a0 | .a1 => upd (W .a1) x R.a1 | .a2 => upd (W .a2) x R.a2 | .a3 => upd (W .a3) x R.a3 | .a4 => upd (W .a4) x R.a4 | .a5 => upd (W .a5) x R.a5 | .o0 => upd (W .o0) x R.o0 | .o4 => upd (W .o4) x R.o4 | .o5 => upd (W .o5) x R.o5 | .ge => upd (W .ge) x R.ge | .k0 => upd (W .k0) x [] | .l1 => upd (W .l1) x [] | .n1 => upd (W .n1) x 0 | .l2 => upd (W .l2) x [] | .n2 => upd (W .n2) x 0 | .l3 => upd (W .l3) x [] | .n3 => upd (W .n3) x 0 | .k4 => upd (W .k4) x [] | .k5 => upd (W .k5) x [] | f => W f
noncomputable def regR (P : Params) (R : RRec) : List DictEntry :=
  [⟨PyData.keyHash P "kind", .str "kind" (R.kt 0), .str (R.kd) (R.kdt)⟩,
    ⟨PyData.keyHash P "owner", .str "owner" (R.kt 1), R.ow⟩,
    ⟨PyData.keyHash P "parent", .str "parent" (R.kt 2), R.pa⟩,
    ⟨PyData.keyHash P "root", .str "root" (R.kt 3), .ref (R.ro)⟩,
    ⟨PyData.keyHash P "made", .str "made" (R.kt 4), .int (R.mc) (R.mct)⟩,
    ⟨PyData.keyHash P "number", .str "number" (R.kt 5), .int (R.nu) (R.nut)⟩,
    ⟨PyData.keyHash P "level", .str "level" (R.kt 6), .int (R.lv) (R.lvt)⟩,
    ⟨PyData.keyHash P "part", .str "part" (R.kt 7), .str (R.pt) (R.ptt)⟩,
    ⟨PyData.keyHash P "names", .str "names" (R.kt 8), .ref (R.a0)⟩,
    ⟨PyData.keyHash P "order", .str "order" (R.kt 9), .ref (R.a1)⟩,
    ⟨PyData.keyHash P "uses", .str "uses" (R.kt 10), .ref (R.a2)⟩,
    ⟨PyData.keyHash P "use_types", .str "use_types" (R.kt 11), .ref (R.a3)⟩,
    ⟨PyData.keyHash P "counts", .str "counts" (R.kt 12), .ref (R.a4)⟩,
    ⟨PyData.keyHash P "type_homes", .str "type_homes" (R.kt 13), .ref (R.a5)⟩,
    ⟨PyData.keyHash P "generic", .str "generic" (R.kt 14), R.ge⟩]
section
variable {prog : Program} {w : World} {W : Sx}
theorem regE_addR {P : Params} {x : Addr} {R : RRec} : regE P (W.addR x R) x = regR P R := by
  dsimp only [regE, regR, Sx.addR]; simp only [upd_same]
theorem regE_addR_ne {P : Params} {x b : Addr} {R : RRec} (h : b ≠ x) : regE P (W.addR x R) b = regE P W b := by
  dsimp only [regE, Sx.addR]; simp only [upd_ne _ _ h]
theorem entE_addE {P : Params} {x : Addr} {R : ERec} : entE P (W.addE x R) x = entR P R := by
  dsimp only [entE, entR, Sx.addE]; simp only [upd_same]
theorem entE_addE_ne {P : Params} {x b : Addr} {R : ERec} (h : b ≠ x) : entE P (W.addE x R) b = entE P W b := by
  dsimp only [entE, Sx.addE]; simp only [upd_ne _ _ h]

noncomputable def eNew (P : Params) (x : Addr) (R : ERec) : List (Addr × Obj) := [(x, instObj 31 R.ex), (R.ex, dictOf (entR P R) 17)]
noncomputable def rNew (P : Params) (x : Addr) (R : RRec) : List (Addr × Obj) := [(x, instObj 106 R.dx), (R.dx, dictOf (regR P R) 15), (R.a0, R.o0), (R.a1, PySem.W.listOf #[] 0), (R.a2, PySem.W.listOf #[] 0), (R.a3, PySem.W.listOf #[] 0), (R.a4, R.o4), (R.a5, R.o5)]
theorem mem_dom {r : Role} : r ∈ dom W ↔ (∃ a ∈ (W .rs), r ∈ rRoles a) ∨ (∃ e ∈ (W .es), r ∈ eRoles e) ∨ r = .w0 ∨ r = .w1 := by
  unfold dom
  simp only [List.mem_append, List.mem_flatMap, List.mem_cons, List.not_mem_nil, or_false]
theorem rs_addrs {a : Addr} (h : a ∈ (W .rs)) : a ∈ addrs W := adr_mem (r := .ri a) (dom_ri h)
theorem es_addrs {a : Addr} (h : a ∈ (W .es)) : a ∈ addrs W := adr_mem (r := .ei a) (dom_ei h)
theorem led_addE {P : Params} {x : Addr} {R : ERec} (hx : x ∉ addrs W) {p : Addr × Obj} (h : p ∈ led P (W.addE x R)) : p ∈ eNew P x R ∨ p ∈ led P W := by
  unfold led at h
  rcases List.mem_append.mp h with h | h
  · obtain ⟨r, hr0, rfl⟩ := List.mem_map.mp h
    rcases mem_dom.mp hr0 with ⟨a, ha, hr⟩ | ⟨e, he, hr⟩ | rfl | rfl
    · refine .inr ?_
      have := mem_of_role (P := P) (dom_r (W := W) ha hr)
      unfold rRoles at hr
      simp only [List.mem_cons, List.not_mem_nil, or_false] at hr
      rcases hr with rfl | rfl | rfl | rfl | rfl | rfl | rfl | rfl <;> exact this
    · by_cases hex : e = x
      · subst hex
        refine .inl ?_
        unfold eRoles at hr
        simp only [List.mem_cons, List.not_mem_nil, or_false] at hr
        unfold eNew
        rcases hr with rfl | rfl
        · show (e, instObj 31 (upd (W .ex) e R.ex e)) ∈ _
          rw [upd_same]; exact .head _
        · show (upd (W .ex) e R.ex e, dictOf (entE P (W.addE e R) e) 17) ∈ _
          rw [upd_same, entE_addE]; exact .tail _ (.head _)
      · have he' : e ∈ (W .es) := (List.mem_cons.mp he).resolve_left hex
        refine .inr ?_
        have := mem_of_role (P := P) (dom_e (W := W) he' hr)
        unfold eRoles at hr
        simp only [List.mem_cons, List.not_mem_nil, or_false] at hr
        rcases hr with rfl | rfl
        · show (e, instObj 31 (upd (W .ex) x R.ex e)) ∈ _
          rw [upd_ne _ _ hex]; exact this
        · show (upd (W .ex) x R.ex e, dictOf (entE P (W.addE x R) e) 17) ∈ _
          rw [upd_ne _ _ hex, entE_addE_ne hex]; exact this
    · exact .inr mem_w0
    · exact .inr mem_w1
  · exact .inr (mem_ms h)
theorem addrs_of_led {P : Params} {W W' : Sx} {l : List (Addr × Obj)} (h : ∀ p ∈ led P W', p ∈ l ∨ p ∈ led P W) {x : Addr} (hx : x ∈ addrs W') : x ∈ l.map (·.1) ∨ x ∈ addrs W := by
  rw [← led_map P] at hx
  obtain ⟨p, hp, rfl⟩ := List.mem_map.mp hx
  rcases h p hp with h | h
  · exact .inl (List.mem_map_of_mem h)
  · exact .inr (mem_addrs h)
theorem ne_ad {x y : Addr} (hx : x ∉ addrs W) (hy : y ∈ addrs W) : ¬ y = x := fun e => hx (e ▸ hy)
theorem lowA_r {W : Sx} {a : Addr} {r : Role} (hr : r ∈ rRoles a) : lowA W r = adr W r := by
  unfold rRoles at hr
  simp only [List.mem_cons, List.not_mem_nil, or_false] at hr
  rcases hr with rfl | rfl | rfl | rfl | rfl | rfl | rfl | rfl <;> rfl
theorem adrE_r {W : Sx} {x a : Addr} {R : ERec} {r : Role} (hr : r ∈ rRoles a) : adr (W.addE x R) r = adr W r := by
  unfold rRoles at hr
  simp only [List.mem_cons, List.not_mem_nil, or_false] at hr
  rcases hr with rfl | rfl | rfl | rfl | rfl | rfl | rfl | rfl <;> rfl
theorem wf_addE {x : Addr} {R : ERec} (h : Wf prog w W) (hx : x ∉ addrs W) (hd : R.ex ∉ addrs W) (hn : x ≠ R.ex) (hl : @LT.lt Nat _ sysModules x) (hl' : @LT.lt Nat _ sysModules R.ex) : Wf prog w (W.addE x R) := by
  obtain ⟨ρ, h1, h2⟩ := h.role
  refine ⟨⟨fun y => if y = x then some (.ei x) else if y = R.ex then some (.ed x) else ρ y, fun r hr0 => ?_, fun q hq => ?_⟩, h.root, h.d0, h.d4, h.d5, fun r hr0 => ?_, h.nod, h.dw, h.cells, h.few, h.spot⟩
  · have key : ∀ {y : Addr} {o : Option Role}, y ∈ addrs W → ρ y = o → (if y = x then some (Role.ei x) else if y = R.ex then some (.ed x) else ρ y) = o := fun {y o} hy e => by
      rw [if_neg (ne_ad hx hy), if_neg (ne_ad hd hy)]; exact e
    rcases mem_dom.mp hr0 with ⟨a, ha, hr⟩ | ⟨e, he, hr⟩ | rfl | rfl
    · have hd' := dom_r (W := W) ha hr
      rw [adrE_r hr]; exact key (adr_mem hd') (h1 r hd')
    · by_cases hex : e = x
      · subst hex
        unfold eRoles at hr
        simp only [List.mem_cons, List.not_mem_nil, or_false] at hr
        rcases hr with rfl | rfl
        · show (if e = e then _ else _) = _
          rw [if_pos rfl]
        · unfold adr; dsimp only [Sx.addE]; rw [upd_same, if_neg (Ne.symm hn), if_pos rfl]
      · have he' : e ∈ (W .es) := (List.mem_cons.mp he).resolve_left hex
        have hd' := dom_e (W := W) he' hr
        have z := key (adr_mem hd') (h1 r hd')
        unfold eRoles at hr
        simp only [List.mem_cons, List.not_mem_nil, or_false] at hr
        rcases hr with rfl | rfl
        · exact z
        · unfold adr at z ⊢; unfold Sx.addE; dsimp only at z ⊢; rw [upd_ne _ _ hex]; exact z
    · exact key (adr_mem (r := .w0) (dom_w (by simp))) (h1 .w0 (dom_w (by simp)))
    · exact key (adr_mem (r := .w1) (dom_w (by simp))) (h1 .w1 (dom_w (by simp)))
  · have hq' : q.1 ∈ addrs W := by unfold addrs; exact List.mem_append_right _ (List.mem_map_of_mem hq)
    show (if q.1 = x then _ else _) = _
    rw [if_neg (ne_ad hx hq'), if_neg (ne_ad hd hq')]; exact h2 q hq
  · rcases mem_dom.mp hr0 with ⟨a, ha, hr⟩ | ⟨e, he, hr⟩ | rfl | rfl
    · have z := h.low r (dom_r (W := W) ha hr)
      rw [lowA_r hr] at z ⊢; rw [adrE_r hr]; exact z
    · unfold eRoles at hr
      simp only [List.mem_cons, List.not_mem_nil, or_false] at hr
      by_cases hex : e = x
      · subst hex
        rcases hr with rfl | rfl
        · exact hl
        · unfold lowA adr; dsimp only [Sx.addE]; rw [upd_same]; exact hl'
      · have he' : e ∈ (W .es) := (List.mem_cons.mp he).resolve_left hex
        rcases hr with rfl | rfl
        · exact h.low (.ei e) (dom_ei he')
        · unfold lowA adr; dsimp only [Sx.addE]; rw [upd_ne _ _ hex]; exact h.low (.ed e) (dom_ed he')
    · exact h.low .w0 (dom_w (by simp))
    · exact h.low .w1 (dom_w (by simp))
theorem role_add : ∀ (ps : List (Addr × Role)) (ρ : Addr → Option Role), (ps.map (·.1)).Nodup → ∃ ρ' : Addr → Option Role, (∀ p ∈ ps, ρ' p.1 = some p.2) ∧ ∀ y, y ∉ ps.map (·.1) → ρ' y = ρ y
  | [], ρ, _ => ⟨ρ, fun _ hp => absurd hp List.not_mem_nil, fun _ _ => rfl⟩
  | p :: ps, ρ, hn => by
    obtain ⟨ρ', h1, h2⟩ := role_add ps ρ (List.nodup_cons.mp hn).2
    refine ⟨fun y => if y = p.1 then some p.2 else ρ' y, fun q hq => ?_, fun y hy => ?_⟩
    · rcases List.mem_cons.mp hq with rfl | hq
      · exact if_pos rfl
      · exact (if_neg fun e => (List.nodup_cons.mp hn).1 (by show p.1 ∈ _; rw [← e]; exact List.mem_map_of_mem hq)).trans (h1 q hq)
    · exact (if_neg fun e => hy (by rw [e]; exact .head _)).trans (h2 y fun h => hy (List.mem_cons_of_mem _ h))
noncomputable def regP (x : Addr) (R : RRec) : List (Addr × Role) := [(x, .ri x), (R.dx, .rd x), (R.a0, .r0 x), (R.a1, .r1 x), (R.a2, .r2 x), (R.a3, .r3 x), (R.a4, .r4 x), (R.a5, .r5 x)]
theorem adr_new {W : Sx} {x : Addr} {R : RRec} {r : Role} (hr : r ∈ rRoles x) : (adr (W.addR x R) r, r) ∈ regP x R := by
  unfold rRoles at hr
  simp only [List.mem_cons, List.not_mem_nil, or_false] at hr
  rcases hr with rfl | rfl | rfl | rfl | rfl | rfl | rfl | rfl
  · exact .head _
  · show (upd (W .dx) x R.dx x, _) ∈ _
    rw [upd_same]; exact .tail _ (.head _)
  · show (upd (W .a0) x R.a0 x, _) ∈ _
    rw [upd_same]; exact .tail _ (.tail _ (.head _))
  · show (upd (W .a1) x R.a1 x, _) ∈ _
    rw [upd_same]; exact .tail _ (.tail _ (.tail _ (.head _)))
  · show (upd (W .a2) x R.a2 x, _) ∈ _
    rw [upd_same]; exact .tail _ (.tail _ (.tail _ (.tail _ (.head _))))
  · show (upd (W .a3) x R.a3 x, _) ∈ _
    rw [upd_same]; exact .tail _ (.tail _ (.tail _ (.tail _ (.tail _ (.head _)))))
  · show (upd (W .a4) x R.a4 x, _) ∈ _
    rw [upd_same]; exact .tail _ (.tail _ (.tail _ (.tail _ (.tail _ (.tail _ (.head _))))))
  · show (upd (W .a5) x R.a5 x, _) ∈ _
    rw [upd_same]; exact .tail _ (.tail _ (.tail _ (.tail _ (.tail _ (.tail _ (.tail _ (.head _)))))))
theorem adr_old {W : Sx} {x a : Addr} {R : RRec} {r : Role} (hax : a ≠ x) (hr : r ∈ rRoles a) : adr (W.addR x R) r = adr W r := by
  unfold rRoles at hr
  simp only [List.mem_cons, List.not_mem_nil, or_false] at hr
  rcases hr with rfl | rfl | rfl | rfl | rfl | rfl | rfl | rfl <;> first | rfl | exact upd_ne _ _ hax
theorem adr_oldE {W : Sx} {x a : Addr} {R : RRec} {r : Role} (hr : r ∈ eRoles a) : adr (W.addR x R) r = adr W r := by
  unfold eRoles at hr
  simp only [List.mem_cons, List.not_mem_nil, or_false] at hr
  rcases hr with rfl | rfl <;> rfl
theorem obj_old {P : Params} {W : Sx} {x a : Addr} {R : RRec} {r : Role} (hax : a ≠ x) (hr : r ∈ rRoles a) : obj P (W.addR x R) r = obj P W r := by
  unfold rRoles at hr
  simp only [List.mem_cons, List.not_mem_nil, or_false] at hr
  rcases hr with rfl | rfl | rfl | rfl | rfl | rfl | rfl | rfl
  · show instObj 106 (upd (W .dx) x R.dx a) = _
    rw [upd_ne _ _ hax]; rfl
  · show dictOf (regE P (W.addR x R) a) 15 = _
    rw [regE_addR_ne hax]; rfl
  · exact upd_ne _ _ hax
  · show PySem.W.listOf (upd (W .l1) x [] a).toArray (upd (W .n1) x 0 a) = _
    rw [upd_ne _ _ hax, upd_ne _ _ hax]; rfl
  · show PySem.W.listOf (upd (W .l2) x [] a).toArray (upd (W .n2) x 0 a) = _
    rw [upd_ne _ _ hax, upd_ne _ _ hax]; rfl
  · show PySem.W.listOf (upd (W .l3) x [] a).toArray (upd (W .n3) x 0 a) = _
    rw [upd_ne _ _ hax, upd_ne _ _ hax]; rfl
  · exact upd_ne _ _ hax
  · exact upd_ne _ _ hax
theorem led_addR {P : Params} {x : Addr} {R : RRec} (hx : x ∉ addrs W) {p : Addr × Obj} (h : p ∈ led P (W.addR x R)) : p ∈ rNew P x R ∨ p ∈ led P W := by
  unfold led at h
  rcases List.mem_append.mp h with h | h
  · obtain ⟨r, hr0, rfl⟩ := List.mem_map.mp h
    rcases mem_dom.mp hr0 with ⟨a, ha, hr⟩ | ⟨e, he, hr⟩ | rfl | rfl
    · by_cases hax : a = x
      · subst hax
        refine .inl ?_
        unfold rRoles at hr
        simp only [List.mem_cons, List.not_mem_nil, or_false] at hr
        rcases hr with rfl | rfl | rfl | rfl | rfl | rfl | rfl | rfl
        · show (a, instObj 106 (upd (W .dx) a R.dx a)) ∈ _
          rw [upd_same]; exact .head _
        · show (upd (W .dx) a R.dx a, dictOf (regE P (W.addR a R) a) 15) ∈ _
          rw [upd_same, regE_addR]; exact .tail _ (.head _)
        · show (upd (W .a0) a R.a0 a, upd (W .o0) a R.o0 a) ∈ _
          rw [upd_same, upd_same]; exact .tail _ (.tail _ (.head _))
        · show (upd (W .a1) a R.a1 a, PySem.W.listOf (upd (W .l1) a [] a).toArray (upd (W .n1) a 0 a)) ∈ _
          rw [upd_same, upd_same, upd_same]; exact .tail _ (.tail _ (.tail _ (.head _)))
        · show (upd (W .a2) a R.a2 a, PySem.W.listOf (upd (W .l2) a [] a).toArray (upd (W .n2) a 0 a)) ∈ _
          rw [upd_same, upd_same, upd_same]; exact .tail _ (.tail _ (.tail _ (.tail _ (.head _))))
        · show (upd (W .a3) a R.a3 a, PySem.W.listOf (upd (W .l3) a [] a).toArray (upd (W .n3) a 0 a)) ∈ _
          rw [upd_same, upd_same, upd_same]; exact .tail _ (.tail _ (.tail _ (.tail _ (.tail _ (.head _)))))
        · show (upd (W .a4) a R.a4 a, upd (W .o4) a R.o4 a) ∈ _
          rw [upd_same, upd_same]; exact .tail _ (.tail _ (.tail _ (.tail _ (.tail _ (.tail _ (.head _))))))
        · show (upd (W .a5) a R.a5 a, upd (W .o5) a R.o5 a) ∈ _
          rw [upd_same, upd_same]; exact .tail _ (.tail _ (.tail _ (.tail _ (.tail _ (.tail _ (.tail _ (.head _)))))))
      · have ha' : a ∈ (W .rs) := (List.mem_cons.mp ha).resolve_left hax
        refine .inr ?_
        rw [adr_old hax hr, obj_old hax hr]
        exact mem_of_role (P := P) (dom_r (W := W) ha' hr)
    · refine .inr ?_
      have := mem_of_role (P := P) (dom_e (W := W) he hr)
      unfold eRoles at hr
      simp only [List.mem_cons, List.not_mem_nil, or_false] at hr
      rcases hr with rfl | rfl <;> exact this
    · exact .inr mem_w0
    · exact .inr mem_w1
  · exact .inr (mem_ms h)
theorem wf_addR {x : Addr} {R : RRec} (h : Wf prog w W) (hf : ∀ y ∈ [x, R.dx, R.a0, R.a1, R.a2, R.a3, R.a4, R.a5], y ∉ addrs W ∧ @LT.lt Nat _ sysModules y) (hn : [x, R.dx, R.a0, R.a1, R.a2, R.a3, R.a4, R.a5].Nodup)
    (hro : R.ro = x ∨ R.ro ∈ (W .rs)) (h0 : R.o0.IsDictOf (strKind prog w) []) (h4 : R.o4.IsDictOf (strKind prog w) []) (h5 : R.o5.IsDictOf (intKind prog w) []) : Wf prog w (W.addR x R) := by
  obtain ⟨ρ, h1, h2⟩ := h.role
  obtain ⟨ρ', p1, p2⟩ := role_add (regP x R) ρ hn
  have key : ∀ y, y ∈ addrs W → ρ' y = ρ y := fun y hy => p2 y fun hm => (hf y hm).1 hy
  refine ⟨⟨ρ', fun r hr0 => ?_, fun q hq => ?_⟩, fun a ha => ?_, fun a ha => ?_, fun a ha => ?_, fun a ha => ?_, fun r hr0 => ?_, h.nod, h.dw, h.cells, h.few, h.spot⟩
  · rcases mem_dom.mp hr0 with ⟨a, ha, hr⟩ | ⟨e, he, hr⟩ | rfl | rfl
    · by_cases hax : a = x
      · subst hax; exact p1 _ (adr_new hr)
      · have hd' := dom_r (W := W) ((List.mem_cons.mp ha).resolve_left hax) hr
        rw [adr_old hax hr]; exact (key _ (adr_mem hd')).trans (h1 r hd')
    · have hd' := dom_e (W := W) he hr
      rw [adr_oldE hr]; exact (key _ (adr_mem hd')).trans (h1 r hd')
    · exact (key _ (adr_mem (r := .w0) (dom_w (by simp)))).trans (h1 .w0 (dom_w (by simp)))
    · exact (key _ (adr_mem (r := .w1) (dom_w (by simp)))).trans (h1 .w1 (dom_w (by simp)))
  · exact (key _ (by unfold addrs; exact List.mem_append_right _ (List.mem_map_of_mem hq))).trans (h2 q hq)
  · show upd (W .ro) x R.ro a ∈ x :: (W .rs)
    by_cases hax : a = x
    · subst hax; rw [upd_same]
      rcases hro with e | e
      · rw [e]; exact .head _
      · exact .tail _ e
    · rw [upd_ne _ _ hax]; exact .tail _ (h.root a ((List.mem_cons.mp ha).resolve_left hax))
  · show (upd (W .o0) x R.o0 a).IsDictOf _ (upd (W .k0) x [] a)
    by_cases hax : a = x
    · subst hax; rw [upd_same, upd_same]; exact h0
    · rw [upd_ne _ _ hax, upd_ne _ _ hax]; exact h.d0 a ((List.mem_cons.mp ha).resolve_left hax)
  · show (upd (W .o4) x R.o4 a).IsDictOf _ (upd (W .k4) x [] a)
    by_cases hax : a = x
    · subst hax; rw [upd_same, upd_same]; exact h4
    · rw [upd_ne _ _ hax, upd_ne _ _ hax]; exact h.d4 a ((List.mem_cons.mp ha).resolve_left hax)
  · show (upd (W .o5) x R.o5 a).IsDictOf _ (upd (W .k5) x [] a)
    by_cases hax : a = x
    · subst hax; rw [upd_same, upd_same]; exact h5
    · rw [upd_ne _ _ hax, upd_ne _ _ hax]; exact h.d5 a ((List.mem_cons.mp ha).resolve_left hax)
  · rcases mem_dom.mp hr0 with ⟨a, ha, hr⟩ | ⟨e, he, hr⟩ | rfl | rfl
    · rw [lowA_r hr]
      by_cases hax : a = x
      · subst hax; exact (hf _ (List.mem_map_of_mem (f := (·.1)) (adr_new hr))).2
      · have hd' := dom_r (W := W) ((List.mem_cons.mp ha).resolve_left hax) hr
        rw [adr_old hax hr, ← lowA_r hr]; exact h.low r hd'
    · have z := h.low r (dom_e (W := W) he hr)
      unfold eRoles at hr
      simp only [List.mem_cons, List.not_mem_nil, or_false] at hr
      rcases hr with rfl | rfl <;> exact z
    · exact h.low .w0 (dom_w (by simp))
    · exact h.low .w1 (dom_w (by simp))
end
inductive C3 (a1 a2 a3 : Prop) : Prop
  | mk : a1 → a2 → a3 → C3 a1 a2 a3
inductive C4 (a1 a2 a3 a4 : Prop) : Prop
  | mk : a1 → a2 → a3 → a4 → C4 a1 a2 a3 a4
inductive C6 (a1 a2 a3 a4 a5 a6 : Prop) : Prop
  | mk : a1 → a2 → a3 → a4 → a5 → a6 → C6 a1 a2 a3 a4 a5 a6
inductive C7 (a1 a2 a3 a4 a5 a6 a7 : Prop) : Prop
  | mk : a1 → a2 → a3 → a4 → a5 → a6 → a7 → C7 a1 a2 a3 a4 a5 a6 a7
theorem gen_tok {M : Model} {A : Around} {α : Type} {T : Sem α} {Q : α → Shared → Prop} {E : Value → Shared → Prop} {h g d t o} (H : ∀ tk : Nat, wpAny M A T Q E { heap := h, gens := g, drawn := d, toks := tk, os := o }) : wpAny M A T Q E { heap := h, gens := g, drawn := d, toks := t, os := o } := H t
theorem room0 {a D R : Nat} (h : a + D < R) : a < R := Nat.lt_of_le_of_lt (Nat.le_add_right a D) h
theorem room1 {a b D R : Nat} (h : a + D < R) (k : b ≤ D) : a + b < R := Nat.lt_of_le_of_lt (Nat.add_le_add_left k a) h
theorem room2 {a b c D R : Nat} (h : a + D < R) (k : b + c ≤ D) : a + b + c < R := Nat.add_assoc a b c ▸ room1 h k
theorem room3 {a b c d D R : Nat} (h : a + D < R) (k : b + c + d ≤ D) : a + b + c + d < R := Nat.add_assoc a b c ▸ room2 h k
theorem room4 {a b c d e D R : Nat} (h : a + D < R) (k : b + c + d + e ≤ D) : a + b + c + d + e < R := Nat.add_assoc a b c ▸ room3 h k
theorem UpdF.at {d : Addr} {o : Obj} {l : List (Addr × Obj)} {g : Obj → List (Addr × Obj)} (U : UpdF d o l g) (o' : Obj) : Upd d o o' l (g o') := by
  induction U with
  | head h => exact .head h
  | tail h _ ih => exact .tail h ih
theorem set_dict_l {prog : Program} {w : World} {A : Around} {E : Value → Shared → Prop} {s : Shared} {K : Frag} {x C dx L : Addr} {h₀ : Heap} {m : Str → Option Value} {news : List (Addr × Obj)} {g : Obj → List (Addr × Obj)} {ox : Obj} {es es' : List DictEntry} {n n' : Nat} {name : Str} {v : Value} {Q : Unit → Shared → Prop} (F : Fr h₀ L s.heap m) (X₀ : K.In h₀) (N : News h₀ L s.heap news) (I : InstAt s.heap x ox C (some (dictOf es n))) (hd : ox.dict = some dx)
    (hs : findIn K (.ref C) "__setattr__" = some (some (.builtin "object.__setattr__"))) (hp : plainOver K C = true) (ht : takerIn K C name = some none) (hh : hasDictIn K C = true) (hl : (getL name es).isSome = true)
    (e : (putL name (PyData.keyHash w.params name) (.str name (s.toks + 1)) v es, putN name es n) = (es', n')) (U : UpdF dx (dictOf es n) news g) (hz : es'.length ≤ 1000)
    (h : let e1 : List DictEntry := es'; ∀ h', Fr h₀ L h' m → News h₀ L h' (g (dictOf e1 n')) → Q () { s with heap := h', toks := s.toks + 2 }) :
    wpAny (model prog w) A (setAttr (.ref x) name v) Q E s := set_dict F X₀ N I hd hs hp ht hh hl e (UpdF.at U _) hz h
theorem off_at {W W' : Sx} {t : Addr} (h : t ∉ addrs W') (e : addrs W' = addrs W) : t ∉ addrs W := e ▸ h
section
variable {prog : Program} {w : World} {A : Around} {E : Value → Shared → Prop} {s : Shared} {K : Frag} {x C L : Addr} {h₀ : Heap} {m : Str → Option Value} {ox : Obj} {es : List DictEntry} {n : Nat} {name : Str} {v v' : Value}
theorem get_eq {expr : Bool} {Q : Value → Shared → Prop} {attr : Option Value} (F : Fr h₀ L s.heap m) (X₀ : K.In h₀) (I : InstAt s.heap x ox C (some (dictOf es n))) (hg : plainGet K C name = true) (hh : hasDictIn K C = true)
    (ha : findIn K (.ref C) name = some attr) (hn : noGet K attr = true) (hl : getL name es = some (some v)) (e : v = v') (hv : handedIn v' = true) (h : Q v' { s with toks := s.toks + 1 }) :
    wpAny (model prog w) A (getAttr (.ref x) name expr) Q E s := by
  subst e; exact get_own F X₀ I hg hh ha hn hl hv h
end


theorem gi_str {prog : Program} {w : World} {A : Around} {E : Value → Shared → Prop} {s : Shared} {h₀ : Heap} {L d : Addr} {news : List (Addr × Obj)} {o : Obj} {kvs : List (Str × Value)} {k : Str} {t : Tok} {v : Value} {Q : Value → Shared → Prop} (N : News h₀ L s.heap news) (hp : (d, o) ∈ news) (hd : o.IsDictOf (PySem.strKind prog w) kvs) (hl : valueAt kvs k = some v) (h : Q v { s with toks := s.toks + 1 }) :
    wpAny (model prog w) A (getItem (.ref d) (.str k t)) Q E s := wpAny_getItem_of (strKind_is _ _ _ _) (kda_dict N hp hd).mapOf hl h


section
variable {prog : Program} {w : World} {A : Around} {E : Value → Shared → Prop} {s : Shared} {K : Frag} {h₀ : Heap} {L l : Addr} {m : Str → Option Value} {news : List (Addr × Obj)} {vs : List Value} {ns : List Int} {n : Nat} {k : Int} {u : Tok}
theorem isList_news (N : News h₀ L s.heap news) (hp : (l, PySem.W.listOf vs.toArray n) ∈ news) : s.heap.IsList l vs.toArray := ⟨_, (N _ hp).1, rfl, n, rfl⟩
theorem ints_at (hI : IntsAre vs ns) (h0 : 0 ≤ k) (hk : k < vs.length) : ∃ i t, vs[k.toNat]? = some (.int i t) := by
  have hl := hI.length
  have hk' : k.toNat < ns.length := by omega
  obtain ⟨t, ht⟩ := hI.get k.toNat ns[k.toNat] (List.getElem?_eq_getElem hk')
  exact ⟨_, t, ht⟩
theorem itemL {value slice : PySem.Expr} {Q : Value → Shared → Prop} (N : News h₀ L s.heap news) (hp : (l, PySem.W.listOf vs.toArray n) ∈ news) (hI : IntsAre vs ns) (h0 : 0 ≤ k) (hk : k < vs.length) (hz : vs.length ≤ 1000)
    (h : ∀ i t, Q (.int i t) s)
    (hs : subscripted slice false (.ref l) (.int k u) = operate [.ref l, .int k u] (getItem (.ref l) (.int k u)) := by with_unfolding_all rfl) (hg : ∀ r, letTemporaryGo value (.ref l) r = pure () := by intro _; with_unfolding_all rfl) :
    wpAny (model prog w) A (subscriptTail value slice (.ref l) (.int k u)) Q E s := by
  obtain ⟨i, t, hx⟩ := ints_at hI h0 hk
  exact item_list (isList_news N hp) h0 (by omega) (by simpa using hx) (h i t) hs hg
theorem itemT {value slice : PySem.Expr} {dd : Option Addr} {sl : Array (Option Value)} {Q : Value → Shared → Prop} (F : Fr h₀ L s.heap m) (X₀ : K.In h₀) (hl : K.lookup l = some ⟨.type "tuple", dd, .seq vs.toArray n, sl⟩) (hI : IntsAre vs ns) (h0 : 0 ≤ k) (hk : k < vs.length) (hz : vs.length ≤ 1000)
    (h : ∀ i t, Q (.int i t) s)
    (hs : subscripted slice false (.ref l) (.int k u) = operate [.ref l, .int k u] (getItem (.ref l) (.int k u)) := by with_unfolding_all rfl) :
    wpAny (model prog w) A (subscriptTail value slice (.ref l) (.int k u)) Q E s := by
  obtain ⟨i, t, hx⟩ := ints_at hI h0 hk
  refine topTup_K F X₀ hl (by omega) (by omega) (j := k.toNat) ?_ hx (h i t) hs
  unfold seqIndex?
  simp only [if_neg (Int.not_lt.mpr h0)]
  have : (decide (0 ≤ k) && decide (k < (vs.length : Int))) = true := by simp [h0, hk]
  simp only [this, if_true]
end


theorem fmod_in (a : Int) {b : Int} (h : 0 < b) : 0 ≤ Int.fmod a b ∧ Int.fmod a b < b := by
  rw [Int.fmod_eq_emod_of_nonneg a (Int.le_of_lt h)]
  exact ⟨Int.emod_nonneg a (by omega), Int.emod_lt_of_pos a h⟩


noncomputable def frameK (k : Str) : Bool := (["root", "sub", "task", "protected"] : List Str).any (· == k)
section
variable {prog : Program} {w : World} {A : Around} {E : Value → Shared → Prop} {s : Shared} {h₀ : Heap} {L : Addr} {m : Str → Option Value} {k : Str} {t : Tok} {b : Bool}
theorem fillK1 : PySem.Challenge.rw_rg0008_01.prog = PySem.Challenge.rw_rg0008_01.prog ∧ hd.heap_39 = hd.heap_39 := by
  k_fill
  exact ⟨rfl, rfl⟩
theorem frame_tup {h : Heap} (X : (hd.heap_39 w.params).In h) : ∃ vs, IsTup h 89 vs.toArray ∧ StrsAre vs ["root", "sub", "task", "protected"] := by
  refine ⟨_, tupK (l := [.str "root" _, .str "sub" _, .str "task" _, .str "protected" _]) X (by k_is), ?_⟩
  repeat (first | exact StrsAre.nil | refine StrsAre.cons _ _ ?_)
theorem in_frame {Q : Value → Shared → Prop} (F : Fr h₀ L s.heap m) (X₀ : (hd.heap_39 w.params).In h₀) (hb : frameK k = b) (h : Q (.bool b) s) : wpAny (model prog w) A (compareOp .In (.str k t) (.ref 89)) Q E s := by
  obtain ⟨vs, h1, h2⟩ := frame_tup (X₀.keeps F.keep)
  exact in_tuple_strs h1 h2 (by rw [← hb] at h; exact h)
theorem notin_frame {Q : Value → Shared → Prop} (F : Fr h₀ L s.heap m) (X₀ : (hd.heap_39 w.params).In h₀) (hb : frameK k = b) (h : Q (.bool (!b)) s) : wpAny (model prog w) A (compareOp .NotIn (.str k t) (.ref 89)) Q E s := by
  obtain ⟨vs, h1, h2⟩ := frame_tup (X₀.keeps F.keep)
  exact notin_tuple_strs h1 h2 (by rw [← hb] at h; exact h)
end

noncomputable def WStep (h₀ : Heap) (L : Addr) (s : Shared) (J : Nat → (Str → Option Value) → List (Addr × Obj) → Prop) (n : Nat) (Q : Flow → Shared → Prop) (f : Flow) (s₃ : Shared) : Prop :=
  match f with
  | .ret v => Q (.ret v) s₃
  | .brk => Q .next s₃
  | _ => ∃ h' tk m₂ news₂ n', s₃ = { s with heap := h', toks := tk } ∧ Fr h₀ L h' m₂ ∧ News h₀ L h' news₂ ∧ n' < n ∧ J n' m₂ news₂
theorem WStep.intro {h₀ h' : Heap} {L : Addr} {s : Shared} {J : Nat → (Str → Option Value) → List (Addr × Obj) → Prop} {n n' tk : Nat} {Q : Flow → Shared → Prop} {m₂ : Str → Option Value} {news₂ : List (Addr × Obj)}
    (F : Fr h₀ L h' m₂) (N : News h₀ L h' news₂) (hn : n' < n) (hJ : J n' m₂ news₂) : WStep h₀ L s J n Q .next { s with heap := h', toks := tk } :=
  ⟨h', tk, m₂, news₂, n', rfl, F, N, hn, hJ⟩
theorem While_ret {prog : Program} {w : World} {A : Around} {E : Value → Shared → Prop} {Q : Flow → Shared → Prop} {s : Shared} {env : Env} {h₀ : Heap} {L : Addr} {test : PySem.Expr} {body : List Stmt} {pos : Pos} {m : Str → Option Value} {news : List (Addr × Obj)} (J : Nat → (Str → Option Value) → List (Addr × Obj) → Prop) {n₀ : Nat}
    (F : Fr h₀ L s.heap m) (N : News h₀ L s.heap news) (hJ : J n₀ m news)
    (turn : ∀ n m₁ news₁ h₁ tk₁, Fr h₀ L h₁ m₁ → News h₀ L h₁ news₁ → J n m₁ news₁ →
      wpAny (model prog w) A (isTrue test env (eval test env)) (fun b s₂ =>
        if b = true then wpAny (model prog w) A (execs body env) (WStep h₀ L s J n Q) E s₂ else Q .next s₂) E { s with heap := h₁, toks := tk₁ })
    (hE : PassesOwn (model prog w) A env E := by passes_own) :
    wpAny (model prog w) A (exec (.While test body [] pos) env) Q E s := by
  refine wpAny_While (codeAny_whileLoop (fun n s' => ∃ h₁ tk₁ m₁ news₁, s' = { s with heap := h₁, toks := tk₁ } ∧ Fr h₀ L h₁ m₁ ∧ News h₀ L h₁ news₁ ∧ J n m₁ news₁) ?_ n₀ ⟨s.heap, s.toks, m, news, rfl, F, N, hJ⟩)
  rintro n s' ⟨h₁, tk₁, m₁, news₁, rfl, F₁, N₁, J₁⟩
  refine wpAny_mono (turn n m₁ news₁ h₁ tk₁ F₁ N₁ J₁) (fun b s₂ h₂ => ?_) hE
  cases b with
  | false =>
    simp only [Bool.false_eq_true, if_false] at h₂ ⊢
    exact wpAny_execs_nil h₂
  | true =>
    simp only [if_true] at h₂ ⊢
    refine wpAny_mono h₂ (fun f s₃ h₃ => ?_) hE
    cases f with
    | ret v => exact h₃
    | brk => exact h₃
    | next =>
      obtain ⟨h', tk, m₂, news₂, n', rfl, F₂, N₂, hn, J₂⟩ := h₃
      exact ⟨n', hn, h', tk, m₂, news₂, rfl, F₂, N₂, J₂⟩
    | cont =>
      obtain ⟨h', tk, m₂, news₂, n', rfl, F₂, N₂, hn, J₂⟩ := h₃
      exact ⟨n', hn, h', tk, m₂, news₂, rfl, F₂, N₂, J₂⟩

inductive Frm (W : Sx) : Addr → Addr → Nat → Prop
  | here {a} : a ∈ (W .rs) → frameK ((W .kd) a) = true → Frm W a a 0
  | up {a b f n} : a ∈ (W .rs) → frameK ((W .kd) a) = false → (W .pa) a = .ref b → Frm W b f n → Frm W a f (n + 1)
theorem Frm.mem {W : Sx} {a f : Addr} {n : Nat} (h : Frm W a f n) : a ∈ (W .rs) := by cases h <;> assumption
theorem Frm.end {W : Sx} {a f : Addr} {n : Nat} (h : Frm W a f n) : f ∈ (W .rs) := by
  induction h with
  | here h _ => exact h
  | up _ _ _ _ ih => exact ih
theorem ite_map {x : Str} {v v' : Value} {m : Str → Option Value} : (fun y => if y = x then some v else (fun y => if y = x then some v' else m y) y) = fun y => if y = x then some v else m y := by
  funext y; by_cases h : y = x <;> simp [h]


noncomputable def HStep (h₀ : Heap) (L : Addr) (s : Shared) (x : Str) (m : Str → Option Value) (l : List (Addr × Obj)) (I : Value → Nat → Prop) (n : Nat) (Q : Flow → Shared → Prop) (f : Flow) (s₃ : Shared) : Prop :=
  match f with
  | .ret v => Q (.ret v) s₃
  | .brk => Q .next s₃
  | _ => ∃ h' tk m₂ v' n', s₃ = { s with heap := h', toks := tk } ∧ Fr h₀ L h' m₂ ∧ News h₀ L h' l ∧ m₂ x = some v' ∧ (∀ y, y ≠ x → m₂ y = m y) ∧ n' < n ∧ I v' n'
theorem HStep.intro {h₀ h' : Heap} {L : Addr} {s : Shared} {x : Str} {m m₂ : Str → Option Value} {l l' : List (Addr × Obj)} {I : Value → Nat → Prop} {n n' tk : Nat} {Q : Flow → Shared → Prop} {v' : Value}
    (F : Fr h₀ L h' m₂) (N : News h₀ L h' l') (hl : ∀ p ∈ l, p ∈ l') (hx : m₂ x = some v') (hm : ∀ y, y ≠ x → m₂ y = m y) (hn : n' < n) (hI : I v' n') : HStep h₀ L s x m l I n Q .next { s with heap := h', toks := tk } :=
  ⟨h', tk, m₂, v', n', rfl, F, news_sub N hl, hx, hm, hn, hI⟩
theorem While_here {prog : Program} {w : World} {A : Around} {E : Value → Shared → Prop} {Q : Flow → Shared → Prop} {s : Shared} {env : Env} {h₀ : Heap} {L : Addr} {test : PySem.Expr} {body : List Stmt} {pos : Pos} {m : Str → Option Value} {l : List (Addr × Obj)} (x : Str) (I : Value → Nat → Prop) {n₀ : Nat} {v : Value}
    (F : Fr h₀ L s.heap m) (N : News h₀ L s.heap l) (hx : m x = some v) (h0 : I v n₀)
    (turn : ∀ v n h₁ tk₁, I v n → Fr h₀ L h₁ (fun y => if y = x then some v else m y) → News h₀ L h₁ l →
      wpAny (model prog w) A (isTrue test env (eval test env)) (fun b s₂ =>
        if b = true then wpAny (model prog w) A (execs body env) (HStep h₀ L s x m l I n Q) E s₂ else Q .next s₂) E { s with heap := h₁, toks := tk₁ })
    (hE : PassesOwn (model prog w) A env E := by passes_own) :
    wpAny (model prog w) A (exec (.While test body [] pos) env) Q E s := by
  refine While_ret (fun n m' news' => news' = l ∧ ∃ v, m' x = some v ∧ (∀ y, y ≠ x → m' y = m y) ∧ I v n) F N ⟨rfl, v, hx, fun _ _ => rfl, h0⟩ (fun n m₁ news₁ h₁ tk₁ F₁ N₁ J => ?_) hE
  obtain ⟨rfl, v, hv, hm, hI⟩ := J
  have e : m₁ = fun y => if y = x then some v else m y := by
    funext y
    by_cases h : y = x
    · subst h; simp [hv]
    · simp [h, hm y h]
  subst e
  refine wpAny_mono (turn v n h₁ tk₁ hI F₁ N₁) (fun b s₂ h₂ => ?_) fun _ _ h => h
  cases b with
  | false => exact h₂
  | true =>
    simp only [if_true] at h₂ ⊢
    refine wpAny_mono h₂ (fun f s₃ h₃ => ?_) fun _ _ h => h
    have go : (∃ h' tk m₂ v' n', s₃ = { s with heap := h', toks := tk } ∧ Fr h₀ L h' m₂ ∧ News h₀ L h' news₁ ∧ m₂ x = some v' ∧ (∀ y, y ≠ x → m₂ y = m y) ∧ n' < n ∧ I v' n') →
        ∃ h' tk m₂ news₂ n', s₃ = { s with heap := h', toks := tk } ∧ Fr h₀ L h' m₂ ∧ News h₀ L h' news₂ ∧ n' < n ∧ (news₂ = news₁ ∧ ∃ v, m₂ x = some v ∧ (∀ y, y ≠ x → m₂ y = m y) ∧ I v n') := by
      rintro ⟨h', tk, m₂, v', n', rfl, F', N', hx', hm', hn, hI'⟩
      exact ⟨h', tk, m₂, news₁, n', rfl, F', N', hn, rfl, v', hx', hm', hI'⟩
    cases f with
    | ret v => exact h₃
    | brk => exact h₃
    | next => exact go h₃
    | cont => exact go h₃


noncomputable def ef6 (v0 v1 v2 v3 v4 v5 : Value) : Nat → Value | 0 => v0 | 1 => v1 | 2 => v2 | 3 => v3 | 4 => v4 | 5 => v5 | _ => .none
noncomputable def tok17 (t0 t1 t2 t3 t4 t5 t6 t7 t8 t9 t10 t11 t12 t13 t14 t15 t16 : Tok) : Nat → Tok
  | 0 => t0 | 1 => t1 | 2 => t2 | 3 => t3 | 4 => t4 | 5 => t5 | 6 => t6 | 7 => t7 | 8 => t8 | 9 => t9 | 10 => t10 | 11 => t11 | 12 => t12 | 13 => t13 | 14 => t14 | 15 => t15 | _ => t16


theorem led_low {prog : Program} {w : World} {W : Sx} (hw : Wf prog w W) {P : Params} {d : Addr} (h : ∀ p ∈ led P W, @LT.lt Nat _ p.1 d) : @LT.lt Nat _ sysModules d :=
  Nat.lt_trans (hw.low .w0 (dom_w (.head _))) (h _ (mem_w0 (P := P)))
theorem led_off {P : Params} {W : Sx} {d : Addr} (h : ∀ p ∈ led P W, @LT.lt Nat _ p.1 d) : d ∉ addrs W := fun hd => by
  rw [← led_map P] at hd
  obtain ⟨p, hp, rfl⟩ := List.mem_map.mp hd
  exact Nat.lt_irrefl _ (h p hp)
theorem ent_end {prog : Program} {w : World} {W : Sx} {h₀ h : Heap} {L x d : Addr} {es : List DictEntry} {R : ERec} (hw : Wf prog w W) (N : News h₀ L h ((x, instObj 31 d) :: (d, dictOf es 17) :: led w.params W)) (hR : R.ex = d) (he : es = entR w.params R)
    (l1 : ∀ p ∈ led w.params W, @LT.lt Nat _ p.1 d) (l2 : @LT.lt Nat _ d x) : News h₀ L h (led w.params (W.addE x R)) ∧ Wf prog w (W.addE x R) ∧ x ∉ addrs W := by
  have l3 : ∀ p ∈ led w.params W, @LT.lt Nat _ p.1 x := fun p hp => Nat.lt_trans (l1 p hp) l2
  have hx := led_off l3
  refine ⟨news_sub N fun p hp => ?_, wf_addE hw hx (hR ▸ led_off l1) (hR ▸ Nat.ne_of_gt l2) (led_low hw l3) (hR ▸ led_low hw l1), hx⟩
  rcases led_addE hx hp with h | h
  · subst he hR
    unfold eNew at h
    rcases List.mem_cons.mp h with h | h
    · exact h ▸ .head _
    · exact List.mem_singleton.mp h ▸ .tail _ (.head _)
  · exact .tail _ (.tail _ h)


theorem off_lt2 {P : Params} {W : Sx} {d x : Addr} (l1 : ∀ p ∈ led P W, @LT.lt Nat _ p.1 d) (l2 : @LT.lt Nat _ d x) : x ∉ addrs W := led_off fun p hp => Nat.lt_trans (l1 p hp) l2


noncomputable def Asc : Nat → List Nat → Prop
  | _, [] => True
  | a, b :: l => a < b ∧ Asc b l
theorem Asc.gt {l : List Nat} : ∀ {a : Nat}, Asc a l → ∀ y ∈ l, a < y := by
  induction l with
  | nil => exact fun _ _ h => nomatch h
  | cons b l ih =>
    intro a h y hy
    rcases List.mem_cons.mp hy with rfl | hy
    · exact h.1
    · exact Nat.lt_trans h.1 (ih h.2 y hy)
theorem Asc.nodup {l : List Nat} : ∀ {a : Nat}, Asc a l → (a :: l).Nodup := by
  induction l with
  | nil => exact fun _ => List.nodup_cons.mpr ⟨fun h => (nomatch h), List.nodup_nil⟩
  | cons b l ih => exact fun h => List.nodup_cons.mpr ⟨fun hm => Nat.lt_irrefl _ (Asc.gt (l := b :: l) h _ hm), ih h.2⟩
theorem eight {α : Type} {a b c d e f g h : α} : List.Perm [a, b, c, d, e, f, g, h] [h, g, f, e, d, c, a, b] := by
  refine ((List.Perm.swap b a [c, d, e, f, g, h])).trans ?_
  exact (List.reverse_perm [b, a, c, d, e, f, g, h]).symm
theorem reg_end {prog : Program} {w : World} {W : Sx} {h₀ h : Heap} {L x d d0 e1 e2 e3 d4 d5 : Addr} {o0 o4 o5 : Obj} {es : List DictEntry} {R : RRec} (hw : Wf prog w W)
    (N : News h₀ L h ((d5, o5) :: (d4, o4) :: (e3, PySem.W.listOf #[] 0) :: (e2, PySem.W.listOf #[] 0) :: (e1, PySem.W.listOf #[] 0) :: (d0, o0) :: (x, instObj 106 d) :: (d, dictOf es 15) :: led w.params W))
    (hR : R.dx = d ∧ R.a0 = d0 ∧ R.a1 = e1 ∧ R.a2 = e2 ∧ R.a3 = e3 ∧ R.a4 = d4 ∧ R.a5 = d5 ∧ R.o0 = o0 ∧ R.o4 = o4 ∧ R.o5 = o5) (he : es = regR w.params R)
    {W₀ : Sx} (l1 : ∀ p ∈ led w.params W₀, @LT.lt Nat _ p.1 d) (la : addrs W = addrs W₀) (l2 : @LT.lt Nat _ d x) (l3 : @LT.lt Nat _ x d0) (l4 : @LT.lt Nat _ d0 e1) (l5 : @LT.lt Nat _ e1 e2) (l6 : @LT.lt Nat _ e2 e3) (l7 : @LT.lt Nat _ e3 d4) (l8 : @LT.lt Nat _ d4 d5)
    (hro : R.ro = x ∨ R.ro ∈ (W .rs)) (h0 : o0.IsDictOf (strKind prog w) []) (h4 : o4.IsDictOf (strKind prog w) []) (h5 : o5.IsDictOf (intKind prog w) []) :
    News h₀ L h (led w.params (W.addR x R)) ∧ Wf prog w (W.addR x R) ∧ x ∉ addrs W := by
  obtain ⟨r1, r2, r3, r4, r5, r6, r7, r8, r9, r10⟩ := hR
  have key : ∀ y, @LE.le Nat _ d y → y ∉ addrs W ∧ @LT.lt Nat _ sysModules y := fun y hy => by
    have l0 : ∀ p ∈ led w.params W, @LT.lt Nat _ p.1 y := fun p hp => by
      have hz := mem_addrs hp
      rw [la, ← led_map w.params] at hz
      obtain ⟨q, hq, e⟩ := List.mem_map.mp hz
      exact e ▸ Nat.lt_of_lt_of_le (l1 q hq) hy
    exact ⟨led_off l0, led_low hw l0⟩
  have hx := (key x (Nat.le_of_lt l2)).1
  have asc : Asc d [x, d0, e1, e2, e3, d4, d5] := ⟨l2, l3, l4, l5, l6, l7, l8, trivial⟩
  refine ⟨news_sub N fun p hp => ?_, wf_addR hw (fun y hy => key y ?_) ?_ hro (r8 ▸ h0) (r9 ▸ h4) (r10 ▸ h5), hx⟩
  · rcases led_addR hx hp with h | h
    · subst he
      unfold rNew at h
      rw [r1, r2, r3, r4, r5, r6, r7, r8, r9, r10] at h
      exact List.Perm.subset eight h |> fun h => List.mem_append_left (led w.params W) h
    · exact List.mem_append_right [_, _, _, _, _, _, _, _] h
  · rw [r1, r2, r3, r4, r5, r6, r7] at hy
    rcases List.mem_cons.mp ((List.Perm.swap d x _).subset hy) with e | e
    · exact e ▸ Nat.le_refl _
    · exact Nat.le_of_lt (asc.gt y e)
  · rw [r1, r2, r3, r4, r5, r6, r7]
    exact (List.Perm.swap x d _).nodup_iff.mp asc.nodup
theorem setMc_same {W : Sx} {a : Addr} {i : Int} {t : Tok} : (W.setMc a i t) .mc a = i := upd_same _ _ _
theorem setMct_same {W : Sx} {a : Addr} {i : Int} {t : Tok} : (W.setMc a i t) .mct a = t := upd_same _ _ _


theorem meth_append {prog : Program} {w : World} {A : Around} {E : Value → Shared → Prop} {s : Shared} {h₀ : Heap} {L l : Addr} {news : List (Addr × Obj)} {its : Array Value} {n : Nat} {pl : Sem Bool} {Q : Value × List Value → Shared → Prop} (N : News h₀ L s.heap news) (hp : (l, PySem.W.listOf its n) ∈ news) (h : Q (.builtin "list.append", [.ref l]) s) :
    wpAny (model prog w) A (getMethod (.ref l) "append" pl) Q E s :=
  getMethod_builtin ⟨_, (N _ hp).1, rfl⟩ PySem.F.plainAttrs_list PySem.F.slot_list_append PySem.F.type_list_append (fun a e => by cases e; exact ⟨_, (N _ hp).1, rfl⟩) h
noncomputable def Sx.delM (W : Sx) (x : Addr) : Sx := fun f => match f with | .ms => (W .ms).filter fun p => !(p.1 == x) | f => W f
theorem led_delM {P : Params} {W : Sx} {x : Addr} {p : Addr × Obj} (h : p ∈ led P (W.delM x)) : p ∈ led P W := by
  unfold led at h ⊢
  rcases List.mem_append.mp h with h | h
  · exact List.mem_append_left _ h
  · exact List.mem_append_right _ (List.mem_filter.mp h).1
theorem off_delM {prog : Program} {w : World} {W : Sx} {x : Addr} {o : Obj} (hw : Wf prog w W) (hm : (x, o) ∈ (W .ms)) : x ∉ addrs (W.delM x) := by
  intro h
  unfold addrs at h
  rcases List.mem_append.mp h with h | h
  · obtain ⟨r, hr, e⟩ := List.mem_map.mp h
    obtain ⟨ρ, h1, h2⟩ := hw.role
    have a := h1 r hr
    have e' : adr W r = x := e
    rw [e', h2 (x, o) hm] at a
    cases a
  · obtain ⟨p, hp, e⟩ := List.mem_map.mp h
    have := (List.mem_filter.mp hp).2
    rw [e] at this
    simp at this
theorem wf_delM {prog : Program} {w : World} {W : Sx} {x : Addr} (h : Wf prog w W) : Wf prog w (W.delM x) := by
  obtain ⟨ρ, h1, h2⟩ := h.role
  exact ⟨⟨ρ, h1, fun p hp => h2 p (List.mem_filter.mp hp).1⟩, h.root, h.d0, h.d4, h.d5, h.low, h.nod.sublist ((List.filter_sublist (l := (W .ms))).map _), h.dw, h.cells, h.few, h.spot⟩
theorem ms_delM {W : Sx} {x : Addr} {p : Addr × Obj} (h : p ∈ (W .ms)) (hn : p.1 ≠ x) : p ∈ (W.delM x) .ms := List.mem_filter.mpr ⟨h, by simpa using hn⟩
theorem addrs_ms {W : Sx} {p : Addr × Obj} (h : p ∈ (W .ms)) : p.1 ∈ addrs W := by
  unfold addrs; exact List.mem_append_right _ (List.mem_map_of_mem h)

theorem off_setMc {W : Sx} {t : Addr} {a : Addr} {i : Int} {k : Tok} (h : t ∉ addrs W) : t ∉ addrs (W.setMc a i k) := by rw [addrs_setMc]; exact h
theorem off_setPt {W : Sx} {t : Addr} {a : Addr} {i : Str} {k : Tok} (h : t ∉ addrs W) : t ∉ addrs (W.setPt a i k) := by rw [addrs_setPt]; exact h
theorem off_setGe {W : Sx} {t : Addr} {a : Addr} {v : Value} (h : t ∉ addrs W) : t ∉ addrs (W.setGe a v) := by rw [addrs_setGe]; exact h
theorem off_setEn {W : Sx} {t : Addr} {a : Addr} {v : Value} (h : t ∉ addrs W) : t ∉ addrs (W.setEn a v) := by rw [addrs_setEn]; exact h
theorem off_setEu {W : Sx} {t : Addr} {a : Addr} {v : Value} (h : t ∉ addrs W) : t ∉ addrs (W.setEu a v) := by rw [addrs_setEu]; exact h
theorem off_setEh {W : Sx} {t : Addr} {a : Addr} {v : Value} (h : t ∉ addrs W) : t ∉ addrs (W.setEh a v) := by rw [addrs_setEh]; exact h
theorem off_setEp {W : Sx} {t : Addr} {a : Addr} {v : Value} (h : t ∉ addrs W) : t ∉ addrs (W.setEp a v) := by rw [addrs_setEp]; exact h
theorem off_setEr {W : Sx} {t : Addr} {a : Addr} {v : Value} (h : t ∉ addrs W) : t ∉ addrs (W.setEr a v) := by rw [addrs_setEr]; exact h
theorem off_setEy {W : Sx} {t : Addr} {a : Addr} {v : Value} (h : t ∉ addrs W) : t ∉ addrs (W.setEy a v) := by rw [addrs_setEy]; exact h
theorem off_app1 {W : Sx} {t : Addr} {a : Addr} {v : Value} (h : t ∉ addrs W) : t ∉ addrs (W.app1 a v) := by rw [addrs_app1]; exact h
theorem off_app2 {W : Sx} {t : Addr} {a : Addr} {v : Value} (h : t ∉ addrs W) : t ∉ addrs (W.app2 a v) := by rw [addrs_app2]; exact h
theorem off_app3 {W : Sx} {t : Addr} {a : Addr} {v : Value} (h : t ∉ addrs W) : t ∉ addrs (W.app3 a v) := by rw [addrs_app3]; exact h
theorem off_put0 {W : Sx} {t : Addr} {a : Addr} {o : Obj} {k : Str} {v : Value} (h : t ∉ addrs W) : t ∉ addrs (W.put0 a o k v) := by rw [addrs_put0]; exact h
theorem off_put4 {W : Sx} {t : Addr} {a : Addr} {o : Obj} {k : Str} {v : Value} (h : t ∉ addrs W) : t ∉ addrs (W.put4 a o k v) := by rw [addrs_put4]; exact h
theorem off_put5 {W : Sx} {t : Addr} {a : Addr} {o : Obj} {k : Int} {v : Value} (h : t ∉ addrs W) : t ∉ addrs (W.put5 a o k v) := by rw [addrs_put5]; exact h
theorem off_setW {W : Sx} {t : Addr} {o : Obj} {i : Int} {k : Tok} (h : t ∉ addrs W) : t ∉ addrs (W.setW o i k) := by rw [addrs_setW]; exact h
theorem off_addM {W : Sx} {t : Addr} {p : Addr × Obj} (h1 : t ≠ p.1) (h2 : t ∉ addrs W) : t ∉ addrs (W.addM p) := fun h => (addrs_addM h).elim h1 h2
theorem off1_off {P : Params} {W : Sx} {D : Addr} (h : LCg.Off1 D (led P W)) : D ∉ addrs W := by
  have key : ∀ {l : List (Addr × Obj)}, LCg.Off1 D l → ∀ p ∈ l, p.1 ≠ D := by
    intro l
    induction l with
    | nil => intro _ p hp; nomatch hp
    | cons x l ih =>
      intro h p hp
      rcases List.mem_cons.mp hp with rfl | hp
      · exact h.1
      · exact ih h.2 p hp
  intro hD
  rw [← led_map P] at hD
  obtain ⟨p, hp, e⟩ := List.mem_map.mp hD
  exact key h p hp e
theorem off_ltk {P : Params} {W : Sx} {d : Addr} (k : Nat) (l1 : ∀ p ∈ led P W, @LT.lt Nat _ p.1 d) : d + k ∉ addrs W := led_off fun p hp => Nat.lt_of_lt_of_le (l1 p hp) (Nat.le_add_right d k)
inductive Fold' (P : Params) (W₀ : Sx) : List (Addr × Obj) → Sx → Prop
  | base : Fold' P W₀ (led P W₀) W₀
  | cons {p l W} : p.1 ∉ addrs W → Fold' P W₀ l W → Fold' P W₀ (p :: l) (W.addM p)
  | drop {p l W} : Fold' P W₀ l W → Fold' P W₀ (p :: l) W
theorem Fold'.sub {P : Params} {W₀ W : Sx} {l : List (Addr × Obj)} (h : Fold' P W₀ l W) : ∀ p ∈ led P W, p ∈ l := by
  induction h with
  | base => exact fun p hp => hp
  | cons _ _ ih => exact fun p hp => (led_addM hp).elim (fun e => e ▸ .head _) fun h => .tail _ (ih p h)
  | drop _ ih => exact fun p hp => .tail _ (ih p hp)
theorem Fold'.nws {P : Params} {W₀ W : Sx} {l : List (Addr × Obj)} {h₀ h : Heap} {L : Addr} (S : Fold' P W₀ l W) (N : News h₀ L h l) : News h₀ L h (led P W) := news_sub N S.sub
theorem Fold'.wf {prog : Program} {w : World} {P : Params} {W₀ W : Sx} {l : List (Addr × Obj)} (S : Fold' P W₀ l W) (h : Wf prog w W₀) : Wf prog w W := by
  induction S with
  | base => exact h
  | cons hp _ ih => exact wf_addM ih hp
  | drop _ ih => exact ih
inductive FinJ (prog : Program) (w : World) (h₀ : Heap) (L l I : Addr) (lo io : Obj) (s : Shared) (J : (Str → Option Value) → Sx → Prop) (s₃ : Shared) : Prop
  | mk (h' : Heap) (tk : Nat) (m' : Str → Option Value) (W' : Sx) : s₃ = { s with heap := h', toks := tk } → Fr h₀ L h' m' → News h₀ L h' (led w.params W') → Wf prog w W' → (I, io) ∈ (W' .ms) → (l, lo) ∈ (W' .ms) → J m' (W'.delM I) → FinJ prog w h₀ L l I lo io s J s₃
inductive InvJ (prog : Program) (w : World) (l : Addr) (lo : Obj) (J : (Str → Option Value) → Sx → Prop) (m : Str → Option Value) (nx : List (Addr × Obj)) : Prop
  | mk (W : Sx) : nx = led w.params W → Wf prog w W → (l, lo) ∈ (W .ms) → J m W → InvJ prog w l lo J m nx
noncomputable def FStep (prog : Program) (w : World) (h₀ : Heap) (L l I : Addr) (lo io : Obj) (s : Shared) (J : (Str → Option Value) → Sx → Prop) (Q : Flow → Shared → Prop) (f : Flow) (s₃ : Shared) : Prop :=
  match f with
  | .ret v => Q (.ret v) s₃
  | .brk => Q .next s₃
  | _ => FinJ prog w h₀ L l I lo io s J s₃
theorem FStep.intro {prog : Program} {w : World} {h₀ h' : Heap} {L l I : Addr} {lo io : Obj} {s : Shared} {J : (Str → Option Value) → Sx → Prop} {Q : Flow → Shared → Prop} {m' : Str → Option Value} {W' W₀ : Sx} {news : List (Addr × Obj)} {tk : Nat}
    (F : Fr h₀ L h' m') (N : News h₀ L h' news) (S : Fold' w.params W₀ news W') (hw : Wf prog w W₀) (hI : (I, io) ∈ (W' .ms)) (hl : (l, lo) ∈ (W' .ms)) (hJ : J m' (W'.delM I)) : FStep prog w h₀ L l I lo io s J Q .next { s with heap := h', toks := tk } :=
  ⟨h', tk, m', W', rfl, F, S.nws N, S.wf hw, hI, hl, hJ⟩
theorem list_at {prog : Program} {w : World} {A : Around} {E : Value → Shared → Prop} {s : Shared} {env : Env} {h₀ : Heap} {x : Str} {body : List Stmt} {Q : Flow → Shared → Prop} {l : Addr} {vs : List Value} {nn : Nat} {m₀ : Str → Option Value} {news : List (Addr × Obj)}
    (J : Nat → (Str → Option Value) → List (Addr × Obj) → Prop) (hh : A.handled = none) (F : Fr h₀ env.locals s.heap m₀) (N : News h₀ env.locals s.heap news)
    (hl : (l, PySem.W.listOf vs.toArray nn) ∈ news) (hj : J 0 m₀ news)
    (turn : ∀ i v m₁ nx own h tk I io, vs[i]? = some v → J i m₁ nx → (∀ p ∈ nx, p.1 ≠ I) → l ≠ I → (∀ q : Addr × Obj, q.1 ∈ news.map (·.1) → q.1 ≠ I) → (∀ lo, h.get? l = some lo → ∀ p ∈ own, p = (I, io) ∨ p = (l, lo)) → (I, io) ∈ own → io.cls = .type "list_iterator" → Fr h₀ env.locals h (fun y => if y = x then some v else m₁ y) → News h₀ env.locals h (own ++ nx) →
      wpAny (model prog w) A (execs body env) (LoopStepV h₀ env.locals [I] own (J (i + 1)) { s with heap := h, toks := tk } (fun v s' => Q (.ret v) s') fun s' => Q .next s') E { s with heap := h, toks := tk })
    (done : ∀ m₁ nx h tk, J vs.length m₁ nx → Fr h₀ env.locals h m₁ → News h₀ env.locals h nx → Q .next { s with heap := h, toks := tk }) :
    wpAny (model prog w) A (pyIter (.ref l)) (fun it s₂ => LoopAtV prog w A h₀ env x body Q E it s₂) E s := by
  have hol : s.heap.get? l = some (PySem.W.listOf vs.toArray nn) := (N _ hl).1
  have hls : s.heap.IsList l vs.toArray := ⟨_, hol, rfl, nn, rfl⟩
  have hne : l ≠ s.heap.objs.size := Nat.ne_of_lt (Heap.lt_size hol)
  refine wpAny_pyIter_list hls ?_
  have WK := Walks.list (prog := prog) (w := w) hh s.heap.objs.size l hne vs.toArray
  rw [List.size_toArray] at WK
  refine ⟨_, _, _, vs.length, _, _, m₀, news, J, rfl, WK, ?_, ?_, ?_, ⟨⟨_, Heap.get?_push_size _ rfl, rfl, rfl⟩, hls.at fun o e => Heap.get?_push_of_some _ e⟩, F.push _, (fun p hp => ⟨Heap.get?_push_of_some _ (N p hp).1, (N p hp).2⟩), hj, ?_, ?_⟩
  · intro hm
    rcases List.mem_cons.mp hm with e | hm
    · exact absurd F.ns.lt (e ▸ Nat.lt_irrefl _)
    · exact (N _ hl).2.1 ((List.mem_singleton.mp hm).symm)
  · intro b hb
    rw [List.mem_singleton.mp hb]
    exact next_is_new F
  · intro p hp hI
    exact absurd (Heap.lt_size (N p hp).1) ((List.mem_singleton.mp hI) ▸ Nat.lt_irrefl _)
  · rintro i v m₁ nx s₁ own ⟨hh', tk', rfl⟩ hin hP hJ hoff hown hget hfp hst F₁ N₁
    obtain ⟨⟨io, hio, hic, _⟩, _⟩ := hst
    refine turn i v m₁ nx own hh' tk' s.heap.objs.size io (by simpa using hP) hJ (fun p hp e => hoff p hp (List.mem_singleton.mpr e)) hne ?_ ?_ (hfp s.heap.objs.size (.head _) (next_is_new F) io hio) hic F₁ N₁
    · intro q hq
      obtain ⟨p, hp, e⟩ := List.mem_map.mp hq
      exact e ▸ Nat.ne_of_lt (Heap.lt_size (N p hp).1)
    · intro lo hlo p hp
      rcases List.mem_cons.mp (hown p hp) with e | e
      · have h2 := hget p hp
        rw [e, hio] at h2
        exact .inl (Prod.ext e (Option.some.inj h2).symm)
      · have e := List.mem_singleton.mp e
        have h2 := hget p hp
        rw [e, hlo] at h2
        exact .inr (Prod.ext e (Option.some.inj h2).symm)
  · intro h' tk m' news' F' N' _ hJ
    exact done m' news' h' tk hJ F' N'
theorem iter_W0 {prog : Program} {w : World} {A : Around} {E : Value → Shared → Prop} {s : Shared} {env : Env} {h₀ : Heap} {x : Str} {body : List Stmt} {Q : Flow → Shared → Prop} {l : Addr} {vs : List Value} {nn : Nat} {m₀ : Str → Option Value} {news : List (Addr × Obj)} {W₀ W₁ : Sx}
    (J : Nat → (Str → Option Value) → Sx → Prop) (hh : A.handled = none) (F : Fr h₀ env.locals s.heap m₀) (N : News h₀ env.locals s.heap news) (S : Fold' w.params W₀ news W₁) (hw₀ : Wf prog w W₀)
    (hl : (l, PySem.W.listOf vs.toArray nn) ∈ (W₁ .ms)) (hj : J 0 m₀ W₁)
    (turn : ∀ i v m₁ W h tk I io, vs[i]? = some v → J i m₁ W → io.cls = .type "list_iterator" → Wf prog w (W.addM (I, io)) → (l, PySem.W.listOf vs.toArray nn) ∈ (W .ms) → I ∉ addrs W → Fr h₀ env.locals h (fun y => if y = x then some v else m₁ y) → News h₀ env.locals h (led w.params (W.addM (I, io))) →
      wpAny (model prog w) A (execs body env) (FStep prog w h₀ env.locals l I (PySem.W.listOf vs.toArray nn) io { s with heap := h, toks := tk } (J (i + 1)) Q) E { s with heap := h, toks := tk })
    (done : ∀ m₁ W h tk, J vs.length m₁ W → Wf prog w W → (l, PySem.W.listOf vs.toArray nn) ∈ (W .ms) → Fr h₀ env.locals h m₁ → News h₀ env.locals h (led w.params W) → Q .next { s with heap := h, toks := tk }) :
    wpAny (model prog w) A (pyIter (.ref l)) (fun it s₂ => LoopAtV prog w A h₀ env x body Q E it s₂) E s := by
  have N := S.nws N
  have hw := S.wf hw₀
  refine list_at (fun i => InvJ prog w l (PySem.W.listOf vs.toArray nn) (J i)) hh F N (mem_ms hl) ⟨W₁, rfl, hw, hl, hj⟩ ?_ ?_
  · rintro i v m₁ nx own h tk I io hP ⟨W, rfl, hW, hlW, hJ⟩ hoff hne _ hown hI hic F₁ N₁
    have hIoff : I ∉ addrs W := fun h => by
      rw [← led_map w.params] at h
      obtain ⟨p, hp, e⟩ := List.mem_map.mp h
      exact hoff p hp e
    have N₂ : News h₀ env.locals h (led w.params (W.addM (I, io))) := news_sub N₁ fun p hp => by
      rcases led_addM hp with rfl | hp
      · exact List.mem_append_left _ hI
      · exact List.mem_append_right _ hp
    have hown' := hown _ (N₂ _ (mem_ms (List.mem_cons_of_mem _ hlW))).1
    clear hown
    refine wpAny_mono (turn i v m₁ W h tk I io hP hJ hic (wf_addM hW hIoff) hlW hIoff F₁ N₂) (fun f s₂ p => ?_) fun _ _ e => e
    have fin : FinJ prog w h₀ env.locals l I (PySem.W.listOf vs.toArray nn) io { s with heap := h, toks := tk } (J (i + 1)) s₂ →
        LoopStepU h₀ env.locals [I] own (InvJ prog w l (PySem.W.listOf vs.toArray nn) (J (i + 1))) { s with heap := h, toks := tk } .next s₂ := by
      rintro ⟨h', tk, m', W', rfl, F', N', hw', hI', hl', hJ'⟩
      refine ⟨rfl, h', tk, m', led w.params (W'.delM I), rfl, F', fun p hp => ?_, fun p hp hb => ?_, W'.delM I, rfl, wf_delM hw', ms_delM hl' hne, hJ'⟩
      · rcases List.mem_append.mp hp with hp | hp
        · rcases hown' p hp with rfl | rfl
          · exact N' _ (mem_ms hI')
          · exact N' _ (mem_ms hl')
        · exact N' p (led_delM hp)
      · have h9 := mem_addrs hp
        rw [List.mem_singleton.mp hb] at h9
        exact off_delM hw' hI' h9
    cases f with
    | ret v => exact .ret p
    | brk => exact .brk p
    | next => exact .next (fin p)
    | cont => exact .cont (fin p)
  · rintro m' nx h' tk ⟨W, rfl, hW, hlW, hJ⟩ F' N'
    exact done m' W h' tk hJ hW hlW F' N'
theorem iter_W {prog : Program} {w : World} {A : Around} {E : Value → Shared → Prop} {s : Shared} {env : Env} {h₀ : Heap} {x : Str} {body : List Stmt} {Q : Flow → Shared → Prop} {l : Addr} {vs : List Value} {nn : Nat} {m₀ : Str → Option Value} {news : List (Addr × Obj)} {W₀ W₁ : Sx}
    (J : Nat → (Str → Option Value) → Sx → Prop) (hh : A.handled = none) (F : Fr h₀ env.locals s.heap m₀) (N : News h₀ env.locals s.heap news) (S : Fold' w.params W₀ news W₁) (hw₀ : Wf prog w W₀)
    (hl : (l, PySem.W.listOf vs.toArray nn) ∈ (W₁ .ms)) (hj : J 0 m₀ W₁)
    (turn : ∀ i v m₁ W h tk I io, vs[i]? = some v → J i m₁ W → Wf prog w (W.addM (I, io)) → (l, PySem.W.listOf vs.toArray nn) ∈ (W .ms) → I ∉ addrs W → Fr h₀ env.locals h (fun y => if y = x then some v else m₁ y) → News h₀ env.locals h (led w.params (W.addM (I, io))) →
      wpAny (model prog w) A (execs body env) (FStep prog w h₀ env.locals l I (PySem.W.listOf vs.toArray nn) io { s with heap := h, toks := tk } (J (i + 1)) Q) E { s with heap := h, toks := tk })
    (done : ∀ m₁ W h tk, J vs.length m₁ W → Wf prog w W → (l, PySem.W.listOf vs.toArray nn) ∈ (W .ms) → Fr h₀ env.locals h m₁ → News h₀ env.locals h (led w.params W) → Q .next { s with heap := h, toks := tk }) :
    wpAny (model prog w) A (pyIter (.ref l)) (fun it s₂ => LoopAtV prog w A h₀ env x body Q E it s₂) E s :=
  iter_W0 J hh F N S hw₀ hl hj (fun i v m₁ W h tk I io a b _ => turn i v m₁ W h tk I io a b) done
theorem iter_nil {prog : Program} {w : World} {A : Around} {E : Value → Shared → Prop} {s : Shared} {env : Env} {h₀ : Heap} {x : Str} {body : List Stmt} {Q : Flow → Shared → Prop} {l : Addr} {nn : Nat} {m₀ : Str → Option Value} {news : List (Addr × Obj)} {W₀ W₁ : Sx}
    (hh : A.handled = none) (F : Fr h₀ env.locals s.heap m₀) (N : News h₀ env.locals s.heap news) (S : Fold' w.params W₀ news W₁) (hw₀ : Wf prog w W₀)
    (hl : (l, PySem.W.listOf #[] nn) ∈ (W₁ .ms)) (done : ∀ h tk, Wf prog w W₁ → Fr h₀ env.locals h m₀ → News h₀ env.locals h (led w.params W₁) → Q .next { s with heap := h, toks := tk }) :
    wpAny (model prog w) A (pyIter (.ref l)) (fun it s₂ => LoopAtV prog w A h₀ env x body Q E it s₂) E s :=
  iter_W (vs := []) (nn := nn) (fun _ m' W' => m' = m₀ ∧ W' = W₁) hh F N S hw₀ hl ⟨rfl, rfl⟩ (fun i v m₁ W h tk I io hv => by cases hv) fun m₁ W h tk hJ hw _ F' N' => by
    obtain ⟨rfl, rfl⟩ := hJ
    exact done h tk hw F' N'
theorem sub_addM {P : Params} {W : Sx} {l : List (Addr × Obj)} {q : Addr × Obj} (h : ∀ p ∈ l, p ∈ led P W) : ∀ p ∈ l, p ∈ led P (W.addM q) := fun p hp => by
  have := h p hp
  unfold led at this ⊢
  rcases List.mem_append.mp this with h | h
  · exact List.mem_append_left _ h
  · exact List.mem_append_right _ (List.mem_cons_of_mem _ h)
theorem sub_cons {l l' : List (Addr × Obj)} {q : Addr × Obj} (h : ∀ p ∈ l, p ∈ l') : ∀ p ∈ l, p ∈ q :: l' := fun p hp => .tail _ (h p hp)
theorem Frm.same {W W' : Sx} {a f : Addr} {n : Nat} (h : Frm W a f n) (h1 : (W' .rs) = (W .rs)) (h2 : (W' .kd) = (W .kd)) (h3 : (W' .pa) = (W .pa)) : Frm W' a f n := by
  induction h with
  | here h k => exact .here (h1 ▸ h) (h2 ▸ k)
  | up h k p _ ih => exact .up (h1 ▸ h) (h2 ▸ k) (h3 ▸ p) ih
-- the walk's own lines (repeated in each text: they must be local)
theorem regjj1 : True := by
  k_with "x_ktr_room" => k_dflt (first | (refine' room4 ?z61h ?z61k; (case z61h => assumption); (case z61k => decide)) | (refine' room3 ?z61h ?z61k; (case z61h => assumption); (case z61k => decide)) | (refine' room2 ?z61h ?z61k; (case z61h => assumption); (case z61k => decide)) | (refine' room1 ?z61h ?z61k; (case z61h => assumption); (case z61k => decide)) | (refine' room0 ?z61h; (case z61h => assumption)) | ((simp only [depth_under_make, depth_under_kw, depth_in1, depth_deeper, depth_caller]); first | (refine' room4 ?z61h ?z61k; (case z61h => assumption); (case z61k => decide)) | (refine' room3 ?z61h ?z61k; (case z61h => assumption); (case z61k => decide)) | (refine' room2 ?z61h ?z61k; (case z61h => assumption); (case z61k => decide)) | (refine' room1 ?z61h ?z61k; (case z61h => assumption); (case z61k => decide)) | (refine' room0 ?z61h; (case z61h => assumption))))
  k_with "x_ktr_units" => k_dflt (first | (refine' room4 ?z62h ?z62k; (case z62h => assumption); (case z62k => decide)) | (refine' room3 ?z62h ?z62k; (case z62h => assumption); (case z62k => decide)) | (refine' room2 ?z62h ?z62k; (case z62h => assumption); (case z62k => decide)) | (refine' room1 ?z62h ?z62k; (case z62h => assumption); (case z62k => decide)) | (refine' room0 ?z62h; (case z62h => assumption)) | ((simp only [units_in1, units_deeper, Around.mark_units, units_caller]); first | (refine' room4 ?z62h ?z62k; (case z62h => assumption); (case z62k => decide)) | (refine' room3 ?z62h ?z62k; (case z62h => assumption); (case z62k => decide)) | (refine' room2 ?z62h ?z62k; (case z62h => assumption); (case z62k => decide)) | (refine' room1 ?z62h ?z62k; (case z62h => assumption); (case z62k => decide)) | (refine' room0 ?z62h; (case z62h => assumption))))
  k_with "m_lt" => first | with_reducible assumption | with_reducible exact And.left (by with_reducible assumption) | with_reducible exact And.left (And.right (by with_reducible assumption)) | with_reducible exact And.left (And.right (And.right (by with_reducible assumption))) | with_reducible exact And.left (And.right (And.right (And.right (by with_reducible assumption)))) | with_reducible exact And.left (And.right (And.right (And.right (And.right (by with_reducible assumption))))) | with_reducible exact And.left (And.right (And.right (And.right (And.right (And.right (by with_reducible assumption)))))) | with_reducible exact And.left (And.right (And.right (And.right (And.right (And.right (And.right (by with_reducible assumption))))))) | with_reducible exact And.left (And.right (And.right (And.right (And.right (And.right (And.right (And.right (by with_reducible assumption)))))))) | with_reducible exact And.left (And.right (And.right (And.right (And.right (And.right (And.right (And.right (And.right (by with_reducible assumption))))))))) | with_reducible exact And.left (And.right (And.right (And.right (And.right (And.right (And.right (And.right (And.right (And.right (by with_reducible assumption)))))))))) | with_reducible exact And.left (And.right (And.right (And.right (And.right (And.right (And.right (And.right (And.right (And.right (And.right (by with_reducible assumption)))))))))))
  k_with "x_k_ne" => first | with_reducible assumption | with_reducible exact Ne.symm (by with_reducible assumption) | (refine Nat.ne_of_lt ?_; k_extra "m_lt") | (refine Nat.ne_of_gt ?_; k_extra "m_lt") | (refine neN ?_; (try dsimp only); first | with_reducible assumption | (refine Nat.ne_of_lt ?_; k_extra "m_lt") | (refine Nat.ne_of_gt ?_; k_extra "m_lt") | (refine ne_two (by with_reducible assumption) ?_; k_extra "m_lt") | (refine Ne.symm (ne_two (by with_reducible assumption) ?_); k_extra "m_lt") | omega)
  k_with "x_k_room" => ktr_room
  k_with "x_k_units" => ktr_units
  k_with "m_off" => (((try dsimp only); first
      | with_reducible assumption
      | (with_reducible refine off_addM ?_ ?_; (focus k_ne); k_extra "m_off")
      | ((with_reducible first | refine off_setMc ?_ | refine off_setPt ?_ | refine off_setGe ?_ | refine off_setEn ?_ | refine off_setEu ?_ | refine off_setEh ?_ | refine off_setEp ?_ | refine off_setEr ?_ | refine off_setEy ?_ | refine off_app1 ?_ | refine off_app2 ?_ | refine off_app3 ?_ | refine off_put0 ?_ | refine off_put4 ?_ | refine off_put5 ?_ | refine off_setW ?_); k_extra "m_off")
      | exact off_lt (by tbn_find)
      | (refine off_at (off_lt (by tbn_find)) ?_; simp only [addrs_setMc, addrs_setPt, addrs_setGe, addrs_setEn, addrs_setEu, addrs_setEh, addrs_setEp, addrs_setEr, addrs_setEy, addrs_app1, addrs_app2, addrs_app3, addrs_put0, addrs_put4, addrs_put5, addrs_setW])
      | with_reducible exact off_lt2 (by assumption) (by assumption)
      | with_reducible exact off_lt (allLt_of (by assumption))
      | with_reducible exact off_ltk _ (by assumption)
      | with_reducible exact off1_off (by assumption)
      | (refine off_at (led_off (by with_reducible assumption)) ?_; simp only [addrs_setMc, addrs_setPt, addrs_setGe, addrs_setEn, addrs_setEu, addrs_setEh, addrs_setEp, addrs_setEr, addrs_setEy, addrs_app1, addrs_app2, addrs_app3, addrs_put0, addrs_put4, addrs_put5, addrs_setW])))
  k_with "m_sp" => first | exact Sp.nil | (refine' Sp.cons ?z68p ?z68q; (case z68p => k_extra "m_off"); (case z68q => k_extra "m_sp"))
  k_with "m_spf" => first | exact SpF.nil | (refine' SpF.cons ?z69p ?z69q; (case z69p => k_extra "m_off"); (case z69q => k_extra "m_spf"))
  k_with "m_fold" => first | exact Fold'.base | (refine' Fold'.cons ?_ ?gfo; (case gfo => k_extra "m_fold"); k_extra "m_off") | (refine' Fold'.drop ?gfo; (case gfo => k_extra "m_fold")) | fail
  k_with "x_k_mem" => (first
      | exact mem_ri (by assumption) | exact mem_rd (by assumption) | exact mem_ei (by assumption) | exact mem_ed (by assumption)
      | exact mem_r0 (by assumption) | exact mem_r1 (by assumption) | exact mem_r2 (by assumption) | exact mem_r3 (by assumption) | exact mem_r4 (by assumption) | exact mem_r5 (by assumption)
      | exact mem_w0 | exact mem_w1
      | exact mem_ms (by assumption))
  k_with "x_k_all" => (refine off_led ?_; k_extra "m_off")
  k_with "getAttr ref" => ((k_here; k_dflt (
      refine' get_eq ?z72k1 ?z72k2 ?z72k3 ?z72k4 ?z72k5 ?z72k6 ?z72k7 ?z72k8 ?z72ke ?z72k9 ?_; (case z72k1 => k_asm); (case z72k2 => k_asm); (case z72k3 => k_inst); (case z72k4 => k_is); (case z72k5 => k_is); (case z72k6 => k_is); (case z72k7 => k_is); (case z72k8 => k_get); (case z72ke => first | assumption | exact rfl); (case z72k9 => k_handed); k_whole)))
  k_with "m_arith" => first | with_reducible assumption | with_reducible exact Nat.zero_le _ | ((try dsimp only [Sx.setMc, Sx.setPt, Sx.setGe, Sx.setEn, Sx.setEu, Sx.setEh, Sx.setEp, Sx.setEr, Sx.setEy, Sx.app1, Sx.app2, Sx.app3, Sx.put0, Sx.put4, Sx.put5, Sx.setW, Sx.addM]); omega) | (dsimp only [Sx.setMc, Sx.setPt, Sx.setGe, Sx.setEn, Sx.setEu, Sx.setEh, Sx.setEp, Sx.setEr, Sx.setEy, Sx.app1, Sx.app2, Sx.app3, Sx.put0, Sx.put4, Sx.put5, Sx.setW, Sx.addM] at *; omega)
  k_with "m_isd" => first | assumption | exact Wf.d0 (by assumption) _ (by assumption) | exact Wf.d4 (by assumption) _ (by assumption) | exact Wf.d5 (by assumption) _ (by assumption) | exact Wf.dw (by assumption)
  k_with "m_low" => first | assumption | exact lowF (Wf.low (by assumption) (.r0 _) (dom_r0 (by assumption))) | exact lowF (Wf.low (by assumption) (.r4 _) (dom_r4 (by assumption))) | exact lowF (Wf.low (by assumption) (.r5 _) (dom_r5 (by assumption))) | exact lowF (Wf.low (by assumption) .w0 (dom_w (.head _)))
  k_with "m_val" => first | assumption | rfl
  k_with "subscriptTail" => ((k_here; k_dflt (first
      | ((with_reducible show wpAny _ _ (subscriptTail _ _ (Value.ref _) (Value.str _ _)) _ _ _); refine' kda_item (knd := PySem.strKind _ _) ?z77n ?z77p ?z77d (strKind_is _ _ _ _) ?z77v ?_; (case z77n => k_asm); (case z77p => k_mem); (case z77d => k_extra "m_isd"); (case z77v => k_extra "m_val"))
      | ((with_reducible show wpAny _ _ (subscriptTail _ _ (Value.ref _) (Value.int _ _)) _ _ _); refine' kda_item (knd := PySem.intKind _ _) ?z77n ?z77p ?z77d (intKind_is _ _ _ _) ?z77v ?_; (case z77n => k_asm); (case z77p => k_mem); (case z77d => k_extra "m_isd"); (case z77v => k_extra "m_val")))))
  k_with "getItem ref str" => (k_here; k_dflt (refine' gi_str ?z78n ?z78p ?z78d ?z78v ?_; (case z78n => k_asm); (case z78p => k_mem); (case z78d => k_extra "m_isd"); (case z78v => k_extra "m_val")))
  k_with "setItem ref str" => (k_here; (with_reducible show wpAny _ _ (setItem (Value.ref _) (Value.str (Str.ofString "spot") _) (Value.int _ _)) _ _ _); k_dflt (refine' run_setW _ _ _ ?z79F ?z79N ?z79w ?z79S ?_ ?z79hk; (case z79F => k_asm); (case z79N => k_asm); (case z79w => assumption); (case z79S => k_extra "m_spf"); (case z79hk => omega); intro h' o' F' N' hw'; (try dsimp only at N'); (try k_sweep)))
  k_with "call builtin:len" => (k_here; (with_reducible show wpAny _ _ (call (Value.builtin "len") [Value.ref _]) _ _ _); k_dflt (refine' len_list (isList_news ?z80N ?z80p) ?z80z ?_; (case z80N => k_asm); (case z80p => k_mem); (case z80z => (simp only [List.size_toArray]; k_extra "m_arith"))); (try simp only [List.size_toArray]))
  k_with "subscriptTail" => (k_here; (with_reducible show wpAny _ _ (subscriptTail _ _ (Value.ref _) (Value.int _ _)) _ _ _); k_dflt (refine' itemL ?z81N ?z81p ?z81i ?z81a ?z81b ?z81z ?_; (case z81N => k_asm); (case z81p => k_mem); (case z81i => assumption); (case z81a => k_extra "m_arith"); (case z81b => k_extra "m_arith"); (case z81z => k_extra "m_arith")); intro i' t')
  k_with "subscriptTail" => (k_here; (with_reducible show wpAny _ _ (subscriptTail _ _ (Value.ref 269) (Value.int _ _)) _ _ _); k_dflt (refine' itemT ?z82F ?z82X ?z82l (ns := [0, 0, 0, 1, 0, 0, 0, 0, 0, 0, 0]) ?z82i ?z82a ?z82b ?z82z ?_; (case z82F => k_asm); (case z82X => k_asm); (case z82l => k_is); (case z82i => repeat (first | exact IntsAre.nil | refine IntsAre.cons _ _ ?_)); (case z82a => omega); (case z82b => (simp only [List.length_cons, List.length_nil]; omega)); (case z82z => decide)); intro i' t')
  k_with "call ref" => (k_here; k_dflt (refine' call_cls ?z83k1 ?z83k2 ?z83k3 ?z83k4 ?z83k5 ?z83k6 ?_; (case z83k1 => k_asm); (case z83k2 => k_asm); (case z83k3 => k_asm); (case z83k4 => k_is); (case z83k5 => k_is); (case z83k6 => k_is); k_whole; intro x' d' h' F' N' l1 l2; (try k_lt l1); (try k_lt2 l2); (try k_sweep); ktr_enter))
  k_with "setAttr ref" => (k_here; k_dflt (refine' set_dict_l ?z84k1 ?z84k2 ?z84k3 ?z84k4 ?z84k5 ?z84k6 ?z84k7 ?z84k8 ?z84k9 ?z84k10 ?z84k11 ?z84k12 ?z84k13 ?_; (case z84k1 => k_asm); (case z84k2 => k_asm); (case z84k3 => k_asm); (case z84k4 => k_inst); (case z84k5 => exact rfl); (case z84k6 => k_is); (case z84k7 => k_is); (case z84k8 => k_is); (case z84k9 => k_is); (case z84k10 => k_get); (case z84k11 => k_put); (case z84k12 => k_updF); (case z84k13 => exact Nat.le_of_ble_eq_true rfl); k_whole; intro e1 h' F' N'; (try dsimp only at N'); (try k_sweep)))
  k_with "setAttr ref" => (k_here; (with_reducible show wpAny _ _ (setAttr (Value.ref _) (Str.ofString "made") _) _ _ _); k_dflt (refine' set_setMc _ _ _ ?z85F ?z85X ?z85N ?z85w ?z85a ?z85S ?_; (case z85F => k_asm); (case z85X => k_asm); (case z85N => k_asm); (case z85w => assumption); (case z85a => first | assumption | k_extra "m_rs"); (case z85S => k_extra "m_sp")); intro h' F' N' hw'; (try dsimp only at N' hw'); (try k_sweep))
  k_with "setAttr ref" => (k_here; (with_reducible show wpAny _ _ (setAttr (Value.ref _) (Str.ofString "part") _) _ _ _); k_dflt (refine' set_setPt _ _ _ ?z86F ?z86X ?z86N ?z86w ?z86a ?z86S ?_; (case z86F => k_asm); (case z86X => k_asm); (case z86N => k_asm); (case z86w => assumption); (case z86a => first | assumption | k_extra "m_rs"); (case z86S => k_extra "m_sp")); intro h' F' N' hw'; (try dsimp only at N' hw'); (try k_sweep))
  k_with "setAttr ref" => (k_here; (with_reducible show wpAny _ _ (setAttr (Value.ref _) (Str.ofString "generic") _) _ _ _); k_dflt (refine' set_setGe _ _ ?z87F ?z87X ?z87N ?z87w ?z87a ?z87S ?_; (case z87F => k_asm); (case z87X => k_asm); (case z87N => k_asm); (case z87w => assumption); (case z87a => first | assumption | k_extra "m_rs"); (case z87S => k_extra "m_sp")); intro h' F' N' hw'; (try dsimp only at N' hw'); (try k_sweep))
  k_with "setAttr ref" => (k_here; (with_reducible show wpAny _ _ (setAttr (Value.ref _) (Str.ofString "number") _) _ _ _); k_dflt (refine' set_setEn _ _ ?z88F ?z88X ?z88N ?z88w ?z88a ?z88S ?_; (case z88F => k_asm); (case z88X => k_asm); (case z88N => k_asm); (case z88w => assumption); (case z88a => first | assumption | k_extra "m_rs"); (case z88S => k_extra "m_sp")); intro h' F' N' hw'; (try dsimp only at N' hw'); (try k_sweep))
  k_with "setAttr ref" => (k_here; (with_reducible show wpAny _ _ (setAttr (Value.ref _) (Str.ofString "unique") _) _ _ _); k_dflt (refine' set_setEu _ _ ?z89F ?z89X ?z89N ?z89w ?z89a ?z89S ?_; (case z89F => k_asm); (case z89X => k_asm); (case z89N => k_asm); (case z89w => assumption); (case z89a => first | assumption | k_extra "m_rs"); (case z89S => k_extra "m_sp")); intro h' F' N' hw'; (try dsimp only at N' hw'); (try k_sweep))
  k_with "setAttr ref" => (k_here; (with_reducible show wpAny _ _ (setAttr (Value.ref _) (Str.ofString "home") _) _ _ _); k_dflt (refine' set_setEh _ _ ?z90F ?z90X ?z90N ?z90w ?z90a ?z90S ?_; (case z90F => k_asm); (case z90X => k_asm); (case z90N => k_asm); (case z90w => assumption); (case z90a => first | assumption | k_extra "m_rs"); (case z90S => k_extra "m_sp")); intro h' F' N' hw'; (try dsimp only at N' hw'); (try k_sweep))
  k_with "setAttr ref" => (k_here; (with_reducible show wpAny _ _ (setAttr (Value.ref _) (Str.ofString "part") _) _ _ _); k_dflt (refine' set_setEp _ _ ?z91F ?z91X ?z91N ?z91w ?z91a ?z91S ?_; (case z91F => k_asm); (case z91X => k_asm); (case z91N => k_asm); (case z91w => assumption); (case z91a => first | assumption | k_extra "m_rs"); (case z91S => k_extra "m_sp")); intro h' F' N' hw'; (try dsimp only at N' hw'); (try k_sweep))
  k_with "setAttr ref" => (k_here; (with_reducible show wpAny _ _ (setAttr (Value.ref _) (Str.ofString "region") _) _ _ _); k_dflt (refine' set_setEr _ _ ?z92F ?z92X ?z92N ?z92w ?z92a ?z92S ?_; (case z92F => k_asm); (case z92X => k_asm); (case z92N => k_asm); (case z92w => assumption); (case z92a => first | assumption | k_extra "m_rs"); (case z92S => k_extra "m_sp")); intro h' F' N' hw'; (try dsimp only at N' hw'); (try k_sweep))
  k_with "setAttr ref" => (k_here; (with_reducible show wpAny _ _ (setAttr (Value.ref _) (Str.ofString "is_ready") _) _ _ _); k_dflt (refine' set_setEy _ _ ?z93F ?z93X ?z93N ?z93w ?z93a ?z93S ?_; (case z93F => k_asm); (case z93X => k_asm); (case z93N => k_asm); (case z93w => assumption); (case z93a => first | assumption | k_extra "m_rs"); (case z93S => k_extra "m_sp")); intro h' F' N' hw'; (try dsimp only at N' hw'); (try k_sweep))
  k_with "compareOp In str ref" => (k_here; (with_reducible show wpAny _ _ (compareOp _ _ (Value.ref 89)) _ _ _); k_dflt (refine' in_frame ?z94F ?z94X ?z94b ?_; (case z94F => k_asm); (case z94X => k_asm); (case z94b => first | assumption | rfl)))
  k_with "compareOp NotIn str ref" => (k_here; (with_reducible show wpAny _ _ (compareOp _ _ (Value.ref 89)) _ _ _); k_dflt (refine' notin_frame ?z95F ?z95X ?z95b ?_; (case z95F => k_asm); (case z95X => k_asm); (case z95b => first | assumption | rfl)); (try dsimp only [Bool.not_true, Bool.not_false]))
  k_with "getMethod ref" => ((k_here; k_dflt (first
      | ((with_reducible show wpAny _ _ (getMethod (Value.ref _) (Str.ofString "append") _) _ _ _); refine' meth_append ?z96n ?z96p ?_; (case z96n => k_asm); (case z96p => k_mem))
      | ((with_reducible show wpAny _ _ (getMethod (Value.ref _) (Str.ofString "get") _) _ _ _); first
        | (refine' kdg_method (knd := PySem.strKind _ _) ?z96n ?z96p ?z96d ?_; (case z96n => k_asm); (case z96p => k_mem); (case z96d => k_extra "m_isd"))
        | (refine' kdg_method (knd := PySem.intKind _ _) ?z96n ?z96p ?z96d ?_; (case z96n => k_asm); (case z96p => k_mem); (case z96d => k_extra "m_isd")))
      | ((with_reducible show wpAny _ _ (getMethod (Value.ref _) (Str.ofString "setdefault") _) _ _ _); first
        | (refine' kob_method (knd := PySem.strKind _ _) PySem.F.slot_dict_setdefault PySem.F.type_dict_setdefault ?z96n ?z96p ?z96d ?_; (case z96n => k_asm); (case z96p => k_mem); (case z96d => k_extra "m_isd"))
        | (refine' kob_method (knd := PySem.intKind _ _) PySem.F.slot_dict_setdefault PySem.F.type_dict_setdefault ?z96n ?z96p ?z96d ?_; (case z96n => k_asm); (case z96p => k_mem); (case z96d => k_extra "m_isd"))))))
  k_with "call builtin:dict.get" => ((k_here; k_dflt (first
      | ((with_reducible show wpAny _ _ (call _ [Value.ref _, Value.str _ _, _]) _ _ _); refine' kdg_get2 (knd := PySem.strKind _ _) ?z97n ?z97p ?z97d ?z97l (strKind_is _ _ _ _) _ ?z97v ?_; (case z97n => k_asm); (case z97p => k_mem); (case z97d => k_extra "m_isd"); (case z97l => k_extra "m_low"); (case z97v => k_extra "m_val"))
      | ((with_reducible show wpAny _ _ (call _ [Value.ref _, Value.int _ _, _]) _ _ _); refine' kdg_get2 (knd := PySem.intKind _ _) ?z97n ?z97p ?z97d ?z97l (intKind_is _ _ _ _) _ ?z97v ?_; (case z97n => k_asm); (case z97p => k_mem); (case z97d => k_extra "m_isd"); (case z97l => k_extra "m_low"); (case z97v => k_extra "m_val"))); (try dsimp only [Option.getD])))
  k_with "call builtin:dict.setdefault" => ((k_here; k_dflt (first
      | (refine' run_put0 _ _ _ _ ?z98F ?z98N ?z98w ?z98a ?z98S ?z98l ?z98z ?_; (case z98F => k_asm); (case z98N => k_asm); (case z98w => assumption); (case z98a => first | assumption | k_extra "m_rs"); (case z98S => k_extra "m_spf"); (case z98l => k_extra "m_val"); (case z98z => k_extra "m_arith"))
      | (refine' run_put5 _ _ _ _ ?z98F ?z98N ?z98w ?z98a ?z98S ?z98l ?z98z ?_; (case z98F => k_asm); (case z98N => k_asm); (case z98w => assumption); (case z98a => first | assumption | k_extra "m_rs"); (case z98S => k_extra "m_spf"); (case z98l => k_extra "m_val"); (case z98z => k_extra "m_arith"))); intro h' o' F' N' hw'; (try dsimp only at N' hw'); (try k_sweep)))
  k_with "setItem ref str" => (k_here; k_dflt (refine' run_put4 _ _ _ _ ?z99F ?z99N ?z99w ?z99a ?z99S ?z99z ?_; (case z99F => k_asm); (case z99N => k_asm); (case z99w => assumption); (case z99a => first | assumption | k_extra "m_rs"); (case z99S => k_extra "m_spf"); (case z99z => k_extra "m_arith")); intro h' o' F' N' hw'; (try dsimp only at N' hw'); (try k_sweep))
  k_with "call builtin:list.append" => ((k_here; (with_reducible first | show wpAny _ _ (call (Value.builtin _) [Value.ref ((_ : Sx) Fld.a1 _), _]) _ _ _ | show wpAny _ _ (call (Value.builtin _) [Value.ref ((_ : Sx) Fld.a2 _), _]) _ _ _ | show wpAny _ _ (call (Value.builtin _) [Value.ref ((_ : Sx) Fld.a3 _), _]) _ _ _); k_dflt (first
      | (refine' run_app1 _ _ ?z100F ?z100N ?z100w ?z100a ?z100S ?z100z ?_; (case z100F => k_asm); (case z100N => k_asm); (case z100w => assumption); (case z100a => first | assumption | k_extra "m_rs"); (case z100S => k_extra "m_sp"); (case z100z => k_extra "m_arith"))
      | (refine' run_app2 _ _ ?z100F ?z100N ?z100w ?z100a ?z100S ?z100z ?_; (case z100F => k_asm); (case z100N => k_asm); (case z100w => assumption); (case z100a => first | assumption | k_extra "m_rs"); (case z100S => k_extra "m_sp"); (case z100z => k_extra "m_arith"))
      | (refine' run_app3 _ _ ?z100F ?z100N ?z100w ?z100a ?z100S ?z100z ?_; (case z100F => k_asm); (case z100N => k_asm); (case z100w => assumption); (case z100a => first | assumption | k_extra "m_rs"); (case z100S => k_extra "m_sp"); (case z100z => k_extra "m_arith"))); intro h' F' N' hw'; (try dsimp only at N' hw'); (try k_sweep)))
  k_with "m_enterC" => (refine' code_defC ?z101k1 ?z101k2 ?z101k3 ?z101k4 ?z101k5 ?z101kA ?z101kF ?z101kK ?z101k6 ?z101k7 ?z101k8 ?z101k9 ?z101kB ?z101kD ?_ ?z101c2 ?z101c3 ?z101c4; (case z101kA => exact rfl); (case z101kF => exact rfl); (case z101kK => first | exact rfl | assumption); (case z101k1 => k_asm); (case z101k2 => k_asm); (case z101k3 => k_asm); (case z101k4 => k_asm); (case z101k5 => k_asm); (case z101k6 => k_is); (case z101k7 => k_is); (case z101k8 => k_room); (case z101k9 => exact BindsTo.of_eq rfl); (case z101kB => exact rfl); (case z101kD => decide +kernel); (case z101c2 => exact rfl); (case z101c3 => exact rfl); (case z101c4 => exact rfl); k_whole; intro g' L' h' tk' cells' FG' F' N' Y' B' X' T' l1; (try k_lt l1); k_cells Y'; (try simp only [List.cons_append, List.nil_append] at N'); (try dsimp only); (try k_fold))
  k_with "exec For Name Name cons nil" => (k_here; (rename Fr _ _ _ _ => lF'); (with_unfolding_all refine' For_invVF lF' ?z102k1 ?z102k2 ?_; (case z102k1 => exact rfl); (case z102k2 => exact rfl); k_whole))
  k_with "pyIter ref" => ((with_reducible show wpAny _ _ (pyIter (Value.ref _)) (fun it s₂ => LoopAtV _ _ _ _ _ _ _ _ _ it s₂) _ _); k_here; k_extra "m_for")
  k_with "m_ms" => first | assumption | exact List.Mem.head _ | (refine' List.Mem.tail _ ?_; k_extra "m_ms")
  k_with "FinE" => ((unfold LCg.FinE); intro D' h' tk' F' N' o1'; (try simp only [LCg.Off1, and_true] at o1'); (repeat (obtain ⟨o9', o1'⟩ := o1')); (try simp only [List.nil_append, List.cons_append] at N'); (try dsimp only))
  k_with "FinA" => ((unfold LCg.FinA); intro D' h' tk' F' N' o1'; (try simp only [LCg.Off1, and_true] at o1'); (repeat (obtain ⟨o9', o1'⟩ := o1')); (try simp only [List.nil_append, List.cons_append] at N'); (try dsimp only))
  k_with "m_sub" => first | exact fun _ h => h | (with_reducible refine sub_addM ?_; k_extra "m_sub") | (with_reducible refine sub_cons ?_; k_extra "m_sub")
  k_with "m_end" => first | assumption | exact news_sub (by assumption) (by k_extra "m_sub")
  k_with "m_nil" => (refine' iter_nil ?z109hh ?z109F ?z109N ?z109S ?z109w ?z109l ?z109d; (case z109hh => exact rfl); (case z109F => k_asm); (case z109N => k_asm); (case z109S => k_extra "m_fold"); (case z109w => assumption); (case z109l => k_extra "m_ms"); intro h' tk hw' F' N')
  k_with "m_eq" => first | assumption | rfl
  k_with "m_frm" => first | assumption | exact Frm.same (by assumption) (by rfl) (by rfl) (by rfl)
  k_with "exec Assign cons Constant" => ((with_reducible show wpAny _ _ (exec _ _) _ _ { heap := _, gens := _, drawn := _, toks := _ + _, os := _ }); refine gen_tok ?_; intro tk1; walk1)
  k_with "exec Assign cons Name" => ((with_reducible show wpAny _ _ (exec _ _) _ _ { heap := _, gens := _, drawn := _, toks := _ + _, os := _ }); refine gen_tok ?_; intro tk1; walk1)
  k_with "exec Assign cons List" => ((with_reducible show wpAny _ _ (exec _ _) _ _ { heap := _, gens := _, drawn := _, toks := _ + _, os := _ }); refine gen_tok ?_; intro tk1; walk1)
  k_with "exec Assign cons Dict" => ((with_reducible show wpAny _ _ (exec _ _) _ _ { heap := _, gens := _, drawn := _, toks := _ + _, os := _ }); refine gen_tok ?_; intro tk1; walk1)
  k_with "exec Assign cons Tuple" => ((with_reducible show wpAny _ _ (exec _ _) _ _ { heap := _, gens := _, drawn := _, toks := _ + _, os := _ }); refine gen_tok ?_; intro tk1; walk1)
  k_with "exec Assign cons IfExp" => ((with_reducible show wpAny _ _ (exec _ _) _ _ { heap := _, gens := _, drawn := _, toks := _ + _, os := _ }); refine gen_tok ?_; intro tk1; walk1)
  k_with "exec Assign cons Attribute" => ((with_reducible show wpAny _ _ (exec _ _) _ _ { heap := _, gens := _, drawn := _, toks := _ + _, os := _ }); refine gen_tok ?_; intro tk1; walk1)
  trivial
theorem dip_spec {prog : Program} {w : World} {mean : ExcName → Option Value} {mg mb : Str → Option Value} {dp un : Nat} {gd : Option (List Code)} {cn : Str} {cs : Scope} {a₀ : Addr} {ccd : Value} {cl : List (Str × Addr)} {outer : List Env} {A₀ : Around} {base h₀ : Heap} {L : Addr} {m : Str → Option Value} {s : Shared} {Q : Value → Shared → Prop} {E : Value → Shared → Prop} {W : Sx} {wd : Addr} {many : Int} {tm : Tok}
    (B : Below A₀ base outer h₀) (F : Fr h₀ L s.heap m) (X : (hd.heap_39 w.params).In h₀) (T : Top hd.view_39 (looseW hd.view_39 []) mean mg mb h₀) (hk : cs.kind = .function) (hroom : dp + 20 < recursionLimit) (hunits : un + 200 < cLine)
    (N : News h₀ L s.heap (led w.params W)) (hw : Wf prog w W) (ewd : (W .wd) = wd) (hm : 0 < many) (hm2 : many < 100)
    (ret : ∀ v tv o' k' t' h' tk', Fr h₀ L h' m → News h₀ L h' (led w.params (W.setW o' k' t')) → Wf prog w (W.setW o' k' t') → 0 ≤ v → v < many → Q (.int v tv) { s with heap := h', toks := tk' }) :
    wpAny (model prog w) (ktrTop dp un gd cn cs L a₀ ccd cl outer) (call (.ref 276) [.ref wd, .int many tm]) Q E s := by
  refine wpAny_call ?_
  k_dflt ktr_enter
  subst ewd
  obtain ⟨ns, hI⟩ := hw.cells
  have hdw := hw.dw
  have hfew := hw.few
  have hsp := hw.spot
  generalize s.toks + _ = tk0
  k_steps
  all_goals first | exact ret _ _ _ _ _ _ _ (by assumption) (by assumption) (by assumption) (fmod_in _ hm).1 (fmod_in _ hm).2
section
theorem regjj2 : True := by
  k_with "exec While Compare cons nil" => (k_here; k_extra "m_while")
  trivial
theorem frame_region_spec {prog : Program} {w : World} {mean : ExcName → Option Value} {mg mb : Str → Option Value} {dp un : Nat} {gd : Option (List Code)} {cn : Str} {cs : Scope} {a₀ : Addr} {ccd : Value} {cl : List (Str × Addr)} {outer : List Env} {A₀ : Around} {base h₀ : Heap} {L : Addr} {m : Str → Option Value} {s : Shared} {Q : Value → Shared → Prop} {E : Value → Shared → Prop} {W : Sx} {r f : Addr} {n₀ : Nat}
    (B : Below A₀ base outer h₀) (F : Fr h₀ L s.heap m) (X : (hd.heap_39 w.params).In h₀) (T : Top hd.view_39 (looseW hd.view_39 []) mean mg mb h₀) (hk : cs.kind = .function) (hroom : dp + 20 < recursionLimit) (hunits : un + 200 < cLine)
    (N : News h₀ L s.heap (led w.params W)) (hw : Wf prog w W) (hf : Frm W r f n₀)
    (ret : ∀ h' tk', Fr h₀ L h' m → News h₀ L h' (led w.params W) → Q (.ref f) { s with heap := h', toks := tk' }) :
    wpAny (model prog w) (ktrTop dp un gd cn cs L a₀ ccd cl outer) (call (.ref 138) [.ref r]) Q E s := by
  refine wpAny_call ?_
  k_dflt ktr_enter
  generalize s.toks + _ = tk0
  k_with "m_while" => (refine While_here "here" (fun v n => ∃ x, v = .ref x ∧ Frm W x f n) (by k_asm) (by k_asm) (by exact rfl) ⟨r, rfl, by assumption⟩ ?_; rintro v n h₁ tk₁ ⟨x, rfl, hx⟩ F₁ N₁; rcases hx with ⟨ha, hkd⟩ | ⟨ha, hkd, hp, hb⟩)
  k_steps
  all_goals first
    | exact ret _ _ (by assumption) (by assumption)
    | exact HStep.intro (by assumption) (by assumption) (fun _ h => h) rfl (fun y hy => by simp [hy]) (Nat.lt_succ_self _) ⟨_, rfl, by assumption⟩
end
theorem entity_spec {prog : Program} {w : World} {mean : ExcName → Option Value} {mg mb : Str → Option Value} {dp un : Nat} {gd : Option (List Code)} {cn : Str} {cs : Scope} {a₀ : Addr} {ccd : Value} {cl : List (Str × Addr)} {outer : List Env} {A₀ : Around} {base h₀ : Heap} {L : Addr} {m : Str → Option Value} {s : Shared} {Q : Value → Shared → Prop} {E : Value → Shared → Prop} {W : Sx} {v0 v1 v2 v3 v4 v5 : Value}
    (B : Below A₀ base outer h₀) (F : Fr h₀ L s.heap m) (X : (hd.heap_39 w.params).In h₀) (T : Top hd.view_39 (looseW hd.view_39 []) mean mg mb h₀) (hk : cs.kind = .function) (hroom : dp + 20 < recursionLimit) (hunits : un + 200 < cLine)
    (N : News h₀ L s.heap (led w.params W)) (hw : Wf prog w W)
    (ret : ∀ e R h' tk', Fr h₀ L h' m → News h₀ L h' (led w.params (W.addE e R)) → Wf prog w (W.addE e R) → e ∉ addrs W → R.ef = ef6 v0 v1 v2 v3 v4 v5 → R.er = .none → Q (.ref e) { s with heap := h', toks := tk' }) :
    wpAny (model prog w) (ktrTop dp un gd cn cs L a₀ ccd cl outer) (call (.ref 31) [v0, v1, v2, v3, v4, v5]) Q E s := by
  k_steps
  have z := ent_end (R := ⟨_, tok17 _ _ _ _ _ _ _ _ _ _ _ _ _ _ _ _ _, ef6 v0 v1 v2 v3 v4 v5, _, _, _, _, _, _⟩) hw (by assumption) rfl (by rfl) (by assumption) (by assumption)
  exact ret _ _ _ _ (by assumption) z.1 z.2.1 z.2.2 rfl rfl
inductive IntAt (h : Heap) (g d o) : Value → Shared → Prop
  | mk (i k n) : IntAt h g d o (.int i k) (Shared.mk h g d n o)
inductive StrAt (x : Str) (h : Heap) (g d o) : Value → Shared → Prop
  | mk (k n) : StrAt x h g d o (.str x k) (Shared.mk h g d n o)
theorem StrAt.yes {c : Prop} [Decidable c] {x y : String} {z : Str} (e : z = Str.ofString (if c then x else y)) {h : Heap} {g d o} {b : Bool} (hb : b = true) (hc : b = true → c) (k n) : StrAt z h g d o (.str (Str.ofString x) k) (Shared.mk h g d n o) := by
  rw [e, if_pos (hc hb)]; exact .mk k n
theorem StrAt.no {c : Prop} [Decidable c] {x y : String} {z : Str} (e : z = Str.ofString (if c then x else y)) {h : Heap} {g d o} {b : Bool} (hb : b = false) (hc : c → b = true) (k n) : StrAt z h g d o (.str (Str.ofString y) k) (Shared.mk h g d n o) := by
  rw [e, if_neg (fun z => by rw [hc z] at hb; cases hb)]; exact .mk k n
theorem cut_int {M : Model} {A : Around} {t : Sem Value} {Q E : Value → Shared → Prop} {h g d n o} (H : wpAny M A t (IntAt h g d o) E (Shared.mk h g d n o)) (K : ∀ i k n, Q (.int i k) (Shared.mk h g d n o)) : wpAny M A t Q E (Shared.mk h g d n o) :=
  wpAny_mono H (fun _ _ z => by cases z; exact K _ _ _) (fun _ _ h => h)
theorem cut_str {M : Model} {A : Around} {t : Sem Value} {Q E : Value → Shared → Prop} {h g d n o} (x : Str) (H : wpAny M A t (StrAt x h g d o) E (Shared.mk h g d n o)) (K : ∀ k n, Q (.str x k) (Shared.mk h g d n o)) : wpAny M A t Q E (Shared.mk h g d n o) :=
  wpAny_mono H (fun _ _ z => by cases z; exact K _ _) (fun _ _ h => h)
theorem region_spec {prog : Program} {w : World} {mean : ExcName → Option Value} {mg mb : Str → Option Value} {dp un : Nat} {gd : Option (List Code)} {cn : Str} {cs : Scope} {a₀ : Addr} {ccd : Value} {cl : List (Str × Addr)} {outer : List Env} {A₀ : Around} {base h₀ : Heap} {L : Addr} {m : Str → Option Value} {s : Shared} {Q : Value → Shared → Prop} {E : Value → Shared → Prop} {W : Sx} {kd : Str} {kt : Tok} {v1 : Value} {p : Addr}
    (B : Below A₀ base outer h₀) (F : Fr h₀ L s.heap m) (X : (hd.heap_39 w.params).In h₀) (T : Top hd.view_39 (looseW hd.view_39 []) mean mg mb h₀) (hk : cs.kind = .function) (hroom : dp + 20 < recursionLimit) (hunits : un + 200 < cLine)
    (N : News h₀ L s.heap (led w.params W)) (hw : Wf prog w W) (hp : p ∈ (W .rs)) (hkd : kd = "package" ∨ kd = "sub" ∨ kd = "block")
    (ret : ∀ x R t h' tk', Fr h₀ L h' m → News h₀ L h' (led w.params ((W.setMc ((W .ro) p) ((W .mc) ((W .ro) p) + 1) t).addR x R)) → Wf prog w ((W.setMc ((W .ro) p) ((W .mc) ((W .ro) p) + 1) t).addR x R) → x ∉ addrs W → R.kd = kd → R.ow = v1 → R.pa = .ref p → R.ro = (W .ro) p → R.nu = (W .mc) ((W .ro) p) + 1 → R.pt = (if kd = "package" then "visible" else "body") → R.ge = .none → Q (.ref x) { s with heap := h', toks := tk' }) :
    wpAny (model prog w) (ktrTop dp un gd cn cs L a₀ ccd cl outer) (call (.ref 106) [.str kd kt, v1, .ref p]) Q E s := by
  have hro := hw.root p hp
  obtain ⟨pt, hpt⟩ : ∃ x : Str, x = (if kd = "package" then "visible" else "body") := ⟨_, rfl⟩
  k_with "eval IfExp Compare Constant Constant" => first
    | ((with_reducible show wpAny _ _ (eval (Expr.IfExp _ (Expr.Constant (Const.int _) _ _) _ _) _) (fun _ _ => wpAny _ _ _ _ _ _) _ _); refine cut_int ?_ ?_; rotate_left; intro li lk tk1; rotate_right)
    | ((with_reducible show wpAny _ _ _ (fun _ _ => wpAny _ _ _ _ _ _) _ _); refine cut_str pt ?_ ?_; rotate_left; intro pk tk2; rotate_right)
  all_goals k_steps
  all_goals first
    | exact IntAt.mk _ _ _
    | exact StrAt.yes hpt (b := kd == Str.ofString "package") (by assumption) (fun h => by simpa using h) _ _
    | exact StrAt.no hpt (b := kd == Str.ofString "package") (by assumption) (fun h => by simpa using h) _ _
    | (have z := reg_end (R := ⟨_, tok17 _ _ _ _ _ _ _ _ _ _ _ _ _ _ _ 0 0, _, _, _, _, _, _, _, _, _, _, _, _, _, _, _, _, _, _, _, _, _, _, _⟩) (by assumption) (by assumption) ⟨rfl, rfl, rfl, rfl, rfl, rfl, rfl, rfl, rfl, rfl⟩ (by rfl) (by assumption) (addrs_setMc _ _ _) (by assumption) (by first | k_extra "m_lt" | ((try dsimp only); omega)) (by first | k_extra "m_lt" | ((try dsimp only); omega)) (by first | k_extra "m_lt" | ((try dsimp only); omega)) (by first | k_extra "m_lt" | ((try dsimp only); omega)) (by first | k_extra "m_lt" | ((try dsimp only); omega)) (by first | k_extra "m_lt" | ((try dsimp only); omega)) (.inr hro) (by assumption) (by assumption) (by assumption)
       exact ret _ _ _ _ _ (by assumption) z.1 z.2.1 (addrs_setMc _ _ _ ▸ z.2.2) rfl rfl rfl rfl (upd_same (W .mc) ((W .ro) p) ((W .mc) ((W .ro) p) + 1)) hpt rfl)
theorem regjj3 : True := by
  k_with "call ref" => (k_here; (with_reducible show wpAny _ _ (call (Value.ref 106) [_, _, _]) _ _ _); k_dflt (refine' region_spec ?z120B ?z120F ?z120X ?z120T ?z120k ?z120r ?z120u (Fold'.nws ?z120S ?z120N) (Fold'.wf ?z120S ?z120w) ?z120x0 ?z120x1 ?_; (case z120B => k_asm); (case z120F => k_asm); (case z120X => k_asm); (case z120T => k_asm); (case z120k => first | exact rfl | assumption); (case z120r => ktr_room); (case z120u => ktr_units); (case z120N => k_asm); (case z120S => k_extra "m_fold"); (case z120w => assumption); (case z120x0 => assumption); (case z120x1 => first | assumption | exact .inl rfl | exact .inr (.inl rfl) | exact .inr (.inr rfl))); intro x' R' t' h' tk' F' N' hw' hx' q1 q2 q3 q4 q5 q6 q7; (try dsimp only); (try k_sweep))
  trivial
theorem open_region_own {prog : Program} {w : World} {mean : ExcName → Option Value} {mg mb : Str → Option Value} {dp un : Nat} {gd : Option (List Code)} {cn : Str} {cs : Scope} {a₀ : Addr} {ccd : Value} {cl : List (Str × Addr)} {outer : List Env} {A₀ : Around} {base h₀ : Heap} {L : Addr} {m : Str → Option Value} {s : Shared} {Q : Value → Shared → Prop} {E : Value → Shared → Prop} {W : Sx} {kd : Str} {kt : Tok} {p e : Addr}
    (B : Below A₀ base outer h₀) (F : Fr h₀ L s.heap m) (X : (hd.heap_39 w.params).In h₀) (T : Top hd.view_39 (looseW hd.view_39 []) mean mg mb h₀) (hk : cs.kind = .function) (hroom : dp + 30 < recursionLimit) (hunits : un + 300 < cLine)
    (N : News h₀ L s.heap (led w.params W)) (hw : Wf prog w W) (hp : p ∈ (W .rs)) (he : e ∈ (W .es)) (hkd : kd = "package")
    (ret : ∀ x R t h' tk', Fr h₀ L h' m → News h₀ L h' (led w.params (((W.setMc ((W .ro) p) ((W .mc) ((W .ro) p) + 1) t).addR x R).setEr e (.ref x))) → Wf prog w (((W.setMc ((W .ro) p) ((W .mc) ((W .ro) p) + 1) t).addR x R).setEr e (.ref x)) → x ∉ addrs W → R.kd = kd → R.ow = .ref e → R.pa = .ref p → R.ro = (W .ro) p → R.nu = (W .mc) ((W .ro) p) + 1 → R.pt = (if kd = "package" then "visible" else "body") → R.ge = .none → Q (.ref x) { s with heap := h', toks := tk' }) :
    wpAny (model prog w) (ktrTop dp un gd cn cs L a₀ ccd cl outer) (call (.ref 117) [.str kd kt, .ref e, .ref p]) Q E s := by
  refine wpAny_call ?_
  k_dflt ktr_enter
  subst hkd
  generalize s.toks + _ = tk0
  k_steps
  all_goals exact ret _ _ _ _ _ (by assumption) (by assumption) (by assumption) (by assumption) (by assumption) (by assumption) (by assumption) (by assumption) (by assumption) (by assumption) (by assumption)
theorem open_region_non {prog : Program} {w : World} {mean : ExcName → Option Value} {mg mb : Str → Option Value} {dp un : Nat} {gd : Option (List Code)} {cn : Str} {cs : Scope} {a₀ : Addr} {ccd : Value} {cl : List (Str × Addr)} {outer : List Env} {A₀ : Around} {base h₀ : Heap} {L : Addr} {m : Str → Option Value} {s : Shared} {Q : Value → Shared → Prop} {E : Value → Shared → Prop} {W : Sx} {kd : Str} {kt : Tok} {p : Addr}
    (B : Below A₀ base outer h₀) (F : Fr h₀ L s.heap m) (X : (hd.heap_39 w.params).In h₀) (T : Top hd.view_39 (looseW hd.view_39 []) mean mg mb h₀) (hk : cs.kind = .function) (hroom : dp + 30 < recursionLimit) (hunits : un + 300 < cLine)
    (N : News h₀ L s.heap (led w.params W)) (hw : Wf prog w W) (hp : p ∈ (W .rs)) (hkd : kd = "package" ∨ kd = "sub" ∨ kd = "block")
    (ret : ∀ x R t h' tk', Fr h₀ L h' m → News h₀ L h' (led w.params ((W.setMc ((W .ro) p) ((W .mc) ((W .ro) p) + 1) t).addR x R)) → Wf prog w ((W.setMc ((W .ro) p) ((W .mc) ((W .ro) p) + 1) t).addR x R) → x ∉ addrs W → R.kd = kd → R.ow = .none → R.pa = .ref p → R.ro = (W .ro) p → R.nu = (W .mc) ((W .ro) p) + 1 → R.pt = (if kd = "package" then "visible" else "body") → R.ge = .none → Q (.ref x) { s with heap := h', toks := tk' }) :
    wpAny (model prog w) (ktrTop dp un gd cn cs L a₀ ccd cl outer) (call (.ref 117) [.str kd kt, .none, .ref p]) Q E s := by
  refine wpAny_call ?_
  k_dflt ktr_enter
  generalize s.toks + _ = tk0
  k_steps
  all_goals exact ret _ _ _ _ _ (by assumption) (by assumption) (by assumption) (by assumption) (by assumption) (by assumption) (by assumption) (by assumption) (by assumption) (by assumption) (by assumption)
theorem regjj4 : True := by
  k_with "call ref" => (k_here; (with_reducible show wpAny _ _ (call (Value.ref 138) [_]) _ _ _); k_dflt (refine' frame_region_spec ?z121B ?z121F ?z121X ?z121T ?z121k ?z121r ?z121u (Fold'.nws ?z121S ?z121N) (Fold'.wf ?z121S ?z121w) ?z121x0 ?_; (case z121B => k_asm); (case z121F => k_asm); (case z121X => k_asm); (case z121T => k_asm); (case z121k => first | exact rfl | assumption); (case z121r => ktr_room); (case z121u => ktr_units); (case z121N => k_asm); (case z121S => k_extra "m_fold"); (case z121w => assumption); (case z121x0 => assumption)); intro h' tk' F' N'; (try dsimp only); (try k_sweep))
  trivial
theorem settle_spec {prog : Program} {w : World} {mean : ExcName → Option Value} {mg mb : Str → Option Value} {dp un : Nat} {gd : Option (List Code)} {cn : Str} {cs : Scope} {a₀ : Addr} {ccd : Value} {cl : List (Str × Addr)} {outer : List Env} {A₀ : Around} {base h₀ : Heap} {L : Addr} {m : Str → Option Value} {s : Shared} {Q : Value → Shared → Prop} {E : Value → Shared → Prop} {W : Sx} {r e : Addr} {nm : Str} {nt : Tok}
    (B : Below A₀ base outer h₀) (F : Fr h₀ L s.heap m) (X : (hd.heap_39 w.params).In h₀) (T : Top hd.view_39 (looseW hd.view_39 []) mean mg mb h₀) (hk : cs.kind = .function) (hroom : dp + 30 < recursionLimit) (hunits : un + 300 < cLine)
    (N : News h₀ L s.heap (led w.params W)) (hw : Wf prog w W) (hr : r ∈ (W .rs)) (he : e ∈ (W .es)) (hn : (W .ef) e 1 = .str nm nt) (hv : valueAt ((W .k0) r) nm = none)
    (ret : ∀ h' tk', Fr h₀ L h' m → News h₀ L h' (led w.params W) → Q .none { s with heap := h', toks := tk' }) :
    wpAny (model prog w) (ktrTop dp un gd cn cs L a₀ ccd cl outer) (call (.ref 150) [.ref r, .ref e]) Q E s := by
  refine wpAny_call ?_
  k_dflt (k_extra "m_enterC")
  k_with "m_for" => k_extra "m_nil"
  k_steps
  all_goals exact ret _ _ (by assumption) (news_sub (by assumption) (by k_extra "m_sub"))
theorem give_spec {prog : Program} {w : World} {mean : ExcName → Option Value} {mg mb : Str → Option Value} {dp un : Nat} {gd : Option (List Code)} {cn : Str} {cs : Scope} {a₀ : Addr} {ccd : Value} {cl : List (Str × Addr)} {outer : List Env} {A₀ : Around} {base h₀ : Heap} {L : Addr} {m : Str → Option Value} {s : Shared} {Q : Value → Shared → Prop} {E : Value → Shared → Prop} {W : Sx} {r e f : Addr} {n₀ : Nat} {nm kd : Str} {nt kt : Tok}
    (B : Below A₀ base outer h₀) (F : Fr h₀ L s.heap m) (X : (hd.heap_39 w.params).In h₀) (T : Top hd.view_39 (looseW hd.view_39 []) mean mg mb h₀) (hk : cs.kind = .function) (hroom : dp + 50 < recursionLimit) (hunits : un + 500 < cLine)
    (N : News h₀ L s.heap (led w.params W)) (hw : Wf prog w W) (he : e ∈ (W .es)) (hf : Frm W r f n₀) (hkd : (W .ef) e 0 = .str kd kt) (hkn : (kd == "exception") = false) (hn : (W .ef) e 1 = .str nm nt) (hv : valueAt ((W .k4) f) nm = none) (hz : ((W .k4) f).length ≤ 1000)
    (ret : ∀ o t h' tk', Fr h₀ L h' m → News h₀ L h' (led w.params ((W.put4 f o nm (.int (0 + 1) t)).setEu e (.str nm nt))) → Wf prog w ((W.put4 f o nm (.int (0 + 1) t)).setEu e (.str nm nt)) → Q .none { s with heap := h', toks := tk' }) :
    wpAny (model prog w) (ktrTop dp un gd cn cs L a₀ ccd cl outer) (call (.ref 145) [.ref r, .ref e]) Q E s := by
  refine wpAny_call ?_
  k_dflt ktr_enter
  have hr := hf.mem
  have hfm := hf.end
  generalize s.toks + _ = tk0
  k_steps
  all_goals exact ret _ _ _ _ (by assumption) (by assumption) (by assumption)
theorem mem_r2_eq {P : Params} {W : Sx} {a : Addr} {vs : List Value} (ha : a ∈ (W .rs)) (h : (W .l2) a = vs) : ((W .a2) a, PySem.W.listOf vs.toArray ((W .n2) a)) ∈ led P W := h ▸ mem_r2 ha
theorem mem_r3_eq {P : Params} {W : Sx} {a : Addr} {vs : List Value} (ha : a ∈ (W .rs)) (h : (W .l3) a = vs) : ((W .a3) a, PySem.W.listOf vs.toArray ((W .n3) a)) ∈ led P W := h ▸ mem_r3 ha
theorem in_ints_W {prog : Program} {w : World} {A : Around} {E : Value → Shared → Prop} {s : Shared} {h₀ : Heap} {L l : Addr} {news : List (Addr × Obj)} {vs : List Value} {ns : List Int} {n : Nat} {k : Int} {t : Tok} {Q : Value → Shared → Prop} (N : News h₀ L s.heap news) (hp : (l, PySem.W.listOf vs.toArray n) ∈ news) (hi : IntsAre vs ns)
    (h : Q (.bool (ns.any (· == k))) s) : wpAny (model prog w) A (compareOp .In (.int k t) (.ref l)) Q E s := in_list_ints (isList_news N hp) hi h
theorem notin_ints_W {prog : Program} {w : World} {A : Around} {E : Value → Shared → Prop} {s : Shared} {h₀ : Heap} {L l : Addr} {news : List (Addr × Obj)} {vs : List Value} {ns : List Int} {n : Nat} {k : Int} {t : Tok} {Q : Value → Shared → Prop} (N : News h₀ L s.heap news) (hp : (l, PySem.W.listOf vs.toArray n) ∈ news) (hi : IntsAre vs ns)
    (h : Q (.bool (!(ns.any (· == k)))) s) : wpAny (model prog w) A (compareOp .NotIn (.int k t) (.ref l)) Q E s := notin_list_ints (isList_news N hp) hi h


theorem fold_end {prog : Program} {w : World} {W₀ W : Sx} {l : List (Addr × Obj)} {h₀ h : Heap} {L : Addr} (N : News h₀ L h l) (S : Fold' w.params W₀ l W) (hw : Wf prog w W₀) : News h₀ L h (led w.params W) ∧ Wf prog w W := ⟨S.nws N, S.wf hw⟩
theorem regjj5 : True := by
  k_with "x_k_mem" => first | exact mem_r2_eq (by assumption) (by assumption) | exact mem_r3_eq (by assumption) (by assumption)
  k_with "compareOp In int ref" => (k_here; k_dflt (refine' in_ints_W ?z123n ?z123p ?z123i ?_; (case z123n => k_asm); (case z123p => k_mem); (case z123i => assumption)))
  k_with "compareOp NotIn int ref" => (k_here; k_dflt (refine' notin_ints_W ?z124n ?z124p ?z124i ?_; (case z124n => k_asm); (case z124p => k_mem); (case z124i => assumption)))
  k_with "CompEnd" => ((k_here; first
      | (exfalso; contradiction)
      | (refine LCg.CompEnd.intro (by assumption) (by assumption) _ (fun _ h => h) (by assumption) (by first | exact True.intro | exact Or.inr ⟨_, by k_mem, rfl, _, rfl⟩) ?_)))
  k_with "callWith" => (k_here; (try dsimp only); (with_reducible show wpAny _ _ (callWith _ (Value.builtin _) (_ :: _) (backTo _ (starEach (_ :: _) _)) []) _ _ _); refine callWith_method1 ?_)
  k_with "m_off" => (((try dsimp only); first
      | with_reducible assumption
      | exact off_lt (by tbn_find)
      | exact off_ltA (by with_reducible assumption) (by tbn_find)
      | ((with_reducible first | refine off_setMc ?_ | refine off_setPt ?_ | refine off_setGe ?_ | refine off_setEn ?_ | refine off_setEu ?_ | refine off_setEh ?_ | refine off_setEp ?_ | refine off_setEr ?_ | refine off_setEy ?_ | refine off_app1 ?_ | refine off_app2 ?_ | refine off_app3 ?_ | refine off_put0 ?_ | refine off_put4 ?_ | refine off_put5 ?_ | refine off_setW ?_); k_extra "m_off")
      | (with_reducible refine off_addM ?_ ?_; (focus k_ne); k_extra "m_off")
      | with_reducible exact off_lt2 (by assumption) (by assumption)
      | with_reducible exact off_lt (allLt_of (by assumption))
      | with_reducible exact off_ltk _ (by assumption)
      | with_reducible exact off1_off (by assumption)))
  trivial
noncomputable def tok24 (t0 t1 t2 t3 t4 t5 t6 t7 t8 t9 t10 t11 t12 t13 t14 t15 t16 t17 t18 t19 t20 t21 t22 t23 : Tok) : Nat → Tok
  | 0 => t0 | 1 => t1 | 2 => t2 | 3 => t3 | 4 => t4 | 5 => t5 | 6 => t6 | 7 => t7 | 8 => t8 | 9 => t9 | 10 => t10 | 11 => t11 | 12 => t12 | 13 => t13 | 14 => t14 | 15 => t15 | 16 => t16 | 17 => t17 | 18 => t18 | 19 => t19 | 20 => t20 | 21 => t21 | 22 => t22 | _ => t23
noncomputable def val20 (t0 t1 t2 t3 t4 t5 t6 t7 t8 t9 t10 t11 t12 t13 t14 t15 t16 t17 t18 t19 : Value) : Nat → Value
  | 0 => t0 | 1 => t1 | 2 => t2 | 3 => t3 | 4 => t4 | 5 => t5 | 6 => t6 | 7 => t7 | 8 => t8 | 9 => t9 | 10 => t10 | 11 => t11 | 12 => t12 | 13 => t13 | 14 => t14 | 15 => t15 | 16 => t16 | 17 => t17 | 18 => t18 | _ => t19
noncomputable def typE (P : Params) (kt : Nat → Tok) (k nm nu pa : Value) (vs : Nat → Value) : List DictEntry :=
  [⟨PyData.keyHash P "kind", .str "kind" (kt 0), k⟩,
   ⟨PyData.keyHash P "name", .str "name" (kt 1), nm⟩,
   ⟨PyData.keyHash P "number", .str "number" (kt 2), nu⟩,
   ⟨PyData.keyHash P "parent", .str "parent" (kt 3), pa⟩,
   ⟨PyData.keyHash P "low", .str "low" (kt 4), vs 0⟩,
   ⟨PyData.keyHash P "high", .str "high" (kt 5), vs 1⟩,
   ⟨PyData.keyHash P "literals", .str "literals" (kt 6), vs 2⟩,
   ⟨PyData.keyHash P "modulus", .str "modulus" (kt 7), vs 3⟩,
   ⟨PyData.keyHash P "small", .str "small" (kt 8), vs 4⟩,
   ⟨PyData.keyHash P "index", .str "index" (kt 9), vs 5⟩,
   ⟨PyData.keyHash P "component", .str "component" (kt 10), vs 6⟩,
   ⟨PyData.keyHash P "is_constrained", .str "is_constrained" (kt 11), vs 7⟩,
   ⟨PyData.keyHash P "discriminants", .str "discriminants" (kt 12), vs 8⟩,
   ⟨PyData.keyHash P "components", .str "components" (kt 13), vs 9⟩,
   ⟨PyData.keyHash P "variant", .str "variant" (kt 14), vs 10⟩,
   ⟨PyData.keyHash P "designated", .str "designated" (kt 15), vs 11⟩,
   ⟨PyData.keyHash P "is_tagged", .str "is_tagged" (kt 16), vs 12⟩,
   ⟨PyData.keyHash P "wide", .str "wide" (kt 17), vs 13⟩,
   ⟨PyData.keyHash P "is_limited", .str "is_limited" (kt 18), vs 14⟩,
   ⟨PyData.keyHash P "is_private", .str "is_private" (kt 19), vs 15⟩,
   ⟨PyData.keyHash P "is_abstract", .str "is_abstract" (kt 20), vs 16⟩,
   ⟨PyData.keyHash P "is_constant", .str "is_constant" (kt 21), vs 17⟩,
   ⟨PyData.keyHash P "is_late", .str "is_late" (kt 22), vs 18⟩,
   ⟨PyData.keyHash P "operations", .str "operations" (kt 23), vs 19⟩]
noncomputable def Sx.addMs (W : Sx) (T : List (Addr × Obj)) : Sx := fun f => match f with | .ms => T ++ (W .ms) | f => W f
theorem addMs_cons {W : Sx} {p : Addr × Obj} {T : List (Addr × Obj)} : W.addMs (p :: T) = (W.addMs T).addM p := by
  funext f; cases f <;> rfl
theorem addMs_nil {W : Sx} : W.addMs [] = W := by funext f; cases f <;> rfl
theorem addrs_addMs {W : Sx} {x : Addr} {T : List (Addr × Obj)} (h : x ∈ addrs (W.addMs T)) : x ∈ T.map (·.1) ∨ x ∈ addrs W := by
  induction T with
  | nil => rw [addMs_nil] at h; exact .inr h
  | cons p T ih =>
    rw [addMs_cons] at h
    rcases addrs_addM h with e | h
    · exact .inl (e ▸ .head _)
    · exact (ih h).imp (fun h => .tail _ h) id
theorem led_addMs {P : Params} {W : Sx} {q : Addr × Obj} {T : List (Addr × Obj)} (h : q ∈ led P (W.addMs T)) : q ∈ T ∨ q ∈ led P W := by
  induction T with
  | nil => rw [addMs_nil] at h; exact .inr h
  | cons p T ih =>
    rw [addMs_cons] at h
    rcases led_addM h with e | h
    · exact .inl (e ▸ .head _)
    · exact (ih h).imp (fun h => .tail _ h) id
theorem wf_addMs {prog : Program} {w : World} {W : Sx} {T : List (Addr × Obj)} (h : Wf prog w W) (hn : (T.map (·.1)).Nodup) (ho : ∀ x ∈ T.map (·.1), x ∉ addrs W) : Wf prog w (W.addMs T) := by
  induction T with
  | nil => rw [addMs_nil]; exact h
  | cons p T ih =>
    rw [addMs_cons]
    rw [List.map_cons, List.nodup_cons] at hn
    refine wf_addM (ih hn.2 fun x hx => ho x (.tail _ hx)) fun hp => ?_
    rcases addrs_addMs hp with h | h
    · exact hn.1 h
    · exact ho _ (.head _) h
theorem off_addMs {W : Sx} {t : Addr} {T : List (Addr × Obj)} (h1 : t ∉ T.map (·.1)) (h2 : t ∉ addrs W) : t ∉ addrs (W.addMs T) := fun h => (addrs_addMs h).elim h1 h2
theorem allLt_mem {d : Addr} : ∀ {l : List (Addr × Obj)}, AllLt d l → ∀ p ∈ l, @LT.lt Nat _ p.1 d
  | [], _, p, hp => by cases hp
  | q :: l, h, p, hp => by
    rcases List.mem_cons.mp hp with rfl | hp
    · exact h.1
    · exact allLt_mem h.2 p hp
theorem allLt_led {P : Params} {W : Sx} {d : Addr} (h : AllLt d (led P W)) : d ∉ addrs W := led_off (allLt_mem h)
theorem type_end {prog : Program} {w : World} {W : Sx} {h₀ h : Heap} {L x d e1 e2 e3 e4 e5 e6 : Addr} {o1 o2 o3 o4 o5 o6 ox od : Obj} (hw : Wf prog w W)
    (N : News h₀ L h ((e6, o6) :: (e5, o5) :: (e4, o4) :: (e3, o3) :: (e2, o2) :: (e1, o1) :: (x, ox) :: (d, od) :: led w.params W))
    (l1 : ∀ p ∈ led w.params W, @LT.lt Nat _ p.1 d) (l2 : @LT.lt Nat _ d x)
    (k1 : x < e1 ∧ d < e1 ∧ AllLt e1 (led w.params W)) (k2 : e1 < e2 ∧ x < e2 ∧ d < e2 ∧ AllLt e2 (led w.params W)) (k3 : e2 < e3 ∧ e1 < e3 ∧ x < e3 ∧ d < e3 ∧ AllLt e3 (led w.params W))
    (k4 : e3 < e4 ∧ e2 < e4 ∧ e1 < e4 ∧ x < e4 ∧ d < e4 ∧ AllLt e4 (led w.params W)) (k5 : e4 < e5 ∧ e3 < e5 ∧ e2 < e5 ∧ e1 < e5 ∧ x < e5 ∧ d < e5 ∧ AllLt e5 (led w.params W))
    (k6 : e5 < e6 ∧ e4 < e6 ∧ e3 < e6 ∧ e2 < e6 ∧ e1 < e6 ∧ x < e6 ∧ d < e6 ∧ AllLt e6 (led w.params W)) :
    News h₀ L h ((x, ox) :: (d, od) :: led w.params (W.addMs [(e6, o6), (e5, o5), (e4, o4), (e3, o3), (e2, o2), (e1, o1)])) ∧ Wf prog w (W.addMs [(e6, o6), (e5, o5), (e4, o4), (e3, o3), (e2, o2), (e1, o1)]) ∧
    x ∉ addrs (W.addMs [(e6, o6), (e5, o5), (e4, o4), (e3, o3), (e2, o2), (e1, o1)]) ∧ d ∉ addrs (W.addMs [(e6, o6), (e5, o5), (e4, o4), (e3, o3), (e2, o2), (e1, o1)]) := by
  have a1 := allLt_led k1.2.2
  have a2 := allLt_led k2.2.2.2
  have a3 := allLt_led k3.2.2.2.2
  have a4 := allLt_led k4.2.2.2.2.2
  have a5 := allLt_led k5.2.2.2.2.2.2
  have a6 := allLt_led k6.2.2.2.2.2.2.2
  have ad := led_off l1
  have ax : x ∉ addrs W := led_off fun p hp => Nat.lt_trans (l1 p hp) l2
  have asc : Asc x [e1, e2, e3, e4, e5, e6] := ⟨k1.1, k2.1, k3.1, k4.1, k5.1, k6.1, trivial⟩
  have asd : Asc d [e1, e2, e3, e4, e5, e6] := ⟨k1.2.1, k2.1, k3.1, k4.1, k5.1, k6.1, trivial⟩
  refine ⟨news_sub N fun p hp => ?_, wf_addMs hw ?_ ?_, off_addMs ?_ ax, off_addMs ?_ ad⟩
  · rcases List.mem_append.mp (show p ∈ [(x, ox), (d, od)] ++ led w.params (W.addMs _) from hp) with h | h
    · exact List.mem_append_right [_, _, _, _, _, _] (List.mem_append_left (led w.params W) h)
    · rcases led_addMs h with h | h
      · exact List.mem_append_left ((x, ox) :: (d, od) :: led w.params W) h
      · exact List.mem_append_right [_, _, _, _, _, _, _, _] h
  · exact (List.reverse_perm [e1, e2, e3, e4, e5, e6]).nodup_iff.mpr (List.nodup_cons.mp asc.nodup).2
  · intro y hy
    simp only [List.map_cons, List.map_nil, List.mem_cons, List.not_mem_nil, or_false] at hy
    rcases hy with rfl | rfl | rfl | rfl | rfl | rfl <;> assumption
  · exact fun hm => Nat.lt_irrefl _ (asc.gt x ((List.mem_reverse (as := [e1, e2, e3, e4, e5, e6])).mp hm))
  · exact fun hm => Nat.lt_irrefl _ (asd.gt d ((List.mem_reverse (as := [e1, e2, e3, e4, e5, e6])).mp hm))
theorem type_spec {prog : Program} {w : World} {mean : ExcName → Option Value} {mg mb : Str → Option Value} {dp un : Nat} {gd : Option (List Code)} {cn : Str} {cs : Scope} {a₀ : Addr} {ccd : Value} {cl : List (Str × Addr)} {outer : List Env} {A₀ : Around} {base h₀ : Heap} {L : Addr} {m : Str → Option Value} {s : Shared} {Q : Value → Shared → Prop} {E : Value → Shared → Prop} {W : Sx} {v0 v1 : Value}
    (B : Below A₀ base outer h₀) (F : Fr h₀ L s.heap m) (X : (hd.heap_39 w.params).In h₀) (T : Top hd.view_39 (looseW hd.view_39 []) mean mg mb h₀) (hk : cs.kind = .function) (hroom : dp + 20 < recursionLimit) (hunits : un + 200 < cLine)
    (N : News h₀ L s.heap (led w.params W)) (hw : Wf prog w W)
    (ret : ∀ x d M kt t0 vs h' tk', Fr h₀ L h' m → News h₀ L h' ((x, instObj 229 d) :: (d, dictOf (typE w.params kt v0 v1 (.int 0 t0) .none vs) 24) :: led w.params (W.addMs M)) → Wf prog w (W.addMs M) → x ∉ addrs (W.addMs M) → d ∉ addrs (W.addMs M) → @LT.lt Nat _ d x → Q (.ref x) { s with heap := h', toks := tk' }) :
    wpAny (model prog w) (ktrTop dp un gd cn cs L a₀ ccd cl outer) (call (.ref 229) [v0, v1]) Q E s := by
  k_steps
  have z := type_end hw (by assumption) (by assumption) (by assumption) (by assumption) (by assumption) (by assumption) (by assumption) (by assumption) (by assumption)
  exact ret _ _ _ (tok24 _ _ _ _ _ _ _ _ _ _ _ _ _ _ _ _ _ _ _ _ _ _ _ _) _ (val20 _ _ _ _ _ _ _ _ _ _ _ _ _ _ _ _ _ _ _ _) _ _ (by assumption) z.1 z.2.1 z.2.2.1 z.2.2.2 (by assumption)
inductive KeepF (P : Params) (W : Sx) : List (Addr × Obj) → (Sx → List (Addr × Obj)) → Prop
  | nil : KeepF P W (led P W) (fun W' => led P W')
  | cons {p l g} : p.1 ∉ addrs W → KeepF P W l g → KeepF P W (p :: l) (fun W' => p :: g W')
theorem KeepF.sub {P : Params} {W : Sx} {l : List (Addr × Obj)} {g : Sx → List (Addr × Obj)} (h : KeepF P W l g) : ∀ p ∈ led P W, p ∈ l := by
  induction h with
  | nil => exact fun _ h => h
  | cons _ _ ih => exact fun p hp => .tail _ (ih p hp)
section
variable {prog : Program} {w : World} {A : Around} {E : Value → Shared → Prop} {s : Shared} {h₀ : Heap} {L l : Addr} {m : Str → Option Value} {news : List (Addr × Obj)} {its : Array Value} {n : Nat} {W W₁ : Sx}
theorem run_appM (v : Value) {Q : Value → Shared → Prop} (F : Fr h₀ L s.heap m) (N : News h₀ L s.heap news) (S : Fold' w.params W news W₁) (hw : Wf prog w W) (hl : (l, PySem.W.listOf its n) ∈ (W₁ .ms)) (hz : its.size ≤ 1000)
    (h : ∀ h', Fr h₀ L h' m → News h₀ L h' (led w.params ((W₁.delM l).addM (l, PySem.W.listOf (its.push v) (n + 1)))) → Wf prog w ((W₁.delM l).addM (l, PySem.W.listOf (its.push v) (n + 1))) → Q .none { s with heap := h' }) :
    wpAny (model prog w) A (call (.builtin "list.append") [.ref l, v]) Q E s := by
  have hw1 := S.wf hw
  have ho := off_delM hw1 hl
  have N1 : News h₀ L s.heap ((l, PySem.W.listOf its n) :: led w.params (W₁.delM l)) := news_sub (S.nws N) fun p hp => by
    rcases List.mem_cons.mp hp with rfl | hp
    · exact mem_ms hl
    · exact led_delM hp
  refine append_K F N1 (Upd.head fun p hp => ?_) (fun h' F' N' => h h' F' (news_sub N' fun p hp => ?_) (wf_addM (wf_delM hw1) ho)) (by rw [sizeLine_eq]; omega)
  · intro e
    have z := mem_addrs hp
    rw [e] at z
    exact ho z
  · rcases led_addM hp with e | h
    · exact e ▸ .head _
    · exact .tail _ h
end
theorem off_ltA {P : Params} {W : Sx} {d x : Addr} (l2 : @LT.lt Nat _ d x) (h : AllLt d (led P W)) : x ∉ addrs W := by
  have key : ∀ {l : List (Addr × Obj)}, AllLt d l → ∀ p ∈ l, p.1 < d := by
    intro l
    induction l with
    | nil => intro _ p hp; nomatch hp
    | cons q l ih =>
      intro h p hp
      rcases List.mem_cons.mp hp with rfl | hp
      · exact h.1
      · exact ih h.2 p hp
  exact led_off fun p hp => Nat.lt_trans (key h p hp) l2
theorem KeepF.split {P : Params} {W : Sx} {l : List (Addr × Obj)} {g : Sx → List (Addr × Obj)} (h : KeepF P W l g) : ∃ T, l = T ++ led P W ∧ (g = fun W' => T ++ led P W') ∧ ∀ x ∈ T.map (·.1), x ∉ addrs W := by
  induction h with
  | nil => exact ⟨[], rfl, rfl, fun _ h => nomatch h⟩
  | cons hp _ ih =>
    obtain ⟨T, rfl, rfl, hT⟩ := ih
    refine ⟨_ :: T, rfl, rfl, fun x hx => ?_⟩
    rcases List.mem_cons.mp hx with rfl | hx
    · exact hp
    · exact hT x hx
theorem dedup {h₀ h : Heap} {L : Addr} {T : List (Addr × Obj)} (N : News h₀ L h T) : ∃ T' : List (Addr × Obj), (T'.map (·.1)).Nodup ∧ (∀ p ∈ T', p ∈ T) ∧ ∀ p ∈ T, p ∈ T' := by
  induction T with
  | nil => exact ⟨[], List.nodup_nil, fun _ h => h, fun _ h => h⟩
  | cons p T ih =>
    obtain ⟨T', h1, h2, h3⟩ := ih (news_sub N fun q hq => .tail _ hq)
    by_cases hp : p.1 ∈ T'.map (·.1)
    · refine ⟨T', h1, fun q hq => .tail _ (h2 q hq), fun q hq => ?_⟩
      rcases List.mem_cons.mp hq with rfl | hq
      · obtain ⟨r, hr, e⟩ := List.mem_map.mp hp
        have a := (N q (.head _)).1
        have b := (N r (.tail _ (h2 r hr))).1
        rw [e, a] at b
        have : r = q := Prod.ext e (Option.some.inj b).symm
        exact this ▸ hr
      · exact h3 q hq
    · refine ⟨p :: T', by rw [List.map_cons]; exact List.nodup_cons.mpr ⟨hp, h1⟩, fun q hq => ?_, fun q hq => ?_⟩
      · rcases List.mem_cons.mp hq with rfl | hq
        · exact .head _
        · exact .tail _ (h2 q hq)
      · rcases List.mem_cons.mp hq with rfl | hq
        · exact .head _
        · exact .tail _ (h3 q hq)
theorem addMs_setW {W : Sx} {T : List (Addr × Obj)} {o : Obj} {k : Int} {t : Tok} : (W.addMs T).setW o k t = (W.setW o k t).addMs T := by
  funext f; cases f <;> rfl
theorem wf_undo {prog : Program} {w : World} {W : Sx} {T : List (Addr × Obj)} (h : Wf prog w (W.addMs T)) : Wf prog w W := by
  obtain ⟨ρ, h1, h2⟩ := h.role
  refine ⟨⟨ρ, h1, fun p hp => h2 p (List.mem_append_right _ hp)⟩, h.root, h.d0, h.d4, h.d5, h.low, ?_, h.dw, h.cells, h.few, h.spot⟩
  exact h.nod.sublist ((List.sublist_append_right T ((W .ms))).map _)
theorem led_mono {P : Params} {W : Sx} {T : List (Addr × Obj)} {p : Addr × Obj} (h : p ∈ T ∨ p ∈ led P W) : p ∈ led P (W.addMs T) := by
  rcases h with h | h
  · exact mem_ms (List.mem_append_left _ h)
  · unfold led at h ⊢
    rcases List.mem_append.mp h with h | h
    · exact List.mem_append_left _ h
    · exact List.mem_append_right _ (List.mem_append_right _ h)
theorem dip_keep {prog : Program} {w : World} {mean : ExcName → Option Value} {mg mb : Str → Option Value} {dp un : Nat} {gd : Option (List Code)} {cn : Str} {cs : Scope} {a₀ : Addr} {ccd : Value} {cl : List (Str × Addr)} {outer : List Env} {A₀ : Around} {base h₀ : Heap} {L : Addr} {m : Str → Option Value} {s : Shared} {Q : Value → Shared → Prop} {E : Value → Shared → Prop} {W : Sx} {wd : Addr} {many : Int} {tm : Tok} {news : List (Addr × Obj)} {g : Sx → List (Addr × Obj)}
    (B : Below A₀ base outer h₀) (F : Fr h₀ L s.heap m) (X : (hd.heap_39 w.params).In h₀) (T : Top hd.view_39 (looseW hd.view_39 []) mean mg mb h₀) (hk : cs.kind = .function) (hroom : dp + 20 < recursionLimit) (hunits : un + 200 < cLine)
    (N : News h₀ L s.heap news) (hw : Wf prog w W) (S : KeepF w.params W news g) (ewd : (W .wd) = wd) (hm : 0 < many) (hm2 : many < 100)
    (ret : ∀ v tv o' k' t' h' tk', Fr h₀ L h' m → News h₀ L h' (g (W.setW o' k' t')) → Wf prog w (W.setW o' k' t') → 0 ≤ v → v < many → Q (.int v tv) { s with heap := h', toks := tk' }) :
    wpAny (model prog w) (ktrTop dp un gd cn cs L a₀ ccd cl outer) (call (.ref 276) [.ref wd, .int many tm]) Q E s := by
  obtain ⟨T0, rfl, rfl, hT⟩ := S.split
  obtain ⟨T', d1, d2, d3⟩ := dedup (news_sub N fun p hp => List.mem_append_left _ hp)
  have N1 : News h₀ L s.heap (led w.params (W.addMs T')) := news_sub N fun p hp => by
    rcases led_addMs hp with h | h
    · exact List.mem_append_left _ (d2 p h)
    · exact List.mem_append_right _ h
  have hT' : ∀ x ∈ T'.map (·.1), x ∉ addrs W := fun x hx => by
    obtain ⟨p, hp, rfl⟩ := List.mem_map.mp hx
    exact hT _ (List.mem_map_of_mem (d2 p hp))
  refine dip_spec B F X T hk hroom hunits N1 (wf_addMs hw d1 hT') ewd hm hm2 fun v tv o' k' t' h' tk' F' N' hw' v0 v1 => ?_
  rw [addMs_setW] at N' hw'
  refine ret v tv o' k' t' h' tk' F' (news_sub N' fun p hp => led_mono ?_) (wf_undo hw') v0 v1
  rcases List.mem_append.mp hp with h | h
  · exact .inl (d3 p h)
  · exact .inr h
theorem below {v : Int} {n : Nat} (h0 : 0 ≤ v) (h1 : v < n) : ∃ k : Nat, k < n ∧ v = k := by
  obtain ⟨k, rfl⟩ := Int.eq_ofNat_of_zero_le h0
  exact ⟨k, Int.ofNat_lt.mp h1, rfl⟩
theorem split2 {v : Int} (h0 : 0 ≤ v) (h1 : v < 2) : v = 0 ∨ v = 1 := by
  obtain ⟨k, hk, rfl⟩ := below (n := 2) h0 h1
  exact (by decide : ∀ k : Nat, k < 2 → (k : Int) = 0 ∨ (k : Int) = 1) k hk
theorem split3 {v : Int} (h0 : 0 ≤ v) (h1 : v < 3) : v = 0 ∨ v = 1 ∨ v = 2 := by
  obtain ⟨k, hk, rfl⟩ := below (n := 3) h0 h1
  exact (by decide : ∀ k : Nat, k < 3 → (k : Int) = 0 ∨ (k : Int) = 1 ∨ (k : Int) = 2) k hk
theorem split4 {v : Int} (h0 : 0 ≤ v) (h1 : v < 4) : v = 0 ∨ v = 1 ∨ v = 2 ∨ v = 3 := by
  obtain ⟨k, hk, rfl⟩ := below (n := 4) h0 h1
  exact (by decide : ∀ k : Nat, k < 4 → (k : Int) = 0 ∨ (k : Int) = 1 ∨ (k : Int) = 2 ∨ (k : Int) = 3) k hk
theorem split5 {v : Int} (_ : 0 ≤ v) (_ : v < 5) : v = 4 ∨ v ≠ 4 := Decidable.em _
theorem split6 {v : Int} (h0 : 0 ≤ v) (h1 : v < 6) : v = 0 ∨ v = 1 ∨ v = 2 ∨ v = 3 ∨ v = 4 ∨ v = 5 := by
  obtain ⟨k, hk, rfl⟩ := below (n := 6) h0 h1
  exact (by decide : ∀ k : Nat, k < 6 → (k : Int) = 0 ∨ (k : Int) = 1 ∨ (k : Int) = 2 ∨ (k : Int) = 3 ∨ (k : Int) = 4 ∨ (k : Int) = 5) k hk
inductive KeepT (P : Params) (W : Sx) : List (Addr × Obj) → List (Addr × Obj) → Prop
  | nil : KeepT P W (led P W) []
  | cons {p l T} : p.1 ∉ addrs W → KeepT P W l T → KeepT P W (p :: l) (p :: T)
theorem KeepT.split {P : Params} {W : Sx} {l T : List (Addr × Obj)} (h : KeepT P W l T) : l = T ++ led P W ∧ ∀ x ∈ T.map (·.1), x ∉ addrs W := by
  induction h with
  | nil => exact ⟨rfl, fun _ h => nomatch h⟩
  | cons hp _ ih =>
    obtain ⟨rfl, hT⟩ := ih
    refine ⟨rfl, fun x hx => ?_⟩
    rcases List.mem_cons.mp hx with rfl | hx
    · exact hp
    · exact hT x hx
inductive KTC (prog : Program) (w : World) (h₀ : Heap) (L : Addr) (h : Heap) (W : Sx) (T : List (Addr × Obj)) : Prop
  | mk (M : List (Addr × Obj)) : News h₀ L h (led w.params (W.addMs M)) → Wf prog w (W.addMs M) → (∀ p ∈ T, p ∈ M) → (∀ x ∈ M.map (·.1), x ∉ addrs W) → KTC prog w h₀ L h W T
theorem keepT_close {prog : Program} {w : World} {W : Sx} {l T : List (Addr × Obj)} {h₀ h : Heap} {L : Addr} (N : News h₀ L h l) (hw : Wf prog w W) (K : KeepT w.params W l T) :
    KTC prog w h₀ L h W T := by
  obtain ⟨rfl, hT⟩ := K.split
  obtain ⟨T', d1, d2, d3⟩ := dedup (news_sub N fun p hp => List.mem_append_left _ hp)
  have hT' : ∀ x ∈ T'.map (·.1), x ∉ addrs W := fun x hx => by
    obtain ⟨p, hp, rfl⟩ := List.mem_map.mp hx
    exact hT _ (List.mem_map_of_mem (d2 p hp))
  refine ⟨T', news_sub N fun p hp => ?_, wf_addMs hw d1 hT', d3, hT'⟩
  rcases led_addMs hp with h | h
  · exact List.mem_append_left _ (d2 p h)
  · exact List.mem_append_right _ h
theorem setW_setW {W : Sx} {o o' : Obj} {k k' : Int} {t t' : Tok} : (W.setW o k t).setW o' k' t' = W.setW o' k' t' := by funext f; cases f <;> rfl
inductive FL (ms : List (Addr × Obj)) : List Value → List (Option Str) → Prop
  | nil : FL ms [] []
  | ft {a nm t0 t1 t2 x vs ks} : (a, { cls := .type "tuple", data := .seq #[.str "ftype" t0, .int 1 t1, .str nm t2, .none, x] }) ∈ ms → FL ms vs ks → FL ms (.ref a :: vs) (some nm :: ks)
  | fo {a t0 t1 x2 x3 x4 vs ks} : (a, { cls := .type "tuple", data := .seq #[.str "fobject" t0, .int 1 t1, x2, x3, x4, .none] }) ∈ ms → FL ms vs ks → FL ms (.ref a :: vs) (none :: ks)
theorem FL.mono {ms ms' : List (Addr × Obj)} {vs : List Value} {ks : List (Option Str)} (h : FL ms vs ks) (hs : ∀ p ∈ ms, p ∈ ms') : FL ms' vs ks := by
  induction h with
  | nil => exact .nil
  | ft h _ ih => exact .ft (hs _ h) ih
  | fo h _ ih => exact .fo (hs _ h) ih
noncomputable def sixK : List (List (Option Str)) := [[], [none], [some "t"], [some "t", none], [some "t", some "u"], [some "t", none, some "u"]]
theorem regjj6 : True := by
  k_with "m_keepT" => first | exact KeepT.nil | (refine' KeepT.cons ?z128p ?z128q; (case z128p => k_extra "m_off"); (case z128q => k_extra "m_keepT"))
  k_with "m_in" => first | with_reducible_and_instances exact List.Mem.head _ | (with_reducible_and_instances refine List.Mem.tail _ ?_; k_extra "m_in")
  k_with "m_keep" => first | exact KeepF.nil | (refine' KeepF.cons ?z130p ?z130q; (case z130p => k_extra "m_off"); (case z130q => k_extra "m_keep"))
  k_with "call ref" => (k_here; (with_reducible show wpAny _ _ (call (Value.ref 276) [_, _]) _ _ _); k_dflt (refine' dip_keep ?z131B ?z131F ?z131X ?z131T ?z131k ?z131r ?z131u ?z131N ?z131w ?z131S ?z131x0 ?z131x1 ?z131x2 ?_; (case z131B => k_asm); (case z131F => k_asm); (case z131X => k_asm); (case z131T => k_asm); (case z131k => first | exact rfl | assumption); (case z131r => ktr_room); (case z131u => ktr_units); (case z131N => k_asm); (case z131S => k_extra "m_keep"); (case z131w => assumption); (case z131x0 => first | assumption | exact rfl); (case z131x1 => decide); (case z131x2 => decide)); intro v' tv' o' k' t' h' tk' F' N' hw' v0' v1'; (try dsimp only); (try k_sweep); first | (refine (split2 v0' v1').elim ?_ ?_ <;> (intro e'; subst e')) | (refine (split3 v0' v1').elim ?_ (fun e => e.elim ?_ ?_) <;> (intro e'; subst e')) | (refine (split4 v0' v1').elim ?_ (fun e => e.elim ?_ (fun e => e.elim ?_ ?_)) <;> (intro e'; subst e')) | (refine (split6 v0' v1').elim ?_ (fun e => e.elim ?_ (fun e => e.elim ?_ (fun e => e.elim ?_ (fun e => e.elim ?_ ?_)))) <;> (intro e'; subst e')) | skip)
  trivial
theorem formals_spec {prog : Program} {w : World} {mean : ExcName → Option Value} {mg mb : Str → Option Value} {dp un : Nat} {gd : Option (List Code)} {cn : Str} {cs : Scope} {a₀ : Addr} {ccd : Value} {cl : List (Str × Addr)} {outer : List Env} {A₀ : Around} {base h₀ : Heap} {L : Addr} {m : Str → Option Value} {s : Shared} {Q : Value → Shared → Prop} {E : Value → Shared → Prop} {W : Sx} {wd : Addr}
    (B : Below A₀ base outer h₀) (F : Fr h₀ L s.heap m) (X : (hd.heap_39 w.params).In h₀) (T : Top hd.view_39 (looseW hd.view_39 []) mean mg mb h₀) (hk : cs.kind = .function) (hroom : dp + 40 < recursionLimit) (hunits : un + 400 < cLine)
    (N : News h₀ L s.heap (led w.params W)) (hw : Wf prog w W) (ewd : (W .wd) = wd)
    (ret : ∀ o k t M fl n vs ks h' tk', Fr h₀ L h' m → News h₀ L h' (led w.params ((W.setW o k t).addMs M)) → Wf prog w ((W.setW o k t).addMs M) → (fl, PySem.W.listOf vs.toArray n) ∈ M → FL M vs ks → ks ∈ sixK → (∀ x ∈ M.map (·.1), x ∉ addrs W) → Q (.ref fl) { s with heap := h', toks := tk' }) :
    wpAny (model prog w) (ktrTop dp un gd cn cs L a₀ ccd cl outer) (call (.ref 283) [.ref wd]) Q E s := by
  refine wpAny_call ?_
  k_dflt ktr_enter
  generalize s.toks + _ = tk0
  k_steps
  all_goals (
    obtain ⟨M, N', hw', hM, hO⟩ := keepT_close (prog := prog) (by k_asm) (by assumption) (by k_extra "m_keepT")
    rw [setW_setW] at N' hw'
    first
      | exact ret _ _ _ M _ 0 [] [] _ _ (by assumption) N' hw' (hM _ (List.Mem.head _)) FL.nil (.head _) (by simpa only [addrs_setW] using hO)
      | exact ret _ _ _ M _ _ _ [none] _ _ (by assumption) N' hw' (hM _ (List.Mem.head _)) (FL.fo (hM _ (by k_extra "m_in")) FL.nil) (.tail _ (.head _)) (by simpa only [addrs_setW] using hO)
      | exact ret _ _ _ M _ _ _ [some "t"] _ _ (by assumption) N' hw' (hM _ (List.Mem.head _)) (FL.ft (hM _ (by k_extra "m_in")) FL.nil) (.tail _ (.tail _ (.head _))) (by simpa only [addrs_setW] using hO)
      | exact ret _ _ _ M _ _ _ [some "t", none] _ _ (by assumption) N' hw' (hM _ (List.Mem.head _)) (FL.ft (hM _ (by k_extra "m_in")) (FL.fo (hM _ (by k_extra "m_in")) FL.nil)) (.tail _ (.tail _ (.tail _ (.head _)))) (by simpa only [addrs_setW] using hO)
      | exact ret _ _ _ M _ _ _ [some "t", some "u"] _ _ (by assumption) N' hw' (hM _ (List.Mem.head _)) (FL.ft (hM _ (by k_extra "m_in")) (FL.ft (hM _ (by k_extra "m_in")) FL.nil)) (.tail _ (.tail _ (.tail _ (.tail _ (.head _))))) (by simpa only [addrs_setW] using hO)
      | exact ret _ _ _ M _ _ _ [some "t", none, some "u"] _ _ (by assumption) N' hw' (hM _ (List.Mem.head _)) (FL.ft (hM _ (by k_extra "m_in")) (FL.fo (hM _ (by k_extra "m_in")) (FL.ft (hM _ (by k_extra "m_in")) FL.nil))) (.tail _ (.tail _ (.tail _ (.tail _ (.tail _ (.head _)))))) (by simpa only [addrs_setW] using hO)
      | skip)
noncomputable def Sx.decl (W : Sx) (r f e : Addr) (nm : Str) (nt t1 : Tok) (ven vep : Value) (o4 : Obj) (t4 : Tok) (o0 : Obj) (l : Addr) : Sx :=
  Sx.addM (Sx.app1 (Sx.put0 (Sx.setEu (Sx.put4 (Sx.setEp (Sx.setEh (Sx.setEn (Sx.setMc W ((W .ro) r) ((W .mc) ((W .ro) r) + 1) t1) e ven) e (.ref r)) e vep) f o4 nm (.int (0 + 1) t4)) e (.str nm nt)) r o0 nm (.ref l)) r (.ref e)) (l, PySem.W.listOf #[.ref e] 1)
theorem decl_end {prog : Program} {w : World} {W : Sx} {r f e l : Addr} {nm : Str} {nt t1 t4 : Tok} {ven vep : Value} {o4 o0 : Obj} {h₀ h : Heap} {L : Addr}
    (N : News h₀ L h ((l, PySem.W.listOf (#[].push (.ref e)) (0 + 1)) :: led w.params (Sx.app1 (Sx.put0 (Sx.setEu (Sx.put4 (Sx.setEp (Sx.setEh (Sx.setEn (Sx.setMc W ((W .ro) r) ((W .mc) ((W .ro) r) + 1) t1) e ven) e (.ref r)) e vep) f o4 nm (.int (0 + 1) t4)) e (.str nm nt)) r o0 nm (.ref l)) r (.ref e))))
    (hw : Wf prog w (Sx.app1 (Sx.put0 (Sx.setEu (Sx.put4 (Sx.setEp (Sx.setEh (Sx.setEn (Sx.setMc W ((W .ro) r) ((W .mc) ((W .ro) r) + 1) t1) e ven) e (.ref r)) e vep) f o4 nm (.int (0 + 1) t4)) e (.str nm nt)) r o0 nm (.ref l)) r (.ref e))) (hl : l ∉ addrs W) : News h₀ L h (led w.params (W.decl r f e nm nt t1 ven vep o4 t4 o0 l)) ∧ Wf prog w (W.decl r f e nm nt t1 ven vep o4 t4 o0 l) := by
  have ho : l ∉ addrs (Sx.app1 (Sx.put0 (Sx.setEu (Sx.put4 (Sx.setEp (Sx.setEh (Sx.setEn (Sx.setMc W ((W .ro) r) ((W .mc) ((W .ro) r) + 1) t1) e ven) e (.ref r)) e vep) f o4 nm (.int (0 + 1) t4)) e (.str nm nt)) r o0 nm (.ref l)) r (.ref e)) := by rw [addrs_app1, addrs_put0, addrs_setEu, addrs_put4, addrs_setEp, addrs_setEh, addrs_setEn, addrs_setMc]; exact hl
  refine ⟨news_sub N fun p hp => ?_, wf_addM hw ho⟩
  rcases led_addM hp with h | h
  · exact h ▸ .head _
  · exact .tail _ h
theorem regjj7 : True := by
  k_with "call ref" => (k_here; (with_reducible show wpAny _ _ (call (Value.ref 150) [_, _]) _ _ _); k_dflt (refine' settle_spec ?z132B ?z132F ?z132X ?z132T ?z132k ?z132r ?z132u (Fold'.nws ?z132S ?z132N) (Fold'.wf ?z132S ?z132w) ?z132x0 ?z132x1 ?z132x2 ?z132x3 ?_; (case z132B => k_asm); (case z132F => k_asm); (case z132X => k_asm); (case z132T => k_asm); (case z132k => first | exact rfl | assumption); (case z132r => ktr_room); (case z132u => ktr_units); (case z132N => k_asm); (case z132S => k_extra "m_fold"); (case z132w => assumption); (case z132x0 => assumption); (case z132x1 => assumption); (case z132x2 => k_extra "m_eq"); (case z132x3 => k_extra "m_eq")); intro h' tk' F' N'; (try dsimp only); (try k_sweep))
  k_with "call ref" => (k_here; (with_reducible show wpAny _ _ (call (Value.ref 145) [_, _]) _ _ _); k_dflt (refine' give_spec ?z133B ?z133F ?z133X ?z133T ?z133k ?z133r ?z133u (Fold'.nws ?z133S ?z133N) (Fold'.wf ?z133S ?z133w) ?z133x0 ?z133x1 ?z133x2 ?z133x3 ?z133x4 ?z133x5 ?z133x6 ?_; (case z133B => k_asm); (case z133F => k_asm); (case z133X => k_asm); (case z133T => k_asm); (case z133k => first | exact rfl | assumption); (case z133r => ktr_room); (case z133u => ktr_units); (case z133N => k_asm); (case z133S => k_extra "m_fold"); (case z133w => assumption); (case z133x0 => assumption); (case z133x1 => k_extra "m_frm"); (case z133x2 => k_extra "m_eq"); (case z133x3 => assumption); (case z133x4 => k_extra "m_eq"); (case z133x5 => k_extra "m_eq"); (case z133x6 => k_extra "m_arith")); intro o' t' h' tk' F' N' hw'; (try dsimp only); (try k_sweep))
  trivial
theorem declare_spec {prog : Program} {w : World} {mean : ExcName → Option Value} {mg mb : Str → Option Value} {dp un : Nat} {gd : Option (List Code)} {cn : Str} {cs : Scope} {a₀ : Addr} {ccd : Value} {cl : List (Str × Addr)} {outer : List Env} {A₀ : Around} {base h₀ : Heap} {L : Addr} {m : Str → Option Value} {s : Shared} {Q : Value → Shared → Prop} {E : Value → Shared → Prop} {W : Sx} {r e f : Addr} {n₀ : Nat} {nm kd : Str} {nt kt : Tok}
    (B : Below A₀ base outer h₀) (F : Fr h₀ L s.heap m) (X : (hd.heap_39 w.params).In h₀) (T : Top hd.view_39 (looseW hd.view_39 []) mean mg mb h₀) (hk : cs.kind = .function) (hroom : dp + 60 < recursionLimit) (hunits : un + 600 < cLine)
    (N : News h₀ L s.heap (led w.params W)) (hw : Wf prog w W) (he : e ∈ (W .es)) (hf : Frm W r f n₀) (hkd : (W .ef) e 0 = .str kd kt) (hkn : (kd == "exception") = false) (hn : (W .ef) e 1 = .str nm nt) (hdot : (Builtin.Str.occurrences nm (Str.ofString ".") 0 nm.length 1).isEmpty = true) (hv : valueAt ((W .k0) r) nm = none) (hv4 : valueAt ((W .k4) f) nm = none) (hz0 : ((W .k0) r).length ≤ 1000) (hz4 : ((W .k4) f).length ≤ 1000) (hz1 : ((W .l1) r).length ≤ 1000)
    (ret : ∀ t1 ven vep o4 t4 o0 l h' tk', ven = .int ((W .mc) ((W .ro) r) + 1) t1 → Fr h₀ L h' m → News h₀ L h' (led w.params (W.decl r f e nm nt t1 ven vep o4 t4 o0 l)) → Wf prog w (W.decl r f e nm nt t1 ven vep o4 t4 o0 l) → l ∉ addrs W → Q .none { s with heap := h', toks := tk' }) :
    wpAny (model prog w) (ktrTop dp un gd cn cs L a₀ ccd cl outer) (call (.ref 157) [.ref r, .ref e]) Q E s := by
  refine wpAny_call ?_
  k_dflt ktr_enter
  have hr := hf.mem
  have hfm := hf.end
  have hro := hw.root r hr
  generalize s.toks + _ = tk0
  k_steps
  have z := decl_end (by assumption) (by assumption) (by k_extra "m_off")
  refine ret _ _ _ _ _ _ _ _ _ ?qv (by assumption) z.1 z.2 (by k_extra "m_off")
  case qv => first | rfl | (simp only [setMc_same, setMct_same]) | (simp only [Sx.setMc, upd_same])
theorem regjj8 : True := by
  k_with "call ref" => (k_here; (with_reducible show wpAny _ _ (call (Value.ref 157) [_, _]) _ _ _); k_dflt (refine' declare_spec ?z134B ?z134F ?z134X ?z134T ?z134k ?z134r ?z134u (Fold'.nws ?z134S ?z134N) (Fold'.wf ?z134S ?z134w) ?z134x0 ?z134x1 ?z134x2 ?z134x3 ?z134x4 ?z134x5 ?z134x6 ?z134x7 ?z134x8 ?z134x9 ?z134x10 ?_; (case z134B => k_asm); (case z134F => k_asm); (case z134X => k_asm); (case z134T => k_asm); (case z134k => first | exact rfl | assumption); (case z134r => ktr_room); (case z134u => ktr_units); (case z134N => k_asm); (case z134S => k_extra "m_fold"); (case z134w => assumption); (case z134x0 => assumption); (case z134x1 => k_extra "m_frm"); (case z134x2 => k_extra "m_eq"); (case z134x3 => assumption); (case z134x4 => k_extra "m_eq"); (case z134x5 => assumption); (case z134x6 => k_extra "m_eq"); (case z134x7 => k_extra "m_eq"); (case z134x8 => k_extra "m_arith"); (case z134x9 => k_extra "m_arith"); (case z134x10 => k_extra "m_arith")); intro t1' ven' vep' o4' t4' o0' l' h' tk' qv' F' N' hw' lo'; (try dsimp only); (try k_sweep))
  trivial
theorem declare_ready_spec {prog : Program} {w : World} {mean : ExcName → Option Value} {mg mb : Str → Option Value} {dp un : Nat} {gd : Option (List Code)} {cn : Str} {cs : Scope} {a₀ : Addr} {ccd : Value} {cl : List (Str × Addr)} {outer : List Env} {A₀ : Around} {base h₀ : Heap} {L : Addr} {m : Str → Option Value} {s : Shared} {Q : Value → Shared → Prop} {E : Value → Shared → Prop} {W : Sx} {r e f : Addr} {n₀ : Nat} {nm kd : Str} {nt kt : Tok}
    (B : Below A₀ base outer h₀) (F : Fr h₀ L s.heap m) (X : (hd.heap_39 w.params).In h₀) (T : Top hd.view_39 (looseW hd.view_39 []) mean mg mb h₀) (hk : cs.kind = .function) (hroom : dp + 70 < recursionLimit) (hunits : un + 700 < cLine)
    (N : News h₀ L s.heap (led w.params W)) (hw : Wf prog w W) (he : e ∈ (W .es)) (hf : Frm W r f n₀) (hkd : (W .ef) e 0 = .str kd kt) (hkn : (kd == "exception") = false) (hn : (W .ef) e 1 = .str nm nt) (hdot : (Builtin.Str.occurrences nm (Str.ofString ".") 0 nm.length 1).isEmpty = true) (hv : valueAt ((W .k0) r) nm = none) (hv4 : valueAt ((W .k4) f) nm = none) (hz0 : ((W .k0) r).length ≤ 1000) (hz4 : ((W .k4) f).length ≤ 1000) (hz1 : ((W .l1) r).length ≤ 1000)
    (ret : ∀ t1 ven vep o4 t4 o0 l h' tk', ven = .int ((W .mc) ((W .ro) r) + 1) t1 → Fr h₀ L h' m → News h₀ L h' (led w.params (Sx.setEy (W.decl r f e nm nt t1 ven vep o4 t4 o0 l) e (.bool true))) → Wf prog w (Sx.setEy (W.decl r f e nm nt t1 ven vep o4 t4 o0 l) e (.bool true)) → l ∉ addrs W → Q .none { s with heap := h', toks := tk' }) :
    wpAny (model prog w) (ktrTop dp un gd cn cs L a₀ ccd cl outer) (call (.ref 171) [.ref r, .ref e]) Q E s := by
  refine wpAny_call ?_
  k_dflt ktr_enter
  generalize s.toks + _ = tk0
  k_steps
  all_goals exact ret _ _ _ _ _ _ _ _ _ (by assumption) (by assumption) (by assumption) (by assumption) (by assumption)
theorem begin_private_spec {prog : Program} {w : World} {mean : ExcName → Option Value} {mg mb : Str → Option Value} {dp un : Nat} {gd : Option (List Code)} {cn : Str} {cs : Scope} {a₀ : Addr} {ccd : Value} {cl : List (Str × Addr)} {outer : List Env} {A₀ : Around} {base h₀ : Heap} {L : Addr} {m : Str → Option Value} {s : Shared} {Q : Value → Shared → Prop} {E : Value → Shared → Prop} {W : Sx} {r : Addr}
    (B : Below A₀ base outer h₀) (F : Fr h₀ L s.heap m) (X : (hd.heap_39 w.params).In h₀) (T : Top hd.view_39 (looseW hd.view_39 []) mean mg mb h₀) (hk : cs.kind = .function) (hroom : dp + 20 < recursionLimit) (hunits : un + 200 < cLine)
    (N : News h₀ L s.heap (led w.params W)) (hw : Wf prog w W) (hr : r ∈ (W .rs))
    (ret : ∀ t h' tk', Fr h₀ L h' m → News h₀ L h' (led w.params (W.setPt r "private" t)) → Wf prog w (W.setPt r "private" t) → Q .none { s with heap := h', toks := tk' }) :
    wpAny (model prog w) (ktrTop dp un gd cn cs L a₀ ccd cl outer) (call (.ref 124) [.ref r]) Q E s := by
  refine wpAny_call ?_
  k_dflt ktr_enter
  generalize s.toks + _ = tk0
  k_steps
  all_goals exact ret _ _ _ (by assumption) (by assumption) (by assumption)
theorem note_type_spec {prog : Program} {w : World} {mean : ExcName → Option Value} {mg mb : Str → Option Value} {dp un : Nat} {gd : Option (List Code)} {cn : Str} {cs : Scope} {a₀ : Addr} {ccd : Value} {cl : List (Str × Addr)} {outer : List Env} {A₀ : Around} {base h₀ : Heap} {L : Addr} {m : Str → Option Value} {s : Shared} {Q : Value → Shared → Prop} {E : Value → Shared → Prop} {W : Sx} {r : Addr} {k : Int} {kt : Tok}
    (B : Below A₀ base outer h₀) (F : Fr h₀ L s.heap m) (X : (hd.heap_39 w.params).In h₀) (T : Top hd.view_39 (looseW hd.view_39 []) mean mg mb h₀) (hk : cs.kind = .function) (hroom : dp + 20 < recursionLimit) (hunits : un + 200 < cLine)
    (N : News h₀ L s.heap (led w.params W)) (hw : Wf prog w W) (hr : r ∈ (W .rs)) (hv : valueAt ((W .k5) ((W .ro) r)) k = none) (hz : ((W .k5) ((W .ro) r)).length ≤ 1000)
    (ret : ∀ o tp h' tk', Fr h₀ L h' m → News h₀ L h' (led w.params (Sx.addM (W.put5 ((W .ro) r) o k (.ref tp)) (tp, { cls := .type "tuple", data := .seq #[.ref r, .str ((W .pt) r) ((W .ptt) r)] }))) → Wf prog w (Sx.addM (W.put5 ((W .ro) r) o k (.ref tp)) (tp, { cls := .type "tuple", data := .seq #[.ref r, .str ((W .pt) r) ((W .ptt) r)] })) → tp ∉ addrs W → Q .none { s with heap := h', toks := tk' }) :
    wpAny (model prog w) (ktrTop dp un gd cn cs L a₀ ccd cl outer) (call (.ref 183) [.ref r, .int k kt]) Q E s := by
  refine wpAny_call ?_
  k_dflt ktr_enter
  have hro := hw.root r hr
  generalize s.toks + _ = tk0
  k_steps
  have z := fold_end (prog := prog) (by k_asm) (by k_extra "m_fold") (by assumption)
  exact ret _ _ _ _ (by assumption) z.1 z.2 (by k_extra "m_off")
theorem add_use_type_spec {prog : Program} {w : World} {mean : ExcName → Option Value} {mg mb : Str → Option Value} {dp un : Nat} {gd : Option (List Code)} {cn : Str} {cs : Scope} {a₀ : Addr} {ccd : Value} {cl : List (Str × Addr)} {outer : List Env} {A₀ : Around} {base h₀ : Heap} {L : Addr} {m : Str → Option Value} {s : Shared} {Q : Value → Shared → Prop} {E : Value → Shared → Prop} {W : Sx} {r : Addr} {k : Int} {kt : Tok}
    (B : Below A₀ base outer h₀) (F : Fr h₀ L s.heap m) (X : (hd.heap_39 w.params).In h₀) (T : Top hd.view_39 (looseW hd.view_39 []) mean mg mb h₀) (hk : cs.kind = .function) (hroom : dp + 20 < recursionLimit) (hunits : un + 200 < cLine)
    (N : News h₀ L s.heap (led w.params W)) (hw : Wf prog w W) (hr : r ∈ (W .rs)) (hl : (W .l3) r = [])
    (ret : ∀ h' tk', Fr h₀ L h' m → News h₀ L h' (led w.params (W.app3 r (.int k kt))) → Wf prog w (W.app3 r (.int k kt)) → Q .none { s with heap := h', toks := tk' }) :
    wpAny (model prog w) (ktrTop dp un gd cn cs L a₀ ccd cl outer) (call (.ref 190) [.ref r, .int k kt]) Q E s := by
  refine wpAny_call ?_
  k_dflt ktr_enter
  have hi : IntsAre ((W .l3) r) [] := hl ▸ IntsAre.nil
  have hz : ((W .l3) r).length ≤ 1000 := by rw [hl]; exact Nat.zero_le _
  generalize s.toks + _ = tk0
  k_steps
  all_goals exact ret _ _ (by assumption) (by assumption) (by assumption)
theorem add_use_nil {prog : Program} {w : World} {mean : ExcName → Option Value} {mg mb : Str → Option Value} {dp un : Nat} {gd : Option (List Code)} {cn : Str} {cs : Scope} {a₀ : Addr} {ccd : Value} {cl : List (Str × Addr)} {outer : List Env} {A₀ : Around} {base h₀ : Heap} {L : Addr} {m : Str → Option Value} {s : Shared} {Q : Value → Shared → Prop} {E : Value → Shared → Prop} {W : Sx} {r e : Addr}
    (B : Below A₀ base outer h₀) (F : Fr h₀ L s.heap m) (X : (hd.heap_39 w.params).In h₀) (T : Top hd.view_39 (looseW hd.view_39 []) mean mg mb h₀) (hk : cs.kind = .function) (hroom : dp + 20 < recursionLimit) (hunits : un + 200 < cLine)
    (N : News h₀ L s.heap (led w.params W)) (hw : Wf prog w W) (hr : r ∈ (W .rs)) (he : e ∈ (W .es)) (hl : (W .l2) r = [])
    (ret : ∀ h' tk', Fr h₀ L h' m → News h₀ L h' (led w.params (W.app2 r (.ref e))) → Wf prog w (W.app2 r (.ref e)) → Q .none { s with heap := h', toks := tk' }) :
    wpAny (model prog w) (ktrTop dp un gd cn cs L a₀ ccd cl outer) (call (.ref 176) [.ref r, .ref e]) Q E s := by
  refine wpAny_call ?_
  k_dflt (k_extra "m_enterC")
  have hz : ((W .l2) r).length ≤ 1000 := by rw [hl]; exact Nat.zero_le _
  k_steps
  all_goals exact ret _ _ (by assumption) (news_sub (by assumption) (by k_extra "m_sub")) (by assumption)
theorem add_use_one {prog : Program} {w : World} {mean : ExcName → Option Value} {mg mb : Str → Option Value} {dp un : Nat} {gd : Option (List Code)} {cn : Str} {cs : Scope} {a₀ : Addr} {ccd : Value} {cl : List (Str × Addr)} {outer : List Env} {A₀ : Around} {base h₀ : Heap} {L : Addr} {m : Str → Option Value} {s : Shared} {Q : Value → Shared → Prop} {E : Value → Shared → Prop} {W : Sx} {r e o : Addr} {k k' : Int} {kt kt' : Tok}
    (B : Below A₀ base outer h₀) (F : Fr h₀ L s.heap m) (X : (hd.heap_39 w.params).In h₀) (T : Top hd.view_39 (looseW hd.view_39 []) mean mg mb h₀) (hk : cs.kind = .function) (hroom : dp + 20 < recursionLimit) (hunits : un + 200 < cLine)
    (N : News h₀ L s.heap (led w.params W)) (hw : Wf prog w W) (hr : r ∈ (W .rs)) (he : e ∈ (W .es)) (ho : o ∈ (W .es)) (hl : (W .l2) r = [.ref o]) (hn : (W .en) e = .int k kt) (hn' : (W .en) o = .int k' kt') (hne : k' ≠ k)
    (ret : ∀ h' tk', Fr h₀ L h' m → News h₀ L h' (led w.params (W.app2 r (.ref e))) → Wf prog w (W.app2 r (.ref e)) → Q .none { s with heap := h', toks := tk' }) :
    wpAny (model prog w) (ktrTop dp un gd cn cs L a₀ ccd cl outer) (call (.ref 176) [.ref r, .ref e]) Q E s := by
  refine wpAny_call ?_
  k_dflt (k_extra "m_enterC")
  have hz : ((W .l2) r).length ≤ 1000 := by rw [hl]; exact Nat.le_of_ble_eq_true rfl
  k_steps
  all_goals exact ret _ _ (by assumption) (news_sub (by assumption) (by k_extra "m_sub")) (by assumption)
theorem ef_addE {prog : Program} {w : World} {W : Sx} {e : Addr} {R : ERec} {v0 v1 v2 v3 v4 v5 : Value} (_ : Wf prog w (W.addE e R)) (h : R.ef = ef6 v0 v1 v2 v3 v4 v5) : C4 ((W.addE e R) .ef e 0 = v0) ((W.addE e R) .ef e 1 = v1) ((W.addE e R) .ef e 3 = v3) ((W.addE e R) .ef e 4 = v4) :=
  ⟨congrFun ((upd_same _ _ _).trans h) 0, congrFun ((upd_same _ _ _).trans h) 1, congrFun ((upd_same _ _ _).trans h) 3, congrFun ((upd_same _ _ _).trans h) 4⟩
theorem er_addE {prog : Program} {w : World} {W : Sx} {e : Addr} {R : ERec} {v : Value} (_ : Wf prog w (W.addE e R)) (h : R.er = v) : (W.addE e R) .er e = v := by
  exact (upd_same _ _ _).trans h
section
variable {prog : Program} {w : World} {W : Sx} {x e : Addr} {R : RRec} {v : Value} {k : Str} {p y : Addr}
theorem reg_facts (_ : Wf prog w (W.addR x R)) (h1 : R.kd = k) (h3 : R.pa = v) (h4 : R.ro = y) : C6 ((W.addR x R) .kd x = k) ((W.addR x R) .pa x = v) ((W.addR x R) .ro x = y) ((W.addR x R) .k0 x = []) ((W.addR x R) .k4 x = []) ((W.addR x R) .l1 x = []) :=
  ⟨(upd_same _ _ _).trans h1, (upd_same _ _ _).trans h3, (upd_same _ _ _).trans h4, upd_same _ _ _, upd_same _ _ _, upd_same _ _ _⟩
theorem reg_facts' (_ : Wf prog w ((W.addR x R).setEr e (.ref x))) (h1 : R.kd = k) (h3 : R.pa = v) (h4 : R.ro = y) : C7 (((W.addR x R).setEr e (.ref x)) .kd x = k) (((W.addR x R).setEr e (.ref x)) .pa x = v) (((W.addR x R).setEr e (.ref x)) .ro x = y) (((W.addR x R).setEr e (.ref x)) .k0 x = []) (((W.addR x R).setEr e (.ref x)) .k4 x = []) (((W.addR x R).setEr e (.ref x)) .l1 x = []) (((W.addR x R).setEr e (.ref x)) .er e = .ref x) :=
  ⟨(upd_same _ _ _).trans h1, (upd_same _ _ _).trans h3, (upd_same _ _ _).trans h4, upd_same _ _ _, upd_same _ _ _, upd_same _ _ _, upd_same _ _ _⟩
theorem va_nil {α : Type} [DecidableEq α] {l : List (α × Value)} {k : α} (h : l = []) : valueAt l k = none := by subst h; rfl
theorem len_nil {α : Type} {l : List α} (h : l = []) : l.length ≤ 1000 := by subst h; exact Nat.zero_le _
end


theorem Frm.at {W : Sx} {a : Addr} {k : Str} (h : a ∈ (W .rs)) (hk : (W .kd) a = k) (hf : frameK k = true) : Frm W a a 0 := .here h (hk ▸ hf)
theorem Frm.over {W : Sx} {a b : Addr} {k k' : Str} (h : a ∈ (W .rs)) (hk : (W .kd) a = k) (hf : frameK k = false) (hp : (W .pa) a = .ref b) (h' : b ∈ (W .rs)) (hk' : (W .kd) b = k') (hf' : frameK k' = true) : Frm W a b 1 := .up h (hk ▸ hf) hp (.here h' (hk' ▸ hf'))
theorem updx {β : Type} {f : Addr → β} {a b : Addr} {v : β} (h : b ≠ a) : upd f a v b = f b := upd_ne f v h
theorem mem_rs_addrs {W : Sx} {a : Addr} (h : a ∈ (W .rs)) : a ∈ addrs W := rs_addrs h

theorem mc_le {W : Sx} {a b : Addr} {i : Int} (hi : (W .mc) a ≤ i) : (W .mc) b ≤ upd (W .mc) a i b := by
  by_cases e : b = a
  · subst e; rw [upd_same]; exact hi
  · rw [upd_ne _ _ e]; exact Int.le_refl _
structure Kept (X : List Addr) (W W' : Sx) : Prop where
  inn : ∀ x ∈ addrs W, x ∈ X ∨ x ∈ addrs W'
  wd : (W' .wd) = (W .wd)
  rs : ∀ a ∈ (W .rs), a ∈ (W' .rs)
  es : ∀ e ∈ (W .es), e ∈ (W' .es)
  ms : ∀ p ∈ (W .ms), p.1 ∉ X → p ∈ (W' .ms)
  kd : ∀ a ∈ (W .rs), (W' .kd) a = (W .kd) a
  pa : ∀ a ∈ (W .rs), (W' .pa) a = (W .pa) a
  ro : ∀ a ∈ (W .rs), (W' .ro) a = (W .ro) a
  nu : ∀ a ∈ (W .rs), (W' .nu) a = (W .nu) a
  pt : ∀ a ∈ (W .rs), a ∉ X → (W' .pt) a = (W .pt) a
  ge : ∀ a ∈ (W .rs), a ∉ X → (W' .ge) a = (W .ge) a
  l2 : ∀ a ∈ (W .rs), a ∉ X → (W' .l2) a = (W .l2) a
  l3 : ∀ a ∈ (W .rs), a ∉ X → (W' .l3) a = (W .l3) a
  k5 : ∀ a ∈ (W .rs), a ∉ X → (W' .k5) a = (W .k5) a
  ef : ∀ e ∈ (W .es), (W' .ef) e = (W .ef) e
  en : ∀ e ∈ (W .es), e ∉ X → (W' .en) e = (W .en) e
  er : ∀ e ∈ (W .es), e ∉ X → (W' .er) e = (W .er) e
  mc : ∀ a ∈ (W .rs), (W .mc) a ≤ (W' .mc) a
theorem Kept.refl {X : List Addr} {W : Sx} : Kept X W W := ⟨fun _ h => .inr h, rfl, fun _ h => h, fun _ h => h, fun _ h _ => h, fun _ _ => rfl, fun _ _ => rfl, fun _ _ => rfl, fun _ _ => rfl, fun _ _ _ => rfl, fun _ _ _ => rfl, fun _ _ _ => rfl, fun _ _ _ => rfl, fun _ _ _ => rfl, fun _ _ => rfl, fun _ _ _ => rfl, fun _ _ _ => rfl, fun _ _ => Int.le_refl _⟩
section
variable {X : List Addr} {W W₁ : Sx}
theorem Kept.off (h : Kept X W W₁) {x : Addr} (hx : x ∉ addrs W₁) (hn : x ∉ X) : x ∉ addrs W := fun hm => (h.inn x hm).elim hn hx

theorem addrs_addM' {q : Addr × Obj} {x : Addr} (h : x ∈ addrs W₁) : x ∈ addrs (W₁.addM q) := by
  unfold addrs at h ⊢
  rcases List.mem_append.mp h with h | h
  · exact List.mem_append_left _ h
  · exact List.mem_append_right _ (List.mem_cons_of_mem _ h)
theorem addrs_addM_self {q : Addr × Obj} : q.1 ∈ addrs (W₁.addM q) := by
  unfold addrs
  exact List.mem_append_right _ (List.mem_cons_self ..)
theorem addrs_addMs' {T : List (Addr × Obj)} {x : Addr} (h : x ∈ addrs W₁) : x ∈ addrs (W₁.addMs T) := by
  unfold addrs at h ⊢
  rcases List.mem_append.mp h with h | h
  · exact List.mem_append_left _ h
  · refine List.mem_append_right _ ?_
    show x ∈ List.map _ (T ++ (W₁ .ms))
    rw [List.map_append]; exact List.mem_append_right _ h
theorem addrs_delM' {y x : Addr} (h : x ∈ addrs W₁) (hn : x ≠ y) : x ∈ addrs (W₁.delM y) := by
  unfold addrs at h ⊢
  rcases List.mem_append.mp h with h | h
  · exact List.mem_append_left _ h
  · refine List.mem_append_right _ ?_
    obtain ⟨q, hq, rfl⟩ := List.mem_map.mp h
    exact List.mem_map_of_mem (ms_delM hq hn)
theorem addrs_role {x : Addr} (h : x ∈ addrs W₁) : (∃ r ∈ dom W₁, x = adr W₁ r) ∨ x ∈ (W₁ .ms).map (·.1) := by
  unfold addrs at h
  rcases List.mem_append.mp h with h | h
  · obtain ⟨r, hr, e⟩ := List.mem_map.mp h
    exact .inl ⟨r, hr, e.symm⟩
  · exact .inr h
theorem addrs_addE' {y x : Addr} {R : ERec} (hy : y ∉ addrs W₁) (h : x ∈ addrs W₁) : x ∈ addrs (W₁.addE y R) := by
  rcases addrs_role h with ⟨r, hr, rfl⟩ | h
  · have key : r ∈ dom (W₁.addE y R) ∧ adr (W₁.addE y R) r = adr W₁ r := by
      rcases mem_dom.mp hr with ⟨a, ha, h'⟩ | ⟨e, he, h'⟩ | rfl | rfl
      · refine ⟨dom_r (W := W₁.addE y R) ha h', ?_⟩
        unfold rRoles at h'
        simp only [List.mem_cons, List.not_mem_nil, or_false] at h'
        rcases h' with rfl | rfl | rfl | rfl | rfl | rfl | rfl | rfl <;> rfl
      · refine ⟨dom_e (W := W₁.addE y R) (List.mem_cons_of_mem _ he) h', ?_⟩
        have hne : e ≠ y := fun q => hy (q ▸ es_addrs he)
        unfold eRoles at h'
        simp only [List.mem_cons, List.not_mem_nil, or_false] at h'
        rcases h' with rfl | rfl
        · rfl
        · exact upd_ne _ _ hne
      · exact ⟨dom_w (by simp), rfl⟩
      · exact ⟨dom_w (by simp), rfl⟩
    rw [← key.2]; exact adr_mem key.1
  · unfold addrs; exact List.mem_append_right _ h
theorem addrs_addR' {y x : Addr} {R : RRec} (hy : y ∉ addrs W₁) (h : x ∈ addrs W₁) : x ∈ addrs (W₁.addR y R) := by
  rcases addrs_role h with ⟨r, hr, rfl⟩ | h
  · have key : r ∈ dom (W₁.addR y R) ∧ adr (W₁.addR y R) r = adr W₁ r := by
      rcases mem_dom.mp hr with ⟨a, ha, h'⟩ | ⟨e, he, h'⟩ | rfl | rfl
      · refine ⟨dom_r (W := W₁.addR y R) (List.mem_cons_of_mem _ ha) h', ?_⟩
        have hne : a ≠ y := fun q => hy (q ▸ rs_addrs ha)
        unfold rRoles at h'
        simp only [List.mem_cons, List.not_mem_nil, or_false] at h'
        rcases h' with rfl | rfl | rfl | rfl | rfl | rfl | rfl | rfl
        · rfl
        all_goals exact upd_ne _ _ hne
      · refine ⟨dom_e (W := W₁.addR y R) he h', ?_⟩
        unfold eRoles at h'
        simp only [List.mem_cons, List.not_mem_nil, or_false] at h'
        rcases h' with rfl | rfl <;> rfl
      · exact ⟨dom_w (by simp), rfl⟩
      · exact ⟨dom_w (by simp), rfl⟩
    rw [← key.2]; exact adr_mem key.1
  · unfold addrs; exact List.mem_append_right _ h
theorem Kept.setW (h : Kept X W W₁) {o : Obj} {k : Int} {t : Tok} : Kept X W (W₁.setW o k t) := ⟨fun x hx => (h.inn x hx).imp id fun q => (addrs_setW ..).symm ▸ q, h.wd, h.rs, h.es, h.ms, h.kd, h.pa, h.ro, h.nu, h.pt, h.ge, h.l2, h.l3, h.k5, h.ef, h.en, h.er, h.mc⟩
theorem Kept.setEu (h : Kept X W W₁) {a : Addr} {v : Value} : Kept X W (W₁.setEu a v) := ⟨fun x hx => (h.inn x hx).imp id fun q => (addrs_setEu ..).symm ▸ q, h.wd, h.rs, h.es, h.ms, h.kd, h.pa, h.ro, h.nu, h.pt, h.ge, h.l2, h.l3, h.k5, h.ef, h.en, h.er, h.mc⟩
theorem Kept.setEh (h : Kept X W W₁) {a : Addr} {v : Value} : Kept X W (W₁.setEh a v) := ⟨fun x hx => (h.inn x hx).imp id fun q => (addrs_setEh ..).symm ▸ q, h.wd, h.rs, h.es, h.ms, h.kd, h.pa, h.ro, h.nu, h.pt, h.ge, h.l2, h.l3, h.k5, h.ef, h.en, h.er, h.mc⟩
theorem Kept.setEp (h : Kept X W W₁) {a : Addr} {v : Value} : Kept X W (W₁.setEp a v) := ⟨fun x hx => (h.inn x hx).imp id fun q => (addrs_setEp ..).symm ▸ q, h.wd, h.rs, h.es, h.ms, h.kd, h.pa, h.ro, h.nu, h.pt, h.ge, h.l2, h.l3, h.k5, h.ef, h.en, h.er, h.mc⟩
theorem Kept.setEy (h : Kept X W W₁) {a : Addr} {v : Value} : Kept X W (W₁.setEy a v) := ⟨fun x hx => (h.inn x hx).imp id fun q => (addrs_setEy ..).symm ▸ q, h.wd, h.rs, h.es, h.ms, h.kd, h.pa, h.ro, h.nu, h.pt, h.ge, h.l2, h.l3, h.k5, h.ef, h.en, h.er, h.mc⟩
theorem Kept.app1 (h : Kept X W W₁) {a : Addr} {v : Value} : Kept X W (W₁.app1 a v) := ⟨fun x hx => (h.inn x hx).imp id fun q => (addrs_app1 ..).symm ▸ q, h.wd, h.rs, h.es, h.ms, h.kd, h.pa, h.ro, h.nu, h.pt, h.ge, h.l2, h.l3, h.k5, h.ef, h.en, h.er, h.mc⟩
theorem Kept.put0 (h : Kept X W W₁) {a : Addr} {o : Obj} {k : Str} {v : Value} : Kept X W (W₁.put0 a o k v) := ⟨fun x hx => (h.inn x hx).imp id fun q => (addrs_put0 ..).symm ▸ q, h.wd, h.rs, h.es, h.ms, h.kd, h.pa, h.ro, h.nu, h.pt, h.ge, h.l2, h.l3, h.k5, h.ef, h.en, h.er, h.mc⟩
theorem Kept.put4 (h : Kept X W W₁) {a : Addr} {o : Obj} {k : Str} {v : Value} : Kept X W (W₁.put4 a o k v) := ⟨fun x hx => (h.inn x hx).imp id fun q => (addrs_put4 ..).symm ▸ q, h.wd, h.rs, h.es, h.ms, h.kd, h.pa, h.ro, h.nu, h.pt, h.ge, h.l2, h.l3, h.k5, h.ef, h.en, h.er, h.mc⟩
theorem Kept.addM (h : Kept X W W₁) {q : Addr × Obj} : Kept X W (W₁.addM q) := ⟨fun x hx => (h.inn x hx).imp id addrs_addM', h.wd, h.rs, h.es, fun q hq hn => List.mem_cons_of_mem _ (h.ms q hq hn), h.kd, h.pa, h.ro, h.nu, h.pt, h.ge, h.l2, h.l3, h.k5, h.ef, h.en, h.er, h.mc⟩
theorem Kept.addMs (h : Kept X W W₁) {T : List (Addr × Obj)} : Kept X W (W₁.addMs T) := ⟨fun x hx => (h.inn x hx).imp id addrs_addMs', h.wd, h.rs, h.es, fun q hq hn => List.mem_append_right _ (h.ms q hq hn), h.kd, h.pa, h.ro, h.nu, h.pt, h.ge, h.l2, h.l3, h.k5, h.ef, h.en, h.er, h.mc⟩
theorem Kept.setMc (h : Kept X W W₁) {a : Addr} {i : Int} {t : Tok} (hi : (W₁ .mc) a ≤ i) : Kept X W (W₁.setMc a i t) := ⟨fun x hx => (h.inn x hx).imp id fun q => (addrs_setMc ..).symm ▸ q, h.wd, h.rs, h.es, h.ms, h.kd, h.pa, h.ro, h.nu, h.pt, h.ge, h.l2, h.l3, h.k5, h.ef, h.en, h.er, fun b hb => Int.le_trans (h.mc b hb) (mc_le hi)⟩
theorem Kept.setPt (h : Kept X W W₁) {a : Addr} {i : Str} {t : Tok} (ha : a ∈ X ∨ a ∉ addrs W) : Kept X W (W₁.setPt a i t) := ⟨fun x hx => (h.inn x hx).imp id fun q => (addrs_setPt ..).symm ▸ q, h.wd, h.rs, h.es, h.ms, h.kd, h.pa, h.ro, h.nu, fun b hb hn => (updx (by intro e; subst e; exact ha.elim hn fun q => q (rs_addrs hb))).trans (h.pt b hb hn), h.ge, h.l2, h.l3, h.k5, h.ef, h.en, h.er, h.mc⟩
theorem Kept.setGe (h : Kept X W W₁) {a : Addr} {v : Value} (ha : a ∈ X ∨ a ∉ addrs W) : Kept X W (W₁.setGe a v) := ⟨fun x hx => (h.inn x hx).imp id fun q => (addrs_setGe ..).symm ▸ q, h.wd, h.rs, h.es, h.ms, h.kd, h.pa, h.ro, h.nu, h.pt, fun b hb hn => (updx (by intro e; subst e; exact ha.elim hn fun q => q (rs_addrs hb))).trans (h.ge b hb hn), h.l2, h.l3, h.k5, h.ef, h.en, h.er, h.mc⟩
theorem Kept.app2 (h : Kept X W W₁) {a : Addr} {v : Value} (ha : a ∈ X ∨ a ∉ addrs W) : Kept X W (W₁.app2 a v) := ⟨fun x hx => (h.inn x hx).imp id fun q => (addrs_app2 ..).symm ▸ q, h.wd, h.rs, h.es, h.ms, h.kd, h.pa, h.ro, h.nu, h.pt, h.ge, fun b hb hn => (updx (by intro e; subst e; exact ha.elim hn fun q => q (rs_addrs hb))).trans (h.l2 b hb hn), h.l3, h.k5, h.ef, h.en, h.er, h.mc⟩
theorem Kept.app3 (h : Kept X W W₁) {a : Addr} {v : Value} (ha : a ∈ X ∨ a ∉ addrs W) : Kept X W (W₁.app3 a v) := ⟨fun x hx => (h.inn x hx).imp id fun q => (addrs_app3 ..).symm ▸ q, h.wd, h.rs, h.es, h.ms, h.kd, h.pa, h.ro, h.nu, h.pt, h.ge, h.l2, fun b hb hn => (updx (by intro e; subst e; exact ha.elim hn fun q => q (rs_addrs hb))).trans (h.l3 b hb hn), h.k5, h.ef, h.en, h.er, h.mc⟩
theorem Kept.put5 (h : Kept X W W₁) {a : Addr} {o : Obj} {k : Int} {v : Value} (ha : a ∈ X ∨ a ∉ addrs W) : Kept X W (W₁.put5 a o k v) := ⟨fun x hx => (h.inn x hx).imp id fun q => (addrs_put5 ..).symm ▸ q, h.wd, h.rs, h.es, h.ms, h.kd, h.pa, h.ro, h.nu, h.pt, h.ge, h.l2, h.l3, fun b hb hn => (updx (by intro e; subst e; exact ha.elim hn fun q => q (rs_addrs hb))).trans (h.k5 b hb hn), h.ef, h.en, h.er, h.mc⟩
theorem Kept.setEn (h : Kept X W W₁) {a : Addr} {v : Value} (ha : a ∈ X ∨ a ∉ addrs W) : Kept X W (W₁.setEn a v) := ⟨fun x hx => (h.inn x hx).imp id fun q => (addrs_setEn ..).symm ▸ q, h.wd, h.rs, h.es, h.ms, h.kd, h.pa, h.ro, h.nu, h.pt, h.ge, h.l2, h.l3, h.k5, h.ef, fun b hb hn => (updx (by intro e; subst e; exact ha.elim hn fun q => q (es_addrs hb))).trans (h.en b hb hn), h.er, h.mc⟩
theorem Kept.setEr (h : Kept X W W₁) {a : Addr} {v : Value} (ha : a ∈ X ∨ a ∉ addrs W) : Kept X W (W₁.setEr a v) := ⟨fun x hx => (h.inn x hx).imp id fun q => (addrs_setEr ..).symm ▸ q, h.wd, h.rs, h.es, h.ms, h.kd, h.pa, h.ro, h.nu, h.pt, h.ge, h.l2, h.l3, h.k5, h.ef, h.en, fun b hb hn => (updx (by intro e; subst e; exact ha.elim hn fun q => q (es_addrs hb))).trans (h.er b hb hn), h.mc⟩
theorem Kept.delM (h : Kept X W W₁) {a : Addr} (ha : a ∈ X ∨ a ∉ addrs W) : Kept X W (W₁.delM a) := ⟨fun x hx => (h.inn x hx).elim .inl fun q => by
  by_cases e : x = a
  · exact ha.elim (fun z => .inl (e ▸ z)) fun z => absurd (e ▸ hx) z
  · exact .inr (addrs_delM' q e), h.wd, h.rs, h.es, fun q hq hn => ms_delM (h.ms q hq hn) fun e => ha.elim (fun z => hn (e ▸ z)) fun z => z (e ▸ addrs_ms hq), h.kd, h.pa, h.ro, h.nu, h.pt, h.ge, h.l2, h.l3, h.k5, h.ef, h.en, h.er, h.mc⟩
theorem Kept.addE (h : Kept X W W₁) {a : Addr} {R : ERec} (ha : a ∉ addrs W) (hf : a ∉ addrs W₁) : Kept X W (W₁.addE a R) := ⟨fun x hx => (h.inn x hx).imp id (addrs_addE' hf), h.wd, h.rs, fun e he => List.mem_cons_of_mem _ (h.es e he), h.ms, h.kd, h.pa, h.ro, h.nu, h.pt, h.ge, h.l2, h.l3, h.k5, fun b hb => (updx (by intro e; subst e; exact ha (es_addrs hb))).trans (h.ef b hb), fun b hb hn => (updx (by intro e; subst e; exact ha (es_addrs hb))).trans (h.en b hb hn), fun b hb hn => (updx (by intro e; subst e; exact ha (es_addrs hb))).trans (h.er b hb hn), h.mc⟩
theorem Kept.addR (h : Kept X W W₁) {a : Addr} {R : RRec} (ha : a ∉ addrs W) (hf : a ∉ addrs W₁) : Kept X W (W₁.addR a R) := ⟨fun x hx => (h.inn x hx).imp id (addrs_addR' hf), h.wd, fun e he => List.mem_cons_of_mem _ (h.rs e he), h.es, h.ms, fun b hb => (updx (by intro e; subst e; exact ha (rs_addrs hb))).trans (h.kd b hb), fun b hb => (updx (by intro e; subst e; exact ha (rs_addrs hb))).trans (h.pa b hb), fun b hb => (updx (by intro e; subst e; exact ha (rs_addrs hb))).trans (h.ro b hb), fun b hb => (updx (by intro e; subst e; exact ha (rs_addrs hb))).trans (h.nu b hb), fun b hb hn => (updx (by intro e; subst e; exact ha (rs_addrs hb))).trans (h.pt b hb hn), fun b hb hn => (updx (by intro e; subst e; exact ha (rs_addrs hb))).trans (h.ge b hb hn), fun b hb hn => (updx (by intro e; subst e; exact ha (rs_addrs hb))).trans (h.l2 b hb hn), fun b hb hn => (updx (by intro e; subst e; exact ha (rs_addrs hb))).trans (h.l3 b hb hn), fun b hb hn => (updx (by intro e; subst e; exact ha (rs_addrs hb))).trans (h.k5 b hb hn), h.ef, h.en, h.er, fun b hb => Int.le_trans (h.mc b hb) (Int.le_of_eq (updx (by intro e; subst e; exact ha (rs_addrs hb))).symm)⟩
theorem Kept.decl (h : Kept X W W₁) {r f a l : Addr} {nm : Str} {nt t1 t4 : Tok} {ven vep : Value} {o4 o0 : Obj} (ha : a ∈ X ∨ a ∉ addrs W) : Kept X W (W₁.decl r f a nm nt t1 ven vep o4 t4 o0 l) :=
  ((((((((h.setMc (by omega)).setEn ha).setEh).setEp).put4).setEu).put0).app1).addM
end
theorem Kept.trans {X : List Addr} {W W₁ W₂ : Sx} (h : Kept X W W₁) (g : Kept X W₁ W₂) : Kept X W W₂ := ⟨fun x hx => (h.inn x hx).elim .inl (g.inn x), g.wd.trans h.wd, fun a ha => g.rs a (h.rs a ha), fun a ha => g.es a (h.es a ha), fun p hp hn => g.ms p (h.ms p hp hn) hn, fun a ha => (g.kd a (h.rs a ha)).trans (h.kd a ha), fun a ha => (g.pa a (h.rs a ha)).trans (h.pa a ha), fun a ha => (g.ro a (h.rs a ha)).trans (h.ro a ha), fun a ha => (g.nu a (h.rs a ha)).trans (h.nu a ha), fun a ha hn => (g.pt a (h.rs a ha) hn).trans (h.pt a ha hn), fun a ha hn => (g.ge a (h.rs a ha) hn).trans (h.ge a ha hn), fun a ha hn => (g.l2 a (h.rs a ha) hn).trans (h.l2 a ha hn), fun a ha hn => (g.l3 a (h.rs a ha) hn).trans (h.l3 a ha hn), fun a ha hn => (g.k5 a (h.rs a ha) hn).trans (h.k5 a ha hn), fun a ha => (g.ef a (h.es a ha)).trans (h.ef a ha), fun a ha hn => (g.en a (h.es a ha) hn).trans (h.en a ha hn), fun a ha hn => (g.er a (h.es a ha) hn).trans (h.er a ha hn), fun a ha => Int.le_trans (h.mc a ha) (g.mc a (h.rs a ha))⟩
theorem Kept.cut {X Y : List Addr} {W W' : Sx} (h : Kept X W W') (hx : ∀ x ∈ X, x ∈ Y ∨ x ∉ addrs W) : Kept Y W W' := ⟨fun x q => (h.inn x q).elim (fun z => (hx x z).elim .inl fun y => absurd q y) .inr, h.wd, h.rs, h.es, fun p hp hn => h.ms p hp fun z => (hx _ z).elim hn fun y => y (addrs_ms hp), h.kd, h.pa, h.ro, h.nu, fun a ha hn => h.pt a ha fun z => (hx _ z).elim hn fun y => y (rs_addrs ha), fun a ha hn => h.ge a ha fun z => (hx _ z).elim hn fun y => y (rs_addrs ha), fun a ha hn => h.l2 a ha fun z => (hx _ z).elim hn fun y => y (rs_addrs ha), fun a ha hn => h.l3 a ha fun z => (hx _ z).elim hn fun y => y (rs_addrs ha), fun a ha hn => h.k5 a ha fun z => (hx _ z).elim hn fun y => y (rs_addrs ha), h.ef, fun a ha hn => h.en a ha fun z => (hx _ z).elim hn fun y => y (es_addrs ha), fun a ha hn => h.er a ha fun z => (hx _ z).elim hn fun y => y (es_addrs ha), h.mc⟩
noncomputable def FStepB (prog : Program) (w : World) (h₀ : Heap) (L l I : Addr) (lo io : Obj) (s : Shared) (J J' : (Str → Option Value) → Sx → Prop) (Q : Flow → Shared → Prop) (f : Flow) (s₃ : Shared) : Prop :=
  match f with
  | .ret v => Q (.ret v) s₃
  | .brk => FinJ prog w h₀ L l I lo io s J' s₃
  | _ => FinJ prog w h₀ L l I lo io s J s₃
theorem FStepB.intro {prog : Program} {w : World} {h₀ h' : Heap} {L l I : Addr} {lo io : Obj} {s : Shared} {J J' : (Str → Option Value) → Sx → Prop} {Q : Flow → Shared → Prop} {m' : Str → Option Value} {W' W₀ : Sx} {news : List (Addr × Obj)} {tk : Nat}
    (F : Fr h₀ L h' m') (N : News h₀ L h' news) (S : Fold' w.params W₀ news W') (hw : Wf prog w W₀) (hI : (I, io) ∈ (W' .ms)) (hl : (l, lo) ∈ (W' .ms)) (hJ : J m' (W'.delM I)) : FStepB prog w h₀ L l I lo io s J J' Q .next { s with heap := h', toks := tk } :=
  ⟨h', tk, m', W', rfl, F, S.nws N, S.wf hw, hI, hl, hJ⟩
theorem FStepB.brk {prog : Program} {w : World} {h₀ h' : Heap} {L l I : Addr} {lo io : Obj} {s : Shared} {J J' : (Str → Option Value) → Sx → Prop} {Q : Flow → Shared → Prop} {m' : Str → Option Value} {W' W₀ : Sx} {news : List (Addr × Obj)} {tk : Nat}
    (F : Fr h₀ L h' m') (N : News h₀ L h' news) (S : Fold' w.params W₀ news W') (hw : Wf prog w W₀) (hI : (I, io) ∈ (W' .ms)) (hl : (l, lo) ∈ (W' .ms)) (hJ : J' m' (W'.delM I)) : FStepB prog w h₀ L l I lo io s J J' Q .brk { s with heap := h', toks := tk } :=
  ⟨h', tk, m', W', rfl, F, S.nws N, S.wf hw, hI, hl, hJ⟩
theorem iter_B {prog : Program} {w : World} {A : Around} {E : Value → Shared → Prop} {s : Shared} {env : Env} {h₀ : Heap} {x : Str} {body : List Stmt} {Q : Flow → Shared → Prop} {l : Addr} {vs : List Value} {nn : Nat} {m₀ : Str → Option Value} {news : List (Addr × Obj)} {W₀ W₁ : Sx}
    (J : Nat → (Str → Option Value) → Sx → Prop) (hh : A.handled = none) (F : Fr h₀ env.locals s.heap m₀) (N : News h₀ env.locals s.heap news) (S : Fold' w.params W₀ news W₁) (hw₀ : Wf prog w W₀)
    (hl : (l, PySem.W.listOf vs.toArray nn) ∈ (W₁ .ms)) (hj : J 0 m₀ W₁)
    (turn : ∀ i v m₁ W h tk I io, vs[i]? = some v → J i m₁ W → io.cls = .type "list_iterator" → Wf prog w (W.addM (I, io)) → (l, PySem.W.listOf vs.toArray nn) ∈ (W .ms) → I ∉ addrs W → Fr h₀ env.locals h (fun y => if y = x then some v else m₁ y) → News h₀ env.locals h (led w.params (W.addM (I, io))) →
      wpAny (model prog w) A (execs body env) (FStepB prog w h₀ env.locals l I (PySem.W.listOf vs.toArray nn) io { s with heap := h, toks := tk } (J (i + 1)) (J i) Q) E { s with heap := h, toks := tk })
    (done : ∀ i m₁ W h tk, i ≤ vs.length → J i m₁ W → Wf prog w W → (l, PySem.W.listOf vs.toArray nn) ∈ (W .ms) → Fr h₀ env.locals h m₁ → News h₀ env.locals h (led w.params W) → Q .next { s with heap := h, toks := tk }) :
    wpAny (model prog w) A (pyIter (.ref l)) (fun it s₂ => LoopAtV prog w A h₀ env x body Q E it s₂) E s := by
  refine iter_W0 J hh F N S hw₀ hl hj (fun i v m₁ W h tk I io hP hJ hic hW hlW hoff F₁ N₁ => ?_) fun m' W h' tk hJ hW hlW F' N' => done _ m' W h' tk (Nat.le_refl _) hJ hW hlW F' N'
  refine wpAny_mono (turn i v m₁ W h tk I io hP hJ hic hW hlW hoff F₁ N₁) (fun f s₂ p => ?_) fun _ _ e => e
  cases f with
  | brk =>
    obtain ⟨h', tk, m', W', rfl, F', N', hw', hI', hl', hJ'⟩ := p
    refine done i m' (W'.delM I) h' tk ?_ hJ' (wf_delM hw') (ms_delM hl' fun e => hoff (e ▸ addrs_ms hlW)) F' (news_sub N' fun p hp => led_delM hp)
    exact Nat.le_of_lt (List.getElem?_eq_some_iff.mp hP).1
  | ret v => exact p
  | next => exact p
  | cont => exact p
theorem shape3 {f g k : Str} {m m₀ : Str → Option Value} (h : ∀ y, y ≠ f → y ≠ g → y ≠ k → m y = m₀ y) : ∃ a b c, m = fun y => if y = f then a else if y = g then b else if y = k then c else m₀ y := by
  refine ⟨m f, m g, m k, ?_⟩
  funext y
  by_cases h1 : y = f
  · subst h1; simp
  · by_cases h2 : y = g
    · subst h2; simp [h1]
    · by_cases h3 : y = k
      · subst h3; simp [h1, h2]
      · simp [h1, h2, h3, h y h1 h2 h3]
theorem FL.get {ms : List (Addr × Obj)} {vs : List Value} {ks : List (Option Str)} (h : FL ms vs ks) : ∀ {i : Nat} {v : Value}, vs[i]? = some v →
    (∃ a nm t0 t1 t2 x, v = .ref a ∧ ks[i]? = some (some nm) ∧ (a, { cls := .type "tuple", data := .seq #[.str "ftype" t0, .int 1 t1, .str nm t2, .none, x] }) ∈ ms) ∨
    (∃ a t0 t1 x2 x3 x4, v = .ref a ∧ ks[i]? = some none ∧ (a, { cls := .type "tuple", data := .seq #[.str "fobject" t0, .int 1 t1, x2, x3, x4, .none] }) ∈ ms) := by
  induction h with
  | nil => intro i v hv; cases hv
  | ft h _ ih =>
    intro i v hv
    cases i with
    | zero => cases hv; exact .inl ⟨_, _, _, _, _, _, rfl, rfl, h⟩
    | succ i => exact ih hv
  | fo h _ ih =>
    intro i v hv
    cases i with
    | zero => cases hv; exact .inr ⟨_, _, _, _, _, _, rfl, rfl, h⟩
    | succ i => exact ih hv
theorem FL.len {ms : List (Addr × Obj)} {vs : List Value} {ks : List (Option Str)} (h : FL ms vs ks) : vs.length = ks.length := by
  induction h with
  | nil => rfl
  | ft _ _ ih => simp [ih]
  | fo _ _ ih => simp [ih]
theorem ms_ne {prog : Program} {w : World} {W : Sx} (hw : Wf prog w W) {x y : Addr} {o o' : Obj} (h1 : (x, o) ∈ (W .ms)) (h2 : (y, o') ∈ (W .ms)) (hne : o ≠ o') : x ≠ y := by
  intro e
  subst e
  have hn := hw.nod
  have : ∀ l : List (Addr × Obj), (l.map (·.1)).Nodup → (x, o) ∈ l → (x, o') ∈ l → o = o' := by
    intro l
    induction l with
    | nil => intro _ h _; cases h
    | cons p l ih =>
      intro hn h1 h2
      rw [List.map_cons, List.nodup_cons] at hn
      rcases List.mem_cons.mp h1 with e1 | h1 <;> rcases List.mem_cons.mp h2 with e2 | h2
      · rw [← e1] at e2; exact (congrArg Prod.snd e2).symm
      · exact absurd (List.mem_map_of_mem (f := (·.1)) h2) (by rw [← e1] at hn; exact hn.1)
      · exact absurd (List.mem_map_of_mem (f := (·.1)) h1) (by rw [← e2] at hn; exact hn.1)
      · exact ih hn.2 h1 h2
  exact hne (this _ hn h1 h2)
noncomputable def Mm (W : Sx) (X : List Addr) (p : Addr × Obj) : Prop := p ∈ (W .ms) ∧ p.1 ∉ X
theorem Mm.kept {X : List Addr} {W W' : Sx} {p : Addr × Obj} (h : Mm W X p) (k : Kept X W W') : Mm W' X p := ⟨k.ms p h.1 h.2, h.2⟩
theorem Mm.less {X Y : List Addr} {W : Sx} {p : Addr × Obj} (h : Mm W X p) (hs : ∀ x ∈ Y, x ∈ X) : Mm W Y p := ⟨h.1, fun q => h.2 (hs _ q)⟩
noncomputable def subE (P : Params) (k0 k1 : Tok) (t : Value) : List DictEntry := [⟨PyData.keyHash P "type", .str "type" k0, t⟩, ⟨PyData.keyHash P "constraint", .str "constraint" k1, .none⟩]
inductive TyO (P : Params) (W : Sx) (X : List Addr) (ty : Addr) (k nu pa : Value) : Prop
  | mk (d : Addr) (kt : Nat → Tok) (nm : Value) (vs : Nat → Value) : Mm W X (ty, instObj 229 d) → Mm W X (d, dictOf (typE P kt k nm nu pa vs) 24) → TyO P W X ty k nu pa
noncomputable def TyK (P : Params) (W : Sx) (X : List Addr) (ty : Addr) (n : Int) : Prop :=
  (∃ t t', TyO P W X ty (.str "private" t) (.int n t') .none) ∨ (∃ t t' n' hd t1 t2, TyO P W X ty (.str "class" t) (.int n' t') (.ref hd) ∧ TyO P W X hd (.str "private" t1) (.int n t2) .none)
inductive Hit (P : Params) (W : Sx) (X : List Addr) (rg : Addr) (nm : Str) (n : Int) : Prop
  | mk (l : Addr) (c : Nat) (e sb d : Addr) (k0 k1 : Tok) (ty : Addr) (t : Tok) : valueAt ((W .k0) rg) nm = some (.ref l) → Mm W X (l, PySem.W.listOf [Value.ref e].toArray c) → e ∈ (W .es) → (W .ef) e 0 = .str "type" t → (W .ef) e 3 = .ref sb →
    Mm W X (sb, instObj 250 d) → Mm W X (d, dictOf (subE P k0 k1 (.ref ty)) 2) → TyK P W X ty n → Hit P W X rg nm n
inductive Rows (P : Params) (W : Sx) (X : List Addr) (rg : Addr) : List (Option Str) → List Int → Prop
  | nil : Rows P W X rg [] []
  | obj {ks ns} : Rows P W X rg ks ns → Rows P W X rg (none :: ks) ns
  | hit {ks ns nm n} : Hit P W X rg nm n → Rows P W X rg ks ns → Rows P W X rg (some nm :: ks) (n :: ns)
  | miss {ks ns nm} : valueAt ((W .k0) rg) nm = none → Rows P W X rg ks ns → Rows P W X rg (some nm :: ks) ns
theorem Rows.app {P : Params} {W : Sx} {X : List Addr} {rg : Addr} {ks ks' : List (Option Str)} {ns ns' : List Int} (h : Rows P W X rg ks ns) (h' : Rows P W X rg ks' ns') : Rows P W X rg (ks ++ ks') (ns ++ ns') := by
  induction h with
  | nil => exact h'
  | obj _ ih => exact .obj ih
  | hit h _ ih => exact .hit h ih
  | miss h _ ih => exact .miss h ih
section
variable {P : Params} {W W' : Sx} {X : List Addr} {rg : Addr}
theorem TyO.kept {ty : Addr} {k nu pa : Value} (h : TyO P W X ty k nu pa) (K : Kept X W W') : TyO P W' X ty k nu pa := by
  obtain ⟨d, kt, nm, vs, a, b⟩ := h
  exact ⟨d, kt, nm, vs, a.kept K, b.kept K⟩
theorem TyK.kept {ty : Addr} {n : Int} (h : TyK P W X ty n) (K : Kept X W W') : TyK P W' X ty n := by
  rcases h with ⟨t, t', a⟩ | ⟨t, t', n', hd, t1, t2, a, b⟩
  · exact .inl ⟨t, t', a.kept K⟩
  · exact .inr ⟨t, t', n', hd, t1, t2, a.kept K, b.kept K⟩
theorem Hit.kept {nm : Str} {n : Int} (h : Hit P W X rg nm n) (K : Kept X W W') (hk : ∀ v, valueAt ((W .k0) rg) nm = some v → valueAt ((W' .k0) rg) nm = some v) : Hit P W' X rg nm n := by
  obtain ⟨l, c, e, sb, d, k0, k1, ty, t, a1, a2, a3, a4, a5, a6, a7, a8⟩ := h
  exact ⟨l, c, e, sb, d, k0, k1, ty, t, hk _ a1, a2.kept K, K.es e a3, by rw [K.ef e a3]; exact a4, by rw [K.ef e a3]; exact a5, a6.kept K, a7.kept K, a8.kept K⟩
theorem Rows.kept {ks : List (Option Str)} {ns : List Int} (h : Rows P W X rg ks ns) (K : Kept X W W') (hk : ∀ nm v, valueAt ((W .k0) rg) nm = some v → valueAt ((W' .k0) rg) nm = some v)
    (hm : ∀ nm, some nm ∈ ks → valueAt ((W .k0) rg) nm = none → valueAt ((W' .k0) rg) nm = none) : Rows P W' X rg ks ns := by
  induction h with
  | nil => exact .nil
  | obj _ ih => exact .obj (ih fun nm h => hm nm (.tail _ h))
  | hit a _ ih => exact .hit (a.kept K (hk _)) (ih fun nm h => hm nm (.tail _ h))
  | miss a _ ih => exact .miss (hm _ (.head _) a) (ih fun nm h => hm nm (.tail _ h))
end
theorem va_snoc {l : List (Str × Value)} {k x : Str} {v : Value} : valueAt (l ++ [(k, v)]) x = match valueAt l x with | some u => some u | none => if k = x then some v else none := by
  unfold valueAt
  rw [List.find?_append]
  cases h : l.find? (fun kv => decide (kv.1 = x)) with
  | some u => simp
  | none =>
    by_cases e : k = x <;> simp [e]
theorem va_stored {l : List (Str × Value)} {k x : Str} {v : Value} (h : valueAt l k = none) : valueAt (stored l k v) x = if k = x then some v else valueAt l x := by
  rw [stored_absent h, va_snoc]
  by_cases e : k = x
  · subst e; rw [h]; try simp
  · cases valueAt l x <;> simp [e]
noncomputable def kn (k : Option Str) : Str := k.getD "n"
theorem decl_facts {prog : Program} {w : World} {W : Sx} {r f e l : Addr} {nm : Str} {nt t1 t4 : Tok} {ven vep : Value} {o4 o0 : Obj} (_ : Wf prog w (Sx.setEy (W.decl r f e nm nt t1 ven vep o4 t4 o0 l) e (.bool true))) :
    C6 ((Sx.setEy (W.decl r f e nm nt t1 ven vep o4 t4 o0 l) e (.bool true)) .k0 r = stored ((W .k0) r) nm (.ref l)) ((Sx.setEy (W.decl r f e nm nt t1 ven vep o4 t4 o0 l) e (.bool true)) .k4 f = stored ((W .k4) f) nm (.int (0 + 1) t4)) ((Sx.setEy (W.decl r f e nm nt t1 ven vep o4 t4 o0 l) e (.bool true)) .en e = ven) ((Sx.setEy (W.decl r f e nm nt t1 ven vep o4 t4 o0 l) e (.bool true)) .l1 r = (W .l1) r ++ [.ref e]) ((Sx.setEy (W.decl r f e nm nt t1 ven vep o4 t4 o0 l) e (.bool true)) .mc ((W .ro) r) = (W .mc) ((W .ro) r) + 1) ((l, PySem.W.listOf #[.ref e] 1) ∈ (Sx.setEy (W.decl r f e nm nt t1 ven vep o4 t4 o0 l) e (.bool true)) .ms) :=
  ⟨upd_same _ _ _, upd_same _ _ _, upd_same _ _ _, upd_same _ _ _, upd_same _ _ _, List.Mem.head _⟩
theorem FL.safe {prog : Program} {w : World} {W : Sx} {nl : Addr} {c : Nat} {its : Array Value} {vs : List Value} {ks : List (Option Str)} (h : FL (W .ms) vs ks) (hw : Wf prog w W) (hn : (nl, PySem.W.listOf its c) ∈ (W .ms)) : FL ((W.delM nl) .ms) vs ks := by
  induction h with
  | nil => exact .nil
  | ft a _ ih => exact .ft (ms_delM a (ms_ne hw a hn (fun e => absurd (Value.type.inj (congrArg Obj.cls e)) (by decide)))) ih
  | fo a _ ih => exact .fo (ms_delM a (ms_ne hw a hn (fun e => absurd (Value.type.inj (congrArg Obj.cls e)) (by decide)))) ih
theorem Kept.msd {W W' : Sx} {nl : Addr} (K : Kept [nl] W W') {p : Addr × Obj} (h : p ∈ (W.delM nl) .ms) : p ∈ (W' .ms) := by
  have h' := List.mem_filter.mp h
  exact K.ms p h'.1 (by simpa using h'.2)
structure JJ (P : Params) (wd ar rg nl : Addr) (nm1 : Str) (vs : List Value) (ks : List (Option Str)) (m₀ : Str → Option Value) (W₀ : Sx) (i : Nat) (m : Str → Option Value) (W : Sx) : Prop where
  shape : ∀ y : Str, y ≠ "formal" → y ≠ "made" → y ≠ "head" → m y = m₀ y
  kept : Kept [nl] W₀ W
  loop : ∃ ns vn c, (nl, PySem.W.listOf vn.toArray c) ∈ (W .ms) ∧ IntsAre vn ns ∧ vn.length ≤ i ∧ Rows P W [nl] rg (ks.take i) ns
  k0 : ∀ x, valueAt ((W .k0) rg) x ≠ none → x ∈ (ks.take i).map kn
  k4 : ∀ x, valueAt ((W .k4) ar) x ≠ none → x = nm1 ∨ x ∈ (ks.take i).map kn
  z0 : ((W .k0) rg).length ≤ i
  z4 : ((W .k4) ar).length ≤ i + 1
  z1 : ((W .l1) rg).length ≤ i
  forms : FL ((W₀.delM nl) .ms) vs ks
  six : ks ∈ sixK
  b1 : (W₀ .wd) = wd
  b2 : ar ∈ (W₀ .rs)
  b3 : rg ∈ (W₀ .rs)
  b4 : (W₀ .kd) ar = "sub"
  b5 : (W₀ .kd) rg = "package"
  b6 : (W₀ .pa) rg = .ref ar
  reg : (W .rs) = (W₀ .rs) ∧ (W .ro) = (W₀ .ro) ∧ (W .nu) = (W₀ .nu) ∧ ∀ a, a ≠ rg → (W .k0) a = (W₀ .k0) a
theorem JJ.start {prog : Program} {w : World} {P : Params} {wd ar rg nl : Addr} {nm1 : Str} {ks : List (Option Str)} {vs : List Value} {m₀ : Str → Option Value} {W₀ : Sx} {v : Value} {c : Nat} {l : List (Str × Value)} {M : List (Addr × Obj)}
    (_ : m₀ "well" = some (.ref wd)) (_ : m₀ "numbers" = some (.ref nl)) (_ : m₀ "around" = some (.ref ar)) (_ : m₀ "region" = some (.ref rg)) (hL : FL M vs ks) (hM : ∀ p ∈ M, p ∈ (W₀ .ms)) (six : ks ∈ sixK) (hw : Wf prog w W₀)
    (hn : (nl, PySem.W.listOf #[] c) ∈ (W₀ .ms)) (h0 : (W₀ .k0) rg = []) (h4 : (W₀ .k4) ar = stored l nm1 v) (hl : l = []) (h1 : (W₀ .l1) rg = [])
    (b1 : (W₀ .wd) = wd) (b2 : ar ∈ (W₀ .rs)) (b3 : rg ∈ (W₀ .rs)) (b4 : (W₀ .kd) ar = "sub") (b5 : (W₀ .kd) rg = "package") (b6 : (W₀ .pa) rg = .ref ar) :
    JJ P wd ar rg nl nm1 vs ks m₀ W₀ 0 m₀ W₀ where
  shape := fun _ _ _ _ => rfl
  kept := .refl
  loop := ⟨[], [], c, hn, .nil, Nat.le_refl _, .nil⟩
  k0 := fun x h => by rw [h0] at h; exact absurd rfl h
  k4 := fun x h => by
    rw [h4, hl, show stored [] nm1 v = [(nm1, v)] from rfl] at h
    refine .inl ?_
    by_cases e : nm1 = x
    · exact e.symm
    · exact absurd (by unfold valueAt; simp [e]) h
  z0 := by rw [h0]; exact Nat.le_refl _
  z4 := by rw [h4, hl]; exact Nat.le_refl _
  z1 := by rw [h1]; exact Nat.le_refl _
  forms := (hL.mono hM).safe hw hn
  six := six
  b1 := b1
  b2 := b2
  b3 := b3
  b4 := b4
  b5 := b5
  b6 := b6
  reg := ⟨rfl, rfl, rfl, fun _ _ => rfl⟩
theorem itemLast {prog : Program} {w : World} {A : Around} {E : Value → Shared → Prop} {s : Shared} {h₀ : Heap} {L l : Addr} {news : List (Addr × Obj)} {its : Array Value} {v : Value} {n : Nat} {k : Int} {u : Tok} {value slice : PySem.Expr} {Q : Value → Shared → Prop} (hk : k = -1) (N : News h₀ L s.heap news) (hp : (l, PySem.W.listOf (its.push v) n) ∈ news) (h : Q v s)
    (hs : subscripted slice false (.ref l) (.int k u) = operate [.ref l, .int k u] (getItem (.ref l) (.int k u)) := by with_unfolding_all rfl) (hg : ∀ r, letTemporaryGo value (.ref l) r = pure () := by intro _; with_unfolding_all rfl) :
    wpAny (model prog w) A (subscriptTail value slice (.ref l) (.int k u)) Q E s := by
  subst hk
  have hl : s.heap.IsList l (its.push v) := ⟨_, (N _ hp).1, rfl, n, rfl⟩
  refine subscriptTail_builtin hl.typeIs slot_list_getitem.lookup (wpAny_getItem_list_neg hl (by decide) ?_ (by decide) ?_ h) hs hg
  · simp only [Array.size_push]; omega
  · have : ((-1 : Int) + ((its.push v).size : Int)).toNat = its.size := by simp only [Array.size_push]; omega
    rw [this]; simp
theorem vn_size {vn : List Value} {i : Nat} (h : vn.length ≤ i) (hi : i ≤ 900) : vn.toArray.size ≤ 1000 := by simp; omega
section
variable {W W' : Sx} {a x e : Addr} {R : RRec} {v : Value}
theorem addR_k4 (hx : x ∉ addrs W) (ha : a ∈ (W .rs)) : ((W'.addR x R).setEr e v) .k4 a = W' .k4 a := upd_ne _ _ fun q => hx (q ▸ rs_addrs ha)
theorem addR_kd (hx : x ∉ addrs W) (ha : a ∈ (W .rs)) : ((W'.addR x R).setEr e v) .kd a = W' .kd a := upd_ne _ _ fun q => hx (q ▸ rs_addrs ha)
theorem addR_ge (hx : x ∉ addrs W) (ha : a ∈ (W .rs)) : ((W'.addR x R).setEr e v) .ge a = W' .ge a := upd_ne _ _ fun q => hx (q ▸ rs_addrs ha)
theorem addR_pa (hx : x ∉ addrs W) (ha : a ∈ (W .rs)) : ((W'.addR x R).setEr e v) .pa a = W' .pa a := upd_ne _ _ fun q => hx (q ▸ rs_addrs ha)
end
theorem six_all {ks : List (Option Str)} (h : ks ∈ sixK) : ks = [] ∨ ks = [none] ∨ ks = [some (Str.ofString "t")] ∨ ks = [some (Str.ofString "t"), none] ∨ ks = [some (Str.ofString "t"), some (Str.ofString "u")] ∨ ks = [some (Str.ofString "t"), none, some (Str.ofString "u")] := by
  unfold sixK at h; simpa using h
theorem neTU : (Str.ofString "t" = Str.ofString "u") = False := by simp only [eq_iff_iff, iff_false]; decide +kernel
theorem neTN : (Str.ofString "t" = Str.ofString "n") = False := by simp only [eq_iff_iff, iff_false]; decide +kernel
theorem neUT : (Str.ofString "u" = Str.ofString "t") = False := by simp only [eq_iff_iff, iff_false]; decide +kernel
theorem neUN : (Str.ofString "u" = Str.ofString "n") = False := by simp only [eq_iff_iff, iff_false]; decide +kernel
theorem neNT : (Str.ofString "n" = Str.ofString "t") = False := by simp only [eq_iff_iff, iff_false]; decide +kernel
theorem six_fresh {ks : List (Option Str)} (h : ks ∈ sixK) {i : Nat} {k : Option Str} (hk : ks[i]? = some k) : kn k ∉ (ks.take i).map kn := by
  rcases six_all h with rfl | rfl | rfl | rfl | rfl | rfl <;> (match i, hk with
    | 0, _ => simp
    | 1, hk => simp at hk <;> (subst hk; simp [kn, neNT, neUT])
    | 2, hk => simp at hk <;> (subst hk; simp [kn, neUT, neUN])
    | n + 3, hk => simp at hk)
theorem six_nm {ks : List (Option Str)} (h : ks ∈ sixK) {i : Nat} {k : Option Str} (hk : ks[i]? = some k) : k = some (Str.ofString "t") ∨ k = some (Str.ofString "u") ∨ k = none := by
  have hm := List.mem_of_getElem? hk
  rcases six_all h with rfl | rfl | rfl | rfl | rfl | rfl <;> simp at hm <;> (first | (subst hm; simp) | (rcases hm with rfl | rfl <;> simp) | (rcases hm with rfl | rfl | rfl <;> simp))
theorem six_len {ks : List (Option Str)} (h : ks ∈ sixK) : ks.length ≤ 3 := by
  rcases six_all h with rfl | rfl | rfl | rfl | rfl | rfl <;> simp
theorem JJ.next {P : Params} {wd ar rg nl : Addr} {nm : Str} {ks : List (Option Str)} {vs : List Value} {m₀ m : Str → Option Value} {W₀ W : Sx} {i : Nat} {k : Option Str} (J : JJ P wd ar rg nl (nm ++ Str.ofString "__1") vs ks m₀ W₀ i m W) (hnm : nm = "g" ∨ nm = "h") (hk : ks[i]? = some k) :
    C4 (valueAt (W .k0 rg) (kn k) = none) (valueAt (W .k4 ar) (kn k) = none) ((Builtin.Str.occurrences (kn k) (Str.ofString ".") 0 (kn k).length 1).isEmpty = true) (i ≤ 3) := by
  have h1 := six_fresh J.six hk
  refine ⟨?_, ?_, ?_, ?_⟩
  · cases h : valueAt (W .k0 rg) (kn k) with
    | none => rfl
    | some v => exact absurd (J.k0 _ (by rw [h]; exact fun e => by cases e)) h1
  · cases h : valueAt (W .k4 ar) (kn k) with
    | none => rfl
    | some v =>
      rcases J.k4 _ (by rw [h]; exact fun e => by cases e) with e | e
      · exfalso
        rcases hnm with rfl | rfl <;> rcases six_nm J.six hk with rfl | rfl | rfl <;> revert e <;> (unfold kn; decide +kernel)
      · exact absurd e h1
  · rcases six_nm J.six hk with rfl | rfl | rfl <;> (unfold kn; decide +kernel)
  · have := (List.getElem?_eq_some_iff.mp hk).1
    have := six_len J.six
    omega
theorem itemTupM {prog : Program} {w : World} {A : Around} {E : Value → Shared → Prop} {s : Shared} {h₀ : Heap} {L a : Addr} {news : List (Addr × Obj)} {l : List Value} {v : Value} {n j : Nat} {k : Int} {u : Tok} {value slice : PySem.Expr} {Q : Value → Shared → Prop} (N : News h₀ L s.heap news) (hp : (a, ({ cls := .type "tuple", data := .seq l.toArray n } : Obj)) ∈ news)
    (hlo : -(2 ^ 63) ≤ k) (hhi : k < 2 ^ 63) (hj : seqIndex? k l.length = some j) (hx : l[j]? = some v) (h : Q v s)
    (hs : subscripted slice false (.ref a) (.int k u) = operate [.ref a, .int k u] (getItem (.ref a) (.int k u)) := by with_unfolding_all rfl) :
    wpAny (model prog w) A (subscriptTail value slice (.ref a) (.int k u)) Q E s := item_tupleT ⟨_, (N _ hp).1, rfl, n, rfl⟩ hlo hhi hj hx h hs
theorem ms_ne' {W : Sx} {x a : Addr} {o : Obj} (h : (a, o) ∈ (W.delM x) .ms) : a ≠ x := by
  have := (List.mem_filter.mp h).2
  simpa using this
theorem ints_ref {vn : List Value} {ns : List Int} (h : IntsAre vn ns) {i : Nat} {a : Addr} (hv : vn[i]? = some (.ref a)) : False := by
  have hl := h.length
  have hi := (List.getElem?_eq_some_iff.mp hv).1
  obtain ⟨t, ht⟩ := h.get i ns[i] (List.getElem?_eq_getElem (by omega))
  rw [hv] at ht
  cases ht
theorem listOf_inj {a b : List Value} {n m : Nat} (h : PySem.W.listOf a.toArray n = PySem.W.listOf b.toArray m) : a = b := by
  have := congrArg Obj.data h
  have e := (Data.seq.inj this).1
  simpa using e
theorem ne_lists {prog : Program} {w : World} {W : Sx} (hw : Wf prog w W) {fl nl a : Addr} {vs vn : List Value} {n c i : Nat} {ns : List Int} (h1 : (fl, PySem.W.listOf vs.toArray n) ∈ (W .ms)) (h2 : (nl, PySem.W.listOf vn.toArray c) ∈ (W .ms)) (hv : vs[i]? = some (.ref a)) (hi : IntsAre vn ns) : fl ≠ nl :=
  ms_ne hw h1 h2 fun e => ints_ref hi (listOf_inj e ▸ hv)
theorem fresh_off {W W' : Sx} {nl x : Addr} (hx : x ∉ addrs W') (K : Kept [nl] W W') (hn : nl ∈ addrs W') : x ∉ addrs W := K.off hx (by
  intro h
  rw [List.mem_singleton.mp h] at hx
  exact hx hn)
theorem mm_new {prog : Program} {w : World} {D : Sx} {I nl x : Addr} {io on o : Obj} (hw : Wf prog w D) (hI : (I, io) ∈ (D .ms)) (hn : (nl, on) ∈ (D .ms)) (hp : (x, o) ∈ (D .ms)) (h1 : o ≠ io) (h2 : o ≠ on) : Mm (D.delM I) [nl] (x, o) :=
  ⟨ms_delM hp (ms_ne hw hp hI h1), fun h => ms_ne hw hp hn h2 (List.mem_singleton.mp h)⟩
noncomputable def TyP (P : Params) (D : Sx) (ty : Addr) (k nu pa : Value) : Prop := ∃ d kt nm vs, (ty, instObj 229 d) ∈ (D .ms) ∧ (d, dictOf (typE P kt k nm nu pa vs) 24) ∈ (D .ms)
noncomputable def TyR (P : Params) (D : Sx) (ty : Addr) (n : Int) : Prop :=
  (∃ t t', TyP P D ty (.str "private" t) (.int n t') .none) ∨ (∃ t t' n' hd t1 t2, TyP P D ty (.str "class" t) (.int n' t') (.ref hd) ∧ TyP P D hd (.str "private" t1) (.int n t2) .none)
section
variable {prog : Program} {w : World} {P : Params} {D : Sx} {I nl : Addr} {io : Obj} {vn : List Value} {c : Nat} {ns : List Int}
theorem cls_ne {o o' : Obj} {a b : Value} (h : o.cls = a) (h' : o'.cls = b) (hn : a ≠ b) : o ≠ o' := fun e => hn (h.symm.trans ((congrArg Obj.cls e).trans h'))
theorem TyP.new (hw : Wf prog w D) (hI : (I, io) ∈ (D .ms)) (hic : io.cls = .type "list_iterator") (hn : (nl, PySem.W.listOf vn.toArray c) ∈ (D .ms)) {ty : Addr} {k nu pa : Value} (h : TyP P D ty k nu pa) : TyO P (D.delM I) [nl] ty k nu pa := by
  obtain ⟨d, kt, nm, vs, h1, h2⟩ := h
  exact ⟨d, kt, nm, vs, mm_new hw hI hn h1 (cls_ne rfl hic (fun e => by cases e)) (cls_ne (b := .type "list") rfl rfl (fun e => by cases e)), mm_new hw hI hn h2 (cls_ne (a := .type "dict") rfl hic (by decide)) (cls_ne (a := .type "dict") (b := .type "list") rfl rfl (by decide))⟩
theorem hit_new (hw : Wf prog w D) (hI : (I, io) ∈ (D .ms)) (hic : io.cls = .type "list_iterator") (hn : (nl, PySem.W.listOf vn.toArray c) ∈ (D .ms)) (hni : IntsAre vn ns) {l e sb d ty rg : Addr} {l0 : List (Str × Value)} {nm : Str} {t k0 k1 : Tok} {n : Int} {cc : Nat}
    (gl : (l, PySem.W.listOf [Value.ref e].toArray cc) ∈ (D .ms)) (g0 : (D .k0) rg = stored l0 nm (.ref l)) (n0 : valueAt l0 nm = none) (he : e ∈ (D .es)) (y0 : (D .ef) e 0 = .str "type" t) (y3 : (D .ef) e 3 = .ref sb) (hs : (sb, instObj 250 d) ∈ (D .ms)) (hd : (d, dictOf (subE P k0 k1 (.ref ty)) 2) ∈ (D .ms)) (ht : TyR P D ty n) :
    Hit P (D.delM I) [nl] rg nm n := by
  refine ⟨l, cc, e, sb, d, k0, k1, ty, t, ?_, ?_, he, y0, y3, ?_, ?_, ?_⟩
  · show valueAt ((D .k0) rg) nm = _
    rw [g0, va_stored n0, if_pos rfl]
  · refine mm_new hw hI hn gl (cls_ne (a := .type "list") rfl hic (by decide)) fun q => ?_
    have := listOf_inj q
    exact ints_ref hni (i := 0) (a := e) (by rw [← this]; rfl)
  · exact mm_new hw hI hn hs (cls_ne rfl hic (fun e => by cases e)) (cls_ne (b := .type "list") rfl rfl (fun e => by cases e))
  · exact mm_new hw hI hn hd (cls_ne (a := .type "dict") rfl hic (by decide)) (cls_ne (a := .type "dict") (b := .type "list") rfl rfl (by decide))
  · rcases ht with ⟨t, t', a⟩ | ⟨t, t', n', hh, t1, t2, a, b⟩
    · exact .inl ⟨t, t', a.new hw hI hic hn⟩
    · exact .inr ⟨t, t', n', hh, t1, t2, a.new hw hI hic hn, b.new hw hI hic hn⟩
end
theorem JJ.step {P : Params} {wd ar rg nl : Addr} {nm1 : Str} {ks : List (Option Str)} {vs : List Value} {m₀ m m' : Str → Option Value} {W₀ W W' : Sx} {i : Nat} {k : Option Str} {v0 v4 v1 : Value} {ns xs : List Int} {vn' : List Value} {c' : Nat}
    (J : JJ P wd ar rg nl nm1 vs ks m₀ W₀ i m W) (hk : ks[i]? = some k) (sh : ∀ y : Str, y ≠ "formal" → y ≠ "made" → y ≠ "head" → m' y = m₀ y) (K : Kept [nl] W W')
    (h0 : (W' .k0) rg = stored ((W .k0) rg) (kn k) v0) (n0 : valueAt ((W .k0) rg) (kn k) = none) (h4 : (W' .k4) ar = stored ((W .k4) ar) (kn k) v4) (n4 : valueAt ((W .k4) ar) (kn k) = none) (h1 : (W' .l1) rg = (W .l1) rg ++ [v1])
    (rows : Rows P W [nl] rg (ks.take i) ns) (new : Rows P W' [nl] rg [k] xs) (hn : (nl, PySem.W.listOf vn'.toArray c') ∈ (W' .ms)) (hi : IntsAre vn' (ns ++ xs)) (hl : vn'.length ≤ i + 1) (rr : (W' .rs) = (W .rs) ∧ (W' .ro) = (W .ro) ∧ (W' .nu) = (W .nu) ∧ ∀ a, a ≠ rg → (W' .k0) a = (W .k0) a) : JJ P wd ar rg nl nm1 vs ks m₀ W₀ (i + 1) m' W' := by
  have ht : ks.take (i + 1) = ks.take i ++ [k] := by rw [List.take_add_one, hk]; rfl
  have hf := six_fresh J.six hk
  refine ⟨sh, J.kept.trans K, ⟨ns ++ xs, vn', c', hn, hi, hl, ?_⟩, ?_, ?_, ?_, ?_, ?_, J.forms, J.six, J.b1, J.b2, J.b3, J.b4, J.b5, J.b6, rr.1.trans J.reg.1, rr.2.1.trans J.reg.2.1, rr.2.2.1.trans J.reg.2.2.1, fun a ha => (rr.2.2.2 a ha).trans (J.reg.2.2.2 a ha)⟩
  · rw [ht]
    refine Rows.app (rows.kept K (fun nm v h => ?_) (fun nm hm h => ?_)) new
    · rw [h0, va_stored n0, if_neg]
      · exact h
      · intro e; rw [e, h] at n0; cases n0
    · rw [h0, va_stored n0, if_neg]
      · exact h
      · intro e
        exact hf (e ▸ (List.mem_map_of_mem (f := kn) hm : kn (some nm) ∈ _))
  · intro x hx
    rw [h0, va_stored n0] at hx
    rw [ht, List.map_append]
    by_cases e : kn k = x
    · exact List.mem_append_right _ (e ▸ List.mem_singleton.mpr rfl)
    · rw [if_neg e] at hx; exact List.mem_append_left _ (J.k0 x hx)
  · intro x hx
    rw [h4, va_stored n4] at hx
    rw [ht, List.map_append]
    by_cases e : kn k = x
    · exact .inr (List.mem_append_right _ (e ▸ List.mem_singleton.mpr rfl))
    · rw [if_neg e] at hx; exact (J.k4 x hx).imp id (List.mem_append_left _)
  · rw [h0]; exact Nat.le_trans (stored_length_le _ _ _) (Nat.succ_le_succ J.z0)
  · rw [h4]; exact Nat.le_trans (stored_length_le _ _ _) (Nat.succ_le_succ J.z4)
  · rw [h1, List.length_append]; exact Nat.succ_le_succ J.z1
theorem JJ.stay {P : Params} {wd ar rg nl : Addr} {nm1 : Str} {ks : List (Option Str)} {vs : List Value} {m₀ m m' : Str → Option Value} {W₀ W W' : Sx} {i : Nat}
    (J : JJ P wd ar rg nl nm1 vs ks m₀ W₀ i m W) (sh : ∀ y : Str, y ≠ "formal" → y ≠ "made" → y ≠ "head" → m' y = m₀ y) (K : Kept [nl] W W') (K0 : Kept [] W W') (h0 : (W' .k0) = (W .k0)) (h4 : (W' .k4) = (W .k4)) (h1 : (W' .l1) = (W .l1)) (rr : (W' .rs) = (W .rs) ∧ (W' .ro) = (W .ro) ∧ (W' .nu) = (W .nu)) : JJ P wd ar rg nl nm1 vs ks m₀ W₀ i m' W' := by
  obtain ⟨ns, vn, c, a1, a2, a3, a4⟩ := J.loop
  exact ⟨sh, J.kept.trans K, ⟨ns, vn, c, K0.ms _ a1 (fun h => nomatch h), a2, a3, a4.kept K (fun _ _ h => by rw [h0]; exact h) (fun _ _ h => by rw [h0]; exact h)⟩, by rw [h0]; exact J.k0, by rw [h4]; exact J.k4, by rw [h0]; exact J.z0, by rw [h4]; exact J.z4, by rw [h1]; exact J.z1, J.forms, J.six, J.b1, J.b2, J.b3, J.b4, J.b5, J.b6, rr.1.trans J.reg.1, rr.2.1.trans J.reg.2.1, rr.2.2.trans J.reg.2.2.1, fun a ha => (congrFun h0 a).trans (J.reg.2.2.2 a ha)⟩
theorem push_mem {M : List (Addr × Obj)} {nl : Addr} {l : List Value} {v : Value} {n : Nat} (h : (nl, PySem.W.listOf (l.toArray.push v) n) ∈ M) : (nl, PySem.W.listOf (l ++ [v]).toArray n) ∈ M := by
  rw [List.push_toArray] at h; exact h
theorem ints_snoc {vn : List Value} {ns : List Int} {x : Int} {t : Tok} (h : IntsAre vn ns) : IntsAre (vn ++ [.int x t]) (ns ++ [x]) := by
  induction h with
  | nil => exact .cons _ _ .nil
  | cons _ _ _ ih => exact .cons _ _ ih
theorem len_snoc {vn : List Value} {v : Value} {i : Nat} (h : vn.length ≤ i) : (vn ++ [v]).length ≤ i + 1 := by rw [List.length_append]; exact Nat.succ_le_succ h
theorem wf_undo1 {prog : Program} {w : World} {W : Sx} {q : Addr × Obj} (h : Wf prog w (W.addM q)) : Wf prog w W := wf_undo (T := [q]) h
theorem ne_of_off {W : Sx} {I nl : Addr} {o : Obj} (h : I ∉ addrs W) (h' : (nl, o) ∈ (W .ms)) : I ≠ nl := fun e => h (e ▸ addrs_ms h')
theorem addrs_ms2 {W : Sx} {x : Addr} {o : Obj} (h : (x, o) ∈ (W .ms)) : x ∈ addrs W := addrs_ms h
theorem fresh_off0 {W W' : Sx} {x : Addr} (hx : x ∉ addrs W') (K : Kept [] W W') : x ∉ addrs W := K.off hx (fun h => nomatch h)
section
variable {prog : Program} {w : World} {X : List Addr} {W S : Sx} {e x : Addr}
theorem keptE {R : ERec} (hx : e ∉ addrs S) (_ : Wf prog w (S.addE e R)) (K : Kept X W S) (ho : e ∉ addrs W) : Kept X W (S.addE e R) := K.addE ho hx
theorem keptD {r f l : Addr} {nm : Str} {nt t1 t4 : Tok} {ven vep : Value} {o4 o0 : Obj} (_ : Wf prog w (Sx.setEy (S.decl r f e nm nt t1 ven vep o4 t4 o0 l) e (.bool true))) (K : Kept X W S) (ho : e ∈ X ∨ e ∉ addrs W) : Kept X W (Sx.setEy (S.decl r f e nm nt t1 ven vep o4 t4 o0 l) e (.bool true)) := (K.decl ho).setEy
theorem keptR {p : Addr} {t : Tok} {R : RRec} (hx : x ∉ addrs S) (_ : Wf prog w ((S.setMc ((S .ro) p) ((S .mc) ((S .ro) p) + 1) t).addR x R)) (K : Kept X W S) (ho : x ∉ addrs W) : Kept X W ((S.setMc ((S .ro) p) ((S .mc) ((S .ro) p) + 1) t).addR x R) :=
  (K.setMc (by omega)).addR ho (by rw [addrs_setMc]; exact hx)
theorem keptO {p : Addr} {t : Tok} {R : RRec} (hx : x ∉ addrs S) (_ : Wf prog w (((S.setMc ((S .ro) p) ((S .mc) ((S .ro) p) + 1) t).addR x R).setEr e (.ref x))) (K : Kept X W S) (ho : x ∉ addrs W) (he : e ∈ X ∨ e ∉ addrs W) : Kept X W (((S.setMc ((S .ro) p) ((S .mc) ((S .ro) p) + 1) t).addR x R).setEr e (.ref x)) :=
  ((K.setMc (by omega)).addR ho (by rw [addrs_setMc]; exact hx)).setEr he
end
theorem JJ.unit {P : Params} {wd ar rg nl : Addr} {nm : Str} {ks : List (Option Str)} {vs : List Value} {m₀ m : Str → Option Value} {W₀ W : Sx} {i : Nat} (J : JJ P wd ar rg nl (nm ++ Str.ofString "__1") vs ks m₀ W₀ i m W) (hnm : nm = "g" ∨ nm = "h") (hi : i ≤ vs.length) :
    C3 (valueAt ((W .k0) rg) (Str.ofString "unit") = none) (valueAt ((W .k4) ar) (Str.ofString "unit") = none) (i ≤ 3) := by
  have hl := J.forms.len
  have h3 := six_len J.six
  have hx : (Str.ofString "unit") ∉ (ks.take i).map kn := fun h => by
    obtain ⟨k, hk, e⟩ := List.mem_map.mp h
    obtain ⟨j, hj⟩ := List.getElem?_of_mem (List.mem_of_mem_take hk)
    rcases six_nm J.six hj with rfl | rfl | rfl <;> revert e <;> (unfold kn; decide +kernel)
  refine ⟨?_, ?_, by omega⟩
  · cases h : valueAt ((W .k0) rg) (Str.ofString "unit") with
    | none => rfl
    | some v => exact absurd (J.k0 _ (by rw [h]; exact fun e => by cases e)) hx
  · cases h : valueAt ((W .k4) ar) (Str.ofString "unit") with
    | none => rfl
    | some v =>
      rcases J.k4 _ (by rw [h]; exact fun e => by cases e) with e | e
      · exfalso
        rcases hnm with rfl | rfl <;> revert e <;> decide +kernel
      · exact absurd e hx
theorem cutK {A G : Prop} (h : A) (k : A → G) : G := k h
structure NUok (W : Sx) (rt : Addr) : Prop where
  rin : rt ∈ (W .rs)
  ro : ∀ a ∈ (W .rs), (W .ro) a = rt
  le : ∀ a ∈ (W .rs), (W .nu) a ≤ (W .mc) rt
  inj : ∀ a ∈ (W .rs), ∀ b ∈ (W .rs), (W .nu) a = (W .nu) b → a = b
section
variable {W : Sx} {rt : Addr}
theorem NUok.up (h : NUok W rt) {W' : Sx} (e1 : (W' .rs) = (W .rs)) (e2 : (W' .ro) = (W .ro)) (e3 : (W' .nu) = (W .nu)) (hm : (W .mc) rt ≤ (W' .mc) rt) : NUok W' rt :=
  ⟨e1 ▸ h.rin, by rw [e1, e2]; exact h.ro, by rw [e1, e3]; exact fun a ha => Int.le_trans (h.le a ha) hm, by rw [e1, e3]; exact h.inj⟩
theorem NUok.setW (h : NUok W rt) {o : Obj} {k : Int} {t : Tok} : NUok (W.setW o k t) rt := h.up rfl rfl rfl (Int.le_refl _)
theorem NUok.addM (h : NUok W rt) {q : Addr × Obj} : NUok (W.addM q) rt := h.up rfl rfl rfl (Int.le_refl _)
theorem NUok.addMs (h : NUok W rt) {T : List (Addr × Obj)} : NUok (W.addMs T) rt := h.up rfl rfl rfl (Int.le_refl _)
theorem NUok.delM (h : NUok W rt) {a : Addr} : NUok (W.delM a) rt := h.up rfl rfl rfl (Int.le_refl _)
theorem NUok.addE (h : NUok W rt) {a : Addr} {R : ERec} : NUok (W.addE a R) rt := h.up rfl rfl rfl (Int.le_refl _)
theorem NUok.setGe (h : NUok W rt) {a : Addr} {v : Value} : NUok (W.setGe a v) rt := h.up rfl rfl rfl (Int.le_refl _)
theorem NUok.setEr (h : NUok W rt) {a : Addr} {v : Value} : NUok (W.setEr a v) rt := h.up rfl rfl rfl (Int.le_refl _)
theorem NUok.app2 (h : NUok W rt) {a : Addr} {v : Value} : NUok (W.app2 a v) rt := h.up rfl rfl rfl (Int.le_refl _)
theorem NUok.app3 (h : NUok W rt) {a : Addr} {v : Value} : NUok (W.app3 a v) rt := h.up rfl rfl rfl (Int.le_refl _)
theorem NUok.setPt (h : NUok W rt) {a : Addr} {v : Str} {t : Tok} : NUok (W.setPt a v t) rt := h.up rfl rfl rfl (Int.le_refl _)
theorem NUok.put5 (h : NUok W rt) {a : Addr} {o : Obj} {k : Int} {v : Value} : NUok (W.put5 a o k v) rt := h.up rfl rfl rfl (Int.le_refl _)
theorem NUok.decl (h : NUok W rt) {r f e l : Addr} {nm : Str} {nt t1 t4 : Tok} {ven vep : Value} {o4 o0 : Obj} {v : Value} : NUok (Sx.setEy (W.decl r f e nm nt t1 ven vep o4 t4 o0 l) e v) rt :=
  h.up rfl rfl rfl (mc_le (by omega))
theorem NUok.reg (h : NUok W rt) {p x : Addr} {R : RRec} {t : Tok} (hp : p ∈ (W .rs)) (hx : x ∉ addrs W) (q4 : R.ro = (W .ro) p) (q5 : R.nu = (W .mc) ((W .ro) p) + 1) : NUok ((W.setMc ((W .ro) p) ((W .mc) ((W .ro) p) + 1) t).addR x R) rt := by
  have er := h.ro p hp
  have hne : rt ≠ x := fun e => hx (e ▸ rs_addrs h.rin)
  have hm : ((W.setMc ((W .ro) p) ((W .mc) ((W .ro) p) + 1) t).addR x R) .mc rt = (W .mc) rt + 1 := by
    show upd (upd (W .mc) ((W .ro) p) ((W .mc) ((W .ro) p) + 1)) x R.mc rt = _
    rw [upd_ne _ _ hne, er, upd_same]
  have old : ∀ a ∈ (W .rs), a ≠ x := fun a ha e => hx (e ▸ rs_addrs ha)
  have nx : ((W.setMc ((W .ro) p) ((W .mc) ((W .ro) p) + 1) t).addR x R) .nu x = (W .mc) rt + 1 := by
    show upd (W .nu) x R.nu x = _
    rw [upd_same, q5, er]
  have no : ∀ a ∈ (W .rs), ((W.setMc ((W .ro) p) ((W .mc) ((W .ro) p) + 1) t).addR x R) .nu a = (W .nu) a := fun a ha => upd_ne (W .nu) R.nu (old a ha)
  refine ⟨List.mem_cons_of_mem _ h.rin, fun a ha => ?_, fun a ha => ?_, fun a ha b hb e => ?_⟩
  · rcases List.mem_cons.mp ha with rfl | ha
    · show upd (W .ro) a R.ro a = rt
      rw [upd_same, q4, er]
    · show upd (W .ro) x R.ro a = rt
      rw [upd_ne _ _ (old a ha)]; exact h.ro a ha
  · rw [hm]
    rcases List.mem_cons.mp ha with rfl | ha
    · rw [nx]; exact Int.le_refl _
    · rw [no a ha]
      have := h.le a ha
      omega
  · rcases List.mem_cons.mp ha with ea | ha' <;> rcases List.mem_cons.mp hb with eb | hb'
    · exact ea.trans eb.symm
    · rw [ea, nx, no b hb'] at e
      have := h.le b hb'
      omega
    · rw [eb, nx, no a ha'] at e
      have := h.le a ha'
      omega
    · rw [no a ha', no b hb'] at e
      exact h.inj a ha' b hb' e
end
inductive GenD (W : Sx) (X : List Addr) (g fl : Addr) (n : Nat) (vs : List Value) : Prop
  | mk : g ∈ (W .es) → ∀ (dl dt : Addr) (c : Nat) (t0 t1 : Tok) (x : Addr), (W .ef) g 4 = .ref dl → Mm W X (dl, PySem.W.listOf [Value.ref dt, Value.none].toArray c) →
    Mm W X (dt, { cls := .type "tuple", data := .seq #[.str "generic" t0, .int 1 t1, .ref fl, .ref x] }) → Mm W X (fl, PySem.W.listOf vs.toArray n) → GenD W X g fl n vs
theorem GenD.kept {W W' : Sx} {X : List Addr} {g fl : Addr} {n : Nat} {vs : List Value} (h : GenD W X g fl n vs) (K : Kept X W W') : GenD W' X g fl n vs := by
  obtain ⟨a, dl, dt, c, t0, t1, x, b, d, e, f⟩ := h
  exact ⟨K.es _ a, dl, dt, c, t0, t1, x, by rw [K.ef _ a]; exact b, d.kept K, e.kept K, f.kept K⟩
theorem GenD.less {W : Sx} {X Y : List Addr} {g fl : Addr} {n : Nat} {vs : List Value} (h : GenD W X g fl n vs) (hs : ∀ x ∈ Y, x ∈ X) : GenD W Y g fl n vs := by
  obtain ⟨a, dl, dt, c, t0, t1, x, b, d, e, f⟩ := h
  exact ⟨a, dl, dt, c, t0, t1, x, b, d.less hs, e.less hs, f.less hs⟩
structure InstB (rt : Addr) (W W₀ : Sx) (hm ar rg nl g fl : Addr) (n : Nat) (vs : List Value) : Prop where
  kept : Kept [] W W₀
  nlo : nl ∉ addrs W
  nu : NUok W₀ rt
  ari : ar ∈ (W₀ .rs)
  rgi : rg ∈ (W₀ .rs)
  aro : ar ∉ addrs W
  rgo : rg ∉ addrs W
  ne : ar ≠ rg
  pa : (W₀ .pa) ar = .ref hm
  ge : (W₀ .ge) ar = .ref g
  ge2 : (W₀ .ge) rg = .none
  l2a : (W₀ .l2) ar = []
  l3a : (W₀ .l3) ar = []
  l2r : (W₀ .l2) rg = []
  l3r : (W₀ .l3) rg = []
  gen : GenD W₀ [nl] g fl n vs
  nla : nl ≠ ar
  nlr : nl ≠ rg
  k0o : ∀ a ∈ (W .rs), a ≠ hm → (W₀ .k0) a = (W .k0) a
section
variable {W W' : Sx} {a x e : Addr} {R : RRec} {R' : ERec} {v : Value} {o : Obj}
theorem addR_k0 (hx : x ∉ addrs W) (ha : a ∈ (W .rs)) : ((W'.addR x R).setEr e v) .k0 a = (W' .k0) a := upd_ne _ _ fun q => hx (q ▸ rs_addrs ha)
theorem addR_l2 (hx : x ∉ addrs W) (ha : a ∈ (W .rs)) : ((W'.addR x R).setEr e v) .l2 a = (W' .l2) a := upd_ne _ _ fun q => hx (q ▸ rs_addrs ha)
theorem addR_l3 (hx : x ∉ addrs W) (ha : a ∈ (W .rs)) : ((W'.addR x R).setEr e v) .l3 a = (W' .l3) a := upd_ne _ _ fun q => hx (q ▸ rs_addrs ha)
theorem addE_ef (hx : x ∉ addrs W) (ha : a ∈ (W .es)) : (W.addE x R') .ef a = (W .ef) a := upd_ne _ _ fun q => hx (q ▸ es_addrs ha)
theorem ne_rs (hx : x ∉ addrs W) (ha : a ∈ (W .rs)) : a ≠ x := fun q => hx (q ▸ rs_addrs ha)
theorem ne_ms (hx : x ∉ addrs W) (ha : (a, o) ∈ (W .ms)) : a ≠ x := fun q => hx (q ▸ addrs_ms2 ha)
theorem nin1 (h : x ≠ a) : x ∉ [a] := fun q => h (List.mem_singleton.mp q)
end
theorem ne_of_fl {W : Sx} {nl fl : Addr} {o : Obj} (h : nl ∉ addrs W) (h' : (fl, o) ∈ (W .ms)) : fl ≠ nl := fun e => h (e ▸ addrs_ms2 h')
theorem InstB.make {P : Params} {rt : Addr} {W W₀ : Sx} {hm ar rg nl g fl : Addr} {n : Nat} {vs : List Value} {h₀ h : Heap} {L : Addr} {m : Str → Option Value} (_ : News h₀ L h (led P W₀)) (_ : Fr h₀ L h m) (_ : m "numbers" = some (.ref nl)) (_ : m "around" = some (.ref ar)) (_ : m "region" = some (.ref rg)) (_ : m "generic" = some (.ref g)) (_ : m "formals" = some (.ref fl)) (_ : (fl, PySem.W.listOf vs.toArray n) ∈ (W₀ .ms))
  (i0 : Kept [] W W₀) (i1 : nl ∉ addrs W) (i2 : NUok W₀ rt) (i3 : ar ∈ (W₀ .rs)) (i4 : rg ∈ (W₀ .rs)) (i5 : ar ∉ addrs W) (i6 : rg ∉ addrs W) (i7 : ar ≠ rg) (i8 : (W₀ .pa) ar = .ref hm) (i9 : (W₀ .ge) ar = .ref g) (i10 : (W₀ .ge) rg = .none) (i11 : (W₀ .l2) ar = []) (i12 : (W₀ .l3) ar = []) (i13 : (W₀ .l2) rg = []) (i14 : (W₀ .l3) rg = []) (i15 : GenD W₀ [nl] g fl n vs) (i16 : nl ≠ ar) (i17 : nl ≠ rg) (i18 : ∀ a ∈ (W .rs), a ≠ hm → (W₀ .k0) a = (W .k0) a) : InstB rt W W₀ hm ar rg nl g fl n vs := ⟨i0, i1, i2, i3, i4, i5, i6, i7, i8, i9, i10, i11, i12, i13, i14, i15, i16, i17, i18⟩
section
variable {W W' : Sx} {a x e : Addr} {R : RRec} {v : Value} {q : Addr × Obj}
theorem addRM_k0 (hx : x ∉ addrs W) (ha : a ∈ (W .rs)) : (((W'.addR x R).setEr e v).addM q) .k0 a = (W' .k0) a := addR_k0 (e := e) (R := R) (v := v) hx ha
theorem addRM_k4 (hx : x ∉ addrs W) (ha : a ∈ (W .rs)) : (((W'.addR x R).setEr e v).addM q) .k4 a = (W' .k4) a := addR_k4 (e := e) (R := R) (v := v) hx ha
end
theorem TyO.less {P : Params} {W : Sx} {X Y : List Addr} {ty : Addr} {k nu pa : Value} (h : TyO P W X ty k nu pa) (hs : ∀ x ∈ Y, x ∈ X) : TyO P W Y ty k nu pa := by
  obtain ⟨d, kt, nm, vs, a, b⟩ := h
  exact ⟨d, kt, nm, vs, a.less hs, b.less hs⟩
theorem Hit.less {P : Params} {W : Sx} {X Y : List Addr} {rg : Addr} {nm : Str} {n : Int} (h : Hit P W X rg nm n) (hs : ∀ x ∈ Y, x ∈ X) : Hit P W Y rg nm n := by
  obtain ⟨l, c, e, sb, d, k0, k1, ty, t, a1, a2, a3, a4, a5, a6, a7, a8⟩ := h
  refine ⟨l, c, e, sb, d, k0, k1, ty, t, a1, a2.less hs, a3, a4, a5, a6.less hs, a7.less hs, ?_⟩
  rcases a8 with ⟨t, t', a⟩ | ⟨t, t', n', hd, t1, t2, a, b⟩
  · exact .inl ⟨t, t', a.less hs⟩
  · exact .inr ⟨t, t', n', hd, t1, t2, a.less hs, b.less hs⟩
theorem Rows.less {P : Params} {W : Sx} {X Y : List Addr} {rg : Addr} {ks : List (Option Str)} {ns : List Int} (h : Rows P W X rg ks ns) (hs : ∀ x ∈ Y, x ∈ X) : Rows P W Y rg ks ns := by
  induction h with
  | nil => exact .nil
  | obj _ ih => exact .obj ih
  | hit a _ ih => exact .hit (a.less hs) ih
  | miss a _ ih => exact .miss a ih
theorem Rows.missing {P : Params} {W : Sx} {X : List Addr} {rg : Addr} : ∀ {ks : List (Option Str)}, (∀ nm, some nm ∈ ks → valueAt ((W .k0) rg) nm = none) → Rows P W X rg ks []
  | [], _ => .nil
  | none :: ks, h => .obj (Rows.missing fun nm hm => h nm (.tail _ hm))
  | some nm :: ks, h => .miss (h nm (.head _)) (Rows.missing fun nm hm => h nm (.tail _ hm))
theorem Kept.more {X Y : List Addr} {W W' : Sx} (h : Kept X W W') (hs : ∀ x ∈ X, x ∈ Y) : Kept Y W W' := h.cut fun x hx => .inl (hs x hx)
theorem six_drop {ks : List (Option Str)} (h : ks ∈ sixK) {i : Nat} {nm : Str} (hm : some nm ∈ ks.drop i) : nm ∉ (ks.take i).map kn ∧ nm ≠ Str.ofString "unit" := by
  obtain ⟨j, hj⟩ := List.getElem?_of_mem hm
  rw [List.getElem?_drop] at hj
  refine ⟨fun hx => ?_, ?_⟩
  · have := six_fresh h hj
    refine this ?_
    obtain ⟨k, hk, e⟩ := List.mem_map.mp hx
    refine List.mem_map.mpr ⟨k, ?_, e⟩
    have : ks.take i <+: ks.take (i + j) := List.take_prefix_take_left (by omega)
    exact this.subset hk
  · rcases six_nm h hj with e | e | e <;> cases e <;> decide +kernel
structure InstR (P : Params) (rt : Addr) (W W' : Sx) (nm : Str) (hm tup ar rg un ur nl g : Addr) (ns : List Int) : Prop where
  kept : Kept [] W W'
  nu : NUok W' rt
  tupm : (tup, { cls := .type "tuple", data := .seq #[.ref ar, .ref rg, .ref un, .ref nl] }) ∈ (W' .ms)
  ari : ar ∈ (W' .rs)
  rgi : rg ∈ (W' .rs)
  uri : ur ∈ (W' .rs)
  uni : un ∈ (W' .es)
  aro : ar ∉ addrs W
  rgo : rg ∉ addrs W
  uro : ur ∉ addrs W
  ne1 : ar ≠ rg
  ne2 : ar ≠ ur
  ne3 : rg ≠ ur
  kda : (W' .kd) ar = "sub"
  kdr : (W' .kd) rg = "package"
  kdu : (W' .kd) ur = "package"
  paa : (W' .pa) ar = .ref hm
  par : (W' .pa) rg = .ref ar
  pau : (W' .pa) ur = .ref rg
  gea : (W' .ge) ar = .ref g
  ger : (W' .ge) rg = .none
  geu : (W' .ge) ur = .none
  l2a : (W' .l2) ar = []
  l3a : (W' .l3) ar = []
  l2r : (W' .l2) rg = []
  l3r : (W' .l3) rg = []
  l2u : (W' .l2) ur = []
  l3u : (W' .l3) ur = []
  er : (W' .er) un = .ref ur
  gen : ∃ fl n vs ks, GenD W' [] g fl n vs ∧ FL (W' .ms) vs ks ∧ Rows P W' [] rg ks ns
  num : ∃ vn c, (nl, PySem.W.listOf vn.toArray c) ∈ (W' .ms) ∧ IntsAre vn ns ∧ vn.length ≤ 3
  k0u : (W' .k0) ur = []
  l1u : (W' .l1) ur = []
  k4a : ∀ x, valueAt ((W' .k4) ar) x ≠ none → x = nm ++ Str.ofString "__1" ∨ x ∈ [Str.ofString "t", Str.ofString "u", Str.ofString "n", Str.ofString "unit"]
  z4a : ((W' .k4) ar).length ≤ 5
  k0o : ∀ a ∈ (W .rs), a ≠ hm → (W' .k0) a = (W .k0) a
theorem InstR.make {prog : Program} {w : World} {P : Params} {rt : Addr} {W W₀ W₁ W' : Sx} {nm : Str} {wd hm tup ar rg un ur nl g fl : Addr} {n i : Nat} {vs : List Value} {ks : List (Option Str)} {m₀ m₁ : Str → Option Value} {v0 v4 : Value}
    (_ : Wf prog w W') (B : InstB rt W W₀ hm ar rg nl g fl n vs) (J : JJ P wd ar rg nl (nm ++ Str.ofString "__1") vs ks m₀ W₀ i m₁ W₁) (hi : i ≤ vs.length) (K : Kept [] W₁ W') (nu : NUok W' rt)
    (tupm : (tup, { cls := .type "tuple", data := .seq #[.ref ar, .ref rg, .ref un, .ref nl] }) ∈ (W' .ms)) (uri : ur ∈ (W' .rs)) (uni : un ∈ (W' .es)) (uro : ur ∉ addrs W₁)
    (kdu : (W' .kd) ur = "package") (pau : (W' .pa) ur = .ref rg) (geu : (W' .ge) ur = .none) (l2u : (W' .l2) ur = []) (l3u : (W' .l3) ur = []) (er : (W' .er) un = .ref ur) (k0u : (W' .k0) ur = []) (l1u : (W' .l1) ur = [])
    (h0 : (W' .k0) rg = stored ((W₁ .k0) rg) (Str.ofString "unit") v0) (h4 : (W' .k4) ar = stored ((W₁ .k4) ar) (Str.ofString "unit") v4) (n0 : valueAt ((W₁ .k0) rg) (Str.ofString "unit") = none) (n4 : valueAt ((W₁ .k4) ar) (Str.ofString "unit") = none) (k0o : ∀ a ∈ (W₁ .rs), a ≠ rg → (W' .k0) a = (W₁ .k0) a) :
    ∃ ns, InstR P rt W W' nm hm tup ar rg un ur nl g ns := by
  obtain ⟨ns, vn, c, a1, a2, a3, a4⟩ := J.loop
  have K1 : Kept [nl] W₁ W' := K.more (fun x h => nomatch h)
  have K2 : Kept [nl] W₀ W' := J.kept.trans K1
  have hna : ar ∉ [nl] := fun h => B.nla (List.mem_singleton.mp h).symm
  have hnr : rg ∉ [nl] := fun h => B.nlr (List.mem_singleton.mp h).symm
  have h3 := six_len J.six
  have hl := J.forms.len
  have hd : ks.take i ++ ks.drop i = ks := List.take_append_drop i ks
  have rows : Rows P W₁ [nl] rg ks ns := by
    rw [← hd, ← List.append_nil ns]
    refine a4.app (Rows.missing fun nm hm => ?_)
    cases h : valueAt ((W₁ .k0) rg) nm with
    | none => rfl
    | some v => exact absurd (J.k0 nm (by rw [h]; exact fun e => by cases e)) (six_drop J.six hm).1
  have rows' : Rows P W' [nl] rg ks ns := rows.kept K1 (fun nm v h => by
      rw [h0, va_stored n0, if_neg]
      · exact h
      · intro e; rw [e, h] at n0; cases n0) (fun nm hm h => by
      rw [h0, va_stored n0, if_neg]
      · exact h
      · intro e
        exact (six_drop J.six (i := 0) (by simpa using hm)).2 e.symm)
  have hA : ar ∈ (W₁ .rs) := J.kept.rs _ B.ari
  have hR : rg ∈ (W₁ .rs) := J.kept.rs _ B.rgi
  refine ⟨ns, ⟨?_, nu, tupm, K.rs _ hA, K.rs _ hR, uri, uni, B.aro, B.rgo, ?_, B.ne, ?_, ?_, (K2.kd _ B.ari).trans J.b4, (K2.kd _ B.rgi).trans J.b5, kdu, (K2.pa _ B.ari).trans B.pa, (K2.pa _ B.rgi).trans J.b6, pau, (K2.ge _ B.ari hna).trans B.ge, (K2.ge _ B.rgi hnr).trans B.ge2, geu,
    (K2.l2 _ B.ari hna).trans B.l2a, (K2.l3 _ B.ari hna).trans B.l3a, (K2.l2 _ B.rgi hnr).trans B.l2r, (K2.l3 _ B.rgi hnr).trans B.l3r, l2u, l3u, er, ⟨fl, n, vs, ks, (B.gen.kept K2).less (fun x h => nomatch h), ?_, rows'.less (fun x h => nomatch h)⟩, ⟨vn, c, K.ms _ a1 (fun h => nomatch h), a2, by omega⟩, k0u, l1u, ?_, ?_, ?_⟩⟩
  · exact ((B.kept.more (fun x h => nomatch h)).trans K2).cut fun x hx => .inr (by rw [List.mem_singleton.mp hx]; exact B.nlo)
  · exact fun h => uro (((J.kept.inn ur ((B.kept.inn ur h).elim (fun h => nomatch h) id))).elim (fun h' => by
      rw [List.mem_singleton.mp h'] at h
      exact absurd h B.nlo) id)
  · exact fun e => uro (e ▸ rs_addrs hA)
  · exact fun e => uro (e ▸ rs_addrs hR)
  · exact J.forms.mono fun p hp => K2.msd hp
  · intro x hx
    rw [h4, va_stored n4] at hx
    by_cases e : Str.ofString "unit" = x
    · exact .inr (by rw [← e]; simp)
    · rw [if_neg e] at hx
      rcases J.k4 x hx with e | e
      · exact .inl e
      · refine .inr ?_
        obtain ⟨k, hk, rfl⟩ := List.mem_map.mp e
        obtain ⟨j, hj⟩ := List.getElem?_of_mem (List.mem_of_mem_take hk)
        rcases six_nm J.six hj with rfl | rfl | rfl <;> simp [kn]
  · rw [h4]
    refine Nat.le_trans (stored_length_le _ _ _) ?_
    have := J.z4
    omega
  · intro a ha hn
    have hr : a ≠ rg := fun e => B.rgo (e ▸ rs_addrs ha)
    exact (k0o a (J.kept.rs _ (B.kept.rs _ ha)) hr).trans ((J.reg.2.2.2 a hr).trans (B.k0o a ha hn))
inductive Chain (W : Sx) : Addr → List Addr → Prop
  | top {a} : a ∈ (W .rs) → (W .pa) a = .none → Chain W a [a]
  | up {a b l} : a ∈ (W .rs) → (W .pa) a = .ref b → Chain W b l → Chain W a (a :: l)
theorem Chain.mem {W : Sx} {a : Addr} {l : List Addr} (h : Chain W a l) : a ∈ (W .rs) := by cases h <;> assumption
structure SubL (P : Params) (W : Sx) (news : List (Addr × Obj)) : Prop where
  sub : ∀ p ∈ led P W, p ∈ news
section
variable {P : Params} {W : Sx} {news : List (Addr × Obj)} {q : Addr × Obj} {a : Addr}
theorem SubL.refl : SubL P W (led P W) := ⟨fun _ h => h⟩
theorem SubL.cons (h : SubL P W news) : SubL P W (q :: news) := ⟨fun p hp => .tail _ (h.sub p hp)⟩
theorem SubL.ri (h : SubL P W news) (ha : a ∈ (W .rs)) : (a, instObj 106 ((W .dx) a)) ∈ news := h.sub _ (mem_ri ha)
theorem SubL.rd (h : SubL P W news) (ha : a ∈ (W .rs)) : ((W .dx) a, dictOf (regE P W a) 15) ∈ news := h.sub _ (mem_rd ha)
theorem SubL.ei (h : SubL P W news) (ha : a ∈ (W .es)) : (a, instObj 31 ((W .ex) a)) ∈ news := h.sub _ (mem_ei ha)
theorem SubL.ed (h : SubL P W news) (ha : a ∈ (W .es)) : ((W .ex) a, dictOf (entE P W a) 17) ∈ news := h.sub _ (mem_ed ha)
theorem SubL.r0 (h : SubL P W news) (ha : a ∈ (W .rs)) : ((W .a0) a, (W .o0) a) ∈ news := h.sub _ (mem_r0 ha)
theorem SubL.r2 (h : SubL P W news) {vs : List Value} (ha : a ∈ (W .rs)) (e : (W .l2) a = vs) : ((W .a2) a, PySem.W.listOf vs.toArray ((W .n2) a)) ∈ news := h.sub _ (mem_r2_eq ha e)
theorem SubL.r3 (h : SubL P W news) {vs : List Value} (ha : a ∈ (W .rs)) (e : (W .l3) a = vs) : ((W .a3) a, PySem.W.listOf vs.toArray ((W .n3) a)) ∈ news := h.sub _ (mem_r3_eq ha e)
theorem SubL.r5 (h : SubL P W news) (ha : a ∈ (W .rs)) : ((W .a5) a, (W .o5) a) ∈ news := h.sub _ (mem_r5 ha)
theorem SubL.ms (h : SubL P W news) {p : Addr × Obj} (hp : p ∈ (W .ms)) : p ∈ news := h.sub _ (mem_ms hp)
end
inductive FinR (h₀ : Heap) (L l I : Addr) (lo io : Obj) (s : Shared) (J : (Str → Option Value) → List (Addr × Obj) → Prop) (as : List Addr) (s₃ : Shared) : Prop
  | mk (h' : Heap) (tk : Nat) (m' : Str → Option Value) (nx' : List (Addr × Obj)) : s₃ = { s with heap := h', toks := tk } → Fr h₀ L h' m' → News h₀ L h' ((I, io) :: nx') → (l, lo) ∈ nx' → nx'.map (·.1) = as → J m' nx' → FinR h₀ L l I lo io s J as s₃
noncomputable def RStep (h₀ : Heap) (L l I : Addr) (lo io : Obj) (s : Shared) (J : (Str → Option Value) → List (Addr × Obj) → Prop) (as : List Addr) (Q : Flow → Shared → Prop) (f : Flow) (s₃ : Shared) : Prop :=
  match f with
  | .ret v => Q (.ret v) s₃
  | .brk => Q .next s₃
  | _ => FinR h₀ L l I lo io s J as s₃
theorem RStep.intro {h₀ h' : Heap} {L l I : Addr} {lo io : Obj} {s : Shared} {J : (Str → Option Value) → List (Addr × Obj) → Prop} {as : List Addr} {Q : Flow → Shared → Prop} {m' : Str → Option Value} {news nx' : List (Addr × Obj)} {tk : Nat}
    (F : Fr h₀ L h' m') (N : News h₀ L h' news) (hs : ∀ p ∈ (I, io) :: nx', p ∈ news) (hl : (l, lo) ∈ nx') (ha : nx'.map (·.1) = as) (hJ : J m' nx') : RStep h₀ L l I lo io s J as Q .next { s with heap := h', toks := tk } :=
  ⟨h', tk, m', nx', rfl, F, news_sub N hs, hl, ha, hJ⟩
theorem iter_R {prog : Program} {w : World} {A : Around} {E : Value → Shared → Prop} {s : Shared} {env : Env} {h₀ : Heap} {x : Str} {body : List Stmt} {Q : Flow → Shared → Prop} {l : Addr} {vs : List Value} {nn : Nat} {m₀ : Str → Option Value} {news : List (Addr × Obj)}
    (J : Nat → (Str → Option Value) → List (Addr × Obj) → Prop) (hh : A.handled = none) (F : Fr h₀ env.locals s.heap m₀) (N : News h₀ env.locals s.heap news)
    (hl : (l, PySem.W.listOf vs.toArray nn) ∈ news) (hj : J 0 m₀ news)
    (turn : ∀ i v m₁ nx h tk I io, vs[i]? = some v → J i m₁ nx → (l, PySem.W.listOf vs.toArray nn) ∈ nx → nx.map (·.1) = news.map (·.1) → (∀ p ∈ nx, p.1 ≠ I) → Fr h₀ env.locals h (fun y => if y = x then some v else m₁ y) → News h₀ env.locals h ((I, io) :: nx) →
      wpAny (model prog w) A (execs body env) (RStep h₀ env.locals l I (PySem.W.listOf vs.toArray nn) io { s with heap := h, toks := tk } (J (i + 1)) (news.map (·.1)) Q) E { s with heap := h, toks := tk })
    (done : ∀ m₁ nx h tk, J vs.length m₁ nx → nx.map (·.1) = news.map (·.1) → Fr h₀ env.locals h m₁ → News h₀ env.locals h nx → Q .next { s with heap := h, toks := tk }) :
    wpAny (model prog w) A (pyIter (.ref l)) (fun it s₂ => LoopAtV prog w A h₀ env x body Q E it s₂) E s := by
  refine list_at (fun i m nx => C3 (nx.map (·.1) = news.map (·.1)) ((l, PySem.W.listOf vs.toArray nn) ∈ nx) (J i m nx)) hh F N hl ⟨rfl, hl, hj⟩ ?_ ?_
  · rintro i v m₁ nx own h tk I io hP ⟨hA, hlW, hJ⟩ hoff hne hnews hown hI _ F₁ N₁
    have N₂ : News h₀ env.locals h ((I, io) :: nx) := news_sub N₁ fun p hp => by
      rcases List.mem_cons.mp hp with rfl | hp
      · exact List.mem_append_left _ hI
      · exact List.mem_append_right _ hp
    have hown' := hown _ (N₂ _ (List.mem_cons_of_mem _ hlW)).1
    clear hown
    refine wpAny_mono (turn i v m₁ nx h tk I io hP hJ hlW hA hoff F₁ N₂) (fun f s₂ p => ?_) fun _ _ e => e
    have fin : FinR h₀ env.locals l I (PySem.W.listOf vs.toArray nn) io { s with heap := h, toks := tk } (J (i + 1)) (news.map (·.1)) s₂ →
        LoopStepU h₀ env.locals [I] own (fun m nx => C3 (nx.map (·.1) = news.map (·.1)) ((l, PySem.W.listOf vs.toArray nn) ∈ nx) (J (i + 1) m nx)) { s with heap := h, toks := tk } .next s₂ := by
      rintro ⟨h', tk, m', nx', rfl, F', N', hl', hA', hJ'⟩
      refine ⟨rfl, h', tk, m', nx', rfl, F', fun p hp => ?_, fun p hp hb => ?_, hA', hl', hJ'⟩
      · rcases List.mem_append.mp hp with hp | hp
        · rcases hown' p hp with rfl | rfl
          · exact N' _ (.head _)
          · exact N' _ (.tail _ hl')
        · exact N' p (.tail _ hp)
      · exact hnews p (hA' ▸ List.mem_map_of_mem (f := (·.1)) hp) (List.mem_singleton.mp hb)
    cases f with
    | ret v => exact .ret p
    | brk => exact .brk p
    | next => exact .next (fin p)
    | cont => exact .cont (fin p)
  · rintro m' nx h' tk ⟨hA, hlW, hJ⟩ F' N'
    exact done m' nx h' tk hJ hA F' N'
inductive TyL (P : Params) (W : Sx) : List Value → List Int → Prop
  | nil : TyL P W [] []
  | cons {ty n ts ns} : TyK P W [] ty n → TyL P W ts ns → TyL P W (.ref ty :: ts) (n :: ns)
theorem TyL.snoc {P : Params} {W : Sx} {ts : List Value} {ns : List Int} {ty : Addr} {n : Int} (h : TyL P W ts ns) (k : TyK P W [] ty n) : TyL P W (ts ++ [.ref ty]) (ns ++ [n]) := by
  induction h with
  | nil => exact .cons k .nil
  | cons k' _ ih => exact .cons k' ih
theorem TyL.len {P : Params} {W : Sx} {ts : List Value} {ns : List Int} (h : TyL P W ts ns) : ts.length = ns.length := by
  induction h with
  | nil => rfl
  | cons _ _ ih => simp [ih]
structure FJ (P : Params) (W : Sx) (r f : Addr) (ks : List (Option Str)) (ns : List Int) (m₀ : Str → Option Value) (news : List (Addr × Obj)) (i : Nat) (m : Str → Option Value) (nx : List (Addr × Obj)) : Prop where
  shape : ∀ y : Str, y ≠ "formal" → y ≠ "row" → m y = m₀ y
  found : ∃ ts c n1 n2, nx = (f, PySem.W.listOf ts.toArray c) :: news ∧ TyL P W ts n1 ∧ Rows P W [] r (ks.drop i) n2 ∧ ns = n1 ++ n2
theorem shape2 {f g : Str} {m m₀ : Str → Option Value} (h : ∀ y, y ≠ f → y ≠ g → m y = m₀ y) : ∃ a b, m = fun y => if y = f then a else if y = g then b else m₀ y := by
  refine ⟨m f, m g, ?_⟩
  funext y
  by_cases h1 : y = f
  · subst h1; simp
  · by_cases h2 : y = g
    · subst h2; simp [h1]
    · simp [h1, h2, h y h1 h2]
inductive GenR (P : Params) (W : Sx) (r : Addr) (ns : List Int) : Prop
  | mk (b g fl : Addr) (n : Nat) (vs : List Value) (ks : List (Option Str)) : (W .pa) r = .ref b → b ∈ (W .rs) → (W .ge) b = .ref g → GenD W [] g fl n vs → FL (W .ms) vs ks → Rows P W [] r ks ns → GenR P W r ns
theorem FJ.start {P : Params} {W : Sx} {r f : Addr} {ks : List (Option Str)} {ns : List Int} {m₀ : Str → Option Value} {news : List (Addr × Obj)} {c : Nat} (h : Rows P W [] r ks ns) : FJ P W r f ks ns m₀ news 0 m₀ ((f, PySem.W.listOf #[] c) :: news) :=
  ⟨fun _ _ _ => rfl, [], c, [], ns, rfl, .nil, h, rfl⟩
theorem FL.drop {ms : List (Addr × Obj)} {vs : List Value} {ks : List (Option Str)} (h : FL ms vs ks) {i : Nat} {v : Value} (hv : vs[i]? = some v) :
    (∃ a nm t0 t1 t2 x, v = .ref a ∧ ks.drop i = some nm :: ks.drop (i + 1) ∧ (a, { cls := .type "tuple", data := .seq #[.str "ftype" t0, .int 1 t1, .str nm t2, .none, x] }) ∈ ms) ∨
    (∃ a t0 t1 x2 x3 x4, v = .ref a ∧ ks.drop i = none :: ks.drop (i + 1) ∧ (a, { cls := .type "tuple", data := .seq #[.str "fobject" t0, .int 1 t1, x2, x3, x4, .none] }) ∈ ms) := by
  have key : ∀ {k}, ks[i]? = some k → ks.drop i = k :: ks.drop (i + 1) := fun {k} hk => by
    obtain ⟨hi, e⟩ := List.getElem?_eq_some_iff.mp hk
    rw [List.drop_eq_getElem_cons hi, e]
  rcases h.get hv with ⟨a, nm, t0, t1, t2, x, e, hk, hm⟩ | ⟨a, t0, t1, x2, x3, x4, e, hk, hm⟩
  · exact .inl ⟨a, nm, t0, t1, t2, x, e, key hk, hm⟩
  · exact .inr ⟨a, t0, t1, x2, x3, x4, e, key hk, hm⟩
theorem itemLM {prog : Program} {w : World} {A : Around} {E : Value → Shared → Prop} {s : Shared} {h₀ : Heap} {L a : Addr} {news : List (Addr × Obj)} {l : List Value} {v : Value} {n j : Nat} {k : Int} {u : Tok} {value slice : PySem.Expr} {Q : Value → Shared → Prop} (N : News h₀ L s.heap news) (hp : (a, PySem.W.listOf l.toArray n) ∈ news)
    (hk : k = (j : Int)) (hj : (k : Int) < 2 ^ 63) (hx : l[j]? = some v) (h : Q v s)
    (hs : subscripted slice false (.ref a) (.int k u) = operate [.ref a, .int k u] (getItem (.ref a) (.int k u)) := by with_unfolding_all rfl) (hg : ∀ r, letTemporaryGo value (.ref a) r = pure () := by intro _; with_unfolding_all rfl) :
    wpAny (model prog w) A (subscriptTail value slice (.ref a) (.int k u)) Q E s := by
  subst hk
  exact item_list (isList_news N hp) (by omega) hj (by simpa using hx) h hs hg
theorem seq_list_iadd : seqSlot? (.type "list") (dunderI "add") = pure (some (.builtin "list.__iadd__")) := by
  unfold seqSlot?
  rw [PySem.F.slot_list_iadd.lookup]
  simp only [pure_bind]
  rfl
theorem fill_list_iadd : fillsInplaceSlot (.type "list") "add" true = pure false := by
  unfold fillsInplaceSlot
  simp only [PySem.F.slot_list_iadd.lookup, pure_bind]
  have e : isSeqSlot (some (Value.builtin "list.__iadd__")) = true := by decide +kernel
  rw [e]; rfl
section
variable {prog : Program} {w : World} {A : Around} {E : Value → Shared → Prop} {s : Shared} {h₀ : Heap} {L D b : Addr} {m : Str → Option Value} {news rest : List (Addr × Obj)} {its its2 : Array Value} {n n2 : Nat}
theorem iadd_call {a b : Value} {Q : Value → Shared → Prop} (ha : s.TypeIs a "list") (hb : s.TypeIs b "list")
    (hc : wpAny (model prog w) A (call (.builtin "list.__iadd__") [a, b]) Q E s) : wpAny (model prog w) A (inplaceOp .Add a b) Q E s := by
  unfold inplaceOp
  refine wpAny_holding ?_
  refine wpAny_bind (wpAny_typeOf ha (wpAny_bind (wpAny_of_eq fill_list_iadd ?_)))
  show wpAny (model prog w) A (if false = true then _ else _) Q E s
  rw [if_neg Bool.false_ne_true]
  refine wpAny_bind (wpAny_binaryOp1_none (nm := "add") ha hb noFill_list_add ?_)
  refine wpAny_bind (wpAny_of_eq seq_list_iadd ?_)
  exact wpAny_bind (wpAny_rule hc)
theorem iadd_K {ts us : List Value} {Q : Value → Shared → Prop} (F : Fr h₀ L s.heap m) (N : News h₀ L s.heap news) (hD : (D, PySem.W.listOf ts.toArray n) ∈ news) (hb : (b, PySem.W.listOf us.toArray n2) ∈ news) (hr : ∀ p ∈ rest, p ∈ news ∧ p.1 ≠ D) (hz : ts.length + us.length ≤ 1000)
    (h : ∀ h' n', Fr h₀ L h' m → News h₀ L h' ((D, PySem.W.listOf (ts ++ us).toArray n') :: rest) → Q (.ref D) { s with heap := h' }) : wpAny (model prog w) A (inplaceOp .Add (.ref D) (.ref b)) Q E s := by
  have z := N _ hD
  have z2 := N _ hb
  have N1 : News h₀ L s.heap ([] ++ (D, PySem.W.listOf ts.toArray n) :: rest) := fun p hp => by
    rcases List.mem_cons.mp hp with rfl | hp
    · exact z
    · exact N p (hr p hp).1
  have hl : sizeLine = 16777216 := sizeLine_eq
  have hc : ∀ p ∈ rest, p.1 ≠ D := fun p hp => (hr p hp).2
  refine iadd_call ⟨_, z.1, rfl⟩ ⟨_, z2.1, rfl⟩ (call_meets PySem.F.slot_list_iadd ⟨_, z.1, rfl⟩ PySem.F.entry_list_iadd (PySem.F.args_list_iadd_2 _ _) (PySem.AutoSeq1.list___iadd___list_list_0 D ts.toArray n b us.toArray n2 ?_ ?_ ?_) ⟨z.1, z2.1, ?_⟩)
  · have : Builtin.List.listTooLong (ts.toArray.size + us.toArray.size) = false := by unfold Builtin.List.listTooLong; simp; omega
    rw [this]; simp
  · simp only [List.size_toArray]; omega
  · simp only [List.size_toArray]; omega
  · by_cases e : us = []
    · subst e
      exact h _ n (F.change (Heap.SameBut.update ..) z.2.1 z.2.2) (kl_turn0 (pre := []) (fun x => x ++ #[]) N1 (fun _ h => nomatch h) hc (by simp) (by simp))
    · exact h _ (n + 1) (F.change (Heap.SameBut.update ..) z.2.1 z.2.2) (kl_turn (pre := []) (fun x => x ++ us.toArray) N1 (fun _ h => nomatch h) hc (by simp) (by simpa using e))
end
theorem RStep.fin {h₀ h' : Heap} {L l I f : Addr} {lo io o o' : Obj} {s : Shared} {J : (Str → Option Value) → List (Addr × Obj) → Prop} {Q : Flow → Shared → Prop} {m' : Str → Option Value} {news ledger : List (Addr × Obj)} {tk : Nat}
    (F : Fr h₀ L h' m') (N : News h₀ L h' ledger) (hs : ∀ p ∈ (I, io) :: (f, o') :: news, p ∈ ledger) (hl : (l, lo) ∈ (f, o') :: news) (hJ : J m' ((f, o') :: news)) : RStep h₀ L l I lo io s J (((f, o) :: news).map (·.1)) Q .next { s with heap := h', toks := tk } :=
  RStep.intro F N hs hl rfl hJ
theorem rest_ok {D I : Addr} {io o : Obj} {news ledger : List (Addr × Obj)} (h1 : ∀ p ∈ news, @LT.lt Nat _ p.1 D) (hI : ∀ p ∈ (D, o) :: news, p.1 ≠ I) (hin : ∀ p ∈ (I, io) :: news, p ∈ ledger) : ∀ p ∈ (I, io) :: news, p ∈ ledger ∧ p.1 ≠ D := fun p hp =>
  ⟨hin p hp, by
    rcases List.mem_cons.mp hp with rfl | hp
    · exact (hI _ (.head _)).symm
    · exact Nat.ne_of_lt (h1 p hp)⟩
theorem sub_both {l l' : List (Addr × Obj)} {q : Addr × Obj} (h : ∀ p ∈ l, p ∈ l') : ∀ p ∈ q :: l, p ∈ q :: l' := fun p hp => by
  rcases List.mem_cons.mp hp with rfl | hp
  · exact .head _
  · exact .tail _ (h p hp)
theorem sub_swap {l : List (Addr × Obj)} {a b : Addr × Obj} : ∀ p ∈ b :: a :: l, p ∈ a :: b :: l := fun p hp => by
  rcases List.mem_cons.mp hp with rfl | hp
  · exact .tail _ (.head _)
  · rcases List.mem_cons.mp hp with rfl | hp
    · exact .head _
    · exact .tail _ (.tail _ hp)
inductive FTurn (P : Params) (W : Sx) (r f : Addr) (ks : List (Option Str)) (ns : List Int) (m₀ : Str → Option Value) (news : List (Addr × Obj)) (i : Nat) (v : Value) (m : Str → Option Value) (nx : List (Addr × Obj)) : Prop
  | hit (fa fb : Option Value) (ts : List Value) (c : Nat) (a : Addr) (nm : Str) (t0 t1 t2 : Tok) (x : Value) (n : Int) (em : m = fun (y : Str) => if y = "formal" then fa else if y = "row" then fb else m₀ y) (en : nx = (f, PySem.W.listOf ts.toArray c) :: news) (hl : ts.length ≤ ns.length) (ev : v = .ref a) (ham : (a, ({ cls := .type "tuple", data := .seq #[.str "ftype" t0, .int 1 t1, .str nm t2, .none, x] } : Obj)) ∈ (W .ms)) (hh : Hit P W [] r nm n) (next : ∀ (ty : Addr) (m' : Str → Option Value) (nx' : List (Addr × Obj)) (n' : Nat), TyK P W [] ty n → (∀ y : Str, y ≠ "formal" → y ≠ "row" → m' y = m₀ y) → nx' = (f, PySem.W.listOf (ts ++ [Value.ref ty]).toArray n') :: news → FJ P W r f ks ns m₀ news (i + 1) m' nx')
  | miss (fa fb : Option Value) (ts : List Value) (c : Nat) (a : Addr) (nm : Str) (t0 t1 t2 : Tok) (x : Value) (em : m = fun (y : Str) => if y = "formal" then fa else if y = "row" then fb else m₀ y) (en : nx = (f, PySem.W.listOf ts.toArray c) :: news) (hl : ts.length ≤ ns.length) (ev : v = .ref a) (ham : (a, ({ cls := .type "tuple", data := .seq #[.str "ftype" t0, .int 1 t1, .str nm t2, .none, x] } : Obj)) ∈ (W .ms)) (h0 : valueAt ((W .k0) r) nm = none) (next : ∀ (m' : Str → Option Value) (nx' : List (Addr × Obj)) (n' : Nat), (∀ y : Str, y ≠ "formal" → y ≠ "row" → m' y = m₀ y) → nx' = (f, PySem.W.listOf (ts ++ []).toArray n') :: news → FJ P W r f ks ns m₀ news (i + 1) m' nx')
  | obj (fa fb : Option Value) (ts : List Value) (c : Nat) (a : Addr) (t0 t1 : Tok) (x2 x3 x4 : Value) (em : m = fun (y : Str) => if y = "formal" then fa else if y = "row" then fb else m₀ y) (en : nx = (f, PySem.W.listOf ts.toArray c) :: news) (hl : ts.length ≤ ns.length) (ev : v = .ref a) (ham : (a, ({ cls := .type "tuple", data := .seq #[.str "fobject" t0, .int 1 t1, x2, x3, x4, .none] } : Obj)) ∈ (W .ms)) (next : ∀ (m' : Str → Option Value) (nx' : List (Addr × Obj)) (n' : Nat), (∀ y : Str, y ≠ "formal" → y ≠ "row" → m' y = m₀ y) → nx' = (f, PySem.W.listOf ts.toArray n') :: news → FJ P W r f ks ns m₀ news (i + 1) m' nx')
theorem FJ.turn {P : Params} {W : Sx} {r f : Addr} {vs : List Value} {ks : List (Option Str)} {ns : List Int} {m₀ m : Str → Option Value} {news nx : List (Addr × Obj)} {i : Nat} {v : Value} (hL : FL (W .ms) vs ks) (hv : vs[i]? = some v) (hJ : FJ P W r f ks ns m₀ news i m nx) :
    FTurn P W r f ks ns m₀ news i v m nx := by
  obtain ⟨fa, fb, e⟩ := shape2 hJ.shape
  obtain ⟨ts, c, n1, n2, enx, hts, hR, ens⟩ := hJ.found
  have hlen : ts.length ≤ ns.length := by rw [hts.len, ens, List.length_append]; omega
  rcases hL.drop hv with ⟨a, nm, t0, t1, t2, x, ev, hk, ham⟩ | ⟨a, t0, t1, x2, x3, x4, ev, hk, ham⟩
  · rw [hk] at hR
    cases hR with
    | @hit _ ns' _ n hh hr => exact .hit fa fb ts c a nm t0 t1 t2 x n e enx hlen ev ham hh fun ty m' nx' n' ht hm hn => ⟨hm, _, _, n1 ++ [n], ns', hn, hts.snoc ht, hr, by rw [ens]; simp⟩
    | miss h0 hr => exact .miss fa fb ts c a nm t0 t1 t2 x e enx hlen ev ham h0 fun m' nx' n' hm hn => ⟨hm, _, _, n1, n2, hn, by simpa using hts, hr, ens⟩
  · rw [hk] at hR
    cases hR with
    | obj hr => exact .obj fa fb ts c a t0 t1 x2 x3 x4 e enx hlen ev ham fun m' nx' n' hm hn => ⟨hm, _, _, n1, n2, hn, hts, hr, ens⟩
theorem FJ.done {P : Params} {W : Sx} {r f : Addr} {vs : List Value} {ks : List (Option Str)} {ns : List Int} {m₀ m : Str → Option Value} {news nx : List (Addr × Obj)} (hL : FL (W .ms) vs ks) (hJ : FJ P W r f ks ns m₀ news vs.length m nx) :
    ∃ fa fb ts c, (m = fun (y : Str) => if y = "formal" then fa else if y = "row" then fb else m₀ y) ∧ nx = (f, PySem.W.listOf ts.toArray c) :: news ∧ TyL P W ts ns := by
  obtain ⟨fa, fb, e⟩ := shape2 hJ.shape
  obtain ⟨ts, c, n1, n2, enx, hts, hR, ens⟩ := hJ.found
  rw [hL.len, List.drop_length] at hR
  cases hR
  exact ⟨fa, fb, ts, c, e, enx, by rw [ens, List.append_nil]; exact hts⟩
theorem regjj9 : True := by
  k_with "m_rs" => first | assumption | exact List.Mem.head _ | (refine List.Mem.tail _ ?_; k_extra "m_rs")
  k_with "m_va" => first | assumption | exact va_nil (by assumption) | rfl
  k_with "m_sz" => first | assumption | exact len_nil (by assumption) | omega
  k_with "m_dec" => first | assumption | decide | decide +kernel | rfl
  k_with "m_frm2" => first | assumption | exact Frm.same (by assumption) (by rfl) (by rfl) (by rfl) | exact Frm.at (by k_extra "m_rs") (by assumption) (by decide +kernel) | exact Frm.over (by k_extra "m_rs") (by assumption) (by decide +kernel) (by assumption) (by k_extra "m_rs") (by assumption) (by decide +kernel)
  k_with "m_ms3" => first | exact List.mem_append_left _ (by assumption) | (refine List.Mem.tail _ ?_; k_extra "m_ms3")
  k_with "m_ms2" => first | with_reducible_and_instances assumption | exact List.mem_append_left _ (by with_reducible_and_instances assumption) | exact List.Mem.head _ | (refine List.Mem.tail _ ?_; (show (_ : Addr × Obj) ∈ (_ : List (Addr × Obj))); k_extra "m_ms2") | exact List.mem_append_right _ (by k_extra "m_ms2") | exact ms_delM (by k_extra "m_ms2") (by assumption)
  k_with "m_nw" => first | exact mem_ms (by k_extra "m_ms2") | (refine List.Mem.tail _ ?_; k_extra "m_nw")
  k_with "call builtin:list.append" => (k_here; (with_reducible show wpAny _ _ (call (Value.builtin _) [Value.ref _, _]) _ _ _); k_dflt (refine' run_appM _ ?z143F ?z143N ?z143S ?z143w ?z143l ?z143z ?_; (case z143F => k_asm); (case z143N => k_asm); (case z143S => k_extra "m_fold"); (case z143w => assumption); (case z143l => k_extra "m_ms2"); (case z143z => assumption)); intro h' F' N' hw'; (try dsimp only); (try k_sweep))
  k_with "subscriptTail" => (k_here; (with_reducible show wpAny _ _ (subscriptTail _ _ (Value.ref _) (Value.int _ _)) _ _ _); k_dflt (refine' itemLast ?z144k ?z144N ?z144p ?_; (case z144k => first | rfl | decide); (case z144N => k_asm); (case z144p => k_extra "m_nw")))
  k_with "subscriptTail" => (k_here; (with_reducible show wpAny _ _ (subscriptTail _ _ (Value.ref _) (Value.int _ _)) _ _ _); k_dflt (refine' itemTupM ?z145N ?z145p ?z145lo ?z145hi ?z145j ?z145x ?_; (case z145N => k_asm); (case z145p => k_extra "m_nw"); (case z145lo => decide); (case z145hi => decide); (case z145j => rfl); (case z145x => rfl)))
  k_with "getMethod ref" => (k_here; (with_reducible show wpAny _ _ (getMethod (Value.ref _) (Str.ofString "append") _) _ _ _); k_dflt (refine' meth_append ?z146n ?z146p ?_; (case z146n => k_asm); (case z146p => k_extra "m_nw")))
  k_with "m_kept" => first | with_reducible assumption | exact Kept.refl | (refine' Kept.setEy ?gkept; (case gkept => k_extra "m_kept")) | (refine' Kept.setW ?gkept; (case gkept => k_extra "m_kept")) | (refine' Kept.addM ?gkept; (case gkept => k_extra "m_kept")) | (refine' Kept.addMs ?gkept; (case gkept => k_extra "m_kept")) | (refine' Kept.decl ?gkept ?_; (case gkept => k_extra "m_kept"); k_extra "m_exc") | (refine' Kept.addE ?gkept ?_ ?_; (case gkept => k_extra "m_kept"); (focus k_extra "m_fro"); assumption) | (refine' Kept.addR ?gkept ?_ ?_; (case gkept => k_extra "m_kept"); (focus k_extra "m_fro"); simp only [addrs_setMc]; assumption) | (refine' Kept.setMc ?gkept ?_; (case gkept => k_extra "m_kept"); omega) | (refine' Kept.setGe ?gkept ?_; (case gkept => k_extra "m_kept"); k_extra "m_exc") | (refine' Kept.setEr ?gkept ?_; (case gkept => k_extra "m_kept"); k_extra "m_exc") | (refine' Kept.delM ?gkept ?_; (case gkept => k_extra "m_kept"); k_extra "m_exc") | fail
  k_with "m_exc" => first | exact .inl (List.Mem.head _) | (refine .inr ?_; k_extra "m_fro") | fail
  k_with "m_fro" => first | assumption | (refine' fresh_off0 ?gfr ?_; (case gfr => assumption); k_extra "m_keptw") | (refine' fresh_off ?gfr ?gfk ?_; (case gfr => assumption); (case gfk => k_extra "m_kept"); first | (show _ ∈ addrs _; exact addrs_ms2 (by k_extra "m_ms2")) | (rotate_left; exact addrs_ms2 (by k_extra "m_ms2"))) | fail
  k_with "m_keptz" => first | with_reducible assumption | (refine' Kept.setW ?gkeptz; (case gkeptz => k_extra "m_keptz")) | (refine' Kept.addM ?gkeptz; (case gkeptz => k_extra "m_keptz")) | (refine' Kept.addMs ?gkeptz; (case gkeptz => k_extra "m_keptz")) | fail
  k_with "m_keptw" => first | with_reducible assumption | (refine' Kept.setW ?gkeptw; (case gkeptw => k_extra "m_keptw")) | (refine' Kept.addM ?gkeptw; (case gkeptw => k_extra "m_keptw")) | (refine' Kept.addMs ?gkeptw; (case gkeptw => k_extra "m_keptw")) | (refine' Kept.delM ?gkeptw ?_; (case gkeptw => k_extra "m_keptw"); k_extra "m_exc") | (refine' Kept.setGe ?gkeptw ?_; (case gkeptw => k_extra "m_keptw"); k_extra "m_exc") | fail
  k_with "m_nu" => first | with_reducible assumption | (refine' NUok.setW ?gnu; (case gnu => k_extra "m_nu")) | (refine' NUok.addM ?gnu; (case gnu => k_extra "m_nu")) | (refine' NUok.addMs ?gnu; (case gnu => k_extra "m_nu")) | (refine' NUok.delM ?gnu; (case gnu => k_extra "m_nu")) | (refine' NUok.addE ?gnu; (case gnu => k_extra "m_nu")) | (refine' NUok.setGe ?gnu; (case gnu => k_extra "m_nu")) | (refine' NUok.setEr ?gnu; (case gnu => k_extra "m_nu")) | (refine' NUok.decl ?gnu; (case gnu => k_extra "m_nu")) | (refine' NUok.reg ?gnu ?_ ?_ ?_ ?_; (case gnu => k_extra "m_nu"); (focus k_extra "m_rs"); (focus assumption); (focus assumption); assumption) | fail
  trivial
theorem entity_l {prog : Program} {w : World} {mean : ExcName → Option Value} {mg mb : Str → Option Value} {dp un : Nat} {gd : Option (List Code)} {cn : Str} {cs : Scope} {a₀ : Addr} {ccd : Value} {cl : List (Str × Addr)} {outer : List Env} {A₀ : Around} {base h₀ : Heap} {L : Addr} {m : Str → Option Value} {s : Shared} {Q : Value → Shared → Prop} {E : Value → Shared → Prop} {W : Sx} {v0 v1 v2 v3 v4 v5 : Value}
    (B : Below A₀ base outer h₀) (F : Fr h₀ L s.heap m) (X : (hd.heap_39 w.params).In h₀) (T : Top hd.view_39 (looseW hd.view_39 []) mean mg mb h₀) (hk : cs.kind = .function) (hroom : dp + 20 < recursionLimit) (hunits : un + 200 < cLine)
    (N : News h₀ L s.heap (led w.params W)) (hw : Wf prog w W)
    (ret : ∀ e R h' tk', let W1 : Sx := (W.addE e R); Fr h₀ L h' m → News h₀ L h' (led w.params W1) → Wf prog w W1 → e ∉ addrs W → R.ef = ef6 v0 v1 v2 v3 v4 v5 → R.er = .none → Q (.ref e) { s with heap := h', toks := tk' }) :
    wpAny (model prog w) (ktrTop dp un gd cn cs L a₀ ccd cl outer) (call (.ref 31) [v0, v1, v2, v3, v4, v5]) Q E s := by
  exact entity_spec B F X T hk hroom hunits N hw  ret
theorem decl_l {prog : Program} {w : World} {mean : ExcName → Option Value} {mg mb : Str → Option Value} {dp un : Nat} {gd : Option (List Code)} {cn : Str} {cs : Scope} {a₀ : Addr} {ccd : Value} {cl : List (Str × Addr)} {outer : List Env} {A₀ : Around} {base h₀ : Heap} {L : Addr} {m : Str → Option Value} {s : Shared} {Q : Value → Shared → Prop} {E : Value → Shared → Prop} {W : Sx} {r e f : Addr} {n₀ : Nat} {nm kd : Str} {nt kt : Tok}
    (B : Below A₀ base outer h₀) (F : Fr h₀ L s.heap m) (X : (hd.heap_39 w.params).In h₀) (T : Top hd.view_39 (looseW hd.view_39 []) mean mg mb h₀) (hk : cs.kind = .function) (hroom : dp + 70 < recursionLimit) (hunits : un + 700 < cLine)
    (N : News h₀ L s.heap (led w.params W)) (hw : Wf prog w W) (he : e ∈ (W .es)) (hf : Frm W r f n₀) (hkd : (W .ef) e 0 = .str kd kt) (hkn : (kd == "exception") = false) (hn : (W .ef) e 1 = .str nm nt) (hdot : (Builtin.Str.occurrences nm (Str.ofString ".") 0 nm.length 1).isEmpty = true) (hv : valueAt ((W .k0) r) nm = none) (hv4 : valueAt ((W .k4) f) nm = none) (hz0 : ((W .k0) r).length ≤ 1000) (hz4 : ((W .k4) f).length ≤ 1000) (hz1 : ((W .l1) r).length ≤ 1000)
    (ret : ∀ t1 ven vep o4 t4 o0 l h' tk', let W1 : Sx := (Sx.setEy (W.decl r f e nm nt t1 ven vep o4 t4 o0 l) e (.bool true)); ven = .int ((W .mc) ((W .ro) r) + 1) t1 → Fr h₀ L h' m → News h₀ L h' (led w.params W1) → Wf prog w W1 → l ∉ addrs W → Q .none { s with heap := h', toks := tk' }) :
    wpAny (model prog w) (ktrTop dp un gd cn cs L a₀ ccd cl outer) (call (.ref 171) [.ref r, .ref e]) Q E s := by
  exact declare_ready_spec B F X T hk hroom hunits N hw he hf hkd hkn hn hdot hv hv4 hz0 hz4 hz1 ret
theorem region_l {prog : Program} {w : World} {mean : ExcName → Option Value} {mg mb : Str → Option Value} {dp un : Nat} {gd : Option (List Code)} {cn : Str} {cs : Scope} {a₀ : Addr} {ccd : Value} {cl : List (Str × Addr)} {outer : List Env} {A₀ : Around} {base h₀ : Heap} {L : Addr} {m : Str → Option Value} {s : Shared} {Q : Value → Shared → Prop} {E : Value → Shared → Prop} {W : Sx} {kd : Str} {kt : Tok} {v1 : Value} {p : Addr}
    (B : Below A₀ base outer h₀) (F : Fr h₀ L s.heap m) (X : (hd.heap_39 w.params).In h₀) (T : Top hd.view_39 (looseW hd.view_39 []) mean mg mb h₀) (hk : cs.kind = .function) (hroom : dp + 20 < recursionLimit) (hunits : un + 200 < cLine)
    (N : News h₀ L s.heap (led w.params W)) (hw : Wf prog w W) (hp : p ∈ (W .rs)) (hkd : kd = "package" ∨ kd = "sub" ∨ kd = "block")
    (ret : ∀ x R t h' tk', let W1 : Sx := ((W.setMc ((W .ro) p) ((W .mc) ((W .ro) p) + 1) t).addR x R); Fr h₀ L h' m → News h₀ L h' (led w.params W1) → Wf prog w W1 → x ∉ addrs W → R.kd = kd → R.ow = v1 → R.pa = .ref p → R.ro = (W .ro) p → R.nu = (W .mc) ((W .ro) p) + 1 → R.pt = (if kd = "package" then "visible" else "body") → R.ge = .none → Q (.ref x) { s with heap := h', toks := tk' }) :
    wpAny (model prog w) (ktrTop dp un gd cn cs L a₀ ccd cl outer) (call (.ref 106) [.str kd kt, v1, .ref p]) Q E s := by
  exact region_spec B F X T hk hroom hunits N hw hp hkd ret
theorem own_l {prog : Program} {w : World} {mean : ExcName → Option Value} {mg mb : Str → Option Value} {dp un : Nat} {gd : Option (List Code)} {cn : Str} {cs : Scope} {a₀ : Addr} {ccd : Value} {cl : List (Str × Addr)} {outer : List Env} {A₀ : Around} {base h₀ : Heap} {L : Addr} {m : Str → Option Value} {s : Shared} {Q : Value → Shared → Prop} {E : Value → Shared → Prop} {W : Sx} {kd : Str} {kt : Tok} {p e : Addr}
    (B : Below A₀ base outer h₀) (F : Fr h₀ L s.heap m) (X : (hd.heap_39 w.params).In h₀) (T : Top hd.view_39 (looseW hd.view_39 []) mean mg mb h₀) (hk : cs.kind = .function) (hroom : dp + 30 < recursionLimit) (hunits : un + 300 < cLine)
    (N : News h₀ L s.heap (led w.params W)) (hw : Wf prog w W) (hp : p ∈ (W .rs)) (he : e ∈ (W .es)) (hkd : kd = "package")
    (ret : ∀ x R t h' tk', let W1 : Sx := (((W.setMc ((W .ro) p) ((W .mc) ((W .ro) p) + 1) t).addR x R).setEr e (.ref x)); Fr h₀ L h' m → News h₀ L h' (led w.params W1) → Wf prog w W1 → x ∉ addrs W → R.kd = kd → R.ow = .ref e → R.pa = .ref p → R.ro = (W .ro) p → R.nu = (W .mc) ((W .ro) p) + 1 → R.pt = (if kd = "package" then "visible" else "body") → R.ge = .none → Q (.ref x) { s with heap := h', toks := tk' }) :
    wpAny (model prog w) (ktrTop dp un gd cn cs L a₀ ccd cl outer) (call (.ref 117) [.str kd kt, .ref e, .ref p]) Q E s := by
  exact open_region_own B F X T hk hroom hunits N hw hp he hkd ret
theorem type_l {prog : Program} {w : World} {mean : ExcName → Option Value} {mg mb : Str → Option Value} {dp un : Nat} {gd : Option (List Code)} {cn : Str} {cs : Scope} {a₀ : Addr} {ccd : Value} {cl : List (Str × Addr)} {outer : List Env} {A₀ : Around} {base h₀ : Heap} {L : Addr} {m : Str → Option Value} {s : Shared} {Q : Value → Shared → Prop} {E : Value → Shared → Prop} {W : Sx} {v0 v1 : Value}
    (B : Below A₀ base outer h₀) (F : Fr h₀ L s.heap m) (X : (hd.heap_39 w.params).In h₀) (T : Top hd.view_39 (looseW hd.view_39 []) mean mg mb h₀) (hk : cs.kind = .function) (hroom : dp + 20 < recursionLimit) (hunits : un + 200 < cLine)
    (N : News h₀ L s.heap (led w.params W)) (hw : Wf prog w W)
    (ret : ∀ x d M kt t0 vs h' tk', let W1 : Sx := (W.addMs M); Fr h₀ L h' m → News h₀ L h' ((x, instObj 229 d) :: (d, dictOf (typE w.params kt v0 v1 (.int 0 t0) .none vs) 24) :: led w.params W1) → Wf prog w W1 → x ∉ addrs W1 → d ∉ addrs W1 → @LT.lt Nat _ d x → Q (.ref x) { s with heap := h', toks := tk' }) :
    wpAny (model prog w) (ktrTop dp un gd cn cs L a₀ ccd cl outer) (call (.ref 229) [v0, v1]) Q E s := by
  exact type_spec B F X T hk hroom hunits N hw  ret
theorem set_num {prog : Program} {w : World} {A : Around} {E : Value → Shared → Prop} {Q : Unit → Shared → Prop} {s : Shared} {h₀ : Heap} {L x d : Addr} {m : Str → Option Value} {news news' : List (Addr × Obj)} {kt : Nat → Tok} {k nm nu pa : Value} {vs : Nat → Value} (v : Value) (F : Fr h₀ L s.heap m) (X : (hd.heap_39 w.params).In h₀) (N : News h₀ L s.heap news) (hx : (x, instObj 229 d) ∈ news) (hd' : (d, dictOf (typE w.params kt k nm nu pa vs) 24) ∈ news)
    (U : Upd d (dictOf (typE w.params kt k nm nu pa vs) 24) (dictOf (typE w.params kt k nm v pa vs) 24) news news')
    (h : ∀ h', Fr h₀ L h' m → News h₀ L h' news' → Q () { s with heap := h', toks := s.toks + 2 }) :
    wpAny (model prog w) A (setAttr (.ref x) "number" v) Q E s :=
  set_dict F X N (InstAt.of_news N hx hd') rfl (by k_is) (by k_is) (by k_is) (by k_is) (by rfl) (es' := typE w.params kt k nm v pa vs) (n' := 24) (by rfl) U (Nat.le_of_ble_eq_true rfl) h
theorem set_par {prog : Program} {w : World} {A : Around} {E : Value → Shared → Prop} {Q : Unit → Shared → Prop} {s : Shared} {h₀ : Heap} {L x d : Addr} {m : Str → Option Value} {news news' : List (Addr × Obj)} {kt : Nat → Tok} {k nm nu pa : Value} {vs : Nat → Value} (v : Value) (F : Fr h₀ L s.heap m) (X : (hd.heap_39 w.params).In h₀) (N : News h₀ L s.heap news) (hx : (x, instObj 229 d) ∈ news) (hd' : (d, dictOf (typE w.params kt k nm nu pa vs) 24) ∈ news)
    (U : Upd d (dictOf (typE w.params kt k nm nu pa vs) 24) (dictOf (typE w.params kt k nm nu v vs) 24) news news')
    (h : ∀ h', Fr h₀ L h' m → News h₀ L h' news' → Q () { s with heap := h', toks := s.toks + 2 }) :
    wpAny (model prog w) A (setAttr (.ref x) "parent" v) Q E s :=
  set_dict F X N (InstAt.of_news N hx hd') rfl (by k_is) (by k_is) (by k_is) (by k_is) (by rfl) (es' := typE w.params kt k nm nu v vs) (n' := 24) (by rfl) U (Nat.le_of_ble_eq_true rfl) h
theorem whole_spec {prog : Program} {w : World} {mean : ExcName → Option Value} {mg mb : Str → Option Value} {dp un : Nat} {gd : Option (List Code)} {cn : Str} {cs : Scope} {a₀ : Addr} {ccd : Value} {cl : List (Str × Addr)} {outer : List Env} {A₀ : Around} {base h₀ : Heap} {L : Addr} {m : Str → Option Value} {s : Shared} {Q : Value → Shared → Prop} {E : Value → Shared → Prop} {x : Addr} {T' : List (Addr × Obj)}
    (B : Below A₀ base outer h₀) (F : Fr h₀ L s.heap m) (X : (hd.heap_39 w.params).In h₀) (T : Top hd.view_39 (looseW hd.view_39 []) mean mg mb h₀) (hk : cs.kind = .function) (hroom : dp + 20 < recursionLimit) (hunits : un + 200 < cLine)
    (N : News h₀ L s.heap T')
    (ret : ∀ y e t0 t1 h' tk', Fr h₀ L h' m → News h₀ L h' ((y, instObj 250 e) :: (e, dictOf (subE w.params t0 t1 (.ref x)) 2) :: T') → (∀ p ∈ T', @LT.lt Nat _ p.1 e) → @LT.lt Nat _ e y → Q (.ref y) { s with heap := h', toks := tk' }) :
    wpAny (model prog w) (ktrTop dp un gd cn cs L a₀ ccd cl outer) (call (.ref 268) [.ref x]) Q E s := by
  refine wpAny_call ?_
  k_dflt ktr_enter
  generalize s.toks + _ = tk0
  all_goals k_steps
  exact ret _ _ _ _ _ _ (by assumption) (by assumption) (by assumption) (by assumption)
theorem numbered_spec {prog : Program} {w : World} {mean : ExcName → Option Value} {mg mb : Str → Option Value} {dp un : Nat} {gd : Option (List Code)} {cn : Str} {cs : Scope} {a₀ : Addr} {ccd : Value} {cl : List (Str × Addr)} {outer : List Env} {A₀ : Around} {base h₀ : Heap} {L : Addr} {m : Str → Option Value} {s : Shared} {Q : Value → Shared → Prop} {E : Value → Shared → Prop} {x d : Addr} {i : Int} {ti : Tok} {T' T₁ : List (Addr × Obj)} {kt : Nat → Tok} {k nm nu pa : Value} {vs : Nat → Value}
    (B : Below A₀ base outer h₀) (F : Fr h₀ L s.heap m) (X : (hd.heap_39 w.params).In h₀) (T : Top hd.view_39 (looseW hd.view_39 []) mean mg mb h₀) (hk : cs.kind = .function) (hroom : dp + 20 < recursionLimit) (hunits : un + 200 < cLine)
    (N : News h₀ L s.heap T') (hx : (x, instObj 229 d) ∈ T') (hd' : (d, dictOf (typE w.params kt k nm nu pa vs) 24) ∈ T') (U : Upd d (dictOf (typE w.params kt k nm nu pa vs) 24) (dictOf (typE w.params kt k nm (.int i ti) pa vs) 24) T' T₁)
    (ret : ∀ h' tk', Fr h₀ L h' m → News h₀ L h' T₁ → Q (.ref x) { s with heap := h', toks := tk' }) :
    wpAny (model prog w) (ktrTop dp un gd cn cs L a₀ ccd cl outer) (call (.ref 261) [.ref x, .int i ti]) Q E s := by
  refine wpAny_call ?_
  k_dflt ktr_enter
  generalize s.toks + _ = tk0
  k_with "setAttr ref int" => (k_dflt (refine set_num _ (by k_asm) (by k_asm) (by k_asm) hx hd' U ?_); intro h' F' N'; (try k_sweep))
  all_goals k_steps
  exact ret _ _ (by assumption) (by assumption)
theorem regjj10 : True := by
  k_with "m_keep" => first | exact KeepF.nil | (refine' KeepF.cons ?z147p ?z147q; (case z147q => k_extra "m_keep"); (case z147p => k_extra "m_off"))
  k_with "call ref" => (k_here; (with_reducible show wpAny _ _ (call (Value.ref 276) [_, _]) _ _ _); k_dflt (refine' dip_keep ?z148B ?z148F ?z148X ?z148T ?z148k ?z148r ?z148u ?z148N ?z148w ?z148S ?z148x0 ?z148x1 ?z148x2 ?_; (case z148B => k_asm); (case z148F => k_asm); (case z148X => k_asm); (case z148T => k_asm); (case z148k => first | exact rfl | assumption); (case z148r => ktr_room); (case z148u => ktr_units); (case z148N => k_asm); (case z148S => k_extra "m_keep"); (case z148w => assumption); (case z148x0 => first | assumption | exact rfl); (case z148x1 => decide); (case z148x2 => decide)); intro v' tv' o' k' t' h' tk' F' N' hw' v0' v1'; (try dsimp only); (try k_sweep))
  k_with "call ref" => (k_here; (with_reducible show wpAny _ _ (call (Value.ref 283) [_]) _ _ _); k_dflt (refine' formals_spec ?z149B ?z149F ?z149X ?z149T ?z149k ?z149r ?z149u (Fold'.nws ?z149S ?z149N) (Fold'.wf ?z149S ?z149w) ?z149x0 ?_; (case z149B => k_asm); (case z149F => k_asm); (case z149X => k_asm); (case z149T => k_asm); (case z149k => first | exact rfl | assumption); (case z149r => ktr_room); (case z149u => ktr_units); (case z149N => k_asm); (case z149S => k_extra "m_fold"); (case z149w => assumption); (case z149x0 => first | assumption | exact rfl)); intro o' k' t' M' fl' n' vs' ks' h' tk' F' N' hw' hM' hL' hK' hO'; (try dsimp only); (try k_sweep))
  k_with "call ref" => (k_here; (with_reducible show wpAny _ _ (call (Value.ref 31) [_, _, _, _, _, _]) _ _ _); k_dflt (refine' entity_l ?z150B ?z150F ?z150X ?z150T ?z150k ?z150r ?z150u (Fold'.nws ?z150S ?z150N) (Fold'.wf ?z150S ?z150w)  ?_; (case z150B => k_asm); (case z150F => k_asm); (case z150X => k_asm); (case z150T => k_asm); (case z150k => first | exact rfl | assumption); (case z150r => ktr_room); (case z150u => ktr_units); (case z150N => k_asm); (case z150S => k_extra "m_fold"); (case z150w => assumption)); intro e' R' h' tk' Wl' F' N' hw' hx' q1 q2; (try dsimp only); (try k_sweep); (have y' := ef_addE hw' q1); (obtain ⟨y0', y1', y3', y4'⟩ := y'); (have yr' := er_addE hw' q2); (first | (refine' cutK (keptE hx' hw' ?z150zk ?z150zo) ?_; (case z150zk => k_extra "m_keptw"); (case z150zo => k_extra "m_fro"); intro kk') | skip))
  k_with "call ref" => (k_here; (with_reducible show wpAny _ _ (call (Value.ref 171) [_, _]) _ _ _); k_dflt (refine' decl_l ?z151B ?z151F ?z151X ?z151T ?z151k ?z151r ?z151u (Fold'.nws ?z151S ?z151N) (Fold'.wf ?z151S ?z151w) ?z151x0 ?z151x1 ?z151x2 ?z151x3 ?z151x4 ?z151x5 ?z151x6 ?z151x7 ?z151x8 ?z151x9 ?z151x10 ?_; (case z151B => k_asm); (case z151F => k_asm); (case z151X => k_asm); (case z151T => k_asm); (case z151k => first | exact rfl | assumption); (case z151r => ktr_room); (case z151u => ktr_units); (case z151N => k_asm); (case z151S => k_extra "m_fold"); (case z151w => assumption); (case z151x0 => k_extra "m_rs"); (case z151x1 => k_extra "m_frm2"); (case z151x2 => k_extra "m_eq"); (case z151x3 => k_extra "m_dec"); (case z151x4 => k_extra "m_eq"); (case z151x5 => k_extra "m_dec"); (case z151x6 => k_extra "m_va"); (case z151x7 => k_extra "m_va"); (case z151x8 => k_extra "m_sz"); (case z151x9 => k_extra "m_sz"); (case z151x10 => k_extra "m_sz")); intro t1' ven' vep' o4' t4' o0' l' h' tk' Wl' qv' F' N' hw' lo'; (try dsimp only); (try k_sweep); (obtain ⟨g0', g4', gn', g1', gm', gl'⟩ := decl_facts hw'); (first | (refine' cutK (keptD hw' ?z151zk ?z151zo) ?_; (case z151zk => k_extra "m_keptw"); (case z151zo => k_extra "m_exc"); intro kk') | skip))
  k_with "call ref" => (k_here; (with_reducible show wpAny _ _ (call (Value.ref 106) [_, _, _]) _ _ _); k_dflt (refine' region_l ?z152B ?z152F ?z152X ?z152T ?z152k ?z152r ?z152u (Fold'.nws ?z152S ?z152N) (Fold'.wf ?z152S ?z152w) ?z152x0 ?z152x1 ?_; (case z152B => k_asm); (case z152F => k_asm); (case z152X => k_asm); (case z152T => k_asm); (case z152k => first | exact rfl | assumption); (case z152r => ktr_room); (case z152u => ktr_units); (case z152N => k_asm); (case z152S => k_extra "m_fold"); (case z152w => assumption); (case z152x0 => k_extra "m_rs"); (case z152x1 => first | assumption | exact .inl rfl | exact .inr (.inl rfl) | exact .inr (.inr rfl))); intro x' R' t' h' tk' Wl' F' N' hw' hx' q1 q2 q3 q4 q5 q6 q7; (try dsimp only); (try k_sweep); (obtain ⟨yk', yp', yo', z0', z4', z1'⟩ := reg_facts hw' q1 q3 q4); (first | (refine' cutK (keptR hx' hw' ?z152zk ?z152zo) ?_; (case z152zk => k_extra "m_keptw"); (case z152zo => k_extra "m_fro"); intro kk') | skip))
  k_with "call ref" => (k_here; (with_reducible show wpAny _ _ (call (Value.ref 117) [_, _, _]) _ _ _); k_dflt (refine' own_l ?z153B ?z153F ?z153X ?z153T ?z153k ?z153r ?z153u (Fold'.nws ?z153S ?z153N) (Fold'.wf ?z153S ?z153w) ?z153x0 ?z153x1 ?z153x2 ?_; (case z153B => k_asm); (case z153F => k_asm); (case z153X => k_asm); (case z153T => k_asm); (case z153k => first | exact rfl | assumption); (case z153r => ktr_room); (case z153u => ktr_units); (case z153N => k_asm); (case z153S => k_extra "m_fold"); (case z153w => assumption); (case z153x0 => k_extra "m_rs"); (case z153x1 => k_extra "m_rs"); (case z153x2 => first | assumption | rfl)); intro x' R' t' h' tk' Wl' F' N' hw' hx' q1 q2 q3 q4 q5 q6 q7; (try dsimp only); (try k_sweep); (obtain ⟨yk', yp', yo', z0', z4', z1', yr'⟩ := reg_facts' hw' q1 q3 q4); (first | (refine' cutK (keptO hx' hw' ?z153zk ?z153zo ?z153ze) ?_; (case z153zk => k_extra "m_keptw"); (case z153zo => k_extra "m_fro"); (case z153ze => k_extra "m_exc"); intro kk') | skip))
  k_with "call ref" => (k_here; (with_reducible show wpAny _ _ (call (Value.ref 229) [_, _]) _ _ _); k_dflt (refine' type_l ?z154B ?z154F ?z154X ?z154T ?z154k ?z154r ?z154u (Fold'.nws ?z154S ?z154N) (Fold'.wf ?z154S ?z154w)  ?_; (case z154B => k_asm); (case z154F => k_asm); (case z154X => k_asm); (case z154T => k_asm); (case z154k => first | exact rfl | assumption); (case z154r => ktr_room); (case z154u => ktr_units); (case z154N => k_asm); (case z154S => k_extra "m_fold"); (case z154w => assumption)); intro x' d' M' kt' t0' vs' h' tk' Wl' F' N' hw' hx' hd' ll'; (try dsimp only); (try k_sweep))
  k_with "m_in" => first | with_reducible_and_instances exact List.Mem.head _ | (refine List.Mem.tail _ ?_; k_extra "m_in")
  k_with "call ref" => (k_here; (with_reducible show wpAny _ _ (call (Value.ref 268) [Value.ref _]) _ _ _); k_dflt (refine' whole_spec ?z156B ?z156F ?z156X ?z156T ?z156k ?z156r ?z156u ?z156N ?_; (case z156B => k_asm); (case z156F => k_asm); (case z156X => k_asm); (case z156T => k_asm); (case z156k => first | exact rfl | assumption); (case z156r => ktr_room); (case z156u => ktr_units); (case z156N => k_asm)); intro x' d' t0' t1' h' tk' F' N' l1 l2; (try k_lt l1); (try k_lt2 l2); (try dsimp only); (try k_sweep))
  k_with "call ref" => (k_here; (with_reducible show wpAny _ _ (call (Value.ref 261) [Value.ref _, Value.int _ _]) _ _ _); k_dflt (refine' numbered_spec ?z157B ?z157F ?z157X ?z157T ?z157k ?z157r ?z157u ?z157N ?z157x ?z157d ?z157U ?_; (case z157B => k_asm); (case z157F => k_asm); (case z157X => k_asm); (case z157T => k_asm); (case z157k => first | exact rfl | assumption); (case z157r => ktr_room); (case z157u => ktr_units); (case z157N => k_asm); (case z157x => k_extra "m_in"); (case z157d => k_extra "m_in"); (case z157U => k_upd)); intro h' tk' F' N'; (try dsimp only); (try k_sweep))
  k_with "setAttr ref ref" => (k_here; (with_reducible show wpAny _ _ (setAttr (Value.ref _) (Str.ofString "parent") _) _ _ _); k_dflt (refine' set_par _ ?z158F ?z158X ?z158N ?z158x ?z158d ?z158U ?_; (case z158F => k_asm); (case z158X => k_asm); (case z158N => k_asm); (case z158x => k_extra "m_in"); (case z158d => k_extra "m_in"); (case z158U => k_upd)); intro h' F' N'; (try k_sweep))
  k_with "binaryOp Add str str" => (k_here; (refine PyProof.Rows.add_str ?_ (by assumption)); intro t' tk')
  trivial
theorem inst_spec {prog : Program} {w : World} {mean : ExcName → Option Value} {mg mb : Str → Option Value} {dp un : Nat} {gd : Option (List Code)} {cn : Str} {cs : Scope} {a₀ : Addr} {ccd : Value} {cl : List (Str × Addr)} {outer : List Env} {A₀ : Around} {base h₀ : Heap} {L : Addr} {m : Str → Option Value} {s : Shared} {Q : Value → Shared → Prop} {E : Value → Shared → Prop} {W : Sx} {wd hm f rt : Addr} {n₀ : Nat} {nm : Str} {tn : Tok}
    (B : Below A₀ base outer h₀) (F : Fr h₀ L s.heap m) (X : (hd.heap_39 w.params).In h₀) (T : Top hd.view_39 (looseW hd.view_39 []) mean mg mb h₀) (hk : cs.kind = .function) (hroom : dp + 100 < recursionLimit) (hunits : un + 1000 < cLine)
    (N : News h₀ L s.heap (led w.params W)) (hw : Wf prog w W) (ewd : (W .wd) = wd) (hnu : NUok W rt) (hf : Frm W hm f n₀) (hnm : nm = "g" ∨ nm = "h") (hv : valueAt ((W .k0) hm) nm = none) (hv4 : valueAt ((W .k4) f) nm = none) (hz0 : ((W .k0) hm).length ≤ 1000) (hz4 : ((W .k4) f).length ≤ 1000) (hz1 : ((W .l1) hm).length ≤ 1000)
    (ret : ∀ W' tup ar rg un ur nl g ns h' tk', Fr h₀ L h' m → News h₀ L h' (led w.params W') → Wf prog w W' → InstR w.params rt W W' nm hm tup ar rg un ur nl g ns → Q (.ref tup) { s with heap := h', toks := tk' }) :
    wpAny (model prog w) (ktrTop dp un gd cn cs L a₀ ccd cl outer) (call (.ref 290) [.ref wd, .ref hm, .str nm tn]) Q E s := by
  refine wpAny_call ?_
  k_dflt ktr_enter
  have kw : Kept [] W W := Kept.refl
  have hhm := hf.mem
  have hfm := hf.end
  have hd : (Builtin.Str.occurrences nm (Str.ofString ".") 0 nm.length 1).isEmpty = true := by rcases hnm with rfl | rfl <;> decide +kernel
  have hd1 : (Builtin.Str.occurrences (nm ++ Str.ofString "__1") (Str.ofString ".") 0 (nm ++ Str.ofString "__1").length 1).isEmpty = true := by rcases hnm with rfl | rfl <;> decide +kernel
  have hl1 : nm.length + (Str.ofString "__1").length ≤ sizeLine := by rcases hnm with rfl | rfl <;> decide +kernel
  generalize s.toks + _ = tk0
  k_with "m_for" => (refine' cutK (InstB.make (P := w.params) (rt := rt) (W := W) (hm := hm) ?zN ?zF ?f1 ?f2 ?f3 ?f4 ?f5 ?f6 ?i0 ?i1 ?i2 ?i3 ?i4 ?i5 ?i6 ?i7 ?i8 ?i9 ?i10 ?i11 ?i12 ?i13 ?i14 ?i15 ?i16 ?i17 ?i18) ?kont; (case zN => k_asm); (case zF => k_asm); (case f1 => exact rfl); (case f2 => exact rfl); (case f3 => exact rfl); (case f4 => exact rfl); (case f5 => exact rfl); (case f6 => k_extra "m_ms2"); (case i0 => k_extra "m_kept"); (case i1 => exact fresh_off0 (off_lt (allLt_of (by assumption))) (by k_extra "m_keptz")); (case i2 => k_extra "m_nu"); (case i3 => k_extra "m_rs"); (case i4 => k_extra "m_rs"); (case i5 => k_extra "m_fro"); (case i6 => k_extra "m_fro"); (case i7 => exact ne_rs (by assumption) (by k_extra "m_rs")); (case i8 => exact (addR_pa (by assumption) (by k_extra "m_rs")).trans (by assumption)); (case i9 => exact (addR_ge (by assumption) (by k_extra "m_rs")).trans (upd_same _ _ _)); (case i10 => exact (upd_same _ _ _).trans (by assumption)); (case i11 => exact (addR_l2 (by assumption) (by k_extra "m_rs")).trans (upd_same _ _ _)); (case i12 => exact (addR_l3 (by assumption) (by k_extra "m_rs")).trans (upd_same _ _ _)); (case i13 => exact upd_same _ _ _); (case i14 => exact upd_same _ _ _); (case i15 => exact ⟨(by k_extra "m_rs"), _, _, _, _, _, _, (congrFun (addE_ef (by assumption) (by k_extra "m_rs")) 4).trans (by assumption), ⟨by k_extra "m_ms2", nin1 (by k_ne)⟩, ⟨by k_extra "m_ms2", nin1 (by k_ne)⟩, ⟨by k_extra "m_ms2", nin1 (ne_of_fl (off_lt (allLt_of (by assumption))) (by k_extra "m_ms2"))⟩⟩); (case i16 => exact ne_ms (by assumption) (by k_extra "m_ms2")); (case i17 => exact ne_ms (by assumption) (by k_extra "m_ms2")); (case i18 => (intro a ha hn; exact (upd_ne _ _ (ne_rs (W := W) (by k_extra "m_fro") ha)).trans ((upd_ne _ _ (ne_rs (W := W) (by k_extra "m_fro") ha)).trans ((upd_ne _ _ (ne_rs (W := W) (by k_extra "m_fro") ha)).trans (upd_ne _ _ hn))))); (intro hB); refine' iter_B (JJ w.params wd _ _ _ (nm ++ Str.ofString "__1") _ _ _ _) ?hh ?F ?N ?S ?w ?hl ?hj ?turn ?done; (case hh => exact rfl); (case F => k_asm); (case N => k_asm); (case S => k_extra "m_fold"); (case w => assumption); (case hl => k_extra "m_ms2"); (case hj => (refine' JJ.start ?c1 ?c2 ?c3 ?c4 ?c5 ?c6 ?c7 ?c8 ?c9 ?c10 ?c11 ?c12 ?c13 ?c14 ?c15 ?c16 ?c17 ?c18 ?c19; (case c1 => exact rfl); (case c2 => exact rfl); (case c3 => exact rfl); (case c4 => exact rfl); (case c5 => assumption); (case c6 => (intro p' hp'; k_extra "m_ms3")); (case c7 => assumption); (case c8 => assumption); (case c9 => k_extra "m_ms2"); (case c10 => assumption); (case c11 => exact (addR_k4 (by assumption) (by k_extra "m_rs")).trans (by assumption)); (case c12 => assumption); (case c13 => assumption); (case c14 => assumption); (case c15 => k_extra "m_rs"); (case c16 => k_extra "m_rs"); (case c17 => exact (addR_kd (by assumption) (by k_extra "m_rs")).trans (by assumption)); (case c18 => assumption); (case c19 => assumption))))
  k_with "m_turn" => skip
  iterate 171 (k_extra "m_step")
  focus
    intro i v m₁ W₁ h₁ tk₁ I io hv hJ hic hwI hlW hIo F₁ N₁
    obtain ⟨fa, fb, fc, rfl⟩ := shape3 hJ.shape
    have ewd₁ := hJ.kept.wd.trans hJ.b1
    have har₁ := hJ.kept.rs _ hJ.b2
    have hrg₁ := hJ.kept.rs _ hJ.b3
    have hka₁ := (hJ.kept.kd _ hJ.b2).trans hJ.b4
    have hkr₁ := (hJ.kept.kd _ hJ.b3).trans hJ.b5
    have hpr₁ := (hJ.kept.pa _ hJ.b3).trans hJ.b6
    obtain ⟨ns, vn, c, hnl, hni, hnlen, hrows⟩ := hJ.loop
    rcases hJ.forms.get hv with ⟨a, fn, t0, t1, t2, fx, rfl, hk, ham⟩ | ⟨a, t0, t1, x2, x3, x4, rfl, hk, ham⟩
    all_goals
      have ham₁ := hJ.kept.msd ham
      have hane := ms_ne' ham
      obtain ⟨n0, n4, nd, ni⟩ := hJ.next hnm hk
      dsimp only [kn, Option.getD] at n0 n4 nd
      have hz0₁ := Nat.le_trans hJ.z0 (Nat.le_trans ni (by decide : 3 ≤ 1000))
      have hz4₁ := Nat.le_trans hJ.z4 (Nat.le_trans (Nat.succ_le_succ ni) (by decide : 3 + 1 ≤ 1000))
      have hz1₁ := Nat.le_trans hJ.z1 (Nat.le_trans ni (by decide : 3 ≤ 1000))
      have hfn := ne_lists (wf_undo1 hwI) hlW hnl hv hni
      have hIne := ne_of_off hIo hnl
      have hvz := vn_size hnlen (Nat.le_trans ni (by decide : 3 ≤ 900))
    all_goals k_steps
    all_goals first
      | (dsimp only
         refine' FStepB.brk ?F ?N ?S ?w ?hI ?hl ?hJ
         case F => assumption
         case N => assumption
         case S => exact Fold'.base
         case w => assumption
         case hI => k_extra "m_ms2"
         case hl => k_extra "m_ms2"
         case hJ =>
           refine' JJ.stay hJ ?sh ?K ?K0 ?h0 ?h4 ?h1 ⟨rfl, rfl, rfl⟩
           case sh => (intro y y1 y2 y3; simp only [y1, y2, y3, if_false])
           case K => k_extra "m_kept"
           case K0 => k_extra "m_kept"
           case h0 => exact rfl
           case h4 => exact rfl
           case h1 => exact rfl)
      | (refine' FStepB.intro ?F ?N ?S ?w ?hI ?hl ?hJ
         case F => assumption
         case N => assumption
         case S => exact Fold'.base
         case w => assumption
         case hI => k_extra "m_ms2"
         case hl => k_extra "m_ms2"
         case hJ =>
           first
             | (refine' JJ.step (xs := []) (vn' := vn) hJ hk ?sh ?K ?h0 n0 ?h4 n4 ?h1 hrows (Rows.obj Rows.nil) ?hn ?hi (Nat.le_succ_of_le hnlen) ⟨rfl, rfl, rfl, fun a hn => upd_ne _ _ hn⟩
                case sh => (intro y y1 y2 y3; simp only [y1, y2, y3, if_false])
                case K => k_extra "m_kept"
                case h0 => assumption
                case h4 => assumption
                case h1 => assumption
                case hn => exact ms_delM (by k_extra "m_ms2") (Ne.symm hIne)
                case hi => simpa using hni)
             | (refine' JJ.step (vn' := vn ++ [?vv]) hJ hk ?sh ?K ?h0 n0 ?h4 n4 ?h1 hrows (Rows.hit (hit_new ?w2 ?hI2 hic ?hn2 ?hni2 ?gl ?g0 n0 ?he ?y0 ?y3 ?hs ?hd ?ht) Rows.nil) ?hn ?hi (len_snoc hnlen) ⟨rfl, rfl, rfl, fun a hn => upd_ne _ _ hn⟩
                case sh => (intro y y1 y2 y3; simp only [y1, y2, y3, if_false])
                case K => k_extra "m_kept"
                case h0 => assumption
                case h4 => assumption
                case h1 => assumption
                case hn => exact ms_delM (push_mem (by k_extra "m_ms2")) (Ne.symm hIne)
                case hi => exact ints_snoc hni
                case w2 => assumption
                case hI2 => k_extra "m_ms2"
                case hn2 => exact push_mem (by k_extra "m_ms2")
                case hni2 => exact ints_snoc hni
                case gl => assumption
                case g0 => assumption
                case he => exact List.Mem.head _
                case y0 => assumption
                case y3 => assumption
                case hs => k_extra "m_ms2"
                case hd => k_extra "m_ms2"
                case ht => first
                  | exact .inl ⟨_, _, ⟨_, _, _, _, by k_extra "m_ms2", by k_extra "m_ms2"⟩⟩
                  | exact .inr ⟨_, _, _, _, _, _, ⟨_, _, _, _, by k_extra "m_ms2", by k_extra "m_ms2"⟩, ⟨_, _, _, _, by k_extra "m_ms2", by k_extra "m_ms2"⟩⟩))
  intro i m₁ W₁ h₁ tk₁ hi hJ hw₁ hl₁ F₁ N₁
  obtain ⟨fa, fb, fc, rfl⟩ := shape3 hJ.shape
  have ewd₁ := hJ.kept.wd.trans hJ.b1
  have har₁ := hJ.kept.rs _ hJ.b2
  have hrg₁ := hJ.kept.rs _ hJ.b3
  have hka₁ := (hJ.kept.kd _ hJ.b2).trans hJ.b4
  have hkr₁ := (hJ.kept.kd _ hJ.b3).trans hJ.b5
  have hpr₁ := (hJ.kept.pa _ hJ.b3).trans hJ.b6
  have kw₁ : Kept [] W₁ W₁ := Kept.refl
  obtain ⟨n0, n4, ni⟩ := hJ.unit hnm hi
  have hz0₁ := Nat.le_trans hJ.z0 (Nat.le_trans ni (by decide : 3 ≤ 1000))
  have hz4₁ := Nat.le_trans hJ.z4 (Nat.le_trans (Nat.succ_le_succ ni) (by decide : 3 + 1 ≤ 1000))
  have hz1₁ := Nat.le_trans hJ.z1 (Nat.le_trans ni (by decide : 3 ≤ 1000))
  have nu₁ : NUok W₁ rt := hB.nu.up hJ.reg.1 hJ.reg.2.1 hJ.reg.2.2.1 (hJ.kept.mc _ hB.nu.rin)
  all_goals k_steps
  have z := fold_end (prog := prog) (by k_asm) (by k_extra "m_fold") (by assumption)
  refine' (InstR.make z.2 hB hJ hi ?K ?nu ?tm ?ui ?un ?uo ?c1 ?c2 ?c3 ?c4 ?c5 ?c6 ?c7 ?c8 ?c9 ?c10 n0 n4 ?c11).elim ?fin
  case K => (refine Kept.addM ?_; assumption)
  case nu => k_extra "m_nu"
  case tm => exact List.Mem.head _
  case ui => k_extra "m_rs"
  case un => k_extra "m_rs"
  case uo => k_extra "m_fro"
  case c1 => assumption
  case c2 => assumption
  case c3 => exact (upd_same _ _ _).trans (by assumption)
  case c4 => exact upd_same _ _ _
  case c5 => exact upd_same _ _ _
  case c6 => assumption
  case c7 => assumption
  case c8 => assumption
  case c9 => exact (addRM_k0 (by assumption) (by k_extra "m_rs")).trans (by assumption)
  case c10 => exact (addRM_k4 (by assumption) (by k_extra "m_rs")).trans (by assumption)
  case c11 => (intro a ha hn; exact (upd_ne _ _ (ne_rs (W := W₁) (by k_extra "m_fro") ha)).trans (upd_ne _ _ hn))
  intro ns hR
  exact ret _ _ _ _ _ _ _ _ _ _ _ (by assumption) z.1 z.2 hR
theorem CompEnd.mono {h₀ : Heap} {L I C D : Addr} {m : Str → Option Value} {s₁ : Shared} {oI oC oD : Obj} {S : List (Addr × Obj) → Prop} {r r' : Value → List (Addr × Obj) → Prop} {y : Value} {s₂ : Shared} (h : LCg.CompEnd h₀ L m s₁ I oI C oC D oD S r y s₂) (k : ∀ y n, r y n → r' y n) : LCg.CompEnd h₀ L m s₁ I oI C oC D oD S r' y s₂ := by
  obtain ⟨h', tk, n', e, F, N, o, s, q⟩ := h
  exact ⟨h', tk, n', e, F, N, o, s, k _ _ q⟩
theorem comp_ind {prog : Program} {w : World} {A : Around} {h₀ : Heap} {L : Addr} {m : Str → Option Value} {env : Env} {elt : PySem.Expr} {x : Str} {scope : Scope} {cl : List (Str × Addr)} {s : Shared} {S : List (Addr × Obj) → Prop} {P : Nat → Value → Prop} {Fin : List Value → List (Addr × Obj) → Prop} {n : Nat} {news : List (Addr × Obj)}
    (J : Nat → List Value → Prop) (h0 : J 0 [])
    (turn : ∀ i ys v I oI C oC D m₂ h tk (E' : Value → Shared → Prop), J i ys → P i v → LCg.NsObj oC m₂ → m₂ x = some v → Fr h₀ L h m → News h₀ L h ((I, oI) :: (C, oC) :: (D, LCg.lst ys) :: news) → LCg.Off3 I C D news → ((@Ne Nat I C) ∧ (@Ne Nat I D) ∧ (@Ne Nat C D)) →
      wpAny (model prog w) A (eval elt (compEnvC scope cl C env)) (LCg.CompEnd h₀ L m { s with heap := h, toks := tk } I oI C oC D (LCg.lst ys) S (fun y news' => news' = news ∧ J (i + 1) (ys ++ [y]))) E' { s with heap := h, toks := tk })
    (fin : ∀ ys, J n ys → Fin ys news) : LCg.CompRest prog w A h₀ L m env elt x scope cl s S P Fin n 0 [] news := by
  have key : ∀ k i ys, i + k = n → J i ys → LCg.CompRest prog w A h₀ L m env elt x scope cl s S P Fin k i ys news := by
    intro k
    induction k with
    | zero => intro i ys e hJ; have : i = n := by omega
              subst this; exact fin ys hJ
    | succ k ih =>
      intro i ys e hJ v I oI C oC D m₂ h tk E' hP hC hx F N o ne
      refine wpAny_mono (turn i ys v I oI C oC D m₂ h tk E' hJ hP hC hx F N o ne) (fun y s' hE => CompEnd.mono hE fun y n' hr => ?_) fun _ _ h => h
      obtain ⟨rfl, hJ'⟩ := hr
      exact ih (i + 1) _ (by omega) hJ'
  exact key n 0 [] (by omega) h0
structure HJ (P : Params) (W : Sx) (ts : List Value) (ns : List Int) (i : Nat) (ys : List Value) : Prop where
  h : ∃ n1 n2, IntsAre ys n1 ∧ TyL P W (ts.drop i) n2 ∧ ns = n1 ++ n2
theorem HJ.start {P : Params} {W : Sx} {ts : List Value} {ns : List Int} (h : TyL P W ts ns) : HJ P W ts ns 0 [] := ⟨[], ns, .nil, h, rfl⟩
theorem ints_snoc' {vs : List Value} {ns : List Int} {n : Int} {t : Tok} (h : IntsAre vs ns) : IntsAre (vs ++ [.int n t]) (ns ++ [n]) := by
  induction h with
  | nil => exact .cons _ _ .nil
  | cons _ _ _ ih => exact .cons _ _ ih
theorem HJ.turn {P : Params} {W : Sx} {ts ys : List Value} {ns : List Int} {i : Nat} {v : Value} (h : HJ P W ts ns i ys) (hv : ts.toArray[i]? = some v) :
    ∃ ty n, v = .ref ty ∧ TyK P W [] ty n ∧ ∀ t, HJ P W ts ns (i + 1) (ys ++ [.int n t]) := by
  obtain ⟨n1, n2, a, b, e⟩ := h.h
  have hv' : ts[i]? = some v := by simpa using hv
  obtain ⟨hi, ev⟩ := List.getElem?_eq_some_iff.mp hv'
  rw [List.drop_eq_getElem_cons hi, ev] at b
  cases b with
  | @cons ty n _ ns' hk hr => exact ⟨ty, n, rfl, hk, fun t => ⟨n1 ++ [n], ns', ints_snoc' a, hr, by rw [e]; simp⟩⟩
theorem HJ.done {P : Params} {W : Sx} {ts ys : List Value} {ns : List Int} (h : HJ P W ts ns ts.length ys) : IntsAre ys ns := by
  obtain ⟨n1, n2, a, b, e⟩ := h.h
  rw [List.drop_length] at b
  cases b
  rw [e, List.append_nil]; exact a
inductive HomesV (P : Params) (W : Sx) : Value → List Int → Prop
  | none : HomesV P W .none []
  | top {r} : r ∈ (W .rs) → (W .pa) r = .none → HomesV P W (.ref r) []
  | plain {r b} : r ∈ (W .rs) → (W .pa) r = .ref b → b ∈ (W .rs) → (W .ge) b = .none → HomesV P W (.ref r) []
  | inst {r ns} : r ∈ (W .rs) → GenR P W r ns → ns.length ≤ 3 → HomesV P W (.ref r) ns
structure UseD where
  box : Bool
  rn : Int
  hs : List Int
structure UseE (P : Params) (W : Sx) (e : Addr) (u : UseD) : Prop where
  mem : e ∈ (W .es)
  reg : ∃ rg, (W .er) e = .ref rg ∧ rg ∈ (W .rs) ∧ (W .nu) rg = u.rn ∧ HomesV P W ((W .pa) rg) u.hs
  dat : (u.box = true ∧ ∃ t, (W .ef) e 4 = .str "box" t) ∨ (u.box = false ∧ ((W .ef) e 4 = .none ∨ ∃ t, (W .ef) e 4 = .str "actuals" t))
noncomputable def UseD.shows (u : UseD) (k : Int) : Bool := u.box && u.hs.any (· == k)
theorem HomesV.val {P : Params} {W : Sx} {v : Value} {ns : List Int} (h : HomesV P W v ns) : v = .none ∨ ∃ r, v = .ref r := by
  cases h
  · exact .inl rfl
  all_goals exact .inr ⟨_, rfl⟩
theorem regjj11 : True := by
  k_with "m_ro" => (first
      | with_reducible_and_instances exact List.Mem.head _
      | exact SubL.ri (by with_reducible assumption) (by with_reducible assumption) | exact SubL.rd (by with_reducible assumption) (by with_reducible assumption) | exact SubL.ei (by with_reducible assumption) (by with_reducible assumption) | exact SubL.ed (by with_reducible assumption) (by with_reducible assumption)
      | exact SubL.r0 (by with_reducible assumption) (by with_reducible assumption) | exact SubL.r2 (by with_reducible assumption) (by with_reducible assumption) (by with_reducible assumption) | exact SubL.r3 (by with_reducible assumption) (by with_reducible assumption) (by with_reducible assumption) | exact SubL.r5 (by with_reducible assumption) (by with_reducible assumption)
      | exact SubL.ms (by with_reducible assumption) (by with_reducible assumption)
      | (with_reducible_and_instances refine' List.Mem.tail _ ?_; k_extra "m_ro"))
  k_with "x_k_mem" => k_extra "m_ro"
  k_with "m_subx" => first | with_reducible assumption | (apply SubL.cons; k_extra "m_subx")
  k_with "exec For Name Subscript cons nil" => (k_here; (rename Fr _ _ _ _ => lF'); (with_unfolding_all refine' For_invVF lF' ?z163k1 ?z163k2 ?_; (case z163k1 => exact rfl); (case z163k2 => exact rfl); k_whole))
  k_with "subscriptTail" => ((k_here; (with_reducible show wpAny _ _ (subscriptTail _ _ (Value.ref _) (Value.int _ _)) _ _ _); k_dflt (first
      | (refine' itemTupM ?z164N ?z164p ?z164lo ?z164hi ?z164j ?z164x ?_; (case z164N => k_asm); (case z164p => k_extra "m_ro"); (case z164lo => decide); (case z164hi => decide); (case z164j => rfl); (case z164x => rfl))
      | (refine' itemLM (j := 0) ?z164N ?z164p ?z164a ?z164b ?z164z ?_; (case z164N => k_asm); (case z164p => k_extra "m_ro"); (case z164a => rfl); (case z164b => decide); (case z164z => rfl)))))
  k_with "m_sub2" => first | exact fun _ h => h | (with_reducible refine sub_both ?_; k_extra "m_sub2") | (with_reducible refine sub_cons ?_; k_extra "m_sub2")
  trivial
theorem ft_plain {prog : Program} {w : World} {mean : ExcName → Option Value} {mg mb : Str → Option Value} {dp un : Nat} {gd : Option (List Code)} {cn : Str} {cs : Scope} {a₀ : Addr} {ccd : Value} {cl : List (Str × Addr)} {outer : List Env} {A₀ : Around} {base h₀ : Heap} {L : Addr} {m : Str → Option Value} {s : Shared} {Q : Value → Shared → Prop} {E : Value → Shared → Prop} {W : Sx} {news : List (Addr × Obj)} {r : Addr}
    (B : Below A₀ base outer h₀) (F : Fr h₀ L s.heap m) (X : (hd.heap_39 w.params).In h₀) (T : Top hd.view_39 (looseW hd.view_39 []) mean mg mb h₀) (hk : cs.kind = .function) (hroom : dp + 30 < recursionLimit) (hunits : un + 300 < cLine)
    (N : News h₀ L s.heap news) (hS : SubL w.params W news) (hw : Wf prog w W) (hm : r ∈ (W .rs)) (hp : (W .pa) r = .none ∨ ∃ b, (W .pa) r = .ref b ∧ b ∈ (W .rs) ∧ (W .ge) b = .none)
    (ret : ∀ l h' tk', Fr h₀ L h' m → News h₀ L h' ((l, PySem.W.listOf #[] 0) :: news) → Q (.ref l) { s with heap := h', toks := tk' }) :
    wpAny (model prog w) (ktrTop dp un gd cn cs L a₀ ccd cl outer) (call (.ref 195) [.ref r]) Q E s := by
  refine wpAny_call ?_
  k_dflt ktr_enter
  generalize s.toks + _ = tk0
  rcases hp with hp | ⟨b, hp, hb, hg⟩
  all_goals k_steps
  all_goals exact ret _ _ _ (by assumption) (by assumption)
theorem ft_none {prog : Program} {w : World} {mean : ExcName → Option Value} {mg mb : Str → Option Value} {dp un : Nat} {gd : Option (List Code)} {cn : Str} {cs : Scope} {a₀ : Addr} {ccd : Value} {cl : List (Str × Addr)} {outer : List Env} {A₀ : Around} {base h₀ : Heap} {L : Addr} {m : Str → Option Value} {s : Shared} {Q : Value → Shared → Prop} {E : Value → Shared → Prop} {W : Sx} {news : List (Addr × Obj)} 
    (B : Below A₀ base outer h₀) (F : Fr h₀ L s.heap m) (X : (hd.heap_39 w.params).In h₀) (T : Top hd.view_39 (looseW hd.view_39 []) mean mg mb h₀) (hk : cs.kind = .function) (hroom : dp + 30 < recursionLimit) (hunits : un + 300 < cLine)
    (N : News h₀ L s.heap news) (hS : SubL w.params W news) (hw : Wf prog w W)
    (ret : ∀ l h' tk', Fr h₀ L h' m → News h₀ L h' ((l, PySem.W.listOf #[] 0) :: news) → Q (.ref l) { s with heap := h', toks := tk' }) :
    wpAny (model prog w) (ktrTop dp un gd cn cs L a₀ ccd cl outer) (call (.ref 195) [.none]) Q E s := by
  refine wpAny_call ?_
  k_dflt ktr_enter
  generalize s.toks + _ = tk0
  k_steps
  all_goals exact ret _ _ _ (by assumption) (by assumption)
theorem ft_inst {prog : Program} {w : World} {mean : ExcName → Option Value} {mg mb : Str → Option Value} {dp un : Nat} {gd : Option (List Code)} {cn : Str} {cs : Scope} {a₀ : Addr} {ccd : Value} {cl : List (Str × Addr)} {outer : List Env} {A₀ : Around} {base h₀ : Heap} {L : Addr} {m : Str → Option Value} {s : Shared} {Q : Value → Shared → Prop} {E : Value → Shared → Prop} {W : Sx} {news : List (Addr × Obj)} {r : Addr} {ns : List Int}
    (B : Below A₀ base outer h₀) (F : Fr h₀ L s.heap m) (X : (hd.heap_39 w.params).In h₀) (T : Top hd.view_39 (looseW hd.view_39 []) mean mg mb h₀) (hk : cs.kind = .function) (hroom : dp + 30 < recursionLimit) (hunits : un + 300 < cLine)
    (N : News h₀ L s.heap news) (hS : SubL w.params W news) (hw : Wf prog w W) (hm : r ∈ (W .rs)) (hG : GenR w.params W r ns) (hn : ns.length ≤ 3)
    (ret : ∀ l ts c h' tk', Fr h₀ L h' m → News h₀ L h' ((l, PySem.W.listOf ts.toArray c) :: news) → TyL w.params W ts ns → ts.length ≤ 3 → Q (.ref l) { s with heap := h', toks := tk' }) :
    wpAny (model prog w) (ktrTop dp un gd cn cs L a₀ ccd cl outer) (call (.ref 195) [.ref r]) Q E s := by
  refine wpAny_call ?_
  k_dflt ktr_enter
  generalize s.toks + _ = tk0
  obtain ⟨b, g, fl, n, vs, ks, hp, hb, hg, ⟨hge, dl, dt, c, t0, t1, x, hdl, ⟨h1, -⟩, ⟨h2, -⟩, ⟨h3, -⟩⟩, hL, hR⟩ := hG
  k_with "pyIter ref" => (refine iter_R (FJ w.params W r _ ks ns _ news) (by exact rfl) (by k_asm) (by k_asm) (by k_mem) (FJ.start hR) ?_ ?_)
  iterate 57 (k_extra "m_step")
  focus
    intro i v m₁ nx h₁ tk₁ I io hv hJ hl hA hI F₁ N₁
    rcases hJ.turn hL hv with ⟨fa, fb, ts, c', a, nm, t0', t1', t2', x', n', rfl, rfl, hlt, rfl, ham, ⟨ll, lc, e, sb, d, k0, k1, ty, tt, v0, ⟨hl1, -⟩, he, he0, he3, ⟨hs1, -⟩, ⟨hs2, -⟩, hty⟩, hnext⟩ | ⟨fa, fb, ts, c', a, nm, t0', t1', t2', x', rfl, rfl, hlt, rfl, ham, v0, hnext⟩ | ⟨fa, fb, ts, c', a, t0', t1', x2', x3', x4', rfl, rfl, hlt, rfl, ham, hnext⟩
    k_with "inplaceOp Add ref ref" => (k_here; k_dflt (refine iadd_K (rest := (I, io) :: news) (by k_asm) (by k_asm) (by k_extra "m_ro") (by k_extra "m_ro") (rest_ok (by assumption) hI (by k_extra "m_sub2")) (by simp only [List.length_cons, List.length_nil]; omega) ?_); intro h' n' F' N'; (try dsimp only); (try k_sweep))
    all_goals k_steps
    · exact RStep.fin (o' := PySem.W.listOf (ts ++ [Value.ref ty]).toArray n') (by assumption) (by assumption) sub_swap (by k_extra "m_ro") (hnext ty _ _ n' hty (by intro y y1 y2; simp only [y1, y2, if_false]; try (by_cases hy : y = Str.ofString "found" <;> simp only [hy, if_true, if_false])) rfl)
    · exact RStep.fin (o' := PySem.W.listOf (ts ++ []).toArray n') (by assumption) (by assumption) sub_swap (by k_extra "m_ro") (hnext _ _ n' (by intro y y1 y2; simp only [y1, y2, if_false]; try (by_cases hy : y = Str.ofString "found" <;> simp only [hy, if_true, if_false])) rfl)
    · exact RStep.fin (o' := PySem.W.listOf ts.toArray c') (by assumption) (by assumption) (fun _ h => h) (by k_extra "m_ro") (hnext _ _ c' (by intro y y1 y2; simp only [y1, y2, if_false]; try (by_cases hy : y = Str.ofString "found" <;> simp only [hy, if_true, if_false])) rfl)
  intro m₁ nx h₁ tk₁ hJ hA F₁ N₁
  obtain ⟨fa, fb, ts, c', rfl, rfl, hts⟩ := hJ.done hL
  all_goals k_steps
  all_goals exact ret _ _ _ _ _ (by assumption) (by assumption) hts (by rw [hts.len]; exact hn)
theorem ft_spec {prog : Program} {w : World} {mean : ExcName → Option Value} {mg mb : Str → Option Value} {dp un : Nat} {gd : Option (List Code)} {cn : Str} {cs : Scope} {a₀ : Addr} {ccd : Value} {cl : List (Str × Addr)} {outer : List Env} {A₀ : Around} {base h₀ : Heap} {L : Addr} {m : Str → Option Value} {s : Shared} {Q : Value → Shared → Prop} {E : Value → Shared → Prop} {W : Sx} {news : List (Addr × Obj)} {v : Value} {ns : List Int}
    (B : Below A₀ base outer h₀) (F : Fr h₀ L s.heap m) (X : (hd.heap_39 w.params).In h₀) (T : Top hd.view_39 (looseW hd.view_39 []) mean mg mb h₀) (hk : cs.kind = .function) (hroom : dp + 30 < recursionLimit) (hunits : un + 300 < cLine)
    (N : News h₀ L s.heap news) (hS : SubL w.params W news) (hw : Wf prog w W) (hH : HomesV w.params W v ns)
    (ret : ∀ l ts c h' tk', Fr h₀ L h' m → News h₀ L h' ((l, PySem.W.listOf ts.toArray c) :: news) → TyL w.params W ts ns → ts.length ≤ 3 → Q (.ref l) { s with heap := h', toks := tk' }) :
    wpAny (model prog w) (ktrTop dp un gd cn cs L a₀ ccd cl outer) (call (.ref 195) [v]) Q E s := by
  cases hH with
  | none => exact ft_none B F X T hk hroom hunits N hS hw fun l h' tk' F' N' => ret l [] 0 h' tk' F' N' .nil (Nat.zero_le _)
  | top hr hp => exact ft_plain B F X T hk hroom hunits N hS hw hr (.inl hp) fun l h' tk' F' N' => ret l [] 0 h' tk' F' N' .nil (Nat.zero_le _)
  | plain hr hp hb hg => exact ft_plain B F X T hk hroom hunits N hS hw hr (.inr ⟨_, hp, hb, hg⟩) fun l h' tk' F' N' => ret l [] 0 h' tk' F' N' .nil (Nat.zero_le _)
  | inst hr hG hn => exact ft_inst B F X T hk hroom hunits N hS hw hr hG hn ret
theorem regjj12 : True := by
  k_with "call ref" => (k_here; (with_reducible show wpAny _ _ (call (Value.ref 195) [_]) _ _ _); k_dflt (refine' ft_spec ?z166B ?z166F ?z166X ?z166T ?z166k ?z166r ?z166u ?z166N ?z166S ?z166w ?z166x0 ?_; (case z166B => k_asm); (case z166F => k_asm); (case z166X => k_asm); (case z166T => k_asm); (case z166k => first | exact rfl | assumption); (case z166r => ktr_room); (case z166u => ktr_units); (case z166N => k_asm); (case z166S => k_extra "m_subx"); (case z166w => assumption); (case z166x0 => assumption)); intro l' ts' c' h' tk' F' N' hT' hz'; (try dsimp only); (try k_sweep))
  trivial
theorem fh_spec {prog : Program} {w : World} {mean : ExcName → Option Value} {mg mb : Str → Option Value} {dp un : Nat} {gd : Option (List Code)} {cn : Str} {cs : Scope} {a₀ : Addr} {ccd : Value} {cl : List (Str × Addr)} {outer : List Env} {A₀ : Around} {base h₀ : Heap} {L : Addr} {m : Str → Option Value} {s : Shared} {Q : Value → Shared → Prop} {E : Value → Shared → Prop} {W : Sx} {news : List (Addr × Obj)} {v : Value} {ns : List Int}
    (B : Below A₀ base outer h₀) (F : Fr h₀ L s.heap m) (X : (hd.heap_39 w.params).In h₀) (T : Top hd.view_39 (looseW hd.view_39 []) mean mg mb h₀) (hk : cs.kind = .function) (hroom : dp + 60 < recursionLimit) (hunits : un + 600 < cLine)
    (N : News h₀ L s.heap news) (hS : SubL w.params W news) (hw : Wf prog w W) (hH : HomesV w.params W v ns)
    (ret : ∀ l vs c h' tk', Fr h₀ L h' m → News h₀ L h' ((l, PySem.W.listOf vs.toArray c) :: news) → IntsAre vs ns → Q (.ref l) { s with heap := h', toks := tk' }) :
    wpAny (model prog w) (ktrTop dp un gd cn cs L a₀ ccd cl outer) (call (.ref 200) [v]) Q E s := by
  refine wpAny_call ?_
  k_dflt ktr_enter
  generalize s.toks + _ = tk0
  k_with "eval ListComp" => (k_here; k_dflt (refine LCg.ListComp_U (F₀ := by k_asm) (by with_unfolding_all rfl) (by decide) (by rfl) (by decide) (by rfl) ?_))
  k_with "CompSrc" => (k_here; k_dflt (refine LCg.CompSrc.ledger (by rfl) (by k_asm) (by k_asm) (by k_extra "m_ro") (by rw [List.size_toArray, sizeLine_eq]; omega) ?_; intro g'; refine comp_ind (HJ w.params W ts' ns) (HJ.start hT') ?_ ?_))
  k_with "CompEnd" => exact LCg.CompEnd.intro (by assumption) (by assumption) _ (fun _ h => h) (by assumption) (Or.inr ⟨_, by k_extra "m_ro", rfl, _, rfl⟩) ⟨rfl, hnext _⟩
  iterate 12 (k_extra "m_step")
  focus
    intro i ys v₁ I oI C oC D m₂ h₁ tk₁ E' hJ hP hC hx F₁ N₁ off ne
    obtain ⟨ty, n, rfl, ⟨t, t', ⟨d, kt, nm, vs, ⟨ha, -⟩, ⟨hb, -⟩⟩⟩ | ⟨t, t', n', hd', t1, t2, ⟨d, kt, nm, vs, ⟨ha, -⟩, ⟨hb, -⟩⟩, ⟨d2, kt2, nm2, vs2, ⟨ha2, -⟩, ⟨hb2, -⟩⟩⟩, hnext⟩ := hJ.turn hP
    all_goals k_steps
  intro ys hJ
  all_goals k_steps
  exact ret _ _ _ _ _ (by assumption) (news_sub (by assumption) (sub_both (sub_cons fun _ h => h))) (HJ.done (ts := ts') hJ)
theorem regjj13 : True := by
  k_with "call ref" => (k_here; (with_reducible show wpAny _ _ (call (Value.ref 200) [_]) _ _ _); k_dflt (refine' fh_spec ?z167B ?z167F ?z167X ?z167T ?z167k ?z167r ?z167u ?z167N ?z167S ?z167w ?z167x0 ?_; (case z167B => k_asm); (case z167F => k_asm); (case z167X => k_asm); (case z167T => k_asm); (case z167k => first | exact rfl | assumption); (case z167r => ktr_room); (case z167u => ktr_units); (case z167N => k_asm); (case z167S => k_extra "m_subx"); (case z167w => assumption); (case z167x0 => assumption)); intro l' vs' c' h' tk' F' N' hI'; (try dsimp only); (try k_sweep))
  k_with "compareOp In int ref" => (k_here; k_dflt (refine' in_ints_W ?z168n ?z168p ?z168i ?_; (case z168n => k_asm); (case z168p => k_extra "m_ro"); (case z168i => assumption)))
  trivial
theorem shows_spec {prog : Program} {w : World} {mean : ExcName → Option Value} {mg mb : Str → Option Value} {dp un : Nat} {gd : Option (List Code)} {cn : Str} {cs : Scope} {a₀ : Addr} {ccd : Value} {cl : List (Str × Addr)} {outer : List Env} {A₀ : Around} {base h₀ : Heap} {L : Addr} {m : Str → Option Value} {s : Shared} {Q : Value → Shared → Prop} {E : Value → Shared → Prop} {W : Sx} {news : List (Addr × Obj)} {e : Addr} {k : Int} {kt : Tok} {u : UseD}
    (B : Below A₀ base outer h₀) (F : Fr h₀ L s.heap m) (X : (hd.heap_39 w.params).In h₀) (T : Top hd.view_39 (looseW hd.view_39 []) mean mg mb h₀) (hk : cs.kind = .function) (hroom : dp + 90 < recursionLimit) (hunits : un + 900 < cLine)
    (N : News h₀ L s.heap news) (hS : SubL w.params W news) (hw : Wf prog w W) (hu : UseE w.params W e u)
    (ret : ∀ h' tk', Fr h₀ L h' m → News h₀ L h' news → Q (.bool (u.shows k)) { s with heap := h', toks := tk' }) :
    wpAny (model prog w) (ktrTop dp un gd cn cs L a₀ ccd cl outer) (call (.ref 207) [.ref e, .int k kt]) Q E s := by
  refine wpAny_call ?_
  k_dflt ktr_enter
  generalize s.toks + _ = tk0
  obtain ⟨hm, ⟨rg, her, hrg, hnu, hH⟩, hd⟩ := hu
  generalize hpa : (W .pa) rg = v at hH
  unfold UseD.shows at ret
  rcases hd with ⟨hb, t, hd⟩ | ⟨hb, hd | ⟨t, hd⟩⟩
  all_goals rw [hb] at ret
  all_goals simp only [Bool.true_and, Bool.false_and] at ret
  · rcases hH.val with rfl | ⟨r, rfl⟩
    all_goals k_steps
    all_goals exact ret _ _ (by assumption) (news_sub (by assumption) (sub_cons fun _ h => h))
  · all_goals k_steps
    exact ret _ _ (by assumption) (by assumption)
  · all_goals k_steps
    have e : (Str.ofString "actuals" == Str.ofString "box") = false := by decide +kernel
    rw [e]
    exact ret _ _ (by assumption) (by assumption)
theorem encloses_spec {prog : Program} {w : World} {mean : ExcName → Option Value} {mg mb : Str → Option Value} {dp un : Nat} {gd : Option (List Code)} {cn : Str} {cs : Scope} {a₀ : Addr} {ccd : Value} {cl : List (Str × Addr)} {outer : List Env} {A₀ : Around} {base h₀ : Heap} {L : Addr} {m : Str → Option Value} {s : Shared} {Q : Value → Shared → Prop} {E : Value → Shared → Prop} {W : Sx} {news : List (Addr × Obj)} {r o : Addr} {l : List Addr}
    (B : Below A₀ base outer h₀) (F : Fr h₀ L s.heap m) (X : (hd.heap_39 w.params).In h₀) (T : Top hd.view_39 (looseW hd.view_39 []) mean mg mb h₀) (hk : cs.kind = .function) (hroom : dp + 30 < recursionLimit) (hunits : un + 300 < cLine)
    (N : News h₀ L s.heap news) (hS : SubL w.params W news) (hw : Wf prog w W) (hc : Chain W r l) (ho : o ∈ (W .rs))
    (ret : ∀ h' tk', Fr h₀ L h' m → News h₀ L h' news → Q (.bool (l.any fun a => (W .nu) a == (W .nu) o)) { s with heap := h', toks := tk' }) :
    wpAny (model prog w) (ktrTop dp un gd cn cs L a₀ ccd cl outer) (call (.ref 131) [.ref o, .ref r]) Q E s := by
  refine wpAny_call ?_
  k_dflt ktr_enter
  generalize s.toks + _ = tk0
  k_with "m_while" => (refine While_here "here" (fun v n => ∃ l', n = l'.length ∧ (v = .none ∧ l' = [] ∨ ∃ x, v = .ref x ∧ Chain W x l') ∧ (l.any fun a => (W .nu) a == (W .nu) o) = (l'.any fun a => (W .nu) a == (W .nu) o)) (by k_asm) (by k_asm) (by exact rfl) ⟨l, rfl, .inr ⟨r, rfl, hc⟩, rfl⟩ ?_; rintro v n h₁ tk₁ ⟨l', rfl, ⟨rfl, rfl⟩ | ⟨x, rfl, ⟨hm, hp⟩ | ⟨hm, hp, hb⟩⟩, hl⟩ F₁ N₁)
  k_steps
  all_goals first
    | (have e : (l.any fun a => (W .nu) a == (W .nu) o) = false := by rw [hl]; rfl
       rw [e] at ret; exact ret _ _ (by assumption) (by assumption))
    | exact HStep.intro (by assumption) (by assumption) (fun _ h => h) rfl (fun y hy => by simp [hy]) (Nat.lt_succ_self _) ⟨[], rfl, .inl ⟨rfl, rfl⟩, by rw [hl]; simp_all⟩
    | exact HStep.intro (by assumption) (by assumption) (fun _ h => h) rfl (fun y hy => by simp [hy]) (Nat.lt_succ_self _) ⟨_, rfl, .inr ⟨_, rfl, hb⟩, by rw [hl]; simp_all⟩
    | (dsimp only [HStep]
       k_steps
       have e : (l.any fun a => (W .nu) a == (W .nu) o) = true := by rw [hl]; simp_all
       rw [e] at ret; exact ret _ _ (by assumption) (by assumption))
theorem ne_nil {prog : Program} {w : World} {A : Around} {E : Value → Shared → Prop} {s : Shared} {h₀ : Heap} {L D l : Addr} {news : List (Addr × Obj)} {ys : List Value} {c n : Nat} {Q : Value → Shared → Prop} (N : News h₀ L s.heap news) (hD : (D, PySem.W.listOf ys.toArray c) ∈ news) (hl : (l, PySem.W.listOf ([] : List Value).toArray n) ∈ news)
    (hu : A.units + 64 < cLine) (h : Q (.bool (!ys.isEmpty)) s) : wpAny (model prog w) A (compareOp .NotEq (.ref D) (.ref l)) Q E s := by
  cases ys with
  | nil => exact ke_ne_ints (isList_news N hD) (isList_news N hl) .nil .nil hu h
  | cons y ys => exact PySem.SeqAt.RcNeAt.lists_lengths (isList_news N hD) (isList_news N hl) (by simp) (by omega) prog w E Q h
theorem comp_indT {prog : Program} {w : World} {A : Around} {h₀ : Heap} {L : Addr} {m : Str → Option Value} {env : Env} {ct elt : PySem.Expr} {x : Str} {scope : Scope} {cl : List (Str × Addr)} {s : Shared} {S : List (Addr × Obj) → Prop} {P : Nat → Value → Prop} {Fin : List Value → List (Addr × Obj) → Prop} {n : Nat} {news : List (Addr × Obj)}
    (J : Nat → List Value → Prop) (h0 : J 0 [])
    (turn : ∀ i ys v I oI C oC D m₂ h tk (E' : Value → Shared → Prop), J i ys → P i v → LCg.NsObj oC m₂ → m₂ x = some v → Fr h₀ L h m → News h₀ L h ((I, oI) :: (C, oC) :: (D, LCg.lst ys) :: news) → LCg.Off3 I C D news → ((@Ne Nat I C) ∧ (@Ne Nat I D) ∧ (@Ne Nat C D)) →
      wpAny (model prog w) A (isTrue ct (compEnvC scope cl C env) (eval ct (compEnvC scope cl C env))) (fun ok s' => if ok = true then
        wpAny (model prog w) A (eval elt (compEnvC scope cl C env)) (LCg.CompEnd h₀ L m { s with heap := h, toks := tk } I oI C oC D (LCg.lst ys) S (fun y news' => news' = news ∧ J (i + 1) (ys ++ [y]))) E' s'
        else LCg.CompEnd h₀ L m { s with heap := h, toks := tk } I oI C oC D (LCg.lst ys) S (fun _ news' => news' = news ∧ J (i + 1) ys) Value.none s') E' { s with heap := h, toks := tk })
    (fin : ∀ ys, J n ys → Fin ys news) : LCt.CompRestT prog w A h₀ L m env ct elt x scope cl s S P Fin n 0 [] news := by
  have key : ∀ k i ys, i + k = n → J i ys → LCt.CompRestT prog w A h₀ L m env ct elt x scope cl s S P Fin k i ys news := by
    intro k
    induction k with
    | zero => intro i ys e hJ; have : i = n := by omega
              subst this; exact fin ys hJ
    | succ k ih =>
      intro i ys e hJ v I oI C oC D m₂ h tk E' hP hC hx F N o ne
      refine wpAny_mono (turn i ys v I oI C oC D m₂ h tk E' hJ hP hC hx F N o ne) (fun ok s' hE => ?_) fun _ _ h => h
      cases ok with
      | true =>
        simp only [if_true] at hE ⊢
        refine wpAny_mono hE (fun y s'' hE => CompEnd.mono hE fun y n' hr => ?_) fun _ _ h => h
        obtain ⟨rfl, hJ'⟩ := hr
        exact ih (i + 1) _ (by omega) hJ'
      | false =>
        simp only [Bool.false_eq_true, if_false] at hE ⊢
        refine CompEnd.mono hE fun y n' hr => ?_
        obtain ⟨rfl, hJ'⟩ := hr
        exact ih (i + 1) _ (by omega) hJ'
  exact key n 0 [] (by omega) h0
inductive UsesL (P : Params) (W : Sx) : List Value → List UseD → Prop
  | nil : UsesL P W [] []
  | cons {e u vs us} : UseE P W e u → UsesL P W vs us → UsesL P W (.ref e :: vs) (u :: us)
structure UJ (P : Params) (W : Sx) (f : UseD → Bool) (vs : List Value) (us : List UseD) (i : Nat) (ys : List Value) : Prop where
  h : ∃ u2, UsesL P W (vs.drop i) u2 ∧ us.any f = (!ys.isEmpty || u2.any f)
theorem UJ.start {P : Params} {W : Sx} {f : UseD → Bool} {vs : List Value} {us : List UseD} (h : UsesL P W vs us) : UJ P W f vs us 0 [] := ⟨us, h, rfl⟩
theorem UJ.turn {P : Params} {W : Sx} {f : UseD → Bool} {vs ys : List Value} {us : List UseD} {i : Nat} {v : Value} (h : UJ P W f vs us i ys) (hv : vs.toArray[i]? = some v) :
    ∃ e u, v = .ref e ∧ UseE P W e u ∧ (f u = true → ∀ y, UJ P W f vs us (i + 1) (ys ++ [y])) ∧ (f u = false → UJ P W f vs us (i + 1) ys) := by
  obtain ⟨u2, b, e⟩ := h.h
  have hv' : vs[i]? = some v := by simpa using hv
  obtain ⟨hi, ev⟩ := List.getElem?_eq_some_iff.mp hv'
  rw [List.drop_eq_getElem_cons hi, ev] at b
  cases b with
  | @cons e' u _ us' hk hr =>
    refine ⟨e', u, rfl, hk, fun hf y => ⟨us', hr, ?_⟩, fun hf => ⟨us', hr, ?_⟩⟩
    · rw [e]; simp [hf]
    · rw [e]; simp [hf]
theorem UJ.done {P : Params} {W : Sx} {f : UseD → Bool} {vs ys : List Value} {us : List UseD} (h : UJ P W f vs us vs.length ys) : (!ys.isEmpty) = us.any f := by
  obtain ⟨u2, b, e⟩ := h.h
  rw [List.drop_length] at b
  cases b
  rw [e]; simp
theorem UsesL.len {P : Params} {W : Sx} {vs : List Value} {us : List UseD} (h : UsesL P W vs us) : vs.length = us.length := by
  induction h with
  | nil => rfl
  | cons _ _ ih => simp [ih]
structure SeenD where
  ut : List Int
  ho : List Int
  us : List UseD
structure Seen (P : Params) (W : Sx) (a : Addr) (d : SeenD) : Prop where
  ut : IntsAre ((W .l3) a) d.ut
  ho : HomesV P W (.ref a) d.ho
  us : UsesL P W ((W .l2) a) d.us
  few : d.us.length ≤ 2
inductive SC (P : Params) (W : Sx) : Addr → List Addr → List SeenD → Prop
  | top {a d} : a ∈ (W .rs) → (W .pa) a = .none → Seen P W a d → SC P W a [a] [d]
  | up {a b l d ds} : a ∈ (W .rs) → (W .pa) a = .ref b → Seen P W a d → SC P W b l ds → SC P W a (a :: l) (d :: ds)
theorem SC.chain {P : Params} {W : Sx} {a : Addr} {l : List Addr} {ds : List SeenD} (h : SC P W a l ds) : Chain W a l := by
  induction h with
  | top a b _ => exact .top a b
  | up a b _ _ ih => exact .up a b ih
theorem SC.mem {P : Params} {W : Sx} {a : Addr} {l : List Addr} {ds : List SeenD} (h : SC P W a l ds) : a ∈ (W .rs) := by cases h <;> assumption
noncomputable def SeenD.tells (k hn : Int) (vis : Bool) (d : SeenD) : Bool := d.ut.any (· == k) || d.ho.any (· == k) || d.us.any (·.shows k) || (vis && d.us.any (fun u => u.rn == hn))
noncomputable def seesB (k hn : Int) (vis : Bool) (ds : List SeenD) : Bool := ds.any (SeenD.tells k hn vis)
inductive SI (P : Params) (W : Sx) (k hn : Int) (vis : Bool) (ds : List SeenD) : Value → Nat → Prop
  | on (a : Addr) (d : SeenD) (ds' : List SeenD) (n : Nat) : a ∈ (W .rs) → Seen P W a d → ((W .pa) a = .none ∧ ds' = [] ∧ n = 1 ∨ ∃ b l, (W .pa) a = .ref b ∧ SC P W b l ds' ∧ n = ds'.length + 1) → seesB k hn vis ds = seesB k hn vis (d :: ds') → SI P W k hn vis ds (.ref a) n
  | off (n : Nat) : n = 0 → seesB k hn vis ds = false → SI P W k hn vis ds .none n
theorem SI.of {P : Params} {W : Sx} {k hn : Int} {vis : Bool} {ds ds' : List SeenD} {a : Addr} {l : List Addr} (h : SC P W a l ds') (e : seesB k hn vis ds = seesB k hn vis ds') : SI P W k hn vis ds (.ref a) ds'.length := by
  cases h with
  | top a b c => exact .on _ _ _ _ a c (.inl ⟨b, rfl, rfl⟩) e
  | up a b c d => exact .on _ _ _ _ a c (.inr ⟨_, _, b, d, rfl⟩) e
theorem seesB_hit {k hn : Int} {vis : Bool} {ds ds' : List SeenD} {d : SeenD} (e : seesB k hn vis ds = seesB k hn vis (d :: ds')) (h : d.tells k hn vis = true) : seesB k hn vis ds = true := by
  rw [e]; unfold seesB; rw [List.any_cons, h]; rfl
theorem seesB_miss {k hn : Int} {vis : Bool} {ds ds' : List SeenD} {d : SeenD} (e : seesB k hn vis ds = seesB k hn vis (d :: ds')) (h : d.tells k hn vis = false) : seesB k hn vis ds = seesB k hn vis ds' := by
  rw [e]; unfold seesB; rw [List.any_cons, h]; rfl
theorem storeName_cell {M : Model} {A : Around} {E : Value → Shared → Prop} {s : Shared} {env : Env} {name : Str} {c : Addr} {v₀ : Option Value} {v : Value} {Q : Unit → Shared → Prop} (hk : env.scope.kind = .function) (hl : env.kindOf name = some .cell)
    (hc : env.cells.lookup name = some c) (hv : s.heap.IsCell c v₀)
    (h : ∀ h', h'.IsCell c (some v) → Heap.SameBut c s.heap h' → Q () { s with heap := h' }) : wpAny M A (storeName env name v) Q E s := by
  unfold storeName
  simp only [hl, hk]
  exact wpAny_bind (wpAny_cellOf hc (wpAny_cellSet hv h))
theorem storeC {M : Model} {A : Around} {E : Value → Shared → Prop} {s : Shared} {h₀ : Heap} {L : Addr} {m : Str → Option Value} {env : Env} {x : Str} {v : Value} {news : List (Addr × Obj)} {g : Obj → List (Addr × Obj)} {c : Addr} {o : Obj} {v₀ : Option Value} {Q : Unit → Shared → Prop}
    (F : Fr h₀ L s.heap m) (N : News h₀ L s.heap news) (hc : env.cells.lookup x = some c) (U : UpdF c o news g) (hd : o.data = .cell v₀)
    (h : ∀ h' o', Fr h₀ L h' m → News h₀ L h' (g o') → o'.data = .cell (some v) → Q () { s with heap := h' })
    (hk : env.scope.kind = .function) (hx : env.kindOf x = some .cell) : wpAny M A (storeName env x v) Q E s := by
  obtain ⟨own, rest, rfl, hg, h1, h2⟩ := U.split
  have hmem := N (c, o) (List.mem_append_right _ (.head _))
  refine storeName_cell hk hx hc ⟨o, hmem.1, hd⟩ fun h' hv hs => ?_
  obtain ⟨o', ho', hd'⟩ := hv
  refine h h' o' ⟨F.ns.sameBut hs (Ne.symm hmem.2.1), fun b ob e => (hs.2 b (fun q => ?_)).trans (F.keep b ob e), F.above⟩ (hg o' ▸ N.setAt h1 h2 hs ho') hd'
  rw [q, hmem.2.2] at e; cases e
theorem allne_cons {t : Addr × Obj} {l : List (Addr × Obj)} {c : Addr} (h : t.1 ≠ c) (h' : ∀ p ∈ l, p.1 ≠ c) : ∀ p ∈ t :: l, p.1 ≠ c := fun p hp => by
  rcases List.mem_cons.mp hp with rfl | hp
  · exact h
  · exact h' p hp
theorem allne_lt {l : List (Addr × Obj)} {L' : Addr} {c : Nat} (h : ∀ p ∈ l, p.1 < L') (hc : @LE.le Nat _ L' c) : ∀ p ∈ l, p.1 ≠ c := fun p hp => Nat.ne_of_lt (Nat.lt_of_lt_of_le (h p hp) hc)
section
variable {d : SeenD} {k hn : Int} {vis : Bool} {ys ys' : List Value}
theorem tells_ut (h : (d.ut.any fun x => x == k) = true) : d.tells k hn vis = true := by unfold SeenD.tells; rw [h]; rfl
theorem tells_ho (h : (d.ho.any fun x => x == k) = true) : d.tells k hn vis = true := by unfold SeenD.tells; rw [h]; simp
theorem tells_us (h : (!ys.isEmpty) = d.us.any fun u => u.shows k) (e : ys.isEmpty = false) : d.tells k hn vis = true := by unfold SeenD.tells; rw [← h, e]; simp
theorem tells_rn (h : (!ys.isEmpty) = d.us.any fun u => u.rn == hn) (e : ys.isEmpty = false) (hv : vis = true) : d.tells k hn vis = true := by unfold SeenD.tells; rw [← h, e, hv]; simp
theorem tells_not (h1 : (d.ut.any fun x => x == k) = false) (h2 : (d.ho.any fun x => x == k) = false) (h : (!ys.isEmpty) = d.us.any fun u => u.shows k) (e : ys.isEmpty = true) (hv : vis = false) : d.tells k hn vis = false := by
  unfold SeenD.tells; rw [h1, h2, ← h, e, hv]; rfl
theorem tells_not' (h1 : (d.ut.any fun x => x == k) = false) (h2 : (d.ho.any fun x => x == k) = false) (h : (!ys.isEmpty) = d.us.any fun u => u.shows k) (e : ys.isEmpty = true) (h' : (!ys'.isEmpty) = d.us.any fun u => u.rn == hn) (e' : ys'.isEmpty = true) : d.tells k hn vis = false := by
  unfold SeenD.tells; rw [h1, h2, ← h, ← h', e, e']; simp
end
theorem UJ.hit {P : Params} {W : Sx} {vs ys : List Value} {us : List UseD} {i : Nat} {u : UseD} {rg : Addr} {hn : Int} (h1 : (u.rn == hn) = true → ∀ y, UJ P W (fun u => u.rn == hn) vs us (i + 1) (ys ++ [y])) (hr : (W .nu) rg = u.rn) (a : (W .nu) rg = hn) (y : Value) : UJ P W (fun u => u.rn == hn) vs us (i + 1) (ys ++ [y]) := h1 (by rw [← hr, a]; simp) y
theorem UJ.not {P : Params} {W : Sx} {vs ys : List Value} {us : List UseD} {i : Nat} {u : UseD} {rg : Addr} {hn : Int} (h1 : (u.rn == hn) = false → UJ P W (fun u => u.rn == hn) vs us (i + 1) ys) (hr : (W .nu) rg = u.rn) (a : ¬ (W .nu) rg = hn) : UJ P W (fun u => u.rn == hn) vs us (i + 1) ys := h1 (by rw [← hr]; simpa using a)
theorem regjj14 : True := by
  k_with "m_ro" => (first
      | with_reducible_and_instances exact List.Mem.head _
      | exact SubL.ri (by with_reducible assumption) (by with_reducible assumption) | exact SubL.rd (by with_reducible assumption) (by with_reducible assumption) | exact SubL.ei (by with_reducible assumption) (by with_reducible assumption) | exact SubL.ed (by with_reducible assumption) (by with_reducible assumption)
      | exact SubL.r0 (by with_reducible assumption) (by with_reducible assumption) | exact SubL.r2 (by with_reducible assumption) (by with_reducible assumption) (by with_reducible assumption) | exact SubL.r3 (by with_reducible assumption) (by with_reducible assumption) (by with_reducible assumption) | exact SubL.r2 (by with_reducible assumption) (by with_reducible assumption) rfl | exact SubL.r3 (by with_reducible assumption) (by with_reducible assumption) rfl | exact SubL.r5 (by with_reducible assumption) (by with_reducible assumption)
      | exact SubL.ms (by with_reducible assumption) (by with_reducible assumption)
      | (with_reducible_and_instances refine' List.Mem.tail _ ?_; k_extra "m_ro"))
  k_with "call ref" => (k_here; (with_reducible show wpAny _ _ (call (Value.ref 131) [_, _]) _ _ _); k_dflt (refine' encloses_spec ?z170B ?z170F ?z170X ?z170T ?z170k ?z170r ?z170u ?z170N ?z170S ?z170w ?z170x0 ?z170x1 ?_; (case z170B => k_asm); (case z170F => k_asm); (case z170X => k_asm); (case z170T => k_asm); (case z170k => first | exact rfl | assumption); (case z170r => ktr_room); (case z170u => ktr_units); (case z170N => k_asm); (case z170S => k_extra "m_subx"); (case z170w => assumption); (case z170x0 => assumption); (case z170x1 => assumption)); intro h' tk' F' N'; (try dsimp only); (try k_sweep))
  k_with "call ref" => (k_here; (with_reducible show wpAny _ _ (call (Value.ref 207) [_, _]) _ _ _); k_dflt (refine' shows_spec ?z171B ?z171F ?z171X ?z171T ?z171k ?z171r ?z171u ?z171N ?z171S ?z171w ?z171x0 ?_; (case z171B => k_asm); (case z171F => k_asm); (case z171X => k_asm); (case z171T => k_asm); (case z171k => first | exact rfl | assumption); (case z171r => ktr_room); (case z171u => ktr_units); (case z171N => k_asm); (case z171S => k_extra "m_subx"); (case z171w => assumption); (case z171x0 => assumption)); intro h' tk' F' N'; (try dsimp only); (try k_sweep))
  k_with "compareOp NotIn int ref" => (k_here; k_dflt (refine' kdg_notin (knd := PySem.intKind _ _) ?z172n ?z172p ?z172d ?z172l (intKind_is _ _ _ _) ?z172b ?z172v ?_; (case z172n => k_asm); (case z172p => k_extra "m_ro"); (case z172d => k_extra "m_isd"); (case z172l => k_extra "m_low"); (case z172v => exact congrArg Option.isSome hv)); (try dsimp only [Option.isSome_none, Option.isSome_some, Bool.not_true, Bool.not_false]))
  k_with "subscriptTail" => (k_here; (with_reducible show wpAny _ _ (subscriptTail _ _ (Value.ref ((_ : Sx) Fld.a5 _)) (Value.int _ _)) _ _ _); k_dflt (refine' kda_item (knd := PySem.intKind _ _) ?z173n ?z173p ?z173d (intKind_is _ _ _ _) ?z173v ?_; (case z173n => k_asm); (case z173p => k_extra "m_ro"); (case z173d => k_extra "m_isd"); (case z173v => assumption)))
  k_with "m_allne" => first | exact allne_lt (by assumption) (by omega) | (refine allne_cons (by k_ne) ?_; k_extra "m_allne")
  k_with "m_updF" => first | (refine' UpdF.head ?z175a; (case z175a => k_extra "m_allne")) | (refine' UpdF.tail ?z175a ?z175b; (case z175a => k_ne); (case z175b => k_extra "m_updF"))
  k_with "storeName" => (k_here; k_dflt (refine' storeC ?z176F ?z176N ?z176c ?z176U ?z176d ?_ ?z176a ?z176b; (case z176a => exact rfl); (case z176b => exact rfl); (case z176F => k_asm); (case z176N => k_asm); (case z176c => exact rfl); (case z176U => k_extra "m_updF"); (case z176d => k_asm); k_whole); intro h' o' F' N' d'; (try dsimp only at N'); (try k_sweep))
  k_with "compareOp NotEq ref ref" => (k_here; k_dflt (refine ne_nil (by k_asm) (by k_extra "m_ro") (by k_extra "m_ro") (by ke_room) ?_))
  k_with "subscriptTail" => (k_here; (fail_if_success (with_reducible show wpAny _ _ (subscriptTail (PySem.Expr.Name _ _) _ _ _) _ _ _)); k_dflt (refine kba_turn (value' := PySem.Expr.Name (PySem.Str.ofString "_") ⟨0, 0, 0, 0⟩) (fun _ => rfl) ?_))
  trivial
theorem sees_none {prog : Program} {w : World} {mean : ExcName → Option Value} {mg mb : Str → Option Value} {dp un : Nat} {gd : Option (List Code)} {cn : Str} {cs : Scope} {a₀ : Addr} {ccd : Value} {cl : List (Str × Addr)} {outer : List Env} {A₀ : Around} {base h₀ : Heap} {L : Addr} {m : Str → Option Value} {s : Shared} {Q : Value → Shared → Prop} {E : Value → Shared → Prop} {W : Sx} {news : List (Addr × Obj)} {r : Addr} {k : Int} {kt : Tok}
    (B : Below A₀ base outer h₀) (F : Fr h₀ L s.heap m) (X : (hd.heap_39 w.params).In h₀) (T : Top hd.view_39 (looseW hd.view_39 []) mean mg mb h₀) (hk : cs.kind = .function) (hroom : dp + 120 < recursionLimit) (hunits : un + 1200 < cLine)
    (N : News h₀ L s.heap news) (hS : SubL w.params W news) (hw : Wf prog w W) (hr : r ∈ (W .rs)) (hv : valueAt ((W .k5) ((W .ro) r)) k = none)
    (ret : ∀ h' tk', Fr h₀ L h' m → News h₀ L h' news → Q (.bool true) { s with heap := h', toks := tk' }) :
    wpAny (model prog w) (ktrTop dp un gd cn cs L a₀ ccd cl outer) (call (.ref 212) [.ref r, .int k kt]) Q E s := by
  refine wpAny_call ?_
  k_dflt (k_extra "m_enterC")
  have hro := hw.root r hr
  k_steps
  all_goals exact ret _ _ (by assumption) (news_sub (by assumption) (sub_cons (sub_cons fun _ h => h)))
theorem sees_spec {prog : Program} {w : World} {mean : ExcName → Option Value} {mg mb : Str → Option Value} {dp un : Nat} {gd : Option (List Code)} {cn : Str} {cs : Scope} {a₀ : Addr} {ccd : Value} {cl : List (Str × Addr)} {outer : List Env} {A₀ : Around} {base h₀ : Heap} {L : Addr} {m : Str → Option Value} {s : Shared} {Q : Value → Shared → Prop} {E : Value → Shared → Prop} {W : Sx} {news : List (Addr × Obj)} {r tp hm : Addr} {k : Int} {kt : Tok} {pt : Str} {ptt : Tok} {l : List Addr} {ds : List SeenD}
    (B : Below A₀ base outer h₀) (F : Fr h₀ L s.heap m) (X : (hd.heap_39 w.params).In h₀) (T : Top hd.view_39 (looseW hd.view_39 []) mean mg mb h₀) (hk : cs.kind = .function) (hroom : dp + 120 < recursionLimit) (hunits : un + 1200 < cLine)
    (N : News h₀ L s.heap news) (hS : SubL w.params W news) (hw : Wf prog w W) (hc : SC w.params W r l ds) (hv : valueAt ((W .k5) ((W .ro) r)) k = some (.ref tp)) (htp : (tp, ({ cls := .type "tuple", data := .seq #[.ref hm, .str pt ptt] } : Obj)) ∈ (W .ms)) (hhm : hm ∈ (W .rs))
    (ret : ∀ h' tk', Fr h₀ L h' m → News h₀ L h' news → Q (.bool ((l.any fun a => (W .nu) a == (W .nu) hm) || seesB k ((W .nu) hm) (pt == Str.ofString "visible") ds)) { s with heap := h', toks := tk' }) :
    wpAny (model prog w) (ktrTop dp un gd cn cs L a₀ ccd cl outer) (call (.ref 212) [.ref r, .int k kt]) Q E s := by
  refine wpAny_call ?_
  k_dflt (k_extra "m_enterC")
  have hr := hc.mem
  have hro := hw.root r hr
  have hch := hc.chain
  k_with "eval ListComp" => (k_here; k_dflt (refine LCt.ListComp_T (F₀ := by k_asm) (by with_unfolding_all rfl) (by decide) (by rfl) (by decide) (by rfl) ?_))
  k_with "m_while" => (refine While_here "here" (SI w.params W k ((W .nu) hm) (pt == Str.ofString "visible") ds) (by k_asm) (by k_asm) (by exact rfl) (SI.of hc rfl) ?_; rintro v n h₁ tk₁ (⟨x, d, ds', n', hx, ⟨hut, hho, hus, hfew⟩, hpa, hB⟩ | ⟨n', hn0, hB⟩) F₁ N₁)
  k_with "CompSrcT" => (k_here; (with_reducible show LCt.CompSrcT _ _ _ _ _ _ _ (PySem.Expr.Call _ _ _ _) _ _ _ _ _ _ _); k_dflt (refine LCt.CompSrcT.ledger (by rfl) (by k_asm) (by k_asm) (by k_extra "m_ro") (by rw [List.size_toArray, sizeLine_eq, hus.len]; omega) ?_); intro g'; refine comp_indT (UJ w.params W (fun u => u.shows k) ((W .l2) x) d.us) (UJ.start hus) ?_ ?_; (focus (intro i ys v₁ I oI C oC D m₂ h₁ tk₁ E' hJ hP hC hx F₁ N₁ off ne; obtain ⟨e, u, rfl, hu, hj1, hj2⟩ := hJ.turn hP)); rotate_left; (intro ys1 hJ1; have hD1 := UJ.done hJ1); rotate_right)
  k_with "CompSrcT" => (k_here; (with_reducible show LCt.CompSrcT _ _ _ _ _ _ _ (PySem.Expr.Compare _ _ _ _) _ _ _ _ _ _ _); k_dflt (refine LCt.CompSrcT.ledger (by rfl) (by k_asm) (by k_asm) (by k_extra "m_ro") (by rw [List.size_toArray, sizeLine_eq, hus.len]; omega) ?_); intro g'; refine comp_indT (UJ w.params W (fun u => u.rn == (W .nu) hm) ((W .l2) x) d.us) (UJ.start hus) ?_ ?_; (focus (intro i ys v₁ I oI C oC D m₂ h₁ tk₁ E' hJ hP hC hx F₁ N₁ off ne; obtain ⟨e, u, rfl, ⟨hum, ⟨rg, her, hrg, hnu, -⟩, -⟩, hj1, hj2⟩ := hJ.turn hP)); rotate_left; (intro ys2 hJ2; have hD2 := UJ.done hJ2); rotate_right)
  k_with "getAttr ref" => (k_here; (with_reducible show wpAny _ _ (getAttr (Value.ref _) (Str.ofString "parent") _) _ _ _); rcases hpa with ⟨hpa, rfl, rfl⟩ | ⟨b, l', hpa, hsc, rfl⟩)
  k_steps
  all_goals first
    | exact hj1 (by assumption) _
    | exact hj2 (by assumption)
    | exact UJ.hit hj1 hnu (by assumption) _
    | exact UJ.not hj2 hnu (by assumption)
    | skip
  · have e : (l.any fun a => (W .nu) a == (W .nu) hm) = true := by assumption
    rw [e] at ret
    exact ret _ _ (by assumption) (news_sub (by assumption) (sub_cons (sub_cons fun _ h => h)))
  all_goals have e : (l.any fun a => (W .nu) a == (W .nu) hm) = false := by assumption
  all_goals rw [e] at ret
  all_goals first
    | (have e2 : SeenD.tells k ((W .nu) hm) (pt == Str.ofString "visible") d = true := (by first | exact tells_ut (by assumption) | exact tells_ho (by assumption) | exact tells_us hD1 (by assumption) | exact tells_rn hD2 (by assumption) (by assumption))
       have e3 := seesB_hit hB e2
       rw [e3] at ret
       dsimp only [HStep]
       k_steps
       exact ret _ _ (by assumption) (news_sub (by assumption) (by k_extra "m_sub")))
    | (have e2 : SeenD.tells k ((W .nu) hm) (pt == Str.ofString "visible") d = false := (by first | exact tells_not (by assumption) (by assumption) hD1 (by assumption) (by assumption) | exact tells_not' (by assumption) (by assumption) hD1 (by assumption) hD2 (by assumption))
       have e3 := seesB_miss hB e2
       first
         | exact HStep.intro (by assumption) (by assumption) (by k_extra "m_sub") rfl (fun y hy => by simp only [hy, if_false]) (Nat.lt_succ_self _) (SI.off _ rfl e3)
         | exact HStep.intro (by assumption) (by assumption) (by k_extra "m_sub") rfl (fun y hy => by simp only [hy, if_false]) (Nat.lt_succ_self _) (SI.of hsc e3))
    | (rw [hB] at ret
       exact ret _ _ (by assumption) (news_sub (by assumption) (sub_cons (sub_cons fun _ h => h))))
    | skip
theorem root_spec {prog : Program} {w : World} {mean : ExcName → Option Value} {mg mb : Str → Option Value} {dp un : Nat} {gd : Option (List Code)} {cn : Str} {cs : Scope} {a₀ : Addr} {ccd : Value} {cl : List (Str × Addr)} {outer : List Env} {A₀ : Around} {base h₀ : Heap} {L : Addr} {m : Str → Option Value} {s : Shared} {Q : Value → Shared → Prop} {E : Value → Shared → Prop} {W : Sx} {kt : Tok}
    (B : Below A₀ base outer h₀) (F : Fr h₀ L s.heap m) (X : (hd.heap_39 w.params).In h₀) (T : Top hd.view_39 (looseW hd.view_39 []) mean mg mb h₀) (hk : cs.kind = .function) (hroom : dp + 20 < recursionLimit) (hunits : un + 200 < cLine)
    (N : News h₀ L s.heap (led w.params W)) (hw : Wf prog w W)
    (ret : ∀ x R h' tk', Fr h₀ L h' m → News h₀ L h' (led w.params (W.addR x R)) → Wf prog w (W.addR x R) → x ∉ addrs W → R.kd = "root" → R.ow = .none → R.pa = .none → R.ro = x → R.nu = 1 → R.mc = 1 → R.ge = .none → Q (.ref x) { s with heap := h', toks := tk' }) :
    wpAny (model prog w) (ktrTop dp un gd cn cs L a₀ ccd cl outer) (call (.ref 106) [.str "root" kt, .none, .none]) Q E s := by
  k_steps
  all_goals (
    have z := reg_end (R := ⟨_, tok17 _ _ _ _ _ _ _ _ _ _ _ _ _ _ _ 0 0, _, _, _, _, _, _, _, _, _, _, _, _, _, _, _, _, _, _, _, _, _, _, _⟩) (by assumption) (by assumption) ⟨rfl, rfl, rfl, rfl, rfl, rfl, rfl, rfl, rfl, rfl⟩ (by rfl) (by assumption) rfl (by assumption) (by first | k_extra "m_lt" | ((try dsimp only); omega)) (by first | k_extra "m_lt" | ((try dsimp only); omega)) (by first | k_extra "m_lt" | ((try dsimp only); omega)) (by first | k_extra "m_lt" | ((try dsimp only); omega)) (by first | k_extra "m_lt" | ((try dsimp only); omega)) (by first | k_extra "m_lt" | ((try dsimp only); omega)) (.inl rfl) (by assumption) (by assumption) (by assumption)
    exact ret _ _ _ _ (by assumption) z.1 z.2.1 z.2.2 rfl rfl rfl rfl rfl rfl rfl)
theorem regjj15 : True := by
  k_with "call ref" => (k_here; (with_reducible show wpAny _ _ (call (Value.ref 106) [Value.str (Str.ofString "root") _, Value.none, Value.none]) _ _ _); k_dflt (refine' root_spec ?z179B ?z179F ?z179X ?z179T ?z179k ?z179r ?z179u (Fold'.nws ?z179S ?z179N) (Fold'.wf ?z179S ?z179w) ?_; (case z179B => k_asm); (case z179F => k_asm); (case z179X => k_asm); (case z179T => k_asm); (case z179k => first | exact rfl | assumption); (case z179r => ktr_room); (case z179u => ktr_units); (case z179N => k_asm); (case z179S => k_extra "m_fold"); (case z179w => assumption)); intro x' R' h' tk' F' N' hw' hx' q1 q2 q3 q4 q5 q6 q7; (try dsimp only); (try k_sweep))
  trivial
theorem open_root_spec {prog : Program} {w : World} {mean : ExcName → Option Value} {mg mb : Str → Option Value} {dp un : Nat} {gd : Option (List Code)} {cn : Str} {cs : Scope} {a₀ : Addr} {ccd : Value} {cl : List (Str × Addr)} {outer : List Env} {A₀ : Around} {base h₀ : Heap} {L : Addr} {m : Str → Option Value} {s : Shared} {Q : Value → Shared → Prop} {E : Value → Shared → Prop} {W : Sx} {kt : Tok}
    (B : Below A₀ base outer h₀) (F : Fr h₀ L s.heap m) (X : (hd.heap_39 w.params).In h₀) (T : Top hd.view_39 (looseW hd.view_39 []) mean mg mb h₀) (hk : cs.kind = .function) (hroom : dp + 30 < recursionLimit) (hunits : un + 300 < cLine)
    (N : News h₀ L s.heap (led w.params W)) (hw : Wf prog w W)
    (ret : ∀ x R h' tk', Fr h₀ L h' m → News h₀ L h' (led w.params (W.addR x R)) → Wf prog w (W.addR x R) → x ∉ addrs W → R.kd = "root" → R.ow = .none → R.pa = .none → R.ro = x → R.nu = 1 → R.mc = 1 → R.ge = .none → Q (.ref x) { s with heap := h', toks := tk' }) :
    wpAny (model prog w) (ktrTop dp un gd cn cs L a₀ ccd cl outer) (call (.ref 117) [.str "root" kt, .none, .none]) Q E s := by
  refine wpAny_call ?_
  k_dflt ktr_enter
  k_steps
  all_goals exact ret _ _ _ _ (by assumption) (by assumption) (by assumption) (by assumption) (by assumption) (by assumption) (by assumption) (by assumption) (by assumption) (by assumption) (by assumption)
structure CellJ (i : Nat) (ys : List Value) : Prop where
  hlen : ys.length = i
  hints : ∃ ns, IntsAre ys ns
theorem CellJ.start : CellJ 0 [] := ⟨rfl, [], .nil⟩
theorem CellJ.snoc {i : Nat} {ys : List Value} {n : Int} {t : Tok} (h : CellJ i ys) : CellJ (i + 1) (ys ++ [.int n t]) := by
  obtain ⟨a, ns, b⟩ := h
  exact ⟨by simp [a], ns ++ [n], ints_snoc' b⟩
theorem ints_any {vs : List Value} {ns : List Int} {i : Nat} {v : Value} (h : IntsAre vs ns) (hv : vs.toArray[i]? = some v) : ∃ n t, v = .int n t := by
  have hv' : vs[i]? = some v := by simpa using hv
  clear hv
  induction h generalizing i with
  | nil => cases hv'
  | cons n t _ ih =>
    cases i with
    | zero => cases hv'; exact ⟨_, _, rfl⟩
    | succ i => exact ih hv'
theorem enough {P : Shared → Prop} (Mid : Shared → Prop) {s : Shared} (h : Mid s) (k : ∀ s, Mid s → P s) : P s := k s h
theorem cut_body {α : Type} {M : Model} {A : Around} {T : Sem α} {Q : α → Shared → Prop} {E : Value → Shared → Prop} {s : Shared} (Mid : α → Shared → Prop) (h1 : wpAny M A T Mid E s) (h2 : ∀ a s', Mid a s' → Q a s') : wpAny M A T Q E s := wpAny_mono h1 h2 fun _ _ h => h
section
variable {prog : Program} {w : World} {A : Around} {E : Value → Shared → Prop} {s : Shared} {h₀ : Heap} {L c : Addr} {m : Str → Option Value} {news : List (Addr × Obj)} {o : Obj} {W W₁ : Sx}
theorem take_M {h : Heap} (N : News h₀ L h news) (S : Fold' w.params W news W₁) (hw : Wf prog w W) (hl : (c, o) ∈ (W₁ .ms)) :
    News h₀ L h ((c, o) :: led w.params (W₁.delM c)) ∧ (∀ p ∈ led w.params (W₁.delM c), p.1 ≠ c) ∧ (∀ o' h', News h₀ L h' ((c, o') :: led w.params (W₁.delM c)) → News h₀ L h' (led w.params ((W₁.delM c).addM (c, o')))) ∧ ∀ o', Wf prog w ((W₁.delM c).addM (c, o')) := by
  have hw1 := S.wf hw
  have ho := off_delM hw1 hl
  refine ⟨news_sub (S.nws N) fun p hp => ?_, fun p hp e => ?_, fun o' h' N' => news_sub N' fun p hp => ?_, fun o' => wf_addM (wf_delM hw1) ho⟩
  · rcases List.mem_cons.mp hp with rfl | hp
    · exact mem_ms hl
    · exact led_delM hp
  · have z := mem_addrs hp
    rw [e] at z
    exact ho z
  · rcases led_addM hp with e | h
    · exact e ▸ .head _
    · exact .tail _ h
theorem run_cellM {env : Env} {x : Str} {v : Value} {v₀ : Option Value} {Q : Unit → Shared → Prop} (F : Fr h₀ L s.heap m) (N : News h₀ L s.heap news) (S : Fold' w.params W news W₁) (hw : Wf prog w W) (hc : env.cells.lookup x = some c) (hl : (c, o) ∈ (W₁ .ms)) (hd : o.data = .cell v₀)
    (h : ∀ h' o', Fr h₀ L h' m → News h₀ L h' (led w.params ((W₁.delM c).addM (c, o'))) → Wf prog w ((W₁.delM c).addM (c, o')) → o'.data = .cell (some v) → Q () { s with heap := h' })
    (hk : env.scope.kind = .function) (hx : env.kindOf x = some .cell) : wpAny (model prog w) A (storeName env x v) Q E s := by
  obtain ⟨N1, a, b, d⟩ := take_M N S hw hl
  exact storeC F N1 hc (UpdF.head a) hd (fun h' o' F' N' hd' => h h' o' F' (b o' h' N') (d o') hd') hk hx
theorem run_setM {kvs : List (Int × Value)} {k : Int} {t : Tok} {v : Value} {Q : Unit → Shared → Prop} (F : Fr h₀ L s.heap m) (N : News h₀ L s.heap news) (S : Fold' w.params W news W₁) (hw : Wf prog w W) (hl : (c, o) ∈ (W₁ .ms)) (hd : o.IsDictOf (intKind prog w) kvs) (hz : kvs.length ≤ 1000)
    (h : ∀ h' o', Fr h₀ L h' m → News h₀ L h' (led w.params ((W₁.delM c).addM (c, o'))) → Wf prog w ((W₁.delM c).addM (c, o')) → o'.IsDictOf (intKind prog w) (stored kvs k v) → Q () { s with heap := h', toks := s.toks + 1 }) :
    wpAny (model prog w) A (setItem (.ref c) (.int k t) v) Q E s := by
  obtain ⟨N1, a, b, d⟩ := take_M N S hw hl
  exact kda_set (knd := intKind prog w) F N1 (UpdF.head a) hd (intKind_is _ _ _ _) (by rw [sizeLine_eq]; omega) fun h' o' F' N' hd' => h h' o' F' (b o' h' N') (d o') hd'
end
noncomputable def Sx.nil : Sx := fun f => by cases f <;> exact default
noncomputable def Sx.w0 (wd ca : Addr) (wo : Obj) (wkt : Tok) (cv : List Value) (cn : Nat) (M : List (Addr × Obj)) : Sx := fun f => match f with
  | .rs => [] | .es => [] | .wd => wd | .ca => ca | .wo => wo | .wk => 0 | .wkt => wkt | .cv => cv | .cn => cn | .ms => M | f => Sx.nil f
section
variable {prog : Program} {w : World} {h₀ h : Heap} {L wd ca : Addr} {wo : Obj} {wkt : Tok} {cv : List Value} {cn : Nat} {M : List (Addr × Obj)}
theorem dom_w0 : dom (Sx.w0 wd ca wo wkt cv cn M) = [.w0, .w1] := rfl
theorem led_w0 {P : Params} : led P (Sx.w0 wd ca wo wkt cv cn M) = (wd, wo) :: (ca, PySem.W.listOf cv.toArray cn) :: M := by
  unfold led; rw [dom_w0]; rfl
theorem w0_wf (h1 : wd ≠ ca) (h2 : ∀ p ∈ M, p.1 ≠ wd ∧ p.1 ≠ ca) (h3 : (M.map (·.1)).Nodup) (l1 : @LT.lt Nat _ sysModules wd)
    (hd : wo.IsDictOf (strKind prog w) [("cells", .ref ca), ("spot", .int 0 wkt)]) (hc : ∃ ns, IntsAre cv ns) (hf : cv.length ≤ 30) : Wf prog w (Sx.w0 wd ca wo wkt cv cn M) where
  role := by
    refine ⟨fun a => if a = wd then some .w0 else if a = ca then some .w1 else none, fun r hr => ?_, fun p hp => ?_⟩
    · rw [dom_w0] at hr
      rcases List.mem_cons.mp hr with rfl | hr
      · exact if_pos rfl
      · rw [List.mem_singleton.mp hr]
        exact (if_neg h1.symm).trans (if_pos rfl)
    · have := h2 p hp
      exact (if_neg this.1).trans (if_neg this.2)
  root := fun a h => by cases h
  d0 := fun a h => by cases h
  d4 := fun a h => by cases h
  d5 := fun a h => by cases h
  low := fun r hr => by
    rw [dom_w0] at hr
    rcases List.mem_cons.mp hr with rfl | hr
    · exact l1
    · rw [List.mem_singleton.mp hr]; exact l1
  nod := h3
  dw := hd
  cells := hc
  few := hf
  spot := Int.le_refl _
end
theorem cellJ_len {vs ys : List Value} {xs : List Int} (h : IntsAre vs (xs.take 30)) (hJ : CellJ vs.toArray.size ys) : ys.length ≤ 30 := by
  have h1 := h.length
  have h2 := hJ.hlen
  rw [List.length_take] at h1
  simp only [List.size_toArray] at h2
  omega
theorem w0_start {prog : Program} {w : World} {h₀ h : Heap} {L wd ca : Addr} {m : Str → Option Value} {wo o1 o2 : Obj} {wkt : Tok} {cv : List Value} {x : Addr × Obj} (N : News h₀ L h [(ca, LCg.lst cv), x, (wd, wo), (L + 1 + 1, o2), (L + 1, o1)]) (F : Fr h₀ L h m) (hlow : sysModules < h₀.objs.size)
    (h1 : wd ≠ ca) (h2 : L + 1 + 1 ≠ ca) (h3 : L + 1 ≠ ca) (h4 : @LT.lt Nat _ (L + 1 + 1) wd ∧ @LT.lt Nat _ (L + 1) wd) (hd : wo.IsDictOf (strKind prog w) [("cells", .ref ca), ("spot", .int 0 wkt)]) (hc : ∃ ns, IntsAre cv ns) (hf : cv.length ≤ 30) :
    News h₀ L h (led w.params (Sx.w0 wd ca wo wkt cv cv.length [(L + 1 + 1, o2), (L + 1, o1)])) ∧ Wf prog w (Sx.w0 wd ca wo wkt cv cv.length [(L + 1 + 1, o2), (L + 1, o1)]) := by
  refine ⟨?_, w0_wf h1 (fun p hp => ?_) ?_ ?_ hd hc hf⟩
  · rw [led_w0]
    intro p hp
    refine N p ?_
    simp only [List.mem_cons, List.not_mem_nil, or_false] at hp ⊢
    rcases hp with h | h | h | h <;> simp [h]
  · simp only [List.mem_cons, List.not_mem_nil, or_false] at hp
    rcases hp with rfl | rfl
    · exact ⟨Nat.ne_of_lt h4.1, h2⟩
    · exact ⟨Nat.ne_of_lt h4.2, h3⟩
  · simp
  · exact Nat.lt_trans (Nat.lt_of_lt_of_le hlow F.above) (Nat.lt_trans (Nat.lt_succ_self L) h4.2)
structure PkD where
  key : Int
  nm : Str
  e : Addr
  r : Addr
  tp : Addr
  q : Addr
  part : Str
noncomputable abbrev tupO (vs : List Value) : Obj := { cls := .type "tuple", data := .seq vs.toArray }
structure Pk (W : Sx) (rt : Addr) (p : PkD) : Prop where
  r : p.r ∈ (W .rs)
  e : p.e ∈ (W .es)
  pa : (W .pa) p.r = .ref rt
  ge : (W .ge) p.r = .none
  l2 : (W .l2) p.r = []
  l3 : (W .l3) p.r = []
  er : (W .er) p.e = .ref p.r
  dat : (W .ef) p.e 4 = .none
  en : ∃ k t, (W .en) p.e = .int k t ∧ k ≤ (W .mc) rt
  tpm : ∃ t, (p.tp, tupO [.ref p.r, .str p.part t]) ∈ (W .ms)
  qm : ∃ t, (p.q, tupO [.ref p.e, .str p.part t]) ∈ (W .ms)
  ne : p.r ≠ rt
theorem Pk.kept {X : List Addr} {W W' : Sx} {rt : Addr} {p : PkD} (h : Pk W rt p) (K : Kept X W W') (hrt : rt ∈ (W .rs)) (h1 : p.r ∉ X) (h2 : p.e ∉ X) (h3 : p.tp ∉ X) (h4 : p.q ∉ X) : Pk W' rt p where
  r := K.rs _ h.r
  e := K.es _ h.e
  pa := (K.pa _ h.r).trans h.pa
  ge := (K.ge _ h.r h1).trans h.ge
  l2 := (K.l2 _ h.r h1).trans h.l2
  l3 := (K.l3 _ h.r h1).trans h.l3
  er := (K.er _ h.e h2).trans h.er
  dat := by rw [K.ef _ h.e]; exact h.dat
  en := let ⟨k, t, a, b⟩ := h.en; ⟨k, t, (K.en _ h.e h2).trans a, Int.le_trans b (K.mc _ hrt)⟩
  tpm := let ⟨t, a⟩ := h.tpm; ⟨t, K.ms _ a h3⟩
  qm := let ⟨t, a⟩ := h.qm; ⟨t, K.ms _ a h4⟩
  ne := h.ne
structure RtOk (W : Sx) (rt : Addr) (ps : List PkD) : Prop where
  kd : (W .kd) rt = "root"
  pa : (W .pa) rt = .none
  ge : (W .ge) rt = .none
  l2 : (W .l2) rt = []
  l3 : (W .l3) rt = []
  k5 : (W .k5) rt = ps.map fun p => (p.key, Value.ref p.tp)
  pks : ∀ p ∈ ps, Pk W rt p
theorem RtOk.kept {X : List Addr} {W W' : Sx} {rt : Addr} {ps : List PkD} (h : RtOk W rt ps) (K : Kept X W W') (hrt : rt ∈ (W .rs)) (h0 : rt ∉ X) (hX : ∀ p ∈ ps, p.r ∉ X ∧ p.e ∉ X ∧ p.tp ∉ X ∧ p.q ∉ X) : RtOk W' rt ps where
  kd := (K.kd _ hrt).trans h.kd
  pa := (K.pa _ hrt).trans h.pa
  ge := (K.ge _ hrt h0).trans h.ge
  l2 := (K.l2 _ hrt h0).trans h.l2
  l3 := (K.l3 _ hrt h0).trans h.l3
  k5 := (K.k5 _ hrt h0).trans h.k5
  pks := fun p hp => let ⟨a, b, c, d⟩ := hX p hp; (h.pks p hp).kept K hrt a b c d
structure Yg (W : Sx) (rt : Addr) (ps : List PkD) : Prop where
  k0 : ∀ x, valueAt ((W .k0) rt) x ≠ none → x ∈ ps.map (·.nm)
  k4 : ∀ x, valueAt ((W .k4) rt) x ≠ none → x ∈ ps.map (·.nm)
  z0 : ((W .k0) rt).length ≤ ps.length
  z4 : ((W .k4) rt).length ≤ ps.length
  z1 : ((W .l1) rt).length ≤ ps.length
  pk : ∀ p ∈ ps, (W .kd) p.r = "package" ∧ (W .k0) p.r = [] ∧ (W .l1) p.r = []
noncomputable def Parts (prog : Program) (w : World) (W : Sx) (pd : Addr) (ps : List PkD) : Prop := ∃ po, (pd, po) ∈ (W .ms) ∧ po.IsDictOf (intKind prog w) (ps.map fun p => (p.key, Value.ref p.q))
noncomputable def CellAt (W : Sx) (c : Addr) (v : Option Value) : Prop := ∃ o, (c, o) ∈ (W .ms) ∧ o.data = .cell v
theorem rs_ne_ms {prog : Program} {w : World} {W : Sx} (hw : Wf prog w W) {a c : Addr} {o : Obj} (h : a ∈ (W .rs)) (h' : (c, o) ∈ (W .ms)) : a ≠ c := fun e => by
  obtain ⟨ρ, h1, h2⟩ := hw.role
  have x := h1 (.ri a) (dom_ri h)
  have y := h2 _ h'
  rw [show adr W (.ri a) = a from rfl, e] at x
  rw [x] at y; cases y
theorem es_ne_ms {prog : Program} {w : World} {W : Sx} (hw : Wf prog w W) {a c : Addr} {o : Obj} (h : a ∈ (W .es)) (h' : (c, o) ∈ (W .ms)) : a ≠ c := fun e => by
  obtain ⟨ρ, h1, h2⟩ := hw.role
  have x := h1 (.ei a) (dom_ei h)
  have y := h2 _ h'
  rw [show adr W (.ei a) = a from rfl, e] at x
  rw [x] at y; cases y
theorem tup_ne_cell {vs : List Value} {o : Obj} {v : Option Value} (h : o.data = .cell v) : tupO vs ≠ o := fun e => by rw [← e] at h; cases h
structure LS (prog : Program) (w : World) (rt pd c1 c2 : Addr) (ps : List PkD) (W : Sx) : Prop where
  nu : NUok W rt
  rt : RtOk W rt ps
  parts : Parts prog w W pd ps
  cell1 : ∃ v, CellAt W c1 v
  cell2 : ∃ v, CellAt W c2 v
  cne : c1 ≠ c2
  dis : (ps.map (·.r)).Nodup
theorem tup_ne_dict {prog : Program} {w : World} {vs : List Value} {o : Obj} {kvs : List (Int × Value)} (h : o.IsDictOf (intKind prog w) kvs) : tupO vs ≠ o := fun e => by
  rw [← e] at h
  obtain ⟨es, ep, _, hd, _⟩ := h
  cases hd
theorem ms_put {W : Sx} {d : Addr} {o : Obj} {p : Addr × Obj} (h : p ∈ (W .ms)) (hn : p.1 ≠ d) : p ∈ ((W.delM d).addM (d, o)) .ms := List.Mem.tail _ (ms_delM h hn)
theorem turn_post {prog : Program} {w : World} {W W5 : Sx} {rt pd c1 c2 : Addr} {ps : List PkD} {p : PkD} {o5 po po' : Obj} {v0 v4 v1 : Value} {t1 t2 : Tok} {kt : Tok}
    (hL : LS prog w rt pd c1 c2 ps W) (hY : Yg W rt ps) (hw : Wf prog w W) (hw5 : Wf prog w W5) (K : Kept [c1] W W5) (nu5 : NUok W5 rt)
    (r5 : p.r ∈ (W5 .rs)) (e5 : p.e ∈ (W5 .es)) (ro5 : (W5 .ro) p.r = rt) (kd5 : (W5 .kd) p.r = "package") (pa5 : (W5 .pa) p.r = .ref rt) (ge5 : (W5 .ge) p.r = .none) (l25 : (W5 .l2) p.r = []) (l35 : (W5 .l3) p.r = []) (er5 : (W5 .er) p.e = .ref p.r) (dat5 : (W5 .ef) p.e 4 = .none)
    (en5 : ∃ k t, (W5 .en) p.e = .int k t ∧ k ≤ (W5 .mc) rt) (k05 : (W5 .k0) p.r = []) (l15 : (W5 .l1) p.r = []) (pt5 : p.part = (W5 .pt) p.r) (xo : p.r ∉ addrs W)
    (k0 : (W5 .k0) rt = stored ((W .k0) rt) p.nm v0) (k4 : (W5 .k4) rt = stored ((W .k4) rt) p.nm v4) (l1 : (W5 .l1) rt = (W .l1) rt ++ [v1]) (n0 : valueAt ((W .k0) rt) p.nm = none) (n4 : valueAt ((W .k4) rt) p.nm = none)
    (old : ∀ p' ∈ ps, (W5 .k0) p'.r = (W .k0) p'.r ∧ (W5 .l1) p'.r = (W .l1) p'.r) (cell1 : ∃ v, CellAt W5 c1 v)
    (hpo : (pd, po) ∈ (W5 .ms)) (hpd : po.IsDictOf (intKind prog w) (ps.map fun p => (p.key, Value.ref p.q))) (nk : ∀ p' ∈ ps, p'.key ≠ p.key)
    (hpd' : po'.IsDictOf (intKind prog w) (stored (ps.map fun p => (p.key, Value.ref p.q)) p.key (.ref p.q))) (tpo : p.tp ∉ addrs W5) (qo : p.q ∉ addrs W5) :
    LS prog w rt pd c1 c2 (ps ++ [p]) ((((((W5.put5 ((W5 .ro) p.r) o5 p.key (.ref p.tp)).addM (p.tp, tupO [.ref p.r, .str ((W5 .pt) p.r) t1])).addM (p.q, tupO [.ref p.e, .str ((W5 .pt) p.r) t2]))).delM pd).addM (pd, po')) ∧
    Yg ((((((W5.put5 ((W5 .ro) p.r) o5 p.key (.ref p.tp)).addM (p.tp, tupO [.ref p.r, .str ((W5 .pt) p.r) t1])).addM (p.q, tupO [.ref p.e, .str ((W5 .pt) p.r) t2]))).delM pd).addM (pd, po')) rt (ps ++ [p]) := by
  have hrt := hL.nu.rin
  have hrt5 := K.rs _ hrt
  obtain ⟨oc1, vc1⟩ := hL.cell1
  have nrt : rt ∉ [c1] := fun h => by
    obtain ⟨v, o, hm, _⟩ := hL.cell1
    exact rs_ne_ms hw hrt hm (List.mem_singleton.mp h)
  have none5 : ∀ (l : List PkD) (f : PkD → Value), (∀ p' ∈ l, p'.key ≠ p.key) → valueAt (l.map fun p => (p.key, f p)) p.key = none := by
    intro l f
    induction l with
    | nil => intro _; rfl
    | cons a l ih =>
      intro h
      have := ih fun p' hp => h p' (.tail _ hp)
      unfold valueAt at this ⊢
      simp only [List.map_cons]
      rw [List.find?_cons_of_neg (by simpa using h a (.head _))]
      exact this
  have hpdn : ∀ {vs : List Value} {a : Addr}, (a, tupO vs) ∈ (W5 .ms) → a ≠ pd := fun h => ms_ne hw5 h hpo (tup_ne_dict hpd)
  have pdin : pd ∈ addrs W5 := addrs_ms2 hpo
  have npk : ∀ {p' : PkD}, Pk W5 rt p' → Pk ((((((W5.put5 ((W5 .ro) p.r) o5 p.key (.ref p.tp)).addM (p.tp, tupO [.ref p.r, .str ((W5 .pt) p.r) t1])).addM (p.q, tupO [.ref p.e, .str ((W5 .pt) p.r) t2]))).delM pd).addM (pd, po')) rt p' := fun {p'} h =>
    { r := h.r, e := h.e, pa := h.pa, ge := h.ge, l2 := h.l2, l3 := h.l3, er := h.er, dat := h.dat, en := h.en, ne := h.ne,
      tpm := let ⟨t, a⟩ := h.tpm; ⟨t, ms_put (List.Mem.tail _ (List.Mem.tail _ a)) (hpdn a)⟩,
      qm := let ⟨t, a⟩ := h.qm; ⟨t, ms_put (List.Mem.tail _ (List.Mem.tail _ a)) (hpdn a)⟩ }
  refine ⟨⟨?_, ⟨(K.kd _ hrt).trans hL.rt.kd, (K.pa _ hrt).trans hL.rt.pa, (K.ge _ hrt nrt).trans hL.rt.ge, (K.l2 _ hrt nrt).trans hL.rt.l2, (K.l3 _ hrt nrt).trans hL.rt.l3, ?_, fun p' hp' => ?_⟩, ?_, ?_, ?_, hL.cne, ?_⟩, ?_⟩
  · exact NUok.addM (NUok.delM (NUok.addM (NUok.addM (NUok.put5 nu5))))
  · show upd (W5 .k5) ((W5 .ro) p.r) (stored ((W5 .k5) ((W5 .ro) p.r)) p.key (.ref p.tp)) rt = _
    rw [ro5, upd_same, (K.k5 _ hrt nrt).trans hL.rt.k5, stored_absent (none5 _ _ nk), List.map_append]
    rfl
  · rcases List.mem_append.mp hp' with hp' | hp'
    · refine npk ?_
      have h := hL.rt.pks p' hp'
      obtain ⟨v, o, hm, ho⟩ := hL.cell1
      refine h.kept K hrt ?_ ?_ ?_ ?_
      · exact fun e => rs_ne_ms hw h.r hm (List.mem_singleton.mp e)
      · exact fun e => es_ne_ms hw h.e hm (List.mem_singleton.mp e)
      · obtain ⟨t, a⟩ := h.tpm
        exact fun e => ms_ne hw a hm (tup_ne_cell ho) (List.mem_singleton.mp e)
      · obtain ⟨t, a⟩ := h.qm
        exact fun e => ms_ne hw a hm (tup_ne_cell ho) (List.mem_singleton.mp e)
    · rw [List.mem_singleton.mp hp']
      refine ⟨r5, e5, pa5, ge5, l25, l35, er5, dat5, en5, ⟨t1, ?_⟩, ⟨t2, ?_⟩, ?_⟩
      · rw [pt5]; exact ms_put (List.Mem.tail _ (List.Mem.head _)) fun e => tpo ((show p.tp = pd from e) ▸ pdin)
      · rw [pt5]; exact ms_put (List.Mem.head _) fun e => qo ((show p.q = pd from e) ▸ pdin)
      · exact fun e => xo (e ▸ rs_addrs hrt)
  · refine ⟨po', List.Mem.head _, ?_⟩
    rw [stored_absent (none5 _ _ nk)] at hpd'
    rw [List.map_append]
    exact hpd'
  · obtain ⟨v, o, hm, ho⟩ := cell1
    exact ⟨v, o, ms_put (List.Mem.tail _ (List.Mem.tail _ hm)) (ms_ne hw5 hm hpo fun e => by rw [e] at ho; obtain ⟨es, ep, _, hd, _⟩ := hpd; rw [hd] at ho; cases ho), ho⟩
  · obtain ⟨v, o, hm, ho⟩ := hL.cell2
    have hm5 := K.ms _ hm (fun e => hL.cne (List.mem_singleton.mp e).symm)
    exact ⟨v, o, ms_put (List.Mem.tail _ (List.Mem.tail _ hm5)) (ms_ne hw5 hm5 hpo fun e => by rw [e] at ho; obtain ⟨es, ep, _, hd, _⟩ := hpd; rw [hd] at ho; cases ho), ho⟩
  · rw [List.map_append]
    refine List.nodup_append.mpr ⟨hL.dis, by simp, fun a ha b hb e => ?_⟩
    obtain ⟨p', hp', rfl⟩ := List.mem_map.mp ha
    rw [List.map_cons, List.map_nil, List.mem_singleton] at hb
    exact xo (hb ▸ e ▸ rs_addrs (hL.rt.pks p' hp').r)
  · refine ⟨fun x hx => ?_, fun x hx => ?_, ?_, ?_, ?_, fun p' hp' => ?_⟩
    · have hx' : valueAt ((W5 .k0) rt) x ≠ none := hx
      rw [k0, va_stored n0] at hx'
      rw [List.map_append]
      by_cases e : p.nm = x
      · exact List.mem_append_right _ (by simp [e])
      · rw [if_neg e] at hx'
        exact List.mem_append_left _ (hY.k0 x hx')
    · have hx' : valueAt ((W5 .k4) rt) x ≠ none := hx
      rw [k4, va_stored n4] at hx'
      rw [List.map_append]
      by_cases e : p.nm = x
      · exact List.mem_append_right _ (by simp [e])
      · rw [if_neg e] at hx'
        exact List.mem_append_left _ (hY.k4 x hx')
    · show ((W5 .k0) rt).length ≤ _
      rw [k0, List.length_append]
      exact Nat.le_trans (stored_length_le _ _ _) (Nat.succ_le_succ hY.z0)
    · show ((W5 .k4) rt).length ≤ _
      rw [k4, List.length_append]
      exact Nat.le_trans (stored_length_le _ _ _) (Nat.succ_le_succ hY.z4)
    · show ((W5 .l1) rt).length ≤ _
      rw [l1, List.length_append, List.length_append]
      exact Nat.succ_le_succ hY.z1
    · rcases List.mem_append.mp hp' with hp' | hp'
      · obtain ⟨a, b, c⟩ := hY.pk p' hp'
        exact ⟨(K.kd _ (hL.rt.pks p' hp').r).trans a, (old p' hp').1.trans b, (old p' hp').2.trans c⟩
      · rw [List.mem_singleton.mp hp']
        exact ⟨kd5, k05, l15⟩
theorem ls_start {prog : Program} {w : World} {W : Sx} {x pd c1 c2 : Addr} {R : RRec} {po o1 o2 : Obj} {v1 v2 : Option Value} (_ : Wf prog w ((W.addR x R).addM (pd, po))) (h0 : (W .rs) = []) (q1 : R.kd = "root") (q3 : R.pa = .none) (q4 : R.ro = x) (q5 : R.nu = 1) (q6 : R.mc = 1) (q7 : R.ge = .none)
    (h1 : (c1, o1) ∈ (W .ms)) (d1 : o1.data = .cell v1) (h2 : (c2, o2) ∈ (W .ms)) (d2 : o2.data = .cell v2) (hne : c1 ≠ c2) (hd : po.IsDictOf (intKind prog w) []) :
    LS prog w x pd c1 c2 [] ((W.addR x R).addM (pd, po)) ∧ Yg ((W.addR x R).addM (pd, po)) x [] := by
  have key : ∀ {β : Type} (f : Addr → β) (v : β), upd f x v x = v := fun f v => upd_same f x v
  have hmem : ∀ a ∈ ((W.addR x R).addM (pd, po)) .rs, a = x := fun a ha => by
    rcases List.mem_cons.mp (show a ∈ x :: (W .rs) from ha) with h | h
    · exact h
    · rw [h0] at h; cases h
  refine ⟨⟨⟨List.Mem.head _, fun a ha => ?_, fun a ha => ?_, fun a ha b hb _ => (hmem a ha).trans (hmem b hb).symm⟩, ⟨(key _ _).trans q1, (key _ _).trans q3, (key _ _).trans q7, key _ _, key _ _, key _ _, fun p hp => by cases hp⟩, ⟨po, List.Mem.head _, hd⟩, ⟨v1, o1, List.Mem.tail _ h1, d1⟩, ⟨v2, o2, List.Mem.tail _ h2, d2⟩, hne, List.nodup_nil⟩, ⟨fun y hy => ?_, fun y hy => ?_, ?_, ?_, ?_, fun p hp => by cases hp⟩⟩
  · rw [hmem a ha]; exact (key _ _).trans q4
  · rw [hmem a ha]
    show upd (W .nu) x R.nu x ≤ upd (W .mc) x R.mc x
    rw [key, key, q5, q6]; exact Int.le_refl _
  · refine absurd ?_ hy
    show valueAt (upd (W .k0) x [] x) y = none
    rw [key]; rfl
  · refine absurd ?_ hy
    show valueAt (upd (W .k4) x [] x) y = none
    rw [key]; rfl
  · show (upd (W .k0) x [] x).length ≤ _
    rw [key]; exact Nat.le_refl _
  · show (upd (W .k4) x [] x).length ≤ _
    rw [key]; exact Nat.le_refl _
  · show (upd (W .l1) x [] x).length ≤ _
    rw [key]; exact Nat.le_refl _
noncomputable def MS (prog : Program) (w : World) (h₀ : Heap) (L : Addr) (s : Shared) (wd rt pd : Addr) (ps : List PkD) (s' : Shared) : Prop :=
  ∃ h' tk' m W, s' = { s with heap := h', toks := tk' } ∧ Fr h₀ L h' m ∧ m "well" = some (.ref wd) ∧ m "root" = some (.ref rt) ∧ m "parts" = some (.ref pd) ∧ News h₀ L h' (led w.params W) ∧ Wf prog w W ∧ (W .wd) = wd ∧ LS prog w rt pd (L + 1) (L + 1 + 1) ps W ∧ Yg W rt ps
theorem pin {m : Str → Option Value} {x : Str} {v : Value} (h : m x = some v) : m = fun y => if y = x then some v else m y := by
  funext y
  by_cases e : y = x
  · rw [if_pos e, e, h]
  · rw [if_neg e]
noncomputable def MS0 (prog : Program) (w : World) (h₀ : Heap) (L : Addr) (s : Shared) (s' : Shared) : Prop := ∃ wd rt pd, MS prog w h₀ L s wd rt pd [] s'
noncomputable def FStepT (prog : Program) (w : World) (h₀ : Heap) (L l I : Addr) (lo io : Obj) (s : Shared) (J : (Str → Option Value) → Sx → Prop) (Q : Flow → Shared → Prop) (f : Flow) (s₃ : Shared) : Prop :=
  match f with
  | .ret v => Q (.ret v) s₃
  | .brk => Q .next s₃
  | _ => FinJ prog w h₀ L l I lo io s J s₃
theorem FStepT.intro {prog : Program} {w : World} {h₀ h' : Heap} {L l I : Addr} {lo io : Obj} {s : Shared} {J : (Str → Option Value) → Sx → Prop} {Q : Flow → Shared → Prop} {m' : Str → Option Value} {W' W₀ : Sx} {news : List (Addr × Obj)} {tk : Nat}
    (F : Fr h₀ L h' m') (N : News h₀ L h' news) (S : Fold' w.params W₀ news W') (hw : Wf prog w W₀) (hI : (I, io) ∈ (W' .ms)) (hl : (l, lo) ∈ (W' .ms)) (hJ : J m' (W'.delM I)) : FStepT prog w h₀ L l I lo io s J Q .next { s with heap := h', toks := tk } :=
  ⟨h', tk, m', W', rfl, F, S.nws N, S.wf hw, hI, hl, hJ⟩
theorem iter_T {prog : Program} {w : World} {A : Around} {E : Value → Shared → Prop} {s : Shared} {env : Env} {h₀ : Heap} {target : PySem.Expr} {body : List Stmt} {Q : Flow → Shared → Prop} {l : Addr} {lo : Obj} {vs : List Value} {n : Nat} {m₀ : Str → Option Value} {news : List (Addr × Obj)} {W₀ W₁ : Sx}
    (J : Nat → (Str → Option Value) → Sx → Prop) (hh : A.handled = none) (F : Fr h₀ env.locals s.heap m₀) (N : News h₀ env.locals s.heap news) (S : Fold' w.params W₀ news W₁) (hw₀ : Wf prog w W₀)
    (hl : (l, lo) ∈ (W₁ .ms)) (hc : lo.cls = .type "tuple") (hd : lo.data = .seq vs.toArray n) (hj : J 0 m₀ W₁)
    (turn : ∀ i v m₁ W h tk I io, vs[i]? = some v → J i m₁ W → io.cls = .type "tuple_iterator" → Wf prog w (W.addM (I, io)) → (l, lo) ∈ (W .ms) → I ∉ addrs W → Fr h₀ env.locals h m₁ → News h₀ env.locals h (led w.params (W.addM (I, io))) →
      wpAny (model prog w) A (assign target env v) (fun _ s₂ => wpAny (model prog w) A (execs body env) (FStepT prog w h₀ env.locals l I lo io { s with heap := h, toks := tk } (J (i + 1)) Q) E s₂) E { s with heap := h, toks := tk })
    (done : ∀ m₁ W h tk, J vs.length m₁ W → Wf prog w W → (l, lo) ∈ (W .ms) → Fr h₀ env.locals h m₁ → News h₀ env.locals h (led w.params W) → Q .next { s with heap := h, toks := tk }) :
    wpAny (model prog w) A (pyIter (.ref l)) (fun it s₂ => TurnsAt prog w A h₀ env target body Q E it s₂) E s := by
  have N1 := S.nws N
  have hw1 := S.wf hw₀
  refine iter_tupTurns hh F N1 (mem_ms hl) hc hd fun I hI => ?_
  have off0 : I ∉ addrs W₁ := fun h => by
    rw [← led_map w.params] at h
    obtain ⟨p, hp, e⟩ := List.mem_map.mp h
    exact Nat.lt_irrefl _ (e ▸ hI p hp)
  have key : ∀ (r : List Value) (i : Nat) (m₁ : Str → Option Value) (W : Sx), vs.drop i = r → i + r.length = vs.length → J i m₁ W → Wf prog w W → (l, lo) ∈ (W .ms) → I ∉ addrs W →
      ItemsRest prog w A E h₀ env target body Q s [(I, "tuple_iterator")] [(l, lo)] (r.map .val) m₁ (led w.params W) := by
    intro r
    induction r with
    | nil =>
      intro i m₁ W _ hi hJ hW hlW _
      refine ItemsRest.zero fun h tk F' N' => ?_
      have : i = vs.length := by simpa using hi
      subst this
      exact done m₁ W h tk hJ hW hlW F' N'
    | cons v r ih =>
      intro i m₁ W hr hi hJ hW hlW hoff
      have hv : vs[i]? = some v := by
        have := congrArg List.head? hr
        rw [List.head?_drop] at this
        exact this
      have hr' : vs.drop (i + 1) = r := by
        have := congrArg List.tail hr
        rw [List.tail_drop] at this
        exact this
      refine ItemsRest.val fun h tk F' => AllObj.cons fun io hio => AllObj.nil fun N' => ?_
      have hWa := wf_addM (p := (I, io)) hW hoff
      have N2 : News h₀ env.locals h (led w.params (W.addM (I, io))) := news_sub N' fun p hp => by
        rcases led_addM hp with rfl | hp
        · exact List.mem_append_left _ (List.mem_singleton.mpr rfl)
        · exact List.mem_append_right _ hp
      refine wpAny_mono (turn i v m₁ W h tk I io hv hJ hio hWa hlW hoff F' N2) (fun _ s₂ p => ?_) fun _ _ e => e
      refine wpAny_mono p (fun f s₃ p => ?_) fun _ _ e => e
      have fin : FinJ prog w h₀ env.locals l I lo io { s with heap := h, toks := tk } (J (i + 1)) s₃ →
          UnrEndW h₀ env.locals { s with heap := h, toks := tk } [(I, io)] (fun m' n' => PySem.W.SubL [(l, lo)] n' ∧ ItemsRest prog w A E h₀ env target body Q s [(I, "tuple_iterator")] [(l, lo)] (r.map .val) m' n') s₃ := by
        rintro ⟨h', tk', m', W', rfl, F3, N3, hw3, hI3, hl3, hJ3⟩
        have hne : l ≠ I := fun e => hoff (e ▸ addrs_ms2 hlW)
        refine ⟨h', tk', m', led w.params (W'.delM I), rfl, F3, fun p hp => ?_, fun p hp q hq e => ?_, ⟨mem_ms (ms_delM hl3 hne), trivial⟩, ?_⟩
        · rcases List.mem_append.mp hp with hp | hp
          · rw [List.mem_singleton.mp hp]; exact N3 _ (mem_ms hI3)
          · exact N3 p (led_delM hp)
        · rw [List.mem_singleton.mp hq] at e
          have z := mem_addrs hp
          rw [e] at z
          exact off_delM hw3 hI3 z
        · exact ih (i + 1) m' (W'.delM I) hr' (by simp only [List.length_cons] at hi; omega) hJ3 (wf_delM hw3) (ms_delM hl3 hne) (off_delM hw3 hI3)
      cases f with
      | ret v => exact p
      | brk => exact p
      | next => exact fin p
      | cont => exact fin p
  exact key vs 0 m₀ W₁ rfl (by simp) hj hw1 hl off0
theorem LS.addM {prog : Program} {w : World} {rt pd c1 c2 : Addr} {ps : List PkD} {W : Sx} {q : Addr × Obj} (h : LS prog w rt pd c1 c2 ps W) : LS prog w rt pd c1 c2 ps (W.addM q) where
  nu := h.nu.addM
  rt := { h.rt with pks := fun p hp => let k := h.rt.pks p hp; { k with tpm := let ⟨t, a⟩ := k.tpm; ⟨t, .tail _ a⟩, qm := let ⟨t, a⟩ := k.qm; ⟨t, .tail _ a⟩ } }
  parts := let ⟨po, a, b⟩ := h.parts; ⟨po, .tail _ a, b⟩
  cell1 := let ⟨v, o, a, b⟩ := h.cell1; ⟨v, o, .tail _ a, b⟩
  cell2 := let ⟨v, o, a, b⟩ := h.cell2; ⟨v, o, .tail _ a, b⟩
  cne := h.cne
  dis := h.dis
theorem Yg.addM {rt : Addr} {ps : List PkD} {W : Sx} {q : Addr × Obj} (h : Yg W rt ps) : Yg (W.addM q) rt ps := { h with }
theorem Yg.delM {rt : Addr} {ps : List PkD} {W : Sx} {a : Addr} (h : Yg W rt ps) : Yg (W.delM a) rt ps := { h with }
theorem LS.del {prog : Program} {w : World} {rt pd c1 c2 I : Addr} {ps : List PkD} {W : Sx} {io : Obj} (h : LS prog w rt pd c1 c2 ps W) (hw : Wf prog w W) (hI : (I, io) ∈ (W .ms)) (hc : io.cls = .type "tuple_iterator") (h1 : c1 ≠ I) (h2 : c2 ≠ I) (h3 : pd ≠ I) : LS prog w rt pd c1 c2 ps (W.delM I) where
  nu := h.nu.delM
  rt := { h.rt with pks := fun p hp => let k := h.rt.pks p hp; { k with
            tpm := let ⟨t, a⟩ := k.tpm; ⟨t, ms_delM a (ms_ne hw a hI fun e => by rw [← e] at hc; exact absurd (Value.type.inj hc) (by decide))⟩,
            qm := let ⟨t, a⟩ := k.qm; ⟨t, ms_delM a (ms_ne hw a hI fun e => by rw [← e] at hc; exact absurd (Value.type.inj hc) (by decide))⟩ } }
  parts := let ⟨po, a, b⟩ := h.parts; ⟨po, ms_delM a h3, b⟩
  cell1 := let ⟨v, o, a, b⟩ := h.cell1; ⟨v, o, ms_delM a h1, b⟩
  cell2 := let ⟨v, o, a, b⟩ := h.cell2; ⟨v, o, ms_delM a h2, b⟩
  cne := h.cne
  dis := h.dis
structure PJ (prog : Program) (w : World) (wd rt pd c1 c2 D1 D2 : Addr) (t1 t2 t3 t4 : Tok) (i : Nat) (m : Str → Option Value) (W : Sx) : Prop where
  well : m "well" = some (.ref wd)
  root : m "root" = some (.ref rt)
  partsm : m "parts" = some (.ref pd)
  wd : (W .wd) = wd
  d1 : (D1, tupO [.int 71 t1, .str "p" t2]) ∈ (W .ms)
  d2 : (D2, tupO [.int 72 t3, .str "q" t4]) ∈ (W .ms)
  ls : ∃ ps, ps.map (·.key) = [71, 72].take i ∧ ps.map (·.nm) = ([("p" : Str), "q"]).take i ∧ LS prog w rt pd c1 c2 ps W ∧ Yg W rt ps
theorem Yg.none0 {W : Sx} {rt : Addr} {ps : List PkD} {nm : Str} (h : Yg W rt ps) (hn : nm ∉ ps.map (·.nm)) : valueAt ((W .k0) rt) nm = none := by
  cases e : valueAt ((W .k0) rt) nm with
  | none => rfl
  | some v => exact absurd (h.k0 nm (by rw [e]; exact fun x => by cases x)) hn
theorem Yg.none4 {W : Sx} {rt : Addr} {ps : List PkD} {nm : Str} (h : Yg W rt ps) (hn : nm ∉ ps.map (·.nm)) : valueAt ((W .k4) rt) nm = none := by
  cases e : valueAt ((W .k4) rt) nm with
  | none => rfl
  | some v => exact absurd (h.k4 nm (by rw [e]; exact fun x => by cases x)) hn
inductive PTurn (prog : Program) (w : World) (wd rt pd c1 c2 D1 D2 : Addr) (t1 t2 t3 t4 : Tok) (i : Nat) (W : Sx) (v : Value) : Prop
  | mk (D : Addr) (key : Int) (nm : Str) (t t' : Tok) (ps : List PkD) : (v = .ref D) → ((D, tupO [.int key t, .str nm t']) ∈ (W .ms)) → ((Builtin.Str.occurrences nm (Str.ofString ".") 0 nm.length 1).isEmpty = true) → (LS prog w rt pd c1 c2 ps W) → (Yg W rt ps) → (nm ∉ ps.map (·.nm)) → ((∀ p' ∈ ps, p'.key ≠ key)) → (ps.length ≤ 1) → (∀ (p : PkD) (m' : Str → Option Value) (W' : Sx), p.key = key → p.nm = nm → m' "well" = some (.ref wd) → m' "root" = some (.ref rt) → m' "parts" = some (.ref pd) → (W' .wd) = wd → (∀ q ∈ (W .ms), q.1 = D1 ∨ q.1 = D2 → q ∈ (W' .ms)) → LS prog w rt pd c1 c2 (ps ++ [p]) W' → Yg W' rt (ps ++ [p]) → PJ prog w wd rt pd c1 c2 D1 D2 t1 t2 t3 t4 (i + 1) m' W') → PTurn prog w wd rt pd c1 c2 D1 D2 t1 t2 t3 t4 i W v
theorem PJ.turn {prog : Program} {w : World} {wd rt pd c1 c2 D1 D2 : Addr} {t1 t2 t3 t4 : Tok} {i : Nat} {m : Str → Option Value} {W : Sx} {v : Value} (h : PJ prog w wd rt pd c1 c2 D1 D2 t1 t2 t3 t4 i m W) (hv : [Value.ref D1, Value.ref D2][i]? = some v) :
    PTurn prog w wd rt pd c1 c2 D1 D2 t1 t2 t3 t4 i W v := by
  obtain ⟨ps, hk, hn, hL, hY⟩ := h.ls
  have fin : ∀ (key : Int) (nm : Str), [71, 72].take i ++ [key] = ([71, 72] : List Int).take (i + 1) → ([("p" : Str), "q"]).take i ++ [nm] = ([("p" : Str), "q"]).take (i + 1) →
      ∀ (p : PkD) m' W', p.key = key → p.nm = nm → m' "well" = some (.ref wd) → m' "root" = some (.ref rt) → m' "parts" = some (.ref pd) → (W' .wd) = wd → (∀ q ∈ (W .ms), q.1 = D1 ∨ q.1 = D2 → q ∈ (W' .ms)) → LS prog w rt pd c1 c2 (ps ++ [p]) W' → Yg W' rt (ps ++ [p]) → PJ prog w wd rt pd c1 c2 D1 D2 t1 t2 t3 t4 (i + 1) m' W' := by
    intro key nm e1 e2 p m' W' h1 h2 h3 h4 h5 h6 h7 h8 h9
    refine ⟨h3, h4, h5, h6, h7 _ h.d1 (.inl rfl), h7 _ h.d2 (.inr rfl), ps ++ [p], ?_, ?_, h8, h9⟩
    · rw [List.map_append, hk, List.map_cons, List.map_nil, h1]; exact e1
    · rw [List.map_append, hn, List.map_cons, List.map_nil, h2]; exact e2
  have hi : (i = 0 ∧ v = .ref D1) ∨ (i = 1 ∧ v = .ref D2) := by
    match i, hv with
    | 0, hv => cases hv; exact .inl ⟨rfl, rfl⟩
    | 1, hv => cases hv; exact .inr ⟨rfl, rfl⟩
    | i + 2, hv => cases hv
  rcases hi with ⟨rfl, rfl⟩ | ⟨rfl, rfl⟩
  · have e0 : ps = [] := by simpa using hk
    exact ⟨D1, 71, "p", t1, t2, ps, rfl, h.d1, by decide +kernel, hL, hY, by rw [e0]; simp, by rw [e0]; simp, by rw [e0]; simp, fin 71 "p" rfl rfl⟩
  · have e1 : ps.length = 1 := by have := congrArg List.length hk; simpa using this
    refine ⟨D2, 72, "q", t3, t4, ps, rfl, h.d2, by decide +kernel, hL, hY, by rw [hn]; decide +kernel, fun p' hp' => ?_, by omega, fin 72 "q" rfl rfl⟩
    have : p'.key ∈ ps.map (·.key) := List.mem_map_of_mem hp'
    rw [hk] at this
    have e2 : p'.key = 71 := by simpa using this
    rw [e2]; decide
theorem kw_start {prog : Program} {w : World} {rt pd c1 c2 : Addr} {ps : List PkD} {W W₁ : Sx} (_ : LS prog w rt pd c1 c2 ps W₁) : Kept [c1] W W := Kept.refl
theorem mem3 {W : Sx} {a b c : Addr × Obj} : a ∈ (((W.addM a).addM b).addM c) .ms := .tail _ (.tail _ (.head _))
theorem mem2 {W : Sx} {a b c : Addr × Obj} : b ∈ (((W.addM a).addM b).addM c) .ms := .tail _ (.head _)
theorem nt_none {f g : Addr → List (Int × Value)} {a rt : Addr} {key : Int} (e : a = rt) (e2 : f rt = g rt) (h : valueAt (g rt) key = none) : valueAt (f a) key = none := by rw [e, e2]; exact h
theorem nt_len {f g : Addr → List (Int × Value)} {a rt : Addr} (e : a = rt) (e2 : f rt = g rt) (h : (g rt).length ≤ 1000) : (f a).length ≤ 1000 := by rw [e, e2]; exact h
theorem LS.k5none {prog : Program} {w : World} {rt pd c1 c2 : Addr} {ps : List PkD} {W : Sx} {key : Int} (h : LS prog w rt pd c1 c2 ps W) (hk : ∀ p' ∈ ps, p'.key ≠ key) : valueAt ((W .k5) rt) key = none := by
  rw [h.rt.k5]
  clear h
  induction ps with
  | nil => rfl
  | cons a l ih =>
    have := ih fun p' hp => hk p' (.tail _ hp)
    unfold valueAt at this ⊢
    simp only [List.map_cons]
    rw [List.find?_cons_of_neg (by simpa using hk a (.head _))]
    exact this
theorem LS.k5len {prog : Program} {w : World} {rt pd c1 c2 : Addr} {ps : List PkD} {W : Sx} (h : LS prog w rt pd c1 c2 ps W) (hp : ps.length ≤ 1) : ((W .k5) rt).length ≤ 1000 := by
  rw [h.rt.k5, List.length_map]; omega
theorem LS.apart {prog : Program} {w : World} {rt pd c1 c2 : Addr} {ps : List PkD} {W : Sx} {po : Obj} {kvs : List (Int × Value)} (h : LS prog w rt pd c1 c2 ps W) (hw : Wf prog w W) (hpo : (pd, po) ∈ (W .ms)) (hpd : po.IsDictOf (intKind prog w) kvs) : pd ≠ c1 ∧ pd ≠ c2 ∧ rt ≠ c1 := by
  obtain ⟨v, o, hm, ho⟩ := h.cell1
  obtain ⟨v', o', hm', ho'⟩ := h.cell2
  obtain ⟨es, ep, _, hd, _⟩ := hpd
  exact ⟨ms_ne hw hpo hm fun e => (by rw [e, ho] at hd; cases hd), ms_ne hw hpo hm' fun e => (by rw [e, ho'] at hd; cases hd), rs_ne_ms hw h.nu.rin hm⟩
theorem turn_apart {prog : Program} {w : World} {wd rt pd c1 c2 D1 D2 l I : Addr} {t1 t2 t3 t4 : Tok} {i : Nat} {m : Str → Option Value} {W : Sx} {vs : List Value} {po o1 io : Obj} {kvs : List (Int × Value)} {v1 : Option Value} (h : PJ prog w wd rt pd c1 c2 D1 D2 t1 t2 t3 t4 i m W) (hw : Wf prog w (W.addM (I, io))) (hI : I ∉ addrs W) (hl : (l, tupO vs) ∈ (W .ms))
    (hpo : (pd, po) ∈ (W .ms)) (hpd : po.IsDictOf (intKind prog w) kvs) (hc1 : (c1, o1) ∈ (W .ms)) (hd1 : o1.data = .cell v1) :
    I ≠ pd ∧ I ≠ c1 ∧ l ≠ pd ∧ l ≠ c1 ∧ (∀ q ∈ (W .ms), q.1 = D1 ∨ q.1 = D2 → q.1 ≠ pd ∧ q.1 ≠ c1 ∧ q.1 ≠ I) := by
  have hw' := wf_undo1 hw
  refine ⟨fun e => hI (e ▸ addrs_ms2 hpo), fun e => hI (e ▸ addrs_ms2 hc1), ms_ne hw' hl hpo (tup_ne_dict hpd), ms_ne hw' hl hc1 (tup_ne_cell hd1), fun q hq e => ?_⟩
  refine ⟨?_, ?_, fun e' => hI (e' ▸ addrs_ms2 (x := q.1) (o := q.2) hq)⟩
  · rcases e with e | e <;> rw [e]
    · exact ms_ne hw' h.d1 hpo (tup_ne_dict hpd)
    · exact ms_ne hw' h.d2 hpo (tup_ne_dict hpd)
  · rcases e with e | e <;> rw [e]
    · exact ms_ne hw' h.d1 hc1 (tup_ne_cell hd1)
    · exact ms_ne hw' h.d2 hc1 (tup_ne_cell hd1)
theorem en_ok {W2 W1 : Sx} {e x rt : Addr} {ven : Value} {t1 : Tok} {z : Int} (gn : (W2 .en) e = ven) (qv : ven = .int ((W1 .mc) ((W1 .ro) rt) + 1) t1) (gm : (W2 .mc) ((W1 .ro) rt) = (W1 .mc) ((W1 .ro) rt) + 1) (hro : (W1 .ro) rt = rt) (hx : rt ≠ x) (hro' : (W2 .ro) rt = rt) :
    ∃ k t, (W2 .en) e = .int k t ∧ k ≤ upd (upd (W2 .mc) ((W2 .ro) rt) ((W2 .mc) ((W2 .ro) rt) + 1)) x z rt := by
  refine ⟨_, _, gn.trans qv, ?_⟩
  rw [upd_ne _ _ hx, hro', upd_same]
  rw [hro] at gm ⊢
  rw [gm]
  omega
theorem old_ok {prog : Program} {w : World} {rt pd c1 c2 : Addr} {ps : List PkD} {W : Sx} (hL : LS prog w rt pd c1 c2 ps W) {x : Addr} (hx : ∀ a ∈ (W .rs), a ≠ x) {β γ : Type} (f : Addr → β) (g : Addr → γ) (v z : β) (v' z' : γ) :
    ∀ p' ∈ ps, upd (upd f rt v) x z p'.r = f p'.r ∧ upd (upd g rt v') x z' p'.r = g p'.r := fun p' hp => by
  have h := hL.rt.pks p' hp
  rw [upd_ne _ _ (hx _ h.r), upd_ne _ _ h.ne, upd_ne _ _ (hx _ h.r), upd_ne _ _ h.ne]
  exact ⟨rfl, rfl⟩
noncomputable abbrev ptOf {W : Sx} {a : Addr} (_ : a ∉ addrs W) (x : Addr) : Str := (W .pt) x
theorem off_of_addM {W : Sx} {q : Addr × Obj} {x : Addr} (h : x ∉ addrs (W.addM q)) : x ∉ addrs W := fun hx => h (by
  unfold addrs at hx ⊢
  rcases List.mem_append.mp hx with hx | hx
  · exact List.mem_append_left _ hx
  · exact List.mem_append_right _ (.tail _ hx))
theorem off_q {P : Params} {W : Sx} {r : Addr} {o : Obj} {k : Int} {v : Value} {q : Addr × Obj} {x : Addr} (h : ∀ p ∈ led P ((W.put5 r o k v).addM q), @LT.lt Nat _ p.1 x) : x ∉ addrs W := by
  have z := off_of_addM (off_lt (allLt_of h))
  rw [addrs_put5] at z
  exact z
theorem PJ.two {prog : Program} {w : World} {wd rt pd c1 c2 D1 D2 : Addr} {t1 t2 t3 t4 : Tok} {m : Str → Option Value} {W : Sx} (h : PJ prog w wd rt pd c1 c2 D1 D2 t1 t2 t3 t4 2 m W) :
    ∃ p1 p2 : PkD, p1.key = 71 ∧ p2.key = 72 ∧ p1.nm = "p" ∧ p2.nm = "q" ∧ LS prog w rt pd c1 c2 [p1, p2] W ∧ Yg W rt [p1, p2] := by
  obtain ⟨ps, hk, hn, hL, hY⟩ := h.ls
  have hk' : ps.map (·.key) = 71 :: 72 :: [] := hk
  have hn' : ps.map (·.nm) = (("p" : Str) :: ("q" : Str) :: []) := hn
  clear h hk hn
  rcases ps with _ | ⟨p1, _ | ⟨p2, _ | ⟨p3, ps⟩⟩⟩
  · cases hk'
  · exact absurd (List.cons.inj hk').2 (fun e => by cases e)
  · have a := List.cons.inj hk'
    have b := List.cons.inj a.2
    have c := List.cons.inj hn'
    have d := List.cons.inj c.2
    exact ⟨p1, p2, a.1, b.1, c.1, d.1, hL, hY⟩
  · exact absurd (List.cons.inj (List.cons.inj hk').2).2 (fun e => by cases e)
theorem parts_71 {p1 p2 : PkD} {f : PkD → Value} (h1 : p1.key = 71) : valueAt ([p1, p2].map fun p => (p.key, f p)) 71 = some (f p1) := by
  unfold valueAt
  rw [List.map_cons, List.find?_cons_of_pos (by simp [h1])]; rfl
theorem parts_72 {p1 p2 : PkD} {f : PkD → Value} (h1 : p1.key = 71) (h2 : p2.key = 72) : valueAt ([p1, p2].map fun p => (p.key, f p)) 72 = some (f p2) := by
  unfold valueAt
  rw [List.map_cons, List.find?_cons_of_neg (by simp [h1]), List.map_cons, List.find?_cons_of_pos (by simp [h2])]; rfl
noncomputable def NextThen (f : Flow) (P : Prop) : Prop := f = .next ∧ P
theorem NextThen.mk {P : Prop} (h : P) : NextThen .next P := ⟨rfl, h⟩
theorem cut_at {prog : Program} {w : World} {A : Around} {T : Sem Flow} {Q : Flow → Shared → Prop} {E : Value → Shared → Prop} {s : Shared} {h₀ h : Heap} {L : Addr} {m : Str → Option Value} (_ : Fr h₀ L h m) (Mid : Program → World → Heap → Addr → Shared → Shared → Prop)
    (h1 : wpAny (model prog w) A T (fun f s' => NextThen f (Mid prog w h₀ L s s')) E s) (h2 : ∀ s', Mid prog w h₀ L s s' → Q .next s') : wpAny (model prog w) A T Q E s :=
  wpAny_mono h1 (fun f s' h => by obtain ⟨rfl, h⟩ := h; exact h2 s' h) fun _ _ h => h
inductive MH (wd rt pd : Addr) (p1 p2 : PkD) (prog : Program) (w : World) (h₀ : Heap) (L : Addr) (s s' : Shared) : Prop
  | mk : ∀ h' tk' m W hm, s' = { s with heap := h', toks := tk' } → Fr h₀ L h' m → m "well" = some (.ref wd) → m "root" = some (.ref rt) → m "parts" = some (.ref pd) → m "home" = some (.ref hm) → News h₀ L h' (led w.params W) → Wf prog w W → (W .wd) = wd → LS prog w rt pd (L + 1) (L + 1 + 1) [p1, p2] W → Yg W rt [p1, p2] → ((hm = rt ∨ hm = p1.r)) → MH wd rt pd p1 p2 prog w h₀ L s s'
theorem LS.setW {prog : Program} {w : World} {rt pd c1 c2 : Addr} {ps : List PkD} {W : Sx} {o : Obj} {k : Int} {t : Tok} (h : LS prog w rt pd c1 c2 ps W) : LS prog w rt pd c1 c2 ps (W.setW o k t) := { nu := h.nu.setW, rt := { h.rt with pks := fun p hp => { h.rt.pks p hp with } }, parts := h.parts, cell1 := h.cell1, cell2 := h.cell2, cne := h.cne, dis := h.dis }
theorem Yg.setW {rt : Addr} {ps : List PkD} {W : Sx} {o : Obj} {k : Int} {t : Tok} (h : Yg W rt ps) : Yg (W.setW o k t) rt ps := { h with }
theorem inst_pre {prog : Program} {w : World} {rt pd c1 c2 hm : Addr} {p1 p2 : PkD} {W : Sx} (hL : LS prog w rt pd c1 c2 [p1, p2] W) (hY : Yg W rt [p1, p2]) (h1 : p1.nm = "p") (h2 : p2.nm = "q") (hh : hm = rt ∨ hm = p1.r) :
    ∃ n, Frm W hm rt n ∧ valueAt ((W .k0) hm) (Str.ofString "g") = none ∧ valueAt ((W .k4) rt) (Str.ofString "g") = none ∧ ((W .k0) hm).length ≤ 1000 ∧ ((W .k4) rt).length ≤ 1000 ∧ ((W .l1) hm).length ≤ 1000 := by
  have hg : Str.ofString "g" ∉ [p1, p2].map (·.nm) := by
    rw [List.map_cons, List.map_cons, List.map_nil, h1, h2]
    decide +kernel
  have hrt := hL.nu.rin
  have z2 : [p1, p2].length ≤ 1000 := by simp
  have z4 : ((W .k4) rt).length ≤ 1000 := Nat.le_trans hY.z4 z2
  have k4 := hY.none4 hg
  rcases hh with rfl | rfl
  · exact ⟨0, Frm.at hrt hL.rt.kd (by decide +kernel), hY.none0 hg, k4, Nat.le_trans hY.z0 z2, z4, Nat.le_trans hY.z1 z2⟩
  · obtain ⟨a, b, c⟩ := hY.pk p1 (.head _)
    have P := hL.rt.pks p1 (.head _)
    exact ⟨1, Frm.over P.r a (by decide +kernel) P.pa hrt hL.rt.kd (by decide +kernel), by rw [b]; rfl, k4, by rw [b]; exact Nat.zero_le _, z4, by rw [c]; exact Nat.zero_le _⟩
section
variable {prog : Program} {w : World} {P : Params} {W W' : Sx} {c : Addr} {oc : Obj} {vc : Option Value}
theorem Mm.off {p : Addr × Obj} (h : Mm W [] p) (hw : Wf prog w W) (hc : (c, oc) ∈ (W .ms)) (hd : oc.data = .cell vc) (hp : p.2.data ≠ .cell vc) : Mm W [c] p :=
  ⟨h.1, fun e => ms_ne hw (x := p.1) (o := p.2) h.1 hc (fun e' => hp (e' ▸ hd)) (List.mem_singleton.mp e)⟩
theorem GenD.off {g fl : Addr} {n : Nat} {vs : List Value} (h : GenD W [] g fl n vs) (hw : Wf prog w W) (hc : (c, oc) ∈ (W .ms)) (hd : oc.data = .cell vc) : GenD W [c] g fl n vs := by
  obtain ⟨a, dl, dt, n', t0, t1, x, b, d, e, f⟩ := h
  exact ⟨a, dl, dt, n', t0, t1, x, b, d.off hw hc hd (fun e => by cases e), e.off hw hc hd (fun e => by cases e), f.off hw hc hd (fun e => by cases e)⟩
theorem TyO.off {ty : Addr} {k nu pa : Value} (h : TyO P W [] ty k nu pa) (hw : Wf prog w W) (hc : (c, oc) ∈ (W .ms)) (hd : oc.data = .cell vc) : TyO P W [c] ty k nu pa := by
  obtain ⟨d, kt, nm, vs, a, b⟩ := h
  exact ⟨d, kt, nm, vs, a.off hw hc hd (fun e => by cases e), b.off hw hc hd (fun e => by cases e)⟩
theorem Hit.off {rg : Addr} {nm : Str} {n : Int} (h : Hit P W [] rg nm n) (hw : Wf prog w W) (hc : (c, oc) ∈ (W .ms)) (hd : oc.data = .cell vc) : Hit P W [c] rg nm n := by
  obtain ⟨l, n', e, sb, d, k0, k1, ty, t, a1, a2, a3, a4, a5, a6, a7, a8⟩ := h
  refine ⟨l, n', e, sb, d, k0, k1, ty, t, a1, a2.off hw hc hd (fun e => by cases e), a3, a4, a5, a6.off hw hc hd (fun e => by cases e), a7.off hw hc hd (fun e => by cases e), ?_⟩
  rcases a8 with ⟨t, t', a⟩ | ⟨t, t', n', hd', t1, t2, a, b⟩
  · exact .inl ⟨t, t', a.off hw hc hd⟩
  · exact .inr ⟨t, t', n', hd', t1, t2, a.off hw hc hd, b.off hw hc hd⟩
theorem Rows.off {rg : Addr} {ks : List (Option Str)} {ns : List Int} (h : Rows P W [] rg ks ns) (hw : Wf prog w W) (hc : (c, oc) ∈ (W .ms)) (hd : oc.data = .cell vc) : Rows P W [c] rg ks ns := by
  induction h with
  | nil => exact .nil
  | obj _ ih => exact .obj ih
  | hit a _ ih => exact .hit (a.off hw hc hd) ih
  | miss a _ ih => exact .miss a ih
theorem FL.off {vs : List Value} {ks : List (Option Str)} (h : FL (W .ms) vs ks) (hw : Wf prog w W) (hc : (c, oc) ∈ (W .ms)) (hd : oc.data = .cell vc) : FL ((W.delM c) .ms) vs ks := by
  induction h with
  | nil => exact .nil
  | ft a _ ih => exact .ft (ms_delM a (ms_ne hw a hc (fun e => by rw [← e] at hd; cases hd))) ih
  | fo a _ ih => exact .fo (ms_delM a (ms_ne hw a hc (fun e => by rw [← e] at hd; cases hd))) ih
end
structure IR (P : Params) (W : Sx) (c hm ar rg un ur nl : Addr) (ns : List Int) : Prop where
  ari : ar ∈ (W .rs)
  rgi : rg ∈ (W .rs)
  uri : ur ∈ (W .rs)
  uni : un ∈ (W .es)
  ne1 : ar ≠ rg
  ne2 : ar ≠ ur
  ne3 : rg ≠ ur
  kda : (W .kd) ar = "sub"
  kdr : (W .kd) rg = "package"
  kdu : (W .kd) ur = "package"
  paa : (W .pa) ar = .ref hm
  par : (W .pa) rg = .ref ar
  pau : (W .pa) ur = .ref rg
  gea : ∃ g fl n vs ks, (W .ge) ar = .ref g ∧ GenD W [c] g fl n vs ∧ FL ((W.delM c) .ms) vs ks ∧ Rows P W [c] rg ks ns
  ger : (W .ge) rg = .none
  geu : (W .ge) ur = .none
  l2a : (W .l2) ar = []
  l3a : (W .l3) ar = []
  l2r : (W .l2) rg = []
  l3r : (W .l3) rg = []
  l2u : (W .l2) ur = []
  l3u : (W .l3) ur = []
  er : (W .er) un = .ref ur
  num : ∃ vn n, (nl, PySem.W.listOf vn.toArray n) ∈ (W .ms) ∧ IntsAre vn ns ∧ vn.length ≤ 3
section
variable {prog : Program} {w : World} {P : Params} {W W' : Sx} {c hm ar rg un ur nl rt : Addr} {ns : List Int} {oc : Obj} {vc : Option Value}
theorem IR.of {W₀ : Sx} {nm : Str} {tup g : Addr} (h : InstR P rt W₀ W nm hm tup ar rg un ur nl g ns) (hw : Wf prog w W) (hc : (c, oc) ∈ (W .ms)) (hd : oc.data = .cell vc) : IR P W c hm ar rg un ur nl ns := by
  obtain ⟨fl, n, vs, ks, a1, a2, a3⟩ := h.gen
  exact ⟨h.ari, h.rgi, h.uri, h.uni, h.ne1, h.ne2, h.ne3, h.kda, h.kdr, h.kdu, h.paa, h.par, h.pau, ⟨g, fl, n, vs, ks, h.gea, a1.off hw hc hd, a2.off hw hc hd, a3.off hw hc hd⟩, h.ger, h.geu, h.l2a, h.l3a, h.l2r, h.l3r, h.l2u, h.l3u, h.er, h.num⟩
theorem ncell (hw : Wf prog w W) (hc : (c, oc) ∈ (W .ms)) {a : Addr} (h : a ∈ (W .rs)) : a ∉ [c] := fun e => rs_ne_ms hw h hc (List.mem_singleton.mp e)
theorem IR.kept (h : IR P W c hm ar rg un ur nl ns) (K : Kept [c] W W') (hw : Wf prog w W) (hc : (c, oc) ∈ (W .ms)) (hd : oc.data = .cell vc) (k0 : (W' .k0) rg = (W .k0) rg) : IR P W' c hm ar rg un ur nl ns := by
  obtain ⟨g, fl, n, vs, ks, a1, a2, a3, a4⟩ := h.gea
  obtain ⟨vn, n', b1, b2, b3⟩ := h.num
  have na := ncell hw hc h.ari
  have nr := ncell hw hc h.rgi
  have nu := ncell hw hc h.uri
  exact ⟨K.rs _ h.ari, K.rs _ h.rgi, K.rs _ h.uri, K.es _ h.uni, h.ne1, h.ne2, h.ne3, (K.kd _ h.ari).trans h.kda, (K.kd _ h.rgi).trans h.kdr, (K.kd _ h.uri).trans h.kdu, (K.pa _ h.ari).trans h.paa, (K.pa _ h.rgi).trans h.par, (K.pa _ h.uri).trans h.pau,
    ⟨g, fl, n, vs, ks, (K.ge _ h.ari na).trans a1, a2.kept K, a3.mono fun p hp => (by
      have hp' := List.mem_filter.mp hp
      exact ms_delM (K.ms p hp'.1 (by simpa using hp'.2)) (by simpa using hp'.2)), a4.kept K (fun nm v e => by rw [k0]; exact e) (fun nm _ e => by rw [k0]; exact e)⟩,
    (K.ge _ h.rgi nr).trans h.ger, (K.ge _ h.uri nu).trans h.geu, (K.l2 _ h.ari na).trans h.l2a, (K.l3 _ h.ari na).trans h.l3a, (K.l2 _ h.rgi nr).trans h.l2r, (K.l3 _ h.rgi nr).trans h.l3r, (K.l2 _ h.uri nu).trans h.l2u, (K.l3 _ h.uri nu).trans h.l3u,
    (K.er _ h.uni (fun e => es_ne_ms hw h.uni hc (List.mem_singleton.mp e))).trans h.er, ⟨vn, n', K.ms _ b1 (fun e => ms_ne hw b1 hc (fun e' => by rw [← e'] at hd; cases hd) (List.mem_singleton.mp e)), b2, b3⟩⟩
theorem IR.genr (h : IR P W c hm ar rg un ur nl ns) : GenR P W rg ns := by
  obtain ⟨g, fl, n, vs, ks, a1, a2, a3, a4⟩ := h.gea
  exact ⟨ar, g, fl, n, vs, ks, h.par, h.ari, a1, a2.less (fun x h => nomatch h), a3.mono (fun p hp => (List.mem_filter.mp hp).1), a4.less (fun x h => nomatch h)⟩
theorem IR.len (h : IR P W c hm ar rg un ur nl ns) : ns.length ≤ 3 := by
  obtain ⟨vn, n', b1, b2, b3⟩ := h.num
  rw [← b2.length]; exact b3
end
noncomputable def dn (ns : List Int) : SeenD := ⟨[], ns, []⟩
theorem Seen.dn {P : Params} {W : Sx} {a : Addr} {ns : List Int} (h2 : (W .l2) a = []) (h3 : (W .l3) a = []) (ho : HomesV P W (.ref a) ns) : Seen P W a (dn ns) :=
  ⟨by rw [h3]; exact .nil, ho, by rw [h2]; exact .nil, Nat.zero_le _⟩
structure HC (P : Params) (W : Sx) (rt : Addr) (p1 : PkD) (hm : Addr) (lo : List Addr) : Prop where
  sc : SC P W hm lo (lo.map fun _ => dn [])
  ge : (W .ge) hm = .none
  of : ∀ x ∈ lo, x = rt ∨ x = p1.r
  few : lo.length ≤ 2
theorem HC.at {prog : Program} {w : World} {P : Params} {rt pd c1 c2 hm : Addr} {p1 p2 : PkD} {W : Sx} (h : LS prog w rt pd c1 c2 [p1, p2] W) (hh : hm = rt ∨ hm = p1.r) : HC P W rt p1 hm (if hm = rt then [rt] else [p1.r, rt]) := by
  have hrt := h.nu.rin
  have s0 : SC P W rt [rt] [dn []] := .top hrt h.rt.pa (Seen.dn h.rt.l2 h.rt.l3 (.top hrt h.rt.pa))
  have P1 := h.rt.pks p1 (.head _)
  rcases hh with rfl | rfl
  · rw [if_pos rfl]
    exact ⟨s0, h.rt.ge, fun x hx => .inl (List.mem_singleton.mp hx), by simp⟩
  · rw [if_neg P1.ne]
    refine ⟨.up P1.r P1.pa (Seen.dn P1.l2 P1.l3 (.plain P1.r P1.pa hrt h.rt.ge)) s0, P1.ge, fun x hx => ?_, by simp⟩
    rcases List.mem_cons.mp hx with e | hx
    · exact .inr e
    · exact .inl (List.mem_singleton.mp hx)
theorem IR.sc {P : Params} {W : Sx} {c hm ar rg un ur nl : Addr} {ns : List Int} {lo : List Addr} {ds : List SeenD} (h : IR P W c hm ar rg un ur nl ns) (hs : SC P W hm lo ds) (hg : (W .ge) hm = .none) :
    SC P W ar (ar :: lo) (dn [] :: ds) ∧ SC P W rg (rg :: ar :: lo) (dn ns :: dn [] :: ds) ∧ SC P W ur (ur :: rg :: ar :: lo) (dn [] :: dn ns :: dn [] :: ds) := by
  have a : SC P W ar (ar :: lo) (dn [] :: ds) := .up h.ari h.paa (Seen.dn h.l2a h.l3a (.plain h.ari h.paa hs.mem hg)) hs
  have b : SC P W rg (rg :: ar :: lo) (dn ns :: dn [] :: ds) := .up h.rgi h.par (Seen.dn h.l2r h.l3r (.inst h.rgi h.genr h.len)) a
  exact ⟨a, b, .up h.uri h.pau (Seen.dn h.l2u h.l3u (.plain h.uri h.pau h.rgi h.ger)) b⟩
theorem LS.kept {prog : Program} {w : World} {rt pd c1 c2 : Addr} {ps : List PkD} {W W' : Sx} {oc : Obj} {vc : Option Value} (h : LS prog w rt pd c1 c2 ps W) (K : Kept [c2] W W') (hw : Wf prog w W) (hc : (c2, oc) ∈ (W .ms)) (hd : oc.data = .cell vc) (nu : NUok W' rt) (cell2 : ∃ v, CellAt W' c2 v) : LS prog w rt pd c1 c2 ps W' where
  nu := nu
  rt := h.rt.kept K h.nu.rin (ncell hw hc h.nu.rin) fun p hp => by
    have k := h.rt.pks p hp
    obtain ⟨t1, a⟩ := k.tpm
    obtain ⟨t2, b⟩ := k.qm
    exact ⟨ncell hw hc k.r, fun e => es_ne_ms hw k.e hc (List.mem_singleton.mp e), fun e => ms_ne hw a hc (tup_ne_cell hd) (List.mem_singleton.mp e), fun e => ms_ne hw b hc (tup_ne_cell hd) (List.mem_singleton.mp e)⟩
  parts := by
    obtain ⟨po, a, b⟩ := h.parts
    refine ⟨po, K.ms _ a (fun e => ?_), b⟩
    obtain ⟨es, ep, _, hd', _⟩ := b
    exact ms_ne hw a hc (fun e' => by rw [e', hd] at hd'; cases hd') (List.mem_singleton.mp e)
  cell1 := by
    obtain ⟨v, o, a, b⟩ := h.cell1
    exact ⟨v, o, K.ms _ a (fun e => h.cne (List.mem_singleton.mp e)), b⟩
  cell2 := cell2
  cne := h.cne
  dis := h.dis
noncomputable def FoK (W : Sx) (kvs : List (Int × Value)) (one : Int) (l : List Int) : Prop :=
  (valueAt kvs one = none ∧ l = []) ∨ ∃ a vs n, valueAt kvs one = some (.ref a) ∧ (a, PySem.W.listOf vs.toArray n) ∈ (W .ms) ∧ IntsAre vs l ∧ vs.length ≤ 3
noncomputable def F1 (r : Int) (ns : List Int) (one : Int) : List Int := if one = r then ns else []
noncomputable def F2 (r : Int) (ns : List Int) (r' : Int) (ns' : List Int) (one : Int) : List Int := if one = r then ns else if one = r' then ns' else []
theorem any_F1 {r : Int} {ns cns : List Int} {f : Int → Bool} : (cns.any fun one => (F1 r ns one).any f) = (cns.any (· == r) && ns.any f) := by
  induction cns with
  | nil => rfl
  | cons a l ih =>
    rw [List.any_cons, List.any_cons, ih]
    unfold F1
    by_cases e : a = r
    · rw [if_pos e, e]; cases ns.any f <;> simp
    · rw [if_neg e, beq_eq_false_iff_ne.mpr e]; rfl
theorem any_F2 {r r' : Int} {ns ns' cns : List Int} {f : Int → Bool} (h : r ≠ r') : (cns.any fun one => (F2 r ns r' ns' one).any f) = ((cns.any (· == r) && ns.any f) || (cns.any (· == r') && ns'.any f)) := by
  induction cns with
  | nil => rfl
  | cons a l ih =>
    rw [List.any_cons, List.any_cons, List.any_cons, ih]
    unfold F2
    by_cases e : a = r
    · subst e
      rw [if_pos rfl, beq_eq_false_iff_ne.mpr h, beq_self_eq_true]
      cases ns.any f <;> simp
    · rw [if_neg e, beq_eq_false_iff_ne.mpr e]
      by_cases e' : a = r'
      · rw [if_pos e', e', beq_self_eq_true]; cases ns'.any f <;> simp
      · rw [if_neg e', beq_eq_false_iff_ne.mpr e']; rfl
theorem seesB_cons {k hn : Int} {vis : Bool} {d : SeenD} {ds : List SeenD} : seesB k hn vis (d :: ds) = (d.tells k hn vis || seesB k hn vis ds) := rfl
theorem tells_dn {k hn : Int} {vis : Bool} {ns : List Int} : (dn ns).tells k hn vis = ns.any (· == k) := by
  unfold SeenD.tells dn; simp
theorem seesB_z {k hn : Int} {vis : Bool} {l : List Addr} : seesB k hn vis (l.map fun _ => dn []) = false := by
  induction l with
  | nil => rfl
  | cons a l ih => rw [List.map_cons, seesB_cons, ih, tells_dn]; rfl
structure PlOk (prog : Program) (w : World) (W : Sx) (rt : Addr) (p1 p2 : PkD) (place cl fo bl : Addr) (cns bns : List Int) (F : Int → List Int) (lp : List Addr) (d : SeenD) (ds : List SeenD) : Prop where
  sc : SC w.params W place lp (d :: ds)
  nin : place ∉ lp.tail
  npl : place ≠ rt ∧ place ≠ p1.r ∧ place ≠ p2.r
  cl : ∃ vs n, (cl, PySem.W.listOf vs.toArray n) ∈ (W .ms) ∧ IntsAre vs cns ∧ vs.length ≤ 10
  bl : ∃ vs n, (bl, PySem.W.listOf vs.toArray n) ∈ (W .ms) ∧ IntsAre vs bns ∧ vs.length ≤ 3
  fo : ∃ o kvs, (fo, o) ∈ (W .ms) ∧ o.IsDictOf (intKind prog w) kvs ∧ ∀ one, FoK W kvs one (F one)
  l3 : (W .l3) place = []
  l2 : (W .l2) place = [] ∨ ∃ o k t, (W .l2) place = [.ref o] ∧ o ∈ (W .es) ∧ (W .en) o = .int k t ∧ ∀ p ∈ [p1, p2], ∀ k' t', (W .en) p.e = .int k' t' → k ≠ k'
  dut : d.ut = []
  dus : d.us.length ≤ 1
  eq1 : ∀ p ∈ [p1, p2], (lp.any fun a => (W .nu) a == (W .nu) p.r) = cns.any (· == (W .nu) p.r)
  eq2 : ∀ p ∈ [p1, p2], ∀ k vis, seesB k ((W .nu) p.r) vis (d :: ds) = (bns.any (· == k) || cns.any fun one => (F one).any (· == k))
noncomputable def Fz (rt : Addr) (p1 p2 : PkD) (x : Addr) : Prop := x ≠ rt ∧ x ≠ p1.r ∧ x ≠ p2.r
theorem Fz.of {prog : Program} {w : World} {rt pd c1 c2 x : Addr} {p1 p2 : PkD} {W : Sx} (h : LS prog w rt pd c1 c2 [p1, p2] W) (hx : x ∉ addrs W) : Fz rt p1 p2 x :=
  ⟨fun e => hx (e ▸ rs_addrs h.nu.rin), fun e => hx (e ▸ rs_addrs (h.rt.pks p1 (.head _)).r), fun e => hx (e ▸ rs_addrs (h.rt.pks p2 (.tail _ (.head _))).r)⟩
theorem HC.no {P : Params} {W : Sx} {rt hm x : Addr} {p1 p2 : PkD} {lo : List Addr} (H : HC P W rt p1 hm lo) (h : Fz rt p1 p2 x) : x ∉ lo := fun e => (H.of x e).elim h.1 h.2.1
section
variable {prog : Program} {w : World} {W : Sx} {rt pd c1 c2 hm ar rg un ur nl cl fo bl : Addr} {p1 p2 : PkD} {ns cns : List Int} {lo : List Addr}
theorem any_nu {W : Sx} {l : List Addr} {z : Int} : (l.any fun a => (W .nu) a == z) = (l.map (W .nu)).any (· == z) := by rw [List.any_map]; rfl
theorem nu_in {W : Sx} {l : List Addr} {a : Addr} (h : a ∈ l) : (l.map (W .nu)).any (· == (W .nu) a) = true := by
  rw [List.any_map, List.any_eq_true]
  exact ⟨a, h, by simp⟩
theorem nu_off {W : Sx} {l : List Addr} {a : Addr} (hn : NUok W rt) (ha : a ∈ (W .rs)) (hl : ∀ x ∈ l, x ∈ (W .rs)) (h : a ∉ l) : (l.map (W .nu)).any (· == (W .nu) a) = false := by
  rw [List.any_map, List.any_eq_false]
  intro x hx e
  have e' : (W .nu) x = (W .nu) a := by simpa using e
  exact h (hn.inj x (hl x hx) a ha e' ▸ hx)
theorem Chain.all {W : Sx} {a : Addr} {l : List Addr} (h : Chain W a l) : ∀ x ∈ l, x ∈ (W .rs) := by
  induction h with
  | top h _ => intro x hx; rw [List.mem_singleton.mp hx]; exact h
  | up h _ _ ih =>
    intro x hx
    rcases List.mem_cons.mp hx with rfl | hx
    · exact h
    · exact ih x hx
theorem eq1_same {l : List Addr} {W : Sx} {p : PkD} : (l.any fun a => (W .nu) a == (W .nu) p.r) = (l.map (W .nu)).any (· == (W .nu) p.r) := any_nu
theorem eq1_more {l : List Addr} {x : Addr} (hn : NUok W rt) (hx : x ∈ (W .rs)) (hL : LS prog w rt pd c1 c2 [p1, p2] W) (hz : Fz rt p1 p2 x) : ∀ p ∈ [p1, p2], ((x :: l).any fun a => (W .nu) a == (W .nu) p.r) = (l.map (W .nu)).any (· == (W .nu) p.r) := fun p hp => by
  rw [List.any_cons, any_nu]
  have hne : x ≠ p.r := by
    rcases List.mem_cons.mp hp with rfl | hp
    · exact hz.2.1
    · rw [List.mem_singleton.mp hp]; exact hz.2.2
  have : ((W .nu) x == (W .nu) p.r) = false := by
    rw [beq_eq_false_iff_ne]
    exact fun e => hne (hn.inj x hx _ (hL.rt.pks p hp).r e)
  rw [this]; rfl
theorem way_ur (hL : LS prog w rt pd c1 c2 [p1, p2] W) (I : IR w.params W c2 hm ar rg un ur nl ns) (H : HC w.params W rt p1 hm lo) (za : Fz rt p1 p2 ar) (zr : Fz rt p1 p2 rg) (zu : Fz rt p1 p2 ur)
    (hcl : ∃ vs n, (cl, PySem.W.listOf vs.toArray n) ∈ (W .ms) ∧ IntsAre vs ((ur :: rg :: ar :: lo).map (W .nu)) ∧ vs.length ≤ 10) (hbl : ∃ vs n, (bl, PySem.W.listOf vs.toArray n) ∈ (W .ms) ∧ IntsAre vs [] ∧ vs.length ≤ 3)
    (hfo : ∃ o kvs, (fo, o) ∈ (W .ms) ∧ o.IsDictOf (intKind prog w) kvs ∧ ∀ one, FoK W kvs one (F1 ((W .nu) rg) ns one)) :
    PlOk prog w W rt p1 p2 ur cl fo bl ((ur :: rg :: ar :: lo).map (W .nu)) [] (F1 ((W .nu) rg) ns) (ur :: rg :: ar :: lo) (dn []) (dn ns :: dn [] :: lo.map fun _ => dn []) where
  sc := (I.sc H.sc H.ge).2.2
  nin := fun h => by
    rcases List.mem_cons.mp h with e | h
    · exact I.ne3 e.symm
    · rcases List.mem_cons.mp h with e | h
      · exact I.ne2 e.symm
      · exact H.no zu h
  npl := zu
  cl := hcl
  bl := hbl
  fo := hfo
  l3 := I.l3u
  l2 := .inl I.l2u
  dut := rfl
  dus := Nat.zero_le _
  eq1 := fun p _ => eq1_same
  eq2 := fun p _ k vis => by
    rw [seesB_cons, seesB_cons, seesB_cons, seesB_z, tells_dn, tells_dn, any_F1, nu_in (.tail _ (.head _))]
    simp
theorem way_rg (hL : LS prog w rt pd c1 c2 [p1, p2] W) (I : IR w.params W c2 hm ar rg un ur nl ns) (H : HC w.params W rt p1 hm lo) (za : Fz rt p1 p2 ar) (zr : Fz rt p1 p2 rg) (zu : Fz rt p1 p2 ur)
    (hcl : ∃ vs n, (cl, PySem.W.listOf vs.toArray n) ∈ (W .ms) ∧ IntsAre vs ((rg :: ar :: lo).map (W .nu)) ∧ vs.length ≤ 10) (hbl : ∃ vs n, (bl, PySem.W.listOf vs.toArray n) ∈ (W .ms) ∧ IntsAre vs [] ∧ vs.length ≤ 3)
    (hfo : ∃ o kvs, (fo, o) ∈ (W .ms) ∧ o.IsDictOf (intKind prog w) kvs ∧ ∀ one, FoK W kvs one (F1 ((W .nu) rg) ns one)) :
    PlOk prog w W rt p1 p2 rg cl fo bl ((rg :: ar :: lo).map (W .nu)) [] (F1 ((W .nu) rg) ns) (rg :: ar :: lo) (dn ns) (dn [] :: lo.map fun _ => dn []) where
  sc := (I.sc H.sc H.ge).2.1
  nin := fun h => by
    rcases List.mem_cons.mp h with e | h
    · exact I.ne1 e.symm
    · exact H.no zr h
  npl := zr
  cl := hcl
  bl := hbl
  fo := hfo
  l3 := I.l3r
  l2 := .inl I.l2r
  dut := rfl
  dus := Nat.zero_le _
  eq1 := fun p _ => eq1_same
  eq2 := fun p _ k vis => by
    rw [seesB_cons, seesB_cons, seesB_z, tells_dn, tells_dn, any_F1, nu_in (.head _)]
    simp
theorem way_ar (hL : LS prog w rt pd c1 c2 [p1, p2] W) (I : IR w.params W c2 hm ar rg un ur nl ns) (H : HC w.params W rt p1 hm lo) (za : Fz rt p1 p2 ar) (zr : Fz rt p1 p2 rg) (zu : Fz rt p1 p2 ur)
    (hcl : ∃ vs n, (cl, PySem.W.listOf vs.toArray n) ∈ (W .ms) ∧ IntsAre vs ((ar :: lo).map (W .nu)) ∧ vs.length ≤ 10) (hbl : ∃ vs n, (bl, PySem.W.listOf vs.toArray n) ∈ (W .ms) ∧ IntsAre vs [] ∧ vs.length ≤ 3)
    (hfo : ∃ o kvs, (fo, o) ∈ (W .ms) ∧ o.IsDictOf (intKind prog w) kvs ∧ ∀ one, FoK W kvs one (F1 ((W .nu) rg) ns one)) :
    PlOk prog w W rt p1 p2 ar cl fo bl ((ar :: lo).map (W .nu)) [] (F1 ((W .nu) rg) ns) (ar :: lo) (dn []) (lo.map fun _ => dn []) where
  sc := (I.sc H.sc H.ge).1
  nin := fun h => H.no za h
  npl := za
  cl := hcl
  bl := hbl
  fo := hfo
  l3 := I.l3a
  l2 := .inl I.l2a
  dut := rfl
  dus := Nat.zero_le _
  eq1 := fun p _ => eq1_same
  eq2 := fun p _ k vis => by
    have hal := (I.sc H.sc H.ge).1.chain.all
    rw [seesB_cons, seesB_z, tells_dn, any_F1, nu_off hL.nu I.rgi hal (fun h => by
      rcases List.mem_cons.mp h with e | h
      · exact I.ne1 e.symm
      · exact H.no zr h)]
    simp
theorem way_blk {x : Addr} (hL : LS prog w rt pd c1 c2 [p1, p2] W) (I : IR w.params W c2 hm ar rg un ur nl ns) (H : HC w.params W rt p1 hm lo) (zx : Fz rt p1 p2 x) (xi : x ∈ (W .rs)) (xp : (W .pa) x = .ref ur) (x2 : (W .l2) x = []) (x3 : (W .l3) x = []) (xa : x ≠ ar) (xr : x ≠ rg) (xu : x ≠ ur)
    (hcl : ∃ vs n, (cl, PySem.W.listOf vs.toArray n) ∈ (W .ms) ∧ IntsAre vs ((ur :: rg :: ar :: lo).map (W .nu)) ∧ vs.length ≤ 10) (hbl : ∃ vs n, (bl, PySem.W.listOf vs.toArray n) ∈ (W .ms) ∧ IntsAre vs [] ∧ vs.length ≤ 3)
    (hfo : ∃ o kvs, (fo, o) ∈ (W .ms) ∧ o.IsDictOf (intKind prog w) kvs ∧ ∀ one, FoK W kvs one (F1 ((W .nu) rg) ns one)) :
    PlOk prog w W rt p1 p2 x cl fo bl ((ur :: rg :: ar :: lo).map (W .nu)) [] (F1 ((W .nu) rg) ns) (x :: ur :: rg :: ar :: lo) (dn []) (dn [] :: dn ns :: dn [] :: lo.map fun _ => dn []) where
  sc := .up xi xp (Seen.dn x2 x3 (.plain xi xp I.uri I.geu)) (I.sc H.sc H.ge).2.2
  nin := fun h => by
    rcases List.mem_cons.mp h with e | h
    · exact xu e
    · rcases List.mem_cons.mp h with e | h
      · exact xr e
      · rcases List.mem_cons.mp h with e | h
        · exact xa e
        · exact H.no zx h
  npl := zx
  cl := hcl
  bl := hbl
  fo := hfo
  l3 := x3
  l2 := .inl x2
  dut := rfl
  dus := Nat.zero_le _
  eq1 := eq1_more hL.nu xi hL zx
  eq2 := fun p _ k vis => by
    rw [seesB_cons, seesB_cons, seesB_cons, seesB_cons, seesB_z, tells_dn, tells_dn, any_F1, nu_in (.tail _ (.head _))]
    simp
theorem way_more {ar' rg' un' ur' nl' : Addr} {ns' : List Int} (hL : LS prog w rt pd c1 c2 [p1, p2] W) (I : IR w.params W c2 hm ar rg un ur nl ns) (I' : IR w.params W c2 ur ar' rg' un' ur' nl' ns') (H : HC w.params W rt p1 hm lo) (zu' : Fz rt p1 p2 ur') (na : ur' ≠ ar) (nr : ur' ≠ rg) (nu : ur' ≠ ur) (nrr : rg ≠ rg')
    (hcl : ∃ vs n, (cl, PySem.W.listOf vs.toArray n) ∈ (W .ms) ∧ IntsAre vs ((ur' :: rg' :: ar' :: ur :: rg :: ar :: lo).map (W .nu)) ∧ vs.length ≤ 10) (hbl : ∃ vs n, (bl, PySem.W.listOf vs.toArray n) ∈ (W .ms) ∧ IntsAre vs [] ∧ vs.length ≤ 3)
    (hfo : ∃ o kvs, (fo, o) ∈ (W .ms) ∧ o.IsDictOf (intKind prog w) kvs ∧ ∀ one, FoK W kvs one (F2 ((W .nu) rg) ns ((W .nu) rg') ns' one)) :
    PlOk prog w W rt p1 p2 ur' cl fo bl ((ur' :: rg' :: ar' :: ur :: rg :: ar :: lo).map (W .nu)) [] (F2 ((W .nu) rg) ns ((W .nu) rg') ns') (ur' :: rg' :: ar' :: ur :: rg :: ar :: lo) (dn []) (dn ns' :: dn [] :: dn [] :: dn ns :: dn [] :: lo.map fun _ => dn []) where
  sc := (I'.sc (I.sc H.sc H.ge).2.2 I.geu).2.2
  nin := fun h => by
    rcases List.mem_cons.mp h with e | h
    · exact I'.ne3 e.symm
    · rcases List.mem_cons.mp h with e | h
      · exact I'.ne2 e.symm
      · rcases List.mem_cons.mp h with e | h
        · exact nu e
        · rcases List.mem_cons.mp h with e | h
          · exact nr e
          · rcases List.mem_cons.mp h with e | h
            · exact na e
            · exact H.no zu' h
  npl := zu'
  cl := hcl
  bl := hbl
  fo := hfo
  l3 := I'.l3u
  l2 := .inl I'.l2u
  dut := rfl
  dus := Nat.zero_le _
  eq1 := fun p _ => eq1_same
  eq2 := fun p _ k vis => by
    have e : (W .nu) rg ≠ (W .nu) rg' := fun e => nrr (hL.nu.inj _ I.rgi _ I'.rgi e)
    rw [seesB_cons, seesB_cons, seesB_cons, seesB_cons, seesB_cons, seesB_cons, seesB_z, tells_dn, tells_dn, tells_dn, any_F2 e, nu_in (.tail _ (.tail _ (.tail _ (.tail _ (.head _))))), nu_in (.tail _ (.head _))]
    cases ns.any fun x => x == k <;> cases ns'.any fun x => x == k <;> rfl
end
theorem way_sub {prog : Program} {w : World} {W : Sx} {rt pd c1 c2 hm ar rg un ur nl cl fo bl : Addr} {p1 p2 : PkD} {ns bns hs : List Int} {x o r' : Addr} {b : Bool} {k₀ : Int} {t₀ : Tok} (hL : LS prog w rt pd c1 c2 [p1, p2] W) (I : IR w.params W c2 hm ar rg un ur nl ns) (zr : Fz rt p1 p2 rg) (zx : Fz rt p1 p2 x) (xi : x ∈ (W .rs)) (xp : (W .pa) x = .ref rt) (x2 : (W .l2) x = [.ref o]) (x3 : (W .l3) x = [])
    (ho : UseE w.params W o ⟨b, (W .nu) r', hs⟩) (hr : r' ≠ p1.r ∧ r' ≠ p2.r) (hri : r' ∈ (W .rs)) (hbn : ∀ k : Int, bns.any (· == k) = (b && hs.any (· == k))) (hen : (W .en) o = .int k₀ t₀) (hen' : ∀ p ∈ [p1, p2], ∀ k' t', (W .en) p.e = .int k' t' → k₀ ≠ k')
    (hcl : ∃ vs n, (cl, PySem.W.listOf vs.toArray n) ∈ (W .ms) ∧ IntsAre vs [(W .nu) rt] ∧ vs.length ≤ 10) (hbl : ∃ vs n, (bl, PySem.W.listOf vs.toArray n) ∈ (W .ms) ∧ IntsAre vs bns ∧ vs.length ≤ 3)
    (hfo : ∃ o kvs, (fo, o) ∈ (W .ms) ∧ o.IsDictOf (intKind prog w) kvs ∧ ∀ one, FoK W kvs one (F1 ((W .nu) rg) ns one)) :
    PlOk prog w W rt p1 p2 x cl fo bl [(W .nu) rt] bns (F1 ((W .nu) rg) ns) [x, rt] ⟨[], [], [⟨b, (W .nu) r', hs⟩]⟩ [dn []] where
  sc := .up xi xp ⟨by rw [x3]; exact .nil, .plain xi xp hL.nu.rin hL.rt.ge, by rw [x2]; exact .cons ho .nil, by simp⟩ (.top hL.nu.rin hL.rt.pa (Seen.dn hL.rt.l2 hL.rt.l3 (.top hL.nu.rin hL.rt.pa)))
  nin := fun h => zx.1 (List.mem_singleton.mp h)
  npl := zx
  cl := hcl
  bl := hbl
  fo := hfo
  l3 := x3
  l2 := .inr ⟨o, k₀, t₀, x2, ho.mem, hen, hen'⟩
  dut := rfl
  dus := by simp
  eq1 := eq1_more (l := [rt]) hL.nu xi hL zx
  eq2 := fun p hp k vis => by
    have hne : r' ≠ p.r := by
      rcases List.mem_cons.mp hp with rfl | hp
      · exact hr.1
      · rw [List.mem_singleton.mp hp]; exact hr.2
    have e1 : ((W .nu) r' == (W .nu) p.r) = false := beq_eq_false_iff_ne.mpr fun e => hne (hL.nu.inj r' hri _ (hL.rt.pks p hp).r e)
    have e2 : ([(W .nu) rt].any (· == (W .nu) rg)) = false := by
      rw [List.any_cons, List.any_nil, Bool.or_false]
      exact beq_eq_false_iff_ne.mpr fun e => zr.1 (hL.nu.inj rt hL.nu.rin _ I.rgi e).symm
    rw [seesB_cons, seesB_cons, any_F1, e2, hbn, tells_dn]
    unfold SeenD.tells UseD.shows
    simp only [List.any_cons, List.any_nil, e1, Bool.or_false, Bool.false_or, Bool.and_false]
    rfl
noncomputable def loH (rt : Addr) (p1 : PkD) (hm : Addr) : List Addr := if hm = rt then [rt] else [p1.r, rt]
structure I2 (W : Sx) (ar ur : Addr) (nm : Str) : Prop where
  k0u : (W .k0) ur = []
  l1u : (W .l1) ur = []
  k4a : ∀ x, valueAt ((W .k4) ar) x ≠ none → x = nm ++ Str.ofString "__1" ∨ x ∈ [Str.ofString "t", Str.ofString "u", Str.ofString "n", Str.ofString "unit"]
  z4a : ((W .k4) ar).length ≤ 5
structure O3 (prog : Program) (w : World) (L rt pd : Addr) (p1 p2 : PkD) (W : Sx) (hm ar rg un ur nl ol : Addr) (ns : List Int) : Prop where
  ls : LS prog w rt pd (L + 1) (L + 1 + 1) [p1, p2] W
  ir : IR w.params W (L + 1 + 1) hm ar rg un ur nl ns
  i2 : I2 W ar ur (Str.ofString "g")
  hh : hm = rt ∨ hm = p1.r
  za : Fz rt p1 p2 ar
  zr : Fz rt p1 p2 rg
  zu : Fz rt p1 p2 ur
  out : ∃ ov on, (ol, PySem.W.listOf ov.toArray on) ∈ (W .ms) ∧ IntsAre ov ((loH rt p1 hm).map (W .nu))
inductive MO (wd rt pd : Addr) (p1 p2 : PkD) (prog : Program) (w : World) (h₀ : Heap) (L : Addr) (s s' : Shared) : Prop
  | mk : ∀ h' tk' m W hm ar rg un ur nl ol ns, s' = { s with heap := h', toks := tk' } → Fr h₀ L h' m → m "well" = some (.ref wd) → m "root" = some (.ref rt) → m "parts" = some (.ref pd) → m "around" = some (.ref ar) → m "region" = some (.ref rg) → m "unit" = some (.ref un) → m "numbers" = some (.ref nl) → m "outward" = some (.ref ol) → News h₀ L h' (led w.params W) → Wf prog w W → (W .wd) = wd → O3 prog w L rt pd p1 p2 W hm ar rg un ur nl ol ns → MO wd rt pd p1 p2 prog w h₀ L s s'
section
variable {prog : Program} {w : World} {W : Sx} {rt pd c1 c2 hm : Addr} {p1 p2 : PkD}
theorem out_eq (hL : LS prog w rt pd c1 c2 [p1, p2] W) (hh : hm = rt ∨ hm = p1.r) (e : (W .nu) hm = (W .nu) rt) : (loH rt p1 hm).map (W .nu) = [(W .nu) rt] := by
  have h : hm = rt := by
    rcases hh with h | h
    · exact h
    · exact hL.nu.inj _ (h ▸ (hL.rt.pks p1 (.head _)).r) _ hL.nu.rin e
  unfold loH; rw [if_pos h]; rfl
theorem out_ne (hh : hm = rt ∨ hm = p1.r) (e : ¬ (W .nu) hm = (W .nu) rt) : (loH rt p1 hm).map (W .nu) = [(W .nu) hm, (W .nu) rt] := by
  have h : ¬ hm = rt := fun h => e (h ▸ rfl)
  unfold loH; rw [if_neg h, hh.resolve_left h]; rfl
theorem HC.of' (h : LS prog w rt pd c1 c2 [p1, p2] W) (hh : hm = rt ∨ hm = p1.r) : HC w.params W rt p1 hm (loH rt p1 hm) := HC.at h hh
end
theorem kw_start2 {prog : Program} {w : World} {rt pd c1 c2 : Addr} {ps : List PkD} {W W₁ : Sx} (_ : LS prog w rt pd c1 c2 ps W₁) : Kept [c2] W W := Kept.refl
theorem loH_len {rt hm : Addr} {p1 : PkD} : (loH rt p1 hm).length ≤ 2 := by
  unfold loH
  by_cases h : hm = rt
  · rw [if_pos h]; simp
  · rw [if_neg h]; simp
theorem loH_fit {rt hm : Addr} {p1 : PkD} {f : Addr → Int} {k : Nat} (hk : k ≤ 100) : k + ((loH rt p1 hm).map f).length ≤ sizeLine := by
  rw [List.length_map, sizeLine_eq]
  have := loH_len (rt := rt) (hm := hm) (p1 := p1)
  omega
section
variable {prog : Program} {w : World} {A : Around} {E : Value → Shared → Prop} {s : Shared} {h₀ : Heap} {L c : Addr} {m : Str → Option Value} {news : List (Addr × Obj)} {o : Obj} {W W₁ : Sx}
theorem run_cellS {env : Env} {x : Str} {v : Value} {v₀ : Option Value} {Q : Unit → Shared → Prop} (F : Fr h₀ L s.heap m) (N : News h₀ L s.heap news) (S : Fold' w.params W news W₁) (hw : Wf prog w W) (hc : env.cells.lookup x = some c) (hl : (c, o) ∈ (W₁ .ms)) (hd : o.data = .cell v₀)
    (h : ∀ h' o', Fr h₀ L h' m → News h₀ L h' (led w.params ((W₁.delM c).addM (c, o'))) → Wf prog w ((W₁.delM c).addM (c, o')) → o'.data = .cell (some v) → (∀ p ∈ (W₁ .ms), p.2.data ≠ .cell v₀ → p ∈ ((W₁.delM c).addM (c, o')) .ms) → Q () { s with heap := h' })
    (hk : env.scope.kind = .function) (hx : env.kindOf x = some .cell) : wpAny (model prog w) A (storeName env x v) Q E s :=
  run_cellM F N S hw hc hl hd (fun h' o' F' N' hw' hd' => h h' o' F' N' hw' hd' fun p hp hn => .tail _ (ms_delM hp (ms_ne (S.wf hw) (x := p.1) (o := p.2) hp hl fun e => hn (e ▸ hd)))) hk hx
end
theorem dict_nc {prog : Program} {w : World} {o : Obj} {kvs : List (Int × Value)} {v : Option Value} (h : o.IsDictOf (intKind prog w) kvs) : o.data ≠ .cell v := fun e => by
  obtain ⟨es, ep, _, hd, _⟩ := h
  rw [e] at hd; cases hd
structure OW (prog : Program) (w : World) (L rt pd : Addr) (p1 p2 : PkD) (W : Sx) (hm ar rg un ur nl cl bl fo : Addr) (ns : List Int) (way : Int) : Prop where
  ls : LS prog w rt pd (L + 1) (L + 1 + 1) [p1, p2] W
  ir : IR w.params W (L + 1 + 1) hm ar rg un ur nl ns
  i2 : I2 W ar ur (Str.ofString "g")
  hh : hm = rt ∨ hm = p1.r
  za : Fz rt p1 p2 ar
  zr : Fz rt p1 p2 rg
  zu : Fz rt p1 p2 ur
  lo : 0 ≤ way
  hi : way < 6
  ocl : ∃ vs n, (cl, PySem.W.listOf vs.toArray n) ∈ (W .ms) ∧ IntsAre vs ((ur :: rg :: ar :: loH rt p1 hm).map (W .nu))
  obl : ∃ n, (bl, PySem.W.listOf ([] : List Value).toArray n) ∈ (W .ms)
  ofo : ∃ o, (fo, o) ∈ (W .ms) ∧ o.IsDictOf (intKind prog w) [((W .nu) rg, .ref nl)]
  c2 : ∃ o, (L + 1 + 1, o) ∈ (W .ms) ∧ o.data = .cell (some (.ref fo))
  flo : (fo == sysModules) = false
inductive MW (wd rt pd : Addr) (p1 p2 : PkD) (prog : Program) (w : World) (h₀ : Heap) (L : Addr) (s s' : Shared) : Prop
  | mk : ∀ h' tk' m W hm ar rg un ur nl cl bl fo ns way wt, s' = { s with heap := h', toks := tk' } → Fr h₀ L h' m → m "well" = some (.ref wd) → m "root" = some (.ref rt) → m "parts" = some (.ref pd) → m "around" = some (.ref ar) → m "region" = some (.ref rg) → m "unit" = some (.ref un) → m "numbers" = some (.ref nl) → m "place" = some (.ref ur) → m "chain" = some (.ref cl) → m "boxed" = some (.ref bl) → m "way" = some (.int way wt) → News h₀ L h' (led w.params W) → Wf prog w W → (W .wd) = wd → OW prog w L rt pd p1 p2 W hm ar rg un ur nl cl bl fo ns way → MW wd rt pd p1 p2 prog w h₀ L s s'
inductive M6 (wd rt pd : Addr) (p1 p2 : PkD) (prog : Program) (w : World) (h₀ : Heap) (L : Addr) (s s' : Shared) : Prop
  | mk : ∀ h' tk' m W place cl bl fo cns bns F lp d ds, s' = { s with heap := h', toks := tk' } → Fr h₀ L h' m → m "well" = some (.ref wd) → m "parts" = some (.ref pd) → m "place" = some (.ref place) → m "chain" = some (.ref cl) → m "boxed" = some (.ref bl) → News h₀ L h' (led w.params W) → Wf prog w W → (W .wd) = wd → LS prog w rt pd (L + 1) (L + 1 + 1) [p1, p2] W → (∃ o, (L + 1 + 1, o) ∈ (W .ms) ∧ o.data = .cell (some (.ref fo))) → PlOk prog w W rt p1 p2 place cl fo bl cns bns F lp d ds → (fo == sysModules) = false → M6 wd rt pd p1 p2 prog w h₀ L s s'
theorem loH_3 {rt hm ur rg ar : Addr} {p1 : PkD} {f : Addr → Int} : ((ur :: rg :: ar :: loH rt p1 hm).map f).length ≤ 5 := by
  rw [List.length_map, List.length_cons, List.length_cons, List.length_cons]
  have := loH_len (rt := rt) (hm := hm) (p1 := p1)
  omega
theorem fit5 {n : Nat} (h : n ≤ 5) : n ≤ sizeLine := by rw [sizeLine_eq]; omega
theorem LS.to {prog : Program} {w : World} {rt pd c1 c2 : Addr} {ps : List PkD} {W W' : Sx} {oc : Obj} {vc : Option Value} (_ : Wf prog w W') (h : LS prog w rt pd c1 c2 ps W) (hw : Wf prog w W) (hc : (c2, oc) ∈ (W .ms)) (hd : oc.data = .cell vc) (K : Kept [c2] W W') (nu : NUok W' rt) (hc' : (c2, oc) ∈ (W' .ms)) : LS prog w rt pd c1 c2 ps W' :=
  h.kept K hw hc hd nu ⟨_, _, hc', hd⟩
theorem IR.to {prog : Program} {w : World} {P : Params} {W W' : Sx} {c hm ar rg un ur nl : Addr} {ns : List Int} {oc : Obj} {vc : Option Value} (_ : Wf prog w W') (h : IR P W c hm ar rg un ur nl ns) (hw : Wf prog w W) (hc : (c, oc) ∈ (W .ms)) (hd : oc.data = .cell vc) (K : Kept [c] W W') (k0 : (W' .k0) rg = (W .k0) rg) : IR P W' c hm ar rg un ur nl ns :=
  h.kept K hw hc hd k0
theorem fok1 {W : Sx} {nl : Addr} {ns : List Int} {k : Int} (h : ∃ vn n, (nl, PySem.W.listOf vn.toArray n) ∈ (W .ms) ∧ IntsAre vn ns ∧ vn.length ≤ 3) : ∀ one, FoK W [(k, .ref nl)] one (F1 k ns one) := by
  obtain ⟨vn, n, a, b, c⟩ := h
  intro one
  by_cases e : one = k
  · subst e
    refine .inr ⟨nl, vn, n, ?_, a, ?_, c⟩
    · unfold valueAt; rw [List.find?_cons_of_pos (by simp)]; rfl
    · unfold F1; rw [if_pos rfl]; exact b
  · refine .inl ⟨?_, if_neg e⟩
    unfold valueAt
    rw [List.find?_cons_of_neg (by simpa using Ne.symm e)]; rfl
theorem fok2 {W : Sx} {nl nl' : Addr} {ns ns' : List Int} {k k' : Int} (hk : k ≠ k') (h : ∃ vn n, (nl, PySem.W.listOf vn.toArray n) ∈ (W .ms) ∧ IntsAre vn ns ∧ vn.length ≤ 3) (h' : ∃ vn n, (nl', PySem.W.listOf vn.toArray n) ∈ (W .ms) ∧ IntsAre vn ns' ∧ vn.length ≤ 3) :
    ∀ one, FoK W (stored [(k, .ref nl)] k' (.ref nl')) one (F2 k ns k' ns' one) := by
  have e0 : valueAt [(k, Value.ref nl)] k' = none := by
    unfold valueAt
    rw [List.find?_cons_of_neg (by simpa using hk)]; rfl
  rw [stored_absent e0]
  obtain ⟨vn, n, a, b, c⟩ := h
  obtain ⟨vn', n', a', b', c'⟩ := h'
  intro one
  by_cases e : one = k
  · subst e
    refine .inr ⟨nl, vn, n, ?_, a, ?_, c⟩
    · unfold valueAt; rw [List.cons_append, List.find?_cons_of_pos (by simp)]; rfl
    · unfold F2; rw [if_pos rfl]; exact b
  · by_cases e' : one = k'
    · subst e'
      refine .inr ⟨nl', vn', n', ?_, a', ?_, c'⟩
      · unfold valueAt
        rw [List.cons_append, List.find?_cons_of_neg (by simpa using hk), List.nil_append, List.find?_cons_of_pos (by simp)]; rfl
      · unfold F2; rw [if_neg e, if_pos rfl]; exact b'
    · refine .inl ⟨?_, ?_⟩
      · unfold valueAt
        rw [List.cons_append, List.find?_cons_of_neg (by simpa using Ne.symm e), List.nil_append, List.find?_cons_of_neg (by simpa using Ne.symm e')]; rfl
      · unfold F2; rw [if_neg e, if_neg e']
theorem len10 {vs : List Value} {ns : List Int} {n : Nat} (h : IntsAre vs ns) (hn : ns.length ≤ n) (h10 : n ≤ 10 := by decide) : vs.length ≤ 10 := by rw [h.length]; exact Nat.le_trans hn h10
theorem Kept.to {prog : Program} {w : World} {rt pd c1 c2 : Addr} {ps : List PkD} {W W' : Sx} (_ : Wf prog w W') (_ : LS prog w rt pd c1 c2 ps W) (h : Kept [c2] W W') : Kept [c2] W W' := h
theorem nu_map {X : List Addr} {W W' : Sx} {l : List Addr} (K : Kept X W W') (h : ∀ a ∈ l, a ∈ (W .rs)) : l.map (W' .nu) = l.map (W .nu) := List.map_congr_left fun a ha => K.nu a (h a ha)
theorem OW.all {prog : Program} {w : World} {L rt pd : Addr} {p1 p2 : PkD} {W : Sx} {hm ar rg un ur nl cl bl fo : Addr} {ns : List Int} {way : Int} (h : OW prog w L rt pd p1 p2 W hm ar rg un ur nl cl bl fo ns way) : ∀ a ∈ ur :: rg :: ar :: loH rt p1 hm, a ∈ (W .rs) := by
  have H := HC.of' h.ls h.hh
  exact (h.ir.sc H.sc H.ge).2.2.chain.all
inductive Good : Obj → Prop
  | inst {c d : Addr} : Good (instObj c d)
  | list {vs : Array Value} {n : Nat} : Good (PySem.W.listOf vs n)
  | tup {vs : Array Value} : Good { cls := .type "tuple", data := .seq vs }
  | dict {es : List DictEntry} {n : Nat} : 2 ≤ es.length → Good (dictOf es n)
noncomputable def Apart (oc : Obj) : Prop := ∀ o, Good o → o ≠ oc
theorem Apart.cell {oc : Obj} {v : Option Value} (h : oc.data = .cell v) : Apart oc := fun o g e => by
  rw [← e] at h
  cases g <;> cases h
theorem Apart.one {prog : Program} {w : World} {oc : Obj} {kv : Int × Value} (h : oc.IsDictOf (intKind prog w) [kv]) : Apart oc := fun o g e => by
  obtain ⟨es, ep, _, hd, _, hp, _⟩ := h
  rw [← e] at hd
  cases g with
  | inst => cases hd
  | list => cases hd
  | tup => cases hd
  | dict hl =>
    cases hd
    have := hp.length
    simp at this
    omega
section
variable {prog : Program} {w : World} {P : Params} {W W' : Sx} {c : Addr} {oc : Obj}
theorem Mm.offA {X : List Addr} {p : Addr × Obj} (h : Mm W X p) (hw : Wf prog w W) (hc : (c, oc) ∈ (W .ms)) (ha : Apart oc) (hp : Good p.2) : Mm W [c] p :=
  ⟨h.1, fun e => ms_ne hw (x := p.1) (o := p.2) h.1 hc (ha _ hp) (List.mem_singleton.mp e)⟩
theorem GenD.offA {X : List Addr} {g fl : Addr} {n : Nat} {vs : List Value} (h : GenD W X g fl n vs) (hw : Wf prog w W) (hc : (c, oc) ∈ (W .ms)) (ha : Apart oc) : GenD W [c] g fl n vs := by
  obtain ⟨a, dl, dt, n', t0, t1, x, b, d, e, f⟩ := h
  exact ⟨a, dl, dt, n', t0, t1, x, b, d.offA hw hc ha .list, e.offA hw hc ha .tup, f.offA hw hc ha .list⟩
theorem TyO.offA {X : List Addr} {ty : Addr} {k nu pa : Value} (h : TyO P W X ty k nu pa) (hw : Wf prog w W) (hc : (c, oc) ∈ (W .ms)) (ha : Apart oc) : TyO P W [c] ty k nu pa := by
  obtain ⟨d, kt, nm, vs, a, b⟩ := h
  exact ⟨d, kt, nm, vs, a.offA hw hc ha .inst, b.offA hw hc ha (.dict (by unfold typE; simp))⟩
theorem Hit.offA {X : List Addr} {rg : Addr} {nm : Str} {n : Int} (h : Hit P W X rg nm n) (hw : Wf prog w W) (hc : (c, oc) ∈ (W .ms)) (ha : Apart oc) : Hit P W [c] rg nm n := by
  obtain ⟨l, n', e, sb, d, k0, k1, ty, t, a1, a2, a3, a4, a5, a6, a7, a8⟩ := h
  refine ⟨l, n', e, sb, d, k0, k1, ty, t, a1, a2.offA hw hc ha .list, a3, a4, a5, a6.offA hw hc ha .inst, a7.offA hw hc ha (.dict (by unfold subE; simp)), ?_⟩
  rcases a8 with ⟨t, t', a⟩ | ⟨t, t', n', hd', t1, t2, a, b⟩
  · exact .inl ⟨t, t', a.offA hw hc ha⟩
  · exact .inr ⟨t, t', n', hd', t1, t2, a.offA hw hc ha, b.offA hw hc ha⟩
theorem Rows.offA {X : List Addr} {rg : Addr} {ks : List (Option Str)} {ns : List Int} (h : Rows P W X rg ks ns) (hw : Wf prog w W) (hc : (c, oc) ∈ (W .ms)) (ha : Apart oc) : Rows P W [c] rg ks ns := by
  induction h with
  | nil => exact .nil
  | obj _ ih => exact .obj ih
  | hit a _ ih => exact .hit (a.offA hw hc ha) ih
  | miss a _ ih => exact .miss a ih
theorem FL.offA {vs : List Value} {ks : List (Option Str)} {ms : List (Addr × Obj)} (h : FL ms vs ks) (hs : ∀ p ∈ ms, p ∈ (W .ms)) (hw : Wf prog w W) (hc : (c, oc) ∈ (W .ms)) (ha : Apart oc) : FL ((W.delM c) .ms) vs ks := by
  induction h with
  | nil => exact .nil
  | ft a _ ih => exact .ft (ms_delM (hs _ a) (ms_ne hw (hs _ a) hc (ha _ .tup))) ih
  | fo a _ ih => exact .fo (ms_delM (hs _ a) (ms_ne hw (hs _ a) hc (ha _ .tup))) ih
theorem IR.swap {c' hm ar rg un ur nl : Addr} {ns : List Int} (h : IR P W c' hm ar rg un ur nl ns) (hw : Wf prog w W) (hc : (c, oc) ∈ (W .ms)) (ha : Apart oc) : IR P W c hm ar rg un ur nl ns := by
  obtain ⟨g, fl, n, vs, ks, a1, a2, a3, a4⟩ := h.gea
  exact { h with gea := ⟨g, fl, n, vs, ks, a1, a2.offA hw hc ha, a3.offA (fun p hp => (List.mem_filter.mp hp).1) hw hc ha, a4.offA hw hc ha⟩ }
theorem IR.keptA {hm ar rg un ur nl : Addr} {ns : List Int} (_ : Wf prog w W') (h : IR P W c hm ar rg un ur nl ns) (hw : Wf prog w W) (hc : (c, oc) ∈ (W .ms)) (ha : Apart oc) (K : Kept [c] W W') (k0 : (W' .k0) rg = (W .k0) rg) : IR P W' c hm ar rg un ur nl ns := by
  obtain ⟨g, fl, n, vs, ks, a1, a2, a3, a4⟩ := h.gea
  obtain ⟨vn, n', b1, b2, b3⟩ := h.num
  have na := ncell hw hc h.ari
  have nr := ncell hw hc h.rgi
  have nu := ncell hw hc h.uri
  exact ⟨K.rs _ h.ari, K.rs _ h.rgi, K.rs _ h.uri, K.es _ h.uni, h.ne1, h.ne2, h.ne3, (K.kd _ h.ari).trans h.kda, (K.kd _ h.rgi).trans h.kdr, (K.kd _ h.uri).trans h.kdu, (K.pa _ h.ari).trans h.paa, (K.pa _ h.rgi).trans h.par, (K.pa _ h.uri).trans h.pau,
    ⟨g, fl, n, vs, ks, (K.ge _ h.ari na).trans a1, a2.kept K, a3.mono fun p hp => (by
      have hp' := List.mem_filter.mp hp
      exact ms_delM (K.ms p hp'.1 (by simpa using hp'.2)) (by simpa using hp'.2)), a4.kept K (fun nm v e => by rw [k0]; exact e) (fun nm _ e => by rw [k0]; exact e)⟩,
    (K.ge _ h.rgi nr).trans h.ger, (K.ge _ h.uri nu).trans h.geu, (K.l2 _ h.ari na).trans h.l2a, (K.l3 _ h.ari na).trans h.l3a, (K.l2 _ h.rgi nr).trans h.l2r, (K.l3 _ h.rgi nr).trans h.l3r, (K.l2 _ h.uri nu).trans h.l2u, (K.l3 _ h.uri nu).trans h.l3u,
    (K.er _ h.uni (fun e => es_ne_ms hw h.uni hc (List.mem_singleton.mp e))).trans h.er, ⟨vn, n', K.ms _ b1 (fun e => ms_ne hw b1 hc (ha _ .list) (List.mem_singleton.mp e)), b2, b3⟩⟩
end
theorem dict_len {prog : Program} {w : World} {o : Obj} {k k' : List (Int × Value)} (h : o.IsDictOf (intKind prog w) k) (h' : o.IsDictOf (intKind prog w) k') : k.length = k'.length := by
  obtain ⟨es, ep, _, hd, _, hp, _⟩ := h
  obtain ⟨es', ep', _, hd', _, hp', _⟩ := h'
  rw [hd] at hd'
  cases hd'
  rw [← hp.length, ← hp'.length]
theorem LS.keptA {prog : Program} {w : World} {rt pd c1 c2 c : Addr} {p1 p2 : PkD} {W W' : Sx} {oc : Obj} {kv : Int × Value} (_ : Wf prog w W') (h : LS prog w rt pd c1 c2 [p1, p2] W) (hw : Wf prog w W) (hc : (c, oc) ∈ (W .ms)) (hd : oc.IsDictOf (intKind prog w) [kv]) (K : Kept [c] W W') (nu : NUok W' rt) : LS prog w rt pd c1 c2 [p1, p2] W' where
  nu := nu
  rt := h.rt.kept K h.nu.rin (ncell hw hc h.nu.rin) fun p hp => by
    have k := h.rt.pks p hp
    obtain ⟨t1, a⟩ := k.tpm
    obtain ⟨t2, b⟩ := k.qm
    exact ⟨ncell hw hc k.r, fun e => es_ne_ms hw k.e hc (List.mem_singleton.mp e), fun e => ms_ne hw a hc (Apart.one hd _ .tup) (List.mem_singleton.mp e), fun e => ms_ne hw b hc (Apart.one hd _ .tup) (List.mem_singleton.mp e)⟩
  parts := by
    obtain ⟨po, a, b⟩ := h.parts
    refine ⟨po, K.ms _ a (fun e => ms_ne hw a hc (fun e' => ?_) (List.mem_singleton.mp e)), b⟩
    rw [e'] at b
    have := dict_len b hd
    simp at this
  cell1 := by
    obtain ⟨v, o, a, b⟩ := h.cell1
    exact ⟨v, o, K.ms _ a (fun e => ms_ne hw a hc (fun e' => dict_nc hd (by rw [← e', b])) (List.mem_singleton.mp e)), b⟩
  cell2 := by
    obtain ⟨v, o, a, b⟩ := h.cell2
    exact ⟨v, o, K.ms _ a (fun e => ms_ne hw a hc (fun e' => dict_nc hd (by rw [← e', b])) (List.mem_singleton.mp e)), b⟩
  cne := h.cne
  dis := h.dis
theorem inst_pre2 {P : Params} {W : Sx} {c hm ar rg un ur nl : Addr} {ns : List Int} (I : IR P W c hm ar rg un ur nl ns) (i2 : I2 W ar ur (Str.ofString "g")) :
    ∃ n, Frm W ur ar n ∧ valueAt ((W .k0) ur) (Str.ofString "h") = none ∧ valueAt ((W .k4) ar) (Str.ofString "h") = none ∧ ((W .k0) ur).length ≤ 1000 ∧ ((W .k4) ar).length ≤ 1000 ∧ ((W .l1) ur).length ≤ 1000 := by
  refine ⟨2, .up I.uri (by rw [I.kdu]; decide +kernel) I.pau (.up I.rgi (by rw [I.kdr]; decide +kernel) I.par (.here I.ari (by rw [I.kda]; decide +kernel))), by rw [i2.k0u]; rfl, ?_, by rw [i2.k0u]; exact Nat.zero_le _, Nat.le_trans i2.z4a (by decide), by rw [i2.l1u]; exact Nat.zero_le _⟩
  cases e : valueAt ((W .k4) ar) (Str.ofString "h") with
  | none => rfl
  | some v =>
    exfalso
    rcases i2.k4a _ (by rw [e]; exact fun h => by cases h) with h | h
    · exact absurd h (by decide +kernel)
    · exact absurd h (by decide +kernel)
theorem Kept.c2 {prog : Program} {w : World} {rt pd c1 c2 : Addr} {ps : List PkD} {W W' : Sx} (_ : LS prog w rt pd c1 c2 ps W) (h : Kept [] W W') : Kept [c2] W W' := h.more fun x h => nomatch h
theorem kw_fo {W : Sx} {fo : Addr} {o : Obj} (_ : (fo, o) ∈ (W .ms)) : Kept [fo] W W := Kept.refl
theorem loH_8 {rt hm ur rg ar : Addr} {p1 : PkD} {f : Addr → Int} {a b c : Int} : ([a, b, c] ++ (ur :: rg :: ar :: loH rt p1 hm).map f).length ≤ 8 := by
  rw [List.length_append]
  have := loH_3 (rt := rt) (hm := hm) (p1 := p1) (ur := ur) (rg := rg) (ar := ar) (f := f)
  simp only [List.length_cons, List.length_nil] at this ⊢
  omega
theorem Kept.toF {prog : Program} {w : World} {fo : Addr} {o : Obj} {W W' : Sx} (_ : Wf prog w W') (_ : (fo, o) ∈ (W .ms)) (h : Kept [fo] W W') : Kept [fo] W W' := h
theorem NUok.to {prog : Program} {w : World} {rt : Addr} {W' : Sx} (_ : Wf prog w W') (h : NUok W' rt) : NUok W' rt := h
theorem mem_to {prog : Program} {w : World} {W' : Sx} {p : Addr × Obj} (_ : Wf prog w W') (h : p ∈ (W' .ms)) : p ∈ (W' .ms) := h
section
variable {prog : Program} {w : World} {A : Around} {E : Value → Shared → Prop} {s : Shared} {h₀ : Heap} {L a : Addr} {news : List (Addr × Obj)} {k : Int} {u : Tok} {value slice : PySem.Expr} {Q : Value → Shared → Prop}
theorem tup3 {x y z : Value} (N : News h₀ L s.heap news) (hp : (a, ({ cls := .type "tuple", data := .seq [x, y, z].toArray } : Obj)) ∈ news) (h0 : 0 ≤ k) (h3 : k < 3) (h : ∀ v, v = x ∨ v = y ∨ v = z → Q v s)
    (hs : subscripted slice false (.ref a) (.int k u) = operate [.ref a, .int k u] (getItem (.ref a) (.int k u)) := by with_unfolding_all rfl) :
    wpAny (model prog w) A (subscriptTail value slice (.ref a) (.int k u)) Q E s := by
  rcases split3 h0 h3 with rfl | rfl | rfl
  · exact itemTupM N hp (by decide) (by decide) (j := 0) rfl rfl (h _ (.inl rfl)) hs
  · exact itemTupM N hp (by decide) (by decide) (j := 1) rfl rfl (h _ (.inr (.inl rfl))) hs
  · exact itemTupM N hp (by decide) (by decide) (j := 2) rfl rfl (h _ (.inr (.inr rfl))) hs
theorem tup3r {x z : Addr} (N : News h₀ L s.heap news) (hp : (a, ({ cls := .type "tuple", data := .seq [Value.ref x, .ref x, .ref z].toArray } : Obj)) ∈ news) (h0 : 0 ≤ k) (h3 : k < 3) (h : ∀ r, r = x ∨ r = z → Q (.ref r) s)
    (hs : subscripted slice false (.ref a) (.int k u) = operate [.ref a, .int k u] (getItem (.ref a) (.int k u)) := by with_unfolding_all rfl) :
    wpAny (model prog w) A (subscriptTail value slice (.ref a) (.int k u)) Q E s :=
  tup3 N hp h0 h3 (fun v hv => by
    rcases hv with rfl | rfl | rfl
    · exact h _ (.inl rfl)
    · exact h _ (.inl rfl)
    · exact h _ (.inr rfl)) hs
end
theorem ef_to {prog : Program} {w : World} {W : Sx} {e : Addr} {v : Value} (_ : Wf prog w W) (h : (W .ef) e 4 = v) : (W .ef) e 4 = v := h
theorem er_to {prog : Program} {w : World} {W : Sx} {e : Addr} {v : Value} (_ : Wf prog w W) (h : (W .er) e = v) : (W .er) e = v := h
theorem en_to {prog : Program} {w : World} {W : Sx} {e : Addr} {v : Value} (_ : Wf prog w W) (h : (W .en) e = v) : (W .en) e = v := h
theorem rs_to {prog : Program} {w : World} {W : Sx} {a : Addr} (_ : Wf prog w W) (h : a ∈ (W .rs)) : a ∈ (W .rs) := h
theorem es_to {prog : Program} {w : World} {W : Sx} {a : Addr} (_ : Wf prog w W) (h : a ∈ (W .es)) : a ∈ (W .es) := h
theorem wd_to {prog : Program} {w : World} {W : Sx} {a : Addr} (_ : Wf prog w W) (h : (W .wd) = a) : (W .wd) = a := h
theorem en_apart {prog : Program} {w : World} {rt pd c1 c2 : Addr} {p1 p2 : PkD} {W W' : Sx} {oc : Obj} {k₀ : Int} (hL : LS prog w rt pd c1 c2 [p1, p2] W) (hw : Wf prog w W) (hc : (c2, oc) ∈ (W .ms)) (K : Kept [c2] W W') (h0 : (W .mc) rt < k₀) :
    ∀ p ∈ [p1, p2], ∀ k' t', (W' .en) p.e = .int k' t' → k₀ ≠ k' := fun p hp k' t' e => by
  have P := hL.rt.pks p hp
  obtain ⟨k, t, a, b⟩ := P.en
  rw [K.en _ P.e (fun h => es_ne_ms hw P.e hc (List.mem_singleton.mp h)), a] at e
  cases e
  omega
noncomputable def hsF (r5 ur : Addr) (ns : List Int) : List Int := if r5 = ur then ns else []
theorem use_f {prog : Program} {w : World} {rt pd c1 c2 c hm ar rg un ur nl e r5 : Addr} {p1 p2 : PkD} {W : Sx} {ns : List Int} {b : Bool} {dv : Value} (hL : LS prog w rt pd c1 c2 [p1, p2] W) (I : IR w.params W c hm ar rg un ur nl ns) (zu : Fz rt p1 p2 ur)
    (he : e ∈ (W .es)) (her : (W .er) e = .ref r5) (hr5 : r5 = ur ∨ r5 = rt) (hdat : (W .ef) e 4 = dv) (hb : (b = true ∧ ∃ t, dv = .str "box" t) ∨ (b = false ∧ (dv = .none ∨ ∃ t, dv = .str "actuals" t))) : UseE w.params W e ⟨b, (W .nu) r5, hsF r5 ur ns⟩ where
  mem := he
  reg := by
    rcases hr5 with rfl | rfl
    · refine ⟨r5, her, I.uri, rfl, ?_⟩
      show HomesV w.params W ((W .pa) r5) (hsF r5 r5 ns)
      unfold hsF
      rw [I.pau, if_pos rfl]
      exact .inst I.rgi I.genr I.len
    · refine ⟨r5, her, hL.nu.rin, rfl, ?_⟩
      show HomesV w.params W ((W .pa) r5) (hsF r5 ur ns)
      unfold hsF
      rw [hL.rt.pa, if_neg (Ne.symm zu.1)]
      exact .none
  dat := by
    rw [hdat]
    rcases hb with ⟨h, t, rfl⟩ | ⟨h, h'⟩
    · exact .inl ⟨h, t, rfl⟩
    · exact .inr ⟨h, h'⟩
theorem way_f {prog : Program} {w : World} {rt pd c1 c2 hm ar rg un ur nl e r5 x cl bl fo : Addr} {p1 p2 : PkD} {W W6 : Sx} {oc : Obj} {vc : Option Value} {ns bns : List Int} {b : Bool} {dv : Value} {k₀ : Int} {t₀ : Tok} (z : Wf prog w W6) (hL : LS prog w rt pd c1 c2 [p1, p2] W) (hw : Wf prog w W) (hc : (c2, oc) ∈ (W .ms)) (hd : oc.data = .cell vc)
    (K : Kept [c2] W W6) (hnu : NUok W6 rt) (hc6 : (c2, oc) ∈ (W6 .ms)) (I : IR w.params W c2 hm ar rg un ur nl ns) (k0 : (W6 .k0) rg = (W .k0) rg) (zr : Fz rt p1 p2 rg) (zu : Fz rt p1 p2 ur) (hx : x ∉ addrs W) (xi : x ∈ (W6 .rs)) (xp : (W6 .pa) x = .ref rt) (x2 : (W6 .l2) x = [.ref e]) (x3 : (W6 .l3) x = [])
    (he : e ∈ (W6 .es)) (her : (W6 .er) e = .ref r5) (hr5 : r5 = ur ∨ r5 = rt) (hen : (W6 .en) e = .int k₀ t₀) (h0 : (W .mc) rt < k₀) (hdat : (W6 .ef) e 4 = dv) (hb : (b = true ∧ ∃ t, dv = .str "box" t) ∨ (b = false ∧ (dv = .none ∨ ∃ t, dv = .str "actuals" t)))
    (hbn : ∀ k : Int, bns.any (· == k) = (b && (hsF r5 ur ns).any (· == k)))
    (hcl : ∃ vs n, (cl, PySem.W.listOf vs.toArray n) ∈ (W6 .ms) ∧ IntsAre vs [(W .nu) rt] ∧ vs.length ≤ 10) (hbl : ∃ vs n, (bl, PySem.W.listOf vs.toArray n) ∈ (W6 .ms) ∧ IntsAre vs bns ∧ vs.length ≤ 3)
    (hfo : ∃ o, (fo, o) ∈ (W6 .ms) ∧ o.IsDictOf (intKind prog w) [((W .nu) rg, .ref nl)]) :
    LS prog w rt pd c1 c2 [p1, p2] W6 ∧ PlOk prog w W6 rt p1 p2 x cl fo bl [(W6 .nu) rt] bns (F1 ((W6 .nu) rg) ns) [x, rt] ⟨[], [], [⟨b, (W6 .nu) r5, hsF r5 ur ns⟩]⟩ [dn []] := by
  have hL6 := LS.to z hL hw hc hd K hnu hc6
  have I6 := IR.to z I hw hc hd K k0
  refine ⟨hL6, ?_⟩
  rw [← K.nu _ hL.nu.rin] at hcl
  rw [← K.nu _ I.rgi] at hfo
  obtain ⟨o, f1, f2⟩ := hfo
  refine way_sub hL6 I6 zr (Fz.of hL hx) xi xp x2 x3 (use_f hL6 I6 zu he her hr5 hdat hb) ?_ ?_ hbn hen (en_apart hL hw hc K h0) hcl hbl ⟨o, _, f1, f2, fok1 I6.num⟩
  · rcases hr5 with rfl | rfl
    · exact zu.2
    · exact ⟨(hL.rt.pks p1 (.head _)).ne.symm, (hL.rt.pks p2 (.tail _ (.head _))).ne.symm⟩
  · rcases hr5 with rfl | rfl
    · exact I6.uri
    · exact hL6.nu.rin
theorem mc_lt {W W1 : Sx} {x rt : Addr} (K : (W .mc) rt ≤ (W1 .mc) rt) (h : (W1 .ro) x = rt) : (W .mc) rt < (W1 .mc) ((W1 .ro) x) + 1 := by rw [h]; omega
theorem k0_to {prog : Program} {w : World} {W : Sx} {a : Addr} {v : List (Str × Value)} (_ : Wf prog w W) (h : (W .k0) a = v) : (W .k0) a = v := h
theorem pa_to {prog : Program} {w : World} {W : Sx} {a : Addr} {v : Value} (_ : Wf prog w W) (h : (W .pa) a = v) : (W .pa) a = v := h
theorem l2_to {prog : Program} {w : World} {W : Sx} {a : Addr} {v : List Value} (_ : Wf prog w W) (h : (W .l2) a = v) : (W .l2) a = v := h
theorem l3_to {prog : Program} {w : World} {W : Sx} {a : Addr} {v : List Value} (_ : Wf prog w W) (h : (W .l3) a = v) : (W .l3) a = v := h
theorem ints_one {k k' : Int} {t : Tok} (h : k = k') : IntsAre [.int k t] [k'] := h ▸ .cons _ _ .nil
theorem l2_one {W : Sx} {x : Addr} {v : Value} (h : (W .l2) x = []) : upd (W .l2) x ((W .l2) x ++ [v]) x = [v] := by rw [upd_same, h]; rfl
theorem M6.mk' {prog : Program} {w : World} {wd rt pd place cl bl fo L : Addr} {p1 p2 : PkD} {h₀ h' : Heap} {s : Shared} {m : Str → Option Value} {W : Sx} {cns bns : List Int} {F : Int → List Int} {lp : List Addr} {d : SeenD} {ds : List SeenD} {o : Obj} {tk' : Nat}
    (F' : Fr h₀ L h' m) (e1 : m "well" = some (.ref wd)) (e2 : m "parts" = some (.ref pd)) (e3 : m "place" = some (.ref place)) (e4 : m "chain" = some (.ref cl)) (e5 : m "boxed" = some (.ref bl)) (N : News h₀ L h' (led w.params W)) (hw : Wf prog w W) (hwd : (W .wd) = wd)
    (hc : (L + 1 + 1, o) ∈ (W .ms)) (hd : o.data = .cell (some (.ref fo))) (hl : (fo == sysModules) = false) (r : LS prog w rt pd (L + 1) (L + 1 + 1) [p1, p2] W ∧ PlOk prog w W rt p1 p2 place cl fo bl cns bns F lp d ds) :
    NextThen .next (M6 wd rt pd p1 p2 prog w h₀ L s { s with heap := h', toks := tk' }) :=
  ⟨rfl, h', tk', m, W, place, cl, bl, fo, cns, bns, F, lp, d, ds, rfl, F', e1, e2, e3, e4, e5, N, hw, hwd, r.1, ⟨o, hc, hd⟩, r.2, hl⟩
theorem hs_ne {W : Sx} {r5 ur rt : Addr} {ns : List Int} (h : r5 = ur ∨ r5 = rt) (e : (W .nu) r5 ≠ (W .nu) rt) : hsF r5 ur ns = ns := by
  unfold hsF
  rcases h with rfl | rfl
  · exact if_pos rfl
  · exact absurd rfl e
theorem hs_eq {W : Sx} {r5 ur rt : Addr} {p1 p2 : PkD} {ns : List Int} (hn : NUok W rt) (hr : r5 ∈ (W .rs)) (zu : Fz rt p1 p2 ur) (e : (W .nu) r5 = (W .nu) rt) : hsF r5 ur ns = [] := by
  unfold hsF
  rw [if_neg]
  rw [hn.inj _ hr _ hn.rin e]
  exact Ne.symm zu.1
noncomputable def NC (o : Obj) : Prop := ∀ v, o.data ≠ .cell v
theorem NC.good {o : Obj} (h : Good o) : NC o := fun v e => by cases h <;> cases e
theorem NC.dict {prog : Program} {w : World} {o : Obj} {kvs : List (Int × Value)} (h : o.IsDictOf (intKind prog w) kvs) : NC o := fun _ => dict_nc h
theorem FL.nc {ms ms' : List (Addr × Obj)} {vs : List Value} {ks : List (Option Str)} (h : FL ms vs ks) (hs : ∀ p ∈ ms, NC p.2 → p ∈ ms') : FL ms' vs ks := by
  induction h with
  | nil => exact .nil
  | ft a _ ih => exact .ft (hs _ a (NC.good .tup)) ih
  | fo a _ ih => exact .fo (hs _ a (NC.good .tup)) ih
structure Same (W W' : Sx) : Prop where
  rs : (W' .rs) = (W .rs)
  es : (W' .es) = (W .es)
  ms : ∀ p ∈ (W .ms), NC p.2 → p ∈ (W' .ms)
  pa : (W' .pa) = (W .pa)
  nu : (W' .nu) = (W .nu)
  ge : (W' .ge) = (W .ge)
  k0 : (W' .k0) = (W .k0)
  ef : (W' .ef) = (W .ef)
  er : (W' .er) = (W .er)
section
variable {P : Params} {W W' : Sx}
theorem Mm.same {X : List Addr} {p : Addr × Obj} (h : Mm W X p) (S : Same W W') (hg : Good p.2) : Mm W' X p := ⟨S.ms _ h.1 (NC.good hg), h.2⟩
theorem GenD.same {X : List Addr} {g fl : Addr} {n : Nat} {vs : List Value} (h : GenD W X g fl n vs) (S : Same W W') : GenD W' X g fl n vs := by
  obtain ⟨a, dl, dt, n', t0, t1, x, b, d, e, f⟩ := h
  exact ⟨S.es.symm ▸ a, dl, dt, n', t0, t1, x, by rw [S.ef]; exact b, d.same S .list, e.same S .tup, f.same S .list⟩
theorem TyO.same {X : List Addr} {ty : Addr} {k nu pa : Value} (h : TyO P W X ty k nu pa) (S : Same W W') : TyO P W' X ty k nu pa := by
  obtain ⟨d, kt, nm, vs, a, b⟩ := h
  exact ⟨d, kt, nm, vs, a.same S .inst, b.same S (.dict (by unfold typE; simp))⟩
theorem Hit.same {X : List Addr} {rg : Addr} {nm : Str} {n : Int} (h : Hit P W X rg nm n) (S : Same W W') : Hit P W' X rg nm n := by
  obtain ⟨l, n', e, sb, d, k0, k1, ty, t, a1, a2, a3, a4, a5, a6, a7, a8⟩ := h
  refine ⟨l, n', e, sb, d, k0, k1, ty, t, by rw [S.k0]; exact a1, a2.same S .list, S.es.symm ▸ a3, by rw [S.ef]; exact a4, by rw [S.ef]; exact a5, a6.same S .inst, a7.same S (.dict (by unfold subE; simp)), ?_⟩
  rcases a8 with ⟨t, t', a⟩ | ⟨t, t', n', hd', t1, t2, a, b⟩
  · exact .inl ⟨t, t', a.same S⟩
  · exact .inr ⟨t, t', n', hd', t1, t2, a.same S, b.same S⟩
theorem Rows.same {X : List Addr} {rg : Addr} {ks : List (Option Str)} {ns : List Int} (h : Rows P W X rg ks ns) (S : Same W W') : Rows P W' X rg ks ns := by
  induction h with
  | nil => exact .nil
  | obj _ ih => exact .obj ih
  | hit a _ ih => exact .hit (a.same S) ih
  | miss a _ ih => exact .miss (by rw [S.k0]; exact a) ih
theorem GenR.same {r : Addr} {ns : List Int} (h : GenR P W r ns) (S : Same W W') : GenR P W' r ns := by
  obtain ⟨b, g, fl, n, vs, ks, a1, a2, a3, a4, a5, a6⟩ := h
  exact ⟨b, g, fl, n, vs, ks, by rw [S.pa]; exact a1, S.rs.symm ▸ a2, by rw [S.ge]; exact a3, a4.same S, a5.nc S.ms, a6.same S⟩
theorem HomesV.same {v : Value} {ns : List Int} (h : HomesV P W v ns) (S : Same W W') : HomesV P W' v ns := by
  cases h with
  | none => exact .none
  | top a b => exact .top (S.rs.symm ▸ a) (by rw [S.pa]; exact b)
  | plain a b c d => exact .plain (S.rs.symm ▸ a) (by rw [S.pa]; exact b) (S.rs.symm ▸ c) (by rw [S.ge]; exact d)
  | inst a b c => exact .inst (S.rs.symm ▸ a) (b.same S) c
theorem UseE.same {e : Addr} {u : UseD} (h : UseE P W e u) (S : Same W W') : UseE P W' e u where
  mem := S.es.symm ▸ h.mem
  reg := by
    obtain ⟨rg, a, b, c, d⟩ := h.reg
    exact ⟨rg, by rw [S.er]; exact a, S.rs.symm ▸ b, by rw [S.nu]; exact c, by rw [S.pa]; exact d.same S⟩
  dat := by rw [S.ef]; exact h.dat
theorem UsesL.same {vs : List Value} {us : List UseD} (h : UsesL P W vs us) (S : Same W W') : UsesL P W' vs us := by
  induction h with
  | nil => exact .nil
  | cons a _ ih => exact .cons (a.same S) ih
theorem UsesL.snoc {vs : List Value} {us : List UseD} {e : Addr} {u : UseD} (h : UsesL P W vs us) (k : UseE P W e u) : UsesL P W (vs ++ [.ref e]) (us ++ [u]) := by
  induction h with
  | nil => exact .cons k .nil
  | cons a _ ih => exact .cons a ih
theorem Seen.same {a : Addr} {d : SeenD} (h : Seen P W a d) (S : Same W W') (h2 : (W' .l2) a = (W .l2) a) (h3 : (W' .l3) a = (W .l3) a) : Seen P W' a d :=
  ⟨by rw [h3]; exact h.ut, h.ho.same S, by rw [h2]; exact h.us.same S, h.few⟩
theorem SC.same {a : Addr} {l : List Addr} {ds : List SeenD} (h : SC P W a l ds) (S : Same W W') (h2 : ∀ x ∈ l, (W' .l2) x = (W .l2) x) (h3 : ∀ x ∈ l, (W' .l3) x = (W .l3) x) : SC P W' a l ds := by
  induction h with
  | top a b c => exact .top (S.rs.symm ▸ a) (by rw [S.pa]; exact b) (c.same S (h2 _ (.head _)) (h3 _ (.head _)))
  | up a b c _ ih => exact .up (S.rs.symm ▸ a) (by rw [S.pa]; exact b) (c.same S (h2 _ (.head _)) (h3 _ (.head _))) (ih (fun x hx => h2 x (.tail _ hx)) fun x hx => h3 x (.tail _ hx))
theorem SC.renew {a : Addr} {l : List Addr} {d d' : SeenD} {ds : List SeenD} (h : SC P W a l (d :: ds)) (S : Same W W') (h2 : ∀ x ∈ l.tail, (W' .l2) x = (W .l2) x) (h3 : ∀ x ∈ l.tail, (W' .l3) x = (W .l3) x) (hd : Seen P W' a d') : SC P W' a l (d' :: ds) := by
  cases h with
  | top a b c => exact .top (S.rs.symm ▸ a) (by rw [S.pa]; exact b) hd
  | up a b c k => exact .up (S.rs.symm ▸ a) (by rw [S.pa]; exact b) hd (k.same S h2 h3)
theorem SC.seen {a : Addr} {l : List Addr} {d : SeenD} {ds : List SeenD} (h : SC P W a l (d :: ds)) : Seen P W a d := by cases h <;> assumption
theorem same_app2 {a : Addr} {v : Value} : Same W (W.app2 a v) := ⟨rfl, rfl, fun _ h _ => h, rfl, rfl, rfl, rfl, rfl, rfl⟩
theorem same_app3 {a : Addr} {v : Value} : Same W (W.app3 a v) := ⟨rfl, rfl, fun _ h _ => h, rfl, rfl, rfl, rfl, rfl, rfl⟩
theorem same_setW {o : Obj} {k : Int} {t : Tok} : Same W (W.setW o k t) := ⟨rfl, rfl, fun _ h _ => h, rfl, rfl, rfl, rfl, rfl, rfl⟩
theorem same_addM {q : Addr × Obj} : Same W (W.addM q) := ⟨rfl, rfl, fun _ h _ => .tail _ h, rfl, rfl, rfl, rfl, rfl, rfl⟩
theorem Same.trans {W'' : Sx} (S : Same W W') (T : Same W' W'') : Same W W'' := ⟨T.rs.trans S.rs, T.es.trans S.es, fun p h n => T.ms p (S.ms p h n) n, T.pa.trans S.pa, T.nu.trans S.nu, T.ge.trans S.ge, T.k0.trans S.k0, T.ef.trans S.ef, T.er.trans S.er⟩
theorem SC.app2 {a e : Addr} {l : List Addr} {d : SeenD} {ds : List SeenD} {u : UseD} (h : SC P W a l (d :: ds)) (hn : a ∉ l.tail) (hf : d.us.length ≤ 1) (hu : UseE P W e u) : SC P (W.app2 a (.ref e)) a l (⟨d.ut, d.ho, d.us ++ [u]⟩ :: ds) := by
  have s := h.seen
  refine h.renew same_app2 (fun x hx => upd_ne _ _ fun e => hn (e ▸ hx)) (fun _ _ => rfl) ⟨s.ut, s.ho.same same_app2, ?_, by rw [List.length_append]; exact Nat.succ_le_succ hf⟩
  show UsesL P _ (upd (W .l2) a ((W .l2) a ++ [.ref e]) a) _
  rw [upd_same]
  exact (s.us.snoc hu).same same_app2
theorem SC.app3 {a : Addr} {l : List Addr} {d : SeenD} {ds : List SeenD} {k : Int} {t : Tok} (h : SC P W a l (d :: ds)) (hn : a ∉ l.tail) : SC P (W.app3 a (.int k t)) a l (⟨d.ut ++ [k], d.ho, d.us⟩ :: ds) := by
  have s := h.seen
  refine h.renew same_app3 (fun _ _ => rfl) (fun x hx => upd_ne _ _ fun e => hn (e ▸ hx)) ⟨?_, s.ho.same same_app3, s.us.same same_app3, s.few⟩
  show IntsAre (upd (W .l3) a ((W .l3) a ++ [.int k t]) a) _
  rw [upd_same]
  exact ints_snoc' s.ut
end
theorem add_use_any {prog : Program} {w : World} {mean : ExcName → Option Value} {mg mb : Str → Option Value} {dp un : Nat} {gd : Option (List Code)} {cn : Str} {cs : Scope} {a₀ : Addr} {ccd : Value} {cl : List (Str × Addr)} {outer : List Env} {A₀ : Around} {base h₀ : Heap} {L : Addr} {m : Str → Option Value} {s : Shared} {Q : Value → Shared → Prop} {E : Value → Shared → Prop} {W : Sx} {r e : Addr}
    (B : Below A₀ base outer h₀) (F : Fr h₀ L s.heap m) (X : (hd.heap_39 w.params).In h₀) (T : Top hd.view_39 (looseW hd.view_39 []) mean mg mb h₀) (hk : cs.kind = .function) (hroom : dp + 20 < recursionLimit) (hunits : un + 200 < cLine)
    (N : News h₀ L s.heap (led w.params W)) (hw : Wf prog w W) (hr : r ∈ (W .rs)) (he : e ∈ (W .es)) (hl : (W .l2) r = [] ∨ ∃ o k' t', (W .l2) r = [.ref o] ∧ o ∈ (W .es) ∧ (W .en) o = .int k' t' ∧ ∀ k t, (W .en) e = .int k t → k' ≠ k) (hn : ∃ k t, (W .en) e = .int k t)
    (ret : ∀ h' tk', Fr h₀ L h' m → News h₀ L h' (led w.params (W.app2 r (.ref e))) → Wf prog w (W.app2 r (.ref e)) → Q .none { s with heap := h', toks := tk' }) :
    wpAny (model prog w) (ktrTop dp un gd cn cs L a₀ ccd cl outer) (call (.ref 176) [.ref r, .ref e]) Q E s := by
  rcases hl with hl | ⟨o, k', t', hl, ho, hn', hne⟩
  · exact add_use_nil B F X T hk hroom hunits N hw hr he hl ret
  · obtain ⟨k, t, hk'⟩ := hn
    exact add_use_one B F X T hk hroom hunits N hw hr he ho hl hk' hn' (hne k t hk') ret
noncomputable def usedL (W : Sx) (p1 p2 : PkD) (u : Int) : List UseD := if u = 1 then [⟨false, (W .nu) p1.r, []⟩] else if u = 2 then [⟨false, (W .nu) p2.r, []⟩] else []
noncomputable def toldL (v : Int) : List Int := if v = 1 then [71] else if v = 2 then [72] else []
structure P7 (prog : Program) (w : World) (W : Sx) (p1 p2 : PkD) (place cl fo bl : Addr) (cns bns : List Int) (F : Int → List Int) (lp : List Addr) (d : SeenD) (ds : List SeenD) (u v : Int) : Prop where
  sc : SC w.params W place lp (⟨toldL v, d.ho, d.us ++ usedL W p1 p2 u⟩ :: ds)
  nin : place ∉ lp.tail
  ocl : ∃ vs n, (cl, PySem.W.listOf vs.toArray n) ∈ (W .ms) ∧ IntsAre vs cns ∧ vs.length ≤ 10
  obl : ∃ vs n, (bl, PySem.W.listOf vs.toArray n) ∈ (W .ms) ∧ IntsAre vs bns ∧ vs.length ≤ 3
  ofo : ∃ o kvs, (fo, o) ∈ (W .ms) ∧ o.IsDictOf (intKind prog w) kvs ∧ ∀ one, FoK W kvs one (F one)
  l3 : v = 0 → (W .l3) place = []
  dut : d.ut = []
  eq1 : ∀ p ∈ [p1, p2], (lp.any fun a => (W .nu) a == (W .nu) p.r) = cns.any (· == (W .nu) p.r)
  eq2 : ∀ p ∈ [p1, p2], ∀ k vis, seesB k ((W .nu) p.r) vis (d :: ds) = (bns.any (· == k) || cns.any fun one => (F one).any (· == k))
theorem FoK.same {W W' : Sx} {kvs : List (Int × Value)} {one : Int} {l : List Int} (h : FoK W kvs one l) (S : ∀ p ∈ (W .ms), NC p.2 → p ∈ (W' .ms)) : FoK W' kvs one l := by
  rcases h with h | ⟨a, vs, n, b, c, d, e⟩
  · exact .inl h
  · exact .inr ⟨a, vs, n, b, S _ c (NC.good .list), d, e⟩
section
variable {prog : Program} {w : World} {W : Sx} {rt pd c1 c2 place cl fo bl : Addr} {p1 p2 : PkD} {cns bns : List Int} {F : Int → List Int} {lp : List Addr} {d : SeenD} {ds : List SeenD} {u v : Int}
theorem PlOk.same {W' : Sx} (h : PlOk prog w W rt p1 p2 place cl fo bl cns bns F lp d ds) (S : Same W W') (h2 : (W' .l2) = (W .l2)) (h3 : (W' .l3) = (W .l3)) (hen : (W' .en) = (W .en)) : PlOk prog w W' rt p1 p2 place cl fo bl cns bns F lp d ds where
  sc := h.sc.same S (fun x _ => congrFun h2 x) (fun x _ => congrFun h3 x)
  nin := h.nin
  npl := h.npl
  cl := let ⟨vs, n, a, b, c⟩ := h.cl; ⟨vs, n, S.ms _ a (NC.good .list), b, c⟩
  bl := let ⟨vs, n, a, b, c⟩ := h.bl; ⟨vs, n, S.ms _ a (NC.good .list), b, c⟩
  fo := let ⟨o, kvs, a, b, c⟩ := h.fo; ⟨o, kvs, S.ms _ a (NC.dict b), b, fun one => (c one).same S.ms⟩
  l3 := by rw [h3]; exact h.l3
  l2 := by rw [h2, hen, S.es]; exact h.l2
  dut := h.dut
  dus := h.dus
  eq1 := by rw [S.nu]; exact h.eq1
  eq2 := by rw [S.nu]; exact h.eq2
theorem P7.same {W' : Sx} (h : P7 prog w W p1 p2 place cl fo bl cns bns F lp d ds u v) (S : Same W W') (h2 : (W' .l2) = (W .l2)) (h3 : (W' .l3) = (W .l3)) : P7 prog w W' p1 p2 place cl fo bl cns bns F lp d ds u v where
  sc := by
    have e := h.sc.same S (fun x _ => congrFun h2 x) (fun x _ => congrFun h3 x)
    have e' : usedL W' p1 p2 u = usedL W p1 p2 u := by unfold usedL; rw [S.nu]
    rw [e']; exact e
  nin := h.nin
  ocl := let ⟨vs, n, a, b, c⟩ := h.ocl; ⟨vs, n, S.ms _ a (NC.good .list), b, c⟩
  obl := let ⟨vs, n, a, b, c⟩ := h.obl; ⟨vs, n, S.ms _ a (NC.good .list), b, c⟩
  ofo := let ⟨o, kvs, a, b, c⟩ := h.ofo; ⟨o, kvs, S.ms _ a (NC.dict b), b, fun one => (c one).same S.ms⟩
  l3 := fun e => by rw [h3]; exact h.l3 e
  dut := h.dut
  eq1 := by rw [S.nu]; exact h.eq1
  eq2 := by rw [S.nu]; exact h.eq2
theorem PlOk.l2p {p : PkD} (h : PlOk prog w W rt p1 p2 place cl fo bl cns bns F lp d ds) (hp : p ∈ [p1, p2]) : (W .l2) place = [] ∨ ∃ o k' t', (W .l2) place = [.ref o] ∧ o ∈ (W .es) ∧ (W .en) o = .int k' t' ∧ ∀ k t, (W .en) p.e = .int k t → k' ≠ k := by
  rcases h.l2 with e | ⟨o, k, t, a, b, c, e⟩
  · exact .inl e
  · exact .inr ⟨o, k, t, a, b, c, e p hp⟩
theorem LS.enp {p : PkD} (h : LS prog w rt pd c1 c2 [p1, p2] W) (hp : p ∈ [p1, p2]) : ∃ k t, (W .en) p.e = .int k t := by
  have kk := h.rt.pks p hp
  obtain ⟨k, t, a, _⟩ := kk.en
  exact ⟨k, t, a⟩
theorem LS.setW2 {o o' : Obj} {k k' : Int} {t t' : Tok} {q : Addr × Obj} (_ : Wf prog w ((W.setW o k t).setW o' k' t')) (h : LS prog w rt pd c1 c2 [p1, p2] W) : LS prog w rt pd c1 c2 [p1, p2] (((W.setW o k t).setW o' k' t').addM q) := h.setW.setW.addM
theorem PlOk.setW2 {o o' : Obj} {k k' : Int} {t t' : Tok} {q : Addr × Obj} (_ : Wf prog w ((W.setW o k t).setW o' k' t')) (h : PlOk prog w W rt p1 p2 place cl fo bl cns bns F lp d ds) : PlOk prog w (((W.setW o k t).setW o' k' t').addM q) rt p1 p2 place cl fo bl cns bns F lp d ds :=
  h.same ((same_setW.trans same_setW).trans same_addM) rfl rfl rfl
theorem PlOk.p7 (h : PlOk prog w W rt p1 p2 place cl fo bl cns bns F lp d ds) (hu : u ≠ 1) (hu' : u ≠ 2) : P7 prog w W p1 p2 place cl fo bl cns bns F lp d ds u 0 where
  sc := by
    have e : usedL W p1 p2 u = [] := by unfold usedL; rw [if_neg hu, if_neg hu']
    have e' : (⟨toldL 0, d.ho, d.us ++ usedL W p1 p2 u⟩ : SeenD) = d := by
      rw [e, List.append_nil]
      have := h.dut
      cases d
      simp only at this
      subst this
      rfl
    rw [e']; exact h.sc
  nin := h.nin
  ocl := h.cl
  obl := h.bl
  ofo := h.fo
  l3 := fun _ => h.l3
  dut := h.dut
  eq1 := h.eq1
  eq2 := h.eq2
theorem use_p {p : PkD} (h : LS prog w rt pd c1 c2 [p1, p2] W) (hp : p ∈ [p1, p2]) : UseE w.params W p.e ⟨false, (W .nu) p.r, []⟩ :=
  have k := h.rt.pks p hp
  ⟨k.e, ⟨p.r, k.er, k.r, rfl, k.pa ▸ .top h.nu.rin h.rt.pa⟩, .inr ⟨rfl, .inl k.dat⟩⟩
theorem PlOk.use {p : PkD} (h : PlOk prog w W rt p1 p2 place cl fo bl cns bns F lp d ds) (hL : LS prog w rt pd c1 c2 [p1, p2] W) (hp : p ∈ [p1, p2]) (hu : usedL W p1 p2 u = [⟨false, (W .nu) p.r, []⟩]) : P7 prog w (W.app2 place (.ref p.e)) p1 p2 place cl fo bl cns bns F lp d ds u 0 where
  sc := by
    have e := h.sc.app2 h.nin h.dus (use_p hL hp)
    rw [← hu, h.dut] at e
    exact e
  nin := h.nin
  ocl := h.cl
  obl := h.bl
  ofo := by
    obtain ⟨o, kvs, a, b, c⟩ := h.fo
    exact ⟨o, kvs, a, b, fun one => (c one).same fun _ h _ => h⟩
  l3 := fun _ => h.l3
  dut := h.dut
  eq1 := h.eq1
  eq2 := h.eq2
theorem P7.told {t : Tok} {k : Int} (h : P7 prog w W p1 p2 place cl fo bl cns bns F lp d ds u 0) (hv : toldL v = [k]) : P7 prog w (W.app3 place (.int k t)) p1 p2 place cl fo bl cns bns F lp d ds u v where
  sc := by
    have e := h.sc.app3 (k := k) (t := t) h.nin
    rw [show ((⟨toldL 0, d.ho, d.us ++ usedL W p1 p2 u⟩ : SeenD).ut ++ [k]) = [k] from rfl, ← hv] at e
    exact e
  nin := h.nin
  ocl := h.ocl
  obl := h.obl
  ofo := by
    obtain ⟨o, kvs, a, b, c⟩ := h.ofo
    exact ⟨o, kvs, a, b, fun one => (c one).same fun _ h _ => h⟩
  l3 := fun e => by subst e; cases hv
  dut := h.dut
  eq1 := h.eq1
  eq2 := h.eq2
theorem P7.off (h : P7 prog w W p1 p2 place cl fo bl cns bns F lp d ds u 0) (hv : v ≠ 1) (hv' : v ≠ 2) : P7 prog w W p1 p2 place cl fo bl cns bns F lp d ds u v where
  sc := by
    have e : toldL v = [] := by unfold toldL; rw [if_neg hv, if_neg hv']
    rw [e]; exact h.sc
  nin := h.nin
  ocl := h.ocl
  obl := h.obl
  ofo := h.ofo
  l3 := fun _ => h.l3 rfl
  dut := h.dut
  eq1 := h.eq1
  eq2 := h.eq2
theorem LS.app2 {a : Addr} {x : Value} (h : LS prog w rt pd c1 c2 [p1, p2] W) (hn : a ≠ rt ∧ a ≠ p1.r ∧ a ≠ p2.r) : LS prog w rt pd c1 c2 [p1, p2] (W.app2 a x) where
  nu := h.nu.app2
  rt := { h.rt with
    l2 := (upd_ne _ _ hn.1.symm).trans h.rt.l2
    pks := fun p hp => by
      have k := h.rt.pks p hp
      have hne : p.r ≠ a := by
        rcases List.mem_cons.mp hp with rfl | hp
        · exact hn.2.1.symm
        · rw [List.mem_singleton.mp hp]; exact hn.2.2.symm
      exact { k with l2 := (upd_ne _ _ hne).trans k.l2 } }
  parts := h.parts
  cell1 := h.cell1
  cell2 := h.cell2
  cne := h.cne
  dis := h.dis
theorem LS.app3 {a : Addr} {x : Value} (h : LS prog w rt pd c1 c2 [p1, p2] W) (hn : a ≠ rt ∧ a ≠ p1.r ∧ a ≠ p2.r) : LS prog w rt pd c1 c2 [p1, p2] (W.app3 a x) where
  nu := h.nu.app3
  rt := { h.rt with
    l3 := (upd_ne _ _ hn.1.symm).trans h.rt.l3
    pks := fun p hp => by
      have k := h.rt.pks p hp
      have hne : p.r ≠ a := by
        rcases List.mem_cons.mp hp with rfl | hp
        · exact hn.2.1.symm
        · rw [List.mem_singleton.mp hp]; exact hn.2.2.symm
      exact { k with l3 := (upd_ne _ _ hne).trans k.l3 } }
  parts := h.parts
  cell1 := h.cell1
  cell2 := h.cell2
  cne := h.cne
  dis := h.dis
end
inductive M7 (wd rt pd : Addr) (p1 p2 : PkD) (place cl bl fo : Addr) (cns bns : List Int) (F : Int → List Int) (lp : List Addr) (d : SeenD) (ds : List SeenD) (u v : Int) (tu tv : Tok) (v' : Int) (prog : Program) (w : World) (h₀ : Heap) (L : Addr) (s s' : Shared) : Prop
  | mk : ∀ h' tk' m W, s' = { s with heap := h', toks := tk' } → Fr h₀ L h' m → m "well" = some (.ref wd) → m "parts" = some (.ref pd) → m "place" = some (.ref place) → m "chain" = some (.ref cl) → m "boxed" = some (.ref bl) → m "used" = some (.int u tu) → m "told" = some (.int v' tv) → News h₀ L h' (led w.params W) → Wf prog w W → (W .wd) = wd → LS prog w rt pd (L + 1) (L + 1 + 1) [p1, p2] W → (∃ o, (L + 1 + 1, o) ∈ (W .ms) ∧ o.data = .cell (some (.ref fo))) → P7 prog w W p1 p2 place cl fo bl cns bns F lp d ds u v → M7 wd rt pd p1 p2 place cl bl fo cns bns F lp d ds u v tu tv v' prog w h₀ L s s'
section
variable {prog : Program} {w : World} {W W' : Sx} {rt pd c1 c2 : Addr} {p1 p2 : PkD}
theorem same_cell {c : Addr} {oc o' : Obj} {v : Option Value} (hw : Wf prog w W) (hc : (c, oc) ∈ (W .ms)) (hd : oc.data = .cell v) : Same W ((W.delM c).addM (c, o')) :=
  ⟨rfl, rfl, fun p hp hn => .tail _ (ms_delM hp (ms_ne hw (x := p.1) (o := p.2) hp hc (fun e => hn v (e ▸ hd)))), rfl, rfl, rfl, rfl, rfl, rfl⟩
theorem same_del {I : Addr} (hI : I ∉ addrs W) (S : Same W W') : Same W (W'.delM I) :=
  ⟨S.rs, S.es, fun p hp hn => ms_delM (S.ms p hp hn) (fun e => hI (e ▸ addrs_ms2 (x := p.1) (o := p.2) hp)), S.pa, S.nu, S.ge, S.k0, S.ef, S.er⟩
theorem LS.cell1s {oc o' : Obj} {v v' : Option Value} (h : LS prog w rt pd c1 c2 [p1, p2] W) (hw : Wf prog w W) (hc : (c1, oc) ∈ (W .ms)) (hd : oc.data = .cell v) (hd' : o'.data = .cell v') : LS prog w rt pd c1 c2 [p1, p2] ((W.delM c1).addM (c1, o')) where
  nu := h.nu.delM.addM
  rt := { h.rt with pks := fun p hp => let k := h.rt.pks p hp; { k with
            tpm := let ⟨t, a⟩ := k.tpm; ⟨t, .tail _ (ms_delM a (ms_ne hw a hc (tup_ne_cell hd)))⟩,
            qm := let ⟨t, a⟩ := k.qm; ⟨t, .tail _ (ms_delM a (ms_ne hw a hc (tup_ne_cell hd)))⟩ } }
  parts := let ⟨po, a, b⟩ := h.parts; ⟨po, .tail _ (ms_delM a (ms_ne hw a hc (fun e => NC.dict b v ((congrArg Obj.data e).trans hd)))), b⟩
  cell1 := ⟨v', o', .head _, hd'⟩
  cell2 := let ⟨v, o, a, b⟩ := h.cell2; ⟨v, o, .tail _ (ms_delM a h.cne.symm), b⟩
  cne := h.cne
  dis := h.dis
end
structure LJ (prog : Program) (w : World) (L rt pd : Addr) (p1 p2 : PkD) (place cl bl fo : Addr) (cns bns : List Int) (F : Int → List Int) (lp : List Addr) (d : SeenD) (ds : List SeenD) (u v : Int) (tu tv : Tok) (m : Str → Option Value) (W : Sx) : Prop where
  m2 : m "parts" = some (.ref pd)
  m3 : m "place" = some (.ref place)
  m4 : m "chain" = some (.ref cl)
  m5 : m "boxed" = some (.ref bl)
  m6 : m "used" = some (.int u tu)
  m7 : m "told" = some (.int v tv)
  ls : LS prog w rt pd (L + 1) (L + 1 + 1) [p1, p2] W
  c2 : ∃ o, (L + 1 + 1, o) ∈ (W .ms) ∧ o.data = .cell (some (.ref fo))
  p7 : P7 prog w W p1 p2 place cl fo bl cns bns F lp d ds u v
noncomputable def dueA (W : Sx) (cns : List Int) (p : PkD) (u v key : Int) : Bool := (cns.any (· == (W .nu) p.r) || v == key - 70) || (u == key - 70 && p.part == Str.ofString "visible")
noncomputable def dueB (bns cns : List Int) (F : Int → List Int) (key : Int) : Bool := bns.any (· == key) || cns.any fun one => (F one).any (· == key)
theorem nu_ne {prog : Program} {w : World} {W : Sx} {rt pd c1 c2 : Addr} {p1 p2 : PkD} (h : LS prog w rt pd c1 c2 [p1, p2] W) : (W .nu) p1.r ≠ (W .nu) p2.r := fun e => by
  have a := h.nu.inj _ (h.rt.pks p1 (.head _)).r _ (h.rt.pks p2 (.tail _ (.head _))).r e
  have := h.dis
  rw [List.map_cons, List.map_cons, List.map_nil, List.nodup_cons] at this
  exact this.1 (by rw [a]; exact .head _)
theorem law_plain {prog : Program} {w : World} {W : Sx} {rt pd c1 c2 place cl fo bl : Addr} {p1 p2 p : PkD} {cns bns : List Int} {F : Int → List Int} {lp : List Addr} {d : SeenD} {ds : List SeenD} {u v : Int} (hL : LS prog w rt pd c1 c2 [p1, p2] W) (h : P7 prog w W p1 p2 place cl fo bl cns bns F lp d ds u v) (h1 : p1.key = 71) (h2 : p2.key = 72) (hp : p ∈ [p1, p2]) :
    ((lp.any fun a => (W .nu) a == (W .nu) p.r) || seesB p.key ((W .nu) p.r) (p.part == Str.ofString "visible") (⟨toldL v, d.ho, d.us ++ usedL W p1 p2 u⟩ :: ds)) = (dueA W cns p u v p.key || dueB bns cns F p.key) := by
  have e1 := h.eq1 p hp
  have e2 := h.eq2 p hp p.key (p.part == Str.ofString "visible")
  have hne := nu_ne hL
  have ht : (toldL v).any (· == p.key) = (v == p.key - 70) := by
    unfold toldL
    rcases List.mem_cons.mp hp with rfl | hp'
    · rw [h1]
      by_cases a : v = 1
      · subst a; rfl
      · rw [if_neg a, beq_eq_false_iff_ne.mpr (show v ≠ 71 - 70 from a)]
        by_cases b : v = 2
        · subst b; rfl
        · rw [if_neg b]; rfl
    · rw [List.mem_singleton.mp hp', h2]
      by_cases a : v = 1
      · subst a; rfl
      · rw [if_neg a]
        by_cases b : v = 2
        · subst b; rfl
        · rw [if_neg b, beq_eq_false_iff_ne.mpr (show v ≠ 72 - 70 from b)]; rfl
  have hu : ((usedL W p1 p2 u).any fun x => x.rn == (W .nu) p.r) = (u == p.key - 70) := by
    unfold usedL
    rcases List.mem_cons.mp hp with rfl | hp'
    · rw [h1]
      by_cases a : u = 1
      · subst a; simp
      · rw [if_neg a, beq_eq_false_iff_ne.mpr (show u ≠ 71 - 70 from a)]
        by_cases b : u = 2
        · subst b; simp [Ne.symm hne]
        · rw [if_neg b]; rfl
    · rw [List.mem_singleton.mp hp', h2]
      by_cases a : u = 1
      · subst a; simp [hne]
      · rw [if_neg a]
        by_cases b : u = 2
        · subst b; simp
        · rw [if_neg b, beq_eq_false_iff_ne.mpr (show u ≠ 72 - 70 from b)]; rfl
  have hs : ((usedL W p1 p2 u).any fun x => x.shows p.key) = false := by
    unfold usedL
    by_cases a : u = 1
    · rw [if_pos a]; rfl
    · rw [if_neg a]
      by_cases b : u = 2
      · rw [if_pos b]; rfl
      · rw [if_neg b]; rfl
  rw [e1, seesB_cons]
  rw [seesB_cons] at e2
  unfold dueA dueB
  rw [← e2]
  unfold SeenD.tells
  simp only [List.any_append, ht, hu, hs, h.dut, List.any_nil, Bool.or_false, Bool.false_or]
  generalize cns.any (fun x => x == (W .nu) p.r) = A
  generalize (v == p.key - 70) = B
  generalize (u == p.key - 70) = C
  generalize (p.part == Str.ofString "visible") = D
  generalize d.ho.any _ = E
  generalize (d.us.any fun x => x.shows p.key) = G
  generalize (d.us.any fun x => x.rn == (W .nu) p.r) = H
  generalize seesB _ _ _ _ = K
  clear e1 e2 ht hu hs hne h hL h1 h2 hp
  revert A B C D E G H K
  decide
noncomputable abbrev LJof {prog : Program} {w : World} {W : Sx} {L rt pd : Addr} {p1 p2 : PkD} (_ : LS prog w rt pd (L + 1) (L + 1 + 1) [p1, p2] W) (place cl bl fo : Addr) (cns bns : List Int) (F : Int → List Int) (lp : List Addr) (d : SeenD) (ds : List SeenD) (u v : Int) (tu tv : Tok) : Nat → (Str → Option Value) → Sx → Prop :=
  fun _ => LJ prog w L rt pd p1 p2 place cl bl fo cns bns F lp d ds u v tu tv
theorem turn_v {p1 p2 : PkD} {t1 t2 : Tok} {i : Nat} {v : Value} (h1 : p1.key = 71) (h2 : p2.key = 72) (hv : [Value.int 71 t1, Value.int 72 t2][i]? = some v) : ∃ p ∈ [p1, p2], ∃ t, v = .int p.key t := by
  match i, hv with
  | 0, hv => cases hv; exact ⟨p1, .head _, t1, by rw [h1]⟩
  | 1, hv => cases hv; exact ⟨p2, .tail _ (.head _), t2, by rw [h2]⟩
  | i + 2, hv => cases hv
theorem parts_of {p1 p2 p : PkD} {f : PkD → Value} (h1 : p1.key = 71) (h2 : p2.key = 72) (hp : p ∈ [p1, p2]) : valueAt ([p1, p2].map fun p => (p.key, f p)) p.key = some (f p) := by
  rcases List.mem_cons.mp hp with rfl | hp
  · rw [h1]; exact parts_71 h1
  · rw [List.mem_singleton.mp hp, h2]; exact parts_72 h1 h2
theorem LS.home {prog : Program} {w : World} {rt pd c1 c2 a : Addr} {p1 p2 p : PkD} {W : Sx} (h : LS prog w rt pd c1 c2 [p1, p2] W) (h1 : p1.key = 71) (h2 : p2.key = 72) (hp : p ∈ [p1, p2]) (ha : a ∈ (W .rs)) : valueAt ((W .k5) ((W .ro) a)) p.key = some (.ref p.tp) := by
  rw [h.nu.ro a ha, h.rt.k5]
  exact parts_of h1 h2 hp
theorem LS.home99 {prog : Program} {w : World} {rt pd c1 c2 a : Addr} {p1 p2 : PkD} {W : Sx} (h : LS prog w rt pd c1 c2 [p1, p2] W) (h1 : p1.key = 71) (h2 : p2.key = 72) (ha : a ∈ (W .rs)) : valueAt ((W .k5) ((W .ro) a)) 99 = none := by
  rw [h.nu.ro a ha, h.rt.k5]
  unfold valueAt
  rw [List.map_cons, List.find?_cons_of_neg (by simp [h1]), List.map_cons, List.find?_cons_of_neg (by simp [h2])]
  rfl
inductive MDue {prog : Program} {w : World} {W : Sx} (hwf : Wf prog w W) (pd place cl bl : Addr) (u v : Int) (tu tv : Tok) (part : Str) (b : Bool) (pg : Program) (w' : World) (h₀ : Heap) (L : Addr) (s s' : Shared) : Prop
  | mk : ∀ h' tk' m, s' = { s with heap := h', toks := tk' } → Fr h₀ L h' m → m "parts" = some (.ref pd) → m "place" = some (.ref place) → m "chain" = some (.ref cl) → m "boxed" = some (.ref bl) → m "used" = some (.int u tu) → m "told" = some (.int v tv) → m "due" = some (.bool b) → News h₀ L h' (led w'.params W) → MDue hwf pd place cl bl u v tu tv part b pg w' h₀ L s s'
theorem bool_eq {m : Str → Option Value} {x : Str} {a b : Bool} (h : m x = some (.bool a)) (e : a = b) : m x = some (.bool b) := e ▸ h
theorem dueA_1 {W : Sx} {cns : List Int} {p : PkD} {u v k : Int} (a : cns.any (· == (W .nu) p.r) = true) : cns.any (· == (W .nu) p.r) = dueA W cns p u v k := by unfold dueA; rw [a]; rfl
theorem dueA_2 {W : Sx} {cns : List Int} {p : PkD} {u v k : Int} (b : v = k - 70) : (v == k - 70) = dueA W cns p u v k := by
  unfold dueA; rw [b, beq_self_eq_true, Bool.or_true]; rfl
theorem dueA_3 {W : Sx} {cns : List Int} {p : PkD} {u v k : Int} (a : cns.any (· == (W .nu) p.r) = false) (b : v ≠ k - 70) (c : u = k - 70) : (p.part == Str.ofString "visible") = dueA W cns p u v k := by
  unfold dueA; rw [a, beq_eq_false_iff_ne.mpr b, c, beq_self_eq_true]; rfl
theorem dueA_4 {W : Sx} {cns : List Int} {p : PkD} {u v k : Int} (a : cns.any (· == (W .nu) p.r) = false) (b : v ≠ k - 70) (c : u ≠ k - 70) : (u == k - 70) = dueA W cns p u v k := by
  unfold dueA; rw [a, beq_eq_false_iff_ne.mpr b, beq_eq_false_iff_ne.mpr c]; rfl
structure CJ (g : Int → Bool) (vs : List Value) (cns : List Int) (i : Nat) (ys : List Value) : Prop where
  h : ∃ n2, IntsAre (vs.drop i) n2 ∧ cns.any g = (!ys.isEmpty || n2.any g)
theorem CJ.start {g : Int → Bool} {vs : List Value} {cns : List Int} (h : IntsAre vs cns) : CJ g vs cns 0 [] := ⟨cns, h, rfl⟩
theorem CJ.turn {g : Int → Bool} {vs ys : List Value} {cns : List Int} {i : Nat} {v : Value} (h : CJ g vs cns i ys) (hv : vs.toArray[i]? = some v) :
    ∃ one t, v = .int one t ∧ (g one = true → ∀ y, CJ g vs cns (i + 1) (ys ++ [y])) ∧ (g one = false → CJ g vs cns (i + 1) ys) := by
  obtain ⟨n2, b, e⟩ := h.h
  have hv' : vs[i]? = some v := by simpa using hv
  obtain ⟨hi, ev⟩ := List.getElem?_eq_some_iff.mp hv'
  rw [List.drop_eq_getElem_cons hi, ev] at b
  cases b with
  | cons one t hr =>
    refine ⟨one, t, rfl, fun hf y => ⟨_, hr, ?_⟩, fun hf => ⟨_, hr, ?_⟩⟩
    · rw [e]; simp [hf]
    · rw [e]; simp [hf]
theorem CJ.done {g : Int → Bool} {vs ys : List Value} {cns : List Int} (h : CJ g vs cns vs.length ys) : (!ys.isEmpty) = cns.any g := by
  obtain ⟨n2, b, e⟩ := h.h
  rw [List.drop_length] at b
  cases b
  rw [e]; simp
theorem fok_to {prog : Program} {w : World} {W : Sx} {kvs : List (Int × Value)} {F : Int → List Int} (_ : Wf prog w W) (h : ∀ one, FoK W kvs one (F one)) : ∀ one, FoK W kvs one (F one) := h
theorem due_1 {A B : Bool} (a : A = true) : A = (A || B) := by rw [a]; rfl
theorem due_2 {A : Bool} {bns cns : List Int} {F : Int → List Int} {k : Int} (a : A = false) (b : bns.any (· == k) = true) : bns.any (· == k) = (A || dueB bns cns F k) := by unfold dueB; rw [a, b]; rfl
theorem due_3 {A : Bool} {ys : List Value} {bns cns : List Int} {F : Int → List Int} {k : Int} (a : A = false) (b : bns.any (· == k) = false) (h : (!ys.isEmpty) = cns.any fun one => (F one).any (· == k)) : (!ys.isEmpty) = (A || dueB bns cns F k) := by unfold dueB; rw [a, b, h]; rfl
theorem any_none {F : Int → List Int} {one k : Int} (h : F one = []) : (F one).any (· == k) = false := by rw [h]; rfl
theorem P7.to {prog : Program} {w : World} {W W' : Sx} {p1 p2 : PkD} {place cl fo bl : Addr} {cns bns : List Int} {F : Int → List Int} {lp : List Addr} {d : SeenD} {ds : List SeenD} {u v : Int} (_ : Wf prog w W') (h : P7 prog w W p1 p2 place cl fo bl cns bns F lp d ds u v) (S : Same W W') (h2 : (W' .l2) = (W .l2)) (h3 : (W' .l3) = (W .l3)) : P7 prog w W' p1 p2 place cl fo bl cns bns F lp d ds u v := h.same S h2 h3
theorem LS.toc {prog : Program} {w : World} {W W' : Sx} {rt pd c1 c2 : Addr} {p1 p2 : PkD} (_ : Wf prog w W') (h : LS prog w rt pd c1 c2 [p1, p2] W') : LS prog w rt pd c1 c2 [p1, p2] W' := h
theorem same_to {prog : Program} {w : World} {W W' : Sx} (_ : Wf prog w W') (h : Same W W') : Same W W' := h
theorem bne_irr {X Y : Bool} (h : (X != Y) = true) (e : X = Y) : False := by subst e; simp at h
theorem resetLAW : True := by
  k_with_none
  k_with "m_step" => first | (k_unfold; (try dsimp only)) | (k_end; wrow_close) | walk1 | (dsimp only; walk1) | (leave1; walk_say "STEP leave1"; try dsimp only)
  trivial
theorem regjj16 : True := by
  k_with "m_lt" => first | with_reducible assumption | with_reducible exact And.left (by with_reducible assumption) | with_reducible exact And.left (And.right (by with_reducible assumption)) | with_reducible exact And.left (And.right (And.right (by with_reducible assumption))) | with_reducible exact And.left (And.right (And.right (And.right (by with_reducible assumption)))) | with_reducible exact And.left (And.right (And.right (And.right (And.right (by with_reducible assumption))))) | with_reducible exact And.left (And.right (And.right (And.right (And.right (And.right (by with_reducible assumption)))))) | with_reducible exact And.left (And.right (And.right (And.right (And.right (And.right (And.right (by with_reducible assumption))))))) | with_reducible exact And.left (And.right (And.right (And.right (And.right (And.right (And.right (And.right (by with_reducible assumption)))))))) | with_reducible exact And.left (And.right (And.right (And.right (And.right (And.right (And.right (And.right (And.right (by with_reducible assumption))))))))) | with_reducible exact And.left (And.right (And.right (And.right (And.right (And.right (And.right (And.right (And.right (And.right (by with_reducible assumption)))))))))) | with_reducible exact And.left (And.right (And.right (And.right (And.right (And.right (And.right (And.right (And.right (And.right (And.right (by with_reducible assumption)))))))))))
  k_with "x_k_room" => ktr_room
  k_with "x_k_units" => ktr_units
  k_with "m_off" => (((try dsimp only); first
      | with_reducible assumption
      | (with_reducible refine off_addM ?_ ?_; (focus (refine neN ?_; (try dsimp only); first | assumption | with_reducible exact Ne.symm (by with_reducible assumption) | (with_reducible refine Nat.ne_of_gt ?_; k_extra "m_lt") | (with_reducible refine Nat.ne_of_lt ?_; k_extra "m_lt") | omega)); k_extra "m_off")
      | ((with_reducible first | refine off_setMc ?_ | refine off_setPt ?_ | refine off_setGe ?_ | refine off_setEn ?_ | refine off_setEu ?_ | refine off_setEh ?_ | refine off_setEp ?_ | refine off_setEr ?_ | refine off_setEy ?_ | refine off_app1 ?_ | refine off_app2 ?_ | refine off_app3 ?_ | refine off_put0 ?_ | refine off_put4 ?_ | refine off_put5 ?_ | refine off_setW ?_); k_extra "m_off")
      | exact off_lt (by tbn_find)
      | (refine off_at (off_lt (by tbn_find)) ?_; simp only [addrs_setMc, addrs_setPt, addrs_setGe, addrs_setEn, addrs_setEu, addrs_setEh, addrs_setEp, addrs_setEr, addrs_setEy, addrs_app1, addrs_app2, addrs_app3, addrs_put0, addrs_put4, addrs_put5, addrs_setW])
      | with_reducible exact off_lt2 (by assumption) (by assumption)
      | with_reducible exact off_lt (allLt_of (by assumption))
      | with_reducible exact off_ltk _ (by assumption)
      | with_reducible exact off1_off (by assumption)
      | (refine off_at (led_off (by with_reducible assumption)) ?_; simp only [addrs_setMc, addrs_setPt, addrs_setGe, addrs_setEn, addrs_setEu, addrs_setEh, addrs_setEp, addrs_setEr, addrs_setEy, addrs_app1, addrs_app2, addrs_app3, addrs_put0, addrs_put4, addrs_put5, addrs_setW])))
  k_with "m_sp" => first | exact Sp.nil | (refine' Sp.cons ?z184p ?z184q; (case z184p => k_extra "m_off"); (case z184q => k_extra "m_sp"))
  k_with "m_spf" => first | exact SpF.nil | (refine' SpF.cons ?z185p ?z185q; (case z185p => k_extra "m_off"); (case z185q => k_extra "m_spf"))
  k_with "m_fold" => first | exact Fold'.base | (refine' Fold'.cons ?_ ?gfo; (case gfo => k_extra "m_fold"); k_extra "m_off") | (refine' Fold'.drop ?gfo; (case gfo => k_extra "m_fold")) | fail
  k_with "x_k_mem" => (first
      | exact mem_ri (by assumption) | exact mem_rd (by assumption) | exact mem_ei (by assumption) | exact mem_ed (by assumption)
      | exact mem_r0 (by assumption) | exact mem_r1 (by assumption) | exact mem_r2 (by assumption) | exact mem_r3 (by assumption) | exact mem_r4 (by assumption) | exact mem_r5 (by assumption)
      | exact mem_w0 | exact mem_w1
      | exact mem_ms (by assumption))
  k_with "x_k_all" => (refine off_led ?_; k_extra "m_off")
  k_with "getAttr ref" => ((k_here; k_dflt (
      refine' get_eq ?z188k1 ?z188k2 ?z188k3 ?z188k4 ?z188k5 ?z188k6 ?z188k7 ?z188k8 ?z188ke ?z188k9 ?_; (case z188k1 => k_asm); (case z188k2 => k_asm); (case z188k3 => k_inst); (case z188k4 => k_is); (case z188k5 => k_is); (case z188k6 => k_is); (case z188k7 => k_is); (case z188k8 => k_get); (case z188ke => first | assumption | exact rfl); (case z188k9 => k_handed); k_whole)))
  k_with "m_arith" => first | with_reducible assumption | with_reducible exact Nat.zero_le _ | ((try dsimp only [Sx.setMc, Sx.setPt, Sx.setGe, Sx.setEn, Sx.setEu, Sx.setEh, Sx.setEp, Sx.setEr, Sx.setEy, Sx.app1, Sx.app2, Sx.app3, Sx.put0, Sx.put4, Sx.put5, Sx.setW, Sx.addM]); omega) | (dsimp only [Sx.setMc, Sx.setPt, Sx.setGe, Sx.setEn, Sx.setEu, Sx.setEh, Sx.setEp, Sx.setEr, Sx.setEy, Sx.app1, Sx.app2, Sx.app3, Sx.put0, Sx.put4, Sx.put5, Sx.setW, Sx.addM] at *; omega)
  k_with "m_isd" => first | assumption | exact Wf.d0 (by assumption) _ (by assumption) | exact Wf.d4 (by assumption) _ (by assumption) | exact Wf.d5 (by assumption) _ (by assumption) | exact Wf.dw (by assumption)
  k_with "m_low" => first | assumption | exact lowF (Wf.low (by assumption) (.r0 _) (dom_r0 (by assumption))) | exact lowF (Wf.low (by assumption) (.r4 _) (dom_r4 (by assumption))) | exact lowF (Wf.low (by assumption) (.r5 _) (dom_r5 (by assumption))) | exact lowF (Wf.low (by assumption) .w0 (dom_w (.head _)))
  k_with "m_val" => first | assumption | rfl
  k_with "subscriptTail" => ((k_here; k_dflt (first
      | ((with_reducible show wpAny _ _ (subscriptTail _ _ (Value.ref _) (Value.str _ _)) _ _ _); refine' kda_item (knd := PySem.strKind _ _) ?z193n ?z193p ?z193d (strKind_is _ _ _ _) ?z193v ?_; (case z193n => k_asm); (case z193p => k_mem); (case z193d => k_extra "m_isd"); (case z193v => k_extra "m_val"))
      | ((with_reducible show wpAny _ _ (subscriptTail _ _ (Value.ref _) (Value.int _ _)) _ _ _); refine' kda_item (knd := PySem.intKind _ _) ?z193n ?z193p ?z193d (intKind_is _ _ _ _) ?z193v ?_; (case z193n => k_asm); (case z193p => k_mem); (case z193d => k_extra "m_isd"); (case z193v => k_extra "m_val")))))
  k_with "getItem ref str" => (k_here; k_dflt (refine' gi_str ?z194n ?z194p ?z194d ?z194v ?_; (case z194n => k_asm); (case z194p => k_mem); (case z194d => k_extra "m_isd"); (case z194v => k_extra "m_val")))
  k_with "setItem ref str" => (k_here; (with_reducible show wpAny _ _ (setItem (Value.ref _) (Value.str (Str.ofString "spot") _) (Value.int _ _)) _ _ _); k_dflt (refine' run_setW _ _ _ ?z195F ?z195N ?z195w ?z195S ?_ ?z195hk; (case z195F => k_asm); (case z195N => k_asm); (case z195w => assumption); (case z195S => k_extra "m_spf"); (case z195hk => omega); intro h' o' F' N' hw'; (try dsimp only at N'); (try k_sweep)))
  k_with "call builtin:len" => (k_here; (with_reducible show wpAny _ _ (call (Value.builtin "len") [Value.ref _]) _ _ _); k_dflt (refine' len_list (isList_news ?z196N ?z196p) ?z196z ?_; (case z196N => k_asm); (case z196p => k_mem); (case z196z => (simp only [List.size_toArray]; k_extra "m_arith"))); (try simp only [List.size_toArray]))
  k_with "subscriptTail" => (k_here; (with_reducible show wpAny _ _ (subscriptTail _ _ (Value.ref _) (Value.int _ _)) _ _ _); k_dflt (refine' itemL ?z197N ?z197p ?z197i ?z197a ?z197b ?z197z ?_; (case z197N => k_asm); (case z197p => k_mem); (case z197i => assumption); (case z197a => k_extra "m_arith"); (case z197b => k_extra "m_arith"); (case z197z => k_extra "m_arith")); intro i' t')
  k_with "subscriptTail" => (k_here; (with_reducible show wpAny _ _ (subscriptTail _ _ (Value.ref 269) (Value.int _ _)) _ _ _); k_dflt (refine' itemT ?z198F ?z198X ?z198l (ns := [0, 0, 0, 1, 0, 0, 0, 0, 0, 0, 0]) ?z198i ?z198a ?z198b ?z198z ?_; (case z198F => k_asm); (case z198X => k_asm); (case z198l => k_is); (case z198i => repeat (first | exact IntsAre.nil | refine IntsAre.cons _ _ ?_)); (case z198a => omega); (case z198b => (simp only [List.length_cons, List.length_nil]; omega)); (case z198z => decide)); intro i' t')
  k_with "call ref" => (k_here; k_dflt (refine' call_cls ?z199k1 ?z199k2 ?z199k3 ?z199k4 ?z199k5 ?z199k6 ?_; (case z199k1 => k_asm); (case z199k2 => k_asm); (case z199k3 => k_asm); (case z199k4 => k_is); (case z199k5 => k_is); (case z199k6 => k_is); k_whole; intro x' d' h' F' N' l1 l2; (try k_lt l1); (try k_lt2 l2); (try k_sweep); ktr_enter))
  k_with "setAttr ref" => (k_here; (with_reducible show wpAny _ _ (setAttr (Value.ref _) (Str.ofString "made") _) _ _ _); k_dflt (refine' set_setMc _ _ _ ?z200F ?z200X ?z200N ?z200w ?z200a ?z200S ?_; (case z200F => k_asm); (case z200X => k_asm); (case z200N => k_asm); (case z200w => assumption); (case z200a => first | assumption | k_extra "m_rs"); (case z200S => k_extra "m_sp")); intro h' F' N' hw'; (try dsimp only at N' hw'); (try k_sweep))
  k_with "setAttr ref" => (k_here; (with_reducible show wpAny _ _ (setAttr (Value.ref _) (Str.ofString "part") _) _ _ _); k_dflt (refine' set_setPt _ _ _ ?z201F ?z201X ?z201N ?z201w ?z201a ?z201S ?_; (case z201F => k_asm); (case z201X => k_asm); (case z201N => k_asm); (case z201w => assumption); (case z201a => first | assumption | k_extra "m_rs"); (case z201S => k_extra "m_sp")); intro h' F' N' hw'; (try dsimp only at N' hw'); (try k_sweep))
  k_with "setAttr ref" => (k_here; (with_reducible show wpAny _ _ (setAttr (Value.ref _) (Str.ofString "generic") _) _ _ _); k_dflt (refine' set_setGe _ _ ?z202F ?z202X ?z202N ?z202w ?z202a ?z202S ?_; (case z202F => k_asm); (case z202X => k_asm); (case z202N => k_asm); (case z202w => assumption); (case z202a => first | assumption | k_extra "m_rs"); (case z202S => k_extra "m_sp")); intro h' F' N' hw'; (try dsimp only at N' hw'); (try k_sweep))
  k_with "setAttr ref" => (k_here; (with_reducible show wpAny _ _ (setAttr (Value.ref _) (Str.ofString "number") _) _ _ _); k_dflt (refine' set_setEn _ _ ?z203F ?z203X ?z203N ?z203w ?z203a ?z203S ?_; (case z203F => k_asm); (case z203X => k_asm); (case z203N => k_asm); (case z203w => assumption); (case z203a => first | assumption | k_extra "m_rs"); (case z203S => k_extra "m_sp")); intro h' F' N' hw'; (try dsimp only at N' hw'); (try k_sweep))
  k_with "setAttr ref" => (k_here; (with_reducible show wpAny _ _ (setAttr (Value.ref _) (Str.ofString "unique") _) _ _ _); k_dflt (refine' set_setEu _ _ ?z204F ?z204X ?z204N ?z204w ?z204a ?z204S ?_; (case z204F => k_asm); (case z204X => k_asm); (case z204N => k_asm); (case z204w => assumption); (case z204a => first | assumption | k_extra "m_rs"); (case z204S => k_extra "m_sp")); intro h' F' N' hw'; (try dsimp only at N' hw'); (try k_sweep))
  k_with "setAttr ref" => (k_here; (with_reducible show wpAny _ _ (setAttr (Value.ref _) (Str.ofString "home") _) _ _ _); k_dflt (refine' set_setEh _ _ ?z205F ?z205X ?z205N ?z205w ?z205a ?z205S ?_; (case z205F => k_asm); (case z205X => k_asm); (case z205N => k_asm); (case z205w => assumption); (case z205a => first | assumption | k_extra "m_rs"); (case z205S => k_extra "m_sp")); intro h' F' N' hw'; (try dsimp only at N' hw'); (try k_sweep))
  k_with "setAttr ref" => (k_here; (with_reducible show wpAny _ _ (setAttr (Value.ref _) (Str.ofString "part") _) _ _ _); k_dflt (refine' set_setEp _ _ ?z206F ?z206X ?z206N ?z206w ?z206a ?z206S ?_; (case z206F => k_asm); (case z206X => k_asm); (case z206N => k_asm); (case z206w => assumption); (case z206a => first | assumption | k_extra "m_rs"); (case z206S => k_extra "m_sp")); intro h' F' N' hw'; (try dsimp only at N' hw'); (try k_sweep))
  k_with "setAttr ref" => (k_here; (with_reducible show wpAny _ _ (setAttr (Value.ref _) (Str.ofString "region") _) _ _ _); k_dflt (refine' set_setEr _ _ ?z207F ?z207X ?z207N ?z207w ?z207a ?z207S ?_; (case z207F => k_asm); (case z207X => k_asm); (case z207N => k_asm); (case z207w => assumption); (case z207a => first | assumption | k_extra "m_rs"); (case z207S => k_extra "m_sp")); intro h' F' N' hw'; (try dsimp only at N' hw'); (try k_sweep))
  k_with "setAttr ref" => (k_here; (with_reducible show wpAny _ _ (setAttr (Value.ref _) (Str.ofString "is_ready") _) _ _ _); k_dflt (refine' set_setEy _ _ ?z208F ?z208X ?z208N ?z208w ?z208a ?z208S ?_; (case z208F => k_asm); (case z208X => k_asm); (case z208N => k_asm); (case z208w => assumption); (case z208a => first | assumption | k_extra "m_rs"); (case z208S => k_extra "m_sp")); intro h' F' N' hw'; (try dsimp only at N' hw'); (try k_sweep))
  k_with "compareOp In str ref" => (k_here; (with_reducible show wpAny _ _ (compareOp _ _ (Value.ref 89)) _ _ _); k_dflt (refine' in_frame ?z209F ?z209X ?z209b ?_; (case z209F => k_asm); (case z209X => k_asm); (case z209b => first | assumption | rfl)))
  k_with "compareOp NotIn str ref" => (k_here; (with_reducible show wpAny _ _ (compareOp _ _ (Value.ref 89)) _ _ _); k_dflt (refine' notin_frame ?z210F ?z210X ?z210b ?_; (case z210F => k_asm); (case z210X => k_asm); (case z210b => first | assumption | rfl)); (try dsimp only [Bool.not_true, Bool.not_false]))
  k_with "getMethod ref" => ((k_here; k_dflt (first
      | ((with_reducible show wpAny _ _ (getMethod (Value.ref _) (Str.ofString "append") _) _ _ _); refine' meth_append ?z211n ?z211p ?_; (case z211n => k_asm); (case z211p => k_mem))
      | ((with_reducible show wpAny _ _ (getMethod (Value.ref _) (Str.ofString "get") _) _ _ _); first
        | (refine' kdg_method (knd := PySem.strKind _ _) ?z211n ?z211p ?z211d ?_; (case z211n => k_asm); (case z211p => k_mem); (case z211d => k_extra "m_isd"))
        | (refine' kdg_method (knd := PySem.intKind _ _) ?z211n ?z211p ?z211d ?_; (case z211n => k_asm); (case z211p => k_mem); (case z211d => k_extra "m_isd")))
      | ((with_reducible show wpAny _ _ (getMethod (Value.ref _) (Str.ofString "setdefault") _) _ _ _); first
        | (refine' kob_method (knd := PySem.strKind _ _) PySem.F.slot_dict_setdefault PySem.F.type_dict_setdefault ?z211n ?z211p ?z211d ?_; (case z211n => k_asm); (case z211p => k_mem); (case z211d => k_extra "m_isd"))
        | (refine' kob_method (knd := PySem.intKind _ _) PySem.F.slot_dict_setdefault PySem.F.type_dict_setdefault ?z211n ?z211p ?z211d ?_; (case z211n => k_asm); (case z211p => k_mem); (case z211d => k_extra "m_isd"))))))
  k_with "call builtin:dict.get" => ((k_here; k_dflt (first
      | ((with_reducible show wpAny _ _ (call _ [Value.ref _, Value.str _ _, _]) _ _ _); refine' kdg_get2 (knd := PySem.strKind _ _) ?z212n ?z212p ?z212d ?z212l (strKind_is _ _ _ _) _ ?z212v ?_; (case z212n => k_asm); (case z212p => k_mem); (case z212d => k_extra "m_isd"); (case z212l => k_extra "m_low"); (case z212v => k_extra "m_val"))
      | ((with_reducible show wpAny _ _ (call _ [Value.ref _, Value.int _ _, _]) _ _ _); refine' kdg_get2 (knd := PySem.intKind _ _) ?z212n ?z212p ?z212d ?z212l (intKind_is _ _ _ _) _ ?z212v ?_; (case z212n => k_asm); (case z212p => k_mem); (case z212d => k_extra "m_isd"); (case z212l => k_extra "m_low"); (case z212v => k_extra "m_val"))); (try dsimp only [Option.getD])))
  k_with "call builtin:dict.setdefault" => ((k_here; k_dflt (first
      | (refine' run_put0 _ _ _ _ ?z213F ?z213N ?z213w ?z213a ?z213S ?z213l ?z213z ?_; (case z213F => k_asm); (case z213N => k_asm); (case z213w => assumption); (case z213a => first | assumption | k_extra "m_rs"); (case z213S => k_extra "m_spf"); (case z213l => k_extra "m_val"); (case z213z => k_extra "m_arith"))
      | (refine' run_put5 _ _ _ _ ?z213F ?z213N ?z213w ?z213a ?z213S ?z213l ?z213z ?_; (case z213F => k_asm); (case z213N => k_asm); (case z213w => assumption); (case z213a => first | assumption | k_extra "m_rs"); (case z213S => k_extra "m_spf"); (case z213l => k_extra "m_val"); (case z213z => k_extra "m_arith"))); intro h' o' F' N' hw'; (try dsimp only at N' hw'); (try k_sweep)))
  k_with "setItem ref str" => (k_here; k_dflt (refine' run_put4 _ _ _ _ ?z214F ?z214N ?z214w ?z214a ?z214S ?z214z ?_; (case z214F => k_asm); (case z214N => k_asm); (case z214w => assumption); (case z214a => first | assumption | k_extra "m_rs"); (case z214S => k_extra "m_spf"); (case z214z => k_extra "m_arith")); intro h' o' F' N' hw'; (try dsimp only at N' hw'); (try k_sweep))
  k_with "call builtin:list.append" => ((k_here; (with_reducible first | show wpAny _ _ (call (Value.builtin _) [Value.ref ((_ : Sx) Fld.a1 _), _]) _ _ _ | show wpAny _ _ (call (Value.builtin _) [Value.ref ((_ : Sx) Fld.a2 _), _]) _ _ _ | show wpAny _ _ (call (Value.builtin _) [Value.ref ((_ : Sx) Fld.a3 _), _]) _ _ _); k_dflt (first
      | (refine' run_app1 _ _ ?z215F ?z215N ?z215w ?z215a ?z215S ?z215z ?_; (case z215F => k_asm); (case z215N => k_asm); (case z215w => assumption); (case z215a => first | assumption | k_extra "m_rs"); (case z215S => k_extra "m_sp"); (case z215z => k_extra "m_arith"))
      | (refine' run_app2 _ _ ?z215F ?z215N ?z215w ?z215a ?z215S ?z215z ?_; (case z215F => k_asm); (case z215N => k_asm); (case z215w => assumption); (case z215a => first | assumption | k_extra "m_rs"); (case z215S => k_extra "m_sp"); (case z215z => k_extra "m_arith"))
      | (refine' run_app3 _ _ ?z215F ?z215N ?z215w ?z215a ?z215S ?z215z ?_; (case z215F => k_asm); (case z215N => k_asm); (case z215w => assumption); (case z215a => first | assumption | k_extra "m_rs"); (case z215S => k_extra "m_sp"); (case z215z => k_extra "m_arith"))); intro h' F' N' hw'; (try dsimp only at N' hw'); (try k_sweep)))
  k_with "m_enterC" => (refine' code_defC ?z216k1 ?z216k2 ?z216k3 ?z216k4 ?z216k5 ?z216kA ?z216kF ?z216kK ?z216k6 ?z216k7 ?z216k8 ?z216k9 ?z216kB ?z216kD ?_ ?z216c2 ?z216c3 ?z216c4; (case z216kA => exact rfl); (case z216kF => exact rfl); (case z216kK => first | exact rfl | assumption); (case z216k1 => k_asm); (case z216k2 => k_asm); (case z216k3 => k_asm); (case z216k4 => k_asm); (case z216k5 => k_asm); (case z216k6 => k_is); (case z216k7 => k_is); (case z216k8 => k_room); (case z216k9 => exact BindsTo.of_eq rfl); (case z216kB => exact rfl); (case z216kD => decide +kernel); (case z216c2 => exact rfl); (case z216c3 => exact rfl); (case z216c4 => exact rfl); k_whole; intro g' L' h' tk' cells' FG' F' N' Y' B' X' T' l1; (try k_lt l1); k_cells Y'; (try simp only [List.cons_append, List.nil_append] at N'); (try dsimp only); (try k_fold))
  k_with "exec For Name Name cons nil" => (k_here; (rename Fr _ _ _ _ => lF'); (with_unfolding_all refine' For_invVF lF' ?z217k1 ?z217k2 ?_; (case z217k1 => exact rfl); (case z217k2 => exact rfl); k_whole))
  k_with "pyIter ref" => ((with_reducible show wpAny _ _ (pyIter (Value.ref _)) (fun it s₂ => LoopAtV _ _ _ _ _ _ _ _ _ it s₂) _ _); k_here; k_extra "m_for")
  k_with "m_ms" => first | assumption | exact List.Mem.head _ | (refine' List.Mem.tail _ ?_; k_extra "m_ms")
  k_with "FinE" => ((unfold LCg.FinE); intro D' h' tk' F' N' o1'; (try simp only [LCg.Off1, and_true] at o1'); (repeat (obtain ⟨o9', o1'⟩ := o1')); (try simp only [List.nil_append, List.cons_append] at N'); (try dsimp only))
  k_with "FinA" => ((unfold LCg.FinA); intro D' h' tk' F' N' o1'; (try simp only [LCg.Off1, and_true] at o1'); (repeat (obtain ⟨o9', o1'⟩ := o1')); (try simp only [List.nil_append, List.cons_append] at N'); (try dsimp only))
  k_with "m_sub" => first | exact fun _ h => h | (with_reducible refine sub_addM ?_; k_extra "m_sub") | (with_reducible refine sub_cons ?_; k_extra "m_sub")
  k_with "m_end" => first | assumption | exact news_sub (by assumption) (by k_extra "m_sub")
  k_with "m_nil" => (refine' iter_nil ?z224hh ?z224F ?z224N ?z224S ?z224w ?z224l ?z224d; (case z224hh => exact rfl); (case z224F => k_asm); (case z224N => k_asm); (case z224S => k_extra "m_fold"); (case z224w => assumption); (case z224l => k_extra "m_ms"); intro h' tk hw' F' N')
  k_with "m_eq" => first | assumption | rfl
  k_with "m_frm" => first | assumption | exact Frm.same (by assumption) (by rfl) (by rfl) (by rfl)
  k_with "x_k_mem" => first | exact mem_r2_eq (by assumption) (by assumption) | exact mem_r3_eq (by assumption) (by assumption)
  k_with "compareOp In int ref" => (k_here; k_dflt (refine' in_ints_W ?z228n ?z228p ?z228i ?_; (case z228n => k_asm); (case z228p => k_mem); (case z228i => assumption)))
  k_with "compareOp NotIn int ref" => (k_here; k_dflt (refine' notin_ints_W ?z229n ?z229p ?z229i ?_; (case z229n => k_asm); (case z229p => k_mem); (case z229i => assumption)))
  k_with "CompEnd" => ((k_here; first
      | (exfalso; contradiction)
      | (refine LCg.CompEnd.intro (by assumption) (by assumption) _ (fun _ h => h) (by assumption) (by first | exact True.intro | exact Or.inr ⟨_, by k_mem, rfl, _, rfl⟩) ?_)))
  k_with "callWith" => (k_here; (try dsimp only); (with_reducible show wpAny _ _ (callWith _ (Value.builtin _) (_ :: _) (backTo _ (starEach (_ :: _) _)) []) _ _ _); refine callWith_method1 ?_)
  k_with "m_off" => (((try dsimp only); first
      | with_reducible assumption
      | exact off_lt (by tbn_find)
      | exact off_ltA (by with_reducible assumption) (by tbn_find)
      | ((with_reducible first | refine off_setMc ?_ | refine off_setPt ?_ | refine off_setGe ?_ | refine off_setEn ?_ | refine off_setEu ?_ | refine off_setEh ?_ | refine off_setEp ?_ | refine off_setEr ?_ | refine off_setEy ?_ | refine off_app1 ?_ | refine off_app2 ?_ | refine off_app3 ?_ | refine off_put0 ?_ | refine off_put4 ?_ | refine off_put5 ?_ | refine off_setW ?_); k_extra "m_off")
      | (with_reducible refine off_addM ?_ ?_; (focus (refine neN ?_; (try dsimp only); first | assumption | with_reducible exact Ne.symm (by with_reducible assumption) | (with_reducible refine Nat.ne_of_gt ?_; k_extra "m_lt") | (with_reducible refine Nat.ne_of_lt ?_; k_extra "m_lt") | omega)); k_extra "m_off")
      | with_reducible exact off_lt2 (by assumption) (by assumption)
      | with_reducible exact off_lt (allLt_of (by assumption))
      | with_reducible exact off_ltk _ (by assumption)
      | with_reducible exact off1_off (by assumption)))
  k_with "m_rs" => first | assumption | exact List.Mem.head _ | (refine List.Mem.tail _ ?_; k_extra "m_rs")
  k_with "m_va" => first | assumption | exact va_nil (by assumption) | rfl
  k_with "m_sz" => first | assumption | exact len_nil (by assumption) | omega
  k_with "m_dec" => first | assumption | decide | decide +kernel | rfl
  k_with "m_frm2" => first | assumption | exact Frm.same (by assumption) (by rfl) (by rfl) (by rfl) | exact Frm.at (by k_extra "m_rs") (by assumption) (by decide +kernel) | exact Frm.over (by k_extra "m_rs") (by assumption) (by decide +kernel) (by assumption) (by k_extra "m_rs") (by assumption) (by decide +kernel)
  k_with "m_ms3" => first | exact List.mem_append_left _ (by assumption) | (refine List.Mem.tail _ ?_; k_extra "m_ms3")
  k_with "m_ms2" => first | with_reducible_and_instances assumption | exact List.mem_append_left _ (by with_reducible_and_instances assumption) | exact List.Mem.head _ | (refine List.Mem.tail _ ?_; (show (_ : Addr × Obj) ∈ (_ : List (Addr × Obj))); k_extra "m_ms2") | exact List.mem_append_right _ (by k_extra "m_ms2") | exact ms_delM (by k_extra "m_ms2") (by assumption)
  k_with "m_nw" => first | exact mem_ms (by k_extra "m_ms2") | (refine List.Mem.tail _ ?_; k_extra "m_nw")
  k_with "call builtin:list.append" => (k_here; (with_reducible show wpAny _ _ (call (Value.builtin _) [Value.ref _, _]) _ _ _); k_dflt (refine' run_appM _ ?z241F ?z241N ?z241S ?z241w ?z241l ?z241z ?_; (case z241F => k_asm); (case z241N => k_asm); (case z241S => k_extra "m_fold"); (case z241w => assumption); (case z241l => k_extra "m_ms2"); (case z241z => assumption)); intro h' F' N' hw'; (try dsimp only); (try k_sweep))
  k_with "subscriptTail" => (k_here; (with_reducible show wpAny _ _ (subscriptTail _ _ (Value.ref _) (Value.int _ _)) _ _ _); k_dflt (refine' itemLast ?z242k ?z242N ?z242p ?_; (case z242k => first | rfl | decide); (case z242N => k_asm); (case z242p => k_extra "m_nw")))
  k_with "subscriptTail" => (k_here; (with_reducible show wpAny _ _ (subscriptTail _ _ (Value.ref _) (Value.int _ _)) _ _ _); k_dflt (refine' itemTupM ?z243N ?z243p ?z243lo ?z243hi ?z243j ?z243x ?_; (case z243N => k_asm); (case z243p => k_extra "m_nw"); (case z243lo => decide); (case z243hi => decide); (case z243j => rfl); (case z243x => rfl)))
  k_with "getMethod ref" => (k_here; (with_reducible show wpAny _ _ (getMethod (Value.ref _) (Str.ofString "append") _) _ _ _); k_dflt (refine' meth_append ?z244n ?z244p ?_; (case z244n => k_asm); (case z244p => k_extra "m_nw")))
  k_with "m_kept" => first | with_reducible assumption | exact Kept.refl | (refine' Kept.setEy ?gkept; (case gkept => k_extra "m_kept")) | (refine' Kept.setW ?gkept; (case gkept => k_extra "m_kept")) | (refine' Kept.addM ?gkept; (case gkept => k_extra "m_kept")) | (refine' Kept.addMs ?gkept; (case gkept => k_extra "m_kept")) | (refine' Kept.decl ?gkept ?_; (case gkept => k_extra "m_kept"); k_extra "m_exc") | (refine' Kept.addE ?gkept ?_ ?_; (case gkept => k_extra "m_kept"); (focus k_extra "m_fro"); assumption) | (refine' Kept.addR ?gkept ?_ ?_; (case gkept => k_extra "m_kept"); (focus k_extra "m_fro"); simp only [addrs_setMc]; assumption) | (refine' Kept.setMc ?gkept ?_; (case gkept => k_extra "m_kept"); omega) | (refine' Kept.setGe ?gkept ?_; (case gkept => k_extra "m_kept"); k_extra "m_exc") | (refine' Kept.setEr ?gkept ?_; (case gkept => k_extra "m_kept"); k_extra "m_exc") | (refine' Kept.delM ?gkept ?_; (case gkept => k_extra "m_kept"); k_extra "m_exc") | fail
  k_with "m_exc" => first | exact .inl (List.Mem.head _) | (refine .inr ?_; k_extra "m_fro") | fail
  k_with "m_fro" => first | assumption | (refine' fresh_off0 ?gfr ?_; (case gfr => assumption); k_extra "m_keptw") | (refine' fresh_off ?gfr ?gfk ?_; (case gfr => assumption); (case gfk => k_extra "m_kept"); first | (show _ ∈ addrs _; exact addrs_ms2 (by k_extra "m_ms2")) | (rotate_left; exact addrs_ms2 (by k_extra "m_ms2"))) | fail
  k_with "m_keptz" => first | with_reducible assumption | (refine' Kept.setW ?gkeptz; (case gkeptz => k_extra "m_keptz")) | (refine' Kept.addM ?gkeptz; (case gkeptz => k_extra "m_keptz")) | (refine' Kept.addMs ?gkeptz; (case gkeptz => k_extra "m_keptz")) | fail
  k_with "m_keptw" => first | with_reducible assumption | (refine' Kept.setW ?gkeptw; (case gkeptw => k_extra "m_keptw")) | (refine' Kept.addM ?gkeptw; (case gkeptw => k_extra "m_keptw")) | (refine' Kept.addMs ?gkeptw; (case gkeptw => k_extra "m_keptw")) | (refine' Kept.delM ?gkeptw ?_; (case gkeptw => k_extra "m_keptw"); k_extra "m_exc") | (refine' Kept.setGe ?gkeptw ?_; (case gkeptw => k_extra "m_keptw"); k_extra "m_exc") | fail
  k_with "m_nu" => first | with_reducible assumption | (refine' NUok.setW ?gnu; (case gnu => k_extra "m_nu")) | (refine' NUok.addM ?gnu; (case gnu => k_extra "m_nu")) | (refine' NUok.addMs ?gnu; (case gnu => k_extra "m_nu")) | (refine' NUok.delM ?gnu; (case gnu => k_extra "m_nu")) | (refine' NUok.addE ?gnu; (case gnu => k_extra "m_nu")) | (refine' NUok.setGe ?gnu; (case gnu => k_extra "m_nu")) | (refine' NUok.setEr ?gnu; (case gnu => k_extra "m_nu")) | (refine' NUok.decl ?gnu; (case gnu => k_extra "m_nu")) | (refine' NUok.reg ?gnu ?_ ?_ ?_ ?_; (case gnu => k_extra "m_nu"); (focus k_extra "m_rs"); (focus assumption); (focus assumption); assumption) | fail
  k_with "x_k_mem" => k_extra "m_lm"
  k_with "m_lm" => first | with_reducible_and_instances exact List.Mem.head _ | exact mem_ri (by with_reducible assumption) | exact mem_rd (by with_reducible assumption) | exact mem_ei (by with_reducible assumption) | exact mem_ed (by with_reducible assumption) | exact mem_ms (by with_reducible assumption) | exact mem_r5 (by with_reducible assumption) | (with_reducible_and_instances refine' List.Mem.tail _ ?_; k_extra "m_lm")
  k_with "eval ListComp" => (k_here; k_dflt (refine LCg.ListComp_U (F₀ := by k_asm) (by with_unfolding_all rfl) (by decide) (by rfl) (by decide) (by rfl) ?_))
  k_with "x_k_ne" => first | with_reducible assumption | with_reducible exact Ne.symm (by with_reducible assumption) | with_reducible exact Nat.ne_of_gt (And.left (by with_reducible assumption)) | with_reducible exact Nat.ne_of_gt (And.left (And.right (by with_reducible assumption))) | with_reducible exact Nat.ne_of_gt (And.left (And.right (And.right (by with_reducible assumption)))) | with_reducible exact Nat.ne_of_gt (And.left (And.right (And.right (And.right (by with_reducible assumption))))) | with_reducible exact Nat.ne_of_gt (And.left (And.right (And.right (And.right (And.right (by with_reducible assumption)))))) | with_reducible exact Nat.ne_of_lt (And.left (by with_reducible assumption)) | with_reducible exact Nat.ne_of_lt (And.left (And.right (by with_reducible assumption))) | with_reducible exact Nat.ne_of_lt (And.left (And.right (And.right (by with_reducible assumption)))) | with_reducible exact Nat.ne_of_lt (And.left (And.right (And.right (And.right (by with_reducible assumption))))) | with_reducible exact Nat.ne_of_lt (And.left (And.right (And.right (And.right (And.right (by with_reducible assumption)))))) | (with_reducible refine Nat.ne_of_lt ?_; k_extra "m_lt") | (with_reducible refine Nat.ne_of_gt ?_; k_extra "m_lt")
  k_with "x_ktr_room" => k_dflt (first | decide | exact of_decide_eq_true (Eq.refl true))
  k_with "x_ktr_units" => k_dflt (first | decide | exact of_decide_eq_true (Eq.refl true))
  k_with "call ref" => (k_here; (with_reducible show wpAny _ _ (call (Value.ref 117) [Value.str (Str.ofString "root") _, Value.none, Value.none]) _ _ _); k_dflt (refine' open_root_spec ?z251B ?z251F ?z251X ?z251T ?z251k ?z251r ?z251u (Fold'.nws ?z251S ?z251N) (Fold'.wf ?z251S ?z251w) ?_; (case z251B => k_asm); (case z251F => k_asm); (case z251X => k_asm); (case z251T => k_asm); (case z251k => first | exact rfl | assumption); (case z251r => ktr_room); (case z251u => ktr_units); (case z251N => k_asm); (case z251S => k_extra "m_fold"); (case z251w => assumption)); intro x' R' h' tk' F' N' hw' hx' q1 q2 q3 q4 q5 q6 q7; (try dsimp only); (try k_sweep))
  k_with "m_junk" => ((repeat (rename (_ ≠ _) => hz; clear hz)); (repeat (rename (AllLt _ _) => hz; clear hz)); (repeat (rename (_ ∧ _) => hz; clear hz)); (repeat (rename (IntsAre _ _) => hz; clear hz)))
  k_with "m_old" => ((repeat (rename (News _ _ _ _) => hz; clear hz)); (repeat (rename (Fr _ _ _ _) => hz; clear hz)); (repeat (rename (Wf _ _ _) => hz; clear hz)); (repeat (rename (Obj.IsDictOf _ _ _) => hz; clear hz)); (repeat (rename (_ ∈ _) => hz; clear hz)); (repeat (rename (¬ (_ ∈ _)) => hz; clear hz)); (repeat (rename (Kept _ _ _) => hz; clear hz)); (repeat (rename (_ ≠ _) => hz; clear hz)); (repeat (rename (AllLt _ _) => hz; clear hz)); (repeat (rename (IntsAre _ _) => hz; clear hz)); (repeat (rename (NUok _ _) => hz; clear hz)); (repeat (rename (LS _ _ _ _ _ _ _ _) => hz; clear hz)); (repeat (rename (@LE.le Nat _ _ 1000) => hz; clear hz)); (repeat (rename (valueAt _ _ = _) => hz; clear hz)); (repeat (rename (∀ p : Addr × Obj, _) => hz; clear hz)))
  trivial
theorem T : PySem.Challenge.rw_rg0008_01.Holds := hd.2 (by
  show ∀ _, _
  k_go0
  all_goals try k_fold
  k_with "CompSrc" => (k_here; k_dflt (refine LCg.CompSrc.ledger (by rfl) (by k_asm) (by k_asm) (by k_mem) (by rw [List.size_toArray, sizeLine_eq, IntsAre.length (by assumption : IntsAre _ (List.take _ _)), List.length_take]; omega) ?_); intro g'; refine comp_ind CellJ CellJ.start ?_ ?_; (focus (intro i ys v₁ I oI C oC D m₂ h₁ tk₁ E' hJ hP hC hx F₁ N₁ off ne; obtain ⟨n, t, rfl⟩ := ints_any (by assumption) hP)); rotate_left; (intro ys1 hJ1; have hJ2 := cellJ_len (by assumption) hJ1); rotate_right)
  k_with "CompEnd" => exact LCg.CompEnd.intro (by assumption) (by assumption) _ (fun _ h => h) (by assumption) (Or.inr ⟨_, by k_mem, rfl, _, rfl⟩) ⟨rfl, hJ.snoc⟩
  iterate 30 (k_extra "m_step")
  rename News _ _ _ _ => lN
  rename Obj.IsDictOf _ _ _ => lD
  have hlow := modules_low (Top.nolimit (by assumption))
  have z0 := w0_start lN (by assumption) hlow (by assumption) (by assumption) (by assumption) (by assumption) lD hJ1.hints hJ2
  obtain ⟨zN, zw⟩ := z0
  clear lN
  iterate 21 (k_extra "m_step")
  have z := fold_end (by k_asm) (by k_extra "m_fold") (by assumption)
  have zl := ls_start z.2 rfl q1 q3 q4 q5 q6 q7 (List.Mem.tail _ (List.Mem.head _)) (by assumption) (List.Mem.head _) (by assumption) (Nat.ne_of_lt (Nat.lt_succ_self _)) (by assumption)
  refine enough (P := fun s' => wpAny _ _ _ _ _ s') (MS0 _ _ _ _ _) ⟨_, _, _, _, _, _, _, rfl, by assumption, rfl, rfl, rfl, z.1, z.2, rfl, zl.1, zl.2⟩ ?_
  clear z zl
  rintro s2 ⟨wd, rt, pd, h', tk', m, W, rfl, F', m1, m2, m3, N', hw', ewd, hL, hY⟩
  rw [pin m1, pin m2, pin m3] at F'
  k_extra "m_junk"
  k_with "storeName" => (k_here; k_dflt (refine' run_cellM ?z3F ?z3N ?z3S ?z3w ?z3c ?z3l ?z3d ?_ ?z3a ?z3b; (case z3a => exact rfl); (case z3b => exact rfl); (case z3F => k_asm); (case z3N => k_asm); (case z3S => k_extra "m_fold"); (case z3w => assumption); (case z3c => exact rfl); (case z3l => k_extra "m_ms2"); (case z3d => assumption)); intro h' o' F' N' hw' d'; (try dsimp only); (try k_sweep))
  k_with "setItem ref int" => (k_here; k_dflt (refine' run_setM ?z4F ?z4N ?z4S ?z4w ?z4l ?z4d ?z4z ?_; (case z4F => k_asm); (case z4N => k_asm); (case z4S => k_extra "m_fold"); (case z4w => assumption); (case z4l => k_extra "m_ms2"); (case z4d => assumption); (case z4z => (simp only [List.length_map, List.length_cons, List.length_nil]; omega))); intro h' o' F' N' hw' hd'; (try dsimp only); (try k_sweep))
  k_with "x_k_mem" => k_extra "m_lm2"
  k_with "m_lm2" => first | with_reducible_and_instances exact List.Mem.head _ | exact mem_ri (by with_reducible assumption) | exact mem_rd (by with_reducible assumption) | exact mem_ei (by with_reducible assumption) | exact mem_ed (by with_reducible assumption) | exact mem_ms (by with_reducible assumption) | exact mem_ri (by k_extra "m_rs") | exact mem_rd (by k_extra "m_rs") | exact mem_ei (by k_extra "m_rs") | exact mem_ed (by k_extra "m_rs") | exact mem_ms (by k_extra "m_ms2") | (with_reducible_and_instances refine' List.Mem.tail _ ?_; k_extra "m_lm2")
  k_with "m_keep" => first | exact KeepF.nil | (refine' KeepF.cons ?z7p ?z7q; (case z7q => k_extra "m_keep"); (case z7p => k_extra "m_off"))
  k_with "call ref" => (k_here; (with_reducible show wpAny _ _ (call (Value.ref 276) [_, _]) _ _ _); k_dflt (refine' dip_keep ?z8B ?z8F ?z8X ?z8T ?z8k ?z8r ?z8u ?z8N ?z8w ?z8S ?z8x0 ?z8x1 ?z8x2 ?_; (case z8B => k_asm); (case z8F => k_asm); (case z8X => k_asm); (case z8T => k_asm); (case z8k => first | exact rfl | assumption); (case z8r => ktr_room); (case z8u => ktr_units); (case z8N => k_asm); (case z8S => k_extra "m_keep"); (case z8w => assumption); (case z8x0 => first | assumption | exact rfl); (case z8x1 => decide); (case z8x2 => decide)); intro v' tv' o' k' t' h' tk' F' N' hw' v0' v1'; (try dsimp only); (try k_sweep); first | (refine (split2 v0' v1').elim ?_ ?_ <;> (intro e'; subst e')) | (refine (split3 v0' v1').elim ?_ (fun e => e.elim ?_ ?_) <;> (intro e'; subst e')) | (refine (split4 v0' v1').elim ?_ (fun e => e.elim ?_ (fun e => e.elim ?_ ?_)) <;> (intro e'; subst e')) | (refine (split6 v0' v1').elim ?_ (fun e => e.elim ?_ (fun e => e.elim ?_ (fun e => e.elim ?_ (fun e => e.elim ?_ ?_)))) <;> (intro e'; subst e')) | skip)
  k_with "call ref" => (k_here; (with_reducible show wpAny _ _ (call (Value.ref 31) [_, _, _, _, _, _]) _ _ _); k_dflt (refine' entity_l ?z9B ?z9F ?z9X ?z9T ?z9k ?z9r ?z9u (Fold'.nws ?z9S ?z9N) (Fold'.wf ?z9S ?z9w)  ?_; (case z9B => k_asm); (case z9F => k_asm); (case z9X => k_asm); (case z9T => k_asm); (case z9k => first | exact rfl | assumption); (case z9r => ktr_room); (case z9u => ktr_units); (case z9N => k_asm); (case z9S => k_extra "m_fold"); (case z9w => assumption)); intro e' R' h' tk' Wl' F' N' hw' hx' q1 q2; (try dsimp only); (try k_sweep); (have y' := ef_addE hw' q1); (obtain ⟨y0', y1', y3', y4'⟩ := y'); (have yr' := er_addE hw' q2); (first | k_dflt (refine' cutK (keptE hx' hw' ?z9zk ?z9zo) ?_; (case z9zk => k_extra "m_keptw"); (case z9zo => k_extra "m_fro"); intro kk') | skip))
  k_with "call ref" => (k_here; (with_reducible show wpAny _ _ (call (Value.ref 171) [_, _]) _ _ _); k_dflt (refine' decl_l ?z10B ?z10F ?z10X ?z10T ?z10k ?z10r ?z10u (Fold'.nws ?z10S ?z10N) (Fold'.wf ?z10S ?z10w) ?z10x0 ?z10x1 ?z10x2 ?z10x3 ?z10x4 ?z10x5 ?z10x6 ?z10x7 ?z10x8 ?z10x9 ?z10x10 ?_; (case z10B => k_asm); (case z10F => k_asm); (case z10X => k_asm); (case z10T => k_asm); (case z10k => first | exact rfl | assumption); (case z10r => ktr_room); (case z10u => ktr_units); (case z10N => k_asm); (case z10S => k_extra "m_fold"); (case z10w => assumption); (case z10x0 => k_extra "m_rs"); (case z10x1 => k_extra "m_frm2"); (case z10x2 => k_extra "m_eq"); (case z10x3 => k_extra "m_dec"); (case z10x4 => k_extra "m_eq"); (case z10x5 => k_extra "m_dec"); (case z10x6 => k_extra "m_va"); (case z10x7 => k_extra "m_va"); (case z10x8 => k_extra "m_sz"); (case z10x9 => k_extra "m_sz"); (case z10x10 => k_extra "m_sz")); intro t1' ven' vep' o4' t4' o0' l' h' tk' Wl' qv' F' N' hw' lo'; (try dsimp only); (try k_sweep); (obtain ⟨g0', g4', gn', g1', gm', gl'⟩ := decl_facts hw'); (first | k_dflt (refine' cutK (keptD hw' ?z10zk ?z10zo) ?_; (case z10zk => k_extra "m_keptw"); (case z10zo => k_extra "m_exc"); intro kk') | skip))
  k_with "call ref" => (k_here; (with_reducible show wpAny _ _ (call (Value.ref 117) [_, _, _]) _ _ _); k_dflt (refine' own_l ?z11B ?z11F ?z11X ?z11T ?z11k ?z11r ?z11u (Fold'.nws ?z11S ?z11N) (Fold'.wf ?z11S ?z11w) ?z11x0 ?z11x1 ?z11x2 ?_; (case z11B => k_asm); (case z11F => k_asm); (case z11X => k_asm); (case z11T => k_asm); (case z11k => first | exact rfl | assumption); (case z11r => ktr_room); (case z11u => ktr_units); (case z11N => k_asm); (case z11S => k_extra "m_fold"); (case z11w => assumption); (case z11x0 => k_extra "m_rs"); (case z11x1 => k_extra "m_rs"); (case z11x2 => first | assumption | rfl)); intro x' R' t' h' tk' Wl' F' N' hw' hx' q1 q2 q3 q4 q5 q6 q7; (try dsimp only); (try k_sweep); (obtain ⟨yk', yp', yo', z0', z4', z1', yr'⟩ := reg_facts' hw' q1 q3 q4); (first | k_dflt (refine' cutK (keptO hx' hw' ?z11zk ?z11zo ?z11ze) ?_; (case z11zk => k_extra "m_keptw"); (case z11zo => k_extra "m_fro"); (case z11ze => k_extra "m_exc"); intro kk') | skip))
  k_with "call ref" => (k_here; (with_reducible show wpAny _ _ (call (Value.ref 124) [_]) _ _ _); k_dflt (refine' begin_private_spec ?z12B ?z12F ?z12X ?z12T ?z12k ?z12r ?z12u (Fold'.nws ?z12S ?z12N) (Fold'.wf ?z12S ?z12w) ?z12x0 ?_; (case z12B => k_asm); (case z12F => k_asm); (case z12X => k_asm); (case z12T => k_asm); (case z12k => first | exact rfl | assumption); (case z12r => ktr_room); (case z12u => ktr_units); (case z12N => k_asm); (case z12S => k_extra "m_fold"); (case z12w => assumption); (case z12x0 => k_extra "m_rs")); intro t' h' tk' F' N' hw'; (try dsimp only); (try k_sweep))
  k_with "call ref" => (k_here; (with_reducible show wpAny _ _ (call (Value.ref 183) [_, _]) _ _ _); k_dflt (refine' note_type_spec ?z13B ?z13F ?z13X ?z13T ?z13k ?z13r ?z13u (Fold'.nws ?z13S ?z13N) (Fold'.wf ?z13S ?z13w) ?z13x0 ?z13x1 ?z13x2 ?_; (case z13B => k_asm); (case z13F => k_asm); (case z13X => k_asm); (case z13T => k_asm); (case z13k => first | exact rfl | assumption); (case z13r => ktr_room); (case z13u => ktr_units); (case z13N => k_asm); (case z13S => k_extra "m_fold"); (case z13w => assumption); (case z13x0 => k_extra "m_rs"); (case z13x1 => k_extra "m_nt1"); (case z13x2 => k_extra "m_nt2")); intro o' tp' h' tk' F' N' hw' to'; (try dsimp only); (try k_sweep))
  k_with "pyIter ref" => (k_here; (with_reducible show wpAny _ _ (pyIter (Value.ref _)) (fun it s₂ => TurnsAt _ _ _ _ _ _ _ _ _ it s₂) _ _); k_dflt (refine' iter_T (PJ _ _ wd rt pd _ _ _ _ _ _ _ _) ?z14qhh ?z14qF ?z14qN ?z14qS ?z14qw ?z14qhl ?z14qhc ?z14qhd ?z14qhj ?z14qturn ?z14qdone; (case z14qhh => exact rfl); (case z14qF => k_asm); (case z14qN => k_asm); (case z14qS => k_extra "m_fold"); (case z14qw => assumption); (case z14qhl => k_extra "m_ms2"); (case z14qhc => exact rfl); (case z14qhd => exact rfl); (case z14qhj => (refine ⟨?z14qp1, ?z14qp2, ?z14qp3, ?z14qp4, ?z14qp5, ?z14qp6, [], ?z14qp7, ?z14qp8, ?z14qp9, ?z14qp10⟩; (case z14qp1 => exact rfl); (case z14qp2 => exact rfl); (case z14qp3 => exact rfl); (case z14qp4 => exact ewd); (case z14qp5 => exact mem3); (case z14qp6 => exact mem2); (case z14qp7 => exact rfl); (case z14qp8 => exact rfl); (case z14qp9 => exact hL.addM.addM.addM); (case z14qp10 => exact hY.addM.addM.addM)))))
  iterate 21 (k_extra "m_step")
  focus
    intro i v m₁ W₁ h₁ tk₁ I io hv hJ hic hwI hlW hIo F₁ N₁
    obtain ⟨D, key, nm, t, t', ps, rfl, hD, hdot, hL1, hY1, hnm, hkey, hps, hnext⟩ := hJ.turn hv
    have ewd := hJ.wd
    have m1 := hJ.well
    have m2 := hJ.root
    have m3 := hJ.partsm
    rw [pin m1, pin m2, pin m3] at F₁
    have hrt := hL1.nu.rin
    have hkd := hL1.rt.kd
    have n0 := hY1.none0 hnm
    have n4 := hY1.none4 hnm
    have z0 := Nat.le_trans hY1.z0 (Nat.le_trans hps (by decide : 1 ≤ 1000))
    have z4 := Nat.le_trans hY1.z4 (Nat.le_trans hps (by decide : 1 ≤ 1000))
    have z1 := Nat.le_trans hY1.z1 (Nat.le_trans hps (by decide : 1 ≤ 1000))
    obtain ⟨v1, o1, hc1, hd1⟩ := hL1.cell1
    obtain ⟨po, hpo, hpd⟩ := hL1.parts
    have hD2 : (D, ({ cls := .type "tuple", data := .seq #[.int key t, .str nm t'] } : Obj)) ∈ (W₁.addM (I, io)) .ms := List.Mem.tail _ hD
    have hro1 := hL1.nu.ro _ hrt
    have hk5 := hL1.k5none hkey
    have hk5z := hL1.k5len hps
    obtain ⟨hpc1, hpc2, hrc⟩ := hL1.apart (wf_undo1 hwI) hpo hpd
    obtain ⟨hIpd, hIc1, hlpd, hlc1, hDD⟩ := turn_apart hJ hwI hIo hlW hpo hpd hc1 hd1
    have nrt : rt ∉ [_] := fun h => hrc (List.mem_singleton.mp h)
    k_with "m_nt1" => exact nt_none (yo'.trans hro1) (kk'.k5 rt hrt nrt) hk5
    k_with "m_nt2" => exact nt_len (yo'.trans hro1) (kk'.k5 rt hrt nrt) hk5z
    have kw := kw_start (W := W₁.addM (I, io)) hL1
    all_goals k_steps
    focus
      refine' FStepT.intro ?yF ?yN ?yS ?yw ?yI ?yl ?yJ
      case yF => assumption
      case yN => assumption
      case yS => exact Fold'.base
      case yw => assumption
      case yI => exact .tail _ (ms_delM (.tail _ (.tail _ (kk'.ms (I, io) (.head _) (fun h => hIc1 (List.mem_singleton.mp h))))) hIpd)
      case yl => exact .tail _ (ms_delM (.tail _ (.tail _ (kk'.ms (_, _) (.tail _ hlW) (fun h => hlc1 (List.mem_singleton.mp h))))) hlpd)
      case yJ =>
        refine' (fun zz => ?zgo : _ → _) (turn_post (kt := t) (p := PkD.mk key nm e' x' tp' _ (ptOf to' x')) (hL1.addM (q := (I, io))) hY1.addM hwI ?t2 ?t3 ?t4 ?t5 ?t6 ?t7 ?t8 ?t9 ?t10 ?t11 ?t12 ?t13 ?t14 ?t15 ?t16 ?t17 (by exact rfl) ?t19 ?t20 ?t21 ?t22 ?t23 ?t24 ?t25 ?t26 ?t27 ?t28 ?t29 hd' to' ?t32)
        case t2 => assumption
        case t3 => first | k_extra "m_keptw" | exact Kept.setPt (by k_extra "m_keptw") (by k_extra "m_exc")
        case t4 => (have hnu := hL1.nu; first | k_extra "m_nu" | (refine NUok.setPt ?_; k_extra "m_nu"))
        case t5 => k_extra "m_rs"
        case t6 => k_extra "m_rs"
        case t7 => exact yo'.trans hro1
        case t8 => exact yk'
        case t9 => exact yp'
        case t10 => exact (upd_same _ _ _).trans (by assumption)
        case t11 => exact upd_same _ _ _
        case t12 => exact upd_same _ _ _
        case t13 => exact yr'
        case t14 => exact y4'
        case t15 => exact en_ok gn' qv' gm' hro1 (fun e => hx' (e ▸ rs_addrs hrt)) hro1
        case t16 => exact z0'
        case t17 => exact z1'
        case t19 => k_extra "m_fro"
        case t20 => exact (upd_ne _ _ (ne_rs hx' (by k_extra "m_rs"))).trans g0'
        case t21 => exact (upd_ne _ _ (ne_rs hx' (by k_extra "m_rs"))).trans g4'
        case t22 => exact (upd_ne _ _ (ne_rs hx' (by k_extra "m_rs"))).trans g1'
        case t23 => exact n0
        case t24 => exact n4
        case t25 => exact old_ok hL1 (fun a ha => ne_rs hx' ha) _ _ _ _ _ _
        case t26 => exact ⟨_, _, by k_extra "m_ms2", d'⟩
        case t27 => k_extra "m_ms2"
        case t28 => exact hpd
        case t29 => exact hkey
        case t32 => exact off_q (by assumption)
        case zgo =>
          refine' hnext _ _ _ ?g1 ?g2 ?g3 ?g4 ?g5 ?g6 ?g7 (zz.1.del (by assumption) ?g8 hic (Ne.symm hIc1) ?g9 (Ne.symm hIpd)) zz.2.delM
          case g1 => exact rfl
          case g2 => exact rfl
          case g3 => exact rfl
          case g4 => exact rfl
          case g5 => exact rfl
          case g6 => exact ewd
          case g7 =>
            intro q hq e
            obtain ⟨a, b, c⟩ := hDD q hq e
            exact ms_delM (.tail _ (ms_delM (.tail _ (.tail _ (kk'.ms q (.tail _ hq) (fun h => b (List.mem_singleton.mp h))))) a)) c
          case g8 => exact .tail _ (ms_delM (.tail _ (.tail _ (kk'.ms (I, io) (.head _) (fun h => hIc1 (List.mem_singleton.mp h))))) hIpd)
          case g9 => exact let ⟨_, _, a, _⟩ := hL1.cell2; fun h => hIo (h ▸ addrs_ms2 a)
    focus
      refine' FStepT.intro ?yF ?yN ?yS ?yw ?yI ?yl ?yJ
      case yF => assumption
      case yN => assumption
      case yS => exact Fold'.base
      case yw => assumption
      case yI => exact .tail _ (ms_delM (.tail _ (.tail _ (kk'.ms (I, io) (.head _) (fun h => hIc1 (List.mem_singleton.mp h))))) hIpd)
      case yl => exact .tail _ (ms_delM (.tail _ (.tail _ (kk'.ms (_, _) (.tail _ hlW) (fun h => hlc1 (List.mem_singleton.mp h))))) hlpd)
      case yJ =>
        refine' (fun zz => ?zgo : _ → _) (turn_post (kt := t) (p := PkD.mk key nm e' x' tp' _ (ptOf to' x')) (hL1.addM (q := (I, io))) hY1.addM hwI ?t2 ?t3 ?t4 ?t5 ?t6 ?t7 ?t8 ?t9 ?t10 ?t11 ?t12 ?t13 ?t14 ?t15 ?t16 ?t17 (by exact rfl) ?t19 ?t20 ?t21 ?t22 ?t23 ?t24 ?t25 ?t26 ?t27 ?t28 ?t29 hd' to' ?t32)
        case t2 => assumption
        case t3 => first | k_extra "m_keptw" | exact Kept.setPt (by k_extra "m_keptw") (by k_extra "m_exc")
        case t4 => (have hnu := hL1.nu; first | k_extra "m_nu" | (refine NUok.setPt ?_; k_extra "m_nu"))
        case t5 => k_extra "m_rs"
        case t6 => k_extra "m_rs"
        case t7 => exact yo'.trans hro1
        case t8 => exact yk'
        case t9 => exact yp'
        case t10 => exact (upd_same _ _ _).trans (by assumption)
        case t11 => exact upd_same _ _ _
        case t12 => exact upd_same _ _ _
        case t13 => exact yr'
        case t14 => exact y4'
        case t15 => exact en_ok gn' qv' gm' hro1 (fun e => hx' (e ▸ rs_addrs hrt)) hro1
        case t16 => exact z0'
        case t17 => exact z1'
        case t19 => k_extra "m_fro"
        case t20 => exact (upd_ne _ _ (ne_rs hx' (by k_extra "m_rs"))).trans g0'
        case t21 => exact (upd_ne _ _ (ne_rs hx' (by k_extra "m_rs"))).trans g4'
        case t22 => exact (upd_ne _ _ (ne_rs hx' (by k_extra "m_rs"))).trans g1'
        case t23 => exact n0
        case t24 => exact n4
        case t25 => exact old_ok hL1 (fun a ha => ne_rs hx' ha) _ _ _ _ _ _
        case t26 => exact ⟨_, _, by k_extra "m_ms2", d'⟩
        case t27 => k_extra "m_ms2"
        case t28 => exact hpd
        case t29 => exact hkey
        case t32 => exact off_q (by assumption)
        case zgo =>
          refine' hnext _ _ _ ?g1 ?g2 ?g3 ?g4 ?g5 ?g6 ?g7 (zz.1.del (by assumption) ?g8 hic (Ne.symm hIc1) ?g9 (Ne.symm hIpd)) zz.2.delM
          case g1 => exact rfl
          case g2 => exact rfl
          case g3 => exact rfl
          case g4 => exact rfl
          case g5 => exact rfl
          case g6 => exact ewd
          case g7 =>
            intro q hq e
            obtain ⟨a, b, c⟩ := hDD q hq e
            exact ms_delM (.tail _ (ms_delM (.tail _ (.tail _ (kk'.ms q (.tail _ hq) (fun h => b (List.mem_singleton.mp h))))) a)) c
          case g8 => exact .tail _ (ms_delM (.tail _ (.tail _ (kk'.ms (I, io) (.head _) (fun h => hIc1 (List.mem_singleton.mp h))))) hIpd)
          case g9 => exact let ⟨_, _, a, _⟩ := hL1.cell2; fun h => hIo (h ▸ addrs_ms2 a)
  k_with "subscriptTail" => ((k_here; (with_reducible show wpAny _ _ (subscriptTail (PySem.Expr.List _ _) _ (Value.ref _) (Value.int _ _)) _ _ _); k_dflt (first
      | (refine' itemLM (j := 0) ?z15N ?z15p ?z15k ?z15j ?z15x ?_; (case z15N => k_asm); (case z15p => k_mem); (case z15k => exact rfl); (case z15j => decide); (case z15x => exact rfl))
      | (refine' itemLM (j := 1) ?z15N ?z15p ?z15k ?z15j ?z15x ?_; (case z15N => k_asm); (case z15p => k_mem); (case z15k => exact rfl); (case z15j => decide); (case z15x => exact rfl)))))
  intro m₁ W₁ h₁ tk₁ hJ hw₁ hl₁ F₁ N₁
  obtain ⟨p1, p2, hk1, hk2, hn1, hn2, hL1, hY1⟩ := hJ.two
  have ewd := hJ.wd
  have m1 := hJ.well
  have m2 := hJ.root
  have m3 := hJ.partsm
  rw [pin m1, pin m2, pin m3] at F₁
  obtain ⟨po, hpo, hpd⟩ := hL1.parts
  have P1 := hL1.rt.pks p1 (.head _)
  obtain ⟨u1, hq1⟩ := P1.qm
  have he1 := P1.e
  have her1 := P1.er
  have hv1 := parts_71 (p2 := p2) (f := fun p => .ref p.q) hk1
  iterate 1 (k_extra "m_step")
  dsimp only [envOfC] at F₁ N₁
  refine cut_at F₁ (MH wd rt pd p1 p2) ?_ ?_
  focus
    all_goals k_steps
    all_goals
      have z := fold_end (by k_asm) (by k_extra "m_fold") (by assumption)
      refine NextThen.mk ⟨_, _, _, _, _, rfl, by assumption, rfl, rfl, rfl, rfl, z.1, z.2, ewd, hL1.setW.addM, hY1.setW.addM, ?_⟩
      first | exact .inl rfl | exact .inr rfl
  k_extra "m_old"
  rintro s2 ⟨h', tk', m, W, hm, rfl, F', m1, m2, m3, m4, N', hw', ewd, hL, hY, hhm⟩
  rw [pin m1, pin m2, pin m3, pin m4] at F'
  k_extra "m_junk"
  k_with "call ref" => (k_here; (with_reducible show wpAny _ _ (call (Value.ref 290) [_, _, _]) _ _ _); k_dflt (refine' inst_spec ?z16B ?z16F ?z16X ?z16T ?z16k ?z16r ?z16u (Fold'.nws ?z16S ?z16N) (Fold'.wf ?z16S ?z16w) ?z16x0 ?z16x1 ?z16x2 ?z16x3 ?z16x4 ?z16x5 ?z16x6 ?z16x7 ?z16x8 ?_; (case z16B => k_asm); (case z16F => k_asm); (case z16X => k_asm); (case z16T => k_asm); (case z16k => first | exact rfl | assumption); (case z16r => ktr_room); (case z16u => ktr_units); (case z16N => k_asm); (case z16S => k_extra "m_fold"); (case z16w => assumption); (case z16x0 => assumption); (case z16x1 => assumption); (case z16x2 => assumption); (case z16x3 => first | exact .inl rfl | exact .inr rfl); (case z16x4 => assumption); (case z16x5 => assumption); (case z16x6 => assumption); (case z16x7 => assumption); (case z16x8 => assumption)); intro W' tup' ar' rg' un' ur' nl' g' ns' h' tk' F' N' hw' hR'; (try dsimp only); (try k_sweep))
  obtain ⟨n0, hf, hv, hv4, hz0, hz4, hz1⟩ := inst_pre hL hY hn1 hn2 hhm
  have hnu := hL.nu
  have hwW := hw'
  iterate 14 (k_extra "m_step")
  have htup := hR'.tupm
  iterate 16 (k_extra "m_step")
  obtain ⟨vc, oc, hc2, hd2⟩ := hL.cell2
  have hc2' := hR'.kept.ms _ hc2 (fun h => nomatch h)
  have hL' := hL.kept (hR'.kept.more fun x h => nomatch h) hwW hc2 hd2 hR'.nu ⟨_, _, hc2', hd2⟩
  have hI := IR.of hR' hw' hc2' hd2
  have za := Fz.of hL hR'.aro
  have zr := Fz.of hL hR'.rgo
  have zu := Fz.of hL hR'.uro
  have i2 : I2 W' ar' ur' (Str.ofString "g") := ⟨hR'.k0u, hR'.l1u, hR'.k4a, hR'.z4a⟩
  have ewd' := hR'.kept.wd.trans ewd
  have hri := hL'.nu.rin
  have hhi := (HC.of' hL' hhm).sc.mem
  have kw : Kept [_] W' W' := kw_start2 hL
  have hnu' := hR'.nu
  refine cut_at F' (MO wd rt pd p1 p2) ?_ ?_
  focus
    all_goals k_steps
    all_goals
      have z := fold_end (by k_asm) (by k_extra "m_fold") (by assumption)
      refine NextThen.mk ⟨_, _, _, _, hm, ar', rg', un', ur', nl', _, ns', rfl, by assumption, rfl, rfl, rfl, rfl, rfl, rfl, rfl, rfl, z.1, z.2, ewd', ⟨hL'.kept kw.addM hw' hc2' hd2 hnu'.addM ⟨_, _, .tail _ hc2', hd2⟩, hI.kept kw.addM hw' hc2' hd2 rfl, ⟨i2.k0u, i2.l1u, i2.k4a, i2.z4a⟩, hhm, za, zr, zu, _, _, .head _, ?_⟩⟩
      show IntsAre _ ((loH rt p1 hm).map ((W' .nu)))
      first
        | (rw [out_eq hL' hhm (by assumption)]; exact .cons _ _ .nil)
        | (rw [out_ne hhm (by assumption)]; exact .cons _ _ (.cons _ _ .nil))
  k_extra "m_old"
  rintro s2 ⟨h', tk', m, W, hm, ar, rg, un, ur, nl, ol, ns, rfl, F', m1, m2, m3, m4, m5, m6, m7, m8, N', hw', ewd, hO⟩
  rw [pin m1, pin m2, pin m3, pin m4, pin m5, pin m6, pin m7, pin m8] at F'
  k_extra "m_junk"
  k_with "m_keep" => first | exact KeepF.nil | (refine' KeepF.cons ?z17p ?z17q; (case z17q => k_extra "m_keep"); (case z17p => k_extra "m_off"))
  k_with "call ref" => (k_here; (with_reducible show wpAny _ _ (call (Value.ref 276) [_, _]) _ _ _); k_dflt (refine' dip_keep ?z18B ?z18F ?z18X ?z18T ?z18k ?z18r ?z18u ?z18N ?z18w ?z18S ?z18x0 ?z18x1 ?z18x2 ?_; (case z18B => k_asm); (case z18F => k_asm); (case z18X => k_asm); (case z18T => k_asm); (case z18k => first | exact rfl | assumption); (case z18r => ktr_room); (case z18u => ktr_units); (case z18N => k_asm); (case z18S => k_extra "m_keep"); (case z18w => assumption); (case z18x0 => first | assumption | exact rfl); (case z18x1 => decide); (case z18x2 => decide)); intro v' tv' o' k' t' h' tk' F' N' hw' v0' v1'; (try dsimp only); (try k_sweep))
  k_with "eval Dict" => (k_here; k_dflt (refine' kdn_eval (knd := PySem.intKind _ _) ?z19F ?z19N ?z19b ?z19a ?z19l ?z19e ?z19n ?_; (case z19F => k_asm); (case z19N => k_asm); (case z19b => exact Top.nolimit (by k_asm)); (case z19a => rfl); (case z19l => rfl); (case z19e => exact List.cons_ne_nil _ _); (case z19n => exact Nat.le_of_ble_eq_true rfl)); intro d' h' o' F' N' l1 lo' hd'; (try k_lt l1))
  k_with "binaryOp Add ref ref" => (k_here; (with_reducible show wpAny _ _ (binaryOp _ (Value.ref _) (Value.ref _)) _ _ _); k_dflt (refine' kmk_add_ints ?z20F ?z20N ?z20a ?z20b ?z20i ?z20j ?_ ?z20z; (case z20F => k_asm); (case z20N => k_asm); (case z20a => exact isList_news (by k_asm : News _ _ _ _) (by exact List.Mem.head _)); (case z20b => exact isList_news (by k_asm : News _ _ _ _) (by exact List.Mem.tail _ (List.Mem.tail _ (mem_ms hov)))); (case z20i => exact IntsAre.cons _ _ (IntsAre.cons _ _ (IntsAre.cons _ _ IntsAre.nil))); (case z20j => exact hoi); (case z20z => exact hz3)); intro D' ws' h' F' N' l1 hI'; (try k_lt l1); (try k_sweep))
  k_with "m_ms2" => exact hc2
  k_with "storeName" => (k_here; k_dflt (refine' run_cellS ?z22F ?z22N ?z22S ?z22w ?z22c ?z22l ?z22d ?_ ?z22a ?z22b; (case z22a => exact rfl); (case z22b => exact rfl); (case z22F => k_asm); (case z22N => k_asm); (case z22S => k_extra "m_fold"); (case z22w => assumption); (case z22c => exact rfl); (case z22l => k_extra "m_ms2"); (case z22d => assumption)); intro h' o' F' N' hw' d' hst'; (try dsimp only); (try k_sweep))
  have hwW := hw'
  have hO1 := hO.ir
  have hL := hO.ls
  have hnu := hL.nu
  have kw : Kept [_] W W := kw_start2 hL
  iterate 15 (k_extra "m_step")
  have hri := hO1.rgi
  have hui := hO1.uri
  have hai := hO1.ari
  have hni := hO1.uni
  have her := hO1.er
  obtain ⟨ov, on, hov, hoi⟩ := hO.out
  obtain ⟨vc, oc, hc2, hd2⟩ := hL.cell2
  have hz3 : 3 + ((loH rt p1 hm).map ((W .nu))).length ≤ sizeLine := loH_fit (by decide)
  iterate 36 (k_extra "m_step")
  iterate 15 (k_extra "m_step")
  refine cut_at F' (MW wd rt pd p1 p2) ?_ ?_
  focus
    all_goals k_steps
    have z := fold_end (by k_asm) (by k_extra "m_fold") (by assumption)
    rename Obj.IsDictOf _ _ (intKeyPairs _) => zd
    refine' NextThen.mk ⟨_, _, _, _, hm, ar, rg, un, ur, nl, _, _, _, ns, _, _, rfl, by assumption, rfl, rfl, rfl, rfl, rfl, rfl, rfl, rfl, rfl, rfl, rfl, z.1, z.2, ewd, ⟨hL.kept ?yK hwW hc2 hd2 ?ynu ⟨_, _, ?yc2, d'⟩, hO1.kept ?yK2 hwW hc2 hd2 rfl, ⟨hO.i2.k0u, hO.i2.l1u, hO.i2.k4a, hO.i2.z4a⟩, hO.hh, hO.za, hO.zr, hO.zu, v0', v1', ⟨ws', 0, ?ycl, hI'⟩, ⟨0, .head _⟩, ⟨_, ?yfo, zd⟩, ⟨_, ?yc3, d'⟩, ?yflo⟩⟩
    case yK => k_extra "m_keptw"
    case yK2 => k_extra "m_keptw"
    case ynu => k_extra "m_nu"
    case yc2 => exact .tail _ (.head _)
    case yc3 => exact .tail _ (.head _)
    case yflo => assumption
    case ycl => exact .tail _ (hst' _ (by k_extra "m_ms2") (fun e => by cases e))
    case yfo => exact .tail _ (hst' _ (by k_extra "m_ms2") (dict_nc zd))
  k_extra "m_old"
  rintro s2 ⟨h', tk', m, W, hm, ar, rg, un, ur, nl, cl, bl, fo, ns, way, wt, rfl, F', m1, m2, m3, m4, m5, m6, m7, m8, m9, m10, m11, N', hw', ewd, hO⟩
  rw [pin m1, pin m2, pin m3, pin m4, pin m5, pin m6, pin m7, pin m8, pin m9, pin m10, pin m11] at F'
  k_extra "m_junk"
  k_with "m_ms2" => first | exact hc2 | exact hcl | exact hbl | exact hfo
  k_with "m_keep" => first | exact KeepF.nil | (refine' KeepF.cons ?z24p ?z24q; (case z24q => k_extra "m_keep"); (case z24p => k_extra "m_off"))
  k_with "call ref" => (k_here; (with_reducible show wpAny _ _ (call (Value.ref 276) [_, _]) _ _ _); k_dflt (refine' dip_keep ?z25B ?z25F ?z25X ?z25T ?z25k ?z25r ?z25u ?z25N ?z25w ?z25S ?z25x0 ?z25x1 ?z25x2 ?_; (case z25B => k_asm); (case z25F => k_asm); (case z25X => k_asm); (case z25T => k_asm); (case z25k => first | exact rfl | assumption); (case z25r => ktr_room); (case z25u => ktr_units); (case z25N => k_asm); (case z25S => k_extra "m_keep"); (case z25w => assumption); (case z25x0 => first | assumption | exact rfl); (case z25x1 => decide); (case z25x2 => decide)); intro v' tv' o' k' t' h' tk' F' N' hw' v0' v1'; (try dsimp only); (try k_sweep); first | (refine (split2 v0' v1').elim ?_ ?_ <;> (intro e'; subst e')) | (refine (split3 v0' v1').elim ?_ (fun e => e.elim ?_ ?_) <;> (intro e'; subst e')) | (refine (split4 v0' v1').elim ?_ (fun e => e.elim ?_ (fun e => e.elim ?_ ?_)) <;> (intro e'; subst e')) | (refine (split6 v0' v1').elim ?_ (fun e => e.elim ?_ (fun e => e.elim ?_ (fun e => e.elim ?_ (fun e => e.elim ?_ ?_)))) <;> (intro e'; subst e')) | skip)
  k_with "call ref" => (k_here; (with_reducible show wpAny _ _ (call (Value.ref 31) [_, _, _, _, _, _]) _ _ _); k_dflt (refine' entity_l ?z26B ?z26F ?z26X ?z26T ?z26k ?z26r ?z26u (Fold'.nws ?z26S ?z26N) (Fold'.wf ?z26S ?z26w)  ?_; (case z26B => k_asm); (case z26F => k_asm); (case z26X => k_asm); (case z26T => k_asm); (case z26k => first | exact rfl | assumption); (case z26r => ktr_room); (case z26u => ktr_units); (case z26N => k_asm); (case z26S => k_extra "m_fold"); (case z26w => assumption)); intro e' R' h' tk' Wl' F' N' hw' hx' q1 q2; (try dsimp only); (try k_sweep); (have y' := ef_addE hw' q1); (obtain ⟨y0', y1', y3', y4'⟩ := y'); (have yr' := er_addE hw' q2); (first | k_dflt (refine' cutK (keptE hx' hw' ?z26zk ?z26zo) ?_; (case z26zk => k_extra "m_keptw"); (case z26zo => k_extra "m_fro"); intro kk') | skip))
  k_with "call ref" => (k_here; (with_reducible show wpAny _ _ (call (Value.ref 171) [_, _]) _ _ _); k_dflt (refine' decl_l ?z27B ?z27F ?z27X ?z27T ?z27k ?z27r ?z27u (Fold'.nws ?z27S ?z27N) (Fold'.wf ?z27S ?z27w) ?z27x0 ?z27x1 ?z27x2 ?z27x3 ?z27x4 ?z27x5 ?z27x6 ?z27x7 ?z27x8 ?z27x9 ?z27x10 ?_; (case z27B => k_asm); (case z27F => k_asm); (case z27X => k_asm); (case z27T => k_asm); (case z27k => first | exact rfl | assumption); (case z27r => ktr_room); (case z27u => ktr_units); (case z27N => k_asm); (case z27S => k_extra "m_fold"); (case z27w => assumption); (case z27x0 => k_extra "m_rs"); (case z27x1 => k_extra "m_frm2"); (case z27x2 => k_extra "m_eq"); (case z27x3 => k_extra "m_dec"); (case z27x4 => k_extra "m_eq"); (case z27x5 => k_extra "m_dec"); (case z27x6 => k_extra "m_va"); (case z27x7 => k_extra "m_va"); (case z27x8 => k_extra "m_sz"); (case z27x9 => k_extra "m_sz"); (case z27x10 => k_extra "m_sz")); intro t1' ven' vep' o4' t4' o0' l' h' tk' Wl' qv' F' N' hw' lo'; (try dsimp only); (try k_sweep); (obtain ⟨g0', g4', gn', g1', gm', gl'⟩ := decl_facts hw'); (first | k_dflt (refine' cutK (keptD hw' ?z27zk ?z27zo) ?_; (case z27zk => k_extra "m_keptw"); (case z27zo => k_extra "m_exc"); intro kk') | skip))
  have hwW := hw'
  have hI := hO.ir
  have hL := hO.ls
  have hnu := hL.nu
  have kw : Kept [_] W W := kw_start2 hL
  have hrt := hL.nu.rin
  have hri := hI.rgi
  have hui := hI.uri
  have hai := hI.ari
  have hni := hI.uni
  have her := hI.er
  have hH := HC.of' hL hO.hh
  obtain ⟨cvs, ccn, hcl, hci⟩ := hO.ocl
  obtain ⟨bcn, hbl⟩ := hO.obl
  obtain ⟨foo, hfo, hfd⟩ := hO.ofo
  obtain ⟨oc, hc2, hd2⟩ := hO.c2
  iterate 1 (k_extra "m_step")
  refine cut_at F' (M6 wd rt pd p1 p2) ?_ ?_
  focus
    have hlo := hO.lo
    have hhi := hO.hi
    rcases split6 hlo hhi with e | e | e | e | e | e <;> subst e
    focus
      all_goals k_steps

      have z := fold_end (by k_asm) (by k_extra "m_fold") (by assumption)
      refine' cutK (Kept.to z.2 hL ?yK) ?_
      case yK => k_extra "m_keptw"
      intro hK
      refine' cutK (LS.to z.2 hL hwW hc2 hd2 hK ?ynu ?yc) ?_
      case ynu => k_extra "m_nu"
      case yc => k_extra "m_ms2"
      intro hLz
      refine' cutK (IR.to z.2 hI hwW hc2 hd2 hK ?yk0) ?_
      case yk0 => exact rfl
      intro hIz
      refine' NextThen.mk ⟨_, _, _, _, ur, _, _, fo, _, _, _, _, _, _, rfl, by assumption, rfl, rfl, rfl, rfl, rfl, z.1, z.2, ewd, hLz, ⟨oc, ?yc2, hd2⟩, way_ur hLz hIz (HC.of' hLz hO.hh) hO.za hO.zr hO.zu ⟨cvs, _, ?ycl, hci, len10 hci loH_3⟩ ⟨[], bcn, ?ybl, .nil, Nat.zero_le _⟩ ⟨foo, _, ?yfo, hfd, fok1 hIz.num⟩, hO.flo⟩
      case yc2 => k_extra "m_ms2"
      case ycl => k_extra "m_ms2"
      case ybl => k_extra "m_ms2"
      case yfo => k_extra "m_ms2"
    focus
      k_with "subscriptTail Name Slice ref ref" => (k_here; (with_reducible show wpAny _ _ (subscriptTail _ (PySem.Expr.Slice _ _ none _) (Value.ref _) (Value.ref _)) _ _ _); k_dflt (refine' kmk_slice_ints ?z28F ?z28N ?z28l ?z28p ?z28q ?z28i ?z28m ?z28c ?_ ?z28s ?z28t ?z28z; (case z28F => k_asm); (case z28N => k_asm); (case z28l => exact isList_news (by k_asm : News _ _ _ _) (by exact mem_ms hcl)); (case z28p => kmk_part); (case z28q => kmk_part); (case z28i => exact hci); (case z28m => exact kmk_from hci (by decide)); (case z28c => exact rfl); (case z28s => with_unfolding_all rfl); (case z28t => kmk_pure); (case z28z => exact kmk_sz hci (fit5 loH_3))); intro D' ws' h' F' N' l1 hI' hC' hL'; (try k_lt l1); (try k_sweep))
      all_goals k_steps

      have z := fold_end (by k_asm) (by k_extra "m_fold") (by assumption)
      refine' cutK (Kept.to z.2 hL ?yK) ?_
      case yK => k_extra "m_keptw"
      intro hK
      refine' cutK (LS.to z.2 hL hwW hc2 hd2 hK ?ynu ?yc) ?_
      case ynu => k_extra "m_nu"
      case yc => k_extra "m_ms2"
      intro hLz
      refine' cutK (IR.to z.2 hI hwW hc2 hd2 hK ?yk0) ?_
      case yk0 => exact rfl
      intro hIz
      refine' NextThen.mk ⟨_, _, _, _, rg, _, _, fo, _, _, _, _, _, _, rfl, by assumption, rfl, rfl, rfl, rfl, rfl, z.1, z.2, ewd, hLz, ⟨oc, ?yc2, hd2⟩, way_rg hLz hIz (HC.of' hLz hO.hh) hO.za hO.zr hO.zu ⟨ws', _, ?ycl, hI', len10 hI' (Nat.le_trans hL' loH_3)⟩ ⟨[], bcn, ?ybl, .nil, Nat.zero_le _⟩ ⟨foo, _, ?yfo, hfd, fok1 hIz.num⟩, hO.flo⟩
      case yc2 => k_extra "m_ms2"
      case ycl => k_extra "m_ms2"
      case ybl => k_extra "m_ms2"
      case yfo => k_extra "m_ms2"
    focus
      k_with "subscriptTail Name Slice ref ref" => (k_here; (with_reducible show wpAny _ _ (subscriptTail _ (PySem.Expr.Slice _ _ none _) (Value.ref _) (Value.ref _)) _ _ _); k_dflt (refine' kmk_slice_ints ?z29F ?z29N ?z29l ?z29p ?z29q ?z29i ?z29m ?z29c ?_ ?z29s ?z29t ?z29z; (case z29F => k_asm); (case z29N => k_asm); (case z29l => exact isList_news (by k_asm : News _ _ _ _) (by exact mem_ms hcl)); (case z29p => kmk_part); (case z29q => kmk_part); (case z29i => exact hci); (case z29m => exact kmk_from hci (by decide)); (case z29c => exact rfl); (case z29s => with_unfolding_all rfl); (case z29t => kmk_pure); (case z29z => exact kmk_sz hci (fit5 loH_3))); intro D' ws' h' F' N' l1 hI' hC' hL'; (try k_lt l1); (try k_sweep))
      all_goals k_steps

      have z := fold_end (by k_asm) (by k_extra "m_fold") (by assumption)
      refine' cutK (Kept.to z.2 hL ?yK) ?_
      case yK => k_extra "m_keptw"
      intro hK
      refine' cutK (LS.to z.2 hL hwW hc2 hd2 hK ?ynu ?yc) ?_
      case ynu => k_extra "m_nu"
      case yc => k_extra "m_ms2"
      intro hLz
      refine' cutK (IR.to z.2 hI hwW hc2 hd2 hK ?yk0) ?_
      case yk0 => exact rfl
      intro hIz
      refine' NextThen.mk ⟨_, _, _, _, ar, _, _, fo, _, _, _, _, _, _, rfl, by assumption, rfl, rfl, rfl, rfl, rfl, z.1, z.2, ewd, hLz, ⟨oc, ?yc2, hd2⟩, way_ar hLz hIz (HC.of' hLz hO.hh) hO.za hO.zr hO.zu ⟨ws', _, ?ycl, hI', len10 hI' (Nat.le_trans hL' loH_3)⟩ ⟨[], bcn, ?ybl, .nil, Nat.zero_le _⟩ ⟨foo, _, ?yfo, hfd, fok1 hIz.num⟩, hO.flo⟩
      case yc2 => k_extra "m_ms2"
      case ycl => k_extra "m_ms2"
      case ybl => k_extra "m_ms2"
      case yfo => k_extra "m_ms2"
    focus
      k_with "call ref" => (k_here; (with_reducible show wpAny _ _ (call (Value.ref 117) [_, _, _]) _ _ _); k_dflt (refine' open_region_non ?z30B ?z30F ?z30X ?z30T ?z30k ?z30r ?z30u (Fold'.nws ?z30S ?z30N) (Fold'.wf ?z30S ?z30w) ?z30x0 ?z30x1 ?_; (case z30B => k_asm); (case z30F => k_asm); (case z30X => k_asm); (case z30T => k_asm); (case z30k => first | exact rfl | assumption); (case z30r => ktr_room); (case z30u => ktr_units); (case z30N => k_asm); (case z30S => k_extra "m_fold"); (case z30w => assumption); (case z30x0 => k_extra "m_rs"); (case z30x1 => first | exact .inr (.inl rfl) | exact .inr (.inr rfl))); intro x' R' t' h' tk' F' N' hw' hx' q1 q2 q3 q4 q5 q6 q7; (try dsimp only); (try k_sweep); (obtain ⟨yk', yp', yo', z0', z4', z1'⟩ := reg_facts hw' q1 q3 q4); (refine' cutK (keptR hx' hw' ?z30zk ?z30zo) ?_; (case z30zk => k_extra "m_keptw"); (case z30zo => k_extra "m_fro"); intro kk'))
      all_goals k_steps

      have z := fold_end (by k_asm) (by k_extra "m_fold") (by assumption)
      refine' cutK (Kept.to z.2 hL ?yK) ?_
      case yK => k_extra "m_keptw"
      intro hK
      refine' cutK (LS.to z.2 hL hwW hc2 hd2 hK ?ynu ?yc) ?_
      case ynu => k_extra "m_nu"
      case yc => k_extra "m_ms2"
      intro hLz
      refine' cutK (IR.to z.2 hI hwW hc2 hd2 hK ?yk0) ?_
      case yk0 => exact upd_ne _ _ (ne_rs hx' hri)
      intro hIz
      have zx := Fz.of hL hx'
      have e1 := nu_map hK hO.all
      have e2 := hK.nu _ hri
      rw [← e1] at hci
      rw [← e2] at hfd
      refine' NextThen.mk ⟨_, _, _, _, x', _, _, fo, _, _, _, _, _, _, rfl, by assumption, rfl, rfl, rfl, rfl, rfl, z.1, z.2, ewd, hLz, ⟨oc, ?yc2, hd2⟩, way_blk hLz hIz (HC.of' hLz hO.hh) zx (.head _) yp' (upd_same _ _ _) (upd_same _ _ _) (fun e => hx' (e ▸ rs_addrs hai)) (fun e => hx' (e ▸ rs_addrs hri)) (fun e => hx' (e ▸ rs_addrs hui)) ⟨cvs, _, ?ycl, hci, len10 hci loH_3⟩ ⟨[], bcn, ?ybl, .nil, Nat.zero_le _⟩ ⟨foo, _, ?yfo, hfd, fok1 hIz.num⟩, hO.flo⟩
      case yc2 => k_extra "m_ms2"
      case ycl => k_extra "m_ms2"
      case ybl => k_extra "m_ms2"
      case yfo => k_extra "m_ms2"
    focus
      k_with "m_keep" => first | exact KeepF.nil | (refine' KeepF.cons ?z31p ?z31q; (case z31q => k_extra "m_keep"); (case z31p => k_extra "m_off"))
      k_with "call ref" => (k_here; (with_reducible show wpAny _ _ (call (Value.ref 276) [_, _]) _ _ _); k_dflt (refine' dip_keep ?z32B ?z32F ?z32X ?z32T ?z32k ?z32r ?z32u ?z32N ?z32w ?z32S ?z32x0 ?z32x1 ?z32x2 ?_; (case z32B => k_asm); (case z32F => k_asm); (case z32X => k_asm); (case z32T => k_asm); (case z32k => first | exact rfl | assumption); (case z32r => ktr_room); (case z32u => ktr_units); (case z32N => k_asm); (case z32S => k_extra "m_keep"); (case z32w => assumption); (case z32x0 => first | assumption | exact rfl); (case z32x1 => decide); (case z32x2 => decide)); intro v' tv' o' k' t' h' tk' F' N' hw' v0' v1'; (try dsimp only); (try k_sweep))
      k_with "call ref" => (k_here; (with_reducible show wpAny _ _ (call (Value.ref 117) [_, _, _]) _ _ _); k_dflt (refine' open_region_non ?z33B ?z33F ?z33X ?z33T ?z33k ?z33r ?z33u (Fold'.nws ?z33S ?z33N) (Fold'.wf ?z33S ?z33w) ?z33x0 ?z33x1 ?_; (case z33B => k_asm); (case z33F => k_asm); (case z33X => k_asm); (case z33T => k_asm); (case z33k => first | exact rfl | assumption); (case z33r => ktr_room); (case z33u => ktr_units); (case z33N => k_asm); (case z33S => k_extra "m_fold"); (case z33w => assumption); (case z33x0 => k_extra "m_rs"); (case z33x1 => first | exact .inr (.inl rfl) | exact .inr (.inr rfl))); intro x' R' t' h' tk' F' N' hw' hx' q1 q2 q3 q4 q5 q6 q7; (try dsimp only); (try k_sweep); (obtain ⟨yk', yp', yo', z0', z4', z1'⟩ := reg_facts hw' q1 q3 q4); (refine' cutK (keptR hx' hw' ?z33zk ?z33zo) ?_; (case z33zk => k_extra "m_keptw"); (case z33zo => k_extra "m_fro"); intro kk'))
      k_with "newTuple" => (k_here; k_dflt (refine' kup_newTuple ?z34F ?z34N ?_ ?z34z; (case z34F => k_asm); (case z34N => k_asm); (case z34z => exact Nat.le_of_ble_eq_true rfl)); intro D' h' F' N' l1; (try k_lt l1); (try k_sweep))
      k_with "subscriptTail Tuple cons Call ref int" => (k_here; (with_reducible show wpAny _ _ (subscriptTail _ _ (Value.ref _) (Value.int _ _)) _ _ _); k_dflt (refine' tup3 ?z35N ?z35p v0' v1' ?_; (case z35N => k_asm); (case z35p => exact List.Mem.head _)); intro dv hdv)
      k_with "subscriptTail Tuple cons Call ref int" => (k_here; (with_reducible show wpAny _ _ (subscriptTail _ _ (Value.ref _) (Value.int _ _)) _ _ _); k_dflt (refine' tup3r ?z36N ?z36p v0' v1' ?_; (case z36N => k_asm); (case z36p => exact List.Mem.head _)); intro r5 hr5)
      k_with "call ref" => (k_here; (with_reducible show wpAny _ _ (call (Value.ref 176) [_, _]) _ _ _); k_dflt (refine' add_use_nil ?z37B ?z37F ?z37X ?z37T ?z37k ?z37r ?z37u (Fold'.nws ?z37S ?z37N) (Fold'.wf ?z37S ?z37w) ?z37x0 ?z37x1 ?z37x2 ?_; (case z37B => k_asm); (case z37F => k_asm); (case z37X => k_asm); (case z37T => k_asm); (case z37k => first | exact rfl | assumption); (case z37r => ktr_room); (case z37u => ktr_units); (case z37N => k_asm); (case z37S => k_extra "m_fold"); (case z37w => assumption); (case z37x0 => k_extra "m_rs"); (case z37x1 => k_extra "m_rs"); (case z37x2 => first | assumption | exact upd_same _ _ _)); intro h' tk' F' N' hw'; (try dsimp only); (try k_sweep))
      k_with "m_off" => with_reducible exact led_off (by with_reducible assumption)
      iterate 62 (k_extra "m_step")
      have hxx := hx'
      have hyo := yo'
      have hyp := yp'
      have hro1 := hnu.ro rt hrt
      iterate 61 (k_extra "m_step")
      have kkE := kk'
      have heo : e' ∉ addrs W := by k_extra "m_fro"
      iterate 9 (k_extra "m_step")
      have hni4 := kk'.es un hni
      have her4 := (kk'.er un hni (fun e => es_ne_ms hwW hni hc2 (List.mem_singleton.mp e))).trans her
      have hri4 := kk'.rs rt hrt
      have hui4 := kk'.rs ur hui
      have hrg4 := kk'.rs rg hri
      have ewd4 := wd_to hw' (kk'.wd.trans ewd)
      iterate 36 (k_extra "m_step")
      have hdat := ef_to hw' y4'
      have her5 := er_to hw' (upd_same _ _ _)
      have he5 := es_to hw' (List.Mem.head _)
      have hr55 := rs_to hw' (hr5.elim (fun e => e ▸ hui4) (fun e => e ▸ hri4))
      have hrt5 := rs_to hw' hri4
      have hxi5 := rs_to hw' (List.Mem.head _)
      have hxp5 := pa_to hw' hyp
      have hx35 := l3_to hw' (upd_same _ _ _)
      have hx25 := l2_to hw' (l2_one (upd_same _ _ _))
      have hk05 := k0_to hw' ((upd_ne _ _ (ne_rs hxx hri)).trans (upd_ne _ _ (ne_rs hxx hri)))
      have hen5 := en_to hw' (gn'.trans qv')
      have hmc5 := mc_lt (kkE.mc rt hrt) (hyo.trans hro1)
      have hwW5 := hw'
      refine' cutK (Kept.to hwW5 hL ?yK) ?_
      case yK =>
        refine Kept.app2 ?_ (.inr hxx)
        refine Kept.addM ?_
        refine Kept.setEr ?_ (.inr heo)
        k_extra "m_keptw"
      intro hK5
      refine' cutK (NUok.to (rt := rt) hwW5 ?yn) ?_
      case yn =>
        refine NUok.app2 ?_
        k_extra "m_nu"
      intro hnu5
      refine' cutK (mem_to (p := (_, oc)) hwW5 ?yc) ?_
      case yc => k_extra "m_ms2"
      intro hc5
      refine' cutK (mem_to (p := (_, foo)) hwW5 ?yf) ?_
      case yf => k_extra "m_ms2"
      intro hfo5
      have ewd5 := hK5.wd.trans ewd
      rcases hdv with rfl | rfl | rfl
      all_goals k_steps
      focus
        have z := fold_end (by k_asm) (by k_extra "m_fold") (by assumption)
        refine' M6.mk' (by assumption) rfl rfl rfl rfl rfl z.1 z.2 ewd5 hc5 hd2 hO.flo (way_f (bns := ns) (b := true) z.2 hL hwW hc2 hd2 hK5 hnu5 hc5 hI hk05 hO.zr hO.zu hxx hxi5 hxp5 hx25 hx35 he5 her5 hr5 hen5 hmc5 hdat ?yb (fun k => by rw [hs_ne hr5 (by assumption)]; rfl) ⟨_, _, ?ycl, ints_one (hK5.nu _ hrt), Nat.le_of_ble_eq_true rfl⟩ (IR.to hwW5 hI hwW hc2 hd2 hK5 hk05).num ⟨foo, hfo5, hfd⟩)
        case yb => first | exact .inl ⟨rfl, _, rfl⟩ | exact .inr ⟨rfl, .inr ⟨_, rfl⟩⟩ | exact .inr ⟨rfl, .inl rfl⟩
        case ycl => k_extra "m_ms2"
      focus
        have z := fold_end (by k_asm) (by k_extra "m_fold") (by assumption)
        refine' M6.mk' (by assumption) rfl rfl rfl rfl rfl z.1 z.2 ewd5 (List.Mem.tail _ hc5) hd2 hO.flo (way_f (bns := []) (b := true) z.2 hL hwW hc2 hd2 hK5.addM hnu5.addM (List.Mem.tail _ hc5) hI hk05 hO.zr hO.zu hxx hxi5 hxp5 hx25 hx35 he5 her5 hr5 hen5 hmc5 hdat ?yb (fun k => by rw [hs_eq hnu5 hr55 hO.zu (by assumption)]; rfl) ⟨_, _, ?ycl, ints_one (hK5.nu _ hrt), Nat.le_of_ble_eq_true rfl⟩ ⟨[], _, List.Mem.head _, .nil, Nat.zero_le _⟩ ⟨foo, (List.Mem.tail _ hfo5), hfd⟩)
        case yb => first | exact .inl ⟨rfl, _, rfl⟩ | exact .inr ⟨rfl, .inr ⟨_, rfl⟩⟩ | exact .inr ⟨rfl, .inl rfl⟩
        case ycl => k_extra "m_ms2"
      focus
        have z := fold_end (by k_asm) (by k_extra "m_fold") (by assumption)
        refine' M6.mk' (by assumption) rfl rfl rfl rfl rfl z.1 z.2 ewd5 (List.Mem.tail _ hc5) hd2 hO.flo (way_f (bns := []) (b := false) z.2 hL hwW hc2 hd2 hK5.addM hnu5.addM (List.Mem.tail _ hc5) hI hk05 hO.zr hO.zu hxx hxi5 hxp5 hx25 hx35 he5 her5 hr5 hen5 hmc5 hdat ?yb (fun k => rfl) ⟨_, _, ?ycl, ints_one (hK5.nu _ hrt), Nat.le_of_ble_eq_true rfl⟩ ⟨[], _, List.Mem.head _, .nil, Nat.zero_le _⟩ ⟨foo, (List.Mem.tail _ hfo5), hfd⟩)
        case yb => first | exact .inl ⟨rfl, _, rfl⟩ | exact .inr ⟨rfl, .inr ⟨_, rfl⟩⟩ | exact .inr ⟨rfl, .inl rfl⟩
        case ycl => k_extra "m_ms2"
      focus
        have z := fold_end (by k_asm) (by k_extra "m_fold") (by assumption)
        refine' M6.mk' (by assumption) rfl rfl rfl rfl rfl z.1 z.2 ewd5 (List.Mem.tail _ hc5) hd2 hO.flo (way_f (bns := []) (b := false) z.2 hL hwW hc2 hd2 hK5.addM hnu5.addM (List.Mem.tail _ hc5) hI hk05 hO.zr hO.zu hxx hxi5 hxp5 hx25 hx35 he5 her5 hr5 hen5 hmc5 hdat ?yb (fun k => rfl) ⟨_, _, ?ycl, ints_one (hK5.nu _ hrt), Nat.le_of_ble_eq_true rfl⟩ ⟨[], _, List.Mem.head _, .nil, Nat.zero_le _⟩ ⟨foo, (List.Mem.tail _ hfo5), hfd⟩)
        case yb => first | exact .inl ⟨rfl, _, rfl⟩ | exact .inr ⟨rfl, .inr ⟨_, rfl⟩⟩ | exact .inr ⟨rfl, .inl rfl⟩
        case ycl => k_extra "m_ms2"
    focus
      k_with "newTuple" => (k_here; k_dflt (refine' kup_newTuple ?z39F ?z39N ?_ ?z39z; (case z39F => k_asm); (case z39N => k_asm); (case z39z => exact Nat.le_of_ble_eq_true rfl)); intro D' h' F' N' l1; (try k_lt l1); (try k_sweep))
      k_with "call ref" => (k_here; (with_reducible show wpAny _ _ (call (Value.ref 290) [_, _, _]) _ _ _); k_dflt (refine' inst_spec ?z40B ?z40F ?z40X ?z40T ?z40k ?z40r ?z40u (Fold'.nws ?z40S ?z40N) (Fold'.wf ?z40S ?z40w) ?z40x0 ?z40x1 ?z40x2 ?z40x3 ?z40x4 ?z40x5 ?z40x6 ?z40x7 ?z40x8 ?_; (case z40B => k_asm); (case z40F => k_asm); (case z40X => k_asm); (case z40T => k_asm); (case z40k => first | exact rfl | assumption); (case z40r => ktr_room); (case z40u => ktr_units); (case z40N => k_asm); (case z40S => k_extra "m_fold"); (case z40w => assumption); (case z40x0 => assumption); (case z40x1 => assumption); (case z40x2 => assumption); (case z40x3 => first | exact .inl rfl | exact .inr rfl); (case z40x4 => assumption); (case z40x5 => assumption); (case z40x6 => assumption); (case z40x7 => assumption); (case z40x8 => assumption)); intro W' tup' ar' rg' un' ur' nl' g' ns' h' tk' F' N' hw' hR'; (try dsimp only); (try k_sweep))
      k_with "binaryOp Add ref ref" => (k_here; (with_reducible show wpAny _ _ (binaryOp _ (Value.ref _) (Value.ref _)) _ _ _); k_dflt (refine' kmk_add_ints ?z41F ?z41N ?z41a ?z41b ?z41i ?z41j ?_ ?z41z; (case z41F => k_asm); (case z41N => k_asm); (case z41a => exact isList_news (by k_asm : News _ _ _ _) (by exact List.Mem.head _)); (case z41b => exact isList_news (by k_asm : News _ _ _ _) (by exact List.Mem.tail _ (mem_ms (List.Mem.tail _ (ms_delM hcl' hcf))))); (case z41i => exact IntsAre.cons _ _ (IntsAre.cons _ _ (IntsAre.cons _ _ IntsAre.nil))); (case z41j => exact hci); (case z41z => exact hz5)); intro D' ws' h' F' N' l1 hI'; (try k_lt l1); (try k_sweep))
      k_with "setItem ref int" => (k_here; k_dflt (refine' run_setM ?z42F ?z42N ?z42S ?z42w ?z42l ?z42d ?z42z ?_; (case z42F => k_asm); (case z42N => k_asm); (case z42S => k_extra "m_fold"); (case z42w => assumption); (case z42l => k_extra "m_ms2"); (case z42d => assumption); (case z42z => (simp only [List.length_map, List.length_cons, List.length_nil]; omega))); intro h' o' F' N' hw' hd'; (try dsimp only); (try k_sweep))
      obtain ⟨n0, hf, hv, hv4, hz0, hz4, hz1⟩ := inst_pre2 hI hO.i2
      iterate 59 (k_extra "m_step")
      have htup := hR'.tupm
      have hc2' := hR'.kept.ms _ hc2 (fun h => nomatch h)
      have hcl' := hR'.kept.ms _ hcl (fun h => nomatch h)
      have hbl' := hR'.kept.ms _ hbl (fun h => nomatch h)
      have hfo' := hR'.kept.ms _ hfo (fun h => nomatch h)
      have K' := Kept.c2 hL hR'.kept
      have hL' := hL.kept K' hwW hc2 hd2 hR'.nu ⟨_, _, hc2', hd2⟩
      have hI1 := hI.kept K' hwW hc2 hd2 (hR'.k0o rg hri hI.ne3)
      have hI2 := IR.of hR' hw' hc2' hd2
      have hwW' := hw'
      have hnu' := hR'.nu
      have zu' := Fz.of hL hR'.uro
      have hri' := hR'.rgi
      have hui' := hR'.uri
      have hai' := hR'.ari
      have hni' := hR'.uni
      have her' := hR'.er
      have e1 := nu_map K' hO.all
      have e2 := hR'.kept.nu _ hri
      rw [← e1] at hci
      rw [← e2] at hfd
      have hcf := ms_ne hw' hcl' hfo' (Apart.one hfd _ .list)
      have hbf := ms_ne hw' hbl' hfo' (Apart.one hfd _ .list)
      have hkf := ms_ne hw' hc2' hfo' (fun e => dict_nc hfd (by rw [← e]; exact hd2))
      have kwf := kw_fo hfo'
      have hz5 : 3 + ((ur :: rg :: ar :: loH rt p1 hm).map ((W' .nu))).length ≤ sizeLine := Nat.le_trans (Nat.add_le_add_left loH_3 3) (Nat.le_of_ble_eq_true rfl)
      all_goals k_steps
      have z := fold_end (by k_asm) (by k_extra "m_fold") (by assumption)
      refine' cutK (Kept.toF z.2 hfo' ?yK) ?_
      case yK => exact (kwf.delM (.inl (.head _))).addM.addM.addM.addM
      intro hK
      refine' cutK (NUok.to z.2 ?yn) ?_
      case yn => exact hR'.nu.delM.addM.addM.addM.addM
      intro hnz
      refine' cutK (mem_to z.2 ?yc) ?_
      case yc => exact List.Mem.tail _ (List.Mem.tail _ (List.Mem.tail _ (List.Mem.tail _ (ms_delM hc2' hkf))))
      intro hc2z
      have hA := Apart.one hfd
      have hLz := LS.keptA z.2 hL' hwW' hfo' hfd hK hnz
      have hI1z := (IR.keptA z.2 (hI1.swap hwW' hfo' hA) hwW' hfo' hA hK rfl).swap z.2 hc2z (Apart.cell hd2)
      have hI2z := (IR.keptA z.2 (hI2.swap hwW' hfo' hA) hwW' hfo' hA hK rfl).swap z.2 hc2z (Apart.cell hd2)
      have nrr : rg ≠ rg' := fun e => hR'.rgo (e ▸ rs_addrs hri)
      refine' NextThen.mk ⟨_, _, _, _, ur', _, _, fo, _, _, _, _, _, _, rfl, by assumption, rfl, rfl, rfl, rfl, rfl, z.1, z.2, hR'.kept.wd.trans ewd, hLz, ⟨oc, hc2z, hd2⟩, way_more hLz hI1z hI2z (HC.of' hLz hO.hh) zu' (fun e => hR'.uro (e ▸ rs_addrs hai)) (fun e => hR'.uro (e ▸ rs_addrs hri)) (fun e => hR'.uro (e ▸ rs_addrs hui)) nrr ⟨ws', 0, ?ycl, hI', len10 hI' loH_8⟩ ⟨[], bcn, ?ybl, .nil, Nat.zero_le _⟩ ⟨_, _, ?yfo, hd', fok2 (fun e => nrr (hLz.nu.inj _ hI1z.rgi _ hI2z.rgi e)) hI1z.num hI2z.num⟩, hO.flo⟩
      case ycl => exact List.Mem.tail _ (List.Mem.head _)
      case ybl => exact List.Mem.tail _ (List.Mem.tail _ (List.Mem.tail _ (List.Mem.tail _ (ms_delM hbl' hbf))))
      case yfo => exact List.Mem.tail _ (List.Mem.tail _ (List.Mem.tail _ (List.Mem.head _)))
  k_extra "m_old"
  rintro s2 ⟨h', tk', m, W, place, cl, bl, fo, cns, bns, F, lp, d, ds, rfl, F', m1, m2, m3, m4, m5, N', hw', ewd, hL, ⟨oc, hc2, hd2⟩, hP, hflo⟩
  rw [pin m1, pin m2, pin m3, pin m4, pin m5] at F'
  k_with "m_keep" => first | exact KeepF.nil | (refine' KeepF.cons ?z43p ?z43q; (case z43q => k_extra "m_keep"); (case z43p => k_extra "m_off"))
  k_with "call ref" => (k_here; (with_reducible show wpAny _ _ (call (Value.ref 276) [_, _]) _ _ _); k_dflt (refine' dip_keep ?z44B ?z44F ?z44X ?z44T ?z44k ?z44r ?z44u ?z44N ?z44w ?z44S ?z44x0 ?z44x1 ?z44x2 ?_; (case z44B => k_asm); (case z44F => k_asm); (case z44X => k_asm); (case z44T => k_asm); (case z44k => first | exact rfl | assumption); (case z44r => ktr_room); (case z44u => ktr_units); (case z44N => k_asm); (case z44S => k_extra "m_keep"); (case z44w => assumption); (case z44x0 => first | assumption | exact rfl); (case z44x1 => decide); (case z44x2 => decide)); intro vu tvu o' k' t' h' tk' F' N' hw' vu0 vu1; (try dsimp only); (try k_sweep))
  k_with "call ref" => (k_here; (with_reducible show wpAny _ _ (call (Value.ref 176) [_, _]) _ _ _); k_dflt (refine' add_use_any ?z45B ?z45F ?z45X ?z45T ?z45k ?z45r ?z45u (Fold'.nws ?z45S ?z45N) (Fold'.wf ?z45S ?z45w) ?z45x0 ?z45x1 ?z45x2 ?z45x3 ?_; (case z45B => k_asm); (case z45F => k_asm); (case z45X => k_asm); (case z45T => k_asm); (case z45k => first | exact rfl | assumption); (case z45r => ktr_room); (case z45u => ktr_units); (case z45N => k_asm); (case z45S => k_extra "m_fold"); (case z45w => assumption); (case z45x0 => k_extra "m_rs"); (case z45x1 => k_extra "m_rs"); (case z45x2 => assumption); (case z45x3 => assumption)); intro h' tk' F' N' hw'; (try dsimp only); (try k_sweep))
  k_with "call ref" => (k_here; (with_reducible show wpAny _ _ (call (Value.ref 190) [_, _]) _ _ _); k_dflt (refine' add_use_type_spec ?z46B ?z46F ?z46X ?z46T ?z46k ?z46r ?z46u (Fold'.nws ?z46S ?z46N) (Fold'.wf ?z46S ?z46w) ?z46x0 ?z46x1 ?_; (case z46B => k_asm); (case z46F => k_asm); (case z46X => k_asm); (case z46T => k_asm); (case z46k => first | exact rfl | assumption); (case z46r => ktr_room); (case z46u => ktr_units); (case z46N => k_asm); (case z46S => k_extra "m_fold"); (case z46w => assumption); (case z46x0 => k_extra "m_rs"); (case z46x1 => assumption)); intro h' tk' F' N' hw'; (try dsimp only); (try k_sweep))
  k_with "newTuple" => (k_here; k_dflt (refine' kup_newTuple ?z47F ?z47N ?_ ?z47z; (case z47F => k_asm); (case z47N => k_asm); (case z47z => exact Nat.le_of_ble_eq_true rfl)); intro D' h' F' N' l1; (try k_lt l1); (try k_sweep))
  k_with "compareOp In int ref" => (k_here; k_dflt (refine in_tuple_ints (News.isTup (by k_asm : News _ _ _ _) (by exact List.Mem.head _)) (IntsAre.cons _ _ (IntsAre.cons _ _ IntsAre.nil)) ?_))
  k_with "subscriptTail Name BinOp ref int" => (k_here; k_dflt (refine' kda_item (knd := PySem.intKind _ _) ?z49n ?z49p ?z49d (intKind_is _ _ _ _) ?z49v ?_; (case z49n => k_asm); (case z49p => k_mem); (case z49d => exact hpd); (case z49v => first | exact hv1 | exact hv2)))
  k_with "subscriptTail Subscript Name BinOp Constant ref int" => (k_here; k_dflt (refine' itemTupM ?z50N ?z50p ?z50lo ?z50hi ?z50j ?z50x ?_; (case z50N => k_asm); (case z50p => first | exact List.Mem.tail _ (List.Mem.tail _ (mem_ms hq1)) | exact List.Mem.tail _ (List.Mem.tail _ (mem_ms hq2))); (case z50lo => decide); (case z50hi => decide); (case z50j => rfl); (case z50x => rfl)))
  have hwW := hw'
  obtain ⟨po, hpo, hpd⟩ := hL.parts
  have P1 := hL.rt.pks p1 (.head _)
  have P2 := hL.rt.pks p2 (.tail _ (.head _))
  obtain ⟨u1, hq1⟩ := P1.qm
  obtain ⟨u2, hq2⟩ := P2.qm
  have he1 := P1.e
  have he2 := P2.e
  have hv1 := parts_71 (p2 := p2) (f := fun p => .ref p.q) hk1
  have hv2 := parts_72 (f := fun p => .ref p.q) hk1 hk2
  have hpl := hP.sc.mem
  have kw : Kept [_] W W := kw_start2 hL
  iterate 14 (k_extra "m_step")
  k_with "m_keep" => first | exact KeepF.nil | (refine' KeepF.cons ?z1p ?z1q; (case z1q => k_extra "m_keep"); (case z1p => k_extra "m_off"))
  k_with "call ref" => (k_here; (with_reducible show wpAny _ _ (call (Value.ref 276) [_, _]) _ _ _); k_dflt (refine' dip_keep ?z2B ?z2F ?z2X ?z2T ?z2k ?z2r ?z2u ?z2N ?z2w ?z2S ?z2x0 ?z2x1 ?z2x2 ?_; (case z2B => k_asm); (case z2F => k_asm); (case z2X => k_asm); (case z2T => k_asm); (case z2k => first | exact rfl | assumption); (case z2r => ktr_room); (case z2u => ktr_units); (case z2N => k_asm); (case z2S => k_extra "m_keep"); (case z2w => assumption); (case z2x0 => first | assumption | exact rfl); (case z2x1 => decide); (case z2x2 => decide)); intro vt tvt o' k' t' h' tk' F' N' hw' vt0 vt1; (try dsimp only); (try k_sweep))
  iterate 23 (k_extra "m_step")
  have hLq := fun q => LS.setW2 (q := q) hw' hL
  have hPq := fun q => PlOk.setW2 (q := q) hw' hP
  have hl1 := hP.l2p (.head _)
  have hl2 := hP.l2p (.tail _ (.head _))
  have hn1' := hL.enp (.head _)
  have hn2' := hL.enp (.tail _ (.head _))
  refine cut_at F' (M7 wd rt pd p1 p2 place cl bl fo cns bns F lp d ds vu 0 tvu tvt vt) ?_ ?_
  focus
    rcases split4 vu0 vu1 with e | e | e | e <;> subst e
    all_goals k_steps
    focus
      have z := fold_end (by k_asm) (by k_extra "m_fold") (by assumption)
      exact NextThen.mk ⟨_, _, _, _, rfl, by assumption, rfl, rfl, rfl, rfl, rfl, rfl, rfl, z.1, z.2, ewd, (hLq _).addM, ⟨oc, .tail _ (.tail _ hc2), hd2⟩, ((hPq _).same same_addM rfl rfl rfl).p7 (by decide) (by decide)⟩
    focus
      have z := fold_end (by k_asm) (by k_extra "m_fold") (by assumption)
      exact NextThen.mk ⟨_, _, _, _, rfl, by assumption, rfl, rfl, rfl, rfl, rfl, rfl, rfl, z.1, z.2, ewd, (hLq _).addM.app2 hP.npl, ⟨oc, .tail _ (.tail _ hc2), hd2⟩, ((hPq _).same same_addM rfl rfl rfl).use (hLq _).addM (.head _) rfl⟩
    focus
      have z := fold_end (by k_asm) (by k_extra "m_fold") (by assumption)
      exact NextThen.mk ⟨_, _, _, _, rfl, by assumption, rfl, rfl, rfl, rfl, rfl, rfl, rfl, z.1, z.2, ewd, (hLq _).addM.app2 hP.npl, ⟨oc, .tail _ (.tail _ hc2), hd2⟩, ((hPq _).same same_addM rfl rfl rfl).use (hLq _).addM (.tail _ (.head _)) rfl⟩
    focus
      have z := fold_end (by k_asm) (by k_extra "m_fold") (by assumption)
      exact NextThen.mk ⟨_, _, _, _, rfl, by assumption, rfl, rfl, rfl, rfl, rfl, rfl, rfl, z.1, z.2, ewd, (hLq _).addM, ⟨oc, .tail _ (.tail _ hc2), hd2⟩, ((hPq _).same same_addM rfl rfl rfl).p7 (by decide) (by decide)⟩
  k_extra "m_old"
  rintro s2 ⟨h', tk', m, W, rfl, F', m1, m2, m3, m4, m5, m6, m7, N', hw', ewd, hL, ⟨oc, hc2, hd2⟩, hP7⟩
  rw [pin m1, pin m2, pin m3, pin m4, pin m5, pin m6, pin m7] at F'
  have hwW := hw'
  have hpl := hP7.sc.mem
  have hl3 := hP7.l3 rfl
  iterate 1 (k_extra "m_step")
  refine cut_at F' (M7 wd rt pd p1 p2 place cl bl fo cns bns F lp d ds vu vt tvu tvt vt) ?_ ?_
  focus
    rcases split4 vt0 vt1 with e | e | e | e <;> subst e
    all_goals k_steps
    focus
      have z := fold_end (by k_asm) (by k_extra "m_fold") (by assumption)
      exact NextThen.mk ⟨_, _, _, _, rfl, by assumption, rfl, rfl, rfl, rfl, rfl, rfl, rfl, z.1, z.2, ewd, hL.addM, ⟨oc, .tail _ hc2, hd2⟩, (hP7.same same_addM rfl rfl).off (by decide) (by decide)⟩
    focus
      have z := fold_end (by k_asm) (by k_extra "m_fold") (by assumption)
      exact NextThen.mk ⟨_, _, _, _, rfl, by assumption, rfl, rfl, rfl, rfl, rfl, rfl, rfl, z.1, z.2, ewd, hL.addM.app3 hP.npl, ⟨oc, .tail _ hc2, hd2⟩, (hP7.same same_addM rfl rfl).told rfl⟩
    focus
      have z := fold_end (by k_asm) (by k_extra "m_fold") (by assumption)
      exact NextThen.mk ⟨_, _, _, _, rfl, by assumption, rfl, rfl, rfl, rfl, rfl, rfl, rfl, z.1, z.2, ewd, hL.addM.app3 hP.npl, ⟨oc, .tail _ hc2, hd2⟩, (hP7.same same_addM rfl rfl).told rfl⟩
    focus
      have z := fold_end (by k_asm) (by k_extra "m_fold") (by assumption)
      exact NextThen.mk ⟨_, _, _, _, rfl, by assumption, rfl, rfl, rfl, rfl, rfl, rfl, rfl, z.1, z.2, ewd, hL.addM, ⟨oc, .tail _ hc2, hd2⟩, (hP7.same same_addM rfl rfl).off (by decide) (by decide)⟩
  k_extra "m_old"
  rintro s2 ⟨h', tk', m, W, rfl, F', m1, m2, m3, m4, m5, m6, m7, N', hw', ewd, hL, ⟨oc, hc2, hd2⟩, hP7⟩
  rw [pin m1, pin m2, pin m3, pin m4, pin m5, pin m6, pin m7] at F'
  k_with "newTuple" => (k_here; k_dflt (refine' kup_newTuple ?z51F ?z51N ?_ ?z51z; (case z51F => k_asm); (case z51N => k_asm); (case z51z => exact Nat.le_of_ble_eq_true rfl)); intro D' h' F' N' l1; (try k_lt l1); (try k_sweep))
  k_with "pyIter ref" => (k_here; (with_reducible show wpAny _ _ (pyIter (Value.ref _)) (fun it s₂ => TurnsAt _ _ _ _ _ _ _ _ _ it s₂) _ _); k_dflt (refine' iter_T (LJof hL place cl bl fo cns bns F lp d ds vu vt tvu tvt) ?z52qhh ?z52qF ?z52qN ?z52qS ?z52qw ?z52qhl ?z52qhc ?z52qhd ?z52qhj ?z52qturn ?z52qdone; (case z52qhh => exact rfl); (case z52qF => k_asm); (case z52qN => k_asm); (case z52qS => k_extra "m_fold"); (case z52qw => assumption); (case z52qhl => exact List.Mem.head _); (case z52qhc => exact rfl); (case z52qhd => exact rfl); (case z52qhj => exact ⟨rfl, rfl, rfl, rfl, rfl, rfl, hL.addM, ⟨oc, .tail _ hc2, hd2⟩, hP7.same same_addM rfl rfl⟩)))
  have hwW := hw'
  iterate 10 (k_extra "m_step")
  focus
    k_with "storeName" => (k_here; k_dflt (refine' run_cellS ?z53F ?z53N ?z53S ?z53w ?z53c ?z53l ?z53d ?_ ?z53a ?z53b; (case z53a => exact rfl); (case z53b => exact rfl); (case z53F => k_asm); (case z53N => k_asm); (case z53S => k_extra "m_fold"); (case z53w => assumption); (case z53c => exact rfl); (case z53l => k_extra "m_ms2"); (case z53d => assumption)); intro h' o' F' N' hw' d' hst'; (try dsimp only); (try k_sweep))
    k_with "subscriptTail Name Name ref int" => (k_here; k_dflt (refine' kda_item (knd := PySem.intKind _ _) ?z54n ?z54p ?z54d (intKind_is _ _ _ _) ?z54v ?_; (case z54n => k_asm); (case z54p => exact mem_ms hpo'); (case z54d => exact hpd); (case z54v => exact hv1)))
    intro i v m₁ W₁ h₁ tk₁ I io hv hJ hic hwI hlW hIo F₁ N₁
    obtain ⟨p, hp, t0, rfl⟩ := turn_v hk1 hk2 hv
    have hL1 := hJ.ls
    have m1 := hJ.m2
    have m2 := hJ.m3
    have m3 := hJ.m4
    have m4 := hJ.m5
    have m5 := hJ.m6
    have m6 := hJ.m7
    rw [pin m1, pin m2, pin m3, pin m4, pin m5, pin m6] at F₁
    have hp7 := hJ.p7
    obtain ⟨oc1, hc2, hd2⟩ := hJ.c2
    clear hJ
    have P1 := hL1.rt.pks p hp
    obtain ⟨u1, hq1⟩ := P1.qm
    obtain ⟨u2, hq2⟩ := P1.tpm
    have he1 := P1.e
    have her1 := P1.er
    have hr1 := P1.r
    obtain ⟨v1, o1, hc1, hd1⟩ := hL1.cell1
    obtain ⟨po, hpo, hpd⟩ := hL1.parts
    have hv1 := parts_of (f := fun p => .ref p.q) hk1 hk2 hp
    have hpl := hp7.sc.mem
    obtain ⟨cvs, ccn, hcl, hci, hcz⟩ := hp7.ocl
    obtain ⟨bvs, bcn, hbl, hbi, hbz⟩ := hp7.obl
    obtain ⟨foo, kvs, hfo, hfd, hfk⟩ := hp7.ofo
    iterate 2 (k_extra "m_step")
    have hpo' := hst' _ (.tail _ hpo) (dict_nc hpd)
    have hq1' := hst' _ (.tail _ hq1) (fun e => by cases e)
    have hq2' := hst' _ (.tail _ hq2) (fun e => by cases e)
    have hcl' := hst' _ (.tail _ hcl) (fun e => by cases e)
    have hbl' := hst' _ (.tail _ hbl) (fun e => by cases e)
    have hfo' := hst' _ (.tail _ hfo) (dict_nc hfd)
    have hc2' := mem_to hw' (List.Mem.tail _ (ms_delM (List.Mem.tail _ hc2) hL1.cne.symm))
    have hc1' := mem_to hw' (List.Mem.head _)
    have hfk' := fok_to hw' (fun one => (hfk one).same fun p hp hn => hst' p (.tail _ hp) (hn _))
    iterate 15 (k_extra "m_step")
    have hwc := hw'
    rename Fr _ _ _ _ => F₂
    refine cut_at F₂ (MDue hw' pd place cl bl vu vt tvu tvt p.part (dueA W₁ cns p vu vt p.key)) ?_ ?_
    focus
      all_goals k_steps
      focus exact NextThen.mk ⟨_, _, _, rfl, by assumption, rfl, rfl, rfl, rfl, rfl, rfl, bool_eq rfl (dueA_1 (by assumption)), by assumption⟩
      focus exact NextThen.mk ⟨_, _, _, rfl, by assumption, rfl, rfl, rfl, rfl, rfl, rfl, bool_eq rfl (dueA_2 (by assumption)), by assumption⟩
      focus exact NextThen.mk ⟨_, _, _, rfl, by assumption, rfl, rfl, rfl, rfl, rfl, rfl, bool_eq rfl (dueA_3 (by assumption) (by assumption) (by assumption)), by assumption⟩
      focus exact NextThen.mk ⟨_, _, _, rfl, by assumption, rfl, rfl, rfl, rfl, rfl, rfl, bool_eq rfl (dueA_4 (by assumption) (by assumption) (by assumption)), by assumption⟩
    rintro s2 ⟨h', tk', m, rfl, F', m1, m2, m3, m4, m5, m6, m7, N'⟩
    rw [pin m1, pin m2, pin m3, pin m4, pin m5, pin m6, pin m7] at F'
    k_with "eval ListComp" => (k_here; k_dflt (refine LCt.ListComp_T (F₀ := by k_asm) (by with_unfolding_all rfl) (by decide) (by rfl) (by decide) (by rfl) ?_))
    k_with "CompSrcT" => (k_here; k_dflt (refine LCt.CompSrcT.ledger (by rfl) (by k_asm) (by k_asm) (by exact mem_ms hcl') (by rw [List.size_toArray, sizeLine_eq]; omega) ?_); intro g'; refine comp_indT (CJ (fun one => (F one).any (· == p.key)) cvs cns) (CJ.start hci) ?_ ?_; (focus (intro i ys v₁ I' oI C oC D m₂ h₁ tk₁ E' hJ' hP hC hx F₁ N₁ off ne; obtain ⟨one, t, rfl, hj1, hj2⟩ := hJ'.turn hP; have hfk1 := hfk' one)); rotate_left; (intro ys1 hJ1; have hD1 := CJ.done hJ1); rotate_right)
    k_with "call builtin:dict.get" => (k_here; k_dflt (rcases hfk1 with ⟨hvo, hF⟩ | ⟨a', vs', n', hvo, ham, hai, haz⟩))
    k_with "compareOp NotEq ref ref" => (k_here; k_dflt (refine ne_nil (by k_asm) (by exact List.Mem.tail _ (List.Mem.head _)) (by exact List.Mem.head _) (by ke_room) ?_))
    iterate 1 (k_extra "m_step")
    rename Fr _ _ _ _ => F₂
    have hnil : IntsAre ([] : List Value) [] := .nil
    refine cut_at F₂ (MDue hwc pd place cl bl vu vt tvu tvt p.part (dueA W₁ cns p vu vt p.key || dueB bns cns F p.key)) ?_ ?_
    focus
      all_goals k_steps
      focus exact NextThen.mk ⟨_, _, _, rfl, by assumption, rfl, rfl, rfl, rfl, rfl, rfl, bool_eq rfl (due_1 (by assumption)), by assumption⟩
      focus exact NextThen.mk ⟨_, _, _, rfl, by assumption, rfl, rfl, rfl, rfl, rfl, rfl, bool_eq rfl (due_2 (by assumption) (by assumption)), by assumption⟩
      focus exact LCg.CompEnd.intro (by assumption) (news_sub (by assumption) (fun _ h => .tail _ h)) _ (fun _ h => h) (by assumption) (Or.inr ⟨_, mem_ms hcl', rfl, _, rfl⟩) ⟨rfl, hj2 (any_none hF)⟩
      focus exact LCg.CompEnd.intro (by assumption) (news_sub (by assumption) (fun _ h => .tail _ h)) _ (fun _ h => h) (by assumption) (Or.inr ⟨_, mem_ms hcl', rfl, _, rfl⟩) ⟨rfl, hj1 (by assumption) _⟩
      focus exact LCg.CompEnd.intro (by assumption) (news_sub (by assumption) (fun _ h => .tail _ h)) _ (fun _ h => h) (by assumption) (Or.inr ⟨_, mem_ms hcl', rfl, _, rfl⟩) ⟨rfl, hj2 (by assumption)⟩
      focus exact NextThen.mk ⟨_, _, _, rfl, by assumption, rfl, rfl, rfl, rfl, rfl, rfl, bool_eq rfl (due_3 (by assumption) (by assumption) hD1), news_sub (by assumption) (fun _ h => .tail _ (.tail _ h))⟩
    rintro s2 ⟨h', tk', m, rfl, F', m1, m2, m3, m4, m5, m6, m7, N'⟩
    rw [pin m1, pin m2, pin m3, pin m4, pin m5, pin m6, pin m7] at F'
    k_with "call ref" => (k_here; (with_reducible show wpAny _ _ (call (Value.ref 212) [_, _]) _ _ _); k_dflt (refine' sees_spec ?z59B ?z59F ?z59X ?z59T ?z59k ?z59r ?z59u ?z59N ?z59S ?z59w ?z59x0 ?z59x1 ?z59x2 ?z59x3 ?_; (case z59B => k_asm); (case z59F => k_asm); (case z59X => k_asm); (case z59T => k_asm); (case z59k => first | exact rfl | assumption); (case z59r => ktr_room); (case z59u => ktr_units); (case z59N => k_asm); (case z59S => exact SubL.refl); (case z59w => exact hwc); (case z59x0 => exact hp7c.sc); (case z59x1 => exact hLc.home hk1 hk2 hp hp7c.sc.mem); (case z59x2 => exact hq2'); (case z59x3 => exact hr1)); intro h' tk' F' N'; (try dsimp only); (rw [hlaw]); (try k_sweep))
    have hS1 := same_to hwc (same_addM.trans (same_cell hwI (.tail _ hc1) hd1))
    have hp7c := P7.to hwc hp7 hS1 rfl rfl
    have hLc := LS.toc (W := W₁) hwc (hL1.addM.cell1s hwI (.tail _ hc1) hd1 d')
    have hlaw := law_plain hLc hp7c hk1 hk2 hp
    all_goals k_steps
    focus exact (bne_irr (by assumption) rfl).elim
    have hI1 : I ≠ _ := fun e => hIo (e ▸ addrs_ms2 hc1)
    have hI2 : _ ≠ I := fun e => hIo (e ▸ addrs_ms2 hc2)
    have hI3 : _ ≠ I := fun e => hIo (e ▸ addrs_ms2 hpo)
    have hIm := mem_to hwc (List.Mem.tail _ (ms_delM (List.Mem.head _) hI1))
    exact FStepT.intro (by assumption) (by assumption) Fold'.base hwc hIm (hst' _ (.tail _ hlW) (fun e => by cases e)) ⟨rfl, rfl, rfl, rfl, rfl, rfl, hLc.del hwc hIm hic hI1.symm hI2 hI3, ⟨oc1, ms_delM hc2' hI2, hd2⟩, hp7.same (same_del hIo hS1) rfl rfl⟩
  k_with "call ref" => (k_here; (with_reducible show wpAny _ _ (call (Value.ref 212) [_, _]) _ _ _); k_dflt (refine' sees_none ?z60B ?z60F ?z60X ?z60T ?z60k ?z60r ?z60u ?z60N ?z60S ?z60w ?z60x0 ?z60x1 ?_; (case z60B => k_asm); (case z60F => k_asm); (case z60X => k_asm); (case z60T => k_asm); (case z60k => first | exact rfl | assumption); (case z60r => ktr_room); (case z60u => ktr_units); (case z60N => k_asm); (case z60S => exact SubL.refl); (case z60w => exact hw₁); (case z60x0 => exact hpl); (case z60x1 => exact h99)); intro h' tk' F' N'; (try dsimp only); (try k_sweep))
  intro m₁ W₁ h₁ tk₁ hJ hw₁ hl₁ F₁ N₁
  have m1 := hJ.m3
  rw [pin m1] at F₁
  have hp7 := hJ.p7
  have hL1 := hJ.ls
  clear hJ
  have hpl := hp7.sc.mem
  have h99 := hL1.home99 hk1 hk2 hpl
  all_goals k_steps)
end Mine.Tactic
theorem PySem.Challenge.cw_rg0008_01_holds : PySem.Challenge.rw_rg0008_01.Holds := by
  exact Mine.Tactic.T
