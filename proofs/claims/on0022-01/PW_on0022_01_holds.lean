import PyProof.Rows.All
import Wide.All
import OpenK.AllK
import Wide.FinOn
import Lean
import PySem.Challenge.RW_on0022_01
open PySem PySem.W PySem.Calls PyProof.Rows
set_option Elab.async false
set_option compiler.extract_closed false
set_option genInjectivity false
set_option genSizeOf false
set_option maxRecDepth 100000
set_option maxHeartbeats 8000000
namespace Mine.Internal
section
open PySem PySem.W PyProof.Rows
theorem left_run {p q : Program} {loose : List Str} {Xt : Shared → Bool} {α : Type} {Yf : Shared → α} {Ya : World → α} {N : Nat} {g0 : Bool} {H₀ : Params → Heap} {gs₀ : Array GenState} {d₀ : Drawn} {k₀ : Nat} {m₀ : Nat} {ann : Option Value} {M : Nat}
    (open_ : ∀ w : World, (fencedOpening treeTable p w N).map (fun s => (s.heap, s.gens, s.drawn, s.toks)) = some (H₀ w.params, gs₀, d₀, k₀))
    (size : ∀ w : World, ((H₀ w.params).isNs mainGlobals && gs₀.size == 0, (H₀ w.params).objs.size, (H₀ w.params).nsMap mainGlobals "__annotations__") = (true, m₀, ann))
    (run : ∀ (w : World) (os : OsState), (topRun treeTable p w m₀ ann M ⟨H₀ w.params, gs₀, d₀, k₀, os⟩ (topStub p)).map (fun s => ((staticsOk (importedModules p.main.body) (H₀ w.params) s.heap && namesBound p s.heap && gensDone s && laidKept (H₀ w.params) s.heap),
        openSeen q loose (importedModules p.main.body) Xt g0 s, Yf s)) = some (true, openGood q loose, Ya w)) (le : Nat.ble M N = true) : LeftO p q loose Xt Yf Ya N g0 := fun w => by
  obtain ⟨⟨h, gs, d, k, os⟩, e, e'⟩ := Option.map_eq_some_iff.mp (open_ w)
  obtain ⟨rfl, rfl, rfl, rfl⟩ : h = H₀ w.params ∧ gs = gs₀ ∧ d = d₀ ∧ k = k₀ := by simpa using e'
  obtain ⟨z1, z2, z3⟩ : _ ∧ _ ∧ _ := by simpa only [Prod.mk.injEq] using size w
  obtain ⟨s₁, r, l⟩ := Option.map_eq_some_iff.mp (run w os)
  obtain ⟨l1, l2, l3⟩ : _ ∧ _ ∧ _ := by simpa only [Prod.mk.injEq] using l
  replace r := topRun_mono (N - M) _ _ _ _ r
  rw [show M + (N - M) = N by have := Nat.le_of_ble_eq_true le; omega] at r
  have t : topFrom treeTable p w N ⟨H₀ w.params, gs, d, k, os⟩ = some s₁ := by
    unfold topFrom
    dsimp only
    rw [z1, z2, z3, r]
    show (match staticsOk (importedModules p.main.body) (H₀ w.params) s₁.heap && namesBound p s₁.heap && gensDone s₁ && laidKept (H₀ w.params) s₁.heap with | true => _ | false => _) = _
    rw [l1]
  unfold openEnds
  rw [e]
  show (topFrom treeTable p w N _).map _ = _
  rw [t]
  exact congrArg some (Prod.ext l2 l3)
/-- the def at a place of the text: its parameters, body and scope -/
noncomputable def fnAt (p : Program) (i j : Nat) : Option (Arguments × List Stmt × Scope) := match p.main.body[i]? with
  | some (.FunctionDef _ a b _ _ _ s _ _ _) => some (a, b, s)
  | some (.ClassDef _ _ _ l _ _ _ _ _ _ _) => (match l[j]? with
    | some (.FunctionDef _ a b _ _ _ s _ _ _) => some (a, b, s)
    | _ => none)
  | _ => none
set_option maxRecDepth 1000000
/-- the objects behind the top's run (printed by wip/PrintK.lean) -/
noncomputable def hd.heap_39 : Params → Frag := (fun {a0 : Arguments} {b0 : List Stmt} {s0 : Scope} (_ : fnAt PySem.Challenge.rw_on0022_01.row.prog 4 0 = some (a0, b0, s0)) {a1 : Arguments} {b1 : List Stmt} {s1 : Scope} (_ : fnAt PySem.Challenge.rw_on0022_01.row.prog 5 0 = some (a1, b1, s1)) {a2 : Arguments} {b2 : List Stmt} {s2 : Scope} (_ : fnAt PySem.Challenge.rw_on0022_01.row.prog 5 1 = some (a2, b2, s2)) {a3 : Arguments} {b3 : List Stmt} {s3 : Scope} (_ : fnAt PySem.Challenge.rw_on0022_01.row.prog 5 2 = some (a3, b3, s3)) {a4 : Arguments} {b4 : List Stmt} {s4 : Scope} (_ : fnAt PySem.Challenge.rw_on0022_01.row.prog 5 3 = some (a4, b4, s4)) {a5 : Arguments} {b5 : List Stmt} {s5 : Scope} (_ : fnAt PySem.Challenge.rw_on0022_01.row.prog 5 4 = some (a5, b5, s5)) {a6 : Arguments} {b6 : List Stmt} {s6 : Scope} (_ : fnAt PySem.Challenge.rw_on0022_01.row.prog 5 5 = some (a6, b6, s6)) {a7 : Arguments} {b7 : List Stmt} {s7 : Scope} (_ : fnAt PySem.Challenge.rw_on0022_01.row.prog 5 6 = some (a7, b7, s7)) {a8 : Arguments} {b8 : List Stmt} {s8 : Scope} (_ : fnAt PySem.Challenge.rw_on0022_01.row.prog 5 7 = some (a8, b8, s8)) {a9 : Arguments} {b9 : List Stmt} {s9 : Scope} (_ : fnAt PySem.Challenge.rw_on0022_01.row.prog 5 8 = some (a9, b9, s9)) {a10 : Arguments} {b10 : List Stmt} {s10 : Scope} (_ : fnAt PySem.Challenge.rw_on0022_01.row.prog 5 9 = some (a10, b10, s10)) {a11 : Arguments} {b11 : List Stmt} {s11 : Scope} (_ : fnAt PySem.Challenge.rw_on0022_01.row.prog 5 10 = some (a11, b11, s11)) {a12 : Arguments} {b12 : List Stmt} {s12 : Scope} (_ : fnAt PySem.Challenge.rw_on0022_01.row.prog 5 11 = some (a12, b12, s12)) {a13 : Arguments} {b13 : List Stmt} {s13 : Scope} (_ : fnAt PySem.Challenge.rw_on0022_01.row.prog 5 12 = some (a13, b13, s13)) {a14 : Arguments} {b14 : List Stmt} {s14 : Scope} (_ : fnAt PySem.Challenge.rw_on0022_01.row.prog 5 13 = some (a14, b14, s14)) {a15 : Arguments} {b15 : List Stmt} {s15 : Scope} (_ : fnAt PySem.Challenge.rw_on0022_01.row.prog 5 14 = some (a15, b15, s15)) {a16 : Arguments} {b16 : List Stmt} {s16 : Scope} (_ : fnAt PySem.Challenge.rw_on0022_01.row.prog 9 0 = some (a16, b16, s16)) {a17 : Arguments} {b17 : List Stmt} {s17 : Scope} (_ : fnAt PySem.Challenge.rw_on0022_01.row.prog 10 0 = some (a17, b17, s17)) {a18 : Arguments} {b18 : List Stmt} {s18 : Scope} (_ : fnAt PySem.Challenge.rw_on0022_01.row.prog 11 0 = some (a18, b18, s18)) {a19 : Arguments} {b19 : List Stmt} {s19 : Scope} (_ : fnAt PySem.Challenge.rw_on0022_01.row.prog 11 1 = some (a19, b19, s19)) {a20 : Arguments} {b20 : List Stmt} {s20 : Scope} (_ : fnAt PySem.Challenge.rw_on0022_01.row.prog 11 2 = some (a20, b20, s20)) {a21 : Arguments} {b21 : List Stmt} {s21 : Scope} (_ : fnAt PySem.Challenge.rw_on0022_01.row.prog 11 3 = some (a21, b21, s21)) {a22 : Arguments} {b22 : List Stmt} {s22 : Scope} (_ : fnAt PySem.Challenge.rw_on0022_01.row.prog 11 4 = some (a22, b22, s22)) {a23 : Arguments} {b23 : List Stmt} {s23 : Scope} (_ : fnAt PySem.Challenge.rw_on0022_01.row.prog 11 5 = some (a23, b23, s23)) {a24 : Arguments} {b24 : List Stmt} {s24 : Scope} (_ : fnAt PySem.Challenge.rw_on0022_01.row.prog 11 6 = some (a24, b24, s24)) {a25 : Arguments} {b25 : List Stmt} {s25 : Scope} (_ : fnAt PySem.Challenge.rw_on0022_01.row.prog 11 7 = some (a25, b25, s25)) {a26 : Arguments} {b26 : List Stmt} {s26 : Scope} (_ : fnAt PySem.Challenge.rw_on0022_01.row.prog 11 8 = some (a26, b26, s26)) {a27 : Arguments} {b27 : List Stmt} {s27 : Scope} (_ : fnAt PySem.Challenge.rw_on0022_01.row.prog 13 0 = some (a27, b27, s27)) {a28 : Arguments} {b28 : List Stmt} {s28 : Scope} (_ : fnAt PySem.Challenge.rw_on0022_01.row.prog 14 0 = some (a28, b28, s28)) {a29 : Arguments} {b29 : List Stmt} {s29 : Scope} (_ : fnAt PySem.Challenge.rw_on0022_01.row.prog 15 0 = some (a29, b29, s29)) {a30 : Arguments} {b30 : List Stmt} {s30 : Scope} (_ : fnAt PySem.Challenge.rw_on0022_01.row.prog 16 0 = some (a30, b30, s30)) {a31 : Arguments} {b31 : List Stmt} {s31 : Scope} (_ : fnAt PySem.Challenge.rw_on0022_01.row.prog 17 0 = some (a31, b31, s31)) {a32 : Arguments} {b32 : List Stmt} {s32 : Scope} (_ : fnAt PySem.Challenge.rw_on0022_01.row.prog 19 0 = some (a32, b32, s32)) {a33 : Arguments} {b33 : List Stmt} {s33 : Scope} (_ : fnAt PySem.Challenge.rw_on0022_01.row.prog 20 0 = some (a33, b33, s33)) {a34 : Arguments} {b34 : List Stmt} {s34 : Scope} (_ : fnAt PySem.Challenge.rw_on0022_01.row.prog 21 0 = some (a34, b34, s34)) {a35 : Arguments} {b35 : List Stmt} {s35 : Scope} (_ : fnAt PySem.Challenge.rw_on0022_01.row.prog 22 0 = some (a35, b35, s35)) {a36 : Arguments} {b36 : List Stmt} {s36 : Scope} (_ : fnAt PySem.Challenge.rw_on0022_01.row.prog 23 0 = some (a36, b36, s36)) {a37 : Arguments} {b37 : List Stmt} {s37 : Scope} (_ : fnAt PySem.Challenge.rw_on0022_01.row.prog 24 0 = some (a37, b37, s37)) {a38 : Arguments} {b38 : List Stmt} {s38 : Scope} (_ : fnAt PySem.Challenge.rw_on0022_01.row.prog 25 0 = some (a38, b38, s38)) {a39 : Arguments} {b39 : List Stmt} {s39 : Scope} (_ : fnAt PySem.Challenge.rw_on0022_01.row.prog 26 0 = some (a39, b39, s39)) {a40 : Arguments} {b40 : List Stmt} {s40 : Scope} (_ : fnAt PySem.Challenge.rw_on0022_01.row.prog 27 0 = some (a40, b40, s40)) {a41 : Arguments} {b41 : List Stmt} {s41 : Scope} (_ : fnAt PySem.Challenge.rw_on0022_01.row.prog 28 0 = some (a41, b41, s41)) {a42 : Arguments} {b42 : List Stmt} {s42 : Scope} (_ : fnAt PySem.Challenge.rw_on0022_01.row.prog 29 0 = some (a42, b42, s42)) {a43 : Arguments} {b43 : List Stmt} {s43 : Scope} (_ : fnAt PySem.Challenge.rw_on0022_01.row.prog 30 0 = some (a43, b43, s43)) {a44 : Arguments} {b44 : List Stmt} {s44 : Scope} (_ : fnAt PySem.Challenge.rw_on0022_01.row.prog 31 0 = some (a44, b44, s44)) {a45 : Arguments} {b45 : List Stmt} {s45 : Scope} (_ : fnAt PySem.Challenge.rw_on0022_01.row.prog 32 0 = some (a45, b45, s45)) => fun P => (((nat_lit 2),⟨.none,none,(.dict #[] 0),#[]⟩)::((nat_lit 3),⟨(.type "dict"),none,(.dict (List.toArray (⟨(@PySem.PyData.keyHash P "__name__"),(.str "__name__" 165),(.str "law_on0022_01" 551)⟩::⟨(@PySem.PyData.keyHash P "__doc__"),(.str "__doc__" 166),.none⟩::⟨(@PySem.PyData.keyHash P "__package__"),(.str "__package__" 167),.none⟩::⟨(@PySem.PyData.keyHash P "__loader__"),(.str "__loader__" 168),(.builtin "__main__.__loader__#opaque")⟩::⟨(@PySem.PyData.keyHash P "__spec__"),(.str "__spec__" 169),.none⟩::⟨(@PySem.PyData.keyHash P "__annotations__"),(.str "__annotations__" 170),(.ref 6)⟩::⟨(@PySem.PyData.keyHash P "__builtins__"),(.str "__builtins__" 171),(.ref 4)⟩::⟨(@PySem.PyData.keyHash P "__file__"),(.str "__file__" 173),(.str "/claim/cut.py" 172)⟩::⟨(@PySem.PyData.keyHash P "__cached__"),(.str "__cached__" 174),.none⟩::⟨(@PySem.PyData.keyHash P "CLOSED_SEND"),(.str "CLOSED_SEND" 190),(.str "send on closed channel" 189)⟩::⟨(@PySem.PyData.keyHash P "CLOSED_TWICE"),(.str "CLOSED_TWICE" 192),(.str "close of closed channel" 191)⟩::⟨(@PySem.PyData.keyHash P "CLOSED_NIL"),(.str "CLOSED_NIL" 194),(.str "close of nil channel" 193)⟩::⟨(@PySem.PyData.keyHash P "PlainChannel"),(.str "PlainChannel" 225),(.ref 31)⟩::⟨(@PySem.PyData.keyHash P "PlainChannels"),(.str "PlainChannels" 387),(.ref 148)⟩::⟨(@PySem.PyData.keyHash P "SEND_ON_CLOSED"),(.str "SEND_ON_CLOSED" 391),(.str "send on closed channel" 390)⟩::⟨(@PySem.PyData.keyHash P "CLOSE_OF_CLOSED"),(.str "CLOSE_OF_CLOSED" 393),(.str "close of closed channel" 392)⟩::⟨(@PySem.PyData.keyHash P "woken_row"),(.str "woken_row" 401),(.ref 159)⟩::⟨(@PySem.PyData.keyHash P "once_a_select"),(.str "once_a_select" 412),(.ref 166)⟩::⟨(@PySem.PyData.keyHash P "Channel"),(.str "Channel" 505),(.ref 235)⟩::⟨(@PySem.PyData.keyHash P "is_case_ready"),(.str "is_case_ready" 514),(.ref 246)⟩::⟨(@PySem.PyData.keyHash P "ready_cases"),(.str "ready_cases" 520),(.ref 251)⟩::⟨(@PySem.PyData.keyHash P "do_case"),(.str "do_case" 530),(.ref 258)⟩::⟨(@PySem.PyData.keyHash P "enqueue_all"),(.str "enqueue_all" 541),(.ref 265)⟩::⟨(@PySem.PyData.keyHash P "dequeue_all"),(.str "dequeue_all" 550),(.ref 272)⟩::⟨(@PySem.PyData.keyHash P "_law_pool"),(.str "_law_pool" 563),(.ref 279)⟩::⟨(@PySem.PyData.keyHash P "_law_take"),(.str "_law_take" 572),(.ref 286)⟩::⟨(@PySem.PyData.keyHash P "_law_one"),(.str "_law_one" 580),(.ref 293)⟩::⟨(@PySem.PyData.keyHash P "_law_scene"),(.str "_law_scene" 586),(.ref 298)⟩::⟨(@PySem.PyData.keyHash P "_law_channel"),(.str "_law_channel" 594),(.ref 305)⟩::⟨(@PySem.PyData.keyHash P "_law_heard"),(.str "_law_heard" 610),(.ref 312)⟩::⟨(@PySem.PyData.keyHash P "_law_woken"),(.str "_law_woken" 619),(.ref 319)⟩::⟨(@PySem.PyData.keyHash P "_law_plain_deed"),(.str "_law_plain_deed" 634),(.ref 326)⟩::⟨(@PySem.PyData.keyHash P "_law_single_right"),(.str "_law_single_right" 649),(.ref 333)⟩::⟨(@PySem.PyData.keyHash P "_law_close_right"),(.str "_law_close_right" 660),(.ref 340)⟩::⟨(@PySem.PyData.keyHash P "_law_select_right"),(.str "_law_select_right" 666),(.ref 345)⟩::⟨(@PySem.PyData.keyHash P "_law_sizes_right"),(.str "_law_sizes_right" 676),(.ref 352)⟩::⟨(@PySem.PyData.keyHash P "_law_told_first"),(.str "_law_told_first" 686),(.ref 359)⟩::⟨(@PySem.PyData.keyHash P "law"),(.str "law" 692),(.ref 364)⟩::[])) 38),#[]⟩)::((nat_lit 22),⟨(.type "tuple"),none,(.seq #[] 0),#[]⟩)::((nat_lit 24),⟨(.type "tuple"),none,(.seq #[(.str "self" 210),(.str "room" 211)] 0),#[]⟩)::((nat_lit 25),⟨(.type "tuple"),none,(.seq #[] 0),#[]⟩)::((nat_lit 27),⟨(.type "code"),none,(.fields (List.toArray ((.str "__init__" 207)::(.str "PlainChannel.__init__" 208)::(.str "/claim/cut.py" 209)::(.int 7 0)::(.int 2 0)::(.int 0 0)::(.int 0 0)::(.int 3 0)::(.ref 22)::(.bool true)::(.int 181 0)::(.ref 23)::.none::(.ref 24)::(.ref 25)::(.ref 26)::(.int 212 0)::(.int 7 0)::(.str "/claim/cut.py" 213)::[]))),#[]⟩)::((nat_lit 28),⟨(.type "function"),none,(.func ⟨"__init__","PlainChannel.__init__",a0,(.stmts b0),s0,3,[],.none,.none,.none,(.str "chancore.plain_channels" 187),none,(.ref 27),.none,0⟩),#[]⟩)::((nat_lit 29),⟨(.type "tuple"),none,(.seq #[(.str "held" 215),(.str "is_closed" 216),(.str "room" 217)] 0),#[]⟩)::((nat_lit 30),⟨(.type "dict"),none,(.dict (List.toArray (⟨(@PySem.PyData.keyHash P "__module__"),(.str "__module__" 202),(.str "chancore.plain_channels" 187)⟩::⟨(@PySem.PyData.keyHash P "__firstlineno__"),(.str "__firstlineno__" 206),(.int 5 205)⟩::⟨(@PySem.PyData.keyHash P "__init__"),(.str "__init__" 214),(.ref 28)⟩::⟨(@PySem.PyData.keyHash P "__static_attributes__"),(.str "__static_attributes__" 218),(.ref 29)⟩::⟨(@PySem.PyData.keyHash P "__dict__"),(.str "__dict__" 220),(.ref 32)⟩::⟨(@PySem.PyData.keyHash P "__weakref__"),(.str "__weakref__" 222),(.ref 33)⟩::⟨(@PySem.PyData.keyHash P "__doc__"),(.str "__doc__" 223),.none⟩::[])) 4),#[]⟩)::((nat_lit 31),⟨(.type "type"),none,(.cls ⟨"PlainChannel",[(.type "object")],[(.ref 31),(.type "object")],30,"PlainChannel",true,[],[],false,none,false⟩),(List.toArray (none::none::(some (.str "PlainChannel" 195))::(some (.str "PlainChannel" 203))::(some (.builtin "object.__new__"))::(some (.bool true))::[]))⟩)::((nat_lit 32),⟨(.type "getset_descriptor"),none,(.fields (List.toArray ((.str "__dict__" 219)::(.ref 31)::(.builtin "function.__dict__")::(.builtin "function.__dict__#set")::[]))),#[]⟩)::((nat_lit 33),⟨(.type "getset_descriptor"),none,(.fields (List.toArray ((.str "__weakref__" 221)::(.ref 31)::(.builtin "ExceptionGroup.__weakref__")::.none::[]))),#[]⟩)::((nat_lit 43),⟨(.type "tuple"),none,(.seq #[] 0),#[]⟩)::((nat_lit 45),⟨(.type "tuple"),none,(.seq #[(.str "self" 241)] 0),#[]⟩)::((nat_lit 46),⟨(.type "tuple"),none,(.seq #[] 0),#[]⟩)::((nat_lit 48),⟨(.type "code"),none,(.fields (List.toArray ((.str "__init__" 238)::(.str "PlainChannels.__init__" 239)::(.str "/claim/cut.py" 240)::(.int 13 0)::(.int 1 0)::(.int 0 0)::(.int 0 0)::(.int 3 0)::(.ref 43)::(.bool true)::(.int 181 0)::(.ref 44)::.none::(.ref 45)::(.ref 46)::(.ref 47)::(.int 242 0)::(.int 13 0)::(.str "/claim/cut.py" 243)::[]))),#[]⟩)::((nat_lit 49),⟨(.type "function"),none,(.func ⟨"__init__","PlainChannels.__init__",a1,(.stmts b1),s1,3,[],.none,.none,.none,(.str "chancore.plain_channels" 187),none,(.ref 48),.none,0⟩),#[]⟩)::((nat_lit 50),⟨(.type "tuple"),none,(.seq #[] 0),#[]⟩)::((nat_lit 52),⟨(.type "tuple"),none,(.seq #[(.str "self" 248),(.str "room" 249)] 0),#[]⟩)::((nat_lit 53),⟨(.type "tuple"),none,(.seq #[] 0),#[]⟩)::((nat_lit 55),⟨(.type "code"),none,(.fields (List.toArray ((.str "make_one" 245)::(.str "PlainChannels.make_one" 246)::(.str "/claim/cut.py" 247)::(.int 17 0)::(.int 2 0)::(.int 0 0)::(.int 0 0)::(.int 3 0)::(.ref 50)::(.bool true)::(.int 181 0)::(.ref 51)::.none::(.ref 52)::(.ref 53)::(.ref 54)::(.int 250 0)::(.int 17 0)::(.str "/claim/cut.py" 251)::[]))),#[]⟩)::((nat_lit 56),⟨(.type "function"),none,(.func ⟨"make_one","PlainChannels.make_one",a2,(.stmts b2),s2,3,[],.none,.none,.none,(.str "chancore.plain_channels" 187),none,(.ref 55),.none,0⟩),#[]⟩)::((nat_lit 57),⟨(.type "tuple"),none,(.seq #[] 0),#[]⟩)::((nat_lit 59),⟨(.type "tuple"),none,(.seq #[(.str "self" 256),(.str "number" 257)] 0),#[]⟩)::((nat_lit 60),⟨(.type "tuple"),none,(.seq #[] 0),#[]⟩)::((nat_lit 62),⟨(.type "code"),none,(.fields (List.toArray ((.str "size_of" 253)::(.str "PlainChannels.size_of" 254)::(.str "/claim/cut.py" 255)::(.int 21 0)::(.int 2 0)::(.int 0 0)::(.int 0 0)::(.int 3 0)::(.ref 57)::(.bool true)::(.int 181 0)::(.ref 58)::.none::(.ref 59)::(.ref 60)::(.ref 61)::(.int 258 0)::(.int 21 0)::(.str "/claim/cut.py" 259)::[]))),#[]⟩)::((nat_lit 63),⟨(.type "function"),none,(.func ⟨"size_of","PlainChannels.size_of",a3,(.stmts b3),s3,3,[],.none,.none,.none,(.str "chancore.plain_channels" 187),none,(.ref 62),.none,0⟩),#[]⟩)::((nat_lit 64),⟨(.type "tuple"),none,(.seq #[] 0),#[]⟩)::((nat_lit 66),⟨(.type "tuple"),none,(.seq #[(.str "self" 264),(.str "number" 265)] 0),#[]⟩)::((nat_lit 67),⟨(.type "tuple"),none,(.seq #[] 0),#[]⟩)::((nat_lit 69),⟨(.type "code"),none,(.fields (List.toArray ((.str "room_of" 261)::(.str "PlainChannels.room_of" 262)::(.str "/claim/cut.py" 263)::(.int 24 0)::(.int 2 0)::(.int 0 0)::(.int 0 0)::(.int 3 0)::(.ref 64)::(.bool true)::(.int 181 0)::(.ref 65)::.none::(.ref 66)::(.ref 67)::(.ref 68)::(.int 266 0)::(.int 24 0)::(.str "/claim/cut.py" 267)::[]))),#[]⟩)::((nat_lit 70),⟨(.type "function"),none,(.func ⟨"room_of","PlainChannels.room_of",a4,(.stmts b4),s4,3,[],.none,.none,.none,(.str "chancore.plain_channels" 187),none,(.ref 69),.none,0⟩),#[]⟩)::((nat_lit 71),⟨(.type "tuple"),none,(.seq #[] 0),#[]⟩)::((nat_lit 73),⟨(.type "tuple"),none,(.seq (List.toArray ((.str "self" 272)::(.str "kind" 273)::(.str "number" 274)::(.str "deed" 275)::[])) 0),#[]⟩)::((nat_lit 74),⟨(.type "tuple"),none,(.seq #[] 0),#[]⟩)::((nat_lit 76),⟨(.type "code"),none,(.fields (List.toArray ((.str "first_waiting" 269)::(.str "PlainChannels.first_waiting" 270)::(.str "/claim/cut.py" 271)::(.int 27 0)::(.int 3 0)::(.int 0 0)::(.int 0 0)::(.int 3 0)::(.ref 71)::(.bool true)::(.int 181 0)::(.ref 72)::.none::(.ref 73)::(.ref 74)::(.ref 75)::(.int 276 0)::(.int 27 0)::(.str "/claim/cut.py" 277)::[]))),#[]⟩)::((nat_lit 77),⟨(.type "function"),none,(.func ⟨"first_waiting","PlainChannels.first_waiting",a5,(.stmts b5),s5,3,[],.none,.none,.none,(.str "chancore.plain_channels" 187),none,(.ref 76),.none,0⟩),#[]⟩)::((nat_lit 78),⟨(.type "tuple"),none,(.seq #[] 0),#[]⟩)::((nat_lit 81),⟨(.type "code"),none,(.fields (List.toArray ((.str "let_go" 279)::(.str "PlainChannels.let_go" 280)::(.str "/claim/cut.py" 281)::(.int 33 0)::(.int 2 0)::(.int 0 0)::(.int 0 0)::(.int 3 0)::(.ref 78)::(.bool true)::(.int 181 0)::(.ref 79)::.none::.none::.none::(.ref 80)::(.int 282 0)::(.int 33 0)::(.str "/claim/cut.py" 283)::[]))),#[]⟩)::((nat_lit 82),⟨(.type "function"),none,(.func ⟨"let_go","PlainChannels.let_go",a6,(.stmts b6),s6,3,[],.none,.none,.none,(.str "chancore.plain_channels" 187),none,(.ref 81),.none,0⟩),#[]⟩)::((nat_lit 83),⟨(.type "tuple"),none,(.seq #[] 0),#[]⟩)::((nat_lit 85),⟨(.type "tuple"),none,(.seq #[(.str "self" 288),(.str "number" 289),(.str "one" 290)] 0),#[]⟩)::((nat_lit 86),⟨(.type "tuple"),none,(.seq #[] 0),#[]⟩)::((nat_lit 88),⟨(.type "code"),none,(.fields (List.toArray ((.str "may_send" 285)::(.str "PlainChannels.may_send" 286)::(.str "/claim/cut.py" 287)::(.int 36 0)::(.int 2 0)::(.int 0 0)::(.int 0 0)::(.int 3 0)::(.ref 83)::(.bool true)::(.int 181 0)::(.ref 84)::.none::(.ref 85)::(.ref 86)::(.ref 87)::(.int 291 0)::(.int 36 0)::(.str "/claim/cut.py" 292)::[]))),#[]⟩)::((nat_lit 89),⟨(.type "function"),none,(.func ⟨"may_send","PlainChannels.may_send",a7,(.stmts b7),s7,3,[],.none,.none,.none,(.str "chancore.plain_channels" 187),none,(.ref 88),.none,0⟩),#[]⟩)::((nat_lit 90),⟨(.type "tuple"),none,(.seq #[] 0),#[]⟩)::((nat_lit 92),⟨(.type "tuple"),none,(.seq #[(.str "self" 297),(.str "number" 298),(.str "one" 299)] 0),#[]⟩)::((nat_lit 93),⟨(.type "tuple"),none,(.seq #[] 0),#[]⟩)::((nat_lit 95),⟨(.type "code"),none,(.fields (List.toArray ((.str "may_take" 294)::(.str "PlainChannels.may_take" 295)::(.str "/claim/cut.py" 296)::(.int 42 0)::(.int 2 0)::(.int 0 0)::(.int 0 0)::(.int 3 0)::(.ref 90)::(.bool true)::(.int 181 0)::(.ref 91)::.none::(.ref 92)::(.ref 93)::(.ref 94)::(.int 300 0)::(.int 42 0)::(.str "/claim/cut.py" 301)::[]))),#[]⟩)::((nat_lit 96),⟨(.type "function"),none,(.func ⟨"may_take","PlainChannels.may_take",a8,(.stmts b8),s8,3,[],.none,.none,.none,(.str "chancore.plain_channels" 187),none,(.ref 95),.none,0⟩),#[]⟩)::((nat_lit 97),⟨(.type "tuple"),none,(.seq #[] 0),#[]⟩)::((nat_lit 99),⟨(.type "tuple"),none,(.seq #[(.str "self" 306),(.str "kind" 307),(.str "number" 308)] 0),#[]⟩)::((nat_lit 100),⟨(.type "tuple"),none,(.seq #[] 0),#[]⟩)::((nat_lit 102),⟨(.type "code"),none,(.fields (List.toArray ((.str "may_do" 303)::(.str "PlainChannels.may_do" 304)::(.str "/claim/cut.py" 305)::(.int 48 0)::(.int 3 0)::(.int 0 0)::(.int 0 0)::(.int 3 0)::(.ref 97)::(.bool true)::(.int 181 0)::(.ref 98)::.none::(.ref 99)::(.ref 100)::(.ref 101)::(.int 309 0)::(.int 48 0)::(.str "/claim/cut.py" 310)::[]))),#[]⟩)::((nat_lit 103),⟨(.type "function"),none,(.func ⟨"may_do","PlainChannels.may_do",a9,(.stmts b9),s9,3,[],.none,.none,.none,(.str "chancore.plain_channels" 187),none,(.ref 102),.none,0⟩),#[]⟩)::((nat_lit 104),⟨(.type "tuple"),none,(.seq #[] 0),#[]⟩)::((nat_lit 106),⟨(.type "tuple"),none,(.seq (List.toArray ((.str "self" 315)::(.str "number" 316)::(.str "value" 317)::(.str "one" 318)::(.str "taker" 319)::[])) 0),#[]⟩)::((nat_lit 107),⟨(.type "tuple"),none,(.seq #[] 0),#[]⟩)::((nat_lit 109),⟨(.type "code"),none,(.fields (List.toArray ((.str "send_now" 312)::(.str "PlainChannels.send_now" 313)::(.str "/claim/cut.py" 314)::(.int 51 0)::(.int 3 0)::(.int 0 0)::(.int 0 0)::(.int 3 0)::(.ref 104)::(.bool true)::(.int 181 0)::(.ref 105)::.none::(.ref 106)::(.ref 107)::(.ref 108)::(.int 320 0)::(.int 51 0)::(.str "/claim/cut.py" 321)::[]))),#[]⟩)::((nat_lit 110),⟨(.type "function"),none,(.func ⟨"send_now","PlainChannels.send_now",a10,(.stmts b10),s10,3,[],.none,.none,.none,(.str "chancore.plain_channels" 187),none,(.ref 109),.none,0⟩),#[]⟩)::((nat_lit 111),⟨(.type "tuple"),none,(.seq #[] 0),#[]⟩)::((nat_lit 113),⟨(.type "tuple"),none,(.seq (List.toArray ((.str "self" 326)::(.str "number" 327)::(.str "one" 328)::(.str "sender" 329)::(.str "value" 330)::[])) 0),#[]⟩)::((nat_lit 114),⟨(.type "tuple"),none,(.seq #[] 0),#[]⟩)::((nat_lit 116),⟨(.type "code"),none,(.fields (List.toArray ((.str "take_now" 323)::(.str "PlainChannels.take_now" 324)::(.str "/claim/cut.py" 325)::(.int 62 0)::(.int 2 0)::(.int 0 0)::(.int 0 0)::(.int 3 0)::(.ref 111)::(.bool true)::(.int 181 0)::(.ref 112)::.none::(.ref 113)::(.ref 114)::(.ref 115)::(.int 331 0)::(.int 62 0)::(.str "/claim/cut.py" 332)::[]))),#[]⟩)::((nat_lit 117),⟨(.type "function"),none,(.func ⟨"take_now","PlainChannels.take_now",a11,(.stmts b11),s11,3,[],.none,.none,.none,(.str "chancore.plain_channels" 187),none,(.ref 116),.none,0⟩),#[]⟩)::((nat_lit 118),⟨(.type "tuple"),none,(.seq #[] 0),#[]⟩)::((nat_lit 120),⟨(.type "tuple"),none,(.seq (List.toArray ((.str "self" 337)::(.str "kind" 338)::(.str "number" 339)::(.str "value" 340)::[])) 0),#[]⟩)::((nat_lit 121),⟨(.type "tuple"),none,(.seq #[] 0),#[]⟩)::((nat_lit 123),⟨(.type "code"),none,(.fields (List.toArray ((.str "do_now" 334)::(.str "PlainChannels.do_now" 335)::(.str "/claim/cut.py" 336)::(.int 72 0)::(.int 4 0)::(.int 0 0)::(.int 0 0)::(.int 3 0)::(.ref 118)::(.bool true)::(.int 181 0)::(.ref 119)::.none::(.ref 120)::(.ref 121)::(.ref 122)::(.int 341 0)::(.int 72 0)::(.str "/claim/cut.py" 342)::[]))),#[]⟩)::((nat_lit 124),⟨(.type "function"),none,(.func ⟨"do_now","PlainChannels.do_now",a12,(.stmts b12),s12,3,[],.none,.none,.none,(.str "chancore.plain_channels" 187),none,(.ref 123),.none,0⟩),#[]⟩)::((nat_lit 125),⟨(.type "tuple"),none,(.seq #[] 0),#[]⟩)::((nat_lit 127),⟨(.type "tuple"),none,(.seq #[(.str "self" 347),(.str "number" 348),(.str "one" 349)] 0),#[]⟩)::((nat_lit 128),⟨(.type "tuple"),none,(.seq #[] 0),#[]⟩)::((nat_lit 130),⟨(.type "code"),none,(.fields (List.toArray ((.str "close_now" 344)::(.str "PlainChannels.close_now" 345)::(.str "/claim/cut.py" 346)::(.int 75 0)::(.int 2 0)::(.int 0 0)::(.int 0 0)::(.int 3 0)::(.ref 125)::(.bool true)::(.int 181 0)::(.ref 126)::.none::(.ref 127)::(.ref 128)::(.ref 129)::(.int 350 0)::(.int 75 0)::(.str "/claim/cut.py" 351)::[]))),#[]⟩)::((nat_lit 131),⟨(.type "function"),none,(.func ⟨"close_now","PlainChannels.close_now",a13,(.stmts b13),s13,3,[],.none,.none,.none,(.str "chancore.plain_channels" 187),none,(.ref 130),.none,0⟩),#[]⟩)::((nat_lit 132),⟨(.type "tuple"),none,(.seq #[] 0),#[]⟩)::((nat_lit 134),⟨(.type "tuple"),none,(.seq (List.toArray ((.str "self" 356)::(.str "kind" 357)::(.str "number" 358)::(.str "told" 359)::(.str "found" 360)::(.str "deed" 361)::[])) 0),#[]⟩)::((nat_lit 135),⟨(.type "tuple"),none,(.seq #[] 0),#[]⟩)::((nat_lit 137),⟨(.type "code"),none,(.fields (List.toArray ((.str "ended" 353)::(.str "PlainChannels.ended" 354)::(.str "/claim/cut.py" 355)::(.int 84 0)::(.int 4 0)::(.int 0 0)::(.int 0 0)::(.int 3 0)::(.ref 132)::(.bool true)::(.int 181 0)::(.ref 133)::.none::(.ref 134)::(.ref 135)::(.ref 136)::(.int 362 0)::(.int 84 0)::(.str "/claim/cut.py" 363)::[]))),#[]⟩)::((nat_lit 138),⟨(.type "function"),none,(.func ⟨"ended","PlainChannels.ended",a14,(.stmts b14),s14,3,[],.none,.none,.none,(.str "chancore.plain_channels" 187),none,(.ref 137),.none,0⟩),#[]⟩)::((nat_lit 139),⟨(.type "tuple"),none,(.seq #[] 0),#[]⟩)::((nat_lit 141),⟨(.type "tuple"),none,(.seq (List.toArray ((.str "self" 368)::(.str "goroutine" 369)::(.str "deeds" 370)::(.str "case" 371)::(.str "kind" 372)::(.str "number" 373)::(.str "value" 374)::[])) 0),#[]⟩)::((nat_lit 142),⟨(.type "tuple"),none,(.seq #[] 0),#[]⟩)::((nat_lit 144),⟨(.type "code"),none,(.fields (List.toArray ((.str "wait_for" 365)::(.str "PlainChannels.wait_for" 366)::(.str "/claim/cut.py" 367)::(.int 92 0)::(.int 3 0)::(.int 0 0)::(.int 0 0)::(.int 3 0)::(.ref 139)::(.bool true)::(.int 181 0)::(.ref 140)::.none::(.ref 141)::(.ref 142)::(.ref 143)::(.int 375 0)::(.int 92 0)::(.str "/claim/cut.py" 376)::[]))),#[]⟩)::((nat_lit 145),⟨(.type "function"),none,(.func ⟨"wait_for","PlainChannels.wait_for",a15,(.stmts b15),s15,3,[],.none,.none,.none,(.str "chancore.plain_channels" 187),none,(.ref 144),.none,0⟩),#[]⟩)::((nat_lit 146),⟨(.type "tuple"),none,(.seq #[(.str "channels" 378),(.str "waiting" 379)] 0),#[]⟩)::((nat_lit 147),⟨(.type "dict"),none,(.dict (List.toArray (⟨(@PySem.PyData.keyHash P "__module__"),(.str "__module__" 233),(.str "chancore.plain_channels" 187)⟩::⟨(@PySem.PyData.keyHash P "__firstlineno__"),(.str "__firstlineno__" 237),(.int 11 236)⟩::⟨(@PySem.PyData.keyHash P "__init__"),(.str "__init__" 244),(.ref 49)⟩::⟨(@PySem.PyData.keyHash P "make_one"),(.str "make_one" 252),(.ref 56)⟩::⟨(@PySem.PyData.keyHash P "size_of"),(.str "size_of" 260),(.ref 63)⟩::⟨(@PySem.PyData.keyHash P "room_of"),(.str "room_of" 268),(.ref 70)⟩::⟨(@PySem.PyData.keyHash P "first_waiting"),(.str "first_waiting" 278),(.ref 77)⟩::⟨(@PySem.PyData.keyHash P "let_go"),(.str "let_go" 284),(.ref 82)⟩::⟨(@PySem.PyData.keyHash P "may_send"),(.str "may_send" 293),(.ref 89)⟩::⟨(@PySem.PyData.keyHash P "may_take"),(.str "may_take" 302),(.ref 96)⟩::⟨(@PySem.PyData.keyHash P "may_do"),(.str "may_do" 311),(.ref 103)⟩::⟨(@PySem.PyData.keyHash P "send_now"),(.str "send_now" 322),(.ref 110)⟩::⟨(@PySem.PyData.keyHash P "take_now"),(.str "take_now" 333),(.ref 117)⟩::⟨(@PySem.PyData.keyHash P "do_now"),(.str "do_now" 343),(.ref 124)⟩::⟨(@PySem.PyData.keyHash P "close_now"),(.str "close_now" 352),(.ref 131)⟩::⟨(@PySem.PyData.keyHash P "ended"),(.str "ended" 364),(.ref 138)⟩::⟨(@PySem.PyData.keyHash P "wait_for"),(.str "wait_for" 377),(.ref 145)⟩::⟨(@PySem.PyData.keyHash P "__static_attributes__"),(.str "__static_attributes__" 380),(.ref 146)⟩::⟨(@PySem.PyData.keyHash P "__dict__"),(.str "__dict__" 382),(.ref 149)⟩::⟨(@PySem.PyData.keyHash P "__weakref__"),(.str "__weakref__" 384),(.ref 150)⟩::⟨(@PySem.PyData.keyHash P "__doc__"),(.str "__doc__" 385),.none⟩::[])) 4),#[]⟩)::((nat_lit 148),⟨(.type "type"),none,(.cls ⟨"PlainChannels",[(.type "object")],[(.ref 148),(.type "object")],147,"PlainChannels",true,[],[],false,none,false⟩),(List.toArray (none::none::(some (.str "PlainChannels" 226))::(some (.str "PlainChannels" 234))::(some (.builtin "object.__new__"))::(some (.bool true))::[]))⟩)::((nat_lit 149),⟨(.type "getset_descriptor"),none,(.fields (List.toArray ((.str "__dict__" 381)::(.ref 148)::(.builtin "function.__dict__")::(.builtin "function.__dict__#set")::[]))),#[]⟩)::((nat_lit 150),⟨(.type "getset_descriptor"),none,(.fields (List.toArray ((.str "__weakref__" 383)::(.ref 148)::(.builtin "ExceptionGroup.__weakref__")::.none::[]))),#[]⟩)::((nat_lit 153),⟨(.type "tuple"),none,(.seq #[] 0),#[]⟩)::((nat_lit 155),⟨(.type "tuple"),none,(.seq #[(.str "waiter" 397),(.str "what" 398)] 0),#[]⟩)::((nat_lit 156),⟨(.type "tuple"),none,(.seq #[] 0),#[]⟩)::((nat_lit 158),⟨(.type "code"),none,(.fields (List.toArray ((.str "woken_row" 394)::(.str "woken_row" 395)::(.str "/claim/cut.py" 396)::(.int 99 0)::(.int 2 0)::(.int 0 0)::(.int 0 0)::(.int 3 0)::(.ref 153)::(.bool true)::(.int 181 0)::(.ref 154)::.none::(.ref 155)::(.ref 156)::(.ref 157)::(.int 399 0)::(.int 99 0)::(.str "/claim/cut.py" 400)::[]))),#[]⟩)::((nat_lit 159),⟨(.type "function"),none,(.func ⟨"woken_row","woken_row",a16,(.stmts b16),s16,3,[],.none,.none,.none,(.str "chancore.channels" 388),none,(.ref 158),.none,0⟩),#[]⟩)::((nat_lit 160),⟨(.type "tuple"),none,(.seq #[] 0),#[]⟩)::((nat_lit 162),⟨(.type "tuple"),none,(.seq (List.toArray ((.str "rows" 405)::(.str "found" 406)::(.str "met" 407)::(.str "waiter" 408)::(.str "what" 409)::[])) 0),#[]⟩)::((nat_lit 163),⟨(.type "tuple"),none,(.seq #[] 0),#[]⟩)::((nat_lit 165),⟨(.type "code"),none,(.fields (List.toArray ((.str "once_a_select" 402)::(.str "once_a_select" 403)::(.str "/claim/cut.py" 404)::(.int 101 0)::(.int 1 0)::(.int 0 0)::(.int 0 0)::(.int 3 0)::(.ref 160)::(.bool true)::(.int 181 0)::(.ref 161)::.none::(.ref 162)::(.ref 163)::(.ref 164)::(.int 410 0)::(.int 101 0)::(.str "/claim/cut.py" 411)::[]))),#[]⟩)::((nat_lit 166),⟨(.type "function"),none,(.func ⟨"once_a_select","once_a_select",a17,(.stmts b17),s17,3,[],.none,.none,.none,(.str "chancore.channels" 388),none,(.ref 165),.none,0⟩),#[]⟩)::((nat_lit 174),⟨(.type "tuple"),none,(.seq #[] 0),#[]⟩)::((nat_lit 176),⟨(.type "tuple"),none,(.seq #[(.str "self" 428),(.str "room" 429)] 0),#[]⟩)::((nat_lit 177),⟨(.type "tuple"),none,(.seq #[] 0),#[]⟩)::((nat_lit 179),⟨(.type "code"),none,(.fields (List.toArray ((.str "__init__" 425)::(.str "Channel.__init__" 426)::(.str "/claim/cut.py" 427)::(.int 110 0)::(.int 2 0)::(.int 0 0)::(.int 0 0)::(.int 3 0)::(.ref 174)::(.bool true)::(.int 181 0)::(.ref 175)::.none::(.ref 176)::(.ref 177)::(.ref 178)::(.int 430 0)::(.int 110 0)::(.str "/claim/cut.py" 431)::[]))),#[]⟩)::((nat_lit 180),⟨(.type "function"),none,(.func ⟨"__init__","Channel.__init__",a18,(.stmts b18),s0,3,[],.none,.none,.none,(.str "chancore.channels" 388),none,(.ref 179),.none,0⟩),#[]⟩)::((nat_lit 181),⟨(.type "tuple"),none,(.seq #[] 0),#[]⟩)::((nat_lit 183),⟨(.type "tuple"),none,(.seq #[(.str "self" 436)] 0),#[]⟩)::((nat_lit 184),⟨(.type "tuple"),none,(.seq #[] 0),#[]⟩)::((nat_lit 186),⟨(.type "code"),none,(.fields (List.toArray ((.str "can_send" 433)::(.str "Channel.can_send" 434)::(.str "/claim/cut.py" 435)::(.int 117 0)::(.int 1 0)::(.int 0 0)::(.int 0 0)::(.int 3 0)::(.ref 181)::(.bool true)::(.int 181 0)::(.ref 182)::.none::(.ref 183)::(.ref 184)::(.ref 185)::(.int 437 0)::(.int 117 0)::(.str "/claim/cut.py" 438)::[]))),#[]⟩)::((nat_lit 187),⟨(.type "function"),none,(.func ⟨"can_send","Channel.can_send",a19,(.stmts b19),s19,3,[],.none,.none,.none,(.str "chancore.channels" 388),none,(.ref 186),.none,0⟩),#[]⟩)::((nat_lit 188),⟨(.type "tuple"),none,(.seq #[] 0),#[]⟩)::((nat_lit 190),⟨(.type "tuple"),none,(.seq #[(.str "self" 443)] 0),#[]⟩)::((nat_lit 191),⟨(.type "tuple"),none,(.seq #[] 0),#[]⟩)::((nat_lit 193),⟨(.type "code"),none,(.fields (List.toArray ((.str "can_receive" 440)::(.str "Channel.can_receive" 441)::(.str "/claim/cut.py" 442)::(.int 120 0)::(.int 1 0)::(.int 0 0)::(.int 0 0)::(.int 3 0)::(.ref 188)::(.bool true)::(.int 181 0)::(.ref 189)::.none::(.ref 190)::(.ref 191)::(.ref 192)::(.int 444 0)::(.int 120 0)::(.str "/claim/cut.py" 445)::[]))),#[]⟩)::((nat_lit 194),⟨(.type "function"),none,(.func ⟨"can_receive","Channel.can_receive",a20,(.stmts b20),s1,3,[],.none,.none,.none,(.str "chancore.channels" 388),none,(.ref 193),.none,0⟩),#[]⟩)::((nat_lit 195),⟨(.type "tuple"),none,(.seq #[] 0),#[]⟩)::((nat_lit 197),⟨(.type "tuple"),none,(.seq #[(.str "self" 450),(.str "waiter" 451),(.str "first" 452)] 0),#[]⟩)::((nat_lit 198),⟨(.type "tuple"),none,(.seq #[] 0),#[]⟩)::((nat_lit 200),⟨(.type "code"),none,(.fields (List.toArray ((.str "offer" 447)::(.str "Channel.offer" 448)::(.str "/claim/cut.py" 449)::(.int 123 0)::(.int 2 0)::(.int 0 0)::(.int 0 0)::(.int 3 0)::(.ref 195)::(.bool true)::(.int 181 0)::(.ref 196)::.none::(.ref 197)::(.ref 198)::(.ref 199)::(.int 453 0)::(.int 123 0)::(.str "/claim/cut.py" 454)::[]))),#[]⟩)::((nat_lit 201),⟨(.type "function"),none,(.func ⟨"offer","Channel.offer",a21,(.stmts b21),s21,3,[],.none,.none,.none,(.str "chancore.channels" 388),none,(.ref 200),.none,0⟩),#[]⟩)::((nat_lit 202),⟨(.type "tuple"),none,(.seq #[] 0),#[]⟩)::((nat_lit 204),⟨(.type "tuple"),none,(.seq (List.toArray ((.str "self" 459)::(.str "waiter" 460)::(.str "found" 461)::(.str "first" 462)::[])) 0),#[]⟩)::((nat_lit 205),⟨(.type "tuple"),none,(.seq #[] 0),#[]⟩)::((nat_lit 207),⟨(.type "code"),none,(.fields (List.toArray ((.str "take" 456)::(.str "Channel.take" 457)::(.str "/claim/cut.py" 458)::(.int 135 0)::(.int 2 0)::(.int 0 0)::(.int 0 0)::(.int 3 0)::(.ref 202)::(.bool true)::(.int 181 0)::(.ref 203)::.none::(.ref 204)::(.ref 205)::(.ref 206)::(.int 463 0)::(.int 135 0)::(.str "/claim/cut.py" 464)::[]))),#[]⟩)::((nat_lit 208),⟨(.type "function"),none,(.func ⟨"take","Channel.take",a22,(.stmts b22),s22,3,[],.none,.none,.none,(.str "chancore.channels" 388),none,(.ref 207),.none,0⟩),#[]⟩)::((nat_lit 209),⟨(.type "tuple"),none,(.seq #[] 0),#[]⟩)::((nat_lit 211),⟨(.type "tuple"),none,(.seq #[(.str "self" 469),(.str "first" 470)] 0),#[]⟩)::((nat_lit 212),⟨(.type "tuple"),none,(.seq #[] 0),#[]⟩)::((nat_lit 214),⟨(.type "code"),none,(.fields (List.toArray ((.str "filled" 466)::(.str "Channel.filled" 467)::(.str "/claim/cut.py" 468)::(.int 147 0)::(.int 1 0)::(.int 0 0)::(.int 0 0)::(.int 3 0)::(.ref 209)::(.bool true)::(.int 181 0)::(.ref 210)::.none::(.ref 211)::(.ref 212)::(.ref 213)::(.int 471 0)::(.int 147 0)::(.str "/claim/cut.py" 472)::[]))),#[]⟩)::((nat_lit 215),⟨(.type "function"),none,(.func ⟨"filled","Channel.filled",a23,(.stmts b23),s23,3,[],.none,.none,.none,(.str "chancore.channels" 388),none,(.ref 214),.none,0⟩),#[]⟩)::((nat_lit 216),⟨(.type "tuple"),none,(.seq #[] 0),#[]⟩)::((nat_lit 219),⟨(.type "code"),none,(.fields (List.toArray ((.str "close" 474)::(.str "Channel.close" 475)::(.str "/claim/cut.py" 476)::(.int 154 0)::(.int 1 0)::(.int 0 0)::(.int 0 0)::(.int 3 0)::(.ref 216)::(.bool true)::(.int 181 0)::(.ref 217)::.none::.none::.none::(.ref 218)::(.int 477 0)::(.int 154 0)::(.str "/claim/cut.py" 478)::[]))),#[]⟩)::((nat_lit 220),⟨(.type "function"),none,(.func ⟨"close","Channel.close",a24,(.stmts b24),s24,3,[],.none,.none,.none,(.str "chancore.channels" 388),none,(.ref 219),.none,0⟩),#[]⟩)::((nat_lit 221),⟨(.type "tuple"),none,(.seq #[] 0),#[]⟩)::((nat_lit 224),⟨(.type "code"),none,(.fields (List.toArray ((.str "forget" 480)::(.str "Channel.forget" 481)::(.str "/claim/cut.py" 482)::(.int 163 0)::(.int 2 0)::(.int 0 0)::(.int 0 0)::(.int 3 0)::(.ref 221)::(.bool true)::(.int 181 0)::(.ref 222)::.none::.none::.none::(.ref 223)::(.int 483 0)::(.int 163 0)::(.str "/claim/cut.py" 484)::[]))),#[]⟩)::((nat_lit 225),⟨(.type "function"),none,(.func ⟨"forget","Channel.forget",a25,(.stmts b25),s25,3,[],.none,.none,.none,(.str "chancore.channels" 388),none,(.ref 224),.none,0⟩),#[]⟩)::((nat_lit 226),⟨(.type "tuple"),none,(.seq #[] 0),#[]⟩)::((nat_lit 228),⟨(.type "tuple"),none,(.seq #[(.str "self" 489)] 0),#[]⟩)::((nat_lit 229),⟨(.type "tuple"),none,(.seq #[] 0),#[]⟩)::((nat_lit 231),⟨(.type "code"),none,(.fields (List.toArray ((.str "size" 486)::(.str "Channel.size" 487)::(.str "/claim/cut.py" 488)::(.int 167 0)::(.int 1 0)::(.int 0 0)::(.int 0 0)::(.int 3 0)::(.ref 226)::(.bool true)::(.int 181 0)::(.ref 227)::.none::(.ref 228)::(.ref 229)::(.ref 230)::(.int 490 0)::(.int 167 0)::(.str "/claim/cut.py" 491)::[]))),#[]⟩)::((nat_lit 232),⟨(.type "function"),none,(.func ⟨"size","Channel.size",a26,(.stmts b26),s19,3,[],.none,.none,.none,(.str "chancore.channels" 388),none,(.ref 231),.none,0⟩),#[]⟩)::((nat_lit 233),⟨(.type "tuple"),none,(.seq (List.toArray ((.str "buffer" 493)::(.str "closed" 494)::(.str "receivers" 495)::(.str "room" 496)::(.str "senders" 497)::[])) 0),#[]⟩)::((nat_lit 234),⟨(.type "dict"),none,(.dict (List.toArray (⟨(@PySem.PyData.keyHash P "__module__"),(.str "__module__" 420),(.str "chancore.channels" 388)⟩::⟨(@PySem.PyData.keyHash P "__firstlineno__"),(.str "__firstlineno__" 424),(.int 108 423)⟩::⟨(@PySem.PyData.keyHash P "__init__"),(.str "__init__" 432),(.ref 180)⟩::⟨(@PySem.PyData.keyHash P "can_send"),(.str "can_send" 439),(.ref 187)⟩::⟨(@PySem.PyData.keyHash P "can_receive"),(.str "can_receive" 446),(.ref 194)⟩::⟨(@PySem.PyData.keyHash P "offer"),(.str "offer" 455),(.ref 201)⟩::⟨(@PySem.PyData.keyHash P "take"),(.str "take" 465),(.ref 208)⟩::⟨(@PySem.PyData.keyHash P "filled"),(.str "filled" 473),(.ref 215)⟩::⟨(@PySem.PyData.keyHash P "close"),(.str "close" 479),(.ref 220)⟩::⟨(@PySem.PyData.keyHash P "forget"),(.str "forget" 485),(.ref 225)⟩::⟨(@PySem.PyData.keyHash P "size"),(.str "size" 492),(.ref 232)⟩::⟨(@PySem.PyData.keyHash P "__static_attributes__"),(.str "__static_attributes__" 498),(.ref 233)⟩::⟨(@PySem.PyData.keyHash P "__dict__"),(.str "__dict__" 500),(.ref 236)⟩::⟨(@PySem.PyData.keyHash P "__weakref__"),(.str "__weakref__" 502),(.ref 237)⟩::⟨(@PySem.PyData.keyHash P "__doc__"),(.str "__doc__" 503),.none⟩::[])) 4),#[]⟩)::((nat_lit 235),⟨(.type "type"),none,(.cls ⟨"Channel",[(.type "object")],[(.ref 235),(.type "object")],234,"Channel",true,[],[],false,none,false⟩),(List.toArray (none::none::(some (.str "Channel" 413))::(some (.str "Channel" 421))::(some (.builtin "object.__new__"))::(some (.bool true))::[]))⟩)::((nat_lit 236),⟨(.type "getset_descriptor"),none,(.fields (List.toArray ((.str "__dict__" 499)::(.ref 235)::(.builtin "function.__dict__")::(.builtin "function.__dict__#set")::[]))),#[]⟩)::((nat_lit 237),⟨(.type "getset_descriptor"),none,(.fields (List.toArray ((.str "__weakref__" 501)::(.ref 235)::(.builtin "ExceptionGroup.__weakref__")::.none::[]))),#[]⟩)::((nat_lit 240),⟨(.type "tuple"),none,(.seq #[] 0),#[]⟩)::((nat_lit 242),⟨(.type "tuple"),none,(.seq #[(.str "case" 511)] 0),#[]⟩)::((nat_lit 243),⟨(.type "tuple"),none,(.seq #[] 0),#[]⟩)::((nat_lit 245),⟨(.type "code"),none,(.fields (List.toArray ((.str "is_case_ready" 508)::(.str "is_case_ready" 509)::(.str "/claim/cut.py" 510)::(.int 170 0)::(.int 1 0)::(.int 0 0)::(.int 0 0)::(.int 3 0)::(.ref 240)::(.bool true)::(.int 181 0)::(.ref 241)::.none::(.ref 242)::(.ref 243)::(.ref 244)::(.int 512 0)::(.int 170 0)::(.str "/claim/cut.py" 513)::[]))),#[]⟩)::((nat_lit 246),⟨(.type "function"),none,(.func ⟨"is_case_ready","is_case_ready",a27,(.stmts b27),s27,3,[],.none,.none,.none,(.str "chancore.selects" 506),none,(.ref 245),.none,0⟩),#[]⟩)::((nat_lit 247),⟨(.type "tuple"),none,(.seq #[] 0),#[]⟩)::((nat_lit 250),⟨(.type "code"),none,(.fields (List.toArray ((.str "ready_cases" 515)::(.str "ready_cases" 516)::(.str "/claim/cut.py" 517)::(.int 174 0)::(.int 1 0)::(.int 0 0)::(.int 0 0)::(.int 3 0)::(.ref 247)::(.bool true)::(.int 181 0)::(.ref 248)::.none::.none::.none::(.ref 249)::(.int 518 0)::(.int 174 0)::(.str "/claim/cut.py" 519)::[]))),#[]⟩)::((nat_lit 251),⟨(.type "function"),none,(.func ⟨"ready_cases","ready_cases",a28,(.stmts b28),s28,3,[],.none,.none,.none,(.str "chancore.selects" 506),none,(.ref 250),.none,0⟩),#[]⟩)::((nat_lit 252),⟨(.type "tuple"),none,(.seq #[] 0),#[]⟩)::((nat_lit 254),⟨(.type "tuple"),none,(.seq (List.toArray ((.str "cases" 524)::(.str "number" 525)::(.str "goroutine" 526)::(.str "case" 527)::[])) 0),#[]⟩)::((nat_lit 255),⟨(.type "tuple"),none,(.seq #[] 0),#[]⟩)::((nat_lit 257),⟨(.type "code"),none,(.fields (List.toArray ((.str "do_case" 521)::(.str "do_case" 522)::(.str "/claim/cut.py" 523)::(.int 176 0)::(.int 3 0)::(.int 0 0)::(.int 0 0)::(.int 3 0)::(.ref 252)::(.bool true)::(.int 181 0)::(.ref 253)::.none::(.ref 254)::(.ref 255)::(.ref 256)::(.int 528 0)::(.int 176 0)::(.str "/claim/cut.py" 529)::[]))),#[]⟩)::((nat_lit 258),⟨(.type "function"),none,(.func ⟨"do_case","do_case",a29,(.stmts b29),s29,3,[],.none,.none,.none,(.str "chancore.selects" 506),none,(.ref 257),.none,0⟩),#[]⟩)::((nat_lit 259),⟨(.type "tuple"),none,(.seq #[] 0),#[]⟩)::((nat_lit 261),⟨(.type "tuple"),none,(.seq (List.toArray ((.str "cases" 534)::(.str "goroutine" 535)::(.str "select" 536)::(.str "number" 537)::(.str "case" 538)::[])) 0),#[]⟩)::((nat_lit 262),⟨(.type "tuple"),none,(.seq #[] 0),#[]⟩)::((nat_lit 264),⟨(.type "code"),none,(.fields (List.toArray ((.str "enqueue_all" 531)::(.str "enqueue_all" 532)::(.str "/claim/cut.py" 533)::(.int 181 0)::(.int 3 0)::(.int 0 0)::(.int 0 0)::(.int 3 0)::(.ref 259)::(.bool true)::(.int 181 0)::(.ref 260)::.none::(.ref 261)::(.ref 262)::(.ref 263)::(.int 539 0)::(.int 181 0)::(.str "/claim/cut.py" 540)::[]))),#[]⟩)::((nat_lit 265),⟨(.type "function"),none,(.func ⟨"enqueue_all","enqueue_all",a30,(.stmts b30),s30,3,[],.none,.none,.none,(.str "chancore.selects" 506),none,(.ref 264),.none,0⟩),#[]⟩)::((nat_lit 266),⟨(.type "tuple"),none,(.seq #[] 0),#[]⟩)::((nat_lit 268),⟨(.type "tuple"),none,(.seq #[(.str "cases" 545),(.str "select" 546),(.str "case" 547)] 0),#[]⟩)::((nat_lit 269),⟨(.type "tuple"),none,(.seq #[] 0),#[]⟩)::((nat_lit 271),⟨(.type "code"),none,(.fields (List.toArray ((.str "dequeue_all" 542)::(.str "dequeue_all" 543)::(.str "/claim/cut.py" 544)::(.int 187 0)::(.int 2 0)::(.int 0 0)::(.int 0 0)::(.int 3 0)::(.ref 266)::(.bool true)::(.int 181 0)::(.ref 267)::.none::(.ref 268)::(.ref 269)::(.ref 270)::(.int 548 0)::(.int 187 0)::(.str "/claim/cut.py" 549)::[]))),#[]⟩)::((nat_lit 272),⟨(.type "function"),none,(.func ⟨"dequeue_all","dequeue_all",a31,(.stmts b31),s31,3,[],.none,.none,.none,(.str "chancore.selects" 506),none,(.ref 271),.none,0⟩),#[]⟩)::((nat_lit 273),⟨(.type "tuple"),none,(.seq #[] 0),#[]⟩)::((nat_lit 275),⟨(.type "tuple"),none,(.seq (List.toArray ((.str "script" 556)::(.str "k" 557)::(.str "cell" 558)::(.str "big" 559)::(.str "mixed" 560)::[])) 0),#[]⟩)::((nat_lit 276),⟨(.type "tuple"),none,(.seq #[] 0),#[]⟩)::((nat_lit 278),⟨(.type "code"),none,(.fields (List.toArray ((.str "_law_pool" 553)::(.str "_law_pool" 554)::(.str "/claim/cut.py" 555)::(.int 192 0)::(.int 2 0)::(.int 0 0)::(.int 0 0)::(.int 3 0)::(.ref 273)::(.bool true)::(.int 181 0)::(.ref 274)::.none::(.ref 275)::(.ref 276)::(.ref 277)::(.int 561 0)::(.int 192 0)::(.str "/claim/cut.py" 562)::[]))),#[]⟩)::((nat_lit 279),⟨(.type "function"),none,(.func ⟨"_law_pool","_law_pool",a32,(.stmts b32),s32,3,[],.none,.none,.none,(.str "law_on0022_01" 551),none,(.ref 278),.none,0⟩),#[]⟩)::((nat_lit 280),⟨(.type "tuple"),none,(.seq #[] 0),#[]⟩)::((nat_lit 282),⟨(.type "tuple"),none,(.seq #[(.str "source" 567),(.str "top" 568),(.str "drawn" 569)] 0),#[]⟩)::((nat_lit 283),⟨(.type "tuple"),none,(.seq #[] 0),#[]⟩)::((nat_lit 285),⟨(.type "code"),none,(.fields (List.toArray ((.str "_law_take" 564)::(.str "_law_take" 565)::(.str "/claim/cut.py" 566)::(.int 199 0)::(.int 2 0)::(.int 0 0)::(.int 0 0)::(.int 3 0)::(.ref 280)::(.bool true)::(.int 181 0)::(.ref 281)::.none::(.ref 282)::(.ref 283)::(.ref 284)::(.int 570 0)::(.int 199 0)::(.str "/claim/cut.py" 571)::[]))),#[]⟩)::((nat_lit 286),⟨(.type "function"),none,(.func ⟨"_law_take","_law_take",a33,(.stmts b33),s33,3,[],.none,.none,.none,(.str "law_on0022_01" 551),none,(.ref 285),.none,0⟩),#[]⟩)::((nat_lit 287),⟨(.type "tuple"),none,(.seq #[] 0),#[]⟩)::((nat_lit 289),⟨(.type "tuple"),none,(.seq #[(.str "source" 576),(.str "things" 577)] 0),#[]⟩)::((nat_lit 290),⟨(.type "tuple"),none,(.seq #[] 0),#[]⟩)::((nat_lit 292),⟨(.type "code"),none,(.fields (List.toArray ((.str "_law_one" 573)::(.str "_law_one" 574)::(.str "/claim/cut.py" 575)::(.int 206 0)::(.int 2 0)::(.int 0 0)::(.int 0 0)::(.int 3 0)::(.ref 287)::(.bool true)::(.int 181 0)::(.ref 288)::.none::(.ref 289)::(.ref 290)::(.ref 291)::(.int 578 0)::(.int 206 0)::(.str "/claim/cut.py" 579)::[]))),#[]⟩)::((nat_lit 293),⟨(.type "function"),none,(.func ⟨"_law_one","_law_one",a34,(.stmts b34),s34,3,[],.none,.none,.none,(.str "law_on0022_01" 551),none,(.ref 292),.none,0⟩),#[]⟩)::((nat_lit 294),⟨(.type "tuple"),none,(.seq #[] 0),#[]⟩)::((nat_lit 297),⟨(.type "code"),none,(.fields (List.toArray ((.str "_law_scene" 581)::(.str "_law_scene" 582)::(.str "/claim/cut.py" 583)::(.int 208 0)::(.int 1 0)::(.int 0 0)::(.int 0 0)::(.int 3 0)::(.ref 294)::(.bool true)::(.int 181 0)::(.ref 295)::.none::.none::.none::(.ref 296)::(.int 584 0)::(.int 208 0)::(.str "/claim/cut.py" 585)::[]))),#[]⟩)::((nat_lit 298),⟨(.type "function"),none,(.func ⟨"_law_scene","_law_scene",a35,(.stmts b35),s35,3,[],.none,.none,.none,(.str "law_on0022_01" 551),none,(.ref 297),.none,0⟩),#[]⟩)::((nat_lit 299),⟨(.type "tuple"),none,(.seq #[] 0),#[]⟩)::((nat_lit 301),⟨(.type "tuple"),none,(.seq #[(.str "scene" 590),(.str "at" 591)] 0),#[]⟩)::((nat_lit 302),⟨(.type "tuple"),none,(.seq #[] 0),#[]⟩)::((nat_lit 304),⟨(.type "code"),none,(.fields (List.toArray ((.str "_law_channel" 587)::(.str "_law_channel" 588)::(.str "/claim/cut.py" 589)::(.int 211 0)::(.int 2 0)::(.int 0 0)::(.int 0 0)::(.int 3 0)::(.ref 299)::(.bool true)::(.int 181 0)::(.ref 300)::.none::(.ref 301)::(.ref 302)::(.ref 303)::(.int 592 0)::(.int 211 0)::(.str "/claim/cut.py" 593)::[]))),#[]⟩)::((nat_lit 305),⟨(.type "function"),none,(.func ⟨"_law_channel","_law_channel",a36,(.stmts b36),s36,3,[],.none,.none,.none,(.str "law_on0022_01" 551),none,(.ref 304),.none,0⟩),#[]⟩)::((nat_lit 306),⟨(.type "tuple"),none,(.seq #[] 0),#[]⟩)::((nat_lit 308),⟨(.type "tuple"),none,(.seq (List.toArray ((.str "scene" 598)::(.str "rows" 599)::(.str "first" 600)::(.str "found" 601)::(.str "told" 602)::(.str "word" 603)::(.str "goroutine" 604)::(.str "case" 605)::(.str "select" 606)::(.str "what" 607)::[])) 0),#[]⟩)::((nat_lit 309),⟨(.type "tuple"),none,(.seq #[] 0),#[]⟩)::((nat_lit 311),⟨(.type "code"),none,(.fields (List.toArray ((.str "_law_heard" 595)::(.str "_law_heard" 596)::(.str "/claim/cut.py" 597)::(.int 213 0)::(.int 2 0)::(.int 0 0)::(.int 0 0)::(.int 3 0)::(.ref 306)::(.bool true)::(.int 181 0)::(.ref 307)::.none::(.ref 308)::(.ref 309)::(.ref 310)::(.int 608 0)::(.int 213 0)::(.str "/claim/cut.py" 609)::[]))),#[]⟩)::((nat_lit 312),⟨(.type "function"),none,(.func ⟨"_law_heard","_law_heard",a37,(.stmts b37),s37,3,[],.none,.none,.none,(.str "law_on0022_01" 551),none,(.ref 311),.none,0⟩),#[]⟩)::((nat_lit 313),⟨(.type "tuple"),none,(.seq #[] 0),#[]⟩)::((nat_lit 315),⟨(.type "tuple"),none,(.seq #[(.str "scene" 614),(.str "rows" 615),(.str "row" 616)] 0),#[]⟩)::((nat_lit 316),⟨(.type "tuple"),none,(.seq #[] 0),#[]⟩)::((nat_lit 318),⟨(.type "code"),none,(.fields (List.toArray ((.str "_law_woken" 611)::(.str "_law_woken" 612)::(.str "/claim/cut.py" 613)::(.int 223 0)::(.int 2 0)::(.int 0 0)::(.int 0 0)::(.int 3 0)::(.ref 313)::(.bool true)::(.int 181 0)::(.ref 314)::.none::(.ref 315)::(.ref 316)::(.ref 317)::(.int 617 0)::(.int 223 0)::(.str "/claim/cut.py" 618)::[]))),#[]⟩)::((nat_lit 319),⟨(.type "function"),none,(.func ⟨"_law_woken","_law_woken",a38,(.stmts b38),s38,3,[],.none,.none,.none,(.str "law_on0022_01" 551),none,(.ref 318),.none,0⟩),#[]⟩)::((nat_lit 320),⟨(.type "tuple"),none,(.seq #[] 0),#[]⟩)::((nat_lit 322),⟨(.type "tuple"),none,(.seq (List.toArray ((.str "scene" 623)::(.str "goroutine" 624)::(.str "kind" 625)::(.str "at" 626)::(.str "value" 627)::(.str "plain" 628)::(.str "number" 629)::(.str "told" 630)::(.str "rows" 631)::[])) 0),#[]⟩)::((nat_lit 323),⟨(.type "tuple"),none,(.seq #[] 0),#[]⟩)::((nat_lit 325),⟨(.type "code"),none,(.fields (List.toArray ((.str "_law_plain_deed" 620)::(.str "_law_plain_deed" 621)::(.str "/claim/cut.py" 622)::(.int 227 0)::(.int 5 0)::(.int 0 0)::(.int 0 0)::(.int 3 0)::(.ref 320)::(.bool true)::(.int 181 0)::(.ref 321)::.none::(.ref 322)::(.ref 323)::(.ref 324)::(.int 632 0)::(.int 227 0)::(.str "/claim/cut.py" 633)::[]))),#[]⟩)::((nat_lit 326),⟨(.type "function"),none,(.func ⟨"_law_plain_deed","_law_plain_deed",a39,(.stmts b39),s39,3,[],.none,.none,.none,(.str "law_on0022_01" 551),none,(.ref 325),.none,0⟩),#[]⟩)::((nat_lit 327),⟨(.type "tuple"),none,(.seq #[] 0),#[]⟩)::((nat_lit 329),⟨(.type "tuple"),none,(.seq (List.toArray ((.str "scene" 638)::(.str "goroutine" 639)::(.str "kind" 640)::(.str "at" 641)::(.str "value" 642)::(.str "due" 643)::(.str "one" 644)::(.str "waiter" 645)::(.str "told" 646)::[])) 0),#[]⟩)::((nat_lit 330),⟨(.type "tuple"),none,(.seq #[] 0),#[]⟩)::((nat_lit 332),⟨(.type "code"),none,(.fields (List.toArray ((.str "_law_single_right" 635)::(.str "_law_single_right" 636)::(.str "/claim/cut.py" 637)::(.int 234 0)::(.int 5 0)::(.int 0 0)::(.int 0 0)::(.int 3 0)::(.ref 327)::(.bool true)::(.int 181 0)::(.ref 328)::.none::(.ref 329)::(.ref 330)::(.ref 331)::(.int 647 0)::(.int 234 0)::(.str "/claim/cut.py" 648)::[]))),#[]⟩)::((nat_lit 333),⟨(.type "function"),none,(.func ⟨"_law_single_right","_law_single_right",a40,(.stmts b40),s40,3,[],.none,.none,.none,(.str "law_on0022_01" 551),none,(.ref 332),.none,0⟩),#[]⟩)::((nat_lit 334),⟨(.type "tuple"),none,(.seq #[] 0),#[]⟩)::((nat_lit 336),⟨(.type "tuple"),none,(.seq (List.toArray ((.str "scene" 653)::(.str "at" 654)::(.str "told" 655)::(.str "rows" 656)::(.str "due" 657)::[])) 0),#[]⟩)::((nat_lit 337),⟨(.type "tuple"),none,(.seq #[] 0),#[]⟩)::((nat_lit 339),⟨(.type "code"),none,(.fields (List.toArray ((.str "_law_close_right" 650)::(.str "_law_close_right" 651)::(.str "/claim/cut.py" 652)::(.int 246 0)::(.int 2 0)::(.int 0 0)::(.int 0 0)::(.int 3 0)::(.ref 334)::(.bool true)::(.int 181 0)::(.ref 335)::.none::(.ref 336)::(.ref 337)::(.ref 338)::(.int 658 0)::(.int 246 0)::(.str "/claim/cut.py" 659)::[]))),#[]⟩)::((nat_lit 340),⟨(.type "function"),none,(.func ⟨"_law_close_right","_law_close_right",a41,(.stmts b41),s41,3,[],.none,.none,.none,(.str "law_on0022_01" 551),none,(.ref 339),.none,0⟩),#[]⟩)::((nat_lit 341),⟨(.type "tuple"),none,(.seq #[] 0),#[]⟩)::((nat_lit 344),⟨(.type "code"),none,(.fields (List.toArray ((.str "_law_select_right" 661)::(.str "_law_select_right" 662)::(.str "/claim/cut.py" 663)::(.int 252 0)::(.int 4 0)::(.int 0 0)::(.int 0 0)::(.int 3 0)::(.ref 341)::(.bool true)::(.int 181 0)::(.ref 342)::.none::.none::.none::(.ref 343)::(.int 664 0)::(.int 252 0)::(.str "/claim/cut.py" 665)::[]))),#[]⟩)::((nat_lit 345),⟨(.type "function"),none,(.func ⟨"_law_select_right","_law_select_right",a42,(.stmts b42),s42,3,[],.none,.none,.none,(.str "law_on0022_01" 551),none,(.ref 344),.none,0⟩),#[]⟩)::((nat_lit 346),⟨(.type "tuple"),none,(.seq #[] 0),#[]⟩)::((nat_lit 348),⟨(.type "tuple"),none,(.seq (List.toArray ((.str "scene" 670)::(.str "at" 671)::(.str "one" 672)::(.str "number" 673)::[])) 0),#[]⟩)::((nat_lit 349),⟨(.type "tuple"),none,(.seq #[] 0),#[]⟩)::((nat_lit 351),⟨(.type "code"),none,(.fields (List.toArray ((.str "_law_sizes_right" 667)::(.str "_law_sizes_right" 668)::(.str "/claim/cut.py" 669)::(.int 268 0)::(.int 1 0)::(.int 0 0)::(.int 0 0)::(.int 3 0)::(.ref 346)::(.bool true)::(.int 181 0)::(.ref 347)::.none::(.ref 348)::(.ref 349)::(.ref 350)::(.int 674 0)::(.int 268 0)::(.str "/claim/cut.py" 675)::[]))),#[]⟩)::((nat_lit 352),⟨(.type "function"),none,(.func ⟨"_law_sizes_right","_law_sizes_right",a43,(.stmts b43),s43,3,[],.none,.none,.none,(.str "law_on0022_01" 551),none,(.ref 351),.none,0⟩),#[]⟩)::((nat_lit 353),⟨(.type "tuple"),none,(.seq #[] 0),#[]⟩)::((nat_lit 355),⟨(.type "tuple"),none,(.seq (List.toArray ((.str "scene" 680)::(.str "goroutine" 681)::(.str "kind" 682)::(.str "value" 683)::[])) 0),#[]⟩)::((nat_lit 356),⟨(.type "tuple"),none,(.seq #[] 0),#[]⟩)::((nat_lit 358),⟨(.type "code"),none,(.fields (List.toArray ((.str "_law_told_first" 677)::(.str "_law_told_first" 678)::(.str "/claim/cut.py" 679)::(.int 274 0)::(.int 0 0)::(.int 0 0)::(.int 0 0)::(.int 3 0)::(.ref 353)::(.bool true)::(.int 181 0)::(.ref 354)::.none::(.ref 355)::(.ref 356)::(.ref 357)::(.int 684 0)::(.int 274 0)::(.str "/claim/cut.py" 685)::[]))),#[]⟩)::((nat_lit 359),⟨(.type "function"),none,(.func ⟨"_law_told_first","_law_told_first",a44,(.stmts b44),s44,3,[],.none,.none,.none,(.str "law_on0022_01" 551),none,(.ref 358),.none,0⟩),#[]⟩)::((nat_lit 360),⟨(.type "tuple"),none,(.seq #[] 0),#[]⟩)::((nat_lit 363),⟨(.type "code"),none,(.fields (List.toArray ((.str "law" 687)::(.str "law" 688)::(.str "/claim/cut.py" 689)::(.int 280 0)::(.int 1 0)::(.int 0 0)::(.int 0 0)::(.int 3 0)::(.ref 360)::(.bool true)::(.int 181 0)::(.ref 361)::.none::.none::.none::(.ref 362)::(.int 690 0)::(.int 280 0)::(.str "/claim/cut.py" 691)::[]))),#[]⟩)::((nat_lit 364),⟨(.type "function"),none,(.func ⟨"law","law",a45,(.stmts b45),s45,3,[],.none,.none,.none,(.str "law_on0022_01" 551),none,(.ref 363),.none,0⟩),#[]⟩)::[]))
  rfl rfl rfl rfl rfl rfl rfl rfl rfl rfl rfl rfl rfl rfl rfl rfl rfl rfl rfl rfl rfl rfl rfl rfl rfl rfl rfl rfl rfl rfl rfl rfl rfl rfl rfl rfl rfl rfl rfl rfl rfl rfl rfl rfl rfl rfl
noncomputable def hd.as : List Addr := [nat_lit 2,nat_lit 3,nat_lit 22,nat_lit 24,nat_lit 25,nat_lit 27,nat_lit 28,nat_lit 29,nat_lit 30,nat_lit 31,nat_lit 32,nat_lit 33,nat_lit 43,nat_lit 45,nat_lit 46,nat_lit 48,nat_lit 49,nat_lit 50,nat_lit 52,nat_lit 53,nat_lit 55,nat_lit 56,nat_lit 57,nat_lit 59,nat_lit 60,nat_lit 62,nat_lit 63,nat_lit 64,nat_lit 66,nat_lit 67,nat_lit 69,nat_lit 70,nat_lit 71,nat_lit 73,nat_lit 74,nat_lit 76,nat_lit 77,nat_lit 78,nat_lit 81,nat_lit 82,nat_lit 83,nat_lit 85,nat_lit 86,nat_lit 88,nat_lit 89,nat_lit 90,nat_lit 92,nat_lit 93,nat_lit 95,nat_lit 96,nat_lit 97,nat_lit 99,nat_lit 100,nat_lit 102,nat_lit 103,nat_lit 104,nat_lit 106,nat_lit 107,nat_lit 109,nat_lit 110,nat_lit 111,nat_lit 113,nat_lit 114,nat_lit 116,nat_lit 117,nat_lit 118,nat_lit 120,nat_lit 121,nat_lit 123,nat_lit 124,nat_lit 125,nat_lit 127,nat_lit 128,nat_lit 130,nat_lit 131,nat_lit 132,nat_lit 134,nat_lit 135,nat_lit 137,nat_lit 138,nat_lit 139,nat_lit 141,nat_lit 142,nat_lit 144,nat_lit 145,nat_lit 146,nat_lit 147,nat_lit 148,nat_lit 149,nat_lit 150,nat_lit 153,nat_lit 155,nat_lit 156,nat_lit 158,nat_lit 159,nat_lit 160,nat_lit 162,nat_lit 163,nat_lit 165,nat_lit 166,nat_lit 174,nat_lit 176,nat_lit 177,nat_lit 179,nat_lit 180,nat_lit 181,nat_lit 183,nat_lit 184,nat_lit 186,nat_lit 187,nat_lit 188,nat_lit 190,nat_lit 191,nat_lit 193,nat_lit 194,nat_lit 195,nat_lit 197,nat_lit 198,nat_lit 200,nat_lit 201,nat_lit 202,nat_lit 204,nat_lit 205,nat_lit 207,nat_lit 208,nat_lit 209,nat_lit 211,nat_lit 212,nat_lit 214,nat_lit 215,nat_lit 216,nat_lit 219,nat_lit 220,nat_lit 221,nat_lit 224,nat_lit 225,nat_lit 226,nat_lit 228,nat_lit 229,nat_lit 231,nat_lit 232,nat_lit 233,nat_lit 234,nat_lit 235,nat_lit 236,nat_lit 237,nat_lit 240,nat_lit 242,nat_lit 243,nat_lit 245,nat_lit 246,nat_lit 247,nat_lit 250,nat_lit 251,nat_lit 252,nat_lit 254,nat_lit 255,nat_lit 257,nat_lit 258,nat_lit 259,nat_lit 261,nat_lit 262,nat_lit 264,nat_lit 265,nat_lit 266,nat_lit 268,nat_lit 269,nat_lit 271,nat_lit 272,nat_lit 273,nat_lit 275,nat_lit 276,nat_lit 278,nat_lit 279,nat_lit 280,nat_lit 282,nat_lit 283,nat_lit 285,nat_lit 286,nat_lit 287,nat_lit 289,nat_lit 290,nat_lit 292,nat_lit 293,nat_lit 294,nat_lit 297,nat_lit 298,nat_lit 299,nat_lit 301,nat_lit 302,nat_lit 304,nat_lit 305,nat_lit 306,nat_lit 308,nat_lit 309,nat_lit 311,nat_lit 312,nat_lit 313,nat_lit 315,nat_lit 316,nat_lit 318,nat_lit 319,nat_lit 320,nat_lit 322,nat_lit 323,nat_lit 325,nat_lit 326,nat_lit 327,nat_lit 329,nat_lit 330,nat_lit 332,nat_lit 333,nat_lit 334,nat_lit 336,nat_lit 337,nat_lit 339,nat_lit 340,nat_lit 341,nat_lit 344,nat_lit 345,nat_lit 346,nat_lit 348,nat_lit 349,nat_lit 351,nat_lit 352,nat_lit 353,nat_lit 355,nat_lit 356,nat_lit 358,nat_lit 359,nat_lit 360,nat_lit 363,nat_lit 364]
noncomputable def hd.view_39 : Program := view PySem.Challenge.rw_on0022_01.prog [1,2,3,4,5,7,8,9,10,11,13,14,15,16,17,19,20,21,22,23,24,25,26,27,28,29,30,31,32]
theorem hd.keys : ∀ P, hd.as = (hd.heap_39 P).map (·.1) := fun _ => by kernel_rfl
noncomputable abbrev hd.hook : Hook := kmHook hd.heap_39 hd.as hd.keys [314, 307]
noncomputable abbrev hd.xt : Shared → Bool := fun s => xlAt hd.view_39 [] s && recOk PySem.Challenge.rw_on0022_01.row.records s
theorem hd.size : ∀ w : World, ((boot_heap w.params).isNs mainGlobals && (#[] : Array GenState).size == 0, (boot_heap w.params).objs.size, (boot_heap w.params).nsMap mainGlobals "__annotations__") = (true, nat_lit 11, some (.ref 6)) := fun w => by kernel_rfl
noncomputable def hd.t47 : Params → BT := fun P => (.node (PySem.W.boot_o_0 P) (.node (PySem.W.boot_o_1 P) (.node (PySem.W.boot_o_3 P) (.node (PySem.W.boot_o_7 P) .nil .nil) (.node ⟨(.type "tuple"),none,(.seq (List.toArray []) 0),(List.toArray [])⟩ .nil .nil)) (.node (PySem.W.boot_o_5 P) (.node (PySem.W.boot_o_9 P) .nil .nil) (.node ⟨(.type "code"),none,(.fields (List.toArray ((.str "<module>" 182)::(.str "<module>" 183)::(.str "/claim/cut.py" 184)::(.int 1 0)::(.int 0 0)::(.int 0 0)::(.int 0 0)::(.int 0 0)::(.ref 11)::(.bool false)::(.int 181 0)::(.ref 12)::.none::.none::.none::.none::(.int 185 0)::(.int 1 0)::(.str "/claim/cut.py" 186)::[]))),(List.toArray [])⟩ .nil .nil))) (.node (PySem.W.boot_o_2 P) (.node (PySem.W.boot_o_4 P) (.node (PySem.W.boot_o_8 P) .nil .nil) (.node ⟨.none,none,(.fields (List.toArray [])),(List.toArray [])⟩ .nil .nil)) (.node (PySem.W.boot_o_6 P) (.node (PySem.W.boot_o_10 P) .nil .nil) (.node ⟨(.type "frame"),none,.plain,(List.toArray ((some (.ref 13))::(some (.ref 3))::(some (.ref 3))::none::(some (.str "__main__" 164))::none::(some (.ref 0))::[]))⟩ .nil .nil))))
noncomputable def hd.env : Env := { scope := PySem.Challenge.rw_on0022_01.row.prog.main.scope, locals := mainNs, globals := mainNs, cells := [], code := .ref 13, frame := some 14 }
noncomputable abbrev hd.b : List Stmt := behindTheImports PySem.Challenge.rw_on0022_01.row.prog
noncomputable abbrev hd.c : Code := .body hd.b hd.env
noncomputable abbrev hd.pos (a b c d : Nat) : Pos := ⟨a, b, c, d⟩
noncomputable abbrev hd.S (t : BT) (n k : Nat) (os : OsState) : SharedT := ⟨t, n, {}, #[], {}, k, os⟩
theorem hd.pre : ∀ (w : World) (os : OsState), PySem.W.Fast.tw15667345088766844465 PySem.W.Fast.tw14364793385576792824 PySem.Challenge.rw_on0022_01.row.prog w (nat_lit 11) (some (.ref 6)) (nat_lit 12) ⟨boot_heap w.params, #[], boot_drawn, boot_toks, os⟩ (topStub PySem.Challenge.rw_on0022_01.row.prog) =
    some ((hd.S (hd.t47 w.params) (nat_lit 15) (nat_lit 187) os).abs, ⟨PySem.W.Fast.tw11892475500146522536 PySem.W.Fast.tw14364793385576792824 hd.c, hd.c, (hd.pos 0 0 0 0), [topFrame (hd.pos 0 0 0 0)]⟩) := fun w os => by kernel_rfl
theorem hd.blk : ∀ (w : World) (os : OsState), PySem.W.Fast.tw14374325043358763698 PySem.W.Fast.tw14364793385576792824 PySem.Challenge.rw_on0022_01.row.prog w (nat_lit 11) (some (.ref 6)) (nat_lit 1) (nat_lit 1) (hd.S (hd.t47 w.params) (nat_lit 15) (nat_lit 187) os).abs (blockOf hd.b hd.env hd.c (hd.pos 0 0 0 0) [topFrame (hd.pos 0 0 0 0)]) =
    some (.next, (hd.S (hd.t47 w.params) (nat_lit 15) (nat_lit 187) os).abs, hd.c, (hd.pos 0 0 0 0)) := fun w os => by kernel_rfl
noncomputable abbrev hd.looks (w : World) := (fun (s : Shared) => ((staticsOk (importedModules PySem.Challenge.rw_on0022_01.row.prog.main.body) (boot_heap w.params) s.heap && namesBound PySem.Challenge.rw_on0022_01.row.prog s.heap && gensDone s && laidKept (boot_heap w.params) s.heap),
        PySem.W.Fast.tw4187177175401517315 hd.view_39 [] (importedModules PySem.Challenge.rw_on0022_01.row.prog.main.body) hd.xt true s, hd.hook.obs s))
theorem hd.g : ∀ (w : World) (os : OsState), (PySem.W.Fast.tw10110043849684766642 PySem.W.Fast.tw14364793385576792824 PySem.Challenge.rw_on0022_01.row.prog w (nat_lit 11) (some (.ref 6)) (nat_lit 1) (nat_lit 2140) (hd.S (hd.t47 w.params) (nat_lit 15) (nat_lit 187) os) ⟨(PySem.W.Fast.tw12563942051412417395 hd.b hd.env).wrap doneF deadEnd id id, hd.c, (hd.pos 0 0 0 0), [topFrame (hd.pos 0 0 0 0)]⟩).map (fun r => (r.1, r.2.2.1, r.2.2.2, hd.looks w r.2.1.abs)) =
    some (.next, hd.c, (hd.pos 280 0 298 15), (true, openGood hd.view_39 [], hd.hook.val w)) := fun w os => by kernel_rfl
theorem hd.fin : ∀ (w : World) (s : Shared), PySem.W.Fast.tw14082659384304107361 PySem.W.Fast.tw14364793385576792824 PySem.Challenge.rw_on0022_01.row.prog w (nat_lit 11) (some (.ref 6)) (nat_lit 2) s ⟨doneF .next, hd.c, (hd.pos 280 0 298 15), [topFrame (hd.pos 0 0 0 0)]⟩ = some s := fun w s => by kernel_rfl
theorem hd.run : ∀ (w : World) (os : OsState), (topRun treeTable PySem.Challenge.rw_on0022_01.row.prog w (nat_lit 11) (some (.ref 6)) (12 + (1 + (2140 + 2))) ⟨boot_heap w.params, #[], boot_drawn, boot_toks, os⟩ (topStub PySem.Challenge.rw_on0022_01.row.prog)).map (fun s => ((staticsOk (importedModules PySem.Challenge.rw_on0022_01.row.prog.main.body) (boot_heap w.params) s.heap && namesBound PySem.Challenge.rw_on0022_01.row.prog s.heap && gensDone s && laidKept (boot_heap w.params) s.heap),
        openSeen hd.view_39 [] (importedModules PySem.Challenge.rw_on0022_01.row.prog.main.body) hd.xt true s, hd.hook.obs s)) = some (true, openGood hd.view_39 [], hd.hook.val w) := fun w os => by
  have hg := hd.g w os
  rw [← PySem.W.Fast.te10110043849684766642, ← PySem.W.Fast.te14364793385576792824, ← PySem.W.Fast.te12563942051412417395] at hg
  obtain ⟨⟨f, s', c, q⟩, hr, hf⟩ := Option.map_eq_some_iff.mp hg
  obtain ⟨rfl, rfl, rfl, hl⟩ : f = .next ∧ c = hd.c ∧ q = (hd.pos 280 0 298 15) ∧ hd.looks w s'.abs = (true, openGood hd.view_39 [], hd.hook.val w) := by simpa only [Prod.mk.injEq] using hf
  unfold hd.looks at hl
  rw [← PySem.W.Fast.te4187177175401517315] at hl
  refine Option.map_eq_some_iff.mpr ⟨s'.abs, ?_, hl⟩
  have h0 := hd.pre w os
  rw [← PySem.W.Fast.te15667345088766844465, ← PySem.W.Fast.te14364793385576792824, ← PySem.W.Fast.te11892475500146522536] at h0
  refine go_top h0 ?_
  have hb := hd.blk w os
  rw [← PySem.W.Fast.te14374325043358763698, ← PySem.W.Fast.te14364793385576792824] at hb
  refine piece_block hb ?_
  rw [show restOf hd.b hd.env hd.c (hd.pos 0 0 0 0) [topFrame (hd.pos 0 0 0 0)] = restOf (hd.b ++ []) hd.env hd.c (hd.pos 0 0 0 0) [topFrame (hd.pos 0 0 0 0)] by rw [List.append_nil]]
  refine piece_app (segRun_of hr) (piece_nil ?_)
  have hz := hd.fin w s'.abs
  rw [← PySem.W.Fast.te14082659384304107361, ← PySem.W.Fast.te14364793385576792824] at hz
  exact hz
theorem hd.left : LeftO PySem.Challenge.rw_on0022_01.row.prog hd.view_39 [] hd.xt hd.hook.obs hd.hook.val 4374 := left_run (boot_open (by kernel_rfl) (by decide +kernel) (fun s => by kernel_rfl)) hd.size
  (fun w os => hd.run w os) (by decide +kernel)
theorem hd.said0 : PySem.W.Fast.tw9446332074065402090 PySem.Challenge.rw_on0022_01 = true := by
  delta PySem.W.Fast.tw9446332074065402090
  repeat' (with_reducible refine Bool.and_eq_true_iff.mpr ⟨?_, ?_⟩)
  · delta PySem.W.Fast.tw17960256430627541270
    repeat' (with_reducible refine Bool.and_eq_true_iff.mpr ⟨?_, ?_⟩)
    all_goals (as_aux_lemma => kernel_rfl)
  all_goals (as_aux_lemma => kernel_rfl)
theorem hd.said : PySem.Challenge.rw_on0022_01.wellSaid = true := by rw [PySem.W.Fast.te9446332074065402090]; exact hd.said0
theorem hd {d : DefRec} (hdf : defOf hd.view_39 PySem.Challenge.rw_on0022_01.row.name = some (d, [])) (hp : PySem.Challenge.rw_on0022_01.row.prog.theDef PySem.Challenge.rw_on0022_01.row.name = some (d.params, d.body, d.scope)) (hk : kwWritten? d.params.kwonlyargs d.params.kw_defaults = some [])
    (walk : WalkO hd.view_39 [] (XL hd.view_39 []) hd.hook.says PySem.Challenge.rw_on0022_01.row.toRowW d [] fun f vs => PySem.call f vs) : PySem.Challenge.rw_on0022_01.Holds :=
  holds_law hd.said fun said => holds_open (q := hd.view_39) (loose := []) (Xt := hd.xt) (XP := XL hd.view_39 []) (Yf := hd.hook.obs) (Ya := hd.hook.val) (YP := hd.hook.says) (N := 4374) hd.left hd.hook.of hd.hook.keeps
    (fun s e => xl_of s (Bool.and_eq_true_iff.mp e).1) XL.keeps hdf hp hk (fun s e => recFacts_of (Bool.and_eq_true_iff.mp e).2) (by rfl) said (by decide +kernel) ⟨rfl, rfl, rfl, rfl, rfl, by decide +kernel⟩ (by w_witness2) walk
end
section
open PySem PySem.W PySem.Calls PyProof.Rows
noncomputable abbrev PG : Program := PySem.Challenge.rw_on0022_01.row.prog
noncomputable abbrev Cell := Addr × Obj
theorem wk {α : Type} {M : Model} {A : Around} {t : Sem α} {Q : α → Shared → Prop} {E : Value → Shared → Prop} {s : Shared} {D U : Nat} {fr : List Env}
    (hh : A.handled = none) (hf : A.frames = some fr) (hd : A.depth ≤ D) (hu : A.units ≤ U)
    (h : wpAny M { handled := none, depth := D, frames := some fr, guards := A.guards, units := U } t Q E s) : wpAny M A t Q E s :=
  fun Γ p hΓ => h Γ p ⟨by rw [hΓ.1, hh], Nat.le_trans hΓ.2.1 hd, fun l hl => hΓ.2.2.1 l (by rw [hf]; exact hl), hΓ.2.2.2.1, Nat.le_trans hΓ.2.2.2.2 hu⟩

/-- what a call of a def of the text's does, upon the ledger `pre` -/
noncomputable def CallSpec (D U : Nat) (w : World) (f : Addr) (args : List Value) (pre : List Cell) (Post : Value → List Cell → Prop) : Prop :=
  ∀ (gd : Option (List Code)) (cn : Str) (cs : Scope) (a : Addr) (ccd : Value) (cl : List (Str × Addr)) (outer : List Env) (A₀ : Around) (base h₀ : Heap) (L : Addr) (m : Str → Option Value) (s : Shared)
    (p : Program) (loose : List Str) (mean : ExcName → Option Value) (mg mb : Str → Option Value) (Q E : Value → Shared → Prop),
    Below A₀ base outer h₀ → Fr h₀ L s.heap m → (hd.heap_39 w.params).In h₀ → News h₀ L s.heap pre → Top p loose mean mg mb h₀ → cs.kind = .function →
    (∀ r new h' tk', Fr h₀ L h' m → News h₀ L h' new → Post r new → Q r { s with heap := h', toks := tk' }) →
    wpAny (model PG w) (ktrTop D U gd cn cs L a ccd cl outer) (call (.ref f) args) Q E s

theorem CallSpec.use {D U : Nat} {w : World} {f : Addr} {args : List Value} {pre : List Cell} {Post : Value → List Cell → Prop} (S : CallSpec D U w f args pre Post)
    {A : Around} {cn : Str} {cs : Scope} {a : Addr} {ccd : Value} {cl : List (Str × Addr)} {outer : List Env} {A₀ : Around} {base h₀ : Heap} {L : Addr} {m : Str → Option Value} {s : Shared}
    {p : Program} {loose : List Str} {mean : ExcName → Option Value} {mg mb : Str → Option Value} {Q E : Value → Shared → Prop}
    (hh : A.handled = none) (hf : A.frames = some (envX cn cs L a ccd cl :: outer)) (hdp : A.depth ≤ D) (hu : A.units ≤ U)
    (B : Below A₀ base outer h₀) (F : Fr h₀ L s.heap m) (X : (hd.heap_39 w.params).In h₀) (N : News h₀ L s.heap pre) (T : Top p loose mean mg mb h₀) (hk : cs.kind = .function)
    (ret : ∀ r new h' tk', Fr h₀ L h' m → News h₀ L h' new → Post r new → Q r { s with heap := h', toks := tk' }) : wpAny (model PG w) A (call (.ref f) args) Q E s :=
  wk hh hf hdp hu (S _ cn cs a ccd cl outer A₀ base h₀ L m s p loose mean mg mb Q E B F X N T hk ret)

theorem noMem {α : Type} {P : α → Prop} : ∀ x ∈ ([] : List α), P x := fun _ h => absurd h List.not_mem_nil
inductive Del (x : Cell) : List Cell → List Cell → Prop where
  | head {l : List Cell} : Del x (x :: l) l
  | tail {y : Cell} {l l' : List Cell} : Del x l l' → Del x (y :: l) (y :: l')
theorem Del.mem {x : Cell} {l l' : List Cell} (h : Del x l l') : x ∈ l := by induction h with | head => exact .head _ | tail _ ih => exact .tail _ ih
theorem Del.sub {x : Cell} {l l' : List Cell} (h : Del x l l') : ∀ p ∈ l', p ∈ l := by
  induction h with
  | head => exact fun _ h => .tail _ h
  | tail _ ih =>
    intro p hp
    rcases List.mem_cons.mp hp with rfl | hp
    · exact .head _
    · exact .tail _ (ih p hp)
theorem News.sub {h₀ h : Heap} {L : Addr} {l l' : List Cell} (N : News h₀ L h l) (s : ∀ p ∈ l', p ∈ l) : News h₀ L h l' := fun p hp => N p (s p hp)

set_option maxRecDepth 100000 in
theorem fill : (PySem.Challenge.rw_on0022_01.name = PySem.Challenge.rw_on0022_01.name) ∧ (hd.heap_39 = hd.heap_39) := by k_fill; exact ⟨rfl, rfl⟩

-- values
noncomputable def optV : Option Int → Tok → Value
  | some i, t => .int i t
  | none, _ => .none
noncomputable abbrev tupO (vs : List Value) (n : Nat) : Obj := { cls := .type "tuple", data := .seq vs.toArray n }
inductive All2 {α β : Type} (R : α → β → Prop) : List α → List β → Prop where
  | nil : All2 R [] []
  | cons {a : α} {b : β} {as : List α} {bs : List β} : R a b → All2 R as bs → All2 R (a :: as) (b :: bs)
theorem All2.length {α β : Type} {R : α → β → Prop} {as : List α} {bs : List β} (h : All2 R as bs) : as.length = bs.length := by
  induction h with
  | nil => rfl
  | cons _ _ ih => rw [List.length_cons, List.length_cons, ih]
theorem All2.get {α β : Type} {R : α → β → Prop} {as : List α} {bs : List β} (h : All2 R as bs) : ∀ {i : Nat} {a : α}, as[i]? = some a → ∃ b, bs[i]? = some b ∧ R a b := by
  induction h with
  | nil => intro i a h; simp at h
  | cons hr _ ih =>
    intro i a h
    cases i with
    | zero => simp at h; subst h; exact ⟨_, rfl, hr⟩
    | succ i => simpa using ih (by simpa using h)
theorem All2.mono {α β : Type} {R R' : α → β → Prop} {as : List α} {bs : List β} (h : All2 R as bs) (hr : ∀ a b, R a b → R' a b) : All2 R' as bs := by
  induction h with
  | nil => exact .nil
  | cons x _ ih => exact .cons (hr _ _ x) ih

/-- the dict of PlainChannels -/
noncomputable abbrev pEs (k : Nat → Int) (t : Nat → Tok) (ch wl : Addr) : List DictEntry :=
  [⟨k 0, .str (Str.ofString "channels") (t 0), .ref ch⟩, ⟨k 1, .str (Str.ofString "waiting") (t 1), .ref wl⟩]
end
section
open PySem PySem.W PySem.Calls PyProof.Rows
theorem item_led {prog : Program} {w : World} {A : Around} {E : Value → Shared → Prop} {s : Shared} {h₀ : Heap} {L a : Addr} {news : List Cell} {value slice : Expr} {l : List Value} {n : Nat} {k : Int} {u : Tok} {j : Nat} {x : Value} {Q : Value → Shared → Prop}
    (N : News h₀ L s.heap news) (hm : (a, tupO l n) ∈ news) (hlo : -(2 ^ 63) ≤ k) (hhi : k < 2 ^ 63) (hj : seqIndex? k l.length = some j) (hx : l[j]? = some x) (h : Q x s)
    (hs : subscripted slice false (.ref a) (.int k u) = operate [.ref a, .int k u] (getItem (.ref a) (.int k u)) := by with_unfolding_all rfl) :
    wpAny (model prog w) A (subscriptTail value slice (.ref a) (.int k u)) Q E s := item_tupleT (News.isTup N hm) hlo hhi hj hx h hs

/-- no tuple -/
noncomputable def NoTup (o : Obj) : Prop := ∀ vs n, o ≠ tupO vs n
theorem noTup_cls {o : Obj} {c : String} (h : o.cls = .type c) (hc : c ≠ "tuple") : NoTup o := fun us k e => by
  rw [e] at h
  have h2 : Value.type "tuple" = Value.type c := h
  injection h2 with h3
  exact hc h3.symm
/-- an iterator, with what a loop does behind each step of it for its target -/
structure Itr (prog : Program) (w : World) (A : Around) (I : Addr) (target : Expr) (fp wr : List Addr) (n : Nat) (P : Nat → Value → Heap → Heap → Prop) (St : Nat → Heap → Prop) : Prop where
  sub : ∀ b ∈ wr, b ∈ fp
  has : ∀ i h, St i h → ∀ b ∈ wr, ∃ o, h.get? b = some o
  nt : ∀ i h, St i h → ∀ b ∈ wr, ∀ o, h.get? b = some o → NoTup o
  frame : ∀ i h h', St i h → (∀ b ∈ fp, ∀ o, h.get? b = some o → h'.get? b = some o) → St i h'
  item : ∀ i (s : Shared) (Q : Value → Shared → Prop) (E : Value → Shared → Prop), i < n → St i s.heap →
    (∀ v h' tk, P i v s.heap h' → St (i + 1) h' → (∀ b o, b ∉ wr → s.heap.get? b = some o → h'.get? b = some o) → Q v { s with heap := h', toks := tk }) →
    wpAny (model prog w) A (pyNext (.ref I)) (fun r s₁ => match r with
      | none => False
      | some v => wpAny (model prog w) A (letOwnedTupleGo target (.ref I) v) (fun _ s₂ => Q v s₂) E s₁) E s
  done : ∀ (s : Shared) (Q : Shared → Prop) (E : Value → Shared → Prop), St n s.heap →
    (∀ h' tk, (∀ b o, b ∉ wr → s.heap.get? b = some o → h'.get? b = some o) → Q { s with heap := h', toks := tk }) →
    wpAny (model prog w) A (pyNext (.ref I)) (fun r s₁ => r = none ∧ Q s₁) E s
  self : ∀ i (s : Shared) (Q : Value → Shared → Prop) (E : Value → Shared → Prop), St i s.heap → Q (.ref I) s → wpAny (model prog w) A (pyIter (.ref I)) Q E s

theorem letGo_list {M : Model} {A : Around} {E : Value → Shared → Prop} {s : Shared} {target : Expr} {I ax : Addr} {i : Nat} {v : Value} {Q : Unit → Shared → Prop} (hit : s.heap.IsListIter I ax i) (h : Q () s) :
    wpAny M A (letOwnedTupleGo target (.ref I) v) Q E s := by
  obtain ⟨o, ho, hc, hd⟩ := hit
  cases target <;> first
    | exact wpAny_pure h
    | (cases v <;> first
        | exact wpAny_pure h
        | (refine wpAny_bind (m := load I) (wpAny_load ho ?_)
           rw [hc, hd]
           exact wpAny_pure h))

theorem Itr.list {prog : Program} {w : World} {A : Around} {target : Expr} (hh : A.handled = none) (I ax : Addr) (hne : ax ≠ I) (items : Array Value) :
    Itr prog w A I target [I, ax] [I] items.size (fun i v _ _ => items[i]? = some v) (fun i h => h.IsListIter I ax i ∧ h.IsList ax items) where
  sub := fun b hb => by simp at hb; simp [hb]
  has := fun _ _ st b hb => by rw [List.mem_singleton.mp hb]; obtain ⟨⟨o, ho, _⟩, _⟩ := st; exact ⟨o, ho⟩
  nt := fun _ _ st b hb o ho => by
    rw [List.mem_singleton.mp hb] at ho
    obtain ⟨⟨o', ho', hc, _⟩, _⟩ := st
    rw [ho'] at ho; cases ho
    exact noTup_cls hc (by decide)
  frame := fun _ _ _ st hk => ⟨st.1.at fun o e => hk I (by simp) o e, st.2.at fun o e => hk ax (by simp) o e⟩
  item := fun i s Q E hi st hQ => by
    refine wpAny_pyNext_list_item st.1 st.2 (x := items[i]) (by simp [hi]) fun h' hit' hs' => ?_
    exact letGo_list hit' (hQ _ h' s.toks (by simp [hi]) ⟨hit', st.2.extBut hs'.extBut hne⟩ fun b o hb e => hs'.extBut b o (fun h => hb (by simp [h])) e)
  done := fun s Q E st hQ => wpAny_pyNext_list_end hh st.1 st.2 (by simp) fun h' he' => ⟨rfl, hQ h' s.toks fun b o hb e => he' b o (fun h => hb (by simp [h])) e⟩
  self := fun _ _ _ _ st hQ => wpAny_pyIter_listiter st.1 hQ

theorem Itr.ofWalks {prog : Program} {w : World} {A : Around} {I : Addr} {x : Str} {px : Pos} {fp wr : List Addr} {n : Nat} {P : Nat → Value → Prop} {St : Nat → Heap → Prop} (W : Walks prog w A I fp wr n P St) (ho : ∀ i h, St i h → ∀ b ∈ wr, ∃ o, h.get? b = some o) (hnt : ∀ i h, St i h → ∀ b ∈ wr, ∀ o, h.get? b = some o → NoTup o) :
    Itr prog w A I (.Name x px) fp wr n (fun i v _ _ => P i v) St where
  sub := W.sub
  has := ho
  nt := hnt
  frame := W.frame
  item := fun i s Q E hi st hQ => W.item i s _ E hi st fun v h' tk hP st' hk => wpAny_pure (hQ v h' tk hP st' hk)
  done := fun s Q E st hQ => W.done s _ E st fun h' tk hk => ⟨rfl, hQ h' tk hk⟩
  self := W.self

theorem Itr.enum {prog : Program} {w : World} {A : Around} {elts : List Expr} {k1 : Nat} {pt : Pos} {e it l : Addr} {items : Array Value} (hh : A.handled = none) (hei : e ≠ it) (hle : l ≠ e) (hli : l ≠ it) :
    Itr prog w A e (.Tuple elts k1 pt) [e, it, l] [e, it] items.size
      (fun i v h₁ h₂ => ∃ T x tk, v = .ref T ∧ h₁.objs.size ≤ T ∧ h₂.get? T = some (tupO [.int (i : Nat) tk, x] 0) ∧ items[i]? = some x)
      (fun i h => (∃ old, IsEnum h e it ((i : Nat) : Int) old) ∧ h.IsListIter it l i ∧ h.IsList l items) where
  sub := fun b hb => by simp at hb; rcases hb with rfl | rfl <;> simp
  has := fun _ _ st b hb => by
    obtain ⟨⟨old, he⟩, ⟨o, ho, _⟩, _⟩ := st
    simp at hb
    rcases hb with rfl | rfl
    · exact ⟨_, he⟩
    · exact ⟨o, ho⟩
  nt := fun _ _ st b hb o ho => by
    obtain ⟨⟨old, he⟩, ⟨o', ho', hc, _⟩, _⟩ := st
    simp at hb
    rcases hb with rfl | rfl
    · rw [he] at ho; cases ho
      exact noTup_cls rfl (by decide)
    · rw [ho'] at ho; cases ho
      exact noTup_cls hc (by decide)
  frame := fun _ _ _ st hk => by
    obtain ⟨⟨old, he⟩, h1, h2⟩ := st
    exact ⟨⟨old, hk e (by simp) _ he⟩, h1.at fun o q => hk it (by simp) o q, h2.at fun o q => hk l (by simp) o q⟩
  item := fun i s Q E hi st hQ => by
    obtain ⟨⟨old, he⟩, hit, hl⟩ := st
    have heH : e < s.heap.objs.size := Heap.lt_size he
    obtain ⟨oi, hoi, _⟩ := id hit
    have hiH : it < s.heap.objs.size := Heap.lt_size hoi
    refine wpAny_pyNext_enum_item he hit hl (x := items[i]) (by simp [hi]) hei fun h₁ heo hit₁ ht₁ hz₁ hk₁ => ?_
    refine wpAny_letOwnedTupleGo_enum heo fun h₂ he₂ hs₂ => ?_
    replace hs₂ : Heap.SameBut e h₁ h₂ := hs₂
    refine hQ _ h₂ _ ⟨s.heap.objs.size, items[i], _, rfl, Nat.le_refl _, (hs₂.2 _ (Nat.ne_of_gt heH)).trans ht₁, by simp [hi]⟩ ⟨⟨items[i], ?_⟩, hit₁.extBut hs₂.extBut (Ne.symm hei), ?_⟩ ?_
    · have : ((i + 1 : Nat) : Int) = (i : Int) + 1 := by push_cast; rfl
      rw [this]; exact he₂
    · exact (hl.at fun o x => hk₁ l o hle hli x).extBut hs₂.extBut hle
    · intro b o hb x
      simp at hb
      exact hs₂.extBut b o hb.1 (hk₁ b o hb.1 hb.2 x)
  done := fun s Q E st hQ => by
    obtain ⟨⟨old, he⟩, hit, hl⟩ := st
    refine wpAny_pyNext_enum_end hh he hit hl (by simp) fun h₁ he₁ => ⟨rfl, hQ h₁ _ fun b o hb x => he₁ b o (fun q => hb (by simp [q])) x⟩
  self := fun _ s Q E st hQ => by
    obtain ⟨⟨old, he⟩, hit, hl⟩ := st
    exact wpAny_pyIter_enum he hQ

section
variable {prog : Program} {w : World} {A : Around} {E : Value → Shared → Prop} {s : Shared} {env : Env} {h₀ : Heap}
noncomputable def cellsAt (h : Heap) (wr : List Addr) : List Cell := wr.filterMap fun b => (h.get? b).map fun o => (b, o)
theorem mem_cellsAt {h : Heap} {wr : List Addr} {b : Addr} {o : Obj} (hb : b ∈ wr) (ho : h.get? b = some o) : (b, o) ∈ cellsAt h wr := List.mem_filterMap.mpr ⟨b, hb, by simp [ho]⟩
theorem of_cellsAt {h : Heap} {wr : List Addr} {p : Cell} (hp : p ∈ cellsAt h wr) : p.1 ∈ wr ∧ h.get? p.1 = some p.2 := by
  obtain ⟨b, hb, e⟩ := List.mem_filterMap.mp hp
  obtain ⟨o, ho, rfl⟩ := Option.map_eq_some_iff.mp e
  exact ⟨hb, ho⟩

inductive FInv (h₀ : Heap) (L : Addr) (St : Nat → Heap → Prop) (wr : List Addr) (fix : List Cell) (J : Nat → (Str → Option Value) → List Cell → Prop) (n : Nat) (s : Shared) : Nat → Shared → Prop where
  | mk (h' : Heap) (tk : Nat) (m' : Str → Option Value) (led' : List Cell) (i : Nat) (h1 : St i h') (h2 : Fr h₀ L h' m') (h3 : News h₀ L h' led') (h4 : ∀ p ∈ led', p.1 ∉ wr) (h5 : ∀ p ∈ fix, p ∈ led') (h6 : J i m' led') (h7 : i ≤ n) : FInv h₀ L St wr fix J n s (n + 1 - i) { s with heap := h', toks := tk }
theorem for_itr {R : Result → Shared → Prop} {target : Expr} {body : List Stmt} {I : Addr} {fp wr : List Addr} {n : Nat} {P : Nat → Value → Heap → Heap → Prop} {St : Nat → Heap → Prop} {m : Str → Option Value} {led : List Cell}
    (fix : List Cell) (J : Nat → (Str → Option Value) → List Cell → Prop)
    (W : Itr prog w A I target fp wr n P St) (hLf : env.locals ∉ fp) (hwr : ∀ b ∈ wr, h₀.get? b = none) (hfp : ∀ b ∈ fp, b ∈ wr ∨ ∃ o, (b, o) ∈ fix) (hfix : ∀ p ∈ fix, p ∈ led) (hnw : ∀ p ∈ led, p.1 ∉ wr)
    (hst : St 0 s.heap) (F : Fr h₀ env.locals s.heap m) (N : News h₀ env.locals s.heap led) (h0 : J 0 m led)
    (step : ∀ i v m₁ led₁ own hp h tk, i < n → P i v hp h → (∀ p ∈ led₁ ++ own, p.1 < hp.objs.size) → env.locals < hp.objs.size → h₀.objs.size ≤ hp.objs.size → J i m₁ led₁ → (∀ p ∈ fix, p ∈ led₁) → OwnOff own (led₁.map (·.1)) → (∀ p ∈ own, NoTup p.2) → Fr h₀ env.locals h m₁ → News h₀ env.locals h (led₁ ++ own) →
      wpAny (model prog w) A (assign target env v) (fun _ s₂ => wpAny (model prog w) A (execs body env) (InvPostG h₀ env.locals (fun m' nx => (∀ p ∈ fix, p ∈ nx) ∧ J (i + 1) m' nx) own { s with heap := h, toks := tk } (fun f s' => R (.ok f) s'))
        (notedBy (model prog w) A env fun e s' => R (.error e) s') s₂) (notedBy (model prog w) A env fun e s' => R (.error e) s') { s with heap := h, toks := tk })
    (hR : ∀ h' tk m' led', Fr h₀ env.locals h' m' → News h₀ env.locals h' led' → J n m' led' → R (.ok .next) { s with heap := h', toks := tk }) :
    codeAny (model prog w) A (.forLoop target (.ref I) body [] env) R s := by
  have hLw : env.locals ∉ wr := fun h => hLf (W.sub _ h)
  have old : ∀ b o, h₀.get? b = some o → b ∉ wr := fun b o e hb => by rw [hwr b hb] at e; cases e
  let Inv : Nat → Shared → Prop := FInv h₀ env.locals St wr fix J n s
  refine codeAny_forLoop_any Inv ?_ (n + 1)
    ⟨s.heap, s.toks, m, led, 0, hst, F, N, hnw, hfix, h0, Nat.zero_le _⟩
  rintro k s' ⟨H, tk, m', led', i, hst', F', N', hnw', hfix', hJ, hi⟩
  have next : ∀ h₁ : Heap, (∀ b o, b ∉ wr → H.get? b = some o → h₁.get? b = some o) → Fr h₀ env.locals h₁ m' ∧ News h₀ env.locals h₁ led' := fun h₁ hk₁ =>
    ⟨⟨F'.ns.at' fun o e => hk₁ _ o hLw e, fun b o e => hk₁ b o (old b o e) (F'.keep b o e), F'.above⟩, fun p hp => ⟨hk₁ _ _ (hnw' p hp) (N' p hp).1, (N' p hp).2⟩⟩
  by_cases hlt : i < n
  · refine wpAny_mono (W.item i _ (fun v s₂ => wpAny (model prog w) A (assign target env v) (fun _ s₂ => wpAny (model prog w) A (execs body env) (fun f s₃ => match f with
            | .next | .cont => ∃ m, m < n + 1 - i ∧ Inv m s₃
            | .brk => R (.ok .next) s₃
            | .ret v => R (.ok (.ret v)) s₃) (notedBy (model prog w) A env fun e s' => R (.error e) s') s₂) (notedBy (model prog w) A env fun e s' => R (.error e) s') s₂) _ hlt hst' ?_) (fun r s₁ h₁ => ?_) fun _ _ e => e
    · intro v h₁ tk₁ hP hst₁ hk₁
      obtain ⟨F₁, N₁⟩ := next h₁ hk₁
      have Nown : News h₀ env.locals h₁ (cellsAt h₁ wr) := fun p hp => ⟨(of_cellsAt hp).2, fun q => hLw (q ▸ (of_cellsAt hp).1), hwr _ (of_cellsAt hp).1⟩
      have hoff : OwnOff (cellsAt h₁ wr) (led'.map (·.1)) := by
        intro p hp b hb e
        obtain ⟨q, hq, rfl⟩ := List.mem_map.mp hb
        exact hnw' q hq (e ▸ (of_cellsAt hp).1)
      have hltp : ∀ p ∈ led' ++ cellsAt h₁ wr, p.1 < H.objs.size := by
        intro p hp
        rcases List.mem_append.mp hp with hp | hp
        · exact Heap.lt_size (N' p hp).1
        · obtain ⟨o, ho⟩ := W.has _ _ hst' _ (of_cellsAt hp).1
          exact Heap.lt_size ho
      have Nall : News h₀ env.locals h₁ (led' ++ cellsAt h₁ wr) := fun p hp => (List.mem_append.mp hp).elim (N₁ p) (Nown p)
      have hbs : h₀.objs.size ≤ H.objs.size := Nat.le_trans F'.above (Nat.le_of_lt F'.ns.lt)
      refine wpAny_mono (step i v m' led' _ H h₁ tk₁ hlt hP hltp F'.ns.lt hbs hJ hfix' hoff (fun p hp => W.nt _ _ hst₁ _ (of_cellsAt hp).1 _ (of_cellsAt hp).2) F₁ Nall) (fun _ s₂ h₂ => wpAny_mono h₂ (fun f s₃ p => ?_) fun _ _ e => e) fun _ _ e => e
      have fin : InvEndG h₀ env.locals (fun m' nx => (∀ p ∈ fix, p ∈ nx) ∧ J (i + 1) m' nx) (cellsAt h₁ wr) { s with heap := h₁, toks := tk₁ } s₃ →
          ∃ m, m < n + 1 - i ∧ Inv m s₃ := by
        rintro ⟨h₄, tk₄, m₄, news₄, nx, rfl, F₄, N₄, hn, ho, ha, hf, hJ'⟩
        refine ⟨n + 1 - (i + 1), Nat.sub_lt_sub_left (Nat.lt_succ_of_lt hlt) (Nat.lt_succ_self i), h₄, tk₄, m₄, nx, i + 1, W.frame _ _ _ hst₁ fun b hb o e => ?_, F₄, fun p hp => N₄ p (hn p hp), fun p hp hq => ?_, hf, hJ', hlt⟩
        · rcases hfp b hb with hb | ⟨o', ho'⟩
          · exact (N₄ _ (ho _ (mem_cellsAt hb e))).1
          · have e1 : h₁.get? b = some o' := (N₁ _ (hfix' _ ho')).1
            rw [e] at e1
            cases e1
            exact (N₄ _ (hn _ (hf _ ho'))).1
        · obtain ⟨o, hbo⟩ := W.has _ _ hst₁ _ hq
          exact ha _ (mem_cellsAt hq hbo) p.1 (List.mem_map.mpr ⟨p, hp, rfl⟩) rfl
      cases f with
      | ret v => exact p
      | brk => exact p
      | next => exact fin p
      | cont => exact fin p
    · cases r with
      | none => exact h₁.elim
      | some v => exact h₁
  · have hin : i = n := Nat.le_antisymm hi (Nat.le_of_not_lt hlt)
    subst hin
    refine wpAny_mono (W.done _ (fun s₁ => wpAny (model prog w) A (execs [] env) (fun f s₃ => R (.ok f) s₃) (notedBy (model prog w) A env fun e s' => R (.error e) s') s₁) _ hst' fun h₁ tk₁ hk₁ => wpAny_execs_nil ?_) (fun r s₁ h₁ => ?_) fun _ _ e => e
    · obtain ⟨F₁, N₁⟩ := next h₁ hk₁
      exact hR h₁ tk₁ m' led' F₁ N₁ hJ
    · obtain ⟨rfl, h₁⟩ := h₁
      exact h₁

/-- what a for statement wants of its iterator -/
inductive ForAt (prog : Program) (w : World) (A : Around) (h₀ : Heap) (env : Env) (target : Expr) (body : List Stmt) (Q : Flow → Shared → Prop) (E : Value → Shared → Prop) (it : Value) (s₂ : Shared) : Prop where
  | mk (I : Addr) (fp wr : List Addr) (n : Nat) (P : Nat → Value → Heap → Heap → Prop) (St : Nat → Heap → Prop) (m : Str → Option Value) (led : List Cell) (fix : List Cell) (J : Nat → (Str → Option Value) → List Cell → Prop) (h1 : it = .ref I) (h2 : Itr prog w A I target fp wr n P St) (h3 : env.locals ∉ fp) (h4 : ∀ b ∈ wr, h₀.get? b = none) (h5 : ∀ b ∈ fp, b ∈ wr ∨ ∃ o, (b, o) ∈ fix) (h6 : ∀ p ∈ fix, p ∈ led) (h7 : ∀ p ∈ led, p.1 ∉ wr) (h8 : St 0 s₂.heap) (h9 : Fr h₀ env.locals s₂.heap m) (h10 : News h₀ env.locals s₂.heap led) (h11 : J 0 m led) (h12 : ∀ i v m₁ led₁ own hp h tk, i < n → P i v hp h → (∀ p ∈ led₁ ++ own, p.1 < hp.objs.size) → env.locals < hp.objs.size → h₀.objs.size ≤ hp.objs.size → J i m₁ led₁ → (∀ p ∈ fix, p ∈ led₁) → OwnOff own (led₁.map (·.1)) → (∀ p ∈ own, NoTup p.2) → Fr h₀ env.locals h m₁ → News h₀ env.locals h (led₁ ++ own) →
      wpAny (model prog w) A (assign target env v) (fun _ s₃ => wpAny (model prog w) A (execs body env) (InvPostG h₀ env.locals (fun m' nx => (∀ p ∈ fix, p ∈ nx) ∧ J (i + 1) m' nx) own { s₂ with heap := h, toks := tk } Q) E s₃) E { s₂ with heap := h, toks := tk }) (h13 : ∀ h' tk m' led', Fr h₀ env.locals h' m' → News h₀ env.locals h' led' → J n m' led' → Q .next { s₂ with heap := h', toks := tk }) : ForAt prog w A h₀ env target body Q E it s₂

theorem For_at {Q : Flow → Shared → Prop} {target : Expr} {pos : Pos} {iter : Expr} {body : List Stmt} (h₀ : Heap)
    (h : wpAny (model prog w) A (eval iter env) (fun xv s₁ => wpAny (model prog w) A (pyIter xv) (fun it s₂ => ForAt prog w A h₀ env target body Q E it s₂) E s₁) E s)
    (hs : ∀ x, foldedSetIterable iter env x = pure x := by intro _; rfl)
    (hE : PassesOwn (model prog w) A env E := by passes_own) :
    wpAny (model prog w) A (exec (.For target iter body [] pos) env) Q E s := by
  refine wpAny_For (wpAny_mono h (fun xv s₁ h₁ => wpAny_mono h₁ (fun it s₂ h₂ => ?_) fun _ _ e => e) fun _ _ e => e) hs
  obtain ⟨I, fp, wr, n, P, St, m, led, fix, J, rfl, W, hLf, hwr, hfp, hfix, hnw, hst, F, N, h0, step, hQ⟩ := h₂
  refine for_itr (R := fun r s' => match r with | .ok f => Q f s' | .error e => cameBackBy (model prog w) A env E e s') fix J W hLf hwr hfp hfix hnw hst F N h0 ?_ hQ
  intro i v m₁ led₁ own hp h tk a1 a2 a3 a4 a5 a6 a7 a8 a9 a10 a11
  exact wpAny_passesOwn hE (wpAny_mono (step i v m₁ led₁ own hp h tk a1 a2 a3 a4 a5 a6 a7 a8 a9 a10 a11) (fun _ _ h => wpAny_passesOwn hE h) fun _ _ e => e)

end
end
section
open PySem PySem.W PySem.Calls PyProof.Rows
open PyProof.Rows.LCg (NsObj)
theorem NsObj_of {h : Heap} {a : Addr} {m : Str → Option Value} (x : h.Ns a m) : ∃ o, h.get? a = some o ∧ NsObj o m := LCg.ns_obj x
theorem neA {a b : Nat} (h : a ≠ b) : @Ne Addr a b := h
theorem ltA {a b : Nat} (h : a < b) : @LT.lt Addr _ a b := h
theorem ltN' {a b : Addr} (h : a < b) : @LT.lt Nat _ a b := h
section
variable {prog : Program} {w : World} {A : Around} {E : Value → Shared → Prop} {s : Shared} {env : Env} {h₀ : Heap} {R : Result → Shared → Prop}

theorem compLoop_any {elt target iter : Expr} {ifs : List Expr} {scope : Scope} {pos : Pos} {it acc : Value} {env : Env} (I : Nat → Shared → Prop)
    (turn : ∀ n s, I n s → wpAny (model prog w) A (pyNext it) (fun r s₁ => match r with
      | none => R (.ok .next) s₁
      | some v => wpAny (model prog w) A (letOwnedTupleGo target it v) (fun _ s₁' => wpAny (model prog w) A (assign target env v) (fun _ s₂ =>
          wpAny (model prog w) A (forIn ifs true fun c r => if r = true then do let ok ← isTrue c env (eval c env); pure (ForInStep.yield ok) else pure (ForInStep.yield r)) (fun ok s₃ =>
            if ok = true then wpAny (model prog w) A (eval elt env) (fun x s₄ =>
              wpAny (model prog w) A (call (.builtin "list.append") [acc, x]) (fun _ s₅ => ∃ m, m < n ∧ I m s₅) (notedBy (model prog w) A env fun e s' => R (.error e) s') s₄) (notedBy (model prog w) A env fun e s' => R (.error e) s') s₃
            else ∃ m, m < n ∧ I m s₃) (notedBy (model prog w) A env fun e s' => R (.error e) s') s₂) (notedBy (model prog w) A env fun e s' => R (.error e) s') s₁') (notedBy (model prog w) A env fun e s' => R (.error e) s') s₁) (notedBy (model prog w) A env fun e s' => R (.error e) s') s)
    (n : Nat) (h : I n s) :
    codeAny (model prog w) A (.compLoop (.ListComp elt [⟨target, iter, ifs, 0⟩] scope pos) 0 it acc env) R s := by
  refine codeAny_loop rfl I (fun n s hI => ?_) n h
  show wpAny _ A ((compTurn (.ListComp elt [⟨target, iter, ifs, 0⟩] scope pos) 0 it acc env).onRaise (fun x => do noteFrame x env; theTreesLotGoes x)) _ _ s
  refine wpAny_noted ?_
  rw [compTurn_list]
  refine wpAny_bind (wpAny_standAt (wpAny_bind (wpAny_mono (turn n s hI) (fun r s₁ h₁ => ?_) fun _ _ h' => h')))
  cases r with
  | none => exact wpAny_pure h₁
  | some v =>
    refine wpAny_bind (wpAny_mono h₁ (fun _ s₁' h₁' => ?_) fun _ _ h' => h')
    refine wpAny_bind (wpAny_mono h₁' (fun _ s₂ h₂ => wpAny_bind (wpAny_mono h₂ (fun ok s₃ h₃ => ?_) fun _ _ h' => h')) fun _ _ h' => h')
    cases ok with
    | false => exact wpAny_pure ⟨rfl, h₃⟩
    | true =>
      exact wpAny_bind (wpAny_bind (wpAny_mono h₃ (fun x s₄ h₄ => wpAny_bind (wpAny_mono h₄ (fun _ s₅ h₅ => wpAny_pure (wpAny_pure ⟨rfl, h₅⟩)) fun _ _ h' => h')) fun _ _ h' => h'))

inductive CEnd_out (h₀ : Heap) (L : Addr) (m : Str → Option Value) (C : Addr) (fix : List Cell) (own : List Cell) (K : List Cell → Prop) (s₁ : Shared) (s₂ : Shared) : Prop where
  | mk (h' : _) (tk : _) (led' : _) (oC' : _) (mC' : _) (h1 : s₂ = { s₁ with heap := h', toks := tk }) (h2 : Fr h₀ L h' m) (h3 : News h₀ L h' (led' ++ (C, oC') :: own)) (h4 : NsObj oC' mC') (h5 : OwnOff ((C, oC') :: own) (led'.map (·.1))) (h6 : (∀ p ∈ fix, p ∈ led')) (h7 : K led') : CEnd_out h₀ L m C fix own K s₁ s₂
structure CEnd (h₀ : Heap) (L : Addr) (m : Str → Option Value) (C : Addr) (fix own : List Cell) (K : List Cell → Prop) (s₁ s₂ : Shared) : Prop where
  out : CEnd_out h₀ L m C fix own K s₁ s₂
theorem CEnd.intro {L : Addr} {m : Str → Option Value} {C : Addr} {fix own : List Cell} {K : List Cell → Prop} {s₁ : Shared} {h' : Heap} {tk : Nat} {led' news' : List Cell} {oC' : Obj} {mC' : Str → Option Value} (F : Fr h₀ L h' m) (N : News h₀ L h' news') (hs : ∀ p ∈ led' ++ (C, oC') :: own, p ∈ news')
    (hn : NsObj oC' mC') (ho : OwnOff ((C, oC') :: own) (led'.map (·.1))) (hf : ∀ p ∈ fix, p ∈ led') (hK : K led') : CEnd h₀ L m C fix own K s₁ { s₁ with heap := h', toks := tk } := ⟨h', tk, led', oC', mC', rfl, F, News.sub N hs, hn, ho, hf, hK⟩

/-- one turn of a comprehension -/
noncomputable def CTurn (prog : Program) (w : World) (A : Around) (h₀ : Heap) (L : Addr) (m : Str → Option Value) (cenv : Env) (target : Expr) (ifs : List Expr) (elt : Expr) (C : Addr) (fix own : List Cell) (J : List Value → List Cell → Prop) (ys : List Value) (v : Value) (s : Shared) : Prop :=
  ∀ E', wpAny (model prog w) A (assign target cenv v) (fun _ s₃ => wpAny (model prog w) A (forIn ifs true fun c r => if r = true then do let ok ← isTrue c cenv (eval c cenv); pure (ForInStep.yield ok) else pure (ForInStep.yield r))
    (fun ok s₄ => if ok = true then wpAny (model prog w) A (eval elt cenv) (fun y s₅ => CEnd h₀ L m C fix own (J (ys ++ [y])) s s₅) E' s₄ else CEnd h₀ L m C fix own (J ys) s s₄) E' s₃) E' s

inductive CInv (h₀ : Heap) (L : Addr) (m : Str → Option Value) (St : Nat → Heap → Prop) (wr : List Addr) (fix : List Cell) (J : Nat → List Value → List Cell → Prop) (D C : Addr) (n : Nat) (s : Shared) : Nat → Shared → Prop where
  | mk (h' : Heap) (tk : Nat) (led' : List Cell) (i : Nat) (ys : Array Value) (mC : Str → Option Value) (h1 : St i h') (h2 : Fr h₀ L h' m) (h3 : News h₀ L h' led') (h4 : ∀ p ∈ led', p.1 ∉ wr ∧ p.1 ≠ D ∧ p.1 ≠ C) (h5 : ∀ p ∈ fix, p ∈ led') (h6 : h'.PlainList D ys) (h7 : h'.Ns C mC) (h8 : J i ys.toList led') (h9 : ys.size ≤ i) (h10 : i ≤ n) :
    CInv h₀ L m St wr fix J D C n s (n + 1 - i) { s with heap := h', toks := tk }
theorem comp_itr {target elt iter : Expr} {ifs : List Expr} {scope : Scope} {cl : List (Str × Addr)} {pos : Pos} {I L : Addr} {fp wr : List Addr} {n : Nat} {P : Nat → Value → Heap → Heap → Prop} {St : Nat → Heap → Prop} {m : Str → Option Value} {led : List Cell}
    {RR : Value → Addr → Result → Shared → Prop} (fix : List Cell) (J : Nat → List Value → List Cell → Prop)
    (W : Itr prog w A I target fp wr n P St) (hsz : n ≤ sizeLine) (hcell : ∀ y ∈ scope.names, y.2 ≠ .cell) (hkind : scope.kind = .function)
    (hLf : L ∉ fp) (hwr : ∀ b ∈ wr, h₀.get? b = none) (hfp : ∀ b ∈ fp, b ∈ wr ∨ ∃ o, (b, o) ∈ fix) (hfix : ∀ p ∈ fix, p ∈ led) (hnw : ∀ p ∈ led, p.1 ∉ wr) (hflt : ∀ b ∈ fp, b < s.heap.objs.size)
    (hst : St 0 s.heap) (F : Fr h₀ L s.heap m) (N : News h₀ L s.heap led) (h0 : J 0 [] led)
    (step : ∀ C i v ys led₁ own hp h tk oC mC, i < n → P i v hp h → (∀ p ∈ led₁ ++ (C, oC) :: own, p.1 < hp.objs.size) → L < hp.objs.size → h₀.objs.size ≤ hp.objs.size → J i ys led₁ → ys.length ≤ i → (∀ p ∈ fix, p ∈ led₁) → OwnOff ((C, oC) :: own) (led₁.map (·.1)) → (∀ p ∈ own, p.1 ≠ C) → NsObj oC mC → Fr h₀ L h m → News h₀ L h (led₁ ++ (C, oC) :: own) →
      CTurn prog w A h₀ L m (compEnvC scope cl C env) target ifs elt C fix own (J (i + 1)) ys v { s with heap := h, toks := tk })
    (hRR : ∀ D C h' tk mC ys c led', D ≠ C → h'.Ns C mC → h₀.get? C = none → L ≠ C → (∀ p ∈ led', p.1 ≠ C) → Fr h₀ L h' m → News h₀ L h' ((D, listOf ys c) :: led') → (∀ p ∈ led', p.1 ≠ D) → J n ys.toList led' → RR (.ref D) C (.ok .next) { s with heap := h', toks := tk }) :
    wpAny (model prog w) A (newList []) (fun acc s₃ => wpAny (model prog w) A (newFunctionEnv scope env.globals cl [] env.qual none .none (some env)) (fun cenv s₄ =>
      codeAny (model prog w) A (.compStart (.ListComp elt [⟨target, iter, ifs, 0⟩] scope pos) 0 (.ref I) acc { cenv with scope := relabel scope env }) (RR acc cenv.locals) s₄) E s₃) E s := by
  refine wpAny_newObj_type (wpAny_newFunctionEnv hcell (by intro y hy; simp at hy) (fun h₁ hns₁ hsb₁ => ?_) hkind)
  dsimp only at hns₁ hsb₁ ⊢
  generalize hH2 : s.heap.push { cls := .type "list", dict := none, data := .seq ([] : List Value).toArray } = H2 at hns₁ hsb₁ ⊢
  have hC : H2.objs.size = s.heap.objs.size + 1 := by rw [← hH2, Heap.size_push]
  generalize hCe : H2.objs.size = C at *
  generalize hDe : s.heap.objs.size = D at *
  have hlDC : @LT.lt Nat _ D C := by rw [hC]; exact Nat.lt_succ_self _
  have hDC : @Ne Nat D C := Nat.ne_of_lt hlDC
  have old : ∀ b o, s.heap.get? b = some o → h₁.get? b = some o := fun b o e => by
    have hb : @LT.lt Nat _ b D := hDe ▸ Heap.lt_size e
    exact hsb₁.extBut b o (neA (Nat.ne_of_lt (Nat.lt_trans hb hlDC))) (Heap.get?_push_of_some _ (hH2 ▸ Heap.get?_push_of_some _ e))
  have hacc : h₁.PlainList D #[] := ⟨0, hsb₁.extBut _ _ hDC (Heap.get?_push_of_some _ (hH2 ▸ hDe ▸ Heap.get?_push_size _ rfl))⟩
  have hst₁ : St 0 h₁ := W.frame _ _ _ hst fun b _ o e => old b o e
  have hlt : ∀ b o, s.heap.get? b = some o → @LT.lt Nat _ b D := fun b o e => hDe ▸ Heap.lt_size e
  have hLD : @LT.lt Nat _ L D := hDe ▸ F.ns.lt
  have h0D : h₀.get? D = none := by
    cases q : h₀.get? D with
    | none => rfl
    | some o => exact absurd (hlt _ _ (F.keep _ _ q)) (Nat.lt_irrefl _)
  have h0C : h₀.get? C = none := by
    cases q : h₀.get? C with
    | none => rfl
    | some o => exact absurd (Nat.lt_trans hlDC (hlt _ _ (F.keep _ _ q))) (Nat.lt_irrefl _)
  have F₁ : Fr h₀ L h₁ m := F.keeps old
  have N₁ : News h₀ L h₁ led := fun p hp => ⟨old _ _ (N p hp).1, (N p hp).2⟩
  have hDf : D ∉ fp := fun hm => Nat.lt_irrefl _ (ltN' (hflt _ hm))
  have hCf : C ∉ fp := fun hm => Nat.lt_irrefl _ (Nat.lt_trans hlDC (ltN' (hflt _ hm)))
  have hDw : D ∉ wr := fun h => hDf (W.sub _ h)
  have hCw : C ∉ wr := fun h => hCf (W.sub _ h)
  have hLw : L ∉ wr := fun h => hLf (W.sub _ h)
  have oldw : ∀ b o, h₀.get? b = some o → b ∉ wr := fun b o e hb => by rw [hwr b hb] at e; cases e
  let Inv : Nat → Shared → Prop := CInv h₀ L m St wr fix J D C n s
  have loop : ∀ s₃ : Shared, s₃ = { s with heap := h₁, toks := s.toks + ([] : List (Str × Value)).length } →
      codeAny (model prog w) A (.compLoop (.ListComp elt [⟨target, iter, ifs, 0⟩] scope pos) 0 (.ref I) (.ref D) (compEnvC scope cl C env)) (RR (.ref D) C) s₃ := by
    rintro s₃ rfl
    refine compLoop_any Inv ?_ (n + 1) ⟨h₁, _, led, 0, #[], _, hst₁, F₁, N₁, fun p hp => ⟨hnw p hp, ?_, ?_⟩, hfix, hacc, hns₁, h0, Nat.le_refl _, Nat.zero_le _⟩
    rotate_left
    · exact neA (Nat.ne_of_lt (hlt _ _ (N p hp).1))
    · exact neA (Nat.ne_of_lt (Nat.lt_trans (hlt _ _ (N p hp).1) hlDC))
    rintro k s' ⟨H, tk, led', i, ys, mC, hst', F', N', hnw', hfix', hacc', hn', hJ, hys, hi⟩
    have next : ∀ h₁ : Heap, (∀ b o, b ∉ wr → H.get? b = some o → h₁.get? b = some o) → Fr h₀ L h₁ m ∧ News h₀ L h₁ led' := fun h₁ hk₁ =>
      ⟨⟨F'.ns.at' fun o e => hk₁ _ o hLw e, fun b o e => hk₁ b o (oldw b o e) (F'.keep b o e), F'.above⟩, fun p hp => ⟨hk₁ _ _ (hnw' p hp).1 (N' p hp).1, (N' p hp).2⟩⟩
    by_cases hlt' : i < n
    · refine wpAny_mono (W.item i _ (fun v s₁' => wpAny (model prog w) A (assign target (compEnvC scope cl C env) v) (fun _ s₂ =>
          wpAny (model prog w) A (forIn ifs true fun c r => if r = true then do let ok ← isTrue c (compEnvC scope cl C env) (eval c (compEnvC scope cl C env)); pure (ForInStep.yield ok) else pure (ForInStep.yield r)) (fun ok s₃ =>
            if ok = true then wpAny (model prog w) A (eval elt (compEnvC scope cl C env)) (fun x s₄ =>
              wpAny (model prog w) A (call (.builtin "list.append") [.ref D, x]) (fun _ s₅ => ∃ m, m < n + 1 - i ∧ Inv m s₅) (notedBy (model prog w) A (compEnvC scope cl C env) fun e s' => RR (.ref D) C (.error e) s') s₄) (notedBy (model prog w) A (compEnvC scope cl C env) fun e s' => RR (.ref D) C (.error e) s') s₃
            else ∃ m, m < n + 1 - i ∧ Inv m s₃) (notedBy (model prog w) A (compEnvC scope cl C env) fun e s' => RR (.ref D) C (.error e) s') s₂) (notedBy (model prog w) A (compEnvC scope cl C env) fun e s' => RR (.ref D) C (.error e) s') s₁') _ hlt' hst' ?_) (fun r s₁ h₁ => ?_) fun _ _ e => e
      · intro v h₂ tk₂ hP hst₂ hk₂
        obtain ⟨F₂, N₂⟩ := next h₂ hk₂
        have hn₂ : h₂.Ns C mC := hn'.at' fun o e => hk₂ _ o hCw e
        obtain ⟨oC, hoC, hNs⟩ := NsObj_of hn₂
        obtain ⟨nD, hoD⟩ := hacc'
        have hoD₂ : h₂.get? D = some (listOf ys nD) := hk₂ _ _ hDw hoD
        have NC : News h₀ L h₂ ((C, oC) :: (D, listOf ys nD) :: cellsAt h₂ wr) := by
          intro p hp
          rcases List.mem_cons.mp hp with rfl | hp
          · exact ⟨hoC, neA (Nat.ne_of_gt (Nat.lt_trans hLD hlDC)), h0C⟩
          · rcases List.mem_cons.mp hp with rfl | hp
            · exact ⟨hoD₂, neA (Nat.ne_of_gt hLD), h0D⟩
            · exact ⟨(of_cellsAt hp).2, fun q => hLw (q ▸ (of_cellsAt hp).1), hwr _ (of_cellsAt hp).1⟩
        have hoff : OwnOff ((C, oC) :: (D, listOf ys nD) :: cellsAt h₂ wr) (led'.map (·.1)) := by
          intro p hp b hb e
          obtain ⟨q, hq, rfl⟩ := List.mem_map.mp hb
          obtain ⟨q1, q2, q3⟩ := hnw' q hq
          rcases List.mem_cons.mp hp with rfl | hp
          · exact q3 e.symm
          · rcases List.mem_cons.mp hp with rfl | hp
            · exact q2 e.symm
            · exact q1 (e ▸ (of_cellsAt hp).1)
        have hltp : ∀ p ∈ led' ++ (C, oC) :: (D, listOf ys nD) :: cellsAt h₂ wr, p.1 < H.objs.size := by
          intro p hp
          rcases List.mem_append.mp hp with hp | hp
          · exact Heap.lt_size (N' p hp).1
          · rcases List.mem_cons.mp hp with rfl | hp
            · exact hn'.lt
            · rcases List.mem_cons.mp hp with rfl | hp
              · exact Heap.lt_size hoD
              · obtain ⟨o, ho⟩ := W.has _ _ hst' _ (of_cellsAt hp).1
                exact Heap.lt_size ho
        have hownC : ∀ p ∈ (D, listOf ys nD) :: cellsAt h₂ wr, p.1 ≠ C := by
          intro p hp
          rcases List.mem_cons.mp hp with rfl | hp
          · exact hDC
          · exact fun e => hCw (e ▸ (of_cellsAt hp).1)
        have Nall : News h₀ L h₂ (led' ++ (C, oC) :: (D, listOf ys nD) :: cellsAt h₂ wr) := fun p hp => (List.mem_append.mp hp).elim (N₂ p) (NC p)
        have hbs : h₀.objs.size ≤ H.objs.size := Nat.le_trans F'.above (Nat.le_of_lt F'.ns.lt)
        have stp := step C i v ys.toList led' ((D, listOf ys nD) :: cellsAt h₂ wr) H h₂ tk₂ oC mC hlt' hP hltp F'.ns.lt hbs hJ (by simpa using hys) hfix' hoff hownC hNs F₂ Nall (notedBy (model prog w) A (compEnvC scope cl C env) fun e s' => RR (.ref D) C (.error e) s')
        have fin : ∀ (ys' : Array Value) (s₃ : Shared), ys'.size ≤ i + 1 → CEnd h₀ L m C fix ((D, listOf ys' nD) :: cellsAt h₂ wr) (J (i + 1) ys'.toList) { s with heap := h₂, toks := tk₂ } s₃ → ∃ m, m < n + 1 - i ∧ Inv m s₃ := by
          rintro ys' s₃ hsz' ⟨h₄, tk₄, led₄, oC₄, mC₄, rfl, F₄, N₄, hNs₄, hoff₄, hfix₄, hK⟩
          refine ⟨n + 1 - (i + 1), Nat.sub_lt_sub_left (Nat.lt_succ_of_lt hlt') (Nat.lt_succ_self i), h₄, tk₄, led₄, i + 1, ys', mC₄, W.frame _ _ _ hst₂ fun b hb o e => ?_, F₄, fun p hp => N₄ p (List.mem_append_left _ hp), fun p hp => ⟨fun hq => ?_, ?_, ?_⟩, hfix₄, ⟨nD, (N₄ (D, listOf ys' nD) (List.mem_append_right _ (.tail _ (.head _)))).1⟩, hNs₄.ns (N₄ (C, oC₄) (List.mem_append_right _ (.head _))).1, hK, hsz', hlt'⟩
          · rcases hfp b hb with hb | ⟨o', ho'⟩
            · exact (N₄ _ (List.mem_append_right _ (.tail _ (.tail _ (mem_cellsAt hb e))))).1
            · have e1 : h₂.get? b = some o' := (N₂ _ (hfix' _ ho')).1
              rw [e] at e1
              cases e1
              exact (N₄ _ (List.mem_append_left _ (hfix₄ _ ho'))).1
          · obtain ⟨o, hbo⟩ := W.has _ _ hst₂ _ hq
            exact hoff₄ _ (.tail _ (.tail _ (mem_cellsAt hq hbo))) p.1 (List.mem_map.mpr ⟨p, hp, rfl⟩) rfl
          · exact fun e => hoff₄ _ (.tail _ (.head _)) p.1 (List.mem_map.mpr ⟨p, hp, rfl⟩) e.symm
          · exact fun e => hoff₄ _ (.head _) p.1 (List.mem_map.mpr ⟨p, hp, rfl⟩) e.symm
        refine wpAny_mono stp (fun _ s₃ h₃ => wpAny_mono h₃ (fun ok s₄ h₄ => ?_) fun _ _ e => e) fun _ _ e => e
        cases ok with
        | false =>
          simp only [Bool.false_eq_true, if_false] at h₄ ⊢
          exact fin ys s₄ (Nat.le_succ_of_le hys) h₄
        | true =>
          simp only [if_true] at h₄ ⊢
          refine wpAny_mono h₄ (fun y s₅ h₅ => ?_) fun _ _ e => e
          obtain ⟨h₆, tk₆, led₆, oC₆, mC₆, rfl, F₆, N₆, hNs₆, hoff₆, hfix₆, hK⟩ := h₅
          have hD₆ : h₆.get? D = some (listOf ys nD) := (N₆ (D, listOf ys nD) (List.mem_append_right _ (.tail _ (.head _)))).1
          refine wpAny_list_append_plain (items := ys) ⟨nD, hD₆⟩ (fun h₇ hl₇ hs₇ => ?_) (by omega)
          obtain ⟨nD', hD₇⟩ := hl₇
          have old₇ : ∀ b o, h₀.get? b = some o → b ≠ D := fun b o e q => by rw [q, h0D] at e; cases e
          have F₇ : Fr h₀ L h₇ m := ⟨F₆.ns.sameBut hs₇ (neA (Nat.ne_of_lt hLD)), fun b o e => (hs₇.2 b (old₇ b o e)).trans (F₆.keep b o e), F₆.above⟩
          have up : ∀ p ∈ led₆ ++ (C, oC₆) :: cellsAt h₂ wr, h₇.get? p.1 = some p.2 ∧ p.1 ≠ L ∧ h₀.get? p.1 = none := by
            intro p hp
            have hpD : p.1 ≠ D := by
              rcases List.mem_append.mp hp with hp | hp
              · exact fun e => hoff₆ _ (.tail _ (.head _)) p.1 (List.mem_map.mpr ⟨p, hp, rfl⟩) e.symm
              · rcases List.mem_cons.mp hp with rfl | hp
                · exact Ne.symm hDC
                · exact fun e => hDw (e ▸ (of_cellsAt hp).1)
            have hp' : p ∈ led₆ ++ (C, oC₆) :: (D, listOf ys nD) :: cellsAt h₂ wr := by
              rcases List.mem_append.mp hp with hp | hp
              · exact List.mem_append_left _ hp
              · rcases List.mem_cons.mp hp with rfl | hp
                · exact List.mem_append_right _ (.head _)
                · exact List.mem_append_right _ (.tail _ (.tail _ hp))
            have q := N₆ p hp'
            exact ⟨(hs₇.2 _ hpD).trans q.1, q.2⟩
          refine ⟨n + 1 - (i + 1), Nat.sub_lt_sub_left (Nat.lt_succ_of_lt hlt') (Nat.lt_succ_self i), h₇, tk₆, led₆, i + 1, ys.push y, mC₆, W.frame _ _ _ hst₂ fun b hb o e => ?_, F₇, fun p hp => up p (List.mem_append_left _ hp), fun p hp => ⟨fun hq => ?_, ?_, ?_⟩, hfix₆, ⟨nD', hD₇⟩, hNs₆.ns (up (C, oC₆) (List.mem_append_right _ (.head _))).1, by simpa using hK, by simpa using hys, hlt'⟩
          · rcases hfp b hb with hb | ⟨o', ho'⟩
            · exact (up _ (List.mem_append_right _ (.tail _ (mem_cellsAt hb e)))).1
            · have e1 : h₂.get? b = some o' := (N₂ _ (hfix' _ ho')).1
              rw [e] at e1
              cases e1
              exact (up _ (List.mem_append_left _ (hfix₆ _ ho'))).1
          · obtain ⟨o, hbo⟩ := W.has _ _ hst₂ _ hq
            exact hoff₆ _ (.tail _ (.tail _ (mem_cellsAt hq hbo))) p.1 (List.mem_map.mpr ⟨p, hp, rfl⟩) rfl
          · exact fun e => hoff₆ _ (.tail _ (.head _)) p.1 (List.mem_map.mpr ⟨p, hp, rfl⟩) e.symm
          · exact fun e => hoff₆ _ (.head _) p.1 (List.mem_map.mpr ⟨p, hp, rfl⟩) e.symm
      · cases r with
        | none => exact h₁.elim
        | some v => exact h₁
    · have hin : i = n := Nat.le_antisymm hi (Nat.le_of_not_lt hlt')
      subst hin
      refine wpAny_mono (W.done _ (fun s₁ => RR (.ref D) C (.ok .next) s₁) _ hst' fun h₂ tk₂ hk₂ => ?_) (fun r s₁ h₁ => ?_) fun _ _ e => e
      · obtain ⟨F₂, N₂⟩ := next h₂ hk₂
        obtain ⟨nD, hoD⟩ := hacc'
        refine hRR D C h₂ tk₂ mC ys nD led' hDC (hn'.at' fun o e => hk₂ _ o hCw e) h0C (neA (Nat.ne_of_lt (Nat.lt_trans hLD hlDC))) (fun p hp => (hnw' p hp).2.2) F₂ (fun p hp => ?_) (fun p hp => (hnw' p hp).2.1) hJ
        rcases List.mem_cons.mp hp with rfl | hp
        · exact ⟨hk₂ _ _ hDw hoD, neA (Nat.ne_of_gt hLD), h0D⟩
        · exact N₂ p hp
      · obtain ⟨rfl, h₁⟩ := h₁
        exact h₁
  exact codeAny_compStart_list (loop _ rfl) (W.self 0 _ _ _ hst₁ (loop _ rfl))
end
end
section
open PySem PySem.W PySem.Calls PyProof.Rows
theorem ne_lt {a b : Addr} (h : a < b) : @Ne Nat a b := Nat.ne_of_lt h
theorem ne_gt {a b : Addr} (h : b < a) : @Ne Nat a b := Nat.ne_of_gt h
theorem memHead {α : Type} {a : α} {l : List α} : a ∈ a :: l := List.mem_cons_self ..
theorem memTail {α : Type} {a b : α} {l : List α} (h : a ∈ l) : a ∈ b :: l := List.mem_cons_of_mem _ h
theorem mem1 {α : Type} {x a : α} {l : List α} : x ∈ a :: x :: l := memTail memHead
theorem mem2 {α : Type} {x a b : α} {l : List α} : x ∈ a :: b :: x :: l := memTail (memTail memHead)
theorem mem3 {α : Type} {x a b c : α} {l : List α} : x ∈ a :: b :: c :: x :: l := memTail (memTail (memTail memHead))
theorem mem4 {α : Type} {x a b c d : α} {l : List α} : x ∈ a :: b :: c :: d :: x :: l := memTail (memTail (memTail (memTail memHead)))
theorem mem5 {α : Type} {x a b c d e : α} {l : List α} : x ∈ a :: b :: c :: d :: e :: x :: l := memTail (memTail (memTail (memTail (memTail memHead))))
theorem mem6 {α : Type} {x a b c d e f : α} {l : List α} : x ∈ a :: b :: c :: d :: e :: f :: x :: l := memTail (memTail (memTail (memTail (memTail (memTail memHead)))))
theorem mem7 {α : Type} {x a b c d e f g : α} {l : List α} : x ∈ a :: b :: c :: d :: e :: f :: g :: x :: l := memTail (memTail (memTail (memTail (memTail (memTail (memTail memHead))))))
theorem memL {α : Type} {a : α} {l r : List α} (h : a ∈ l) : a ∈ l ++ r := List.mem_append_left _ h
theorem memR {α : Type} {a : α} {l r : List α} (h : a ∈ r) : a ∈ l ++ r := List.mem_append_right _ h
theorem subCons {α : Type} {a : α} {l r : List α} (h : a ∈ r) (t : ∀ p ∈ l, p ∈ r) : ∀ p ∈ a :: l, p ∈ r := fun p hp => (List.mem_cons.mp hp).elim (fun e => e ▸ h) (t p)
theorem subApp {α : Type} {l l' r : List α} (h : ∀ p ∈ l, p ∈ r) (t : ∀ p ∈ l', p ∈ r) : ∀ p ∈ l ++ l', p ∈ r := fun p hp => (List.mem_append.mp hp).elim (h p) (t p)
theorem subNil {α : Type} {r : List α} : ∀ p ∈ ([] : List α), p ∈ r := fun _ h => nomatch h
theorem subTrans {α : Type} {l m r : List α} (h : ∀ p ∈ l, p ∈ m) (t : ∀ p ∈ m, p ∈ r) : ∀ p ∈ l, p ∈ r := fun p hp => t p (h p hp)

inductive Before (a b : Nat) : List Nat → Prop where
  | head {l : List Nat} : b ∈ l → Before a b (a :: l)
  | tail {c : Nat} {l : List Nat} : Before a b l → Before a b (c :: l)
structure Apart (as : List Addr) (rest : List Cell) : Prop where
  ne : as.Pairwise (fun (a b : Nat) => a ≠ b)
  off : OwnOff rest as
theorem Apart.of {as : List Addr} {rest : List Cell} (D : Apart as rest) {a b : Nat} (h : Before a b as) : a ≠ b := by
  have := D.ne
  clear D
  induction h with
  | head hm => exact (List.pairwise_cons.mp this).1 _ hm
  | tail _ ih => exact ih (List.pairwise_cons.mp this).2
theorem Apart.of' {as : List Addr} {rest : List Cell} (D : Apart as rest) {a b : Nat} (h : Before a b as) : b ≠ a := (D.of h).symm
theorem pwNil : ([] : List Addr).Pairwise (fun (a b : Nat) => a ≠ b) := .nil
theorem pwCons {a : Addr} {l : List Addr} (h : ∀ b ∈ l, @Ne Nat a b) (t : l.Pairwise (fun (a b : Nat) => a ≠ b)) : (a :: l).Pairwise (fun (a b : Nat) => a ≠ b) := List.pairwise_cons.mpr ⟨h, t⟩
theorem allNil {P : Addr → Prop} : ∀ b ∈ ([] : List Addr), P b := fun _ h => nomatch h
theorem allCons {P : Addr → Prop} {a : Addr} {l : List Addr} (h : P a) (t : ∀ b ∈ l, P b) : ∀ b ∈ a :: l, P b := fun b hb => (List.mem_cons.mp hb).elim (fun e => e ▸ h) (t b)
theorem offNil {as : List Addr} : OwnOff [] as := fun _ h => nomatch h
theorem offCons {as : List Addr} {c : Cell} {l : List Cell} (h : ∀ b ∈ as, @Ne Nat c.1 b) (t : OwnOff l as) : OwnOff (c :: l) as := fun p hp => (List.mem_cons.mp hp).elim (fun e => e ▸ h) (t p)
theorem offApp {as : List Addr} {l l' : List Cell} (h : OwnOff l as) (t : OwnOff l' as) : OwnOff (l ++ l') as := fun p hp => (List.mem_append.mp hp).elim (h p) (t p)
theorem offAsNil {l : List Cell} : OwnOff l [] := fun _ _ _ h => nomatch h
theorem offAsCons {a : Addr} {as : List Addr} {l : List Cell} (h : ∀ p ∈ l, p.1 ≠ a) (t : OwnOff l as) : OwnOff l (a :: as) := fun p hp b hb => (List.mem_cons.mp hb).elim (fun e => e ▸ h p hp) (t p hp b)
theorem offSub {as : List Addr} {l l' : List Cell} (h : OwnOff l as) (s : ∀ p ∈ l', p ∈ l) : OwnOff l' as := fun p hp => h p (s p hp)
theorem offAs {as as' : List Addr} {l : List Cell} (h : OwnOff l as) (s : ∀ p ∈ as', p ∈ as) : OwnOff l as' := fun p hp b hb => h p hp b (s b hb)
theorem ne_of_lt_all {d : Addr} {l : List Cell} (h : AllLt d l) : ∀ p ∈ l, p.1 ≠ d := by
  induction l with
  | nil => exact fun _ h => nomatch h
  | cons x l ih => exact fun p hp => (List.mem_cons.mp hp).elim (fun e => e ▸ Nat.ne_of_lt h.1) (ih h.2 p)
theorem allLt_app {d : Addr} {l l' : List Cell} (h : AllLt d (l ++ l')) : AllLt d l ∧ AllLt d l' := by
  induction l with
  | nil => exact ⟨trivial, h⟩
  | cons x l ih => exact ⟨⟨h.1, (ih h.2).1⟩, (ih h.2).2⟩
theorem ne_app {d : Addr} {l l' : List Cell} (h : ∀ p ∈ l, p.1 ≠ d) (h' : ∀ p ∈ l', p.1 ≠ d) : ∀ p ∈ l ++ l', p.1 ≠ d := fun p hp => (List.mem_append.mp hp).elim (h p) (h' p)
theorem allLt_tr {a d : Addr} {l : List Cell} (h : AllLt a l) (hd : @LT.lt Nat _ a d) : AllLt d l := by
  induction l with
  | nil => trivial
  | cons x l ih => exact ⟨Nat.lt_trans h.1 hd, ih h.2⟩

/-- the ledger re-laid: these cells ahead, the rest behind -/
noncomputable def offOf (as : List Addr) (led : List Cell) : List Cell := led.filter fun p => !as.contains p.1
theorem mem_offOf {as : List Addr} {led : List Cell} {p : Cell} : p ∈ offOf as led ↔ p ∈ led ∧ p.1 ∉ as := by
  unfold offOf; rw [List.mem_filter]; simp
theorem off_offOf (as : List Addr) (led : List Cell) : OwnOff (offOf as led) as := fun p hp b hb e => (mem_offOf.mp hp).2 (e ▸ hb)
theorem relay {as : List Addr} {cells led : List Cell} (hc : ∀ p ∈ cells, p ∈ led) : ∀ p ∈ cells ++ offOf as led, p ∈ led := subApp hc fun _ hp => (mem_offOf.mp hp).1

theorem CallSpec.call {D U : Nat} {w : World} {f : Addr} {args : List Value} {pre : List Cell} {Post : Value → List Cell → Prop} (S : CallSpec D U w f args pre Post)
    {A : Around} {cn : Str} {cs : Scope} {a : Addr} {ccd : Value} {cl : List (Str × Addr)} {outer : List Env} {A₀ : Around} {base h₀ : Heap} {L : Addr} {m : Str → Option Value} {s : Shared} {news : List Cell}
    {p : Program} {loose : List Str} {mean : ExcName → Option Value} {mg mb : Str → Option Value} {Q E : Value → Shared → Prop}
    (hh : A.handled = none) (hf : A.frames = some (envX cn cs L a ccd cl :: outer)) (hdp : A.depth ≤ D) (hu : A.units ≤ U)
    (B : Below A₀ base outer h₀) (F : Fr h₀ L s.heap m) (X : (hd.heap_39 w.params).In h₀) (N : News h₀ L s.heap news) (hs : ∀ p ∈ pre, p ∈ news) (T : Top p loose mean mg mb h₀) (hk : cs.kind = .function)
    (ret : ∀ r new h' tk', Fr h₀ L h' m → News h₀ L h' new → Post r new → Q r { s with heap := h', toks := tk' }) : wpAny (model PG w) A (call (.ref f) args) Q E s :=
  S.use hh hf hdp hu B F X (News.sub N hs) T hk ret
/-- a call whose post is taken apart ahead of what follows -/
theorem CallSpec.callU {D U : Nat} {w : World} {f : Addr} {args : List Value} {pre : List Cell} {Post : Value → List Cell → Prop} (S : CallSpec D U w f args pre Post) {V : (Value → List Cell → Prop) → Prop} (u : ∀ C, V C → ∀ r new, Post r new → C r new)
    {A : Around} {cn : Str} {cs : Scope} {a : Addr} {ccd : Value} {cl : List (Str × Addr)} {outer : List Env} {A₀ : Around} {base h₀ : Heap} {L : Addr} {m : Str → Option Value} {h : Heap} {gs : Array GenState} {d : Drawn} {t : Nat} {o : OsState} {news : List Cell}
    {p : Program} {loose : List Str} {mean : ExcName → Option Value} {mg mb : Str → Option Value} {Q E : Value → Shared → Prop}
    (hh : A.handled = none) (hf : A.frames = some (envX cn cs L a ccd cl :: outer)) (hdp : A.depth ≤ D) (hu : A.units ≤ U)
    (B : Below A₀ base outer h₀) (F : Fr h₀ L h m) (X : (hd.heap_39 w.params).In h₀) (N : News h₀ L h news) (hs : ∀ p ∈ pre, p ∈ news) (T : Top p loose mean mg mb h₀) (hk : cs.kind = .function)
    (ret : V fun r new => ∀ h' tk', Fr h₀ L h' m → News h₀ L h' new → Q r ⟨h', gs, d, tk', o⟩) : wpAny (model PG w) A (PySem.call (.ref f) args) Q E ⟨h, gs, d, t, o⟩ :=
  S.use hh hf hdp hu B F X (News.sub N hs) T hk fun r new h' tk' F' N' P' => u _ ret r new P' h' tk' F' N'
noncomputable def T2 (a : List Cell) (b : Value) (C : Value → List Cell → Prop) : Prop := C b a
theorem U2 {a : List Cell} {b : Value} : ∀ C, T2 a b C → ∀ r new, (new = a ∧ r = b) → C r new := fun _ k _ _ h => by rw [h.1, h.2]; exact k
noncomputable def T2r (a : List Cell) (P : Value → Prop) (C : Value → List Cell → Prop) : Prop := ∀ r, P r → C r a
theorem U2r {a : List Cell} {P : Value → Prop} : ∀ C, T2r a P C → ∀ r new, (new = a ∧ P r) → C r new := fun _ k r _ h => by rw [h.1]; exact k r h.2
noncomputable def T3n (b : Value) (P P' : List Cell → Prop) (C : Value → List Cell → Prop) : Prop := ∀ new, P new → P' new → C b new
theorem U3n {b : Value} {P P' : List Cell → Prop} : ∀ C, T3n b P P' C → ∀ r new, (r = b ∧ P new ∧ P' new) → C r new := fun _ k _ new h => by rw [h.1]; exact k new h.2.1 h.2.2
noncomputable def T3 (P P' P'' : Value → List Cell → Prop) (C : Value → List Cell → Prop) : Prop := ∀ r new, P r new → P' r new → P'' r new → C r new
theorem U3 {P P' P'' : Value → List Cell → Prop} : ∀ C, T3 P P' P'' C → ∀ r new, (P r new ∧ P' r new ∧ P'' r new) → C r new := fun _ k r new h => k r new h.1 h.2.1 h.2.2
/-- the walk stands still here -/
noncomputable def stopT {α : Type} (t : Sem α) : Sem α := t
theorem stopCall {M : Model} {A : Around} {Q E : Value → Shared → Prop} {s : Shared} {f : Addr} {args : List Value} (h : wpAny M A (stopT (call (.ref f) args)) Q E s) : wpAny M A (call (.ref f) args) Q E s := h
theorem stopExec {M : Model} {A : Around} {Q : Flow → Shared → Prop} {E : Value → Shared → Prop} {s : Shared} {st : Stmt} {env : Env} (h : wpAny M A (stopT (exec st env)) Q E s) : wpAny M A (exec st env) Q E s := h
theorem stopCallG {M : Model} {A : Around} {Q E : Value → Shared → Prop} {s : Shared} {f : Value} {args : List Value} (h : wpAny M A (stopT (call f args)) Q E s) : wpAny M A (call f args) Q E s := h
theorem goOn {α : Type} {M : Model} {A : Around} {t : Sem α} {Q : α → Shared → Prop} {E : Value → Shared → Prop} {s : Shared} (h : wpAny M A t Q E s) : wpAny M A (stopT t) Q E s := h

theorem item_lst {prog : Program} {w : World} {A : Around} {E : Value → Shared → Prop} {s : Shared} {h₀ : Heap} {L a : Addr} {news : List Cell} {value slice : Expr} {vs : List Value} {n : Nat} {k : Int} {u : Tok} {x : Value} {Q : Value → Shared → Prop}
    (N : News h₀ L s.heap news) (hm : (a, listOf vs.toArray n) ∈ news) (h0 : 0 ≤ k) (hhi : k < 2 ^ 63) (hx : vs[k.toNat]? = some x) (h : Q x s)
    (hs : subscripted slice false (.ref a) (.int k u) = operate [.ref a, .int k u] (getItem (.ref a) (.int k u)) := by with_unfolding_all rfl) :
    wpAny (model prog w) A (subscriptTail value slice (.ref a) (.int k u)) Q E s :=
  have hl : s.heap.IsList a vs.toArray := ⟨_, (N _ hm).1, rfl, n, rfl⟩
  tail_any hl.typeIs slot_list_getitem.lookup (wpAny_getItem_list hl h0 hhi (by simpa using hx) h) hs

-- lists
theorem All2.append {α β : Type} {R : α → β → Prop} {as as' : List α} {bs bs' : List β} (h : All2 R as bs) (h' : All2 R as' bs') : All2 R (as ++ as') (bs ++ bs') := by
  induction h with
  | nil => exact h'
  | cons x _ ih => exact .cons x ih
theorem All2.snoc {α β : Type} {R : α → β → Prop} {as : List α} {bs : List β} {a : α} {b : β} (h : All2 R as bs) (x : R a b) : All2 R (as ++ [a]) (bs ++ [b]) := h.append (.cons x .nil)
theorem All2.at {α β : Type} {R : α → β → Prop} {as : List α} {bs : List β} (h : All2 R as bs) {i : Nat} {a : α} {b : β} (ha : as[i]? = some a) (hb : bs[i]? = some b) : R a b := by
  obtain ⟨b', hb', hr⟩ := h.get ha
  rw [hb] at hb'
  cases hb'
  exact hr
theorem All2.nil_iff {α β : Type} {R : α → β → Prop} {as : List α} {bs : List β} (h : All2 R as bs) : as = [] ↔ bs = [] := by cases h <;> simp
-- small terms
theorem hideL {P : Prop} (h : let G := P; G) : P := h
theorem allLtC {d : Addr} {x : Cell} {l : List Cell} (h : ∀ p ∈ x :: l, @LT.lt Nat _ p.1 d) : AllLt d (x :: l) := allLt_of h
theorem allLt_mem {d : Addr} {l : List Cell} (h : AllLt d l) : ∀ p ∈ l, @LT.lt Nat _ p.1 d := by
  induction l with
  | nil => exact fun _ h => absurd h List.not_mem_nil
  | cons x l ih => exact fun p hp => (List.mem_cons.mp hp).elim (fun e => e ▸ h.1) (ih h.2 p)
theorem allLtSub {d : Addr} {l l' : List Cell} (h : AllLt d l) (s : ∀ p ∈ l', p ∈ l) : AllLt d l' := allLt_of fun p hp => allLt_mem h p (s p hp)
theorem allLtTr {a d : Addr} {o : Obj} {l l' : List Cell} (h : AllLt a l) (h' : AllLt d l') (m : (a, o) ∈ l') : AllLt d l := allLt_tr h (allLt_mem h' _ m)
theorem neLtA {a b : Nat} {o : Obj} {l : List Cell} (h : AllLt b l) (m : (a, o) ∈ l) : @Ne Nat a b := Nat.ne_of_lt (allLt_mem h _ m)
theorem neLtB {a b : Nat} {o : Obj} {l : List Cell} (h : AllLt b l) (m : (a, o) ∈ l) : @Ne Nat b a := Nat.ne_of_gt (allLt_mem h _ m)
theorem neLtA1 {a b k : Nat} {o : Obj} {l : List Cell} (h : AllLt b l) (m : (a, o) ∈ l) : @Ne Nat a (b + k) := Nat.ne_of_lt (Nat.lt_of_lt_of_le (allLt_mem h _ m) (Nat.le_add_right ..))
theorem neLtB1 {a b k : Nat} {o : Obj} {l : List Cell} (h : AllLt b l) (m : (a, o) ∈ l) : @Ne Nat (b + k) a := (neLtA1 h m).symm
theorem neLtA2 {a b k j : Nat} {o : Obj} {l : List Cell} (h : AllLt b l) (m : (a, o) ∈ l) : @Ne Nat a (b + k + j) := by have := allLt_mem h _ m; dsimp only at this; omega
theorem neLtB2 {a b k j : Nat} {o : Obj} {l : List Cell} (h : AllLt b l) (m : (a, o) ∈ l) : @Ne Nat (b + k + j) a := (neLtA2 h m).symm
theorem neLtA3 {a b k j i : Nat} {o : Obj} {l : List Cell} (h : AllLt b l) (m : (a, o) ∈ l) : @Ne Nat a (b + k + j + i) := by have := allLt_mem h _ m; dsimp only at this; omega
theorem neLtB3 {a b k j i : Nat} {o : Obj} {l : List Cell} (h : AllLt b l) (m : (a, o) ∈ l) : @Ne Nat (b + k + j + i) a := (neLtA3 h m).symm
theorem neLtC {a b d : Nat} {o : Obj} {l : List Cell} (hd : @LT.lt Nat _ d b) (h : AllLt d l) (m : (a, o) ∈ l) : @Ne Nat a b := Nat.ne_of_lt (Nat.lt_trans (allLt_mem h _ m) hd)
theorem neLtD {a b d : Nat} {o : Obj} {l : List Cell} (hd : @LT.lt Nat _ d b) (h : AllLt d l) (m : (a, o) ∈ l) : @Ne Nat b a := (neLtC hd h m).symm
theorem neSubC {b d : Addr} {l l' : List Cell} (hd : @LT.lt Nat _ d b) (h : AllLt d l) (s : ∀ p ∈ l', p ∈ l) : ∀ p ∈ l', p.1 ≠ b := fun p hp => Nat.ne_of_lt (Nat.lt_trans (allLt_mem h p (s p hp)) hd)
theorem neSub {d : Addr} {l l' : List Cell} (h : AllLt d l) (s : ∀ p ∈ l', p ∈ l) : ∀ p ∈ l', p.1 ≠ d := fun p hp => Nat.ne_of_lt (allLt_mem h p (s p hp))
theorem neSub1 {d k : Nat} {l l' : List Cell} (h : AllLt d l) (s : ∀ p ∈ l', p ∈ l) : ∀ p ∈ l', p.1 ≠ d + k := fun p hp => Nat.ne_of_lt (Nat.lt_of_lt_of_le (allLt_mem h p (s p hp)) (Nat.le_add_right ..))
theorem subRefl {α : Type} {l : List α} : ∀ p ∈ l, p ∈ l := fun _ h => h
theorem subTail {α : Type} {a : α} {l r : List α} (h : ∀ p ∈ l, p ∈ r) : ∀ p ∈ l, p ∈ a :: r := fun p hp => List.mem_cons_of_mem _ (h p hp)
theorem subL {α : Type} {l r r' : List α} (h : ∀ p ∈ l, p ∈ r) : ∀ p ∈ l, p ∈ r ++ r' := fun p hp => List.mem_append_left _ (h p hp)
theorem subR {α : Type} {l r r' : List α} (h : ∀ p ∈ l, p ∈ r') : ∀ p ∈ l, p ∈ r ++ r' := fun p hp => List.mem_append_right _ (h p hp)
theorem genT {α : Type} {M : Model} {A : Around} {t : Sem α} {Q : α → Shared → Prop} {E : Value → Shared → Prop} {h : Heap} {g : Array GenState} {d : Drawn} {a b : Nat} {o : OsState} (H : ∀ k, wpAny M A t Q E ⟨h, g, d, k, o⟩) : wpAny M A t Q E ⟨h, g, d, a + b, o⟩ := H _
theorem mem_ix {α : Type} {l : List α} {a : α} (i : Nat) (h : l[i]? = some a) : a ∈ l := List.mem_of_getElem? h
theorem memD {α : Type} {a b0 b1 b2 b3 b4 b5 b6 b7 b8 b9 : α} {l : List α} (h : a ∈ l) : a ∈ b0 :: b1 :: b2 :: b3 :: b4 :: b5 :: b6 :: b7 :: b8 :: b9 :: l := List.mem_of_mem_drop (i := 10) h
theorem fm3 {p : Cell → Prop} {a b c : Cell} {l : List Cell} (h : ∀ x ∈ a :: b :: c :: l, p x) : p a ∧ p b ∧ p c ∧ ∀ x ∈ l, p x := ⟨h _ memHead, h _ (memTail memHead), h _ (memTail (memTail memHead)), fun x hx => h x (memTail (memTail (memTail hx)))⟩
theorem fm5 {p : Cell → Prop} {a b c d e : Cell} {l : List Cell} (h : ∀ x ∈ a :: b :: c :: d :: e :: l, p x) : p a ∧ p b ∧ p c ∧ p d ∧ p e ∧ ∀ x ∈ l, p x := ⟨h _ memHead, h _ (memTail memHead), (fm3 fun x hx => h x (memTail (memTail hx)))⟩
end
section
open PySem PySem.W PySem.Calls PyProof.Rows
open PyProof.Rows.LCg (NsObj)
section
variable {prog : Program} {w : World} {A : Around} {E : Value → Shared → Prop} {s : Shared} {env : Env} {h₀ : Heap}
/-- an iterator at hand, upon its frame and ledger -/
inductive Pack_ex (prog : Program) (w : World) (A : Around) (h₀ : Heap) (L : Addr) (target : Expr) (it : Value) (s₂ : Shared) (m : Str → Option Value) (led : List Cell) (fix : List Cell) (n : Nat) (P : Nat → Value → Heap → Heap → Prop) : Prop where
  | mk (I : _) (fp : _) (wr : _) (St : _) (h1 : it = .ref I) (h2 : Itr prog w A I target fp wr n P St) (h3 : L ∉ fp) (h4 : (∀ b ∈ wr, h₀.get? b = none)) (h5 : (∀ b ∈ fp, b ∈ wr ∨ ∃ o, (b, o) ∈ fix)) (h6 : (∀ p ∈ fix, p ∈ led)) (h7 : (∀ p ∈ led, p.1 ∉ wr)) (h8 : (∀ b ∈ fp, b < s₂.heap.objs.size)) (h9 : St 0 s₂.heap) (h10 : Fr h₀ L s₂.heap m) (h11 : News h₀ L s₂.heap led) : Pack_ex prog w A h₀ L target it s₂ m led fix n P
structure Pack (prog : Program) (w : World) (A : Around) (h₀ : Heap) (L : Addr) (target : Expr) (it : Value) (s₂ : Shared) (m : Str → Option Value) (led fix : List Cell) (n : Nat) (P : Nat → Value → Heap → Heap → Prop) : Prop where
  ex : Pack_ex prog w A h₀ L target it s₂ m led fix n P

theorem pack_list {target : Expr} {L l : Addr} {vs : List Value} {nn : Nat} {m : Str → Option Value} {led : List Cell} {Q : Value → Shared → Prop}
    (hh : A.handled = none) (F : Fr h₀ L s.heap m) (N : News h₀ L s.heap led) (hl : (l, listOf vs.toArray nn) ∈ led)
    (h : ∀ it h', Pack prog w A h₀ L target it { s with heap := h' } m led [(l, listOf vs.toArray nn)] vs.length (fun i v _ _ => vs[i]? = some v) → Q it { s with heap := h' }) :
    wpAny (model prog w) A (pyIter (.ref l)) Q E s := by
  have hol : s.heap.get? l = some (listOf vs.toArray nn) := (N _ hl).1
  have hls : s.heap.IsList l vs.toArray := ⟨_, hol, rfl, nn, rfl⟩
  have hlt : @LT.lt Nat _ l s.heap.objs.size := Heap.lt_size hol
  have hne : l ≠ s.heap.objs.size := Nat.ne_of_lt hlt
  refine wpAny_pyIter_list hls (h _ _ ?_)
  have W := Itr.list (prog := prog) (w := w) (target := target) hh s.heap.objs.size l hne vs.toArray
  have hlen : vs.toArray.size = vs.length := by simp
  rw [hlen] at W
  simp only [List.getElem?_toArray] at W
  refine ⟨_, _, _, _, rfl, W, ?_, ?_, ?_, ?_, ?_, ?_, ⟨⟨_, Heap.get?_push_size _ rfl, rfl, rfl⟩, hls.at fun o e => Heap.get?_push_of_some _ e⟩, F.push _, (fun p hp => ⟨Heap.get?_push_of_some _ (N p hp).1, (N p hp).2⟩)⟩
  · intro hm
    rcases List.mem_cons.mp hm with e | hm
    · exact absurd F.ns.lt (e ▸ Nat.lt_irrefl _)
    · exact (N _ hl).2.1 ((List.mem_singleton.mp hm).symm)
  · intro b hb
    rw [List.mem_singleton.mp hb]
    exact next_is_new F
  · intro b hb
    rcases List.mem_cons.mp hb with e | hb
    · exact .inl (e ▸ List.mem_singleton.mpr rfl)
    · exact .inr ⟨_, List.mem_singleton.mpr (by rw [List.mem_singleton.mp hb])⟩
  · intro p hp
    rw [List.mem_singleton.mp hp]; exact hl
  · intro p hp hI
    exact absurd (Heap.lt_size (N p hp).1) ((List.mem_singleton.mp hI) ▸ Nat.lt_irrefl _)
  · intro b hb
    show b < (s.heap.push _).objs.size
    rw [Heap.size_push]
    rcases List.mem_cons.mp hb with rfl | hb
    · exact Nat.lt_succ_self _
    · rw [List.mem_singleton.mp hb]; exact Nat.lt_succ_of_lt hlt

theorem pack_range {x : Str} {px : Pos} {L r : Addr} {a b : Int} {t u v : Tok} {n : Nat} {m : Str → Option Value} {led : List Cell} {Q : Value → Shared → Prop}
    (hh : A.handled = none) (F : Fr h₀ L s.heap m) (N : News h₀ L s.heap led) (hr : IsRange s.heap r a b 1 t u v) (hsm : Builtin.Range.small a b 1 = true) (hn : Builtin.Range.rangeSize a b 1 = ((n : Nat) : Int))
    (h : ∀ it h', Pack prog w A h₀ L (.Name x px) it { s with heap := h' } m led [] n (fun i v _ _ => ∃ t, v = .int (a + (i : Int)) t) → Q it { s with heap := h' }) :
    wpAny (model prog w) A (pyIter (.ref r)) Q E s := by
  refine wpAny_pyIter_range hr hsm (h _ _ ?_)
  have W := Itr.ofWalks (x := x) (px := px) (LCg.range_walks (prog := prog) (w := w) (I := s.heap.objs.size) hh a n) (fun i h st b hb => by rw [List.mem_singleton.mp hb]; exact ⟨_, st⟩) (fun i h st b hb o ho => by
    rw [List.mem_singleton.mp hb] at ho
    rw [show h.get? s.heap.objs.size = some _ from st] at ho; cases ho
    exact noTup_cls rfl (by decide))
  refine ⟨_, _, _, _, rfl, W, ?_, ?_, ?_, ?_, ?_, ?_, (by show IsRangeIter _ _ _ _ _; rw [hn]; simpa using Heap.get?_push_size _ rfl), F.push _, (fun p hp => ⟨Heap.get?_push_of_some _ (N p hp).1, (N p hp).2⟩)⟩
  · intro hm
    exact absurd F.ns.lt ((List.mem_singleton.mp hm) ▸ Nat.lt_irrefl _)
  · intro b hb
    rw [List.mem_singleton.mp hb]
    exact next_is_new F
  · exact fun b hb => .inl hb
  · exact fun _ h => nomatch h
  · intro p hp hI
    exact absurd (Heap.lt_size (N p hp).1) ((List.mem_singleton.mp hI) ▸ Nat.lt_irrefl _)
  · intro b hb
    rw [List.mem_singleton.mp hb]
    show s.heap.objs.size < (s.heap.push _).objs.size
    rw [Heap.size_push]; exact Nat.lt_succ_self _

/-- enumerate(a list of the ledger), as the head of a loop -/
theorem pack_enum {elts : List Expr} {kk : Nat} {pt : Pos} {L l : Addr} {vs : List Value} {nn : Nat} {m : Str → Option Value} {led : List Cell} {Q : Value → Shared → Prop}
    (hh : A.handled = none) (F : Fr h₀ L s.heap m) (N : News h₀ L s.heap led) (hl : (l, listOf vs.toArray nn) ∈ led)
    (h : ∀ it h', Pack prog w A h₀ L (.Tuple elts kk pt) it { s with heap := h' } m led [(l, listOf vs.toArray nn)] vs.length
      (fun i v h₁ h₂ => ∃ T x tk, v = .ref T ∧ h₁.objs.size ≤ T ∧ h₂.get? T = some (tupO [.int (i : Nat) tk, x] 0) ∧ vs[i]? = some x) → Q it { s with heap := h' }) :
    wpAny (model prog w) A (call (.type "enumerate") [.ref l]) (fun xv s₁ => wpAny (model prog w) A (pyIter xv) Q E s₁) E s := by
  have hol : s.heap.get? l = some (listOf vs.toArray nn) := (N _ hl).1
  have hls : s.heap.IsList l vs.toArray := ⟨_, hol, rfl, nn, rfl⟩
  have hlt : @LT.lt Nat _ l s.heap.objs.size := Heap.lt_size hol
  refine call_enumerate_list hls fun h' he hit hsz hk => wpAny_pyIter_enum he (h _ _ ?_)
  have W := Itr.enum (prog := prog) (w := w) (elts := elts) (k1 := kk) (pt := pt) (A := A) (e := s.heap.objs.size + 1) (it := s.heap.objs.size) (l := l) (items := vs.toArray) hh (neA (by omega)) (neA (by omega)) (neA (by omega))
  have hlen : vs.toArray.size = vs.length := by simp
  rw [hlen] at W
  simp only [List.getElem?_toArray] at W
  have hs1 : ∀ b, b ∈ [s.heap.objs.size + 1, s.heap.objs.size] → h₀.get? b = none := by
    intro b hb
    refine Heap.get?_none_of_le ?_
    have h1 := F.above
    have h2 := F.ns.lt
    have h1' : @LE.le Nat _ h₀.objs.size L := h1
    have h2' : @LT.lt Nat _ L s.heap.objs.size := h2
    simp at hb
    show @LE.le Nat _ h₀.objs.size b
    rcases hb with rfl | rfl <;> omega
  refine ⟨_, _, _, _, rfl, W, ?_, hs1, ?_, ?_, ?_, ?_, ⟨⟨_, he⟩, hit, hls.at fun o e => hk _ _ e⟩, F.keeps hk, N.grown hk⟩
  · intro hm
    have h2' : @LT.lt Nat _ L s.heap.objs.size := F.ns.lt
    simp at hm
    rcases hm with e | e | e
    · have : @Eq Nat L (s.heap.objs.size + 1) := e
      omega
    · have : @Eq Nat L (s.heap.objs.size) := e
      omega
    · exact (N _ hl).2.1 e.symm
  · intro b hb
    simp at hb
    rcases hb with rfl | rfl | rfl
    · exact .inl (by simp)
    · exact .inl (by simp)
    · exact .inr ⟨_, List.mem_singleton.mpr rfl⟩
  · intro p hp
    rw [List.mem_singleton.mp hp]; exact hl
  · intro p hp hI
    have h2' : @LT.lt Nat _ p.1 s.heap.objs.size := Heap.lt_size (N p hp).1
    simp at hI
    rcases hI with e | e
    · have : @Eq Nat p.1 (s.heap.objs.size + 1) := e
      omega
    · have : @Eq Nat p.1 (s.heap.objs.size) := e
      omega
  · intro b hb
    simp at hb
    show @LT.lt Nat _ b h'.objs.size
    rw [hsz]
    rcases hb with rfl | rfl | rfl <;> omega

/-- the new pair of an enumerate joins the ledger -/
theorem enum_news {L T : Addr} {hp h : Heap} {o : Obj} {led : List Cell} (N : News h₀ L h led) (hT : hp.objs.size ≤ T) (ho : h.get? T = some o) (hb : h₀.objs.size ≤ hp.objs.size) (hL : L < hp.objs.size) : News h₀ L h ((T, o) :: led) := by
  intro p hpm
  rcases List.mem_cons.mp hpm with rfl | hpm
  · refine ⟨ho, ?_, Heap.get?_none_of_le (Nat.le_trans hb hT)⟩
    have h2' : @LT.lt Nat _ L hp.objs.size := hL
    have h3' : @LE.le Nat _ hp.objs.size T := hT
    exact neA (by show @Ne Nat T L; omega)
  · exact N p hpm
theorem enum_lt {T : Addr} {hp : Heap} {led : List Cell} (hT : hp.objs.size ≤ T) (h : ∀ p ∈ led, p.1 < hp.objs.size) : AllLt T led := allLt_of fun p hp' => Nat.lt_of_lt_of_le (h p hp') hT

theorem ForAt.of_pack {target : Expr} {it : Value} {s₂ : Shared} {m : Str → Option Value} {led fix : List Cell} {n : Nat} {P : Nat → Value → Heap → Heap → Prop} {body : List Stmt} {Q : Flow → Shared → Prop} (J : Nat → (Str → Option Value) → List Cell → Prop)
    (pk : Pack prog w A h₀ env.locals target it s₂ m led fix n P) (h0 : J 0 m led)
    (step : ∀ i v m₁ led₁ own hp h tk, i < n → P i v hp h → (∀ p ∈ led₁ ++ own, p.1 < hp.objs.size) → env.locals < hp.objs.size → h₀.objs.size ≤ hp.objs.size → J i m₁ led₁ → (∀ p ∈ fix, p ∈ led₁) → OwnOff own (led₁.map (·.1)) → (∀ p ∈ own, NoTup p.2) → Fr h₀ env.locals h m₁ → News h₀ env.locals h (led₁ ++ own) →
      wpAny (model prog w) A (assign target env v) (fun _ s₃ => wpAny (model prog w) A (execs body env) (InvPostG h₀ env.locals (fun m' nx => (∀ p ∈ fix, p ∈ nx) ∧ J (i + 1) m' nx) own { s₂ with heap := h, toks := tk } Q) E s₃) E { s₂ with heap := h, toks := tk })
    (done : ∀ h' tk m' led', Fr h₀ env.locals h' m' → News h₀ env.locals h' led' → J n m' led' → Q .next { s₂ with heap := h', toks := tk }) :
    ForAt prog w A h₀ env target body Q E it s₂ := by
  obtain ⟨I, fp, wr, St, rfl, W, hLf, hwr, hfp, hfix, hnw, _, hst, F, N⟩ := pk.ex
  exact ⟨I, fp, wr, n, P, St, m, led, fix, J, rfl, W, hLf, hwr, hfp, hfix, hnw, hst, F, N, h0, step, done⟩

noncomputable def upd (m : Str → Option Value) (y : Str) (v : Value) : Str → Option Value := fun z => if z = y then some v else m z
noncomputable def nameOf : Expr → Str
  | .Name y _ => y
  | _ => Str.ofString ""
noncomputable def isName : Expr → Bool
  | .Name _ _ => true
  | _ => false
theorem isName_eq {e : Expr} (h : isName e = true) : ∃ y p, e = .Name y p := by
  cases e <;> first | exact ⟨_, _, rfl⟩ | exact absurd h Bool.false_ne_true
noncomputable def upds (m : Str → Option Value) : List Expr → List Value → Str → Option Value
  | e :: es, v :: vs => upds (upd m (nameOf e) v) es vs
  | _, _ => m
theorem asg_order {elts : List Expr} : ∀ {xs : List Value} {m : Str → Option Value} {s : Shared} {Q : Unit → Shared → Prop}, elts.all isName = true → elts.length = xs.length → (∀ e ∈ elts, env.kindOf (nameOf e) = some .local) → (env.scope.kind == .class || (env.scope.kind == .module && env.locals != env.globals)) = false → s.heap.Ns env.locals m →
    (∀ (h' : Heap) (tk : Nat), h'.Ns env.locals (upds m elts xs) → (∀ c o, c ≠ env.locals → s.heap.get? c = some o → h'.get? c = some o) → Q () { s with heap := h', toks := tk }) →
    wpAny (model prog w) A (assignInOrder ((assignEach elts env).map (·.2)) xs) Q E s := by
  induction elts with
  | nil =>
    intro xs m s Q _ hl _ _ hn h
    cases xs with
    | nil => exact assignInOrder_nil (h s.heap s.toks hn fun _ _ _ e => e)
    | cons _ _ => cases hl
  | cons e elts ih =>
    intro xs m s Q ha hl hk hp hn h
    cases xs with
    | nil => cases hl
    | cons x xs =>
      rw [List.all_cons, Bool.and_eq_true] at ha
      obtain ⟨y, py, rfl⟩ := isName_eq ha.1
      show wpAny _ _ (assignInOrder (assign (.Name y py) env :: (assignEach elts env).map (·.2)) (x :: xs)) _ _ _
      refine assignInOrder_cons (wpAny_assign_Name (wpAny_storeName_local (hk (.Name y py) (List.mem_cons_self ..)) hn (fun h₁ hn₁ hs₁ => ?_) hp))
      exact ih (s := { s with heap := h₁, toks := s.toks + 1 }) ha.2 (Nat.succ.inj hl) (fun e he => hk e (List.mem_cons_of_mem _ he)) hp hn₁ fun h' tk hn' hk' => h h' tk hn' fun c o hc e => hk' c o hc (hs₁.extBut c o hc e)
theorem each_len : ∀ {elts : List Expr}, elts.all isName = true → (assignEach elts env).length = elts.length
  | [], _ => rfl
  | e :: es, h => by
    rw [List.all_cons, Bool.and_eq_true] at h
    obtain ⟨y, py, rfl⟩ := isName_eq h.1
    exact congrArg Nat.succ (each_len h.2)
theorem each_star : ∀ {elts : List Expr}, elts.all isName = true → ∀ i ∈ assignEach elts env, i.1 = false
  | [], _, _, hi => nomatch hi
  | e :: es, h, i, hi => by
    rw [List.all_cons, Bool.and_eq_true] at h
    obtain ⟨y, py, rfl⟩ := isName_eq h.1
    replace hi : i ∈ (false, assign (.Name y py) env) :: assignEach es env := hi
    exact (List.mem_cons.mp hi).elim (fun e => by rw [e]) (each_star h.2 i)
theorem asg_tuple {elts : List Expr} {kk : Nat} {tp : Pos} {T : Addr} {xs : List Value} {m : Str → Option Value} {Q : Unit → Shared → Prop} (hh : A.handled = none) (ht : s.heap.IsTuple T xs.toArray) (ha : elts.all isName = true) (hl : elts.length = xs.length) (hk : ∀ e ∈ elts, env.kindOf (nameOf e) = some .local) (hp : (env.scope.kind == .class || (env.scope.kind == .module && env.locals != env.globals)) = false) (hn : s.heap.Ns env.locals m)
    (h : ∀ (h' : Heap) (tk : Nat), h'.Ns env.locals (upds m elts xs) → (∀ c o, c ≠ env.locals → s.heap.get? c = some o → h'.get? c = some o) → Q () { s with heap := h', toks := tk }) :
    wpAny (model prog w) A (assign (.Tuple elts kk tp) env (.ref T)) Q E s := by
  refine wpAny_assign_Tuple hh ht (by rw [each_len ha, hl]; simp) (List.findIdx?_eq_none_iff.mpr fun i hi => each_star ha i hi) fun h₁ he₁ => ?_
  have hL : env.locals ≠ s.heap.objs.size := Nat.ne_of_lt hn.lt
  have up₁ : ∀ c o, s.heap.get? c = some o → h₁.get? c = some o := fun c o e => he₁ c o (Nat.ne_of_lt (Heap.lt_size e)) e
  exact asg_order (s := { s with heap := h₁ }) ha hl hk hp (hn.at' fun o e => he₁ _ o hL e) fun h' tk hn' hk' => h h' tk hn' fun c o hc e => hk' c o hc (up₁ c o e)
theorem fr_asg {L : Addr} {m m' : Str → Option Value} {h h' : Heap} (F : Fr h₀ L h m) (hn : h'.Ns L m') (hk : ∀ c o, c ≠ L → h.get? c = some o → h'.get? c = some o) : Fr h₀ L h' m' :=
  ⟨hn, fun b o e => hk b o (fun q => by rw [q, Heap.get?_none_of_le F.above] at e; cases e) (F.keep b o e), F.above⟩
theorem news_asg {L : Addr} {h h' : Heap} {led : List Cell} (N : News h₀ L h led) (hk : ∀ c o, c ≠ L → h.get? c = some o → h'.get? c = some o) : News h₀ L h' led :=
  fun p hp => ⟨hk _ _ (N p hp).2.1 (N p hp).1, (N p hp).2⟩
/-- a tuple of the ledger falls into names of the frame -/
theorem asgF {elts : List Expr} {kk : Nat} {tp : Pos} {T : Addr} {nn : Nat} {xs : List Value} {m : Str → Option Value} {led : List Cell} {Q : Unit → Shared → Prop} (hh : A.handled = none) (F : Fr h₀ env.locals s.heap m) (N : News h₀ env.locals s.heap led) (ht : (T, tupO xs nn) ∈ led)
    (ha : elts.all isName = true) (hl : elts.length = xs.length) (hk : ∀ e ∈ elts, env.kindOf (nameOf e) = some .local) (hp : (env.scope.kind == .class || (env.scope.kind == .module && env.locals != env.globals)) = false)
    (h : ∀ (h' : Heap) (tk : Nat), Fr h₀ env.locals h' (upds m elts xs) → News h₀ env.locals h' led → Q () { s with heap := h', toks := tk }) :
    wpAny (model prog w) A (assign (.Tuple elts kk tp) env (.ref T)) Q E s :=
  asg_tuple hh ⟨_, (N _ ht).1, rfl, _, rfl⟩ ha hl hk hp F.ns fun h' tk hn' hk' => h h' tk (fr_asg F hn' hk') (news_asg N hk')
theorem asgFn {y : Str} {py : Pos} {v : Value} {m : Str → Option Value} {led : List Cell} {Q : Unit → Shared → Prop} (F : Fr h₀ env.locals s.heap m) (N : News h₀ env.locals s.heap led)
    (hk : env.kindOf y = some .local) (hp : (env.scope.kind == .class || (env.scope.kind == .module && env.locals != env.globals)) = false)
    (h : ∀ (h' : Heap) (tk : Nat), Fr h₀ env.locals h' (fun z => if z = y then some v else m z) → News h₀ env.locals h' led → Q () { s with heap := h', toks := tk }) :
    wpAny (model prog w) A (assign (.Name y py) env v) Q E s :=
  wpAny_assign_Name (wpAny_storeName_local hk F.ns (fun h₁ hn₁ hs₁ => h h₁ _ (fr_asg F hn₁ hs₁.extBut) (news_asg N hs₁.extBut)) hp)
/-- the like in a comprehension's own scope, whose namespace stands in the ledger -/
theorem comp_led {L C : Addr} {m mC : Str → Option Value} {oC : Obj} {led own : List Cell} {h h' : Heap} (F : Fr h₀ L h m) (N : News h₀ L h (led ++ (C, oC) :: own)) (ho : OwnOff ((C, oC) :: own) (led.map (·.1))) (hC : ∀ p ∈ own, p.1 ≠ C)
    (hn : h'.Ns C mC) (hk : ∀ c o, c ≠ C → h.get? c = some o → h'.get? c = some o) : ∃ oC', NsObj oC' mC ∧ Fr h₀ L h' m ∧ News h₀ L h' (led ++ (C, oC') :: own) ∧ OwnOff ((C, oC') :: own) (led.map (·.1)) := by
  obtain ⟨oC', hoC', hN⟩ := NsObj_of hn
  have hCN := N (C, oC) (List.mem_append_right _ (List.mem_cons_self ..))
  refine ⟨oC', hN, ⟨F.ns.at' fun o e => hk _ o (Ne.symm hCN.2.1) e, fun b o e => hk b o (fun q => by rw [q, hCN.2.2] at e; cases e) (F.keep b o e), F.above⟩, ?_, ?_⟩
  · intro p hp
    rcases List.mem_append.mp hp with hp | hp
    · have q := N p (List.mem_append_left _ hp)
      exact ⟨hk _ _ (fun e => ho _ (List.mem_cons_self ..) _ (List.mem_map.mpr ⟨p, hp, rfl⟩) e.symm) q.1, q.2⟩
    · rcases List.mem_cons.mp hp with rfl | hp
      · exact ⟨hoC', hCN.2⟩
      · have q := N p (List.mem_append_right _ (List.mem_cons_of_mem _ hp))
        exact ⟨hk _ _ (hC p hp) q.1, q.2⟩
  · intro p hp
    rcases List.mem_cons.mp hp with rfl | hp
    · exact ho (C, oC) (List.mem_cons_self ..)
    · exact ho p (List.mem_cons_of_mem _ hp)
theorem asgCn {y : Str} {py : Pos} {v : Value} {L : Addr} {m mC : Str → Option Value} {oC : Obj} {led own : List Cell} {Q : Unit → Shared → Prop} (F : Fr h₀ L s.heap m) (N : News h₀ L s.heap (led ++ (env.locals, oC) :: own)) (ho : OwnOff ((env.locals, oC) :: own) (led.map (·.1))) (hC : ∀ p ∈ own, p.1 ≠ env.locals) (hN : NsObj oC mC)
    (hk : env.kindOf y = some .local) (hp : (env.scope.kind == .class || (env.scope.kind == .module && env.locals != env.globals)) = false)
    (h : ∀ (h' : Heap) (tk : Nat) (oC' : Obj) (m₂ : Str → Option Value), NsObj oC' m₂ → m₂ y = some v → Fr h₀ L h' m → News h₀ L h' (led ++ (env.locals, oC') :: own) → OwnOff ((env.locals, oC') :: own) (led.map (·.1)) → Q () { s with heap := h', toks := tk }) :
    wpAny (model prog w) A (assign (.Name y py) env v) Q E s := by
  refine wpAny_assign_Name (wpAny_storeName_local hk (hN.ns (N (env.locals, oC) (List.mem_append_right _ (List.mem_cons_self ..))).1) (fun h₁ hn₁ hs₁ => ?_) hp)
  obtain ⟨oC', h1, h2, h3, h4⟩ := comp_led F N ho hC hn₁ hs₁.extBut
  exact h h₁ _ oC' _ h1 (by simp) h2 h3 h4
theorem asgC {elts : List Expr} {kk : Nat} {tp : Pos} {T : Addr} {nn : Nat} {xs : List Value} {L : Addr} {m mC : Str → Option Value} {oC : Obj} {led own : List Cell} {Q : Unit → Shared → Prop} (hh : A.handled = none) (F : Fr h₀ L s.heap m) (N : News h₀ L s.heap (led ++ (env.locals, oC) :: own)) (ho : OwnOff ((env.locals, oC) :: own) (led.map (·.1))) (hC : ∀ p ∈ own, p.1 ≠ env.locals) (hN : NsObj oC mC) (ht : s.heap.get? T = some (tupO xs nn))
    (ha : elts.all isName = true) (hl : elts.length = xs.length) (hk : ∀ e ∈ elts, env.kindOf (nameOf e) = some .local) (hp : (env.scope.kind == .class || (env.scope.kind == .module && env.locals != env.globals)) = false)
    (h : ∀ (h' : Heap) (tk : Nat) (oC' : Obj) (m₂ : Str → Option Value), m₂ = upds mC elts xs → NsObj oC' m₂ → Fr h₀ L h' m → News h₀ L h' (led ++ (env.locals, oC') :: own) → OwnOff ((env.locals, oC') :: own) (led.map (·.1)) → Q () { s with heap := h', toks := tk }) :
    wpAny (model prog w) A (assign (.Tuple elts kk tp) env (.ref T)) Q E s := by
  refine asg_tuple hh ⟨_, ht, rfl, _, rfl⟩ ha hl hk hp (hN.ns (N (env.locals, oC) (List.mem_append_right _ (List.mem_cons_self ..))).1) fun h' tk hn' hk' => ?_
  obtain ⟨oC', h1, h2, h3, h4⟩ := comp_led F N ho hC hn' hk'
  exact h h' tk oC' _ rfl h1 h2 h3 h4

/-- what a comprehension wants of its iterator; Fin: what is wanted of the made list -/
inductive CompAt (prog : Program) (w : World) (A : Around) (h₀ : Heap) (L : Addr) (m : Str → Option Value) (env : Env) (target elt : Expr) (ifs : List Expr) (scope : Scope) (cl : List (Str × Addr)) (Fin : Shared → Addr → List Value → Nat → List Cell → Heap → Nat → Prop) (it : Value) (s₂ : Shared) : Prop where
  | mk (led fix : List Cell) (n : Nat) (P : Nat → Value → Heap → Heap → Prop) (J : Nat → List Value → List Cell → Prop) (h1 : Pack prog w A h₀ L target it s₂ m led fix n P) (h2 : n ≤ sizeLine) (h3 : J 0 [] led) (h4 : ∀ C i v ys led₁ own hp h tk oC mC, i < n → P i v hp h → (∀ p ∈ led₁ ++ (C, oC) :: own, p.1 < hp.objs.size) → L < hp.objs.size → h₀.objs.size ≤ hp.objs.size → J i ys led₁ → ys.length ≤ i → (∀ p ∈ fix, p ∈ led₁) → OwnOff ((C, oC) :: own) (led₁.map (·.1)) → (∀ p ∈ own, p.1 ≠ C) → NsObj oC mC → Fr h₀ L h m → News h₀ L h (led₁ ++ (C, oC) :: own) →
      CTurn prog w A h₀ L m (compEnvC scope cl C env) target ifs elt C fix own (J (i + 1)) ys v { s₂ with heap := h, toks := tk }) (h5 : ∀ D ys c led' h' tk, News h₀ L h' ((D, listOf (List.toArray ys) c) :: led') → (∀ p ∈ led', p.1 ≠ D) → J n ys led' → Fin s₂ D ys c led' h' tk) : CompAt prog w A h₀ L m env target elt ifs scope cl Fin it s₂

theorem CompAt.of_pack {target elt : Expr} {ifs : List Expr} {L : Addr} {it : Value} {s₂ : Shared} {m : Str → Option Value} {led fix : List Cell} {n : Nat} {P : Nat → Value → Heap → Heap → Prop} {scope : Scope} {cl : List (Str × Addr)} {Fin : Shared → Addr → List Value → Nat → List Cell → Heap → Nat → Prop} (J : Nat → List Value → List Cell → Prop)
    (pk : Pack prog w A h₀ L target it s₂ m led fix n P) (hn : n ≤ sizeLine) (h0 : J 0 [] led)
    (step : ∀ C i v ys led₁ own hp h tk oC mC, i < n → P i v hp h → (∀ p ∈ led₁ ++ (C, oC) :: own, p.1 < hp.objs.size) → L < hp.objs.size → h₀.objs.size ≤ hp.objs.size → J i ys led₁ → ys.length ≤ i → (∀ p ∈ fix, p ∈ led₁) → OwnOff ((C, oC) :: own) (led₁.map (·.1)) → (∀ p ∈ own, p.1 ≠ C) → NsObj oC mC → Fr h₀ L h m → News h₀ L h (led₁ ++ (C, oC) :: own) →
      CTurn prog w A h₀ L m (compEnvC scope cl C env) target ifs elt C fix own (J (i + 1)) ys v { s₂ with heap := h, toks := tk })
    (done : ∀ D ys c led' h' tk, News h₀ L h' ((D, listOf (List.toArray ys) c) :: led') → (∀ p ∈ led', p.1 ≠ D) → J n ys led' → Fin s₂ D ys c led' h' tk) :
    CompAt prog w A h₀ L m env target elt ifs scope cl Fin it s₂ := ⟨led, fix, n, P, J, pk, hn, h0, step, done⟩

noncomputable def finE (h₀ : Heap) (L : Addr) (m : Str → Option Value) (Q : Value → Shared → Prop) (s₂ : Shared) (D : Addr) (_ys : List Value) (_c : Nat) (_led : List Cell) (h' : Heap) (tk : Nat) : Prop :=
  Fr h₀ L h' m → Q (.ref D) { s₂ with heap := h', toks := tk }
noncomputable def finA (h₀ : Heap) (L : Addr) (m : Str → Option Value) (y : Str) (Q : Flow → Shared → Prop) (s₂ : Shared) (D : Addr) (_ys : List Value) (_c : Nat) (_led : List Cell) (h' : Heap) (tk : Nat) : Prop :=
  Fr h₀ L h' (fun z => if z = y then some (.ref D) else m z) → Q .next { s₂ with heap := h', toks := tk }

theorem ListComp_at {L : Addr} {m : Str → Option Value} {target elt iter : Expr} {ifs : List Expr} {scope : Scope} {cl : List (Str × Addr)} {pos : Pos} {Q : Value → Shared → Prop} (F₀ : Fr h₀ L s.heap m)
    (hclos : closureFor scope env = pure cl) (hcell : ∀ y ∈ scope.names, y.2 ≠ .cell) (hkind : scope.kind = .function)
    (hnames : ∀ y ∈ scope.names, y.2 = .local → scope.names.lookup y.1 = some .local)
    (h : wpAny (model prog w) A (eval iter env) (fun xv s₁ => wpAny (model prog w) A (pyIter xv) (fun it s₂ => CompAt prog w A h₀ L m env target elt ifs scope cl (finE h₀ L m Q) it s₂) E s₁) E s)
    (hs : ∀ x, foldedSetIterable iter env x = pure x := by intro _; rfl) :
    wpAny (model prog w) A (eval (.ListComp elt [⟨target, iter, ifs, 0⟩] scope pos) env) Q E s := by
  rw [eval_ListComp]
  refine wpAny_comprehension_free (use := none) rfl hs hclos hkind hnames (wpAny_mono h (fun xv s₁ h₁ => wpAny_mono h₁ (fun it s₂ h₂ => ?_) fun _ _ e => e) fun _ _ e => e)
  obtain ⟨led, fix, n, P, J, pk, hn, h0, step, done⟩ := h₂
  obtain ⟨I, fp, wr, St, rfl, W, hLf, hwr, hfp, hfix, hnw, hflt, hst, F, N⟩ := pk.ex
  refine comp_itr fix J W hn hcell hkind hLf hwr hfp hfix hnw hflt hst F N h0 step ?_
  intro D C h' tk mC ys c led' hDC hns hC0 hLC hlC F' N' hlD hJ
  refine ⟨mC, hns, fun h'' hs'' => done D ys.toList c led' h'' tk (fun p hp => ?_) hlD hJ (F'.change hs'' (Ne.symm hLC) hC0)⟩
  refine ⟨hs''.extBut _ _ ?_ (N' p (by simpa using hp)).1, (N' p (by simpa using hp)).2⟩
  rcases List.mem_cons.mp hp with rfl | hp
  · exact hDC
  · exact hlC p hp

theorem Assign_ListComp_at {m : Str → Option Value} {target elt iter : Expr} {ifs : List Expr} {y : Str} {py : Pos} {scope : Scope} {cl : List (Str × Addr)} {pos spos : Pos} {Q : Flow → Shared → Prop} (F₀ : Fr h₀ env.locals s.heap m)
    (hsw : swapsWith (.ListComp elt [⟨target, iter, ifs, 0⟩] scope pos) (some (.Name y py)) spos.line env = pure true)
    (hclos : closureFor scope env = pure cl) (hcell : ∀ z ∈ scope.names, z.2 ≠ .cell) (hkind : scope.kind = .function)
    (hnames : ∀ z ∈ scope.names, z.2 = .local → scope.names.lookup z.1 = some .local)
    (hy : env.kindOf y = some .local) (hp : (env.scope.kind == .class || (env.scope.kind == .module && env.locals != env.globals)) = false)
    (h : wpAny (model prog w) A (eval iter env) (fun xv s₁ => wpAny (model prog w) A (pyIter xv) (fun it s₂ => CompAt prog w A h₀ env.locals m env target elt ifs scope cl (finA h₀ env.locals m y Q) it s₂) E s₁) E s)
    (hs : ∀ x, foldedSetIterable iter env x = pure x := by intro _; rfl) :
    wpAny (model prog w) A (exec (.Assign [.Name y py] (.ListComp elt [⟨target, iter, ifs, 0⟩] scope pos) spos) env) Q E s := by
  rw [exec_Assign_Name_used _ _ _ _ hsw]
  refine wpAny_bind (wpAny_standAt (wpAny_bind ?_))
  show wpAny _ A (do let _ ← comprehension (.ListComp elt [⟨target, iter, ifs, 0⟩] scope pos) scope env _ (newList []) false (eval iter env) (some (assign (.Name y py) env))) _ _ s
  refine wpAny_bind (wpAny_mono (wpAny_comprehension_free (use := some (assign (.Name y py) env)) (Q := fun _ s' => Q .next s') rfl hs hclos hkind hnames
    (wpAny_mono h (fun xv s₁ h₁ => wpAny_mono h₁ (fun it s₂ h₂ => ?_) fun _ _ e => e) fun _ _ e => e)) (fun _ s' hq => wpAny_pure (wpAny_pure hq)) fun _ _ e => e)
  obtain ⟨led, fix, n, P, J, pk, hn, h0, step, done⟩ := h₂
  obtain ⟨I, fp, wr, St, rfl, W, hLf, hwr, hfp, hfix, hnw, hflt, hst, F, N⟩ := pk.ex
  refine comp_itr fix J W hn hcell hkind hLf hwr hfp hfix hnw hflt hst F N h0 step ?_
  intro D C h' tk mC ys c led' hDC hns hC0 hLC hlC F' N' hlD hJ
  show wpAny _ A (assign (.Name y py) env (.ref D)) _ _ _
  refine wpAny_assign_Name (wpAny_storeName_local hy F'.ns (fun h₂ hn₂ hs₂ => ?_) hp)
  have hL₀ : h₀.get? env.locals = none := Heap.get?_none_of_le F'.above
  have F₂ : Fr h₀ env.locals h₂ (fun z => if z = y then some (.ref D) else m z) := ⟨hn₂, fun b o e => hs₂.extBut b o (fun q => by rw [q, hL₀] at e; cases e) (F'.keep b o e), F'.above⟩
  refine ⟨mC, hns.sameBut hs₂ (Ne.symm hLC), fun h'' hs'' => done D ys.toList c led' h'' _ (fun p hp => ?_) hlD hJ (F₂.change hs'' (Ne.symm hLC) hC0)⟩
  have z : h₂.get? p.1 = some p.2 := hs₂.extBut _ _ (N' p (by simpa using hp)).2.1 (N' p (by simpa using hp)).1
  refine ⟨hs''.extBut _ _ ?_ z, (N' p (by simpa using hp)).2⟩
  rcases List.mem_cons.mp hp with rfl | hp
  · exact hDC
  · exact hlC p hp
theorem While_two {Q : Flow → Shared → Prop} {L : Addr} {a b : Str} {lf : Addr} {dv : Value} {m₀ : Str → Option Value} {test : Expr} {body : List Stmt} {pos : Pos} {news : List Cell} (J : Addr → (Str → Option Value) → Nat → (Str → Option Value) → List Cell → Prop) {n₀ : Nat}
    (F : Fr h₀ L s.heap (fun y => if y = a then some (.ref lf) else if y = b then some dv else m₀ y)) (N : News h₀ L s.heap news) (hJ : J lf m₀ n₀ (fun y => if y = a then some (.ref lf) else if y = b then some dv else m₀ y) news)
    (turn : ∀ n m₁ news₁ h₁ tk₁, Fr h₀ L h₁ m₁ → News h₀ L h₁ news₁ → J lf m₀ n m₁ news₁ →
      wpAny (model prog w) A (isTrue test env (eval test env)) (fun b s₂ =>
        if b = true then wpAny (model prog w) A (execs body env) (WhileStep h₀ L s (J lf m₀) n) E s₂ else Q .next s₂) E { s with heap := h₁, toks := tk₁ })
    (hE : PassesOwn (model prog w) A env E := by passes_own) :
    wpAny (model prog w) A (exec (.While test body [] pos) env) Q E s := While_inv (J lf m₀) F N hJ turn hE
end
end
section
open PySem PySem.W PySem.Calls PyProof.Rows
open PyProof.Rows.LCg (NsObj)
section
variable {prog : Program} {w : World} {A : Around} {E : Value → Shared → Prop} {s : Shared} {env : Env} {h₀ : Heap}
/-- what a turn of a comprehension leaves: the ledger as it stood, and more -/
inductive CGrow_out (h₀ : Heap) (L : Addr) (m : Str → Option Value) (led : List Cell) (tl : List Cell) (C : Addr) (own : List Cell) (K : List Cell → Prop) (s₁ : Shared) (s₂ : Shared) : Prop where
  | mk (h' : _) (tk : _) (add : _) (oC' : _) (mC' : _) (news' : _) (h1 : s₂ = { s₁ with heap := h', toks := tk }) (h2 : Fr h₀ L h' m) (h3 : News h₀ L h' news') (h4 : (∀ p ∈ led ++ ((add ++ tl) ++ (C, oC') :: own), p ∈ news')) (h5 : NsObj oC' mC') (h6 : OwnOff add (led.map (·.1))) (h7 : OwnOff add (tl.map (·.1))) (h8 : OwnOff add (C :: own.map (·.1))) (h9 : K (add ++ tl)) : CGrow_out h₀ L m led tl C own K s₁ s₂
structure CGrow (h₀ : Heap) (L : Addr) (m : Str → Option Value) (led tl : List Cell) (C : Addr) (own : List Cell) (K : List Cell → Prop) (s₁ s₂ : Shared) : Prop where
  out : CGrow_out h₀ L m led tl C own K s₁ s₂
theorem CGrow.intro {L : Addr} {m : Str → Option Value} {led tl : List Cell} {C : Addr} {own : List Cell} {K : List Cell → Prop} {s₁ : Shared} {h' : Heap} {tk : Nat} {news' : List Cell} {oC' : Obj} {mC' : Str → Option Value} (add : List Cell) (F : Fr h₀ L h' m) (N : News h₀ L h' news')
    (hs : ∀ p ∈ led ++ ((add ++ tl) ++ (C, oC') :: own), p ∈ news') (hn : NsObj oC' mC') (h1 : OwnOff add (led.map (·.1))) (h2 : OwnOff add (tl.map (·.1))) (h3 : OwnOff add (C :: own.map (·.1))) (hK : K (add ++ tl)) :
    CGrow h₀ L m led tl C own K s₁ { s₁ with heap := h', toks := tk } := ⟨h', tk, add, oC', mC', news', rfl, F, N, hs, hn, h1, h2, h3, hK⟩
theorem offSym {add : List Cell} {C : Addr} {own : List Cell} (h : OwnOff add (C :: own.map (·.1))) {oC : Obj} : ∀ p ∈ (C, oC) :: own, ∀ q ∈ add, p.1 ≠ q.1 := by
  intro p hp q hq e
  rcases List.mem_cons.mp hp with rfl | hp
  · exact h q hq C (List.mem_cons_self ..) e.symm
  · exact h q hq p.1 (List.mem_cons_of_mem _ (List.mem_map.mpr ⟨p, hp, rfl⟩)) e.symm

noncomputable def GrowTurn (prog : Program) (w : World) (A : Around) (h₀ : Heap) (L : Addr) (m : Str → Option Value) (cenv : Env) (ifs : List Expr) (elt : Expr) (led tl : List Cell) (C : Addr) (own : List Cell) (K : List Value → List Cell → Prop) (ys : List Value) (s : Shared) (E' : Value → Shared → Prop) (s₃ : Shared) : Prop :=
  wpAny (model prog w) A (forIn ifs true fun c r => if r = true then do let ok ← isTrue c cenv (eval c cenv); pure (ForInStep.yield ok) else pure (ForInStep.yield r))
    (fun ok s₄ => if ok = true then wpAny (model prog w) A (eval elt cenv) (fun y s₅ => CGrow h₀ L m led tl C own (K (ys ++ [y])) s s₅) E' s₄ else CGrow h₀ L m led tl C own (K ys) s s₄) E' s₃

theorem growTurn_nil {L : Addr} {m : Str → Option Value} {cenv : Env} {elt : Expr} {led tl : List Cell} {C : Addr} {own : List Cell} {K : List Value → List Cell → Prop} {ys : List Value} {s s₃ : Shared} {E' : Value → Shared → Prop}
    (h : wpAny (model prog w) A (eval elt cenv) (fun y s₅ => CGrow h₀ L m led tl C own (K (ys ++ [y])) s s₅) E' s₃) : GrowTurn prog w A h₀ L m cenv [] elt led tl C own K ys s E' s₃ := by
  unfold GrowTurn
  rw [List.forIn_nil]
  exact wpAny_pure (by simpa using h)
theorem growTurn_one {L : Addr} {m : Str → Option Value} {cenv : Env} {c elt : Expr} {led tl : List Cell} {C : Addr} {own : List Cell} {K : List Value → List Cell → Prop} {ys : List Value} {s s₃ : Shared} {E' : Value → Shared → Prop}
    (h : wpAny (model prog w) A (isTrue c cenv (eval c cenv)) (fun ok s₄ => if ok = true then wpAny (model prog w) A (eval elt cenv) (fun y s₅ => CGrow h₀ L m led tl C own (K (ys ++ [y])) s s₅) E' s₄ else CGrow h₀ L m led tl C own (K ys) s s₄) E' s₃) : GrowTurn prog w A h₀ L m cenv [c] elt led tl C own K ys s E' s₃ := by
  unfold GrowTurn
  rw [List.forIn_cons]
  simp only [if_true]
  refine wpAny_bind (wpAny_bind (wpAny_mono h (fun ok s₄ h₄ => ?_) fun _ _ e => e))
  refine wpAny_pure ?_
  show wpAny _ _ (forIn [] ok _) _ _ _
  rw [List.forIn_nil]
  exact wpAny_pure h₄

theorem comp_grow {target elt : Expr} {ifs : List Expr} {L : Addr} {it : Value} {s₂ : Shared} {m : Str → Option Value} {led fix : List Cell} {n : Nat} {P : Nat → Value → Heap → Heap → Prop} {scope : Scope} {cl : List (Str × Addr)} {Fin : Shared → Addr → List Value → Nat → List Cell → Heap → Nat → Prop} (K : Nat → List Value → List Cell → Prop)
    (pk : Pack prog w A h₀ L target it s₂ m led fix n P) (hn : n ≤ sizeLine) (hfix : ∀ p ∈ fix, p ∈ led) (h0 : K 0 [] [])
    (turn : ∀ C i v ys tl own hp h tk oC mC E', i < n → P i v hp h → (∀ p ∈ led ++ (tl ++ (C, oC) :: own), p.1 < hp.objs.size) → L < hp.objs.size → h₀.objs.size ≤ hp.objs.size → K i ys tl → ys.length ≤ i → OwnOff tl (led.map (·.1)) → OwnOff ((C, oC) :: own) ((led ++ tl).map (·.1)) → (∀ p ∈ own, p.1 ≠ C) → NsObj oC mC → Fr h₀ L h m → News h₀ L h ((led ++ tl) ++ (C, oC) :: own) →
      wpAny (model prog w) A (assign target (compEnvC scope cl C env) v) (fun _ s₃ => GrowTurn prog w A h₀ L m (compEnvC scope cl C env) ifs elt led tl C own (K (i + 1)) ys { s₂ with heap := h, toks := tk } E' s₃) E' { s₂ with heap := h, toks := tk })
    (done : ∀ D ys tl c h' tk, OwnOff tl (led.map (·.1)) → News h₀ L h' ((D, listOf (List.toArray ys) c) :: (led ++ tl)) → (∀ p ∈ led ++ tl, p.1 ≠ D) → K n ys tl → Fin s₂ D ys c (led ++ tl) h' tk) :
    CompAt prog w A h₀ L m env target elt ifs scope cl Fin it s₂ := by
  refine CompAt.of_pack (fun i ys led' => ∃ tl, led' = led ++ tl ∧ OwnOff tl (led.map (·.1)) ∧ K i ys tl) pk hn ⟨[], (List.append_nil _).symm, offNil, h0⟩ ?_ ?_
  · rintro C i v ys _ own hp h tk oC mC hi hP hlt hL hb ⟨tl, rfl, ht, hK⟩ hys hf ho hoC hN F N
    intro E'
    refine wpAny_mono (turn C i v ys tl own hp h tk oC mC E' hi hP (fun p hp' => hlt p (by rw [List.append_assoc]; exact hp')) hL hb hK hys ht ho hoC hN F N) (fun _ s₃ h₃ => wpAny_mono h₃ (fun ok s₄ h₄ => ?_) fun _ _ e => e) fun _ _ e => e
    have fin : ∀ (ys' : List Value) (s₁ s₅ : Shared), CGrow h₀ L m led tl C own (K (i + 1) ys') s₁ s₅ → CEnd h₀ L m C fix own (fun led' => ∃ tl, led' = led ++ tl ∧ OwnOff tl (led.map (·.1)) ∧ K (i + 1) ys' tl) s₁ s₅ := by
      rintro ys' s₁ s₅ ⟨h', tk', add, oC', mC', news', rfl, F', N', hs, hn', h1, h2, h3, hK'⟩
      refine CEnd.intro (led' := led ++ (add ++ tl)) (oC' := oC') (mC' := mC') F' N' (by rw [List.append_assoc]; exact hs) hn' ?_ (fun p hp => List.mem_append_left _ (hfix p hp)) ⟨_, rfl, offApp h1 ht, hK'⟩
      intro p hp b hb'
      obtain ⟨q, hq, rfl⟩ := List.mem_map.mp hb'
      have hpC : p.1 = C ∨ p ∈ own := (List.mem_cons.mp hp).elim (fun e => .inl (by rw [e])) .inr
      have old : ∀ q ∈ led ++ tl, p.1 ≠ q.1 := fun q hq => by
        rcases hpC with e | hp'
        · rw [e]; exact ho (C, oC) (List.mem_cons_self ..) q.1 (List.mem_map.mpr ⟨q, hq, rfl⟩)
        · exact ho p (List.mem_cons_of_mem _ hp') q.1 (List.mem_map.mpr ⟨q, hq, rfl⟩)
      rcases List.mem_append.mp hq with hq | hq
      · exact old q (List.mem_append_left _ hq)
      · rcases List.mem_append.mp hq with hq | hq
        · exact offSym h3 p hp q hq
        · exact old q (List.mem_append_right _ hq)
    cases ok with
    | true =>
      simp only [if_true] at h₄ ⊢
      exact wpAny_mono h₄ (fun y s₅ h₅ => fin _ _ _ h₅) fun _ _ e => e
    | false =>
      simp only [Bool.false_eq_true, if_false] at h₄ ⊢
      exact fin _ _ _ h₄
  · rintro D ys c _ h' tk N' hD ⟨tl, rfl, ht, hK⟩
    exact done D ys tl c h' tk ht N' hD hK

theorem comp_list {x : Str} {px : Pos} {elt : Expr} {ifs : List Expr} {L l : Addr} {vs : List Value} {nn : Nat} {m : Str → Option Value} {led : List Cell} {scope : Scope} {cl : List (Str × Addr)} {Fin : Shared → Addr → List Value → Nat → List Cell → Heap → Nat → Prop} (K : Nat → List Value → List Cell → Prop)
    (hh : A.handled = none) (F : Fr h₀ L s.heap m) (N : News h₀ L s.heap led) (hl : (l, listOf vs.toArray nn) ∈ led) (hn : vs.length ≤ sizeLine) (h0 : K 0 [] [])
    (hx : ∀ C, (compEnvC scope cl C env).kindOf x = some .local) (hkd : ∀ C, ((compEnvC scope cl C env).scope.kind == .class || ((compEnvC scope cl C env).scope.kind == .module && (compEnvC scope cl C env).locals != (compEnvC scope cl C env).globals)) = false)
    (turn : ∀ (C : Addr) i v ys tl own h tk h₁ tk₁ oC m₂ E', vs[i]? = some v → K i ys tl → ys.length ≤ i → OwnOff tl (led.map (·.1)) → OwnOff ((C, oC) :: own) ((led ++ tl).map (·.1)) → (∀ p ∈ own, p.1 ≠ C) → NsObj oC m₂ → m₂ x = some v → Fr h₀ L h₁ m → News h₀ L h₁ ((led ++ tl) ++ (C, oC) :: own) →
      GrowTurn prog w A h₀ L m (compEnvC scope cl C env) ifs elt led tl C own (K (i + 1)) ys { s with heap := h, toks := tk } E' { s with heap := h₁, toks := tk₁ })
    (done : ∀ s₂ D ys tl c h' tk, (∃ h, s₂ = { s with heap := h }) → OwnOff tl (led.map (·.1)) → News h₀ L h' ((D, listOf (List.toArray ys) c) :: (led ++ tl)) → (∀ p ∈ led ++ tl, p.1 ≠ D) → K vs.length ys tl → Fin s₂ D ys c (led ++ tl) h' tk) :
    wpAny (model prog w) A (pyIter (.ref l)) (fun it s₂ => CompAt prog w A h₀ L m env (.Name x px) elt ifs scope cl Fin it s₂) E s := by
  refine pack_list hh F N hl fun it h' pk => comp_grow K pk hn (fun p hp => by rw [List.mem_singleton.mp hp]; exact hl) h0 ?_ fun D ys tl c h' tk a b c' d => done _ D ys tl c h' tk ⟨_, rfl⟩ a b c' d
  intro C i v ys tl own hp h tk oC mC E' hi hP hlt hL hb hK hys ht ho hoC hN F₁ N₁
  exact asgCn (env := compEnvC scope cl C env) F₁ N₁ ho hoC hN (hx C) (hkd C) fun h₂ tk₂ oC' m₂ q1 q2 q3 q4 q5 => turn C i v ys tl own h tk h₂ tk₂ oC' m₂ E' hP hK hys ht q5 hoC q1 q2 q3 q4

theorem comp_listT {elts : List Expr} {kk : Nat} {tp : Pos} {elt : Expr} {ifs : List Expr} {L l : Addr} {vs : List Value} {nn : Nat} {m : Str → Option Value} {led : List Cell} {scope : Scope} {cl : List (Str × Addr)} {Fin : Shared → Addr → List Value → Nat → List Cell → Heap → Nat → Prop} (K : Nat → List Value → List Cell → Prop)
    (hh : A.handled = none) (F : Fr h₀ L s.heap m) (N : News h₀ L s.heap led) (hl : (l, listOf vs.toArray nn) ∈ led) (hn : vs.length ≤ sizeLine) (h0 : K 0 [] [])
    (hv : ∀ (i : Nat) (v : Value), vs[i]? = some v → ∃ T xs c, v = Value.ref T ∧ (T, tupO xs c) ∈ led ∧ xs.length = elts.length)
    (ha : elts.all isName = true) (hx : ∀ C, ∀ e ∈ elts, (compEnvC scope cl C env).kindOf (nameOf e) = some .local) (hkd : ∀ C, ((compEnvC scope cl C env).scope.kind == .class || ((compEnvC scope cl C env).scope.kind == .module && (compEnvC scope cl C env).locals != (compEnvC scope cl C env).globals)) = false)
    (turn : ∀ (C : Addr) i T xs nx ys tl own h tk h₁ tk₁ oC m₁ m₂ E', vs[i]? = some (.ref T) → (T, tupO xs nx) ∈ led → K i ys tl → ys.length ≤ i → OwnOff tl (led.map (·.1)) → OwnOff ((C, oC) :: own) ((led ++ tl).map (·.1)) → (∀ p ∈ own, p.1 ≠ C) → m₂ = upds m₁ elts xs → NsObj oC m₂ → Fr h₀ L h₁ m → News h₀ L h₁ ((led ++ tl) ++ (C, oC) :: own) →
      GrowTurn prog w A h₀ L m (compEnvC scope cl C env) ifs elt led tl C own (K (i + 1)) ys { s with heap := h, toks := tk } E' { s with heap := h₁, toks := tk₁ })
    (done : ∀ s₂ D ys tl c h' tk, (∃ h, s₂ = { s with heap := h }) → OwnOff tl (led.map (·.1)) → News h₀ L h' ((D, listOf (List.toArray ys) c) :: (led ++ tl)) → (∀ p ∈ led ++ tl, p.1 ≠ D) → K vs.length ys tl → Fin s₂ D ys c (led ++ tl) h' tk) :
    wpAny (model prog w) A (pyIter (.ref l)) (fun it s₂ => CompAt prog w A h₀ L m env (.Tuple elts kk tp) elt ifs scope cl Fin it s₂) E s := by
  refine pack_list hh F N hl fun it h' pk => comp_grow K pk hn (fun p hp => by rw [List.mem_singleton.mp hp]; exact hl) h0 ?_ fun D ys tl c h' tk a b c' d => done _ D ys tl c h' tk ⟨_, rfl⟩ a b c' d
  intro C i v ys tl own hp h tk oC mC E' hi hP hlt hL hb hK hys ht ho hoC hN F₁ N₁
  obtain ⟨T, xs, c, rfl, hm, hlen⟩ := hv i v hP
  exact asgC (env := compEnvC scope cl C env) hh F₁ N₁ ho hoC hN (N₁ _ (List.mem_append_left _ (List.mem_append_left _ hm))).1 ha hlen.symm (hx C) (hkd C) fun h₂ tk₂ oC' m₂ q1 q2 q3 q4 q5 => turn C i T xs c ys tl own h tk h₂ tk₂ oC' mC m₂ E' hP hm hK hys ht q5 hoC q1 q2 q3 q4

theorem comp_range {x : Str} {px : Pos} {elt : Expr} {ifs : List Expr} {L r : Addr} {a b : Int} {t u v : Tok} {n : Nat} {m : Str → Option Value} {led : List Cell} {scope : Scope} {cl : List (Str × Addr)} {Fin : Shared → Addr → List Value → Nat → List Cell → Heap → Nat → Prop} (K : Nat → List Value → List Cell → Prop)
    (hh : A.handled = none) (F : Fr h₀ L s.heap m) (N : News h₀ L s.heap led) (hr : IsRange s.heap r a b 1 t u v) (hsm : Builtin.Range.small a b 1 = true) (hrn : Builtin.Range.rangeSize a b 1 = ((n : Nat) : Int)) (hn : n ≤ sizeLine) (h0 : K 0 [] [])
    (hx : ∀ C, (compEnvC scope cl C env).kindOf x = some .local) (hkd : ∀ C, ((compEnvC scope cl C env).scope.kind == .class || ((compEnvC scope cl C env).scope.kind == .module && (compEnvC scope cl C env).locals != (compEnvC scope cl C env).globals)) = false)
    (turn : ∀ (C : Addr) i t ys tl own h tk h₁ tk₁ oC m₂ E', i < n → K i ys tl → ys.length ≤ i → OwnOff tl (led.map (·.1)) → OwnOff ((C, oC) :: own) ((led ++ tl).map (·.1)) → (∀ p ∈ own, p.1 ≠ C) → NsObj oC m₂ → m₂ x = some (.int (a + (i : Int)) t) → Fr h₀ L h₁ m → News h₀ L h₁ ((led ++ tl) ++ (C, oC) :: own) →
      GrowTurn prog w A h₀ L m (compEnvC scope cl C env) ifs elt led tl C own (K (i + 1)) ys { s with heap := h, toks := tk } E' { s with heap := h₁, toks := tk₁ })
    (done : ∀ s₂ D ys tl c h' tk, (∃ h, s₂ = { s with heap := h }) → OwnOff tl (led.map (·.1)) → News h₀ L h' ((D, listOf (List.toArray ys) c) :: (led ++ tl)) → (∀ p ∈ led ++ tl, p.1 ≠ D) → K n ys tl → Fin s₂ D ys c (led ++ tl) h' tk) :
    wpAny (model prog w) A (pyIter (.ref r)) (fun it s₂ => CompAt prog w A h₀ L m env (.Name x px) elt ifs scope cl Fin it s₂) E s := by
  refine pack_range hh F N hr hsm hrn fun it h' pk => comp_grow K pk hn (fun _ h => nomatch h) h0 ?_ fun D ys tl c h' tk a b c' d => done _ D ys tl c h' tk ⟨_, rfl⟩ a b c' d
  intro C i v ys tl own hp h tk oC mC E' hi hP hlt hL hb hK hys ht ho hoC hN F₁ N₁
  obtain ⟨t, rfl⟩ := hP
  exact asgCn (env := compEnvC scope cl C env) F₁ N₁ ho hoC hN (hx C) (hkd C) fun h₂ tk₂ oC' m₂ q1 q2 q3 q4 q5 => turn C i t ys tl own h tk h₂ tk₂ oC' m₂ E' hi hK hys ht q5 hoC q1 q2 q3 q4

theorem comp_enum {elts : List Expr} {kk : Nat} {tp : Pos} {elt : Expr} {ifs : List Expr} {L l : Addr} {vs : List Value} {nn : Nat} {m : Str → Option Value} {led : List Cell} {scope : Scope} {cl : List (Str × Addr)} {Fin : Shared → Addr → List Value → Nat → List Cell → Heap → Nat → Prop} (K : Nat → List Value → List Cell → Prop)
    (hh : A.handled = none) (F : Fr h₀ L s.heap m) (N : News h₀ L s.heap led) (hl : (l, listOf vs.toArray nn) ∈ led) (hn : vs.length ≤ sizeLine) (h0 : K 0 [] [])
    (ha : elts.all isName = true) (hlen : elts.length = 2) (hx : ∀ C, ∀ e ∈ elts, (compEnvC scope cl C env).kindOf (nameOf e) = some .local) (hkd : ∀ C, ((compEnvC scope cl C env).scope.kind == .class || ((compEnvC scope cl C env).scope.kind == .module && (compEnvC scope cl C env).locals != (compEnvC scope cl C env).globals)) = false)
    (turn : ∀ (C : Addr) i v ti ys tl own h tk h₁ tk₁ oC m₁ m₂ E', vs[i]? = some v → K i ys tl → ys.length ≤ i → OwnOff tl (led.map (·.1)) → OwnOff ((C, oC) :: own) ((led ++ tl).map (·.1)) → (∀ p ∈ own, p.1 ≠ C) → m₂ = upds m₁ elts [.int (i : Nat) ti, v] → NsObj oC m₂ → Fr h₀ L h₁ m → News h₀ L h₁ ((led ++ tl) ++ (C, oC) :: own) →
      GrowTurn prog w A h₀ L m (compEnvC scope cl C env) ifs elt led tl C own (K (i + 1)) ys { s with heap := h, toks := tk } E' { s with heap := h₁, toks := tk₁ })
    (done : ∀ s₂ D ys tl c h' tk, (∃ h, s₂ = { s with heap := h }) → OwnOff tl (led.map (·.1)) → News h₀ L h' ((D, listOf (List.toArray ys) c) :: (led ++ tl)) → (∀ p ∈ led ++ tl, p.1 ≠ D) → K vs.length ys tl → Fin s₂ D ys c (led ++ tl) h' tk) :
    wpAny (model prog w) A (call (.type "enumerate") [.ref l]) (fun xv s₁ => wpAny (model prog w) A (pyIter xv) (fun it s₂ => CompAt prog w A h₀ L m env (.Tuple elts kk tp) elt ifs scope cl Fin it s₂) E s₁) E s := by
  refine pack_enum hh F N hl fun it h' pk => comp_grow K pk hn (fun p hp => by rw [List.mem_singleton.mp hp]; exact hl) h0 ?_ fun D ys tl c h' tk a b c' d => done _ D ys tl c h' tk ⟨_, rfl⟩ a b c' d
  intro C i v ys tl own hp h tk oC mC E' hi hP hlt hL hb hK hys ht ho hoC hN F₁ N₁
  obtain ⟨T, x, ti, rfl, hT, hT2, hxi⟩ := hP
  exact asgC (env := compEnvC scope cl C env) hh F₁ N₁ ho hoC hN hT2 ha hlen (hx C) (hkd C) fun h₂ tk₂ oC' m₂ q1 q2 q3 q4 q5 => turn C i x ti ys tl own h tk h₂ tk₂ oC' mC m₂ E' hxi hK hys ht q5 hoC q1 q2 q3 q4
end
end
section
open PySem PySem.W PySem.Calls PyProof.Rows
set_option maxRecDepth 100000
mutual
inductive RIn (T : List Cell) : Value → PyData → Prop
  | none : RIn T .none .none
  | bool (b : Bool) : RIn T (.bool b) (.bool b)
  | int (i : Int) (t : Tok) : RIn T (.int i t) (.int i)
  | str (x : Str) (t : Tok) : RIn T (.str x t) (.str x)
  | tuple {a : Addr} {vs : List Value} {n : Nat} {ds : List PyData} : (a, tupO vs n) ∈ T → RAll T vs ds → RIn T (.ref a) (.tuple ds)
  | list {a : Addr} {vs : List Value} {n : Nat} {ds : List PyData} : (a, listOf vs.toArray n) ∈ T → RAll T vs ds → RIn T (.ref a) (.list ds)
inductive RAll (T : List Cell) : List Value → List PyData → Prop
  | nil : RAll T [] []
  | cons {v : Value} {vs : List Value} {d : PyData} {ds : List PyData} : RIn T v d → RAll T vs ds → RAll T (v :: vs) (d :: ds)
end
theorem RIn.mono {T T' : List Cell} (hs : ∀ p ∈ T, p ∈ T') {v : Value} {d : PyData} (h : RIn T v d) : RIn T' v d :=
  RIn.rec (motive_1 := fun v d _ => RIn T' v d) (motive_2 := fun vs ds _ => RAll T' vs ds) .none (fun b => .bool b) (fun i t => .int i t) (fun x t => .str x t) (fun hm _ ih => .tuple (hs _ hm) ih) (fun hm _ ih => .list (hs _ hm) ih) .nil (fun _ _ i j => .cons i j) h
theorem RAll.mono {T T' : List Cell} (hs : ∀ p ∈ T, p ∈ T') {vs : List Value} {ds : List PyData} (h : RAll T vs ds) : RAll T' vs ds :=
  RAll.rec (motive_1 := fun v d _ => RIn T' v d) (motive_2 := fun vs ds _ => RAll T' vs ds) .none (fun b => .bool b) (fun i t => .int i t) (fun x t => .str x t) (fun hm _ ih => .tuple (hs _ hm) ih) (fun hm _ ih => .list (hs _ hm) ih) .nil (fun _ _ i j => .cons i j) h
theorem RIn.reads {T : List Cell} {h₀ h : Heap} {L : Addr} (N : News h₀ L h T) {v : Value} {d : PyData} (x : RIn T v d) : ∃ as, Reads h v d as :=
  RIn.rec (motive_1 := fun v d _ => ∃ as, Reads h v d as) (motive_2 := fun vs ds _ => ∃ as, ReadsAll h vs ds as) ⟨_, .none⟩ (fun b => ⟨_, .bool b⟩) (fun i t => ⟨_, .int i t⟩) (fun x t => ⟨_, .str x t⟩)
    (fun hm _ ih => ih.elim fun _ ra => ⟨_, reads_tuple_at (N.get hm) rfl rfl ra⟩) (fun hm _ ih => ih.elim fun _ ra => ⟨_, reads_list_at (N.get hm) rfl rfl ra⟩) ⟨_, .nil⟩ (fun _ _ i j => i.elim fun _ ra => j.elim fun _ rb => ⟨_, .cons ra rb⟩) x
theorem RAll.reads {T : List Cell} {h₀ h : Heap} {L : Addr} (N : News h₀ L h T) {vs : List Value} {ds : List PyData} (x : RAll T vs ds) : ∃ as, ReadsAll h vs ds as :=
  RAll.rec (motive_1 := fun v d _ => ∃ as, Reads h v d as) (motive_2 := fun vs ds _ => ∃ as, ReadsAll h vs ds as) ⟨_, .none⟩ (fun b => ⟨_, .bool b⟩) (fun i t => ⟨_, .int i t⟩) (fun x t => ⟨_, .str x t⟩)
    (fun hm _ ih => ih.elim fun _ ra => ⟨_, reads_tuple_at (N.get hm) rfl rfl ra⟩) (fun hm _ ih => ih.elim fun _ ra => ⟨_, reads_list_at (N.get hm) rfl rfl ra⟩) ⟨_, .nil⟩ (fun _ _ i j => i.elim fun _ ra => j.elim fun _ rb => ⟨_, .cons ra rb⟩) x
theorem RAll.length {T : List Cell} {vs : List Value} {ds : List PyData} (h : RAll T vs ds) : vs.length = ds.length := by
  induction vs generalizing ds with
  | nil => cases h; rfl
  | cons v vs ih => cases h with | cons _ r => rw [List.length_cons, List.length_cons, ih r]
theorem RAll.append {T : List Cell} {vs us : List Value} {ds es : List PyData} (h : RAll T vs ds) (k : RAll T us es) : RAll T (vs ++ us) (ds ++ es) := by
  induction vs generalizing ds with
  | nil => cases h; exact k
  | cons v vs ih => cases h with | cons h r => exact .cons h (ih r)
/-- data that may be compared: no long text, not deep -/
structure Tame (d : PyData) : Prop where
  lay : d.canLay0 = true
  low : d.depth ≤ 8
noncomputable def TameAll (ds : List PyData) : Prop := ∀ d ∈ ds, Tame d
theorem tame_none : Tame .none := ⟨by simp [PyData.canLay0], by simp [PyData.depth]⟩
theorem tame_int {i : Int} : Tame (.int i) := ⟨by simp [PyData.canLay0], by simp [PyData.depth]⟩
theorem tame_bool {i : Bool} : Tame (.bool i) := ⟨by simp [PyData.canLay0], by simp [PyData.depth]⟩
theorem layAll {n : Nat} : ∀ {ds : List PyData}, (∀ d ∈ ds, d.canLay0 = true ∧ d.depth ≤ n) → PyData.canLayAll0 ds = true ∧ PyData.depthAll ds ≤ n
  | [], _ => ⟨by simp [PyData.canLayAll0], by simp [PyData.depthAll]⟩
  | d :: ds, h => by
    have h1 := h d (.head _)
    have h2 := layAll fun e he => h e (.tail _ he)
    simp only [PyData.canLayAll0, PyData.depthAll, h1.1, h2.1, Bool.and_self, true_and]
    omega
theorem shaped_list {ds : List PyData} (h : TameAll ds) : SeqAt.shaped (.list ds) = true := by
  have := layAll (n := 8) fun d hd => ⟨(h d hd).lay, (h d hd).low⟩
  unfold SeqAt.shaped
  simp only [PyData.canLay0, PyData.depth, this.1, Bool.true_and]
  exact decide_eq_true (by omega)
theorem shaped_tame {d : PyData} (h : Tame d) : SeqAt.shaped d = true := by
  unfold SeqAt.shaped
  rw [h.lay, Bool.true_and]
  exact decide_eq_true (Nat.le_trans h.low (by decide))
mutual
theorem eqv_refl : ∀ (d : PyData), d.canLay0 = true → PyData.eqv d d = true
  | .none, _ => by simp [PyData.eqv]
  | .bool _, _ => by simp [PyData.eqv]
  | .int _, _ => by simp [PyData.eqv]
  | .str _, _ => by simp [PyData.eqv]
  | .list xs, h => by simp only [PyData.eqv]; exact eqv_reflAll xs (by simpa [PyData.canLay0] using h)
  | .tuple xs, h => by simp only [PyData.eqv]; exact eqv_reflAll xs (by simpa [PyData.canLay0] using h)
  | .dict _, h => by simp [PyData.canLay0] at h
theorem eqv_reflAll : ∀ (ds : List PyData), PyData.canLayAll0 ds = true → PyData.eqvAll ds ds = true
  | [], _ => by simp [PyData.eqvAll]
  | d :: ds, h => by
    rw [PyData.canLayAll0, Bool.and_eq_true] at h
    simp only [PyData.eqvAll, eqv_refl d h.1, eqv_reflAll ds h.2, Bool.and_self]
end
section
variable {prog : Program} {w : World} {A : Around} {E : Value → Shared → Prop} {s : Shared} {h₀ : Heap} {L a b : Addr} {news : List Cell} {vs us : List Value} {n n' : Nat}
theorem len_led {Q : Value → Shared → Prop} (N : News h₀ L s.heap news) (hm : (a, listOf vs.toArray n) ∈ news) (hl : vs.length < 1000000) (h : Q (.int vs.length (s.toks + 1)) { s with toks := s.toks + 1 + 1 }) :
    wpAny (model prog w) A (call (.builtin "len") [.ref a]) Q E s :=
  len_list ⟨_, (N _ hm).1, rfl, n, rfl⟩ (by simp; omega) (by simpa using h)
theorem ne_nil_led {Q : Value → Shared → Prop} {ds : List PyData} (N : News h₀ L s.heap news) (ha : (a, listOf vs.toArray n) ∈ news) (hb : (b, listOf (List.toArray []) n') ∈ news) (hr : RAll news vs ds) (ht : TameAll ds) (hu : A.units + 64 < cLine)
    (h : Q (.bool (!vs.isEmpty)) s) : wpAny (model prog w) A (compareOp .NotEq (.ref a) (.ref b)) Q E s := by
  obtain ⟨as, ra⟩ := hr.reads N
  refine ne_dataH (reads_list_at (N.get ha) rfl rfl ra) (reads_list_at (N.get hb) rfl rfl .nil) (shaped_list ht) (shaped_list fun _ h => nomatch h) hu ?_
  have e : (!PyData.eqv (.list ds) (.list [])) = !vs.isEmpty := by
    have hl := hr.length
    simp only [PyData.eqv]
    cases ds <;> cases vs <;> first | (simp [PyData.eqvAll]; done) | cases hl
  rw [e]; exact h
theorem eq_nil_led {Q : Value → Shared → Prop} {ds : List PyData} (N : News h₀ L s.heap news) (ha : (a, listOf vs.toArray n) ∈ news) (hb : (b, listOf (List.toArray []) n') ∈ news) (hr : RAll news vs ds) (ht : TameAll ds) (hu : A.units + 64 < cLine)
    (h : Q (.bool vs.isEmpty) s) : wpAny (model prog w) A (compareOp .Eq (.ref a) (.ref b)) Q E s := by
  obtain ⟨as, ra⟩ := hr.reads N
  refine eq_dataH (reads_list_at (N.get ha) rfl rfl ra) (reads_list_at (N.get hb) rfl rfl .nil) (shaped_list ht) (shaped_list fun _ h => nomatch h) hu ?_
  have e : PyData.eqv (.list ds) (.list []) = vs.isEmpty := by
    have hl := hr.length
    simp only [PyData.eqv]
    cases ds <;> cases vs <;> first | (simp [PyData.eqvAll]; done) | cases hl
  rw [e]; exact h
theorem seq0 (v : Value) (t : List Value) : seqIndex? 0 (List.toArray (v :: t)).size = some 0 := by
  have h : (List.toArray (v :: t)).size = t.length + 1 := by simp
  rw [h]; unfold seqIndex?; simp <;> omega
theorem pop0 {m : Str → Option Value} {news' : List Cell} {v : Value} {t : List Value} {u : Tok} {Q : Value → Shared → Prop} (F : Fr h₀ L s.heap m) (N : News h₀ L s.heap news) (U : Upd a (listOf (List.toArray (v :: t)) n) (listOf t.toArray (n + 1)) news news') (hz : t.length < 1000)
    (h : ∀ h', Fr h₀ L h' m → News h₀ L h' news' → Q v { s with heap := h' }) : wpAny (model prog w) A (call (.builtin "list.pop") [.ref a, .int 0 u]) Q E s :=
  kl_popAt (p := []) (q := t) (y := v) (k := 0) F N (by rfl) (seq0 v t) (by rfl) U (by show (v :: t).length ≤ sizeLine; rw [sizeLine_eq, List.length_cons]; omega) h
theorem ne_nil_cons {Q : Value → Shared → Prop} {v : Value} {t : List Value} {ds : List PyData} (N : News h₀ L s.heap news) (ha : (a, listOf (List.toArray (v :: t)) n) ∈ news) (hb : (b, listOf (List.toArray []) n') ∈ news) (hr : RAll news (v :: t) ds) (ht : TameAll ds) (hu : A.units + 64 < cLine)
    (h : Q (.bool true) s) : wpAny (model prog w) A (compareOp .NotEq (.ref a) (.ref b)) Q E s := ne_nil_led N ha hb hr ht hu h
theorem eq_nil_cons {Q : Value → Shared → Prop} {v : Value} {t : List Value} {ds : List PyData} (N : News h₀ L s.heap news) (ha : (a, listOf (List.toArray (v :: t)) n) ∈ news) (hb : (b, listOf (List.toArray []) n') ∈ news) (hr : RAll news (v :: t) ds) (ht : TameAll ds) (hu : A.units + 64 < cLine)
    (h : Q (.bool false) s) : wpAny (model prog w) A (compareOp .Eq (.ref a) (.ref b)) Q E s := eq_nil_led N ha hb hr ht hu h
/-- two things that read alike are equal -/
theorem eq_same {Q : Value → Shared → Prop} {v u : Value} {d : PyData} (N : News h₀ L s.heap news) (ha : RIn news v d) (hb : RIn news u d) (ht : Tame d) (hu : A.units + 64 < cLine)
    (h : Q (.bool true) s) : wpAny (model prog w) A (compareOp .Eq v u) Q E s := by
  obtain ⟨as, ra⟩ := ha.reads N
  obtain ⟨bs, rb⟩ := hb.reads N
  refine eq_dataH ra rb (shaped_tame ht) (shaped_tame ht) hu ?_
  rw [eqv_refl d ht.lay]; exact h
end
/-- a plain value of the program -/
noncomputable def Sc (v : Value) : Prop := v = .none ∨ ∃ i t, v = .int i t
noncomputable def scD : Value → PyData
  | .int i _ => .int i
  | _ => .none
theorem Sc.rin {T : List Cell} {v : Value} (h : Sc v) : RIn T v (scD v) := by
  rcases h with rfl | ⟨i, t, rfl⟩
  · exact .none
  · exact .int i t
theorem Sc.tame {v : Value} (h : Sc v) : Tame (scD v) := by
  rcases h with rfl | ⟨i, t, rfl⟩
  · exact tame_none
  · exact tame_int
theorem sc_all {T : List Cell} {vs : List Value} (h : ∀ v ∈ vs, Sc v) : RAll T vs (vs.map scD) := by
  induction vs with
  | nil => exact .nil
  | cons v vs ih => exact .cons (h v (.head _)).rin (ih fun u hu => h u (.tail _ hu))
theorem sc_tame {vs : List Value} (h : ∀ v ∈ vs, Sc v) : TameAll (vs.map scD) := by
  intro d hd
  obtain ⟨v, hv, rfl⟩ := List.mem_map.mp hd
  exact (h v hv).tame
theorem add_led {prog : Program} {w : World} {A : Around} {E : Value → Shared → Prop} {s : Shared} {h₀ : Heap} {L a b : Addr} {news : List Cell} {vs us : List Value} {n n' : Nat} {m : Str → Option Value} {Q : Value → Shared → Prop} (F : Fr h₀ L s.heap m) (N : News h₀ L s.heap news) (ha : (a, listOf vs.toArray n) ∈ news) (hb : (b, listOf us.toArray n') ∈ news) (hz : vs.length + us.length ≤ 1000)
    (h : ∀ D h', Fr h₀ L h' m → News h₀ L h' ((D, listOf (List.toArray (vs ++ us)) 0) :: news) → (∀ p ∈ news, p.1 < D) → Q (.ref D) { s with heap := h' }) : wpAny (model prog w) A (binaryOp .Add (.ref a) (.ref b)) Q E s :=
  kmk_add_lit F N ⟨_, (N _ ha).1, rfl, _, rfl⟩ ⟨_, (N _ hb).1, rfl, _, rfl⟩ (by simp) h (by rw [sizeLine_eq]; simp; omega)
theorem Apart.join {as : List Addr} {cells rest rest' : List Cell} (D : Apart as rest) (hc : ∀ p ∈ cells, p ∈ rest) (D' : Apart (cells.map (·.1)) rest') (hr : ∀ p ∈ rest', p ∈ rest) : Apart (as ++ cells.map (·.1)) rest' := by
  refine ⟨List.pairwise_append.mpr ⟨D.ne, D'.ne, fun a ha b hb e => ?_⟩, fun p hp b hb => ?_⟩
  · obtain ⟨q, hq, rfl⟩ := List.mem_map.mp hb
    exact D.off q (hc q hq) a ha e.symm
  · rcases List.mem_append.mp hb with hb | hb
    · exact D.off p (hr p hp) b hb
    · exact D'.off p hp b hb
theorem Apart.sub {as as' : List Addr} {rest rest' : List Cell} (D : Apart as rest) (h : as'.Sublist as) (hr : ∀ p ∈ rest', p ∈ rest) : Apart as' rest' :=
  ⟨D.ne.sublist h, fun p hp b hb => D.off p (hr p hp) b (h.subset hb)⟩
/-- a new cell of the ledger, off what stood before -/
theorem mem_new {as : List Addr} {rest new : List Cell} {c : Cell} (h : c ∈ new) (ha : ∀ b ∈ as, @Ne Nat c.1 b) (hr : ∀ p ∈ rest, p.1 ≠ c.1) : c ∈ offOf (as ++ rest.map (·.1)) new := by
  rw [mem_offOf]
  refine ⟨h, fun hm => ?_⟩
  rcases List.mem_append.mp hm with hm | hm
  · exact ha _ hm rfl
  · obtain ⟨p, hp, e⟩ := List.mem_map.mp hm
    exact hr p hp e
end
section
open PySem PySem.W PySem.Calls PyProof.Rows
open PyProof.Rows.LCg (NsObj)
/-- a frame's names, some of them forgotten -/
noncomputable def ovr (xs : List Str) (f m₀ : Str → Option Value) : Str → Option Value := fun y => if y ∈ xs then f y else m₀ y
section
variable {xs : List Str} {f m m₀ : Str → Option Value}
theorem ovr_of (h : ∀ z, z ∉ xs → m z = m₀ z) : m = ovr xs m m₀ := funext fun y => by
  unfold ovr
  split
  · rfl
  · exact h y (by assumption)
theorem keep_ovr : ∀ z, z ∉ xs → ovr xs f m₀ z = m₀ z := fun _ hz => if_neg hz
theorem keep_id : ∀ z, z ∉ xs → m₀ z = m₀ z := fun _ _ => rfl
theorem keep_upd {x : Str} {v : Option Value} (hx : x ∈ xs) (h : ∀ z, z ∉ xs → m z = m₀ z) : ∀ z, z ∉ xs → (fun z => if z = x then v else m z) z = m₀ z := fun z hz => by
  show (if z = x then v else m z) = m₀ z
  rw [if_neg (show ¬ z = x from fun e => hz (by rw [e]; exact hx))]; exact h z hz
end
theorem ownOld {own : List Cell} {as : List Addr} {b : Addr} (h : OwnOff own as) (hb : b ∈ as) : ∀ p ∈ own, p.1 ≠ b := fun p hp => h p hp b hb
theorem ownNil {own : List Cell} : ∀ q ∈ ([] : List Cell), ∀ p ∈ own, p.1 ≠ q.1 := fun _ h => nomatch h
theorem ownCons {own : List Cell} {c : Cell} {l : List Cell} (h : ∀ p ∈ own, p.1 ≠ c.1) (t : ∀ q ∈ l, ∀ p ∈ own, p.1 ≠ q.1) : ∀ q ∈ c :: l, ∀ p ∈ own, p.1 ≠ q.1 := fun q hq => (List.mem_cons.mp hq).elim (fun e => e ▸ h) (t q)
theorem ownApp {own l l' : List Cell} (h : ∀ q ∈ l, ∀ p ∈ own, p.1 ≠ q.1) (t : ∀ q ∈ l', ∀ p ∈ own, p.1 ≠ q.1) : ∀ q ∈ l ++ l', ∀ p ∈ own, p.1 ≠ q.1 := fun q hq => (List.mem_append.mp hq).elim (h q) (t q)
theorem ownSub {own l led : List Cell} (h : OwnOff own (led.map (·.1))) (s : ∀ q ∈ l, q ∈ led) : ∀ q ∈ l, ∀ p ∈ own, p.1 ≠ q.1 := fun q hq p hp => h p hp q.1 (List.mem_map.mpr ⟨q, s q hq, rfl⟩)
theorem offMap {own nx : List Cell} (h : ∀ q ∈ nx, ∀ p ∈ own, p.1 ≠ q.1) : OwnOff own (nx.map (·.1)) := fun p hp b hb e => by
  obtain ⟨q, hq, rfl⟩ := List.mem_map.mp hb
  exact h q hq p hp e
theorem offMap' {own nx : List Cell} (h : OwnOff own (nx.map (·.1))) : ∀ q ∈ nx, ∀ p ∈ own, p.1 ≠ q.1 := fun q hq p hp => h p hp q.1 (List.mem_map.mpr ⟨q, hq, rfl⟩)
/-- what a turn of a loop keeps -/
noncomputable def TurnK (xs : List Str) (m₀ : Str → Option Value) (fix : List Cell) (J : List Cell → Prop) (m' : Str → Option Value) (nx : List Cell) : Prop := (∀ p ∈ fix, p ∈ nx) ∧ (∀ z, z ∉ xs → m' z = m₀ z) ∧ J nx
theorem fend {h₀ h' : Heap} {L : Addr} {s₁ : Shared} {tk : Nat} {xs : List Str} {m₀ m' : Str → Option Value} {fix own news' : List Cell} {J : List Cell → Prop} (nx : List Cell) (F : Fr h₀ L h' m') (N : News h₀ L h' news') (hk : ∀ z, z ∉ xs → m' z = m₀ z) (hs : ∀ p ∈ nx ++ own, p ∈ news')
    (ho : ∀ q ∈ nx, ∀ p ∈ own, p.1 ≠ q.1) (hf : ∀ p ∈ fix, p ∈ nx) (hJ : J nx) : InvEndG h₀ L (TurnK xs m₀ fix J) own s₁ { s₁ with heap := h', toks := tk } :=
  ⟨h', tk, m', news', nx, rfl, F, N, fun p hp => hs p (List.mem_append_left _ hp), fun p hp => hs p (List.mem_append_right _ hp), offMap ho, hf, hk, hJ⟩
section
variable {prog : Program} {w : World} {A : Around} {E : Value → Shared → Prop} {s : Shared} {env : Env} {h₀ : Heap}
theorem For_atF {m : Str → Option Value} {Q : Flow → Shared → Prop} {target : Expr} {pos : Pos} {iter : Expr} {body : List Stmt} (_ : Fr h₀ env.locals s.heap m)
    (h : wpAny (model prog w) A (eval iter env) (fun xv s₁ => wpAny (model prog w) A (pyIter xv) (fun it s₂ => ForAt prog w A h₀ env target body Q E it s₂) E s₁) E s)
    (hs : ∀ x, foldedSetIterable iter env x = pure x)
    (hE : PassesOwn (model prog w) A env E) :
    wpAny (model prog w) A (exec (.For target iter body [] pos) env) Q E s := For_at h₀ h hs hE
theorem for_pack {target : Expr} {it : Value} {s₂ : Shared} {m₀ : Str → Option Value} {led fix : List Cell} {n : Nat} {P : Nat → Value → Heap → Heap → Prop} {body : List Stmt} {Q : Flow → Shared → Prop} (xs : List Str) (J : Nat → List Cell → Prop)
    (pk : Pack prog w A h₀ env.locals target it s₂ m₀ led fix n P) (h0 : J 0 led)
    (step : ∀ i v f led₁ own hp h tk, i < n → P i v hp h → (∀ p ∈ led₁ ++ own, p.1 < hp.objs.size) → env.locals < hp.objs.size → h₀.objs.size ≤ hp.objs.size → J i led₁ → (∀ p ∈ fix, p ∈ led₁) → OwnOff own (led₁.map (·.1)) → (∀ p ∈ own, NoTup p.2) → Fr h₀ env.locals h (ovr xs f m₀) → News h₀ env.locals h (led₁ ++ own) →
      wpAny (model prog w) A (assign target env v) (fun _ s₃ => wpAny (model prog w) A (execs body env) (InvPostG h₀ env.locals (TurnK xs m₀ fix (J (i + 1))) own { s₂ with heap := h, toks := tk } Q) E s₃) E { s₂ with heap := h, toks := tk })
    (done : ∀ h' tk f led', Fr h₀ env.locals h' (ovr xs f m₀) → News h₀ env.locals h' led' → J n led' → Q .next { s₂ with heap := h', toks := tk }) :
    ForAt prog w A h₀ env target body Q E it s₂ := by
  refine ForAt.of_pack (fun i m' nx => (∀ z, z ∉ xs → m' z = m₀ z) ∧ J i nx) pk ⟨keep_id, h0⟩ ?_ ?_
  · rintro i v m₁ led₁ own hp h tk hi hP hlt hL hb ⟨hm, hJ⟩ hfix hoff hnt F N
    rw [ovr_of hm] at F
    exact step i v m₁ led₁ own hp h tk hi hP hlt hL hb hJ hfix hoff hnt F N
  · rintro h' tk m' led' F N ⟨hm, hJ⟩
    rw [ovr_of hm] at F
    exact done h' tk m' led' F N hJ
theorem for_listO {target : Expr} {l : Addr} {vs : List Value} {nn : Nat} {m₀ : Str → Option Value} {led : List Cell} {body : List Stmt} {Q : Flow → Shared → Prop} (xs : List Str) (J : Nat → List Cell → Prop)
    (hh : A.handled = none) (F : Fr h₀ env.locals s.heap m₀) (N : News h₀ env.locals s.heap led) (hl : (l, listOf vs.toArray nn) ∈ led) (h0 : J 0 led)
    (turn : ∀ i v f led₁ own h tk, vs[i]? = some v → J i led₁ → (l, listOf vs.toArray nn) ∈ led₁ → OwnOff own (led₁.map (·.1)) → Fr h₀ env.locals h (ovr xs f m₀) → News h₀ env.locals h (led₁ ++ own) →
      wpAny (model prog w) A (assign target env v) (fun _ s₃ => wpAny (model prog w) A (execs body env) (InvPostG h₀ env.locals (TurnK xs m₀ [(l, listOf vs.toArray nn)] (J (i + 1))) own { s with heap := h, toks := tk } Q) E s₃) E { s with heap := h, toks := tk })
    (done : ∀ f led' h' tk, J vs.length led' → Fr h₀ env.locals h' (ovr xs f m₀) → News h₀ env.locals h' led' → Q .next { s with heap := h', toks := tk }) :
    wpAny (model prog w) A (pyIter (.ref l)) (fun it s₂ => ForAt prog w A h₀ env target body Q E it s₂) E s := by
  refine pack_list hh F N hl fun it h' pk => for_pack xs J pk h0 ?_ fun h' tk f led' F N hJ => done f led' h' tk hJ F N
  intro i v f led₁ own hp h tk hi hP hlt hL hb hJ hfix hoff _ F N
  exact turn i v f led₁ own h tk hP hJ (hfix _ (List.mem_singleton.mpr rfl)) hoff F N
/-- enumerate: the pair stands in the ledger -/
theorem for_enumO {elts : List Expr} {kk : Nat} {pt : Pos} {l : Addr} {vs : List Value} {nn : Nat} {m₀ : Str → Option Value} {led : List Cell} {body : List Stmt} {Q : Flow → Shared → Prop} (xs : List Str) (J : Nat → List Cell → Prop)
    (hh : A.handled = none) (F : Fr h₀ env.locals s.heap m₀) (N : News h₀ env.locals s.heap led) (hl : (l, listOf vs.toArray nn) ∈ led) (h0 : J 0 led)
    (turn : ∀ i v ti T f led₁ own h tk, vs[i]? = some v → J i led₁ → (l, listOf vs.toArray nn) ∈ led₁ → OwnOff own (led₁.map (·.1)) → AllLt T (led₁ ++ own) → Fr h₀ env.locals h (ovr xs f m₀) → News h₀ env.locals h ((T, tupO [.int (i : Nat) ti, v] 0) :: (led₁ ++ own)) →
      wpAny (model prog w) A (assign (.Tuple elts kk pt) env (.ref T)) (fun _ s₃ => wpAny (model prog w) A (execs body env) (InvPostG h₀ env.locals (TurnK xs m₀ [(l, listOf vs.toArray nn)] (J (i + 1))) own { s with heap := h, toks := tk } Q) E s₃) E { s with heap := h, toks := tk })
    (done : ∀ f led' h' tk, J vs.length led' → Fr h₀ env.locals h' (ovr xs f m₀) → News h₀ env.locals h' led' → Q .next { s with heap := h', toks := tk }) :
    wpAny (model prog w) A (call (.type "enumerate") [.ref l]) (fun xv s₁ => wpAny (model prog w) A (pyIter xv) (fun it s₂ => ForAt prog w A h₀ env (.Tuple elts kk pt) body Q E it s₂) E s₁) E s := by
  refine pack_enum hh F N hl fun it h' pk => for_pack xs J pk h0 ?_ fun h' tk f led' F N hJ => done f led' h' tk hJ F N
  intro i v f led₁ own hp h tk hi hP hlt hL hb hJ hfix hoff _ F N
  obtain ⟨T, x, ti, rfl, hT, hT2, hxi⟩ := hP
  exact turn i x ti T f led₁ own h tk hxi hJ (hfix _ (List.mem_singleton.mpr rfl)) hoff (enum_lt hT hlt) F (enum_news N hT hT2 hb hL)
theorem for_rangeO {x : Str} {px : Pos} {r : Addr} {a b : Int} {t u v : Tok} {n : Nat} {m₀ : Str → Option Value} {led : List Cell} {body : List Stmt} {Q : Flow → Shared → Prop} (xs : List Str) (J : Nat → List Cell → Prop)
    (hh : A.handled = none) (F : Fr h₀ env.locals s.heap m₀) (N : News h₀ env.locals s.heap led) (hr : IsRange s.heap r a b 1 t u v) (hsm : Builtin.Range.small a b 1 = true) (hn : Builtin.Range.rangeSize a b 1 = ((n : Nat) : Int)) (h0 : J 0 led)
    (turn : ∀ i t f led₁ own h tk, i < n → J i led₁ → OwnOff own (led₁.map (·.1)) → Fr h₀ env.locals h (ovr xs f m₀) → News h₀ env.locals h (led₁ ++ own) →
      wpAny (model prog w) A (assign (.Name x px) env (.int (a + (i : Int)) t)) (fun _ s₃ => wpAny (model prog w) A (execs body env) (InvPostG h₀ env.locals (TurnK xs m₀ [] (J (i + 1))) own { s with heap := h, toks := tk } Q) E s₃) E { s with heap := h, toks := tk })
    (done : ∀ f led' h' tk, J n led' → Fr h₀ env.locals h' (ovr xs f m₀) → News h₀ env.locals h' led' → Q .next { s with heap := h', toks := tk }) :
    wpAny (model prog w) A (pyIter (.ref r)) (fun it s₂ => ForAt prog w A h₀ env (.Name x px) body Q E it s₂) E s := by
  refine pack_range hh F N hr hsm hn fun it h' pk => for_pack xs J pk h0 ?_ fun h' tk f led' F N hJ => done f led' h' tk hJ F N
  intro i v f led₁ own hp h tk hi hP hlt hL hb hJ hfix hoff _ F N
  obtain ⟨t, rfl⟩ := hP
  exact turn i t f led₁ own h tk hi hJ hoff F N
theorem for_listN {target : Expr} {l : Addr} {vs : List Value} {nn : Nat} {m₀ : Str → Option Value} {led : List Cell} {body : List Stmt} {Q : Flow → Shared → Prop} (xs : List Str) (J : Nat → List Cell → Prop)
    (hh : A.handled = none) (F : Fr h₀ env.locals s.heap m₀) (N : News h₀ env.locals s.heap led) (hl : (l, listOf vs.toArray nn) ∈ led) (h0 : J 0 led)
    (turn : ∀ i v f led₁ own h tk, vs[i]? = some v → J i led₁ → (l, listOf vs.toArray nn) ∈ led₁ → OwnOff own (led₁.map (·.1)) → (∀ p ∈ own, NoTup p.2) → Fr h₀ env.locals h (ovr xs f m₀) → News h₀ env.locals h (led₁ ++ own) →
      wpAny (model prog w) A (assign target env v) (fun _ s₃ => wpAny (model prog w) A (execs body env) (InvPostG h₀ env.locals (TurnK xs m₀ [(l, listOf vs.toArray nn)] (J (i + 1))) own { s with heap := h, toks := tk } Q) E s₃) E { s with heap := h, toks := tk })
    (done : ∀ f led' h' tk, J vs.length led' → Fr h₀ env.locals h' (ovr xs f m₀) → News h₀ env.locals h' led' → Q .next { s with heap := h', toks := tk }) :
    wpAny (model prog w) A (pyIter (.ref l)) (fun it s₂ => ForAt prog w A h₀ env target body Q E it s₂) E s := by
  refine pack_list hh F N hl fun it h' pk => for_pack xs J pk h0 ?_ fun h' tk f led' F N hJ => done f led' h' tk hJ F N
  intro i v f led₁ own hp h tk hi hP hlt hL hb hJ hfix hoff hnt F N
  exact turn i v f led₁ own h tk hP hJ (hfix _ (List.mem_singleton.mpr rfl)) hoff hnt F N
theorem for_rangeN {x : Str} {px : Pos} {r : Addr} {a b : Int} {t u v : Tok} {n : Nat} {m₀ : Str → Option Value} {led : List Cell} {body : List Stmt} {Q : Flow → Shared → Prop} (xs : List Str) (J : Nat → List Cell → Prop)
    (hh : A.handled = none) (F : Fr h₀ env.locals s.heap m₀) (N : News h₀ env.locals s.heap led) (hr : IsRange s.heap r a b 1 t u v) (hsm : Builtin.Range.small a b 1 = true) (hn : Builtin.Range.rangeSize a b 1 = ((n : Nat) : Int)) (h0 : J 0 led)
    (turn : ∀ i t f led₁ own h tk, i < n → J i led₁ → OwnOff own (led₁.map (·.1)) → (∀ p ∈ own, NoTup p.2) → Fr h₀ env.locals h (ovr xs f m₀) → News h₀ env.locals h (led₁ ++ own) →
      wpAny (model prog w) A (assign (.Name x px) env (.int (a + (i : Int)) t)) (fun _ s₃ => wpAny (model prog w) A (execs body env) (InvPostG h₀ env.locals (TurnK xs m₀ [] (J (i + 1))) own { s with heap := h, toks := tk } Q) E s₃) E { s with heap := h, toks := tk })
    (done : ∀ f led' h' tk, J n led' → Fr h₀ env.locals h' (ovr xs f m₀) → News h₀ env.locals h' led' → Q .next { s with heap := h', toks := tk }) :
    wpAny (model prog w) A (pyIter (.ref r)) (fun it s₂ => ForAt prog w A h₀ env (.Name x px) body Q E it s₂) E s := by
  refine pack_range hh F N hr hsm hn fun it h' pk => for_pack xs J pk h0 ?_ fun h' tk f led' F N hJ => done f led' h' tk hJ F N
  intro i v f led₁ own hp h tk hi hP hlt hL hb hJ hfix hoff hnt F N
  obtain ⟨t, rfl⟩ := hP
  exact turn i t f led₁ own h tk hi hJ hoff hnt F N
end
theorem freshOff {d : Addr} {l l' : List Cell} (h : AllLt d l) (s : ∀ p ∈ l', p ∈ l) : ∀ b ∈ l'.map (·.1), @Ne Nat d b := fun b hb => by
  obtain ⟨q, hq, rfl⟩ := List.mem_map.mp hb
  exact Ne.symm (ne_of_lt_all h q (s q hq))
theorem freshOff' {d c : Addr} {o : Obj} {l l' : List Cell} (h : AllLt d l) (hc : (c, o) ∈ l) (s : ∀ p ∈ l', p ∈ l) : ∀ b ∈ c :: l'.map (·.1), @Ne Nat d b := fun b hb => (List.mem_cons.mp hb).elim (fun e => e ▸ Ne.symm (ne_of_lt_all h (c, o) hc)) (freshOff h s b)
section
variable {prog : Program} {w : World} {A : Around} {E : Value → Shared → Prop} {s : Shared} {h₀ : Heap}
theorem ext_led {L D b : Addr} {m : Str → Option Value} {r : List Cell} {vs us : List Value} {n n2 : Nat} {Q : Value → Shared → Prop} (F : Fr h₀ L s.heap m) (N : News h₀ L s.heap ((D, listOf vs.toArray n) :: r)) (hb : (b, listOf us.toArray n2) ∈ (D, listOf vs.toArray n) :: r) (hr : ∀ p ∈ r, p.1 ≠ D) (hz : vs.length + us.length ≤ 1000)
    (h : ∀ h' c, Fr h₀ L h' m → News h₀ L h' ((D, listOf (List.toArray (vs ++ us)) c) :: r) → Q .none { s with heap := h' }) : wpAny (model prog w) A (call (.builtin "list.extend") [.ref D, .ref b]) Q E s := by
  have hl1 : vs.toArray.size + us.toArray.size ≤ sizeLine := by rw [sizeLine_eq]; simp; omega
  have hl2 : vs.toArray.toList.length ≤ sizeLine := by rw [sizeLine_eq]; simp; omega
  cases us with
  | nil =>
    refine kxn_extend F N hb rfl (.head hr) (extend_door hl1) hl2 (Nat.le_succ_of_le hl1) fun h' F' N' => h h' n F' ?_
    rw [List.append_nil]; exact N'
  | cons u us => exact kl_extend F N hb rfl (by simp) (.head hr) (extend_door hl1) hl2 (Nat.le_succ_of_le hl1) fun h' F' N' => h h' (n + 1) F' N'
end
end
section
open PySem PySem.W PySem.Calls PyProof.Rows
theorem foldN {G : Prop} {b h : Heap} {L : Addr} {l : List Cell} (N : News b L h l) (H : let led := l; News b L h led → G) : G := H N
section
variable {M : Model} {prog : Program} {w : World} {A A₀ : Around} {E : Value → Shared → Prop} {h₀ base h : Heap} {L D a : Addr} {gs : Array GenState} {d : Drawn} {t n : Nat} {o : OsState} {m mg mb : Str → Option Value} {news news' : List Cell} {vs : List Value} {x : Str} {v : Value}
  {cn : Str} {cs : Scope} {ccd : Value} {cl : List (Str × Addr)} {p : Program} {loose : List Str} {mean : ExcName → Option Value} {K : Frag}
theorem newTuple_L {Q : Value → Shared → Prop} (F : Fr h₀ L h m) (N : News h₀ L h news) (k : ∀ (D : Addr) h' tk, AllLt D news → Fr h₀ L h' m → let led := (D, tupO vs 0) :: news; News h₀ L h' led → Q (.ref D) ⟨h', gs, d, tk, o⟩) (hz : vs.length ≤ sizeLine) :
    wpAny M A (newTuple vs) Q E ⟨h, gs, d, t, o⟩ := kup_newTuple F N (fun D h' F' N' l1 => k D h' _ (allLt_of l1) F' N') hz
theorem newList_L {Q : Value → Shared → Prop} (F : Fr h₀ L h m) (N : News h₀ L h news) (k : ∀ (D : Addr) h' tk, AllLt D news → Fr h₀ L h' m → let led := (D, listOf vs.toArray 0) :: news; News h₀ L h' led → Q (.ref D) ⟨h', gs, d, tk, o⟩) (hz : vs.length ≤ sizeLine := by size_fits) :
    wpAny M A (newList vs) Q E ⟨h, gs, d, t, o⟩ := newList_K F N (fun D h' F' N' l1 => k D h' _ (allLt_of l1) F' N') hz
theorem store_L {Q : Unit → Shared → Prop} (F : Fr h₀ L h m) (N : News h₀ L h news) (k : ∀ h' tk, let m' := fun y => if y = x then some v else m y; Fr h₀ L h' m' → News h₀ L h' news → Q () ⟨h', gs, d, tk, o⟩)
    (hk : cs.kind = .function := by rfl) (hx : (envX cn cs L a ccd cl).kindOf x = some .local := by rfl) : wpAny M A (storeName (envX cn cs L a ccd cl) x v) Q E ⟨h, gs, d, t, o⟩ := storeX_L F N (fun h' F' N' => k h' _ F' N') hk hx
theorem append_L {Q : Value → Shared → Prop} {u : Value}
    (F : Fr h₀ L h m) (N : News h₀ L h news) (U : Upd D (listOf vs.toArray n) (listOf (vs ++ [u]).toArray (n + 1)) news news') (k : ∀ h' tk, Fr h₀ L h' m → let led := news'; News h₀ L h' led → Q .none ⟨h', gs, d, tk, o⟩) (hz : vs.toArray.size ≤ sizeLine) :
    wpAny (model prog w) A (call (.builtin "list.append") [.ref D, u]) Q E ⟨h, gs, d, t, o⟩ := append_K (its := vs.toArray) F N (by rw [List.push_toArray]; exact U) (fun h' F' N' => k h' _ F' N') hz
theorem pop_L {Q : Value → Shared → Prop} {v : Value} {us : List Value} {u : Tok} (F : Fr h₀ L h m) (N : News h₀ L h news) (U : Upd a (listOf (List.toArray (v :: us)) n) (listOf us.toArray (n + 1)) news news') (hz : us.length < 1000)
    (k : ∀ h' tk, Fr h₀ L h' m → let led := news'; News h₀ L h' led → Q v ⟨h', gs, d, tk, o⟩) : wpAny (model prog w) A (call (.builtin "list.pop") [.ref a, .int 0 u]) Q E ⟨h, gs, d, t, o⟩ := pop0 F N U hz fun h' F' N' => k h' _ F' N'
theorem addL_L {Q : Value → Shared → Prop} {us : List Value} {n' : Nat} (F : Fr h₀ L h m) (N : News h₀ L h news) (ha : (a, listOf vs.toArray n) ∈ news) (hb : (D, listOf us.toArray n') ∈ news) (hz : vs.length + us.length ≤ 1000)
    (k : ∀ (R : Addr) h' tk, AllLt R news → Fr h₀ L h' m → let led := (R, listOf (List.toArray (vs ++ us)) 0) :: news; News h₀ L h' led → Q (.ref R) ⟨h', gs, d, tk, o⟩) : wpAny (model prog w) A (binaryOp .Add (.ref a) (.ref D)) Q E ⟨h, gs, d, t, o⟩ :=
  add_led F N ha hb hz fun R h' F' N' l => k R h' _ (allLt_of l) F' N'
theorem addT_L {Q : Value → Shared → Prop} {x y : Value} {xs ys : List Value} {n' : Nat} (F : Fr h₀ L h m) (N : News h₀ L h news) (ha : (a, tupO (x :: xs) n) ∈ news) (hb : (D, tupO (y :: ys) n') ∈ news) (hz : (x :: xs).length + (y :: ys).length ≤ 16384)
    (k : ∀ (R : Addr) h' tk, AllLt R news → Fr h₀ L h' m → let led := (R, tupO (x :: (xs ++ y :: ys)) 0) :: news; News h₀ L h' led → Q (.ref R) ⟨h', gs, d, tk, o⟩) : wpAny (model prog w) A (binaryOp .Add (.ref a) (.ref D)) Q E ⟨h, gs, d, t, o⟩ :=
  kde_addT F N (N.isTup ha) (N.isTup hb) (by simp) (by simp) hz rfl fun R h' F' N' l => k R h' _ (allLt_of l) F' N'
theorem leave_K {g : Heap} {L' : Addr} {m' : Str → Option Value} {R : Result → Shared → Prop} (F : Fr g L' h m') (N : News g L' h news) (X : K.In h₀) (T : Top p loose mean mg mb h₀)
    (k : ∀ tk, Fr h₀ L h m → News h₀ L h news → Top p loose mean mg mb h₀ → K.In h₀ → R (.ok (.ret v)) ⟨h, gs, d, tk, o⟩) : LeaveK h₀ L m g R v ⟨h, gs, d, t, o⟩ := leaveK_ F N fun F N => k _ F N T X
theorem enter_L {env : Env} {outer : List Env} {R : Result → Shared → Prop} {name qual : Str} {params : Arguments} {body : List Stmt} {scope : Scope} {dV kV doc pm cdv ct oc : Value} {an od : Option Addr} {osl : Array (Option Value)} {f : Addr} {args : Args} {binds : List (Str × Value)}
    (B : Below A₀ base outer h₀) (F : Fr h₀ L h m) (X₀ : K.In h₀) (N : News h₀ L h news) (T : Top p loose mean mg mb h₀) (hA : A.frames = some (env :: outer)) (hf : env.frame = some L) (hke : env.scope.kind = .function)
    (ho : K.lookup f = some ⟨oc, od, .func (fnOf name qual params body scope dV kV doc pm an cdv ct), osl⟩) (hcd : codeIn K cdv qual = true) (hroom : A.depth < recursionLimit)
    (hbind : BindsTo ⟨h, gs, d, t, o⟩ (fnOf name qual params body scope dV kV doc pm an cdv ct) args binds) (hloc : ∀ y ∈ binds, scope.names.lookup y.1 = some .local)
    (k : ∀ g L' h₁ tk, Fr h₀ L g m → let m' := fun y => binds.reverse.lookup y; Fr g L' h₁ m' → News g L' h₁ news → Below A base (env :: outer) g → K.In g → Top p loose mean mg mb g →
      let ev := envOf qual scope L' f cdv; let A' := A.deeper ev; let qk : Flow → Shared → Prop := fun fl s' => LeaveK h₀ L m g R (match fl with | .ret v => v | _ => .none) s';
      let ek : Value → Shared → Prop := fun e s' => wpAny (model prog w) A' (leaving ev e) (fun _ s'' => R (.error e) s'') (fun e' s'' => R (.error e') s'') s';
      wpAny (model prog w) A' (execs body ev) qk ek ⟨h₁, gs, d, tk, o⟩)
    (hco : scope.isCoroutine = false) (hgen : scope.isGenerator = false) (hk : scope.kind = .function)
    (hcell : ∀ x ∈ scope.names, x.2 ≠ .cell) : codeAny (model prog w) A (.call (.ref f) args) R ⟨h, gs, d, t, o⟩ :=
  code_def B F X₀ N T hA hf hke ho hcd hroom hbind hloc (fun g L' h₁ F1 F2 N' B' X' T' => k g L' h₁ _ F1 F2 N' B' X' T') hco hgen hk hcell
end
end
section
open PySem PySem.W PySem.Calls PyProof.Rows
/-- a tree that ends with one value in one state, whatever follows -/
structure Run {α : Type} (M : Model) (A : Around) (t : Sem α) (s : Shared) (v : α) (s' : Shared) : Prop where
  go : ∀ (Q : α → Shared → Prop) (E : Value → Shared → Prop), Q v s' → wpAny M A t Q E s
section
variable {α : Type} {M : Model} {A : Around} {s s₁ s₂ s₃ s₄ : Shared} {env : Env} {v u c : Value} {b : Bool} {vs : List Value} {E : Value → Shared → Prop} {pos : Pos} {k : Nat} {e l r value slice func whole test : Expr} {rest args body orelse : List Expr}
  {h : Heap} {gs : Array GenState} {d : Drawn} {t : Nat} {o : OsState}
theorem runI {t : Sem α} {v : α} (x : ∀ (Q : α → Shared → Prop) (E : Value → Shared → Prop), Q v s₁ → wpAny M A t Q E s) : Run M A t s v s₁ := ⟨x⟩
theorem runInt {i : Int} : Run M A (eval (.Constant (.int i) k pos) env) ⟨h, gs, d, t, o⟩ (.int i t) ⟨h, gs, d, t + 1, o⟩ := ⟨fun _ _ q => wpAny_Constant_int q⟩
theorem runStr {x : Str} : Run M A (eval (.Constant (.str x) k pos) env) ⟨h, gs, d, t, o⟩ (.str x t) ⟨h, gs, d, t + 1, o⟩ := ⟨fun _ _ q => Constant_str q⟩
theorem runNone : Run M A (eval (.Constant .none k pos) env) s .none s := ⟨fun _ _ q => Constant_none q⟩
theorem runBool : Run M A (eval (.Constant (.bool b) k pos) env) s (.bool b) s := ⟨fun _ _ q => Constant_bool q⟩
theorem runAttr {x attr : Str} {xp : Pos} (he : eval (.Attribute (.Name x xp) attr pos) env = (do
      let o ← eval (.Name x xp) env
      standAt pos.atName
      let r ← holding [o] (getAttr o attr true)
      letTemporaryGo (.Name x xp) o r
      pure r)) (y : Run M A (eval (.Name x xp) env) s u s₁) (g : Run M A (getAttr u attr true) s₁ v s₂) : Run M A (eval (.Attribute (.Name x xp) attr pos) env) s v s₂ := ⟨fun _ _ q => Attribute_Name_ (y.go _ _ (g.go _ _ q)) he⟩
theorem runSub (x : Run M A (eval value env) s u s₁) (y : Run M A (eval slice env) s₁ c s₂) (g : Run M A (subscriptTail value slice u c) s₂ v s₃) : Run M A (eval (.Subscript value slice pos) env) s v s₃ :=
  ⟨fun _ _ q => Subscript_ (x.go _ _ (y.go _ _ (g.go _ _ q)))⟩
theorem runBin {op : Operator} (x : Run M A (eval l env) s u s₁) (y : Run M A (eval r env) s₁ c s₂) (g : Run M A (binaryOp op u c) s₂ v s₃) : Run M A (eval (.BinOp l op r pos) env) s v s₃ :=
  ⟨fun _ _ q => wpAny_BinOp (x.go _ _ (y.go _ _ (g.go _ _ q)))⟩
theorem attrUse {x attr : Str} {xp : Pos} {Q : Value → Shared → Prop} (he : eval (.Attribute (.Name x xp) attr pos) env = (do
      let o ← eval (.Name x xp) env
      standAt pos.atName
      let r ← holding [o] (getAttr o attr true)
      letTemporaryGo (.Name x xp) o r
      pure r)) (y : Run M A (eval (.Name x xp) env) s u s₁) (g : wpAny M A (getAttr u attr true) Q E s₁) : wpAny M A (eval (.Attribute (.Name x xp) attr pos) env) Q E s := Attribute_Name_ (y.go _ _ g) he
theorem subUse {Q : Value → Shared → Prop} (x : Run M A (eval value env) s u s₁) (y : Run M A (eval slice env) s₁ c s₂) (g : wpAny M A (subscriptTail value slice u c) Q E s₂) : wpAny M A (eval (.Subscript value slice pos) env) Q E s :=
  Subscript_ (x.go _ _ (y.go _ _ g))
end
section
variable {M : Model} {A : Around} {E : Value → Shared → Prop} {s s₁ : Shared} {K : Frag} {h₀ : Heap} {L a : Addr} {m mg mb : Str → Option Value} {cn : Str} {cs : Scope} {ccd : Value} {cl : List (Str × Addr)} {p : Program} {loose : List Str}
  {x : Str} {pos : Pos} {v f u : Value} {news : List Cell} {c : Addr} {ob : Obj} {env : Env} {e : Expr} {rest : List Expr} {vs : List Value} {Q : Value → Shared → Prop}
theorem runL (F : Fr h₀ L s.heap m) (hL : env.locals = L) (hv : some v = m x) (hx : some .local = env.kindOf x) (hk : .function = env.scope.kind) (hd : false = (x == ("__debug__" : Str))) :
    Run M A (eval (.Name x pos) env) s v s := ⟨fun _ _ q => wpAny_Name (wpAny_loadName_local hk.symm hx.symm (hL ▸ F.ns) hv.symm q) hd.symm⟩
theorem runC (N : News h₀ L s.heap news) (hc : some c = env.cells.lookup x) (hm : (c, ob) ∈ news) (hd : ob.data = .cell (some v)) (hx : some .cell = env.kindOf x) (hk : .function = env.scope.kind) (hb : false = (x == ("__debug__" : Str))) :
    Run M A (eval (.Name x pos) env) s v s := ⟨fun _ _ q => wpAny_Name (wpAny_loadName_cell hk.symm hx.symm hc.symm ⟨ob, N.get hm, hd⟩ q) hb.symm⟩
theorem runK (F : Fr h₀ L s.heap m) (X : K.In h₀) (T : TopRead p loose mg mb h₀) (e : nsIn K mainGlobals x = some (some v)) (hg : mainGlobals = env.globals) (hx : some .globalImplicit = env.kindOf x) (hk : .function = env.scope.kind) (hd : false = (x == ("__debug__" : Str))) :
    Run M A (eval (.Name x pos) env) s v s := ⟨fun _ _ q => Name_function_global hk.symm hx.symm (loadGlobal_global (env := env) (hg ▸ T.g.keeps F.keep) (mg_of X T.g e) q) hd.symm⟩
theorem runB (F : Fr h₀ L s.heap m) (X : K.In h₀) (T : TopRead p loose mg mb h₀) (e : nsIn K mainGlobals x = some none) (hv : bootBuiltins x = some v) (hn : x ≠ "__name__") (hg : mainGlobals = env.globals) (hb : builtinsNs = env.builtins) (hx : some .globalImplicit = env.kindOf x) (hk : .function = env.scope.kind) (hd : false = (x == ("__debug__" : Str))) :
    Run M A (eval (.Name x pos) env) s v s := ⟨fun _ _ q => Name_function_global hk.symm hx.symm (loadGlobal_builtin (env := env) (hg ▸ T.g.keeps F.keep) (mg_none_of X T.g e) (hb ▸ T.b.keeps F.keep) ((T.builtins x hn).trans hv) q) hd.symm⟩
end
end
section
open PySem PySem.W PySem.Calls PyProof.Rows
noncomputable def specs : List Addr := [77, 82, 56, 63, 70, 89, 96, 103, 110, 117, 124, 131, 138, 145, 166, 187, 194, 201, 208, 220, 225, 232, 246, 251, 258, 265, 272, 279, 286, 293, 298, 305, 312, 319, 326, 333, 340, 345, 352, 359]
noncomputable def noSlice : Expr → Bool
  | .Slice .. => false
  | _ => true
noncomputable def small (k : Int) : Bool := decide (-(2 ^ 63) ≤ k) && decide (k < 2 ^ 63)
theorem sub_plain {slice : Expr} {a i : Value} (h : true = noSlice slice) : subscripted slice false a i = operate [a, i] (getItem a i) := by cases slice <;> first | rfl | cases h
section
variable {prog : Program} {w : World} {A : Around} {E : Value → Shared → Prop} {s : Shared} {h₀ : Heap} {L a b : Addr} {news : List Cell} {vs us l : List Value} {n n' : Nat} {value slice : Expr} {k : Int} {u v x : Value} {t : Tok} {Q : Value → Shared → Prop} {m : Str → Option Value} {ds : List PyData}
  {h : Heap} {gs : Array GenState} {d : Drawn} {tk : Nat} {o : OsState}
theorem allP {d D : Addr} {ob : Obj} {l : List Cell} (h : @Ne Nat D d) (t : ∀ p ∈ l, p.1 ≠ d) : ∀ p ∈ (D, ob) :: l, p.1 ≠ d := fun p hp => (List.mem_cons.mp hp).elim (fun e => by rw [e]; exact h) (t p)
theorem mStop {M : Model} {f : Addr} {args : List Value} (hf : true = specs.contains f) (g : wpAny M A (stopT (call (.ref f) args)) Q E s) : wpAny M A (call (.ref f) args) Q E s := g
theorem mLed (N : News h₀ L s.heap news) (hm : (a, tupO l n) ∈ news) (hs : true = noSlice slice) (hk : true = small k) (hx : some x = (seqIndex? k l.length).bind (l[·]?)) (g : Q x s) : wpAny (model prog w) A (subscriptTail value slice (.ref a) (.int k t)) Q E s := by
  have hk := Bool.and_eq_true_iff.mp hk.symm
  cases hj : seqIndex? k l.length with
  | none => rw [hj] at hx; cases hx
  | some j => rw [hj] at hx; exact item_led N hm (of_decide_eq_true hk.1) (of_decide_eq_true hk.2) hj hx.symm g (sub_plain hs)
theorem mLst (N : News h₀ L s.heap news) (hm : (a, listOf vs.toArray n) ∈ news) (hs : true = noSlice slice) (h0 : 0 ≤ k) (hhi : k < 2 ^ 63) (hx : vs[k.toNat]? = some x) (g : Q x s) : wpAny (model prog w) A (subscriptTail value slice (.ref a) (.int k t)) Q E s :=
  item_lst N hm h0 hhi hx g (sub_plain hs)
theorem mLen (N : News h₀ L h news) (hm : (a, listOf vs.toArray n) ∈ news) (hl : vs.length < 1000000) (g : Q (.int vs.length (tk + 1)) ⟨h, gs, d, tk + 1 + 1, o⟩) : wpAny (model prog w) A (call (.builtin "len") [.ref a]) Q E ⟨h, gs, d, tk, o⟩ := len_led N hm hl g
theorem mFor {env : Env} {target : Expr} {pos : Pos} {iter : Expr} {body : List Stmt} {Q : Flow → Shared → Prop} (F : Fr h₀ env.locals s.heap m) (hs : ∀ x, foldedSetIterable iter env x = pure x) (hE : PassesOwn (model prog w) A env E)
    (g : wpAny (model prog w) A (eval iter env) (fun xv s₁ => wpAny (model prog w) A (pyIter xv) (fun it s₂ => ForAt prog w A h₀ env target body Q E it s₂) E s₁) E s) : wpAny (model prog w) A (exec (.For target iter body [] pos) env) Q E s := For_atF F g hs hE
theorem mNe (N : News h₀ L s.heap news) (ha : (a, listOf vs.toArray n) ∈ news) (hb : (b, listOf (List.toArray []) n') ∈ news) (hr : RAll news vs ds) (ht : TameAll ds) (hu : A.units + 64 < cLine) (g : Q (.bool (!vs.isEmpty)) s) : wpAny (model prog w) A (compareOp .NotEq (.ref a) (.ref b)) Q E s := ne_nil_led N ha hb hr ht hu g
theorem mEq (N : News h₀ L s.heap news) (ha : (a, listOf vs.toArray n) ∈ news) (hb : (b, listOf (List.toArray []) n') ∈ news) (hr : RAll news vs ds) (ht : TameAll ds) (hu : A.units + 64 < cLine) (g : Q (.bool vs.isEmpty) s) : wpAny (model prog w) A (compareOp .Eq (.ref a) (.ref b)) Q E s := eq_nil_led N ha hb hr ht hu g
theorem mNeC (N : News h₀ L s.heap news) (ha : (a, listOf (List.toArray (v :: vs)) n) ∈ news) (hb : (b, listOf (List.toArray []) n') ∈ news) (hr : RAll news (v :: vs) ds) (ht : TameAll ds) (hu : A.units + 64 < cLine) (g : Q (.bool true) s) : wpAny (model prog w) A (compareOp .NotEq (.ref a) (.ref b)) Q E s := ne_nil_cons N ha hb hr ht hu g
theorem mEqC (N : News h₀ L s.heap news) (ha : (a, listOf (List.toArray (v :: vs)) n) ∈ news) (hb : (b, listOf (List.toArray []) n') ∈ news) (hr : RAll news (v :: vs) ds) (ht : TameAll ds) (hu : A.units + 64 < cLine) (g : Q (.bool false) s) : wpAny (model prog w) A (compareOp .Eq (.ref a) (.ref b)) Q E s := eq_nil_cons N ha hb hr ht hu g
theorem mTup (F : Fr h₀ L h m) (N : News h₀ L h news) (hz : vs.length ≤ sizeLine) (k : ∀ (D : Addr) h' tk, AllLt D news → Fr h₀ L h' m → let led := (D, tupO vs 0) :: news; News h₀ L h' led → Q (.ref D) ⟨h', gs, d, tk, o⟩) {M : Model} : wpAny M A (newTuple vs) Q E ⟨h, gs, d, tk, o⟩ := newTuple_L F N k hz
theorem mList (F : Fr h₀ L h m) (N : News h₀ L h news) (hz : vs.length ≤ sizeLine) (k : ∀ (D : Addr) h' tk, AllLt D news → Fr h₀ L h' m → let led := (D, listOf vs.toArray 0) :: news; News h₀ L h' led → Q (.ref D) ⟨h', gs, d, tk, o⟩) {M : Model} : wpAny M A (newList vs) Q E ⟨h, gs, d, tk, o⟩ := newList_L F N k hz
theorem mStore {M : Model} {env : Env} {x : Str} {Q : Unit → Shared → Prop} (F : Fr h₀ L h m) (N : News h₀ L h news) (hL : env.locals = L) (hk : .function = env.scope.kind) (hx : some .local = env.kindOf x)
    (k : ∀ h' tk, let m' := fun y => if y = x then some v else m y; Fr h₀ L h' m' → News h₀ L h' news → Q () ⟨h', gs, d, tk, o⟩) : wpAny M A (storeName env x v) Q E ⟨h, gs, d, tk, o⟩ := by
  subst hL
  exact wpAny_storeName_local hx.symm F.ns (fun h' hn hs => k h' _ (F.set hn hs) (N.set hs)) (by rw [← hk]; rfl)
theorem mApp {D : Addr} {news' : List Cell} (F : Fr h₀ L h m) (N : News h₀ L h news) (U : Upd D (listOf vs.toArray n) (listOf (vs ++ [u]).toArray (n + 1)) news news') (hz : vs.toArray.size ≤ sizeLine) (k : ∀ h' tk, Fr h₀ L h' m → let led := news'; News h₀ L h' led → Q .none ⟨h', gs, d, tk, o⟩) :
    wpAny (model prog w) A (call (.builtin "list.append") [.ref D, u]) Q E ⟨h, gs, d, tk, o⟩ := append_L F N U k hz
theorem mPop {t : Tok} {news' : List Cell} (F : Fr h₀ L h m) (N : News h₀ L h news) (U : Upd a (listOf (List.toArray (v :: us)) n) (listOf us.toArray (n + 1)) news news') (hz : us.length < 1000) (k : ∀ h' tk, Fr h₀ L h' m → let led := news'; News h₀ L h' led → Q v ⟨h', gs, d, tk, o⟩) :
    wpAny (model prog w) A (call (.builtin "list.pop") [.ref a, .int 0 t]) Q E ⟨h, gs, d, tk, o⟩ := pop_L F N U hz k
end
section
variable {prog : Program} {w : World} {A A₀ : Around} {h₀ base h : Heap} {L : Addr} {gs : Array GenState} {d : Drawn} {t : Nat} {o : OsState} {m mg mb : Str → Option Value} {news : List Cell} {p : Program} {loose : List Str} {mean : ExcName → Option Value} {K : Frag}
  {env : Env} {outer : List Env} {R : Result → Shared → Prop} {name qual : Str} {params : Arguments} {body : List Stmt} {scope : Scope} {dV kV doc pm cdv ct oc : Value} {an od : Option Addr} {osl : Array (Option Value)} {f : Addr} {args : Args} {binds : List (Str × Value)}
noncomputable def noCell (l : List (Str × NameKind)) : Bool := l.all fun x => !(x.2 == .cell)
theorem noCell_of {l : List (Str × NameKind)} (h : true = noCell l) : ∀ x ∈ l, x.2 ≠ .cell := fun x hx e => by
  have := List.all_eq_true.mp h.symm x hx
  rw [e] at this
  exact absurd this (by decide)
theorem mEnter (hA : A.frames = some (env :: outer)) (hf : env.frame = some L) (hke : env.scope.kind = .function) (B : Below A₀ base outer h₀) (F : Fr h₀ L h m) (X₀ : K.In h₀) (N : News h₀ L h news) (T : Top p loose mean mg mb h₀)
    (ho : K.lookup f = some ⟨oc, od, .func (fnOf name qual params body scope dV kV doc pm an cdv ct), osl⟩) (hcd : codeIn K cdv qual = true) (hroom : A.depth < recursionLimit)
    (hbind : BindsTo ⟨h, gs, d, t, o⟩ (fnOf name qual params body scope dV kV doc pm an cdv ct) args binds) (hcell : true = noCell scope.names) (hloc : ∀ y ∈ binds, scope.names.lookup y.1 = some .local)
    (hco : false = scope.isCoroutine) (hgen : false = scope.isGenerator) (hk : .function = scope.kind)
    (k : ∀ g L' h₁ tk, Fr h₀ L g m → let m' := fun y => binds.reverse.lookup y; Fr g L' h₁ m' → News g L' h₁ news → Below A base (env :: outer) g → K.In g → Top p loose mean mg mb g →
      let ev := envOf qual scope L' f cdv; let A' := A.deeper ev; let qk : Flow → Shared → Prop := fun fl s' => LeaveK h₀ L m g R (match fl with | .ret v => v | _ => .none) s';
      let ek : Value → Shared → Prop := fun e s' => wpAny (model prog w) A' (leaving ev e) (fun _ s'' => R (.error e) s'') (fun e' s'' => R (.error e') s'') s';
      wpAny (model prog w) A' (execs body ev) qk ek ⟨h₁, gs, d, tk, o⟩) : codeAny (model prog w) A (.call (.ref f) args) R ⟨h, gs, d, t, o⟩ :=
  enter_L B F X₀ N T hA hf hke ho hcd hroom hbind hloc k hco.symm hgen.symm hk.symm (noCell_of hcell)
theorem mDefC1 {x1 : Str} (hA : A.frames = some (env :: outer)) (hf : env.frame = some L) (hke : env.scope.kind = .function) (B : Below A₀ base outer h₀) (F : Fr h₀ L h m) (X₀ : K.In h₀) (N : News h₀ L h news) (T : Top p loose mean mg mb h₀)
    (ho : K.lookup f = some ⟨oc, od, .func (fnOf name qual params body scope dV kV doc pm an cdv ct), osl⟩) (hcd : codeIn K cdv qual = true) (hroom : A.depth < recursionLimit)
    (hbind : BindsTo ⟨h, gs, d, t, o⟩ (fnOf name qual params body scope dV kV doc pm an cdv ct) args binds) (hkind : (binds.all fun y => scope.names.lookup y.1 == some .local || scope.names.lookup y.1 == some .cell) = true)
    (hnd : ((cellsFrom 0 scope.names []).map (·.1)).Nodup) (hco : scope.isCoroutine = false) (hgen : scope.isGenerator = false) (hk : scope.kind = .function)
    (hcl : ∀ a, cellsFrom a scope.names [] = [(x1, a)])
    (k : ∀ g L' h₁ tk, Fr h₀ L g m → Fr g L' h₁ (bindL (envOfC qual scope L' f cdv).kindOf binds fun _ => none) → Below A base (env :: outer) g → K.In g → Top p loose mean mg mb g → (∀ p ∈ news, p.1 < L') →
      ∀ o1, o1.data = .cell (bindC (envOfC qual scope L' f cdv).kindOf binds (fun _ => none) x1) → News g L' h₁ ((L' + 1, o1) :: news) →
      wpAny (model prog w) (A.deeper (envOfC qual scope L' f cdv)) (execs body (envOfC qual scope L' f cdv))
        (fun fl s' => LeaveK h₀ L m g R (match fl with | .ret v => v | _ => .none) s')
        (fun e s' => wpAny (model prog w) (A.deeper (envOfC qual scope L' f cdv)) (leaving (envOfC qual scope L' f cdv) e) (fun _ s'' => R (.error e) s'') (fun e' s'' => R (.error e') s'') s')
        ⟨h₁, gs, d, tk, o⟩) : codeAny (model prog w) A (.call (.ref f) args) R ⟨h, gs, d, t, o⟩ :=
  code_defC B F X₀ N T hA hf hke ho hcd hroom hbind hkind hnd (fun g L' h₁ tk cells FG F N Y B X T l => by
    rw [hcl] at Y
    obtain ⟨o1, rfl, d1⟩ := Y.one
    exact k g L' h₁ tk FG F B X T l o1 d1 N) hco hgen hk
theorem mDefC3 {x1 x2 x3 : Str} (hA : A.frames = some (env :: outer)) (hf : env.frame = some L) (hke : env.scope.kind = .function) (B : Below A₀ base outer h₀) (F : Fr h₀ L h m) (X₀ : K.In h₀) (N : News h₀ L h news) (T : Top p loose mean mg mb h₀)
    (ho : K.lookup f = some ⟨oc, od, .func (fnOf name qual params body scope dV kV doc pm an cdv ct), osl⟩) (hcd : codeIn K cdv qual = true) (hroom : A.depth < recursionLimit)
    (hbind : BindsTo ⟨h, gs, d, t, o⟩ (fnOf name qual params body scope dV kV doc pm an cdv ct) args binds) (hkind : (binds.all fun y => scope.names.lookup y.1 == some .local || scope.names.lookup y.1 == some .cell) = true)
    (hnd : ((cellsFrom 0 scope.names []).map (·.1)).Nodup) (hco : scope.isCoroutine = false) (hgen : scope.isGenerator = false) (hk : scope.kind = .function)
    (hcl : ∀ a, cellsFrom a scope.names [] = [(x1, a + 1 + 1), (x2, a + 1), (x3, a)])
    (k : ∀ g L' h₁ tk, Fr h₀ L g m → Fr g L' h₁ (bindL (envOfC qual scope L' f cdv).kindOf binds fun _ => none) → Below A base (env :: outer) g → K.In g → Top p loose mean mg mb g → (∀ p ∈ news, p.1 < L') →
      ∀ o1 o2 o3, o1.data = .cell (bindC (envOfC qual scope L' f cdv).kindOf binds (fun _ => none) x1) → o2.data = .cell (bindC (envOfC qual scope L' f cdv).kindOf binds (fun _ => none) x2) → o3.data = .cell (bindC (envOfC qual scope L' f cdv).kindOf binds (fun _ => none) x3) → News g L' h₁ ((L' + 1 + 1 + 1, o1) :: (L' + 1 + 1, o2) :: (L' + 1, o3) :: news) →
      wpAny (model prog w) (A.deeper (envOfC qual scope L' f cdv)) (execs body (envOfC qual scope L' f cdv))
        (fun fl s' => LeaveK h₀ L m g R (match fl with | .ret v => v | _ => .none) s')
        (fun e s' => wpAny (model prog w) (A.deeper (envOfC qual scope L' f cdv)) (leaving (envOfC qual scope L' f cdv) e) (fun _ s'' => R (.error e) s'') (fun e' s'' => R (.error e') s'') s')
        ⟨h₁, gs, d, tk, o⟩) : codeAny (model prog w) A (.call (.ref f) args) R ⟨h, gs, d, t, o⟩ :=
  code_defC B F X₀ N T hA hf hke ho hcd hroom hbind hkind hnd (fun g L' h₁ tk cells FG F N Y B X T l => by
    rw [hcl] at Y
    obtain ⟨o1, o2, o3, rfl, d1, d2, d3⟩ := Y.three
    exact k g L' h₁ tk FG F B X T l o1 o2 o3 d1 d2 d3 N) hco hgen hk
end
theorem mLC {prog : Program} {w : World} {A : Around} {E : Value → Shared → Prop} {s : Shared} {env : Env} {h₀ : Heap} {L : Addr} {m : Str → Option Value} {target elt iter : Expr} {ifs : List Expr} {scope : Scope} {cl : List (Str × Addr)} {pos : Pos} {Q : Value → Shared → Prop} (F₀ : Fr h₀ L s.heap m)
    (hclos : closureFor scope env = pure cl) (hcell : true = noCell scope.names) (hkind : scope.kind = .function) (hnames : ∀ y ∈ scope.names, y.2 = .local → scope.names.lookup y.1 = some .local) (hs : ∀ x, foldedSetIterable iter env x = pure x)
    (g : wpAny (model prog w) A (eval iter env) (fun xv s₁ => wpAny (model prog w) A (pyIter xv) (fun it s₂ => CompAt prog w A h₀ L m env target elt ifs scope cl (finE h₀ L m Q) it s₂) E s₁) E s) : wpAny (model prog w) A (eval (.ListComp elt [⟨target, iter, ifs, 0⟩] scope pos) env) Q E s := ListComp_at F₀ hclos (noCell_of hcell) hkind hnames g hs
theorem mALC {prog : Program} {w : World} {A : Around} {E : Value → Shared → Prop} {s : Shared} {env : Env} {h₀ : Heap} {m : Str → Option Value} {target elt iter : Expr} {ifs : List Expr} {y : Str} {py : Pos} {scope : Scope} {cl : List (Str × Addr)} {pos spos : Pos} {Q : Flow → Shared → Prop} (F₀ : Fr h₀ env.locals s.heap m)
    (hsw : swapsWith (.ListComp elt [⟨target, iter, ifs, 0⟩] scope pos) (some (.Name y py)) spos.line env = pure true) (hclos : closureFor scope env = pure cl) (hcell : true = noCell scope.names) (hkind : scope.kind = .function)
    (hnames : ∀ z ∈ scope.names, z.2 = .local → scope.names.lookup z.1 = some .local) (hy : env.kindOf y = some .local) (hp : (env.scope.kind == .class || (env.scope.kind == .module && env.locals != env.globals)) = false) (hs : ∀ x, foldedSetIterable iter env x = pure x)
    (g : wpAny (model prog w) A (eval iter env) (fun xv s₁ => wpAny (model prog w) A (pyIter xv) (fun it s₂ => CompAt prog w A h₀ env.locals m env target elt ifs scope cl (finA h₀ env.locals m y Q) it s₂) E s₁) E s) : wpAny (model prog w) A (exec (.Assign [.Name y py] (.ListComp elt [⟨target, iter, ifs, 0⟩] scope pos) spos) env) Q E s := Assign_ListComp_at F₀ hsw hclos (noCell_of hcell) hkind hnames hy hp g hs
end
section
open PySem PySem.W PySem.Calls PyProof.Rows
section
variable (M : Model) (A : Around) (env : Env) (E : Value → Shared → Prop)
noncomputable def SeqQ.CQ (rest : List Stmt) (Q : Flow → Shared → Prop) (f : Flow) (s : Shared) : Prop := match f with
  | .next => wpAny M A (execs rest env) Q E s
  | f => Q f s
noncomputable def IfQ.CQ (bd oe : List Stmt) (Q : Flow → Shared → Prop) (b : Bool) (s : Shared) : Prop := if b then wpAny M A (execs bd env) Q E s else wpAny M A (execs oe env) Q E s
noncomputable def IfxQ.CQ (l r : Expr) (Q : Value → Shared → Prop) (b : Bool) (s : Shared) : Prop := if b then wpAny M A (eval l env) Q E s else wpAny M A (eval r env) Q E s
noncomputable def TruQ.CQ (Q : Bool → Shared → Prop) (c : Value) (s : Shared) : Prop := wpAny M A (truthy c) Q E s
noncomputable def CmpQ.CQ (op : CmpOp) (a : Value) (Q : Value → Shared → Prop) (b : Value) (s : Shared) : Prop := wpAny M A (compareOp op a b) Q E s
noncomputable def CmpP.CQ (op : CmpOp) (r : Expr) (Q : Value → Shared → Prop) (a : Value) (s : Shared) : Prop := wpAny M A (eval r env) (CmpQ.CQ M A E op a Q) E s
noncomputable def BinQ.CQ (op : Operator) (a : Value) (Q : Value → Shared → Prop) (b : Value) (s : Shared) : Prop := wpAny M A (binaryOp op a b) Q E s
noncomputable def BinP.CQ (op : Operator) (r : Expr) (Q : Value → Shared → Prop) (a : Value) (s : Shared) : Prop := wpAny M A (eval r env) (BinQ.CQ M A E op a Q) E s
noncomputable def ArgQ.CQ (v : Value) (Q : List Value → Shared → Prop) (vs : List Value) (s : Shared) : Prop := Q (v :: vs) s
noncomputable def ArgP.CQ (pos : Pos) (rest : List Expr) (Q : List Value → Shared → Prop) (v : Value) (s : Shared) : Prop := wpAny M A (spliced (backTo pos (starEach rest env))) (ArgQ.CQ v Q) E s
noncomputable def TupQ.CQ (Q : Value → Shared → Prop) (vs : List Value) (s : Shared) : Prop := wpAny M A (newTuple vs) Q E s
noncomputable def LstQ.CQ (Q : Value → Shared → Prop) (vs : List Value) (s : Shared) : Prop := wpAny M A (newList vs) Q E s
noncomputable def SubQ.CQ (value slice : Expr) (o : Value) (Q : Value → Shared → Prop) (i : Value) (s : Shared) : Prop := wpAny M A (subscriptTail value slice o i) Q E s
noncomputable def SubP.CQ (value slice : Expr) (Q : Value → Shared → Prop) (o : Value) (s : Shared) : Prop := wpAny M A (eval slice env) (SubQ.CQ M A E value slice o Q) E s
noncomputable def AttQ.CQ (attr : Str) (Q : Value → Shared → Prop) (o : Value) (s : Shared) : Prop := wpAny M A (getAttr o attr true) Q E s
noncomputable def CalQ.CQ (pos : Pos) (args : List Expr) (Q : Value → Shared → Prop) (f : Value) (s : Shared) : Prop := wpAny M A (callWith pos f [] (backTo pos (starEach args env)) []) Q E s
noncomputable def MthQ.CQ (pos : Pos) (args : List Expr) (Q : Value → Shared → Prop) (fx : Value × List Value) (s : Shared) : Prop := wpAny M A (callWith pos fx.1 fx.2 (backTo pos (starEach args env)) []) Q E s
noncomputable def MthP.CQ (pl : Sem Bool) (name : Str) (pos : Pos) (args : List Expr) (Q : Value → Shared → Prop) (o : Value) (s : Shared) : Prop := wpAny M A (getMethod o name pl) (MthQ.CQ M A env E pos args Q) E s
noncomputable def KalQ.CQ (K : Frag) (f : Value) (Q : Value → Shared → Prop) (vs : List Value) (s : Shared) : Prop := K.In s.heap ∧ wpAny M A (call f vs) Q E s
noncomputable def KalM.CQ (K : Frag) (f u : Value) (Q : Value → Shared → Prop) (vs : List Value) (s : Shared) : Prop := K.In s.heap ∧ wpAny M A (call f (u :: vs)) Q E s
noncomputable def BltQ.CQ (id : String) (Q : Value → Shared → Prop) (vs : List Value) (s : Shared) : Prop := wpAny M A (call (.builtin id) vs) Q E s
noncomputable def BltM.CQ (id : String) (u : Value) (Q : Value → Shared → Prop) (vs : List Value) (s : Shared) : Prop := wpAny M A (call (.builtin id) (u :: vs)) Q E s
noncomputable def NxtQ.CQ (Q : Flow → Shared → Prop) (_ : Unit) (s : Shared) : Prop := Q .next s
noncomputable def AsgQ.CQ (x : Str) (Q : Flow → Shared → Prop) (v : Value) (s : Shared) : Prop := wpAny M A (storeName env x v) (NxtQ.CQ Q) E s
noncomputable def RetQ.CQ (Q : Flow → Shared → Prop) (v : Value) (s : Shared) : Prop := Q (.ret v) s
noncomputable def DrpQ.CQ (Q : Flow → Shared → Prop) (_ : Value) (s : Shared) : Prop := Q .next s
noncomputable def AndQ.CQ (pos : Pos) (rest : List Expr) (w : Sem Value) (Q : Bool → Shared → Prop) (c : Bool) (s : Shared) : Prop := if c then wpAny M A (isTrue (.BoolOp .And rest pos) env w) Q E s else Q false s
noncomputable def OrrQ.CQ (pos : Pos) (rest : List Expr) (w : Sem Value) (Q : Bool → Shared → Prop) (c : Bool) (s : Shared) : Prop := if c then Q true s else wpAny M A (isTrue (.BoolOp .Or rest pos) env w) Q E s
noncomputable def NotQ.CQ (Q : Bool → Shared → Prop) (c : Bool) (s : Shared) : Prop := Q (!c) s
end
section
variable {M : Model} {A : Around} {env : Env} {E : Value → Shared → Prop} {s : Shared} {v u c f : Value} {b : Bool} {vs : List Value} {pos : Pos} {k : Nat} {e l r value slice : Expr} {rest args : List Expr} {st : Stmt} {ss bd oe : List Stmt} {w : Sem Value} {K : Frag} {id : String}
theorem cSeq {Q : Flow → Shared → Prop} (g : wpAny M A (exec st env) (SeqQ.CQ M A env E ss Q) E s) : wpAny M A (execs (st :: ss) env) Q E s :=
  wpAny_execs_cons (wpAny_mono g (fun f s₁ h => by cases f <;> exact h) fun _ _ x => x)
theorem seqN {Q : Flow → Shared → Prop} (g : wpAny M A (execs ss env) Q E s) : SeqQ.CQ M A env E ss Q .next s := g
theorem seqR {Q : Flow → Shared → Prop} (g : Q (.ret v) s) : SeqQ.CQ M A env E ss Q (.ret v) s := g
theorem seqB {Q : Flow → Shared → Prop} (g : Q .brk s) : SeqQ.CQ M A env E ss Q .brk s := g
theorem seqC {Q : Flow → Shared → Prop} (g : Q .cont s) : SeqQ.CQ M A env E ss Q .cont s := g
theorem cIf {Q : Flow → Shared → Prop} (g : wpAny M A (isTrue e env (eval e env)) (IfQ.CQ M A env E bd oe Q) E s) : wpAny M A (exec (.If e bd oe pos) env) Q E s := wpAny_If g
theorem ifT {Q : Flow → Shared → Prop} (g : wpAny M A (execs bd env) Q E s) : IfQ.CQ M A env E bd oe Q true s := g
theorem ifF {Q : Flow → Shared → Prop} (g : wpAny M A (execs oe env) Q E s) : IfQ.CQ M A env E bd oe Q false s := g
theorem ifB {Q : Flow → Shared → Prop} (g : if b then wpAny M A (execs bd env) Q E s else wpAny M A (execs oe env) Q E s) : IfQ.CQ M A env E bd oe Q b s := g
theorem cIfx {Q : Value → Shared → Prop} (g : wpAny M A (isTrue e env (eval e env)) (IfxQ.CQ M A env E l r Q) E s) : wpAny M A (eval (.IfExp e l r pos) env) Q E s := IfExp_ g
theorem ifxT {Q : Value → Shared → Prop} (g : wpAny M A (eval l env) Q E s) : IfxQ.CQ M A env E l r Q true s := g
theorem ifxF {Q : Value → Shared → Prop} (g : wpAny M A (eval r env) Q E s) : IfxQ.CQ M A env E l r Q false s := g
theorem ifxB {Q : Value → Shared → Prop} (g : if b then wpAny M A (eval l env) Q E s else wpAny M A (eval r env) Q E s) : IfxQ.CQ M A env E l r Q b s := g
theorem truB {Q : Bool → Shared → Prop} (g : Q b s) : TruQ.CQ M A E Q (.bool b) s := wpAny_truthy_bool g
theorem truI {Q : Bool → Shared → Prop} (g : wpAny M A (truthy c) Q E s) : TruQ.CQ M A E Q c s := g
theorem cCmpT {op : CmpOp} {Q : Bool → Shared → Prop} (hm : false = behindInMarks op r) (g : wpAny M A (eval l env) (CmpP.CQ M A env E op r (TruQ.CQ M A E Q)) E s) : wpAny M A (isTrue (.Compare l [op] [r] pos) env w) Q E s := wpAny_isTrue_Compare1 g hm.symm
theorem cCmp {op : CmpOp} {Q : Value → Shared → Prop} (hm : false = behindInMarks op r) (g : wpAny M A (eval l env) (CmpP.CQ M A env E op r Q) E s) : wpAny M A (eval (.Compare l [op] [r] pos) env) Q E s := wpAny_Compare1 g hm.symm
theorem cmpP {op : CmpOp} {Q : Value → Shared → Prop} (g : wpAny M A (eval r env) (CmpQ.CQ M A E op v Q) E s) : CmpP.CQ M A env E op r Q v s := g
theorem cmpQ {op : CmpOp} {Q : Value → Shared → Prop} (g : wpAny M A (compareOp op u v) Q E s) : CmpQ.CQ M A E op u Q v s := g
theorem cBin {op : Operator} {Q : Value → Shared → Prop} (g : wpAny M A (eval l env) (BinP.CQ M A env E op r Q) E s) : wpAny M A (eval (.BinOp l op r pos) env) Q E s := wpAny_BinOp g
theorem binP {op : Operator} {Q : Value → Shared → Prop} (g : wpAny M A (eval r env) (BinQ.CQ M A E op v Q) E s) : BinP.CQ M A env E op r Q v s := g
theorem binQ {op : Operator} {Q : Value → Shared → Prop} (g : wpAny M A (binaryOp op u v) Q E s) : BinQ.CQ M A E op u Q v s := g
theorem cArg {Q : List Value → Shared → Prop} (hs : starEach (e :: rest) env = (false, eval e env) :: starEach rest env) (g : wpAny M A (eval e env) (ArgP.CQ M A env E pos rest Q) E s) : wpAny M A (spliced (backTo pos (starEach (e :: rest) env))) Q E s := args_cons g hs
theorem argP {Q : List Value → Shared → Prop} (g : wpAny M A (spliced (backTo pos (starEach rest env))) (ArgQ.CQ v Q) E s) : ArgP.CQ M A env E pos rest Q v s := g
theorem argQ {Q : List Value → Shared → Prop} (g : Q (v :: vs) s) : ArgQ.CQ v Q vs s := g
theorem cTup {Q : Value → Shared → Prop} (g : wpAny M A (spliced (backTo pos (starEach args env))) (TupQ.CQ M A E Q) E s) : wpAny M A (eval (.Tuple args k pos) env) Q E s := Tuple_ g
theorem tupQ {Q : Value → Shared → Prop} (g : wpAny M A (newTuple vs) Q E s) : TupQ.CQ M A E Q vs s := g
theorem cLst {Q : Value → Shared → Prop} (g : wpAny M A (spliced (backTo pos (starEach args env))) (LstQ.CQ M A E Q) E s) : wpAny M A (eval (.List args pos) env) Q E s := List_ g
theorem lstQ {Q : Value → Shared → Prop} (g : wpAny M A (newList vs) Q E s) : LstQ.CQ M A E Q vs s := g
theorem cSub {Q : Value → Shared → Prop} (g : wpAny M A (eval value env) (SubP.CQ M A env E value slice Q) E s) : wpAny M A (eval (.Subscript value slice pos) env) Q E s := Subscript_ g
theorem subP {Q : Value → Shared → Prop} (g : wpAny M A (eval slice env) (SubQ.CQ M A E value slice v Q) E s) : SubP.CQ M A env E value slice Q v s := g
theorem subQ {Q : Value → Shared → Prop} (g : wpAny M A (subscriptTail value slice u v) Q E s) : SubQ.CQ M A E value slice u Q v s := g
theorem cAtt {x attr : Str} {xp : Pos} {Q : Value → Shared → Prop} (hs : eval (.Attribute (.Name x xp) attr pos) env = (do
      let o ← eval (.Name x xp) env
      standAt pos.atName
      let r ← holding [o] (getAttr o attr true)
      letTemporaryGo (.Name x xp) o r
      pure r)) (g : wpAny M A (eval (.Name x xp) env) (AttQ.CQ M A E attr Q) E s) : wpAny M A (eval (.Attribute (.Name x xp) attr pos) env) Q E s := Attribute_Name_ g hs
theorem attQ {attr : Str} {Q : Value → Shared → Prop} (g : wpAny M A (getAttr v attr true) Q E s) : AttQ.CQ M A E attr Q v s := g
theorem cCal {Q : Value → Shared → Prop} (hs : eval (.Call e args [] pos) env = (do callWith pos (← eval e env) [] (backTo pos (starEach args env)) (backToKw pos (keywordEach [] env)))) (g : wpAny M A (eval e env) (CalQ.CQ M A env E pos args Q) E s) : wpAny M A (eval (.Call e args [] pos) env) Q E s := Call_ g hs
theorem calQ {Q : Value → Shared → Prop} (g : wpAny M A (callWith pos v [] (backTo pos (starEach args env)) []) Q E s) : CalQ.CQ M A env E pos args Q v s := g
theorem cMth {name : Str} {apos : Pos} {pl : Sem Bool} {Q : Value → Shared → Prop} (hs : eval (.Call (.Attribute e name apos) args [] pos) env = (do
      let ov ← eval e env
      standAt apos.atName
      let (f, first) ← holding [ov] (getMethod ov name pl)
      callWith pos f first (backTo pos (starEach args env)) [])) (g : wpAny M A (eval e env) (MthP.CQ M A env E pl name pos args Q) E s) : wpAny M A (eval (.Call (.Attribute e name apos) args [] pos) env) Q E s := MethodCall_ g hs
theorem mthP {name : Str} {pl : Sem Bool} {Q : Value → Shared → Prop} (g : wpAny M A (getMethod v name pl) (MthQ.CQ M A env E pos args Q) E s) : MthP.CQ M A env E pl name pos args Q v s := g
theorem mthQ {Q : Value → Shared → Prop} (g : wpAny M A (callWith pos f vs (backTo pos (starEach args env)) []) Q E s) : MthQ.CQ M A env E pos args Q (f, vs) s := g
theorem cKal {h₀ : Heap} {Q : Value → Shared → Prop} (X : K.In h₀) (hk : keepIn K f = true) (hs : starEach (e :: rest) env = (false, eval e env) :: starEach rest env) (hp : (backTo pos (starEach rest env)).any (·.1) = false)
    (g : wpAny M A (spliced (backTo pos (starEach (e :: rest) env))) (KalQ.CQ M A E K f Q) E s) : wpAny M A (callWith pos f [] (backTo pos (starEach (e :: rest) env)) []) Q E s := callWith_K X hk g hs hp
theorem cKaM {h₀ : Heap} {Q : Value → Shared → Prop} (X : K.In h₀) (hk : keepIn K f = true) (hs : starEach (e :: rest) env = (false, eval e env) :: starEach rest env) (hp : (backTo pos (starEach rest env)).any (·.1) = false)
    (g : wpAny M A (spliced (backTo pos (starEach (e :: rest) env))) (KalM.CQ M A E K f u Q) E s) : wpAny M A (callWith pos f [u] (backTo pos (starEach (e :: rest) env)) []) Q E s := callWith_K X hk g hs hp
theorem kalQ {h₀ : Heap} {L : Addr} {m : Str → Option Value} {Q : Value → Shared → Prop} (X : K.In h₀) (F : Fr h₀ L s.heap m) (g : wpAny M A (call f vs) Q E s) : KalQ.CQ M A E K f Q vs s := ⟨X.keeps F.keep, g⟩
theorem kalM {h₀ : Heap} {L : Addr} {m : Str → Option Value} {Q : Value → Shared → Prop} (X : K.In h₀) (F : Fr h₀ L s.heap m) (g : wpAny M A (call f (u :: vs)) Q E s) : KalM.CQ M A E K f u Q vs s := ⟨X.keeps F.keep, g⟩
theorem cBlt {Q : Value → Shared → Prop} (hs : starEach (e :: rest) env = (false, eval e env) :: starEach rest env) (hp : (backTo pos (starEach rest env)).any (·.1) = false) (g : wpAny M A (spliced (backTo pos (starEach (e :: rest) env))) (BltQ.CQ M A E id Q) E s) :
    wpAny M A (callWith pos (.builtin id) [] (backTo pos (starEach (e :: rest) env)) []) Q E s := callWith_builtin1 g hs hp
theorem cBlM {Q : Value → Shared → Prop} (hs : starEach (e :: rest) env = (false, eval e env) :: starEach rest env) (hp : (backTo pos (starEach rest env)).any (·.1) = false) (g : wpAny M A (spliced (backTo pos (starEach (e :: rest) env))) (BltM.CQ M A E id u Q) E s) :
    wpAny M A (callWith pos (.builtin id) [u] (backTo pos (starEach (e :: rest) env)) []) Q E s := callWith_method1 g hs hp
theorem bltQ {Q : Value → Shared → Prop} (g : wpAny M A (call (.builtin id) vs) Q E s) : BltQ.CQ M A E id Q vs s := g
theorem bltM {Q : Value → Shared → Prop} (g : wpAny M A (call (.builtin id) (u :: vs)) Q E s) : BltM.CQ M A E id u Q vs s := g
theorem cAsg {x : Str} {xp : Pos} {Q : Flow → Shared → Prop} (hs : swapsWith value (some (.Name x xp)) pos.line env = pure false) (g : wpAny M A (eval value env) (AsgQ.CQ M A env E x Q) E s) : wpAny M A (exec (.Assign [.Name x xp] value pos) env) Q E s := wpAny_Assign_Name g hs
theorem asgQ {x : Str} {Q : Flow → Shared → Prop} (g : wpAny M A (storeName env x v) (NxtQ.CQ Q) E s) : AsgQ.CQ M A env E x Q v s := g
theorem nxtQ {Q : Flow → Shared → Prop} (g : Q .next s) : NxtQ.CQ Q () s := g
theorem cRet {Q : Flow → Shared → Prop} (g : wpAny M A (eval e env) (RetQ.CQ Q) E s) : wpAny M A (exec (.Return (some e) pos) env) Q E s := wpAny_Return_some g
theorem retQ {Q : Flow → Shared → Prop} (g : Q (.ret v) s) : RetQ.CQ Q v s := g
theorem cAnd {Q : Bool → Shared → Prop} (g : wpAny M A (isTrue e env (eval e env)) (AndQ.CQ M A env E pos rest w Q) E s) : wpAny M A (isTrue (.BoolOp .And (e :: rest) pos) env w) Q E s := isTrue_and g
theorem andT {Q : Bool → Shared → Prop} (g : wpAny M A (isTrue (.BoolOp .And rest pos) env w) Q E s) : AndQ.CQ M A env E pos rest w Q true s := g
theorem andF {Q : Bool → Shared → Prop} (g : Q false s) : AndQ.CQ M A env E pos rest w Q false s := g
theorem andB {Q : Bool → Shared → Prop} (g : if b then wpAny M A (isTrue (.BoolOp .And rest pos) env w) Q E s else Q false s) : AndQ.CQ M A env E pos rest w Q b s := g
theorem cOrr {Q : Bool → Shared → Prop} (g : wpAny M A (isTrue e env (eval e env)) (OrrQ.CQ M A env E pos rest w Q) E s) : wpAny M A (isTrue (.BoolOp .Or (e :: rest) pos) env w) Q E s := isTrue_or g
theorem orrT {Q : Bool → Shared → Prop} (g : Q true s) : OrrQ.CQ M A env E pos rest w Q true s := g
theorem orrF {Q : Bool → Shared → Prop} (g : wpAny M A (isTrue (.BoolOp .Or rest pos) env w) Q E s) : OrrQ.CQ M A env E pos rest w Q false s := g
theorem orrB {Q : Bool → Shared → Prop} (g : if b then Q true s else wpAny M A (isTrue (.BoolOp .Or rest pos) env w) Q E s) : OrrQ.CQ M A env E pos rest w Q b s := g
theorem cNot {Q : Bool → Shared → Prop} (g : wpAny M A (isTrue e env (eval e env)) (NotQ.CQ Q) E s) : wpAny M A (isTrue (.UnaryOp .Not e pos) env w) Q E s := isTrue_not g
theorem notQ {Q : Bool → Shared → Prop} (g : Q (!b) s) : NotQ.CQ Q b s := g
theorem cTru {Q : Bool → Shared → Prop} (hs : isTrue e env w = (do let v ← w; standAt e.pos; holding [v] (truthy v))) (g : wpAny M A w (TruQ.CQ M A E Q) E s) : wpAny M A (isTrue e env w) Q E s := isTrue_plain g hs
end
section
variable {prog : Program} {w : World} {A : Around} {env : Env} {E : Value → Shared → Prop} {s : Shared} {v : Value} {e : Expr} {pos : Pos}
theorem cDrp {Q : Flow → Shared → Prop} (hi : interactive env = false) (hs : swapsWith e none pos.line env = pure false) (g : wpAny (model prog w) A (eval e env) (DrpQ.CQ Q) E s) : wpAny (model prog w) A (exec (.Expr e pos) env) Q E s := wpAny_Expr_any g hi hs
theorem drpQ {Q : Flow → Shared → Prop} (g : Q .next s) : DrpQ.CQ Q v s := g
end
end
section
open PySem PySem.W PySem.Calls PyProof.Rows
section
variable {prog : Program} {w : World} {A : Around} {E : Value → Shared → Prop} {s : Shared} {env : Env} {h₀ : Heap} {x : Str} {body : List Stmt} {Q : Flow → Shared → Prop}
inductive SNext_out (h₀ : Heap) (L : Addr) (x : Str) (m₀ : Str → Option Value) (led : List Cell) (P : Prop) (s₁ : Shared) (s₂ : Shared) : Prop where
  | mk (h' : _) (tk : _) (m' : _) (h1 : s₂ = { s₁ with heap := h', toks := tk }) (h2 : Fr h₀ L h' m') (h3 : News h₀ L h' led) (h4 : (∀ z, z ≠ x → m' z = m₀ z)) (h5 : P) : SNext_out h₀ L x m₀ led P s₁ s₂
structure SNext (h₀ : Heap) (L : Addr) (x : Str) (m₀ : Str → Option Value) (led : List Cell) (P : Prop) (s₁ s₂ : Shared) : Prop where
  out : SNext_out h₀ L x m₀ led P s₁ s₂
theorem SNext.intro {L : Addr} {m₀ m' : Str → Option Value} {led led' : List Cell} {P : Prop} {s₁ : Shared} {h' : Heap} {tk : Nat} (F : Fr h₀ L h' m') (N : News h₀ L h' led') (hl : ∀ p ∈ led, p ∈ led') (hm : ∀ z, z ≠ x → m' z = m₀ z) (hP : P) :
    SNext h₀ L x m₀ led P s₁ { s₁ with heap := h', toks := tk } := ⟨h', tk, m', rfl, F, News.sub N hl, hm, hP⟩
/-- what a turn of a loop that stores nothing but its own name leaves -/
noncomputable def SPost (h₀ : Heap) (L : Addr) (x : Str) (m₀ : Str → Option Value) (led : List Cell) (P : Prop) (s₁ : Shared) (Q : Flow → Shared → Prop) (f : Flow) (s₂ : Shared) : Prop :=
  match f with
  | .ret v => Q (.ret v) s₂
  | .brk => Q .next s₂
  | _ => SNext h₀ L x m₀ led P s₁ s₂
theorem spRet {L : Addr} {m₀ : Str → Option Value} {led : List Cell} {P : Prop} {s₁ s₂ : Shared} {v : Value} (h : Q (.ret v) s₂) : SPost h₀ L x m₀ led P s₁ Q (.ret v) s₂ := h
theorem spBrk {L : Addr} {m₀ : Str → Option Value} {led : List Cell} {P : Prop} {s₁ s₂ : Shared} (h : Q .next s₂) : SPost h₀ L x m₀ led P s₁ Q .brk s₂ := h
theorem spNext {L : Addr} {m₀ : Str → Option Value} {led : List Cell} {P : Prop} {s₁ s₂ : Shared} (h : SNext h₀ L x m₀ led P s₁ s₂) : SPost h₀ L x m₀ led P s₁ Q .next s₂ := h
theorem spCont {L : Addr} {m₀ : Str → Option Value} {led : List Cell} {P : Prop} {s₁ s₂ : Shared} (h : SNext h₀ L x m₀ led P s₁ s₂) : SPost h₀ L x m₀ led P s₁ Q .cont s₂ := h
theorem ipRet {L : Addr} {J : (Str → Option Value) → List Cell → Prop} {own : List Cell} {s₁ s₂ : Shared} {v : Value} (h : Q (.ret v) s₂) : InvPostG h₀ L J own s₁ Q (.ret v) s₂ := h
theorem ipBrk {L : Addr} {J : (Str → Option Value) → List Cell → Prop} {own : List Cell} {s₁ s₂ : Shared} (h : Q .next s₂) : InvPostG h₀ L J own s₁ Q .brk s₂ := h
theorem ipNext {L : Addr} {J : (Str → Option Value) → List Cell → Prop} {own : List Cell} {s₁ s₂ : Shared} (h : InvEndG h₀ L J own s₁ s₂) : InvPostG h₀ L J own s₁ Q .next s₂ := h
theorem ipCont {L : Addr} {J : (Str → Option Value) → List Cell → Prop} {own : List Cell} {s₁ s₂ : Shared} (h : InvEndG h₀ L J own s₁ s₂) : InvPostG h₀ L J own s₁ Q .cont s₂ := h
theorem iter_search {l : Addr} {vs : List Value} {nn : Nat} {m₀ : Str → Option Value} {news : List Cell} (P : Nat → Prop)
    (hh : A.handled = none) (hl : (l, listOf vs.toArray nn) ∈ news) (F : Fr h₀ env.locals s.heap m₀) (N : News h₀ env.locals s.heap news) (hp : P 0)
    (turn : ∀ i v h tk own, vs[i]? = some v → P i → Fr h₀ env.locals h (fun y => if y = x then some v else m₀ y) → News h₀ env.locals h (news ++ own) →
      wpAny (model prog w) A (execs body env) (SPost h₀ env.locals x m₀ (news ++ own) (P (i + 1)) { s with heap := h, toks := tk } Q) E { s with heap := h, toks := tk })
    (done : ∀ m₁ h tk, P vs.length → (∀ z, z ≠ x → m₁ z = m₀ z) → Fr h₀ env.locals h m₁ → News h₀ env.locals h news → Q .next { s with heap := h, toks := tk }) :
    wpAny (model prog w) A (pyIter (.ref l)) (fun it s₂ => LoopAtV prog w A h₀ env x body Q E it s₂) E s := by
  refine kdl_iter (news := news) (fun i m nx => nx = news ∧ (∀ z, z ≠ x → m z = m₀ z) ∧ P i) hh hl F N ⟨rfl, fun _ _ => rfl, hp⟩ ?_ ?_
  · rintro i v m₁ news₁ h tk own hv hoff _ ⟨rfl, hm, hP⟩ F₁ N₁
    have e : (fun y => if y = x then some v else m₁ y) = fun y => if y = x then some v else m₀ y := by
      funext y
      by_cases h1 : y = x
      · simp [h1]
      · simp only [if_neg h1]; exact hm y h1
    rw [e] at F₁
    refine wpAny_mono (turn i v h tk own hv hP F₁ N₁) (fun f s₂ p => ?_) fun _ _ e => e
    have up : SNext h₀ env.locals x m₀ (news₁ ++ own) (P (i + 1)) { s with heap := h, toks := tk } s₂ →
        InvEndG h₀ env.locals (fun m' nx => (l, listOf vs.toArray nn) ∈ nx ∧ nx = news₁ ∧ (∀ z, z ≠ x → m' z = m₀ z) ∧ P (i + 1)) own { s with heap := h, toks := tk } s₂ := by
      rintro ⟨h', tk', m', rfl, F', N', hm', hP'⟩
      exact ⟨h', tk', m', news₁ ++ own, news₁, rfl, F', N', fun p hp => List.mem_append.mpr (.inl hp), fun p hp => List.mem_append.mpr (.inr hp), hoff, hl, rfl, hm', hP'⟩
    cases f with
    | ret v => exact p
    | brk => exact p
    | next => exact up p
    | cont => exact up p
  · rintro m₁ nx h tk ⟨rfl, hm, hP⟩ F₁ N₁
    exact done m₁ h tk hP hm F₁ N₁
end
end
local macro_rules | `(tactic| row_room_at $n:ident) => `(tactic| k_extra $(Lean.Syntax.mkStrLit ("." ++ toString n.getId.eraseMacroScopes)))
local macro_rules | `(tactic| walk_at $s:str) => `(tactic| k_extra $s)
local macro_rules | `(tactic| k_all) => `(tactic| k_extra ".k_all")
local macro_rules | `(tactic| k_ne) => `(tactic| k_extra ".k_ne")
local macro_rules | `(tactic| k_mem) => `(tactic| k_extra ".k_mem")
local macro_rules | `(tactic| k_room) => `(tactic| k_extra ".k_room")
local macro_rules | `(tactic| k_enter) => `(tactic| k_extra ".k_enter")
local macro_rules | `(tactic| mul_fits) => `(tactic| k_extra ".mul_fits")
local macro_rules | `(tactic| wrow_close) => `(tactic| k_extra ".wrow_close")
local macro_rules | `(tactic| obtain $p:rcasesPatMed := $e:term) => `(tactic| (row_room_at hide9; rcases $e:term with $p:rcasesPatMed; all_goals row_room_at back9))
local macro_rules | `(tactic| obtain $p:rcasesPatMed : $t:term := $e:term) => `(tactic| obtain $p:rcasesPatMed := ($e : $t))
local macro_rules | `(tactic| k_lt $h) => `(tactic| replace $h := allLtC $h)
local macro_rules | `(tactic| row_room_at reg9) => `(tactic| k_with ".i1" => intro x)
theorem words : True := by
  row_room_at reg9
  (k_with ".im9" => first | exact mem_ix 0 rfl | exact mem_ix 1 rfl | exact mem_ix 2 rfl | exact mem_ix 3 rfl | exact mem_ix 4 rfl | exact mem_ix 5 rfl | exact mem_ix 6 rfl | exact mem_ix 7 rfl | exact mem_ix 8 rfl | exact mem_ix 9 rfl | (refine memD ?_; row_room_at im9))
  (k_with ".mem9" => first | exact memHead | (with_reducible first | assumption | exact mem1 | exact mem2 | exact mem3 | exact mem4 | exact mem5 | exact mem6 | exact mem7) | (apply memTail; row_room_at mem9) | (apply memL; row_room_at mem9) | (apply memR; row_room_at mem9))
  (k_with ".subT9" => with_reducible first | exact subRefl | assumption | (apply subTail; row_room_at subT9) | (apply subL; row_room_at subT9) | (apply subR; row_room_at subT9))
  (k_with ".sub9" => first | exact subNil | row_room_at subT9 | (apply subCons; row_room_at mem9; row_room_at sub9) | (apply subApp <;> row_room_at sub9) | (intro _ _; row_room_at mem9))
  (k_with ".ne9" => first | with_reducible assumption | (apply ne_lt; with_reducible assumption) | (apply ne_gt; with_reducible assumption) | (apply Ne.symm; with_reducible assumption) | (apply Apart.of; assumption; row_room_at bef9) | (apply Apart.of'; assumption; row_room_at bef9) | (apply neLtA; assumption; row_room_at mem9) | (apply neLtB; assumption; row_room_at mem9) | (apply neLtA1; assumption; row_room_at mem9) | (apply neLtB1; assumption; row_room_at mem9) | (apply neLtC; assumption; assumption; row_room_at mem9) | (apply neLtD; assumption; assumption; row_room_at mem9) | (apply neLtA2; assumption; row_room_at mem9) | (apply neLtB2; assumption; row_room_at mem9) | (apply neLtA3; assumption; row_room_at mem9) | (apply neLtB3; assumption; row_room_at mem9) | (refine neN ?_; (try dsimp only); omega))
  (k_with ".k_all" => first | exact List.forall_mem_nil _ | with_reducible assumption | (apply allP; row_room_at ne9; k_all) | (apply ne_app <;> k_all) | exact OwnOff.ne (by assumption) (by k_memK) | exact (fun h p hp => Nat.ne_of_lt (h p hp)) (by assumption) | (apply neSub; assumption; row_room_at sub9) | (apply neSub1; assumption; row_room_at sub9) | (apply neSubC; assumption; assumption; row_room_at sub9))
  (k_with ".lt9" => first | with_reducible assumption | (apply allLtSub; assumption; row_room_at sub9))
  (k_with ".bef9" => first | (apply Before.head; row_room_at mem9) | (apply Before.tail; row_room_at bef9))
  (k_with ".all9" => first | exact allNil | (apply allCons; row_room_at ne9; row_room_at all9))
  (k_with ".pw9" => first | exact pwNil | (apply pwCons; row_room_at all9; row_room_at pw9))
  (k_with ".off9" => first | exact offNil | exact offAsNil | with_reducible assumption | (apply offCons; row_room_at all9; row_room_at off9) | (apply offApp <;> row_room_at off9) | (apply offAs; assumption; row_room_at sub9) | (apply offAsCons; k_all; row_room_at off9))
  (k_with ".apart9" => (apply Apart.mk; row_room_at pw9; row_room_at off9))
  (k_with ".k_ne" => row_room_at ne9)
  (k_with ".k_mem" => row_room_at mem9)
  (k_with "InvPostG" => with_reducible first | apply ipRet | apply ipBrk | apply ipNext | apply ipCont)
  (k_with "SPost" => with_reducible first | apply spRet | apply spBrk | apply spNext | apply spCont)
  (k_with "eval ListComp" => (k_here; (with_reducible refine' mLC ?q1 ?q2 ?q3 ?q4 ?q5 ?q6 ?_); k_dflt ((case q1 => k_asm); (case q2 => with_unfolding_all rfl); (case q3 => exact rfl); (case q4 => exact rfl); (case q5 => decide); (case q6 => intro _; rfl))))
  (k_with "exec Assign cons ListComp" => (k_here; (with_reducible refine' mALC ?q1 ?q2 ?q3 ?q4 ?q5 ?q6 ?q7 ?q8 ?q9 ?_); k_dflt ((case q1 => k_asm); (case q2 => with_unfolding_all rfl); (case q3 => with_unfolding_all rfl); (case q4 => exact rfl); (case q5 => exact rfl); (case q6 => decide); (case q7 => exact rfl); (case q8 => exact rfl); (case q9 => intro _; rfl))))
  (k_with ".for9" => (k_here; (with_reducible refine' mFor ?q1 ?q2 ?q3 ?_); k_dflt ((case q1 => k_asm); (case q2 => intro _; rfl); (case q3 => passes_own))))
  (k_with "exec For" => row_room_at for9)
  (k_with ".kind9" => (intro _; rfl))
  (k_with "call ref" => ((with_reducible refine mStop ?_ ?_); k_dflt exact rfl))
  (k_with "subscriptTail" => (k_here; (with_reducible apply mLst); k_dflt (k_asm; row_room_at mem9; exact rfl; (first | decide | omega); (first | decide | omega); (first | with_reducible assumption | rfl))))
  (k_with "subscriptTail Name Constant ref int" => (k_here; (with_reducible apply mLst); k_dflt (k_asm; row_room_at mem9; exact rfl; (first | decide | omega); (first | decide | omega); (first | with_reducible assumption | rfl))))
  (k_with "subscriptTail" => (k_here; (with_reducible apply mLed); k_dflt (k_asm; row_room_at mem9; exact rfl; exact rfl; exact rfl)))
  (k_with "call builtin:len" => (k_here; (with_reducible apply mLen); k_dflt (k_asm; row_room_at mem9; omega)))
  (k_with ".rall9" => exact sc_all (by assumption))
  (k_with ".tame9" => exact sc_tame (by assumption))
  (k_with ".cmp9" => k_dflt (k_asm; row_room_at mem9; row_room_at mem9; row_room_at rall9; row_room_at tame9; row_room_at units9))
  (k_with "compareOp NotEq ref ref" => (k_here; first | ((with_reducible apply mNeC); row_room_at cmp9) | ((with_reducible apply mNe); row_room_at cmp9)))
  (k_with "compareOp Eq ref ref" => (k_here; first | ((with_reducible apply mEqC); row_room_at cmp9) | ((with_reducible apply mEq); row_room_at cmp9)))
  (k_with ".room9" => first | exact Nat.le_of_ble_eq_true rfl | ktr_room | ((try simp only [depth_under_make, depth_under_kw, depth_in1, depth_deeper, depth_caller]); (try dsimp only [ktrTop]); omega))
  (k_with ".units9" => first | exact Nat.le_of_ble_eq_true rfl | ktr_units | ((try simp only [units_in1, units_deeper, Around.mark_units, units_caller]); (try dsimp only [ktrTop]); omega))
  (k_with ".sides9" => ((case qhh => exact rfl); (case qhf => exact rfl); (case qhdp => row_room_at room9); (case qhu => row_room_at units9); (case qF => k_asm); (case qB => k_asm); (case qX => k_asm); (case qN => k_asm); (case qT => k_asm); (case qhk => exact rfl); (case qhs => first | exact fun _ h => h | row_room_at sub9)))
  (k_with ".rin9" => first | exact RIn.none | exact RIn.bool _ | exact RIn.int _ _ | exact RIn.str _ _ | exact Sc.rin (by assumption) | assumption | (apply RIn.tuple; row_room_at mem9; row_room_at rinall9) | (apply RIn.list; row_room_at mem9; row_room_at rinall9))
  (k_with ".rinall9" => first | exact RAll.nil | (apply RAll.cons; row_room_at rin9; row_room_at rinall9))
  (k_with ".rall9" => exact wt_all (by assumption) (by assumption) (by row_room_at sub9))
  (k_with ".tame9" => exact wt_tame (by assumption))
  (k_with ".mem9" => ((with_reducible apply mem_new); row_room_at mem9; row_room_at all9; k_all))
  (k_with "exec While Compare cons nil" => (k_here; with_reducible apply stopExec))
  (k_with "exec While Compare" => (k_here; with_reducible apply stopExec))
  (k_with ".sl9" => (repeat (first | exact List.Sublist.slnil | exact List.nil_sublist _ | apply List.Sublist.cons₂ | apply List.Sublist.cons)))
  (k_with "call type:enumerate" => (k_here; with_reducible apply stopCallG))
  (k_with ".own9" => first | exact ownNil | (apply ownSub; assumption; row_room_at sub9) | (apply ownCons; (first | (apply ownOld; assumption; row_room_at mem9) | k_all); row_room_at own9) | (apply ownApp <;> row_room_at own9))
  (k_with ".keep9" => first | exact keep_ovr | exact keep_id | (apply keep_upd; decide +kernel; row_room_at keep9))
  (k_with ".fend9" => (refine fend _ ?F ?N ?hk ?hs ?ho ?hf ?hJ; (case F => with_reducible assumption); (case N => with_reducible assumption); (case hk => row_room_at keep9)))
  (k_with "compareOp NotIn int ref" => (k_here; first | ((with_reducible apply notin_ints); k_asm; row_room_at mem9; assumption) | ((with_reducible apply notin_opt); k_asm; row_room_at mem9; assumption)))
  (k_with "call builtin:list.extend" => (k_here; with_reducible apply stopCallG))
  (k_with ".k_room" => exact Nat.le_of_ble_eq_true rfl)
  (k_with ".ent9" => ((with_reducible apply mEnter); exact rfl; exact rfl; (first | assumption | exact rfl); k_asm; k_asm; k_asm; k_asm; k_asm; k_is; k_is; exact Nat.le_of_ble_eq_true rfl; exact BindsTo.of_eq rfl; exact rfl; exact locs rfl; exact rfl; exact rfl; exact rfl; row_room_at i15; (try dsimp only)))
  (k_with ".enter9" => ((refine foldN (by assumption) ?_; row_room_at i2); first | row_room_at ent9 | row_room_at enter8))
  (k_with ".k_enter" => row_room_at ent9)
  (k_with "newTuple" => (k_here; (with_reducible apply mTup); k_dflt (k_asm; k_asm; kmk_size); row_room_at i7; (try k_sweep)))
  (k_with "newList" => (k_here; (with_reducible apply mList); k_dflt (k_asm; k_asm; size_fits); row_room_at i7; (try k_sweep)))
  (k_with "storeName" => (k_here; (with_reducible apply mStore); k_dflt (k_asm; k_asm; exact rfl; exact rfl; exact rfl); row_room_at i5; (try k_sweep)))
  (k_with "call builtin:list.append" => (k_here; (with_reducible apply mApp); k_dflt (k_asm; k_asm; k_upd; size_fits); row_room_at i5; (try k_sweep)))
  (k_with "call builtin:list.pop" => (k_here; (with_reducible apply mPop); k_dflt (k_asm; k_asm; k_upd; first | omega | (simp only [List.length_append, List.length_cons, List.length_nil]; omega)); row_room_at i5))
  (k_with "binaryOp Add ref ref" => (k_here; k_dflt (first | ((with_reducible apply addL_L); k_asm; k_asm; row_room_at mem9; row_room_at mem9; omega) | ((with_reducible apply addT_L); k_asm; k_asm; row_room_at mem9; row_room_at mem9; exact Nat.le_of_ble_eq_true rfl)); row_room_at i7; (try k_sweep)))
  (k_with "exec For Tuple Name" => row_room_at for9)
  (k_with "exec For Tuple Name cons nil" => row_room_at for9)
  (k_with "exec For Tuple Call" => row_room_at for9)
  (k_with "exec For Tuple Call cons nil" => row_room_at for9)
  (k_with "exec For Tuple Subscript" => row_room_at for9)
  (k_with "exec For Tuple Subscript cons nil" => row_room_at for9)
  (k_with "exec For Name Name" => row_room_at for9)
  (k_with "exec For Name Name cons nil" => row_room_at for9)
  (k_with "exec For Name Call" => row_room_at for9)
  (k_with "exec For Name Call cons nil" => row_room_at for9)
  (k_with "exec For Name Subscript" => row_room_at for9)
  (k_with "exec For Name Subscript cons nil" => row_room_at for9)
  (k_with "subscriptTail" => (k_here; (with_reducible apply mSc); k_asm; row_room_at mem9; assumption; k_dflt (exact rfl; exact rfl; with_unfolding_all (intro _; rfl))))
  (k_with ".mul_fits" => exact PySem.IntMulOk.of_left (fm64 _))
  (k_with "call builtin:sorted" => (k_here; with_reducible apply stopKw))
  (k_with "eval Lambda" => (k_here; with_reducible apply stopEval))
  (k_with "KskEnd" => (refine KskEnd.intro (by assumption) (by assumption) (by row_room_at sub9)))
  (k_with "CQ" => with_reducible first | refine mthQ ?_ | refine kalM (by k_dflt k_asm) (by k_dflt k_asm) ?_ | refine kalQ (by k_dflt k_asm) (by k_dflt k_asm) ?_ | refine truB ?_ | k_dflt show wpAny _ _ _ _ _ _ | refine argQ ?_ | refine seqR ?_ | refine nxtQ ?_ | refine retQ ?_ | refine drpQ ?_ | refine notQ ?_ | refine seqB ?_ | refine seqC ?_ | k_dflt show ite _ _ _)
  (k_with ".wrow_close" => walk_at "CQ")
  (k_with "execs cons" => (k_here; with_reducible refine cSeq ?_))
  (k_with "exec If" => (k_here; with_reducible refine cIf ?_))
  (k_with "eval IfExp" => (k_here; with_reducible refine cIfx ?_))
  (k_with "isTrue Compare" => (k_here; (with_reducible refine cCmpT ?_ ?_); k_dflt exact rfl))
  (k_with "eval Compare" => (k_here; (with_reducible refine cCmp ?_ ?_); k_dflt exact rfl))
  (k_with "eval BinOp" => (k_here; with_reducible refine cBin ?_))
  (k_with "spliced" => (k_here; (with_reducible refine cArg ?_ ?_); k_dflt exact rfl))
  (k_with "eval Tuple" => (k_here; with_reducible refine cTup ?_))
  (k_with "eval List" => (k_here; with_reducible refine cLst ?_))
  (k_with "eval Subscript" => (k_here; with_reducible refine cSub ?_))
  (k_with "eval Attribute Name" => (k_here; (with_reducible refine cAtt ?_ ?_); with_unfolding_all exact rfl))
  (k_with "eval Call" => (k_here; (with_reducible refine cCal ?_ ?_); k_dflt exact rfl))
  (k_with "eval Call Attribute" => (k_here; (with_reducible refine' cMth ?q1 ?_); k_dflt (case q1 => exact rfl)))
  (k_with "callWith ref" => (k_here; (with_reducible first | refine' cKal ?q1 ?q2 ?q3 ?q4 ?_ | refine' cKaM ?q1 ?q2 ?q3 ?q4 ?_); k_dflt ((case q1 => k_asm); (case q2 => k_is); (case q3 => exact rfl); (case q4 => exact rfl))))
  (k_with "callWith" => (k_here; (with_reducible first | refine cBlt ?_ ?_ ?_ | refine cBlM ?_ ?_ ?_); k_dflt (exact rfl; exact rfl)))
  (k_with "exec Assign" => (k_here; (with_reducible refine cAsg ?_ ?_); k_dflt exact rfl))
  (k_with "exec Return some" => (k_here; with_reducible refine cRet ?_))
  (k_with "exec Expr" => (k_here; (with_reducible refine cDrp ?_ ?_ ?_); k_dflt (exact rfl; exact rfl)))
  (k_with "isTrue BoolOp" => (k_here; with_reducible first | refine cAnd ?_ | refine cOrr ?_))
  (k_with "isTrue UnaryOp" => (k_here; with_reducible refine cNot ?_))
  (k_with "isTrue" => (k_here; (with_reducible refine cTru ?_ ?_); k_dflt exact rfl))
  (k_with ".op9" => ((with_reducible apply runI); intro Q9 E9 hQ9; walk1; (try dsimp only); with_reducible exact hQ9))
  (k_with ".name9" => ((with_reducible show Run _ _ (eval (Expr.Name _ _) _) _ _ _); first | ((with_reducible apply runL); k_asm; exact rfl; exact rfl; exact rfl; exact rfl; exact rfl) | ((with_reducible apply runC); k_asm; exact rfl; k_mem; k_asm; exact rfl; exact rfl; exact rfl) | ((with_reducible apply runK); k_asm; k_asm; k_asm; k_is; exact rfl; exact rfl; exact rfl; exact rfl) | ((with_reducible apply runB); k_asm; k_asm; k_asm; k_is; boot_fast; decide; exact rfl; exact rfl; exact rfl; exact rfl; exact rfl)))
  (k_with ".run9" => first | row_room_at name9 | with_reducible exact runInt | with_reducible exact runStr | ((with_reducible apply runSub); row_room_at run9; row_room_at run9; row_room_at op9) | ((with_reducible apply runAttr); with_unfolding_all rfl; row_room_at name9; row_room_at op9) | ((with_reducible apply runBin); row_room_at run9; row_room_at run9; row_room_at op9))
  (k_with "eval Attribute Name" => (k_here; (with_reducible refine' attrUse ?q1 ?q2 ?_); k_dflt ((case q1 => with_unfolding_all rfl); (case q2 => row_room_at name9))))
  (k_with "eval Subscript" => (k_here; (with_reducible refine' subUse ?q1 ?q2 ?_); k_dflt ((case q1 => row_room_at run9); (case q2 => row_room_at run9))))
  (k_with "L6 exec Assign" => (k_here; (with_reducible rename CutMark => hq9); clear hq9; with_reducible refine stopAsg ?_))
  (k_with "L6 exec If" => (k_here; (with_reducible rename CutMark => hq9); clear hq9; with_reducible refine stopIf ?_))
  (k_with "L6 getMethod ref" => (k_here; k_dflt (refine kob_method (knd := PySem.intKind _ _) PySem.F.slot_dict_pop PySem.F.type_dict_pop (by k_asm) (by row_room_at mem9) (by assumption) ?_)))
  (k_with "L6 call builtin:dict.pop" => (k_here; k_dflt (refine' kob_pop (knd := PySem.intKind _ _) (more := []) ?qF ?qN ?qU ?qd (intKind_is _ _ _ _) (.inl rfl) (by rfl) (PySem.F.args_dict_pop_2 _ _) ?ql ?qz ?_; (case qF => k_asm); (case qN => k_asm); (case qU => k_updF); (case qd => assumption); (case ql => assumption); (case qz => (rw [sizeLine_eq]; omega))); row_room_at i5))
  (k_with "L6 subscriptTail Name Slice ref ref" => (k_here; k_dflt (refine' kmk_slice_lit ?qF ?qN ?ql ?qp ?qq ?qe ?_ ?qs ?qt ?qz; (case qF => k_asm); (case qN => k_asm); (case ql => exact News.isList (by k_asm) (by row_room_at mem9)); (case qp => kmk_part); (case qq => kmk_part); (case qe => exact slice_rest (by assumption)); (case qs => with_unfolding_all rfl); (case qt => kmk_pure); (case qz => (rw [sizeLine_eq]; simp only [List.size_toArray, List.length_cons]; omega))); intro _ _ _ _ l1; (try replace l1 := allLtC l1); revert l1; intro _))
  (k_with "L6 subscriptTail Name Slice ref ref" => (k_here; k_dflt (refine' tup_rest ?qF ?qN ?qm ?qz ?_ ?qs ?qt; (case qF => k_asm); (case qN => k_asm); (case qm => row_room_at mem9); (case qz => exact Nat.le_of_ble_eq_true rfl); (case qs => with_unfolding_all rfl); (case qt => kmk_pure)); intro _ _ _ _ l1; (try replace l1 := allLtC l1); revert l1; intro _))
  (k_with "L7 call builtin:list.remove" => (k_here; k_dflt (refine' rm_led ?qF ?qN ?qr ?qi ?qk ?qz ?_; (case qF => k_asm); (case qN => k_asm); (case qr => assumption); (case qi => assumption); (case qk => assumption); (case qz => omega)); row_room_at i5))
  (k_with "R compareOp Eq ref ref" => (k_here; with_reducible refine stopCmp ?_))
  (k_with "R4 compareOp NotEq ref ref" => (k_here; with_reducible refine stopCmp ?_))
  (k_with "R4 setItem ref int" => (k_here; k_dflt (refine' kda_set (knd := PySem.intKind _ _) ?qF ?qN ?qU ?qd (intKind_is _ _ _ _) ?qz ?_; (case qF => k_asm); (case qN => k_asm); (case qU => k_updF); (case qd => assumption); (case qz => (rw [sizeLine_eq]; omega))); row_room_at i5))
  (k_with "R7 exec For Tuple List" => row_room_at for9)
  (k_with "R7 exec For Tuple List cons nil" => row_room_at for9)
  (k_with "R7 exec For Tuple List cons If" => row_room_at for9)
  (k_with "R8 call builtin:len" => (k_here; k_dflt (refine' len_base ?qF ?qm ?ql ?_; (case qF => k_asm); (case qm => with_reducible assumption); (case ql => simp only [List.length_cons, List.length_nil] at *; omega); k_whole)))
  (k_with "R8 subscriptTail" => (k_here; k_dflt (refine' item_base ?qF ?qm ?qa ?qb ?qc ?_; (case qF => k_asm); (case qm => with_reducible assumption); (case qa => first | decide | omega); (case qb => first | decide | omega); (case qc => first | with_reducible assumption | rfl); k_whole)))
  (k_with ".enter8" => ((first | ktr_enter | ((first | ((with_reducible apply mDefC1); k_dflt (exact rfl; exact rfl; assumption; k_asm; k_asm; k_asm; k_asm; k_asm; k_is; k_is; ktr_room; exact BindsTo.of_eq rfl; exact rfl; decide +kernel; exact rfl; exact rfl; exact rfl; (intro _; exact rfl)); row_room_at i9; intro l9; (try replace l9 := allLtC l9); revert l9; iterate 4 row_room_at i1) | ((with_reducible apply mDefC3); k_dflt (exact rfl; exact rfl; assumption; k_asm; k_asm; k_asm; k_asm; k_asm; k_is; k_is; ktr_room; exact BindsTo.of_eq rfl; exact rfl; decide +kernel; exact rfl; exact rfl; exact rfl; (intro _; exact rfl)); row_room_at i9; intro l9; (try replace l9 := allLtC l9); revert l9; iterate 8 row_room_at i1)); (try dsimp only); (try k_fold))); (try (with_reducible apply genT; intro _))))
  (k_with "LeaveK" => ((with_reducible apply leave_K); k_dflt (k_asm; k_asm; k_asm; k_asm); row_room_at i5; (try dsimp only [InitBack]); (try refine ⟨rfl, ?_⟩); (try dsimp only)))
  (k_with ".hide9" => refine hideL ?_; intro G9)
  (k_with ".back9" => unfold G9; clear G9)
  (k_with ".i2" => iterate 2 row_room_at i1)
  (k_with ".i5" => iterate 5 row_room_at i1)
  (k_with ".i7" => iterate 7 row_room_at i1)
  (k_with ".i15" => iterate 15 row_room_at i1)
  (k_with ".i9" => iterate 9 row_room_at i1)
  exact trivial
section
/-- a deed that waits -/
structure Ent where
  g : Int
  k : Str
  n : Int
  v : Value
  c : Int
  s : Option Int
inductive EntIn (T : List Cell) (v : Value) (e : Ent) : Prop where
  | mk (a : _) (n : _) (tg : _) (tk : _) (tn : _) (tc : _) (h1 : v = .ref a) (h2 : (a, tupO [.int e.g tg, .str e.k tk, .int e.n tn, e.v, .int e.c tc] n) ∈ T) : EntIn T v e
theorem EntIn.mono {T T' : List Cell} {v : Value} {e : Ent} (h : EntIn T v e) (hs : ∀ p ∈ T, p ∈ T') : EntIn T' v e := by
  obtain ⟨a, n, tg, tk, tn, tc, rfl, hm⟩ := h
  exact ⟨a, n, tg, tk, tn, tc, rfl, hs _ hm⟩
theorem find_at {α : Type} {p : α → Bool} {l : List α} {i : Nat} {e : α} (he : l[i]? = some e) (hP : ∀ e ∈ l.take i, p e = false) (h : p e = true) : l.find? p = some e := by
  induction l generalizing i with
  | nil => simp at he
  | cons a l ih =>
    cases i with
    | zero => simp at he; subst he; simp [h]
    | succ i =>
      have h1 := hP a (by simp)
      rw [List.find?_cons, h1]
      exact ih (by simpa using he) (fun e he => hP e (by simp [he]))
theorem take_succ_all {α : Type} {p : α → Bool} {l : List α} {i : Nat} {e : α} (he : l[i]? = some e) (hP : ∀ e ∈ l.take i, p e = false) (h : p e = false) : ∀ e ∈ l.take (i + 1), p e = false := by
  intro x hx
  rw [List.take_add_one, he] at hx
  rcases List.mem_append.mp hx with hx | hx
  · exact hP x hx
  · simp at hx; subst hx; exact h
noncomputable def entQ (kd : Str) (n : Int) (e : Ent) : Bool := decide (e.k = kd) && decide (e.n = n)
noncomputable abbrev sSend : Str := Str.ofString "send"
noncomputable abbrev sTake : Str := Str.ofString "take"
/-- the dict of a PlainChannel -/
noncomputable abbrev cEs (k : Nat → Int) (t : Nat → Tok) (room : Int) (tr : Tok) (hl : Addr) (cl : Bool) : List DictEntry :=
  [⟨k 0, .str (Str.ofString "room") (t 0), .int room tr⟩, ⟨k 1, .str (Str.ofString "held") (t 1), .ref hl⟩, ⟨k 2, .str (Str.ofString "is_closed") (t 2), .bool cl⟩]
noncomputable def maySend (cl : Bool) (held : List Value) (room : Int) (es : List Ent) (n : Int) : Bool := cl || decide ((held.length : Int) < room) || (es.find? (entQ (Str.ofString "take") n)).isSome
noncomputable def mayTake (cl : Bool) (held : List Value) (es : List Ent) (n : Int) : Bool := cl || !held.isEmpty || (es.find? (entQ (Str.ofString "send") n)).isSome
/-- the plain channels stand in the ledger -/
structure PlIn (news : List Cell) (P pd wl ch : Addr) (k : Nat → Int) (t : Nat → Tok) (nw nc : Nat) (vs chs : List Value) (es : List Ent) : Prop where
  P : (P, instObj 148 pd) ∈ news
  pd : (pd, dictOf (pEs k t ch wl) 2) ∈ news
  wl : (wl, listOf vs.toArray nw) ∈ news
  ch : (ch, listOf chs.toArray nc) ∈ news
  es : All2 (EntIn news) vs es
structure ChIn (news : List Cell) (C cd hl : Addr) (k : Nat → Int) (t : Nat → Tok) (room : Int) (tr : Tok) (cl : Bool) (nh : Nat) (held : List Value) : Prop where
  C : (C, instObj 31 cd) ∈ news
  cd : (cd, dictOf (cEs k t room tr hl cl) 3) ∈ news
  hl : (hl, listOf held.toArray nh) ∈ news
  sc : ∀ v ∈ held, Sc v
structure Row where
  g : Int
  c : Int
  w : PyData
inductive RowIn (T : List Cell) (v : Value) (r : Row) : Prop where
  | mk (a : _) (n : _) (tg : _) (tc : _) (wv : _) (h1 : v = .ref a) (h2 : (a, tupO [.int r.g tg, .int r.c tc, wv] n) ∈ T) (h3 : RIn T wv r.w) : RowIn T v r
theorem RowIn.mono {T T' : List Cell} {v : Value} {r : Row} (h : RowIn T v r) (hs : ∀ p ∈ T, p ∈ T') : RowIn T' v r := by
  obtain ⟨a, n, tg, tc, wv, rfl, hm, hr⟩ := h
  exact ⟨a, n, tg, tc, wv, rfl, hs _ hm, hr.mono hs⟩
/-- what a deed of the plain channels tells -/
inductive ResIn (T : List Cell) (r : Value) (told : PyData) (rows : List Row) : Prop where
  | mk (a : _) (n : _) (tv : _) (rl : _) (rvs : _) (c : _) (h1 : r = .ref a) (h2 : (a, tupO [tv, .ref rl] n) ∈ T) (h3 : RIn T tv told) (h4 : (rl, listOf (List.toArray rvs) c) ∈ T) (h5 : All2 (RowIn T) rvs rows) : ResIn T r told rows
noncomputable abbrev sentD : PyData := .tuple [.str (Str.ofString "sent")]
noncomputable abbrev recvD (v : Value) (b : Bool) : PyData := .tuple [.str (Str.ofString "received"), scD v, .bool b]
noncomputable abbrev panicD (x : Str) : PyData := .tuple [.str (Str.ofString "panic"), .str x]
noncomputable abbrev sClosed : Str := Str.ofString "send on closed channel"
structure Eff where
  held : List Value
  es : List Ent
  told : PyData
  rows : List Row
noncomputable def sendNow (cl : Bool) (held : List Value) (es : List Ent) (n : Int) (v : Value) : Eff :=
  if cl then ⟨held, es, panicD sClosed, []⟩ else match es.find? (entQ sTake n) with
    | none => ⟨held ++ [v], es, sentD, []⟩
    | some e => ⟨held, es.filter fun x => x.g != e.g, sentD, [⟨e.g, e.c, recvD v true⟩]⟩
inductive PlPost_ex (P : Addr) (pd : Addr) (ch : Addr) (C : Addr) (cd : Addr) (hl : Addr) (k : Nat → Int) (t : Nat → Tok) (nc : Nat) (chs : List Value) (k' : Nat → Int) (t' : Nat → Tok) (room : Int) (tr : Tok) (cl : Bool) (rest : List Cell) (e : Eff) (r : Value) (new : List Cell) : Prop where
  | mk (wl' : _) (nw' : _) (vs' : _) (nh' : _) (h1 : PlIn new P pd wl' ch k t nw' nc vs' chs e.es) (h2 : ChIn new C cd hl k' t' room tr cl nh' e.held) (h3 : (∀ p ∈ rest, p ∈ new)) (h4 : Apart [P, pd, wl', ch, C, cd, hl] rest) (h5 : ResIn (offOf ([P, pd, wl', ch, C, cd, hl] ++ rest.map (·.1)) new) r e.told e.rows) : PlPost_ex P pd ch C cd hl k t nc chs k' t' room tr cl rest e r new
structure PlPost (P pd wl ch C cd hl : Addr) (k : Nat → Int) (t : Nat → Tok) (nc : Nat) (chs : List Value) (k' : Nat → Int) (t' : Nat → Tok) (room : Int) (tr : Tok) (cl : Bool) (rest : List Cell) (e : Eff) (r : Value) (new : List Cell) : Prop where
  ex : PlPost_ex P pd ch C cd hl k t nc chs k' t' room tr cl rest e r new
theorem Apart.back {P pd wl wl' ch C cd hl : Addr} {o1 o2 o3 o4 : Obj} {rest : List Cell} (D0 : Apart [P, pd, wl, ch, C, cd, hl] rest) (D : Apart [P, pd, wl'] ((ch, o1) :: (C, o2) :: (cd, o3) :: (hl, o4) :: rest)) : Apart [P, pd, wl', ch, C, cd, hl] rest := by
  have hoff := D.off
  have hoff0 := D0.off
  have q1 : @Ne Nat P wl' := D.of (.head (memTail memHead))
  have q2 : @Ne Nat pd wl' := D.of (.tail (.head memHead))
  have q3 : @Ne Nat ch wl' := hoff (ch, _) memHead wl' (memTail (memTail memHead))
  have q4 : @Ne Nat C wl' := hoff (C, _) (memTail memHead) wl' (memTail (memTail memHead))
  have q5 : @Ne Nat cd wl' := hoff (cd, _) (memTail (memTail memHead)) wl' (memTail (memTail memHead))
  have q6 : @Ne Nat hl wl' := hoff (hl, _) (memTail (memTail (memTail memHead))) wl' (memTail (memTail memHead))
  have q7 : ∀ p ∈ rest, p.1 ≠ wl' := fun p hp => hoff p (memTail (memTail (memTail (memTail hp)))) wl' (memTail (memTail memHead))
  clear D hoff
  row_room_at apart9
theorem sc_snoc {vs : List Value} {v : Value} (h : ∀ v ∈ vs, Sc v) (hv : Sc v) : ∀ u ∈ vs ++ [v], Sc u := by
  intro u hu
  rcases List.mem_append.mp hu with hu | hu
  · exact h u hu
  · rw [List.mem_singleton.mp hu]; exact hv
noncomputable def takeNow (held : List Value) (es : List Ent) (n : Int) : Eff :=
  match es.find? (entQ sSend n) with
  | none => match held with
    | [] => ⟨[], es, recvD .none false, []⟩
    | v :: t => ⟨t, es, recvD v true, []⟩
  | some e => match held with
    | [] => ⟨[], es.filter fun x => x.g != e.g, recvD e.v true, [⟨e.g, e.c, sentD⟩]⟩
    | v :: t => ⟨t ++ [e.v], es.filter fun x => x.g != e.g, recvD v true, [⟨e.g, e.c, sentD⟩]⟩
noncomputable def doNow (kd : Str) (cl : Bool) (held : List Value) (es : List Ent) (n : Int) (v : Value) : Eff := if kd = sSend then sendNow cl held es n v else takeNow held es n
/-- those that a close wakes, one by one -/
inductive Ended (kd : Str) (n : Int) (told : PyData) : List Ent → List Row → List Ent → Prop where
  | done {es : List Ent} : es.find? (entQ kd n) = none → Ended kd n told es [] es
  | step {es es' : List Ent} {rows : List Row} {e : Ent} : es.find? (entQ kd n) = some e → Ended kd n told (es.filter fun x => x.g != e.g) rows es' → Ended kd n told es (⟨e.g, e.c, told⟩ :: rows) es'
/-- one that waits at a channel with queues -/
structure Wt where
  g : Int
  v : Value
  c : Option Int
  s : Option Int
inductive WtIn (T : List Cell) (v : Value) (x : Wt) : Prop where
  | mk (a : _) (n : _) (tg : _) (tc : _) (ts : _) (h1 : v = .ref a) (h2 : (a, tupO [.int x.g tg, x.v, optV x.c tc, optV x.s ts] n) ∈ T) : WtIn T v x
theorem WtIn.mono {T T' : List Cell} {v : Value} {x : Wt} (h : WtIn T v x) (hs : ∀ p ∈ T, p ∈ T') : WtIn T' v x := by
  obtain ⟨a, n, tg, tc, ts, rfl, hm⟩ := h
  exact ⟨a, n, tg, tc, ts, rfl, hs _ hm⟩
noncomputable def optD : Option Int → PyData
  | some i => .int i
  | none => .none
theorem All2.wt {T T' : List Cell} {as : List Value} {bs : List Wt} (h : All2 (WtIn T) as bs) (s : ∀ p ∈ T, p ∈ T') : All2 (WtIn T') as bs := h.mono fun _ _ h => h.mono s
theorem All2.ent {T T' : List Cell} {as : List Value} {bs : List Ent} (h : All2 (EntIn T) as bs) (s : ∀ p ∈ T, p ∈ T') : All2 (EntIn T') as bs := h.mono fun _ _ h => h.mono s
theorem optV_rin {T : List Cell} (o : Option Int) (t : Tok) : RIn T (optV o t) (optD o) := by cases o <;> first | exact .none | exact .int _ _
theorem optD_tame (o : Option Int) : Tame (optD o) := by cases o <;> first | exact tame_none | exact tame_int
noncomputable def wtD (x : Wt) : PyData := .tuple [.int x.g, scD x.v, optD x.c, optD x.s]
theorem wt_all {T news : List Cell} {vs : List Value} {xs : List Wt} (h : All2 (WtIn T) vs xs) (hs : ∀ x ∈ xs, Sc x.v) (hT : ∀ p ∈ T, p ∈ news) : RAll news vs (xs.map wtD) := by
  induction h with
  | nil => exact .nil
  | cons hx _ ih =>
    obtain ⟨a, n, tg, tc, ts, rfl, hm⟩ := hx
    exact .cons (.tuple (hT _ hm) (.cons (.int _ _) (.cons (hs _ (.head _)).rin (.cons (optV_rin _ _) (.cons (optV_rin _ _) .nil))))) (ih fun x hx => hs x (.tail _ hx))
theorem wt_tame {xs : List Wt} (hs : ∀ x ∈ xs, Sc x.v) : TameAll (xs.map wtD) := by
  intro d hd
  obtain ⟨x, hx, rfl⟩ := List.mem_map.mp hd
  have h1 := (hs x hx).tame
  have h2 := optD_tame x.c
  have h3 := optD_tame x.s
  have l1 := h1.low
  have l2 := h2.low
  have l3 := h3.low
  have e : ∀ o : Option Int, (optD o).depth = 0 := fun o => by cases o <;> simp [optD, PyData.depth]
  have e1 : (scD x.v).depth = 0 := by
    rcases hs x hx with e | ⟨i, t, e⟩ <;> rw [e] <;> simp [scD, PyData.depth]
  refine ⟨?_, ?_⟩
  · simp [wtD, PyData.canLay0, PyData.canLayAll0, h1.lay, h2.lay, h3.lay]
  · simp [wtD, PyData.depth, PyData.depthAll, e, e1]
/-- the dict of a Channel -/
noncomputable abbrev qEs (k : Nat → Int) (t : Nat → Tok) (room : Int) (tr : Tok) (b sl rl : Addr) (cl : Bool) : List DictEntry :=
  [⟨k 0, .str (Str.ofString "room") (t 0), .int room tr⟩, ⟨k 1, .str (Str.ofString "buffer") (t 1), .ref b⟩, ⟨k 2, .str (Str.ofString "senders") (t 2), .ref sl⟩, ⟨k 3, .str (Str.ofString "receivers") (t 3), .ref rl⟩, ⟨k 4, .str (Str.ofString "closed") (t 4), .bool cl⟩]
/-- a channel with queues stands in the ledger -/
structure QIn (news : List Cell) (q qd b sl rl : Addr) (k : Nat → Int) (t : Nat → Tok) (room : Int) (tr : Tok) (cl : Bool) (nb ns nr : Nat) (buf svs rvs : List Value) (snd rcv : List Wt) : Prop where
  q : (q, instObj 235 qd) ∈ news
  qd : (qd, dictOf (qEs k t room tr b sl rl cl) 5) ∈ news
  b : (b, listOf buf.toArray nb) ∈ news
  s : (sl, listOf svs.toArray ns) ∈ news
  r : (rl, listOf rvs.toArray nr) ∈ news
  hsnd : All2 (WtIn news) svs snd
  hrcv : All2 (WtIn news) rvs rcv
  scb : ∀ v ∈ buf, Sc v
  scs : ∀ x ∈ snd, Sc x.v
  scr : ∀ x ∈ rcv, Sc x.v
/-- what is told first -/
inductive First where
  | blocked
  | done
  | got (v : Value) (b : Bool)
  | panic (x : Str)
noncomputable def FirstIn (T : List Cell) (v : Value) : First → Prop
  | .blocked => ∃ a n t, v = .ref a ∧ (a, tupO [.str (Str.ofString "blocked") t] n) ∈ T
  | .done => ∃ a n t, v = .ref a ∧ (a, tupO [.str (Str.ofString "done") t] n) ∈ T
  | .got u b => ∃ a n t, v = .ref a ∧ (a, tupO [.str (Str.ofString "done") t, u, .bool b] n) ∈ T
  | .panic x => ∃ a n t t', v = .ref a ∧ (a, tupO [.str (Str.ofString "panic") t, .str x t'] n) ∈ T
structure WRow where
  g : Int
  c : Option Int
  s : Option Int
  w : PyData
inductive WRowIn (T : List Cell) (v : Value) (x : WRow) : Prop where
  | mk (a : _) (n : _) (tw : _) (tg : _) (tc : _) (ts : _) (wv : _) (h1 : v = .ref a) (h2 : (a, tupO [.str (Str.ofString "woken") tw, .int x.g tg, optV x.c tc, optV x.s ts, wv] n) ∈ T) (h3 : RIn T wv x.w) : WRowIn T v x
theorem WRowIn.mono {T T' : List Cell} {v : Value} {x : WRow} (h : WRowIn T v x) (hs : ∀ p ∈ T, p ∈ T') : WRowIn T' v x := by
  obtain ⟨a, n, tw, tg, tc, ts, wv, rfl, hm, hr⟩ := h
  exact ⟨a, n, tw, tg, tc, ts, wv, rfl, hs _ hm, hr.mono hs⟩
theorem FirstIn.mono {T T' : List Cell} {v : Value} {x : First} (h : FirstIn T v x) (hs : ∀ p ∈ T, p ∈ T') : FirstIn T' v x := by
  cases x with
  | blocked => obtain ⟨a, n, t, rfl, hm⟩ := h; exact ⟨a, n, t, rfl, hs _ hm⟩
  | done => obtain ⟨a, n, t, rfl, hm⟩ := h; exact ⟨a, n, t, rfl, hs _ hm⟩
  | got u b => obtain ⟨a, n, t, rfl, hm⟩ := h; exact ⟨a, n, t, rfl, hs _ hm⟩
  | panic x => obtain ⟨a, n, t, t', rfl, hm⟩ := h; exact ⟨a, n, t, t', rfl, hs _ hm⟩
inductive OutIn (T : List Cell) (r : Value) (f : First) (rows : List WRow) : Prop where
  | mk (a : _) (fv : _) (vs : _) (c : _) (h1 : r = .ref a) (h2 : (a, listOf (List.toArray (fv :: vs)) c) ∈ T) (h3 : FirstIn T fv f) (h4 : All2 (WRowIn T) vs rows) : OutIn T r f rows
theorem OutIn.mono {T T' : List Cell} {v : Value} {x : First} {rows : List WRow} (h : OutIn T v x rows) (hs : ∀ p ∈ T, p ∈ T') : OutIn T' v x rows := by
  obtain ⟨a, fv, vs, c, rfl, hm, hf, hr⟩ := h
  exact ⟨a, fv, vs, c, rfl, hs _ hm, hf.mono hs, hr.mono fun _ _ h => h.mono hs⟩
noncomputable def wok (x : Wt) (w : PyData) : WRow := ⟨x.g, x.c, x.s, w⟩
structure QSt where
  room : Int
  buf : List Value
  snd : List Wt
  rcv : List Wt
  cl : Bool
structure QEff where
  st : QSt
  first : First
  rows : List WRow
noncomputable def qOffer (q : QSt) (x : Wt) : QEff :=
  if q.cl then ⟨q, .panic sClosed, []⟩ else match q.rcv with
    | y :: rs => ⟨{ q with rcv := rs }, .done, [wok y (recvD x.v true)]⟩
    | [] => if (q.buf.length : Int) < q.room then ⟨{ q with buf := q.buf ++ [x.v] }, .done, []⟩ else ⟨{ q with snd := q.snd ++ [x] }, .blocked, []⟩
noncomputable def qTake (q : QSt) (x : Wt) : QEff :=
  match q.buf with
  | v :: t => match q.snd with
    | [] => ⟨{ q with buf := t }, .got v true, []⟩
    | y :: ss => ⟨{ q with buf := t ++ [y.v], snd := ss }, .got v true, [wok y sentD]⟩
  | [] => match q.snd with
    | y :: ss => ⟨{ q with snd := ss }, .got y.v true, [wok y sentD]⟩
    | [] => if q.cl then ⟨q, .got .none false, []⟩ else ⟨{ q with rcv := q.rcv ++ [x] }, .blocked, []⟩
noncomputable def keepS (o : Option Int) (l : List Wt) : List Wt := match o with
  | none => l
  | some t => l.filter fun x => x.s != some t
noncomputable def forget (o : Option Int) (q : QSt) : QSt := { q with snd := keepS o q.snd, rcv := keepS o q.rcv }
inductive QPost_ex (q : Addr) (qd : Addr) (b : Addr) (sl : Addr) (rl : Addr) (k : Nat → Int) (t : Nat → Tok) (tr : Tok) (rest : List Cell) (e : QEff) (r : Value) (new : List Cell) : Prop where
  | mk (nb : _) (ns : _) (nr : _) (svs : _) (rvs : _) (h1 : QIn new q qd b sl rl k t e.st.room tr e.st.cl nb ns nr e.st.buf svs rvs e.st.snd e.st.rcv) (h2 : (∀ p ∈ rest, p ∈ new)) (h3 : OutIn (offOf ([q, qd, b, sl, rl] ++ rest.map (·.1)) new) r e.first e.rows) : QPost_ex q qd b sl rl k t tr rest e r new
structure QPost (q qd b sl rl : Addr) (k : Nat → Int) (t : Nat → Tok) (tr : Tok) (rest : List Cell) (e : QEff) (r : Value) (new : List Cell) : Prop where
  ex : QPost_ex q qd b sl rl k t tr rest e r new

noncomputable abbrev sTwice : Str := Str.ofString "close of closed channel"
noncomputable abbrev sNil : Str := Str.ofString "close of nil channel"
noncomputable abbrev doneD : PyData := .tuple [.str (Str.ofString "done")]
noncomputable abbrev goneD : PyData := .tuple [.str (Str.ofString "received"), .none, .bool false]
structure ClosePost (P pd wl ch C cd hl : Addr) (k : Nat → Int) (t : Nat → Tok) (nc : Nat) (chs : List Value) (k' : Nat → Int) (t' : Nat → Tok) (room : Int) (tr : Tok) (cl : Bool) (held : List Value) (es : List Ent) (n : Int) (rest : List Cell) (r : Value) (new : List Cell) : Prop where
  ex : if cl = true then PlPost P pd wl ch C cd hl k t nc chs k' t' room tr true rest ⟨held, es, panicD sTwice, []⟩ r new else ∃ rows₁ es₁ rows₂ es₂, Ended sTake n goneD es rows₁ es₁ ∧ Ended sSend n (panicD sClosed) es₁ rows₂ es₂ ∧ PlPost P pd wl ch C cd hl k t nc chs k' t' room tr true rest ⟨held, es₂, doneD, rows₁ ++ rows₂⟩ r new

/-- forget leaves new queues -/
inductive ForgetPost_ex (q : Addr) (qd : Addr) (b : Addr) (k : Nat → Int) (t : Nat → Tok) (room : Int) (tr : Tok) (cl : Bool) (nb : Nat) (buf : List Value) (T : List Cell) (snd : List Wt) (rcv : List Wt) (rest : List Cell) (new : List Cell) : Prop where
  | mk (sl : _) (rl : _) (ns : _) (nr : _) (svs : _) (rvs : _) (h1 : new = (q, instObj 235 qd) :: (qd, dictOf (qEs k t room tr b sl rl cl) 5) :: (b, listOf buf.toArray nb) :: (sl, listOf (List.toArray svs) ns) :: (rl, listOf (List.toArray rvs) nr) :: rest) (h2 : All2 (WtIn T) svs snd) (h3 : All2 (WtIn T) rvs rcv) (h4 : Apart [q, qd, b, sl, rl] rest) : ForgetPost_ex q qd b k t room tr cl nb buf T snd rcv rest new
structure ForgetPost (q qd b : Addr) (k : Nat → Int) (t : Nat → Tok) (room : Int) (tr : Tok) (cl : Bool) (nb : Nat) (buf : List Value) (T : List Cell) (snd rcv : List Wt) (rest : List Cell) (new : List Cell) : Prop where
  ex : ForgetPost_ex q qd b k t room tr cl nb buf T snd rcv rest new
end
section
theorem fillS : (PySem.Challenge.rw_on0022_01.name = PySem.Challenge.rw_on0022_01.name) ∧ (hd.heap_39 = hd.heap_39) := by k_fill; exact ⟨rfl, rfl⟩
theorem first_waiting_spec {w : World} {P pd wl : Addr} {k : Nat → Int} {t : Nat → Tok} {ch : Addr} {nw : Nat} {vs : List Value} {es : List Ent} {news : List Cell} {kd : Str} {tk tn : Tok} {n : Int}
    (hP : (P, instObj 148 pd) ∈ news) (hpd : (pd, dictOf (pEs k t ch wl) 2) ∈ news) (hwl : (wl, listOf vs.toArray nw) ∈ news) (hes : All2 (EntIn news) vs es) :
    CallSpec 490 3900 w 77 [.ref P, .str kd tk, .int n tn] news
      (fun r new => new = news ∧
        match es.find? (entQ kd n) with
        | none => r = .none
        | some e => ∃ i : Nat, es[i]? = some e ∧ vs[i]? = some r) := by
  unfold CallSpec
  intro gd cn cs a ccd cl outer A₀ base h₀ L m s p loose mean mg mb Q E B F X N T hk ret
  refine wpAny_call ?_
  k_dflt row_room_at enter9
  k_steps
  (with_unfolding_all refine' iter_search (vs := vs) (nn := nw) (fun i => ∀ e ∈ es.take i, entQ kd n e = false) ?qhh ?qhl ?qF ?qN ?qhp ?qturn ?qdone)
  case qN => k_asm
  case qhh => rfl
  case qhl => row_room_at mem9
  case qF => assumption
  case qhp => intro e he; simp at he
  case qturn =>
    intro i v h tk own hv hP' F' N'
    obtain ⟨e, he, hE⟩ := hes.get hv
    have hE' := hE
    obtain ⟨a, n', tg, tk', tn', tc, rfl, hm⟩ := hE'
    (try show wpAny _ _ _ _ _ _)
    k_fold
    k_steps
    all_goals (try dsimp only)
    · refine ret _ _ _ _ (by assumption) (News.sub (by assumption) ?_) ⟨rfl, ?_⟩
      · row_room_at sub9
      · rename e.n = n => hn
        rename (e.k == kd) = true => hk'
        rw [find_at he hP' (by simp [entQ, hn, eq_of_beq hk'])]
        exact ⟨i, he, hv⟩
    · refine SNext.intro (by assumption) (by assumption) ?_ ?_ ?_
      · row_room_at sub9
      · intro z hz; exact if_neg hz
      · rename e.n ≠ n => hn
        exact take_succ_all he hP' (by simp [entQ, hn])
    · refine SNext.intro (by assumption) (by assumption) ?_ ?_ ?_
      · row_room_at sub9
      · intro z hz; exact if_neg hz
      · rename (e.k == kd) = false => hk'
        exact take_succ_all he hP' (by have := ne_of_beq_false hk'; simp [entQ, this])
  case qdone =>
    intro m₁ h tk hP' hm F' N'
    simp only []
    try k_fold
    k_steps
    refine ret _ _ _ _ (by assumption) (by assumption) ⟨rfl, ?_⟩
    rw [hes.length, List.take_length] at hP'
    rw [List.find?_eq_none.mpr (fun e he => by rw [hP' e he]; decide)]
end
section
theorem may_send_spec {w : World} {P pd wl ch C cd hl : Addr} {k k' : Nat → Int} {t t' : Nat → Tok} {nw nc nh : Nat} {vs : List Value} {es : List Ent} {news : List Cell} {n : Int} {tn tr : Tok} {chs held : List Value} {room : Int} {cl : Bool}
    (H : PlIn news P pd wl ch k t nw nc vs chs es) (H' : ChIn news C cd hl k' t' room tr cl nh held) (h0 : 0 ≤ n) (hn : n < 1000) (hC : chs[n.toNat]? = some (.ref C)) (hlen : held.length ≤ 100) :
    CallSpec 480 3800 w 89 [.ref P, .int n tn] news (fun r new => new = news ∧ r = .bool (maySend cl held room es n)) := by
  unfold CallSpec
  intro gd cn cs a ccd cls outer A₀ base h₀ L m s p loose mean mg mb Q E B F X N T hk ret
  have m1 := H.P
  have m2 := H.pd
  have m3 := H.wl
  have m4 := H.ch
  have hes := H.es
  have m5 := H'.C
  have m6 := H'.cd
  have m7 := H'.hl
  have hsc := H'.sc
  refine wpAny_call ?_
  k_dflt row_room_at enter9
  k_steps
  all_goals (try (refine ret _ _ _ _ (by assumption) (News.sub (by assumption) (by row_room_at sub9)) ⟨rfl, ?_⟩; (simp_all [maySend]; done)))
  · refine goOn ?_
    (try k_fold)
    refine' CallSpec.callU (first_waiting_spec m1 m2 m3 hes) U2r ?qhh ?qhf ?qhdp ?qhu ?qB ?qF ?qX ?qN ?qhs ?qT ?qhk ?_
    row_room_at sides9
    intro r hr h' tk' F' N'
    cases hf : es.find? (entQ (Str.ofString "take") n) with
    | none =>
      rw [hf] at hr
      subst hr
      k_steps
      refine ret _ _ _ _ (by assumption) (News.sub (by assumption) (by row_room_at sub9)) ⟨rfl, ?_⟩
      simp_all [maySend]
    | some e =>
      rw [hf] at hr
      obtain ⟨i, he, hv⟩ := hr
      obtain ⟨a, n', tg, tk', tn', tc, rfl, hm⟩ := hes.at hv he
      k_steps
      refine ret _ _ _ _ (by assumption) (News.sub (by assumption) (by row_room_at sub9)) ⟨rfl, ?_⟩
      simp_all [maySend]
theorem may_send_none {w : World} {P : Addr} {news : List Cell} : CallSpec 480 3800 w 89 [.ref P, .none] news (fun r new => new = news ∧ r = .bool false) := by
  unfold CallSpec
  intro gd cn cs a ccd cls outer A₀ base h₀ L m s p loose mean mg mb Q E B F X N T hk ret
  refine wpAny_call ?_
  k_dflt row_room_at enter9
  k_steps
  refine ret _ _ _ _ (by assumption) (News.sub (by assumption) (by row_room_at sub9)) ⟨rfl, ?_⟩
  rfl
theorem may_take_spec {w : World} {P pd wl ch C cd hl : Addr} {k k' : Nat → Int} {t t' : Nat → Tok} {nw nc nh : Nat} {vs : List Value} {es : List Ent} {news : List Cell} {n : Int} {tn tr : Tok} {chs held : List Value} {room : Int} {cl : Bool}
    (H : PlIn news P pd wl ch k t nw nc vs chs es) (H' : ChIn news C cd hl k' t' room tr cl nh held) (h0 : 0 ≤ n) (hn : n < 1000) (hC : chs[n.toNat]? = some (.ref C)) (hlen : held.length ≤ 100) :
    CallSpec 480 3800 w 96 [.ref P, .int n tn] news (fun r new => new = news ∧ r = .bool (mayTake cl held es n)) := by
  unfold CallSpec
  intro gd cn cs a ccd cls outer A₀ base h₀ L m s p loose mean mg mb Q E B F X N T hk ret
  have m1 := H.P
  have m2 := H.pd
  have m3 := H.wl
  have m4 := H.ch
  have hes := H.es
  have m5 := H'.C
  have m6 := H'.cd
  have m7 := H'.hl
  have hsc := H'.sc
  refine wpAny_call ?_
  k_dflt row_room_at enter9
  k_steps
  all_goals (try (refine ret _ _ _ _ (by assumption) (News.sub (by assumption) (by row_room_at sub9)) ⟨rfl, ?_⟩; (simp_all [mayTake]; done)))
  · refine goOn ?_
    (try k_fold)
    refine' CallSpec.callU (first_waiting_spec m1 m2 m3 hes) U2r ?qhh ?qhf ?qhdp ?qhu ?qB ?qF ?qX ?qN ?qhs ?qT ?qhk ?_
    row_room_at sides9
    intro r hr h' tk' F' N'
    cases hf : es.find? (entQ (Str.ofString "send") n) with
    | none =>
      rw [hf] at hr
      subst hr
      k_steps
      refine ret _ _ _ _ (by assumption) (News.sub (by assumption) (by row_room_at sub9)) ⟨rfl, ?_⟩
      simp_all [mayTake]
    | some e =>
      rw [hf] at hr
      obtain ⟨i, he, hv⟩ := hr
      obtain ⟨a, n', tg, tk', tn', tc, rfl, hm⟩ := hes.at hv he
      k_steps
      refine ret _ _ _ _ (by assumption) (News.sub (by assumption) (by row_room_at sub9)) ⟨rfl, ?_⟩
      simp_all [mayTake]
theorem may_take_none {w : World} {P : Addr} {news : List Cell} : CallSpec 480 3800 w 96 [.ref P, .none] news (fun r new => new = news ∧ r = .bool false) := by
  unfold CallSpec
  intro gd cn cs a ccd cls outer A₀ base h₀ L m s p loose mean mg mb Q E B F X N T hk ret
  refine wpAny_call ?_
  k_dflt row_room_at enter9
  k_steps
  refine ret _ _ _ _ (by assumption) (News.sub (by assumption) (by row_room_at sub9)) ⟨rfl, ?_⟩
  rfl
theorem may_do_spec {w : World} {P pd wl ch C cd hl : Addr} {k k' : Nat → Int} {t t' : Nat → Tok} {nw nc nh : Nat} {vs : List Value} {es : List Ent} {news : List Cell} {n : Int} {tn tr : Tok} {chs held : List Value} {room : Int} {cl : Bool} {kd : Str} {tk : Tok}
    (H : PlIn news P pd wl ch k t nw nc vs chs es) (H' : ChIn news C cd hl k' t' room tr cl nh held) (h0 : 0 ≤ n) (hn : n < 1000) (hC : chs[n.toNat]? = some (.ref C)) (hlen : held.length ≤ 100) (hm : (P, instObj 148 pd) ∈ news) (hpd : (pd, dictOf (pEs k t ch wl) 2) ∈ news) :
    CallSpec 470 3700 w 103 [.ref P, .str kd tk, .int n tn] news (fun r new => new = news ∧ r = .bool (if kd = sSend then maySend cl held room es n else mayTake cl held es n)) := by
  unfold CallSpec
  intro gd cn cs a ccd cls outer A₀ base h₀ L m s p loose mean mg mb Q E B F X N T hk ret
  refine wpAny_call ?_
  k_dflt row_room_at enter9
  k_steps
  ·
    refine goOn ?_
    (try k_fold)
    refine' CallSpec.callU (may_send_spec H H' h0 hn hC hlen) U2 ?qhh ?qhf ?qhdp ?qhu ?qB ?qF ?qX ?qN ?qhs ?qT ?qhk ?_
    row_room_at sides9
    intro h' tk' F' N'
    k_steps
    refine ret _ _ _ _ (by assumption) (News.sub (by assumption) (by row_room_at sub9)) ⟨rfl, ?_⟩
    rename (kd == _) = true => hq
    rw [if_pos (eq_of_beq hq)]
  ·
    refine goOn ?_
    (try k_fold)
    refine' CallSpec.callU (may_take_spec H H' h0 hn hC hlen) U2 ?qhh ?qhf ?qhdp ?qhu ?qB ?qF ?qX ?qN ?qhs ?qT ?qhk ?_
    row_room_at sides9
    intro h' tk' F' N'
    k_steps
    refine ret _ _ _ _ (by assumption) (News.sub (by assumption) (by row_room_at sub9)) ⟨rfl, ?_⟩
    rename (kd == _) = false => hq
    rw [if_neg (ne_of_beq_false hq)]
theorem may_do_none {w : World} {P pd wl ch : Addr} {k : Nat → Int} {t : Nat → Tok} {news : List Cell} {kd : Str} {tk : Tok} (hm : (P, instObj 148 pd) ∈ news) (hpd : (pd, dictOf (pEs k t ch wl) 2) ∈ news) :
    CallSpec 470 3700 w 103 [.ref P, .str kd tk, .none] news (fun r new => new = news ∧ r = .bool false) := by
  unfold CallSpec
  intro gd cn cs a ccd cls outer A₀ base h₀ L m s p loose mean mg mb Q E B F X N T hk ret
  refine wpAny_call ?_
  k_dflt row_room_at enter9
  k_steps
  ·
    refine goOn ?_
    (try k_fold)
    refine' CallSpec.callU (may_send_none) U2 ?qhh ?qhf ?qhdp ?qhu ?qB ?qF ?qX ?qN ?qhs ?qT ?qhk ?_
    row_room_at sides9
    intro h' tk' F' N'
    k_steps
    refine ret _ _ _ _ (by assumption) (News.sub (by assumption) (by row_room_at sub9)) ⟨rfl, ?_⟩
    rfl
  ·
    refine goOn ?_
    (try k_fold)
    refine' CallSpec.callU (may_take_none) U2 ?qhh ?qhf ?qhdp ?qhu ?qB ?qF ?qX ?qN ?qhs ?qT ?qhk ?_
    row_room_at sides9
    intro h' tk' F' N'
    k_steps
    refine ret _ _ _ _ (by assumption) (News.sub (by assumption) (by row_room_at sub9)) ⟨rfl, ?_⟩
    rfl
end
section
theorem take_succ {α : Type} {l : List α} {i : Nat} {e : α} (he : l[i]? = some e) : l.take (i + 1) = l.take i ++ [e] := by rw [List.take_add_one, he]; rfl
noncomputable def T_let_go (P pd wl ch : Addr) (k : Nat → Int) (t : Nat → Tok) (rest T : List Cell) (es : List Ent) (C : Value → List Cell → Prop) : Prop :=
  ∀ wl' vs' c', All2 (EntIn T) vs' es → Apart [P, pd, wl'] rest → @Ne Nat wl wl' → C .none ((P, instObj 148 pd) :: (pd, dictOf (pEs k t ch wl') 2) :: (wl', listOf (List.toArray vs') c') :: rest)
theorem U_let_go {P pd wl ch : Addr} {k : Nat → Int} {t : Nat → Tok} {rest T : List Cell} {es : List Ent} : ∀ C, T_let_go P pd wl ch k t rest T es C → ∀ r new, (r = .none ∧ ∃ wl' vs' c', new = (P, instObj 148 pd) :: (pd, dictOf (pEs k t ch wl') 2) :: (wl', listOf (List.toArray vs') c') :: rest ∧ All2 (EntIn T) vs' es ∧ Apart [P, pd, wl'] rest ∧ @Ne Nat wl wl') → C r new := fun C k9 r new h9 => by
  obtain ⟨rfl, wl', vs', c', rfl, h1, h2, h3⟩ := h9
  exact k9 wl' vs' c' h1 h2 h3
theorem let_go_spec {w : World} {P pd wl ch : Addr} {k : Nat → Int} {t : Nat → Tok} {nw : Nat} {vs : List Value} {es : List Ent} {rest T : List Cell} {g : Int} {tg : Tok}
    (hT : ∀ p ∈ T, p ∈ rest) (hes : All2 (EntIn T) vs es) (hsz : es.length ≤ 100) (D : Apart [P, pd, wl] rest) :
    CallSpec 490 3900 w 82 [.ref P, .int g tg] ((P, instObj 148 pd) :: (pd, dictOf (pEs k t ch wl) 2) :: (wl, listOf vs.toArray nw) :: rest)
      (fun r new => r = .none ∧ ∃ wl' vs' c', new = (P, instObj 148 pd) :: (pd, dictOf (pEs k t ch wl') 2) :: (wl', listOf (List.toArray vs') c') :: rest ∧ All2 (EntIn T) vs' (es.filter fun e => e.g != g) ∧ Apart [P, pd, wl'] rest ∧ @Ne Nat wl wl') := by
  unfold CallSpec
  intro gd cn cs a ccd cl outer A₀ base h₀ L m s p loose mean mg mb Q E B F X N Tp hk ret
  have hoff := D.off
  refine wpAny_call ?_
  k_dflt row_room_at enter9
  k_steps
  have hlen := hes.length
  (with_unfolding_all refine' comp_list (vs := vs) (nn := nw) (fun i ys tl => tl = [] ∧ All2 (EntIn T) ys ((es.take i).filter fun e => e.g != g)) ?qhh ?qF ?qN ?qhl ?qhn ?qh0 ?qhx ?qhkd ?qturn ?qdone)
  case qhh => rfl
  case qF => assumption
  case qN => assumption
  case qhl => row_room_at mem9
  case qhn => rw [sizeLine_eq]; omega
  case qh0 => exact ⟨rfl, .nil⟩
  case qhx => intro C'; rfl
  case qhkd => intro C'; rfl
  case qturn =>
    intro C i v ys tl own h tk h₁ tk₁ oC m₂ E' hv hK hys ht ho hoC hN hx F₁ N₁
    obtain ⟨rfl, hK⟩ := hK
    simp only [List.append_nil, List.cons_append] at N₁
    obtain ⟨e, he, hE⟩ := hes.get hv
    have hE' := hE
    obtain ⟨a, n', tg, tk', tn', tc, rfl, hm⟩ := hE'
    replace hm := hT _ hm
    refine growTurn_one ?_
    (try show wpAny _ _ _ _ _ _)
    k_fold
    k_steps
    · refine CGrow.intro [] (by assumption) (by assumption) (by row_room_at sub9) (by assumption) offNil offNil offNil ⟨rfl, ?_⟩
      rename e.g ≠ g => hg
      rw [take_succ he, List.filter_append]
      simpa [hg] using hK.snoc hE
    · refine CGrow.intro [] (by assumption) (by assumption) (by row_room_at sub9) (by assumption) offNil offNil offNil ⟨rfl, ?_⟩
      rename e.g = g => hg
      rw [take_succ he, List.filter_append]
      simpa [hg] using hK
  case qdone =>
    intro s₂ Dl ys tl c h' tk hs ht N₁ hD hK
    obtain ⟨hh, rfl⟩ := hs
    obtain ⟨rfl, hK⟩ := hK
    simp only [List.append_nil] at N₁ hD
    simp only [List.forall_mem_cons] at hD
    obtain ⟨d1, hD⟩ := hD
    obtain ⟨d2, d3, d4, d5⟩ := fm3 hD
    dsimp only at d2 d3 d4
    unfold finE
    intro F₁
    k_steps
    refine ret _ _ _ _ (by assumption) (News.sub (by assumption) ?_) ⟨rfl, Dl, ys, c, rfl, ?_, ?_, d4⟩
    · row_room_at sub9
    · rw [hlen, List.take_length] at hK
      exact hK
    · row_room_at apart9
end
section
theorem send_now_spec {w : World} {P pd wl ch C cd hl : Addr} {k k' : Nat → Int} {t t' : Nat → Tok} {nw nc nh : Nat} {vs : List Value} {es : List Ent} {rest : List Cell} {n : Int} {tn tr : Tok} {chs held : List Value} {room : Int} {cl : Bool} {v : Value}
    (h0 : 0 ≤ n) (hn : n < 1000) (hC : chs[n.toNat]? = some (.ref C)) (hes : All2 (EntIn rest) vs es) (hsz : es.length ≤ 100) (hsc : ∀ v ∈ held, Sc v) (hlen : held.length ≤ 100) (hv : Sc v) (hse : ∀ e ∈ es, Sc e.v) (D : Apart [P, pd, wl, ch, C, cd, hl] rest) :
    CallSpec 480 3800 w 110 [.ref P, .int n tn, v] ((P, instObj 148 pd) :: (pd, dictOf (pEs k t ch wl) 2) :: (wl, listOf vs.toArray nw) :: (ch, listOf chs.toArray nc) :: (C, instObj 31 cd) :: (cd, dictOf (cEs k' t' room tr hl cl) 3) :: (hl, listOf held.toArray nh) :: rest)
      (fun r new => PlPost P pd wl ch C cd hl k t nc chs k' t' room tr cl rest (sendNow cl held es n v) r new) := by
  unfold CallSpec
  intro gd cn cs a ccd cls outer A₀ base h₀ L m s p loose mean mg mb Q E B F X N T hk ret
  have hoff := D.off
  refine wpAny_call ?_
  k_dflt row_room_at enter9
  k_steps
  · have e : sendNow cl held es n v = ⟨held, es, panicD sClosed, []⟩ := by simp [sendNow, *]
    refine ret _ _ _ _ (by assumption) (by assumption) ?_
    rw [e]
    refine ⟨wl, nw, vs, nh, ⟨by row_room_at mem9, by row_room_at mem9, by row_room_at mem9, by row_room_at mem9, hes.ent (by row_room_at sub9)⟩, ⟨by row_room_at mem9, by row_room_at mem9, by row_room_at mem9, hsc⟩, by row_room_at sub9, D, ⟨_, _, _, _, _, _, rfl, by row_room_at mem9, by row_room_at rin9, by row_room_at mem9, .nil⟩⟩
  · refine goOn ?_
    (try k_fold)
    refine' CallSpec.callU (first_waiting_spec (P := P) (pd := pd) (wl := wl) (k := k) (t := t) (ch := ch) (nw := nw) (vs := vs) (es := es) ?qp1 ?qp2 ?qp3 ?qp4) U2r ?qhh ?qhf ?qhdp ?qhu ?qB ?qF ?qX ?qN ?qhs ?qT ?qhk ?_
    row_room_at sides9
    case qp1 => row_room_at mem9
    case qp2 => row_room_at mem9
    case qp3 => row_room_at mem9
    case qp4 => exact hes.ent (by row_room_at sub9)
    intro r hr h' tk' F' N'
    cases hf : es.find? (entQ sTake n) with
    | none =>
      rw [hf] at hr
      subst hr
      have e : sendNow cl held es n v = ⟨held ++ [v], es, sentD, []⟩ := by simp [sendNow, hf, *]
      k_steps
      rename News _ _ _ _ => kN9
      (try simp only [List.push_toArray] at kN9)
      refine ret _ _ _ _ (by assumption) (by assumption) ?_
      rw [e]
      refine ⟨wl, nw, vs, _, ⟨by row_room_at mem9, by row_room_at mem9, by row_room_at mem9, by row_room_at mem9, hes.ent (by row_room_at sub9)⟩, ⟨by row_room_at mem9, by row_room_at mem9, by row_room_at mem9, sc_snoc hsc hv⟩, by row_room_at sub9, D, ⟨_, _, _, _, _, _, rfl, by row_room_at mem9, by row_room_at rin9, by row_room_at mem9, .nil⟩⟩
    | some e =>
      rw [hf] at hr
      obtain ⟨i, he, hvi⟩ := hr
      obtain ⟨a, n', tg, tk', tn', tc, rfl, hm⟩ := hes.at hvi he
      have e : sendNow cl held es n v = ⟨held, es.filter fun x => x.g != e.g, sentD, [⟨e.g, e.c, recvD v true⟩]⟩ := by simp [sendNow, hf, *]
      k_steps
      refine goOn ?_
      (try k_fold)
      refine' CallSpec.callU (let_go_spec (P := P) (pd := pd) (wl := wl) (k := k) (t := t) (ch := ch) (nw := nw) (vs := vs) (es := es) (rest := (ch, listOf chs.toArray nc) :: (C, instObj 31 cd) :: (cd, dictOf (cEs k' t' room tr hl cl) 3) :: (hl, listOf held.toArray nh) :: rest) (T := rest) ?qp1 hes hsz ?qp2) U_let_go ?qhh ?qhf ?qhdp ?qhu ?qB ?qF ?qX ?qN ?qhs ?qT ?qhk ?_
      row_room_at sides9
      case qp1 => row_room_at sub9
      case qp2 => row_room_at apart9
      intro wl' vs' nw' hes' D' hww h' tk' F' N'
      k_steps
      refine ret _ _ _ _ (by assumption) (by assumption) ?_
      rw [e]
      refine ⟨wl', nw', vs', nh, ⟨by row_room_at mem9, by row_room_at mem9, by row_room_at mem9, by row_room_at mem9, hes'.ent (by row_room_at sub9)⟩, ⟨by row_room_at mem9, by row_room_at mem9, by row_room_at mem9, hsc⟩, by row_room_at sub9, ?_, ⟨_, _, _, _, _, _, rfl, by row_room_at mem9, by row_room_at rin9, by row_room_at mem9, .cons ⟨_, _, _, _, _, rfl, by row_room_at mem9, by row_room_at rin9⟩ .nil⟩⟩
      exact D.back D'
end
section
theorem take_now_spec {w : World} {P pd wl ch C cd hl : Addr} {k k' : Nat → Int} {t t' : Nat → Tok} {nw nc nh : Nat} {vs : List Value} {es : List Ent} {rest : List Cell} {n : Int} {tn tr : Tok} {chs held : List Value} {room : Int} {cl : Bool}
    (h0 : 0 ≤ n) (hn : n < 1000) (hC : chs[n.toNat]? = some (.ref C)) (hes : All2 (EntIn rest) vs es) (hsz : es.length ≤ 100) (hsc : ∀ v ∈ held, Sc v) (hlen : held.length ≤ 100) (hse : ∀ e ∈ es, Sc e.v) (D : Apart [P, pd, wl, ch, C, cd, hl] rest) :
    CallSpec 480 3800 w 117 [.ref P, .int n tn] ((P, instObj 148 pd) :: (pd, dictOf (pEs k t ch wl) 2) :: (wl, listOf vs.toArray nw) :: (ch, listOf chs.toArray nc) :: (C, instObj 31 cd) :: (cd, dictOf (cEs k' t' room tr hl cl) 3) :: (hl, listOf held.toArray nh) :: rest)
      (fun r new => PlPost P pd wl ch C cd hl k t nc chs k' t' room tr cl rest (takeNow held es n) r new) := by
  unfold CallSpec
  intro gd cn cs a ccd cls outer A₀ base h₀ L m s p loose mean mg mb Q E B F X N T hk ret
  have hoff := D.off
  refine wpAny_call ?_
  k_dflt row_room_at enter9
  cases held with
  | nil =>
    k_steps
    refine goOn ?_
    (try k_fold)
    refine' CallSpec.callU (first_waiting_spec (P := P) (pd := pd) (wl := wl) (k := k) (t := t) (ch := ch) (nw := nw) (vs := vs) (es := es) ?qp1 ?qp2 ?qp3 ?qp4) U2r ?qhh ?qhf ?qhdp ?qhu ?qB ?qF ?qX ?qN ?qhs ?qT ?qhk ?_
    row_room_at sides9
    case qp1 => row_room_at mem9
    case qp2 => row_room_at mem9
    case qp3 => row_room_at mem9
    case qp4 => exact hes.ent (by row_room_at sub9)
    intro r hr h' tk' F' N'
    cases hf : es.find? (entQ sSend n) with
    | none =>
      rw [hf] at hr
      subst hr
      have eT : takeNow [] es n = ⟨[], es, recvD .none false, []⟩ := by simp [takeNow, hf]
      k_steps
      refine ret _ _ _ _ (by assumption) (by assumption) ?_
      rw [eT]
      refine ⟨wl, nw, vs, _, ⟨by row_room_at mem9, by row_room_at mem9, by row_room_at mem9, by row_room_at mem9, hes.ent (by row_room_at sub9)⟩, ⟨by row_room_at mem9, by row_room_at mem9, by row_room_at mem9, hsc⟩, by row_room_at sub9, D, ⟨_, _, _, _, _, _, rfl, by row_room_at mem9, by row_room_at rin9, by row_room_at mem9, .nil⟩⟩
    | some e =>
      rw [hf] at hr
      obtain ⟨i, he, hvi⟩ := hr
      obtain ⟨a, n', tg, tk', tn', tc, rfl, hm⟩ := hes.at hvi he
      have hsv : Sc e.v := hse e (List.mem_of_getElem? he)
      have eT : takeNow [] es n = ⟨[], es.filter fun x => x.g != e.g, recvD e.v true, [⟨e.g, e.c, sentD⟩]⟩ := by simp [takeNow, hf]
      k_steps
      rename News _ _ _ _ => kN9
      (try simp only [List.push_toArray, List.cons_append, List.nil_append] at kN9)
      refine goOn ?_
      (try k_fold)
      refine' CallSpec.callU (let_go_spec (P := P) (pd := pd) (wl := wl) (k := k) (t := t) (ch := ch) (nw := nw) (vs := vs) (es := es) (rest := (ch, listOf chs.toArray nc) :: (C, instObj 31 cd) :: (cd, dictOf (cEs k' t' room tr hl cl) 3) :: (hl, listOf (List.toArray ([e.v])) (nh + 1)) :: rest) (T := rest) ?qp1 hes hsz ?qp2) U_let_go ?qhh ?qhf ?qhdp ?qhu ?qB ?qF ?qX ?qN ?qhs ?qT ?qhk ?_
      row_room_at sides9
      case qp1 => row_room_at sub9
      case qp2 => row_room_at apart9
      intro wl' vs' nw' hes' D' hww h' tk' F' N'
      have D2 := D.back D'
      have hoff2 := D2.off
      k_steps
      refine ret _ _ _ _ (by assumption) (by assumption) ?_
      rw [eT]
      refine ⟨wl', nw', vs', _, ⟨by row_room_at mem9, by row_room_at mem9, by row_room_at mem9, by row_room_at mem9, hes'.ent (by row_room_at sub9)⟩, ⟨by row_room_at mem9, by row_room_at mem9, by row_room_at mem9, hsc⟩, by row_room_at sub9, D.back D', ⟨_, _, _, _, _, _, rfl, by row_room_at mem9, by row_room_at rin9, by row_room_at mem9, .cons ⟨_, _, _, _, _, rfl, by row_room_at mem9, by row_room_at rin9⟩ .nil⟩⟩
  | cons v0 t0 =>
    have hs0 : Sc v0 := hsc v0 (List.mem_cons_self ..)
    have hst : ∀ v ∈ t0, Sc v := fun v hv => hsc v (List.mem_cons_of_mem _ hv)
    have hlen' : t0.length < 100 := by rw [List.length_cons] at hlen; omega
    k_steps
    refine goOn ?_
    (try k_fold)
    refine' CallSpec.callU (first_waiting_spec (P := P) (pd := pd) (wl := wl) (k := k) (t := t) (ch := ch) (nw := nw) (vs := vs) (es := es) ?qp1 ?qp2 ?qp3 ?qp4) U2r ?qhh ?qhf ?qhdp ?qhu ?qB ?qF ?qX ?qN ?qhs ?qT ?qhk ?_
    row_room_at sides9
    case qp1 => row_room_at mem9
    case qp2 => row_room_at mem9
    case qp3 => row_room_at mem9
    case qp4 => exact hes.ent (by row_room_at sub9)
    intro r hr h' tk' F' N'
    cases hf : es.find? (entQ sSend n) with
    | none =>
      rw [hf] at hr
      subst hr
      have eT : takeNow (v0 :: t0) es n = ⟨t0, es, recvD v0 true, []⟩ := by simp [takeNow, hf]
      k_steps
      refine ret _ _ _ _ (by assumption) (by assumption) ?_
      rw [eT]
      refine ⟨wl, nw, vs, _, ⟨by row_room_at mem9, by row_room_at mem9, by row_room_at mem9, by row_room_at mem9, hes.ent (by row_room_at sub9)⟩, ⟨by row_room_at mem9, by row_room_at mem9, by row_room_at mem9, hst⟩, by row_room_at sub9, D, ⟨_, _, _, _, _, _, rfl, by row_room_at mem9, by row_room_at rin9, by row_room_at mem9, .nil⟩⟩
    | some e =>
      rw [hf] at hr
      obtain ⟨i, he, hvi⟩ := hr
      obtain ⟨a, n', tg, tk', tn', tc, rfl, hm⟩ := hes.at hvi he
      have hsv : Sc e.v := hse e (List.mem_of_getElem? he)
      have eT : takeNow (v0 :: t0) es n = ⟨t0 ++ [e.v], es.filter fun x => x.g != e.g, recvD v0 true, [⟨e.g, e.c, sentD⟩]⟩ := by simp [takeNow, hf]
      k_steps
      rename News _ _ _ _ => kN9
      (try simp only [List.push_toArray, List.cons_append, List.nil_append] at kN9)
      refine goOn ?_
      (try k_fold)
      refine' CallSpec.callU (let_go_spec (P := P) (pd := pd) (wl := wl) (k := k) (t := t) (ch := ch) (nw := nw) (vs := vs) (es := es) (rest := (ch, listOf chs.toArray nc) :: (C, instObj 31 cd) :: (cd, dictOf (cEs k' t' room tr hl cl) 3) :: (hl, listOf (List.toArray (v0 :: (t0 ++ [e.v]))) (nh + 1)) :: rest) (T := rest) ?qp1 hes hsz ?qp2) U_let_go ?qhh ?qhf ?qhdp ?qhu ?qB ?qF ?qX ?qN ?qhs ?qT ?qhk ?_
      row_room_at sides9
      case qp1 => row_room_at sub9
      case qp2 => row_room_at apart9
      intro wl' vs' nw' hes' D' hww h' tk' F' N'
      have D2 := D.back D'
      have hoff2 := D2.off
      k_steps
      refine ret _ _ _ _ (by assumption) (by assumption) ?_
      rw [eT]
      refine ⟨wl', nw', vs', _, ⟨by row_room_at mem9, by row_room_at mem9, by row_room_at mem9, by row_room_at mem9, hes'.ent (by row_room_at sub9)⟩, ⟨by row_room_at mem9, by row_room_at mem9, by row_room_at mem9, sc_snoc hst hsv⟩, by row_room_at sub9, D.back D', ⟨_, _, _, _, _, _, rfl, by row_room_at mem9, by row_room_at rin9, by row_room_at mem9, .cons ⟨_, _, _, _, _, rfl, by row_room_at mem9, by row_room_at rin9⟩ .nil⟩⟩
end
section
theorem do_now_spec {w : World} {P pd wl ch C cd hl : Addr} {k k' : Nat → Int} {t t' : Nat → Tok} {nw nc nh : Nat} {vs : List Value} {es : List Ent} {rest : List Cell} {n : Int} {tn tr : Tok} {chs held : List Value} {room : Int} {cl : Bool} {v : Value} {kd : Str} {tk : Tok}
    (h0 : 0 ≤ n) (hn : n < 1000) (hC : chs[n.toNat]? = some (.ref C)) (hes : All2 (EntIn rest) vs es) (hsz : es.length ≤ 100) (hsc : ∀ v ∈ held, Sc v) (hlen : held.length ≤ 100) (hv : Sc v) (hse : ∀ e ∈ es, Sc e.v) (D : Apart [P, pd, wl, ch, C, cd, hl] rest) :
    CallSpec 470 3700 w 124 [.ref P, .str kd tk, .int n tn, v] ((P, instObj 148 pd) :: (pd, dictOf (pEs k t ch wl) 2) :: (wl, listOf vs.toArray nw) :: (ch, listOf chs.toArray nc) :: (C, instObj 31 cd) :: (cd, dictOf (cEs k' t' room tr hl cl) 3) :: (hl, listOf held.toArray nh) :: rest)
      (fun r new => PlPost P pd wl ch C cd hl k t nc chs k' t' room tr cl rest (doNow kd cl held es n v) r new) := by
  unfold CallSpec
  intro gd cn cs a ccd cls outer A₀ base h₀ L m s p loose mean mg mb Q E B F X N T hk ret
  have hoff := D.off
  refine wpAny_call ?_
  k_dflt row_room_at enter9
  k_steps
  · refine goOn ?_
    (try k_fold)
    refine' CallSpec.call (send_now_spec (k := k) (t := t) (k' := k') (t' := t') (nw := nw) (nc := nc) (nh := nh) (tr := tr) (room := room) (cl := cl) (rest := rest) h0 hn hC hes hsz hsc hlen hv hse D) ?qhh ?qhf ?qhdp ?qhu ?qB ?qF ?qX ?qN ?qhs ?qT ?qhk ?_
    row_room_at sides9
    intro r new h' tk' F' N' hr
    k_steps
    refine ret _ _ _ _ (by assumption) (by assumption) ?_
    rename (kd == _) = true => hq
    rw [doNow, if_pos (eq_of_beq hq)]
    exact hr
  · refine goOn ?_
    (try k_fold)
    refine' CallSpec.call (take_now_spec (k := k) (t := t) (k' := k') (t' := t') (nw := nw) (nc := nc) (nh := nh) (tr := tr) (room := room) (cl := cl) (rest := rest) h0 hn hC hes hsz hsc hlen hse D) ?qhh ?qhf ?qhdp ?qhu ?qB ?qF ?qX ?qN ?qhs ?qT ?qhk ?_
    row_room_at sides9
    intro r new h' tk' F' N' hr
    k_steps
    refine ret _ _ _ _ (by assumption) (by assumption) ?_
    rename (kd == _) = false => hq
    rw [doNow, if_neg (ne_of_beq_false hq)]
    exact hr
end
section
/-- between the turns of ended -/
inductive EndJ_ex (P : Addr) (pd : Addr) (ch : Addr) (k : Nat → Int) (t : Nat → Tok) (rest : List Cell) (T : List Cell) (Tt : List Cell) (kd : Str) (n : Int) (told : PyData) (es : List Ent) (lf : Addr) (m₀ : Str → Option Value) (N : Nat) (m₁ : Str → Option Value) (led₁ : List Cell) : Prop where
  | mk (dv : _) (wl : _) (vs : _) (nw : _) (cur : _) (rows : _) (rvs : _) (c : _) (rc : _) (h1 : N = cur.length) (h2 : m₁ = (fun y => if y = Str.ofString "found" then some (.ref lf) else if y = Str.ofString "deed" then some dv else m₀ y)) (h3 : led₁ = (lf, listOf (List.toArray rvs) c) :: (P, instObj 148 pd) :: (pd, dictOf (pEs k t ch wl) 2) :: (wl, listOf (List.toArray vs) nw) :: (rc ++ rest)) (h4 : Apart [lf, P, pd, wl] (rc ++ rest)) (h5 : OwnOff rc (rest.map (·.1))) (h6 : All2 (EntIn T) vs cur) (h7 : All2 (RowIn (rc ++ Tt)) rvs rows) (h8 : rvs.length + cur.length ≤ 100) (h9 : (match cur.find? (entQ kd n) with | none => dv = .none | some e => ∃ i : Nat, cur[i]? = some e ∧ vs[i]? = some dv)) (h10 : ∀ rows₂ es₂, Ended kd n told cur rows₂ es₂ → Ended kd n told es (rows ++ rows₂) es₂) : EndJ_ex P pd ch k t rest T Tt kd n told es lf m₀ N m₁ led₁
structure EndJ (P pd ch : Addr) (k : Nat → Int) (t : Nat → Tok) (rest T Tt : List Cell) (kd : Str) (n : Int) (told : PyData) (es : List Ent) (lf : Addr) (m₀ : Str → Option Value) (N : Nat) (m₁ : Str → Option Value) (led₁ : List Cell) : Prop where
  ex : EndJ_ex P pd ch k t rest T Tt kd n told es lf m₀ N m₁ led₁
inductive EndedPost_ex (P : Addr) (pd : Addr) (ch : Addr) (k : Nat → Int) (t : Nat → Tok) (rest : List Cell) (T : List Cell) (Tt : List Cell) (kd : Str) (n : Int) (told : PyData) (es : List Ent) (r : Value) (new : List Cell) : Prop where
  | mk (lf : _) (wl : _) (vs : _) (nw : _) (rows : _) (es' : _) (rvs : _) (c : _) (rc : _) (h1 : r = .ref lf) (h2 : new = (lf, listOf (List.toArray rvs) c) :: (P, instObj 148 pd) :: (pd, dictOf (pEs k t ch wl) 2) :: (wl, listOf (List.toArray vs) nw) :: (rc ++ rest)) (h3 : Apart [lf, P, pd, wl] (rc ++ rest)) (h4 : OwnOff rc (rest.map (·.1))) (h5 : All2 (EntIn T) vs es') (h6 : All2 (RowIn (rc ++ Tt)) rvs rows) (h7 : rvs.length ≤ 100) (h8 : Ended kd n told es rows es') : EndedPost_ex P pd ch k t rest T Tt kd n told es r new
noncomputable def T_ended (P : Addr) (pd : Addr) (ch : Addr) (k : Nat → Int) (t : Nat → Tok) (rest : List Cell) (T : List Cell) (Tt : List Cell) (kd : Str) (n : Int) (told : PyData) (es : List Ent) (C : Value → List Cell → Prop) : Prop := ∀ lf, ∀ wl, ∀ vs, ∀ nw, ∀ rows, ∀ es', ∀ rvs, ∀ c, ∀ rc, (Apart [lf, P, pd, wl] (rc ++ rest)) → (OwnOff rc (rest.map (·.1))) → (All2 (EntIn T) vs es') → (All2 (RowIn (rc ++ Tt)) rvs rows) → (rvs.length ≤ 100) → (Ended kd n told es rows es') → C (.ref lf) ((lf, listOf (List.toArray rvs) c) :: (P, instObj 148 pd) :: (pd, dictOf (pEs k t ch wl) 2) :: (wl, listOf (List.toArray vs) nw) :: (rc ++ rest))
structure EndedPost (P pd ch : Addr) (k : Nat → Int) (t : Nat → Tok) (rest T Tt : List Cell) (kd : Str) (n : Int) (told : PyData) (es : List Ent) (r : Value) (new : List Cell) : Prop where
  ex : EndedPost_ex P pd ch k t rest T Tt kd n told es r new
theorem U_ended {P : Addr} {pd : Addr} {ch : Addr} {k : Nat → Int} {t : Nat → Tok} {rest : List Cell} {T : List Cell} {Tt : List Cell} {kd : Str} {n : Int} {told : PyData} {es : List Ent} : ∀ C, T_ended P pd ch k t rest T Tt kd n told es C → ∀ r new, EndedPost P pd ch k t rest T Tt kd n told es r new → C r new := fun C k9 r new h9 => by
  obtain ⟨lf, wl, vs, nw, rows, es', rvs, c, rc, rfl, rfl, h3, h4, h5, h6, h7, h8⟩ := h9.ex
  exact k9 lf wl vs nw rows es' rvs c rc h3 h4 h5 h6 h7 h8
theorem shadow2 {a b : Str} {v u u' : Value} {m : Str → Option Value} (h : b ≠ a) : (fun y => if y = b then some u' else if y = a then some v else if y = b then some u else m y) = fun y => if y = a then some v else if y = b then some u' else m y := by
  funext y
  by_cases h1 : y = a
  · rw [if_neg (fun e => h (e.symm.trans h1)), if_pos h1, if_pos h1]
  · by_cases h2 : y = b
    · rw [if_pos h2, if_neg h1, if_pos h2]
    · rw [if_neg h2, if_neg h1, if_neg h2, if_neg h1, if_neg h2]
theorem filter_lt {es : List Ent} {q : Ent → Bool} {e : Ent} (h : es.find? q = some e) : (es.filter fun x => x.g != e.g).length < es.length := by
  have hm := List.mem_of_find?_eq_some h
  exact List.length_filter_lt_length_iff_exists.mpr ⟨e, hm, by simp⟩
theorem rowIn_mono {T T' : List Cell} (h : ∀ p ∈ T, p ∈ T') {rvs : List Value} {rows : List Row} (a : All2 (RowIn T) rvs rows) : All2 (RowIn T') rvs rows := a.mono fun _ _ r => r.mono h
theorem ended_spec {w : World} {P pd wl ch : Addr} {k : Nat → Int} {t : Nat → Tok} {nw : Nat} {vs : List Value} {es : List Ent} {rest T Tt : List Cell} {n : Int} {tn : Tok} {kd : Str} {tk : Tok} {tv : Value} {told : PyData}
    (hT : ∀ p ∈ T, p ∈ rest) (hes : All2 (EntIn T) vs es) (hsz : es.length ≤ 100) (htv : RIn Tt tv told) (D : Apart [P, pd, wl] rest) :
    CallSpec 470 3700 w 138 [.ref P, .str kd tk, .int n tn, tv] ((P, instObj 148 pd) :: (pd, dictOf (pEs k t ch wl) 2) :: (wl, listOf vs.toArray nw) :: rest)
      (EndedPost P pd ch k t rest T Tt kd n told es) := by
  unfold CallSpec
  intro gd cn cs a ccd cls outer A₀ base h₀ L m s p loose mean mg mb Q E B F X N Tp hk ret
  have hoff := D.off
  refine wpAny_call ?_
  k_dflt row_room_at enter9
  k_steps
  rename_i lf _ _ _ _ _ _
  refine goOn ?_
  (try k_fold)
  refine' CallSpec.callU (first_waiting_spec (P := P) (pd := pd) (wl := wl) (k := k) (t := t) (ch := ch) (nw := nw) (vs := vs) (es := es) ?qp1 ?qp2 ?qp3 ?qp4) U2r ?qhh ?qhf ?qhdp ?qhu ?qB ?qF ?qX ?qN ?qhs ?qT ?qhk ?_
  row_room_at sides9
  case qp1 => row_room_at mem9
  case qp2 => row_room_at mem9
  case qp3 => row_room_at mem9
  case qp4 => exact hes.mono fun _ _ h => (h.mono hT).mono (by row_room_at sub9)
  intro r hr h' tk' F' N'
  k_steps
  refine goOn ?_
  (rename Fr _ _ _ _ => F9)
  (rename News _ _ _ _ => N9)
  (rename (_ ∧ _) => l9)
  replace N9 := News.sub (l' := (_, listOf (List.toArray []) 0) :: (P, instObj 148 pd) :: (pd, dictOf (pEs k t ch wl) 2) :: (wl, listOf vs.toArray nw) :: ([] ++ rest)) N9 (by row_room_at sub9)
  refine While_two (EndJ P pd ch k t rest T Tt kd n told es) (n₀ := es.length) F9 N9 ?qhJ ?qturn
  case qhJ =>
    refine ⟨r, wl, vs, nw, es, [], [], 0, [], rfl, rfl, rfl, ?_, offNil, hes, .nil, by simpa using hsz, hr, fun _ _ h => h⟩
    show Apart _ rest
    row_room_at apart9
  case qturn =>
    intro N₁ m₁ led₁ h₁ tk₁ F₁ N₁' hp9
    obtain ⟨dv, wl₁, vs₁, nw₁, cur, rows, rvs, c, rc, rfl, rfl, rfl, D₁, o₁, hcur, hrows, hl₁, hdv, hEnd⟩ := hp9
    have hoff₁ := D₁.off
    cases hf : cur.find? (entQ kd n) with
    | none =>
      rw [hf] at hdv
      subst hdv
      k_steps
      refine ret _ _ _ _ (by assumption) (by assumption) ?_
      refine ⟨_, wl₁, vs₁, nw₁, rows, cur, rvs, c, rc, rfl, rfl, D₁, o₁, hcur, hrows, by omega, ?_⟩
      have := hEnd [] cur (.done hf)
      rwa [List.append_nil] at this
    | some e =>
      rw [hf] at hdv
      obtain ⟨i, he, hvi⟩ := hdv
      obtain ⟨ea, en, etg, etk, etn, etc, rfl, hem⟩ := hcur.at hvi he
      replace hem := hT _ hem
      k_steps
      rename_i D9 _ _ l9 _ _ _ F8 _ N8
      (try simp only [List.push_toArray, List.cons_append, List.nil_append] at N8)
      have l8 : AllLt D9 ((lf, listOf (List.toArray rvs) c) :: (P, instObj 148 pd) :: (pd, dictOf (pEs k t ch wl₁) 2) :: (wl₁, listOf (List.toArray vs₁) nw₁) :: (rc ++ rest)) := l9
      have hlc := filter_lt hf
      have hcl : cur.length ≤ 100 := by omega
      refine goOn ?_
      (try k_fold)
      refine' CallSpec.callU (let_go_spec (P := P) (pd := pd) (wl := wl₁) (k := k) (t := t) (ch := ch) (nw := nw₁) (vs := vs₁) (es := cur) (rest := (lf, listOf (List.toArray (rvs ++ [.ref D9])) (c + 1)) :: (D9, tupO [.int e.g etg, .int e.c etc, tv] 0) :: (rc ++ rest)) (T := T) ?qp1 hcur hcl ?qp2) U_let_go ?qhh ?qhf ?qhdp ?qhu ?qB ?qF ?qX ?qN ?qhs ?qT ?qhk ?_
      row_room_at sides9
      case qp1 => exact fun p hp => memTail (memTail (memR (hT p hp)))
      case qp2 => row_room_at apart9
      intro wl₂ vs₂ nw₂ hes₂ D₂ hww h' tk' F' N'
      have hoff₂ := D₂.off
      k_steps
      refine goOn ?_
      (try k_fold)
      refine' CallSpec.callU (first_waiting_spec (P := P) (pd := pd) (wl := wl₂) (k := k) (t := t) (ch := ch) (nw := nw₂) (vs := vs₂) (es := cur.filter fun x => x.g != e.g) ?qp1 ?qp2 ?qp3 ?qp4) U2r ?qhh ?qhf ?qhdp ?qhu ?qB ?qF ?qX ?qN ?qhs ?qT ?qhk ?_
      row_room_at sides9
      case qp1 => row_room_at mem9
      case qp2 => row_room_at mem9
      case qp3 => row_room_at mem9
      case qp4 => exact hes₂.mono fun _ _ h => (h.mono hT).mono (by row_room_at sub9)
      intro r hr h' tk' F' N'
      k_steps
      refine WhileStep.intro (by assumption) (News.sub (l' := (lf, listOf (List.toArray (rvs ++ [.ref D9])) (c + 1)) :: (P, instObj 148 pd) :: (pd, dictOf (pEs k t ch wl₂) 2) :: (wl₂, listOf (List.toArray vs₂) nw₂) :: (((D9, tupO [.int e.g etg, .int e.c etc, tv] 0) :: rc) ++ rest)) (by assumption) (by row_room_at sub9)) hlc ?_
      have q7 : ∀ p ∈ rc ++ rest, p.1 ≠ wl₂ := fun p hp => hoff₂ p (memTail (memTail hp)) wl₂ (memTail (memTail memHead))
      have q6 : @Ne Nat lf wl₂ := hoff₂ (lf, _) memHead wl₂ (memTail (memTail memHead))
      have q5 : @Ne Nat D9 wl₂ := hoff₂ (D9, _) (memTail memHead) wl₂ (memTail (memTail memHead))
      have q4 : @Ne Nat P wl₂ := D₂.of (.head (memTail memHead))
      have q3 : @Ne Nat pd wl₂ := D₂.of (.tail (.head memHead))
      refine ⟨r, wl₂, vs₂, nw₂, _, rows ++ [⟨e.g, e.c, told⟩], rvs ++ [.ref D9], c + 1, (D9, tupO [.int e.g etg, .int e.c etc, tv] 0) :: rc, rfl, shadow2 (by decide +kernel), rfl, ?_, ?_, hes₂, ?_, ?_, hr, ?_⟩
      · show Apart _ ((D9, _) :: (rc ++ rest))
        clear D₂ hoff₂
        row_room_at apart9
      · refine offCons (fun b hb => ?_) o₁
        obtain ⟨q, hq, rfl⟩ := List.mem_map.mp hb
        exact Ne.symm (ne_of_lt_all l8 q (memTail (memTail (memTail (memTail (memR hq))))))
      · refine All2.append (rowIn_mono (fun p hp => memTail hp) hrows) (.cons ⟨D9, 0, etg, etc, tv, rfl, memHead, htv.mono fun p hp => memTail (memR hp)⟩ .nil)
      · rw [List.length_append, List.length_singleton]; omega
      · intro rows₂ es₂ h
        rw [List.append_assoc]
        exact hEnd _ _ (.step hf h)
end
section
theorem Ended.length {kd : Str} {n : Int} {told : PyData} {es es' : List Ent} {rows : List Row} (h : Ended kd n told es rows es') : es'.length ≤ es.length := by
  induction h with
  | done _ => exact Nat.le_refl _
  | step h _ ih => exact Nat.le_trans ih (Nat.le_of_lt (filter_lt h))
theorem close_now_spec {w : World} {P pd wl ch C cd hl : Addr} {k k' : Nat → Int} {t t' : Nat → Tok} {nw nc nh : Nat} {vs : List Value} {es : List Ent} {rest : List Cell} {n : Int} {tn tr : Tok} {chs held : List Value} {room : Int} {cl : Bool}
    (h0 : 0 ≤ n) (hn : n < 1000) (hC : chs[n.toNat]? = some (.ref C)) (hes : All2 (EntIn rest) vs es) (hsz : es.length ≤ 100) (hsc : ∀ v ∈ held, Sc v) (D : Apart [P, pd, wl, ch, C, cd, hl] rest) :
    CallSpec 460 3600 w 131 [.ref P, .int n tn] ((P, instObj 148 pd) :: (pd, dictOf (pEs k t ch wl) 2) :: (wl, listOf vs.toArray nw) :: (ch, listOf chs.toArray nc) :: (C, instObj 31 cd) :: (cd, dictOf (cEs k' t' room tr hl cl) 3) :: (hl, listOf held.toArray nh) :: rest)
      (ClosePost P pd wl ch C cd hl k t nc chs k' t' room tr cl held es n rest) := by
  unfold CallSpec
  intro gd cn cs a ccd cls outer A₀ base h₀ L m s p loose mean mg mb Q E B F X N T hk ret
  have hoff := D.off
  refine wpAny_call ?_
  k_dflt row_room_at enter9
  cases cl with
  | true =>
    k_steps
    refine ret _ _ _ _ (by assumption) (by assumption) ⟨?_⟩
    rw [if_pos rfl]
    refine ⟨wl, nw, vs, nh, ⟨by row_room_at mem9, by row_room_at mem9, by row_room_at mem9, by row_room_at mem9, hes.mono fun _ _ h => h.mono (by row_room_at sub9)⟩, ⟨by row_room_at mem9, by row_room_at mem9, by row_room_at mem9, hsc⟩, by row_room_at sub9, D, ⟨_, _, _, _, _, _, rfl, by row_room_at mem9, by row_room_at rin9, by row_room_at mem9, .nil⟩⟩
  | false =>
    k_steps
    rename_i D1 _ _ l1 _ D2 _ _ l2 _ _ N8
    obtain ⟨t9, t8, N9⟩ : ∃ t9 t8, News _ _ _ ((D2, tupO [.str (Str.ofString "received") t9, .none, .bool false] 0) :: (D1, tupO [.str (Str.ofString "done") t8] 0) :: (P, instObj 148 pd) :: (pd, dictOf (pEs k t ch wl) 2) :: (wl, listOf vs.toArray nw) :: (ch, listOf chs.toArray nc) :: (C, instObj 31 cd) :: (cd, dictOf (cEs k' t' room tr hl true) 3) :: (hl, listOf held.toArray nh) :: rest) := ⟨_, _, News.sub N8 (by row_room_at sub9)⟩
    clear N8
    refine goOn ?_
    (try k_fold)
    refine' CallSpec.callU (ended_spec (P := P) (pd := pd) (wl := wl) (k := k) (t := t) (ch := ch) (nw := nw) (vs := vs) (es := es) (rest := (D2, tupO [.str (Str.ofString "received") t9, .none, .bool false] 0) :: (D1, tupO [.str (Str.ofString "done") t8] 0) :: (ch, listOf chs.toArray nc) :: (C, instObj 31 cd) :: (cd, dictOf (cEs k' t' room tr hl true) 3) :: (hl, listOf held.toArray nh) :: rest) (T := rest) (Tt := [(D2, tupO [.str (Str.ofString "received") t9, .none, .bool false] 0)]) (told := goneD) ?qp1 hes hsz ?qp3 ?qp2) U_ended ?qhh ?qhf ?qhdp ?qhu ?qB ?qF ?qX ?qN ?qhs ?qT ?qhk ?_
    row_room_at sides9
    case qp1 => row_room_at sub9
    case qp3 => row_room_at rin9
    case qp2 => row_room_at apart9
    intro lf1 wl1 vs1 nw1 rows1 es1 rvs1 c1 rc1 DA oA hes1 hr1 hl1 hE1 h' tk' F' N'
    have hoffA := DA.off
    have DA1 : Apart ([lf1, P, pd, wl1] ++ List.map (·.1) ((D2, tupO [.str (Str.ofString "received") t9, .none, .bool false] 0) :: (D1, tupO [.str (Str.ofString "done") t8] 0) :: (ch, listOf chs.toArray nc) :: (C, instObj 31 cd) :: (cd, dictOf (cEs k' t' room tr hl true) 3) :: [(hl, listOf held.toArray nh)])) (rc1 ++ rest) := by
      refine DA.join (by row_room_at sub9) ?_ (by row_room_at sub9)
      show Apart [D2, D1, ch, C, cd, hl] _
      clear DA hoffA
      row_room_at apart9
    replace N' := News.sub (l' := (lf1, listOf (List.toArray rvs1) c1) :: (P, instObj 148 pd) :: (pd, dictOf (pEs k t ch wl1) 2) :: (wl1, listOf (List.toArray vs1) nw1) :: (D2, tupO [.str (Str.ofString "received") t9, .none, .bool false] 0) :: (D1, tupO [.str (Str.ofString "done") t8] 0) :: (ch, listOf chs.toArray nc) :: (C, instObj 31 cd) :: (cd, dictOf (cEs k' t' room tr hl true) 3) :: (hl, listOf held.toArray nh) :: (rc1 ++ rest)) N' (by row_room_at sub9)
    change Apart [lf1, P, pd, wl1, D2, D1, ch, C, cd, hl] _ at DA1
    have hs9 : ∀ p ∈ rest, p ∈ rc1 ++ rest := fun p hp => memR hp
    have hc9 : ∀ p ∈ rc1, p ∈ rc1 ++ rest := fun p hp => memL hp
    have oA1 : OwnOff rc1 (rest.map (·.1)) := offAs oA (fun p hp => memTail (memTail (memTail (memTail (memTail (memTail hp))))))
    clear DA hoffA oA N9
    have hoffA := DA1.off
    generalize rc1 ++ rest = rest9 at N' DA1 hs9 hc9 hoffA
    k_steps
    rename_i D3 _ _ l3 _ _ N8
    obtain ⟨t7, t6, N9⟩ : ∃ t7 t6, News _ _ _ ((D3, tupO [.str (Str.ofString "panic") t7, .str sClosed t6] 0) :: (lf1, listOf (List.toArray rvs1) c1) :: (P, instObj 148 pd) :: (pd, dictOf (pEs k t ch wl1) 2) :: (wl1, listOf (List.toArray vs1) nw1) :: (D2, tupO [.str (Str.ofString "received") t9, .none, .bool false] 0) :: (D1, tupO [.str (Str.ofString "done") t8] 0) :: (ch, listOf chs.toArray nc) :: (C, instObj 31 cd) :: (cd, dictOf (cEs k' t' room tr hl true) 3) :: (hl, listOf held.toArray nh) :: rest9) := ⟨_, _, News.sub N8 (by row_room_at sub9)⟩
    clear N8
    have hz1 : es1.length ≤ 100 := by have := hE1.length; omega
    refine goOn ?_
    (try k_fold)
    refine' CallSpec.callU (ended_spec (P := P) (pd := pd) (wl := wl1) (k := k) (t := t) (ch := ch) (nw := nw1) (vs := vs1) (es := es1) (rest := (D3, tupO [.str (Str.ofString "panic") t7, .str sClosed t6] 0) :: (lf1, listOf (List.toArray rvs1) c1) :: (D2, tupO [.str (Str.ofString "received") t9, .none, .bool false] 0) :: (D1, tupO [.str (Str.ofString "done") t8] 0) :: (ch, listOf chs.toArray nc) :: (C, instObj 31 cd) :: (cd, dictOf (cEs k' t' room tr hl true) 3) :: (hl, listOf held.toArray nh) :: rest9) (T := rest) (Tt := [(D3, tupO [.str (Str.ofString "panic") t7, .str sClosed t6] 0)]) (told := panicD sClosed) ?qp1 hes1 hz1 ?qp3 ?qp2) U_ended ?qhh ?qhf ?qhdp ?qhu ?qB ?qF ?qX ?qN ?qhs ?qT ?qhk ?_
    row_room_at sides9
    case qp1 => exact fun p hp => memTail (memTail (memTail (memTail (memTail (memTail (memTail (memTail (hs9 p hp))))))))
    case qp3 => row_room_at rin9
    case qp2 => row_room_at apart9
    intro lf2 wl2 vs2 nw2 rows2 es2 rvs2 c2 rc2 DB oB hes2 hr2 hl2 hE2 h' tk' F' N'
    have hoffB := DB.off
    have DB1 : Apart ([lf2, P, pd, wl2] ++ List.map (·.1) ((D3, tupO [.str (Str.ofString "panic") t7, .str sClosed t6] 0) :: (lf1, listOf (List.toArray rvs1) c1) :: (D2, tupO [.str (Str.ofString "received") t9, .none, .bool false] 0) :: (D1, tupO [.str (Str.ofString "done") t8] 0) :: (ch, listOf chs.toArray nc) :: (C, instObj 31 cd) :: (cd, dictOf (cEs k' t' room tr hl true) 3) :: [(hl, listOf held.toArray nh)])) (rc2 ++ rest9) := by
      refine DB.join (by row_room_at sub9) ?_ (by row_room_at sub9)
      show Apart [D3, lf1, D2, D1, ch, C, cd, hl] _
      clear DB hoffB
      row_room_at apart9
    replace N' := News.sub (l' := (lf2, listOf (List.toArray rvs2) c2) :: (P, instObj 148 pd) :: (pd, dictOf (pEs k t ch wl2) 2) :: (wl2, listOf (List.toArray vs2) nw2) :: (D3, tupO [.str (Str.ofString "panic") t7, .str sClosed t6] 0) :: (lf1, listOf (List.toArray rvs1) c1) :: (D2, tupO [.str (Str.ofString "received") t9, .none, .bool false] 0) :: (D1, tupO [.str (Str.ofString "done") t8] 0) :: (ch, listOf chs.toArray nc) :: (C, instObj 31 cd) :: (cd, dictOf (cEs k' t' room tr hl true) 3) :: (hl, listOf held.toArray nh) :: (rc2 ++ rest9)) N' (by row_room_at sub9)
    change Apart [lf2, P, pd, wl2, D3, lf1, D2, D1, ch, C, cd, hl] _ at DB1
    have hs8 : ∀ p ∈ rest9, p ∈ rc2 ++ rest9 := fun p hp => memR hp
    have hc8 : ∀ p ∈ rc2, p ∈ rc2 ++ rest9 := fun p hp => memL hp
    have oB1 : OwnOff rc2 (rest.map (·.1)) := offAs oB (fun b hb => by
      obtain ⟨q, hq, rfl⟩ := List.mem_map.mp hb
      exact List.mem_map.mpr ⟨q, memTail (memTail (memTail (memTail (memTail (memTail (memTail (memTail (hs9 q hq)))))))), rfl⟩)
    clear DB hoffB oB N9 DA1 hoffA
    have hoffB := DB1.off
    generalize rc2 ++ rest9 = rest8 at N' DB1 hs8 hc8 hoffB
    have hs7 : ∀ p ∈ rest, p ∈ rest8 := fun p hp => hs8 p (hs9 p hp)
    k_steps
    rename_i D4 _ _ l4 _ D5 _ _ l5 _ _ _ _ _ _ _ _
    refine ret _ _ _ _ (by assumption) (by assumption) ⟨?_⟩
    rw [if_neg (by decide)]
    have hsl : [P, pd, wl2, ch, C, cd, hl].Sublist [lf2, P, pd, wl2, D3, lf1, D2, D1, ch, C, cd, hl] := by row_room_at sl9
    refine ⟨rows1, es1, rows2, es2, hE1, hE2, wl2, nw2, vs2, nh, ⟨by row_room_at mem9, by row_room_at mem9, by row_room_at mem9, by row_room_at mem9, hes2.mono fun _ _ h => h.mono (subTrans hs7 (by row_room_at sub9))⟩, ⟨by row_room_at mem9, by row_room_at mem9, by row_room_at mem9, hsc⟩, subTrans hs7 (by row_room_at sub9), DB1.sub hsl hs7,
      ⟨D5, _, _, D4, _, _, rfl, by row_room_at mem9, by row_room_at rin9, by row_room_at mem9, All2.append (rowIn_mono (fun p hp => ?_) hr1) (rowIn_mono (fun p hp => ?_) hr2)⟩⟩
    · rcases List.mem_append.mp hp with hp | hp
      · refine mem_new (subTrans (fun p hp => hs8 p (hc9 p hp)) (by row_room_at sub9) p hp) (fun b hb => hoffB p (hs8 p (hc9 p hp)) b (hsl.subset hb)) (fun q hq e => oA1 p hp q.1 (List.mem_map.mpr ⟨q, hq, rfl⟩) e.symm)
      · obtain rfl := List.mem_singleton.mp hp
        row_room_at mem9
    · rcases List.mem_append.mp hp with hp | hp
      · refine mem_new (subTrans hc8 (by row_room_at sub9) p hp) (fun b hb => hoffB p (hc8 p hp) b (hsl.subset hb)) (fun q hq e => oB1 p hp q.1 (List.mem_map.mpr ⟨q, hq, rfl⟩) e.symm)
      · obtain rfl := List.mem_singleton.mp hp
        have hD3 : ∀ q ∈ rest, q.1 ≠ D3 := fun q hq => ne_of_lt_all (d := D3) (l := rest9) (by row_room_at lt9) q (hs9 q hq)
        row_room_at mem9
theorem close_now_none {w : World} {P : Addr} {news : List Cell} : CallSpec 460 3600 w 131 [.ref P, .none] news (fun r new => (∀ p ∈ news, p ∈ new) ∧ ResIn (offOf ([] ++ news.map (·.1)) new) r (panicD sNil) []) := by
  unfold CallSpec
  intro gd cn cs a ccd cls outer A₀ base h₀ L m s p loose mean mg mb Q E B F X N T hk ret
  refine wpAny_call ?_
  k_dflt row_room_at enter9
  k_steps
  refine ret _ _ _ _ (by assumption) (by assumption) ⟨by row_room_at sub9, ⟨_, _, _, _, _, _, rfl, by row_room_at mem9, by row_room_at rin9, by row_room_at mem9, .nil⟩⟩
end
section
/-- a deed that is asked for -/
structure Deed where
  k : Str
  n : Option Int
  v : Value
inductive DeedIn (T : List Cell) (v : Value) (d : Deed) : Prop where
  | mk (a : _) (c : _) (tk : _) (tn : _) (h1 : v = .ref a) (h2 : (a, tupO [.str d.k tk, optV d.n tn, d.v] c) ∈ T) : DeedIn T v d
theorem DeedIn.mono {T T' : List Cell} {v : Value} {d : Deed} (h : DeedIn T v d) (hs : ∀ p ∈ T, p ∈ T') : DeedIn T' v d := by
  obtain ⟨a, c, tk, tn, rfl, hm⟩ := h
  exact ⟨a, c, tk, tn, rfl, hs _ hm⟩
noncomputable def waitEnts (g : Int) (s : Option Int) : Nat → List Deed → List Ent
  | _, [] => []
  | c, d :: ds => match d.n with
    | none => waitEnts g s (c + 1) ds
    | some n => ⟨g, d.k, n, d.v, (c : Int), s⟩ :: waitEnts g s (c + 1) ds
theorem waitEnts_snoc {g : Int} {s : Option Int} {d : Deed} : ∀ (ds : List Deed) (c : Nat), waitEnts g s c (ds ++ [d]) = waitEnts g s c ds ++ (match d.n with | none => [] | some n => [⟨g, d.k, n, d.v, ((c + ds.length : Nat) : Int), s⟩])
  | [], c => by
    simp only [List.nil_append, waitEnts, List.length_nil, Nat.add_zero]
  | e :: ds, c => by
    simp only [List.cons_append, waitEnts]
    have ih := waitEnts_snoc (g := g) (s := s) (d := d) ds (c + 1)
    have hl : c + 1 + ds.length = c + (e :: ds).length := by rw [List.length_cons]; omega
    rw [hl] at ih
    cases e.n with
    | none => exact ih
    | some n => simp only [List.cons_append]; rw [ih]
theorem take_snoc {α : Type} {l : List α} {i : Nat} {e : α} (he : l[i]? = some e) : l.take (i + 1) = l.take i ++ [e] := by rw [List.take_add_one, he]; rfl
theorem take_len {α : Type} {l : List α} {i : Nat} {e : α} (he : l[i]? = some e) : (l.take i).length = i := by
  have := (List.getElem?_eq_some_iff.mp he).1
  rw [List.length_take]; omega
end
section
inductive WaitJ_ex (P : Addr) (pd : Addr) (ch : Addr) (wl : Addr) (k : Nat → Int) (t : Nat → Tok) (rest : List Cell) (T : List Cell) (vs : List Value) (es : List Ent) (g : Int) (gh : Option Int) (ds : List Deed) (i : Nat) (led₁ : List Cell) : Prop where
  | mk (nw : _) (vs' : _) (rc : _) (h1 : led₁ = (P, instObj 148 pd) :: (pd, dictOf (pEs k t ch wl) 2) :: (wl, listOf (List.toArray vs') nw) :: (rc ++ rest)) (h2 : Apart [P, pd, wl] (rc ++ rest)) (h3 : OwnOff rc (rest.map (·.1))) (h4 : All2 (EntIn (rc ++ T)) vs' (es ++ waitEnts g gh 0 (ds.take i))) (h5 : vs'.length ≤ vs.length + i) : WaitJ_ex P pd ch wl k t rest T vs es g gh ds i led₁
structure WaitJ (P pd ch wl : Addr) (k : Nat → Int) (t : Nat → Tok) (rest T : List Cell) (vs : List Value) (es : List Ent) (g : Int) (gh : Option Int) (ds : List Deed) (i : Nat) (led₁ : List Cell) : Prop where
  ex : WaitJ_ex P pd ch wl k t rest T vs es g gh ds i led₁
theorem wait_for_spec {w : World} {P pd wl ch dl : Addr} {k : Nat → Int} {t : Nat → Tok} {nw nd : Nat} {vs dvs : List Value} {es : List Ent} {ds : List Deed} {rest T : List Cell} {g : Int} {tg : Tok} (gh : Option Int)
    (hT : ∀ p ∈ T, p ∈ rest) (hes : All2 (EntIn T) vs es) (hds : All2 (DeedIn rest) dvs ds) (hdl : (dl, listOf dvs.toArray nd) ∈ rest) (hsz : es.length ≤ 100) (hdz : ds.length ≤ 10) (D : Apart [P, pd, wl] rest) :
    CallSpec 470 3700 w 145 [.ref P, .int g tg, .ref dl] ((P, instObj 148 pd) :: (pd, dictOf (pEs k t ch wl) 2) :: (wl, listOf vs.toArray nw) :: rest)
      (fun r new => r = .none ∧ WaitJ P pd ch wl k t rest T vs es g gh ds ds.length new) := by
  unfold CallSpec
  intro gd cn cs a ccd cls outer A₀ base h₀ L m s p loose mean mg mb Q E B F X N Tp hk ret
  have hoff := D.off
  have hvl : vs.length ≤ 100 := by rw [hes.length]; exact hsz
  refine wpAny_call ?_
  k_dflt row_room_at enter9
  k_steps
  refine goOn ?_
  (with_unfolding_all refine' for_enumO [Str.ofString "case", Str.ofString "kind", Str.ofString "number", Str.ofString "value"] (WaitJ P pd ch wl k t rest T vs es g gh ds) ?qhh ?qF ?qN (l := dl) (vs := dvs) (nn := nd) ?qhl ?qh0 ?qturn ?qdone)
  case qhh => rfl
  case qF => assumption
  case qN => assumption
  case qhl => row_room_at mem9
  case qh0 => exact ⟨nw, vs, [], rfl, D, offNil, by simpa [waitEnts] using hes, Nat.le_refl _⟩
  case qturn =>
    intro i v ti Tt f led₁ own h tk hv hp9 _ hown hlt F₁ N₁
    obtain ⟨nw₁, vs₁, rc, rfl, D₁, o₁, hes₁, hl₁⟩ := hp9
    have hoff₁ := D₁.off
    have hs9 : ∀ p ∈ rest, p ∈ rc ++ rest := fun p hp => memR hp
    have hc9 : ∀ p ∈ rc ++ T, p ∈ rc ++ rest := subApp (fun p hp => memL hp) (fun p hp => memR (hT p hp))
    obtain ⟨d, hd, da, dc, dtk, dtn, rfl, hdm⟩ := hds.get hv
    have hwe := waitEnts_snoc (g := g) (s := gh) (d := d) (ds.take i) 0
    rw [← take_snoc hd, take_len hd, Nat.zero_add] at hwe
    have hi : i < ds.length := (List.getElem?_eq_some_iff.mp hd).1
    replace hdm := hs9 _ hdm
    have hdl' := hs9 _ hdl
    have hlz : vs₁.length ≤ 200 := by omega
    simp only [List.cons_append] at N₁ hlt
    generalize hR : rc ++ rest = rest₁ at N₁ hlt D₁ hoff₁ hs9 hc9 hdm hdl' hown
    cases hn : d.n with
    | none =>
      rw [hn] at hdm hwe
      simp only [optV] at hdm
      (try show wpAny _ _ _ _ _ _)
      k_fold
      k_steps
      refine fend ((P, instObj 148 pd) :: (pd, dictOf (pEs k t ch wl) 2) :: (wl, listOf (List.toArray vs₁) nw₁) :: rest₁) (by assumption) (by assumption) (by row_room_at keep9) (by row_room_at sub9) (by row_room_at own9) (fun p hp => by rw [List.mem_singleton.mp hp]; row_room_at mem9)
        ⟨nw₁, vs₁, rc, by rw [hR], by rw [hR]; exact D₁, o₁, by rw [hwe, List.append_nil]; exact hes₁, by omega⟩
    | some z =>
      rw [hn] at hdm hwe
      simp only [optV] at hdm
      (try show wpAny _ _ _ _ _ _)
      k_fold
      k_steps
      rename_i D9 _ _ l9 _ _ _ F8 _ N8
      (try simp only [List.push_toArray, List.cons_append, List.nil_append] at N8)
      refine fend ((P, instObj 148 pd) :: (pd, dictOf (pEs k t ch wl) 2) :: (wl, listOf (List.toArray (vs₁ ++ [.ref D9])) (nw₁ + 1)) :: (D9, tupO [.int g tg, .str d.k dtk, .int z dtn, d.v, .int (i : Nat) ti] 0) :: rest₁) (by assumption) (by assumption) (by row_room_at keep9) (by row_room_at sub9) (by row_room_at own9) (fun p hp => by rw [List.mem_singleton.mp hp]; row_room_at mem9)
        ⟨nw₁ + 1, vs₁ ++ [.ref D9], (D9, tupO [.int g tg, .str d.k dtk, .int z dtn, d.v, .int (i : Nat) ti] 0) :: rc, by rw [List.cons_append, hR], ?_, ?_, ?_, by rw [List.length_append, List.length_singleton]; omega⟩
      · rw [List.cons_append, hR]
        row_room_at apart9
      · refine offCons (fun b hb => ?_) o₁
        obtain ⟨q, hq, rfl⟩ := List.mem_map.mp hb
        exact Ne.symm (ne_of_lt_all (allLtSub l9 (by row_room_at sub9) : AllLt D9 rest₁) q (hs9 q hq))
      · rw [hwe, ← List.append_assoc]
        exact All2.append (hes₁.mono fun _ _ h => h.mono fun p hp => memTail hp) (.cons ⟨D9, 0, tg, dtk, dtn, ti, rfl, memHead⟩ .nil)
  case qdone =>
    intro f led' h' tk hJ F' N'
    rw [hds.length] at hJ
    k_steps
    exact ret _ _ _ _ (by assumption) (by assumption) ⟨rfl, hJ⟩
inductive P_size_of_spec (news : List Cell) (held : List Value) (r : Value) (new : List Cell) : Prop where
  | mk (h1 : new = news) (t : _) (h2 : r = .int held.length t) : P_size_of_spec news held r new
noncomputable def T_size_of_spec (news : List Cell) (held : List Value) (C : Value → List Cell → Prop) : Prop := ∀ t, C (.int held.length t) (news)
theorem U_size_of_spec {news : List Cell} {held : List Value} : ∀ C, T_size_of_spec news held C → ∀ r new, P_size_of_spec news held r new → C r new := fun C k9 r new h9 => by
  obtain ⟨rfl, t, rfl⟩ := h9
  exact k9 t
theorem size_of_spec {w : World} {P pd wl ch C cd hl : Addr} {k k' : Nat → Int} {t t' : Nat → Tok} {nw nc nh : Nat} {vs : List Value} {es : List Ent} {news : List Cell} {n : Int} {tn tr : Tok} {chs held : List Value} {room : Int} {cl : Bool}
    (H : PlIn news P pd wl ch k t nw nc vs chs es) (H' : ChIn news C cd hl k' t' room tr cl nh held) (h0 : 0 ≤ n) (hn : n < 1000) (hC : chs[n.toNat]? = some (.ref C)) (hlen : held.length ≤ 100) :
    CallSpec 460 3600 w 63 [.ref P, .int n tn] news (P_size_of_spec news held) := by
  unfold CallSpec
  intro gd cn cs a ccd cls outer A₀ base h₀ L m s p loose mean mg mb Q E B F X N T hk ret
  have m1 := H.P
  have m2 := H.pd
  have m4 := H.ch
  have m5 := H'.C
  have m6 := H'.cd
  have m7 := H'.hl
  refine wpAny_call ?_
  k_dflt row_room_at enter9
  k_steps
  exact ret _ _ _ _ (by assumption) (by assumption) ⟨rfl, _, rfl⟩
theorem room_of_spec {w : World} {P pd wl ch C cd hl : Addr} {k k' : Nat → Int} {t t' : Nat → Tok} {nw nc nh : Nat} {vs : List Value} {es : List Ent} {news : List Cell} {n : Int} {tn tr : Tok} {chs held : List Value} {room : Int} {cl : Bool}
    (H : PlIn news P pd wl ch k t nw nc vs chs es) (H' : ChIn news C cd hl k' t' room tr cl nh held) (h0 : 0 ≤ n) (hn : n < 1000) (hC : chs[n.toNat]? = some (.ref C)) :
    CallSpec 460 3600 w 70 [.ref P, .int n tn] news (fun r new => new = news ∧ r = .int room tr) := by
  unfold CallSpec
  intro gd cn cs a ccd cls outer A₀ base h₀ L m s p loose mean mg mb Q E B F X N T hk ret
  have m1 := H.P
  have m2 := H.pd
  have m4 := H.ch
  have m5 := H'.C
  have m6 := H'.cd
  refine wpAny_call ?_
  k_dflt row_room_at enter9
  k_steps
  exact ret _ _ _ _ (by assumption) (by assumption) ⟨rfl, rfl⟩
end
section
theorem can_send_spec {w : World} {q qd b sl rl : Addr} {k : Nat → Int} {t : Nat → Tok} {room : Int} {tr : Tok} {cl : Bool} {nb ns nr : Nat} {buf svs rvs : List Value} {snd rcv : List Wt} {news : List Cell}
    (H : QIn news q qd b sl rl k t room tr cl nb ns nr buf svs rvs snd rcv) (hb : buf.length ≤ 100) :
    CallSpec 480 3800 w 187 [.ref q] news (fun r new => new = news ∧ r = .bool (cl || !rcv.isEmpty || decide ((buf.length : Int) < room))) := by
  unfold CallSpec
  intro gd cn cs a ccd cls outer A₀ base h₀ L m s p loose mean mg mb Q E B F X N T hk ret
  have m1 := H.q
  have m2 := H.qd
  have m3 := H.b
  have m4 := H.s
  have m5 := H.r
  have hsc := H.scb
  have h1 := H.hsnd
  have h2 := H.hrcv
  have h3 := H.scs
  have h4 := H.scr
  have he : rvs.isEmpty = rcv.isEmpty := by cases h2 <;> rfl
  refine wpAny_call ?_
  k_dflt row_room_at enter9
  k_steps
  all_goals (refine ret _ _ _ _ (by assumption) (News.sub (by assumption) (by row_room_at sub9)) ⟨rfl, ?_⟩; rw [← he]; clear he; first | (simp [*]; done) | (simp_all; done))
theorem can_receive_spec {w : World} {q qd b sl rl : Addr} {k : Nat → Int} {t : Nat → Tok} {room : Int} {tr : Tok} {cl : Bool} {nb ns nr : Nat} {buf svs rvs : List Value} {snd rcv : List Wt} {news : List Cell}
    (H : QIn news q qd b sl rl k t room tr cl nb ns nr buf svs rvs snd rcv) (hb : buf.length ≤ 100) :
    CallSpec 480 3800 w 194 [.ref q] news (fun r new => new = news ∧ r = .bool (!buf.isEmpty || !snd.isEmpty || cl)) := by
  unfold CallSpec
  intro gd cn cs a ccd cls outer A₀ base h₀ L m s p loose mean mg mb Q E B F X N T hk ret
  have m1 := H.q
  have m2 := H.qd
  have m3 := H.b
  have m4 := H.s
  have m5 := H.r
  have hsc := H.scb
  have h1 := H.hsnd
  have h2 := H.hrcv
  have h3 := H.scs
  have h4 := H.scr
  have he : svs.isEmpty = snd.isEmpty := by cases h1 <;> rfl
  refine wpAny_call ?_
  k_dflt row_room_at enter9
  k_steps
  all_goals (refine ret _ _ _ _ (by assumption) (News.sub (by assumption) (by row_room_at sub9)) ⟨rfl, ?_⟩; rw [← he]; clear he; first | (simp [*]; done) | (simp_all; done))
inductive P_size_spec (buf : List Value) (news : List Cell) (r : Value) (new : List Cell) : Prop where
  | mk (h1 : new = news) (t : _) (h2 : r = .int buf.length t) : P_size_spec buf news r new
noncomputable def T_size_spec (buf : List Value) (news : List Cell) (C : Value → List Cell → Prop) : Prop := ∀ t, C (.int buf.length t) (news)
theorem U_size_spec {buf : List Value} {news : List Cell} : ∀ C, T_size_spec buf news C → ∀ r new, P_size_spec buf news r new → C r new := fun C k9 r new h9 => by
  obtain ⟨rfl, t, rfl⟩ := h9
  exact k9 t
theorem size_spec {w : World} {q qd b sl rl : Addr} {k : Nat → Int} {t : Nat → Tok} {room : Int} {tr : Tok} {cl : Bool} {nb ns nr : Nat} {buf svs rvs : List Value} {snd rcv : List Wt} {news : List Cell}
    (H : QIn news q qd b sl rl k t room tr cl nb ns nr buf svs rvs snd rcv) (hb : buf.length ≤ 100) :
    CallSpec 480 3800 w 232 [.ref q] news (P_size_spec buf news) := by
  unfold CallSpec
  intro gd cn cs a ccd cls outer A₀ base h₀ L m s p loose mean mg mb Q E B F X N T hk ret
  have m1 := H.q
  have m2 := H.qd
  have m3 := H.b
  refine wpAny_call ?_
  k_dflt row_room_at enter9
  k_steps
  exact ret _ _ _ _ (by assumption) (by assumption) ⟨rfl, _, rfl⟩
end
section
theorem scx_snoc {xs : List Wt} {x : Wt} (h : ∀ x ∈ xs, Sc x.v) (hx : Sc x.v) : ∀ u ∈ xs ++ [x], Sc u.v := by
  intro u hu
  rcases List.mem_append.mp hu with hu | hu
  · exact h u hu
  · rw [List.mem_singleton.mp hu]; exact hx
theorem offer_spec {w : World} {q qd b sl rl : Addr} {k : Nat → Int} {t : Nat → Tok} {room : Int} {tr : Tok} {cl : Bool} {nb ns nr : Nat} {buf svs rvs : List Value} {snd rcv : List Wt} {rest : List Cell} {wv : Value} {x : Wt} (h1 : All2 (WtIn rest) svs snd) (h2 : All2 (WtIn rest) rvs rcv) (hscb : ∀ v ∈ buf, Sc v) (hscs : ∀ x ∈ snd, Sc x.v) (hscr : ∀ x ∈ rcv, Sc x.v) (hlen : buf.length ≤ 100) (hx : WtIn rest wv x) (hsx : Sc x.v) (hl1 : snd.length ≤ 100) (hl2 : rcv.length ≤ 100) (D : Apart [q, qd, b, sl, rl] rest) :
    CallSpec 480 3800 w 201 [.ref q, wv] ((q, instObj 235 qd) :: (qd, dictOf (qEs k t room tr b sl rl cl) 5) :: (b, listOf buf.toArray nb) :: (sl, listOf svs.toArray ns) :: (rl, listOf rvs.toArray nr) :: rest) (fun r new => QPost q qd b sl rl k t tr rest (qOffer ⟨room, buf, snd, rcv, cl⟩ x) r new) := by
  unfold CallSpec
  intro gd cn cs a ccd cls outer A₀ base h₀ L m s p loose mean mg mb Q E B F X N T hk ret
  have hoff := D.off
  obtain ⟨xa, xn, xtg, xtc, xts, rfl, hxm⟩ := hx
  have hlv1 : svs.length ≤ 100 := by rw [h1.length]; exact hl1
  have hlv2 : rvs.length ≤ 100 := by rw [h2.length]; exact hl2
  refine wpAny_call ?_
  k_dflt row_room_at enter9
  cases cl with
  | true =>
    k_steps
    rename News _ _ _ _ => kN9
    (try simp only [List.push_toArray, List.cons_append, List.nil_append] at kN9)
    refine ret _ _ _ _ (by assumption) (by assumption) ?_
    simp only [qOffer, if_true]
    refine ⟨_, _, _, svs, rvs, ⟨by row_room_at mem9, by row_room_at mem9, by row_room_at mem9, by row_room_at mem9, by row_room_at mem9, h1.wt (by row_room_at sub9), h2.wt (by row_room_at sub9), hscb, hscs, hscr⟩, by row_room_at sub9, ⟨_, _, _, _, rfl, by row_room_at mem9, ⟨_, _, _, _, rfl, by row_room_at mem9⟩, .nil⟩⟩
  | false =>
    have h2k := h2
    cases h2 with
    | @cons yv y us ys hy h2' =>
      have hl2' : us.length < 100 := by have := h2'.length; rw [List.length_cons] at hl2; omega
      have hsy := hscr _ (List.mem_cons_self ..)
      obtain ⟨ya, yn, ytg, ytc, yts, rfl, hym⟩ := hy
      k_steps
      rename News _ _ _ _ => kN9
      (try simp only [List.push_toArray, List.cons_append, List.nil_append] at kN9)
      refine ret _ _ _ _ (by assumption) (by assumption) ?_
      simp only [qOffer, Bool.false_eq_true, if_false]
      refine ⟨_, _, _, svs, us, ⟨by row_room_at mem9, by row_room_at mem9, by row_room_at mem9, by row_room_at mem9, by row_room_at mem9, h1.wt (by row_room_at sub9), h2'.wt (by row_room_at sub9), hscb, hscs, (fun x hx => hscr x (List.mem_cons_of_mem _ hx))⟩, by row_room_at sub9, ⟨_, _, _, _, rfl, by row_room_at mem9, ⟨_, _, _, rfl, by row_room_at mem9⟩, .cons ⟨_, _, _, _, _, _, _, rfl, by row_room_at mem9, by row_room_at rin9⟩ .nil⟩⟩
    | nil =>
      by_cases hr : (buf.length : Int) < room
      · k_steps
        rename News _ _ _ _ => kN9
        (try simp only [List.push_toArray, List.cons_append, List.nil_append] at kN9)
        refine ret _ _ _ _ (by assumption) (by assumption) ?_
        simp only [qOffer, Bool.false_eq_true, if_false, hr, if_true]
        refine ⟨_, _, _, svs, [], ⟨by row_room_at mem9, by row_room_at mem9, by row_room_at mem9, by row_room_at mem9, by row_room_at mem9, h1.wt (by row_room_at sub9), .nil, (sc_snoc hscb hsx), hscs, hscr⟩, by row_room_at sub9, ⟨_, _, _, _, rfl, by row_room_at mem9, ⟨_, _, _, rfl, by row_room_at mem9⟩, .nil⟩⟩
      · k_steps
        rename News _ _ _ _ => kN9
        (try simp only [List.push_toArray, List.cons_append, List.nil_append] at kN9)
        refine ret _ _ _ _ (by assumption) (by assumption) ?_
        simp only [qOffer, Bool.false_eq_true, if_false, hr]
        refine ⟨_, _, _, (svs ++ [.ref xa]), [], ⟨by row_room_at mem9, by row_room_at mem9, by row_room_at mem9, by row_room_at mem9, by row_room_at mem9, (h1.snoc ⟨xa, xn, xtg, xtc, xts, rfl, hxm⟩).wt (by row_room_at sub9), .nil, hscb, (scx_snoc hscs hsx), hscr⟩, by row_room_at sub9, ⟨_, _, _, _, rfl, by row_room_at mem9, ⟨_, _, _, rfl, by row_room_at mem9⟩, .nil⟩⟩
end
section
theorem scx_snoc2 {xs : List Wt} {x : Wt} (h : ∀ x ∈ xs, Sc x.v) (hx : Sc x.v) : ∀ u ∈ xs ++ [x], Sc u.v := by
  intro u hu
  rcases List.mem_append.mp hu with hu | hu
  · exact h u hu
  · rw [List.mem_singleton.mp hu]; exact hx
theorem take_spec {w : World} {q qd b sl rl : Addr} {k : Nat → Int} {t : Nat → Tok} {room : Int} {tr : Tok} {cl : Bool} {nb ns nr : Nat} {buf svs rvs : List Value} {snd rcv : List Wt} {rest : List Cell} {wv : Value} {x : Wt} (h1 : All2 (WtIn rest) svs snd) (h2 : All2 (WtIn rest) rvs rcv) (hscb : ∀ v ∈ buf, Sc v) (hscs : ∀ x ∈ snd, Sc x.v) (hscr : ∀ x ∈ rcv, Sc x.v) (hlen : buf.length ≤ 100) (hx : WtIn rest wv x) (hsx : Sc x.v) (hl1 : snd.length ≤ 100) (hl2 : rcv.length ≤ 100) (D : Apart [q, qd, b, sl, rl] rest) :
    CallSpec 480 3800 w 208 [.ref q, wv] ((q, instObj 235 qd) :: (qd, dictOf (qEs k t room tr b sl rl cl) 5) :: (b, listOf buf.toArray nb) :: (sl, listOf svs.toArray ns) :: (rl, listOf rvs.toArray nr) :: rest) (fun r new => QPost q qd b sl rl k t tr rest (qTake ⟨room, buf, snd, rcv, cl⟩ x) r new) := by
  unfold CallSpec
  intro gd cn cs a ccd cls outer A₀ base h₀ L m s p loose mean mg mb Q E B F X N T hk ret
  have hoff := D.off
  obtain ⟨xa, xn, xtg, xtc, xts, rfl, hxm⟩ := hx
  have hlv1 : svs.length ≤ 100 := by rw [h1.length]; exact hl1
  have hlv2 : rvs.length ≤ 100 := by rw [h2.length]; exact hl2
  refine wpAny_call ?_
  k_dflt row_room_at enter9
  cases buf with
  | cons v0 t0 =>
    have hs0 : Sc v0 := hscb v0 (List.mem_cons_self ..)
    have hst : ∀ v ∈ t0, Sc v := fun v hv => hscb v (List.mem_cons_of_mem _ hv)
    have hlen' : t0.length < 100 := by rw [List.length_cons] at hlen; omega
    have h1k := h1
    cases h1 with
    | nil =>
      k_steps
      rename News _ _ _ _ => kN9
      (try simp only [List.push_toArray, List.cons_append, List.nil_append] at kN9)
      refine ret _ _ _ _ (by assumption) (by assumption) ?_
      simp only [qTake]
      refine ⟨_, _, _, [], rvs, ⟨by row_room_at mem9, by row_room_at mem9, by row_room_at mem9, by row_room_at mem9, by row_room_at mem9, .nil, h2.wt (by row_room_at sub9), hst, hscs, hscr⟩, by row_room_at sub9, ⟨_, _, _, _, rfl, by row_room_at mem9, ⟨_, _, _, rfl, by row_room_at mem9⟩, .nil⟩⟩
    | @cons yv y us ys hy h1' =>
      have hsy := hscs _ (List.mem_cons_self ..)
      have hl1' : us.length < 100 := by have := h1'.length; rw [List.length_cons] at hl1; omega
      obtain ⟨ya, yn, ytg, ytc, yts, rfl, hym⟩ := hy
      k_steps
      rename News _ _ _ _ => kN9
      (try simp only [List.push_toArray, List.cons_append, List.nil_append] at kN9)
      refine ret _ _ _ _ (by assumption) (by assumption) ?_
      simp only [qTake]
      refine ⟨_, _, _, us, rvs, ⟨by row_room_at mem9, by row_room_at mem9, by row_room_at mem9, by row_room_at mem9, by row_room_at mem9, h1'.wt (by row_room_at sub9), h2.wt (by row_room_at sub9), (sc_snoc hst hsy), (fun x hx => hscs x (List.mem_cons_of_mem _ hx)), hscr⟩, by row_room_at sub9, ⟨_, _, _, _, rfl, by row_room_at mem9, ⟨_, _, _, rfl, by row_room_at mem9⟩, .cons ⟨_, _, _, _, _, _, _, rfl, by row_room_at mem9, by row_room_at rin9⟩ .nil⟩⟩
  | nil =>
    have h1k := h1
    cases h1 with
    | @cons yv y us ys hy h1' =>
      have hsy := hscs _ (List.mem_cons_self ..)
      have hl1' : us.length < 100 := by have := h1'.length; rw [List.length_cons] at hl1; omega
      obtain ⟨ya, yn, ytg, ytc, yts, rfl, hym⟩ := hy
      k_steps
      rename News _ _ _ _ => kN9
      (try simp only [List.push_toArray, List.cons_append, List.nil_append] at kN9)
      refine ret _ _ _ _ (by assumption) (by assumption) ?_
      simp only [qTake]
      refine ⟨_, _, _, us, rvs, ⟨by row_room_at mem9, by row_room_at mem9, by row_room_at mem9, by row_room_at mem9, by row_room_at mem9, h1'.wt (by row_room_at sub9), h2.wt (by row_room_at sub9), hscb, (fun x hx => hscs x (List.mem_cons_of_mem _ hx)), hscr⟩, by row_room_at sub9, ⟨_, _, _, _, rfl, by row_room_at mem9, ⟨_, _, _, rfl, by row_room_at mem9⟩, .cons ⟨_, _, _, _, _, _, _, rfl, by row_room_at mem9, by row_room_at rin9⟩ .nil⟩⟩
    | nil =>
      cases cl with
      | true =>
        k_steps
        rename News _ _ _ _ => kN9
        (try simp only [List.push_toArray, List.cons_append, List.nil_append] at kN9)
        refine ret _ _ _ _ (by assumption) (by assumption) ?_
        simp only [qTake, if_true]
        refine ⟨_, _, _, [], rvs, ⟨by row_room_at mem9, by row_room_at mem9, by row_room_at mem9, by row_room_at mem9, by row_room_at mem9, .nil, h2.wt (by row_room_at sub9), hscb, hscs, hscr⟩, by row_room_at sub9, ⟨_, _, _, _, rfl, by row_room_at mem9, ⟨_, _, _, rfl, by row_room_at mem9⟩, .nil⟩⟩
      | false =>
        k_steps
        rename News _ _ _ _ => kN9
        (try simp only [List.push_toArray, List.cons_append, List.nil_append] at kN9)
        refine ret _ _ _ _ (by assumption) (by assumption) ?_
        simp only [qTake, Bool.false_eq_true, if_false]
        refine ⟨_, _, _, [], (rvs ++ [.ref xa]), ⟨by row_room_at mem9, by row_room_at mem9, by row_room_at mem9, by row_room_at mem9, by row_room_at mem9, .nil, (h2.snoc ⟨xa, xn, xtg, xtc, xts, rfl, hxm⟩).wt (by row_room_at sub9), hscb, hscs, (scx_snoc2 hscr hsx)⟩, by row_room_at sub9, ⟨_, _, _, _, rfl, by row_room_at mem9, ⟨_, _, _, rfl, by row_room_at mem9⟩, .nil⟩⟩
end
section
theorem take_succW {α : Type} {l : List α} {i : Nat} {e : α} (he : l[i]? = some e) : l.take (i + 1) = l.take i ++ [e] := by rw [List.take_add_one, he]; rfl
theorem forget_spec {w : World} {q qd b sl rl : Addr} {k : Nat → Int} {t : Nat → Tok} {room : Int} {tr : Tok} {cl : Bool} {nb ns nr : Nat} {buf svs rvs : List Value} {snd rcv : List Wt} {rest T : List Cell} {g : Int} {tg : Tok}
    (hT : ∀ p ∈ T, p ∈ rest) (h1 : All2 (WtIn T) svs snd) (h2 : All2 (WtIn T) rvs rcv) (hl1 : snd.length ≤ 100) (hl2 : rcv.length ≤ 100) (D : Apart [q, qd, b, sl, rl] rest) :
    CallSpec 480 3800 w 225 [.ref q, .int g tg] ((q, instObj 235 qd) :: (qd, dictOf (qEs k t room tr b sl rl cl) 5) :: (b, listOf buf.toArray nb) :: (sl, listOf svs.toArray ns) :: (rl, listOf rvs.toArray nr) :: rest)
      (fun r new => r = .none ∧ ForgetPost q qd b k t room tr cl nb buf T (keepS (some g) snd) (keepS (some g) rcv) rest new) := by
  unfold CallSpec
  intro gd cn cs a ccd cls outer A₀ base h₀ L m s p loose mean mg mb Q E B F X N Tp hk ret
  have hoff := D.off
  refine wpAny_call ?_
  k_dflt row_room_at enter9
  k_steps
  have hlen := h1.length
  have hlen2 := h2.length
  (with_unfolding_all refine' comp_list (vs := svs) (nn := ns) (fun i ys tl => tl = [] ∧ All2 (WtIn T) ys (keepS (some g) (snd.take i))) ?qhh ?qF ?qN ?qhl ?qhn ?qh0 ?qhx ?qhkd ?qturn ?qdone)
  case qhh => rfl
  case qF => assumption
  case qN => assumption
  case qhl => row_room_at mem9
  case qhn => rw [sizeLine_eq]; omega
  case qh0 => exact ⟨rfl, .nil⟩
  case qhx => intro C'; rfl
  case qhkd => intro C'; rfl
  case qturn =>
    intro C i v ys tl own h tk h₁ tk₁ oC m₂ E' hv hK hys ht ho hoC hN hx F₁ N₁
    obtain ⟨rfl, hK⟩ := hK
    simp only [List.append_nil, List.cons_append] at N₁
    obtain ⟨e, he, hE⟩ := h1.get hv
    have hE' := hE
    obtain ⟨a, n', tg', tc, ts, rfl, hm⟩ := hE'
    replace hm := hT _ hm
    have hsn := take_succW he
    cases hs : e.s with
    | none =>
      rw [hs] at hm
      simp only [optV] at hm
      refine growTurn_one ?_
      (try show wpAny _ _ _ _ _ _)
      k_fold
      k_steps
      refine CGrow.intro [] (by assumption) (by assumption) (by row_room_at sub9) (by assumption) offNil offNil offNil ⟨rfl, ?_⟩
      rw [hsn]
      simpa [keepS, List.filter_append, hs] using hK.snoc hE
    | some z =>
      rw [hs] at hm
      simp only [optV] at hm
      refine growTurn_one ?_
      (try show wpAny _ _ _ _ _ _)
      k_fold
      k_steps
      · refine CGrow.intro [] (by assumption) (by assumption) (by row_room_at sub9) (by assumption) offNil offNil offNil ⟨rfl, ?_⟩
        rename z ≠ g => hz
        rw [hsn]
        simpa [keepS, List.filter_append, hs, hz] using hK.snoc hE
      · refine CGrow.intro [] (by assumption) (by assumption) (by row_room_at sub9) (by assumption) offNil offNil offNil ⟨rfl, ?_⟩
        rename z = g => hz
        rw [hsn]
        simpa [keepS, List.filter_append, hs, hz] using hK
  case qdone =>
    intro s₂ Dl ys tl c h' tk hs ht N₁ hD hK
    obtain ⟨hh, rfl⟩ := hs
    obtain ⟨rfl, hK⟩ := hK
    simp only [List.append_nil] at N₁ hD
    simp only [List.forall_mem_cons] at hD
    obtain ⟨d1, hD⟩ := hD
    obtain ⟨d2, d3, d4, d5, d6, d7⟩ := fm5 hD
    dsimp only at d2 d3 d4 d5 d6
    rw [hlen, List.take_length] at hK
    unfold finE
    intro F₁
    k_steps
    (with_unfolding_all refine' comp_list (vs := rvs) (nn := nr) (fun i ys tl => tl = [] ∧ All2 (WtIn T) ys (keepS (some g) (rcv.take i))) ?qhh ?qF ?qN ?qhl ?qhn ?qh0 ?qhx ?qhkd ?qturn ?qdone)
    case qhh => rfl
    case qF => assumption
    case qN => assumption
    case qhl => row_room_at mem9
    case qhn => rw [sizeLine_eq]; omega
    case qh0 => exact ⟨rfl, .nil⟩
    case qhx => intro C'; rfl
    case qhkd => intro C'; rfl
    case qturn =>
      intro C i v ys tl own h tk h₁ tk₁ oC m₂ E' hv hK hys ht ho hoC hN hx F₁ N₁
      obtain ⟨rfl, hK⟩ := hK
      simp only [List.append_nil, List.cons_append] at N₁
      obtain ⟨e, he, hE⟩ := h2.get hv
      have hE' := hE
      obtain ⟨a, n', tg', tc, ts, rfl, hm⟩ := hE'
      replace hm := hT _ hm
      have hsn := take_succW he
      cases hs : e.s with
      | none =>
        rw [hs] at hm
        simp only [optV] at hm
        refine growTurn_one ?_
        (try show wpAny _ _ _ _ _ _)
        k_fold
        k_steps
        refine CGrow.intro [] (by assumption) (by assumption) (by row_room_at sub9) (by assumption) offNil offNil offNil ⟨rfl, ?_⟩
        rw [hsn]
        simpa [keepS, List.filter_append, hs] using hK.snoc hE
      | some z =>
        rw [hs] at hm
        simp only [optV] at hm
        refine growTurn_one ?_
        (try show wpAny _ _ _ _ _ _)
        k_fold
        k_steps
        · refine CGrow.intro [] (by assumption) (by assumption) (by row_room_at sub9) (by assumption) offNil offNil offNil ⟨rfl, ?_⟩
          rename z ≠ g => hz
          rw [hsn]
          simpa [keepS, List.filter_append, hs, hz] using hK.snoc hE
        · refine CGrow.intro [] (by assumption) (by assumption) (by row_room_at sub9) (by assumption) offNil offNil offNil ⟨rfl, ?_⟩
          rename z = g => hz
          rw [hsn]
          simpa [keepS, List.filter_append, hs, hz] using hK
    case qdone =>
      intro s₃ Dr yr tl c' h'' tk hs ht N₁ hD hK2
      obtain ⟨hh, rfl⟩ := hs
      obtain ⟨rfl, hK2⟩ := hK2
      simp only [List.append_nil] at N₁ hD
      simp only [List.forall_mem_cons] at hD
      obtain ⟨e0, e1, e2, e3, e4, e5, e6, e7⟩ := hD
      rw [hlen2, List.take_length] at hK2
      unfold finE
      intro F₁
      k_steps
      refine ret _ _ _ _ (by assumption) (News.sub (by assumption) ?_) ⟨rfl, Dl, Dr, c, c', ys, yr, rfl, hK, hK2, ?_⟩
      · row_room_at sub9
      · row_room_at apart9
end
section
inductive OptIn (v : Value) (o : Option Int) : Prop where
  | mk (t : _) (h1 : v = optV o t) : OptIn v o
theorem any_opt {k : Int} {vs : List Value} {os : List (Option Int)} (h : All2 OptIn vs os) : vs.any (isInt k) = os.contains (some k) := by
  induction h with
  | nil => rfl
  | @cons v o vs os hv _ ih =>
    obtain ⟨t, rfl⟩ := hv
    rw [List.any_cons, List.contains_cons, ih]
    cases o with
    | none => simp [optV, isInt]
    | some i =>
      have : isInt k (optV (some i) t) = (some k == some i) := by
        show (i == k) = (k == i)
        by_cases h : i = k
        · rw [h]
        · have h2 : ¬ k = i := fun e => h e.symm
          rw [beq_eq_false_iff_ne.mpr h, beq_eq_false_iff_ne.mpr h2]
      rw [this]
theorem eq_opt {k : Int} {t : Tok} {vs : List Value} {os : List (Option Int)} (h : All2 OptIn vs os) : ∀ y ∈ vs, MeetsSeq.EqGives y (.int k t) (isInt k y) := by
  induction h with
  | nil => exact noMem
  | @cons v o vs os hv _ ih =>
    intro y hy
    rcases List.mem_cons.mp hy with rfl | hy
    · obtain ⟨u, rfl⟩ := hv
      cases o with
      | none => exact fun prog w A E s Q h => SeqAt.EqAt.none_int k t prog w E Q h
      | some i => exact MeetsSeq.EqGives.int i k u t
    · exact ih y hy
theorem notin_opt {prog : Program} {w : World} {A : Around} {E : Value → Shared → Prop} {s : Shared} {h₀ : Heap} {L D : Addr} {news : List Cell} {vs : List Value} {n : Nat} {os : List (Option Int)} {k : Int} {t : Tok} {Q : Value → Shared → Prop} (N : News h₀ L s.heap news) (hm : (D, listOf vs.toArray n) ∈ news) (ho : All2 OptIn vs os) (h : Q (.bool (!os.contains (some k))) s) :
    wpAny (model prog w) A (compareOp .NotIn (.int k t) (.ref D)) Q E s :=
  SeqInW.notIn_listW (isInt k) (fun y hy => eq_opt ho y (by simpa using hy)) ⟨_, (N _ hm).1, rfl, n, rfl⟩ (by rw [← Array.any_toList, show vs.toArray.toList = vs from rfl, any_opt ho]; exact h)
theorem notin_ints {prog : Program} {w : World} {A : Around} {E : Value → Shared → Prop} {s : Shared} {h₀ : Heap} {L D : Addr} {news : List Cell} {vs : List Value} {n : Nat} {os : List Int} {k : Int} {t : Tok} {Q : Value → Shared → Prop} (N : News h₀ L s.heap news) (hm : (D, listOf vs.toArray n) ∈ news) (ho : IntsAre vs os) (h : Q (.bool (!(os.any (· == k)))) s) :
    wpAny (model prog w) A (compareOp .NotIn (.int k t) (.ref D)) Q E s :=
  notin_list_ints ⟨_, (N _ hm).1, rfl, n, rfl⟩ ho h
inductive PairIn (T W U : List Cell) (v : Value) (p : Wt × PyData) : Prop where
  | mk (a : _) (c : _) (wv : _) (tv : _) (h1 : v = .ref a) (h2 : (a, tupO [wv, tv] c) ∈ T) (h3 : WtIn W wv p.1) (h4 : RIn U tv p.2) : PairIn T W U v p
theorem PairIn.mono {T T' W W' U U' : List Cell} {v : Value} {p : Wt × PyData} (h : PairIn T W U v p) (hs : ∀ p ∈ T, p ∈ T') (hs1 : ∀ p ∈ W, p ∈ W') (hs2 : ∀ p ∈ U, p ∈ U') : PairIn T' W' U' v p := by
  obtain ⟨a, c, wv, tv, rfl, hm, h1, h2⟩ := h
  exact ⟨a, c, wv, tv, rfl, hs _ hm, h1.mono hs1, h2.mono hs2⟩
noncomputable def onceStep (x : List (Wt × PyData) × List (Option Int)) (p : Wt × PyData) : List (Wt × PyData) × List (Option Int) :=
  if p.1.s.isNone || !x.2.contains p.1.s then (x.1 ++ [p], x.2 ++ [p.1.s]) else x
noncomputable def onceF (ps : List (Wt × PyData)) : List (Wt × PyData) × List (Option Int) := ps.foldl onceStep ([], [])
theorem onceF_snoc {ps : List (Wt × PyData)} {p : Wt × PyData} : onceF (ps ++ [p]) = onceStep (onceF ps) p := by unfold onceF; rw [List.foldl_append]; rfl
theorem onceF_len (ps : List (Wt × PyData)) : (onceF ps).1.length ≤ ps.length ∧ (onceF ps).2.length ≤ ps.length := by
  suffices h : ∀ (ps : List (Wt × PyData)) (x : List (Wt × PyData) × List (Option Int)), (ps.foldl onceStep x).1.length ≤ x.1.length + ps.length ∧ (ps.foldl onceStep x).2.length ≤ x.2.length + ps.length by
    have := h ps ([], []); simpa [onceF] using this
  intro ps
  induction ps with
  | nil => intro x; exact ⟨Nat.le_refl _, Nat.le_refl _⟩
  | cons p ps ih =>
    intro x
    have := ih (onceStep x p)
    rw [List.foldl_cons, List.length_cons]
    have h1 : (onceStep x p).1.length ≤ x.1.length + 1 ∧ (onceStep x p).2.length ≤ x.2.length + 1 := by
      unfold onceStep; split <;> simp
    omega
end
section
inductive OnceJ_ex (lf : Addr) (lm : Addr) (led : List Cell) (W : List Cell) (U : List Cell) (ps : List (Wt × PyData)) (i : Nat) (led₁ : List Cell) : Prop where
  | mk (fvs : _) (mvs : _) (cf : _) (cm : _) (rc : _) (h1 : led₁ = (lf, listOf (List.toArray fvs) cf) :: (lm, listOf (List.toArray mvs) cm) :: (rc ++ led)) (h2 : OwnOff rc (led.map (·.1))) (h3 : Apart [lf, lm] (rc ++ led)) (h4 : All2 (PairIn rc W U) fvs (onceF (ps.take i)).1) (h5 : All2 OptIn mvs (onceF (ps.take i)).2) : OnceJ_ex lf lm led W U ps i led₁
structure OnceJ (lf lm : Addr) (led W U : List Cell) (ps : List (Wt × PyData)) (i : Nat) (led₁ : List Cell) : Prop where
  ex : OnceJ_ex lf lm led W U ps i led₁
inductive P_once_spec (ps : List (Wt × PyData)) (led : List Cell) (W : List Cell) (U : List Cell) (r : Value) (new : List Cell) : Prop where
  | mk (lf : _) (fvs : _) (c : _) (rc : _) (h1 : r = .ref lf) (h2 : new = (lf, listOf (List.toArray fvs) c) :: (rc ++ led)) (h3 : OwnOff rc (led.map (·.1))) (h4 : Apart [lf] (rc ++ led)) (h5 : All2 (PairIn rc W U) fvs (onceF ps).1) : P_once_spec ps led W U r new
noncomputable def T_once_spec (ps : List (Wt × PyData)) (led : List Cell) (W : List Cell) (U : List Cell) (C : Value → List Cell → Prop) : Prop := ∀ lf, ∀ fvs, ∀ c, ∀ rc, (OwnOff rc (led.map (·.1))) → (Apart [lf] (rc ++ led)) → (All2 (PairIn rc W U) fvs (onceF ps).1) → C (.ref lf) ((lf, listOf (List.toArray fvs) c) :: (rc ++ led))
theorem U_once_spec {ps : List (Wt × PyData)} {led : List Cell} {W : List Cell} {U : List Cell} : ∀ C, T_once_spec ps led W U C → ∀ r new, P_once_spec ps led W U r new → C r new := fun C k9 r new h9 => by
  obtain ⟨lf, fvs, c, rc, rfl, rfl, h3, h4, h5⟩ := h9
  exact k9 lf fvs c rc h3 h4 h5
theorem once_spec {w : World} {rl : Addr} {nr : Nat} {rvs : List Value} {ps : List (Wt × PyData)} {led T W U : List Cell}
    (hT : ∀ p ∈ T, p ∈ led) (hW : ∀ p ∈ W, p ∈ led) (hU : ∀ p ∈ U, p ∈ led) (hps : All2 (PairIn T W U) rvs ps) (hrl : (rl, listOf rvs.toArray nr) ∈ led) (hz : ps.length ≤ 200) :
    CallSpec 470 3700 w 166 [.ref rl] led (P_once_spec ps led W U) := by
  unfold CallSpec
  intro gd cn cs a ccd cls outer A₀ base h₀ L m s p loose mean mg mb Q E B F X N Tp hk ret
  refine wpAny_call ?_
  k_dflt row_room_at enter9
  k_steps
  rename_i lf _ _ lA _ lm _ _ lB _ D0 _ _ lC _ _ _ _ _ _ _ _ F8 N8
  have lA' : AllLt lf led := lA
  (with_unfolding_all refine' for_listO [Str.ofString "waiter", Str.ofString "what"] (OnceJ lf lm led W U ps) ?qhh ?qF ?qN (l := rl) (vs := rvs) (nn := nr) ?qhl ?qh0 ?qturn ?qdone)
  case qhh => rfl
  case qF => assumption
  case qN => exact News.sub (l' := (lf, listOf (List.toArray []) 0) :: (lm, listOf (List.toArray []) 0) :: ([] ++ led)) (by assumption) (by row_room_at sub9)
  case qhl => row_room_at mem9
  case qh0 =>
    refine ⟨[], [], 0, 0, [], rfl, offNil, ?_, .nil, .nil⟩
    show Apart _ led
    row_room_at apart9
  case qturn =>
    intro i v f led₁ own h tk hv hp9 _ hown F₁ N₁
    obtain ⟨fvs, mvs, cf, cm, rc, rfl, o₁, D₁, hf₁, hm₁⟩ := hp9
    have hoff₁ := D₁.off
    have hs9 : ∀ p ∈ led, p ∈ rc ++ led := fun p hp => memR hp
    obtain ⟨q, hq, pa, pc, wv, tv, rfl, hpm, hw, hwd⟩ := hps.get hv
    obtain ⟨wa, wn, wtg, wtc, wts, rfl, hwm⟩ := hw
    have hoe := onceF_snoc (ps := ps.take i) (p := q)
    rw [← take_snoc hq] at hoe
    have hi : i < ps.length := (List.getElem?_eq_some_iff.mp hq).1
    have hlz := onceF_len (ps.take i)
    have hlt : (ps.take i).length ≤ 200 := by rw [List.length_take]; omega
    have hfl := hf₁.length
    have hml := hm₁.length
    have hz1 : fvs.length ≤ 200 := by omega
    have hz2 : mvs.length ≤ 200 := by omega
    replace hpm := hs9 _ (hT _ hpm)
    have hwm' := hs9 _ (hW _ hwm)
    have hrl' := hs9 _ hrl
    simp only [List.cons_append] at N₁
    generalize hR : rc ++ led = rest₁ at N₁ D₁ hoff₁ hs9 hpm hwm' hrl' hown
    cases hn : q.1.s with
    | none =>
      rw [hn] at hwm'
      simp only [optV] at hwm'
      (try show wpAny _ _ _ _ _ _)
      k_fold
      k_steps
      rename_i D9 _ _ l9 _ _ _ _ _ _ F9 _ N9
      (try simp only [List.push_toArray, List.cons_append, List.nil_append] at N9)
      refine fend ((lf, listOf (List.toArray (fvs ++ [.ref D9])) (cf + 1)) :: (lm, listOf (List.toArray (mvs ++ [.none])) (cm + 1)) :: (D9, tupO [.ref wa, tv] 0) :: rest₁) (by assumption) (by assumption) (by row_room_at keep9) (by row_room_at sub9) (by row_room_at own9) (fun p hp => by rw [List.mem_singleton.mp hp]; row_room_at mem9)
        ⟨fvs ++ [.ref D9], mvs ++ [.none], cf + 1, cm + 1, (D9, tupO [.ref wa, tv] 0) :: rc, by rw [List.cons_append, hR], ?_, ?_, ?_, ?_⟩
      · refine offCons (fun b hb => ?_) o₁
        obtain ⟨q, hq, rfl⟩ := List.mem_map.mp hb
        exact Ne.symm (ne_of_lt_all (allLtSub l9 (by row_room_at sub9) : AllLt D9 rest₁) q (hs9 q hq))
      · rw [List.cons_append, hR]
        row_room_at apart9
      · rw [hoe, onceStep, if_pos (by rw [hn]; rfl)]
        exact All2.append (hf₁.mono fun _ _ h => h.mono (fun p hp => memTail hp) (fun _ h => h) (fun _ h => h)) (.cons ⟨D9, 0, _, tv, rfl, memHead, ⟨wa, wn, wtg, wtc, wts, rfl, hwm⟩, hwd⟩ .nil)
      · rw [hoe, onceStep, if_pos (by rw [hn]; rfl), hn]
        exact hm₁.snoc ⟨wts, rfl⟩
    | some z =>
      rw [hn] at hwm'
      simp only [optV] at hwm'
      (try show wpAny _ _ _ _ _ _)
      k_fold
      k_steps
      · rename (List.contains _ _) = true => hc
        refine fend ((lf, listOf (List.toArray fvs) cf) :: (lm, listOf (List.toArray mvs) cm) :: rest₁) (by assumption) (by assumption) (by row_room_at keep9) (by row_room_at sub9) (by row_room_at own9) (fun p hp => by rw [List.mem_singleton.mp hp]; row_room_at mem9)
          ⟨fvs, mvs, cf, cm, rc, by rw [hR], o₁, by rw [hR]; exact D₁, ?_, ?_⟩
        · rw [hoe, onceStep, if_neg (by rw [hn, hc]; simp)]; exact hf₁
        · rw [hoe, onceStep, if_neg (by rw [hn, hc]; simp)]; exact hm₁
      · rename (List.contains _ _) = false => hc
        rename_i D9 _ _ l9 _ _ _ _ _ _ F9 _ N9
        (try simp only [List.push_toArray, List.cons_append, List.nil_append] at N9)
        refine fend ((lf, listOf (List.toArray (fvs ++ [.ref D9])) (cf + 1)) :: (lm, listOf (List.toArray (mvs ++ [(.int z wts)])) (cm + 1)) :: (D9, tupO [.ref wa, tv] 0) :: rest₁) (by assumption) (by assumption) (by row_room_at keep9) (by row_room_at sub9) (by row_room_at own9) (fun p hp => by rw [List.mem_singleton.mp hp]; row_room_at mem9)
          ⟨fvs ++ [.ref D9], mvs ++ [(.int z wts)], cf + 1, cm + 1, (D9, tupO [.ref wa, tv] 0) :: rc, by rw [List.cons_append, hR], ?_, ?_, ?_, ?_⟩
        · refine offCons (fun b hb => ?_) o₁
          obtain ⟨q, hq, rfl⟩ := List.mem_map.mp hb
          exact Ne.symm (ne_of_lt_all (allLtSub l9 (by row_room_at sub9) : AllLt D9 rest₁) q (hs9 q hq))
        · rw [List.cons_append, hR]
          row_room_at apart9
        · rw [hoe, onceStep, if_pos (by rw [hn, hc]; rfl)]
          exact All2.append (hf₁.mono fun _ _ h => h.mono (fun p hp => memTail hp) (fun _ h => h) (fun _ h => h)) (.cons ⟨D9, 0, _, tv, rfl, memHead, ⟨wa, wn, wtg, wtc, wts, rfl, hwm⟩, hwd⟩ .nil)
        · rw [hoe, onceStep, if_pos (by rw [hn, hc]; rfl), hn]
          exact hm₁.snoc ⟨wts, rfl⟩
  case qdone =>
    intro f led' h' tk hp9 F' N'
    obtain ⟨fvs, mvs, cf, cm, rc, rfl, o₁, D₁, hf₁, hm₁⟩ := hp9
    rw [hps.length, List.take_length] at hf₁
    k_steps
    refine ret _ _ _ _ (by assumption) (News.sub (l' := (lf, listOf (List.toArray fvs) cf) :: (rc ++ led)) (by assumption) (by row_room_at sub9)) ⟨lf, fvs, cf, rc, rfl, rfl, o₁, D₁.sub (by row_room_at sl9) fun _ h => h, hf₁⟩
end
section
noncomputable def qClose (q : QSt) : QEff := if q.cl then ⟨q, .panic sTwice, []⟩ else
  ⟨⟨q.room, q.buf, [], [], true⟩, .done, (onceF (q.rcv.map (fun x => (x, goneD)) ++ q.snd.map (fun x => (x, panicD sClosed)))).1.map fun p => wok p.1 p.2⟩
inductive QClosePost_ex (q : Addr) (qd : Addr) (b : Addr) (k : Nat → Int) (t : Nat → Tok) (tr : Tok) (rest : List Cell) (e : QEff) (r : Value) (new : List Cell) : Prop where
  | mk (sl : _) (rl : _) (nb : _) (ns : _) (nr : _) (svs : _) (rvs : _) (h1 : QIn new q qd b sl rl k t e.st.room tr e.st.cl nb ns nr e.st.buf svs rvs e.st.snd e.st.rcv) (h2 : (∀ p ∈ rest, p ∈ new)) (h3 : Apart [q, qd, b, sl, rl] rest) (h4 : OutIn (offOf ([q, qd, b, sl, rl] ++ rest.map (·.1)) new) r e.first e.rows) : QClosePost_ex q qd b k t tr rest e r new
structure QClosePost (q qd b : Addr) (k : Nat → Int) (t : Nat → Tok) (tr : Tok) (rest : List Cell) (e : QEff) (r : Value) (new : List Cell) : Prop where
  ex : QClosePost_ex q qd b k t tr rest e r new
theorem close_spec {w : World} {q qd b sl rl : Addr} {k : Nat → Int} {t : Nat → Tok} {room : Int} {tr : Tok} {cl : Bool} {nb ns nr : Nat} {buf svs rvs : List Value} {snd rcv : List Wt} {rest T : List Cell}
    (hT : ∀ p ∈ T, p ∈ rest) (h1 : All2 (WtIn T) svs snd) (h2 : All2 (WtIn T) rvs rcv) (hscb : ∀ v ∈ buf, Sc v) (hscs : ∀ x ∈ snd, Sc x.v) (hscr : ∀ x ∈ rcv, Sc x.v) (hl1 : snd.length ≤ 100) (hl2 : rcv.length ≤ 100) (D : Apart [q, qd, b, sl, rl] rest) :
    CallSpec 460 3600 w 220 [.ref q] ((q, instObj 235 qd) :: (qd, dictOf (qEs k t room tr b sl rl cl) 5) :: (b, listOf buf.toArray nb) :: (sl, listOf svs.toArray ns) :: (rl, listOf rvs.toArray nr) :: rest)
      (QClosePost q qd b k t tr rest (qClose ⟨room, buf, snd, rcv, cl⟩)) := by
  unfold CallSpec
  intro gd cn cs a ccd cls outer A₀ base h₀ L m s p loose mean mg mb Q E B F X N Tp hk ret
  have hoff := D.off
  refine wpAny_call ?_
  k_dflt row_room_at enter9
  cases cl with
  | true =>
    k_steps
    refine ret _ _ _ _ (by assumption) (by assumption) ?_
    simp only [qClose, if_true]
    refine ⟨sl, rl, _, _, _, svs, rvs, ⟨by row_room_at mem9, by row_room_at mem9, by row_room_at mem9, by row_room_at mem9, by row_room_at mem9, h1.mono fun _ _ h => (h.mono hT).mono (by row_room_at sub9), h2.mono fun _ _ h => (h.mono hT).mono (by row_room_at sub9), hscb, hscs, hscr⟩, by row_room_at sub9, D, ⟨_, _, _, _, rfl, by row_room_at mem9, ⟨_, _, _, _, rfl, by row_room_at mem9⟩, .nil⟩⟩
  | false =>
    have hlv1 : svs.length ≤ 100 := by rw [h1.length]; exact hl1
    have hlv2 : rvs.length ≤ 100 := by rw [h2.length]; exact hl2
    k_steps
    (with_unfolding_all refine' comp_list (vs := rvs) (nn := nr) (fun i ys tl => All2 (PairIn tl T tl) ys ((rcv.take i).map fun x => (x, goneD))) ?qhh ?qF ?qN ?qhl ?qhn ?qh0 ?qhx ?qhkd ?qturn ?qdone)
    case qhh => rfl
    case qF => assumption
    case qN => assumption
    case qhl => row_room_at mem9
    case qhn => rw [sizeLine_eq]; omega
    case qh0 => exact .nil
    case qhx => intro C'; rfl
    case qhkd => intro C'; rfl
    case qturn =>
      intro C i v ys tl own h tk h₁ tk₁ oC m₂ E' hv hK hys ht ho hoC hN hx F₁ N₁
      simp only [List.cons_append] at N₁
      obtain ⟨x, hxl, hxi⟩ := h2.get hv
      refine growTurn_nil ?_
      (try show wpAny _ _ _ _ _ _)
      k_fold
      k_steps
      rename_i E1 _ _ l1 _ E2 _ _ l2 _ _ N8
      have m1' : AllLt E1 ((q, instObj 235 qd) :: (qd, dictOf (qEs k t room tr b sl rl true) 5) :: (b, listOf buf.toArray nb) :: (sl, listOf svs.toArray ns) :: (rl, listOf rvs.toArray nr) :: ((rest ++ tl) ++ (C, oC) :: own)) := l1
      have m2' : AllLt E2 ((E1, tupO [] 0) :: (q, instObj 235 qd) :: (qd, dictOf (qEs k t room tr b sl rl true) 5) :: (b, listOf buf.toArray nb) :: (sl, listOf svs.toArray ns) :: (rl, listOf rvs.toArray nr) :: ((rest ++ tl) ++ (C, oC) :: own)) := l2
      obtain ⟨t9, N9⟩ : ∃ t9, News _ _ _ ((E2, tupO [v, .ref E1] 0) :: (E1, tupO [.str (Str.ofString "received") t9, .none, .bool false] 0) :: (q, instObj 235 qd) :: (qd, dictOf (qEs k t room tr b sl rl true) 5) :: (b, listOf buf.toArray nb) :: (sl, listOf svs.toArray ns) :: (rl, listOf rvs.toArray nr) :: ((rest ++ tl) ++ (C, oC) :: own)) := ⟨_, News.sub N8 (by row_room_at sub9)⟩
      refine CGrow.intro [(E2, tupO [v, .ref E1] 0), (E1, tupO [.str (Str.ofString "received") t9, .none, .bool false] 0)] (by assumption) N9 (by row_room_at sub9) hN
        (offCons (freshOff m2' (by row_room_at sub9)) (offCons (freshOff m1' (by row_room_at sub9)) offNil))
        (offCons (freshOff m2' (by row_room_at sub9)) (offCons (freshOff m1' (by row_room_at sub9)) offNil))
        (offCons (freshOff' (o := oC) m2' (by row_room_at mem9) (by row_room_at sub9)) (offCons (freshOff' (o := oC) m1' (by row_room_at mem9) (by row_room_at sub9)) offNil)) ?_
      rw [take_snoc hxl, List.map_append]
      exact All2.append (hK.mono fun _ _ h => h.mono (fun p hp => memTail (memTail hp)) (fun _ h => h) (fun p hp => memTail (memTail hp))) (.cons ⟨E2, 0, v, .ref E1, rfl, memHead, hxi, by row_room_at rin9⟩ .nil)
    case qdone =>
      intro s₂ D1 ys1 tl1 c1 h' tk hs ht N₁ hD hK1
      obtain ⟨hh, rfl⟩ := hs
      unfold finA
      intro F₁
      rw [h2.length, List.take_length] at hK1
      replace N₁ := News.sub (l' := (D1, listOf (List.toArray ys1) c1) :: (q, instObj 235 qd) :: (qd, dictOf (qEs k t room tr b sl rl true) 5) :: (b, listOf buf.toArray nb) :: (sl, listOf svs.toArray ns) :: (rl, listOf rvs.toArray nr) :: (tl1 ++ rest)) N₁ (by row_room_at sub9)
      have hoffT : ∀ p ∈ tl1, ∀ b' ∈ [q, qd, b, sl, rl], p.1 ≠ b' := fun p hp b' hb' => ht p hp b' (by
        have : [q, qd, b, sl, rl].Sublist (List.map (·.1) ((q, instObj 235 qd) :: (qd, dictOf (qEs k t room tr b sl rl true) 5) :: (b, listOf buf.toArray nb) :: (sl, listOf svs.toArray ns) :: (rl, listOf rvs.toArray nr) :: rest)) := by
          simp only [List.map_cons]
          row_room_at sl9
        exact this.subset hb')
      have htr : OwnOff tl1 (rest.map (·.1)) := fun p hp b' hb' => ht p hp b' (memTail (memTail (memTail (memTail (memTail hb')))))
      simp only [List.cons_append, List.forall_mem_cons] at hD
      obtain ⟨d1, d2, d3, d4, d5, d6⟩ := hD
      have hs1 : ∀ p ∈ rest, p ∈ tl1 ++ rest := fun p hp => memR hp
      have hc1 : ∀ p ∈ tl1, p ∈ tl1 ++ rest := fun p hp => memL hp
      have DA : Apart [D1, q, qd, b, sl, rl] (tl1 ++ rest) := by
        have hoffA : OwnOff (tl1 ++ rest) [q, qd, b, sl, rl] := offApp hoffT hoff
        have hoffB : ∀ p ∈ tl1 ++ rest, p.1 ≠ D1 := fun p hp => d6 p ((List.mem_append.mp hp).elim (fun h => memR h) (fun h => memL h))
        row_room_at apart9
      have hoffA := DA.off
      clear ht hoffT
      generalize hR1 : tl1 ++ rest = rest₁ at N₁ DA hoffA hs1 hc1
      k_steps
      (with_unfolding_all refine' comp_list (vs := svs) (nn := ns) (fun i ys tl => All2 (PairIn tl T tl) ys ((snd.take i).map fun x => (x, panicD sClosed))) ?qhh ?qF ?qN ?qhl ?qhn ?qh0 ?qhx ?qhkd ?qturn ?qdone)
      case qhh => rfl
      case qF => assumption
      case qN => assumption
      case qhl => row_room_at mem9
      case qhn => rw [sizeLine_eq]; omega
      case qh0 => exact .nil
      case qhx => intro C'; rfl
      case qhkd => intro C'; rfl
      case qturn =>
        intro C i v ys tl own h tk h₁ tk₁ oC m₂ E' hv hK hys ht ho hoC hN hx F₁ N₁
        simp only [List.cons_append] at N₁
        obtain ⟨x, hxl, hxi⟩ := h1.get hv
        refine growTurn_nil ?_
        (try show wpAny _ _ _ _ _ _)
        k_fold
        k_steps
        rename_i E1 _ _ l1 _ E2 _ _ l2 _ _ N8
        have m1' : AllLt E1 ((D1, listOf (List.toArray ys1) c1) :: (q, instObj 235 qd) :: (qd, dictOf (qEs k t room tr b sl rl true) 5) :: (b, listOf buf.toArray nb) :: (sl, listOf svs.toArray ns) :: (rl, listOf rvs.toArray nr) :: ((rest₁ ++ tl) ++ (C, oC) :: own)) := l1
        have m2' : AllLt E2 ((E1, tupO [] 0) :: (D1, listOf (List.toArray ys1) c1) :: (q, instObj 235 qd) :: (qd, dictOf (qEs k t room tr b sl rl true) 5) :: (b, listOf buf.toArray nb) :: (sl, listOf svs.toArray ns) :: (rl, listOf rvs.toArray nr) :: ((rest₁ ++ tl) ++ (C, oC) :: own)) := l2
        obtain ⟨t9, t8, N9⟩ : ∃ t9 t8, News _ _ _ ((E2, tupO [v, .ref E1] 0) :: (E1, tupO [.str (Str.ofString "panic") t9, .str sClosed t8] 0) :: (D1, listOf (List.toArray ys1) c1) :: (q, instObj 235 qd) :: (qd, dictOf (qEs k t room tr b sl rl true) 5) :: (b, listOf buf.toArray nb) :: (sl, listOf svs.toArray ns) :: (rl, listOf rvs.toArray nr) :: ((rest₁ ++ tl) ++ (C, oC) :: own)) := ⟨_, _, News.sub N8 (by row_room_at sub9)⟩
        refine CGrow.intro [(E2, tupO [v, .ref E1] 0), (E1, tupO [.str (Str.ofString "panic") t9, .str sClosed t8] 0)] (by assumption) N9 (by row_room_at sub9) hN
          (offCons (freshOff m2' (by row_room_at sub9)) (offCons (freshOff m1' (by row_room_at sub9)) offNil))
          (offCons (freshOff m2' (by row_room_at sub9)) (offCons (freshOff m1' (by row_room_at sub9)) offNil))
          (offCons (freshOff' (o := oC) m2' (by row_room_at mem9) (by row_room_at sub9)) (offCons (freshOff' (o := oC) m1' (by row_room_at mem9) (by row_room_at sub9)) offNil)) ?_
        rw [take_snoc hxl, List.map_append]
        exact All2.append (hK.mono fun _ _ h => h.mono (fun p hp => memTail (memTail hp)) (fun _ h => h) (fun p hp => memTail (memTail hp))) (.cons ⟨E2, 0, v, .ref E1, rfl, memHead, hxi, by row_room_at rin9⟩ .nil)
      case qdone =>
        intro s₃ D2 ys2 tl2 c2 h'' tk hs ht N₁ hD hK2
        obtain ⟨hh, rfl⟩ := hs
        unfold finE
        intro F₁
        rw [h1.length, List.take_length] at hK2
        replace N₁ := News.sub (l' := (D1, listOf (List.toArray ys1) c1) :: (D2, listOf (List.toArray ys2) c2) :: (q, instObj 235 qd) :: (qd, dictOf (qEs k t room tr b sl rl true) 5) :: (b, listOf buf.toArray nb) :: (sl, listOf svs.toArray ns) :: (rl, listOf rvs.toArray nr) :: (tl2 ++ rest₁)) N₁ (by row_room_at sub9)
        have hoffT : ∀ p ∈ tl2, ∀ b' ∈ [D1, q, qd, b, sl, rl], p.1 ≠ b' := fun p hp b' hb' => ht p hp b' (by
          have : [D1, q, qd, b, sl, rl].Sublist (List.map (·.1) ((D1, listOf (List.toArray ys1) c1) :: (q, instObj 235 qd) :: (qd, dictOf (qEs k t room tr b sl rl true) 5) :: (b, listOf buf.toArray nb) :: (sl, listOf svs.toArray ns) :: (rl, listOf rvs.toArray nr) :: rest₁)) := by
            simp only [List.map_cons]
            row_room_at sl9
          exact this.subset hb')
        have htr2 : OwnOff tl2 (rest₁.map (·.1)) := fun p hp b' hb' => ht p hp b' (memTail (memTail (memTail (memTail (memTail (memTail hb'))))))
        simp only [List.cons_append, List.forall_mem_cons] at hD
        obtain ⟨d0, d1, d2, d3, d4, d5, d6⟩ := hD
        have hs2 : ∀ p ∈ rest₁, p ∈ tl2 ++ rest₁ := fun p hp => memR hp
        have hc2 : ∀ p ∈ tl2, p ∈ tl2 ++ rest₁ := fun p hp => memL hp
        have DB : Apart [D1, D2, q, qd, b, sl, rl] (tl2 ++ rest₁) := by
          have hoffA : OwnOff (tl2 ++ rest₁) [D1, q, qd, b, sl, rl] := offApp hoffT hoffA
          have hoffB : ∀ p ∈ tl2 ++ rest₁, p.1 ≠ D2 := fun p hp => d6 p ((List.mem_append.mp hp).elim (fun h => memR h) (fun h => memL h))
          row_room_at apart9
        have htr3 : OwnOff tl2 (rest.map (·.1)) := fun p hp b' hb' => by
          obtain ⟨z, hz, rfl⟩ := List.mem_map.mp hb'
          exact htr2 p hp z.1 (List.mem_map.mpr ⟨z, hs1 z hz, rfl⟩)
        have hoffB := DB.off
        clear ht hoffT hoffA DA
        generalize hR2 : tl2 ++ rest₁ = rest₂ at N₁ DB hoffB hs2 hc2
        have hz1 : ys1.length ≤ 100 := by rw [hK1.length, List.length_map]; exact hl2
        have hz2 : ys2.length ≤ 100 := by rw [hK2.length, List.length_map]; exact hl1
        k_steps
        refine goOn ?_
        (with_unfolding_all refine' ext_led (D := D1) (b := D2) (vs := ys1) (us := ys2) (n := c1) (n2 := c2) (r := (D2, listOf (List.toArray ys2) c2) :: (q, instObj 235 qd) :: (qd, dictOf (qEs k t room tr b sl rl true) 5) :: (b, listOf buf.toArray nb) :: (sl, listOf svs.toArray ns) :: (rl, listOf rvs.toArray nr) :: rest₂) ?qF ?qN ?qhb ?qhr ?qhz ?_)
        case qF => assumption
        case qN => assumption
        case qhb => row_room_at mem9
        case qhr => k_all
        case qhz => omega
        intro h3 c3 F3 N3
        clear N₁
        k_steps
        rename_i rl2 _ _ m1 _ sl2 _ _ m2 _ D3 _ _ m3 _ _ _ _ D4 _ _ m4 _ D5 _ _ m5 _ _ N8
        obtain ⟨t8, N9⟩ : ∃ t8, News _ _ _ ((D5, listOf (List.toArray [.ref D4]) 0) :: (D4, tupO [.str (Str.ofString "done") t8] 0) :: (sl2, listOf (List.toArray []) 0) :: (rl2, listOf (List.toArray []) 0) :: (D1, listOf (List.toArray (ys1 ++ ys2)) c3) :: (q, instObj 235 qd) :: (qd, dictOf (qEs k t room tr b sl2 rl2 true) 5) :: (b, listOf buf.toArray nb) :: rest₂) := ⟨_, News.sub N8 (by row_room_at sub9)⟩
        clear N8
        have DC : Apart [D5, D4, sl2, rl2, D1, q, qd, b] rest₂ := by row_room_at apart9
        clear DB hoffB
        have hoffC := DC.off
        have hps : All2 (PairIn (tl2 ++ tl1) T (tl2 ++ tl1)) (ys1 ++ ys2) (rcv.map (fun x => (x, goneD)) ++ snd.map (fun x => (x, panicD sClosed))) :=
          All2.append (hK1.mono fun _ _ h => h.mono (fun p hp => memR hp) (fun _ h => h) (fun p hp => memR hp)) (hK2.mono fun _ _ h => h.mono (fun p hp => memL hp) (fun _ h => h) (fun p hp => memL hp))
        have hs3 : ∀ p ∈ rest, p ∈ rest₂ := fun p hp => hs2 p (hs1 p hp)
        have hU3 : ∀ p ∈ tl2 ++ tl1, p ∈ rest₂ := subApp hc2 fun p hp => hs2 p (hc1 p hp)
        have hUo : OwnOff (tl2 ++ tl1) (rest.map (·.1)) := offApp htr3 htr
        have hzz : (rcv.map (fun x => (x, goneD)) ++ snd.map (fun x => (x, panicD sClosed))).length ≤ 200 := by rw [List.length_append, List.length_map, List.length_map]; omega
        refine goOn ?_
        (try k_fold)
        refine' CallSpec.callU (once_spec (rl := D1) (led := (D5, listOf (List.toArray [.ref D4]) 0) :: (D4, tupO [.str (Str.ofString "done") t8] 0) :: (sl2, listOf (List.toArray []) 0) :: (rl2, listOf (List.toArray []) 0) :: (D1, listOf (List.toArray (ys1 ++ ys2)) c3) :: (q, instObj 235 qd) :: (qd, dictOf (qEs k t room tr b sl2 rl2 true) 5) :: (b, listOf buf.toArray nb) :: rest₂) (T := tl2 ++ tl1) (W := T) (U := tl2 ++ tl1) ?qp1 ?qp2 ?qp1 hps ?qp4 hzz) U_once_spec ?qhh ?qhf ?qhdp ?qhu ?qB ?qF ?qX ?qN ?qhs ?qT ?qhk ?_
        row_room_at sides9
        case qp1 => exact fun p hp => memTail (memTail (memTail (memTail (memTail (memTail (memTail (memTail (hU3 p hp))))))))
        case qp2 => exact fun p hp => memTail (memTail (memTail (memTail (memTail (memTail (memTail (memTail (hs3 p (hT p hp)))))))))
        case qp4 => row_room_at mem9
        intro lf fvs cf rc hro DF hfs h5 tk' F' N'
        have DG : Apart ([lf] ++ List.map (·.1) ((D5, listOf (List.toArray [.ref D4]) 0) :: (D4, tupO [.str (Str.ofString "done") t8] 0) :: (sl2, listOf (List.toArray []) 0) :: (rl2, listOf (List.toArray []) 0) :: (D1, listOf (List.toArray (ys1 ++ ys2)) c3) :: (q, instObj 235 qd) :: (qd, dictOf (qEs k t room tr b sl2 rl2 true) 5) :: [(b, listOf buf.toArray nb)])) (rc ++ rest₂) := by
          refine DF.join (by row_room_at sub9) ?_ (by row_room_at sub9)
          show Apart [D5, D4, sl2, rl2, D1, q, qd, b] _
          have hrq : OwnOff rc [D5, D4, sl2, rl2, D1, q, qd, b] := fun p hp b' hb' => hro p hp b' (by
            have : [D5, D4, sl2, rl2, D1, q, qd, b].Sublist (List.map (·.1) ((D5, listOf (List.toArray [.ref D4]) 0) :: (D4, tupO [.str (Str.ofString "done") t8] 0) :: (sl2, listOf (List.toArray []) 0) :: (rl2, listOf (List.toArray []) 0) :: (D1, listOf (List.toArray (ys1 ++ ys2)) c3) :: (q, instObj 235 qd) :: (qd, dictOf (qEs k t room tr b sl2 rl2 true) 5) :: (b, listOf buf.toArray nb) :: rest₂)) := by
              simp only [List.map_cons]
              row_room_at sl9
            exact this.subset hb')
          exact ⟨DC.ne, offApp hrq hoffC⟩
        change Apart [lf, D5, D4, sl2, rl2, D1, q, qd, b] _ at DG
        have hrr : OwnOff rc (rest.map (·.1)) := fun p hp b' hb' => by
          obtain ⟨z, hz, rfl⟩ := List.mem_map.mp hb'
          exact hro p hp z.1 (by repeat (first | exact List.mem_map.mpr ⟨z, hs3 z hz, rfl⟩ | refine memTail ?_))
        replace N' := News.sub (l' := (lf, listOf (List.toArray fvs) cf) :: (D5, listOf (List.toArray [.ref D4]) 0) :: (D4, tupO [.str (Str.ofString "done") t8] 0) :: (sl2, listOf (List.toArray []) 0) :: (rl2, listOf (List.toArray []) 0) :: (D1, listOf (List.toArray (ys1 ++ ys2)) c3) :: (q, instObj 235 qd) :: (qd, dictOf (qEs k t room tr b sl2 rl2 true) 5) :: (b, listOf buf.toArray nb) :: (rc ++ rest₂)) N' (by row_room_at sub9)
        have hs4 : ∀ p ∈ rest₂, p ∈ rc ++ rest₂ := fun p hp => memR hp
        have hc4 : ∀ p ∈ rc, p ∈ rc ++ rest₂ := fun p hp => memL hp
        clear DF DC hoffC hro N9
        have hoffG := DG.off
        generalize hR3 : rc ++ rest₂ = rest₃ at N' DG hoffG hs4 hc4
        have hfz : fvs.length ≤ 200 := by rw [hfs.length]; exact Nat.le_trans (onceF_len _).1 hzz
        have hU4 : ∀ p ∈ tl2 ++ tl1, p ∈ rest₃ := fun p hp => hs4 p (hU3 p hp)
        have hT4 : ∀ p ∈ T, p ∈ rest₃ := fun p hp => hs4 p (hs3 p (hT p hp))
        generalize hPS : (onceF (rcv.map (fun x => (x, goneD)) ++ snd.map (fun x => (x, panicD sClosed)))).1 = PS at hfs
        (with_unfolding_all refine' comp_listT (vs := fvs) (nn := cf) (fun i ys tl => All2 (WRowIn (tl ++ (tl2 ++ tl1))) ys ((PS.take i).map fun p => wok p.1 p.2)) ?qhh ?qF ?qN ?qhl ?qhn ?qh0 ?qhv ?qha ?qhx ?qhkd ?qturn ?qdone)
        case qhh => rfl
        case qF => assumption
        case qN => assumption
        case qhl => row_room_at mem9
        case qhn => rw [sizeLine_eq]; omega
        case qh0 => exact .nil
        case qhv =>
          intro i v hv
          obtain ⟨p, hp, pa, pc, wv, tv, rfl, hm, _⟩ := hfs.get hv
          have hm' := hc4 _ hm
          exact ⟨pa, [wv, tv], pc, rfl, by row_room_at mem9, rfl⟩
        case qha => rfl
        case qhx =>
          intro C' e he
          rcases List.mem_cons.mp he with rfl | he
          · rfl
          · rw [List.mem_singleton.mp he]; rfl
        case qhkd => intro C'; rfl
        case qturn =>
          intro C i Tt xs nx ys tl own h tk h₁ tk₁ oC m₁ m₂ E' hv hm hK hys ht ho hoC hm2 hN F₁ N₁
          obtain ⟨p, hp, pa, pc, wv, tv, e, hmm, hw, hwd⟩ := hfs.get hv
          cases e
          replace hmm := hc4 _ hmm
          have e1 := (N₁ _ (memL (memL hm))).1
          have e2 := (N₁ (Tt, tupO [wv, tv] pc) (memL (memL (by row_room_at mem9)))).1
          rw [e1] at e2
          injection Option.some.inj e2 with _ _ e4 _
          injection e4 with e5 e6
          have e7 : xs = [wv, tv] := by simpa using congrArg Array.toList e5
          subst e7 e6
          obtain ⟨wa, wn, wtg, wtc, wts, rfl, hwm⟩ := hw
          replace hwm := hT4 _ hwm
          have hx1 : m₂ (Str.ofString "waiter") = some (.ref wa) := by rw [hm2]; rfl
          have hx2 : m₂ (Str.ofString "what") = some tv := by rw [hm2]; rfl
          clear hm2 e1 e2 e5
          simp only [List.cons_append] at N₁
          refine growTurn_nil ?_
          (try show wpAny _ _ _ _ _ _)
          k_fold
          k_steps
          rename_i D7 _ _ l7 _ _ _ _ kF7 kN7 _ _
          have m7 : AllLt D7 ((lf, listOf (List.toArray fvs) cf) :: (D5, listOf (List.toArray [.ref D4]) 0) :: (D4, tupO [.str (Str.ofString "done") t8] 0) :: (sl2, listOf (List.toArray []) 0) :: (rl2, listOf (List.toArray []) 0) :: (D1, listOf (List.toArray (ys1 ++ ys2)) c3) :: (q, instObj 235 qd) :: (qd, dictOf (qEs k t room tr b sl2 rl2 true) 5) :: (b, listOf buf.toArray nb) :: ((rest₃ ++ tl) ++ (C, oC) :: own)) := l7
          clear l7
          obtain ⟨t7, N9⟩ : ∃ t7, News _ _ _ ((D7, tupO [.str (Str.ofString "woken") t7, .int p.1.g wtg, optV p.1.c wtc, optV p.1.s wts, tv] 0) :: (lf, listOf (List.toArray fvs) cf) :: (D5, listOf (List.toArray [.ref D4]) 0) :: (D4, tupO [.str (Str.ofString "done") t8] 0) :: (sl2, listOf (List.toArray []) 0) :: (rl2, listOf (List.toArray []) 0) :: (D1, listOf (List.toArray (ys1 ++ ys2)) c3) :: (q, instObj 235 qd) :: (qd, dictOf (qEs k t room tr b sl2 rl2 true) 5) :: (b, listOf buf.toArray nb) :: ((rest₃ ++ tl) ++ (C, oC) :: own)) := ⟨_, News.sub kN7 (by row_room_at sub9)⟩
          refine CGrow.intro [(D7, tupO [.str (Str.ofString "woken") t7, .int p.1.g wtg, optV p.1.c wtc, optV p.1.s wts, tv] 0)] (by assumption) N9 (by row_room_at sub9) hN
            (offCons (freshOff m7 (by row_room_at sub9)) offNil) (offCons (freshOff m7 (by row_room_at sub9)) offNil) (offCons (freshOff' (o := oC) m7 (by row_room_at mem9) (by row_room_at sub9)) offNil) ?_
          rw [take_snoc hp, List.map_append]
          exact All2.append (hK.mono fun _ _ h => h.mono (subApp (fun p hp => memL (memTail hp)) fun p hp => memR hp)) (.cons ⟨D7, 0, t7, wtg, wtc, wts, tv, rfl, memL memHead, hwd.mono fun p hp => memR hp⟩ .nil)
        case qdone =>
          intro s₄ D6 ys3 tl3 c4 h6 tk hs ht N₁ hD hK3
          obtain ⟨hh, rfl⟩ := hs
          unfold finE
          intro F₁
          rw [hfs.length, List.take_length] at hK3
          replace N₁ := News.sub (l' := (D6, listOf (List.toArray ys3) c4) :: (lf, listOf (List.toArray fvs) cf) :: (D5, listOf (List.toArray [.ref D4]) 0) :: (D4, tupO [.str (Str.ofString "done") t8] 0) :: (sl2, listOf (List.toArray []) 0) :: (rl2, listOf (List.toArray []) 0) :: (D1, listOf (List.toArray (ys1 ++ ys2)) c3) :: (q, instObj 235 qd) :: (qd, dictOf (qEs k t room tr b sl2 rl2 true) 5) :: (b, listOf buf.toArray nb) :: (rest₃ ++ tl3)) N₁ (by row_room_at sub9)
          simp only [List.cons_append, List.forall_mem_cons] at hD
          obtain ⟨d0, d1, d2, d3, d4, d5, d6, d7, d8, d9⟩ := hD
          have hz3 : ys3.length ≤ 200 := by rw [hK3.length, List.length_map, ← hfs.length]; exact hfz
          have hs5 : ∀ p ∈ rest₃, p ∈ rest₃ ++ tl3 := fun p hp => memL hp
          have hc5 : ∀ p ∈ tl3, p ∈ rest₃ ++ tl3 := fun p hp => memR hp
          generalize hR4 : rest₃ ++ tl3 = rest₄ at N₁ hs5 hc5 d9
          refine add_led F₁ N₁ (by row_room_at mem9) (by row_room_at mem9) (by simp only [List.length_cons, List.length_nil]; omega) ?_
          intro D8 h8 F8 N8 l8
          k_steps
          refine ret _ _ _ _ (by assumption) (by assumption) ?_
          have hT5 : ∀ p ∈ T, p ∈ rest₄ := fun p hp => hs5 p (hT4 p hp)
          have hs6 : ∀ p ∈ rest, p ∈ rest₄ := fun p hp => hs5 p (hs4 p (hs3 p hp))
          have hU5 : ∀ p ∈ tl2 ++ tl1, p ∈ rest₄ := fun p hp => hs5 p (hU4 p hp)
          have hoffH := offSub hoffG fun p hp => hs4 p (hs3 p hp)
          simp only [List.forall_mem_cons] at l8
          obtain ⟨e0, e1, e2, e3, e4, e5, e6, e7, e8, e9, e10⟩ := l8
          have n8 : ∀ p ∈ rest, p.1 ≠ D8 := fun p hp => Nat.ne_of_lt (e10 p (hs6 p hp))
          have n4 : ∀ p ∈ rest, p.1 ≠ D4 := fun p hp => hoffH p hp D4 (memTail (memTail memHead))
          have hU6 : OwnOff (tl2 ++ tl1) [q, qd, b, sl2, rl2] := offSub (offAs hoffG (by row_room_at sub9)) hU4
          have hA6 : OwnOff tl3 [q, qd, b, sl2, rl2] := fun p hp b' hb' => ht p hp b' (by
            simp only [List.map_cons]
            have : b' ∈ [q, qd, b, sl2, rl2] := hb'
            simp only [List.mem_cons, List.mem_nil_iff, or_false] at this ⊢
            rcases this with h | h | h | h | h <;> simp only [h, true_or, or_true])
          have DH : Apart [q, qd, b, sl2, rl2] rest := by
            clear hoffG hU6 hA6
            row_room_at apart9
          simp only [qClose, Bool.false_eq_true, if_false]
          rw [hPS]
          refine ⟨sl2, rl2, _, _, _, [], [], ⟨by row_room_at mem9, by row_room_at mem9, by row_room_at mem9, by row_room_at mem9, by row_room_at mem9, .nil, .nil, hscb, noMem, noMem⟩, fun p hp => ?_, DH, ⟨D8, .ref D4, ys3, _, rfl, by row_room_at mem9, ⟨_, _, _, rfl, by row_room_at mem9⟩, ?_⟩⟩
          · have := hs6 p hp
            row_room_at mem9
          · refine hK3.mono fun _ _ h => h.mono fun p hp => mem_offOf.mpr ⟨?_, fun hb => ?_⟩
            · have : p ∈ rest₄ := (List.mem_append.mp hp).elim (hc5 p) (hU5 p)
              row_room_at mem9
            · rcases List.mem_append.mp hb with hb | hb
              · exact (List.mem_append.mp hp).elim (fun h => hA6 p h _ hb rfl) (fun h => hU6 p h _ hb rfl)
              · rcases List.mem_append.mp hp with hp | hp
                · obtain ⟨z, hz, e⟩ := List.mem_map.mp hb
                  exact ht p hp z.1 (List.mem_map.mpr ⟨z, (by have := hs4 z (hs3 z hz); row_room_at mem9), rfl⟩) e.symm
                · exact hUo p hp _ hb rfl
end
section
open PySem PySem.W PySem.Calls PyProof.Rows
set_option maxRecDepth 100000
-- the plain law: the two kinds of channels, with no program in sight
theorem send_ne_take : sSend ≠ sTake := by decide +kernel
noncomputable def toW (e : Ent) : Wt := ⟨e.g, if e.k = sTake ∧ e.s.isSome = true then .none else e.v, e.s.map fun _ => e.c, e.s⟩
noncomputable def qv (es : List Ent) (n : Int) (room : Int) (held : List Value) (cl : Bool) : QSt :=
  ⟨room, held, (es.filter (entQ sSend n)).map toW, (es.filter (entQ sTake n)).map toW, cl⟩
structure Good (es : List Ent) : Prop where
  kd : ∀ e ∈ es, e.k = sSend ∨ e.k = sTake
  one : es.Pairwise fun e e' => e.g = e'.g → e.s.isSome = true
  sel : ∀ e ∈ es, ∀ e' ∈ es, e.g = e'.g → e.s = e'.s
  gs : ∀ e ∈ es, ∀ e' ∈ es, e.s = e'.s → e.s.isSome = true → e.g = e'.g
theorem Good.sub {es es' : List Ent} (h : Good es) (s : es'.Sublist es) : Good es' where
  kd := fun e he => h.kd e (s.subset he)
  one := h.one.sublist s
  sel := fun e he e' he' => h.sel e (s.subset he) e' (s.subset he')
  gs := fun e he e' he' => h.gs e (s.subset he) e' (s.subset he')
theorem Good.filter {es : List Ent} (h : Good es) (p : Ent → Bool) : Good (es.filter p) := h.sub List.filter_sublist
theorem Good.nil : Good [] := ⟨noMem, .nil, noMem, noMem⟩

theorem map_keepS {l : List Ent} {t : Int} : (l.filter fun x => x.s != some t).map toW = keepS (some t) (l.map toW) := by
  induction l with
  | nil => rfl
  | cons x l ih =>
    simp only [keepS, List.map_cons, List.filter_cons, toW] at ih ⊢
    split
    · rw [List.map_cons, ih]; rfl
    · exact ih
theorem find_split {es : List Ent} {q : Ent → Bool} {e : Ent} (h : es.find? q = some e) : q e = true ∧ ∃ l₁ l₂, es = l₁ ++ e :: l₂ ∧ ∀ x ∈ l₁, q x = false := by
  obtain ⟨a, l₁, l₂, b, c⟩ := List.find?_eq_some_iff_append.mp h
  exact ⟨a, l₁, l₂, b, fun x hx => by simpa using c x hx⟩
theorem Good.alone {l₁ l₂ : List Ent} {e : Ent} (G : Good (l₁ ++ e :: l₂)) (hs : e.s = none) : (∀ x ∈ l₁, x.g ≠ e.g) ∧ ∀ x ∈ l₂, x.g ≠ e.g := by
  have h1 := List.pairwise_append.mp G.one
  have h2 := List.pairwise_cons.mp h1.2.1
  refine ⟨fun x hx hg => ?_, fun x hx hg => ?_⟩
  · have h3 := h1.2.2 x hx e (.head _) hg
    rw [G.sel x (List.mem_append_left _ hx) e (List.mem_append_right _ (.head _)) hg, hs] at h3
    cases h3
  · have h3 := h2.1 x hx hg.symm
    rw [hs] at h3; cases h3
theorem filter_ne {l : List Ent} {g : Int} (h : ∀ x ∈ l, x.g ≠ g) : (l.filter fun x => x.g != g) = l :=
  List.filter_eq_self.mpr fun x hx => by simpa using h x hx
theorem Good.gsel {es : List Ent} (G : Good es) {e : Ent} (he : e ∈ es) {t : Int} (hs : e.s = some t) {x : Ent} (hx : x ∈ es) : (x.g != e.g) = (x.s != some t) := by
  have h1 := G.sel x hx e he
  have h2 := G.gs x hx e he
  by_cases h : x.g = e.g
  · rw [h1 h, hs, h]; simp
  · have : x.s ≠ some t := fun h3 => h (h2 (by rw [h3, hs]) (by rw [h3]; rfl))
    rw [bne_iff_ne.mpr h, bne_iff_ne.mpr this]
/-- one goroutine goes on: the queues of another kind or channel -/
theorem wake_other {es : List Ent} (G : Good es) {q q' : Ent → Bool} {e : Ent} (h : es.find? q = some e) (hq : q' e = false) :
    ((es.filter fun x => x.g != e.g).filter q').map toW = keepS e.s ((es.filter q').map toW) := by
  obtain ⟨hqe, l₁, l₂, rfl, hl⟩ := find_split h
  have hm : e ∈ l₁ ++ e :: l₂ := List.mem_append_right _ (.head _)
  cases hs : e.s with
  | none =>
    obtain ⟨a, b⟩ := G.alone hs
    have e1 : ((l₁ ++ e :: l₂).filter fun x => x.g != e.g) = l₁ ++ l₂ := by
      rw [List.filter_append, List.filter_cons, filter_ne a, filter_ne b]; simp
    rw [e1]
    simp [keepS, List.filter_append, List.filter_cons, hq]
  | some t =>
    rw [List.filter_filter, ← map_keepS, List.filter_filter]
    congr 1
    refine List.filter_congr fun x hx => ?_
    rw [G.gsel hm hs hx, Bool.and_comm]
/-- the queue of the one that goes on -/
theorem wake_same {es : List Ent} (G : Good es) {q : Ent → Bool} {e : Ent} (h : es.find? q = some e) :
    ∃ rs, (es.filter q).map toW = toW e :: rs ∧ ((es.filter fun x => x.g != e.g).filter q).map toW = keepS e.s rs := by
  obtain ⟨hqe, l₁, l₂, rfl, hl⟩ := find_split h
  have hm : e ∈ l₁ ++ e :: l₂ := List.mem_append_right _ (.head _)
  have e0 : l₁.filter q = [] := List.filter_eq_nil_iff.mpr fun x hx => by simp [hl x hx]
  have e2 : (l₁ ++ e :: l₂).filter q = e :: l₂.filter q := by rw [List.filter_append, e0, List.filter_cons, hqe]; simp
  refine ⟨(l₂.filter q).map toW, by rw [e2]; rfl, ?_⟩
  cases hs : e.s with
  | none =>
    obtain ⟨a, b⟩ := G.alone hs
    have e1 : ((l₁ ++ e :: l₂).filter fun x => x.g != e.g) = l₁ ++ l₂ := by
      rw [List.filter_append, List.filter_cons, filter_ne a, filter_ne b]; simp
    rw [e1, List.filter_append, e0]
    rfl
  | some t =>
    have e3 : ((l₁ ++ e :: l₂).filter fun x => x.g != e.g).filter q = ((l₁ ++ e :: l₂).filter q).filter fun x => x.s != some t := by
      rw [List.filter_filter, List.filter_filter]
      refine List.filter_congr fun x hx => ?_
      rw [G.gsel hm hs hx, Bool.and_comm]
    rw [e3, e2, List.filter_cons]
    simp only [hs, bne_self_eq_false, Bool.false_eq_true, if_false]
    exact map_keepS
theorem entQ_ne {kd kd' : Str} {n n' : Int} {e : Ent} (h : entQ kd n e = true) (hne : kd' ≠ kd ∨ n' ≠ n) : entQ kd' n' e = false := by
  simp only [entQ, Bool.and_eq_true, decide_eq_true_eq] at h
  simp only [entQ, Bool.and_eq_false_iff, decide_eq_false_iff_not]
  rcases hne with h' | h'
  · exact .inl (fun q => h' (q.symm.trans h.1))
  · exact .inr (fun q => h' (q.symm.trans h.2))
theorem isSome_filter {es : List Ent} {q : Ent → Bool} : (es.find? q).isSome = !((es.filter q).map toW).isEmpty := by
  rw [← List.head?_filter]
  cases es.filter q <;> rfl
theorem filter_none {es : List Ent} {q : Ent → Bool} (h : es.find? q = none) : (es.filter q).map toW = [] := by
  rw [← List.head?_filter] at h
  cases he : es.filter q with
  | nil => rfl
  | cons a l => rw [he] at h; cases h
end
section
open PySem PySem.W PySem.Calls PyProof.Rows
set_option maxRecDepth 100000
-- the scene: all of it in one ledger
noncomputable def Fun (led : List Cell) : Prop := ∀ p ∈ led, ∀ p' ∈ led, p.1 = p'.1 → p = p'
theorem News.fn {h₀ h : Heap} {L : Addr} {led : List Cell} (N : News h₀ L h led) : Fun led := by
  rintro ⟨a, o⟩ hp ⟨b, o'⟩ hq e
  have e : a = b := e
  subst e
  have h1 := (N _ hp).1
  have h2 := (N _ hq).1
  rw [show h.get? a = some o from h1] at h2
  cases h2
  rfl
theorem CallSpec.weak {D U : Nat} {w : World} {f : Addr} {args : List Value} {pre led : List Cell} {Post Post' : Value → List Cell → Prop} (S : CallSpec D U w f args pre Post) (hs : ∀ p ∈ pre, p ∈ led) (hp : ∀ r new, Fun new → Post r new → Post' r new) : CallSpec D U w f args led Post' := by
  intro gd cn cs a ccd cl outer A₀ base h₀ L m s p loose mean mg mb Q E B F X N T hk ret
  exact S gd cn cs a ccd cl outer A₀ base h₀ L m s p loose mean mg mb Q E B F X (News.sub N hs) T hk fun r new h' tk' F' N' h => ret r new h' tk' F' N' (hp r new (News.fn N') h)
structure SA where
  (P pd ch AL SD S QL NL : Addr)
  (C cd hl q qd b : Int → Addr)
  (kP : Nat → Int) (tP : Nat → Tok)
  (kC kQ : Int → Nat → Int) (tC tQ : Int → Nat → Tok)
  (tr trq nt : Int → Tok)
  (oS : Obj)
structure MV where
  (wl : Addr) (sl rl : Int → Addr)
noncomputable def fixR (A : SA) : List Addr := [A.P, A.pd, A.ch, A.C 0, A.cd 0, A.hl 0, A.C 1, A.cd 1, A.hl 1, A.q 0, A.qd 0, A.b 0, A.q 1, A.qd 1, A.b 1, A.AL, A.SD, A.S, A.QL, A.NL, 307, 314]
noncomputable def movR (M : MV) : List Addr := [M.wl, M.sl 0, M.rl 0, M.sl 1, M.rl 1]
noncomputable def roles (A : SA) (M : MV) : List Addr := movR M ++ fixR A
structure CaseD where
  (send : Bool) (n : Option Int) (v : Value)
noncomputable def qref (A : SA) : Option Int → Value
  | none => .none
  | some n => .ref (A.q n)
noncomputable abbrev sRecv : Str := Str.ofString "receive"
inductive CaseIn (A : SA) (T : List Cell) (v : Value) (c : CaseD) : Prop where
  | mk (a : _) (cnt : _) (tk : _) (h1 : v = .ref a) (h2 : (a, if c.send = true then tupO [.str sSend tk, qref A c.n, c.v] cnt else tupO [.str sRecv tk, qref A c.n] cnt) ∈ T) : CaseIn A T v c
theorem CaseIn.mono {A : SA} {T T' : List Cell} {v : Value} {c : CaseD} (h : CaseIn A T v c) (hs : ∀ p ∈ T, p ∈ T') : CaseIn A T' v c := by
  obtain ⟨a, cnt, tk, rfl, hm⟩ := h
  exact ⟨a, cnt, tk, rfl, hs _ hm⟩
inductive CasesIn (A : SA) (T : List Cell) (v : Value) (cs : List CaseD) : Prop where
  | mk (a : _) (cvs : _) (cnt : _) (h1 : v = .ref a) (h2 : (a, listOf (List.toArray cvs) cnt) ∈ T) (h3 : All2 (CaseIn A T) cvs cs) : CasesIn A T v cs
theorem CasesIn.mono {A : SA} {T T' : List Cell} {v : Value} {cs : List CaseD} (h : CasesIn A T v cs) (hs : ∀ p ∈ T, p ∈ T') : CasesIn A T' v cs := by
  obtain ⟨a, cvs, cnt, rfl, hm, h⟩ := h
  exact ⟨a, cvs, cnt, rfl, hs _ hm, h.mono fun _ _ h => h.mono hs⟩
structure St where
  es : List Ent
  held : Int → List Value
  cl : Int → Bool
  room : Int → Int
  q : Int → QSt
  asl : List Int
  sels : List (Int × List CaseD)
noncomputable def setI {α : Type} (f : Int → α) (n : Int) (x : α) : Int → α := fun j => if j = n then x else f j
theorem setI_same {α : Type} {f : Int → α} {n : Int} {x : α} : setI f n x n = x := if_pos rfl
theorem setI_ne {α : Type} {f : Int → α} {n j : Int} {x : α} (h : j ≠ n) : setI f n x j = f j := if_neg h
noncomputable abbrev Two (n : Int) : Prop := n = 0 ∨ n = 1
theorem Two.onM {f : Int → Addr} {l : List Addr} {n : Int} (hn : Two n) (h0 : f 0 ∈ l) (h1 : f 1 ∈ l) : f n ∈ l := by
  rcases hn with rfl | rfl
  · exact h0
  · exact h1
theorem WtIn.tups {led new : List Cell} (t : ∀ {a : Addr} {vs : List Value} {n : Nat}, (a, tupO vs n) ∈ led → (a, tupO vs n) ∈ new) (v : Value) (x : Wt) (h : WtIn led v x) : WtIn new v x := by
  obtain ⟨a, n, tg, tc, ts, rfl, hm⟩ := h
  exact ⟨a, n, tg, tc, ts, rfl, t hm⟩
theorem EntIn.tups {led new : List Cell} (t : ∀ {a : Addr} {vs : List Value} {n : Nat}, (a, tupO vs n) ∈ led → (a, tupO vs n) ∈ new) (v : Value) (x : Ent) (h : EntIn led v x) : EntIn new v x := by
  obtain ⟨a, n, tg, tk, tn, tc, rfl, hm⟩ := h
  exact ⟨a, n, tg, tk, tn, tc, rfl, t hm⟩
noncomputable abbrev sPairs (A : SA) : List (Str × Value) := [(Str.ofString "plain", .ref A.P), (Str.ofString "queued", .ref A.QL), (Str.ofString "numbers", .ref A.NL), (Str.ofString "asleep", .ref A.AL), (Str.ofString "selects", .ref A.SD)]
noncomputable abbrev qlL (A : SA) : List Value := [.ref (A.q 0), .ref (A.q 1)]
noncomputable abbrev nlL (A : SA) : List Value := [.int 0 (A.nt 0), .int 1 (A.nt 1)]
noncomputable abbrev chL (A : SA) : List Value := [.ref (A.C 0), .ref (A.C 1)]
inductive TabIn_ex (P : Addr) (l : Nat) (c : Nat) (qual : Str) (led : List Cell) (K : List Cell) : Prop where
  | mk (ps : _) (h1 : (P, tabObj ps) ∈ led) (h2 : (ps = #[] ∨ ∃ c' oc vs t, ps = #[rawInt l, rawInt c, .ref c'] ∧ (c', oc) ∈ K ∧ oc.data = .fields vs ∧ vs[1]? = some (.str qual t))) : TabIn_ex P l c qual led K
structure TabIn (P : Addr) (l c : Nat) (qual : Str) (led K : List Cell) : Prop where
  ex : TabIn_ex P l c qual led K
noncomputable abbrev qH : Str := Str.ofString "_law_heard.<locals>.<lambda>"
noncomputable abbrev qW : Str := Str.ofString "_law_woken.<locals>.<lambda>"
theorem TabIn.mono {P : Addr} {l c : Nat} {qual : Str} {led led' K K' : List Cell} (h : TabIn P l c qual led K) (h1 : ∀ o, (P, o) ∈ led → (P, o) ∈ led') (h2 : ∀ p ∈ K, p ∈ K') : TabIn P l c qual led' K' :=
  let ⟨ps, h, hx⟩ := h.ex
  ⟨ps, h1 _ h, hx.elim .inl fun ⟨c', oc, vs, t, a, b, d⟩ => .inr ⟨c', oc, vs, t, a, h2 _ b, d⟩⟩
inductive SceneIn_pl (led : List Cell) (A : SA) (M : MV) (st : St) : Prop where
  | mk (nw : _) (vs : _) (nc : _) (h1 : PlIn led A.P A.pd M.wl A.ch A.kP A.tP nw nc vs (chL A) st.es) : SceneIn_pl led A M st
inductive SceneIn_chn (led : List Cell) (A : SA) (st : St) (n : Int) : Prop where
  | mk (nh : _) (h1 : ChIn led (A.C n) (A.cd n) (A.hl n) (A.kC n) (A.tC n) (st.room n) (A.tr n) (st.cl n) nh (st.held n)) : SceneIn_chn led A st n
inductive SceneIn_qn (led : List Cell) (A : SA) (M : MV) (st : St) (n : Int) : Prop where
  | mk (nb : _) (ns : _) (nr : _) (svs : _) (rvs : _) (h1 : QIn led (A.q n) (A.qd n) (A.b n) (M.sl n) (M.rl n) (A.kQ n) (A.tQ n) (st.q n).room (A.trq n) (st.q n).cl nb ns nr (st.q n).buf svs rvs (st.q n).snd (st.q n).rcv) : SceneIn_qn led A M st n
inductive SceneIn_al (led : List Cell) (A : SA) (st : St) : Prop where
  | mk (na : _) (avs : _) (h1 : (A.AL, listOf (List.toArray avs) na) ∈ led) (h2 : IntsAre avs st.asl) : SceneIn_al led A st
inductive SceneIn_sd (w : World) (led : List Cell) (A : SA) (K : List Cell) (st : St) : Prop where
  | mk (o : _) (kvs : _) (h1 : (A.SD, o) ∈ led) (h2 : o.IsDictOf (intKind PG w) kvs ∧ (A.SD == sysModules) = false ∧ All2 (fun (kv : Int × Value) (s : Int × List CaseD) => kv.1 = s.1 ∧ CasesIn A K kv.2 s.2) kvs st.sels) : SceneIn_sd w led A K st
inductive SceneIn_QL (led : List Cell) (A : SA) : Prop where
  | mk (c : _) (h1 : (A.QL, listOf (List.toArray (qlL A)) c) ∈ led) : SceneIn_QL led A
inductive SceneIn_NL (led : List Cell) (A : SA) : Prop where
  | mk (c : _) (h1 : (A.NL, listOf (List.toArray (nlL A)) c) ∈ led) : SceneIn_NL led A
theorem SceneIn_pl.of {led : List Cell} {A : SA} {M : MV} {st : St} (h : ∃ nw vs nc, PlIn led A.P A.pd M.wl A.ch A.kP A.tP nw nc vs (chL A) st.es) : SceneIn_pl led A M st := let ⟨a, b, c, h⟩ := h; ⟨a, b, c, h⟩
theorem SceneIn_chn.of {led : List Cell} {A : SA} {st : St} {n : Int} (h : ∃ nh, ChIn led (A.C n) (A.cd n) (A.hl n) (A.kC n) (A.tC n) (st.room n) (A.tr n) (st.cl n) nh (st.held n)) : SceneIn_chn led A st n := let ⟨a, h⟩ := h; ⟨a, h⟩
theorem SceneIn_qn.of {led : List Cell} {A : SA} {M : MV} {st : St} {n : Int} (h : ∃ nb ns nr svs rvs, QIn led (A.q n) (A.qd n) (A.b n) (M.sl n) (M.rl n) (A.kQ n) (A.tQ n) (st.q n).room (A.trq n) (st.q n).cl nb ns nr (st.q n).buf svs rvs (st.q n).snd (st.q n).rcv) : SceneIn_qn led A M st n := let ⟨a, b, c, d, e, h⟩ := h; ⟨a, b, c, d, e, h⟩
structure SceneIn (w : World) (led : List Cell) (A : SA) (M : MV) (K : List Cell) (st : St) : Prop where
  fn : Fun led
  ne : (roles A M).Pairwise (fun (a b : Nat) => a ≠ b)
  pl : SceneIn_pl led A M st
  se : ∀ e ∈ st.es, Sc e.v
  chn : ∀ n, Two n → SceneIn_chn led A st n
  qn : ∀ n, Two n → SceneIn_qn led A M st n
  al : SceneIn_al led A st
  sd : SceneIn_sd w led A K st
  S : (A.S, A.oS) ∈ led
  oS : A.oS.IsDictOf (strKind PG w) (sPairs A)
  QL : SceneIn_QL led A
  NL : SceneIn_NL led A
  tH : TabIn 307 222 36 qH led K
  tW : TabIn 314 226 28 qW led K
  K : ∀ p ∈ K, p ∈ led ∧ p.1 ∉ roles A M
noncomputable def Keep (A : SA) (M : MV) (led : List Cell) (M' : MV) (new : List Cell) : Prop := ∀ p ∈ led, p.1 ∉ roles A M → p ∈ new ∧ p.1 ∉ roles A M'
theorem Keep.refl {A : SA} {M : MV} {led : List Cell} : Keep A M led M led := fun _ h h' => ⟨h, h'⟩
theorem Keep.trans {A : SA} {M M' M'' : MV} {led new new' : List Cell} (h : Keep A M led M' new) (h' : Keep A M' new M'' new') : Keep A M led M'' new' := fun p hp hq => let ⟨a, b⟩ := h p hp hq; h' p a b
noncomputable def fz (A : SA) (M : MV) (led : List Cell) : List Cell := offOf (roles A M) led
theorem mem_fz {A : SA} {M : MV} {led : List Cell} {p : Cell} : p ∈ fz A M led ↔ p ∈ led ∧ p.1 ∉ roles A M := mem_offOf
theorem Keep.fz {A : SA} {M M' : MV} {led new : List Cell} (h : Keep A M led M' new) : ∀ p ∈ Internal.fz A M led, p ∈ Internal.fz A M' new := fun p hp => let ⟨a, b⟩ := mem_fz.mp hp; mem_fz.mpr (h p a b)
theorem noTup_list {vs : Array Value} {n : Nat} : NoTup (listOf vs n) := fun us k h => by
  have := congrArg Obj.cls h
  exact absurd this (by simp)
theorem noTup_tab {ps : Array Value} : NoTup (tabObj ps) := fun us k h => by
  have := congrArg Obj.data h
  cases this
theorem noTup_dict {es : List DictEntry} {n : Nat} : NoTup (dictOf es n) := fun us k h => by
  have := congrArg Obj.cls h
  exact absurd this (by simp)
theorem noTup_inst {C d : Addr} : NoTup (instObj C d) := fun us k h => by
  have := congrArg Obj.cls h
  exact absurd this (by simp)
theorem noTup_dictO {K : Type} [DecidableEq K] {prog : Program} {w : World} {knd : KeyKind prog w K} {o : Obj} {kvs : List (K × Value)} (h : o.IsDictOf knd kvs) : NoTup o := fun us k e => by
  obtain ⟨es, ep, _, hd, _⟩ := h
  rw [e] at hd
  cases hd
section
variable {w : World} {led new : List Cell} {A : SA} {M : MV} {K : List Cell} {st : St}
theorem SceneIn.cell (H : SceneIn w led A M K st) : ∀ b ∈ roles A M, ∃ o, (b, o) ∈ led ∧ NoTup o := by
  obtain ⟨nw, vs, nc, hp⟩ := H.pl
  obtain ⟨n0, c0⟩ := H.chn 0 (.inl rfl)
  obtain ⟨n1, c1⟩ := H.chn 1 (.inr rfl)
  obtain ⟨nb0, ns0, nr0, sv0, rv0, q0⟩ := H.qn 0 (.inl rfl)
  obtain ⟨nb1, ns1, nr1, sv1, rv1, q1⟩ := H.qn 1 (.inr rfl)
  obtain ⟨na, avs, ha, _⟩ := H.al
  obtain ⟨o, kvs, hs, hd, _⟩ := H.sd
  obtain ⟨cq, hq⟩ := H.QL
  obtain ⟨cn, hn⟩ := H.NL
  obtain ⟨p1, hp1, _⟩ := H.tH.ex
  obtain ⟨p2, hp2, _⟩ := H.tW.ex
  exact allCons (P := fun b => ∃ o, (b, o) ∈ led ∧ NoTup o) ⟨_, hp.wl, noTup_list⟩ <| allCons (P := fun b => ∃ o, (b, o) ∈ led ∧ NoTup o) ⟨_, q0.s, noTup_list⟩ <| allCons (P := fun b => ∃ o, (b, o) ∈ led ∧ NoTup o) ⟨_, q0.r, noTup_list⟩ <| allCons (P := fun b => ∃ o, (b, o) ∈ led ∧ NoTup o) ⟨_, q1.s, noTup_list⟩ <| allCons (P := fun b => ∃ o, (b, o) ∈ led ∧ NoTup o) ⟨_, q1.r, noTup_list⟩ <| allCons (P := fun b => ∃ o, (b, o) ∈ led ∧ NoTup o) ⟨_, hp.P, noTup_inst⟩ <| allCons (P := fun b => ∃ o, (b, o) ∈ led ∧ NoTup o) ⟨_, hp.pd, noTup_dict⟩ <| allCons (P := fun b => ∃ o, (b, o) ∈ led ∧ NoTup o) ⟨_, hp.ch, noTup_list⟩ <| allCons (P := fun b => ∃ o, (b, o) ∈ led ∧ NoTup o) ⟨_, c0.C, noTup_inst⟩ <| allCons (P := fun b => ∃ o, (b, o) ∈ led ∧ NoTup o) ⟨_, c0.cd, noTup_dict⟩ <| allCons (P := fun b => ∃ o, (b, o) ∈ led ∧ NoTup o) ⟨_, c0.hl, noTup_list⟩ <| allCons (P := fun b => ∃ o, (b, o) ∈ led ∧ NoTup o) ⟨_, c1.C, noTup_inst⟩ <| allCons (P := fun b => ∃ o, (b, o) ∈ led ∧ NoTup o) ⟨_, c1.cd, noTup_dict⟩ <| allCons (P := fun b => ∃ o, (b, o) ∈ led ∧ NoTup o) ⟨_, c1.hl, noTup_list⟩ <| allCons (P := fun b => ∃ o, (b, o) ∈ led ∧ NoTup o) ⟨_, q0.q, noTup_inst⟩ <| allCons (P := fun b => ∃ o, (b, o) ∈ led ∧ NoTup o) ⟨_, q0.qd, noTup_dict⟩ <| allCons (P := fun b => ∃ o, (b, o) ∈ led ∧ NoTup o) ⟨_, q0.b, noTup_list⟩ <| allCons (P := fun b => ∃ o, (b, o) ∈ led ∧ NoTup o) ⟨_, q1.q, noTup_inst⟩ <| allCons (P := fun b => ∃ o, (b, o) ∈ led ∧ NoTup o) ⟨_, q1.qd, noTup_dict⟩ <| allCons (P := fun b => ∃ o, (b, o) ∈ led ∧ NoTup o) ⟨_, q1.b, noTup_list⟩ <| allCons (P := fun b => ∃ o, (b, o) ∈ led ∧ NoTup o) ⟨_, ha, noTup_list⟩ <| allCons (P := fun b => ∃ o, (b, o) ∈ led ∧ NoTup o) ⟨_, hs, noTup_dictO hd⟩ <| allCons (P := fun b => ∃ o, (b, o) ∈ led ∧ NoTup o) ⟨_, H.S, noTup_dictO H.oS⟩ <| allCons (P := fun b => ∃ o, (b, o) ∈ led ∧ NoTup o) ⟨_, hq, noTup_list⟩ <| allCons (P := fun b => ∃ o, (b, o) ∈ led ∧ NoTup o) ⟨_, hn, noTup_list⟩ <| allCons (P := fun b => ∃ o, (b, o) ∈ led ∧ NoTup o) ⟨_, hp1, noTup_tab⟩ <| allCons (P := fun b => ∃ o, (b, o) ∈ led ∧ NoTup o) ⟨_, hp2, noTup_tab⟩ <| allNil
theorem SceneIn.tup (H : SceneIn w led A M K st) {a : Addr} {vs : List Value} {n : Nat} (h : (a, tupO vs n) ∈ led) : a ∉ roles A M := fun hm => by
  obtain ⟨o, ho, hn⟩ := H.cell a hm
  have := H.fn _ h _ ho rfl
  cases this
  exact hn _ _ rfl
theorem SceneIn.lt (H : SceneIn w led A M K st) {d : Addr} (h : ∀ p ∈ led, p.1 < d) : d ∉ roles A M := fun hm => by
  obtain ⟨o, ho, _⟩ := H.cell d hm
  exact Nat.lt_irrefl _ (h _ ho)
/-- the ledger grows -/
theorem SceneIn.mono (H : SceneIn w led A M K st) (hs : ∀ p ∈ led, p ∈ new) (hf : Fun new) : SceneIn w new A M K st where
  fn := hf
  ne := H.ne
  pl := let ⟨nw, vs, nc, h⟩ := H.pl; ⟨nw, vs, nc, hs _ h.P, hs _ h.pd, hs _ h.wl, hs _ h.ch, h.es.mono fun _ _ h => h.mono hs⟩
  se := H.se
  chn := fun n hn => let ⟨nh, h⟩ := H.chn n hn; ⟨nh, hs _ h.C, hs _ h.cd, hs _ h.hl, h.sc⟩
  qn := fun n hn => let ⟨nb, ns, nr, sv, rv, h⟩ := H.qn n hn; ⟨nb, ns, nr, sv, rv, hs _ h.q, hs _ h.qd, hs _ h.b, hs _ h.s, hs _ h.r, h.hsnd.mono fun _ _ h => h.mono hs, h.hrcv.mono fun _ _ h => h.mono hs, h.scb, h.scs, h.scr⟩
  al := let ⟨na, avs, h, h'⟩ := H.al; ⟨na, avs, hs _ h, h'⟩
  sd := let ⟨o, kvs, h, h'⟩ := H.sd; ⟨o, kvs, hs _ h, h'⟩
  S := hs _ H.S
  oS := H.oS
  QL := let ⟨c, h⟩ := H.QL; ⟨c, hs _ h⟩
  NL := let ⟨c, h⟩ := H.NL; ⟨c, hs _ h⟩
  K := fun p hp => ⟨hs _ (H.K p hp).1, (H.K p hp).2⟩
  tH := H.tH.mono (fun _ h => hs _ h) fun _ h => h
  tW := H.tW.mono (fun _ h => hs _ h) fun _ h => h
theorem SceneIn.monoK {K' : List Cell} (H : SceneIn w led A M K st) (hs : ∀ p ∈ K, p ∈ K') (hK : ∀ p ∈ K', p ∈ led ∧ p.1 ∉ roles A M) : SceneIn w led A M K' st :=
  { H with K := hK, tH := H.tH.mono (fun _ h => h) hs, tW := H.tW.mono (fun _ h => h) hs, sd := let ⟨o, kvs, h, h1, h2, h3⟩ := H.sd; ⟨o, kvs, h, h1, h2, h3.mono fun _ _ h => ⟨h.1, h.2.mono hs⟩⟩ }
theorem mem_off1 {a : Addr} {led : List Cell} {p : Cell} (h : p ∈ led) (hn : p.1 ≠ a) : p ∈ offOf [a] led := mem_offOf.mpr ⟨h, fun q => hn (List.mem_singleton.mp q)⟩
/-- a cell off the roles changes -/
theorem SceneIn.change {f : Addr} {o o' : Obj} (H : SceneIn w led A M K st) (hm : (f, o) ∈ led) (ho : NoTup o) (hr : f ∉ roles A M) (hK : ∀ p ∈ K, p.1 ≠ f) : SceneIn w ((f, o') :: offOf [f] led) A M K st := by
  have up : ∀ p ∈ led, p.1 ≠ f → p ∈ (f, o') :: offOf [f] led := fun p hp hn => .tail _ (mem_off1 hp hn)
  have ur : ∀ {b : Addr} {o : Obj}, b ∈ roles A M → (b, o) ∈ led → (b, o) ∈ (f, o') :: offOf [f] led := fun hb hp => up _ hp fun e => hr (e ▸ hb)
  have ut : ∀ {a : Addr} {vs : List Value} {n : Nat}, (a, tupO vs n) ∈ led → (a, tupO vs n) ∈ (f, o') :: offOf [f] led := fun h => up _ h fun e => by
    have := H.fn _ h _ hm e
    cases this
    exact ho _ _ rfl
  refine ⟨?_, H.ne, ?_, H.se, ?_, ?_, ?_, ?_, ?_, H.oS, ?_, ?_, H.tH.mono (fun _ h => ur (by row_room_at im9) h) (fun _ h => h), H.tW.mono (fun _ h => ur (by row_room_at im9) h) fun _ h => h, ?_⟩
  · intro p hp p' hp' e
    rcases List.mem_cons.mp hp with rfl | hp <;> rcases List.mem_cons.mp hp' with rfl | hp'
    · rfl
    · exact absurd (List.mem_singleton.mpr e.symm) (mem_offOf.mp hp').2
    · exact absurd (List.mem_singleton.mpr e) (mem_offOf.mp hp).2
    · exact H.fn _ (mem_offOf.mp hp).1 _ (mem_offOf.mp hp').1 e
  · obtain ⟨nw, vs, nc, h⟩ := H.pl
    refine ⟨nw, vs, nc, ur ?_ h.P, ur ?_ h.pd, ur ?_ h.wl, ur ?_ h.ch, h.es.mono fun _ _ h => ?_⟩
    · row_room_at im9
    · row_room_at im9
    · row_room_at im9
    · row_room_at im9
    · exact EntIn.tups ut _ _ h
  · intro n hn
    obtain ⟨nh, h⟩ := H.chn n hn
    refine ⟨nh, ur ?_ h.C, ur ?_ h.cd, ur ?_ h.hl, h.sc⟩ <;> exact Two.onM hn (by row_room_at im9) (by row_room_at im9)
  · intro n hn
    obtain ⟨nb, ns, nr, sv, rv, h⟩ := H.qn n hn
    have uw : ∀ v x, WtIn led v x → WtIn ((f, o') :: offOf [f] led) v x := WtIn.tups ut
    refine ⟨nb, ns, nr, sv, rv, ur ?_ h.q, ur ?_ h.qd, ur ?_ h.b, ur ?_ h.s, ur ?_ h.r, h.hsnd.mono uw, h.hrcv.mono uw, h.scb, h.scs, h.scr⟩ <;> exact Two.onM hn (by row_room_at im9) (by row_room_at im9)
  · obtain ⟨na, avs, h, h'⟩ := H.al
    exact ⟨na, avs, ur (by row_room_at im9) h, h'⟩
  · obtain ⟨o, kvs, h, h'⟩ := H.sd
    exact ⟨o, kvs, ur (by row_room_at im9) h, h'⟩
  · exact ur (by row_room_at im9) H.S
  · obtain ⟨c, h⟩ := H.QL
    exact ⟨c, ur (by row_room_at im9) h⟩
  · obtain ⟨c, h⟩ := H.NL
    exact ⟨c, ur (by row_room_at im9) h⟩
  · exact fun p hp => ⟨up p (H.K p hp).1 (hK p hp), (H.K p hp).2⟩
end
end
section
open PySem PySem.W PySem.Calls PyProof.Rows
set_option maxRecDepth 100000
noncomputable def sel (is : List Nat) (l : List Addr) : List Addr := is.map fun i => l.getD i 0
theorem mem_sel {is : List Nat} {l : List Addr} {b : Addr} (h : b ∈ sel is l) (hl : ∀ i ∈ is, i < l.length) : b ∈ l := by
  obtain ⟨i, hi, rfl⟩ := List.mem_map.mp h
  have := hl i hi
  rw [List.getD_eq_getElem?_getD, List.getElem?_eq_getElem this]
  exact List.getElem_mem this
theorem sel_cover {is : List Nat} {l : List Addr} {b : Addr} (h : b ∈ l) (hl : ∀ i < l.length, i ∈ is) : b ∈ sel is l := by
  obtain ⟨i, hi, rfl⟩ := List.mem_iff_getElem.mp h
  exact List.mem_map.mpr ⟨i, hl i hi, by rw [List.getD_eq_getElem?_getD, List.getElem?_eq_getElem hi]; rfl⟩
theorem pw_sel {is : List Nat} {l : List Addr} (h : l.Pairwise (fun (a b : Nat) => a ≠ b)) (hn : is.Nodup) (hl : ∀ i ∈ is, i < l.length) : (sel is l).Pairwise (fun (a b : Nat) => a ≠ b) := by
  refine List.pairwise_map.mpr (List.Pairwise.imp_of_mem ?_ hn)
  intro i j hi hj hij
  have h1 := hl i hi
  have h2 := hl j hj
  rw [List.getD_eq_getElem?_getD, List.getD_eq_getElem?_getD, List.getElem?_eq_getElem h1, List.getElem?_eq_getElem h2]
  have := List.pairwise_iff_getElem.mp h
  rcases Nat.lt_or_gt_of_ne hij with hlt | hlt
  · exact this i j h1 h2 hlt
  · exact (this j i h2 h1 hlt).symm
section
variable {w : World} {led new : List Cell} {A : SA} {M : MV} {K : List Cell} {st : St}
noncomputable def plR (A : SA) (M : MV) : List Addr := [M.wl, A.P, A.pd, A.ch, A.C 0, A.cd 0, A.hl 0, A.C 1, A.cd 1, A.hl 1]
noncomputable def othR (A : SA) (M : MV) : List Addr := [M.sl 0, M.rl 0, M.sl 1, M.rl 1, A.q 0, A.qd 0, A.b 0, A.q 1, A.qd 1, A.b 1, A.AL, A.SD, A.S, A.QL, A.NL, 307, 314]
theorem plR_sel {A : SA} {M : MV} : plR A M = sel [0, 5, 6, 7, 8, 9, 10, 11, 12, 13] (roles A M) := rfl
theorem othR_sel {A : SA} {M : MV} : othR A M = sel [1, 2, 3, 4, 14, 15, 16, 17, 18, 19, 20, 21, 22, 23, 24, 25, 26] (roles A M) := rfl
theorem pl_oth {A : SA} {M : MV} (h : (roles A M).Pairwise (fun (a b : Nat) => a ≠ b)) : (plR A M).Pairwise (fun (a b : Nat) => a ≠ b) ∧ (othR A M).Pairwise (fun (a b : Nat) => a ≠ b) ∧ ∀ a ∈ plR A M, ∀ b ∈ othR A M, @Ne Nat a b :=
  List.pairwise_append.mp (pw_sel (is := [0, 5, 6, 7, 8, 9, 10, 11, 12, 13, 1, 2, 3, 4, 14, 15, 16, 17, 18, 19, 20, 21, 22, 23, 24, 25, 26]) h (by decide) (by show ∀ i ∈ _, i < 27; decide))
theorem SceneIn.plain (H : SceneIn w led A M K st) (hf : Fun new) {wl' : Addr} {es' : List Ent} {held' : Int → List Value} {cl' : Int → Bool}
    (t : ∀ p ∈ led, p.1 ∉ plR A M → p ∈ new) (o : ∀ p ∈ led, p.1 ∉ plR A M → @Ne Nat p.1 wl') (o2 : ∀ b ∈ [A.P, A.pd, A.ch, A.C 0, A.cd 0, A.hl 0, A.C 1, A.cd 1, A.hl 1], @Ne Nat b wl')
    (pl : ∃ nw vs nc, PlIn new A.P A.pd wl' A.ch A.kP A.tP nw nc vs (chL A) es') (se : ∀ e ∈ es', Sc e.v)
    (chn : ∀ n, Two n → ∃ nh, ChIn new (A.C n) (A.cd n) (A.hl n) (A.kC n) (A.tC n) (st.room n) (A.tr n) (cl' n) nh (held' n)) :
    SceneIn w new A { M with wl := wl' } K { st with es := es', held := held', cl := cl' } ∧ Keep A M led { M with wl := wl' } new := by
  have hc := H.cell
  obtain ⟨pp, po, px⟩ := pl_oth H.ne
  have sub : ∀ b ∈ plR A M, b ∈ roles A M := fun b hb => mem_sel (plR_sel ▸ hb) (by show ∀ i ∈ _, i < 27; decide)
  have sub2 : ∀ b ∈ othR A M, b ∈ roles A M := fun b hb => mem_sel (othR_sel ▸ hb) (by show ∀ i ∈ _, i < 27; decide)
  have tt : ∀ {a : Addr} {vs : List Value} {n : Nat}, (a, tupO vs n) ∈ led → (a, tupO vs n) ∈ new := fun h => t _ h fun hm => H.tup h (sub _ hm)
  have npl : ∀ b ∈ othR A M, b ∉ plR A M := fun b hb hp => px b hp b hb rfl
  have up : ∀ {b : Addr} {o : Obj}, b ∈ othR A M → (b, o) ∈ led → (b, o) ∈ new := fun hb h => t _ h (npl _ hb)
  have uw : ∀ v x, WtIn led v x → WtIn new v x := WtIn.tups tt
  have nw : ∀ b ∈ othR A M, @Ne Nat b wl' := fun b hb => let ⟨_, h, _⟩ := hc b (sub2 b hb); o _ h (npl b hb)
  have kp : Keep A M led { M with wl := wl' } new := by
    intro p hp hr
    have hpl : p.1 ∉ plR A M := fun h => hr (sub _ h)
    refine ⟨t p hp hpl, fun hm => ?_⟩
    have h1 := o p hp hpl
    exact (List.mem_cons.mp hm).elim (fun e => h1 e) fun h => hr (.tail _ h)
  refine ⟨⟨hf, ?_, .of pl, se, fun n hn => .of (chn n hn), ?_, ?_, ?_, ?_, H.oS, ?_, ?_, H.tH.mono (fun _ h => up (by row_room_at im9) h) (fun _ h => h), H.tW.mono (fun _ h => up (by row_room_at im9) h) fun _ h => h, ?_⟩, kp⟩
  · refine List.pairwise_cons.mpr ⟨fun b hb => ?_, (List.pairwise_cons.mp H.ne).2⟩
    have hb' : b ∈ sel [4, 5, 6, 7, 8, 9, 10, 11, 12, 0, 1, 2, 3, 13, 14, 15, 16, 17, 18, 19, 20, 21, 22, 23, 24, 25] (roles A M).tail := sel_cover hb (by show ∀ i < 26, i ∈ _; decide)
    have hb2 : b ∈ [A.P, A.pd, A.ch, A.C 0, A.cd 0, A.hl 0, A.C 1, A.cd 1, A.hl 1] ++ othR A M := hb'
    exact ((List.mem_append.mp hb2).elim (o2 b) (nw b)).symm
  · intro n hn
    obtain ⟨nb, ns, nr, sv, rv, h⟩ := H.qn n hn
    refine ⟨nb, ns, nr, sv, rv, up ?_ h.q, up ?_ h.qd, up ?_ h.b, up ?_ h.s, up ?_ h.r, h.hsnd.mono uw, h.hrcv.mono uw, h.scb, h.scs, h.scr⟩ <;> exact Two.onM hn (by row_room_at im9) (by row_room_at im9)
  · obtain ⟨na, avs, h, h'⟩ := H.al
    exact ⟨na, avs, up (by row_room_at im9) h, h'⟩
  · obtain ⟨o, kvs, h, h'⟩ := H.sd
    exact ⟨o, kvs, up (by row_room_at im9) h, h'⟩
  · exact up (by row_room_at im9) H.S
  · obtain ⟨c, h⟩ := H.QL
    exact ⟨c, up (by row_room_at im9) h⟩
  · obtain ⟨c, h⟩ := H.NL
    exact ⟨c, up (by row_room_at im9) h⟩
  · exact fun p hp => kp p (H.K p hp).1 (H.K p hp).2
noncomputable def qR (A : SA) (M : MV) (n : Int) : List Addr := [A.q n, A.qd n, A.b n, M.sl n, M.rl n]
noncomputable def nqR0 (A : SA) (M : MV) : List Addr := [M.wl, M.sl 1, M.rl 1, A.P, A.pd, A.ch, A.C 0, A.cd 0, A.hl 0, A.C 1, A.cd 1, A.hl 1, A.q 1, A.qd 1, A.b 1, A.AL, A.SD, A.S, A.QL, A.NL, 307, 314]
noncomputable def nqR1 (A : SA) (M : MV) : List Addr := [M.wl, M.sl 0, M.rl 0, A.P, A.pd, A.ch, A.C 0, A.cd 0, A.hl 0, A.C 1, A.cd 1, A.hl 1, A.q 0, A.qd 0, A.b 0, A.AL, A.SD, A.S, A.QL, A.NL, 307, 314]
noncomputable def nqR (A : SA) (M : MV) (n : Int) : List Addr := if n = 0 then nqR0 A M else nqR1 A M
theorem q_oth {A : SA} {M : MV} {n : Int} (hn : Two n) (h : (roles A M).Pairwise (fun (a b : Nat) => a ≠ b)) : (qR A M n).Pairwise (fun (a b : Nat) => a ≠ b) ∧ (nqR A M n).Pairwise (fun (a b : Nat) => a ≠ b) ∧ ∀ a ∈ qR A M n, ∀ b ∈ nqR A M n, @Ne Nat a b := by
  rcases hn with rfl | rfl
  · exact List.pairwise_append.mp (pw_sel (is := [14, 15, 16, 1, 2, 0, 3, 4, 5, 6, 7, 8, 9, 10, 11, 12, 13, 17, 18, 19, 20, 21, 22, 23, 24, 25, 26]) h (by decide) (by show ∀ i ∈ _, i < 27; decide))
  · exact List.pairwise_append.mp (pw_sel (is := [17, 18, 19, 3, 4, 0, 1, 2, 5, 6, 7, 8, 9, 10, 11, 12, 13, 14, 15, 16, 20, 21, 22, 23, 24, 25, 26]) h (by decide) (by show ∀ i ∈ _, i < 27; decide))
theorem q_sub {A : SA} {M : MV} {n : Int} (hn : Two n) : (∀ b ∈ qR A M n, b ∈ roles A M) ∧ (∀ b ∈ nqR A M n, b ∈ roles A M) ∧ ∀ b ∈ roles A M, b ∈ qR A M n ∨ b ∈ nqR A M n := by
  rcases hn with rfl | rfl
  · exact ⟨fun b hb => mem_sel (is := [14, 15, 16, 1, 2]) hb (by show ∀ i ∈ _, i < 27; decide), fun b hb => mem_sel (is := [0, 3, 4, 5, 6, 7, 8, 9, 10, 11, 12, 13, 17, 18, 19, 20, 21, 22, 23, 24, 25, 26]) hb (by show ∀ i ∈ _, i < 27; decide),
      fun b hb => List.mem_append.mp (sel_cover (is := [14, 15, 16, 1, 2, 0, 3, 4, 5, 6, 7, 8, 9, 10, 11, 12, 13, 17, 18, 19, 20, 21, 22, 23, 24, 25, 26]) hb (by show ∀ i < 27, i ∈ _; decide))⟩
  · exact ⟨fun b hb => mem_sel (is := [17, 18, 19, 3, 4]) hb (by show ∀ i ∈ _, i < 27; decide), fun b hb => mem_sel (is := [0, 1, 2, 5, 6, 7, 8, 9, 10, 11, 12, 13, 14, 15, 16, 20, 21, 22, 23, 24, 25, 26]) hb (by show ∀ i ∈ _, i < 27; decide),
      fun b hb => List.mem_append.mp (sel_cover (is := [17, 18, 19, 3, 4, 0, 1, 2, 5, 6, 7, 8, 9, 10, 11, 12, 13, 14, 15, 16, 20, 21, 22, 23, 24, 25, 26]) hb (by show ∀ i < 27, i ∈ _; decide))⟩
theorem q_join {A : SA} {M : MV} {n : Int} (hn : Two n) (h : (qR A M n ++ nqR A M n).Pairwise (fun (a b : Nat) => a ≠ b)) : (roles A M).Pairwise (fun (a b : Nat) => a ≠ b) := by
  rcases hn with rfl | rfl
  · exact pw_sel (is := [5, 3, 4, 6, 7, 8, 9, 10, 11, 12, 13, 14, 15, 16, 0, 1, 2, 17, 18, 19, 20, 21, 22, 23, 24, 25, 26]) h (by decide) (by show ∀ i ∈ _, i < 27; decide)
  · exact pw_sel (is := [5, 6, 7, 3, 4, 8, 9, 10, 11, 12, 13, 14, 15, 16, 17, 18, 19, 0, 1, 2, 20, 21, 22, 23, 24, 25, 26]) h (by decide) (by show ∀ i ∈ _, i < 27; decide)
noncomputable def mq (M : MV) (n : Int) (sl rl : Addr) : MV := { M with sl := setI M.sl n sl, rl := setI M.rl n rl }
theorem nqR_mq {A : SA} {M : MV} {n : Int} {sl rl : Addr} (hn : Two n) : nqR A (mq M n sl rl) n = nqR A M n := by rcases hn with rfl | rfl <;> rfl
theorem qR_mq {A : SA} {M : MV} {n : Int} {sl rl : Addr} : qR A (mq M n sl rl) n = [A.q n, A.qd n, A.b n, sl, rl] := by simp [qR, mq, setI]
theorem q_m0 {n : Int} (hn : Two n) : ∀ b ∈ [M.wl, A.P, A.pd, A.ch, A.C 0, A.cd 0, A.hl 0, A.C 1, A.cd 1, A.hl 1, A.AL, A.SD, A.S, A.QL, A.NL, 307, 314], b ∈ nqR A M n := by
  rcases hn with rfl | rfl
  · exact fun b hb => mem_sel (is := [0, 3, 4, 5, 6, 7, 8, 9, 10, 11, 15, 16, 17, 18, 19, 20, 21]) (l := nqR0 A M) hb (by show ∀ i ∈ _, i < 22; decide)
  · exact fun b hb => mem_sel (is := [0, 3, 4, 5, 6, 7, 8, 9, 10, 11, 15, 16, 17, 18, 19, 20, 21]) (l := nqR1 A M) hb (by show ∀ i ∈ _, i < 22; decide)
theorem q_mj {n j : Int} (hn : Two n) (hj : Two j) (e : j ≠ n) : ∀ b ∈ qR A M j, b ∈ nqR A M n := by
  rcases hn with rfl | rfl <;> rcases hj with rfl | rfl <;> try exact absurd rfl e
  · exact fun b hb => mem_sel (is := [12, 13, 14, 1, 2]) (l := nqR0 A M) hb (by show ∀ i ∈ _, i < 22; decide)
  · exact fun b hb => mem_sel (is := [12, 13, 14, 1, 2]) (l := nqR1 A M) hb (by show ∀ i ∈ _, i < 22; decide)
theorem SceneIn.queue (H : SceneIn w led A M K st) (hf : Fun new) {n : Int} (hn : Two n) {sl rl : Addr} {q' : QSt}
    (t : ∀ p ∈ led, p.1 ∉ qR A M n → p ∈ new) (D : ∀ p ∈ led, p.1 ∉ qR A M n → ∀ b ∈ [A.q n, A.qd n, A.b n, sl, rl], @Ne Nat p.1 b) (ne : [A.q n, A.qd n, A.b n, sl, rl].Pairwise (fun (a b : Nat) => a ≠ b))
    (qn : ∃ nb ns nr svs rvs, QIn new (A.q n) (A.qd n) (A.b n) sl rl (A.kQ n) (A.tQ n) q'.room (A.trq n) q'.cl nb ns nr q'.buf svs rvs q'.snd q'.rcv) :
    SceneIn w new A (mq M n sl rl) K { st with q := setI st.q n q' } ∧ Keep A M led (mq M n sl rl) new := by
  have hc := H.cell
  obtain ⟨pp, po, px⟩ := q_oth hn H.ne
  obtain ⟨sub, sub2, cov⟩ := q_sub (A := A) (M := M) hn
  have tt : ∀ {a : Addr} {vs : List Value} {n : Nat}, (a, tupO vs n) ∈ led → (a, tupO vs n) ∈ new := fun h => t _ h fun hm => H.tup h (sub _ hm)
  have npl : ∀ b ∈ nqR A M n, b ∉ qR A M n := fun b hb hp => px b hp b hb rfl
  have up : ∀ {b : Addr} {o : Obj}, b ∈ nqR A M n → (b, o) ∈ led → (b, o) ∈ new := fun hb h => t _ h (npl _ hb)
  have uw : ∀ v x, WtIn led v x → WtIn new v x := WtIn.tups tt
  have ue : ∀ v x, EntIn led v x → EntIn new v x := EntIn.tups tt
  have nw : ∀ a ∈ [A.q n, A.qd n, A.b n, sl, rl], ∀ b ∈ nqR A M n, @Ne Nat a b := fun a ha b hb => let ⟨_, h, _⟩ := hc b (sub2 b hb); (D _ h (npl b hb) a ha).symm
  have hne' : (roles A (mq M n sl rl)).Pairwise (fun (a b : Nat) => a ≠ b) := by
    refine q_join hn ?_
    rw [nqR_mq hn, qR_mq]
    exact List.pairwise_append.mpr ⟨ne, po, nw⟩
  have kp : Keep A M led (mq M n sl rl) new := by
    intro p hp hr
    have hpl : p.1 ∉ qR A M n := fun h => hr (sub _ h)
    refine ⟨t p hp hpl, fun hm => ?_⟩
    rcases (q_sub (A := A) (M := mq M n sl rl) hn).2.2 _ hm with h | h
    · rw [qR_mq] at h
      exact D p hp hpl _ h rfl
    · rw [nqR_mq hn] at h
      exact hr (sub2 _ h)
  have m0 := q_m0 (A := A) (M := M) hn
  have u0 : ∀ {b : Addr} {o : Obj}, b ∈ [M.wl, A.P, A.pd, A.ch, A.C 0, A.cd 0, A.hl 0, A.C 1, A.cd 1, A.hl 1, A.AL, A.SD, A.S, A.QL, A.NL, 307, 314] → (b, o) ∈ led → (b, o) ∈ new := fun hb h => up (m0 _ hb) h
  refine ⟨⟨hf, hne', ?_, H.se, ?_, ?_, ?_, ?_, ?_, H.oS, ?_, ?_, H.tH.mono (fun _ h => u0 (by row_room_at im9) h) (fun _ h => h), H.tW.mono (fun _ h => u0 (by row_room_at im9) h) fun _ h => h, ?_⟩, kp⟩
  · obtain ⟨nw, vs, nc, h⟩ := H.pl
    exact ⟨nw, vs, nc, u0 (by row_room_at im9) h.P, u0 (by row_room_at im9) h.pd, u0 (b := M.wl) (by row_room_at im9) h.wl, u0 (by row_room_at im9) h.ch, h.es.mono ue⟩
  · intro j hj
    obtain ⟨nh, h⟩ := H.chn j hj
    refine ⟨nh, u0 ?_ h.C, u0 ?_ h.cd, u0 ?_ h.hl, h.sc⟩ <;> exact Two.onM hj (by row_room_at im9) (by row_room_at im9)
  · intro j hj
    refine .of ?_
    by_cases e : j = n
    · subst e
      simp only [mq, setI_same]
      exact qn
    · simp only [mq, setI_ne e]
      obtain ⟨nb, ns, nr, sv, rv, h⟩ := H.qn j hj
      have mj := q_mj (A := A) (M := M) hn hj e
      exact ⟨nb, ns, nr, sv, rv, up (mj _ (by row_room_at im9)) h.q, up (mj _ (by row_room_at im9)) h.qd, up (mj _ (by row_room_at im9)) h.b, up (mj _ (by row_room_at im9)) h.s, up (mj _ (by row_room_at im9)) h.r, h.hsnd.mono uw, h.hrcv.mono uw, h.scb, h.scs, h.scr⟩
  · obtain ⟨na, avs, h, h'⟩ := H.al
    exact ⟨na, avs, u0 (by row_room_at im9) h, h'⟩
  · obtain ⟨o, kvs, h, h'⟩ := H.sd
    exact ⟨o, kvs, u0 (by row_room_at im9) h, h'⟩
  · exact u0 (by row_room_at im9) H.S
  · obtain ⟨c, h⟩ := H.QL
    exact ⟨c, u0 (by row_room_at im9) h⟩
  · obtain ⟨c, h⟩ := H.NL
    exact ⟨c, u0 (by row_room_at im9) h⟩
  · exact fun p hp => kp p (H.K p hp).1 (H.K p hp).2
end
end
section
open PySem PySem.W PySem.Calls PyProof.Rows
set_option maxRecDepth 100000
theorem setI_id {α : Type} {f : Int → α} {n : Int} : setI f n (f n) = f := funext fun j => by
  unfold setI; split
  · rename_i h; rw [h]
  · rfl
theorem ResIn.mono {T T' : List Cell} {r : Value} {told : PyData} {rows : List Row} (h : ResIn T r told rows) (hs : ∀ p ∈ T, p ∈ T') : ResIn T' r told rows := by
  obtain ⟨a, n, tv, rl, rvs, c, rfl, h1, h2, h3, h4⟩ := h
  exact ⟨a, n, tv, rl, rvs, c, rfl, hs _ h1, h2.mono hs, hs _ h3, h4.mono fun _ _ h => h.mono hs⟩
section
variable {w : World} {led new : List Cell} {A : SA} {M : MV} {K : List Cell} {st : St} {n : Int}
noncomputable abbrev c7 (A : SA) (wl : Addr) (n : Int) : List Addr := [A.P, A.pd, wl, A.ch, A.C n, A.cd n, A.hl n]
theorem SceneIn.apart7 (H : SceneIn w led A M K st) (hn : Two n) : Apart (c7 A M.wl n) (offOf (c7 A M.wl n) led) := by
  refine ⟨?_, off_offOf _ _⟩
  rcases hn with rfl | rfl
  · exact pw_sel (is := [5, 6, 0, 7, 8, 9, 10]) H.ne (by decide) (by show ∀ i ∈ _, i < 27; decide)
  · exact pw_sel (is := [5, 6, 0, 7, 11, 12, 13]) H.ne (by decide) (by show ∀ i ∈ _, i < 27; decide)
theorem c7_pl (hn : Two n) : ∀ b ∈ c7 A M.wl n, b ∈ plR A M := by
  rcases hn with rfl | rfl
  · exact fun b hb => mem_sel (is := [1, 2, 0, 3, 4, 5, 6]) (l := plR A M) hb (by show ∀ i ∈ _, i < 10; decide)
  · exact fun b hb => mem_sel (is := [1, 2, 0, 3, 7, 8, 9]) (l := plR A M) hb (by show ∀ i ∈ _, i < 10; decide)
theorem pl_ro : ∀ b ∈ plR A M, b ∈ roles A M := fun b hb => mem_sel (plR_sel ▸ hb) (by show ∀ i ∈ _, i < 27; decide)
theorem SceneIn.es7 (H : SceneIn w led A M K st) (hn : Two n) {vs : List Value} (h : All2 (EntIn led) vs st.es) : All2 (EntIn (offOf (c7 A M.wl n) led)) vs st.es :=
  h.mono fun _ _ h => by
    obtain ⟨a, k, tg, tk, tn, tc, rfl, hm⟩ := h
    exact ⟨a, k, tg, tk, tn, tc, rfl, mem_offOf.mpr ⟨hm, fun h => H.tup hm (pl_ro _ (c7_pl hn _ h))⟩⟩
theorem oth_j (hne : (roles A M).Pairwise (fun (a b : Nat) => a ≠ b)) (hn : Two n) (j : Int) (hj : Two j) (hjn : j ≠ n) : ∀ b ∈ [A.C j, A.cd j, A.hl j], b ∈ plR A M ∧ b ∉ c7 A M.wl n := by
  rcases hn with rfl | rfl <;> rcases hj with rfl | rfl <;> try exact absurd rfl hjn
  · have q := pw_sel (is := [11, 12, 13, 5, 6, 0, 7, 8, 9, 10]) hne (by decide) (by show ∀ i ∈ _, i < 27; decide)
    exact fun b hb => ⟨mem_sel (is := [7, 8, 9]) (l := plR A M) hb (by show ∀ i ∈ _, i < 10; decide), fun h => (List.pairwise_append (l₁ := [A.C 1, A.cd 1, A.hl 1]) (l₂ := c7 A M.wl 0)).mp q |>.2.2 b hb b h rfl⟩
  · have q := pw_sel (is := [8, 9, 10, 5, 6, 0, 7, 11, 12, 13]) hne (by decide) (by show ∀ i ∈ _, i < 27; decide)
    exact fun b hb => ⟨mem_sel (is := [4, 5, 6]) (l := plR A M) hb (by show ∀ i ∈ _, i < 10; decide), fun h => (List.pairwise_append (l₁ := [A.C 0, A.cd 0, A.hl 0]) (l₂ := c7 A M.wl 1)).mp q |>.2.2 b hb b h rfl⟩
theorem SceneIn.plainPost (H : SceneIn w led A M K st) (hn : Two n) (hf : Fun new) {wl' : Addr} {es' : List Ent} {held' : List Value} {cl' : Bool} {nw' nc nh' : Nat} {vs' : List Value}
    (hpl : PlIn new A.P A.pd wl' A.ch A.kP A.tP nw' nc vs' (chL A) es') (hch : ChIn new (A.C n) (A.cd n) (A.hl n) (A.kC n) (A.tC n) (st.room n) (A.tr n) cl' nh' held') (hr : ∀ p ∈ offOf (c7 A M.wl n) led, p ∈ new) (D : Apart (c7 A wl' n) (offOf (c7 A M.wl n) led)) (se : ∀ e ∈ es', Sc e.v) :
    SceneIn w new A { M with wl := wl' } K { st with es := es', held := setI st.held n held', cl := setI st.cl n cl' } ∧ Keep A M led { M with wl := wl' } new ∧ ∀ p ∈ offOf (c7 A wl' n ++ (offOf (c7 A M.wl n) led).map (·.1)) new, p ∈ fz A { M with wl := wl' } new := by
  have t : ∀ p ∈ led, p.1 ∉ c7 A M.wl n → p ∈ new := fun p hp hq => hr p (mem_offOf.mpr ⟨hp, hq⟩)
  have o : ∀ p ∈ led, p.1 ∉ c7 A M.wl n → @Ne Nat p.1 wl' := fun p hp hq => D.off p (mem_offOf.mpr ⟨hp, hq⟩) wl' (by row_room_at im9)
  obtain ⟨pp, po, px⟩ := pl_oth H.ne
  have hpw := (List.pairwise_cons.mp H.ne).1
  -- the other channel
  have oth := oth_j (A := A) (M := M) H.ne hn
  have o7 : ∀ b ∈ [A.P, A.pd, A.ch, A.C n, A.cd n, A.hl n], @Ne Nat b wl' := by
    have h1 := D.ne
    intro b hb
    have h2 : (wl' :: [A.P, A.pd, A.ch, A.C n, A.cd n, A.hl n]).Pairwise (fun (a b : Nat) => a ≠ b) := pw_sel (is := [2, 0, 1, 3, 4, 5, 6]) h1 (by decide) (by show ∀ i ∈ _, i < 7; decide)
    exact ((List.pairwise_cons.mp h2).1 b hb).symm
  have og : ∀ b ∈ roles A M, b ≠ M.wl → @Ne Nat b wl' := by
    intro b hb hbw
    by_cases h : b ∈ c7 A M.wl n
    · refine o7 b ?_
      simp only [c7, List.mem_cons, List.not_mem_nil, or_false] at h ⊢
      rcases h with h | h | h | h
      · exact .inl h
      · exact .inr (.inl h)
      · exact absurd h hbw
      · exact .inr (.inr h)
    · obtain ⟨_, hc, _⟩ := H.cell b hb
      exact o _ hc h
  have wne : ∀ b ∈ [A.P, A.pd, A.ch, A.C 0, A.cd 0, A.hl 0, A.C 1, A.cd 1, A.hl 1], b ∈ roles A M ∧ b ≠ M.wl := fun b hb => ⟨pl_ro b (.tail _ hb), ((List.pairwise_cons.mp pp).1 b hb).symm⟩
  obtain ⟨S, kp⟩ := H.plain (st := st) hf (wl' := wl') (es' := es') (held' := setI st.held n held') (cl' := setI st.cl n cl') (fun p hp hq => t p hp fun h => hq (c7_pl hn _ h)) (fun p hp hq => o p hp fun h => hq (c7_pl hn _ h)) (fun b hb => og b (wne b hb).1 (wne b hb).2) ⟨_, _, _, hpl⟩ se fun j hj => by
    by_cases e : j = n
    · rw [e, setI_same, setI_same]; exact ⟨_, hch⟩
    · rw [setI_ne e, setI_ne e]
      obtain ⟨nh, h⟩ := H.chn j hj
      have q := oth j hj e
      exact ⟨nh, t _ h.C (q _ (by row_room_at im9)).2, t _ h.cd (q _ (by row_room_at im9)).2, t _ h.hl (q _ (by row_room_at im9)).2, h.sc⟩
  refine ⟨S, kp, fun p hp => ?_⟩
  obtain ⟨h1, h2⟩ := mem_offOf.mp hp
  refine mem_fz.mpr ⟨h1, fun hm => h2 ?_⟩
  rcases List.mem_cons.mp hm with e | hm
  · rw [e]; simp
  · have hw : p.1 ≠ M.wl := (hpw _ hm).symm
    by_cases h : p.1 ∈ c7 A M.wl n
    · refine List.mem_append_left _ ?_
      simp only [c7, List.mem_cons, List.not_mem_nil, or_false] at h ⊢
      rcases h with h | h | h | h
      · exact .inl h
      · exact .inr (.inl h)
      · exact absurd h hw
      · exact .inr (.inr (.inr h))
    · obtain ⟨_, hc, _⟩ := H.cell p.1 (.tail _ hm)
      exact List.mem_append_right _ (List.mem_map.mpr ⟨_, mem_offOf.mpr ⟨hc, h⟩, rfl⟩)
theorem SceneIn.apartQ (H : SceneIn w led A M K st) (hn : Two n) : Apart (qR A M n) (offOf (qR A M n) led) := ⟨(q_oth hn H.ne).1, off_offOf _ _⟩
theorem SceneIn.wtQ (H : SceneIn w led A M K st) (hn : Two n) {vs : List Value} {xs : List Wt} (h : All2 (WtIn led) vs xs) : All2 (WtIn (offOf (qR A M n) led)) vs xs :=
  h.mono fun _ _ h => by
    obtain ⟨a, k, tg, tc, ts, rfl, hm⟩ := h
    exact ⟨a, k, tg, tc, ts, rfl, mem_offOf.mpr ⟨hm, fun h => H.tup hm ((q_sub hn).1 _ h)⟩⟩
theorem SceneIn.queuePost (H : SceneIn w led A M K st) (hn : Two n) (hf : Fun new) {sl rl : Addr} {q' : QSt} {nb ns nr : Nat} {svs rvs : List Value}
    (hq : QIn new (A.q n) (A.qd n) (A.b n) sl rl (A.kQ n) (A.tQ n) q'.room (A.trq n) q'.cl nb ns nr q'.buf svs rvs q'.snd q'.rcv) (hr : ∀ p ∈ offOf (qR A M n) led, p ∈ new) (D : Apart [A.q n, A.qd n, A.b n, sl, rl] (offOf (qR A M n) led)) :
    SceneIn w new A (mq M n sl rl) K { st with q := setI st.q n q' } ∧ Keep A M led (mq M n sl rl) new ∧ ∀ p ∈ offOf ([A.q n, A.qd n, A.b n, sl, rl] ++ (offOf (qR A M n) led).map (·.1)) new, p ∈ fz A (mq M n sl rl) new := by
  obtain ⟨S, kp⟩ := H.queue hf hn (sl := sl) (rl := rl) (q' := q') (fun p hp h => hr p (mem_offOf.mpr ⟨hp, h⟩)) (fun p hp h => D.off p (mem_offOf.mpr ⟨hp, h⟩)) D.ne ⟨_, _, _, _, _, hq⟩
  refine ⟨S, kp, fun p hp => ?_⟩
  obtain ⟨h1, h2⟩ := mem_offOf.mp hp
  refine mem_fz.mpr ⟨h1, fun hm => h2 ?_⟩
  rcases (q_sub (A := A) (M := mq M n sl rl) hn).2.2 _ hm with h | h
  · rw [qR_mq] at h
    exact List.mem_append_left _ h
  · rw [nqR_mq hn] at h
    obtain ⟨_, hc, _⟩ := H.cell p.1 ((q_sub hn).2.1 _ h)
    exact List.mem_append_right _ (List.mem_map.mpr ⟨_, mem_offOf.mpr ⟨hc, fun h' => (q_oth hn H.ne).2.2 _ h' _ h rfl⟩, rfl⟩)
theorem two_lt (hn : Two n) : 0 ≤ n ∧ n < 1000 ∧ (chL A)[n.toNat]? = some (.ref (A.C n)) := by rcases hn with rfl | rfl <;> exact ⟨by decide, by decide, rfl⟩
end
section
variable {w : World} {led : List Cell} {A : SA} {M : MV} {K : List Cell} {st : St} {n : Int} {kd : Str} {tk tn : Tok} {v : Value}
noncomputable def mayDo (st : St) (kd : Str) (n : Int) : Bool := if kd = sSend then maySend (st.cl n) (st.held n) (st.room n) st.es n else mayTake (st.cl n) (st.held n) st.es n
theorem may_do_S (H : SceneIn w led A M K st) (hn : Two n) (hh : (st.held n).length ≤ 100) : CallSpec 470 3700 w 103 [.ref A.P, .str kd tk, .int n tn] led (fun r new => new = led ∧ r = .bool (mayDo st kd n)) := by
  obtain ⟨nw, vs, nc, hp⟩ := H.pl
  obtain ⟨nh, hc⟩ := H.chn n hn
  obtain ⟨h1, h2, h3⟩ := two_lt (A := A) hn
  exact may_do_spec hp hc h1 h2 h3 hh hp.P hp.pd
theorem may_no_S (H : SceneIn w led A M K st) : CallSpec 470 3700 w 103 [.ref A.P, .str kd tk, .none] led (fun r new => new = led ∧ r = .bool false) := by
  obtain ⟨nw, vs, nc, hp⟩ := H.pl
  exact may_do_none hp.P hp.pd
theorem size_of_S (H : SceneIn w led A M K st) (hn : Two n) (hh : (st.held n).length ≤ 100) : CallSpec 460 3600 w 63 [.ref A.P, .int n tn] led (P_size_of_spec led (st.held n)) := by
  obtain ⟨nw, vs, nc, hp⟩ := H.pl
  obtain ⟨nh, hc⟩ := H.chn n hn
  obtain ⟨h1, h2, h3⟩ := two_lt (A := A) hn
  exact size_of_spec hp hc h1 h2 h3 hh
theorem room_of_S (H : SceneIn w led A M K st) (hn : Two n) : CallSpec 460 3600 w 70 [.ref A.P, .int n tn] led (fun r new => new = led ∧ r = .int (st.room n) (A.tr n)) := by
  obtain ⟨nw, vs, nc, hp⟩ := H.pl
  obtain ⟨nh, hc⟩ := H.chn n hn
  obtain ⟨h1, h2, h3⟩ := two_lt (A := A) hn
  exact room_of_spec hp hc h1 h2 h3
theorem doNow_es : ∀ e ∈ (doNow kd (st.cl n) (st.held n) st.es n v).es, e ∈ st.es := by
  intro e he
  unfold doNow sendNow takeNow at he
  split at he
  · split at he
    · exact he
    · split at he
      · exact he
      · exact (List.mem_filter.mp he).1
  · split at he
    · split at he <;> exact he
    · split at he <;> exact (List.mem_filter.mp he).1
inductive P_do_now_S (w : World) (led : List Cell) (A : SA) (M : MV) (K : List Cell) (st : St) (n : Int) (kd : Str) (v : Value) (r : Value) (new : List Cell) : Prop where
  | mk (M' : _) (h1 : SceneIn w new A M' K { st with es := (doNow kd (st.cl n) (st.held n) st.es n v).es, held := setI st.held n (doNow kd (st.cl n) (st.held n) st.es n v).held }) (h2 : Keep A M led M' new) (h3 : ResIn (fz A M' new) r (doNow kd (st.cl n) (st.held n) st.es n v).told (doNow kd (st.cl n) (st.held n) st.es n v).rows) : P_do_now_S w led A M K st n kd v r new
noncomputable def T_do_now_S (w : World) (led : List Cell) (A : SA) (M : MV) (K : List Cell) (st : St) (n : Int) (kd : Str) (v : Value) (C : Value → List Cell → Prop) : Prop := ∀ new : List Cell, ∀ M', (SceneIn w new A M' K { st with es := (doNow kd (st.cl n) (st.held n) st.es n v).es, held := setI st.held n (doNow kd (st.cl n) (st.held n) st.es n v).held }) → (Keep A M led M' new) → ∀ a n9 tv rl rvs c, (a, tupO [tv, .ref rl] n9) ∈ (fz A M' new) → RIn (fz A M' new) tv (doNow kd (st.cl n) (st.held n) st.es n v).told → (rl, listOf (List.toArray rvs) c) ∈ (fz A M' new) → All2 (RowIn (fz A M' new)) rvs (doNow kd (st.cl n) (st.held n) st.es n v).rows → C (.ref a) new
theorem U_do_now_S {w : World} {led : List Cell} {A : SA} {M : MV} {K : List Cell} {st : St} {n : Int} {kd : Str} {v : Value} : ∀ C, T_do_now_S w led A M K st n kd v C → ∀ r new, P_do_now_S w led A M K st n kd v r new → C r new := fun C k9 r new h9 => by
  obtain ⟨M', h1, h2, a, n, tv, rl, rvs, c, rfl, q2, q3, q4, q5⟩ := h9
  exact k9 new M' h1 h2 a n tv rl rvs c q2 q3 q4 q5
theorem do_now_S (H : SceneIn w led A M K st) (hn : Two n) (hz : st.es.length ≤ 100) (hh : (st.held n).length ≤ 100) (hv : Sc v) :
    CallSpec 470 3700 w 124 [.ref A.P, .str kd tk, .int n tn, v] led (P_do_now_S w led A M K st n kd v) := by
  obtain ⟨nw, vs, nc, hp⟩ := H.pl
  obtain ⟨nh, hc⟩ := H.chn n hn
  obtain ⟨h1, h2, h3⟩ := two_lt (A := A) hn
  refine (do_now_spec (w := w) (kd := kd) (tk := tk) (tn := tn) (nw := nw) (nc := nc) (nh := nh) (k := A.kP) (t := A.tP) (k' := A.kC n) (t' := A.tC n) (tr := A.tr n) (room := st.room n) (cl := st.cl n) (v := v) (rest := offOf (c7 A M.wl n) led) h1 h2 h3 (H.es7 hn hp.es) hz hc.sc hh hv H.se (H.apart7 hn)).weak
    (relay (cells := [(A.P, instObj 148 A.pd), (A.pd, dictOf (pEs A.kP A.tP A.ch M.wl) 2), (M.wl, listOf vs.toArray nw), (A.ch, listOf (chL A).toArray nc), (A.C n, instObj 31 (A.cd n)), (A.cd n, dictOf (cEs (A.kC n) (A.tC n) (st.room n) (A.tr n) (A.hl n) (st.cl n)) 3), (A.hl n, listOf (st.held n).toArray nh)])
      (subCons hp.P (subCons hp.pd (subCons hp.wl (subCons hp.ch (subCons hc.C (subCons hc.cd (subCons hc.hl subNil)))))))) ?_
  rintro r new hf ⟨wl', nw', vs', nh', hpl, hch, hr, D, hres⟩
  obtain ⟨S, kp, hz⟩ := H.plainPost hn hf hpl hch hr D fun e he => H.se e (doNow_es e he)
  rw [setI_id] at S
  exact ⟨_, S, kp, hres.mono hz⟩
theorem ended_es {kd : Str} {n : Int} {told : PyData} {es es' : List Ent} {rows : List Row} (h : Ended kd n told es rows es') : ∀ e ∈ es', e ∈ es := by
  induction h with
  | done _ => exact fun _ h => h
  | step _ _ ih => exact fun e he => (List.mem_filter.mp (ih e he)).1
/-- what a close of the plain channels comes to -/
noncomputable def CloseEff (st : St) (n : Int) (e : Eff) : Prop := if st.cl n = true then e = ⟨st.held n, st.es, panicD sTwice, []⟩ else
  ∃ rows₁ es₁ rows₂ es₂, Ended sTake n goneD st.es rows₁ es₁ ∧ Ended sSend n (panicD sClosed) es₁ rows₂ es₂ ∧ e = ⟨st.held n, es₂, doneD, rows₁ ++ rows₂⟩
inductive P_close_now_S (w : World) (led : List Cell) (A : SA) (M : MV) (K : List Cell) (st : St) (n : Int) (r : Value) (new : List Cell) : Prop where
  | mk (M' : _) (e : _) (h1 : CloseEff st n e) (h2 : SceneIn w new A M' K { st with es := e.es, cl := setI st.cl n true }) (h3 : Keep A M led M' new) (h4 : ResIn (fz A M' new) r e.told e.rows) : P_close_now_S w led A M K st n r new
noncomputable def T_close_now_S (w : World) (led : List Cell) (A : SA) (M : MV) (K : List Cell) (st : St) (n : Int) (C : Value → List Cell → Prop) : Prop := ∀ new : List Cell, ∀ M', ∀ e, (CloseEff st n e) → (SceneIn w new A M' K { st with es := e.es, cl := setI st.cl n true }) → (Keep A M led M' new) → ∀ a n9 tv rl rvs c, (a, tupO [tv, .ref rl] n9) ∈ (fz A M' new) → RIn (fz A M' new) tv e.told → (rl, listOf (List.toArray rvs) c) ∈ (fz A M' new) → All2 (RowIn (fz A M' new)) rvs e.rows → C (.ref a) new
theorem U_close_now_S {w : World} {led : List Cell} {A : SA} {M : MV} {K : List Cell} {st : St} {n : Int} : ∀ C, T_close_now_S w led A M K st n C → ∀ r new, P_close_now_S w led A M K st n r new → C r new := fun C k9 r new h9 => by
  obtain ⟨M', e, h1, h2, h3, a, n, tv, rl, rvs, c, rfl, q2, q3, q4, q5⟩ := h9
  exact k9 new M' e h1 h2 h3 a n tv rl rvs c q2 q3 q4 q5
theorem close_now_S (H : SceneIn w led A M K st) (hn : Two n) (hz : st.es.length ≤ 100) :
    CallSpec 460 3600 w 131 [.ref A.P, .int n tn] led (P_close_now_S w led A M K st n) := by
  obtain ⟨nw, vs, nc, hp⟩ := H.pl
  obtain ⟨nh, hc⟩ := H.chn n hn
  obtain ⟨h1, h2, h3⟩ := two_lt (A := A) hn
  refine (close_now_spec (w := w) (tn := tn) (nw := nw) (nc := nc) (nh := nh) (k := A.kP) (t := A.tP) (k' := A.kC n) (t' := A.tC n) (tr := A.tr n) (room := st.room n) (cl := st.cl n) (rest := offOf (c7 A M.wl n) led) h1 h2 h3 (H.es7 hn hp.es) hz hc.sc (H.apart7 hn)).weak
    (relay (cells := [(A.P, instObj 148 A.pd), (A.pd, dictOf (pEs A.kP A.tP A.ch M.wl) 2), (M.wl, listOf vs.toArray nw), (A.ch, listOf (chL A).toArray nc), (A.C n, instObj 31 (A.cd n)), (A.cd n, dictOf (cEs (A.kC n) (A.tC n) (st.room n) (A.tr n) (A.hl n) (st.cl n)) 3), (A.hl n, listOf (st.held n).toArray nh)])
      (subCons hp.P (subCons hp.pd (subCons hp.wl (subCons hp.ch (subCons hc.C (subCons hc.cd (subCons hc.hl subNil)))))))) ?_
  rintro r new hf ⟨hx⟩
  by_cases hcl : st.cl n = true
  · rw [if_pos hcl] at hx
    obtain ⟨wl', nw', vs', nh', hpl, hch, hr, D, hres⟩ := hx
    obtain ⟨S, kp, hz⟩ := H.plainPost hn hf hpl hch hr D H.se
    rw [setI_id] at S
    exact ⟨_, ⟨st.held n, st.es, panicD sTwice, []⟩, by rw [CloseEff, if_pos hcl], S, kp, hres.mono hz⟩
  · rw [if_neg hcl] at hx
    obtain ⟨rows₁, es₁, rows₂, es₂, e1, e2, wl', nw', vs', nh', hpl, hch, hr, D, hres⟩ := hx
    obtain ⟨S, kp, hz⟩ := H.plainPost hn hf hpl hch hr D fun e he => H.se e (ended_es e1 e (ended_es e2 e he))
    rw [setI_id] at S
    exact ⟨_, ⟨st.held n, es₂, doneD, rows₁ ++ rows₂⟩, by rw [CloseEff, if_neg hcl]; exact ⟨_, _, _, _, e1, e2, rfl⟩, S, kp, hres.mono hz⟩
noncomputable def T_close_no (w : World) (led : List Cell) (A : SA) (M : MV) (K : List Cell) (st : St) (told : PyData) (C : Value → List Cell → Prop) : Prop :=
  ∀ new : List Cell, SceneIn w new A M K st → Keep A M led M new → ∀ a n tv rl rvs c, (a, tupO [tv, .ref rl] n) ∈ fz A M new → RIn (fz A M new) tv told → (rl, listOf (List.toArray rvs) c) ∈ fz A M new → All2 (RowIn (fz A M new)) rvs [] → C (.ref a) new
theorem U_close_no {w : World} {led : List Cell} {A : SA} {M : MV} {K : List Cell} {st : St} {told : PyData} : ∀ C, T_close_no w led A M K st told C → ∀ r new, (SceneIn w new A M K st ∧ Keep A M led M new ∧ ResIn (fz A M new) r told []) → C r new := fun C k9 r new h9 => by
  obtain ⟨h1, h2, a, n, tv, rl, rvs, c, rfl, q2, q3, q4, q5⟩ := h9
  exact k9 new h1 h2 a n tv rl rvs c q2 q3 q4 q5
theorem close_no_S (H : SceneIn w led A M K st) : CallSpec 460 3600 w 131 [.ref A.P, .none] led (fun r new => SceneIn w new A M K st ∧ Keep A M led M new ∧ ResIn (fz A M new) r (panicD sNil) []) := by
  refine (close_now_none (w := w) (P := A.P) (news := led)).weak (fun _ h => h) ?_
  rintro r new hf ⟨hs, hr⟩
  refine ⟨H.mono hs hf, fun p hp hq => ⟨hs p hp, hq⟩, hr.mono fun p hp => ?_⟩
  obtain ⟨h1, h2⟩ := mem_offOf.mp hp
  refine mem_fz.mpr ⟨h1, fun hm => h2 ?_⟩
  obtain ⟨o, ho, _⟩ := H.cell _ hm
  exact List.mem_map.mpr ⟨_, ho, rfl⟩
theorem waitEnts_sc {g : Int} {gh : Option Int} : ∀ {ds : List Deed} {c : Nat}, (∀ d ∈ ds, Sc d.v) → ∀ e ∈ waitEnts g gh c ds, Sc e.v
  | [], _, _, _, he => nomatch he
  | d :: ds, c, h, e, he => by
    simp only [waitEnts] at he
    have ih := waitEnts_sc (g := g) (gh := gh) (ds := ds) (c := c + 1) (fun d hd => h d (.tail _ hd))
    cases hd : d.n with
    | none => rw [hd] at he; exact ih e he
    | some n =>
      rw [hd] at he
      rcases List.mem_cons.mp he with rfl | he
      · exact h d (.head _)
      · exact ih e he
theorem wait_for_S {dl : Addr} {nd : Nat} {dvs : List Value} {ds : List Deed} {g : Int} {tg : Tok} (gh : Option Int) (H : SceneIn w led A M K st) (hds : All2 (DeedIn led) dvs ds) (hdl : (dl, listOf dvs.toArray nd) ∈ led) (hdr : dl ∉ roles A M) (hz : st.es.length ≤ 100) (hdz : ds.length ≤ 10) (hsc : ∀ d ∈ ds, Sc d.v) :
    CallSpec 470 3700 w 145 [.ref A.P, .int g tg, .ref dl] led (fun r new => r = .none ∧ SceneIn w new A M K { st with es := st.es ++ waitEnts g gh 0 ds } ∧ Keep A M led M new) := by
  obtain ⟨nw, vs, nc, hp⟩ := H.pl
  have sub : ∀ b ∈ [A.P, A.pd, M.wl], b ∈ plR A M := fun b hb => mem_sel (is := [1, 2, 0]) (l := plR A M) hb (by show ∀ i ∈ _, i < 10; decide)
  have hD : Apart [A.P, A.pd, M.wl] (offOf [A.P, A.pd, M.wl] led) := ⟨pw_sel (is := [5, 6, 0]) H.ne (by decide) (by show ∀ i ∈ _, i < 27; decide), off_offOf _ _⟩
  have ut : ∀ {a : Addr} {vs : List Value} {k : Nat}, (a, tupO vs k) ∈ led → (a, tupO vs k) ∈ offOf [A.P, A.pd, M.wl] led := fun h => mem_offOf.mpr ⟨h, fun q => H.tup h (pl_ro _ (sub _ q))⟩
  refine (wait_for_spec (w := w) (P := A.P) (pd := A.pd) (wl := M.wl) (ch := A.ch) (k := A.kP) (t := A.tP) (nw := nw) (vs := vs) (tg := tg) (g := g) (rest := offOf [A.P, A.pd, M.wl] led) (T := offOf [A.P, A.pd, M.wl] led) gh (fun _ h => h) (hp.es.mono fun _ _ h => ?_) (hds.mono fun _ _ h => ?_) (mem_offOf.mpr ⟨hdl, fun q => hdr (pl_ro _ (sub _ q))⟩) hz hdz hD).weak
    (relay (cells := [(A.P, instObj 148 A.pd), (A.pd, dictOf (pEs A.kP A.tP A.ch M.wl) 2), (M.wl, listOf vs.toArray nw)]) (subCons hp.P (subCons hp.pd (subCons hp.wl subNil)))) ?_
  · obtain ⟨a, k, tg, tk, tn, tc, rfl, hm⟩ := h
    exact ⟨a, k, tg, tk, tn, tc, rfl, ut hm⟩
  · obtain ⟨a, c, tk, tn, rfl, hm⟩ := h
    exact ⟨a, c, tk, tn, rfl, ut hm⟩
  · rintro r new hf ⟨rfl, nw', vs', rc, rfl, D, _, hes, _⟩
    have hr : ∀ p ∈ led, p.1 ∉ [A.P, A.pd, M.wl] → p ∈ (A.P, instObj 148 A.pd) :: (A.pd, dictOf (pEs A.kP A.tP A.ch M.wl) 2) :: (M.wl, listOf (List.toArray vs') nw') :: (rc ++ offOf [A.P, A.pd, M.wl] led) := fun p hp hq => .tail _ (.tail _ (.tail _ (List.mem_append_right _ (mem_offOf.mpr ⟨hp, hq⟩))))
    rw [List.take_length] at hes
    have q3 : ∀ b ∈ [A.ch, A.C 0, A.cd 0, A.hl 0, A.C 1, A.cd 1, A.hl 1], b ∉ [A.P, A.pd, M.wl] := by
      have q := pw_sel (is := [7, 8, 9, 10, 11, 12, 13, 5, 6, 0]) H.ne (by decide) (by show ∀ i ∈ _, i < 27; decide)
      exact fun b hb h => (List.pairwise_append (l₁ := [A.ch, A.C 0, A.cd 0, A.hl 0, A.C 1, A.cd 1, A.hl 1]) (l₂ := [A.P, A.pd, M.wl])).mp q |>.2.2 b hb b h rfl
    have pp := (pl_oth H.ne).1
    obtain ⟨S, kp⟩ := H.plain hf (wl' := M.wl) (es' := st.es ++ waitEnts g gh 0 ds) (held' := st.held) (cl' := st.cl) (fun p hp hq => hr p hp fun h => hq (sub _ h)) (fun p hp hq e => hq (by rw [e]; exact sub _ (by row_room_at im9))) (fun b hb => ((List.pairwise_cons.mp pp).1 b hb).symm)
      ⟨nw', vs', nc, .head _, .tail _ (.head _), .tail _ (.tail _ (.head _)), hr _ hp.ch (q3 _ (by row_room_at im9)), hes.mono fun _ _ h => h.mono fun p hp => .tail _ (.tail _ (.tail _ hp))⟩
      (fun e he => (List.mem_append.mp he).elim (H.se e) (waitEnts_sc hsc e)) (fun j hj => by
        obtain ⟨nh, h⟩ := H.chn j hj
        refine ⟨nh, hr _ h.C (q3 _ ?_), hr _ h.cd (q3 _ ?_), hr _ h.hl (q3 _ ?_), h.sc⟩ <;> exact Two.onM hj (by row_room_at im9) (by row_room_at im9))
    exact ⟨rfl, S, kp⟩
noncomputable def canSend (q : QSt) : Bool := q.cl || !q.rcv.isEmpty || decide ((q.buf.length : Int) < q.room)
noncomputable def canRecv (q : QSt) : Bool := !q.buf.isEmpty || !q.snd.isEmpty || q.cl
theorem can_send_S (H : SceneIn w led A M K st) (hn : Two n) (hb : (st.q n).buf.length ≤ 100) : CallSpec 480 3800 w 187 [.ref (A.q n)] led (fun r new => new = led ∧ r = .bool (canSend (st.q n))) := by
  obtain ⟨nb, ns, nr, sv, rv, h⟩ := H.qn n hn
  exact can_send_spec h hb
theorem can_receive_S (H : SceneIn w led A M K st) (hn : Two n) (hb : (st.q n).buf.length ≤ 100) : CallSpec 480 3800 w 194 [.ref (A.q n)] led (fun r new => new = led ∧ r = .bool (canRecv (st.q n))) := by
  obtain ⟨nb, ns, nr, sv, rv, h⟩ := H.qn n hn
  exact can_receive_spec h hb
theorem size_S (H : SceneIn w led A M K st) (hn : Two n) (hb : (st.q n).buf.length ≤ 100) : CallSpec 480 3800 w 232 [.ref (A.q n)] led (P_size_spec (st.q n).buf led) := by
  obtain ⟨nb, ns, nr, sv, rv, h⟩ := H.qn n hn
  exact size_spec h hb
structure QSz (q : QSt) : Prop where
  b : q.buf.length ≤ 100
  s : q.snd.length ≤ 100
  r : q.rcv.length ≤ 100
theorem mq_id {M : MV} {n : Int} : mq M n (M.sl n) (M.rl n) = M := by unfold mq; rw [setI_id, setI_id]
theorem offer_S {wv : Value} {x : Wt} (H : SceneIn w led A M K st) (hn : Two n) (hz : QSz (st.q n)) (hx : WtIn led wv x) (hsx : Sc x.v) :
    CallSpec 480 3800 w 201 [.ref (A.q n), wv] led (fun r new => SceneIn w new A M K { st with q := setI st.q n (qOffer (st.q n) x).st } ∧ Keep A M led M new ∧ OutIn (fz A M new) r (qOffer (st.q n) x).first (qOffer (st.q n) x).rows) := by
  obtain ⟨nb, ns, nr, sv, rv, h⟩ := H.qn n hn
  have hx' := H.wtQ hn (.cons hx .nil)
  cases hx' with | cons hx' _ =>
  refine (offer_spec (w := w) (k := A.kQ n) (t := A.tQ n) (room := (st.q n).room) (tr := A.trq n) (cl := (st.q n).cl) (nb := nb) (ns := ns) (nr := nr) (rest := offOf (qR A M n) led) (H.wtQ hn h.hsnd) (H.wtQ hn h.hrcv) h.scb h.scs h.scr hz.b hx' hsx hz.s hz.r (H.apartQ hn)).weak
    (relay (cells := [(A.q n, instObj 235 (A.qd n)), (A.qd n, dictOf (qEs (A.kQ n) (A.tQ n) (st.q n).room (A.trq n) (A.b n) (M.sl n) (M.rl n) (st.q n).cl) 5), (A.b n, listOf (st.q n).buf.toArray nb), (M.sl n, listOf sv.toArray ns), (M.rl n, listOf rv.toArray nr)]) (subCons h.q (subCons h.qd (subCons h.b (subCons h.s (subCons h.r subNil)))))) ?_
  rintro r new hf ⟨nb', ns', nr', sv', rv', hq, hr, ho⟩
  obtain ⟨S, kp, hz⟩ := H.queuePost hn hf hq hr (H.apartQ hn)
  rw [mq_id] at S kp hz
  exact ⟨S, kp, ho.mono hz⟩
theorem take_S {wv : Value} {x : Wt} (H : SceneIn w led A M K st) (hn : Two n) (hz : QSz (st.q n)) (hx : WtIn led wv x) (hsx : Sc x.v) :
    CallSpec 480 3800 w 208 [.ref (A.q n), wv] led (fun r new => SceneIn w new A M K { st with q := setI st.q n (qTake (st.q n) x).st } ∧ Keep A M led M new ∧ OutIn (fz A M new) r (qTake (st.q n) x).first (qTake (st.q n) x).rows) := by
  obtain ⟨nb, ns, nr, sv, rv, h⟩ := H.qn n hn
  have hx' := H.wtQ hn (.cons hx .nil)
  cases hx' with | cons hx' _ =>
  refine (take_spec (w := w) (k := A.kQ n) (t := A.tQ n) (room := (st.q n).room) (tr := A.trq n) (cl := (st.q n).cl) (nb := nb) (ns := ns) (nr := nr) (rest := offOf (qR A M n) led) (H.wtQ hn h.hsnd) (H.wtQ hn h.hrcv) h.scb h.scs h.scr hz.b hx' hsx hz.s hz.r (H.apartQ hn)).weak
    (relay (cells := [(A.q n, instObj 235 (A.qd n)), (A.qd n, dictOf (qEs (A.kQ n) (A.tQ n) (st.q n).room (A.trq n) (A.b n) (M.sl n) (M.rl n) (st.q n).cl) 5), (A.b n, listOf (st.q n).buf.toArray nb), (M.sl n, listOf sv.toArray ns), (M.rl n, listOf rv.toArray nr)]) (subCons h.q (subCons h.qd (subCons h.b (subCons h.s (subCons h.r subNil)))))) ?_
  rintro r new hf ⟨nb', ns', nr', sv', rv', hq, hr, ho⟩
  obtain ⟨S, kp, hz⟩ := H.queuePost hn hf hq hr (H.apartQ hn)
  rw [mq_id] at S kp hz
  exact ⟨S, kp, ho.mono hz⟩
inductive P_close_S (w : World) (led : List Cell) (A : SA) (M : MV) (K : List Cell) (st : St) (n : Int) (r : Value) (new : List Cell) : Prop where
  | mk (M' : _) (h1 : SceneIn w new A M' K { st with q := setI st.q n (qClose (st.q n)).st }) (h2 : Keep A M led M' new) (h3 : OutIn (fz A M' new) r (qClose (st.q n)).first (qClose (st.q n)).rows) : P_close_S w led A M K st n r new
noncomputable def T_close_S (w : World) (led : List Cell) (A : SA) (M : MV) (K : List Cell) (st : St) (n : Int) (C : Value → List Cell → Prop) : Prop := ∀ r : Value, ∀ new : List Cell, ∀ M', (SceneIn w new A M' K { st with q := setI st.q n (qClose (st.q n)).st }) → (Keep A M led M' new) → (OutIn (fz A M' new) r (qClose (st.q n)).first (qClose (st.q n)).rows) → C (r) (new)
theorem U_close_S {w : World} {led : List Cell} {A : SA} {M : MV} {K : List Cell} {st : St} {n : Int} : ∀ C, T_close_S w led A M K st n C → ∀ r new, P_close_S w led A M K st n r new → C r new := fun C k9 r new h9 => by
  obtain ⟨M', h1, h2, h3⟩ := h9
  exact k9 r new M' h1 h2 h3
theorem close_S (H : SceneIn w led A M K st) (hn : Two n) (hz : QSz (st.q n)) :
    CallSpec 460 3600 w 220 [.ref (A.q n)] led (P_close_S w led A M K st n) := by
  obtain ⟨nb, ns, nr, sv, rv, h⟩ := H.qn n hn
  refine (close_spec (w := w) (k := A.kQ n) (t := A.tQ n) (room := (st.q n).room) (tr := A.trq n) (cl := (st.q n).cl) (nb := nb) (ns := ns) (nr := nr) (rest := offOf (qR A M n) led) (fun _ h => h) (H.wtQ hn h.hsnd) (H.wtQ hn h.hrcv) h.scb h.scs h.scr hz.s hz.r (H.apartQ hn)).weak
    (relay (cells := [(A.q n, instObj 235 (A.qd n)), (A.qd n, dictOf (qEs (A.kQ n) (A.tQ n) (st.q n).room (A.trq n) (A.b n) (M.sl n) (M.rl n) (st.q n).cl) 5), (A.b n, listOf (st.q n).buf.toArray nb), (M.sl n, listOf sv.toArray ns), (M.rl n, listOf rv.toArray nr)]) (subCons h.q (subCons h.qd (subCons h.b (subCons h.s (subCons h.r subNil)))))) ?_
  rintro r new hf ⟨sl, rl, nb', ns', nr', sv', rv', hq, hr, D, ho⟩
  obtain ⟨S, kp, hz⟩ := H.queuePost hn hf hq hr D
  exact ⟨_, S, kp, ho.mono hz⟩
theorem keepS_mem {o : Option Int} {l : List Wt} : ∀ x ∈ keepS o l, x ∈ l := by
  cases o with
  | none => exact fun _ h => h
  | some t => exact fun x h => (List.mem_filter.mp h).1
inductive P_forget_S (w : World) (led : List Cell) (A : SA) (M : MV) (K : List Cell) (st : St) (n : Int) (g : Int) (r : Value) (new : List Cell) : Prop where
  | mk (h1 : r = .none) (M' : _) (h2 : SceneIn w new A M' K { st with q := setI st.q n (forget (some g) (st.q n)) }) (h3 : Keep A M led M' new) : P_forget_S w led A M K st n g r new
noncomputable def T_forget_S (w : World) (led : List Cell) (A : SA) (M : MV) (K : List Cell) (st : St) (n : Int) (g : Int) (C : Value → List Cell → Prop) : Prop := ∀ new : List Cell, ∀ M', (SceneIn w new A M' K { st with q := setI st.q n (forget (some g) (st.q n)) }) → (Keep A M led M' new) → C (.none) (new)
theorem U_forget_S {w : World} {led : List Cell} {A : SA} {M : MV} {K : List Cell} {st : St} {n : Int} {g : Int} : ∀ C, T_forget_S w led A M K st n g C → ∀ r new, P_forget_S w led A M K st n g r new → C r new := fun C k9 r new h9 => by
  obtain ⟨rfl, M', h2, h3⟩ := h9
  exact k9 new M' h2 h3
theorem forget_S {g : Int} {tg : Tok} (H : SceneIn w led A M K st) (hn : Two n) (hz : QSz (st.q n)) :
    CallSpec 480 3800 w 225 [.ref (A.q n), .int g tg] led (P_forget_S w led A M K st n g) := by
  obtain ⟨nb, ns, nr, sv, rv, h⟩ := H.qn n hn
  refine (forget_spec (w := w) (k := A.kQ n) (t := A.tQ n) (room := (st.q n).room) (tr := A.trq n) (cl := (st.q n).cl) (nb := nb) (ns := ns) (nr := nr) (buf := (st.q n).buf) (rest := offOf (qR A M n) led) (T := offOf (qR A M n) led) (g := g) (tg := tg) (fun _ h => h) (H.wtQ hn h.hsnd) (H.wtQ hn h.hrcv) hz.s hz.r (H.apartQ hn)).weak
    (relay (cells := [(A.q n, instObj 235 (A.qd n)), (A.qd n, dictOf (qEs (A.kQ n) (A.tQ n) (st.q n).room (A.trq n) (A.b n) (M.sl n) (M.rl n) (st.q n).cl) 5), (A.b n, listOf (st.q n).buf.toArray nb), (M.sl n, listOf sv.toArray ns), (M.rl n, listOf rv.toArray nr)]) (subCons h.q (subCons h.qd (subCons h.b (subCons h.s (subCons h.r subNil)))))) ?_
  rintro r new hf ⟨rfl, sl, rl, ns', nr', sv', rv', rfl, h1, h2, D⟩
  have up : ∀ p ∈ offOf (qR A M n) led, p ∈ (A.q n, instObj 235 (A.qd n)) :: (A.qd n, dictOf (qEs (A.kQ n) (A.tQ n) (st.q n).room (A.trq n) (A.b n) sl rl (st.q n).cl) 5) :: (A.b n, listOf (st.q n).buf.toArray nb) :: (sl, listOf (List.toArray sv') ns') :: (rl, listOf (List.toArray rv') nr') :: offOf (qR A M n) led := fun p hp => .tail _ (.tail _ (.tail _ (.tail _ (.tail _ hp))))
  obtain ⟨S, kp, _⟩ := H.queuePost (q' := forget (some g) (st.q n)) hn hf ⟨.head _, .tail _ (.head _), .tail _ (.tail _ (.head _)), .tail _ (.tail _ (.tail _ (.head _))), .tail _ (.tail _ (.tail _ (.tail _ (.head _)))), h1.mono fun _ _ h => h.mono up, h2.mono fun _ _ h => h.mono up, h.scb, fun x hx => h.scs x (keepS_mem (o := some g) x hx), fun x hx => h.scr x (keepS_mem (o := some g) x hx)⟩ up D
  exact ⟨rfl, _, S, kp⟩
end
end
section
open PySem PySem.W PySem.Calls PyProof.Rows
set_option maxRecDepth 100000
theorem item_sc {prog : Program} {w : World} {A : Around} {E : Value → Shared → Prop} {s : Shared} {h₀ : Heap} {L a : Addr} {o : Obj} {kvs : List (Str × Value)} {v : Value} {k : Str} {t : Tok} {news : List Cell} {value slice : PySem.Expr} {Q : Value → Shared → Prop}
    (N : News h₀ L s.heap news) (hp : (a, o) ∈ news) (hd : o.IsDictOf (strKind prog w) kvs) (hl : valueAt kvs k = some v) (h : Q v { s with toks := s.toks + 1 })
    (hs : subscripted slice false (.ref a) (.str k t) = operate [.ref a, .str k t] (getItem (.ref a) (.str k t)) := by with_unfolding_all rfl) (hg : ∀ r, letTemporaryGo value (.ref a) r = pure () := by intro _; with_unfolding_all rfl) :
    wpAny (model prog w) A (subscriptTail value slice (.ref a) (.str k t)) Q E s := kda_item N hp hd (strKind_is prog w k t) hl h hs hg
theorem mSc {prog : Program} {w : World} {A : Around} {E : Value → Shared → Prop} {h : Heap} {gs : Array GenState} {d : Drawn} {tk : Nat} {os : OsState} {h₀ : Heap} {L a : Addr} {o : Obj} {kvs : List (Str × Value)} {v : Value} {k : Str} {t : Tok} {news : List Cell} {value slice : PySem.Expr} {Q : Value → Shared → Prop}
    (N : News h₀ L h news) (hp : (a, o) ∈ news) (hd : o.IsDictOf (strKind prog w) kvs) (hl : valueAt kvs k = some v) (hs : true = noSlice slice) (hg : ∀ r, letTemporaryGo value (.ref a) r = pure ()) (g : Q v ⟨h, gs, d, tk + 1, os⟩) :
    wpAny (model prog w) A (subscriptTail value slice (.ref a) (.str k t)) Q E ⟨h, gs, d, tk, os⟩ := item_sc N hp hd hl g (sub_plain hs) hg
theorem fm64 (a : Int) : Builtin.Int.intBits (a.fmod 2147483647) ≤ 64 := by
  have h1 := Int.fmod_nonneg_of_pos a (b := 2147483647) (by decide)
  have h2 := Int.fmod_lt_of_pos a (b := 2147483647) (by decide)
  exact intBits_le_64 (by omega) (by omega)
noncomputable abbrev Thr (n : Int) : Prop := n = 0 ∨ n = 1 ∨ n = 2
noncomputable def chO (n : Int) : Option Int := if n < 2 then some n else none
theorem nlL_at {A : SA} {n : Int} (hn : Two n) : (nlL A)[n.toNat]? = some (.int n (A.nt n)) := by rcases hn with rfl | rfl <;> rfl
theorem qlL_at {A : SA} {n : Int} (hn : Two n) : (qlL A)[n.toNat]? = some (.ref (A.q n)) := by rcases hn with rfl | rfl <;> rfl
theorem thr_two {n : Int} (h : Thr n) (h2 : n < 2) : Two n := by rcases h with h | h | h <;> omega
section
variable {w : World} {led led₁ new own : List Cell} {A : SA} {M M' M'' : MV} {K : List Cell} {st st₂ : St}
theorem SceneIn.offOwn (H : SceneIn w led A M K st) (ho : OwnOff own (led.map (·.1))) : ∀ p ∈ own, p.1 ∉ roles A M := fun p hp hm => by
  obtain ⟨o, h, _⟩ := H.cell _ hm
  exact ho p hp p.1 (List.mem_map.mpr ⟨_, h, rfl⟩) rfl
/-- cells that are none of the scene's leave -/
theorem SceneIn.drop (H : SceneIn w new A M K st) (h1 : ∀ p ∈ own, p.1 ∉ roles A M) (h2 : ∀ p ∈ own, NoTup p.2) (h3 : ∀ p ∈ own, p ∈ new) (h4 : ∀ p ∈ K, ∀ q ∈ own, q.1 ≠ p.1) : SceneIn w (offOf (own.map (·.1)) new) A M K st := by
  have ur : ∀ {b : Addr} {o : Obj}, b ∈ roles A M → (b, o) ∈ new → (b, o) ∈ offOf (own.map (·.1)) new := fun hb hp => mem_offOf.mpr ⟨hp, fun hm => by
    obtain ⟨q, hq, e⟩ := List.mem_map.mp hm
    exact h1 q hq (by rw [e]; exact hb)⟩
  have ut : ∀ {a : Addr} {vs : List Value} {n : Nat}, (a, tupO vs n) ∈ new → (a, tupO vs n) ∈ offOf (own.map (·.1)) new := fun h => mem_offOf.mpr ⟨h, fun hm => by
    obtain ⟨q, hq, e⟩ := List.mem_map.mp hm
    have := H.fn _ (h3 q hq) _ h e
    rw [this] at hq
    exact h2 _ hq _ _ rfl⟩
  refine ⟨fun p hp q hq => H.fn p (mem_offOf.mp hp).1 q (mem_offOf.mp hq).1, H.ne, ?_, H.se, ?_, ?_, ?_, ?_, ?_, H.oS, ?_, ?_, H.tH.mono (fun _ h => ur (by row_room_at im9) h) (fun _ h => h), H.tW.mono (fun _ h => ur (by row_room_at im9) h) fun _ h => h, ?_⟩
  · obtain ⟨nw, vs, nc, h⟩ := H.pl
    refine ⟨nw, vs, nc, ur (by row_room_at im9) h.P, ur (by row_room_at im9) h.pd, ur (by row_room_at im9) h.wl, ur (by row_room_at im9) h.ch, h.es.mono fun _ _ h => ?_⟩
    obtain ⟨a, n, tg, tk, tn, tc, rfl, hm⟩ := h
    exact ⟨a, n, tg, tk, tn, tc, rfl, ut hm⟩
  · intro n hn
    obtain ⟨nh, h⟩ := H.chn n hn
    refine ⟨nh, ur ?_ h.C, ur ?_ h.cd, ur ?_ h.hl, h.sc⟩ <;> exact Two.onM hn (by row_room_at im9) (by row_room_at im9)
  · intro n hn
    obtain ⟨nb, ns, nr, sv, rv, h⟩ := H.qn n hn
    have uw : ∀ v x, WtIn new v x → WtIn (offOf (own.map (·.1)) new) v x := by
      rintro v x ⟨a, n, tg, tc, ts, rfl, hm⟩
      exact ⟨a, n, tg, tc, ts, rfl, ut hm⟩
    refine ⟨nb, ns, nr, sv, rv, ur ?_ h.q, ur ?_ h.qd, ur ?_ h.b, ur ?_ h.s, ur ?_ h.r, h.hsnd.mono uw, h.hrcv.mono uw, h.scb, h.scs, h.scr⟩ <;> exact Two.onM hn (by row_room_at im9) (by row_room_at im9)
  · obtain ⟨na, avs, h, h'⟩ := H.al
    exact ⟨na, avs, ur (by row_room_at im9) h, h'⟩
  · obtain ⟨o, kvs, h, h'⟩ := H.sd
    exact ⟨o, kvs, ur (by row_room_at im9) h, h'⟩
  · exact ur (by row_room_at im9) H.S
  · obtain ⟨c, h⟩ := H.QL
    exact ⟨c, ur (by row_room_at im9) h⟩
  · obtain ⟨c, h⟩ := H.NL
    exact ⟨c, ur (by row_room_at im9) h⟩
  · exact fun p hp => ⟨mem_offOf.mpr ⟨(H.K p hp).1, fun hm => by
      obtain ⟨q, hq, e⟩ := List.mem_map.mp hm
      exact h4 p hp q hq e⟩, (H.K p hp).2⟩
theorem SceneIn.settle (H₁ : SceneIn w led₁ A M' K st) (hown : OwnOff own (led₁.map (·.1))) (hnt : ∀ p ∈ own, NoTup p.2) (S : SceneIn w new A M'' K st₂) (kp : Keep A M' (led₁ ++ own) M'' new) :
    SceneIn w (offOf (own.map (·.1)) new) A M'' K st₂ ∧ (∀ p ∈ offOf (own.map (·.1)) new ++ own, p ∈ new) ∧ (∀ q ∈ offOf (own.map (·.1)) new, ∀ p ∈ own, p.1 ≠ q.1) ∧ Keep A M' led₁ M'' (offOf (own.map (·.1)) new) := by
  have h1 := H₁.offOwn hown
  have hk : ∀ p ∈ own, p ∈ new ∧ p.1 ∉ roles A M'' := fun p hp => kp p (List.mem_append_right _ hp) (h1 p hp)
  have ho : ∀ q ∈ led₁, ∀ p ∈ own, p.1 ≠ q.1 := fun q hq p hp => hown p hp q.1 (List.mem_map.mpr ⟨q, hq, rfl⟩)
  refine ⟨S.drop (fun p hp => (hk p hp).2) hnt (fun p hp => (hk p hp).1) fun p hp q hq => ho p (H₁.K p hp).1 q hq, subApp (fun p hp => (mem_offOf.mp hp).1) fun p hp => (hk p hp).1, fun q hq p hp e => (mem_offOf.mp hq).2 (List.mem_map.mpr ⟨p, hp, e⟩), fun p hp hr => ?_⟩
  obtain ⟨a, b⟩ := kp p (List.mem_append_left _ hp) hr
  exact ⟨mem_offOf.mpr ⟨a, fun hm => by
    obtain ⟨q, hq, e⟩ := List.mem_map.mp hm
    exact ho p hp q hq e⟩, b⟩
theorem SceneIn.caseK (H : SceneIn w led A M K st) (kp : Keep A M led M' new) {v : Value} {c : CaseD} (h : CaseIn A led v c) : CaseIn A new v c := by
  obtain ⟨a, cnt, tk, rfl, hm⟩ := h
  refine ⟨a, cnt, tk, rfl, ?_⟩
  cases hs : c.send with
  | true => rw [hs, if_pos rfl] at hm; rw [if_pos rfl]; exact (kp _ hm (H.tup hm)).1
  | false => rw [hs, if_neg (by decide)] at hm; rw [if_neg (by decide)]; exact (kp _ hm (H.tup hm)).1
end
end
section
theorem channel_spec {w : World} {led : List Cell} {A : SA} {M : MV} {K : List Cell} {st : St} {n : Int} {tn : Tok} (H : SceneIn w led A M K st) (hn : Thr n) :
    CallSpec 480 3800 w 305 [.ref A.S, .int n tn] led (fun r new => new = led ∧ r = qref A (chO n)) := by
  unfold CallSpec
  intro gd cn cs a ccd cls outer A₀ base h₀ L m s p loose mean mg mb Q E B F X N T hk ret
  have mS := H.S
  have oS := H.oS
  obtain ⟨cq, mQ⟩ := H.QL
  refine wpAny_call ?_
  k_dflt row_room_at enter9
  rcases hn with rfl | rfl | rfl
  · k_steps
    exact ret _ _ _ _ (by assumption) (by assumption) ⟨rfl, rfl⟩
  · k_steps
    exact ret _ _ _ _ (by assumption) (by assumption) ⟨rfl, rfl⟩
  · k_steps
    exact ret _ _ _ _ (by assumption) (by assumption) ⟨rfl, rfl⟩
theorem sizes_spec {w : World} {led : List Cell} {A : SA} {M : MV} {K : List Cell} {st : St} (H : SceneIn w led A M K st) (hq : ∀ n, Two n → (st.q n).room = st.room n ∧ (st.q n).buf = st.held n ∧ (st.held n).length ≤ 100) :
    CallSpec 450 3500 w 352 [.ref A.S] led (fun r new => new = led ∧ r = .bool true) := by
  unfold CallSpec
  intro gd cn cs a ccd cls outer A₀ base h₀ L m s p loose mean mg mb Q E B F X N T hk ret
  have mS := H.S
  have oS := H.oS
  obtain ⟨cq, mQ⟩ := H.QL
  obtain ⟨cnl, mN⟩ := H.NL
  obtain ⟨nw, vs, nc, hp⟩ := H.pl
  have mP := hp.P
  have mpd := hp.pd
  refine wpAny_call ?_
  k_dflt row_room_at enter9
  k_steps
  refine goOn ?_
  (with_unfolding_all refine' for_enumO [Str.ofString "at", Str.ofString "one", Str.ofString "number"] (fun _ l => l = led) ?qhh ?qF ?qN (l := A.QL) (vs := qlL A) (nn := cq) ?qhl ?qh0 ?qturn ?qdone)
  case qhh => rfl
  case qF => assumption
  case qN => assumption
  case qhl => row_room_at mem9
  case qh0 => rfl
  case qturn =>
    rintro i v ti Tt f led₁ own h tk hv rfl _ hown hlt F₁ N₁
    have hi : Two (i : Nat) ∧ v = .ref (A.q (i : Nat)) := by
      match i, hv with
      | 0, hv => exact ⟨.inl rfl, by simpa using hv.symm⟩
      | 1, hv => exact ⟨.inr rfl, by simpa using hv.symm⟩
    obtain ⟨hi, rfl⟩ := hi
    obtain ⟨hq1, hq2, hq3⟩ := hq _ hi
    have hn9 := nlL_at (A := A) hi
    obtain ⟨i0, ix, _⟩ := two_lt (A := A) hi
    generalize hg : ((i : Nat) : Int) = n at hi hq1 hq2 hq3 hn9 i0 ix
    simp only [hg] at N₁
    obtain ⟨nb, ns, nr, sv, rv, hQ⟩ := H.qn n hi
    have m1 := hQ.q
    have m2 := hQ.qd
    have H9 := H.mono (new := (Tt, tupO [.int n ti, .ref (A.q n)] 0) :: (led₁ ++ own)) (by row_room_at sub9) (News.fn N₁)
    (try show wpAny _ _ _ _ _ _)
    k_fold
    k_steps
    refine goOn ?_
    (try k_fold)
    refine' CallSpec.callU (size_of_S H9 hi hq3) U_size_of_spec ?qhh ?qhf ?qhdp ?qhu ?qB ?qF ?qX ?qN ?qhs ?qT ?qhk ?_
    row_room_at sides9
    intro t1 h' tk' F' N'
    k_steps
    refine goOn ?_
    (try k_fold)
    refine' CallSpec.callU (size_S H9 hi (by rw [hq2]; exact hq3)) U_size_spec ?qhh ?qhf ?qhdp ?qhu ?qB ?qF ?qX ?qN ?qhs ?qT ?qhk ?_
    row_room_at sides9
    intro t2 h' tk' F' N'
    rw [hq2]
    k_steps
    · exact absurd rfl (by assumption)
    refine goOn ?_
    (try k_fold)
    refine' CallSpec.callU (room_of_S H9 hi) U2 ?qhh ?qhf ?qhdp ?qhu ?qB ?qF ?qX ?qN ?qhs ?qT ?qhk ?_
    row_room_at sides9
    intro h' tk' F' N'
    rw [hq1] at m2
    k_steps
    · exact absurd rfl (by assumption)
    · refine fend led₁ (by assumption) (by assumption) (by row_room_at keep9) (by row_room_at sub9) (by row_room_at own9) (fun p hp => by rw [List.mem_singleton.mp hp]; row_room_at mem9) rfl
  case qdone =>
    rintro f led' h' tk rfl F' N'
    k_steps
    exact ret _ _ _ _ (by assumption) (by assumption) ⟨rfl, rfl⟩
end
section
inductive P_take_draw_spec (led : List Cell) (sa : Addr) (top : Int) (r : Value) (new : List Cell) : Prop where
  | mk (x' : _) (y' : _) (tx' : _) (ty' : _) (c' : _) (d : _) (td : _) (h1 : r = .int d td) (h2 : 0 ≤ d) (h3 : d < top) (h4 : new = (sa, listOf (List.toArray [.int x' tx', .int y' ty']) c') :: led) : P_take_draw_spec led sa top r new
noncomputable def T_take_draw_spec (led : List Cell) (sa : Addr) (top : Int) (C : Value → List Cell → Prop) : Prop := ∀ x', ∀ y', ∀ tx', ∀ ty', ∀ c', ∀ d, ∀ td, (0 ≤ d) → (d < top) → C (.int d td) ((sa, listOf (List.toArray [.int x' tx', .int y' ty']) c') :: led)
theorem U_take_draw_spec {led : List Cell} {sa : Addr} {top : Int} : ∀ C, T_take_draw_spec led sa top C → ∀ r new, P_take_draw_spec led sa top r new → C r new := fun C k9 r new h9 => by
  obtain ⟨x', y', tx', ty', c', d, td, rfl, h2, h3, rfl⟩ := h9
  exact k9 x' y' tx' ty' c' d td h2 h3
theorem take_draw_spec {w : World} {led : List Cell} {sa : Addr} {x y top : Int} {tx ty tt : Tok} {c : Nat} (ht : 0 < top) (ht2 : top ≤ 100) (hoff : ∀ p ∈ led, p.1 ≠ sa) :
    CallSpec 490 3900 w 286 [.ref sa, .int top tt] ((sa, listOf (List.toArray [.int x tx, .int y ty]) c) :: led) (P_take_draw_spec led sa top) := by
  unfold CallSpec
  intro gd cn cs a ccd cls outer A₀ base h₀ L m s p loose mean mg mb Q E B F X N T hk ret
  refine wpAny_call ?_
  k_dflt row_room_at enter9
  k_steps
  all_goals exact ret _ _ _ _ (by assumption) (by assumption) ⟨_, _, _, _, _, _, _, rfl, Int.fmod_nonneg_of_pos _ ht, Int.fmod_lt_of_pos _ ht, rfl⟩
inductive P_one_spec (led : List Cell) (sa : Addr) (vs : List Value) (r : Value) (new : List Cell) : Prop where
  | mk (x' : _) (y' : _) (tx' : _) (ty' : _) (c' : _) (h1 : new = (sa, listOf (List.toArray [.int x' tx', .int y' ty']) c') :: led) (i : Nat) (h2 : vs[i]? = some r) : P_one_spec led sa vs r new
noncomputable def T_one_spec (led : List Cell) (sa : Addr) (vs : List Value) (C : Value → List Cell → Prop) : Prop := ∀ r : Value, ∀ x', ∀ y', ∀ tx', ∀ ty', ∀ c', ∀ i : Nat, (vs[i]? = some r) → C (r) ((sa, listOf (List.toArray [.int x' tx', .int y' ty']) c') :: led)
theorem U_one_spec {led : List Cell} {sa : Addr} {vs : List Value} : ∀ C, T_one_spec led sa vs C → ∀ r new, P_one_spec led sa vs r new → C r new := fun C k9 r new h9 => by
  obtain ⟨x', y', tx', ty', c', rfl, i, h2⟩ := h9
  exact k9 r x' y' tx' ty' c' i h2
theorem one_spec {w : World} {led : List Cell} {sa la : Addr} {x y : Int} {tx ty : Tok} {c nn : Nat} {vs : List Value} (hm : (la, listOf vs.toArray nn) ∈ led) (h1 : 0 < vs.length) (h2 : vs.length ≤ 100) (hoff : ∀ p ∈ led, p.1 ≠ sa) :
    CallSpec 480 3800 w 293 [.ref sa, .ref la] ((sa, listOf (List.toArray [.int x tx, .int y ty]) c) :: led) (P_one_spec led sa vs) := by
  unfold CallSpec
  intro gd cn cs a ccd cls outer A₀ base h₀ L m s p loose mean mg mb Q E B F X N T hk ret
  refine wpAny_call ?_
  k_dflt row_room_at enter9
  k_steps
  refine goOn ?_
  (try k_fold)
  refine' CallSpec.callU (take_draw_spec (w := w) (x := x) (y := y) (c := c) (top := (vs.length : Int)) ?qp1 ?qp2 hoff) U_take_draw_spec ?qhh ?qhf ?qhdp ?qhu ?qB ?qF ?qX ?qN ?qhs ?qT ?qhk ?_
  row_room_at sides9
  case qp1 => omega
  case qp2 => omega
  intro x' y' tx' ty' c' d td d0 d1 h' tk' F' N'
  have hx : vs[d.toNat]? = some (vs[d.toNat]'(by omega)) := List.getElem?_eq_getElem (by omega)
  generalize vs[d.toNat]'(by omega) = v9 at hx
  k_steps
  exact ret _ _ _ _ (by assumption) (by assumption) ⟨_, _, _, _, _, rfl, _, hx⟩
end
section
noncomputable def enqStep (g t : Int) (i : Nat) (st : St) (c : CaseD) : St := match c.n with
  | none => st
  | some n => { st with q := setI st.q n (if c.send then { st.q n with snd := (st.q n).snd ++ [⟨g, c.v, some (i : Int), some t⟩] } else { st.q n with rcv := (st.q n).rcv ++ [⟨g, .none, some (i : Int), some t⟩] }) }
noncomputable def enqSt (g t : Int) : Nat → St → List CaseD → St
  | _, st, [] => st
  | i, st, c :: cs => enqSt g t (i + 1) (enqStep g t i st c) cs
theorem enqSt_snoc {g t : Int} {c : CaseD} : ∀ (cs : List CaseD) (i : Nat) (st : St), enqSt g t i st (cs ++ [c]) = enqStep g t (i + cs.length) (enqSt g t i st cs) c
  | [], i, st => by simp only [List.nil_append, enqSt, List.length_nil, Nat.add_zero]
  | d :: cs, i, st => by
    have ih := enqSt_snoc (g := g) (t := t) (c := c) cs (i + 1) (enqStep g t i st d)
    have hl : i + 1 + cs.length = i + (d :: cs).length := by rw [List.length_cons]; omega
    rw [hl] at ih
    exact ih
noncomputable def Enq (b : Nat) (st : St) : Prop := ∀ n, Two n → (st.q n).snd.length ≤ b ∧ (st.q n).rcv.length ≤ b
theorem enq_step {g t : Int} {i b : Nat} {st : St} {c : CaseD} (h : Enq b st) : Enq (b + 1) (enqStep g t i st c) := by
  intro n hn
  have := h n hn
  unfold enqStep
  split
  · omega
  · rename_i k _
    show (setI st.q k _ n).snd.length ≤ b + 1 ∧ (setI st.q k _ n).rcv.length ≤ b + 1
    unfold setI
    split
    · rename_i e
      rw [← e]
      split <;> simp <;> omega
    · omega
theorem enq_sz {g t : Int} : ∀ {cs : List CaseD} {i b : Nat} {st : St}, Enq b st → Enq (b + cs.length) (enqSt g t i st cs)
  | [], _, _, _, h => h
  | c :: cs, i, b, st, h => by
    have := enq_sz (g := g) (t := t) (cs := cs) (i := i + 1) (enq_step (g := g) (t := t) (i := i) (c := c) h)
    rw [List.length_cons, show b + (cs.length + 1) = b + 1 + cs.length from by omega]
    exact this
theorem enqueue_spec {w : World} {led : List Cell} {A : SA} {M : MV} {K : List Cell} {st : St} {la : Addr} {cnt : Nat} {cvs : List Value} {cs : List CaseD} {g t : Int} {tg tt : Tok} (H : SceneIn w led A M K st) (hla : (la, listOf cvs.toArray cnt) ∈ led) (hlr : la ∉ roles A M) (hcs : All2 (CaseIn A led) cvs cs) (ho : ∀ c ∈ cs, ∀ n, c.n = some n → Two n) (hz : ∀ n, Two n → QSz (st.q n)) (hcz : cs.length ≤ 10) (hv : ∀ c ∈ cs, Sc c.v) :
    CallSpec 480 3800 w 265 [.ref la, .int g tg, .int t tt] led (fun r new => r = .none ∧ SceneIn w new A M K (enqSt g t 0 st cs) ∧ Keep A M led M new) := by
  unfold CallSpec
  intro gd cn csc a ccd cls outer A₀ base h₀ L m s p loose mean mg mb Q E B F X N T hk ret
  refine wpAny_call ?_
  k_dflt row_room_at enter9
  k_steps
  refine goOn ?_
  (with_unfolding_all refine' for_enumO [Str.ofString "number", Str.ofString "case"] (fun i led₁ => SceneIn w led₁ A M K (enqSt g t 0 st (cs.take i)) ∧ Keep A M led M led₁) ?qhh ?qF ?qN (l := la) (vs := cvs) (nn := cnt) ?qhl ?qh0 ?qturn ?qdone)
  case qhh => rfl
  case qF => assumption
  case qN => assumption
  case qhl => row_room_at mem9
  case qh0 => exact ⟨H, Keep.refl⟩
  case qturn =>
    intro i v ti Tt f led₁ own h tk hv9 hp9 hl₁ hown hlt F₁ N₁
    obtain ⟨H₁, kp₁⟩ := hp9
    obtain ⟨c, hc, hci⟩ := hcs.get hv9
    have hci' := H.caseK kp₁ hci
    have hsn : enqSt g t 0 st (cs.take (i + 1)) = enqStep g t i (enqSt g t 0 st (cs.take i)) c := by rw [take_snoc hc, enqSt_snoc, take_len hc, Nat.zero_add]
    obtain ⟨ca, cc, tk9, rfl, hm⟩ := hci'
    have hvc := hv c (List.mem_of_getElem? hc)
    cases hn : c.n with
    | none =>
      simp only [hn, qref] at hm
      rw [enqStep, hn] at hsn
      cases hs : c.send with
      | true =>
        simp only [hs, if_true] at hm
        (try show wpAny _ _ _ _ _ _)
        k_fold
        k_steps
        exact fend led₁ (by assumption) (by assumption) (by row_room_at keep9) (by row_room_at sub9) (by row_room_at own9) (fun p hp => by rw [List.mem_singleton.mp hp]; row_room_at mem9) ⟨by rw [hsn]; exact H₁, kp₁⟩
      | false =>
        simp only [hs, Bool.false_eq_true, if_false] at hm
        (try show wpAny _ _ _ _ _ _)
        k_fold
        k_steps
        exact fend led₁ (by assumption) (by assumption) (by row_room_at keep9) (by row_room_at sub9) (by row_room_at own9) (fun p hp => by rw [List.mem_singleton.mp hp]; row_room_at mem9) ⟨by rw [hsn]; exact H₁, kp₁⟩
    | some n =>
      have h2 := ho c (List.mem_of_getElem? hc) n hn
      simp only [hn, qref] at hm
      have hez := enq_sz (g := g) (t := t) (cs := cs.take i) (i := 0) (b := 100) (st := st) fun n hn => ⟨(hz n hn).s, (hz n hn).r⟩
      have hil : (cs.take i).length ≤ 10 := by rw [List.length_take]; omega
      rw [enqStep, hn] at hsn
      simp only at hsn
      cases hs : c.send with
      | true =>
        simp only [hs, if_true] at hm
        rw [if_pos hs] at hsn
        generalize hst : enqSt g t 0 st (cs.take i) = st₁ at H₁ hsn hez
        obtain ⟨nb, ns, nr, sv, rv, hQ⟩ := H₁.qn n h2
        have pw := (q_oth h2 H₁.ne).1
        have hLm : (M.sl n) ∈ roles A M := (q_sub h2).1 _ (by row_room_at im9)
        have f1 : A.q n ≠ M.sl n := by simp only [qR, List.pairwise_cons] at pw; exact pw.1 _ (by simp)
        have f2 : A.qd n ≠ M.sl n := by simp only [qR, List.pairwise_cons] at pw; exact pw.2.1 _ (by simp)
        have f3 : Tt ≠ M.sl n := (ne_of_lt_all hlt _ (memL hQ.s)).symm
        have f4 : ca ≠ M.sl n := fun e => H₁.tup hm (by rw [e]; exact hLm)
        have g0 : ∀ p ∈ led₁, p.1 ≠ M.sl n → p ∈ offOf [M.sl n] ((Tt, tupO [.int (i : Nat) ti, .ref ca] 0) :: (led₁ ++ own)) := fun p hp hq => mem_off1 (.tail _ (memL hp)) hq
        have g1 := g0 _ hQ.q f1
        have g2 := g0 _ hQ.qd f2
        have g3 : (Tt, tupO [.int (i : Nat) ti, .ref ca] 0) ∈ offOf [M.sl n] ((Tt, tupO [.int (i : Nat) ti, .ref ca] 0) :: (led₁ ++ own)) := mem_off1 (.head _) f3
        have g4 := g0 _ hm f4
        have g5 : ∀ p ∈ own, p ∈ offOf [M.sl n] ((Tt, tupO [.int (i : Nat) ti, .ref ca] 0) :: (led₁ ++ own)) := fun p hp => mem_off1 (.tail _ (memR hp)) (hown p hp _ (List.mem_map.mpr ⟨_, hQ.s, rfl⟩))
        have g6 : ∀ p ∈ offOf [M.sl n] ((Tt, tupO [.int (i : Nat) ti, .ref ca] 0) :: (led₁ ++ own)), p.1 ≠ M.sl n := fun p hp e => (mem_offOf.mp hp).2 (List.mem_singleton.mpr e)
        have g7 : ∀ p ∈ offOf [M.sl n] led₁, p ∈ offOf [M.sl n] ((Tt, tupO [.int (i : Nat) ti, .ref ca] 0) :: (led₁ ++ own)) := fun p hp => mem_offOf.mpr ⟨.tail _ (memL (mem_offOf.mp hp).1), (mem_offOf.mp hp).2⟩
        have Na := News.sub (l' := (M.sl n, listOf sv.toArray ns) :: offOf [M.sl n] ((Tt, tupO [.int (i : Nat) ti, .ref ca] 0) :: (led₁ ++ own))) N₁ (subCons (.tail _ (memL hQ.s)) fun p hp => (mem_offOf.mp hp).1)
        clear N₁
        have hsl := hQ.hsnd.length
        have hsz9 : sv.length ≤ 200 := by have := hez n h2; omega
        generalize offOf [M.sl n] ((Tt, tupO [.int (i : Nat) ti, .ref ca] 0) :: (led₁ ++ own)) = rest9 at Na g0 g1 g2 g3 g4 g5 g6 g7
        (try show wpAny _ _ _ _ _ _)
        k_fold
        k_steps
        rename_i D9 _ _ l9 _ _ _ F8 _ N8
        (try simp only [List.push_toArray, List.cons_append, List.nil_append] at N8)
        have N9 : News _ _ _ ((M.sl n, listOf (List.toArray (sv ++ [.ref D9])) (ns + 1)) :: (D9, tupO [.int g tg, c.v, .int (i : Nat) ti, .int t tt] 0) :: rest9) := News.sub N8 (by row_room_at sub9)
        have l8 : ∀ p ∈ rest9, p.1 ≠ D9 := ne_of_lt_all (d := D9) (l := rest9) (by row_room_at lt9)
        have l7 : M.sl n ≠ D9 := by row_room_at ne9
        have up9 : ∀ p ∈ led₁, p.1 ∉ qR A M n → p ∈ (M.sl n, listOf (List.toArray (sv ++ [.ref D9])) (ns + 1)) :: (D9, tupO [.int g tg, c.v, .int (i : Nat) ti, .int t tt] 0) :: offOf [M.sl n] led₁ := fun p hp hq => .tail _ (.tail _ (mem_off1 hp fun e => hq (by rw [e]; row_room_at im9)))
        have hnx : ∀ p ∈ (M.sl n, listOf (List.toArray (sv ++ [.ref D9])) (ns + 1)) :: (D9, tupO [.int g tg, c.v, .int (i : Nat) ti, .int t tt] 0) :: offOf [M.sl n] led₁, p ∈ (M.sl n, listOf (List.toArray (sv ++ [.ref D9])) (ns + 1)) :: (D9, tupO [.int g tg, c.v, .int (i : Nat) ti, .int t tt] 0) :: rest9 := subCons (.head _) (subCons (.tail _ (.head _)) fun p hp => .tail _ (.tail _ (g7 p hp)))
        have hul : ∀ {b : Addr} {o : Obj}, b ≠ M.sl n → (b, o) ∈ led₁ → (b, o) ∈ (M.sl n, listOf (List.toArray (sv ++ [.ref D9])) (ns + 1)) :: (D9, tupO [.int g tg, c.v, .int (i : Nat) ti, .int t tt] 0) :: offOf [M.sl n] led₁ := fun hb hp => .tail _ (.tail _ (mem_off1 hp hb))
        have huw : ∀ v x, WtIn led₁ v x → WtIn ((M.sl n, listOf (List.toArray (sv ++ [.ref D9])) (ns + 1)) :: (D9, tupO [.int g tg, c.v, .int (i : Nat) ti, .int t tt] 0) :: offOf [M.sl n] led₁) v x := by
          intro v x hp9
          obtain ⟨a, k, tg, tc, ts, rfl, hm⟩ := hp9
          exact ⟨a, k, tg, tc, ts, rfl, hul (fun e => H₁.tup hm (by rw [e]; exact hLm)) hm⟩
        obtain ⟨S, kp, _⟩ := H₁.queuePost (q' := { st₁.q n with snd := (st₁.q n).snd ++ [⟨g, c.v, some (i : Int), some t⟩] }) h2 (News.fn (News.sub N9 hnx)) (nb := nb) (ns := ns + 1) (nr := nr) (svs := sv ++ [.ref D9]) (rvs := rv) (sl := M.sl n) (rl := M.rl n)
          ⟨hul f1 hQ.q, hul f2 hQ.qd, hul (by simp only [qR, List.pairwise_cons] at pw; exact pw.2.2.1 _ (by simp)) hQ.b, .head _, hul (Ne.symm (by simp only [qR, List.pairwise_cons] at pw; exact pw.2.2.2.1 _ (by simp))) hQ.r, (hQ.hsnd.mono huw).snoc ⟨D9, 0, tg, ti, tt, rfl, .tail _ (.head _)⟩, hQ.hrcv.mono huw, hQ.scb, (fun x hx => (List.mem_append.mp hx).elim (hQ.scs x) fun h => by rw [List.mem_singleton.mp h]; exact hvc), hQ.scr⟩ (fun p hp => up9 p (mem_offOf.mp hp).1 (mem_offOf.mp hp).2) (H₁.apartQ h2)
        rw [mq_id] at S kp
        exact fend _ (by assumption) N9 (by row_room_at keep9) (subApp hnx fun p hp => .tail _ (.tail _ (g5 p hp))) (ownCons (fun p hp => g6 p (g5 p hp)) (ownCons (fun p hp => l8 p (g5 p hp)) fun q hq p hp => hown p hp q.1 (List.mem_map.mpr ⟨q, (mem_offOf.mp hq).1, rfl⟩))) (fun p hp => by rw [List.mem_singleton.mp hp]; exact hul (fun e => (kp₁ _ hla hlr).2 (by rw [show la = M.sl n from e]; exact hLm)) hl₁) ⟨by rw [hsn]; exact S, kp₁.trans kp⟩
      | false =>
        simp only [hs, Bool.false_eq_true, if_false] at hm
        rw [if_neg (by rw [hs]; decide)] at hsn
        generalize hst : enqSt g t 0 st (cs.take i) = st₁ at H₁ hsn hez
        obtain ⟨nb, ns, nr, sv, rv, hQ⟩ := H₁.qn n h2
        have pw := (q_oth h2 H₁.ne).1
        have hLm : (M.rl n) ∈ roles A M := (q_sub h2).1 _ (by row_room_at im9)
        have f1 : A.q n ≠ M.rl n := by simp only [qR, List.pairwise_cons] at pw; exact pw.1 _ (by simp)
        have f2 : A.qd n ≠ M.rl n := by simp only [qR, List.pairwise_cons] at pw; exact pw.2.1 _ (by simp)
        have f3 : Tt ≠ M.rl n := (ne_of_lt_all hlt _ (memL hQ.r)).symm
        have f4 : ca ≠ M.rl n := fun e => H₁.tup hm (by rw [e]; exact hLm)
        have g0 : ∀ p ∈ led₁, p.1 ≠ M.rl n → p ∈ offOf [M.rl n] ((Tt, tupO [.int (i : Nat) ti, .ref ca] 0) :: (led₁ ++ own)) := fun p hp hq => mem_off1 (.tail _ (memL hp)) hq
        have g1 := g0 _ hQ.q f1
        have g2 := g0 _ hQ.qd f2
        have g3 : (Tt, tupO [.int (i : Nat) ti, .ref ca] 0) ∈ offOf [M.rl n] ((Tt, tupO [.int (i : Nat) ti, .ref ca] 0) :: (led₁ ++ own)) := mem_off1 (.head _) f3
        have g4 := g0 _ hm f4
        have g5 : ∀ p ∈ own, p ∈ offOf [M.rl n] ((Tt, tupO [.int (i : Nat) ti, .ref ca] 0) :: (led₁ ++ own)) := fun p hp => mem_off1 (.tail _ (memR hp)) (hown p hp _ (List.mem_map.mpr ⟨_, hQ.r, rfl⟩))
        have g6 : ∀ p ∈ offOf [M.rl n] ((Tt, tupO [.int (i : Nat) ti, .ref ca] 0) :: (led₁ ++ own)), p.1 ≠ M.rl n := fun p hp e => (mem_offOf.mp hp).2 (List.mem_singleton.mpr e)
        have g7 : ∀ p ∈ offOf [M.rl n] led₁, p ∈ offOf [M.rl n] ((Tt, tupO [.int (i : Nat) ti, .ref ca] 0) :: (led₁ ++ own)) := fun p hp => mem_offOf.mpr ⟨.tail _ (memL (mem_offOf.mp hp).1), (mem_offOf.mp hp).2⟩
        have Na := News.sub (l' := (M.rl n, listOf rv.toArray nr) :: offOf [M.rl n] ((Tt, tupO [.int (i : Nat) ti, .ref ca] 0) :: (led₁ ++ own))) N₁ (subCons (.tail _ (memL hQ.r)) fun p hp => (mem_offOf.mp hp).1)
        clear N₁
        have hsl := hQ.hrcv.length
        have hsz9 : rv.length ≤ 200 := by have := hez n h2; omega
        generalize offOf [M.rl n] ((Tt, tupO [.int (i : Nat) ti, .ref ca] 0) :: (led₁ ++ own)) = rest9 at Na g0 g1 g2 g3 g4 g5 g6 g7
        (try show wpAny _ _ _ _ _ _)
        k_fold
        k_steps
        rename_i D9 _ _ l9 _ _ _ F8 _ N8
        (try simp only [List.push_toArray, List.cons_append, List.nil_append] at N8)
        have N9 : News _ _ _ ((M.rl n, listOf (List.toArray (rv ++ [.ref D9])) (nr + 1)) :: (D9, tupO [.int g tg, .none, .int (i : Nat) ti, .int t tt] 0) :: rest9) := News.sub N8 (by row_room_at sub9)
        have l8 : ∀ p ∈ rest9, p.1 ≠ D9 := ne_of_lt_all (d := D9) (l := rest9) (by row_room_at lt9)
        have l7 : M.rl n ≠ D9 := by row_room_at ne9
        have up9 : ∀ p ∈ led₁, p.1 ∉ qR A M n → p ∈ (M.rl n, listOf (List.toArray (rv ++ [.ref D9])) (nr + 1)) :: (D9, tupO [.int g tg, .none, .int (i : Nat) ti, .int t tt] 0) :: offOf [M.rl n] led₁ := fun p hp hq => .tail _ (.tail _ (mem_off1 hp fun e => hq (by rw [e]; row_room_at im9)))
        have hnx : ∀ p ∈ (M.rl n, listOf (List.toArray (rv ++ [.ref D9])) (nr + 1)) :: (D9, tupO [.int g tg, .none, .int (i : Nat) ti, .int t tt] 0) :: offOf [M.rl n] led₁, p ∈ (M.rl n, listOf (List.toArray (rv ++ [.ref D9])) (nr + 1)) :: (D9, tupO [.int g tg, .none, .int (i : Nat) ti, .int t tt] 0) :: rest9 := subCons (.head _) (subCons (.tail _ (.head _)) fun p hp => .tail _ (.tail _ (g7 p hp)))
        have hul : ∀ {b : Addr} {o : Obj}, b ≠ M.rl n → (b, o) ∈ led₁ → (b, o) ∈ (M.rl n, listOf (List.toArray (rv ++ [.ref D9])) (nr + 1)) :: (D9, tupO [.int g tg, .none, .int (i : Nat) ti, .int t tt] 0) :: offOf [M.rl n] led₁ := fun hb hp => .tail _ (.tail _ (mem_off1 hp hb))
        have huw : ∀ v x, WtIn led₁ v x → WtIn ((M.rl n, listOf (List.toArray (rv ++ [.ref D9])) (nr + 1)) :: (D9, tupO [.int g tg, .none, .int (i : Nat) ti, .int t tt] 0) :: offOf [M.rl n] led₁) v x := by
          intro v x hp9
          obtain ⟨a, k, tg, tc, ts, rfl, hm⟩ := hp9
          exact ⟨a, k, tg, tc, ts, rfl, hul (fun e => H₁.tup hm (by rw [e]; exact hLm)) hm⟩
        obtain ⟨S, kp, _⟩ := H₁.queuePost (q' := { st₁.q n with rcv := (st₁.q n).rcv ++ [⟨g, .none, some (i : Int), some t⟩] }) h2 (News.fn (News.sub N9 hnx)) (nb := nb) (ns := ns) (nr := nr + 1) (svs := sv) (rvs := rv ++ [.ref D9]) (sl := M.sl n) (rl := M.rl n)
          ⟨hul f1 hQ.q, hul f2 hQ.qd, hul (by simp only [qR, List.pairwise_cons] at pw; exact pw.2.2.1 _ (by simp)) hQ.b, hul (by simp only [qR, List.pairwise_cons] at pw; exact pw.2.2.2.1 _ (by simp)) hQ.s, .head _, hQ.hsnd.mono huw, (hQ.hrcv.mono huw).snoc ⟨D9, 0, tg, ti, tt, rfl, .tail _ (.head _)⟩, hQ.scb, hQ.scs, (fun x hx => (List.mem_append.mp hx).elim (hQ.scr x) fun h => by rw [List.mem_singleton.mp h]; exact .inl rfl)⟩ (fun p hp => up9 p (mem_offOf.mp hp).1 (mem_offOf.mp hp).2) (H₁.apartQ h2)
        rw [mq_id] at S kp
        exact fend _ (by assumption) N9 (by row_room_at keep9) (subApp hnx fun p hp => .tail _ (.tail _ (g5 p hp))) (ownCons (fun p hp => g6 p (g5 p hp)) (ownCons (fun p hp => l8 p (g5 p hp)) fun q hq p hp => hown p hp q.1 (List.mem_map.mpr ⟨q, (mem_offOf.mp hq).1, rfl⟩))) (fun p hp => by rw [List.mem_singleton.mp hp]; exact hul (fun e => (kp₁ _ hla hlr).2 (by rw [show la = M.rl n from e]; exact hLm)) hl₁) ⟨by rw [hsn]; exact S, kp₁.trans kp⟩
  case qdone =>
    intro f led' h' tk hJ F' N'
    rw [hcs.length, List.take_length] at hJ
    k_steps
    exact ret _ _ _ _ (by assumption) (by assumption) ⟨rfl, hJ⟩
end
section
noncomputable def caseReady (st : St) (c : CaseD) : Bool := match c.n with
  | none => false
  | some n => if c.send then canSend (st.q n) else canRecv (st.q n)
noncomputable abbrev CaseOk (st : St) (c : CaseD) : Prop := ∀ n, c.n = some n → Two n ∧ QSz (st.q n)
theorem is_ready_spec {w : World} {led : List Cell} {A : SA} {M : MV} {K : List Cell} {st : St} {cv : Value} {c : CaseD} (H : SceneIn w led A M K st) (hc : CaseIn A led cv c) (ho : CaseOk st c) :
    CallSpec 470 3700 w 246 [cv] led (fun r new => new = led ∧ r = .bool (caseReady st c)) := by
  unfold CallSpec
  intro gd cn cs a ccd cls outer A₀ base h₀ L m s p loose mean mg mb Q E B F X N T hk ret
  obtain ⟨ca, cnt, tk, rfl, hm⟩ := hc
  cases hn : c.n with
  | none =>
    simp only [hn, qref] at hm
    cases hs : c.send with
    | true =>
      simp only [hs, if_true] at hm
      refine wpAny_call ?_
      k_dflt row_room_at enter9
      k_steps
      exact ret _ _ _ _ (by assumption) (by assumption) ⟨rfl, by rw [caseReady, hn]⟩
    | false =>
      simp only [hs, Bool.false_eq_true, if_false] at hm
      refine wpAny_call ?_
      k_dflt row_room_at enter9
      k_steps
      exact ret _ _ _ _ (by assumption) (by assumption) ⟨rfl, by rw [caseReady, hn]⟩
  | some n =>
    simp only [hn, qref] at hm
    obtain ⟨h2, hz⟩ := ho n hn
    obtain ⟨nb, ns, nr, sv, rv, hQ⟩ := H.qn n h2
    have m1 := hQ.q
    have m2 := hQ.qd
    cases hs : c.send with
    | true =>
      simp only [hs, if_true] at hm
      refine wpAny_call ?_
      k_dflt row_room_at enter9
      k_steps
      refine goOn ?_
      (try k_fold)
      refine' CallSpec.callU (can_send_S H h2 hz.b) U2 ?qhh ?qhf ?qhdp ?qhu ?qB ?qF ?qX ?qN ?qhs ?qT ?qhk ?_
      row_room_at sides9
      intro h' tk' F' N'
      k_steps
      exact ret _ _ _ _ (by assumption) (by assumption) ⟨rfl, by rw [caseReady, hn, hs]; rfl⟩
    | false =>
      simp only [hs, Bool.false_eq_true, if_false] at hm
      refine wpAny_call ?_
      k_dflt row_room_at enter9
      k_steps
      refine goOn ?_
      (try k_fold)
      refine' CallSpec.callU (can_receive_S H h2 hz.b) U2 ?qhh ?qhf ?qhdp ?qhu ?qB ?qF ?qX ?qN ?qhs ?qT ?qhk ?_
      row_room_at sides9
      intro h' tk' F' N'
      k_steps
      exact ret _ _ _ _ (by assumption) (by assumption) ⟨rfl, by rw [caseReady, hn, hs]; rfl⟩
/-- the numbers of those for which p holds -/
noncomputable def idxs {α : Type} (p : α → Bool) : Nat → List α → List Int
  | _, [] => []
  | i, x :: xs => if p x then (i : Int) :: idxs p (i + 1) xs else idxs p (i + 1) xs
theorem idxs_snoc {α : Type} (p : α → Bool) (x : α) : ∀ (xs : List α) (i : Nat), idxs p i (xs ++ [x]) = idxs p i xs ++ (if p x then [((i + xs.length : Nat) : Int)] else [])
  | [], i => by simp only [List.nil_append, idxs, List.length_nil, Nat.add_zero]
  | y :: xs, i => by
    have ih := idxs_snoc p x xs (i + 1)
    have hl : i + 1 + xs.length = i + (y :: xs).length := by rw [List.length_cons]; omega
    rw [hl] at ih
    simp only [List.cons_append, idxs]
    rw [ih]
    split <;> rfl
theorem ints_snoc {n : Int} {t : Tok} : ∀ {vs : List Value} {ns : List Int}, IntsAre vs ns → IntsAre (vs ++ [.int n t]) (ns ++ [n])
  | _, _, .nil => .cons n t .nil
  | _, _, .cons n' t' h => .cons n' t' (ints_snoc h)
inductive P_ready_cases_spec (led : List Cell) (st : St) (cs : List CaseD) (r : Value) (new : List Cell) : Prop where
  | mk (D : _) (ys : _) (c : _) (h1 : r = .ref D) (h2 : new = (D, listOf (List.toArray ys) c) :: led) (h3 : (∀ p ∈ led, p.1 ≠ D)) (h4 : IntsAre ys (idxs (caseReady st) 0 cs)) : P_ready_cases_spec led st cs r new
noncomputable def T_ready_cases_spec (led : List Cell) (st : St) (cs : List CaseD) (C : Value → List Cell → Prop) : Prop := ∀ D, ∀ ys, ∀ c, ((∀ p ∈ led, p.1 ≠ D)) → (IntsAre ys (idxs (caseReady st) 0 cs)) → C (.ref D) ((D, listOf (List.toArray ys) c) :: led)
theorem U_ready_cases_spec {led : List Cell} {st : St} {cs : List CaseD} : ∀ C, T_ready_cases_spec led st cs C → ∀ r new, P_ready_cases_spec led st cs r new → C r new := fun C k9 r new h9 => by
  obtain ⟨D, ys, c, rfl, rfl, h3, h4⟩ := h9
  exact k9 D ys c h3 h4
theorem ready_cases_spec {w : World} {led : List Cell} {A : SA} {M : MV} {K : List Cell} {st : St} {la : Addr} {cnt : Nat} {cvs : List Value} {cs : List CaseD} (H : SceneIn w led A M K st) (hla : (la, listOf cvs.toArray cnt) ∈ led) (hcs : All2 (CaseIn A led) cvs cs) (ho : ∀ c ∈ cs, CaseOk st c) (hz : cs.length ≤ 10) :
    CallSpec 460 3600 w 251 [.ref la] led (P_ready_cases_spec led st cs) := by
  unfold CallSpec
  intro gd cn csc a ccd cls outer A₀ base h₀ L m s p loose mean mg mb Q E B F X N T hk ret
  have hlen := hcs.length
  refine wpAny_call ?_
  k_dflt row_room_at enter9
  k_steps
  (with_unfolding_all refine' comp_range (n := cvs.length) (a := 0) (b := (cvs.length : Int)) (fun i ys tl => tl = [] ∧ IntsAre ys (idxs (caseReady st) 0 (cs.take i))) ?qhh ?qF ?qN ?qhr ?qhsm ?qhrn ?qhn ?qh0 ?qhx ?qhkd ?qturn ?qdone)
  case qhh => rfl
  case qF => assumption
  case qN => assumption
  case qhr => assumption
  case qhsm => exact small_one (by decide) (by decide) (by omega) (by omega)
  case qhrn => rw [rangeSize_nat]; omega
  case qhn => rw [sizeLine_eq]; omega
  case qh0 => exact ⟨rfl, .nil⟩
  case qhx => intro C'; rfl
  case qhkd => intro C'; rfl
  case qturn =>
    intro C i t ys tl own h tk h₁ tk₁ oC m₂ E' hi hK hys ht ho9 hoC hN hx F₁ N₁
    obtain ⟨rfl, hK⟩ := hK
    (try simp only [List.append_nil, List.cons_append] at N₁)
    have hx9 : cvs[((0 : Int) + (i : Int)).toNat]? = some (cvs[i]'hi) := by
      rw [show ((0 : Int) + (i : Int)).toNat = i from by omega]; exact List.getElem?_eq_getElem hi
    have hi0 : (0 : Int) ≤ 0 + (i : Int) := by omega
    have hi1 : (0 : Int) + (i : Int) < 1000 := by omega
    obtain ⟨c, hc, hci⟩ := hcs.get (List.getElem?_eq_getElem hi)
    generalize cvs[i]'hi = cv at hx9 hci
    have H₉ := H.mono (w := w) (new := _) (by row_room_at sub9) (News.fn N₁)
    have hsn : idxs (caseReady st) 0 (cs.take (i + 1)) = idxs (caseReady st) 0 (cs.take i) ++ (if caseReady st c then [((i : Nat) : Int)] else []) := by
      rw [take_snoc hc, idxs_snoc, take_len hc, Nat.zero_add]
    refine growTurn_one ?_
    (try show wpAny _ _ _ _ _ _)
    k_fold
    k_steps
    refine goOn ?_
    (try k_fold)
    refine' CallSpec.callU (is_ready_spec (c := c) H₉ (hci.mono (by row_room_at sub9)) (ho c (List.mem_of_getElem? hc))) U2 ?qhh ?qhf ?qhdp ?qhu ?qB ?qF ?qX ?qN ?qhs ?qT ?qhk ?_
    row_room_at sides9
    intro h' tk' F' N'
    cases hrd : caseReady st c with
    | true =>
      k_steps
      refine CGrow.intro [] (by assumption) (by assumption) (by row_room_at sub9) (by assumption) offNil offNil offNil ⟨rfl, ?_⟩
      rw [hsn, hrd, if_pos rfl, Int.zero_add]
      exact ints_snoc hK
    | false =>
      k_steps
      refine CGrow.intro [] (by assumption) (by assumption) (by row_room_at sub9) (by assumption) offNil offNil offNil ⟨rfl, ?_⟩
      rw [hsn, hrd, if_neg (by decide), List.append_nil]
      exact hK
  case qdone =>
    intro s₂ Dl ys tl c h' tk hs ht N₁ hD hK
    obtain ⟨hh, rfl⟩ := hs
    obtain ⟨rfl, hK⟩ := hK
    simp only [List.append_nil] at N₁ hD
    (try simp only [List.forall_mem_cons] at hD)
    rw [hlen, List.take_length] at hK
    unfold finE
    intro F₁
    k_steps
    exact ret _ _ _ _ (by assumption) (News.sub (by assumption) (by row_room_at sub9)) ⟨Dl, ys, c, rfl, rfl, hD.2, hK⟩
inductive P_do_case_spec (w : World) (led : List Cell) (A : SA) (M : MV) (K : List Cell) (st : St) (i : Nat) (g : Int) (n : Int) (c : CaseD) (r : Value) (new : List Cell) : Prop where
  | mk (e : _) (h1 : e = (if c.send then qOffer (st.q n) ⟨g, c.v, some (i : Int), none⟩ else qTake (st.q n) ⟨g, .none, some (i : Int), none⟩)) (h2 : SceneIn w new A M K { st with q := setI st.q n e.st }) (h3 : Keep A M led M new) (h4 : OutIn (fz A M new) r e.first e.rows) : P_do_case_spec w led A M K st i g n c r new
noncomputable def T_do_case_spec (w : World) (led : List Cell) (A : SA) (M : MV) (K : List Cell) (st : St) (i : Nat) (g : Int) (n : Int) (c : CaseD) (C : Value → List Cell → Prop) : Prop := ∀ r : Value, ∀ new : List Cell, ∀ e, (e = (if c.send then qOffer (st.q n) ⟨g, c.v, some (i : Int), none⟩ else qTake (st.q n) ⟨g, .none, some (i : Int), none⟩)) → (SceneIn w new A M K { st with q := setI st.q n e.st }) → (Keep A M led M new) → (OutIn (fz A M new) r e.first e.rows) → C (r) (new)
theorem U_do_case_spec {w : World} {led : List Cell} {A : SA} {M : MV} {K : List Cell} {st : St} {i : Nat} {g : Int} {n : Int} {c : CaseD} : ∀ C, T_do_case_spec w led A M K st i g n c C → ∀ r new, P_do_case_spec w led A M K st i g n c r new → C r new := fun C k9 r new h9 => by
  obtain ⟨e, h1, h2, h3, h4⟩ := h9
  exact k9 r new e h1 h2 h3 h4
theorem do_case_spec {w : World} {led : List Cell} {A : SA} {M : MV} {K : List Cell} {st : St} {la : Addr} {cnt : Nat} {cvs : List Value} {cs : List CaseD} {i : Nat} {ti tg : Tok} {g n : Int} {c : CaseD} (H : SceneIn w led A M K st) (hla : (la, listOf cvs.toArray cnt) ∈ led) (hcs : All2 (CaseIn A led) cvs cs) (hc : cs[i]? = some c) (hn : c.n = some n) (h2 : Two n) (hz : QSz (st.q n)) (hv : Sc c.v) (hi : i < 1000) :
    CallSpec 470 3700 w 258 [.ref la, .int (i : Nat) ti, .int g tg] led (P_do_case_spec w led A M K st i g n c) := by
  unfold CallSpec
  intro gd cn csc a ccd cls outer A₀ base h₀ L m s p loose mean mg mb Q E B F X N T hk ret
  have hx : ∃ cv, cvs[((i : Nat) : Int).toNat]? = some cv ∧ CaseIn A led cv c := by
    have hl : i < cvs.length := by
      have := (List.getElem?_eq_some_iff.mp hc).1
      rw [hcs.length]; exact this
    exact ⟨cvs[i], List.getElem?_eq_getElem hl, hcs.at (List.getElem?_eq_getElem hl) hc⟩
  obtain ⟨cv, hx, ca, cc, tk, rfl, hm⟩ := hx
  have i0 : (0 : Int) ≤ (i : Nat) := by omega
  have i1 : ((i : Nat) : Int) < 1000 := by omega
  obtain ⟨nb, ns, nr, sv, rv, hQ⟩ := H.qn n h2
  have m1 := hQ.q
  have m2 := hQ.qd
  simp only [hn, qref] at hm
  cases hs : c.send with
  | true =>
    simp only [hs, if_true] at hm
    refine wpAny_call ?_
    k_dflt row_room_at enter9
    k_steps
    rename_i D9 _ _ l9 _ _ N8
    obtain ⟨t9, N9⟩ : ∃ _ : Nat, News _ _ _ ((D9, tupO [.int g tg, c.v, .int (i : Nat) ti, .none] 0) :: led) := ⟨0, News.sub N8 (by row_room_at sub9)⟩
    have H₉ := H.mono (new := (D9, tupO [.int g tg, c.v, .int (i : Nat) ti, .none] 0) :: led) (by row_room_at sub9) (News.fn N9)
    refine goOn ?_
    (try k_fold)
    refine' CallSpec.callU (offer_S (x := ⟨g, c.v, some (i : Int), none⟩) H₉ h2 hz ⟨D9, 0, tg, ti, 0, rfl, by row_room_at mem9⟩ hv) U3 ?qhh ?qhf ?qhdp ?qhu ?qB ?qF ?qX ?qN ?qhs ?qT ?qhk ?_
    row_room_at sides9
    intro r new S kp ho h' tk' F' N'
    k_steps
    exact ret _ _ _ _ (by assumption) (by assumption) ⟨qOffer (st.q n) ⟨g, c.v, some (i : Int), none⟩, by rw [if_pos hs], S, fun p hp hq => kp p (.tail _ hp) hq, ho⟩
  | false =>
    simp only [hs, Bool.false_eq_true, if_false] at hm
    refine wpAny_call ?_
    k_dflt row_room_at enter9
    k_steps
    rename_i D9 _ _ l9 _ _ N8
    obtain ⟨t9, N9⟩ : ∃ _ : Nat, News _ _ _ ((D9, tupO [.int g tg, .none, .int (i : Nat) ti, .none] 0) :: led) := ⟨0, News.sub N8 (by row_room_at sub9)⟩
    have H₉ := H.mono (new := (D9, tupO [.int g tg, .none, .int (i : Nat) ti, .none] 0) :: led) (by row_room_at sub9) (News.fn N9)
    refine goOn ?_
    (try k_fold)
    refine' CallSpec.callU (take_S (x := ⟨g, .none, some (i : Int), none⟩) H₉ h2 hz ⟨D9, 0, tg, ti, 0, rfl, by row_room_at mem9⟩ (.inl rfl)) U3 ?qhh ?qhf ?qhdp ?qhu ?qB ?qF ?qX ?qN ?qhs ?qT ?qhk ?_
    row_room_at sides9
    intro r new S kp ho h' tk' F' N'
    k_steps
    exact ret _ _ _ _ (by assumption) (by assumption) ⟨qTake (st.q n) ⟨g, .none, some (i : Int), none⟩, by rw [if_neg (by rw [hs]; decide)], S, fun p hp hq => kp p (.tail _ hp) hq, ho⟩
end
section
noncomputable def deqStep (t : Int) (st : St) (c : CaseD) : St := match c.n with
  | none => st
  | some n => { st with q := setI st.q n (forget (some t) (st.q n)) }
noncomputable def deqSt (t : Int) (st : St) (cs : List CaseD) : St := cs.foldl (deqStep t) st
theorem deqSt_snoc {t : Int} {st : St} {cs : List CaseD} {c : CaseD} : deqSt t st (cs ++ [c]) = deqStep t (deqSt t st cs) c := by unfold deqSt; rw [List.foldl_append]; rfl
theorem qsz_forget {o : Option Int} {q : QSt} (h : QSz q) : QSz (forget o q) := by
  cases o with
  | none => exact h
  | some t => exact ⟨h.b, Nat.le_trans (List.length_filter_le _ _) h.s, Nat.le_trans (List.length_filter_le _ _) h.r⟩
theorem deq_sz {t : Int} {cs : List CaseD} : ∀ {st : St}, (∀ n, Two n → QSz (st.q n)) → ∀ n, Two n → QSz ((deqSt t st cs).q n) := by
  induction cs with
  | nil => exact fun h => h
  | cons c cs ih =>
    intro st h
    refine ih (st := deqStep t st c) fun n hn => ?_
    unfold deqStep
    split
    · exact h n hn
    · rename_i k _
      show QSz (setI st.q k _ n)
      unfold setI
      split
      · rename_i e
        rw [← e]
        exact qsz_forget (h n hn)
      · exact h n hn
inductive P_dequeue_spec (w : World) (led : List Cell) (A : SA) (M : MV) (K : List Cell) (st : St) (cs : List CaseD) (t : Int) (r : Value) (new : List Cell) : Prop where
  | mk (h1 : r = .none) (M' : _) (h2 : SceneIn w new A M' K (deqSt t st cs)) (h3 : Keep A M led M' new) : P_dequeue_spec w led A M K st cs t r new
noncomputable def T_dequeue_spec (w : World) (led : List Cell) (A : SA) (M : MV) (K : List Cell) (st : St) (cs : List CaseD) (t : Int) (C : Value → List Cell → Prop) : Prop := ∀ new : List Cell, ∀ M', (SceneIn w new A M' K (deqSt t st cs)) → (Keep A M led M' new) → C (.none) (new)
theorem U_dequeue_spec {w : World} {led : List Cell} {A : SA} {M : MV} {K : List Cell} {st : St} {cs : List CaseD} {t : Int} : ∀ C, T_dequeue_spec w led A M K st cs t C → ∀ r new, P_dequeue_spec w led A M K st cs t r new → C r new := fun C k9 r new h9 => by
  obtain ⟨rfl, M', h2, h3⟩ := h9
  exact k9 new M' h2 h3
theorem dequeue_spec {w : World} {led : List Cell} {A : SA} {M : MV} {K : List Cell} {st : St} {la : Addr} {cnt : Nat} {cvs : List Value} {cs : List CaseD} {t : Int} {tt : Tok} (H : SceneIn w led A M K st) (hla : (la, listOf cvs.toArray cnt) ∈ led) (hlr : la ∉ roles A M) (hcs : All2 (CaseIn A led) cvs cs) (ho : ∀ c ∈ cs, ∀ n, c.n = some n → Two n) (hz : ∀ n, Two n → QSz (st.q n)) :
    CallSpec 470 3700 w 272 [.ref la, .int t tt] led (P_dequeue_spec w led A M K st cs t) := by
  unfold CallSpec
  intro gd cn csc a ccd cls outer A₀ base h₀ L m s p loose mean mg mb Q E B F X N T hk ret
  refine wpAny_call ?_
  k_dflt row_room_at enter9
  k_steps
  (with_unfolding_all refine' for_listN [Str.ofString "case"] (fun i led₁ => ∃ M', SceneIn w led₁ A M' K (deqSt t st (cs.take i)) ∧ Keep A M led M' led₁) ?qhh ?qF ?qN (l := la) (vs := cvs) (nn := cnt) ?qhl ?qh0 ?qturn ?qdone)
  case qhh => rfl
  case qF => assumption
  case qN => assumption
  case qhl => row_room_at mem9
  case qh0 => exact ⟨M, H, Keep.refl⟩
  case qturn =>
    intro i v f led₁ own h tk hv hp9 hl₁ hown hnt F₁ N₁
    obtain ⟨M', H₁, kp₁⟩ := hp9
    obtain ⟨c, hc, hci⟩ := hcs.get hv
    have hci' := H.caseK kp₁ hci
    have hsn : deqSt t st (cs.take (i + 1)) = deqStep t (deqSt t st (cs.take i)) c := by rw [take_snoc hc, deqSt_snoc]
    obtain ⟨ca, cc, tk9, rfl, hm⟩ := hci'
    have H₉ := H₁.mono (new := led₁ ++ own) (fun p hp => memL hp) (News.fn N₁)
    cases hn : c.n with
    | none =>
      simp only [hn, qref] at hm
      rw [deqStep, hn] at hsn
      cases hs : c.send with
      | true =>
        simp only [hs, if_true] at hm
        (try show wpAny _ _ _ _ _ _)
        k_fold
        k_steps
        exact fend led₁ (by assumption) (by assumption) (by row_room_at keep9) (by row_room_at sub9) (by row_room_at own9) (fun p hp => by rw [List.mem_singleton.mp hp]; row_room_at mem9) ⟨M', by rw [hsn]; exact H₁, kp₁⟩
      | false =>
        simp only [hs, Bool.false_eq_true, if_false] at hm
        (try show wpAny _ _ _ _ _ _)
        k_fold
        k_steps
        exact fend led₁ (by assumption) (by assumption) (by row_room_at keep9) (by row_room_at sub9) (by row_room_at own9) (fun p hp => by rw [List.mem_singleton.mp hp]; row_room_at mem9) ⟨M', by rw [hsn]; exact H₁, kp₁⟩
    | some n =>
      have h2 := ho c (List.mem_of_getElem? hc) n hn
      simp only [hn, qref] at hm
      obtain ⟨nb, ns, nr, sv, rv, hQ⟩ := H₉.qn n h2
      have m1 := hQ.q
      have m2 := hQ.qd
      have hz9 := deq_sz (t := t) (cs := cs.take i) hz n h2
      rw [deqStep, hn] at hsn
      cases hs : c.send with
      | true =>
        simp only [hs, if_true] at hm
        (try show wpAny _ _ _ _ _ _)
        k_fold
        k_steps
        refine goOn ?_
        (try k_fold)
        refine' CallSpec.callU (forget_S H₉ h2 hz9) U_forget_S ?qhh ?qhf ?qhdp ?qhu ?qB ?qF ?qX ?qN ?qhs ?qT ?qhk ?_
        row_room_at sides9
        intro new M'' S kp h' tk' F' N'
        k_steps
        obtain ⟨S9, q1, q2, q3⟩ := H₁.settle hown hnt S kp
        have hlr₁ := (kp₁ _ hla hlr).2
        exact fend _ (by assumption) (by assumption) (by row_room_at keep9) q1 q2 (fun p hp => by rw [List.mem_singleton.mp hp]; exact (q3 _ hl₁ hlr₁).1) ⟨M'', by rw [hsn]; exact S9, kp₁.trans q3⟩
      | false =>
        simp only [hs, Bool.false_eq_true, if_false] at hm
        (try show wpAny _ _ _ _ _ _)
        k_fold
        k_steps
        refine goOn ?_
        (try k_fold)
        refine' CallSpec.callU (forget_S H₉ h2 hz9) U_forget_S ?qhh ?qhf ?qhdp ?qhu ?qB ?qF ?qX ?qN ?qhs ?qT ?qhk ?_
        row_room_at sides9
        intro new M'' S kp h' tk' F' N'
        k_steps
        obtain ⟨S9, q1, q2, q3⟩ := H₁.settle hown hnt S kp
        have hlr₁ := (kp₁ _ hla hlr).2
        exact fend _ (by assumption) (by assumption) (by row_room_at keep9) q1 q2 (fun p hp => by rw [List.mem_singleton.mp hp]; exact (q3 _ hl₁ hlr₁).1) ⟨M'', by rw [hsn]; exact S9, kp₁.trans q3⟩
  case qdone =>
    intro f led' h' tk hJ F' N'
    rw [hcs.length, List.take_length] at hJ
    k_steps
    exact ret _ _ _ _ (by assumption) (by assumption) (let ⟨M9, S9, k9⟩ := hJ; ⟨rfl, M9, S9, k9⟩)
end
section
open PySem PySem.W PySem.Calls PyProof.Rows
set_option maxRecDepth 100000
theorem roles_ne {A : SA} {M : MV} (h : (roles A M).Pairwise (fun (a b : Nat) => a ≠ b)) {a : Addr} (ha : a = A.AL ∨ a = A.SD) {ex : List Addr} (he : ex = (if a = A.AL then [A.SD] else [A.AL])) : ∀ b ∈ movR M ++ [A.P, A.pd, A.ch, A.C 0, A.cd 0, A.hl 0, A.C 1, A.cd 1, A.hl 1, A.q 0, A.qd 0, A.b 0, A.q 1, A.qd 1, A.b 1, A.S, A.QL, A.NL, 307, 314], b ≠ a := by
  rcases ha with rfl | rfl
  · exact fun b hb => ((List.pairwise_cons.mp (pw_sel (is := [20, 0, 1, 2, 3, 4, 5, 6, 7, 8, 9, 10, 11, 12, 13, 14, 15, 16, 17, 18, 19, 22, 23, 24, 25, 26]) h (by decide) (by show ∀ i ∈ _, i < 27; decide))).1 b hb).symm
  · exact fun b hb => ((List.pairwise_cons.mp (pw_sel (is := [21, 0, 1, 2, 3, 4, 5, 6, 7, 8, 9, 10, 11, 12, 13, 14, 15, 16, 17, 18, 19, 22, 23, 24, 25, 26]) h (by decide) (by show ∀ i ∈ _, i < 27; decide))).1 b hb).symm
section
variable {w : World} {led new : List Cell} {A : SA} {M : MV} {K : List Cell} {st : St}
theorem SceneIn.setLaw (H : SceneIn w led A M K st) {a : Addr} {o' : Obj} (ha : a = A.AL ∨ a = A.SD) {asl' : List Int} {sels' : List (Int × List CaseD)} {K' : List Cell}
    (al : ∃ na avs, (A.AL, listOf (List.toArray avs) na) ∈ (a, o') :: offOf [a] led ∧ IntsAre avs asl')
    (sd : ∃ o kvs, (A.SD, o) ∈ (a, o') :: offOf [a] led ∧ o.IsDictOf (intKind PG w) kvs ∧ (A.SD == sysModules) = false ∧ All2 (fun (kv : Int × Value) (s : Int × List CaseD) => kv.1 = s.1 ∧ CasesIn A K' kv.2 s.2) kvs sels')
    (hK : ∀ p ∈ K', p ∈ led ∧ p.1 ∉ roles A M) (hKK : ∀ p ∈ K, p ∈ K') : SceneIn w ((a, o') :: offOf [a] led) A M K' { st with asl := asl', sels := sels' } ∧ Keep A M led M ((a, o') :: offOf [a] led) := by
  have har : a ∈ roles A M := by rcases ha with rfl | rfl <;> row_room_at im9
  have up : ∀ p ∈ led, p.1 ≠ a → p ∈ (a, o') :: offOf [a] led := fun p hp hn => .tail _ (mem_off1 hp hn)
  have nb := roles_ne H.ne ha rfl
  have ur : ∀ {b : Addr} {o : Obj}, b ∈ movR M ++ [A.P, A.pd, A.ch, A.C 0, A.cd 0, A.hl 0, A.C 1, A.cd 1, A.hl 1, A.q 0, A.qd 0, A.b 0, A.q 1, A.qd 1, A.b 1, A.S, A.QL, A.NL, 307, 314] → (b, o) ∈ led → (b, o) ∈ (a, o') :: offOf [a] led := fun hb hp => up _ hp (nb _ hb)
  have ut : ∀ {b : Addr} {vs : List Value} {n : Nat}, (b, tupO vs n) ∈ led → (b, tupO vs n) ∈ (a, o') :: offOf [a] led := fun {b} _ _ h => up _ h fun e => H.tup h (by have e : b = a := e; rw [e]; exact har)
  have kp : Keep A M led M ((a, o') :: offOf [a] led) := fun p hp hr => ⟨up p hp fun e => hr (e ▸ har), hr⟩
  refine ⟨⟨?_, H.ne, ?_, H.se, ?_, ?_, (let ⟨a, b, c, d⟩ := al; ⟨a, b, c, d⟩), (let ⟨a, b, c, d⟩ := sd; ⟨a, b, c, d⟩), ?_, H.oS, ?_, ?_, H.tH.mono (fun _ h => ur (by row_room_at im9) h) hKK, H.tW.mono (fun _ h => ur (by row_room_at im9) h) hKK, fun p hp => kp p (hK p hp).1 (hK p hp).2⟩, kp⟩
  · intro p hp p' hp' e
    rcases List.mem_cons.mp hp with rfl | hp <;> rcases List.mem_cons.mp hp' with rfl | hp'
    · rfl
    · exact absurd (List.mem_singleton.mpr e.symm) (mem_offOf.mp hp').2
    · exact absurd (List.mem_singleton.mpr e) (mem_offOf.mp hp).2
    · exact H.fn _ (mem_offOf.mp hp).1 _ (mem_offOf.mp hp').1 e
  · obtain ⟨nw, vs, nc, h⟩ := H.pl
    refine ⟨nw, vs, nc, ur (by row_room_at im9) h.P, ur (by row_room_at im9) h.pd, ur (by row_room_at im9) h.wl, ur (by row_room_at im9) h.ch, h.es.mono fun _ _ h => ?_⟩
    obtain ⟨a, n, tg, tk, tn, tc, rfl, hm⟩ := h
    exact ⟨a, n, tg, tk, tn, tc, rfl, ut hm⟩
  · intro n hn
    obtain ⟨nh, h⟩ := H.chn n hn
    refine ⟨nh, ur ?_ h.C, ur ?_ h.cd, ur ?_ h.hl, h.sc⟩ <;> exact Two.onM hn (by row_room_at im9) (by row_room_at im9)
  · intro n hn
    obtain ⟨nb, ns, nr, sv, rv, h⟩ := H.qn n hn
    have uw : ∀ v x, WtIn led v x → WtIn ((a, o') :: offOf [a] led) v x := WtIn.tups ut
    refine ⟨nb, ns, nr, sv, rv, ur ?_ h.q, ur ?_ h.qd, ur ?_ h.b, ur ?_ h.s, ur ?_ h.r, h.hsnd.mono uw, h.hrcv.mono uw, h.scb, h.scs, h.scr⟩ <;> exact Two.onM hn (by row_room_at im9) (by row_room_at im9)
  · exact ur (by row_room_at im9) H.S
  · obtain ⟨c, h⟩ := H.QL
    exact ⟨c, ur (by row_room_at im9) h⟩
  · obtain ⟨c, h⟩ := H.NL
    exact ⟨c, ur (by row_room_at im9) h⟩
theorem SceneIn.al_sd (H : SceneIn w led A M K st) : A.AL ≠ A.SD := by
  have := pw_sel (is := [20, 21]) H.ne (by decide) (by show ∀ i ∈ _, i < 27; decide)
  exact (List.pairwise_cons.mp this).1 _ (List.mem_singleton.mpr rfl)
theorem SceneIn.setAL (H : SceneIn w led A M K st) {asl' : List Int} {avs : List Value} {na : Nat} (h : IntsAre avs asl') :
    SceneIn w ((A.AL, listOf avs.toArray na) :: offOf [A.AL] led) A M K { st with asl := asl' } ∧ Keep A M led M ((A.AL, listOf avs.toArray na) :: offOf [A.AL] led) := by
  obtain ⟨o, kvs, h1, h2, h3, h4⟩ := H.sd
  exact H.setLaw (.inl rfl) (sels' := st.sels) ⟨_, _, .head _, h⟩ ⟨o, kvs, .tail _ (mem_off1 h1 H.al_sd.symm), h2, h3, h4⟩ H.K fun _ h => h
theorem SceneIn.setSD (H : SceneIn w led A M K st) {o : Obj} {kvs : List (Int × Value)} {sels' : List (Int × List CaseD)} {K' : List Cell} (hd : o.IsDictOf (intKind PG w) kvs)
    (h : All2 (fun (kv : Int × Value) (s : Int × List CaseD) => kv.1 = s.1 ∧ CasesIn A K' kv.2 s.2) kvs sels') (hK : ∀ p ∈ K', p ∈ led ∧ p.1 ∉ roles A M) (hKK : ∀ p ∈ K, p ∈ K') :
    SceneIn w ((A.SD, o) :: offOf [A.SD] led) A M K' { st with sels := sels' } ∧ Keep A M led M ((A.SD, o) :: offOf [A.SD] led) := by
  obtain ⟨na, avs, h1, h2⟩ := H.al
  obtain ⟨_, _, _, _, h3, _⟩ := H.sd
  exact H.setLaw (.inr rfl) (asl' := st.asl) ⟨na, avs, .tail _ (mem_off1 h1 H.al_sd), h2⟩ ⟨o, kvs, .head _, hd, h3, h⟩ hK hKK
end
/-- the rows of a slice -/
theorem slice_rest {v : Value} {vs : List Value} (hz : vs.length ≤ 1000) : (slicePick (List.toArray (v :: vs)) (some 1) none none).toList = vs := by
  rw [kmk_pick_nat (lo := some 1) (hi := none) (List.toArray (v :: vs)) (a := 1) (b := vs.length + 1) ?_]
  · simp
  · simp [sliceBounds]
    omega
-- sorting
noncomputable def gLe (a b : Row) : Prop := a.g ≤ b.g
structure SortOf (rows out : List Row) : Prop where
  perm : out.Perm rows
  ord : out.Pairwise (fun a b => a.g ≤ b.g)
theorem SortOf.uniq {rows rows' out out' : List Row} (h : SortOf rows out) (h' : SortOf rows' out') (hp : rows.Perm rows') (hd : rows.Pairwise fun a b => a.g ≠ b.g) : out = out' := by
  have hp' : out.Perm out' := h.perm.trans (hp.trans h'.perm.symm)
  have hd' : out.Pairwise fun a b => a.g ≠ b.g := (h.perm.pairwise_iff (fun h => Ne.symm h)).mpr hd
  have h1 := h.ord
  have h2 := h'.ord
  clear h h' hp hd
  induction out generalizing out' with
  | nil => exact (List.Perm.nil_eq hp')
  | cons a l ih =>
    cases out' with
    | nil => exact absurd hp'.length_eq (by simp)
    | cons b l' =>
      have hab : a = b := by
        have ha : a ∈ b :: l' := hp'.mem_iff.mp (.head _)
        have hb : b ∈ a :: l := hp'.mem_iff.mpr (.head _)
        rcases List.mem_cons.mp ha with e | ha
        · exact e
        · rcases List.mem_cons.mp hb with e | hb
          · exact e.symm
          · have q1 := (List.pairwise_cons.mp h1).1 b hb
            have q2 := (List.pairwise_cons.mp h2).1 a ha
            have q3 := (List.pairwise_cons.mp hd').1 b hb
            exact absurd (Int.le_antisymm q1 q2) q3
      subst hab
      rw [ih (List.Perm.cons_inv hp') (List.pairwise_cons.mp hd').2 (List.pairwise_cons.mp h1).2 (List.pairwise_cons.mp h2).2]
noncomputable def rowD (r : Row) : PyData := .tuple [.int r.g, .int r.c, r.w]
noncomputable def outD (told : PyData) (rows : List Row) : PyData := .list [told, .list (rows.map rowD)]
theorem RowIn.rin {T : List Cell} {v : Value} {r : Row} (h : RowIn T v r) : RIn T v (rowD r) := by
  obtain ⟨a, n, tg, tc, wv, rfl, hm, hr⟩ := h
  exact .tuple hm (.cons (.int _ _) (.cons (.int _ _) (.cons hr .nil)))
theorem rows_rall {T : List Cell} {vs : List Value} {rows : List Row} (h : All2 (RowIn T) vs rows) : RAll T vs (rows.map rowD) := by
  induction h with
  | nil => exact .nil
  | cons h _ ih => exact .cons h.rin ih
theorem zip_all {α : Type} {R : Value → α → Prop} {f : α → Int} {vs : List Value} {rows : List α} (hh : All2 R vs rows) : ∀ p ∈ (rows.map f).zip vs, ∃ r ∈ rows, p.1 = f r ∧ R p.2 r := by
  induction hh with
  | nil => intro p hp; cases hp
  | @cons v r vs rows h hs ih =>
    intro p hp
    rcases List.mem_cons.mp hp with rfl | hp
    · exact ⟨r, .head _, rfl, h⟩
    · obtain ⟨r', h1, h2⟩ := ih p hp
      exact ⟨r', .tail _ h1, h2⟩
theorem All2.perm_left {α β : Type} {R : α → β → Prop} {l l' : List α} (p : l.Perm l') : ∀ {r : List β}, All2 R l r → ∃ r', r'.Perm r ∧ All2 R l' r' := by
  induction p with
  | nil => intro r h; exact ⟨r, .refl _, h⟩
  | cons x _ ih =>
    intro r h
    cases h with
    | cons h hs =>
      obtain ⟨r', p', h'⟩ := ih hs
      exact ⟨_, p'.cons _, .cons h h'⟩
  | swap x y l =>
    intro r h
    cases h with
    | cons h1 h => cases h with
      | cons h2 h => exact ⟨_, .swap _ _ _, .cons h2 (.cons h1 h)⟩
  | trans _ _ ih1 ih2 =>
    intro r h
    obtain ⟨r1, p1, h1⟩ := ih1 h
    obtain ⟨r2, p2, h2⟩ := ih2 h1
    exact ⟨r2, p2.trans p1, h2⟩
theorem sort_out {T : List Cell} {vs out : List Value} {rows : List Row} (h : All2 (RowIn T) vs rows) (k : KskOut false (rows.map (·.g)) vs out) : ∃ rows', SortOf rows rows' ∧ All2 (RowIn T) out rows' := by
  obtain ⟨ps, hp, rfl, ho⟩ := k
  have hz : ∀ {vs : List Value} {rows : List Row}, All2 (RowIn T) vs rows → All2 (fun (p : Int × Value) (r : Row) => p.1 = r.g ∧ RowIn T p.2 r) ((rows.map (·.g)).zip vs) rows := by
    intro vs rows h
    induction h with
    | nil => exact .nil
    | cons h _ ih => exact .cons ⟨rfl, h⟩ ih
  obtain ⟨rows', p', h'⟩ := All2.perm_left hp.symm (hz h)
  have q : ∀ {ps : List (Int × Value)} {rows' : List Row}, All2 (fun (p : Int × Value) (r : Row) => p.1 = r.g ∧ RowIn T p.2 r) ps rows' → All2 (RowIn T) (ps.map Prod.snd) rows' ∧ ps.map (·.1) = rows'.map (·.g) := by
    intro ps rows' h
    induction h with
    | nil => exact ⟨.nil, rfl⟩
    | cons h _ ih => exact ⟨.cons h.2 ih.1, by rw [List.map_cons, List.map_cons, h.1, ih.2]⟩
  obtain ⟨q1, q2⟩ := q h'
  refine ⟨rows', ⟨p', ?_⟩, q1⟩
  have h3 : (ps.map (·.1)).Pairwise (fun a b => a ≤ b) := List.pairwise_map.mpr (ho.imp fun h => by simpa using h)
  rw [q2] at h3
  exact List.pairwise_map.mp h3
end
section
open PySem PySem.W PySem.Calls PyProof.Rows PyProof.V
set_option maxRecDepth 100000
noncomputable def toldD : First → PyData
  | .blocked => .none
  | .done => sentD
  | .got v b => recvD v b
  | .panic x => panicD x
noncomputable def FSc : First → Prop
  | .got v _ => Sc v
  | _ => True
noncomputable def hRow (x : WRow) : Row := ⟨x.g, x.c.getD 0, x.w⟩
noncomputable def selAt (sels : List (Int × List CaseD)) (t : Int) : Option (List CaseD) := (sels.find? fun s => s.1 = t).map (·.2)
noncomputable def dropSel (t : Int) (sels : List (Int × List CaseD)) : List (Int × List CaseD) := sels.filter fun s => decide (s.1 ≠ t)
noncomputable def hearStep (st : St) (x : WRow) : St := match x.s with
  | none => st
  | some t => deqSt t { st with sels := dropSel t st.sels } ((selAt st.sels t).getD [])
noncomputable def hearSt (st : St) (rows : List WRow) : St := rows.foldl hearStep st
theorem hearSt_snoc {st : St} {rows : List WRow} {x : WRow} : hearSt st (rows ++ [x]) = hearStep (hearSt st rows) x := by unfold hearSt; rw [List.foldl_append]; rfl
structure HearAt (st : St) (x : WRow) : Prop where
  sel : ∀ t, x.s = some t → ∃ cs, selAt st.sels t = some cs ∧ ∀ c ∈ cs, ∀ n, c.n = some n → Two n
  cs : x.c.isSome = x.s.isSome
noncomputable def HearOk : St → List WRow → Prop
  | _, [] => True
  | st, x :: xs => HearAt st x ∧ HearOk (hearStep st x) xs
theorem HearOk.at : ∀ {rows : List WRow} {st : St} {i : Nat} {x : WRow}, HearOk st rows → rows[i]? = some x → HearAt (hearSt st (rows.take i)) x
  | [], _, _, _, _, h => by simp at h
  | y :: ys, st, 0, x, h, e => by
    simp at e; subst e; exact h.1
  | y :: ys, st, i + 1, x, h, e => by
    rw [List.take_succ_cons]
    exact HearOk.at h.2 (by simpa using e)
theorem step_sz {st : St} {x : WRow} (h : ∀ n, Two n → QSz (st.q n)) : ∀ n, Two n → QSz ((hearStep st x).q n) := by
  unfold hearStep
  split
  · exact h
  · exact deq_sz (st := { st with sels := dropSel _ st.sels }) h
theorem hear_sz : ∀ {rows : List WRow} {st : St}, (∀ n, Two n → QSz (st.q n)) → ∀ n, Two n → QSz ((hearSt st rows).q n)
  | [], _, h => h
  | x :: xs, st, h => hear_sz (rows := xs) (st := hearStep st x) (step_sz h)
theorem deq_sels {t : Int} : ∀ {cs : List CaseD} {st : St}, (deqSt t st cs).sels = st.sels
  | [], _ => rfl
  | c :: cs, st => by
    have := deq_sels (t := t) (cs := cs) (st := deqStep t st c)
    refine this.trans ?_
    unfold deqStep; split <;> rfl
theorem step_sels {st : St} {x : WRow} : (hearStep st x).sels.length ≤ st.sels.length := by
  unfold hearStep
  split
  · exact Nat.le_refl _
  · rw [deq_sels]; exact List.length_filter_le _ _
theorem hear_sels : ∀ {rows : List WRow} {st : St}, (hearSt st rows).sels.length ≤ st.sels.length
  | [], _ => Nat.le_refl _
  | x :: xs, st => Nat.le_trans (hear_sels (rows := xs) (st := hearStep st x)) step_sels
noncomputable abbrev SdR (A : SA) (K : List Cell) : Int × Value → Int × List CaseD → Prop := fun kv s => kv.1 = s.1 ∧ CasesIn A K kv.2 s.2
theorem sd_at {A : SA} {K : List Cell} {t : Int} {cs : List CaseD} {kvs : List (Int × Value)} {sels : List (Int × List CaseD)} (hh : All2 (SdR A K) kvs sels) (e : selAt sels t = some cs) : ∃ v, valueAt kvs t = some v ∧ CasesIn A K v cs := by
  induction hh with
  | nil => simp [selAt] at e
  | @cons kv s kvs sels h hs ih =>
    unfold selAt at e
    rw [List.find?_cons] at e
    unfold valueAt
    rw [List.find?_cons, h.1]
    by_cases q : s.1 = t
    · rw [decide_eq_true q] at e ⊢
      simp only [Option.map_some, Option.some.injEq] at e ⊢
      exact ⟨_, rfl, e ▸ h.2⟩
    · rw [decide_eq_false q] at e ⊢
      exact ih e
theorem sd_drop {A : SA} {K : List Cell} {t : Int} {kvs : List (Int × Value)} {sels : List (Int × List CaseD)} (hh : All2 (SdR A K) kvs sels) : All2 (SdR A K) (without kvs t) (dropSel t sels) := by
  induction hh with
  | nil => exact .nil
  | cons h hs ih =>
    simp only [without, dropSel, List.filter_cons, h.1] at ih ⊢
    split
    · exact .cons h ih
    · exact ih
theorem frSet {h₀ h' : Heap} {L : Addr} {m m' : Str → Option Value} {x : Str} {tv : Value} (F : Fr h₀ L h' m') (h1 : m' x = some tv) (h2 : ∀ y, y ≠ x → m' y = m y) : Fr h₀ L h' (fun y => if y = x then some tv else m y) := by
  have e : m' = fun y => if y = x then some tv else m y := funext fun y => by
    by_cases q : y = x
    · rw [if_pos q, q, h1]
    · rw [if_neg q, h2 y q]
  rw [← e]; exact F
noncomputable def CutMark : Prop := True
noncomputable def CutPost (s : Shared) (h₀ : Heap) (L : Addr) (m : Str → Option Value) (x : Str) (P : Value → List Cell → Prop) (fl : Flow) (s' : Shared) : Prop := fl = .next ∧ ∃ tv new h' tk' m', s' = { s with heap := h', toks := tk' } ∧ Fr h₀ L h' m' ∧ m' x = some tv ∧ (∀ y, y ≠ x → m' y = m y) ∧ News h₀ L h' new ∧ P tv new
/-- a statement that binds one name, cut off from what follows -/
theorem cutT {prog : Program} {w : World} {A : Around} {t : Sem Flow} {Q : Flow → Shared → Prop} {E : Value → Shared → Prop} {s : Shared} {h₀ : Heap} {L : Addr} {m : Str → Option Value} (x : Str) (F : Fr h₀ L s.heap m) (P : Value → List Cell → Prop)
    (h : wpAny (model prog w) A t (CutPost s h₀ L m x P) E s)
    (k : ∀ tv new h' tk', Fr h₀ L h' (fun y => if y = x then some tv else m y) → News h₀ L h' new → P tv new → Q .next { s with heap := h', toks := tk' }) : wpAny (model prog w) A t Q E s :=
  wpAny_mono h (fun fl s' p => by obtain ⟨rfl, tv, new, h', tk', m', rfl, F, h1, h2, N, hP⟩ := p; exact k tv new h' tk' (frSet F h1 h2) N hP) fun _ _ e => e
theorem cutT2 {prog : Program} {w : World} {A : Around} {t : Sem Flow} {Q : Flow → Shared → Prop} {E : Value → Shared → Prop} {s : Shared} {h₀ : Heap} {L : Addr} {m : Str → Option Value} {x : Str} {v0 : Value} (F : Fr h₀ L s.heap (fun y => if y = x then some v0 else m y)) (P : Value → List Cell → Prop)
    (h : wpAny (model prog w) A t (CutPost s h₀ L m x P) E s)
    (k : ∀ tv new h' tk', Fr h₀ L h' (fun y => if y = x then some tv else m y) → News h₀ L h' new → P tv new → Q .next { s with heap := h', toks := tk' }) : wpAny (model prog w) A t Q E s :=
  wpAny_mono h (fun fl s' p => by obtain ⟨rfl, tv, new, h', tk', m', rfl, F, h1, h2, N, hP⟩ := p; exact k tv new h' tk' (frSet F h1 h2) N hP) fun _ _ e => e
section
variable {w : World} {led : List Cell} {A : SA} {M : MV} {K : List Cell} {st : St}
theorem SceneIn.caseKK (H : SceneIn w led A M K st) {v : Value} {c : CaseD} (h : CaseIn A K v c) : CaseIn A led v c := h.mono fun p hp => (H.K p hp).1
theorem heard_push (H : SceneIn w led A M K st) {fo D : Addr} {fvs : List Value} {nf : Nat} {rs : List Row} {r : Row} {wv : Value} {tg tc : Tok} (hfo : (fo, listOf fvs.toArray nf) ∈ led) (hfr : fo ∉ roles A M) (hK : ∀ p ∈ K, p.1 ≠ fo)
    (hall : All2 (RowIn (fz A M (offOf [fo] led))) fvs rs) (hD : ∀ p ∈ led, p.1 ≠ D) (hw : RIn (fz A M (offOf [fo] led)) wv r.w)
    (hf : Fun ((fo, listOf (List.toArray (fvs ++ [.ref D])) (nf + 1)) :: (D, tupO [.int r.g tg, .int r.c tc, wv] 0) :: offOf [fo] led)) :
    SceneIn w ((fo, listOf (List.toArray (fvs ++ [.ref D])) (nf + 1)) :: (D, tupO [.int r.g tg, .int r.c tc, wv] 0) :: offOf [fo] led) A M K st ∧
    Keep A M (offOf [fo] led) M (offOf [fo] ((fo, listOf (List.toArray (fvs ++ [.ref D])) (nf + 1)) :: (D, tupO [.int r.g tg, .int r.c tc, wv] 0) :: offOf [fo] led)) ∧
    All2 (RowIn (fz A M (offOf [fo] ((fo, listOf (List.toArray (fvs ++ [.ref D])) (nf + 1)) :: (D, tupO [.int r.g tg, .int r.c tc, wv] 0) :: offOf [fo] led)))) (fvs ++ [.ref D]) (rs ++ [r]) := by
  have S := (H.change (o' := listOf (List.toArray (fvs ++ [.ref D])) (nf + 1)) hfo noTup_list hfr hK).mono (new := (fo, listOf (List.toArray (fvs ++ [.ref D])) (nf + 1)) :: (D, tupO [.int r.g tg, .int r.c tc, wv] 0) :: offOf [fo] led) (subCons (.head _) fun p hp => .tail _ (.tail _ hp)) hf
  have hDf : D ≠ fo := (hD _ hfo).symm
  have up : ∀ p ∈ offOf [fo] led, p ∈ offOf [fo] ((fo, listOf (List.toArray (fvs ++ [.ref D])) (nf + 1)) :: (D, tupO [.int r.g tg, .int r.c tc, wv] 0) :: offOf [fo] led) := fun p hp => mem_offOf.mpr ⟨.tail _ (.tail _ hp), (mem_offOf.mp hp).2⟩
  have kp : Keep A M (offOf [fo] led) M (offOf [fo] ((fo, listOf (List.toArray (fvs ++ [.ref D])) (nf + 1)) :: (D, tupO [.int r.g tg, .int r.c tc, wv] 0) :: offOf [fo] led)) := fun p hp hr => ⟨up p hp, hr⟩
  have mD : (D, tupO [.int r.g tg, .int r.c tc, wv] 0) ∈ fz A M (offOf [fo] ((fo, listOf (List.toArray (fvs ++ [.ref D])) (nf + 1)) :: (D, tupO [.int r.g tg, .int r.c tc, wv] 0) :: offOf [fo] led)) := mem_fz.mpr ⟨mem_off1 (.tail _ (.head _)) hDf, S.tup (.tail _ (.head _))⟩
  exact ⟨S, kp, (hall.mono fun _ _ h => h.mono kp.fz).snoc ⟨D, 0, tg, tc, wv, rfl, mD, hw.mono kp.fz⟩⟩
end
end
section
open PySem PySem.W PySem.Calls PyProof.Rows PyProof.V
set_option maxRecDepth 100000
theorem stopEval {M : Model} {A : Around} {Q E : Value → Shared → Prop} {s : Shared} {e : PySem.Expr} {env : Env} (h : wpAny M A (stopT (eval e env)) Q E s) : wpAny M A (eval e env) Q E s := h
theorem stopKw {M : Model} {A : Around} {Q E : Value → Shared → Prop} {s : Shared} {f : Value} {args : List Value} {kw : List (Str × Value)} (h : wpAny M A (stopT (call f args kw)) Q E s) : wpAny M A (call f args kw) Q E s := h
theorem tabs_ne {A : SA} {M : MV} (h : (roles A M).Pairwise (fun (a b : Nat) => a ≠ b)) {P : Addr} (hP : P = 307 ∨ P = 314) : ∀ b ∈ movR M ++ [A.P, A.pd, A.ch, A.C 0, A.cd 0, A.hl 0, A.C 1, A.cd 1, A.hl 1, A.q 0, A.qd 0, A.b 0, A.q 1, A.qd 1, A.b 1, A.AL, A.SD, A.S, A.QL, A.NL], b ≠ P := by
  rcases hP with rfl | rfl
  · exact fun b hb => ((List.pairwise_cons.mp (pw_sel (is := [25, 0, 1, 2, 3, 4, 5, 6, 7, 8, 9, 10, 11, 12, 13, 14, 15, 16, 17, 18, 19, 20, 21, 22, 23, 24]) h (by decide) (by show ∀ i ∈ _, i < 27; decide))).1 b hb).symm
  · exact fun b hb => ((List.pairwise_cons.mp (pw_sel (is := [26, 0, 1, 2, 3, 4, 5, 6, 7, 8, 9, 10, 11, 12, 13, 14, 15, 16, 17, 18, 19, 20, 21, 22, 23, 24]) h (by decide) (by show ∀ i ∈ _, i < 27; decide))).1 b hb).symm
section
variable {w : World} {led new : List Cell} {A : SA} {M : MV} {K : List Cell} {st : St}
theorem SceneIn.setTab (H : SceneIn w led A M K st) {P : Addr} (hP : P = 307 ∨ P = 314) {K' : List Cell} (hf : Fun new) (up : ∀ p ∈ led, p.1 ≠ P → p ∈ new) (tH : TabIn 307 222 36 qH new K') (tW : TabIn 314 226 28 qW new K')
    (hK : ∀ p ∈ K', p ∈ new ∧ p.1 ∉ roles A M) (hKK : ∀ p ∈ K, p ∈ K') : SceneIn w new A M K' st ∧ Keep A M led M new := by
  have har : P ∈ roles A M := by rcases hP with rfl | rfl <;> row_room_at im9
  have nb := tabs_ne H.ne hP
  have ur : ∀ {b : Addr} {o : Obj}, b ∈ movR M ++ [A.P, A.pd, A.ch, A.C 0, A.cd 0, A.hl 0, A.C 1, A.cd 1, A.hl 1, A.q 0, A.qd 0, A.b 0, A.q 1, A.qd 1, A.b 1, A.AL, A.SD, A.S, A.QL, A.NL] → (b, o) ∈ led → (b, o) ∈ new := fun hb hp => up _ hp (nb _ hb)
  have ut : ∀ {b : Addr} {vs : List Value} {n : Nat}, (b, tupO vs n) ∈ led → (b, tupO vs n) ∈ new := fun {b} _ _ h => up _ h fun e => H.tup h (by have e : b = P := e; rw [e]; exact har)
  have kp : Keep A M led M new := fun p hp hr => ⟨up p hp fun e => hr (e ▸ har), hr⟩
  refine ⟨⟨hf, H.ne, ?_, H.se, ?_, ?_, ?_, ?_, ?_, H.oS, ?_, ?_, tH, tW, hK⟩, kp⟩
  · obtain ⟨nw, vs, nc, h⟩ := H.pl
    refine ⟨nw, vs, nc, ur (by row_room_at im9) h.P, ur (by row_room_at im9) h.pd, ur (by row_room_at im9) h.wl, ur (by row_room_at im9) h.ch, h.es.mono fun _ _ h => ?_⟩
    obtain ⟨a, n, tg, tk, tn, tc, rfl, hm⟩ := h
    exact ⟨a, n, tg, tk, tn, tc, rfl, ut hm⟩
  · intro n hn
    obtain ⟨nh, h⟩ := H.chn n hn
    refine ⟨nh, ur ?_ h.C, ur ?_ h.cd, ur ?_ h.hl, h.sc⟩ <;> exact Two.onM hn (by row_room_at im9) (by row_room_at im9)
  · intro n hn
    obtain ⟨nb, ns, nr, sv, rv, h⟩ := H.qn n hn
    have uw : ∀ v x, WtIn led v x → WtIn new v x := WtIn.tups ut
    refine ⟨nb, ns, nr, sv, rv, ur ?_ h.q, ur ?_ h.qd, ur ?_ h.b, ur ?_ h.s, ur ?_ h.r, h.hsnd.mono uw, h.hrcv.mono uw, h.scb, h.scs, h.scr⟩ <;> exact Two.onM hn (by row_room_at im9) (by row_room_at im9)
  · obtain ⟨na, avs, h, h'⟩ := H.al
    exact ⟨na, avs, ur (by row_room_at im9) h, h'⟩
  · obtain ⟨o, kvs, h, h1, h2, h3⟩ := H.sd
    exact ⟨o, kvs, ur (by row_room_at im9) h, h1, h2, h3.mono fun _ _ h => ⟨h.1, h.2.mono hKK⟩⟩
  · exact ur (by row_room_at im9) H.S
  · obtain ⟨c, h⟩ := H.QL
    exact ⟨c, ur (by row_room_at im9) h⟩
  · obtain ⟨c, h⟩ := H.NL
    exact ⟨c, ur (by row_room_at im9) h⟩
end
/-- what stays grows, by new cells alone -/
structure KUp (A : SA) (M : MV) (led K K' : List Cell) : Prop where
  sub : ∀ p ∈ K, p ∈ K'
  new : ∀ p ∈ K', p ∈ K ∨ ∀ q ∈ led, q.1 ∉ roles A M → q.1 ≠ p.1
theorem KUp.refl {A : SA} {M : MV} {led K : List Cell} : KUp A M led K K := ⟨fun _ h => h, fun _ h => .inl h⟩
theorem KUp.pre {A : SA} {M M' : MV} {led new K K' : List Cell} (kp : Keep A M led M' new) (h : KUp A M' new K K') : KUp A M led K K' := ⟨h.sub, fun p hp => (h.new p hp).elim .inl fun h => .inr fun q hq hr => let ⟨a, b⟩ := kp q hq hr; h q a b⟩
theorem KUp.trans {A : SA} {M M' : MV} {led new K K' K'' : List Cell} (h : KUp A M led K K') (kp : Keep A M led M' new) (h' : KUp A M' new K' K'') : KUp A M led K K'' := ⟨fun p hp => h'.sub p (h.sub p hp), fun p hp => ((KUp.pre kp h').new p hp).elim (h.new p) .inr⟩
noncomputable abbrev LamOk (led' K' : List Cell) (qual : Str) (c' : Addr) : Prop := ∃ oc vs t, (c', oc) ∈ K' ∧ oc.data = .fields vs ∧ vs[1]? = some (.str qual t)
section
variable {w : World} {led new : List Cell} {A : SA} {M : MV} {K : List Cell} {st : St} {M₀ : Model} {Ar : Around} {E : Value → Shared → Prop} {s : Shared} {h₀ : Heap} {L a c : Addr} {m mg mb : Str → Option Value} {cn : Str} {cs : Scope} {ccd : Value} {cl : List (Str × Addr)}
  {p : Program} {loose : List Str} {mean : ExcName → Option Value} {params : Arguments} {body : PySem.Expr} {scope : Scope} {pos : Pos} {clos : List (Str × Addr)} {Q : Value → Shared → Prop}
theorem fun_of_news {l : List Cell} {h₀ h' : Heap} {L : Addr} (N : News h₀ L h' l) : Fun l := News.fn N
/-- a lambda of one of the two functions that sort -/
theorem lam_tabs {P : Addr} {l c : Nat} {q : Str} {T K' : List Cell} (hP : (P = 307 ∧ l = 222 ∧ c = 36 ∧ q = qH) ∨ (P = 314 ∧ l = 226 ∧ c = 28 ∧ q = qW)) (tP : TabIn P l c q T K') (tH : (307 : Addr) ≠ P → TabIn 307 222 36 qH T K') (tW : (314 : Addr) ≠ P → TabIn 314 226 28 qW T K') : TabIn 307 222 36 qH T K' ∧ TabIn 314 226 28 qW T K' := by
  rcases hP with ⟨rfl, rfl, rfl, rfl⟩ | ⟨rfl, rfl, rfl, rfl⟩
  · exact ⟨tP, tW (by decide)⟩
  · exact ⟨tH (by decide), tP⟩
theorem lam_tab {P : Addr} {l c : Nat} {q : Str} {T K' : List Cell} (hP : (P = 307 ∧ l = 222 ∧ c = 36 ∧ q = qH) ∨ (P = 314 ∧ l = 226 ∧ c = 28 ∧ q = qW)) (tH : TabIn 307 222 36 qH T K') (tW : TabIn 314 226 28 qW T K') : TabIn P l c q T K' := by
  rcases hP with ⟨rfl, rfl, rfl, rfl⟩ | ⟨rfl, rfl, rfl, rfl⟩
  · exact tH
  · exact tW
theorem lam_ro {P : Addr} {A : SA} {M : MV} (h : P = 307 ∨ P = 314) : P ∈ roles A M := by
  rcases h with rfl | rfl <;> row_room_at im9
theorem lam_S {P : Addr} {qual : Str} (hP : (P = 307 ∧ pos.line = 222 ∧ pos.col = 36 ∧ qual = qH) ∨ (P = 314 ∧ pos.line = 226 ∧ pos.col = 28 ∧ qual = qW)) (H : SceneIn w led A M K st) (F : Fr h₀ L s.heap m) (N : News h₀ L s.heap led) (T : Top p loose mean mg mb h₀) (C : CodeHd h₀ c P) (hcd : ccd = .ref c) (hdef : defaultsOf params (envX cn cs L a ccd cl) = ([], [])) (hqual : (envX cn cs L a ccd cl).qual ++ "<lambda>" = qual)
    (hcl : closureFor scope (envX cn cs L a ccd cl) = pure clos)
    (h : ∀ f c' ctv led' K' h' tk, Fr h₀ L h' m → News h₀ L h' ((f, kla_obj "<lambda>" qual params body scope clos ((mg "__name__").getD .none) c' ctv) :: led') → SceneIn w led' A M K' st → Keep A M led M led' → KUp A M led K K' → LamOk led' K' qual c' → (∀ p ∈ led', p.1 < f) → (∀ p ∈ led, p.1 ≠ P → p ∈ led') → Q (.ref f) { s with heap := h', toks := tk }) :
    wpAny M₀ Ar (eval (.Lambda params body scope pos) (envX cn cs L a ccd cl)) Q E s := by
  refine kla_eval hdef ?_
  rw [hqual]
  have tab := lam_tab hP H.tH H.tW
  have hP' : P = 307 ∨ P = 314 := hP.elim (fun h => .inl h.1) fun h => .inr h.1
  have har : P ∈ roles A M := lam_ro hP'
  obtain ⟨ps, hm, hps⟩ := tab.ex
  rcases hps with rfl | ⟨c', oc, vs, t, rfl, hc', hoc, hq⟩
  · have N1 : News h₀ L s.heap ((P, tabObj #[]) :: offOf [P] led) := News.sub N (subCons hm fun p hp => (mem_offOf.mp hp).1)
    refine kla_nest F N1 T C hcd (.head fun p hp e => (mem_offOf.mp hp).2 (List.mem_singleton.mpr e)) trivial rfl hcl ?_
    intro f c' oc vs t ctv h' tk F' N' hoc hq l1 l2
    have hlt : ∀ p ∈ led, p.1 < c' := fun p hp => if e : p.1 = P then e ▸ l1 _ (.head _) else l1 p (.tail _ (mem_off1 hp e))
    have N2 : News h₀ L h' ((c', oc) :: (P, tabObj (#[] ++ #[rawInt pos.line, rawInt pos.col, .ref c'])) :: offOf [P] led) := News.sub N' fun p hp => .tail _ hp
    have hcr : c' ∉ roles A M := H.lt hlt
    have up : ∀ p ∈ led, p.1 ≠ P → p ∈ (c', oc) :: (P, tabObj (#[] ++ #[rawInt pos.line, rawInt pos.col, .ref c'])) :: offOf [P] led := fun p hp e => .tail _ (.tail _ (mem_off1 hp e))
    have hK : ∀ p ∈ (c', oc) :: K, p ∈ (c', oc) :: (P, tabObj (#[] ++ #[rawInt pos.line, rawInt pos.col, .ref c'])) :: offOf [P] led ∧ p.1 ∉ roles A M := fun p hp => (List.mem_cons.mp hp).elim (fun e => by rw [e]; exact ⟨.head _, hcr⟩) fun hp => ⟨up p (H.K p hp).1 fun e => (H.K p hp).2 (e ▸ har), (H.K p hp).2⟩
    have tP : TabIn P pos.line pos.col qual ((c', oc) :: (P, tabObj (#[] ++ #[rawInt pos.line, rawInt pos.col, .ref c'])) :: offOf [P] led) ((c', oc) :: K) := ⟨_, .tail _ (.head _), .inr ⟨c', oc, vs, t, rfl, .head _, hoc, hq⟩⟩
    have tO : ∀ {P' : Addr} {l' c9 : Nat} {q' : Str}, P' ≠ P → TabIn P' l' c9 q' led K → TabIn P' l' c9 q' ((c', oc) :: (P, tabObj (#[] ++ #[rawInt pos.line, rawInt pos.col, .ref c'])) :: offOf [P] led) ((c', oc) :: K) := fun hne ht => ht.mono (fun o ho => up _ ho hne) fun p hp => .tail _ hp
    obtain ⟨t7, t14⟩ := lam_tabs hP tP (fun hne => tO hne H.tH) (fun hne => tO hne H.tW)
    obtain ⟨S, kp⟩ := H.setTab hP' (News.fn N2) up (K' := (c', oc) :: K) t7 t14 hK fun p hp => .tail _ hp
    refine h f c' ctv _ _ h' tk F' N' S kp ⟨fun p hp => .tail _ hp, fun p hp => (List.mem_cons.mp hp).elim (fun e => .inr fun q hq _ => by rw [e]; exact Nat.ne_of_lt (hlt q hq)) .inl⟩ ⟨oc, vs, t, .head _, hoc, hq⟩ (fun p hp => ?_) up
    rcases List.mem_cons.mp hp with rfl | hp
    · exact l2
    · refine Nat.lt_trans (?_ : p.1 < c') l2
      rcases List.mem_cons.mp hp with rfl | hp
      · exact l1 (P, tabObj #[]) (.head _)
      · exact l1 p (.tail _ hp)
  · refine kla_hit F N T C hcd hm (by simp [TriplesOk, rawInt]) (c' := c') (by simp [codeAmong, rawInt]) hcl ?_
    intro f ctv h' tk F' N' l1
    exact h f c' ctv led K h' tk F' N' H Keep.refl KUp.refl ⟨oc, vs, t, hc', hoc, hq⟩ l1 fun p hp _ => hp
end
section
variable {w : World} {led : List Cell} {A : SA} {M : MV} {K : List Cell} {st : St}
theorem SceneIn.sortEnd (S : SceneIn w led A M K st) {new T : List Cell} {D : Addr} {outA : Array Value} {c : Nat} {oF : Cell} {out : List Row} (hT : ∀ p ∈ T, p ∈ fz A M led) (hro : All2 (RowIn T) outA.toList out) (hD : ∀ p ∈ led, p.1 < D)
    (hs : ∀ p ∈ (D, seqObj "list" outA c) :: oF :: led, p ∈ new) (hf : Fun new) : SceneIn w new A M K st ∧ Keep A M led M new ∧ RIn (fz A M new) (.ref D) (.list (out.map rowD)) := by
  have S' := S.mono (new := new) (fun p hp => hs p (.tail _ (.tail _ hp))) hf
  have kp : Keep A M led M new := fun p hp hq => ⟨hs p (.tail _ (.tail _ hp)), hq⟩
  refine ⟨S', kp, .list (vs := outA.toList) (n := c) (mem_fz.mpr ⟨by rw [Array.toArray_toList]; exact hs _ (.head _), S.lt hD⟩) (rows_rall (hro.mono fun _ _ h => h.mono fun p hp => kp.fz p (hT p hp)))⟩
theorem SceneIn.pairEnd (S : SceneIn w led A M K st) {new : List Cell} {D : Addr} {v1 v2 : Value} {d1 d2 : PyData} {c : Nat} (h1 : RIn (fz A M led) v1 d1) (h2 : RIn (fz A M led) v2 d2) (hD : ∀ p ∈ led, p.1 < D)
    (hs : ∀ p ∈ (D, listOf (List.toArray [v1, v2]) c) :: led, p ∈ new) (hf : Fun new) : SceneIn w new A M K st ∧ Keep A M led M new ∧ RIn (fz A M new) (.ref D) (.list [d1, d2]) := by
  have S' := S.mono (new := new) (fun p hp => hs p (.tail _ hp)) hf
  have kp : Keep A M led M new := fun p hp hq => ⟨hs p (.tail _ hp), hq⟩
  exact ⟨S', kp, .list (vs := [v1, v2]) (n := c) (mem_fz.mpr ⟨hs _ (.head _), S.lt hD⟩) (.cons (h1.mono kp.fz) (.cons (h2.mono kp.fz) .nil))⟩
end
theorem SceneIn.waitEnd {w : World} {led : List Cell} {A : SA} {M : MV} {K : List Cell} {st : St} (S : SceneIn w led A M K st) {new : List Cell} {D4 D5 : Addr} {c c5 : Nat} (h4 : ∀ p ∈ led, p.1 < D4) (h5 : ∀ p ∈ (D4, listOf (List.toArray []) c) :: led, p.1 < D5)
    (hs : ∀ p ∈ (D5, listOf (List.toArray [.none, .ref D4]) c5) :: (D4, listOf (List.toArray []) c) :: led, p ∈ new) (hf : Fun new) : SceneIn w new A M K st ∧ Keep A M led M new ∧ RIn (fz A M new) (.ref D5) (outD .none []) := by
  have S' := S.mono (new := new) (fun p hp => hs p (.tail _ (.tail _ hp))) hf
  have kp : Keep A M led M new := fun p hp hq => ⟨hs p (.tail _ (.tail _ hp)), hq⟩
  refine ⟨S', kp, .list (vs := [.none, .ref D4]) (n := c5) (mem_fz.mpr ⟨hs _ (.head _), S.lt fun p hp => h5 p (.tail _ hp)⟩) (.cons .none (.cons (.list (vs := []) (n := c) (mem_fz.mpr ⟨hs _ (.tail _ (.head _)), S.lt h4⟩) .nil) .nil))⟩
theorem rm_find {k : Int} {vs : List Value} {ns : List Int} (hh : IntsAre vs ns) (h : k ∈ ns) : ∃ j q, kf_at k vs = some j ∧ ki_delL vs j = some q ∧ IntsAre q (ns.erase k) := by
  induction hh with
  | nil => exact absurd h List.not_mem_nil
  | @cons n t vs ns hs ih =>
    by_cases e : n = k
    · subst e
      exact ⟨0, vs, by simp [kf_at, isInt], by simp [ki_delL], by simpa using hs⟩
    · have hk : k ∈ ns := (List.mem_cons.mp h).elim (fun q => absurd q.symm e) id
      obtain ⟨j, q, h1, h2, h3⟩ := ih hk
      have e2 : isInt k (.int n t) = false := by simp [isInt, e]
      refine ⟨j + 1, .int n t :: q, by simp [kf_at, e2, h1], by simp [ki_delL, h2], ?_⟩
      rw [List.erase_cons_tail (by simpa using e)]
      exact .cons _ _ h3
theorem kf_ints_of {vs : List Value} {ns : List Int} (hh : IntsAre vs ns) : kf_ints vs = true := by
  induction hh with
  | nil => rfl
  | cons _ _ _ ih => exact ih
theorem rm_led {prog : Program} {w : World} {A : Around} {E : Value → Shared → Prop} {s : Shared} {h₀ : Heap} {L D : Addr} {m : Str → Option Value} {r : List Cell} {vs : List Value} {ns : List Int} {n : Nat} {k : Int} {t : Tok} {Q : Value → Shared → Prop} (F : Fr h₀ L s.heap m) (N : News h₀ L s.heap ((D, listOf vs.toArray n) :: r)) (hr : ∀ p ∈ r, p.1 ≠ D) (hi : IntsAre vs ns) (hk : k ∈ ns) (hz : vs.length ≤ 1000)
    (h : ∀ h' vs', IntsAre vs' (ns.erase k) → Fr h₀ L h' m → News h₀ L h' ((D, listOf (List.toArray vs') (n + 1)) :: r) → Q .none { s with heap := h' }) : wpAny (model prog w) A (call (.builtin "list.remove") [.ref D, .int k t]) Q E s := by
  obtain ⟨j, q, h1, h2, h3⟩ := rm_find hi hk
  exact kf_remove F N (by simpa using kf_ints_of hi) (by simpa using h1) (by simpa using h2) (.head hr) (by rw [sizeLine_eq]; simp; omega) fun h' F' N' => h h' q h3 F' N'
noncomputable def wokeAsl (asl : List Int) (rows : List Row) : List Int := rows.foldl (fun a r => a.erase r.g) asl
theorem wokeAsl_snoc {asl : List Int} {rows : List Row} {r : Row} : wokeAsl asl (rows ++ [r]) = (wokeAsl asl rows).erase r.g := by unfold wokeAsl; rw [List.foldl_append]; rfl
noncomputable def WakeOk : List Int → List Row → Prop
  | _, [] => True
  | asl, r :: rs => r.g ∈ asl ∧ WakeOk (asl.erase r.g) rs
theorem WakeOk.at : ∀ {rows : List Row} {asl : List Int} {i : Nat} {r : Row}, WakeOk asl rows → rows[i]? = some r → r.g ∈ wokeAsl asl (rows.take i)
  | [], _, _, _, _, h => by simp at h
  | y :: ys, asl, 0, x, h, e => by
    simp at e; subst e; exact h.1
  | y :: ys, asl, i + 1, x, h, e => by
    rw [List.take_succ_cons]
    exact WakeOk.at (rows := ys) (asl := asl.erase y.g) h.2 (by simpa using e)
theorem woke_len : ∀ {rows : List Row} {asl : List Int}, (wokeAsl asl rows).length ≤ asl.length
  | [], _ => Nat.le_refl _
  | r :: rs, asl => Nat.le_trans (woke_len (rows := rs) (asl := asl.erase r.g)) (List.length_erase_le)
end
section
theorem stopAsg {M : Model} {A : Around} {Q : Flow → Shared → Prop} {E : Value → Shared → Prop} {s : Shared} {env : Env} {ts : List Expr} {a b c : Expr} {p pos : Pos} (g : wpAny M A (stopT (exec (.Assign ts (.IfExp a b c p) pos) env)) Q E s) : wpAny M A (exec (.Assign ts (.IfExp a b c p) pos) env) Q E s := g
theorem stopIf {M : Model} {A : Around} {Q : Flow → Shared → Prop} {E : Value → Shared → Prop} {s : Shared} {env : Env} {a : Expr} {b c : List Stmt} {pos : Pos} (g : wpAny M A (stopT (exec (.If a b c pos) env)) Q E s) : wpAny M A (exec (.If a b c pos) env) Q E s := g
local macro_rules | `(tactic| walk_at $s:str) => `(tactic| k_extra $(Lean.Syntax.mkStrLit ("L6 " ++ s.getString)))
theorem tup_rest {prog : Program} {w : World} {A : Around} {E : Value → Shared → Prop} {s : Shared} {h₀ : Heap} {L : Addr} {m : Str → Option Value} {news : List Cell} {value slice : Expr} {t : Addr} {v : Value} {vs : List Value} {n : Nat} {u : Tok} {Q : Value → Shared → Prop}
    (F : Fr h₀ L s.heap m) (N : News h₀ L s.heap news) (hm : (t, tupO (v :: vs) n) ∈ news) (hz : vs.length ≤ 1000)
    (h : ∀ D h', Fr h₀ L h' m → News h₀ L h' ((D, tupO vs 0) :: news) → (∀ p ∈ news, p.1 < D) → Q (.ref D) { s with heap := h' })
    (hs : subscripted slice false (.ref t) (.ref s.heap.objs.size) = operate [.ref s.heap.objs.size, .ref t] (getItem (.ref t) (.ref s.heap.objs.size)))
    (hg : ∀ r, letTemporaryGo value (.ref t) r = pure ()) :
    wpAny (model prog w) A (subscriptTail value slice (.ref t) (.ref s.heap.objs.size)) Q E { s with heap := s.heap.push { cls := .type "slice", data := .fields #[.int 1 u, .none, .none] } } :=
  slice_tuple_from (items := (v :: vs).toArray) (a := 1) F N (News.isTup N hm) (by decide) (by simp) (fun h' F' N' => h _ h' F' N' fun p hp => Nat.lt_succ_of_lt (Heap.lt_size (N p hp).1)) hs hg (by rw [sizeLine_eq]; simp; omega)
noncomputable def toldV (f : First) (fv : Value) : Value := match f with
  | .blocked => .none
  | _ => fv
structure ToldOk (A : SA) (M : MV) (fo : Addr) (L0 : List Cell) (f : First) (tv : Value) (new : List Cell) : Prop where
  sub : ∀ p ∈ L0, p ∈ new
  rin : RIn (fz A M (offOf [fo] new)) tv (toldD f)
inductive P_heard_spec (w : World) (led : List Cell) (A : SA) (M : MV) (K : List Cell) (st : St) (f : First) (rows : List WRow) (r : Value) (new : List Cell) : Prop where
  | mk (M' : _) (K' : _) (out : _) (h1 : SceneIn w new A M' K' (hearSt st rows)) (h2 : Keep A M led M' new) (h3 : KUp A M led K K') (h4 : SortOf (rows.map hRow) out) (h5 : RIn (fz A M' new) r (outD (toldD f) out)) : P_heard_spec w led A M K st f rows r new
noncomputable def T_heard_spec (w : World) (led : List Cell) (A : SA) (M : MV) (K : List Cell) (st : St) (f : First) (rows : List WRow) (C : Value → List Cell → Prop) : Prop := ∀ r : Value, ∀ new : List Cell, ∀ M', ∀ K', ∀ out, (SceneIn w new A M' K' (hearSt st rows)) → (Keep A M led M' new) → (KUp A M led K K') → (SortOf (rows.map hRow) out) → (RIn (fz A M' new) r (outD (toldD f) out)) → C (r) (new)
theorem U_heard_spec {w : World} {led : List Cell} {A : SA} {M : MV} {K : List Cell} {st : St} {f : First} {rows : List WRow} : ∀ C, T_heard_spec w led A M K st f rows C → ∀ r new, P_heard_spec w led A M K st f rows r new → C r new := fun C k9 r new h9 => by
  obtain ⟨M', K', out, h1, h2, h3, h4, h5⟩ := h9
  exact k9 r new M' K' out h1 h2 h3 h4 h5
theorem heard_spec {w : World} {led : List Cell} {A : SA} {M : MV} {K : List Cell} {st : St} {f : First} {rows : List WRow} {rv : Value} (H : SceneIn w led A M K st) (ho : OutIn (fz A M led) rv f rows) (hok : HearOk st rows) (hz : ∀ n, Two n → QSz (st.q n)) (hrz : rows.length ≤ 60) (hsz : st.sels.length ≤ 100) (hfs : FSc f) :
    CallSpec 460 3600 w 312 [.ref A.S, rv] led (P_heard_spec w led A M K st f rows) := by
  unfold CallSpec
  intro gd cn csc a ccd cls outer A₀ base h₀ L m s p loose mean mg mb Q E B F X N T hk ret
  refine wpAny_call ?_
  obtain ⟨ra, fv, vs, c, rfl, hra, hf, hrs⟩ := ho
  have hvl := hrs.length
  have hvz : vs.length ≤ 1000 := by omega
  have mra := (mem_fz.mp hra).1
  have mS := H.S
  have oS := H.oS
  have hq9 : CutMark := trivial
  obtain ⟨fa, rfl⟩ : ∃ fa, fv = .ref fa := by cases f <;> (obtain ⟨fa, _, _, h⟩ := hf; first | exact ⟨fa, h.1⟩ | (obtain ⟨_, h⟩ := h; exact ⟨fa, h.1⟩))
  k_dflt row_room_at enter9
  k_steps
  refine goOn ?_
  rename_i fo h1 _ lf _ Dt h2 _ lt _ h3 h4 _ _ h5 _ _ F9 N9
  replace lf : ∀ p ∈ led, p.1 < fo := kst_ltOf lf
  have N9' : News _ _ _ ((fo, listOf (List.toArray []) 0) :: led) := News.sub N9 (by row_room_at sub9)
  clear N9
  refine cutT (Str.ofString "told") F9 (fun tv new => tv = toldV f (.ref fa) ∧ ∀ p ∈ (fo, listOf (List.toArray []) 0) :: led, p ∈ new) ?qcut1 ?_
  case qcut1 =>
    cases f with
    | blocked =>
      obtain ⟨_, fn, ft, e9, hfm⟩ := hf
      cases e9
      have mf := (mem_fz.mp hfm).1
      k_steps
      exact ⟨rfl, _, _, _, _, _, rfl, by assumption, rfl, fun y hy => by simp +zetaDelta only [if_neg hy], by assumption, rfl, by row_room_at sub9⟩
    | done =>
      obtain ⟨_, fn, ft, e9, hfm⟩ := hf
      cases e9
      have mf := (mem_fz.mp hfm).1
      k_steps
      exact ⟨rfl, _, _, _, _, _, rfl, by assumption, rfl, fun y hy => by simp +zetaDelta only [if_neg hy], by assumption, rfl, by row_room_at sub9⟩
    | got v b =>
      obtain ⟨_, fn, ft, e9, hfm⟩ := hf
      cases e9
      have mf := (mem_fz.mp hfm).1
      k_steps
      exact ⟨rfl, _, _, _, _, _, rfl, by assumption, rfl, fun y hy => by simp +zetaDelta only [if_neg hy], by assumption, rfl, by row_room_at sub9⟩
    | panic x =>
      obtain ⟨_, fn, ft, t', e9, hfm⟩ := hf
      cases e9
      have mf := (mem_fz.mp hfm).1
      k_steps
      exact ⟨rfl, _, _, _, _, _, rfl, by assumption, rfl, fun y hy => by simp +zetaDelta only [if_neg hy], by assumption, rfl, by row_room_at sub9⟩
  clear F9 N9'
  intro tv n1 h6 tk6 F6 N6 htn
  obtain ⟨rfl, hn1⟩ := htn
  have hq9 : CutMark := trivial
  k_steps
  refine goOn ?_
  refine cutT2 F6 (fun tv new => ToldOk A M fo ((fo, listOf (List.toArray []) 0) :: led) f tv new) ?qcut2 ?_
  case qcut2 =>
    cases f with
    | blocked =>
      obtain ⟨_, fn, ft, e9, hfm⟩ := hf
      cases e9
      have mf := (mem_fz.mp hfm).1
      have mf9 := hn1 _ (.tail _ mf)
      k_steps
      exact ⟨rfl, _, _, _, _, _, rfl, by assumption, rfl, fun y hy => by simp +zetaDelta only [if_neg hy], by assumption, hn1, .none⟩
    | done =>
      obtain ⟨_, fn, ft, e9, hfm⟩ := hf
      cases e9
      have mf := (mem_fz.mp hfm).1
      have mf9 := hn1 _ (.tail _ mf)
      k_steps
      rename_i D8 _ _ l8 _ _ _ _ _ _
      replace l8 : ∀ p ∈ n1, p.1 < D8 := kst_ltOf l8
      exact ⟨rfl, _, _, _, _, _, rfl, by assumption, rfl, fun y hy => by simp +zetaDelta only [if_neg hy], by assumption, fun p hp => .tail _ (hn1 p hp), .tuple (mem_fz.mpr ⟨mem_off1 (.head _) (Nat.ne_of_gt (l8 _ (hn1 _ (.head _)))), H.lt fun p hp => l8 p (hn1 p (.tail _ hp))⟩) (.cons (.str _ _) .nil)⟩
    | got v b =>
      obtain ⟨_, fn, ft, e9, hfm⟩ := hf
      cases e9
      have mf := (mem_fz.mp hfm).1
      have mf9 := hn1 _ (.tail _ mf)
      k_steps
      rename_i D8 _ _ l8 _ _ _ _ _ _
      have l8' : AllLt D8 n1 := allLtSub l8 (by row_room_at sub9)
      exact ⟨rfl, _, _, _, _, _, rfl, by assumption, rfl, fun y hy => by simp +zetaDelta only [if_neg hy], by assumption, fun p hp => .tail _ (.tail _ (.tail _ (hn1 p hp))), .tuple (mem_fz.mpr ⟨mem_off1 (.head _) (ne_of_lt_all l8' _ (hn1 _ (.head _))).symm, H.lt fun p hp => kst_ltOf l8' _ (hn1 p (.tail _ hp))⟩) (.cons (.str _ _) (.cons (Sc.rin hfs) (.cons (.bool _) .nil)))⟩
    | panic x =>
      obtain ⟨_, fn, ft, t', e9, hfm⟩ := hf
      cases e9
      have mf := (mem_fz.mp hfm).1
      have mf9 := hn1 _ (.tail _ mf)
      k_steps
      exact ⟨rfl, _, _, _, _, _, rfl, by assumption, rfl, fun y hy => by simp +zetaDelta only [if_neg hy], by assumption, hn1, .tuple (mem_fz.mpr ⟨mem_off1 mf9 (Nat.ne_of_lt (lf _ mf)), H.tup mf⟩) (.cons (.str _ _) (.cons (.str _ _) .nil))⟩
  clear F6 N6 hn1
  intro tv new h7 tk7 F7 N7 htl
  obtain ⟨hsub, hrt⟩ := htl
  have mra' := hsub _ (.tail _ mra)
  have mS' := hsub _ (.tail _ mS)
  k_steps
  rename_i Ds _ F8 N8 ls
  have H1 := H.mono (new := (Ds, listOf vs.toArray 0) :: new) (fun p hp => .tail _ (hsub _ (.tail _ hp))) (News.fn N8)
  have hDs : Ds ∉ roles A M := H.lt fun p hp => ls p (hsub p (.tail _ hp))
  have hfoR : fo ∉ roles A M := H.lt lf
  have hfs9 : Ds ≠ fo := Nat.ne_of_gt (ls _ (hsub _ (.head _)))
  have hK9 : ∀ p ∈ K, p.1 ≠ fo := fun p hp => Nat.ne_of_lt (lf p (H.K p hp).1)
  have hup0 : ∀ p ∈ fz A M led, p ∈ fz A M (offOf [fo] ((Ds, listOf vs.toArray 0) :: new)) := fun p hp => let ⟨a, b⟩ := mem_fz.mp hp; mem_fz.mpr ⟨mem_off1 (.tail _ (hsub _ (.tail _ a))) (Nat.ne_of_lt (lf p a)), b⟩
  have hup1 : ∀ p ∈ fz A M (offOf [fo] new), p ∈ fz A M (offOf [fo] ((Ds, listOf vs.toArray 0) :: new)) := fun p hp => let ⟨a, b⟩ := mem_fz.mp hp; mem_fz.mpr ⟨mem_off1 (.tail _ (mem_offOf.mp a).1) (fun e => (mem_offOf.mp a).2 (List.mem_singleton.mpr e)), b⟩
  (with_unfolding_all refine' for_listN [Str.ofString "word", Str.ofString "goroutine", Str.ofString "case", Str.ofString "select", Str.ofString "what"] (fun i led₁ => ∃ M' fvs nf, SceneIn w led₁ A M' K (hearSt st (rows.take i)) ∧ Keep A M (offOf [fo] ((Ds, listOf vs.toArray 0) :: new)) M' (offOf [fo] led₁) ∧ (fo, listOf (List.toArray fvs) nf) ∈ led₁ ∧ fo ∉ roles A M' ∧ All2 (RowIn (fz A M' (offOf [fo] led₁))) fvs ((rows.take i).map hRow)) ?qhh ?qF ?qN (l := Ds) (vs := vs) (nn := 0) ?qhl ?qh0 ?qturn ?qfin)
  case qhh => rfl
  case qF => assumption
  case qN => assumption
  case qhl => row_room_at mem9
  case qh0 => exact ⟨M, [], 0, H1, Keep.refl, .tail _ (hsub _ (.head _)), hfoR, .nil⟩
  case qturn =>
    clear F7 N7 F8 N8
    intro i v f9 led₁ own h tk hv hp9 hl₁ hown hnt F₁ N₁
    obtain ⟨M', fvs, nf, H₁, kp₁, hfo, hfr, hall⟩ := hp9
    obtain ⟨x, hx, hxi⟩ := hrs.get hv
    have hxi' := hxi.mono fun p hp => kp₁.fz p (hup0 p hp)
    have hat := hok.at hx
    have hsn : hearSt st (rows.take (i + 1)) = hearStep (hearSt st (rows.take i)) x := by rw [take_snoc hx, hearSt_snoc]
    have hmp : (rows.take (i + 1)).map hRow = (rows.take i).map hRow ++ [hRow x] := by rw [take_snoc hx, List.map_append]; rfl
    have hz9 := hear_sz (rows := rows.take i) hz
    have hs9 := hear_sels (rows := rows.take i) (st := st)
    have hil : i < 60 := by have := (List.getElem?_eq_some_iff.mp hx).1; omega
    have hal := hall.length
    have hfl : fvs.length < 60 := by rw [hal, List.length_map, List.length_take]; omega
    have hDr : Ds ∉ roles A M' := (kp₁ _ (mem_off1 (.head _) hfs9) hDs).2
    generalize hst : hearSt st (rows.take i) = st₁ at H₁ hsn hz9 hs9 hat
    obtain ⟨wa, wn, tw, tg, tc, ts, wv, rfl, hm, hr⟩ := hxi'
    have hm1 := (mem_offOf.mp (mem_fz.mp hm).1).1
    cases hxs : x.s with
    | none =>
      have hxc : x.c = none := by have := hat.cs; rw [hxs] at this; cases hc : x.c <;> simp_all
      have hx9 : hRow x = ⟨x.g, 0, x.w⟩ := by unfold hRow; rw [hxc]; rfl
      simp only [hxs, hxc, optV] at hm hm1
      rw [hearStep, hxs] at hsn
      simp only at hsn
      have g0 : ∀ p ∈ led₁, p.1 ≠ fo → p ∈ offOf [fo] (led₁ ++ own) := fun p hp hq => mem_off1 (memL hp) hq
      have g1 := g0 _ hm1 fun e => (mem_offOf.mp (mem_fz.mp hm).1).2 (List.mem_singleton.mpr e)
      have g5 : ∀ p ∈ own, p ∈ offOf [fo] (led₁ ++ own) := fun p hp => mem_off1 (memR hp) (hown p hp _ (List.mem_map.mpr ⟨_, hfo, rfl⟩))
      have g6 : ∀ p ∈ offOf [fo] (led₁ ++ own), p.1 ≠ fo := fun p hp e => (mem_offOf.mp hp).2 (List.mem_singleton.mpr e)
      have g7 : ∀ p ∈ offOf [fo] led₁, p ∈ offOf [fo] (led₁ ++ own) := fun p hp => mem_offOf.mpr ⟨memL (mem_offOf.mp hp).1, (mem_offOf.mp hp).2⟩
      have Na := News.sub (l' := (fo, listOf fvs.toArray nf) :: offOf [fo] (led₁ ++ own)) N₁ (subCons (memL hfo) fun p hp => (mem_offOf.mp hp).1)
      clear N₁
      generalize offOf [fo] (led₁ ++ own) = rest9 at Na g0 g1 g5 g6 g7
      (try show wpAny _ _ _ _ _ _)
      k_fold
      k_steps
      rename_i D9 _ _ l9 _ _ _ F8 _ N8
      (try simp only [List.push_toArray, List.cons_append, List.nil_append] at N8)
      obtain ⟨t9, N9⟩ : ∃ t9, News _ _ _ ((fo, listOf (List.toArray (fvs ++ [.ref D9])) (nf + 1)) :: (D9, tupO [.int x.g tg, .int 0 t9, wv] 0) :: rest9) := ⟨_, News.sub N8 (by row_room_at sub9)⟩
      have l8 : ∀ p ∈ rest9, p.1 ≠ D9 := ne_of_lt_all (d := D9) (l := rest9) (by row_room_at lt9)
      have l7 : fo ≠ D9 := by row_room_at ne9
      have l6 : ∀ p ∈ led₁, p.1 ≠ D9 := fun p hp => if e : p.1 = fo then by rw [e]; exact l7 else l8 p (g0 p hp e)
      have hnx : ∀ p ∈ (fo, listOf (List.toArray (fvs ++ [.ref D9])) (nf + 1)) :: (D9, tupO [.int x.g tg, .int 0 t9, wv] 0) :: offOf [fo] led₁, p ∈ (fo, listOf (List.toArray (fvs ++ [.ref D9])) (nf + 1)) :: (D9, tupO [.int x.g tg, .int 0 t9, wv] 0) :: rest9 := subCons (.head _) (subCons (.tail _ (.head _)) fun p hp => .tail _ (.tail _ (g7 p hp)))
      obtain ⟨S, kp, ha⟩ := heard_push (r := ⟨x.g, 0, x.w⟩) H₁ hfo hfr hK9 hall l6 hr (News.fn (News.sub N9 hnx))
      exact fend _ (by assumption) N9 (by row_room_at keep9) (subApp hnx fun p hp => .tail _ (.tail _ (g5 p hp))) (ownCons (fun p hp => g6 p (g5 p hp)) (ownCons (fun p hp => l8 p (g5 p hp)) fun q hq p hp => hown p hp q.1 (List.mem_map.mpr ⟨q, (mem_offOf.mp hq).1, rfl⟩))) (fun p hp => by rw [List.mem_singleton.mp hp]; exact .tail _ (.tail _ (mem_off1 hl₁ hfs9))) ⟨M', _, _, by rw [hsn]; exact S, kp₁.trans kp, .head _, hfr, by rw [hmp, hx9]; exact ha⟩
    | some t =>
      obtain ⟨cs9, hsel, h2s⟩ := hat.sel t hxs
      obtain ⟨c9, hxc⟩ : ∃ c9, x.c = some c9 := by have := hat.cs; rw [hxs] at this; cases hc : x.c <;> simp_all
      have hx9 : hRow x = ⟨x.g, c9, x.w⟩ := by unfold hRow; rw [hxc]; rfl
      simp only [hxs, hxc, optV] at hm hm1
      rw [hearStep, hxs] at hsn
      simp only [hsel, Option.getD_some] at hsn
      obtain ⟨o9, kvs, hSD, hdi, hlo, hrel⟩ := H₁.sd
      obtain ⟨v9, hva, la, cvs, cnt, rfl, hla, hcs9⟩ := sd_at hrel hsel
      have hkz : kvs.length ≤ 100 := by have := hrel.length; omega
      have H₉ := H₁.mono (new := led₁ ++ own) (fun p hp => memL hp) (News.fn N₁)
      have hSr : A.SD ∈ roles A M' := by row_room_at im9
      have hS1 : ∀ o', o'.IsDictOf (intKind PG w) (without kvs t) → SceneIn w ((A.SD, o') :: offOf [A.SD] (led₁ ++ own)) A M' K { st₁ with sels := dropSel t st₁.sels } ∧ Keep A M' (led₁ ++ own) M' ((A.SD, o') :: offOf [A.SD] (led₁ ++ own)) := fun o' ho' => H₉.setSD ho' (sd_drop hrel) H₉.K fun _ h => h
      have hSne : A.S ≠ A.SD := fun e => by
        have := pw_sel (is := [21, 22]) H₁.ne (by decide) (by show ∀ i ∈ _, i < 27; decide)
        exact (List.pairwise_cons.mp this).1 _ (List.mem_singleton.mpr rfl) e.symm
      have g0 : ∀ p ∈ led₁, p.1 ≠ A.SD → p ∈ offOf [A.SD] (led₁ ++ own) := fun p hp hq => mem_off1 (memL hp) hq
      have g1 := g0 _ hm1 fun e => H₁.tup hm1 (by have e : wa = A.SD := e; rw [e]; exact hSr)
      have g2 := g0 _ H₁.S hSne
      have g3 := g0 _ (H₁.K _ hla).1 fun e => (H₁.K _ hla).2 (by have e : la = A.SD := e; show la ∈ _; rw [e]; exact hSr)
      have g4 : ∀ p ∈ offOf [A.SD] (led₁ ++ own), p.1 ≠ A.SD := fun p hp e => (mem_offOf.mp hp).2 (List.mem_singleton.mpr e)
      have Na := News.sub (l' := (A.SD, o9) :: offOf [A.SD] (led₁ ++ own)) N₁ (subCons (memL hSD) fun p hp => (mem_offOf.mp hp).1)
      clear N₁
      generalize offOf [A.SD] (led₁ ++ own) = rest9 at Na g0 g1 g2 g3 g4 hS1
      (try show wpAny _ _ _ _ _ _)
      k_fold
      k_steps
      rename_i hd8
      obtain ⟨S1, kp1⟩ := hS1 _ hd8
      refine goOn ?_
      (try k_fold)
      refine' CallSpec.callU (dequeue_spec S1 (.tail _ g3) ((H₁.K _ hla).2) (hcs9.mono fun _ _ h => S1.caseKK h) h2s hz9) U_dequeue_spec ?qhh ?qhf ?qhdp ?qhu ?qB ?qF ?qX ?qN ?qhs ?qT ?qhk ?_
      row_room_at sides9
      intro new9 M'' S kp h' tk' F' N'
      clear hS1 g0 g1 g2 g3 g4
      obtain ⟨S9, q1, q2, q3⟩ := H₁.settle hown hnt S (kp1.trans kp)
      obtain ⟨hfo9, hfr9⟩ := q3 _ hfo hfr
      have hfon := (mem_offOf.mp hfo9).1
      have kpf : Keep A M' (offOf [fo] led₁) M'' (offOf [fo] (offOf (own.map (·.1)) new9)) := fun p hp hq => let ⟨a, b⟩ := q3 p (mem_offOf.mp hp).1 hq; ⟨mem_offOf.mpr ⟨a, (mem_offOf.mp hp).2⟩, b⟩
      have g0 : ∀ p ∈ new9, p.1 ≠ fo → p ∈ offOf [fo] new9 := fun p hp hq => mem_off1 hp hq
      have g5 : ∀ p ∈ own, p ∈ offOf [fo] new9 := fun p hp => mem_off1 (q1 p (memR hp)) (q2 _ hfo9 p hp)
      have g6 : ∀ p ∈ offOf [fo] new9, p.1 ≠ fo := fun p hp e => (mem_offOf.mp hp).2 (List.mem_singleton.mpr e)
      have g7 : ∀ p ∈ offOf [fo] (offOf (own.map (·.1)) new9), p ∈ offOf [fo] new9 := fun p hp => mem_offOf.mpr ⟨(mem_offOf.mp (mem_offOf.mp hp).1).1, (mem_offOf.mp hp).2⟩
      have Nb := News.sub (l' := (fo, listOf fvs.toArray nf) :: offOf [fo] new9) N' (subCons hfon fun p hp => (mem_offOf.mp hp).1)
      clear N'
      generalize offOf [fo] new9 = rest8 at Nb g0 g5 g6 g7
      k_steps
      rename_i D9 _ _ l9 _ _ _ F8 _ N8
      (try simp only [List.push_toArray, List.cons_append, List.nil_append] at N8)
      have N9 : News _ _ _ ((fo, listOf (List.toArray (fvs ++ [.ref D9])) (nf + 1)) :: (D9, tupO [.int x.g tg, .int c9 tc, wv] 0) :: rest8) := News.sub N8 (by row_room_at sub9)
      have l8 : ∀ p ∈ rest8, p.1 ≠ D9 := ne_of_lt_all (d := D9) (l := rest8) (by row_room_at lt9)
      have l7 : fo ≠ D9 := by row_room_at ne9
      have l6 : ∀ p ∈ offOf (own.map (·.1)) new9, p.1 ≠ D9 := fun p hp => if e : p.1 = fo then by rw [e]; exact l7 else l8 p (g0 p (mem_offOf.mp hp).1 e)
      have hnx : ∀ p ∈ (fo, listOf (List.toArray (fvs ++ [.ref D9])) (nf + 1)) :: (D9, tupO [.int x.g tg, .int c9 tc, wv] 0) :: offOf [fo] (offOf (own.map (·.1)) new9), p ∈ (fo, listOf (List.toArray (fvs ++ [.ref D9])) (nf + 1)) :: (D9, tupO [.int x.g tg, .int c9 tc, wv] 0) :: rest8 := subCons (.head _) (subCons (.tail _ (.head _)) fun p hp => .tail _ (.tail _ (g7 p hp)))
      obtain ⟨S2, kp2, ha⟩ := heard_push (r := ⟨x.g, c9, x.w⟩) S9 hfo9 hfr9 hK9 (hall.mono fun _ _ h => h.mono kpf.fz) l6 (hr.mono kpf.fz) (News.fn (News.sub N9 hnx))
      exact fend _ (by assumption) N9 (by row_room_at keep9) (subApp hnx fun p hp => .tail _ (.tail _ (g5 p hp))) (ownCons (fun p hp => g6 p (g5 p hp)) (ownCons (fun p hp => l8 p (g5 p hp)) fun q hq p hp => q2 q (mem_offOf.mp hq).1 p hp)) (fun p hp => by rw [List.mem_singleton.mp hp]; exact .tail _ (.tail _ (mem_off1 (q3 _ hl₁ hDr).1 hfs9))) ⟨M'', _, _, by rw [hsn]; exact S2, (kp₁.trans kpf).trans kp2, .head _, hfr9, by rw [hmp, hx9]; exact ha⟩
  case qfin =>
    intro f9 led' h' tk hp9 F' N'
    obtain ⟨M', fvs, nf, S, kp, hfo, hfr, hall⟩ := hp9
    rw [hvl, List.take_length] at S hall
    k_steps
    refine goOn ?_
    refine' lam_S (c := 311) (P := 307) (qual := qH) (Or.inl ⟨rfl, rfl, rfl, rfl⟩) S ?qF ?qN ?qT ?qC rfl rfl rfl rfl ?_
    case qF => k_asm
    case qN => k_asm
    case qT => k_asm
    case qC => exact codeHd_of_K (by assumption) (by kernel_rfl)
    intro fl c' ctv led2 K2 h2 tk2 F2 N2 S2 kp2 kk hp9 l2 up2
    obtain ⟨oc, vs9, t9, hc9, hoc, hq9⟩ := hp9
    have kpo : Keep A M' (offOf [fo] led') M' (offOf [fo] led2) := fun p hp hq => let ⟨a, b⟩ := kp2 p (mem_offOf.mp hp).1 hq; ⟨mem_offOf.mpr ⟨a, (mem_offOf.mp hp).2⟩, b⟩
    have hfo2 := (kp2 _ hfo hfr).1
    have hall2 := hall.mono fun _ _ h => h.mono kpo.fz
    have hrt2 := ((hrt.mono hup1).mono kp.fz).mono kpo.fz
    have hc2 := (S2.K _ hc9).1
    have hfl := hall.length
    rw [List.length_map] at hfl
    clear F' N'
    k_steps
    refine goOn ?_
    (show wpAny _ _ (call (Value.builtin "sorted") [Value.ref fo] [(Str.ofString "key", Value.ref fl)]) _ _ _)
    (with_unfolding_all refine' ksk_sorted (b := false) (f := .ref fl) (kz := (rows.map hRow).map (·.g)) (vs := fvs) ?qsF ?qsN ?qsl ?qslen ?qs64 (ksk_s1 _ _) (fun _ => ksk_l1 _ _) (fun _ => ksk_t1 _ _) ?qsturn ?qsout)
    case qsF => k_asm
    case qsN => k_asm
    case qsl => exact News.isList N2 (.tail _ hfo2)
    case qslen => rw [List.length_map, List.length_map, hfl]
    case qs64 => omega
    case qsturn =>
      intro i v k hv hk h tk own F1 N1
      obtain ⟨r9, hr9, ra9, rn9, tg9, tc9, wv9, rfl, hm9, _⟩ := hall2.get hv
      rw [List.getElem?_map, hr9] at hk
      cases hk
      have hm8 := (mem_offOf.mp (mem_fz.mp hm9).1).1
      clear F2 N2
      refine wpAny_call ?_
      kla_enter
      k_steps
    case qsout =>
      intro D3 h3 tk3 out3 c3 F3 N3 l3 hk3
      obtain ⟨out, hso, hro⟩ := sort_out hall2 hk3
      have l3' : ∀ p ∈ led2, p.1 < D3 := fun p hp => l3 p (.tail _ hp)
      have hT3 : ∀ p ∈ fz A M' (offOf [fo] led2), p ∈ fz A M' led2 := fun p hp => mem_fz.mpr ⟨(mem_offOf.mp (mem_fz.mp hp).1).1, (mem_fz.mp hp).2⟩
      obtain ⟨S3, kp3, hr3⟩ := S2.sortEnd hT3 hro l3' (fun _ h => h) (News.fn N3)
      have l3n : ∀ p ∈ (D3, seqObj "list" out3 c3) :: (fl, kla_obj "<lambda>" qH _ _ _ _ _ c' ctv) :: led2, p.1 < D3 + 1 := fun p hp => (List.mem_cons.mp hp).elim (fun e => by rw [e]; exact Nat.lt_succ_self _) fun hp => Nat.lt_succ_of_lt (l3 p hp)
      have hrt3 := (hrt2.mono hT3).mono kp3.fz
      clear F2 N2
      k_steps
      rename_i D4 _ _ l4 _ _ N4 _ _ _ _ _
      obtain ⟨S4, kp4, hr4⟩ := S3.pairEnd (c := 0) hrt3 hr3 (fun p hp => Nat.lt_of_lt_of_le (l3n p hp) l4.1) (fun _ h => h) (News.fn N4)
      have kpA : Keep A M led M (offOf [fo] ((Ds, listOf vs.toArray 0) :: new)) := fun p hp hq => ⟨mem_off1 (.tail _ (hsub _ (.tail _ hp))) (Nat.ne_of_lt (lf p hp)), hq⟩
      have kpB : Keep A M' (offOf [fo] led') M' led2 := fun p hp hq => kp2 p (mem_offOf.mp hp).1 hq
      exact ret _ _ _ _ (by assumption) (by assumption) ⟨M', K2, out, S4, (((kpA.trans kp).trans kpB).trans kp3).trans kp4, KUp.pre (fun p hp hq => let ⟨a, b⟩ := (kpA.trans kp) p hp hq; ⟨(mem_offOf.mp a).1, b⟩) kk, hso, hr4⟩
end
section
local macro_rules | `(tactic| walk_at $s:str) => `(tactic| k_extra $(Lean.Syntax.mkStrLit ("L7 " ++ s.getString)))
inductive P_woken_spec (w : World) (led : List Cell) (A : SA) (M : MV) (K : List Cell) (st : St) (rows : List Row) (r : Value) (new : List Cell) : Prop where
  | mk (K' : _) (out : _) (h1 : SceneIn w new A M K' { st with asl := wokeAsl st.asl rows }) (h2 : Keep A M led M new) (h3 : KUp A M led K K') (h4 : SortOf rows out) (h5 : RIn (fz A M new) r (.list (out.map rowD))) : P_woken_spec w led A M K st rows r new
noncomputable def T_woken_spec (w : World) (led : List Cell) (A : SA) (M : MV) (K : List Cell) (st : St) (rows : List Row) (C : Value → List Cell → Prop) : Prop := ∀ r : Value, ∀ new : List Cell, ∀ K', ∀ out, (SceneIn w new A M K' { st with asl := wokeAsl st.asl rows }) → (Keep A M led M new) → (KUp A M led K K') → (SortOf rows out) → (RIn (fz A M new) r (.list (out.map rowD))) → C (r) (new)
theorem U_woken_spec {w : World} {led : List Cell} {A : SA} {M : MV} {K : List Cell} {st : St} {rows : List Row} : ∀ C, T_woken_spec w led A M K st rows C → ∀ r new, P_woken_spec w led A M K st rows r new → C r new := fun C k9 r new h9 => by
  obtain ⟨K', out, h1, h2, h3, h4, h5⟩ := h9
  exact k9 r new K' out h1 h2 h3 h4 h5
theorem woken_spec {w : World} {led : List Cell} {A : SA} {M : MV} {K : List Cell} {st : St} {rows : List Row} {rl : Addr} {rc : Nat} {rvs : List Value} (H : SceneIn w led A M K st) (hrl : (rl, listOf rvs.toArray rc) ∈ led) (hrr : rl ∉ roles A M) (hrs : All2 (RowIn (fz A M led)) rvs rows) (hok : WakeOk st.asl rows) (haz : st.asl.length ≤ 100) (hrz : rows.length ≤ 60) :
    CallSpec 470 3700 w 319 [.ref A.S, .ref rl] led (P_woken_spec w led A M K st rows) := by
  unfold CallSpec
  intro gd cn csc a ccd cls outer A₀ base h₀ L m s p loose mean mg mb Q E B F X N T hk ret
  refine wpAny_call ?_
  have hvl := hrs.length
  have mS := H.S
  have oS := H.oS
  k_dflt row_room_at enter9
  k_steps
  (with_unfolding_all refine' for_listN [Str.ofString "row"] (fun i led₁ => SceneIn w led₁ A M K { st with asl := wokeAsl st.asl (rows.take i) } ∧ Keep A M led M led₁) ?qhh ?qF ?qN (l := rl) (vs := rvs) (nn := rc) ?qhl ?qh0 ?qturn ?qfin)
  case qhh => rfl
  case qF => assumption
  case qN => assumption
  case qhl => row_room_at mem9
  case qh0 => exact ⟨H, Keep.refl⟩
  case qturn =>
    intro i v f9 led₁ own h tk hv hp9 hl₁ hown hnt F₁ N₁
    obtain ⟨H₁, kp₁⟩ := hp9
    obtain ⟨x, hx, hxi⟩ := hrs.get hv
    have hxi' := hxi.mono kp₁.fz
    have hat := hok.at hx
    have hsn : wokeAsl st.asl (rows.take (i + 1)) = (wokeAsl st.asl (rows.take i)).erase x.g := by rw [take_snoc hx, wokeAsl_snoc]
    have hrr₁ := (kp₁ _ hrl hrr).2
    have haz9 := Nat.le_trans (woke_len (rows := rows.take i) (asl := st.asl)) haz
    obtain ⟨ra, rn, tg, tc, wv, rfl, hm, hr⟩ := hxi'
    have hm1 := (mem_fz.mp hm).1
    generalize hst : wokeAsl st.asl (rows.take i) = asl₁ at H₁ hsn hat haz9
    obtain ⟨na, avs, hAL, hia⟩ := H₁.al
    replace hia : IntsAre avs asl₁ := hia
    have havz : avs.length ≤ 1000 := by rw [hia.length]; omega
    have hAr : A.AL ∈ roles A M := by row_room_at im9
    have hSne : A.S ≠ A.AL := fun e => by
      have := pw_sel (is := [20, 22]) H₁.ne (by decide) (by show ∀ i ∈ _, i < 27; decide)
      exact (List.pairwise_cons.mp this).1 _ (List.mem_singleton.mpr rfl) e.symm
    have g0 : ∀ p ∈ led₁, p.1 ≠ A.AL → p ∈ offOf [A.AL] (led₁ ++ own) := fun p hp hq => mem_off1 (memL hp) hq
    have g1 := g0 _ hm1 fun e => H₁.tup hm1 (by have e : ra = A.AL := e; rw [e]; exact hAr)
    have g2 := g0 _ H₁.S hSne
    have g4 : ∀ p ∈ offOf [A.AL] (led₁ ++ own), p.1 ≠ A.AL := fun p hp e => (mem_offOf.mp hp).2 (List.mem_singleton.mpr e)
    have g5 : ∀ p ∈ own, p ∈ offOf [A.AL] (led₁ ++ own) := fun p hp => mem_off1 (memR hp) (hown p hp _ (List.mem_map.mpr ⟨_, hAL, rfl⟩))
    have g7 : ∀ p ∈ offOf [A.AL] led₁, p ∈ offOf [A.AL] (led₁ ++ own) := fun p hp => mem_offOf.mpr ⟨memL (mem_offOf.mp hp).1, (mem_offOf.mp hp).2⟩
    have Na := News.sub (l' := (A.AL, listOf avs.toArray na) :: offOf [A.AL] (led₁ ++ own)) N₁ (subCons (memL hAL) fun p hp => (mem_offOf.mp hp).1)
    clear N₁
    generalize offOf [A.AL] (led₁ ++ own) = rest9 at Na g0 g1 g2 g4 g5 g7
    (try show wpAny _ _ _ _ _ _)
    k_fold
    k_steps
    rename_i avs' hia' F8 N8
    obtain ⟨S, kp⟩ := H₁.setAL (na := na + 1) hia'
    have hnx : ∀ p ∈ (A.AL, listOf (List.toArray avs') (na + 1)) :: offOf [A.AL] led₁, p ∈ (A.AL, listOf (List.toArray avs') (na + 1)) :: rest9 := subCons (.head _) fun p hp => .tail _ (g7 p hp)
    exact fend _ (by assumption) N8 (by row_room_at keep9) (subApp hnx fun p hp => .tail _ (g5 p hp)) (ownCons (fun p hp => g4 p (g5 p hp)) fun q hq p hp => hown p hp q.1 (List.mem_map.mpr ⟨q, (mem_offOf.mp hq).1, rfl⟩)) (fun p hp => by rw [List.mem_singleton.mp hp]; exact .tail _ (mem_off1 hl₁ fun e => hrr₁ (by have e : rl = A.AL := e; rw [e]; exact hAr))) ⟨by rw [hsn]; exact S, kp₁.trans kp⟩
  case qfin =>
    intro f9 led' h' tk hp9 F' N'
    obtain ⟨S, kp⟩ := hp9
    rw [hvl, List.take_length] at S
    k_steps
    refine goOn ?_
    refine' lam_S (c := 318) (P := 314) (qual := qW) (Or.inr ⟨rfl, rfl, rfl, rfl⟩) S ?qF ?qN ?qT ?qC rfl rfl rfl rfl ?_
    case qF => k_asm
    case qN => k_asm
    case qT => k_asm
    case qC => exact codeHd_of_K (by assumption) (by kernel_rfl)
    intro fl c' ctv led2 K2 h2 tk2 F2 N2 S2 kp2 kk hp9 l2 up2
    obtain ⟨oc, vs9, t9, hc9, hoc, hq9⟩ := hp9
    have hrs2 := hrs.mono fun _ _ h => h.mono (kp.trans kp2).fz
    have hrl2 := ((kp.trans kp2) _ hrl hrr).1
    have hc2 := (S2.K _ hc9).1
    clear F' N'
    k_steps
    refine goOn ?_
    (show wpAny _ _ (call (Value.builtin "sorted") [Value.ref rl] [(Str.ofString "key", Value.ref fl)]) _ _ _)
    (with_unfolding_all refine' ksk_sorted (b := false) (f := .ref fl) (kz := rows.map (·.g)) (vs := rvs) ?qsF ?qsN ?qsl ?qslen ?qs64 (ksk_s1 _ _) (fun _ => ksk_l1 _ _) (fun _ => ksk_t1 _ _) ?qsturn ?qsout)
    case qsF => k_asm
    case qsN => k_asm
    case qsl => exact News.isList N2 (.tail _ hrl2)
    case qslen => rw [List.length_map, hvl]
    case qs64 => omega
    case qsturn =>
      intro i v k hv hk h tk own F1 N1
      obtain ⟨r9, hr9, ra9, rn9, tg9, tc9, wv9, rfl, hm9, _⟩ := hrs2.get hv
      rw [List.getElem?_map, hr9] at hk
      cases hk
      have hm8 := (mem_fz.mp hm9).1
      clear F2 N2
      refine wpAny_call ?_
      kla_enter
      k_steps
    case qsout =>
      intro D3 h3 tk3 out3 c3 F3 N3 l3 hk3
      obtain ⟨out, hso, hro⟩ := sort_out hrs2 hk3
      obtain ⟨S3, kp3, hr3⟩ := S2.sortEnd (fun _ h => h) hro (fun p hp => l3 p (.tail _ hp)) (fun _ h => h) (News.fn N3)
      clear F2 N2
      k_steps
      exact ret _ _ _ _ (by assumption) (by assumption) ⟨K2, out, S3, (kp.trans kp2).trans kp3, KUp.pre kp kk, hso, hr3⟩
end
section
structure PDeed where
  st : St
  told : PyData
  rows : List Row
noncomputable def plainDo (st : St) (kd : Str) (n : Int) (v : Value) : PDeed :=
  let e := doNow kd (st.cl n) (st.held n) st.es n v
  ⟨{ st with es := e.es, held := setI st.held n e.held, asl := wokeAsl st.asl e.rows }, e.told, e.rows⟩
noncomputable def plainWait (st : St) (g : Int) (kd : Str) (n : Int) (v : Value) : PDeed :=
  ⟨{ st with es := st.es ++ waitEnts g none 0 [⟨kd, chO n, v⟩] }, .none, []⟩
noncomputable def plainDeed (st : St) (g : Int) (kd : Str) (n : Int) (v : Value) : PDeed := if n < 2 ∧ mayDo st kd n = true then plainDo st kd n v else plainWait st g kd n v
theorem doNow_rows {kd : Str} {cl : Bool} {held : List Value} {es : List Ent} {n : Int} {v : Value} : (doNow kd cl held es n v).rows.length ≤ 1 := by
  unfold doNow sendNow takeNow
  repeat' split
  all_goals simp
structure PPre (st : St) (kd : Str) (n : Int) : Prop where
  es : st.es.length ≤ 100
  held : ∀ j, Two j → (st.held j).length ≤ 100
  asl : st.asl.length ≤ 100
  wake : ∀ v, n < 2 → mayDo st kd n = true → WakeOk st.asl (doNow kd (st.cl n) (st.held n) st.es n v).rows
inductive P_plain_deed_spec (w : World) (led : List Cell) (A : SA) (M : MV) (K : List Cell) (e : PDeed) (r : Value) (new : List Cell) : Prop where
  | mk (M' : _) (K' : _) (out : _) (h1 : SceneIn w new A M' K' e.st) (h2 : Keep A M led M' new) (h3 : KUp A M led K K') (h4 : SortOf e.rows out) (h5 : RIn (fz A M' new) r (outD e.told out)) : P_plain_deed_spec w led A M K e r new
noncomputable def T_plain_deed_spec (w : World) (led : List Cell) (A : SA) (M : MV) (K : List Cell) (e : PDeed) (C : Value → List Cell → Prop) : Prop := ∀ r : Value, ∀ new : List Cell, ∀ M', ∀ K', ∀ out, (SceneIn w new A M' K' e.st) → (Keep A M led M' new) → (KUp A M led K K') → (SortOf e.rows out) → (RIn (fz A M' new) r (outD e.told out)) → C (r) (new)
theorem U_plain_deed_spec {w : World} {led : List Cell} {A : SA} {M : MV} {K : List Cell} {e : PDeed} : ∀ C, T_plain_deed_spec w led A M K e C → ∀ r new, P_plain_deed_spec w led A M K e r new → C r new := fun C k9 r new h9 => by
  obtain ⟨M', K', out, h1, h2, h3, h4, h5⟩ := h9
  exact k9 r new M' K' out h1 h2 h3 h4 h5
theorem plain_deed_spec {w : World} {led : List Cell} {A : SA} {M : MV} {K : List Cell} {st : St} {g n : Int} {tg tkd tn : Tok} {kd : Str} {v : Value} (H : SceneIn w led A M K st) (hn : Thr n) (hp : PPre st kd n) (hv : Sc v) :
    CallSpec 460 3600 w 326 [.ref A.S, .int g tg, .str kd tkd, .int n tn, v] led (P_plain_deed_spec w led A M K (plainDeed st g kd n v)) := by
  unfold CallSpec
  intro gd cn csc a ccd cls outer A₀ base h₀ L m s p loose mean mg mb Q E B F X N T hk ret
  have mS := H.S
  have oS := H.oS
  obtain ⟨cnl, mN⟩ := H.NL
  obtain ⟨nw, vs, nc, hP⟩ := H.pl
  have mP := hP.P
  have mpd := hP.pd
  refine wpAny_call ?_
  k_dflt row_room_at enter9
  by_cases h2 : n < 2
  · have hn2 := thr_two hn h2
    have hn9 := nlL_at (A := A) hn2
    obtain ⟨i0, ix, _⟩ := two_lt (A := A) hn2
    have hco : chO n = some n := if_pos h2
    k_steps
    refine goOn ?_
    rename News _ _ _ _ => N8
    have H1 := H.mono (new := _) (by row_room_at sub9) (News.fn N8)
    (try k_fold)
    refine' CallSpec.callU (may_do_S H1 hn2 (hp.held n hn2)) U2 ?qhh ?qhf ?qhdp ?qhu ?qB ?qF ?qX ?qN ?qhs ?qT ?qhk ?_
    row_room_at sides9
    intro h' tk' F' N'
    clear N8
    cases hm : mayDo st kd n with
    | false =>
      k_steps
      refine goOn ?_
      rename_i D8 _ _ l7 _ dl _ _ l8 _ _ N8
      have H2 := H1.mono (new := _) (by row_room_at sub9) (News.fn N8)
      (try k_fold)
      refine' CallSpec.callU (wait_for_S (dl := dl) (nd := 0) (dvs := [.ref D8]) (ds := [⟨kd, some n, v⟩]) none H2 (.cons ⟨D8, 0, tkd, A.nt n, rfl, by row_room_at mem9⟩ .nil) (by row_room_at mem9) (H.lt (kst_ltOf (l := led) l8.2.2)) hp.es (Nat.le_of_ble_eq_true rfl) (by intro d hd; rw [List.mem_singleton.mp hd]; exact hv)) U3n ?qhh ?qhf ?qhdp ?qhu ?qB ?qF ?qX ?qN ?qhs ?qT ?qhk ?_
      row_room_at sides9
      intro new S kp h' tk' F' N'
      clear N8
      k_steps
      rename_i D4 _ _ l4 _ D5 _ _ l5 _ _ N9 _ _ _ _ _
      replace l4 := kst_ltOf l4
      obtain ⟨S2, kp2, hr2⟩ := S.waitEnd l4 (kst_ltOf l5) (fun _ h => h) (News.fn N9)
      have hpd : plainDeed st g kd n v = ⟨{ st with es := st.es ++ waitEnts g none 0 [⟨kd, some n, v⟩] }, .none, []⟩ := (if_neg (by rw [hm]; simp)).trans (by rw [plainWait, hco])
      rw [hpd] at ret
      exact ret _ _ _ _ (by assumption) (by assumption) ⟨M, K, [], S2, (Keep.trans (M' := M) (fun p hp hq => ⟨by row_room_at mem9, hq⟩) kp).trans kp2, KUp.refl, ⟨.refl _, .nil⟩, hr2⟩
    | true =>
      k_steps
      refine goOn ?_
      (try k_fold)
      refine' CallSpec.callU (do_now_S (v := v) H1 hn2 hp.es (hp.held n hn2) hv) U_do_now_S ?qhh ?qhf ?qhdp ?qhu ?qB ?qF ?qX ?qN ?qhs ?qT ?qhk ?_
      row_room_at sides9
      intro new2 M' S kp a9 n9 tv rl rvs c9 ha htv hrl hrows h' tk' F' N'
      have ma := (mem_fz.mp ha).1
      k_steps
      refine goOn ?_
      (try k_fold)
      refine' CallSpec.callU (woken_spec S (mem_fz.mp hrl).1 (mem_fz.mp hrl).2 hrows (hp.wake v h2 hm) hp.asl (Nat.le_trans doNow_rows (by decide))) U_woken_spec ?qhh ?qhf ?qhdp ?qhu ?qB ?qF ?qX ?qN ?qhs ?qT ?qhk ?_
      row_room_at sides9
      intro r3 new3 K' out S3 kp3 kk hso hr3 h' tk' F' N'
      k_steps
      rename_i D5 _ _ l5 _ _ N9 _ _ _ _ _
      replace l5 := kst_ltOf l5
      obtain ⟨S4, kp4, hr4⟩ := S3.pairEnd (c := 0) (htv.mono kp3.fz) hr3 l5 (fun _ h => h) (News.fn N9)
      have hpd : plainDeed st g kd n v = plainDo st kd n v := if_pos ⟨h2, hm⟩
      rw [hpd] at ret
      exact ret _ _ _ _ (by assumption) (by assumption) ⟨M', K', out, S4, (((Keep.trans (M' := M) (fun p hp hq => ⟨by row_room_at mem9, hq⟩) kp).trans kp3).trans kp4), KUp.pre (Keep.trans (M' := M) (fun p hp hq => ⟨by row_room_at mem9, hq⟩) kp) kk, hso, hr4⟩
  · have hn3 : n = 2 := by rcases hn with h | h | h <;> omega
    subst hn3
    k_steps
    refine goOn ?_
    rename News _ _ _ _ => N8
    have H1 := H.mono (new := _) (by row_room_at sub9) (News.fn N8)
    (try k_fold)
    refine' CallSpec.callU (may_no_S H1) U2 ?qhh ?qhf ?qhdp ?qhu ?qB ?qF ?qX ?qN ?qhs ?qT ?qhk ?_
    row_room_at sides9
    intro h' tk' F' N'
    clear N8
    k_steps
    refine goOn ?_
    rename_i D8 _ _ l7 _ dl _ _ l8 _ _ N8
    have H2 := H1.mono (new := _) (by row_room_at sub9) (News.fn N8)
    (try k_fold)
    refine' CallSpec.callU (wait_for_S (dl := dl) (nd := 0) (dvs := [.ref D8]) (ds := [⟨kd, none, v⟩]) none H2 (.cons ⟨D8, 0, tkd, 0, rfl, by row_room_at mem9⟩ .nil) (by row_room_at mem9) (H.lt (kst_ltOf (l := led) l8.2.2)) hp.es (Nat.le_of_ble_eq_true rfl) (by intro d hd; rw [List.mem_singleton.mp hd]; exact hv)) U3n ?qhh ?qhf ?qhdp ?qhu ?qB ?qF ?qX ?qN ?qhs ?qT ?qhk ?_
    row_room_at sides9
    intro new S kp h' tk' F' N'
    clear N8
    k_steps
    rename_i D4 _ _ l4 _ D5 _ _ l5 _ _ N9 _ _ _ _ _
    replace l4 := kst_ltOf l4
    obtain ⟨S2, kp2, hr2⟩ := S.waitEnd l4 (kst_ltOf l5) (fun _ h => h) (News.fn N9)
    have hpd : plainDeed st g kd 2 v = plainWait st g kd 2 v := if_neg (by simp)
    rw [hpd] at ret
    exact ret _ _ _ _ (by assumption) (by assumption) ⟨M, K, [], S2, (Keep.trans (M' := M) (fun p hp hq => ⟨by row_room_at mem9, hq⟩) kp).trans kp2, KUp.refl, ⟨.refl _, .nil⟩, hr2⟩
end
section
theorem stopCmp {M : Model} {A : Around} {Q E : Value → Shared → Prop} {s : Shared} {o : CmpOp} {a b : Value} (h : wpAny M A (stopT (compareOp o a b)) Q E s) : wpAny M A (compareOp o a b) Q E s := h
local macro_rules | `(tactic| walk_at $s:str) => `(tactic| k_extra $(Lean.Syntax.mkStrLit ("R " ++ s.getString)))
noncomputable def qEff (q : QSt) (kd : Str) (x : Wt) : QEff := if kd = sSend then qOffer q x else qTake q x
noncomputable def singleE (st : St) (g : Int) (kd : Str) (n : Int) (v : Value) : QEff := qEff (st.q n) kd ⟨g, v, none, none⟩
noncomputable def singleMid (st : St) (g : Int) (kd : Str) (n : Int) (v : Value) : St := { (plainDeed st g kd n v).st with q := setI st.q n (singleE st g kd n v).st }
noncomputable def singleSt (st : St) (g : Int) (kd : Str) (n : Int) (v : Value) : St :=
  if n < 2 then
    if mayDo st kd n = true then hearSt (singleMid st g kd n v) (singleE st g kd n v).rows
    else { hearSt (singleMid st g kd n v) (singleE st g kd n v).rows with asl := (hearSt (singleMid st g kd n v) (singleE st g kd n v).rows).asl ++ [g] }
  else { (plainDeed st g kd n v).st with asl := (plainDeed st g kd n v).st.asl ++ [g] }
/-- what is told is one of few things -/
inductive WOk : PyData → Prop
  | sent : WOk sentD
  | got {v : Value} {b : Bool} : Sc v → WOk (recvD v b)
  | panic {x : Str} : x = sClosed ∨ x = sTwice ∨ x = sNil → WOk (panicD x)
theorem WOk.tame {d : PyData} (h : WOk d) : d.canLay0 = true ∧ d.depth ≤ 2 := by
  cases h with
  | sent => exact ⟨by decide +kernel, by decide +kernel⟩
  | got hv =>
    have h1 := hv.tame.lay
    have e1 : ∀ {v : Value}, Sc v → (scD v).depth = 0 := fun {v} h => by
      rcases h with e | ⟨i, t, e⟩ <;> rw [e] <;> simp [scD, PyData.depth]
    have h0 : (PyData.str (Str.ofString "received")).canLay0 = true ∧ (PyData.str (Str.ofString "received")).depth = 0 := ⟨by decide +kernel, by decide +kernel⟩
    refine ⟨?_, ?_⟩
    · simp [PyData.canLay0, PyData.canLayAll0, h1] at h0 ⊢
      exact h0.1
    · simp [PyData.depth, PyData.depthAll, e1 hv]
  | panic h => rcases h with rfl | rfl | rfl <;> exact ⟨by decide +kernel, by decide +kernel⟩
theorem tame_out {told : PyData} {rows : List Row} (h1 : told = .none ∨ WOk told) (h2 : ∀ r ∈ rows, WOk r.w) : Tame (outD told rows) := by
  have ht : told.canLay0 = true ∧ told.depth ≤ 2 := by
    rcases h1 with rfl | h1
    · exact ⟨tame_none.lay, by simp [PyData.depth]⟩
    · exact h1.tame
  have hr : ∀ d ∈ rows.map rowD, d.canLay0 = true ∧ d.depth ≤ 3 := by
    intro d hd
    obtain ⟨r, hr, rfl⟩ := List.mem_map.mp hd
    obtain ⟨a, b⟩ := (h2 r hr).tame
    refine ⟨?_, ?_⟩
    · simp [rowD, PyData.canLay0, PyData.canLayAll0, a]
    · simp [rowD, PyData.depth, PyData.depthAll]; omega
  obtain ⟨a, b⟩ := layAll hr
  refine ⟨?_, ?_⟩
  · simp [outD, PyData.canLay0, PyData.canLayAll0, ht.1, a]
  · simp [outD, PyData.depth, PyData.depthAll]; omega
theorem out_inv {T : List Cell} {r : Value} {told : PyData} {rows : List Row} (h : RIn T r (outD told rows)) : ∃ a tv rv c, r = .ref a ∧ (a, listOf (List.toArray [tv, rv]) c) ∈ T ∧ RIn T tv told ∧ RIn T rv (.list (rows.map rowD)) := by
  cases h with
  | list hm hr =>
    cases hr with
    | cons h1 hr => cases hr with
      | cons h2 hr => cases hr with
        | nil => exact ⟨_, _, _, _, rfl, hm, h1, h2⟩
theorem tup_inv {T : List Cell} {v : Value} {ds : List PyData} (h : RIn T v (.tuple ds)) : ∃ a, v = .ref a := by
  cases h with
  | tuple hm hr => exact ⟨_, rfl⟩
theorem none_inv {T : List Cell} {v : Value} (h : RIn T v .none) : v = .none := by cases h; rfl
theorem Keep.mono9 {A : SA} {M : MV} {led new : List Cell} {h₀ h : Heap} {L : Addr} (hs : ∀ p ∈ led, p ∈ new) (_ : News h₀ L h new) : Keep A M led M new := fun p hp hq => ⟨hs p hp, hq⟩
theorem deq_asl {t : Int} : ∀ {cs : List CaseD} {st : St}, (deqSt t st cs).asl = st.asl
  | [], _ => rfl
  | c :: cs, st => by
    have := deq_asl (t := t) (cs := cs) (st := deqStep t st c)
    refine this.trans ?_
    unfold deqStep; split <;> rfl
theorem hear_asl : ∀ {rows : List WRow} {st : St}, (hearSt st rows).asl = st.asl
  | [], _ => rfl
  | x :: xs, st => by
    refine (hear_asl (rows := xs) (st := hearStep st x)).trans ?_
    unfold hearStep
    split
    · rfl
    · rw [deq_asl]
theorem single_fin {st : St} {g : Int} {kd : Str} {n : Int} {v : Value} {b : Bool} (h2 : n < 2) (hm : mayDo st kd n = b) : singleSt st g kd n v = if b = true then hearSt (singleMid st g kd n v) (singleE st g kd n v).rows
    else { hearSt (singleMid st g kd n v) (singleE st g kd n v).rows with asl := (hearSt (singleMid st g kd n v) (singleE st g kd n v).rows).asl ++ [g] } := by
  rw [singleSt, if_pos h2, hm]
structure SPre (st : St) (g : Int) (kd : Str) (n : Int) (v : Value) : Prop where
  pp : PPre st kd n
  asz : ∀ rows, (wokeAsl st.asl rows).length ≤ 90
  can : n < 2 → (if kd = sSend then canSend (st.q n) else canRecv (st.q n)) = mayDo st kd n
  qz : ∀ j, Two j → QSz (st.q j)
  qz2 : n < 2 → ∀ j, Two j → QSz (setI st.q n (singleE st g kd n v).st j)
  slz : st.sels.length ≤ 100
  told : n < 2 → toldD (singleE st g kd n v).first = (plainDeed st g kd n v).told
  rows : n < 2 → (singleE st g kd n v).rows.map hRow = (plainDeed st g kd n v).rows
  ok : n < 2 → HearOk (singleMid st g kd n v) (singleE st g kd n v).rows
  rz : n < 2 → (singleE st g kd n v).rows.length ≤ 60
  fsc : n < 2 → FSc (singleE st g kd n v).first
  tw : n < 2 → mayDo st kd n = true → WOk (plainDeed st g kd n v).told
  nt : n < 2 → mayDo st kd n = false → (plainDeed st g kd n v).told = .none
  rw : n < 2 → ∀ r ∈ (plainDeed st g kd n v).rows, WOk r.w
  dist : n < 2 → (plainDeed st g kd n v).rows.Pairwise fun a b => a.g ≠ b.g
inductive P_single_spec (w : World) (led : List Cell) (A : SA) (M : MV) (K : List Cell) (st : St) (g : Int) (n : Int) (kd : Str) (v : Value) (r : Value) (new : List Cell) : Prop where
  | mk (M' : _) (K' : _) (h1 : SceneIn w new A M' K' (singleSt st g kd n v)) (h2 : Keep A M led M' new) (h3 : KUp A M led K K') (h4 : r = .bool true) : P_single_spec w led A M K st g n kd v r new
noncomputable def T_single_spec (w : World) (led : List Cell) (A : SA) (M : MV) (K : List Cell) (st : St) (g : Int) (n : Int) (kd : Str) (v : Value) (C : Value → List Cell → Prop) : Prop := ∀ new : List Cell, ∀ M', ∀ K', (SceneIn w new A M' K' (singleSt st g kd n v)) → (Keep A M led M' new) → (KUp A M led K K') → C (.bool true) (new)
theorem U_single_spec {w : World} {led : List Cell} {A : SA} {M : MV} {K : List Cell} {st : St} {g : Int} {n : Int} {kd : Str} {v : Value} : ∀ C, T_single_spec w led A M K st g n kd v C → ∀ r new, P_single_spec w led A M K st g n kd v r new → C r new := fun C k9 r new h9 => by
  obtain ⟨M', K', h1, h2, h3, rfl⟩ := h9
  exact k9 new M' K' h1 h2 h3
theorem single_spec {w : World} {led : List Cell} {A : SA} {M : MV} {K : List Cell} {st : St} {g n : Int} {tg tkd tn : Tok} {kd : Str} {v : Value} (H : SceneIn w led A M K st) (hn : Thr n) (hp : SPre st g kd n v) (hv : Sc v) (hkd : kd = sSend ∨ kd = sTake) :
    CallSpec 450 3500 w 333 [.ref A.S, .int g tg, .str kd tkd, .int n tn, v] led (P_single_spec w led A M K st g n kd v) := by
  unfold CallSpec
  intro gd cn csc a ccd cls outer A₀ base h₀ L m s p loose mean mg mb Q E B F X N T hk ret
  have mS := H.S
  have oS := H.oS
  refine wpAny_call ?_
  k_dflt row_room_at enter9
  k_steps
  refine goOn ?_
  (try k_fold)
  refine' CallSpec.callU (plain_deed_spec (g := g) (tg := tg) (kd := kd) (v := v) H hn hp.pp hv) U_plain_deed_spec ?qhh ?qhf ?qhdp ?qhu ?qB ?qF ?qX ?qN ?qhs ?qT ?qhk ?_
  row_room_at sides9
  intro r new M1 K1 out S kp kk hso hr h' tk' F' N'
  have hpz := hp.asz
  generalize hpd : plainDeed st g kd n v = pd at S hso hr
  obtain ⟨da, tv, rv, dc, rfl, hda, htv, hrv⟩ := out_inv hr
  have mda := (mem_fz.mp hda).1
  have mS := S.S
  by_cases h2 : n < 2
  · have hn2 := thr_two hn h2
    have hqat := qlL_at (A := A) hn2
    have hne2 : (n == 2) = false := by rw [beq_eq_false_iff_ne]; omega
    obtain ⟨i0, ix, _⟩ := two_lt (A := A) hn2
    have hq1 : pd.st.q = st.q := by rw [← hpd, plainDeed]; split <;> rfl
    have hs1 : pd.st.sels = st.sels := by rw [← hpd, plainDeed]; split <;> rfl
    have ha1 : pd.st.asl.length ≤ 100 := by
      rw [← hpd, plainDeed]
      split
      · exact Nat.le_trans (hpz _) (by decide)
      · exact hp.pp.asl
    obtain ⟨cq, mQL⟩ := S.QL
    obtain ⟨nb, ns, nr, sv, rv9, hQ⟩ := S.qn n hn2
    have m1 := hQ.q
    have m2 := hQ.qd
    have hdaR := (mem_fz.mp hda).2
    have hdist := hp.dist h2
    rw [hpd] at hdist
    have hrw : ∀ r ∈ out, WOk r.w := fun r hr => by
      have := hp.rw h2 r
      rw [hpd] at this
      exact this (hso.perm.mem_iff.mp hr)
    rcases hkd with rfl | rfl
    · have hE : singleE st g sSend n v = qOffer (st.q n) ⟨g, v, none, none⟩ := by rw [singleE, qEff]; exact if_pos rfl
      have hcan2 : canSend (pd.st.q n) = mayDo st sSend n := by rw [hq1, ← hp.can h2]; rw [if_pos rfl]
      cases hm : mayDo st sSend n with
      | true =>
        have htw := hp.tw h2 hm
        rw [hpd] at htw
        obtain ⟨ta, rfl⟩ : ∃ ta, tv = .ref ta := by
          generalize pd.told = td at htv htw
          cases htw <;> exact tup_inv htv
        k_steps
        rename News _ _ _ _ => N8
        refine goOn ?_
        have S9 := S.mono (new := _) (by row_room_at sub9) (News.fn N8)
        (try k_fold)
        refine' CallSpec.callU (can_send_S S9 hn2 (by show (pd.st.q n).buf.length ≤ 100; rw [hq1]; exact (hp.qz n hn2).b)) U2 ?qhh ?qhf ?qhdp ?qhu ?qB ?qF ?qX ?qN ?qhs ?qT ?qhk ?_
        row_room_at sides9
        intro h' tk' F' N'
        rw [hcan2, hm]
        k_steps
        rename News _ _ _ _ => N8
        refine goOn ?_
        have S9 := S.mono (new := _) (by row_room_at sub9) (News.fn N8)
        have kpS := Keep.mono9 (A := A) (M := M1) (led := new) (new := _) (by row_room_at sub9) N8
        (try k_fold)
        refine' CallSpec.callU (offer_S (x := ⟨g, v, none, none⟩) S9 hn2 (by show QSz (pd.st.q n); rw [hq1]; exact hp.qz n hn2) ⟨_, 0, tg, 0, 0, rfl, by row_room_at mem9⟩ hv) U3 ?qhh ?qhf ?qhdp ?qhu ?qB ?qF ?qX ?qN ?qhs ?qT ?qhk ?_
        row_room_at sides9
        intro r10 new10 S10 kp10 ho10 h' tk' F' N'
        have hmid : ({ pd.st with q := setI pd.st.q n (qOffer (pd.st.q n) ⟨g, v, none, none⟩).st } : St) = singleMid st g sSend n v := by rw [singleMid, hE, hpd, hq1]
        rw [hmid] at S10
        rw [show qOffer (pd.st.q n) ⟨g, v, none, none⟩ = singleE st g sSend n v from by rw [hE, hq1]] at ho10
        k_steps
        refine goOn ?_
        (try k_fold)
        refine' CallSpec.callU (heard_spec S10 ho10 (hp.ok h2) (hp.qz2 h2) (hp.rz h2) (by show (plainDeed st g sSend n v).st.sels.length ≤ 100; rw [hpd, hs1]; exact hp.slz) (hp.fsc h2)) U_heard_spec ?qhh ?qhf ?qhdp ?qhu ?qB ?qF ?qX ?qN ?qhs ?qT ?qhk ?_
        row_room_at sides9
        intro r11 new11 M11 K11 out2 S11 kp11 kk11 hso2 hr11 h' tk' F' N'
        rw [hp.rows h2, hpd] at hso2
        cases SortOf.uniq hso2 hso (.refl _) hdist
        rw [hp.told h2, hpd] at hr11
        obtain ⟨ra, tv2, rv2, rc2, rfl, hra2, _, _⟩ := out_inv hr11
        have hb9 := hr11
        have hfin := single_fin (st := st) (g := g) (kd := sSend) (v := v) h2 hm
        have m11 := S11.S
        have q11 := (kp11 _ (kp10 _ (kpS _ mda hdaR).1 hdaR).1 (kp10 _ (kpS _ mda hdaR).1 hdaR).2).1
        k_steps
        refine goOn ?_
        rename News _ _ _ _ => N9
        refine eq_same N9 (d := outD pd.told out) (hb9.mono fun p hp => (mem_fz.mp hp).1) (((((hr.mono kpS.fz).mono kp10.fz).mono kp11.fz)).mono fun p hp => (mem_fz.mp hp).1) (tame_out (.inr htw) hrw) (by row_room_at units9) ?_
        k_steps
        exact ret _ _ _ _ (by assumption) (by assumption) ⟨M11, K11, by rw [hfin]; exact S11, (((kp.trans kpS).trans kp10).trans kp11), kk.trans ((kp.trans kpS).trans kp10) kk11, rfl⟩
      | false =>
        have hnt := hp.nt h2 hm
        rw [hpd] at hnt
        rw [hnt] at htv
        cases none_inv htv
        k_steps
        rename News _ _ _ _ => N8
        refine goOn ?_
        have S9 := S.mono (new := _) (by row_room_at sub9) (News.fn N8)
        (try k_fold)
        refine' CallSpec.callU (can_send_S S9 hn2 (by show (pd.st.q n).buf.length ≤ 100; rw [hq1]; exact (hp.qz n hn2).b)) U2 ?qhh ?qhf ?qhdp ?qhu ?qB ?qF ?qX ?qN ?qhs ?qT ?qhk ?_
        row_room_at sides9
        intro h' tk' F' N'
        rw [hcan2, hm]
        k_steps
        rename News _ _ _ _ => N8
        refine goOn ?_
        have S9 := S.mono (new := _) (by row_room_at sub9) (News.fn N8)
        have kpS := Keep.mono9 (A := A) (M := M1) (led := new) (new := _) (by row_room_at sub9) N8
        (try k_fold)
        refine' CallSpec.callU (offer_S (x := ⟨g, v, none, none⟩) S9 hn2 (by show QSz (pd.st.q n); rw [hq1]; exact hp.qz n hn2) ⟨_, 0, tg, 0, 0, rfl, by row_room_at mem9⟩ hv) U3 ?qhh ?qhf ?qhdp ?qhu ?qB ?qF ?qX ?qN ?qhs ?qT ?qhk ?_
        row_room_at sides9
        intro r10 new10 S10 kp10 ho10 h' tk' F' N'
        have hmid : ({ pd.st with q := setI pd.st.q n (qOffer (pd.st.q n) ⟨g, v, none, none⟩).st } : St) = singleMid st g sSend n v := by rw [singleMid, hE, hpd, hq1]
        rw [hmid] at S10
        rw [show qOffer (pd.st.q n) ⟨g, v, none, none⟩ = singleE st g sSend n v from by rw [hE, hq1]] at ho10
        k_steps
        refine goOn ?_
        (try k_fold)
        refine' CallSpec.callU (heard_spec S10 ho10 (hp.ok h2) (hp.qz2 h2) (hp.rz h2) (by show (plainDeed st g sSend n v).st.sels.length ≤ 100; rw [hpd, hs1]; exact hp.slz) (hp.fsc h2)) U_heard_spec ?qhh ?qhf ?qhdp ?qhu ?qB ?qF ?qX ?qN ?qhs ?qT ?qhk ?_
        row_room_at sides9
        intro r11 new11 M11 K11 out2 S11 kp11 kk11 hso2 hr11 h' tk' F' N'
        rw [hp.rows h2, hpd] at hso2
        cases SortOf.uniq hso2 hso (.refl _) hdist
        rw [hp.told h2, hpd] at hr11
        obtain ⟨ra, tv2, rv2, rc2, rfl, hra2, _, _⟩ := out_inv hr11
        have hb9 := hr11
        have hfin := single_fin (st := st) (g := g) (kd := sSend) (v := v) h2 hm
        have m11 := S11.S
        have q11 := (kp11 _ (kp10 _ (kpS _ mda hdaR).1 hdaR).1 (kp10 _ (kpS _ mda hdaR).1 hdaR).2).1
        have mda11 := (kp11 _ (kp10 _ (kpS _ mda hdaR).1 hdaR).1 (kp10 _ (kpS _ mda hdaR).1 hdaR).2)
        have hasl11 := hear_asl (rows := (singleE st g sSend n v).rows) (st := singleMid st g sSend n v)
        have hmasl : (singleMid st g sSend n v).asl = pd.st.asl := by rw [singleMid, hpd]
        obtain ⟨na, avs, hAL, hia⟩ := S11.al
        have havz : avs.length ≤ 1000 := by rw [hia.length, hasl11, hmasl]; omega
        have hAr : A.AL ∈ roles A M11 := by row_room_at im9
        have hSne : A.S ≠ A.AL := fun e => by
          have := pw_sel (is := [20, 22]) S11.ne (by decide) (by show ∀ i ∈ _, i < 27; decide)
          exact (List.pairwise_cons.mp this).1 _ (List.mem_singleton.mpr rfl) e.symm
        have g0 : ∀ p ∈ new11, p.1 ≠ A.AL → p ∈ offOf [A.AL] new11 := fun p hp hq => mem_off1 hp hq
        have g2 := g0 _ S11.S hSne
        have g3 : ∀ p ∈ fz A M11 new11, p ∈ offOf [A.AL] new11 := fun p hp => g0 p (mem_fz.mp hp).1 fun e => (mem_fz.mp hp).2 (by rw [e]; exact hAr)
        have g4 : ∀ p ∈ offOf [A.AL] new11, p.1 ≠ A.AL := fun p hp e => (mem_offOf.mp hp).2 (List.mem_singleton.mpr e)
        have g5 := g3 _ (mem_fz.mpr mda11)
        have Na := News.sub (l' := (A.AL, listOf avs.toArray na) :: offOf [A.AL] new11) N' (subCons hAL fun p hp => (mem_offOf.mp hp).1)
        obtain ⟨S12, kp12⟩ := S11.setAL (na := na + 1) (ints_snoc (n := g) (t := tg) hia)
        have ha9 := ((((hr.mono kpS.fz).mono kp10.fz).mono kp11.fz)).mono g3
        have hb8 := hb9.mono g3
        clear N'
        generalize offOf [A.AL] new11 = rest9 at Na g0 g2 g3 g4 g5 S12 kp12 ha9 hb8
        k_steps
        refine goOn ?_
        rename News _ _ _ _ => N9
        (try simp only [List.push_toArray] at N9)
        refine eq_same N9 (d := outD pd.told out) (hb8.mono (by row_room_at sub9)) (ha9.mono (by row_room_at sub9)) (tame_out (.inl hnt) hrw) (by row_room_at units9) ?_
        k_steps
        have S13 := S12.mono (new := _) (by row_room_at sub9) (News.fn N9)
        exact ret _ _ _ _ (by assumption) (by assumption) ⟨M11, K11, by rw [hfin]; exact S13, (((kp.trans kpS).trans kp10).trans kp11).trans kp12, kk.trans ((kp.trans kpS).trans kp10) kk11, rfl⟩
    · have hE : singleE st g sTake n v = qTake (st.q n) ⟨g, v, none, none⟩ := by rw [singleE, qEff]; exact if_neg (Ne.symm send_ne_take)
      have hcan2 : canRecv (pd.st.q n) = mayDo st sTake n := by rw [hq1, ← hp.can h2]; rw [if_neg (Ne.symm send_ne_take)]
      cases hm : mayDo st sTake n with
      | true =>
        have htw := hp.tw h2 hm
        rw [hpd] at htw
        obtain ⟨ta, rfl⟩ : ∃ ta, tv = .ref ta := by
          generalize pd.told = td at htv htw
          cases htw <;> exact tup_inv htv
        k_steps
        rename News _ _ _ _ => N8
        refine goOn ?_
        have S9 := S.mono (new := _) (by row_room_at sub9) (News.fn N8)
        (try k_fold)
        refine' CallSpec.callU (can_receive_S S9 hn2 (by show (pd.st.q n).buf.length ≤ 100; rw [hq1]; exact (hp.qz n hn2).b)) U2 ?qhh ?qhf ?qhdp ?qhu ?qB ?qF ?qX ?qN ?qhs ?qT ?qhk ?_
        row_room_at sides9
        intro h' tk' F' N'
        rw [hcan2, hm]
        k_steps
        rename News _ _ _ _ => N8
        refine goOn ?_
        have S9 := S.mono (new := _) (by row_room_at sub9) (News.fn N8)
        have kpS := Keep.mono9 (A := A) (M := M1) (led := new) (new := _) (by row_room_at sub9) N8
        (try k_fold)
        refine' CallSpec.callU (take_S (x := ⟨g, v, none, none⟩) S9 hn2 (by show QSz (pd.st.q n); rw [hq1]; exact hp.qz n hn2) ⟨_, 0, tg, 0, 0, rfl, by row_room_at mem9⟩ hv) U3 ?qhh ?qhf ?qhdp ?qhu ?qB ?qF ?qX ?qN ?qhs ?qT ?qhk ?_
        row_room_at sides9
        intro r10 new10 S10 kp10 ho10 h' tk' F' N'
        have hmid : ({ pd.st with q := setI pd.st.q n (qTake (pd.st.q n) ⟨g, v, none, none⟩).st } : St) = singleMid st g sTake n v := by rw [singleMid, hE, hpd, hq1]
        rw [hmid] at S10
        rw [show qTake (pd.st.q n) ⟨g, v, none, none⟩ = singleE st g sTake n v from by rw [hE, hq1]] at ho10
        k_steps
        refine goOn ?_
        (try k_fold)
        refine' CallSpec.callU (heard_spec S10 ho10 (hp.ok h2) (hp.qz2 h2) (hp.rz h2) (by show (plainDeed st g sTake n v).st.sels.length ≤ 100; rw [hpd, hs1]; exact hp.slz) (hp.fsc h2)) U_heard_spec ?qhh ?qhf ?qhdp ?qhu ?qB ?qF ?qX ?qN ?qhs ?qT ?qhk ?_
        row_room_at sides9
        intro r11 new11 M11 K11 out2 S11 kp11 kk11 hso2 hr11 h' tk' F' N'
        rw [hp.rows h2, hpd] at hso2
        cases SortOf.uniq hso2 hso (.refl _) hdist
        rw [hp.told h2, hpd] at hr11
        obtain ⟨ra, tv2, rv2, rc2, rfl, hra2, _, _⟩ := out_inv hr11
        have hb9 := hr11
        have hfin := single_fin (st := st) (g := g) (kd := sTake) (v := v) h2 hm
        have m11 := S11.S
        have q11 := (kp11 _ (kp10 _ (kpS _ mda hdaR).1 hdaR).1 (kp10 _ (kpS _ mda hdaR).1 hdaR).2).1
        k_steps
        refine goOn ?_
        rename News _ _ _ _ => N9
        refine eq_same N9 (d := outD pd.told out) (hb9.mono fun p hp => (mem_fz.mp hp).1) (((((hr.mono kpS.fz).mono kp10.fz).mono kp11.fz)).mono fun p hp => (mem_fz.mp hp).1) (tame_out (.inr htw) hrw) (by row_room_at units9) ?_
        k_steps
        exact ret _ _ _ _ (by assumption) (by assumption) ⟨M11, K11, by rw [hfin]; exact S11, (((kp.trans kpS).trans kp10).trans kp11), kk.trans ((kp.trans kpS).trans kp10) kk11, rfl⟩
      | false =>
        have hnt := hp.nt h2 hm
        rw [hpd] at hnt
        rw [hnt] at htv
        cases none_inv htv
        k_steps
        rename News _ _ _ _ => N8
        refine goOn ?_
        have S9 := S.mono (new := _) (by row_room_at sub9) (News.fn N8)
        (try k_fold)
        refine' CallSpec.callU (can_receive_S S9 hn2 (by show (pd.st.q n).buf.length ≤ 100; rw [hq1]; exact (hp.qz n hn2).b)) U2 ?qhh ?qhf ?qhdp ?qhu ?qB ?qF ?qX ?qN ?qhs ?qT ?qhk ?_
        row_room_at sides9
        intro h' tk' F' N'
        rw [hcan2, hm]
        k_steps
        rename News _ _ _ _ => N8
        refine goOn ?_
        have S9 := S.mono (new := _) (by row_room_at sub9) (News.fn N8)
        have kpS := Keep.mono9 (A := A) (M := M1) (led := new) (new := _) (by row_room_at sub9) N8
        (try k_fold)
        refine' CallSpec.callU (take_S (x := ⟨g, v, none, none⟩) S9 hn2 (by show QSz (pd.st.q n); rw [hq1]; exact hp.qz n hn2) ⟨_, 0, tg, 0, 0, rfl, by row_room_at mem9⟩ hv) U3 ?qhh ?qhf ?qhdp ?qhu ?qB ?qF ?qX ?qN ?qhs ?qT ?qhk ?_
        row_room_at sides9
        intro r10 new10 S10 kp10 ho10 h' tk' F' N'
        have hmid : ({ pd.st with q := setI pd.st.q n (qTake (pd.st.q n) ⟨g, v, none, none⟩).st } : St) = singleMid st g sTake n v := by rw [singleMid, hE, hpd, hq1]
        rw [hmid] at S10
        rw [show qTake (pd.st.q n) ⟨g, v, none, none⟩ = singleE st g sTake n v from by rw [hE, hq1]] at ho10
        k_steps
        refine goOn ?_
        (try k_fold)
        refine' CallSpec.callU (heard_spec S10 ho10 (hp.ok h2) (hp.qz2 h2) (hp.rz h2) (by show (plainDeed st g sTake n v).st.sels.length ≤ 100; rw [hpd, hs1]; exact hp.slz) (hp.fsc h2)) U_heard_spec ?qhh ?qhf ?qhdp ?qhu ?qB ?qF ?qX ?qN ?qhs ?qT ?qhk ?_
        row_room_at sides9
        intro r11 new11 M11 K11 out2 S11 kp11 kk11 hso2 hr11 h' tk' F' N'
        rw [hp.rows h2, hpd] at hso2
        cases SortOf.uniq hso2 hso (.refl _) hdist
        rw [hp.told h2, hpd] at hr11
        obtain ⟨ra, tv2, rv2, rc2, rfl, hra2, _, _⟩ := out_inv hr11
        have hb9 := hr11
        have hfin := single_fin (st := st) (g := g) (kd := sTake) (v := v) h2 hm
        have m11 := S11.S
        have q11 := (kp11 _ (kp10 _ (kpS _ mda hdaR).1 hdaR).1 (kp10 _ (kpS _ mda hdaR).1 hdaR).2).1
        have mda11 := (kp11 _ (kp10 _ (kpS _ mda hdaR).1 hdaR).1 (kp10 _ (kpS _ mda hdaR).1 hdaR).2)
        have hasl11 := hear_asl (rows := (singleE st g sTake n v).rows) (st := singleMid st g sTake n v)
        have hmasl : (singleMid st g sTake n v).asl = pd.st.asl := by rw [singleMid, hpd]
        obtain ⟨na, avs, hAL, hia⟩ := S11.al
        have havz : avs.length ≤ 1000 := by rw [hia.length, hasl11, hmasl]; omega
        have hAr : A.AL ∈ roles A M11 := by row_room_at im9
        have hSne : A.S ≠ A.AL := fun e => by
          have := pw_sel (is := [20, 22]) S11.ne (by decide) (by show ∀ i ∈ _, i < 27; decide)
          exact (List.pairwise_cons.mp this).1 _ (List.mem_singleton.mpr rfl) e.symm
        have g0 : ∀ p ∈ new11, p.1 ≠ A.AL → p ∈ offOf [A.AL] new11 := fun p hp hq => mem_off1 hp hq
        have g2 := g0 _ S11.S hSne
        have g3 : ∀ p ∈ fz A M11 new11, p ∈ offOf [A.AL] new11 := fun p hp => g0 p (mem_fz.mp hp).1 fun e => (mem_fz.mp hp).2 (by rw [e]; exact hAr)
        have g4 : ∀ p ∈ offOf [A.AL] new11, p.1 ≠ A.AL := fun p hp e => (mem_offOf.mp hp).2 (List.mem_singleton.mpr e)
        have g5 := g3 _ (mem_fz.mpr mda11)
        have Na := News.sub (l' := (A.AL, listOf avs.toArray na) :: offOf [A.AL] new11) N' (subCons hAL fun p hp => (mem_offOf.mp hp).1)
        obtain ⟨S12, kp12⟩ := S11.setAL (na := na + 1) (ints_snoc (n := g) (t := tg) hia)
        have ha9 := ((((hr.mono kpS.fz).mono kp10.fz).mono kp11.fz)).mono g3
        have hb8 := hb9.mono g3
        clear N'
        generalize offOf [A.AL] new11 = rest9 at Na g0 g2 g3 g4 g5 S12 kp12 ha9 hb8
        k_steps
        refine goOn ?_
        rename News _ _ _ _ => N9
        (try simp only [List.push_toArray] at N9)
        refine eq_same N9 (d := outD pd.told out) (hb8.mono (by row_room_at sub9)) (ha9.mono (by row_room_at sub9)) (tame_out (.inl hnt) hrw) (by row_room_at units9) ?_
        k_steps
        have S13 := S12.mono (new := _) (by row_room_at sub9) (News.fn N9)
        exact ret _ _ _ _ (by assumption) (by assumption) ⟨M11, K11, by rw [hfin]; exact S13, (((kp.trans kpS).trans kp10).trans kp11).trans kp12, kk.trans ((kp.trans kpS).trans kp10) kk11, rfl⟩
  · have hn3 : n = 2 := by rcases hn with h | h | h <;> omega
    subst hn3
    have hst : pd.st.asl = st.asl := by rw [← hpd, plainDeed, if_neg (by simp)]; rfl
    have hout : out = [] := by
      have h1 : pd.rows = [] := by rw [← hpd, plainDeed, if_neg (by simp)]; rfl
      have h2 := hso.perm
      rw [h1] at h2
      exact h2.eq_nil
    have htold : pd.told = .none := by rw [← hpd, plainDeed, if_neg (by simp)]; rfl
    obtain ⟨na, avs, hAL, hia⟩ := S.al
    have havz : avs.length ≤ 1000 := by rw [hia.length, hst]; have := hp.pp.asl; omega
    have hAr : A.AL ∈ roles A M1 := by row_room_at im9
    have hSne : A.S ≠ A.AL := fun e => by
      have := pw_sel (is := [20, 22]) S.ne (by decide) (by show ∀ i ∈ _, i < 27; decide)
      exact (List.pairwise_cons.mp this).1 _ (List.mem_singleton.mpr rfl) e.symm
    have g0 : ∀ p ∈ new, p.1 ≠ A.AL → p ∈ offOf [A.AL] new := fun p hp hq => mem_off1 hp hq
    have g2 := g0 _ mS hSne
    have g3 : ∀ p ∈ fz A M1 new, p ∈ offOf [A.AL] new := fun p hp => g0 p (mem_fz.mp hp).1 fun e => (mem_fz.mp hp).2 (by rw [e]; exact hAr)
    have g4 : ∀ p ∈ offOf [A.AL] new, p.1 ≠ A.AL := fun p hp e => (mem_offOf.mp hp).2 (List.mem_singleton.mpr e)
    have Na := News.sub (l' := (A.AL, listOf avs.toArray na) :: offOf [A.AL] new) N' (subCons hAL fun p hp => (mem_offOf.mp hp).1)
    obtain ⟨S2, kp2⟩ := S.setAL (na := na + 1) (ints_snoc (n := g) (t := tg) hia)
    have hr9 := hr.mono g3
    clear N'
    generalize offOf [A.AL] new = rest9 at Na g0 g2 g3 g4 S2 kp2 hr9
    k_steps
    refine goOn ?_
    rename_i D4 _ _ _ _ D5 _ _ _ _ _ N9
    (try simp only [List.push_toArray] at N9)
    rw [htold, hout] at hr9
    refine eq_same N9 (d := outD .none []) (hr9.mono (by row_room_at sub9)) (.list (vs := [.none, .ref D4]) (n := 0) (by row_room_at mem9) (.cons .none (.cons (.list (vs := []) (n := 0) (by row_room_at mem9) .nil) .nil))) (tame_out (.inl rfl) noMem) (by row_room_at units9) ?_
    k_steps
    have e9 : singleSt st g kd 2 v = { pd.st with asl := pd.st.asl ++ [g] } := by rw [singleSt, if_neg (by simp), hpd]
    have S13 := S2.mono (new := _) (by row_room_at sub9) (News.fn N9)
    have kp13 := kp2.trans (Keep.mono9 (A := A) (M := M1) (new := _) (by row_room_at sub9) N9)
    exact ret _ _ _ _ (by assumption) (by assumption) ⟨M1, K1, by rw [e9]; exact S13, kp.trans kp13, kk, rfl⟩
end
section
local macro_rules | `(tactic| walk_at $s:str) => `(tactic| k_extra $(Lean.Syntax.mkStrLit ("R " ++ s.getString)))
theorem eq_diff {prog : Program} {w : World} {A : Around} {E : Value → Shared → Prop} {s : Shared} {h₀ : Heap} {L : Addr} {news : List Cell} {Q : Value → Shared → Prop} {v u : Value} {d d' : PyData} (N : News h₀ L s.heap news) (ha : RIn news v d) (hb : RIn news u d') (ht : Tame d) (ht' : Tame d') (he : PyData.eqv d d' = false) (hu : A.units + 64 < cLine)
    (h : Q (.bool false) s) : wpAny (model prog w) A (compareOp .Eq v u) Q E s := by
  obtain ⟨as, ra⟩ := ha.reads N
  obtain ⟨bs, rb⟩ := hb.reads N
  refine eq_dataH ra rb (shaped_tame ht) (shaped_tame ht') hu ?_
  rw [he]; exact h
theorem tame_w {d : PyData} (h : WOk d) : Tame d := ⟨h.tame.1, Nat.le_trans h.tame.2 (by decide)⟩
theorem tame_done : Tame doneD := ⟨by decide +kernel, by decide +kernel⟩
noncomputable def closeMid (st : St) (n : Int) (e : Eff) : St := { st with es := e.es, cl := setI st.cl n true, q := setI st.q n (qClose (st.q n)).st }
noncomputable def closeSt (st : St) (n : Int) (e : Eff) : St := { hearSt (closeMid st n e) (qClose (st.q n)).rows with asl := wokeAsl (hearSt (closeMid st n e) (qClose (st.q n)).rows).asl e.rows }
structure COk (st : St) (n : Int) (e : Eff) : Prop where
  ok : HearOk (closeMid st n e) (qClose (st.q n)).rows
  qz : ∀ j, Two j → QSz ((closeMid st n e).q j)
  rz : (qClose (st.q n)).rows.length ≤ 60
  fsc : FSc (qClose (st.q n)).first
  wake : WakeOk st.asl e.rows
  ez : e.rows.length ≤ 60
  told : (e.told = doneD ∧ toldD (qClose (st.q n)).first = sentD) ∨ (e.told = panicD sTwice ∧ toldD (qClose (st.q n)).first = panicD sTwice)
  rows : ((qClose (st.q n)).rows.map hRow).Perm e.rows
  rw : ∀ r ∈ e.rows, WOk r.w
  dist : e.rows.Pairwise fun a b => a.g ≠ b.g
structure CPre (st : St) (n : Int) : Prop where
  es : st.es.length ≤ 100
  asl : st.asl.length ≤ 100
  qz : ∀ j, Two j → QSz (st.q j)
  slz : st.sels.length ≤ 100
  ok : n < 2 → ∀ e, CloseEff st n e → COk st n e
theorem SceneIn.headTup {w : World} {l : List Cell} {A : SA} {M : MV} {K : List Cell} {st : St} {a : Addr} {vs : List Value} {n : Nat} (S : SceneIn w ((a, tupO vs n) :: l) A M K st) : (a, tupO vs n) ∈ fz A M ((a, tupO vs n) :: l) := mem_fz.mpr ⟨.head _, S.tup (.head _)⟩
noncomputable def CloseTo (st : St) (n : Int) (st' : St) : Prop := if n < 2 then ∃ e, CloseEff st n e ∧ st' = closeSt st n e else st' = st
inductive P_close_right_spec (w : World) (led : List Cell) (A : SA) (M : MV) (K : List Cell) (st : St) (n : Int) (r : Value) (new : List Cell) : Prop where
  | mk (M' : _) (K' : _) (st' : _) (h1 : CloseTo st n st') (h2 : SceneIn w new A M' K' st') (h3 : Keep A M led M' new) (h4 : KUp A M led K K') (h5 : r = .bool true) : P_close_right_spec w led A M K st n r new
noncomputable def T_close_right_spec (w : World) (led : List Cell) (A : SA) (M : MV) (K : List Cell) (st : St) (n : Int) (C : Value → List Cell → Prop) : Prop := ∀ new : List Cell, ∀ M', ∀ K', ∀ st', (CloseTo st n st') → (SceneIn w new A M' K' st') → (Keep A M led M' new) → (KUp A M led K K') → C (.bool true) (new)
theorem U_close_right_spec {w : World} {led : List Cell} {A : SA} {M : MV} {K : List Cell} {st : St} {n : Int} : ∀ C, T_close_right_spec w led A M K st n C → ∀ r new, P_close_right_spec w led A M K st n r new → C r new := fun C k9 r new h9 => by
  obtain ⟨M', K', st', h1, h2, h3, h4, rfl⟩ := h9
  exact k9 new M' K' st' h1 h2 h3 h4
theorem close_right_spec {w : World} {led : List Cell} {A : SA} {M : MV} {K : List Cell} {st : St} {n : Int} {tn : Tok} (H : SceneIn w led A M K st) (hn : Thr n) (hp : CPre st n) :
    CallSpec 450 3500 w 340 [.ref A.S, .int n tn] led (P_close_right_spec w led A M K st n) := by
  unfold CallSpec
  intro gd cn csc a ccd cls outer A₀ base h₀ L m s p loose mean mg mb Q E B F X N T hk ret
  have mS := H.S
  have oS := H.oS
  obtain ⟨cnl, mN⟩ := H.NL
  obtain ⟨nw, vs, nc, hP⟩ := H.pl
  have mP := hP.P
  have mpd := hP.pd
  refine wpAny_call ?_
  k_dflt row_room_at enter9
  by_cases h2 : n < 2
  · have hn2 := thr_two hn h2
    have hn9 := nlL_at (A := A) hn2
    have hne2 : (n == 2) = false := by rw [beq_eq_false_iff_ne]; omega
    obtain ⟨i0, ix, _⟩ := two_lt (A := A) hn2
    k_steps
    refine goOn ?_
    (try k_fold)
    refine' CallSpec.callU (close_now_S H hn2 hp.es) U_close_now_S ?qhh ?qhf ?qhdp ?qhu ?qB ?qF ?qX ?qN ?qhs ?qT ?qhk ?_
    row_room_at sides9
    intro new M1 e hce S kp a9 n9 tv rl rvs c9 ha htv hrl hrows h' tk' F' N'
    have hok := hp.ok h2 e hce
    have ma := (mem_fz.mp ha).1
    have mS1 := S.S
    have hqat := qlL_at (A := A) hn2
    obtain ⟨cq, mQL⟩ := S.QL
    obtain ⟨nb, ns, nr, sv, rv9, hQ⟩ := S.qn n hn2
    have m1 := hQ.q
    have m2 := hQ.qd
    obtain ⟨ta, rfl⟩ : ∃ ta, tv = .ref ta := by
      rcases hok.told with ⟨h, _⟩ | ⟨h, _⟩ <;> rw [h] at htv <;> exact tup_inv htv
    k_steps
    refine goOn ?_
    (try k_fold)
    refine' CallSpec.callU (close_S S hn2 (hp.qz n hn2)) U_close_S ?qhh ?qhf ?qhdp ?qhu ?qB ?qF ?qX ?qN ?qhs ?qT ?qhk ?_
    row_room_at sides9
    intro r2 new2 M2 S2 kp2 ho2 h' tk' F' N'
    k_steps
    refine goOn ?_
    (try k_fold)
    refine' CallSpec.callU (heard_spec (st := closeMid st n e) S2 ho2 hok.ok hok.qz hok.rz hp.slz hok.fsc) U_heard_spec ?qhh ?qhf ?qhdp ?qhu ?qB ?qF ?qX ?qN ?qhs ?qT ?qhk ?_
    row_room_at sides9
    intro r3 new3 M3 K3 out3 S3 kp3 kk3 hso3 hr3 h' tk' F' N'
    have mS3 := S3.S
    have htv3 := (htv.mono kp2.fz).mono kp3.fz
    obtain ⟨da, tv9, rv9, dc, rfl, hda, _, _⟩ := out_inv hr3
    k_steps
    refine goOn ?_
    rename_i Dd _ _ l9 _ _ N9
    have hso3' : SortOf ((qClose (st.q n)).rows.map hRow) out3 := hso3
    replace hr3 : RIn (fz A M3 new3) (.ref da) (outD (toldD (qClose (st.q n)).first) out3) := hr3
    have hasl3 : (hearSt (closeMid st n e) (qClose (st.q n)).rows).asl = st.asl := hear_asl
    rcases hok.told with ⟨ht1, ht2⟩ | ⟨ht1, ht2⟩
    · rw [ht1] at htv3
      refine eq_same N9 (d := doneD) (htv3.mono fun p hp => .tail _ (mem_fz.mp hp).1) (.tuple (n := 0) (by row_room_at mem9) (.cons (.str _ _) .nil)) tame_done (by row_room_at units9) ?_
      k_steps
      refine goOn ?_
      rename News _ _ _ _ => N8
      have S4 := S3.mono (new := _) (by row_room_at sub9) (News.fn N8)
      have kpS := Keep.mono9 (A := A) (M := M3) (led := new3) (new := _) (by row_room_at sub9) N8
      have hrl4 := kpS.fz _ (kp3.fz _ (kp2.fz _ hrl))
      have hrows4 := hrows.mono fun _ _ h => (((h.mono kp2.fz).mono kp3.fz).mono kpS.fz)
      have hD8 : RIn _ (.ref _) sentD := .tuple S4.headTup (.cons (.str _ _) .nil)
      (try k_fold)
      refine' CallSpec.callU (woken_spec S4 (mem_fz.mp hrl4).1 (mem_fz.mp hrl4).2 hrows4 (by rw [hasl3]; exact hok.wake) (by rw [hasl3]; exact hp.asl) hok.ez) U_woken_spec ?qhh ?qhf ?qhdp ?qhu ?qB ?qF ?qX ?qN ?qhs ?qT ?qhk ?_
      row_room_at sides9
      intro r4 new4 K4 out4 S5 kp4 kk4 hso4 hr4 h' tk' F' N'
      cases SortOf.uniq hso4 hso3' hok.rows.symm hok.dist
      have hdue := ((hr3.mono kpS.fz).mono kp4.fz)
      rw [ht2] at hdue
      have hw4 : ∀ r ∈ out3, WOk r.w := fun r hr => hok.rw r (hso4.perm.mem_iff.mp hr)
      obtain ⟨ra4, rfl⟩ : ∃ ra4, r4 = .ref ra4 := by cases hr4; exact ⟨_, rfl⟩
      have hfst := hD8.mono kp4.fz
      clear N8
      k_steps
      refine goOn ?_
      rename News _ _ _ _ => N9
      refine eq_same N9 (d := outD sentD out3) (.list (n := 0) (by row_room_at mem9) (.cons (hfst.mono fun p hp => .tail _ (mem_fz.mp hp).1) (.cons (hr4.mono fun p hp => .tail _ (mem_fz.mp hp).1) .nil))) (hdue.mono fun p hp => .tail _ (mem_fz.mp hp).1) (tame_out (.inr .sent) hw4) (by row_room_at units9) ?_
      k_steps
      have S6 := S5.mono (new := _) (by row_room_at sub9) (News.fn N9)
      have kp6 := Keep.mono9 (A := A) (M := M3) (led := new4) (new := _) (by row_room_at sub9) N9
      exact ret _ _ _ _ (by assumption) (by assumption) ⟨M3, K4, closeSt st n e, by rw [CloseTo, if_pos h2]; exact ⟨e, hce, rfl⟩, S6, ((((kp.trans kp2).trans kp3).trans kpS).trans kp4).trans kp6, (KUp.pre (kp.trans kp2) kk3).trans (((kp.trans kp2).trans kp3).trans kpS) kk4, rfl⟩
    · rw [ht1] at htv3
      refine eq_diff N9 (d' := doneD) (htv3.mono fun p hp => .tail _ (mem_fz.mp hp).1) (.tuple (n := 0) (by row_room_at mem9) (.cons (.str _ _) .nil)) (tame_w (.panic (.inr (.inl rfl)))) tame_done (by simp [PyData.eqv, PyData.eqvAll]) (by row_room_at units9) ?_
      k_steps
      refine goOn ?_
      rename News _ _ _ _ => N8
      have S4 := S3.mono (new := _) (by row_room_at sub9) (News.fn N8)
      have kpS := Keep.mono9 (A := A) (M := M3) (led := new3) (new := _) (by row_room_at sub9) N8
      have hrl4 := kpS.fz _ (kp3.fz _ (kp2.fz _ hrl))
      have hrows4 := hrows.mono fun _ _ h => (((h.mono kp2.fz).mono kp3.fz).mono kpS.fz)
      skip
      (try k_fold)
      refine' CallSpec.callU (woken_spec S4 (mem_fz.mp hrl4).1 (mem_fz.mp hrl4).2 hrows4 (by rw [hasl3]; exact hok.wake) (by rw [hasl3]; exact hp.asl) hok.ez) U_woken_spec ?qhh ?qhf ?qhdp ?qhu ?qB ?qF ?qX ?qN ?qhs ?qT ?qhk ?_
      row_room_at sides9
      intro r4 new4 K4 out4 S5 kp4 kk4 hso4 hr4 h' tk' F' N'
      cases SortOf.uniq hso4 hso3' hok.rows.symm hok.dist
      have hdue := ((hr3.mono kpS.fz).mono kp4.fz)
      rw [ht2] at hdue
      have hw4 : ∀ r ∈ out3, WOk r.w := fun r hr => hok.rw r (hso4.perm.mem_iff.mp hr)
      obtain ⟨ra4, rfl⟩ : ∃ ra4, r4 = .ref ra4 := by cases hr4; exact ⟨_, rfl⟩
      have hfst := (htv3.mono kpS.fz).mono kp4.fz
      clear N8
      k_steps
      refine goOn ?_
      rename News _ _ _ _ => N9
      refine eq_same N9 (d := outD (panicD sTwice) out3) (.list (n := 0) (by row_room_at mem9) (.cons (hfst.mono fun p hp => .tail _ (mem_fz.mp hp).1) (.cons (hr4.mono fun p hp => .tail _ (mem_fz.mp hp).1) .nil))) (hdue.mono fun p hp => .tail _ (mem_fz.mp hp).1) (tame_out (.inr (.panic (.inr (.inl rfl)))) hw4) (by row_room_at units9) ?_
      k_steps
      have S6 := S5.mono (new := _) (by row_room_at sub9) (News.fn N9)
      have kp6 := Keep.mono9 (A := A) (M := M3) (led := new4) (new := _) (by row_room_at sub9) N9
      exact ret _ _ _ _ (by assumption) (by assumption) ⟨M3, K4, closeSt st n e, by rw [CloseTo, if_pos h2]; exact ⟨e, hce, rfl⟩, S6, ((((kp.trans kp2).trans kp3).trans kpS).trans kp4).trans kp6, (KUp.pre (kp.trans kp2) kk3).trans (((kp.trans kp2).trans kp3).trans kpS) kk4, rfl⟩
  · have hn3 : n = 2 := by rcases hn with h | h | h <;> omega
    subst hn3
    k_steps
    refine goOn ?_
    (try k_fold)
    refine' CallSpec.callU (close_no_S H) U_close_no ?qhh ?qhf ?qhdp ?qhu ?qB ?qF ?qX ?qN ?qhs ?qT ?qhk ?_
    row_room_at sides9
    intro new S kp a9 n9 tv rl rvs c9 ha htv hrl hrows h' tk' F' N'
    have ma := (mem_fz.mp ha).1
    obtain ⟨ta, rfl⟩ := tup_inv htv
    cases hrows
    k_steps
    refine goOn ?_
    rename_i D4 _ _ _ _ _ N9
    have mrl := (mem_fz.mp hrl).1
    refine eq_same N9 (d := panicD sNil) (htv.mono fun p hp => .tail _ (mem_fz.mp hp).1) (.tuple (n := 0) (by row_room_at mem9) (.cons (.str _ _) (.cons (.str _ _) .nil))) (tame_w (.panic (.inr (.inr rfl)))) (by row_room_at units9) ?_
    k_steps
    refine goOn ?_
    rename News _ _ _ _ => N9
    refine eq_same N9 (d := .list []) (.list (vs := []) (n := c9) (by row_room_at mem9) .nil) (.list (vs := []) (n := 0) (by row_room_at mem9) .nil) ⟨by simp [PyData.canLay0, PyData.canLayAll0], by simp [PyData.depth, PyData.depthAll]⟩ (by row_room_at units9) ?_
    k_steps
    have S9 := S.mono (new := _) (by row_room_at sub9) (News.fn N9)
    have kp9 := Keep.mono9 (A := A) (M := M) (led := new) (new := _) (by row_room_at sub9) N9
    exact ret _ _ _ _ (by assumption) (by assumption) ⟨M, K, st, by rw [CloseTo, if_neg h2], S9, kp.trans kp9, KUp.refl, rfl⟩
end
section
open PySem PySem.W PySem.Calls PyProof.Rows PyProof.V
set_option maxRecDepth 100000
open PyProof.Rows.LCg (NsObj)
section
variable {prog : Program} {w : World} {A : Around} {E : Value → Shared → Prop} {s : Shared} {env : Env} {h₀ : Heap}
theorem comp_rangeJ {x : Str} {px : Pos} {elt : Expr} {L r : Addr} {a b : Int} {t u v : Tok} {n : Nat} {m : Str → Option Value} {led : List Cell} {scope : Scope} {cl : List (Str × Addr)} {Fin : Shared → Addr → List Value → Nat → List Cell → Heap → Nat → Prop} (J : Nat → List Value → List Cell → Prop)
    (hh : A.handled = none) (F : Fr h₀ L s.heap m) (N : News h₀ L s.heap led) (hr : IsRange s.heap r a b 1 t u v) (hsm : Builtin.Range.small a b 1 = true) (hrn : Builtin.Range.rangeSize a b 1 = ((n : Nat) : Int)) (hn : n ≤ sizeLine) (h0 : J 0 [] led)
    (hx : ∀ C, (compEnvC scope cl C env).kindOf x = some .local) (hkd : ∀ C, ((compEnvC scope cl C env).scope.kind == .class || ((compEnvC scope cl C env).scope.kind == .module && (compEnvC scope cl C env).locals != (compEnvC scope cl C env).globals)) = false)
    (turn : ∀ (C : Addr) i t ys led₁ own h tk h₁ tk₁ oC m₂ E', i < n → J i ys led₁ → ys.length ≤ i → OwnOff ((C, oC) :: own) (led₁.map (·.1)) → (∀ p ∈ own, p.1 ≠ C) → NsObj oC m₂ → m₂ x = some (.int (a + (i : Int)) t) → Fr h₀ L h₁ m → News h₀ L h₁ (led₁ ++ (C, oC) :: own) →
      wpAny (model prog w) A (eval elt (compEnvC scope cl C env)) (fun y s₅ => CEnd h₀ L m C [] own (J (i + 1) (ys ++ [y])) { s with heap := h, toks := tk } s₅) E' { s with heap := h₁, toks := tk₁ })
    (done : ∀ s₂ D ys c led' h' tk, (∃ h, s₂ = { s with heap := h }) → News h₀ L h' ((D, listOf (List.toArray ys) c) :: led') → (∀ p ∈ led', p.1 ≠ D) → J n ys led' → Fin s₂ D ys c led' h' tk) :
    wpAny (model prog w) A (pyIter (.ref r)) (fun it s₂ => CompAt prog w A h₀ L m env (.Name x px) elt [] scope cl Fin it s₂) E s := by
  refine pack_range hh F N hr hsm hrn fun it h' pk => CompAt.of_pack J pk hn h0 ?_ fun D ys c led' h' tk N' hD hJ => done _ D ys c led' h' tk ⟨_, rfl⟩ N' hD hJ
  intro C i v ys led₁ own hp h tk oC mC hi hP hlt hL hb hJ hys hf ho hoC hN F₁ N₁
  obtain ⟨t, rfl⟩ := hP
  intro E'
  refine asgCn (env := compEnvC scope cl C env) F₁ N₁ ho hoC hN (hx C) (hkd C) fun h₂ tk₂ oC' m₂ q1 q2 q3 q4 q5 => ?_
  rw [List.forIn_nil]
  exact wpAny_pure (by simpa using turn C i t ys led₁ own h tk h₂ tk₂ oC' m₂ E' hi hJ hys q5 hoC q1 q2 q3 q4)
theorem comp_listJ {x : Str} {px : Pos} {elt : Expr} {L l : Addr} {vs : List Value} {nn : Nat} {m : Str → Option Value} {led : List Cell} {scope : Scope} {cl : List (Str × Addr)} {Fin : Shared → Addr → List Value → Nat → List Cell → Heap → Nat → Prop} (J : Nat → List Value → List Cell → Prop)
    (hh : A.handled = none) (F : Fr h₀ L s.heap m) (N : News h₀ L s.heap led) (hl : (l, listOf vs.toArray nn) ∈ led) (hn : vs.length ≤ sizeLine) (h0 : J 0 [] led)
    (hx : ∀ C, (compEnvC scope cl C env).kindOf x = some .local) (hkd : ∀ C, ((compEnvC scope cl C env).scope.kind == .class || ((compEnvC scope cl C env).scope.kind == .module && (compEnvC scope cl C env).locals != (compEnvC scope cl C env).globals)) = false)
    (turn : ∀ (C : Addr) i v ys led₁ own h tk h₁ tk₁ oC m₂ E', vs[i]? = some v → J i ys led₁ → (l, listOf vs.toArray nn) ∈ led₁ → ys.length ≤ i → OwnOff ((C, oC) :: own) (led₁.map (·.1)) → (∀ p ∈ own, p.1 ≠ C) → NsObj oC m₂ → m₂ x = some v → Fr h₀ L h₁ m → News h₀ L h₁ (led₁ ++ (C, oC) :: own) →
      wpAny (model prog w) A (eval elt (compEnvC scope cl C env)) (fun y s₅ => CEnd h₀ L m C [(l, listOf vs.toArray nn)] own (J (i + 1) (ys ++ [y])) { s with heap := h, toks := tk } s₅) E' { s with heap := h₁, toks := tk₁ })
    (done : ∀ s₂ D ys c led' h' tk, (∃ h, s₂ = { s with heap := h }) → News h₀ L h' ((D, listOf (List.toArray ys) c) :: led') → (∀ p ∈ led', p.1 ≠ D) → J vs.length ys led' → Fin s₂ D ys c led' h' tk) :
    wpAny (model prog w) A (pyIter (.ref l)) (fun it s₂ => CompAt prog w A h₀ L m env (.Name x px) elt [] scope cl Fin it s₂) E s := by
  refine pack_list hh F N hl fun it h' pk => CompAt.of_pack J pk hn h0 ?_ fun D ys c led' h' tk N' hD hJ => done _ D ys c led' h' tk ⟨_, rfl⟩ N' hD hJ
  intro C i v ys led₁ own hp h tk oC mC hi hP hlt hL hb hJ hys hf ho hoC hN F₁ N₁
  intro E'
  refine asgCn (env := compEnvC scope cl C env) F₁ N₁ ho hoC hN (hx C) (hkd C) fun h₂ tk₂ oC' m₂ q1 q2 q3 q4 q5 => ?_
  rw [List.forIn_nil]
  exact wpAny_pure (by simpa using turn C i v ys led₁ own h tk h₂ tk₂ oC' m₂ E' hP hJ (hf _ (List.mem_singleton.mpr rfl)) hys q5 hoC q1 q2 q3 q4)
end
/-- the source of the draws: a list of two ints, none of the scene's -/
inductive SrcIn_ex (led : List Cell) (sa : Addr) : Prop where
  | mk (x : _) (y : _) (tx : _) (ty : _) (c : _) (h1 : (sa, listOf (List.toArray [.int x tx, .int y ty]) c) ∈ led) : SrcIn_ex led sa
structure SrcIn (led K : List Cell) (A : SA) (M : MV) (sa : Addr) : Prop where
  ex : SrcIn_ex led sa
  nr : sa ∉ roles A M
  nk : ∀ p ∈ K, p.1 ≠ sa
theorem SrcIn.step {led new K K' : List Cell} {A : SA} {M M' : MV} {sa : Addr} (s : SrcIn led K A M sa) (kp : Keep A M led M' new) (kk : KUp A M led K K') : SrcIn new K' A M' sa := by
  obtain ⟨x, y, tx, ty, c, h⟩ := s.ex
  exact ⟨⟨x, y, tx, ty, c, (kp _ h s.nr).1⟩, (kp _ h s.nr).2, fun p hp => (kk.new p hp).elim (s.nk p) fun h' => (h' _ h s.nr).symm⟩
theorem SrcIn.mono {led new K : List Cell} {A : SA} {M : MV} {sa : Addr} (s : SrcIn led K A M sa) (hs : ∀ p ∈ led, p ∈ new) : SrcIn new K A M sa := s.step (fun p hp hq => ⟨hs p hp, hq⟩) KUp.refl
theorem ints_rall {T : List Cell} : ∀ {vs : List Value} {ns : List Int}, IntsAre vs ns → RAll T vs (ns.map .int)
  | _, _, .nil => .nil
  | _, _, .cons n t h => .cons (.int n t) (ints_rall h)
theorem tame_ints {ns : List Int} : Tame (.list (ns.map .int)) := by
  have h : ∀ d ∈ ns.map PyData.int, d.canLay0 = true ∧ d.depth ≤ 0 := by
    intro d hd
    obtain ⟨n, _, rfl⟩ := List.mem_map.mp hd
    exact ⟨by simp [PyData.canLay0], by simp [PyData.depth]⟩
  obtain ⟨a, b⟩ := layAll h
  exact ⟨by simp only [PyData.canLay0]; exact a, by simp only [PyData.depth]; omega⟩
theorem ne_same {prog : Program} {w : World} {A : Around} {E : Value → Shared → Prop} {s : Shared} {h₀ : Heap} {L : Addr} {news : List Cell} {Q : Value → Shared → Prop} {v u : Value} {d : PyData} (N : News h₀ L s.heap news) (ha : RIn news v d) (hb : RIn news u d) (ht : Tame d) (hu : A.units + 64 < cLine)
    (h : Q (.bool false) s) : wpAny (model prog w) A (compareOp .NotEq v u) Q E s := by
  obtain ⟨as, ra⟩ := ha.reads N
  obtain ⟨bs, rb⟩ := hb.reads N
  refine ne_dataH ra rb (shaped_tame ht) (shaped_tame ht) hu ?_
  rw [eqv_refl d ht.lay]; exact h
theorem idxs_map {α β : Type} {p : β → Bool} {f : α → β} : ∀ {l : List α} {i : Nat}, idxs p i (l.map f) = idxs (fun x => p (f x)) i l
  | [], _ => rfl
  | x :: xs, i => by simp only [List.map_cons, idxs, idxs_map (l := xs)]
theorem idxs_congr {α : Type} {p q : α → Bool} : ∀ {l : List α} {i : Nat}, (∀ x ∈ l, p x = q x) → idxs p i l = idxs q i l
  | [], _, _ => rfl
  | x :: xs, i, h => by simp only [idxs, h x (.head _), idxs_congr (l := xs) fun y hy => h y (.tail _ hy)]
theorem idxs_mem {α : Type} {p : α → Bool} {c : Int} : ∀ {l : List α} {i : Nat}, c ∈ idxs p i l → ∃ j x, c = ((i + j : Nat) : Int) ∧ l[j]? = some x ∧ p x = true
  | [], _, h => nomatch h
  | x :: xs, i, h => by
    unfold idxs at h
    have tl : c ∈ idxs p (i + 1) xs → ∃ j y, c = ((i + j : Nat) : Int) ∧ (x :: xs)[j]? = some y ∧ p y = true := fun h => by
      obtain ⟨j, y, e, h1, h2⟩ := idxs_mem h
      exact ⟨j + 1, y, by rw [e]; congr 1; omega, by simpa using h1, h2⟩
    split at h
    · rcases List.mem_cons.mp h with rfl | h
      · exact ⟨0, x, rfl, rfl, by assumption⟩
      · exact tl h
    · exact tl h
theorem idxs_nil {α : Type} {p : α → Bool} : ∀ {l : List α} {i : Nat}, idxs p i l = [] → ∀ x ∈ l, p x = false
  | [], _, _ => noMem
  | x :: xs, i, h => by
    unfold idxs at h
    split at h
    · cases h
    · intro y hy
      rcases List.mem_cons.mp hy with rfl | hy
      · simpa using ‹¬p y = true›
      · exact idxs_nil h y hy
theorem idxs_len {α : Type} {p : α → Bool} : ∀ {l : List α} {i : Nat}, (idxs p i l).length ≤ l.length
  | [], _ => Nat.le_refl _
  | x :: xs, i => by
    have := idxs_len (p := p) (l := xs) (i := i + 1)
    unfold idxs
    split <;> simp only [List.length_cons] <;> omega
structure DeedOk (d : Deed) : Prop where
  k : d.k = sSend ∨ d.k = sTake
  n : ∀ n, d.n = some n → Two n
  v : Sc d.v
inductive SomeIn (T : List Cell) (val : Value) (d : Deed) : Prop where
  | mk (a : _) (c : _) (tk : _) (n : _) (tn : _) (h1 : val = .ref a) (h2 : (a, tupO [.str d.k tk, .int n tn, d.v] c) ∈ T) (h3 : Thr n) (h4 : d.n = chO n) (h5 : (d.k = sSend ∨ d.k = sTake)) (h6 : Sc d.v) : SomeIn T val d
theorem SomeIn.mono {T T' : List Cell} {v : Value} {d : Deed} (h : SomeIn T v d) (hs : ∀ p ∈ T, p ∈ T') : SomeIn T' v d := by
  obtain ⟨a, c, tk, n, tn, e, hm, h1, h2, h3, h4⟩ := h
  exact ⟨a, c, tk, n, tn, e, hs _ hm, h1, h2, h3, h4⟩
theorem SomeIn.ok {T : List Cell} {v : Value} {d : Deed} (h : SomeIn T v d) : DeedOk d := by
  obtain ⟨a, c, tk, n, tn, rfl, hm, hn, e, hk, hv⟩ := h
  refine ⟨hk, fun j hj => ?_, hv⟩
  rw [e, chO] at hj
  split at hj
  · cases hj
    exact thr_two hn (by assumption)
  · cases hj
noncomputable def caseOf (d : Deed) : CaseD := ⟨decide (d.k = sSend), d.n, d.v⟩
noncomputable def dMay (st : St) (d : Deed) : Bool := match d.n with
  | none => false
  | some n => mayDo st d.k n
theorem reorder3 {h₀ h : Heap} {L : Addr} {c1 c2 c3 sa : Addr} {o1 o2 o3 os : Obj} {r : List Cell} (N : News h₀ L h ((c1, o1) :: (c2, o2) :: (c3, o3) :: (sa, os) :: r)) (hr : ∀ p ∈ r, p.1 ≠ sa) (h1 : c1 ≠ sa) (h2 : c2 ≠ sa) (h3 : c3 ≠ sa) :
    ∃ rest, News h₀ L h ((sa, os) :: rest) ∧ (∀ p ∈ rest, p.1 ≠ sa) ∧ (c1, o1) ∈ rest ∧ (c2, o2) ∈ rest ∧ (c3, o3) ∈ rest ∧ ∀ p ∈ r, p ∈ rest := by
  refine ⟨(c1, o1) :: (c2, o2) :: (c3, o3) :: r, News.sub N ?_, ?_, .head _, .tail _ (.head _), .tail _ (.tail _ (.head _)), fun p hp => .tail _ (.tail _ (.tail _ hp))⟩
  · exact subCons (.tail _ (.tail _ (.tail _ (.head _)))) (subCons (.head _) (subCons (.tail _ (.head _)) (subCons (.tail _ (.tail _ (.head _))) fun p hp => .tail _ (.tail _ (.tail _ (.tail _ hp))))))
  · intro p hp
    simp only [List.mem_cons] at hp
    rcases hp with rfl | rfl | rfl | hp
    · exact h1
    · exact h2
    · exact h3
    · exact hr p hp
section
variable {w : World} {led rest : List Cell} {A : SA} {M : MV} {K : List Cell} {st : St} {sa : Addr} {os os' : Obj}
theorem SceneIn.relaySa (H : SceneIn w led A M K st) (msa : (sa, os) ∈ led) (g0 : ∀ p ∈ offOf [sa] led, p ∈ rest) (hf : Fun ((sa, os) :: rest)) : SceneIn w ((sa, os) :: rest) A M K st :=
  H.mono (fun p hp => if e : p.1 = sa then by rw [H.fn p hp _ msa e]; exact .head _ else .tail _ (g0 p (mem_off1 hp e))) hf
theorem SceneIn.draw (H : SceneIn w ((sa, os) :: rest) A M K st) (ho : NoTup os) (hr : sa ∉ roles A M) (hK : ∀ p ∈ K, p.1 ≠ sa) (hf : Fun ((sa, os') :: rest)) : SceneIn w ((sa, os') :: rest) A M K st :=
  (H.change (o' := os') (.head _) ho hr hK).mono (subCons (.head _) fun p hp => .tail _ (by
    obtain ⟨h1, h2⟩ := mem_offOf.mp hp
    rcases List.mem_cons.mp h1 with rfl | h1
    · exact absurd (List.mem_singleton.mpr rfl) h2
    · exact h1)) hf
end
theorem pick2 {a b r : Value} {i : Nat} (h : [a, b][i]? = some r) : r = a ∨ r = b := by
  match i, h with
  | 0, h => exact .inl (Option.some.inj h).symm
  | 1, h => exact .inr (Option.some.inj h).symm
theorem pick4 {a b c d r : Value} {i : Nat} (h : [a, b, c, d][i]? = some r) : r = a ∨ r = b ∨ r = c ∨ r = d := by
  match i, h with
  | 0, h => exact .inl (Option.some.inj h).symm
  | 1, h => exact .inr (.inl (Option.some.inj h).symm)
  | 2, h => exact .inr (.inr (.inl (Option.some.inj h).symm))
  | 3, h => exact .inr (.inr (.inr (Option.some.inj h).symm))
theorem offHd {a sa : Addr} {o : Obj} {l : List Cell} (h : a ≠ sa) (t : ∀ p ∈ l, p.1 ≠ sa) : ∀ p ∈ (a, o) :: l, p.1 ≠ sa := fun p hp => (List.mem_cons.mp hp).elim (fun e => by rw [e]; exact h) (t p)
theorem one_draw {w : World} {h₀ h : Heap} {L : Addr} {rest : List Cell} {sa la : Addr} {x y : Int} {tx ty : Tok} {c nn : Nat} {vs : List Value} (_ : News h₀ L h ((la, listOf vs.toArray nn) :: (sa, listOf (List.toArray [.int x tx, .int y ty]) c) :: rest)) (hl : la ≠ sa) (hoff : ∀ p ∈ rest, p.1 ≠ sa) (h1 : 0 < vs.length) (h2 : vs.length ≤ 100) :
    CallSpec 480 3800 w 293 [.ref sa, .ref la] ((sa, listOf (List.toArray [.int x tx, .int y ty]) c) :: (la, listOf vs.toArray nn) :: rest) (P_one_spec ((la, listOf vs.toArray nn) :: rest) sa vs) :=
  one_spec (led := (la, listOf vs.toArray nn) :: rest) (.head _) h1 h2 (fun p hp => (List.mem_cons.mp hp).elim (fun e => by rw [e]; exact hl) (hoff p))
theorem CGrow.one {h₀ h' : Heap} {L : Addr} {m : Str → Option Value} {led tl own : List Cell} {C D : Addr} {o oC : Obj} {mC : Str → Option Value} {K : List Cell → Prop} {s₁ : Shared} {tk : Nat} (F : Fr h₀ L h' m) (N : News h₀ L h' ((D, o) :: (led ++ tl ++ (C, oC) :: own))) (hN : PyProof.Rows.LCg.NsObj oC mC)
    (l : ∀ p ∈ led ++ tl ++ (C, oC) :: own, p.1 < D) (hK : K ((D, o) :: tl)) : CGrow h₀ L m led tl C own K s₁ { s₁ with heap := h', toks := tk } := by
  refine CGrow.intro [(D, o)] F N ?_ hN ?_ ?_ ?_ hK
  · refine subApp (fun p hp => .tail _ (memL (memL hp))) (subApp (subCons (.head _) fun p hp => .tail _ (memL (memR hp))) fun p hp => .tail _ (memR hp))
  · intro p hp b hb e
    obtain ⟨q, hq, rfl⟩ := List.mem_map.mp hb
    rw [List.mem_singleton.mp hp] at e
    exact absurd e (Nat.ne_of_gt (l q (memL (memL hq))))
  · intro p hp b hb e
    obtain ⟨q, hq, rfl⟩ := List.mem_map.mp hb
    rw [List.mem_singleton.mp hp] at e
    exact absurd e (Nat.ne_of_gt (l q (memL (memR hq))))
  · intro p hp b hb e
    rw [List.mem_singleton.mp hp] at e
    rcases List.mem_cons.mp hb with rfl | hb
    · exact absurd e (Nat.ne_of_gt (l (b, oC) (memR (.head _))))
    · obtain ⟨q, hq, rfl⟩ := List.mem_map.mp hb
      exact absurd e (Nat.ne_of_gt (l q (memR (.tail _ hq))))
theorem SceneIn.offRole {w : World} {led : List Cell} {A : SA} {M : MV} {K : List Cell} {st : St} (H : SceneIn w led A M K st) {d : Addr} (h : ∀ p ∈ led, p.1 ≠ d) : d ∉ roles A M := fun hm => by
  obtain ⟨o, ho, _⟩ := H.cell d hm
  exact h _ ho rfl
theorem SceneIn.offRoles {w : World} {led : List Cell} {A : SA} {M : MV} {K : List Cell} {st : St} (H : SceneIn w led A M K st) {tl : List Cell} (h : OwnOff tl (led.map (·.1))) : ∀ p ∈ tl, p.1 ∉ roles A M := fun p hp hm => by
  obtain ⟨o, ho, _⟩ := H.cell p.1 hm
  exact h p hp p.1 (List.mem_map.mpr ⟨_, ho, rfl⟩) rfl
/-- cells that stay as they are -/
noncomputable def FzK (fr led : List Cell) (A : SA) (M : MV) : Prop := ∀ p ∈ fr, p ∈ led ∧ p.1 ∉ roles A M
theorem FzK.step {fr led new : List Cell} {A : SA} {M M' : MV} (h : FzK fr led A M) (kp : Keep A M led M' new) : FzK fr new A M' := fun p hp => kp p (h p hp).1 (h p hp).2
theorem FzK.mono {fr led new : List Cell} {A : SA} {M : MV} (h : FzK fr led A M) (hs : ∀ p ∈ led, p ∈ new) : FzK fr new A M := fun p hp => ⟨hs _ (h p hp).1, (h p hp).2⟩
theorem ints_get {vs : List Value} {ns : List Int} {i : Nat} {r : Value} (hh : IntsAre vs ns) (h : vs[i]? = some r) : ∃ n t, r = .int n t ∧ n ∈ ns := by
  induction hh generalizing i with
  | nil => rw [List.getElem?_nil] at h; cases h
  | cons n t _ ih =>
    cases i with
    | zero => exact ⟨n, t, (Option.some.inj h).symm, .head _⟩
    | succ i =>
      obtain ⟨n', t', e, hm⟩ := ih h
      exact ⟨n', t', e, .tail _ hm⟩
theorem stored_new {kvs : List (Int × Value)} {t : Int} {v : Value} (h : ∀ kv ∈ kvs, kv.1 ≠ t) : stored kvs t v = kvs ++ [(t, v)] := by
  unfold stored
  rw [if_neg]
  intro hc
  obtain ⟨kv, hkv, e⟩ := List.any_eq_true.mp hc
  exact h kv hkv (of_decide_eq_true e)
theorem sd_keys {A : SA} {K : List Cell} {t : Int} {kvs : List (Int × Value)} {sels : List (Int × List CaseD)} (hh : All2 (SdR A K) kvs sels) (ht : ∀ s ∈ sels, s.1 ≠ t) : ∀ kv ∈ kvs, kv.1 ≠ t := by
  induction hh with
  | nil => exact fun _ h => absurd h List.not_mem_nil
  | @cons kv s kvs sels h hs ih =>
    intro kv' hk
    rcases List.mem_cons.mp hk with rfl | hk
    · rw [h.1]; exact ht s (.head _)
    · exact ih (fun s hs => ht s (.tail _ hs)) kv' hk
theorem caseReady_eq {st : St} {d : Deed} (hd : DeedOk d) (h : ∀ n, Two n → canSend (st.q n) = mayDo st sSend n ∧ canRecv (st.q n) = mayDo st sTake n) : caseReady st (caseOf d) = dMay st d := by
  unfold caseReady caseOf dMay
  cases hn : d.n with
  | none => rfl
  | some n =>
    have h2 := h n (hd.n n hn)
    rcases hd.k with hk | hk
    · simp only [hk, decide_true, if_true]; exact h2.1
    · simp only [hk, decide_eq_false (Ne.symm send_ne_take), Bool.false_eq_true, if_false]; exact h2.2
theorem enq_asl {g t : Int} : ∀ {cs : List CaseD} {i : Nat} {st : St}, (enqSt g t i st cs).asl = st.asl
  | [], _, _ => rfl
  | c :: cs, i, st => by
    refine (enq_asl (cs := cs) (i := i + 1) (st := enqStep g t i st c)).trans ?_
    unfold enqStep
    split <;> rfl
theorem dMay_some {st : St} {d : Deed} (h : dMay st d = true) : ∃ n, d.n = some n ∧ mayDo st d.k n = true := by
  unfold dMay at h
  cases hn : d.n with
  | none => rw [hn] at h; cases h
  | some n => rw [hn] at h; exact ⟨n, rfl, h⟩
theorem wok_ref {T : List Cell} {v : Value} {d : PyData} (h : RIn T v d) (hw : WOk d) : ∃ a, v = .ref a := by cases hw <;> exact tup_inv h
theorem list_ref {T : List Cell} {v : Value} {ds : List PyData} (h : RIn T v (.list ds)) : ∃ a, v = .ref a := by cases h; exact ⟨_, rfl⟩
theorem mk1_news {h₀ h : Heap} {L hl C cd ch : Addr} {a0 a1 a2 : Int} {t0 t1 t2 tr : Tok} {room : Int} {oc : Obj} {rest : List Cell} {n0 n3 : Nat}
    (N : News h₀ L h ((hl, listOf (List.toArray []) n0) :: (C, instObj 31 cd) :: (cd, dictOf [⟨a0, .str (Str.ofString "room") t0, .int room tr⟩, ⟨a1, .str (Str.ofString "held") t1, .ref hl⟩, ⟨a2, .str (Str.ofString "is_closed") t2, .bool false⟩] n3) :: (ch, oc) :: rest)) :
    ∃ k t, News h₀ L h ((ch, oc) :: (hl, listOf (List.toArray []) n0) :: (C, instObj 31 cd) :: (cd, dictOf (cEs k t room tr hl false) n3) :: rest) :=
  ⟨fun i => if i = 0 then a0 else if i = 1 then a1 else a2, fun i => if i = 0 then t0 else if i = 1 then t1 else t2, News.sub N (subCons (.tail _ (.tail _ (.tail _ (.head _)))) (subCons (.head _) (subCons (.tail _ (.head _)) (subCons (.tail _ (.tail _ (.head _))) fun p hp => .tail _ (.tail _ (.tail _ (.tail _ hp)))))))⟩
theorem mk2_news {h₀ h : Heap} {L b sl rl q qd : Addr} {a0 a1 a2 a3 a4 : Int} {t0 t1 t2 t3 t4 tr : Tok} {room : Int} {rest : List Cell} {n0 n1 n2 n3 : Nat}
    (N : News h₀ L h ((rl, listOf (List.toArray []) n0) :: (sl, listOf (List.toArray []) n1) :: (b, listOf (List.toArray []) n2) :: (q, instObj 235 qd) :: (qd, dictOf [⟨a0, .str (Str.ofString "room") t0, .int room tr⟩, ⟨a1, .str (Str.ofString "buffer") t1, .ref b⟩, ⟨a2, .str (Str.ofString "senders") t2, .ref sl⟩, ⟨a3, .str (Str.ofString "receivers") t3, .ref rl⟩, ⟨a4, .str (Str.ofString "closed") t4, .bool false⟩] n3) :: rest)) :
    ∃ k t, News h₀ L h ((rl, listOf (List.toArray []) n0) :: (sl, listOf (List.toArray []) n1) :: (b, listOf (List.toArray []) n2) :: (q, instObj 235 qd) :: (qd, dictOf (qEs k t room tr b sl rl false) n3) :: rest) :=
  ⟨fun i => if i = 0 then a0 else if i = 1 then a1 else if i = 2 then a2 else if i = 3 then a3 else a4, fun i => if i = 0 then t0 else if i = 1 then t1 else if i = 2 then t2 else if i = 3 then t3 else t4, N⟩
theorem mk3_news {h₀ h : Heap} {L wl ch P pd : Addr} {a0 a1 : Int} {t0 t1 : Tok} {rest : List Cell} {n0 n1 n3 : Nat}
    (N : News h₀ L h ((wl, listOf (List.toArray []) n0) :: (ch, listOf (List.toArray []) n1) :: (P, instObj 148 pd) :: (pd, dictOf [⟨a0, .str (Str.ofString "channels") t0, .ref ch⟩, ⟨a1, .str (Str.ofString "waiting") t1, .ref wl⟩] n3) :: rest)) :
    ∃ k t, News h₀ L h ((wl, listOf (List.toArray []) n0) :: (ch, listOf (List.toArray []) n1) :: (P, instObj 148 pd) :: (pd, dictOf (pEs k t ch wl) n3) :: rest) :=
  ⟨fun i => if i = 0 then a0 else a1, fun i => if i = 0 then t0 else t1, N⟩
end
section
local macro_rules | `(tactic| walk_at $s:str) => `(tactic| k_extra $(Lean.Syntax.mkStrLit ("R " ++ s.getString)))
local macro_rules | `(tactic| walk_at $s:str) => `(tactic| k_extra $(Lean.Syntax.mkStrLit ("R4 " ++ s.getString)))
noncomputable def selX (g : Int) (i : Nat) (d : Deed) : Wt := ⟨g, if d.k = sSend then d.v else .none, some (i : Int), none⟩
noncomputable def selE (st : St) (g : Int) (i : Nat) (d : Deed) (n : Int) : QEff := qEff (st.q n) d.k (selX g i d)
noncomputable def selMid (st : St) (g : Int) (i : Nat) (d : Deed) (n : Int) : St := { (plainDo st d.k n d.v).st with q := setI st.q n (selE st g i d n).st }
noncomputable def selDo (st : St) (g : Int) (i : Nat) (d : Deed) (n : Int) : St := hearSt (selMid st g i d n) (selE st g i d n).rows
noncomputable def selWait0 (st : St) (g t : Int) (ds : List Deed) : St := enqSt g t 0 { st with es := st.es ++ waitEnts g (some t) 0 ds, sels := st.sels ++ [(t, ds.map caseOf)] } (ds.map caseOf)
noncomputable def selWait (st : St) (g t : Int) (ds : List Deed) : St := { selWait0 st g t ds with asl := (selWait0 st g t ds).asl ++ [g] }
noncomputable def SelTo (st : St) (g t : Int) (ds : List Deed) (st' : St) : Prop :=
  ((∀ d ∈ ds, dMay st d = false) ∧ st' = selWait st g t ds) ∨ ∃ (i : Nat) (d : Deed) (n : Int), ds[i]? = some d ∧ d.n = some n ∧ mayDo st d.k n = true ∧ st' = selDo st g i d n
structure DoOk (st : St) (g : Int) (i : Nat) (d : Deed) (n : Int) : Prop where
  told : toldD (selE st g i d n).first = (plainDo st d.k n d.v).told
  rows : (selE st g i d n).rows.map hRow = (plainDo st d.k n d.v).rows
  ok : HearOk (selMid st g i d n) (selE st g i d n).rows
  qz : ∀ j, Two j → QSz (setI st.q n (selE st g i d n).st j)
  rz : (selE st g i d n).rows.length ≤ 60
  fsc : FSc (selE st g i d n).first
  wake : WakeOk st.asl (plainDo st d.k n d.v).rows
  tw : WOk (plainDo st d.k n d.v).told
  rw : ∀ r ∈ (plainDo st d.k n d.v).rows, WOk r.w
  dist : (plainDo st d.k n d.v).rows.Pairwise fun a b => a.g ≠ b.g
structure LPre (st : St) (g t : Int) : Prop where
  es : st.es.length ≤ 90
  held : ∀ j, Two j → (st.held j).length ≤ 90
  asl : st.asl.length ≤ 90
  qz : ∀ j, Two j → QSz (st.q j)
  slz : st.sels.length ≤ 90
  can : ∀ n, Two n → canSend (st.q n) = mayDo st sSend n ∧ canRecv (st.q n) = mayDo st sTake n
  fresh : ∀ s ∈ st.sels, s.1 ≠ t
  ok : ∀ (i : Nat) (d : Deed) (n : Int), DeedOk d → d.n = some n → mayDo st d.k n = true → DoOk st g i d n
inductive P_select_spec (w : World) (A : SA) (K : List Cell) (st : St) (sa : Addr) (g : Int) (t : Int) (fr : List Cell) (r : Value) (new : List Cell) : Prop where
  | mk (M' : _) (K' : _) (ds : _) (st' : _) (h1 : SelTo st g t ds st') (h2 : (∀ d ∈ ds, DeedOk d)) (h3 : ds.length ≤ 3) (h4 : SceneIn w new A M' K' st') (h5 : SrcIn new K' A M' sa) (h6 : FzK fr new A M') (h7 : (∀ p ∈ K', p ∈ K ∨ ∀ q ∈ fr, q.1 ≠ p.1)) (h8 : r = .bool true) : P_select_spec w A K st sa g t fr r new
noncomputable def T_select_spec (w : World) (A : SA) (K : List Cell) (st : St) (sa : Addr) (g : Int) (t : Int) (fr : List Cell) (C : Value → List Cell → Prop) : Prop := ∀ new : List Cell, ∀ M', ∀ K', ∀ ds, ∀ st', (SelTo st g t ds st') → ((∀ d ∈ ds, DeedOk d)) → (ds.length ≤ 3) → (SceneIn w new A M' K' st') → (SrcIn new K' A M' sa) → (FzK fr new A M') → ((∀ p ∈ K', p ∈ K ∨ ∀ q ∈ fr, q.1 ≠ p.1)) → C (.bool true) (new)
theorem U_select_spec {w : World} {A : SA} {K : List Cell} {st : St} {sa : Addr} {g : Int} {t : Int} {fr : List Cell} : ∀ C, T_select_spec w A K st sa g t fr C → ∀ r new, P_select_spec w A K st sa g t fr r new → C r new := fun C k9 r new h9 => by
  obtain ⟨M', K', ds, st', h1, h2, h3, h4, h5, h6, h7, rfl⟩ := h9
  exact k9 new M' K' ds st' h1 h2 h3 h4 h5 h6 h7
theorem select_spec {w : World} {led : List Cell} {A : SA} {M : MV} {K : List Cell} {st : St} {sa : Addr} {g t : Int} {tg tt : Tok} {fr : List Cell} (fz : FzK fr led A M) (zs : ∀ p ∈ fr, p.1 ≠ sa) (H : SceneIn w led A M K st) (sr : SrcIn led K A M sa) (ht0 : 0 ≤ t) (ht1 : t ≤ 100) (hp : LPre st g t) :
    CallSpec 450 3500 w 345 [.ref sa, .ref A.S, .int g tg, .int t tt] led (P_select_spec w A K st sa g t fr) := by
  unfold CallSpec
  intro gd cn csc a ccd cls outer A₀ base h₀ L m s p loose mean mg mb Q E B F X N T hk ret
  have mS := H.S
  have oS := H.oS
  obtain ⟨x, y, tx, ty, sc, msa⟩ := sr.ex
  have hsaS : A.S ≠ sa := fun e => sr.nr (by rw [← e]; row_room_at im9)
  have h6 : ∀ p ∈ offOf [sa] led, p.1 ≠ sa := fun p hp e => (mem_offOf.mp hp).2 (List.mem_singleton.mpr e)
  have mS0 := mem_off1 mS hsaS
  refine wpAny_call ?_
  have N0 := News.sub (l' := (sa, listOf (List.toArray [.int x tx, .int y ty]) sc) :: offOf [sa] led) N (subCons msa fun p hp => (mem_offOf.mp hp).1)
  clear N
  k_dflt row_room_at enter9
  rename News _ _ _ _ => N1
  rename_i L0 _ _ _ _ _ _ _ l0 o1 o2 o3 _ _ _
  have hcR : ∀ d : Addr, L0 < d → d ∉ roles A M := fun d hd => H.lt fun p hp => Nat.lt_trans (if e : p.1 = sa then by rw [e]; exact l0.1 else kst_ltOf l0.2 p (mem_off1 hp e)) hd
  obtain ⟨rest0, N2, h6', mc1, mc2, mc3, g0⟩ := reorder3 N1 h6 (by row_room_at ne9) (by row_room_at ne9) (by row_room_at ne9)
  have mz1 : ∀ p ∈ fr, p ∈ rest0 := fun p hp => g0 _ (mem_off1 (fz p hp).1 (zs p hp))
  have H0 := H.relaySa msa g0 (News.fn N2)
  clear N1 h6
  replace mS0 := g0 _ mS0
  k_steps
  refine goOn ?_
  (try k_fold)
  refine' CallSpec.callU (take_draw_spec (led := rest0) (top := 3) (by decide) (by decide) h6') U_take_draw_spec ?qhh ?qhf ?qhdp ?qhu ?qB ?qF ?qX ?qN ?qhs ?qT ?qhk ?_
  row_room_at sides9
  intro x1 y1 tx1 ty1 sc1 d td d0 d1 h' tk' F' N'
  replace H0 := H0.draw noTup_list sr.nr sr.nk (News.fn N')
  clear N2
  k_steps
  have hn9 : (((1 + d).toNat : Nat) : Int) = 1 + d := by omega
  (with_unfolding_all refine' comp_rangeJ (n := (1 + d).toNat) (a := 0) (b := 1 + d) (fun i ys led₁ => ∃ x y tx ty c rest ds, led₁ = (sa, listOf (List.toArray [.int x tx, .int y ty]) c) :: rest ∧ (∀ p ∈ rest, p.1 ≠ sa) ∧ SceneIn w led₁ A M K st ∧ (∀ p ∈ rest0, p ∈ rest) ∧ All2 (SomeIn rest) ys ds ∧ ds.length = i) ?qhh ?qF ?qN ?qhr ?qhsm ?qhrn ?qhn ?qh0 ?qhx ?qhkd ?qturn1 ?qdone1)
  case qhh => rfl
  case qF => assumption
  case qN => assumption
  case qhr => assumption
  case qhsm => exact small_one (by decide) (by decide) (by omega) (by omega)
  case qhrn => rw [← hn9, rangeSize_nat]; omega
  case qhn => rw [sizeLine_eq]; omega
  case qh0 => exact ⟨_, _, _, _, _, _, [], rfl, h6', H0, fun _ h => h, .nil, rfl⟩
  case qhx => intro C'; rfl
  case qhkd => intro C'; rfl
  case qturn1 =>
    intro C i t9 ys _ own h tk h₁ tk₁ oC m₂ E' hi hp9 hys hoC hC hNs hx F₁ N₁
    obtain ⟨x2, y2, tx2, ty2, c2, rest, ds, rfl, hr6, H1, hsub, hall, hdl⟩ := hp9
    (try simp only [List.cons_append] at N₁)
    have g6 : ∀ p ∈ rest ++ (C, oC) :: own, p.1 ≠ sa := fun p hp => (List.mem_append.mp hp).elim (hr6 p) fun hp => hoC p hp sa (List.mem_map.mpr ⟨_, .head _, rfl⟩)
    have g7 : ∀ p ∈ rest, p ∈ rest ++ (C, oC) :: own := fun p hp => memL hp
    have gC : (C, oC) ∈ rest ++ (C, oC) :: own := memR (.head _)
    have g5 : ∀ p ∈ own, p ∈ rest ++ (C, oC) :: own := fun p hp => memR (.tail _ hp)
    have mc1' := g7 _ (hsub _ mc1)
    have mc2' := g7 _ (hsub _ mc2)
    have mc3' := g7 _ (hsub _ mc3)
    generalize rest ++ (C, oC) :: own = rest9 at N₁ g6 g7 gC g5 mc1' mc2' mc3'
    (try show wpAny _ _ _ _ _ _)
    k_fold
    k_steps
    refine goOn ?_
    rename News _ _ _ _ => N8
    rename_i la _ _ l7 _ _
    have hla : la ≠ sa := by row_room_at ne9
    (try k_fold)
    refine' CallSpec.callU (one_draw N8 hla g6 (Nat.le_of_ble_eq_true rfl) (Nat.le_of_ble_eq_true rfl)) U_one_spec ?qhh ?qhf ?qhdp ?qhu ?qB ?qF ?qX ?qN ?qhs ?qT ?qhk ?_
    row_room_at sides9
    intro r x3 y3 tx3 ty3 c3 j9 hj9 h' tk' F' N'
    obtain ⟨kd, tkk, rfl, hkd⟩ : ∃ kd t, r = .str kd t ∧ (kd = sSend ∨ kd = sTake) := by
      rcases pick2 hj9 with h | h
      · exact ⟨_, _, h, .inl rfl⟩
      · exact ⟨_, _, h, .inr rfl⟩
    clear N8 hj9
    k_steps
    refine goOn ?_
    rename News _ _ _ _ => N8
    rename_i lb _ _ l6 _ _
    have hlb : lb ≠ sa := by row_room_at ne9
    (try k_fold)
    refine' CallSpec.callU (one_draw N8 hlb (offHd hla g6) (Nat.le_of_ble_eq_true rfl) (Nat.le_of_ble_eq_true rfl)) U_one_spec ?qhh ?qhf ?qhdp ?qhu ?qB ?qF ?qX ?qN ?qhs ?qT ?qhk ?_
    row_room_at sides9
    intro r x4 y4 tx4 ty4 c4 j9 hj9 h' tk' F' N'
    obtain ⟨n, tnn, rfl, hn3⟩ : ∃ n t, r = .int n t ∧ Thr n := by
      rcases pick4 hj9 with h | h | h | h
      · exact ⟨_, _, h, .inl rfl⟩
      · exact ⟨_, _, h, .inl rfl⟩
      · exact ⟨_, _, h, .inr (.inl rfl)⟩
      · exact ⟨_, _, h, .inr (.inr rfl)⟩
    clear N8 hj9
    k_steps
    rename News _ _ _ _ => N8
    rename_i Dn _ _ l5 _ _
    have hDn : Dn ≠ sa := by row_room_at ne9
    have l4 : ∀ p ∈ rest9, p.1 < Dn := kst_ltOf l5.2.2.2
    have S1 := H1.draw (os' := listOf (List.toArray [.int x4 tx4, .int y4 ty4]) c4) noTup_list sr.nr sr.nk (News.fn (News.sub N8 (subCons (by row_room_at mem9) fun p hp => .tail _ (.tail _ (.tail _ (.tail _ (g7 p hp)))))))
    have Nn := News.sub (l' := (sa, listOf (List.toArray [.int x4 tx4, .int y4 ty4]) c4) :: (Dn, _) :: rest) N8 (subCons (.tail _ (.head _)) (subCons (.head _) fun p hp => .tail _ (.tail _ (.tail _ (.tail _ (g7 p hp))))))
    have S2 := S1.mono (new := (sa, listOf (List.toArray [.int x4 tx4, .int y4 ty4]) c4) :: (Dn, _) :: rest) (subCons (.head _) fun p hp => .tail _ (.tail _ hp)) (News.fn Nn)
    refine CEnd.intro (led' := (sa, listOf (List.toArray [.int x4 tx4, .int y4 ty4]) c4) :: (Dn, _) :: rest) (by assumption) N8 (subApp (subCons (.tail _ (.head _)) (subCons (.head _) fun p hp => .tail _ (.tail _ (.tail _ (.tail _ (g7 p hp)))))) (subCons (.tail _ (.tail _ (.tail _ (.tail _ gC)))) fun p hp => .tail _ (.tail _ (.tail _ (.tail _ (g5 p hp)))))) hNs (fun p hp b hb => ?_) subNil ⟨x4, y4, tx4, ty4, c4, _, ds ++ [⟨kd, chO n, _⟩], rfl, offHd hDn hr6, S2, fun p hp => .tail _ (hsub p hp), (hall.mono fun _ _ h => h.mono fun p hp => .tail _ hp).snoc ⟨Dn, 0, tkk, n, tnn, rfl, .head _, hn3, rfl, hkd, .inr ⟨_, _, rfl⟩⟩, by rw [List.length_append, hdl]; rfl⟩
    have hp9 : p ∈ rest9 := (List.mem_cons.mp hp).elim (fun e => by rw [e]; exact gC) (g5 p)
    rcases List.mem_cons.mp hb with rfl | hb
    · exact g6 p hp9
    · rcases List.mem_cons.mp hb with rfl | hb
      · exact Nat.ne_of_lt (l4 p hp9)
      · exact hoC p hp b (List.mem_cons_of_mem _ hb)
  case qdone1 =>
    intro s₂ Ds sys sc2 led' h' tk hs N₁ hD hJ
    obtain ⟨hh, rfl⟩ := hs
    obtain ⟨x2, y2, tx2, ty2, c2, rest1, ds, rfl, hr6, H1, hsub, hall, hdl⟩ := hJ
    unfold finA
    intro F₁
    have hDsa : Ds ≠ sa := (hD _ (.head _)).symm
    have N2 := News.sub (l' := (sa, listOf (List.toArray [.int x2 tx2, .int y2 ty2]) c2) :: (Ds, listOf (List.toArray sys) sc2) :: rest1) N₁ (subCons (.tail _ (.head _)) (subCons (.head _) fun p hp => .tail _ (.tail _ hp)))
    clear N₁
    have H2 := H1.mono (new := (sa, listOf (List.toArray [.int x2 tx2, .int y2 ty2]) c2) :: (Ds, listOf (List.toArray sys) sc2) :: rest1) (subCons (.head _) fun p hp => .tail _ (.tail _ hp)) (News.fn N2)
    obtain ⟨rest2, hr2⟩ : ∃ rest2, rest2 = (Ds, listOf (List.toArray sys) sc2) :: rest1 := ⟨_, rfl⟩
    have g7 : ∀ p ∈ rest1, p ∈ rest2 := fun p hp => by rw [hr2]; exact .tail _ hp
    have mDs : (Ds, listOf sys.toArray sc2) ∈ rest2 := by rw [hr2]; exact .head _
    have h62 : ∀ p ∈ rest2, p.1 ≠ sa := by rw [hr2]; exact offHd hDsa hr6
    rw [← hr2] at N2 H2
    replace hall := hall.mono fun _ _ h => h.mono g7
    have mc1' := g7 _ (hsub _ mc1)
    have mc2' := g7 _ (hsub _ mc2)
    have mc3' := g7 _ (hsub _ mc3)
    have mz' : ∀ p ∈ fr, p ∈ rest2 := fun p hp => g7 _ (hsub _ (mz1 p hp))
    have mS2 := g7 _ (hsub _ mS0)
    clear hr2 g7 hsub hr6 H1 hD H0 mc1 mc2 mc3 mz1 mS0 h6' g0
    have hsl := hall.length
    have hdz : ds.length ≤ 3 := by omega
    have hd1 : 1 ≤ ds.length := by omega
    obtain ⟨led2, hl2⟩ : ∃ led2, led2 = (sa, listOf (List.toArray [.int x2 tx2, .int y2 ty2]) c2) :: rest2 := ⟨_, rfl⟩
    have g8 : ∀ p ∈ rest2, p ∈ led2 := fun p hp => by rw [hl2]; exact .tail _ hp
    have msa2 : (sa, listOf (List.toArray [.int x2 tx2, .int y2 ty2]) c2) ∈ led2 := by rw [hl2]; exact .head _
    rw [← hl2] at N2 H2
    replace hall := hall.mono fun _ _ h => h.mono g8
    replace mc1' := g8 _ mc1'
    replace mc2' := g8 _ mc2'
    replace mc3' := g8 _ mc3'
    replace mz' := fun p hp => g8 _ (mz' p hp)
    replace mS2 := g8 _ mS2
    replace mDs := g8 _ mDs
    clear hl2 g8 h62
    obtain ⟨cnl, mN⟩ := H2.NL
    k_steps
    (with_unfolding_all refine' comp_listT (vs := sys) (nn := sc2) (fun i ys tl => All2 (DeedIn tl) ys (ds.take i)) ?qhh ?qF ?qN ?qhl ?qhn ?qh0 ?qhv ?qha ?qhx ?qhkd ?qturn2 ?qdone2)
    case qhh => rfl
    case qF => assumption
    case qN => assumption
    case qhl => row_room_at mem9
    case qhn => rw [sizeLine_eq]; omega
    case qh0 => exact .nil
    case qhv =>
      intro i v hv
      obtain ⟨d9, hd9, a9, c9, tkk, n, tnn, rfl, hmm, _⟩ := hall.get hv
      exact ⟨a9, _, c9, rfl, hmm, rfl⟩
    case qha => rfl
    case qhx =>
      intro C' e he
      simp only [List.mem_cons, List.not_mem_nil, or_false] at he
      rcases he with rfl | rfl | rfl <;> rfl
    case qhkd => intro C'; rfl
    case qturn2 =>
      intro C i Tt xs nx ys tl own h tk h₁ tk₁ oC m₁ m₂ E' hv hm hK hys ht ho hoC hm2 hN F₁ N₁
      obtain ⟨d9, hd9, a9, c9, tkk, n, tnn, e, hmm, hn3, hdn, hdk, hdv⟩ := hall.get hv
      cases e
      have e2 := congrArg Prod.snd (H2.fn _ hm _ hmm rfl)
      injection e2 with _ _ e4 _
      injection e4 with e5 e6
      have e7 : xs = [.str d9.k tkk, .int n tnn, d9.v] := by simpa using congrArg Array.toList e5
      subst e7 e6
      have hx1 : m₂ (Str.ofString "kind") = some (.str d9.k tkk) := by rw [hm2]; rfl
      have hx2 : m₂ (Str.ofString "at") = some (.int n tnn) := by rw [hm2]; rfl
      have hx3 : m₂ (Str.ofString "value") = some d9.v := by rw [hm2]; rfl
      clear hm2 e5
      have hsn : ds.take (i + 1) = ds.take i ++ [d9] := take_snoc hd9
      refine growTurn_nil ?_
      by_cases h2 : n < 2
      · have hn2 := thr_two hn3 h2
        have hn9 := nlL_at (A := A) hn2
        obtain ⟨i0, ix, _⟩ := two_lt (A := A) hn2
        have hdn2 : d9.n = some n := by rw [hdn]; exact if_pos h2
        (try show wpAny _ _ _ _ _ _)
        k_fold
        k_steps
        rename News _ _ _ _ => N8
        rename_i D7 _ _ l7 _ _
        refine CGrow.one (by assumption) N8 hN (kst_ltOf l7) ?_
        rw [hsn]
        exact (hK.mono fun _ _ h => h.mono fun p hp => .tail _ hp).snoc ⟨D7, 0, tkk, A.nt n, rfl, by rw [hdn2]; exact .head _⟩
      · have hn4 : n = 2 := by rcases hn3 with h | h | h <;> omega
        subst hn4
        have hdn2 : d9.n = none := by rw [hdn]; exact if_neg h2
        (try show wpAny _ _ _ _ _ _)
        k_fold
        k_steps
        rename News _ _ _ _ => N8
        rename_i D7 _ _ l7 _ _
        refine CGrow.one (by assumption) N8 hN (kst_ltOf l7) ?_
        rw [hsn]
        exact (hK.mono fun _ _ h => h.mono fun p hp => .tail _ hp).snoc ⟨D7, 0, tkk, 0, rfl, by rw [hdn2]; exact .head _⟩
    case qdone2 =>
      intro s₂ Dd dvs tl2 dc h' tk hs ht N₁ hD hK
      obtain ⟨hh, rfl⟩ := hs
      unfold finA
      intro F₁
      rw [hsl, List.take_length] at hK
      obtain ⟨led3, hl3⟩ : ∃ led3, led3 = (Dd, listOf (List.toArray dvs) dc) :: (led2 ++ tl2) := ⟨_, rfl⟩
      have g8 : ∀ p ∈ led2, p ∈ led3 := fun p hp => by rw [hl3]; exact .tail _ (memL hp)
      have mDd : (Dd, listOf dvs.toArray dc) ∈ led3 := by rw [hl3]; exact .head _
      have hdR : Dd ∉ roles A M := H2.offRole fun p hp => hD p (memL hp)
      have hdsa : Dd ≠ sa := (hD _ (memL msa2)).symm
      replace hK : All2 (DeedIn led3) dvs ds := hK.mono fun _ _ h => h.mono fun p hp => by rw [hl3]; exact .tail _ (memR hp)
      rw [← hl3] at N₁
      have H3 := H2.mono g8 (News.fn N₁)
      replace hall := hall.mono fun _ _ h => h.mono g8
      replace mc1' := g8 _ mc1'
      replace mc2' := g8 _ mc2'
      replace mc3' := g8 _ mc3'
      replace mz' := fun p hp => g8 _ (mz' p hp)
      replace mS2 := g8 _ mS2
      replace mDs := g8 _ mDs
      replace msa2 := g8 _ msa2
      clear g8 hl3 hD ht H2 N2 mN
      have hdl2 := hK.length
      k_steps
      (with_unfolding_all refine' comp_listT (vs := sys) (nn := sc2) (fun i ys tl => All2 (CaseIn A tl) ys ((ds.take i).map caseOf)) ?qhh ?qF ?qN ?qhl ?qhn ?qh0 ?qhv ?qha ?qhx ?qhkd ?qturn3 ?qdone3)
      case qhh => rfl
      case qF => assumption
      case qN => assumption
      case qhl => row_room_at mem9
      case qhn => rw [sizeLine_eq]; omega
      case qh0 => exact .nil
      case qhv =>
        intro i v hv
        obtain ⟨d9, hd9, a9, c9, tkk, n, tnn, rfl, hmm, _⟩ := hall.get hv
        exact ⟨a9, _, c9, rfl, hmm, rfl⟩
      case qha => rfl
      case qhx =>
        intro C' e he
        simp only [List.mem_cons, List.not_mem_nil, or_false] at he
        rcases he with rfl | rfl | rfl <;> rfl
      case qhkd => intro C'; rfl
      case qturn3 =>
        intro C i Tt xs nx ys tl own h tk h₁ tk₁ oC m₁ m₂ E' hv hm hJ hys ht ho hoC hm2 hN F₁ N₁
        obtain ⟨d9, hd9, a9, c9, tkk, n, tnn, e, hmm, hn3, hdn, hdk, hdv⟩ := hall.get hv
        cases e
        have e2 := congrArg Prod.snd (H3.fn _ hm _ hmm rfl)
        injection e2 with _ _ e4 _
        injection e4 with e5 e6
        have e7 : xs = [.str d9.k tkk, .int n tnn, d9.v] := by simpa using congrArg Array.toList e5
        subst e7 e6
        have hx1 : m₂ (Str.ofString "kind") = some (.str d9.k tkk) := by rw [hm2]; rfl
        have hx2 : m₂ (Str.ofString "at") = some (.int n tnn) := by rw [hm2]; rfl
        have hx3 : m₂ (Str.ofString "value") = some d9.v := by rw [hm2]; rfl
        clear hm2 e5
        have hsn : (ds.take (i + 1)).map caseOf = (ds.take i).map caseOf ++ [caseOf d9] := by rw [take_snoc hd9, List.map_append]; rfl
        have H9 := H3.mono (new := led3 ++ tl ++ (C, oC) :: own) (fun p hp => memL (memL hp)) (News.fn N₁)
        refine growTurn_nil ?_
        rcases hdk with hdk | hdk
        · rw [hdk] at hx1
          have hcs : caseOf d9 = ⟨true, d9.n, d9.v⟩ := by rw [caseOf, decide_eq_true hdk]
          (try show wpAny _ _ _ _ _ _)
          k_fold
          k_steps
          refine goOn ?_
          (try k_fold)
          refine' CallSpec.callU (channel_spec H9 hn3) U2 ?qhh ?qhf ?qhdp ?qhu ?qB ?qF ?qX ?qN ?qhs ?qT ?qhk ?_
          row_room_at sides9
          intro h' tk' F' N'
          k_steps
          rename News _ _ _ _ => N8
          rename_i D7 _ _ l7 _ _
          refine CGrow.one (by assumption) N8 hN (kst_ltOf l7) ?_
          rw [hsn, hcs, hdn]
          exact (hJ.mono fun _ _ h => h.mono fun p hp => .tail _ hp).snoc ⟨D7, 0, _, rfl, .head _⟩
        · rw [hdk] at hx1
          have hcs : caseOf d9 = ⟨false, d9.n, d9.v⟩ := by rw [caseOf, decide_eq_false (by rw [hdk]; exact Ne.symm send_ne_take)]
          (try show wpAny _ _ _ _ _ _)
          k_fold
          k_steps
          refine goOn ?_
          (try k_fold)
          refine' CallSpec.callU (channel_spec H9 hn3) U2 ?qhh ?qhf ?qhdp ?qhu ?qB ?qF ?qX ?qN ?qhs ?qT ?qhk ?_
          row_room_at sides9
          intro h' tk' F' N'
          k_steps
          rename News _ _ _ _ => N8
          rename_i D7 _ _ l7 _ _
          refine CGrow.one (by assumption) N8 hN (kst_ltOf l7) ?_
          rw [hsn, hcs, hdn]
          exact (hJ.mono fun _ _ h => h.mono fun p hp => .tail _ hp).snoc ⟨D7, 0, _, rfl, .head _⟩
      case qdone3 =>
        intro s₂ Dc cvs tl3 cc h' tk hs ht N₁ hD hJ
        obtain ⟨hh, rfl⟩ := hs
        unfold finA
        intro F₁
        rw [hsl, List.take_length] at hJ
        obtain ⟨kc, hkc⟩ : ∃ kc, kc = (Dc, listOf (List.toArray cvs) cc) :: tl3 := ⟨_, rfl⟩
        obtain ⟨led4, hl4⟩ : ∃ led4, led4 = (Dc, listOf (List.toArray cvs) cc) :: (led3 ++ tl3) := ⟨_, rfl⟩
        have g8 : ∀ p ∈ led3, p ∈ led4 := fun p hp => by rw [hl4]; exact .tail _ (memL hp)
        have mDc : (Dc, listOf cvs.toArray cc) ∈ kc := by rw [hkc]; exact .head _
        have hkf : ∀ p ∈ kc, p ∈ led4 ∧ p.1 ∉ roles A M ∧ p.1 ≠ sa ∧ ∀ q ∈ led3, q.1 ≠ p.1 := by
          rw [hkc, hl4]
          intro p hp
          rcases List.mem_cons.mp hp with rfl | hp
          · exact ⟨.head _, H3.offRole fun p hp => hD p (memL hp), (hD _ (memL msa2)).symm, fun q hq => hD q (memL hq)⟩
          · exact ⟨.tail _ (memR hp), H3.offRoles ht p hp, ht p hp _ (List.mem_map.mpr ⟨_, msa2, rfl⟩), fun q hq => (ht p hp _ (List.mem_map.mpr ⟨_, hq, rfl⟩)).symm⟩
        replace hJ : All2 (CaseIn A kc) cvs (ds.map caseOf) := hJ.mono fun _ _ h => h.mono fun p hp => by rw [hkc]; exact .tail _ hp
        have h34 : ∀ p ∈ led3, p ∈ led4 := g8
        rw [← hl4] at N₁
        have H4 := H3.mono g8 (News.fn N₁)
        have mDc4 := (hkf _ mDc).1
        have hds : ∀ d ∈ ds, DeedOk d := by
          intro d hd
          obtain ⟨i, hi⟩ := List.mem_iff_getElem?.mp hd
          obtain ⟨v, hv⟩ : ∃ v, sys[i]? = some v := by
            have := (List.getElem?_eq_some_iff.mp hi).1
            exact ⟨sys[i], List.getElem?_eq_getElem (by omega)⟩
          exact (hall.at hv hi).ok
        replace hK := hK.mono fun _ _ h => h.mono g8
        replace mc1' := g8 _ mc1'
        replace mc2' := g8 _ mc2'
        replace mc3' := g8 _ mc3'
        have mzk : ∀ p ∈ kc, ∀ q ∈ fr, q.1 ≠ p.1 := fun p hp q hq => (hkf p hp).2.2.2 q (mz' q hq)
        replace mz' := fun p hp => g8 _ (mz' p hp)
        replace mS2 := g8 _ mS2
        replace mDd := g8 _ mDd
        replace msa2 := g8 _ msa2
        clear g8 hl4 hD ht hkc
        obtain ⟨nw, vs4, nc, hP4⟩ := H4.pl
        have mP4 := hP4.P
        have mpd4 := hP4.pd
        have hcl := hJ.length
        rw [List.length_map] at hcl
        k_steps
        refine goOn ?_
        (with_unfolding_all refine' comp_enum (vs := dvs) (nn := dc) (fun i ys tl => tl = [] ∧ IntsAre ys (idxs (dMay st) 0 (ds.take i))) ?qhh ?qF ?qN ?qhl ?qhn ?qh0 ?qha ?qhlen ?qhx ?qhkd ?qturn4 ?qdone4)
        case qhh => rfl
        case qF => assumption
        case qN => assumption
        case qhl => row_room_at mem9
        case qhn => rw [sizeLine_eq]; omega
        case qh0 => exact ⟨rfl, .nil⟩
        case qha => rfl
        case qhlen => rfl
        case qhx =>
          intro C' e he
          simp only [List.mem_cons, List.not_mem_nil, or_false] at he
          rcases he with rfl | rfl <;> rfl
        case qhkd => intro C'; rfl
        case qturn4 =>
          intro C i v ti ys tl own h tk h₁ tk₁ oC m₁ m₂ E' hv hj hys ht ho hoC hm2 hN F₁ N₁
          obtain ⟨rfl, hj⟩ := hj
          (try simp only [List.append_nil] at N₁)
          obtain ⟨d9, hd9, a9, c9, tkk, tnn, rfl, hmm⟩ := hK.get hv
          have hx1 : m₂ (Str.ofString "case") = some (.int (i : Nat) ti) := by rw [hm2]; rfl
          have hx2 : m₂ (Str.ofString "deed") = some (.ref a9) := by rw [hm2]; rfl
          clear hm2
          have hsn : idxs (dMay st) 0 (ds.take (i + 1)) = idxs (dMay st) 0 (ds.take i) ++ (if dMay st d9 then [((i : Nat) : Int)] else []) := by
            rw [take_snoc hd9, idxs_snoc, take_len hd9, Nat.zero_add]
          have hok9 := hds d9 (List.mem_of_getElem? hd9)
          have H9 := H4.mono (new := led4 ++ (C, oC) :: own) (fun p hp => memL hp) (News.fn N₁)
          refine growTurn_one ?_
          cases hdn : d9.n with
          | none =>
            have hdm : dMay st d9 = false := by rw [dMay, hdn]
            rw [hdn] at hmm
            simp only [optV] at hmm
            (try show wpAny _ _ _ _ _ _)
            k_fold
            k_steps
            refine goOn ?_
            (try k_fold)
            refine' CallSpec.callU (may_no_S H9) U2 ?qhh ?qhf ?qhdp ?qhu ?qB ?qF ?qX ?qN ?qhs ?qT ?qhk ?_
            row_room_at sides9
            intro h' tk' F' N'
            k_steps
            rename News _ _ _ _ => N8
            rename Fr _ _ _ _ => F8
            refine CGrow.intro [] F8 N8 (by row_room_at sub9) (by assumption) offNil offNil offNil ⟨rfl, ?_⟩
            rw [hsn, hdm, if_neg (by decide), List.append_nil]
            exact hj
          | some n =>
            have hn2 := hok9.n n hdn
            have hdm : dMay st d9 = mayDo st d9.k n := by rw [dMay, hdn]
            rw [hdn] at hmm
            simp only [optV] at hmm
            cases hmy : mayDo st d9.k n with
            | false =>
              (try show wpAny _ _ _ _ _ _)
              k_fold
              k_steps
              refine goOn ?_
              (try k_fold)
              refine' CallSpec.callU (may_do_S H9 hn2 (Nat.le_trans (hp.held n hn2) (by decide))) U2 ?qhh ?qhf ?qhdp ?qhu ?qB ?qF ?qX ?qN ?qhs ?qT ?qhk ?_
              row_room_at sides9
              intro h' tk' F' N'
              rw [hmy]
              k_steps
              rename News _ _ _ _ => N8
              rename Fr _ _ _ _ => F8
              refine CGrow.intro [] F8 N8 (by row_room_at sub9) (by assumption) offNil offNil offNil ⟨rfl, ?_⟩
              rw [hsn, hdm, hmy, if_neg (by decide), List.append_nil]
              exact hj
            | true =>
              (try show wpAny _ _ _ _ _ _)
              k_fold
              k_steps
              refine goOn ?_
              (try k_fold)
              refine' CallSpec.callU (may_do_S H9 hn2 (Nat.le_trans (hp.held n hn2) (by decide))) U2 ?qhh ?qhf ?qhdp ?qhu ?qB ?qF ?qX ?qN ?qhs ?qT ?qhk ?_
              row_room_at sides9
              intro h' tk' F' N'
              rw [hmy]
              k_steps
              rename News _ _ _ _ => N8
              rename Fr _ _ _ _ => F8
              refine CGrow.intro [] F8 N8 (by row_room_at sub9) (by assumption) offNil offNil offNil ⟨rfl, ?_⟩
              rw [hsn, hdm, hmy, if_pos rfl]
              exact ints_snoc hj
        case qdone4 =>
          intro s₂ Dr rvs tl4 rc h' tk hs ht N₁ hD hj
          obtain ⟨hh, rfl⟩ := hs
          obtain ⟨rfl, hj⟩ := hj
          unfold finA
          intro F₁
          rw [hdl2, List.take_length] at hj
          simp only [List.append_nil] at N₁ hD
          have hfr : FzK ((L0 + 1 + 1 + 1, o1) :: (L0 + 1 + 1, o2) :: (L0 + 1, o3) :: (Dd, listOf dvs.toArray dc) :: kc) ((Dr, listOf (List.toArray rvs) rc) :: led4) A M := by
            intro p hp
            (try simp only [List.mem_cons] at hp)
            rcases hp with rfl | rfl | rfl | rfl | hp
            · exact ⟨.tail _ mc1', hcR _ (Nat.lt_succ_of_lt (Nat.lt_succ_of_lt (Nat.lt_succ_self _)))⟩
            · exact ⟨.tail _ mc2', hcR _ (Nat.lt_succ_of_lt (Nat.lt_succ_self _))⟩
            · exact ⟨.tail _ mc3', hcR _ (Nat.lt_succ_self _)⟩
            · exact ⟨.tail _ mDd, hdR⟩
            · exact ⟨.tail _ (hkf p hp).1, (hkf p hp).2.1⟩
          have hz : FzK fr ((Dr, listOf (List.toArray rvs) rc) :: led4) A M := fun p hp => ⟨.tail _ (mz' p hp), (fz p hp).2⟩
          have hDr : Dr ≠ sa := (hD _ msa2).symm
          have hrl : rvs.length ≤ 3 := by rw [hj.length]; exact Nat.le_trans idxs_len hdz
          have H5 := H4.mono (new := (Dr, listOf (List.toArray rvs) rc) :: led4) (fun p hp => .tail _ hp) (News.fn N₁)
          have hJ5 : All2 (CaseIn A ((Dr, listOf (List.toArray rvs) rc) :: led4)) cvs (ds.map caseOf) := hJ.mono fun _ _ h => h.mono fun p hp => .tail _ (hkf p hp).1
          have hco : ∀ c ∈ ds.map caseOf, CaseOk st c := by
            intro c hc n hn
            obtain ⟨d, hd, rfl⟩ := List.mem_map.mp hc
            exact ⟨(hds d hd).n n hn, hp.qz n ((hds d hd).n n hn)⟩
          have hix : idxs (caseReady st) 0 (ds.map caseOf) = idxs (dMay st) 0 ds := idxs_map.trans (idxs_congr fun d hd => caseReady_eq (hds d hd) hp.can)
          k_steps
          refine goOn ?_
          (try k_fold)
          refine' CallSpec.callU (ready_cases_spec H5 (.tail _ mDc4) hJ5 hco (by rw [List.length_map]; omega)) U_ready_cases_spec ?qhh ?qhf ?qhdp ?qhu ?qB ?qF ?qX ?qN ?qhs ?qT ?qhk ?_
          row_room_at sides9
          intro D6 ys6 c6 hD6 hys6 h' tk' F' N'
          rw [hix] at hys6
          k_steps
          refine goOn ?_
          rename News _ _ _ _ => N8
          refine ne_same N8 (.list (n := c6) (.head _) (ints_rall hys6)) (.list (n := rc) (.tail _ (.head _)) (ints_rall hj)) tame_ints (by row_room_at units9) ?_
          k_steps
          refine goOn ?_
          rename News _ _ _ _ => N9
          cases hid : idxs (dMay st) 0 ds with
          | nil =>
            rw [hid] at hj
            refine eq_same N9 (d := .list []) (.list (vs := rvs) (n := rc) (by row_room_at mem9) (ints_rall hj)) (.list (vs := []) (n := 0) (by row_room_at mem9) .nil) (tame_ints (ns := [])) (by row_room_at units9) ?_
            k_steps
            refine goOn ?_
            obtain ⟨LX, N10, hsX⟩ : ∃ LX, News _ _ _ LX ∧ ∀ p ∈ (Dr, listOf (List.toArray rvs) rc) :: led4, p ∈ LX := ⟨_, N9, by row_room_at sub9⟩
            clear N9
            have H6 := H5.mono hsX (News.fn N10)
            have hfr6 := hfr.mono hsX
            have mP6 := hsX _ (.tail _ mP4)
            have mpd6 := hsX _ (.tail _ mpd4)
            (try k_fold)
            refine' CallSpec.callU (wait_for_S (dl := Dd) (nd := dc) (dvs := dvs) (ds := ds) (some t) H6 (hK.mono fun _ _ h => h.mono fun p hp => hsX p (.tail _ hp)) (hfr6 _ (.tail _ (.tail _ (.tail _ (.head _))))).1 hdR (Nat.le_trans hp.es (by decide)) (by omega) (fun d hd => (hds d hd).v)) U3n ?qhh ?qhf ?qhdp ?qhu ?qB ?qF ?qX ?qN ?qhs ?qT ?qhk ?_
            row_room_at sides9
            intro new7 S7 kp7 h' tk' F' N'
            have hfr7 := hfr6.step kp7
            have S7K := S7.monoK (K' := K ++ kc) (fun p hp => memL hp) (fun p hp => (List.mem_append.mp hp).elim (S7.K p) fun hp => hfr7 p (.tail _ (.tail _ (.tail _ (.tail _ hp)))))
            obtain ⟨o9, kvs, hSD, hdi, hlo, hrel⟩ := S7K.sd
            have hkz : kvs.length ≤ 100 := by have h1 : kvs.length = st.sels.length := hrel.length; have := hp.slz; omega
            have hSr : A.SD ∈ roles A M := by row_room_at im9
            have hS1 : ∀ o' : Obj, o'.IsDictOf (intKind PG w) (kvs ++ [(t, .ref Dc)]) → SceneIn w ((A.SD, o') :: offOf [A.SD] new7) A M (K ++ kc) _ ∧ Keep A M new7 M ((A.SD, o') :: offOf [A.SD] new7) := fun o' ho' => S7K.setSD (sels' := st.sels ++ [(t, ds.map caseOf)]) ho' (hrel.append (.cons ⟨rfl, Dc, cvs, cc, rfl, memR mDc, hJ.mono fun _ _ h => h.mono fun p hp => memR hp⟩ .nil)) S7K.K fun _ h => h
            have g0 : ∀ p ∈ new7, p.1 ∉ roles A M → p ∈ offOf [A.SD] new7 := fun p hp hq => mem_off1 hp fun e => hq (by rw [e]; exact hSr)
            have g2 : (A.S, A.oS) ∈ offOf [A.SD] new7 := mem_off1 S7.S fun e => by
              have := pw_sel (is := [21, 22]) S7.ne (by decide) (by show ∀ i ∈ _, i < 27; decide)
              exact (List.pairwise_cons.mp this).1 _ (List.mem_singleton.mpr rfl) e.symm
            have gc1 := g0 _ (hfr7 _ (.head _)).1 (hfr7 _ (.head _)).2
            have gc2 := g0 _ (hfr7 _ (.tail _ (.head _))).1 (hfr7 _ (.tail _ (.head _))).2
            have gc3 := g0 _ (hfr7 _ (.tail _ (.tail _ (.head _)))).1 (hfr7 _ (.tail _ (.tail _ (.head _)))).2
            have g4 : ∀ p ∈ offOf [A.SD] new7, p.1 ≠ A.SD := fun p hp e => (mem_offOf.mp hp).2 (List.mem_singleton.mpr e)
            have Na := News.sub (l' := (A.SD, o9) :: offOf [A.SD] new7) N' (subCons hSD fun p hp => (mem_offOf.mp hp).1)
            clear N' N10
            generalize offOf [A.SD] new7 = rest8 at Na g0 g2 g4 hS1 gc1 gc2 gc3
            k_steps
            refine goOn ?_
            rename_i hd8
            rw [stored_new (sd_keys hrel hp.fresh)] at hd8
            obtain ⟨S8, kp8⟩ := hS1 _ hd8
            have hfr8 := hfr7.step kp8
            (try k_fold)
            refine' CallSpec.callU (enqueue_spec (cs := ds.map caseOf) S8 (hfr8 _ (.tail _ (.tail _ (.tail _ (.tail _ mDc))))).1 (hfr8 _ (.tail _ (.tail _ (.tail _ (.tail _ mDc))))).2 (hJ.mono fun _ _ h => h.mono fun p hp => (hfr8 p (.tail _ (.tail _ (.tail _ (.tail _ hp))))).1) (fun c hc n hn => (hco c hc n hn).1) hp.qz (by rw [List.length_map]; omega) (fun c hc => by obtain ⟨d, hd, rfl⟩ := List.mem_map.mp hc; exact (hds d hd).v)) U3n ?qhh ?qhf ?qhdp ?qhu ?qB ?qF ?qX ?qN ?qhs ?qT ?qhk ?_
            row_room_at sides9
            intro new9 S9 kp9 h' tk' F' N'
            have hfr9 := hfr8.step kp9
            replace S9 : SceneIn w new9 A M (K ++ kc) (selWait0 st g t ds) := S9
            obtain ⟨na, avs, hAL, hia⟩ := S9.al
            have hasl : (selWait0 st g t ds).asl = st.asl := enq_asl
            have havz : avs.length ≤ 1000 := by rw [hia.length, hasl]; have := hp.asl; omega
            have hAr : A.AL ∈ roles A M := by row_room_at im9
            have hSne : A.S ≠ A.AL := fun e => by
              have := pw_sel (is := [20, 22]) S9.ne (by decide) (by show ∀ i ∈ _, i < 27; decide)
              exact (List.pairwise_cons.mp this).1 _ (List.mem_singleton.mpr rfl) e.symm
            have g0 : ∀ p ∈ new9, p.1 ≠ A.AL → p ∈ offOf [A.AL] new9 := fun p hp hq => mem_off1 hp hq
            have g2 := g0 _ S9.S hSne
            have gc1 := g0 _ (hfr9 _ (.head _)).1 fun e => (hfr9 _ (.head _)).2 (by rw [e]; exact hAr)
            have gc2 := g0 _ (hfr9 _ (.tail _ (.head _))).1 fun e => (hfr9 _ (.tail _ (.head _))).2 (by rw [e]; exact hAr)
            have gc3 := g0 _ (hfr9 _ (.tail _ (.tail _ (.head _)))).1 fun e => (hfr9 _ (.tail _ (.tail _ (.head _)))).2 (by rw [e]; exact hAr)
            have g4 : ∀ p ∈ offOf [A.AL] new9, p.1 ≠ A.AL := fun p hp e => (mem_offOf.mp hp).2 (List.mem_singleton.mpr e)
            have Na := News.sub (l' := (A.AL, listOf avs.toArray na) :: offOf [A.AL] new9) N' (subCons hAL fun p hp => (mem_offOf.mp hp).1)
            obtain ⟨S12, kp12⟩ := S9.setAL (na := na + 1) (ints_snoc (n := g) (t := tg) hia)
            clear N'
            generalize offOf [A.AL] new9 = rest9 at Na g0 g2 g4 S12 kp12 gc1 gc2 gc3
            k_steps
            rename News _ _ _ _ => N9
            (try simp only [List.push_toArray] at N9)
            have S13 := S12.mono (new := _) (by row_room_at sub9) (News.fn N9)
            have hz12 := ((((hz.mono hsX).step kp7).step kp8).step kp9).step kp12
            have sr5 : SrcIn LX K A M sa := ⟨⟨_, _, _, _, _, hsX _ (.tail _ msa2)⟩, sr.nr, sr.nk⟩
            have sr9 := sr5.step (((kp7.trans kp8).trans kp9).trans kp12) KUp.refl
            exact ret _ _ _ _ (by assumption) N9 ⟨M, K ++ kc, ds, selWait st g t ds, .inl ⟨idxs_nil hid, rfl⟩, hds, hdz, S13, ⟨sr9.ex, sr9.nr, fun p hp => (List.mem_append.mp hp).elim (sr9.nk p) fun hp => (hkf p hp).2.2.1⟩, hz12.mono (by row_room_at sub9), fun p hp => (List.mem_append.mp hp).imp id (mzk p), rfl⟩
          | cons i9 ix9 =>
            rw [hid] at hj
            refine eq_diff N9 (d' := .list []) (.list (vs := rvs) (n := rc) (by row_room_at mem9) (ints_rall hj)) (.list (vs := []) (n := 0) (by row_room_at mem9) .nil) (tame_ints (ns := i9 :: ix9)) (tame_ints (ns := [])) (by simp [PyData.eqv, PyData.eqvAll]) (by row_room_at units9) ?_
            k_steps
            refine goOn ?_
            obtain ⟨LX, N10, hsX⟩ : ∃ LX, News _ _ _ LX ∧ ∀ p ∈ (Dr, listOf (List.toArray rvs) rc) :: led4, p ∈ LX := ⟨_, N9, by row_room_at sub9⟩
            clear N9
            have H6 := H5.mono hsX (News.fn N10)
            have msaX := hsX _ (.tail _ msa2)
            have hfrs : ∀ p ∈ (L0 + 1 + 1 + 1, o1) :: (L0 + 1 + 1, o2) :: (L0 + 1, o3) :: (Dd, listOf dvs.toArray dc) :: kc, p.1 ≠ sa := by
              intro p hp
              (try simp only [List.mem_cons] at hp)
              rcases hp with rfl | rfl | rfl | rfl | hp
              · exact Nat.ne_of_gt (Nat.lt_succ_of_lt (Nat.lt_succ_of_lt (Nat.lt_succ_of_lt l0.1)))
              · exact Nat.ne_of_gt (Nat.lt_succ_of_lt (Nat.lt_succ_of_lt l0.1))
              · exact Nat.ne_of_gt (Nat.lt_succ_of_lt l0.1)
              · exact hdsa
              · exact (hkf p hp).2.2.1
            have hfrX : FzK ((L0 + 1 + 1 + 1, o1) :: (L0 + 1 + 1, o2) :: (L0 + 1, o3) :: (Dd, listOf dvs.toArray dc) :: kc) (offOf [sa] LX) A M := fun p hp => ⟨mem_off1 (hsX _ (hfr p hp).1) (hfrs p hp), (hfr p hp).2⟩
            have hzX : FzK fr (offOf [sa] LX) A M := fun p hp => ⟨mem_off1 (hsX _ (hz p hp).1) (zs p hp), (fz p hp).2⟩
            have hKX : All2 (DeedIn (offOf [sa] LX)) dvs ds := hK.mono fun _ _ h => by
              obtain ⟨a, c, tk, tn, rfl, hm⟩ := h
              refine ⟨a, c, tk, tn, rfl, mem_off1 (hsX _ (.tail _ hm)) fun e => ?_⟩
              exact noTup_list _ _ (congrArg Prod.snd (H6.fn _ (hsX _ (.tail _ hm)) _ msaX e)).symm
            have N11 := News.sub (l' := (sa, listOf (List.toArray [.int x2 tx2, .int y2 ty2]) c2) :: offOf [sa] LX) N10 (subCons msaX fun p hp => (mem_offOf.mp hp).1)
            have H7 := H6.relaySa msaX (fun p hp => hp) (News.fn N11)
            have mDrX := mem_off1 (hsX _ (.head _)) hDr
            have h6X : ∀ p ∈ offOf [sa] LX, p.1 ≠ sa := fun p hp e => (mem_offOf.mp hp).2 (List.mem_singleton.mpr e)
            clear N10 H6 msaX
            generalize offOf [sa] LX = restX at N11 H7 hfrX hzX hKX mDrX h6X
            have gc1 := (hfrX _ (.head _)).1
            have gc2 := (hfrX _ (.tail _ (.head _))).1
            have gc3 := (hfrX _ (.tail _ (.tail _ (.head _)))).1
            have gDd := (hfrX _ (.tail _ (.tail _ (.tail _ (.head _))))).1
            (try k_fold)
            refine' CallSpec.callU (one_spec (led := restX) mDrX (by rw [hj.length]; exact Nat.succ_pos _) (by omega) h6X) U_one_spec ?qhh ?qhf ?qhdp ?qhu ?qB ?qF ?qX ?qN ?qhs ?qT ?qhk ?_
            row_room_at sides9
            intro r x5 y5 tx5 ty5 c5 j9 hj9 h' tk' F' N'
            obtain ⟨cz, tz, rfl, hcz⟩ := ints_get hj hj9
            rw [← hid] at hcz
            obtain ⟨jn, d9, hcj, hdj, hdm⟩ := idxs_mem hcz
            obtain ⟨n, hdn, hmy⟩ := dMay_some hdm
            rw [Nat.zero_add] at hcj
            subst hcj
            have hok9 := hds d9 (List.mem_of_getElem? hdj)
            have hn2 := hok9.n n hdn
            have hdo := hp.ok jn d9 n hok9 hdn hmy
            have hjl : jn < ds.length := (List.getElem?_eq_some_iff.mp hdj).1
            obtain ⟨v9, hv9⟩ : ∃ v9, dvs[jn]? = some v9 := ⟨dvs[jn]'(by omega), List.getElem?_eq_getElem (by omega)⟩
            obtain ⟨a9, c9, tkk, tnn, rfl, hmm⟩ := hKX.at hv9 hdj
            rw [hdn] at hmm
            simp only [optV] at hmm
            have hv8 : dvs[((jn : Nat) : Int).toNat]? = some (.ref a9) := hv9
            have jz0 : (0 : Int) ≤ (jn : Nat) := by omega
            have jz1 : ((jn : Nat) : Int) < 1000 := by omega
            have H8 := H7.draw (os' := listOf (List.toArray [.int x5 tx5, .int y5 ty5]) c5) noTup_list sr.nr sr.nk (News.fn N')
            have sr8 : SrcIn ((sa, listOf (List.toArray [.int x5 tx5, .int y5 ty5]) c5) :: restX) K A M sa := ⟨⟨_, _, _, _, _, .head _⟩, sr.nr, sr.nk⟩
            have mS8 := H8.S
            obtain ⟨nw8, vs8, nc8, hP8⟩ := H8.pl
            have mP8 := hP8.P
            have mpd8 := hP8.pd
            clear N11 H7
            k_steps
            refine goOn ?_
            have hfr8 := hfrX.mono (new := (sa, listOf (List.toArray [.int x5 tx5, .int y5 ty5]) c5) :: restX) fun p hp => .tail _ hp
            clear gc1 gc2 gc3 gDd
            (try k_fold)
            refine' CallSpec.callU (do_now_S (v := d9.v) H8 hn2 (Nat.le_trans hp.es (by decide)) (Nat.le_trans (hp.held n hn2) (by decide)) hok9.v) U_do_now_S ?qhh ?qhf ?qhdp ?qhu ?qB ?qF ?qX ?qN ?qhs ?qT ?qhk ?_
            row_room_at sides9
            intro new9 M1 S9 kp9 a8 n8 tv rl rvs8 c8 ha8 htv hrl8 hrows h' tk' F' N'
            have hfr9 := hfr8.step kp9
            have ma := (mem_fz.mp ha8).1
            obtain ⟨ta, rfl⟩ := wok_ref htv hdo.tw
            have gc1 := (hfr9 _ (.head _)).1
            have gc2 := (hfr9 _ (.tail _ (.head _))).1
            have gc3 := (hfr9 _ (.tail _ (.tail _ (.head _)))).1
            have mS9 := S9.S
            k_steps
            refine goOn ?_
            (try k_fold)
            refine' CallSpec.callU (woken_spec S9 (mem_fz.mp hrl8).1 (mem_fz.mp hrl8).2 hrows hdo.wake (Nat.le_trans hp.asl (by decide)) (Nat.le_trans doNow_rows (by decide))) U_woken_spec ?qhh ?qhf ?qhdp ?qhu ?qB ?qF ?qX ?qN ?qhs ?qT ?qhk ?_
            row_room_at sides9
            intro r3 new10 K10 out S10 kp10 kk10 hso hr10 h' tk' F' N'
            obtain ⟨ra10, rfl⟩ := list_ref hr10
            have hfr10 := hfr9.step kp10
            have gc1 := (hfr10 _ (.head _)).1
            have gc2 := (hfr10 _ (.tail _ (.head _))).1
            have gc3 := (hfr10 _ (.tail _ (.tail _ (.head _)))).1
            k_steps
            rename News _ _ _ _ => N8
            rename_i D11 _ _ l11 _ _
            refine goOn ?_
            obtain ⟨S11, kp11, hr11⟩ := S10.pairEnd (c := 0) (htv.mono kp10.fz) hr10 (kst_ltOf l11) (fun _ h => h) (News.fn N8)
            have hfr11 := hfr10.step kp11
            (try k_fold)
            refine' CallSpec.callU (do_case_spec (cs := ds.map caseOf) (i := jn) (c := caseOf d9) (n := n) S11 (hfr11 _ (.tail _ (.tail _ (.tail _ (.tail _ mDc))))).1 (hJ.mono fun _ _ h => h.mono fun p hp => (hfr11 p (.tail _ (.tail _ (.tail _ (.tail _ hp))))).1) (by rw [List.getElem?_map, hdj]; rfl) hdn hn2 (hp.qz n hn2) hok9.v (by omega)) U_do_case_spec ?qhh ?qhf ?qhdp ?qhu ?qB ?qF ?qX ?qN ?qhs ?qT ?qhk ?_
            row_room_at sides9
            intro r12 new12 e he S12 kp12 ho12 h' tk' F' N'
            have hee : e = selE st g jn d9 n := by
              rw [he]
              rcases hok9.k with hk9 | hk9
              · simp only [caseOf, selE, qEff, selX, hk9, decide_true, if_true]
              · simp only [caseOf, selE, qEff, selX, hk9, decide_eq_false (Ne.symm send_ne_take), if_neg (Ne.symm send_ne_take), Bool.false_eq_true, if_false]
            rw [hee] at S12 ho12
            clear hee he N8
            have gc1 := (hfr11.step kp12 _ (.head _)).1
            have gc2 := (hfr11.step kp12 _ (.tail _ (.head _))).1
            have gc3 := (hfr11.step kp12 _ (.tail _ (.tail _ (.head _)))).1
            k_steps
            refine goOn ?_
            (try k_fold)
            refine' CallSpec.callU (heard_spec (st := selMid st g jn d9 n) S12 ho12 hdo.ok hdo.qz hdo.rz (Nat.le_trans hp.slz (by decide)) hdo.fsc) U_heard_spec ?qhh ?qhf ?qhdp ?qhu ?qB ?qF ?qX ?qN ?qhs ?qT ?qhk ?_
            row_room_at sides9
            intro r13 new13 M13 K13 out13 S13 kp13 kk13 hso13 hr13 h' tk' F' N'
            rw [hdo.rows] at hso13
            cases SortOf.uniq hso13 hso (.refl _) hdo.dist
            rw [hdo.told] at hr13
            obtain ⟨ra13, tv13, rv13, rc13, rfl, _, _, _⟩ := out_inv hr13
            k_steps
            refine goOn ?_
            rename News _ _ _ _ => N9
            refine eq_same N9 (d := outD (plainDo st d9.k n d9.v).told out) (((hr11.mono kp12.fz).mono kp13.fz).mono fun p hp => (mem_fz.mp hp).1) (hr13.mono fun p hp => (mem_fz.mp hp).1) (tame_out (.inr hdo.tw) fun r hr => hdo.rw r (hso13.perm.mem_iff.mp hr)) (by row_room_at units9) ?_
            k_steps
            have kkz := (KUp.pre kp9 kk10).trans (((kp9.trans kp10).trans kp11).trans kp12) kk13
            have hz13 := (((((hzX.mono (new := (sa, listOf (List.toArray [.int x5 tx5, .int y5 ty5]) c5) :: restX) (fun p hp => .tail _ hp)).step kp9).step kp10).step kp11).step kp12).step kp13
            exact ret _ _ _ _ (by assumption) (by assumption) ⟨M13, K13, ds, selDo st g jn d9 n, .inr ⟨jn, d9, n, hdj, hdn, hmy, rfl⟩, hds, hdz, S13, sr8.step ((((kp9.trans kp10).trans kp11).trans kp12).trans kp13) kkz, hz13, fun p hp => (kkz.new p hp).imp id fun h q hq => h q (.tail _ (hzX q hq).1) (hzX q hq).2, rfl⟩
end
section
inductive P_make_one_spec (ch : Addr) (rest : List Cell) (cvs : List Value) (room : Int) (tr : Tok) (r : Value) (new : List Cell) : Prop where
  | mk (C : _) (cd : _) (hl : _) (k' : _) (t' : _) (tk : _) (n' : _) (h1 : r = .int (cvs.length : Nat) tk) (h2 : new = (ch, listOf (List.toArray (cvs ++ [.ref C])) n') :: (hl, listOf (List.toArray []) 0) :: (C, instObj 31 cd) :: (cd, dictOf (cEs k' t' room tr hl false) 3) :: rest) (h3 : cd < C) (h4 : C < hl) (h5 : ch < cd) (h6 : ∀ p ∈ rest, p.1 < cd) : P_make_one_spec ch rest cvs room tr r new
noncomputable def T_make_one_spec (ch : Addr) (rest : List Cell) (cvs : List Value) (room : Int) (tr : Tok) (C9 : Value → List Cell → Prop) : Prop := ∀ C, ∀ cd, ∀ hl, ∀ k', ∀ t', ∀ tk, ∀ n', (cd < C) → (C < hl) → (ch < cd) → (∀ p ∈ rest, p.1 < cd) → C9 (.int (cvs.length : Nat) tk) ((ch, listOf (List.toArray (cvs ++ [.ref C])) n') :: (hl, listOf (List.toArray []) 0) :: (C, instObj 31 cd) :: (cd, dictOf (cEs k' t' room tr hl false) 3) :: rest)
theorem U_make_one_spec {ch : Addr} {rest : List Cell} {cvs : List Value} {room : Int} {tr : Tok} : ∀ C9, T_make_one_spec ch rest cvs room tr C9 → ∀ r new, P_make_one_spec ch rest cvs room tr r new → C9 r new := fun C9 k9 r new h9 => by
  obtain ⟨C, cd, hl, k', t', tk, n', rfl, rfl, h3, h4, h5, h6⟩ := h9
  exact k9 C cd hl k' t' tk n' h3 h4 h5 h6
theorem make_one_spec {w : World} {P pd ch wl : Addr} {k : Nat → Int} {t : Nat → Tok} {rest : List Cell} {cvs : List Value} {nc : Nat} {room : Int} {tr : Tok} (hP : (P, instObj 148 pd) ∈ rest) (hpd : (pd, dictOf (pEs k t ch wl) 2) ∈ rest) (hr : ∀ p ∈ rest, p.1 ≠ ch) (hz : cvs.length ≤ 100) :
    CallSpec 480 3800 w 56 [.ref P, .int room tr] ((ch, listOf cvs.toArray nc) :: rest) (P_make_one_spec ch rest cvs room tr) := by
  unfold CallSpec
  intro gd cn csc a ccd cls outer A₀ base h₀ L m s p loose mean mg mb Q E B F X N T hk ret
  refine wpAny_call ?_
  k_dflt row_room_at enter9
  k_steps
  rename News _ _ _ _ => N8
  rename_i C9 cd9 _ l8 l7 _ _ _ _ _ _ _ _ _ _ _ _ _ hl _ _ l6 _ _ _ _ _ _ _ _ _ _ _ _
  have hl9 : (cvs ++ [Value.ref C9]).length = cvs.length + 1 := by simp
  k_steps
  rename News _ _ _ _ => N9
  obtain ⟨k9, t9, Nz⟩ := mk1_news N9
  have e9 : (((cvs ++ [Value.ref C9]).length : Nat) : Int) - 1 = (cvs.length : Nat) := by rw [hl9]; omega
  exact ret _ _ _ _ (by assumption) Nz ⟨C9, cd9, hl, k9, t9, _, nc + 1, by rw [e9], rfl, l7, l6.1, l8.1, kst_ltOf l8.2⟩
end
section
theorem noGet {α : Type} {P : Nat → α → Prop} : ∀ j a, ([] : List α)[j]? = some a → P j a := fun j a h => by
  rw [List.getElem?_nil] at h
  cases h
theorem len2 {α : Type} {l : List α} (h : l.length = 2) : ∃ a b, l = [a, b] := by
  match l, h with
  | [a, b], _ => exact ⟨a, b, rfl⟩
theorem ints2 {ys : List Value} (h : ys.length = 2) (hv : ∀ (j : Nat) (v : Value), ys[j]? = some v → ∃ t, v = .int (j : Nat) t) : ∃ n0 n1, ys = [.int 0 n0, .int 1 n1] := by
  obtain ⟨v0, v1, rfl⟩ := len2 h
  obtain ⟨n0, e0⟩ := hv 0 v0 rfl
  obtain ⟨n1, e1⟩ := hv 1 v1 rfl
  exact ⟨n0, n1, by rw [e0, e1]; rfl⟩
theorem pair_int {r0 r1 : Int} {t0 t1 : Tok} {i : Nat} {v : Value} (hv : [Value.int r0 t0, Value.int r1 t1][i]? = some v) : ∃ room tr, v = .int room tr := by
  match i, hv with
  | 0, hv => exact ⟨_, _, (Option.some.inj hv).symm⟩
  | 1, hv => exact ⟨_, _, (Option.some.inj hv).symm⟩
/-- addresses that stand in a ledger, all apart -/
structure Rl (led0 led : List Cell) (l : List Addr) : Prop where
  pw : l.Pairwise (fun (a b : Nat) => a ≠ b)
  mem : ∀ x ∈ l, ∃ o, (x, o) ∈ led
  new : ∀ x ∈ l, x = 307 ∨ x = 314 ∨ ∀ p ∈ led0, p.1 ≠ x
theorem Rl.step {led0 led led' : List Cell} {l : List Addr} (h : Rl led0 led l) (hs : ∀ x o, (x, o) ∈ led → ∃ o', (x, o') ∈ led') : Rl led0 led' l := ⟨h.pw, fun x hx => let ⟨o, ho⟩ := h.mem x hx; hs x o ho, h.new⟩
theorem Rl.mono {led0 led led' : List Cell} {l : List Addr} (h : Rl led0 led l) (hs : ∀ p ∈ led, p ∈ led') : Rl led0 led' l := h.step fun x o ho => ⟨o, hs _ ho⟩
theorem Rl.add {led0 led led' : List Cell} {l : List Addr} {d : Addr} {o : Obj} (h : Rl led0 led l) (hd : ∀ p ∈ led, p.1 ≠ d) (h0 : ∀ p ∈ led0, p ∈ led) (hs : ∀ p ∈ led, p ∈ led') (hm : (d, o) ∈ led') : Rl led0 led' (d :: l) := by
  refine ⟨List.pairwise_cons.mpr ⟨fun x hx e => ?_, h.pw⟩, fun x hx => ?_, fun x hx => ?_⟩
  · obtain ⟨o', ho⟩ := h.mem x hx
    exact hd _ ho e.symm
  · rcases List.mem_cons.mp hx with rfl | hx
    · exact ⟨o, hm⟩
    · let ⟨o', ho⟩ := h.mem x hx
      exact ⟨o', hs _ ho⟩
  · rcases List.mem_cons.mp hx with rfl | hx
    · exact .inr (.inr fun p hp => hd p (h0 p hp))
    · exact h.new x hx
theorem Rl.cons {led0 led : List Cell} {l : List Addr} {d : Addr} {o : Obj} (h : Rl led0 led l) (hd : ∀ p ∈ led, p.1 ≠ d) (h0 : ∀ p ∈ led0, p ∈ led) : Rl led0 ((d, o) :: led) (d :: l) := h.add hd h0 (fun p hp => .tail _ hp) (.head _)
structure QA where
  (q qd b sl rl : Addr) (k : Nat → Int) (t : Nat → Tok) (room : Int) (tr : Tok)
noncomputable def QA.ord (a : QA) : List Addr := [a.rl, a.sl, a.b, a.q, a.qd]
structure QMade (T : List Cell) (a : QA) : Prop where
  q : (a.q, instObj 235 a.qd) ∈ T
  qd : (a.qd, dictOf (qEs a.k a.t a.room a.tr a.b a.sl a.rl false) 5) ∈ T
  b : (a.b, listOf (List.toArray []) 0) ∈ T
  s : (a.sl, listOf (List.toArray []) 0) ∈ T
  r : (a.rl, listOf (List.toArray []) 0) ∈ T
theorem QMade.mono {T T' : List Cell} {a : QA} (h : QMade T a) (hs : ∀ p ∈ T, p ∈ T') : QMade T' a := ⟨hs _ h.q, hs _ h.qd, hs _ h.b, hs _ h.s, hs _ h.r⟩
theorem rl5 {h₀ h : Heap} {L S wl ch P pd c0 : Addr} {oS o1 o2 o3 o4 oc : Obj} {led : List Cell} (_ : News h₀ L h ((S, oS) :: (wl, o1) :: (ch, o2) :: (P, o3) :: (pd, o4) :: (c0, oc) :: led)) (hR : Rl led led [307, 314]) (h0 : ∀ p ∈ led, p.1 ≠ c0) (h1 : AllLt pd ((c0, oc) :: led)) (h2 : pd < P) (h3 : AllLt ch ((P, o3) :: (pd, o4) :: (c0, oc) :: led)) (h4 : AllLt wl ((ch, o2) :: (P, o3) :: (pd, o4) :: (c0, oc) :: led)) (h5 : AllLt S ((wl, o1) :: (ch, o2) :: (P, o3) :: (pd, o4) :: (c0, oc) :: led)) :
    Rl led ((S, oS) :: (wl, o1) :: (ch, o2) :: (P, o3) :: (pd, o4) :: (c0, oc) :: led) [S, wl, ch, P, pd, c0, 307, 314] := by
  have r1 := hR.cons (o := oc) h0 (fun _ h => h)
  have r2 := r1.cons (o := o4) (fun p hp => Nat.ne_of_lt (kst_ltOf h1 p hp)) (fun p hp => .tail _ hp)
  have r3 := r2.cons (d := P) (o := o3) (fun p hp => Nat.ne_of_lt ((List.mem_cons.mp hp).elim (fun e => by rw [e]; exact h2) fun hp => Nat.lt_trans (kst_ltOf h1 p hp) h2)) (fun p hp => .tail _ (.tail _ hp))
  have r4 := r3.cons (o := o2) (fun p hp => Nat.ne_of_lt (kst_ltOf h3 p hp)) (fun p hp => .tail _ (.tail _ (.tail _ hp)))
  have r5 := r4.cons (o := o1) (fun p hp => Nat.ne_of_lt (kst_ltOf h4 p hp)) (fun p hp => .tail _ (.tail _ (.tail _ (.tail _ hp))))
  exact r5.cons (o := oS) (fun p hp => Nat.ne_of_lt (kst_ltOf h5 p hp)) (fun p hp => .tail _ (.tail _ (.tail _ (.tail _ (.tail _ hp)))))
theorem rlQ {h₀ h : Heap} {L rl sl b q qd : Addr} {o1 o2 o3 o4 o5 : Obj} {led0 led rest : List Cell} {l : List Addr} (_ : News h₀ L h ((rl, o1) :: (sl, o2) :: (b, o3) :: (q, o4) :: (qd, o5) :: rest)) (hR : Rl led0 led l) (h00 : ∀ p ∈ led0, p ∈ led) (hs : ∀ p ∈ led, p ∈ rest) (h1 : AllLt qd rest) (h2 : qd < q) (h3 : AllLt b ((q, o4) :: (qd, o5) :: rest)) (h4 : AllLt sl ((b, o3) :: (q, o4) :: (qd, o5) :: rest)) (h5 : AllLt rl ((sl, o2) :: (b, o3) :: (q, o4) :: (qd, o5) :: rest)) :
    Rl led0 ((rl, o1) :: (sl, o2) :: (b, o3) :: (q, o4) :: (qd, o5) :: led) (rl :: sl :: b :: q :: qd :: l) := by
  have r2 := hR.cons (o := o5) (fun p hp => Nat.ne_of_lt (kst_ltOf h1 p (hs p hp))) h00
  have r3 := r2.cons (d := q) (o := o4) (fun p hp => Nat.ne_of_lt ((List.mem_cons.mp hp).elim (fun e => by rw [e]; exact h2) fun hp => Nat.lt_trans (kst_ltOf h1 p (hs p hp)) h2)) (fun p hp => .tail _ (h00 p hp))
  have r4 := r3.cons (d := b) (o := o3) (fun p hp => Nat.ne_of_lt (kst_ltOf h3 p (by
    rcases List.mem_cons.mp hp with rfl | hp
    · exact .head _
    · rcases List.mem_cons.mp hp with rfl | hp
      · exact .tail _ (.head _)
      · exact .tail _ (.tail _ (hs p hp))))) (fun p hp => .tail _ (.tail _ (h00 p hp)))
  have r5 := r4.cons (d := sl) (o := o2) (fun p hp => Nat.ne_of_lt (kst_ltOf h4 p (by
    rcases List.mem_cons.mp hp with rfl | hp
    · exact .head _
    · rcases List.mem_cons.mp hp with rfl | hp
      · exact .tail _ (.head _)
      · rcases List.mem_cons.mp hp with rfl | hp
        · exact .tail _ (.tail _ (.head _))
        · exact .tail _ (.tail _ (.tail _ (hs p hp)))))) (fun p hp => .tail _ (.tail _ (.tail _ (h00 p hp))))
  exact r5.cons (d := rl) (o := o1) (fun p hp => Nat.ne_of_lt (kst_ltOf h5 p (by
    rcases List.mem_cons.mp hp with rfl | hp
    · exact .head _
    · rcases List.mem_cons.mp hp with rfl | hp
      · exact .tail _ (.head _)
      · rcases List.mem_cons.mp hp with rfl | hp
        · exact .tail _ (.tail _ (.head _))
        · rcases List.mem_cons.mp hp with rfl | hp
          · exact .tail _ (.tail _ (.tail _ (.head _)))
          · exact .tail _ (.tail _ (.tail _ (.tail _ (hs p hp))))))) (fun p hp => .tail _ (.tail _ (.tail _ (.tail _ (h00 p hp)))))
structure CA where
  (C cd hl : Addr) (k : Nat → Int) (t : Nat → Tok) (room : Int) (tr : Tok)
noncomputable def CA.ord (a : CA) : List Addr := [a.hl, a.C, a.cd]
structure CMade (T : List Cell) (a : CA) : Prop where
  C : (a.C, instObj 31 a.cd) ∈ T
  cd : (a.cd, dictOf (cEs a.k a.t a.room a.tr a.hl false) 3) ∈ T
  hl : (a.hl, listOf (List.toArray []) 0) ∈ T
theorem CMade.mono {T T' : List Cell} {a : CA} (h : CMade T a) (hs : ∀ p ∈ T, p ∈ T') : CMade T' a := ⟨hs _ h.C, hs _ h.cd, hs _ h.hl⟩
inductive NumJ_ex (led : List Cell) (B1 : List Cell) (ch : Addr) (L8 : List Addr) (vs : List Value) (i : Nat) (ys : List Value) (led₁ : List Cell) : Prop where
  | mk (nc : _) (rest : _) (cs : List CA) (h1 : led₁ = (ch, listOf (List.toArray (cs.map fun a => Value.ref a.C)) nc) :: rest) (h2 : (∀ p ∈ rest, p.1 ≠ ch)) (h3 : (∀ p ∈ B1, p.1 ≠ ch → p ∈ rest)) (h4 : cs.length = i) (h5 : ys.length = i) (h6 : (∀ (j : Nat) (v : Value), ys[j]? = some v → ∃ t, v = .int (j : Nat) t)) (h7 : (∀ (j : Nat) (a : CA), cs[j]? = some a → CMade rest a ∧ vs[j]? = some (.int a.room a.tr))) (h8 : Rl led led₁ (cs.reverse.flatMap CA.ord ++ L8)) : NumJ_ex led B1 ch L8 vs i ys led₁
structure NumJ (led B1 : List Cell) (ch : Addr) (L8 : List Addr) (vs : List Value) (i : Nat) (ys : List Value) (led₁ : List Cell) : Prop where
  ex : NumJ_ex led B1 ch L8 vs i ys led₁
theorem rlC {led0 rest rest' : List Cell} {l : List Addr} {ch hl C cd : Addr} {oc oc' o1 o2 o3 : Obj} (hR : Rl led0 ((ch, oc) :: rest) l) (h00 : ∀ p ∈ led0, p ∈ (ch, oc) :: rest ∨ p.1 = ch) (hs : ∀ p ∈ rest, p ∈ rest') (h1 : ∀ p ∈ rest', p.1 < cd) (h2 : cd < C) (h3 : C < hl) (h4 : ch < cd) :
    Rl led0 ((ch, oc') :: (hl, o1) :: (C, o2) :: (cd, o3) :: rest) (hl :: C :: cd :: l) := by
  have lt : ∀ x ∈ l, x < cd := fun x hx => by
    obtain ⟨o, ho⟩ := hR.mem x hx
    rcases List.mem_cons.mp ho with e | ho
    · cases e; exact h4
    · exact h1 _ (hs _ ho)
  have lt0 : ∀ p ∈ led0, p.1 < cd := fun p hp => by
    rcases h00 p hp with h | h
    · rcases List.mem_cons.mp h with e | h
      · rw [e]; exact h4
      · exact h1 _ (hs _ h)
    · rw [h]; exact h4
  refine ⟨?_, ?_, ?_⟩
  · refine List.pairwise_cons.mpr ⟨fun x hx => ?_, List.pairwise_cons.mpr ⟨fun x hx => ?_, List.pairwise_cons.mpr ⟨fun x hx => Nat.ne_of_gt (lt x hx), hR.pw⟩⟩⟩
    · rcases List.mem_cons.mp hx with rfl | hx
      · exact Nat.ne_of_gt h3
      · rcases List.mem_cons.mp hx with rfl | hx
        · exact Nat.ne_of_gt (Nat.lt_trans h2 h3)
        · exact Nat.ne_of_gt (Nat.lt_trans (lt x hx) (Nat.lt_trans h2 h3))
    · rcases List.mem_cons.mp hx with rfl | hx
      · exact Nat.ne_of_gt h2
      · exact Nat.ne_of_gt (Nat.lt_trans (lt x hx) h2)
  · intro x hx
    (try simp only [List.mem_cons] at hx)
    rcases hx with rfl | rfl | rfl | hx
    · exact ⟨o1, .tail _ (.head _)⟩
    · exact ⟨o2, .tail _ (.tail _ (.head _))⟩
    · exact ⟨o3, .tail _ (.tail _ (.tail _ (.head _)))⟩
    · obtain ⟨o, ho⟩ := hR.mem x hx
      rcases List.mem_cons.mp ho with e | ho
      · cases e; exact ⟨oc', .head _⟩
      · exact ⟨o, .tail _ (.tail _ (.tail _ (.tail _ ho)))⟩
  · intro x hx
    (try simp only [List.mem_cons] at hx)
    rcases hx with rfl | rfl | rfl | hx
    · exact .inr (.inr fun p hp => Nat.ne_of_lt (Nat.lt_trans (lt0 p hp) (Nat.lt_trans h2 h3)))
    · exact .inr (.inr fun p hp => Nat.ne_of_lt (Nat.lt_trans (lt0 p hp) h2))
    · exact .inr (.inr fun p hp => Nat.ne_of_lt (lt0 p hp))
    · exact hR.new x hx
theorem pwIdx9 {D2 D S wl ch P pd c0 : Addr} {a0 a1 : QA} {b0 b1 : CA} (h : (D2 :: ([b0, b1].reverse.flatMap CA.ord ++ (D :: ([a0, a1].reverse.flatMap QA.ord ++ [S, wl, ch, P, pd, c0, 307, 314])))).Pairwise (fun (a b : Nat) => a ≠ b)) : S ≠ 307 ∧ S ≠ 314 := by
  have q := List.pairwise_cons.mp (pw_sel (is := [18, 24, 25]) h (by decide) (by show ∀ i ∈ _, i < 26; decide))
  exact ⟨q.1 307 (.head _), q.1 314 (.tail _ (.head _))⟩
noncomputable def st0 (r0 r1 : Int) : St := ⟨[], fun _ => [], fun _ => false, fun n => if n = 0 then r0 else r1, fun n => ⟨if n = 0 then r0 else r1, [], [], [], false⟩, [], []⟩
theorem scene_made {w : World} {led B2 K new : List Cell} {r0 r1 : Int} {t0 t1 n0 n1 : Tok} {a0 a1 : QA} {b0 b1 : CA} {kP : Nat → Int} {tP : Nat → Tok} {SD AL D2 D S wl ch P pd c0 : Addr} {oSD oS0 oS : Obj} {qc nc nc2 : Nat} {restS : List Cell}
    (hK : ∀ p ∈ K, p ∈ led ∧ p.1 ≠ 307 ∧ p.1 ≠ 314) (tH : TabIn 307 222 36 qH led K) (tW : TabIn 314 226 28 qW led K)
    (R12 : Rl led B2 (D2 :: ([b0, b1].reverse.flatMap CA.ord ++ (D :: ([a0, a1].reverse.flatMap QA.ord ++ [S, wl, ch, P, pd, c0, 307, 314])))))
    (zD2 : (D2, listOf (List.toArray [Value.int 0 n0, Value.int 1 n1]) nc2) ∈ B2) (zch : (ch, listOf (List.toArray [Value.ref b0.C, Value.ref b1.C]) nc) ∈ B2) (zD : (D, listOf (List.toArray [Value.ref a0.q, Value.ref a1.q]) qc) ∈ B2) (zwl : (wl, listOf (List.toArray []) 0) ∈ B2) (zP : (P, instObj 148 pd) ∈ B2) (zpd : (pd, dictOf (pEs kP tP ch wl) 2) ∈ B2)
    (zq0 : QMade B2 a0) (zq1 : QMade B2 a1) (zc0 : CMade B2 b0) (zc1 : CMade B2 b1) (zled : ∀ p ∈ led, p ∈ B2)
    (q0 : [Value.int r0 t0, Value.int r1 t1][0]? = some (Value.int a0.room a0.tr)) (q1 : [Value.int r0 t0, Value.int r1 t1][1]? = some (Value.int a1.room a1.tr)) (p0 : [Value.int r0 t0, Value.int r1 t1][0]? = some (Value.int b0.room b0.tr)) (p1 : [Value.int r0 t0, Value.int r1 t1][1]? = some (Value.int b1.room b1.tr))
    (hrS : ∀ p ∈ B2, p.1 ≠ S → p ∈ restS) (lAL : AllLt AL ((S, oS0) :: restS)) (lSD : AllLt SD ((AL, listOf (List.toArray []) 0) :: (S, oS0) :: restS)) (loSD : (SD == sysModules) = false) (hi : Obj.IsDictOf (intKind PG w) oSD []) (hS : Obj.IsDictOf (PySem.strKind PG w) oS [(Str.ofString "plain", .ref P), (Str.ofString "queued", .ref D), (Str.ofString "numbers", .ref D2), (Str.ofString "asleep", .ref AL), (Str.ofString "selects", .ref SD)])
    (hn : new = (SD, oSD) :: (AL, listOf (List.toArray []) 0) :: (S, oS) :: restS) (hf : Fun new) :
    ∃ A M, SceneIn w new A M K (st0 r0 r1) ∧ A.S = S ∧ (∀ p ∈ led, p.1 ≠ S → p ∈ new) ∧ ∀ d ∈ roles A M, d = 307 ∨ d = 314 ∨ ∀ p ∈ led, p.1 ≠ d := by
  have up : ∀ {x : Addr} {o : Obj}, (x, o) ∈ B2 → x ≠ S → (x, o) ∈ new := fun h e => by rw [hn]; exact .tail _ (.tail _ (.tail _ (hrS _ h e)))
  have lt1 : ∀ x o, (x, o) ∈ B2 → x < AL := fun x o h => if e : x = S then by rw [e]; exact lAL.1 else kst_ltOf lAL.2 _ (hrS _ h e)
  have lt2 : ∀ x o, (x, o) ∈ B2 → x < SD := fun x o h => if e : x = S then by rw [e]; exact lSD.2.1 else kst_ltOf lSD.2.2 _ (hrS _ h e)
  have R13 := R12.cons (o := listOf (List.toArray []) 0) (fun p hp => Nat.ne_of_lt (lt1 p.1 p.2 hp)) zled
  have R14 := R13.cons (o := oSD) (fun p hp => (List.mem_cons.mp hp).elim (fun e => by rw [e]; exact Nat.ne_of_lt lSD.1) fun hp => Nat.ne_of_lt (lt2 p.1 p.2 hp)) (fun p hp => .tail _ (zled p hp))
  have hnS : ∀ b ∈ [D2, D, wl, ch, P, pd, 307, 314, a0.q, a0.qd, a0.b, a0.sl, a0.rl, a1.q, a1.qd, a1.b, a1.sl, a1.rl, b0.C, b0.cd, b0.hl, b1.C, b1.cd, b1.hl], b ≠ S := fun b hb => ((List.pairwise_cons.mp (pw_sel (is := [20, 2, 9, 21, 22, 23, 24, 26, 27, 18, 19, 17, 16, 15, 13, 14, 12, 11, 10, 7, 8, 6, 4, 5, 3]) R14.pw (by decide) (by show ∀ i ∈ _, i < 28; decide))).1 b hb).symm
  obtain ⟨e1, e2⟩ : r0 = a0.room ∧ t0 = a0.tr := by have h := Option.some.inj q0; injection h with h1 h2; exact ⟨h1, h2⟩
  obtain ⟨e3, e4⟩ : r1 = a1.room ∧ t1 = a1.tr := by have h := Option.some.inj q1; injection h with h1 h2; exact ⟨h1, h2⟩
  obtain ⟨e5, e6⟩ : r0 = b0.room ∧ t0 = b0.tr := by have h := Option.some.inj p0; injection h with h1 h2; exact ⟨h1, h2⟩
  obtain ⟨e7, e8⟩ : r1 = b1.room ∧ t1 = b1.tr := by have h := Option.some.inj p1; injection h with h1 h2; exact ⟨h1, h2⟩
  have hled : ∀ p ∈ led, p.1 ≠ S → p ∈ new := fun p hp e => up (zled p hp) e
  have sub : ∀ x ∈ SD :: AL :: D2 :: ([b0, b1].reverse.flatMap CA.ord ++ (D :: ([a0, a1].reverse.flatMap QA.ord ++ [S, wl, ch, P, pd, c0, 307, 314]))), x = 307 ∨ x = 314 ∨ ∀ p ∈ led, p.1 ≠ x := R14.new
  refine ⟨{ P := P, pd := pd, ch := ch, AL := AL, SD := SD, S := S, QL := D, NL := D2, C := fun n => if n = 0 then b0.C else b1.C, cd := fun n => if n = 0 then b0.cd else b1.cd, hl := fun n => if n = 0 then b0.hl else b1.hl, q := fun n => if n = 0 then a0.q else a1.q, qd := fun n => if n = 0 then a0.qd else a1.qd, b := fun n => if n = 0 then a0.b else a1.b, kP := kP, tP := tP, kC := fun n => if n = 0 then b0.k else b1.k, kQ := fun n => if n = 0 then a0.k else a1.k, tC := fun n => if n = 0 then b0.t else b1.t, tQ := fun n => if n = 0 then a0.t else a1.t, tr := fun n => if n = 0 then b0.tr else b1.tr, trq := fun n => if n = 0 then a0.tr else a1.tr, nt := fun n => if n = 0 then n0 else n1, oS := oS },
    { wl := wl, sl := fun n => if n = 0 then a0.sl else a1.sl, rl := fun n => if n = 0 then a0.rl else a1.rl }, ?_, rfl, hled, ?_⟩
  · have hrl : ∀ d ∈ [wl, a0.sl, a0.rl, a1.sl, a1.rl, P, pd, ch, b0.C, b0.cd, b0.hl, b1.C, b1.cd, b1.hl, a0.q, a0.qd, a0.b, a1.q, a1.qd, a1.b, AL, SD, S, D, D2, 307, 314], d = 307 ∨ d = 314 ∨ ∀ p ∈ led, p.1 ≠ d := fun d hd => sub d (mem_sel (is := [21, 16, 15, 11, 10, 23, 24, 22, 7, 8, 6, 4, 5, 3, 18, 19, 17, 13, 14, 12, 1, 0, 20, 9, 2, 26, 27]) hd (by show ∀ i ∈ _, i < 28; decide))
    refine ⟨hf, pw_sel (is := [21, 16, 15, 11, 10, 23, 24, 22, 7, 8, 6, 4, 5, 3, 18, 19, 17, 13, 14, 12, 1, 0, 20, 9, 2, 26, 27]) R14.pw (by decide) (by show ∀ i ∈ _, i < 28; decide), ⟨0, [], nc, up zP (hnS _ (by row_room_at im9)), up zpd (hnS _ (by row_room_at im9)), up zwl (hnS _ (by row_room_at im9)), up zch (hnS _ (by row_room_at im9)), .nil⟩, noMem, ?_, ?_, ⟨0, [], by rw [hn]; exact .tail _ (.head _), .nil⟩, ⟨oSD, [], by rw [hn]; exact .head _, hi, loSD, .nil⟩, by rw [hn]; exact .tail _ (.tail _ (.head _)), hS, ⟨qc, up zD (hnS _ (by row_room_at im9))⟩, ⟨nc2, up zD2 (hnS _ (by row_room_at im9))⟩, tH.mono (fun o ho => hled _ ho (hnS _ (by row_room_at im9))) (fun _ h => h), tW.mono (fun o ho => hled _ ho (hnS _ (by row_room_at im9))) (fun _ h => h), fun p hp => ?_⟩
    · intro n hn'
      rcases hn' with rfl | rfl
      · exact ⟨0, up zc0.C (hnS _ (by row_room_at im9)), by have := up zc0.cd (hnS _ (by row_room_at im9)); rw [← e5] at this; exact this, up zc0.hl (hnS _ (by row_room_at im9)), noMem⟩
      · exact ⟨0, up zc1.C (hnS _ (by row_room_at im9)), by have := up zc1.cd (hnS _ (by row_room_at im9)); rw [← e7] at this; exact this, up zc1.hl (hnS _ (by row_room_at im9)), noMem⟩
    · intro n hn'
      rcases hn' with rfl | rfl
      · exact ⟨0, 0, 0, [], [], up zq0.q (hnS _ (by row_room_at im9)), by have := up zq0.qd (hnS _ (by row_room_at im9)); rw [← e1] at this; exact this, up zq0.b (hnS _ (by row_room_at im9)), up zq0.s (hnS _ (by row_room_at im9)), up zq0.r (hnS _ (by row_room_at im9)), .nil, .nil, noMem, noMem, noMem⟩
      · exact ⟨0, 0, 0, [], [], up zq1.q (hnS _ (by row_room_at im9)), by have := up zq1.qd (hnS _ (by row_room_at im9)); rw [← e3] at this; exact this, up zq1.b (hnS _ (by row_room_at im9)), up zq1.s (hnS _ (by row_room_at im9)), up zq1.r (hnS _ (by row_room_at im9)), .nil, .nil, noMem, noMem, noMem⟩
    · obtain ⟨h1, h2, h3⟩ := hK p hp
      have hpS : p.1 ≠ S := (hrl S (by row_room_at im9)).elim (fun e => by rw [e]; exact h2) fun h => h.elim (fun e => by rw [e]; exact h3) fun h => h p h1
      exact ⟨hled p h1 hpS, fun hm => (hrl _ hm).elim h2 fun h => h.elim h3 fun h => h p h1 rfl⟩
  · exact fun d hd => sub d (mem_sel (is := [21, 16, 15, 11, 10, 23, 24, 22, 7, 8, 6, 4, 5, 3, 18, 19, 17, 13, 14, 12, 1, 0, 20, 9, 2, 26, 27]) hd (by show ∀ i ∈ _, i < 28; decide))
inductive P_scene_spec (w : World) (led : List Cell) (K : List Cell) (r0 : Int) (r1 : Int) (r : Value) (new : List Cell) : Prop where
  | mk (A : _) (M : _) (h1 : SceneIn w new A M K (st0 r0 r1)) (h2 : r = .ref A.S) (h3 : (∀ p ∈ led, p ∈ new)) (h4 : ∀ d ∈ roles A M, d = 307 ∨ d = 314 ∨ ∀ p ∈ led, p.1 ≠ d) : P_scene_spec w led K r0 r1 r new
noncomputable def T_scene_spec (w : World) (led : List Cell) (K : List Cell) (r0 : Int) (r1 : Int) (C : Value → List Cell → Prop) : Prop := ∀ new : List Cell, ∀ A, ∀ M, (SceneIn w new A M K (st0 r0 r1)) → ((∀ p ∈ led, p ∈ new)) → (∀ d ∈ roles A M, d = 307 ∨ d = 314 ∨ ∀ p ∈ led, p.1 ≠ d) → C (.ref A.S) (new)
theorem U_scene_spec {w : World} {led : List Cell} {K : List Cell} {r0 : Int} {r1 : Int} : ∀ C, T_scene_spec w led K r0 r1 C → ∀ r new, P_scene_spec w led K r0 r1 r new → C r new := fun C k9 r new h9 => by
  obtain ⟨A, M, h1, rfl, h3, h4⟩ := h9
  exact k9 new A M h1 h3 h4
theorem scene_spec {w : World} {led K : List Cell} {rl : Addr} {r0 r1 : Int} {t0 t1 : Tok} {rc : Nat} (hm : (rl, listOf (List.toArray [.int r0 t0, .int r1 t1]) rc) ∈ led) (hR : Rl led led [307, 314]) (hK : ∀ p ∈ K, p ∈ led ∧ p.1 ≠ 307 ∧ p.1 ≠ 314) (tH : TabIn 307 222 36 qH led K) (tW : TabIn 314 226 28 qW led K) :
    CallSpec 460 3600 w 298 [.ref rl] led (P_scene_spec w led K r0 r1) := by
  unfold CallSpec
  intro gd cn csc a ccd cls outer A₀ base h₀ L m s p loose mean mg mb Q E B F X N T hk ret
  refine wpAny_call ?_
  k_dflt row_room_at enter9
  rename_i L0 _ _ _ _ _ _ _ l0 _ _ _
  have hlc := fun p hp => Nat.ne_of_lt (Nat.lt_succ_of_lt (l0 p hp))
  k_steps
  rename_i P pd _ lpd lP _ _ _ _ _ _ _ _ _ _ _ _ ch _ _ lch _ _ wl _ _ lwl _ _ _ _ _ _ _ _ oc _ _ hoc S _ oS _ NS loS hdS lS
  have R6 := rl5 NS hR hlc lpd lP lch lwl lS
  obtain ⟨kP, tP, N1⟩ := mk3_news (News.sub (l' := (wl, _) :: (ch, _) :: (P, _) :: (pd, _) :: (S, oS) :: (_, oc) :: led) NS (subCons (.tail _ (.head _)) (subCons (.tail _ (.tail _ (.head _))) (subCons (.tail _ (.tail _ (.tail _ (.head _)))) (subCons (.tail _ (.tail _ (.tail _ (.tail _ (.head _))))) (subCons (.head _) fun p hp => .tail _ (.tail _ (.tail _ (.tail _ (.tail _ hp))))))))))
  obtain ⟨B0, hB0⟩ : ∃ B0, B0 = (wl, listOf (List.toArray []) 0) :: (ch, listOf (List.toArray []) 0) :: (P, instObj 148 pd) :: (pd, dictOf (pEs kP tP ch wl) 2) :: (S, oS) :: (L0 + 1, oc) :: led := ⟨_, rfl⟩
  have N2 := News.sub (l' := B0) N1 (by rw [hB0]; exact fun _ h => h)
  have mwl : (wl, listOf (List.toArray []) 0) ∈ B0 := by rw [hB0]; exact .head _
  have mch : (ch, listOf (List.toArray []) 0) ∈ B0 := by rw [hB0]; exact .tail _ (.head _)
  have mP : (P, instObj 148 pd) ∈ B0 := by rw [hB0]; exact .tail _ (.tail _ (.head _))
  have mpd : (pd, dictOf (pEs kP tP ch wl) 2) ∈ B0 := by rw [hB0]; exact .tail _ (.tail _ (.tail _ (.head _)))
  have mS : (S, oS) ∈ B0 := by rw [hB0]; exact .tail _ (.tail _ (.tail _ (.tail _ (.head _))))
  have mc0 : (L0 + 1, oc) ∈ B0 := by rw [hB0]; exact .tail _ (.tail _ (.tail _ (.tail _ (.tail _ (.head _)))))
  have hl0 : ∀ p ∈ led, p ∈ B0 := fun p hp => by rw [hB0]; exact .tail _ (.tail _ (.tail _ (.tail _ (.tail _ (.tail _ hp)))))
  have R7 : Rl led B0 [S, wl, ch, P, pd, L0 + 1, 307, 314] := R6.step fun x o ho => by
    simp only [List.mem_cons, Prod.mk.injEq] at ho
    rcases ho with ⟨e, _⟩ | ⟨e, _⟩ | ⟨e, _⟩ | ⟨e, _⟩ | ⟨e, _⟩ | ⟨e, _⟩ | ho
    · rw [e]; exact ⟨_, mS⟩
    · rw [e]; exact ⟨_, mwl⟩
    · rw [e]; exact ⟨_, mch⟩
    · rw [e]; exact ⟨_, mP⟩
    · rw [e]; exact ⟨_, mpd⟩
    · rw [e]; exact ⟨_, mc0⟩
    · exact ⟨_, hl0 _ ho⟩
  have mrl := hl0 _ hm
  clear N1 NS R6 hB0 lpd lP lch lwl lS hlc
  (with_unfolding_all refine' comp_listJ (vs := [.int r0 t0, .int r1 t1]) (nn := rc) (fun i ys led₁ => (∀ p ∈ B0, p ∈ led₁) ∧ ∃ qs : List QA, qs.length = i ∧ ys = qs.map (fun a => Value.ref a.q) ∧ (∀ (j : Nat) (a : QA), qs[j]? = some a → QMade led₁ a ∧ [Value.int r0 t0, Value.int r1 t1][j]? = some (.int a.room a.tr)) ∧ Rl led led₁ (qs.reverse.flatMap QA.ord ++ [S, wl, ch, P, pd, L0 + 1, 307, 314])) ?qhh ?qF ?qN ?qhl ?qhn ?qh0 ?qhx ?qhkd ?qturn1 ?qdone1)
  case qhh => rfl
  case qF => assumption
  case qN => exact N2
  case qhl => exact mrl
  case qhn => rw [sizeLine_eq]; exact Nat.le_of_ble_eq_true rfl
  case qh0 => exact ⟨fun _ h => h, [], rfl, rfl, by first | exact noMem | exact noGet, R7⟩
  case qhx => intro C'; rfl
  case qhkd => intro C'; rfl
  case qturn1 =>
    intro C i v ys led₁ own h tk h₁ tk₁ oC m₂ E' hv hp9 hl₁ hys hoC hC hNs hx F₁ N₁
    obtain ⟨hsub, qs, hql, rfl, hqs, hrl⟩ := hp9
    obtain ⟨room, tr, rfl⟩ := pair_int hv
    have g7 : ∀ p ∈ led₁, p ∈ led₁ ++ (C, oC) :: own := fun p hp => memL hp
    have gC : (C, oC) ∈ led₁ ++ (C, oC) :: own := memR (.head _)
    have g5 : ∀ p ∈ own, p ∈ led₁ ++ (C, oC) :: own := fun p hp => memR (.tail _ hp)
    generalize led₁ ++ (C, oC) :: own = rest9 at N₁ g7 gC g5
    (try show wpAny _ _ _ _ _ _)
    k_fold
    k_steps
    rename_i q qd _ _ _ lqd lq _ _ _ _ _ _ _ _ _ _ _ _ _ _ b _ _ lb _ _ sl _ _ lsl _ _ rl9 _ _ lrl _ _ _ _ _ _ kF8 kN8 _ _
    obtain ⟨k9, t9, N9⟩ := mk2_news kN8
    have R9 := rlQ N9 hrl (fun p hp => hsub p (hl0 p hp)) g7 (allLt_of lqd) lq lb lsl lrl
    have up9 : ∀ p ∈ led₁, p ∈ (rl9, listOf (List.toArray []) 0) :: (sl, listOf (List.toArray []) 0) :: (b, listOf (List.toArray []) 0) :: (q, instObj 235 qd) :: (qd, dictOf (qEs k9 t9 room tr b sl rl9 false) 5) :: led₁ := fun p hp => .tail _ (.tail _ (.tail _ (.tail _ (.tail _ hp))))
    have up8 : ∀ p ∈ rest9, p ∈ (rl9, listOf (List.toArray []) 0) :: (sl, listOf (List.toArray []) 0) :: (b, listOf (List.toArray []) 0) :: (q, instObj 235 qd) :: (qd, dictOf (qEs k9 t9 room tr b sl rl9 false) 5) :: rest9 := fun p hp => .tail _ (.tail _ (.tail _ (.tail _ (.tail _ hp))))
    refine CEnd.intro kF8 N9 (led' := (rl9, listOf (List.toArray []) 0) :: (sl, listOf (List.toArray []) 0) :: (b, listOf (List.toArray []) 0) :: (q, instObj 235 qd) :: (qd, dictOf (qEs k9 t9 room tr b sl rl9 false) 5) :: led₁) ?_ hNs ?_ (fun p hp => by rw [List.mem_singleton.mp hp]; exact up9 _ hl₁) ⟨fun p hp => up9 p (hsub p hp), qs ++ [⟨q, qd, b, sl, rl9, k9, t9, room, tr⟩], by rw [List.length_append, hql]; rfl, by rw [List.map_append]; rfl, fun j a hj => ?_, ?_⟩
    · refine subApp (subCons (.head _) (subCons (.tail _ (.head _)) (subCons (.tail _ (.tail _ (.head _))) (subCons (.tail _ (.tail _ (.tail _ (.head _)))) (subCons (.tail _ (.tail _ (.tail _ (.tail _ (.head _))))) fun p hp => up8 p (g7 p hp)))))) (subCons (up8 _ gC) fun p hp => up8 p (g5 p hp))
    · intro p hp c hc
      have hp9 : p ∈ rest9 := (List.mem_cons.mp hp).elim (fun e => by rw [e]; exact gC) (g5 p)
      have hpd : p.1 < qd := lqd p hp9
      (try simp only [List.map_cons, List.mem_cons] at hc)
      rcases hc with e | e | e | e | e | hc
      · rw [e]; exact Nat.ne_of_lt (kst_ltOf lrl.2.2.2.2 p hp9)
      · rw [e]; exact Nat.ne_of_lt (kst_ltOf lsl.2.2.2 p hp9)
      · rw [e]; exact Nat.ne_of_lt (kst_ltOf lb.2.2 p hp9)
      · rw [e]; exact Nat.ne_of_lt (Nat.lt_trans hpd lq)
      · rw [e]; exact Nat.ne_of_lt hpd
      · exact hoC p hp c hc
    · by_cases hjl : j < qs.length
      · rw [List.getElem?_append_left hjl] at hj
        exact ⟨(hqs j a hj).1.mono up9, (hqs j a hj).2⟩
      · have hje : j = qs.length := by
          have := (List.getElem?_eq_some_iff.mp hj).1
          rw [List.length_append] at this
          simp at this; omega
        rw [hje, List.getElem?_append_right (Nat.le_refl _), Nat.sub_self] at hj
        cases hj
        refine ⟨⟨.tail _ (.tail _ (.tail _ (.head _))), .tail _ (.tail _ (.tail _ (.tail _ (.head _)))), .tail _ (.tail _ (.head _)), .tail _ (.head _), .head _⟩, by rw [hje, hql]; exact hv⟩
    · rw [List.reverse_append, List.reverse_singleton, List.singleton_append, List.flatMap_cons]
      exact R9
  case qdone1 =>
    intro s₂ D ys qc led' h' tk hs N₁ hD hp9
    obtain ⟨hsub, qs, hql, rfl, hqs, hrl⟩ := hp9
    obtain ⟨a0, a1, rfl⟩ := len2 hql
    obtain ⟨hh, rfl⟩ := hs
    unfold finE
    intro F₁
    have q0 := hqs 0 a0 rfl
    have q1 := hqs 1 a1 rfl
    obtain ⟨B1, hB1⟩ : ∃ B1, B1 = (D, listOf (List.toArray [Value.ref a0.q, Value.ref a1.q]) qc) :: led' := ⟨_, rfl⟩
    have R8 := hrl.cons (o := listOf (List.toArray [Value.ref a0.q, Value.ref a1.q]) qc) hD fun p hp => hsub p (hl0 p hp)
    have g8 : ∀ p ∈ led', p ∈ B1 := fun p hp => by rw [hB1]; exact .tail _ hp
    have N3 := News.sub (l' := B1) N₁ (by rw [hB1]; exact fun _ h => h)
    have mD : (D, listOf (List.toArray [Value.ref a0.q, Value.ref a1.q]) qc) ∈ B1 := by rw [hB1]; exact .head _
    rw [← hB1] at R8
    replace mwl := g8 _ (hsub _ mwl)
    replace mch := g8 _ (hsub _ mch)
    replace mP := g8 _ (hsub _ mP)
    replace mpd := g8 _ (hsub _ mpd)
    replace mS := g8 _ (hsub _ mS)
    replace mc0 := g8 _ (hsub _ mc0)
    replace hl0 : ∀ p ∈ led, p ∈ B1 := fun p hp => g8 _ (hsub _ (hl0 p hp))
    replace mrl := hl0 _ hm
    have hq0 := q0.1.mono g8
    have hq1 := q1.1.mono g8
    clear R7 N2 N₁ hB1 g8 hsub hD hqs hrl
    have hchn : ∀ b ∈ [S, wl, P, pd, L0 + 1, 307, 314], b ≠ ch := fun b hb => ((List.pairwise_cons.mp (pw_sel (is := [13, 11, 12, 14, 15, 16, 17, 18]) R8.pw (by decide) (by show ∀ i ∈ _, i < 19; decide))).1 b hb).symm
    have hled : ∀ p ∈ led, p.1 ≠ ch := fun p hp => (R8.new ch (by simp [QA.ord])).elim (fun e => absurd e.symm (hchn 307 (by row_room_at im9))) fun h => h.elim (fun e => absurd e.symm (hchn 314 (by row_room_at im9))) fun h => h p hp
    have h6 : ∀ p ∈ offOf [ch] B1, p.1 ≠ ch := fun p hp e => (mem_offOf.mp hp).2 (List.mem_singleton.mpr e)
    have g1 : ∀ p ∈ B1, p.1 ≠ ch → p ∈ offOf [ch] B1 := fun p hp e => mem_off1 hp e
    have N4 := News.sub (l' := (ch, listOf (List.toArray []) 0) :: offOf [ch] B1) N3 (subCons mch fun p hp => (mem_offOf.mp hp).1)
    have R9 : Rl led ((ch, listOf (List.toArray []) 0) :: offOf [ch] B1) _ := R8.step fun x o ho => if e : x = ch then ⟨listOf (List.toArray []) 0, by subst e; exact .head _⟩ else ⟨o, .tail _ (mem_off1 ho e)⟩
    have hc0 : (L0 + 1, oc) ∈ offOf [ch] B1 := g1 _ mc0 (hchn _ (by row_room_at im9))
    have hP0 := g1 _ mP (hchn P (by row_room_at im9))
    have hpd0 := g1 _ mpd (hchn pd (by row_room_at im9))
    have hrl0 := g1 _ mrl (hled _ hm)
    clear N3
    generalize offOf [ch] B1 = rest0 at N4 R9 h6 g1 hc0 hP0 hpd0 hrl0
    k_steps
    (with_unfolding_all refine' comp_listJ (vs := [.int r0 t0, .int r1 t1]) (nn := rc) (NumJ led B1 ch (D :: ([a0, a1].reverse.flatMap QA.ord ++ [S, wl, ch, P, pd, L0 + 1, 307, 314])) [.int r0 t0, .int r1 t1]) ?qhh ?qF ?qN ?qhl ?qhn ?qh0 ?qhx ?qhkd ?qturn2 ?qdone2)
    case qhh => rfl
    case qF => assumption
    case qN => exact N4
    case qhl => exact .tail _ hrl0
    case qhn => rw [sizeLine_eq]; exact Nat.le_of_ble_eq_true rfl
    case qh0 => exact ⟨0, rest0, [], rfl, h6, g1, rfl, rfl, by first | exact noMem | exact noGet, by first | exact noMem | exact noGet, R9⟩
    case qhx => intro C'; rfl
    case qhkd => intro C'; rfl
    case qturn2 =>
      intro C i v ys _ own h tk h₁ tk₁ oC m₂ E' hv hp9 hl₁ hys hoC hC hNs hx F₁ N₁
      obtain ⟨nc, rest, cs, rfl, hr6, hsub, hcl, hyl, hyv, hcs, hRl⟩ := hp9
      obtain ⟨room, tr, rfl⟩ := pair_int hv
      have hi2 : i < 2 := (List.getElem?_eq_some_iff.mp hv).1
      (try simp only [List.cons_append] at N₁)
      have g6 : ∀ p ∈ rest ++ (C, oC) :: own, p.1 ≠ ch := fun p hp => (List.mem_append.mp hp).elim (hr6 p) fun hp => hoC p hp ch (List.mem_map.mpr ⟨_, .head _, rfl⟩)
      have g7 : ∀ p ∈ rest, p ∈ rest ++ (C, oC) :: own := fun p hp => memL hp
      have gC : (C, oC) ∈ rest ++ (C, oC) :: own := memR (.head _)
      have g5 : ∀ p ∈ own, p ∈ rest ++ (C, oC) :: own := fun p hp => memR (.tail _ hp)
      have mc0' := g7 _ (hsub _ mc0 (hchn _ (by row_room_at im9)))
      have mP' := g7 _ (hsub _ mP (hchn P (by row_room_at im9)))
      have mpd' := g7 _ (hsub _ mpd (hchn pd (by row_room_at im9)))
      generalize rest ++ (C, oC) :: own = rest9 at N₁ g6 g7 gC g5 mc0' mP' mpd'
      (try show wpAny _ _ _ _ _ _)
      k_fold
      k_steps
      refine goOn ?_
      (try k_fold)
      refine' CallSpec.callU (make_one_spec (k := kP) (t := tP) (rest := rest9) (room := room) (tr := tr) (cvs := cs.map fun a => Value.ref a.C) (nc := nc) mP' mpd' g6 (by rw [List.length_map]; omega)) U_make_one_spec ?qhh ?qhf ?qhdp ?qhu ?qB ?qF ?qX ?qN ?qhs ?qT ?qhk ?_
      row_room_at sides9
      intro C9 cd9 hl9 k9 t9 tk9 n9 o1 o2 o3 o4 h' tk' F' N'
      k_steps
      have hmap : (cs ++ [(⟨C9, cd9, hl9, k9, t9, room, tr⟩ : CA)]).map (fun a => Value.ref a.C) = cs.map (fun a => Value.ref a.C) ++ [Value.ref C9] := by rw [List.map_append]; rfl
      have up9 : ∀ p ∈ rest, p ∈ (hl9, listOf (List.toArray []) 0) :: (C9, instObj 31 cd9) :: (cd9, dictOf (cEs k9 t9 room tr hl9 false) 3) :: rest := fun p hp => .tail _ (.tail _ (.tail _ hp))
      have up8 : ∀ p ∈ rest9, p ∈ (ch, listOf (List.toArray (cs.map (fun a => Value.ref a.C) ++ [Value.ref C9])) n9) :: (hl9, listOf (List.toArray []) 0) :: (C9, instObj 31 cd9) :: (cd9, dictOf (cEs k9 t9 room tr hl9 false) 3) :: rest9 := fun p hp => .tail _ (.tail _ (.tail _ (.tail _ hp)))
      have R11 := rlC (oc' := listOf (List.toArray (cs.map (fun a => Value.ref a.C) ++ [Value.ref C9])) n9) (o1 := listOf (List.toArray []) 0) (o2 := instObj 31 cd9) (o3 := dictOf (cEs k9 t9 room tr hl9 false) 3) hRl (fun p hp => .inl (.tail _ (hsub p (hl0 p hp) (hled p hp)))) g7 o4 o1 o2 o3
      refine CEnd.intro F' N' (led' := (ch, listOf (List.toArray (cs.map (fun a => Value.ref a.C) ++ [Value.ref C9])) n9) :: (hl9, listOf (List.toArray []) 0) :: (C9, instObj 31 cd9) :: (cd9, dictOf (cEs k9 t9 room tr hl9 false) 3) :: rest) ?_ hNs ?_ (fun p hp => by rw [List.mem_singleton.mp hp]; exact .tail _ (up9 _ (hsub _ mrl (hled _ hm)))) ⟨n9, _, cs ++ [⟨C9, cd9, hl9, k9, t9, room, tr⟩], by rw [hmap], offHd (Nat.ne_of_gt (Nat.lt_trans o3 (Nat.lt_trans o1 o2))) (offHd (Nat.ne_of_gt (Nat.lt_trans o3 o1)) (offHd (Nat.ne_of_gt o3) hr6)), fun p hp hq => up9 p (hsub p hp hq), by rw [List.length_append, hcl]; rfl, by rw [List.length_append, hyl]; rfl, fun j v hj => ?_, fun j a hj => ?_, ?_⟩
      · refine subApp (subCons (.head _) (subCons (.tail _ (.head _)) (subCons (.tail _ (.tail _ (.head _))) (subCons (.tail _ (.tail _ (.tail _ (.head _)))) fun p hp => up8 p (g7 p hp))))) (subCons (up8 _ gC) fun p hp => up8 p (g5 p hp))
      · intro p hp c hc
        have hp9 : p ∈ rest9 := (List.mem_cons.mp hp).elim (fun e => by rw [e]; exact gC) (g5 p)
        have hpd : p.1 < cd9 := o4 p hp9
        (try simp only [List.map_cons, List.mem_cons] at hc)
        rcases hc with e | e | e | e | hc
        · rw [e]; exact g6 p hp9
        · rw [e]; exact Nat.ne_of_lt (Nat.lt_trans hpd (Nat.lt_trans o1 o2))
        · rw [e]; exact Nat.ne_of_lt (Nat.lt_trans hpd o1)
        · rw [e]; exact Nat.ne_of_lt hpd
        · exact hoC p hp c (.tail _ hc)
      · by_cases hjl : j < ys.length
        · rw [List.getElem?_append_left hjl] at hj
          exact hyv j v hj
        · have hje : j = ys.length := by
            have := (List.getElem?_eq_some_iff.mp hj).1
            rw [List.length_append] at this
            simp at this; omega
          rw [hje, List.getElem?_append_right (Nat.le_refl _), Nat.sub_self] at hj
          cases hj
          refine ⟨tk9, ?_⟩
          rw [List.length_map, hcl, hje, hyl]
      · by_cases hjl : j < cs.length
        · rw [List.getElem?_append_left hjl] at hj
          exact ⟨(hcs j a hj).1.mono up9, (hcs j a hj).2⟩
        · have hje : j = cs.length := by
            have := (List.getElem?_eq_some_iff.mp hj).1
            rw [List.length_append] at this
            simp at this; omega
          rw [hje, List.getElem?_append_right (Nat.le_refl _), Nat.sub_self] at hj
          cases hj
          exact ⟨⟨.tail _ (.head _), .tail _ (.tail _ (.head _)), .head _⟩, by rw [hje, hcl]; exact hv⟩
      · rw [List.reverse_append, List.reverse_singleton, List.singleton_append, List.flatMap_cons]
        exact R11
    case qdone2 =>
      intro s₂ D2 ys nc2 led' h' tk hs N₁ hD2 hp9
      obtain ⟨nc, rest, cs, rfl, hr6, hsub, hcl, hyl, hyv, hcs, hRl⟩ := hp9
      obtain ⟨b0, b1, rfl⟩ := len2 hcl
      obtain ⟨n0, n1, rfl⟩ := ints2 hyl hyv
      obtain ⟨hh, rfl⟩ := hs
      unfold finE
      intro F₁
      have p0 := hcs 0 b0 rfl
      have p1 := hcs 1 b1 rfl
      have h0r : ∀ p ∈ led, p ∈ rest := fun p hp => hsub p (hl0 p hp) (hled p hp)
      have R12 := hRl.cons (o := listOf (List.toArray [Value.int 0 n0, Value.int 1 n1]) nc2) hD2 (fun p hp => .tail _ (h0r p hp))
      obtain ⟨B2, hB2⟩ : ∃ B2, B2 = (D2, listOf (List.toArray [Value.int 0 n0, Value.int 1 n1]) nc2) :: (ch, listOf (List.toArray [Value.ref b0.C, Value.ref b1.C]) nc) :: rest := ⟨_, rfl⟩
      have g8 : ∀ p ∈ rest, p ∈ B2 := fun p hp => by rw [hB2]; exact .tail _ (.tail _ hp)
      have N5 := News.sub (l' := B2) N₁ (by rw [hB2]; exact fun _ h => h)
      replace R12 : Rl led B2 (D2 :: ([b0, b1].reverse.flatMap CA.ord ++ (D :: ([a0, a1].reverse.flatMap QA.ord ++ [S, wl, ch, P, pd, L0 + 1, 307, 314])))) := by rw [hB2]; exact R12
      have zD2 : (D2, listOf (List.toArray [Value.int 0 n0, Value.int 1 n1]) nc2) ∈ B2 := by rw [hB2]; exact .head _
      have zch : (ch, listOf (List.toArray [Value.ref b0.C, Value.ref b1.C]) nc) ∈ B2 := by rw [hB2]; exact .tail _ (.head _)
      have hn12 : ∀ b ∈ [D2, b1.hl, b1.C, b1.cd, b0.hl, b0.C, b0.cd, D, a1.rl, a1.sl, a1.b, a1.q, a1.qd, a0.rl, a0.sl, a0.b, a0.q, a0.qd, S, wl, P, pd, L0 + 1, 307, 314], b ≠ ch := fun b hb => ((List.pairwise_cons.mp (pw_sel (is := [20, 0, 1, 2, 3, 4, 5, 6, 7, 8, 9, 10, 11, 12, 13, 14, 15, 16, 17, 18, 19, 21, 22, 23, 24, 25]) R12.pw (by decide) (by show ∀ i ∈ _, i < 26; decide))).1 b hb).symm
      have up : ∀ {x : Addr} {o : Obj}, (x, o) ∈ B1 → x ≠ ch → (x, o) ∈ B2 := fun h e => g8 _ (hsub _ h e)
      have zD := up mD (hn12 D (by row_room_at im9))
      have zwl := up mwl (hn12 wl (by row_room_at im9))
      have zP := up mP (hn12 P (by row_room_at im9))
      have zpd := up mpd (hn12 pd (by row_room_at im9))
      have zS := up mS (hn12 S (by row_room_at im9))
      have zq0 : QMade B2 a0 := ⟨up hq0.q (hn12 _ (by row_room_at im9)), up hq0.qd (hn12 _ (by row_room_at im9)), up hq0.b (hn12 _ (by row_room_at im9)), up hq0.s (hn12 _ (by row_room_at im9)), up hq0.r (hn12 _ (by row_room_at im9))⟩
      have zq1 : QMade B2 a1 := ⟨up hq1.q (hn12 _ (by row_room_at im9)), up hq1.qd (hn12 _ (by row_room_at im9)), up hq1.b (hn12 _ (by row_room_at im9)), up hq1.s (hn12 _ (by row_room_at im9)), up hq1.r (hn12 _ (by row_room_at im9))⟩
      have zc0 := p0.1.mono g8
      have zc1 := p1.1.mono g8
      have zled : ∀ p ∈ led, p ∈ B2 := fun p hp => g8 _ (h0r p hp)
      have hSo : ∀ p ∈ offOf [S] B2, p.1 ≠ S := fun p hp e => (mem_offOf.mp hp).2 (List.mem_singleton.mpr e)
      have N6 := News.sub (l' := (S, oS) :: offOf [S] B2) N5 (subCons zS fun p hp => (mem_offOf.mp hp).1)
      have hrS : ∀ p ∈ B2, p.1 ≠ S → p ∈ offOf [S] B2 := fun p hp e => mem_off1 hp e
      clear N5 N₁ hRl hr6 hsub hD2 hB2 N4 R9 h6 g1 hc0 hP0 hpd0 hrl0 mwl mch mP mpd mS mc0 mrl hq0 hq1 mD
      generalize offOf [S] B2 = restS at N6 hSo hrS
      k_steps
      rename_i AL _ _ lAL _ SD _ oSD _ _ loSD _ _ hiSD _ lSD _ oS9 _ _ hdS9 _ kF9 kN9 _ _
      obtain ⟨A, M, HS, hAS, hls, hro⟩ := scene_made (oS0 := oS) hK tH tW R12 zD2 zch zD zwl zP zpd zq0 zq1 zc0 zc1 zled q0.2 q1.2 p0.2 p1.2 hrS lAL lSD loSD hiSD hdS9 rfl (News.fn kN9)
      have hSl : ∀ p ∈ led, p.1 ≠ S := fun p hp => (R12.new S (by simp [QA.ord, CA.ord])).elim (fun e => absurd e (pwIdx9 R12.pw).1) fun h => h.elim (fun e => absurd e (pwIdx9 R12.pw).2) fun h => h p hp
      exact ret _ _ _ _ (by assumption) (by assumption) ⟨A, M, HS, by rw [hAS], fun p hp => hls p hp (hSl p hp), hro⟩
end
section
open PySem PySem.W PySem.Calls PyProof.Rows PyProof.V
set_option maxRecDepth 100000
theorem forget_none {q : QSt} : forget none q = q := rfl
theorem keepS_idem {o : Option Int} {l : List Wt} : keepS o (keepS o l) = keepS o l := by
  cases o with
  | none => rfl
  | some t => simp only [keepS, List.filter_filter, Bool.and_self]
theorem forget_idem {o : Option Int} {q : QSt} : forget o (forget o q) = forget o q := by simp only [forget, keepS_idem]
theorem Good.two {es : List Ent} (G : Good es) {x p : Ent} (hx : x ∈ es) (hp : p ∈ es) (hne : x ≠ p) (hg : x.g = p.g) : x.s = p.s ∧ p.s.isSome = true := by
  have hs := G.sel x hx p hp hg
  refine ⟨hs, ?_⟩
  cases hps : p.s with
  | some t => rfl
  | none =>
    obtain ⟨l₁, l₂, rfl⟩ := List.append_of_mem hp
    obtain ⟨a, b⟩ := G.alone hps
    rcases List.mem_append.mp hx with h | h
    · exact absurd hg (a x h)
    · rcases List.mem_cons.mp h with h | h
      · exact absurd h hne
      · exact absurd hg (b x h)
/-- one goes on: what the other queues keep -/
theorem view_step {es : List Ent} (G : Good es) {p : Ent} (hp : p ∈ es) {q : Ent → Bool} (hq : q p = false) :
    keepS p.s ((es.filter q).map toW) = ((es.filter fun x => x.g != p.g).filter q).map toW := by
  cases hs : p.s with
  | none =>
    show (es.filter q).map toW = _
    rw [List.filter_filter]
    congr 1
    refine List.filter_congr fun x hx => ?_
    by_cases hqx : q x = true
    · have hne : x ≠ p := fun e => by rw [e, hq] at hqx; cases hqx
      have : x.g ≠ p.g := fun e => by
        have := (G.two hx hp hne e).2
        rw [hs] at this; cases this
      rw [hqx, bne_iff_ne.mpr this]; rfl
    · rw [Bool.not_eq_true] at hqx
      rw [hqx]; rfl
  | some t =>
    rw [← map_keepS, List.filter_filter, List.filter_filter]
    congr 1
    refine List.filter_congr fun x hx => ?_
    rw [G.gsel hp hs hx, Bool.and_comm]
theorem view_other {es : List Ent} (G : Good es) {p : Ent} (hp : p ∈ es) {j : Int} (hj : p.n ≠ j) {room : Int} {held : List Value} {cl : Bool} : forget p.s (qv es j room held cl) = qv (es.filter fun x => x.g != p.g) j room held cl := by
  have h1 : entQ sSend j p = false := by simp [entQ, hj]
  have h2 : entQ sTake j p = false := by simp [entQ, hj]
  simp only [forget, qv, view_step G hp h1, view_step G hp h2]
-- what the law does with those that are woken
noncomputable abbrev Wk := Ent × PyData
noncomputable def wrow (p : Wk) : WRow := wok (toW p.1) p.2
noncomputable def prow (p : Wk) : Row := ⟨p.1.g, p.1.c, p.2⟩
noncomputable def offG (ps : List Wk) (es : List Ent) : List Ent := es.filter fun x => ps.all fun p => x.g != p.1.g
theorem offG_cons {p : Wk} {ps : List Wk} {es : List Ent} : offG (p :: ps) es = offG ps (es.filter fun x => x.g != p.1.g) := by
  unfold offG
  rw [List.filter_filter]
  refine List.filter_congr fun x _ => ?_
  simp only [List.all_cons, Bool.and_comm]
theorem offG_nil {es : List Ent} : offG [] es = es := by unfold offG; exact List.filter_eq_self.mpr fun _ _ => rfl
theorem mem_offG {ps : List Wk} {es : List Ent} {x : Ent} : x ∈ offG ps es ↔ x ∈ es ∧ ∀ p ∈ ps, x.g ≠ p.1.g := by
  unfold offG
  rw [List.mem_filter, List.all_eq_true]
  simp
structure WkOk (es : List Ent) (ps : List Wk) : Prop where
  mem : ∀ p ∈ ps, p.1 ∈ es
  g : ps.Pairwise fun a b => a.1.g ≠ b.1.g
theorem WkOk.tail {es : List Ent} {p : Wk} {ps : List Wk} (h : WkOk es (p :: ps)) : WkOk (es.filter fun x => x.g != p.1.g) ps := by
  obtain ⟨h1, h2⟩ := List.pairwise_cons.mp h.g
  exact ⟨fun x hx => List.mem_filter.mpr ⟨h.mem x (.tail _ hx), by simpa using (h1 x hx).symm⟩, h2⟩
theorem views_other {j : Int} {room : Int} {held : List Value} {cl : Bool} : ∀ {ps : List Wk} {es : List Ent}, Good es → WkOk es ps → (∀ p ∈ ps, p.1.n ≠ j) → ps.foldl (fun q p => forget p.1.s q) (qv es j room held cl) = qv (offG ps es) j room held cl
  | [], es, _, _, _ => by rw [offG_nil]; rfl
  | p :: ps, es, G, h, hj => by
    rw [List.foldl_cons, view_other G (h.mem p (.head _)) (hj p (.head _)), offG_cons]
    exact views_other (G.filter _) h.tail fun x hx => hj x (.tail _ hx)
theorem selAt_drop {t t' : Int} {sels : List (Int × List CaseD)} (h : t' ≠ t) : selAt (dropSel t sels) t' = selAt sels t' := by
  unfold selAt dropSel
  congr 1
  induction sels with
  | nil => rfl
  | cons s sels ih =>
    rw [List.filter_cons]
    by_cases h1 : s.1 = t
    · have h2 : ¬ s.1 = t' := fun e => h (e.symm.trans h1)
      rw [if_neg (by simpa using h1), ih, List.find?_cons, decide_eq_false h2]
    · rw [if_pos (by simpa using h1), List.find?_cons, List.find?_cons, ih]
theorem selAt_drop_same {t : Int} {sels : List (Int × List CaseD)} : selAt (dropSel t sels) t = none := by
  unfold selAt dropSel
  rw [List.find?_eq_none.mpr]
  · rfl
  · intro s hs
    have := (List.mem_filter.mp hs).2
    simpa using this
theorem selAt_mem {t : Int} {sels : List (Int × List CaseD)} {cs : List CaseD} (h : selAt sels t = some cs) : (t, cs) ∈ sels := by
  unfold selAt at h
  obtain ⟨s, hs, rfl⟩ := Option.map_eq_some_iff.mp h
  have h1 := List.find?_some hs
  have h2 := List.mem_of_find?_eq_some hs
  have : s.1 = t := by simpa using h1
  rw [← this]; exact h2
theorem deq_q {t : Int} : ∀ {cs : List CaseD} {st : St} {j : Int}, (deqSt t st cs).q j = if cs.any (fun c => c.n == some j) then forget (some t) (st.q j) else st.q j
  | [], st, j => rfl
  | c :: cs, st, j => by
    have ih := deq_q (t := t) (cs := cs) (st := deqStep t st c) (j := j)
    have e : deqSt t st (c :: cs) = deqSt t (deqStep t st c) cs := rfl
    rw [e, ih, List.any_cons]
    have hq : (deqStep t st c).q j = if c.n == some j then forget (some t) (st.q j) else st.q j := by
      unfold deqStep
      cases hn : c.n with
      | none => rfl
      | some n =>
        show setI st.q n _ j = _
        unfold setI
        by_cases h : j = n
        · subst h; simp
        · have : ¬ (some n == some j) = true := by simpa using fun e : n = j => h e.symm
          rw [if_neg h, if_neg this]
    rw [hq]
    cases h1 : (c.n == some j) <;> cases h2 : cs.any (fun c => c.n == some j) <;> simp [forget_idem]
structure Cov (st : St) (es : List Ent) : Prop where
  sub : ∀ j, Two j → ∀ y ∈ (st.q j).snd ++ (st.q j).rcv, ∃ e ∈ es, e.n = j ∧ y.s = e.s
  sel : ∀ t cs, selAt st.sels t = some cs → ∀ e ∈ es, e.s = some t → ∃ c ∈ cs, c.n = some e.n
theorem forget_id {t : Int} {q : QSt} (h : ∀ y ∈ q.snd ++ q.rcv, y.s ≠ some t) : forget (some t) q = q := by
  have h1 : keepS (some t) q.snd = q.snd := List.filter_eq_self.mpr fun y hy => by simpa using h y (List.mem_append_left _ hy)
  have h2 : keepS (some t) q.rcv = q.rcv := List.filter_eq_self.mpr fun y hy => by simpa using h y (List.mem_append_right _ hy)
  unfold forget
  rw [h1, h2]
theorem Cov.step_q {st : St} {es : List Ent} (h : Cov st es) {p : Wk} (hok : HearAt st (wrow p)) {j : Int} (hj : Two j) : (hearStep st (wrow p)).q j = forget p.1.s (st.q j) := by
  have hs : (wrow p).s = p.1.s := rfl
  unfold hearStep
  cases he : p.1.s with
  | none => rw [hs, he]; rfl
  | some t =>
    obtain ⟨cs, hcs, _⟩ := hok.sel t (hs.trans he)
    rw [hs, he]
    simp only [hcs, Option.getD_some]
    rw [deq_q]
    split
    · rfl
    · rename_i hc
      refine (forget_id fun y hy e => hc ?_).symm
      obtain ⟨e', he', hn', hs'⟩ := h.sub j hj y hy
      obtain ⟨c, hcm, hcn⟩ := h.sel t cs hcs e' he' (hs' ▸ e)
      exact List.any_eq_true.mpr ⟨c, hcm, by rw [hcn, hn']; simp⟩
theorem hearStep_sels {st : St} {p : Wk} : (hearStep st (wrow p)).sels = (match p.1.s with | none => st.sels | some t => dropSel t st.sels) := by
  have hs : (wrow p).s = p.1.s := rfl
  unfold hearStep
  rw [hs]
  cases p.1.s with
  | none => rfl
  | some t => exact deq_sels
theorem deq_same {t : Int} : ∀ {cs : List CaseD} {st : St}, (deqSt t st cs).es = st.es ∧ (deqSt t st cs).held = st.held ∧ (deqSt t st cs).cl = st.cl ∧ (deqSt t st cs).room = st.room
  | [], _ => ⟨rfl, rfl, rfl, rfl⟩
  | c :: cs, st => by
    have h := deq_same (t := t) (cs := cs) (st := deqStep t st c)
    have e : deqSt t st (c :: cs) = deqSt t (deqStep t st c) cs := rfl
    have h2 : (deqStep t st c).es = st.es ∧ (deqStep t st c).held = st.held ∧ (deqStep t st c).cl = st.cl ∧ (deqStep t st c).room = st.room := by
      unfold deqStep; split <;> exact ⟨rfl, rfl, rfl, rfl⟩
    rw [e]
    exact ⟨h.1.trans h2.1, h.2.1.trans h2.2.1, h.2.2.1.trans h2.2.2.1, h.2.2.2.trans h2.2.2.2⟩
theorem step_same {st : St} {x : WRow} : (hearStep st x).es = st.es ∧ (hearStep st x).held = st.held ∧ (hearStep st x).cl = st.cl ∧ (hearStep st x).room = st.room := by
  unfold hearStep
  split
  · exact ⟨rfl, rfl, rfl, rfl⟩
  · exact deq_same (st := { st with sels := _ })
theorem hear_same : ∀ {rows : List WRow} {st : St}, (hearSt st rows).es = st.es ∧ (hearSt st rows).held = st.held ∧ (hearSt st rows).cl = st.cl ∧ (hearSt st rows).room = st.room
  | [], _ => ⟨rfl, rfl, rfl, rfl⟩
  | x :: xs, st => by
    have h := hear_same (rows := xs) (st := hearStep st x)
    have h2 := step_same (st := st) (x := x)
    exact ⟨h.1.trans h2.1, h.2.1.trans h2.2.1, h.2.2.1.trans h2.2.2.1, h.2.2.2.trans h2.2.2.2⟩
theorem keepS_sub {o : Option Int} {l : List Wt} {y : Wt} (h : y ∈ keepS o l) : y ∈ l := keepS_mem y h
theorem Cov.step {st : St} {es : List Ent} (h : Cov st es) {p : Wk} (hok : HearAt st (wrow p)) : Cov (hearStep st (wrow p)) es := by
  refine ⟨fun j hj y hy => ?_, fun t cs hcs => ?_⟩
  · rw [h.step_q hok hj] at hy
    refine h.sub j hj y ?_
    rcases List.mem_append.mp hy with hy | hy
    · exact List.mem_append_left _ (keepS_sub hy)
    · exact List.mem_append_right _ (keepS_sub hy)
  · rw [hearStep_sels] at hcs
    cases hs : p.1.s with
    | none => rw [hs] at hcs; exact h.sel t cs hcs
    | some t' =>
      rw [hs] at hcs
      by_cases e : t = t'
      · subst e; rw [selAt_drop_same] at hcs; cases hcs
      · rw [selAt_drop e] at hcs; exact h.sel t cs hcs
theorem hear_q : ∀ {ps : List Wk} {st : St} {es : List Ent}, Cov st es → HearOk st (ps.map wrow) → ∀ {j : Int}, Two j → (hearSt st (ps.map wrow)).q j = ps.foldl (fun q p => forget p.1.s q) (st.q j)
  | [], _, _, _, _, _, _ => rfl
  | p :: ps, st, es, h, hok, j, hj => by
    have e : hearSt st ((p :: ps).map wrow) = hearSt (hearStep st (wrow p)) (ps.map wrow) := rfl
    rw [e, hear_q (h.step hok.1) hok.2 hj, h.step_q hok.1 hj]
    rfl
/-- the words of a select stand ready for those that are woken -/
structure SelsOk (sels : List (Int × List CaseD)) (ps : List Wk) : Prop where
  at' : ∀ p ∈ ps, ∀ t, p.1.s = some t → ∃ cs, selAt sels t = some cs
  two : ∀ s ∈ sels, ∀ c ∈ s.2, ∀ n, c.n = some n → Two n
  ne : ps.Pairwise fun a b => a.1.s = b.1.s → a.1.s = none
theorem wrow_at {p : Wk} : (wrow p).c.isSome = (wrow p).s.isSome := by
  show (p.1.s.map fun _ => p.1.c).isSome = p.1.s.isSome
  cases p.1.s <;> rfl
theorem hear_ok : ∀ {ps : List Wk} {st : St}, SelsOk st.sels ps → HearOk st (ps.map wrow)
  | [], _, _ => trivial
  | p :: ps, st, h => by
    refine ⟨⟨fun t ht => ?_, wrow_at⟩, hear_ok ?_⟩
    · obtain ⟨cs, hcs⟩ := h.at' p (.head _) t ht
      exact ⟨cs, hcs, fun c hc n hn => h.two _ (selAt_mem hcs) c hc n hn⟩
    · obtain ⟨h1, h2⟩ := List.pairwise_cons.mp h.ne
      refine ⟨fun x hx t ht => ?_, fun s hs => ?_, h2⟩
      · obtain ⟨cs, hcs⟩ := h.at' x (.tail _ hx) t ht
        refine ⟨cs, ?_⟩
        rw [hearStep_sels]
        cases hps : p.1.s with
        | none => exact hcs
        | some t' =>
          have hne : t ≠ t' := fun e => by
            have := h1 x hx (by rw [hps, ht, e])
            rw [hps] at this; cases this
          show selAt (dropSel t' st.sels) t = some cs
          rw [selAt_drop hne]; exact hcs
      · rw [hearStep_sels] at hs
        revert hs
        cases p.1.s with
        | none => exact fun hs => h.two s hs
        | some t' => exact fun hs => h.two s (List.mem_filter.mp hs).1
theorem hear_selAt : ∀ {ps : List Wk} {st : St} {t : Int}, (∀ p ∈ ps, p.1.s ≠ some t) → selAt (hearSt st (ps.map wrow)).sels t = selAt st.sels t
  | [], _, _, _ => rfl
  | p :: ps, st, t, h => by
    have e : hearSt st ((p :: ps).map wrow) = hearSt (hearStep st (wrow p)) (ps.map wrow) := rfl
    rw [e, hear_selAt fun x hx => h x (.tail _ hx), hearStep_sels]
    cases hps : p.1.s with
    | none => rfl
    | some t' => exact selAt_drop fun e => h p (.head _) (by rw [hps, e])
theorem hear_selSub : ∀ {ps : List Wk} {st : St}, ∀ s ∈ (hearSt st (ps.map wrow)).sels, s ∈ st.sels
  | [], _, s, hs => hs
  | p :: ps, st, s, hs => by
    have := hear_selSub (ps := ps) (st := hearStep st (wrow p)) s hs
    rw [hearStep_sels] at this
    revert this
    cases p.1.s with
    | none => exact id
    | some t' => exact fun h => (List.mem_filter.mp h).1
end
section
open PySem PySem.W PySem.Calls PyProof.Rows PyProof.V
set_option maxRecDepth 100000
structure Inv (st : St) : Prop where
  good : Good st.es
  c0 : ∀ e ∈ st.es, e.s = none → e.c = 0
  nt : ∀ e ∈ st.es, Two e.n
  view : ∀ n, Two n → st.q n = qv st.es n (st.room n) (st.held n) (st.cl n)
  asl : ∀ e ∈ st.es, e.g ∈ st.asl
  nd : st.asl.Nodup
  cov : ∀ e ∈ st.es, ∀ t, e.s = some t → ∃ cs, selAt st.sels t = some cs ∧ ∀ e' ∈ st.es, e'.s = some t → ∃ c ∈ cs, c.n = some e'.n
  two : ∀ s ∈ st.sels, ∀ c ∈ s.2, ∀ n, c.n = some n → Two n
  sce : ∀ e ∈ st.es, Sc e.v
  sch : ∀ n, Two n → ∀ v ∈ st.held n, Sc v
structure Sz (k : Nat) (st : St) : Prop where
  es : st.es.length ≤ 3 * k
  held : ∀ n, Two n → (st.held n).length ≤ k
  sels : st.sels.length ≤ k
  asl : st.asl.length ≤ k
  keys : ∀ s ∈ st.sels, s.1 < (k : Int)
theorem wake_asl_mem : ∀ {rows : List Row} {asl : List Int} {g : Int}, g ∈ asl → (∀ r ∈ rows, g ≠ r.g) → g ∈ wokeAsl asl rows
  | [], _, _, h, _ => h
  | r :: rs, asl, g, h, hn => wake_asl_mem (rows := rs) ((List.mem_erase_of_ne (hn r (.head _))).mpr h) fun x hx => hn x (.tail _ hx)
theorem wake_asl_nd : ∀ {rows : List Row} {asl : List Int}, asl.Nodup → (wokeAsl asl rows).Nodup
  | [], _, h => h
  | r :: rs, asl, h => wake_asl_nd (rows := rs) (h.erase r.g)
theorem wake_asl_sub : ∀ {rows : List Row} {asl : List Int} {g : Int}, g ∈ wokeAsl asl rows → g ∈ asl
  | [], _, _, h => h
  | r :: rs, asl, g, h => List.mem_of_mem_erase (wake_asl_sub (rows := rs) (asl := asl.erase r.g) h)
theorem wake_ok : ∀ {rows : List Row} {asl : List Int}, (∀ r ∈ rows, r.g ∈ asl) → rows.Pairwise (fun a b => a.g ≠ b.g) → WakeOk asl rows
  | [], _, _, _ => trivial
  | r :: rs, asl, h, hd => by
    obtain ⟨h1, h2⟩ := List.pairwise_cons.mp hd
    exact ⟨h r (.head _), wake_ok (fun x hx => (List.mem_erase_of_ne (h1 x hx).symm).mpr (h x (.tail _ hx))) h2⟩
theorem WkOk.dist {es : List Ent} {ps : List Wk} (h : WkOk es ps) : (ps.map prow).Pairwise fun a b => a.g ≠ b.g := List.pairwise_map.mpr h.g
theorem Inv.selsOk {st : St} (I : Inv st) {ps : List Wk} (h : WkOk st.es ps) : SelsOk st.sels ps := by
  refine ⟨fun p hp t ht => let ⟨cs, hcs, _⟩ := I.cov p.1 (h.mem p hp) t ht; ⟨cs, hcs⟩, I.two, ?_⟩
  refine List.Pairwise.imp_of_mem ?_ h.g
  intro a b ha hb hg hs
  cases hsa : a.1.s with
  | none => rfl
  | some t => exact absurd (I.good.gs a.1 (h.mem a ha) b.1 (h.mem b hb) hs (by rw [hsa]; rfl)) hg
theorem Inv.covOf {st : St} (I : Inv st) {mid : St} (hsels : mid.sels = st.sels) (hsub : ∀ j, Two j → ∀ y ∈ (mid.q j).snd ++ (mid.q j).rcv, y ∈ (st.q j).snd ++ (st.q j).rcv) : Cov mid st.es := by
  refine ⟨fun j hj y hy => ?_, fun t cs hcs e he ht => ?_⟩
  · have hy' := hsub j hj y hy
    rw [I.view j hj] at hy'
    rcases List.mem_append.mp hy' with h | h
    all_goals
      obtain ⟨e, he, rfl⟩ := List.mem_map.mp h
      obtain ⟨he1, he2⟩ := List.mem_filter.mp he
      simp only [entQ, Bool.and_eq_true, decide_eq_true_eq] at he2
      exact ⟨e, he1, he2.2, rfl⟩
  · rw [hsels] at hcs
    obtain ⟨cs', hcs', hc⟩ := I.cov e he t ht
    rw [hcs] at hcs'
    cases hcs'
    exact hc e he ht
theorem Inv.hearOk {st : St} (I : Inv st) {ps : List Wk} (h : WkOk st.es ps) {mid : St} (hsels : mid.sels = st.sels) : HearOk mid (ps.map wrow) := hear_ok (by rw [hsels]; exact I.selsOk h)
theorem Inv.woken {st : St} (I : Inv st) {ps : List Wk} (h : WkOk st.es ps) {mid : St} (hes : mid.es = offG ps st.es) (hsels : mid.sels = st.sels)
    (hq : ∀ j, Two j → ps.foldl (fun q p => forget p.1.s q) (mid.q j) = qv (offG ps st.es) j (mid.room j) (mid.held j) (mid.cl j))
    (hsub : ∀ j, Two j → ∀ y ∈ (mid.q j).snd ++ (mid.q j).rcv, y ∈ (st.q j).snd ++ (st.q j).rcv) (hheld : ∀ n, Two n → ∀ v ∈ mid.held n, Sc v) {fin : St}
    (f1 : fin.es = (hearSt mid (ps.map wrow)).es) (f2 : fin.q = (hearSt mid (ps.map wrow)).q) (f3 : fin.sels = (hearSt mid (ps.map wrow)).sels) (f4 : fin.held = (hearSt mid (ps.map wrow)).held) (f5 : fin.room = (hearSt mid (ps.map wrow)).room) (f6 : fin.cl = (hearSt mid (ps.map wrow)).cl) (f7 : fin.asl = wokeAsl st.asl (ps.map prow)) : Inv fin := by
  obtain ⟨s1, s2, s3, s4⟩ := hear_same (rows := ps.map wrow) (st := mid)
  have hE : fin.es = offG ps st.es := f1.trans (s1.trans hes)
  have hsub2 : ∀ e ∈ fin.es, e ∈ st.es := fun e he => by rw [hE] at he; exact (mem_offG.mp he).1
  have hnew : ∀ e ∈ fin.es, ∀ p ∈ ps, e.g ≠ p.1.g := fun e he => by rw [hE] at he; exact (mem_offG.mp he).2
  refine ⟨?_, fun e he => I.c0 e (hsub2 e he), fun e he => I.nt e (hsub2 e he), fun n hn => ?_, fun e he => ?_, ?_, fun e he t ht => ?_, fun s hs => ?_, fun e he => I.sce e (hsub2 e he), fun n hn => ?_⟩
  · rw [hE]; exact I.good.filter _
  · rw [f2, hear_q (I.covOf hsels hsub) (I.hearOk h hsels) hn, hq n hn, hE, f4, f5, f6, s2, s3, s4]
  · rw [f7]
    refine wake_asl_mem (I.asl e (hsub2 e he)) fun r hr => ?_
    obtain ⟨p, hp, rfl⟩ := List.mem_map.mp hr
    exact hnew e he p hp
  · rw [f7]; exact wake_asl_nd I.nd
  · obtain ⟨cs, hcs, hc⟩ := I.cov e (hsub2 e he) t ht
    refine ⟨cs, ?_, fun e' he' => hc e' (hsub2 e' he')⟩
    rw [f3, hear_selAt fun p hp hps => ?_, hsels]
    · exact hcs
    · exact hnew e he p hp (I.good.gs e (hsub2 e he) p.1 (h.mem p hp) (ht.trans hps.symm) (by rw [ht]; rfl))
  · rw [f3] at hs
    have := hear_selSub s hs
    rw [hsels] at this
    exact I.two s this
  · rw [f4, s2]; exact hheld n hn
theorem offG_len {ps : List Wk} {es : List Ent} : (offG ps es).length ≤ es.length := List.length_filter_le _ _
theorem hRow_eq {p : Wk} (h : p.1.s = none → p.1.c = 0) : hRow (wrow p) = prow p := by
  show (⟨p.1.g, (p.1.s.map fun _ => p.1.c).getD 0, p.2⟩ : Row) = ⟨p.1.g, p.1.c, p.2⟩
  cases hs : p.1.s with
  | none => rw [h hs]; rfl
  | some t => rfl
theorem hRows_eq {ps : List Wk} (h : ∀ p ∈ ps, p.1.s = none → p.1.c = 0) : (ps.map wrow).map hRow = ps.map prow := by
  rw [List.map_map]
  exact List.map_congr_left fun p hp => hRow_eq (h p hp)
/-- what a deed that need not wait comes to, on both sides -/
structure EffD (st : St) (n : Int) (D : Eff) (E : QEff) (ps : List Wk) : Prop where
  ok : WkOk st.es ps
  len : ps.length ≤ 1
  rows : D.rows = ps.map prow
  es : D.es = offG ps st.es
  wrows : E.rows = ps.map wrow
  told : toldD E.first = D.told
  fsc : FSc E.first
  tw : WOk D.told
  rw : ∀ p ∈ ps, WOk p.2
  q : ps.foldl (fun q p => forget p.1.s q) E.st = qv (offG ps st.es) n (st.room n) D.held (st.cl n)
  sub : ∀ y ∈ E.st.snd ++ E.st.rcv, y ∈ (st.q n).snd ++ (st.q n).rcv
  sch : ∀ u ∈ D.held, Sc u
  hlen : D.held.length ≤ (st.held n).length + 1
  buf : E.st.buf = D.held
  pn : ∀ p ∈ ps, p.1.n = n
  ls : E.st.snd.length ≤ (st.q n).snd.length
  lr : E.st.rcv.length ≤ (st.q n).rcv.length
noncomputable abbrev EffM (st : St) (kd : Str) (n : Int) (v : Value) (E : QEff) (ps : List Wk) : Prop := EffD st n (doNow kd (st.cl n) (st.held n) st.es n v) E ps
theorem wkOne {es : List Ent} {w : Ent} {d : PyData} (h : w ∈ es) : WkOk es [(w, d)] := ⟨fun p hp => by rw [List.mem_singleton.mp hp]; exact h, .cons noMem .nil⟩
theorem offOne {es : List Ent} {w : Ent} {d : PyData} : offG [(w, d)] es = es.filter fun x => x.g != w.g := by rw [offG_cons, offG_nil]
theorem wkNil {es : List Ent} : WkOk es [] := ⟨noMem, .nil⟩
theorem find_n {es : List Ent} {kd : Str} {n : Int} {w : Ent} (h : es.find? (entQ kd n) = some w) : w.n = n := by
  have := List.find?_some h
  simp only [entQ, Bool.and_eq_true, decide_eq_true_eq] at this
  exact this.2
theorem eff_send {st : St} (I : Inv st) {n : Int} (hn : Two n) {v : Value} (hv : Sc v) {x : Wt} (hx : x.v = v) (hm : mayDo st sSend n = true) : ∃ ps, EffM st sSend n v (qOffer (st.q n) x) ps := by
  have hd : doNow sSend (st.cl n) (st.held n) st.es n v = sendNow (st.cl n) (st.held n) st.es n v := if_pos rfl
  have hview := I.view n hn
  have hmy : maySend (st.cl n) (st.held n) (st.room n) st.es n = true := by rw [mayDo, if_pos rfl] at hm; exact hm
  cases hcl : st.cl n with
  | true =>
    have e1 : sendNow true (st.held n) st.es n v = ⟨st.held n, st.es, panicD sClosed, []⟩ := rfl
    have e2 : qOffer (st.q n) x = ⟨st.q n, .panic sClosed, []⟩ := by rw [qOffer, if_pos (by rw [hview]; exact hcl)]
    refine ⟨[], ?_⟩
    rw [EffM, hd, hcl, e1, e2]
    constructor
    all_goals (try rw [hcl])
    all_goals (try exact wkNil)
    · exact Nat.zero_le _
    · rfl
    · exact offG_nil.symm
    · rfl
    · rfl
    · trivial
    · exact .panic (.inl rfl)
    · exact noMem
    · rw [offG_nil]; rw [hcl] at hview; exact hview
    · exact fun _ h => h
    · exact I.sch n hn
    · exact Nat.le_succ _
    · rw [hview]; rfl
    all_goals first | exact rfl | exact Nat.le_refl _ | exact fun p hp => absurd hp List.not_mem_nil | (intro p hp; rw [List.mem_singleton.mp hp]; exact find_n hf) | (rw [hrc]; exact Nat.le_succ _) | (rw [hsn]; exact Nat.le_succ _)
  | false =>
    have hqcl : (st.q n).cl = false := by rw [hview]; exact hcl
    cases hf : st.es.find? (entQ sTake n) with
    | none =>
      have hrc : (st.q n).rcv = [] := by rw [hview]; exact filter_none hf
      have hlt : ((st.held n).length : Int) < st.room n := by
        rw [maySend, hcl, hf] at hmy
        simpa using hmy
      have e1 : sendNow false (st.held n) st.es n v = ⟨st.held n ++ [v], st.es, sentD, []⟩ := by
        unfold sendNow; rw [if_neg (by decide), hf]
      have e2 : qOffer (st.q n) x = ⟨{ st.q n with buf := (st.q n).buf ++ [x.v] }, .done, []⟩ := by
        rw [qOffer, if_neg (by rw [hqcl]; decide), hrc]
        simp only
        rw [if_pos (by rw [hview]; exact hlt), hrc]
      refine ⟨[], ?_⟩
      rw [EffM, hd, hcl, e1, e2]
      constructor
      all_goals (try rw [hcl])
      all_goals (try exact wkNil)
      · exact Nat.zero_le _
      · rfl
      · exact offG_nil.symm
      · rfl
      · rfl
      · trivial
      · exact .sent
      · exact noMem
      · rw [offG_nil, hview, hx]; rw [hcl]; rfl
      · exact fun _ h => h
      · exact sc_snoc (I.sch n hn) hv
      · rw [List.length_append]; exact Nat.le_refl _
      · rw [hview, hx]; rfl
      all_goals first | exact rfl | exact Nat.le_refl _ | exact fun p hp => absurd hp List.not_mem_nil | (intro p hp; rw [List.mem_singleton.mp hp]; exact find_n hf) | (rw [hrc]; exact Nat.le_succ _) | (rw [hsn]; exact Nat.le_succ _)
    | some w =>
      have hwm := List.mem_of_find?_eq_some hf
      obtain ⟨rs, h1, h2⟩ := wake_same I.good hf
      have hrc : (st.q n).rcv = toW w :: rs := by rw [hview]; exact h1
      have hwo := wake_other (q' := entQ sSend n) I.good hf (entQ_ne (List.find?_some hf) (.inl send_ne_take))
      have e1 : sendNow false (st.held n) st.es n v = ⟨st.held n, st.es.filter fun x => x.g != w.g, sentD, [⟨w.g, w.c, recvD v true⟩]⟩ := by
        unfold sendNow; rw [if_neg (by decide), hf]
      have e2 : qOffer (st.q n) x = ⟨{ st.q n with rcv := rs }, .done, [wok (toW w) (recvD x.v true)]⟩ := by
        rw [qOffer, if_neg (by rw [hqcl]; decide), hrc]
      refine ⟨[(w, recvD v true)], ?_⟩
      rw [EffM, hd, hcl, e1, e2]
      constructor
      all_goals (try rw [hcl])
      all_goals (try exact wkOne hwm)
      · exact Nat.le_refl _
      · rfl
      · exact offOne.symm
      · rw [hx]; rfl
      · rfl
      · trivial
      · exact .sent
      · intro p hp; rw [List.mem_singleton.mp hp]; exact .got hv
      · rw [offOne, hview]
        show (⟨_, _, _, _, _⟩ : QSt) = ⟨_, _, _, _, _⟩
        rw [hcl]
        simp only [h2, hwo]
        rfl
      · intro y hy
        rcases List.mem_append.mp hy with hy | hy
        · exact List.mem_append_left _ hy
        · refine List.mem_append_right _ ?_
          rw [hrc]; exact .tail _ hy
      · exact I.sch n hn
      · exact Nat.le_succ _
      · rw [hview]; rfl
      all_goals first | exact rfl | exact Nat.le_refl _ | exact fun p hp => absurd hp List.not_mem_nil | (intro p hp; rw [List.mem_singleton.mp hp]; exact find_n hf) | (rw [hrc]; exact Nat.le_succ _) | (rw [hsn]; exact Nat.le_succ _)
theorem eff_take {st : St} (I : Inv st) {n : Int} (hn : Two n) {v : Value} {x : Wt} (hm : mayDo st sTake n = true) : ∃ ps, EffM st sTake n v (qTake (st.q n) x) ps := by
  have hd : doNow sTake (st.cl n) (st.held n) st.es n v = takeNow (st.held n) st.es n := if_neg (Ne.symm send_ne_take)
  have hview := I.view n hn
  have hmy : mayTake (st.cl n) (st.held n) st.es n = true := by rw [mayDo, if_neg (Ne.symm send_ne_take)] at hm; exact hm
  have hsch := I.sch n hn
  cases hf : st.es.find? (entQ sSend n) with
  | none =>
    have hsn : (st.q n).snd = [] := by rw [hview]; exact filter_none hf
    cases hh : st.held n with
    | nil =>
      have hcl : st.cl n = true := by
        rw [mayTake, hh, hf] at hmy
        simpa using hmy
      have hbf : (st.q n).buf = [] := by rw [hview]; exact hh
      have e1 : takeNow [] st.es n = ⟨[], st.es, recvD .none false, []⟩ := by unfold takeNow; rw [hf]
      have e2 : qTake (st.q n) x = ⟨st.q n, .got .none false, []⟩ := by
        unfold qTake
        rw [hbf, hsn]
        simp only
        rw [if_pos (by rw [hview]; exact hcl)]
      refine ⟨[], ?_⟩
      rw [EffM, hd, hh, e1, e2]
      constructor
      all_goals (try rw [hh])
      all_goals (try exact wkNil)
      · exact Nat.zero_le _
      · rfl
      · exact offG_nil.symm
      · rfl
      · rfl
      · exact .inl rfl
      · exact .got (.inl rfl)
      · exact noMem
      · rw [offG_nil]; rw [hh] at hview; exact hview
      · exact fun _ h => h
      · exact noMem
      · exact Nat.zero_le _
      · exact hbf
      all_goals first | exact rfl | exact Nat.le_refl _ | exact fun p hp => absurd hp List.not_mem_nil | (intro p hp; rw [List.mem_singleton.mp hp]; exact find_n hf) | (rw [hrc]; exact Nat.le_succ _) | (rw [hsn]; exact Nat.le_succ _)
    | cons u us =>
      have hbf : (st.q n).buf = u :: us := by rw [hview]; exact hh
      rw [hh] at hsch
      have e1 : takeNow (u :: us) st.es n = ⟨us, st.es, recvD u true, []⟩ := by unfold takeNow; rw [hf]
      have e2 : qTake (st.q n) x = ⟨{ st.q n with buf := us }, .got u true, []⟩ := by
        unfold qTake
        simp only [hbf, hsn]
      refine ⟨[], ?_⟩
      rw [EffM, hd, hh, e1, e2]
      constructor
      all_goals (try rw [hh])
      all_goals (try exact wkNil)
      · exact Nat.zero_le _
      · rfl
      · exact offG_nil.symm
      · rfl
      · rfl
      · exact hsch u (.head _)
      · exact .got (hsch u (.head _))
      · exact noMem
      · rw [offG_nil, hview]; rfl
      · exact fun _ h => h
      · exact fun y hy => hsch y (.tail _ hy)
      · exact Nat.le_succ_of_le (Nat.le_succ _)
      all_goals first | exact rfl | exact Nat.le_refl _ | exact fun p hp => absurd hp List.not_mem_nil | (intro p hp; rw [List.mem_singleton.mp hp]; exact find_n hf) | (rw [hrc]; exact Nat.le_succ _) | (rw [hsn]; exact Nat.le_succ _)
  | some w =>
    have hwm := List.mem_of_find?_eq_some hf
    obtain ⟨rs, h1, h2⟩ := wake_same I.good hf
    have hsn : (st.q n).snd = toW w :: rs := by rw [hview]; exact h1
    have hwo := wake_other (q' := entQ sTake n) I.good hf (entQ_ne (List.find?_some hf) (.inl (Ne.symm send_ne_take)))
    have hwk : w.k = sSend := by
      have := List.find?_some hf
      simp only [entQ, Bool.and_eq_true, decide_eq_true_eq] at this
      exact this.1
    have hwv : (toW w).v = w.v := by
      show (if w.k = sTake ∧ w.s.isSome = true then Value.none else w.v) = w.v
      rw [if_neg (fun h => send_ne_take (hwk.symm.trans h.1))]
    have hws := I.sce w hwm
    cases hh : st.held n with
    | nil =>
      have hbf : (st.q n).buf = [] := by rw [hview]; exact hh
      have e1 : takeNow [] st.es n = ⟨[], st.es.filter fun x => x.g != w.g, recvD w.v true, [⟨w.g, w.c, sentD⟩]⟩ := by unfold takeNow; rw [hf]
      have e2 : qTake (st.q n) x = ⟨{ st.q n with snd := rs }, .got w.v true, [wok (toW w) sentD]⟩ := by
        unfold qTake
        rw [hbf, hsn]
        simp only [hwv, hbf]
      refine ⟨[(w, sentD)], ?_⟩
      rw [EffM, hd, hh, e1, e2]
      constructor
      all_goals (try rw [hh])
      all_goals (try exact wkOne hwm)
      · exact Nat.le_refl _
      · rfl
      · exact offOne.symm
      · rfl
      · rfl
      · exact hws
      · exact .got hws
      · intro p hp; rw [List.mem_singleton.mp hp]; exact .sent
      · rw [offOne, hview]
        show (⟨_, _, _, _, _⟩ : QSt) = ⟨_, _, _, _, _⟩
        simp only [h2, hwo, qv, hh]
      · intro y hy
        rcases List.mem_append.mp hy with hy | hy
        · refine List.mem_append_left _ ?_
          rw [hsn]; exact .tail _ hy
        · exact List.mem_append_right _ hy
      · exact noMem
      · exact Nat.zero_le _
      · exact hbf
      all_goals first | exact rfl | exact Nat.le_refl _ | exact fun p hp => absurd hp List.not_mem_nil | (intro p hp; rw [List.mem_singleton.mp hp]; exact find_n hf) | (rw [hrc]; exact Nat.le_succ _) | (rw [hsn]; exact Nat.le_succ _)
    | cons u us =>
      have hbf : (st.q n).buf = u :: us := by rw [hview]; exact hh
      rw [hh] at hsch
      have e1 : takeNow (u :: us) st.es n = ⟨us ++ [w.v], st.es.filter fun x => x.g != w.g, recvD u true, [⟨w.g, w.c, sentD⟩]⟩ := by unfold takeNow; rw [hf]
      have e2 : qTake (st.q n) x = ⟨{ st.q n with buf := us ++ [w.v], snd := rs }, .got u true, [wok (toW w) sentD]⟩ := by
        unfold qTake
        rw [hbf, hsn]
        simp only [hwv]
      refine ⟨[(w, sentD)], ?_⟩
      rw [EffM, hd, hh, e1, e2]
      constructor
      all_goals (try rw [hh])
      all_goals (try exact wkOne hwm)
      · exact Nat.le_refl _
      · rfl
      · exact offOne.symm
      · rfl
      · rfl
      · exact hsch u (.head _)
      · exact .got (hsch u (.head _))
      · intro p hp; rw [List.mem_singleton.mp hp]; exact .sent
      · rw [offOne, hview]
        show (⟨_, _, _, _, _⟩ : QSt) = ⟨_, _, _, _, _⟩
        simp only [h2, hwo, qv]
      · intro y hy
        rcases List.mem_append.mp hy with hy | hy
        · refine List.mem_append_left _ ?_
          rw [hsn]; exact .tail _ hy
        · exact List.mem_append_right _ hy
      · exact sc_snoc (fun y hy => hsch y (.tail _ hy)) hws
      · simp
      all_goals first | exact rfl | exact Nat.le_refl _ | exact fun p hp => absurd hp List.not_mem_nil | (intro p hp; rw [List.mem_singleton.mp hp]; exact find_n hf) | (rw [hrc]; exact Nat.le_succ _) | (rw [hsn]; exact Nat.le_succ _)
theorem eff_may {st : St} (I : Inv st) {n : Int} (hn : Two n) {kd : Str} (hkd : kd = sSend ∨ kd = sTake) {v : Value} (hv : Sc v) {x : Wt} (hx : kd = sSend → x.v = v) (hm : mayDo st kd n = true) : ∃ ps, EffM st kd n v (qEff (st.q n) kd x) ps := by
  rcases hkd with rfl | rfl
  · rw [qEff, if_pos rfl]; exact eff_send I hn hv (hx rfl) hm
  · rw [qEff, if_neg (Ne.symm send_ne_take)]; exact eff_take I hn hm
theorem Inv.can {st : St} (I : Inv st) {n : Int} (hn : Two n) : canSend (st.q n) = mayDo st sSend n ∧ canRecv (st.q n) = mayDo st sTake n := by
  have hview := I.view n hn
  refine ⟨?_, ?_⟩
  · rw [mayDo, if_pos rfl, canSend, maySend, hview]
    show (st.cl n || !((st.es.filter (entQ sTake n)).map toW).isEmpty || decide (((st.held n).length : Int) < st.room n)) = (st.cl n || decide (((st.held n).length : Int) < st.room n) || (st.es.find? (entQ sTake n)).isSome)
    rw [isSome_filter]
    cases st.cl n <;> cases ((st.es.filter (entQ sTake n)).map toW).isEmpty <;> cases decide (((st.held n).length : Int) < st.room n) <;> rfl
  · rw [mayDo, if_neg (Ne.symm send_ne_take), canRecv, mayTake, hview]
    show (!(st.held n).isEmpty || !((st.es.filter (entQ sSend n)).map toW).isEmpty || st.cl n) = (st.cl n || !(st.held n).isEmpty || (st.es.find? (entQ sSend n)).isSome)
    rw [isSome_filter]
    cases st.cl n <;> cases ((st.es.filter (entQ sSend n)).map toW).isEmpty <;> cases (st.held n).isEmpty <;> rfl
theorem Inv.qsz {st : St} (I : Inv st) {k : Nat} (hk : k ≤ 20) (Z : Sz k st) {n : Int} (hn : Two n) : QSz (st.q n) := by
  rw [I.view n hn]
  have h1 := Z.es
  have h2 := Z.held n hn
  refine ⟨?_, ?_, ?_⟩
  · show (st.held n).length ≤ 100; omega
  · show ((st.es.filter _).map toW).length ≤ 100
    rw [List.length_map]
    exact Nat.le_trans (List.length_filter_le _ _) (by omega)
  · show ((st.es.filter _).map toW).length ≤ 100
    rw [List.length_map]
    exact Nat.le_trans (List.length_filter_le _ _) (by omega)
end
section
open PySem PySem.W PySem.Calls PyProof.Rows PyProof.V
set_option maxRecDepth 100000
noncomputable def doMid (st : St) (kd : Str) (n : Int) (v : Value) (E : QEff) : St := { (plainDo st kd n v).st with q := setI st.q n E.st }
structure DoRes (st : St) (kd : Str) (n : Int) (v : Value) (E : QEff) (k : Nat) : Prop where
  told : toldD E.first = (plainDo st kd n v).told
  rows : E.rows.map hRow = (plainDo st kd n v).rows
  ok : HearOk (doMid st kd n v E) E.rows
  qz : ∀ j, Two j → QSz (setI st.q n E.st j)
  rz : E.rows.length ≤ 60
  fsc : FSc E.first
  wake : WakeOk st.asl (plainDo st kd n v).rows
  tw : WOk (plainDo st kd n v).told
  rw : ∀ r ∈ (plainDo st kd n v).rows, WOk r.w
  dist : (plainDo st kd n v).rows.Pairwise fun a b => a.g ≠ b.g
  inv : Inv (hearSt (doMid st kd n v E) E.rows)
  sz : Sz (k + 1) (hearSt (doMid st kd n v E) E.rows)
theorem do_ok {st : St} (I : Inv st) {k : Nat} (hk : k ≤ 19) (Z : Sz k st) {n : Int} (hn : Two n) {kd : Str} (hkd : kd = sSend ∨ kd = sTake) {v : Value} (hv : Sc v) {x : Wt} (hx : kd = sSend → x.v = v) (hm : mayDo st kd n = true) : DoRes st kd n v (qEff (st.q n) kd x) k := by
  obtain ⟨ps, H⟩ := eff_may I hn hkd hv hx hm
  generalize hE : qEff (st.q n) kd x = E at H
  have hwr := H.wrows
  have hrows : (plainDo st kd n v).rows = ps.map prow := H.rows
  have hc0 : ∀ p ∈ ps, p.1.s = none → p.1.c = 0 := fun p hp => I.c0 p.1 (H.ok.mem p hp)
  have hes : (doMid st kd n v E).es = offG ps st.es := H.es
  have hqz : ∀ j, Two j → QSz (setI st.q n E.st j) := fun j hj => by
    have hz := I.qsz (by omega) Z hn
    unfold setI
    split
    · refine ⟨?_, Nat.le_trans H.ls hz.s, Nat.le_trans H.lr hz.r⟩
      rw [H.buf]
      have := H.hlen
      have := Z.held n hn
      omega
    · exact I.qsz (by omega) Z hj
  have hheld : ∀ j, Two j → ∀ u ∈ (doMid st kd n v E).held j, Sc u := fun j hj u hu => by
    have hu' : u ∈ setI st.held n (doNow kd (st.cl n) (st.held n) st.es n v).held j := hu
    unfold setI at hu'
    split at hu'
    · exact H.sch u hu'
    · exact I.sch j hj u hu'
  have hsub : ∀ j, Two j → ∀ y ∈ ((doMid st kd n v E).q j).snd ++ ((doMid st kd n v E).q j).rcv, y ∈ (st.q j).snd ++ (st.q j).rcv := fun j hj y hy => by
    have hy' : y ∈ (setI st.q n E.st j).snd ++ (setI st.q n E.st j).rcv := hy
    unfold setI at hy'
    split at hy'
    · rename_i e; rw [e]; exact H.sub y hy'
    · exact hy'
  have hq : ∀ j, Two j → ps.foldl (fun q p => forget p.1.s q) ((doMid st kd n v E).q j) = qv (offG ps st.es) j ((doMid st kd n v E).room j) ((doMid st kd n v E).held j) ((doMid st kd n v E).cl j) := fun j hj => by
    show ps.foldl _ (setI st.q n E.st j) = qv (offG ps st.es) j (st.room j) (setI st.held n (doNow kd (st.cl n) (st.held n) st.es n v).held j) (st.cl j)
    by_cases e : j = n
    · subst e
      rw [setI_same, setI_same]; exact H.q
    · rw [setI_ne e, setI_ne e, I.view j hj]
      exact views_other I.good H.ok fun p hp h => e (h.symm.trans (H.pn p hp))
  have hasl : (hearSt (doMid st kd n v E) (ps.map wrow)).asl = wokeAsl st.asl (ps.map prow) := by
    rw [hear_asl, ← hrows]; rfl
  have inv : Inv (hearSt (doMid st kd n v E) (ps.map wrow)) := I.woken H.ok hes rfl hq hsub hheld rfl rfl rfl rfl rfl rfl hasl
  obtain ⟨s1, s2, s3, s4⟩ := hear_same (rows := ps.map wrow) (st := doMid st kd n v E)
  refine ⟨H.told, by rw [hwr, hrows]; exact hRows_eq hc0, by rw [hwr]; exact I.hearOk H.ok rfl, hqz, by rw [hwr, List.length_map]; exact Nat.le_trans H.len (by decide), H.fsc, ?_, H.tw, ?_, by rw [hrows]; exact H.ok.dist, by rw [hwr]; exact inv, ?_⟩
  · rw [hrows]
    refine wake_ok (fun r hr => ?_) H.ok.dist
    obtain ⟨p, hp, rfl⟩ := List.mem_map.mp hr
    exact I.asl p.1 (H.ok.mem p hp)
  · rw [hrows]
    intro r hr
    obtain ⟨p, hp, rfl⟩ := List.mem_map.mp hr
    exact H.rw p hp
  · rw [hwr]
    refine ⟨?_, fun j hj => ?_, ?_, ?_, fun s hs => ?_⟩
    · rw [s1, hes]
      have := Z.es
      have h2 := offG_len (ps := ps) (es := st.es)
      omega
    · rw [s2]
      show (setI st.held n (doNow kd (st.cl n) (st.held n) st.es n v).held j).length ≤ k + 1
      unfold setI
      split
      · have := H.hlen; have := Z.held n hn; omega
      · have := Z.held j hj; omega
    · have h1 := hear_sels (rows := ps.map wrow) (st := doMid st kd n v E)
      have h2 : (doMid st kd n v E).sels.length ≤ k := Z.sels
      omega
    · rw [hasl]
      have h1 := woke_len (rows := ps.map prow) (asl := st.asl)
      have := Z.asl
      omega
    · have h1 := hear_selSub s hs
      have h2 := Z.keys s h1
      push_cast; omega
/-- those that begin to wait -/
structure NewEnts (st : St) (g : Int) (gh : Option Int) (new : List Ent) : Prop where
  g : ∀ e ∈ new, e.g = g
  s : ∀ e ∈ new, e.s = gh
  k : ∀ e ∈ new, e.k = sSend ∨ e.k = sTake
  n : ∀ e ∈ new, Two e.n
  v : ∀ e ∈ new, Sc e.v
  one : gh = none → new.length ≤ 1 ∧ ∀ e ∈ new, e.c = 0
theorem pwOne {α : Type} {R : α → α → Prop} : ∀ {l : List α}, l.length ≤ 1 → l.Pairwise R
  | [], _ => .nil
  | [_], _ => .cons noMem .nil
  | _ :: _ :: l, h => absurd h (Nat.not_le_of_gt (Nat.succ_lt_succ (Nat.succ_pos l.length)))
theorem good_add {st : St} (I : Inv st) {g : Int} {gh : Option Int} {new : List Ent} (h : NewEnts st g gh new) (hg : g ∉ st.asl) (hf : ∀ t, gh = some t → ∀ s ∈ st.sels, s.1 ≠ t) : Good (st.es ++ new) := by
  have hng : ∀ e ∈ st.es, e.g ≠ g := fun e he e' => hg (e' ▸ I.asl e he)
  have hns : ∀ e ∈ st.es, e.s = gh → e.s.isSome = true → False := fun e he hs hi => by
    cases hgh : gh with
    | none => rw [hs, hgh] at hi; cases hi
    | some t =>
      obtain ⟨cs, hcs, _⟩ := I.cov e he t (hs.trans hgh)
      exact hf t hgh _ (selAt_mem hcs) rfl
  refine ⟨fun e he => (List.mem_append.mp he).elim (I.good.kd e) (h.k e), List.pairwise_append.mpr ⟨I.good.one, ?_, fun a ha b hb e => absurd (e.trans (h.g b hb)) (hng a ha)⟩, ?_, ?_⟩
  · cases hgh : gh with
    | none =>
      exact pwOne (h.one hgh).1
    | some t =>
      exact List.Pairwise.imp_of_mem (fun {a b} ha hb _ _ => by rw [h.s a ha, hgh]; rfl) (List.pairwise_of_forall (R := fun _ _ => True) fun _ _ => trivial)
  · intro e he e' he' hgg
    rcases List.mem_append.mp he with he | he <;> rcases List.mem_append.mp he' with he' | he'
    · exact I.good.sel e he e' he' hgg
    · exact absurd (hgg.trans (h.g e' he')) (hng e he)
    · exact absurd (hgg.symm.trans (h.g e he)) (hng e' he')
    · rw [h.s e he, h.s e' he']
  · intro e he e' he' hss hi
    rcases List.mem_append.mp he with he | he <;> rcases List.mem_append.mp he' with he' | he'
    · exact I.good.gs e he e' he' hss hi
    · exact (hns e he (hss.trans (h.s e' he')) hi).elim
    · exact (hns e' he' (hss.symm.trans (h.s e he)) (hss ▸ hi)).elim
    · rw [h.g e he, h.g e' he']
theorem selAt_app {sels : List (Int × List CaseD)} {t t' : Int} {cs : List CaseD} : selAt (sels ++ [(t, cs)]) t' = (match selAt sels t' with | some c => some c | none => if t = t' then some cs else none) := by
  unfold selAt
  rw [List.find?_append]
  cases h : sels.find? (fun s => decide (s.1 = t')) with
  | some s => simp
  | none =>
    by_cases e : t = t'
    · simp [e]
    · simp [e]
noncomputable def addSel (gh : Option Int) (sels : List (Int × List CaseD)) (cs : List CaseD) : List (Int × List CaseD) := match gh with
  | none => sels
  | some t => sels ++ [(t, cs)]
theorem Inv.wait {st fin : St} (I : Inv st) {g : Int} {gh : Option Int} {new : List Ent} (h : NewEnts st g gh new) (hg : g ∉ st.asl) (hf : ∀ t, gh = some t → ∀ s ∈ st.sels, s.1 ≠ t) (cs : List CaseD)
    (f1 : fin.es = st.es ++ new) (f2 : ∀ n, Two n → fin.q n = qv (st.es ++ new) n (st.room n) (st.held n) (st.cl n)) (f3 : fin.sels = addSel gh st.sels cs) (f4 : fin.held = st.held) (f5 : fin.room = st.room) (f6 : fin.cl = st.cl) (f7 : fin.asl = st.asl ++ [g])
    (hcs : ∀ t, gh = some t → (∀ e ∈ new, ∃ c ∈ cs, c.n = some e.n) ∧ ∀ c ∈ cs, ∀ n, c.n = some n → Two n) : Inv fin := by
  have hold : ∀ e ∈ st.es, ∀ t, e.s = some t → gh ≠ some t := fun e he t ht hgh => by
    obtain ⟨cs', hcs', _⟩ := I.cov e he t ht
    exact hf t hgh _ (selAt_mem hcs') rfl
  refine ⟨by rw [f1]; exact good_add I h hg hf, ?_, ?_, fun n hn => by rw [f2 n hn, f1, f4, f5, f6], ?_, ?_, ?_, ?_, ?_, by rw [f4]; exact I.sch⟩
  · rw [f1]
    intro e he hs
    rcases List.mem_append.mp he with he | he
    · exact I.c0 e he hs
    · exact (h.one ((h.s e he).symm.trans hs)).2 e he
  · rw [f1]; exact fun e he => (List.mem_append.mp he).elim (I.nt e) (h.n e)
  · rw [f1, f7]
    intro e he
    rcases List.mem_append.mp he with he | he
    · exact List.mem_append_left _ (I.asl e he)
    · rw [h.g e he]; exact List.mem_append_right _ (.head _)
  · rw [f7]
    exact List.nodup_append.mpr ⟨I.nd, by simp, fun a ha b hb e => hg (by rw [List.mem_singleton.mp hb] at e; rw [← e]; exact ha)⟩
  · rw [f1, f3]
    intro e he t ht
    rcases List.mem_append.mp he with he | he
    · obtain ⟨cs', hcs', hc⟩ := I.cov e he t ht
      refine ⟨cs', ?_, fun e' he' ht' => ?_⟩
      · cases hgh : gh with
        | none => exact hcs'
        | some t' =>
          show selAt (st.sels ++ [(t', cs)]) t = some cs'
          rw [selAt_app, hcs']
      · rcases List.mem_append.mp he' with he' | he'
        · exact hc e' he' ht'
        · exact absurd ((h.s e' he').symm.trans ht') (hold e he t ht)
    · have hgh : gh = some t := (h.s e he).symm.trans ht
      refine ⟨cs, ?_, fun e' he' ht' => ?_⟩
      · rw [hgh]
        show selAt (st.sels ++ [(t, cs)]) t = some cs
        have hn : selAt st.sels t = none := by
          cases hs : selAt st.sels t with
          | none => rfl
          | some c => exact absurd rfl (hf t hgh _ (selAt_mem hs))
        rw [selAt_app, hn]
        simp
      · rcases List.mem_append.mp he' with he' | he'
        · exact absurd hgh (hold e' he' t ht')
        · exact (hcs t hgh).1 e' he'
  · rw [f3]
    cases hgh : gh with
    | none => exact I.two
    | some t =>
      intro s hs
      rcases List.mem_append.mp hs with hs | hs
      · exact I.two s hs
      · rw [List.mem_singleton.mp hs]; exact (hcs t hgh).2
  · rw [f1]; exact fun e he => (List.mem_append.mp he).elim (I.sce e) (h.v e)
end
section
open PySem PySem.W PySem.Calls PyProof.Rows PyProof.V
set_option maxRecDepth 100000
theorem doNow_mem {kd : Str} {cl : Bool} {held : List Value} {es : List Ent} {n : Int} {v : Value} : ∀ r ∈ (doNow kd cl held es n v).rows, ∃ e ∈ es, e.g = r.g := by
  intro r hr
  unfold doNow at hr
  split at hr
  · unfold sendNow at hr
    split at hr
    · cases hr
    · split at hr
      · cases hr
      · rename_i e he
        rw [List.mem_singleton.mp hr]
        exact ⟨e, List.mem_of_find?_eq_some he, rfl⟩
  · unfold takeNow at hr
    split at hr
    · split at hr <;> cases hr
    · rename_i e he
      split at hr
      · rw [List.mem_singleton.mp hr]
        exact ⟨e, List.mem_of_find?_eq_some he, rfl⟩
      · rw [List.mem_singleton.mp hr]
        exact ⟨e, List.mem_of_find?_eq_some he, rfl⟩
theorem pw_one {α : Type} {R : α → α → Prop} : ∀ {l : List α}, l.length ≤ 1 → l.Pairwise R
  | [], _ => .nil
  | [_], _ => .cons noMem .nil
theorem Inv.ppre {st : St} (I : Inv st) {k : Nat} (hk : k ≤ 20) (Z : Sz k st) {kd : Str} {n : Int} : PPre st kd n := by
  have h1 := Z.es
  have h2 := Z.asl
  refine ⟨by omega, fun j hj => Nat.le_trans (Z.held j hj) (by omega), by omega, fun v _ _ => wake_ok (fun r hr => ?_) (pw_one doNow_rows)⟩
  obtain ⟨e, he, hg⟩ := doNow_mem r hr
  exact hg ▸ I.asl e he
noncomputable def pushQ (q : QSt) (e : Ent) : QSt := if e.k = sSend then { q with snd := q.snd ++ [toW e] } else { q with rcv := q.rcv ++ [toW e] }
theorem qv_add {es : List Ent} {e : Ent} (hk : e.k = sSend ∨ e.k = sTake) {j room : Int} {held : List Value} {cl : Bool} : qv (es ++ [e]) j room held cl = if e.n = j then pushQ (qv es j room held cl) e else qv es j room held cl := by
  unfold qv
  rw [List.filter_append, List.filter_append]
  by_cases hj : e.n = j
  · rw [if_pos hj]
    rcases hk with hk | hk
    · have h1 : entQ sSend j e = true := by simp [entQ, hk, hj]
      have h2 : entQ sTake j e = false := by simp only [entQ, hk, decide_eq_false send_ne_take, Bool.false_and]
      simp only [List.filter_cons, h1, h2, if_true, Bool.false_eq_true, if_false, List.filter_nil, List.append_nil, List.map_append, List.map_cons, List.map_nil, pushQ, hk]
    · have h1 : entQ sSend j e = false := by simp only [entQ, hk, decide_eq_false (Ne.symm send_ne_take), Bool.false_and]
      have h2 : entQ sTake j e = true := by simp [entQ, hk, hj]
      simp only [List.filter_cons, h1, h2, if_true, Bool.false_eq_true, if_false, List.filter_nil, List.append_nil, List.map_append, List.map_cons, List.map_nil, pushQ, hk, if_neg (Ne.symm send_ne_take)]
  · rw [if_neg hj]
    have h1 : entQ sSend j e = false := by simp [entQ, hj]
    have h2 : entQ sTake j e = false := by simp [entQ, hj]
    simp only [List.filter_cons, h1, h2, Bool.false_eq_true, if_false, List.filter_nil, List.append_nil]
theorem eff_wait {st : St} (I : Inv st) {n : Int} (hn : Two n) {kd : Str} (hkd : kd = sSend ∨ kd = sTake) {g : Int} {v : Value} (hm : mayDo st kd n = false) : qEff (st.q n) kd ⟨g, v, none, none⟩ = ⟨pushQ (st.q n) ⟨g, kd, n, v, 0, none⟩, .blocked, []⟩ := by
  have hc := I.can hn
  rcases hkd with rfl | rfl
  · rw [← hc.1, canSend] at hm
    simp only [Bool.or_eq_false_iff, Bool.not_eq_false', List.isEmpty_iff, decide_eq_false_iff_not] at hm
    rw [qEff, if_pos rfl, qOffer, if_neg (by rw [hm.1.1]; decide), hm.1.2]
    simp only
    rw [if_neg hm.2, pushQ, if_pos rfl]
    rw [hm.1.2]
    rfl
  · rw [← hc.2, canRecv] at hm
    simp only [Bool.or_eq_false_iff, Bool.not_eq_false', List.isEmpty_iff] at hm
    rw [qEff, if_neg (Ne.symm send_ne_take), qTake, hm.1.1, hm.1.2]
    simp only
    rw [if_neg (by rw [hm.2]; decide), pushQ, if_neg (Ne.symm send_ne_take)]
    rw [hm.1.1, hm.1.2]
    rfl
theorem wait_one {g n : Int} {kd : Str} {v : Value} (h2 : n < 2) : waitEnts g none 0 [⟨kd, chO n, v⟩] = [⟨g, kd, n, v, 0, none⟩] := by
  have : chO n = some n := if_pos h2
  simp only [waitEnts, this]
  rfl
theorem wait_two {g n : Int} {kd : Str} {v : Value} (h2 : ¬ n < 2) : waitEnts g none 0 [⟨kd, chO n, v⟩] = [] := by
  have : chO n = none := if_neg h2
  simp only [waitEnts, this]
structure SOk (st : St) (g : Int) (kd : Str) (n : Int) (v : Value) (k : Nat) : Prop where
  pre : SPre st g kd n v
  inv : Inv (singleSt st g kd n v)
  sz : Sz (k + 1) (singleSt st g kd n v)
theorem single_ok {st : St} (I : Inv st) {k : Nat} (hk : k ≤ 19) (Z : Sz k st) {g n : Int} (hn : Thr n) {kd : Str} (hkd : kd = sSend ∨ kd = sTake) {v : Value} (hv : Sc v) (hg : g ∉ st.asl) : SOk st g kd n v k := by
  have hpp := I.ppre (kd := kd) (n := n) (by omega) Z
  have hasz : ∀ rows, (wokeAsl st.asl rows).length ≤ 90 := fun rows => by
    have := woke_len (rows := rows) (asl := st.asl)
    have := Z.asl
    omega
  have hqz : ∀ j, Two j → QSz (st.q j) := fun j hj => I.qsz (by omega) Z hj
  have hsl : st.sels.length ≤ 100 := by have := Z.sels; omega
  by_cases h2 : n < 2
  · have hn2 := thr_two hn h2
    have hcan : (if kd = sSend then canSend (st.q n) else canRecv (st.q n)) = mayDo st kd n := by
      rcases hkd with rfl | rfl
      · rw [if_pos rfl]; exact (I.can hn2).1
      · rw [if_neg (Ne.symm send_ne_take)]; exact (I.can hn2).2
    cases hm : mayDo st kd n with
    | true =>
      have D := do_ok I hk Z hn2 hkd hv (x := ⟨g, v, none, none⟩) (fun _ => rfl) hm
      have hpd : plainDeed st g kd n v = plainDo st kd n v := if_pos ⟨h2, hm⟩
      have hmid : singleMid st g kd n v = doMid st kd n v (singleE st g kd n v) := by rw [singleMid, hpd]; rfl
      have hfin : singleSt st g kd n v = hearSt (doMid st kd n v (singleE st g kd n v)) (singleE st g kd n v).rows := by rw [singleSt, if_pos h2, if_pos hm, hmid]
      refine ⟨⟨hpp, hasz, fun _ => hcan, hqz, fun _ => D.qz, hsl, fun _ => by rw [hpd]; exact D.told, fun _ => by rw [hpd]; exact D.rows, fun _ => by rw [hmid]; exact D.ok, fun _ => D.rz, fun _ => D.fsc, fun _ _ => by rw [hpd]; exact D.tw, fun _ h => by rw [hm] at h; (cases h), fun _ => by rw [hpd]; exact D.rw, fun _ => by rw [hpd]; exact D.dist⟩, by rw [hfin]; exact D.inv, by rw [hfin]; exact D.sz⟩
    | false =>
      have hpd : plainDeed st g kd n v = plainWait st g kd n v := if_neg fun h => by rw [hm] at h; cases h.2
      have hE : singleE st g kd n v = ⟨pushQ (st.q n) ⟨g, kd, n, v, 0, none⟩, .blocked, []⟩ := eff_wait I hn2 hkd hm
      have hqz2 : ∀ j, Two j → QSz (setI st.q n (singleE st g kd n v).st j) := fun j hj => by
        rw [hE]
        unfold setI
        split
        · have hz := hqz n hn2
          have hz2 : (st.q n).snd.length ≤ 60 ∧ (st.q n).rcv.length ≤ 60 := by
            rw [I.view n hn2]
            have := Z.es
            refine ⟨?_, ?_⟩
            · show ((st.es.filter _).map toW).length ≤ 60
              rw [List.length_map]
              exact Nat.le_trans (List.length_filter_le _ _) (by omega)
            · show ((st.es.filter _).map toW).length ≤ 60
              rw [List.length_map]
              exact Nat.le_trans (List.length_filter_le _ _) (by omega)
          unfold pushQ
          split
          · exact ⟨hz.b, by show ((st.q n).snd ++ [_]).length ≤ 100; rw [List.length_append]; simp; omega, hz.r⟩
          · exact ⟨hz.b, hz.s, by show ((st.q n).rcv ++ [_]).length ≤ 100; rw [List.length_append]; simp; omega⟩
        · exact hqz j hj
      have hfin : singleSt st g kd n v = { singleMid st g kd n v with asl := st.asl ++ [g] } := by
        rw [singleSt, if_pos h2, if_neg (by rw [hm]; decide), hE]
        show ({ singleMid st g kd n v with asl := (singleMid st g kd n v).asl ++ [g] } : St) = _
        rw [show (singleMid st g kd n v).asl = st.asl from by rw [singleMid, hpd]; rfl]
      have hes : (singleMid st g kd n v).es = st.es ++ [⟨g, kd, n, v, 0, none⟩] := by
        rw [singleMid, hpd]
        show st.es ++ waitEnts g none 0 [⟨kd, chO n, v⟩] = _
        rw [wait_one h2]
      have hne : NewEnts st g none [⟨g, kd, n, v, 0, none⟩] := by
        refine ⟨?_, ?_, ?_, ?_, ?_, fun _ => ⟨Nat.le_refl _, ?_⟩⟩ <;> intro e he <;> rw [List.mem_singleton.mp he]
        · exact hkd
        · exact hn2
        · exact hv
      refine ⟨⟨hpp, hasz, fun _ => hcan, hqz, fun _ => hqz2, hsl, fun _ => by rw [hpd, hE]; rfl, fun _ => by rw [hpd, hE]; rfl, fun _ => by rw [hE]; trivial, fun _ => by rw [hE]; exact Nat.zero_le _, fun _ => by rw [hE]; trivial, fun _ h => by rw [hm] at h; (cases h), fun _ _ => by rw [hpd]; rfl, fun _ => by rw [hpd]; exact noMem, fun _ => by rw [hpd]; exact .nil⟩, ?_, ?_⟩
      · rw [hfin]
        refine I.wait hne hg (fun _ h => by cases h) [] hes (fun j hj => ?_) ?_ ?_ ?_ ?_ rfl fun _ h => by cases h
        · show (singleMid st g kd n v).q j = _
          rw [qv_add hkd, ← I.view j hj]
          show setI st.q n (singleE st g kd n v).st j = _
          rw [hE]
          unfold setI
          by_cases e : j = n
          · subst e; simp
          · rw [if_neg e, if_neg fun h => e h.symm]
        · show (singleMid st g kd n v).sels = st.sels
          rw [singleMid, hpd]; rfl
        · show (singleMid st g kd n v).held = st.held
          rw [singleMid, hpd]; rfl
        · show (singleMid st g kd n v).room = st.room
          rw [singleMid, hpd]; rfl
        · show (singleMid st g kd n v).cl = st.cl
          rw [singleMid, hpd]; rfl
      · rw [hfin]
        refine ⟨?_, fun j hj => ?_, ?_, ?_, fun s hs => ?_⟩
        · show (singleMid st g kd n v).es.length ≤ _
          rw [hes, List.length_append]
          have := Z.es
          simp; omega
        · show ((singleMid st g kd n v).held j).length ≤ _
          rw [show (singleMid st g kd n v).held = st.held from by rw [singleMid, hpd]; rfl]
          have := Z.held j hj; omega
        · show (singleMid st g kd n v).sels.length ≤ _
          rw [show (singleMid st g kd n v).sels = st.sels from by rw [singleMid, hpd]; rfl]
          have := Z.sels; omega
        · show (st.asl ++ [g]).length ≤ _
          rw [List.length_append]
          have := Z.asl; simp; omega
        · have hs' : s ∈ st.sels := by
            have h : s ∈ (singleMid st g kd n v).sels := hs
            rw [show (singleMid st g kd n v).sels = st.sels from by rw [singleMid, hpd]; rfl] at h
            exact h
          have := Z.keys s hs'
          push_cast; omega
  · have hpd : plainDeed st g kd n v = plainWait st g kd n v := if_neg fun h => h2 h.1
    have hes : (plainWait st g kd n v).st.es = st.es := by
      show st.es ++ waitEnts g none 0 [⟨kd, chO n, v⟩] = st.es
      rw [wait_two h2, List.append_nil]
    have hfin : singleSt st g kd n v = { (plainWait st g kd n v).st with asl := st.asl ++ [g] } := by
      rw [singleSt, if_neg h2, hpd]; rfl
    have hne : NewEnts st g none [] := ⟨noMem, noMem, noMem, noMem, noMem, fun _ => ⟨Nat.zero_le _, noMem⟩⟩
    refine ⟨⟨hpp, hasz, fun h => absurd h h2, hqz, fun h => absurd h h2, hsl, fun h => absurd h h2, fun h => absurd h h2, fun h => absurd h h2, fun h => absurd h h2, fun h => absurd h h2, fun h => absurd h h2, fun h => absurd h h2, fun h => absurd h h2, fun h => absurd h h2⟩, ?_, ?_⟩
    · rw [hfin]
      refine I.wait hne hg (fun _ h => by cases h) [] (by rw [List.append_nil]; exact hes) (fun j hj => ?_) rfl rfl rfl rfl rfl fun _ h => by cases h
      rw [List.append_nil]; exact I.view j hj
    · rw [hfin]
      refine ⟨?_, fun j hj => ?_, ?_, ?_, fun s hs => ?_⟩
      · show (plainWait st g kd n v).st.es.length ≤ _
        rw [hes]
        have := Z.es; omega
      · have := Z.held j hj
        show (st.held j).length ≤ k + 1
        omega
      · have := Z.sels
        show st.sels.length ≤ k + 1
        omega
      · show (st.asl ++ [g]).length ≤ _
        rw [List.length_append]
        have := Z.asl; simp; omega
      · have := Z.keys s hs
        push_cast; omega
end
section
open PySem PySem.W PySem.Calls PyProof.Rows PyProof.V
set_option maxRecDepth 100000
theorem enqStep_same {g t : Int} {i : Nat} {st : St} {c : CaseD} : (enqStep g t i st c).es = st.es ∧ (enqStep g t i st c).held = st.held ∧ (enqStep g t i st c).cl = st.cl ∧ (enqStep g t i st c).room = st.room ∧ (enqStep g t i st c).sels = st.sels := by
  unfold enqStep
  split <;> exact ⟨rfl, rfl, rfl, rfl, rfl⟩
theorem enq_same {g t : Int} : ∀ {cs : List CaseD} {i : Nat} {st : St}, (enqSt g t i st cs).es = st.es ∧ (enqSt g t i st cs).held = st.held ∧ (enqSt g t i st cs).cl = st.cl ∧ (enqSt g t i st cs).room = st.room ∧ (enqSt g t i st cs).sels = st.sels
  | [], _, _ => ⟨rfl, rfl, rfl, rfl, rfl⟩
  | c :: cs, i, st => by
    obtain ⟨a1, a2, a3, a4, a5⟩ := enq_same (g := g) (t := t) (cs := cs) (i := i + 1) (st := enqStep g t i st c)
    obtain ⟨b1, b2, b3, b4, b5⟩ := enqStep_same (g := g) (t := t) (i := i) (st := st) (c := c)
    exact ⟨a1.trans b1, a2.trans b2, a3.trans b3, a4.trans b4, a5.trans b5⟩
theorem enqStep_q {g t : Int} {i : Nat} {st : St} {d : Deed} (hd : DeedOk d) {j : Int} : (enqStep g t i st (caseOf d)).q j = (match d.n with | none => st.q j | some n => if n = j then pushQ (st.q j) ⟨g, d.k, n, d.v, (i : Int), some t⟩ else st.q j) := by
  unfold enqStep
  have hn : (caseOf d).n = d.n := rfl
  rw [hn]
  cases d.n with
  | none => rfl
  | some n =>
    show setI st.q n _ j = if n = j then _ else _
    unfold setI
    by_cases e : j = n
    · subst e
      rw [if_pos rfl, if_pos rfl]
      unfold pushQ
      rcases hd.k with hk | hk
      · have hs : (caseOf d).send = true := by simp [caseOf, hk]
        rw [if_pos hs, if_pos hk]
        show _ = ({ st.q j with snd := (st.q j).snd ++ [⟨g, if d.k = sTake ∧ true = true then Value.none else d.v, some (i : Int), some t⟩] } : QSt)
        rw [if_neg (fun h => send_ne_take (hk.symm.trans h.1))]
        rfl
      · have hs : ¬ (caseOf d).send = true := by
          simp only [caseOf, hk, decide_eq_true_eq]; exact Ne.symm send_ne_take
        rw [if_neg hs, if_neg (by rw [hk]; exact Ne.symm send_ne_take)]
        show _ = ({ st.q j with rcv := (st.q j).rcv ++ [⟨g, if d.k = sTake ∧ true = true then Value.none else d.v, some (i : Int), some t⟩] } : QSt)
        rw [if_pos ⟨hk, rfl⟩]
    · rw [if_neg e, if_neg fun h => e h.symm]
theorem enq_view {g t : Int} : ∀ {ds : List Deed} {i : Nat} {st : St} {es : List Ent}, (∀ d ∈ ds, DeedOk d) → (∀ j, Two j → st.q j = qv es j (st.room j) (st.held j) (st.cl j)) → ∀ j, Two j → (enqSt g t i st (ds.map caseOf)).q j = qv (es ++ waitEnts g (some t) i ds) j (st.room j) (st.held j) (st.cl j)
  | [], i, st, es, _, h, j, hj => by
    show st.q j = qv (es ++ []) j _ _ _
    rw [List.append_nil]; exact h j hj
  | d :: ds, i, st, es, hd, h, j, hj => by
    obtain ⟨b1, b2, b3, b4, b5⟩ := enqStep_same (g := g) (t := t) (i := i) (st := st) (c := caseOf d)
    have hd0 := hd d (.head _)
    cases hn : d.n with
    | none =>
      have hv : ∀ j, Two j → (enqStep g t i st (caseOf d)).q j = qv es j ((enqStep g t i st (caseOf d)).room j) ((enqStep g t i st (caseOf d)).held j) ((enqStep g t i st (caseOf d)).cl j) := fun j hj => by
        rw [enqStep_q hd0, hn, b2, b3, b4]; exact h j hj
      have ih := enq_view (g := g) (t := t) (ds := ds) (i := i + 1) (fun x hx => hd x (.tail _ hx)) hv j hj
      rw [b2, b3, b4] at ih
      have hw : waitEnts g (some t) i (d :: ds) = waitEnts g (some t) (i + 1) ds := by simp only [waitEnts, hn]
      rw [hw]; exact ih
    | some n =>
      have hv : ∀ j, Two j → (enqStep g t i st (caseOf d)).q j = qv (es ++ [⟨g, d.k, n, d.v, (i : Int), some t⟩]) j ((enqStep g t i st (caseOf d)).room j) ((enqStep g t i st (caseOf d)).held j) ((enqStep g t i st (caseOf d)).cl j) := fun j hj => by
        rw [enqStep_q hd0, hn, b2, b3, b4, qv_add hd0.k, ← h j hj]
      have ih := enq_view (g := g) (t := t) (ds := ds) (i := i + 1) (fun x hx => hd x (.tail _ hx)) hv j hj
      rw [b2, b3, b4, List.append_assoc] at ih
      have hw : waitEnts g (some t) i (d :: ds) = ⟨g, d.k, n, d.v, (i : Int), some t⟩ :: waitEnts g (some t) (i + 1) ds := by simp only [waitEnts, hn]
      rw [hw]; exact ih
theorem waitEnts_mem {g t : Int} : ∀ {ds : List Deed} {i : Nat}, ∀ e ∈ waitEnts g (some t) i ds, ∃ d ∈ ds, e.g = g ∧ e.s = some t ∧ e.k = d.k ∧ d.n = some e.n ∧ e.v = d.v
  | [], _, e, he => nomatch he
  | d :: ds, i, e, he => by
    simp only [waitEnts] at he
    cases hn : d.n with
    | none =>
      rw [hn] at he
      obtain ⟨x, hx, h⟩ := waitEnts_mem e he
      exact ⟨x, .tail _ hx, h⟩
    | some n =>
      rw [hn] at he
      rcases List.mem_cons.mp he with rfl | he
      · exact ⟨d, .head _, rfl, rfl, rfl, hn, rfl⟩
      · obtain ⟨x, hx, h⟩ := waitEnts_mem e he
        exact ⟨x, .tail _ hx, h⟩
theorem waitEnts_len {g : Int} {s : Option Int} : ∀ {ds : List Deed} {i : Nat}, (waitEnts g s i ds).length ≤ ds.length
  | [], _ => Nat.le_refl _
  | d :: ds, i => by
    have := waitEnts_len (g := g) (s := s) (ds := ds) (i := i + 1)
    simp only [waitEnts]
    split <;> simp only [List.length_cons] <;> omega
theorem select_ok {st : St} (I : Inv st) {k : Nat} (hk : k ≤ 19) (Z : Sz k st) {g : Int} (hg : g ∉ st.asl) : LPre st g (k : Int) ∧ ∀ ds st', (∀ d ∈ ds, DeedOk d) → ds.length ≤ 3 → SelTo st g (k : Int) ds st' → Inv st' ∧ Sz (k + 1) st' := by
  have hf : ∀ s ∈ st.sels, s.1 ≠ (k : Int) := fun s hs e => by have := Z.keys s hs; omega
  refine ⟨⟨by have := Z.es; omega, fun j hj => by have := Z.held j hj; omega, by have := Z.asl; omega, fun j hj => I.qsz (by omega) Z hj, by have := Z.sels; omega, fun n hn => I.can hn, hf, fun i d n hd hn hm => ?_⟩, fun ds st' hds hdz hto => ?_⟩
  · have D := do_ok I hk Z (hd.n n hn) hd.k hd.v (x := selX g i d) (fun h => if_pos h) hm
    exact ⟨D.told, D.rows, D.ok, D.qz, D.rz, D.fsc, D.wake, D.tw, D.rw, D.dist⟩
  · rcases hto with ⟨_, rfl⟩ | ⟨i, d, n, hi, hn, hm, rfl⟩
    · have hne : NewEnts st g (some (k : Int)) (waitEnts g (some (k : Int)) 0 ds) := by
        refine ⟨?_, ?_, ?_, ?_, ?_, fun h => by cases h⟩ <;> intro e he <;> obtain ⟨d, hd, h1, h2, h3, h4, h5⟩ := waitEnts_mem e he
        · exact h1
        · exact h2
        · rw [h3]; exact (hds d hd).k
        · exact (hds d hd).n _ h4
        · rw [h5]; exact (hds d hd).v
      obtain ⟨a1, a2, a3, a4, a5⟩ := enq_same (g := g) (t := (k : Int)) (cs := ds.map caseOf) (i := 0) (st := { st with es := st.es ++ waitEnts g (some (k : Int)) 0 ds, sels := st.sels ++ [((k : Int), ds.map caseOf)] })
      have hasl : (selWait st g (k : Int) ds).asl = st.asl ++ [g] := by
        show (selWait0 st g (k : Int) ds).asl ++ [g] = _
        rw [show (selWait0 st g (k : Int) ds).asl = st.asl from enq_asl]
      refine ⟨I.wait hne hg (fun t ht => by cases ht; exact hf) (ds.map caseOf) a1 (fun j hj => ?_) a5 a2 a4 a3 hasl (fun t ht => ⟨fun e he => ?_, fun c hc n hn => ?_⟩), ?_, fun j hj => ?_, ?_, ?_, fun s hs => ?_⟩
      · exact enq_view (st := { st with es := st.es ++ waitEnts g (some (k : Int)) 0 ds, sels := st.sels ++ [((k : Int), ds.map caseOf)] }) hds I.view j hj
      · obtain ⟨d, hd, _, _, _, h4, _⟩ := waitEnts_mem e he
        exact ⟨caseOf d, List.mem_map.mpr ⟨d, hd, rfl⟩, h4⟩
      · obtain ⟨d, hd, rfl⟩ := List.mem_map.mp hc
        exact (hds d hd).n n hn
      · show (selWait0 st g (k : Int) ds).es.length ≤ _
        rw [show (selWait0 st g (k : Int) ds).es = _ from a1, List.length_append]
        have := Z.es
        have := waitEnts_len (g := g) (s := some (k : Int)) (ds := ds) (i := 0)
        omega
      · show ((selWait0 st g (k : Int) ds).held j).length ≤ _
        rw [show (selWait0 st g (k : Int) ds).held = _ from a2]
        have := Z.held j hj
        show (st.held j).length ≤ k + 1
        omega
      · show (selWait0 st g (k : Int) ds).sels.length ≤ _
        rw [show (selWait0 st g (k : Int) ds).sels = _ from a5, List.length_append]
        have := Z.sels
        simp; omega
      · rw [hasl, List.length_append]
        have := Z.asl
        simp; omega
      · have h : s ∈ (selWait0 st g (k : Int) ds).sels := hs
        rw [show (selWait0 st g (k : Int) ds).sels = _ from a5] at h
        rcases List.mem_append.mp h with h | h
        · have := Z.keys s h; push_cast; omega
        · rw [List.mem_singleton.mp h]; push_cast; show (k : Int) < (k : Int) + 1; omega
    · have hd := hds d (List.mem_of_getElem? hi)
      have D := do_ok I hk Z (hd.n n hn) hd.k hd.v (x := selX g i d) (fun h => if_pos h) hm
      exact ⟨D.inv, D.sz⟩
-- closing
noncomputable def dd : List Wk → List Wk
  | [] => []
  | p :: l => p :: dd (l.filter fun x => x.1.g != p.1.g)
termination_by l => l.length
decreasing_by
  simp only [List.unattach_filter, List.unattach_attach, List.length_cons]
  exact Nat.lt_succ_of_le (List.length_filter_le _ _)
theorem dd_nil : dd [] = [] := by rw [dd]
theorem dd_cons {p : Wk} {l : List Wk} : dd (p :: l) = p :: dd (l.filter fun x => x.1.g != p.1.g) := by rw [dd]
theorem dd_sub : ∀ (k : Nat) (l : List Wk), l.length ≤ k → ∀ p ∈ dd l, p ∈ l
  | _, [], _, p, hp => by rw [dd_nil] at hp; exact hp
  | k + 1, q :: l, hk, p, hp => by
    rw [dd_cons] at hp
    rcases List.mem_cons.mp hp with rfl | hp
    · exact .head _
    · have hl : (l.filter fun x => x.1.g != q.1.g).length ≤ k := Nat.le_trans (List.length_filter_le _ _) (Nat.le_of_succ_le_succ hk)
      exact .tail _ (List.mem_filter.mp (dd_sub k _ hl p hp)).1
theorem dd_pw : ∀ (k : Nat) (l : List Wk), l.length ≤ k → (dd l).Pairwise fun a b => a.1.g ≠ b.1.g
  | _, [], _ => by rw [dd_nil]; exact .nil
  | k + 1, q :: l, hk => by
    have hl : (l.filter fun x => x.1.g != q.1.g).length ≤ k := Nat.le_trans (List.length_filter_le _ _) (Nat.le_of_succ_le_succ hk)
    rw [dd_cons]
    refine List.pairwise_cons.mpr ⟨fun p hp => ?_, dd_pw k _ hl⟩
    have := (List.mem_filter.mp (dd_sub k _ hl p hp)).2
    exact fun e => by rw [e] at this; simp at this
theorem dd_cover : ∀ (k : Nat) (l : List Wk), l.length ≤ k → ∀ x ∈ l, ∃ p ∈ dd l, p.1.g = x.1.g
  | _, [], _, x, hx => nomatch hx
  | k + 1, q :: l, hk, x, hx => by
    have hl : (l.filter fun x => x.1.g != q.1.g).length ≤ k := Nat.le_trans (List.length_filter_le _ _) (Nat.le_of_succ_le_succ hk)
    rw [dd_cons]
    by_cases e : x.1.g = q.1.g
    · exact ⟨q, .head _, e.symm⟩
    · rcases List.mem_cons.mp hx with rfl | hx
      · exact absurd rfl e
      · obtain ⟨p, hp, h⟩ := dd_cover k _ hl x (List.mem_filter.mpr ⟨hx, by simpa using e⟩)
        exact ⟨p, .tail _ hp, h⟩
theorem dd_append : ∀ (k : Nat) (a b : List Wk), a.length ≤ k → dd (a ++ b) = dd a ++ dd (b.filter fun x => (dd a).all fun p => x.1.g != p.1.g)
  | _, [], b, _ => by
    rw [dd_nil, List.nil_append, List.nil_append]
    congr 1
    exact (List.filter_eq_self.mpr fun _ _ => rfl).symm
  | k + 1, q :: a, b, hk => by
    have hl : (a.filter fun x => x.1.g != q.1.g).length ≤ k := Nat.le_trans (List.length_filter_le _ _) (Nat.le_of_succ_le_succ hk)
    rw [List.cons_append, dd_cons, dd_cons, List.filter_append, dd_append k _ _ hl, List.cons_append, List.filter_filter]
    congr 3
    refine List.filter_congr fun x _ => ?_
    rw [List.all_cons, Bool.and_comm]
theorem offG_append {a b : List Wk} {es : List Ent} : offG (a ++ b) es = offG b (offG a es) := by
  unfold offG
  rw [List.filter_filter]
  refine List.filter_congr fun x _ => ?_
  rw [List.all_append, Bool.and_comm]
noncomputable def wks (es : List Ent) (kd : Str) (n : Int) (told : PyData) : List Wk := (es.filter (entQ kd n)).map fun e => (e, told)
theorem ended_dd {kd : Str} {n : Int} {told : PyData} {es es' : List Ent} {rows : List Row} (h : Ended kd n told es rows es') : rows = (dd (wks es kd n told)).map prow ∧ es' = offG (dd (wks es kd n told)) es := by
  induction h with
  | @done es hf =>
    have : wks es kd n told = [] := by
      unfold wks
      rw [← List.head?_filter] at hf
      cases he : es.filter (entQ kd n) with
      | nil => rfl
      | cons a l => rw [he] at hf; cases hf
    rw [this, dd_nil]
    exact ⟨rfl, offG_nil.symm⟩
  | @step es es' rows e hf _ ih =>
    obtain ⟨l, hl⟩ : ∃ l, es.filter (entQ kd n) = e :: l := by
      rw [← List.head?_filter] at hf
      cases he : es.filter (entQ kd n) with
      | nil => rw [he] at hf; cases hf
      | cons a l => rw [he] at hf; cases hf; exact ⟨l, rfl⟩
    have h1 : wks es kd n told = (e, told) :: l.map fun e => (e, told) := by unfold wks; rw [hl]; rfl
    have h2 : wks (es.filter fun x => x.g != e.g) kd n told = (l.map fun e => ((e, told) : Wk)).filter fun x => x.1.g != e.g := by
      unfold wks
      rw [List.filter_filter, List.filter_map]
      have : (es.filter fun a => entQ kd n a && a.g != e.g) = l.filter fun x => x.g != e.g := by
        rw [show (fun a : Ent => entQ kd n a && a.g != e.g) = fun a => (a.g != e.g) && entQ kd n a from funext fun a => Bool.and_comm _ _, ← List.filter_filter, hl, List.filter_cons]
        simp
      rw [this]
      rfl
    rw [h1, dd_cons, ← h2]
    refine ⟨?_, ?_⟩
    · rw [ih.1]; rfl
    · rw [ih.2, offG_cons]
end
section
open PySem PySem.W PySem.Calls PyProof.Rows PyProof.V
set_option maxRecDepth 100000
noncomputable def tw (p : Wk) : Wt × PyData := (toW p.1, p.2)
noncomputable def nsel (m : List (Option Int)) (p : Wk) : Bool := !(p.1.s.isSome && m.contains p.1.s)
theorem onceStep_eq {x : List (Wt × PyData) × List (Option Int)} {p : Wk} : onceStep x (tw p) = if nsel x.2 p then (x.1 ++ [tw p], x.2 ++ [p.1.s]) else x := by
  unfold onceStep nsel
  have h : (tw p).1.s = p.1.s := rfl
  rw [h]
  cases p.1.s with
  | none => simp
  | some t => cases x.2.contains (some t) <;> simp
theorem once_dd : ∀ (L : List Wk) (f : List (Wt × PyData)) (m : List (Option Int)), (L.Pairwise fun a b => (a.1.g = b.1.g ↔ (b.1.s.isSome = true ∧ a.1.s = b.1.s))) →
    ((L.map tw).foldl onceStep (f, m)).1 = f ++ (dd (L.filter (nsel m))).map tw
  | [], f, m, _ => by
    rw [List.filter_nil, dd_nil]
    simp
  | p :: L, f, m, hC => by
    obtain ⟨h1, h2⟩ := List.pairwise_cons.mp hC
    rw [List.map_cons, List.foldl_cons, onceStep_eq, List.filter_cons]
    cases hn : nsel m p with
    | true =>
      simp only [if_true]
      rw [once_dd L _ _ h2, dd_cons, List.map_cons, List.append_assoc, List.singleton_append, List.filter_filter]
      congr 4
      refine List.filter_congr fun x hx => ?_
      have hx1 := h1 x hx
      unfold nsel
      cases hxs : x.1.s with
      | none =>
        have : ¬ p.1.g = x.1.g := fun e => by have := (hx1.mp e).1; rw [hxs] at this; cases this
        have h2 : (x.1.g != p.1.g) = true := by simpa using fun e : x.1.g = p.1.g => this e.symm
        simp [h2]
      | some t =>
        by_cases e : p.1.s = some t
        · have hg : p.1.g = x.1.g := hx1.mpr ⟨by rw [hxs]; rfl, by rw [hxs]; exact e⟩
          have h2 : (x.1.g != p.1.g) = false := by simp [hg]
          rw [h2, e]
          simp
        · have hg : ¬ p.1.g = x.1.g := fun h => e (by rw [(hx1.mp h).2, hxs])
          have h2 : (x.1.g != p.1.g) = true := by simpa using fun e : x.1.g = p.1.g => hg e.symm
          have h3 : (m ++ [p.1.s]).contains (some t) = m.contains (some t) := by
            have h4 : ¬ some t = p.1.s := fun h => e h.symm
            simp [List.contains_eq_any_beq, List.any_append, h4]
          rw [h2, h3]
          simp
    | false =>
      simp only [Bool.false_eq_true, if_false]
      exact once_dd L _ _ h2
theorem onceF_dd {L : List Wk} (hC : L.Pairwise fun a b => (a.1.g = b.1.g ↔ (b.1.s.isSome = true ∧ a.1.s = b.1.s))) : (onceF (L.map tw)).1 = (dd L).map tw := by
  unfold onceF
  rw [once_dd L [] [] hC, List.nil_append]
  congr 2
  refine List.filter_eq_self.mpr fun p _ => ?_
  unfold nsel
  simp
theorem wks_mem {es : List Ent} {kd : Str} {n : Int} {told : PyData} {p : Wk} (h : p ∈ wks es kd n told) : p.1 ∈ es ∧ p.1.k = kd ∧ p.1.n = n ∧ p.2 = told := by
  obtain ⟨e, he, rfl⟩ := List.mem_map.mp h
  obtain ⟨h1, h2⟩ := List.mem_filter.mp he
  simp only [entQ, Bool.and_eq_true, decide_eq_true_eq] at h2
  exact ⟨h1, h2.1, h2.2, rfl⟩
theorem good_pair {es : List Ent} (G : Good es) : es.Pairwise fun a b => (a.g = b.g ↔ (b.s.isSome = true ∧ a.s = b.s)) := by
  refine List.Pairwise.imp_of_mem (fun {a b} ha hb h => ?_) G.one
  refine ⟨fun e => ?_, fun e => G.gs a ha b hb e.2 (by rw [e.2]; exact e.1)⟩
  have h1 := h e
  have h2 := G.sel a ha b hb e
  exact ⟨by rw [← h2]; exact h1, h2⟩
noncomputable def clL (es : List Ent) (n : Int) : List Wk := wks es sTake n goneD ++ wks es sSend n (panicD sClosed)
theorem clL_pw {es : List Ent} (G : Good es) {n : Int} : (clL es n).Pairwise fun a b => (a.1.g = b.1.g ↔ (b.1.s.isSome = true ∧ a.1.s = b.1.s)) := by
  have h1 : ∀ kd told, (wks es kd n told).Pairwise fun a b => (a.1.g = b.1.g ↔ (b.1.s.isSome = true ∧ a.1.s = b.1.s)) := fun kd told => List.pairwise_map.mpr ((good_pair G).sublist List.filter_sublist)
  refine List.pairwise_append.mpr ⟨h1 _ _, h1 _ _, fun a ha b hb => ?_⟩
  obtain ⟨a1, a2, _, _⟩ := wks_mem ha
  obtain ⟨b1, b2, _, _⟩ := wks_mem hb
  have hne : a.1 ≠ b.1 := fun e => send_ne_take (by rw [← a2, ← b2, e])
  refine ⟨fun e => ?_, fun e => G.gs _ a1 _ b1 e.2 (by rw [e.2]; exact e.1)⟩
  obtain ⟨h2, h3⟩ := G.two a1 b1 hne e
  exact ⟨h3, h2⟩
theorem clL_len {es : List Ent} {n : Int} : (clL es n).length ≤ es.length := by
  unfold clL wks
  rw [List.length_append, List.length_map, List.length_map]
  induction es with
  | nil => exact Nat.le_refl _
  | cons e es ih =>
    have hx : ¬ (entQ sTake n e = true ∧ entQ sSend n e = true) := by
      rintro ⟨h1, h2⟩
      simp only [entQ, Bool.and_eq_true, decide_eq_true_eq] at h1 h2
      exact send_ne_take (h2.1.symm.trans h1.1)
    simp only [List.filter_cons, List.length_cons]
    cases h1 : entQ sTake n e <;> cases h2 : entQ sSend n e
    · simp only [Bool.false_eq_true, if_false]; omega
    · simp only [Bool.false_eq_true, if_false, if_true, List.length_cons]; omega
    · simp only [Bool.false_eq_true, if_false, if_true, List.length_cons]; omega
    · exact absurd ⟨h1, h2⟩ hx
theorem dd_len : ∀ (k : Nat) (l : List Wk), l.length ≤ k → (dd l).length ≤ l.length
  | _, [], _ => by rw [dd_nil]; exact Nat.le_refl _
  | k + 1, q :: l, hk => by
    have h1 := List.length_filter_le (fun x : Wk => x.1.g != q.1.g) l
    have hl : (l.filter fun x => x.1.g != q.1.g).length ≤ k := Nat.le_trans h1 (Nat.le_of_succ_le_succ hk)
    have := dd_len k _ hl
    rw [dd_cons, List.length_cons, List.length_cons]
    omega
theorem foldl_empty {ps : List Wk} {room : Int} {buf : List Value} {cl : Bool} : ps.foldl (fun q p => forget p.1.s q) (⟨room, buf, [], [], cl⟩ : QSt) = ⟨room, buf, [], [], cl⟩ := by
  induction ps with
  | nil => rfl
  | cons p ps ih =>
    rw [List.foldl_cons]
    have : forget p.1.s (⟨room, buf, [], [], cl⟩ : QSt) = ⟨room, buf, [], [], cl⟩ := by
      unfold forget
      cases p.1.s <;> rfl
    rw [this]; exact ih
theorem close_ok {st : St} (I : Inv st) {k : Nat} (hk : k ≤ 19) (Z : Sz k st) {n : Int} (hn : Thr n) : CPre st n ∧ ∀ st', CloseTo st n st' → Inv st' ∧ Sz (k + 1) st' := by
  have hqz : ∀ j, Two j → QSz (st.q j) := fun j hj => I.qsz (by omega) Z hj
  have Zup : Sz (k + 1) st := ⟨by have := Z.es; omega, fun j hj => by have := Z.held j hj; omega, by have := Z.sels; omega, by have := Z.asl; omega, fun s hs => by have := Z.keys s hs; push_cast; omega⟩
  suffices h : ∀ e, n < 2 → CloseEff st n e → COk st n e ∧ Inv (closeSt st n e) ∧ Sz (k + 1) (closeSt st n e) by
    refine ⟨⟨by have := Z.es; omega, by have := Z.asl; omega, hqz, by have := Z.sels; omega, fun h2 e he => (h e h2 he).1⟩, fun st' hto => ?_⟩
    unfold CloseTo at hto
    split at hto
    · rename_i h2
      obtain ⟨e, he, rfl⟩ := hto
      exact (h e h2 he).2
    · rw [hto]; exact ⟨I, Zup⟩
  intro e h2 he
  have hn2 := thr_two hn h2
  have hview := I.view n hn2
  unfold CloseEff at he
  by_cases hcl : st.cl n = true
  · rw [if_pos hcl] at he
    subst he
    have hqc : qClose (st.q n) = ⟨st.q n, .panic sTwice, []⟩ := by rw [qClose, if_pos (by rw [hview]; exact hcl)]
    have hcl2 : setI st.cl n true = st.cl := funext fun j => by
      unfold setI
      split
      · rename_i h; rw [h, hcl]
      · rfl
    have hmid : closeMid st n ⟨st.held n, st.es, panicD sTwice, []⟩ = st := by
      unfold closeMid
      rw [hqc, hcl2, setI_id]
    have hfin : closeSt st n ⟨st.held n, st.es, panicD sTwice, []⟩ = st := by
      unfold closeSt
      rw [hqc, hmid]
      rfl
    refine ⟨⟨by rw [hqc]; trivial, by rw [hmid]; exact hqz, by rw [hqc]; exact Nat.zero_le _, by rw [hqc]; trivial, trivial, Nat.zero_le _, .inr ⟨rfl, by rw [hqc]; rfl⟩, by rw [hqc]; exact .refl _, noMem, .nil⟩, by rw [hfin]; exact I, by rw [hfin]; exact Zup⟩
  · rw [if_neg hcl] at he
    obtain ⟨rows₁, es₁, rows₂, es₂, E1, E2, rfl⟩ := he
    obtain ⟨r1, s1⟩ := ended_dd E1
    obtain ⟨r2, s2⟩ := ended_dd E2
    have hB : wks es₁ sSend n (panicD sClosed) = (wks st.es sSend n (panicD sClosed)).filter fun x => (dd (wks st.es sTake n goneD)).all fun p => x.1.g != p.1.g := by
      rw [s1]
      unfold wks offG
      rw [List.filter_map, List.filter_filter, List.filter_filter]
      congr 1
      refine List.filter_congr fun x _ => ?_
      rw [Bool.and_comm]
      rfl
    have hps : dd (clL st.es n) = dd (wks st.es sTake n goneD) ++ dd (wks es₁ sSend n (panicD sClosed)) := by
      unfold clL
      rw [dd_append _ _ _ (Nat.le_refl _), ← hB]
    have hrows : rows₁ ++ rows₂ = (dd (clL st.es n)).map prow := by rw [hps, List.map_append, r1, r2]
    have hes : es₂ = offG (dd (clL st.es n)) st.es := by rw [hps, offG_append, s2, s1]
    have hqcl : (st.q n).cl = false := by
      rw [hview]
      show st.cl n = false
      simpa using hcl
    have hqc : qClose (st.q n) = ⟨⟨st.room n, st.held n, [], [], true⟩, .done, (dd (clL st.es n)).map wrow⟩ := by
      rw [qClose, if_neg (by rw [hqcl]; decide)]
      have hL : (st.q n).rcv.map (fun x => (x, goneD)) ++ (st.q n).snd.map (fun x => (x, panicD sClosed)) = (clL st.es n).map tw := by
        rw [hview]
        show ((st.es.filter (entQ sTake n)).map toW).map _ ++ ((st.es.filter (entQ sSend n)).map toW).map _ = _
        unfold clL wks
        rw [List.map_append, List.map_map, List.map_map, List.map_map, List.map_map]
        rfl
      rw [hL, onceF_dd (clL_pw I.good), List.map_map, hview]
      rfl
    generalize hpsd : dd (clL st.es n) = ps at hrows hes hqc
    have hmemL : ∀ p ∈ ps, p ∈ clL st.es n := by rw [← hpsd]; exact dd_sub _ _ (Nat.le_refl _)
    have hpn : ∀ p ∈ ps, p.1 ∈ st.es ∧ p.1.n = n ∧ WOk p.2 := fun p hp => by
      rcases List.mem_append.mp (hmemL p hp) with h | h
      · obtain ⟨h1, _, h3, h4⟩ := wks_mem h
        exact ⟨h1, h3, by rw [h4]; exact WOk.got (v := .none) (.inl rfl)⟩
      · obtain ⟨h1, _, h3, h4⟩ := wks_mem h
        exact ⟨h1, h3, by rw [h4]; exact .panic (.inl rfl)⟩
    have hok : WkOk st.es ps := ⟨fun p hp => (hpn p hp).1, by rw [← hpsd]; exact dd_pw _ _ (Nat.le_refl _)⟩
    have hlen : ps.length ≤ st.es.length := by
      rw [← hpsd]
      exact Nat.le_trans (dd_len _ _ (Nat.le_refl _)) clL_len
    have hcov : ∀ x ∈ st.es, x.n = n → ∃ p ∈ ps, p.1.g = x.g := fun x hx hxn => by
      have hxL : ∃ told, (x, told) ∈ clL st.es n := by
        rcases I.good.kd x hx with hk | hk
        · exact ⟨_, List.mem_append_right _ (List.mem_map.mpr ⟨x, List.mem_filter.mpr ⟨hx, by simp [entQ, hk, hxn]⟩, rfl⟩)⟩
        · exact ⟨_, List.mem_append_left _ (List.mem_map.mpr ⟨x, List.mem_filter.mpr ⟨hx, by simp [entQ, hk, hxn]⟩, rfl⟩)⟩
      obtain ⟨told, hxL⟩ := hxL
      rw [← hpsd]
      exact dd_cover _ _ (Nat.le_refl _) _ hxL
    have hempty : ∀ kd, (offG ps st.es).filter (entQ kd n) = [] := fun kd => List.filter_eq_nil_iff.mpr fun x hx hq => by
      obtain ⟨h1, h2⟩ := mem_offG.mp hx
      simp only [entQ, Bool.and_eq_true, decide_eq_true_eq] at hq
      obtain ⟨p, hp, hg⟩ := hcov x h1 hq.2
      exact h2 p hp hg.symm
    have hc0 : ∀ p ∈ ps, p.1.s = none → p.1.c = 0 := fun p hp => I.c0 p.1 (hpn p hp).1
    have hmidq : ∀ j, (closeMid st n ⟨st.held n, es₂, doneD, rows₁ ++ rows₂⟩).q j = setI st.q n ⟨st.room n, st.held n, [], [], true⟩ j := fun j => by
      show setI st.q n (qClose (st.q n)).st j = _
      rw [hqc]
    have hq : ∀ j, Two j → ps.foldl (fun q p => forget p.1.s q) ((closeMid st n ⟨st.held n, es₂, doneD, rows₁ ++ rows₂⟩).q j) = qv (offG ps st.es) j (st.room j) (st.held j) (setI st.cl n true j) := fun j hj => by
      rw [hmidq]
      by_cases ej : j = n
      · subst ej
        rw [setI_same, setI_same, foldl_empty]
        unfold qv
        rw [hempty, hempty]
        rfl
      · rw [setI_ne ej, setI_ne ej, I.view j hj]
        exact views_other I.good hok fun p hp h => ej (h.symm.trans (hpn p hp).2.1)
    have hsub : ∀ j, Two j → ∀ y ∈ ((closeMid st n ⟨st.held n, es₂, doneD, rows₁ ++ rows₂⟩).q j).snd ++ ((closeMid st n ⟨st.held n, es₂, doneD, rows₁ ++ rows₂⟩).q j).rcv, y ∈ (st.q j).snd ++ (st.q j).rcv := fun j hj y hy => by
      rw [hmidq] at hy
      unfold setI at hy
      split at hy
      · cases hy
      · exact hy
    have hHok : HearOk (closeMid st n ⟨st.held n, es₂, doneD, rows₁ ++ rows₂⟩) (ps.map wrow) := I.hearOk hok rfl
    have hmz : ∀ j, Two j → QSz ((closeMid st n ⟨st.held n, es₂, doneD, rows₁ ++ rows₂⟩).q j) := fun j hj => by
      rw [hmidq]
      unfold setI
      split
      · exact ⟨by have := Z.held n hn2; show (st.held n).length ≤ 100; omega, Nat.zero_le _, Nat.zero_le _⟩
      · exact hqz j hj
    have h3k := Z.es
    obtain ⟨z1, z2, z3, z4⟩ := hear_same (rows := ps.map wrow) (st := closeMid st n ⟨st.held n, es₂, doneD, rows₁ ++ rows₂⟩)
    have hfin : closeSt st n ⟨st.held n, es₂, doneD, rows₁ ++ rows₂⟩ = { hearSt (closeMid st n ⟨st.held n, es₂, doneD, rows₁ ++ rows₂⟩) (ps.map wrow) with asl := wokeAsl st.asl (ps.map prow) } := by
      unfold closeSt
      rw [hqc, hear_asl, hrows]
      rfl
    refine ⟨⟨by rw [hqc]; exact hHok, hmz, ?_, by rw [hqc]; trivial, ?_, ?_, .inl ⟨rfl, by rw [hqc]; rfl⟩, ?_, ?_, ?_⟩, ?_, ?_⟩
    · rw [hqc]
      show (ps.map wrow).length ≤ 60
      rw [List.length_map]; omega
    · show WakeOk st.asl (rows₁ ++ rows₂)
      rw [hrows]
      refine wake_ok (fun r hr => ?_) hok.dist
      obtain ⟨p, hp, rfl⟩ := List.mem_map.mp hr
      exact I.asl p.1 (hpn p hp).1
    · show (rows₁ ++ rows₂).length ≤ 60
      rw [hrows, List.length_map]; omega
    · rw [hqc]
      show ((ps.map wrow).map hRow).Perm (rows₁ ++ rows₂)
      rw [hRows_eq hc0, hrows]
    · show ∀ r ∈ rows₁ ++ rows₂, WOk r.w
      rw [hrows]
      intro r hr
      obtain ⟨p, hp, rfl⟩ := List.mem_map.mp hr
      exact (hpn p hp).2.2
    · show (rows₁ ++ rows₂).Pairwise _
      rw [hrows]; exact hok.dist
    · rw [hfin]
      exact I.woken (mid := closeMid st n ⟨st.held n, es₂, doneD, rows₁ ++ rows₂⟩) hok hes rfl hq hsub I.sch rfl rfl rfl rfl rfl rfl rfl
    · rw [hfin]
      refine ⟨?_, fun j hj => ?_, ?_, ?_, fun s hs => ?_⟩
      · show (hearSt _ (ps.map wrow)).es.length ≤ _
        rw [z1]
        show es₂.length ≤ _
        rw [hes]
        have := offG_len (ps := ps) (es := st.es)
        omega
      · show ((hearSt _ (ps.map wrow)).held j).length ≤ _
        rw [z2]
        have := Z.held j hj
        show (st.held j).length ≤ k + 1
        omega
      · have h1 := hear_sels (rows := ps.map wrow) (st := closeMid st n ⟨st.held n, es₂, doneD, rows₁ ++ rows₂⟩)
        have h2 : (closeMid st n ⟨st.held n, es₂, doneD, rows₁ ++ rows₂⟩).sels.length ≤ k := Z.sels
        show (hearSt _ (ps.map wrow)).sels.length ≤ _
        omega
      · show (wokeAsl st.asl (ps.map prow)).length ≤ _
        have h1 := woke_len (rows := ps.map prow) (asl := st.asl)
        have := Z.asl
        omega
      · have h1 : s ∈ st.sels := hear_selSub (ps := ps) (st := closeMid st n ⟨st.held n, es₂, doneD, rows₁ ++ rows₂⟩) s hs
        have := Z.keys s h1
        push_cast; omega
theorem inv0 {r0 r1 : Int} : Inv (st0 r0 r1) := by
  refine ⟨Good.nil, noMem, noMem, fun n hn => ?_, noMem, .nil, noMem, noMem, noMem, fun _ _ => noMem⟩
  rfl
theorem sz0 {r0 r1 : Int} {k : Nat} : Sz k (st0 r0 r1) := ⟨Nat.zero_le _, fun _ _ => Nat.zero_le _, Nat.zero_le _, Nat.zero_le _, noMem⟩
theorem Inv.sizes {st : St} (I : Inv st) {k : Nat} (hk : k ≤ 20) (Z : Sz k st) : ∀ n, Two n → (st.q n).room = st.room n ∧ (st.q n).buf = st.held n ∧ (st.held n).length ≤ 100 := fun n hn => by
  rw [I.view n hn]
  have := Z.held n hn
  exact ⟨rfl, rfl, by omega⟩
end
section
local macro_rules | `(tactic| walk_at $s:str) => `(tactic| k_extra $(Lean.Syntax.mkStrLit ("R " ++ s.getString)))
local macro_rules | `(tactic| walk_at $s:str) => `(tactic| k_extra $(Lean.Syntax.mkStrLit ("R7 " ++ s.getString)))
theorem SceneIn.settleK {w : World} {led₁ new own : List Cell} {A : SA} {M' M'' : MV} {K K' : List Cell} {st st₂ : St} (H₁ : SceneIn w led₁ A M' K st) (hown : OwnOff own (led₁.map (·.1))) (hnt : ∀ p ∈ own, NoTup p.2) (S : SceneIn w new A M'' K' st₂) (kp : Keep A M' (led₁ ++ own) M'' new) (kk : KUp A M' (led₁ ++ own) K K') :
    SceneIn w (offOf (own.map (·.1)) new) A M'' K' st₂ ∧ (∀ p ∈ offOf (own.map (·.1)) new ++ own, p ∈ new) ∧ (∀ q ∈ offOf (own.map (·.1)) new, ∀ p ∈ own, p.1 ≠ q.1) ∧ Keep A M' led₁ M'' (offOf (own.map (·.1)) new) := by
  have h1 := H₁.offOwn hown
  have hk : ∀ p ∈ own, p ∈ new ∧ p.1 ∉ roles A M'' := fun p hp => kp p (List.mem_append_right _ hp) (h1 p hp)
  have ho : ∀ q ∈ led₁, ∀ p ∈ own, p.1 ≠ q.1 := fun q hq p hp => hown p hp q.1 (List.mem_map.mpr ⟨q, hq, rfl⟩)
  refine ⟨S.drop (fun p hp => (hk p hp).2) hnt (fun p hp => (hk p hp).1) fun p hp q hq => (kk.new p hp).elim (fun h => ho p (H₁.K p h).1 q hq) fun h => h q (List.mem_append_right _ hq) (h1 q hq), subApp (fun p hp => (mem_offOf.mp hp).1) fun p hp => (hk p hp).1, fun q hq p hp e => (mem_offOf.mp hq).2 (List.mem_map.mpr ⟨p, hp, e⟩), fun p hp hr => ?_⟩
  obtain ⟨a, b⟩ := kp p (List.mem_append_left _ hp) hr
  exact ⟨mem_offOf.mpr ⟨a, fun hm => by
    obtain ⟨q, hq, e⟩ := List.mem_map.mp hm
    exact ho p hp q hq e⟩, b⟩
theorem rl0 {led K : List Cell} (tH : TabIn 307 222 36 qH led K) (tW : TabIn 314 226 28 qW led K) : Rl led led [307, 314] := by
  obtain ⟨p1, h1, _⟩ := tH.ex
  obtain ⟨p2, h2, _⟩ := tW.ex
  refine ⟨.cons (fun x hx => ?_) (.cons noMem .nil), fun x hx => ?_, fun x hx => ?_⟩
  · rw [List.mem_singleton.mp hx]; decide
  · simp only [List.mem_cons, List.not_mem_nil, or_false] at hx
    rcases hx with rfl | rfl
    · exact ⟨_, h1⟩
    · exact ⟨_, h2⟩
  · simp only [List.mem_cons, List.not_mem_nil, or_false] at hx
    rcases hx with rfl | rfl
    · exact .inl rfl
    · exact .inr (.inl rfl)
structure TD where
  (g : Int) (k : Str) (v : Value)
inductive tdIn (T : List Cell) (x : Value) (d : TD) : Prop where
  | mk (a : _) (c : _) (tg : _) (tk : _) (h1 : x = .ref a) (h2 : (a, tupO [.int d.g tg, .str d.k tk, d.v] c) ∈ T) : tdIn T x d
noncomputable def stepT (st : St) (d : TD) : St := singleSt st d.g d.k 0 d.v
noncomputable def tds (t7 t8 : Tok) : List TD := [⟨0, sSend, .int 7 t7⟩, ⟨1, sSend, .int 8 t8⟩, ⟨2, sTake, .none⟩, ⟨2, sTake, .none⟩]
noncomputable def stN (t7 t8 : Tok) (i : Nat) : St := ((tds t7 t8).take i).foldl stepT (st0 1 0)
theorem stN0 {t7 t8 : Tok} : (stN t7 t8 0).asl = [] := rfl
theorem stN1 {t7 t8 : Tok} : (stN t7 t8 1).asl = [] := by kernel_rfl
theorem stN2 {t7 t8 : Tok} : (stN t7 t8 2).asl = [1] := by kernel_rfl
theorem stN3 {t7 t8 : Tok} : (stN t7 t8 3).asl = [] := by kernel_rfl
theorem stN4 {t7 t8 : Tok} : (stN t7 t8 4).asl = [] := by kernel_rfl
theorem stN_succ {t7 t8 : Tok} {i : Nat} {d : TD} (h : (tds t7 t8)[i]? = some d) : stN t7 t8 (i + 1) = stepT (stN t7 t8 i) d := by
  unfold stN
  rw [take_snoc h, List.foldl_append]
  rfl
theorem td_ok {t7 t8 : Tok} {i : Nat} {d : TD} (h : (tds t7 t8)[i]? = some d) : (d.k = sSend ∨ d.k = sTake) ∧ Sc d.v ∧ d.g ∉ (stN t7 t8 i).asl := by
  match i, h with
  | 0, h => cases h; exact ⟨.inl rfl, .inr ⟨_, _, rfl⟩, by rw [stN0]; exact List.not_mem_nil⟩
  | 1, h => cases h; exact ⟨.inl rfl, .inr ⟨_, _, rfl⟩, by rw [stN1]; exact List.not_mem_nil⟩
  | 2, h => cases h; exact ⟨.inr rfl, .inl rfl, by rw [stN2]; decide⟩
  | 3, h => cases h; exact ⟨.inr rfl, .inl rfl, by rw [stN3]; exact List.not_mem_nil⟩
theorem stN_ok {t7 t8 : Tok} : ∀ i, i ≤ 4 → Inv (stN t7 t8 i) ∧ Sz i (stN t7 t8 i)
  | 0, _ => ⟨inv0, sz0⟩
  | i + 1, hi => by
    obtain ⟨I, Z⟩ := stN_ok i (by omega)
    obtain ⟨d, hd⟩ : ∃ d, (tds t7 t8)[i]? = some d := by
      have : i < (tds t7 t8).length := by show i < 4; omega
      exact ⟨_, List.getElem?_eq_getElem this⟩
    obtain ⟨h1, h2, h3⟩ := td_ok hd
    have S := single_ok I (by omega) Z (n := 0) (.inl rfl) h1 h2 h3
    rw [stN_succ hd]
    exact ⟨S.inv, S.sz⟩
inductive P_scene_call (w : World) (led : List Cell) (K : List Cell) (r0 : Int) (r1 : Int) (r : Value) (new : List Cell) : Prop where
  | mk (A : _) (M : _) (h1 : SceneIn w new A M K (st0 r0 r1)) (h2 : r = .ref A.S) (h3 : (∀ p ∈ led, p ∈ new)) (h4 : ∀ d ∈ roles A M, d = 307 ∨ d = 314 ∨ ∀ p ∈ led, p.1 ≠ d) : P_scene_call w led K r0 r1 r new
noncomputable def T_scene_call (w : World) (led : List Cell) (K : List Cell) (r0 : Int) (r1 : Int) (C : Value → List Cell → Prop) : Prop := ∀ new : List Cell, ∀ A, ∀ M, (SceneIn w new A M K (st0 r0 r1)) → ((∀ p ∈ led, p ∈ new)) → (∀ d ∈ roles A M, d = 307 ∨ d = 314 ∨ ∀ p ∈ led, p.1 ≠ d) → C (.ref A.S) (new)
theorem U_scene_call {w : World} {led : List Cell} {K : List Cell} {r0 : Int} {r1 : Int} : ∀ C, T_scene_call w led K r0 r1 C → ∀ r new, P_scene_call w led K r0 r1 r new → C r new := fun C k9 r new h9 => by
  obtain ⟨A, M, h1, rfl, h3, h4⟩ := h9
  exact k9 new A M h1 h3 h4
theorem scene_call {w : World} {led K : List Cell} {h₀ h : Heap} {L D : Addr} {r0 r1 : Int} {t0 t1 : Tok} {rc : Nat} (_ : News h₀ L h ((D, listOf (List.toArray [.int r0 t0, .int r1 t1]) rc) :: led)) (hK : ∀ p ∈ K, p ∈ led ∧ p.1 ≠ 307 ∧ p.1 ≠ 314) (tH : TabIn 307 222 36 qH led K) (tW : TabIn 314 226 28 qW led K) :
    CallSpec 460 3600 w 298 [.ref D] ((D, listOf (List.toArray [.int r0 t0, .int r1 t1]) rc) :: led) (P_scene_call w led K r0 r1) := by
  have tH1 := tH.mono (led' := (D, listOf (List.toArray [.int r0 t0, .int r1 t1]) rc) :: led) (K' := K) (fun _ h => .tail _ h) fun _ h => h
  have tW1 := tW.mono (led' := (D, listOf (List.toArray [.int r0 t0, .int r1 t1]) rc) :: led) (K' := K) (fun _ h => .tail _ h) fun _ h => h
  refine (scene_spec (w := w) (.head _) (rl0 tH1 tW1) (fun p hp => ⟨.tail _ (hK p hp).1, (hK p hp).2⟩) tH1 tW1).weak (fun _ h => h) ?_
  intro r new _ hp9
  obtain ⟨A, M, H, hr, hls, hro⟩ := hp9
  exact ⟨A, M, H, hr, fun p hp => hls p (.tail _ hp), fun d hd => (hro d hd).imp id fun h => h.imp id fun h p hp => h p (.tail _ hp)⟩
structure ToldPost (led K₀ new K' : List Cell) : Prop where
  sub : ∀ p ∈ led, p.1 ≠ 307 → p.1 ≠ 314 → p ∈ new
  tH : TabIn 307 222 36 qH new K'
  tW : TabIn 314 226 28 qW new K'
  K : ∀ p ∈ K', p ∈ new ∧ p.1 ≠ 307 ∧ p.1 ≠ 314
  Kn : ∀ p ∈ K', p ∈ K₀ ∨ ∀ q ∈ led, q.1 ≠ 307 → q.1 ≠ 314 → q.1 ≠ p.1
theorem in307 {A : SA} {M : MV} : (307 : Addr) ∈ roles A M := by
  unfold roles movR fixR
  simp only [List.mem_append, List.mem_cons, true_or, or_true]
theorem in314 {A : SA} {M : MV} : (314 : Addr) ∈ roles A M := by
  unfold roles movR fixR
  simp only [List.mem_append, List.mem_cons, true_or, or_true]
theorem told_start {w : World} {new K : List Cell} {A : SA} {M : MV} {h₀ h : Heap} {L l0 T0 T1 T2 T3 : Addr} {c n0 n1 n2 n3 : Nat} {a0 a1 a2 a3 b0 b1 b2 b3 t7 t8 : Tok} (H : SceneIn w new A M K (st0 1 0))
    (N : News h₀ L h ((l0, listOf (List.toArray [.ref T0, .ref T1, .ref T2, .ref T3]) c) :: (T3, tupO [.int 2 a3, .str sTake b3, .none] n3) :: (T2, tupO [.int 2 a2, .str sTake b2, .none] n2) :: (T1, tupO [.int 1 a1, .str sSend b1, .int 8 t8] n1) :: (T0, tupO [.int 0 a0, .str sSend b0, .int 7 t7] n0) :: new)) :
    ∃ t7 t8 B0, News h₀ L h B0 ∧ (l0, listOf (List.toArray [.ref T0, .ref T1, .ref T2, .ref T3]) c) ∈ B0 ∧ SceneIn w B0 A M K (stN t7 t8 0) ∧ All2 (tdIn B0) [.ref T0, .ref T1, .ref T2, .ref T3] (tds t7 t8) ∧ ∀ p ∈ new, p ∈ B0 := by
  refine ⟨t7, t8, _, N, .head _, H.mono (fun p hp => ?_) (News.fn N), ?_, fun p hp => ?_⟩
  · exact .tail _ (.tail _ (.tail _ (.tail _ (.tail _ hp))))
  · exact .cons ⟨T0, n0, a0, b0, rfl, .tail _ (.tail _ (.tail _ (.tail _ (.head _))))⟩ (.cons ⟨T1, n1, a1, b1, rfl, .tail _ (.tail _ (.tail _ (.head _)))⟩ (.cons ⟨T2, n2, a2, b2, rfl, .tail _ (.tail _ (.head _))⟩ (.cons ⟨T3, n3, a3, b3, rfl, .tail _ (.head _)⟩ .nil)))
  · exact .tail _ (.tail _ (.tail _ (.tail _ (.tail _ hp))))
theorem tds_step {A : SA} {M M' : MV} {led new : List Cell} {vs : List Value} {ds : List TD} (h : All2 (tdIn led) vs ds) (up : ∀ a us n, (a, tupO us n) ∈ led → (a, tupO us n) ∈ new) : All2 (tdIn new) vs ds :=
  h.mono fun _ _ ⟨a, c, tg, tk, e, hm⟩ => ⟨a, c, tg, tk, e, up _ _ _ hm⟩
inductive P_told_first_spec (led : List Cell) (K : List Cell) (r : Value) (new : List Cell) : Prop where
  | mk (h1 : r = .bool true) (K' : _) (h2 : ToldPost led K new K') : P_told_first_spec led K r new
noncomputable def T_told_first_spec (led : List Cell) (K : List Cell) (C : Value → List Cell → Prop) : Prop := ∀ new : List Cell, ∀ K', (ToldPost led K new K') → C (.bool true) (new)
theorem U_told_first_spec {led : List Cell} {K : List Cell} : ∀ C, T_told_first_spec led K C → ∀ r new, P_told_first_spec led K r new → C r new := fun C k9 r new h9 => by
  obtain ⟨rfl, K', h2⟩ := h9
  exact k9 new K' h2
theorem told_first_spec {w : World} {led K : List Cell} (hK : ∀ p ∈ K, p ∈ led ∧ p.1 ≠ 307 ∧ p.1 ≠ 314) (tH : TabIn 307 222 36 qH led K) (tW : TabIn 314 226 28 qW led K) :
    CallSpec 440 3400 w 359 [] led (P_told_first_spec led K) := by
  unfold CallSpec
  intro gd cn csc a ccd cls outer A₀ base h₀ L m s p loose mean mg mb Q E B F X N T hk ret
  refine wpAny_call ?_
  k_dflt row_room_at enter9
  k_steps
  refine goOn ?_
  rename News _ _ _ _ => N1
  (try k_fold)
  refine' CallSpec.callU (scene_call N1 hK tH tW) U_scene_call ?qhh ?qhf ?qhdp ?qhu ?qB ?qF ?qX ?qN ?qhs ?qT ?qhk ?_
  row_room_at sides9
  intro new A M H hls hro h' tk' F' N'
  clear N1
  k_steps
  rename News _ _ _ _ => N2
  rename_i T0 _ _ _ _ T1 _ _ _ _ T2 _ _ _ _ T3 _ _ _ _ l0 _ _ l9 _ _
  have hlr : l0 ∉ roles A M := H.offRole (ne_of_lt_all (allLtSub l9 (by row_room_at sub9)))
  obtain ⟨t7, t8, B0, N3, hl0, H0, hT0, hsub⟩ := told_start H N2
  clear N2
  (with_unfolding_all refine' for_listN [Str.ofString "goroutine", Str.ofString "kind", Str.ofString "value"] (fun i led₁ => ∃ M' K', SceneIn w led₁ A M' K' (stN t7 t8 i) ∧ Keep A M B0 M' led₁ ∧ KUp A M B0 K K' ∧ All2 (tdIn led₁) [.ref T0, .ref T1, .ref T2, .ref T3] (tds t7 t8)) ?qhh ?qF ?qN (l := l0) (vs := [.ref T0, .ref T1, .ref T2, .ref T3]) (nn := 0) ?qhl ?qh0 ?qturn ?qdone)
  case qhh => rfl
  case qF => assumption
  case qN => assumption
  case qhl => exact hl0
  case qh0 => exact ⟨M, K, H0, Keep.refl, KUp.refl, hT0⟩
  case qturn =>
    intro i v f led₁ own h tk hv hp9 hl₁ hown hnt F₁ N₁
    obtain ⟨M', K', H₁, kp₁, kk₁, hT₁⟩ := hp9
    obtain ⟨d, hd9, ta, tc, tg, tkk, rfl, hm⟩ := hT₁.get hv
    obtain ⟨hk9, hv9, hg9⟩ := td_ok hd9
    have hi9 : i < 4 := by
      have := (List.getElem?_eq_some_iff.mp hd9).1
      exact this
    obtain ⟨I9, Z9⟩ := stN_ok (t7 := t7) (t8 := t8) i (Nat.le_of_lt hi9)
    have S9 := single_ok I9 (Nat.le_trans (Nat.le_of_lt hi9) (by decide)) Z9 (n := 0) (.inl rfl) hk9 hv9 hg9
    have hsn := stN_succ hd9
    have H₉ := H₁.mono (new := led₁ ++ own) (fun p hp => memL hp) (News.fn N₁)
    have mS := H₁.S
    (try show wpAny _ _ _ _ _ _)
    k_fold
    k_steps
    refine goOn ?_
    (try k_fold)
    refine' CallSpec.callU (single_spec H₉ (.inl rfl) S9.pre hv9 hk9) U_single_spec ?qhh ?qhf ?qhdp ?qhu ?qB ?qF ?qX ?qN ?qhs ?qT ?qhk ?_
    row_room_at sides9
    intro new M'' K'' S kp kk h' tk' F' N'
    k_steps
    obtain ⟨S8, q1, q2, q3⟩ := H₁.settleK hown hnt S kp kk
    have hlr₁ : l0 ∉ roles A M' := (kp₁ _ hl0 hlr).2
    exact fend _ (by assumption) (by assumption) (by row_room_at keep9) q1 q2 (fun p hp => by rw [List.mem_singleton.mp hp]; exact (q3 _ hl₁ hlr₁).1) ⟨M'', K'', by rw [hsn]; exact S8, kp₁.trans q3, kk₁.trans kp₁ (KUp.pre (fun p hp hr => ⟨memL hp, hr⟩) kk), tds_step (A := A) (M := M') (M' := M'') hT₁ fun a us n hm => (q3 _ hm (H₁.tup hm)).1⟩
  case qdone =>
    intro f led' h' tk hp9 F' N'
    obtain ⟨M', K', H₁, kp₁, kk₁, hT₁⟩ := hp9
    have H₁ : SceneIn w led' A M' K' (stN t7 t8 4) := H₁
    have mS := H₁.S
    have oS := H₁.oS
    obtain ⟨na, avs, hal, hai⟩ := H₁.al
    rw [stN4] at hai
    cases hai
    k_steps
    rename News _ _ _ _ => N9
    refine eq_same N9 (d := .list []) (.list (vs := []) (n := na) (by row_room_at mem9) .nil) (.list (vs := []) (n := 0) (by row_room_at mem9) .nil) ⟨by simp [PyData.canLay0, PyData.canLayAll0], by simp [PyData.depth, PyData.depthAll]⟩ (by row_room_at units9) ?_
    k_steps
    have hnr : ∀ p ∈ led, p.1 ≠ 307 → p.1 ≠ 314 → p.1 ∉ roles A M := fun p hp n1 n2 hr => by
      rcases hro _ hr with h | h | h
      · exact n1 h
      · exact n2 h
      · exact h p hp rfl
    refine ret _ _ _ _ (by assumption) (by assumption) ⟨rfl, K', fun p hp n1 n2 => .tail _ (kp₁ p (hsub p (hls p hp)) (hnr p hp n1 n2)).1, H₁.tH.mono (fun _ h => .tail _ h) fun _ h => h, H₁.tW.mono (fun _ h => .tail _ h) fun _ h => h, fun p hp => ?_, fun p hp => (kk₁.new p hp).imp id fun h q hq n1 n2 => h q (hsub q (hls q hq)) (hnr q hq n1 n2)⟩
    obtain ⟨a, b⟩ := H₁.K p hp
    exact ⟨.tail _ a, fun e => b (e ▸ in307), fun e => b (e ▸ in314)⟩
end
section
noncomputable def CallSpecL (D U : Nat) (w : World) (f : Addr) (script : Addr) (vs : List Value) (args : List Value) (pre : List Cell) (Post : Value → List Cell → Prop) : Prop :=
  ∀ (gd : Option (List Code)) (cn : Str) (cs : Scope) (a : Addr) (ccd : Value) (cl : List (Str × Addr)) (outer : List Env) (A₀ : Around) (base h₀ : Heap) (L : Addr) (m : Str → Option Value) (s : Shared)
    (p : Program) (loose : List Str) (mean : ExcName → Option Value) (mg mb : Str → Option Value) (Q E : Value → Shared → Prop), h₀.IsList script vs.toArray →
    Below A₀ base outer h₀ → Fr h₀ L s.heap m → (hd.heap_39 w.params).In h₀ → News h₀ L s.heap pre → Top p loose mean mg mb h₀ → cs.kind = .function →
    (∀ r new h' tk', Fr h₀ L h' m → News h₀ L h' new → Post r new → Q r { s with heap := h', toks := tk' }) →
    wpAny (model PG w) (ktrTop D U gd cn cs L a ccd cl outer) (call (.ref f) args) Q E s
theorem len_base {prog : Program} {w : World} {A : Around} {E : Value → Shared → Prop} {s : Shared} {h₀ : Heap} {L a : Addr} {vs : List Value} {m : Str → Option Value} {Q : Value → Shared → Prop} (F : Fr h₀ L s.heap m) (hm : h₀.IsList a vs.toArray) (hl : vs.length < 1000000) (h : Q (.int vs.length (s.toks + 1)) { s with toks := s.toks + 1 + 1 }) :
    wpAny (model prog w) A (call (.builtin "len") [.ref a]) Q E s :=
  len_list (hm.at fun o e => F.keep a o e) (by simp; omega) (by simpa using h)
theorem item_base {prog : Program} {w : World} {A : Around} {E : Value → Shared → Prop} {s : Shared} {h₀ : Heap} {L a : Addr} {value slice : Expr} {vs : List Value} {k : Int} {u : Tok} {x : Value} {m : Str → Option Value} {Q : Value → Shared → Prop}
    (F : Fr h₀ L s.heap m) (hm : h₀.IsList a vs.toArray) (h0 : 0 ≤ k) (hhi : k < 2 ^ 63) (hx : vs[k.toNat]? = some x) (h : Q x s)
    (hs : subscripted slice false (.ref a) (.int k u) = operate [.ref a, .int k u] (getItem (.ref a) (.int k u)) := by with_unfolding_all rfl) :
    wpAny (model prog w) A (subscriptTail value slice (.ref a) (.int k u)) Q E s :=
  have hl : s.heap.IsList a vs.toArray := hm.at fun o e => F.keep a o e
  tail_any hl.typeIs slot_list_getitem.lookup (wpAny_getItem_list hl h0 hhi (by simpa using hx) h) hs
local macro_rules | `(tactic| walk_at $s:str) => `(tactic| k_extra $(Lean.Syntax.mkStrLit ("R8 " ++ s.getString)))
inductive P_pool_specL (led : List Cell) (r : Value) (new : List Cell) : Prop where
  | mk (D : _) (x : _) (y : _) (tx : _) (ty : _) (c : _) (h1 : r = .ref D) (h2 : new = (D, listOf (List.toArray [.int x tx, .int y ty]) c) :: led) (h3 : ∀ p ∈ led, p.1 ≠ D) : P_pool_specL led r new
noncomputable def T_pool_specL (led : List Cell) (C : Value → List Cell → Prop) : Prop := ∀ D, ∀ x, ∀ y, ∀ tx, ∀ ty, ∀ c, (∀ p ∈ led, p.1 ≠ D) → C (.ref D) ((D, listOf (List.toArray [.int x tx, .int y ty]) c) :: led)
theorem U_pool_specL {led : List Cell} : ∀ C, T_pool_specL led C → ∀ r new, P_pool_specL led r new → C r new := fun C k9 r new h9 => by
  obtain ⟨D, x, y, tx, ty, c, rfl, rfl, h3⟩ := h9
  exact k9 D x y tx ty c h3
theorem pool_specL {w : World} {led : List Cell} {sa : Addr} {vs : List Value} {ns : List Int} {tk : Tok} (hI : IntsAre vs ns) (hz : vs.length ≤ 100) :
    CallSpecL 490 3900 w 279 sa vs [.ref sa, .int 0 tk] led (P_pool_specL led) := by
  unfold CallSpecL
  intro gd cn cs a ccd cls outer A₀ base h₀ L m s p loose mean mg mb Q E hL B F X N T hk ret
  refine wpAny_call ?_
  k_dflt row_room_at enter9
  have hL9 := hL.at fun o e => Fr.keep (by assumption) _ o e
  cases hI with
  | nil =>
    k_steps
    all_goals (refine ret _ _ _ _ (by assumption) (by assumption) ⟨_, _, _, _, _, _, rfl, rfl, ?_⟩; first | assumption | exact ne_of_lt_all (by row_room_at lt9) | exact fun p hp => Nat.ne_of_lt ((by assumption : ∀ p ∈ led, p.1 < _) p hp))
  | cons n t hI' =>
    k_steps
    all_goals (refine ret _ _ _ _ (by assumption) (by assumption) ⟨_, _, _, _, _, _, rfl, rfl, ?_⟩; first | assumption | exact ne_of_lt_all (by row_room_at lt9) | exact fun p hp => Nat.ne_of_lt ((by assumption : ∀ p ∈ led, p.1 < _) p hp))
theorem CallSpecL.call {D U : Nat} {w : World} {f script : Addr} {vs : List Value} {args : List Value} {pre : List Cell} {Post : Value → List Cell → Prop} (S : CallSpecL D U w f script vs args pre Post)
    {A : Around} {cn : Str} {cs : Scope} {a : Addr} {ccd : Value} {cl : List (Str × Addr)} {outer : List Env} {A₀ : Around} {base h₀ : Heap} {L : Addr} {m : Str → Option Value} {s : Shared} {news : List Cell}
    {p : Program} {loose : List Str} {mean : ExcName → Option Value} {mg mb : Str → Option Value} {Q E : Value → Shared → Prop} (hL : h₀.IsList script vs.toArray)
    (hh : A.handled = none) (hf : A.frames = some (envX cn cs L a ccd cl :: outer)) (hdp : A.depth ≤ D) (hu : A.units ≤ U)
    (B : Below A₀ base outer h₀) (F : Fr h₀ L s.heap m) (X : (hd.heap_39 w.params).In h₀) (N : News h₀ L s.heap news) (hs : ∀ p ∈ pre, p ∈ news) (T : Top p loose mean mg mb h₀) (hk : cs.kind = .function)
    (ret : ∀ r new h' tk', Fr h₀ L h' m → News h₀ L h' new → Post r new → Q r { s with heap := h', toks := tk' }) : wpAny (model PG w) A (call (.ref f) args) Q E s :=
  wk hh hf hdp hu (S _ cn cs a ccd cl outer A₀ base h₀ L m s p loose mean mg mb Q E hL B F X (News.sub N hs) T hk ret)
end
section
local macro_rules | `(tactic| walk_at $s:str) => `(tactic| k_extra $(Lean.Syntax.mkStrLit ("R " ++ s.getString)))
theorem noTup_cell {o : Obj} {c : Option Value} (h : o.data = .cell c) : NoTup o := fun us k e => by rw [e] at h; cases h
theorem pool_call {w : World} {led : List Cell} {sa : Addr} {vs : List Value} {ns : List Int} {tk : Tok} (hI : IntsAre vs ns) (hz : ns.length ≤ 63) :
    CallSpecL 490 3900 w 279 sa vs [.ref sa, .int 0 tk] led (P_pool_specL led) :=
  pool_specL hI (by rw [hI.length]; omega)
theorem told_call {w : World} {c : Addr} {wc : Obj} :
    CallSpec 440 3400 w 359 [] [(c, wc), (314, tabObj (List.toArray [])), (307, tabObj (List.toArray []))] (P_told_first_spec [(c, wc), (314, tabObj (List.toArray [])), (307, tabObj (List.toArray []))] []) :=
  told_first_spec (fun p hp => absurd hp List.not_mem_nil) ⟨_, .tail _ (.tail _ (.head _)), .inl rfl⟩ ⟨_, .tail _ (.head _), .inl rfl⟩
theorem sub2 {a b : Cell} {l : List Cell} : ∀ p ∈ l, p ∈ a :: b :: l := fun _ h => .tail _ (.tail _ h)
theorem relay2 {h₀ h : Heap} {L : Addr} {c1 c2 sa : Addr} {o1 o2 os : Obj} {r : List Cell} (N : News h₀ L h ((c1, o1) :: (c2, o2) :: (sa, os) :: r)) (hr : ∀ p ∈ r, p.1 ≠ sa) (h1 : c1 ≠ sa) (h2 : c2 ≠ sa) :
    ∃ rest, News h₀ L h ((sa, os) :: rest) ∧ (∀ p ∈ rest, p.1 ≠ sa) ∧ (c1, o1) ∈ rest ∧ (c2, o2) ∈ rest ∧ ∀ p ∈ r, p ∈ rest :=
  ⟨(c1, o1) :: (c2, o2) :: r, News.sub N (subCons (.tail _ (.tail _ (.head _))) (subCons (.head _) (subCons (.tail _ (.head _)) fun p hp => .tail _ (.tail _ (.tail _ hp))))), offHd h1 (offHd h2 hr), .head _, .tail _ (.head _), sub2⟩
inductive JL_ex (w : World) (A : SA) (sa : Addr) (z : Cell) (i : Nat) (led : List Cell) : Prop where
  | mk (M : _) (K : _) (st : _) (h1 : SceneIn w led A M K st) (h2 : SrcIn led K A M sa) (h3 : (z ∈ led ∧ z.1 ∉ roles A M)) (h4 : Inv st) (h5 : Sz i st) : JL_ex w A sa z i led
structure JL (w : World) (A : SA) (sa : Addr) (z : Cell) (i : Nat) (led : List Cell) : Prop where
  ex : JL_ex w A sa z i led
theorem law_scene_at {w : World} {led LO : List Cell} {A : SA} {M : MV} {K : List Cell} {st : St} {sa : Addr} {xs : List Value} {c : Nat} (H : SceneIn w led A M K st) (sr : SrcIn led K A M sa) (g : ∀ p ∈ led, p.1 ≠ sa → p ∈ LO) (hsa : (sa, listOf (List.toArray xs) c) ∈ LO) (hf : Fun LO) : SceneIn w LO A M K st := by
  obtain ⟨x, y, tx, ty, c, hm⟩ := sr.ex
  refine (H.change (o' := listOf (List.toArray xs) _) hm noTup_list sr.nr sr.nk).mono (subCons hsa fun p hp => ?_) hf
  obtain ⟨h1, h2⟩ := mem_offOf.mp hp
  exact g p h1 fun e => h2 (List.mem_singleton.mpr e)
theorem law_src_at {LO : List Cell} {led K : List Cell} {A : SA} {M : MV} {sa : Addr} {x y : Int} {tx ty : Tok} {c : Nat} (sr : SrcIn led K A M sa) (hsa : (sa, listOf (List.toArray [.int x tx, .int y ty]) c) ∈ LO) : SrcIn LO K A M sa := ⟨⟨_, _, _, _, _, hsa⟩, sr.nr, sr.nk⟩
theorem law_end {w : World} {led₁ own new : List Cell} {A : SA} {M' M'' : MV} {K' K'' : List Cell} {st₁ st : St} {sa : Addr} {z : Cell} {i : Nat} (H₁ : SceneIn w led₁ A M' K' st₁) (sr₁ : SrcIn led₁ K' A M' sa) (mz : z ∈ led₁) (hown : OwnOff own (led₁.map (·.1))) (hnt : ∀ p ∈ own, NoTup p.2) (S : SceneIn w new A M'' K'' st) (sr : SrcIn new K'' A M'' sa) (fz : FzK (z :: own) new A M'')
    (kk : ∀ p ∈ K'', p ∈ K' ∨ ∀ q ∈ z :: own, q.1 ≠ p.1) (I : Inv st) (Z : Sz i st) :
    (∀ p ∈ offOf (own.map (·.1)) new ++ own, p ∈ new) ∧ (∀ q ∈ offOf (own.map (·.1)) new, ∀ p ∈ own, p.1 ≠ q.1) ∧ JL w A sa z i (offOf (own.map (·.1)) new) := by
  have ho : ∀ q ∈ led₁, ∀ p ∈ own, p.1 ≠ q.1 := fun q hq p hp => hown p hp q.1 (List.mem_map.mpr ⟨q, hq, rfl⟩)
  have hk : ∀ p ∈ own, p ∈ new ∧ p.1 ∉ roles A M'' := fun p hp => fz p (.tail _ hp)
  have kd : ∀ p ∈ K'', ∀ q ∈ own, q.1 ≠ p.1 := fun p hp q hq => (kk p hp).elim (fun h => ho p (H₁.K p h).1 q hq) fun h => h q (.tail _ hq)
  have up : ∀ p ∈ new, (∀ q ∈ own, q.1 ≠ p.1) → p ∈ offOf (own.map (·.1)) new := fun p hp h => mem_offOf.mpr ⟨hp, fun hm => by
    obtain ⟨q, hq, e⟩ := List.mem_map.mp hm
    exact h q hq e⟩
  refine ⟨subApp (fun p hp => (mem_offOf.mp hp).1) fun p hp => (hk p hp).1, fun q hq p hp e => (mem_offOf.mp hq).2 (List.mem_map.mpr ⟨p, hp, e⟩), ⟨_, _, _, S.drop (fun p hp => (hk p hp).2) hnt (fun p hp => (hk p hp).1) kd, ⟨?_, sr.nr, sr.nk⟩, ⟨up _ (fz _ (.head _)).1 fun q hq => ho _ mz q hq, (fz _ (.head _)).2⟩, I, Z⟩⟩
  obtain ⟨x, y, tx, ty, c, hm⟩ := sr.ex
  obtain ⟨x1, y1, tx1, ty1, c1, hm1⟩ := sr₁.ex
  exact ⟨x, y, tx, ty, c, up _ hm fun q hq => ho _ hm1 q hq⟩
theorem int_thr {vs : List Value} {ns : List Int} {i : Nat} {r : Value} (hi : IntsAre vs ns) (h : vs[i]? = some r) (ht : ∀ n ∈ ns, Thr n) : ∃ n t, r = .int n t ∧ Thr n := by
  obtain ⟨n, t, e, hm⟩ := ints_get hi h
  exact ⟨n, t, e, ht n hm⟩
theorem kk_up {A : SA} {M : MV} {led K K' fr : List Cell} (kk : KUp A M led K K') (fz : FzK fr led A M) : ∀ p ∈ K', p ∈ K ∨ ∀ q ∈ fr, q.1 ≠ p.1 := fun p hp => (kk.new p hp).imp id fun h q hq => h q (fz q hq).1 (fz q hq).2
theorem tup_ne {led : List Cell} {D sa : Addr} {us xs : List Value} {n c : Nat} (hf : Fun led) (h1 : (D, tupO us n) ∈ led) (h2 : (sa, listOf (List.toArray xs) c) ∈ led) : D ≠ sa := fun e => noTup_list _ _ (congrArg Prod.snd (hf _ h1 _ h2 e)).symm
theorem thr_six : ∀ n ∈ [(0 : Int), 0, 0, 1, 1, 2], Thr n := by
  intro n hn
  simp only [List.mem_cons, List.not_mem_nil, or_false] at hn
  unfold Thr
  omega
theorem thr_three : ∀ n ∈ [(0 : Int), 1, 2], Thr n := by
  intro n hn
  simp only [List.mem_cons, List.not_mem_nil, or_false] at hn
  unfold Thr
  omega
theorem law_fz {A : SA} {M : MV} {LO own : List Cell} {z : Cell} (hz : z ∈ LO) (zr : z.1 ∉ roles A M) (ho : ∀ p ∈ own, p ∈ LO) (hr : ∀ p ∈ own, p.1 ∉ roles A M) : FzK (z :: own) LO A M := fun p hp => (List.mem_cons.mp hp).elim (fun e => by rw [e]; exact ⟨hz, zr⟩) fun hp => ⟨ho p hp, hr p hp⟩
theorem free_snoc {gs asl : List Int} {x : Int} (h : ∀ g ∈ gs, g ∉ asl) (hx : (asl.any fun y => y == x) = false) : ∀ g ∈ gs ++ [x], g ∉ asl := fun g hg => (List.mem_append.mp hg).elim (h g) fun hg hm => by
  rw [List.mem_singleton.mp hg] at hm
  have := List.any_eq_false.mp hx x hm
  simp at this
theorem law_walk : PySem.Challenge.rw_on0022_01.Holds := hd (by rfl) (by rfl) (by rfl) (by
  show WalkO hd.view_39 [] (XL hd.view_39 []) (kmHook hd.heap_39 hd.as hd.keys [314, 307]).says _ _ _ _
  k_go0
  (all_goals try k_fold)
  rename News _ _ _ _ => N0
  rename_i wc hwc _ _ _ _ _ _ l0
  rename IntsAre _ _ => hI
  rename Shared => s1
  rename World => w9
  k_steps
  refine goOn ?_
  (try k_fold)
  refine' CallSpec.callU (told_call (wc := wc)) U_told_first_spec ?qhh ?qhf ?qhdp ?qhu ?qB ?qF ?qX ?qN ?qhs ?qT ?qhk ?_
  row_room_at sides9
  intro new1 K1 TP h' tk' F' N1
  (try clear N0)
  have hne1 := Nat.ne_of_gt (Nat.lt_succ_of_lt l0.2.1)
  have hne2 := Nat.ne_of_gt (Nat.lt_succ_of_lt l0.1)
  have mz1 := TP.sub _ (.head _) hne1 hne2
  have hK1 : ∀ p ∈ K1, p.1 ≠ s1.heap.objs.size + 1 := fun p hp => (TP.Kn p hp).elim (fun h => absurd h List.not_mem_nil) fun h => (h _ (.head _) hne1 hne2).symm
  k_steps
  refine goOn ?_
  refine' CallSpecL.call (pool_call hI (by omega)) lifted ?qhh ?qhf ?qhdp ?qhu ?qB ?qF ?qX ?qN ?qhs ?qT ?qhk ?_
  row_room_at sides9
  intro r new h' tk' F' N2 hp9
  obtain ⟨sa, x, y, tx, ty, c, rfl, rfl, hsa⟩ := hp9
  (try clear N1)
  k_steps
  refine goOn ?_
  (try k_fold)
  refine' CallSpec.callU (take_draw_spec (led := new1) (top := 3) (by decide) (by decide) hsa) U_take_draw_spec ?qhh ?qhf ?qhdp ?qhu ?qB ?qF ?qX ?qN ?qhs ?qT ?qhk ?_
  row_room_at sides9
  intro x1 y1 tx1 ty1 c1 r0 tr0 _ _ h' tk' F' N3
  (try clear N2)
  k_steps
  refine goOn ?_
  (try k_fold)
  refine' CallSpec.callU (take_draw_spec (led := new1) (top := 3) (by decide) (by decide) hsa) U_take_draw_spec ?qhh ?qhf ?qhdp ?qhu ?qB ?qF ?qX ?qN ?qhs ?qT ?qhk ?_
  row_room_at sides9
  intro x2 y2 tx2 ty2 c2 r1 tr1 _ _ h' tk' F' N4
  (try clear N3)
  k_steps
  rename News _ _ _ _ => N5
  refine goOn ?_
  (try k_fold)
  refine' CallSpec.callU (scene_call N5 (fun p hp => ⟨.tail _ (TP.K p hp).1, (TP.K p hp).2⟩) (TP.tH.mono (fun _ h => .tail _ h) fun _ h => h) (TP.tW.mono (fun _ h => .tail _ h) fun _ h => h)) U_scene_call ?qhh ?qhf ?qhdp ?qhu ?qB ?qF ?qX ?qN ?qhs ?qT ?qhk ?_
  row_room_at sides9
  intro new2 A M H hls hro h' tk' F' N6
  (try clear N4); (try clear N5)
  have mz2 := hls _ (.tail _ mz1)
  have msa2 := hls _ (.head _)
  have hz0 : s1.heap.objs.size + 1 ∉ roles A M := fun hr => (hro _ hr).elim hne1 fun h => h.elim hne2 fun h => h _ (.tail _ mz1) rfl
  have hsa0 : sa ∉ roles A M := fun hr => by
    obtain ⟨p1, q1, _⟩ := TP.tH.ex
    obtain ⟨p2, q2, _⟩ := TP.tW.ex
    exact (hro _ hr).elim (fun e => hsa _ q1 e.symm) fun h => h.elim (fun e => hsa _ q2 e.symm) fun h => h _ (.head _) rfl
  have hzs := hsa _ mz1
  have hks : ∀ p ∈ K1, p.1 ≠ sa := fun p hp => hsa p (TP.K p hp).1
  have N7 := News.sub (l' := (s1.heap.objs.size + 1, wc) :: offOf [s1.heap.objs.size + 1] new2) N6 (subCons mz2 fun p hp => (mem_offOf.mp hp).1)
  have h7 : ∀ p ∈ offOf [s1.heap.objs.size + 1] new2, p.1 ≠ s1.heap.objs.size + 1 := fun p hp e => (mem_offOf.mp hp).2 (List.mem_singleton.mpr e)
  have HS := fun (o' : Obj) => H.change (o' := o') mz2 (noTup_cell hwc) hz0 hK1
  have msa3 := mem_off1 (a := s1.heap.objs.size + 1) msa2 (Ne.symm hzs)
  clear N6 mz2 msa2 H hls hro
  generalize offOf [s1.heap.objs.size + 1] new2 = rest3 at N7 h7 HS msa3
  k_steps
  rename News _ _ _ _ => N8
  rename_i oz _ hoz
  refine goOn ?_
  have H8 := HS oz
  have N9 := News.sub (l' := (sa, listOf (List.toArray [.int x2 tx2, .int y2 ty2]) c2) :: offOf [sa] ((s1.heap.objs.size + 1, oz) :: rest3)) N8 (subCons (.tail _ msa3) fun p hp => (mem_offOf.mp hp).1)
  have mz8 := mem_off1 (a := sa) (led := (s1.heap.objs.size + 1, oz) :: rest3) (.head _) hzs
  have h9 : ∀ p ∈ offOf [sa] ((s1.heap.objs.size + 1, oz) :: rest3), p.1 ≠ sa := fun p hp e => (mem_offOf.mp hp).2 (List.mem_singleton.mpr e)
  have sr8 : SrcIn ((s1.heap.objs.size + 1, oz) :: rest3) K1 A M sa := ⟨⟨_, _, _, _, _, .tail _ msa3⟩, hsa0, hks⟩
  have g9 : ∀ p ∈ (s1.heap.objs.size + 1, oz) :: rest3, p.1 ≠ sa → p ∈ offOf [sa] ((s1.heap.objs.size + 1, oz) :: rest3) := fun p hp e => mem_off1 hp e
  (try clear N8); (try clear N7); clear HS h7 msa3
  generalize offOf [sa] ((s1.heap.objs.size + 1, oz) :: rest3) = rest4 at N9 mz8 h9 g9
  (try k_fold)
  refine' CallSpec.callU (take_draw_spec (led := rest4) (top := 11) (by decide) (by decide) h9) U_take_draw_spec ?qhh ?qhf ?qhdp ?qhu ?qB ?qF ?qX ?qN ?qhs ?qT ?qhk ?_
  row_room_at sides9
  intro x3 y3 tx3 ty3 c3 d3 td3 hd0 hd1 h' tk' F' N'
  have H9 := law_scene_at (LO := (sa, listOf (List.toArray [.int x3 tx3, .int y3 ty3]) c3) :: rest4) H8 sr8 (fun p hp e => .tail _ (g9 p hp e)) (.head _) (News.fn N')
  have sr9 := law_src_at (LO := (sa, listOf (List.toArray [.int x3 tx3, .int y3 ty3]) c3) :: rest4) sr8 (.head _)
  (try clear N9); clear H8 sr8
  k_steps
  have hn9 : (((6 + d3).toNat : Nat) : Int) = 6 + d3 := by omega
  (with_unfolding_all refine' for_rangeN [Str.ofString "turn", Str.ofString "free", Str.ofString "goroutine", Str.ofString "way", Str.ofString "is_right"] (JL w9 A sa (s1.heap.objs.size + 1, oz)) (n := (6 + d3).toNat) (a := 0) (b := 6 + d3) ?qhh ?qF ?qN ?qhr ?qhsm ?qhn ?qh0 ?qturn ?qdone)
  case qhh => rfl
  case qF => assumption
  case qN => assumption
  case qhr => assumption
  case qhsm => exact small_one (by decide) (by decide) (by omega) (by omega)
  case qhn => rw [← hn9, rangeSize_nat]; omega
  case qh0 => exact ⟨M, K1, _, H9, sr9, ⟨.tail _ mz8, hz0⟩, inv0, sz0⟩
  case qturn =>
    intro i t9 f led₁ own h tk hi hp9 hown hnt F₁ N₁
    obtain ⟨M', K', st, H₁, sr₁, ⟨mz₁, zr₁⟩, I₁, Z₁⟩ := hp9
    rw [Int.zero_add]
    have hi19 : i ≤ 19 := by omega
    obtain ⟨x4, y4, tx4, ty4, c4, msa₁⟩ := sr₁.ex
    have hO : ∀ p ∈ own, p.1 ≠ sa := fun p hp => hown p hp _ (List.mem_map.mpr ⟨_, msa₁, rfl⟩)
    have N5 := News.sub (l' := (sa, listOf (List.toArray [.int x4 tx4, .int y4 ty4]) c4) :: offOf [sa] (led₁ ++ own)) N₁ (subCons (memL msa₁) fun p hp => (mem_offOf.mp hp).1)
    have h5 : ∀ p ∈ offOf [sa] (led₁ ++ own), p.1 ≠ sa := fun p hp e => (mem_offOf.mp hp).2 (List.mem_singleton.mpr e)
    have g5 : ∀ p ∈ led₁, p.1 ≠ sa → p ∈ offOf [sa] (led₁ ++ own) := fun p hp e => mem_off1 (memL hp) e
    have gO : ∀ p ∈ own, p ∈ offOf [sa] (led₁ ++ own) := fun p hp => mem_off1 (memR hp) (hO p hp)
    obtain ⟨na, avs, mAL, hai⟩ := H₁.al
    have hrl : ∀ a ∈ roles A M', a ≠ sa := fun a ha e => sr₁.nr (e ▸ ha)
    have mAL5 := g5 _ mAL (hrl _ (by row_room_at im9))
    have mS5 := g5 _ H₁.S (hrl _ (by row_room_at im9))
    have mz5 := g5 _ mz₁ hzs
    have oS := H₁.oS
    obtain ⟨p1, q1, _⟩ := H₁.tH.ex
    obtain ⟨p2, q2, _⟩ := H₁.tW.ex
    have q15 := g5 _ q1 (hrl _ in307)
    have q25 := g5 _ q2 (hrl _ in314)
    clear N₁
    generalize offOf [sa] (led₁ ++ own) = rest5 at N5 h5 g5 gO mAL5 mS5 mz5 q15 q25
    (try show wpAny _ _ _ _ _ _)
    k_fold
    k_steps
    (with_unfolding_all refine' comp_range (n := 4) (a := 0) (b := 4) (fun j ys tl => tl = [] ∧ ∃ gs, IntsAre ys gs ∧ (∀ g ∈ gs, g ∉ st.asl) ∧ gs.length ≤ j) ?qhh ?qF ?qN ?qhr ?qhsm ?qhrn ?qhn ?qh0 ?qhx ?qhkd ?qturn1 ?qdone1)
    case qhh => rfl
    case qF => assumption
    case qN => assumption
    case qhr => assumption
    case qhsm => exact small_one (by decide) (by decide) (by decide) (by decide)
    case qhrn => rfl
    case qhn => rw [sizeLine_eq]; omega
    case qh0 => exact ⟨rfl, [], .nil, fun g hg => absurd hg List.not_mem_nil, Nat.le_refl _⟩
    case qhx => intro C'; rfl
    case qhkd => intro C'; rfl
    case qturn1 =>
      intro C j t ys tl own2 h tk h₁ tk₁ oC m₂ E' hj hK hys ht ho9 hoC hN hx F₁ N₁
      obtain ⟨rfl, gs, hgs, hgn, hgl⟩ := hK
      (try simp only [List.append_nil, List.cons_append] at N₁)
      refine growTurn_one ?_
      (try show wpAny _ _ _ _ _ _)
      k_fold
      k_steps
      · refine CGrow.intro [] (by assumption) (by assumption) (by row_room_at sub9) (by assumption) offNil offNil offNil ⟨rfl, gs, hgs, hgn, Nat.le_succ_of_le hgl⟩
      · refine CGrow.intro [] (by assumption) (by assumption) (by row_room_at sub9) (by assumption) offNil offNil offNil ⟨rfl, gs ++ [0 + (j : Int)], ints_snoc hgs, ?_, by rw [List.length_append]; exact Nat.succ_le_succ hgl⟩
        exact free_snoc hgn (by assumption)
    case qdone1 =>
      intro s₂ Fd ys tl fc h' tk hs ht N₁ hD hK
      obtain ⟨hh, rfl⟩ := hs
      obtain ⟨rfl, gs, hgs, hgn, hgl⟩ := hK
      simp only [List.append_nil] at N₁ hD
      have hFsa : Fd ≠ sa := (hD _ (.head _)).symm
      have hyl := hgs.length
      unfold finA
      intro F₁
      k_steps
      refine goOn ?_
      rename News _ _ _ _ => N8
      cases gs with
      | nil =>
        refine eq_same N8 (d := .list []) (.list (vs := ys) (n := fc) (by row_room_at mem9) (ints_rall hgs)) (.list (vs := []) (n := 0) (by row_room_at mem9) .nil) (tame_ints (ns := [])) (by row_room_at units9) ?_
        k_steps
      | cons g9 gs' =>
        refine eq_diff N8 (d' := .list []) (.list (vs := ys) (n := fc) (by row_room_at mem9) (ints_rall hgs)) (.list (vs := []) (n := 0) (by row_room_at mem9) .nil) (tame_ints (ns := g9 :: gs')) (tame_ints (ns := [])) (by simp [PyData.eqv, PyData.eqvAll]) (by row_room_at units9) ?_
        k_steps
        rename News _ _ _ _ => N10
        rename_i E9 _ _ l9 _ _
        refine goOn ?_
        have hE : E9 ≠ sa := Nat.ne_of_gt l9.2.1
        obtain ⟨rest6, N11, h6, mE, mF, g6⟩ := relay2 N10 h5 hE hFsa
        have mz6 := g6 _ mz5
        have mS6 := g6 _ mS5
        (try clear N10); (try clear N8); (try clear N5)
        (try k_fold)
        refine' CallSpec.callU (one_spec (led := rest6) mF (by rw [hyl]; exact Nat.succ_pos _) (by omega) h6) U_one_spec ?qhh ?qhf ?qhdp ?qhu ?qB ?qF ?qX ?qN ?qhs ?qT ?qhk ?_
        row_room_at sides9
        intro r x5 y5 tx5 ty5 c5 j9 hj9 h' tk' F' N'
        obtain ⟨g, tg, rfl, hg⟩ := ints_get hgs hj9
        have hga := hgn g hg
        (try clear N11)
        k_steps
        refine goOn ?_
        (try k_fold)
        refine' CallSpec.callU (take_draw_spec (led := rest6) (top := 9) (by decide) (by decide) h6) U_take_draw_spec ?qhh ?qhf ?qhdp ?qhu ?qB ?qF ?qX ?qN ?qhs ?qT ?qhk ?_
        row_room_at sides9
        intro x6 y6 tx6 ty6 c6 d6 td6 hq0 hq1 h' tk' F' N'
        k_steps
        · have S9 := fun (n : Int) (hn : Thr n) => single_ok I₁ hi19 Z₁ (kd := sSend) hn (.inl rfl) (v := .int (i : Int) t9) (.inr ⟨_, _, rfl⟩) hga
          rename News _ _ _ _ => Na
          rename_i la _ _ lla _ _
          refine goOn ?_
          obtain ⟨rest7, Nb, h7, ml7, _, g7⟩ := relay2 Na h6 (Nat.ne_of_gt lla.2.1) (tup_ne (n := 0) (News.fn Na) (.tail _ (.head _)) (.tail _ (.tail _ (.head _))))
          (try clear Na)
          (try k_fold)
          refine' CallSpec.callU (one_spec (led := rest7) ml7 (Nat.le_of_ble_eq_true rfl) (Nat.le_of_ble_eq_true rfl) h7) U_one_spec ?qhh ?qhf ?qhdp ?qhu ?qB ?qF ?qX ?qN ?qhs ?qT ?qhk ?_
          row_room_at sides9
          intro r x7 y7 tx7 ty7 c7 j8 hj8 h' tk' F' N'
          obtain ⟨n, tn, rfl, hn3⟩ := int_thr (.cons 0 _ (.cons 0 _ (.cons 0 _ (.cons 1 _ (.cons 1 _ (.cons 2 _ .nil)))))) hj8 thr_six
          (try clear Nb)
          have Hop := law_scene_at (LO := (sa, listOf (List.toArray [.int x7 tx7, .int y7 ty7]) c7) :: rest7) H₁ sr₁ (fun p hp e => .tail _ (g7 _ (g6 _ (g5 p hp e)))) (.head _) (News.fn N')
          have srop := law_src_at (LO := (sa, listOf (List.toArray [.int x7 tx7, .int y7 ty7]) c7) :: rest7) sr₁ (.head _)
          have fzop : FzK ((s1.heap.objs.size + 1, oz) :: own) ((sa, listOf (List.toArray [.int x7 tx7, .int y7 ty7]) c7) :: rest7) A M' := law_fz (.tail _ (g7 _ mz6)) zr₁ (fun p hp => .tail _ (g7 _ (g6 _ (gO p hp)))) (H₁.offOwn hown)
          have mz7 := g7 _ mz6
          have mS7 := g7 _ mS6
          k_steps
          refine goOn ?_
          (try k_fold)
          refine' CallSpec.callU (single_spec Hop hn3 (S9 n hn3).pre (.inr ⟨_, _, rfl⟩) (.inl rfl)) U_single_spec ?qhh ?qhf ?qhdp ?qhu ?qB ?qF ?qX ?qN ?qhs ?qT ?qhk ?_
          row_room_at sides9
          intro new M2 K2 S kp kk h' tk' F' N'
          have fz2 := fzop.step kp
          have sr2 := srop.step kp kk
          have kk2 := kk_up kk fzop
          have I2 := (S9 n hn3).inv
          have Z2 := (S9 n hn3).sz
          have mz8 := (fz2 _ (.head _)).1
          have mS8 := S.S
          k_steps
          refine goOn ?_
          (try k_fold)
          refine' CallSpec.callU (sizes_spec S (I2.sizes (k := i + 1) (by omega) Z2)) U2 ?qhh ?qhf ?qhdp ?qhu ?qB ?qF ?qX ?qN ?qhs ?qT ?qhk ?_
          row_room_at sides9
          intro h' tk' F' N'
          k_steps
          obtain ⟨e1, e2, e3⟩ := law_end H₁ sr₁ mz₁ hown hnt S sr2 fz2 kk2 I2 Z2
          exact fend _ (by assumption) (by assumption) (by row_room_at keep9) e1 e2 (fun p hp => absurd hp List.not_mem_nil) e3
        · have S9 := fun (n : Int) (hn : Thr n) => single_ok I₁ hi19 Z₁ (kd := sTake) hn (.inr rfl) (v := .int (i : Int) t9) (.inr ⟨_, _, rfl⟩) hga
          rename News _ _ _ _ => Na
          rename_i la _ _ lla _ _
          refine goOn ?_
          obtain ⟨rest7, Nb, h7, ml7, _, g7⟩ := relay2 Na h6 (Nat.ne_of_gt lla.2.1) (tup_ne (n := 0) (News.fn Na) (.tail _ (.head _)) (.tail _ (.tail _ (.head _))))
          (try clear Na)
          (try k_fold)
          refine' CallSpec.callU (one_spec (led := rest7) ml7 (Nat.le_of_ble_eq_true rfl) (Nat.le_of_ble_eq_true rfl) h7) U_one_spec ?qhh ?qhf ?qhdp ?qhu ?qB ?qF ?qX ?qN ?qhs ?qT ?qhk ?_
          row_room_at sides9
          intro r x7 y7 tx7 ty7 c7 j8 hj8 h' tk' F' N'
          obtain ⟨n, tn, rfl, hn3⟩ := int_thr (.cons 0 _ (.cons 0 _ (.cons 0 _ (.cons 1 _ (.cons 1 _ (.cons 2 _ .nil)))))) hj8 thr_six
          (try clear Nb)
          have Hop := law_scene_at (LO := (sa, listOf (List.toArray [.int x7 tx7, .int y7 ty7]) c7) :: rest7) H₁ sr₁ (fun p hp e => .tail _ (g7 _ (g6 _ (g5 p hp e)))) (.head _) (News.fn N')
          have srop := law_src_at (LO := (sa, listOf (List.toArray [.int x7 tx7, .int y7 ty7]) c7) :: rest7) sr₁ (.head _)
          have fzop : FzK ((s1.heap.objs.size + 1, oz) :: own) ((sa, listOf (List.toArray [.int x7 tx7, .int y7 ty7]) c7) :: rest7) A M' := law_fz (.tail _ (g7 _ mz6)) zr₁ (fun p hp => .tail _ (g7 _ (g6 _ (gO p hp)))) (H₁.offOwn hown)
          have mz7 := g7 _ mz6
          have mS7 := g7 _ mS6
          k_steps
          refine goOn ?_
          (try k_fold)
          refine' CallSpec.callU (single_spec Hop hn3 (S9 n hn3).pre (.inr ⟨_, _, rfl⟩) (.inr rfl)) U_single_spec ?qhh ?qhf ?qhdp ?qhu ?qB ?qF ?qX ?qN ?qhs ?qT ?qhk ?_
          row_room_at sides9
          intro new M2 K2 S kp kk h' tk' F' N'
          have fz2 := fzop.step kp
          have sr2 := srop.step kp kk
          have kk2 := kk_up kk fzop
          have I2 := (S9 n hn3).inv
          have Z2 := (S9 n hn3).sz
          have mz8 := (fz2 _ (.head _)).1
          have mS8 := S.S
          k_steps
          refine goOn ?_
          (try k_fold)
          refine' CallSpec.callU (sizes_spec S (I2.sizes (k := i + 1) (by omega) Z2)) U2 ?qhh ?qhf ?qhdp ?qhu ?qB ?qF ?qX ?qN ?qhs ?qT ?qhk ?_
          row_room_at sides9
          intro h' tk' F' N'
          k_steps
          obtain ⟨e1, e2, e3⟩ := law_end H₁ sr₁ mz₁ hown hnt S sr2 fz2 kk2 I2 Z2
          exact fend _ (by assumption) (by assumption) (by row_room_at keep9) e1 e2 (fun p hp => absurd hp List.not_mem_nil) e3
        · rename News _ _ _ _ => Na
          refine goOn ?_
          obtain ⟨LO, No, gLO, mO⟩ : ∃ LO, News _ _ _ LO ∧ (∀ p ∈ rest6, p ∈ LO) ∧ (sa, listOf (List.toArray [.int x6 tx6, .int y6 ty6]) c6) ∈ LO := ⟨_, Na, sub2, .tail _ (.head _)⟩
          (try clear Na)
          have Hop := law_scene_at H₁ sr₁ (fun p hp e => gLO _ (g6 _ (g5 p hp e))) mO (News.fn No)
          have srop := law_src_at sr₁ mO
          have fzop : FzK ((s1.heap.objs.size + 1, oz) :: own) LO A M' := law_fz (gLO _ mz6) zr₁ (fun p hp => gLO _ (g6 _ (gO p hp))) (H₁.offOwn hown)
          obtain ⟨hLP, hafter⟩ := select_ok I₁ hi19 Z₁ hga
          (try k_fold)
          refine' CallSpec.callU (select_spec fzop (offHd hzs hO) Hop srop (Int.natCast_nonneg i) (by omega) hLP) U_select_spec ?qhh ?qhf ?qhdp ?qhu ?qB ?qF ?qX ?qN ?qhs ?qT ?qhk ?_
          row_room_at sides9
          intro new M2 K2 ds st2 hto hds hdz S sr2 fz2 kk2 h' tk' F' N'
          obtain ⟨I2, Z2⟩ := hafter ds st2 hds hdz hto
          have mz8 := (fz2 _ (.head _)).1
          have mS8 := S.S
          k_steps
          refine goOn ?_
          (try k_fold)
          refine' CallSpec.callU (sizes_spec S (I2.sizes (k := i + 1) (by omega) Z2)) U2 ?qhh ?qhf ?qhdp ?qhu ?qB ?qF ?qX ?qN ?qhs ?qT ?qhk ?_
          row_room_at sides9
          intro h' tk' F' N'
          k_steps
          obtain ⟨e1, e2, e3⟩ := law_end H₁ sr₁ mz₁ hown hnt S sr2 fz2 kk2 I2 Z2
          exact fend _ (by assumption) (by assumption) (by row_room_at keep9) e1 e2 (fun p hp => absurd hp List.not_mem_nil) e3
        · rename News _ _ _ _ => Na
          rename_i la _ _ lla _ _
          refine goOn ?_
          obtain ⟨rest7, Nb, h7, ml7, _, g7⟩ := relay2 Na h6 (Nat.ne_of_gt lla.2.1) (tup_ne (n := 0) (News.fn Na) (.tail _ (.head _)) (.tail _ (.tail _ (.head _))))
          (try clear Na)
          (try k_fold)
          refine' CallSpec.callU (one_spec (led := rest7) ml7 (Nat.le_of_ble_eq_true rfl) (Nat.le_of_ble_eq_true rfl) h7) U_one_spec ?qhh ?qhf ?qhdp ?qhu ?qB ?qF ?qX ?qN ?qhs ?qT ?qhk ?_
          row_room_at sides9
          intro r x7 y7 tx7 ty7 c7 j8 hj8 h' tk' F' N'
          obtain ⟨n, tn, rfl, hn3⟩ := int_thr (.cons 0 _ (.cons 1 _ (.cons 2 _ .nil))) hj8 thr_three
          (try clear Nb)
          have Hop := law_scene_at (LO := (sa, listOf (List.toArray [.int x7 tx7, .int y7 ty7]) c7) :: rest7) H₁ sr₁ (fun p hp e => .tail _ (g7 _ (g6 _ (g5 p hp e)))) (.head _) (News.fn N')
          have srop := law_src_at (LO := (sa, listOf (List.toArray [.int x7 tx7, .int y7 ty7]) c7) :: rest7) sr₁ (.head _)
          have fzop : FzK ((s1.heap.objs.size + 1, oz) :: own) ((sa, listOf (List.toArray [.int x7 tx7, .int y7 ty7]) c7) :: rest7) A M' := law_fz (.tail _ (g7 _ mz6)) zr₁ (fun p hp => .tail _ (g7 _ (g6 _ (gO p hp)))) (H₁.offOwn hown)
          have mz7 := g7 _ mz6
          have mS7 := g7 _ mS6
          k_steps
          refine goOn ?_
          obtain ⟨hcp, hafter⟩ := close_ok I₁ hi19 Z₁ hn3
          (try k_fold)
          refine' CallSpec.callU (close_right_spec Hop hn3 hcp) U_close_right_spec ?qhh ?qhf ?qhdp ?qhu ?qB ?qF ?qX ?qN ?qhs ?qT ?qhk ?_
          row_room_at sides9
          intro new M2 K2 st2 hto S kp kk h' tk' F' N'
          have fz2 := fzop.step kp
          have sr2 := srop.step kp kk
          have kk2 := kk_up kk fzop
          obtain ⟨I2, Z2⟩ := hafter st2 hto
          have mz8 := (fz2 _ (.head _)).1
          have mS8 := S.S
          k_steps
          refine goOn ?_
          (try k_fold)
          refine' CallSpec.callU (sizes_spec S (I2.sizes (k := i + 1) (by omega) Z2)) U2 ?qhh ?qhf ?qhdp ?qhu ?qB ?qF ?qX ?qN ?qhs ?qT ?qhk ?_
          row_room_at sides9
          intro h' tk' F' N'
          k_steps
          obtain ⟨e1, e2, e3⟩ := law_end H₁ sr₁ mz₁ hown hnt S sr2 fz2 kk2 I2 Z2
          exact fend _ (by assumption) (by assumption) (by row_room_at keep9) e1 e2 (fun p hp => absurd hp List.not_mem_nil) e3
  case qdone =>
    intro f led' h' tk hp9 F' N'
    obtain ⟨M', K', st, H₁, sr₁, ⟨mz₁, zr₁⟩, I₁, Z₁⟩ := hp9
    obtain ⟨p1, q1, _⟩ := H₁.tH.ex
    obtain ⟨p2, q2, _⟩ := H₁.tW.ex
    k_steps)
end
end Mine.Internal
theorem PySem.Challenge.cw_on0022_01_holds : PySem.Challenge.rw_on0022_01.Holds := by
  exact Mine.Internal.law_walk
