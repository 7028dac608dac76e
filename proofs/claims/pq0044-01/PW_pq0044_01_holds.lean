import PyProof.Rows.All
import Wide.All
import OpenK.AllK
import Wide.FinOn
import Lean
import PySem.Challenge.RW_pq0044_01
set_option Elab.async false
section
open PySem PySem.W PyProof.Rows
set_option maxRecDepth 100000
set_option maxHeartbeats 8000000
namespace Mine
noncomputable def pz : Program := PySem.Challenge.pw_pq0044_01
noncomputable def topS (i : Nat) : Stmt := (pz.main.body[i]?).getD (.Pass ⟨0,0,0,0⟩)
noncomputable def clsS (i : Nat) : Stmt := match topS 6 with
  | .ClassDef _ _ _ b _ _ _ _ _ _ _ => (b[i]?).getD (.Pass ⟨0,0,0,0⟩)
  | s => s
/-- the object that a def leaves -/
noncomputable def fnO (s : Stmt) (q md : Str) (tk : Tok) (cd : Addr) : Obj := match s with
  | .FunctionDef n a b _ _ _ sc _ _ _ => ⟨.type "function", none, .func ⟨n, q, a, .stmts b, sc, 3, [], .none, .none, .none, .str md tk, none, .ref cd, .none, 0⟩, #[]⟩
  | _ => ⟨.none, none, .plain, #[]⟩
/-- what stands behind the top, as far as the walk needs it -/
noncomputable def heapK : Params → Frag := fun P => [
  ((nat_lit 2),⟨.none,none,(.dict #[] 0),#[]⟩),
  ((nat_lit 3),⟨(.type "dict"),none,(.dict #[⟨(PyData.keyHash P "__name__"),(.str "__name__" 165),(.str "law_pq0044_01" 347)⟩,⟨(PyData.keyHash P "__doc__"),(.str "__doc__" 166),.none⟩,⟨(PyData.keyHash P "__package__"),(.str "__package__" 167),.none⟩,⟨(PyData.keyHash P "__loader__"),(.str "__loader__" 168),(.builtin "__main__.__loader__#opaque")⟩,⟨(PyData.keyHash P "__spec__"),(.str "__spec__" 169),.none⟩,⟨(PyData.keyHash P "__annotations__"),(.str "__annotations__" 170),(.ref 6)⟩,⟨(PyData.keyHash P "__builtins__"),(.str "__builtins__" 171),(.ref 4)⟩,⟨(PyData.keyHash P "__file__"),(.str "__file__" 173),(.str "/claim/cut.py" 172)⟩,⟨(PyData.keyHash P "__cached__"),(.str "__cached__" 174),.none⟩,⟨(PyData.keyHash P "_wall"),(.str "_wall" 193),(.ref 21)⟩,⟨(PyData.keyHash P "parts"),(.str "parts" 201),(.ref 26)⟩,⟨(PyData.keyHash P "key_of"),(.str "key_of" 207),(.ref 31)⟩,⟨(PyData.keyHash P "in_order_of"),(.str "in_order_of" 215),(.ref 36)⟩,⟨(PyData.keyHash P "Bags"),(.str "Bags" 346),(.ref 131)⟩,⟨(PyData.keyHash P "_law_draw"),(.str "_law_draw" 358),(.ref 142)⟩,⟨(PyData.keyHash P "_law_small"),(.str "_law_small" 365),(.ref 149)⟩,⟨(PyData.keyHash P "_law_term"),(.str "_law_term" 371),(.ref 154)⟩,⟨(PyData.keyHash P "_law_turns"),(.str "_law_turns" 377),(.ref 159)⟩,⟨(PyData.keyHash P "_law_reached"),(.str "_law_reached" 388),(.ref 166)⟩,⟨(PyData.keyHash P "_law_bent"),(.str "_law_bent" 398),(.ref 173)⟩,⟨(PyData.keyHash P "law"),(.str "law" 404),(.ref 178)⟩] 21),#[]⟩),
  ((nat_lit 25),⟨(.type "code"),none,(.fields #[(.str "parts" 196),(.str "parts" 197),(.str "/claim/cut.py" 198),(.int 5 0),(.int 1 0),(.int 0 0),(.int 0 0),(.int 3 0),(.ref 22),(.bool true),(.int 181 0),(.ref 23),.none,.none,.none,(.ref 24),(.int 199 0),(.int 5 0),(.str "/claim/cut.py" 200)]),#[]⟩),
  ((nat_lit 26),fnO (topS 2) "parts" "alikeheap.terms" 194 25),
  ((nat_lit 30),⟨(.type "code"),none,(.fields #[(.str "key_of" 202),(.str "key_of" 203),(.str "/claim/cut.py" 204),(.int 10 0),(.int 1 0),(.int 0 0),(.int 0 0),(.int 3 0),(.ref 27),(.bool true),(.int 181 0),(.ref 28),.none,.none,.none,(.ref 29),(.int 205 0),(.int 10 0),(.str "/claim/cut.py" 206)]),#[]⟩),
  ((nat_lit 31),fnO (topS 3) "key_of" "alikeheap.terms" 194 30),
  ((nat_lit 35),⟨(.type "code"),none,(.fields #[(.str "in_order_of" 210),(.str "in_order_of" 211),(.str "/claim/cut.py" 212),(.int 14 0),(.int 1 0),(.int 0 0),(.int 0 0),(.int 3 0),(.ref 32),(.bool true),(.int 181 0),(.ref 33),.none,.none,.none,(.ref 34),(.int 213 0),(.int 14 0),(.str "/claim/cut.py" 214)]),#[]⟩),
  ((nat_lit 36),fnO (topS 5) "in_order_of" "alikeheap.bags" 208 35),
  ((nat_lit 49),⟨(.type "code"),none,(.fields #[(.str "__init__" 228),(.str "Bags.__init__" 229),(.str "/claim/cut.py" 230),(.int 18 0),(.int 2 0),(.int 0 0),(.int 0 0),(.int 3 0),(.ref 44),(.bool true),(.int 181 0),(.ref 45),.none,(.ref 46),(.ref 47),(.ref 48),(.int 233 0),(.int 18 0),(.str "/claim/cut.py" 234)]),#[]⟩),
  ((nat_lit 50),fnO (clsS 0) "Bags.__init__" "alikeheap.bags" 208 49),
  ((nat_lit 56),⟨(.type "code"),none,(.fields #[(.str "is_bag" 236),(.str "Bags.is_bag" 237),(.str "/claim/cut.py" 238),(.int 21 0),(.int 2 0),(.int 0 0),(.int 0 0),(.int 3 0),(.ref 51),(.bool true),(.int 181 0),(.ref 52),.none,(.ref 53),(.ref 54),(.ref 55),(.int 241 0),(.int 21 0),(.str "/claim/cut.py" 242)]),#[]⟩),
  ((nat_lit 57),fnO (clsS 1) "Bags.is_bag" "alikeheap.bags" 208 56),
  ((nat_lit 61),⟨(.type "code"),none,(.fields #[(.str "kids" 244),(.str "Bags.kids" 245),(.str "/claim/cut.py" 246),(.int 24 0),(.int 3 0),(.int 0 0),(.int 0 0),(.int 3 0),(.ref 58),(.bool true),(.int 181 0),(.ref 59),.none,.none,.none,(.ref 60),(.int 247 0),(.int 24 0),(.str "/claim/cut.py" 248)]),#[]⟩),
  ((nat_lit 62),fnO (clsS 2) "Bags.kids" "alikeheap.bags" 208 61),
  ((nat_lit 66),⟨(.type "code"),none,(.fields #[(.str "made" 250),(.str "Bags.made" 251),(.str "/claim/cut.py" 252),(.int 29 0),(.int 3 0),(.int 0 0),(.int 0 0),(.int 3 0),(.ref 63),(.bool true),(.int 181 0),(.ref 64),.none,.none,.none,(.ref 65),(.int 253 0),(.int 29 0),(.str "/claim/cut.py" 254)]),#[]⟩),
  ((nat_lit 67),fnO (clsS 3) "Bags.made" "alikeheap.bags" 208 66),
  ((nat_lit 71),⟨(.type "code"),none,(.fields #[(.str "normal" 256),(.str "Bags.normal" 257),(.str "/claim/cut.py" 258),(.int 33 0),(.int 2 0),(.int 0 0),(.int 0 0),(.int 3 0),(.ref 68),(.bool true),(.int 181 0),(.ref 69),.none,.none,.none,(.ref 70),(.int 259 0),(.int 33 0),(.str "/claim/cut.py" 260)]),#[]⟩),
  ((nat_lit 72),fnO (clsS 4) "Bags.normal" "alikeheap.bags" 208 71),
  ((nat_lit 78),⟨(.type "code"),none,(.fields #[(.str "are_like" 262),(.str "Bags.are_like" 263),(.str "/claim/cut.py" 264),(.int 37 0),(.int 3 0),(.int 0 0),(.int 0 0),(.int 3 0),(.ref 73),(.bool true),(.int 181 0),(.ref 74),.none,(.ref 75),(.ref 76),(.ref 77),(.int 268 0),(.int 37 0),(.str "/claim/cut.py" 269)]),#[]⟩),
  ((nat_lit 79),fnO (clsS 5) "Bags.are_like" "alikeheap.bags" 208 78),
  ((nat_lit 130),⟨(.type "dict"),none,(.dict #[⟨(PyData.keyHash P "__module__"),(.str "__module__" 223),(.str "alikeheap.bags" 208)⟩,⟨(PyData.keyHash P "__firstlineno__"),(.str "__firstlineno__" 227),(.int 16 226)⟩,⟨(PyData.keyHash P "__init__"),(.str "__init__" 235),(.ref 50)⟩,⟨(PyData.keyHash P "is_bag"),(.str "is_bag" 243),(.ref 57)⟩,⟨(PyData.keyHash P "kids"),(.str "kids" 249),(.ref 62)⟩,⟨(PyData.keyHash P "made"),(.str "made" 255),(.ref 67)⟩,⟨(PyData.keyHash P "normal"),(.str "normal" 261),(.ref 72)⟩,⟨(PyData.keyHash P "are_like"),(.str "are_like" 270),(.ref 79)⟩,⟨(PyData.keyHash P "nested"),(.str "nested" 278),(.ref 86)⟩,⟨(PyData.keyHash P "extended"),(.str "extended" 288),(.ref 93)⟩,⟨(PyData.keyHash P "shared_out"),(.str "shared_out" 299),(.ref 100)⟩,⟨(PyData.keyHash P "taken"),(.str "taken" 310),(.ref 107)⟩,⟨(PyData.keyHash P "matched"),(.str "matched" 319),(.ref 114)⟩,⟨(PyData.keyHash P "at_top"),(.str "at_top" 328),(.ref 121)⟩,⟨(PyData.keyHash P "once"),(.str "once" 337),(.ref 128)⟩,⟨(PyData.keyHash P "__static_attributes__"),(.str "__static_attributes__" 339),(.ref 129)⟩,⟨(PyData.keyHash P "__dict__"),(.str "__dict__" 341),(.ref 132)⟩,⟨(PyData.keyHash P "__weakref__"),(.str "__weakref__" 343),(.ref 133)⟩,⟨(PyData.keyHash P "__doc__"),(.str "__doc__" 344),.none⟩] 4),#[]⟩),
  ((nat_lit 131),⟨(.type "type"),none,(.cls ⟨"Bags",[(.type "object")],[(.ref 131),(.type "object")],130,"Bags",true,[],[],false,none,false⟩),#[none,none,(some (.str "Bags" 216)),(some (.str "Bags" 224)),(some (.builtin "object.__new__")),(some (.bool true))]⟩),
  ((nat_lit 141),⟨(.type "code"),none,(.fields #[(.str "_law_draw" 349),(.str "_law_draw" 350),(.str "/claim/cut.py" 351),(.int 61 0),(.int 2 0),(.int 0 0),(.int 0 0),(.int 3 0),(.ref 136),(.bool true),(.int 181 0),(.ref 137),.none,(.ref 138),(.ref 139),(.ref 140),(.int 356 0),(.int 61 0),(.str "/claim/cut.py" 357)]),#[]⟩),
  ((nat_lit 142),fnO (topS 8) "_law_draw" "law_pq0044_01" 347 141),
  ((nat_lit 148),⟨(.type "code"),none,(.fields #[(.str "_law_small" 359),(.str "_law_small" 360),(.str "/claim/cut.py" 361),(.int 67 0),(.int 1 0),(.int 0 0),(.int 0 0),(.int 3 0),(.ref 143),(.bool true),(.int 181 0),(.ref 144),.none,(.ref 145),(.ref 146),(.ref 147),(.int 363 0),(.int 67 0),(.str "/claim/cut.py" 364)]),#[]⟩),
  ((nat_lit 149),fnO (topS 9) "_law_small" "law_pq0044_01" 347 148),
  ((nat_lit 153),⟨(.type "code"),none,(.fields #[(.str "_law_term" 366),(.str "_law_term" 367),(.str "/claim/cut.py" 368),(.int 69 0),(.int 1 0),(.int 0 0),(.int 0 0),(.int 3 0),(.ref 150),(.bool true),(.int 181 0),(.ref 151),.none,.none,.none,(.ref 152),(.int 369 0),(.int 69 0),(.str "/claim/cut.py" 370)]),#[]⟩),
  ((nat_lit 154),fnO (topS 10) "_law_term" "law_pq0044_01" 347 153),
  ((nat_lit 158),⟨(.type "code"),none,(.fields #[(.str "_law_turns" 372),(.str "_law_turns" 373),(.str "/claim/cut.py" 374),(.int 78 0),(.int 2 0),(.int 0 0),(.int 0 0),(.int 3 0),(.ref 155),(.bool true),(.int 181 0),(.ref 156),.none,.none,.none,(.ref 157),(.int 375 0),(.int 78 0),(.str "/claim/cut.py" 376)]),#[]⟩),
  ((nat_lit 159),fnO (topS 11) "_law_turns" "law_pq0044_01" 347 158),
  ((nat_lit 165),⟨(.type "code"),none,(.fields #[(.str "_law_reached" 378),(.str "_law_reached" 379),(.str "/claim/cut.py" 380),(.int 91 0),(.int 2 0),(.int 0 0),(.int 0 0),(.int 3 0),(.ref 160),(.bool true),(.int 181 0),(.ref 161),.none,(.ref 162),(.ref 163),(.ref 164),(.int 386 0),(.int 91 0),(.str "/claim/cut.py" 387)]),#[]⟩),
  ((nat_lit 166),fnO (topS 12) "_law_reached" "law_pq0044_01" 347 165),
  ((nat_lit 172),⟨(.type "code"),none,(.fields #[(.str "_law_bent" 389),(.str "_law_bent" 390),(.str "/claim/cut.py" 391),(.int 99 0),(.int 2 0),(.int 0 0),(.int 0 0),(.int 3 0),(.ref 167),(.bool true),(.int 181 0),(.ref 168),.none,(.ref 169),(.ref 170),(.ref 171),(.int 396 0),(.int 99 0),(.str "/claim/cut.py" 397)]),#[]⟩),
  ((nat_lit 173),fnO (topS 13) "_law_bent" "law_pq0044_01" 347 172),
  ((nat_lit 177),⟨(.type "code"),none,(.fields #[(.str "law" 399),(.str "law" 400),(.str "/claim/cut.py" 401),(.int 109 0),(.int 1 0),(.int 0 0),(.int 0 0),(.int 3 0),(.ref 174),(.bool true),(.int 181 0),(.ref 175),.none,.none,.none,(.ref 176),(.int 402 0),(.int 109 0),(.str "/claim/cut.py" 403)]),#[]⟩),
  ((nat_lit 178),fnO (topS 14) "law" "law_pq0044_01" 347 177)]
noncomputable def asK : List Addr := [2,3,25,26,30,31,35,36,49,50,56,57,61,62,66,67,71,72,78,79,130,131,141,142,148,149,153,154,158,159,165,166,172,173,177,178]
noncomputable def vw : Program := view pz [0,2,3,5,6,8,9,10,11,12,13,14]
theorem run_ (w : World) (os : OsState) : (topFrom treeTable pz w 2014 ⟨boot_heap w.params, #[], boot_drawn, boot_toks, os⟩).map (fun s =>
    (openSeen vw [] (importedModules pz.main.body) (fun s => xlAt vw [] s && recOk (RowW.records PySem.Challenge.rw_pq0044_01.row.toRowW) s) true s, asK.map s.heap.get?)) =
    some (openGood vw [], (heapK w.params).map fun p => some p.2) := by
  unfold topFrom
  first
  | rw [PySem.W.Fast.te14082659384304107361, PySem.W.Fast.te14364793385576792824, PySem.W.Fast.te4187177175401517315, PySem.W.Fast.te5923862056798008813]
    kernel_rfl
  | kernel_rfl
theorem opens : opening pz = plainProg pz.main.scope.names := by kernel_rfl
theorem left_ : LeftO pz vw [] (fun s => xlAt vw [] s && recOk (RowW.records PySem.Challenge.rw_pq0044_01.row.toRowW) s) (fun s => asK.map s.heap.get?) (fun w => (heapK w.params).map fun p => some p.2) 2014 := fun w => by
  obtain ⟨⟨h, gs, d, k, os⟩, e, e'⟩ := Option.map_eq_some_iff.mp (boot_open (N := 2014) opens rfl (fun _ => rfl) w)
  obtain ⟨rfl, rfl, rfl, rfl⟩ : h = boot_heap w.params ∧ gs = #[] ∧ d = boot_drawn ∧ k = boot_toks := by simpa using e'
  unfold openEnds
  rw [e, Option.bind_some]
  exact run_ w os
theorem as_ (P : Params) : asK = (heapK P).map (·.1) := by kernel_rfl
theorem wit : (PySem.Challenge.rw_pq0044_01.row.toRowW).promised := by w_witness2
theorem rowSaid : PySem.Challenge.rw_pq0044_01.row.wellSaid = true := by
  unfold OpenRow.wellSaid OpenRow.partSaid looksOpen
  repeat' (with_reducible refine look_both ?_ ?_)
  all_goals decide +kernel
theorem said_ : PySem.Challenge.rw_pq0044_01.wellSaid = true := by
  unfold OpenLaw.wellSaid
  repeat' (with_reducible refine look_both ?_ ?_)
  all_goals (first | with_reducible exact rowSaid | decide +kernel)
end Mine
end
section
set_option maxRecDepth 100000
set_option maxHeartbeats 4000000
open PySem PySem.W PyProof.Rows PySem.Calls PySem.Spec
namespace Mine

noncomputable abbrev Kf (w : World) : Frag := heapK w.params

noncomputable def Le (h h' : Heap) : Prop := ∀ b o, h.get? b = some o → h'.get? b = some o
noncomputable def IsT (o : Obj) : Prop := o.cls = .type "tuple" ∧ ∃ xs n, o.data = .seq xs n
noncomputable def TLe (h h' : Heap) : Prop := ∀ b o, h.get? b = some o → IsT o → h'.get? b = some o
theorem Le.refl (h : Heap) : Le h h := fun _ _ e => e
theorem Le.trans {a b c : Heap} (x : Le a b) (y : Le b c) : Le a c := fun k o e => y k o (x k o e)
theorem Le.tup {a b : Heap} (x : Le a b) : TLe a b := fun k o e _ => x k o e
theorem TLe.trans {a b c : Heap} (x : TLe a b) (y : TLe b c) : TLe a c := fun k o e q => y k o (x k o e q) q

/-- a step of the run: only the heap and the counter turn; what stands outside W stays, and every tuple stays -/
structure Tr (W : List Addr) (s s' : Shared) : Prop where
  ev : ∃ h' tk, s' = { s with heap := h', toks := tk }
  keep : ∀ b o, b ∉ W → s.heap.get? b = some o → s'.heap.get? b = some o
  tup : TLe s.heap s'.heap
abbrev Up (s s' : Shared) : Prop := Tr [] s s'
theorem Tr.refl (W : List Addr) (s : Shared) : Tr W s s := ⟨⟨_, _, rfl⟩, fun _ _ _ e => e, fun _ _ e _ => e⟩
theorem Tr.mono {W W' : List Addr} {s s' : Shared} (x : Tr W s s') (h : ∀ b ∈ W, b ∈ W') : Tr W' s s' := ⟨x.ev, fun b o n e => x.keep b o (fun q => n (h b q)) e, x.tup⟩
theorem Tr.trans {W : List Addr} {s s' s'' : Shared} (x : Tr W s s') (y : Tr W s' s'') : Tr W s s'' := by
  obtain ⟨h1, t1, rfl⟩ := x.ev
  obtain ⟨h2, t2, rfl⟩ := y.ev
  exact ⟨⟨h2, t2, rfl⟩, fun b o n e => y.keep b o n (x.keep b o n e), x.tup.trans y.tup⟩
theorem Up.to {s s' : Shared} (x : Up s s') (W : List Addr) : Tr W s s' := x.mono fun _ h => nomatch h
theorem Up.le {s s' : Shared} (x : Up s s') : Le s.heap s'.heap := fun b o e => x.keep b o (by simp) e
theorem Tr.le {s s' : Shared} (x : Tr [] s s') : Le s.heap s'.heap := Up.le x
theorem Up.mk' {s : Shared} {h' : Heap} {tk : Nat} (k : Le s.heap h') : Up s { s with heap := h', toks := tk } := ⟨⟨_, _, rfl⟩, fun b o _ e => k b o e, k.tup⟩
theorem Up.tok {s : Shared} {tk : Nat} : Up s { s with toks := tk } := ⟨⟨_, _, rfl⟩, fun _ _ _ e => e, fun _ _ e _ => e⟩
theorem Up.push {s : Shared} {o : Obj} {tk : Nat} : Up s { s with heap := s.heap.push o, toks := tk } := Up.mk' fun _ _ e => Heap.get?_push_of_some _ e
theorem Tr.of_but {s : Shared} {x : Addr} {h' : Heap} {tk : Nat} (hs : Heap.SameBut x s.heap h') (hx : ∀ o, s.heap.get? x = some o → ¬ IsT o) : Tr [x] s { s with heap := h', toks := tk } :=
  ⟨⟨_, _, rfl⟩, fun b o n e => hs.extBut b o (by simpa using n) e, fun b o e q => hs.extBut b o (fun h => hx o (h ▸ e) q) e⟩
theorem Tr.of_ext {s : Shared} {x : Addr} {h' : Heap} {tk : Nat} (hs : Heap.ExtBut x s.heap h') (hx : ∀ o, s.heap.get? x = some o → ¬ IsT o) : Tr [x] s { s with heap := h', toks := tk } :=
  ⟨⟨_, _, rfl⟩, fun b o n e => hs b o (by simpa using n) e, fun b o e q => hs b o (fun h => hx o (h ▸ e) q) e⟩

/-- the written part and the names of the top stand -/
structure Gd (w : World) (h : Heap) : Prop where
  K : (Kf w).In h
  T : ∃ p loose mg mb, TopRead p loose mg mb h
theorem Gd.up {w : World} {h h' : Heap} (x : Gd w h) (k : Le h h') : Gd w h' := ⟨x.K.keeps k, let ⟨p, l, mg, mb, T⟩ := x.T; ⟨p, l, mg, mb, T.keeps k⟩⟩
/-- it stands apart from the addresses of X -/
noncomputable def Gx (w : World) (X : List Addr) (h : Heap) : Prop := ∃ g, Gd w g ∧ Le g h ∧ ∀ x ∈ X, g.get? x = none
theorem Gx.gd {w : World} {X : List Addr} {h : Heap} (x : Gx w X h) : Gd w h := let ⟨_, G, k, _⟩ := x; G.up k
theorem Gx.mono {w : World} {X Y : List Addr} {h : Heap} (x : Gx w X h) (s : ∀ y ∈ Y, y ∈ X) : Gx w Y h := let ⟨g, G, k, n⟩ := x; ⟨g, G, k, fun y hy => n y (s y hy)⟩
theorem Gx.nil {w : World} {X : List Addr} {h : Heap} (x : Gx w X h) : Gx w [] h := x.mono fun _ h => nomatch h
theorem Gx.step {w : World} {X : List Addr} {s s' : Shared} (x : Gx w X s.heap) (t : Tr X s s') : Gx w X s'.heap := let ⟨g, G, k, n⟩ := x; ⟨g, G, fun b o e => t.keep b o (fun q => by rw [n b q] at e; cases e) (k b o e), n⟩
theorem Gx.up {w : World} {X : List Addr} {s s' : Shared} (x : Gx w X s.heap) (t : Up s s') : Gx w X s'.heap := let ⟨g, G, k, n⟩ := x; ⟨g, G, k.trans t.le, n⟩

/-- a frame: s₀ the state at the call; outside X all that stood then stands; the locals at L are m -/
structure Cx (X : List Addr) (s₀ : Shared) (L : Addr) (m : Str → Option Value) (s : Shared) : Prop where
  tr : Tr X s₀ s
  ns : s.heap.Ns L m
  nL : s₀.heap.get? L = none
theorem Cx.gx {w : World} {X : List Addr} {s₀ s : Shared} {L : Addr} {m : Str → Option Value} (C : Cx X s₀ L m s) (G : Gx w X s₀.heap) : Gx w X s.heap := G.step C.tr
theorem Cx.up {X : List Addr} {s₀ s s' : Shared} {L : Addr} {m : Str → Option Value} (C : Cx X s₀ L m s) (u : Up s s') : Cx X s₀ L m s' := ⟨C.tr.trans (u.to X), C.ns.keeps u.le, C.nL⟩
theorem ns_not_tup {h : Heap} {L : Addr} {m : Str → Option Value} (n : h.Ns L m) : ∀ o, h.get? L = some o → ¬ IsT o := by
  rintro o e ⟨_, es, k, q⟩
  obtain ⟨o', es', ep, e', d, _⟩ := n
  rw [e] at e'; cases e'
  rw [q] at d; cases d
theorem Cx.set {X : List Addr} {s₀ s : Shared} {L : Addr} {m m' : Str → Option Value} {h' : Heap} {tk : Nat} (C : Cx X s₀ L m s) (hn : h'.Ns L m') (hs : Heap.SameBut L s.heap h') : Cx X s₀ L m' { s with heap := h', toks := tk } := by
  obtain ⟨h1, t1, rfl⟩ := C.tr.ev
  refine ⟨⟨⟨h', tk, rfl⟩, fun b o n e => hs.extBut b o (fun q => ?_) (C.tr.keep b o n e), fun b o e q => hs.extBut b o (fun r => ?_) (C.tr.tup b o e q)⟩, hn, C.nL⟩
  · rw [q, C.nL] at e; cases e
  · rw [r, C.nL] at e; cases e

section
variable {prog : Program} {w : World} {A : Around} {E : Value → Shared → Prop} {s s₀ : Shared} {X : List Addr} {L : Addr} {m : Str → Option Value} {env : Env}

theorem nm {x : Str} {pos : Pos} {v : Value} {Q : Value → Shared → Prop} (C : Cx X s₀ L m s) (hv : m x = some v) (h : Q v s) (hL : env.locals = L := by rfl) (hk : env.scope.kind = .function := by rfl) (hl : env.kindOf x = some .local := by rfl)
    (hd : (x == ("__debug__" : Str)) = false := by decide) : wpAny (model prog w) A (eval (.Name x pos) env) Q E s := wpAny_Name (wpAny_loadName_local hk hl (by rw [hL]; exact C.ns) hv h) hd

theorem gl {x : Str} {pos : Pos} {v : Value} {Q : Value → Shared → Prop} (G : Gx w X s.heap) (e : nsIn (Kf w) mainGlobals x = some (some v)) (h : Q v s)
    (hg : env.globals = mainGlobals := by rfl) (hk : env.scope.kind = .function := by rfl) (hx : env.kindOf x = some .globalImplicit := by rfl) (hd : (x == ("__debug__" : Str)) = false := by decide) :
    wpAny (model prog w) A (eval (.Name x pos) env) Q E s := by
  obtain ⟨p, l, mg, mb, T⟩ := G.gd.T
  exact Name_function_global hk hx (loadGlobal_global (env := env) (by rw [hg]; exact T.g) (mg_of G.gd.K T.g e) h) hd

theorem bl {x : Str} {pos : Pos} {v : Value} {Q : Value → Shared → Prop} (G : Gx w X s.heap) (e : nsIn (Kf w) mainGlobals x = some none) (hv : bootBuiltins x = some v) (hn : x ≠ "__name__") (h : Q v s)
    (hg : env.globals = mainGlobals := by rfl) (hb : env.builtins = builtinsNs := by rfl) (hk : env.scope.kind = .function := by rfl) (hx : env.kindOf x = some .globalImplicit := by rfl) (hd : (x == ("__debug__" : Str)) = false := by decide) :
    wpAny (model prog w) A (eval (.Name x pos) env) Q E s := by
  obtain ⟨p, l, mg, mb, T⟩ := G.gd.T
  exact Name_function_global hk hx (loadGlobal_builtin (env := env) (by rw [hg]; exact T.g) (mg_none_of G.gd.K T.g e) (by rw [hb]; exact T.b) ((T.builtins x hn).trans hv) h) hd

theorem st {x : Str} {v : Value} {Q : Unit → Shared → Prop} (C : Cx X s₀ L m s) (h : ∀ s', Tr [L] s s' → Cx X s₀ L (fun y => if y = x then some v else m y) s' → Q () s')
    (hL : env.locals = L := by rfl) (hk : env.scope.kind = .function := by rfl) (hl : env.kindOf x = some .local := by rfl) : wpAny (model prog w) A (storeName env x v) Q E s := by
  subst hL
  exact wpAny_storeName_local hl C.ns (fun h' hn hs => h _ (Tr.of_but hs fun o e q => ns_not_tup C.ns o e q) (C.set hn hs)) (by rw [hk]; rfl)
end
end Mine
end
section
set_option maxRecDepth 100000
set_option maxHeartbeats 4000000
open PySem PySem.W PyProof.Rows PySem.Calls PySem.Spec
namespace Mine

theorem cl_tr {L : Addr} {cs : List (Str × Addr)} {cm : Str → Option Value} {s s' : Shared} {W : List Addr} (Y : Cl L cs s.heap cm) (t : Tr W s s') (hW : ∀ b ∈ W, b ≤ L) : Cl L cs s'.heap cm :=
  ⟨fun n c e => let ⟨o, ho, hd⟩ := Y.cell n c e; ⟨o, t.keep c o (fun q => Nat.lt_irrefl _ (Nat.lt_of_lt_of_le (Y.above n c (mem_of_lookup e)) (hW c q))) ho, hd⟩, Y.apart, Y.above⟩
theorem cl_up {L : Addr} {cs : List (Str × Addr)} {cm : Str → Option Value} {s s' : Shared} (Y : Cl L cs s.heap cm) (t : Up s s') : Cl L cs s'.heap cm := cl_tr Y t fun _ h => nomatch h

section
variable {prog : Program} {w : World} {A : Around} {E : Value → Shared → Prop} {s s₀ : Shared} {X : List Addr} {L : Addr} {m cm : Str → Option Value} {env : Env} {cs : List (Str × Addr)}

theorem enter {Q : Value → Shared → Prop} {f : Addr} {args : List Value} {binds : List (Str × Value)} {name qual : Str} {params : Arguments} {body : List Stmt} {scope : Scope} {dV kV doc pm cdv ct oc : Value} {an od : Option Addr} {osl : Array (Option Value)}
    (G : Gx w X s.heap) (ho : (Kf w).lookup f = some ⟨oc, od, .func (fnOf name qual params body scope dV kV doc pm an cdv ct), osl⟩) (hcd : codeIn (Kf w) cdv qual = true)
    (hroom : A.depth < recursionLimit) (hbind : bindArgs (fnOf name qual params body scope dV kV doc pm an cdv ct) ⟨args, []⟩ = pure binds) (hcell : ∀ x ∈ scope.names, x.2 ≠ .cell) (hloc : (binds.all fun x => decide (scope.names.lookup x.1 = some .local)) = true)
    (hco : scope.isCoroutine = false) (hgen : scope.isGenerator = false) (hk : scope.kind = .function)
    (h : ∀ L s₁, Cx [] s L (fun x => binds.reverse.lookup x) s₁ → Gx w X s₁.heap →
      wpAny (model prog w) (A.deeper (envOf qual scope L f cdv)) (execs body (envOf qual scope L f cdv)) (fun fl s' => Q (match fl with | .ret v => v | _ => .none) s') (fun _ _ => False) s₁) :
    wpAny (model prog w) A (call (.ref f) args) Q E s := by
  obtain ⟨p, l, mg, mb, T⟩ := G.gd.T
  refine wpAny_call (codeAny_call_def (fd := fnOf name qual params body scope dV kV doc pm an cdv ct) (body := body) hroom (G.gd.K _ _ ho) rfl T.nolimit (codeRec_of G.gd.K hcd) rfl (BindsTo.of_eq hbind) hcell (locs hloc) (fun h₀ hns hk₀ => ?_) hco hgen hk)
  have u : Up s { s with heap := h₀, toks := s.toks + binds.length } := Up.mk' hk₀
  refine wpAny_mono (h s.heap.objs.size _ ⟨u, hns, ?_⟩ (G.up u)) (fun _ _ x => x) fun _ _ x => x.elim
  cases e : s.heap.get? s.heap.objs.size with
  | none => rfl
  | some o => exact absurd (Heap.lt_size e) (Nat.lt_irrefl _)

theorem enterC {Q : Value → Shared → Prop} {f : Addr} {args : List Value} {binds : List (Str × Value)} {name qual : Str} {params : Arguments} {body : List Stmt} {scope : Scope} {dV kV doc pm cdv ct oc : Value} {an od : Option Addr} {osl : Array (Option Value)}
    (G : Gx w X s.heap) (ho : (Kf w).lookup f = some ⟨oc, od, .func (fnOf name qual params body scope dV kV doc pm an cdv ct), osl⟩) (hcd : codeIn (Kf w) cdv qual = true)
    (hroom : A.depth < recursionLimit) (hbind : bindArgs (fnOf name qual params body scope dV kV doc pm an cdv ct) ⟨args, []⟩ = pure binds) (hkind : (binds.all fun y => scope.names.lookup y.1 == some .local || scope.names.lookup y.1 == some .cell) = true)
    (hco : scope.isCoroutine = false) (hgen : scope.isGenerator = false) (hk : scope.kind = .function)
    (h : ∀ L s₁, Cx [] s L (bindL (envOfC qual scope L f cdv).kindOf binds fun _ => none) s₁ → Cl L (cellsFrom (L + 1) scope.names []) s₁.heap (bindC (envOfC qual scope L f cdv).kindOf binds fun _ => none) → (∀ n c, (cellsFrom (L + 1) scope.names []).lookup n = some c → s.heap.get? c = none) → Gx w X s₁.heap →
      wpAny (model prog w) (A.deeper (envOfC qual scope L f cdv)) (execs body (envOfC qual scope L f cdv)) (fun fl s' => Q (match fl with | .ret v => v | _ => .none) s') (fun _ _ => False) s₁) :
    wpAny (model prog w) A (call (.ref f) args) Q E s := by
  obtain ⟨p, l, mg, mb, T⟩ := G.gd.T
  refine wpAny_call (codeAny_call_cells (fd := fnOf name qual params body scope dV kV doc pm an cdv ct) (body := body) hroom (G.gd.K _ _ ho) rfl T.nolimit (codeRec_of G.gd.K hcd) rfl hbind rfl (kindsX hkind _) (fun s₁ x => ?_) hco hgen hk)
  obtain ⟨h₁, tk, rfl, hk₁⟩ := x.done
  have u : Up s { s with heap := h₁, toks := tk } := Up.mk' hk₁
  have fr : ∀ a, s.heap.objs.size ≤ a → s.heap.get? a = none := fun a ha => by
    cases e : s.heap.get? a with
    | none => rfl
    | some o => exact absurd (Heap.lt_size e) (Nat.not_lt.mpr ha)
  refine wpAny_mono (h s.heap.objs.size _ ⟨u, x.toInCall.ns, fr _ (Nat.le_refl _)⟩ ⟨x.cell, x.apart, x.above⟩ (fun n c e => fr c (Nat.le_of_lt (x.above n c (mem_of_lookup e)))) (G.up u)) (fun _ _ x => x) fun _ _ x => x.elim

theorem nmC {x : Str} {pos : Pos} {c : Addr} {v : Value} {Q : Value → Shared → Prop} (hv : s.heap.IsCell c (some v)) (h : Q v s) (hc : env.cells.lookup x = some c := by rfl) (hk : env.scope.kind = .function := by rfl) (hl : env.kindOf x = some .cell := by rfl)
    (hd : (x == ("__debug__" : Str)) = false := by decide) : wpAny (model prog w) A (eval (.Name x pos) env) Q E s := wpAny_Name (wpAny_loadName_cell hk hl hc hv h) hd

theorem stc {x : Str} {c : Addr} {v : Value} {Q : Unit → Shared → Prop} (C : Cx X s₀ L m s) (Y : Cl L cs s.heap cm) (hc0 : s₀.heap.get? c = none)
    (h : ∀ s', Tr [c] s s' → Cx X s₀ L m s' → Cl L cs s'.heap (fun y => if y = x then some v else cm y) → Q () s')
    (hcs : env.cells = cs := by rfl) (hc : cs.lookup x = some c := by rfl) (hk : env.scope.kind = .function := by rfl) (hl : env.kindOf x = some .cell := by rfl) : wpAny (model prog w) A (storeName env x v) Q E s := by
  subst hcs
  have hLc := Y.above x c (mem_of_lookup hc)
  have hcell := Y.cell x c hc
  refine wpAny_storeName_cell hk hl hc hcell fun h' hv hs => ?_
  have nt : ∀ o, s.heap.get? c = some o → ¬ IsT o := by
    rintro o e ⟨_, xs, n, q⟩
    obtain ⟨o', e', d⟩ := hcell
    rw [e] at e'; cases e'
    rw [q] at d; cases d
  have t : Tr [c] s { s with heap := h' } := Tr.of_but (tk := s.toks) hs nt
  refine h _ t ⟨?_, C.ns.sameBut hs (Nat.ne_of_lt hLc), C.nL⟩ ⟨fun n c' e => ?_, Y.apart, Y.above⟩
  · obtain ⟨h1, t1, rfl⟩ := C.tr.ev
    refine ⟨⟨h', _, rfl⟩, fun b o n e => hs.extBut b o (fun q => ?_) (C.tr.keep b o n e), fun b o e q => t.tup b o (C.tr.tup b o e q) q⟩
    rw [q, hc0] at e; cases e
  · by_cases hn : n = x
    · subst hn; rw [hc] at e; cases e; simpa using hv
    · have hcc : c' ≠ c := fun q => hn (name_of_addr Y.apart (mem_of_lookup e) (q ▸ mem_of_lookup hc))
      simpa [hn] using (Y.cell n c' e).sameBut hs hcc

theorem ct {x : Str} {pos : Pos} {k : Nat} {Q : Value → Shared → Prop} (h : ∀ t s', Up s s' → Q (.str x t) s') : wpAny (model prog w) A (eval (.Constant (.str x) k pos) env) Q E s := wpAny_Constant_str (h _ _ Up.tok)
theorem ci {i : Int} {pos : Pos} {k : Nat} {Q : Value → Shared → Prop} (h : ∀ t s', Up s s' → Q (.int i t) s') : wpAny (model prog w) A (eval (.Constant (.int i) k pos) env) Q E s := wpAny_Constant_int (h _ _ Up.tok)
theorem tupleD {elts : List Expr} {k : Nat} {pos : Pos} {Q : Value → Shared → Prop}
    (h : wpAny (model prog w) A (spliced (backTo pos (starEach elts env))) (fun vs s₁ => vs.length ≤ sizeLine ∧ ∀ a s', Up s₁ s' → s₁.heap.get? a = none → IsTup s'.heap a vs.toArray → Q (.ref a) s') E s) : wpAny (model prog w) A (eval (.Tuple elts k pos) env) Q E s :=
  wpAny_Tuple (wpAny_mono h (fun vs s₁ h₁ => ⟨h₁.1, h₁.2 _ _ (Up.push (tk := s₁.toks)) (by
    cases e : s₁.heap.get? s₁.heap.objs.size with
    | none => rfl
    | some o => exact absurd (Heap.lt_size e) (Nat.lt_irrefl _)) (IsTup.new _ _)⟩) fun _ _ x => x)
theorem listD {elts : List Expr} {pos : Pos} {Q : Value → Shared → Prop}
    (h : wpAny (model prog w) A (spliced (backTo pos (starEach elts env))) (fun vs s₁ => vs.length ≤ sizeLine ∧ ∀ a s', Up s₁ s' → s₁.heap.get? a = none → s'.heap.PlainList a vs.toArray → Q (.ref a) s') E s) : wpAny (model prog w) A (eval (.List elts pos) env) Q E s :=
  wpAny_List (wpAny_mono h (fun vs s₁ h₁ => ⟨h₁.1, h₁.2 _ _ (Up.push (tk := s₁.toks)) (by
    cases e : s₁.heap.get? s₁.heap.objs.size with
    | none => rfl
    | some o => exact absurd (Heap.lt_size e) (Nat.lt_irrefl _)) ⟨_, Heap.get?_push_size _ rfl⟩⟩) fun _ _ x => x)
end
end Mine
end
section
set_option maxRecDepth 100000
set_option maxHeartbeats 4000000
open PySem PySem.W PyProof.Rows PySem.Calls PySem.Spec
namespace Mine

inductive Lab where
  | a | b | f | g | p | s
  deriving DecidableEq
noncomputable def Lab.str : Lab → Str
  | .a => "a" | .b => "b" | .f => "f" | .g => "g" | .p => "p" | .s => "s"

inductive Term where
  | mk (l : Lab) (ks : List Term)

mutual
noncomputable def Term.beq : Term → Term → Bool
  | .mk l ks, .mk l' ks' => decide (l = l') && Term.beqs ks ks'
noncomputable def Term.beqs : List Term → List Term → Bool
  | [], [] => true
  | x :: xs, y :: ys => Term.beq x y && Term.beqs xs ys
  | _, _ => false
end
mutual
theorem Term.beq_eq : ∀ x y : Term, Term.beq x y = true ↔ x = y
  | .mk l ks, .mk l' ks' => by rw [Term.beq, Bool.and_eq_true, decide_eq_true_eq, Term.beqs_eq ks ks', Term.mk.injEq]
theorem Term.beqs_eq : ∀ xs ys : List Term, Term.beqs xs ys = true ↔ xs = ys
  | [], [] => by simp [Term.beqs]
  | [], _ :: _ => by simp [Term.beqs]
  | _ :: _, [] => by simp [Term.beqs]
  | x :: xs, y :: ys => by rw [Term.beqs, Bool.and_eq_true, Term.beq_eq x y, Term.beqs_eq xs ys, List.cons.injEq]
end
noncomputable instance : DecidableEq Term := fun x y => decidable_of_iff _ (Term.beq_eq x y)

noncomputable def Term.lab : Term → Lab
  | .mk l _ => l
noncomputable def Term.kids : Term → List Term
  | .mk _ ks => ks
mutual
noncomputable def Term.size : Term → Nat
  | .mk _ ks => Term.sizes ks + 1
noncomputable def Term.sizes : List Term → Nat
  | [] => 0
  | x :: xs => Term.size x + Term.sizes xs
end
mutual
noncomputable def Term.height : Term → Nat
  | .mk _ ks => Term.heights ks + 1
noncomputable def Term.heights : List Term → Nat
  | [] => 0
  | x :: xs => max (Term.height x) (Term.heights xs)
end
mutual
noncomputable def Term.py : Term → PyData
  | .mk l ks => .tuple (.str l.str :: Term.pys ks)
noncomputable def Term.pys : List Term → List PyData
  | [] => []
  | x :: xs => Term.py x :: Term.pys xs
end
theorem Term.pys_eq : ∀ ks : List Term, Term.pys ks = ks.map Term.py
  | [] => rfl
  | x :: xs => by rw [Term.pys, Term.pys_eq xs, List.map_cons]

mutual
noncomputable def tupOnly : PyData → Bool
  | .none | .bool _ | .int _ | .str _ => true
  | .tuple xs => tupOnlys xs
  | .list _ | .dict _ => false
noncomputable def tupOnlys : List PyData → Bool
  | [] => true
  | x :: xs => tupOnly x && tupOnlys xs
end
theorem tupOnlys_iff : ∀ xs : List PyData, tupOnlys xs = true ↔ ∀ x ∈ xs, tupOnly x = true
  | [] => by simp [tupOnlys]
  | x :: xs => by simp [tupOnlys, tupOnlys_iff xs]

mutual
theorem reads_tle {h h' : Heap} (k : TLe h h') : ∀ {v : Value} {d : PyData} {as : List Addr}, Reads h v d as → tupOnly d = true → Reads h' v d as
  | _, _, _, .none, _ => .none
  | _, _, _, .bool b, _ => .bool b
  | _, _, _, .int i t, _ => .int i t
  | _, _, _, .str x t, _ => .str x t
  | _, _, _, .list .., e => by simp [tupOnly] at e
  | _, _, _, .dict .., e => by simp [tupOnly] at e
  | _, _, _, .tuple ho hc hd r, e => .tuple (k _ _ ho ⟨hc, _, _, hd⟩) hc hd (readsAll_tle k r (by simpa [tupOnly] using e))
theorem readsAll_tle {h h' : Heap} (k : TLe h h') : ∀ {vs : List Value} {ds : List PyData} {as : List Addr}, ReadsAll h vs ds as → tupOnlys ds = true → ReadsAll h' vs ds as
  | _, _, _, .nil, _ => .nil
  | _, _, _, .cons r rs, e => by
    have e' := by simpa [tupOnlys] using e
    exact .cons (reads_tle k r e'.1) (readsAll_tle k rs e'.2)
end
mutual
theorem reads_noaddr {h : Heap} : ∀ {v : Value} {d : PyData} {as : List Addr}, Reads h v d as → tupOnly d = true → as = []
  | _, _, _, .none, _ => rfl
  | _, _, _, .bool b, _ => rfl
  | _, _, _, .int i t, _ => rfl
  | _, _, _, .str x t, _ => rfl
  | _, _, _, .list .., e => by simp [tupOnly] at e
  | _, _, _, .dict .., e => by simp [tupOnly] at e
  | _, _, _, .tuple ho hc hd r, e => readsAll_noaddr r (by simpa [tupOnly] using e)
theorem readsAll_noaddr {h : Heap} : ∀ {vs : List Value} {ds : List PyData} {as : List Addr}, ReadsAll h vs ds as → tupOnlys ds = true → as = []
  | _, _, _, .nil, _ => rfl
  | _, _, _, .cons r rs, e => by
    have e' := by simpa [tupOnlys] using e
    rw [reads_noaddr r e'.1, readsAll_noaddr rs e'.2]; rfl
end

/-- v reads as the data d, made of tuples alone -/
noncomputable def Rd (h : Heap) (v : Value) (d : PyData) : Prop := Reads h v d [] ∧ tupOnly d = true
noncomputable def RdAll (h : Heap) (vs : List Value) (ds : List PyData) : Prop := ReadsAll h vs ds [] ∧ tupOnlys ds = true
theorem Rd.up {h h' : Heap} {v : Value} {d : PyData} (x : Rd h v d) (k : TLe h h') : Rd h' v d := ⟨reads_tle k x.1 x.2, x.2⟩
theorem RdAll.up {h h' : Heap} {v : List Value} {d : List PyData} (x : RdAll h v d) (k : TLe h h') : RdAll h' v d := ⟨readsAll_tle k x.1 x.2, x.2⟩
theorem RdAll.nil {h : Heap} : RdAll h [] [] := ⟨.nil, rfl⟩
theorem RdAll.cons {h : Heap} {v : Value} {d : PyData} {vs : List Value} {ds : List PyData} (x : Rd h v d) (y : RdAll h vs ds) : RdAll h (v :: vs) (d :: ds) := ⟨ReadsAll.cons x.1 y.1, by rw [tupOnlys, x.2, y.2]; rfl⟩
theorem RdAll.uncons {h : Heap} {v : Value} {d : PyData} {vs : List Value} {ds : List PyData} (x : RdAll h (v :: vs) (d :: ds)) : Rd h v d ∧ RdAll h vs ds := by
  obtain ⟨r, e⟩ := x
  have e' : tupOnly d = true ∧ tupOnlys ds = true := by simpa [tupOnlys] using e
  generalize hq : ([] : List Addr) = q at r
  cases r with
  | cons r rs =>
    rw [reads_noaddr r e'.1] at r
    rw [readsAll_noaddr rs e'.2] at rs
    exact ⟨⟨r, e'.1⟩, ⟨rs, e'.2⟩⟩
theorem RdAll.length {h : Heap} {vs : List Value} {ds : List PyData} (x : RdAll h vs ds) : vs.length = ds.length := SeqAt.ReadsAll.length ds vs [] x.1
theorem RdAll.append {h : Heap} : ∀ {vs : List Value} {ds : List PyData} {vs' : List Value} {ds' : List PyData}, RdAll h vs ds → RdAll h vs' ds' → RdAll h (vs ++ vs') (ds ++ ds')
  | [], [], _, _, _, y => y
  | [], _ :: _, _, _, x, _ => absurd x.length (by simp)
  | _ :: _, [], _, _, x, _ => absurd x.length (by simp)
  | _ :: _, _ :: _, _, _, x, y => RdAll.cons x.uncons.1 (RdAll.append x.uncons.2 y)
theorem RdAll.get {h : Heap} : ∀ {vs : List Value} {ds : List PyData} (i : Nat) {d : PyData}, RdAll h vs ds → ds[i]? = some d → ∃ v, vs[i]? = some v ∧ Rd h v d
  | [], [], _, _, _, e => by simp at e
  | [], _ :: _, _, _, x, _ => absurd x.length (by simp)
  | _ :: _, [], _, _, x, _ => absurd x.length (by simp)
  | v :: _, d :: _, 0, _, x, e => by cases e; exact ⟨v, rfl, x.uncons.1⟩
  | _ :: _, _ :: _, i + 1, _, x, e => by
    obtain ⟨v, e1, r⟩ := RdAll.get i x.uncons.2 (by simpa using e)
    exact ⟨v, by simpa using e1, r⟩
theorem RdAll.take {h : Heap} : ∀ {vs : List Value} {ds : List PyData} (k : Nat), RdAll h vs ds → RdAll h (vs.take k) (ds.take k)
  | [], [], _, x => by simpa using x
  | [], _ :: _, _, x => absurd x.length (by simp)
  | _ :: _, [], _, x => absurd x.length (by simp)
  | _ :: _, _ :: _, 0, _ => RdAll.nil
  | _ :: _, _ :: _, k + 1, x => RdAll.cons x.uncons.1 (RdAll.take k x.uncons.2)
theorem RdAll.drop {h : Heap} : ∀ {vs : List Value} {ds : List PyData} (k : Nat), RdAll h vs ds → RdAll h (vs.drop k) (ds.drop k)
  | [], [], _, x => by simpa using x
  | [], _ :: _, _, x => absurd x.length (by simp)
  | _ :: _, [], _, x => absurd x.length (by simp)
  | _ :: _, _ :: _, 0, x => x
  | _ :: _, _ :: _, k + 1, x => RdAll.drop k x.uncons.2
theorem Rd.tuple {h : Heap} {a : Addr} {vs : List Value} {ds : List PyData} (t : IsTup h a vs.toArray) (r : RdAll h vs ds) : Rd h (.ref a) (.tuple ds) := by
  obtain ⟨o, ho, hc, n, hd⟩ := t
  exact ⟨.tuple ho hc hd r.1, r.2⟩
theorem Rd.untuple {h : Heap} {v : Value} {ds : List PyData} (x : Rd h v (.tuple ds)) : ∃ a vs, v = .ref a ∧ IsTup h a vs.toArray ∧ RdAll h vs ds := by
  obtain ⟨a, l, e, t, r⟩ := reads_tuple_items x.1
  exact ⟨a, l, e, t, r, x.2⟩
theorem Rd.str {h : Heap} (x : Str) (t : Tok) : Rd h (.str x t) (.str x) := ⟨.str x t, rfl⟩
theorem Rd.int {h : Heap} (x : Int) (t : Tok) : Rd h (.int x t) (.int x) := ⟨.int x t, rfl⟩
theorem Rd.unstr {h : Heap} {v : Value} {x : Str} (r : Rd h v (.str x)) : ∃ t, v = .str x t := by
  obtain ⟨r, _⟩ := r
  cases r with | str _ t => exact ⟨t, rfl⟩
theorem Rd.unint {h : Heap} {v : Value} {x : Int} (r : Rd h v (.int x)) : ∃ t, v = .int x t := by
  obtain ⟨r, _⟩ := r
  cases r with | int _ t => exact ⟨t, rfl⟩

mutual
theorem Term.py_tup : ∀ T : Term, tupOnly T.py = true
  | .mk l ks => by rw [Term.py, tupOnly, tupOnlys, tupOnly, Term.pys_tup ks]; rfl
theorem Term.pys_tup : ∀ ks : List Term, tupOnlys (Term.pys ks) = true
  | [] => rfl
  | x :: xs => by rw [Term.pys, tupOnlys, Term.py_tup x, Term.pys_tup xs]; rfl
end

abbrev Tm (h : Heap) (v : Value) (T : Term) : Prop := Rd h v T.py
abbrev Tms (h : Heap) (vs : List Value) (ks : List Term) : Prop := RdAll h vs (Term.pys ks)
theorem Tm.open {h : Heap} {v : Value} {l : Lab} {ks : List Term} (x : Tm h v (.mk l ks)) : ∃ a t vs, v = .ref a ∧ IsTup h a (Value.str l.str t :: vs).toArray ∧ Tms h vs ks := by
  obtain ⟨a, vs, rfl, ht, r⟩ := Rd.untuple (ds := .str l.str :: Term.pys ks) (by simpa [Tm, Term.py] using x)
  cases vs with
  | nil => exact absurd r.length (by simp)
  | cons v vs =>
    obtain ⟨r1, r2⟩ := r.uncons
    obtain ⟨t, rfl⟩ := r1.unstr
    exact ⟨a, t, vs, rfl, ht, r2⟩
theorem Tm.close {h : Heap} {a : Addr} {l : Lab} {t : Tok} {vs : List Value} {ks : List Term} (ht : IsTup h a (Value.str l.str t :: vs).toArray) (r : Tms h vs ks) : Tm h (.ref a) (.mk l ks) := by
  show Rd h _ (Term.py (.mk l ks))
  rw [Term.py]
  exact Rd.tuple ht (RdAll.cons (Rd.str _ _) r)

theorem strOk_lab : ∀ l : Lab, PyData.strOk l.str = true := by intro l; cases l <;> decide +kernel
mutual
theorem Term.can : ∀ T : Term, T.py.canLay0 = true
  | .mk l ks => by
    rw [Term.py, PyData.canLay0, PyData.canLayAll0, PyData.canLay0, strOk_lab, Term.cans ks]; rfl
theorem Term.cans : ∀ ks : List Term, PyData.canLayAll0 (Term.pys ks) = true
  | [] => rfl
  | x :: xs => by rw [Term.pys, PyData.canLayAll0, Term.can x, Term.cans xs]; rfl
end
mutual
theorem Term.py_depth : ∀ T : Term, T.py.depth = T.height
  | .mk l ks => by rw [Term.py, PyData.depth, PyData.depthAll, PyData.depth, Term.pys_depth ks, Term.height]; omega
theorem Term.pys_depth : ∀ ks : List Term, PyData.depthAll (Term.pys ks) = Term.heights ks
  | [] => rfl
  | x :: xs => by rw [Term.pys, PyData.depthAll, Term.py_depth x, Term.pys_depth xs, Term.heights]
end
theorem lab_str_inj : ∀ a b : Lab, (a.str == b.str) = decide (a = b) := by intro a b; cases a <;> cases b <;> decide +kernel
mutual
theorem Term.eqv : ∀ x y : Term, PyData.eqv x.py y.py = decide (x = y)
  | .mk l ks, .mk l' ks' => by
    rw [Term.py, Term.py, PyData.eqv, PyData.eqvAll, PyData.eqv, Term.eqvs ks ks', lab_str_inj]
    by_cases h1 : l = l' <;> by_cases h2 : ks = ks' <;> simp [h1, h2]
theorem Term.eqvs : ∀ xs ys : List Term, PyData.eqvAll (Term.pys xs) (Term.pys ys) = decide (xs = ys)
  | [], [] => by simp [Term.pys, PyData.eqvAll]
  | [], _ :: _ => by simp [Term.pys, PyData.eqvAll]
  | _ :: _, [] => by simp [Term.pys, PyData.eqvAll]
  | x :: xs, y :: ys => by
    rw [Term.pys, Term.pys, PyData.eqvAll, Term.eqv x y, Term.eqvs xs ys]
    by_cases h1 : x = y <;> by_cases h2 : xs = ys <;> simp [h1, h2]
end
end Mine
end
section
set_option maxRecDepth 100000
set_option maxHeartbeats 4000000
open PySem PySem.W PyProof.Rows PySem.Calls PySem.Spec
namespace Mine

/-- an iterator at I of n items; fp: the objects that it looks at (I among them) -/
structure It (prog : Program) (w : World) (A : Around) (target : Expr) (I : Addr) (fp : List Addr) (n : Nat) (P : Nat → Value → Prop) (St : Nat → Heap → Prop) : Prop where
  mem : I ∈ fp
  ex : ∀ i h, St i h → ∀ b ∈ fp, ∃ o, h.get? b = some o
  frame : ∀ i h h', St i h → (∀ b ∈ fp, ∀ o, h.get? b = some o → h'.get? b = some o) → St i h'
  item : ∀ i (s : Shared) (Q : Option Value → Shared → Prop) (E : Value → Shared → Prop), i < n → St i s.heap → (∀ v s', P i v → St (i + 1) s'.heap → Tr [I] s s' → Q (some v) s') → wpAny (model prog w) A (pyNext (.ref I)) Q E s
  done : ∀ (s : Shared) (Q : Option Value → Shared → Prop) (E : Value → Shared → Prop), St n s.heap → (∀ s', Tr [I] s s' → Q none s') → wpAny (model prog w) A (pyNext (.ref I)) Q E s
  self : ∀ i (s : Shared) (Q : Value → Shared → Prop) (E : Value → Shared → Prop), St i s.heap → Q (.ref I) s → wpAny (model prog w) A (pyIter (.ref I)) Q E s
  go : ∀ i v (s : Shared) (Q : Unit → Shared → Prop) (E : Value → Shared → Prop), St i s.heap → Q () s → wpAny (model prog w) A (letOwnedTupleGo target (.ref I) v) Q E s

noncomputable def notOwner (n : String) : Bool := !["enumerate", "zip", "dict_itemiterator", "dict_reverseitemiterator", "odict_iterator", "itertools.zip_longest", "itertools.pairwise"].contains n
theorem go_plain {M : Model} {A : Around} {E : Value → Shared → Prop} {s : Shared} {target : Expr} {I : Addr} {v : Value} {o : Obj} {n : String} {Q : Unit → Shared → Prop} (ho : s.heap.get? I = some o) (hc : o.cls = .type n) (hn : notOwner n = true) (h : Q () s) :
    wpAny M A (letOwnedTupleGo target (.ref I) v) Q E s := by
  have tail : ∀ a : Addr, wpAny M A (do
      let o ← load I
      match o.cls, o.data with
      | .type n, .fields vs =>
        if ["enumerate", "zip", "dict_itemiterator", "dict_reverseitemiterator", "odict_iterator", "itertools.zip_longest", "itertools.pairwise"].contains n && vs[0]? == some (rawInt a) then
          rule "for.unpacks-the-owned-tuple"
          updateField I 0 .none
      | _, _ => pure ()) Q E s := by
    intro a
    refine wpAny_bind (wpAny_load ho ?_)
    obtain ⟨c, d, dt, sl⟩ := o
    simp only at hc; subst hc
    dsimp only
    cases dt <;> first | exact wpAny_pure h | skip
    rename_i vs
    have : (["enumerate", "zip", "dict_itemiterator", "dict_reverseitemiterator", "odict_iterator", "itertools.zip_longest", "itertools.pairwise"].contains n) = false := by
      unfold notOwner at hn; simpa using hn
    simp only [this, Bool.false_and, Bool.false_eq_true, if_false]
    exact wpAny_pure h
  unfold letOwnedTupleGo
  split
  · cases v <;> first | exact tail _ | exact wpAny_pure h
  · cases v <;> first | exact tail _ | exact wpAny_pure h
  · exact wpAny_pure h

theorem It.list {prog : Program} {w : World} {A : Around} (target : Expr) (hh : A.handled = none) (I l : Addr) (hne : l ≠ I) (items : Array Value) :
    It prog w A target I [I, l] items.size (fun i v => items[i]? = some v) (fun i h => h.IsListIter I l i ∧ h.IsList l items) where
  mem := by simp
  ex := fun i h st b hb => by
    rcases List.mem_cons.mp hb with rfl | hb
    · obtain ⟨o, e, _⟩ := st.1; exact ⟨o, e⟩
    · rcases List.mem_cons.mp hb with rfl | hb
      · obtain ⟨o, e, _⟩ := st.2; exact ⟨o, e⟩
      · cases hb
  frame := (Walks.list (prog := prog) (w := w) hh I l hne items).frame
  item := fun i s Q E hi st hQ => wpAny_pyNext_list_item st.1 st.2 (x := items[i]) (by simp [hi]) fun h' hit' hs' => by
    have t : Tr [I] s { s with heap := h' } := Tr.of_but (tk := s.toks) hs' fun o e => by
      obtain ⟨o', e', _, d⟩ := st.1
      rw [e] at e'; cases e'
      rintro ⟨_, xs, n, q⟩; rw [d] at q; cases q
    exact hQ _ _ (by simp [hi]) ⟨hit', st.2.extBut hs'.extBut hne⟩ t
  done := fun s Q E st hQ => wpAny_pyNext_list_end hh st.1 st.2 (by simp) fun h' hs' => hQ _ (Tr.of_ext (tk := s.toks) hs' fun o e => by
      obtain ⟨o', e', _, d⟩ := st.1
      rw [e] at e'; cases e'
      rintro ⟨_, xs, n, q⟩; rw [d] at q; cases q)
  self := fun _ _ _ _ st hQ => wpAny_pyIter_listiter st.1 hQ
  go := fun i v s Q E st hQ => let ⟨o, e, c, _⟩ := st.1; go_plain e c (by decide) hQ

theorem It.tuple {prog : Program} {w : World} {A : Around} (target : Expr) (hh : A.handled = none) (I l : Addr) (hne : l ≠ I) (items : Array Value) :
    It prog w A target I [I, l] items.size (fun i v => items[i]? = some v) (fun i h => h.IsTupleIter I l i ∧ h.IsTuple l items) where
  mem := by simp
  ex := fun i h st b hb => by
    rcases List.mem_cons.mp hb with rfl | hb
    · obtain ⟨o, e, _⟩ := st.1; exact ⟨o, e⟩
    · rcases List.mem_cons.mp hb with rfl | hb
      · obtain ⟨o, e, _⟩ := st.2; exact ⟨o, e⟩
      · cases hb
  frame := (Walks.tuple (prog := prog) (w := w) hh I l hne items).frame
  item := fun i s Q E hi st hQ => wpAny_pyNext_tuple_item st.1 st.2 (x := items[i]) (by simp [hi]) fun h' hit' hs' => by
    have t : Tr [I] s { s with heap := h' } := Tr.of_but (tk := s.toks) hs' fun o e => by
      obtain ⟨o', e', _, d⟩ := st.1
      rw [e] at e'; cases e'
      rintro ⟨_, xs, n, q⟩; rw [d] at q; cases q
    exact hQ _ _ (by simp [hi]) ⟨hit', st.2.extBut hs'.extBut hne⟩ t
  done := fun s Q E st hQ => wpAny_pyNext_tuple_end hh st.1 st.2 (by simp) fun h' hs' => hQ _ (Tr.of_ext (tk := s.toks) hs' fun o e => by
      obtain ⟨o', e', _, d⟩ := st.1
      rw [e] at e'; cases e'
      rintro ⟨_, xs, n, q⟩; rw [d] at q; cases q)
  self := fun _ _ _ _ st hQ => wpAny_pyIter_tupleiter st.1 hQ
  go := fun i v s Q E st hQ => let ⟨o, e, c, _⟩ := st.1; go_plain e c (by decide) hQ
end Mine
end
section
set_option maxRecDepth 100000
set_option maxHeartbeats 4000000
open PySem PySem.W PyProof.Rows PySem.Calls PySem.Spec
namespace Mine

abbrev noE : Value → Shared → Prop := fun _ _ => False
abbrev tests (ifs : List Expr) (env : Env) : Sem Bool := forIn ifs true fun c r => if r = true then do let ok ← isTrue c env (eval c env); pure (ForInStep.yield ok) else pure (ForInStep.yield r)

theorem wpF {α : Type} {M : Model} {A : Around} {E : Value → Shared → Prop} {s : Shared} {t : Sem α} {Q : α → Shared → Prop} (h : wpAny M A t Q noE s) : wpAny M A t Q E s := wpAny_mono h (fun _ _ x => x) fun _ _ x => x.elim
theorem wpQ {α : Type} {M : Model} {A : Around} {E : Value → Shared → Prop} {s : Shared} {t : Sem α} {Q Q' : α → Shared → Prop} (h : wpAny M A t Q' E s) (hq : ∀ a s', Q' a s' → Q a s') : wpAny M A t Q E s := wpAny_mono h hq fun _ _ x => x

section
variable {prog : Program} {w : World} {A : Around} {R : Result → Shared → Prop} {s : Shared}

theorem compLoop1 {elt target iter : Expr} {ifs : List Expr} {scope : Scope} {pos : Pos} {it acc : Value} {env : Env} (I : Nat → Shared → Prop)
    (turn : ∀ k s, I k s → wpAny (model prog w) A (pyNext it) (fun r s₁ => match r with
      | none => R (.ok .next) s₁
      | some v => wpAny (model prog w) A (letOwnedTupleGo target it v) (fun _ s₁' => wpAny (model prog w) A (assign target env v) (fun _ s₂ => wpAny (model prog w) A (tests ifs env) (fun ok s₃ =>
          if ok = true then wpAny (model prog w) A (eval elt env) (fun x s₄ => wpAny (model prog w) A (call (.builtin "list.append") [acc, x]) (fun _ s₅ => ∃ m, m < k ∧ I m s₅) noE s₄) noE s₃
          else ∃ m, m < k ∧ I m s₃) noE s₂) noE s₁') noE s₁) noE s)
    (n : Nat) (h : I n s) : codeAny (model prog w) A (.compLoop (.ListComp elt [⟨target, iter, ifs, 0⟩] scope pos) 0 it acc env) R s := by
  refine codeAny_loop rfl I (fun n s hI => ?_) n h
  show wpAny _ A ((compTurn (.ListComp elt [⟨target, iter, ifs, 0⟩] scope pos) 0 it acc env).onRaise (fun x => do noteFrame x env; theTreesLotGoes x)) _ _ s
  refine wpAny_noted (wpF ?_)
  rw [compTurn_list]
  refine wpAny_bind (wpAny_standAt (wpAny_bind (wpQ (turn n s hI) fun r s₁ h₁ => ?_)))
  cases r with
  | none => exact wpAny_pure h₁
  | some v =>
    refine wpAny_bind (wpQ h₁ fun _ s₁' h₁' => wpAny_bind (wpQ h₁' fun _ s₂ h₂ => wpAny_bind (wpQ h₂ fun ok s₃ h₃ => ?_)))
    cases ok with
    | false => exact wpAny_pure ⟨rfl, by simpa using h₃⟩
    | true =>
      simp only [if_true] at h₃
      exact wpAny_bind (wpAny_bind (wpQ h₃ fun x s₄ h₄ => wpAny_bind (wpQ h₄ fun _ s₅ h₅ => wpAny_pure (wpAny_pure ⟨rfl, h₅⟩))))

theorem compTurn_two0 (elt t0 i0 t1 i1 : Expr) (scope : Scope) (pos : Pos) (it acc : Value) (env : Env) :
    compTurn (.ListComp elt [⟨t0, i0, [], 0⟩, ⟨t1, i1, [], 0⟩] scope pos) 0 it acc env = (standAt i0.pos >>= fun _ => pyNext it >>= fun r => match r with
      | none => pure (.done .next)
      | some v => letOwnedTupleGo t0 it v >>= fun _ => assign t0 env v >>= fun _ =>
          eval i1 env >>= fun x => standAt i1.pos >>= fun _ => foldedSetIterable i1 env x >>= fun x => holding [x] (pyIter x) >>= fun j =>
          runOwn (.compStart (.ListComp elt [⟨t0, i0, [], 0⟩, ⟨t1, i1, [], 0⟩] scope pos) 1 j acc env) env >>= fun _ =>
          again (.compLoop (.ListComp elt [⟨t0, i0, [], 0⟩, ⟨t1, i1, [], 0⟩] scope pos) 0 it acc env)) := by rfl
theorem compTurn_two1 (elt t0 i0 t1 i1 : Expr) (scope : Scope) (pos : Pos) (it acc : Value) (env : Env) :
    compTurn (.ListComp elt [⟨t0, i0, [], 0⟩, ⟨t1, i1, [], 0⟩] scope pos) 1 it acc env = (standAt i1.pos >>= fun _ => pyNext it >>= fun r => match r with
      | none => pure (.done .next)
      | some v => letOwnedTupleGo t1 it v >>= fun _ => assign t1 env v >>= fun _ =>
        (eval elt env >>= fun x => call (.builtin "list.append") [acc, x] >>= fun _ => pure ()) >>= fun _ =>
          again (.compLoop (.ListComp elt [⟨t0, i0, [], 0⟩, ⟨t1, i1, [], 0⟩] scope pos) 1 it acc env)) := by rfl

theorem compLoop2b {elt t0 i0 t1 i1 : Expr} {scope : Scope} {pos : Pos} {it acc : Value} {env : Env} (I : Nat → Shared → Prop)
    (turn : ∀ k s, I k s → wpAny (model prog w) A (pyNext it) (fun r s₁ => match r with
      | none => R (.ok .next) s₁
      | some v => wpAny (model prog w) A (letOwnedTupleGo t1 it v) (fun _ s₁' => wpAny (model prog w) A (assign t1 env v) (fun _ s₃ =>
          wpAny (model prog w) A (eval elt env) (fun x s₄ => wpAny (model prog w) A (call (.builtin "list.append") [acc, x]) (fun _ s₅ => ∃ m, m < k ∧ I m s₅) noE s₄) noE s₃) noE s₁') noE s₁) noE s)
    (n : Nat) (h : I n s) : codeAny (model prog w) A (.compLoop (.ListComp elt [⟨t0, i0, [], 0⟩, ⟨t1, i1, [], 0⟩] scope pos) 1 it acc env) R s := by
  refine codeAny_loop rfl I (fun n s hI => ?_) n h
  show wpAny _ A ((compTurn (.ListComp elt [⟨t0, i0, [], 0⟩, ⟨t1, i1, [], 0⟩] scope pos) 1 it acc env).onRaise (fun x => do noteFrame x env; theTreesLotGoes x)) _ _ s
  refine wpAny_noted (wpF ?_)
  rw [compTurn_two1]
  refine wpAny_bind (wpAny_standAt (wpAny_bind (wpQ (turn n s hI) fun r s₁ h₁ => ?_)))
  cases r with
  | none => exact wpAny_pure h₁
  | some v =>
    refine wpAny_bind (wpQ h₁ fun _ s₁' h₁' => wpAny_bind (wpQ h₁' fun _ s₃ h₃ => ?_))
    exact wpAny_bind (wpAny_bind (wpQ h₃ fun x s₄ h₄ => wpAny_bind (wpQ h₄ fun _ s₅ h₅ => wpAny_pure (wpAny_pure ⟨rfl, h₅⟩))))

theorem compLoop2a {elt t0 i0 t1 i1 : Expr} {scope : Scope} {pos : Pos} {it acc : Value} {env : Env} (I : Nat → Shared → Prop)
    (turn : ∀ k s, I k s → wpAny (model prog w) A (pyNext it) (fun r s₁ => match r with
      | none => R (.ok .next) s₁
      | some v => wpAny (model prog w) A (letOwnedTupleGo t0 it v) (fun _ s₁' => wpAny (model prog w) A (assign t0 env v) (fun _ s₃ =>
          wpAny (model prog w) A (eval i1 env) (fun x s₄ => wpAny (model prog w) A (pyIter x) (fun it' s₅ =>
            codeAny (model prog w) A (.compStart (.ListComp elt [⟨t0, i0, [], 0⟩, ⟨t1, i1, [], 0⟩] scope pos) 1 it' acc env) (fun r s₆ => match r with | .ok _ => ∃ m, m < k ∧ I m s₆ | .error _ => False) s₅) noE s₄) noE s₃) noE s₁') noE s₁) noE s)
    (n : Nat) (h : I n s) (hf : ∀ x, foldedSetIterable i1 env x = pure x) : codeAny (model prog w) A (.compLoop (.ListComp elt [⟨t0, i0, [], 0⟩, ⟨t1, i1, [], 0⟩] scope pos) 0 it acc env) R s := by
  refine codeAny_loop rfl I (fun n s hI => ?_) n h
  show wpAny _ A ((compTurn (.ListComp elt [⟨t0, i0, [], 0⟩, ⟨t1, i1, [], 0⟩] scope pos) 0 it acc env).onRaise (fun x => do noteFrame x env; theTreesLotGoes x)) _ _ s
  refine wpAny_noted (wpF ?_)
  rw [compTurn_two0]
  refine wpAny_bind (wpAny_standAt (wpAny_bind (wpQ (turn n s hI) fun r s₁ h₁ => ?_)))
  cases r with
  | none => exact wpAny_pure h₁
  | some v =>
    refine wpAny_bind (wpQ h₁ fun _ s₁' h₁' => wpAny_bind (wpQ h₁' fun _ s₃ h₃ => ?_))
    refine wpAny_bind (wpQ h₃ fun x s₄ h₄ => wpAny_bind (wpAny_standAt (wpAny_bind (wpAny_of_eq (hf x) (wpAny_bind (wpAny_holding (wpQ h₄ fun it' s₅ h₅ => ?_)))))))
    refine wpAny_bind (wpAny_runOwn (codeAny_mono h₅ fun r s₆ h₆ => ?_))
    cases r with
    | ok f => exact wpAny_pure ⟨rfl, h₆⟩
    | error e => exact h₆.elim

theorem compStart2 {elt t0 i0 t1 i1 : Expr} {scope : Scope} {pos : Pos} {it acc : Value} {env : Env}
    (h0 : codeAny (model prog w) A (.compLoop (.ListComp elt [⟨t0, i0, [], 0⟩, ⟨t1, i1, [], 0⟩] scope pos) 1 it acc env) R s)
    (h : wpAny (model prog w) A (pyIter it) (fun it' s' => codeAny (model prog w) A (.compLoop (.ListComp elt [⟨t0, i0, [], 0⟩, ⟨t1, i1, [], 0⟩] scope pos) 1 it' acc env) R s') noE s) :
    codeAny (model prog w) A (.compStart (.ListComp elt [⟨t0, i0, [], 0⟩, ⟨t1, i1, [], 0⟩] scope pos) 1 it acc env) R s := by
  refine codeAny_of_tree ?_
  show wpAny _ _ ((compStart (.ListComp elt [⟨t0, i0, [], 0⟩, ⟨t1, i1, [], 0⟩] scope pos) 1 it acc env).onRaise (fun x => do noteFrame x env; standAt theWindowsPlace)) _ _ s
  refine wpAny_notedAt (wpF ?_)
  unfold compStart
  show wpAny _ _ (ask >>= _) _ _ s
  refine wpAny_bind (wpAny_askSetting (wpAny_ite ?_))
  split
  · first
      | exact wpAny_bind (wpAny_pure (wpAny_pure (And.intro rfl h0)))
      | exact wpAny_pure (And.intro rfl h0)
  · first
      | exact wpAny_bind (wpAny_rule (wpAny_bind (wpAny_standAt (wpAny_bind (wpQ h fun it' s' h' => wpAny_pure (And.intro rfl h'))))))
      | (refine wpAny_bind (wpAny_rule ?_); show wpAny _ _ (standAt i1.pos >>= _) _ _ s; exact wpAny_bind (wpAny_standAt (wpAny_bind (wpQ h fun it' s' h' => wpAny_pure (And.intro rfl h')))))
end

/-- what a turn of a comprehension leaves -/
structure Turn (mu : List Addr) (C : Addr) (F : List Value → Shared → Prop) (ys : List Value) (s s' : Shared) : Prop where
  tr : Tr (C :: mu) s s'
  ns : ∃ m, s'.heap.Ns C m
  fact : F ys s'

section
variable {prog : Program} {w : World} {A : Around} {s : Shared}
theorem plain_not_tup {h : Heap} {D : Addr} {ys : Array Value} (x : h.PlainList D ys) : ∀ o, h.get? D = some o → ¬ IsT o := by
  obtain ⟨n, e⟩ := x
  rintro o e' ⟨c, _⟩
  rw [e] at e'; cases e'; exact absurd c (by simp)

theorem append_tr {D : Addr} {ys : List Value} {x : Value} {Q : Value → Shared → Prop} {E : Value → Shared → Prop} (hl : s.heap.PlainList D ys.toArray) (hsz : ys.length ≤ sizeLine)
    (h : ∀ s', Tr [D] s s' → s'.heap.PlainList D (ys ++ [x]).toArray → Q .none s') : wpAny (model prog w) A (call (.builtin "list.append") [.ref D, x]) Q E s :=
  wpAny_list_append_plain (hsz := by simpa using hsz) hl fun h' hl' hs' => h _ (Tr.of_but (tk := s.toks) hs' (plain_not_tup hl)) (by simpa using hl')

/-- the loop of a comprehension of one clause -/
theorem loop1 {elt target iter : Expr} {ifs : List Expr} {scope : Scope} {pos : Pos} {I D : Addr} {fp : List Addr} {n : Nat} {P : Nat → Value → Prop} {St : Nat → Heap → Prop} {cenv : Env} {mu : List Addr} {R : Result → Shared → Prop}
    (W : It prog w A target I fp n P St) (sb : Shared) (F : Nat → List Value → Shared → Prop) (hDC : D ≠ cenv.locals) (hDf : D ∉ fp) (hCf : cenv.locals ∉ fp) (hDm : D ∉ mu) (hfm : ∀ b ∈ fp, b ∉ mu)
    (hDb : sb.heap.get? D = none) (hIb : sb.heap.get? I = none) (hCb : sb.heap.get? cenv.locals = none)
    (hF : ∀ i ys W' s s', (∀ b ∈ W', b ∉ mu) → Tr W' s s' → F i ys s → F i ys s')
    (h0 : Tr mu sb s) (hst : St 0 s.heap) (hacc : s.heap.PlainList D #[]) (hn : ∃ m, s.heap.Ns cenv.locals m) (hF0 : F 0 [] s)
    (step : ∀ i v ys s₁ m₁, i < n → P i v → Tr mu sb s₁ → s₁.heap.Ns cenv.locals m₁ → F i ys s₁ →
      wpAny (model prog w) A (assign target cenv v) (fun _ s₂ => wpAny (model prog w) A (tests ifs cenv) (fun ok s₃ =>
        if ok = true then wpAny (model prog w) A (eval elt cenv) (fun y s₄ => Turn mu cenv.locals (F (i + 1)) (ys ++ [y]) s₁ s₄) noE s₃ else Turn mu cenv.locals (F (i + 1)) ys s₁ s₃) noE s₂) noE s₁)
    (hsz : n ≤ sizeLine)
    (hR : ∀ ys s', Tr mu sb s' → s'.heap.PlainList D ys.toArray → (∃ m, s'.heap.Ns cenv.locals m) → F n ys s' → R (.ok .next) s') :
    codeAny (model prog w) A (.compLoop (.ListComp elt [⟨target, iter, ifs, 0⟩] scope pos) 0 (.ref I) (.ref D) cenv) R s := by
  have hID : I ≠ D := fun e => hDf (e ▸ W.mem)
  have hIC : I ≠ cenv.locals := fun e => hCf (e ▸ W.mem)
  refine compLoop1 (fun k s' => ∃ i ys, k = n + 1 - i ∧ i ≤ n ∧ ys.length ≤ i ∧ Tr mu sb s' ∧ St i s'.heap ∧ s'.heap.PlainList D ys.toArray ∧ (∃ m, s'.heap.Ns cenv.locals m) ∧ F i ys s') ?_ (n + 1)
    ⟨0, [], rfl, Nat.zero_le _, Nat.le_refl _, h0, hst, hacc, hn, hF0⟩
  rintro k s' ⟨i, ys, rfl, hi, hlen, h0', hst', hacc', ⟨m', hn'⟩, hF'⟩
  -- the iterator, the list and the frame are new
  have lift : ∀ {x : Addr} {s₁ s₂ : Shared}, sb.heap.get? x = none → Tr mu sb s₁ → Tr [x] s₁ s₂ → Tr mu sb s₂ := by
    intro x s₁ s₂ hx a b
    refine ⟨(a.mono (W' := x :: mu) fun _ h => .tail _ h).trans (b.mono (W' := x :: mu) fun _ h => by simp at h; simp [h]) |>.ev, fun q o hq e => b.keep q o (fun r => ?_) (a.keep q o hq e), a.tup.trans b.tup⟩
    simp at r; rw [r, hx] at e; cases e
  by_cases hlt : i < n
  · refine W.item i _ _ _ hlt hst' fun v s₁ hP hst₁ t₁ => ?_
    refine W.go (i + 1) v s₁ _ _ hst₁ ?_
    have hn₁ : s₁.heap.Ns cenv.locals m' := hn'.at' fun o e => t₁.keep _ o (by simpa using Ne.symm hIC) e
    have hF₁ : F i ys s₁ := hF i ys [I] _ _ (by simpa using hfm I W.mem) t₁ hF'
    have fin : ∀ ys' s₅, Turn mu cenv.locals (F (i + 1)) ys' s₁ s₅ → Tr mu sb s₅ ∧ St (i + 1) s₅.heap ∧ s₅.heap.PlainList D ys.toArray := by
      intro ys' s₅ T
      have a1 := lift hIb h0' t₁
      refine ⟨⟨?_, fun q o hq e => T.tr.keep q o (fun r => ?_) (a1.keep q o hq e), a1.tup.trans T.tr.tup⟩, W.frame _ _ _ hst₁ fun b hb o e => T.tr.keep b o (fun r => ?_) e, ?_⟩
      · exact ((a1.mono (W' := cenv.locals :: mu) fun _ h => .tail _ h).trans T.tr).ev
      · rcases List.mem_cons.mp r with r | r
        · rw [r, hCb] at e; cases e
        · exact hq r
      · rcases List.mem_cons.mp r with r | r
        · exact hCf (r ▸ hb)
        · exact hfm b hb r
      · refine hacc'.at fun o e => T.tr.keep _ o (fun r => ?_) (t₁.keep _ o (by simpa using Ne.symm hID) e)
        rcases List.mem_cons.mp r with r | r
        · exact hDC r
        · exact hDm r
    refine wpQ (step i v ys s₁ m' hlt hP (lift hIb h0' t₁) hn₁ hF₁) fun _ s₂ h₂ => wpQ h₂ fun ok s₃ h₃ => ?_
    cases ok with
    | false =>
      simp only [Bool.false_eq_true, if_false] at h₃ ⊢
      obtain ⟨b1, b2, b3⟩ := fin _ _ h₃
      exact ⟨n + 1 - (i + 1), by omega, i + 1, ys, rfl, hlt, by omega, b1, b2, b3, h₃.ns, h₃.fact⟩
    | true =>
      simp only [if_true] at h₃ ⊢
      refine wpQ h₃ fun y s₄ h₄ => ?_
      obtain ⟨b1, b2, b3⟩ := fin _ _ h₄
      refine append_tr b3 (by omega) fun s₅ t₅ hl₅ => ?_
      refine ⟨n + 1 - (i + 1), by omega, i + 1, ys ++ [y], rfl, hlt, by rw [List.length_append, List.length_singleton]; omega, lift hDb b1 t₅, W.frame _ _ _ b2 fun b hb o e => t₅.keep b o (fun r => ?_) e, hl₅, ?_, hF _ _ [D] _ _ (by simpa using hDm) t₅ h₄.fact⟩
      · simp at r; exact hDf (r ▸ hb)
      · obtain ⟨m₄, n₄⟩ := h₄.ns
        exact ⟨m₄, n₄.at' fun o e => t₅.keep _ o (by simpa using Ne.symm hDC) e⟩
  · have e : i = n := by omega
    subst e
    refine W.done _ _ _ hst' fun s₁ t₁ => ?_
    exact hR ys s₁ (lift hIb h0' t₁) (hacc'.at fun o e => t₁.keep _ o (by simpa using Ne.symm hID) e) ⟨m', hn'.at' fun o e => t₁.keep _ o (by simpa using Ne.symm hIC) e⟩ (hF _ _ [I] _ _ (by simpa using hfm I W.mem) t₁ hF')
end
end Mine
end
section
set_option maxRecDepth 100000
set_option maxHeartbeats 4000000
open PySem PySem.W PyProof.Rows PySem.Calls PySem.Spec
namespace Mine
theorem fresh_size (h : Heap) : h.get? h.objs.size = none := by
  cases e : h.get? h.objs.size with
  | none => rfl
  | some o => exact absurd (Heap.lt_size e) (Nat.lt_irrefl _)
theorem fresh_of {s s' : Shared} (u : Up s s') {a : Addr} (h : s'.heap.get? a = none) : s.heap.get? a = none := by
  cases e : s.heap.get? a with
  | none => rfl
  | some o => rw [u.le _ _ e] at h; cases h
theorem titer_not_tup {h : Heap} {a t : Addr} {i : Nat} (x : h.IsTupleIter a t i) : ∀ o, h.get? a = some o → ¬ IsT o := by
  obtain ⟨o', e', _, d⟩ := x
  rintro o e ⟨_, xs, n, q⟩
  rw [e] at e'; cases e'
  rw [d] at q; cases q
theorem ns_iter {h : Heap} {a t L : Addr} {i : Nat} {m : Str → Option Value} (x : h.IsTupleIter a t i) (n : h.Ns L m) : a ≠ L := by
  rintro rfl
  obtain ⟨o', e', _, d⟩ := x
  obtain ⟨o, es, k, e, q, _⟩ := n
  rw [e] at e'; cases e'
  rw [d] at q; cases q
theorem plain_ne_ns {h : Heap} {D L : Addr} {ys : Array Value} {m : Str → Option Value} (x : h.PlainList D ys) (n : h.Ns L m) : D ≠ L := by
  rintro rfl
  obtain ⟨n', e'⟩ := x
  obtain ⟨o, es, k, e, q, _⟩ := n
  rw [e] at e'; cases e'; cases q
theorem plain_ne_titer {h : Heap} {D a t : Addr} {ys : Array Value} {i : Nat} (x : h.PlainList D ys) (n : h.IsTupleIter a t i) : D ≠ a := by
  rintro rfl
  obtain ⟨n', e'⟩ := x
  obtain ⟨o, e, q, _⟩ := n
  rw [e] at e'; cases e'; exact absurd q (by simp)

section
variable {prog : Program} {w : World} {A : Around} {s : Shared}

/-- the loop of a comprehension of two clauses, pure; the inner one goes over a tuple and hands its items on -/
theorem loop2 {t0 i0 i1 : Expr} {y : Str} {py pt : Pos} {scope : Scope} {pos : Pos} {I D : Addr} {fp : List Addr} {n : Nat} {P : Nat → Value → Prop} {St : Nat → Heap → Prop} {cenv : Env} {R : Result → Shared → Prop}
    (hh : A.handled = none) (W : It prog w A t0 I fp n P St) (sb : Shared) (F : Nat → List Value → Shared → Prop) (hDC : D ≠ cenv.locals) (hDf : D ∉ fp) (hCf : cenv.locals ∉ fp)
    (hDb : sb.heap.get? D = none) (hIb : sb.heap.get? I = none) (hCb : sb.heap.get? cenv.locals = none)
    (hF : ∀ i ys W' s s', Tr W' s s' → F i ys s → F i ys s')
    (h0 : Up sb s) (hst : St 0 s.heap) (hacc : s.heap.PlainList D #[]) (hn : ∃ m, s.heap.Ns cenv.locals m) (hF0 : F 0 [] s)
    (hf : ∀ x, foldedSetIterable i1 cenv x = pure x) (hk : cenv.scope.kind = .function) (hy : cenv.kindOf y = some .local) (hd : (y == ("__debug__" : Str)) = false)
    (step : ∀ i v ys s₁ m₁, i < n → P i v → Up sb s₁ → s₁.heap.Ns cenv.locals m₁ → F i ys s₁ →
      wpAny (model prog w) A (assign t0 cenv v) (fun _ s₂ => wpAny (model prog w) A (eval i1 cenv) (fun x s₄ => ∃ t us, x = .ref t ∧ IsTup s₄.heap t us.toArray ∧ (ys ++ us).length ≤ sizeLine ∧ Turn [] cenv.locals (F (i + 1)) (ys ++ us) s₁ s₄) noE s₂) noE s₁)
    (hR : ∀ ys s', Up sb s' → s'.heap.PlainList D ys.toArray → (∃ m, s'.heap.Ns cenv.locals m) → F n ys s' → R (.ok .next) s') :
    codeAny (model prog w) A (.compLoop (.ListComp (.Name y py) [⟨t0, i0, [], 0⟩, ⟨.Name y pt, i1, [], 0⟩] scope pos) 0 (.ref I) (.ref D) cenv) R s := by
  have hID : I ≠ D := fun e => hDf (e ▸ W.mem)
  have hIC : I ≠ cenv.locals := fun e => hCf (e ▸ W.mem)
  have lift : ∀ {x : Addr} {s₁ s₂ : Shared}, sb.heap.get? x = none → Up sb s₁ → Tr [x] s₁ s₂ → Up sb s₂ := by
    intro x s₁ s₂ hx a b
    refine ⟨((a.to [x]).trans b).ev, fun q o hq e => b.keep q o (fun r => ?_) (a.keep q o hq e), a.tup.trans b.tup⟩
    simp at r; rw [r, hx] at e; cases e
  refine compLoop2a (fun k s' => ∃ i ys, k = n + 1 - i ∧ i ≤ n ∧ Up sb s' ∧ St i s'.heap ∧ s'.heap.PlainList D ys.toArray ∧ (∃ m, s'.heap.Ns cenv.locals m) ∧ F i ys s') ?_ (n + 1)
    ⟨0, [], rfl, Nat.zero_le _, h0, hst, hacc, hn, hF0⟩ hf
  rintro k s' ⟨i, ys, rfl, hi, h0', hst', hacc', ⟨m', hn'⟩, hF'⟩
  by_cases hlt : i < n
  · refine W.item i _ _ _ hlt hst' fun v s₁ hP hst₁ t₁ => ?_
    refine W.go (i + 1) v s₁ _ _ hst₁ ?_
    have hn₁ : s₁.heap.Ns cenv.locals m' := hn'.at' fun o e => t₁.keep _ o (by simpa using Ne.symm hIC) e
    have u₁ := lift hIb h0' t₁
    refine wpQ (step i v ys s₁ m' hlt hP u₁ hn₁ (hF i ys [I] _ _ t₁ hF')) fun _ s₂ h₂ => wpQ h₂ fun x s₄ h₄ => ?_
    obtain ⟨t, us, rfl, ht, hlen, T⟩ := h₄
    have u₄ : Up sb s₄ := lift hCb u₁ T.tr
    have hst₄ : St (i + 1) s₄.heap := W.frame _ _ _ hst₁ fun b hb o e => T.tr.keep b o (fun r => by simp at r; exact hCf (r ▸ hb)) e
    have hacc₄ : s₄.heap.PlainList D ys.toArray := hacc'.at fun o e => T.tr.keep _ o (by simpa using hDC) (t₁.keep _ o (by simpa using Ne.symm hID) e)
    have ht' : s₄.heap.IsTuple t us.toArray := ht
    refine wpAny_pyIter_tuple ht' ?_
    have hJ := fresh_size s₄.heap
    have hJb : sb.heap.get? s₄.heap.objs.size = none := fresh_of u₄ hJ
    have uP : Up s₄ { s₄ with heap := s₄.heap.push { cls := .type "tuple_iterator", data := .fields #[.ref t, .int 0 0] } } := Up.push (tk := s₄.toks)
    have hitP : ({ s₄ with heap := s₄.heap.push { cls := .type "tuple_iterator", data := .fields #[.ref t, .int 0 0] } } : Shared).heap.IsTupleIter s₄.heap.objs.size t 0 := ⟨_, Heap.get?_push_size _ rfl, rfl, rfl⟩
    revert uP hitP
    generalize hs5 : ({ s₄ with heap := s₄.heap.push { cls := .type "tuple_iterator", data := .fields #[.ref t, .int 0 0] } } : Shared) = s₅
    generalize hJJ : s₄.heap.objs.size = J at *
    intro uP hitP
    have hJf : J ∉ fp ∨ True := .inr trivial
    obtain ⟨m₄, n₄⟩ := T.ns
    have inner : codeAny (model prog w) A (.compLoop (.ListComp (.Name y py) [⟨t0, i0, [], 0⟩, ⟨.Name y pt, i1, [], 0⟩] scope pos) 1 (.ref J) (.ref D) cenv)
        (fun r s₆ => match r with | .ok _ => ∃ m, m < n + 1 - i ∧ (∃ i ys, m = n + 1 - i ∧ i ≤ n ∧ Up sb s₆ ∧ St i s₆.heap ∧ s₆.heap.PlainList D ys.toArray ∧ (∃ m, s₆.heap.Ns cenv.locals m) ∧ F i ys s₆) | .error _ => False) s₅ := by
      refine compLoop2b (fun k s' => ∃ j, k = us.length + 1 - j ∧ j ≤ us.length ∧ Up sb s' ∧ s'.heap.IsTupleIter J t j ∧ s'.heap.IsTuple t us.toArray ∧ (∃ o, s₄.heap.get? t = some o) ∧
        (∀ b ∈ fp, b ≠ J → ∀ o, s₄.heap.get? b = some o → s'.heap.get? b = some o) ∧ s'.heap.PlainList D (ys ++ us.take j).toArray ∧ (∃ m, s'.heap.Ns cenv.locals m) ∧ F (i + 1) (ys ++ us) s') ?_ (us.length + 1)
        ⟨0, rfl, Nat.zero_le _, Tr.trans u₄ uP, hitP, let ⟨o, e, r⟩ := ht'; ⟨o, uP.le _ _ e, r⟩, let ⟨o, e, _⟩ := ht'; ⟨o, e⟩, fun b _ _ o e => uP.le _ _ e, by simpa using hacc₄.at fun o e => uP.le _ _ e, ⟨m₄, n₄.keeps uP.le⟩, hF _ _ [] _ _ uP T.fact⟩
      rintro k s₆ ⟨j, rfl, hj, u₆, hit₆, ht₆, htt, hfp₆, hl₆, ⟨m₆, n₆⟩, hF₆⟩
      have hJC : J ≠ cenv.locals := ns_iter hit₆ n₆
      have hDJ : D ≠ J := plain_ne_titer hl₆ hit₆
      have htJ : t ≠ J := by rintro rfl; obtain ⟨o, e⟩ := htt; rw [hJ] at e; cases e
      by_cases hjl : j < us.length
      · refine wpAny_pyNext_tuple_item hit₆ ht₆ (x := us[j]) (by simp [hjl]) fun h' hit' hs' => ?_
        have t₇ : Tr [J] s₆ { s₆ with heap := h' } := Tr.of_but (tk := s₆.toks) hs' (titer_not_tup hit₆)
        revert t₇
        have ht₇ : h'.IsTuple t us.toArray := ht₆.extBut hs'.extBut htJ
        generalize hs7 : ({ s₆ with heap := h' } : Shared) = s₇
        have e7 : s₇.heap = h' := by rw [← hs7]
        rw [← e7] at hit' ht₇
        intro t₇
        show wpAny _ A (letOwnedTupleGo (.Name y pt) (.ref J) us[j]) _ _ s₇
        refine wpAny_of_eq (show letOwnedTupleGo (.Name y pt) (.ref J) us[j] = pure () from rfl) ?_
        have n₇ : s₇.heap.Ns cenv.locals m₆ := n₆.at' fun o e => t₇.keep _ o (by simpa using Ne.symm hJC) e
        refine wpAny_assign_Name (wpAny_storeName_local hy n₇ (fun h8 hn8 hs8 => ?_) (by rw [hk]; rfl))
        have t₈ : Tr [cenv.locals] s₇ { s₇ with heap := h8, toks := s₇.toks + 1 } := Tr.of_but hs8 (ns_not_tup n₇)
        revert t₈
        generalize hs8' : ({ s₇ with heap := h8, toks := s₇.toks + 1 } : Shared) = s₈
        have e8 : s₈.heap = h8 := by rw [← hs8']
        rw [← e8] at hn8
        intro t₈
        refine wpAny_Name (wpAny_loadName_local hk hy hn8 (v := us[j]) (by simp) ?_) hd
        have hl₈ : s₈.heap.PlainList D (ys ++ us.take j).toArray := hl₆.at fun o e => t₈.keep _ o (by simpa using hDC) (t₇.keep _ o (by simpa using hDJ) e)
        have hlt2 : (ys ++ us.take j).length ≤ sizeLine := by
          rw [List.length_append, List.length_take]; rw [List.length_append] at hlen; omega
        refine append_tr hl₈ hlt2 fun s₉ t₉ hl₉ => ?_
        have htD : t ≠ D := by
          rintro rfl
          obtain ⟨o, e, c, _⟩ := ht'
          obtain ⟨n', e'⟩ := hacc₄
          rw [e] at e'; cases e'; exact absurd c (by simp)
        have htC : t ≠ cenv.locals := by
          rintro rfl
          exact ns_not_tup n₄ _ ht'.choose_spec.1 ⟨ht'.choose_spec.2.1, _, ht'.choose_spec.2.2⟩
        refine ⟨us.length + 1 - (j + 1), by omega, j + 1, rfl, hjl, lift hDb (lift hCb (lift hJb u₆ t₇) t₈) t₉, ?_, ?_, htt, ?_, ?_, ?_, ?_⟩
        · obtain ⟨o, e, r⟩ := hit'
          exact ⟨o, t₉.keep _ o (by simpa using Ne.symm hDJ) (t₈.keep _ o (by simpa using hJC) e), r⟩
        · obtain ⟨o, e, r⟩ := ht₇
          exact ⟨o, t₉.keep _ o (by simpa using htD) (t₈.keep _ o (by simpa using htC) e), r⟩
        · intro b hb hbJ o e
          exact t₉.keep _ o (by simp; rintro rfl; exact hDf hb) (t₈.keep _ o (by simp; rintro rfl; exact hCf hb) (t₇.keep _ o (by simpa using hbJ) (hfp₆ b hb hbJ o e)))
        · rw [List.take_add_one, List.getElem?_eq_getElem hjl]; simpa [List.append_assoc] using hl₉
        · exact ⟨_, hn8.at' fun o e => t₉.keep _ o (by simpa using Ne.symm hDC) e⟩
        · exact hF _ _ [D] _ _ t₉ (hF _ _ [cenv.locals] _ _ t₈ (hF _ _ [J] _ _ t₇ hF₆))
      · have e : j = us.length := by omega
        subst e
        refine wpAny_pyNext_tuple_end hh hit₆ ht₆ (by simp) fun h' hs' => ?_
        have t₇ : Tr [J] s₆ { s₆ with heap := h' } := Tr.of_ext (tk := s₆.toks) hs' (titer_not_tup hit₆)
        revert t₇
        generalize hs7 : ({ s₆ with heap := h' } : Shared) = s₇
        intro t₇
        refine ⟨n + 1 - (i + 1), by omega, i + 1, ys ++ us, rfl, hlt, lift hJb u₆ t₇, ?_, ?_, ⟨m₆, n₆.at' fun o e => t₇.keep _ o (by simpa using Ne.symm hJC) e⟩, hF _ _ [J] _ _ t₇ hF₆⟩
        · by_cases hJin : J ∈ fp
          · obtain ⟨o, e⟩ := W.ex _ _ hst₄ J hJin; rw [hJ] at e; cases e
          · exact W.frame _ _ _ hst₄ fun b hb o e => t₇.keep _ o (by simp; rintro rfl; exact hJin hb) (hfp₆ b hb (by rintro rfl; exact hJin hb) o e)
        · simpa using hl₆.at fun o e => t₇.keep _ o (by simpa using hDJ) e
    exact compStart2 inner (wpAny_pyIter_tupleiter hitP inner)
  · have e : i = n := by omega
    subst e
    refine W.done _ _ _ hst' fun s₁ t₁ => ?_
    exact hR ys s₁ (lift hIb h0' t₁) (hacc'.at fun o e => t₁.keep _ o (by simpa using Ne.symm hID) e) ⟨m', hn'.at' fun o e => t₁.keep _ o (by simpa using Ne.symm hIC) e⟩ (hF _ _ [I] _ _ t₁ hF')
end
end Mine
end
section
set_option maxRecDepth 100000
set_option maxHeartbeats 4000000
open PySem PySem.W PyProof.Rows PySem.Calls PySem.Spec
namespace Mine
/-- v is a list or a tuple of these items -/
noncomputable def SeqV (h : Heap) (v : Value) (items : Array Value) : Prop := ∃ l, v = .ref l ∧ (h.IsList l items ∨ h.IsTuple l items)

section
variable {prog : Program} {w : World} {A : Around} {E : Value → Shared → Prop} {env : Env} {s : Shared}

/-- what the source of a comprehension of one clause has to bring -/
structure Src1 (prog : Program) (w : World) (A : Around) (env : Env) (scope : Scope) (cl : List (Str × Addr)) (elt target : Expr) (ifs : List Expr) (mu : List Addr) (F : Nat → List Value → Shared → Prop) (items : Array Value) (xv : Value) (sb : Shared) : Prop where
  seq : SeqV sb.heap xv items
  fit : items.size ≤ sizeLine
  mus : ∀ b ∈ mu, (∃ o, sb.heap.get? b = some o) ∧ xv ≠ .ref b
  stable : ∀ i ys W' s s', (∀ b ∈ W', b ∉ mu) → Tr W' s s' → F i ys s → F i ys s'
  start : F 0 [] sb
  step : ∀ C, sb.heap.get? C = none → ∀ i v ys s₁ m₁, items[i]? = some v → Tr mu sb s₁ → s₁.heap.Ns C m₁ → F i ys s₁ →
      wpAny (model prog w) A (assign target (compEnvC scope cl C env) v) (fun _ s₂ => wpAny (model prog w) A (tests ifs (compEnvC scope cl C env)) (fun ok s₃ =>
        if ok = true then wpAny (model prog w) A (eval elt (compEnvC scope cl C env)) (fun y s₄ => Turn mu C (F (i + 1)) (ys ++ [y]) s₁ s₄) noE s₃ else Turn mu C (F (i + 1)) ys s₁ s₃) noE s₂) noE s₁

theorem comp_run {elt target iter : Expr} {ifs : List Expr} {scope : Scope} {cl : List (Str × Addr)} {pos : Pos} {xv : Value} {sb : Shared} {mu : List Addr} {F : Nat → List Value → Shared → Prop} {items : Array Value} {RR : Value → Addr → Result → Shared → Prop}
    (hh : A.handled = none) (hcell : ∀ y ∈ scope.names, y.2 ≠ .cell) (hkind : scope.kind = .function)
    (S : Src1 prog w A env scope cl elt target ifs mu F items xv sb)
    (hR : ∀ C D ys s', sb.heap.get? C = none → sb.heap.get? D = none → C ≠ D → Tr mu sb s' → s'.heap.PlainList D ys.toArray → (∃ m, s'.heap.Ns C m) → F items.size ys s' → RR (.ref D) C (.ok .next) s') :
    wpAny (model prog w) A (pyIter xv) (fun it s₂ => wpAny (model prog w) A (newList []) (fun acc s₃ => wpAny (model prog w) A (newFunctionEnv scope env.globals cl [] env.qual none .none (some env)) (fun cenv s₄ =>
      codeAny (model prog w) A (.compStart (.ListComp elt [⟨target, iter, ifs, 0⟩] scope pos) 0 it acc { cenv with scope := relabel scope env }) (RR acc cenv.locals) s₄) E s₃) E s₂) E sb := by
  obtain ⟨⟨l, rfl, hl⟩, hfit, hmu, hF, hF0, hstep⟩ := S
  -- behind the iterator: one proof for both kinds
  have go : ∀ (s₂ : Shared) (I : Addr) (St : Nat → Heap → Prop), It prog w A target I [I, l] items.size (fun i v => items[i]? = some v) St → Up sb s₂ → sb.heap.get? I = none → (∃ o, s₂.heap.get? I = some o) → St 0 s₂.heap → (∃ o, sb.heap.get? l = some o) →
      wpAny (model prog w) A (newList []) (fun acc s₃ => wpAny (model prog w) A (newFunctionEnv scope env.globals cl [] env.qual none .none (some env)) (fun cenv s₄ =>
      codeAny (model prog w) A (.compStart (.ListComp elt [⟨target, iter, ifs, 0⟩] scope pos) 0 (.ref I) acc { cenv with scope := relabel scope env }) (RR acc cenv.locals) s₄) E s₃) E s₂ := by
    intro s₂ I St W u₂ hI hIx hst hlx
    refine wpAny_newObj_type (wpAny_newFunctionEnv hcell (by intro y hy; simp at hy) (fun h₁ hns₁ hsb₁ => ?_) hkind)
    dsimp only at hns₁ hsb₁ ⊢
    generalize hH2 : s₂.heap.push { cls := .type "list", dict := none, data := .seq ([] : List Value).toArray } = H2 at hns₁ hsb₁ ⊢
    have hD := fresh_size s₂.heap
    have hDI : I ≠ s₂.heap.objs.size := by rintro rfl; obtain ⟨o, e⟩ := hIx; rw [hD] at e; cases e
    have hDl : l ≠ s₂.heap.objs.size := by rintro rfl; obtain ⟨o, e⟩ := hlx; rw [u₂.le _ _ e] at hD; cases hD
    have hC : H2.objs.size = s₂.heap.objs.size + 1 := by rw [← hH2, Heap.size_push]
    have hC2 : H2.get? H2.objs.size = none := fresh_size H2
    have up2 : Le s₂.heap H2 := fun b o e => hH2 ▸ Heap.get?_push_of_some _ e
    have hCn : s₂.heap.get? H2.objs.size = none := by
      cases e : s₂.heap.get? H2.objs.size with
      | none => rfl
      | some o => rw [up2 _ _ e] at hC2; cases hC2
    have up1 : Le s₂.heap h₁ := fun b o e => hsb₁.extBut b o (by rintro rfl; rw [hCn] at e; cases e) (Heap.get?_push_of_some _ (up2 b o e))
    have hDC : s₂.heap.objs.size ≠ H2.objs.size := by rw [hC]; exact Nat.ne_of_lt (Nat.lt_succ_self _)
    have hCI : H2.objs.size ≠ I := by rintro rfl; obtain ⟨o, e⟩ := hIx; rw [hCn] at e; cases e
    have hCl : H2.objs.size ≠ l := by rintro rfl; obtain ⟨o, e⟩ := hlx; rw [u₂.le _ _ e] at hCn; cases hCn
    have hacc : h₁.PlainList s₂.heap.objs.size #[] := ⟨_, hsb₁.extBut _ _ hDC (Heap.get?_push_of_some _ (hH2 ▸ Heap.get?_push_size _ rfl))⟩
    have hu : Up s₂ { s₂ with heap := h₁, toks := s₂.toks + ([] : List (Str × Value)).length } := Up.mk' up1
    have hst₁ : St 0 h₁ := W.frame _ _ _ hst fun b _ o e => up1 b o e
    have hmuI : ∀ b ∈ [I, l], b ∉ mu := by
      intro b hb hm
      rcases List.mem_cons.mp hb with rfl | hb
      · obtain ⟨o, e⟩ := (hmu _ hm).1; rw [hI] at e; cases e
      · rcases List.mem_cons.mp hb with rfl | hb
        · exact (hmu _ hm).2 rfl
        · cases hb
    have hDb : sb.heap.get? s₂.heap.objs.size = none := fresh_of u₂ hD
    have hCb : sb.heap.get? H2.objs.size = none := fresh_of u₂ hCn
    have loop : codeAny (model prog w) A (.compLoop (.ListComp elt [⟨target, iter, ifs, 0⟩] scope pos) 0 (.ref I) (.ref s₂.heap.objs.size) (compEnvC scope cl H2.objs.size env)) (RR (.ref s₂.heap.objs.size) H2.objs.size)
        { s₂ with heap := h₁, toks := s₂.toks + ([] : List (Str × Value)).length } := by
      refine loop1 (cenv := compEnvC scope cl H2.objs.size env) (mu := mu) W sb F hDC ?_ ?_ ?_ hmuI hDb hI hCb hF (Up.to (u₂.trans hu) mu) hst₁ hacc ⟨_, hns₁⟩ ?_ (fun i v ys s₁ m₁ hi hP t n f => hstep _ hCb i v ys s₁ m₁ hP t n f) hfit fun ys s' t hp hn hf => hR _ _ ys s' hCb hDb (Ne.symm hDC) t hp hn hf
      · simp; exact ⟨Ne.symm hDI, Ne.symm hDl⟩
      · show H2.objs.size ∉ [I, l]; simp; exact ⟨hCI, hCl⟩
      · intro hm; obtain ⟨o, e⟩ := (hmu _ hm).1; rw [hDb] at e; cases e
      · exact hF 0 [] [] _ _ (by simp) (u₂.trans hu) hF0
    exact codeAny_compStart_list loop (W.self 0 _ _ _ hst₁ loop)
  rcases hl with hl | hl
  · have hlx : ∃ o, sb.heap.get? l = some o := let ⟨o, e, _⟩ := hl; ⟨o, e⟩
    have hne : l ≠ sb.heap.objs.size := by rintro rfl; obtain ⟨o, e⟩ := hlx; rw [fresh_size] at e; cases e
    have u : Up sb { sb with heap := sb.heap.push { cls := .type "list_iterator", data := .fields #[.ref l, .int 0 0] } } := Up.push (tk := sb.toks)
    exact wpAny_pyIter_list hl (go _ _ _ (It.list target hh _ l hne items) u (fresh_size _) ⟨_, Heap.get?_push_size _ rfl⟩ ⟨⟨_, Heap.get?_push_size _ rfl, rfl, rfl⟩, hl.push _⟩ hlx)
  · have hlx : ∃ o, sb.heap.get? l = some o := let ⟨o, e, _⟩ := hl; ⟨o, e⟩
    have hne : l ≠ sb.heap.objs.size := by rintro rfl; obtain ⟨o, e⟩ := hlx; rw [fresh_size] at e; cases e
    have u : Up sb { sb with heap := sb.heap.push { cls := .type "tuple_iterator", data := .fields #[.ref l, .int 0 0] } } := Up.push (tk := sb.toks)
    exact wpAny_pyIter_tuple hl (go _ _ _ (It.tuple target hh _ l hne items) u (fresh_size _) ⟨_, Heap.get?_push_size _ rfl⟩ ⟨⟨_, Heap.get?_push_size _ rfl, rfl, rfl⟩, hl.push _⟩ hlx)

theorem comp1 {elt target iter : Expr} {ifs : List Expr} {scope : Scope} {cl : List (Str × Addr)} {pos : Pos} {Q : Value → Shared → Prop}
    (hh : A.handled = none) (hclos : closureFor scope env = pure cl) (hcell : ∀ y ∈ scope.names, y.2 ≠ .cell) (hkind : scope.kind = .function) (hnames : ∀ y ∈ scope.names, y.2 = .local → scope.names.lookup y.1 = some .local) (hs : ∀ x, foldedSetIterable iter env x = pure x)
    (h : wpAny (model prog w) A (eval iter env) (fun xv sb => ∃ mu F items, Src1 prog w A env scope cl elt target ifs mu F items xv sb ∧
      ∀ D ys s', sb.heap.get? D = none → Tr mu sb s' → s'.heap.PlainList D ys.toArray → F items.size ys s' → Q (.ref D) s') E s) :
    wpAny (model prog w) A (eval (.ListComp elt [⟨target, iter, ifs, 0⟩] scope pos) env) Q E s := by
  rw [eval_ListComp]
  refine wpAny_comprehension_free (use := none) rfl hs hclos hkind hnames (wpQ h fun xv sb h₁ => ?_)
  obtain ⟨mu, F, items, S, hQ⟩ := h₁
  refine comp_run (RR := fun acc C => compPost (model prog w) A E none Q acc C) hh hcell hkind S fun C D ys s' hC hD hCD t hp hn hf => ?_
  obtain ⟨m, hn⟩ := hn
  refine ⟨m, hn, fun h' hs' => ?_⟩
  have tC : Tr [C] s' { s' with heap := h' } := Tr.of_but (tk := s'.toks) hs' (ns_not_tup hn)
  revert tC
  generalize ({ s' with heap := h' } : Shared) = s''
  intro tC
  refine hQ D ys s'' hD ?_ (hp.at fun o e => tC.keep _ o (by simpa using Ne.symm hCD) e) (S.stable _ _ [C] _ _ (by simp; intro hm; obtain ⟨o, e⟩ := (S.mus _ hm).1; rw [hC] at e; cases e) tC hf)
  refine ⟨((t.mono (W' := C :: mu) fun _ h => .tail _ h).trans (tC.mono fun _ h => by simp at h; simp [h])).ev, fun b o hb e => tC.keep b o (fun r => ?_) (t.keep b o hb e), t.tup.trans tC.tup⟩
  simp at r; rw [r, hC] at e; cases e

theorem comp1A {X : List Addr} {s₀ : Shared} {L : Addr} {m : Str → Option Value} {elt target iter : Expr} {ifs : List Expr} {y : Str} {py : Pos} {scope : Scope} {cl : List (Str × Addr)} {pos spos : Pos} {Q : Flow → Shared → Prop}
    (hh : A.handled = none) (hsw : swapsWith (.ListComp elt [⟨target, iter, ifs, 0⟩] scope pos) (some (.Name y py)) spos.line env = pure true)
    (hclos : closureFor scope env = pure cl) (hcell : ∀ y ∈ scope.names, y.2 ≠ .cell) (hkind : scope.kind = .function) (hnames : ∀ y ∈ scope.names, y.2 = .local → scope.names.lookup y.1 = some .local) (hs : ∀ x, foldedSetIterable iter env x = pure x)
    (hL : env.locals = L) (hk : env.scope.kind = .function) (hy : env.kindOf y = some .local)
    (h : wpAny (model prog w) A (eval iter env) (fun xv sb => ∃ mu F items, Src1 prog w A env scope cl elt target ifs mu F items xv sb ∧ Cx X s₀ L m sb ∧ (∀ b ∈ mu, b ∈ X ∨ s₀.heap.get? b = none) ∧ L ∉ mu ∧
      ∀ D ys s', sb.heap.get? D = none → Tr (L :: mu) sb s' → Cx X s₀ L (fun z => if z = y then some (.ref D) else m z) s' → s'.heap.PlainList D ys.toArray → F items.size ys s' → Q .next s') E s) :
    wpAny (model prog w) A (exec (.Assign [.Name y py] (.ListComp elt [⟨target, iter, ifs, 0⟩] scope pos) spos) env) Q E s := by
  subst hL
  rw [exec_Assign_Name_used _ _ _ _ hsw]
  refine wpAny_bind (wpAny_standAt (wpAny_bind ?_))
  show wpAny _ A (do let _ ← comprehension (.ListComp elt [⟨target, iter, ifs, 0⟩] scope pos) scope env _ (newList []) false (eval iter env) (some (assign (.Name y py) env))) _ _ s
  refine wpAny_bind (wpQ (Q' := fun _ s' => Q .next s') (wpAny_comprehension_free (use := some (assign (.Name y py) env)) rfl hs hclos hkind hnames
    (wpQ h fun xv sb h₁ => ?_)) (fun _ s' hq => wpAny_pure (wpAny_pure hq)))
  obtain ⟨mu, F, items, S, C₀, hX, hLm, hQ⟩ := h₁
  refine comp_run (RR := fun acc C => compPost (model prog w) A E (some (assign (.Name y py) env)) (fun _ s' => Q .next s') acc C) hh hcell hkind S fun C D ys s' hC hD hCD t hp hn hf => ?_
  obtain ⟨m₂, hn⟩ := hn
  have nL : s'.heap.Ns env.locals m := C₀.ns.at' fun o e => t.keep _ o hLm e
  have hLC : env.locals ≠ C := by rintro rfl; obtain ⟨o, es, k, e, _⟩ := C₀.ns; rw [hC] at e; cases e
  have hLD : D ≠ env.locals := plain_ne_ns hp nL
  show wpAny _ A (assign (.Name y py) env (.ref D)) _ _ _
  refine wpAny_assign_Name (wpAny_storeName_local hy nL (fun h₂ hn₂ hs₂ => ?_) (by rw [hk]; rfl))
  have tL : Tr [env.locals] s' { s' with heap := h₂, toks := s'.toks + 1 } := Tr.of_but hs₂ (ns_not_tup nL)
  revert tL
  have e2 : ({ s' with heap := h₂, toks := s'.toks + 1 } : Shared).heap = h₂ := rfl
  generalize ({ s' with heap := h₂, toks := s'.toks + 1 } : Shared) = s₂ at e2 ⊢
  rw [← e2] at hn₂
  intro tL
  refine ⟨m₂, hn.at' fun o e => tL.keep _ o (by simpa using Ne.symm hLC) e, fun h' hs' => ?_⟩
  have hnC : s₂.heap.Ns C m₂ := hn.at' fun o e => tL.keep _ o (by simpa using Ne.symm hLC) e
  have tC : Tr [C] s₂ { s₂ with heap := h' } := Tr.of_but (tk := s₂.toks) hs' (ns_not_tup hnC)
  revert tC
  generalize ({ s₂ with heap := h' } : Shared) = s''
  intro tC
  have hCm : C ∉ mu := fun hm => by obtain ⟨o, e⟩ := (S.mus _ hm).1; rw [hC] at e; cases e
  have tt : Tr (env.locals :: mu) sb s'' := by
    refine ⟨((t.mono (W' := C :: env.locals :: mu) fun _ h => .tail _ (.tail _ h)).trans ((tL.mono fun _ h => by simp at h; simp [h]).trans (tC.mono fun _ h => by simp at h; simp [h]))).ev, fun b o hb e => tC.keep b o (fun r => ?_) (tL.keep b o (fun r => ?_) (t.keep b o (fun r => ?_) e)), (t.tup.trans tL.tup).trans tC.tup⟩
    · simp at r; rw [r, hC] at e; cases e
    · simp at r; exact hb (by simp [r])
    · exact hb (by simp [r])
  refine hQ D ys s'' hD tt ⟨?_, hn₂.at' fun o e => tC.keep _ o (by simpa using hLC) e, C₀.nL⟩ (hp.at fun o e => tC.keep _ o (by simpa using Ne.symm hCD) (tL.keep _ o (by simpa using hLD) e)) (S.stable _ _ [C] _ _ (by simpa using hCm) tC (S.stable _ _ [env.locals] _ _ (by simpa using hLm) tL hf))
  have big := (C₀.tr.mono (W' := env.locals :: mu ++ X) fun _ h => by simp [h]).trans (tt.mono (W' := env.locals :: mu ++ X) fun _ h => by simp at h; rcases h with h | h <;> simp [h])
  refine ⟨big.ev, fun b o hb e => tt.keep b o (fun r => ?_) (C₀.tr.keep b o hb e), big.tup⟩
  rcases List.mem_cons.mp r with r | r
  · rw [r, C₀.nL] at e; cases e
  · rcases hX b r with q | q
    · exact hb q
    · rw [q] at e; cases e
end
end Mine
end
section
set_option maxRecDepth 100000
set_option maxHeartbeats 4000000
open PySem PySem.W PyProof.Rows PySem.Calls PySem.Spec
namespace Mine
section
variable {prog : Program} {w : World} {A : Around} {E : Value → Shared → Prop} {env : Env} {s : Shared}

structure Src2 (prog : Program) (w : World) (A : Around) (env : Env) (scope : Scope) (cl : List (Str × Addr)) (t0 i1 : Expr) (F : Nat → List Value → Shared → Prop) (items : Array Value) (xv : Value) (sb : Shared) : Prop where
  seq : SeqV sb.heap xv items
  stable : ∀ i ys W' s s', Tr W' s s' → F i ys s → F i ys s'
  start : F 0 [] sb
  step : ∀ C, sb.heap.get? C = none → ∀ i v ys s₁ m₁, items[i]? = some v → Up sb s₁ → s₁.heap.Ns C m₁ → F i ys s₁ →
      wpAny (model prog w) A (assign t0 (compEnvC scope cl C env) v) (fun _ s₂ => wpAny (model prog w) A (eval i1 (compEnvC scope cl C env)) (fun x s₄ => ∃ t us, x = .ref t ∧ IsTup s₄.heap t us.toArray ∧ (ys ++ us).length ≤ sizeLine ∧ Turn [] C (F (i + 1)) (ys ++ us) s₁ s₄) noE s₂) noE s₁

theorem comp2_run {t0 i0 i1 : Expr} {y : Str} {py pt : Pos} {scope : Scope} {cl : List (Str × Addr)} {pos : Pos} {xv : Value} {sb : Shared} {F : Nat → List Value → Shared → Prop} {items : Array Value} {RR : Value → Addr → Result → Shared → Prop}
    (hh : A.handled = none) (hcell : ∀ y ∈ scope.names, y.2 ≠ .cell) (hkind : scope.kind = .function) (hy : scope.names.lookup y = some .local) (hd : (y == ("__debug__" : Str)) = false)
    (hf : ∀ C x, foldedSetIterable i1 (compEnvC scope cl C env) x = pure x)
    (S : Src2 prog w A env scope cl t0 i1 F items xv sb)
    (hR : ∀ C D ys s', sb.heap.get? C = none → sb.heap.get? D = none → C ≠ D → Up sb s' → s'.heap.PlainList D ys.toArray → (∃ m, s'.heap.Ns C m) → F items.size ys s' → RR (.ref D) C (.ok .next) s') :
    wpAny (model prog w) A (pyIter xv) (fun it s₂ => wpAny (model prog w) A (newList []) (fun acc s₃ => wpAny (model prog w) A (newFunctionEnv scope env.globals cl [] env.qual none .none (some env)) (fun cenv s₄ =>
      codeAny (model prog w) A (.compStart (.ListComp (.Name y py) [⟨t0, i0, [], 0⟩, ⟨.Name y pt, i1, [], 0⟩] scope pos) 0 it acc { cenv with scope := relabel scope env }) (RR acc cenv.locals) s₄) E s₃) E s₂) E sb := by
  obtain ⟨⟨l, rfl, hl⟩, hF, hF0, hstep⟩ := S
  have go : ∀ (s₂ : Shared) (I : Addr) (St : Nat → Heap → Prop), It prog w A t0 I [I, l] items.size (fun i v => items[i]? = some v) St → Up sb s₂ → sb.heap.get? I = none → (∃ o, s₂.heap.get? I = some o) → St 0 s₂.heap → (∃ o, sb.heap.get? l = some o) →
      wpAny (model prog w) A (newList []) (fun acc s₃ => wpAny (model prog w) A (newFunctionEnv scope env.globals cl [] env.qual none .none (some env)) (fun cenv s₄ =>
      codeAny (model prog w) A (.compStart (.ListComp (.Name y py) [⟨t0, i0, [], 0⟩, ⟨.Name y pt, i1, [], 0⟩] scope pos) 0 (.ref I) acc { cenv with scope := relabel scope env }) (RR acc cenv.locals) s₄) E s₃) E s₂ := by
    intro s₂ I St W u₂ hI hIx hst hlx
    refine wpAny_newObj_type (wpAny_newFunctionEnv hcell (by intro y hy; simp at hy) (fun h₁ hns₁ hsb₁ => ?_) hkind)
    dsimp only at hns₁ hsb₁ ⊢
    generalize hH2 : s₂.heap.push { cls := .type "list", dict := none, data := .seq ([] : List Value).toArray } = H2 at hns₁ hsb₁ ⊢
    have hD := fresh_size s₂.heap
    have hDI : I ≠ s₂.heap.objs.size := by rintro rfl; obtain ⟨o, e⟩ := hIx; rw [hD] at e; cases e
    have hDl : l ≠ s₂.heap.objs.size := by rintro rfl; obtain ⟨o, e⟩ := hlx; rw [u₂.le _ _ e] at hD; cases hD
    have hC : H2.objs.size = s₂.heap.objs.size + 1 := by rw [← hH2, Heap.size_push]
    have hC2 : H2.get? H2.objs.size = none := fresh_size H2
    have up2 : Le s₂.heap H2 := fun b o e => hH2 ▸ Heap.get?_push_of_some _ e
    have hCn : s₂.heap.get? H2.objs.size = none := by
      cases e : s₂.heap.get? H2.objs.size with
      | none => rfl
      | some o => rw [up2 _ _ e] at hC2; cases hC2
    have up1 : Le s₂.heap h₁ := fun b o e => hsb₁.extBut b o (by rintro rfl; rw [hCn] at e; cases e) (Heap.get?_push_of_some _ (up2 b o e))
    have hDC : s₂.heap.objs.size ≠ H2.objs.size := by rw [hC]; exact Nat.ne_of_lt (Nat.lt_succ_self _)
    have hCI : H2.objs.size ≠ I := by rintro rfl; obtain ⟨o, e⟩ := hIx; rw [hCn] at e; cases e
    have hCl : H2.objs.size ≠ l := by rintro rfl; obtain ⟨o, e⟩ := hlx; rw [u₂.le _ _ e] at hCn; cases hCn
    have hacc : h₁.PlainList s₂.heap.objs.size #[] := ⟨_, hsb₁.extBut _ _ hDC (Heap.get?_push_of_some _ (hH2 ▸ Heap.get?_push_size _ rfl))⟩
    have hu : Up s₂ { s₂ with heap := h₁, toks := s₂.toks + ([] : List (Str × Value)).length } := Up.mk' up1
    have hst₁ : St 0 h₁ := W.frame _ _ _ hst fun b _ o e => up1 b o e
    have hDb : sb.heap.get? s₂.heap.objs.size = none := fresh_of u₂ hD
    have hCb : sb.heap.get? H2.objs.size = none := fresh_of u₂ hCn
    have loop : codeAny (model prog w) A (.compLoop (.ListComp (.Name y py) [⟨t0, i0, [], 0⟩, ⟨.Name y pt, i1, [], 0⟩] scope pos) 0 (.ref I) (.ref s₂.heap.objs.size) (compEnvC scope cl H2.objs.size env)) (RR (.ref s₂.heap.objs.size) H2.objs.size)
        { s₂ with heap := h₁, toks := s₂.toks + ([] : List (Str × Value)).length } := by
      refine loop2 (cenv := compEnvC scope cl H2.objs.size env) hh W sb F hDC ?_ ?_ hDb hI hCb hF (u₂.trans hu) hst₁ hacc ⟨_, hns₁⟩ ?_ (hf _) (by simp [compEnvC, relabel, hkind]) (lookup_relabel_local hy) hd (fun i v ys s₁ m₁ hi hP t n f => hstep _ hCb i v ys s₁ m₁ hP t n f) fun ys s' t hp hn hf => hR _ _ ys s' hCb hDb (Ne.symm hDC) t hp hn hf
      · simp; exact ⟨Ne.symm hDI, Ne.symm hDl⟩
      · show H2.objs.size ∉ [I, l]; simp; exact ⟨hCI, hCl⟩
      · exact hF 0 [] [] _ _ (u₂.trans hu) hF0
    exact codeAny_compStart_list loop (W.self 0 _ _ _ hst₁ loop)
  rcases hl with hl | hl
  · have hlx : ∃ o, sb.heap.get? l = some o := let ⟨o, e, _⟩ := hl; ⟨o, e⟩
    have hne : l ≠ sb.heap.objs.size := by rintro rfl; obtain ⟨o, e⟩ := hlx; rw [fresh_size] at e; cases e
    have u : Up sb { sb with heap := sb.heap.push { cls := .type "list_iterator", data := .fields #[.ref l, .int 0 0] } } := Up.push (tk := sb.toks)
    exact wpAny_pyIter_list hl (go _ _ _ (It.list t0 hh _ l hne items) u (fresh_size _) ⟨_, Heap.get?_push_size _ rfl⟩ ⟨⟨_, Heap.get?_push_size _ rfl, rfl, rfl⟩, hl.push _⟩ hlx)
  · have hlx : ∃ o, sb.heap.get? l = some o := let ⟨o, e, _⟩ := hl; ⟨o, e⟩
    have hne : l ≠ sb.heap.objs.size := by rintro rfl; obtain ⟨o, e⟩ := hlx; rw [fresh_size] at e; cases e
    have u : Up sb { sb with heap := sb.heap.push { cls := .type "tuple_iterator", data := .fields #[.ref l, .int 0 0] } } := Up.push (tk := sb.toks)
    exact wpAny_pyIter_tuple hl (go _ _ _ (It.tuple t0 hh _ l hne items) u (fresh_size _) ⟨_, Heap.get?_push_size _ rfl⟩ ⟨⟨_, Heap.get?_push_size _ rfl, rfl, rfl⟩, hl.push _⟩ hlx)

theorem comp2 {t0 i0 i1 : Expr} {y : Str} {py pt : Pos} {scope : Scope} {cl : List (Str × Addr)} {pos : Pos} {Q : Value → Shared → Prop}
    (hh : A.handled = none) (hclos : closureFor scope env = pure cl) (hcell : ∀ y ∈ scope.names, y.2 ≠ .cell) (hkind : scope.kind = .function) (hnames : ∀ y ∈ scope.names, y.2 = .local → scope.names.lookup y.1 = some .local) (hs : ∀ x, foldedSetIterable i0 env x = pure x)
    (hy : scope.names.lookup y = some .local) (hd : (y == ("__debug__" : Str)) = false) (hf : ∀ C x, foldedSetIterable i1 (compEnvC scope cl C env) x = pure x)
    (h : wpAny (model prog w) A (eval i0 env) (fun xv sb => ∃ F items, Src2 prog w A env scope cl t0 i1 F items xv sb ∧
      ∀ D ys s', sb.heap.get? D = none → Up sb s' → s'.heap.PlainList D ys.toArray → F items.size ys s' → Q (.ref D) s') E s) :
    wpAny (model prog w) A (eval (.ListComp (.Name y py) [⟨t0, i0, [], 0⟩, ⟨.Name y pt, i1, [], 0⟩] scope pos) env) Q E s := by
  rw [eval_ListComp]
  refine wpAny_comprehension_free (use := none) rfl hs hclos hkind hnames (wpQ h fun xv sb h₁ => ?_)
  obtain ⟨F, items, S, hQ⟩ := h₁
  refine comp2_run (RR := fun acc C => compPost (model prog w) A E none Q acc C) hh hcell hkind hy hd hf S fun C D ys s' hC hD hCD t hp hn hf => ?_
  obtain ⟨m, hn⟩ := hn
  refine ⟨m, hn, fun h' hs' => ?_⟩
  have tC : Tr [C] s' { s' with heap := h' } := Tr.of_but (tk := s'.toks) hs' (ns_not_tup hn)
  revert tC
  generalize ({ s' with heap := h' } : Shared) = s''
  intro tC
  refine hQ D ys s'' hD ?_ (hp.at fun o e => tC.keep _ o (by simpa using Ne.symm hCD) e) (S.stable _ _ [C] _ _ tC hf)
  refine ⟨((t.to [C]).trans tC).ev, fun b o hb e => tC.keep b o (fun r => ?_) (t.keep b o hb e), t.tup.trans tC.tup⟩
  simp at r; rw [r, hC] at e; cases e
end
end Mine
end
section
set_option maxRecDepth 100000
set_option maxHeartbeats 4000000
open PySem PySem.W PyProof.Rows PySem.Calls PySem.Spec
namespace Mine
section
variable {prog : Program} {w : World} {A : Around} {E : Value → Shared → Prop} {s : Shared} {env : Env}

/-- tuple + tuple -/
theorem tadd {t b : Addr} {vs ws : List Value} {Q : Value → Shared → Prop} (ht : IsTup s.heap t vs.toArray) (hb : IsTup s.heap b ws.toArray) (hsz : vs.length + ws.length ≤ sizeLine)
    (h : ∀ r s', Up s s' → IsTup s'.heap r (vs ++ ws).toArray → Q (.ref r) s') : wpAny (model prog w) A (binaryOp .Add (.ref t) (.ref b)) Q E s := by
  obtain ⟨⟨cls, dd, data, sl⟩, ho, hc, n, hd⟩ := id ht
  obtain ⟨⟨cls2, dd2, data2, sl2⟩, ho2, hc2, n2, hd2⟩ := id hb
  simp only at hc hd hc2 hd2
  subst hc hd hc2 hd2
  have e : vs.toArray ++ ws.toArray = (vs ++ ws).toArray := by simp
  by_cases hv : vs = []
  · exact concat_meets ⟨_, ho, rfl⟩ ⟨_, ho2, rfl⟩ noFill_tuple_add seq_tuple_add PySem.F.slot_tuple_add PySem.F.entry_tuple_add (PySem.F.args_tuple_add_2 _ _)
      (tuple_addW0 t b vs.toArray ws.toArray n n2 dd dd2 sl sl2 (by simp [hv])) ⟨ho, ho2, h _ _ (Tr.refl _ _) (by simpa [hv] using hb)⟩
  · by_cases hw : ws = []
    · exact concat_meets ⟨_, ho, rfl⟩ ⟨_, ho2, rfl⟩ noFill_tuple_add seq_tuple_add PySem.F.slot_tuple_add PySem.F.entry_tuple_add (PySem.F.args_tuple_add_2 _ _)
        (tuple_addW1 t b vs.toArray ws.toArray n n2 dd dd2 sl sl2 (by simpa using hv) (by simp [hw])) ⟨ho, ho2, h _ _ (Tr.refl _ _) (by simpa [hw] using ht)⟩
    · refine concat_meets ⟨_, ho, rfl⟩ ⟨_, ho2, rfl⟩ noFill_tuple_add seq_tuple_add PySem.F.slot_tuple_add PySem.F.entry_tuple_add (PySem.F.args_tuple_add_2 _ _)
        (tuple_addW2 t b vs.toArray ws.toArray n n2 dd dd2 sl sl2 (by simpa using hv) (by simpa using hw) (by rw [List.size_toArray, List.size_toArray]; exact hsz)) ⟨ho, ho2, ?_⟩
      rw [e]
      exact h _ _ (Up.push (tk := s.toks)) (IsTup.new _ _)

noncomputable def PartIs (v : Value) : Option Nat → Prop
  | none => v = .none
  | some n => ∃ t, v = .int (n : Int) t
theorem slicePart_is {v : Value} {a : Option Nat} {Q : Option Int → Shared → Prop} (hv : PartIs v a) (h : Q (a.map fun n => (n : Int)) s) : wpAny (model prog w) A (Builtin.Slice.slicePartIndex v) Q E s := by
  cases a with
  | none => cases hv; exact slicePart_none h
  | some n => obtain ⟨t, rfl⟩ := hv; exact slicePart_int h
theorem sliceApplied_is {sl : Addr} {av bv : Value} {a b : Option Nat} {n : Nat} {Q : Int × Int × Nat → Shared → Prop} (hs : s.heap.IsSliceOf sl av bv .none) (ha : PartIs av a) (hb : PartIs bv b) (h1 : a.getD 0 ≤ b.getD n) (h2 : b.getD n ≤ n)
    (h : Q ((a.getD 0 : Nat), 1, b.getD n - a.getD 0) s) : wpAny (model prog w) A (Builtin.Slice.sliceApplied (.ref sl) (pure (n : Int))) Q E s := by
  obtain ⟨os, hos, hcs, hds⟩ := id hs
  unfold Builtin.Slice.sliceApplied Builtin.Slice.sliceFields
  refine wpAny_bind (wpAny_bind (wpAny_field hos hds (x := av) rfl (wpAny_bind (wpAny_field hos hds (x := bv) rfl (wpAny_bind (wpAny_field hos hds (x := .none) rfl (wpAny_pure ?_)))))))
  refine wpAny_bind (slicePart_none ?_)
  show wpAny _ _ (if ((1 : Int) == 0) = true then _ else _) _ _ s
  rw [if_neg (by decide)]
  refine wpAny_bind (slicePart_is ha (wpAny_bind (slicePart_is hb (wpAny_bind (wpAny_pure ?_)))))
  have e : Builtin.Slice.sliceAdjust (a.map fun n => (n : Int)) (b.map fun n => (n : Int)) 1 (n : Int) = (((a.getD 0 : Nat) : Int), ((b.getD n : Nat) : Int)) := by
    unfold Builtin.Slice.sliceAdjust
    have k1 : ¬ ((1 : Int) < 0) := by omega
    cases a with
    | none =>
      cases b with
      | none => simp
      | some b => simp at h1 h2 ⊢; omega
    | some a =>
      cases b with
      | none => simp at h1 h2 ⊢; omega
      | some b => simp at h1 h2 ⊢; omega
  show wpAny _ _ (match Builtin.Slice.sliceAdjust (a.map fun n => (n : Int)) (b.map fun n => (n : Int)) 1 (n : Int) with | (lo, hi) => pure (lo, (1 : Int), Builtin.Slice.slicePlaces lo hi 1)) _ _ s
  rw [e]
  show wpAny _ _ (pure (((a.getD 0 : Nat) : Int), (1 : Int), Builtin.Slice.slicePlaces ((a.getD 0 : Nat) : Int) ((b.getD n : Nat) : Int) 1)) _ _ s
  have e2 : Builtin.Slice.slicePlaces ((a.getD 0 : Nat) : Int) ((b.getD n : Nat) : Int) 1 = b.getD n - a.getD 0 := by
    unfold Builtin.Slice.slicePlaces
    have h1 : (1 : Int) > 0 := by omega
    simp only [h1, if_true, Int.ediv_one]
    split <;> omega
  rw [e2]
  exact wpAny_pure h

theorem tslice_get {t sl : Addr} {vs : List Value} {av bv : Value} {a b : Option Nat} {Q : Value → Shared → Prop} (ht : IsTup s.heap t vs.toArray) (hs : s.heap.IsSliceOf sl av bv .none) (ha : PartIs av a) (hb : PartIs bv b)
    (h1 : a.getD 0 ≤ b.getD vs.length) (h2 : b.getD vs.length ≤ vs.length) (hsz : vs.length ≤ sizeLine)
    (h : ∀ r s', Up s s' → IsTup s'.heap r ((vs.drop (a.getD 0)).take (b.getD vs.length - a.getD 0)).toArray → Q (.ref r) s') : wpAny (model prog w) A (getItem (.ref t) (.ref sl)) Q E s := by
  obtain ⟨os, hos, hcs, hds⟩ := id hs
  have hTs : s.TypeIs (.ref sl) "slice" := ⟨os, hos, hcs⟩
  obtain ⟨ot, hot, hct, nt, hdt⟩ := id ht
  unfold getItem
  try with_reducible refine wpAny_holding ?_
  first | refine wpAny_bind (wpAny_pure ?_) | skip
  refine wpAny_bind (wpAny_sequenceKey ht.typeIs (by decide) ?_)
  refine wpAny_bind (wpAny_callSpecial?_slot (name := Str.ofString "__getitem__") ht.typeIs slot_tuple_getitem
    (wpAny_call_entry slot_tuple_getitem ht.typeIs entry_tuple_getitem ?_ (args_tuple_getitem _ _)))
  show wpAny _ _ (Builtin.Tuple.tupleItemsOf (.ref t) >>= _) _ _ s
  refine wpAny_bind (tupleItemsOf_ ht ?_)
  refine wpAny_bind (wpAny_typeOf hTs ?_)
  rw [if_pos (by decide)]
  have hn : vs.toArray.size = vs.length := by simp
  rw [hn]
  refine wpAny_bind (sliceApplied_is (n := vs.length) hs ha hb h1 h2 ?_)
  have hdrop : sizeOk (.seq ((vs.drop (a.getD 0)).take (b.getD vs.length - a.getD 0)).toArray) := by
    show ((vs.drop (a.getD 0)).take (b.getD vs.length - a.getD 0)).toArray.size ≤ sizeLine
    rw [List.size_toArray, List.length_take, List.length_drop]
    omega
  have hpick : ((List.range (b.getD vs.length - a.getD 0)).filterMap fun (k : Nat) => vs.toArray[(((a.getD 0 : Nat) : Int) + (k : Int) * 1).toNat]?).toArray = ((vs.drop (a.getD 0)).take (b.getD vs.length - a.getD 0)).toArray := by
    have e : (fun (k : Nat) => vs.toArray[(((a.getD 0 : Nat) : Int) + (k : Int) * 1).toNat]?) = fun k => vs.toArray[a.getD 0 + k]? := by
      funext k
      have : (((a.getD 0 : Nat) : Int) + (k : Int) * 1).toNat = a.getD 0 + k := by omega
      rw [this]
    rw [e]
    have := pick_run vs.toArray (a.getD 0) (b.getD vs.length - a.getD 0)
    rw [List.filterMap_map] at this
    have e2 : ((fun x => vs.toArray[x]?) ∘ fun x => a.getD 0 + x) = fun k => vs.toArray[a.getD 0 + k]? := rfl
    rw [e2] at this
    rw [this]
  have made : wpAny (model prog w) A.in1 (Builtin.Tuple.tupleExact ((List.range (b.getD vs.length - a.getD 0)).filterMap fun (k : Nat) => vs.toArray[(((a.getD 0 : Nat) : Int) + (k : Int) * 1).toNat]?).toArray) Q E s := by
    rw [hpick]
    exact wpAny_newObj_type (h _ _ (Up.push (tk := s.toks)) (IsTup.new _ _)) hdrop
  by_cases hw : (((a.getD 0 : Nat) : Int) == 0 && (1 : Int) == 1 && (b.getD vs.length - a.getD 0) == vs.length) = true
  · show wpAny _ _ (if (((a.getD 0 : Nat) : Int) == 0 && (1 : Int) == 1 && (b.getD vs.length - a.getD 0) == vs.length) = true then _ else _) _ _ s
    rw [if_pos hw]
    simp only [Bool.and_eq_true, beq_iff_eq] at hw
    obtain ⟨⟨w1, _⟩, w2⟩ := hw
    have a0 : a.getD 0 = 0 := by omega
    have hq : Q (.ref t) s := h _ _ (Tr.refl _ _) (by rw [a0, List.drop_zero, List.take_of_length_le (by omega)]; exact ht)
    refine wpAny_bind (m := Builtin.Tuple.tupleIsExact (.ref t)) ?_
    unfold Builtin.Tuple.tupleIsExact
    refine wpAny_bind (wpAny_typeOf ht.typeIs (wpAny_pure ?_))
    rw [if_pos (by decide)]
    refine wpAny_bind (wpAny_rule ?_)
    first
      | exact wpAny_pure ⟨_, rfl, wpAny_pure hq⟩
      | exact wpAny_bind (wpAny_pure (wpAny_pure ⟨_, rfl, wpAny_pure hq⟩))
      | exact wpAny_bind (wpAny_pure ⟨_, rfl, wpAny_pure hq⟩)
  · show wpAny _ _ (if (((a.getD 0 : Nat) : Int) == 0 && (1 : Int) == 1 && (b.getD vs.length - a.getD 0) == vs.length) = true then _ else _) _ _ s
    rw [if_neg hw]
    first
      | exact wpAny_bind (wpAny_mono made (fun _ _ q => wpAny_pure ⟨_, rfl, wpAny_pure q⟩) fun _ _ x => x)
      | exact wpAny_bind (wpAny_mono made (fun _ _ q => wpAny_bind (wpAny_pure (wpAny_pure ⟨_, rfl, wpAny_pure q⟩))) fun _ _ x => x)
      | exact wpAny_bind (wpAny_bind (wpAny_mono made (fun _ _ q => wpAny_pure (wpAny_pure ⟨_, rfl, wpAny_pure q⟩)) fun _ _ x => x))
      | exact wpAny_bind (wpAny_bind (wpAny_mono made (fun _ _ q => wpAny_pure ⟨_, rfl, wpAny_pure q⟩) fun _ _ x => x))
end
end Mine
end
section
set_option maxRecDepth 100000
set_option maxHeartbeats 4000000
open PySem PySem.W PyProof.Rows PySem.Calls PySem.Spec
namespace Mine
section
variable {prog : Program} {w : World} {A : Around} {E : Value → Shared → Prop} {s s₀ : Shared} {env : Env} {X : List Addr} {L : Addr} {m : Str → Option Value}

/-- the value of an item: tuple[k] -/
theorem tidx {value slice : Expr} {pos : Pos} {Q : Value → Shared → Prop}
    (h : wpAny (model prog w) A (eval value env) (fun o s₁ => wpAny (model prog w) A (eval slice env) (fun i s₂ => ∃ t vs k tk x, o = .ref t ∧ i = .int ((k : Nat) : Int) tk ∧ IsTup s₂.heap t (List.toArray vs) ∧ vs[k]? = some x ∧ vs.length ≤ sizeLine ∧ Q x s₂) E s₁) E s)
    (hs : ∀ t k u, subscripted slice false (.ref t) (.int k u) = operate [.ref t, .int k u] (getItem (.ref t) (.int k u)) := by intro _ _ _; with_unfolding_all rfl) :
    wpAny (model prog w) A (eval (.Subscript value slice pos) env) Q E s := by
  refine Subscript_ (wpQ h fun o s₁ h₁ => wpQ h₁ fun i s₂ h₂ => ?_)
  obtain ⟨t, vs, k, tk, x, rfl, rfl, ht, hx, hl, hq⟩ := h₂
  have hk : k < vs.length := (List.getElem?_eq_some_iff.mp hx).1
  have hsz : sizeLine ≤ 2 ^ 62 := by rw [PySem.sizeLine_eq]; decide
  exact item_tupleT ht (by omega) (by omega) (by unfold seqIndex?; simp; omega) hx hq (hs _ _ _)

theorem tslice {value : Expr} {lower upper : Option Expr} {p pos : Pos} {Q : Value → Shared → Prop}
    (h : wpAny (model prog w) A (eval value env) (fun o s₁ => wpAny (model prog w) A (evalPart lower env) (fun l s₂ => wpAny (model prog w) A (evalPart upper env) (fun u s₃ =>
      ∃ t vs a b, o = .ref t ∧ IsTup s₃.heap t (List.toArray vs) ∧ PartIs l a ∧ PartIs u b ∧ a.getD 0 ≤ b.getD vs.length ∧ b.getD vs.length ≤ vs.length ∧ vs.length ≤ sizeLine ∧
        ∀ r s', Up s₃ s' → IsTup s'.heap r ((vs.drop (a.getD 0)).take (b.getD vs.length - a.getD 0)).toArray → Q (.ref r) s') E s₂) E s₁) E s)
    (hs : ∀ t i, subscripted (.Slice lower upper none p) false (.ref t) (.ref i) = operate [.ref i, .ref t] (getItem (.ref t) (.ref i)) := by intro _ _; with_unfolding_all rfl) :
    wpAny (model prog w) A (eval (.Subscript value (.Slice lower upper none p) pos) env) Q E s := by
  refine Subscript_ (wpQ h fun o s₁ h₁ => wpAny_Slice (wpQ h₁ fun l s₂ h₂ => wpQ h₂ fun u s₃ h₃ => wpAny_pure ?_))
  obtain ⟨t, vs, a, b, rfl, ht, hl, hu, h1, h2, hsz, hq⟩ := h₃
  have up : Up s₃ { s₃ with heap := s₃.heap.push { cls := .type "slice", data := .fields #[l, u, .none] } } := Up.push (tk := s₃.toks)
  refine tail_any (ht.keeps up.le).typeIs slot_tuple_getitem.lookup (tslice_get (ht.keeps up.le) (Heap.IsSliceOf.new ..) hl hu h1 h2 hsz fun r s' u' ht' => hq r s' (up.trans u') ht') (hs _ _)

theorem callN {x : Str} {p pos : Pos} {e : Expr} {rest : List Expr} {f : Addr} {Q : Value → Shared → Prop} (G : Gx w X s.heap) (he : nsIn (Kf w) mainGlobals x = some (some (.ref f))) (hk : keepIn (Kf w) (.ref f) = true)
    (h : wpAny (model prog w) A (spliced (backTo pos (starEach (e :: rest) env))) (fun vs s₁ => (Kf w).In s₁.heap ∧ wpAny (model prog w) A (call (.ref f) vs) Q E s₁) E s)
    (hg : env.globals = mainGlobals := by rfl) (hk' : env.scope.kind = .function := by rfl) (hx : env.kindOf x = some .globalImplicit := by rfl) (hd : (x == ("__debug__" : Str)) = false := by decide)
    (hst : starEach (e :: rest) env = (false, eval e env) :: starEach rest env := by rfl) (hplain : (backTo pos (starEach rest env)).any (·.1) = false := by rfl) :
    wpAny (model prog w) A (eval (.Call (.Name x p) (e :: rest) [] pos) env) Q E s := by
  refine Call_Name rfl (gl G he ?_ hg hk' hx hd)
  exact callWith_K (h₀ := s.heap) G.gd.K hk h hst hplain

theorem callB {x : Str} {id : String} {p pos : Pos} {e : Expr} {rest : List Expr} {Q : Value → Shared → Prop} (G : Gx w X s.heap) (he : nsIn (Kf w) mainGlobals x = some none) (hv : bootBuiltins x = some (.builtin id)) (hn : x ≠ "__name__")
    (h : wpAny (model prog w) A (spliced (backTo pos (starEach (e :: rest) env))) (fun vs s₁ => wpAny (model prog w) A (call (.builtin id) vs) Q E s₁) E s)
    (hg : env.globals = mainGlobals := by rfl) (hb : env.builtins = builtinsNs := by rfl) (hk' : env.scope.kind = .function := by rfl) (hx : env.kindOf x = some .globalImplicit := by rfl) (hd : (x == ("__debug__" : Str)) = false := by decide)
    (hst : starEach (e :: rest) env = (false, eval e env) :: starEach rest env := by rfl) (hplain : (backTo pos (starEach rest env)).any (·.1) = false := by rfl) :
    wpAny (model prog w) A (eval (.Call (.Name x p) (e :: rest) [] pos) env) Q E s := by
  refine Call_Name rfl (bl G he hv hn ?_ hg hb hk' hx hd)
  rw [hst] at h ⊢
  exact callWith_builtin (by show (false || (backTo pos (starEach rest env)).any (·.1)) = false; rw [hplain]; rfl) (evalArgs_plain h)

theorem callT {x : Str} {T : String} {p pos : Pos} {e : Expr} {rest : List Expr} {Q : Value → Shared → Prop} (G : Gx w X s.heap) (he : nsIn (Kf w) mainGlobals x = some none) (hv : bootBuiltins x = some (.type T)) (hn : x ≠ "__name__")
    (h : wpAny (model prog w) A (spliced (backTo pos (starEach (e :: rest) env))) (fun vs s₁ => wpAny (model prog w) A (call (.type T) vs) Q E s₁) E s)
    (hg : env.globals = mainGlobals := by rfl) (hb : env.builtins = builtinsNs := by rfl) (hk' : env.scope.kind = .function := by rfl) (hx : env.kindOf x = some .globalImplicit := by rfl) (hd : (x == ("__debug__" : Str)) = false := by decide)
    (hst : starEach (e :: rest) env = (false, eval e env) :: starEach rest env := by rfl) (hplain : (backTo pos (starEach rest env)).any (·.1) = false := by rfl) :
    wpAny (model prog w) A (eval (.Call (.Name x p) (e :: rest) [] pos) env) Q E s := by
  refine Call_Name rfl (bl G he hv hn ?_ hg hb hk' hx hd)
  exact callWith_type1 h hst hplain

theorem len_t {t : Addr} {vs : List Value} {Q : Value → Shared → Prop} (ht : IsTup s.heap t vs.toArray) (hsz : vs.length ≤ sizeLine) (h : ∀ tk s', Up s s' → Q (.int vs.length tk) s') : wpAny (model prog w) A (call (.builtin "len") [.ref t]) Q E s := by
  have hs : sizeLine ≤ 2 ^ 62 := by rw [PySem.sizeLine_eq]; decide
  have := len_tuple (prog := prog) (w := w) (A := A) (E := E) (Q := Q) ht (by simp; omega) (by simpa using h _ _ (Up.tok (tk := s.toks + 1 + 1)))
  exact this
theorem len_l {t : Addr} {vs : List Value} {Q : Value → Shared → Prop} (ht : s.heap.IsList t vs.toArray) (hsz : vs.length ≤ sizeLine) (h : ∀ tk s', Up s s' → Q (.int vs.length tk) s') : wpAny (model prog w) A (call (.builtin "len") [.ref t]) Q E s := by
  have hs : sizeLine ≤ 2 ^ 62 := by rw [PySem.sizeLine_eq]; decide
  have := call_len_list (prog := prog) (w := w) (A := A) (E := E) (Q := Q) ht (by simp; omega) (by simpa using h _ _ (Up.tok (tk := s.toks + 1 + 1)))
  exact this
end

theorem g_parts (w : World) : nsIn (Kf w) mainGlobals "parts" = some (some (.ref 26)) := by rfl
theorem g_key_of (w : World) : nsIn (Kf w) mainGlobals "key_of" = some (some (.ref 31)) := by rfl
theorem g_in_order_of (w : World) : nsIn (Kf w) mainGlobals "in_order_of" = some (some (.ref 36)) := by rfl
theorem g_Bags (w : World) : nsIn (Kf w) mainGlobals "Bags" = some (some (.ref 131)) := by rfl
theorem g_draw (w : World) : nsIn (Kf w) mainGlobals "_law_draw" = some (some (.ref 142)) := by rfl
theorem g_small (w : World) : nsIn (Kf w) mainGlobals "_law_small" = some (some (.ref 149)) := by rfl
theorem g_term (w : World) : nsIn (Kf w) mainGlobals "_law_term" = some (some (.ref 154)) := by rfl
theorem g_turns (w : World) : nsIn (Kf w) mainGlobals "_law_turns" = some (some (.ref 159)) := by rfl
theorem g_reached (w : World) : nsIn (Kf w) mainGlobals "_law_reached" = some (some (.ref 166)) := by rfl
theorem g_bent (w : World) : nsIn (Kf w) mainGlobals "_law_bent" = some (some (.ref 173)) := by rfl
theorem g_len (w : World) : nsIn (Kf w) mainGlobals "len" = some none := by rfl
theorem g_tuple (w : World) : nsIn (Kf w) mainGlobals "tuple" = some none := by rfl
theorem g_list (w : World) : nsIn (Kf w) mainGlobals "list" = some none := by rfl
theorem g_int (w : World) : nsIn (Kf w) mainGlobals "int" = some none := by rfl
theorem g_range (w : World) : nsIn (Kf w) mainGlobals "range" = some none := by rfl
theorem g_enumerate (w : World) : nsIn (Kf w) mainGlobals "enumerate" = some none := by rfl
theorem g_sorted (w : World) : nsIn (Kf w) mainGlobals "sorted" = some none := by rfl
theorem k_fn26 (w : World) : keepIn (Kf w) (.ref 26) = true := by rfl
end Mine
end
section
set_option maxRecDepth 100000
set_option maxHeartbeats 4000000
open PySem PySem.W PyProof.Rows PySem.Calls PySem.Spec
namespace Mine
noncomputable def BagAt (h : Heap) (b l : Addr) : Prop := ∃ dx hs tk n, h.get? b = some (instObj 131 dx) ∧ h.get? dx = some (dictOf [⟨hs, .str "ops" tk, .ref l⟩] n)
theorem BagAt.up {h h' : Heap} {b l : Addr} (x : BagAt h b l) (k : Le h h') : BagAt h' b l := let ⟨dx, hs, tk, n, e1, e2⟩ := x; ⟨dx, hs, tk, n, k _ _ e1, k _ _ e2⟩
theorem BagAt.inst {h : Heap} {b l : Addr} (x : BagAt h b l) : ∃ dx hs tk n, InstAt h b (instObj 131 dx) 131 (some (dictOf [⟨hs, .str "ops" tk, .ref l⟩] n)) := let ⟨dx, hs, tk, n, e1, e2⟩ := x; ⟨dx, hs, tk, n, e1, rfl, rfl, e2⟩
noncomputable def OpsAt (h : Heap) (l : Addr) (ops : List Lab) : Prop := ∃ vs, h.IsList l (List.toArray vs) ∧ RdAll h vs (ops.map fun x => .str x.str)
theorem OpsAt.up {h h' : Heap} {l : Addr} {ops : List Lab} (x : OpsAt h l ops) (k : Le h h') : OpsAt h' l ops := let ⟨vs, ⟨o, e, r⟩, q⟩ := x; ⟨vs, ⟨o, k _ _ e, r⟩, q.up k.tup⟩

noncomputable def isBag (ops : List Lab) (T : Term) : Bool := ops.contains T.lab && decide (2 ≤ T.kids.length)

theorem ops_can : ∀ ops : List Lab, PyData.canLayAll0 (ops.map fun x => PyData.str x.str) = true
  | [] => rfl
  | x :: xs => by rw [List.map_cons, PyData.canLayAll0, PyData.canLay0, strOk_lab, ops_can xs]; rfl
theorem ops_any (ops : List Lab) (l : Lab) : ((ops.map fun x => PyData.str x.str).any fun y => PyData.eqv y (.str l.str)) = ops.contains l := by
  induction ops with
  | nil => rfl
  | cons x xs ih =>
    rw [List.map_cons, List.any_cons, ih, PyData.eqv, lab_str_inj, List.contains_cons]
    by_cases h : x = l
    · subst h; simp
    · have : (l == x) = false := by simpa using (fun e => h e.symm)
      simp [h, this]

section
variable {prog : Program} {w : World} {A : Around} {E : Value → Shared → Prop} {s s₀ : Shared} {X : List Addr}
theorem is_bag_ok {b l : Addr} {v : Value} {ops : List Lab} {T : Term} {Q : Value → Shared → Prop} (G : Gx w X s.heap) (hb : BagAt s.heap b l) (ho : OpsAt s.heap l ops) (ht : Tm s.heap v T) (hd : A.depth + 1 < recursionLimit) (hu : A.units + 100 < cLine)
    (hk : T.kids.length ≤ 1000) (h : ∀ s', Up s s' → Q (.bool (isBag ops T)) s') : wpAny (model prog w) A (call (.ref 57) [.ref b, v]) Q E s := by
  refine enter (binds := [("self", .ref b), ("t", v)]) G (by exact rfl) (by exact rfl) (by omega) (by exact rfl) (by decide) (by exact rfl) rfl rfl rfl (fun L s₁ C G₁ => ?_)
  have u₁ := C.tr
  refine wpAny_execs_cons (wpAny_Return_some ?_)
  obtain ⟨lab, ks⟩ := T
  obtain ⟨a, t, vs, rfl, hT, hvs⟩ := Tm.open ht
  have hlen : vs.length = ks.length := by have := hvs.length; rw [this, Term.pys_eq, List.length_map]
  have hk' : ks.length ≤ 1000 := hk
  have hsl : 1000000 ≤ sizeLine := by rw [PySem.sizeLine_eq]; decide
  refine wpAny_And2 (wpAny_Compare1 (tidx (nm C rfl (ci fun tk s₂ u₂ => ?_))))
  have u₂' := Tr.trans u₁ u₂
  refine ⟨a, _, 0, tk, _, rfl, rfl, hT.keeps (Up.le u₂'), rfl, by simp; omega, ?_⟩
  have C₂ := C.up u₂
  refine Attribute_name (nm C₂ rfl ?_)
  obtain ⟨dx, hs, tk', n, I⟩ := (hb.up (Up.le u₂')).inst
  refine get_value (G.up C₂.tr).gd.K I (by exact rfl) (v := .ref l) (by exact rfl) rfl ?_
  obtain ⟨ws, ⟨ol, hol, hcl, nl, hdl⟩, hws⟩ := ho.up (Up.le u₂')
  obtain ⟨as, hR⟩ : ∃ as, Reads s₂.heap (.ref l) (.list (ops.map fun x => .str x.str)) as := ⟨_, .list hol hcl hdl (by simpa using hws.1)⟩
  refine SeqAt.in_list_reads (d := .str lab.str) (bs := []) hR (.str _ _) ?_ (by rw [PyData.canLay0]; exact strOk_lab _) ?_ ?_
  · exact ops_can ops
  · show A.units + 3 + 1 + min _ _ < cLine
    have : min (PyData.depthAll (ops.map fun x => PyData.str x.str)) (PyData.depth (.str lab.str)) ≤ 0 := Nat.min_le_right _ _
    omega
  · rw [ops_any]
    have hu1 : Up s₂ { s₂ with toks := s₂.toks + 1 } := Up.tok
    revert hu1
    generalize ({ s₂ with toks := s₂.toks + 1 } : Shared) = s₃
    intro u₃
    have C₃ := C₂.up u₃
    refine wpAny_truthy_bool ?_
    unfold isBag at h
    by_cases hc : ops.contains lab = true
    · rw [hc]
      simp only [if_true]
      refine wpAny_Compare1 (callB (G.up C₃.tr) (g_len w) boot_len (by decide) (wpAny_items_cons (nm C₃ rfl (wpAny_items_nil ?_))))
      refine len_t (hT.keeps (C₃.tr.le)) (by simp; omega) fun tk₄ s₄ u₄ => ci fun tk₅ s₅ u₅ => gt_int ?_
      have e : decide (((2 : Int)) < (((Value.str lab.str t :: vs).length : Nat) : Int)) = decide (2 ≤ ks.length) := by
        rw [List.length_cons, hlen]; by_cases hq : 2 ≤ ks.length <;> simp [hq] <;> omega
      rw [e]
      have := h s₅ (((C₃.tr.trans u₄).trans u₅))
      rw [Term.lab, Term.kids, hc, Bool.true_and] at this
      exact this
    · have hc' : ops.contains lab = false := by simpa using hc
      rw [hc']
      have := h s₃ C₃.tr
      rw [Term.lab, hc', Bool.false_and] at this
      exact this
end
end Mine
end
section
set_option maxRecDepth 100000
set_option maxHeartbeats 4000000
open PySem PySem.W PyProof.Rows PySem.Calls PySem.Spec
namespace Mine
theorem enum_not_tup {h : Heap} {e : Addr} {a b c d f g : Value} (x : h.get? e = some { cls := .type "enumerate", dict := none, data := .fields #[a, b, c, d, f, g], slots := #[] }) : ∀ o, h.get? e = some o → ¬ IsT o := by
  rintro o q ⟨c, _⟩
  rw [x] at q; cases q; exact absurd c (by simp)

section
variable {prog : Program} {w : World} {A : Around} {E : Value → Shared → Prop} {s : Shared}

/-- the next item of a tuple's iterator, as the other iterators ask for it -/
theorem nextOf_t {it t : Addr} {i : Nat} {items : Array Value} {x : Value} {Q : Value → Shared → Prop} (hit : s.heap.IsTupleIter it t i) (ht : s.heap.IsTuple t items) (hx : items[i]? = some x)
    (hQ : ∀ s', Tr [it] s s' → s'.heap.IsTupleIter it t (i + 1) → Q x s') : wpAny (model prog w) A (Builtin.SmallTypes.nextOf (.ref it)) Q E s := by
  have nt := titer_not_tup hit
  obtain ⟨o, ho, hc, hd⟩ := id hit
  obtain ⟨ol, hol, _, nl, hdl⟩ := ht
  unfold Builtin.SmallTypes.nextOf
  refine wpAny_bind (wpAny_callSpecial?_slot (name := Str.ofString "__next__") hit.typeIs F.slot_tuple_iterator_next
    (wpAny_call_entry F.slot_tuple_iterator_next hit.typeIs F.entry_tuple_iterator_next ?_ (F.args_tuple_iterator_next_1 _)))
  show wpAny _ _ (field (.ref it) 0 >>= _) _ _ s
  refine wpAny_bind (wpAny_field ho hd (x := .ref t) rfl ?_)
  show wpAny _ _ (if (Value.ref t == Value.none) = true then _ else _) _ _ s
  rw [if_neg (show ¬ ((Value.ref t == Value.none) = true) from Bool.false_ne_true)]
  show wpAny _ _ (field (.ref it) 1 >>= _) _ _ s
  refine wpAny_bind (wpAny_field ho hd (x := .int i 0) rfl ?_)
  show wpAny _ _ (seqItems? (.ref t) >>= _) _ _ s
  refine wpAny_bind (wpAny_seqItems hol hdl ?_)
  simp only [Int.toNat_natCast, hx]
  refine wpAny_bind (wpAny_setField ho hd (by simp) (wpAny_pure ⟨x, rfl, wpAny_pure (hQ _ (Tr.of_but (tk := s.toks) (Heap.SameBut.update ..) nt) ?_)⟩))
  exact ⟨_, Heap.get?_update_self _ ho (Obj.isFreed_of_fields (Obj.data_mapFields hd _)), (Obj.cls_mapFields ..).trans hc, by
    rw [Obj.data_mapFields hd]; simp [rawInt]⟩

theorem nextOf_t_end {it t : Addr} {i : Nat} {items : Array Value} {Q : Value → Shared → Prop} (hh : A.handled = none) (hit : s.heap.IsTupleIter it t i) (ht : s.heap.IsTuple t items) (hx : items[i]? = none)
    (hE : ∀ s' e, Tr [it] s s' → (∃ o, s'.heap.get? e = some o ∧ o.cls = .type "StopIteration") → E (.ref e) s') : wpAny (model prog w) A (Builtin.SmallTypes.nextOf (.ref it)) Q E s := by
  have nt := titer_not_tup hit
  obtain ⟨o, ho, hc, hd⟩ := id hit
  obtain ⟨ol, hol, _, nl, hdl⟩ := ht
  unfold Builtin.SmallTypes.nextOf
  refine wpAny_bind (wpAny_callSpecial?_slot (name := Str.ofString "__next__") hit.typeIs F.slot_tuple_iterator_next
    (wpAny_call_entry F.slot_tuple_iterator_next hit.typeIs F.entry_tuple_iterator_next ?_ (F.args_tuple_iterator_next_1 _)))
  show wpAny _ _ (field (.ref it) 0 >>= _) _ _ s
  refine wpAny_bind (wpAny_field ho hd (x := .ref t) rfl ?_)
  show wpAny _ _ (if (Value.ref t == Value.none) = true then _ else _) _ _ s
  rw [if_neg (show ¬ ((Value.ref t == Value.none) = true) from Bool.false_ne_true)]
  show wpAny _ _ (field (.ref it) 1 >>= _) _ _ s
  refine wpAny_bind (wpAny_field ho hd (x := .int i 0) rfl ?_)
  show wpAny _ _ (seqItems? (.ref t) >>= _) _ _ s
  refine wpAny_bind (wpAny_seqItems hol hdl ?_)
  simp only [Int.toNat_natCast, hx]
  refine wpAny_bind (wpAny_rule (wpAny_bind (wpAny_setField ho hd (by simp) ?_)))
  show wpAny _ _ (newExc (.type "StopIteration") [] >>= _) _ _ _
  refine wpAny_bind ?_
  simp only [newExc, newTuple]
  refine wpAny_bind (wpAny_newObj_type ?_ (by size_fits))
  refine wpAny_bind (m := firstArgMember _ _) (wpAny_of_eq (a := Value.none) (by first | rfl | (simp only [firstArgMember]; rfl)) ?_)
  refine wpAny_newObj_type ?_ (by size_fits)
  simp only [raiseNew]
  refine wpAny_bind (wpAny_handled ?_)
  first | rw [show A.in1.handled = none from hh] | rw [hh]
  refine wpAny_bind (wpAny_pure (wpAny_throw ?_))
  exact hE _ _ (Tr.of_ext (tk := s.toks) (((Heap.SameBut.update ..).extBut.push _).push _) nt) ⟨_, Heap.get?_push_size _ rfl, rfl⟩

theorem setF {a : Addr} {cls : Value} {vs : Array Value} {k : Nat} {x : Value} {Q : Unit → Shared → Prop} (ho : s.heap.get? a = some { cls := cls, dict := none, data := .fields vs, slots := #[] }) (hk : k < vs.size)
    (h : ∀ s', Tr [a] s s' → s'.heap.get? a = some { cls := cls, dict := none, data := .fields (vs.setIfInBounds k x), slots := #[] } → Q () s') : wpAny (model prog w) A (setField (.ref a) k x) Q E s :=
  wpAny_setField_rec ho hk fun h' e hs => h _ (Tr.of_but (tk := s.toks) hs (by rintro o q ⟨_, xs, n, d⟩; rw [ho] at q; cases q; cases d)) e

theorem tr2 {a b c : Shared} {x y : Addr} (h1 : Tr [x] a b) (h2 : Tr [y] b c) : Tr [x, y] a c := (h1.mono (by simp)).trans (h2.mono (by simp))

theorem enum_next_t {e it t : Addr} {i : Nat} {items : Array Value} {x old : Value} {Q : Option Value → Shared → Prop} (he : IsEnum s.heap e it i old) (hit : s.heap.IsTupleIter it t i) (ht : s.heap.IsTuple t items) (hx : items[i]? = some x) (hne : e ≠ it)
    (hQ : ∀ T s' tk, Tr [e, it] s s' → IsEnumOut s'.heap e it ((i : Int) + 1) x T → s'.heap.IsTupleIter it t (i + 1) → IsTup s'.heap T #[.int i tk, x] → s.heap.get? T = none → Q (some (.ref T)) s') :
    wpAny (model prog w) A (pyNext (.ref e)) Q E s := by
  have hT : s.TypeIs (.ref e) "enumerate" := ⟨_, he, rfl⟩
  have htit : t ≠ it := by
    rintro rfl
    obtain ⟨o, q, c, _⟩ := hit
    obtain ⟨o', q', c', _⟩ := ht
    rw [q] at q'; cases q'; rw [c] at c'; exact absurd c' (by simp)
  unfold pyNext
  refine wpAny_bind (wpAny_attempt (wpAny_callSpecial?_slot (name := Str.ofString "__next__") hT F.slot_enumerate_next
    (wpAny_call_entry F.slot_enumerate_next hT F.entry_enumerate_next ?_ (F.args_enumerate_next_1 _))))
  show wpAny _ _ (field (.ref e) 2 >>= _) _ _ _
  refine wpAny_bind (wpAny_field he rfl (x := .ref it) rfl ?_)
  refine wpAny_bind (nextOf_t hit ht hx fun s₁ t₁ hit₁ => ?_)
  have he₁ : IsEnum s₁.heap e it i old := t₁.keep _ _ (by simpa using hne) he
  show wpAny _ _ (field (.ref e) 3 >>= _) _ _ s₁
  refine wpAny_bind (wpAny_field he₁ rfl (x := rawInt i) rfl ?_)
  show wpAny _ _ (field (.ref e) 4 >>= _) _ _ s₁
  refine wpAny_bind (wpAny_field he₁ rfl (x := .none) rfl ?_)
  show wpAny _ _ (mkInt i >>= _) _ _ s₁
  refine wpAny_bind (wpAny_mkInt ?_)
  have u₂ : Up s₁ { s₁ with toks := s₁.toks + 1 } := Up.tok
  revert u₂
  generalize s₁.toks = tk
  generalize ({ s₁ with toks := tk + 1 } : Shared) = s₂
  intro u₂
  have he₂ : IsEnum s₂.heap e it i old := u₂.le _ _ he₁
  show wpAny _ _ (setField (.ref e) 3 (rawInt ((i : Int) + 1)) >>= _) _ _ s₂
  refine wpAny_bind (setF he₂ (by simp) fun s₃ t₃ he₃ => ?_)
  replace he₃ : IsEnum s₃.heap e it ((i : Int) + 1) old := he₃
  show wpAny _ _ (setField (.ref e) 4 .none >>= _) _ _ s₃
  refine wpAny_bind (setF he₃ (by simp) fun s₄ t₄ he₄ => ?_)
  replace he₄ : IsEnum s₄.heap e it ((i : Int) + 1) old := he₄
  show wpAny _ _ (newTuple [.int i tk, x] >>= _) _ _ s₄
  have fr4 := fresh_size s₄.heap
  refine wpAny_bind (wpAny_newTuple ?_)
  have u₅ : Up s₄ { s₄ with heap := s₄.heap.push { cls := .type "tuple", data := .seq #[.int i tk, x] } } := Up.push (tk := s₄.toks)
  have ht₅ : IsTup ({ s₄ with heap := s₄.heap.push { cls := .type "tuple", data := .seq #[.int i tk, x] } } : Shared).heap s₄.heap.objs.size #[.int i tk, x] := IsTup.new _ _
  revert u₅ ht₅
  show _ → _ → wpAny _ _ _ _ _ { s₄ with heap := s₄.heap.push { cls := .type "tuple", data := .seq #[.int i tk, x] } }
  generalize ({ s₄ with heap := s₄.heap.push { cls := .type "tuple", data := .seq #[.int i tk, x] } } : Shared) = s₅
  generalize s₄.heap.objs.size = T at *
  intro u₅ ht₅
  have he₅ : IsEnum s₅.heap e it ((i : Int) + 1) old := u₅.le _ _ he₄
  show wpAny _ _ (Builtin.SmallTypes.ownedTupleIsFree (.ref e) >>= _) _ _ s₅
  refine wpAny_bind ?_
  unfold Builtin.SmallTypes.ownedTupleIsFree
  refine wpAny_bind (wpAny_field he₅ rfl (x := .none) rfl (wpAny_pure ?_))
  simp only [if_true]
  refine wpAny_bind (wpAny_rule ?_)
  refine wpAny_bind (wpAny_field he₅ rfl (x := old) rfl ?_)
  refine wpAny_bind (setF he₅ (by simp) fun s₆ t₆ he₆ => ?_)
  replace he₆ : IsEnum s₆.heap e it ((i : Int) + 1) x := he₆
  show wpAny _ _ (Builtin.SmallTypes.ownedTupleHandOut (.ref e) (.ref T) >>= _) _ _ s₆
  refine wpAny_bind ?_
  unfold Builtin.SmallTypes.ownedTupleHandOut
  refine wpAny_bind (setF he₆ (by simp) fun s₇ t₇ he₇ => ?_)
  replace he₇ : IsEnumOut s₇.heap e it ((i : Int) + 1) x T := he₇
  refine setF he₇ (by simp) fun s₈ t₈ he₈ => ?_
  replace he₈ : IsEnumOut s₈.heap e it ((i : Int) + 1) x T := he₈
  have big : Tr [e, it] s s₈ := (t₁.mono (by simp)).trans ((u₂.to _).trans ((t₃.mono (by simp)).trans ((t₄.mono (by simp)).trans ((u₅.to _).trans ((t₆.mono (by simp)).trans ((t₇.mono (by simp)).trans (t₈.mono (by simp))))))))
  have toT : ∀ {p q : Shared} {a : Addr}, Tr [a] p q → IsTup p.heap T #[.int i tk, x] → IsTup q.heap T #[.int i tk, x] := fun t y => let ⟨o, a, b, n, c⟩ := y; ⟨o, t.tup _ _ a ⟨b, _, _, c⟩, b, n, c⟩
  have toI : ∀ {p q : Shared}, Tr [e] p q → p.heap.IsTupleIter it t (i + 1) → q.heap.IsTupleIter it t (i + 1) := fun t y => y.at fun o h => t.keep _ o (by simpa using Ne.symm hne) h
  refine wpAny_bind (wpAny_letGo (wpAny_pure ⟨_, rfl, wpAny_pure (hQ T s₈ tk big he₈ ?_ ?_ ?_)⟩))
  · exact toI t₈ (toI t₇ (toI t₆ ((toI t₄ (toI t₃ (hit₁.at fun o h => u₂.le _ _ h))).at fun o h => u₅.le _ _ h)))
  · exact toT t₈ (toT t₇ (toT t₆ ht₅))
  · cases q : s.heap.get? T with
    | none => rfl
    | some o =>
      exfalso
      -- the new address stands in no earlier heap
      by_cases h1 : T = e
      · rw [h1, he₄] at fr4; cases fr4
      · by_cases h2 : T = it
        · have := ((toI t₄ (toI t₃ (hit₁.at fun o h => u₂.le _ _ h))))
          obtain ⟨o', q', _⟩ := this
          rw [h2, q'] at fr4; cases fr4
        · have := t₄.keep _ _ (by simpa using h1) (t₃.keep _ _ (by simpa using h1) (u₂.le _ _ (t₁.keep _ _ (by simpa using h2) q)))
          rw [this] at fr4; cases fr4

theorem enum_end_t {e it t : Addr} {i : Nat} {items : Array Value} {old : Value} {Q : Option Value → Shared → Prop} (hh : A.handled = none) (he : IsEnum s.heap e it i old) (hit : s.heap.IsTupleIter it t i) (ht : s.heap.IsTuple t items) (hx : items[i]? = none)
    (hQ : ∀ s', Tr [it] s s' → Q none s') : wpAny (model prog w) A (pyNext (.ref e)) Q E s := by
  have hT : s.TypeIs (.ref e) "enumerate" := ⟨_, he, rfl⟩
  unfold pyNext
  refine wpAny_bind (wpAny_attempt (wpAny_callSpecial?_slot (name := Str.ofString "__next__") hT F.slot_enumerate_next
    (wpAny_call_entry F.slot_enumerate_next hT F.entry_enumerate_next ?_ (F.args_enumerate_next_1 _))))
  show wpAny _ _ (field (.ref e) 2 >>= _) _ _ _
  refine wpAny_bind (wpAny_field he rfl (x := .ref it) rfl ?_)
  refine wpAny_bind (nextOf_t_end hh hit ht hx fun s' x t₁ hx' => ?_)
  obtain ⟨o, ho, hc⟩ := hx'
  refine wpAny_bind (wpAny_isInstance (T := "StopIteration") (b := true) ⟨o, ho, hc⟩ isSubtype_stop ?_)
  exact wpAny_pure (hQ _ t₁)

theorem enum_go {elts : List Expr} {x1} {pos : Pos} {e it a : Addr} {i : Int} {item : Value} {Q : Unit → Shared → Prop} (he : IsEnumOut s.heap e it i item a)
    (hQ : ∀ s', Tr [e] s s' → IsEnum s'.heap e it i item → Q () s') : wpAny (model prog w) A (letOwnedTupleGo (.Tuple elts x1 pos) (.ref e) (.ref a)) Q E s :=
  wpAny_letOwnedTupleGo_enum he fun h' he' hs => hQ _ (Tr.of_but (tk := s.toks) hs (enum_not_tup he)) he'

open AutoSeq1 (wpAny_loadPart') in
theorem meets_enumT (l : Addr) (items : Array Value) (n : Nat) (dct : Option Addr) (sl : Array (Option Value)) :
    Meets (Builtin.«enumerate.__new__» ⟨[.type "enumerate", .ref l], []⟩) (fun _ R s => s.heap.get? l = some { cls := .type "tuple", dict := dct, data := .seq items n, slots := sl } ∧
      R (.ok (.ret (.ref (s.heap.push { cls := .type "tuple_iterator", data := .fields #[.ref l, .int 0 0] }).objs.size)))
        { s with heap := (s.heap.push { cls := .type "tuple_iterator", data := .fields #[.ref l, .int 0 0] }).push { cls := .type "enumerate", data := .fields #[.none, .bool false, .ref s.heap.objs.size, rawInt 0, .none, .none] } }) :=
  .of_wp fun prog w A R s h => by
    obtain ⟨hp, g, d, tk, os⟩ := s; obtain ⟨hl, h⟩ := h
    have hsub := sub_enumerate
    have hL : Heap.IsTuple (Shared.heap ⟨hp, g, d, tk, os⟩) l items := ⟨_, hl, rfl, n, rfl⟩
    wp_walk using wpAny_loadPart' hl
    refine wpAny_stack_any fun st => wpAny_pure ?_
    split
    · rename_i c _ _ _ _ _
      cases (c == Value.type "enumerate")
      · wp_walk using wpAny_loadPart' hl, wpAny_pyIter_tuple hL
        exact ⟨_, rfl, h⟩
      · wp_walk using wpAny_loadPart' hl, wpAny_pyIter_tuple hL
        exact ⟨_, rfl, h⟩
    · wp_walk using wpAny_loadPart' hl, wpAny_pyIter_tuple hL
      exact ⟨_, rfl, h⟩

theorem call_enumT {t : Addr} {items : Array Value} {Q : Value → Shared → Prop} (ht : s.heap.IsTuple t items)
    (h : ∀ e it s', Up s s' → s.heap.get? e = none → s.heap.get? it = none → e ≠ it → IsEnum s'.heap e it 0 .none → s'.heap.IsTupleIter it t 0 → Q (.ref e) s') :
    wpAny (model prog w) A (call (.type "enumerate") [.ref t]) Q E s := by
  obtain ⟨⟨c, dct, dt, sl⟩, hl, hc, n, hd⟩ := ht
  replace hc : c = .type "tuple" := hc
  replace hd : dt = .seq items n := hd
  subst hc hd
  refine callType_new F.called_enumerate (by decide) (F.typeCall_enumerate_1 _) (F.newCall_enumerate_1 _) (fun obj => F.args_object_init_2 obj _) F.entry_enumerate_new
    (meets_enumT t items n dct sl) ⟨hl, ?_⟩
  have hz : (s.heap.push { cls := .type "tuple_iterator", data := .fields #[.ref t, .int 0 0] }).objs.size = s.heap.objs.size + 1 := Heap.size_push ..
  show _ ∧ _
  rw [hz]
  have he : IsEnum ((s.heap.push { cls := .type "tuple_iterator", data := .fields #[.ref t, .int 0 0] }).push
      { cls := .type "enumerate", data := .fields #[.none, .bool false, .ref s.heap.objs.size, rawInt 0, .none, .none] }) (s.heap.objs.size + 1) s.heap.objs.size 0 .none := by
    have := Heap.get?_push_size (s.heap.push { cls := .type "tuple_iterator", data := .fields #[.ref t, .int 0 0] })
      (o := { cls := .type "enumerate", data := .fields #[.none, .bool false, .ref s.heap.objs.size, rawInt 0, .none, .none] }) rfl
    rw [hz] at this; exact this
  have fr : s.heap.get? (s.heap.objs.size + 1) = none := by
    cases e : s.heap.get? (s.heap.objs.size + 1) with
    | none => rfl
    | some o => exact absurd (Heap.lt_size e) (Nat.not_lt.mpr (Nat.le_succ _))
  exact ⟨⟨_, he, rfl⟩, h _ _ _ (Up.mk' (tk := s.toks) fun b o x => Heap.get?_push_of_some _ (Heap.get?_push_of_some _ x)) fr (fresh_size _) (Nat.succ_ne_self _) he ⟨_, Heap.get?_push_of_some _ (Heap.get?_push_size _ rfl), rfl, rfl⟩⟩
end
end Mine
end
section
set_option maxRecDepth 100000
set_option maxHeartbeats 4000000
open PySem PySem.W PyProof.Rows PySem.Calls PySem.Spec
namespace Mine
theorem Up.of_ext_new {s : Shared} {h' : Heap} {tk : Nat} (hs : Heap.ExtBut s.heap.objs.size s.heap h') : Up s { s with heap := h', toks := tk } :=
  Up.mk' fun b o e => hs b o (Nat.ne_of_lt (Heap.lt_size e)) e
theorem Tr.up_new {W : List Addr} {s₀ s s' : Shared} (u : Up s₀ s) (t : Tr W s s') (h : ∀ b ∈ W, s₀.heap.get? b = none) : Up s₀ s' :=
  ⟨((u.to W).trans t).ev, fun b o _ e => t.keep b o (fun q => by rw [h b q] at e; cases e) (u.le b o e), u.tup.trans t.tup⟩
theorem Cx.step {X : List Addr} {s₀ s s' : Shared} {L : Addr} {m : Str → Option Value} {W : List Addr} (C : Cx X s₀ L m s) (t : Tr W s s') (h : ∀ b ∈ W, (s₀.heap.get? b = none ∨ b ∈ X) ∧ b ≠ L) : Cx X s₀ L m s' := by
  have big := (C.tr.mono (W' := X ++ W) fun _ h => by simp [h]).trans (t.mono fun _ h => by simp [h])
  refine ⟨⟨big.ev, fun b o n e => t.keep b o (fun q => ?_) (C.tr.keep b o n e), big.tup⟩, C.ns.at' fun o e => t.keep _ o (fun q => (h _ q).2 rfl) e, C.nL⟩
  rcases (h b q).1 with r | r
  · rw [r] at e; cases e
  · exact n r

section
variable {prog : Program} {w : World} {A : Around} {E : Value → Shared → Prop} {s : Shared} {env : Env}

theorem unpack2 {e1 e2 : Expr} {k : Nat} {pos : Pos} {T : Addr} {x1 x2 : Value} {Q : Unit → Shared → Prop} (hh : A.handled = none) (ht : IsTup s.heap T #[x1, x2])
    (h : ∀ s', Up s s' → wpAny (model prog w) A (assign e1 env x1) (fun _ s₁ => wpAny (model prog w) A (assign e2 env x2) Q E s₁) E s')
    (he : assignEach [e1, e2] env = [(false, assign e1 env), (false, assign e2 env)] := by rfl) : wpAny (model prog w) A (assign (.Tuple [e1, e2] k pos) env (.ref T)) Q E s := by
  refine wpAny_assign_Tuple hh ht (by rw [he]; rfl) (by rw [he]; rfl) fun h' hs => ?_
  rw [he]
  exact assignInOrder_cons (wpQ (h _ (Up.of_ext_new (tk := s.toks) hs)) fun _ s₁ h₁ => assignInOrder_cons (wpQ h₁ fun _ s₂ h₂ => assignInOrder_nil h₂))

theorem extend_tr {D b : Addr} {ys zs : List Value} {Q : Value → Shared → Prop} (hD : s.heap.PlainList D ys.toArray) (hb : s.heap.PlainList b zs.toArray) (hsz : ys.length + zs.length ≤ sizeLine)
    (h : ∀ s', Tr [D] s s' → s'.heap.PlainList D (ys ++ zs).toArray → Q .none s') : wpAny (model prog w) A (call (.builtin "list.extend") [.ref D, .ref b]) Q E s := by
  have nt := plain_not_tup hD
  obtain ⟨n, eD⟩ := hD
  obtain ⟨n2, eb⟩ := hb
  have hsz' : ys.toArray.size + zs.toArray.size ≤ sizeLine := by simpa using hsz
  refine call_meets PySem.F.slot_list_extend ⟨_, eD, rfl⟩ PySem.F.entry_list_extend (PySem.F.args_list_extend_2 _ _) (AutoSeq1.list_extend_list_list_0 D ys.toArray n b zs.toArray n2 (extend_door hsz') (Nat.le_trans (Nat.le_add_right _ _) hsz')) ⟨eD, eb, ?_⟩
  have e : ys.toArray ++ zs.toArray = (ys ++ zs).toArray := by simp
  refine h _ (Tr.of_but (tk := s.toks) (Heap.SameBut.update ..) nt) ⟨(if (ys.toArray ++ zs.toArray).size == ys.toArray.size then n else n + 1), ?_⟩
  show (s.heap.update D (Obj.mapSeq fun x => x ++ zs.toArray)).get? D = _
  rw [Heap.get?_update_self _ eD (by rw [mapSeq_app]; rfl), mapSeq_app, e]

theorem pop_tr {D : Addr} {ys : List Value} {y : Value} {Q : Value → Shared → Prop} (hD : s.heap.PlainList D (ys ++ [y]).toArray) (hsz : (ys ++ [y]).length ≤ sizeLine)
    (h : ∀ s', Tr [D] s s' → s'.heap.PlainList D ys.toArray → Q y s') : wpAny (model prog w) A (call (.builtin "list.pop") [.ref D]) Q E s := by
  have nt := plain_not_tup hD
  obtain ⟨n, eD⟩ := hD
  refine call_meets PySem.F.slot_list_pop ⟨_, eD, rfl⟩ PySem.F.entry_list_pop (PySem.F.args_list_pop_1 _) (MeetsSeq.list_pop_last D (ys ++ [y]).toArray n y (by simp) (by simpa using hsz)) ⟨eD, ?_⟩
  have er : (ys ++ [y]).toArray.eraseIdxIfInBounds ((ys ++ [y]).toArray.size - 1) = ys.toArray := by
    simp [Array.eraseIdxIfInBounds, List.eraseIdx_append_of_length_le]
  refine h _ (Tr.of_but (tk := s.toks) (Heap.SameBut.update ..) nt) ⟨(if ((ys ++ [y]).toArray.eraseIdxIfInBounds ((ys ++ [y]).toArray.size - 1)).size == (ys ++ [y]).toArray.size then n else n + 1), ?_⟩
  show (s.heap.update D (Obj.mapSeq fun xs => xs.eraseIdxIfInBounds ((ys ++ [y]).toArray.size - 1))).get? D = _
  rw [Heap.get?_update_self _ eD (by rfl)]
  show some (Obj.mapSeq (fun xs => xs.eraseIdxIfInBounds ((ys ++ [y]).toArray.size - 1)) { cls := .type "list", data := .seq (ys ++ [y]).toArray n }) = _
  have em : ∀ f : Array Value → Array Value, Obj.mapSeq f { cls := .type "list", data := .seq (ys ++ [y]).toArray n } = { cls := .type "list", data := .seq (f (ys ++ [y]).toArray) (if (f (ys ++ [y]).toArray).size == (ys ++ [y]).toArray.size then n else n + 1) } := fun _ => rfl
  rw [em, er]

/-- a method of a plain list, one argument -/
theorem lmeth1 {o e : Expr} {name : Str} {id : String} {apos pos : Pos} {Q : Value → Shared → Prop} (slot : Slot "list" name id) (hty : typeOf (.builtin id) = pure (.type "method_descriptor"))
    (h : wpAny (model prog w) A (eval o env) (fun ov s₁ => ∃ D ys, ov = .ref D ∧ s₁.heap.PlainList D ys ∧ wpAny (model prog w) A (eval e env) (fun v s₂ => wpAny (model prog w) A (call (.builtin id) [.ref D, v]) Q E s₂) E s₁) E s)
    (pl : Sem Bool) (hpl : eval (.Call (.Attribute o name apos) [e] [] pos) env = (do
      let ov ← eval o env
      standAt apos.atName
      let (f, first) ← holding [ov] (getMethod ov name pl)
      callWith pos f first (backTo pos (starEach [e] env)) (backToKw pos (keywordEach [] env)))) (hst : starEach [e] env = [(false, eval e env)]) :
    wpAny (model prog w) A (eval (.Call (.Attribute o name apos) [e] [] pos) env) Q E s := by
  refine methodCall_KW (pl := pl) (wpQ h fun ov s₁ h₁ => ?_) hpl
  obtain ⟨D, ys, rfl, ⟨n, eD⟩, h₁⟩ := h₁
  refine getMethod_builtin (T := "list") ⟨_, eD, rfl⟩ PySem.F.plainAttrs_list slot hty (fun a q => by cases q; exact ⟨_, eD, rfl⟩) ?_
  show wpAny _ _ (callWith pos (.builtin id) [.ref D] (backTo pos (starEach [e] env)) []) Q E s₁
  rw [hst]
  refine callWith_builtin rfl (evalArgs_plain ?_)
  exact spliced_cons (wpQ h₁ fun v s₂ h₂ => spliced_nil h₂)
end
end Mine
end
section
set_option maxRecDepth 100000
set_option maxHeartbeats 4000000
open PySem PySem.W PyProof.Rows PySem.Calls PySem.Spec
namespace Mine
theorem RdAll.at {h : Heap} {vs : List Value} {ds : List PyData} {i : Nat} {v : Value} (x : RdAll h vs ds) (e : vs[i]? = some v) : ∃ d, ds[i]? = some d ∧ Rd h v d := by
  have hi : i < ds.length := by rw [← x.length]; exact (List.getElem?_eq_some_iff.mp e).1
  obtain ⟨v', e1, r⟩ := RdAll.get i x (List.getElem?_eq_getElem hi)
  rw [e] at e1; cases e1
  exact ⟨_, List.getElem?_eq_getElem hi, r⟩
theorem IsTup.tle {h h' : Heap} {a : Addr} {xs : Array Value} (x : IsTup h a xs) (k : TLe h h') : IsTup h' a xs := let ⟨o, e, c, n, d⟩ := x; ⟨o, k _ _ e ⟨c, _, _, d⟩, c, n, d⟩
mutual
noncomputable def Term.partsP : Term → List (List Nat × Term)
  | .mk l ks => ([], .mk l ks) :: Term.partsK 0 ks
noncomputable def Term.partsK (k : Nat) : List Term → List (List Nat × Term)
  | [] => []
  | x :: xs => (Term.partsP x).map (fun p => (k :: p.1, p.2)) ++ Term.partsK (k + 1) xs
end
noncomputable def ppy (p : List Nat × Term) : PyData := .tuple [.tuple (p.1.map fun (n : Nat) => PyData.int (n : Int)), p.2.py]
mutual
theorem Term.partsP_len : ∀ T : Term, T.partsP.length = T.size
  | .mk l ks => by rw [Term.partsP, List.length_cons, Term.partsK_len 0 ks, Term.size]
theorem Term.partsK_len : ∀ (k : Nat) (ks : List Term), (Term.partsK k ks).length = Term.sizes ks
  | _, [] => rfl
  | k, x :: xs => by rw [Term.partsK, List.length_append, List.length_map, Term.partsP_len x, Term.partsK_len (k + 1) xs, Term.sizes]
end
mutual
theorem Term.partsP_path : ∀ (T : Term), ∀ p ∈ T.partsP, p.1.length ≤ T.size
  | .mk l ks, p, hp => by
    rw [Term.partsP] at hp
    rcases List.mem_cons.mp hp with rfl | hp
    · exact Nat.zero_le _
    · have := Term.partsK_path 0 ks p hp; rw [Term.size]; exact this
theorem Term.partsK_path : ∀ (k : Nat) (ks : List Term), ∀ p ∈ Term.partsK k ks, p.1.length ≤ Term.sizes ks + 1
  | _, [], p, hp => by rw [Term.partsK] at hp; cases hp
  | k, x :: xs, p, hp => by
    rw [Term.partsK] at hp
    rw [Term.sizes]
    rcases List.mem_append.mp hp with hp | hp
    · obtain ⟨q, hq, rfl⟩ := List.mem_map.mp hp
      have := Term.partsP_path x q hq
      simp only [List.length_cons]; omega
    · have := Term.partsK_path (k + 1) xs p hp; omega
end
theorem Term.partsK_app : ∀ (xs ys : List Term) (k : Nat), Term.partsK k (xs ++ ys) = Term.partsK k xs ++ Term.partsK (k + xs.length) ys
  | [], ys, k => by simp [Term.partsK]
  | x :: xs, ys, k => by
    rw [List.cons_append, Term.partsK, Term.partsK, Term.partsK_app xs ys (k + 1), List.append_assoc, List.length_cons]
    congr 3; omega
theorem Term.size_pos : ∀ T : Term, 1 ≤ T.size
  | .mk _ _ => by rw [Term.size]; omega
theorem Term.sizes_app : ∀ xs ys : List Term, Term.sizes (xs ++ ys) = Term.sizes xs + Term.sizes ys
  | [], ys => by simp [Term.sizes]
  | x :: xs, ys => by rw [List.cons_append, Term.sizes, Term.sizes, Term.sizes_app xs ys]; omega
theorem Term.len_sizes : ∀ xs : List Term, xs.length ≤ Term.sizes xs
  | [] => Nat.zero_le _
  | x :: xs => by have := Term.size_pos x; have := Term.len_sizes xs; rw [List.length_cons, Term.sizes]; omega
theorem Term.height_mem : ∀ (xs : List Term) (x : Term), x ∈ xs → x.height ≤ Term.heights xs
  | y :: ys, x, h => by
    rw [Term.heights]
    rcases List.mem_cons.mp h with rfl | h
    · exact Nat.le_max_left _ _
    · exact Nat.le_trans (Term.height_mem ys x h) (Nat.le_max_right _ _)
theorem Term.size_mem : ∀ (xs : List Term) (x : Term), x ∈ xs → x.size ≤ Term.sizes xs
  | y :: ys, x, h => by
    rw [Term.sizes]
    rcases List.mem_cons.mp h with rfl | h
    · omega
    · have := Term.size_mem ys x h; omega

noncomputable def PartsOk (prog : Program) (w : World) (T : Term) : Prop := ∀ (A : Around) (E : Value → Shared → Prop) (s : Shared) (X : List Addr) (v : Value) (Q : Value → Shared → Prop), Gx w X s.heap → Tm s.heap v T → A.handled = none →
  A.depth + T.height + 1 < recursionLimit → A.units + 10 * T.height + 100 < cLine → T.size ≤ 1000 →
  (∀ l s' vs, Up s s' → s.heap.get? l = none → s'.heap.PlainList l (List.toArray vs) → RdAll s'.heap vs (T.partsP.map ppy) → Q (.ref l) s') → wpAny (model prog w) A (call (.ref 26) [v]) Q E s


theorem evp_some {prog : Program} {w : World} {A : Around} {E : Value → Shared → Prop} {s : Shared} {e : Expr} {env : Env} {Q : Value → Shared → Prop} (h : wpAny (model prog w) A (eval e env) Q E s) : wpAny (model prog w) A (evalPart (some e) env) Q E s := h
theorem evp_none {prog : Program} {w : World} {A : Around} {E : Value → Shared → Prop} {s : Shared} {env : Env} {Q : Value → Shared → Prop} (h : Q .none s) : wpAny (model prog w) A (evalPart none env) Q E s := wpAny_pure h

theorem take_succ_map {α : Type} (_f : α → α) (l : List α) (i : Nat) (x : α) (h : l[i]? = some x) : l.take (i + 1) = l.take i ++ [x] := by rw [List.take_add_one, h]; rfl

/-- the state of the loop of parts, i kids taken -/
structure PSt (s : Shared) (L D e it tt : Addr) (v : Value) (l : Lab) (ks : List Term) (kvs : List Value) (i : Nat) (s' : Shared) : Prop where
  C : ∃ m, Cx [] s L m s' ∧ m "t" = some v ∧ m "found" = some (.ref D)
  Y : ∃ cm, Cl L [("k", L + 1)] s'.heap cm
  en : ∃ old, IsEnum s'.heap e it (i : Int) old
  iter : s'.heap.IsTupleIter it tt i
  tup : s'.heap.IsTuple tt kvs.toArray
  kids : Tms s'.heap kvs ks
  acc : ∃ ys, s'.heap.PlainList D (List.toArray ys) ∧ RdAll s'.heap ys ((([], Term.mk l ks) :: Term.partsK 0 (ks.take i)).map ppy)

theorem parts_step {prog : Program} {w : World} (l : Lab) (ks : List Term) (IH : ∀ x ∈ ks, PartsOk prog w x) : PartsOk prog w (.mk l ks) := by
  intro A E s X v Q G ht hh hd hu hsz hQ
  have hsl : 1000000 ≤ sizeLine := by rw [PySem.sizeLine_eq]; decide
  have hks : Term.sizes ks + 1 ≤ 1000 := by rw [Term.size] at hsz; exact hsz
  have hkl := Term.len_sizes ks
  refine enterC (binds := [("t", v)]) G (by exact rfl) (by exact rfl) (by omega) (by exact rfl) (by exact rfl) rfl rfl rfl (fun L s₁ C Y hfresh G₁ => ?_)
  replace C : Cx [] s L (fun y => if y = "t" then some v else none) s₁ := C
  replace Y : Cl L [("k", L + 1)] s₁.heap (fun _ => none) := Y
  have hc : s.heap.get? (L + 1) = none := hfresh "k" (L + 1) (by exact rfl)
  clear hfresh
  refine wpAny_execs_cons (wpAny_Assign_Name (listD (wpAny_items_cons (tupleD (wpAny_items_cons (tupleD (wpAny_items_nil ⟨by simp, fun a0 s₂ u₂ _ h0 => wpAny_items_cons (nm (C.up u₂) (by exact rfl) ?_)⟩)))))))
  refine wpAny_items_nil ⟨by simp; omega, fun a1 s₃ u₃ _ h1 => wpAny_items_nil ⟨by simp; omega, fun D s₄ u₄ hDn hD => st ((((C.up u₂).up u₃).up u₄)) fun s₅ t₅ C₅ => ?_⟩⟩
  have hDs : s.heap.get? D = none := fresh_of (C.tr.trans (u₂.trans u₃)) hDn
  have hDL : D ≠ L := plain_ne_ns hD (((C.up u₂).up u₃).up u₄).ns
  have Y₅ : Cl L [("k", L + 1)] s₅.heap (fun _ => none) := cl_tr (cl_up Y ((u₂.trans u₃).trans u₄)) t₅ (by simp)
  have hD₅ : s₅.heap.PlainList D [Value.ref a1].toArray := hD.at fun o e => t₅.keep _ o (by simpa using hDL) e
  have ht₅ : Tm s₅.heap v (.mk l ks) := ht.up C₅.tr.tup
  have hr₅ : RdAll s₅.heap [Value.ref a1] ([([], Term.mk l ks)].map ppy) := by
    have q1 : TLe s₂.heap s₅.heap := ((u₃.trans u₄).tup).trans t₅.tup
    have q2 : TLe s₃.heap s₅.heap := u₄.tup.trans t₅.tup
    have r0 : Rd s₅.heap (.ref a0) (.tuple []) := (Rd.tuple (vs := []) h0 RdAll.nil).up q1
    have i1 : IsTup s₅.heap a1 [Value.ref a0, v].toArray := let ⟨o, e, c, n, d⟩ := h1; ⟨o, q2 _ _ e ⟨c, _, _, d⟩, c, n, d⟩
    exact RdAll.cons (Rd.tuple i1 (RdAll.cons r0 (RdAll.cons ht₅ RdAll.nil))) RdAll.nil
  obtain ⟨a, tl, kvs, rfl, hT, hkv⟩ := Tm.open ht
  have hkvl : kvs.length = ks.length := by have := hkv.length; rw [this, Term.pys_eq, List.length_map]
  refine wpAny_execs_cons (wpAny_For (callT (G.up C₅.tr) (g_enumerate w) boot_enumerate (by decide) (wpAny_items_cons (tslice (nm C₅ (by exact rfl) (evp_some (ci fun tk s₆ u₆ => evp_none ?_)))))))
  have C₆ := C₅.up u₆
  refine ⟨a, _, some 1, none, rfl, hT.keeps C₆.tr.le, ⟨tk, rfl⟩, rfl, by simp, by simp, by simp; omega, fun tt s₇ u₇ htt => ?_⟩
  have htt' : IsTup s₇.heap tt kvs.toArray := by
    have e : ((Value.str l.str tl :: kvs).drop ((some 1).getD 0)).take (((none : Option Nat).getD (Value.str l.str tl :: kvs).length) - (some 1).getD 0) = kvs := by simp
    rw [e] at htt; exact htt
  refine wpAny_items_nil (call_enumT (t := tt) htt' fun e it s₈ u₈ hen hin hei he hit => ?_)
  refine wpAny_pyIter_enum he ?_
  have u58 := (u₆.trans u₇).trans u₈
  have C₈ := C₅.up u58
  have start : PSt s L D e it tt (.ref a) l ks kvs 0 s₈ :=
    ⟨⟨_, C₈, by exact rfl, by exact rfl⟩, ⟨_, cl_up Y₅ u58⟩, ⟨_, he⟩, hit, htt'.keeps u₈.le, hkv.up C₈.tr.tup, ⟨[Value.ref a1], hD₅.at fun o e => u58.le _ _ e, by simpa [Term.partsK] using hr₅.up u58.tup⟩⟩
  have hes : s.heap.get? e = none := fresh_of (C₅.tr.trans (u₆.trans u₇)) hen
  have his : s.heap.get? it = none := fresh_of (C₅.tr.trans (u₆.trans u₇)) hin
  have C₇ := C₅.up (u₆.trans u₇)
  have heL : e ≠ L := by rintro rfl; obtain ⟨o, _, _, q, _⟩ := C₇.ns; rw [hen] at q; cases q
  have hiL : it ≠ L := by rintro rfl; obtain ⟨o, _, _, q, _⟩ := C₇.ns; rw [hin] at q; cases q
  have hD₇ : s₇.heap.PlainList D [Value.ref a1].toArray := hD₅.at fun o e => (u₆.trans u₇).le _ _ e
  have heD : e ≠ D := by rintro rfl; obtain ⟨n, q⟩ := hD₇; rw [hen] at q; cases q
  have hiD : it ≠ D := by rintro rfl; obtain ⟨n, q⟩ := hD₇; rw [hin] at q; cases q
  have Y₇ : Cl L [("k", L + 1)] s₇.heap (fun _ => none) := cl_up Y₅ (u₆.trans u₇)
  have hec : e ≠ L + 1 := by rintro rfl; obtain ⟨o, q, _⟩ := Y₇.cell "k" (L + 1) (by exact rfl); rw [hen] at q; cases q
  have hic : it ≠ L + 1 := by rintro rfl; obtain ⟨o, q, _⟩ := Y₇.cell "k" (L + 1) (by exact rfl); rw [hin] at q; cases q
  have hDc : D ≠ L + 1 := by
    rintro rfl
    obtain ⟨o, q, d⟩ := Y₇.cell "k" (L + 1) (by exact rfl)
    obtain ⟨n, q'⟩ := hD₇; rw [q] at q'; cases q'; cases d
  refine codeAny_forLoop_any (fun k s' => ∃ i, k = ks.length + 1 - i ∧ i ≤ ks.length ∧ PSt s L D e it tt (.ref a) l ks kvs i s') ?_ (ks.length + 1) ⟨0, rfl, Nat.zero_le _, start⟩
  rintro k s' ⟨i, rfl, hi, P⟩
  obtain ⟨⟨m, Cm, hmt, hmf⟩, ⟨cm, Ym⟩, ⟨old, hen'⟩, hit', htup, hkids, ⟨ys, hys, hyr⟩⟩ := P
  by_cases hlt : i < ks.length
  · have hxk : ks[i]? = some ks[i] := List.getElem?_eq_getElem hlt
    obtain ⟨kv, hkv1, hkv2⟩ := RdAll.get i hkids (d := ks[i].py) (by rw [Term.pys_eq, List.getElem?_map, hxk]; rfl)
    refine enum_next_t hen' hit' htup (x := kv) (by simpa using hkv1) hei fun T s₉ tk t₉ hen₉ hit₉ hT₉ hTn => ?_
    refine enum_go hen₉ fun s₁₀ t₁₀ hen₁₀ => ?_
    have t10 : Tr [e, it] s' s₁₀ := t₉.trans (t₁₀.mono (by simp))
    have hT₁₀ : IsTup s₁₀.heap T #[.int i tk, kv] := let ⟨o, q, c, n, d⟩ := hT₉; ⟨o, t₁₀.tup _ _ q ⟨c, _, _, d⟩, c, n, d⟩
    have C₁₀ : Cx [] s L m s₁₀ := Cm.step t10 (by simp [hes, his, heL, hiL])
    have Y₁₀ : Cl L [("k", L + 1)] s₁₀.heap cm := ⟨fun n c q => by
        have hcc : c = L + 1 := by
          simp only [List.lookup_cons, List.lookup_nil] at q
          split at q <;> simp_all
        obtain ⟨o, q1, q2⟩ := Ym.cell n c q
        exact ⟨o, t10.keep _ _ (by rw [hcc]; simp [Ne.symm hec, Ne.symm hic]) q1, q2⟩, Ym.apart, Ym.above⟩
    refine unpack2 hh hT₁₀ fun s₁₁ u₁₁ => wpAny_assign_Name (stc (C₁₀.up u₁₁) (cl_up Y₁₀ u₁₁) hc fun s₁₂ t₁₂ C₁₂ Y₁₂ => wpAny_assign_Name (st C₁₂ fun s₁₃ t₁₃ C₁₃ => ?_))
    have Y₁₃ := cl_tr Y₁₂ t₁₃ (by simp)
    have t13 : Tr [e, it, L, L + 1] s' s₁₃ := (t10.mono (by simp)).trans ((u₁₁.to _).trans ((t₁₂.mono (by simp)).trans (t₁₃.mono (by simp))))
    have hys₁₃ : s₁₃.heap.PlainList D ys.toArray := hys.at fun o q => t13.keep _ o (by simp [Ne.symm heD, Ne.symm hiD, hDL, hDc]) q
    refine wpAny_execs_cons (wpAny_Expr (lmeth1 PySem.F.slot_list_extend PySem.F.type_list_extend (nm C₁₃ (by rw [if_neg (by decide)]; exact hmf) ⟨D, _, rfl, hys₁₃, ?_⟩) _ (by exact rfl) (by exact rfl)))
    -- the comprehension over the parts of the kid
    have hcell : s₁₃.heap.IsCell (L + 1) (some (.int i tk)) := by
      have := Y₁₃.cell "k" (L + 1) (by exact rfl)
      simpa using this
    have hkm : ks[i] ∈ ks := List.getElem_mem hlt
    have hkv₁₃ : Tm s₁₃.heap kv ks[i] := hkv2.up t13.tup
    have hh1 := Term.height_mem ks _ hkm
    have hs1 := Term.size_mem ks _ hkm
    have hgt : (Term.mk l ks).height = Term.heights ks + 1 := by rw [Term.height]
    refine comp1 hh (cl := [("k", L + 1)]) (by exact rfl) (by decide) (by exact rfl) (by decide) (by intro _; rfl) ?_
    refine callN (G.up C₁₃.tr) (g_parts w) (k_fn26 w) (wpAny_items_cons (nm C₁₃ (by rw [if_pos rfl]) (wpAny_items_nil ⟨(G.up C₁₃.tr).gd.K, ?_⟩)))
    refine IH _ hkm _ _ s₁₃ X kv _ (G.up C₁₃.tr) hkv₁₃ hh (by show A.depth + 1 + _ + 1 < _; omega) (by show A.units + 3 + _ + 100 < _; omega) (by omega) fun pl sb vs ub hpl0 hpl hvs => ?_
    have hvl : vs.length = (ks[i]).size := by rw [hvs.length, List.length_map, Term.partsP_len]
    refine ⟨[], fun j ys s' => RdAll s'.heap ys ((((ks[i]).partsP.take j).map fun (p : List Nat × Term) => (i :: p.1, p.2)).map ppy), vs.toArray, ⟨⟨pl, rfl, .inl hpl.isList⟩, by simp; omega, by simp, fun _ _ _ _ _ _ t f => f.up t.tup, by simpa using RdAll.nil, ?_⟩, ?_⟩
    · intro Cc hCc j v zs sa ma hj ta na fa
      have hj' : vs[j]? = some v := by simpa using hj
      obtain ⟨d, hd1, hd2⟩ := RdAll.at hvs hj'
      rw [List.getElem?_map] at hd1
      obtain ⟨p, hp1, rfl⟩ := Option.map_eq_some_iff.mp hd1
      have hpm : p ∈ (ks[i]).partsP := List.mem_of_getElem? hp1
      have hpl1 := Term.partsP_path _ _ hpm
      obtain ⟨b, ws, rfl, hb, hws⟩ := Rd.untuple (hd2.up ta.tup)
      obtain ⟨pv, tv, rfl⟩ : ∃ pv tv, ws = [pv, tv] := by
        have := hws.length
        match ws, this with
        | [pv, tv], _ => exact ⟨pv, tv, rfl⟩
      have Ca : Cx [] sb Cc ma sa := ⟨ta, na, hCc⟩
      refine unpack2 hh hb fun sc uc => wpAny_assign_Name (st (Ca.up uc) fun sd td Cd => wpAny_assign_Name (st Cd fun se te Ce => ?_))
      refine wpAny_tests_nil ?_
      rw [if_pos rfl]
      have tae : TLe sa.heap se.heap := (uc.tup.trans td.tup).trans te.tup
      have hws' := hws.up tae
      obtain ⟨pa, pvs, rfl, hpa, hpvs⟩ := Rd.untuple hws'.uncons.1
      have hpvl : pvs.length = p.1.length := by rw [hpvs.length, List.length_map]
      have hcell' : se.heap.IsCell (L + 1) (some (.int i tk)) := by
        obtain ⟨o, q, d⟩ := hcell
        exact ⟨o, Ce.tr.le _ _ (ub.le _ _ q), d⟩
      refine tupleD (wpAny_items_cons (wpAny_BinOp (tupleD (wpAny_items_cons (nmC hcell' (wpAny_items_nil ⟨by simp; omega, fun ak sf uf _ hak => ?_⟩) (by exact rfl) (by exact rfl) (by exact rfl))))))
      refine nm (Ce.up uf) (by exact rfl) (tadd hak (hpa.keeps uf.le) (by simp [hpvl]; omega) fun r sg ug hr => ?_)
      refine wpAny_items_cons (nm ((Ce.up uf).up ug) (by exact rfl) (wpAny_items_nil ⟨by simp; omega, fun a2 sh uh _ ha2 => ?_⟩))
      have tah : TLe sa.heap sh.heap := tae.trans ((uf.tup.trans ug.tup).trans uh.tup)
      refine ⟨(uc.to _).trans (td.trans (te.trans ((uf.to _).trans ((ug.to _).trans (uh.to _))))), ⟨_, (((Ce.up uf).up ug).up uh).ns⟩, ?_⟩
      show RdAll sh.heap _ _
      rw [take_succ_map (·) _ _ _ hp1, List.map_append, List.map_append]
      refine RdAll.append (fa.up tah) (RdAll.cons ?_ RdAll.nil)
      have rpath : Rd sh.heap (.ref r) (.tuple ((i :: p.1).map fun (n : Nat) => PyData.int (n : Int))) :=
        Rd.tuple (IsTup.tle hr uh.tup) (by
          rw [List.map_cons, List.singleton_append]
          exact RdAll.cons (Rd.int _ _) (hpvs.up ((uf.tup.trans ug.tup).trans uh.tup)))
      exact Rd.tuple ha2 (RdAll.cons rpath (RdAll.cons (hws.uncons.2.uncons.1.up tah) RdAll.nil))
    · intro Dn zs se hDn0 te hze fe
      have hzl : zs.length = (ks[i]).size := by
        rw [fe.length, List.length_map, List.length_map, List.size_toArray, List.take_of_length_le (by rw [Term.partsP_len]; omega), Term.partsP_len]
      have hyl : ys.length = 1 + Term.sizes (ks.take i) := by rw [hyr.length, List.length_map, List.length_cons, Term.partsK_len]; omega
      have hsum : Term.sizes (ks.take i) + Term.sizes (ks.drop i) = Term.sizes ks := by rw [← Term.sizes_app, List.take_append_drop]
      have u13e : Up s₁₃ se := ub.trans te
      have hDe : se.heap.PlainList D ys.toArray := hys₁₃.at fun o q => u13e.le _ _ q
      refine extend_tr hDe hze (by omega) fun sf tf hDf => ?_
      refine wpAny_execs_nil ?_
      have C_e := C₁₃.up u13e
      have t_all : Tr [e, it, L, L + 1, D] s' sf := (t13.mono (by simp)).trans ((u13e.to _).trans (tf.mono (by simp)))
      refine ⟨ks.length + 1 - (i + 1), by omega, i + 1, rfl, hlt, ⟨⟨_, C_e.step tf (by simp [hDs, hDL]), by rw [if_neg (by decide)]; exact hmt, by rw [if_neg (by decide)]; exact hmf⟩, ⟨fun y => if y = ("k" : Str) then some (.int i tk) else cm y, ?_⟩, ⟨kv, ?_⟩, ?_, ?_, hkids.up t_all.tup, ⟨ys ++ zs, hDf, ?_⟩⟩⟩
      · refine ⟨fun n c q => ?_, Y₁₃.apart, Y₁₃.above⟩
        have hcc : c = L + 1 := by
          simp only [List.lookup_cons, List.lookup_nil] at q
          split at q <;> simp_all
        obtain ⟨o, q1, q2⟩ := (cl_up Y₁₃ u13e).cell n c q
        exact ⟨o, tf.keep _ _ (by rw [hcc]; simpa using Ne.symm hDc) q1, q2⟩
      · have h13 : IsEnum s₁₃.heap e it ((i : Int) + 1) kv := t₁₃.keep _ _ (by simpa using heL) (t₁₂.keep _ _ (by simpa using hec) (u₁₁.le _ _ hen₁₀))
        have := tf.keep _ _ (by simpa using heD) (u13e.le _ _ h13)
        simpa using this
      · refine hit₉.at fun o q => tf.keep _ _ (by simpa using hiD) (u13e.le _ _ (t₁₃.keep _ _ (by simpa using hiL) (t₁₂.keep _ _ (by simpa using hic) (u₁₁.le _ _ (t₁₀.keep _ _ (by simpa using Ne.symm hei) q)))))
      · exact (IsTup.tle htup t_all.tup)
      · have e1 : Term.partsK 0 (ks.take (i + 1)) = Term.partsK 0 (ks.take i) ++ (ks[i]).partsP.map (fun p => (i :: p.1, p.2)) := by
          rw [take_succ_map id _ _ _ hxk, Term.partsK_app, Term.partsK, Term.partsK, List.append_nil, List.length_take, Nat.min_eq_left (Nat.le_of_lt hlt), Nat.zero_add]
        rw [e1, ← List.cons_append, List.map_append]
        have e2 := fe.up tf.tup
        rw [List.size_toArray, List.take_of_length_le (by rw [Term.partsP_len]; omega)] at e2
        exact RdAll.append (hyr.up t_all.tup) e2
  · have ei : i = ks.length := by omega
    subst ei
    refine enum_end_t (A := A.deeper _) hh hen' hit' htup (by simp [hkvl]) fun s₉ t₉ => wpAny_execs_nil ?_
    have C₉ : Cx [] s L m s₉ := Cm.step t₉ (by simp [his, hiL])
    have hys₉ : s₉.heap.PlainList D ys.toArray := hys.at fun o q => t₉.keep _ o (by simpa using Ne.symm hiD) q
    refine wpAny_execs_cons (wpAny_Return_some (nm C₉ hmf ?_))
    refine hQ D s₉ ys C₉.tr hDs hys₉ ?_
    have := hyr.up t₉.tup
    rw [List.take_of_length_le (Nat.le_refl _)] at this
    rw [Term.partsP]; exact this

theorem parts_all {prog : Program} {w : World} : ∀ (n : Nat) (T : Term), T.height ≤ n → PartsOk prog w T
  | 0, .mk l ks, h => by rw [Term.height] at h; omega
  | n + 1, .mk l ks, h => parts_step l ks fun x hx => parts_all n x (by have := Term.height_mem ks x hx; rw [Term.height] at h; omega)
theorem parts_ok {prog : Program} {w : World} (T : Term) : PartsOk prog w T := parts_all _ T (Nat.le_refl _)
end Mine
end
section
set_option maxRecDepth 100000
set_option maxHeartbeats 4000000
open PySem PySem.W PyProof.Rows PySem.Calls PySem.Spec
namespace Mine
noncomputable def Term.subs (T : Term) : List Term := T.partsP.map Prod.snd
theorem Term.subs_len (T : Term) : T.subs.length = T.size := by rw [Term.subs, List.length_map, Term.partsP_len]
noncomputable def keyPy (T : Term) : PyData := .tuple [.int (T.subs.length : Nat), .tuple (T.subs.map fun x => .str x.lab.str), .tuple (T.subs.map fun x => .int (x.kids.length : Nat))]
theorem k_fn31 (w : World) : keepIn (Kf w) (.ref 31) = true := by rfl
mutual
theorem Term.partsP_sub : ∀ (T : Term), ∀ p ∈ T.partsP, p.2.size ≤ T.size
  | .mk l ks, p, hp => by
    rw [Term.partsP] at hp
    rcases List.mem_cons.mp hp with rfl | hp
    · exact Nat.le_refl _
    · have := Term.partsK_sub 0 ks p hp; rw [Term.size]; omega
theorem Term.partsK_sub : ∀ (k : Nat) (ks : List Term), ∀ p ∈ Term.partsK k ks, p.2.size ≤ Term.sizes ks
  | _, [], p, hp => by rw [Term.partsK] at hp; cases hp
  | k, x :: xs, p, hp => by
    rw [Term.partsK] at hp
    rw [Term.sizes]
    rcases List.mem_append.mp hp with hp | hp
    · obtain ⟨q, hq, rfl⟩ := List.mem_map.mp hp
      have := Term.partsP_sub x q hq
      simp only; omega
    · have := Term.partsK_sub (k + 1) xs p hp; omega
end
theorem Term.kids_size : ∀ T : Term, T.kids.length < T.size
  | .mk _ ks => by have := Term.len_sizes ks; rw [Term.size, Term.kids]; omega

section
variable {prog : Program} {w : World} {A : Around} {E : Value → Shared → Prop} {s : Shared}
theorem tupleOf {l : Addr} {vs : List Value} {Q : Value → Shared → Prop} (_hh : A.handled = none) (hl : s.heap.PlainList l vs.toArray) (hsz : vs.length ≤ sizeLine)
    (h : ∀ t s', Up s s' → IsTup s'.heap t vs.toArray → Q (.ref t) s') : wpAny (model prog w) A (call (.type "tuple") [.ref l]) Q E s := by
  refine call_tuple_list hl.isList (fun h' k => ?_) (by simpa using hsz)
  exact h _ _ (Up.mk' (tk := s.toks) fun b o e => Heap.get?_push_of_some _ (k b o e)) (IsTup.new _ _)

theorem sub_ints {a b : Int} {t u : Tok} {Q : Value → Shared → Prop} (h : ∀ tk s', Up s s' → Q (.int (a - b) tk) s') : wpAny (model prog w) A (binaryOp .Sub (.int a t) (.int b u)) Q E s := sub_int (h _ _ Up.tok)
theorem add_ints {a b : Int} {t u : Tok} {Q : Value → Shared → Prop} (h : ∀ tk s', Up s s' → Q (.int (a + b) tk) s') : wpAny (model prog w) A (binaryOp .Add (.int a t) (.int b u)) Q E s := add_int (h _ _ Up.tok)

/-- a comprehension of one clause, no test, that makes data of data -/
structure MapSrc (prog : Program) (w : World) (A : Around) (env : Env) (scope : Scope) (cl : List (Str × Addr)) (elt target : Expr) (items : List Value) (ds outs : List PyData) (xv : Value) (sb : Shared) : Prop where
  seq : SeqV sb.heap xv items.toArray
  rd : RdAll sb.heap items ds
  len : outs.length = ds.length
  fit : items.length ≤ sizeLine
  step : ∀ (C : Addr) (m : Str → Option Value) (s₁ : Shared) (i : Nat) (v : Value) (d : PyData), ds[i]? = some d → Rd s₁.heap v d → Cx [] sb C m s₁ → wpAny (model prog w) A (assign target (compEnvC scope cl C env) v) (fun _ s₂ => wpAny (model prog w) A (eval elt (compEnvC scope cl C env)) (fun y s₄ =>
      Tr [C] s₁ s₄ ∧ (∃ m', s₄.heap.Ns C m') ∧ ∃ o, outs[i]? = some o ∧ Rd s₄.heap y o) noE s₂) noE s₁

theorem MapSrc.src {env : Env} {scope : Scope} {cl : List (Str × Addr)} {elt target : Expr} {items : List Value} {ds outs : List PyData} {xv : Value} {sb : Shared} (S : MapSrc prog w A env scope cl elt target items ds outs xv sb) :
    Src1 prog w A env scope cl elt target [] [] (fun i ys s' => RdAll s'.heap ys (outs.take i)) items.toArray xv sb where
  seq := S.seq
  fit := by simpa using S.fit
  mus := by simp
  stable := fun _ _ _ _ _ _ t f => f.up t.tup
  start := by simpa using RdAll.nil
  step := fun C hC i v ys s₁ m₁ hi t n f => by
    have hi' : items[i]? = some v := by simpa using hi
    obtain ⟨d, hd1, hd2⟩ := RdAll.at S.rd hi'
    refine wpQ (S.step C m₁ s₁ i v d hd1 (hd2.up t.tup) ⟨t, n, hC⟩) fun _ s₂ h₂ => wpAny_tests_nil ?_
    rw [if_pos rfl]
    refine wpQ h₂ fun y s₄ ⟨a, b, o, e, r⟩ => ⟨a, b, ?_⟩
    rw [take_succ_map id _ _ _ e]
    exact (f.up a.tup).append (RdAll.cons r RdAll.nil)

theorem comp_map {env : Env} {scope : Scope} {cl : List (Str × Addr)} {elt target iter : Expr} {pos : Pos} {Q : Value → Shared → Prop}
    (hh : A.handled = none) (hclos : closureFor scope env = pure cl) (hcell : ∀ y ∈ scope.names, y.2 ≠ .cell) (hkind : scope.kind = .function) (hnames : ∀ y ∈ scope.names, y.2 = .local → scope.names.lookup y.1 = some .local) (hs : ∀ x, foldedSetIterable iter env x = pure x)
    (h : wpAny (model prog w) A (eval iter env) (fun xv sb => ∃ items ds outs, MapSrc prog w A env scope cl elt target items ds outs xv sb ∧
      ∀ D ys s', sb.heap.get? D = none → Up sb s' → s'.heap.PlainList D (List.toArray ys) → RdAll s'.heap ys outs → Q (.ref D) s') E s) :
    wpAny (model prog w) A (eval (.ListComp elt [⟨target, iter, [], 0⟩] scope pos) env) Q E s := by
  refine comp1 hh hclos hcell hkind hnames hs (wpQ h fun xv sb ⟨items, ds, outs, S, hQ⟩ => ⟨[], _, _, S.src, fun D ys s' hD t hp f => hQ D ys s' hD t hp ?_⟩)
  have := f
  rwa [List.size_toArray, S.rd.length, ← S.len, List.take_length] at this

theorem comp_mapA {env : Env} {X : List Addr} {s₀ : Shared} {L : Addr} {m : Str → Option Value} {scope : Scope} {cl : List (Str × Addr)} {elt target iter : Expr} {y : Str} {py : Pos} {pos spos : Pos} {Q : Flow → Shared → Prop} (_C : Cx X s₀ L m s)
    (hh : A.handled = none) (hsw : swapsWith (.ListComp elt [⟨target, iter, [], 0⟩] scope pos) (some (.Name y py)) spos.line env = pure true) (hclos : closureFor scope env = pure cl) (hcell : ∀ y ∈ scope.names, y.2 ≠ .cell) (hkind : scope.kind = .function)
    (hnames : ∀ y ∈ scope.names, y.2 = .local → scope.names.lookup y.1 = some .local) (hs : ∀ x, foldedSetIterable iter env x = pure x) (hL : env.locals = L) (hk : env.scope.kind = .function) (hy : env.kindOf y = some .local)
    (h : wpAny (model prog w) A (eval iter env) (fun xv sb => ∃ items ds outs, MapSrc prog w A env scope cl elt target items ds outs xv sb ∧ Cx X s₀ L m sb ∧
      ∀ D ys s', sb.heap.get? D = none → Tr [L] sb s' → Cx X s₀ L (fun z => if z = y then some (.ref D) else m z) s' → s'.heap.PlainList D (List.toArray ys) → RdAll s'.heap ys outs → Q .next s') E s) :
    wpAny (model prog w) A (exec (.Assign [.Name y py] (.ListComp elt [⟨target, iter, [], 0⟩] scope pos) spos) env) Q E s := by
  refine comp1A hh hsw hclos hcell hkind hnames hs hL hk hy (wpQ h fun xv sb ⟨items, ds, outs, S, C, hQ⟩ => ⟨[], _, _, S.src, C, by simp, by simp, fun D ys s' hD t C' hp f => hQ D ys s' hD t C' hp ?_⟩)
  have := f
  rwa [List.size_toArray, S.rd.length, ← S.len, List.take_length] at this

theorem key_of_ok {X : List Addr} {v : Value} {T : Term} {Q : Value → Shared → Prop} (G : Gx w X s.heap) (ht : Tm s.heap v T) (hh : A.handled = none) (hd : A.depth + T.height + 3 < recursionLimit) (hu : A.units + 10 * T.height + 200 < cLine) (hsz : T.size ≤ 1000)
    (h : ∀ r s', Up s s' → Rd s'.heap r (keyPy T) → Q r s') : wpAny (model prog w) A (call (.ref 31) [v]) Q E s := by
  have hsl : 1000000 ≤ sizeLine := by rw [PySem.sizeLine_eq]; decide
  refine enter (binds := [("t", v)]) G (by exact rfl) (by exact rfl) (by omega) (by exact rfl) (by decide) (by exact rfl) rfl rfl rfl (fun L s₁ C G₁ => ?_)
  refine wpAny_execs_cons (comp_mapA C (cl := []) hh (by exact rfl) (by exact rfl) (by decide) (by exact rfl) (by decide) (by intro _; rfl) (by exact rfl) (by exact rfl) (by exact rfl) ?_)
  refine callN G₁ (g_parts w) (k_fn26 w) (wpAny_items_cons (nm C (by exact rfl) (wpAny_items_nil ⟨G₁.gd.K, ?_⟩)))
  refine parts_ok T _ _ s₁ X v _ G₁ (ht.up C.tr.tup) hh (by show A.depth + 1 + _ + 1 < _; omega) (by show A.units + 3 + _ + 100 < _; omega) hsz fun pl sb vs ub _ hpl hvs => ?_
  have hvl : vs.length = T.size := by rw [hvs.length, List.length_map, Term.partsP_len]
  refine ⟨vs, _, T.subs.map Term.py, ⟨⟨pl, rfl, .inl hpl.isList⟩, hvs, by rw [Term.subs, List.length_map, List.length_map, List.length_map], by omega, ?_⟩, C.up ub, fun D ys s₂ _ t₂ C₂ hD hys => ?_⟩
  · intro Cc m sa i u d hi hd Ca
    rw [List.getElem?_map] at hi
    obtain ⟨p, hp1, rfl⟩ := Option.map_eq_some_iff.mp hi
    obtain ⟨b, ws, rfl, hb, hws⟩ := Rd.untuple hd
    obtain ⟨pv, tv, rfl⟩ : ∃ pv tv, ws = [pv, tv] := by
      have := hws.length
      match ws, this with
      | [pv, tv], _ => exact ⟨pv, tv, rfl⟩
    refine unpack2 hh hb fun sc uc => wpAny_assign_Name (st (Ca.up uc) fun sd td Cd => wpAny_assign_Name (st Cd fun se te Ce => ?_))
    refine nm Ce (by exact rfl) ⟨(uc.to _).trans (td.trans te), ⟨_, Ce.ns⟩, p.2.py, by rw [List.getElem?_map, Term.subs, List.getElem?_map, hp1]; rfl, hws.uncons.2.uncons.1.up ((uc.tup.trans td.tup).trans te.tup)⟩
  · have hyl : ys.length = T.size := by rw [hys.length, List.length_map, Term.subs_len]
    have G₂ := G.up C₂.tr
    refine wpAny_execs_cons (wpAny_Return_some (tupleD (wpAny_items_cons (callB G₂ (g_len w) boot_len (by decide) (wpAny_items_cons (nm C₂ (by exact rfl) (wpAny_items_nil (len_l hD.isList (by omega) fun tk s₃ u₃ => ?_))))))))
    have C₃ := C₂.up u₃
    refine wpAny_items_cons (callT (G.up C₃.tr) (g_tuple w) PyProof.Rows.boot_tuple (by decide) (wpAny_items_cons (comp_map (cl := []) hh (by exact rfl) (by decide) (by exact rfl) (by decide) (by intro _; rfl) (nm C₃ (by exact rfl) ?_))))
    refine ⟨ys, _, T.subs.map fun x => .str x.lab.str, ⟨⟨D, rfl, .inl (hD.at fun o e => u₃.le _ _ e).isList⟩, hys.up u₃.tup, by simp, by omega, ?_⟩, fun D₄ zs s₄ _ u₄ hD₄ hzs => wpAny_items_nil (tupleOf hh hD₄ (by rw [hzs.length, List.length_map, Term.subs_len]; omega) fun t₅ s₅ u₅ ht₅ => ?_)⟩
    · intro Cc m sa i u d hi hd Ca
      rw [List.getElem?_map] at hi
      obtain ⟨x, hx, rfl⟩ := Option.map_eq_some_iff.mp hi
      obtain ⟨xl, xk⟩ := x
      refine wpAny_assign_Name (st Ca fun sc tc Cc' => tidx (nm Cc' (by exact rfl) (ci fun tk sd ud => ?_)))
      obtain ⟨a, tl, kvs, rfl, hT, hkv⟩ := Tm.open hd
      have hxm : Term.mk xl xk ∈ T.subs := List.mem_of_getElem? hx
      have hxs : (Term.mk xl xk).size ≤ T.size := by
        obtain ⟨p, hp, e⟩ := List.mem_map.mp hxm
        rw [← e]; exact Term.partsP_sub T p hp
      have hxk := Term.kids_size (Term.mk xl xk)
      have hkl : kvs.length = xk.length := by have := hkv.length; rw [this, Term.pys_eq, List.length_map]
      refine ⟨a, _, 0, tk, _, rfl, rfl, IsTup.tle hT (tc.tup.trans ud.tup), rfl, by simp only [List.length_cons]; rw [Term.kids] at hxk; omega, tc.trans (ud.to _), ⟨_, (Cc'.up ud).ns⟩, .str xl.str, by rw [List.getElem?_map, hx]; rfl, Rd.str _ _⟩
    have C₅ := (C₃.up u₄).up u₅
    refine wpAny_items_cons (callT (G.up C₅.tr) (g_tuple w) PyProof.Rows.boot_tuple (by decide) (wpAny_items_cons (comp_map (cl := []) hh (by exact rfl) (by decide) (by exact rfl) (by decide) (by intro _; rfl) (nm C₅ (by exact rfl) ?_))))
    have u35 := (u₃.trans u₄).trans u₅
    refine ⟨ys, _, T.subs.map fun x => .int (x.kids.length : Nat), ⟨⟨D, rfl, .inl (hD.at fun o e => u35.le _ _ e).isList⟩, hys.up u35.tup, by simp, by omega, ?_⟩, fun D₆ zs' s₆ _ u₆ hD₆ hzs' => wpAny_items_nil (tupleOf hh hD₆ (by rw [hzs'.length, List.length_map, Term.subs_len]; omega) fun t₇ s₇ u₇ ht₇ => ?_)⟩
    · intro Cc m sa i u d hi hd Ca
      rw [List.getElem?_map] at hi
      obtain ⟨x, hx, rfl⟩ := Option.map_eq_some_iff.mp hi
      obtain ⟨xl, xk⟩ := x
      obtain ⟨a, tl, kvs, rfl, hT, hkv⟩ := Tm.open hd
      have hxm : Term.mk xl xk ∈ T.subs := List.mem_of_getElem? hx
      have hxs : (Term.mk xl xk).size ≤ T.size := by
        obtain ⟨p, hp, e⟩ := List.mem_map.mp hxm
        rw [← e]; exact Term.partsP_sub T p hp
      have hxk := Term.kids_size (Term.mk xl xk)
      rw [Term.kids] at hxk
      have hkl : kvs.length = xk.length := by have := hkv.length; rw [this, Term.pys_eq, List.length_map]
      refine wpAny_assign_Name (st Ca fun sc tc Cc' => wpAny_BinOp (callB (X := X) ?_ (g_len w) boot_len (by decide) (wpAny_items_cons (nm Cc' (by exact rfl) (wpAny_items_nil (len_t (IsTup.tle hT tc.tup) (by simp only [List.length_cons]; omega) fun tk sd ud => ci fun tk' se ue => sub_ints fun tk'' sf uf => ?_))))))
      · exact (G.up C₅.tr).up Cc'.tr
      · refine ⟨tc.trans ((ud.to _).trans ((ue.to _).trans (uf.to _))), ⟨_, (((Cc'.up ud).up ue).up uf).ns⟩, .int (xk.length : Nat), by rw [List.getElem?_map, hx]; rfl, ?_⟩
        have e : (((Value.str xl.str tl :: kvs).length : Nat) : Int) - 1 = (xk.length : Nat) := by rw [List.length_cons, hkl]; omega
        rw [e]; exact Rd.int _ _
    refine wpAny_items_nil ⟨by simp; omega, fun r s₈ u₈ _ hr => ?_⟩
    refine h (.ref r) s₈ ((((C₅.up u₆).up u₇).up u₈)).tr ?_
    have r1 : Rd s₈.heap (.ref t₅) (.tuple (T.subs.map fun x => .str x.lab.str)) := Rd.tuple (IsTup.tle ht₅ ((u₆.tup.trans u₇.tup).trans u₈.tup)) (hzs.up (((u₅.tup.trans u₆.tup).trans u₇.tup).trans u₈.tup))
    have r2 : Rd s₈.heap (.ref t₇) (.tuple (T.subs.map fun x => .int (x.kids.length : Nat))) := Rd.tuple (IsTup.tle ht₇ u₈.tup) (hzs'.up (u₇.tup.trans u₈.tup))
    have r0 : Rd s₈.heap (.int (ys.length : Nat) tk) (.int (T.subs.length : Nat)) := by rw [hyl, Term.subs_len]; exact Rd.int _ _
    exact Rd.tuple hr (RdAll.cons r0 (RdAll.cons r1 (RdAll.cons r2 RdAll.nil)))
end
end Mine
end
section
set_option maxRecDepth 100000
set_option maxHeartbeats 4000000
open PySem PySem.W PyProof.Rows PySem.Calls PySem.Spec
namespace Mine

noncomputable def treeRun {α : Type} (lt : Nat → Nat → Bool) : KasT α → α
  | .ret a => a
  | .ask i j k => treeRun lt (k (lt i j))
noncomputable def treeOk {α : Type} (n : Nat) : KasT α → Bool
  | .ret _ => true
  | .ask i j k => decide (i < n) && decide (j < n) && treeOk n (k true) && treeOk n (k false)

theorem tree_pure {α : Type} {ask : Nat → Nat → (Bool → Shared → Prop) → Shared → Prop} {n : Nat} {s : Shared} {lt : Nat → Nat → Bool} {Q : α → Shared → Prop}
    (ha : ∀ i j C, i < n → j < n → C (lt i j) s → ask i j C s) : ∀ t : KasT α, treeOk n t = true → Q (treeRun lt t) s → t.kasWp ask Q s
  | .ret a, _, q => q
  | .ask i j k, o, q => by
    rw [treeOk] at o
    simp only [Bool.and_eq_true, decide_eq_true_eq] at o
    refine ha i j _ o.1.1.1 o.1.1.2 (tree_pure ha _ ?_ q)
    cases lt i j
    · exact o.2
    · exact o.1.2

section
variable {prog : Program} {w : World} {A : Around} {E : Value → Shared → Prop} {s : Shared}

noncomputable def LtAt (prog : Program) (w : World) (A : Around) (s : Shared) (p q : Value) (r : Bool) : Prop := ∀ (E : Value → Shared → Prop) (Q : Value → Shared → Prop), Q (.bool r) s → wpAny (model prog w) A (richCompare .Lt p q) Q E s
inductive LexAt (prog : Program) (w : World) (A : Around) (s : Shared) : List Value → List Value → Bool → Prop
  | endL (ys : List Value) : LexAt prog w A s [] ys (decide (0 < ys.length))
  | endR (xs : List Value) : LexAt prog w A s xs [] false
  | eq {x y : Value} {xs ys : List Value} {r : Bool} : (∀ (E : Value → Shared → Prop) (Q : Bool → Shared → Prop), Q true s → wpAny (model prog w) A (eqBool x y) Q E s) → LexAt prog w A s xs ys r → LexAt prog w A s (x :: xs) (y :: ys) r
  | ne {x y : Value} {xs ys : List Value} {r : Bool} : (∀ (E : Value → Shared → Prop) (Q : Bool → Shared → Prop), Q false s → wpAny (model prog w) A (eqBool x y) Q E s) → LtAt prog w A s x y r → LexAt prog w A s (x :: xs) (y :: ys) r

theorem LtAt.int (a b : Int) (t u : Tok) : LtAt prog w A s (.int a t) (.int b u) (decide (a < b)) := fun _ _ h => lt_int h
theorem LtAt.str (a b : Str) (t u : Tok) : LtAt prog w A s (.str a t) (.str b u) (decide (a.cps.toList < b.cps.toList)) := fun _ _ h => lt_str h

theorem tup_lt_tree {a b : Addr} {xs ys : List Value} {r : Bool} {P : PySem.Fin → Shared → Prop} (ha : IsTup s.heap a xs.toArray) (hb : IsTup s.heap b ys.toArray) (hr : LexAt prog w A s xs ys r) (h : P (.done (.ret (.bool r))) s) :
    wpAny (model prog w) A (Builtin.«tuple.__lt__» ⟨[.ref a, .ref b], []⟩) P E s := by
  have hTb := hb.typeIs
  obtain ⟨oa, hoa, _, na, hda⟩ := ha
  obtain ⟨ob, hob, _, nb, hdb⟩ := hb
  show wpAny _ _ (isInstance (.ref b) (.type "tuple") >>= _) _ _ s
  refine wpAny_bind (wpAny_isInstance hTb isSubtype_tuple_tuple ?_)
  simp only [Bool.not_true, Bool.false_eq_true, if_false]
  refine wpAny_bind (wpAny_tupleItemsOf hoa hda ?_)
  refine wpAny_bind (wpAny_tupleItemsOf hob hdb ?_)
  refine wpAny_bind ?_
  refine wpAny_forIn_list _
    (fun rest q s' => q.1 = none ∧ s' = s ∧ ∃ xs' ys', rest = List.zip xs' ys' ∧ LexAt prog w A s xs' ys' r ∧ ((xs'.length < ys'.length) ↔ (xs.length < ys.length)))
    _ ?_ ?_ _ _ ⟨rfl, rfl, xs, ys, rfl, hr, Iff.rfl⟩
  · rintro ⟨u, v⟩ rest q s' ⟨hq, rfl, xs', ys', hz, hl, hlen⟩
    cases hl with
    | endL => simp at hz
    | endR => simp at hz
    | @eq x y xs'' ys'' _ h1 h2 =>
      simp only [List.zip_cons_cons, List.cons.injEq, Prod.mk.injEq] at hz
      obtain ⟨⟨rfl, rfl⟩, rfl⟩ := hz
      refine wpAny_bind (h1 _ _ ?_)
      simp only [Bool.not_true, Bool.false_eq_true, if_false]
      exact wpAny_pure ⟨rfl, rfl, xs'', ys'', rfl, h2, by simpa using hlen⟩
    | @ne x y xs'' ys'' _ h1 h2 =>
      simp only [List.zip_cons_cons, List.cons.injEq, Prod.mk.injEq] at hz
      obtain ⟨⟨rfl, rfl⟩, rfl⟩ := hz
      refine wpAny_bind (h1 _ _ ?_)
      simp only [Bool.not_false, if_true]
      refine wpAny_bind (wpAny_rule ?_)
      refine wpAny_bind (h2 _ _ ?_)
      exact wpAny_bind (wpAny_pure (wpAny_pure (wpAny_pure h)))
  · rintro ⟨q1, q2⟩ s' ⟨hq, rfl, xs', ys', hz, hl, hlen⟩
    simp only at hq; subst hq
    have e : decide (xs.length < ys.length) = r := by
      cases hl with
      | endL => rw [← decide_eq_decide.mpr hlen]; rfl
      | endR =>
        have hn : ¬ xs.length < ys.length := fun q => Nat.not_lt_zero _ (hlen.mpr q)
        exact decide_eq_false hn
      | eq => simp at hz
      | ne => simp at hz
    refine wpAny_pure ?_
    show P (.done (.ret (.bool (decide (xs.toArray.size < ys.toArray.size))))) s'
    rw [List.size_toArray, List.size_toArray, e]; exact h

theorem LtAt.tup {a b : Addr} {xs ys : List Value} {r : Bool} (ha : IsTup s.heap a xs.toArray) (hb : IsTup s.heap b ys.toArray) (hu : A.units < cLine) (hr : LexAt prog w A.in1 s xs ys r) : LtAt prog w A s (.ref a) (.ref b) r := fun E Q h =>
  wpAny_richCompare_same_room (op := .Lt) ha.typeIs hb.typeIs F.slot_tuple_lt
      (wpAny_call_entry F.slot_tuple_lt ha.typeIs F.entry_tuple_lt (tup_lt_tree ha hb hr ⟨_, rfl, (fun e => nomatch e), h⟩) (F.args_tuple_lt_2 _ _)) hu

theorem sorted_tr {X : List Addr} {s₀ : Shared} {L l : Addr} {m : Str → Option Value} {vs fs : List Value} {lt : Nat → Nat → Bool} {Q : Value → Shared → Prop} (C : Cx X s₀ L m s) (hl : s.heap.PlainList l vs.toArray) (h2 : 2 ≤ vs.length) (h64 : vs.length < 64)
    (hok : treeOk vs.length (kas_sort vs.length) = true)
    (hk : ∀ s' : Shared, (∀ b o, b ≠ L → s.heap.get? b = some o → s'.heap.get? b = some o) → KatTups s'.heap vs fs ∧ ∀ v ∈ fs, ∃ (a : Addr) (o : Obj), v = .ref a ∧ s'.heap.get? a = some o ∧ o.cls = Value.type "tuple")
    (hlen : fs.length = vs.length)
    (hlt : ∀ (s' : Shared) (i j : Nat) (Q' : Bool → Shared → Prop), (∀ b o, b ≠ L → s.heap.get? b = some o → s'.heap.get? b = some o) → i < vs.length → j < vs.length → Q' (lt i j) s' →
      wpAny (model prog w) A.in1.in1 (keyLt' (tuples' false) (vs.getD i .none) (vs.getD j .none)) Q' (fun _ _ => False) s')
    (h : ∀ D s', Cx X s₀ L m s' → s.heap.get? D = none → (∀ b o, b ≠ L → s.heap.get? b = some o → s'.heap.get? b = some o) →
      s'.heap.PlainList D ((treeRun lt (kas_sort vs.length)).toList.map fun i => vs.getD i .none).toArray → Q (.ref D) s') :
    wpAny (model prog w) A (call (.builtin "sorted") [.ref l]) Q E s := by
  have hF : Fr {} L s.heap m := ⟨C.ns, fun b o e => by simp [Heap.get?] at e, Nat.zero_le _⟩
  let news : List (Addr × Obj) := (List.range s.heap.objs.size).filterMap fun a => if a = L then none else (s.heap.get? a).map fun o => (a, o)
  have hnews : ∀ p, p ∈ news ↔ (p.1 ≠ L ∧ s.heap.get? p.1 = some p.2) := by
    rintro ⟨a, o⟩
    simp only [news, List.mem_filterMap, List.mem_range]
    constructor
    · rintro ⟨a', _, e⟩
      split at e
      · cases e
      · obtain ⟨o', e1, e2⟩ := Option.map_eq_some_iff.mp e
        cases e2
        exact ⟨by assumption, e1⟩
    · rintro ⟨h1, h2⟩
      exact ⟨a, Heap.lt_size h2, by rw [if_neg h1, h2]; rfl⟩
  have hN : News {} L s.heap news := fun p hp => ⟨((hnews p).mp hp).2, ((hnews p).mp hp).1, by simp [Heap.get?]⟩
  refine kat_sorted hF hN hl.isList h2 h64 fun D e1 h' F' N' hD => ?_
  have keep : ∀ b o, b ≠ L → s.heap.get? b = some o → h'.get? b = some o := fun b o hb e => (N' (b, o) (.tail _ ((hnews (b, o)).mpr ⟨hb, e⟩))).1
  obtain ⟨k1, k2⟩ := hk { s with heap := h' } keep
  refine kat_kind (T := Value.type "tuple") (s := { s with heap := h' }) k1 (by rw [hlen]; omega) (fun v hv => ?_) (by decide) ?_
  · obtain ⟨a, o, rfl, e, c⟩ := k2 v hv
    rw [← c]
    exact (Looks.ld e).andThen .now
  · refine tree_pure (n := vs.length) (lt := lt) (fun i j C' hi hj q => hlt { s with heap := h' } i j C' keep hi hj q) _ hok ?_
    have hDn : ∀ q ∈ news, q.1 ≠ D := fun q hq => Nat.ne_of_lt (hD q hq)
    refine KasFin.intro F' N' (.head hDn) fun h'' c F'' N'' => ?_
    have keep2 : ∀ b o, b ≠ L → s.heap.get? b = some o → h''.get? b = some o := fun b o hb e => (N'' (b, o) (.tail _ ((hnews (b, o)).mpr ⟨hb, e⟩))).1
    have hDs : s.heap.get? D = none := by
      cases e : s.heap.get? D with
      | none => rfl
      | some o =>
        by_cases hDL : D = L
        · exact absurd hDL (N'' _ (.head _)).2.1
        · exact absurd rfl (hDn _ ((hnews (D, o)).mpr ⟨hDL, e⟩))
    refine h D { s with heap := h'' } ?_ hDs keep2 ⟨c, (N'' _ (.head _)).1⟩
    obtain ⟨ha, ta, rfl⟩ := C.tr.ev
    refine ⟨⟨⟨h'', ta, rfl⟩, fun b o n e => keep2 b o (fun q => by rw [q, C.nL] at e; cases e) (C.tr.keep b o n e), fun b o e q => keep2 b o (fun q => by rw [q, C.nL] at e; cases e) (C.tr.tup b o e q)⟩, F''.ns, C.nL⟩
end
end Mine
end
section
set_option maxRecDepth 100000
set_option maxHeartbeats 4000000
set_option linter.constructorNameAsVariable false
set_option linter.unusedVariables false
open PySem PySem.W PyProof.Rows PySem.Calls PySem.Spec
namespace Mine

noncomputable def Lab.num : Lab → Nat
  | .a => 0 | .b => 1 | .f => 2 | .g => 3 | .p => 4 | .s => 5
noncomputable def llt : List Nat → List Nat → Bool
  | [], ys => decide (0 < ys.length)
  | _ :: _, [] => false
  | x :: xs, y :: ys => if x = y then llt xs ys else decide (x < y)
noncomputable def Term.labs (T : Term) : List Nat := T.subs.map fun x => x.lab.num
noncomputable def Term.ars (T : Term) : List Nat := T.subs.map fun x => x.kids.length
noncomputable def Term.code (T : Term) : List Nat := T.subs.length :: (T.labs ++ T.ars)
noncomputable def tlt (x y : Term) : Bool := llt x.code y.code

theorem num_inj : ∀ a b : Lab, a.num = b.num ↔ a = b := by intro a b; cases a <;> cases b <;> decide
theorem num_lt : ∀ a b : Lab, decide (a.str.cps.toList < b.str.cps.toList) = decide (a.num < b.num) := by intro a b; cases a <;> cases b <;> decide +kernel

mutual
noncomputable def tok : Term → List (Lab × Nat)
  | .mk l ks => (l, ks.length) :: toks ks
noncomputable def toks : List Term → List (Lab × Nat)
  | [] => []
  | x :: xs => tok x ++ toks xs
end
mutual
theorem tok_inj : ∀ (T U : Term) (r r' : List (Lab × Nat)), tok T ++ r = tok U ++ r' → T = U ∧ r = r'
  | .mk l ks, .mk l' ks', r, r', h => by
    rw [tok, tok, List.cons_append, List.cons_append, List.cons.injEq, Prod.mk.injEq] at h
    obtain ⟨⟨rfl, hl⟩, h⟩ := h
    obtain ⟨e, h'⟩ := toks_inj ks ks' r r' hl h
    exact ⟨by rw [e], h'⟩
theorem toks_inj : ∀ (ks ks' : List Term) (r r' : List (Lab × Nat)), ks.length = ks'.length → toks ks ++ r = toks ks' ++ r' → ks = ks' ∧ r = r'
  | [], [], r, r', _, h => ⟨rfl, by simpa [toks] using h⟩
  | [], _ :: _, _, _, hl, _ => by simp at hl
  | _ :: _, [], _, _, hl, _ => by simp at hl
  | x :: xs, y :: ys, r, r', hl, h => by
    rw [toks, toks, List.append_assoc, List.append_assoc] at h
    obtain ⟨e, h'⟩ := tok_inj x y _ _ h
    obtain ⟨e2, h''⟩ := toks_inj xs ys r r' (by simpa using hl) h'
    exact ⟨by rw [e, e2], h''⟩
end
mutual
theorem subs_tok : ∀ T : Term, (T.partsP.map Prod.snd).map (fun x => (x.lab, x.kids.length)) = tok T
  | .mk l ks => by
    rw [Term.partsP, tok, List.map_cons, List.map_cons, subs_toks 0 ks]; rfl
theorem subs_toks : ∀ (k : Nat) (ks : List Term), ((Term.partsK k ks).map Prod.snd).map (fun x => (x.lab, x.kids.length)) = toks ks
  | _, [] => rfl
  | k, x :: xs => by
    rw [Term.partsK, toks, List.map_append, List.map_append, subs_toks (k + 1) xs, ← subs_tok x, List.map_map, List.map_map, List.map_map]
    rfl
end
theorem map_num_inj {xs ys : List Lab} (h : xs.map Lab.num = ys.map Lab.num) : xs = ys := by
  induction xs generalizing ys with
  | nil => cases ys <;> simp_all
  | cons x xs ih =>
    cases ys with
    | nil => simp at h
    | cons y ys =>
      simp only [List.map_cons, List.cons.injEq] at h
      rw [(num_inj x y).mp h.1, ih h.2]
theorem code_split (x y : Term) : x.code = y.code ↔ x.subs.length = y.subs.length ∧ x.labs = y.labs ∧ x.ars = y.ars := by
  unfold Term.code
  rw [List.cons.injEq]
  constructor
  · rintro ⟨h1, h2⟩
    exact ⟨h1, List.append_inj h2 (by simp [Term.labs, h1])⟩
  · rintro ⟨h1, h2, h3⟩
    exact ⟨h1, by rw [h2, h3]⟩
theorem code_inj (x y : Term) : x.code = y.code ↔ x = y := by
  refine ⟨fun h => ?_, fun h => by rw [h]⟩
  obtain ⟨_, h2, h3⟩ := (code_split x y).mp h
  have h2' : x.subs.map Term.lab = y.subs.map Term.lab := map_num_inj (by simpa [Term.labs, List.map_map, Function.comp_def] using h2)
  have e : tok x = tok y := by
    rw [← subs_tok x, ← subs_tok y]
    show x.subs.map _ = y.subs.map _
    have z : ∀ l : List Term, l.map (fun x => (x.lab, x.kids.length)) = (l.map Term.lab).zip (l.map fun x => x.kids.length) := fun l => by induction l with
      | nil => rfl
      | cons a l ih => simp [ih]
    rw [z, z, h2']
    show _ = List.zip _ y.ars
    rw [← h3]; rfl
  exact (tok_inj x y [] [] (by rw [e])).1

theorem eqv_ints : ∀ xs ys : List Nat, PyData.eqvAll (xs.map fun (n : Nat) => PyData.int n) (ys.map fun (n : Nat) => PyData.int n) = decide (xs = ys)
  | [], [] => by simp [PyData.eqvAll]
  | [], _ :: _ => by simp [PyData.eqvAll]
  | _ :: _, [] => by simp [PyData.eqvAll]
  | x :: xs, y :: ys => by
    rw [List.map_cons, List.map_cons, PyData.eqvAll, eqv_ints xs ys, PyData.eqv]
    by_cases h1 : x = y <;> by_cases h2 : xs = ys <;> simp [h1, h2] <;> omega
theorem eqv_labs : ∀ xs ys : List Lab, PyData.eqvAll (xs.map fun l => PyData.str l.str) (ys.map fun l => PyData.str l.str) = decide (xs.map Lab.num = ys.map Lab.num)
  | [], [] => by simp [PyData.eqvAll]
  | [], _ :: _ => by simp [PyData.eqvAll]
  | _ :: _, [] => by simp [PyData.eqvAll]
  | x :: xs, y :: ys => by
    rw [List.map_cons, List.map_cons, PyData.eqvAll, eqv_labs xs ys, PyData.eqv, lab_str_inj]
    by_cases h1 : x = y <;> by_cases h2 : xs.map Lab.num = ys.map Lab.num <;> simp [h1, h2, num_inj]

theorem keyPy_eq (T : Term) : keyPy T = .tuple [.int (T.subs.length : Nat), .tuple ((T.subs.map Term.lab).map fun l => .str l.str), .tuple (T.ars.map fun (n : Nat) => .int n)] := by
  rw [keyPy, Term.ars, List.map_map, List.map_map]; rfl
theorem eqv_key (x y : Term) : PyData.eqv (keyPy x) (keyPy y) = decide (x = y) := by
  have e : decide (x = y) = decide (x.code = y.code) := decide_eq_decide.mpr (code_inj x y).symm
  have e' : decide (x.code = y.code) = decide (x.subs.length = y.subs.length ∧ x.labs = y.labs ∧ x.ars = y.ars) := decide_eq_decide.mpr (code_split x y)
  rw [e, e', keyPy_eq, keyPy_eq]
  simp only [PyData.eqv, PyData.eqvAll]
  rw [eqv_ints, eqv_labs]
  have e2 : ∀ T : Term, (T.subs.map Term.lab).map Lab.num = T.labs := fun T => by rw [Term.labs, List.map_map]; rfl
  rw [e2, e2]
  by_cases h1 : x.subs.length = y.subs.length <;> by_cases h2 : x.labs = y.labs <;> by_cases h3 : x.ars = y.ars <;> simp [h1, h2, h3] <;> omega

theorem llt_app : ∀ (a b c d : List Nat), a.length = b.length → llt (a ++ c) (b ++ d) = if a = b then llt c d else llt a b
  | [], [], c, d, _ => by simp
  | [], _ :: _, _, _, h => by simp at h
  | _ :: _, [], _, _, h => by simp at h
  | x :: a, y :: b, c, d, h => by
    rw [List.cons_append, List.cons_append, llt, llt, llt_app a b c d (by simpa using h)]
    by_cases h1 : x = y
    · subst h1; simp
    · simp [h1]
theorem tlt_eq (x y : Term) : tlt x y = if x.subs.length = y.subs.length then (if x.labs = y.labs then llt x.ars y.ars else llt x.labs y.labs) else decide (x.subs.length < y.subs.length) := by
  unfold tlt Term.code
  rw [llt]
  by_cases h : x.subs.length = y.subs.length
  · rw [if_pos h, if_pos h, llt_app _ _ _ _ (by simp [Term.labs, h])]
  · rw [if_neg h, if_neg h]
theorem llt_irrefl : ∀ a : List Nat, llt a a = false
  | [] => by simp [llt]
  | x :: a => by simp [llt, llt_irrefl a]
theorem tlt_irrefl (x : Term) : tlt x x = false := llt_irrefl _

mutual
theorem canAll_ints : ∀ xs : List Nat, PyData.canLayAll0 (xs.map fun (n : Nat) => PyData.int n) = true
  | [] => rfl
  | x :: xs => by rw [List.map_cons, PyData.canLayAll0, canAll_ints xs]; rfl
end
theorem canAll_labs : ∀ xs : List Lab, PyData.canLayAll0 (xs.map fun l => PyData.str l.str) = true
  | [] => rfl
  | x :: xs => by rw [List.map_cons, PyData.canLayAll0, canAll_labs xs, PyData.canLay0, strOk_lab]; rfl
theorem key_can (T : Term) : (keyPy T).canLay0 = true := by
  rw [keyPy_eq]
  simp only [PyData.canLay0, PyData.canLayAll0, canAll_ints, canAll_labs]; rfl
theorem depth_ints : ∀ xs : List Nat, PyData.depthAll (xs.map fun (n : Nat) => PyData.int n) = 0
  | [] => rfl
  | x :: xs => by rw [List.map_cons, PyData.depthAll, depth_ints xs]; rfl
theorem depth_labs : ∀ xs : List Lab, PyData.depthAll (xs.map fun l => PyData.str l.str) = 0
  | [] => rfl
  | x :: xs => by rw [List.map_cons, PyData.depthAll, depth_labs xs]; rfl
theorem key_depth (T : Term) : (keyPy T).depth = 2 := by
  rw [keyPy_eq]
  simp only [PyData.depth, PyData.depthAll, depth_ints, depth_labs]; rfl

section
variable {prog : Program} {w : World} {A : Around} {E : Value → Shared → Prop} {s : Shared}
theorem eqb {p q : Value} {d e : PyData} {b : Bool} (hp : Rd s.heap p d) (hq : Rd s.heap q e) (cd : d.canLay0 = true) (ce : e.canLay0 = true) (hu : A.units + d.depth < cLine) (hb : PyData.eqv d e = b) :
    ∀ (E : Value → Shared → Prop) (Q : Bool → Shared → Prop), Q b s → wpAny (model prog w) A (eqBool p q) Q E s := fun E Q h =>
  SeqAt.eqBoolOverData prog w A E s p q d e _ _ Q hp.1 hq.1 cd ce (Nat.lt_of_le_of_lt (Nat.add_le_add_left (Nat.min_le_left _ _) _) hu) (hb ▸ h)
theorem lex_ints : ∀ (xs ys : List Nat) (vs ws : List Value), RdAll s.heap vs (xs.map fun (n : Nat) => PyData.int n) → RdAll s.heap ws (ys.map fun (n : Nat) => PyData.int n) → A.units + 5 < cLine → LexAt prog w A s vs ws (llt xs ys)
  | [], ys, vs, ws, h1, h2, _ => by
    have : vs = [] := List.length_eq_zero_iff.mp (by simpa using h1.length)
    subst this
    have e : ws.length = ys.length := by simpa using h2.length
    rw [llt, ← e]; exact .endL ws
  | x :: xs, [], vs, ws, h1, h2, _ => by
    have : ws = [] := List.length_eq_zero_iff.mp (by simpa using h2.length)
    subst this
    exact .endR vs
  | x :: xs, y :: ys, vs, ws, h1, h2, hu => by
    match vs, ws, h1, h2 with
    | [], _, h1, _ => simpa using h1.length
    | _ :: _, [], _, h2 => simpa using h2.length
    | v :: vs, u :: ws, h1, h2 =>
      obtain ⟨a1, a2⟩ := h1.uncons
      obtain ⟨b1, b2⟩ := h2.uncons
      by_cases e : x = y
      · subst e
        rw [llt, if_pos rfl]
        exact .eq (eqb a1 b1 rfl rfl (by simp [PyData.depth]; omega) (by simp [PyData.eqv])) (lex_ints xs ys vs ws a2 b2 hu)
      · rw [llt, if_neg e]
        refine .ne (eqb a1 b1 rfl rfl (by simp [PyData.depth]; omega) (by simp [PyData.eqv]; omega)) ?_
        obtain ⟨t, rfl⟩ := a1.unint
        obtain ⟨t', rfl⟩ := b1.unint
        have q := LtAt.int (prog := prog) (w := w) (A := A) (s := s) (x : Int) (y : Int) t t'
        have e2 : decide ((x : Int) < (y : Int)) = decide (x < y) := decide_eq_decide.mpr Int.ofNat_lt
        rwa [e2] at q
theorem lex_labs : ∀ (xs ys : List Lab) (vs ws : List Value), RdAll s.heap vs (xs.map fun l => PyData.str l.str) → RdAll s.heap ws (ys.map fun l => PyData.str l.str) → A.units + 5 < cLine → LexAt prog w A s vs ws (llt (xs.map Lab.num) (ys.map Lab.num))
  | [], ys, vs, ws, h1, h2, _ => by
    have : vs = [] := List.length_eq_zero_iff.mp (by simpa using h1.length)
    subst this
    have e : ws.length = (ys.map Lab.num).length := by simpa using h2.length
    rw [List.map_nil, llt, ← e]; exact .endL ws
  | x :: xs, [], vs, ws, h1, h2, _ => by
    have : ws = [] := List.length_eq_zero_iff.mp (by simpa using h2.length)
    subst this
    exact .endR vs
  | x :: xs, y :: ys, vs, ws, h1, h2, hu => by
    match vs, ws, h1, h2 with
    | [], _, h1, _ => simpa using h1.length
    | _ :: _, [], _, h2 => simpa using h2.length
    | v :: vs, u :: ws, h1, h2 =>
      obtain ⟨a1, a2⟩ := h1.uncons
      obtain ⟨b1, b2⟩ := h2.uncons
      have c1 : (PyData.str x.str).canLay0 = true := by rw [PyData.canLay0]; exact strOk_lab x
      have c2 : (PyData.str y.str).canLay0 = true := by rw [PyData.canLay0]; exact strOk_lab y
      rw [List.map_cons, List.map_cons]
      by_cases e : x = y
      · subst e
        rw [llt, if_pos rfl]
        exact .eq (eqb a1 b1 c1 c2 (by simp [PyData.depth]; omega) (by simp [PyData.eqv])) (lex_labs xs ys vs ws a2 b2 hu)
      · rw [llt, if_neg (fun q => e ((num_inj x y).mp q))]
        refine .ne (eqb a1 b1 c1 c2 (by simp [PyData.depth]; omega) (by rw [PyData.eqv, lab_str_inj]; simp [e])) ?_
        obtain ⟨t, rfl⟩ := a1.unstr
        obtain ⟨t', rfl⟩ := b1.unstr
        have q := LtAt.str (prog := prog) (w := w) (A := A) (s := s) x.str y.str t t'
        rwa [num_lt] at q

theorem key_lt {x y : Term} {p q : Value} (hp : Rd s.heap p (keyPy x)) (hq : Rd s.heap q (keyPy y)) (hne : x ≠ y) (hu : A.units + 20 < cLine) : LtAt prog w A s p q (tlt x y) := by
  rw [keyPy_eq] at hp hq
  obtain ⟨a, vs, rfl, ha, hvs⟩ := hp.untuple
  obtain ⟨b, ws, rfl, hb, hws⟩ := hq.untuple
  obtain ⟨v1, v2, v3, rfl⟩ : ∃ v1 v2 v3, vs = [v1, v2, v3] := by
    have := hvs.length
    match vs, this with
    | [v1, v2, v3], _ => exact ⟨v1, v2, v3, rfl⟩
  obtain ⟨w1, w2, w3, rfl⟩ : ∃ v1 v2 v3, ws = [v1, v2, v3] := by
    have := hws.length
    match ws, this with
    | [v1, v2, v3], _ => exact ⟨v1, v2, v3, rfl⟩
  refine LtAt.tup ha hb (by omega) ?_
  obtain ⟨a1, hvs⟩ := hvs.uncons
  obtain ⟨a2, hvs⟩ := hvs.uncons
  obtain ⟨a3, _⟩ := hvs.uncons
  obtain ⟨b1, hws⟩ := hws.uncons
  obtain ⟨b2, hws⟩ := hws.uncons
  obtain ⟨b3, _⟩ := hws.uncons
  have e2 : ∀ T : Term, (T.subs.map Term.lab).map Lab.num = T.labs := fun T => by rw [Term.labs, List.map_map]; rfl
  have hin : A.in1.units = A.units + 1 := rfl
  rw [tlt_eq]
  by_cases h1 : x.subs.length = y.subs.length
  · rw [if_pos h1]
    refine .eq (eqb a1 b1 rfl rfl (by simp [PyData.depth]; omega) (by simp [PyData.eqv, h1])) ?_
    have c1 : ∀ l : List Lab, (PyData.tuple (l.map fun l => .str l.str)).canLay0 = true := fun l => by rw [PyData.canLay0]; exact canAll_labs l
    have c2 : ∀ l : List Nat, (PyData.tuple (l.map fun (n : Nat) => .int n)).canLay0 = true := fun l => by rw [PyData.canLay0]; exact canAll_ints l
    by_cases h2 : x.labs = y.labs
    · rw [if_pos h2]
      refine .eq (eqb a2 b2 (c1 _) (c1 _) (by rw [PyData.depth, depth_labs]; omega) (by rw [PyData.eqv, eqv_labs, e2, e2]; simp [h2])) ?_
      have h3 : x.ars ≠ y.ars := fun h3 => hne ((code_inj x y).mp ((code_split x y).mpr ⟨h1, h2, h3⟩))
      refine .ne (eqb a3 b3 (c2 _) (c2 _) (by rw [PyData.depth, depth_ints]; omega) (by rw [PyData.eqv, eqv_ints]; simp [h3])) ?_
      obtain ⟨c, us, rfl, hc, hus⟩ := a3.untuple
      obtain ⟨c', us', rfl, hc', hus'⟩ := b3.untuple
      exact LtAt.tup hc hc' (by omega) (lex_ints _ _ _ _ hus hus' (by show A.units + 1 + 1 + 5 < _; omega))
    · rw [if_neg h2]
      refine .ne (eqb a2 b2 (c1 _) (c1 _) (by rw [PyData.depth, depth_labs]; omega) (by rw [PyData.eqv, eqv_labs, e2, e2]; simp [h2])) ?_
      obtain ⟨c, us, rfl, hc, hus⟩ := a2.untuple
      obtain ⟨c', us', rfl, hc', hus'⟩ := b2.untuple
      have q := lex_labs (prog := prog) (w := w) (A := A.in1.in1) (s := s) _ _ _ _ hus hus' (by show A.units + 1 + 1 + 5 < _; omega)
      rw [e2, e2] at q
      exact LtAt.tup hc hc' (by omega) q
  · rw [if_neg h1]
    refine .ne (eqb a1 b1 rfl rfl (by simp [PyData.depth]; omega) (by simp [PyData.eqv]; omega)) ?_
    obtain ⟨t, rfl⟩ := a1.unint
    obtain ⟨t', rfl⟩ := b1.unint
    have q := LtAt.int (prog := prog) (w := w) (A := A.in1) (s := s) (x.subs.length : Int) (y.subs.length : Int) t t'
    have e2 : decide ((x.subs.length : Int) < (y.subs.length : Int)) = decide (x.subs.length < y.subs.length) := decide_eq_decide.mpr Int.ofNat_lt
    rwa [e2] at q
end
end Mine
end
section
set_option maxRecDepth 100000
set_option maxHeartbeats 4000000
set_option linter.constructorNameAsVariable false
set_option linter.unusedVariables false
open PySem PySem.W PyProof.Rows PySem.Calls PySem.Spec
namespace Mine
noncomputable def treeAll {α : Type} (P : α → Bool) : KasT α → Bool
  | .ret a => P a
  | .ask i j k => treeAll P (k true) && treeAll P (k false)
theorem tree_all {α : Type} {P : α → Bool} (lt : Nat → Nat → Bool) : ∀ t : KasT α, treeAll P t = true → P (treeRun lt t) = true
  | .ret a, h => h
  | .ask i j k, h => by
    rw [treeAll, Bool.and_eq_true] at h
    rw [treeRun]
    cases lt i j
    · exact tree_all lt _ h.2
    · exact tree_all lt _ h.1
theorem sort_ok : ∀ n, 2 ≤ n → n ≤ 4 → treeOk n (kas_sort n) = true ∧ treeAll (fun p => p.toList.isPerm (List.range n)) (kas_sort n) = true := by
  intro n h1 h2
  match n with
  | 2 => decide +kernel
  | 3 => decide +kernel
  | 4 => decide +kernel
  | 0 => omega
  | 1 => omega
  | n + 5 => omega
noncomputable def dT : Term := .mk .a []
noncomputable def ord (n : Nat) (lt : Nat → Nat → Bool) : List Nat := (treeRun lt (kas_sort n)).toList
noncomputable def sortT (xs : List Term) : List Term := (ord xs.length fun i j => tlt (xs.getD i dT) (xs.getD j dT)).map fun i => xs.getD i dT
theorem ord_perm {n : Nat} (lt : Nat → Nat → Bool) (h1 : 2 ≤ n) (h2 : n ≤ 4) : (ord n lt).Perm (List.range n) := List.isPerm_iff.mp (tree_all lt _ (sort_ok n h1 h2).2)
theorem map_range_getD {α : Type} (xs : List α) (d : α) : (List.range xs.length).map (fun i => xs.getD i d) = xs := by
  apply List.ext_getElem
  · simp
  · intro i h1 h2
    simp at h1
    simp [h1]
theorem sortT_perm {xs : List Term} (h1 : 2 ≤ xs.length) (h2 : xs.length ≤ 4) : (sortT xs).Perm xs := by
  have := (ord_perm (fun i j => tlt (xs.getD i dT) (xs.getD j dT)) h1 h2).map fun i => xs.getD i dT
  rwa [map_range_getD] at this
theorem Tms.pick {h : Heap} {vs : List Value} {xs : List Term} (r : Tms h vs xs) : ∀ is : List Nat, (∀ i ∈ is, i < xs.length) → Tms h (is.map fun i => vs.getD i .none) (is.map fun i => xs.getD i dT)
  | [], _ => RdAll.nil
  | i :: is, hi => by
    have hl := hi i (.head _)
    have hx : xs[i]? = some xs[i] := List.getElem?_eq_getElem hl
    obtain ⟨v, h1, h2⟩ := RdAll.get i r (d := (xs[i]).py) (by rw [Term.pys_eq, List.getElem?_map, hx]; rfl)
    rw [List.map_cons, List.map_cons]
    show RdAll h _ (Term.pys (_ :: _))
    rw [Term.pys]
    refine RdAll.cons ?_ (Tms.pick r is fun j hj => hi j (.tail _ hj))
    have e1 : vs.getD i .none = v := by rw [List.getD_eq_getElem?_getD, h1]; rfl
    have e2 : xs.getD i dT = xs[i] := by rw [List.getD_eq_getElem?_getD, hx]; rfl
    rw [e1, e2]; exact h2

theorem g_in_order (w : World) : nsIn (Kf w) mainGlobals "in_order_of" = some (some (.ref 36)) := by rfl
theorem k_fn36 (w : World) : keepIn (Kf w) (.ref 36) = true := by rfl
noncomputable def pairPy (x : Term) : PyData := .tuple [keyPy x, x.py]

theorem pairs_at {h : Heap} : ∀ {vs : List Value} {xs : List Term}, RdAll h vs (xs.map pairPy) → ∃ fs, fs.length = vs.length ∧ KatTups h vs fs ∧ ∀ v ∈ fs, ∃ (a : Addr) (o : Obj), v = .ref a ∧ h.get? a = some o ∧ IsT o
  | [], [], _ => ⟨[], rfl, KatTups.nil, by simp⟩
  | [], _ :: _, r => absurd r.length (by simp)
  | _ :: _, [], r => absurd r.length (by simp)
  | v :: vs, x :: xs, r => by
    obtain ⟨r1, r2⟩ := RdAll.uncons (by rwa [List.map_cons] at r)
    obtain ⟨fs, h1, h2, h3⟩ := pairs_at r2
    obtain ⟨a, us, rfl, ⟨o, e, c, n, d⟩, hus⟩ := r1.untuple
    obtain ⟨kv, tv, rfl⟩ : ∃ kv tv, us = [kv, tv] := by
      have := hus.length
      match us, this with
      | [kv, tv], _ => exact ⟨kv, tv, rfl⟩
    have hk := hus.uncons.1
    rw [keyPy_eq] at hk
    obtain ⟨a', us', rfl, ⟨o', e', c', n', d'⟩, _⟩ := hk.untuple
    refine ⟨.ref a' :: fs, by simp [h1], KatTups.cons e c d (by simp) h2, fun v hv => ?_⟩
    rcases List.mem_cons.mp hv with rfl | hv
    · exact ⟨a', o', rfl, e', c', _, _, d'⟩
    · exact h3 v hv

section
variable {prog : Program} {w : World} {A : Around} {E : Value → Shared → Prop} {s : Shared}
theorem pair_lt {x y : Term} {p q : Value} {Q : Bool → Shared → Prop} (hp : Rd s.heap p (pairPy x)) (hq : Rd s.heap q (pairPy y)) (hu : A.units + 20 + x.height < cLine) (h : Q (tlt x y) s) : wpAny (model prog w) A (keyLt' (tuples' false) p q) Q E s := by
  obtain ⟨a, us, rfl, ⟨o, e, c, n, d⟩, hus⟩ := hp.untuple
  obtain ⟨b, us', rfl, ⟨o', e', c', n', d'⟩, hus'⟩ := hq.untuple
  obtain ⟨k1, t1, rfl⟩ : ∃ kv tv, us = [kv, tv] := by
    have := hus.length
    match us, this with
    | [kv, tv], _ => exact ⟨kv, tv, rfl⟩
  obtain ⟨k2, t2, rfl⟩ : ∃ kv tv, us' = [kv, tv] := by
    have := hus'.length
    match us', this with
    | [kv, tv], _ => exact ⟨kv, tv, rfl⟩
  obtain ⟨a1, r⟩ := hus.uncons
  obtain ⟨a2, _⟩ := r.uncons
  obtain ⟨b1, r'⟩ := hus'.uncons
  obtain ⟨b2, _⟩ := r'.uncons
  refine kat_lt e d e' d' (kat_cons (eqb a1 b1 (key_can x) (key_can y) (by rw [key_depth]; omega) (eqv_key x y) _ _ ?_))
  by_cases hxy : x = y
  · subst hxy
    rw [decide_eq_true rfl]
    refine kat_yes (kat_cons (eqb a2 b2 x.can x.can (by rw [Term.py_depth]; omega) (Term.eqv x x) _ _ ?_))
    rw [decide_eq_true rfl]
    refine kat_yes (kat_nil ?_)
    rw [tlt_irrefl] at h
    exact h
  · rw [decide_eq_false hxy]
    refine kat_no ?_
    refine kat_one _ _ ?_
    exact key_lt a1 b1 hxy (by omega) _ _ h

theorem in_order_ok {X : List Addr} {l : Addr} {vs : List Value} {xs : List Term} {Q : Value → Shared → Prop} (G : Gx w X s.heap) (hl : s.heap.PlainList l vs.toArray) (ht : Tms s.heap vs xs) (h2 : 2 ≤ xs.length) (h4 : xs.length ≤ 4) (hh : A.handled = none)
    (hd : ∀ x ∈ xs, A.depth + x.height + 5 < recursionLimit) (hu : ∀ x ∈ xs, A.units + 10 * x.height + 300 < cLine) (hsz : ∀ x ∈ xs, x.size ≤ 1000)
    (h : ∀ t s' us, Up s s' → IsTup s'.heap t (List.toArray us) → Tms s'.heap us (sortT xs) → Q (.ref t) s') : wpAny (model prog w) A (call (.ref 36) [.ref l]) Q E s := by
  have hsl : 1000000 ≤ sizeLine := by rw [PySem.sizeLine_eq]; decide
  have hvl : vs.length = xs.length := by rw [ht.length, Term.pys_eq, List.length_map]
  have hx0 : ∃ x, x ∈ xs := by
    match xs, h2 with
    | x :: _, _ => exact ⟨x, .head _⟩
  obtain ⟨x0, hx0⟩ := hx0
  have hd0 := hd x0 hx0
  refine enter (binds := [("terms", .ref l)]) G (by exact rfl) (by exact rfl) (by omega) (by exact rfl) (by decide) (by exact rfl) rfl rfl rfl (fun L s₁ C G₁ => ?_)
  refine wpAny_execs_cons (wpAny_Return_some (callT G₁ (g_tuple w) PyProof.Rows.boot_tuple (by decide) (wpAny_items_cons ?_)))
  refine comp_map (cl := []) hh (by exact rfl) (by decide) (by exact rfl) (by decide) (by intro _; rfl) ?_
  refine callB G₁ (g_sorted w) PyProof.Rows.boot_sorted (by decide) (wpAny_items_cons (comp_map (cl := []) hh (by exact rfl) (by decide) (by exact rfl) (by decide) (by intro _; rfl) (nm C (by exact rfl) ?_)))
  have ht₁ := ht.up C.tr.tup
  refine ⟨vs, _, xs.map pairPy, ⟨⟨l, rfl, .inl (hl.at fun o e => C.tr.le _ _ e).isList⟩, ht₁, by rw [Term.pys_eq]; simp, by omega, ?_⟩, fun D ys s₂ _ u₂ hD hys => wpAny_items_nil ?_⟩
  · intro Cc m sa i u d hi hd' Ca
    rw [Term.pys_eq, List.getElem?_map] at hi
    obtain ⟨x, hx, rfl⟩ := Option.map_eq_some_iff.mp hi
    have hxm : x ∈ xs := List.mem_of_getElem? hx
    have b1 := hd x hxm
    have b2 := hu x hxm
    refine wpAny_assign_Name (st Ca fun sb tb Cb => tupleD (wpAny_items_cons (callN ((G.up C.tr).up Cb.tr) (g_key_of w) (k_fn31 w) (wpAny_items_cons (nm Cb (by exact rfl) (wpAny_items_nil ⟨((G.up C.tr).up Cb.tr).gd.K, ?_⟩))))))
    refine key_of_ok (T := x) ((G.up C.tr).up Cb.tr) (hd'.up tb.tup) hh (by show A.depth + 1 + _ + 3 < _; omega) (by show A.units + 3 + _ + 200 < _; omega) (hsz x hxm) fun r sc uc hr => ?_
    refine wpAny_items_cons (nm (Cb.up uc) (by exact rfl) (wpAny_items_nil ⟨by simp; omega, fun a sd ud _ ha => ?_⟩))
    refine ⟨tb.trans ((uc.to _).trans (ud.to _)), ⟨_, ((Cb.up uc).up ud).ns⟩, pairPy x, by rw [List.getElem?_map, hx]; rfl, ?_⟩
    exact Rd.tuple ha (RdAll.cons (hr.up ud.tup) (RdAll.cons (hd'.up (tb.tup.trans (uc.tup.trans ud.tup))) RdAll.nil))
  · have hyl : ys.length = xs.length := by rw [hys.length, List.length_map]
    have C₂ := C.up u₂
    have tle : ∀ s' : Shared, (∀ b o, b ≠ L → s₂.heap.get? b = some o → s'.heap.get? b = some o) → TLe s₂.heap s'.heap := fun s' k b o e q => k b o (fun r => ns_not_tup C₂.ns o (r ▸ e) q) e
    obtain ⟨fs, f1, f2, f3⟩ := pairs_at hys
    have cut : ∀ (vs fs : List Value) (s' : Shared), TLe s₂.heap s'.heap → KatTups s₂.heap vs fs → KatTups s'.heap vs fs := by
      intro vs
      induction vs with
      | nil => intro fs s' _ h; cases fs with
        | nil => exact h
        | cons => exact h.elim
      | cons v vs ih => intro fs s' k h; cases fs with
        | nil => exact h.elim
        | cons f fs =>
          obtain ⟨⟨a, o, xs, n, e1, e2, e3, e4, e5⟩, h'⟩ := h
          exact ⟨⟨a, o, xs, n, e1, k _ _ e2 ⟨e3, _, _, e4⟩, e3, e4, e5⟩, ih fs s' k h'⟩
    refine sorted_tr (fs := fs) (lt := fun i j => tlt (xs.getD i dT) (xs.getD j dT)) C₂ hD (by omega) (by omega) (by rw [hyl]; exact (sort_ok _ h2 h4).1) (fun s' k => ⟨cut ys fs s' (tle s' k) f2, fun v hv => ?_⟩) f1 (fun s' i j Q' k hi hj q => ?_) fun D₃ s₃ C₃ _ k₃ hD₃ => ?_
    · obtain ⟨a, o, e1, e2, e3⟩ := f3 v hv
      exact ⟨a, o, e1, tle s' k _ _ e2 e3, e3.1⟩
    · have gi : ∀ i, i < ys.length → ∃ x, x ∈ xs ∧ xs.getD i dT = x ∧ Rd s'.heap (ys.getD i .none) (pairPy x) := fun i hi => by
        have hi' : i < xs.length := by omega
        have hx : xs[i]? = some xs[i] := List.getElem?_eq_getElem hi'
        obtain ⟨v, e1, e2⟩ := RdAll.get i hys (d := pairPy xs[i]) (by rw [List.getElem?_map, hx]; rfl)
        refine ⟨xs[i], List.getElem_mem hi', by rw [List.getD_eq_getElem?_getD, hx]; rfl, ?_⟩
        rw [List.getD_eq_getElem?_getD, e1]
        exact e2.up (tle s' k)
      obtain ⟨x, hxm, ex, rx⟩ := gi i hi
      obtain ⟨y, hym, ey, ry⟩ := gi j hj
      have b2 := hu x hxm
      refine pair_lt rx ry (by show A.units + 3 + 1 + 1 + 20 + _ < _; omega) ?_
      have q' : Q' (tlt (xs.getD i dT) (xs.getD j dT)) s' := q
      rwa [ex, ey] at q'
    · have hin : ∀ i ∈ ord xs.length (fun i j => tlt (xs.getD i dT) (xs.getD j dT)), i < xs.length := fun i hi => by
        have := (ord_perm (fun i j => tlt (xs.getD i dT) (xs.getD j dT)) h2 h4).mem_iff.mp hi
        simpa using this
      have hD₃' : s₃.heap.PlainList D₃ ((ord xs.length (fun i j => tlt (xs.getD i dT) (xs.getD j dT))).map fun i => ys.getD i .none).toArray := by rw [hyl] at hD₃; exact hD₃
      have hr₃ : RdAll s₃.heap ((ord xs.length (fun i j => tlt (xs.getD i dT) (xs.getD j dT))).map fun i => ys.getD i .none) ((sortT xs).map pairPy) := by
        unfold sortT
        rw [List.map_map]
        generalize ord xs.length (fun i j => tlt (xs.getD i dT) (xs.getD j dT)) = is at hin
        induction is with
        | nil => exact RdAll.nil
        | cons i is ih =>
          have hi' := hin i (.head _)
          have hx : xs[i]? = some xs[i] := List.getElem?_eq_getElem hi'
          obtain ⟨v, e1, e2⟩ := RdAll.get i hys (d := pairPy xs[i]) (by rw [List.getElem?_map, hx]; rfl)
          rw [List.map_cons, List.map_cons]
          refine RdAll.cons ?_ (ih fun j hj => hin j (.tail _ hj))
          have ea : ys.getD i .none = v := by rw [List.getD_eq_getElem?_getD, e1]; rfl
          have eb : xs.getD i dT = xs[i] := by rw [List.getD_eq_getElem?_getD, hx]; rfl
          show Rd _ _ (pairPy (xs.getD i dT))
          rw [ea, eb]; exact e2.up (tle s₃ k₃)
      have hol : (ord xs.length (fun i j => tlt (xs.getD i dT) (xs.getD j dT))).length = xs.length := by
        rw [(ord_perm _ h2 h4).length_eq, List.length_range]
      refine ⟨_, (sortT xs).map pairPy, (sortT xs).map Term.py, ⟨⟨D₃, rfl, .inl hD₃'.isList⟩, hr₃, by simp, by rw [List.length_map, hol]; omega, ?_⟩, fun D₄ zs s₄ _ u₄ hD₄ hzs => ?_⟩
      · intro Cc m sa i u d hi hd' Ca
        rw [List.getElem?_map] at hi
        obtain ⟨x, hx, rfl⟩ := Option.map_eq_some_iff.mp hi
        obtain ⟨b, ws, rfl, hb, hws⟩ := hd'.untuple
        obtain ⟨pv, tv, rfl⟩ : ∃ pv tv, ws = [pv, tv] := by
          have := hws.length
          match ws, this with
          | [pv, tv], _ => exact ⟨pv, tv, rfl⟩
        refine unpack2 hh hb fun sc uc => wpAny_assign_Name (st (Ca.up uc) fun sd td Cd => wpAny_assign_Name (st Cd fun se te Ce => ?_))
        refine nm Ce (by exact rfl) ⟨(uc.to _).trans (td.trans te), ⟨_, Ce.ns⟩, x.py, by rw [List.getElem?_map, hx]; rfl, hws.uncons.2.uncons.1.up ((uc.tup.trans td.tup).trans te.tup)⟩
      · have hzl : zs.length = xs.length := by rw [hzs.length, List.length_map, sortT, List.length_map, hol]
        refine wpAny_items_nil (tupleOf hh hD₄ (by omega) fun t₅ s₅ u₅ ht₅ => ?_)
        exact h t₅ s₅ zs (((C₃.up u₄).up u₅).tr) ht₅ (by show RdAll _ _ (Term.pys _); rw [Term.pys_eq]; exact hzs.up u₅.tup)
end
end Mine
end
section
set_option maxRecDepth 100000
set_option maxHeartbeats 4000000
set_option linter.constructorNameAsVariable false
set_option linter.unusedVariables false
open PySem PySem.W PyProof.Rows PySem.Calls PySem.Spec
namespace Mine
section
variable {prog : Program} {w : World} {A : Around} {E : Value → Shared → Prop} {s s₀ : Shared} {env : Env} {X : List Addr} {L : Addr} {m : Str → Option Value}

/-- a call of a method of a bag -/
theorem methN {o e : Expr} {name : Str} {f : Addr} {rest : List Expr} {apos pos : Pos} {Q : Value → Shared → Prop}
    (hf : findIn (Kf w) (.ref 131) name = some (some (.ref f))) (ht : typeIn (Kf w) (.ref f) = some (.type "function")) (hk : keepIn (Kf w) (.ref f) = true) (hs : ∀ (hs : Int) (tk : Tok) (l : Addr) (n : Nat), shadowIn (some (dictOf [⟨hs, .str "ops" tk, .ref l⟩] n)) name = some false)
    (h : wpAny (model prog w) A (eval o env) (fun ov s₁ => ∃ b l, ov = .ref b ∧ BagAt s₁.heap b l ∧ Gx w X s₁.heap ∧
      wpAny (model prog w) A (spliced (backTo pos (starEach (e :: rest) env))) (fun vs s₂ => (Kf w).In s₂.heap ∧ wpAny (model prog w) A (call (.ref f) (.ref b :: vs)) Q E s₂) E s₁) E s)
    (pl : Sem Bool) (hpl : eval (.Call (.Attribute o name apos) (e :: rest) [] pos) env = (do
      let ov ← eval o env
      standAt apos.atName
      let (f, first) ← holding [ov] (getMethod ov name pl)
      callWith pos f first (backTo pos (starEach (e :: rest) env)) (backToKw pos (keywordEach [] env))))
    (hst : starEach (e :: rest) env = (false, eval e env) :: starEach rest env) (hplain : (backTo pos (starEach rest env)).any (·.1) = false) :
    wpAny (model prog w) A (eval (.Call (.Attribute o name apos) (e :: rest) [] pos) env) Q E s := by
  refine methodCall_KW (pl := pl) (wpQ h fun ov s₁ h₁ => ?_) hpl
  obtain ⟨b, l, rfl, hb, G, h₁⟩ := h₁
  obtain ⟨dx, hs', tk, n, I⟩ := hb.inst
  refine method_fn G.gd.K I (by exact rfl) (by exact rfl) hf ht (hs _ _ _ _) ?_
  exact callWith_K (h₀ := s₁.heap) G.gd.K hk h₁ hst hplain
end
theorem m_is_bag (w : World) : findIn (Kf w) (.ref 131) "is_bag" = some (some (.ref 57)) := by rfl
theorem m_kids (w : World) : findIn (Kf w) (.ref 131) "kids" = some (some (.ref 62)) := by rfl
theorem m_made (w : World) : findIn (Kf w) (.ref 131) "made" = some (some (.ref 67)) := by rfl
theorem m_normal (w : World) : findIn (Kf w) (.ref 131) "normal" = some (some (.ref 72)) := by rfl
theorem m_like (w : World) : findIn (Kf w) (.ref 131) "are_like" = some (some (.ref 79)) := by rfl
theorem t_57 (w : World) : typeIn (Kf w) (.ref 57) = some (.type "function") := by rfl
theorem t_62 (w : World) : typeIn (Kf w) (.ref 62) = some (.type "function") := by rfl
theorem t_67 (w : World) : typeIn (Kf w) (.ref 67) = some (.type "function") := by rfl
theorem t_72 (w : World) : typeIn (Kf w) (.ref 72) = some (.type "function") := by rfl
theorem t_79 (w : World) : typeIn (Kf w) (.ref 79) = some (.type "function") := by rfl
theorem k_57 (w : World) : keepIn (Kf w) (.ref 57) = true := by rfl
theorem k_62 (w : World) : keepIn (Kf w) (.ref 62) = true := by rfl
theorem k_67 (w : World) : keepIn (Kf w) (.ref 67) = true := by rfl
theorem k_72 (w : World) : keepIn (Kf w) (.ref 72) = true := by rfl
theorem k_79 (w : World) : keepIn (Kf w) (.ref 79) = true := by rfl
theorem sh_is_bag (hs : Int) (tk : Tok) (l : Addr) (n : Nat) : shadowIn (some (dictOf [⟨hs, .str "ops" tk, .ref l⟩] n)) "is_bag" = some false := by rfl
theorem sh_kids (hs : Int) (tk : Tok) (l : Addr) (n : Nat) : shadowIn (some (dictOf [⟨hs, .str "ops" tk, .ref l⟩] n)) "kids" = some false := by rfl
theorem sh_made (hs : Int) (tk : Tok) (l : Addr) (n : Nat) : shadowIn (some (dictOf [⟨hs, .str "ops" tk, .ref l⟩] n)) "made" = some false := by rfl
theorem sh_normal (hs : Int) (tk : Tok) (l : Addr) (n : Nat) : shadowIn (some (dictOf [⟨hs, .str "ops" tk, .ref l⟩] n)) "normal" = some false := by rfl
theorem sh_like (hs : Int) (tk : Tok) (l : Addr) (n : Nat) : shadowIn (some (dictOf [⟨hs, .str "ops" tk, .ref l⟩] n)) "are_like" = some false := by rfl
end Mine
end
section
set_option maxRecDepth 100000
set_option maxHeartbeats 4000000
set_option linter.constructorNameAsVariable false
set_option linter.unusedVariables false
open PySem PySem.W PyProof.Rows PySem.Calls PySem.Spec
namespace Mine
mutual
noncomputable def flat (ops : List Lab) (op : Lab) : Term → List Term
  | .mk l ks => if (l != op || !isBag ops (.mk l ks)) = true then [.mk l ks] else flats ops op ks
noncomputable def flats (ops : List Lab) (op : Lab) : List Term → List Term
  | [] => []
  | x :: xs => flat ops op x ++ flats ops op xs
end
mutual
theorem flat_len (ops : List Lab) (op : Lab) : ∀ T : Term, (flat ops op T).length ≤ T.size
  | .mk l ks => by
    rw [flat, Term.size]
    split
    · simp
    · have := flats_len ops op ks; omega
theorem flats_len (ops : List Lab) (op : Lab) : ∀ ks : List Term, (flats ops op ks).length ≤ Term.sizes ks
  | [] => by simp [flats]
  | x :: xs => by
    rw [flats, Term.sizes, List.length_append]
    have := flat_len ops op x; have := flats_len ops op xs; omega
end
theorem flats_app (ops : List Lab) (op : Lab) : ∀ xs ys : List Term, flats ops op (xs ++ ys) = flats ops op xs ++ flats ops op ys
  | [], ys => by simp [flats]
  | x :: xs, ys => by rw [List.cons_append, flats, flats, flats_app ops op xs ys, List.append_assoc]
theorem Tms.app {h : Heap} {vs ws : List Value} {xs ys : List Term} (a : Tms h vs xs) (b : Tms h ws ys) : Tms h (vs ++ ws) (xs ++ ys) := by
  show RdAll h _ (Term.pys _)
  have := RdAll.append a b
  rwa [Term.pys_eq, Term.pys_eq, ← List.map_append, ← Term.pys_eq] at this
theorem Tms.one {h : Heap} {v : Value} {x : Term} (a : Tm h v x) : Tms h [v] [x] := RdAll.cons a RdAll.nil
theorem Tms.len {h : Heap} {vs : List Value} {xs : List Term} (a : Tms h vs xs) : vs.length = xs.length := by have := a.length; rw [this, Term.pys_eq, List.length_map]
theorem Tms.at {h : Heap} {vs : List Value} {xs : List Term} {i : Nat} {v : Value} (a : Tms h vs xs) (e : vs[i]? = some v) : ∃ x, xs[i]? = some x ∧ Tm h v x := by
  obtain ⟨d, h1, h2⟩ := RdAll.at a e
  rw [Term.pys_eq, List.getElem?_map] at h1
  obtain ⟨x, hx, rfl⟩ := Option.map_eq_some_iff.mp h1
  exact ⟨x, hx, h2⟩

noncomputable def KidsOk (prog : Program) (w : World) (ops : List Lab) (op : Lab) (T : Term) : Prop := ∀ (A : Around) (E : Value → Shared → Prop) (s : Shared) (X : List Addr) (b l : Addr) (v : Value) (tk : Tok) (Q : Value → Shared → Prop), Gx w X s.heap → BagAt s.heap b l → OpsAt s.heap l ops → Tm s.heap v T → A.handled = none →
  A.depth + T.height + 3 < recursionLimit → A.units + 10 * T.height + 300 < cLine → T.size ≤ 1000 →
  (∀ t s' us, Up s s' → IsTup s'.heap t (List.toArray us) → Tms s'.heap us (flat ops op T) → Q (.ref t) s') → wpAny (model prog w) A (call (.ref 62) [.ref b, .str op.str tk, v]) Q E s

theorem kids_step {prog : Program} {w : World} {ops : List Lab} {op : Lab} (l : Lab) (ks : List Term) (IH : ∀ x ∈ ks, KidsOk prog w ops op x) : KidsOk prog w ops op (.mk l ks) := by
  intro A E s X b ol v tk Q G hb ho ht hh hd hu hsz hQ
  have hsl : 1000000 ≤ sizeLine := by rw [PySem.sizeLine_eq]; decide
  have hks : Term.sizes ks + 1 ≤ 1000 := by rw [Term.size] at hsz; exact hsz
  have hkl := Term.len_sizes ks
  refine enterC (binds := [("self", .ref b), ("op", .str op.str tk), ("t", v)]) G (by exact rfl) (by exact rfl) (by omega) (by exact rfl) (by exact rfl) rfl rfl rfl (fun L s₁ C Y hfresh G₁ => ?_)
  replace C : Cx [] s L (fun y => if y = "t" then some v else none) s₁ := C
  have hcs : s₁.heap.IsCell (L + 1) (some (.ref b)) := Y.cell "self" (L + 1) (by exact rfl)
  have hco : s₁.heap.IsCell (L + 2) (some (.str op.str tk)) := Y.cell "op" (L + 2) (by exact rfl)
  clear hfresh Y
  have upc : ∀ {h h' : Heap} {c : Addr} {v : Option Value}, h.IsCell c v → Le h h' → h'.IsCell c v := fun x k => let ⟨o, e, d⟩ := x; ⟨o, k _ _ e, d⟩
  obtain ⟨a, tl, kvs, rfl, hT, hkv⟩ := Tm.open ht
  have hkvl := Tms.len hkv
  have hfl : flat ops op (.mk l ks) = if (l != op || !isBag ops (.mk l ks)) = true then [.mk l ks] else flats ops op ks := by rw [flat]
  have ene : (l.str != op.str) = (l != op) := by
    have := lab_str_inj l op
    have e1 : (l.str != op.str) = !(l.str == op.str) := rfl
    rw [e1, this]
    by_cases h : l = op <;> simp [h]
  refine wpAny_execs_cons (wpAny_If (wpQ (Q' := fun bb s' => bb = (l != op || !isBag ops (.mk l ks)) ∧ Cx [] s L (fun y => if y = "t" then some (.ref a) else none) s' ∧ Up s₁ s') (isTrue_or (wpAny_isTrue_Compare1 (tidx (nm C (by exact rfl) (ci fun tk₂ s₂ u₂ => ?_))))) fun bb s₃ h₃ => ?_))
  · have C₂ := C.up u₂
    refine ⟨a, _, 0, tk₂, _, rfl, rfl, hT.keeps C₂.tr.le, rfl, by simp; omega, nmC (upc hco u₂.le) (ne_str ?_) (by exact rfl) (by exact rfl) (by exact rfl)⟩
    refine wpAny_truthy_bool ?_
    rw [ene]
    cases hlo : l != op with
    | true => exact ⟨rfl, C₂, u₂⟩
    | false =>
      simp only [Bool.false_eq_true, if_false]
      refine isTrue_or (isTrue_not (isTrue_plain (methN (m_is_bag w) (t_57 w) (k_57 w) sh_is_bag (nmC (upc hcs u₂.le) ⟨b, ol, rfl, hb.up C₂.tr.le, G.up C₂.tr, wpAny_items_cons (nm C₂ (by exact rfl) (wpAny_items_nil ⟨(G.up C₂.tr).gd.K, ?_⟩))⟩ (by exact rfl) (by exact rfl) (by exact rfl)) _ (by exact rfl) (by exact rfl) (by exact rfl))))
      refine is_bag_ok (T := .mk l ks) (G.up C₂.tr) (hb.up C₂.tr.le) (ho.up C₂.tr.le) (ht.up C₂.tr.tup) (by show A.depth + 1 + 1 < _; omega) (by show A.units + 3 + 100 < _; omega) (by rw [Term.kids]; omega) fun s₄ u₄ => wpAny_truthy_bool ?_
      cases hib : isBag ops (.mk l ks) with
      | true => exact isTrue_or_nil ⟨rfl, C₂.up u₄, u₂.trans u₄⟩
      | false => exact ⟨rfl, C₂.up u₄, u₂.trans u₄⟩
  obtain ⟨rfl, C₃, u₃⟩ := h₃
  by_cases hc : (l != op || !isBag ops (.mk l ks)) = true
  · rw [if_pos hc] at hfl ⊢
    refine wpAny_execs_cons (wpAny_Return_some (tupleD (wpAny_items_cons (nm C₃ (by exact rfl) (wpAny_items_nil ⟨by simp; omega, fun t s₄ u₄ _ ht₄ => ?_⟩)))))
    refine hQ t s₄ _ (C₃.up u₄).tr ht₄ ?_
    rw [hfl]
    exact Tms.one (ht.up (C₃.up u₄).tr.tup)
  · rw [if_neg hc] at hfl ⊢
    refine wpAny_execs_nil ?_
    refine wpAny_execs_cons (wpAny_Return_some (callT (G.up C₃.tr) (g_tuple w) PyProof.Rows.boot_tuple (by decide) (wpAny_items_cons ?_)))
    refine comp2 (cl := [("self", L + 1), ("op", L + 2)]) hh (by exact rfl) (by decide) (by exact rfl) (by decide) (by intro _; rfl) (by exact rfl) (by decide) (by intro _ _; rfl) ?_
    refine tslice (nm C₃ (by exact rfl) (evp_some (ci fun tk₄ s₄ u₄ => evp_none ?_)))
    have C₄ := C₃.up u₄
    refine ⟨a, _, some 1, none, rfl, hT.keeps C₄.tr.le, ⟨tk₄, rfl⟩, rfl, by simp, by simp, by simp; omega, fun tt s₅ u₅ htt => ?_⟩
    have htt' : IsTup s₅.heap tt kvs.toArray := by
      have e : ((Value.str l.str tl :: kvs).drop ((some 1).getD 0)).take (((none : Option Nat).getD (Value.str l.str tl :: kvs).length) - (some 1).getD 0) = kvs := by simp
      rw [e] at htt; exact htt
    have C₅ := C₄.up u₅
    have hkv₅ : Tms s₅.heap kvs ks := hkv.up C₅.tr.tup
    have u15 := (u₃.trans u₄).trans u₅
    have hcs₅ := upc hcs u15.le
    have hco₅ := upc hco u15.le
    refine ⟨fun i ys s' => Tms s'.heap ys (flats ops op (ks.take i)), kvs.toArray, ⟨⟨tt, rfl, .inr htt'⟩, fun _ _ _ _ _ t f => f.up t.tup, (by show Tms _ [] (flats ops op (List.take 0 ks)); rw [List.take_zero, flats]; exact RdAll.nil), ?_⟩, fun D ys s₆ _ u₆ hD hys => wpAny_items_nil (tupleOf hh hD ?_ fun t₇ s₇ u₇ ht₇ => ?_)⟩
    · intro Cc hCc i v ys sa ma hi ta na fa
      have hi' : kvs[i]? = some v := by simpa using hi
      obtain ⟨x, hx, hxv⟩ := Tms.at hkv₅ hi'
      have hxm : x ∈ ks := List.mem_of_getElem? hx
      have hh1 := Term.height_mem ks _ hxm
      have hs1 := Term.size_mem ks _ hxm
      have hgt : (Term.mk l ks).height = Term.heights ks + 1 := by rw [Term.height]
      have Ca : Cx [] s₅ Cc ma sa := ⟨ta, na, hCc⟩
      refine wpAny_assign_Name (st Ca fun sb tb Cb => ?_)
      have lb : Le s₅.heap sb.heap := Cb.tr.le
      have Gb := (G.up C₅.tr).up Cb.tr
      refine methN (m_kids w) (t_62 w) (k_62 w) sh_kids (nmC (upc hcs₅ lb) ⟨b, ol, rfl, (hb.up C₅.tr.le).up lb, Gb, wpAny_items_cons (nmC (upc hco₅ lb) (wpAny_items_cons (nm Cb (by exact rfl) (wpAny_items_nil ⟨Gb.gd.K, ?_⟩))) (by exact rfl) (by exact rfl) (by exact rfl))⟩ (by exact rfl) (by exact rfl) (by exact rfl)) _ (by exact rfl) (by exact rfl) (by exact rfl)
      refine IH x hxm _ _ sb X b ol v tk _ Gb ((hb.up C₅.tr.le).up lb) ((ho.up C₅.tr.le).up lb) (hxv.up (ta.tup.trans tb.tup)) hh (by show A.depth + 1 + _ + 3 < _; omega) (by show A.units + 3 + _ + 300 < _; omega) (by omega) fun t sc us uc ht' hus => ?_
      have htak : Term.sizes (ks.take (i + 1)) ≤ Term.sizes ks := by
        have := Term.sizes_app (ks.take (i + 1)) (ks.drop (i + 1))
        rw [List.take_append_drop] at this; omega
      have hnew : Tms sc.heap (ys ++ us) (flats ops op (ks.take (i + 1))) := by
        rw [take_succ_map id _ _ _ hx, flats_app, flats, flats, List.append_nil]
        exact Tms.app (fa.up (tb.tup.trans uc.tup)) hus
      refine ⟨t, us, rfl, ht', ?_, ⟨tb.trans (uc.to _), ⟨_, (Cb.up uc).ns⟩, hnew⟩⟩
      rw [hnew.len]
      have := flats_len ops op (ks.take (i + 1)); omega
    · have := Tms.len hys
      rw [this]
      have := flats_len ops op (ks.take kvs.toArray.size)
      have htak : Term.sizes (ks.take kvs.toArray.size) ≤ Term.sizes ks := by
        have := Term.sizes_app (ks.take kvs.toArray.size) (ks.drop kvs.toArray.size)
        rw [List.take_append_drop] at this; omega
      omega
    · refine hQ t₇ s₇ ys ((C₅.up u₆).up u₇).tr ht₇ ?_
      rw [hfl]
      have := hys.up u₇.tup
      rwa [List.size_toArray, hkvl, List.take_length] at this

theorem kids_all {prog : Program} {w : World} {ops : List Lab} {op : Lab} : ∀ (n : Nat) (T : Term), T.height ≤ n → KidsOk prog w ops op T
  | 0, .mk l ks, h => by rw [Term.height] at h; omega
  | n + 1, .mk l ks, h => kids_step l ks fun x hx => kids_all n x (by have := Term.height_mem ks x hx; rw [Term.height] at h; omega)
theorem kids_ok {prog : Program} {w : World} {ops : List Lab} {op : Lab} (T : Term) : KidsOk prog w ops op T := kids_all _ T (Nat.le_refl _)
end Mine
end
section
set_option maxRecDepth 100000
set_option maxHeartbeats 4000000
set_option linter.constructorNameAsVariable false
set_option linter.unusedVariables false
open PySem PySem.W PyProof.Rows PySem.Calls PySem.Spec
namespace Mine
mutual
noncomputable def Term.lv : Term → Nat
  | .mk l ks => max 1 (Term.lvs ks)
noncomputable def Term.lvs : List Term → Nat
  | [] => 0
  | x :: xs => Term.lv x + Term.lvs xs
end
mutual
noncomputable def fit : Term → Prop
  | .mk l ks => ((l = .p ∨ l = .s) → Term.lvs ks ≤ 4) ∧ fits ks
noncomputable def fits : List Term → Prop
  | [] => True
  | x :: xs => fit x ∧ fits xs
end
theorem fits_iff : ∀ xs : List Term, fits xs ↔ ∀ x ∈ xs, fit x
  | [] => by simp [fits]
  | x :: xs => by simp [fits, fits_iff xs]
theorem Term.lv_pos : ∀ T : Term, 1 ≤ T.lv
  | .mk _ _ => by rw [Term.lv]; omega
theorem Term.len_lvs : ∀ xs : List Term, xs.length ≤ Term.lvs xs
  | [] => Nat.zero_le _
  | x :: xs => by have := Term.lv_pos x; have := Term.len_lvs xs; rw [List.length_cons, Term.lvs]; omega
theorem Term.lvs_app : ∀ xs ys : List Term, Term.lvs (xs ++ ys) = Term.lvs xs + Term.lvs ys
  | [], ys => by simp [Term.lvs]
  | x :: xs, ys => by rw [List.cons_append, Term.lvs, Term.lvs, Term.lvs_app xs ys]; omega
theorem Term.heights_app : ∀ xs ys : List Term, Term.heights (xs ++ ys) = max (Term.heights xs) (Term.heights ys)
  | [], ys => by simp [Term.heights]
  | x :: xs, ys => by rw [List.cons_append, Term.heights, Term.heights, Term.heights_app xs ys]; omega
theorem lvs_perm {xs ys : List Term} (h : xs.Perm ys) : Term.lvs xs = Term.lvs ys := by
  induction h with
  | nil => rfl
  | cons x _ ih => rw [Term.lvs, Term.lvs, ih]
  | swap x y l => simp only [Term.lvs]; omega
  | trans _ _ a b => rw [a, b]
theorem sizes_perm {xs ys : List Term} (h : xs.Perm ys) : Term.sizes xs = Term.sizes ys := by
  induction h with
  | nil => rfl
  | cons x _ ih => rw [Term.sizes, Term.sizes, ih]
  | swap x y l => simp only [Term.sizes]; omega
  | trans _ _ a b => rw [a, b]
theorem heights_perm {xs ys : List Term} (h : xs.Perm ys) : Term.heights xs = Term.heights ys := by
  induction h with
  | nil => rfl
  | cons x _ ih => rw [Term.heights, Term.heights, ih]
  | swap x y l => simp only [Term.heights]; omega
  | trans _ _ a b => rw [a, b]
theorem fits_perm {xs ys : List Term} (h : xs.Perm ys) : fits xs ↔ fits ys := by
  rw [fits_iff, fits_iff]
  exact ⟨fun a x hx => a x (h.mem_iff.mpr hx), fun a x hx => a x (h.mem_iff.mp hx)⟩

theorem isBag_two {ops : List Lab} {l : Lab} {ks : List Term} (h : isBag ops (.mk l ks) = true) : l ∈ ops ∧ 2 ≤ ks.length := by
  unfold isBag at h
  rw [Bool.and_eq_true, decide_eq_true_eq] at h
  exact ⟨by simpa [Term.lab] using h.1, h.2⟩

mutual
theorem flat_facts (ops : List Lab) (op : Lab) : ∀ T : Term, 1 ≤ (flat ops op T).length ∧ Term.lvs (flat ops op T) = T.lv ∧ Term.sizes (flat ops op T) ≤ T.size ∧ Term.heights (flat ops op T) ≤ T.height
  | .mk l ks => by
    rw [flat]
    split
    · simp [Term.lvs, Term.sizes, Term.heights]
    · rename_i h
      simp only [Bool.or_eq_true, not_or, Bool.not_eq_true, Bool.not_eq_false'] at h
      have h2 := (isBag_two h.2).2
      obtain ⟨a, b, c, d⟩ := flats_facts ops op ks
      have := Term.len_lvs ks
      refine ⟨by omega, ?_, ?_, ?_⟩
      · rw [b, Term.lv]; omega
      · rw [Term.size]; omega
      · rw [Term.height]; omega
theorem flats_facts (ops : List Lab) (op : Lab) : ∀ ks : List Term, ks.length ≤ (flats ops op ks).length ∧ Term.lvs (flats ops op ks) = Term.lvs ks ∧ Term.sizes (flats ops op ks) ≤ Term.sizes ks ∧ Term.heights (flats ops op ks) ≤ Term.heights ks
  | [] => by simp [flats]
  | x :: xs => by
    obtain ⟨a, b, c, d⟩ := flat_facts ops op x
    obtain ⟨a', b', c', d'⟩ := flats_facts ops op xs
    rw [flats]
    refine ⟨by rw [List.length_append, List.length_cons]; omega, ?_, ?_, ?_⟩
    · rw [Term.lvs_app, Term.lvs, b, b']
    · rw [Term.sizes_app, Term.sizes]; omega
    · rw [Term.heights_app, Term.heights]; omega
end

mutual
noncomputable def nf (ops : List Lab) : Term → Term
  | .mk l ks => if isBag ops (.mk l ks) = true then .mk l (sortT (flats ops l (nfs ops ks))) else .mk l (nfs ops ks)
noncomputable def nfs (ops : List Lab) : List Term → List Term
  | [] => []
  | x :: xs => nf ops x :: nfs ops xs
end
theorem nfs_eq (ops : List Lab) : ∀ ks : List Term, nfs ops ks = ks.map (nf ops)
  | [] => rfl
  | x :: xs => by rw [nfs, nfs_eq ops xs, List.map_cons]
theorem nfs_len (ops : List Lab) (ks : List Term) : (nfs ops ks).length = ks.length := by rw [nfs_eq, List.length_map]

noncomputable def PS (ops : List Lab) : Prop := ∀ l ∈ ops, l = .p ∨ l = .s

theorem bag_facts {ops : List Lab} (hp : PS ops) (l : Lab) (ks : List Term) (h4 : (l = .p ∨ l = .s) → Term.lvs ks ≤ 4) (a : Term.lvs (nfs ops ks) = Term.lvs ks) (h : isBag ops (.mk l ks) = true) : 2 ≤ (flats ops l (nfs ops ks)).length ∧ (flats ops l (nfs ops ks)).length ≤ 4 := by
  obtain ⟨hm, h2⟩ := isBag_two h
  obtain ⟨f1, f2, f3, f4⟩ := flats_facts ops l (nfs ops ks)
  have := h4 (hp l hm)
  have := Term.len_lvs (flats ops l (nfs ops ks))
  rw [nfs_len] at f1
  omega

mutual
theorem nf_facts {ops : List Lab} (hp : PS ops) : ∀ T : Term, fit T → (nf ops T).lv = T.lv ∧ (nf ops T).size ≤ T.size ∧ (nf ops T).height ≤ T.height
  | .mk l ks, hf => by
    rw [fit] at hf
    obtain ⟨a, b, c⟩ := nfs_facts hp ks hf.2
    rw [nf]
    split
    · rename_i h
      obtain ⟨q1, q2⟩ := bag_facts hp l ks hf.1 a h
      obtain ⟨f1, f2, f3, f4⟩ := flats_facts ops l (nfs ops ks)
      have hs := sortT_perm q1 q2
      refine ⟨?_, ?_, ?_⟩
      · rw [Term.lv, Term.lv, lvs_perm hs, f2, a]
      · rw [Term.size, Term.size, sizes_perm hs]; omega
      · rw [Term.height, Term.height, heights_perm hs]; omega
    · refine ⟨?_, ?_, ?_⟩
      · rw [Term.lv, Term.lv, a]
      · rw [Term.size, Term.size]; omega
      · rw [Term.height, Term.height]; omega
theorem nfs_facts {ops : List Lab} (hp : PS ops) : ∀ ks : List Term, fits ks → Term.lvs (nfs ops ks) = Term.lvs ks ∧ Term.sizes (nfs ops ks) ≤ Term.sizes ks ∧ Term.heights (nfs ops ks) ≤ Term.heights ks
  | [], _ => by simp [nfs]
  | x :: xs, hf => by
    rw [fits] at hf
    obtain ⟨a, b, c⟩ := nf_facts hp x hf.1
    obtain ⟨a', b', c'⟩ := nfs_facts hp xs hf.2
    rw [nfs]
    refine ⟨?_, ?_, ?_⟩
    · rw [Term.lvs, Term.lvs, a, a']
    · rw [Term.sizes, Term.sizes]; omega
    · rw [Term.heights, Term.heights]; omega
end
end Mine
end
section
set_option maxRecDepth 100000
set_option maxHeartbeats 4000000
set_option linter.constructorNameAsVariable false
set_option linter.unusedVariables false
open PySem PySem.W PyProof.Rows PySem.Calls PySem.Spec
namespace Mine
theorem IsCell.up {h h' : Heap} {c : Addr} {v : Option Value} (x : h.IsCell c v) (k : Le h h') : h'.IsCell c v := let ⟨o, e, d⟩ := x; ⟨o, k _ _ e, d⟩
theorem IsCell.tr {s s' : Shared} {c : Addr} {v : Option Value} {W : List Addr} (x : s.heap.IsCell c v) (k : Tr W s s') (h : c ∉ W) : s'.heap.IsCell c v := let ⟨o, e, d⟩ := x; ⟨o, k.keep _ _ h e, d⟩

section
variable {prog : Program} {w : World} {A : Around} {E : Value → Shared → Prop} {s : Shared}
theorem made_ok {X : List Addr} {b ol sl : Addr} {vs : List Value} {xs : List Term} {ops : List Lab} {op : Lab} {tk : Tok} {H : Nat} {Q : Value → Shared → Prop} (G : Gx w X s.heap) (hb : BagAt s.heap b ol) (ho : OpsAt s.heap ol ops)
    (hl : s.heap.PlainList sl vs.toArray) (ht : Tms s.heap vs xs) (h2 : 2 ≤ (flats ops op xs).length) (h4 : (flats ops op xs).length ≤ 4) (hh : A.handled = none) (hH : Term.heights xs ≤ H)
    (hd : A.depth + H + 6 < recursionLimit) (hu : A.units + 10 * H + 400 < cLine) (hsz : Term.sizes xs ≤ 1000)
    (h : ∀ v s', Up s s' → Tm s'.heap v (.mk op (sortT (flats ops op xs))) → Q v s') : wpAny (model prog w) A (call (.ref 67) [.ref b, .str op.str tk, .ref sl]) Q E s := by
  have hsl : 1000000 ≤ sizeLine := by rw [PySem.sizeLine_eq]; decide
  refine enterC (binds := [("self", .ref b), ("op", .str op.str tk), ("some", .ref sl)]) G (by exact rfl) (by exact rfl) (by omega) (by exact rfl) (by exact rfl) rfl rfl rfl (fun L s₁ C Y hfresh G₁ => ?_)
  replace C : Cx [] s L (fun y => if y = "some" then some (.ref sl) else none) s₁ := C
  have hcs : s₁.heap.IsCell (L + 1) (some (.ref b)) := Y.cell "self" (L + 1) (by exact rfl)
  have hco : s₁.heap.IsCell (L + 2) (some (.str op.str tk)) := Y.cell "op" (L + 2) (by exact rfl)
  clear hfresh Y
  have hvl := Tms.len ht
  have hxl := Term.len_sizes xs
  refine wpAny_execs_cons (wpAny_Assign_Name (callN G₁ (g_in_order w) (k_fn36 w) (wpAny_items_cons ?_)))
  refine comp2 (cl := [("self", L + 1), ("op", L + 2)]) hh (by exact rfl) (by decide) (by exact rfl) (by decide) (by intro _; rfl) (by exact rfl) (by decide) (by intro _ _; rfl) ?_
  refine nm C (by exact rfl) ?_
  have ht₁ := ht.up C.tr.tup
  obtain ⟨g1, g2, g3, g4⟩ := flats_facts ops op xs
  refine ⟨fun i ys s' => Tms s'.heap ys (flats ops op (xs.take i)), vs.toArray, ⟨⟨sl, rfl, .inl (hl.at fun o e => C.tr.le _ _ e).isList⟩, fun _ _ _ _ _ t f => f.up t.tup, (by show Tms _ [] (flats ops op (List.take 0 xs)); rw [List.take_zero, flats]; exact RdAll.nil), ?_⟩, fun D ys s₂ _ u₂ hD hys => wpAny_items_nil ⟨(G.up (C.up u₂).tr).gd.K, ?_⟩⟩
  · intro Cc hCc i v ys sa ma hi ta na fa
    have hi' : vs[i]? = some v := by simpa using hi
    obtain ⟨x, hx, hxv⟩ := Tms.at ht₁ hi'
    have hxm : x ∈ xs := List.mem_of_getElem? hx
    have hh1 := Term.height_mem xs _ hxm
    have hs1 := Term.size_mem xs _ hxm
    have Ca : Cx [] s₁ Cc ma sa := ⟨ta, na, hCc⟩
    refine wpAny_assign_Name (st Ca fun sb tb Cb => ?_)
    have lb : Le s₁.heap sb.heap := Cb.tr.le
    have Gb := (G.up C.tr).up Cb.tr
    refine methN (m_kids w) (t_62 w) (k_62 w) sh_kids (nmC (IsCell.up hcs lb) ⟨b, ol, rfl, (hb.up C.tr.le).up lb, Gb, wpAny_items_cons (nmC (IsCell.up hco lb) (wpAny_items_cons (nm Cb (by exact rfl) (wpAny_items_nil ⟨Gb.gd.K, ?_⟩))) (by exact rfl) (by exact rfl) (by exact rfl))⟩ (by exact rfl) (by exact rfl) (by exact rfl)) _ (by exact rfl) (by exact rfl) (by exact rfl)
    refine kids_ok x _ _ sb X b ol v tk _ Gb ((hb.up C.tr.le).up lb) ((ho.up C.tr.le).up lb) (hxv.up (ta.tup.trans tb.tup)) hh (by show A.depth + 1 + _ + 3 < _; omega) (by show A.units + 3 + _ + 300 < _; omega) (by omega) fun t sc us uc ht' hus => ?_
    have hnew : Tms sc.heap (ys ++ us) (flats ops op (xs.take (i + 1))) := by
      rw [take_succ_map id _ _ _ hx, flats_app, flats, flats, List.append_nil]
      exact Tms.app (fa.up (tb.tup.trans uc.tup)) hus
    refine ⟨t, us, rfl, ht', ?_, ⟨tb.trans (uc.to _), ⟨_, (Cb.up uc).ns⟩, hnew⟩⟩
    rw [hnew.len]
    have q1 := flats_len ops op (xs.take (i + 1))
    have q2 := Term.sizes_app (xs.take (i + 1)) (xs.drop (i + 1))
    rw [List.take_append_drop] at q2; omega
  · replace hys : Tms s₂.heap ys (flats ops op xs) := by
      have := hys
      rwa [List.size_toArray, hvl, List.take_length] at this
    have C₂ := C.up u₂
    have mem_h : ∀ x ∈ flats ops op xs, x.height ≤ H := fun x hx => by have := Term.height_mem _ x hx; omega
    have mem_s : ∀ x ∈ flats ops op xs, x.size ≤ 1000 := fun x hx => by have := Term.size_mem _ x hx; omega
    refine in_order_ok (X := X) (G.up C₂.tr) hD hys h2 h4 hh (fun x hx => by have := mem_h x hx; show A.depth + 1 + _ + 5 < _; omega) (fun x hx => by have := mem_h x hx; show A.units + 3 + _ + 300 < _; omega) mem_s fun t s₃ us u₃ ht₃ hus => ?_
    refine st (C₂.up u₃) fun s₄ t₄ C₄ => ?_
    have ht₄ : IsTup s₄.heap t us.toArray := IsTup.tle ht₃ t₄.tup
    have hus₄ : Tms s₄.heap us (sortT (flats ops op xs)) := hus.up t₄.tup
    have hul : us.length = (flats ops op xs).length := by rw [hus.len, (sortT_perm h2 h4).length_eq]
    refine wpAny_execs_cons (wpAny_Return_some (wpAny_IfExp (wpAny_isTrue_Compare1 (callB (G.up C₄.tr) (g_len w) boot_len (by decide) (wpAny_items_cons (nm C₄ (by exact rfl) (wpAny_items_nil (len_t ht₄ (by omega) fun tk₅ s₅ u₅ => ?_))))))))
    refine ci fun tk₆ s₆ u₆ => eq_int (wpAny_truthy_bool ?_)
    have e1 : (((us.length : Nat) : Int) == 1) = false := by
      have : ¬ ((us.length : Nat) : Int) = 1 := by omega
      simpa using this
    rw [e1]
    simp only [Bool.false_eq_true, if_false]
    have C₆ := (C₄.up u₅).up u₆
    have hco₆ : s₆.heap.IsCell (L + 2) (some (.str op.str tk)) := IsCell.up (IsCell.tr (IsCell.up hco (u₂.le.trans u₃.le)) t₄ (by simp)) (u₅.le.trans u₆.le)
    refine wpAny_BinOp (tupleD (wpAny_items_cons (nmC hco₆ (wpAny_items_nil ⟨by simp; omega, fun t1 s₇ u₇ _ ht1 => ?_⟩) (by exact rfl) (by exact rfl) (by exact rfl))))
    refine nm (C₆.up u₇) (by exact rfl) (tadd ht1 (IsTup.tle ht₄ ((u₅.tup.trans u₆.tup).trans u₇.tup)) (by simp; omega) fun r s₈ u₈ hr => ?_)
    refine h (.ref r) s₈ ((C₆.up u₇).up u₈).tr ?_
    exact Tm.close hr (hus₄.up (((u₅.tup.trans u₆.tup).trans u₇.tup).trans u₈.tup))
end
end Mine
end
section
set_option maxRecDepth 100000
set_option maxHeartbeats 4000000
set_option linter.constructorNameAsVariable false
set_option linter.unusedVariables false
open PySem PySem.W PyProof.Rows PySem.Calls PySem.Spec
namespace Mine

noncomputable def NormOk (prog : Program) (w : World) (ops : List Lab) (T : Term) : Prop := ∀ (A : Around) (E : Value → Shared → Prop) (s : Shared) (X : List Addr) (b l : Addr) (v : Value) (Q : Value → Shared → Prop), Gx w X s.heap → BagAt s.heap b l → OpsAt s.heap l ops → Tm s.heap v T → A.handled = none →
  A.depth + T.height + 8 < recursionLimit → A.units + 10 * T.height + 500 < cLine → T.size ≤ 1000 → fit T → PS ops →
  (∀ r s', Up s s' → Tm s'.heap r (nf ops T) → Q r s') → wpAny (model prog w) A (call (.ref 72) [.ref b, v]) Q E s

theorem norm_step {prog : Program} {w : World} {ops : List Lab} (l : Lab) (ks : List Term) (IH : ∀ x ∈ ks, NormOk prog w ops x) : NormOk prog w ops (.mk l ks) := by
  intro A E s X b ol v Q G hb ho ht hh hd hu hsz hfit hps hQ
  have hsl : 1000000 ≤ sizeLine := by rw [PySem.sizeLine_eq]; decide
  have hks : Term.sizes ks + 1 ≤ 1000 := by rw [Term.size] at hsz; exact hsz
  have hkl := Term.len_sizes ks
  have hgt : (Term.mk l ks).height = Term.heights ks + 1 := by rw [Term.height]
  rw [fit] at hfit
  refine enterC (binds := [("self", .ref b), ("t", v)]) G (by exact rfl) (by exact rfl) (by omega) (by exact rfl) (by exact rfl) rfl rfl rfl (fun L s₁ C Y hfresh G₁ => ?_)
  replace C : Cx [] s L (fun y => if y = "t" then some v else none) s₁ := C
  have hcs : s₁.heap.IsCell (L + 1) (some (.ref b)) := Y.cell "self" (L + 1) (by exact rfl)
  clear hfresh Y
  obtain ⟨a, tl, kvs, rfl, hT, hkv⟩ := Tm.open ht
  have hkvl := Tms.len hkv
  refine wpAny_execs_cons (comp_mapA C (cl := [("self", L + 1)]) hh (by exact rfl) (by exact rfl) (by decide) (by exact rfl) (by decide) (by intro _; rfl) (by exact rfl) (by exact rfl) (by exact rfl) ?_)
  refine tslice (nm C (by exact rfl) (evp_some (ci fun tk₂ s₂ u₂ => evp_none ?_)))
  have C₂ := C.up u₂
  refine ⟨a, _, some 1, none, rfl, hT.keeps C₂.tr.le, ⟨tk₂, rfl⟩, rfl, by simp, by simp, by simp; omega, fun tt s₃ u₃ htt => ?_⟩
  have htt' : IsTup s₃.heap tt kvs.toArray := by
    have e : ((Value.str l.str tl :: kvs).drop ((some 1).getD 0)).take (((none : Option Nat).getD (Value.str l.str tl :: kvs).length) - (some 1).getD 0) = kvs := by simp
    rw [e] at htt; exact htt
  have C₃ := C₂.up u₃
  have u13 := u₂.trans u₃
  refine ⟨kvs, Term.pys ks, Term.pys (nfs ops ks), ⟨⟨tt, rfl, .inr htt'⟩, hkv.up C₃.tr.tup, by rw [Term.pys_eq, Term.pys_eq, List.length_map, List.length_map, nfs_len], by omega, ?_⟩, C₃, fun D ys s₄ _ t₄ C₄ hD hys => ?_⟩
  · intro Cc m sa i u d hi hd' Ca
    rw [Term.pys_eq, List.getElem?_map] at hi
    obtain ⟨x, hx, rfl⟩ := Option.map_eq_some_iff.mp hi
    have hxm : x ∈ ks := List.mem_of_getElem? hx
    have hh1 := Term.height_mem ks _ hxm
    have hs1 := Term.size_mem ks _ hxm
    refine wpAny_assign_Name (st Ca fun sb tb Cb => ?_)
    have lb : Le s₃.heap sb.heap := Cb.tr.le
    have Gb := (G.up C₃.tr).up Cb.tr
    refine methN (m_normal w) (t_72 w) (k_72 w) sh_normal (nmC (IsCell.up (IsCell.up hcs u13.le) lb) ⟨b, ol, rfl, (hb.up C₃.tr.le).up lb, Gb, wpAny_items_cons (nm Cb (by exact rfl) (wpAny_items_nil ⟨Gb.gd.K, ?_⟩))⟩ (by exact rfl) (by exact rfl) (by exact rfl)) _ (by exact rfl) (by exact rfl) (by exact rfl)
    refine IH x hxm _ _ sb X b ol u _ Gb ((hb.up C₃.tr.le).up lb) ((ho.up C₃.tr.le).up lb) (hd'.up tb.tup) hh (by show A.depth + 1 + _ + 8 < _; omega) (by show A.units + 3 + _ + 500 < _; omega) (by omega) ((fits_iff ks).mp hfit.2 x hxm) hps fun r sc uc hr => ?_
    exact ⟨tb.trans (uc.to _), ⟨_, (Cb.up uc).ns⟩, (nf ops x).py, by rw [Term.pys_eq, nfs_eq, List.map_map, List.getElem?_map, hx]; rfl, hr⟩
  · have G₄ := G.up C₄.tr
    have hcs₄ : s₄.heap.IsCell (L + 1) (some (.ref b)) := IsCell.tr (IsCell.up hcs u13.le) t₄ (by simp)
    have hb₄ := hb.up C₄.tr.le
    have ho₄ := ho.up C₄.tr.le
    have hys' : Tms s₄.heap ys (nfs ops ks) := hys
    have hyl := Tms.len hys'
    rw [nfs_len] at hyl
    obtain ⟨n1, n2, n3⟩ := nfs_facts hps ks hfit.2
    refine wpAny_execs_cons (wpAny_Return_some (wpAny_IfExp (isTrue_plain (methN (m_is_bag w) (t_57 w) (k_57 w) sh_is_bag (nmC hcs₄ ⟨b, ol, rfl, hb₄, G₄, wpAny_items_cons (nm C₄ (by exact rfl) (wpAny_items_nil ⟨G₄.gd.K, ?_⟩))⟩ (by exact rfl) (by exact rfl) (by exact rfl)) _ (by exact rfl) (by exact rfl) (by exact rfl)))))
    refine is_bag_ok (T := .mk l ks) G₄ hb₄ ho₄ (ht.up C₄.tr.tup) (by show A.depth + 1 + 1 < _; omega) (by show A.units + 3 + 100 < _; omega) (by rw [Term.kids]; omega) fun s₅ u₅ => wpAny_truthy_bool ?_
    have C₅ := C₄.up u₅
    have hn : nf ops (.mk l ks) = if isBag ops (.mk l ks) = true then .mk l (sortT (flats ops l (nfs ops ks))) else .mk l (nfs ops ks) := by rw [nf]
    cases hib : isBag ops (.mk l ks) with
    | true =>
      rw [hib, if_pos rfl] at hn
      rw [if_pos rfl]
      obtain ⟨q1, q2⟩ := bag_facts hps l ks hfit.1 n1 hib
      refine methN (m_made w) (t_67 w) (k_67 w) sh_made (nmC (IsCell.up hcs₄ u₅.le) ⟨b, ol, rfl, hb.up C₅.tr.le, G.up C₅.tr, wpAny_items_cons (tidx (nm C₅ (by exact rfl) (ci fun tk₆ s₆ u₆ => ?_)))⟩ (by exact rfl) (by exact rfl) (by exact rfl)) _ (by exact rfl) (by exact rfl) (by exact rfl)
      have C₆ := C₅.up u₆
      refine ⟨a, _, 0, tk₆, _, rfl, rfl, hT.keeps C₆.tr.le, rfl, by simp; omega, wpAny_items_cons (nm C₆ (by exact rfl) (wpAny_items_nil ⟨(G.up C₆.tr).gd.K, ?_⟩))⟩
      refine made_ok (X := X) (H := Term.heights ks) (op := l) (xs := nfs ops ks) (G.up C₆.tr) (hb.up C₆.tr.le) (ho.up C₆.tr.le) (hD.at fun o e => u₆.le _ _ (u₅.le _ _ e)) (hys'.up (u₅.tup.trans u₆.tup)) q1 q2 hh n3 (by show A.depth + 1 + _ + 6 < _; omega) (by show A.units + 3 + _ + 400 < _; omega) (by omega) fun r s₇ u₇ hr => ?_
      exact hQ r s₇ (C₆.up u₇).tr (hn ▸ hr)
    | false =>
      rw [hib, if_neg (by simp)] at hn
      rw [if_neg (by simp)]
      refine wpAny_BinOp (tupleD (wpAny_items_cons (tidx (nm C₅ (by exact rfl) (ci fun tk₆ s₆ u₆ => ?_)))))
      have C₆ := C₅.up u₆
      refine ⟨a, _, 0, tk₆, _, rfl, rfl, hT.keeps C₆.tr.le, rfl, by simp; omega, wpAny_items_nil ⟨by simp; omega, fun t1 s₇ u₇ _ ht1 => ?_⟩⟩
      have C₇ := C₆.up u₇
      have u47 := (u₅.trans u₆).trans u₇
      refine callT (G.up C₇.tr) (g_tuple w) PyProof.Rows.boot_tuple (by decide) (wpAny_items_cons (nm C₇ (by exact rfl) (wpAny_items_nil (tupleOf hh (hD.at fun o e => u47.le _ _ e) (by omega) fun t₈ s₈ u₈ ht₈ => ?_))))
      refine tadd (IsTup.tle ht1 u₈.tup) ht₈ (by simp; omega) fun r s₉ u₉ hr => ?_
      refine hQ (.ref r) s₉ ((C₇.up u₈).up u₉).tr ?_
      rw [hn]
      exact Tm.close hr (hys'.up ((u47.tup.trans u₈.tup).trans u₉.tup))

theorem norm_all {prog : Program} {w : World} {ops : List Lab} : ∀ (n : Nat) (T : Term), T.height ≤ n → NormOk prog w ops T
  | 0, .mk l ks, h => by rw [Term.height] at h; omega
  | n + 1, .mk l ks, h => norm_step l ks fun x hx => norm_all n x (by have := Term.height_mem ks x hx; rw [Term.height] at h; omega)
theorem norm_ok {prog : Program} {w : World} {ops : List Lab} (T : Term) : NormOk prog w ops T := norm_all _ T (Nat.le_refl _)

section
variable {prog : Program} {w : World} {A : Around} {E : Value → Shared → Prop} {s : Shared}
theorem like_ok {X : List Addr} {b ol : Addr} {v u : Value} {T U : Term} {ops : List Lab} {Q : Value → Shared → Prop} (G : Gx w X s.heap) (hb : BagAt s.heap b ol) (ho : OpsAt s.heap ol ops) (ht : Tm s.heap v T) (hu' : Tm s.heap u U) (hh : A.handled = none)
    (hd : A.depth + T.height + 9 < recursionLimit) (hu : A.units + 10 * T.height + 600 < cLine) (hd2 : A.depth + U.height + 9 < recursionLimit) (hu2 : A.units + 10 * U.height + 600 < cLine) (hsz : T.size ≤ 1000) (hsz2 : U.size ≤ 1000) (hf : fit T) (hf2 : fit U) (hps : PS ops)
    (h : ∀ s', Up s s' → Q (.bool (decide (nf ops T = nf ops U))) s') : wpAny (model prog w) A (call (.ref 79) [.ref b, v, u]) Q E s := by
  refine enter (binds := [("self", .ref b), ("t", v), ("u", u)]) G (by exact rfl) (by exact rfl) (by omega) (by exact rfl) (by decide) (by exact rfl) rfl rfl rfl (fun L s₁ C G₁ => ?_)
  refine wpAny_execs_cons (wpAny_Return_some (wpAny_Compare1 (methN (m_normal w) (t_72 w) (k_72 w) sh_normal (nm C (by exact rfl) ⟨b, ol, rfl, hb.up C.tr.le, G₁, wpAny_items_cons (nm C (by exact rfl) (wpAny_items_nil ⟨G₁.gd.K, ?_⟩))⟩) _ (by exact rfl) (by exact rfl) (by exact rfl))))
  refine norm_ok T _ _ s₁ X b ol v _ G₁ (hb.up C.tr.le) (ho.up C.tr.le) (ht.up C.tr.tup) hh (by show A.depth + 1 + _ + 8 < _; omega) (by show A.units + 3 + _ + 500 < _; omega) hsz hf hps fun r₁ s₂ u₂ hr₁ => ?_
  have C₂ := C.up u₂
  refine methN (m_normal w) (t_72 w) (k_72 w) sh_normal (nm C₂ (by exact rfl) ⟨b, ol, rfl, hb.up C₂.tr.le, G.up C₂.tr, wpAny_items_cons (nm C₂ (by exact rfl) (wpAny_items_nil ⟨(G.up C₂.tr).gd.K, ?_⟩))⟩) _ (by exact rfl) (by exact rfl) (by exact rfl)
  refine norm_ok U _ _ s₂ X b ol u _ (G.up C₂.tr) (hb.up C₂.tr.le) (ho.up C₂.tr.le) (hu'.up C₂.tr.tup) hh (by show A.depth + 1 + _ + 8 < _; omega) (by show A.units + 3 + _ + 500 < _; omega) hsz2 hf2 hps fun r₂ s₃ u₃ hr₂ => ?_
  have nT := nf_facts hps T hf
  have q := SeqAt.compareEq_reads (prog := prog) (w := w) (A := A.deeper (envOf "Bags.are_like" ({ kind := .function, names := [("self", .local), ("t", .local), ("u", .local)], isGenerator := false, isCoroutine := false } : Scope) L 79 (.ref 78))) (E := noE) (Q := fun v s' => Q v s') (hr₁.up u₃.tup).1 hr₂.1 (Term.can _) (Term.can _)
    (by show A.units + 3 + _ < _; have := Nat.min_le_left (nf ops T).py.depth (nf ops U).py.depth; rw [Term.py_depth] at this ⊢; omega)
    (by rw [Term.eqv]; exact h s₃ (C₂.up u₃).tr)
  exact q
end
end Mine
end
section
set_option maxRecDepth 100000
set_option maxHeartbeats 4000000
set_option linter.constructorNameAsVariable false
set_option linter.unusedVariables false
open PySem PySem.W PyProof.Rows PySem.Calls PySem.Spec
namespace Mine
section
variable {prog : Program} {w : World} {A : Around} {E : Value → Shared → Prop} {s s₀ : Shared} {env : Env} {X : List Addr} {L : Addr} {m : Str → Option Value}

theorem lidx {value slice : Expr} {pos : Pos} {Q : Value → Shared → Prop}
    (h : wpAny (model prog w) A (eval value env) (fun o s₁ => wpAny (model prog w) A (eval slice env) (fun i s₂ => ∃ t vs k tk x, o = .ref t ∧ i = .int ((k : Nat) : Int) tk ∧ s₂.heap.IsList t (List.toArray vs) ∧ vs[k]? = some x ∧ vs.length ≤ sizeLine ∧ Q x s₂) E s₁) E s)
    (hs : ∀ t k u, subscripted slice false (.ref t) (.int k u) = operate [.ref t, .int k u] (getItem (.ref t) (.int k u)) := by intro _ _ _; with_unfolding_all rfl) :
    wpAny (model prog w) A (eval (.Subscript value slice pos) env) Q E s := by
  refine Subscript_ (wpQ h fun o s₁ h₁ => wpQ h₁ fun i s₂ h₂ => ?_)
  obtain ⟨t, vs, k, tk, x, rfl, rfl, ht, hx, hl, hq⟩ := h₂
  have hk : k < vs.length := (List.getElem?_eq_some_iff.mp hx).1
  have hsz : sizeLine ≤ 2 ^ 62 := by rw [PySem.sizeLine_eq]; decide
  exact tail_any ht.typeIs slot_list_getitem.lookup (wpAny_getItem_list ht (by omega) (by omega) (x := x) (by simpa using hx) hq) (hs _ _ _)

/-- d[key], a dict whose keys are strs -/
theorem ditem {value slice : Expr} {pos : Pos} {Q : Value → Shared → Prop}
    (h : wpAny (model prog w) A (eval value env) (fun o s₁ => wpAny (model prog w) A (eval slice env) (fun i s₂ => ∃ D kvs k tk x, o = .ref D ∧ i = .str k tk ∧ s₂.heap.DictOf (strKind prog w) D kvs ∧ valueAt kvs k = some x ∧ ∀ s', Up s₂ s' → Q x s') E s₁) E s)
    (hs : ∀ t k u, subscripted slice false (.ref t) (.str k u) = operate [.ref t, .str k u] (getItem (.ref t) (.str k u)) := by intro _ _ _; with_unfolding_all rfl) :
    wpAny (model prog w) A (eval (.Subscript value slice pos) env) Q E s := by
  refine Subscript_ (wpQ h fun o s₁ h₁ => wpQ h₁ fun i s₂ h₂ => ?_)
  obtain ⟨D, kvs, k, tk, x, rfl, rfl, hD, hx, hq⟩ := h₂
  exact tail_any hD.typeIs slot_dict_getitem.lookup (wpAny_getItem_of (strKind_is prog w k tk) hD.mapOf hx (hq _ Up.tok)) (hs _ _ _)

theorem asn2 {x y : Str} {px py : Pos} {k k2 : Nat} {tp vp pos : Pos} {e1 e2 : Expr} {Q : Flow → Shared → Prop} (hh : A.handled = none)
    (h : wpAny (model prog w) A (eval e1 env) (fun v1 s₁ => wpAny (model prog w) A (eval e2 env) (fun v2 s₂ => ∀ s₃, Up s₂ s₃ → wpAny (model prog w) A (storeName env y v2) (fun _ s₄ => wpAny (model prog w) A (storeName env x v1) (fun _ s₅ => Q .next s₅) E s₄) E s₃) E s₁) E s)
    (hw : swappedStores [.Tuple [.Name x px, .Name y py] k tp] (.Tuple [e1, e2] k2 vp) env = pure (some [x, y]))
    (hst1 : starEach [e1, e2] env = (false, eval e1 env) :: starEach [e2] env) (hst2 : starEach [e2] env = (false, eval e2 env) :: starEach [] env) :
    wpAny (model prog w) A (exec (.Assign [.Tuple [.Name x px, .Name y py] k tp] (.Tuple [e1, e2] k2 vp) pos) env) Q E s := by
  refine Assign_Tuple_swapped (names := [x, y]) (tupleD ?_) (by rfl) hw
  refine wpAny_items_cons (wpQ h fun v1 s₁ h₁ => wpAny_items_cons (wpQ h₁ fun v2 s₂ h₂ => wpAny_items_nil ⟨(by rw [PySem.sizeLine_eq]; show 2 ≤ 16777216; decide), fun a s₃ u₃ _ ha => ?_⟩) hst2) hst1
  have q := unpackItems_tuple (prog := prog) (w := w) (E := E) (Q := fun items s₂ => wpAny (model prog w) A (assignInOrder (([x, y] : List Str).reverse.map fun n => bindName env n) items.reverse) (fun _ => Q .next) E s₂) hh ha fun h' he => ?_
  · exact q
  show wpAny _ _ (assignInOrder [bindName env y, bindName env x] [v2, v1]) _ _ _
  refine assignInOrder_cons (bindName_ (wpQ (h₂ _ (u₃.trans (Up.of_ext_new (tk := s₃.toks) he))) fun _ s₄ h₄ => assignInOrder_cons (bindName_ (wpQ h₄ fun _ s₅ h₅ => assignInOrder_nil h₅))))
end
end Mine
end
section
set_option maxRecDepth 100000
set_option maxHeartbeats 4000000
set_option linter.constructorNameAsVariable false
set_option linter.unusedVariables false
open PySem PySem.W PyProof.Rows PySem.Calls PySem.Spec
namespace Mine
theorem Cx.wide {s₀ s : Shared} {L : Addr} {m : Str → Option Value} (C : Cx [] s₀ L m s) (X : List Addr) : Cx X s₀ L m s := ⟨Up.to C.tr X, C.ns, C.nL⟩

noncomputable def FeedAt (prog : Program) (w : World) (D c : Addr) (k : Nat) (h : Heap) : Prop := ∃ vs ns t, h.DictOf (strKind prog w) D [("cells", .ref c), ("spot", .int (k : Nat) t)] ∧ h.PlainList c (List.toArray vs) ∧ IntsAre vs ns ∧ vs.length ≤ 30
theorem FeedAt.ex {prog : Program} {w : World} {D c : Addr} {k : Nat} {h : Heap} (x : FeedAt prog w D c k h) : (∃ o, h.get? D = some o) ∧ ∃ o, h.get? c = some o := let ⟨_, _, _, ⟨o, _, _, e, _⟩, ⟨n, e'⟩, _⟩ := x; ⟨⟨o, e⟩, ⟨_, e'⟩⟩
theorem FeedAt.step {prog : Program} {w : World} {D c : Addr} {k : Nat} {s s' : Shared} {W : List Addr} (x : FeedAt prog w D c k s.heap) (t : Tr W s s') (hD : D ∉ W) (hc : c ∉ W) : FeedAt prog w D c k s'.heap := by
  obtain ⟨vs, ns, tk, h1, h2, h3, h4⟩ := x
  exact ⟨vs, ns, tk, h1.at fun o e => t.keep _ o hD e, h2.at fun o e => t.keep _ o hc e, h3, h4⟩
theorem FeedAt.up {prog : Program} {w : World} {D c : Addr} {k : Nat} {s s' : Shared} (x : FeedAt prog w D c k s.heap) (t : Up s s') : FeedAt prog w D c k s'.heap := x.step t (by simp) (by simp)
theorem dict_not_tup {K : Type} [DecidableEq K] {prog : Program} {w : World} {knd : KeyKind prog w K} {D : Addr} {kvs : List (K × Value)} {h : Heap} (x : h.DictOf knd D kvs) : ∀ o, h.get? D = some o → ¬ IsT o := by
  obtain ⟨o', es, ep, e, _, d, _⟩ := x
  rintro o e' ⟨_, xs, n, q⟩
  rw [e] at e'; cases e'; rw [q] at d; cases d

section
variable {prog : Program} {w : World} {A : Around} {E : Value → Shared → Prop} {s : Shared}
theorem mods {a b : Int} {t u : Tok} {Q : Value → Shared → Prop} (hb : 0 < b) (h : ∀ tk s' (r : Nat), Up s s' → (r : Int) < b → Q (.int (r : Nat) tk) s') : wpAny (model prog w) A (binaryOp .Mod (.int a t) (.int b u)) Q E s := by
  have h0 : 0 ≤ a.fmod b := Int.fmod_nonneg_of_pos a hb
  have h1 : a.fmod b < b := Int.fmod_lt_of_pos a hb
  obtain ⟨r, hr⟩ := Int.eq_ofNat_of_zero_le h0
  refine mod_int (by omega) ?_
  rw [hr] at h1 ⊢
  exact h _ _ r Up.tok h1
theorem muls {a b : Int} {t u : Tok} {Q : Value → Shared → Prop} (h1 : -(2 ^ 64) < a) (h2 : a < 2 ^ 64) (h : ∀ tk s', Up s s' → Q (.int (a * b) tk) s') : wpAny (model prog w) A (binaryOp .Mult (.int a t) (.int b u)) Q E s :=
  mul_int (h _ _ Up.tok) (IntMulOk.of_left (intBits_le_64 h1 h2))

theorem draw_ok {X : List Addr} {D c : Addr} {k : Nat} {wide : Int} {tw : Tok} {Q : Value → Shared → Prop} (G : Gx w X s.heap) (hX : D ∈ X) (hf : FeedAt prog w D c k s.heap) (hk : k ≤ 1000000) (hw : 0 < wide) (hh : A.handled = none) (hd : A.depth < recursionLimit)
    (h : ∀ tk s' (r : Nat), Tr [D] s s' → FeedAt prog w D c (k + 1) s'.heap → (r : Int) < wide → Q (.int (r : Nat) tk) s') : wpAny (model prog w) A (call (.ref 142) [.ref D, .int wide tw]) Q E s := by
  have hsl : 1000000 ≤ sizeLine := by rw [PySem.sizeLine_eq]; decide
  obtain ⟨⟨oD, hoD⟩, _⟩ := hf.ex
  refine enter (binds := [("feed", .ref D), ("wide", .int wide tw)]) G (by exact rfl) (by exact rfl) hd (by exact rfl) (by decide) (by exact rfl) rfl rfl rfl (fun L s₁ C₀ G₁ => ?_)
  have C : Cx [D] s L _ s₁ := C₀.wide [D]
  have hDL : D ≠ L := by rintro rfl; rw [C₀.nL] at hoD; cases hoD
  replace hf := hf.up C₀.tr
  replace G : Gx w [D] s.heap := G.mono (by simpa using hX)
  obtain ⟨vs, ns, tk0, hd1, hd2, hd3, hd4⟩ := hf
  have hcs : ∃ o, s.heap.get? c = some o ∨ True := ⟨default, .inr trivial⟩
  refine wpAny_execs_cons (asn2 hh (ditem (nm C (by exact rfl) (ct fun tk₂ s₂ u₂ => ?_))) (by exact rfl) (by exact rfl) (by exact rfl))
  refine ⟨D, _, "cells", tk₂, .ref c, rfl, rfl, hd1.keep u₂.le, by rfl, fun s₃ u₃ => ditem (nm ((C.up u₂).up u₃) (by exact rfl) (ct fun tk₄ s₄ u₄ => ?_))⟩
  have u14 := (u₂.trans u₃).trans u₄
  refine ⟨D, _, "spot", tk₄, .int k tk0, rfl, rfl, hd1.keep u14.le, by rfl, fun s₅ u₅ s₆ u₆ => ?_⟩
  have u16 := (u14.trans u₅).trans u₆
  refine st (C.up u16) fun s₇ t₇ C₇ => st C₇ fun s₈ t₈ C₈ => ?_
  have t18 : Tr [L] s₁ s₈ := (Up.to u16 _).trans (t₇.trans t₈)
  have hd1₈ := hd1.at fun o e => t18.keep _ o (by simpa using hDL) e
  have hcL : c ≠ L := plain_ne_ns hd2 C.ns
  have hd2₈ : s₈.heap.PlainList c vs.toArray := hd2.at fun o e => t18.keep _ o (by simpa using hcL) e
  refine wpAny_execs_cons (wpAny_Assign_Subscript (wpAny_BinOp (nm C₈ (by exact rfl) (ci fun tk₉ s₉ u₉ => add_ints fun tk₁₀ s₁₀ u₁₀ => ?_))) (by exact rfl))
  have u810 := u₉.trans u₁₀
  refine nm (C₈.up u810) (by exact rfl) (ct fun tk₁₁ s₁₁ u₁₁ => ?_)
  have u811 := u810.trans u₁₁
  have C₁₁ := C₈.up u811
  have hd1₁₁ := hd1₈.keep u811.le
  have hcD : c ≠ D := by
    rintro rfl
    obtain ⟨n, e⟩ := hd2
    obtain ⟨o, es, ep, e', _, d, _⟩ := hd1
    rw [e] at e'; cases e'; cases d
  refine wpAny_setItem_pairs (strKind_is prog w "spot" tk₁₁) hd1₁₁ (fun h' hm' hs' => ?_) (by show 2 ≤ sizeLine; omega)
  have tD : Tr [D] s₁₁ { s₁₁ with heap := h', toks := s₁₁.toks + 1 } := Tr.of_but hs' (dict_not_tup hd1₁₁)
  have hm'' : h'.DictOf (strKind prog w) D [("cells", .ref c), ("spot", .int ((k + 1 : Nat)) tk₁₀)] := hm'
  revert tD
  have eh : ({ s₁₁ with heap := h', toks := s₁₁.toks + 1 } : Shared).heap = h' := rfl
  generalize ({ s₁₁ with heap := h', toks := s₁₁.toks + 1 } : Shared) = s₁₂ at eh ⊢
  subst eh
  intro tD
  have C₁₂ := C₁₁.step tD (by simp [hDL])
  have hd2₁₂ : s₁₂.heap.PlainList c vs.toArray := hd2₈.at fun o e => tD.keep _ o (by simpa using hcD) (u811.le _ _ e)
  have F₁₂ : FeedAt prog w D c (k + 1) s₁₂.heap := ⟨vs, ns, tk₁₀, hm'', hd2₁₂, hd3, hd4⟩
  have fin : ∀ s', Up s₁₂ s' → ∀ (r : Nat) tk, (r : Int) < wide → Q (.int (r : Nat) tk) s' := fun s' u r tk hr => h tk s' r (C₁₂.up u).tr (F₁₂.up u) hr
  have G₁₂ := G.step C₁₂.tr
  refine wpAny_execs_cons (wpAny_If (wpAny_isTrue_Compare1 (nm C₁₂ (by exact rfl) (callB G₁₂ (g_len w) boot_len (by decide) (wpAny_items_cons (nm C₁₂ (by exact rfl) (wpAny_items_nil (len_l hd2₁₂.isList (by omega) fun tk₁₃ s₁₃ u₁₃ => ?_))))))))
  refine lt_int (wpAny_truthy_bool ?_)
  have C₁₃ := C₁₂.up u₁₃
  have hd2₁₃ : s₁₃.heap.PlainList c vs.toArray := hd2₁₂.at fun o e => u₁₃.le _ _ e
  by_cases hlt : k < vs.length
  · have e : decide ((k : Int) < (vs.length : Int)) = true := by simpa using hlt
    rw [e, if_pos rfl]
    obtain ⟨v, hv⟩ : ∃ v, vs[k]? = some v := ⟨_, List.getElem?_eq_getElem hlt⟩
    obtain ⟨n, tn, rfl, _⟩ := hd3.at k v hv
    refine wpAny_execs_cons (wpAny_Return_some (wpAny_BinOp (callT (G.step C₁₃.tr) (g_int w) PyProof.Rows.boot_int (by decide) (wpAny_items_cons (lidx (nm C₁₃ (by exact rfl) (nm C₁₃ (by exact rfl) ⟨c, vs, k, tk0, _, rfl, rfl, hd2₁₃.isList, hv, by omega, ?_⟩)))))))
    refine wpAny_items_nil (call_int_int ?_)
    refine nm C₁₃ (by exact rfl) (mods hw fun tk s' r u hr => ?_)
    exact fin s' (u₁₃.trans u) r tk hr
  · have e : decide ((k : Int) < (vs.length : Int)) = false := by simpa using hlt
    rw [e, if_neg (by simp)]
    refine wpAny_execs_nil ?_
    refine wpAny_execs_cons (wpAny_Return_some (wpAny_BinOp (wpAny_BinOp (wpAny_BinOp (wpAny_BinOp (wpAny_BinOp (wpAny_BinOp (ci fun t1 q1 v1 => nm (C₁₃.up v1) (by exact rfl) (muls (by decide) (by decide) fun t2 q2 v2 => ?_)))))))))
    have b1 := v1.trans v2
    refine nm (C₁₃.up b1) (by exact rfl) (muls (by omega) (by omega) fun t3 q3 v3 => ?_)
    refine wpAny_BinOp (ci fun t4 q4 v4 => nm (C₁₃.up ((b1.trans v3).trans v4)) (by exact rfl) (muls (by decide) (by decide) fun t5 q5 v5 => ?_))
    have b2 := ((b1.trans v3).trans v4).trans v5
    refine add_ints fun t6 q6 v6 => wpAny_BinOp (ci fun t7 q7 v7 => ?_)
    have b3 := (b2.trans v6).trans v7
    have C₂₀ := C₁₃.up b3
    refine callB (G.step C₂₀.tr) (g_len w) boot_len (by decide) (wpAny_items_cons (nm C₂₀ (by exact rfl) (wpAny_items_nil (len_l (hd2₁₃.at fun o e => b3.le _ _ e).isList (by omega) fun t8 q8 v8 => muls (by decide) (by decide) fun t9 q9 v9 => ?_))))
    refine add_ints fun t10 q10 v10 => ci fun t11 q11 v11 => mods (by decide) fun t12 q12 r0 v12 _ => ?_
    have b4 := (((b3.trans v8).trans v9).trans v10).trans (v11.trans v12)
    refine nm (C₁₃.up b4) (by exact rfl) (mods hw fun tk s' r u hr => ?_)
    exact fin s' ((u₁₃.trans b4).trans u) r tk hr
end
end Mine
end
section
set_option maxRecDepth 100000
set_option maxHeartbeats 4000000
open PySem PySem.W PyProof.Rows PySem.Calls PySem.Spec
namespace Mine
section
variable {prog : Program} {w : World} {A : Around} {E : Value → Shared → Prop} {env : Env} {s : Shared}

/-- the source of a comprehension of one clause, any iterator -/
structure SrcG (prog : Program) (w : World) (A : Around) (env : Env) (scope : Scope) (cl : List (Str × Addr)) (elt target : Expr) (ifs : List Expr) (mu : List Addr) (F : Nat → List Value → Shared → Prop) (n : Nat) (P : Nat → Value → Prop) (xv : Value) (sb : Shared) : Prop where
  opens : ∀ (E : Value → Shared → Prop) (Q : Value → Shared → Prop), (∀ s₂ I fp St, It prog w A target I fp n P St → Up sb s₂ → sb.heap.get? I = none → (∃ o, s₂.heap.get? I = some o) → St 0 s₂.heap → (∀ b ∈ fp, b = I ∨ ((∃ o, sb.heap.get? b = some o) ∧ b ∉ mu)) → Q (.ref I) s₂) → wpAny (model prog w) A (pyIter xv) Q E sb
  fit : n ≤ sizeLine
  mus : ∀ b ∈ mu, ∃ o, sb.heap.get? b = some o
  stable : ∀ i ys W' s s', (∀ b ∈ W', b ∉ mu) → Tr W' s s' → F i ys s → F i ys s'
  start : F 0 [] sb
  step : ∀ C, sb.heap.get? C = none → ∀ i v ys s₁ m₁, i < n → P i v → Tr mu sb s₁ → s₁.heap.Ns C m₁ → F i ys s₁ →
      wpAny (model prog w) A (assign target (compEnvC scope cl C env) v) (fun _ s₂ => wpAny (model prog w) A (tests ifs (compEnvC scope cl C env)) (fun ok s₃ =>
        if ok = true then wpAny (model prog w) A (eval elt (compEnvC scope cl C env)) (fun y s₄ => Turn mu C (F (i + 1)) (ys ++ [y]) s₁ s₄) noE s₃ else Turn mu C (F (i + 1)) ys s₁ s₃) noE s₂) noE s₁

theorem comp_runG {elt target iter : Expr} {ifs : List Expr} {scope : Scope} {cl : List (Str × Addr)} {pos : Pos} {xv : Value} {sb : Shared} {mu : List Addr} {F : Nat → List Value → Shared → Prop} {n : Nat} {P : Nat → Value → Prop} {RR : Value → Addr → Result → Shared → Prop}
    (hh : A.handled = none) (hcell : ∀ y ∈ scope.names, y.2 ≠ .cell) (hkind : scope.kind = .function)
    (S : SrcG prog w A env scope cl elt target ifs mu F n P xv sb)
    (hR : ∀ C D ys s', sb.heap.get? C = none → sb.heap.get? D = none → C ≠ D → Tr mu sb s' → s'.heap.PlainList D ys.toArray → (∃ m, s'.heap.Ns C m) → F n ys s' → RR (.ref D) C (.ok .next) s') :
    wpAny (model prog w) A (pyIter xv) (fun it s₂ => wpAny (model prog w) A (newList []) (fun acc s₃ => wpAny (model prog w) A (newFunctionEnv scope env.globals cl [] env.qual none .none (some env)) (fun cenv s₄ =>
      codeAny (model prog w) A (.compStart (.ListComp elt [⟨target, iter, ifs, 0⟩] scope pos) 0 it acc { cenv with scope := relabel scope env }) (RR acc cenv.locals) s₄) E s₃) E s₂) E sb := by
  obtain ⟨hopen, hfit, hmu, hF, hF0, hstep⟩ := S
  refine hopen _ _ fun s₂ I fp St W u₂ hI hIx hst hfp => ?_
  refine wpAny_newObj_type (wpAny_newFunctionEnv hcell (by intro y hy; simp at hy) (fun h₁ hns₁ hsb₁ => ?_) hkind)
  dsimp only at hns₁ hsb₁ ⊢
  generalize hH2 : s₂.heap.push { cls := .type "list", dict := none, data := .seq ([] : List Value).toArray } = H2 at hns₁ hsb₁ ⊢
  have hD := fresh_size s₂.heap
  have hC : H2.objs.size = s₂.heap.objs.size + 1 := by rw [← hH2, Heap.size_push]
  have hC2 : H2.get? H2.objs.size = none := fresh_size H2
  have up2 : Le s₂.heap H2 := fun b o e => hH2 ▸ Heap.get?_push_of_some _ e
  have hCn : s₂.heap.get? H2.objs.size = none := by
    cases e : s₂.heap.get? H2.objs.size with
    | none => rfl
    | some o => rw [up2 _ _ e] at hC2; cases hC2
  have up1 : Le s₂.heap h₁ := fun b o e => hsb₁.extBut b o (by rintro rfl; rw [hCn] at e; cases e) (Heap.get?_push_of_some _ (up2 b o e))
  have hDC : s₂.heap.objs.size ≠ H2.objs.size := by rw [hC]; exact Nat.ne_of_lt (Nat.lt_succ_self _)
  have hnf : ∀ x, s₂.heap.get? x = none → x ∉ fp := by
    intro x hx hm
    rcases hfp x hm with rfl | ⟨⟨o, e⟩, _⟩
    · obtain ⟨o, e⟩ := hIx; rw [hx] at e; cases e
    · rw [u₂.le _ _ e] at hx; cases hx
  have hacc : h₁.PlainList s₂.heap.objs.size #[] := ⟨_, hsb₁.extBut _ _ hDC (Heap.get?_push_of_some _ (hH2 ▸ Heap.get?_push_size _ rfl))⟩
  have hu : Up s₂ { s₂ with heap := h₁, toks := s₂.toks + ([] : List (Str × Value)).length } := Up.mk' up1
  have hst₁ : St 0 h₁ := W.frame _ _ _ hst fun b _ o e => up1 b o e
  have hmuI : ∀ b ∈ fp, b ∉ mu := by
    intro b hb hm
    rcases hfp b hb with rfl | ⟨_, q⟩
    · obtain ⟨o, e⟩ := hmu _ hm; rw [hI] at e; cases e
    · exact q hm
  have hDb : sb.heap.get? s₂.heap.objs.size = none := fresh_of u₂ hD
  have hCb : sb.heap.get? H2.objs.size = none := fresh_of u₂ hCn
  have loop : codeAny (model prog w) A (.compLoop (.ListComp elt [⟨target, iter, ifs, 0⟩] scope pos) 0 (.ref I) (.ref s₂.heap.objs.size) (compEnvC scope cl H2.objs.size env)) (RR (.ref s₂.heap.objs.size) H2.objs.size)
      { s₂ with heap := h₁, toks := s₂.toks + ([] : List (Str × Value)).length } := by
    refine loop1 (cenv := compEnvC scope cl H2.objs.size env) (mu := mu) W sb F hDC (hnf _ hD) (hnf _ hCn) ?_ hmuI hDb hI hCb hF (Up.to (u₂.trans hu) mu) hst₁ hacc ⟨_, hns₁⟩ ?_ (fun i v ys s₁ m₁ hi hP t n f => hstep _ hCb i v ys s₁ m₁ hi hP t n f) hfit fun ys s' t hp hn hf => hR _ _ ys s' hCb hDb (Ne.symm hDC) t hp hn hf
    · intro hm; obtain ⟨o, e⟩ := hmu _ hm; rw [hDb] at e; cases e
    · exact hF 0 [] [] _ _ (by simp) (u₂.trans hu) hF0
  exact codeAny_compStart_list loop (W.self 0 _ _ _ hst₁ loop)

theorem comp1G {elt target iter : Expr} {ifs : List Expr} {scope : Scope} {cl : List (Str × Addr)} {pos : Pos} {Q : Value → Shared → Prop}
    (hh : A.handled = none) (hclos : closureFor scope env = pure cl) (hcell : ∀ y ∈ scope.names, y.2 ≠ .cell) (hkind : scope.kind = .function) (hnames : ∀ y ∈ scope.names, y.2 = .local → scope.names.lookup y.1 = some .local) (hs : ∀ x, foldedSetIterable iter env x = pure x)
    (h : wpAny (model prog w) A (eval iter env) (fun xv sb => ∃ mu F n P, SrcG prog w A env scope cl elt target ifs mu F n P xv sb ∧
      ∀ D ys s', sb.heap.get? D = none → Tr mu sb s' → s'.heap.PlainList D ys.toArray → F n ys s' → Q (.ref D) s') E s) :
    wpAny (model prog w) A (eval (.ListComp elt [⟨target, iter, ifs, 0⟩] scope pos) env) Q E s := by
  rw [eval_ListComp]
  refine wpAny_comprehension_free (use := none) rfl hs hclos hkind hnames (wpQ h fun xv sb h₁ => ?_)
  obtain ⟨mu, F, n, P, S, hQ⟩ := h₁
  refine comp_runG (RR := fun acc C => compPost (model prog w) A E none Q acc C) hh hcell hkind S fun C D ys s' hC hD hCD t hp hn hf => ?_
  obtain ⟨m, hn⟩ := hn
  refine ⟨m, hn, fun h' hs' => ?_⟩
  have tC : Tr [C] s' { s' with heap := h' } := Tr.of_but (tk := s'.toks) hs' (ns_not_tup hn)
  revert tC
  generalize ({ s' with heap := h' } : Shared) = s''
  intro tC
  refine hQ D ys s'' hD ?_ (hp.at fun o e => tC.keep _ o (by simpa using Ne.symm hCD) e) (S.stable _ _ [C] _ _ (by simp; intro hm; obtain ⟨o, e⟩ := S.mus _ hm; rw [hC] at e; cases e) tC hf)
  refine ⟨((t.mono (W' := C :: mu) fun _ h => .tail _ h).trans (tC.mono fun _ h => by simp at h; simp [h])).ev, fun b o hb e => tC.keep b o (fun r => ?_) (t.keep b o hb e), t.tup.trans tC.tup⟩
  simp at r; rw [r, hC] at e; cases e

theorem comp1AG {X : List Addr} {s₀ : Shared} {L : Addr} {m : Str → Option Value} {elt target iter : Expr} {ifs : List Expr} {y : Str} {py : Pos} {scope : Scope} {cl : List (Str × Addr)} {pos spos : Pos} {Q : Flow → Shared → Prop}
    (hh : A.handled = none) (hsw : swapsWith (.ListComp elt [⟨target, iter, ifs, 0⟩] scope pos) (some (.Name y py)) spos.line env = pure true)
    (hclos : closureFor scope env = pure cl) (hcell : ∀ y ∈ scope.names, y.2 ≠ .cell) (hkind : scope.kind = .function) (hnames : ∀ y ∈ scope.names, y.2 = .local → scope.names.lookup y.1 = some .local) (hs : ∀ x, foldedSetIterable iter env x = pure x)
    (hL : env.locals = L) (hk : env.scope.kind = .function) (hy : env.kindOf y = some .local)
    (h : wpAny (model prog w) A (eval iter env) (fun xv sb => ∃ mu F n P, SrcG prog w A env scope cl elt target ifs mu F n P xv sb ∧ Cx X s₀ L m sb ∧ (∀ b ∈ mu, b ∈ X ∨ s₀.heap.get? b = none) ∧ L ∉ mu ∧
      ∀ D ys s', sb.heap.get? D = none → Tr (L :: mu) sb s' → Cx X s₀ L (fun z => if z = y then some (.ref D) else m z) s' → s'.heap.PlainList D ys.toArray → F n ys s' → Q .next s') E s) :
    wpAny (model prog w) A (exec (.Assign [.Name y py] (.ListComp elt [⟨target, iter, ifs, 0⟩] scope pos) spos) env) Q E s := by
  subst hL
  rw [exec_Assign_Name_used _ _ _ _ hsw]
  refine wpAny_bind (wpAny_standAt (wpAny_bind ?_))
  show wpAny _ A (do let _ ← comprehension (.ListComp elt [⟨target, iter, ifs, 0⟩] scope pos) scope env _ (newList []) false (eval iter env) (some (assign (.Name y py) env))) _ _ s
  refine wpAny_bind (wpQ (Q' := fun _ s' => Q .next s') (wpAny_comprehension_free (use := some (assign (.Name y py) env)) rfl hs hclos hkind hnames
    (wpQ h fun xv sb h₁ => ?_)) (fun _ s' hq => wpAny_pure (wpAny_pure hq)))
  obtain ⟨mu, F, n, P, S, C₀, hX, hLm, hQ⟩ := h₁
  refine comp_runG (RR := fun acc C => compPost (model prog w) A E (some (assign (.Name y py) env)) (fun _ s' => Q .next s') acc C) hh hcell hkind S fun C D ys s' hC hD hCD t hp hn hf => ?_
  obtain ⟨m₂, hn⟩ := hn
  have nL : s'.heap.Ns env.locals m := C₀.ns.at' fun o e => t.keep _ o hLm e
  have hLC : env.locals ≠ C := by rintro rfl; obtain ⟨o, es, k, e, _⟩ := C₀.ns; rw [hC] at e; cases e
  have hLD : D ≠ env.locals := plain_ne_ns hp nL
  show wpAny _ A (assign (.Name y py) env (.ref D)) _ _ _
  refine wpAny_assign_Name (wpAny_storeName_local hy nL (fun h₂ hn₂ hs₂ => ?_) (by rw [hk]; rfl))
  have tL : Tr [env.locals] s' { s' with heap := h₂, toks := s'.toks + 1 } := Tr.of_but hs₂ (ns_not_tup nL)
  revert tL
  have e2 : ({ s' with heap := h₂, toks := s'.toks + 1 } : Shared).heap = h₂ := rfl
  generalize ({ s' with heap := h₂, toks := s'.toks + 1 } : Shared) = s₂ at e2 ⊢
  rw [← e2] at hn₂
  intro tL
  refine ⟨m₂, hn.at' fun o e => tL.keep _ o (by simpa using Ne.symm hLC) e, fun h' hs' => ?_⟩
  have hnC : s₂.heap.Ns C m₂ := hn.at' fun o e => tL.keep _ o (by simpa using Ne.symm hLC) e
  have tC : Tr [C] s₂ { s₂ with heap := h' } := Tr.of_but (tk := s₂.toks) hs' (ns_not_tup hnC)
  revert tC
  generalize ({ s₂ with heap := h' } : Shared) = s''
  intro tC
  have hCm : C ∉ mu := fun hm => by obtain ⟨o, e⟩ := S.mus _ hm; rw [hC] at e; cases e
  have tt : Tr (env.locals :: mu) sb s'' := by
    refine ⟨((t.mono (W' := C :: env.locals :: mu) fun _ h => .tail _ (.tail _ h)).trans ((tL.mono fun _ h => by simp at h; simp [h]).trans (tC.mono fun _ h => by simp at h; simp [h]))).ev, fun b o hb e => tC.keep b o (fun r => ?_) (tL.keep b o (fun r => ?_) (t.keep b o (fun r => ?_) e)), (t.tup.trans tL.tup).trans tC.tup⟩
    · simp at r; rw [r, hC] at e; cases e
    · simp at r; exact hb (by simp [r])
    · exact hb (by simp [r])
  refine hQ D ys s'' hD tt ⟨?_, hn₂.at' fun o e => tC.keep _ o (by simpa using hLC) e, C₀.nL⟩ (hp.at fun o e => tC.keep _ o (by simpa using Ne.symm hCD) (tL.keep _ o (by simpa using hLD) e)) (S.stable _ _ [C] _ _ (by simpa using hCm) tC (S.stable _ _ [env.locals] _ _ (by simpa using hLm) tL hf))
  have big := (C₀.tr.mono (W' := env.locals :: mu ++ X) fun _ h => by simp [h]).trans (tt.mono (W' := env.locals :: mu ++ X) fun _ h => by simp at h; rcases h with h | h <;> simp [h])
  refine ⟨big.ev, fun b o hb e => tt.keep b o (fun r => ?_) (C₀.tr.keep b o hb e), big.tup⟩
  rcases List.mem_cons.mp r with r | r
  · rw [r, C₀.nL] at e; cases e
  · rcases hX b r with q | q
    · exact hb q
    · rw [q] at e; cases e
end
end Mine
end
section
set_option maxRecDepth 100000
set_option maxHeartbeats 4000000
set_option linter.constructorNameAsVariable false
set_option linter.unusedVariables false
open PySem PySem.W PyProof.Rows PySem.Calls PySem.Spec
namespace Mine
theorem riter_not_tup {h : Heap} {I : Addr} {a b c : Int} (x : IsRangeIter h I a b c) : ∀ o, h.get? I = some o → ¬ IsT o := by
  rintro o e ⟨q, _⟩
  rw [x] at e; cases e; exact absurd q (by simp)

theorem It.range {prog : Program} {w : World} {A : Around} (target : Expr) (hh : A.handled = none) (I : Addr) (a : Int) (n : Nat) :
    It prog w A target I [I] n (fun i v => ∃ t, v = .int (a + i) t) (fun i h => IsRangeIter h I (a + (i : Nat)) ((n : Int) - (i : Nat)) 1) where
  mem := by simp
  ex := fun i h st b hb => by rcases List.mem_cons.mp hb with rfl | hb
                              · exact ⟨_, st⟩
                              · cases hb
  frame := fun i h h' st k => k I (by simp) _ st
  item := fun i s Q E hi st hQ => by
    refine wpAny_pyNext_range_item st (by omega) fun h' hit' hs' => ?_
    refine hQ _ _ ⟨_, rfl⟩ ?_ (Tr.of_but hs' (riter_not_tup st))
    have e1 : a + ((i + 1 : Nat) : Int) = a + (i : Int) + 1 := by push_cast; omega
    have e2 : (n : Int) - ((i + 1 : Nat) : Int) = (n : Int) - (i : Int) - 1 := by push_cast; omega
    rw [e1, e2]; exact hit'
  done := fun s Q E st hQ => wpAny_pyNext_range_end hh st (by omega) fun h' he' => hQ _ (Tr.of_ext (tk := s.toks) he' (riter_not_tup st))
  self := fun _ _ _ _ st hQ => wpAny_pyIter_rangeiter st hQ
  go := fun i v s Q E st hQ => go_plain st rfl (by decide) hQ

noncomputable def isF (h : Heap) (I : Addr) : Prop := ∃ o vs, h.get? I = some o ∧ o.data = .fields vs
theorem isF.ne_list {h : Heap} {I D : Addr} {ys : Array Value} (x : isF h I) (y : h.PlainList D ys) : D ≠ I := by
  rintro rfl
  obtain ⟨o, vs, e, d⟩ := x
  obtain ⟨n, e'⟩ := y
  rw [e] at e'; cases e'; cases d
theorem isF.ne_tup {h : Heap} {I D : Addr} {ys : Array Value} (x : isF h I) (y : IsTup h D ys) : D ≠ I := by
  rintro rfl
  obtain ⟨o, vs, e, d⟩ := x
  obtain ⟨o', e', _, n, d'⟩ := y
  rw [e] at e'; cases e'; rw [d] at d'; cases d'
theorem isF.ne_ns {h : Heap} {I L : Addr} {m : Str → Option Value} (x : isF h I) (y : h.Ns L m) : L ≠ I := by
  rintro rfl
  obtain ⟨o, vs, e, d⟩ := x
  obtain ⟨o', es, k, e', q, _⟩ := y
  rw [e] at e'; cases e'; rw [d] at q; cases q
theorem isF.ne_dict {h : Heap} {I D : Addr} {es : Array DictEntry} {ep : Nat} {o : Obj} (x : isF h I) (y : h.get? D = some o) (d : o.data = .dict es ep) : D ≠ I := by
  rintro rfl
  obtain ⟨o', vs, e, d'⟩ := x
  rw [e] at y; cases y; rw [d] at d'; cases d'
theorem isF.ne_cell {h : Heap} {I c : Addr} {v : Option Value} (x : isF h I) (y : h.IsCell c v) : c ≠ I := by
  rintro rfl
  obtain ⟨o, vs, e, d⟩ := x
  obtain ⟨o', e', q⟩ := y
  rw [e] at e'; cases e'; rw [d] at q; cases q

noncomputable def Opens (prog : Program) (w : World) (A : Around) (target : Expr) (mu : List Addr) (n : Nat) (P : Nat → Value → Prop) (xv : Value) (sb : Shared) : Prop :=
  ∀ (E : Value → Shared → Prop) (Q : Value → Shared → Prop), (∀ s₂ I fp St, It prog w A target I fp n P St → (∀ i h, St i h → isF h I) → Up sb s₂ → sb.heap.get? I = none → St 0 s₂.heap → (∀ b ∈ fp, b = I ∨ ((∃ o, sb.heap.get? b = some o) ∧ b ∉ mu)) → Q (.ref I) s₂) → wpAny (model prog w) A (pyIter xv) Q E sb

section
variable {prog : Program} {w : World} {A : Around} {E : Value → Shared → Prop} {s : Shared} {env : Env}
theorem Opens.src {target : Expr} {mu : List Addr} {n : Nat} {P : Nat → Value → Prop} {xv : Value} {sb : Shared} (x : Opens prog w A target mu n P xv sb) :
    ∀ (E : Value → Shared → Prop) (Q : Value → Shared → Prop), (∀ s₂ I fp St, It prog w A target I fp n P St → Up sb s₂ → sb.heap.get? I = none → (∃ o, s₂.heap.get? I = some o) → St 0 s₂.heap → (∀ b ∈ fp, b = I ∨ ((∃ o, sb.heap.get? b = some o) ∧ b ∉ mu)) → Q (.ref I) s₂) → wpAny (model prog w) A (pyIter xv) Q E sb :=
  fun E Q h => x E Q fun s₂ I fp St W hF u hI hst hfp => h s₂ I fp St W u hI (let ⟨o, _, e, _⟩ := hF _ _ hst; ⟨o, e⟩) hst hfp

theorem opens_list {target : Expr} {mu : List Addr} {l : Addr} {items : Array Value} {sb : Shared} (hh : A.handled = none) (hl : sb.heap.IsList l items) (hm : l ∉ mu) : Opens prog w A target mu items.size (fun i v => items[i]? = some v) (.ref l) sb := fun E Q h => by
  have hlx : ∃ o, sb.heap.get? l = some o := let ⟨o, e, _⟩ := hl; ⟨o, e⟩
  have hne : l ≠ sb.heap.objs.size := by rintro rfl; obtain ⟨o, e⟩ := hlx; rw [fresh_size] at e; cases e
  exact wpAny_pyIter_list hl (h _ _ _ _ (It.list target hh _ l hne items) (fun i h st => let ⟨o, e, _, d⟩ := st.1; ⟨o, _, e, d⟩) (Up.push (tk := sb.toks)) (fresh_size _) ⟨⟨_, Heap.get?_push_size _ rfl, rfl, rfl⟩, hl.push _⟩
    fun b hb => by rcases List.mem_cons.mp hb with rfl | hb
                   · exact .inl rfl
                   · simp at hb; subst hb; exact .inr ⟨hlx, hm⟩)
theorem opens_tup {target : Expr} {mu : List Addr} {l : Addr} {items : Array Value} {sb : Shared} (hh : A.handled = none) (hl : sb.heap.IsTuple l items) (hm : l ∉ mu) : Opens prog w A target mu items.size (fun i v => items[i]? = some v) (.ref l) sb := fun E Q h => by
  have hlx : ∃ o, sb.heap.get? l = some o := let ⟨o, e, _⟩ := hl; ⟨o, e⟩
  have hne : l ≠ sb.heap.objs.size := by rintro rfl; obtain ⟨o, e⟩ := hlx; rw [fresh_size] at e; cases e
  exact wpAny_pyIter_tuple hl (h _ _ _ _ (It.tuple target hh _ l hne items) (fun i h st => let ⟨o, e, _, d⟩ := st.1; ⟨o, _, e, d⟩) (Up.push (tk := sb.toks)) (fresh_size _) ⟨⟨_, Heap.get?_push_size _ rfl, rfl, rfl⟩, hl.push _⟩
    fun b hb => by rcases List.mem_cons.mp hb with rfl | hb
                   · exact .inl rfl
                   · simp at hb; subst hb; exact .inr ⟨hlx, hm⟩)
theorem opens_range {target : Expr} {mu : List Addr} {r : Addr} {a b : Int} {t u v : Tok} {sb : Shared} (hh : A.handled = none) (hr : IsRange sb.heap r a b 1 t u v) (ha : -(2 ^ 62) < a) (ha' : a < 2 ^ 62) (hb : -(2 ^ 62) < b) (hb' : b < 2 ^ 62) :
    Opens prog w A target mu (b - a).toNat (fun i v => ∃ t, v = .int (a + i) t) (.ref r) sb := fun E Q h => by
  have hsz : Builtin.Range.rangeSize a b 1 = ((b - a).toNat : Int) := by
    rw [rangeSize_one]; split <;> omega
  have hsmall : Builtin.Range.small a b 1 = true := by
    unfold Builtin.Range.small Builtin.Range.rangeFitsLong
    rw [hsz]
    simp only [Bool.and_eq_true, decide_eq_true_eq, Bool.or_eq_true]
    refine ⟨⟨⟨⟨⟨by omega, by omega⟩, by omega, by omega⟩, by omega, by omega⟩, by omega, by omega⟩, .inr ?_⟩
    rw [if_pos (by omega)]
    simp only [Bool.and_eq_true, decide_eq_true_eq]
    omega
  refine wpAny_pyIter_range hr hsmall ?_
  rw [hsz]
  refine h _ _ _ _ (It.range target hh _ a (b - a).toNat) (fun i h st => ⟨_, _, st, rfl⟩) (Up.push (tk := sb.toks)) (fresh_size _) ?_ (fun b hb => by simp at hb; exact .inl hb)
  have := Heap.get?_push_size sb.heap (o := { cls := .type "range_iterator", data := .fields #[rawInt a, rawInt (((b - a).toNat : Nat) : Int), rawInt 1] }) rfl
  simpa using this

theorem range1 {n : Int} {t : Tok} {Q : Value → Shared → Prop} (h : ∀ r s' u t v, Up s s' → IsRange s'.heap r 0 n 1 u t v → Q (.ref r) s') : wpAny (model prog w) A (call (.type "range") [.int n t]) Q E s :=
  call_range_1 (h _ _ _ _ _ (Up.push (tk := s.toks + 1 + 1)) (Heap.get?_push_size _ rfl))
theorem range2 {a b : Int} {t u : Tok} {Q : Value → Shared → Prop} (h : ∀ r s' u t v, Up s s' → IsRange s'.heap r a b 1 u t v → Q (.ref r) s') : wpAny (model prog w) A (call (.type "range") [.int a t, .int b u]) Q E s :=
  call_range_2 (h _ _ _ _ _ (Up.push (tk := s.toks + 1)) (Heap.get?_push_size _ rfl))

/-- a for loop that runs to its end -/
theorem forG {target iter : Expr} {body : List Stmt} {pos : Pos} {Q : Flow → Shared → Prop}
    (h : wpAny (model prog w) A (eval iter env) (fun xv sb => ∃ (mu : List Addr) (n : Nat) (P : Nat → Value → Prop) (J : Nat → Shared → Prop), Opens prog w A target mu n P xv sb ∧ (∀ b ∈ mu, ∃ o, sb.heap.get? b = some o) ∧ J 0 sb ∧
      (∀ (i : Nat) (s s' : Shared), Up s s' → J i s → J i s') ∧ (∀ (i : Nat) (s s' : Shared) (I : Addr), isF s.heap I → sb.heap.get? I = none → Tr [I] s s' → J i s → J i s') ∧
      (∀ i v s₁, i < n → P i v → J i s₁ → wpAny (model prog w) A (assign target env v) (fun _ s₂ => wpAny (model prog w) A (execs body env) (fun f s₃ => f = .next ∧ Tr mu s₁ s₃ ∧ J (i + 1) s₃) noE s₂) noE s₁) ∧
      (∀ s', J n s' → Q .next s')) E s)
    (hs : ∀ x, foldedSetIterable iter env x = pure x) : wpAny (model prog w) A (exec (.For target iter body [] pos) env) Q E s := by
  refine wpAny_For (wpQ h fun xv sb h₁ => ?_) hs
  obtain ⟨mu, n, P, J, op, hmu, hJ0, hJu, hJI, step, fin⟩ := h₁
  refine op _ _ fun s₂ I fp St W hF u hI hst hfp => ?_
  have hIm : I ∉ mu := fun q => by obtain ⟨o, e⟩ := hmu I q; rw [hI] at e; cases e
  refine codeAny_forLoop_any (fun k s' => ∃ i, k = n + 1 - i ∧ i ≤ n ∧ St i s'.heap ∧ J i s') ?_ (n + 1) ⟨0, rfl, Nat.zero_le _, hst, hJu _ _ _ u hJ0⟩
  rintro k s' ⟨i, rfl, hi, st, hJ⟩
  by_cases hlt : i < n
  · refine W.item i _ _ _ hlt st fun v s₁ hP st₁ t₁ => W.go (i + 1) v s₁ _ _ st₁ ?_
    refine wpF (wpQ (step i v s₁ hlt hP (hJI i _ _ I (hF _ _ st) hI t₁ hJ)) fun _ s₂ h₂ => wpF (wpQ h₂ fun f s₃ h₃ => ?_))
    obtain ⟨rfl, t₃, J₃⟩ := h₃
    refine ⟨n + 1 - (i + 1), by omega, i + 1, rfl, hlt, W.frame _ _ _ st₁ fun b hb o e => t₃.keep b o (fun q => ?_) e, J₃⟩
    rcases hfp b hb with rfl | ⟨_, q'⟩
    · exact hIm q
    · exact q' q
  · have e : i = n := by omega
    subst e
    exact W.done _ _ _ st fun s₁ t₁ => wpAny_execs_nil (fin s₁ (hJI i _ _ I (hF _ _ st) hI t₁ hJ))
end
end Mine
end
section
set_option maxRecDepth 100000
set_option maxHeartbeats 1000000
set_option linter.constructorNameAsVariable false
set_option linter.unusedVariables false
open PySem PySem.W PyProof.Rows PySem.Calls PySem.Spec
namespace Mine
noncomputable def tA : Term := .mk .a []
noncomputable def tB : Term := .mk .b []
noncomputable def tFB : Term := .mk .f [tB]
noncomputable def isSmall (T : Term) : Prop := T = tA ∨ T = tB ∨ T = tFB
theorem k_142 (w : World) : keepIn (Kf w) (.ref 142) = true := by rfl
theorem k_149 (w : World) : keepIn (Kf w) (.ref 149) = true := by rfl
theorem k_154 (w : World) : keepIn (Kf w) (.ref 154) = true := by rfl
theorem k_159 (w : World) : keepIn (Kf w) (.ref 159) = true := by rfl
theorem k_166 (w : World) : keepIn (Kf w) (.ref 166) = true := by rfl
theorem k_173 (w : World) : keepIn (Kf w) (.ref 173) = true := by rfl
section
variable {prog : Program} {w : World} {A : Around} {E : Value → Shared → Prop} {s : Shared}
theorem small_ok {X : List Addr} {D c : Addr} {k : Nat} {Q : Value → Shared → Prop} (G : Gx w X s.heap) (hX : D ∈ X) (hf : FeedAt prog w D c k s.heap) (hk : k ≤ 1000000) (hh : A.handled = none) (hd : A.depth + 1 < recursionLimit)
    (h : ∀ v s' T, Tr [D] s s' → FeedAt prog w D c (k + 1) s'.heap → Tm s'.heap v T → isSmall T → Q v s') : wpAny (model prog w) A (call (.ref 149) [.ref D]) Q E s := by
  have hsl : 1000000 ≤ sizeLine := by rw [PySem.sizeLine_eq]; decide
  refine enter (binds := [("feed", .ref D)]) G (by exact rfl) (by exact rfl) (by omega) (by exact rfl) (by decide) (by exact rfl) rfl rfl rfl (fun L s₁ C G₁ => ?_)
  refine wpAny_execs_cons ?_
  refine wpAny_Return_some ?_
  refine tidx ?_
  refine tupleD ?_
  refine wpAny_items_cons ?_
  refine tupleD ?_
  refine wpAny_items_cons ?_
  refine ct fun t1 s₂ u₂ => ?_
  refine wpAny_items_nil ⟨by simp; omega, fun a1 s₃ u₃ _ h1 => ?_⟩
  refine wpAny_items_cons ?_
  refine tupleD ?_
  refine wpAny_items_cons ?_
  refine ct fun t2 s₄ u₄ => ?_
  refine wpAny_items_nil ⟨by simp; omega, fun a2 s₅ u₅ _ h2 => ?_⟩
  refine wpAny_items_cons ?_
  refine tupleD ?_
  refine wpAny_items_cons ?_
  refine ct fun t3 s₆ u₆ => ?_
  refine wpAny_items_nil ⟨by simp; omega, fun a3 s₇ u₇ _ h3 => ?_⟩
  refine wpAny_items_cons ?_
  refine tupleD ?_
  refine wpAny_items_cons ?_
  refine ct fun t4 s₈ u₈ => ?_
  refine wpAny_items_cons ?_
  refine tupleD ?_
  refine wpAny_items_cons ?_
  refine ct fun t5 s₉ u₉ => ?_
  refine wpAny_items_nil ⟨by simp; omega, fun a4 s₁₀ u₁₀ _ h4 => ?_⟩
  refine wpAny_items_nil ⟨by simp; omega, fun a5 s₁₁ u₁₁ _ h5 => ?_⟩
  refine wpAny_items_nil ⟨by simp; omega, fun a6 s₁₂ u₁₂ _ h6 => ?_⟩
  have v310 : Up s₃ s₁₁ := (((((u₄.trans u₅).trans u₆).trans u₇).trans u₈).trans u₉).trans (u₁₀.trans u₁₁)
  have u112 : Up s₁ s₁₂ := ((u₂.trans u₃).trans v310).trans u₁₂
  have C₁₂ := C.up u112
  have G₁₂ := G.up C₁₂.tr
  refine callN G₁₂ (g_draw w) (k_142 w) (wpAny_items_cons (nm C₁₂ (by exact rfl) (wpAny_items_cons (ci fun tk s₁₃ u₁₃ => wpAny_items_nil ⟨(G₁₂.up u₁₃).gd.K, ?_⟩))))
  refine draw_ok (X := X) (G₁₂.up u₁₃) hX ((hf.up C₁₂.tr).up u₁₃) hk (by decide) hh (by show A.depth + 1 < _; omega) fun tk' s₁₄ r t₁₄ f₁₄ hr => ?_
  have big : Tr [D] s s₁₄ := (Up.to (C₁₂.tr.trans u₁₃) _).trans t₁₄
  have q3 : TLe s₃.heap s₁₄.heap := ((v310.trans u₁₂).trans u₁₃).tup.trans t₁₄.tup
  have q5 : TLe s₅.heap s₁₄.heap := ((((u₆.trans u₇).trans u₈).trans u₉).trans ((u₁₀.trans u₁₁).trans (u₁₂.trans u₁₃))).tup.trans t₁₄.tup
  have q7 : TLe s₇.heap s₁₄.heap := ((u₈.trans u₉).trans ((u₁₀.trans u₁₁).trans (u₁₂.trans u₁₃))).tup.trans t₁₄.tup
  have q10 : TLe s₁₀.heap s₁₄.heap := (u₁₁.trans (u₁₂.trans u₁₃)).tup.trans t₁₄.tup
  have q11 : TLe s₁₁.heap s₁₄.heap := (u₁₂.trans u₁₃).tup.trans t₁₄.tup
  have q12 : TLe s₁₂.heap s₁₄.heap := u₁₃.tup.trans t₁₄.tup
  have m1 : Tm s₁₄.heap (.ref a1) tA := Tm.close (l := .a) (IsTup.tle h1 q3) RdAll.nil
  have m2 : Tm s₁₄.heap (.ref a2) tB := Tm.close (l := .b) (IsTup.tle h2 q5) RdAll.nil
  have m3 : Tm s₁₄.heap (.ref a3) tA := Tm.close (l := .a) (IsTup.tle h3 q7) RdAll.nil
  have m4 : Tm s₁₄.heap (.ref a4) tB := Tm.close (l := .b) (IsTup.tle h4 q10) RdAll.nil
  have m5 : Tm s₁₄.heap (.ref a5) tFB := Tm.close (l := .f) (IsTup.tle h5 q11) (Tms.one m4)
  have h6' := IsTup.tle h6 q12
  have hr' : r < 4 := by omega
  match r, hr' with
  | 0, _ => exact ⟨a6, _, 0, tk', .ref a1, rfl, rfl, h6', rfl, by simp; omega, h _ _ _ big f₁₄ m1 (.inl rfl)⟩
  | 1, _ => exact ⟨a6, _, 1, tk', .ref a2, rfl, rfl, h6', rfl, by simp; omega, h _ _ _ big f₁₄ m2 (.inr (.inl rfl))⟩
  | 2, _ => exact ⟨a6, _, 2, tk', .ref a3, rfl, rfl, h6', rfl, by simp; omega, h _ _ _ big f₁₄ m3 (.inl rfl)⟩
  | 3, _ => exact ⟨a6, _, 3, tk', .ref a5, rfl, rfl, h6', rfl, by simp; omega, h _ _ _ big f₁₄ m5 (.inr (.inr rfl))⟩
end
end Mine
end
section
set_option maxRecDepth 100000
set_option maxHeartbeats 1000000
set_option linter.constructorNameAsVariable false
set_option linter.unusedVariables false
open PySem PySem.W PyProof.Rows PySem.Calls PySem.Spec
namespace Mine
mutual
noncomputable def wt : Term → Prop
  | .mk l ks => ((l = .a ∨ l = .b) ∧ ks = []) ∨ (l = .f ∧ ks = [tB]) ∨ ((l = .p ∨ l = .s) ∧ 2 ≤ ks.length ∧ wts ks)
noncomputable def wts : List Term → Prop
  | [] => True
  | x :: xs => wt x ∧ wts xs
end
inductive Cx3 where
  | id | f | g
noncomputable def Cx3.app : Cx3 → Term → Term
  | .id, t => t
  | .f, t => .mk .f [t]
  | .g, t => .mk .g [t, tB]
noncomputable def LawT (T : Term) : Prop := ∃ (c : Cx3) (w : Term), T = c.app w ∧ wt w ∧ (w.lab = .p ∨ w.lab = .s) ∧ w.lv ≤ 4
theorem small_wt {T : Term} (h : isSmall T) : wt T ∧ T.lv = 1 := by
  rcases h with rfl | rfl | rfl
  · exact ⟨by rw [tA, wt]; exact .inl ⟨.inl rfl, rfl⟩, rfl⟩
  · exact ⟨by rw [tB, wt]; exact .inl ⟨.inr rfl, rfl⟩, rfl⟩
  · exact ⟨by rw [tFB, wt]; exact .inr (.inl ⟨rfl, rfl⟩), rfl⟩
theorem wts_iff : ∀ xs : List Term, wts xs ↔ ∀ x ∈ xs, wt x
  | [] => by simp [wts]
  | x :: xs => by simp [wts, wts_iff xs]
theorem smalls_wts {xs : List Term} (h : ∀ x ∈ xs, isSmall x) : wts xs ∧ Term.lvs xs = xs.length := by
  induction xs with
  | nil => exact ⟨trivial, rfl⟩
  | cons x xs ih =>
    obtain ⟨a, b⟩ := ih fun y hy => h y (.tail _ hy)
    obtain ⟨c, d⟩ := small_wt (h x (.head _))
    exact ⟨⟨c, a⟩, by rw [Term.lvs, b, d, List.length_cons]; omega⟩
theorem wt_ps {l : Lab} {ks : List Term} (hl : l = .p ∨ l = .s) (h2 : 2 ≤ ks.length) (h : wts ks) : wt (.mk l ks) := by rw [wt]; exact .inr (.inr ⟨hl, h2, h⟩)
theorem lv_ps {l : Lab} {ks : List Term} (h2 : 2 ≤ ks.length) : (Term.mk l ks).lv = Term.lvs ks := by
  have := Term.len_lvs ks
  rw [Term.lv]; omega

section
variable {prog : Program} {w : World} {A : Around} {E : Value → Shared → Prop} {s : Shared}
theorem lset {l : Addr} {ys : List Value} {k : Nat} {t : Tok} {v : Value} {Q : Unit → Shared → Prop} (hl : s.heap.IsList l ys.toArray) (hk : k < ys.length) (hsz : ys.length ≤ sizeLine)
    (h : ∀ s', Tr [l] s s' → s'.heap.IsList l (ys.set k v).toArray → Q () s') : wpAny (model prog w) A (setItem (.ref l) (.int (k : Nat) t) v) Q E s := by
  have h62 : sizeLine ≤ 2 ^ 62 := by rw [PySem.sizeLine_eq]; decide
  refine wpAny_setItem_list hl (by omega) (by omega) (by simpa using hk) fun h' hl' hs' => ?_
  have nt : ∀ o, s.heap.get? l = some o → ¬ IsT o := by
    obtain ⟨o, e, c, _⟩ := hl
    rintro o' e' ⟨c', _⟩
    rw [e] at e'; cases e'; rw [c] at c'; exact absurd c' (by simp)
  refine h _ (Tr.of_but (tk := s.toks) hs' nt) ?_
  have e : ys.toArray.setIfInBounds ((k : Nat) : Int).toNat v = (ys.set k v).toArray := by simp
  rw [e] at hl'; exact hl'
theorem tupleOfL {l : Addr} {vs : List Value} {Q : Value → Shared → Prop} (hl : s.heap.IsList l vs.toArray) (hsz : vs.length ≤ sizeLine)
    (h : ∀ t s', Up s s' → IsTup s'.heap t vs.toArray → Q (.ref t) s') : wpAny (model prog w) A (call (.type "tuple") [.ref l]) Q E s := by
  refine call_tuple_list hl (fun h' k => ?_) (by simpa using hsz)
  exact h _ _ (Up.mk' (tk := s.toks) fun b o e => Heap.get?_push_of_some _ (k b o e)) (IsTup.new _ _)
theorem IsList.at {h h' : Heap} {l : Addr} {xs : Array Value} (x : h.IsList l xs) (k : ∀ o, h.get? l = some o → h'.get? l = some o) : h'.IsList l xs := let ⟨o, e, r⟩ := x; ⟨o, k o e, r⟩

theorem term_ok {X : List Addr} {D c : Addr} {k : Nat} {Q : Value → Shared → Prop} (G : Gx w X s.heap) (hX : D ∈ X ∧ c ∈ X) (hf : FeedAt prog w D c k s.heap) (hk : k ≤ 900000) (hh : A.handled = none) (hd : A.depth + 3 < recursionLimit)
    (h : ∀ v s' T k', Tr [D, c] s s' → FeedAt prog w D c k' s'.heap → k' ≤ k + 20 → Tm s'.heap v T → LawT T → Q v s') : wpAny (model prog w) A (call (.ref 154) [.ref D]) Q E s := by
  have hsl : 1000000 ≤ sizeLine := by rw [PySem.sizeLine_eq]; decide
  obtain ⟨⟨oD, hoD⟩, oc, hoc⟩ := hf.ex
  refine enterC (binds := [("feed", .ref D)]) G (by exact rfl) (by exact rfl) (by omega) (by exact rfl) (by exact rfl) rfl rfl rfl (fun L s₁ C₀ Y hfresh G₁ => ?_)
  replace C₀ : Cx [] s L (fun (_ : Str) => (none : Option Value)) s₁ := C₀
  have hcell : s₁.heap.IsCell (L + 1) (some (.ref D)) := Y.cell "feed" (L + 1) (by exact rfl)
  have hLs : s.heap.get? L = none := C₀.nL
  have hL1s : s.heap.get? (L + 1) = none := hfresh "feed" (L + 1) (by exact rfl)
  clear hfresh Y
  have hDL : D ≠ L := by rintro rfl; rw [hLs] at hoD; cases hoD
  have hcL : c ≠ L := by rintro rfl; rw [hLs] at hoc; cases hoc
  have hDL1 : D ≠ L + 1 := by rintro rfl; rw [hL1s] at hoD; cases hoD
  have hcL1 : c ≠ L + 1 := by rintro rfl; rw [hL1s] at hoc; cases hoc
  have C₁ : Cx [D, c] s L _ s₁ := C₀.wide [D, c]
  have F₁ := hf.up C₀.tr
  replace G : Gx w [D, c] s.heap := G.mono (by simpa using hX)
  refine wpAny_execs_cons ?_
  refine comp1AG (X := [D, c]) (s₀ := s) (L := L) (m := fun (_ : Str) => (none : Option Value)) (cl := [("feed", L + 1)]) hh (by exact rfl) (by exact rfl) (by decide) (by exact rfl) (by decide) (by intro _; rfl) (by exact rfl) (by exact rfl) (by exact rfl) ?_
  refine callT (G.step C₁.tr) (g_range w) PyProof.Rows.boot_range (by decide) ?_
  refine wpAny_items_cons ?_
  refine wpAny_BinOp ?_
  refine ci fun t1 s₂ u₂ => ?_
  have C₂ := C₁.up u₂
  refine callN (G.step C₂.tr) (g_draw w) (k_142 w) ?_
  refine wpAny_items_cons ?_
  refine nmC (IsCell.up hcell u₂.le) ?_ (by exact rfl) (by exact rfl) (by exact rfl)
  refine wpAny_items_cons ?_
  refine ci fun t2 s₃ u₃ => ?_
  have C₃ := C₂.up u₃
  have u13 := u₂.trans u₃
  refine wpAny_items_nil ⟨(G.step C₃.tr).gd.K, ?_⟩
  refine draw_ok (X := [D, c]) (c := c) (k := k) (G.step C₃.tr) (by simp) (F₁.up u13) (by omega) (by decide) hh (by show A.depth + 1 < _; omega) fun t3 s₄ r t₄ F₄ hr => ?_
  have C₄ : Cx [D, c] s L _ s₄ := C₃.step t₄ (by simp [hDL])
  have hcell₄ : s₄.heap.IsCell (L + 1) (some (.ref D)) := IsCell.tr (IsCell.up hcell u13.le) t₄ (by simpa using Ne.symm hDL1)
  refine add_ints fun t5 s₅ u₅ => ?_
  refine wpAny_items_nil ?_
  refine range1 fun rg s₆ q1 q2 q3 u₆ hrg => ?_
  have u46 := u₅.trans u₆
  have C₆ := C₄.up u46
  have F₆ := F₄.up u46
  have hcell₆ := IsCell.up hcell₄ u46.le
  have hr2 : r < 2 := by omega
  refine ⟨[D, c], fun i ys s' => FeedAt prog w D c (k + 1 + i) s'.heap ∧ ∃ xs, Tms s'.heap ys xs ∧ xs.length = i ∧ ∀ x ∈ xs, isSmall x, (((2 : Int) + (r : Nat)) - 0).toNat, _,
    ⟨Opens.src (opens_range (by exact hh) hrg (by decide) (by decide) (by omega) (by omega)), by omega, ?_, ?_, ⟨F₆, [], RdAll.nil, rfl, by simp⟩, ?_⟩, C₆, fun b hb => .inl hb, by simp; exact ⟨Ne.symm hDL, Ne.symm hcL⟩, fun D₁ ys s₇ hD₁n t₇ C₇ hD₁ f₇ => ?_⟩
  · intro b hb
    simp at hb
    rcases hb with rfl | rfl
    · exact F₆.ex.1
    · exact F₆.ex.2
  · rintro i ys W' sa sb hW t ⟨f1, xs, f2, f3, f4⟩
    exact ⟨f1.step t (fun q => hW _ q (by simp)) (fun q => hW _ q (by simp)), xs, f2.up t.tup, f3, f4⟩
  · rintro Cc hCc i v ys sa ma hi hv ta na ⟨fa, xs, f2, f3, f4⟩
    have Ca : Cx [D, c] s₆ Cc ma sa := ⟨ta, na, hCc⟩
    refine wpAny_assign_Name ?_
    refine st Ca fun sb tb Cb => ?_
    have hDC : D ≠ Cc := by rintro rfl; obtain ⟨o, e⟩ := F₆.ex.1; rw [hCc] at e; cases e
    have hcC : c ≠ Cc := by rintro rfl; obtain ⟨o, e⟩ := F₆.ex.2; rw [hCc] at e; cases e
    have fb := fa.step tb (by simpa using hDC) (by simpa using hcC)
    refine wpAny_tests_nil ?_
    rw [if_pos rfl]
    have Gb : Gx w [D, c] sb.heap := ((G.step C₆.tr).step Cb.tr)
    have hcb : sb.heap.IsCell (L + 1) (some (.ref D)) := IsCell.tr hcell₆ Cb.tr (by simp; exact ⟨Ne.symm hDL1, Ne.symm hcL1⟩)
    refine callN Gb (g_small w) (k_149 w) ?_
    refine wpAny_items_cons ?_
    refine nmC hcb ?_ (by exact rfl) (by exact rfl) (by exact rfl)
    refine wpAny_items_nil ⟨Gb.gd.K, ?_⟩
    refine small_ok (X := [D, c]) (c := c) Gb (by simp) fb (by omega) hh (by show A.depth + 1 + 1 < _; omega) fun v sc T tc fc hv hT => ?_
    refine ⟨?_, ⟨_, Cb.ns.at' fun o e => tc.keep _ o (by simpa using Ne.symm hDC) e⟩, ?_⟩
    · exact (tb.mono (by simp)).trans (tc.mono (by simp))
    · exact ⟨fc, xs ++ [T], Tms.app (f2.up (tb.tup.trans tc.tup)) (Tms.one hv), by simp [f3], fun x hx => by
        rcases List.mem_append.mp hx with hx | hx
        · exact f4 x hx
        · simp at hx; subst hx; exact hT⟩
  · obtain ⟨F₇, xs, hys, hxl, hxs⟩ := f₇
    have hn : (((2 : Int) + (r : Nat)) - 0).toNat = 2 + r := by omega
    rw [hn] at F₇ hxl
    obtain ⟨hw0, hl0⟩ := smalls_wts hxs
    have hD₁D : D₁ ≠ D := by rintro rfl; obtain ⟨o, e⟩ := F₆.ex.1; rw [hD₁n] at e; cases e
    have hD₁c : D₁ ≠ c := by rintro rfl; obtain ⟨o, e⟩ := F₆.ex.2; rw [hD₁n] at e; cases e
    have hD₁L : D₁ ≠ L := plain_ne_ns hD₁ C₇.ns
    have hD₁L1 : D₁ ≠ L + 1 := by rintro rfl; obtain ⟨o, e, _⟩ := hcell₆; rw [hD₁n] at e; cases e
    have hD₁s : s.heap.get? D₁ = none := by
      cases e : s.heap.get? D₁ with
      | none => rfl
      | some o =>
        have := C₆.tr.keep D₁ o (by simp; exact ⟨hD₁D, hD₁c⟩) e
        rw [hD₁n] at this; cases this
    have hcell₇ : s₇.heap.IsCell (L + 1) (some (.ref D)) := IsCell.tr hcell₆ t₇ (by simp; exact ⟨Ne.symm hDL1, Ne.symm hcL1⟩)
    have hyl := Tms.len hys
    refine wpAny_execs_cons (wpQ (Q' := fun f s' => f = .next ∧ ∃ k2 ys2 xs2, Cx [D, c] s L (fun z => if z = "some" then some (.ref D₁) else none) s' ∧ FeedAt prog w D c k2 s'.heap ∧ k2 ≤ k + 10 ∧ s'.heap.IsList D₁ (List.toArray ys2) ∧ Tms s'.heap ys2 xs2 ∧ xs2.length = 2 + r ∧ wts xs2 ∧ Term.lvs xs2 ≤ 3 + r ∧ s'.heap.IsCell (L + 1) (some (.ref D))) ?_ ?_)
    · refine wpAny_If ?_
      refine wpAny_isTrue_Compare1 ?_
      have G₇ := G.step C₇.tr
      refine callN G₇ (g_draw w) (k_142 w) ?_
      refine wpAny_items_cons ?_
      refine nmC hcell₇ ?_ (by exact rfl) (by exact rfl) (by exact rfl)
      refine wpAny_items_cons ?_
      refine ci fun t8 s₈ u₈ => ?_
      refine wpAny_items_nil ⟨(G₇.up u₈).gd.K, ?_⟩
      refine draw_ok (X := [D, c]) (c := c) (G₇.up u₈) (by simp) (F₇.up u₈) (by omega) (by decide) hh (by show A.depth + 1 < _; omega) fun t9 s₉ r2 t₉ F₉ hr2 => ?_
      have C₉ := (C₇.up u₈).step t₉ (by simp [hDL])
      refine ci fun t10 s₁₀ u₁₀ => ?_
      refine eq_int (wpAny_truthy_bool ?_)
      have C₁₀ := C₉.up u₁₀
      have F₁₀ := F₉.up u₁₀
      have hcell₁₀ : s₁₀.heap.IsCell (L + 1) (some (.ref D)) := IsCell.up (IsCell.tr (IsCell.up hcell₇ u₈.le) t₉ (by simpa using Ne.symm hDL1)) u₁₀.le
      have hl₁₀ : s₁₀.heap.IsList D₁ ys.toArray := IsList.at hD₁.isList fun o e => u₁₀.le _ _ (t₉.keep _ o (by simpa using hD₁D) (u₈.le _ _ e))
      have tle₁₀ : TLe s₇.heap s₁₀.heap := u₈.tup.trans (t₉.tup.trans u₁₀.tup)
      by_cases hz : (((r2 : Nat) : Int) == 0) = true
      · rw [if_pos hz]
        refine wpAny_execs_cons ?_
        refine wpAny_Assign_Subscript ?_ (by exact rfl)
        refine tupleD ?_
        refine wpAny_items_cons ?_
        refine ct fun t11 s₁₁ u₁₁ => ?_
        refine wpAny_items_cons ?_
        have C₁₁ := C₁₀.up u₁₁
        have G₁₁ := G.step C₁₁.tr
        have hc₁₁ := IsCell.up hcell₁₀ u₁₁.le
        refine callN G₁₁ (g_small w) (k_149 w) ?_
        refine wpAny_items_cons ?_
        refine nmC hc₁₁ ?_ (by exact rfl) (by exact rfl) (by exact rfl)
        refine wpAny_items_nil ⟨G₁₁.gd.K, ?_⟩
        refine small_ok (X := [D, c]) (c := c) G₁₁ (by simp) (F₁₀.up u₁₁) (by omega) hh (by show A.depth + 1 + 1 < _; omega) fun v1 s₁₂ T1 t₁₂ F₁₂ hv1 hT1 => ?_
        have C₁₂ := C₁₁.step t₁₂ (by simp [hDL])
        have hc₁₂ : s₁₂.heap.IsCell (L + 1) (some (.ref D)) := IsCell.tr hc₁₁ t₁₂ (by simpa using Ne.symm hDL1)
        refine wpAny_items_cons ?_
        have G₁₂ := G.step C₁₂.tr
        refine callN G₁₂ (g_small w) (k_149 w) ?_
        refine wpAny_items_cons ?_
        refine nmC hc₁₂ ?_ (by exact rfl) (by exact rfl) (by exact rfl)
        refine wpAny_items_nil ⟨G₁₂.gd.K, ?_⟩
        refine small_ok (X := [D, c]) (c := c) G₁₂ (by simp) F₁₂ (by omega) hh (by show A.depth + 1 + 1 < _; omega) fun v2 s₁₃ T2 t₁₃ F₁₃ hv2 hT2 => ?_
        have C₁₃ := C₁₂.step t₁₃ (by simp [hDL])
        refine wpAny_items_nil ⟨by simp; omega, fun a3 s₁₄ u₁₄ _ h3 => ?_⟩
        have C₁₄ := C₁₃.up u₁₄
        refine nm C₁₄ (by exact rfl) ?_
        refine ci fun t15 s₁₅ u₁₅ => ?_
        have tle : TLe s₁₀.heap s₁₅.heap := u₁₁.tup.trans (t₁₂.tup.trans (t₁₃.tup.trans (u₁₄.tup.trans u₁₅.tup)))
        have hl₁₅ : s₁₅.heap.IsList D₁ ys.toArray := IsList.at hl₁₀ fun o e => u₁₅.le _ _ (u₁₄.le _ _ (t₁₃.keep _ o (by simpa using hD₁D) (t₁₂.keep _ o (by simpa using hD₁D) (u₁₁.le _ _ e))))
        refine lset (k := 0) hl₁₅ (by omega) (by omega) fun s₁₆ t₁₆ hl₁₆ => ?_
        have C₁₆ := (C₁₄.up u₁₅).step t₁₆ (by simp; exact ⟨.inl hD₁s, hD₁L⟩)
        refine wpAny_execs_nil ⟨rfl, k + 1 + (2 + r) + 1 + 1 + 1, ys.set 0 (.ref a3), xs.set 0 (.mk .s [T1, T2]), C₁₆, ?_, by omega, hl₁₆, ?_, by rw [List.length_set, hxl], ?_, ?_, ?_⟩
        · exact ((F₁₃.up u₁₄).up u₁₅).step t₁₆ (by simpa using Ne.symm hD₁D) (by simpa using Ne.symm hD₁c)
        · have tl2 : TLe s₁₂.heap s₁₆.heap := t₁₃.tup.trans (u₁₄.tup.trans (u₁₅.tup.trans t₁₆.tup))
          have tl3 : TLe s₁₃.heap s₁₆.heap := u₁₄.tup.trans (u₁₅.tup.trans t₁₆.tup)
          have n1 : Tm s₁₆.heap (.ref a3) (.mk .s [T1, T2]) := Tm.close (l := .s) (IsTup.tle h3 (u₁₅.tup.trans t₁₆.tup)) (RdAll.cons (hv1.up tl2) (RdAll.cons (hv2.up tl3) RdAll.nil))
          have n2 : Tms s₁₆.heap ys xs := hys.up (tle₁₀.trans (tle.trans t₁₆.tup))
          match ys, xs, n2, hxl with
          | y :: ys, x :: xs, n2, _ => exact RdAll.cons n1 n2.uncons.2
          | [], x :: xs, n2, _ => exact absurd n2.len (by simp)
          | _, [], _, hxl => simp at hxl; omega
        · match xs, hw0, hxl with
          | x :: xs, hw0, _ => exact ⟨wt_ps (.inr rfl) (by simp) ⟨(small_wt hT1).1, (small_wt hT2).1, trivial⟩, hw0.2⟩
          | [], _, hxl => simp at hxl; omega
        · match xs, hl0, hxl, hxs with
          | x :: xs, hl0, hxl, hxs =>
            have b1 := (small_wt (hxs x (.head _))).2
            have b2 := (small_wt hT1).2
            have b3 := (small_wt hT2).2
            have : (Term.mk .s [T1, T2]).lv = 2 := by rw [lv_ps (by simp)]; simp [Term.lvs, b2, b3]
            simp only [List.set_cons_zero, Term.lvs, this] at hl0 ⊢
            simp only [List.length_cons] at hl0 hxl
            omega
          | [], _, hxl, _ => simp at hxl; omega
        · exact IsCell.tr (IsCell.up (IsCell.up (IsCell.tr hc₁₂ t₁₃ (by simpa using Ne.symm hDL1)) u₁₄.le) u₁₅.le) t₁₆ (by simpa using Ne.symm hD₁L1)
      · rw [if_neg hz]
        exact wpAny_execs_nil ⟨rfl, k + 1 + (2 + r) + 1, ys, xs, C₁₀, F₁₀, by omega, hl₁₀, hys.up tle₁₀, hxl, hw0, by omega, hcell₁₀⟩
    · rintro f s₂₀ ⟨rfl, k2, ys2, xs2, C₂₀, F₂₀, hk2, hl₂₀, ht₂₀, hx2, hw2, hlv2, hc₂₀⟩
      clear hys hD₁ F₇ hcell₇ C₇
      have hyl2 := Tms.len ht₂₀
      have G₂₀ := G.step C₂₀.tr
      refine wpAny_execs_cons ?_
      refine wpAny_Assign_Name ?_
      refine callN G₂₀ (g_draw w) (k_142 w) ?_
      refine wpAny_items_cons ?_
      refine nmC hc₂₀ ?_ (by exact rfl) (by exact rfl) (by exact rfl)
      refine wpAny_items_cons ?_
      refine ci fun t21 s₂₁ u₂₁ => ?_
      refine wpAny_items_nil ⟨(G₂₀.up u₂₁).gd.K, ?_⟩
      refine draw_ok (X := [D, c]) (c := c) (G₂₀.up u₂₁) (by simp) (F₂₀.up u₂₁) (by omega) (by decide) hh (by show A.depth + 1 < _; omega) fun tw s₂₂ way t₂₂ F₂₂ hway => ?_
      have C₂₂ := (C₂₀.up u₂₁).step t₂₂ (by simp [hDL])
      refine st C₂₂ fun s₂₃ t₂₃ C₂₃ => ?_
      have F₂₃ := F₂₂.step t₂₃ (by simpa using hDL) (by simpa using hcL)
      have tle₂₃ : TLe s₂₀.heap s₂₃.heap := u₂₁.tup.trans (t₂₂.tup.trans t₂₃.tup)
      have ht₂₃ : Tms s₂₃.heap ys2 xs2 := ht₂₀.up tle₂₃
      have hl₂₃ : s₂₃.heap.IsList D₁ ys2.toArray := IsList.at hl₂₀ fun o e => t₂₃.keep _ o (by simpa using hD₁L) (t₂₂.keep _ o (by simpa using hD₁D) (u₂₁.le _ _ e))
      have hway4 : way < 4 := by omega
      have fin : ∀ v s' T, Up s₂₃ s' → Tm s'.heap v T → LawT T → Q v s' := fun v s' T u hv hT => h v s' T (k2 + 1) (C₂₃.up u).tr (F₂₃.up u) (by omega) hv hT
      refine wpAny_execs_cons ?_
      refine wpAny_If (wpQ (Q' := fun bb s' => bb = (decide (way = 3) && decide (xs2.length = 3)) ∧ Up s₂₃ s') ?_ fun bb s₂₄ h₂₄ => ?_)
      · refine isTrue_and (wpAny_isTrue_Compare1 ?_)
        refine nm C₂₃ (by exact rfl) ?_
        refine ci fun t24 s₂₄ u₂₄ => ?_
        refine eq_int (wpAny_truthy_bool ?_)
        have e1 : (((way : Nat) : Int) == 3) = decide (way = 3) := by
          by_cases q : way = 3
          · subst q; rfl
          · have : ¬ ((way : Nat) : Int) = 3 := by omega
            simp [q, this]
        rw [e1]
        cases hq : decide (way = 3) with
        | false => exact ⟨rfl, u₂₄⟩
        | true =>
          simp only [if_true]
          refine isTrue_and (wpAny_isTrue_Compare1 ?_)
          have C₂₄ := C₂₃.up u₂₄
          refine callB (G.step C₂₄.tr) (g_len w) boot_len (by decide) ?_
          refine wpAny_items_cons ?_
          refine nm C₂₄ (by exact rfl) ?_
          refine wpAny_items_nil ?_
          refine len_l (IsList.at hl₂₃ fun o e => u₂₄.le _ _ e) (by omega) fun t25 s₂₅ u₂₅ => ?_
          refine ci fun t26 s₂₆ u₂₆ => ?_
          refine eq_int (wpAny_truthy_bool ?_)
          have e2 : (((ys2.length : Nat) : Int) == 3) = decide (xs2.length = 3) := by
            rw [hyl2]
            by_cases q : xs2.length = 3
            · rw [q]; rfl
            · have : ¬ ((xs2.length : Nat) : Int) = 3 := by omega
              simp [q, this]
          rw [e2]
          cases hq2 : decide (xs2.length = 3) with
          | false => exact ⟨rfl, (u₂₄.trans u₂₅).trans u₂₆⟩
          | true => exact isTrue_and_nil ⟨rfl, (u₂₄.trans u₂₅).trans u₂₆⟩
      · obtain ⟨rfl, u₂₄⟩ := h₂₄
        have C₂₄ := C₂₃.up u₂₄
        have hl₂₄ : s₂₄.heap.IsList D₁ ys2.toArray := IsList.at hl₂₃ fun o e => u₂₄.le _ _ e
        have ht₂₄ : Tms s₂₄.heap ys2 xs2 := ht₂₃.up u₂₄.tup
        by_cases hb : (decide (way = 3) && decide (xs2.length = 3)) = true
        · rw [if_pos hb]
          simp only [Bool.and_eq_true, decide_eq_true_eq] at hb
          obtain ⟨y0, y1, y2, rfl⟩ : ∃ a b c, ys2 = [a, b, c] := by
            match ys2, (show ys2.length = 3 by omega) with
            | [a, b, c], _ => exact ⟨a, b, c, rfl⟩
          obtain ⟨x0, x1, x2, rfl⟩ : ∃ a b c, xs2 = [a, b, c] := by
            match xs2, hb.2 with
            | [a, b, c], _ => exact ⟨a, b, c, rfl⟩
          obtain ⟨m0, rr⟩ := ht₂₄.uncons
          obtain ⟨m1, rr⟩ := rr.uncons
          obtain ⟨m2, _⟩ := rr.uncons
          have up_l : ∀ {s'}, Up s₂₄ s' → s'.heap.IsList D₁ [y0, y1, y2].toArray := fun u => IsList.at hl₂₄ fun o e => u.le _ _ e
          refine wpAny_execs_cons ?_
          refine wpAny_Return_some ?_
          refine tupleD ?_
          refine wpAny_items_cons ?_
          refine ct fun t30 s₃₀ u₃₀ => ?_
          refine wpAny_items_cons ?_
          refine lidx (nm (C₂₄.up u₃₀) (by exact rfl) (ci fun t31 s₃₁ u₃₁ => ?_))
          have w31 := u₃₀.trans u₃₁
          refine ⟨D₁, _, 0, t31, y0, rfl, rfl, up_l w31, rfl, by simp; omega, ?_⟩
          refine wpAny_items_cons ?_
          refine tupleD ?_
          refine wpAny_items_cons ?_
          refine ct fun t32 s₃₂ u₃₂ => ?_
          have w32 := w31.trans u₃₂
          refine wpAny_items_cons ?_
          refine lidx (nm (C₂₄.up w32) (by exact rfl) (ci fun t33 s₃₃ u₃₃ => ?_))
          have w33 := w32.trans u₃₃
          refine ⟨D₁, _, 1, t33, y1, rfl, rfl, up_l w33, rfl, by simp; omega, ?_⟩
          refine wpAny_items_cons ?_
          refine lidx (nm (C₂₄.up w33) (by exact rfl) (ci fun t34 s₃₄ u₃₄ => ?_))
          have w34 := w33.trans u₃₄
          refine ⟨D₁, _, 2, t34, y2, rfl, rfl, up_l w34, rfl, by simp; omega, ?_⟩
          refine wpAny_items_nil ⟨by simp; omega, fun a1 s₃₅ u₃₅ _ h1 => ?_⟩
          refine wpAny_items_nil ⟨by simp; omega, fun a2 s₃₆ u₃₆ _ h2 => ?_⟩
          have w36 := (w34.trans u₃₅).trans u₃₆
          have n1 : Tm s₃₆.heap (.ref a1) (.mk .p [x1, x2]) := Tm.close (l := .p) (h1.keeps u₃₆.le) (RdAll.cons (m1.up w36.tup) (RdAll.cons (m2.up w36.tup) RdAll.nil))
          refine fin _ s₃₆ (.mk .p [x0, .mk .p [x1, x2]]) (u₂₄.trans w36) (Tm.close (l := .p) h2 (RdAll.cons (m0.up w36.tup) (RdAll.cons n1 RdAll.nil))) ⟨.id, _, rfl, ?_, .inl rfl, ?_⟩
          · exact wt_ps (.inl rfl) (by simp) ⟨hw2.1, wt_ps (.inl rfl) (by simp) ⟨hw2.2.1, hw2.2.2.1, trivial⟩, trivial⟩
          · rw [lv_ps (by simp)]
            have : (Term.mk .p [x1, x2]).lv = Term.lvs [x1, x2] := lv_ps (by simp)
            simp only [Term.lvs] at this hlv2 ⊢
            rw [this]
            have : r = 1 := by have := hb.2; simp at hx2; omega
            omega
        · rw [if_neg hb]
          refine wpAny_execs_nil ?_
          refine wpAny_execs_cons ?_
          refine wpAny_Assign_Name ?_
          refine wpAny_BinOp ?_
          refine tupleD ?_
          refine wpAny_items_cons ?_
          refine ct fun t30 s₃₀ u₃₀ => ?_
          refine wpAny_items_nil ⟨by simp; omega, fun a1 s₃₁ u₃₁ _ h1 => ?_⟩
          have w31 := u₃₀.trans u₃₁
          have C₃₁ := C₂₄.up w31
          refine callT (G.step C₃₁.tr) (g_tuple w) PyProof.Rows.boot_tuple (by decide) ?_
          refine wpAny_items_cons ?_
          refine nm C₃₁ (by exact rfl) ?_
          refine wpAny_items_nil ?_
          refine tupleOfL (IsList.at hl₂₄ fun o e => w31.le _ _ e) (by omega) fun t32 s₃₂ u₃₂ h32 => ?_
          refine tadd (h1.keeps u₃₂.le) h32 (by simp; omega) fun wa s₃₃ u₃₃ hwa => ?_
          have w33 := (w31.trans u₃₂).trans u₃₃
          have mW : Tm s₃₃.heap (.ref wa) (.mk .p xs2) := Tm.close (l := .p) hwa (ht₂₄.up w33.tup)
          have hW : wt (.mk .p xs2) ∧ (Term.mk .p xs2).lv ≤ 4 := ⟨wt_ps (.inl rfl) (by omega) hw2, by rw [lv_ps (by omega)]; omega⟩
          refine st (C₂₄.up w33) fun s₃₄ t₃₄ C₃₄ => ?_
          have mW' := mW.up t₃₄.tup
          have F₃₄ := (F₂₃.up (u₂₄.trans w33)).step t₃₄ (by simpa using hDL) (by simpa using hcL)
          have fin2 : ∀ v s' T, Up s₃₄ s' → Tm s'.heap v T → LawT T → Q v s' := fun v s' T u hv hT => h v s' T (k2 + 1) (C₃₄.up u).tr (F₃₄.up u) (by omega) hv hT
          refine wpAny_execs_cons ?_
          refine wpAny_Return_some ?_
          refine tidx ?_
          refine tupleD ?_
          refine wpAny_items_cons ?_
          refine nm C₃₄ (by exact rfl) ?_
          refine wpAny_items_cons ?_
          refine tupleD ?_
          refine wpAny_items_cons ?_
          refine ct fun t35 s₃₅ u₃₅ => ?_
          refine wpAny_items_cons ?_
          refine nm (C₃₄.up u₃₅) (by exact rfl) ?_
          refine wpAny_items_nil ⟨by simp; omega, fun a2 s₃₆ u₃₆ _ h2 => ?_⟩
          have w36 := u₃₅.trans u₃₆
          refine wpAny_items_cons ?_
          refine tupleD ?_
          refine wpAny_items_cons ?_
          refine ct fun t37 s₃₇ u₃₇ => ?_
          refine wpAny_items_cons ?_
          refine nm (C₃₄.up (w36.trans u₃₇)) (by exact rfl) ?_
          refine wpAny_items_cons ?_
          refine tupleD ?_
          refine wpAny_items_cons ?_
          refine ct fun t38 s₃₈ u₃₈ => ?_
          refine wpAny_items_nil ⟨by simp; omega, fun a3 s₃₉ u₃₉ _ h3 => ?_⟩
          refine wpAny_items_nil ⟨by simp; omega, fun a4 s₄₀ u₄₀ _ h4 => ?_⟩
          have w40 := (((w36.trans u₃₇).trans u₃₈).trans u₃₉).trans u₄₀
          refine wpAny_items_cons ?_
          refine nm (C₃₄.up w40) (by exact rfl) ?_
          refine wpAny_items_nil ⟨by simp; omega, fun a5 s₄₁ u₄₁ _ h5 => ?_⟩
          have w41 := w40.trans u₄₁
          refine nm (C₃₄.up w41) (by exact rfl) ?_
          have mW4 := mW'.up w41.tup
          have v36 : Up s₃₆ s₄₁ := (((u₃₇.trans u₃₈).trans u₃₉).trans u₄₀).trans u₄₁
          have mf : Tm s₄₁.heap (.ref a2) (.mk .f [.mk .p xs2]) := Tm.close (l := .f) (h2.keeps v36.le) (Tms.one mW4)
          have mb : Tm s₄₁.heap (.ref a3) tB := Tm.close (l := .b) (h3.keeps (u₄₀.trans u₄₁).le) RdAll.nil
          have mg : Tm s₄₁.heap (.ref a4) (.mk .g [.mk .p xs2, tB]) := Tm.close (l := .g) (h4.keeps u₄₁.le) (RdAll.cons mW4 (RdAll.cons mb RdAll.nil))
          match way, hway4 with
          | 0, _ => exact ⟨a5, _, 0, tw, .ref wa, rfl, rfl, h5, rfl, by simp; omega, fin2 _ _ _ w41 mW4 ⟨.id, _, rfl, hW.1, .inl rfl, hW.2⟩⟩
          | 1, _ => exact ⟨a5, _, 1, tw, .ref a2, rfl, rfl, h5, rfl, by simp; omega, fin2 _ _ _ w41 mf ⟨.f, _, rfl, hW.1, .inl rfl, hW.2⟩⟩
          | 2, _ => exact ⟨a5, _, 2, tw, .ref a4, rfl, rfl, h5, rfl, by simp; omega, fin2 _ _ _ w41 mg ⟨.g, _, rfl, hW.1, .inl rfl, hW.2⟩⟩
          | 3, _ => exact ⟨a5, _, 3, tw, .ref wa, rfl, rfl, h5, rfl, by simp; omega, fin2 _ _ _ w41 mW4 ⟨.id, _, rfl, hW.1, .inl rfl, hW.2⟩⟩
end
end Mine
end
section
set_option maxRecDepth 100000
set_option maxHeartbeats 1000000
set_option linter.constructorNameAsVariable false
set_option linter.unusedVariables false
open PySem PySem.W PyProof.Rows PySem.Calls PySem.Spec
namespace Mine
theorem big_sys {w : World} {X : List Addr} {h : Heap} (G : Gx w X h) : (h.objs.size == sysModules) = false := by
  obtain ⟨o, ho⟩ : ∃ o, (Kf w).lookup 178 = some o := ⟨_, by exact rfl⟩
  have h2 : (178 : Nat) < h.objs.size := Heap.lt_size (G.gd.K _ _ ho)
  have h3 : h.objs.size ≠ (1 : Nat) := by omega
  exact beq_false_of_ne h3
section
variable {prog : Program} {w : World} {A : Around} {E : Value → Shared → Prop} {s : Shared} {env : Env}

theorem dict1 {X : List Addr} {k : Str} {n : Nat} {kp pos : Pos} {e : Expr} {Q : Value → Shared → Prop} (G : Gx w X s.heap)
    (h : ∀ s₁, Up s s₁ → wpAny (model prog w) A (eval e env) (fun v s₂ => ∃ W, Tr W s₁ s₂ ∧ (∀ b ∈ W, ∃ o, s.heap.get? b = some o) ∧ ∀ D s₃, Tr W s s₃ → s.heap.get? D = none → (D == sysModules) = false → TLe s₂.heap s₃.heap → (∀ b o, b ≠ D → s₂.heap.get? b = some o → s₃.heap.get? b = some o) → s₃.heap.DictOf (strKind prog w) D [(k, v)] → Q (.ref D) s₃) E s₁)
    (hshape : (evalEachOpt [some (.Constant (.str k) n kp)] env).zip ((evalEach [e] env).map fun v => do let x ← v; standAt pos; pure x) = [(eval (.Constant (.str k) n kp) env, (do let x ← eval e env; standAt pos; pure x))].map fun p => (some p.1, p.2)) :
    wpAny (model prog w) A (eval (.Dict [some (.Constant (.str k) n kp)] [e] pos) env) Q E s := by
  have hbig := big_sys G
  have hfr := fresh_size s.heap
  refine wpAny_Dict_pairs (knd := strKind prog w) hshape (by simp) (by simp) ?_
  have u0 : Up s { s with heap := s.heap.push { cls := .type "dict", data := .dict #[] } } := Up.push (tk := s.toks)
  have hD0 : ({ s with heap := s.heap.push { cls := .type "dict", data := .dict #[] } } : Shared).heap.DictOf (strKind prog w) s.heap.objs.size [] := Heap.DictOf.new _
  revert u0 hD0
  generalize ({ s with heap := s.heap.push { cls := .type "dict", data := .dict #[] } } : Shared) = s₀
  generalize s.heap.objs.size = D at *
  intro u0 hD0
  refine evalPairs_cons ?_
  refine ct fun t1 s₁ u₁ => ?_
  refine wpAny_bind (wpQ (h s₁ (u0.trans u₁)) fun v s₂ h₂ => wpAny_bind (wpAny_standAt (wpAny_pure (wpAny_pure ?_))))
  obtain ⟨W, t₂, hW, hq⟩ := h₂
  have hDW : D ∉ W := fun q => by obtain ⟨o, e⟩ := hW D q; rw [hfr] at e; cases e
  have hD2 : s₂.heap.DictOf (strKind prog w) D [] := hD0.at fun o e => t₂.keep _ o hDW (u₁.le _ _ e)
  refine ⟨[(k, v)], ⟨strKind_is prog w k t1, rfl, trivial⟩, hD2, fun h' hd' hs' => ?_⟩
  have tD : Tr [D] s₂ { s₂ with heap := h', toks := s₂.toks + [(Value.str k t1, v)].length } := Tr.of_but hs' (dict_not_tup hD2)
  have hd'' : h'.DictOf (strKind prog w) D [(k, v)] := hd'
  refine hq D _ ?_ hfr hbig tD.tup (fun b o hb e => tD.keep b o (by simpa using hb) e) hd''
  have big : Tr (D :: W) s { s₂ with heap := h', toks := s₂.toks + [(Value.str k t1, v)].length } := (Up.to (u0.trans u₁) _).trans ((t₂.mono (W' := D :: W) fun _ h => .tail _ h).trans (tD.mono fun _ h => by simp at h; simp [h]))
  exact ⟨big.ev, fun b o hb e => big.keep b o (fun q => by rcases List.mem_cons.mp q with rfl | q; (rw [hfr] at e; cases e); exact hb q) e, big.tup⟩

theorem dict2 {X : List Addr} {k k' : Str} {n n' : Nat} {kp kp' pos : Pos} {e e' : Expr} {Q : Value → Shared → Prop} (G : Gx w X s.heap) (hkk : k ≠ k')
    (h : ∀ D s₁, Up s s₁ → s.heap.get? D = none → (D == sysModules) = false → (∃ o, s₁.heap.get? D = some o) → wpAny (model prog w) A (eval e env) (fun v s₂ => Up s₁ s₂ ∧ ∀ s₃, Up s₂ s₃ → wpAny (model prog w) A (eval e' env) (fun v' s₄ => Up s₃ s₄ ∧ ∀ s₅, Up s s₅ → TLe s₄.heap s₅.heap → (∀ b o, b ≠ D → s₄.heap.get? b = some o → s₅.heap.get? b = some o) → s₅.heap.DictOf (strKind prog w) D [(k, v), (k', v')] → Q (.ref D) s₅) E s₃) E s₁)
    (hshape : (evalEachOpt [some (.Constant (.str k) n kp), some (.Constant (.str k') n' kp')] env).zip ((evalEach [e, e'] env).map fun v => do let x ← v; standAt pos; pure x) = [(eval (.Constant (.str k) n kp) env, (do let x ← eval e env; standAt pos; pure x)), (eval (.Constant (.str k') n' kp') env, (do let x ← eval e' env; standAt pos; pure x))].map fun p => (some p.1, p.2)) :
    wpAny (model prog w) A (eval (.Dict [some (.Constant (.str k) n kp), some (.Constant (.str k') n' kp')] [e, e'] pos) env) Q E s := by
  have hbig := big_sys G
  have hfr := fresh_size s.heap
  refine wpAny_Dict_pairs (knd := strKind prog w) hshape (by simp) (by simp) ?_
  have u0 : Up s { s with heap := s.heap.push { cls := .type "dict", data := .dict #[] } } := Up.push (tk := s.toks)
  have hD0 : ({ s with heap := s.heap.push { cls := .type "dict", data := .dict #[] } } : Shared).heap.DictOf (strKind prog w) s.heap.objs.size [] := Heap.DictOf.new _
  revert u0 hD0
  generalize ({ s with heap := s.heap.push { cls := .type "dict", data := .dict #[] } } : Shared) = s₀
  generalize s.heap.objs.size = D at *
  intro u0 hD0
  refine evalPairs_cons ?_
  refine ct fun t1 s₁ u₁ => ?_
  refine wpAny_bind (wpQ (h D s₁ (u0.trans u₁) hfr hbig (let ⟨o, _, _, e, _⟩ := hD0; ⟨o, u₁.le _ _ e⟩)) fun v s₂ h₂ => wpAny_bind (wpAny_standAt (wpAny_pure ?_)))
  obtain ⟨u₂, h₂⟩ := h₂
  refine evalPairs_cons ?_
  refine ct fun t2 s₃ u₃ => ?_
  refine wpAny_bind (wpQ (h₂ s₃ u₃) fun v' s₄ h₄ => wpAny_bind (wpAny_standAt (wpAny_pure (wpAny_pure ?_))))
  obtain ⟨u₄, hq⟩ := h₄
  have u04 := ((u₁.trans u₂).trans u₃).trans u₄
  have hD4 : s₄.heap.DictOf (strKind prog w) D [] := hD0.keep u04.le
  refine ⟨[(k, v), (k', v')], ⟨strKind_is prog w k t1, rfl, strKind_is prog w k' t2, rfl, trivial⟩, hD4, fun h' hd' hs' => ?_⟩
  have tD : Tr [D] s₄ { s₄ with heap := h', toks := s₄.toks + [(Value.str k t1, v), (Value.str k' t2, v')].length } := Tr.of_but hs' (dict_not_tup hD4)
  have em : merged [] [(k, v), (k', v')] = [(k, v), (k', v')] := by simp [merged, stored, hkk]
  rw [em] at hd'
  exact hq _ (Tr.up_new (u0.trans u04) tD (by simpa using hfr)) tD.tup (fun b o hb e => tD.keep b o (by simpa using hb) e) hd'
end
end Mine
end
section
set_option maxRecDepth 100000
set_option maxHeartbeats 1000000
set_option linter.constructorNameAsVariable false
set_option linter.unusedVariables false
open PySem PySem.W PyProof.Rows PySem.Calls PySem.Spec
namespace Mine
mutual
noncomputable def gok : Term → Prop
  | .mk l ks => (l = .g → ks.length = 2) ∧ goks ks
noncomputable def goks : List Term → Prop
  | [] => True
  | x :: xs => gok x ∧ goks xs
end
theorem goks_iff : ∀ xs : List Term, goks xs ↔ ∀ x ∈ xs, gok x
  | [] => by simp [goks]
  | x :: xs => by simp [goks, goks_iff xs]
noncomputable def same (T U : Term) : Prop := U.lv = T.lv ∧ U.size = T.size ∧ U.height = T.height ∧ (fit T → fit U)
theorem same_set : ∀ (ks : List Term) (i : Nat) (x u : Term), ks[i]? = some x → same x u → Term.lvs (ks.set i u) = Term.lvs ks ∧ Term.sizes (ks.set i u) = Term.sizes ks ∧ Term.heights (ks.set i u) = Term.heights ks ∧ (fits ks → fits (ks.set i u))
  | [], _, _, _, h, _ => by simp at h
  | y :: ys, 0, x, u, h, s => by
    simp at h; subst h
    obtain ⟨a, b, c, d⟩ := s
    simp only [List.set_cons_zero, Term.lvs, Term.sizes, Term.heights, fits]
    exact ⟨by rw [a], by rw [b], by rw [c], fun q => ⟨d q.1, q.2⟩⟩
  | y :: ys, i + 1, x, u, h, s => by
    obtain ⟨a, b, c, d⟩ := same_set ys i x u (by simpa using h) s
    simp only [List.set_cons_succ, Term.lvs, Term.sizes, Term.heights, fits]
    exact ⟨by rw [a], by rw [b], by rw [c], fun q => ⟨q.1, d q.2⟩⟩
theorem same_mk {l : Lab} {ks : List Term} {i : Nat} {x u : Term} (h : ks[i]? = some x) (s : same x u) : same (.mk l ks) (.mk l (ks.set i u)) := by
  obtain ⟨a, b, c, d⟩ := same_set ks i x u h s
  refine ⟨by rw [Term.lv, Term.lv, a], by rw [Term.size, Term.size, b], by rw [Term.height, Term.height, c], fun q => ?_⟩
  rw [fit] at q ⊢
  exact ⟨fun hl => by rw [a]; exact q.1 hl, d q.2⟩
noncomputable def flip : Lab → Lab
  | .p => .s | .s => .p | l => l
noncomputable def leafTo (l : Lab) : Lab := if l = .a then .b else .a

theorem Tms.set {h : Heap} : ∀ {vs : List Value} {xs : List Term} (i : Nat) {u : Value} {U : Term}, Tms h vs xs → Tm h u U → Tms h (vs.set i u) (xs.set i U)
  | [], [], _, _, _, x, _ => x
  | [], _ :: _, _, _, _, x, _ => absurd x.len (by simp)
  | _ :: _, [], _, _, _, x, _ => absurd x.len (by simp)
  | _ :: _, _ :: _, 0, _, _, x, y => RdAll.cons y x.uncons.2
  | _ :: _, _ :: _, i + 1, _, _, x, y => RdAll.cons x.uncons.1 (Tms.set i x.uncons.2 y)
theorem set_cut {α : Type} (ys : List α) (i : Nat) (u : α) (h : i < ys.length) : ys.take i ++ u :: ys.drop (i + 1) = ys.set i u := by rw [List.set_eq_take_append_cons_drop, if_pos h]
theorem flip_same (l : Lab) (ks : List Term) (h : l = .p ∨ l = .s) : same (.mk l ks) (.mk (flip l) ks) := by
  refine ⟨by rw [Term.lv, Term.lv], by rw [Term.size, Term.size], by rw [Term.height, Term.height], fun q => ?_⟩
  rw [fit] at q ⊢
  exact ⟨fun _ => q.1 h, q.2⟩
theorem swap_same (l : Lab) (x y : Term) : same (.mk l [x, y]) (.mk l [y, x]) := by
  have p : List.Perm [x, y] [y, x] := List.Perm.swap y x []
  refine ⟨by rw [Term.lv, Term.lv, lvs_perm p], by rw [Term.size, Term.size, sizes_perm p], by rw [Term.height, Term.height, heights_perm p], fun q => ?_⟩
  rw [fit] at q ⊢
  exact ⟨fun hl => by rw [← lvs_perm p]; exact q.1 hl, (fits_perm p).mp q.2⟩

noncomputable def BentOk (prog : Program) (w : World) (T : Term) : Prop := ∀ (A : Around) (E : Value → Shared → Prop) (s : Shared) (X : List Addr) (D c : Addr) (k : Nat) (v : Value) (Q : Value → Shared → Prop), Gx w X s.heap → D ∈ X → FeedAt prog w D c k s.heap → k + 2 * T.height ≤ 900000 → Tm s.heap v T → A.handled = none →
  A.depth + T.height + 2 < recursionLimit → A.units + 10 * T.height + 100 < cLine → T.size ≤ 1000 → gok T →
  (∀ u s' U k', Tr [D] s s' → FeedAt prog w D c k' s'.heap → k' ≤ k + 2 * T.height → Tm s'.heap u U → same T U → Q u s') → wpAny (model prog w) A (call (.ref 173) [.ref D, v]) Q E s

section
variable {prog : Program} {w : World} {A : Around} {E : Value → Shared → Prop} {s : Shared} {env : Env}
theorem dget2 {o e1 e2 : Expr} {apos pos : Pos} {Q : Value → Shared → Prop}
    (h : wpAny (model prog w) A (eval o env) (fun ov s₁ => ∃ D kvs, ov = .ref D ∧ (D == sysModules) = false ∧ s₁.heap.DictOf (strKind prog w) D kvs ∧
      wpAny (model prog w) A (eval e1 env) (fun kv s₂ => wpAny (model prog w) A (eval e2 env) (fun dv s₃ => ∃ k tk, kv = .str k tk ∧ s₃.heap.DictOf (strKind prog w) D kvs ∧ ∀ s₄, Up s₃ s₄ → Q ((valueAt kvs k).getD dv) s₄) E s₂) E s₁) E s)
    (pl : Sem Bool) (hpl : eval (.Call (.Attribute o "get" apos) [e1, e2] [] pos) env = (do
      let ov ← eval o env
      standAt apos.atName
      let (f, first) ← holding [ov] (getMethod ov "get" pl)
      callWith pos f first (backTo pos (starEach [e1, e2] env)) (backToKw pos (keywordEach [] env)))) (hst : starEach [e1, e2] env = [(false, eval e1 env), (false, eval e2 env)]) :
    wpAny (model prog w) A (eval (.Call (.Attribute o "get" apos) [e1, e2] [] pos) env) Q E s := by
  refine methodCall_KW (pl := pl) (wpQ h fun ov s₁ h₁ => ?_) hpl
  obtain ⟨D, kvs, rfl, hsys, hD, h₁⟩ := h₁
  refine getMethod_builtin (T := "dict") hD.typeIs PySem.F.plainAttrs_dict F.slot_dict_get F.type_dict_get hD.mapOf.noDict ?_
  show wpAny _ _ (callWith pos (.builtin "dict.get") [.ref D] (backTo pos (starEach [e1, e2] env)) []) Q E s₁
  rw [hst]
  show wpAny _ _ (callWith pos (.builtin "dict.get") [.ref D] [(false, eval e1 env), (false, eval e2 env)] []) Q E s₁
  refine wpAny_dict_get2 (knd := strKind prog w) hsys (wpQ h₁ fun kv s₂ h₂ => wpQ h₂ fun dv s₃ h₃ => ?_)
  obtain ⟨k, tk, rfl, hD', hq⟩ := h₃
  exact ⟨k, _, strKind_is prog w k tk, hD'.mapOf, hq _ Up.tok⟩
end

theorem bent_step {prog : Program} {w : World} (l : Lab) (ks : List Term) (IH : ∀ x ∈ ks, BentOk prog w x) : BentOk prog w (.mk l ks) := by
  intro A E s X D c k v Q G hX hf hk ht hh hd hu hsz hg hQ
  have hsl : 1000000 ≤ sizeLine := by rw [PySem.sizeLine_eq]; decide
  have hks : Term.sizes ks + 1 ≤ 1000 := by rw [Term.size] at hsz; exact hsz
  have hkl := Term.len_sizes ks
  have hgt : (Term.mk l ks).height = Term.heights ks + 1 := by rw [Term.height]
  obtain ⟨⟨oD, hoD⟩, oc, hoc⟩ := hf.ex
  rw [gok] at hg
  refine enter (binds := [("feed", .ref D), ("t", v)]) G (by exact rfl) (by exact rfl) (by omega) (by exact rfl) (by decide) (by exact rfl) rfl rfl rfl (fun L s₁ C₀ G₁ => ?_)
  have hDL : D ≠ L := by rintro rfl; rw [C₀.nL] at hoD; cases hoD
  have hcL : c ≠ L := by rintro rfl; rw [C₀.nL] at hoc; cases hoc
  have C : Cx [D] s L _ s₁ := C₀.wide [D]
  have F₁ := hf.up C₀.tr
  replace G : Gx w [D] s.heap := G.mono (by simpa using hX)
  obtain ⟨a, tl, kvs, rfl, hT, hkv⟩ := Tm.open ht
  have hkvl := Tms.len hkv
  refine wpAny_execs_cons ?_
  refine wpAny_If ?_
  refine wpAny_isTrue_Compare1 ?_
  refine callB G₁ (g_len w) boot_len (by decide) ?_
  refine wpAny_items_cons ?_
  refine nm C (by exact rfl) ?_
  refine wpAny_items_nil ?_
  refine len_t (IsTup.tle hT C.tr.tup) (by simp; omega) fun t2 s₂ u₂ => ?_
  refine ci fun t3 s₃ u₃ => ?_
  refine eq_int (wpAny_truthy_bool ?_)
  have u13 := u₂.trans u₃
  have C₃ := C.up u13
  by_cases hnil : ks = []
  · subst hnil
    have : kvs = [] := List.length_eq_zero_iff.mp hkvl
    subst this
    rw [if_pos (by simp)]
    refine wpAny_execs_cons ?_
    refine wpAny_Return_some ?_
    refine tupleD ?_
    refine wpAny_items_cons ?_
    refine dget2 ?_ _ (by exact rfl) (by exact rfl)
    refine dict1 (X := [D]) (G.step C₃.tr) (fun s₄ u₄ => ?_) (by exact rfl)
    refine ct fun t5 s₅ u₅ => ?_
    refine ⟨[], u₅, by simp, fun D' s₆ u₆ hD' hsys _ _ hd₆ => ?_⟩
    have C₆ := C₃.up u₆
    refine ⟨D', _, rfl, hsys, hd₆, ?_⟩
    refine tidx (nm C₆ (by exact rfl) (ci fun t7 s₇ u₇ => ?_))
    have C₇ := C₆.up u₇
    refine ⟨a, _, 0, t7, _, rfl, rfl, IsTup.tle hT C₇.tr.tup, rfl, by simp; omega, ?_⟩
    refine ct fun t8 s₈ u₈ => ?_
    refine ⟨l.str, tl, rfl, hd₆.keep (u₇.trans u₈).le, fun s₉ u₉ => ?_⟩
    have C₉ := (C₇.up u₈).up u₉
    have ev : ∃ t9, (valueAt [(("a" : Str), Value.str "b" t5)] l.str).getD (.str "a" t8) = .str (leafTo l).str t9 := by
      unfold leafTo
      cases l <;> first | exact ⟨t5, rfl⟩ | exact ⟨t8, rfl⟩
    obtain ⟨t9, ev⟩ := ev
    have ev' : (valueAt [(Str.ofString "a", Value.str (Str.ofString "b") t5)] l.str).getD (.str (Str.ofString "a") t8) = .str (leafTo l).str t9 := ev
    rw [ev']
    refine wpAny_items_nil ⟨by simp; omega, fun r s₁₀ u₁₀ _ hr => ?_⟩
    have C₁₀ := C₉.up u₁₀
    refine hQ (.ref r) s₁₀ (.mk (leafTo l) []) k C₁₀.tr (F₁.up ((u13.trans (u₆.trans (u₇.trans u₈))).trans (u₉.trans u₁₀))) (by omega) (Tm.close hr RdAll.nil) ⟨rfl, rfl, rfl, fun _ => ?_⟩
    rw [fit]; exact ⟨fun _ => Nat.zero_le _, trivial⟩
  · have hkpos : 0 < ks.length := List.length_pos_iff.mpr hnil
    have e0 : (((Value.str l.str tl :: kvs).length : Nat) : Int) == 1 ↔ False := by
      simp only [List.length_cons, beq_iff_eq, iff_false]; omega
    rw [if_neg (fun q => e0.mp q)]
    refine wpAny_execs_nil ?_
    refine wpAny_execs_cons ?_
    refine wpAny_Assign_Name ?_
    have G₃ := G.step C₃.tr
    refine callN G₃ (g_draw w) (k_142 w) ?_
    refine wpAny_items_cons ?_
    refine nm C₃ (by exact rfl) ?_
    refine wpAny_items_cons ?_
    refine ci fun t4 s₄ u₄ => ?_
    refine wpAny_items_nil ⟨(G₃.up u₄).gd.K, ?_⟩
    refine draw_ok (X := [D]) (c := c) (G₃.up u₄) (by simp) ((F₁.up u13).up u₄) (by omega) (by decide) hh (by show A.depth + 1 < _; omega) fun tw s₅ way t₅ F₅ hway => ?_
    have C₅ := (C₃.up u₄).step t₅ (by simp [hDL])
    refine st C₅ fun s₆ t₆ C₆ => ?_
    have F₆ := F₅.step t₆ (by simpa using hDL) (by simpa using hcL)
    have fin : ∀ v s' U, Up s₆ s' → Tm s'.heap v U → same (.mk l ks) U → Q v s' := fun v s' U u hv hU => hQ v s' U (k + 1) (C₆.up u).tr (F₆.up u) (by omega) hv hU
    have hT₆ : ∀ {s'}, Up s₆ s' → IsTup s'.heap a (Value.str l.str tl :: kvs).toArray := fun u => IsTup.tle hT (C₆.up u).tr.tup
    have hkv₆ : ∀ {s'}, Up s₆ s' → Tms s'.heap kvs ks := fun u => hkv.up (C₆.up u).tr.tup
    have eway : ((((way : Nat) : Int)) == 0) = decide (way = 0) := by
      by_cases q : way = 0
      · subst q; rfl
      · have : ¬ ((way : Nat) : Int) = 0 := by omega
        simp [q, this]
    refine wpAny_execs_cons ?_
    refine wpAny_If (wpQ (Q' := fun bb s' => bb = (decide (way = 0) && (decide (l = .p) || decide (l = .s))) ∧ Up s₆ s') ?_ fun bb s₇ h₇ => ?_)
    · refine isTrue_and (wpAny_isTrue_Compare1 ?_)
      refine nm C₆ (by exact rfl) ?_
      refine ci fun t7 s₇ u₇ => ?_
      refine eq_int (wpAny_truthy_bool ?_)
      rw [eway]
      cases hq : decide (way = 0) with
      | false => exact ⟨rfl, u₇⟩
      | true =>
        simp only [if_true]
        refine isTrue_and (wpAny_isTrue_Compare1 ?_)
        refine tidx (nm (C₆.up u₇) (by exact rfl) (ci fun t8 s₈ u₈ => ?_))
        have u68 := u₇.trans u₈
        refine ⟨a, _, 0, t8, _, rfl, rfl, hT₆ u68, rfl, by simp; omega, ?_⟩
        refine tupleD ?_
        refine wpAny_items_cons ?_
        refine ct fun t9 s₉ u₉ => ?_
        refine wpAny_items_cons ?_
        refine ct fun t10 s₁₀ u₁₀ => ?_
        refine wpAny_items_nil ⟨by simp; omega, fun b s₁₁ u₁₁ _ hb => ?_⟩
        have rb : Rd s₁₁.heap (.ref b) (.tuple [.str Lab.p.str, .str Lab.s.str]) := Rd.tuple hb (RdAll.cons (Rd.str _ _) (RdAll.cons (Rd.str _ _) RdAll.nil))
        refine SeqAt.in_tuple_reads rb.1 (.str l.str tl) (by exact ops_can [.p, .s]) (by rw [PyData.canLay0]; exact strOk_lab l) (by show A.units + 3 + 1 + min _ 0 < _; omega) ?_
        refine wpAny_truthy_bool ?_
        have ea : ([PyData.str Lab.p.str, PyData.str Lab.s.str].any fun y => PyData.eqv y (.str l.str)) = (decide (l = .p) || decide (l = .s)) := by
          cases l <;> decide +kernel
        rw [ea]
        have u611 := ((u68.trans u₉).trans u₁₀).trans u₁₁
        cases hp : (decide (l = .p) || decide (l = .s)) with
        | false => exact ⟨rfl, u611⟩
        | true => exact isTrue_and_nil ⟨rfl, u611⟩
    obtain ⟨rfl, u₇⟩ := h₇
    have C₇ := C₆.up u₇
    by_cases hb1 : (decide (way = 0) && (decide (l = .p) || decide (l = .s))) = true
    · rw [if_pos hb1]
      simp only [Bool.and_eq_true, Bool.or_eq_true, decide_eq_true_eq] at hb1
      have hps := hb1.2
      refine wpAny_execs_cons ?_
      refine wpAny_Return_some ?_
      refine wpAny_BinOp ?_
      refine tupleD ?_
      refine wpAny_items_cons ?_
      refine ditem ?_
      refine dict2 (X := [D]) (G.step C₇.tr) (by decide) (fun D' s₈ u₈ hD' hsys _ => ?_) (by exact rfl)
      refine ct fun t9 s₉ u₉ => ?_
      refine ⟨u₉, fun s₁₀ u₁₀ => ?_⟩
      refine ct fun t11 s₁₁ u₁₁ => ?_
      refine ⟨u₁₁, fun s₁₂ u₁₂ _ _ hd₁₂ => ?_⟩
      have C₁₂ := C₇.up u₁₂
      refine tidx (nm C₁₂ (by exact rfl) (ci fun t13 s₁₃ u₁₃ => ?_))
      have w13 := (u₇.trans u₁₂).trans u₁₃
      refine ⟨a, _, 0, t13, _, rfl, rfl, hT₆ w13, rfl, by simp; omega, ?_⟩
      have ev : ∃ t14, valueAt [(Str.ofString "p", Value.str (Str.ofString "s") t9), (Str.ofString "s", Value.str (Str.ofString "p") t11)] l.str = some (.str (flip l).str t14) := by
        rcases hps with rfl | rfl
        · exact ⟨t9, rfl⟩
        · exact ⟨t11, rfl⟩
      obtain ⟨t14, ev⟩ := ev
      refine ⟨D', _, l.str, tl, _, rfl, rfl, hd₁₂.keep u₁₃.le, ev, fun s₁₅ u₁₅ => ?_⟩
      refine wpAny_items_nil ⟨by simp; omega, fun b s₁₆ u₁₆ _ hb => ?_⟩
      have w16 := (w13.trans u₁₅).trans u₁₆
      refine tslice (nm (C₆.up w16) (by exact rfl) (evp_some (ci fun t17 s₁₇ u₁₇ => evp_none ?_)))
      have w17 := w16.trans u₁₇
      refine ⟨a, _, some 1, none, rfl, hT₆ w17, ⟨t17, rfl⟩, rfl, by simp, by simp, by simp; omega, fun r1 s₁₈ u₁₈ h18 => ?_⟩
      have h18' : IsTup s₁₈.heap r1 kvs.toArray := by
        have e : ((Value.str l.str tl :: kvs).drop ((some 1).getD 0)).take (((none : Option Nat).getD (Value.str l.str tl :: kvs).length) - (some 1).getD 0) = kvs := by simp
        rw [e] at h18; exact h18
      refine tadd (hb.keeps (u₁₇.trans u₁₈).le) h18' (by simp; omega) fun r s₁₉ u₁₉ hr => ?_
      have w19 := (w17.trans u₁₈).trans u₁₉
      exact fin (.ref r) s₁₉ (.mk (flip l) ks) w19 (Tm.close hr (hkv₆ w19)) (flip_same l ks hps)
    · rw [if_neg hb1]
      refine wpAny_execs_nil ?_
      refine wpAny_execs_cons ?_
      refine wpAny_If (wpQ (Q' := fun bb s' => bb = (decide (way = 0) && decide (l = .g)) ∧ Up s₆ s') ?_ fun bb s₈ h₈ => ?_)
      · refine isTrue_and (wpAny_isTrue_Compare1 ?_)
        refine nm C₇ (by exact rfl) ?_
        refine ci fun t7 s₈ u₈ => ?_
        refine eq_int (wpAny_truthy_bool ?_)
        rw [eway]
        have w8 := u₇.trans u₈
        cases hq : decide (way = 0) with
        | false => exact ⟨rfl, w8⟩
        | true =>
          simp only [if_true]
          refine isTrue_and (wpAny_isTrue_Compare1 ?_)
          refine tidx (nm (C₆.up w8) (by exact rfl) (ci fun t9 s₉ u₉ => ?_))
          have w9 := w8.trans u₉
          refine ⟨a, _, 0, t9, _, rfl, rfl, hT₆ w9, rfl, by simp; omega, ?_⟩
          refine ct fun t10 s₁₀ u₁₀ => ?_
          refine PyProof.Rows.eq_str (wpAny_truthy_bool ?_)
          have e : (l.str == Str.ofString "g") = decide (l = .g) := lab_str_inj l .g
          rw [e]
          cases hp : decide (l = .g) with
          | false => exact ⟨rfl, w9.trans u₁₀⟩
          | true => exact isTrue_and_nil ⟨rfl, w9.trans u₁₀⟩
      obtain ⟨rfl, u₈⟩ := h₈
      have C₈ := C₆.up u₈
      by_cases hb2 : (decide (way = 0) && decide (l = .g)) = true
      · rw [if_pos hb2]
        simp only [Bool.and_eq_true, decide_eq_true_eq] at hb2
        have h2 := hg.1 hb2.2
        obtain ⟨x, y, rfl⟩ : ∃ x y, ks = [x, y] := by
          match ks, h2 with
          | [x, y], _ => exact ⟨x, y, rfl⟩
        obtain ⟨xv, yv, rfl⟩ : ∃ x y, kvs = [x, y] := by
          match kvs, hkvl with
          | [x, y], _ => exact ⟨x, y, rfl⟩
        refine wpAny_execs_cons ?_
        refine wpAny_Return_some ?_
        refine tupleD ?_
        refine wpAny_items_cons ?_
        refine tidx (nm C₈ (by exact rfl) (ci fun t9 s₉ u₉ => ?_))
        have w9 := u₈.trans u₉
        refine ⟨a, _, 0, t9, _, rfl, rfl, hT₆ w9, rfl, by simp; omega, ?_⟩
        refine wpAny_items_cons ?_
        refine tidx (nm (C₆.up w9) (by exact rfl) (ci fun t10 s₁₀ u₁₀ => ?_))
        have w10 := w9.trans u₁₀
        refine ⟨a, _, 2, t10, _, rfl, rfl, hT₆ w10, rfl, by simp; omega, ?_⟩
        refine wpAny_items_cons ?_
        refine tidx (nm (C₆.up w10) (by exact rfl) (ci fun t11 s₁₁ u₁₁ => ?_))
        have w11 := w10.trans u₁₁
        refine ⟨a, _, 1, t11, _, rfl, rfl, hT₆ w11, rfl, by simp; omega, ?_⟩
        refine wpAny_items_nil ⟨by simp; omega, fun r s₁₂ u₁₂ _ hr => ?_⟩
        have w12 := w11.trans u₁₂
        have q := hkv₆ w12
        exact fin (.ref r) s₁₂ (.mk l [y, x]) w12 (Tm.close hr (RdAll.cons q.uncons.2.uncons.1 (RdAll.cons q.uncons.1 RdAll.nil))) (swap_same l x y)
      · rw [if_neg hb2]
        refine wpAny_execs_nil ?_
        refine wpAny_execs_cons ?_
        refine wpAny_Assign_Name ?_
        refine wpAny_BinOp ?_
        refine ci fun t9 s₉ u₉ => ?_
        have w9 := u₈.trans u₉
        have C₉ := C₆.up w9
        have G₉ := G.step C₉.tr
        refine callN G₉ (g_draw w) (k_142 w) ?_
        refine wpAny_items_cons ?_
        refine nm C₉ (by exact rfl) ?_
        refine wpAny_items_cons ?_
        refine wpAny_BinOp ?_
        refine callB G₉ (g_len w) boot_len (by decide) ?_
        refine wpAny_items_cons ?_
        refine nm C₉ (by exact rfl) ?_
        refine wpAny_items_nil ?_
        refine len_t (hT₆ w9) (by simp; omega) fun t10 s₁₀ u₁₀ => ?_
        refine ci fun t11 s₁₁ u₁₁ => ?_
        refine sub_ints fun t12 s₁₂ u₁₂ => ?_
        have w12 := ((w9.trans u₁₀).trans u₁₁).trans u₁₂
        have C₁₂ := C₆.up w12
        refine wpAny_items_nil ⟨(G.step C₁₂.tr).gd.K, ?_⟩
        refine draw_ok (X := [D]) (c := c) (G.step C₁₂.tr) (by simp) (F₆.up w12) (by omega) (by simp only [List.length_cons]; omega) hh (by show A.depth + 1 < _; omega) fun t13 s₁₃ r t₁₃ F₁₃ hr => ?_
        have C₁₃ := C₁₂.step t₁₃ (by simp [hDL])
        have hr' : r < ks.length := by simp only [List.length_cons] at hr; omega
        refine add_ints fun t14 s₁₄ u₁₄ => ?_
        have eK : (1 : Int) + (r : Int) = ((1 + r : Nat) : Int) := by push_cast; rfl
        rw [eK]
        refine st (C₁₃.up u₁₄) fun s₁₅ t₁₅ C₁₅ => ?_
        have F₁₅ := (F₁₃.up u₁₄).step t₁₅ (by simpa using hDL) (by simpa using hcL)
        have hT₁₅ : ∀ {s' : Shared}, TLe s₁₅.heap s'.heap → IsTup s'.heap a (Value.str l.str tl :: kvs).toArray := fun u => IsTup.tle hT (C₁₅.tr.tup.trans u)
        refine wpAny_execs_cons ?_
        refine wpAny_Return_some ?_
        refine wpAny_BinOp ?_
        refine wpAny_BinOp ?_
        refine tslice ?_
        refine nm C₁₅ (by exact rfl) ?_
        refine evp_none ?_
        refine evp_some ?_
        refine nm C₁₅ (by exact rfl) ?_
        refine ⟨a, _, none, some (1 + r), rfl, hT₁₅ (fun _ _ e _ => e), rfl, ⟨t14, rfl⟩, by simp, by simp; omega, by simp; omega, fun r1 s₁₆ u₁₆ h16 => ?_⟩
        have C₁₆ := C₁₅.up u₁₆
        refine tupleD ?_
        refine wpAny_items_cons ?_
        have G₁₆ := G.step C₁₆.tr
        refine callN G₁₆ (g_bent w) (k_173 w) ?_
        refine wpAny_items_cons ?_
        refine nm C₁₆ (by exact rfl) ?_
        refine wpAny_items_cons ?_
        obtain ⟨xv, hxv⟩ : ∃ v, kvs[r]? = some v := ⟨_, List.getElem?_eq_getElem (by omega)⟩
        obtain ⟨x, hx, hxt⟩ := Tms.at hkv hxv
        have hxm : x ∈ ks := List.mem_of_getElem? hx
        have hh1 := Term.height_mem ks _ hxm
        have hs1 := Term.size_mem ks _ hxm
        refine tidx (nm C₁₆ (by exact rfl) (nm C₁₆ (by exact rfl) ⟨a, _, 1 + r, t14, xv, rfl, rfl, hT₁₅ u₁₆.tup, by rw [Nat.add_comm]; simpa using hxv, by simp; omega, ?_⟩))
        refine wpAny_items_nil ⟨G₁₆.gd.K, ?_⟩
        refine IH x hxm _ _ s₁₆ [D] D c (k + 1 + 1) xv _ G₁₆ (by simp) (F₁₅.up u₁₆) (by omega) (hxt.up C₁₆.tr.tup) hh (by show A.depth + 1 + _ + 2 < _; omega) (by show A.units + 3 + _ + 100 < _; omega) (by omega) ((goks_iff ks).mp hg.2 x hxm) fun uv s₁₇ U k' t₁₇ F₁₇ hk' huv hU => ?_
        have C₁₇ := C₁₆.step t₁₇ (by simp [hDL])
        refine wpAny_items_nil ⟨by simp; omega, fun b s₁₈ u₁₈ _ hb => ?_⟩
        have l1 : IsTup s₁₈.heap r1 ((Value.str l.str tl :: kvs).take (1 + r)).toArray := by
          have e : ((Value.str l.str tl :: kvs).drop ((none : Option Nat).getD 0)).take (((some (1 + r)).getD (Value.str l.str tl :: kvs).length) - (none : Option Nat).getD 0) = (Value.str l.str tl :: kvs).take (1 + r) := by simp
          rw [e] at h16
          exact IsTup.tle h16 (t₁₇.tup.trans u₁₈.tup)
        refine tadd l1 hb (by simp; omega) fun r2 s₁₉ u₁₉ h19 => ?_
        have C₁₉ := (C₁₇.up u₁₈).up u₁₉
        refine tslice ?_
        refine nm C₁₉ (by exact rfl) ?_
        refine evp_some ?_
        refine wpAny_BinOp ?_
        refine nm C₁₉ (by exact rfl) ?_
        refine ci fun t20 s₂₀ u₂₀ => ?_
        refine add_ints fun t21 s₂₁ u₂₁ => ?_
        have C₂₁ := (C₁₉.up u₂₀).up u₂₁
        refine evp_none ?_
        have eK2 : ((1 + r : Nat) : Int) + 1 = ((1 + r + 1 : Nat) : Int) := by push_cast; rfl
        rw [eK2]
        refine ⟨a, _, some (1 + r + 1), none, rfl, IsTup.tle hT C₂₁.tr.tup, ⟨t21, rfl⟩, rfl, by simp; omega, by simp, by simp; omega, fun r3 s₂₂ u₂₂ h22 => ?_⟩
        have h22' : IsTup s₂₂.heap r3 (kvs.drop (r + 1)).toArray := by
          have e : ((Value.str l.str tl :: kvs).drop ((some (1 + r + 1)).getD 0)).take (((none : Option Nat).getD (Value.str l.str tl :: kvs).length) - (some (1 + r + 1)).getD 0) = kvs.drop (r + 1) := by
            have : 1 + r + 1 = (r + 1) + 1 := by omega
            rw [this]
            show ((Value.str l.str tl :: kvs).drop ((r + 1) + 1)).take _ = _
            rw [List.drop_succ_cons]
            exact List.take_of_length_le (by simp)
          rw [e] at h22; exact h22
        refine tadd (IsTup.tle h19 (u₂₀.tup.trans (u₂₁.tup.trans u₂₂.tup))) h22' (by simp; omega) fun r4 s₂₃ u₂₃ h23 => ?_
        have C₂₃ := (C₂₁.up u₂₂).up u₂₃
        have fF : FeedAt prog w D c k' s₂₃.heap := ((((F₁₇.up u₁₈).up u₁₉).up u₂₀).up u₂₁).up (u₂₂.trans u₂₃)
        refine hQ (.ref r4) s₂₃ (.mk l (ks.set r U)) k' C₂₃.tr fF (by omega) ?_ (same_mk hx hU)
        have el : ((Value.str l.str tl :: kvs).take (1 + r) ++ [uv] ++ kvs.drop (r + 1)) = Value.str l.str tl :: kvs.set r uv := by
          rw [Nat.add_comm 1 r, List.take_succ_cons, List.cons_append, List.cons_append, List.append_assoc, List.singleton_append, set_cut kvs r uv (by omega)]
        rw [el] at h23
        refine Tm.close h23 (Tms.set r (hkv.up C₂₃.tr.tup) (huv.up ?_))
        exact u₁₈.tup.trans (u₁₉.tup.trans (u₂₀.tup.trans (u₂₁.tup.trans (u₂₂.tup.trans u₂₃.tup))))

theorem bent_all {prog : Program} {w : World} : ∀ (n : Nat) (T : Term), T.height ≤ n → BentOk prog w T
  | 0, .mk l ks, h => by rw [Term.height] at h; omega
  | n + 1, .mk l ks, h => bent_step l ks fun x hx => bent_all n x (by have := Term.height_mem ks x hx; rw [Term.height] at h; omega)
theorem bent_ok {prog : Program} {w : World} (T : Term) : BentOk prog w T := bent_all _ T (Nat.le_refl _)
end Mine
end
section
set_option maxRecDepth 100000
set_option maxHeartbeats 1000000
set_option linter.constructorNameAsVariable false
set_option linter.unusedVariables false
open PySem PySem.W PyProof.Rows PySem.Calls PySem.Spec
namespace Mine
noncomputable def swapAt (ks : List Term) (i : Nat) : List Term := ks.take i ++ ks.getD (i + 1) dT :: ks.getD i dT :: ks.drop (i + 2)
noncomputable def wrapAt (l : Lab) (ks : List Term) (i : Nat) : List Term := ks.take i ++ .mk l [ks.getD i dT, ks.getD (i + 1) dT] :: ks.drop (i + 2)
noncomputable def cutAt (ks : List Term) (i : Nat) : List Term := ks.take i ++ ((ks.getD i dT).kids ++ ks.drop (i + 1))
noncomputable def top1 (l : Lab) (ks : List Term) (i : Nat) : List Term := .mk l (swapAt ks i) :: (if 3 ≤ ks.length then [.mk l (wrapAt l ks i)] else [])
noncomputable def top2 (l : Lab) (ks : List Term) (i : Nat) : List Term := if (ks.getD i dT).lab = l ∧ 2 ≤ (ks.getD i dT).kids.length then [.mk l (cutAt ks i)] else []
noncomputable def tops (ops : List Lab) (l : Lab) (ks : List Term) : List Term := if isBag ops (.mk l ks) = true then (List.range (ks.length - 1)).flatMap (top1 l ks) ++ (List.range ks.length).flatMap (top2 l ks) else []
mutual
noncomputable def turns (ops : List Lab) : Term → List Term
  | .mk l ks => tops ops l ks ++ turnsK ops l [] ks
noncomputable def turnsK (ops : List Lab) (l : Lab) (pre : List Term) : List Term → List Term
  | [] => []
  | x :: xs => (turns ops x).map (fun u => .mk l (pre ++ u :: xs)) ++ turnsK ops l (pre ++ [x]) xs
end
noncomputable def inn (ops : List Lab) (l : Lab) (ks : List Term) (j : Nat) : List Term := (turns ops (ks.getD j dT)).map fun u => .mk l (ks.set j u)
theorem turnsK_eq (ops : List Lab) (l : Lab) : ∀ (xs pre : List Term), turnsK ops l pre xs = (List.range xs.length).flatMap fun j => (turns ops (xs.getD j dT)).map fun u => .mk l (pre ++ xs.set j u)
  | [], pre => by simp [turnsK]
  | x :: xs, pre => by
    rw [turnsK, turnsK_eq ops l xs (pre ++ [x]), List.length_cons, List.range_succ_eq_map, List.flatMap_cons, List.flatMap_map]
    congr 1
    congr 1
    funext j
    simp
theorem turns_eq (ops : List Lab) (l : Lab) (ks : List Term) : turns ops (.mk l ks) = tops ops l ks ++ (List.range ks.length).flatMap (inn ops l ks) := by
  rw [turns, turnsK_eq]
  simp [inn]; rfl
theorem fm_succ {α : Type} (f : Nat → List α) (i : Nat) : (List.range (i + 1)).flatMap f = (List.range i).flatMap f ++ f i := by
  rw [List.range_succ, List.flatMap_append]; simp

theorem fm_len {α : Type} (f : Nat → List α) (c : Nat) (h : ∀ i, (f i).length ≤ c) : ∀ n, ((List.range n).flatMap f).length ≤ c * n
  | 0 => by simp
  | n + 1 => by
    rw [fm_succ, List.length_append, Nat.mul_succ]
    have := fm_len f c h n; have := h n; omega
theorem top1_len (l : Lab) (ks : List Term) (i : Nat) : (top1 l ks i).length ≤ 2 := by
  unfold top1; split <;> simp
theorem top2_len (l : Lab) (ks : List Term) (i : Nat) : (top2 l ks i).length ≤ 1 := by
  unfold top2; split <;> simp
theorem tops_len (ops : List Lab) (l : Lab) (ks : List Term) : (tops ops l ks).length ≤ 3 * ks.length := by
  unfold tops
  split
  · rw [List.length_append]
    have := fm_len _ 2 (top1_len l ks) (ks.length - 1)
    have := fm_len _ 1 (top2_len l ks) ks.length
    omega
  · simp
mutual
theorem turns_len (ops : List Lab) : ∀ T : Term, (turns ops T).length + 3 ≤ 3 * T.size
  | .mk l ks => by
    rw [turns, List.length_append, Term.size]
    have := tops_len ops l ks
    have := turnsK_len ops l [] ks
    omega
theorem turnsK_len (ops : List Lab) (l : Lab) : ∀ (pre ks : List Term), (turnsK ops l pre ks).length + 3 * ks.length ≤ 3 * Term.sizes ks
  | pre, [] => by simp [turnsK]
  | pre, x :: xs => by
    rw [turnsK, List.length_append, List.length_map, Term.sizes, List.length_cons]
    have := turns_len ops x
    have := turnsK_len ops l (pre ++ [x]) xs
    omega
end
theorem fm_mono {α : Type} (f : Nat → List α) {n m : Nat} (h : n ≤ m) : ((List.range n).flatMap f).length ≤ ((List.range m).flatMap f).length := by
  induction h with
  | refl => exact Nat.le_refl _
  | step _ ih => rw [fm_succ, List.length_append]; omega
theorem inn_len (ops : List Lab) (l : Lab) (ks : List Term) (n : Nat) (h : n ≤ ks.length) : ((List.range n).flatMap (inn ops l ks)).length ≤ 3 * Term.sizes ks := by
  have e : turnsK ops l [] ks = (List.range ks.length).flatMap (inn ops l ks) := by rw [turnsK_eq]; rfl
  have h1 := turnsK_len ops l [] ks
  rw [e] at h1
  have h2 := fm_mono (inn ops l ks) h
  omega
theorem Tms.take {h : Heap} {vs : List Value} {xs : List Term} (k : Nat) (a : Tms h vs xs) : Tms h (vs.take k) (xs.take k) := by
  have := RdAll.take k a
  show RdAll h _ (Term.pys _)
  rwa [Term.pys_eq, ← List.map_take, ← Term.pys_eq] at this
theorem Tms.drop {h : Heap} {vs : List Value} {xs : List Term} (k : Nat) (a : Tms h vs xs) : Tms h (vs.drop k) (xs.drop k) := by
  have := RdAll.drop k a
  show RdAll h _ (Term.pys _)
  rwa [Term.pys_eq, ← List.map_drop, ← Term.pys_eq] at this
theorem Tms.getD {h : Heap} {vs : List Value} {xs : List Term} {i : Nat} (a : Tms h vs xs) (hi : i < xs.length) : ∃ v, vs[i]? = some v ∧ Tm h v (xs.getD i dT) := by
  have hx : xs[i]? = some xs[i] := List.getElem?_eq_getElem hi
  obtain ⟨v, h1, h2⟩ := RdAll.get i a (d := (xs[i]).py) (by rw [Term.pys_eq, List.getElem?_map, hx]; rfl)
  exact ⟨v, h1, by rw [List.getD_eq_getElem?_getD, hx]; exact h2⟩
theorem getD_mem {xs : List Term} {i : Nat} (hi : i < xs.length) : xs.getD i dT ∈ xs := by
  have hx : xs[i]? = some xs[i] := List.getElem?_eq_getElem hi
  rw [List.getD_eq_getElem?_getD, hx]; exact List.getElem_mem hi

section
variable {prog : Program} {w : World} {A : Around} {E : Value → Shared → Prop} {s : Shared} {env : Env}
theorem ladd {a b : Addr} {xs ys : List Value} {Q : Value → Shared → Prop} (ha : s.heap.PlainList a xs.toArray) (hb : s.heap.PlainList b ys.toArray) (hsz : xs.length + ys.length ≤ sizeLine)
    (h : ∀ r s', Up s s' → s.heap.get? r = none → s'.heap.PlainList r (xs ++ ys).toArray → Q (.ref r) s') : wpAny (model prog w) A (binaryOp .Add (.ref a) (.ref b)) Q E s := by
  obtain ⟨n, ea⟩ := ha
  obtain ⟨m, eb⟩ := hb
  have e : xs.toArray ++ ys.toArray = (xs ++ ys).toArray := by simp
  refine concat_meets ⟨_, ea, rfl⟩ ⟨_, eb, rfl⟩ noFill_list_add seq_list_add F.slot_list_add F.entry_list_add (F.args_list_add_2 _ _) (AutoSeq1.list___add___list_list_0 a xs.toArray n b ys.toArray m (by simpa using hsz)) ⟨ea, eb, ?_⟩
  rw [e]
  exact h _ _ (Up.push (tk := s.toks)) (fresh_size _) ⟨_, Heap.get?_push_size _ rfl⟩

/-- t[:K] -/
theorem sl_to {value upper : Expr} {p pos : Pos} {x : Value} {kvs : List Value} {i : Nat} {Q : Value → Shared → Prop}
    (h : wpAny (model prog w) A (eval value env) (fun o s₁ => wpAny (model prog w) A (eval upper env) (fun u s₃ => ∃ t tk, o = .ref t ∧ IsTup s₃.heap t (x :: kvs).toArray ∧ u = .int ((1 + i : Nat) : Int) tk ∧ i ≤ kvs.length ∧ kvs.length + 1 ≤ sizeLine ∧
        ∀ r s', Up s₃ s' → IsTup s'.heap r (x :: kvs.take i).toArray → Q (.ref r) s') E s₁) E s)
    (hs : ∀ t i, subscripted (.Slice none (some upper) none p) false (.ref t) (.ref i) = operate [.ref i, .ref t] (getItem (.ref t) (.ref i)) := by intro _ _; with_unfolding_all rfl) :
    wpAny (model prog w) A (eval (.Subscript value (.Slice none (some upper) none p) pos) env) Q E s := by
  refine tslice (wpQ h fun o s₁ h₁ => evp_none (evp_some (wpQ h₁ fun u s₃ h₃ => ?_))) hs
  obtain ⟨t, tk, rfl, ht, rfl, hi, hz, hq⟩ := h₃
  refine ⟨t, _, none, some (1 + i), rfl, ht, rfl, ⟨tk, rfl⟩, by simp, by simp; omega, by simpa using hz, fun r s' u' hr => hq r s' u' ?_⟩
  have e : ((x :: kvs).drop ((none : Option Nat).getD 0)).take (((some (1 + i)).getD (x :: kvs).length) - (none : Option Nat).getD 0) = x :: kvs.take i := by
    simp [Nat.add_comm 1 i]
  rwa [e] at hr
/-- t[J:] with J = 1 + j -/
theorem sl_from {value lower : Expr} {p pos : Pos} {x : Value} {kvs : List Value} {j : Nat} {Q : Value → Shared → Prop}
    (h : wpAny (model prog w) A (eval value env) (fun o s₁ => wpAny (model prog w) A (eval lower env) (fun u s₃ => ∃ t tk, o = .ref t ∧ IsTup s₃.heap t (x :: kvs).toArray ∧ u = .int ((1 + j : Nat) : Int) tk ∧ j ≤ kvs.length ∧ kvs.length + 1 ≤ sizeLine ∧
        ∀ r s', Up s₃ s' → IsTup s'.heap r (kvs.drop j).toArray → Q (.ref r) s') E s₁) E s)
    (hs : ∀ t i, subscripted (.Slice (some lower) none none p) false (.ref t) (.ref i) = operate [.ref i, .ref t] (getItem (.ref t) (.ref i)) := by intro _ _; with_unfolding_all rfl) :
    wpAny (model prog w) A (eval (.Subscript value (.Slice (some lower) none none p) pos) env) Q E s := by
  refine tslice (wpQ h fun o s₁ h₁ => evp_some (wpQ h₁ fun u s₃ h₃ => evp_none ?_)) hs
  obtain ⟨t, tk, rfl, ht, rfl, hi, hz, hq⟩ := h₃
  refine ⟨t, _, some (1 + j), none, rfl, ht, ⟨tk, rfl⟩, rfl, by simp; omega, by simp, by simpa using hz, fun r s' u' hr => hq r s' u' ?_⟩
  have e : ((x :: kvs).drop ((some (1 + j)).getD 0)).take (((none : Option Nat).getD (x :: kvs).length) - (some (1 + j)).getD 0) = kvs.drop j := by
    rw [Option.getD_some, Nat.add_comm 1 j, List.drop_succ_cons]
    exact List.take_of_length_le (by simp)
  rwa [e] at hr
end
end Mine
end
section
set_option maxRecDepth 100000
set_option maxHeartbeats 1000000
set_option linter.constructorNameAsVariable false
set_option linter.unusedVariables false
open PySem PySem.W PyProof.Rows PySem.Calls PySem.Spec
namespace Mine
theorem cl_I {L I : Addr} {cs : List (Str × Addr)} {cm : Str → Option Value} {s s' : Shared} (Y : Cl L cs s.heap cm) (t : Tr [I] s s') (hI : isF s.heap I) : Cl L cs s'.heap cm :=
  ⟨fun n c e => IsCell.tr (Y.cell n c e) t (by simpa using hI.ne_cell (Y.cell n c e)), Y.apart, Y.above⟩
theorem cl_not {L D : Addr} {cs : List (Str × Addr)} {cm : Str → Option Value} {s s' : Shared} {ys : Array Value} (Y : Cl L cs s.heap cm) (t : Tr [D] s s') (hD : s.heap.PlainList D ys) : Cl L cs s'.heap cm :=
  ⟨fun n c e => IsCell.tr (Y.cell n c e) t (by
    simp
    rintro rfl
    obtain ⟨o, e1, d⟩ := Y.cell n _ e
    obtain ⟨k, e2⟩ := hD
    rw [e1] at e2; cases e2; cases d), Y.apart, Y.above⟩

theorem opens_rangeN {prog : Program} {w : World} {A : Around} {target : Expr} {mu : List Addr} {r : Addr} {a b : Int} {t u v : Tok} {sb : Shared} {n : Nat} (hh : A.handled = none) (hr : IsRange sb.heap r a b 1 t u v) (ha : -(2 ^ 62) < a) (ha' : a < 2 ^ 62) (hb : -(2 ^ 62) < b) (hb' : b < 2 ^ 62) (hn : (b - a).toNat = n) :
    Opens prog w A target mu n (fun i v => ∃ t, v = .int (a + i) t) (.ref r) sb := hn ▸ opens_range hh hr ha ha' hb hb'

noncomputable def TurnsOk (prog : Program) (w : World) (ops : List Lab) (T : Term) : Prop := ∀ (A : Around) (E : Value → Shared → Prop) (s : Shared) (X : List Addr) (ol : Addr) (v : Value) (Q : Value → Shared → Prop), Gx w X s.heap → OpsAt s.heap ol ops → Tm s.heap v T → A.handled = none →
  A.depth + T.height + 2 < recursionLimit → A.units + 10 * T.height + 200 < cLine → T.size ≤ 1000 →
  (∀ r s' us, Up s s' → s.heap.get? r = none → s'.heap.PlainList r (List.toArray us) → Tms s'.heap us (turns ops T) → Q (.ref r) s') → wpAny (model prog w) A (call (.ref 159) [v, .ref ol]) Q E s

/-- the state of the loops of turns -/
structure TSt (s : Shared) (L a ol D : Addr) (acc : List Term) (s' : Shared) : Prop where
  C : Cx [] s L (fun y => if y = "found" then some (.ref D) else if y = "ops" then some (.ref ol) else none) s'
  Y : ∃ cm, Cl L [("k", L + 2), ("t", L + 1)] s'.heap cm ∧ cm "t" = some (.ref a)
  acc : ∃ ys, s'.heap.PlainList D (List.toArray ys) ∧ Tms s'.heap ys acc
  fresh : s.heap.get? D = none
theorem TSt.up {s s₁ s₂ : Shared} {L a ol D : Addr} {acc : List Term} (x : TSt s L a ol D acc s₁) (u : Up s₁ s₂) : TSt s L a ol D acc s₂ :=
  ⟨x.C.up u, let ⟨cm, Y, h⟩ := x.Y; ⟨cm, cl_up Y u, h⟩, let ⟨ys, h1, h2⟩ := x.acc; ⟨ys, h1.at fun o e => u.le _ _ e, h2.up u.tup⟩, x.fresh⟩
theorem TSt.it {s s₁ s₂ : Shared} {L a ol D I : Addr} {acc : List Term} (x : TSt s L a ol D acc s₁) (hI : isF s₁.heap I) (hIs : s.heap.get? I = none) (t : Tr [I] s₁ s₂) : TSt s L a ol D acc s₂ :=
  ⟨x.C.step t (by intro b hb; simp at hb; subst hb; exact ⟨.inl hIs, fun q => hI.ne_ns x.C.ns q.symm⟩), let ⟨cm, Y, h⟩ := x.Y; ⟨cm, cl_I Y t hI, h⟩, let ⟨ys, h1, h2⟩ := x.acc; ⟨ys, h1.at fun o e => t.keep _ o (by simpa using hI.ne_list h1) e, h2.up t.tup⟩, x.fresh⟩

theorem TSt.setk {prog : Program} {w : World} {A : Around} {E : Value → Shared → Prop} {env : Env} {s s₁ : Shared} {L a ol D : Addr} {acc : List Term} {v : Value} {Q : Unit → Shared → Prop} (x : TSt s L a ol D acc s₁) (hL2 : s.heap.get? (L + 2) = none)
    (h : ∀ s', Tr [L + 2] s₁ s' → TSt s L a ol D acc s' → s'.heap.IsCell (L + 2) (some v) → Q () s')
    (hcs : env.cells = ([("k", L + 2), ("t", L + 1)] : List (Str × Addr))) (hk : env.scope.kind = .function) (hl : env.kindOf "k" = some .cell) : wpAny (model prog w) A (storeName env "k" v) Q E s₁ := by
  obtain ⟨cm, Y, e⟩ := x.Y
  obtain ⟨ys, h1, h2⟩ := x.acc
  refine stc (c := L + 2) x.C Y hL2 (fun s' t C' Y' => ?_) hcs (by exact rfl) hk hl
  have hne : D ≠ L + 2 := by
    rintro rfl
    obtain ⟨o, e1, d⟩ := Y.cell "k" (L + 2) (by exact rfl)
    obtain ⟨k, e2⟩ := h1
    rw [e1] at e2; cases e2; cases d
  refine h s' t ⟨C', ⟨_, Y', ?_⟩, ⟨ys, h1.at fun o e => t.keep _ o (by simpa using hne) e, h2.up t.tup⟩, x.fresh⟩ (by have := Y'.cell "k" (L + 2) (by exact rfl); simpa using this)
  rw [if_neg (by decide)]; exact e
/-- found grows by one -/
theorem TSt.push {s s₁ s₂ : Shared} {L a ol D : Addr} {acc : List Term} {T : Term} {r : Value} {ys : List Value} (x : TSt s L a ol D acc s₁) (t : Tr [D] s₁ s₂) (h1 : s₁.heap.PlainList D ys.toArray) (h2 : Tms s₁.heap ys acc) (hr : Tm s₂.heap r T)
    (hl : s₂.heap.PlainList D (ys ++ [r]).toArray) : TSt s L a ol D (acc ++ [T]) s₂ :=
  ⟨x.C.step t (by intro b hb; simp at hb; subst hb; exact ⟨.inl x.fresh, plain_ne_ns h1 x.C.ns⟩), let ⟨cm, Y, h⟩ := x.Y; ⟨cm, cl_not Y t h1, h⟩, ⟨_, hl, Tms.app (h2.up t.tup) (Tms.one hr)⟩, x.fresh⟩

theorem turns_step {prog : Program} {w : World} {ops : List Lab} (l : Lab) (ks : List Term) (IH : ∀ x ∈ ks, TurnsOk prog w ops x) : TurnsOk prog w ops (.mk l ks) := by
  intro A E s X ol v Q G ho ht hh hd hu hsz hQ
  have hsl : 1000000 ≤ sizeLine := by rw [PySem.sizeLine_eq]; decide
  have hks : Term.sizes ks + 1 ≤ 1000 := by rw [Term.size] at hsz; exact hsz
  have hkl := Term.len_sizes ks
  have hgt : (Term.mk l ks).height = Term.heights ks + 1 := by rw [Term.height]
  have htl := turns_len ops (.mk l ks)
  rw [turns_eq, List.length_append] at htl
  obtain ⟨a, tl, kvs, rfl, hT, hkv⟩ := Tm.open ht
  have hkvl := Tms.len hkv
  refine enterC (binds := [("t", .ref a), ("ops", .ref ol)]) G (by exact rfl) (by exact rfl) (by omega) (by exact rfl) (by exact rfl) rfl rfl rfl (fun L s₁ C Y hfresh G₁ => ?_)
  replace C : Cx [] s L (fun y => if y = "ops" then some (.ref ol) else none) s₁ := C
  have hL1 : s.heap.get? (L + 1) = none := hfresh "t" (L + 1) (by exact rfl)
  have hL2 : s.heap.get? (L + 2) = none := hfresh "k" (L + 2) (by exact rfl)
  clear hfresh
  obtain ⟨cm₀, Y, hcm₀⟩ : ∃ cm, Cl L [("k", L + 2), ("t", L + 1)] s₁.heap cm ∧ cm "t" = some (.ref a) := ⟨_, Y, rfl⟩
  refine wpAny_execs_cons ?_
  refine wpAny_Assign_Name ?_
  refine listD ?_
  refine wpAny_items_nil ⟨by simp, fun D s₂ u₂ hDn hD => ?_⟩
  have hDs : s.heap.get? D = none := fresh_of C.tr hDn
  have C₂ := C.up u₂
  have hDL : D ≠ L := plain_ne_ns hD C₂.ns
  refine st C₂ fun s₃ t₃ C₃ => ?_
  have T₃ : TSt s L a ol D [] s₃ := ⟨C₃, ⟨cm₀, cl_tr (cl_up Y u₂) t₃ (by simp), hcm₀⟩, ⟨[], hD.at fun o e => t₃.keep _ o (by simpa using hDL) e, RdAll.nil⟩, hDs⟩
  have Gs : ∀ {s' acc}, TSt s L a ol D acc s' → Gx w X s'.heap := fun x => G.up x.C.tr
  have hTs : ∀ {s' acc}, TSt s L a ol D acc s' → IsTup s'.heap a (Value.str l.str tl :: kvs).toArray := fun x => IsTup.tle hT x.C.tr.tup
  have hKs : ∀ {s' acc}, TSt s L a ol D acc s' → Tms s'.heap kvs ks := fun x => hkv.up x.C.tr.tup
  have hcT : ∀ {s' acc}, TSt s L a ol D acc s' → s'.heap.IsCell (L + 1) (some (.ref a)) := fun x => by
    obtain ⟨cm, Y, e⟩ := x.Y
    have := Y.cell "t" (L + 1) (by exact rfl)
    rwa [e] at this
  refine wpAny_execs_cons (wpQ (Q' := fun f s' => f = .next ∧ TSt s L a ol D (tops ops l ks) s') ?_ ?_)
  · refine wpAny_If (wpQ (Q' := fun bb s' => bb = isBag ops (.mk l ks) ∧ TSt s L a ol D [] s') ?_ fun bb s₄ h₄ => ?_)
    · refine isTrue_and (wpAny_isTrue_Compare1 ?_)
      refine tidx (nmC (hcT T₃) (ci fun t4 s₄ u₄ => ?_) (by exact rfl) (by exact rfl) (by exact rfl))
      have T₄ := T₃.up u₄
      refine ⟨a, _, 0, t4, _, rfl, rfl, hTs T₄, rfl, by simp; omega, ?_⟩
      refine nm T₄.C (by exact rfl) ?_
      obtain ⟨ws, ⟨oo, hol, hcl, nl, hdl⟩, hws⟩ := ho.up T₄.C.tr.le
      obtain ⟨as, hR⟩ : ∃ as, Reads s₄.heap (.ref ol) (.list (ops.map fun x => .str x.str)) as := ⟨_, .list hol hcl hdl (by simpa using hws.1)⟩
      refine SeqAt.in_list_reads (d := .str l.str) (bs := []) hR (.str _ _) (ops_can ops) (by rw [PyData.canLay0]; exact strOk_lab _) (by show A.units + 3 + 1 + min _ 0 < _; omega) ?_
      rw [ops_any]
      refine wpAny_truthy_bool ?_
      unfold isBag
      show if ops.contains l = true then _ else _
      cases hc : ops.contains l with
      | false => exact ⟨by show false = (ops.contains l && decide (2 ≤ ks.length)); rw [hc]; rfl, T₄⟩
      | true =>
        simp only [if_true]
        refine isTrue_and (wpAny_isTrue_Compare1 ?_)
        refine callB (Gs T₄) (g_len w) boot_len (by decide) ?_
        refine wpAny_items_cons ?_
        refine nmC (hcT T₄) ?_ (by exact rfl) (by exact rfl) (by exact rfl)
        refine wpAny_items_nil ?_
        refine len_t (hTs T₄) (by simp; omega) fun t5 s₅ u₅ => ?_
        refine ci fun t6 s₆ u₆ => ?_
        refine PyProof.Rows.gt_int (wpAny_truthy_bool ?_)
        have e : decide ((2 : Int) < (((Value.str l.str tl :: kvs).length : Nat) : Int)) = decide (2 ≤ ks.length) := by
          rw [List.length_cons, hkvl]; by_cases hq : 2 ≤ ks.length <;> simp [hq] <;> omega
        rw [e]
        have T₆ := (T₄.up u₅).up u₆
        cases hq : decide (2 ≤ ks.length) with
        | false => exact ⟨by show false = (ops.contains l && decide (2 ≤ ks.length)); rw [hq, Bool.and_false], T₆⟩
        | true => exact isTrue_and_nil ⟨by show true = (ops.contains l && decide (2 ≤ ks.length)); rw [hc, hq]; rfl, T₆⟩
    · obtain ⟨rfl, T₄⟩ := h₄
      unfold tops
      cases hb : isBag ops (.mk l ks) with
      | false =>
        rw [if_neg (by simp), if_neg (by simp)]
        exact wpAny_execs_nil ⟨rfl, T₄⟩
      | true =>
        rw [if_pos rfl, if_pos rfl]
        have h2 := (isBag_two hb).2
        refine wpAny_execs_cons ?_
        refine forG ?_ (by intro _; rfl)
        refine callT (Gs T₄) (g_range w) PyProof.Rows.boot_range (by decide) ?_
        refine wpAny_items_cons ?_
        refine ci fun t5 s₅ u₅ => ?_
        refine wpAny_items_cons ?_
        refine wpAny_BinOp ?_
        have T₅ := T₄.up u₅
        refine callB (Gs T₅) (g_len w) boot_len (by decide) ?_
        refine wpAny_items_cons ?_
        refine nmC (hcT T₅) ?_ (by exact rfl) (by exact rfl) (by exact rfl)
        refine wpAny_items_nil ?_
        refine len_t (hTs T₅) (by simp; omega) fun t6 s₆ u₆ => ?_
        refine ci fun t7 s₇ u₇ => ?_
        refine sub_ints fun t8 s₈ u₈ => ?_
        refine wpAny_items_nil ?_
        refine range2 fun rg s₉ q1 q2 q3 u₉ hrg => ?_
        have T₉ := ((((T₅.up u₆).up u₇).up u₈).up u₉)
        have hn : ((((Value.str l.str tl :: kvs).length : Nat) : Int) - 1 - 1).toNat = ks.length - 1 := by
          rw [List.length_cons, hkvl]; omega
        have hDe : ∃ o, s₉.heap.get? D = some o := let ⟨ys, ⟨n, e⟩, _⟩ := T₉.acc; ⟨_, e⟩
        have hCe : ∃ o, s₉.heap.get? (L + 2) = some o := by
          obtain ⟨cm, Y, _⟩ := T₉.Y
          obtain ⟨o, e, _⟩ := Y.cell "k" (L + 2) (by exact rfl)
          exact ⟨o, e⟩
        refine ⟨[L + 2, D], ks.length - 1, _, fun i s' => TSt s L a ol D ((List.range i).flatMap (top1 l ks)) s', opens_rangeN (by exact hh) hrg (by decide) (by decide) (by simp only [List.length_cons]; omega) (by simp only [List.length_cons]; omega) hn, ?_, T₉, fun i sa sb u x => x.up u, fun i sa sb I hI hIn t x => x.it hI (fresh_of T₉.C.tr hIn) t, ?_, fun s₁₀ T₁₀ => ?_⟩
        · intro b hb'
          simp at hb'
          rcases hb' with rfl | rfl
          · exact hCe
          · exact hDe
        · rintro i v s₁₀ hi ⟨tk, rfl⟩ T₁₀
          have eK : (1 : Int) + (i : Int) = ((1 + i : Nat) : Int) := by push_cast; rfl
          rw [eK]
          have hi1 : i < ks.length := by omega
          have hi2 : i + 1 < ks.length := by omega
          refine wpAny_assign_Name ?_
          refine T₁₀.setk hL2 (fun s₁₁ t₁₁ T₁₁ hk₁₁ => ?_) (by exact rfl) (by exact rfl) (by exact rfl)
          obtain ⟨ys, hys, hyt⟩ := T₁₁.acc
          have hacc : ((List.range i).flatMap (top1 l ks)).length ≤ 2 * i := fm_len _ 2 (top1_len l ks) i
          have hyl := Tms.len hyt
          obtain ⟨x0, hx0, _⟩ := Tms.getD hkv hi1
          obtain ⟨x1, hx1, _⟩ := Tms.getD hkv hi2
          have hm0 : ∀ {s' acc}, TSt s L a ol D acc s' → Tm s'.heap x0 (ks.getD i dT) := fun x => by
            obtain ⟨v, h1, h2⟩ := Tms.getD (hKs x) hi1
            rw [hx0] at h1; cases h1; exact h2
          have hm1 : ∀ {s' acc}, TSt s L a ol D acc s' → Tm s'.heap x1 (ks.getD (i + 1) dT) := fun x => by
            obtain ⟨v, h1, h2⟩ := Tms.getD (hKs x) hi2
            rw [hx1] at h1; cases h1; exact h2
          have hidx : (Value.str l.str tl :: kvs)[1 + i + 1]? = some x1 := by rw [Nat.add_comm 1 i]; simpa using hx1
          have hidx0 : (Value.str l.str tl :: kvs)[1 + i]? = some x0 := by rw [Nat.add_comm 1 i]; simpa using hx0
          have hzt : (Value.str l.str tl :: kvs).length ≤ sizeLine := by simp only [List.length_cons]; omega
          refine wpAny_execs_cons ?_
          refine wpAny_Expr ?_
          refine lmeth1 PySem.F.slot_list_append PySem.F.type_list_append (nm T₁₁.C (by exact rfl) ⟨D, _, rfl, hys, ?_⟩) _ (by exact rfl) (by exact rfl)
          refine wpAny_BinOp ?_
          refine wpAny_BinOp ?_
          refine sl_to (x := Value.str l.str tl) (kvs := kvs) (i := i) (nmC (hcT T₁₁) (nmC hk₁₁ ⟨a, tk, rfl, hTs T₁₁, rfl, by omega, by omega, fun r1 s₁₂ u₁₂ h1 => ?_⟩ (by exact rfl) (by exact rfl) (by exact rfl)) (by exact rfl) (by exact rfl) (by exact rfl))
          have T₁₂ := T₁₁.up u₁₂
          have hk₁₂ := IsCell.up hk₁₁ u₁₂.le
          refine tupleD ?_
          refine wpAny_items_cons ?_
          refine tidx (nmC (hcT T₁₂) ?_ (by exact rfl) (by exact rfl) (by exact rfl))
          refine wpAny_BinOp ?_
          refine nmC hk₁₂ ?_ (by exact rfl) (by exact rfl) (by exact rfl)
          refine ci fun t13 s₁₃ u₁₃ => ?_
          refine add_ints fun t14 s₁₄ u₁₄ => ?_
          have T₁₄ := (T₁₂.up u₁₃).up u₁₄
          have hk₁₄ := IsCell.up hk₁₂ (u₁₃.trans u₁₄).le
          refine ⟨a, _, 1 + i + 1, t14, x1, rfl, by push_cast; rfl, hTs T₁₄, hidx, hzt, ?_⟩
          refine wpAny_items_cons ?_
          refine tidx (nmC (hcT T₁₄) (nmC hk₁₄ ⟨a, _, 1 + i, tk, x0, rfl, rfl, hTs T₁₄, hidx0, hzt, ?_⟩ (by exact rfl) (by exact rfl) (by exact rfl)) (by exact rfl) (by exact rfl) (by exact rfl))
          refine wpAny_items_nil ⟨by simp; omega, fun b2 s₁₅ u₁₅ _ h2' => ?_⟩
          have w15 := (u₁₃.trans u₁₄).trans u₁₅
          refine tadd (h1.keeps w15.le) h2' (by simp; omega) fun r2 s₁₆ u₁₆ h3 => ?_
          have T₁₆ := (T₁₄.up u₁₅).up u₁₆
          have hk₁₆ := IsCell.up hk₁₄ (u₁₅.trans u₁₆).le
          refine sl_from (x := Value.str l.str tl) (kvs := kvs) (j := i + 2) (nmC (hcT T₁₆) ?_ (by exact rfl) (by exact rfl) (by exact rfl))
          refine wpAny_BinOp ?_
          refine nmC hk₁₆ ?_ (by exact rfl) (by exact rfl) (by exact rfl)
          refine ci fun t17 s₁₇ u₁₇ => ?_
          refine add_ints fun t18 s₁₈ u₁₈ => ?_
          have T₁₈ := (T₁₆.up u₁₇).up u₁₈
          refine ⟨a, t18, rfl, hTs T₁₈, by rw [show ((1 + i : Nat) : Int) + 2 = ((1 + (i + 2) : Nat) : Int) by omega], by omega, by omega, fun r3 s₁₉ u₁₉ h4 => ?_⟩
          refine tadd (IsTup.tle h3 (u₁₇.tup.trans (u₁₈.tup.trans u₁₉.tup))) h4 (by simp; omega) fun r4 s₂₀ u₂₀ h5 => ?_
          have T₂₀ := (T₁₈.up u₁₉).up u₂₀
          have w20 : Up s₁₁ s₂₀ := (((u₁₂.trans w15).trans u₁₆).trans (u₁₇.trans u₁₈)).trans (u₁₉.trans u₂₀)
          have hys₂₀ : s₂₀.heap.PlainList D ys.toArray := hys.at fun o e => w20.le _ _ e
          have mU : Tm s₂₀.heap (.ref r4) (.mk l (swapAt ks i)) := by
            refine Tm.close (vs := kvs.take i ++ x1 :: x0 :: kvs.drop (i + 2)) (t := tl) ?_ (Tms.app (Tms.take i (hKs T₂₀)) (RdAll.cons (hm1 T₂₀) (RdAll.cons (hm0 T₂₀) (Tms.drop (i + 2) (hKs T₂₀)))))
            have e : (Value.str l.str tl :: kvs.take i ++ [x1, x0] ++ kvs.drop (i + 2)) = Value.str l.str tl :: (kvs.take i ++ x1 :: x0 :: kvs.drop (i + 2)) := by simp
            rw [← e]; exact h5
          refine append_tr hys₂₀ (by omega) fun s₂₁ t₂₁ hl₂₁ => ?_
          have T₂₁ := T₂₀.push t₂₁ hys₂₀ (hyt.up w20.tup) (mU.up t₂₁.tup) hl₂₁
          have hk₂₁ : s₂₁.heap.IsCell (L + 2) (some (.int ((1 + i : Nat) : Int) tk)) := by
            refine IsCell.tr (IsCell.up hk₁₁ w20.le) t₂₁ ?_
            simp
            rintro e
            obtain ⟨o, e1, d⟩ := hk₁₁
            obtain ⟨k, e2⟩ := hys
            rw [← e, e1] at e2; cases e2; cases d
          have tr21 : Tr [L + 2, D] s₁₀ s₂₁ := (t₁₁.mono (by simp)).trans ((Up.to w20 _).trans (t₂₁.mono (by simp)))
          clear T₁₂ T₁₄ T₁₆ T₁₈ T₂₀ hk₁₂ hk₁₄ hk₁₆
          refine wpAny_execs_cons ?_
          refine wpAny_If ?_
          refine wpAny_isTrue_Compare1 ?_
          refine callB (Gs T₂₁) (g_len w) boot_len (by decide) ?_
          refine wpAny_items_cons ?_
          refine nmC (hcT T₂₁) ?_ (by exact rfl) (by exact rfl) (by exact rfl)
          refine wpAny_items_nil ?_
          refine len_t (hTs T₂₁) hzt fun t22 s₂₂ u₂₂ => ?_
          refine ci fun t23 s₂₃ u₂₃ => ?_
          refine PyProof.Rows.gt_int (wpAny_truthy_bool ?_)
          have T₂₃ := (T₂₁.up u₂₂).up u₂₃
          have hk₂₃ := IsCell.up hk₂₁ (u₂₂.trans u₂₃).le
          have tr23 : Tr [L + 2, D] s₁₀ s₂₃ := tr21.trans (Up.to (u₂₂.trans u₂₃) _)
          by_cases h3k : 3 ≤ ks.length
          · have e : decide ((3 : Int) < (((Value.str l.str tl :: kvs).length : Nat) : Int)) = true := by
              rw [List.length_cons, hkvl]; simp; omega
            rw [e, if_pos rfl]
            have etop : top1 l ks i = [.mk l (swapAt ks i), .mk l (wrapAt l ks i)] := by unfold top1; rw [if_pos h3k]
            obtain ⟨zs, hzs, hzt'⟩ := T₂₃.acc
            have hzl := Tms.len hzt'
            rw [List.length_append, List.length_singleton] at hzl
            refine wpAny_execs_cons ?_
            refine wpAny_Expr ?_
            refine lmeth1 PySem.F.slot_list_append PySem.F.type_list_append (nm T₂₃.C (by exact rfl) ⟨D, _, rfl, hzs, ?_⟩) _ (by exact rfl) (by exact rfl)
            refine wpAny_BinOp ?_
            refine wpAny_BinOp ?_
            refine sl_to (x := Value.str l.str tl) (kvs := kvs) (i := i) (nmC (hcT T₂₃) (nmC hk₂₃ ⟨a, tk, rfl, hTs T₂₃, rfl, by omega, by omega, fun r1 s₂₄ u₂₄ h1 => ?_⟩ (by exact rfl) (by exact rfl) (by exact rfl)) (by exact rfl) (by exact rfl) (by exact rfl))
            have T₂₄ := T₂₃.up u₂₄
            have hk₂₄ := IsCell.up hk₂₃ u₂₄.le
            refine tupleD ?_
            refine wpAny_items_cons ?_
            refine tupleD ?_
            refine wpAny_items_cons ?_
            refine tidx (nmC (hcT T₂₄) (ci fun t25 s₂₅ u₂₅ => ?_) (by exact rfl) (by exact rfl) (by exact rfl))
            have T₂₅ := T₂₄.up u₂₅
            have hk₂₅ := IsCell.up hk₂₄ u₂₅.le
            refine ⟨a, _, 0, t25, _, rfl, rfl, hTs T₂₅, rfl, hzt, ?_⟩
            refine wpAny_items_cons ?_
            refine tidx (nmC (hcT T₂₅) (nmC hk₂₅ ⟨a, _, 1 + i, tk, x0, rfl, rfl, hTs T₂₅, hidx0, hzt, ?_⟩ (by exact rfl) (by exact rfl) (by exact rfl)) (by exact rfl) (by exact rfl) (by exact rfl))
            refine wpAny_items_cons ?_
            refine tidx (nmC (hcT T₂₅) ?_ (by exact rfl) (by exact rfl) (by exact rfl))
            refine wpAny_BinOp ?_
            refine nmC hk₂₅ ?_ (by exact rfl) (by exact rfl) (by exact rfl)
            refine ci fun t26 s₂₆ u₂₆ => ?_
            refine add_ints fun t27 s₂₇ u₂₇ => ?_
            have T₂₇ := (T₂₅.up u₂₆).up u₂₇
            have hk₂₇ := IsCell.up hk₂₅ (u₂₆.trans u₂₇).le
            refine ⟨a, _, 1 + i + 1, t27, x1, rfl, by push_cast; rfl, hTs T₂₇, hidx, hzt, ?_⟩
            refine wpAny_items_nil ⟨by simp; omega, fun b2 s₂₈ u₂₈ _ h2' => ?_⟩
            refine wpAny_items_nil ⟨by simp; omega, fun b3 s₂₉ u₂₉ _ h3' => ?_⟩
            have w29 := (((u₂₅.trans u₂₆).trans u₂₇).trans u₂₈).trans u₂₉
            refine tadd (h1.keeps w29.le) h3' (by simp; omega) fun r2 s₃₀ u₃₀ h4 => ?_
            have T₂₈ := T₂₇.up u₂₈
            have T₃₀ := (T₂₈.up u₂₉).up u₃₀
            have hk₃₀ := IsCell.up hk₂₇ ((u₂₈.trans u₂₉).trans u₃₀).le
            refine sl_from (x := Value.str l.str tl) (kvs := kvs) (j := i + 2) (nmC (hcT T₃₀) ?_ (by exact rfl) (by exact rfl) (by exact rfl))
            refine wpAny_BinOp ?_
            refine nmC hk₃₀ ?_ (by exact rfl) (by exact rfl) (by exact rfl)
            refine ci fun t31 s₃₁ u₃₁ => ?_
            refine add_ints fun t32 s₃₂ u₃₂ => ?_
            have T₃₂ := (T₃₀.up u₃₁).up u₃₂
            refine ⟨a, t32, rfl, hTs T₃₂, by rw [show ((1 + i : Nat) : Int) + 2 = ((1 + (i + 2) : Nat) : Int) by omega], by omega, by omega, fun r3 s₃₃ u₃₃ h5' => ?_⟩
            refine tadd (IsTup.tle h4 (u₃₁.tup.trans (u₃₂.tup.trans u₃₃.tup))) h5' (by simp; omega) fun r4 s₃₄ u₃₄ h6 => ?_
            have T₃₄ := (T₃₂.up u₃₃).up u₃₄
            have w34 : Up s₂₃ s₃₄ := (((u₂₄.trans w29).trans u₃₀).trans (u₃₁.trans u₃₂)).trans (u₃₃.trans u₃₄)
            have hzs₃₄ : s₃₄.heap.PlainList D zs.toArray := hzs.at fun o e => w34.le _ _ e
            have mW : Tm s₃₄.heap (.ref b2) (.mk l [ks.getD i dT, ks.getD (i + 1) dT]) := (Tm.close (ks := [ks.getD i dT, ks.getD (i + 1) dT]) h2' (RdAll.cons (hm0 T₂₈) (RdAll.cons (hm1 T₂₈) RdAll.nil))).up ((((u₂₉.trans u₃₀).trans u₃₁).trans u₃₂).trans (u₃₃.trans u₃₄)).tup
            have mV : Tm s₃₄.heap (.ref r4) (.mk l (wrapAt l ks i)) := by
              refine Tm.close (vs := kvs.take i ++ .ref b2 :: kvs.drop (i + 2)) (t := tl) ?_ (Tms.app (Tms.take i (hKs T₃₄)) (RdAll.cons mW (Tms.drop (i + 2) (hKs T₃₄))))
              have e : (Value.str l.str tl :: kvs.take i ++ [.ref b2] ++ kvs.drop (i + 2)) = Value.str l.str tl :: (kvs.take i ++ .ref b2 :: kvs.drop (i + 2)) := by simp
              rw [← e]; exact h6
            refine append_tr hzs₃₄ (by omega) fun s₃₅ t₃₅ hl₃₅ => ?_
            have T₃₅ := T₃₄.push t₃₅ hzs₃₄ (hzt'.up w34.tup) (mV.up t₃₅.tup) hl₃₅
            refine wpAny_execs_nil ?_
            refine wpAny_execs_nil ⟨rfl, tr23.trans ((Up.to w34 _).trans (t₃₅.mono (by simp))), ?_⟩
            show TSt s L a ol D ((List.range (i + 1)).flatMap (top1 l ks)) s₃₅
            rw [fm_succ, etop]
            rw [List.append_assoc] at T₃₅
            exact T₃₅
          · have e : decide ((3 : Int) < (((Value.str l.str tl :: kvs).length : Nat) : Int)) = false := by
              rw [List.length_cons, hkvl]; simp; omega
            rw [e, if_neg (by simp)]
            refine wpAny_execs_nil ?_
            refine wpAny_execs_nil ⟨rfl, tr23, ?_⟩
            show TSt s L a ol D ((List.range (i + 1)).flatMap (top1 l ks)) s₂₃
            rw [fm_succ]
            have etop : top1 l ks i = [.mk l (swapAt ks i)] := by unfold top1; rw [if_neg h3k]
            rw [etop]; exact T₂₃
        · refine wpAny_execs_cons ?_
          refine forG ?_ (by intro _; rfl)
          refine callT (Gs T₁₀) (g_range w) PyProof.Rows.boot_range (by decide) ?_
          refine wpAny_items_cons ?_
          refine ci fun t11 s₁₁ u₁₁ => ?_
          refine wpAny_items_cons ?_
          have T₁₁ := T₁₀.up u₁₁
          refine callB (Gs T₁₁) (g_len w) boot_len (by decide) ?_
          refine wpAny_items_cons ?_
          refine nmC (hcT T₁₁) ?_ (by exact rfl) (by exact rfl) (by exact rfl)
          refine wpAny_items_nil ?_
          have hzt : (Value.str l.str tl :: kvs).length ≤ sizeLine := by simp only [List.length_cons]; omega
          refine len_t (hTs T₁₁) hzt fun t12 s₁₂ u₁₂ => ?_
          refine wpAny_items_nil ?_
          refine range2 fun rg2 s₁₃ q4 q5 q6 u₁₃ hrg2 => ?_
          have T₁₃ := (T₁₁.up u₁₂).up u₁₃
          have hn2 : ((((Value.str l.str tl :: kvs).length : Nat) : Int) - 1).toNat = ks.length := by
            rw [List.length_cons, hkvl]; omega
          have hDe : ∃ o, s₁₃.heap.get? D = some o := let ⟨ys, ⟨n, e⟩, _⟩ := T₁₃.acc; ⟨_, e⟩
          have hCe : ∃ o, s₁₃.heap.get? (L + 2) = some o := by
            obtain ⟨cm, Y, _⟩ := T₁₃.Y
            obtain ⟨o, e, _⟩ := Y.cell "k" (L + 2) (by exact rfl)
            exact ⟨o, e⟩
          have hB : ((List.range (ks.length - 1)).flatMap (top1 l ks)).length ≤ 2 * (ks.length - 1) := fm_len _ 2 (top1_len l ks) _
          refine ⟨[L + 2, D], ks.length, _, fun i s' => TSt s L a ol D ((List.range (ks.length - 1)).flatMap (top1 l ks) ++ (List.range i).flatMap (top2 l ks)) s', opens_rangeN (by exact hh) hrg2 (by decide) (by decide) (by simp only [List.length_cons]; omega) (by simp only [List.length_cons]; omega) hn2, ?_, by simpa using T₁₃, fun i sa sb u x => x.up u, fun i sa sb I hI hIn t x => x.it hI (fresh_of T₁₃.C.tr hIn) t, ?_, fun s₁₄ T₁₄ => wpAny_execs_nil ⟨rfl, T₁₄⟩⟩
          · intro b hb'
            simp at hb'
            rcases hb' with rfl | rfl
            · exact hCe
            · exact hDe
          · rintro i v s₁₄ hi ⟨tk, rfl⟩ T₁₄
            have eacc : (List.range (ks.length - 1)).flatMap (top1 l ks) ++ (List.range (i + 1)).flatMap (top2 l ks) = (List.range (ks.length - 1)).flatMap (top1 l ks) ++ (List.range i).flatMap (top2 l ks) ++ top2 l ks i := by rw [fm_succ, ← List.append_assoc]
            have hacc : ((List.range i).flatMap (top2 l ks)).length ≤ 1 * i := fm_len _ 1 (top2_len l ks) i
            have eK : (1 : Int) + (i : Int) = ((1 + i : Nat) : Int) := by push_cast; rfl
            rw [eK]
            refine wpAny_assign_Name ?_
            refine T₁₄.setk hL2 (fun s₁₅ t₁₅ T₁₅ hk₁₅ => ?_) (by exact rfl) (by exact rfl) (by exact rfl)
            obtain ⟨x0, hx0, hm0⟩ := Tms.getD hkv hi
            have hidx0 : (Value.str l.str tl :: kvs)[1 + i]? = some x0 := by rw [Nat.add_comm 1 i]; simpa using hx0
            have hxm := getD_mem hi
            have hsx := Term.size_mem ks _ hxm
            generalize hgd : ks.getD i dT = x at hm0 hxm hsx
            obtain ⟨xl, xk⟩ := x
            have hxk := Term.len_sizes xk
            rw [Term.size] at hsx
            obtain ⟨a', t', vs', rfl, hT', hv'⟩ := Tm.open hm0
            have hvl' := Tms.len hv'
            have hT's : ∀ {s' acc}, TSt s L a ol D acc s' → IsTup s'.heap a' (Value.str xl.str t' :: vs').toArray := fun x => IsTup.tle hT' x.C.tr.tup
            have hzt' : (Value.str xl.str t' :: vs').length ≤ sizeLine := by simp only [List.length_cons]; omega
            refine wpAny_execs_cons ?_
            refine wpAny_If (wpQ (Q' := fun bb s' => bb = (decide (xl = l) && decide (2 ≤ xk.length)) ∧ Up s₁₅ s') ?_ fun bb s₁₆ h₁₆ => ?_)
            · refine isTrue_and (wpAny_isTrue_Compare1 ?_)
              refine tidx ?_
              refine tidx (nmC (hcT T₁₅) (nmC hk₁₅ ⟨a, _, 1 + i, tk, .ref a', rfl, rfl, hTs T₁₅, hidx0, hzt, ?_⟩ (by exact rfl) (by exact rfl) (by exact rfl)) (by exact rfl) (by exact rfl) (by exact rfl))
              refine ci fun t16 s₁₆ u₁₆ => ?_
              have T₁₆ := T₁₅.up u₁₆
              refine ⟨a', _, 0, t16, _, rfl, rfl, hT's T₁₆, rfl, hzt', ?_⟩
              refine tidx (nmC (hcT T₁₆) (ci fun t17 s₁₇ u₁₇ => ?_) (by exact rfl) (by exact rfl) (by exact rfl))
              have T₁₇ := T₁₆.up u₁₇
              have hk₁₇ := IsCell.up hk₁₅ (u₁₆.trans u₁₇).le
              refine ⟨a, _, 0, t17, _, rfl, rfl, hTs T₁₇, rfl, hzt, ?_⟩
              refine PyProof.Rows.eq_str (wpAny_truthy_bool ?_)
              rw [lab_str_inj]
              cases hq : decide (xl = l) with
              | false => exact ⟨rfl, u₁₆.trans u₁₇⟩
              | true =>
                simp only [if_true]
                refine isTrue_and (wpAny_isTrue_Compare1 ?_)
                refine callB (Gs T₁₇) (g_len w) boot_len (by decide) ?_
                refine wpAny_items_cons ?_
                refine tidx (nmC (hcT T₁₇) (nmC hk₁₇ ⟨a, _, 1 + i, tk, .ref a', rfl, rfl, hTs T₁₇, hidx0, hzt, ?_⟩ (by exact rfl) (by exact rfl) (by exact rfl)) (by exact rfl) (by exact rfl) (by exact rfl))
                refine wpAny_items_nil ?_
                refine len_t (hT's T₁₇) hzt' fun t18 s₁₈ u₁₈ => ?_
                refine ci fun t19 s₁₉ u₁₉ => ?_
                refine PyProof.Rows.gt_int (wpAny_truthy_bool ?_)
                have e : decide ((2 : Int) < (((Value.str xl.str t' :: vs').length : Nat) : Int)) = decide (2 ≤ xk.length) := by
                  rw [List.length_cons, hvl']; by_cases hq : 2 ≤ xk.length <;> simp [hq] <;> omega
                rw [e]
                have uu := ((u₁₆.trans u₁₇).trans u₁₈).trans u₁₉
                cases hq2 : decide (2 ≤ xk.length) with
                | false => exact ⟨rfl, uu⟩
                | true => exact isTrue_and_nil ⟨rfl, uu⟩
            obtain ⟨rfl, u₁₆⟩ := h₁₆
            have T₁₆ := T₁₅.up u₁₆
            have hk₁₆ := IsCell.up hk₁₅ u₁₆.le
            by_cases hb2 : (decide (xl = l) && decide (2 ≤ xk.length)) = true
            · rw [if_pos hb2]
              have hb3 : (Term.mk xl xk).lab = l ∧ 2 ≤ (Term.mk xl xk).kids.length := by simpa [Term.lab, Term.kids] using hb2
              have etop : top2 l ks i = [.mk l (cutAt ks i)] := by unfold top2; rw [hgd, if_pos hb3]
              rw [etop] at eacc
              obtain ⟨ys, hys, hyt⟩ := T₁₆.acc
              have hyl := Tms.len hyt
              rw [List.length_append] at hyl
              refine wpAny_execs_cons ?_
              refine wpAny_Expr ?_
              refine lmeth1 PySem.F.slot_list_append PySem.F.type_list_append (nm T₁₆.C (by exact rfl) ⟨D, _, rfl, hys, ?_⟩) _ (by exact rfl) (by exact rfl)
              refine wpAny_BinOp ?_
              refine wpAny_BinOp ?_
              refine sl_to (x := Value.str l.str tl) (kvs := kvs) (i := i) (nmC (hcT T₁₆) (nmC hk₁₆ ⟨a, tk, rfl, hTs T₁₆, rfl, by omega, by omega, fun r1 s₁₇ u₁₇ h1 => ?_⟩ (by exact rfl) (by exact rfl) (by exact rfl)) (by exact rfl) (by exact rfl) (by exact rfl))
              have T₁₇ := T₁₆.up u₁₇
              have hk₁₇ := IsCell.up hk₁₆ u₁₇.le
              refine sl_from (x := Value.str xl.str t') (kvs := vs') (j := 0) ?_
              refine tidx (nmC (hcT T₁₇) (nmC hk₁₇ ⟨a, _, 1 + i, tk, .ref a', rfl, rfl, hTs T₁₇, hidx0, hzt, ?_⟩ (by exact rfl) (by exact rfl) (by exact rfl)) (by exact rfl) (by exact rfl) (by exact rfl))
              refine ci fun t18 s₁₈ u₁₈ => ?_
              have T₁₈ := T₁₇.up u₁₈
              refine ⟨a', t18, rfl, hT's T₁₈, rfl, by omega, by omega, fun r2 s₁₉ u₁₉ h2 => ?_⟩
              refine tadd (h1.keeps (u₁₈.trans u₁₉).le) h2 (by simp; omega) fun r3 s₂₀ u₂₀ h3 => ?_
              have T₂₀ := (T₁₈.up u₁₉).up u₂₀
              have hk₂₀ := IsCell.up hk₁₇ ((u₁₈.trans u₁₉).trans u₂₀).le
              refine sl_from (x := Value.str l.str tl) (kvs := kvs) (j := i + 1) (nmC (hcT T₂₀) ?_ (by exact rfl) (by exact rfl) (by exact rfl))
              refine wpAny_BinOp ?_
              refine nmC hk₂₀ ?_ (by exact rfl) (by exact rfl) (by exact rfl)
              refine ci fun t21 s₂₁ u₂₁ => ?_
              refine add_ints fun t22 s₂₂ u₂₂ => ?_
              have T₂₂ := (T₂₀.up u₂₁).up u₂₂
              refine ⟨a, t22, rfl, hTs T₂₂, by rw [show ((1 + i : Nat) : Int) + 1 = ((1 + (i + 1) : Nat) : Int) by omega], by omega, by omega, fun r4 s₂₃ u₂₃ h4 => ?_⟩
              refine tadd (IsTup.tle h3 (u₂₁.tup.trans (u₂₂.tup.trans u₂₃.tup))) h4 (by simp; omega) fun r5 s₂₄ u₂₄ h5 => ?_
              have T₂₄ := (T₂₂.up u₂₃).up u₂₄
              have w24 : Up s₁₆ s₂₄ := ((((u₁₇.trans u₁₈).trans u₁₉).trans u₂₀).trans (u₂₁.trans u₂₂)).trans (u₂₃.trans u₂₄)
              have hys₂₄ : s₂₄.heap.PlainList D ys.toArray := hys.at fun o e => w24.le _ _ e
              have mU : Tm s₂₄.heap (.ref r5) (.mk l (cutAt ks i)) := by
                unfold cutAt
                rw [hgd]
                refine Tm.close (vs := kvs.take i ++ (vs' ++ kvs.drop (i + 1))) (t := tl) ?_ (Tms.app (Tms.take i (hKs T₂₄)) (Tms.app (hv'.up T₂₄.C.tr.tup) (Tms.drop (i + 1) (hKs T₂₄))))
                have e : (Value.str l.str tl :: kvs.take i ++ vs'.drop 0 ++ kvs.drop (i + 1)) = Value.str l.str tl :: (kvs.take i ++ (vs' ++ kvs.drop (i + 1))) := by simp
                rw [← e]; exact h5
              refine append_tr hys₂₄ (by omega) fun s₂₅ t₂₅ hl₂₅ => ?_
              have T₂₅ := T₂₄.push t₂₅ hys₂₄ (hyt.up w24.tup) (mU.up t₂₅.tup) hl₂₅
              refine wpAny_execs_nil ?_
              exact wpAny_execs_nil ⟨rfl, (t₁₅.mono (by simp)).trans ((Up.to (u₁₆.trans w24) _).trans (t₂₅.mono (by simp))), by show TSt s L a ol D _ s₂₅; rw [eacc]; exact T₂₅⟩
            · rw [if_neg hb2]
              have hb3 : ¬ ((Term.mk xl xk).lab = l ∧ 2 ≤ (Term.mk xl xk).kids.length) := by simpa [Term.lab, Term.kids] using hb2
              have etop : top2 l ks i = [] := by unfold top2; rw [hgd, if_neg hb3]
              rw [etop, List.append_nil] at eacc
              refine wpAny_execs_nil ?_
              refine wpAny_execs_nil ⟨rfl, (t₁₅.mono (by simp)).trans (Up.to u₁₆ _), ?_⟩
              show TSt s L a ol D _ s₁₆
              rw [eacc]; exact T₁₆
  · rintro f s₁₀ ⟨rfl, T₁₀⟩
    have GsD : ∀ {s' acc D}, TSt s L a ol D acc s' → Gx w X s'.heap := fun x => G.up x.C.tr
    have hTsD : ∀ {s' acc D}, TSt s L a ol D acc s' → IsTup s'.heap a (Value.str l.str tl :: kvs).toArray := fun x => IsTup.tle hT x.C.tr.tup
    have hKsD : ∀ {s' acc D}, TSt s L a ol D acc s' → Tms s'.heap kvs ks := fun x => hkv.up x.C.tr.tup
    have hcTD : ∀ {s' acc D}, TSt s L a ol D acc s' → s'.heap.IsCell (L + 1) (some (.ref a)) := fun x => by
      obtain ⟨cm, Y, e⟩ := x.Y
      have := Y.cell "t" (L + 1) (by exact rfl)
      rwa [e] at this
    have hzt : (Value.str l.str tl :: kvs).length ≤ sizeLine := by simp only [List.length_cons]; omega
    refine wpAny_execs_cons ?_
    refine forG ?_ (by intro _; rfl)
    refine callT (GsD T₁₀) (g_range w) PyProof.Rows.boot_range (by decide) ?_
    refine wpAny_items_cons ?_
    refine ci fun t11 s₁₁ u₁₁ => ?_
    refine wpAny_items_cons ?_
    have T₁₁ := T₁₀.up u₁₁
    refine callB (GsD T₁₁) (g_len w) boot_len (by decide) ?_
    refine wpAny_items_cons ?_
    refine nmC (hcTD T₁₁) ?_ (by exact rfl) (by exact rfl) (by exact rfl)
    refine wpAny_items_nil ?_
    refine len_t (hTsD T₁₁) hzt fun t12 s₁₂ u₁₂ => ?_
    refine wpAny_items_nil ?_
    refine range2 fun rg2 s₁₃ q4 q5 q6 u₁₃ hrg2 => ?_
    have T₁₃ := (T₁₁.up u₁₂).up u₁₃
    have hn2 : ((((Value.str l.str tl :: kvs).length : Nat) : Int) - 1).toNat = ks.length := by
      rw [List.length_cons, hkvl]; omega
    refine ⟨[L, L + 2], ks.length, _, fun i s' => ∃ D, TSt s L a ol D (tops ops l ks ++ (List.range i).flatMap (inn ops l ks)) s', opens_rangeN (by exact hh) hrg2 (by decide) (by decide) (by simp only [List.length_cons]; omega) (by simp only [List.length_cons]; omega) hn2, ?_, ⟨D, by simpa using T₁₃⟩, fun i sa sb u ⟨D, x⟩ => ⟨D, x.up u⟩, fun i sa sb I hI hIn t ⟨D, x⟩ => ⟨D, x.it hI (fresh_of T₁₃.C.tr hIn) t⟩, ?_, fun s₁₄ T₁₄ => ?_⟩
    · intro b hb'
      simp at hb'
      rcases hb' with rfl | rfl
      · obtain ⟨o, es, k, e, _⟩ := T₁₃.C.ns; exact ⟨o, e⟩
      · obtain ⟨cm, Y, _⟩ := T₁₃.Y
        obtain ⟨o, e, _⟩ := Y.cell "k" (L + 2) (by exact rfl)
        exact ⟨o, e⟩
    · rintro i v s₁₄ hi ⟨tk, rfl⟩ ⟨D, T₁₄⟩
      have eacc : tops ops l ks ++ (List.range (i + 1)).flatMap (inn ops l ks) = tops ops l ks ++ (List.range i).flatMap (inn ops l ks) ++ inn ops l ks i := by rw [fm_succ, ← List.append_assoc]
      have hacc2 : (tops ops l ks ++ (List.range (i + 1)).flatMap (inn ops l ks)).length ≤ 6000 := by
        rw [List.length_append]
        have := tops_len ops l ks
        have := inn_len ops l ks (i + 1) hi
        omega
      have eK : (1 : Int) + (i : Int) = ((1 + i : Nat) : Int) := by push_cast; rfl
      rw [eK]
      refine wpAny_assign_Name ?_
      refine T₁₄.setk hL2 (fun s₁₅ t₁₅ T₁₅ hk₁₅ => ?_) (by exact rfl) (by exact rfl) (by exact rfl)
      obtain ⟨x0, hx0, hm0⟩ := Tms.getD hkv hi
      have hidx0 : (Value.str l.str tl :: kvs)[1 + i]? = some x0 := by rw [Nat.add_comm 1 i]; simpa using hx0
      have hxm := getD_mem hi
      have hsx := Term.size_mem ks _ hxm
      have hhx := Term.height_mem ks _ hxm
      obtain ⟨ys, hys, hyt⟩ := T₁₅.acc
      have hyl := Tms.len hyt
      refine wpAny_execs_cons ?_
      refine wpAny_Assign_Name ?_
      refine wpAny_BinOp ?_
      refine nm T₁₅.C (by exact rfl) ?_
      refine comp_map (cl := [("t", L + 1), ("k", L + 2)]) hh (by exact rfl) (by decide) (by exact rfl) (by decide) (by intro _; rfl) ?_
      refine callN (GsD T₁₅) (g_turns w) (k_159 w) ?_
      refine wpAny_items_cons ?_
      refine tidx (nmC (hcTD T₁₅) (nmC hk₁₅ ⟨a, _, 1 + i, tk, x0, rfl, rfl, hTsD T₁₅, hidx0, hzt, ?_⟩ (by exact rfl) (by exact rfl) (by exact rfl)) (by exact rfl) (by exact rfl) (by exact rfl))
      refine wpAny_items_cons ?_
      refine nm T₁₅.C (by exact rfl) ?_
      refine wpAny_items_nil ⟨(GsD T₁₅).gd.K, ?_⟩
      refine IH _ hxm _ _ s₁₅ X ol x0 _ (GsD T₁₅) (ho.up T₁₅.C.tr.le) (hm0.up T₁₅.C.tr.tup) hh (by show A.depth + 1 + _ + 2 < _; omega) (by show A.units + 3 + _ + 200 < _; omega) (by omega) fun r s₁₆ us u₁₆ hrn hr hus => ?_
      have T₁₆ := T₁₅.up u₁₆
      have hk₁₆ := IsCell.up hk₁₅ u₁₆.le
      have hul := Tms.len hus
      have htx := turns_len ops (ks.getD i dT)
      refine ⟨us, Term.pys (turns ops (ks.getD i dT)), Term.pys (inn ops l ks i), ⟨⟨r, rfl, .inl hr.isList⟩, hus, by rw [Term.pys_eq, Term.pys_eq, List.length_map, List.length_map, inn, List.length_map], by omega, ?_⟩, fun D' zs s₁₇ hD'n u₁₇ hD' hzs => ?_⟩
      · intro Cc m sa j uv d hj hd' Ca
        rw [Term.pys_eq, List.getElem?_map] at hj
        obtain ⟨uT, huT, rfl⟩ := Option.map_eq_some_iff.mp hj
        refine wpAny_assign_Name ?_
        refine st Ca fun sb tb Cb => ?_
        have ub : Up s₁₆ sb := Cb.tr
        have Tb := T₁₆.up ub
        have hkb := IsCell.up hk₁₆ ub.le
        refine wpAny_BinOp ?_
        refine wpAny_BinOp ?_
        refine sl_to (x := Value.str l.str tl) (kvs := kvs) (i := i) (nmC (hcTD Tb) (nmC hkb ⟨a, tk, rfl, hTsD Tb, rfl, by omega, by omega, fun r1 sc uc h1 => ?_⟩ (by exact rfl) (by exact rfl) (by exact rfl)) (by exact rfl) (by exact rfl) (by exact rfl))
        have Tc := Tb.up uc
        have hkc := IsCell.up hkb uc.le
        refine tupleD ?_
        refine wpAny_items_cons ?_
        refine nm (Cb.up uc) (by exact rfl) ?_
        refine wpAny_items_nil ⟨by simp; omega, fun b2 sd ud _ h2 => ?_⟩
        refine tadd (h1.keeps ud.le) h2 (by simp; omega) fun r2 se ue h3 => ?_
        have Te := (Tc.up ud).up ue
        have hke := IsCell.up hkc (ud.trans ue).le
        refine sl_from (x := Value.str l.str tl) (kvs := kvs) (j := i + 1) (nmC (hcTD Te) ?_ (by exact rfl) (by exact rfl) (by exact rfl))
        refine wpAny_BinOp ?_
        refine nmC hke ?_ (by exact rfl) (by exact rfl) (by exact rfl)
        refine ci fun t21 sf uf => ?_
        refine add_ints fun t22 sg ug => ?_
        have Tg := (Te.up uf).up ug
        refine ⟨a, t22, rfl, hTsD Tg, by rw [show ((1 + i : Nat) : Int) + 1 = ((1 + (i + 1) : Nat) : Int) by omega], by omega, by omega, fun r4 sh uh h4 => ?_⟩
        refine tadd (IsTup.tle h3 (uf.tup.trans (ug.tup.trans uh.tup))) h4 (by simp; omega) fun r5 si ui h5 => ?_
        have Ti := (Tg.up uh).up ui
        have wbi : Up sb si := (((uc.trans ud).trans ue).trans (uf.trans ug)).trans (uh.trans ui)
        refine ⟨tb.trans (Up.to wbi _), ⟨_, (Cb.up wbi).ns⟩, (Term.mk l (ks.set i uT)).py, by rw [Term.pys_eq, inn, List.map_map, List.getElem?_map, huT]; rfl, ?_⟩
        have el : (Value.str l.str tl :: kvs.take i ++ [uv] ++ kvs.drop (i + 1)) = Value.str l.str tl :: kvs.set i uv := by
          rw [List.cons_append, List.cons_append, List.append_assoc, List.singleton_append, set_cut kvs i uv (by omega)]
        rw [el] at h5
        exact Tm.close h5 (Tms.set i (hKsD Ti) (hd'.up (tb.tup.trans wbi.tup)))
      · have hzs' : Tms s₁₇.heap zs (inn ops l ks i) := hzs
        have hzl := Tms.len hzs'
        have T₁₇ := T₁₆.up u₁₇
        have w17 := u₁₆.trans u₁₇
        have hlen : ys.length + zs.length ≤ 6000 := by
          rw [hyl, hzl, ← List.length_append, ← eacc]; exact hacc2
        refine ladd (hys.at fun o e => w17.le _ _ e) hD' (by omega) fun D₂ s₁₈ u₁₈ hD₂n hD₂ => ?_
        have T₁₈ := T₁₇.up u₁₈
        refine st T₁₈.C fun s₁₉ t₁₉ C₁₉ => ?_
        refine wpAny_execs_nil ⟨rfl, ?_, ?_⟩
        · exact (t₁₅.mono (by simp)).trans ((Up.to (w17.trans u₁₈) _).trans (t₁₉.mono (by simp)))
        · have hD₂L : D₂ ≠ L := plain_ne_ns hD₂ T₁₈.C.ns
          have em : (fun (z : Str) => if z = "found" then some (Value.ref D₂) else (fun (y : Str) => if y = "found" then some (Value.ref D) else if y = "ops" then some (Value.ref ol) else none) z) = (fun (y : Str) => if y = "found" then some (Value.ref D₂) else if y = "ops" then some (Value.ref ol) else none) := by
            funext z
            by_cases hz : z = "found" <;> simp [hz]
          rw [em] at C₁₉
          refine ⟨D₂, C₁₉, ?_, ⟨ys ++ zs, hD₂.at fun o e => t₁₉.keep _ o (by simpa using hD₂L) e, ?_⟩, ?_⟩
          · obtain ⟨cm, Y, e⟩ := T₁₈.Y
            exact ⟨cm, cl_tr Y t₁₉ (by simp), e⟩
          · rw [eacc]
            exact (Tms.app (hyt.up (w17.trans u₁₈).tup) (hzs'.up u₁₈.tup)).up t₁₉.tup
          · exact fresh_of T₁₇.C.tr hD₂n
    · obtain ⟨D, T₁₄⟩ := T₁₄
      obtain ⟨ys, hys, hyt⟩ := T₁₄.acc
      refine wpAny_execs_cons ?_
      refine wpAny_Return_some ?_
      refine nm T₁₄.C (by exact rfl) ?_
      refine hQ D s₁₄ ys T₁₄.C.tr T₁₄.fresh hys ?_
      rw [turns_eq]; exact hyt

theorem turns_all {prog : Program} {w : World} {ops : List Lab} : ∀ (n : Nat) (T : Term), T.height ≤ n → TurnsOk prog w ops T
  | 0, .mk l ks, h => by rw [Term.height] at h; omega
  | n + 1, .mk l ks, h => turns_step l ks fun x hx => turns_all n x (by have := Term.height_mem ks x hx; rw [Term.height] at h; omega)
theorem turns_ok {prog : Program} {w : World} {ops : List Lab} (T : Term) : TurnsOk prog w ops T := turns_all _ T (Nat.le_refl _)
end Mine
end
section
set_option maxRecDepth 100000
set_option maxHeartbeats 1000000
set_option linter.constructorNameAsVariable false
set_option linter.unusedVariables false
open PySem PySem.W PyProof.Rows PySem.Calls PySem.Spec
namespace Mine
section
variable {prog : Program} {w : World}
noncomputable def PH (prog : Program) (w : World) (A : Around) (hp : Heap) (v : Value) (h : Int) (n : Nat) : Prop := ∀ (E : Value → Shared → Prop) (Q : Int → Shared → Prop) (s : Shared), s.heap = hp → Q h { s with toks := s.toks + n } → wpAny (model prog w) A (pyHash v) Q E s
noncomputable def dsum : List (Value × Int × Nat) → Nat
  | [] => 0
  | t :: ts => t.2.2 + dsum ts
theorem dsum_app : ∀ a b : List (Value × Int × Nat), dsum (a ++ b) = dsum a + dsum b
  | [], b => by simp [dsum]
  | x :: a, b => by rw [List.cons_append, dsum, dsum, dsum_app a b]; omega

theorem PH.tup {A : Around} {hp : Heap} {a : Addr} {ts : List (Value × Int × Nat)} (ht : IsTup hp a (ts.map (·.1)).toArray) (hu : A.units < cLine) (hts : ∀ t ∈ ts, PH prog w A.in1 hp t.1 t.2.1 t.2.2) :
    PH prog w A hp (.ref a) (reduceHash (Builtin.Tuple.tupleHashOf (ts.map (·.2.1)))) (dsum ts + 1) := by
  intro E Q s hs h
  subst hs
  have hT := ht.typeIs
  obtain ⟨o, ho, _, n, hd⟩ := ht
  unfold pyHash
  first | unfold pyHashByItsType | skip
  first | refine wpAny_bind (wpAny_cRoomFor_or (.inr hu) ?_) | skip
  refine wpAny_bind (wpAny_specialOf hT F.slot_tuple_hash.lookup ?_)
  show wpAny _ _ (if (some (Value.builtin "tuple.__hash__") == some Value.none) = true then _ else _) Q E s
  rw [if_neg (by rw [beq_builtin_none]; exact Bool.false_ne_true)]
  refine wpAny_bind (wpAny_specialOf hT F.slot_tuple_hash.lookup ?_)
  show wpAny _ _ (callSpecialIfBoundUnlessNone? (.ref a) "__hash__" _ >>= _) Q E s
  refine wpAny_bind (wpAny_callSpecialIfBoundUnlessNone?_slot hT F.slot_tuple_hash (wpAny_call_entry F.slot_tuple_hash hT F.entry_tuple_hash ?_ (F.args_tuple_hash_1 _)))
  show wpAny _ _ (Builtin.Tuple.tupleItemsOf (.ref a) >>= _) _ _ s
  refine wpAny_bind (wpAny_tupleItemsOf ho hd ?_)
  refine wpAny_bind ?_
  rw [← Array.forIn_toList]
  refine wpAny_forIn_list _
    (fun rest (b : Array Int) s' => ∃ done left, ts = done ++ left ∧ rest = left.map (·.1) ∧ b.toList = done.map (·.2.1) ∧ s' = { s with toks := s.toks + dsum done })
    _ ?_ ?_ _ _ ⟨[], ts, rfl, rfl, rfl, rfl⟩
  · rintro x rest b s' ⟨done, left, rfl, hl, hb, rfl⟩
    cases left with
    | nil => simp at hl
    | cons t left =>
      simp only [List.map_cons, List.cons.injEq] at hl
      obtain ⟨rfl, rfl⟩ := hl
      refine wpAny_bind (hts t (by simp) _ _ _ rfl ?_)
      have e1 : done ++ t :: left = (done ++ [t]) ++ left := by simp
      have e2 : dsum (done ++ [t]) = dsum done + t.2.2 := by rw [dsum_app]; simp [dsum]
      first
        | exact wpAny_pure ⟨done ++ [t], left, e1, rfl, by simp [hb], by rw [e2]; simp [Nat.add_assoc]⟩
        | exact wpAny_bind (wpAny_pure (wpAny_pure ⟨done ++ [t], left, e1, rfl, by simp [hb], by rw [e2]; simp [Nat.add_assoc]⟩))
  · rintro b s' ⟨done, left, rfl, hl, hb, rfl⟩
    have : left = [] := by cases left <;> simp_all
    subst this
    rw [List.append_nil] at h
    show wpAny _ _ (retInt (Builtin.Tuple.tupleHashOf b.toList)) _ _ _
    rw [hb]
    refine wpAny_ret_mkInt ?_
    show wpAny _ _ (if (decide (-(2 : Int) ^ 63 ≤ Builtin.Tuple.tupleHashOf (done.map (·.2.1))) && decide (Builtin.Tuple.tupleHashOf (done.map (·.2.1)) < 2 ^ 63)) = true then _ else _) Q E _
    unfold reduceHash at h
    by_cases hr : (decide (-(2 : Int) ^ 63 ≤ Builtin.Tuple.tupleHashOf (done.map (·.2.1))) && decide (Builtin.Tuple.tupleHashOf (done.map (·.2.1)) < 2 ^ 63)) = true
    · rw [if_pos hr]
      rw [if_pos hr] at h
      exact wpAny_pure (by simpa [Nat.add_assoc] using h)
    · rw [if_neg hr]
      rw [if_neg hr] at h
      exact wpAny_bind (wpAny_rule (wpAny_pure (by simpa [Nat.add_assoc] using h)))
theorem PH.str {A : Around} {hp : Heap} (x : Str) (t : Tok) : PH prog w A hp (.str x t) (hashStr w x) 1 := fun E Q s hs h => wpAny_pyHash_str h

mutual
noncomputable def thash (w : World) : Term → Int
  | .mk l ks => reduceHash (Builtin.Tuple.tupleHashOf (hashStr w l.str :: thashs w ks))
noncomputable def thashs (w : World) : List Term → List Int
  | [] => []
  | x :: xs => thash w x :: thashs w xs
end
mutual
noncomputable def tdraw : Term → Nat
  | .mk l ks => 1 + tdraws ks + 1
noncomputable def tdraws : List Term → Nat
  | [] => 0
  | x :: xs => tdraw x + tdraws xs
end
mutual
theorem PH.term {hp : Heap} : ∀ (T : Term) (A : Around) (a : Addr), Tm hp (.ref a) T → A.units + T.height < cLine → PH prog w A hp (.ref a) (thash w T) (tdraw T)
  | .mk l ks, A, a, ht, hu => by
    obtain ⟨a', t, vs, e, hT, hv⟩ := Tm.open ht
    cases e
    rw [Term.height] at hu
    obtain ⟨ts, h1, h2, h3, h4⟩ := PH.terms ks A.in1 vs hv (by show A.units + 1 + _ < _; omega)
    have := PH.tup (prog := prog) (w := w) (A := A) (hp := hp) (a := a) (ts := (.str l.str t, hashStr w l.str, 1) :: ts) (by rw [List.map_cons, h1]; exact hT) (by omega) (fun x hx => by
      rcases List.mem_cons.mp hx with rfl | hx
      · exact PH.str _ _
      · exact h4 x hx)
    rw [thash, tdraw]
    rw [List.map_cons, h2, dsum, h3] at this
    exact this
theorem PH.terms {hp : Heap} : ∀ (ks : List Term) (A : Around) (vs : List Value), Tms hp vs ks → A.units + Term.heights ks < cLine → ∃ ts : List (Value × Int × Nat), ts.map (·.1) = vs ∧ ts.map (·.2.1) = thashs w ks ∧ dsum ts = tdraws ks ∧ ∀ t ∈ ts, PH prog w A hp t.1 t.2.1 t.2.2
  | [], A, vs, hv, _ => by
    have : vs = [] := List.length_eq_zero_iff.mp hv.len
    subst this
    exact ⟨[], rfl, by rw [thashs]; rfl, by rw [tdraws]; rfl, by simp⟩
  | x :: xs, A, vs, hv, hu => by
    match vs, hv with
    | [], hv => exact absurd hv.len (by simp)
    | v :: vs, hv =>
      obtain ⟨h1, h2⟩ := hv.uncons
      rw [Term.heights] at hu
      obtain ⟨ts, a1, a2, a3, a4⟩ := PH.terms xs A vs h2 (by omega)
      obtain ⟨xl, xk⟩ := x
      obtain ⟨a, t, us, rfl, _, _⟩ := Tm.open h1
      have p := PH.term (.mk xl xk) A a h1 (by omega)
      refine ⟨(.ref a, thash w (.mk xl xk), tdraw (.mk xl xk)) :: ts, by rw [List.map_cons, a1], by rw [List.map_cons, a2, thashs], by rw [dsum, a3, tdraws], fun y hy => ?_⟩
      rcases List.mem_cons.mp hy with rfl | hy
      · exact p
      · exact a4 y hy
end

mutual
theorem Tm.inj {h : Heap} : ∀ (x y : Term) (v : Value), Tm h v x → Tm h v y → x = y
  | .mk l ks, .mk l' ks', v, hx, hy => by
    obtain ⟨a, t, vs, rfl, ⟨o, e, _, n, d⟩, hv⟩ := Tm.open hx
    obtain ⟨a', t', vs', e2, ⟨o', e', _, n', d'⟩, hv'⟩ := Tm.open hy
    cases e2
    rw [e] at e'; cases e'
    rw [d] at d'
    have e3 : (Value.str l.str t :: vs) = (Value.str l'.str t' :: vs') := by injection d' with d1 _; simpa using d1
    injection e3 with e4 e5
    subst e5
    injection e4 with e6 _
    have hl : l = l' := by
      have := lab_str_inj l l'
      rw [e6] at this
      simpa using this.symm
    rw [hl, Tms.inj ks ks' vs hv hv']
theorem Tms.inj {h : Heap} : ∀ (xs ys : List Term) (vs : List Value), Tms h vs xs → Tms h vs ys → xs = ys
  | [], [], _, _, _ => rfl
  | [], _ :: _, vs, a, b => by have := a.len; rw [b.len] at this; simp at this
  | _ :: _, [], vs, a, b => by have := a.len; rw [b.len] at this; simp at this
  | x :: xs, y :: ys, vs, a, b => by
    match vs, a, b with
    | [], a, _ => exact absurd a.len (by simp)
    | v :: vs, a, b => rw [Tm.inj x y v a.uncons.1 b.uncons.1, Tms.inj xs ys vs a.uncons.2 b.uncons.2]
end

theorem quiet_tup {A : Around} {E : Value → Shared → Prop} {s : Shared} {a : Addr} {vs : List Value} {n : Nat} {Q : Bool → Shared → Prop} (ht : IsTup s.heap a vs.toArray) (hv : ∀ v ∈ vs, ∀ (E : Value → Shared → Prop) (Q : Bool → Shared → Prop), Q true s → wpAny (model prog w) A (eqIsQuiet n v) Q E s)
    (h : Q true s) : wpAny (model prog w) A (eqIsQuiet (n + 1) (.ref a)) Q E s := by
  have hT := ht.typeIs
  obtain ⟨o, ho, _, k, hd⟩ := ht
  unfold eqIsQuiet
  refine wpAny_bind (wpAny_specialOf hT F.slot_tuple_eq.lookup ?_)
  show wpAny _ _ (isInstance (.ref a) (.type "tuple") >>= _) _ _ s
  refine wpAny_bind (wpAny_isInstance hT isSubtype_tuple_tuple ?_)
  simp only [Bool.not_true, Bool.false_eq_true, if_false]
  refine wpAny_bind (wpAny_seqItems ho hd ?_)
  refine wpAny_bind ?_
  show wpAny _ _ (forIn vs.toArray _ _) _ _ s
  rw [← Array.forIn_toList]
  refine wpAny_forIn_list _ (fun rest r s' => r.1 = none ∧ s' = s ∧ ∀ v ∈ rest, v ∈ vs) _ ?_ ?_ _ _ ⟨rfl, rfl, by simp⟩
  · rintro v rest r s' ⟨hr, rfl, hall⟩
    refine wpAny_bind (hv v (hall v List.mem_cons_self) _ _ ?_)
    simp only [Bool.not_true, Bool.false_eq_true, if_false]
    exact wpAny_pure ⟨rfl, rfl, fun u hu' => hall u (List.mem_cons_of_mem _ hu')⟩
  · rintro ⟨r1, r2⟩ s' ⟨hr, rfl, _⟩
    simp only at hr
    subst hr
    exact wpAny_pure h
mutual
theorem quiet_term {A : Around} {s : Shared} : ∀ (T : Term) (n : Nat) (v : Value), Tm s.heap v T → T.height ≤ n → ∀ (E : Value → Shared → Prop) (Q : Bool → Shared → Prop), Q true s → wpAny (model prog w) A (eqIsQuiet n v) Q E s
  | .mk l ks, 0, v, _, h, _, _, _ => by rw [Term.height] at h; omega
  | .mk l ks, n + 1, v, ht, h, E, Q, q => by
    obtain ⟨a, t, vs, rfl, hT, hv⟩ := Tm.open ht
    rw [Term.height] at h
    refine quiet_tup hT (fun u hu E Q q => ?_) q
    rcases List.mem_cons.mp hu with rfl | hu
    · rw [eqIsQuiet_byValue _ rfl]; exact wpAny_pure q
    · exact quiet_terms ks n vs hv (by omega) u hu E Q q
theorem quiet_terms {A : Around} {s : Shared} : ∀ (ks : List Term) (n : Nat) (vs : List Value), Tms s.heap vs ks → Term.heights ks ≤ n → ∀ u ∈ vs, ∀ (E : Value → Shared → Prop) (Q : Bool → Shared → Prop), Q true s → wpAny (model prog w) A (eqIsQuiet n u) Q E s
  | [], n, vs, hv, _, u, hu, _, _, _ => by
    have : vs = [] := List.length_eq_zero_iff.mp hv.len
    subst this; cases hu
  | x :: xs, n, vs, hv, h, u, hu, E, Q, q => by
    match vs, hv, hu with
    | [], hv, _ => exact absurd hv.len (by simp)
    | v :: vs, hv, hu =>
      rw [Term.heights] at h
      rcases List.mem_cons.mp hu with rfl | hu
      · exact quiet_term x n _ hv.uncons.1 (by omega) E Q q
      · exact quiet_terms xs n vs hv.uncons.2 (by omega) u hu E Q q
end

noncomputable def tKind (prog : Program) (w : World) : HeapKind prog w Term where
  is := fun h T a => Tm h (.ref a) T ∧ T.height ≤ 8
  hash := thash w
  draws := tdraw
  room := fun A => A.units + 20 < cLine
  inj := fun hx hy => Tm.inj _ _ _ hx.1 hy.1
  keeps := fun x ho hd hs => ⟨x.1.up fun b o e q => hs.extBut b o (by rintro rfl; obtain ⟨_, xs, n, q⟩ := q; rw [ho] at e; cases e; rw [hd] at q; cases q) e, x.2⟩
  pyHash := fun hu hk h => PH.term _ _ _ hk.1 (by have := hk.2; omega) _ _ _ rfl h
  eqBool := fun {A E s x y a b Q} hu hx hy h => eqb hx.1 hy.1 x.can y.can (by rw [Term.py_depth]; have := hx.2; omega) (Term.eqv x y) _ _ h
  quiet := fun hk h => quiet_term _ 8 _ hk.1 hk.2 _ _ h
end
end Mine
end
section
set_option maxRecDepth 100000
set_option maxHeartbeats 1000000
set_option linter.constructorNameAsVariable false
set_option linter.unusedVariables false
open PySem PySem.W PyProof.Rows PySem.Calls PySem.Spec
namespace Mine
theorem un_pure {α β : Type} {M : Model} {A : Around} {E : Value → Shared → Prop} {s : Shared} {t : Sem α} {f : α → β} {Q : β → Shared → Prop} (h : wpAny M A (t >>= fun a => pure (f a)) Q E s) : wpAny M A t (fun a s' => Q (f a) s') E s := by
  intro Γ p hΓ
  have := h Γ p hΓ
  simp only [Sem.wp_bind', Sem.wp_pure'] at this
  exact this

theorem dicth_not_tup {prog : Program} {w : World} {D : Addr} {xs : List (Term × Addr × Value)} {h : Heap} (x : h.DictOfH (tKind prog w) D xs) : ∀ o, h.get? D = some o → ¬ IsT o := by
  obtain ⟨o', es, ep, e, _, d, _⟩ := x
  rintro o e' ⟨_, xs, n, q⟩
  rw [e] at e'; cases e'; rw [q] at d; cases d
theorem dicth_at {prog : Program} {w : World} {D : Addr} {xs : List (Term × Addr × Value)} {h h' : Heap} (x : h.DictOfH (tKind prog w) D xs) (k : ∀ o, h.get? D = some o → h'.get? D = some o) (t : TLe h h') : h'.DictOfH (tKind prog w) D xs :=
  let ⟨o, es, ep, e, r1, r2, r3, r4, r5⟩ := x; ⟨o, es, ep, k o e, r1, r2, r3, fun y hy => ⟨(r4 y hy).1.up t, (r4 y hy).2⟩, r5⟩

section
variable {prog : Program} {w : World} {A : Around} {E : Value → Shared → Prop} {s : Shared} {env : Env}
theorem notin_heap {d a : Addr} {k : Term} {xs : List (Term × Addr × Value)} {Q : Value → Shared → Prop} (hu : A.units + 30 < cLine) (hkey : Tm s.heap (.ref a) k ∧ k.height ≤ 8) (hd : (d == sysModules) = false) (hm : s.heap.DictOfH (tKind prog w) d xs)
    (h : ∀ s', Up s s' → Q (.bool (!(atKey xs k).isSome)) s') : wpAny (model prog w) A (compareOp .NotIn (.ref a) (.ref d)) Q E s := by
  have q := wpAny_in_heap (prog := prog) (w := w) (knd := tKind prog w) (A := A) (E := E) (Q := fun v s' => match v with | .bool b => Q (.bool (!b)) s' | _ => False) (s := s) (by show A.units + 1 + 20 < cLine; omega) hkey hd hm (h _ Up.tok)
  have q' := un_pure (f := Value.bool) (show wpAny (model prog w) A (contains (.ref d) (.ref a) >>= fun b => (pure (Value.bool b) : Sem Value)) (fun v s' => match v with | .bool b => Q (.bool (!b)) s' | _ => False) E s from q)
  show wpAny _ _ (do return .bool (!(← contains (.ref d) (.ref a)))) Q E s
  exact wpAny_bind (wpQ q' fun b s' hb => wpAny_pure hb)
theorem in_heap {d a : Addr} {k : Term} {xs : List (Term × Addr × Value)} {Q : Value → Shared → Prop} (hu : A.units + 30 < cLine) (hkey : Tm s.heap (.ref a) k ∧ k.height ≤ 8) (hd : (d == sysModules) = false) (hm : s.heap.DictOfH (tKind prog w) d xs)
    (h : ∀ s', Up s s' → Q (.bool (atKey xs k).isSome) s') : wpAny (model prog w) A (compareOp .In (.ref a) (.ref d)) Q E s :=
  wpAny_in_heap (knd := tKind prog w) (by show A.units + 1 + 20 < cLine; omega) hkey hd hm (h _ Up.tok)

theorem lne_nil {l b : Addr} {ys : List Value} {Q : Value → Shared → Prop} (hl : s.heap.IsList l ys.toArray) (hb : s.heap.IsList b #[]) (hu : A.units < cLine) (h : Q (.bool (!ys.isEmpty)) s) : wpAny (model prog w) A (compareOp .NotEq (.ref l) (.ref b)) Q E s := by
  cases ys with
  | nil =>
    refine (SeqAt.RcNeAt.lists (A := A) (s := s) (e := fun _ => true) hl hb rfl hu (fun j h1 h2 => absurd h2 (by simp))) prog w E Q ?_
    simpa using h
  | cons y ys =>
    refine (SeqAt.RcNeAt.lists_lengths (A := A) (s := s) hl hb (by simp) hu) prog w E Q ?_
    simpa using h

theorem lpop {o : Expr} {apos pos : Pos} {Q : Value → Shared → Prop}
    (h : wpAny (model prog w) A (eval o env) (fun ov s₁ => ∃ D ys y, ov = .ref D ∧ s₁.heap.PlainList D (List.toArray (ys ++ [y])) ∧ (ys ++ [y]).length ≤ sizeLine ∧ ∀ s', Tr [D] s₁ s' → s'.heap.PlainList D ys.toArray → Q y s') E s)
    (pl : Sem Bool) (hpl : eval (.Call (.Attribute o "pop" apos) [] [] pos) env = (do
      let ov ← eval o env
      standAt apos.atName
      let (f, first) ← holding [ov] (getMethod ov "pop" pl)
      callWith pos f first (backTo pos (starEach [] env)) (backToKw pos (keywordEach [] env)))) :
    wpAny (model prog w) A (eval (.Call (.Attribute o "pop" apos) [] [] pos) env) Q E s := by
  refine methodCall_KW (pl := pl) (wpQ h fun ov s₁ h₁ => ?_) hpl
  obtain ⟨D, ys, y, rfl, hD, hsz, hq⟩ := h₁
  obtain ⟨n, eD⟩ := id hD
  refine getMethod_builtin (T := "list") ⟨_, eD, rfl⟩ PySem.F.plainAttrs_list PySem.F.slot_list_pop PySem.F.type_list_pop (fun a q => by cases q; exact ⟨_, eD, rfl⟩) ?_
  show wpAny _ _ (callWith pos (.builtin "list.pop") [.ref D] [] []) Q E s₁
  exact callWith_builtin rfl (evalArgs_nil3 (pop_tr hD hsz hq))

theorem dictT {X : List Addr} {ke ve : Expr} {pos : Pos} {Q : Value → Shared → Prop} (G : Gx w X s.heap) (hu : A.units + 30 < cLine)
    (h : ∀ s₁, Up s s₁ → wpAny (model prog w) A (eval ke env) (fun kv s₂ => Up s₁ s₂ ∧ wpAny (model prog w) A (eval ve env) (fun v s₃ => Up s₂ s₃ ∧ ∃ a T, kv = .ref a ∧ Tm s₃.heap (.ref a) T ∧ T.height ≤ 8 ∧
      ∀ D s₄, Up s s₄ → s.heap.get? D = none → (D == sysModules) = false → TLe s₃.heap s₄.heap → (∀ b o, b ≠ D → s₃.heap.get? b = some o → s₄.heap.get? b = some o) → s₄.heap.DictOfH (tKind prog w) D [(T, a, v)] → Q (.ref D) s₄) E s₂) E s₁)
    (hshape : (evalEachOpt [some ke] env).zip ((evalEach [ve] env).map fun v => do let x ← v; standAt pos; pure x) = [(eval ke env, (do let x ← eval ve env; standAt pos; pure x))].map fun p => (some p.1, p.2)) :
    wpAny (model prog w) A (eval (.Dict [some ke] [ve] pos) env) Q E s := by
  have hbig := big_sys G
  have hfr := fresh_size s.heap
  rw [arm_eval_Dict, hshape, dictDisplay_pairs _ (by simp) (by simp)]
  refine wpAny_bind (wpAny_standAt (wpAny_bind ?_))
  unfold subDict
  refine wpAny_bind (wpAny_alloc ?_)
  have u0 : Up s { s with heap := s.heap.push { cls := .type "dict", data := .dict #[] } } := Up.push (tk := s.toks)
  have hD0 : ({ s with heap := s.heap.push { cls := .type "dict", data := .dict #[] } } : Shared).heap.DictOfH (tKind prog w) s.heap.objs.size [] := Heap.DictOfH.new _
  revert u0 hD0
  generalize ({ s with heap := s.heap.push { cls := .type "dict", data := .dict #[] } } : Shared) = s₀
  generalize s.heap.objs.size = D at *
  intro u0 hD0
  refine wpAny_bind (wpAny_holding ?_)
  rw [if_pos (by simp)]
  refine wpAny_bind (evalPairs_cons ?_)
  refine wpQ (h s₀ u0) fun kv s₂ h₂ => ?_
  obtain ⟨u₂, h₂⟩ := h₂
  refine wpAny_bind (wpQ h₂ fun v s₃ h₃ => wpAny_bind (wpAny_standAt (wpAny_pure (wpAny_pure ?_))))
  obtain ⟨u₃, a, T, rfl, hT, hh8, hq⟩ := h₃
  refine wpAny_holding ?_
  have hD3 : s₃.heap.DictOfH (tKind prog w) D [] := dicth_at hD0 (fun o e => (u₂.trans u₃).le _ _ e) (u₂.trans u₃).tup
  refine wpAny_bind ?_
  show wpAny _ _ (forIn [(Value.ref a, v)] PUnit.unit _) _ _ _
  rw [List.forIn_cons]
  refine wpAny_bind (wpAny_bind (wpAny_dictSet_heap (knd := tKind prog w) (k := T) (by show A.units + 20 < cLine; omega) ⟨hT, hh8⟩ hD3 (fun h' hm' hs' => wpAny_pure ?_) (by simp)))
  show wpAny _ _ (forIn [] PUnit.unit _) _ _ _
  rw [List.forIn_nil]
  refine wpAny_pure (wpAny_pure (wpAny_pure (wpAny_pure ?_)))
  have tD : Tr [D] s₃ { s₃ with heap := h', toks := s₃.toks + (tKind prog w).draws T } := Tr.of_but hs' (dicth_not_tup hD3)
  have hm'' : h'.DictOfH (tKind prog w) D [(T, a, v)] := hm'
  exact hq D _ (Tr.up_new ((u0.trans u₂).trans u₃) tD (by simpa using hfr)) hfr hbig tD.tup (fun b o hb e => tD.keep b o (by simpa using hb) e) hm''
end
end Mine
end
section
set_option maxRecDepth 100000
set_option maxHeartbeats 1000000
set_option linter.constructorNameAsVariable false
set_option linter.unusedVariables false
open PySem PySem.W PyProof.Rows PySem.Calls PySem.Spec
namespace Mine
inductive Rch (ops : List Lab) (t : Term) : Term → Prop
  | refl : Rch ops t t
  | step {u v : Term} : Rch ops t u → v ∈ turns ops u → Rch ops t v

structure RSt (prog : Program) (w : World) (s : Shared) (L D Wl ol : Addr) (xs : List (Term × Addr × Value)) (wl : List Term) (s' : Shared) : Prop where
  C : ∃ m, Cx [] s L m s' ∧ m "reached" = some (.ref D) ∧ m "waiting" = some (.ref Wl) ∧ m "ops" = some (.ref ol)
  dict : s'.heap.DictOfH (tKind prog w) D xs
  wait : ∃ ys, s'.heap.PlainList Wl (List.toArray ys) ∧ Tms s'.heap ys wl
  fD : s.heap.get? D = none
  fW : s.heap.get? Wl = none
  nDL : D ≠ L
section
variable {prog : Program} {w : World} {s : Shared} {L D Wl ol : Addr} {xs : List (Term × Addr × Value)} {wl : List Term} {s₁ s₂ : Shared}
theorem RSt.up (x : RSt prog w s L D Wl ol xs wl s₁) (u : Up s₁ s₂) : RSt prog w s L D Wl ol xs wl s₂ :=
  ⟨let ⟨m, C, h⟩ := x.C; ⟨m, C.up u, h⟩, dicth_at x.dict (fun o e => u.le _ _ e) u.tup, let ⟨ys, h1, h2⟩ := x.wait; ⟨ys, h1.at fun o e => u.le _ _ e, h2.up u.tup⟩, x.fD, x.fW, x.nDL⟩
theorem RSt.nWL (x : RSt prog w s L D Wl ol xs wl s₁) : Wl ≠ L := by
  obtain ⟨m, C, _⟩ := x.C
  obtain ⟨ys, h1, _⟩ := x.wait
  exact plain_ne_ns h1 C.ns
theorem RSt.nDW (x : RSt prog w s L D Wl ol xs wl s₁) : D ≠ Wl := by
  obtain ⟨ys, ⟨n, e'⟩, _⟩ := x.wait
  obtain ⟨o, es, ep, e, c, d, _⟩ := x.dict
  rintro rfl
  rw [e] at e'; cases e'; cases d
theorem RSt.it {I : Addr} (x : RSt prog w s L D Wl ol xs wl s₁) (hI : isF s₁.heap I) (hIs : s.heap.get? I = none) (t : Tr [I] s₁ s₂) : RSt prog w s L D Wl ol xs wl s₂ := by
  obtain ⟨m, C, h⟩ := x.C
  obtain ⟨ys, h1, h2⟩ := x.wait
  obtain ⟨o, es, ep, e, c, d, _⟩ := id x.dict
  exact ⟨⟨m, C.step t (by intro b hb; simp at hb; subst hb; exact ⟨.inl hIs, fun q => hI.ne_ns C.ns q.symm⟩), h⟩, dicth_at x.dict (fun o e' => t.keep _ o (by simpa using hI.ne_dict e d) e') t.tup, ⟨ys, h1.at fun o e => t.keep _ o (by simpa using hI.ne_list h1) e, h2.up t.tup⟩, x.fD, x.fW, x.nDL⟩
/-- the list of what waits turns -/
theorem RSt.wait' {wl' : List Term} {ys' : List Value} (x : RSt prog w s L D Wl ol xs wl s₁) (t : Tr [Wl] s₁ s₂) (h1 : s₂.heap.PlainList Wl ys'.toArray) (h2 : Tms s₂.heap ys' wl') : RSt prog w s L D Wl ol xs wl' s₂ :=
  ⟨let ⟨m, C, h⟩ := x.C; ⟨m, C.step t (by intro b hb; simp at hb; subst hb; exact ⟨.inl x.fW, x.nWL⟩), h⟩, dicth_at x.dict (fun o e => t.keep _ o (by simpa using x.nDW) e) t.tup, ⟨ys', h1, h2⟩, x.fD, x.fW, x.nDL⟩
theorem RSt.dict' {xs' : List (Term × Addr × Value)} (x : RSt prog w s L D Wl ol xs wl s₁) (t : Tr [D] s₁ s₂) (h : s₂.heap.DictOfH (tKind prog w) D xs') : RSt prog w s L D Wl ol xs' wl s₂ :=
  ⟨let ⟨m, C, h⟩ := x.C; ⟨m, C.step t (by intro b hb; simp at hb; subst hb; exact ⟨.inl x.fD, x.nDL⟩), h⟩, h, let ⟨ys, h1, h2⟩ := x.wait; ⟨ys, h1.at fun o e => t.keep _ o (by simpa using Ne.symm x.nDW) e, h2.up t.tup⟩, x.fD, x.fW, x.nDL⟩
end
noncomputable def keysOf (xs : List (Term × Addr × Value)) : List Term := xs.map (·.1)
theorem dicth_nodup {prog : Program} {w : World} {D : Addr} {xs : List (Term × Addr × Value)} {h : Heap} (x : h.DictOfH (tKind prog w) D xs) : (keysOf xs).Nodup := let ⟨_, _, _, _, _, _, _, _, n⟩ := x; n
theorem atKey_mem {xs : List (Term × Addr × Value)} {k : Term} : (atKey xs k).isSome = decide (k ∈ keysOf xs) := by
  unfold atKey keysOf
  rw [Option.isSome_map]
  by_cases h : k ∈ xs.map (·.1)
  · rw [decide_eq_true h]
    obtain ⟨x, hx, rfl⟩ := List.mem_map.mp h
    rw [List.find?_isSome]
    exact ⟨x, hx, by simp⟩
  · rw [decide_eq_false h]
    rw [Option.isSome_eq_false_iff, Option.isNone_iff_eq_none, List.find?_eq_none]
    intro x hx
    simp
    rintro rfl
    exact h (List.mem_map.mpr ⟨x, hx, rfl⟩)

theorem Tms.unsnoc {h : Heap} {vs : List Value} {xs : List Term} {v : Value} {x : Term} (a : Tms h (vs ++ [v]) (xs ++ [x])) : Tms h vs xs ∧ Tm h v x := by
  have hl : vs.length = xs.length := by have := a.len; simpa using this
  constructor
  · have := Tms.take vs.length a
    rw [List.take_left'  rfl, List.take_left' hl.symm] at this
    exact this
  · obtain ⟨y, h1, h2⟩ := Tms.at (i := vs.length) (v := v) a (by simp)
    rw [hl] at h1
    simp at h1
    rw [h1]; exact h2

/-- what the search knows -/
structure Know (ops : List Lab) (t : Term) (N : Nat) (xs : List (Term × Addr × Value)) (wl : List Term) (cur : List Term) (M : Nat) : Prop where
  has : t ∈ keysOf xs
  rch : ∀ k ∈ keysOf xs, Rch ops t k
  wait : ∀ k ∈ wl, k ∈ keysOf xs
  done : ∀ k ∈ keysOf xs, k ∈ wl ∨ k ∈ cur ∨ ∀ v ∈ turns ops k, v ∈ keysOf xs
  small : 2 * (N - xs.length) + wl.length ≤ M
  le : xs.length ≤ N

section
variable {prog : Program} {w : World} {A : Around} {E : Value → Shared → Prop} {s : Shared}
theorem reached_ok {X : List Addr} {ol : Addr} {ops : List Lab} {v : Value} {t : Term} {N : Nat} {Q : Value → Shared → Prop} (G : Gx w X s.heap) (ho : OpsAt s.heap ol ops) (ht : Tm s.heap v t) (hh : A.handled = none) (hd : A.depth + 20 < recursionLimit) (hu : A.units + 500 < cLine)
    (hR : ∀ u, Rch ops t u → u.size ≤ 1000 ∧ u.height ≤ 8) (hN : ∀ l : List Term, l.Nodup → (∀ u ∈ l, Rch ops t u) → l.length ≤ N) (hN6 : N ≤ 1000000)
    (h : ∀ D s' xs, Up s s' → s.heap.get? D = none → (D == sysModules) = false → s'.heap.DictOfH (tKind prog w) D xs → (∀ u, u ∈ keysOf xs ↔ Rch ops t u) → Q (.ref D) s') : wpAny (model prog w) A (call (.ref 166) [v, .ref ol]) Q E s := by
  have hsl : 3000000 ≤ sizeLine := by rw [PySem.sizeLine_eq]; decide
  have h8 := (hR t .refl).2
  obtain ⟨tL, tK⟩ := t
  obtain ⟨a, tt, vs, rfl, hT, hvs⟩ := Tm.open ht
  generalize hteq : Term.mk tL tK = t at *
  refine enter (binds := [("t", .ref a), ("ops", .ref ol)]) G (by exact rfl) (by exact rfl) (by omega) (by exact rfl) (by decide) (by exact rfl) rfl rfl rfl (fun L s₁ C G₁ => ?_)
  have ht₁ := ht.up C.tr.tup
  refine wpAny_execs_cons ?_
  refine asn2 hh ?_ (by exact rfl) (by exact rfl) (by exact rfl)
  refine dictT (X := X) G₁ (by show A.units + 3 + 30 < _; omega) (fun s₂ u₂ => ?_) (by exact rfl)
  have C₂ := C.up u₂
  refine nm C₂ (by exact rfl) ?_
  refine ⟨Tr.refl _ _, wpAny_Constant_bool ⟨Tr.refl _ _, a, t, rfl, ht₁.up u₂.tup, h8, fun D s₃ u₃ hDn hDs _ _ hD => ?_⟩⟩
  have C₃ := C.up u₃
  refine listD ?_
  refine wpAny_items_cons ?_
  refine nm C₃ (by exact rfl) ?_
  refine wpAny_items_nil ⟨by simp; omega, fun Wl s₄ u₄ hWn hW s₅ u₅ => ?_⟩
  have C₅ := (C₃.up u₄).up u₅
  refine st C₅ fun s₆ t₆ C₆ => st C₆ fun s₇ t₇ C₇ => ?_
  have hDL : D ≠ L := by
    rintro rfl
    obtain ⟨o, es, k, e, _⟩ := C.ns
    rw [hDn] at e; cases e
  have hWL : Wl ≠ L := plain_ne_ns hW (C₃.up u₄).ns
  have tL : Tr [L] s₅ s₇ := t₆.trans t₇
  have hD₇ : s₇.heap.DictOfH (tKind prog w) D [(t, a, .bool true)] := dicth_at hD (fun o e => tL.keep _ o (by simpa using hDL) ((u₄.trans u₅).le _ _ e)) ((u₄.trans u₅).tup.trans tL.tup)
  have R₇ : RSt prog w s L D Wl ol [(t, a, .bool true)] [t] s₇ :=
    ⟨⟨_, C₇, by exact rfl, by exact rfl, by exact rfl⟩, hD₇, ⟨[.ref a], hW.at fun o e => tL.keep _ o (by simpa using hWL) (u₅.le _ _ e), Tms.one (ht.up C₇.tr.tup)⟩, fresh_of C.tr hDn, fresh_of C₃.tr hWn, hDL⟩
  have K₇ : Know ops t N [(t, a, .bool true)] [t] [] (2 * N + 1) :=
    ⟨by simp [keysOf], by simp [keysOf]; exact .refl, by simp [keysOf], by simp [keysOf], by simp; omega, by have := hN [t] (by simp) (by simpa using Rch.refl); simpa using this⟩
  clear C₅ C₆ C₇ hD₇ tL t₆ t₇ hD hW C₃ C₂
  refine wpAny_execs_cons ?_
  refine wpAny_While ?_
  refine codeAny_whileLoop (fun n s' => ∃ xs wl, n = 2 * (N - xs.length) + wl.length ∧ RSt prog w s L D Wl ol xs wl s' ∧ Know ops t N xs wl [] (2 * N + 1)) ?_ (2 * (N - 1) + 1) ⟨_, _, rfl, R₇, K₇⟩
  rintro n s₈ ⟨xs, wl, rfl, R₈, K₈⟩
  obtain ⟨m, C₈, m1, m2, m3⟩ := R₈.C
  obtain ⟨ys, hys, hyt⟩ := R₈.wait
  have hyl := Tms.len hyt
  have hsm := K₈.small
  refine wpF ?_
  refine wpAny_isTrue_Compare1 ?_
  refine nm C₈ m2 ?_
  refine listD ?_
  refine wpAny_items_nil ⟨by simp, fun b s₉ u₉ _ hb => ?_⟩
  refine lne_nil (hys.at fun o e => u₉.le _ _ e).isList hb.isList (by show A.units + 3 < _; omega) ?_
  refine wpAny_truthy_bool ?_
  have R₉ := R₈.up u₉
  have C₉ := C₈.up u₉
  cases ys with
  | nil =>
    simp only [List.isEmpty_nil, Bool.not_true, Bool.false_eq_true, if_false]
    have hwl : wl = [] := List.length_eq_zero_iff.mp hyl.symm
    subst hwl
    refine wpAny_execs_nil ?_
    refine wpAny_execs_cons ?_
    refine wpAny_Return_some ?_
    refine nm C₉ m1 ?_
    refine h D s₉ xs C₉.tr R₉.fD hDs R₉.dict fun u => ⟨fun hu => K₈.rch u hu, fun hu => ?_⟩
    induction hu with
    | refl => exact K₈.has
    | step _ hv ih =>
      rcases K₈.done _ ih with q | q | q
      · cases q
      · cases q
      · exact q _ hv
  | cons y0 ys0 =>
    simp only [List.isEmpty_cons, Bool.not_false, if_true]
    obtain ⟨ys1, y, hys1⟩ : ∃ ys1 y, y0 :: ys0 = ys1 ++ [y] := ⟨(y0 :: ys0).dropLast, (y0 :: ys0).getLast (by simp), (List.dropLast_concat_getLast (by simp)).symm⟩
    rw [hys1] at hys hyt hyl
    have hne : wl ≠ [] := by rintro rfl; simp at hyl
    obtain ⟨wl1, u, hwl1⟩ : ∃ wl1 u, wl = wl1 ++ [u] := ⟨wl.dropLast, wl.getLast hne, (List.dropLast_concat_getLast hne).symm⟩
    subst hwl1
    obtain ⟨hyt1, hyu⟩ := Tms.unsnoc hyt
    rw [List.length_append, List.length_singleton] at hsm
    have huk : u ∈ keysOf xs := K₈.wait u (by simp)
    have hur := K₈.rch u huk
    obtain ⟨hus, huh⟩ := hR u hur
    have hyl1 : ys1.length = wl1.length := by simpa using hyl
    refine wpAny_execs_cons (wpF ?_)
    refine forG ?_ (by intro _; rfl)
    have G₉ := G.up C₉.tr
    refine callN G₉ (g_turns w) (k_159 w) ?_
    refine wpAny_items_cons ?_
    refine lpop (nm C₉ m2 ⟨Wl, ys1, y, rfl, hys.at fun o e => u₉.le _ _ e, by simp; omega, fun s₁₀ t₁₀ hw₁₀ => ?_⟩) _ (by exact rfl)
    have R₁₀ := R₉.wait' t₁₀ hw₁₀ ((hyt1.up u₉.tup).up t₁₀.tup)
    obtain ⟨m', C₁₀, m1', m2', m3'⟩ := R₁₀.C
    refine wpAny_items_cons ?_
    refine nm C₁₀ m3' ?_
    have G₁₀ := G.up C₁₀.tr
    refine wpAny_items_nil ⟨G₁₀.gd.K, ?_⟩
    refine turns_ok u _ _ s₁₀ X ol y _ G₁₀ (ho.up C₁₀.tr.le) (hyu.up (u₉.tup.trans t₁₀.tup)) hh (by show A.depth + 1 + _ + 2 < _; omega) (by show A.units + 3 + _ + 200 < _; omega) hus fun r s₁₁ us u₁₁ hrn hr hut => ?_
    have R₁₁ := R₁₀.up u₁₁
    have hul := Tms.len hut
    have hrD : r ≠ D := by rintro rfl; obtain ⟨o, _, _, e, _⟩ := R₁₀.dict; rw [hrn] at e; cases e
    have hrW : r ≠ Wl := by rintro rfl; obtain ⟨_, ⟨n, e⟩, _⟩ := R₁₀.wait; rw [hrn] at e; cases e
    have hrL : r ≠ L := by rintro rfl; obtain ⟨o, _, _, e, _⟩ := C₁₀.ns; rw [hrn] at e; cases e
    have K₁₁ : Know ops t N xs wl1 [u] (2 * (N - xs.length) + wl1.length) := ⟨K₈.has, K₈.rch, fun k hk => K₈.wait k (by simp [hk]), fun k hk => by
      rcases K₈.done k hk with q | q | q
      · rcases List.mem_append.mp q with q | q
        · exact .inl q
        · exact .inr (.inl q)
      · cases q
      · exact .inr (.inr q), Nat.le_refl _, K₈.le⟩
    generalize hM : 2 * (N - xs.length) + wl1.length = M at K₁₁
    have hsm1 : M + 1 ≤ 2 * N + 1 := by omega
    have hgoal : M < 2 * (N - xs.length) + (wl1 ++ [u]).length := by rw [List.length_append, List.length_singleton]; omega
    clear hsm
    refine ⟨[L, D, Wl], us.length, fun i v => us[i]? = some v, fun i s' => ∃ xs' wl', RSt prog w s L D Wl ol xs' wl' s' ∧ Know ops t N xs' wl' [u] M ∧ (∀ v ∈ (turns ops u).take i, v ∈ keysOf xs') ∧ TLe s₁₁.heap s'.heap, ?_, ?_, ⟨xs, wl1, R₁₁, K₁₁, by simp, fun _ _ e _ => e⟩, fun i sa sb ua ⟨x1, w1, r1, k1, q1, l1⟩ => ⟨x1, w1, r1.up ua, k1, q1, l1.trans ua.tup⟩, fun i sa sb I hI hIn ta ⟨x1, w1, r1, k1, q1, l1⟩ => ⟨x1, w1, r1.it hI (fresh_of (C₁₀.tr.trans u₁₁) hIn) ta, k1, q1, l1.trans ta.tup⟩, ?_, ?_⟩
    · have := opens_list (prog := prog) (w := w) (target := Expr.Name "late" { line := 94, col := 12, endLine := 94, endCol := 16 }) (mu := [L, D, Wl]) (A := A.deeper (envOf "_law_reached" ({ kind := .function, names := [("t", .local), ("ops", .local), ("reached", .local), ("waiting", .local), ("late", .local), ("_law_turns", .globalImplicit)], isGenerator := false, isCoroutine := false } : Scope) L 166 (.ref 165))) hh hr.isList (by simp; exact ⟨hrL, hrD, hrW⟩)
      simpa using this
    · intro b hb
      simp at hb
      rcases hb with rfl | rfl | rfl
      · obtain ⟨m, C, _⟩ := R₁₁.C; obtain ⟨o, es, k, e, _⟩ := C.ns; exact ⟨o, e⟩
      · obtain ⟨o, _, _, e, _⟩ := R₁₁.dict; exact ⟨o, e⟩
      · obtain ⟨_, ⟨n, e⟩, _⟩ := R₁₁.wait; exact ⟨_, e⟩
    · rintro i lv s₁₂ hi hlv ⟨xs', wl', R₁₂, K₁₂, q₁₂, l₁₂⟩
      obtain ⟨lt, hlt, hlm⟩ := Tms.at hut hlv
      have hlm₁₂ := hlm.up l₁₂
      have hltm : lt ∈ turns ops u := List.mem_of_getElem? hlt
      have hltr : Rch ops t lt := .step hur hltm
      obtain ⟨hlts, hlth⟩ := hR lt hltr
      obtain ⟨la, rfl⟩ : ∃ la, lv = .ref la := by
        obtain ⟨x, k⟩ := lt
        obtain ⟨a, _, _, e, _⟩ := Tm.open hlm
        exact ⟨a, e⟩
      have htake : (turns ops u).take (i + 1) = (turns ops u).take i ++ [lt] := take_succ_map id _ _ _ hlt
      obtain ⟨m12, C₁₂, n1, n2, n3⟩ := R₁₂.C
      refine wpAny_assign_Name ?_
      refine st C₁₂ fun s₁₃ t₁₃ C₁₃ => ?_
      have R₁₃ : RSt prog w s L D Wl ol xs' wl' s₁₃ := by
        obtain ⟨zs, h1, h2⟩ := R₁₂.wait
        exact ⟨⟨_, C₁₃, by rw [if_neg (by decide)]; exact n1, by rw [if_neg (by decide)]; exact n2, by rw [if_neg (by decide)]; exact n3⟩, dicth_at R₁₂.dict (fun o e => t₁₃.keep _ o (by simpa using R₁₂.nDL) e) t₁₃.tup, ⟨zs, h1.at fun o e => t₁₃.keep _ o (by simpa using R₁₂.nWL) e, h2.up t₁₃.tup⟩, R₁₂.fD, R₁₂.fW, R₁₂.nDL⟩
      have hlm₁₃ := hlm₁₂.up t₁₃.tup
      refine wpAny_execs_cons ?_
      refine wpAny_If ?_
      refine wpAny_isTrue_Compare1 ?_
      refine nm C₁₃ (by exact rfl) ?_
      refine nm C₁₃ (by rw [if_neg (by decide)]; exact n1) ?_
      refine notin_heap (k := lt) (by show A.units + 3 + 30 < _; omega) ⟨hlm₁₃, hlth⟩ hDs R₁₃.dict fun s₁₄ u₁₄ => ?_
      refine wpAny_truthy_bool ?_
      rw [atKey_mem]
      have R₁₄ := R₁₃.up u₁₄
      have C₁₄ := C₁₃.up u₁₄
      have hlen := K₁₂.le
      have hsm2 := K₁₂.small
      by_cases hin : lt ∈ keysOf xs'
      · rw [decide_eq_true hin]
        simp only [Bool.not_true, Bool.false_eq_true, if_false]
        refine wpAny_execs_nil ?_
        refine wpAny_execs_nil ⟨rfl, (t₁₃.mono (by simp)).trans (Up.to u₁₄ _), xs', wl', R₁₄, K₁₂, fun x hx => ?_, l₁₂.trans (t₁₃.tup.trans u₁₄.tup)⟩
        rw [htake] at hx
        rcases List.mem_append.mp hx with hx | hx
        · exact q₁₂ x hx
        · simp at hx; subst hx; exact hin
      · rw [decide_eq_false hin]
        simp only [Bool.not_false, if_true]
        refine wpAny_execs_cons ?_
        refine wpAny_Assign_Subscript ?_ (by exact rfl)
        refine wpAny_Constant_bool ?_
        refine nm C₁₄ (by rw [if_neg (by decide)]; exact n1) ?_
        refine nm C₁₄ (by exact rfl) ?_
        have hnd : (keysOf xs' ++ [lt]).Nodup := by
          rw [List.nodup_append]
          refine ⟨dicth_nodup R₁₄.dict, by simp, ?_⟩
          intro a ha b hb
          simp at hb; subst hb
          rintro rfl
          exact hin ha
        have hb1 : xs'.length + 1 ≤ N := by
          have := hN _ hnd (fun x hx => by
            rcases List.mem_append.mp hx with hx | hx
            · exact K₁₂.rch x hx
            · simp at hx; subst hx; exact hltr)
          simpa [keysOf] using this
        refine wpAny_setItem_heap (knd := tKind prog w) (k := lt) (by show A.units + 3 + 1 + 20 < _; omega) ⟨hlm₁₃.up u₁₄.tup, hlth⟩ R₁₄.dict (fun h' hm' hs' => ?_) (by omega)
        have hak : atKey xs' lt = none := by
          have := atKey_mem (xs := xs') (k := lt)
          rw [decide_eq_false hin] at this
          simpa using this
        rw [storedH_new hak] at hm'
        have tD : Tr [D] s₁₄ { s₁₄ with heap := h', toks := s₁₄.toks + (tKind prog w).draws lt } := Tr.of_but hs' (dicth_not_tup R₁₄.dict)
        revert tD
        have eh : ({ s₁₄ with heap := h', toks := s₁₄.toks + (tKind prog w).draws lt } : Shared).heap = h' := rfl
        generalize ({ s₁₄ with heap := h', toks := s₁₄.toks + (tKind prog w).draws lt } : Shared) = s₁₅ at eh ⊢
        subst eh
        intro tD
        have R₁₅ := R₁₄.dict' tD hm'
        have C₁₅ := C₁₄.step tD (by intro b hb; simp at hb; subst hb; exact ⟨.inl R₁₄.fD, R₁₄.nDL⟩)
        obtain ⟨zs, h1, h2⟩ := R₁₅.wait
        have hzl := Tms.len h2
        refine wpAny_execs_cons ?_
        refine wpAny_Expr ?_
        refine lmeth1 PySem.F.slot_list_append PySem.F.type_list_append (nm C₁₅ (by rw [if_neg (by decide)]; exact n2) ⟨Wl, _, rfl, h1, ?_⟩) _ (by exact rfl) (by exact rfl)
        refine nm C₁₅ (by exact rfl) ?_
        refine append_tr h1 (by omega) fun s₁₆ t₁₆ hw₁₆ => ?_
        have hlm₁₆ : Tm s₁₆.heap (.ref la) lt := hlm₁₃.up (u₁₄.tup.trans (tD.tup.trans t₁₆.tup))
        have R₁₆ := R₁₅.wait' t₁₆ hw₁₆ (Tms.app (h2.up t₁₆.tup) (Tms.one hlm₁₆))
        have ek : keysOf (xs' ++ [(lt, la, Value.bool true)]) = keysOf xs' ++ [lt] := by simp [keysOf]
        refine wpAny_execs_nil ?_
        refine wpAny_execs_nil ⟨rfl, (t₁₃.mono (by simp)).trans ((Up.to u₁₄ _).trans ((tD.mono (by simp)).trans (t₁₆.mono (by simp)))), _, _, R₁₆, ⟨?_, ?_, ?_, ?_, ?_, ?_⟩, ?_, l₁₂.trans (t₁₃.tup.trans (u₁₄.tup.trans (tD.tup.trans t₁₆.tup)))⟩
        · rw [ek]; exact List.mem_append_left _ K₁₂.has
        · rw [ek]
          intro x hx
          rcases List.mem_append.mp hx with hx | hx
          · exact K₁₂.rch x hx
          · simp at hx; subst hx; exact hltr
        · rw [ek]
          intro x hx
          rcases List.mem_append.mp hx with hx | hx
          · exact List.mem_append_left _ (K₁₂.wait x hx)
          · exact List.mem_append_right _ hx
        · rw [ek]
          intro x hx
          rcases List.mem_append.mp hx with hx | hx
          · rcases K₁₂.done x hx with q | q | q
            · exact .inl (List.mem_append_left _ q)
            · exact .inr (.inl q)
            · exact .inr (.inr fun v hv => List.mem_append_left _ (q v hv))
          · exact .inl (List.mem_append_right _ hx)
        · rw [List.length_append, List.length_append]; simp; omega
        · rw [List.length_append]; simpa using hb1
        · rw [ek]
          intro x hx
          rw [htake] at hx
          rcases List.mem_append.mp hx with hx | hx
          · exact List.mem_append_left _ (q₁₂ x hx)
          · exact List.mem_append_right _ hx
    · rintro s₁₂ ⟨xs', wl', R₁₂, K₁₂, q₁₂, _⟩
      refine wpAny_execs_nil ⟨2 * (N - xs'.length) + wl'.length, Nat.lt_of_le_of_lt K₁₂.small hgoal, xs', wl', rfl, R₁₂, K₁₂.has, K₁₂.rch, K₁₂.wait, fun k hk => ?_, Nat.le_trans K₁₂.small (by omega), K₁₂.le⟩
      rcases K₁₂.done k hk with q | q | q
      · exact .inl q
      · simp at q
        subst q
        right; right
        rw [hul, List.take_length] at q₁₂
        exact q₁₂
      · exact .inr (.inr q)
end
end Mine
end
section
set_option maxRecDepth 100000
set_option maxHeartbeats 1000000
set_option linter.constructorNameAsVariable false
set_option linter.unusedVariables false
open PySem PySem.W PyProof.Rows PySem.Calls PySem.Spec
namespace Mine
section
variable {prog : Program} {w : World} {A : Around} {E : Value → Shared → Prop} {s : Shared}
theorem enterF {R : Result → Shared → Prop} {X : List Addr} {f : Addr} {args : List Value} {binds : List (Str × Value)} {name qual : Str} {params : Arguments} {body : List Stmt} {scope : Scope} {dV kV doc pm cdv ct oc : Value} {an od : Option Addr} {osl : Array (Option Value)}
    (G : Gx w X s.heap) (ho : (Kf w).lookup f = some ⟨oc, od, .func (fnOf name qual params body scope dV kV doc pm an cdv ct), osl⟩) (hcd : codeIn (Kf w) cdv qual = true)
    (hroom : A.depth < recursionLimit) (hbind : bindArgs (fnOf name qual params body scope dV kV doc pm an cdv ct) ⟨args, []⟩ = pure binds) (hcell : ∀ x ∈ scope.names, x.2 ≠ .cell) (hloc : (binds.all fun x => decide (scope.names.lookup x.1 = some .local)) = true)
    (hco : scope.isCoroutine = false) (hgen : scope.isGenerator = false) (hk : scope.kind = .function)
    (h : ∀ L s₁, Cx [] s L (fun x => binds.reverse.lookup x) s₁ → Gx w X s₁.heap →
      wpAny (model prog w) (A.deeper (envOf qual scope L f cdv)) (execs body (envOf qual scope L f cdv)) (fun fl s' => R (.ok (.ret (match fl with | .ret v => v | _ => .none))) s') noE s₁) :
    codeAny (model prog w) A (.call (.ref f) ⟨args, []⟩) R s := by
  obtain ⟨p, l, mg, mb, T⟩ := G.gd.T
  refine codeAny_call_def (fd := fnOf name qual params body scope dV kV doc pm an cdv ct) (body := body) hroom (G.gd.K _ _ ho) rfl T.nolimit (codeRec_of G.gd.K hcd) rfl (BindsTo.of_eq hbind) hcell (locs hloc) (fun h₀ hns hk₀ => ?_) hco hgen hk
  have u : Up s { s with heap := h₀, toks := s.toks + binds.length } := Up.mk' hk₀
  refine wpAny_mono (h s.heap.objs.size _ ⟨u, hns, ?_⟩ (G.up u)) (fun _ _ x => x) fun _ _ x => x.elim
  cases e : s.heap.get? s.heap.objs.size with
  | none => rfl
  | some o => exact absurd (Heap.lt_size e) (Nat.lt_irrefl _)

/-- self.ops = v on a new object -/
theorem set_ops {b dx : Addr} {v : Value} {L : Addr} {m : Str → Option Value} {s₀ : Shared} {Q : Unit → Shared → Prop} (G : Gx w [] s.heap) (C : Cx [] s₀ L m s) (hb : s.heap.get? b = some (instObj 131 dx)) (hdx : s.heap.get? dx = some emptyDict) (hdL : dx ≠ L)
    (h : ∀ s' hs tk n, Tr [dx, L] s s' → s'.heap.Ns L m → (∀ b o, b ≠ dx → b ≠ L → s.heap.get? b = some o → s'.heap.get? b = some o) → s'.heap.get? dx = some (dictOf [⟨hs, .str "ops" tk, v⟩] n) → Q () s') : wpAny (model prog w) A (setAttr (.ref b) "ops" v) Q E s := by
  have I : InstAt s.heap b (instObj 131 dx) 131 (some emptyDict) := ⟨hb, rfl, rfl, hdx⟩
  refine set_plain G.gd.K I (by exact rfl) ?_
  have hF : Fr {} L s.heap m := ⟨C.ns, fun b o e => by simp [Heap.get?] at e, Nat.zero_le _⟩
  let news : List (Addr × Obj) := (List.range s.heap.objs.size).filterMap fun a => if a = L ∨ a = dx then none else (s.heap.get? a).map fun o => (a, o)
  have hnews : ∀ p, p ∈ news ↔ (¬ (p.1 = L ∨ p.1 = dx) ∧ s.heap.get? p.1 = some p.2) := by
    rintro ⟨a, o⟩
    simp only [news, List.mem_filterMap, List.mem_range]
    constructor
    · rintro ⟨a', _, e⟩
      split at e
      · cases e
      · obtain ⟨o', e1, e2⟩ := Option.map_eq_some_iff.mp e
        cases e2
        exact ⟨by assumption, e1⟩
    · rintro ⟨h1, h2⟩
      exact ⟨a, Heap.lt_size h2, by rw [if_neg h1, h2]; rfl⟩
  have hN : News {} L s.heap ([] ++ (dx, emptyDict) :: news) := fun p hp => by
    rcases List.mem_cons.mp hp with rfl | hp
    · exact ⟨hdx, hdL, by simp [Heap.get?]⟩
    · exact ⟨((hnews p).mp hp).2, fun q => ((hnews p).mp hp).1 (.inl q), by simp [Heap.get?]⟩
  refine osa_dict (s := { s with toks := s.toks + 1 }) hF hN G.gd.K I rfl (by exact rfl) (by exact rfl) (by exact rfl) (by exact rfl) (by simp) (fun p hp q => ((hnews p).mp hp).1 (.inr q)) rfl (by exact rfl) (by exact Nat.le_of_ble_eq_true rfl) fun h' F' N' => ?_
  have keep : ∀ b o, b ≠ dx → b ≠ L → s.heap.get? b = some o → h'.get? b = some o := fun b o h1 h2 e => (N' (b, o) (by simp; exact .inr ((hnews (b, o)).mpr ⟨by simp; exact ⟨h2, h1⟩, e⟩))).1
  have hd' := (N' _ (by simp; exact .inl rfl)).1
  refine h _ _ _ _ ⟨⟨_, _, rfl⟩, fun b o hb e => keep b o (fun q => hb (by simp [q])) (fun q => hb (by simp [q])) e, fun b o e q => keep b o (fun r => ?_) (fun r => ?_) e⟩ F'.ns keep hd'
  · rw [r, hdx] at e; cases e
    obtain ⟨c, _⟩ := q
    exact absurd c (by simp)
  · exact ns_not_tup C.ns o (r ▸ e) q

theorem bags_ok {X : List Addr} {ol : Addr} {Q : Value → Shared → Prop} (G : Gx w X s.heap) (hd : A.depth + 10 < recursionLimit)
    (h : ∀ b s', Up s s' → (∀ W s'', Tr W s' s'' → (∀ x ∈ W, ∃ o, s.heap.get? x = some o) → BagAt s''.heap b ol) → Q (.ref b) s') : wpAny (model prog w) A (call (.ref 131) [.ref ol]) Q E s := by
  refine wpAny_call ?_
  obtain ⟨hp, g, d, t, os⟩ := s
  have K := G.gd.K
  refine make_core (makes_of K (by exact rfl)) (looks_findIn K (by exact rfl)) (fun self => bind_fn K self (f := 50) (by exact rfl)) (.inl rfl) ?_
  have u : Up ⟨hp, g, d, t, os⟩ ⟨(hp.push emptyDict).push (instObj 131 hp.objs.size), g, d, t, os⟩ := ⟨⟨_, _, rfl⟩, fun b o _ e => Heap.get?_push_of_some _ (Heap.get?_push_of_some _ e), fun b o e _ => Heap.get?_push_of_some _ (Heap.get?_push_of_some _ e)⟩
  have hx : ((hp.push emptyDict).push (instObj 131 hp.objs.size)).get? (hp.objs.size + 1) = some (instObj 131 hp.objs.size) := by
    have := Heap.get?_push_size (hp.push emptyDict) (o := instObj 131 hp.objs.size) rfl
    rwa [Heap.size_push] at this
  have hdx : ((hp.push emptyDict).push (instObj 131 hp.objs.size)).get? hp.objs.size = some emptyDict := Heap.get?_push_of_some _ (Heap.get?_push_size _ rfl)
  have f1 : hp.get? hp.objs.size = none := fresh_size hp
  have f2 : hp.get? (hp.objs.size + 1) = none := by
    cases e : hp.get? (hp.objs.size + 1) with
    | none => rfl
    | some o => exact absurd (Heap.lt_size e) (Nat.not_lt.mpr (Nat.le_succ _))
  revert u hx hdx f1 f2
  generalize hp.objs.size + 1 = b
  generalize hp.objs.size = dx
  generalize hs1 : (⟨(hp.push emptyDict).push (instObj 131 dx), g, d, t, os⟩ : Shared) = s₁
  intro u hx hdx f1 f2
  have hx₁ : s₁.heap.get? b = some (instObj 131 dx) := by rw [← hs1]; exact hx
  have hdx₁ : s₁.heap.get? dx = some emptyDict := by rw [← hs1]; exact hdx
  refine enterF (X := []) (binds := [("self", .ref b), ("ops", .ref ol)]) (G.nil.up u) (by exact rfl) (by exact rfl) ?_ (by exact rfl) (by decide) (by exact rfl) rfl rfl rfl (fun L s₂ C G₂ => ?_)
  · rw [depth_under_kw]; omega
  refine wpAny_execs_cons ?_
  refine plainObj_wpAny_Assign_Attribute ?_ (by exact rfl)
  refine nm C (by exact rfl) ?_
  refine nm C (by exact rfl) ?_
  have hdL : dx ≠ L := by rintro rfl; rw [C.nL] at hdx₁; cases hdx₁
  have hbL : b ≠ L := by rintro rfl; rw [C.nL] at hx₁; cases hx₁
  have hbd : b ≠ dx := by rintro rfl; rw [hx₁] at hdx₁; cases hdx₁
  refine set_ops G₂ C (C.tr.le _ _ hx₁) (C.tr.le _ _ hdx₁) hdL fun s₃ hs tk n t₃ hns keep hd₃ => ?_
  refine wpAny_execs_nil ⟨rfl, ?_⟩
  refine h b s₃ ?_ fun W s₄ t₄ hW => ⟨dx, hs, tk, n, t₄.keep b _ (fun q => by obtain ⟨o, e⟩ := hW b q; rw [show hp.get? b = some o from e] at f2; cases f2) (keep b _ hbd hbL (C.tr.le _ _ hx₁)), t₄.keep dx _ (fun q => by obtain ⟨o, e⟩ := hW dx q; rw [show hp.get? dx = some o from e] at f1; cases f1) hd₃⟩
  refine Tr.up_new (u.trans C.tr) t₃ ?_
  intro x hx
  simp at hx
  rcases hx with rfl | rfl
  · exact f1
  · exact fresh_of u C.nL
end
end Mine
end
section
set_option maxRecDepth 100000
set_option maxHeartbeats 1000000
set_option linter.constructorNameAsVariable false
set_option linter.unusedVariables false
open PySem PySem.W PyProof.Rows PySem.Calls PySem.Spec
namespace Mine
/-- a plain dict with these entries -/
noncomputable def DE (h : Heap) (d : Addr) (es : Array DictEntry) (ep : Nat) : Prop := ∃ o, h.get? d = some o ∧ o.ExactDict ∧ o.data = .dict es ep
theorem DE.at {h h' : Heap} {d : Addr} {es : Array DictEntry} {ep : Nat} (x : DE h d es ep) (k : ∀ o, h.get? d = some o → h'.get? d = some o) : DE h' d es ep := let ⟨o, e, r⟩ := x; ⟨o, k o e, r⟩
theorem DE.typeIs {s : Shared} {d : Addr} {es : Array DictEntry} {ep : Nat} (x : DE s.heap d es ep) : s.TypeIs (.ref d) "dict" := let ⟨o, e, c, _⟩ := x; ⟨o, e, c.1⟩
theorem kit_at {h h' : Heap} {I d : Addr} {i n ep : Nat} (x : h.IsKeyIter I d i n ep) (k : ∀ o, h.get? I = some o → h'.get? I = some o) : h'.IsKeyIter I d i n ep := let ⟨o, e, r⟩ := x; ⟨o, k o e, r⟩
theorem kit_f {h : Heap} {I d : Addr} {i n ep : Nat} (x : h.IsKeyIter I d i n ep) : isF h I := let ⟨o, e, _, d⟩ := x; ⟨o, _, e, d⟩
theorem isF.not_tup {h : Heap} {I : Addr} (x : isF h I) : ∀ o, h.get? I = some o → ¬ IsT o := by
  obtain ⟨o', vs, e, d⟩ := x
  rintro o e' ⟨_, xs, n, q⟩
  rw [e] at e'; cases e'; rw [q] at d; cases d

section
variable {prog : Program} {w : World} {A : Around} {E : Value → Shared → Prop} {s : Shared}
theorem diter {d : Addr} {es : Array DictEntry} {ep : Nat} {Q : Value → Shared → Prop} (hsys : (d == sysModules) = false) (hm : DE s.heap d es ep)
    (hQ : Q (.ref s.heap.objs.size) { s with heap := s.heap.push { cls := .type "dict_keyiterator", data := .fields #[.ref d, .int 0 0, .int es.size 0, .int ep 0] } }) : wpAny (model prog w) A (pyIter (.ref d)) Q E s := by
  have hT := hm.typeIs
  obtain ⟨o, ho, _, hdat⟩ := hm
  refine wpAny_pyIter_slot hT F.slot_dict_iter (wpAny_call_entry F.slot_dict_iter hT F.entry_dict_iter ?_ (F.args_dict_iter_1 _))
  unfold Builtin.«dict.__iter__» Builtin.Dict.dictSlotNone
  refine wpAny_bind (wpAny_bind ?_)
  · refine wpAny_notOrdered_dict hT (wpAny_pure ?_)
    show wpAny _ _ (Builtin.Dict.showsAll d >>= _) _ _ s
    unfold Builtin.Dict.showsAll
    rw [hsys, if_neg Bool.false_ne_true]
    refine wpAny_bind (wpAny_pure (wpAny_bind (wpAny_dictEntries ho hdat (wpAny_bind (wpAny_dictEpoch ho hdat (wpAny_bind (wpAny_newObj_type (wpAny_pure ?_))))))))
    exact ⟨_, rfl, "dict_keyiterator", _, ⟨_, Heap.get?_push_size _ rfl, rfl⟩, F.slot_dict_keyiterator_next.lookup, by simpa [rawInt] using hQ⟩

theorem dnext {I d : Addr} {i ep : Nat} {es : Array DictEntry} {Q : Option Value → Shared → Prop} (hit : s.heap.IsKeyIter I d i es.size ep) (hm : DE s.heap d es ep) (hi : i < es.size)
    (hQ : ∀ s', Tr [I] s s' → s'.heap.IsKeyIter I d (i + 1) es.size ep → Q (some es[i].key) s') : wpAny (model prog w) A (pyNext (.ref I)) Q E s := by
  have hf := kit_f hit
  obtain ⟨o, ho, hc, hd⟩ := id hit
  obtain ⟨od, hod, hcd, hdd⟩ := id hm
  unfold pyNext
  refine wpAny_bind (wpAny_attempt (wpAny_callSpecial?_slot (name := Str.ofString "__next__") hit.typeIs F.slot_dict_keyiterator_next
    (wpAny_call_entry F.slot_dict_keyiterator_next hit.typeIs F.entry_dict_keyiterator_next ?_ (F.args_dict_keyiterator_next_1 _))))
  refine wpAny_bind (wpAny_pure (wpAny_bind (wpAny_bind ?_)))
  first | refine wpAny_bind (wpAny_typeNameOfWhole_keyiter hit.typeIs (wpAny_pure ?_)) | refine wpAny_bind (wpAny_typeNameOf_keyiter hit.typeIs (wpAny_pure ?_))
  refine wpAny_bind (wpAny_fieldsOf ho hd ?_)
  have hown : Builtin.Dict_items.ownsTuple "dict_keyiterator" = false := by decide
  simp only [hown, Bool.false_eq_true, if_false]
  show wpAny _ _ (if (Value.ref d == Value.none) = true then _ else _) _ _ s
  rw [if_neg (show ¬ ((Value.ref d == Value.none) = true) from Bool.false_ne_true)]
  refine wpAny_bind (wpAny_pure (wpAny_bind (wpAny_dictEntries hod hdd ?_)))
  rw [if_neg (by simp)]
  refine wpAny_bind (wpAny_pure (wpAny_bind (wpAny_dictEpoch hod hdd ?_)))
  rw [if_neg (by simp)]
  refine wpAny_pure ?_
  simp only [show ¬ ((i : Int) < 0) from by omega, if_false, Int.toNat_natCast, Array.getElem?_eq_getElem hi]
  refine wpAny_bind ?_
  first | refine wpAny_bind (wpAny_typeNameOfWhole_keyiter hit.typeIs (wpAny_pure ?_)) | refine wpAny_bind (wpAny_typeNameOf_keyiter hit.typeIs (wpAny_pure ?_))
  refine wpAny_bind (wpAny_isOneOf_keyiter hit.typeIs ?_)
  show wpAny _ _ (setField (.ref I) 1 (rawInt ((i : Int) + 1)) >>= _) _ _ s
  refine wpAny_bind (wpAny_setField ho hd (by simp) ?_)
  have hit' : (s.heap.update I (Obj.mapFields (·.setIfInBounds 1 (rawInt ((i : Int) + 1))))).IsKeyIter I d (i + 1) es.size ep :=
    ⟨_, Heap.get?_update_self _ ho (Obj.isFreed_of_fields (Obj.data_mapFields hd _)), (Obj.cls_mapFields ..).trans hc, by rw [Obj.data_mapFields hd]; simp [rawInt]⟩
  refine wpAny_bind (wpAny_holding ?_)
  refine wpAny_bind (wpAny_isOneOf_keyiter (s := { s with heap := s.heap.update I (Obj.mapFields (·.setIfInBounds 1 (rawInt ((i : Int) + 1)))) }) hit'.typeIs ?_)
  show wpAny _ _ (pure es[i].key) _ _ _
  exact wpAny_pure (wpAny_pure ⟨_, rfl, wpAny_pure (hQ _ (Tr.of_but (tk := s.toks) (Heap.SameBut.update ..) hf.not_tup) hit')⟩)

theorem dend {I d : Addr} {ep : Nat} {es : Array DictEntry} {Q : Option Value → Shared → Prop} (hh : A.handled = none) (hit : s.heap.IsKeyIter I d es.size es.size ep) (hm : DE s.heap d es ep)
    (hQ : ∀ s', Tr [I] s s' → Q none s') : wpAny (model prog w) A (pyNext (.ref I)) Q E s := by
  have hf := kit_f hit
  obtain ⟨o, ho, hc, hd⟩ := id hit
  obtain ⟨od, hod, hcd, hdd⟩ := id hm
  unfold pyNext
  refine wpAny_bind (wpAny_attempt (wpAny_callSpecial?_slot (name := Str.ofString "__next__") hit.typeIs F.slot_dict_keyiterator_next
    (wpAny_call_entry F.slot_dict_keyiterator_next hit.typeIs F.entry_dict_keyiterator_next ?_ (F.args_dict_keyiterator_next_1 _))))
  refine wpAny_bind (wpAny_pure (wpAny_bind (wpAny_bind ?_)))
  first | refine wpAny_bind (wpAny_typeNameOfWhole_keyiter hit.typeIs (wpAny_pure ?_)) | refine wpAny_bind (wpAny_typeNameOf_keyiter hit.typeIs (wpAny_pure ?_))
  refine wpAny_bind (wpAny_fieldsOf ho hd ?_)
  have hown : Builtin.Dict_items.ownsTuple "dict_keyiterator" = false := by decide
  simp only [hown, Bool.false_eq_true, if_false]
  show wpAny _ _ (if (Value.ref d == Value.none) = true then _ else _) _ _ s
  rw [if_neg (show ¬ ((Value.ref d == Value.none) = true) from Bool.false_ne_true)]
  refine wpAny_bind (wpAny_pure (wpAny_bind (wpAny_dictEntries hod hdd ?_)))
  rw [if_neg (by simp)]
  refine wpAny_bind (wpAny_pure (wpAny_bind (wpAny_dictEpoch hod hdd ?_)))
  rw [if_neg (by simp)]
  refine wpAny_pure ?_
  simp only [show ¬ ((es.size : Int) < 0) from by omega, if_false, Int.toNat_natCast, Array.getElem?_eq_none (Nat.le_refl _)]
  refine wpAny_bind ?_
  first | refine wpAny_bind (wpAny_typeNameOfWhole_keyiter hit.typeIs (wpAny_pure ?_)) | refine wpAny_bind (wpAny_typeNameOf_keyiter hit.typeIs (wpAny_pure ?_))
  show wpAny _ _ (setField (.ref I) 0 .none >>= _) _ _ s
  refine wpAny_bind (wpAny_setField ho hd (by simp) ?_)
  show wpAny _ _ (newExc (.type "StopIteration") [] >>= _) _ _ _
  refine wpAny_bind ?_
  simp only [newExc, newTuple]
  refine wpAny_bind (wpAny_newObj_type ?_ (by size_fits))
  refine wpAny_bind (m := firstArgMember _ _) (wpAny_of_eq (a := Value.none) (by first | rfl | (simp only [firstArgMember]; rfl)) ?_)
  refine wpAny_newObj_type ?_ (by size_fits)
  simp only [raiseNew]
  refine wpAny_bind (wpAny_handled ?_)
  rw [show A.in1.handled = none from hh]
  refine wpAny_bind (wpAny_pure (wpAny_throw ?_))
  refine wpAny_bind (wpAny_isInstance (T := "StopIteration") (b := true) ⟨_, Heap.get?_push_size _ rfl, rfl⟩ isSubtype_stop ?_)
  exact wpAny_pure (hQ _ (Tr.of_ext (tk := s.toks) (((Heap.SameBut.update ..).extBut.push _).push _) hf.not_tup))

theorem It.dict (target : Expr) (hh : A.handled = none) (I d : Addr) (hne : d ≠ I) (es : Array DictEntry) (ep : Nat) :
    It prog w A target I [I, d] es.size (fun i v => (es[i]?).map (·.key) = some v) (fun i h => h.IsKeyIter I d i es.size ep ∧ DE h d es ep) where
  mem := by simp
  ex := fun i h st b hb => by
    rcases List.mem_cons.mp hb with rfl | hb
    · obtain ⟨o, e, _⟩ := st.1; exact ⟨o, e⟩
    · simp at hb; subst hb; obtain ⟨o, e, _⟩ := st.2; exact ⟨o, e⟩
  frame := fun i h h' st k => ⟨kit_at st.1 fun o e => k I (by simp) o e, st.2.at fun o e => k d (by simp) o e⟩
  item := fun i s Q E hi st hQ => dnext st.1 st.2 hi fun s' t hit' => hQ _ _ (by simp [hi]) ⟨hit', st.2.at fun o e => t.keep _ o (by simpa using hne) e⟩ t
  done := fun s Q E st hQ => dend hh st.1 st.2 fun s' t => hQ s' t
  self := fun i s Q E st hQ => wpAny_pyIter_keyiter st.1 hQ
  go := fun i v s Q E st hQ => let ⟨o, e, c, _⟩ := st.1; go_plain e c (by decide) hQ
theorem It.to {target : Expr} {I : Addr} {fp : List Addr} {n : Nat} {P P' : Nat → Value → Prop} {St : Nat → Heap → Prop} (x : It prog w A target I fp n P St) (h : ∀ i v, i < n → P i v → P' i v) : It prog w A target I fp n P' St where
  mem := x.mem
  ex := x.ex
  frame := x.frame
  item := fun i s Q E hi st hQ => x.item i s Q E hi st fun v s' hp st' t => hQ v s' (h i v hi hp) st' t
  done := x.done
  self := x.self
  go := x.go

theorem dicth_de {D : Addr} {xs : List (Term × Addr × Value)} {h : Heap} (x : h.DictOfH (tKind prog w) D xs) : ∃ (es : Array DictEntry) (ep : Nat), DE h D es ep ∧ es.size = xs.length ∧ ∀ (i : Nat) (v : Value), (es[i]?).map (·.key) = some v → ∃ y, xs[i]? = some y ∧ v = .ref y.2.1 := by
  obtain ⟨o, es, ep, e, c, d, he, _, _⟩ := x
  refine ⟨es, ep, ⟨o, e, c, d⟩, by rw [← Array.length_toList, he, List.length_map], fun i v hv => ?_⟩
  rw [← Array.getElem?_toList, he, List.getElem?_map, Option.map_map] at hv
  obtain ⟨y, hy, rfl⟩ := Option.map_eq_some_iff.mp hv
  exact ⟨y, hy, rfl⟩
theorem opens_dict {target : Expr} {mu : List Addr} {D : Addr} {xs : List (Term × Addr × Value)} {sb : Shared} (hh : A.handled = none) (hsys : (D == sysModules) = false) (hx : sb.heap.DictOfH (tKind prog w) D xs) (hm : D ∉ mu) :
    Opens prog w A target mu xs.length (fun i v => ∃ y, xs[i]? = some y ∧ v = .ref y.2.1) (.ref D) sb := fun E Q h => by
  obtain ⟨es, ep, hde, hsz, hkey⟩ := dicth_de hx
  have hlx : ∃ o, sb.heap.get? D = some o := let ⟨o, e, _⟩ := hde; ⟨o, e⟩
  have hne : D ≠ sb.heap.objs.size := by rintro rfl; obtain ⟨o, e⟩ := hlx; rw [fresh_size] at e; cases e
  rw [← hsz] at h
  exact diter hsys hde (h _ _ _ _ ((It.dict target hh _ D hne es ep).to fun i v _ hv => hkey i v hv) (fun i h st => kit_f st.1) (Up.push (tk := sb.toks)) (fresh_size _) ⟨⟨_, Heap.get?_push_size _ rfl, rfl, rfl⟩, hde.at fun o e => Heap.get?_push_of_some _ e⟩
    fun b hb => by rcases List.mem_cons.mp hb with rfl | hb
                   · exact .inl rfl
                   · simp at hb; subst hb; exact .inr ⟨hlx, hm⟩)

theorem Tr.same {W : List Addr} {s s' : Shared} (t : Tr W s s') : s' = { s with heap := s'.heap, toks := s'.toks } := by
  obtain ⟨h, k, rfl⟩ := t.ev
  rfl
theorem src_dict {D : Addr} {es : Array DictEntry} {ep : Nat} (hsys : (D == sysModules) = false) : KdlSrc prog w "dict" D D es.size (fun i v => (es[i]?).map (·.key) = some v) (fun h => DE h D es ep) where
  type := fun _ hm => hm.typeIs
  there := fun _ hm => let ⟨_, e, _⟩ := hm; ⟨Heap.lt_size e, Heap.lt_size e⟩
  keep := fun _ _ hm hk => hm.at fun o e => hk D (.inl rfl) o e
  notList := by decide
  notTuple := by decide
  hint := fun _ _ _ _ hm hq => kdl_hint_dict hm.typeIs hq
  iter := fun A s hh hm => by
    have hlx : ∃ o, s.heap.get? D = some o := let ⟨o, e, _⟩ := hm; ⟨o, e⟩
    have hne : D ≠ s.heap.objs.size := by rintro rfl; obtain ⟨o, e⟩ := hlx; rw [fresh_size] at e; cases e
    have W := It.dict (prog := prog) (w := w) (A := A) (Expr.Name "x" default) hh s.heap.objs.size D hne es ep
    refine ⟨_, fun i h => h.IsKeyIter s.heap.objs.size D i es.size ep ∧ DE h D es ep, fun E Q hq => diter hsys hm hq, ⟨fun b hb => by simp at hb; simp [hb], W.frame, fun i s' Q E hi st hQ => W.item i s' Q E hi st fun v s'' hp st' t => ?_, fun s' Q E st hQ => W.done s' Q E st fun s'' t => ?_, W.self⟩, ⟨⟨_, Heap.get?_push_size _ rfl, rfl, rfl⟩, hm.at fun o e => Heap.get?_push_of_some _ e⟩⟩
    · rw [t.same]; exact hQ v _ _ hp st' t.keep
    · rw [t.same]; exact hQ _ _ t.keep
theorem list_dict {D : Addr} {xs : List (Term × Addr × Value)} {Q : Value → Shared → Prop} (hh : A.handled = none) (hsys : (D == sysModules) = false) (hx : s.heap.DictOfH (tKind prog w) D xs) (hz : xs.length ≤ sizeLine)
    (h : ∀ r s' vs, Up s s' → s'.heap.PlainList r (List.toArray vs) → Tms s'.heap vs (keysOf xs) → Q (.ref r) s') : wpAny (model prog w) A (call (.type "list") [.ref D]) Q E s := by
  obtain ⟨es, ep, hde, hsz, hkey⟩ := dicth_de hx
  refine kdl_call (src_dict (ep := ep) (es := es) hsys) hh hde (by omega) fun h' tk acc' c' hk hD hacc => ?_
  have u : Up s { s with heap := h', toks := tk } := Up.mk' hk
  refine h _ _ acc'.toList u ⟨c', by rw [Array.toArray_toList]; exact hD⟩ ?_
  have hlen : acc'.toList.length = xs.length := by rw [Array.length_toList, hacc.1, hsz]
  have key : ∀ (vs : List Value) (ys : List (Term × Addr × Value)), vs.length = ys.length → (∀ y ∈ ys, Tm h' (.ref y.2.1) y.1) → (∀ (i : Nat) (v : Value), vs[i]? = some v → ∃ y, ys[i]? = some y ∧ v = .ref y.2.1) → Tms h' vs (ys.map (·.1)) := by
    intro vs
    induction vs with
    | nil => intro ys hl _ _; cases ys with
      | nil => exact RdAll.nil
      | cons => simp at hl
    | cons v vs ih => intro ys hl h1 h2; cases ys with
      | nil => simp at hl
      | cons y ys =>
        obtain ⟨y', e, rfl⟩ := h2 0 v rfl
        simp at e; subst e
        exact RdAll.cons (h1 y (.head _)) (ih ys (by simpa using hl) (fun z hz => h1 z (.tail _ hz)) fun i u hu => by simpa using h2 (i + 1) u (by simpa using hu))
  obtain ⟨_, _, _, _, _, _, _, his, _⟩ := hx
  exact key _ xs hlen (fun y hy => (his y hy).1.up u.tup) fun i v hv => hkey i v (hacc.2 i v (by rw [← Array.getElem?_toList]; exact hv))
end
end Mine
end
section
set_option maxRecDepth 100000
set_option maxHeartbeats 1000000
set_option linter.constructorNameAsVariable false
set_option linter.unusedVariables false
open PySem PySem.W PyProof.Rows PySem.Calls PySem.Spec
namespace Mine
noncomputable def bodyOf (K : Frag) (f : Addr) : List Stmt := match K.lookup f with
  | some ⟨_, _, .func fd, _⟩ => (match fd.body with | .stmts b => b | _ => [])
  | _ => []
noncomputable def scopeOf (K : Frag) (f : Addr) : Option Scope := match K.lookup f with
  | some ⟨_, _, .func fd, _⟩ => some fd.scope
  | _ => none
theorem law_open {M : Model} {w : World} {A : Around} {E : Value → Shared → Prop} {Q : Flow → Shared → Prop} {s : Shared} {L fa : Addr} {cd : Value} {qn : Str} {sc : Scope}
    {name qual : Str} {params : Arguments} {body : List Stmt} {scope : Scope} {dV kV doc pm cdv ct oc : Value} {an od : Option Addr} {osl : Array (Option Value)}
    (ho : (Kf w).lookup 178 = some ⟨oc, od, .func (fnOf name qual params body scope dV kV doc pm an cdv ct), osl⟩) (hsc : scopeOf (Kf w) 178 = some sc)
    (h : wpAny M A (execs body (envOfC qn scope L fa cd)) Q E s) : wpAny M A (execs (bodyOf (Kf w) 178) (envOfC qn sc L fa cd)) Q E s := by
  unfold scopeOf at hsc
  unfold bodyOf
  rw [ho] at hsc ⊢
  cases hsc
  exact h

/-- the plain law -/
structure Plain : Prop where
  keeps : ∀ ops t u, PS ops → LawT t → Rch ops t u → LawT u
  few : ∀ ops t (l : List Term), PS ops → LawT t → l.Nodup → (∀ u ∈ l, Rch ops t u) → l.length ≤ 10000
  same : ∀ ops t u, PS ops → LawT t → fit u → (nf ops t = nf ops u ↔ Rch ops t u)
  small : ∀ t, LawT t → t.size ≤ 100 ∧ t.height ≤ 8 ∧ fit t ∧ gok t

section
variable {prog : Program} {w : World} {A : Around} {E : Value → Shared → Prop} {s : Shared}
theorem Gx.fresh {w : World} {X : List Addr} {h : Heap} (x : Gx w [] h) (f : ∀ b ∈ X, h.get? b = none) : Gx w X h := by
  obtain ⟨g, G, k, _⟩ := x
  refine ⟨g, G, k, fun b hb => ?_⟩
  cases e : g.get? b with
  | none => rfl
  | some o => have := k b o e; rw [f b hb] at this; cases this
theorem FeedAt.ne {D c : Addr} {k : Nat} {h : Heap} {x : Addr} {ys : Array Value} (F : FeedAt prog w D c k h) (hx : h.PlainList x ys) : x ≠ D := by
  rintro rfl
  obtain ⟨_, _, _, ⟨o, es, ep, e, _, d, _⟩, _⟩ := F
  obtain ⟨n, e'⟩ := hx
  rw [e] at e'; cases e'; cases d
theorem k_131 (w : World) : keepIn (Kf w) (.ref 131) = true := by rfl
theorem lslice {value : Expr} {upper : Expr} {p pos : Pos} {k : Nat} {Q : Value → Shared → Prop} {env : Env}
    (h : wpAny (model prog w) A (eval value env) (fun o s₁ => wpAny (model prog w) A (eval upper env) (fun u s₂ => ∃ l vs ns tk, o = .ref l ∧ u = .int (k : Nat) tk ∧ s₂.heap.IsList l (List.toArray vs) ∧ IntsAre vs ns ∧ vs.length ≤ sizeLine ∧
      ∀ r s' ws, Up s₂ s' → s'.heap.IsList r (List.toArray ws) → IntsAre ws (ns.take k) → Q (.ref r) s') E s₁) E s)
    (hs : ∀ t i, subscripted (.Slice none (some upper) none p) false (.ref t) (.ref i) = operate [.ref i, .ref t] (getItem (.ref t) (.ref i)) := by intro _ _; with_unfolding_all rfl)
    (ht : ∀ l r, letTemporaryGo value (.ref l) r = pure () := by intro _ _; with_unfolding_all rfl) :
    wpAny (model prog w) A (eval (.Subscript value (.Slice none (some upper) none p) pos) env) Q E s := by
  refine Subscript_ (wpQ h fun o s₁ h₁ => wpAny_Slice (evp_none (evp_some (wpQ h₁ fun u s₂ h₂ => evp_none ?_))))
  obtain ⟨l, vs, ns, tk, rfl, rfl, hl, hI, hz, hq⟩ := h₂
  refine slice_listK hl .none (.int _ _) ?_ (hs _ _) (ht l) (by simpa using hz)
  have hw := kmk_upto hI (y := ((k : Nat) : Int)) (by omega)
  have ek : ((k : Nat) : Int).toNat = k := by simp
  rw [ek] at hw
  refine hq _ _ (slicePick vs.toArray none (some ((k : Nat) : Int)) none).toList (Up.mk' (tk := s₂.toks) fun b o e => Heap.get?_push_of_some _ (Heap.get?_push_of_some _ e)) ?_ hw
  rw [Array.toArray_toList]
  have := Heap.get?_push_size (s₂.heap.push { cls := .type "slice", data := .fields #[.none, .int ((k : Nat) : Int) tk, .none] }) (o := { cls := .type "list", data := .seq (slicePick vs.toArray none (some ((k : Nat) : Int)) none) }) rfl
  rw [Heap.size_push] at this
  exact ⟨_, this, rfl, _, rfl⟩
theorem list_copy {l : Addr} {vs : List Value} {Q : Value → Shared → Prop} (hl : s.heap.IsList l vs.toArray) (hz : vs.length ≤ sizeLine)
    (h : ∀ r s', Up s s' → s.heap.get? r = none → s'.heap.PlainList r vs.toArray → Q (.ref r) s') : wpAny (model prog w) A (call (.type "list") [.ref l]) Q E s := by
  obtain ⟨o, ho, hc, n, hd⟩ := hl
  refine call_list_seq l (.inl rfl) ho hc hd (fun h' c' hk hD => ?_) (by simpa using hz)
  exact h _ _ (Up.mk' (tk := s.toks) hk) (fresh_size _) ⟨c', hD⟩
theorem is_not {a b : Bool} {Q : Value → Shared → Prop} (h : Q (.bool (decide (a ≠ b))) s) : wpAny (model prog w) A (compareOp .IsNot (.bool a) (.bool b)) Q E s := by
  refine wpAny_isNot_plain rfl ?_
  have e : (!((Value.bool a) == (Value.bool b))) = decide (a ≠ b) := by cases a <;> cases b <;> decide
  rw [e]; exact h
theorem llast {value slice : Expr} {pos : Pos} {Q : Value → Shared → Prop} {env : Env}
    (h : wpAny (model prog w) A (eval value env) (fun o s₁ => wpAny (model prog w) A (eval slice env) (fun i s₂ => ∃ t vs v tk, o = .ref t ∧ i = .int (-1) tk ∧ s₂.heap.IsList t (List.toArray (vs ++ [v])) ∧ (vs ++ [v]).length ≤ sizeLine ∧ Q v s₂) E s₁) E s)
    (hs : ∀ t k u, subscripted slice false (.ref t) (.int k u) = operate [.ref t, .int k u] (getItem (.ref t) (.int k u)) := by intro _ _ _; with_unfolding_all rfl) :
    wpAny (model prog w) A (eval (.Subscript value slice pos) env) Q E s := by
  refine Subscript_ (wpQ h fun o s₁ h₁ => wpQ h₁ fun i s₂ h₂ => ?_)
  obtain ⟨t, vs, v, tk, rfl, rfl, ht, hz, hq⟩ := h₂
  refine tail_any ht.typeIs slot_list_getitem.lookup (wpAny_getItem_list_neg ht (by decide) (by simp; omega) (by decide) (x := v) ?_ hq) (hs _ _ _)
  have e : ((-1 : Int) + ((vs ++ [v]).toArray.size : Nat)).toNat = vs.length := by simp; omega
  rw [e]; simp

theorem two_cells {s₀ s : Shared} {L : Addr} {v1 v2 : Option Value} (h1 : s.heap.IsCell (L + 1) v1) (h2 : s.heap.IsCell (L + 2) v2) :
    Cl L [("bags", L + 2), ("t", L + 1)] s.heap (fun y => if y = "bags" then v2 else if y = "t" then v1 else none) := by
  refine ⟨fun n c e => ?_, by simp, fun n c h => ?_⟩
  · simp only [List.lookup_cons, List.lookup_nil] at e
    by_cases hb : n = "bags"
    · subst hb
      have : c = L + 2 := by simpa using e.symm
      subst this; simpa using h2
    · have hb' : (n == "bags") = false := by simpa using hb
      rw [hb'] at e
      by_cases ht : n = "t"
      · subst ht
        have : c = L + 1 := by simpa using e.symm
        subst this; simpa [hb] using h1
      · have ht' : (n == "t") = false := by simpa using ht
        rw [ht'] at e; cases e
  · simp at h
    rcases h with ⟨_, rfl⟩ | ⟨_, rfl⟩
    · exact Nat.lt_succ_of_lt (Nat.lt_succ_self _)
    · exact Nat.lt_succ_self _

theorem law_walk (P : Plain) {s₀ : Shared} {L fa sl : Addr} {cd : Value} {qn : Str} {sc : Scope} {vs : List Value} {ns : List Int} {Q : Flow → Shared → Prop} (hsc : scopeOf (Kf w) 178 = some sc)
    (C : Cx [] s₀ L (fun y => if y = "script" then some (.ref sl) else none) s) (h1 : s.heap.IsCell (L + 1) none) (h2 : s.heap.IsCell (L + 2) none) (hf1 : s₀.heap.get? (L + 1) = none) (hf2 : s₀.heap.get? (L + 2) = none)
    (G : Gx w [] s₀.heap) (hl : s.heap.IsList sl vs.toArray) (hI : IntsAre vs ns) (hlen : ns.length ≤ 63) (hh : A.handled = none) (hd : A.depth + 60 < recursionLimit) (hu : A.units + 1000 < cLine)
    (h : ∀ s', Up s₀ s' → Q (.ret (.bool true)) s') : wpAny (model prog w) A (execs (bodyOf (Kf w) 178) (envOfC qn sc L fa cd)) Q E s := by
  have hsl : 1000000 ≤ sizeLine := by rw [PySem.sizeLine_eq]; decide
  have hvl : vs.length = ns.length := hI.length
  refine law_open (by exact rfl) hsc ?_
  clear hsc
  have Y₀ := two_cells (s₀ := s₀) h1 h2
  have G₁ : Gx w [] s.heap := G.up C.tr
  -- feed
  refine wpAny_execs_cons ?_
  refine wpAny_Assign_Name ?_
  refine dict2 (X := []) G₁ (by decide) (fun D s₁ u₁ hDn hDs hDe => ?_) (by exact rfl)
  have C₁ := C.up u₁
  refine callT (G.up C₁.tr) (g_list w) PyProof.Rows.boot_list (by decide) ?_
  refine wpAny_items_cons ?_
  refine lslice (k := 30) (nm C₁ (by exact rfl) (ci fun t2 s₂ u₂ => ?_))
  have C₂ := C₁.up u₂
  refine ⟨sl, vs, ns, t2, rfl, rfl, IsList.at hl fun o e => (u₁.trans u₂).le _ _ e, hI, by omega, fun r3 s₃ ws u₃ h3 hw3 => ?_⟩
  refine wpAny_items_nil ?_
  have hwl : ws.length ≤ 30 := by rw [hw3.length, List.length_take]; omega
  refine list_copy h3 (by omega) fun c s₄ u₄ hcn hc => ?_
  have u14 := (u₂.trans u₃).trans u₄
  refine ⟨u14, fun s₅ u₅ => ?_⟩
  refine ci fun t6 s₆ u₆ => ?_
  refine ⟨u₆, fun s₇ u₇ tle₇ keep₇ hD => ?_⟩
  have hDs₀ : s₀.heap.get? D = none := fresh_of C.tr hDn
  have hcs₀ : s₀.heap.get? c = none := fresh_of (((C₁.up u₂).up u₃).tr) hcn
  have hcD : c ≠ D := by
    rintro rfl
    obtain ⟨o, e⟩ := hDe
    rw [(u₂.trans u₃).le _ _ e] at hcn; cases hcn
  have C₇ := C.up u₇
  have hc₇ : s₇.heap.PlainList c ws.toArray := hc.at fun o e => keep₇ c o hcD ((u₅.trans u₆).le _ _ e)
  have F₇ : FeedAt prog w D c 0 s₇.heap := ⟨ws, _, _, hD, hc₇, hw3, hwl⟩
  have G2 : Gx w [D, c] s₀.heap := G.fresh (by intro b hb; simp at hb; rcases hb with rfl | rfl; exact hDs₀; exact hcs₀)
  have hDL : D ≠ L := by rintro rfl; obtain ⟨o, es, k, e, _⟩ := C.ns; rw [hDn] at e; cases e
  have hcL : c ≠ L := plain_ne_ns hc₇ C₇.ns
  have hDL1 : D ≠ L + 1 := by rintro rfl; obtain ⟨o, e, _⟩ := h1; rw [hDn] at e; cases e
  have hDL2 : D ≠ L + 2 := by rintro rfl; obtain ⟨o, e, _⟩ := h2; rw [hDn] at e; cases e
  have hcL1 : c ≠ L + 1 := by rintro rfl; obtain ⟨o, e, _⟩ := IsCell.up h1 ((u₁.trans u₂).trans u₃).le; rw [hcn] at e; cases e
  have hcL2 : c ≠ L + 2 := by rintro rfl; obtain ⟨o, e, _⟩ := IsCell.up h2 ((u₁.trans u₂).trans u₃).le; rw [hcn] at e; cases e
  have Y₇ := cl_up Y₀ u₇
  clear hD hc keep₇ tle₇ hcn hDe
  refine st C₇ fun s₈ t₈ C₈ => ?_
  have F₈ := F₇.step t₈ (by simpa using hDL) (by simpa using hcL)
  have Y₈ := cl_tr Y₇ t₈ (by simp)
  have stepX : ∀ {m s s'}, Cx [] s₀ L m s → Tr [D, c] s s' → Cx [] s₀ L m s' := fun x t => x.step t (by intro b hb; simp at hb; rcases hb with rfl | rfl; exact ⟨.inl hDs₀, hDL⟩; exact ⟨.inl hcs₀, hcL⟩)
  have cellX : ∀ {s s' : Shared} {cm}, Cl L [("bags", L + 2), ("t", L + 1)] s.heap cm → Tr [D, c] s s' → Cl L [("bags", L + 2), ("t", L + 1)] s'.heap cm := fun x t => by
    refine ⟨fun n cc e => IsCell.tr (x.cell n cc e) t ?_, x.apart, x.above⟩
    have hcc : cc = L + 2 ∨ cc = L + 1 := by
      simp only [List.lookup_cons, List.lookup_nil] at e
      split at e
      · left; cases e; rfl
      · split at e
        · right; cases e; rfl
        · cases e
    simp
    rcases hcc with rfl | rfl
    · exact ⟨Ne.symm hDL2, Ne.symm hcL2⟩
    · exact ⟨Ne.symm hDL1, Ne.symm hcL1⟩
  -- t
  refine wpAny_execs_cons ?_
  refine wpAny_Assign_Name ?_
  refine callN (G2.up C₈.tr) (g_term w) (k_154 w) ?_
  refine wpAny_items_cons ?_
  refine nm C₈ (by exact rfl) ?_
  refine wpAny_items_nil ⟨(G2.up C₈.tr).gd.K, ?_⟩
  refine term_ok (X := [D, c]) (G2.up C₈.tr) (by simp) F₈ (by omega) hh (by omega) fun tv s₉ t k₁ t₉ F₉ hk₁ htv hLaw => ?_
  have C₉ := stepX C₈ t₉
  have Y₉ := cellX Y₈ t₉
  refine stc (c := L + 1) C₉ Y₉ hf1 (fun s₁₀ t₁₀ C₁₀ Y₁₀ => ?_) (by exact rfl) (by exact rfl) (by exact rfl) (by exact rfl)
  have F₁₀ := F₉.step t₁₀ (by simpa using hDL1) (by simpa using hcL1)
  have ht₁₀ := htv.up t₁₀.tup
  have hct₁₀ : s₁₀.heap.IsCell (L + 1) (some tv) := by have := Y₁₀.cell "t" (L + 1) (by exact rfl); simpa using this
  obtain ⟨hsz, hht, hfit, hgok⟩ := P.small t hLaw
  -- ops
  refine wpAny_execs_cons ?_
  refine wpAny_Assign_Name ?_
  refine lidx ?_
  refine listD ?_
  refine wpAny_items_cons ?_
  refine listD ?_
  refine wpAny_items_cons ?_
  refine ct fun t11 s₁₁ u₁₁ => ?_
  refine wpAny_items_nil ⟨by simp; omega, fun l1 s₁₂ u₁₂ _ hl1 => ?_⟩
  refine wpAny_items_cons ?_
  refine listD ?_
  refine wpAny_items_nil ⟨by simp, fun l2 s₁₃ u₁₃ _ hl2 => ?_⟩
  refine wpAny_items_cons ?_
  refine listD ?_
  refine wpAny_items_cons ?_
  refine ct fun t14 s₁₄ u₁₄ => ?_
  refine wpAny_items_cons ?_
  refine ct fun t15 s₁₅ u₁₅ => ?_
  refine wpAny_items_nil ⟨by simp; omega, fun l3 s₁₆ u₁₆ _ hl3 => ?_⟩
  refine wpAny_items_nil ⟨by simp; omega, fun l4 s₁₇ u₁₇ _ hl4 => ?_⟩
  have u1217 : Up s₁₂ s₁₇ := (((u₁₃.trans u₁₄).trans u₁₅).trans u₁₆).trans u₁₇
  have u1317 : Up s₁₃ s₁₇ := ((u₁₄.trans u₁₅).trans u₁₆).trans u₁₇
  have u1017 : Up s₁₀ s₁₇ := (u₁₁.trans u₁₂).trans u1217
  have C₁₇ := C₁₀.up u1017
  refine callN (G2.up C₁₇.tr) (g_draw w) (k_142 w) ?_
  refine wpAny_items_cons ?_
  refine nm C₁₇ (by exact rfl) ?_
  refine wpAny_items_cons ?_
  refine ci fun t18 s₁₈ u₁₈ => ?_
  have C₁₈ := C₁₇.up u₁₈
  have u1018 := u1017.trans u₁₈
  refine wpAny_items_nil ⟨(G2.up C₁₈.tr).gd.K, ?_⟩
  refine draw_ok (X := [D, c]) (c := c) (G2.up C₁₈.tr) (by simp) (F₁₀.up u1018) (by omega) (by decide) hh (by omega) fun t19 s₁₉ r t₁₉ F₁₉ hr => ?_
  have C₁₉ := stepX C₁₈ (t₁₉.mono (by simp))
  have Y₁₉ := cellX (cl_up Y₁₀ u1018) (t₁₉.mono (by simp))
  have F₁₈ := F₁₀.up u1018
  have keepL : ∀ {x ys}, s₁₈.heap.PlainList x ys → s₁₉.heap.PlainList x ys := fun hx => hx.at fun o e => t₁₉.keep _ o (by simpa using F₁₈.ne hx) e
  have hl1' := keepL (hl1.at fun o e => (u1217.trans u₁₈).le _ _ e)
  have hl2' := keepL (hl2.at fun o e => (u1317.trans u₁₈).le _ _ e)
  have hl3' := keepL (hl3.at fun o e => (u₁₇.trans u₁₈).le _ _ e)
  have hl4' := keepL (hl4.at fun o e => u₁₈.le _ _ e)
  have key : ∃ ol ops, [Value.ref l1, Value.ref l2, Value.ref l3][r]? = some (.ref ol) ∧ (∃ os, s₁₉.heap.PlainList ol (List.toArray os) ∧ os.length ≤ 2 ∧ RdAll s₁₉.heap os (ops.map fun (x : Lab) => .str x.str)) ∧ PS ops := by
    have hr3 : r < 3 := by omega
    match r, hr3 with
    | 0, _ => exact ⟨l1, [.p], rfl, ⟨_, hl1', by simp, RdAll.cons (Rd.str _ _) RdAll.nil⟩, by intro l h; simp at h; exact .inl h⟩
    | 1, _ => exact ⟨l2, [], rfl, ⟨_, hl2', by simp, RdAll.nil⟩, by intro l h; simp at h⟩
    | 2, _ => exact ⟨l3, [.p, .s], rfl, ⟨_, hl3', by simp, RdAll.cons (Rd.str _ _) (RdAll.cons (Rd.str _ _) RdAll.nil)⟩, by intro l h; simpa using h⟩
  obtain ⟨ol, ops, hol, ⟨os, hos, hosl, hosr⟩, hps⟩ := key
  refine ⟨l4, _, r, t19, .ref ol, rfl, rfl, hl4'.isList, hol, by simp; omega, ?_⟩
  clear hl1 hl2 hl3 hl4 hl1' hl2' hl3' hl4' keepL
  refine st C₁₉ fun s₂₀ t₂₀ C₂₀ => ?_
  have F₂₀ := F₁₉.step t₂₀ (by simpa using hDL) (by simpa using hcL)
  have Y₂₀ := cl_tr Y₁₉ t₂₀ (by simp)
  have holL : ol ≠ L := plain_ne_ns hos C₁₉.ns
  have hos₂₀ : s₂₀.heap.PlainList ol os.toArray := hos.at fun o e => t₂₀.keep _ o (by simpa using holL) e
  have ht₂₀ : Tm s₂₀.heap tv t := ht₁₀.up (u1018.tup.trans (t₁₉.tup.trans t₂₀.tup))
  have hct₂₀ : s₂₀.heap.IsCell (L + 1) (some tv) := by have := Y₂₀.cell "t" (L + 1) (by exact rfl); simpa using this
  -- bags, reached
  refine wpAny_execs_cons ?_
  refine Assign_Tuple ?_ (by exact rfl) (by exact rfl)
  refine tupleD ?_
  refine wpAny_items_cons ?_
  refine callN (G2.up C₂₀.tr) (g_Bags w) (k_131 w) ?_
  refine wpAny_items_cons ?_
  refine callT (G2.up C₂₀.tr) (g_list w) PyProof.Rows.boot_list (by decide) ?_
  refine wpAny_items_cons ?_
  refine nm C₂₀ (by exact rfl) ?_
  refine wpAny_items_nil ?_
  refine list_copy hos₂₀.isList (by omega) fun l5 s₂₁ u₂₁ hl5n hl5 => ?_
  have C₂₁ := C₂₀.up u₂₁
  refine wpAny_items_nil ⟨(G2.up C₂₁.tr).gd.K, ?_⟩
  refine bags_ok (X := [D, c]) (G2.up C₂₁.tr) (by omega) fun b s₂₂ u₂₂ hb => ?_
  have u2022 := u₂₁.trans u₂₂
  have C₂₂ := C₂₁.up u₂₂
  refine wpAny_items_cons ?_
  refine callN (G2.up C₂₂.tr) (g_reached w) (k_166 w) ?_
  refine wpAny_items_cons ?_
  refine nmC (IsCell.up hct₂₀ u2022.le) ?_ (by exact rfl) (by exact rfl) (by exact rfl)
  refine wpAny_items_cons ?_
  refine nm C₂₂ (by exact rfl) ?_
  refine wpAny_items_nil ⟨(G2.up C₂₂.tr).gd.K, ?_⟩
  have hO₂₂ : OpsAt s₂₂.heap ol ops := ⟨os, (hos₂₀.at fun o e => u2022.le _ _ e).isList, hosr.up (t₂₀.tup.trans u2022.tup)⟩
  refine reached_ok (X := [D, c]) (t := t) (N := 10000) (G2.up C₂₂.tr) hO₂₂ (ht₂₀.up u2022.tup) hh (by omega) (by omega) (fun u hu' => by
    have := P.small u (P.keeps ops t u hps hLaw hu')
    exact ⟨by omega, this.2.1⟩) (fun l hl hl' => P.few ops t l hps hLaw hl hl') (by decide) fun R s₂₃ xs u₂₃ hRn hRs hR hkeys => ?_
  have u2023 := u2022.trans u₂₃
  have C₂₃ := C₂₂.up u₂₃
  refine wpAny_items_nil ⟨by simp; omega, fun T s₂₄ u₂₄ _ hT => ?_⟩
  have C₂₄ := C₂₃.up u₂₄
  have u2024 := u2023.trans u₂₄
  refine unpack2 hh hT fun s₂₅ u₂₅ => ?_
  have C₂₅ := C₂₄.up u₂₅
  have u2025 := u2024.trans u₂₅
  refine wpAny_assign_Name ?_
  refine stc (c := L + 2) C₂₅ (cl_up Y₂₀ u2025) hf2 (fun s₂₆ t₂₆ C₂₆ Y₂₆ => ?_) (by exact rfl) (by exact rfl) (by exact rfl) (by exact rfl)
  refine wpAny_assign_Name ?_
  refine st C₂₆ fun s₂₇ t₂₇ C₂₇ => ?_
  have t2527 : Tr [L + 2, L] s₂₅ s₂₇ := (t₂₆.mono (by simp)).trans (t₂₇.mono (by simp))
  have old : ∀ x ∈ [L + 2, L, D, c], ∃ o, s₂₀.heap.get? x = some o := by
    intro x hx
    simp at hx
    rcases hx with rfl | rfl | rfl | rfl
    · obtain ⟨o, e, _⟩ := Y₂₀.cell "bags" (L + 2) (by exact rfl); exact ⟨o, e⟩
    · obtain ⟨o, es, k, e, _⟩ := C₂₀.ns; exact ⟨o, e⟩
    · exact F₂₀.ex.1
    · exact F₂₀.ex.2
  have Z₂₇ : Tr [L + 2, L, D, c] s₂₃ s₂₇ := (Up.to (u₂₄.trans u₂₅) _).trans (t2527.mono (by simp))
  have F₂₇ : FeedAt prog w D c (k₁ + 1) s₂₇.heap := (F₂₀.up u2025).step t2527 (by simp; exact ⟨hDL2, hDL⟩) (by simp; exact ⟨hcL2, hcL⟩)
  have hcb₂₇ : s₂₇.heap.IsCell (L + 2) (some (.ref b)) := by
    refine IsCell.tr ?_ t₂₇ (by simp)
    have := Y₂₆.cell "bags" (L + 2) (by exact rfl); simpa using this
  have zT : ∀ {s'}, Tr [L + 2, L, D, c] s₂₃ s' → Tm s'.heap tv t := fun z => ht₂₀.up (u2023.tup.trans z.tup)
  have zB : ∀ {s'}, Tr [L + 2, L, D, c] s₂₃ s' → BagAt s'.heap b l5 := fun z => hb _ _ ((Up.to u₂₃ _).trans z) fun x hx => let ⟨o, e⟩ := old x hx; ⟨o, u₂₁.le _ _ e⟩
  have hl5W : l5 ∉ [L + 2, L, D, c] := fun q => by obtain ⟨o, e⟩ := old _ q; rw [hl5n] at e; cases e
  have zO : ∀ {s'}, Tr [L + 2, L, D, c] s₂₃ s' → OpsAt s'.heap l5 ops := fun z => ⟨os, (hl5.at fun o e => z.keep _ o hl5W ((u₂₂.trans u₂₃).le _ _ e)).isList, hosr.up (t₂₀.tup.trans (u2023.tup.trans z.tup))⟩
  have hRW : R ∉ [L + 2, L, D, c] := fun q => by obtain ⟨o, e⟩ := old _ q; rw [u2022.le _ _ e] at hRn; cases hRn
  have zR : ∀ {s'}, Tr [L + 2, L, D, c] s₂₃ s' → s'.heap.DictOfH (tKind prog w) R xs := fun z => dicth_at hR (fun o e => z.keep _ o hRW e) z.tup
  have zc : ∀ {s'}, Tr [L + 2, L, D, c] s₂₃ s' → s'.heap.IsCell (L + 1) (some tv) := fun z => IsCell.tr (IsCell.up hct₂₀ u2023.le) z (by simp; exact ⟨Ne.symm hDL1, Ne.symm hcL1⟩)
  have hxl : xs.length ≤ 10000 := by
    have := P.few ops t (keysOf xs) hps hLaw (dicth_nodup hR) fun u hu' => (hkeys u).mp hu'
    simpa [keysOf] using this
  have hkn : ∀ u, u ∈ keysOf xs → LawT u := fun u hu' => P.keeps ops t u hps hLaw ((hkeys u).mp hu')
  have hdec : ∀ u, fit u → decide (nf ops t = nf ops u) = decide (u ∈ keysOf xs) := fun u hu' => decide_eq_decide.mpr ((P.same ops t u hps hLaw hu').trans (hkeys u).symm)
  -- none of the reached ones is unlike
  refine wpAny_execs_cons ?_
  refine wpAny_If ?_
  refine wpAny_isTrue_Compare1 ?_
  refine comp1G (cl := [("t", L + 1), ("bags", L + 2)]) hh (by exact rfl) (by decide) (by exact rfl) (by decide) (by intro _; rfl) ?_
  refine nm C₂₇ (by exact rfl) ?_
  refine ⟨[], fun _ ys _ => ys = [], xs.length, _, ⟨Opens.src (opens_dict (by exact hh) hRs (zR Z₂₇) (by simp)), by omega, by simp, fun _ _ _ _ _ _ _ f => f, rfl, ?_⟩, fun D₁ ys s₂₈ hD₁n u₂₈ hD₁ f₂₈ => ?_⟩
  · rintro Cc hCc i v ys sa ma hi ⟨y, hy, rfl⟩ ta na rfl
    have Ca : Cx [] s₂₇ Cc ma sa := ⟨ta, na, hCc⟩
    have hym : y.1 ∈ keysOf xs := List.mem_map.mpr ⟨y, List.mem_of_getElem? hy, rfl⟩
    obtain ⟨ysz, yht, yfit, _⟩ := P.small y.1 (hkn y.1 hym)
    refine wpAny_assign_Name ?_
    refine st Ca fun sb tb Cb => ?_
    have ub : Up s₂₇ sb := Cb.tr
    have Zb := Z₂₇.trans (Up.to ub _)
    have Gb : Gx w [D, c] sb.heap := (G2.up C₂₇.tr).up ub
    have hyT : Tm sb.heap (.ref y.2.1) y.1 := by
      obtain ⟨_, _, _, _, _, _, _, his, _⟩ := zR Zb
      exact (his y (List.mem_of_getElem? hy)).1
    refine wpAny_tests_one ?_
    refine isTrue_not ?_
    refine isTrue_plain ?_
    refine methN (X := [D, c]) (m_like w) (t_79 w) (k_79 w) sh_like (nmC (IsCell.up hcb₂₇ ub.le) ⟨b, l5, rfl, zB Zb, Gb, ?_⟩ (by exact rfl) (by exact rfl) (by exact rfl)) _ (by exact rfl) (by exact rfl) (by exact rfl)
    refine wpAny_items_cons ?_
    refine nmC (zc Zb) ?_ (by exact rfl) (by exact rfl) (by exact rfl)
    refine wpAny_items_cons ?_
    refine nm Cb (by exact rfl) ?_
    refine wpAny_items_nil ⟨Gb.gd.K, ?_⟩
    refine like_ok (X := [D, c]) (T := t) (U := y.1) Gb (zB Zb) (zO Zb) (zT Zb) hyT hh (by omega) (by omega) (by omega) (by omega) (by omega) (by omega) hfit yfit hps fun sc uc => ?_
    refine wpAny_truthy_bool ?_
    rw [hdec y.1 yfit, decide_eq_true hym]
    simp only [Bool.not_true, Bool.false_eq_true, if_false]
    exact ⟨tb.trans (Up.to uc _), ⟨_, (Cb.up uc).ns⟩, rfl⟩
  subst f₂₈
  refine listD ?_
  refine wpAny_items_nil ⟨by simp, fun b2 s₂₉ u₂₉ _ hb2 => ?_⟩
  refine lne_nil (ys := []) (hD₁.at fun o e => u₂₉.le _ _ e).isList hb2.isList (by omega) ?_
  refine wpAny_truthy_bool ?_
  simp only [List.isEmpty_nil, Bool.not_true, Bool.false_eq_true, if_false]
  refine wpAny_execs_nil ?_
  have u2729 := Tr.trans u₂₈ u₂₉
  have C₂₉ := C₂₇.up u2729
  have F₂₉ := F₂₇.up u2729
  have Z₂₉ := Z₂₇.trans (Up.to u2729 _)
  have hcb₂₉ := IsCell.up hcb₂₇ u2729.le
  clear hD₁ C₂₇ F₂₇ Z₂₇ hcb₂₇
  have okT : ∀ T U, LawT T → Mine.same T U → fit U ∧ U.size ≤ 100 ∧ U.height ≤ 8 := fun T U hT hU => by
    obtain ⟨q1, q2, q3, q4⟩ := P.small T hT
    obtain ⟨r1, r2, r3, r4⟩ := hU
    exact ⟨r4 q3, by omega, by omega⟩
  have zX : ∀ {s' s''}, Tr [L + 2, L, D, c] s₂₃ s' → Tr [D, c] s' s'' → Tr [L + 2, L, D, c] s₂₃ s'' := fun z t => z.trans (t.mono (by simp))
  have bX : ∀ {s' s''}, s'.heap.IsCell (L + 2) (some (.ref b)) → Tr [D, c] s' s'' → s''.heap.IsCell (L + 2) (some (.ref b)) := fun z t => IsCell.tr z t (by simp; exact ⟨Ne.symm hDL2, Ne.symm hcL2⟩)
  -- others
  refine wpAny_execs_cons ?_
  refine wpAny_Assign_Name ?_
  refine listD ?_
  refine wpAny_items_cons ?_
  have G₂₉ := G2.up C₂₉.tr
  refine callN G₂₉ (g_bent w) (k_173 w) ?_
  refine wpAny_items_cons ?_
  refine nm C₂₉ (by exact rfl) ?_
  refine wpAny_items_cons ?_
  refine nmC (zc Z₂₉) ?_ (by exact rfl) (by exact rfl) (by exact rfl)
  refine wpAny_items_nil ⟨G₂₉.gd.K, ?_⟩
  refine bent_ok t _ _ s₂₉ [D, c] D c (k₁ + 1) tv _ G₂₉ (by simp) F₂₉ (by omega) (zT Z₂₉) hh (by omega) (by omega) (by omega) hgok fun v1 s₃₀ U1 k₂ t₃₀ F₃₀ hk₂ hv1 hU1 => ?_
  have T₃₀ : Tr [D, c] s₂₉ s₃₀ := t₃₀.mono (by simp)
  have C₃₀ := stepX C₂₉ T₃₀
  have Z₃₀ := zX Z₂₉ T₃₀
  have G₃₀ := G2.up C₃₀.tr
  refine wpAny_items_cons ?_
  refine callN G₃₀ (g_bent w) (k_173 w) ?_
  refine wpAny_items_cons ?_
  refine nm C₃₀ (by exact rfl) ?_
  refine wpAny_items_cons ?_
  refine nmC (zc Z₃₀) ?_ (by exact rfl) (by exact rfl) (by exact rfl)
  refine wpAny_items_nil ⟨G₃₀.gd.K, ?_⟩
  refine bent_ok t _ _ s₃₀ [D, c] D c k₂ tv _ G₃₀ (by simp) F₃₀ (by omega) (zT Z₃₀) hh (by omega) (by omega) (by omega) hgok fun v2 s₃₁ U2 k₃ t₃₁ F₃₁ hk₃ hv2 hU2 => ?_
  have T₃₁ : Tr [D, c] s₃₀ s₃₁ := t₃₁.mono (by simp)
  have C₃₁ := stepX C₃₀ T₃₁
  have Z₃₁ := zX Z₃₀ T₃₁
  have G₃₁ := G2.up C₃₁.tr
  refine wpAny_items_cons ?_
  refine callN G₃₁ (g_bent w) (k_173 w) ?_
  refine wpAny_items_cons ?_
  refine nm C₃₁ (by exact rfl) ?_
  refine wpAny_items_cons ?_
  refine llast ?_
  refine callT G₃₁ (g_list w) PyProof.Rows.boot_list (by decide) ?_
  refine wpAny_items_cons ?_
  refine nm C₃₁ (by exact rfl) ?_
  refine wpAny_items_nil ?_
  refine list_dict hh hRs (zR Z₃₁) (by omega) fun l6 s₃₂ ks u₃₂ hl6 hks => ?_
  refine wpAny_UnaryOp ?_
  refine ci fun t33 s₃₃ u₃₃ => ?_
  refine neg_int ?_
  have u34 : Up s₃₃ { s₃₃ with toks := s₃₃.toks + 1 } := Up.tok
  revert u34
  generalize s₃₃.toks = tk33
  generalize ({ s₃₃ with toks := tk33 + 1 } : Shared) = s₃₄
  intro u₃₄
  have hkl := Tms.len hks
  have hkne : keysOf xs ≠ [] := by
    intro q
    have := (hkeys t).mpr .refl
    rw [q] at this; cases this
  obtain ⟨ks1, lk, hks1⟩ : ∃ ks1 u, keysOf xs = ks1 ++ [u] := ⟨(keysOf xs).dropLast, (keysOf xs).getLast hkne, (List.dropLast_concat_getLast hkne).symm⟩
  have hvne : ks ≠ [] := by rintro rfl; rw [hks1] at hkl; simp at hkl
  obtain ⟨vs1, lv, hvs1⟩ : ∃ vs1 u, ks = vs1 ++ [u] := ⟨ks.dropLast, ks.getLast hvne, (List.dropLast_concat_getLast hvne).symm⟩
  have hlkm : lk ∈ keysOf xs := by rw [hks1]; simp
  rw [hks1] at hks
  subst hvs1
  have hlk := (Tms.unsnoc hks).2
  have hkz : (keysOf xs).length ≤ 10000 := by simpa [keysOf] using hxl
  have u3134 := (u₃₂.trans u₃₃).trans u₃₄
  have C₃₄ := C₃₁.up u3134
  have Z₃₄ := Z₃₁.trans (Up.to u3134 _)
  have G₃₄ := G2.up C₃₄.tr
  refine ⟨l6, vs1, lv, tk33, rfl, rfl, (hl6.at fun o e => (u₃₃.trans u₃₄).le _ _ e).isList, by omega, ?_⟩
  refine wpAny_items_nil ⟨G₃₄.gd.K, ?_⟩
  obtain ⟨lsz, lht, _, lgok⟩ := P.small lk (hkn lk hlkm)
  refine bent_ok lk _ _ s₃₄ [D, c] D c k₃ lv _ G₃₄ (by simp) (F₃₁.up u3134) (by omega) (hlk.up (u₃₃.trans u₃₄).tup) hh (by omega) (by omega) (by omega) lgok fun v3 s₃₅ U3 k₄ t₃₅ F₃₅ hk₄ hv3 hU3 => ?_
  have T₃₅ : Tr [D, c] s₃₄ s₃₅ := t₃₅.mono (by simp)
  have C₃₅ := stepX C₃₄ T₃₅
  have Z₃₅ := zX Z₃₄ T₃₅
  have G₃₅ := G2.up C₃₅.tr
  refine wpAny_items_cons ?_
  refine callN G₃₅ (g_term w) (k_154 w) ?_
  refine wpAny_items_cons ?_
  refine nm C₃₅ (by exact rfl) ?_
  refine wpAny_items_nil ⟨G₃₅.gd.K, ?_⟩
  refine term_ok (X := [D, c]) G₃₅ (by simp) F₃₅ (by omega) hh (by omega) fun v4 s₃₆ U4 k₅ t₃₆ F₃₆ hk₅ hv4 hU4 => ?_
  have C₃₆ := stepX C₃₅ t₃₆
  have Z₃₆ := zX Z₃₅ t₃₆
  refine wpAny_items_nil ⟨by simp; omega, fun l7 s₃₇ u₃₇ hl7n hl7 => ?_⟩
  have C₃₇ := C₃₆.up u₃₇
  have Z₃₇ := Z₃₆.trans (Up.to u₃₇ _)
  have hcb₃₇ := IsCell.up (bX (bX (IsCell.up (bX (bX hcb₂₉ T₃₀) T₃₁) u3134.le) T₃₅) t₃₆) u₃₇.le
  have tle3037 : TLe s₃₁.heap s₃₇.heap := u3134.tup.trans (T₃₅.tup.trans (t₃₆.tup.trans u₃₇.tup))
  have hus : Tms s₃₇.heap [v1, v2, v3, v4] [U1, U2, U3, U4] :=
    RdAll.cons (hv1.up (T₃₁.tup.trans tle3037)) (RdAll.cons (hv2.up tle3037) (RdAll.cons (hv3.up (t₃₆.tup.trans u₃₇.tup)) (RdAll.cons (hv4.up u₃₇.tup) RdAll.nil)))
  have hgood : ∀ U ∈ [U1, U2, U3, U4], fit U ∧ U.size ≤ 100 ∧ U.height ≤ 8 := by
    intro U hU
    simp at hU
    rcases hU with rfl | rfl | rfl | rfl
    · exact okT t _ hLaw hU1
    · exact okT t _ hLaw hU2
    · exact okT lk _ (hkn lk hlkm) hU3
    · obtain ⟨q1, q2, q3, _⟩ := P.small _ hU4; exact ⟨q3, q1, q2⟩
  generalize [v1, v2, v3, v4] = vals at hl7 hus
  generalize [U1, U2, U3, U4] = terms at hus hgood
  have hl7L : l7 ≠ L := by rintro rfl; obtain ⟨o, es, k, e, _⟩ := C₃₆.ns; rw [hl7n] at e; cases e
  refine st C₃₇ fun s₃₈ t₃₈ C₃₈ => ?_
  have Z₃₈ : Tr [L + 2, L, D, c] s₂₃ s₃₈ := Z₃₇.trans (t₃₈.mono (by simp))
  have hcb₃₈ := IsCell.tr hcb₃₇ t₃₈ (by simp)
  have hl7₃₈ : s₃₈.heap.PlainList l7 vals.toArray := hl7.at fun o e => t₃₈.keep _ o (by simpa using hl7L) e
  have hus₃₈ := hus.up t₃₈.tup
  clear hl7 hus C₃₀ C₃₁ C₃₄ C₃₅ C₃₆ Z₃₀ Z₃₁ Z₃₄ Z₃₅ Z₃₆ F₃₀ F₃₁ F₃₅ F₃₆
  refine wpAny_execs_cons ?_
  refine forG ?_ (by intro _; rfl)
  refine nm C₃₈ (by exact rfl) ?_
  have hll := Tms.len hus₃₈
  refine ⟨[L], vals.length, fun i v => vals[i]? = some v, fun _ s' => (∃ m, Cx [] s₀ L m s' ∧ m "reached" = some (.ref R)) ∧ Tr [L + 2, L, D, c] s₂₃ s' ∧ s'.heap.IsCell (L + 2) (some (.ref b)) ∧ Tms s'.heap vals terms, ?_, ?_, ⟨⟨_, C₃₈, by exact rfl⟩, Z₃₈, hcb₃₈, hus₃₈⟩,
    fun i sa sb u ⟨⟨m, x1, x2⟩, x3, x4, x5⟩ => ⟨⟨m, x1.up u, x2⟩, x3.trans (Up.to u _), IsCell.up x4 u.le, x5.up u.tup⟩, ?_, ?_, ?_⟩
  · have hl7ne : l7 ∉ [L] := by simpa using hl7L
    have q : ∀ (A' : Around) (tg : Expr), A'.handled = none → Opens prog w A' tg [L] vals.length (fun i v => vals[i]? = some v) (.ref l7) s₃₈ := fun A' tg hA => by
      have := opens_list (prog := prog) (w := w) (A := A') (target := tg) (mu := [L]) hA hl7₃₈.isList hl7ne
      simpa using this
    exact q _ _ (by exact hh)
  · intro x hx
    simp at hx; subst hx
    obtain ⟨o, es, k, e, _⟩ := C₃₈.ns; exact ⟨o, e⟩
  · rintro i sa sb I hIf hIn ta ⟨⟨m, x1, x2⟩, x3, x4, x5⟩
    have hI0 : s₀.heap.get? I = none := fresh_of C₃₈.tr hIn
    have x3' : Tr [L + 2, L, D, c] s₂₃ sb := by
      refine ⟨(x3.mono (W' := I :: [L + 2, L, D, c]) (fun _ h => .tail _ h)).trans (ta.mono fun _ h => by simp at h; simp [h]) |>.ev, fun q o hq e => ta.keep q o (fun r => ?_) (x3.keep q o hq e), x3.tup.trans ta.tup⟩
      simp at r
      subst r
      have := Z₃₈.keep _ o hq e
      rw [hIn] at this; cases this
    exact ⟨⟨m, x1.step ta (by intro b hb; simp at hb; subst hb; exact ⟨.inl hI0, fun q => hIf.ne_ns x1.ns q.symm⟩), x2⟩, x3', IsCell.tr x4 ta (by simpa using hIf.ne_cell x4), x5.up ta.tup⟩
  · rintro i lv s₃₉ hi hlv ⟨⟨m, C₃₉, m1⟩, Z₃₉, hcb₃₉, hus₃₉⟩
    obtain ⟨U, hU, hUt⟩ := Tms.at hus₃₉ hlv
    obtain ⟨ufit, usz, uht⟩ := hgood U (List.mem_of_getElem? hU)
    obtain ⟨la, rfl⟩ : ∃ la, lv = .ref la := by
      obtain ⟨x, k⟩ := U
      obtain ⟨a, _, _, e, _⟩ := Tm.open hUt
      exact ⟨a, e⟩
    refine wpAny_assign_Name ?_
    refine st C₃₉ fun s₄₀ t₄₀ C₄₀ => ?_
    have Z₄₀ : Tr [L + 2, L, D, c] s₂₃ s₄₀ := Z₃₉.trans (t₄₀.mono (by simp))
    have hcb₄₀ := IsCell.tr hcb₃₉ t₄₀ (by simp)
    have hUt₄₀ := hUt.up t₄₀.tup
    have G₄₀ := G2.up C₄₀.tr
    have mR : (if (Str.ofString "reached") = Str.ofString "late" then some (Value.ref la) else m "reached") = some (.ref R) := by rw [if_neg (by decide)]; exact m1
    refine wpAny_execs_cons ?_
    refine wpAny_If (wpQ (Q' := fun bb s' => bb = false ∧ Up s₄₀ s') ?_ fun bb s₄₁ h₄₁ => ?_)
    · refine isTrue_or (wpAny_isTrue_Compare1 ?_)
      refine methN (X := [D, c]) (m_like w) (t_79 w) (k_79 w) sh_like (nmC hcb₄₀ ⟨b, l5, rfl, zB Z₄₀, G₄₀, ?_⟩ (by exact rfl) (by exact rfl) (by exact rfl)) _ (by exact rfl) (by exact rfl) (by exact rfl)
      refine wpAny_items_cons ?_
      refine nmC (zc Z₄₀) ?_ (by exact rfl) (by exact rfl) (by exact rfl)
      refine wpAny_items_cons ?_
      refine nm C₄₀ (by exact rfl) ?_
      refine wpAny_items_nil ⟨G₄₀.gd.K, ?_⟩
      refine like_ok (X := [D, c]) (T := t) (U := U) G₄₀ (zB Z₄₀) (zO Z₄₀) (zT Z₄₀) hUt₄₀ hh (by omega) (by omega) (by omega) (by omega) (by omega) (by omega) hfit ufit hps fun s₄₁ u₄₁ => ?_
      have C₄₁ := C₄₀.up u₄₁
      have Z₄₁ := Z₄₀.trans (Up.to u₄₁ _)
      refine wpAny_Compare1 ?_
      refine nm C₄₁ (by exact rfl) ?_
      refine nm C₄₁ mR ?_
      refine in_heap (k := U) (by omega) ⟨hUt₄₀.up u₄₁.tup, uht⟩ hRs (zR Z₄₁) fun s₄₂ u₄₂ => ?_
      rw [atKey_mem, hdec U ufit]
      refine is_not ?_
      refine wpAny_truthy_bool ?_
      rw [show (decide (decide (U ∈ keysOf xs) ≠ decide (U ∈ keysOf xs))) = false by simp]
      rw [if_neg (by simp)]
      have C₄₂ := C₄₁.up u₄₂
      have Z₄₂ := Z₄₁.trans (Up.to u₄₂ _)
      have G₄₂ := G2.up C₄₂.tr
      have u4042 := Tr.trans u₄₁ u₄₂
      refine isTrue_or (wpAny_isTrue_Compare1 ?_)
      refine methN (X := [D, c]) (m_like w) (t_79 w) (k_79 w) sh_like (nmC (IsCell.up hcb₄₀ u4042.le) ⟨b, l5, rfl, zB Z₄₂, G₄₂, ?_⟩ (by exact rfl) (by exact rfl) (by exact rfl)) _ (by exact rfl) (by exact rfl) (by exact rfl)
      refine wpAny_items_cons ?_
      refine nm C₄₂ (by exact rfl) ?_
      refine wpAny_items_cons ?_
      refine nmC (zc Z₄₂) ?_ (by exact rfl) (by exact rfl) (by exact rfl)
      refine wpAny_items_nil ⟨G₄₂.gd.K, ?_⟩
      refine like_ok (X := [D, c]) (T := U) (U := t) G₄₂ (zB Z₄₂) (zO Z₄₂) (hUt₄₀.up u4042.tup) (zT Z₄₂) hh (by omega) (by omega) (by omega) (by omega) (by omega) (by omega) ufit hfit hps fun s₄₃ u₄₃ => ?_
      have C₄₃ := C₄₂.up u₄₃
      have Z₄₃ := Z₄₂.trans (Up.to u₄₃ _)
      refine wpAny_Compare1 ?_
      refine nm C₄₃ (by exact rfl) ?_
      refine nm C₄₃ mR ?_
      refine in_heap (k := U) (by omega) ⟨hUt₄₀.up (Tr.trans u4042 u₄₃).tup, uht⟩ hRs (zR Z₄₃) fun s₄₄ u₄₄ => ?_
      have esym : decide (nf ops U = nf ops t) = decide (U ∈ keysOf xs) := by
        rw [← hdec U ufit]; exact decide_eq_decide.mpr ⟨Eq.symm, Eq.symm⟩
      rw [atKey_mem, esym]
      refine is_not ?_
      refine wpAny_truthy_bool ?_
      rw [show (decide (decide (U ∈ keysOf xs) ≠ decide (U ∈ keysOf xs))) = false by simp]
      rw [if_neg (by simp)]
      exact isTrue_or_nil ⟨rfl, Tr.trans (Tr.trans u4042 u₄₃) u₄₄⟩
    obtain ⟨rfl, u₄₁⟩ := h₄₁
    rw [if_neg (by simp)]
    refine wpAny_execs_nil ?_
    refine wpAny_execs_nil ⟨rfl, t₄₀.trans (Up.to u₄₁ _), ⟨_, C₄₀.up u₄₁, mR⟩, Z₄₀.trans (Up.to u₄₁ _), IsCell.up hcb₄₀ u₄₁.le, hus₃₉.up (t₄₀.tup.trans u₄₁.tup)⟩
  · rintro s₄₅ ⟨⟨m, C₄₅, _⟩, _⟩
    refine wpAny_execs_cons ?_
    refine wpAny_Return_some ?_
    refine wpAny_Constant_bool ?_
    exact h s₄₅ C₄₅.tr
end
end Mine
end
section
open PySem PySem.W PyProof.Rows PySem.Calls PySem.Spec
set_option maxRecDepth 100000
set_option maxHeartbeats 4000000
namespace Mine
theorem pst (x : WData) : Challenge.rw_pq0044_01.row.claim.post [x] (WData.bool true) [x] = true := by
  first | kernel_rfl | with_unfolding_all rfl
theorem law_main (P : Plain) {w : World} {E : Value → Shared → Prop} {s₁ : Shared} {fa sl : Addr} {cd : Value} {qn : Str} {sc : Scope} {vs : List Value} {ns : List Int} {Q : Flow → Shared → Prop} {h₁ : Heap} {tk : Nat} {m : Str → Option Value} {A : Around} {prog : Program}
    (hsc : scopeOf (Kf w) 178 = some sc) (F : Fr s₁.heap s₁.heap.objs.size h₁ m) (hm : m = fun (y : Str) => if y = "script" then some (Value.ref sl) else none)
    (h1 : h₁.IsCell (s₁.heap.objs.size + 1) none) (h2 : h₁.IsCell (s₁.heap.objs.size + 2) none) (K : (Kf w).In s₁.heap) (T : ∃ p loose mg mb, TopRead p loose mg mb s₁.heap)
    (hl : s₁.heap.IsList sl vs.toArray) (hI : IntsAre vs ns) (hlen : ns.length ≤ 63) (hh : A.handled = none) (hd : A.depth + 60 < recursionLimit) (hu : A.units + 1000 < cLine)
    (h : ∀ s', Up s₁ s' → Q (.ret (.bool true)) s') : wpAny (model prog w) A (execs (bodyOf (Kf w) 178) (envOfC qn sc s₁.heap.objs.size fa cd)) Q E { s₁ with heap := h₁, toks := tk } := by
  subst hm
  have fr : ∀ a, s₁.heap.objs.size ≤ a → s₁.heap.get? a = none := fun a ha => by
    cases e : s₁.heap.get? a with
    | none => rfl
    | some o => exact absurd (Heap.lt_size e) (Nat.not_lt.mpr ha)
  refine law_walk P hsc ⟨⟨⟨h₁, tk, rfl⟩, fun b o _ e => F.keep b o e, fun b o e _ => F.keep b o e⟩, F.ns, fr _ (Nat.le_refl _)⟩ h1 h2 (fr _ (Nat.le_succ _)) (fr _ (Nat.le_add_right _ 2)) ⟨s₁.heap, ⟨K, T⟩, fun _ _ e => e, by simp⟩ (IsList.at hl fun o e => F.keep _ o e) hI hlen hh hd hu h
end Mine
end
section
set_option maxRecDepth 100000
set_option maxHeartbeats 1000000
set_option linter.constructorNameAsVariable false
set_option linter.unusedVariables false
namespace Mine
mutual
theorem wt_facts : ∀ w : Term, wt w → w.size + 1 ≤ 3 * w.lv ∧ w.height ≤ w.lv + 1 ∧ gok w ∧ (w.lv ≤ 4 → fit w)
  | .mk l ks, h => by
    rw [wt] at h
    rcases h with ⟨hl, rfl⟩ | ⟨rfl, rfl⟩ | ⟨hl, h2, hw⟩
    · rcases hl with rfl | rfl <;> exact ⟨by decide, by decide, by simp [gok, goks], fun _ => by simp [fit, fits]⟩
    · exact ⟨by decide, by decide, by simp [tB, gok, goks], fun _ => by simp [tB, fit, fits]⟩
    · obtain ⟨a, b, c, d⟩ := wts_facts ks hw
      have e := lv_ps (l := l) h2
      refine ⟨by rw [e, Term.size]; omega, by rw [e, Term.height]; omega, ?_, fun h4 => ?_⟩
      · unfold gok; exact ⟨fun e => by subst e; simp at hl, c⟩
      · rw [e] at h4
        unfold fit; exact ⟨fun _ => h4, d h4⟩
theorem wts_facts : ∀ ks : List Term, wts ks → Term.sizes ks + ks.length ≤ 3 * Term.lvs ks ∧ Term.heights ks + ks.length ≤ Term.lvs ks + 2 ∧ goks ks ∧ (Term.lvs ks ≤ 4 → fits ks)
  | [], _ => ⟨by simp [Term.sizes], by simp [Term.heights], trivial, fun _ => trivial⟩
  | x :: xs, h => by
    obtain ⟨a, b, c, d⟩ := wt_facts x h.1
    obtain ⟨a', b', c', d'⟩ := wts_facts xs h.2
    have := Term.lv_pos x
    have := Term.len_lvs xs
    refine ⟨by rw [Term.sizes, Term.lvs, List.length_cons]; omega, by rw [Term.heights, Term.lvs, List.length_cons]; omega, ⟨c, c'⟩, fun h4 => ?_⟩
    rw [Term.lvs] at h4
    exact ⟨d (by omega), d' (by omega)⟩
end

theorem split1 {ks : List Term} {i : Nat} (h : i < ks.length) : ks = ks.take i ++ ks.getD i dT :: ks.drop (i + 1) := by
  have hx : ks.getD i dT = ks[i] := by rw [List.getD_eq_getElem?_getD, List.getElem?_eq_getElem h]; rfl
  rw [hx, List.getElem_cons_drop, List.take_append_drop]
theorem split2 {ks : List Term} {i : Nat} (h : i + 1 < ks.length) : ks = ks.take i ++ ks.getD i dT :: ks.getD (i + 1) dT :: ks.drop (i + 2) := by
  have hx : ks.getD (i + 1) dT = ks[i + 1] := by rw [List.getD_eq_getElem?_getD, List.getElem?_eq_getElem h]; rfl
  have e : ks.getD (i + 1) dT :: ks.drop (i + 2) = ks.drop (i + 1) := by rw [hx, List.getElem_cons_drop]
  rw [e]; exact split1 (by omega)

theorem turns_cases {ops : List Lab} {l : Lab} {ks : List Term} {v : Term} (h : v ∈ turns ops (.mk l ks)) :
    (isBag ops (.mk l ks) = true ∧ ∃ A x y B, ks = A ++ x :: y :: B ∧ (v = .mk l (A ++ y :: x :: B) ∨ (3 ≤ ks.length ∧ v = .mk l (A ++ .mk l [x, y] :: B)))) ∨
    (isBag ops (.mk l ks) = true ∧ ∃ A us B, ks = A ++ .mk l us :: B ∧ 2 ≤ us.length ∧ v = .mk l (A ++ (us ++ B))) ∨
    (∃ A x B x', ks = A ++ x :: B ∧ x' ∈ turns ops x ∧ v = .mk l (A ++ x' :: B)) := by
  rw [turns_eq] at h
  rcases List.mem_append.mp h with h | h
  · unfold tops at h
    by_cases hb : isBag ops (.mk l ks) = true
    · rw [if_pos hb] at h
      rcases List.mem_append.mp h with h | h
      · obtain ⟨i, hi, h⟩ := List.mem_flatMap.mp h
        rw [List.mem_range] at hi
        refine .inl ⟨hb, _, _, _, _, split2 (i := i) (by omega), ?_⟩
        unfold top1 at h
        rcases List.mem_cons.mp h with rfl | h
        · exact .inl rfl
        · split at h
          · simp at h; exact .inr ⟨by assumption, h⟩
          · cases h
      · obtain ⟨i, hi, h⟩ := List.mem_flatMap.mp h
        rw [List.mem_range] at hi
        unfold top2 at h
        split at h
        · rename_i hc
          simp at h
          have hs := split1 hi
          unfold cutAt at h
          generalize hx : ks.getD i dT = x at hc h hs
          obtain ⟨xl, us⟩ := x
          obtain ⟨rfl, hc⟩ := hc
          exact .inr (.inl ⟨hb, _, us, _, hs, hc, h⟩)
        · cases h
    · rw [if_neg hb] at h; cases h
  · obtain ⟨i, hi, h⟩ := List.mem_flatMap.mp h
    rw [List.mem_range] at hi
    unfold inn at h
    obtain ⟨x', hx', rfl⟩ := List.mem_map.mp h
    exact .inr (.inr ⟨_, _, _, x', split1 hi, hx', by rw [List.set_eq_take_append_cons_drop, if_pos hi]⟩)

theorem getD_mid (A : List Term) (x : Term) (B : List Term) : (A ++ x :: B).getD A.length dT = x := by
  rw [List.getD_eq_getElem?_getD]; simp
theorem turn_swap {ops : List Lab} {l : Lab} {A B : List Term} {x y : Term} (hb : isBag ops (.mk l (A ++ x :: y :: B)) = true) : .mk l (A ++ y :: x :: B) ∈ turns ops (.mk l (A ++ x :: y :: B)) := by
  rw [turns_eq]
  refine List.mem_append_left _ ?_
  unfold tops
  rw [if_pos hb]
  refine List.mem_append_left _ (List.mem_flatMap.mpr ⟨A.length, by rw [List.mem_range]; simp, ?_⟩)
  unfold top1
  refine List.mem_cons.mpr (.inl ?_)
  unfold swapAt
  have e : (A ++ x :: y :: B).getD (A.length + 1) dT = y := by rw [List.getD_eq_getElem?_getD]; simp
  rw [getD_mid, e]
  simp
theorem turn_wrap {ops : List Lab} {l : Lab} {A B : List Term} {x y : Term} (hb : isBag ops (.mk l (A ++ x :: y :: B)) = true) (h3 : 1 ≤ A.length + B.length) : .mk l (A ++ .mk l [x, y] :: B) ∈ turns ops (.mk l (A ++ x :: y :: B)) := by
  rw [turns_eq]
  refine List.mem_append_left _ ?_
  unfold tops
  rw [if_pos hb]
  refine List.mem_append_left _ (List.mem_flatMap.mpr ⟨A.length, by rw [List.mem_range]; simp, ?_⟩)
  unfold top1
  rw [if_pos (by simp; omega)]
  refine List.mem_cons.mpr (.inr ?_)
  unfold wrapAt
  have e : (A ++ x :: y :: B).getD (A.length + 1) dT = y := by rw [List.getD_eq_getElem?_getD]; simp
  rw [getD_mid, e]
  simp
theorem turn_cut {ops : List Lab} {l : Lab} {A B us : List Term} (hb : isBag ops (.mk l (A ++ .mk l us :: B)) = true) (h2 : 2 ≤ us.length) : .mk l (A ++ (us ++ B)) ∈ turns ops (.mk l (A ++ .mk l us :: B)) := by
  rw [turns_eq]
  refine List.mem_append_left _ ?_
  unfold tops
  rw [if_pos hb]
  refine List.mem_append_right _ (List.mem_flatMap.mpr ⟨A.length, by rw [List.mem_range]; simp, ?_⟩)
  unfold top2
  rw [getD_mid, if_pos ⟨rfl, h2⟩]
  unfold cutAt
  rw [getD_mid]
  simp [Term.kids]
theorem turn_in {ops : List Lab} {l : Lab} {A B : List Term} {x x' : Term} (h : x' ∈ turns ops x) : .mk l (A ++ x' :: B) ∈ turns ops (.mk l (A ++ x :: B)) := by
  rw [turns_eq]
  refine List.mem_append_right _ (List.mem_flatMap.mpr ⟨A.length, by rw [List.mem_range]; simp, ?_⟩)
  unfold inn
  rw [getD_mid]
  exact List.mem_map.mpr ⟨x', h, by simp⟩
end Mine
end
section
set_option maxRecDepth 100000
set_option maxHeartbeats 1000000
set_option linter.constructorNameAsVariable false
set_option linter.unusedVariables false
open PySem PySem.W PyProof.Rows PySem.Calls PySem.Spec
namespace Mine
theorem llt_tot : ∀ a b : List Nat, a = b ∨ llt a b = true ∨ llt b a = true
  | [], [] => .inl rfl
  | [], _ :: _ => .inr (.inl (by simp [llt]))
  | _ :: _, [] => .inr (.inr (by simp [llt]))
  | x :: a, y :: b => by
    by_cases h : x = y
    · subst h
      rcases llt_tot a b with rfl | h | h
      · exact .inl rfl
      · exact .inr (.inl (by simp [llt, h]))
      · exact .inr (.inr (by simp [llt, h]))
    · have : ¬ y = x := fun e => h e.symm
      simp [llt, h, this]; omega
theorem llt_trans : ∀ a b c : List Nat, llt a b = true → llt b c = true → llt a c = true
  | [], _, [], h1, h2 => by cases ‹List Nat› <;> simp [llt] at h1 h2
  | [], _, _ :: _, h1, h2 => by simp [llt]
  | _ :: _, [], _, h1, h2 => by simp [llt] at h1
  | _ :: _, _ :: _, [], h1, h2 => by simp [llt] at h2
  | x :: a, y :: b, z :: c, h1, h2 => by
    rw [llt] at h1 h2 ⊢
    by_cases e1 : x = y
    · subst e1
      rw [if_pos rfl] at h1
      by_cases e2 : x = z
      · subst e2
        rw [if_pos rfl] at h2 ⊢
        exact llt_trans a b c h1 h2
      · rw [if_neg e2] at h2 ⊢; exact h2
    · rw [if_neg e1] at h1
      rw [decide_eq_true_eq] at h1
      by_cases e2 : y = z
      · subst e2
        rw [if_neg e1]; simpa using h1
      · rw [if_neg e2, decide_eq_true_eq] at h2
        rw [if_neg (by omega), decide_eq_true_eq]; omega
theorem tlt_tot (x y : Term) : x = y ∨ tlt x y = true ∨ tlt y x = true := by
  rcases llt_tot x.code y.code with h | h | h
  · exact .inl ((code_inj x y).mp h)
  · exact .inr (.inl h)
  · exact .inr (.inr h)
theorem tlt_trans {x y z : Term} (a : tlt x y = true) (b : tlt y z = true) : tlt x z = true := llt_trans _ _ _ a b

theorem cnt_lt {α : Type} {p q : α → Bool} {x : α} (h : ∀ z, p z = true → q z = true) (hp : p x = false) (hq : q x = true) : ∀ xs : List α, x ∈ xs → xs.countP p < xs.countP q
  | [], m => by cases m
  | y :: ys, m => by
    have hm : ys.countP p ≤ ys.countP q := List.countP_mono_left fun z _ hz => h z hz
    rw [List.countP_cons, List.countP_cons]
    rcases List.mem_cons.mp m with rfl | m
    · rw [hp, hq]; simp; omega
    · have := cnt_lt h hp hq ys m
      by_cases e : p y = true
      · rw [if_pos e, if_pos (h y e)]; omega
      · rw [if_neg e]; omega
noncomputable def rk (xs : List Term) (x : Term) : Nat := xs.countP fun z => tlt z x
theorem rk_lt {xs : List Term} {x y : Term} (hx : x ∈ xs) (h : tlt x y = true) : rk xs x < rk xs y :=
  cnt_lt (p := fun z => tlt z x) (q := fun z => tlt z y) (fun z hz => tlt_trans hz h) (tlt_irrefl x) h xs hx
theorem tlt_rk {xs : List Term} {x y : Term} (hx : x ∈ xs) (hy : y ∈ xs) : tlt x y = decide (rk xs x < rk xs y) := by
  rcases tlt_tot x y with rfl | h | h
  · rw [tlt_irrefl]; simp
  · rw [h]; simp [rk_lt hx h]
  · have := rk_lt hy h
    have e : tlt x y = false := by
      cases e : tlt x y with
      | false => rfl
      | true => have := rk_lt hx e; omega
    rw [e]; simp; omega

theorem tree_congr {α : Type} {n : Nat} {lt lt' : Nat → Nat → Bool} (h : ∀ i j, i < n → j < n → lt i j = lt' i j) : ∀ t : KasT α, treeOk n t = true → treeRun lt t = treeRun lt' t
  | .ret a, _ => rfl
  | .ask i j k, o => by
    rw [treeOk] at o
    simp only [Bool.and_eq_true, decide_eq_true_eq] at o
    rw [treeRun, treeRun, h i j o.1.1.1 o.1.1.2]
    cases lt' i j
    · exact tree_congr h _ o.2
    · exact tree_congr h _ o.1.2

noncomputable def vecs : Nat → List (List Nat)
  | 0 => [[]]
  | n + 1 => (List.range 5).flatMap fun i => (vecs n).map fun v => i :: v
theorem vecs_mem : ∀ v : List Nat, (∀ i ∈ v, i < 5) → v ∈ vecs v.length
  | [], _ => .head _
  | i :: v, h => List.mem_flatMap.mpr ⟨i, List.mem_range.mpr (h i (.head _)), List.mem_map.mpr ⟨v, vecs_mem v fun j hj => h j (.tail _ hj), rfl⟩⟩
noncomputable def pw : List Nat → Bool
  | [] => true
  | x :: xs => xs.all (fun y => decide (x ≤ y)) && pw xs
theorem pw_ok : ∀ v : List Nat, pw v = true → v.Pairwise (· ≤ ·)
  | [], _ => .nil
  | x :: xs, h => by
    rw [pw, Bool.and_eq_true, List.all_eq_true] at h
    exact .cons (fun y hy => by simpa using h.1 y hy) (pw_ok xs h.2)
theorem sorted_all : ∀ n, 2 ≤ n → n ≤ 4 → ((vecs n).all fun v => pw ((ord n fun i j => decide (v.getD i 0 < v.getD j 0)).map fun i => v.getD i 0)) = true := by
  intro n h1 h2
  match n with
  | 2 => decide +kernel
  | 3 => decide +kernel
  | 4 => decide +kernel
  | 0 => omega
  | 1 => omega
  | n + 5 => omega

theorem sortT_sorted {xs : List Term} (h1 : 2 ≤ xs.length) (h2 : xs.length ≤ 4) : (sortT xs).Pairwise fun x y => tlt y x = false := by
  have hv : ∀ i, i < xs.length → (xs.map (rk xs)).getD i 0 = rk xs (xs.getD i dT) := fun i hi => by
    rw [List.getD_eq_getElem?_getD, List.getD_eq_getElem?_getD, List.getElem?_map, List.getElem?_eq_getElem hi]; rfl
  have hm := vecs_mem (xs.map (rk xs)) (fun i hi => by
    obtain ⟨x, hx, rfl⟩ := List.mem_map.mp hi
    have : rk xs x ≤ xs.length := List.countP_le_length
    omega)
  rw [List.length_map] at hm
  have hs := pw_ok _ (List.all_eq_true.mp (sorted_all xs.length h1 h2) _ hm)
  have he : ord xs.length (fun i j => decide ((xs.map (rk xs)).getD i 0 < (xs.map (rk xs)).getD j 0)) = ord xs.length fun i j => tlt (xs.getD i dT) (xs.getD j dT) := by
    unfold ord
    rw [tree_congr (fun i j hi hj => ?_) _ (sort_ok _ h1 h2).1]
    show decide _ = tlt _ _
    rw [hv i hi, hv j hj, tlt_rk (getD_mem hi) (getD_mem hj)]
  rw [he] at hs
  have hp := ord_perm (fun i j => tlt (xs.getD i dT) (xs.getD j dT)) h1 h2
  rw [List.pairwise_map] at hs
  unfold sortT
  rw [List.pairwise_map]
  refine hs.imp_of_mem fun {i j} hi hj hij => ?_
  have hi' := List.mem_range.mp (hp.mem_iff.mp hi)
  have hj' := List.mem_range.mp (hp.mem_iff.mp hj)
  rw [hv i hi', hv j hj'] at hij
  rw [tlt_rk (getD_mem hj') (getD_mem hi')]
  exact decide_eq_false (by omega)
theorem sortT_eq {xs ys : List Term} (h1 : 2 ≤ xs.length) (h2 : xs.length ≤ 4) (h : xs.Perm ys) : sortT xs = sortT ys := by
  have hl := h.length_eq
  have a := sortT_perm h1 h2
  have b := sortT_perm (xs := ys) (by omega) (by omega)
  refine List.Perm.eq_of_pairwise (fun x y _ _ hx hy => ?_) (sortT_sorted h1 h2) (sortT_sorted (by omega) (by omega)) (a.trans (h.trans b.symm))
  rcases tlt_tot x y with e | e | e
  · exact e
  · rw [e] at hy; cases hy
  · rw [e] at hx; cases hx
end Mine
end
section
set_option maxRecDepth 100000
set_option maxHeartbeats 1000000
set_option linter.constructorNameAsVariable false
set_option linter.unusedVariables false
namespace Mine
section
variable {ops : List Lab}
theorem flats_perm {op : Lab} {xs ys : List Term} (h : xs.Perm ys) : (flats ops op xs).Perm (flats ops op ys) := by
  induction h with
  | nil => exact .refl _
  | cons x _ ih => rw [flats, flats]; exact List.Perm.append_left _ ih
  | swap x y l =>
    simp only [flats]
    rw [← List.append_assoc, ← List.append_assoc]
    exact List.Perm.append_right _ List.perm_append_comm
  | trans _ _ a b => exact a.trans b
mutual
theorem flat_idem (op : Lab) : ∀ T : Term, flats ops op (flat ops op T) = flat ops op T
  | .mk l ks => by
    by_cases h : (l != op || !isBag ops (.mk l ks)) = true
    · have e : flat ops op (.mk l ks) = [.mk l ks] := by rw [flat, if_pos h]
      rw [e, flats, flats, e]; rfl
    · rw [flat, if_neg h]; exact flats_idem op ks
theorem flats_idem (op : Lab) : ∀ ks : List Term, flats ops op (flats ops op ks) = flats ops op ks
  | [] => rfl
  | x :: xs => by rw [flats, flats_app, flat_idem op x, flats_idem op xs]
end
theorem flat_bag {l : Lab} {ks : List Term} (h : isBag ops (.mk l ks) = true) : flat ops l (.mk l ks) = flats ops l ks := by
  rw [flat, if_neg]; simp [h]
theorem bag_of {l : Lab} {ks : List Term} (h : l ∈ ops) (h2 : 2 ≤ ks.length) : isBag ops (.mk l ks) = true := by
  unfold isBag; rw [Bool.and_eq_true, decide_eq_true_eq]; exact ⟨by simpa [Term.lab] using h, h2⟩
theorem fit_iff {l : Lab} {ks : List Term} : fit (.mk l ks) ↔ ((l = .p ∨ l = .s) → Term.lvs ks ≤ 4) ∧ ∀ x ∈ ks, fit x := by rw [fit, fits_iff]
theorem nfs_app (xs ys : List Term) : nfs ops (xs ++ ys) = nfs ops xs ++ nfs ops ys := by rw [nfs_eq, nfs_eq, nfs_eq, List.map_append]
theorem nfs_cons (x : Term) (ys : List Term) : nfs ops (x :: ys) = nf ops x :: nfs ops ys := by rw [nfs]

/-- a bag's normal form, flattened -/
theorem flat_nf (hp : PS ops) {l : Lab} {ks : List Term} (hb : isBag ops (.mk l ks) = true) (hf : fit (.mk l ks)) : (flat ops l (nf ops (.mk l ks))).Perm (flats ops l (nfs ops ks)) := by
  have hf' := hf
  rw [fit] at hf'
  obtain ⟨a, b, c⟩ := nfs_facts hp ks hf'.2
  obtain ⟨q1, q2⟩ := bag_facts hp l ks hf'.1 a hb
  have hs := sortT_perm q1 q2
  rw [nf, if_pos hb, flat_bag (bag_of (isBag_two hb).1 (by rw [hs.length_eq]; exact q1))]
  have := flats_perm (ops := ops) (op := l) hs
  rwa [flats_idem] at this
theorem nf_bag_eq (hp : PS ops) {l : Lab} {ks ks' : List Term} (hb : isBag ops (.mk l ks) = true) (hf : fit (.mk l ks)) (hb' : isBag ops (.mk l ks') = true) (h : (flats ops l (nfs ops ks)).Perm (flats ops l (nfs ops ks'))) : nf ops (.mk l ks') = nf ops (.mk l ks) := by
  rw [fit] at hf
  obtain ⟨a, b, c⟩ := nfs_facts hp ks hf.2
  obtain ⟨q1, q2⟩ := bag_facts hp l ks hf.1 a hb
  rw [nf, if_pos hb', nf, if_pos hb, sortT_eq q1 q2 h]
theorem turn_nf (hp : PS ops) : ∀ (n : Nat) (w v : Term), w.size ≤ n → fit w → v ∈ turns ops w → nf ops v = nf ops w
  | 0, .mk l ks, v, hn, _, _ => by rw [Term.size] at hn; omega
  | n + 1, .mk l ks, v, hn, hf, hv => by
    have hks := (fit_iff.mp hf).2
    rcases turns_cases hv with ⟨hb, A, x, y, B, rfl, h⟩ | ⟨hb, A, us, B, rfl, h2, rfl⟩ | ⟨A, x, B, x', rfl, hx', rfl⟩
    · have hm := (isBag_two hb).1
      have h2 := (isBag_two hb).2
      rcases h with rfl | ⟨h3, rfl⟩
      · refine nf_bag_eq hp hb hf (bag_of hm (by simpa using h2)) ?_
        rw [nfs_app, nfs_app, flats_app, flats_app]
        refine List.Perm.append_left _ ?_
        simp only [nfs, flats]
        rw [← List.append_assoc, ← List.append_assoc]
        exact List.Perm.append_right _ List.perm_append_comm
      · refine nf_bag_eq hp hb hf (bag_of hm (by simp at h3 ⊢; omega)) ?_
        rw [nfs_app, nfs_app, flats_app, flats_app]
        refine List.Perm.append_left _ ?_
        have hfw : fit (.mk l [x, y]) := by
          refine fit_iff.mpr ⟨fun e => ?_, fun z hz => ?_⟩
          · have := (fit_iff.mp hf).1 e
            rw [Term.lvs_app] at this
            simp only [Term.lvs] at this ⊢; omega
          · simp at hz
            rcases hz with rfl | rfl <;> exact hks _ (by simp)
        have := flat_nf hp (bag_of hm (by simp)) hfw
        rw [nfs_cons, nfs_cons, nfs_cons, flats, flats, flats, ← List.append_assoc]
        refine List.Perm.append_right _ ?_
        refine List.Perm.symm (this.trans ?_)
        simp [nfs, flats]
    · have hm := (isBag_two hb).1
      have hl := (isBag_two hb).2
      refine nf_bag_eq hp hb hf (bag_of hm (by simp; omega)) ?_
      rw [nfs_app, nfs_app, nfs_app, flats_app, flats_app, flats_app, nfs_cons, flats]
      refine List.Perm.append_left _ (List.Perm.append_right _ ?_)
      exact flat_nf hp (bag_of hm h2) (hks _ (by simp))
    · have ih := turn_nf hp n x x' (by rw [Term.size, Term.sizes_app, Term.sizes] at hn; omega) (hks _ (by simp)) hx'
      have e : nfs ops (A ++ x' :: B) = nfs ops (A ++ x :: B) := by rw [nfs_app, nfs_app, nfs_cons, nfs_cons, ih]
      have eb : isBag ops (.mk l (A ++ x' :: B)) = isBag ops (.mk l (A ++ x :: B)) := by unfold isBag; simp [Term.lab, Term.kids]
      rw [nf, nf, e, eb]

theorem Rch.trans {t u v : Term} (a : Rch ops t u) (b : Rch ops u v) : Rch ops t v := by
  induction b with
  | refl => exact a
  | step _ h ih => exact .step ih h
theorem Rch.one {t u : Term} (h : u ∈ turns ops t) : Rch ops t u := .step .refl h
theorem Rch.ctx {l : Lab} {A B : List Term} {x x' : Term} (h : Rch ops x x') : Rch ops (.mk l (A ++ x :: B)) (.mk l (A ++ x' :: B)) := by
  induction h with
  | refl => exact .refl
  | step _ h ih => exact .step ih (turn_in h)
theorem gather {l : Lab} (hm : l ∈ ops) : ∀ (us A B : List Term), 2 ≤ us.length → 1 ≤ A.length + B.length → Rch ops (.mk l (A ++ (us ++ B))) (.mk l (A ++ .mk l us :: B))
  | [], _, _, h, _ => by simp at h
  | [_], _, _, h, _ => by simp at h
  | [x, y], A, B, _, h => .one (turn_wrap (bag_of hm (by simp; omega)) h)
  | x :: y :: z :: us, A, B, _, h => by
    have h1 := gather hm (y :: z :: us) (A ++ [x]) B (by simp) (by simp; omega)
    rw [List.append_assoc, List.append_assoc] at h1
    refine Rch.trans h1 ?_
    refine Rch.trans (.one (turn_wrap (bag_of hm (by simp; omega)) h)) ?_
    refine Rch.ctx (.one ?_)
    have := turn_cut (ops := ops) (l := l) (A := [x]) (B := []) (us := y :: z :: us) (bag_of hm (by simp)) (by simp)
    simpa using this
theorem turn_back : ∀ (n : Nat) (w v : Term), w.size ≤ n → v ∈ turns ops w → Rch ops v w
  | 0, .mk l ks, v, hn, _ => by rw [Term.size] at hn; omega
  | n + 1, .mk l ks, v, hn, hv => by
    rcases turns_cases hv with ⟨hb, A, x, y, B, rfl, h⟩ | ⟨hb, A, us, B, rfl, h2, rfl⟩ | ⟨A, x, B, x', rfl, hx', rfl⟩
    · have hm := (isBag_two hb).1
      have h2 := (isBag_two hb).2
      rcases h with rfl | ⟨h3, rfl⟩
      · exact .one (turn_swap (bag_of hm (by simpa using h2)))
      · have := turn_cut (ops := ops) (l := l) (A := A) (B := B) (us := [x, y]) (bag_of hm (by simp at h3 ⊢; omega)) (by simp)
        exact .one (by simpa using this)
    · have hm := (isBag_two hb).1
      have hl := (isBag_two hb).2
      exact gather hm us A B h2 (by simp at hl; omega)
    · exact Rch.ctx (turn_back n x x' (by rw [Term.size, Term.sizes_app, Term.sizes] at hn; omega) hx')
theorem Rch.symm {t u : Term} (a : Rch ops t u) : Rch ops u t := by
  induction a with
  | refl => exact .refl
  | step _ h ih => exact (turn_back _ _ _ (Nat.le_refl _) h).trans ih

mutual
theorem flat_rch {l : Lab} (hm : l ∈ ops) : ∀ (x : Term) (A B : List Term), 1 ≤ A.length + B.length → Rch ops (.mk l (A ++ x :: B)) (.mk l (A ++ (flat ops l x ++ B)))
  | .mk l' us, A, B, h => by
    rw [flat]
    split
    · exact .refl
    · rename_i hc
      simp only [Bool.or_eq_true, not_or, Bool.not_eq_true, Bool.not_eq_false', bne_eq_false_iff_eq] at hc
      obtain ⟨rfl, hb⟩ := hc
      have h2 := (isBag_two hb).2
      exact Rch.trans (.one (turn_cut (bag_of hm (by simp; omega)) h2)) (flats_rch hm us A B (by omega))
theorem flats_rch {l : Lab} (hm : l ∈ ops) : ∀ (xs A B : List Term), 2 ≤ A.length + xs.length + B.length → Rch ops (.mk l (A ++ (xs ++ B))) (.mk l (A ++ (flats ops l xs ++ B)))
  | [], A, B, h => .refl
  | x :: xs, A, B, h => by
    have h1 := flat_rch hm x A (xs ++ B) (by simp at h ⊢; omega)
    have hl := (flat_facts ops l x).1
    have h2 := flats_rch hm xs (A ++ flat ops l x) B (by simp at h ⊢; omega)
    refine Rch.trans h1 ?_
    rw [flats]
    simpa [List.append_assoc] using h2
end
theorem perm_rch {l : Lab} (hm : l ∈ ops) {zs ws : List Term} (h : zs.Perm ws) : ∀ A : List Term, 2 ≤ A.length + zs.length → Rch ops (.mk l (A ++ zs)) (.mk l (A ++ ws)) := by
  induction h with
  | nil => intro A _; exact .refl
  | cons x _ ih =>
    intro A hA
    have := ih (A ++ [x]) (by simp at hA ⊢; omega)
    simpa using this
  | swap x y l => intro A hA; exact .one (turn_swap (bag_of hm (by simp; omega)))
  | trans h1 h2 a b =>
    intro A hA
    exact (a A hA).trans (b A (by rw [← h1.length_eq]; exact hA))
mutual
theorem nf_rch (hp : PS ops) : ∀ t : Term, fit t → Rch ops t (nf ops t)
  | .mk l ks, hf => by
    have hf' := hf
    rw [fit] at hf'
    have h0 := nfs_rch hp l ks hf'.2 []
    rw [List.nil_append, List.nil_append] at h0
    rw [nf]
    split
    · rename_i hb
      obtain ⟨hm, h2⟩ := isBag_two hb
      obtain ⟨a, b, c⟩ := nfs_facts hp ks hf'.2
      obtain ⟨q1, q2⟩ := bag_facts hp l ks hf'.1 a hb
      have h1 := flats_rch hm (nfs ops ks) [] [] (by rw [nfs_len]; simp; omega)
      simp only [List.nil_append, List.append_nil] at h1
      have h3 := perm_rch hm (sortT_perm q1 q2).symm [] (by simpa using q1)
      exact h0.trans (h1.trans h3)
    · exact h0
theorem nfs_rch (hp : PS ops) (l : Lab) : ∀ ks : List Term, fits ks → ∀ A, Rch ops (.mk l (A ++ ks)) (.mk l (A ++ nfs ops ks))
  | [], _, A => .refl
  | x :: xs, hf, A => by
    have h1 := Rch.ctx (l := l) (A := A) (B := xs) (nf_rch hp x hf.1)
    have h2 := nfs_rch hp l xs hf.2 (A ++ [nf ops x])
    rw [nfs]
    exact h1.trans (by simpa using h2)
end
end
end Mine
end
section
set_option maxRecDepth 100000
set_option maxHeartbeats 1000000
set_option linter.constructorNameAsVariable false
set_option linter.unusedVariables false
namespace Mine
section
variable {ops : List Lab}
theorem wts_app (xs ys : List Term) : wts (xs ++ ys) ↔ wts xs ∧ wts ys := by
  rw [wts_iff, wts_iff, wts_iff]
  constructor
  · intro h; exact ⟨fun x hx => h x (List.mem_append_left _ hx), fun x hx => h x (List.mem_append_right _ hx)⟩
  · rintro ⟨a, b⟩ x hx
    rcases List.mem_append.mp hx with hx | hx
    · exact a x hx
    · exact b x hx
theorem tB_turns : turns ops tB = [] := by
  rw [tB, turns_eq, tops, if_neg]
  · rfl
  · intro h; have := (isBag_two h).2; simp at this
theorem wt_cases {l : Lab} {ks : List Term} (h : wt (.mk l ks)) : ((l = .a ∨ l = .b) ∧ ks = []) ∨ (l = .f ∧ ks = [tB]) ∨ ((l = .p ∨ l = .s) ∧ 2 ≤ ks.length ∧ wts ks) := by rwa [wt] at h
theorem turn_wt : ∀ (n : Nat) (w v : Term), w.size ≤ n → wt w → v ∈ turns ops w → wt v ∧ v.lv = w.lv ∧ v.lab = w.lab
  | 0, .mk l ks, v, hn, _, _ => by rw [Term.size] at hn; omega
  | n + 1, .mk l ks, v, hn, hw, hv => by
    rcases wt_cases hw with ⟨hl, rfl⟩ | ⟨rfl, rfl⟩ | ⟨hl, h2, hks⟩
    · rcases turns_cases hv with ⟨hb, _⟩ | ⟨hb, _⟩ | ⟨A, x, B, x', e, _⟩
      · have := (isBag_two hb).2; simp at this
      · have := (isBag_two hb).2; simp at this
      · simp at e
    · rcases turns_cases hv with ⟨hb, _⟩ | ⟨hb, _⟩ | ⟨A, x, B, x', e, hx', _⟩
      · have := (isBag_two hb).2; simp at this
      · have := (isBag_two hb).2; simp at this
      · have hx : x ∈ [tB] := by rw [e]; simp
        simp at hx
        subst hx
        rw [tB_turns] at hx'; cases hx'
    · rcases turns_cases hv with ⟨hb, A, x, y, B, rfl, h⟩ | ⟨hb, A, us, B, rfl, h2', rfl⟩ | ⟨A, x, B, x', rfl, hx', rfl⟩
      · rw [wts_app] at hks
        obtain ⟨k1, k2, k3, k4⟩ := hks
        rcases h with rfl | ⟨h3, rfl⟩
        · refine ⟨wt_ps hl (by simpa using h2) ((wts_app _ _).mpr ⟨k1, k3, k2, k4⟩), ?_, rfl⟩
          rw [lv_ps (by simpa using h2), lv_ps h2, Term.lvs_app, Term.lvs_app]
          simp only [Term.lvs]; omega
        · have hw' : wt (.mk l [x, y]) := wt_ps hl (by simp) ⟨k2, k3, trivial⟩
          have e2 : 2 ≤ (A ++ .mk l [x, y] :: B).length := by simp at h3 ⊢; omega
          refine ⟨wt_ps hl e2 ((wts_app _ _).mpr ⟨k1, hw', k4⟩), ?_, rfl⟩
          rw [lv_ps e2, lv_ps h2, Term.lvs_app, Term.lvs_app, Term.lvs, lv_ps (by simp)]
          simp only [Term.lvs]; omega
      · rw [wts_app] at hks
        obtain ⟨k1, k2, k3⟩ := hks
        have k2' : wts us := by
          rcases wt_cases k2 with ⟨_, rfl⟩ | ⟨_, rfl⟩ | ⟨_, _, h⟩
          · exact trivial
          · simp at h2'
          · exact h
        have e2 : 2 ≤ (A ++ (us ++ B)).length := by simp; omega
        refine ⟨wt_ps hl e2 ((wts_app _ _).mpr ⟨k1, (wts_app _ _).mpr ⟨k2', k3⟩⟩), ?_, rfl⟩
        rw [lv_ps e2, lv_ps h2, Term.lvs_app, Term.lvs_app, Term.lvs_app, Term.lvs, lv_ps h2']
      · rw [wts_app] at hks
        obtain ⟨k1, k2, k3⟩ := hks
        obtain ⟨a, b, c⟩ := turn_wt n x x' (by rw [Term.size, Term.sizes_app, Term.sizes] at hn; omega) k2 hx'
        have e2 : 2 ≤ (A ++ x' :: B).length := by simpa using h2
        refine ⟨wt_ps hl e2 ((wts_app _ _).mpr ⟨k1, a, k3⟩), ?_, rfl⟩
        rw [lv_ps e2, lv_ps h2, Term.lvs_app, Term.lvs_app, Term.lvs, Term.lvs, b]

theorem cx_turn (hp : PS ops) (c : Cx3) {w v : Term} (h : v ∈ turns ops (c.app w)) : ∃ w', v = c.app w' ∧ w' ∈ turns ops w := by
  cases c with
  | id => exact ⟨v, rfl, h⟩
  | f =>
    rcases turns_cases (l := .f) (ks := [w]) h with ⟨hb, _⟩ | ⟨hb, _⟩ | ⟨A, x, B, x', e, hx', rfl⟩
    · have := hp _ (isBag_two hb).1; simp at this
    · have := hp _ (isBag_two hb).1; simp at this
    · cases A with
      | nil =>
        simp at e
        obtain ⟨rfl, rfl⟩ := e
        exact ⟨x', rfl, hx'⟩
      | cons a A => simp at e
  | g =>
    rcases turns_cases (l := .g) (ks := [w, tB]) h with ⟨hb, _⟩ | ⟨hb, _⟩ | ⟨A, x, B, x', e, hx', rfl⟩
    · have := hp _ (isBag_two hb).1; simp at this
    · have := hp _ (isBag_two hb).1; simp at this
    · cases A with
      | nil =>
        simp at e
        obtain ⟨rfl, rfl⟩ := e
        exact ⟨x', rfl, hx'⟩
      | cons a A =>
        cases A with
        | nil =>
          simp at e
          obtain ⟨_, rfl, _⟩ := e
          rw [tB_turns] at hx'; cases hx'
        | cons b A => simp at e
theorem rch_wt (hp : PS ops) {c : Cx3} {w u : Term} (h : Rch ops (c.app w) u) (hw : wt w) : ∃ w', u = c.app w' ∧ wt w' ∧ w'.lv = w.lv ∧ w'.lab = w.lab := by
  induction h with
  | refl => exact ⟨w, rfl, hw, rfl, rfl⟩
  | step _ h ih =>
    obtain ⟨w', rfl, a, b, c'⟩ := ih
    obtain ⟨w'', rfl, hw''⟩ := cx_turn hp c h
    obtain ⟨a', b', c''⟩ := turn_wt _ _ _ (Nat.le_refl _) a hw''
    exact ⟨w'', rfl, a', b'.trans b, c''.trans c'⟩
end

/-- all short lists of terms out of `one` with `n` leaves in all -/
noncomputable def rows (one : Nat → List Term) : Nat → Nat → List (List Term)
  | 0, n => if n = 0 then [[]] else []
  | m + 1, n => (if n = 0 then [[]] else []) ++ (List.range n).flatMap fun i => (one (i + 1)).flatMap fun x => (rows one m (n - (i + 1))).map fun xs => x :: xs
noncomputable def wide (one : Nat → List Term) (n : Nat) : List (List Term) := (rows one n n).filter fun xs => decide (2 ≤ xs.length)
noncomputable def every : Nat → Nat → List Term
  | 0, _ => []
  | d + 1, n => (if n = 1 then [.mk .a [], tB, .mk .f [tB]] else []) ++ (wide (every d) n).flatMap fun ks => [.mk .p ks, .mk .s ks]
theorem rows_mem {one : Nat → List Term} : ∀ (xs : List Term) (m : Nat), xs.length ≤ m → (∀ x ∈ xs, x ∈ one x.lv) → xs ∈ rows one m (Term.lvs xs)
  | [], m, _, _ => by
    cases m with
    | zero => rw [rows]; simp [Term.lvs]
    | succ m => rw [rows]; exact List.mem_append_left _ (by simp [Term.lvs])
  | x :: xs, 0, hm, _ => by simp at hm
  | x :: xs, m + 1, hm, h => by
    have hx := Term.lv_pos x
    rw [rows]
    refine List.mem_append_right _ (List.mem_flatMap.mpr ⟨x.lv - 1, by rw [List.mem_range, Term.lvs]; omega, ?_⟩)
    have e : x.lv - 1 + 1 = x.lv := by omega
    rw [e]
    refine List.mem_flatMap.mpr ⟨x, h x (.head _), List.mem_map.mpr ⟨xs, ?_, rfl⟩⟩
    have e2 : Term.lvs (x :: xs) - x.lv = Term.lvs xs := by rw [Term.lvs]; omega
    rw [e2]
    exact rows_mem xs m (by simpa using hm) fun y hy => h y (.tail _ hy)
theorem height_mem {x : Term} : ∀ {xs : List Term}, x ∈ xs → x.height ≤ Term.heights xs
  | y :: ys, h => by
    rw [Term.heights]
    rcases List.mem_cons.mp h with rfl | h
    · omega
    · have := height_mem h; omega
theorem every_mem : ∀ (d : Nat) (w : Term), wt w → w.height ≤ d → w ∈ every d w.lv
  | 0, .mk l ks, _, h => by rw [Term.height] at h; omega
  | d + 1, .mk l ks, hw, h => by
    rw [every]
    rcases wt_cases hw with ⟨hl, rfl⟩ | ⟨rfl, rfl⟩ | ⟨hl, h2, hks⟩
    · refine List.mem_append_left _ ?_
      rcases hl with rfl | rfl <;> simp [Term.lv, Term.lvs, tB]
    · refine List.mem_append_left _ ?_
      simp [Term.lv, Term.lvs, tB]
    · refine List.mem_append_right _ (List.mem_flatMap.mpr ⟨ks, ?_, by rcases hl with rfl | rfl <;> simp⟩)
      rw [lv_ps h2]
      refine List.mem_filter.mpr ⟨rows_mem ks _ (Term.len_lvs ks) fun x hx => ?_, by simpa using h2⟩
      have hh := height_mem hx
      rw [Term.height] at h
      exact every_mem d x ((wts_iff ks).mp hks x hx) (by omega)
theorem few_of : ∀ {xs m : List Term}, xs.Nodup → (∀ x ∈ xs, x ∈ m) → xs.length ≤ m.length
  | [], m, _, _ => Nat.zero_le _
  | x :: xs, m, hn, h => by
    obtain ⟨s, t, rfl⟩ := List.append_of_mem (h x (.head _))
    rw [List.nodup_cons] at hn
    have := few_of (xs := xs) (m := s ++ t) hn.2 fun y hy => by
      have := h y (.tail _ hy)
      rcases List.mem_append.mp this with q | q
      · exact List.mem_append_left _ q
      · rcases List.mem_cons.mp q with rfl | q
        · exact absurd hy hn.1
        · exact List.mem_append_right _ q
    simp at this ⊢; omega
theorem every_few : ∀ n, n ≤ 4 → (every 5 n).length ≤ 10000 := by
  intro n h
  match n with
  | 0 => decide +kernel
  | 1 => decide +kernel
  | 2 => decide +kernel
  | 3 => decide +kernel
  | 4 => decide +kernel
  | n + 5 => omega

theorem wt_fit {w : Term} (hw : wt w) (h4 : w.lv ≤ 4) : fit w := (wt_facts w hw).2.2.2 h4
theorem plain : Plain where
  keeps := by
    rintro ops t u hp ⟨c, w, rfl, hw, hl, h4⟩ h
    obtain ⟨w', rfl, a, b, e⟩ := rch_wt hp h hw
    exact ⟨c, w', rfl, a, by rw [e]; exact hl, by rw [b]; exact h4⟩
  few := by
    rintro ops t l hp ⟨c, w, rfl, hw, hl, h4⟩ hn h
    have := few_of (m := (every 5 w.lv).map c.app) hn fun u hu => by
      obtain ⟨w', rfl, a, b, e⟩ := rch_wt hp (h u hu) hw
      refine List.mem_map.mpr ⟨w', ?_, rfl⟩
      rw [← b]
      exact every_mem 5 w' a (by have := (wt_facts w' a).2.1; omega)
    rw [List.length_map] at this
    exact Nat.le_trans this (every_few _ h4)
  same := by
    rintro ops t u hp ⟨c, w, rfl, hw, hl, h4⟩ hu
    have hf : ∀ w, wt w → w.lv ≤ 4 → fit (c.app w) := fun w hw h4 => by
      have := wt_fit hw h4
      cases c with
      | id => exact this
      | f => exact fit_iff.mpr ⟨by simp, by simpa using this⟩
      | g => exact fit_iff.mpr ⟨by simp, by simp; exact ⟨this, by simp [tB, fit, fits]⟩⟩
    constructor
    · intro e
      have h1 := nf_rch hp _ (hf w hw h4)
      rw [e] at h1
      exact h1.trans (nf_rch hp u hu).symm
    · intro h
      induction h with
      | refl => rfl
      | step h1 h2 ih =>
        obtain ⟨w', rfl, a, b, e⟩ := rch_wt hp h1 hw
        have hf' := hf w' a (by omega)
        rw [ih hf', turn_nf hp _ _ _ (Nat.le_refl _) hf' h2]
  small := by
    rintro t ⟨c, w, rfl, hw, hl, h4⟩
    obtain ⟨a, b, g, d⟩ := wt_facts w hw
    have d := d h4
    cases c with
    | id => exact ⟨by show w.size ≤ _; omega, by show w.height ≤ _; omega, d, g⟩
    | f => exact ⟨by simp [Cx3.app, Term.size, Term.sizes]; omega, by simp [Cx3.app, Term.height, Term.heights]; omega, fit_iff.mpr ⟨by simp, by simpa using d⟩, by simp [Cx3.app, gok, goks]; exact g⟩
    | g => exact ⟨by simp [Cx3.app, Term.size, Term.sizes, tB]; omega, by simp [Cx3.app, Term.height, Term.heights, tB]; omega, fit_iff.mpr ⟨by simp, by simp; exact ⟨d, by simp [tB, fit, fits]⟩⟩, by simp [Cx3.app, gok, goks, tB]; exact g⟩
end Mine
end
open PySem PySem.W PyProof.Rows PySem.Calls PySem.Spec
set_option maxRecDepth 100000 in
set_option maxHeartbeats 4000000 in
theorem PySem.Challenge.cw_pq0044_01_holds : PySem.Challenge.rw_pq0044_01.Holds :=
  (by
  refine holds_law Mine.said_ fun said => PySem.W.holds_open (q := Mine.vw) (loose := []) (Xt := fun s => xlAt Mine.vw [] s && recOk (RowW.records PySem.Challenge.rw_pq0044_01.row.toRowW) s) (XP := XL Mine.vw []) (YP := (kHook Mine.heapK Mine.asK Mine.as_).says) (N := 2014) Mine.left_ (kHook Mine.heapK Mine.asK Mine.as_).of (kHook Mine.heapK Mine.asK Mine.as_).keeps (fun s e => xl_of s (Bool.and_eq_true_iff.mp e).1) XL.keeps (by rfl) (by rfl) (by rfl) (fun s e => recFacts_of (Bool.and_eq_true_iff.mp e).2) (by rfl) said (by decide +kernel) ⟨rfl, rfl, rfl, rfl, rfl, by decide +kernel⟩ Mine.wit ?_
  w_strict (k_go0; (all_goals try k_fold); rename_i F o2 o1 hb ht N X; refine Mine.law_main Mine.plain (by exact rfl) F (by exact rfl) ⟨o1, (N (_, o1) (by simp)).1, ht⟩ ⟨o2, (N (_, o2) (by simp)).1, hb⟩ (by assumption) ⟨_, _, _, _, topRead_of (by assumption)⟩ (by assumption) (by assumption) (by omega) (by exact rfl) (by show (1 + claimMargin) + 1 + 60 < recursionLimit; decide) (by show 4 + 3 + 1000 < cLine; decide) (fun s' u => ?_); refine ⟨.inl ⟨_, _, _, rfl, ?_, .bool true, ?_, ?_⟩, u.le, ?_, ?_⟩; (case refine_1 => exact fun _ => rfl); (case refine_2 => exact Mine.pst _); (case refine_3 => exact fun _ => ⟨List.nodup_nil, fun _ h => nomatch h⟩); (case refine_4 => (obtain ⟨hx, kx, rfl⟩ := u.ev; rfl)); (case refine_5 => (obtain ⟨hx, kx, rfl⟩ := u.ev; assumption))))
