import PyProof.Rows.All
import Wide.All
import OpenK.AllK
import Wide.FinOn
import PySem.Challenge.RW_xm0938_01
open PySem PySem.W PyProof.Rows PySem.Calls PyProof.V
set_option Elab.async false
set_option maxRecDepth 100000
set_option maxHeartbeats 0
namespace Mine
section
theorem left_of_boot {p q : Program} {loose : List Str} {Xt : Shared → Bool} {α : Type} {Yf : Shared → α} {Ya : World → α} {N : Nat} {g0 : Bool}
    (e : opening p = plainProg p.main.scope.names) (hN : Nat.ble 600 N = true) (f : ∀ s, fenceModules? p s = some s)
    (h : ∀ w : World, (fun os => (topFrom treeTable p w N ⟨boot_heap w.params, Array.mk [], boot_drawn, boot_toks, os⟩).map (fun s => (openSeen q loose (importedModules p.main.body) Xt g0 s, Yf s))) = fun _ => some (openGood q loose, Ya w)) :
    LeftO p q loose Xt Yf Ya N g0 := fun w => by
  obtain ⟨⟨h1, gs, d, k, os⟩, e1, e'⟩ := Option.map_eq_some_iff.mp (boot_open e hN f w)
  obtain ⟨rfl, rfl, rfl, rfl⟩ : h1 = boot_heap w.params ∧ gs = Array.mk [] ∧ d = boot_drawn ∧ k = boot_toks := by simpa using e'
  unfold openEnds
  rw [e1]
  exact congrFun (h w) os
theorem open_e : opening PySem.Challenge.pw_xm0938_01 = plainProg PySem.Challenge.pw_xm0938_01.main.scope.names := by kernel_rfl
theorem open_f : ∀ s, fenceModules? PySem.Challenge.pw_xm0938_01 s = some s := fun s => by kernel_rfl
end
section
noncomputable def stAt (i : Nat) : Stmt := match PySem.Challenge.pw_xm0938_01.main.body[i]? with | some s => s | none => .Pass default
noncomputable def stIn : Stmt → Nat → Stmt
  | .ClassDef _ _ _ b _ _ _ _ _ _ _, j => (match b[j]? with | some s => s | none => .Pass default)
  | s, _ => s
theorem cons_eq {α : Type} {a b : α} {l l' : List α} (h : a = b) (h' : l = l') : a :: l = b :: l' := by rw [h, h']
noncomputable def vbody : List Stmt := by
  apply (?f : ∀ k : List Stmt, (stAt 1 :: stAt 2 :: stAt 3 :: stAt 4 :: stAt 6 :: stAt 7 :: stAt 8 :: stAt 9 :: stAt 10 :: stAt 11 :: stAt 12 :: stAt 13 :: stAt 14 :: stAt 15 :: stAt 16 :: stAt 17 :: stAt 19 :: stAt 21 :: stAt 22 :: stAt 23 :: stAt 25 :: stAt 26 :: stAt 27 :: stAt 28 :: stAt 30 :: stAt 31 :: stAt 32 :: stAt 33 :: stAt 34 :: stAt 35 :: stAt 36 :: stAt 37 :: stAt 38 :: stAt 39 :: stAt 40 :: stAt 41 :: stAt 42 :: stAt 43 :: stAt 44 :: stAt 45 :: stAt 46 :: stAt 47 :: stAt 49 :: stAt 50 :: stAt 51 :: stAt 52 :: stAt 53 :: stAt 54 :: stAt 55 :: stAt 56 :: stAt 57 :: stAt 59 :: stAt 60 :: stAt 61 :: stAt 62 :: []) = k → List Stmt)
  case' f => exact fun k _ => k
  iterate 55 (apply cons_eq; · conv => lhs; whnf)
  rfl
noncomputable def vw : Program := { Challenge.pw_xm0938_01 with main := { Challenge.pw_xm0938_01.main with body := vbody } }
end
section
noncomputable def fnO (st : Stmt) (q : Str) (cl : List (Str × Addr)) (d pm c ct : Value) : Obj := match st with
  | .FunctionDef n a b _ _ _ sc _ _ _ => ⟨.type "function", none, .func ⟨n, q, a, .stmts b, sc, 3, cl, d, .none, .none, pm, none, c, ct, 0⟩, #[]⟩
  | _ => default
theorem row_eq {n : Nat} {o o' : Obj} {l l' : Frag} (h : o = o') (h' : l = l') : ((n, o) :: l : Frag) = (n, o') :: l' := by rw [h, h']
noncomputable def K : Params → Frag := by
  intro P
  apply (?f : ∀ k : Frag, (
  (nat_lit 2, ⟨.none, none, (.dict #[⟨PyData.keyHash P (Str.ofString "type.__subclasses__.Exception.0"), (.str (Str.ofString "type.__subclasses__.Exception.0") 265), (.int 62 0)⟩, ⟨PyData.keyHash P (Str.ofString "type.__subclasses__.Exception.n"), (.str (Str.ofString "type.__subclasses__.Exception.n") 266), (.int 1 0)⟩] 2), #[]⟩) ::
  (nat_lit 3, ⟨(.type "dict"), none, (.dict (List.toArray (⟨PyData.keyHash P (Str.ofString "__name__"), (.str (Str.ofString "__name__") 165), (.str (Str.ofString "law_xm0938_01") 827)⟩ :: ⟨PyData.keyHash P (Str.ofString "__doc__"), (.str (Str.ofString "__doc__") 166), .none⟩ :: ⟨PyData.keyHash P (Str.ofString "__package__"), (.str (Str.ofString "__package__") 167), .none⟩ :: ⟨PyData.keyHash P (Str.ofString "__loader__"), (.str (Str.ofString "__loader__") 168), (.builtin "__main__.__loader__#opaque")⟩ :: ⟨PyData.keyHash P (Str.ofString "__spec__"), (.str (Str.ofString "__spec__") 169), .none⟩ :: ⟨PyData.keyHash P (Str.ofString "__annotations__"), (.str (Str.ofString "__annotations__") 170), (.ref 6)⟩ :: ⟨PyData.keyHash P (Str.ofString "__builtins__"), (.str (Str.ofString "__builtins__") 171), (.ref 4)⟩ :: ⟨PyData.keyHash P (Str.ofString "__file__"), (.str (Str.ofString "__file__") 173), (.str (Str.ofString "/claim/cut.py") 172)⟩ :: ⟨PyData.keyHash P (Str.ofString "__cached__"), (.str (Str.ofString "__cached__") 174), .none⟩ :: ⟨PyData.keyHash P (Str.ofString "give_names"), (.str (Str.ofString "give_names") 198), (.ref 21)⟩ :: ⟨PyData.keyHash P (Str.ofString "three_pieces"), (.str (Str.ofString "three_pieces") 206), (.ref 28)⟩ :: ⟨PyData.keyHash P (Str.ofString "spliced"), (.str (Str.ofString "spliced") 218), (.ref 35)⟩ :: ⟨PyData.keyHash P (Str.ofString "replace_once"), (.str (Str.ofString "replace_once") 232), (.ref 42)⟩ :: ⟨PyData.keyHash P (Str.ofString "SnobolError"), (.str (Str.ofString "SnobolError") 268), (.ref 62)⟩ :: ⟨PyData.keyHash P (Str.ofString "Failure"), (.str (Str.ofString "Failure") 288), (.ref 75)⟩ :: ⟨PyData.keyHash P (Str.ofString "Pattern"), (.str (Str.ofString "Pattern") 317), (.ref 96)⟩ :: ⟨PyData.keyHash P (Str.ofString "Delayed"), (.str (Str.ofString "Delayed") 346), (.ref 117)⟩ :: ⟨PyData.keyHash P (Str.ofString "NameRef"), (.str (Str.ofString "NameRef") 379), (.ref 138)⟩ :: ⟨PyData.keyHash P (Str.ofString "is_fail"), (.str (Str.ofString "is_fail") 386), (.ref 149)⟩ :: ⟨PyData.keyHash P (Str.ofString "fits"), (.str (Str.ofString "fits") 394), (.ref 156)⟩ :: ⟨PyData.keyHash P (Str.ofString "whole_of_text"), (.str (Str.ofString "whole_of_text") 405), (.ref 163)⟩ :: ⟨PyData.keyHash P (Str.ofString "text_of_whole"), (.str (Str.ofString "text_of_whole") 414), (.ref 170)⟩ :: ⟨PyData.keyHash P (Str.ofString "to_whole"), (.str (Str.ofString "to_whole") 422), (.ref 177)⟩ :: ⟨PyData.keyHash P (Str.ofString "to_text"), (.str (Str.ofString "to_text") 429), (.ref 184)⟩ :: ⟨PyData.keyHash P (Str.ofString "need_text"), (.str (Str.ofString "need_text") 437), (.ref 191)⟩ :: ⟨PyData.keyHash P (Str.ofString "PlainHost"), (.str (Str.ofString "PlainHost") 499), (.ref 229)⟩ :: ⟨PyData.keyHash P (Str.ofString "COUNTED"), (.str (Str.ofString "COUNTED") 507), (.ref 234)⟩ :: ⟨PyData.keyHash P (Str.ofString "SIGNED"), (.str (Str.ofString "SIGNED") 512), (.ref 235)⟩ :: ⟨PyData.keyHash P (Str.ofString "WIDTH_OF_COUNT"), (.str (Str.ofString "WIDTH_OF_COUNT") 514), (.int 64 513)⟩ :: ⟨PyData.keyHash P (Str.ofString "plain_count"), (.str (Str.ofString "plain_count") 524), (.ref 243)⟩ :: ⟨PyData.keyHash P (Str.ofString "plain_signs"), (.str (Str.ofString "plain_signs") 533), (.ref 250)⟩ :: ⟨PyData.keyHash P (Str.ofString "pattern_of"), (.str (Str.ofString "pattern_of") 541), (.ref 257)⟩ :: ⟨PyData.keyHash P (Str.ofString "is_delayed"), (.str (Str.ofString "is_delayed") 548), (.ref 264)⟩ :: ⟨PyData.keyHash P (Str.ofString "settled"), (.str (Str.ofString "settled") 557), (.ref 271)⟩ :: ⟨PyData.keyHash P (Str.ofString "OPENING"), (.str (Str.ofString "OPENING") 561), (.str (Str.ofString "(") 560)⟩ :: ⟨PyData.keyHash P (Str.ofString "CLOSING"), (.str (Str.ofString "CLOSING") 563), (.str (Str.ofString ")") 562)⟩ :: ⟨PyData.keyHash P (Str.ofString "chars_end"), (.str (Str.ofString "chars_end") 573), (.ref 278)⟩ :: ⟨PyData.keyHash P (Str.ofString "len_end"), (.str (Str.ofString "len_end") 582), (.ref 285)⟩ :: ⟨PyData.keyHash P (Str.ofString "pos_end"), (.str (Str.ofString "pos_end") 590), (.ref 292)⟩ :: ⟨PyData.keyHash P (Str.ofString "rpos_end"), (.str (Str.ofString "rpos_end") 599), (.ref 299)⟩ :: ⟨PyData.keyHash P (Str.ofString "tab_end"), (.str (Str.ofString "tab_end") 608), (.ref 306)⟩ :: ⟨PyData.keyHash P (Str.ofString "rtab_end"), (.str (Str.ofString "rtab_end") 618), (.ref 313)⟩ :: ⟨PyData.keyHash P (Str.ofString "rem_end"), (.str (Str.ofString "rem_end") 625), (.ref 320)⟩ :: ⟨PyData.keyHash P (Str.ofString "any_at"), (.str (Str.ofString "any_at") 634), (.ref 327)⟩ :: ⟨PyData.keyHash P (Str.ofString "notany_at"), (.str (Str.ofString "notany_at") 643), (.ref 334)⟩ :: ⟨PyData.keyHash P (Str.ofString "run_end"), (.str (Str.ofString "run_end") 653), (.ref 341)⟩ :: ⟨PyData.keyHash P (Str.ofString "span_end"), (.str (Str.ofString "span_end") 663), (.ref 348)⟩ :: ⟨PyData.keyHash P (Str.ofString "break_end"), (.str (Str.ofString "break_end") 673), (.ref 355)⟩ :: ⟨PyData.keyHash P (Str.ofString "bal_end"), (.str (Str.ofString "bal_end") 682), (.ref 362)⟩ :: ⟨PyData.keyHash P (Str.ofString "bal_ends"), (.str (Str.ofString "bal_ends") 692), (.ref 369)⟩ :: ⟨PyData.keyHash P (Str.ofString "one_end"), (.str (Str.ofString "one_end") 702), (.ref 376)⟩ :: ⟨PyData.keyHash P (Str.ofString "plain_end"), (.str (Str.ofString "plain_end") 711), (.ref 383)⟩ :: ⟨PyData.keyHash P (Str.ofString "LOST"), (.str (Str.ofString "LOST") 715), (.str (Str.ofString "lost") 714)⟩ :: ⟨PyData.keyHash P (Str.ofString "match_plain"), (.str (Str.ofString "match_plain") 727), (.ref 390)⟩ :: ⟨PyData.keyHash P (Str.ofString "match_at"), (.str (Str.ofString "match_at") 738), (.ref 397)⟩ :: ⟨PyData.keyHash P (Str.ofString "tried"), (.str (Str.ofString "tried") 753), (.ref 404)⟩ :: ⟨PyData.keyHash P (Str.ofString "advanced"), (.str (Str.ofString "advanced") 769), (.ref 411)⟩ :: ⟨PyData.keyHash P (Str.ofString "led_in"), (.str (Str.ofString "led_in") 781), (.ref 418)⟩ :: ⟨PyData.keyHash P (Str.ofString "led_out"), (.str (Str.ofString "led_out") 797), (.ref 425)⟩ :: ⟨PyData.keyHash P (Str.ofString "steered"), (.str (Str.ofString "steered") 809), (.ref 432)⟩ :: ⟨PyData.keyHash P (Str.ofString "taken"), (.str (Str.ofString "taken") 826), (.ref 439)⟩ :: ⟨PyData.keyHash P (Str.ofString "_law_now"), (.str (Str.ofString "_law_now") 836), (.ref 446)⟩ :: ⟨PyData.keyHash P (Str.ofString "_law_turned"), (.str (Str.ofString "_law_turned") 850), (.ref 453)⟩ :: ⟨PyData.keyHash P (Str.ofString "_law_unlike"), (.str (Str.ofString "_law_unlike") 856), (.ref 458)⟩ :: ⟨PyData.keyHash P (Str.ofString "law"), (.str (Str.ofString "law") 862), (.ref 463)⟩ :: [])) 65), #[]⟩) ::
  (nat_lit 15, ⟨(.type "tuple"), none, (.seq #[] 0), #[]⟩) ::
  (nat_lit 17, ⟨(.type "tuple"), none, (.seq #[(.str (Str.ofString "found") 192), (.str (Str.ofString "give") 193), (.str (Str.ofString "ref") 194), (.str (Str.ofString "text") 195)] 0), #[]⟩) ::
  (nat_lit 18, ⟨(.type "tuple"), none, (.seq #[] 0), #[]⟩) ::
  (nat_lit 20, ⟨(.type "code"), none, (.fields #[(.str (Str.ofString "give_names") 189), (.str (Str.ofString "give_names") 190), (.str (Str.ofString "/claim/cut.py") 191), (.int 2 0), (.int 2 0), (.int 0 0), (.int 0 0), (.int 3 0), (.ref 15), (.bool true), (.int 181 0), (.ref 16), .none, (.ref 17), (.ref 18), (.ref 19), (.int 196 0), (.int 2 0), (.str (Str.ofString "/claim/cut.py") 197)]), #[]⟩) ::
  (nat_lit 21, fnO (stAt 1) (Str.ofString "give_names") [] .none (.str (Str.ofString "snobol.matchcore") 187) (.ref 20) .none) ::
  (nat_lit 22, ⟨(.type "tuple"), none, (.seq #[] 0), #[]⟩) ::
  (nat_lit 24, ⟨(.type "tuple"), none, (.seq #[(.str (Str.ofString "subject") 202), (.str (Str.ofString "found") 203)] 0), #[]⟩) ::
  (nat_lit 25, ⟨(.type "tuple"), none, (.seq #[] 0), #[]⟩) ::
  (nat_lit 27, ⟨(.type "code"), none, (.fields #[(.str (Str.ofString "three_pieces") 199), (.str (Str.ofString "three_pieces") 200), (.str (Str.ofString "/claim/cut.py") 201), (.int 5 0), (.int 2 0), (.int 0 0), (.int 0 0), (.int 3 0), (.ref 22), (.bool true), (.int 181 0), (.ref 23), .none, (.ref 24), (.ref 25), (.ref 26), (.int 204 0), (.int 5 0), (.str (Str.ofString "/claim/cut.py") 205)]), #[]⟩) ::
  (nat_lit 28, fnO (stAt 2) (Str.ofString "three_pieces") [] .none (.str (Str.ofString "snobol.matchcore") 187) (.ref 27) .none) ::
  (nat_lit 29, ⟨(.type "tuple"), none, (.seq #[] 0), #[]⟩) ::
  (nat_lit 31, ⟨(.type "tuple"), none, (.seq #[(.str (Str.ofString "subject") 210), (.str (Str.ofString "found") 211), (.str (Str.ofString "text") 212), (.str (Str.ofString "ahead") 213), (.str (Str.ofString "met") 214), (.str (Str.ofString "behind") 215)] 0), #[]⟩) ::
  (nat_lit 32, ⟨(.type "tuple"), none, (.seq #[] 0), #[]⟩) ::
  (nat_lit 34, ⟨(.type "code"), none, (.fields #[(.str (Str.ofString "spliced") 207), (.str (Str.ofString "spliced") 208), (.str (Str.ofString "/claim/cut.py") 209), (.int 7 0), (.int 3 0), (.int 0 0), (.int 0 0), (.int 3 0), (.ref 29), (.bool true), (.int 181 0), (.ref 30), .none, (.ref 31), (.ref 32), (.ref 33), (.int 216 0), (.int 7 0), (.str (Str.ofString "/claim/cut.py") 217)]), #[]⟩) ::
  (nat_lit 35, fnO (stAt 3) (Str.ofString "spliced") [] .none (.str (Str.ofString "snobol.matchcore") 187) (.ref 34) .none) ::
  (nat_lit 36, ⟨(.type "tuple"), none, (.seq #[] 0), #[]⟩) ::
  (nat_lit 38, ⟨(.type "tuple"), none, (.seq #[(.str (Str.ofString "matcher") 222), (.str (Str.ofString "node") 223), (.str (Str.ofString "subject") 224), (.str (Str.ofString "is_anchored") 225), (.str (Str.ofString "host") 226), (.str (Str.ofString "text_of") 227), (.str (Str.ofString "found") 228), (.str (Str.ofString "text") 229)] 0), #[]⟩) ::
  (nat_lit 39, ⟨(.type "tuple"), none, (.seq #[] 0), #[]⟩) ::
  (nat_lit 41, ⟨(.type "code"), none, (.fields #[(.str (Str.ofString "replace_once") 219), (.str (Str.ofString "replace_once") 220), (.str (Str.ofString "/claim/cut.py") 221), (.int 10 0), (.int 6 0), (.int 0 0), (.int 0 0), (.int 3 0), (.ref 36), (.bool true), (.int 181 0), (.ref 37), .none, (.ref 38), (.ref 39), (.ref 40), (.int 230 0), (.int 10 0), (.str (Str.ofString "/claim/cut.py") 231)]), #[]⟩) ::
  (nat_lit 42, fnO (stAt 4) (Str.ofString "replace_once") [] .none (.str (Str.ofString "snobol.matchcore") 187) (.ref 41) .none) ::
  (nat_lit 43, ⟨(.type "tuple"), none, (.seq #[(.type "Exception")] 0), #[]⟩) ::
  (nat_lit 46, ⟨(.type "cell"), none, (.cell (some (.ref 62))), #[]⟩) ::
  (nat_lit 51, ⟨(.type "tuple"), none, (.seq #[(.str (Str.ofString "") 247)] 0), #[]⟩) ::
  (nat_lit 52, ⟨(.type "tuple"), none, (.seq #[(.ref 46)] 0), #[]⟩) ::
  (nat_lit 53, ⟨(.type "tuple"), none, (.seq #[(.str (Str.ofString "__class__") 251)] 0), #[]⟩) ::
  (nat_lit 55, ⟨(.type "tuple"), none, (.seq #[(.str (Str.ofString "self") 252), (.str (Str.ofString "number") 253), (.str (Str.ofString "told") 254)] 0), #[]⟩) ::
  (nat_lit 56, ⟨(.type "tuple"), none, (.seq #[] 0), #[]⟩) ::
  (nat_lit 58, ⟨(.type "code"), none, (.fields #[(.str (Str.ofString "__init__") 248), (.str (Str.ofString "SnobolError.__init__") 249), (.str (Str.ofString "/claim/cut.py") 250), (.int 20 0), (.int 3 0), (.int 0 0), (.int 0 0), (.int 3 0), (.ref 53), (.bool true), (.int 181 0), (.ref 54), .none, (.ref 55), (.ref 56), (.ref 57), (.int 255 0), (.int 20 0), (.str (Str.ofString "/claim/cut.py") 256)]), #[]⟩) ::
  (nat_lit 59, fnO (stIn (stAt 6) 0) (Str.ofString "SnobolError.__init__") [((Str.ofString "__class__"), 46)] (.ref 51) (.str (Str.ofString "snobol.values") 233) (.ref 58) (.ref 52)) ::
  (nat_lit 60, ⟨(.type "tuple"), none, (.seq #[(.str (Str.ofString "number") 258), (.str (Str.ofString "told") 259)] 0), #[]⟩) ::
  (nat_lit 61, ⟨(.type "dict"), none, (.dict #[⟨PyData.keyHash P (Str.ofString "__module__"), (.str (Str.ofString "__module__") 242), (.str (Str.ofString "snobol.values") 233)⟩, ⟨PyData.keyHash P (Str.ofString "__firstlineno__"), (.str (Str.ofString "__firstlineno__") 246), (.int 18 245)⟩, ⟨PyData.keyHash P (Str.ofString "__init__"), (.str (Str.ofString "__init__") 257), (.ref 59)⟩, ⟨PyData.keyHash P (Str.ofString "__static_attributes__"), (.str (Str.ofString "__static_attributes__") 260), (.ref 60)⟩, ⟨PyData.keyHash P (Str.ofString "__weakref__"), (.str (Str.ofString "__weakref__") 263), (.ref 63)⟩, ⟨PyData.keyHash P (Str.ofString "__doc__"), (.str (Str.ofString "__doc__") 264), .none⟩] 4), #[]⟩) ::
  (nat_lit 62, ⟨(.type "type"), none, (.cls ⟨(Str.ofString "SnobolError"), [(.type "Exception")], [(.ref 62), (.type "Exception"), (.type "BaseException"), (.type "object")], 61, (Str.ofString "SnobolError"), true, [], [], false, none, false⟩), #[(some (.ref 43)), none, (some (.str (Str.ofString "SnobolError") 235)), (some (.str (Str.ofString "SnobolError") 243)), (some (.builtin "Exception.__new__")), (some (.bool true))]⟩) ::
  (nat_lit 63, ⟨(.type "getset_descriptor"), none, (.fields #[(.str (Str.ofString "__weakref__") 262), (.ref 62), (.builtin "ExceptionGroup.__weakref__"), .none]), #[]⟩) ::
  (nat_lit 73, ⟨(.type "tuple"), none, (.seq #[] 0), #[]⟩) ::
  (nat_lit 74, ⟨(.type "dict"), none, (.dict #[⟨PyData.keyHash P (Str.ofString "__module__"), (.str (Str.ofString "__module__") 276), (.str (Str.ofString "snobol.values") 233)⟩, ⟨PyData.keyHash P (Str.ofString "__firstlineno__"), (.str (Str.ofString "__firstlineno__") 280), (.int 24 279)⟩, ⟨PyData.keyHash P (Str.ofString "__static_attributes__"), (.str (Str.ofString "__static_attributes__") 281), (.ref 73)⟩, ⟨PyData.keyHash P (Str.ofString "__dict__"), (.str (Str.ofString "__dict__") 283), (.ref 76)⟩, ⟨PyData.keyHash P (Str.ofString "__weakref__"), (.str (Str.ofString "__weakref__") 285), (.ref 77)⟩, ⟨PyData.keyHash P (Str.ofString "__doc__"), (.str (Str.ofString "__doc__") 286), .none⟩] 4), #[]⟩) ::
  (nat_lit 75, ⟨(.type "type"), none, (.cls ⟨(Str.ofString "Failure"), [(.type "object")], [(.ref 75), (.type "object")], 74, (Str.ofString "Failure"), true, [], [], false, none, false⟩), #[none, none, (some (.str (Str.ofString "Failure") 269)), (some (.str (Str.ofString "Failure") 277)), (some (.builtin "object.__new__")), (some (.bool true))]⟩) ::
  (nat_lit 76, ⟨(.type "getset_descriptor"), none, (.fields #[(.str (Str.ofString "__dict__") 282), (.ref 75), (.builtin "function.__dict__"), (.builtin "function.__dict__#set")]), #[]⟩) ::
  (nat_lit 77, ⟨(.type "getset_descriptor"), none, (.fields #[(.str (Str.ofString "__weakref__") 284), (.ref 75), (.builtin "ExceptionGroup.__weakref__"), .none]), #[]⟩) ::
  (nat_lit 87, ⟨(.type "tuple"), none, (.seq #[] 0), #[]⟩) ::
  (nat_lit 89, ⟨(.type "tuple"), none, (.seq #[(.str (Str.ofString "self") 304), (.str (Str.ofString "node") 305)] 0), #[]⟩) ::
  (nat_lit 90, ⟨(.type "tuple"), none, (.seq #[] 0), #[]⟩) ::
  (nat_lit 92, ⟨(.type "code"), none, (.fields #[(.str (Str.ofString "__init__") 301), (.str (Str.ofString "Pattern.__init__") 302), (.str (Str.ofString "/claim/cut.py") 303), (.int 28 0), (.int 2 0), (.int 0 0), (.int 0 0), (.int 3 0), (.ref 87), (.bool true), (.int 181 0), (.ref 88), .none, (.ref 89), (.ref 90), (.ref 91), (.int 306 0), (.int 28 0), (.str (Str.ofString "/claim/cut.py") 307)]), #[]⟩) ::
  (nat_lit 93, fnO (stIn (stAt 8) 0) (Str.ofString "Pattern.__init__") [] .none (.str (Str.ofString "snobol.values") 233) (.ref 92) .none) ::
  (nat_lit 94, ⟨(.type "tuple"), none, (.seq #[(.str (Str.ofString "node") 309)] 0), #[]⟩) ::
  (nat_lit 95, ⟨(.type "dict"), none, (.dict #[⟨PyData.keyHash P (Str.ofString "__module__"), (.str (Str.ofString "__module__") 296), (.str (Str.ofString "snobol.values") 233)⟩, ⟨PyData.keyHash P (Str.ofString "__firstlineno__"), (.str (Str.ofString "__firstlineno__") 300), (.int 26 299)⟩, ⟨PyData.keyHash P (Str.ofString "__init__"), (.str (Str.ofString "__init__") 308), (.ref 93)⟩, ⟨PyData.keyHash P (Str.ofString "__static_attributes__"), (.str (Str.ofString "__static_attributes__") 310), (.ref 94)⟩, ⟨PyData.keyHash P (Str.ofString "__dict__"), (.str (Str.ofString "__dict__") 312), (.ref 97)⟩, ⟨PyData.keyHash P (Str.ofString "__weakref__"), (.str (Str.ofString "__weakref__") 314), (.ref 98)⟩, ⟨PyData.keyHash P (Str.ofString "__doc__"), (.str (Str.ofString "__doc__") 315), .none⟩] 4), #[]⟩) ::
  (nat_lit 96, ⟨(.type "type"), none, (.cls ⟨(Str.ofString "Pattern"), [(.type "object")], [(.ref 96), (.type "object")], 95, (Str.ofString "Pattern"), true, [], [], false, none, false⟩), #[none, none, (some (.str (Str.ofString "Pattern") 289)), (some (.str (Str.ofString "Pattern") 297)), (some (.builtin "object.__new__")), (some (.bool true))]⟩) ::
  (nat_lit 97, ⟨(.type "getset_descriptor"), none, (.fields #[(.str (Str.ofString "__dict__") 311), (.ref 96), (.builtin "function.__dict__"), (.builtin "function.__dict__#set")]), #[]⟩) ::
  (nat_lit 98, ⟨(.type "getset_descriptor"), none, (.fields #[(.str (Str.ofString "__weakref__") 313), (.ref 96), (.builtin "ExceptionGroup.__weakref__"), .none]), #[]⟩) ::
  (nat_lit 108, ⟨(.type "tuple"), none, (.seq #[] 0), #[]⟩) ::
  (nat_lit 110, ⟨(.type "tuple"), none, (.seq #[(.str (Str.ofString "self") 333), (.str (Str.ofString "tree") 334)] 0), #[]⟩) ::
  (nat_lit 111, ⟨(.type "tuple"), none, (.seq #[] 0), #[]⟩) ::
  (nat_lit 113, ⟨(.type "code"), none, (.fields #[(.str (Str.ofString "__init__") 330), (.str (Str.ofString "Delayed.__init__") 331), (.str (Str.ofString "/claim/cut.py") 332), (.int 32 0), (.int 2 0), (.int 0 0), (.int 0 0), (.int 3 0), (.ref 108), (.bool true), (.int 181 0), (.ref 109), .none, (.ref 110), (.ref 111), (.ref 112), (.int 335 0), (.int 32 0), (.str (Str.ofString "/claim/cut.py") 336)]), #[]⟩) ::
  (nat_lit 114, fnO (stIn (stAt 9) 0) (Str.ofString "Delayed.__init__") [] .none (.str (Str.ofString "snobol.values") 233) (.ref 113) .none) ::
  (nat_lit 115, ⟨(.type "tuple"), none, (.seq #[(.str (Str.ofString "tree") 338)] 0), #[]⟩) ::
  (nat_lit 116, ⟨(.type "dict"), none, (.dict #[⟨PyData.keyHash P (Str.ofString "__module__"), (.str (Str.ofString "__module__") 325), (.str (Str.ofString "snobol.values") 233)⟩, ⟨PyData.keyHash P (Str.ofString "__firstlineno__"), (.str (Str.ofString "__firstlineno__") 329), (.int 30 328)⟩, ⟨PyData.keyHash P (Str.ofString "__init__"), (.str (Str.ofString "__init__") 337), (.ref 114)⟩, ⟨PyData.keyHash P (Str.ofString "__static_attributes__"), (.str (Str.ofString "__static_attributes__") 339), (.ref 115)⟩, ⟨PyData.keyHash P (Str.ofString "__dict__"), (.str (Str.ofString "__dict__") 341), (.ref 118)⟩, ⟨PyData.keyHash P (Str.ofString "__weakref__"), (.str (Str.ofString "__weakref__") 343), (.ref 119)⟩, ⟨PyData.keyHash P (Str.ofString "__doc__"), (.str (Str.ofString "__doc__") 344), .none⟩] 4), #[]⟩) ::
  (nat_lit 117, ⟨(.type "type"), none, (.cls ⟨(Str.ofString "Delayed"), [(.type "object")], [(.ref 117), (.type "object")], 116, (Str.ofString "Delayed"), true, [], [], false, none, false⟩), #[none, none, (some (.str (Str.ofString "Delayed") 318)), (some (.str (Str.ofString "Delayed") 326)), (some (.builtin "object.__new__")), (some (.bool true))]⟩) ::
  (nat_lit 118, ⟨(.type "getset_descriptor"), none, (.fields #[(.str (Str.ofString "__dict__") 340), (.ref 117), (.builtin "function.__dict__"), (.builtin "function.__dict__#set")]), #[]⟩) ::
  (nat_lit 119, ⟨(.type "getset_descriptor"), none, (.fields #[(.str (Str.ofString "__weakref__") 342), (.ref 117), (.builtin "ExceptionGroup.__weakref__"), .none]), #[]⟩) ::
  (nat_lit 129, ⟨(.type "tuple"), none, (.seq #[] 0), #[]⟩) ::
  (nat_lit 131, ⟨(.type "tuple"), none, (.seq #[(.str (Str.ofString "self") 362), (.str (Str.ofString "kind") 363), (.str (Str.ofString "owner") 364), (.str (Str.ofString "key") 365)] 0), #[]⟩) ::
  (nat_lit 132, ⟨(.type "tuple"), none, (.seq #[] 0), #[]⟩) ::
  (nat_lit 134, ⟨(.type "code"), none, (.fields #[(.str (Str.ofString "__init__") 359), (.str (Str.ofString "NameRef.__init__") 360), (.str (Str.ofString "/claim/cut.py") 361), (.int 36 0), (.int 4 0), (.int 0 0), (.int 0 0), (.int 3 0), (.ref 129), (.bool true), (.int 181 0), (.ref 130), .none, (.ref 131), (.ref 132), (.ref 133), (.int 366 0), (.int 36 0), (.str (Str.ofString "/claim/cut.py") 367)]), #[]⟩) ::
  (nat_lit 135, fnO (stIn (stAt 10) 0) (Str.ofString "NameRef.__init__") [] .none (.str (Str.ofString "snobol.values") 233) (.ref 134) .none) ::
  (nat_lit 136, ⟨(.type "tuple"), none, (.seq #[(.str (Str.ofString "key") 369), (.str (Str.ofString "kind") 370), (.str (Str.ofString "owner") 371)] 0), #[]⟩) ::
  (nat_lit 137, ⟨(.type "dict"), none, (.dict #[⟨PyData.keyHash P (Str.ofString "__module__"), (.str (Str.ofString "__module__") 354), (.str (Str.ofString "snobol.values") 233)⟩, ⟨PyData.keyHash P (Str.ofString "__firstlineno__"), (.str (Str.ofString "__firstlineno__") 358), (.int 34 357)⟩, ⟨PyData.keyHash P (Str.ofString "__init__"), (.str (Str.ofString "__init__") 368), (.ref 135)⟩, ⟨PyData.keyHash P (Str.ofString "__static_attributes__"), (.str (Str.ofString "__static_attributes__") 372), (.ref 136)⟩, ⟨PyData.keyHash P (Str.ofString "__dict__"), (.str (Str.ofString "__dict__") 374), (.ref 139)⟩, ⟨PyData.keyHash P (Str.ofString "__weakref__"), (.str (Str.ofString "__weakref__") 376), (.ref 140)⟩, ⟨PyData.keyHash P (Str.ofString "__doc__"), (.str (Str.ofString "__doc__") 377), .none⟩] 4), #[]⟩) ::
  (nat_lit 138, ⟨(.type "type"), none, (.cls ⟨(Str.ofString "NameRef"), [(.type "object")], [(.ref 138), (.type "object")], 137, (Str.ofString "NameRef"), true, [], [], false, none, false⟩), #[none, none, (some (.str (Str.ofString "NameRef") 347)), (some (.str (Str.ofString "NameRef") 355)), (some (.builtin "object.__new__")), (some (.bool true))]⟩) ::
  (nat_lit 139, ⟨(.type "getset_descriptor"), none, (.fields #[(.str (Str.ofString "__dict__") 373), (.ref 138), (.builtin "function.__dict__"), (.builtin "function.__dict__#set")]), #[]⟩) ::
  (nat_lit 140, ⟨(.type "getset_descriptor"), none, (.fields #[(.str (Str.ofString "__weakref__") 375), (.ref 138), (.builtin "ExceptionGroup.__weakref__"), .none]), #[]⟩) ::
  (nat_lit 143, ⟨(.type "tuple"), none, (.seq #[] 0), #[]⟩) ::
  (nat_lit 145, ⟨(.type "tuple"), none, (.seq #[(.str (Str.ofString "value") 383)] 0), #[]⟩) ::
  (nat_lit 146, ⟨(.type "tuple"), none, (.seq #[] 0), #[]⟩) ::
  (nat_lit 148, ⟨(.type "code"), none, (.fields #[(.str (Str.ofString "is_fail") 380), (.str (Str.ofString "is_fail") 381), (.str (Str.ofString "/claim/cut.py") 382), (.int 40 0), (.int 1 0), (.int 0 0), (.int 0 0), (.int 3 0), (.ref 143), (.bool true), (.int 181 0), (.ref 144), .none, (.ref 145), (.ref 146), (.ref 147), (.int 384 0), (.int 40 0), (.str (Str.ofString "/claim/cut.py") 385)]), #[]⟩) ::
  (nat_lit 149, fnO (stAt 11) (Str.ofString "is_fail") [] .none (.str (Str.ofString "snobol.values") 233) (.ref 148) .none) ::
  (nat_lit 150, ⟨(.type "tuple"), none, (.seq #[] 0), #[]⟩) ::
  (nat_lit 152, ⟨(.type "tuple"), none, (.seq #[(.str (Str.ofString "number") 390), (.str (Str.ofString "width") 391)] 0), #[]⟩) ::
  (nat_lit 153, ⟨(.type "tuple"), none, (.seq #[] 0), #[]⟩) ::
  (nat_lit 155, ⟨(.type "code"), none, (.fields #[(.str (Str.ofString "fits") 387), (.str (Str.ofString "fits") 388), (.str (Str.ofString "/claim/cut.py") 389), (.int 42 0), (.int 2 0), (.int 0 0), (.int 0 0), (.int 3 0), (.ref 150), (.bool true), (.int 181 0), (.ref 151), .none, (.ref 152), (.ref 153), (.ref 154), (.int 392 0), (.int 42 0), (.str (Str.ofString "/claim/cut.py") 393)]), #[]⟩) ::
  (nat_lit 156, fnO (stAt 12) (Str.ofString "fits") [] .none (.str (Str.ofString "snobol.values") 233) (.ref 155) .none) ::
  (nat_lit 157, ⟨(.type "tuple"), none, (.seq #[] 0), #[]⟩) ::
  (nat_lit 159, ⟨(.type "tuple"), none, (.seq #[(.str (Str.ofString "text") 398), (.str (Str.ofString "width") 399), (.str (Str.ofString "digits") 400), (.str (Str.ofString "number") 401), (.str (Str.ofString "sign") 402)] 0), #[]⟩) ::
  (nat_lit 160, ⟨(.type "tuple"), none, (.seq #[] 0), #[]⟩) ::
  (nat_lit 162, ⟨(.type "code"), none, (.fields #[(.str (Str.ofString "whole_of_text") 395), (.str (Str.ofString "whole_of_text") 396), (.str (Str.ofString "/claim/cut.py") 397), (.int 44 0), (.int 2 0), (.int 0 0), (.int 0 0), (.int 3 0), (.ref 157), (.bool true), (.int 181 0), (.ref 158), .none, (.ref 159), (.ref 160), (.ref 161), (.int 403 0), (.int 44 0), (.str (Str.ofString "/claim/cut.py") 404)]), #[]⟩) ::
  (nat_lit 163, fnO (stAt 13) (Str.ofString "whole_of_text") [] .none (.str (Str.ofString "snobol.values") 233) (.ref 162) .none) ::
  (nat_lit 164, ⟨(.type "tuple"), none, (.seq #[] 0), #[]⟩) ::
  (nat_lit 166, ⟨(.type "tuple"), none, (.seq #[(.str (Str.ofString "number") 409), (.str (Str.ofString "left") 410), (.str (Str.ofString "found") 411)] 0), #[]⟩) ::
  (nat_lit 167, ⟨(.type "tuple"), none, (.seq #[] 0), #[]⟩) ::
  (nat_lit 169, ⟨(.type "code"), none, (.fields #[(.str (Str.ofString "text_of_whole") 406), (.str (Str.ofString "text_of_whole") 407), (.str (Str.ofString "/claim/cut.py") 408), (.int 57 0), (.int 1 0), (.int 0 0), (.int 0 0), (.int 3 0), (.ref 164), (.bool true), (.int 181 0), (.ref 165), .none, (.ref 166), (.ref 167), (.ref 168), (.int 412 0), (.int 57 0), (.str (Str.ofString "/claim/cut.py") 413)]), #[]⟩) ::
  (nat_lit 170, fnO (stAt 14) (Str.ofString "text_of_whole") [] .none (.str (Str.ofString "snobol.values") 233) (.ref 169) .none) ::
  (nat_lit 171, ⟨(.type "tuple"), none, (.seq #[] 0), #[]⟩) ::
  (nat_lit 173, ⟨(.type "tuple"), none, (.seq #[(.str (Str.ofString "value") 418), (.str (Str.ofString "width") 419)] 0), #[]⟩) ::
  (nat_lit 174, ⟨(.type "tuple"), none, (.seq #[] 0), #[]⟩) ::
  (nat_lit 176, ⟨(.type "code"), none, (.fields #[(.str (Str.ofString "to_whole") 415), (.str (Str.ofString "to_whole") 416), (.str (Str.ofString "/claim/cut.py") 417), (.int 63 0), (.int 2 0), (.int 0 0), (.int 0 0), (.int 3 0), (.ref 171), (.bool true), (.int 181 0), (.ref 172), .none, (.ref 173), (.ref 174), (.ref 175), (.int 420 0), (.int 63 0), (.str (Str.ofString "/claim/cut.py") 421)]), #[]⟩) ::
  (nat_lit 177, fnO (stAt 15) (Str.ofString "to_whole") [] .none (.str (Str.ofString "snobol.values") 233) (.ref 176) .none) ::
  (nat_lit 178, ⟨(.type "tuple"), none, (.seq #[] 0), #[]⟩) ::
  (nat_lit 180, ⟨(.type "tuple"), none, (.seq #[(.str (Str.ofString "value") 426)] 0), #[]⟩) ::
  (nat_lit 181, ⟨(.type "tuple"), none, (.seq #[] 0), #[]⟩) ::
  (nat_lit 183, ⟨(.type "code"), none, (.fields #[(.str (Str.ofString "to_text") 423), (.str (Str.ofString "to_text") 424), (.str (Str.ofString "/claim/cut.py") 425), (.int 67 0), (.int 1 0), (.int 0 0), (.int 0 0), (.int 3 0), (.ref 178), (.bool true), (.int 181 0), (.ref 179), .none, (.ref 180), (.ref 181), (.ref 182), (.int 427 0), (.int 67 0), (.str (Str.ofString "/claim/cut.py") 428)]), #[]⟩) ::
  (nat_lit 184, fnO (stAt 16) (Str.ofString "to_text") [] .none (.str (Str.ofString "snobol.values") 233) (.ref 183) .none) ::
  (nat_lit 185, ⟨(.type "tuple"), none, (.seq #[] 0), #[]⟩) ::
  (nat_lit 187, ⟨(.type "tuple"), none, (.seq #[(.str (Str.ofString "value") 433), (.str (Str.ofString "text") 434)] 0), #[]⟩) ::
  (nat_lit 188, ⟨(.type "tuple"), none, (.seq #[] 0), #[]⟩) ::
  (nat_lit 190, ⟨(.type "code"), none, (.fields #[(.str (Str.ofString "need_text") 430), (.str (Str.ofString "need_text") 431), (.str (Str.ofString "/claim/cut.py") 432), (.int 71 0), (.int 1 0), (.int 0 0), (.int 0 0), (.int 3 0), (.ref 185), (.bool true), (.int 181 0), (.ref 186), .none, (.ref 187), (.ref 188), (.ref 189), (.int 435 0), (.int 71 0), (.str (Str.ofString "/claim/cut.py") 436)]), #[]⟩) ::
  (nat_lit 191, fnO (stAt 17) (Str.ofString "need_text") [] .none (.str (Str.ofString "snobol.values") 233) (.ref 190) .none) ::
  (nat_lit 199, ⟨(.type "tuple"), none, (.seq #[] 0), #[]⟩) ::
  (nat_lit 201, ⟨(.type "tuple"), none, (.seq #[(.str (Str.ofString "self") 455), (.str (Str.ofString "values") 456), (.str (Str.ofString "limit") 457), (.str (Str.ofString "refused") 458)] 0), #[]⟩) ::
  (nat_lit 202, ⟨(.type "tuple"), none, (.seq #[] 0), #[]⟩) ::
  (nat_lit 204, ⟨(.type "code"), none, (.fields #[(.str (Str.ofString "__init__") 452), (.str (Str.ofString "PlainHost.__init__") 453), (.str (Str.ofString "/claim/cut.py") 454), (.int 79 0), (.int 4 0), (.int 0 0), (.int 0 0), (.int 3 0), (.ref 199), (.bool true), (.int 181 0), (.ref 200), .none, (.ref 201), (.ref 202), (.ref 203), (.int 459 0), (.int 79 0), (.str (Str.ofString "/claim/cut.py") 460)]), #[]⟩) ::
  (nat_lit 205, fnO (stIn (stAt 19) 0) (Str.ofString "PlainHost.__init__") [] .none (.str (Str.ofString "snobol.hosts") 438) (.ref 204) .none) ::
  (nat_lit 206, ⟨(.type "tuple"), none, (.seq #[] 0), #[]⟩) ::
  (nat_lit 208, ⟨(.type "tuple"), none, (.seq #[(.str (Str.ofString "self") 465), (.str (Str.ofString "tree") 466)] 0), #[]⟩) ::
  (nat_lit 209, ⟨(.type "tuple"), none, (.seq #[] 0), #[]⟩) ::
  (nat_lit 211, ⟨(.type "code"), none, (.fields #[(.str (Str.ofString "value_of") 462), (.str (Str.ofString "PlainHost.value_of") 463), (.str (Str.ofString "/claim/cut.py") 464), (.int 87 0), (.int 2 0), (.int 0 0), (.int 0 0), (.int 3 0), (.ref 206), (.bool true), (.int 181 0), (.ref 207), .none, (.ref 208), (.ref 209), (.ref 210), (.int 467 0), (.int 87 0), (.str (Str.ofString "/claim/cut.py") 468)]), #[]⟩) ::
  (nat_lit 212, fnO (stIn (stAt 19) 1) (Str.ofString "PlainHost.value_of") [] .none (.str (Str.ofString "snobol.hosts") 438) (.ref 211) .none) ::
  (nat_lit 213, ⟨(.type "tuple"), none, (.seq #[] 0), #[]⟩) ::
  (nat_lit 215, ⟨(.type "tuple"), none, (.seq #[(.str (Str.ofString "self") 473), (.str (Str.ofString "ref") 474), (.str (Str.ofString "value") 475)] 0), #[]⟩) ::
  (nat_lit 216, ⟨(.type "tuple"), none, (.seq #[] 0), #[]⟩) ::
  (nat_lit 218, ⟨(.type "code"), none, (.fields #[(.str (Str.ofString "assign") 470), (.str (Str.ofString "PlainHost.assign") 471), (.str (Str.ofString "/claim/cut.py") 472), (.int 92 0), (.int 3 0), (.int 0 0), (.int 0 0), (.int 3 0), (.ref 213), (.bool true), (.int 181 0), (.ref 214), .none, (.ref 215), (.ref 216), (.ref 217), (.int 476 0), (.int 92 0), (.str (Str.ofString "/claim/cut.py") 477)]), #[]⟩) ::
  (nat_lit 219, fnO (stIn (stAt 19) 2) (Str.ofString "PlainHost.assign") [] .none (.str (Str.ofString "snobol.hosts") 438) (.ref 218) .none) ::
  (nat_lit 220, ⟨(.type "tuple"), none, (.seq #[] 0), #[]⟩) ::
  (nat_lit 222, ⟨(.type "tuple"), none, (.seq #[(.str (Str.ofString "self") 482)] 0), #[]⟩) ::
  (nat_lit 223, ⟨(.type "tuple"), none, (.seq #[] 0), #[]⟩) ::
  (nat_lit 225, ⟨(.type "code"), none, (.fields #[(.str (Str.ofString "step") 479), (.str (Str.ofString "PlainHost.step") 480), (.str (Str.ofString "/claim/cut.py") 481), (.int 99 0), (.int 1 0), (.int 0 0), (.int 0 0), (.int 3 0), (.ref 220), (.bool true), (.int 181 0), (.ref 221), .none, (.ref 222), (.ref 223), (.ref 224), (.int 483 0), (.int 99 0), (.str (Str.ofString "/claim/cut.py") 484)]), #[]⟩) ::
  (nat_lit 226, fnO (stIn (stAt 19) 3) (Str.ofString "PlainHost.step") [] .none (.str (Str.ofString "snobol.hosts") 438) (.ref 225) .none) ::
  (nat_lit 227, ⟨(.type "tuple"), none, (.seq #[(.str (Str.ofString "limit") 486), (.str (Str.ofString "log") 487), (.str (Str.ofString "refused") 488), (.str (Str.ofString "steps") 489), (.str (Str.ofString "values") 490), (.str (Str.ofString "width") 491)] 0), #[]⟩) ::
  (nat_lit 228, ⟨(.type "dict"), none, (.dict #[⟨PyData.keyHash P (Str.ofString "__module__"), (.str (Str.ofString "__module__") 447), (.str (Str.ofString "snobol.hosts") 438)⟩, ⟨PyData.keyHash P (Str.ofString "__firstlineno__"), (.str (Str.ofString "__firstlineno__") 451), (.int 77 450)⟩, ⟨PyData.keyHash P (Str.ofString "__init__"), (.str (Str.ofString "__init__") 461), (.ref 205)⟩, ⟨PyData.keyHash P (Str.ofString "value_of"), (.str (Str.ofString "value_of") 469), (.ref 212)⟩, ⟨PyData.keyHash P (Str.ofString "assign"), (.str (Str.ofString "assign") 478), (.ref 219)⟩, ⟨PyData.keyHash P (Str.ofString "step"), (.str (Str.ofString "step") 485), (.ref 226)⟩, ⟨PyData.keyHash P (Str.ofString "__static_attributes__"), (.str (Str.ofString "__static_attributes__") 492), (.ref 227)⟩, ⟨PyData.keyHash P (Str.ofString "__dict__"), (.str (Str.ofString "__dict__") 494), (.ref 230)⟩, ⟨PyData.keyHash P (Str.ofString "__weakref__"), (.str (Str.ofString "__weakref__") 496), (.ref 231)⟩, ⟨PyData.keyHash P (Str.ofString "__doc__"), (.str (Str.ofString "__doc__") 497), .none⟩] 4), #[]⟩) ::
  (nat_lit 229, ⟨(.type "type"), none, (.cls ⟨(Str.ofString "PlainHost"), [(.type "object")], [(.ref 229), (.type "object")], 228, (Str.ofString "PlainHost"), true, [], [], false, none, false⟩), #[none, none, (some (.str (Str.ofString "PlainHost") 440)), (some (.str (Str.ofString "PlainHost") 448)), (some (.builtin "object.__new__")), (some (.bool true))]⟩) ::
  (nat_lit 230, ⟨(.type "getset_descriptor"), none, (.fields #[(.str (Str.ofString "__dict__") 493), (.ref 229), (.builtin "function.__dict__"), (.builtin "function.__dict__#set")]), #[]⟩) ::
  (nat_lit 231, ⟨(.type "getset_descriptor"), none, (.fields #[(.str (Str.ofString "__weakref__") 495), (.ref 229), (.builtin "ExceptionGroup.__weakref__"), .none]), #[]⟩) ::
  (nat_lit 234, ⟨(.type "tuple"), none, (.seq #[(.str (Str.ofString "len") 502), (.str (Str.ofString "pos") 503), (.str (Str.ofString "rpos") 504), (.str (Str.ofString "tab") 505), (.str (Str.ofString "rtab") 506)] 0), #[]⟩) ::
  (nat_lit 235, ⟨(.type "tuple"), none, (.seq #[(.str (Str.ofString "any") 508), (.str (Str.ofString "notany") 509), (.str (Str.ofString "span") 510), (.str (Str.ofString "break") 511)] 0), #[]⟩) ::
  (nat_lit 236, ⟨(.type "tuple"), none, (.seq #[(.int 64 513)] 0), #[]⟩) ::
  (nat_lit 237, ⟨(.type "tuple"), none, (.seq #[] 0), #[]⟩) ::
  (nat_lit 239, ⟨(.type "tuple"), none, (.seq #[(.str (Str.ofString "value") 518), (.str (Str.ofString "kind") 519), (.str (Str.ofString "width") 520), (.str (Str.ofString "count") 521)] 0), #[]⟩) ::
  (nat_lit 240, ⟨(.type "tuple"), none, (.seq #[] 0), #[]⟩) ::
  (nat_lit 242, ⟨(.type "code"), none, (.fields #[(.str (Str.ofString "plain_count") 515), (.str (Str.ofString "plain_count") 516), (.str (Str.ofString "/claim/cut.py") 517), (.int 107 0), (.int 3 0), (.int 0 0), (.int 0 0), (.int 3 0), (.ref 237), (.bool true), (.int 181 0), (.ref 238), .none, (.ref 239), (.ref 240), (.ref 241), (.int 522 0), (.int 107 0), (.str (Str.ofString "/claim/cut.py") 523)]), #[]⟩) ::
  (nat_lit 243, fnO (stAt 24) (Str.ofString "plain_count") [] (.ref 236) (.str (Str.ofString "snobol.nodes") 500) (.ref 242) .none) ::
  (nat_lit 244, ⟨(.type "tuple"), none, (.seq #[] 0), #[]⟩) ::
  (nat_lit 246, ⟨(.type "tuple"), none, (.seq #[(.str (Str.ofString "value") 528), (.str (Str.ofString "kind") 529), (.str (Str.ofString "text") 530)] 0), #[]⟩) ::
  (nat_lit 247, ⟨(.type "tuple"), none, (.seq #[] 0), #[]⟩) ::
  (nat_lit 249, ⟨(.type "code"), none, (.fields #[(.str (Str.ofString "plain_signs") 525), (.str (Str.ofString "plain_signs") 526), (.str (Str.ofString "/claim/cut.py") 527), (.int 114 0), (.int 2 0), (.int 0 0), (.int 0 0), (.int 3 0), (.ref 244), (.bool true), (.int 181 0), (.ref 245), .none, (.ref 246), (.ref 247), (.ref 248), (.int 531 0), (.int 114 0), (.str (Str.ofString "/claim/cut.py") 532)]), #[]⟩) ::
  (nat_lit 250, fnO (stAt 25) (Str.ofString "plain_signs") [] .none (.str (Str.ofString "snobol.nodes") 500) (.ref 249) .none) ::
  (nat_lit 251, ⟨(.type "tuple"), none, (.seq #[] 0), #[]⟩) ::
  (nat_lit 253, ⟨(.type "tuple"), none, (.seq #[(.str (Str.ofString "value") 537), (.str (Str.ofString "text") 538)] 0), #[]⟩) ::
  (nat_lit 254, ⟨(.type "tuple"), none, (.seq #[] 0), #[]⟩) ::
  (nat_lit 256, ⟨(.type "code"), none, (.fields #[(.str (Str.ofString "pattern_of") 534), (.str (Str.ofString "pattern_of") 535), (.str (Str.ofString "/claim/cut.py") 536), (.int 119 0), (.int 1 0), (.int 0 0), (.int 0 0), (.int 3 0), (.ref 251), (.bool true), (.int 181 0), (.ref 252), .none, (.ref 253), (.ref 254), (.ref 255), (.int 539 0), (.int 119 0), (.str (Str.ofString "/claim/cut.py") 540)]), #[]⟩) ::
  (nat_lit 257, fnO (stAt 26) (Str.ofString "pattern_of") [] .none (.str (Str.ofString "snobol.nodes") 500) (.ref 256) .none) ::
  (nat_lit 258, ⟨(.type "tuple"), none, (.seq #[] 0), #[]⟩) ::
  (nat_lit 260, ⟨(.type "tuple"), none, (.seq #[(.str (Str.ofString "told") 545)] 0), #[]⟩) ::
  (nat_lit 261, ⟨(.type "tuple"), none, (.seq #[] 0), #[]⟩) ::
  (nat_lit 263, ⟨(.type "code"), none, (.fields #[(.str (Str.ofString "is_delayed") 542), (.str (Str.ofString "is_delayed") 543), (.str (Str.ofString "/claim/cut.py") 544), (.int 128 0), (.int 1 0), (.int 0 0), (.int 0 0), (.int 3 0), (.ref 258), (.bool true), (.int 181 0), (.ref 259), .none, (.ref 260), (.ref 261), (.ref 262), (.int 546 0), (.int 128 0), (.str (Str.ofString "/claim/cut.py") 547)]), #[]⟩) ::
  (nat_lit 264, fnO (stAt 27) (Str.ofString "is_delayed") [] .none (.str (Str.ofString "snobol.nodes") 500) (.ref 263) .none) ::
  (nat_lit 265, ⟨(.type "tuple"), none, (.seq #[] 0), #[]⟩) ::
  (nat_lit 267, ⟨(.type "tuple"), none, (.seq #[(.str (Str.ofString "node") 552), (.str (Str.ofString "host") 553), (.str (Str.ofString "value") 554)] 0), #[]⟩) ::
  (nat_lit 268, ⟨(.type "tuple"), none, (.seq #[] 0), #[]⟩) ::
  (nat_lit 270, ⟨(.type "code"), none, (.fields #[(.str (Str.ofString "settled") 549), (.str (Str.ofString "settled") 550), (.str (Str.ofString "/claim/cut.py") 551), (.int 130 0), (.int 2 0), (.int 0 0), (.int 0 0), (.int 3 0), (.ref 265), (.bool true), (.int 181 0), (.ref 266), .none, (.ref 267), (.ref 268), (.ref 269), (.int 555 0), (.int 130 0), (.str (Str.ofString "/claim/cut.py") 556)]), #[]⟩) ::
  (nat_lit 271, fnO (stAt 28) (Str.ofString "settled") [] .none (.str (Str.ofString "snobol.nodes") 500) (.ref 270) .none) ::
  (nat_lit 272, ⟨(.type "tuple"), none, (.seq #[] 0), #[]⟩) ::
  (nat_lit 274, ⟨(.type "tuple"), none, (.seq #[(.str (Str.ofString "subject") 567), (.str (Str.ofString "at") 568), (.str (Str.ofString "text") 569), (.str (Str.ofString "end") 570)] 0), #[]⟩) ::
  (nat_lit 275, ⟨(.type "tuple"), none, (.seq #[] 0), #[]⟩) ::
  (nat_lit 277, ⟨(.type "code"), none, (.fields #[(.str (Str.ofString "chars_end") 564), (.str (Str.ofString "chars_end") 565), (.str (Str.ofString "/claim/cut.py") 566), (.int 142 0), (.int 3 0), (.int 0 0), (.int 0 0), (.int 3 0), (.ref 272), (.bool true), (.int 181 0), (.ref 273), .none, (.ref 274), (.ref 275), (.ref 276), (.int 571 0), (.int 142 0), (.str (Str.ofString "/claim/cut.py") 572)]), #[]⟩) ::
  (nat_lit 278, fnO (stAt 32) (Str.ofString "chars_end") [] .none (.str (Str.ofString "snobol.primitives") 558) (.ref 277) .none) ::
  (nat_lit 279, ⟨(.type "tuple"), none, (.seq #[] 0), #[]⟩) ::
  (nat_lit 281, ⟨(.type "tuple"), none, (.seq #[(.str (Str.ofString "subject") 577), (.str (Str.ofString "at") 578), (.str (Str.ofString "many") 579)] 0), #[]⟩) ::
  (nat_lit 282, ⟨(.type "tuple"), none, (.seq #[] 0), #[]⟩) ::
  (nat_lit 284, ⟨(.type "code"), none, (.fields #[(.str (Str.ofString "len_end") 574), (.str (Str.ofString "len_end") 575), (.str (Str.ofString "/claim/cut.py") 576), (.int 145 0), (.int 3 0), (.int 0 0), (.int 0 0), (.int 3 0), (.ref 279), (.bool true), (.int 181 0), (.ref 280), .none, (.ref 281), (.ref 282), (.ref 283), (.int 580 0), (.int 145 0), (.str (Str.ofString "/claim/cut.py") 581)]), #[]⟩) ::
  (nat_lit 285, fnO (stAt 33) (Str.ofString "len_end") [] .none (.str (Str.ofString "snobol.primitives") 558) (.ref 284) .none) ::
  (nat_lit 286, ⟨(.type "tuple"), none, (.seq #[] 0), #[]⟩) ::
  (nat_lit 288, ⟨(.type "tuple"), none, (.seq #[(.str (Str.ofString "at") 586), (.str (Str.ofString "place") 587)] 0), #[]⟩) ::
  (nat_lit 289, ⟨(.type "tuple"), none, (.seq #[] 0), #[]⟩) ::
  (nat_lit 291, ⟨(.type "code"), none, (.fields #[(.str (Str.ofString "pos_end") 583), (.str (Str.ofString "pos_end") 584), (.str (Str.ofString "/claim/cut.py") 585), (.int 147 0), (.int 2 0), (.int 0 0), (.int 0 0), (.int 3 0), (.ref 286), (.bool true), (.int 181 0), (.ref 287), .none, (.ref 288), (.ref 289), (.ref 290), (.int 588 0), (.int 147 0), (.str (Str.ofString "/claim/cut.py") 589)]), #[]⟩) ::
  (nat_lit 292, fnO (stAt 34) (Str.ofString "pos_end") [] .none (.str (Str.ofString "snobol.primitives") 558) (.ref 291) .none) ::
  (nat_lit 293, ⟨(.type "tuple"), none, (.seq #[] 0), #[]⟩) ::
  (nat_lit 295, ⟨(.type "tuple"), none, (.seq #[(.str (Str.ofString "subject") 594), (.str (Str.ofString "at") 595), (.str (Str.ofString "place") 596)] 0), #[]⟩) ::
  (nat_lit 296, ⟨(.type "tuple"), none, (.seq #[] 0), #[]⟩) ::
  (nat_lit 298, ⟨(.type "code"), none, (.fields #[(.str (Str.ofString "rpos_end") 591), (.str (Str.ofString "rpos_end") 592), (.str (Str.ofString "/claim/cut.py") 593), (.int 149 0), (.int 3 0), (.int 0 0), (.int 0 0), (.int 3 0), (.ref 293), (.bool true), (.int 181 0), (.ref 294), .none, (.ref 295), (.ref 296), (.ref 297), (.int 597 0), (.int 149 0), (.str (Str.ofString "/claim/cut.py") 598)]), #[]⟩) ::
  (nat_lit 299, fnO (stAt 35) (Str.ofString "rpos_end") [] .none (.str (Str.ofString "snobol.primitives") 558) (.ref 298) .none) ::
  (nat_lit 300, ⟨(.type "tuple"), none, (.seq #[] 0), #[]⟩) ::
  (nat_lit 302, ⟨(.type "tuple"), none, (.seq #[(.str (Str.ofString "subject") 603), (.str (Str.ofString "at") 604), (.str (Str.ofString "place") 605)] 0), #[]⟩) ::
  (nat_lit 303, ⟨(.type "tuple"), none, (.seq #[] 0), #[]⟩) ::
  (nat_lit 305, ⟨(.type "code"), none, (.fields #[(.str (Str.ofString "tab_end") 600), (.str (Str.ofString "tab_end") 601), (.str (Str.ofString "/claim/cut.py") 602), (.int 151 0), (.int 3 0), (.int 0 0), (.int 0 0), (.int 3 0), (.ref 300), (.bool true), (.int 181 0), (.ref 301), .none, (.ref 302), (.ref 303), (.ref 304), (.int 606 0), (.int 151 0), (.str (Str.ofString "/claim/cut.py") 607)]), #[]⟩) ::
  (nat_lit 306, fnO (stAt 36) (Str.ofString "tab_end") [] .none (.str (Str.ofString "snobol.primitives") 558) (.ref 305) .none) ::
  (nat_lit 307, ⟨(.type "tuple"), none, (.seq #[] 0), #[]⟩) ::
  (nat_lit 309, ⟨(.type "tuple"), none, (.seq #[(.str (Str.ofString "subject") 612), (.str (Str.ofString "at") 613), (.str (Str.ofString "place") 614), (.str (Str.ofString "goal") 615)] 0), #[]⟩) ::
  (nat_lit 310, ⟨(.type "tuple"), none, (.seq #[] 0), #[]⟩) ::
  (nat_lit 312, ⟨(.type "code"), none, (.fields #[(.str (Str.ofString "rtab_end") 609), (.str (Str.ofString "rtab_end") 610), (.str (Str.ofString "/claim/cut.py") 611), (.int 153 0), (.int 3 0), (.int 0 0), (.int 0 0), (.int 3 0), (.ref 307), (.bool true), (.int 181 0), (.ref 308), .none, (.ref 309), (.ref 310), (.ref 311), (.int 616 0), (.int 153 0), (.str (Str.ofString "/claim/cut.py") 617)]), #[]⟩) ::
  (nat_lit 313, fnO (stAt 37) (Str.ofString "rtab_end") [] .none (.str (Str.ofString "snobol.primitives") 558) (.ref 312) .none) ::
  (nat_lit 314, ⟨(.type "tuple"), none, (.seq #[] 0), #[]⟩) ::
  (nat_lit 316, ⟨(.type "tuple"), none, (.seq #[(.str (Str.ofString "subject") 622)] 0), #[]⟩) ::
  (nat_lit 317, ⟨(.type "tuple"), none, (.seq #[] 0), #[]⟩) ::
  (nat_lit 319, ⟨(.type "code"), none, (.fields #[(.str (Str.ofString "rem_end") 619), (.str (Str.ofString "rem_end") 620), (.str (Str.ofString "/claim/cut.py") 621), (.int 156 0), (.int 1 0), (.int 0 0), (.int 0 0), (.int 3 0), (.ref 314), (.bool true), (.int 181 0), (.ref 315), .none, (.ref 316), (.ref 317), (.ref 318), (.int 623 0), (.int 156 0), (.str (Str.ofString "/claim/cut.py") 624)]), #[]⟩) ::
  (nat_lit 320, fnO (stAt 38) (Str.ofString "rem_end") [] .none (.str (Str.ofString "snobol.primitives") 558) (.ref 319) .none) ::
  (nat_lit 321, ⟨(.type "tuple"), none, (.seq #[] 0), #[]⟩) ::
  (nat_lit 323, ⟨(.type "tuple"), none, (.seq #[(.str (Str.ofString "subject") 629), (.str (Str.ofString "at") 630), (.str (Str.ofString "signs") 631)] 0), #[]⟩) ::
  (nat_lit 324, ⟨(.type "tuple"), none, (.seq #[] 0), #[]⟩) ::
  (nat_lit 326, ⟨(.type "code"), none, (.fields #[(.str (Str.ofString "any_at") 626), (.str (Str.ofString "any_at") 627), (.str (Str.ofString "/claim/cut.py") 628), (.int 158 0), (.int 3 0), (.int 0 0), (.int 0 0), (.int 3 0), (.ref 321), (.bool true), (.int 181 0), (.ref 322), .none, (.ref 323), (.ref 324), (.ref 325), (.int 632 0), (.int 158 0), (.str (Str.ofString "/claim/cut.py") 633)]), #[]⟩) ::
  (nat_lit 327, fnO (stAt 39) (Str.ofString "any_at") [] .none (.str (Str.ofString "snobol.primitives") 558) (.ref 326) .none) ::
  (nat_lit 328, ⟨(.type "tuple"), none, (.seq #[] 0), #[]⟩) ::
  (nat_lit 330, ⟨(.type "tuple"), none, (.seq #[(.str (Str.ofString "subject") 638), (.str (Str.ofString "at") 639), (.str (Str.ofString "signs") 640)] 0), #[]⟩) ::
  (nat_lit 331, ⟨(.type "tuple"), none, (.seq #[] 0), #[]⟩) ::
  (nat_lit 333, ⟨(.type "code"), none, (.fields #[(.str (Str.ofString "notany_at") 635), (.str (Str.ofString "notany_at") 636), (.str (Str.ofString "/claim/cut.py") 637), (.int 160 0), (.int 3 0), (.int 0 0), (.int 0 0), (.int 3 0), (.ref 328), (.bool true), (.int 181 0), (.ref 329), .none, (.ref 330), (.ref 331), (.ref 332), (.int 641 0), (.int 160 0), (.str (Str.ofString "/claim/cut.py") 642)]), #[]⟩) ::
  (nat_lit 334, fnO (stAt 40) (Str.ofString "notany_at") [] .none (.str (Str.ofString "snobol.primitives") 558) (.ref 333) .none) ::
  (nat_lit 335, ⟨(.type "tuple"), none, (.seq #[] 0), #[]⟩) ::
  (nat_lit 337, ⟨(.type "tuple"), none, (.seq #[(.str (Str.ofString "subject") 647), (.str (Str.ofString "at") 648), (.str (Str.ofString "signs") 649), (.str (Str.ofString "is_in") 650)] 0), #[]⟩) ::
  (nat_lit 338, ⟨(.type "tuple"), none, (.seq #[] 0), #[]⟩) ::
  (nat_lit 340, ⟨(.type "code"), none, (.fields #[(.str (Str.ofString "run_end") 644), (.str (Str.ofString "run_end") 645), (.str (Str.ofString "/claim/cut.py") 646), (.int 162 0), (.int 4 0), (.int 0 0), (.int 0 0), (.int 3 0), (.ref 335), (.bool true), (.int 181 0), (.ref 336), .none, (.ref 337), (.ref 338), (.ref 339), (.int 651 0), (.int 162 0), (.str (Str.ofString "/claim/cut.py") 652)]), #[]⟩) ::
  (nat_lit 341, fnO (stAt 41) (Str.ofString "run_end") [] .none (.str (Str.ofString "snobol.primitives") 558) (.ref 340) .none) ::
  (nat_lit 342, ⟨(.type "tuple"), none, (.seq #[] 0), #[]⟩) ::
  (nat_lit 344, ⟨(.type "tuple"), none, (.seq #[(.str (Str.ofString "subject") 657), (.str (Str.ofString "at") 658), (.str (Str.ofString "signs") 659), (.str (Str.ofString "end") 660)] 0), #[]⟩) ::
  (nat_lit 345, ⟨(.type "tuple"), none, (.seq #[] 0), #[]⟩) ::
  (nat_lit 347, ⟨(.type "code"), none, (.fields #[(.str (Str.ofString "span_end") 654), (.str (Str.ofString "span_end") 655), (.str (Str.ofString "/claim/cut.py") 656), (.int 166 0), (.int 3 0), (.int 0 0), (.int 0 0), (.int 3 0), (.ref 342), (.bool true), (.int 181 0), (.ref 343), .none, (.ref 344), (.ref 345), (.ref 346), (.int 661 0), (.int 166 0), (.str (Str.ofString "/claim/cut.py") 662)]), #[]⟩) ::
  (nat_lit 348, fnO (stAt 42) (Str.ofString "span_end") [] .none (.str (Str.ofString "snobol.primitives") 558) (.ref 347) .none) ::
  (nat_lit 349, ⟨(.type "tuple"), none, (.seq #[] 0), #[]⟩) ::
  (nat_lit 351, ⟨(.type "tuple"), none, (.seq #[(.str (Str.ofString "subject") 667), (.str (Str.ofString "at") 668), (.str (Str.ofString "signs") 669), (.str (Str.ofString "end") 670)] 0), #[]⟩) ::
  (nat_lit 352, ⟨(.type "tuple"), none, (.seq #[] 0), #[]⟩) ::
  (nat_lit 354, ⟨(.type "code"), none, (.fields #[(.str (Str.ofString "break_end") 664), (.str (Str.ofString "break_end") 665), (.str (Str.ofString "/claim/cut.py") 666), (.int 169 0), (.int 3 0), (.int 0 0), (.int 0 0), (.int 3 0), (.ref 349), (.bool true), (.int 181 0), (.ref 350), .none, (.ref 351), (.ref 352), (.ref 353), (.int 671 0), (.int 169 0), (.str (Str.ofString "/claim/cut.py") 672)]), #[]⟩) ::
  (nat_lit 355, fnO (stAt 43) (Str.ofString "break_end") [] .none (.str (Str.ofString "snobol.primitives") 558) (.ref 354) .none) ::
  (nat_lit 356, ⟨(.type "tuple"), none, (.seq #[] 0), #[]⟩) ::
  (nat_lit 358, ⟨(.type "tuple"), none, (.seq #[(.str (Str.ofString "subject") 677), (.str (Str.ofString "at") 678), (.str (Str.ofString "level") 679)] 0), #[]⟩) ::
  (nat_lit 359, ⟨(.type "tuple"), none, (.seq #[] 0), #[]⟩) ::
  (nat_lit 361, ⟨(.type "code"), none, (.fields #[(.str (Str.ofString "bal_end") 674), (.str (Str.ofString "bal_end") 675), (.str (Str.ofString "/claim/cut.py") 676), (.int 172 0), (.int 2 0), (.int 0 0), (.int 0 0), (.int 3 0), (.ref 356), (.bool true), (.int 181 0), (.ref 357), .none, (.ref 358), (.ref 359), (.ref 360), (.int 680 0), (.int 172 0), (.str (Str.ofString "/claim/cut.py") 681)]), #[]⟩) ::
  (nat_lit 362, fnO (stAt 44) (Str.ofString "bal_end") [] .none (.str (Str.ofString "snobol.primitives") 558) (.ref 361) .none) ::
  (nat_lit 363, ⟨(.type "tuple"), none, (.seq #[] 0), #[]⟩) ::
  (nat_lit 365, ⟨(.type "tuple"), none, (.seq #[(.str (Str.ofString "subject") 686), (.str (Str.ofString "at") 687), (.str (Str.ofString "found") 688), (.str (Str.ofString "end") 689)] 0), #[]⟩) ::
  (nat_lit 366, ⟨(.type "tuple"), none, (.seq #[] 0), #[]⟩) ::
  (nat_lit 368, ⟨(.type "code"), none, (.fields #[(.str (Str.ofString "bal_ends") 683), (.str (Str.ofString "bal_ends") 684), (.str (Str.ofString "/claim/cut.py") 685), (.int 185 0), (.int 2 0), (.int 0 0), (.int 0 0), (.int 3 0), (.ref 363), (.bool true), (.int 181 0), (.ref 364), .none, (.ref 365), (.ref 366), (.ref 367), (.int 690 0), (.int 185 0), (.str (Str.ofString "/claim/cut.py") 691)]), #[]⟩) ::
  (nat_lit 369, fnO (stAt 45) (Str.ofString "bal_ends") [] .none (.str (Str.ofString "snobol.primitives") 558) (.ref 368) .none) ::
  (nat_lit 370, ⟨(.type "tuple"), none, (.seq #[] 0), #[]⟩) ::
  (nat_lit 372, ⟨(.type "tuple"), none, (.seq #[(.str (Str.ofString "kind") 696), (.str (Str.ofString "subject") 697), (.str (Str.ofString "at") 698), (.str (Str.ofString "told") 699)] 0), #[]⟩) ::
  (nat_lit 373, ⟨(.type "tuple"), none, (.seq #[] 0), #[]⟩) ::
  (nat_lit 375, ⟨(.type "code"), none, (.fields #[(.str (Str.ofString "one_end") 693), (.str (Str.ofString "one_end") 694), (.str (Str.ofString "/claim/cut.py") 695), (.int 191 0), (.int 4 0), (.int 0 0), (.int 0 0), (.int 3 0), (.ref 370), (.bool true), (.int 181 0), (.ref 371), .none, (.ref 372), (.ref 373), (.ref 374), (.int 700 0), (.int 191 0), (.str (Str.ofString "/claim/cut.py") 701)]), #[]⟩) ::
  (nat_lit 376, fnO (stAt 46) (Str.ofString "one_end") [] .none (.str (Str.ofString "snobol.primitives") 558) (.ref 375) .none) ::
  (nat_lit 377, ⟨(.type "tuple"), none, (.seq #[] 0), #[]⟩) ::
  (nat_lit 379, ⟨(.type "tuple"), none, (.seq #[(.str (Str.ofString "node") 706), (.str (Str.ofString "subject") 707), (.str (Str.ofString "at") 708)] 0), #[]⟩) ::
  (nat_lit 380, ⟨(.type "tuple"), none, (.seq #[] 0), #[]⟩) ::
  (nat_lit 382, ⟨(.type "code"), none, (.fields #[(.str (Str.ofString "plain_end") 703), (.str (Str.ofString "plain_end") 704), (.str (Str.ofString "/claim/cut.py") 705), (.int 211 0), (.int 3 0), (.int 0 0), (.int 0 0), (.int 3 0), (.ref 377), (.bool true), (.int 181 0), (.ref 378), .none, (.ref 379), (.ref 380), (.ref 381), (.int 709 0), (.int 211 0), (.str (Str.ofString "/claim/cut.py") 710)]), #[]⟩) ::
  (nat_lit 383, fnO (stAt 47) (Str.ofString "plain_end") [] .none (.str (Str.ofString "snobol.primitives") 558) (.ref 382) .none) ::
  (nat_lit 384, ⟨(.type "tuple"), none, (.seq #[] 0), #[]⟩) ::
  (nat_lit 386, ⟨(.type "tuple"), none, (.seq #[(.str (Str.ofString "node") 719), (.str (Str.ofString "subject") 720), (.str (Str.ofString "is_anchored") 721), (.str (Str.ofString "host") 722), (.str (Str.ofString "begin") 723), (.str (Str.ofString "found") 724)] 0), #[]⟩) ::
  (nat_lit 387, ⟨(.type "tuple"), none, (.seq #[] 0), #[]⟩) ::
  (nat_lit 389, ⟨(.type "code"), none, (.fields #[(.str (Str.ofString "match_plain") 716), (.str (Str.ofString "match_plain") 717), (.str (Str.ofString "/claim/cut.py") 718), (.int 215 0), (.int 4 0), (.int 0 0), (.int 0 0), (.int 3 0), (.ref 384), (.bool true), (.int 181 0), (.ref 385), .none, (.ref 386), (.ref 387), (.ref 388), (.int 725 0), (.int 215 0), (.str (Str.ofString "/claim/cut.py") 726)]), #[]⟩) ::
  (nat_lit 390, fnO (stAt 50) (Str.ofString "match_plain") [] .none (.str (Str.ofString "snobol.trial") 712) (.ref 389) .none) ::
  (nat_lit 391, ⟨(.type "tuple"), none, (.seq #[] 0), #[]⟩) ::
  (nat_lit 393, ⟨(.type "tuple"), none, (.seq #[(.str (Str.ofString "node") 731), (.str (Str.ofString "subject") 732), (.str (Str.ofString "begin") 733), (.str (Str.ofString "host") 734), (.str (Str.ofString "found") 735)] 0), #[]⟩) ::
  (nat_lit 394, ⟨(.type "tuple"), none, (.seq #[] 0), #[]⟩) ::
  (nat_lit 396, ⟨(.type "code"), none, (.fields #[(.str (Str.ofString "match_at") 728), (.str (Str.ofString "match_at") 729), (.str (Str.ofString "/claim/cut.py") 730), (.int 221 0), (.int 4 0), (.int 0 0), (.int 0 0), (.int 3 0), (.ref 391), (.bool true), (.int 181 0), (.ref 392), .none, (.ref 393), (.ref 394), (.ref 395), (.int 736 0), (.int 221 0), (.str (Str.ofString "/claim/cut.py") 737)]), #[]⟩) ::
  (nat_lit 397, fnO (stAt 51) (Str.ofString "match_at") [] .none (.str (Str.ofString "snobol.trial") 712) (.ref 396) .none) ::
  (nat_lit 398, ⟨(.type "tuple"), none, (.seq #[] 0), #[]⟩) ::
  (nat_lit 400, ⟨(.type "tuple"), none, (.seq #[(.str (Str.ofString "node") 742), (.str (Str.ofString "subject") 743), (.str (Str.ofString "begin") 744), (.str (Str.ofString "host") 745), (.str (Str.ofString "pile") 746), (.str (Str.ofString "way") 747), (.str (Str.ofString "chain") 748), (.str (Str.ofString "at") 749), (.str (Str.ofString "named") 750)] 0), #[]⟩) ::
  (nat_lit 401, ⟨(.type "tuple"), none, (.seq #[] 0), #[]⟩) ::
  (nat_lit 403, ⟨(.type "code"), none, (.fields #[(.str (Str.ofString "tried") 739), (.str (Str.ofString "tried") 740), (.str (Str.ofString "/claim/cut.py") 741), (.int 224 0), (.int 4 0), (.int 0 0), (.int 0 0), (.int 3 0), (.ref 398), (.bool true), (.int 181 0), (.ref 399), .none, (.ref 400), (.ref 401), (.ref 402), (.int 751 0), (.int 224 0), (.str (Str.ofString "/claim/cut.py") 752)]), #[]⟩) ::
  (nat_lit 404, fnO (stAt 52) (Str.ofString "tried") [] .none (.str (Str.ofString "snobol.trial") 712) (.ref 403) .none) ::
  (nat_lit 405, ⟨(.type "tuple"), none, (.seq #[] 0), #[]⟩) ::
  (nat_lit 407, ⟨(.type "tuple"), none, (.seq #[(.str (Str.ofString "chain") 757), (.str (Str.ofString "at") 758), (.str (Str.ofString "named") 759), (.str (Str.ofString "subject") 760), (.str (Str.ofString "pile") 761), (.str (Str.ofString "host") 762), (.str (Str.ofString "here") 763), (.str (Str.ofString "rest") 764), (.str (Str.ofString "kind") 765), (.str (Str.ofString "value") 766)] 0), #[]⟩) ::
  (nat_lit 408, ⟨(.type "tuple"), none, (.seq #[] 0), #[]⟩) ::
  (nat_lit 410, ⟨(.type "code"), none, (.fields #[(.str (Str.ofString "advanced") 754), (.str (Str.ofString "advanced") 755), (.str (Str.ofString "/claim/cut.py") 756), (.int 242 0), (.int 6 0), (.int 0 0), (.int 0 0), (.int 3 0), (.ref 405), (.bool true), (.int 181 0), (.ref 406), .none, (.ref 407), (.ref 408), (.ref 409), (.int 767 0), (.int 242 0), (.str (Str.ofString "/claim/cut.py") 768)]), #[]⟩) ::
  (nat_lit 411, fnO (stAt 53) (Str.ofString "advanced") [] .none (.str (Str.ofString "snobol.trial") 712) (.ref 410) .none) ::
  (nat_lit 412, ⟨(.type "tuple"), none, (.seq #[] 0), #[]⟩) ::
  (nat_lit 414, ⟨(.type "tuple"), none, (.seq #[(.str (Str.ofString "here") 773), (.str (Str.ofString "rest") 774), (.str (Str.ofString "at") 775), (.str (Str.ofString "named") 776), (.str (Str.ofString "pile") 777), (.str (Str.ofString "kind") 778)] 0), #[]⟩) ::
  (nat_lit 415, ⟨(.type "tuple"), none, (.seq #[] 0), #[]⟩) ::
  (nat_lit 417, ⟨(.type "code"), none, (.fields #[(.str (Str.ofString "led_in") 770), (.str (Str.ofString "led_in") 771), (.str (Str.ofString "/claim/cut.py") 772), (.int 257 0), (.int 5 0), (.int 0 0), (.int 0 0), (.int 3 0), (.ref 412), (.bool true), (.int 181 0), (.ref 413), .none, (.ref 414), (.ref 415), (.ref 416), (.int 779 0), (.int 257 0), (.str (Str.ofString "/claim/cut.py") 780)]), #[]⟩) ::
  (nat_lit 418, fnO (stAt 54) (Str.ofString "led_in") [] .none (.str (Str.ofString "snobol.trial") 712) (.ref 417) .none) ::
  (nat_lit 419, ⟨(.type "tuple"), none, (.seq #[] 0), #[]⟩) ::
  (nat_lit 421, ⟨(.type "tuple"), none, (.seq #[(.str (Str.ofString "here") 785), (.str (Str.ofString "rest") 786), (.str (Str.ofString "at") 787), (.str (Str.ofString "named") 788), (.str (Str.ofString "subject") 789), (.str (Str.ofString "pile") 790), (.str (Str.ofString "host") 791), (.str (Str.ofString "kind") 792), (.str (Str.ofString "told") 793), (.str (Str.ofString "begin") 794)] 0), #[]⟩) ::
  (nat_lit 422, ⟨(.type "tuple"), none, (.seq #[] 0), #[]⟩) ::
  (nat_lit 424, ⟨(.type "code"), none, (.fields #[(.str (Str.ofString "led_out") 782), (.str (Str.ofString "led_out") 783), (.str (Str.ofString "/claim/cut.py") 784), (.int 268 0), (.int 7 0), (.int 0 0), (.int 0 0), (.int 3 0), (.ref 419), (.bool true), (.int 181 0), (.ref 420), .none, (.ref 421), (.ref 422), (.ref 423), (.int 795 0), (.int 268 0), (.str (Str.ofString "/claim/cut.py") 796)]), #[]⟩) ::
  (nat_lit 425, fnO (stAt 55) (Str.ofString "led_out") [] .none (.str (Str.ofString "snobol.trial") 712) (.ref 424) .none) ::
  (nat_lit 426, ⟨(.type "tuple"), none, (.seq #[] 0), #[]⟩) ::
  (nat_lit 428, ⟨(.type "tuple"), none, (.seq #[(.str (Str.ofString "chain") 801), (.str (Str.ofString "at") 802), (.str (Str.ofString "named") 803), (.str (Str.ofString "pile") 804), (.str (Str.ofString "kind") 805), (.str (Str.ofString "rest") 806)] 0), #[]⟩) ::
  (nat_lit 429, ⟨(.type "tuple"), none, (.seq #[] 0), #[]⟩) ::
  (nat_lit 431, ⟨(.type "code"), none, (.fields #[(.str (Str.ofString "steered") 798), (.str (Str.ofString "steered") 799), (.str (Str.ofString "/claim/cut.py") 800), (.int 275 0), (.int 4 0), (.int 0 0), (.int 0 0), (.int 3 0), (.ref 426), (.bool true), (.int 181 0), (.ref 427), .none, (.ref 428), (.ref 429), (.ref 430), (.int 807 0), (.int 275 0), (.str (Str.ofString "/claim/cut.py") 808)]), #[]⟩) ::
  (nat_lit 432, fnO (stAt 56) (Str.ofString "steered") [] .none (.str (Str.ofString "snobol.trial") 712) (.ref 431) .none) ::
  (nat_lit 433, ⟨(.type "tuple"), none, (.seq #[] 0), #[]⟩) ::
  (nat_lit 435, ⟨(.type "tuple"), none, (.seq #[(.str (Str.ofString "here") 813), (.str (Str.ofString "rest") 814), (.str (Str.ofString "at") 815), (.str (Str.ofString "named") 816), (.str (Str.ofString "subject") 817), (.str (Str.ofString "pile") 818), (.str (Str.ofString "host") 819), (.str (Str.ofString "kind") 820), (.str (Str.ofString "ends") 821), (.str (Str.ofString "end") 822), (.str (Str.ofString "plain") 823)] 0), #[]⟩) ::
  (nat_lit 436, ⟨(.type "tuple"), none, (.seq #[] 0), #[]⟩) ::
  (nat_lit 438, ⟨(.type "code"), none, (.fields #[(.str (Str.ofString "taken") 810), (.str (Str.ofString "taken") 811), (.str (Str.ofString "/claim/cut.py") 812), (.int 283 0), (.int 7 0), (.int 0 0), (.int 0 0), (.int 3 0), (.ref 433), (.bool true), (.int 181 0), (.ref 434), .none, (.ref 435), (.ref 436), (.ref 437), (.int 824 0), (.int 283 0), (.str (Str.ofString "/claim/cut.py") 825)]), #[]⟩) ::
  (nat_lit 439, fnO (stAt 57) (Str.ofString "taken") [] .none (.str (Str.ofString "snobol.trial") 712) (.ref 438) .none) ::
  (nat_lit 440, ⟨(.type "tuple"), none, (.seq #[] 0), #[]⟩) ::
  (nat_lit 442, ⟨(.type "tuple"), none, (.seq #[(.str (Str.ofString "node") 832), (.str (Str.ofString "name") 833)] 0), #[]⟩) ::
  (nat_lit 443, ⟨(.type "tuple"), none, (.seq #[] 0), #[]⟩) ::
  (nat_lit 445, ⟨(.type "code"), none, (.fields #[(.str (Str.ofString "_law_now") 829), (.str (Str.ofString "_law_now") 830), (.str (Str.ofString "/claim/cut.py") 831), (.int 300 0), (.int 2 0), (.int 0 0), (.int 0 0), (.int 3 0), (.ref 440), (.bool true), (.int 181 0), (.ref 441), .none, (.ref 442), (.ref 443), (.ref 444), (.int 834 0), (.int 300 0), (.str (Str.ofString "/claim/cut.py") 835)]), #[]⟩) ::
  (nat_lit 446, fnO (stAt 59) (Str.ofString "_law_now") [] .none (.str (Str.ofString "law_xm0938_01") 827) (.ref 445) .none) ::
  (nat_lit 447, ⟨(.type "tuple"), none, (.seq #[] 0), #[]⟩) ::
  (nat_lit 449, ⟨(.type "tuple"), none, (.seq #[(.str (Str.ofString "row") 840), (.str (Str.ofString "first") 841), (.str (Str.ofString "order") 842), (.str (Str.ofString "host") 843), (.str (Str.ofString "node") 844), (.str (Str.ofString "part") 845), (.str (Str.ofString "text_of") 846)] 0), #[]⟩) ::
  (nat_lit 450, ⟨(.type "tuple"), none, (.seq #[(.str (Str.ofString "order") 847)] 0), #[]⟩) ::
  (nat_lit 452, ⟨(.type "code"), none, (.fields #[(.str (Str.ofString "_law_turned") 837), (.str (Str.ofString "_law_turned") 838), (.str (Str.ofString "/claim/cut.py") 839), (.int 302 0), (.int 4 0), (.int 0 0), (.int 0 0), (.int 3 0), (.ref 447), (.bool true), (.int 181 0), (.ref 448), .none, (.ref 449), (.ref 450), (.ref 451), (.int 848 0), (.int 302 0), (.str (Str.ofString "/claim/cut.py") 849)]), #[]⟩) ::
  (nat_lit 453, fnO (stAt 60) (Str.ofString "_law_turned") [] .none (.str (Str.ofString "law_xm0938_01") 827) (.ref 452) .none) ::
  (nat_lit 454, ⟨(.type "tuple"), none, (.seq #[] 0), #[]⟩) ::
  (nat_lit 457, ⟨(.type "code"), none, (.fields #[(.str (Str.ofString "_law_unlike") 851), (.str (Str.ofString "_law_unlike") 852), (.str (Str.ofString "/claim/cut.py") 853), (.int 310 0), (.int 2 0), (.int 0 0), (.int 0 0), (.int 3 0), (.ref 454), (.bool true), (.int 181 0), (.ref 455), .none, .none, .none, (.ref 456), (.int 854 0), (.int 310 0), (.str (Str.ofString "/claim/cut.py") 855)]), #[]⟩) ::
  (nat_lit 458, fnO (stAt 61) (Str.ofString "_law_unlike") [] .none (.str (Str.ofString "law_xm0938_01") 827) (.ref 457) .none) ::
  (nat_lit 459, ⟨(.type "tuple"), none, (.seq #[] 0), #[]⟩) ::
  (nat_lit 462, ⟨(.type "code"), none, (.fields #[(.str (Str.ofString "law") 857), (.str (Str.ofString "law") 858), (.str (Str.ofString "/claim/cut.py") 859), (.int 315 0), (.int 1 0), (.int 0 0), (.int 0 0), (.int 3 0), (.ref 459), (.bool true), (.int 181 0), (.ref 460), .none, .none, .none, (.ref 461), (.int 860 0), (.int 315 0), (.str (Str.ofString "/claim/cut.py") 861)]), #[]⟩) ::
  (nat_lit 463, fnO (stAt 62) (Str.ofString "law") [] .none (.str (Str.ofString "law_xm0938_01") 827) (.ref 462) .none) ::
  ([] : Frag)) = k → Frag)
  case' f => exact fun k _ => k
  iterate 294 (apply row_eq; · conv => lhs; whnf)
  rfl
end
section
noncomputable abbrev loose : List Str := [Str.ofString "SnobolError", Str.ofString "plain_count"]
noncomputable abbrev asK : List Addr := 2 :: 3 :: 15 :: 17 :: 18 :: 20 :: 21 :: 22 :: 24 :: 25 :: 27 :: 28 :: 29 :: 31 :: 32 :: 34 :: 35 :: 36 :: 38 :: 39 :: 41 :: 42 :: 43 :: 46 :: 51 :: 52 :: 53 :: 55 :: 56 :: 58 :: 59 :: 60 :: 61 :: 62 :: 63 :: 73 :: 74 :: 75 :: 76 :: 77 :: 87 :: 89 :: 90 :: 92 :: 93 :: 94 :: 95 :: 96 :: 97 :: 98 :: 108 :: 110 :: 111 :: 113 :: 114 :: 115 :: 116 :: 117 :: 118 :: 119 :: 129 :: 131 :: 132 :: 134 :: 135 :: 136 :: 137 :: 138 :: 139 :: 140 :: 143 :: 145 :: 146 :: 148 :: 149 :: 150 :: 152 :: 153 :: 155 :: 156 :: 157 :: 159 :: 160 :: 162 :: 163 :: 164 :: 166 :: 167 :: 169 :: 170 :: 171 :: 173 :: 174 :: 176 :: 177 :: 178 :: 180 :: 181 :: 183 :: 184 :: 185 :: 187 :: 188 :: 190 :: 191 :: 199 :: 201 :: 202 :: 204 :: 205 :: 206 :: 208 :: 209 :: 211 :: 212 :: 213 :: 215 :: 216 :: 218 :: 219 :: 220 :: 222 :: 223 :: 225 :: 226 :: 227 :: 228 :: 229 :: 230 :: 231 :: 234 :: 235 :: 236 :: 237 :: 239 :: 240 :: 242 :: 243 :: 244 :: 246 :: 247 :: 249 :: 250 :: 251 :: 253 :: 254 :: 256 :: 257 :: 258 :: 260 :: 261 :: 263 :: 264 :: 265 :: 267 :: 268 :: 270 :: 271 :: 272 :: 274 :: 275 :: 277 :: 278 :: 279 :: 281 :: 282 :: 284 :: 285 :: 286 :: 288 :: 289 :: 291 :: 292 :: 293 :: 295 :: 296 :: 298 :: 299 :: 300 :: 302 :: 303 :: 305 :: 306 :: 307 :: 309 :: 310 :: 312 :: 313 :: 314 :: 316 :: 317 :: 319 :: 320 :: 321 :: 323 :: 324 :: 326 :: 327 :: 328 :: 330 :: 331 :: 333 :: 334 :: 335 :: 337 :: 338 :: 340 :: 341 :: 342 :: 344 :: 345 :: 347 :: 348 :: 349 :: 351 :: 352 :: 354 :: 355 :: 356 :: 358 :: 359 :: 361 :: 362 :: 363 :: 365 :: 366 :: 368 :: 369 :: 370 :: 372 :: 373 :: 375 :: 376 :: 377 :: 379 :: 380 :: 382 :: 383 :: 384 :: 386 :: 387 :: 389 :: 390 :: 391 :: 393 :: 394 :: 396 :: 397 :: 398 :: 400 :: 401 :: 403 :: 404 :: 405 :: 407 :: 408 :: 410 :: 411 :: 412 :: 414 :: 415 :: 417 :: 418 :: 419 :: 421 :: 422 :: 424 :: 425 :: 426 :: 428 :: 429 :: 431 :: 432 :: 433 :: 435 :: 436 :: 438 :: 439 :: 440 :: 442 :: 443 :: 445 :: 446 :: 447 :: 449 :: 450 :: 452 :: 453 :: 454 :: 457 :: 458 :: 459 :: 462 :: 463 :: []
theorem asK_e : ∀ P, asK = (K P).map (·.1) := fun _ => by kernel_rfl
end
section
noncomputable def fnZ (st : Stmt) (q : Str) (cl : List (Str × Addr)) (d pm c ct : Value) : Obj := match st with
  | .FunctionDef n a b _ _ _ sc _ _ _ => ⟨.none, none, .func ⟨n, q, a, .stmts b, sc, 0, cl, d, .none, .none, pm, none, c, ct, 0⟩, #[]⟩
  | _ => default
/-- the nodes of a tree whose address is below n -/
noncomputable def cutT (n : Nat) : BT → Nat → Nat → BT
  | .nil, _, _ => .nil
  | .node o l r, s, b => match Nat.blt b n with
    | true => .node o (cutT n l (2 * s) (s + b)) (cutT n r (2 * s) (2 * s + b))
    | false => .nil
noncomputable def objsL (P : Params) : List Obj :=
  boot_o_0 P ::
  boot_o_1 P ::
  ⟨.none, none, (.dict #[⟨PyData.keyHash P (Str.ofString "type.__subclasses__.Exception.0"), (.str (Str.ofString "type.__subclasses__.Exception.0") 265), (.int 62 0)⟩, ⟨PyData.keyHash P (Str.ofString "type.__subclasses__.Exception.n"), (.str (Str.ofString "type.__subclasses__.Exception.n") 266), (.int 1 0)⟩] 2), #[]⟩ ::
  ⟨(.type "dict"), none, (.dict (List.toArray (⟨PyData.keyHash P (Str.ofString "__name__"), (.str (Str.ofString "__name__") 165), (.str (Str.ofString "law_xm0938_01") 827)⟩ :: ⟨PyData.keyHash P (Str.ofString "__doc__"), (.str (Str.ofString "__doc__") 166), .none⟩ :: ⟨PyData.keyHash P (Str.ofString "__package__"), (.str (Str.ofString "__package__") 167), .none⟩ :: ⟨PyData.keyHash P (Str.ofString "__loader__"), (.str (Str.ofString "__loader__") 168), (.builtin "__main__.__loader__#opaque")⟩ :: ⟨PyData.keyHash P (Str.ofString "__spec__"), (.str (Str.ofString "__spec__") 169), .none⟩ :: ⟨PyData.keyHash P (Str.ofString "__annotations__"), (.str (Str.ofString "__annotations__") 170), (.ref 6)⟩ :: ⟨PyData.keyHash P (Str.ofString "__builtins__"), (.str (Str.ofString "__builtins__") 171), (.ref 4)⟩ :: ⟨PyData.keyHash P (Str.ofString "__file__"), (.str (Str.ofString "__file__") 173), (.str (Str.ofString "/claim/cut.py") 172)⟩ :: ⟨PyData.keyHash P (Str.ofString "__cached__"), (.str (Str.ofString "__cached__") 174), .none⟩ :: ⟨PyData.keyHash P (Str.ofString "give_names"), (.str (Str.ofString "give_names") 198), (.ref 21)⟩ :: ⟨PyData.keyHash P (Str.ofString "three_pieces"), (.str (Str.ofString "three_pieces") 206), (.ref 28)⟩ :: ⟨PyData.keyHash P (Str.ofString "spliced"), (.str (Str.ofString "spliced") 218), (.ref 35)⟩ :: ⟨PyData.keyHash P (Str.ofString "replace_once"), (.str (Str.ofString "replace_once") 232), (.ref 42)⟩ :: ⟨PyData.keyHash P (Str.ofString "SnobolError"), (.str (Str.ofString "SnobolError") 268), (.ref 62)⟩ :: ⟨PyData.keyHash P (Str.ofString "Failure"), (.str (Str.ofString "Failure") 288), (.ref 75)⟩ :: ⟨PyData.keyHash P (Str.ofString "Pattern"), (.str (Str.ofString "Pattern") 317), (.ref 96)⟩ :: ⟨PyData.keyHash P (Str.ofString "Delayed"), (.str (Str.ofString "Delayed") 346), (.ref 117)⟩ :: ⟨PyData.keyHash P (Str.ofString "NameRef"), (.str (Str.ofString "NameRef") 379), (.ref 138)⟩ :: ⟨PyData.keyHash P (Str.ofString "is_fail"), (.str (Str.ofString "is_fail") 386), (.ref 149)⟩ :: ⟨PyData.keyHash P (Str.ofString "fits"), (.str (Str.ofString "fits") 394), (.ref 156)⟩ :: ⟨PyData.keyHash P (Str.ofString "whole_of_text"), (.str (Str.ofString "whole_of_text") 405), (.ref 163)⟩ :: ⟨PyData.keyHash P (Str.ofString "text_of_whole"), (.str (Str.ofString "text_of_whole") 414), (.ref 170)⟩ :: ⟨PyData.keyHash P (Str.ofString "to_whole"), (.str (Str.ofString "to_whole") 422), (.ref 177)⟩ :: ⟨PyData.keyHash P (Str.ofString "to_text"), (.str (Str.ofString "to_text") 429), (.ref 184)⟩ :: ⟨PyData.keyHash P (Str.ofString "need_text"), (.str (Str.ofString "need_text") 437), (.ref 191)⟩ :: ⟨PyData.keyHash P (Str.ofString "PlainHost"), (.str (Str.ofString "PlainHost") 499), (.ref 229)⟩ :: ⟨PyData.keyHash P (Str.ofString "COUNTED"), (.str (Str.ofString "COUNTED") 507), (.ref 234)⟩ :: ⟨PyData.keyHash P (Str.ofString "SIGNED"), (.str (Str.ofString "SIGNED") 512), (.ref 235)⟩ :: ⟨PyData.keyHash P (Str.ofString "WIDTH_OF_COUNT"), (.str (Str.ofString "WIDTH_OF_COUNT") 514), (.int 64 513)⟩ :: ⟨PyData.keyHash P (Str.ofString "plain_count"), (.str (Str.ofString "plain_count") 524), (.ref 243)⟩ :: ⟨PyData.keyHash P (Str.ofString "plain_signs"), (.str (Str.ofString "plain_signs") 533), (.ref 250)⟩ :: ⟨PyData.keyHash P (Str.ofString "pattern_of"), (.str (Str.ofString "pattern_of") 541), (.ref 257)⟩ :: ⟨PyData.keyHash P (Str.ofString "is_delayed"), (.str (Str.ofString "is_delayed") 548), (.ref 264)⟩ :: ⟨PyData.keyHash P (Str.ofString "settled"), (.str (Str.ofString "settled") 557), (.ref 271)⟩ :: ⟨PyData.keyHash P (Str.ofString "OPENING"), (.str (Str.ofString "OPENING") 561), (.str (Str.ofString "(") 560)⟩ :: ⟨PyData.keyHash P (Str.ofString "CLOSING"), (.str (Str.ofString "CLOSING") 563), (.str (Str.ofString ")") 562)⟩ :: ⟨PyData.keyHash P (Str.ofString "chars_end"), (.str (Str.ofString "chars_end") 573), (.ref 278)⟩ :: ⟨PyData.keyHash P (Str.ofString "len_end"), (.str (Str.ofString "len_end") 582), (.ref 285)⟩ :: ⟨PyData.keyHash P (Str.ofString "pos_end"), (.str (Str.ofString "pos_end") 590), (.ref 292)⟩ :: ⟨PyData.keyHash P (Str.ofString "rpos_end"), (.str (Str.ofString "rpos_end") 599), (.ref 299)⟩ :: ⟨PyData.keyHash P (Str.ofString "tab_end"), (.str (Str.ofString "tab_end") 608), (.ref 306)⟩ :: ⟨PyData.keyHash P (Str.ofString "rtab_end"), (.str (Str.ofString "rtab_end") 618), (.ref 313)⟩ :: ⟨PyData.keyHash P (Str.ofString "rem_end"), (.str (Str.ofString "rem_end") 625), (.ref 320)⟩ :: ⟨PyData.keyHash P (Str.ofString "any_at"), (.str (Str.ofString "any_at") 634), (.ref 327)⟩ :: ⟨PyData.keyHash P (Str.ofString "notany_at"), (.str (Str.ofString "notany_at") 643), (.ref 334)⟩ :: ⟨PyData.keyHash P (Str.ofString "run_end"), (.str (Str.ofString "run_end") 653), (.ref 341)⟩ :: ⟨PyData.keyHash P (Str.ofString "span_end"), (.str (Str.ofString "span_end") 663), (.ref 348)⟩ :: ⟨PyData.keyHash P (Str.ofString "break_end"), (.str (Str.ofString "break_end") 673), (.ref 355)⟩ :: ⟨PyData.keyHash P (Str.ofString "bal_end"), (.str (Str.ofString "bal_end") 682), (.ref 362)⟩ :: ⟨PyData.keyHash P (Str.ofString "bal_ends"), (.str (Str.ofString "bal_ends") 692), (.ref 369)⟩ :: ⟨PyData.keyHash P (Str.ofString "one_end"), (.str (Str.ofString "one_end") 702), (.ref 376)⟩ :: ⟨PyData.keyHash P (Str.ofString "plain_end"), (.str (Str.ofString "plain_end") 711), (.ref 383)⟩ :: ⟨PyData.keyHash P (Str.ofString "LOST"), (.str (Str.ofString "LOST") 715), (.str (Str.ofString "lost") 714)⟩ :: ⟨PyData.keyHash P (Str.ofString "match_plain"), (.str (Str.ofString "match_plain") 727), (.ref 390)⟩ :: ⟨PyData.keyHash P (Str.ofString "match_at"), (.str (Str.ofString "match_at") 738), (.ref 397)⟩ :: ⟨PyData.keyHash P (Str.ofString "tried"), (.str (Str.ofString "tried") 753), (.ref 404)⟩ :: ⟨PyData.keyHash P (Str.ofString "advanced"), (.str (Str.ofString "advanced") 769), (.ref 411)⟩ :: ⟨PyData.keyHash P (Str.ofString "led_in"), (.str (Str.ofString "led_in") 781), (.ref 418)⟩ :: ⟨PyData.keyHash P (Str.ofString "led_out"), (.str (Str.ofString "led_out") 797), (.ref 425)⟩ :: ⟨PyData.keyHash P (Str.ofString "steered"), (.str (Str.ofString "steered") 809), (.ref 432)⟩ :: ⟨PyData.keyHash P (Str.ofString "taken"), (.str (Str.ofString "taken") 826), (.ref 439)⟩ :: ⟨PyData.keyHash P (Str.ofString "_law_now"), (.str (Str.ofString "_law_now") 836), (.ref 446)⟩ :: ⟨PyData.keyHash P (Str.ofString "_law_turned"), (.str (Str.ofString "_law_turned") 850), (.ref 453)⟩ :: ⟨PyData.keyHash P (Str.ofString "_law_unlike"), (.str (Str.ofString "_law_unlike") 856), (.ref 458)⟩ :: ⟨PyData.keyHash P (Str.ofString "law"), (.str (Str.ofString "law") 862), (.ref 463)⟩ :: [])) 65), #[]⟩ ::
  boot_o_4 P ::
  boot_o_5 P ::
  boot_o_6 P ::
  boot_o_7 P ::
  boot_o_8 P ::
  boot_o_9 P ::
  boot_o_10 P ::
  ⟨(.type "tuple"), none, (.seq #[] 0), #[]⟩ ::
  ⟨.none, none, (.fields (List.toArray ((.int 2 0) :: (.int 0 0) :: (.ref 20) :: (.int 5 0) :: (.int 0 0) :: (.ref 27) :: (.int 7 0) :: (.int 0 0) :: (.ref 34) :: (.int 10 0) :: (.int 0 0) :: (.ref 41) :: (.int 18 0) :: (.int 0 0) :: (.ref 49) :: (.int 24 0) :: (.int 0 0) :: (.ref 71) :: (.int 26 0) :: (.int 0 0) :: (.ref 85) :: (.int 30 0) :: (.int 0 0) :: (.ref 106) :: (.int 34 0) :: (.int 0 0) :: (.ref 127) :: (.int 40 0) :: (.int 0 0) :: (.ref 148) :: (.int 42 0) :: (.int 0 0) :: (.ref 155) :: (.int 44 0) :: (.int 0 0) :: (.ref 162) :: (.int 57 0) :: (.int 0 0) :: (.ref 169) :: (.int 63 0) :: (.int 0 0) :: (.ref 176) :: (.int 67 0) :: (.int 0 0) :: (.ref 183) :: (.int 71 0) :: (.int 0 0) :: (.ref 190) :: (.int 77 0) :: (.int 0 0) :: (.ref 197) :: (.int 107 0) :: (.int 0 0) :: (.ref 242) :: (.int 114 0) :: (.int 0 0) :: (.ref 249) :: (.int 119 0) :: (.int 0 0) :: (.ref 256) :: (.int 128 0) :: (.int 0 0) :: (.ref 263) :: (.int 130 0) :: (.int 0 0) :: (.ref 270) :: (.int 142 0) :: (.int 0 0) :: (.ref 277) :: (.int 145 0) :: (.int 0 0) :: (.ref 284) :: (.int 147 0) :: (.int 0 0) :: (.ref 291) :: (.int 149 0) :: (.int 0 0) :: (.ref 298) :: (.int 151 0) :: (.int 0 0) :: (.ref 305) :: (.int 153 0) :: (.int 0 0) :: (.ref 312) :: (.int 156 0) :: (.int 0 0) :: (.ref 319) :: (.int 158 0) :: (.int 0 0) :: (.ref 326) :: (.int 160 0) :: (.int 0 0) :: (.ref 333) :: (.int 162 0) :: (.int 0 0) :: (.ref 340) :: (.int 166 0) :: (.int 0 0) :: (.ref 347) :: (.int 169 0) :: (.int 0 0) :: (.ref 354) :: (.int 172 0) :: (.int 0 0) :: (.ref 361) :: (.int 185 0) :: (.int 0 0) :: (.ref 368) :: (.int 191 0) :: (.int 0 0) :: (.ref 375) :: (.int 211 0) :: (.int 0 0) :: (.ref 382) :: (.int 215 0) :: (.int 0 0) :: (.ref 389) :: (.int 221 0) :: (.int 0 0) :: (.ref 396) :: (.int 224 0) :: (.int 0 0) :: (.ref 403) :: (.int 242 0) :: (.int 0 0) :: (.ref 410) :: (.int 257 0) :: (.int 0 0) :: (.ref 417) :: (.int 268 0) :: (.int 0 0) :: (.ref 424) :: (.int 275 0) :: (.int 0 0) :: (.ref 431) :: (.int 283 0) :: (.int 0 0) :: (.ref 438) :: (.int 300 0) :: (.int 0 0) :: (.ref 445) :: (.int 302 0) :: (.int 0 0) :: (.ref 452) :: (.int 310 0) :: (.int 0 0) :: (.ref 457) :: (.int 315 0) :: (.int 0 0) :: (.ref 462) :: []))), #[]⟩ ::
  ⟨(.type "code"), none, (.fields #[(.str (Str.ofString "<module>") 182), (.str (Str.ofString "<module>") 183), (.str (Str.ofString "/claim/cut.py") 184), (.int 1 0), (.int 0 0), (.int 0 0), (.int 0 0), (.int 0 0), (.ref 11), (.bool false), (.int 181 0), (.ref 12), .none, .none, .none, .none, (.int 185 0), (.int 1 0), (.str (Str.ofString "/claim/cut.py") 186)]), #[]⟩ ::
  ⟨(.type "frame"), none, .plain, #[(some (.ref 13)), (some (.ref 3)), (some (.ref 3)), none, (some (.str (Str.ofString "__main__") 164)), none, (some (.ref 0))]⟩ ::
  ⟨(.type "tuple"), none, (.seq #[] 0), #[]⟩ ::
  ⟨.none, none, (.fields #[]), #[]⟩ ::
  ⟨(.type "tuple"), none, (.seq #[(.str (Str.ofString "found") 192), (.str (Str.ofString "give") 193), (.str (Str.ofString "ref") 194), (.str (Str.ofString "text") 195)] 0), #[]⟩ ::
  ⟨(.type "tuple"), none, (.seq #[] 0), #[]⟩ ::
  fnZ (stAt 1) (Str.ofString "give_names") [] .none .none .none .none ::
  ⟨(.type "code"), none, (.fields #[(.str (Str.ofString "give_names") 189), (.str (Str.ofString "give_names") 190), (.str (Str.ofString "/claim/cut.py") 191), (.int 2 0), (.int 2 0), (.int 0 0), (.int 0 0), (.int 3 0), (.ref 15), (.bool true), (.int 181 0), (.ref 16), .none, (.ref 17), (.ref 18), (.ref 19), (.int 196 0), (.int 2 0), (.str (Str.ofString "/claim/cut.py") 197)]), #[]⟩ ::
  fnO (stAt 1) (Str.ofString "give_names") [] .none (.str (Str.ofString "snobol.matchcore") 187) (.ref 20) .none ::
  ⟨(.type "tuple"), none, (.seq #[] 0), #[]⟩ ::
  ⟨.none, none, (.fields #[]), #[]⟩ ::
  ⟨(.type "tuple"), none, (.seq #[(.str (Str.ofString "subject") 202), (.str (Str.ofString "found") 203)] 0), #[]⟩ ::
  ⟨(.type "tuple"), none, (.seq #[] 0), #[]⟩ ::
  fnZ (stAt 2) (Str.ofString "three_pieces") [] .none .none .none .none ::
  ⟨(.type "code"), none, (.fields #[(.str (Str.ofString "three_pieces") 199), (.str (Str.ofString "three_pieces") 200), (.str (Str.ofString "/claim/cut.py") 201), (.int 5 0), (.int 2 0), (.int 0 0), (.int 0 0), (.int 3 0), (.ref 22), (.bool true), (.int 181 0), (.ref 23), .none, (.ref 24), (.ref 25), (.ref 26), (.int 204 0), (.int 5 0), (.str (Str.ofString "/claim/cut.py") 205)]), #[]⟩ ::
  fnO (stAt 2) (Str.ofString "three_pieces") [] .none (.str (Str.ofString "snobol.matchcore") 187) (.ref 27) .none ::
  ⟨(.type "tuple"), none, (.seq #[] 0), #[]⟩ ::
  ⟨.none, none, (.fields #[]), #[]⟩ ::
  ⟨(.type "tuple"), none, (.seq #[(.str (Str.ofString "subject") 210), (.str (Str.ofString "found") 211), (.str (Str.ofString "text") 212), (.str (Str.ofString "ahead") 213), (.str (Str.ofString "met") 214), (.str (Str.ofString "behind") 215)] 0), #[]⟩ ::
  ⟨(.type "tuple"), none, (.seq #[] 0), #[]⟩ ::
  fnZ (stAt 3) (Str.ofString "spliced") [] .none .none .none .none ::
  ⟨(.type "code"), none, (.fields #[(.str (Str.ofString "spliced") 207), (.str (Str.ofString "spliced") 208), (.str (Str.ofString "/claim/cut.py") 209), (.int 7 0), (.int 3 0), (.int 0 0), (.int 0 0), (.int 3 0), (.ref 29), (.bool true), (.int 181 0), (.ref 30), .none, (.ref 31), (.ref 32), (.ref 33), (.int 216 0), (.int 7 0), (.str (Str.ofString "/claim/cut.py") 217)]), #[]⟩ ::
  fnO (stAt 3) (Str.ofString "spliced") [] .none (.str (Str.ofString "snobol.matchcore") 187) (.ref 34) .none ::
  ⟨(.type "tuple"), none, (.seq #[] 0), #[]⟩ ::
  ⟨.none, none, (.fields #[]), #[]⟩ ::
  ⟨(.type "tuple"), none, (.seq #[(.str (Str.ofString "matcher") 222), (.str (Str.ofString "node") 223), (.str (Str.ofString "subject") 224), (.str (Str.ofString "is_anchored") 225), (.str (Str.ofString "host") 226), (.str (Str.ofString "text_of") 227), (.str (Str.ofString "found") 228), (.str (Str.ofString "text") 229)] 0), #[]⟩ ::
  ⟨(.type "tuple"), none, (.seq #[] 0), #[]⟩ ::
  fnZ (stAt 4) (Str.ofString "replace_once") [] .none .none .none .none ::
  ⟨(.type "code"), none, (.fields #[(.str (Str.ofString "replace_once") 219), (.str (Str.ofString "replace_once") 220), (.str (Str.ofString "/claim/cut.py") 221), (.int 10 0), (.int 6 0), (.int 0 0), (.int 0 0), (.int 3 0), (.ref 36), (.bool true), (.int 181 0), (.ref 37), .none, (.ref 38), (.ref 39), (.ref 40), (.int 230 0), (.int 10 0), (.str (Str.ofString "/claim/cut.py") 231)]), #[]⟩ ::
  fnO (stAt 4) (Str.ofString "replace_once") [] .none (.str (Str.ofString "snobol.matchcore") 187) (.ref 41) .none ::
  ⟨(.type "tuple"), none, (.seq #[(.type "Exception")] 0), #[]⟩ ::
  ⟨(.type "builtin_function_or_method"), none, (.fields #[(.builtin "type.__prepare__"), (.type "type")]), #[]⟩ ::
  ⟨(.type "dict"), none, (.dict #[⟨PyData.keyHash P (Str.ofString "__module__"), (.str (Str.ofString "__module__") 242), (.str (Str.ofString "snobol.values") 233)⟩, ⟨PyData.keyHash P (Str.ofString "__qualname__"), (.str (Str.ofString "__qualname__") 244), (.str (Str.ofString "SnobolError") 243)⟩, ⟨PyData.keyHash P (Str.ofString "__firstlineno__"), (.str (Str.ofString "__firstlineno__") 246), (.int 18 245)⟩, ⟨PyData.keyHash P (Str.ofString "__init__"), (.str (Str.ofString "__init__") 257), (.ref 59)⟩, ⟨PyData.keyHash P (Str.ofString "__static_attributes__"), (.str (Str.ofString "__static_attributes__") 260), (.ref 60)⟩, ⟨PyData.keyHash P (Str.ofString "__classcell__"), (.str (Str.ofString "__classcell__") 261), (.ref 46)⟩] 6), #[]⟩ ::
  ⟨(.type "cell"), none, (.cell (some (.ref 62))), #[]⟩ ::
  ⟨(.type "tuple"), none, (.seq #[] 0), #[]⟩ ::
  ⟨.none, none, (.fields #[(.int 20 0), (.int 4 0), (.ref 58)]), #[]⟩ ::
  ⟨(.type "code"), none, (.fields #[(.str (Str.ofString "SnobolError") 237), (.str (Str.ofString "SnobolError") 238), (.str (Str.ofString "/claim/cut.py") 239), (.int 18 0), (.int 0 0), (.int 0 0), (.int 0 0), (.int 0 0), (.ref 47), (.bool false), (.int 181 0), (.ref 48), .none, .none, .none, .none, (.int 240 0), (.int 18 0), (.str (Str.ofString "/claim/cut.py") 241)]), #[]⟩ ::
  ⟨(.type "frame"), none, .plain, #[(some (.ref 49)), (some (.ref 3)), (some (.ref 45)), none, (some (.str (Str.ofString "snobol.values") 233)), none, (some (.ref 0))]⟩ ::
  ⟨(.type "tuple"), none, (.seq #[(.str (Str.ofString "") 247)] 0), #[]⟩ ::
  ⟨(.type "tuple"), none, (.seq #[(.ref 46)] 0), #[]⟩ ::
  ⟨(.type "tuple"), none, (.seq #[(.str (Str.ofString "__class__") 251)] 0), #[]⟩ ::
  ⟨.none, none, (.fields #[]), #[]⟩ ::
  ⟨(.type "tuple"), none, (.seq #[(.str (Str.ofString "self") 252), (.str (Str.ofString "number") 253), (.str (Str.ofString "told") 254)] 0), #[]⟩ ::
  ⟨(.type "tuple"), none, (.seq #[] 0), #[]⟩ ::
  fnZ (stIn (stAt 6) 0) (Str.ofString "SnobolError.__init__") [] .none .none .none .none ::
  ⟨(.type "code"), none, (.fields #[(.str (Str.ofString "__init__") 248), (.str (Str.ofString "SnobolError.__init__") 249), (.str (Str.ofString "/claim/cut.py") 250), (.int 20 0), (.int 3 0), (.int 0 0), (.int 0 0), (.int 3 0), (.ref 53), (.bool true), (.int 181 0), (.ref 54), .none, (.ref 55), (.ref 56), (.ref 57), (.int 255 0), (.int 20 0), (.str (Str.ofString "/claim/cut.py") 256)]), #[]⟩ ::
  fnO (stIn (stAt 6) 0) (Str.ofString "SnobolError.__init__") [((Str.ofString "__class__"), 46)] (.ref 51) (.str (Str.ofString "snobol.values") 233) (.ref 58) (.ref 52) ::
  ⟨(.type "tuple"), none, (.seq #[(.str (Str.ofString "number") 258), (.str (Str.ofString "told") 259)] 0), #[]⟩ ::
  ⟨(.type "dict"), none, (.dict #[⟨PyData.keyHash P (Str.ofString "__module__"), (.str (Str.ofString "__module__") 242), (.str (Str.ofString "snobol.values") 233)⟩, ⟨PyData.keyHash P (Str.ofString "__firstlineno__"), (.str (Str.ofString "__firstlineno__") 246), (.int 18 245)⟩, ⟨PyData.keyHash P (Str.ofString "__init__"), (.str (Str.ofString "__init__") 257), (.ref 59)⟩, ⟨PyData.keyHash P (Str.ofString "__static_attributes__"), (.str (Str.ofString "__static_attributes__") 260), (.ref 60)⟩, ⟨PyData.keyHash P (Str.ofString "__weakref__"), (.str (Str.ofString "__weakref__") 263), (.ref 63)⟩, ⟨PyData.keyHash P (Str.ofString "__doc__"), (.str (Str.ofString "__doc__") 264), .none⟩] 4), #[]⟩ ::
  ⟨(.type "type"), none, (.cls ⟨(Str.ofString "SnobolError"), [(.type "Exception")], [(.ref 62), (.type "Exception"), (.type "BaseException"), (.type "object")], 61, (Str.ofString "SnobolError"), true, [], [], false, none, false⟩), #[(some (.ref 43)), none, (some (.str (Str.ofString "SnobolError") 235)), (some (.str (Str.ofString "SnobolError") 243)), (some (.builtin "Exception.__new__")), (some (.bool true))]⟩ ::
  ⟨(.type "getset_descriptor"), none, (.fields #[(.str (Str.ofString "__weakref__") 262), (.ref 62), (.builtin "ExceptionGroup.__weakref__"), .none]), #[]⟩ ::
  ⟨(.type "super"), none, (.fields #[(.ref 62), (.ref 62), (.ref 62)]), #[]⟩ ::
  ⟨(.type "builtin_function_or_method"), none, (.fields #[(.builtin "object.__init_subclass__"), (.ref 62)]), #[]⟩ ::
  ⟨(.type "tuple"), none, (.seq #[] 0), #[]⟩ ::
  ⟨(.type "builtin_function_or_method"), none, (.fields #[(.builtin "type.__prepare__"), (.type "type")]), #[]⟩ ::
  ⟨(.type "dict"), none, (.dict #[⟨PyData.keyHash P (Str.ofString "__module__"), (.str (Str.ofString "__module__") 276), (.str (Str.ofString "snobol.values") 233)⟩, ⟨PyData.keyHash P (Str.ofString "__qualname__"), (.str (Str.ofString "__qualname__") 278), (.str (Str.ofString "Failure") 277)⟩, ⟨PyData.keyHash P (Str.ofString "__firstlineno__"), (.str (Str.ofString "__firstlineno__") 280), (.int 24 279)⟩, ⟨PyData.keyHash P (Str.ofString "__static_attributes__"), (.str (Str.ofString "__static_attributes__") 281), (.ref 73)⟩] 4), #[]⟩ ::
  ⟨(.type "tuple"), none, (.seq #[] 0), #[]⟩ ::
  ⟨.none, none, (.fields #[]), #[]⟩ ::
  ⟨(.type "code"), none, (.fields #[(.str (Str.ofString "Failure") 271), (.str (Str.ofString "Failure") 272), (.str (Str.ofString "/claim/cut.py") 273), (.int 24 0), (.int 0 0), (.int 0 0), (.int 0 0), (.int 0 0), (.ref 69), (.bool false), (.int 181 0), (.ref 70), .none, .none, .none, .none, (.int 274 0), (.int 24 0), (.str (Str.ofString "/claim/cut.py") 275)]), #[]⟩ ::
  ⟨(.type "frame"), none, .plain, #[(some (.ref 71)), (some (.ref 3)), (some (.ref 68)), none, (some (.str (Str.ofString "snobol.values") 233)), none, (some (.ref 0))]⟩ ::
  ⟨(.type "tuple"), none, (.seq #[] 0), #[]⟩ ::
  ⟨(.type "dict"), none, (.dict #[⟨PyData.keyHash P (Str.ofString "__module__"), (.str (Str.ofString "__module__") 276), (.str (Str.ofString "snobol.values") 233)⟩, ⟨PyData.keyHash P (Str.ofString "__firstlineno__"), (.str (Str.ofString "__firstlineno__") 280), (.int 24 279)⟩, ⟨PyData.keyHash P (Str.ofString "__static_attributes__"), (.str (Str.ofString "__static_attributes__") 281), (.ref 73)⟩, ⟨PyData.keyHash P (Str.ofString "__dict__"), (.str (Str.ofString "__dict__") 283), (.ref 76)⟩, ⟨PyData.keyHash P (Str.ofString "__weakref__"), (.str (Str.ofString "__weakref__") 285), (.ref 77)⟩, ⟨PyData.keyHash P (Str.ofString "__doc__"), (.str (Str.ofString "__doc__") 286), .none⟩] 4), #[]⟩ ::
  ⟨(.type "type"), none, (.cls ⟨(Str.ofString "Failure"), [(.type "object")], [(.ref 75), (.type "object")], 74, (Str.ofString "Failure"), true, [], [], false, none, false⟩), #[none, none, (some (.str (Str.ofString "Failure") 269)), (some (.str (Str.ofString "Failure") 277)), (some (.builtin "object.__new__")), (some (.bool true))]⟩ ::
  ⟨(.type "getset_descriptor"), none, (.fields #[(.str (Str.ofString "__dict__") 282), (.ref 75), (.builtin "function.__dict__"), (.builtin "function.__dict__#set")]), #[]⟩ ::
  ⟨(.type "getset_descriptor"), none, (.fields #[(.str (Str.ofString "__weakref__") 284), (.ref 75), (.builtin "ExceptionGroup.__weakref__"), .none]), #[]⟩ ::
  ⟨(.type "super"), none, (.fields #[(.ref 75), (.ref 75), (.ref 75)]), #[]⟩ ::
  ⟨(.type "builtin_function_or_method"), none, (.fields #[(.builtin "object.__init_subclass__"), (.ref 75)]), #[]⟩ ::
  ⟨(.type "tuple"), none, (.seq #[] 0), #[]⟩ ::
  ⟨(.type "builtin_function_or_method"), none, (.fields #[(.builtin "type.__prepare__"), (.type "type")]), #[]⟩ ::
  ⟨(.type "dict"), none, (.dict #[⟨PyData.keyHash P (Str.ofString "__module__"), (.str (Str.ofString "__module__") 296), (.str (Str.ofString "snobol.values") 233)⟩, ⟨PyData.keyHash P (Str.ofString "__qualname__"), (.str (Str.ofString "__qualname__") 298), (.str (Str.ofString "Pattern") 297)⟩, ⟨PyData.keyHash P (Str.ofString "__firstlineno__"), (.str (Str.ofString "__firstlineno__") 300), (.int 26 299)⟩, ⟨PyData.keyHash P (Str.ofString "__init__"), (.str (Str.ofString "__init__") 308), (.ref 93)⟩, ⟨PyData.keyHash P (Str.ofString "__static_attributes__"), (.str (Str.ofString "__static_attributes__") 310), (.ref 94)⟩] 5), #[]⟩ ::
  ⟨(.type "tuple"), none, (.seq #[] 0), #[]⟩ ::
  ⟨.none, none, (.fields #[(.int 28 0), (.int 4 0), (.ref 92)]), #[]⟩ ::
  ⟨(.type "code"), none, (.fields #[(.str (Str.ofString "Pattern") 291), (.str (Str.ofString "Pattern") 292), (.str (Str.ofString "/claim/cut.py") 293), (.int 26 0), (.int 0 0), (.int 0 0), (.int 0 0), (.int 0 0), (.ref 83), (.bool false), (.int 181 0), (.ref 84), .none, .none, .none, .none, (.int 294 0), (.int 26 0), (.str (Str.ofString "/claim/cut.py") 295)]), #[]⟩ ::
  ⟨(.type "frame"), none, .plain, #[(some (.ref 85)), (some (.ref 3)), (some (.ref 82)), none, (some (.str (Str.ofString "snobol.values") 233)), none, (some (.ref 0))]⟩ ::
  ⟨(.type "tuple"), none, (.seq #[] 0), #[]⟩ ::
  ⟨.none, none, (.fields #[]), #[]⟩ ::
  ⟨(.type "tuple"), none, (.seq #[(.str (Str.ofString "self") 304), (.str (Str.ofString "node") 305)] 0), #[]⟩ ::
  ⟨(.type "tuple"), none, (.seq #[] 0), #[]⟩ ::
  fnZ (stIn (stAt 8) 0) (Str.ofString "Pattern.__init__") [] .none .none .none .none ::
  ⟨(.type "code"), none, (.fields #[(.str (Str.ofString "__init__") 301), (.str (Str.ofString "Pattern.__init__") 302), (.str (Str.ofString "/claim/cut.py") 303), (.int 28 0), (.int 2 0), (.int 0 0), (.int 0 0), (.int 3 0), (.ref 87), (.bool true), (.int 181 0), (.ref 88), .none, (.ref 89), (.ref 90), (.ref 91), (.int 306 0), (.int 28 0), (.str (Str.ofString "/claim/cut.py") 307)]), #[]⟩ ::
  fnO (stIn (stAt 8) 0) (Str.ofString "Pattern.__init__") [] .none (.str (Str.ofString "snobol.values") 233) (.ref 92) .none ::
  ⟨(.type "tuple"), none, (.seq #[(.str (Str.ofString "node") 309)] 0), #[]⟩ ::
  ⟨(.type "dict"), none, (.dict #[⟨PyData.keyHash P (Str.ofString "__module__"), (.str (Str.ofString "__module__") 296), (.str (Str.ofString "snobol.values") 233)⟩, ⟨PyData.keyHash P (Str.ofString "__firstlineno__"), (.str (Str.ofString "__firstlineno__") 300), (.int 26 299)⟩, ⟨PyData.keyHash P (Str.ofString "__init__"), (.str (Str.ofString "__init__") 308), (.ref 93)⟩, ⟨PyData.keyHash P (Str.ofString "__static_attributes__"), (.str (Str.ofString "__static_attributes__") 310), (.ref 94)⟩, ⟨PyData.keyHash P (Str.ofString "__dict__"), (.str (Str.ofString "__dict__") 312), (.ref 97)⟩, ⟨PyData.keyHash P (Str.ofString "__weakref__"), (.str (Str.ofString "__weakref__") 314), (.ref 98)⟩, ⟨PyData.keyHash P (Str.ofString "__doc__"), (.str (Str.ofString "__doc__") 315), .none⟩] 4), #[]⟩ ::
  ⟨(.type "type"), none, (.cls ⟨(Str.ofString "Pattern"), [(.type "object")], [(.ref 96), (.type "object")], 95, (Str.ofString "Pattern"), true, [], [], false, none, false⟩), #[none, none, (some (.str (Str.ofString "Pattern") 289)), (some (.str (Str.ofString "Pattern") 297)), (some (.builtin "object.__new__")), (some (.bool true))]⟩ ::
  ⟨(.type "getset_descriptor"), none, (.fields #[(.str (Str.ofString "__dict__") 311), (.ref 96), (.builtin "function.__dict__"), (.builtin "function.__dict__#set")]), #[]⟩ ::
  ⟨(.type "getset_descriptor"), none, (.fields #[(.str (Str.ofString "__weakref__") 313), (.ref 96), (.builtin "ExceptionGroup.__weakref__"), .none]), #[]⟩ ::
  ⟨(.type "super"), none, (.fields #[(.ref 96), (.ref 96), (.ref 96)]), #[]⟩ ::
  ⟨(.type "builtin_function_or_method"), none, (.fields #[(.builtin "object.__init_subclass__"), (.ref 96)]), #[]⟩ ::
  ⟨(.type "tuple"), none, (.seq #[] 0), #[]⟩ ::
  ⟨(.type "builtin_function_or_method"), none, (.fields #[(.builtin "type.__prepare__"), (.type "type")]), #[]⟩ ::
  ⟨(.type "dict"), none, (.dict #[⟨PyData.keyHash P (Str.ofString "__module__"), (.str (Str.ofString "__module__") 325), (.str (Str.ofString "snobol.values") 233)⟩, ⟨PyData.keyHash P (Str.ofString "__qualname__"), (.str (Str.ofString "__qualname__") 327), (.str (Str.ofString "Delayed") 326)⟩, ⟨PyData.keyHash P (Str.ofString "__firstlineno__"), (.str (Str.ofString "__firstlineno__") 329), (.int 30 328)⟩, ⟨PyData.keyHash P (Str.ofString "__init__"), (.str (Str.ofString "__init__") 337), (.ref 114)⟩, ⟨PyData.keyHash P (Str.ofString "__static_attributes__"), (.str (Str.ofString "__static_attributes__") 339), (.ref 115)⟩] 5), #[]⟩ ::
  ⟨(.type "tuple"), none, (.seq #[] 0), #[]⟩ ::
  ⟨.none, none, (.fields #[(.int 32 0), (.int 4 0), (.ref 113)]), #[]⟩ ::
  ⟨(.type "code"), none, (.fields #[(.str (Str.ofString "Delayed") 320), (.str (Str.ofString "Delayed") 321), (.str (Str.ofString "/claim/cut.py") 322), (.int 30 0), (.int 0 0), (.int 0 0), (.int 0 0), (.int 0 0), (.ref 104), (.bool false), (.int 181 0), (.ref 105), .none, .none, .none, .none, (.int 323 0), (.int 30 0), (.str (Str.ofString "/claim/cut.py") 324)]), #[]⟩ ::
  ⟨(.type "frame"), none, .plain, #[(some (.ref 106)), (some (.ref 3)), (some (.ref 103)), none, (some (.str (Str.ofString "snobol.values") 233)), none, (some (.ref 0))]⟩ ::
  ⟨(.type "tuple"), none, (.seq #[] 0), #[]⟩ ::
  ⟨.none, none, (.fields #[]), #[]⟩ ::
  ⟨(.type "tuple"), none, (.seq #[(.str (Str.ofString "self") 333), (.str (Str.ofString "tree") 334)] 0), #[]⟩ ::
  ⟨(.type "tuple"), none, (.seq #[] 0), #[]⟩ ::
  fnZ (stIn (stAt 9) 0) (Str.ofString "Delayed.__init__") [] .none .none .none .none ::
  ⟨(.type "code"), none, (.fields #[(.str (Str.ofString "__init__") 330), (.str (Str.ofString "Delayed.__init__") 331), (.str (Str.ofString "/claim/cut.py") 332), (.int 32 0), (.int 2 0), (.int 0 0), (.int 0 0), (.int 3 0), (.ref 108), (.bool true), (.int 181 0), (.ref 109), .none, (.ref 110), (.ref 111), (.ref 112), (.int 335 0), (.int 32 0), (.str (Str.ofString "/claim/cut.py") 336)]), #[]⟩ ::
  fnO (stIn (stAt 9) 0) (Str.ofString "Delayed.__init__") [] .none (.str (Str.ofString "snobol.values") 233) (.ref 113) .none ::
  ⟨(.type "tuple"), none, (.seq #[(.str (Str.ofString "tree") 338)] 0), #[]⟩ ::
  ⟨(.type "dict"), none, (.dict #[⟨PyData.keyHash P (Str.ofString "__module__"), (.str (Str.ofString "__module__") 325), (.str (Str.ofString "snobol.values") 233)⟩, ⟨PyData.keyHash P (Str.ofString "__firstlineno__"), (.str (Str.ofString "__firstlineno__") 329), (.int 30 328)⟩, ⟨PyData.keyHash P (Str.ofString "__init__"), (.str (Str.ofString "__init__") 337), (.ref 114)⟩, ⟨PyData.keyHash P (Str.ofString "__static_attributes__"), (.str (Str.ofString "__static_attributes__") 339), (.ref 115)⟩, ⟨PyData.keyHash P (Str.ofString "__dict__"), (.str (Str.ofString "__dict__") 341), (.ref 118)⟩, ⟨PyData.keyHash P (Str.ofString "__weakref__"), (.str (Str.ofString "__weakref__") 343), (.ref 119)⟩, ⟨PyData.keyHash P (Str.ofString "__doc__"), (.str (Str.ofString "__doc__") 344), .none⟩] 4), #[]⟩ ::
  ⟨(.type "type"), none, (.cls ⟨(Str.ofString "Delayed"), [(.type "object")], [(.ref 117), (.type "object")], 116, (Str.ofString "Delayed"), true, [], [], false, none, false⟩), #[none, none, (some (.str (Str.ofString "Delayed") 318)), (some (.str (Str.ofString "Delayed") 326)), (some (.builtin "object.__new__")), (some (.bool true))]⟩ ::
  ⟨(.type "getset_descriptor"), none, (.fields #[(.str (Str.ofString "__dict__") 340), (.ref 117), (.builtin "function.__dict__"), (.builtin "function.__dict__#set")]), #[]⟩ ::
  ⟨(.type "getset_descriptor"), none, (.fields #[(.str (Str.ofString "__weakref__") 342), (.ref 117), (.builtin "ExceptionGroup.__weakref__"), .none]), #[]⟩ ::
  ⟨(.type "super"), none, (.fields #[(.ref 117), (.ref 117), (.ref 117)]), #[]⟩ ::
  ⟨(.type "builtin_function_or_method"), none, (.fields #[(.builtin "object.__init_subclass__"), (.ref 117)]), #[]⟩ ::
  ⟨(.type "tuple"), none, (.seq #[] 0), #[]⟩ ::
  ⟨(.type "builtin_function_or_method"), none, (.fields #[(.builtin "type.__prepare__"), (.type "type")]), #[]⟩ ::
  ⟨(.type "dict"), none, (.dict #[⟨PyData.keyHash P (Str.ofString "__module__"), (.str (Str.ofString "__module__") 354), (.str (Str.ofString "snobol.values") 233)⟩, ⟨PyData.keyHash P (Str.ofString "__qualname__"), (.str (Str.ofString "__qualname__") 356), (.str (Str.ofString "NameRef") 355)⟩, ⟨PyData.keyHash P (Str.ofString "__firstlineno__"), (.str (Str.ofString "__firstlineno__") 358), (.int 34 357)⟩, ⟨PyData.keyHash P (Str.ofString "__init__"), (.str (Str.ofString "__init__") 368), (.ref 135)⟩, ⟨PyData.keyHash P (Str.ofString "__static_attributes__"), (.str (Str.ofString "__static_attributes__") 372), (.ref 136)⟩] 5), #[]⟩ ::
  ⟨(.type "tuple"), none, (.seq #[] 0), #[]⟩ ::
  ⟨.none, none, (.fields #[(.int 36 0), (.int 4 0), (.ref 134)]), #[]⟩ ::
  ⟨(.type "code"), none, (.fields #[(.str (Str.ofString "NameRef") 349), (.str (Str.ofString "NameRef") 350), (.str (Str.ofString "/claim/cut.py") 351), (.int 34 0), (.int 0 0), (.int 0 0), (.int 0 0), (.int 0 0), (.ref 125), (.bool false), (.int 181 0), (.ref 126), .none, .none, .none, .none, (.int 352 0), (.int 34 0), (.str (Str.ofString "/claim/cut.py") 353)]), #[]⟩ ::
  ⟨(.type "frame"), none, .plain, #[(some (.ref 127)), (some (.ref 3)), (some (.ref 124)), none, (some (.str (Str.ofString "snobol.values") 233)), none, (some (.ref 0))]⟩ ::
  ⟨(.type "tuple"), none, (.seq #[] 0), #[]⟩ ::
  ⟨.none, none, (.fields #[]), #[]⟩ ::
  ⟨(.type "tuple"), none, (.seq #[(.str (Str.ofString "self") 362), (.str (Str.ofString "kind") 363), (.str (Str.ofString "owner") 364), (.str (Str.ofString "key") 365)] 0), #[]⟩ ::
  ⟨(.type "tuple"), none, (.seq #[] 0), #[]⟩ ::
  fnZ (stIn (stAt 10) 0) (Str.ofString "NameRef.__init__") [] .none .none .none .none ::
  ⟨(.type "code"), none, (.fields #[(.str (Str.ofString "__init__") 359), (.str (Str.ofString "NameRef.__init__") 360), (.str (Str.ofString "/claim/cut.py") 361), (.int 36 0), (.int 4 0), (.int 0 0), (.int 0 0), (.int 3 0), (.ref 129), (.bool true), (.int 181 0), (.ref 130), .none, (.ref 131), (.ref 132), (.ref 133), (.int 366 0), (.int 36 0), (.str (Str.ofString "/claim/cut.py") 367)]), #[]⟩ ::
  fnO (stIn (stAt 10) 0) (Str.ofString "NameRef.__init__") [] .none (.str (Str.ofString "snobol.values") 233) (.ref 134) .none ::
  ⟨(.type "tuple"), none, (.seq #[(.str (Str.ofString "key") 369), (.str (Str.ofString "kind") 370), (.str (Str.ofString "owner") 371)] 0), #[]⟩ ::
  ⟨(.type "dict"), none, (.dict #[⟨PyData.keyHash P (Str.ofString "__module__"), (.str (Str.ofString "__module__") 354), (.str (Str.ofString "snobol.values") 233)⟩, ⟨PyData.keyHash P (Str.ofString "__firstlineno__"), (.str (Str.ofString "__firstlineno__") 358), (.int 34 357)⟩, ⟨PyData.keyHash P (Str.ofString "__init__"), (.str (Str.ofString "__init__") 368), (.ref 135)⟩, ⟨PyData.keyHash P (Str.ofString "__static_attributes__"), (.str (Str.ofString "__static_attributes__") 372), (.ref 136)⟩, ⟨PyData.keyHash P (Str.ofString "__dict__"), (.str (Str.ofString "__dict__") 374), (.ref 139)⟩, ⟨PyData.keyHash P (Str.ofString "__weakref__"), (.str (Str.ofString "__weakref__") 376), (.ref 140)⟩, ⟨PyData.keyHash P (Str.ofString "__doc__"), (.str (Str.ofString "__doc__") 377), .none⟩] 4), #[]⟩ ::
  ⟨(.type "type"), none, (.cls ⟨(Str.ofString "NameRef"), [(.type "object")], [(.ref 138), (.type "object")], 137, (Str.ofString "NameRef"), true, [], [], false, none, false⟩), #[none, none, (some (.str (Str.ofString "NameRef") 347)), (some (.str (Str.ofString "NameRef") 355)), (some (.builtin "object.__new__")), (some (.bool true))]⟩ ::
  ⟨(.type "getset_descriptor"), none, (.fields #[(.str (Str.ofString "__dict__") 373), (.ref 138), (.builtin "function.__dict__"), (.builtin "function.__dict__#set")]), #[]⟩ ::
  ⟨(.type "getset_descriptor"), none, (.fields #[(.str (Str.ofString "__weakref__") 375), (.ref 138), (.builtin "ExceptionGroup.__weakref__"), .none]), #[]⟩ ::
  ⟨(.type "super"), none, (.fields #[(.ref 138), (.ref 138), (.ref 138)]), #[]⟩ ::
  ⟨(.type "builtin_function_or_method"), none, (.fields #[(.builtin "object.__init_subclass__"), (.ref 138)]), #[]⟩ ::
  ⟨(.type "tuple"), none, (.seq #[] 0), #[]⟩ ::
  ⟨.none, none, (.fields #[]), #[]⟩ ::
  ⟨(.type "tuple"), none, (.seq #[(.str (Str.ofString "value") 383)] 0), #[]⟩ ::
  ⟨(.type "tuple"), none, (.seq #[] 0), #[]⟩ ::
  fnZ (stAt 11) (Str.ofString "is_fail") [] .none .none .none .none ::
  ⟨(.type "code"), none, (.fields #[(.str (Str.ofString "is_fail") 380), (.str (Str.ofString "is_fail") 381), (.str (Str.ofString "/claim/cut.py") 382), (.int 40 0), (.int 1 0), (.int 0 0), (.int 0 0), (.int 3 0), (.ref 143), (.bool true), (.int 181 0), (.ref 144), .none, (.ref 145), (.ref 146), (.ref 147), (.int 384 0), (.int 40 0), (.str (Str.ofString "/claim/cut.py") 385)]), #[]⟩ ::
  fnO (stAt 11) (Str.ofString "is_fail") [] .none (.str (Str.ofString "snobol.values") 233) (.ref 148) .none ::
  ⟨(.type "tuple"), none, (.seq #[] 0), #[]⟩ ::
  ⟨.none, none, (.fields #[]), #[]⟩ ::
  ⟨(.type "tuple"), none, (.seq #[(.str (Str.ofString "number") 390), (.str (Str.ofString "width") 391)] 0), #[]⟩ ::
  ⟨(.type "tuple"), none, (.seq #[] 0), #[]⟩ ::
  fnZ (stAt 12) (Str.ofString "fits") [] .none .none .none .none ::
  ⟨(.type "code"), none, (.fields #[(.str (Str.ofString "fits") 387), (.str (Str.ofString "fits") 388), (.str (Str.ofString "/claim/cut.py") 389), (.int 42 0), (.int 2 0), (.int 0 0), (.int 0 0), (.int 3 0), (.ref 150), (.bool true), (.int 181 0), (.ref 151), .none, (.ref 152), (.ref 153), (.ref 154), (.int 392 0), (.int 42 0), (.str (Str.ofString "/claim/cut.py") 393)]), #[]⟩ ::
  fnO (stAt 12) (Str.ofString "fits") [] .none (.str (Str.ofString "snobol.values") 233) (.ref 155) .none ::
  ⟨(.type "tuple"), none, (.seq #[] 0), #[]⟩ ::
  ⟨.none, none, (.fields #[]), #[]⟩ ::
  ⟨(.type "tuple"), none, (.seq #[(.str (Str.ofString "text") 398), (.str (Str.ofString "width") 399), (.str (Str.ofString "digits") 400), (.str (Str.ofString "number") 401), (.str (Str.ofString "sign") 402)] 0), #[]⟩ ::
  ⟨(.type "tuple"), none, (.seq #[] 0), #[]⟩ ::
  fnZ (stAt 13) (Str.ofString "whole_of_text") [] .none .none .none .none ::
  ⟨(.type "code"), none, (.fields #[(.str (Str.ofString "whole_of_text") 395), (.str (Str.ofString "whole_of_text") 396), (.str (Str.ofString "/claim/cut.py") 397), (.int 44 0), (.int 2 0), (.int 0 0), (.int 0 0), (.int 3 0), (.ref 157), (.bool true), (.int 181 0), (.ref 158), .none, (.ref 159), (.ref 160), (.ref 161), (.int 403 0), (.int 44 0), (.str (Str.ofString "/claim/cut.py") 404)]), #[]⟩ ::
  fnO (stAt 13) (Str.ofString "whole_of_text") [] .none (.str (Str.ofString "snobol.values") 233) (.ref 162) .none ::
  ⟨(.type "tuple"), none, (.seq #[] 0), #[]⟩ ::
  ⟨.none, none, (.fields #[]), #[]⟩ ::
  ⟨(.type "tuple"), none, (.seq #[(.str (Str.ofString "number") 409), (.str (Str.ofString "left") 410), (.str (Str.ofString "found") 411)] 0), #[]⟩ ::
  ⟨(.type "tuple"), none, (.seq #[] 0), #[]⟩ ::
  fnZ (stAt 14) (Str.ofString "text_of_whole") [] .none .none .none .none ::
  ⟨(.type "code"), none, (.fields #[(.str (Str.ofString "text_of_whole") 406), (.str (Str.ofString "text_of_whole") 407), (.str (Str.ofString "/claim/cut.py") 408), (.int 57 0), (.int 1 0), (.int 0 0), (.int 0 0), (.int 3 0), (.ref 164), (.bool true), (.int 181 0), (.ref 165), .none, (.ref 166), (.ref 167), (.ref 168), (.int 412 0), (.int 57 0), (.str (Str.ofString "/claim/cut.py") 413)]), #[]⟩ ::
  fnO (stAt 14) (Str.ofString "text_of_whole") [] .none (.str (Str.ofString "snobol.values") 233) (.ref 169) .none ::
  ⟨(.type "tuple"), none, (.seq #[] 0), #[]⟩ ::
  ⟨.none, none, (.fields #[]), #[]⟩ ::
  ⟨(.type "tuple"), none, (.seq #[(.str (Str.ofString "value") 418), (.str (Str.ofString "width") 419)] 0), #[]⟩ ::
  ⟨(.type "tuple"), none, (.seq #[] 0), #[]⟩ ::
  fnZ (stAt 15) (Str.ofString "to_whole") [] .none .none .none .none ::
  ⟨(.type "code"), none, (.fields #[(.str (Str.ofString "to_whole") 415), (.str (Str.ofString "to_whole") 416), (.str (Str.ofString "/claim/cut.py") 417), (.int 63 0), (.int 2 0), (.int 0 0), (.int 0 0), (.int 3 0), (.ref 171), (.bool true), (.int 181 0), (.ref 172), .none, (.ref 173), (.ref 174), (.ref 175), (.int 420 0), (.int 63 0), (.str (Str.ofString "/claim/cut.py") 421)]), #[]⟩ ::
  fnO (stAt 15) (Str.ofString "to_whole") [] .none (.str (Str.ofString "snobol.values") 233) (.ref 176) .none ::
  ⟨(.type "tuple"), none, (.seq #[] 0), #[]⟩ ::
  ⟨.none, none, (.fields #[]), #[]⟩ ::
  ⟨(.type "tuple"), none, (.seq #[(.str (Str.ofString "value") 426)] 0), #[]⟩ ::
  ⟨(.type "tuple"), none, (.seq #[] 0), #[]⟩ ::
  fnZ (stAt 16) (Str.ofString "to_text") [] .none .none .none .none ::
  ⟨(.type "code"), none, (.fields #[(.str (Str.ofString "to_text") 423), (.str (Str.ofString "to_text") 424), (.str (Str.ofString "/claim/cut.py") 425), (.int 67 0), (.int 1 0), (.int 0 0), (.int 0 0), (.int 3 0), (.ref 178), (.bool true), (.int 181 0), (.ref 179), .none, (.ref 180), (.ref 181), (.ref 182), (.int 427 0), (.int 67 0), (.str (Str.ofString "/claim/cut.py") 428)]), #[]⟩ ::
  fnO (stAt 16) (Str.ofString "to_text") [] .none (.str (Str.ofString "snobol.values") 233) (.ref 183) .none ::
  ⟨(.type "tuple"), none, (.seq #[] 0), #[]⟩ ::
  ⟨.none, none, (.fields #[]), #[]⟩ ::
  ⟨(.type "tuple"), none, (.seq #[(.str (Str.ofString "value") 433), (.str (Str.ofString "text") 434)] 0), #[]⟩ ::
  ⟨(.type "tuple"), none, (.seq #[] 0), #[]⟩ ::
  fnZ (stAt 17) (Str.ofString "need_text") [] .none .none .none .none ::
  ⟨(.type "code"), none, (.fields #[(.str (Str.ofString "need_text") 430), (.str (Str.ofString "need_text") 431), (.str (Str.ofString "/claim/cut.py") 432), (.int 71 0), (.int 1 0), (.int 0 0), (.int 0 0), (.int 3 0), (.ref 185), (.bool true), (.int 181 0), (.ref 186), .none, (.ref 187), (.ref 188), (.ref 189), (.int 435 0), (.int 71 0), (.str (Str.ofString "/claim/cut.py") 436)]), #[]⟩ ::
  fnO (stAt 17) (Str.ofString "need_text") [] .none (.str (Str.ofString "snobol.values") 233) (.ref 190) .none ::
  ⟨(.type "tuple"), none, (.seq #[] 0), #[]⟩ ::
  ⟨(.type "builtin_function_or_method"), none, (.fields #[(.builtin "type.__prepare__"), (.type "type")]), #[]⟩ ::
  ⟨(.type "dict"), none, (.dict #[⟨PyData.keyHash P (Str.ofString "__module__"), (.str (Str.ofString "__module__") 447), (.str (Str.ofString "snobol.hosts") 438)⟩, ⟨PyData.keyHash P (Str.ofString "__qualname__"), (.str (Str.ofString "__qualname__") 449), (.str (Str.ofString "PlainHost") 448)⟩, ⟨PyData.keyHash P (Str.ofString "__firstlineno__"), (.str (Str.ofString "__firstlineno__") 451), (.int 77 450)⟩, ⟨PyData.keyHash P (Str.ofString "__init__"), (.str (Str.ofString "__init__") 461), (.ref 205)⟩, ⟨PyData.keyHash P (Str.ofString "value_of"), (.str (Str.ofString "value_of") 469), (.ref 212)⟩, ⟨PyData.keyHash P (Str.ofString "assign"), (.str (Str.ofString "assign") 478), (.ref 219)⟩, ⟨PyData.keyHash P (Str.ofString "step"), (.str (Str.ofString "step") 485), (.ref 226)⟩, ⟨PyData.keyHash P (Str.ofString "__static_attributes__"), (.str (Str.ofString "__static_attributes__") 492), (.ref 227)⟩] 8), #[]⟩ ::
  ⟨(.type "tuple"), none, (.seq #[] 0), #[]⟩ ::
  ⟨.none, none, (.fields #[(.int 79 0), (.int 4 0), (.ref 204), (.int 87 0), (.int 4 0), (.ref 211), (.int 92 0), (.int 4 0), (.ref 218), (.int 99 0), (.int 4 0), (.ref 225)]), #[]⟩ ::
  ⟨(.type "code"), none, (.fields #[(.str (Str.ofString "PlainHost") 442), (.str (Str.ofString "PlainHost") 443), (.str (Str.ofString "/claim/cut.py") 444), (.int 77 0), (.int 0 0), (.int 0 0), (.int 0 0), (.int 0 0), (.ref 195), (.bool false), (.int 181 0), (.ref 196), .none, .none, .none, .none, (.int 445 0), (.int 77 0), (.str (Str.ofString "/claim/cut.py") 446)]), #[]⟩ ::
  ⟨(.type "frame"), none, .plain, #[(some (.ref 197)), (some (.ref 3)), (some (.ref 194)), none, (some (.str (Str.ofString "snobol.hosts") 438)), none, (some (.ref 0))]⟩ ::
  ⟨(.type "tuple"), none, (.seq #[] 0), #[]⟩ ::
  ⟨.none, none, (.fields #[]), #[]⟩ ::
  ⟨(.type "tuple"), none, (.seq #[(.str (Str.ofString "self") 455), (.str (Str.ofString "values") 456), (.str (Str.ofString "limit") 457), (.str (Str.ofString "refused") 458)] 0), #[]⟩ ::
  ⟨(.type "tuple"), none, (.seq #[] 0), #[]⟩ ::
  fnZ (stIn (stAt 19) 0) (Str.ofString "PlainHost.__init__") [] .none .none .none .none ::
  ⟨(.type "code"), none, (.fields #[(.str (Str.ofString "__init__") 452), (.str (Str.ofString "PlainHost.__init__") 453), (.str (Str.ofString "/claim/cut.py") 454), (.int 79 0), (.int 4 0), (.int 0 0), (.int 0 0), (.int 3 0), (.ref 199), (.bool true), (.int 181 0), (.ref 200), .none, (.ref 201), (.ref 202), (.ref 203), (.int 459 0), (.int 79 0), (.str (Str.ofString "/claim/cut.py") 460)]), #[]⟩ ::
  fnO (stIn (stAt 19) 0) (Str.ofString "PlainHost.__init__") [] .none (.str (Str.ofString "snobol.hosts") 438) (.ref 204) .none ::
  ⟨(.type "tuple"), none, (.seq #[] 0), #[]⟩ ::
  ⟨.none, none, (.fields #[]), #[]⟩ ::
  ⟨(.type "tuple"), none, (.seq #[(.str (Str.ofString "self") 465), (.str (Str.ofString "tree") 466)] 0), #[]⟩ ::
  ⟨(.type "tuple"), none, (.seq #[] 0), #[]⟩ ::
  fnZ (stIn (stAt 19) 1) (Str.ofString "PlainHost.value_of") [] .none .none .none .none ::
  ⟨(.type "code"), none, (.fields #[(.str (Str.ofString "value_of") 462), (.str (Str.ofString "PlainHost.value_of") 463), (.str (Str.ofString "/claim/cut.py") 464), (.int 87 0), (.int 2 0), (.int 0 0), (.int 0 0), (.int 3 0), (.ref 206), (.bool true), (.int 181 0), (.ref 207), .none, (.ref 208), (.ref 209), (.ref 210), (.int 467 0), (.int 87 0), (.str (Str.ofString "/claim/cut.py") 468)]), #[]⟩ ::
  fnO (stIn (stAt 19) 1) (Str.ofString "PlainHost.value_of") [] .none (.str (Str.ofString "snobol.hosts") 438) (.ref 211) .none ::
  ⟨(.type "tuple"), none, (.seq #[] 0), #[]⟩ ::
  ⟨.none, none, (.fields #[]), #[]⟩ ::
  ⟨(.type "tuple"), none, (.seq #[(.str (Str.ofString "self") 473), (.str (Str.ofString "ref") 474), (.str (Str.ofString "value") 475)] 0), #[]⟩ ::
  ⟨(.type "tuple"), none, (.seq #[] 0), #[]⟩ ::
  fnZ (stIn (stAt 19) 2) (Str.ofString "PlainHost.assign") [] .none .none .none .none ::
  ⟨(.type "code"), none, (.fields #[(.str (Str.ofString "assign") 470), (.str (Str.ofString "PlainHost.assign") 471), (.str (Str.ofString "/claim/cut.py") 472), (.int 92 0), (.int 3 0), (.int 0 0), (.int 0 0), (.int 3 0), (.ref 213), (.bool true), (.int 181 0), (.ref 214), .none, (.ref 215), (.ref 216), (.ref 217), (.int 476 0), (.int 92 0), (.str (Str.ofString "/claim/cut.py") 477)]), #[]⟩ ::
  fnO (stIn (stAt 19) 2) (Str.ofString "PlainHost.assign") [] .none (.str (Str.ofString "snobol.hosts") 438) (.ref 218) .none ::
  ⟨(.type "tuple"), none, (.seq #[] 0), #[]⟩ ::
  ⟨.none, none, (.fields #[]), #[]⟩ ::
  ⟨(.type "tuple"), none, (.seq #[(.str (Str.ofString "self") 482)] 0), #[]⟩ ::
  ⟨(.type "tuple"), none, (.seq #[] 0), #[]⟩ ::
  fnZ (stIn (stAt 19) 3) (Str.ofString "PlainHost.step") [] .none .none .none .none ::
  ⟨(.type "code"), none, (.fields #[(.str (Str.ofString "step") 479), (.str (Str.ofString "PlainHost.step") 480), (.str (Str.ofString "/claim/cut.py") 481), (.int 99 0), (.int 1 0), (.int 0 0), (.int 0 0), (.int 3 0), (.ref 220), (.bool true), (.int 181 0), (.ref 221), .none, (.ref 222), (.ref 223), (.ref 224), (.int 483 0), (.int 99 0), (.str (Str.ofString "/claim/cut.py") 484)]), #[]⟩ ::
  fnO (stIn (stAt 19) 3) (Str.ofString "PlainHost.step") [] .none (.str (Str.ofString "snobol.hosts") 438) (.ref 225) .none ::
  ⟨(.type "tuple"), none, (.seq #[(.str (Str.ofString "limit") 486), (.str (Str.ofString "log") 487), (.str (Str.ofString "refused") 488), (.str (Str.ofString "steps") 489), (.str (Str.ofString "values") 490), (.str (Str.ofString "width") 491)] 0), #[]⟩ ::
  ⟨(.type "dict"), none, (.dict #[⟨PyData.keyHash P (Str.ofString "__module__"), (.str (Str.ofString "__module__") 447), (.str (Str.ofString "snobol.hosts") 438)⟩, ⟨PyData.keyHash P (Str.ofString "__firstlineno__"), (.str (Str.ofString "__firstlineno__") 451), (.int 77 450)⟩, ⟨PyData.keyHash P (Str.ofString "__init__"), (.str (Str.ofString "__init__") 461), (.ref 205)⟩, ⟨PyData.keyHash P (Str.ofString "value_of"), (.str (Str.ofString "value_of") 469), (.ref 212)⟩, ⟨PyData.keyHash P (Str.ofString "assign"), (.str (Str.ofString "assign") 478), (.ref 219)⟩, ⟨PyData.keyHash P (Str.ofString "step"), (.str (Str.ofString "step") 485), (.ref 226)⟩, ⟨PyData.keyHash P (Str.ofString "__static_attributes__"), (.str (Str.ofString "__static_attributes__") 492), (.ref 227)⟩, ⟨PyData.keyHash P (Str.ofString "__dict__"), (.str (Str.ofString "__dict__") 494), (.ref 230)⟩, ⟨PyData.keyHash P (Str.ofString "__weakref__"), (.str (Str.ofString "__weakref__") 496), (.ref 231)⟩, ⟨PyData.keyHash P (Str.ofString "__doc__"), (.str (Str.ofString "__doc__") 497), .none⟩] 4), #[]⟩ ::
  ⟨(.type "type"), none, (.cls ⟨(Str.ofString "PlainHost"), [(.type "object")], [(.ref 229), (.type "object")], 228, (Str.ofString "PlainHost"), true, [], [], false, none, false⟩), #[none, none, (some (.str (Str.ofString "PlainHost") 440)), (some (.str (Str.ofString "PlainHost") 448)), (some (.builtin "object.__new__")), (some (.bool true))]⟩ ::
  ⟨(.type "getset_descriptor"), none, (.fields #[(.str (Str.ofString "__dict__") 493), (.ref 229), (.builtin "function.__dict__"), (.builtin "function.__dict__#set")]), #[]⟩ ::
  ⟨(.type "getset_descriptor"), none, (.fields #[(.str (Str.ofString "__weakref__") 495), (.ref 229), (.builtin "ExceptionGroup.__weakref__"), .none]), #[]⟩ ::
  ⟨(.type "super"), none, (.fields #[(.ref 229), (.ref 229), (.ref 229)]), #[]⟩ ::
  ⟨(.type "builtin_function_or_method"), none, (.fields #[(.builtin "object.__init_subclass__"), (.ref 229)]), #[]⟩ ::
  ⟨(.type "tuple"), none, (.seq #[(.str (Str.ofString "len") 502), (.str (Str.ofString "pos") 503), (.str (Str.ofString "rpos") 504), (.str (Str.ofString "tab") 505), (.str (Str.ofString "rtab") 506)] 0), #[]⟩ ::
  ⟨(.type "tuple"), none, (.seq #[(.str (Str.ofString "any") 508), (.str (Str.ofString "notany") 509), (.str (Str.ofString "span") 510), (.str (Str.ofString "break") 511)] 0), #[]⟩ ::
  ⟨(.type "tuple"), none, (.seq #[(.int 64 513)] 0), #[]⟩ ::
  ⟨(.type "tuple"), none, (.seq #[] 0), #[]⟩ ::
  ⟨.none, none, (.fields #[]), #[]⟩ ::
  ⟨(.type "tuple"), none, (.seq #[(.str (Str.ofString "value") 518), (.str (Str.ofString "kind") 519), (.str (Str.ofString "width") 520), (.str (Str.ofString "count") 521)] 0), #[]⟩ ::
  ⟨(.type "tuple"), none, (.seq #[] 0), #[]⟩ ::
  fnZ (stAt 24) (Str.ofString "plain_count") [] .none .none .none .none ::
  ⟨(.type "code"), none, (.fields #[(.str (Str.ofString "plain_count") 515), (.str (Str.ofString "plain_count") 516), (.str (Str.ofString "/claim/cut.py") 517), (.int 107 0), (.int 3 0), (.int 0 0), (.int 0 0), (.int 3 0), (.ref 237), (.bool true), (.int 181 0), (.ref 238), .none, (.ref 239), (.ref 240), (.ref 241), (.int 522 0), (.int 107 0), (.str (Str.ofString "/claim/cut.py") 523)]), #[]⟩ ::
  fnO (stAt 24) (Str.ofString "plain_count") [] (.ref 236) (.str (Str.ofString "snobol.nodes") 500) (.ref 242) .none ::
  ⟨(.type "tuple"), none, (.seq #[] 0), #[]⟩ ::
  ⟨.none, none, (.fields #[]), #[]⟩ ::
  ⟨(.type "tuple"), none, (.seq #[(.str (Str.ofString "value") 528), (.str (Str.ofString "kind") 529), (.str (Str.ofString "text") 530)] 0), #[]⟩ ::
  ⟨(.type "tuple"), none, (.seq #[] 0), #[]⟩ ::
  fnZ (stAt 25) (Str.ofString "plain_signs") [] .none .none .none .none ::
  ⟨(.type "code"), none, (.fields #[(.str (Str.ofString "plain_signs") 525), (.str (Str.ofString "plain_signs") 526), (.str (Str.ofString "/claim/cut.py") 527), (.int 114 0), (.int 2 0), (.int 0 0), (.int 0 0), (.int 3 0), (.ref 244), (.bool true), (.int 181 0), (.ref 245), .none, (.ref 246), (.ref 247), (.ref 248), (.int 531 0), (.int 114 0), (.str (Str.ofString "/claim/cut.py") 532)]), #[]⟩ ::
  fnO (stAt 25) (Str.ofString "plain_signs") [] .none (.str (Str.ofString "snobol.nodes") 500) (.ref 249) .none ::
  ⟨(.type "tuple"), none, (.seq #[] 0), #[]⟩ ::
  ⟨.none, none, (.fields #[]), #[]⟩ ::
  ⟨(.type "tuple"), none, (.seq #[(.str (Str.ofString "value") 537), (.str (Str.ofString "text") 538)] 0), #[]⟩ ::
  ⟨(.type "tuple"), none, (.seq #[] 0), #[]⟩ ::
  fnZ (stAt 26) (Str.ofString "pattern_of") [] .none .none .none .none ::
  ⟨(.type "code"), none, (.fields #[(.str (Str.ofString "pattern_of") 534), (.str (Str.ofString "pattern_of") 535), (.str (Str.ofString "/claim/cut.py") 536), (.int 119 0), (.int 1 0), (.int 0 0), (.int 0 0), (.int 3 0), (.ref 251), (.bool true), (.int 181 0), (.ref 252), .none, (.ref 253), (.ref 254), (.ref 255), (.int 539 0), (.int 119 0), (.str (Str.ofString "/claim/cut.py") 540)]), #[]⟩ ::
  fnO (stAt 26) (Str.ofString "pattern_of") [] .none (.str (Str.ofString "snobol.nodes") 500) (.ref 256) .none ::
  ⟨(.type "tuple"), none, (.seq #[] 0), #[]⟩ ::
  ⟨.none, none, (.fields #[]), #[]⟩ ::
  ⟨(.type "tuple"), none, (.seq #[(.str (Str.ofString "told") 545)] 0), #[]⟩ ::
  ⟨(.type "tuple"), none, (.seq #[] 0), #[]⟩ ::
  fnZ (stAt 27) (Str.ofString "is_delayed") [] .none .none .none .none ::
  ⟨(.type "code"), none, (.fields #[(.str (Str.ofString "is_delayed") 542), (.str (Str.ofString "is_delayed") 543), (.str (Str.ofString "/claim/cut.py") 544), (.int 128 0), (.int 1 0), (.int 0 0), (.int 0 0), (.int 3 0), (.ref 258), (.bool true), (.int 181 0), (.ref 259), .none, (.ref 260), (.ref 261), (.ref 262), (.int 546 0), (.int 128 0), (.str (Str.ofString "/claim/cut.py") 547)]), #[]⟩ ::
  fnO (stAt 27) (Str.ofString "is_delayed") [] .none (.str (Str.ofString "snobol.nodes") 500) (.ref 263) .none ::
  ⟨(.type "tuple"), none, (.seq #[] 0), #[]⟩ ::
  ⟨.none, none, (.fields #[]), #[]⟩ ::
  ⟨(.type "tuple"), none, (.seq #[(.str (Str.ofString "node") 552), (.str (Str.ofString "host") 553), (.str (Str.ofString "value") 554)] 0), #[]⟩ ::
  ⟨(.type "tuple"), none, (.seq #[] 0), #[]⟩ ::
  fnZ (stAt 28) (Str.ofString "settled") [] .none .none .none .none ::
  ⟨(.type "code"), none, (.fields #[(.str (Str.ofString "settled") 549), (.str (Str.ofString "settled") 550), (.str (Str.ofString "/claim/cut.py") 551), (.int 130 0), (.int 2 0), (.int 0 0), (.int 0 0), (.int 3 0), (.ref 265), (.bool true), (.int 181 0), (.ref 266), .none, (.ref 267), (.ref 268), (.ref 269), (.int 555 0), (.int 130 0), (.str (Str.ofString "/claim/cut.py") 556)]), #[]⟩ ::
  fnO (stAt 28) (Str.ofString "settled") [] .none (.str (Str.ofString "snobol.nodes") 500) (.ref 270) .none ::
  ⟨(.type "tuple"), none, (.seq #[] 0), #[]⟩ ::
  ⟨.none, none, (.fields #[]), #[]⟩ ::
  ⟨(.type "tuple"), none, (.seq #[(.str (Str.ofString "subject") 567), (.str (Str.ofString "at") 568), (.str (Str.ofString "text") 569), (.str (Str.ofString "end") 570)] 0), #[]⟩ ::
  ⟨(.type "tuple"), none, (.seq #[] 0), #[]⟩ ::
  fnZ (stAt 32) (Str.ofString "chars_end") [] .none .none .none .none ::
  ⟨(.type "code"), none, (.fields #[(.str (Str.ofString "chars_end") 564), (.str (Str.ofString "chars_end") 565), (.str (Str.ofString "/claim/cut.py") 566), (.int 142 0), (.int 3 0), (.int 0 0), (.int 0 0), (.int 3 0), (.ref 272), (.bool true), (.int 181 0), (.ref 273), .none, (.ref 274), (.ref 275), (.ref 276), (.int 571 0), (.int 142 0), (.str (Str.ofString "/claim/cut.py") 572)]), #[]⟩ ::
  fnO (stAt 32) (Str.ofString "chars_end") [] .none (.str (Str.ofString "snobol.primitives") 558) (.ref 277) .none ::
  ⟨(.type "tuple"), none, (.seq #[] 0), #[]⟩ ::
  ⟨.none, none, (.fields #[]), #[]⟩ ::
  ⟨(.type "tuple"), none, (.seq #[(.str (Str.ofString "subject") 577), (.str (Str.ofString "at") 578), (.str (Str.ofString "many") 579)] 0), #[]⟩ ::
  ⟨(.type "tuple"), none, (.seq #[] 0), #[]⟩ ::
  fnZ (stAt 33) (Str.ofString "len_end") [] .none .none .none .none ::
  ⟨(.type "code"), none, (.fields #[(.str (Str.ofString "len_end") 574), (.str (Str.ofString "len_end") 575), (.str (Str.ofString "/claim/cut.py") 576), (.int 145 0), (.int 3 0), (.int 0 0), (.int 0 0), (.int 3 0), (.ref 279), (.bool true), (.int 181 0), (.ref 280), .none, (.ref 281), (.ref 282), (.ref 283), (.int 580 0), (.int 145 0), (.str (Str.ofString "/claim/cut.py") 581)]), #[]⟩ ::
  fnO (stAt 33) (Str.ofString "len_end") [] .none (.str (Str.ofString "snobol.primitives") 558) (.ref 284) .none ::
  ⟨(.type "tuple"), none, (.seq #[] 0), #[]⟩ ::
  ⟨.none, none, (.fields #[]), #[]⟩ ::
  ⟨(.type "tuple"), none, (.seq #[(.str (Str.ofString "at") 586), (.str (Str.ofString "place") 587)] 0), #[]⟩ ::
  ⟨(.type "tuple"), none, (.seq #[] 0), #[]⟩ ::
  fnZ (stAt 34) (Str.ofString "pos_end") [] .none .none .none .none ::
  ⟨(.type "code"), none, (.fields #[(.str (Str.ofString "pos_end") 583), (.str (Str.ofString "pos_end") 584), (.str (Str.ofString "/claim/cut.py") 585), (.int 147 0), (.int 2 0), (.int 0 0), (.int 0 0), (.int 3 0), (.ref 286), (.bool true), (.int 181 0), (.ref 287), .none, (.ref 288), (.ref 289), (.ref 290), (.int 588 0), (.int 147 0), (.str (Str.ofString "/claim/cut.py") 589)]), #[]⟩ ::
  fnO (stAt 34) (Str.ofString "pos_end") [] .none (.str (Str.ofString "snobol.primitives") 558) (.ref 291) .none ::
  ⟨(.type "tuple"), none, (.seq #[] 0), #[]⟩ ::
  ⟨.none, none, (.fields #[]), #[]⟩ ::
  ⟨(.type "tuple"), none, (.seq #[(.str (Str.ofString "subject") 594), (.str (Str.ofString "at") 595), (.str (Str.ofString "place") 596)] 0), #[]⟩ ::
  ⟨(.type "tuple"), none, (.seq #[] 0), #[]⟩ ::
  fnZ (stAt 35) (Str.ofString "rpos_end") [] .none .none .none .none ::
  ⟨(.type "code"), none, (.fields #[(.str (Str.ofString "rpos_end") 591), (.str (Str.ofString "rpos_end") 592), (.str (Str.ofString "/claim/cut.py") 593), (.int 149 0), (.int 3 0), (.int 0 0), (.int 0 0), (.int 3 0), (.ref 293), (.bool true), (.int 181 0), (.ref 294), .none, (.ref 295), (.ref 296), (.ref 297), (.int 597 0), (.int 149 0), (.str (Str.ofString "/claim/cut.py") 598)]), #[]⟩ ::
  fnO (stAt 35) (Str.ofString "rpos_end") [] .none (.str (Str.ofString "snobol.primitives") 558) (.ref 298) .none ::
  ⟨(.type "tuple"), none, (.seq #[] 0), #[]⟩ ::
  ⟨.none, none, (.fields #[]), #[]⟩ ::
  ⟨(.type "tuple"), none, (.seq #[(.str (Str.ofString "subject") 603), (.str (Str.ofString "at") 604), (.str (Str.ofString "place") 605)] 0), #[]⟩ ::
  ⟨(.type "tuple"), none, (.seq #[] 0), #[]⟩ ::
  fnZ (stAt 36) (Str.ofString "tab_end") [] .none .none .none .none ::
  ⟨(.type "code"), none, (.fields #[(.str (Str.ofString "tab_end") 600), (.str (Str.ofString "tab_end") 601), (.str (Str.ofString "/claim/cut.py") 602), (.int 151 0), (.int 3 0), (.int 0 0), (.int 0 0), (.int 3 0), (.ref 300), (.bool true), (.int 181 0), (.ref 301), .none, (.ref 302), (.ref 303), (.ref 304), (.int 606 0), (.int 151 0), (.str (Str.ofString "/claim/cut.py") 607)]), #[]⟩ ::
  fnO (stAt 36) (Str.ofString "tab_end") [] .none (.str (Str.ofString "snobol.primitives") 558) (.ref 305) .none ::
  ⟨(.type "tuple"), none, (.seq #[] 0), #[]⟩ ::
  ⟨.none, none, (.fields #[]), #[]⟩ ::
  ⟨(.type "tuple"), none, (.seq #[(.str (Str.ofString "subject") 612), (.str (Str.ofString "at") 613), (.str (Str.ofString "place") 614), (.str (Str.ofString "goal") 615)] 0), #[]⟩ ::
  ⟨(.type "tuple"), none, (.seq #[] 0), #[]⟩ ::
  fnZ (stAt 37) (Str.ofString "rtab_end") [] .none .none .none .none ::
  ⟨(.type "code"), none, (.fields #[(.str (Str.ofString "rtab_end") 609), (.str (Str.ofString "rtab_end") 610), (.str (Str.ofString "/claim/cut.py") 611), (.int 153 0), (.int 3 0), (.int 0 0), (.int 0 0), (.int 3 0), (.ref 307), (.bool true), (.int 181 0), (.ref 308), .none, (.ref 309), (.ref 310), (.ref 311), (.int 616 0), (.int 153 0), (.str (Str.ofString "/claim/cut.py") 617)]), #[]⟩ ::
  fnO (stAt 37) (Str.ofString "rtab_end") [] .none (.str (Str.ofString "snobol.primitives") 558) (.ref 312) .none ::
  ⟨(.type "tuple"), none, (.seq #[] 0), #[]⟩ ::
  ⟨.none, none, (.fields #[]), #[]⟩ ::
  ⟨(.type "tuple"), none, (.seq #[(.str (Str.ofString "subject") 622)] 0), #[]⟩ ::
  ⟨(.type "tuple"), none, (.seq #[] 0), #[]⟩ ::
  fnZ (stAt 38) (Str.ofString "rem_end") [] .none .none .none .none ::
  ⟨(.type "code"), none, (.fields #[(.str (Str.ofString "rem_end") 619), (.str (Str.ofString "rem_end") 620), (.str (Str.ofString "/claim/cut.py") 621), (.int 156 0), (.int 1 0), (.int 0 0), (.int 0 0), (.int 3 0), (.ref 314), (.bool true), (.int 181 0), (.ref 315), .none, (.ref 316), (.ref 317), (.ref 318), (.int 623 0), (.int 156 0), (.str (Str.ofString "/claim/cut.py") 624)]), #[]⟩ ::
  fnO (stAt 38) (Str.ofString "rem_end") [] .none (.str (Str.ofString "snobol.primitives") 558) (.ref 319) .none ::
  ⟨(.type "tuple"), none, (.seq #[] 0), #[]⟩ ::
  ⟨.none, none, (.fields #[]), #[]⟩ ::
  ⟨(.type "tuple"), none, (.seq #[(.str (Str.ofString "subject") 629), (.str (Str.ofString "at") 630), (.str (Str.ofString "signs") 631)] 0), #[]⟩ ::
  ⟨(.type "tuple"), none, (.seq #[] 0), #[]⟩ ::
  fnZ (stAt 39) (Str.ofString "any_at") [] .none .none .none .none ::
  ⟨(.type "code"), none, (.fields #[(.str (Str.ofString "any_at") 626), (.str (Str.ofString "any_at") 627), (.str (Str.ofString "/claim/cut.py") 628), (.int 158 0), (.int 3 0), (.int 0 0), (.int 0 0), (.int 3 0), (.ref 321), (.bool true), (.int 181 0), (.ref 322), .none, (.ref 323), (.ref 324), (.ref 325), (.int 632 0), (.int 158 0), (.str (Str.ofString "/claim/cut.py") 633)]), #[]⟩ ::
  fnO (stAt 39) (Str.ofString "any_at") [] .none (.str (Str.ofString "snobol.primitives") 558) (.ref 326) .none ::
  ⟨(.type "tuple"), none, (.seq #[] 0), #[]⟩ ::
  ⟨.none, none, (.fields #[]), #[]⟩ ::
  ⟨(.type "tuple"), none, (.seq #[(.str (Str.ofString "subject") 638), (.str (Str.ofString "at") 639), (.str (Str.ofString "signs") 640)] 0), #[]⟩ ::
  ⟨(.type "tuple"), none, (.seq #[] 0), #[]⟩ ::
  fnZ (stAt 40) (Str.ofString "notany_at") [] .none .none .none .none ::
  ⟨(.type "code"), none, (.fields #[(.str (Str.ofString "notany_at") 635), (.str (Str.ofString "notany_at") 636), (.str (Str.ofString "/claim/cut.py") 637), (.int 160 0), (.int 3 0), (.int 0 0), (.int 0 0), (.int 3 0), (.ref 328), (.bool true), (.int 181 0), (.ref 329), .none, (.ref 330), (.ref 331), (.ref 332), (.int 641 0), (.int 160 0), (.str (Str.ofString "/claim/cut.py") 642)]), #[]⟩ ::
  fnO (stAt 40) (Str.ofString "notany_at") [] .none (.str (Str.ofString "snobol.primitives") 558) (.ref 333) .none ::
  ⟨(.type "tuple"), none, (.seq #[] 0), #[]⟩ ::
  ⟨.none, none, (.fields #[]), #[]⟩ ::
  ⟨(.type "tuple"), none, (.seq #[(.str (Str.ofString "subject") 647), (.str (Str.ofString "at") 648), (.str (Str.ofString "signs") 649), (.str (Str.ofString "is_in") 650)] 0), #[]⟩ ::
  ⟨(.type "tuple"), none, (.seq #[] 0), #[]⟩ ::
  fnZ (stAt 41) (Str.ofString "run_end") [] .none .none .none .none ::
  ⟨(.type "code"), none, (.fields #[(.str (Str.ofString "run_end") 644), (.str (Str.ofString "run_end") 645), (.str (Str.ofString "/claim/cut.py") 646), (.int 162 0), (.int 4 0), (.int 0 0), (.int 0 0), (.int 3 0), (.ref 335), (.bool true), (.int 181 0), (.ref 336), .none, (.ref 337), (.ref 338), (.ref 339), (.int 651 0), (.int 162 0), (.str (Str.ofString "/claim/cut.py") 652)]), #[]⟩ ::
  fnO (stAt 41) (Str.ofString "run_end") [] .none (.str (Str.ofString "snobol.primitives") 558) (.ref 340) .none ::
  ⟨(.type "tuple"), none, (.seq #[] 0), #[]⟩ ::
  ⟨.none, none, (.fields #[]), #[]⟩ ::
  ⟨(.type "tuple"), none, (.seq #[(.str (Str.ofString "subject") 657), (.str (Str.ofString "at") 658), (.str (Str.ofString "signs") 659), (.str (Str.ofString "end") 660)] 0), #[]⟩ ::
  ⟨(.type "tuple"), none, (.seq #[] 0), #[]⟩ ::
  fnZ (stAt 42) (Str.ofString "span_end") [] .none .none .none .none ::
  ⟨(.type "code"), none, (.fields #[(.str (Str.ofString "span_end") 654), (.str (Str.ofString "span_end") 655), (.str (Str.ofString "/claim/cut.py") 656), (.int 166 0), (.int 3 0), (.int 0 0), (.int 0 0), (.int 3 0), (.ref 342), (.bool true), (.int 181 0), (.ref 343), .none, (.ref 344), (.ref 345), (.ref 346), (.int 661 0), (.int 166 0), (.str (Str.ofString "/claim/cut.py") 662)]), #[]⟩ ::
  fnO (stAt 42) (Str.ofString "span_end") [] .none (.str (Str.ofString "snobol.primitives") 558) (.ref 347) .none ::
  ⟨(.type "tuple"), none, (.seq #[] 0), #[]⟩ ::
  ⟨.none, none, (.fields #[]), #[]⟩ ::
  ⟨(.type "tuple"), none, (.seq #[(.str (Str.ofString "subject") 667), (.str (Str.ofString "at") 668), (.str (Str.ofString "signs") 669), (.str (Str.ofString "end") 670)] 0), #[]⟩ ::
  ⟨(.type "tuple"), none, (.seq #[] 0), #[]⟩ ::
  fnZ (stAt 43) (Str.ofString "break_end") [] .none .none .none .none ::
  ⟨(.type "code"), none, (.fields #[(.str (Str.ofString "break_end") 664), (.str (Str.ofString "break_end") 665), (.str (Str.ofString "/claim/cut.py") 666), (.int 169 0), (.int 3 0), (.int 0 0), (.int 0 0), (.int 3 0), (.ref 349), (.bool true), (.int 181 0), (.ref 350), .none, (.ref 351), (.ref 352), (.ref 353), (.int 671 0), (.int 169 0), (.str (Str.ofString "/claim/cut.py") 672)]), #[]⟩ ::
  fnO (stAt 43) (Str.ofString "break_end") [] .none (.str (Str.ofString "snobol.primitives") 558) (.ref 354) .none ::
  ⟨(.type "tuple"), none, (.seq #[] 0), #[]⟩ ::
  ⟨.none, none, (.fields #[]), #[]⟩ ::
  ⟨(.type "tuple"), none, (.seq #[(.str (Str.ofString "subject") 677), (.str (Str.ofString "at") 678), (.str (Str.ofString "level") 679)] 0), #[]⟩ ::
  ⟨(.type "tuple"), none, (.seq #[] 0), #[]⟩ ::
  fnZ (stAt 44) (Str.ofString "bal_end") [] .none .none .none .none ::
  ⟨(.type "code"), none, (.fields #[(.str (Str.ofString "bal_end") 674), (.str (Str.ofString "bal_end") 675), (.str (Str.ofString "/claim/cut.py") 676), (.int 172 0), (.int 2 0), (.int 0 0), (.int 0 0), (.int 3 0), (.ref 356), (.bool true), (.int 181 0), (.ref 357), .none, (.ref 358), (.ref 359), (.ref 360), (.int 680 0), (.int 172 0), (.str (Str.ofString "/claim/cut.py") 681)]), #[]⟩ ::
  fnO (stAt 44) (Str.ofString "bal_end") [] .none (.str (Str.ofString "snobol.primitives") 558) (.ref 361) .none ::
  ⟨(.type "tuple"), none, (.seq #[] 0), #[]⟩ ::
  ⟨.none, none, (.fields #[]), #[]⟩ ::
  ⟨(.type "tuple"), none, (.seq #[(.str (Str.ofString "subject") 686), (.str (Str.ofString "at") 687), (.str (Str.ofString "found") 688), (.str (Str.ofString "end") 689)] 0), #[]⟩ ::
  ⟨(.type "tuple"), none, (.seq #[] 0), #[]⟩ ::
  fnZ (stAt 45) (Str.ofString "bal_ends") [] .none .none .none .none ::
  ⟨(.type "code"), none, (.fields #[(.str (Str.ofString "bal_ends") 683), (.str (Str.ofString "bal_ends") 684), (.str (Str.ofString "/claim/cut.py") 685), (.int 185 0), (.int 2 0), (.int 0 0), (.int 0 0), (.int 3 0), (.ref 363), (.bool true), (.int 181 0), (.ref 364), .none, (.ref 365), (.ref 366), (.ref 367), (.int 690 0), (.int 185 0), (.str (Str.ofString "/claim/cut.py") 691)]), #[]⟩ ::
  fnO (stAt 45) (Str.ofString "bal_ends") [] .none (.str (Str.ofString "snobol.primitives") 558) (.ref 368) .none ::
  ⟨(.type "tuple"), none, (.seq #[] 0), #[]⟩ ::
  ⟨.none, none, (.fields #[]), #[]⟩ ::
  ⟨(.type "tuple"), none, (.seq #[(.str (Str.ofString "kind") 696), (.str (Str.ofString "subject") 697), (.str (Str.ofString "at") 698), (.str (Str.ofString "told") 699)] 0), #[]⟩ ::
  ⟨(.type "tuple"), none, (.seq #[] 0), #[]⟩ ::
  fnZ (stAt 46) (Str.ofString "one_end") [] .none .none .none .none ::
  ⟨(.type "code"), none, (.fields #[(.str (Str.ofString "one_end") 693), (.str (Str.ofString "one_end") 694), (.str (Str.ofString "/claim/cut.py") 695), (.int 191 0), (.int 4 0), (.int 0 0), (.int 0 0), (.int 3 0), (.ref 370), (.bool true), (.int 181 0), (.ref 371), .none, (.ref 372), (.ref 373), (.ref 374), (.int 700 0), (.int 191 0), (.str (Str.ofString "/claim/cut.py") 701)]), #[]⟩ ::
  fnO (stAt 46) (Str.ofString "one_end") [] .none (.str (Str.ofString "snobol.primitives") 558) (.ref 375) .none ::
  ⟨(.type "tuple"), none, (.seq #[] 0), #[]⟩ ::
  ⟨.none, none, (.fields #[]), #[]⟩ ::
  ⟨(.type "tuple"), none, (.seq #[(.str (Str.ofString "node") 706), (.str (Str.ofString "subject") 707), (.str (Str.ofString "at") 708)] 0), #[]⟩ ::
  ⟨(.type "tuple"), none, (.seq #[] 0), #[]⟩ ::
  fnZ (stAt 47) (Str.ofString "plain_end") [] .none .none .none .none ::
  ⟨(.type "code"), none, (.fields #[(.str (Str.ofString "plain_end") 703), (.str (Str.ofString "plain_end") 704), (.str (Str.ofString "/claim/cut.py") 705), (.int 211 0), (.int 3 0), (.int 0 0), (.int 0 0), (.int 3 0), (.ref 377), (.bool true), (.int 181 0), (.ref 378), .none, (.ref 379), (.ref 380), (.ref 381), (.int 709 0), (.int 211 0), (.str (Str.ofString "/claim/cut.py") 710)]), #[]⟩ ::
  fnO (stAt 47) (Str.ofString "plain_end") [] .none (.str (Str.ofString "snobol.primitives") 558) (.ref 382) .none ::
  ⟨(.type "tuple"), none, (.seq #[] 0), #[]⟩ ::
  ⟨.none, none, (.fields #[]), #[]⟩ ::
  ⟨(.type "tuple"), none, (.seq #[(.str (Str.ofString "node") 719), (.str (Str.ofString "subject") 720), (.str (Str.ofString "is_anchored") 721), (.str (Str.ofString "host") 722), (.str (Str.ofString "begin") 723), (.str (Str.ofString "found") 724)] 0), #[]⟩ ::
  ⟨(.type "tuple"), none, (.seq #[] 0), #[]⟩ ::
  fnZ (stAt 50) (Str.ofString "match_plain") [] .none .none .none .none ::
  ⟨(.type "code"), none, (.fields #[(.str (Str.ofString "match_plain") 716), (.str (Str.ofString "match_plain") 717), (.str (Str.ofString "/claim/cut.py") 718), (.int 215 0), (.int 4 0), (.int 0 0), (.int 0 0), (.int 3 0), (.ref 384), (.bool true), (.int 181 0), (.ref 385), .none, (.ref 386), (.ref 387), (.ref 388), (.int 725 0), (.int 215 0), (.str (Str.ofString "/claim/cut.py") 726)]), #[]⟩ ::
  fnO (stAt 50) (Str.ofString "match_plain") [] .none (.str (Str.ofString "snobol.trial") 712) (.ref 389) .none ::
  ⟨(.type "tuple"), none, (.seq #[] 0), #[]⟩ ::
  ⟨.none, none, (.fields #[]), #[]⟩ ::
  ⟨(.type "tuple"), none, (.seq #[(.str (Str.ofString "node") 731), (.str (Str.ofString "subject") 732), (.str (Str.ofString "begin") 733), (.str (Str.ofString "host") 734), (.str (Str.ofString "found") 735)] 0), #[]⟩ ::
  ⟨(.type "tuple"), none, (.seq #[] 0), #[]⟩ ::
  fnZ (stAt 51) (Str.ofString "match_at") [] .none .none .none .none ::
  ⟨(.type "code"), none, (.fields #[(.str (Str.ofString "match_at") 728), (.str (Str.ofString "match_at") 729), (.str (Str.ofString "/claim/cut.py") 730), (.int 221 0), (.int 4 0), (.int 0 0), (.int 0 0), (.int 3 0), (.ref 391), (.bool true), (.int 181 0), (.ref 392), .none, (.ref 393), (.ref 394), (.ref 395), (.int 736 0), (.int 221 0), (.str (Str.ofString "/claim/cut.py") 737)]), #[]⟩ ::
  fnO (stAt 51) (Str.ofString "match_at") [] .none (.str (Str.ofString "snobol.trial") 712) (.ref 396) .none ::
  ⟨(.type "tuple"), none, (.seq #[] 0), #[]⟩ ::
  ⟨.none, none, (.fields #[]), #[]⟩ ::
  ⟨(.type "tuple"), none, (.seq #[(.str (Str.ofString "node") 742), (.str (Str.ofString "subject") 743), (.str (Str.ofString "begin") 744), (.str (Str.ofString "host") 745), (.str (Str.ofString "pile") 746), (.str (Str.ofString "way") 747), (.str (Str.ofString "chain") 748), (.str (Str.ofString "at") 749), (.str (Str.ofString "named") 750)] 0), #[]⟩ ::
  ⟨(.type "tuple"), none, (.seq #[] 0), #[]⟩ ::
  fnZ (stAt 52) (Str.ofString "tried") [] .none .none .none .none ::
  ⟨(.type "code"), none, (.fields #[(.str (Str.ofString "tried") 739), (.str (Str.ofString "tried") 740), (.str (Str.ofString "/claim/cut.py") 741), (.int 224 0), (.int 4 0), (.int 0 0), (.int 0 0), (.int 3 0), (.ref 398), (.bool true), (.int 181 0), (.ref 399), .none, (.ref 400), (.ref 401), (.ref 402), (.int 751 0), (.int 224 0), (.str (Str.ofString "/claim/cut.py") 752)]), #[]⟩ ::
  fnO (stAt 52) (Str.ofString "tried") [] .none (.str (Str.ofString "snobol.trial") 712) (.ref 403) .none ::
  ⟨(.type "tuple"), none, (.seq #[] 0), #[]⟩ ::
  ⟨.none, none, (.fields #[]), #[]⟩ ::
  ⟨(.type "tuple"), none, (.seq #[(.str (Str.ofString "chain") 757), (.str (Str.ofString "at") 758), (.str (Str.ofString "named") 759), (.str (Str.ofString "subject") 760), (.str (Str.ofString "pile") 761), (.str (Str.ofString "host") 762), (.str (Str.ofString "here") 763), (.str (Str.ofString "rest") 764), (.str (Str.ofString "kind") 765), (.str (Str.ofString "value") 766)] 0), #[]⟩ ::
  ⟨(.type "tuple"), none, (.seq #[] 0), #[]⟩ ::
  fnZ (stAt 53) (Str.ofString "advanced") [] .none .none .none .none ::
  ⟨(.type "code"), none, (.fields #[(.str (Str.ofString "advanced") 754), (.str (Str.ofString "advanced") 755), (.str (Str.ofString "/claim/cut.py") 756), (.int 242 0), (.int 6 0), (.int 0 0), (.int 0 0), (.int 3 0), (.ref 405), (.bool true), (.int 181 0), (.ref 406), .none, (.ref 407), (.ref 408), (.ref 409), (.int 767 0), (.int 242 0), (.str (Str.ofString "/claim/cut.py") 768)]), #[]⟩ ::
  fnO (stAt 53) (Str.ofString "advanced") [] .none (.str (Str.ofString "snobol.trial") 712) (.ref 410) .none ::
  ⟨(.type "tuple"), none, (.seq #[] 0), #[]⟩ ::
  ⟨.none, none, (.fields #[]), #[]⟩ ::
  ⟨(.type "tuple"), none, (.seq #[(.str (Str.ofString "here") 773), (.str (Str.ofString "rest") 774), (.str (Str.ofString "at") 775), (.str (Str.ofString "named") 776), (.str (Str.ofString "pile") 777), (.str (Str.ofString "kind") 778)] 0), #[]⟩ ::
  ⟨(.type "tuple"), none, (.seq #[] 0), #[]⟩ ::
  fnZ (stAt 54) (Str.ofString "led_in") [] .none .none .none .none ::
  ⟨(.type "code"), none, (.fields #[(.str (Str.ofString "led_in") 770), (.str (Str.ofString "led_in") 771), (.str (Str.ofString "/claim/cut.py") 772), (.int 257 0), (.int 5 0), (.int 0 0), (.int 0 0), (.int 3 0), (.ref 412), (.bool true), (.int 181 0), (.ref 413), .none, (.ref 414), (.ref 415), (.ref 416), (.int 779 0), (.int 257 0), (.str (Str.ofString "/claim/cut.py") 780)]), #[]⟩ ::
  fnO (stAt 54) (Str.ofString "led_in") [] .none (.str (Str.ofString "snobol.trial") 712) (.ref 417) .none ::
  ⟨(.type "tuple"), none, (.seq #[] 0), #[]⟩ ::
  ⟨.none, none, (.fields #[]), #[]⟩ ::
  ⟨(.type "tuple"), none, (.seq #[(.str (Str.ofString "here") 785), (.str (Str.ofString "rest") 786), (.str (Str.ofString "at") 787), (.str (Str.ofString "named") 788), (.str (Str.ofString "subject") 789), (.str (Str.ofString "pile") 790), (.str (Str.ofString "host") 791), (.str (Str.ofString "kind") 792), (.str (Str.ofString "told") 793), (.str (Str.ofString "begin") 794)] 0), #[]⟩ ::
  ⟨(.type "tuple"), none, (.seq #[] 0), #[]⟩ ::
  fnZ (stAt 55) (Str.ofString "led_out") [] .none .none .none .none ::
  ⟨(.type "code"), none, (.fields #[(.str (Str.ofString "led_out") 782), (.str (Str.ofString "led_out") 783), (.str (Str.ofString "/claim/cut.py") 784), (.int 268 0), (.int 7 0), (.int 0 0), (.int 0 0), (.int 3 0), (.ref 419), (.bool true), (.int 181 0), (.ref 420), .none, (.ref 421), (.ref 422), (.ref 423), (.int 795 0), (.int 268 0), (.str (Str.ofString "/claim/cut.py") 796)]), #[]⟩ ::
  fnO (stAt 55) (Str.ofString "led_out") [] .none (.str (Str.ofString "snobol.trial") 712) (.ref 424) .none ::
  ⟨(.type "tuple"), none, (.seq #[] 0), #[]⟩ ::
  ⟨.none, none, (.fields #[]), #[]⟩ ::
  ⟨(.type "tuple"), none, (.seq #[(.str (Str.ofString "chain") 801), (.str (Str.ofString "at") 802), (.str (Str.ofString "named") 803), (.str (Str.ofString "pile") 804), (.str (Str.ofString "kind") 805), (.str (Str.ofString "rest") 806)] 0), #[]⟩ ::
  ⟨(.type "tuple"), none, (.seq #[] 0), #[]⟩ ::
  fnZ (stAt 56) (Str.ofString "steered") [] .none .none .none .none ::
  ⟨(.type "code"), none, (.fields #[(.str (Str.ofString "steered") 798), (.str (Str.ofString "steered") 799), (.str (Str.ofString "/claim/cut.py") 800), (.int 275 0), (.int 4 0), (.int 0 0), (.int 0 0), (.int 3 0), (.ref 426), (.bool true), (.int 181 0), (.ref 427), .none, (.ref 428), (.ref 429), (.ref 430), (.int 807 0), (.int 275 0), (.str (Str.ofString "/claim/cut.py") 808)]), #[]⟩ ::
  fnO (stAt 56) (Str.ofString "steered") [] .none (.str (Str.ofString "snobol.trial") 712) (.ref 431) .none ::
  ⟨(.type "tuple"), none, (.seq #[] 0), #[]⟩ ::
  ⟨.none, none, (.fields #[]), #[]⟩ ::
  ⟨(.type "tuple"), none, (.seq #[(.str (Str.ofString "here") 813), (.str (Str.ofString "rest") 814), (.str (Str.ofString "at") 815), (.str (Str.ofString "named") 816), (.str (Str.ofString "subject") 817), (.str (Str.ofString "pile") 818), (.str (Str.ofString "host") 819), (.str (Str.ofString "kind") 820), (.str (Str.ofString "ends") 821), (.str (Str.ofString "end") 822), (.str (Str.ofString "plain") 823)] 0), #[]⟩ ::
  ⟨(.type "tuple"), none, (.seq #[] 0), #[]⟩ ::
  fnZ (stAt 57) (Str.ofString "taken") [] .none .none .none .none ::
  ⟨(.type "code"), none, (.fields #[(.str (Str.ofString "taken") 810), (.str (Str.ofString "taken") 811), (.str (Str.ofString "/claim/cut.py") 812), (.int 283 0), (.int 7 0), (.int 0 0), (.int 0 0), (.int 3 0), (.ref 433), (.bool true), (.int 181 0), (.ref 434), .none, (.ref 435), (.ref 436), (.ref 437), (.int 824 0), (.int 283 0), (.str (Str.ofString "/claim/cut.py") 825)]), #[]⟩ ::
  fnO (stAt 57) (Str.ofString "taken") [] .none (.str (Str.ofString "snobol.trial") 712) (.ref 438) .none ::
  ⟨(.type "tuple"), none, (.seq #[] 0), #[]⟩ ::
  ⟨.none, none, (.fields #[]), #[]⟩ ::
  ⟨(.type "tuple"), none, (.seq #[(.str (Str.ofString "node") 832), (.str (Str.ofString "name") 833)] 0), #[]⟩ ::
  ⟨(.type "tuple"), none, (.seq #[] 0), #[]⟩ ::
  fnZ (stAt 59) (Str.ofString "_law_now") [] .none .none .none .none ::
  ⟨(.type "code"), none, (.fields #[(.str (Str.ofString "_law_now") 829), (.str (Str.ofString "_law_now") 830), (.str (Str.ofString "/claim/cut.py") 831), (.int 300 0), (.int 2 0), (.int 0 0), (.int 0 0), (.int 3 0), (.ref 440), (.bool true), (.int 181 0), (.ref 441), .none, (.ref 442), (.ref 443), (.ref 444), (.int 834 0), (.int 300 0), (.str (Str.ofString "/claim/cut.py") 835)]), #[]⟩ ::
  fnO (stAt 59) (Str.ofString "_law_now") [] .none (.str (Str.ofString "law_xm0938_01") 827) (.ref 445) .none ::
  ⟨(.type "tuple"), none, (.seq #[] 0), #[]⟩ ::
  ⟨.none, none, (.fields #[]), #[]⟩ ::
  ⟨(.type "tuple"), none, (.seq #[(.str (Str.ofString "row") 840), (.str (Str.ofString "first") 841), (.str (Str.ofString "order") 842), (.str (Str.ofString "host") 843), (.str (Str.ofString "node") 844), (.str (Str.ofString "part") 845), (.str (Str.ofString "text_of") 846)] 0), #[]⟩ ::
  ⟨(.type "tuple"), none, (.seq #[(.str (Str.ofString "order") 847)] 0), #[]⟩ ::
  fnZ (stAt 60) (Str.ofString "_law_turned") [] .none .none .none .none ::
  ⟨(.type "code"), none, (.fields #[(.str (Str.ofString "_law_turned") 837), (.str (Str.ofString "_law_turned") 838), (.str (Str.ofString "/claim/cut.py") 839), (.int 302 0), (.int 4 0), (.int 0 0), (.int 0 0), (.int 3 0), (.ref 447), (.bool true), (.int 181 0), (.ref 448), .none, (.ref 449), (.ref 450), (.ref 451), (.int 848 0), (.int 302 0), (.str (Str.ofString "/claim/cut.py") 849)]), #[]⟩ ::
  fnO (stAt 60) (Str.ofString "_law_turned") [] .none (.str (Str.ofString "law_xm0938_01") 827) (.ref 452) .none ::
  ⟨(.type "tuple"), none, (.seq #[] 0), #[]⟩ ::
  ⟨.none, none, (.fields #[]), #[]⟩ ::
  fnZ (stAt 61) (Str.ofString "_law_unlike") [] .none .none .none .none ::
  ⟨(.type "code"), none, (.fields #[(.str (Str.ofString "_law_unlike") 851), (.str (Str.ofString "_law_unlike") 852), (.str (Str.ofString "/claim/cut.py") 853), (.int 310 0), (.int 2 0), (.int 0 0), (.int 0 0), (.int 3 0), (.ref 454), (.bool true), (.int 181 0), (.ref 455), .none, .none, .none, (.ref 456), (.int 854 0), (.int 310 0), (.str (Str.ofString "/claim/cut.py") 855)]), #[]⟩ ::
  fnO (stAt 61) (Str.ofString "_law_unlike") [] .none (.str (Str.ofString "law_xm0938_01") 827) (.ref 457) .none ::
  ⟨(.type "tuple"), none, (.seq #[] 0), #[]⟩ ::
  ⟨.none, none, (.fields #[]), #[]⟩ ::
  fnZ (stAt 62) (Str.ofString "law") [] .none .none .none .none ::
  ⟨(.type "code"), none, (.fields #[(.str (Str.ofString "law") 857), (.str (Str.ofString "law") 858), (.str (Str.ofString "/claim/cut.py") 859), (.int 315 0), (.int 1 0), (.int 0 0), (.int 0 0), (.int 3 0), (.ref 459), (.bool true), (.int 181 0), (.ref 460), .none, .none, .none, (.ref 461), (.int 860 0), (.int 315 0), (.str (Str.ofString "/claim/cut.py") 861)]), #[]⟩ ::
  fnO (stAt 62) (Str.ofString "law") [] .none (.str (Str.ofString "law_xm0938_01") 827) (.ref 462) .none ::
  []
noncomputable def TF (P : Params) : BT :=
 (.node (boot_o_0 P)
 (.node (boot_o_1 P)
 (.node (⟨(.type "dict"), none, (.dict (List.toArray (⟨PyData.keyHash P (Str.ofString "__name__"), (.str (Str.ofString "__name__") 165), (.str (Str.ofString "law_xm0938_01") 827)⟩ :: ⟨PyData.keyHash P (Str.ofString "__doc__"), (.str (Str.ofString "__doc__") 166), .none⟩ :: ⟨PyData.keyHash P (Str.ofString "__package__"), (.str (Str.ofString "__package__") 167), .none⟩ :: ⟨PyData.keyHash P (Str.ofString "__loader__"), (.str (Str.ofString "__loader__") 168), (.builtin "__main__.__loader__#opaque")⟩ :: ⟨PyData.keyHash P (Str.ofString "__spec__"), (.str (Str.ofString "__spec__") 169), .none⟩ :: ⟨PyData.keyHash P (Str.ofString "__annotations__"), (.str (Str.ofString "__annotations__") 170), (.ref 6)⟩ :: ⟨PyData.keyHash P (Str.ofString "__builtins__"), (.str (Str.ofString "__builtins__") 171), (.ref 4)⟩ :: ⟨PyData.keyHash P (Str.ofString "__file__"), (.str (Str.ofString "__file__") 173), (.str (Str.ofString "/claim/cut.py") 172)⟩ :: ⟨PyData.keyHash P (Str.ofString "__cached__"), (.str (Str.ofString "__cached__") 174), .none⟩ :: ⟨PyData.keyHash P (Str.ofString "give_names"), (.str (Str.ofString "give_names") 198), (.ref 21)⟩ :: ⟨PyData.keyHash P (Str.ofString "three_pieces"), (.str (Str.ofString "three_pieces") 206), (.ref 28)⟩ :: ⟨PyData.keyHash P (Str.ofString "spliced"), (.str (Str.ofString "spliced") 218), (.ref 35)⟩ :: ⟨PyData.keyHash P (Str.ofString "replace_once"), (.str (Str.ofString "replace_once") 232), (.ref 42)⟩ :: ⟨PyData.keyHash P (Str.ofString "SnobolError"), (.str (Str.ofString "SnobolError") 268), (.ref 62)⟩ :: ⟨PyData.keyHash P (Str.ofString "Failure"), (.str (Str.ofString "Failure") 288), (.ref 75)⟩ :: ⟨PyData.keyHash P (Str.ofString "Pattern"), (.str (Str.ofString "Pattern") 317), (.ref 96)⟩ :: ⟨PyData.keyHash P (Str.ofString "Delayed"), (.str (Str.ofString "Delayed") 346), (.ref 117)⟩ :: ⟨PyData.keyHash P (Str.ofString "NameRef"), (.str (Str.ofString "NameRef") 379), (.ref 138)⟩ :: ⟨PyData.keyHash P (Str.ofString "is_fail"), (.str (Str.ofString "is_fail") 386), (.ref 149)⟩ :: ⟨PyData.keyHash P (Str.ofString "fits"), (.str (Str.ofString "fits") 394), (.ref 156)⟩ :: ⟨PyData.keyHash P (Str.ofString "whole_of_text"), (.str (Str.ofString "whole_of_text") 405), (.ref 163)⟩ :: ⟨PyData.keyHash P (Str.ofString "text_of_whole"), (.str (Str.ofString "text_of_whole") 414), (.ref 170)⟩ :: ⟨PyData.keyHash P (Str.ofString "to_whole"), (.str (Str.ofString "to_whole") 422), (.ref 177)⟩ :: ⟨PyData.keyHash P (Str.ofString "to_text"), (.str (Str.ofString "to_text") 429), (.ref 184)⟩ :: ⟨PyData.keyHash P (Str.ofString "need_text"), (.str (Str.ofString "need_text") 437), (.ref 191)⟩ :: ⟨PyData.keyHash P (Str.ofString "PlainHost"), (.str (Str.ofString "PlainHost") 499), (.ref 229)⟩ :: ⟨PyData.keyHash P (Str.ofString "COUNTED"), (.str (Str.ofString "COUNTED") 507), (.ref 234)⟩ :: ⟨PyData.keyHash P (Str.ofString "SIGNED"), (.str (Str.ofString "SIGNED") 512), (.ref 235)⟩ :: ⟨PyData.keyHash P (Str.ofString "WIDTH_OF_COUNT"), (.str (Str.ofString "WIDTH_OF_COUNT") 514), (.int 64 513)⟩ :: ⟨PyData.keyHash P (Str.ofString "plain_count"), (.str (Str.ofString "plain_count") 524), (.ref 243)⟩ :: ⟨PyData.keyHash P (Str.ofString "plain_signs"), (.str (Str.ofString "plain_signs") 533), (.ref 250)⟩ :: ⟨PyData.keyHash P (Str.ofString "pattern_of"), (.str (Str.ofString "pattern_of") 541), (.ref 257)⟩ :: ⟨PyData.keyHash P (Str.ofString "is_delayed"), (.str (Str.ofString "is_delayed") 548), (.ref 264)⟩ :: ⟨PyData.keyHash P (Str.ofString "settled"), (.str (Str.ofString "settled") 557), (.ref 271)⟩ :: ⟨PyData.keyHash P (Str.ofString "OPENING"), (.str (Str.ofString "OPENING") 561), (.str (Str.ofString "(") 560)⟩ :: ⟨PyData.keyHash P (Str.ofString "CLOSING"), (.str (Str.ofString "CLOSING") 563), (.str (Str.ofString ")") 562)⟩ :: ⟨PyData.keyHash P (Str.ofString "chars_end"), (.str (Str.ofString "chars_end") 573), (.ref 278)⟩ :: ⟨PyData.keyHash P (Str.ofString "len_end"), (.str (Str.ofString "len_end") 582), (.ref 285)⟩ :: ⟨PyData.keyHash P (Str.ofString "pos_end"), (.str (Str.ofString "pos_end") 590), (.ref 292)⟩ :: ⟨PyData.keyHash P (Str.ofString "rpos_end"), (.str (Str.ofString "rpos_end") 599), (.ref 299)⟩ :: ⟨PyData.keyHash P (Str.ofString "tab_end"), (.str (Str.ofString "tab_end") 608), (.ref 306)⟩ :: ⟨PyData.keyHash P (Str.ofString "rtab_end"), (.str (Str.ofString "rtab_end") 618), (.ref 313)⟩ :: ⟨PyData.keyHash P (Str.ofString "rem_end"), (.str (Str.ofString "rem_end") 625), (.ref 320)⟩ :: ⟨PyData.keyHash P (Str.ofString "any_at"), (.str (Str.ofString "any_at") 634), (.ref 327)⟩ :: ⟨PyData.keyHash P (Str.ofString "notany_at"), (.str (Str.ofString "notany_at") 643), (.ref 334)⟩ :: ⟨PyData.keyHash P (Str.ofString "run_end"), (.str (Str.ofString "run_end") 653), (.ref 341)⟩ :: ⟨PyData.keyHash P (Str.ofString "span_end"), (.str (Str.ofString "span_end") 663), (.ref 348)⟩ :: ⟨PyData.keyHash P (Str.ofString "break_end"), (.str (Str.ofString "break_end") 673), (.ref 355)⟩ :: ⟨PyData.keyHash P (Str.ofString "bal_end"), (.str (Str.ofString "bal_end") 682), (.ref 362)⟩ :: ⟨PyData.keyHash P (Str.ofString "bal_ends"), (.str (Str.ofString "bal_ends") 692), (.ref 369)⟩ :: ⟨PyData.keyHash P (Str.ofString "one_end"), (.str (Str.ofString "one_end") 702), (.ref 376)⟩ :: ⟨PyData.keyHash P (Str.ofString "plain_end"), (.str (Str.ofString "plain_end") 711), (.ref 383)⟩ :: ⟨PyData.keyHash P (Str.ofString "LOST"), (.str (Str.ofString "LOST") 715), (.str (Str.ofString "lost") 714)⟩ :: ⟨PyData.keyHash P (Str.ofString "match_plain"), (.str (Str.ofString "match_plain") 727), (.ref 390)⟩ :: ⟨PyData.keyHash P (Str.ofString "match_at"), (.str (Str.ofString "match_at") 738), (.ref 397)⟩ :: ⟨PyData.keyHash P (Str.ofString "tried"), (.str (Str.ofString "tried") 753), (.ref 404)⟩ :: ⟨PyData.keyHash P (Str.ofString "advanced"), (.str (Str.ofString "advanced") 769), (.ref 411)⟩ :: ⟨PyData.keyHash P (Str.ofString "led_in"), (.str (Str.ofString "led_in") 781), (.ref 418)⟩ :: ⟨PyData.keyHash P (Str.ofString "led_out"), (.str (Str.ofString "led_out") 797), (.ref 425)⟩ :: ⟨PyData.keyHash P (Str.ofString "steered"), (.str (Str.ofString "steered") 809), (.ref 432)⟩ :: ⟨PyData.keyHash P (Str.ofString "taken"), (.str (Str.ofString "taken") 826), (.ref 439)⟩ :: ⟨PyData.keyHash P (Str.ofString "_law_now"), (.str (Str.ofString "_law_now") 836), (.ref 446)⟩ :: ⟨PyData.keyHash P (Str.ofString "_law_turned"), (.str (Str.ofString "_law_turned") 850), (.ref 453)⟩ :: ⟨PyData.keyHash P (Str.ofString "_law_unlike"), (.str (Str.ofString "_law_unlike") 856), (.ref 458)⟩ :: ⟨PyData.keyHash P (Str.ofString "law"), (.str (Str.ofString "law") 862), (.ref 463)⟩ :: [])) 65), #[]⟩)
 (.node (boot_o_7 P)
 (.node (⟨(.type "tuple"), none, (.seq #[] 0), #[]⟩)
 (.node (⟨(.type "tuple"), none, (.seq #[(.str (Str.ofString "subject") 210), (.str (Str.ofString "found") 211), (.str (Str.ofString "text") 212), (.str (Str.ofString "ahead") 213), (.str (Str.ofString "met") 214), (.str (Str.ofString "behind") 215)] 0), #[]⟩)
 (.node (⟨(.type "getset_descriptor"), none, (.fields #[(.str (Str.ofString "__weakref__") 262), (.ref 62), (.builtin "ExceptionGroup.__weakref__"), .none]), #[]⟩)
 (.node (⟨(.type "code"), none, (.fields #[(.str (Str.ofString "NameRef") 349), (.str (Str.ofString "NameRef") 350), (.str (Str.ofString "/claim/cut.py") 351), (.int 34 0), (.int 0 0), (.int 0 0), (.int 0 0), (.int 0 0), (.ref 125), (.bool false), (.int 181 0), (.ref 126), .none, .none, .none, .none, (.int 352 0), (.int 34 0), (.str (Str.ofString "/claim/cut.py") 353)]), #[]⟩)
 (.node (fnZ (stAt 26) (Str.ofString "pattern_of") [] .none .none .none .none)
 .nil .nil) (.node (fnO (stAt 47) (Str.ofString "plain_end") [] .none (.str (Str.ofString "snobol.primitives") 558) (.ref 382) .none)
 .nil .nil)) (.node (fnO (stAt 17) (Str.ofString "need_text") [] .none (.str (Str.ofString "snobol.values") 233) (.ref 190) .none)
 (.node (⟨(.type "code"), none, (.fields #[(.str (Str.ofString "rem_end") 619), (.str (Str.ofString "rem_end") 620), (.str (Str.ofString "/claim/cut.py") 621), (.int 156 0), (.int 1 0), (.int 0 0), (.int 0 0), (.int 3 0), (.ref 314), (.bool true), (.int 181 0), (.ref 315), .none, (.ref 316), (.ref 317), (.ref 318), (.int 623 0), (.int 156 0), (.str (Str.ofString "/claim/cut.py") 624)]), #[]⟩)
 .nil .nil) (.node (⟨(.type "tuple"), none, (.seq #[] 0), #[]⟩)
 .nil .nil))) (.node (⟨(.type "dict"), none, (.dict #[⟨PyData.keyHash P (Str.ofString "__module__"), (.str (Str.ofString "__module__") 296), (.str (Str.ofString "snobol.values") 233)⟩, ⟨PyData.keyHash P (Str.ofString "__firstlineno__"), (.str (Str.ofString "__firstlineno__") 300), (.int 26 299)⟩, ⟨PyData.keyHash P (Str.ofString "__init__"), (.str (Str.ofString "__init__") 308), (.ref 93)⟩, ⟨PyData.keyHash P (Str.ofString "__static_attributes__"), (.str (Str.ofString "__static_attributes__") 310), (.ref 94)⟩, ⟨PyData.keyHash P (Str.ofString "__dict__"), (.str (Str.ofString "__dict__") 312), (.ref 97)⟩, ⟨PyData.keyHash P (Str.ofString "__weakref__"), (.str (Str.ofString "__weakref__") 314), (.ref 98)⟩, ⟨PyData.keyHash P (Str.ofString "__doc__"), (.str (Str.ofString "__doc__") 315), .none⟩] 4), #[]⟩)
 (.node (⟨(.type "tuple"), none, (.seq #[(.str (Str.ofString "text") 398), (.str (Str.ofString "width") 399), (.str (Str.ofString "digits") 400), (.str (Str.ofString "number") 401), (.str (Str.ofString "sign") 402)] 0), #[]⟩)
 (.node (⟨.none, none, (.fields #[]), #[]⟩)
 .nil .nil) (.node (⟨(.type "tuple"), none, (.seq #[] 0), #[]⟩)
 .nil .nil)) (.node (⟨(.type "tuple"), none, (.seq #[] 0), #[]⟩)
 (.node (⟨(.type "tuple"), none, (.seq #[(.str (Str.ofString "subject") 667), (.str (Str.ofString "at") 668), (.str (Str.ofString "signs") 669), (.str (Str.ofString "end") 670)] 0), #[]⟩)
 .nil .nil) .nil))) (.node (⟨(.type "tuple"), none, (.seq #[] 0), #[]⟩)
 (.node (⟨(.type "builtin_function_or_method"), none, (.fields #[(.builtin "object.__init_subclass__"), (.ref 75)]), #[]⟩)
 (.node (⟨(.type "tuple"), none, (.seq #[] 0), #[]⟩)
 (.node (fnO (stAt 28) (Str.ofString "settled") [] .none (.str (Str.ofString "snobol.nodes") 500) (.ref 270) .none)
 .nil .nil) (.node (⟨.none, none, (.fields #[]), #[]⟩)
 .nil .nil)) (.node (⟨.none, none, (.fields #[]), #[]⟩)
 (.node (⟨(.type "tuple"), none, (.seq #[] 0), #[]⟩)
 .nil .nil) (.node (fnO (stAt 62) (Str.ofString "law") [] .none (.str (Str.ofString "law_xm0938_01") 827) (.ref 462) .none)
 .nil .nil))) (.node (⟨(.type "tuple"), none, (.seq #[] 0), #[]⟩)
 (.node (fnZ (stAt 15) (Str.ofString "to_whole") [] .none .none .none .none)
 (.node (⟨(.type "tuple"), none, (.seq #[] 0), #[]⟩)
 .nil .nil) (.node (⟨(.type "code"), none, (.fields #[(.str (Str.ofString "steered") 798), (.str (Str.ofString "steered") 799), (.str (Str.ofString "/claim/cut.py") 800), (.int 275 0), (.int 4 0), (.int 0 0), (.int 0 0), (.int 3 0), (.ref 426), (.bool true), (.int 181 0), (.ref 427), .none, (.ref 428), (.ref 429), (.ref 430), (.int 807 0), (.int 275 0), (.str (Str.ofString "/claim/cut.py") 808)]), #[]⟩)
 .nil .nil)) (.node (⟨(.type "tuple"), none, (.seq #[(.str (Str.ofString "value") 518), (.str (Str.ofString "kind") 519), (.str (Str.ofString "width") 520), (.str (Str.ofString "count") 521)] 0), #[]⟩)
 (.node (fnZ (stAt 45) (Str.ofString "bal_ends") [] .none .none .none .none)
 .nil .nil) .nil)))) (.node (⟨.none, none, (.fields #[]), #[]⟩)
 (.node (⟨(.type "tuple"), none, (.seq #[] 0), #[]⟩)
 (.node (⟨(.type "code"), none, (.fields #[(.str (Str.ofString "Failure") 271), (.str (Str.ofString "Failure") 272), (.str (Str.ofString "/claim/cut.py") 273), (.int 24 0), (.int 0 0), (.int 0 0), (.int 0 0), (.int 0 0), (.ref 69), (.bool false), (.int 181 0), (.ref 70), .none, .none, .none, .none, (.int 274 0), (.int 24 0), (.str (Str.ofString "/claim/cut.py") 275)]), #[]⟩)
 (.node (fnO (stIn (stAt 10) 0) (Str.ofString "NameRef.__init__") [] .none (.str (Str.ofString "snobol.values") 233) (.ref 134) .none)
 (.node (⟨(.type "code"), none, (.fields #[(.str (Str.ofString "is_delayed") 542), (.str (Str.ofString "is_delayed") 543), (.str (Str.ofString "/claim/cut.py") 544), (.int 128 0), (.int 1 0), (.int 0 0), (.int 0 0), (.int 3 0), (.ref 258), (.bool true), (.int 181 0), (.ref 259), .none, (.ref 260), (.ref 261), (.ref 262), (.int 546 0), (.int 128 0), (.str (Str.ofString "/claim/cut.py") 547)]), #[]⟩)
 .nil .nil) (.node (⟨(.type "tuple"), none, (.seq #[] 0), #[]⟩)
 .nil .nil)) (.node (⟨(.type "tuple"), none, (.seq #[] 0), #[]⟩)
 (.node (fnO (stAt 39) (Str.ofString "any_at") [] .none (.str (Str.ofString "snobol.primitives") 558) (.ref 326) .none)
 .nil .nil) (.node (⟨.none, none, (.fields #[]), #[]⟩)
 .nil .nil))) (.node (⟨(.type "dict"), none, (.dict #[⟨PyData.keyHash P (Str.ofString "__module__"), (.str (Str.ofString "__module__") 325), (.str (Str.ofString "snobol.values") 233)⟩, ⟨PyData.keyHash P (Str.ofString "__qualname__"), (.str (Str.ofString "__qualname__") 327), (.str (Str.ofString "Delayed") 326)⟩, ⟨PyData.keyHash P (Str.ofString "__firstlineno__"), (.str (Str.ofString "__firstlineno__") 329), (.int 30 328)⟩, ⟨PyData.keyHash P (Str.ofString "__init__"), (.str (Str.ofString "__init__") 337), (.ref 114)⟩, ⟨PyData.keyHash P (Str.ofString "__static_attributes__"), (.str (Str.ofString "__static_attributes__") 339), (.ref 115)⟩] 5), #[]⟩)
 (.node (⟨(.type "tuple"), none, (.seq #[] 0), #[]⟩)
 (.node (⟨(.type "tuple"), none, (.seq #[(.str (Str.ofString "subject") 594), (.str (Str.ofString "at") 595), (.str (Str.ofString "place") 596)] 0), #[]⟩)
 .nil .nil) (.node (fnZ (stAt 55) (Str.ofString "led_out") [] .none .none .none .none)
 .nil .nil)) (.node (⟨(.type "getset_descriptor"), none, (.fields #[(.str (Str.ofString "__weakref__") 495), (.ref 229), (.builtin "ExceptionGroup.__weakref__"), .none]), #[]⟩)
 (.node (⟨(.type "tuple"), none, (.seq #[] 0), #[]⟩)
 .nil .nil) .nil))) (.node (⟨(.type "tuple"), none, (.seq #[(.str (Str.ofString "self") 252), (.str (Str.ofString "number") 253), (.str (Str.ofString "told") 254)] 0), #[]⟩)
 (.node (⟨(.type "tuple"), none, (.seq #[] 0), #[]⟩)
 (.node (⟨.none, none, (.fields #[]), #[]⟩)
 (.node (⟨(.type "tuple"), none, (.seq #[] 0), #[]⟩)
 .nil .nil) (.node (⟨(.type "tuple"), none, (.seq #[(.str (Str.ofString "chain") 757), (.str (Str.ofString "at") 758), (.str (Str.ofString "named") 759), (.str (Str.ofString "subject") 760), (.str (Str.ofString "pile") 761), (.str (Str.ofString "host") 762), (.str (Str.ofString "here") 763), (.str (Str.ofString "rest") 764), (.str (Str.ofString "kind") 765), (.str (Str.ofString "value") 766)] 0), #[]⟩)
 .nil .nil)) (.node (⟨(.type "tuple"), none, (.seq #[(.str (Str.ofString "self") 473), (.str (Str.ofString "ref") 474), (.str (Str.ofString "value") 475)] 0), #[]⟩)
 (.node (⟨.none, none, (.fields #[]), #[]⟩)
 .nil .nil) .nil)) (.node (⟨(.type "getset_descriptor"), none, (.fields #[(.str (Str.ofString "__weakref__") 342), (.ref 117), (.builtin "ExceptionGroup.__weakref__"), .none]), #[]⟩)
 (.node (⟨(.type "code"), none, (.fields #[(.str (Str.ofString "to_text") 423), (.str (Str.ofString "to_text") 424), (.str (Str.ofString "/claim/cut.py") 425), (.int 67 0), (.int 1 0), (.int 0 0), (.int 0 0), (.int 3 0), (.ref 178), (.bool true), (.int 181 0), (.ref 179), .none, (.ref 180), (.ref 181), (.ref 182), (.int 427 0), (.int 67 0), (.str (Str.ofString "/claim/cut.py") 428)]), #[]⟩)
 (.node (fnZ (stAt 37) (Str.ofString "rtab_end") [] .none .none .none .none)
 .nil .nil) (.node (fnO (stAt 57) (Str.ofString "taken") [] .none (.str (Str.ofString "snobol.trial") 712) (.ref 438) .none)
 .nil .nil)) (.node (⟨(.type "tuple"), none, (.seq #[] 0), #[]⟩)
 (.node (⟨(.type "code"), none, (.fields #[(.str (Str.ofString "one_end") 693), (.str (Str.ofString "one_end") 694), (.str (Str.ofString "/claim/cut.py") 695), (.int 191 0), (.int 4 0), (.int 0 0), (.int 0 0), (.int 3 0), (.ref 370), (.bool true), (.int 181 0), (.ref 371), .none, (.ref 372), (.ref 373), (.ref 374), (.int 700 0), (.int 191 0), (.str (Str.ofString "/claim/cut.py") 701)]), #[]⟩)
 .nil .nil) .nil))))) (.node (⟨(.type "tuple"), none, (.seq #[] 0), #[]⟩)
 (.node (fnZ (stAt 1) (Str.ofString "give_names") [] .none .none .none .none)
 (.node (fnO (stAt 3) (Str.ofString "spliced") [] .none (.str (Str.ofString "snobol.matchcore") 187) (.ref 34) .none)
 (.node (⟨(.type "builtin_function_or_method"), none, (.fields #[(.builtin "type.__prepare__"), (.type "type")]), #[]⟩)
 (.node (⟨(.type "tuple"), none, (.seq #[(.str (Str.ofString "self") 362), (.str (Str.ofString "kind") 363), (.str (Str.ofString "owner") 364), (.str (Str.ofString "key") 365)] 0), #[]⟩)
 (.node (⟨.none, none, (.fields #[]), #[]⟩)
 .nil .nil) (.node (⟨(.type "tuple"), none, (.seq #[] 0), #[]⟩)
 .nil .nil)) (.node (⟨(.type "tuple"), none, (.seq #[] 0), #[]⟩)
 (.node (⟨(.type "tuple"), none, (.seq #[(.str (Str.ofString "subject") 629), (.str (Str.ofString "at") 630), (.str (Str.ofString "signs") 631)] 0), #[]⟩)
 .nil .nil) (.node (fnZ (stAt 60) (Str.ofString "_law_turned") [] .none .none .none .none)
 .nil .nil))) (.node (⟨(.type "super"), none, (.fields #[(.ref 96), (.ref 96), (.ref 96)]), #[]⟩)
 (.node (fnO (stAt 13) (Str.ofString "whole_of_text") [] .none (.str (Str.ofString "snobol.values") 233) (.ref 162) .none)
 (.node (⟨(.type "code"), none, (.fields #[(.str (Str.ofString "pos_end") 583), (.str (Str.ofString "pos_end") 584), (.str (Str.ofString "/claim/cut.py") 585), (.int 147 0), (.int 2 0), (.int 0 0), (.int 0 0), (.int 3 0), (.ref 286), (.bool true), (.int 181 0), (.ref 287), .none, (.ref 288), (.ref 289), (.ref 290), (.int 588 0), (.int 147 0), (.str (Str.ofString "/claim/cut.py") 589)]), #[]⟩)
 .nil .nil) (.node (⟨(.type "tuple"), none, (.seq #[] 0), #[]⟩)
 .nil .nil)) (.node (⟨(.type "tuple"), none, (.seq #[(.str (Str.ofString "limit") 486), (.str (Str.ofString "log") 487), (.str (Str.ofString "refused") 488), (.str (Str.ofString "steps") 489), (.str (Str.ofString "values") 490), (.str (Str.ofString "width") 491)] 0), #[]⟩)
 (.node (fnO (stAt 43) (Str.ofString "break_end") [] .none (.str (Str.ofString "snobol.primitives") 558) (.ref 354) .none)
 .nil .nil) .nil))) (.node (⟨(.type "tuple"), none, (.seq #[(.str (Str.ofString "") 247)] 0), #[]⟩)
 (.node (⟨(.type "tuple"), none, (.seq #[] 0), #[]⟩)
 (.node (fnZ (stAt 11) (Str.ofString "is_fail") [] .none .none .none .none)
 (.node (⟨(.type "tuple"), none, (.seq #[] 0), #[]⟩)
 .nil .nil) (.node (⟨(.type "code"), none, (.fields #[(.str (Str.ofString "tried") 739), (.str (Str.ofString "tried") 740), (.str (Str.ofString "/claim/cut.py") 741), (.int 224 0), (.int 4 0), (.int 0 0), (.int 0 0), (.int 3 0), (.ref 398), (.bool true), (.int 181 0), (.ref 399), .none, (.ref 400), (.ref 401), (.ref 402), (.int 751 0), (.int 224 0), (.str (Str.ofString "/claim/cut.py") 752)]), #[]⟩)
 .nil .nil)) (.node (⟨(.type "code"), none, (.fields #[(.str (Str.ofString "value_of") 462), (.str (Str.ofString "PlainHost.value_of") 463), (.str (Str.ofString "/claim/cut.py") 464), (.int 87 0), (.int 2 0), (.int 0 0), (.int 0 0), (.int 3 0), (.ref 206), (.bool true), (.int 181 0), (.ref 207), .none, (.ref 208), (.ref 209), (.ref 210), (.int 467 0), (.int 87 0), (.str (Str.ofString "/claim/cut.py") 468)]), #[]⟩)
 (.node (fnZ (stAt 41) (Str.ofString "run_end") [] .none .none .none .none)
 .nil .nil) .nil)) (.node (⟨(.type "tuple"), none, (.seq #[(.str (Str.ofString "tree") 338)] 0), #[]⟩)
 (.node (⟨.none, none, (.fields #[]), #[]⟩)
 (.node (⟨(.type "tuple"), none, (.seq #[] 0), #[]⟩)
 .nil .nil) (.node (⟨(.type "tuple"), none, (.seq #[(.str (Str.ofString "here") 813), (.str (Str.ofString "rest") 814), (.str (Str.ofString "at") 815), (.str (Str.ofString "named") 816), (.str (Str.ofString "subject") 817), (.str (Str.ofString "pile") 818), (.str (Str.ofString "host") 819), (.str (Str.ofString "kind") 820), (.str (Str.ofString "ends") 821), (.str (Str.ofString "end") 822), (.str (Str.ofString "plain") 823)] 0), #[]⟩)
 .nil .nil)) (.node (fnO (stAt 24) (Str.ofString "plain_count") [] (.ref 236) (.str (Str.ofString "snobol.nodes") 500) (.ref 242) .none)
 (.node (⟨.none, none, (.fields #[]), #[]⟩)
 .nil .nil) .nil)))) (.node (⟨(.type "code"), none, (.fields #[(.str (Str.ofString "three_pieces") 199), (.str (Str.ofString "three_pieces") 200), (.str (Str.ofString "/claim/cut.py") 201), (.int 5 0), (.int 2 0), (.int 0 0), (.int 0 0), (.int 3 0), (.ref 22), (.bool true), (.int 181 0), (.ref 23), .none, (.ref 24), (.ref 25), (.ref 26), (.int 204 0), (.int 5 0), (.str (Str.ofString "/claim/cut.py") 205)]), #[]⟩)
 (.node (⟨(.type "tuple"), none, (.seq #[(.type "Exception")] 0), #[]⟩)
 (.node (⟨(.type "type"), none, (.cls ⟨(Str.ofString "Failure"), [(.type "object")], [(.ref 75), (.type "object")], 74, (Str.ofString "Failure"), true, [], [], false, none, false⟩), #[none, none, (some (.str (Str.ofString "Failure") 269)), (some (.str (Str.ofString "Failure") 277)), (some (.builtin "object.__new__")), (some (.bool true))]⟩)
 (.node (⟨(.type "getset_descriptor"), none, (.fields #[(.str (Str.ofString "__dict__") 373), (.ref 138), (.builtin "function.__dict__"), (.builtin "function.__dict__#set")]), #[]⟩)
 (.node (⟨(.type "tuple"), none, (.seq #[(.str (Str.ofString "node") 552), (.str (Str.ofString "host") 553), (.str (Str.ofString "value") 554)] 0), #[]⟩)
 .nil .nil) (.node (fnZ (stAt 51) (Str.ofString "match_at") [] .none .none .none .none)
 .nil .nil)) (.node (fnZ (stIn (stAt 19) 0) (Str.ofString "PlainHost.__init__") [] .none .none .none .none)
 (.node (⟨(.type "tuple"), none, (.seq #[] 0), #[]⟩)
 .nil .nil) (.node (⟨(.type "tuple"), none, (.seq #[] 0), #[]⟩)
 .nil .nil))) (.node (⟨(.type "frame"), none, .plain, #[(some (.ref 106)), (some (.ref 3)), (some (.ref 103)), none, (some (.str (Str.ofString "snobol.values") 233)), none, (some (.ref 0))]⟩)
 (.node (⟨(.type "tuple"), none, (.seq #[] 0), #[]⟩)
 (.node (fnO (stAt 35) (Str.ofString "rpos_end") [] .none (.str (Str.ofString "snobol.primitives") 558) (.ref 298) .none)
 .nil .nil) (.node (⟨.none, none, (.fields #[]), #[]⟩)
 .nil .nil)) (.node (⟨(.type "tuple"), none, (.seq #[(.str (Str.ofString "any") 508), (.str (Str.ofString "notany") 509), (.str (Str.ofString "span") 510), (.str (Str.ofString "break") 511)] 0), #[]⟩)
 (.node (⟨(.type "tuple"), none, (.seq #[] 0), #[]⟩)
 .nil .nil) .nil))) (.node (fnO (stIn (stAt 6) 0) (Str.ofString "SnobolError.__init__") [((Str.ofString "__class__"), 46)] (.ref 51) (.str (Str.ofString "snobol.values") 233) (.ref 58) (.ref 52))
 (.node (fnZ (stIn (stAt 8) 0) (Str.ofString "Pattern.__init__") [] .none .none .none .none)
 (.node (⟨(.type "code"), none, (.fields #[(.str (Str.ofString "fits") 387), (.str (Str.ofString "fits") 388), (.str (Str.ofString "/claim/cut.py") 389), (.int 42 0), (.int 2 0), (.int 0 0), (.int 0 0), (.int 3 0), (.ref 150), (.bool true), (.int 181 0), (.ref 151), .none, (.ref 152), (.ref 153), (.ref 154), (.int 392 0), (.int 42 0), (.str (Str.ofString "/claim/cut.py") 393)]), #[]⟩)
 (.node (fnZ (stAt 33) (Str.ofString "len_end") [] .none .none .none .none)
 .nil .nil) (.node (fnO (stAt 53) (Str.ofString "advanced") [] .none (.str (Str.ofString "snobol.trial") 712) (.ref 410) .none)
 .nil .nil)) (.node (fnO (stIn (stAt 19) 2) (Str.ofString "PlainHost.assign") [] .none (.str (Str.ofString "snobol.hosts") 438) (.ref 218) .none)
 (.node (⟨(.type "code"), none, (.fields #[(.str (Str.ofString "span_end") 654), (.str (Str.ofString "span_end") 655), (.str (Str.ofString "/claim/cut.py") 656), (.int 166 0), (.int 3 0), (.int 0 0), (.int 0 0), (.int 3 0), (.ref 342), (.bool true), (.int 181 0), (.ref 343), .none, (.ref 344), (.ref 345), (.ref 346), (.int 661 0), (.int 166 0), (.str (Str.ofString "/claim/cut.py") 662)]), #[]⟩)
 .nil .nil) .nil)) (.node (⟨(.type "builtin_function_or_method"), none, (.fields #[(.builtin "type.__prepare__"), (.type "type")]), #[]⟩)
 (.node (⟨(.type "tuple"), none, (.seq #[(.str (Str.ofString "value") 433), (.str (Str.ofString "text") 434)] 0), #[]⟩)
 (.node (⟨.none, none, (.fields #[]), #[]⟩)
 .nil .nil) (.node (⟨(.type "tuple"), none, (.seq #[] 0), #[]⟩)
 .nil .nil)) (.node (⟨(.type "tuple"), none, (.seq #[] 0), #[]⟩)
 (.node (⟨(.type "tuple"), none, (.seq #[(.str (Str.ofString "node") 706), (.str (Str.ofString "subject") 707), (.str (Str.ofString "at") 708)] 0), #[]⟩)
 .nil .nil) .nil)))))) (.node (boot_o_5 P)
 (.node (boot_o_9 P)
 (.node (⟨(.type "tuple"), none, (.seq #[(.str (Str.ofString "found") 192), (.str (Str.ofString "give") 193), (.str (Str.ofString "ref") 194), (.str (Str.ofString "text") 195)] 0), #[]⟩)
 (.node (fnZ (stAt 3) (Str.ofString "spliced") [] .none .none .none .none)
 (.node (⟨(.type "builtin_function_or_method"), none, (.fields #[(.builtin "object.__init_subclass__"), (.ref 62)]), #[]⟩)
 (.node (⟨(.type "tuple"), none, (.seq #[] 0), #[]⟩)
 (.node (fnO (stAt 26) (Str.ofString "pattern_of") [] .none (.str (Str.ofString "snobol.nodes") 500) (.ref 256) .none)
 .nil .nil) (.node (⟨.none, none, (.fields #[]), #[]⟩)
 .nil .nil)) (.node (⟨(.type "builtin_function_or_method"), none, (.fields #[(.builtin "type.__prepare__"), (.type "type")]), #[]⟩)
 (.node (⟨(.type "tuple"), none, (.seq #[] 0), #[]⟩)
 .nil .nil) (.node (⟨(.type "tuple"), none, (.seq #[(.str (Str.ofString "row") 840), (.str (Str.ofString "first") 841), (.str (Str.ofString "order") 842), (.str (Str.ofString "host") 843), (.str (Str.ofString "node") 844), (.str (Str.ofString "part") 845), (.str (Str.ofString "text_of") 846)] 0), #[]⟩)
 .nil .nil))) (.node (⟨(.type "getset_descriptor"), none, (.fields #[(.str (Str.ofString "__dict__") 311), (.ref 96), (.builtin "function.__dict__"), (.builtin "function.__dict__#set")]), #[]⟩)
 (.node (fnZ (stAt 13) (Str.ofString "whole_of_text") [] .none .none .none .none)
 (.node (⟨(.type "tuple"), none, (.seq #[] 0), #[]⟩)
 .nil .nil) (.node (⟨(.type "code"), none, (.fields #[(.str (Str.ofString "led_in") 770), (.str (Str.ofString "led_in") 771), (.str (Str.ofString "/claim/cut.py") 772), (.int 257 0), (.int 5 0), (.int 0 0), (.int 0 0), (.int 3 0), (.ref 412), (.bool true), (.int 181 0), (.ref 413), .none, (.ref 414), (.ref 415), (.ref 416), (.int 779 0), (.int 257 0), (.str (Str.ofString "/claim/cut.py") 780)]), #[]⟩)
 .nil .nil)) (.node (⟨(.type "code"), none, (.fields #[(.str (Str.ofString "step") 479), (.str (Str.ofString "PlainHost.step") 480), (.str (Str.ofString "/claim/cut.py") 481), (.int 99 0), (.int 1 0), (.int 0 0), (.int 0 0), (.int 3 0), (.ref 220), (.bool true), (.int 181 0), (.ref 221), .none, (.ref 222), (.ref 223), (.ref 224), (.int 483 0), (.int 99 0), (.str (Str.ofString "/claim/cut.py") 484)]), #[]⟩)
 (.node (fnZ (stAt 43) (Str.ofString "break_end") [] .none .none .none .none)
 .nil .nil) .nil))) (.node (⟨(.type "code"), none, (.fields #[(.str (Str.ofString "SnobolError") 237), (.str (Str.ofString "SnobolError") 238), (.str (Str.ofString "/claim/cut.py") 239), (.int 18 0), (.int 0 0), (.int 0 0), (.int 0 0), (.int 0 0), (.ref 47), (.bool false), (.int 181 0), (.ref 48), .none, .none, .none, .none, (.int 240 0), (.int 18 0), (.str (Str.ofString "/claim/cut.py") 241)]), #[]⟩)
 (.node (⟨(.type "builtin_function_or_method"), none, (.fields #[(.builtin "type.__prepare__"), (.type "type")]), #[]⟩)
 (.node (⟨(.type "tuple"), none, (.seq #[(.str (Str.ofString "value") 383)] 0), #[]⟩)
 (.node (⟨.none, none, (.fields #[]), #[]⟩)
 .nil .nil) (.node (⟨(.type "tuple"), none, (.seq #[] 0), #[]⟩)
 .nil .nil)) (.node (⟨(.type "tuple"), none, (.seq #[] 0), #[]⟩)
 (.node (⟨(.type "tuple"), none, (.seq #[(.str (Str.ofString "subject") 647), (.str (Str.ofString "at") 648), (.str (Str.ofString "signs") 649), (.str (Str.ofString "is_in") 650)] 0), #[]⟩)
 .nil .nil) .nil)) (.node (⟨(.type "code"), none, (.fields #[(.str (Str.ofString "__init__") 330), (.str (Str.ofString "Delayed.__init__") 331), (.str (Str.ofString "/claim/cut.py") 332), (.int 32 0), (.int 2 0), (.int 0 0), (.int 0 0), (.int 3 0), (.ref 108), (.bool true), (.int 181 0), (.ref 109), .none, (.ref 110), (.ref 111), (.ref 112), (.int 335 0), (.int 32 0), (.str (Str.ofString "/claim/cut.py") 336)]), #[]⟩)
 (.node (fnO (stAt 15) (Str.ofString "to_whole") [] .none (.str (Str.ofString "snobol.values") 233) (.ref 176) .none)
 (.node (⟨(.type "code"), none, (.fields #[(.str (Str.ofString "tab_end") 600), (.str (Str.ofString "tab_end") 601), (.str (Str.ofString "/claim/cut.py") 602), (.int 151 0), (.int 3 0), (.int 0 0), (.int 0 0), (.int 3 0), (.ref 300), (.bool true), (.int 181 0), (.ref 301), .none, (.ref 302), (.ref 303), (.ref 304), (.int 606 0), (.int 151 0), (.str (Str.ofString "/claim/cut.py") 607)]), #[]⟩)
 .nil .nil) (.node (⟨(.type "tuple"), none, (.seq #[] 0), #[]⟩)
 .nil .nil)) (.node (fnZ (stAt 24) (Str.ofString "plain_count") [] .none .none .none .none)
 (.node (fnO (stAt 45) (Str.ofString "bal_ends") [] .none (.str (Str.ofString "snobol.primitives") 558) (.ref 368) .none)
 .nil .nil) .nil)))) (.node (⟨(.type "tuple"), none, (.seq #[] 0), #[]⟩)
 (.node (⟨(.type "code"), none, (.fields #[(.str (Str.ofString "replace_once") 219), (.str (Str.ofString "replace_once") 220), (.str (Str.ofString "/claim/cut.py") 221), (.int 10 0), (.int 6 0), (.int 0 0), (.int 0 0), (.int 3 0), (.ref 36), (.bool true), (.int 181 0), (.ref 37), .none, (.ref 38), (.ref 39), (.ref 40), (.int 230 0), (.int 10 0), (.str (Str.ofString "/claim/cut.py") 231)]), #[]⟩)
 (.node (⟨(.type "tuple"), none, (.seq #[] 0), #[]⟩)
 (.node (⟨(.type "dict"), none, (.dict #[⟨PyData.keyHash P (Str.ofString "__module__"), (.str (Str.ofString "__module__") 354), (.str (Str.ofString "snobol.values") 233)⟩, ⟨PyData.keyHash P (Str.ofString "__firstlineno__"), (.str (Str.ofString "__firstlineno__") 358), (.int 34 357)⟩, ⟨PyData.keyHash P (Str.ofString "__init__"), (.str (Str.ofString "__init__") 368), (.ref 135)⟩, ⟨PyData.keyHash P (Str.ofString "__static_attributes__"), (.str (Str.ofString "__static_attributes__") 372), (.ref 136)⟩, ⟨PyData.keyHash P (Str.ofString "__dict__"), (.str (Str.ofString "__dict__") 374), (.ref 139)⟩, ⟨PyData.keyHash P (Str.ofString "__weakref__"), (.str (Str.ofString "__weakref__") 376), (.ref 140)⟩, ⟨PyData.keyHash P (Str.ofString "__doc__"), (.str (Str.ofString "__doc__") 377), .none⟩] 4), #[]⟩)
 (.node (⟨(.type "tuple"), none, (.seq #[] 0), #[]⟩)
 .nil .nil) (.node (⟨(.type "tuple"), none, (.seq #[(.str (Str.ofString "node") 731), (.str (Str.ofString "subject") 732), (.str (Str.ofString "begin") 733), (.str (Str.ofString "host") 734), (.str (Str.ofString "found") 735)] 0), #[]⟩)
 .nil .nil)) (.node (⟨(.type "tuple"), none, (.seq #[(.str (Str.ofString "self") 455), (.str (Str.ofString "values") 456), (.str (Str.ofString "limit") 457), (.str (Str.ofString "refused") 458)] 0), #[]⟩)
 (.node (⟨.none, none, (.fields #[]), #[]⟩)
 .nil .nil) (.node (⟨(.type "code"), none, (.fields #[(.str (Str.ofString "_law_unlike") 851), (.str (Str.ofString "_law_unlike") 852), (.str (Str.ofString "/claim/cut.py") 853), (.int 310 0), (.int 2 0), (.int 0 0), (.int 0 0), (.int 3 0), (.ref 454), (.bool true), (.int 181 0), (.ref 455), .none, .none, .none, (.ref 456), (.int 854 0), (.int 310 0), (.str (Str.ofString "/claim/cut.py") 855)]), #[]⟩)
 .nil .nil))) (.node (⟨.none, none, (.fields #[(.int 32 0), (.int 4 0), (.ref 113)]), #[]⟩)
 (.node (⟨(.type "code"), none, (.fields #[(.str (Str.ofString "text_of_whole") 406), (.str (Str.ofString "text_of_whole") 407), (.str (Str.ofString "/claim/cut.py") 408), (.int 57 0), (.int 1 0), (.int 0 0), (.int 0 0), (.int 3 0), (.ref 164), (.bool true), (.int 181 0), (.ref 165), .none, (.ref 166), (.ref 167), (.ref 168), (.int 412 0), (.int 57 0), (.str (Str.ofString "/claim/cut.py") 413)]), #[]⟩)
 (.node (fnZ (stAt 35) (Str.ofString "rpos_end") [] .none .none .none .none)
 .nil .nil) (.node (fnO (stAt 55) (Str.ofString "led_out") [] .none (.str (Str.ofString "snobol.trial") 712) (.ref 424) .none)
 .nil .nil)) (.node (⟨(.type "builtin_function_or_method"), none, (.fields #[(.builtin "object.__init_subclass__"), (.ref 229)]), #[]⟩)
 (.node (⟨(.type "code"), none, (.fields #[(.str (Str.ofString "bal_end") 674), (.str (Str.ofString "bal_end") 675), (.str (Str.ofString "/claim/cut.py") 676), (.int 172 0), (.int 2 0), (.int 0 0), (.int 0 0), (.int 3 0), (.ref 356), (.bool true), (.int 181 0), (.ref 357), .none, (.ref 358), (.ref 359), (.ref 360), (.int 680 0), (.int 172 0), (.str (Str.ofString "/claim/cut.py") 681)]), #[]⟩)
 .nil .nil) .nil))) (.node (fnZ (stIn (stAt 6) 0) (Str.ofString "SnobolError.__init__") [] .none .none .none .none)
 (.node (⟨(.type "tuple"), none, (.seq #[(.str (Str.ofString "self") 304), (.str (Str.ofString "node") 305)] 0), #[]⟩)
 (.node (⟨(.type "tuple"), none, (.seq #[] 0), #[]⟩)
 (.node (⟨(.type "tuple"), none, (.seq #[(.str (Str.ofString "subject") 577), (.str (Str.ofString "at") 578), (.str (Str.ofString "many") 579)] 0), #[]⟩)
 .nil .nil) (.node (fnZ (stAt 53) (Str.ofString "advanced") [] .none .none .none .none)
 .nil .nil)) (.node (fnZ (stIn (stAt 19) 2) (Str.ofString "PlainHost.assign") [] .none .none .none .none)
 (.node (⟨(.type "tuple"), none, (.seq #[] 0), #[]⟩)
 .nil .nil) .nil)) (.node (⟨(.type "builtin_function_or_method"), none, (.fields #[(.builtin "object.__init_subclass__"), (.ref 117)]), #[]⟩)
 (.node (⟨(.type "tuple"), none, (.seq #[] 0), #[]⟩)
 (.node (fnO (stAt 37) (Str.ofString "rtab_end") [] .none (.str (Str.ofString "snobol.primitives") 558) (.ref 312) .none)
 .nil .nil) (.node (⟨.none, none, (.fields #[]), #[]⟩)
 .nil .nil)) (.node (⟨(.type "code"), none, (.fields #[(.str (Str.ofString "plain_signs") 525), (.str (Str.ofString "plain_signs") 526), (.str (Str.ofString "/claim/cut.py") 527), (.int 114 0), (.int 2 0), (.int 0 0), (.int 0 0), (.int 3 0), (.ref 244), (.bool true), (.int 181 0), (.ref 245), .none, (.ref 246), (.ref 247), (.ref 248), (.int 531 0), (.int 114 0), (.str (Str.ofString "/claim/cut.py") 532)]), #[]⟩)
 (.node (⟨(.type "tuple"), none, (.seq #[] 0), #[]⟩)
 .nil .nil) .nil))))) (.node (⟨(.type "code"), none, (.fields #[(.str (Str.ofString "<module>") 182), (.str (Str.ofString "<module>") 183), (.str (Str.ofString "/claim/cut.py") 184), (.int 1 0), (.int 0 0), (.int 0 0), (.int 0 0), (.int 0 0), (.ref 11), (.bool false), (.int 181 0), (.ref 12), .none, .none, .none, .none, (.int 185 0), (.int 1 0), (.str (Str.ofString "/claim/cut.py") 186)]), #[]⟩)
 (.node (fnO (stAt 1) (Str.ofString "give_names") [] .none (.str (Str.ofString "snobol.matchcore") 187) (.ref 20) .none)
 (.node (⟨.none, none, (.fields #[]), #[]⟩)
 (.node (⟨(.type "tuple"), none, (.seq #[] 0), #[]⟩)
 (.node (fnZ (stIn (stAt 10) 0) (Str.ofString "NameRef.__init__") [] .none .none .none .none)
 (.node (⟨(.type "tuple"), none, (.seq #[] 0), #[]⟩)
 .nil .nil) (.node (⟨(.type "code"), none, (.fields #[(.str (Str.ofString "match_plain") 716), (.str (Str.ofString "match_plain") 717), (.str (Str.ofString "/claim/cut.py") 718), (.int 215 0), (.int 4 0), (.int 0 0), (.int 0 0), (.int 3 0), (.ref 384), (.bool true), (.int 181 0), (.ref 385), .none, (.ref 386), (.ref 387), (.ref 388), (.int 725 0), (.int 215 0), (.str (Str.ofString "/claim/cut.py") 726)]), #[]⟩)
 .nil .nil)) (.node (⟨(.type "code"), none, (.fields #[(.str (Str.ofString "PlainHost") 442), (.str (Str.ofString "PlainHost") 443), (.str (Str.ofString "/claim/cut.py") 444), (.int 77 0), (.int 0 0), (.int 0 0), (.int 0 0), (.int 0 0), (.ref 195), (.bool false), (.int 181 0), (.ref 196), .none, .none, .none, .none, (.int 445 0), (.int 77 0), (.str (Str.ofString "/claim/cut.py") 446)]), #[]⟩)
 (.node (fnZ (stAt 39) (Str.ofString "any_at") [] .none .none .none .none)
 .nil .nil) (.node (fnO (stAt 60) (Str.ofString "_law_turned") [] .none (.str (Str.ofString "law_xm0938_01") 827) (.ref 452) .none)
 .nil .nil))) (.node (⟨(.type "tuple"), none, (.seq #[] 0), #[]⟩)
 (.node (⟨.none, none, (.fields #[]), #[]⟩)
 (.node (⟨(.type "tuple"), none, (.seq #[] 0), #[]⟩)
 .nil .nil) (.node (⟨(.type "tuple"), none, (.seq #[(.str (Str.ofString "here") 785), (.str (Str.ofString "rest") 786), (.str (Str.ofString "at") 787), (.str (Str.ofString "named") 788), (.str (Str.ofString "subject") 789), (.str (Str.ofString "pile") 790), (.str (Str.ofString "host") 791), (.str (Str.ofString "kind") 792), (.str (Str.ofString "told") 793), (.str (Str.ofString "begin") 794)] 0), #[]⟩)
 .nil .nil)) (.node (⟨(.type "type"), none, (.cls ⟨(Str.ofString "PlainHost"), [(.type "object")], [(.ref 229), (.type "object")], 228, (Str.ofString "PlainHost"), true, [], [], false, none, false⟩), #[none, none, (some (.str (Str.ofString "PlainHost") 440)), (some (.str (Str.ofString "PlainHost") 448)), (some (.builtin "object.__new__")), (some (.bool true))]⟩)
 (.node (⟨.none, none, (.fields #[]), #[]⟩)
 .nil .nil) .nil))) (.node (⟨(.type "tuple"), none, (.seq #[(.str (Str.ofString "__class__") 251)] 0), #[]⟩)
 (.node (⟨(.type "code"), none, (.fields #[(.str (Str.ofString "Pattern") 291), (.str (Str.ofString "Pattern") 292), (.str (Str.ofString "/claim/cut.py") 293), (.int 26 0), (.int 0 0), (.int 0 0), (.int 0 0), (.int 0 0), (.ref 83), (.bool false), (.int 181 0), (.ref 84), .none, .none, .none, .none, (.int 294 0), (.int 26 0), (.str (Str.ofString "/claim/cut.py") 295)]), #[]⟩)
 (.node (fnO (stAt 11) (Str.ofString "is_fail") [] .none (.str (Str.ofString "snobol.values") 233) (.ref 148) .none)
 (.node (⟨(.type "code"), none, (.fields #[(.str (Str.ofString "chars_end") 564), (.str (Str.ofString "chars_end") 565), (.str (Str.ofString "/claim/cut.py") 566), (.int 142 0), (.int 3 0), (.int 0 0), (.int 0 0), (.int 3 0), (.ref 272), (.bool true), (.int 181 0), (.ref 273), .none, (.ref 274), (.ref 275), (.ref 276), (.int 571 0), (.int 142 0), (.str (Str.ofString "/claim/cut.py") 572)]), #[]⟩)
 .nil .nil) (.node (⟨(.type "tuple"), none, (.seq #[] 0), #[]⟩)
 .nil .nil)) (.node (⟨(.type "tuple"), none, (.seq #[] 0), #[]⟩)
 (.node (fnO (stAt 41) (Str.ofString "run_end") [] .none (.str (Str.ofString "snobol.primitives") 558) (.ref 340) .none)
 .nil .nil) .nil)) (.node (⟨(.type "type"), none, (.cls ⟨(Str.ofString "Delayed"), [(.type "object")], [(.ref 117), (.type "object")], 116, (Str.ofString "Delayed"), true, [], [], false, none, false⟩), #[none, none, (some (.str (Str.ofString "Delayed") 318)), (some (.str (Str.ofString "Delayed") 326)), (some (.builtin "object.__new__")), (some (.bool true))]⟩)
 (.node (⟨(.type "tuple"), none, (.seq #[] 0), #[]⟩)
 (.node (⟨(.type "tuple"), none, (.seq #[(.str (Str.ofString "subject") 612), (.str (Str.ofString "at") 613), (.str (Str.ofString "place") 614), (.str (Str.ofString "goal") 615)] 0), #[]⟩)
 .nil .nil) (.node (fnZ (stAt 57) (Str.ofString "taken") [] .none .none .none .none)
 .nil .nil)) (.node (⟨.none, none, (.fields #[]), #[]⟩)
 (.node (⟨(.type "tuple"), none, (.seq #[] 0), #[]⟩)
 .nil .nil) .nil)))) (.node (⟨(.type "tuple"), none, (.seq #[] 0), #[]⟩)
 (.node (⟨(.type "dict"), none, (.dict #[⟨PyData.keyHash P (Str.ofString "__module__"), (.str (Str.ofString "__module__") 242), (.str (Str.ofString "snobol.values") 233)⟩, ⟨PyData.keyHash P (Str.ofString "__qualname__"), (.str (Str.ofString "__qualname__") 244), (.str (Str.ofString "SnobolError") 243)⟩, ⟨PyData.keyHash P (Str.ofString "__firstlineno__"), (.str (Str.ofString "__firstlineno__") 246), (.int 18 245)⟩, ⟨PyData.keyHash P (Str.ofString "__init__"), (.str (Str.ofString "__init__") 257), (.ref 59)⟩, ⟨PyData.keyHash P (Str.ofString "__static_attributes__"), (.str (Str.ofString "__static_attributes__") 260), (.ref 60)⟩, ⟨PyData.keyHash P (Str.ofString "__classcell__"), (.str (Str.ofString "__classcell__") 261), (.ref 46)⟩] 6), #[]⟩)
 (.node (⟨(.type "getset_descriptor"), none, (.fields #[(.str (Str.ofString "__weakref__") 284), (.ref 75), (.builtin "ExceptionGroup.__weakref__"), .none]), #[]⟩)
 (.node (⟨(.type "super"), none, (.fields #[(.ref 138), (.ref 138), (.ref 138)]), #[]⟩)
 (.node (fnZ (stAt 28) (Str.ofString "settled") [] .none .none .none .none)
 .nil .nil) (.node (fnO (stAt 51) (Str.ofString "match_at") [] .none (.str (Str.ofString "snobol.trial") 712) (.ref 396) .none)
 .nil .nil)) (.node (fnO (stIn (stAt 19) 0) (Str.ofString "PlainHost.__init__") [] .none (.str (Str.ofString "snobol.hosts") 438) (.ref 204) .none)
 (.node (⟨(.type "code"), none, (.fields #[(.str (Str.ofString "notany_at") 635), (.str (Str.ofString "notany_at") 636), (.str (Str.ofString "/claim/cut.py") 637), (.int 160 0), (.int 3 0), (.int 0 0), (.int 0 0), (.int 3 0), (.ref 328), (.bool true), (.int 181 0), (.ref 329), .none, (.ref 330), (.ref 331), (.ref 332), (.int 641 0), (.int 160 0), (.str (Str.ofString "/claim/cut.py") 642)]), #[]⟩)
 .nil .nil) (.node (fnZ (stAt 62) (Str.ofString "law") [] .none .none .none .none)
 .nil .nil))) (.node (⟨.none, none, (.fields #[]), #[]⟩)
 (.node (⟨(.type "tuple"), none, (.seq #[(.str (Str.ofString "value") 418), (.str (Str.ofString "width") 419)] 0), #[]⟩)
 (.node (⟨.none, none, (.fields #[]), #[]⟩)
 .nil .nil) (.node (⟨(.type "tuple"), none, (.seq #[] 0), #[]⟩)
 .nil .nil)) (.node (⟨(.type "tuple"), none, (.seq #[] 0), #[]⟩)
 (.node (⟨(.type "tuple"), none, (.seq #[(.str (Str.ofString "subject") 686), (.str (Str.ofString "at") 687), (.str (Str.ofString "found") 688), (.str (Str.ofString "end") 689)] 0), #[]⟩)
 .nil .nil) .nil))) (.node (⟨(.type "dict"), none, (.dict #[⟨PyData.keyHash P (Str.ofString "__module__"), (.str (Str.ofString "__module__") 242), (.str (Str.ofString "snobol.values") 233)⟩, ⟨PyData.keyHash P (Str.ofString "__firstlineno__"), (.str (Str.ofString "__firstlineno__") 246), (.int 18 245)⟩, ⟨PyData.keyHash P (Str.ofString "__init__"), (.str (Str.ofString "__init__") 257), (.ref 59)⟩, ⟨PyData.keyHash P (Str.ofString "__static_attributes__"), (.str (Str.ofString "__static_attributes__") 260), (.ref 60)⟩, ⟨PyData.keyHash P (Str.ofString "__weakref__"), (.str (Str.ofString "__weakref__") 263), (.ref 63)⟩, ⟨PyData.keyHash P (Str.ofString "__doc__"), (.str (Str.ofString "__doc__") 264), .none⟩] 4), #[]⟩)
 (.node (fnO (stIn (stAt 8) 0) (Str.ofString "Pattern.__init__") [] .none (.str (Str.ofString "snobol.values") 233) (.ref 92) .none)
 (.node (⟨(.type "tuple"), none, (.seq #[] 0), #[]⟩)
 (.node (fnO (stAt 33) (Str.ofString "len_end") [] .none (.str (Str.ofString "snobol.primitives") 558) (.ref 284) .none)
 .nil .nil) (.node (⟨.none, none, (.fields #[]), #[]⟩)
 .nil .nil)) (.node (⟨.none, none, (.fields #[]), #[]⟩)
 (.node (⟨(.type "tuple"), none, (.seq #[] 0), #[]⟩)
 .nil .nil) .nil)) (.node (⟨(.type "tuple"), none, (.seq #[] 0), #[]⟩)
 (.node (fnZ (stAt 17) (Str.ofString "need_text") [] .none .none .none .none)
 (.node (⟨(.type "tuple"), none, (.seq #[] 0), #[]⟩)
 .nil .nil) (.node (⟨(.type "code"), none, (.fields #[(.str (Str.ofString "_law_now") 829), (.str (Str.ofString "_law_now") 830), (.str (Str.ofString "/claim/cut.py") 831), (.int 300 0), (.int 2 0), (.int 0 0), (.int 0 0), (.int 3 0), (.ref 440), (.bool true), (.int 181 0), (.ref 441), .none, (.ref 442), (.ref 443), (.ref 444), (.int 834 0), (.int 300 0), (.str (Str.ofString "/claim/cut.py") 835)]), #[]⟩)
 .nil .nil)) (.node (⟨(.type "tuple"), none, (.seq #[(.str (Str.ofString "value") 537), (.str (Str.ofString "text") 538)] 0), #[]⟩)
 (.node (fnZ (stAt 47) (Str.ofString "plain_end") [] .none .none .none .none)
 .nil .nil) .nil))))))) (.node (⟨.none, none, (.dict #[⟨PyData.keyHash P (Str.ofString "type.__subclasses__.Exception.0"), (.str (Str.ofString "type.__subclasses__.Exception.0") 265), (.int 62 0)⟩, ⟨PyData.keyHash P (Str.ofString "type.__subclasses__.Exception.n"), (.str (Str.ofString "type.__subclasses__.Exception.n") 266), (.int 1 0)⟩] 2), #[]⟩)
 (.node (boot_o_4 P)
 (.node (boot_o_8 P)
 (.node (⟨.none, none, (.fields #[]), #[]⟩)
 (.node (⟨(.type "tuple"), none, (.seq #[] 0), #[]⟩)
 (.node (⟨(.type "super"), none, (.fields #[(.ref 62), (.ref 62), (.ref 62)]), #[]⟩)
 (.node (⟨(.type "frame"), none, .plain, #[(some (.ref 127)), (some (.ref 3)), (some (.ref 124)), none, (some (.str (Str.ofString "snobol.values") 233)), none, (some (.ref 0))]⟩)
 (.node (⟨(.type "code"), none, (.fields #[(.str (Str.ofString "pattern_of") 534), (.str (Str.ofString "pattern_of") 535), (.str (Str.ofString "/claim/cut.py") 536), (.int 119 0), (.int 1 0), (.int 0 0), (.int 0 0), (.int 3 0), (.ref 251), (.bool true), (.int 181 0), (.ref 252), .none, (.ref 253), (.ref 254), (.ref 255), (.int 539 0), (.int 119 0), (.str (Str.ofString "/claim/cut.py") 540)]), #[]⟩)
 .nil .nil) (.node (⟨(.type "tuple"), none, (.seq #[] 0), #[]⟩)
 .nil .nil)) (.node (⟨(.type "tuple"), none, (.seq #[] 0), #[]⟩)
 (.node (fnO (stAt 38) (Str.ofString "rem_end") [] .none (.str (Str.ofString "snobol.primitives") 558) (.ref 319) .none)
 .nil .nil) (.node (⟨.none, none, (.fields #[]), #[]⟩)
 .nil .nil))) (.node (⟨(.type "type"), none, (.cls ⟨(Str.ofString "Pattern"), [(.type "object")], [(.ref 96), (.type "object")], 95, (Str.ofString "Pattern"), true, [], [], false, none, false⟩), #[none, none, (some (.str (Str.ofString "Pattern") 289)), (some (.str (Str.ofString "Pattern") 297)), (some (.builtin "object.__new__")), (some (.bool true))]⟩)
 (.node (⟨(.type "tuple"), none, (.seq #[] 0), #[]⟩)
 (.node (⟨(.type "tuple"), none, (.seq #[(.str (Str.ofString "at") 586), (.str (Str.ofString "place") 587)] 0), #[]⟩)
 .nil .nil) (.node (fnZ (stAt 54) (Str.ofString "led_in") [] .none .none .none .none)
 .nil .nil)) (.node (fnZ (stIn (stAt 19) 3) (Str.ofString "PlainHost.step") [] .none .none .none .none)
 (.node (⟨(.type "tuple"), none, (.seq #[] 0), #[]⟩)
 .nil .nil) .nil))) (.node (⟨.none, none, (.fields #[(.int 20 0), (.int 4 0), (.ref 58)]), #[]⟩)
 (.node (⟨(.type "tuple"), none, (.seq #[] 0), #[]⟩)
 (.node (⟨.none, none, (.fields #[]), #[]⟩)
 (.node (⟨(.type "tuple"), none, (.seq #[] 0), #[]⟩)
 .nil .nil) (.node (⟨(.type "tuple"), none, (.seq #[(.str (Str.ofString "node") 742), (.str (Str.ofString "subject") 743), (.str (Str.ofString "begin") 744), (.str (Str.ofString "host") 745), (.str (Str.ofString "pile") 746), (.str (Str.ofString "way") 747), (.str (Str.ofString "chain") 748), (.str (Str.ofString "at") 749), (.str (Str.ofString "named") 750)] 0), #[]⟩)
 .nil .nil)) (.node (⟨(.type "tuple"), none, (.seq #[(.str (Str.ofString "self") 465), (.str (Str.ofString "tree") 466)] 0), #[]⟩)
 (.node (⟨.none, none, (.fields #[]), #[]⟩)
 .nil .nil) .nil)) (.node (fnZ (stIn (stAt 9) 0) (Str.ofString "Delayed.__init__") [] .none .none .none .none)
 (.node (⟨(.type "code"), none, (.fields #[(.str (Str.ofString "to_whole") 415), (.str (Str.ofString "to_whole") 416), (.str (Str.ofString "/claim/cut.py") 417), (.int 63 0), (.int 2 0), (.int 0 0), (.int 0 0), (.int 3 0), (.ref 171), (.bool true), (.int 181 0), (.ref 172), .none, (.ref 173), (.ref 174), (.ref 175), (.int 420 0), (.int 63 0), (.str (Str.ofString "/claim/cut.py") 421)]), #[]⟩)
 (.node (fnZ (stAt 36) (Str.ofString "tab_end") [] .none .none .none .none)
 .nil .nil) (.node (fnO (stAt 56) (Str.ofString "steered") [] .none (.str (Str.ofString "snobol.trial") 712) (.ref 431) .none)
 .nil .nil)) (.node (⟨(.type "tuple"), none, (.seq #[] 0), #[]⟩)
 (.node (⟨(.type "code"), none, (.fields #[(.str (Str.ofString "bal_ends") 683), (.str (Str.ofString "bal_ends") 684), (.str (Str.ofString "/claim/cut.py") 685), (.int 185 0), (.int 2 0), (.int 0 0), (.int 0 0), (.int 3 0), (.ref 363), (.bool true), (.int 181 0), (.ref 364), .none, (.ref 365), (.ref 366), (.ref 367), (.int 690 0), (.int 185 0), (.str (Str.ofString "/claim/cut.py") 691)]), #[]⟩)
 .nil .nil) .nil)))) (.node (⟨(.type "tuple"), none, (.seq #[(.str (Str.ofString "subject") 202), (.str (Str.ofString "found") 203)] 0), #[]⟩)
 (.node (fnZ (stAt 4) (Str.ofString "replace_once") [] .none .none .none .none)
 (.node (⟨(.type "frame"), none, .plain, #[(some (.ref 71)), (some (.ref 3)), (some (.ref 68)), none, (some (.str (Str.ofString "snobol.values") 233)), none, (some (.ref 0))]⟩)
 (.node (⟨(.type "tuple"), none, (.seq #[(.str (Str.ofString "key") 369), (.str (Str.ofString "kind") 370), (.str (Str.ofString "owner") 371)] 0), #[]⟩)
 (.node (fnO (stAt 27) (Str.ofString "is_delayed") [] .none (.str (Str.ofString "snobol.nodes") 500) (.ref 263) .none)
 .nil .nil) (.node (⟨.none, none, (.fields #[]), #[]⟩)
 .nil .nil)) (.node (⟨.none, none, (.fields #[]), #[]⟩)
 (.node (⟨(.type "tuple"), none, (.seq #[] 0), #[]⟩)
 .nil .nil) (.node (fnZ (stAt 61) (Str.ofString "_law_unlike") [] .none .none .none .none)
 .nil .nil))) (.node (⟨(.type "tuple"), none, (.seq #[] 0), #[]⟩)
 (.node (fnZ (stAt 14) (Str.ofString "text_of_whole") [] .none .none .none .none)
 (.node (⟨(.type "tuple"), none, (.seq #[] 0), #[]⟩)
 .nil .nil) (.node (⟨(.type "code"), none, (.fields #[(.str (Str.ofString "led_out") 782), (.str (Str.ofString "led_out") 783), (.str (Str.ofString "/claim/cut.py") 784), (.int 268 0), (.int 7 0), (.int 0 0), (.int 0 0), (.int 3 0), (.ref 419), (.bool true), (.int 181 0), (.ref 420), .none, (.ref 421), (.ref 422), (.ref 423), (.int 795 0), (.int 268 0), (.str (Str.ofString "/claim/cut.py") 796)]), #[]⟩)
 .nil .nil)) (.node (⟨(.type "super"), none, (.fields #[(.ref 229), (.ref 229), (.ref 229)]), #[]⟩)
 (.node (fnZ (stAt 44) (Str.ofString "bal_end") [] .none .none .none .none)
 .nil .nil) .nil))) (.node (⟨(.type "tuple"), none, (.seq #[] 0), #[]⟩)
 (.node (⟨.none, none, (.fields #[]), #[]⟩)
 (.node (⟨(.type "tuple"), none, (.seq #[(.str (Str.ofString "number") 390), (.str (Str.ofString "width") 391)] 0), #[]⟩)
 (.node (⟨.none, none, (.fields #[]), #[]⟩)
 .nil .nil) (.node (⟨(.type "tuple"), none, (.seq #[] 0), #[]⟩)
 .nil .nil)) (.node (⟨(.type "tuple"), none, (.seq #[] 0), #[]⟩)
 (.node (⟨(.type "tuple"), none, (.seq #[(.str (Str.ofString "subject") 657), (.str (Str.ofString "at") 658), (.str (Str.ofString "signs") 659), (.str (Str.ofString "end") 660)] 0), #[]⟩)
 .nil .nil) .nil)) (.node (⟨(.type "super"), none, (.fields #[(.ref 117), (.ref 117), (.ref 117)]), #[]⟩)
 (.node (fnO (stAt 16) (Str.ofString "to_text") [] .none (.str (Str.ofString "snobol.values") 233) (.ref 183) .none)
 (.node (⟨(.type "code"), none, (.fields #[(.str (Str.ofString "rtab_end") 609), (.str (Str.ofString "rtab_end") 610), (.str (Str.ofString "/claim/cut.py") 611), (.int 153 0), (.int 3 0), (.int 0 0), (.int 0 0), (.int 3 0), (.ref 307), (.bool true), (.int 181 0), (.ref 308), .none, (.ref 309), (.ref 310), (.ref 311), (.int 616 0), (.int 153 0), (.str (Str.ofString "/claim/cut.py") 617)]), #[]⟩)
 .nil .nil) (.node (⟨(.type "tuple"), none, (.seq #[] 0), #[]⟩)
 .nil .nil)) (.node (fnZ (stAt 25) (Str.ofString "plain_signs") [] .none .none .none .none)
 (.node (fnO (stAt 46) (Str.ofString "one_end") [] .none (.str (Str.ofString "snobol.primitives") 558) (.ref 375) .none)
 .nil .nil) .nil))))) (.node (⟨.none, none, (.fields (List.toArray ((.int 2 0) :: (.int 0 0) :: (.ref 20) :: (.int 5 0) :: (.int 0 0) :: (.ref 27) :: (.int 7 0) :: (.int 0 0) :: (.ref 34) :: (.int 10 0) :: (.int 0 0) :: (.ref 41) :: (.int 18 0) :: (.int 0 0) :: (.ref 49) :: (.int 24 0) :: (.int 0 0) :: (.ref 71) :: (.int 26 0) :: (.int 0 0) :: (.ref 85) :: (.int 30 0) :: (.int 0 0) :: (.ref 106) :: (.int 34 0) :: (.int 0 0) :: (.ref 127) :: (.int 40 0) :: (.int 0 0) :: (.ref 148) :: (.int 42 0) :: (.int 0 0) :: (.ref 155) :: (.int 44 0) :: (.int 0 0) :: (.ref 162) :: (.int 57 0) :: (.int 0 0) :: (.ref 169) :: (.int 63 0) :: (.int 0 0) :: (.ref 176) :: (.int 67 0) :: (.int 0 0) :: (.ref 183) :: (.int 71 0) :: (.int 0 0) :: (.ref 190) :: (.int 77 0) :: (.int 0 0) :: (.ref 197) :: (.int 107 0) :: (.int 0 0) :: (.ref 242) :: (.int 114 0) :: (.int 0 0) :: (.ref 249) :: (.int 119 0) :: (.int 0 0) :: (.ref 256) :: (.int 128 0) :: (.int 0 0) :: (.ref 263) :: (.int 130 0) :: (.int 0 0) :: (.ref 270) :: (.int 142 0) :: (.int 0 0) :: (.ref 277) :: (.int 145 0) :: (.int 0 0) :: (.ref 284) :: (.int 147 0) :: (.int 0 0) :: (.ref 291) :: (.int 149 0) :: (.int 0 0) :: (.ref 298) :: (.int 151 0) :: (.int 0 0) :: (.ref 305) :: (.int 153 0) :: (.int 0 0) :: (.ref 312) :: (.int 156 0) :: (.int 0 0) :: (.ref 319) :: (.int 158 0) :: (.int 0 0) :: (.ref 326) :: (.int 160 0) :: (.int 0 0) :: (.ref 333) :: (.int 162 0) :: (.int 0 0) :: (.ref 340) :: (.int 166 0) :: (.int 0 0) :: (.ref 347) :: (.int 169 0) :: (.int 0 0) :: (.ref 354) :: (.int 172 0) :: (.int 0 0) :: (.ref 361) :: (.int 185 0) :: (.int 0 0) :: (.ref 368) :: (.int 191 0) :: (.int 0 0) :: (.ref 375) :: (.int 211 0) :: (.int 0 0) :: (.ref 382) :: (.int 215 0) :: (.int 0 0) :: (.ref 389) :: (.int 221 0) :: (.int 0 0) :: (.ref 396) :: (.int 224 0) :: (.int 0 0) :: (.ref 403) :: (.int 242 0) :: (.int 0 0) :: (.ref 410) :: (.int 257 0) :: (.int 0 0) :: (.ref 417) :: (.int 268 0) :: (.int 0 0) :: (.ref 424) :: (.int 275 0) :: (.int 0 0) :: (.ref 431) :: (.int 283 0) :: (.int 0 0) :: (.ref 438) :: (.int 300 0) :: (.int 0 0) :: (.ref 445) :: (.int 302 0) :: (.int 0 0) :: (.ref 452) :: (.int 310 0) :: (.int 0 0) :: (.ref 457) :: (.int 315 0) :: (.int 0 0) :: (.ref 462) :: []))), #[]⟩)
 (.node (⟨(.type "code"), none, (.fields #[(.str (Str.ofString "give_names") 189), (.str (Str.ofString "give_names") 190), (.str (Str.ofString "/claim/cut.py") 191), (.int 2 0), (.int 2 0), (.int 0 0), (.int 0 0), (.int 3 0), (.ref 15), (.bool true), (.int 181 0), (.ref 16), .none, (.ref 17), (.ref 18), (.ref 19), (.int 196 0), (.int 2 0), (.str (Str.ofString "/claim/cut.py") 197)]), #[]⟩)
 (.node (⟨(.type "tuple"), none, (.seq #[] 0), #[]⟩)
 (.node (⟨(.type "dict"), none, (.dict #[⟨PyData.keyHash P (Str.ofString "__module__"), (.str (Str.ofString "__module__") 276), (.str (Str.ofString "snobol.values") 233)⟩, ⟨PyData.keyHash P (Str.ofString "__qualname__"), (.str (Str.ofString "__qualname__") 278), (.str (Str.ofString "Failure") 277)⟩, ⟨PyData.keyHash P (Str.ofString "__firstlineno__"), (.str (Str.ofString "__firstlineno__") 280), (.int 24 279)⟩, ⟨PyData.keyHash P (Str.ofString "__static_attributes__"), (.str (Str.ofString "__static_attributes__") 281), (.ref 73)⟩] 4), #[]⟩)
 (.node (⟨(.type "tuple"), none, (.seq #[] 0), #[]⟩)
 (.node (⟨(.type "tuple"), none, (.seq #[(.str (Str.ofString "told") 545)] 0), #[]⟩)
 .nil .nil) (.node (fnZ (stAt 50) (Str.ofString "match_plain") [] .none .none .none .none)
 .nil .nil)) (.node (⟨.none, none, (.fields #[(.int 79 0), (.int 4 0), (.ref 204), (.int 87 0), (.int 4 0), (.ref 211), (.int 92 0), (.int 4 0), (.ref 218), (.int 99 0), (.int 4 0), (.ref 225)]), #[]⟩)
 (.node (⟨(.type "tuple"), none, (.seq #[] 0), #[]⟩)
 .nil .nil) (.node (⟨(.type "code"), none, (.fields #[(.str (Str.ofString "_law_turned") 837), (.str (Str.ofString "_law_turned") 838), (.str (Str.ofString "/claim/cut.py") 839), (.int 302 0), (.int 4 0), (.int 0 0), (.int 0 0), (.int 3 0), (.ref 447), (.bool true), (.int 181 0), (.ref 448), .none, (.ref 449), (.ref 450), (.ref 451), (.int 848 0), (.int 302 0), (.str (Str.ofString "/claim/cut.py") 849)]), #[]⟩)
 .nil .nil))) (.node (⟨(.type "builtin_function_or_method"), none, (.fields #[(.builtin "object.__init_subclass__"), (.ref 96)]), #[]⟩)
 (.node (⟨(.type "tuple"), none, (.seq #[] 0), #[]⟩)
 (.node (fnO (stAt 34) (Str.ofString "pos_end") [] .none (.str (Str.ofString "snobol.primitives") 558) (.ref 291) .none)
 .nil .nil) (.node (⟨.none, none, (.fields #[]), #[]⟩)
 .nil .nil)) (.node (⟨(.type "dict"), none, (.dict #[⟨PyData.keyHash P (Str.ofString "__module__"), (.str (Str.ofString "__module__") 447), (.str (Str.ofString "snobol.hosts") 438)⟩, ⟨PyData.keyHash P (Str.ofString "__firstlineno__"), (.str (Str.ofString "__firstlineno__") 451), (.int 77 450)⟩, ⟨PyData.keyHash P (Str.ofString "__init__"), (.str (Str.ofString "__init__") 461), (.ref 205)⟩, ⟨PyData.keyHash P (Str.ofString "value_of"), (.str (Str.ofString "value_of") 469), (.ref 212)⟩, ⟨PyData.keyHash P (Str.ofString "assign"), (.str (Str.ofString "assign") 478), (.ref 219)⟩, ⟨PyData.keyHash P (Str.ofString "step"), (.str (Str.ofString "step") 485), (.ref 226)⟩, ⟨PyData.keyHash P (Str.ofString "__static_attributes__"), (.str (Str.ofString "__static_attributes__") 492), (.ref 227)⟩, ⟨PyData.keyHash P (Str.ofString "__dict__"), (.str (Str.ofString "__dict__") 494), (.ref 230)⟩, ⟨PyData.keyHash P (Str.ofString "__weakref__"), (.str (Str.ofString "__weakref__") 496), (.ref 231)⟩, ⟨PyData.keyHash P (Str.ofString "__doc__"), (.str (Str.ofString "__doc__") 497), .none⟩] 4), #[]⟩)
 (.node (⟨(.type "tuple"), none, (.seq #[] 0), #[]⟩)
 .nil .nil) .nil))) (.node (⟨(.type "tuple"), none, (.seq #[(.ref 46)] 0), #[]⟩)
 (.node (⟨.none, none, (.fields #[(.int 28 0), (.int 4 0), (.ref 92)]), #[]⟩)
 (.node (⟨(.type "code"), none, (.fields #[(.str (Str.ofString "is_fail") 380), (.str (Str.ofString "is_fail") 381), (.str (Str.ofString "/claim/cut.py") 382), (.int 40 0), (.int 1 0), (.int 0 0), (.int 0 0), (.int 3 0), (.ref 143), (.bool true), (.int 181 0), (.ref 144), .none, (.ref 145), (.ref 146), (.ref 147), (.int 384 0), (.int 40 0), (.str (Str.ofString "/claim/cut.py") 385)]), #[]⟩)
 (.node (fnZ (stAt 32) (Str.ofString "chars_end") [] .none .none .none .none)
 .nil .nil) (.node (fnO (stAt 52) (Str.ofString "tried") [] .none (.str (Str.ofString "snobol.trial") 712) (.ref 403) .none)
 .nil .nil)) (.node (fnO (stIn (stAt 19) 1) (Str.ofString "PlainHost.value_of") [] .none (.str (Str.ofString "snobol.hosts") 438) (.ref 211) .none)
 (.node (⟨(.type "code"), none, (.fields #[(.str (Str.ofString "run_end") 644), (.str (Str.ofString "run_end") 645), (.str (Str.ofString "/claim/cut.py") 646), (.int 162 0), (.int 4 0), (.int 0 0), (.int 0 0), (.int 3 0), (.ref 335), (.bool true), (.int 181 0), (.ref 336), .none, (.ref 337), (.ref 338), (.ref 339), (.int 651 0), (.int 162 0), (.str (Str.ofString "/claim/cut.py") 652)]), #[]⟩)
 .nil .nil) .nil)) (.node (⟨(.type "dict"), none, (.dict #[⟨PyData.keyHash P (Str.ofString "__module__"), (.str (Str.ofString "__module__") 325), (.str (Str.ofString "snobol.values") 233)⟩, ⟨PyData.keyHash P (Str.ofString "__firstlineno__"), (.str (Str.ofString "__firstlineno__") 329), (.int 30 328)⟩, ⟨PyData.keyHash P (Str.ofString "__init__"), (.str (Str.ofString "__init__") 337), (.ref 114)⟩, ⟨PyData.keyHash P (Str.ofString "__static_attributes__"), (.str (Str.ofString "__static_attributes__") 339), (.ref 115)⟩, ⟨PyData.keyHash P (Str.ofString "__dict__"), (.str (Str.ofString "__dict__") 341), (.ref 118)⟩, ⟨PyData.keyHash P (Str.ofString "__weakref__"), (.str (Str.ofString "__weakref__") 343), (.ref 119)⟩, ⟨PyData.keyHash P (Str.ofString "__doc__"), (.str (Str.ofString "__doc__") 344), .none⟩] 4), #[]⟩)
 (.node (⟨(.type "tuple"), none, (.seq #[(.str (Str.ofString "value") 426)] 0), #[]⟩)
 (.node (⟨.none, none, (.fields #[]), #[]⟩)
 .nil .nil) (.node (⟨(.type "tuple"), none, (.seq #[] 0), #[]⟩)
 .nil .nil)) (.node (⟨(.type "tuple"), none, (.seq #[] 0), #[]⟩)
 (.node (⟨(.type "tuple"), none, (.seq #[(.str (Str.ofString "kind") 696), (.str (Str.ofString "subject") 697), (.str (Str.ofString "at") 698), (.str (Str.ofString "told") 699)] 0), #[]⟩)
 .nil .nil) .nil)))) (.node (fnO (stAt 2) (Str.ofString "three_pieces") [] .none (.str (Str.ofString "snobol.matchcore") 187) (.ref 27) .none)
 (.node (⟨(.type "builtin_function_or_method"), none, (.fields #[(.builtin "type.__prepare__"), (.type "type")]), #[]⟩)
 (.node (⟨(.type "getset_descriptor"), none, (.fields #[(.str (Str.ofString "__dict__") 282), (.ref 75), (.builtin "function.__dict__"), (.builtin "function.__dict__#set")]), #[]⟩)
 (.node (⟨(.type "getset_descriptor"), none, (.fields #[(.str (Str.ofString "__weakref__") 375), (.ref 138), (.builtin "ExceptionGroup.__weakref__"), .none]), #[]⟩)
 (.node (⟨(.type "tuple"), none, (.seq #[] 0), #[]⟩)
 .nil .nil) (.node (⟨(.type "code"), none, (.fields #[(.str (Str.ofString "match_at") 728), (.str (Str.ofString "match_at") 729), (.str (Str.ofString "/claim/cut.py") 730), (.int 221 0), (.int 4 0), (.int 0 0), (.int 0 0), (.int 3 0), (.ref 391), (.bool true), (.int 181 0), (.ref 392), .none, (.ref 393), (.ref 394), (.ref 395), (.int 736 0), (.int 221 0), (.str (Str.ofString "/claim/cut.py") 737)]), #[]⟩)
 .nil .nil)) (.node (⟨(.type "code"), none, (.fields #[(.str (Str.ofString "__init__") 452), (.str (Str.ofString "PlainHost.__init__") 453), (.str (Str.ofString "/claim/cut.py") 454), (.int 79 0), (.int 4 0), (.int 0 0), (.int 0 0), (.int 3 0), (.ref 199), (.bool true), (.int 181 0), (.ref 200), .none, (.ref 201), (.ref 202), (.ref 203), (.int 459 0), (.int 79 0), (.str (Str.ofString "/claim/cut.py") 460)]), #[]⟩)
 (.node (fnZ (stAt 40) (Str.ofString "notany_at") [] .none .none .none .none)
 .nil .nil) (.node (⟨.none, none, (.fields #[]), #[]⟩)
 .nil .nil))) (.node (⟨(.type "tuple"), none, (.seq #[] 0), #[]⟩)
 (.node (⟨.none, none, (.fields #[]), #[]⟩)
 (.node (⟨(.type "tuple"), none, (.seq #[] 0), #[]⟩)
 .nil .nil) (.node (⟨(.type "tuple"), none, (.seq #[(.str (Str.ofString "chain") 801), (.str (Str.ofString "at") 802), (.str (Str.ofString "named") 803), (.str (Str.ofString "pile") 804), (.str (Str.ofString "kind") 805), (.str (Str.ofString "rest") 806)] 0), #[]⟩)
 .nil .nil)) (.node (⟨(.type "tuple"), none, (.seq #[(.int 64 513)] 0), #[]⟩)
 (.node (⟨.none, none, (.fields #[]), #[]⟩)
 .nil .nil) .nil))) (.node (⟨(.type "tuple"), none, (.seq #[(.str (Str.ofString "number") 258), (.str (Str.ofString "told") 259)] 0), #[]⟩)
 (.node (⟨(.type "code"), none, (.fields #[(.str (Str.ofString "__init__") 301), (.str (Str.ofString "Pattern.__init__") 302), (.str (Str.ofString "/claim/cut.py") 303), (.int 28 0), (.int 2 0), (.int 0 0), (.int 0 0), (.int 3 0), (.ref 87), (.bool true), (.int 181 0), (.ref 88), .none, (.ref 89), (.ref 90), (.ref 91), (.int 306 0), (.int 28 0), (.str (Str.ofString "/claim/cut.py") 307)]), #[]⟩)
 (.node (fnO (stAt 12) (Str.ofString "fits") [] .none (.str (Str.ofString "snobol.values") 233) (.ref 155) .none)
 (.node (⟨(.type "code"), none, (.fields #[(.str (Str.ofString "len_end") 574), (.str (Str.ofString "len_end") 575), (.str (Str.ofString "/claim/cut.py") 576), (.int 145 0), (.int 3 0), (.int 0 0), (.int 0 0), (.int 3 0), (.ref 279), (.bool true), (.int 181 0), (.ref 280), .none, (.ref 281), (.ref 282), (.ref 283), (.int 580 0), (.int 145 0), (.str (Str.ofString "/claim/cut.py") 581)]), #[]⟩)
 .nil .nil) (.node (⟨(.type "tuple"), none, (.seq #[] 0), #[]⟩)
 .nil .nil)) (.node (⟨(.type "tuple"), none, (.seq #[] 0), #[]⟩)
 (.node (fnO (stAt 42) (Str.ofString "span_end") [] .none (.str (Str.ofString "snobol.primitives") 558) (.ref 347) .none)
 .nil .nil) .nil)) (.node (⟨(.type "dict"), none, (.dict #[⟨PyData.keyHash P (Str.ofString "__module__"), (.str (Str.ofString "__module__") 354), (.str (Str.ofString "snobol.values") 233)⟩, ⟨PyData.keyHash P (Str.ofString "__qualname__"), (.str (Str.ofString "__qualname__") 356), (.str (Str.ofString "NameRef") 355)⟩, ⟨PyData.keyHash P (Str.ofString "__firstlineno__"), (.str (Str.ofString "__firstlineno__") 358), (.int 34 357)⟩, ⟨PyData.keyHash P (Str.ofString "__init__"), (.str (Str.ofString "__init__") 368), (.ref 135)⟩, ⟨PyData.keyHash P (Str.ofString "__static_attributes__"), (.str (Str.ofString "__static_attributes__") 372), (.ref 136)⟩] 5), #[]⟩)
 (.node (⟨(.type "tuple"), none, (.seq #[] 0), #[]⟩)
 (.node (⟨(.type "tuple"), none, (.seq #[(.str (Str.ofString "subject") 622)] 0), #[]⟩)
 .nil .nil) (.node (fnZ (stAt 59) (Str.ofString "_law_now") [] .none .none .none .none)
 .nil .nil)) (.node (⟨.none, none, (.fields #[]), #[]⟩)
 (.node (⟨(.type "tuple"), none, (.seq #[] 0), #[]⟩)
 .nil .nil) .nil)))))) (.node (boot_o_6 P)
 (.node (boot_o_10 P)
 (.node (⟨(.type "tuple"), none, (.seq #[] 0), #[]⟩)
 (.node (⟨(.type "code"), none, (.fields #[(.str (Str.ofString "spliced") 207), (.str (Str.ofString "spliced") 208), (.str (Str.ofString "/claim/cut.py") 209), (.int 7 0), (.int 3 0), (.int 0 0), (.int 0 0), (.int 3 0), (.ref 29), (.bool true), (.int 181 0), (.ref 30), .none, (.ref 31), (.ref 32), (.ref 33), (.int 216 0), (.int 7 0), (.str (Str.ofString "/claim/cut.py") 217)]), #[]⟩)
 (.node (⟨(.type "tuple"), none, (.seq #[] 0), #[]⟩)
 (.node (⟨.none, none, (.fields #[]), #[]⟩)
 (.node (⟨(.type "tuple"), none, (.seq #[] 0), #[]⟩)
 .nil .nil) (.node (⟨(.type "tuple"), none, (.seq #[(.str (Str.ofString "node") 719), (.str (Str.ofString "subject") 720), (.str (Str.ofString "is_anchored") 721), (.str (Str.ofString "host") 722), (.str (Str.ofString "begin") 723), (.str (Str.ofString "found") 724)] 0), #[]⟩)
 .nil .nil)) (.node (⟨(.type "dict"), none, (.dict #[⟨PyData.keyHash P (Str.ofString "__module__"), (.str (Str.ofString "__module__") 447), (.str (Str.ofString "snobol.hosts") 438)⟩, ⟨PyData.keyHash P (Str.ofString "__qualname__"), (.str (Str.ofString "__qualname__") 449), (.str (Str.ofString "PlainHost") 448)⟩, ⟨PyData.keyHash P (Str.ofString "__firstlineno__"), (.str (Str.ofString "__firstlineno__") 451), (.int 77 450)⟩, ⟨PyData.keyHash P (Str.ofString "__init__"), (.str (Str.ofString "__init__") 461), (.ref 205)⟩, ⟨PyData.keyHash P (Str.ofString "value_of"), (.str (Str.ofString "value_of") 469), (.ref 212)⟩, ⟨PyData.keyHash P (Str.ofString "assign"), (.str (Str.ofString "assign") 478), (.ref 219)⟩, ⟨PyData.keyHash P (Str.ofString "step"), (.str (Str.ofString "step") 485), (.ref 226)⟩, ⟨PyData.keyHash P (Str.ofString "__static_attributes__"), (.str (Str.ofString "__static_attributes__") 492), (.ref 227)⟩] 8), #[]⟩)
 (.node (⟨.none, none, (.fields #[]), #[]⟩)
 .nil .nil) (.node (⟨(.type "tuple"), none, (.seq #[(.str (Str.ofString "order") 847)] 0), #[]⟩)
 .nil .nil))) (.node (⟨(.type "getset_descriptor"), none, (.fields #[(.str (Str.ofString "__weakref__") 313), (.ref 96), (.builtin "ExceptionGroup.__weakref__"), .none]), #[]⟩)
 (.node (⟨(.type "code"), none, (.fields #[(.str (Str.ofString "whole_of_text") 395), (.str (Str.ofString "whole_of_text") 396), (.str (Str.ofString "/claim/cut.py") 397), (.int 44 0), (.int 2 0), (.int 0 0), (.int 0 0), (.int 3 0), (.ref 157), (.bool true), (.int 181 0), (.ref 158), .none, (.ref 159), (.ref 160), (.ref 161), (.int 403 0), (.int 44 0), (.str (Str.ofString "/claim/cut.py") 404)]), #[]⟩)
 (.node (fnZ (stAt 34) (Str.ofString "pos_end") [] .none .none .none .none)
 .nil .nil) (.node (fnO (stAt 54) (Str.ofString "led_in") [] .none (.str (Str.ofString "snobol.trial") 712) (.ref 417) .none)
 .nil .nil)) (.node (fnO (stIn (stAt 19) 3) (Str.ofString "PlainHost.step") [] .none (.str (Str.ofString "snobol.hosts") 438) (.ref 225) .none)
 (.node (⟨(.type "code"), none, (.fields #[(.str (Str.ofString "break_end") 664), (.str (Str.ofString "break_end") 665), (.str (Str.ofString "/claim/cut.py") 666), (.int 169 0), (.int 3 0), (.int 0 0), (.int 0 0), (.int 3 0), (.ref 349), (.bool true), (.int 181 0), (.ref 350), .none, (.ref 351), (.ref 352), (.ref 353), (.int 671 0), (.int 169 0), (.str (Str.ofString "/claim/cut.py") 672)]), #[]⟩)
 .nil .nil) .nil))) (.node (⟨(.type "frame"), none, .plain, #[(some (.ref 49)), (some (.ref 3)), (some (.ref 45)), none, (some (.str (Str.ofString "snobol.values") 233)), none, (some (.ref 0))]⟩)
 (.node (⟨(.type "dict"), none, (.dict #[⟨PyData.keyHash P (Str.ofString "__module__"), (.str (Str.ofString "__module__") 296), (.str (Str.ofString "snobol.values") 233)⟩, ⟨PyData.keyHash P (Str.ofString "__qualname__"), (.str (Str.ofString "__qualname__") 298), (.str (Str.ofString "Pattern") 297)⟩, ⟨PyData.keyHash P (Str.ofString "__firstlineno__"), (.str (Str.ofString "__firstlineno__") 300), (.int 26 299)⟩, ⟨PyData.keyHash P (Str.ofString "__init__"), (.str (Str.ofString "__init__") 308), (.ref 93)⟩, ⟨PyData.keyHash P (Str.ofString "__static_attributes__"), (.str (Str.ofString "__static_attributes__") 310), (.ref 94)⟩] 5), #[]⟩)
 (.node (⟨(.type "tuple"), none, (.seq #[] 0), #[]⟩)
 (.node (⟨(.type "tuple"), none, (.seq #[(.str (Str.ofString "subject") 567), (.str (Str.ofString "at") 568), (.str (Str.ofString "text") 569), (.str (Str.ofString "end") 570)] 0), #[]⟩)
 .nil .nil) (.node (fnZ (stAt 52) (Str.ofString "tried") [] .none .none .none .none)
 .nil .nil)) (.node (fnZ (stIn (stAt 19) 1) (Str.ofString "PlainHost.value_of") [] .none .none .none .none)
 (.node (⟨(.type "tuple"), none, (.seq #[] 0), #[]⟩)
 .nil .nil) .nil)) (.node (fnO (stIn (stAt 9) 0) (Str.ofString "Delayed.__init__") [] .none (.str (Str.ofString "snobol.values") 233) (.ref 113) .none)
 (.node (⟨(.type "tuple"), none, (.seq #[] 0), #[]⟩)
 (.node (fnO (stAt 36) (Str.ofString "tab_end") [] .none (.str (Str.ofString "snobol.primitives") 558) (.ref 305) .none)
 .nil .nil) (.node (⟨.none, none, (.fields #[]), #[]⟩)
 .nil .nil)) (.node (⟨(.type "code"), none, (.fields #[(.str (Str.ofString "plain_count") 515), (.str (Str.ofString "plain_count") 516), (.str (Str.ofString "/claim/cut.py") 517), (.int 107 0), (.int 3 0), (.int 0 0), (.int 0 0), (.int 3 0), (.ref 237), (.bool true), (.int 181 0), (.ref 238), .none, (.ref 239), (.ref 240), (.ref 241), (.int 522 0), (.int 107 0), (.str (Str.ofString "/claim/cut.py") 523)]), #[]⟩)
 (.node (⟨(.type "tuple"), none, (.seq #[] 0), #[]⟩)
 .nil .nil) .nil)))) (.node (fnZ (stAt 2) (Str.ofString "three_pieces") [] .none .none .none .none)
 (.node (fnO (stAt 4) (Str.ofString "replace_once") [] .none (.str (Str.ofString "snobol.matchcore") 187) (.ref 41) .none)
 (.node (⟨(.type "dict"), none, (.dict #[⟨PyData.keyHash P (Str.ofString "__module__"), (.str (Str.ofString "__module__") 276), (.str (Str.ofString "snobol.values") 233)⟩, ⟨PyData.keyHash P (Str.ofString "__firstlineno__"), (.str (Str.ofString "__firstlineno__") 280), (.int 24 279)⟩, ⟨PyData.keyHash P (Str.ofString "__static_attributes__"), (.str (Str.ofString "__static_attributes__") 281), (.ref 73)⟩, ⟨PyData.keyHash P (Str.ofString "__dict__"), (.str (Str.ofString "__dict__") 283), (.ref 76)⟩, ⟨PyData.keyHash P (Str.ofString "__weakref__"), (.str (Str.ofString "__weakref__") 285), (.ref 77)⟩, ⟨PyData.keyHash P (Str.ofString "__doc__"), (.str (Str.ofString "__doc__") 286), .none⟩] 4), #[]⟩)
 (.node (⟨(.type "type"), none, (.cls ⟨(Str.ofString "NameRef"), [(.type "object")], [(.ref 138), (.type "object")], 137, (Str.ofString "NameRef"), true, [], [], false, none, false⟩), #[none, none, (some (.str (Str.ofString "NameRef") 347)), (some (.str (Str.ofString "NameRef") 355)), (some (.builtin "object.__new__")), (some (.bool true))]⟩)
 (.node (⟨.none, none, (.fields #[]), #[]⟩)
 .nil .nil) (.node (⟨(.type "tuple"), none, (.seq #[] 0), #[]⟩)
 .nil .nil)) (.node (⟨(.type "tuple"), none, (.seq #[] 0), #[]⟩)
 (.node (⟨(.type "tuple"), none, (.seq #[(.str (Str.ofString "subject") 638), (.str (Str.ofString "at") 639), (.str (Str.ofString "signs") 640)] 0), #[]⟩)
 .nil .nil) (.node (fnO (stAt 61) (Str.ofString "_law_unlike") [] .none (.str (Str.ofString "law_xm0938_01") 827) (.ref 457) .none)
 .nil .nil))) (.node (⟨(.type "code"), none, (.fields #[(.str (Str.ofString "Delayed") 320), (.str (Str.ofString "Delayed") 321), (.str (Str.ofString "/claim/cut.py") 322), (.int 30 0), (.int 0 0), (.int 0 0), (.int 0 0), (.int 0 0), (.ref 104), (.bool false), (.int 181 0), (.ref 105), .none, .none, .none, .none, (.int 323 0), (.int 30 0), (.str (Str.ofString "/claim/cut.py") 324)]), #[]⟩)
 (.node (fnO (stAt 14) (Str.ofString "text_of_whole") [] .none (.str (Str.ofString "snobol.values") 233) (.ref 169) .none)
 (.node (⟨(.type "code"), none, (.fields #[(.str (Str.ofString "rpos_end") 591), (.str (Str.ofString "rpos_end") 592), (.str (Str.ofString "/claim/cut.py") 593), (.int 149 0), (.int 3 0), (.int 0 0), (.int 0 0), (.int 3 0), (.ref 293), (.bool true), (.int 181 0), (.ref 294), .none, (.ref 295), (.ref 296), (.ref 297), (.int 597 0), (.int 149 0), (.str (Str.ofString "/claim/cut.py") 598)]), #[]⟩)
 .nil .nil) (.node (⟨(.type "tuple"), none, (.seq #[] 0), #[]⟩)
 .nil .nil)) (.node (⟨(.type "tuple"), none, (.seq #[(.str (Str.ofString "len") 502), (.str (Str.ofString "pos") 503), (.str (Str.ofString "rpos") 504), (.str (Str.ofString "tab") 505), (.str (Str.ofString "rtab") 506)] 0), #[]⟩)
 (.node (fnO (stAt 44) (Str.ofString "bal_end") [] .none (.str (Str.ofString "snobol.primitives") 558) (.ref 361) .none)
 .nil .nil) .nil))) (.node (⟨(.type "code"), none, (.fields #[(.str (Str.ofString "__init__") 248), (.str (Str.ofString "SnobolError.__init__") 249), (.str (Str.ofString "/claim/cut.py") 250), (.int 20 0), (.int 3 0), (.int 0 0), (.int 0 0), (.int 3 0), (.ref 53), (.bool true), (.int 181 0), (.ref 54), .none, (.ref 55), (.ref 56), (.ref 57), (.int 255 0), (.int 20 0), (.str (Str.ofString "/claim/cut.py") 256)]), #[]⟩)
 (.node (⟨(.type "tuple"), none, (.seq #[] 0), #[]⟩)
 (.node (fnZ (stAt 12) (Str.ofString "fits") [] .none .none .none .none)
 (.node (⟨(.type "tuple"), none, (.seq #[] 0), #[]⟩)
 .nil .nil) (.node (⟨(.type "code"), none, (.fields #[(.str (Str.ofString "advanced") 754), (.str (Str.ofString "advanced") 755), (.str (Str.ofString "/claim/cut.py") 756), (.int 242 0), (.int 6 0), (.int 0 0), (.int 0 0), (.int 3 0), (.ref 405), (.bool true), (.int 181 0), (.ref 406), .none, (.ref 407), (.ref 408), (.ref 409), (.int 767 0), (.int 242 0), (.str (Str.ofString "/claim/cut.py") 768)]), #[]⟩)
 .nil .nil)) (.node (⟨(.type "code"), none, (.fields #[(.str (Str.ofString "assign") 470), (.str (Str.ofString "PlainHost.assign") 471), (.str (Str.ofString "/claim/cut.py") 472), (.int 92 0), (.int 3 0), (.int 0 0), (.int 0 0), (.int 3 0), (.ref 213), (.bool true), (.int 181 0), (.ref 214), .none, (.ref 215), (.ref 216), (.ref 217), (.int 476 0), (.int 92 0), (.str (Str.ofString "/claim/cut.py") 477)]), #[]⟩)
 (.node (fnZ (stAt 42) (Str.ofString "span_end") [] .none .none .none .none)
 .nil .nil) .nil)) (.node (⟨(.type "tuple"), none, (.seq #[] 0), #[]⟩)
 (.node (⟨.none, none, (.fields #[]), #[]⟩)
 (.node (⟨(.type "tuple"), none, (.seq #[] 0), #[]⟩)
 .nil .nil) (.node (⟨(.type "tuple"), none, (.seq #[(.str (Str.ofString "node") 832), (.str (Str.ofString "name") 833)] 0), #[]⟩)
 .nil .nil)) (.node (fnO (stAt 25) (Str.ofString "plain_signs") [] .none (.str (Str.ofString "snobol.nodes") 500) (.ref 249) .none)
 (.node (⟨.none, none, (.fields #[]), #[]⟩)
 .nil .nil) .nil))))) (.node (⟨(.type "frame"), none, .plain, #[(some (.ref 13)), (some (.ref 3)), (some (.ref 3)), none, (some (.str (Str.ofString "__main__") 164)), none, (some (.ref 0))]⟩)
 (.node (⟨(.type "tuple"), none, (.seq #[] 0), #[]⟩)
 (.node (⟨(.type "tuple"), none, (.seq #[(.str (Str.ofString "matcher") 222), (.str (Str.ofString "node") 223), (.str (Str.ofString "subject") 224), (.str (Str.ofString "is_anchored") 225), (.str (Str.ofString "host") 226), (.str (Str.ofString "text_of") 227), (.str (Str.ofString "found") 228), (.str (Str.ofString "text") 229)] 0), #[]⟩)
 (.node (⟨.none, none, (.fields #[]), #[]⟩)
 (.node (⟨(.type "code"), none, (.fields #[(.str (Str.ofString "__init__") 359), (.str (Str.ofString "NameRef.__init__") 360), (.str (Str.ofString "/claim/cut.py") 361), (.int 36 0), (.int 4 0), (.int 0 0), (.int 0 0), (.int 3 0), (.ref 129), (.bool true), (.int 181 0), (.ref 130), .none, (.ref 131), (.ref 132), (.ref 133), (.int 366 0), (.int 36 0), (.str (Str.ofString "/claim/cut.py") 367)]), #[]⟩)
 (.node (fnZ (stAt 27) (Str.ofString "is_delayed") [] .none .none .none .none)
 .nil .nil) (.node (fnO (stAt 50) (Str.ofString "match_plain") [] .none (.str (Str.ofString "snobol.trial") 712) (.ref 389) .none)
 .nil .nil)) (.node (⟨(.type "frame"), none, .plain, #[(some (.ref 197)), (some (.ref 3)), (some (.ref 194)), none, (some (.str (Str.ofString "snobol.hosts") 438)), none, (some (.ref 0))]⟩)
 (.node (⟨(.type "code"), none, (.fields #[(.str (Str.ofString "any_at") 626), (.str (Str.ofString "any_at") 627), (.str (Str.ofString "/claim/cut.py") 628), (.int 158 0), (.int 3 0), (.int 0 0), (.int 0 0), (.int 3 0), (.ref 321), (.bool true), (.int 181 0), (.ref 322), .none, (.ref 323), (.ref 324), (.ref 325), (.int 632 0), (.int 158 0), (.str (Str.ofString "/claim/cut.py") 633)]), #[]⟩)
 .nil .nil) (.node (⟨(.type "tuple"), none, (.seq #[] 0), #[]⟩)
 .nil .nil))) (.node (⟨(.type "builtin_function_or_method"), none, (.fields #[(.builtin "type.__prepare__"), (.type "type")]), #[]⟩)
 (.node (⟨(.type "tuple"), none, (.seq #[(.str (Str.ofString "number") 409), (.str (Str.ofString "left") 410), (.str (Str.ofString "found") 411)] 0), #[]⟩)
 (.node (⟨.none, none, (.fields #[]), #[]⟩)
 .nil .nil) (.node (⟨(.type "tuple"), none, (.seq #[] 0), #[]⟩)
 .nil .nil)) (.node (⟨(.type "getset_descriptor"), none, (.fields #[(.str (Str.ofString "__dict__") 493), (.ref 229), (.builtin "function.__dict__"), (.builtin "function.__dict__#set")]), #[]⟩)
 (.node (⟨(.type "tuple"), none, (.seq #[(.str (Str.ofString "subject") 677), (.str (Str.ofString "at") 678), (.str (Str.ofString "level") 679)] 0), #[]⟩)
 .nil .nil) .nil))) (.node (⟨.none, none, (.fields #[]), #[]⟩)
 (.node (⟨(.type "frame"), none, .plain, #[(some (.ref 85)), (some (.ref 3)), (some (.ref 82)), none, (some (.str (Str.ofString "snobol.values") 233)), none, (some (.ref 0))]⟩)
 (.node (⟨(.type "tuple"), none, (.seq #[] 0), #[]⟩)
 (.node (fnO (stAt 32) (Str.ofString "chars_end") [] .none (.str (Str.ofString "snobol.primitives") 558) (.ref 277) .none)
 .nil .nil) (.node (⟨.none, none, (.fields #[]), #[]⟩)
 .nil .nil)) (.node (⟨.none, none, (.fields #[]), #[]⟩)
 (.node (⟨(.type "tuple"), none, (.seq #[] 0), #[]⟩)
 .nil .nil) .nil)) (.node (⟨(.type "getset_descriptor"), none, (.fields #[(.str (Str.ofString "__dict__") 340), (.ref 117), (.builtin "function.__dict__"), (.builtin "function.__dict__#set")]), #[]⟩)
 (.node (fnZ (stAt 16) (Str.ofString "to_text") [] .none .none .none .none)
 (.node (⟨(.type "tuple"), none, (.seq #[] 0), #[]⟩)
 .nil .nil) (.node (⟨(.type "code"), none, (.fields #[(.str (Str.ofString "taken") 810), (.str (Str.ofString "taken") 811), (.str (Str.ofString "/claim/cut.py") 812), (.int 283 0), (.int 7 0), (.int 0 0), (.int 0 0), (.int 3 0), (.ref 433), (.bool true), (.int 181 0), (.ref 434), .none, (.ref 435), (.ref 436), (.ref 437), (.int 824 0), (.int 283 0), (.str (Str.ofString "/claim/cut.py") 825)]), #[]⟩)
 .nil .nil)) (.node (⟨(.type "tuple"), none, (.seq #[(.str (Str.ofString "value") 528), (.str (Str.ofString "kind") 529), (.str (Str.ofString "text") 530)] 0), #[]⟩)
 (.node (fnZ (stAt 46) (Str.ofString "one_end") [] .none .none .none .none)
 .nil .nil) .nil)))) (.node (⟨.none, none, (.fields #[]), #[]⟩)
 (.node (⟨(.type "cell"), none, (.cell (some (.ref 62))), #[]⟩)
 (.node (⟨(.type "super"), none, (.fields #[(.ref 75), (.ref 75), (.ref 75)]), #[]⟩)
 (.node (⟨(.type "builtin_function_or_method"), none, (.fields #[(.builtin "object.__init_subclass__"), (.ref 138)]), #[]⟩)
 (.node (⟨(.type "code"), none, (.fields #[(.str (Str.ofString "settled") 549), (.str (Str.ofString "settled") 550), (.str (Str.ofString "/claim/cut.py") 551), (.int 130 0), (.int 2 0), (.int 0 0), (.int 0 0), (.int 3 0), (.ref 265), (.bool true), (.int 181 0), (.ref 266), .none, (.ref 267), (.ref 268), (.ref 269), (.int 555 0), (.int 130 0), (.str (Str.ofString "/claim/cut.py") 556)]), #[]⟩)
 .nil .nil) (.node (⟨(.type "tuple"), none, (.seq #[] 0), #[]⟩)
 .nil .nil)) (.node (⟨(.type "tuple"), none, (.seq #[] 0), #[]⟩)
 (.node (fnO (stAt 40) (Str.ofString "notany_at") [] .none (.str (Str.ofString "snobol.primitives") 558) (.ref 333) .none)
 .nil .nil) (.node (⟨(.type "code"), none, (.fields #[(.str (Str.ofString "law") 857), (.str (Str.ofString "law") 858), (.str (Str.ofString "/claim/cut.py") 859), (.int 315 0), (.int 1 0), (.int 0 0), (.int 0 0), (.int 3 0), (.ref 459), (.bool true), (.int 181 0), (.ref 460), .none, .none, .none, (.ref 461), (.int 860 0), (.int 315 0), (.str (Str.ofString "/claim/cut.py") 861)]), #[]⟩)
 .nil .nil))) (.node (⟨(.type "tuple"), none, (.seq #[(.str (Str.ofString "self") 333), (.str (Str.ofString "tree") 334)] 0), #[]⟩)
 (.node (⟨(.type "tuple"), none, (.seq #[] 0), #[]⟩)
 (.node (⟨(.type "tuple"), none, (.seq #[(.str (Str.ofString "subject") 603), (.str (Str.ofString "at") 604), (.str (Str.ofString "place") 605)] 0), #[]⟩)
 .nil .nil) (.node (fnZ (stAt 56) (Str.ofString "steered") [] .none .none .none .none)
 .nil .nil)) (.node (⟨.none, none, (.fields #[]), #[]⟩)
 (.node (⟨(.type "tuple"), none, (.seq #[] 0), #[]⟩)
 .nil .nil) .nil))) (.node (⟨(.type "type"), none, (.cls ⟨(Str.ofString "SnobolError"), [(.type "Exception")], [(.ref 62), (.type "Exception"), (.type "BaseException"), (.type "object")], 61, (Str.ofString "SnobolError"), true, [], [], false, none, false⟩), #[(some (.ref 43)), none, (some (.str (Str.ofString "SnobolError") 235)), (some (.str (Str.ofString "SnobolError") 243)), (some (.builtin "Exception.__new__")), (some (.bool true))]⟩)
 (.node (⟨(.type "tuple"), none, (.seq #[(.str (Str.ofString "node") 309)] 0), #[]⟩)
 (.node (⟨.none, none, (.fields #[]), #[]⟩)
 (.node (⟨(.type "tuple"), none, (.seq #[] 0), #[]⟩)
 .nil .nil) (.node (⟨(.type "tuple"), none, (.seq #[(.str (Str.ofString "here") 773), (.str (Str.ofString "rest") 774), (.str (Str.ofString "at") 775), (.str (Str.ofString "named") 776), (.str (Str.ofString "pile") 777), (.str (Str.ofString "kind") 778)] 0), #[]⟩)
 .nil .nil)) (.node (⟨(.type "tuple"), none, (.seq #[(.str (Str.ofString "self") 482)] 0), #[]⟩)
 (.node (⟨.none, none, (.fields #[]), #[]⟩)
 .nil .nil) .nil)) (.node (⟨.none, none, (.fields #[(.int 36 0), (.int 4 0), (.ref 134)]), #[]⟩)
 (.node (⟨(.type "code"), none, (.fields #[(.str (Str.ofString "need_text") 430), (.str (Str.ofString "need_text") 431), (.str (Str.ofString "/claim/cut.py") 432), (.int 71 0), (.int 1 0), (.int 0 0), (.int 0 0), (.int 3 0), (.ref 185), (.bool true), (.int 181 0), (.ref 186), .none, (.ref 187), (.ref 188), (.ref 189), (.int 435 0), (.int 71 0), (.str (Str.ofString "/claim/cut.py") 436)]), #[]⟩)
 (.node (fnZ (stAt 38) (Str.ofString "rem_end") [] .none .none .none .none)
 .nil .nil) (.node (fnO (stAt 59) (Str.ofString "_law_now") [] .none (.str (Str.ofString "law_xm0938_01") 827) (.ref 445) .none)
 .nil .nil)) (.node (⟨(.type "tuple"), none, (.seq #[] 0), #[]⟩)
 (.node (⟨(.type "code"), none, (.fields #[(.str (Str.ofString "plain_end") 703), (.str (Str.ofString "plain_end") 704), (.str (Str.ofString "/claim/cut.py") 705), (.int 211 0), (.int 3 0), (.int 0 0), (.int 0 0), (.int 3 0), (.ref 377), (.bool true), (.int 181 0), (.ref 378), .none, (.ref 379), (.ref 380), (.ref 381), (.int 709 0), (.int 211 0), (.str (Str.ofString "/claim/cut.py") 710)]), #[]⟩)
 .nil .nil) .nil))))))))
noncomputable def obj12s : Obj := ⟨.none, none, .fields #[], #[]⟩
noncomputable def StH (t : Params → BT) (n k : Nat) (w : World) (os : OsState) : SharedT := ⟨t w.params, n, {}, Array.mk [], boot_drawn, k, os⟩
noncomputable def TH0 (P : Params) : BT := (((cutT 15 (TF P) 1 0).set 2 (fun _ => boot_o_2 P)).set 3 (fun _ => boot_o_3 P)).set 12 (fun _ => obj12s)
noncomputable def objB3x0 (P : Params) : Obj := ⟨(.type "dict"), none, (.dict #[⟨PyData.keyHash P (Str.ofString "__name__"), (.str (Str.ofString "__name__") 165), (.str (Str.ofString "snobol.values") 233)⟩, ⟨PyData.keyHash P (Str.ofString "__doc__"), (.str (Str.ofString "__doc__") 166), .none⟩, ⟨PyData.keyHash P (Str.ofString "__package__"), (.str (Str.ofString "__package__") 167), .none⟩, ⟨PyData.keyHash P (Str.ofString "__loader__"), (.str (Str.ofString "__loader__") 168), (.builtin "__main__.__loader__#opaque")⟩, ⟨PyData.keyHash P (Str.ofString "__spec__"), (.str (Str.ofString "__spec__") 169), .none⟩, ⟨PyData.keyHash P (Str.ofString "__annotations__"), (.str (Str.ofString "__annotations__") 170), (.ref 6)⟩, ⟨PyData.keyHash P (Str.ofString "__builtins__"), (.str (Str.ofString "__builtins__") 171), (.ref 4)⟩, ⟨PyData.keyHash P (Str.ofString "__file__"), (.str (Str.ofString "__file__") 173), (.str (Str.ofString "/claim/cut.py") 172)⟩, ⟨PyData.keyHash P (Str.ofString "__cached__"), (.str (Str.ofString "__cached__") 174), .none⟩, ⟨PyData.keyHash P (Str.ofString "give_names"), (.str (Str.ofString "give_names") 198), (.ref 21)⟩, ⟨PyData.keyHash P (Str.ofString "three_pieces"), (.str (Str.ofString "three_pieces") 206), (.ref 28)⟩, ⟨PyData.keyHash P (Str.ofString "spliced"), (.str (Str.ofString "spliced") 218), (.ref 35)⟩, ⟨PyData.keyHash P (Str.ofString "replace_once"), (.str (Str.ofString "replace_once") 232), (.ref 42)⟩, ⟨PyData.keyHash P (Str.ofString "SnobolError"), (.str (Str.ofString "SnobolError") 268), (.ref 62)⟩, ⟨PyData.keyHash P (Str.ofString "Failure"), (.str (Str.ofString "Failure") 288), (.ref 75)⟩, ⟨PyData.keyHash P (Str.ofString "Pattern"), (.str (Str.ofString "Pattern") 317), (.ref 96)⟩, ⟨PyData.keyHash P (Str.ofString "Delayed"), (.str (Str.ofString "Delayed") 346), (.ref 117)⟩, ⟨PyData.keyHash P (Str.ofString "NameRef"), (.str (Str.ofString "NameRef") 379), (.ref 138)⟩] 18), #[]⟩
noncomputable def objB12x0 : Obj := ⟨.none, none, (.fields #[(.int 2 0), (.int 0 0), (.ref 20), (.int 5 0), (.int 0 0), (.ref 27), (.int 7 0), (.int 0 0), (.ref 34), (.int 10 0), (.int 0 0), (.ref 41), (.int 18 0), (.int 0 0), (.ref 49), (.int 24 0), (.int 0 0), (.ref 71), (.int 26 0), (.int 0 0), (.ref 85), (.int 30 0), (.int 0 0), (.ref 106), (.int 34 0), (.int 0 0), (.ref 127)]), #[]⟩
noncomputable def TH1 (P : Params) : BT := (((cutT 143 (TF P) 1 0).set 3 (fun _ => objB3x0 P)).set 12 (fun _ => objB12x0))
noncomputable def objB3x1 (P : Params) : Obj := ⟨(.type "dict"), none, (.dict #[⟨PyData.keyHash P (Str.ofString "__name__"), (.str (Str.ofString "__name__") 165), (.str (Str.ofString "snobol.primitives") 558)⟩, ⟨PyData.keyHash P (Str.ofString "__doc__"), (.str (Str.ofString "__doc__") 166), .none⟩, ⟨PyData.keyHash P (Str.ofString "__package__"), (.str (Str.ofString "__package__") 167), .none⟩, ⟨PyData.keyHash P (Str.ofString "__loader__"), (.str (Str.ofString "__loader__") 168), (.builtin "__main__.__loader__#opaque")⟩, ⟨PyData.keyHash P (Str.ofString "__spec__"), (.str (Str.ofString "__spec__") 169), .none⟩, ⟨PyData.keyHash P (Str.ofString "__annotations__"), (.str (Str.ofString "__annotations__") 170), (.ref 6)⟩, ⟨PyData.keyHash P (Str.ofString "__builtins__"), (.str (Str.ofString "__builtins__") 171), (.ref 4)⟩, ⟨PyData.keyHash P (Str.ofString "__file__"), (.str (Str.ofString "__file__") 173), (.str (Str.ofString "/claim/cut.py") 172)⟩, ⟨PyData.keyHash P (Str.ofString "__cached__"), (.str (Str.ofString "__cached__") 174), .none⟩, ⟨PyData.keyHash P (Str.ofString "give_names"), (.str (Str.ofString "give_names") 198), (.ref 21)⟩, ⟨PyData.keyHash P (Str.ofString "three_pieces"), (.str (Str.ofString "three_pieces") 206), (.ref 28)⟩, ⟨PyData.keyHash P (Str.ofString "spliced"), (.str (Str.ofString "spliced") 218), (.ref 35)⟩, ⟨PyData.keyHash P (Str.ofString "replace_once"), (.str (Str.ofString "replace_once") 232), (.ref 42)⟩, ⟨PyData.keyHash P (Str.ofString "SnobolError"), (.str (Str.ofString "SnobolError") 268), (.ref 62)⟩, ⟨PyData.keyHash P (Str.ofString "Failure"), (.str (Str.ofString "Failure") 288), (.ref 75)⟩, ⟨PyData.keyHash P (Str.ofString "Pattern"), (.str (Str.ofString "Pattern") 317), (.ref 96)⟩, ⟨PyData.keyHash P (Str.ofString "Delayed"), (.str (Str.ofString "Delayed") 346), (.ref 117)⟩, ⟨PyData.keyHash P (Str.ofString "NameRef"), (.str (Str.ofString "NameRef") 379), (.ref 138)⟩, ⟨PyData.keyHash P (Str.ofString "is_fail"), (.str (Str.ofString "is_fail") 386), (.ref 149)⟩, ⟨PyData.keyHash P (Str.ofString "fits"), (.str (Str.ofString "fits") 394), (.ref 156)⟩, ⟨PyData.keyHash P (Str.ofString "whole_of_text"), (.str (Str.ofString "whole_of_text") 405), (.ref 163)⟩, ⟨PyData.keyHash P (Str.ofString "text_of_whole"), (.str (Str.ofString "text_of_whole") 414), (.ref 170)⟩, ⟨PyData.keyHash P (Str.ofString "to_whole"), (.str (Str.ofString "to_whole") 422), (.ref 177)⟩, ⟨PyData.keyHash P (Str.ofString "to_text"), (.str (Str.ofString "to_text") 429), (.ref 184)⟩, ⟨PyData.keyHash P (Str.ofString "need_text"), (.str (Str.ofString "need_text") 437), (.ref 191)⟩, ⟨PyData.keyHash P (Str.ofString "PlainHost"), (.str (Str.ofString "PlainHost") 499), (.ref 229)⟩, ⟨PyData.keyHash P (Str.ofString "COUNTED"), (.str (Str.ofString "COUNTED") 507), (.ref 234)⟩, ⟨PyData.keyHash P (Str.ofString "SIGNED"), (.str (Str.ofString "SIGNED") 512), (.ref 235)⟩, ⟨PyData.keyHash P (Str.ofString "WIDTH_OF_COUNT"), (.str (Str.ofString "WIDTH_OF_COUNT") 514), (.int 64 513)⟩, ⟨PyData.keyHash P (Str.ofString "plain_count"), (.str (Str.ofString "plain_count") 524), (.ref 243)⟩, ⟨PyData.keyHash P (Str.ofString "plain_signs"), (.str (Str.ofString "plain_signs") 533), (.ref 250)⟩, ⟨PyData.keyHash P (Str.ofString "pattern_of"), (.str (Str.ofString "pattern_of") 541), (.ref 257)⟩, ⟨PyData.keyHash P (Str.ofString "is_delayed"), (.str (Str.ofString "is_delayed") 548), (.ref 264)⟩, ⟨PyData.keyHash P (Str.ofString "settled"), (.str (Str.ofString "settled") 557), (.ref 271)⟩, ⟨PyData.keyHash P (Str.ofString "OPENING"), (.str (Str.ofString "OPENING") 561), (.str (Str.ofString "(") 560)⟩, ⟨PyData.keyHash P (Str.ofString "CLOSING"), (.str (Str.ofString "CLOSING") 563), (.str (Str.ofString ")") 562)⟩] 36), #[]⟩
noncomputable def objB12x1 : Obj := ⟨.none, none, (.fields (List.toArray ((.int 2 0) :: (.int 0 0) :: (.ref 20) :: (.int 5 0) :: (.int 0 0) :: (.ref 27) :: (.int 7 0) :: (.int 0 0) :: (.ref 34) :: (.int 10 0) :: (.int 0 0) :: (.ref 41) :: (.int 18 0) :: (.int 0 0) :: (.ref 49) :: (.int 24 0) :: (.int 0 0) :: (.ref 71) :: (.int 26 0) :: (.int 0 0) :: (.ref 85) :: (.int 30 0) :: (.int 0 0) :: (.ref 106) :: (.int 34 0) :: (.int 0 0) :: (.ref 127) :: (.int 40 0) :: (.int 0 0) :: (.ref 148) :: (.int 42 0) :: (.int 0 0) :: (.ref 155) :: (.int 44 0) :: (.int 0 0) :: (.ref 162) :: (.int 57 0) :: (.int 0 0) :: (.ref 169) :: (.int 63 0) :: (.int 0 0) :: (.ref 176) :: (.int 67 0) :: (.int 0 0) :: (.ref 183) :: (.int 71 0) :: (.int 0 0) :: (.ref 190) :: (.int 77 0) :: (.int 0 0) :: (.ref 197) :: (.int 107 0) :: (.int 0 0) :: (.ref 242) :: (.int 114 0) :: (.int 0 0) :: (.ref 249) :: (.int 119 0) :: (.int 0 0) :: (.ref 256) :: (.int 128 0) :: (.int 0 0) :: (.ref 263) :: (.int 130 0) :: (.int 0 0) :: (.ref 270) :: []))), #[]⟩
noncomputable def TH2 (P : Params) : BT := (((cutT 272 (TF P) 1 0).set 3 (fun _ => objB3x1 P)).set 12 (fun _ => objB12x1))
noncomputable def TH3 (P : Params) : BT := (TF P)
noncomputable abbrev zH : Pos := ⟨0, 0, 0, 0⟩
noncomputable abbrev bodyH : List Stmt := behindTheImports Challenge.pw_xm0938_01
noncomputable def envH : Env := { scope := Challenge.pw_xm0938_01.main.scope, locals := mainNs, globals := mainNs, cells := [], code := .ref 13, frame := some 14 }
noncomputable def codeH : Code := .body bodyH envH
theorem seg1 (w : World) (os : OsState) : segRunT treeTable Challenge.pw_xm0938_01 w 11 (some (.ref 6)) 1 1259 (StH TH0 15 187 w os) (piecesOf ((bodyH.drop 0).take 11) envH codeH zH [topFrame zH]) = some (.next, (StH TH1 143 380 w os), codeH, ⟨34, 0, 39, 22⟩) := by
  rewrite [PySem.W.Fast.te14364793385576792824]
  kernel_rfl
theorem seg2 (w : World) (os : OsState) : segRunT treeTable Challenge.pw_xm0938_01 w 11 (some (.ref 6)) 1 777 (StH TH1 143 380 w os) (piecesOf ((bodyH.drop 11).take 21) envH codeH ⟨34, 0, 39, 22⟩ [topFrame zH]) = some (.next, (StH TH2 272 564 w os), codeH, ⟨141, 0, 141, 7⟩) := by
  rewrite [PySem.W.Fast.te14364793385576792824]
  kernel_rfl
theorem seg3 (w : World) (os : OsState) : segRunT treeTable Challenge.pw_xm0938_01 w 11 (some (.ref 6)) 1 933 (StH TH2 272 564 w os) (piecesOf (bodyH.drop 32) envH codeH ⟨141, 0, 141, 7⟩ [topFrame zH]) = some (.next, (StH TH3 464 863 w os), codeH, ⟨315, 0, 342, 15⟩) := by
  rewrite [PySem.W.Fast.te14364793385576792824]
  kernel_rfl
end
section
noncomputable def H1 (P : Params) : Heap := ⟨⟨objsL P⟩, {}⟩
noncomputable abbrev SH1 (w : World) (os : OsState) : Shared := ⟨H1 w.params, Array.mk [], boot_drawn, 863, os⟩
theorem preH (w : World) (os : OsState) : topGo treeTable Challenge.pw_xm0938_01 w 11 (some (.ref 6)) 12 ⟨boot_heap w.params, Array.mk [], boot_drawn, boot_toks, os⟩ (topStub Challenge.pw_xm0938_01) = some ((StH TH0 15 187 w os).abs, ⟨denote treeTable (.body bodyH envH), .body bodyH envH, zH, [topFrame zH]⟩) := by
  rewrite [PySem.W.Fast.te14364793385576792824]
  kernel_rfl
theorem blkH (w : World) (os : OsState) : segRun treeTable Challenge.pw_xm0938_01 w 11 (some (.ref 6)) 1 1 (StH TH0 15 187 w os).abs (blockOf bodyH envH codeH zH [topFrame zH]) = some (.next, (StH TH0 15 187 w os).abs, codeH, zH) := by
  kernel_rfl
theorem finH (w : World) (os : OsState) : topRun treeTable Challenge.pw_xm0938_01 w 11 (some (.ref 6)) 2 (StH TH3 464 863 w os).abs ⟨doneF .next, codeH, ⟨315, 0, 342, 15⟩, [topFrame zH]⟩ = some (SH1 w os) := by
  kernel_rfl
theorem cut_at {α : Type} (l : List α) (a b : Nat) : l.drop a = (l.drop a).take b ++ l.drop (a + b) := by
  rw [← List.drop_drop, List.take_append_drop]
theorem body_cut : bodyH = ((bodyH.drop 0).take 11 ++ ((bodyH.drop 11).take 21 ++ (bodyH.drop 32 ++ []))) := by
  rw [List.append_nil]
  exact (List.drop_zero.symm.trans <| (cut_at bodyH 0 11).trans <| congrArg _ <| ((cut_at bodyH 11 21).trans <| congrArg _ <| rfl))
theorem runH (w : World) (os : OsState) : topRun treeTable Challenge.pw_xm0938_01 w 11 (some (.ref 6)) (12 + (1 + (1259 + (777 + (933 + 2))))) ⟨boot_heap w.params, Array.mk [], boot_drawn, boot_toks, os⟩ (topStub Challenge.pw_xm0938_01) = some (SH1 w os) := by
  refine go_top (preH w os) (piece_block (blkH w os) ?_)
  rw [body_cut]
  exact (piece_app (segRun_of (seg1 w os)) (piece_app (segRun_of (seg2 w os)) (piece_app (segRun_of (seg3 w os)) (piece_nil (finH w os)))))
end
section
noncomputable abbrev XtK : Shared → Bool := fun s => xlAt vw [] s && recOk (RowW.records Challenge.rw_xm0938_01.row.toRowW) s
noncomputable abbrev seenH (w : World) (os : OsState) := openSeen vw loose (importedModules Challenge.pw_xm0938_01.main.body) (fun s => xlAt vw [] s && recOk (RowW.records Challenge.rw_xm0938_01.row.toRowW) s) true (SH1 w os)
theorem lookS1 (w : World) (os : OsState) : (seenH w os).1 = (openGood vw loose).1 := by
  delta seenH
  rewrite [PySem.W.Fast.te4187177175401517315, PySem.W.Fast.te5923862056798008813, PySem.W.Fast.te2368527892694137696]
  delta openGood
  (try dsimp only)
  (try rewrite [PySem.W.Fast.te3247288618530077131])
  (try rewrite [PySem.W.Fast.te821141287760084731])
  kernel_rfl
theorem lookS2 (w : World) (os : OsState) : (seenH w os).2.1 = (openGood vw loose).2.1 := by
  delta seenH
  rewrite [PySem.W.Fast.te4187177175401517315, PySem.W.Fast.te5923862056798008813, PySem.W.Fast.te2368527892694137696]
  delta openGood
  (try dsimp only)
  (try rewrite [PySem.W.Fast.te3247288618530077131])
  (try rewrite [PySem.W.Fast.te821141287760084731])
  kernel_rfl
theorem lookS3 (w : World) (os : OsState) : (seenH w os).2.2.1 = (openGood vw loose).2.2.1 := by
  delta seenH
  rewrite [PySem.W.Fast.te4187177175401517315, PySem.W.Fast.te5923862056798008813, PySem.W.Fast.te2368527892694137696]
  delta openGood
  (try dsimp only)
  (try rewrite [PySem.W.Fast.te3247288618530077131])
  (try rewrite [PySem.W.Fast.te821141287760084731])
  kernel_rfl
theorem lookS4 (w : World) (os : OsState) : (seenH w os).2.2.2.1 = (openGood vw loose).2.2.2.1 := by
  delta seenH
  rewrite [PySem.W.Fast.te4187177175401517315, PySem.W.Fast.te5923862056798008813, PySem.W.Fast.te2368527892694137696]
  delta openGood
  (try dsimp only)
  (try rewrite [PySem.W.Fast.te3247288618530077131])
  (try rewrite [PySem.W.Fast.te821141287760084731])
  kernel_rfl
theorem lookS5 (w : World) (os : OsState) : (seenH w os).2.2.2.2.1 = (openGood vw loose).2.2.2.2.1 := by
  delta seenH
  rewrite [PySem.W.Fast.te4187177175401517315, PySem.W.Fast.te5923862056798008813, PySem.W.Fast.te2368527892694137696]
  delta openGood
  (try dsimp only)
  (try rewrite [PySem.W.Fast.te3247288618530077131])
  (try rewrite [PySem.W.Fast.te821141287760084731])
  kernel_rfl
theorem lookS6 (w : World) (os : OsState) : (seenH w os).2.2.2.2.2.1 = (openGood vw loose).2.2.2.2.2.1 := by
  delta seenH
  rewrite [PySem.W.Fast.te4187177175401517315, PySem.W.Fast.te5923862056798008813, PySem.W.Fast.te2368527892694137696]
  delta openGood
  (try dsimp only)
  (try rewrite [PySem.W.Fast.te3247288618530077131])
  (try rewrite [PySem.W.Fast.te821141287760084731])
  kernel_rfl
theorem lookS7 (w : World) (os : OsState) : (seenH w os).2.2.2.2.2.2.1 = (openGood vw loose).2.2.2.2.2.2.1 := by
  delta seenH
  rewrite [PySem.W.Fast.te4187177175401517315, PySem.W.Fast.te5923862056798008813, PySem.W.Fast.te2368527892694137696]
  delta openGood
  (try dsimp only)
  (try rewrite [PySem.W.Fast.te3247288618530077131])
  (try rewrite [PySem.W.Fast.te821141287760084731])
  kernel_rfl
theorem lookS8 (w : World) (os : OsState) : (seenH w os).2.2.2.2.2.2.2.1 = (openGood vw loose).2.2.2.2.2.2.2.1 := by
  delta seenH
  rewrite [PySem.W.Fast.te4187177175401517315, PySem.W.Fast.te5923862056798008813, PySem.W.Fast.te2368527892694137696]
  delta openGood
  (try dsimp only)
  (try rewrite [PySem.W.Fast.te3247288618530077131])
  (try rewrite [PySem.W.Fast.te821141287760084731])
  kernel_rfl
theorem lookS9 (w : World) (os : OsState) : (seenH w os).2.2.2.2.2.2.2.2 = (openGood vw loose).2.2.2.2.2.2.2.2 := by
  delta seenH
  rewrite [PySem.W.Fast.te4187177175401517315, PySem.W.Fast.te5923862056798008813, PySem.W.Fast.te2368527892694137696]
  delta openGood
  (try dsimp only)
  (try rewrite [PySem.W.Fast.te3247288618530077131])
  (try rewrite [PySem.W.Fast.te821141287760084731])
  kernel_rfl
theorem look1 (w : World) (os : OsState) : seenH w os = openGood vw loose := (Prod.ext (lookS1 w os) (Prod.ext (lookS2 w os) (Prod.ext (lookS3 w os) (Prod.ext (lookS4 w os) (Prod.ext (lookS5 w os) (Prod.ext (lookS6 w os) (Prod.ext (lookS7 w os) (Prod.ext (lookS8 w os) (lookS9 w os)))))))))
theorem look2 (w : World) : ((asK.map (H1 w.params).get?, ([448] : List Addr).map (H1 w.params).get?) : List (Option Obj) × List (Option Obj)) = ((K w.params).map fun p => some p.2, ([448] : List Addr).map fun _ => some (tabObj #[])) := by
  kernel_rfl
end
section
theorem look0 (w : World) : (fun os => (staticsOk (importedModules Challenge.pw_xm0938_01.main.body) (boot_heap w.params) (H1 w.params) && namesBound Challenge.pw_xm0938_01 (H1 w.params) && gensDone (SH1 w os) && laidKept (boot_heap w.params) (H1 w.params))) = fun _ => true := by
  rewrite [PySem.W.Fast.te5923862056798008813]
  kernel_rfl
theorem size_K (w : World) : ((boot_heap w.params).isNs mainGlobals && (Array.mk [] : Array GenState).size == 0, (boot_heap w.params).objs.size, (boot_heap w.params).nsMap mainGlobals "__annotations__") = (true, 11, some (.ref 6)) := by
  kernel_rfl
theorem left_K : LeftO Challenge.pw_xm0938_01 vw loose XtK (kmHook K asK asK_e [448]).obs (kmHook K asK asK_e [448]).val 6058 true :=
  LeftO.of_pieces (fun w => boot_open open_e (by rfl) open_f w) size_K runH (by rfl) fun w => funext fun os => Prod.ext (congrFun (look0 w) os) (Prod.ext (look1 w os) (look2 w))
theorem law_said : Challenge.rw_xm0938_01.wellSaid = true := by
  rewrite [PySem.W.Fast.te9446332074065402090]
  delta PySem.W.Fast.tw9446332074065402090 PySem.W.Fast.tw17960256430627541270 PySem.W.Fast.tw2436336058641802641 PySem.W.Fast.tw12908688711261696721
  repeat' with_reducible refine look_both ?_ ?_
  all_goals (as_aux_lemma => kernel_rfl)
noncomputable def lawRec : DefRec := by
  apply (?f : ∀ k : DefRec, (match defOf vw (Str.ofString "law") with | some (d, _) => d | none => ⟨Str.empty, default, [], default, default⟩) = k → DefRec)
  case' f => exact fun k _ => k
  conv => lhs; whnf
theorem hd (walk : WalkO vw loose (XL vw []) (kmHook K asK asK_e [448]).says Challenge.rw_xm0938_01.row.toRowW lawRec [] fun f vs => PySem.call f vs) : Challenge.rw_xm0938_01.Holds := by
  refine holds_law law_said fun said => ?_
  refine holds_open (q := vw) (loose := loose) (Xt := XtK) (XP := XL vw []) (Yf := (kmHook K asK asK_e [448]).obs) (Ya := (kmHook K asK asK_e [448]).val) (YP := (kmHook K asK asK_e [448]).says) (N := 6058) left_K (kmHook K asK asK_e [448]).of (kmHook K asK asK_e [448]).keeps (fun s e => xl_of s (Bool.and_eq_true_iff.mp e).1) XL.keeps (by kernel_rfl) (by kernel_rfl) (by kernel_rfl) (fun s e => recFacts_of (Bool.and_eq_true_iff.mp e).2) (by rfl) said (by kernel_rfl) ⟨rfl, rfl, rfl, rfl, rfl, by decide +kernel⟩ ?hw walk
  w_witness2
end
section
noncomputable abbrev loose0 : List Str := looseW vw [Str.ofString "SnobolError", Str.ofString "plain_count"] ++
          List.map (fun x => x.name) (recsOf vw) ++
        List.map (fun x => x.fst) (litsOf vw) ++
      List.map (fun x => x.name)
        (clssOf vw (looseW vw [Str.ofString "SnobolError", Str.ofString "plain_count"]))
noncomputable abbrev en (w : World) (x : String) (t : Tok) (v : Value) : DictEntry := ⟨PyData.keyHash w.params (Str.ofString x), .str (Str.ofString x) t, v⟩
noncomputable abbrev hostD (w : World) (t1 t2 t3 t4 t5 t6 : Tok) (vd rl ll : Addr) (lim wid n : Int) (tl tw tn : Tok) : Obj :=
  dictOf [en w "values" t1 (.ref vd), en w "limit" t2 (.int lim tl), en w "refused" t3 (.ref rl), en w "width" t4 (.int wid tw), en w "steps" t5 (.int n tn), en w "log" t6 (.ref ll)] 6
noncomputable abbrev tup (vs : List Value) : Obj := { cls := .type "tuple", data := .seq vs.toArray }
noncomputable abbrev refD (w : World) (t1 t2 t3 : Tok) (k : Str) (tk tv : Tok) : Obj :=
  dictOf [en w "kind" t1 (.str (Str.ofString "var") tv), en w "owner" t2 .none, en w "key" t3 (.str k tk)] 3
theorem sub_keep {α : Type} {a : α} {l l' : List α} (h : ∀ p ∈ l, p ∈ l') : ∀ p ∈ a :: l, p ∈ a :: l' := fun p hp => by
  rcases List.mem_cons.mp hp with rfl | hp
  · exact List.mem_cons_self
  · exact List.mem_cons_of_mem _ (h p hp)
theorem sub_skip {α : Type} {b : α} {l l' : List α} (h : ∀ p ∈ l, p ∈ l') : ∀ p ∈ l, p ∈ b :: l' := fun p hp => List.mem_cons_of_mem _ (h p hp)
end
section
local macro_rules | `(tactic| k_room) => `(tactic| ktr_room)
local macro_rules | `(tactic| k_all) => `(tactic| with_reducible assumption)
local macro_rules | `(tactic| k_mem) => `(tactic| first | with_reducible assumption | (with_reducible exact List.mem_cons_self) | (refine' List.mem_cons_of_mem _ ?_; k_mem))
local macro_rules | `(tactic| walk_at "subscriptTail") => `(tactic| (k_here; (with_reducible show wpAny _ _ (subscriptTail _ _ (Value.ref _) (Value.int _ _)) _ _ _); k_dflt (refine' item_tupleT ?t ?a ?b ?c ?d ?_; (case t => exact News.isTup (by k_asm) (by k_mem)); (case a => decide); (case b => decide); (case c => rfl); (case d => rfl); k_whole)))
local macro_rules | `(tactic| walk_at "compareOp In str ref") => `(tactic| (k_here; (with_reducible show wpAny _ _ (compareOp CmpOp.In (Value.str _ _) (Value.ref _)) _ _ _); (with_unfolding_all refine' in_list_strs ?k1 ?k2 ?_; (case k1 => exact News.isList (by k_asm) (by k_mem)); (case k2 => kde_strs); k_whole)))
theorem in_nil {prog : Program} {w : World} {A : Around} {E : Value → Shared → Prop} {s : Shared} {l : Addr} {k : Str} {t : Tok} {Q : Value → Shared → Prop} (hl : s.heap.IsList l #[]) (h : Q (.bool false) s) : wpAny (model prog w) A (compareOp .In (.str k t) (.ref l)) Q E s :=
  in_list_strs (vs := []) (ys := []) hl .nil h
local macro_rules | `(tactic| walk_at "compareOp In str ref") => `(tactic| (k_here; (with_reducible show wpAny _ _ (compareOp CmpOp.In (Value.str _ _) (Value.ref _)) _ _ _); (with_unfolding_all refine' in_nil ?k1 ?_; (case k1 => exact News.isList (by k_asm) (by k_mem)); k_whole)))
theorem small_of {D : List (PyData × PyData)} {n : Nat} (h : LenLe D n) (hn : n ≤ 10000) : D.length ≤ sizeLine := Nat.le_trans h (Nat.le_trans hn (by decide))
local macro_rules | `(tactic| walk_at "setItem ref str") => `(tactic| (k_here; k_dflt (refine' setItem_K PyProof.V.same_str (strKind_is _ _ _ _) ?v ?F ?N ?U ?d ?f ?_ ?z; (case F => k_asm); (case N => k_asm); (case U => k_updF); (case d => k_asm); (case f => k_asm); (case z => exact small_of (by assumption) (by assumption)); (case v => k_flat)); intro h' o' F' N' hd' hf'; (try dsimp only at N'); (try k_sweep)))
local macro_rules | `(tactic| walk_at "compareOp NotIn str ref") => `(tactic| (k_here; (with_reducible show wpAny _ _ (compareOp CmpOp.NotIn (Value.str _ _) (Value.ref _)) _ _ _); (with_unfolding_all refine' notin_tuple_strs ?k1 ?k2 ?_; (case k1 => exact tupK (Frag.In.keeps (by k_asm) (Fr.keep (by k_asm))) (by k_is)); (case k2 => kde_strs); k_whole)))
theorem step_c {w : World} {mean : ExcName → Option Value} {mg mb : Str → Option Value} (dp un : Nat) (gd : Option (List Code)) (cn : Str) (cs : Scope) (a : Addr) (ccd : Value) (cl : List (Str × Addr)) (outer : List Env) (A₀ : Around) (base h₀ : Heap) (L : Addr) (m : Str → Option Value) (s : Shared) (Q E : Value → Shared → Prop)
   (x : Addr) (dx vd rl ll : Addr) (t1 t2 t3 t4 t5 t6 tl tw tn : Tok) (lim wid n : Int) (news : List (Addr × Obj)) (h5 : (x, instObj 229 dx) ∈ news) (hdx : ∀ p ∈ news, p.1 ≠ dx) (hn : 0 ≤ n) (hlim : n + 1 ≤ lim) :
   Below A₀ base outer h₀ → Fr h₀ L s.heap m → (K w.params).In h₀ → News h₀ L s.heap ((dx, hostD w t1 t2 t3 t4 t5 t6 vd rl ll lim wid n tl tw tn) :: news) → Top topProg loose0 mean mg mb h₀ → cs.kind = .function →
   dp + 2 < recursionLimit → un + 16 < cLine →
   (∀ tn' h' tk', Fr h₀ L h' m → News h₀ L h' ((dx, hostD w t1 t2 t3 t4 t5 t6 vd rl ll lim wid (n + 1) tl tw tn') :: news) → Q (.none) { s with heap := h', toks := tk' }) →
   wpAny (model Challenge.rw_xm0938_01.row.prog w) (ktrTop dp un gd cn cs L a ccd cl outer) (call (.ref 226) [.ref x]) Q E s := by
  k_fill
  intro B F X N T hk hdp hu hret
  refine wpAny_call ?_
  k_dflt ktr_enter
  k_steps
  all_goals first
    | (apply hret
       · k_asm
       · exact cb_drop (by assumption) (by repeat (first | exact fun _ h => h | refine sub_keep ?_ | refine sub_skip ?_)))
    | trace_state
  all_goals done
theorem adv_cat {w : World} {mean : ExcName → Option Value} {mg mb : Str → Option Value} (dp un : Nat) (gd : Option (List Code)) (cn : Str) (cs : Scope) (a : Addr) (ccd : Value) (cl : List (Str × Addr)) (outer : List Env) (A₀ : Around) (base h₀ : Heap) (L : Addr) (m : Str → Option Value) (s : Shared) (Q E : Value → Shared → Prop)
   (c here : Addr) (rest : Value) (at' : Int) (tk ta ts : Tok) (S : Str) (pl x z : Addr) (news : List (Addr × Obj)) (v1 v2 : Value) (h1 : (c, tup [.ref here, rest]) ∈ news) (h2 : (here, tup [.str (Str.ofString "cat") tk, v1, v2]) ∈ news) (ue0 : True) (ue1 : True) (ue2 : True) (ue3 : True) (ue4 : True) :
   Below A₀ base outer h₀ → Fr h₀ L s.heap m → (K w.params).In h₀ → News h₀ L s.heap (news) → Top topProg loose0 mean mg mb h₀ → cs.kind = .function →
   dp + 3 < recursionLimit → un + 24 < cLine →
   (∀ q c1 c2 h' tk', Fr h₀ L h' m → News h₀ L h' ((q, tup [.ref c1, .int at' ta, .ref z]) :: (c1, tup [v1, .ref c2]) :: (c2, tup [v2, rest]) :: news) → Q (.ref q) { s with heap := h', toks := tk' }) →
   wpAny (model Challenge.rw_xm0938_01.row.prog w) (ktrTop dp un gd cn cs L a ccd cl outer) (call (.ref 411) [.ref c, .int at' ta, .ref z, .str S ts, .ref pl, .ref x]) Q E s := by
  k_fill
  intro B F X N T hk hdp hu hret
  refine wpAny_call ?_
  k_dflt ktr_enter
  k_steps
  all_goals first
    | (apply hret
       · k_asm
       · exact cb_drop (by assumption) (by repeat (first | exact fun _ h => h | refine sub_keep ?_ | refine sub_skip ?_)))
    | trace_state
  all_goals done
theorem adv_now {w : World} {mean : ExcName → Option Value} {mg mb : Str → Option Value} (dp un : Nat) (gd : Option (List Code)) (cn : Str) (cs : Scope) (a : Addr) (ccd : Value) (cl : List (Str × Addr)) (outer : List Env) (A₀ : Around) (base h₀ : Heap) (L : Addr) (m : Str → Option Value) (s : Shared) (Q E : Value → Shared → Prop)
   (c here : Addr) (rest : Value) (at' : Int) (tk ta ts : Tok) (S : Str) (pl x z : Addr) (news : List (Addr × Obj)) (v1 : Value) (r : Addr) (h1 : (c, tup [.ref here, rest]) ∈ news) (h2 : (here, tup [.str (Str.ofString "now") tk, v1, .ref r]) ∈ news) (ue0 : True) (ue1 : True) (ue2 : True) (ue3 : True) (ue4 : True) :
   Below A₀ base outer h₀ → Fr h₀ L s.heap m → (K w.params).In h₀ → News h₀ L s.heap (news) → Top topProg loose0 mean mg mb h₀ → cs.kind = .function →
   dp + 3 < recursionLimit → un + 24 < cLine →
   (∀ q c1 c2 e te h' tk', Fr h₀ L h' m → News h₀ L h' ((q, tup [.ref c1, .int at' ta, .ref z]) :: (c1, tup [v1, .ref c2]) :: (c2, tup [.ref e, rest]) :: (e, tup [.str (Str.ofString "end now") te, .ref r, .int at' ta]) :: news) → Q (.ref q) { s with heap := h', toks := tk' }) →
   wpAny (model Challenge.rw_xm0938_01.row.prog w) (ktrTop dp un gd cn cs L a ccd cl outer) (call (.ref 411) [.ref c, .int at' ta, .ref z, .str S ts, .ref pl, .ref x]) Q E s := by
  k_fill
  intro B F X N T hk hdp hu hret
  refine wpAny_call ?_
  k_dflt ktr_enter
  k_steps
  all_goals first
    | (apply hret
       · k_asm
       · exact cb_drop (by assumption) (by repeat (first | exact fun _ h => h | refine sub_keep ?_ | refine sub_skip ?_)))
    | trace_state
  all_goals done
theorem adv_rem {w : World} {mean : ExcName → Option Value} {mg mb : Str → Option Value} (dp un : Nat) (gd : Option (List Code)) (cn : Str) (cs : Scope) (a : Addr) (ccd : Value) (cl : List (Str × Addr)) (outer : List Env) (A₀ : Around) (base h₀ : Heap) (L : Addr) (m : Str → Option Value) (s : Shared) (Q E : Value → Shared → Prop)
   (c here : Addr) (rest : Value) (at' : Int) (tk ta ts : Tok) (S : Str) (pl x z : Addr) (news : List (Addr × Obj)) (up utp : Nat) (h1 : (c, tup [.ref here, rest]) ∈ news) (h2 : (here, tup [.str (Str.ofString "rem") tk]) ∈ news) (ue0 : True) (ue1 : True) (ue2 : True) (ue3 : True) (hp3 : S.length ≤ 100) :
   Below A₀ base outer h₀ → Fr h₀ L s.heap m → (K w.params).In h₀ → News h₀ L s.heap (news) → Top topProg loose0 mean mg mb h₀ → cs.kind = .function →
   dp + 6 < recursionLimit → un + 48 < cLine →
   (∀ q te h' tk', Fr h₀ L h' m → News h₀ L h' ((q, tup [rest, .int (S.length : Int) te, .ref z]) :: news) → Q (.ref q) { s with heap := h', toks := tk' }) →
   wpAny (model Challenge.rw_xm0938_01.row.prog w) (ktrTop dp un gd cn cs L a ccd cl outer) (call (.ref 411) [.ref c, .int at' ta, .ref z, .str S ts, .ref pl, .ref x]) Q E s := by
  k_fill
  intro B F X N T hk hdp hu hret
  refine wpAny_call ?_
  k_dflt ktr_enter
  k_steps
  all_goals first
    | (apply hret
       · k_asm
       · exact cb_drop (by assumption) (by repeat (first | exact fun _ h => h | refine sub_keep ?_ | refine sub_skip ?_)))
    | trace_state
  all_goals done
theorem adv_tab {w : World} {mean : ExcName → Option Value} {mg mb : Str → Option Value} (dp un : Nat) (gd : Option (List Code)) (cn : Str) (cs : Scope) (a : Addr) (ccd : Value) (cl : List (Str × Addr)) (outer : List Env) (A₀ : Around) (base h₀ : Heap) (L : Addr) (m : Str → Option Value) (s : Shared) (Q E : Value → Shared → Prop)
   (c here : Addr) (rest : Value) (at' : Int) (tk ta ts : Tok) (S : Str) (pl x z : Addr) (news : List (Addr × Obj)) (p : Int) (tp : Tok) (h1 : (c, tup [.ref here, rest]) ∈ news) (h2 : (here, tup [.str (Str.ofString "tab") tk, .int p tp]) ∈ news) (hp0 : 0 ≤ at') (hp1 : at' ≤ p) (hp2 : p ≤ (S.length : Int)) (ue0 : True) (hp3 : S.length ≤ 100) :
   Below A₀ base outer h₀ → Fr h₀ L s.heap m → (K w.params).In h₀ → News h₀ L s.heap (news) → Top topProg loose0 mean mg mb h₀ → cs.kind = .function →
   dp + 7 < recursionLimit → un + 56 < cLine →
   (∀ q te h' tk', Fr h₀ L h' m → News h₀ L h' ((q, tup [rest, .int p te, .ref z]) :: news) → Q (.ref q) { s with heap := h', toks := tk' }) →
   wpAny (model Challenge.rw_xm0938_01.row.prog w) (ktrTop dp un gd cn cs L a ccd cl outer) (call (.ref 411) [.ref c, .int at' ta, .ref z, .str S ts, .ref pl, .ref x]) Q E s := by
  k_fill
  intro B F X N T hk hdp hu hret
  refine wpAny_call ?_
  k_dflt ktr_enter
  k_steps
  all_goals first
    | (apply hret
       · k_asm
       · exact cb_drop (by assumption) (by repeat (first | exact fun _ h => h | refine sub_keep ?_ | refine sub_skip ?_)))
    | trace_state
  all_goals done
theorem adv_len {w : World} {mean : ExcName → Option Value} {mg mb : Str → Option Value} (dp un : Nat) (gd : Option (List Code)) (cn : Str) (cs : Scope) (a : Addr) (ccd : Value) (cl : List (Str × Addr)) (outer : List Env) (A₀ : Around) (base h₀ : Heap) (L : Addr) (m : Str → Option Value) (s : Shared) (Q E : Value → Shared → Prop)
   (c here : Addr) (rest : Value) (at' : Int) (tk ta ts : Tok) (S : Str) (pl x z : Addr) (news : List (Addr × Obj)) (p : Int) (tp : Tok) (h1 : (c, tup [.ref here, rest]) ∈ news) (h2 : (here, tup [.str (Str.ofString "len") tk, .int p tp]) ∈ news) (hp0 : 0 ≤ at') (hp1 : 0 ≤ p) (hp2 : at' + p ≤ (S.length : Int)) (ue0 : True) (hp3 : S.length ≤ 100) :
   Below A₀ base outer h₀ → Fr h₀ L s.heap m → (K w.params).In h₀ → News h₀ L s.heap (news) → Top topProg loose0 mean mg mb h₀ → cs.kind = .function →
   dp + 7 < recursionLimit → un + 56 < cLine →
   (∀ q te h' tk', Fr h₀ L h' m → News h₀ L h' ((q, tup [rest, .int (at' + p) te, .ref z]) :: news) → Q (.ref q) { s with heap := h', toks := tk' }) →
   wpAny (model Challenge.rw_xm0938_01.row.prog w) (ktrTop dp un gd cn cs L a ccd cl outer) (call (.ref 411) [.ref c, .int at' ta, .ref z, .str S ts, .ref pl, .ref x]) Q E s := by
  k_fill
  intro B F X N T hk hdp hu hret
  refine wpAny_call ?_
  k_dflt ktr_enter
  k_steps
  all_goals first
    | (apply hret
       · k_asm
       · exact cb_drop (by assumption) (by repeat (first | exact fun _ h => h | refine sub_keep ?_ | refine sub_skip ?_)))
    | trace_state
  all_goals done
theorem adv_chars {w : World} {mean : ExcName → Option Value} {mg mb : Str → Option Value} (dp un : Nat) (gd : Option (List Code)) (cn : Str) (cs : Scope) (a : Addr) (ccd : Value) (cl : List (Str × Addr)) (outer : List Env) (A₀ : Around) (base h₀ : Heap) (L : Addr) (m : Str → Option Value) (s : Shared) (Q E : Value → Shared → Prop)
   (c here : Addr) (rest : Value) (at' : Int) (tk ta ts : Tok) (S : Str) (pl x z : Addr) (news : List (Addr × Obj)) (x1 : Str) (tp : Tok) (h1 : (c, tup [.ref here, rest]) ∈ news) (h2 : (here, tup [.str (Str.ofString "chars") tk, .str x1 tp]) ∈ news) (hp0 : 0 ≤ at') (hp1 : x1.length = 1) (hp2 : at' ≤ (S.length : Int)) (ue0 : True) (hp3 : S.length ≤ 100) :
   Below A₀ base outer h₀ → Fr h₀ L s.heap m → (K w.params).In h₀ → News h₀ L s.heap (news) → Top topProg loose0 mean mg mb h₀ → cs.kind = .function →
   dp + 7 < recursionLimit → un + 56 < cLine →
   (((Txt.slice S (some at') (some (at' + ↑x1.length)) == x1) = true → ∀ q te h' tk', Fr h₀ L h' m → News h₀ L h' ((q, tup [rest, .int (at' + ↑x1.length) te, .ref z]) :: news) → Q (.ref q) { s with heap := h', toks := tk' }) ∧ ((Txt.slice S (some at') (some (at' + ↑x1.length)) == x1) = false → ∀ h' tk', Fr h₀ L h' m → News h₀ L h' (news) → Q (.none) { s with heap := h', toks := tk' })) →
   wpAny (model Challenge.rw_xm0938_01.row.prog w) (ktrTop dp un gd cn cs L a ccd cl outer) (call (.ref 411) [.ref c, .int at' ta, .ref z, .str S ts, .ref pl, .ref x]) Q E s := by
  k_fill
  intro B F X N T hk hdp hu hret
  refine wpAny_call ?_
  k_dflt ktr_enter
  k_steps
  all_goals first
    | (apply hret.1 (by assumption)
       · k_asm
       · exact cb_drop (by assumption) (by repeat (first | exact fun _ h => h | refine sub_keep ?_ | refine sub_skip ?_)))
    | (apply hret.2 (by assumption)
       · k_asm
       · exact cb_drop (by assumption) (by repeat (first | exact fun _ h => h | refine sub_keep ?_ | refine sub_skip ?_)))
    | trace_state
  all_goals done
theorem adv_end {w : World} {mean : ExcName → Option Value} {mg mb : Str → Option Value} (dp un : Nat) (gd : Option (List Code)) (cn : Str) (cs : Scope) (a : Addr) (ccd : Value) (cl : List (Str × Addr)) (outer : List Env) (A₀ : Around) (base h₀ : Heap) (L : Addr) (m : Str → Option Value) (s : Shared) (Q E : Value → Shared → Prop)
   (c here : Addr) (rest : Value) (at' : Int) (tk ta ts : Tok) (S : Str) (pl x z : Addr) (news : List (Addr × Obj))(dx vd rl ll : Addr) (t1 t2 t3 t4 t5 t6 tl tw tn : Tok) (lim wid n : Int) (r dr : Addr) (k : Str) (u1 u2 u3 uk uv tb : Tok) (b : Int) (ov : Obj) (kvs : List (Str × Value)) (D : List (PyData × PyData)) (nD : Nat) (logs : Array Value) (nl : Nat) (h1 : (c, tup [.ref here, rest]) ∈ news) (h2 : (here, tup [.str (Str.ofString "end now") tk, .ref r, .int b tb]) ∈ news) (h3 : (r, instObj 138 dr) ∈ news) (h4 : (dr, refD w u1 u2 u3 k uk uv) ∈ news) (h5 : (x, instObj 229 dx) ∈ news) (h6 : (dx, hostD w t1 t2 t3 t4 t5 t6 vd rl ll lim wid n tl tw tn) ∈ news) (h7 : (rl, listOf #[] 0) ∈ news) (hvl : @Ne Nat vd ll) (hav : ∀ p ∈ news, p.1 ≠ vd) (hal : ∀ p ∈ news, p.1 ≠ ll) (hov : ov.IsDictOf (strKind Challenge.rw_xm0938_01.row.prog w) kvs) (hfl : FlatPairs PyData.str kvs D) (hLD : LenLe D nD) (hnD : nD ≤ 10000) (hlog : logs.size ≤ 10000) (hb0 : 0 ≤ b) (hb1 : b ≤ at') (hb2 : at' ≤ (S.length : Int)) (hp3 : S.length ≤ 100) :
   Below A₀ base outer h₀ → Fr h₀ L s.heap m → (K w.params).In h₀ → News h₀ L s.heap ((vd, ov) :: (ll, listOf logs nl) :: news) → Top topProg loose0 mean mg mb h₀ → cs.kind = .function →
   dp + 6 < recursionLimit → un + 48 < cLine →
   (∀ q tu te tz ov' h' tk', Fr h₀ L h' m → News h₀ L h' ((q, tup [rest, .int at' te, .ref z]) :: (vd, ov') :: (ll, listOf (logs.push (.ref tu)) (nl + 1)) :: news) → ov'.IsDictOf (strKind Challenge.rw_xm0938_01.row.prog w) (stored kvs k (.str (Txt.slice S (some b) (some at')) tz)) → FlatPairs PyData.str (stored kvs k (.str (Txt.slice S (some b) (some at')) tz)) (putD (PyData.str k) (PyData.str (Txt.slice S (some b) (some at'))) D) → Q (.ref q) { s with heap := h', toks := tk' }) →
   wpAny (model Challenge.rw_xm0938_01.row.prog w) (ktrTop dp un gd cn cs L a ccd cl outer) (call (.ref 411) [.ref c, .int at' ta, .ref z, .str S ts, .ref pl, .ref x]) Q E s := by
  k_fill
  intro B F X N T hk hdp hu hret
  refine wpAny_call ?_
  k_dflt ktr_enter
  k_steps
  all_goals first
    | (apply hret
       · k_asm
       · exact cb_drop (by assumption) (by repeat (first | exact fun _ h => h | refine sub_keep ?_ | refine sub_skip ?_))
       · assumption
       · assumption)
    | trace_state
  all_goals done
theorem adv_arb {w : World} {mean : ExcName → Option Value} {mg mb : Str → Option Value} (dp un : Nat) (gd : Option (List Code)) (cn : Str) (cs : Scope) (a : Addr) (ccd : Value) (cl : List (Str × Addr)) (outer : List Env) (A₀ : Around) (base h₀ : Heap) (L : Addr) (m : Str → Option Value) (s : Shared) (Q E : Value → Shared → Prop)
   (c here : Addr) (rest : Value) (at' : Int) (tk ta ts : Tok) (S : Str) (pl x z : Addr) (news : List (Addr × Obj)) (pi : Array Value) (np : Nat) (h1 : (c, tup [.ref here, rest]) ∈ news) (h2 : (here, tup [.str (Str.ofString "arb") tk]) ∈ news) (hap : ∀ p ∈ news, p.1 ≠ pl) (hpz : pi.size ≤ 10000) (hp0 : 0 ≤ at') (hp1 : at' < (S.length : Int)) (hp3 : S.length ≤ 100) :
   Below A₀ base outer h₀ → Fr h₀ L s.heap m → (K w.params).In h₀ → News h₀ L s.heap ((pl, listOf pi np) :: news) → Top topProg loose0 mean mg mb h₀ → cs.kind = .function →
   dp + 6 < recursionLimit → un + 48 < cLine →
   (∀ q i c1 te h' tk', Fr h₀ L h' m → News h₀ L h' ((q, tup [rest, .int at' ta, .ref z]) :: (i, tup [.ref c1, .int (at' + 1) te, .ref z]) :: (c1, tup [.ref here, rest]) :: (pl, listOf (pi.push (.ref i)) (np + 1)) :: news) → Q (.ref q) { s with heap := h', toks := tk' }) →
   wpAny (model Challenge.rw_xm0938_01.row.prog w) (ktrTop dp un gd cn cs L a ccd cl outer) (call (.ref 411) [.ref c, .int at' ta, .ref z, .str S ts, .ref pl, .ref x]) Q E s := by
  k_fill
  intro B F X N T hk hdp hu hret
  refine wpAny_call ?_
  k_dflt ktr_enter
  k_steps
  all_goals first
    | (apply hret
       · k_asm
       · exact cb_drop (by assumption) (by repeat (first | exact fun _ h => h | refine sub_keep ?_ | refine sub_skip ?_)))
    | trace_state
  all_goals done
theorem adv_arb0 {w : World} {mean : ExcName → Option Value} {mg mb : Str → Option Value} (dp un : Nat) (gd : Option (List Code)) (cn : Str) (cs : Scope) (a : Addr) (ccd : Value) (cl : List (Str × Addr)) (outer : List Env) (A₀ : Around) (base h₀ : Heap) (L : Addr) (m : Str → Option Value) (s : Shared) (Q E : Value → Shared → Prop)
   (c here : Addr) (rest : Value) (at' : Int) (tk ta ts : Tok) (S : Str) (pl x z : Addr) (news : List (Addr × Obj)) (up utp : Nat) (h1 : (c, tup [.ref here, rest]) ∈ news) (h2 : (here, tup [.str (Str.ofString "arb") tk]) ∈ news) (ue0 : True) (ue1 : True) (ue2 : True) (hp1 : at' = (S.length : Int)) (hp3 : S.length ≤ 100) :
   Below A₀ base outer h₀ → Fr h₀ L s.heap m → (K w.params).In h₀ → News h₀ L s.heap (news) → Top topProg loose0 mean mg mb h₀ → cs.kind = .function →
   dp + 6 < recursionLimit → un + 48 < cLine →
   (∀ q h' tk', Fr h₀ L h' m → News h₀ L h' ((q, tup [rest, .int at' ta, .ref z]) :: news) → Q (.ref q) { s with heap := h', toks := tk' }) →
   wpAny (model Challenge.rw_xm0938_01.row.prog w) (ktrTop dp un gd cn cs L a ccd cl outer) (call (.ref 411) [.ref c, .int at' ta, .ref z, .str S ts, .ref pl, .ref x]) Q E s := by
  k_fill
  intro B F X N T hk hdp hu hret
  refine wpAny_call ?_
  k_dflt ktr_enter
  k_steps
  all_goals first
    | (apply hret
       · k_asm
       · exact cb_drop (by assumption) (by repeat (first | exact fun _ h => h | refine sub_keep ?_ | refine sub_skip ?_)))
    | trace_state
  all_goals done
end
section
/-- the patterns -/
inductive Nd where
  | tab (p : Int)
  | len (p : Int)
  | chars (x : Str)
  | rem
  | arb
  | cat (l r : Nd)
  | now (l : Nd) (k : Str)
inductive It where
  | nd (n : Nd)
  | fin (k : Str) (b : Int)
abbrev Led := List (Addr × Obj)
/-- a NameRef of key k lies at r -/
def RefIn (w : World) (T : Led) (r : Addr) (k : Str) : Prop :=
  ∃ dr u1 u2 u3 uk uv, (r, instObj 138 dr) ∈ T ∧ (dr, refD w u1 u2 u3 k uk uv) ∈ T
inductive NdIn (w : World) (T : Led) : Addr → Nd → Prop
  | tab {a p tk tp} : (a, tup [.str (Str.ofString "tab") tk, .int p tp]) ∈ T → NdIn w T a (.tab p)
  | len {a p tk tp} : (a, tup [.str (Str.ofString "len") tk, .int p tp]) ∈ T → NdIn w T a (.len p)
  | chars {a x tk tp} : (a, tup [.str (Str.ofString "chars") tk, .str x tp]) ∈ T → x.length = 1 → NdIn w T a (.chars x)
  | rem {a tk} : (a, tup [.str (Str.ofString "rem") tk]) ∈ T → NdIn w T a .rem
  | arb {a tk} : (a, tup [.str (Str.ofString "arb") tk]) ∈ T → NdIn w T a .arb
  | cat {a l r A B tk} : (a, tup [.str (Str.ofString "cat") tk, .ref l, .ref r]) ∈ T → NdIn w T l A → NdIn w T r B → NdIn w T a (.cat A B)
  | now {a l A r k tk} : (a, tup [.str (Str.ofString "now") tk, .ref l, .ref r]) ∈ T → NdIn w T l A → RefIn w T r k → NdIn w T a (.now A k)
inductive ItIn (w : World) (T : Led) : Addr → It → Prop
  | nd {a n} : NdIn w T a n → ItIn w T a (.nd n)
  | fin {a r k b tk tb} : (a, tup [.str (Str.ofString "end now") tk, .ref r, .int b tb]) ∈ T → RefIn w T r k → ItIn w T a (.fin k b)
inductive ChIn (w : World) (T : Led) : Value → List It → Prop
  | nil : ChIn w T .none []
  | cons {c i v it its} : (c, tup [.ref i, v]) ∈ T → ItIn w T i it → ChIn w T v its → ChIn w T (.ref c) (it :: its)
inductive PiIn (w : World) (z : Addr) (T : Led) : List Value → List (List It × Int) → Prop
  | nil : PiIn w z T [] []
  | cons {q v ta ch a vs ps} : (q, tup [v, .int a ta, .ref z]) ∈ T → ChIn w T v ch → PiIn w z T vs ps → PiIn w z T (.ref q :: vs) ((ch, a) :: ps)
section
variable {w : World} {T T' : Led}
theorem RefIn.mono (hs : ∀ p ∈ T, p ∈ T') {r k} : RefIn w T r k → RefIn w T' r k
  | ⟨dr, u1, u2, u3, uk, uv, h1, h2⟩ => ⟨dr, u1, u2, u3, uk, uv, hs _ h1, hs _ h2⟩
theorem NdIn.mono (hs : ∀ p ∈ T, p ∈ T') {a n} (h : NdIn w T a n) : NdIn w T' a n := by
  induction h with
  | tab h => exact .tab (hs _ h)
  | len h => exact .len (hs _ h)
  | chars h hx => exact .chars (hs _ h) hx
  | rem h => exact .rem (hs _ h)
  | arb h => exact .arb (hs _ h)
  | cat h _ _ i1 i2 => exact .cat (hs _ h) i1 i2
  | now h _ hr i1 => exact .now (hs _ h) i1 (hr.mono hs)
theorem ItIn.mono (hs : ∀ p ∈ T, p ∈ T') {a n} : ItIn w T a n → ItIn w T' a n
  | .nd h => .nd (h.mono hs)
  | .fin h hr => .fin (hs _ h) (hr.mono hs)
theorem ChIn.mono (hs : ∀ p ∈ T, p ∈ T') {v l} (h : ChIn w T v l) : ChIn w T' v l := by
  induction h with
  | nil => exact .nil
  | cons h hi _ ih => exact .cons (hs _ h) (hi.mono hs) ih
theorem PiIn.mono (hs : ∀ p ∈ T, p ∈ T') {z v l} (h : PiIn w z T v l) : PiIn w z T' v l := by
  induction h with
  | nil => exact .nil
  | cons h hc _ ih => exact .cons (hs _ h) (hc.mono hs) ih
end
abbrev VD := List (PyData × PyData)
structure St where
  ch : List It
  at' : Int
  vals : VD
  pile : List (List It × Int)
/-- what one turn does with its first item: some none: the way fails -/
noncomputable def adv1 (S : Str) (it : It) (rest : List It) (a : Int) (vals : VD) (pile : List (List It × Int)) : Option (Option St) :=
  match it with
  | .nd (.cat l r) => some (some ⟨.nd l :: .nd r :: rest, a, vals, pile⟩)
  | .nd (.now l k) => some (some ⟨.nd l :: .fin k a :: rest, a, vals, pile⟩)
  | .nd (.tab p) => if 0 ≤ a ∧ a ≤ p ∧ p ≤ (S.length : Int) then some (some ⟨rest, p, vals, pile⟩) else none
  | .nd (.len p) => if 0 ≤ a ∧ 0 ≤ p ∧ a + p ≤ (S.length : Int) then some (some ⟨rest, a + p, vals, pile⟩) else none
  | .nd (.chars x) => if 0 ≤ a ∧ a ≤ (S.length : Int) then
      (if (Txt.slice S (some a) (some (a + ↑x.length)) == x) = true then some (some ⟨rest, a + ↑x.length, vals, pile⟩) else some none) else none
  | .nd .rem => some (some ⟨rest, (S.length : Int), vals, pile⟩)
  | .nd .arb => if 0 ≤ a ∧ a < (S.length : Int) then some (some ⟨rest, a, vals, (.nd .arb :: rest, a + 1) :: pile⟩)
      else if a = (S.length : Int) then some (some ⟨rest, a, vals, pile⟩) else none
  | .fin k b => if 0 ≤ b ∧ b ≤ a ∧ a ≤ (S.length : Int) then some (some ⟨rest, a, putD (.str k) (.str (Txt.slice S (some b) (some a))) vals, pile⟩) else none
/-- what does not hang on the heap: apart addresses, the values' dict, the sizes -/
structure EP (w : World) (z x pl dx vd rl ll : Addr) (ov : Obj) (logs pi : Array Value) (vals : VD) (pile : List (List It × Int)) (b : Nat) (T : Led) : Prop where
  hx : (x, instObj 229 dx) ∈ T
  hr : (rl, listOf #[] 0) ∈ T
  hz : (z, tup []) ∈ T
  apl : ∀ p ∈ T, p.1 ≠ pl
  adx : ∀ p ∈ T, p.1 ≠ dx
  avd : ∀ p ∈ T, p.1 ≠ vd
  all : ∀ p ∈ T, p.1 ≠ ll
  d1 : @Ne Nat pl dx
  d2 : @Ne Nat pl vd
  d3 : @Ne Nat pl ll
  d4 : @Ne Nat dx vd
  d5 : @Ne Nat dx ll
  d6 : @Ne Nat vd ll
  kv : ∃ kvs, ov.IsDictOf (strKind Challenge.rw_xm0938_01.row.prog w) kvs ∧ FlatPairs PyData.str kvs vals
  bv : vals.length ≤ b
  bl : logs.size ≤ b
  bp : pi.size ≤ b
  pw : PiIn w z T pi.toList.reverse pile
theorem apart {h₀ h : Heap} {L : Addr} {l : Led} (N : News h₀ L h l) {a b : Addr} {o o' : Obj} (h1 : (a, o) ∈ l) (h2 : (b, o') ∈ l) (hn : o ≠ o') : a ≠ b := fun e => by
  subst e
  exact hn (Option.some.inj ((N _ h1).1.symm.trans (N _ h2).1))
theorem tup_ne_list {vs : List Value} {its : Array Value} {n : Nat} : tup vs ≠ listOf its n := fun e => by
  have := congrArg Obj.cls e
  simp at this
end
section
noncomputable abbrev eng (w : World) (t1 t2 t3 t4 t5 t6 : Tok) (pl dx vd rl ll : Addr) (lim wid n : Int) (tl tw tn : Tok) (ov : Obj) (logs pi : Array Value) (nl np : Nat) (T : Led) : Led :=
  (pl, listOf pi np) :: (dx, hostD w t1 t2 t3 t4 t5 t6 vd rl ll lim wid n tl tw tn) :: (vd, ov) :: (ll, listOf logs nl) :: T
theorem EP.more {w : World} {z x pl dx vd rl ll : Addr} {ov ov' : Obj} {logs logs' pi pi' : Array Value} {vals vals' : VD} {pile pile' : List (List It × Int)} {b b' : Nat} {T T' : Led}
    {t1 t2 t3 t4 t5 t6 : Tok} {lim wid n : Int} {tl tw tn : Tok} {nl np : Nat} {h₀ h : Heap} {L : Addr}
    (P : EP w z x pl dx vd rl ll ov logs pi vals pile b T) (N : News h₀ L h (eng w t1 t2 t3 t4 t5 t6 pl dx vd rl ll lim wid n tl tw tn ov' logs' pi' nl np T'))
    (hT : ∀ p ∈ T', p ∈ T ∨ ∃ vs, p.2 = tup vs) (hs : ∀ p ∈ T, p ∈ T')
    (kv : ∃ kvs, ov'.IsDictOf (strKind Challenge.rw_xm0938_01.row.prog w) kvs ∧ FlatPairs PyData.str kvs vals')
    (bv : vals'.length ≤ b') (bl : logs'.size ≤ b') (bp : pi'.size ≤ b') (pw : PiIn w z T' pi'.toList.reverse pile') :
    EP w z x pl dx vd rl ll ov' logs' pi' vals' pile' b' T' where
  hx := hs _ P.hx
  hr := hs _ P.hr
  hz := hs _ P.hz
  apl := fun p hp => by
    rcases hT p hp with q | ⟨vs, q⟩
    · exact P.apl p q
    · exact apart N (o := p.2) (o' := listOf pi' np) (List.mem_cons_of_mem _ (List.mem_cons_of_mem _ (List.mem_cons_of_mem _ (List.mem_cons_of_mem _ hp)))) List.mem_cons_self (by rw [q]; exact tup_ne_list)
  adx := fun p hp => by
    rcases hT p hp with q | ⟨vs, q⟩
    · exact P.adx p q
    · exact apart N (o := p.2) (List.mem_cons_of_mem _ (List.mem_cons_of_mem _ (List.mem_cons_of_mem _ (List.mem_cons_of_mem _ hp)))) (List.mem_cons_of_mem _ List.mem_cons_self) (by rw [q]; intro e; have := congrArg Obj.data e; simp at this)
  avd := fun p hp => by
    rcases hT p hp with q | ⟨vs, q⟩
    · exact P.avd p q
    · obtain ⟨kvs, ⟨es, ep, _, hd, _⟩, _⟩ := kv
      exact apart N (o := p.2) (List.mem_cons_of_mem _ (List.mem_cons_of_mem _ (List.mem_cons_of_mem _ (List.mem_cons_of_mem _ hp)))) (List.mem_cons_of_mem _ (List.mem_cons_of_mem _ List.mem_cons_self)) (by rw [q]; intro e; have := congrArg Obj.data e; rw [hd] at this; simp at this)
  all := fun p hp => by
    rcases hT p hp with q | ⟨vs, q⟩
    · exact P.all p q
    · exact apart N (o := p.2) (o' := listOf logs' nl) (List.mem_cons_of_mem _ (List.mem_cons_of_mem _ (List.mem_cons_of_mem _ (List.mem_cons_of_mem _ hp)))) (List.mem_cons_of_mem _ (List.mem_cons_of_mem _ (List.mem_cons_of_mem _ List.mem_cons_self))) (by rw [q]; exact tup_ne_list)
  d1 := P.d1
  d2 := P.d2
  d3 := P.d3
  d4 := P.d4
  d5 := P.d5
  d6 := P.d6
  kv := kv
  bv := bv
  bl := bl
  bp := bp
  pw := pw
theorem new1 {T : Led} {q : Addr} {vs : List Value} : ∀ p ∈ (q, tup vs) :: T, p ∈ T ∨ ∃ vs, p.2 = tup vs := fun p hp => by
  rcases List.mem_cons.mp hp with rfl | hp
  · exact .inr ⟨_, rfl⟩
  · exact .inl hp
theorem new2 {T : Led} {q q2 : Addr} {vs vs2 : List Value} : ∀ p ∈ (q, tup vs) :: (q2, tup vs2) :: T, p ∈ T ∨ ∃ vs, p.2 = tup vs := fun p hp => by
  rcases List.mem_cons.mp hp with rfl | hp
  · exact .inr ⟨_, rfl⟩
  · exact new1 p hp
theorem new3 {T : Led} {q q2 q3 : Addr} {vs vs2 vs3 : List Value} : ∀ p ∈ (q, tup vs) :: (q2, tup vs2) :: (q3, tup vs3) :: T, p ∈ T ∨ ∃ vs, p.2 = tup vs := fun p hp => by
  rcases List.mem_cons.mp hp with rfl | hp
  · exact .inr ⟨_, rfl⟩
  · exact new2 p hp
theorem new4 {T : Led} {q q2 q3 q4 : Addr} {vs vs2 vs3 vs4 : List Value} : ∀ p ∈ (q, tup vs) :: (q2, tup vs2) :: (q3, tup vs3) :: (q4, tup vs4) :: T, p ∈ T ∨ ∃ vs, p.2 = tup vs := fun p hp => by
  rcases List.mem_cons.mp hp with rfl | hp
  · exact .inr ⟨_, rfl⟩
  · exact new3 p hp
theorem skip4 {α : Type} {a b c d : α} {l : List α} : ∀ p ∈ l, p ∈ a :: b :: c :: d :: l := fun p hp => List.mem_cons_of_mem _ (List.mem_cons_of_mem _ (List.mem_cons_of_mem _ (List.mem_cons_of_mem _ hp)))
theorem skip1 {α : Type} {a : α} {l : List α} : ∀ p ∈ l, p ∈ a :: l := fun _ hp => List.mem_cons_of_mem _ hp
theorem skip2 {α : Type} {a b : α} {l : List α} : ∀ p ∈ l, p ∈ a :: b :: l := fun _ hp => List.mem_cons_of_mem _ (List.mem_cons_of_mem _ hp)
theorem skip3 {α : Type} {a b c : α} {l : List α} : ∀ p ∈ l, p ∈ a :: b :: c :: l := fun _ hp => List.mem_cons_of_mem _ (List.mem_cons_of_mem _ (List.mem_cons_of_mem _ hp))
-- moves of the ledger
theorem up1 {α : Type} {q a b c d : α} {l : List α} : ∀ p ∈ a :: b :: c :: d :: q :: l, p ∈ q :: a :: b :: c :: d :: l := fun p hp => by
  simp only [List.mem_cons] at hp ⊢
  rcases hp with h | h | h | h | h | h <;> simp [h]
theorem up2 {α : Type} {q q2 a b c d : α} {l : List α} : ∀ p ∈ a :: b :: c :: d :: q :: q2 :: l, p ∈ q :: q2 :: a :: b :: c :: d :: l := fun p hp => by
  simp only [List.mem_cons] at hp ⊢
  rcases hp with h | h | h | h | h | h | h <;> simp [h]
theorem up3 {α : Type} {q q2 q3 a b c d : α} {l : List α} : ∀ p ∈ a :: b :: c :: d :: q :: q2 :: q3 :: l, p ∈ q :: q2 :: q3 :: a :: b :: c :: d :: l := fun p hp => by
  simp only [List.mem_cons] at hp ⊢
  rcases hp with h | h | h | h | h | h | h | h <;> simp [h]
theorem up4 {α : Type} {q q2 q3 q4 a b c d : α} {l : List α} : ∀ p ∈ a :: b :: c :: d :: q :: q2 :: q3 :: q4 :: l, p ∈ q :: q2 :: q3 :: q4 :: a :: b :: c :: d :: l := fun p hp => by
  simp only [List.mem_cons] at hp ⊢
  rcases hp with h | h | h | h | h | h | h | h | h <;> simp [h]
theorem rot {α : Type} {a b c d : α} {l : List α} : ∀ p ∈ c :: d :: a :: b :: l, p ∈ a :: b :: c :: d :: l := fun p hp => by
  simp only [List.mem_cons] at hp ⊢
  rcases hp with h | h | h | h | h <;> simp [h]
theorem rotE {α : Type} {q a b c d : α} {l : List α} : ∀ p ∈ a :: b :: c :: d :: q :: l, p ∈ q :: c :: d :: a :: b :: l := fun p hp => by
  simp only [List.mem_cons] at hp ⊢
  rcases hp with h | h | h | h | h | h <;> simp [h]
theorem adv_step {w : World} {mean : ExcName → Option Value} {mg mb : Str → Option Value} (dp un : Nat) (gd : Option (List Code)) (cn : Str) (cs : Scope) (a : Addr) (ccd : Value) (cl : List (Str × Addr)) (outer : List Env) (A₀ : Around) (base h₀ : Heap) (L : Addr) (m : Str → Option Value) (s : Shared) (Q E : Value → Shared → Prop)
    (c z x pl dx vd rl ll : Addr) (t1 t2 t3 t4 t5 t6 tl tw tn ta ts : Tok) (lim wid n : Int) (ov : Obj) (logs pi : Array Value) (nl np : Nat) (T : Led) (b : Nat) (it : It) (rest : List It) (at' : Int) (vals : VD) (pile : List (List It × Int)) (S : Str) (r : Option St)
    (P : EP w z x pl dx vd rl ll ov logs pi vals pile b T) (hch : ChIn w T (.ref c) (it :: rest)) (hS : S.length ≤ 100) (hb : b ≤ 9999) (hr : adv1 S it rest at' vals pile = some r) :
    Below A₀ base outer h₀ → Fr h₀ L s.heap m → (K w.params).In h₀ → News h₀ L s.heap (eng w t1 t2 t3 t4 t5 t6 pl dx vd rl ll lim wid n tl tw tn ov logs pi nl np T) → Top topProg loose0 mean mg mb h₀ → cs.kind = .function →
    dp + 7 < recursionLimit → un + 56 < cLine →
    (match (generalizing := false) r with
      | none => ∀ h' tk', Fr h₀ L h' m → News h₀ L h' (eng w t1 t2 t3 t4 t5 t6 pl dx vd rl ll lim wid n tl tw tn ov logs pi nl np T) → Q .none { s with heap := h', toks := tk' }
      | some st => ∀ q v te ov' logs' pi' nl' np' T' h' tk', Fr h₀ L h' m → News h₀ L h' (eng w t1 t2 t3 t4 t5 t6 pl dx vd rl ll lim wid n tl tw tn ov' logs' pi' nl' np' T') →
          EP w z x pl dx vd rl ll ov' logs' pi' st.vals st.pile (b + 1) T' → (∀ p ∈ T, p ∈ T') → (q, tup [v, .int st.at' te, .ref z]) ∈ T' → ChIn w T' v st.ch → Q (.ref q) { s with heap := h', toks := tk' }) →
    wpAny (model Challenge.rw_xm0938_01.row.prog w) (ktrTop dp un gd cn cs L a ccd cl outer) (call (.ref 411) [.ref c, .int at' ta, .ref z, .str S ts, .ref pl, .ref x]) Q E s := by
  intro B F X N Tp hk hdp hu hret
  cases hch with
  | cons hc hi hrest =>
  have ok1 := Nat.le_succ_of_le P.bv
  have ok2 := Nat.le_succ_of_le P.bl
  have ok3 := Nat.le_succ_of_le P.bp
  cases hi with
  | nd hn =>
    cases hn with
    | tab hm =>
      simp only [adv1] at hr
      split at hr
      · rename_i hcnd
        cases hr
        refine adv_tab dp un gd cn cs a ccd cl outer A₀ base h₀ L m s Q E c _ _ at' _ ta ts S pl x z _ _ _ (skip4 _ hc) (skip4 _ hm) hcnd.1 hcnd.2.1 hcnd.2.2 True.intro hS B F X N Tp hk (by omega) (by omega) ?_
        intro q te h' tk' F' N'
        have N2 := cb_drop N' up1
        exact hret q _ te ov logs pi nl np _ h' tk' F' N2 (P.more N2 new1 skip1 P.kv ok1 ok2 ok3 (P.pw.mono skip1)) skip1 List.mem_cons_self (hrest.mono skip1)
      · cases hr
    | len hm =>
      simp only [adv1] at hr
      split at hr
      · rename_i hcnd
        cases hr
        refine adv_len dp un gd cn cs a ccd cl outer A₀ base h₀ L m s Q E c _ _ at' _ ta ts S pl x z _ _ _ (skip4 _ hc) (skip4 _ hm) hcnd.1 hcnd.2.1 hcnd.2.2 True.intro hS B F X N Tp hk (by omega) (by omega) ?_
        intro q te h' tk' F' N'
        have N2 := cb_drop N' up1
        exact hret q _ te ov logs pi nl np _ h' tk' F' N2 (P.more N2 new1 skip1 P.kv ok1 ok2 ok3 (P.pw.mono skip1)) skip1 List.mem_cons_self (hrest.mono skip1)
      · cases hr
    | chars hm hx =>
      simp only [adv1] at hr
      split at hr
      · rename_i hcnd
        refine adv_chars dp un gd cn cs a ccd cl outer A₀ base h₀ L m s Q E c _ _ at' _ ta ts S pl x z _ _ _ (skip4 _ hc) (skip4 _ hm) hcnd.1 hx hcnd.2 True.intro hS B F X N Tp hk (by omega) (by omega) ⟨?_, ?_⟩
        · intro heq q te h' tk' F' N'
          rw [if_pos heq] at hr
          cases hr
          have N2 := cb_drop N' up1
          exact hret q _ te ov logs pi nl np _ h' tk' F' N2 (P.more N2 new1 skip1 P.kv ok1 ok2 ok3 (P.pw.mono skip1)) skip1 List.mem_cons_self (hrest.mono skip1)
        · intro heq h' tk' F' N'
          rw [if_neg (by rw [heq]; exact Bool.false_ne_true)] at hr
          cases hr
          exact hret h' tk' F' N'
      · cases hr
    | rem hm =>
      simp only [adv1] at hr
      cases hr
      refine adv_rem dp un gd cn cs a ccd cl outer A₀ base h₀ L m s Q E c _ _ at' _ ta ts S pl x z _ 0 0 (skip4 _ hc) (skip4 _ hm) True.intro True.intro True.intro True.intro hS B F X N Tp hk (by omega) (by omega) ?_
      intro q te h' tk' F' N'
      have N2 := cb_drop N' up1
      exact hret q _ te ov logs pi nl np _ h' tk' F' N2 (P.more N2 new1 skip1 P.kv ok1 ok2 ok3 (P.pw.mono skip1)) skip1 List.mem_cons_self (hrest.mono skip1)
    | arb hm =>
      simp only [adv1] at hr
      split at hr
      · rename_i hcnd
        cases hr
        refine adv_arb dp un gd cn cs a ccd cl outer A₀ base h₀ L m s Q E c _ _ at' _ ta ts S pl x z _ pi np (skip3 _ hc) (skip3 _ hm) ?_ (Nat.le_trans P.bp (by omega)) hcnd.1 hcnd.2 hS B F X N Tp hk (by omega) (by omega) ?_
        · intro p hp
          rcases List.mem_cons.mp hp with rfl | hp
          · exact fun e => P.d1 e.symm
          rcases List.mem_cons.mp hp with rfl | hp
          · exact fun e => P.d2 e.symm
          rcases List.mem_cons.mp hp with rfl | hp
          · exact fun e => P.d3 e.symm
          exact P.apl p hp
        · intro q i c1 te h' tk' F' N'
          have N2 := cb_drop N' up3
          refine hret q _ _ ov logs _ nl (np + 1) _ h' tk' F' N2 (P.more N2 new3 skip3 P.kv ok1 ok2 (by rw [Array.size_push]; exact Nat.succ_le_succ P.bp) ?_) skip3 List.mem_cons_self (hrest.mono skip3)
          rw [Array.toList_push, List.reverse_append]
          exact .cons (List.mem_cons_of_mem _ List.mem_cons_self) (.cons (skip2 _ List.mem_cons_self) (.nd (.arb (skip3 _ hm))) (hrest.mono skip3)) (P.pw.mono skip3)
      · split at hr
        · rename_i hcnd
          cases hr
          refine adv_arb0 dp un gd cn cs a ccd cl outer A₀ base h₀ L m s Q E c _ _ at' _ ta ts S pl x z _ 0 0 (skip4 _ hc) (skip4 _ hm) True.intro True.intro True.intro hcnd hS B F X N Tp hk (by omega) (by omega) ?_
          intro q h' tk' F' N'
          have N2 := cb_drop N' up1
          exact hret q _ _ ov logs pi nl np _ h' tk' F' N2 (P.more N2 new1 skip1 P.kv ok1 ok2 ok3 (P.pw.mono skip1)) skip1 List.mem_cons_self (hrest.mono skip1)
        · cases hr
    | cat hm hl hr' =>
      simp only [adv1] at hr
      cases hr
      refine adv_cat dp un gd cn cs a ccd cl outer A₀ base h₀ L m s Q E c _ _ at' _ ta ts S pl x z _ _ _ (skip4 _ hc) (skip4 _ hm) True.intro True.intro True.intro True.intro True.intro B F X N Tp hk (by omega) (by omega) ?_
      intro q c1 c2 h' tk' F' N'
      have N2 := cb_drop N' up3
      exact hret q _ _ ov logs pi nl np _ h' tk' F' N2 (P.more N2 new3 skip3 P.kv ok1 ok2 ok3 (P.pw.mono skip3)) skip3 List.mem_cons_self
        (.cons (skip1 _ List.mem_cons_self) (.nd (hl.mono skip3)) (.cons (skip2 _ List.mem_cons_self) (.nd (hr'.mono skip3)) (hrest.mono skip3)))
    | now hm hl hrf =>
      simp only [adv1] at hr
      cases hr
      refine adv_now dp un gd cn cs a ccd cl outer A₀ base h₀ L m s Q E c _ _ at' _ ta ts S pl x z _ _ _ (skip4 _ hc) (skip4 _ hm) True.intro True.intro True.intro True.intro True.intro B F X N Tp hk (by omega) (by omega) ?_
      intro q c1 c2 e te h' tk' F' N'
      have N2 := cb_drop N' up4
      exact hret q _ _ ov logs pi nl np _ h' tk' F' N2 (P.more N2 new4 skip4 P.kv ok1 ok2 ok3 (P.pw.mono skip4)) skip4 List.mem_cons_self
        (.cons (skip1 _ List.mem_cons_self) (.nd (hl.mono skip4)) (.cons (skip2 _ List.mem_cons_self) (.fin (skip3 _ List.mem_cons_self) (hrf.mono skip4)) (hrest.mono skip4)))
  | fin hm hrf =>
    simp only [adv1] at hr
    split at hr
    · rename_i hcnd
      cases hr
      obtain ⟨dr, u1, u2, u3, uk, uv, h3, h4⟩ := hrf
      obtain ⟨kvs, hov, hfl⟩ := P.kv
      refine adv_end dp un gd cn cs a ccd cl outer A₀ base h₀ L m s Q E c _ _ at' _ ta ts S pl x z _ dx vd rl ll t1 t2 t3 t4 t5 t6 tl tw tn lim wid n _ dr _ u1 u2 u3 uk uv _ _ ov kvs vals vals.length logs nl (skip2 _ hc) (skip2 _ hm) (skip2 _ h3) (skip2 _ h4) (skip2 _ P.hx) (List.mem_cons_of_mem _ List.mem_cons_self) (skip2 _ P.hr) P.d6 ?_ ?_ hov hfl (LenLe.self _) (Nat.le_trans P.bv (by omega)) (Nat.le_trans P.bl (by omega)) hcnd.1 hcnd.2.1 hcnd.2.2 hS B F X (cb_drop N rot) Tp hk (by omega) (by omega) ?_
      · intro p hp
        rcases List.mem_cons.mp hp with rfl | hp
        · exact fun e => P.d2 e
        rcases List.mem_cons.mp hp with rfl | hp
        · exact fun e => P.d4 e
        exact P.avd p hp
      · intro p hp
        rcases List.mem_cons.mp hp with rfl | hp
        · exact fun e => P.d3 e
        rcases List.mem_cons.mp hp with rfl | hp
        · exact fun e => P.d5 e
        exact P.all p hp
      · intro q tu te tz ov' h' tk' F' N' hov' hfl'
        have N2 := cb_drop N' rotE
        exact hret q _ te ov' _ pi _ np _ h' tk' F' N2 (P.more N2 new1 skip1 ⟨_, hov', hfl'⟩ (Nat.le_trans (putD_length_le _ _ _) (Nat.succ_le_succ P.bv)) (by rw [Array.size_push]; exact Nat.succ_le_succ P.bl) ok3 (P.pw.mono skip1)) skip1 List.mem_cons_self (hrest.mono skip1)
    · cases hr
end
section
/-- the machine: one turn of the inner loop a unit of fuel -/
noncomputable def run (S : Str) : Nat → List It → Int → VD → List (List It × Int) → Option (Int × VD)
  | 0, _, _, _, _ => none
  | _ + 1, [], a, vals, _ => some (a, vals)
  | f + 1, it :: rest, a, vals, pile => match adv1 S it rest a vals pile with
    | none => none
    | some (some st) => run S f st.ch st.at' st.vals st.pile
    | some none => match pile with
      | [] => none
      | (ch, a') :: p => run S f ch a' vals p
theorem EP.pop {w : World} {z x pl dx vd rl ll : Addr} {ov : Obj} {logs pi : Array Value} {vals : VD} {pile : List (List It × Int)} {ch : List It} {a : Int} {b : Nat} {T : Led}
    (P : EP w z x pl dx vd rl ll ov logs pi vals ((ch, a) :: pile) b T) :
    ∃ ps q v ta, pi = (ps ++ [Value.ref q]).toArray ∧ (q, tup [v, .int a ta, .ref z]) ∈ T ∧ ChIn w T v ch ∧ EP w z x pl dx vd rl ll ov logs ps.toArray vals pile b T := by
  obtain ⟨hx, hr, hz, apl, adx, avd, all, d1, d2, d3, d4, d5, d6, kv, bv, bl, bp, pw⟩ := P
  generalize hg : pi.toList.reverse = l at pw
  cases pw with
  | @cons q v ta _ _ vs _ hq hc hp =>
    have e : pi.toList = vs.reverse ++ [Value.ref q] := by
      have := congrArg List.reverse hg
      simpa using this
    refine ⟨vs.reverse, q, v, ta, ?_, hq, hc, ⟨hx, hr, hz, apl, adx, avd, all, d1, d2, d3, d4, d5, d6, kv, bv, bl, ?_, ?_⟩⟩
    · rw [← e]
    · have : pi.size = vs.length + 1 := by rw [← Array.length_toList, e]; simp
      simp only [List.size_toArray, List.length_reverse]
      omega
    · simpa using hp
noncomputable abbrev wN (x : String) : Str := Str.ofString x
noncomputable abbrev triedSt : List Str := [wN "way", wN "chain", wN "at", wN "named"]
/-- the inner loop's frame -/
noncomputable abbrev inM (m₀ : Str → Option Value) (v : Value) (a : Int) (ta : Tok) (z : Addr) (uw : Option Value) : Str → Option Value :=
  fun y => if y = wN "chain" then some v else if y = wN "at" then some (.int a ta) else if y = wN "named" then some (.ref z) else if y = wN "way" then uw else m₀ y
def OutEnd (w : World) (s : Shared) (g : Heap) (L : Addr) (m₀ : Str → Option Value) (S : Str) (res : Int × VD) (z x pl dx vd rl ll : Addr) (t1 t2 t3 t4 t5 t6 tl tw : Tok) (lim wid : Int) (T' : Led) (f' : Nat) (s₃ : Shared) : Prop :=
  ∃ (h' : Heap) (tk' : Nat) (u' : Str → Option Value) (tn₂ : Tok) (n₂ : Int) (ov₂ : Obj) (logs₂ pi₂ : Array Value) (nl₂ np₂ : Nat) (T₂ : Led) (b₂ f₂ : Nat) (vals₂ : VD) (pile₂ : List (List It × Int)) (ch₂ : List It) (a₂ : Int), s₃ = { s with heap := h', toks := tk' } ∧ Fr g L h' (fun y => if triedSt.contains y then u' y else m₀ y) ∧
              News g L h' (eng w t1 t2 t3 t4 t5 t6 pl dx vd rl ll lim wid n₂ tl tw tn₂ ov₂ logs₂ pi₂ nl₂ np₂ T₂) ∧ EP w z x pl dx vd rl ll ov₂ logs₂ pi₂ vals₂ ((ch₂, a₂) :: pile₂) b₂ T₂ ∧ run S f₂ ch₂ a₂ vals₂ pile₂ = some res ∧ f₂ < f' ∧ 0 ≤ n₂ ∧ n₂ + (f₂ : Int) ≤ lim ∧ b₂ + f₂ ≤ 9999 ∧ (∀ p ∈ T', p ∈ T₂)
def InEnd (w : World) (s : Shared) (g : Heap) (L : Addr) (m₀ : Str → Option Value) (S : Str) (res : Int × VD) (z x pl dx vd rl ll : Addr) (t1 t2 t3 t4 t5 t6 tl tw : Tok) (lim wid : Int) (T' : Led) (f' : Nat) (s₃ : Shared) : Prop :=
  ∃ (h' : Heap) (tk' : Nat) (uw₂ : Option Value) (tn₂ ta₂ : Tok) (n₂ : Int) (ov₂ : Obj) (logs₂ pi₂ : Array Value) (nl₂ np₂ : Nat) (T₂ : Led) (b₂ f₂ : Nat) (vals₂ : VD) (pile₂ : List (List It × Int)) (ch₂ : List It) (a₂ : Int) (v₂ : Value), s₃ = { s with heap := h', toks := tk' } ∧ Fr g L h' (inM m₀ v₂ a₂ ta₂ z uw₂) ∧
              News g L h' (eng w t1 t2 t3 t4 t5 t6 pl dx vd rl ll lim wid n₂ tl tw tn₂ ov₂ logs₂ pi₂ nl₂ np₂ T₂) ∧ EP w z x pl dx vd rl ll ov₂ logs₂ pi₂ vals₂ pile₂ b₂ T₂ ∧ ChIn w T₂ v₂ ch₂ ∧ run S f₂ ch₂ a₂ vals₂ pile₂ = some res ∧ f₂ < f' ∧ 0 ≤ n₂ ∧ n₂ + (f₂ : Int) ≤ lim ∧ b₂ + f₂ ≤ 9999 ∧ (∀ p ∈ T', p ∈ T₂)
def OutTurn (prog : Program) (w : World) (A : Around) (E : Value → Shared → Prop) (Q : Flow → Shared → Prop) (s : Shared) (env : Env) (g : Heap) (L : Addr) (test : Expr) (body : List Stmt) (m₀ : Str → Option Value) (S : Str) (res : Int × VD) (z x pl dx vd rl ll : Addr) (t1 t2 t3 t4 t5 t6 tl tw : Tok) (lim wid : Int) (T : Led) : Prop :=
  ∀ (u : Str → Option Value) (tn' : Tok) (n' : Int) (ov' : Obj) (logs' : Array Value) (nl' np' : Nat) (T' : Led) (b' f' : Nat) (vals' : VD) (pile' : List (List It × Int)) (ch' : List It) (a' : Int) (ps : List Value) (q : Addr) (v : Value) (ta : Tok) (h : Heap) (tk : Nat),
      Fr g L h (fun y => if triedSt.contains y then u y else m₀ y) → News g L h (eng w t1 t2 t3 t4 t5 t6 pl dx vd rl ll lim wid n' tl tw tn' ov' logs' (ps ++ [Value.ref q]).toArray nl' np' T') →
      EP w z x pl dx vd rl ll ov' logs' ps.toArray vals' pile' b' T' → (q, tup [v, .int a' ta, .ref z]) ∈ T' → ChIn w T' v ch' → run S f' ch' a' vals' pile' = some res → 0 ≤ n' → n' + (f' : Int) ≤ lim → b' + f' ≤ 9999 → (∀ p ∈ T, p ∈ T') →
      (0 : Int) < ((ps ++ [Value.ref q]).toArray.size : Int) → ((ps ++ [Value.ref q]).toArray.size : Int) < 2 ^ 63 → (ps ++ [Value.ref q]).toArray.toList.length ≤ sizeLine →
      wpAny (model prog w) A (isTrue test env (eval test env)) (fun bb s₂ =>
        if bb = true then wpAny (model prog w) A (execs body env) (fun fl s₃ => match fl with
          | .next | .cont => OutEnd w s g L m₀ S res z x pl dx vd rl ll t1 t2 t3 t4 t5 t6 tl tw lim wid T' f' s₃
          | .brk => Q .next s₃
          | .ret r => Q (.ret r) s₃) E s₂ else Q .next s₂) E { s with heap := h, toks := tk }
def InTurn (prog : Program) (w : World) (A : Around) (E : Value → Shared → Prop) (Q : Flow → Shared → Prop) (s : Shared) (env : Env) (g : Heap) (L : Addr) (test : Expr) (body : List Stmt) (m₀ : Str → Option Value) (S : Str) (res : Int × VD) (z x pl dx vd rl ll : Addr) (t1 t2 t3 t4 t5 t6 tl tw : Tok) (lim wid : Int) (T : Led) (f : Nat) : Prop :=
  ∀ (uw : Option Value) (tn' ta' : Tok) (n' : Int) (ov' : Obj) (logs' pi' : Array Value) (nl' np' : Nat) (T' : Led) (b' f' : Nat) (vals' : VD) (pile' : List (List It × Int)) (ch' : List It) (a' : Int) (v' : Value) (h : Heap) (tk : Nat),
      Fr g L h (inM m₀ v' a' ta' z uw) → News g L h (eng w t1 t2 t3 t4 t5 t6 pl dx vd rl ll lim wid n' tl tw tn' ov' logs' pi' nl' np' T') →
      EP w z x pl dx vd rl ll ov' logs' pi' vals' pile' b' T' → ChIn w T' v' ch' → run S f' ch' a' vals' pile' = some res → f' ≤ f → 0 ≤ n' → n' + (f' : Int) ≤ lim → b' + f' ≤ 9999 → (∀ p ∈ T, p ∈ T') →
      wpAny (model prog w) A (isTrue test env (eval test env)) (fun bb s₂ =>
        if bb = true then wpAny (model prog w) A (execs body env) (fun fl s₃ => match fl with
          | .next | .cont => InEnd w s g L m₀ S res z x pl dx vd rl ll t1 t2 t3 t4 t5 t6 tl tw lim wid T' f' s₃
          | .brk => Q .next s₃
          | .ret r => Q (.ret r) s₃) E s₂ else Q .next s₂) E { s with heap := h, toks := tk }
section
variable {prog : Program} {A : Around} {E : Value → Shared → Prop} {Q : Flow → Shared → Prop} {s : Shared} {env : Env} {g : Heap} {L : Addr}
/-- the outer loop -/
theorem outW {w : World} {test : Expr} {body : List Stmt} {pos : Pos} {m₀ : Str → Option Value} {S : Str} {res : Int × VD}
    {z x pl dx vd rl ll : Addr} {t1 t2 t3 t4 t5 t6 tl tw tn : Tok} {lim wid n : Int} {ov : Obj} {logs pi : Array Value} {nl np : Nat} {T : Led} {b f : Nat} {vals : VD} {pile : List (List It × Int)} {ch : List It} {a : Int}
    (F : Fr g L s.heap m₀) (N : News g L s.heap (eng w t1 t2 t3 t4 t5 t6 pl dx vd rl ll lim wid n tl tw tn ov logs pi nl np T))
    (P : EP w z x pl dx vd rl ll ov logs pi vals ((ch, a) :: pile) b T) (hr : run S f ch a vals pile = some res) (hn : 0 ≤ n) (hl : n + (f : Int) ≤ lim) (hb : b + f ≤ 9999)
    (turn : OutTurn prog w A E Q s env g L test body m₀ S res z x pl dx vd rl ll t1 t2 t3 t4 t5 t6 tl tw lim wid T)
    (hE : PassesOwn (model prog w) A env E := by passes_own) :
    wpAny (model prog w) A (exec (.While test body [] pos) env) Q E s := by
  refine While_inv2 (fun k m nx => ∃ (u : Str → Option Value) (tn' : Tok) (n' : Int) (ov' : Obj) (logs' pi' : Array Value) (nl' np' : Nat) (T' : Led) (b' : Nat) (vals' : VD) (pile' : List (List It × Int)) (ch' : List It) (a' : Int), m = (fun y => if triedSt.contains y then u y else m₀ y) ∧ nx = eng w t1 t2 t3 t4 t5 t6 pl dx vd rl ll lim wid n' tl tw tn' ov' logs' pi' nl' np' T' ∧
      EP w z x pl dx vd rl ll ov' logs' pi' vals' ((ch', a') :: pile') b' T' ∧ run S k ch' a' vals' pile' = some res ∧ 0 ≤ n' ∧ n' + (k : Int) ≤ lim ∧ b' + k ≤ 9999 ∧ (∀ p ∈ T, p ∈ T')) F N (n₀ := f)
    ⟨m₀, tn, n, ov, logs, pi, nl, np, T, b, vals, pile, ch, a, by funext y; simp, rfl, P, hr, hn, hl, hb, fun _ h => h⟩ ?_ hE
  rintro k m₁ nx h tk F₁ N₁ ⟨u, tn', n', ov', logs', pi', nl', np', T', b', vals', pile', ch', a', rfl, rfl, P', hr', hn', hl', hb', hs⟩
  obtain ⟨ps, q, v, ta, rfl, hq, hc, P2⟩ := P'.pop
  have hz : (ps ++ [Value.ref q]).toArray.size ≤ 9999 := Nat.le_trans P'.bp (by omega)
  refine wpAny_mono (turn u tn' n' ov' logs' nl' np' T' b' k vals' pile' ch' a' ps q v ta h tk F₁ N₁ P2 hq hc hr' hn' hl' hb' hs (by simp only [List.size_toArray, List.length_append, List.length_cons, List.length_nil]; omega) (by omega) (by rw [Array.length_toList]; exact Nat.le_trans hz (by decide))) (fun bb s₂ p => ?_) fun _ _ x => x
  cases bb with
  | false => simpa using p
  | true =>
    simp only [if_true] at p ⊢
    refine wpAny_mono p (fun fl s₃ q => ?_) fun _ _ x => x
    cases fl with
    | ret r => exact q
    | brk => exact q
    | next =>
      obtain ⟨h', tk', u', tn₂, n₂, ov₂, logs₂, pi₂, nl₂, np₂, T₂, b₂, f₂, vals₂, pile₂, ch₂, a₂, rfl, F₂, N₂, P₂, r₂, lt, i1, i2, i3, i4⟩ := q
      exact ⟨h', tk', _, _, f₂, rfl, F₂, N₂, lt, u', tn₂, n₂, ov₂, logs₂, pi₂, nl₂, np₂, T₂, b₂, vals₂, pile₂, ch₂, a₂, rfl, rfl, P₂, r₂, i1, i2, i3, fun p hp => i4 p (hs p hp)⟩
    | cont =>
      obtain ⟨h', tk', u', tn₂, n₂, ov₂, logs₂, pi₂, nl₂, np₂, T₂, b₂, f₂, vals₂, pile₂, ch₂, a₂, rfl, F₂, N₂, P₂, r₂, lt, i1, i2, i3, i4⟩ := q
      exact ⟨h', tk', _, _, f₂, rfl, F₂, N₂, lt, u', tn₂, n₂, ov₂, logs₂, pi₂, nl₂, np₂, T₂, b₂, vals₂, pile₂, ch₂, a₂, rfl, rfl, P₂, r₂, i1, i2, i3, fun p hp => i4 p (hs p hp)⟩
theorem inW {w : World} {test : Expr} {body : List Stmt} {pos : Pos} {m₀ : Str → Option Value} {S : Str} {res : Int × VD}
    {z x pl dx vd rl ll : Addr} {t1 t2 t3 t4 t5 t6 tl tw tn ta : Tok} {lim wid n : Int} {ov : Obj} {logs pi : Array Value} {nl np : Nat} {T : Led} {b f : Nat} {vals : VD} {pile : List (List It × Int)} {ch : List It} {a : Int} {v : Value}
    (F : Fr g L s.heap m₀) (N : News g L s.heap (eng w t1 t2 t3 t4 t5 t6 pl dx vd rl ll lim wid n tl tw tn ov logs pi nl np T))
    (hv : m₀ (wN "chain") = some v) (ha : m₀ (wN "at") = some (.int a ta)) (hz : m₀ (wN "named") = some (.ref z))
    (P : EP w z x pl dx vd rl ll ov logs pi vals pile b T) (hc : ChIn w T v ch) (hr : run S f ch a vals pile = some res) (hn : 0 ≤ n) (hl : n + (f : Int) ≤ lim) (hb : b + f ≤ 9999)
    (turn : InTurn prog w A E Q s env g L test body m₀ S res z x pl dx vd rl ll t1 t2 t3 t4 t5 t6 tl tw lim wid T f)
    (hE : PassesOwn (model prog w) A env E := by passes_own) :
    wpAny (model prog w) A (exec (.While test body [] pos) env) Q E s := by
  refine While_inv2 (fun k m nx => ∃ (uw : Option Value) (tn' ta' : Tok) (n' : Int) (ov' : Obj) (logs' pi' : Array Value) (nl' np' : Nat) (T' : Led) (b' : Nat) (vals' : VD) (pile' : List (List It × Int)) (ch' : List It) (a' : Int) (v' : Value), m = inM m₀ v' a' ta' z uw ∧ nx = eng w t1 t2 t3 t4 t5 t6 pl dx vd rl ll lim wid n' tl tw tn' ov' logs' pi' nl' np' T' ∧
      EP w z x pl dx vd rl ll ov' logs' pi' vals' pile' b' T' ∧ ChIn w T' v' ch' ∧ run S k ch' a' vals' pile' = some res ∧ k ≤ f ∧ 0 ≤ n' ∧ n' + (k : Int) ≤ lim ∧ b' + k ≤ 9999 ∧ (∀ p ∈ T, p ∈ T')) F N (n₀ := f)
    ⟨m₀ (wN "way"), tn, ta, n, ov, logs, pi, nl, np, T, b, vals, pile, ch, a, v, ?_, rfl, P, hc, hr, Nat.le_refl _, hn, hl, hb, fun _ h => h⟩ ?_ hE
  · funext y
    show m₀ y = if y = wN "chain" then some v else if y = wN "at" then some (.int a ta) else if y = wN "named" then some (.ref z) else if y = wN "way" then m₀ (wN "way") else m₀ y
    by_cases h1 : y = wN "chain"
    · rw [if_pos h1, h1, hv]
    by_cases h2 : y = wN "at"
    · rw [if_neg h1, if_pos h2, h2, ha]
    by_cases h3 : y = wN "named"
    · rw [if_neg h1, if_neg h2, if_pos h3, h3, hz]
    by_cases h4 : y = wN "way"
    · rw [if_neg h1, if_neg h2, if_neg h3, if_pos h4, h4]
    rw [if_neg h1, if_neg h2, if_neg h3, if_neg h4]
  rintro k m₁ nx h tk F₁ N₁ ⟨uw, tn', ta', n', ov', logs', pi', nl', np', T', b', vals', pile', ch', a', v', rfl, rfl, P', hc', hr', hk', hn', hl', hb', hs⟩
  refine wpAny_mono (turn uw tn' ta' n' ov' logs' pi' nl' np' T' b' k vals' pile' ch' a' v' h tk F₁ N₁ P' hc' hr' hk' hn' hl' hb' hs) (fun bb s₂ p => ?_) fun _ _ x => x
  cases bb with
  | false => simpa using p
  | true =>
    simp only [if_true] at p ⊢
    refine wpAny_mono p (fun fl s₃ q => ?_) fun _ _ x => x
    cases fl with
    | ret r => exact q
    | brk => exact q
    | next =>
      obtain ⟨h', tk', uw₂, tn₂, ta₂, n₂, ov₂, logs₂, pi₂, nl₂, np₂, T₂, b₂, f₂, vals₂, pile₂, ch₂, a₂, v₂, rfl, F₂, N₂, P₂, c₂, r₂, lt, i1, i2, i3, i4⟩ := q
      exact ⟨h', tk', _, _, f₂, rfl, F₂, N₂, lt, uw₂, tn₂, ta₂, n₂, ov₂, logs₂, pi₂, nl₂, np₂, T₂, b₂, vals₂, pile₂, ch₂, a₂, v₂, rfl, rfl, P₂, c₂, r₂, Nat.le_trans (Nat.le_of_lt lt) hk', i1, i2, i3, fun p hp => i4 p (hs p hp)⟩
    | cont =>
      obtain ⟨h', tk', uw₂, tn₂, ta₂, n₂, ov₂, logs₂, pi₂, nl₂, np₂, T₂, b₂, f₂, vals₂, pile₂, ch₂, a₂, v₂, rfl, F₂, N₂, P₂, c₂, r₂, lt, i1, i2, i3, i4⟩ := q
      exact ⟨h', tk', _, _, f₂, rfl, F₂, N₂, lt, uw₂, tn₂, ta₂, n₂, ov₂, logs₂, pi₂, nl₂, np₂, T₂, b₂, vals₂, pile₂, ch₂, a₂, v₂, rfl, rfl, P₂, c₂, r₂, Nat.le_trans (Nat.le_of_lt lt) hk', i1, i2, i3, fun p hp => i4 p (hs p hp)⟩
end
end
section
theorem run_cons {S : Str} {f : Nat} {it : It} {rest : List It} {a : Int} {vals : VD} {pile : List (List It × Int)} {res : Int × VD} (h : run S f (it :: rest) a vals pile = some res) :
    ∃ k, f = k + 1 ∧ ((∃ st, adv1 S it rest a vals pile = some (some st) ∧ run S k st.ch st.at' st.vals st.pile = some res) ∨
      (adv1 S it rest a vals pile = some none ∧ ∃ ch2 a2 p, pile = (ch2, a2) :: p ∧ run S k ch2 a2 vals p = some res)) := by
  cases f with
  | zero => cases h
  | succ k =>
    refine ⟨k, rfl, ?_⟩
    unfold run at h
    split at h
    · cases h
    · rename_i st e
      exact .inl ⟨st, e, h⟩
    · rename_i e
      cases pile with
      | nil => cases h
      | cons x p => exact .inr ⟨e, x.1, x.2, p, rfl, h⟩
theorem run_nil {S : Str} {f : Nat} {a : Int} {vals : VD} {pile : List (List It × Int)} {res : Int × VD} (h : run S f [] a vals pile = some res) : res = (a, vals) := by
  cases f with
  | zero => cases h
  | succ k => unfold run at h; exact (Option.some.inj h).symm
section
variable {w : World} {mean : ExcName → Option Value} {mg mb : Str → Option Value} {dp un : Nat} {gd : Option (List Code)} {cn : Str} {cs : Scope} {a₀ : Addr} {ccd : Value} {cl : List (Str × Addr)} {outer : List Env} {A₀ : Around} {base h₀ : Heap} {L : Addr} {m : Str → Option Value} {s : Shared} {Q E : Value → Shared → Prop}
  {c z x pl dx vd rl ll : Addr} {t1 t2 t3 t4 t5 t6 tl tw tn ta ts : Tok} {lim wid n : Int} {ov : Obj} {logs pi : Array Value} {nl np : Nat} {T : Led} {b : Nat} {it : It} {rest : List It} {a : Int} {vals : VD} {pile : List (List It × Int)} {S : Str} {st : St}
theorem swap2 {α : Type} {a b : α} {l : List α} : ∀ p ∈ a :: b :: l, p ∈ b :: a :: l := fun p hp => by
  simp only [List.mem_cons] at hp ⊢
  rcases hp with h | h | h <;> simp [h]
theorem step_e (P : EP w z x pl dx vd rl ll ov logs pi vals pile b T) (hn : 0 ≤ n) (hl : n + 1 ≤ lim)
    (B : Below A₀ base outer h₀) (F : Fr h₀ L s.heap m) (X : (K w.params).In h₀) (N : News h₀ L s.heap (eng w t1 t2 t3 t4 t5 t6 pl dx vd rl ll lim wid n tl tw tn ov logs pi nl np T)) (Tp : Top topProg loose0 mean mg mb h₀) (hk : cs.kind = .function)
    (hdp : dp + 2 < recursionLimit) (hu : un + 16 < cLine)
    (hret : ∀ tn' h' tk', Fr h₀ L h' m → News h₀ L h' (eng w t1 t2 t3 t4 t5 t6 pl dx vd rl ll lim wid (n + 1) tl tw tn' ov logs pi nl np T) → Q .none { s with heap := h', toks := tk' }) :
    wpAny (model Challenge.rw_xm0938_01.row.prog w) (ktrTop dp un gd cn cs L a₀ ccd cl outer) (call (.ref 226) [.ref x]) Q E s := by
  refine step_c dp un gd cn cs a₀ ccd cl outer A₀ base h₀ L m s Q E x dx vd rl ll t1 t2 t3 t4 t5 t6 tl tw tn lim wid n _ (skip3 _ P.hx) ?_ hn hl B F X (cb_drop N swap2) Tp hk hdp hu (fun tn' h' tk' F' N' => hret tn' h' tk' F' (cb_drop N' swap2))
  intro p hp
  rcases List.mem_cons.mp hp with rfl | hp
  · exact fun e => P.d1 e
  rcases List.mem_cons.mp hp with rfl | hp
  · exact fun e => P.d4 e.symm
  rcases List.mem_cons.mp hp with rfl | hp
  · exact fun e => P.d5 e.symm
  exact P.adx p hp
theorem adv_go (P : EP w z x pl dx vd rl ll ov logs pi vals pile b T) (hch : ChIn w T (.ref c) (it :: rest)) (hS : S.length ≤ 100) (hb : b ≤ 9999) (hr : adv1 S it rest a vals pile = some (some st))
    (B : Below A₀ base outer h₀) (F : Fr h₀ L s.heap m) (X : (K w.params).In h₀) (N : News h₀ L s.heap (eng w t1 t2 t3 t4 t5 t6 pl dx vd rl ll lim wid n tl tw tn ov logs pi nl np T)) (Tp : Top topProg loose0 mean mg mb h₀) (hk : cs.kind = .function)
    (hdp : dp + 7 < recursionLimit) (hu : un + 56 < cLine)
    (hret : ∀ q v te ov' logs' pi' nl' np' T' h' tk', Fr h₀ L h' m → News h₀ L h' (eng w t1 t2 t3 t4 t5 t6 pl dx vd rl ll lim wid n tl tw tn ov' logs' pi' nl' np' T') →
          EP w z x pl dx vd rl ll ov' logs' pi' st.vals st.pile (b + 1) T' → (∀ p ∈ T, p ∈ T') → (q, tup [v, .int st.at' te, .ref z]) ∈ T' → ChIn w T' v st.ch → Q (.ref q) { s with heap := h', toks := tk' }) :
    wpAny (model Challenge.rw_xm0938_01.row.prog w) (ktrTop dp un gd cn cs L a₀ ccd cl outer) (call (.ref 411) [.ref c, .int a ta, .ref z, .str S ts, .ref pl, .ref x]) Q E s :=
  adv_step dp un gd cn cs a₀ ccd cl outer A₀ base h₀ L m s Q E c z x pl dx vd rl ll t1 t2 t3 t4 t5 t6 tl tw tn ta ts lim wid n ov logs pi nl np T b it rest a vals pile S _ P hch hS hb hr B F X N Tp hk hdp hu hret
theorem adv_no (P : EP w z x pl dx vd rl ll ov logs pi vals pile b T) (hch : ChIn w T (.ref c) (it :: rest)) (hS : S.length ≤ 100) (hb : b ≤ 9999) (hr : adv1 S it rest a vals pile = some none)
    (B : Below A₀ base outer h₀) (F : Fr h₀ L s.heap m) (X : (K w.params).In h₀) (N : News h₀ L s.heap (eng w t1 t2 t3 t4 t5 t6 pl dx vd rl ll lim wid n tl tw tn ov logs pi nl np T)) (Tp : Top topProg loose0 mean mg mb h₀) (hk : cs.kind = .function)
    (hdp : dp + 7 < recursionLimit) (hu : un + 56 < cLine)
    (hret : ∀ h' tk', Fr h₀ L h' m → News h₀ L h' (eng w t1 t2 t3 t4 t5 t6 pl dx vd rl ll lim wid n tl tw tn ov logs pi nl np T) → Q .none { s with heap := h', toks := tk' }) :
    wpAny (model Challenge.rw_xm0938_01.row.prog w) (ktrTop dp un gd cn cs L a₀ ccd cl outer) (call (.ref 411) [.ref c, .int a ta, .ref z, .str S ts, .ref pl, .ref x]) Q E s :=
  adv_step dp un gd cn cs a₀ ccd cl outer A₀ base h₀ L m s Q E c z x pl dx vd rl ll t1 t2 t3 t4 t5 t6 tl tw tn ta ts lim wid n ov logs pi nl np T b it rest a vals pile S _ P hch hS hb hr B F X N Tp hk hdp hu hret
end
/-- the host's part of EP, where no pile stands -/
structure EPH (w : World) (x dx vd rl ll : Addr) (ov : Obj) (logs : Array Value) (vals : VD) (b : Nat) (T : Led) : Prop where
  hx : (x, instObj 229 dx) ∈ T
  hr : (rl, listOf #[] 0) ∈ T
  adx : ∀ p ∈ T, p.1 ≠ dx
  avd : ∀ p ∈ T, p.1 ≠ vd
  all : ∀ p ∈ T, p.1 ≠ ll
  d4 : @Ne Nat dx vd
  d5 : @Ne Nat dx ll
  d6 : @Ne Nat vd ll
  kv : ∃ kvs, ov.IsDictOf (strKind Challenge.rw_xm0938_01.row.prog w) kvs ∧ FlatPairs PyData.str kvs vals
  bv : vals.length ≤ b
  bl : logs.size ≤ b
noncomputable abbrev engH (w : World) (t1 t2 t3 t4 t5 t6 : Tok) (dx vd rl ll : Addr) (lim wid n : Int) (tl tw tn : Tok) (ov : Obj) (logs : Array Value) (nl : Nat) (T : Led) : Led :=
  (dx, hostD w t1 t2 t3 t4 t5 t6 vd rl ll lim wid n tl tw tn) :: (vd, ov) :: (ll, listOf logs nl) :: T
theorem rotI {α : Type} {l q z c d v e : α} {T : List α} : ∀ p ∈ l :: d :: v :: e :: q :: z :: c :: T, p ∈ l :: q :: z :: c :: d :: v :: e :: T := fun p hp => by
  simp only [List.mem_cons] at hp ⊢
  rcases hp with h | h | h | h | h | h | h | h <;> simp [h]
theorem EPH.ep {w : World} {x dx vd rl ll pl q z c1 c : Addr} {t1 t2 t3 t4 t5 t6 tl tw tn tb : Tok} {lim wid n n0 : Int} {ov : Obj} {logs : Array Value} {nl : Nat} {vals : VD} {b : Nat} {T : Led} {nd : Nd} {g h : Heap} {L : Addr}
    (P : EPH w x dx vd rl ll ov logs vals b T) (hb : 1 ≤ b) (hnd : NdIn w T c nd)
    (N : News g L h ((pl, listOf #[.ref q] 0) :: (q, tup [.ref c1, .int n0 tb, .ref z]) :: (z, tup []) :: (c1, tup [.ref c, .none]) :: engH w t1 t2 t3 t4 t5 t6 dx vd rl ll lim wid n tl tw tn ov logs nl T))
    (hp : ∀ p ∈ T, p.1 ≠ pl) (h1 : @Ne Nat pl dx) (h2 : @Ne Nat pl vd) (h3 : @Ne Nat pl ll) :
    EP w z x pl dx vd rl ll ov logs #[.ref q] vals [([.nd nd], n0)] b ((q, tup [.ref c1, .int n0 tb, .ref z]) :: (z, tup []) :: (c1, tup [.ref c, .none]) :: T) := by
  have N2 := cb_drop N rotI
  have ovd : ∀ vs, tup vs ≠ ov := fun vs e => by
    obtain ⟨kvs, ⟨es, ep, _, hd, _⟩, _⟩ := P.kv
    have := congrArg Obj.data e
    rw [hd] at this
    simp at this
  have hT : ∀ (R : Addr × Obj → Prop), R (q, tup [.ref c1, .int n0 tb, .ref z]) → R (z, tup []) → R (c1, tup [.ref c, .none]) → (∀ p ∈ T, R p) → ∀ p ∈ ((q, tup [.ref c1, .int n0 tb, .ref z]) :: (z, tup []) :: (c1, tup [.ref c, .none]) :: T), R p := fun R r1 r2 r3 r4 p hp => by
    rcases List.mem_cons.mp hp with rfl | hp
    · exact r1
    rcases List.mem_cons.mp hp with rfl | hp
    · exact r2
    rcases List.mem_cons.mp hp with rfl | hp
    · exact r3
    exact r4 p hp
  have m1 : ∀ {o : Addr × Obj}, o ∈ ((q, tup [.ref c1, .int n0 tb, .ref z]) :: (z, tup []) :: (c1, tup [.ref c, .none]) :: T) → o ∈ ((pl, listOf #[.ref q] 0) :: (dx, hostD w t1 t2 t3 t4 t5 t6 vd rl ll lim wid n tl tw tn) :: (vd, ov) :: (ll, listOf logs nl) :: (q, tup [.ref c1, .int n0 tb, .ref z]) :: (z, tup []) :: (c1, tup [.ref c, .none]) :: T) := fun h => skip4 _ h
  have e1 : ∀ vs (es : List DictEntry) n, tup vs ≠ dictOf es n := fun vs es n e => by
    have := congrArg Obj.data e
    simp at this
  refine ⟨skip3 _ P.hx, skip3 _ P.hr, List.mem_cons_of_mem _ List.mem_cons_self, ?_, ?_, ?_, ?_, h1, h2, h3, P.d4, P.d5, P.d6, P.kv, P.bv, P.bl, hb, ?_⟩
  · exact hT (fun p => p.1 ≠ pl) (apart N2 (m1 List.mem_cons_self) List.mem_cons_self tup_ne_list) (apart N2 (m1 (skip1 _ List.mem_cons_self)) List.mem_cons_self tup_ne_list) (apart N2 (m1 (skip2 _ List.mem_cons_self)) List.mem_cons_self tup_ne_list) hp
  · exact hT (fun p => p.1 ≠ dx) (apart N2 (m1 List.mem_cons_self) (skip1 _ List.mem_cons_self) (e1 _ _ _)) (apart N2 (m1 (skip1 _ List.mem_cons_self)) (skip1 _ List.mem_cons_self) (e1 _ _ _)) (apart N2 (m1 (skip2 _ List.mem_cons_self)) (skip1 _ List.mem_cons_self) (e1 _ _ _)) P.adx
  · exact hT (fun p => p.1 ≠ vd) (apart N2 (m1 List.mem_cons_self) (skip2 _ List.mem_cons_self) (ovd _)) (apart N2 (m1 (skip1 _ List.mem_cons_self)) (skip2 _ List.mem_cons_self) (ovd _)) (apart N2 (m1 (skip2 _ List.mem_cons_self)) (skip2 _ List.mem_cons_self) (ovd _)) P.avd
  · exact hT (fun p => p.1 ≠ ll) (apart N2 (m1 List.mem_cons_self) (skip3 _ List.mem_cons_self) tup_ne_list) (apart N2 (m1 (skip1 _ List.mem_cons_self)) (skip3 _ List.mem_cons_self) tup_ne_list) (apart N2 (m1 (skip2 _ List.mem_cons_self)) (skip3 _ List.mem_cons_self) tup_ne_list) P.all
  · show PiIn w z _ [Value.ref q] _
    exact .cons List.mem_cons_self (.cons (skip2 _ List.mem_cons_self) (.nd (hnd.mono skip3)) .nil) .nil
theorem EP.eph {w : World} {z x pl dx vd rl ll : Addr} {ov : Obj} {logs pi : Array Value} {vals : VD} {pile : List (List It × Int)} {b : Nat} {T : Led} (P : EP w z x pl dx vd rl ll ov logs pi vals pile b T) : EPH w x dx vd rl ll ov logs vals b T :=
  ⟨P.hx, P.hr, P.adx, P.avd, P.all, P.d4, P.d5, P.d6, P.kv, P.bv, P.bl⟩
end
section
theorem allLt_ne {d : Addr} : ∀ {l : Led}, AllLt d l → ∀ p ∈ l, p.1 ≠ d
  | [], _, _, h => nomatch h
  | _ :: _, h, _, .head _ => Nat.ne_of_lt h.1
  | _ :: _, h, p, .tail _ hp => allLt_ne h.2 p hp
theorem fr_eq {g h : Heap} {L : Addr} {m m' : Str → Option Value} (F : Fr g L h m) (e : ∀ y, m y = m' y) : Fr g L h m' := (funext e : m = m') ▸ F
theorem fr_out {g h : Heap} {L : Addr} {m m₀ : Str → Option Value} (F : Fr g L h m) (e : ∀ y, ¬ triedSt.contains y = true → m y = m₀ y) : Fr g L h (fun y => if triedSt.contains y then m y else m₀ y) :=
  fr_eq F fun y => by
    by_cases h : triedSt.contains y = true
    · rw [if_pos h]
    · rw [if_neg h]; exact e y h
section
variable {prog : Program} {A : Around} {E : Value → Shared → Prop} {Q : Flow → Shared → Prop} {s : Shared} {env : Env} {g : Heap} {L : Addr}
theorem outT {w : World} {test : Expr} {body : List Stmt} {pos : Pos} {m₀ : Str → Option Value} {S : Str} {res : Int × VD}
    {x pl dx vd rl ll q z c1 c : Addr} {t1 t2 t3 t4 t5 t6 tl tw tn tb : Tok} {lim wid n n0 : Int} {ov : Obj} {logs : Array Value} {nl : Nat} {vals : VD} {b f : Nat} {T : Led} {nd : Nd}
    (F : Fr g L s.heap m₀)
    (N : News g L s.heap ((pl, listOf #[.ref q] 0) :: (q, tup [.ref c1, .int n0 tb, .ref z]) :: (z, tup []) :: (c1, tup [.ref c, .none]) :: engH w t1 t2 t3 t4 t5 t6 dx vd rl ll lim wid n tl tw tn ov logs nl T))
    (P : EPH w x dx vd rl ll ov logs vals b T) (hb1 : 1 ≤ b) (hnd : NdIn w T c nd) (hlt : AllLt pl T) (h1 : @Ne Nat pl dx) (h2 : @Ne Nat pl vd) (h3 : @Ne Nat pl ll)
    (hr : run S f [.nd nd] n0 vals [] = some res) (hn : 0 ≤ n) (hl : n + (f : Int) ≤ lim) (hb : b + f ≤ 9999)
    (turn : OutTurn prog w A E Q s env g L test body m₀ S res z x pl dx vd rl ll t1 t2 t3 t4 t5 t6 tl tw lim wid ((q, tup [.ref c1, .int n0 tb, .ref z]) :: (z, tup []) :: (c1, tup [.ref c, .none]) :: T))
    (hE : PassesOwn (model prog w) A env E := by passes_own) :
    wpAny (model prog w) A (exec (.While test body [] pos) env) Q E s :=
  outW F (cb_drop N rotI) (P.ep hb1 hnd N (allLt_ne hlt) h1 h2 h3) hr hn hl hb turn hE
theorem len_any {w : World} {Q : Value → Shared → Prop} {news : Led} {l : Addr} {its : Array Value} {k : Nat} {m : Str → Option Value} (N : News g L s.heap news) (hm : (l, listOf its k) ∈ news) (hfit : (its.size : Int) < 2 ^ 63)
    (h : Q (.int its.size (s.toks + 1)) { s with toks := s.toks + 1 + 1 }) : wpAny (model prog w) A (call (.builtin "len") [.ref l]) Q E s := len_list (News.isList N hm) hfit h
end
theorem eqTS {prog : Program} {w : World} {A : Around} {E : Value → Shared → Prop} {s : Shared} {g : Heap} {L q : Addr} {Q : Value → Shared → Prop} {news : Led} {vs : List Value} {b : Str} {u : Tok} (N : News g L s.heap news) (hm : (q, tup vs) ∈ news) (hu : A.units < cLine)
    (h : Q (.bool false) s) : wpAny (model prog w) A (compareOp .Eq (.ref q) (.str b u)) Q E s :=
  PySem.SeqAt.RcAt.tuple_str (items := vs.toArray) b u ⟨_, (N _ hm).1, rfl, _, rfl⟩ hu prog w E _ h
local macro_rules | `(tactic| walk_at "compareOp Eq ref str") => `(tactic| (k_here; (with_reducible show wpAny _ _ (compareOp CmpOp.Eq (Value.ref _) (Value.str _ _)) _ _ _); k_dflt (refine' eqTS ?N ?m ?u ?_; (case N => k_asm); (case m => k_mem); (case u => ktr_units); k_whole)))
local macro_rules | `(tactic| k_room) => `(tactic| ktr_room)
local macro_rules | `(tactic| k_all) => `(tactic| first | with_reducible assumption | exact EP.apl (by assumption))
local macro_rules | `(tactic| k_mem) => `(tactic| first | with_reducible assumption | (with_reducible exact List.mem_cons_self) | (refine' List.mem_cons_of_mem _ ?_; k_mem))
local macro_rules | `(tactic| walk_at "subscriptTail") => `(tactic| (k_here; (with_reducible show wpAny _ _ (subscriptTail _ _ (Value.ref _) (Value.int _ _)) _ _ _); k_dflt (refine' item_tupleT ?t ?a ?b ?c ?d ?_; (case t => exact News.isTup (by k_asm) (by k_mem)); (case a => decide); (case b => decide); (case c => rfl); (case d => rfl); k_whole)))
local macro_rules | `(tactic| walk_at "call builtin:len") => `(tactic| (k_here; (with_reducible show wpAny _ _ (call (Value.builtin "len") [Value.ref _]) _ _ _); k_dflt (refine' len_any ?N ?m ?f ?_; (case N => k_asm); (case m => k_mem); (case f => assumption); k_whole)))
local macro_rules | `(tactic| walk_at "call builtin:list.pop") => `(tactic| (k_here; k_dflt (refine' kl_pop ?F ?N ?e ?U ?z ?_; (case F => k_asm); (case N => k_asm); (case U => k_upd); (case e => exact kpa_last _ _); (case z => assumption)); intro h' F' N'))
def Stop (P : Prop) : Prop := P
theorem stopI {P : Prop} (h : Stop P) : P := h
local macro_rules | `(tactic| walk_at "exec While Compare cons nil") => `(tactic| (k_here; refine stopI ?_))
local macro_rules | `(tactic| walk_at "call ref") => `(tactic| (k_here; (with_reducible show wpAny _ _ (call (Value.ref 226) _) _ _ _); k_dflt (refine' step_e ?P ?n ?l ?B ?F ?X ?N ?T ?k ?d ?u ?_; (case P => assumption); (case F => k_asm); (case N => k_asm); (case n => with_reducible assumption); (case l => omega); (case B => k_asm); (case X => k_asm); (case T => k_asm); (case k => exact rfl); (case d => ktr_room); (case u => ktr_units)); intro tn9 h9 tk9 F9 N9))
set_option hygiene false in
local macro_rules | `(tactic| walk_at "call ref") => `(tactic| (k_here; (with_reducible show wpAny _ _ (call (Value.ref 411) _) _ _ _); k_dflt (refine' adv_go ?P ?c ?S ?b ?r ?B ?F ?X ?N ?T ?k ?d ?u ?_; (case P => assumption); (case F => k_asm); (case N => k_asm); (case c => with_reducible assumption); (case S => with_reducible assumption); (case b => omega); (case r => with_reducible assumption); (case B => k_asm); (case X => k_asm); (case T => k_asm); (case k => exact rfl); (case d => ktr_room); (case u => ktr_units)); intro q9 v9 te9 ov9 logs9 pi9 nl9 np9 T9 h9 tk9 F9 N9 P9 hs9 hq9 hc9))
set_option hygiene false in
local macro_rules | `(tactic| walk_at "call ref") => `(tactic| (k_here; (with_reducible show wpAny _ _ (call (Value.ref 411) _) _ _ _); k_dflt (refine' adv_no ?P ?c ?S ?b ?r ?B ?F ?X ?N ?T ?k ?d ?u ?_; (case P => assumption); (case F => k_asm); (case N => k_asm); (case c => with_reducible assumption); (case S => with_reducible assumption); (case b => omega); (case r => with_reducible assumption); (case B => k_asm); (case X => k_asm); (case T => k_asm); (case k => exact rfl); (case d => ktr_room); (case u => ktr_units)); intro h9 tk9 F9 N9))
theorem tried_c {w : World} {mean : ExcName → Option Value} {mg mb : Str → Option Value} (dp un : Nat) (gd : Option (List Code)) (cn : Str) (cs : Scope) (a : Addr) (ccd : Value) (cl : List (Str × Addr)) (outer : List Env) (A₀ : Around) (base h₀ : Heap) (L : Addr) (m : Str → Option Value) (s : Shared) (Q E : Value → Shared → Prop)
    (c x dx vd rl ll : Addr) (t1 t2 t3 t4 t5 t6 tl tw tn tb ts : Tok) (lim wid n n0 : Int) (ov : Obj) (logs : Array Value) (nl : Nat) (vals : VD) (b f : Nat) (T : Led) (nd : Nd) (S : Str) (res : Int × VD)
    (P : EPH w x dx vd rl ll ov logs vals b T) (hb1 : 1 ≤ b) (hnd : NdIn w T c nd) (hrun : run S f [.nd nd] n0 vals [] = some res) (hn : 0 ≤ n) (hl : n + (f : Int) ≤ lim) (hb : b + f ≤ 9999) (hS : S.length ≤ 100) :
    Below A₀ base outer h₀ → Fr h₀ L s.heap m → (K w.params).In h₀ → News h₀ L s.heap (engH w t1 t2 t3 t4 t5 t6 dx vd rl ll lim wid n tl tw tn ov logs nl T) → Top topProg loose0 mean mg mb h₀ → cs.kind = .function →
    dp + 9 < recursionLimit → un + 72 < cLine →
    (∀ q lq kq te ov' n' tn' kvs T' h' tk', Fr h₀ L h' m → News h₀ L h' T' → (∀ p ∈ T, p ∈ T') → (q, tup [.int res.1 te, .ref lq]) ∈ T' → (lq, listOf #[] kq) ∈ T' → (dx, hostD w t1 t2 t3 t4 t5 t6 vd rl ll lim wid n' tl tw tn') ∈ T' → (vd, ov') ∈ T' →
      ov'.IsDictOf (strKind Challenge.rw_xm0938_01.row.prog w) kvs → FlatPairs PyData.str kvs res.2 → Q (.ref q) { s with heap := h', toks := tk' }) →
    wpAny (model Challenge.rw_xm0938_01.row.prog w) (ktrTop dp un gd cn cs L a ccd cl outer) (call (.ref 404) [.ref c, .str S ts, .int n0 tb, .ref x]) Q E s := by
  k_fill
  intro B F X N Tp hk hdp hu hret
  refine wpAny_call ?_
  k_dflt ktr_enter
  k_steps
  unfold Stop
  k_dflt (refine' outT ?F ?N ?P ?b1 ?nd ?lt ?h1 ?h2 ?h3 ?r ?n ?l ?b ?turn)
  case F => k_asm
  case N => k_asm
  case P => exact P
  case b1 => exact hb1
  case nd => exact hnd
  case lt => simp_all only [and_true]
  case h1 => omega
  case h2 => omega
  case h3 => omega
  case r => exact hrun
  case n => exact hn
  case l => exact hl
  case b => exact hb
  case turn =>
    intro u tn' n' ov' logs' nl' np' T' b' f' vals' pile' ch' a' ps q v ta h tk F' N' P' hq' hc' hr' hn' hl' hb' hs' hg1 hg2 hg3
    k_steps
    all_goals (try k_data)
    unfold Stop
    k_dflt (refine' inW ?F ?N ?hv ?ha ?hz ?P ?c ?r ?n ?l ?b ?turn)
    case F => k_asm
    case N => k_asm
    case hv => exact rfl
    case ha => exact rfl
    case hz => exact rfl
    case P => exact P'
    case c => exact hc'
    case r => exact hr'
    case n => exact hn'
    case l => exact hl'
    case b => exact hb'
    case turn =>
      intro uw tn2 ta2 n2 ov2 logs2 pi2 nl2 np2 T2 b2 f2 vals2 pile2 ch2 a2 v2 h2 tk2 F2 N2 P2 hc2 hr2 hf2 hn2 hl2 hb2 hs2
      have hx9 := EP.hx P2
      have hz9 := EP.hz P2
      cases hc2 with
      | nil =>
        have hres := run_nil hr2
        subst hres
        obtain ⟨kvs, hov, hfl⟩ := P2.kv
        k_steps
        have hsub : ∀ p ∈ T, p ∈ T2 := fun p hp => hs2 _ (hs' _ (skip3 _ hp))
        apply hret
        · k_asm
        · k_asm
        · intro p hp
          have := hsub p hp
          k_mem
        · k_mem
        · k_mem
        · k_mem
        · k_mem
        · exact hov
        · exact hfl
      | cons hm hi hrest =>
        have hcc := ChIn.cons hm hi hrest
        obtain ⟨k2, hk2, hh⟩ := run_cons hr2
        subst hk2
        rcases hh with ⟨st, hadv, hrn⟩ | ⟨hadv, ch3, a3, p3, hp3, hrn⟩
        · k_steps
          refine ⟨_, _, some (.ref q9), _, te9, _, ov9, logs9, pi9, nl9, np9, T9, _, k2, st.vals, st.pile, st.ch, st.at', v9, rfl, fr_eq (by k_asm) ?_, by k_asm, P9, hc9, hrn, Nat.lt_succ_self _, by omega, by omega, by omega, hs9⟩
          intro y
          by_cases e1 : y = Str.ofString "way"
          · subst e1; rfl
          by_cases e2 : y = Str.ofString "chain"
          · subst e2; rfl
          by_cases e3 : y = Str.ofString "at"
          · subst e3; rfl
          by_cases e4 : y = Str.ofString "named"
          · subst e4; rfl
          simp only [inM, wN, if_neg e1, if_neg e2, if_neg e3, if_neg e4]
        · subst hp3
          k_steps
          refine ⟨_, _, _, _, _, ov2, logs2, pi2, nl2, np2, T2, b2, k2, vals2, p3, ch3, a3, rfl, fr_out (by k_asm) ?_, by k_asm, P2, hrn, by omega, by omega, by omega, by omega, hs2⟩
          intro y e
          have e1 : y ≠ Str.ofString "way" := fun h => e (by subst h; rfl)
          have e2 : y ≠ Str.ofString "chain" := fun h => e (by subst h; rfl)
          have e3 : y ≠ Str.ofString "at" := fun h => e (by subst h; rfl)
          have e4 : y ≠ Str.ofString "named" := fun h => e (by subst h; rfl)
          simp only [inM, wN, if_neg e1, if_neg e2, if_neg e3, if_neg e4, if_neg e]
end
section
/-- a ledger without the host's three -/
noncomputable def restOf (l : Led) (dx vd ll : Addr) : Led := l.filter fun p => p.1 != dx && p.1 != vd && p.1 != ll
theorem memF {l : Led} {dx vd ll : Addr} {p : Addr × Obj} (h : p ∈ l) (h1 : @Ne Nat p.1 dx) (h2 : @Ne Nat p.1 vd) (h3 : @Ne Nat p.1 ll) : p ∈ restOf l dx vd ll :=
  List.mem_filter.mpr ⟨h, by simp only [Bool.and_eq_true, bne_iff_ne]; exact ⟨⟨h1, h2⟩, h3⟩⟩
section
variable {w : World} {mean : ExcName → Option Value} {mg mb : Str → Option Value} {dp un : Nat} {gd : Option (List Code)} {cn : Str} {cs : Scope} {a₀ : Addr} {ccd : Value} {cl : List (Str × Addr)} {outer : List Env} {A₀ : Around} {base h₀ : Heap} {L : Addr} {m : Str → Option Value} {s : Shared} {Q E : Value → Shared → Prop}
  {c x dx vd rl ll : Addr} {t1 t2 t3 t4 t5 t6 tl tw tn tb ts : Tok} {lim wid n n0 : Int} {ov : Obj} {logs : Array Value} {nl : Nat} {vals : VD} {b f : Nat} {T T' l : Led} {nd : Nd} {S : Str} {res : Int × VD}
theorem tried_e (P : EPH w x dx vd rl ll ov logs vals b T)
    (B : Below A₀ base outer h₀) (F : Fr h₀ L s.heap m) (X : (K w.params).In h₀) (N : News h₀ L s.heap l) (Tp : Top topProg loose0 mean mg mb h₀) (hk : cs.kind = .function)
    (hTl : ∀ p ∈ T, p ∈ l) (q1 : (dx, hostD w t1 t2 t3 t4 t5 t6 vd rl ll lim wid n tl tw tn) ∈ l) (q2 : (vd, ov) ∈ l) (q3 : (ll, listOf logs nl) ∈ l)
    (hb1 : 1 ≤ b) (hnd : NdIn w (restOf l dx vd ll) c nd) (hrun : run S f [.nd nd] n0 vals [] = some res) (hn : 0 ≤ n) (hl : n + (f : Int) ≤ lim) (hb : b + f ≤ 9999) (hS : S.length ≤ 100)
    (hdp : dp + 9 < recursionLimit) (hu : un + 72 < cLine)
    (hret : ∀ q lq kq te ov' n' tn' kvs T₂ h' tk', Fr h₀ L h' m → News h₀ L h' T₂ → (∀ p ∈ restOf l dx vd ll, p ∈ T₂) → (q, tup [.int res.1 te, .ref lq]) ∈ T₂ → (lq, listOf #[] kq) ∈ T₂ → (dx, hostD w t1 t2 t3 t4 t5 t6 vd rl ll lim wid n' tl tw tn') ∈ T₂ → (vd, ov') ∈ T₂ →
      ov'.IsDictOf (strKind Challenge.rw_xm0938_01.row.prog w) kvs → FlatPairs PyData.str kvs res.2 → Q (.ref q) { s with heap := h', toks := tk' }) :
    wpAny (model Challenge.rw_xm0938_01.row.prog w) (ktrTop dp un gd cn cs L a₀ ccd cl outer) (call (.ref 404) [.ref c, .str S ts, .int n0 tb, .ref x]) Q E s := by
  have hT : ∀ p ∈ T, p ∈ restOf l dx vd ll := fun p hp => memF (hTl p hp) (P.adx p hp) (P.avd p hp) (P.all p hp)
  have ap : ∀ p ∈ restOf l dx vd ll, p.1 ≠ dx ∧ p.1 ≠ vd ∧ p.1 ≠ ll := fun p hp => by
    have := (List.mem_filter.mp hp).2
    simp only [Bool.and_eq_true, bne_iff_ne] at this
    exact ⟨this.1.1, this.1.2, this.2⟩
  refine tried_c dp un gd cn cs a₀ ccd cl outer A₀ base h₀ L m s Q E c x dx vd rl ll t1 t2 t3 t4 t5 t6 tl tw tn tb ts lim wid n n0 ov logs nl vals b f (restOf l dx vd ll) nd S res
    ⟨hT _ P.hx, hT _ P.hr, fun p hp => (ap p hp).1, fun p hp => (ap p hp).2.1, fun p hp => (ap p hp).2.2, P.d4, P.d5, P.d6, P.kv, P.bv, P.bl⟩ hb1 hnd hrun hn hl hb hS B F X (cb_drop N ?_) Tp hk hdp hu hret
  intro p hp
  rcases List.mem_cons.mp hp with rfl | hp
  · exact q1
  rcases List.mem_cons.mp hp with rfl | hp
  · exact q2
  rcases List.mem_cons.mp hp with rfl | hp
  · exact q3
  exact (List.mem_filter.mp hp).1
end
/-- the code table of _law_turned: not yet filled, or filled with text_of's code -/
def TabSt (pos : Pos) (qual : Str) (I : Addr) (news : Led) (o : Obj) : Prop :=
  o = tabObj #[] ∨ ∃ c' oc vs t, o = tabObj #[rawInt pos.line, rawInt pos.col, .ref c'] ∧ (c', oc) ∈ news ∧ oc.data = .fields vs ∧ vs[1]? = some (.str qual t) ∧ @Ne Nat c' I
section
variable {M : Model} {A : Around} {E : Value → Shared → Prop} {s : Shared} {h₀ : Heap} {L a c P : Addr} {m mg mb : Str → Option Value} {cn : Str} {cs : Scope} {ccd : Value} {cl : List (Str × Addr)} {news : List (Addr × Obj)} {g : Obj → List (Addr × Obj)}
  {p : Program} {loose : List Str} {mean : ExcName → Option Value} {name qual : Str} {params : Arguments} {body : List Stmt} {scope : Scope} {o : Obj} {pos : Pos} {firstLine : Nat} {clos : List (Str × Addr)}
theorem updF_mem : ∀ {l : List (Addr × Obj)} {d : Addr} {o : Obj} {g : Obj → List (Addr × Obj)}, UpdF d o l g → (d, o) ∈ l ∧ g o = l
  | _, _, _, _, .head _ => ⟨List.mem_cons_self, rfl⟩
  | _, _, _, _, .tail _ r => ⟨List.mem_cons_of_mem _ (updF_mem r).1, congrArg (List.cons _) (updF_mem r).2⟩
theorem nestAny {Q : Value → Shared → Prop} (F : Fr h₀ L s.heap m) (N : News h₀ L s.heap news) (T : Top p loose mean mg mb h₀) (C : CodeHd h₀ c P) (hcd : ccd = .ref c) (U : UpdF P o news g) {I : Addr} {oI : Obj} (hI : (I, oI) ∈ news) (hst : TabSt pos qual I news o)
    (hcl : closureFor scope (envX cn cs L a ccd cl) = pure clos)
    (h : ∀ f c' oc vs t ctv doc h' tk, Fr h₀ L h' m →
      News h₀ L h' ((f, fnMade name qual params body scope clos doc ((mg "__name__").getD .none) c' ctv) :: (c', oc) :: g (tabObj #[rawInt pos.line, rawInt pos.col, .ref c'])) →
      oc.data = .fields vs → vs[1]? = some (.str qual t) → (∀ q ∈ news, q.1 < f) → @Ne Nat c' I → Q (.ref f) { s with heap := h', toks := tk }) :
    wpAny M A (makeFunction name qual params (.stmts body) scope (envX cn cs L a ccd cl) [] [] [] pos firstLine) Q E s := by
  rcases hst with rfl | ⟨c', oc, vs, t, rfl, hm, hd, hv, hne⟩
  · exact nest_K (ps := #[]) F N T C hcd U True.intro rfl hcl fun f c' oc vs t ctv doc h' tk F' N' hd hv l1 l2 => h f c' oc vs t ctv doc h' tk F' N' hd hv (fun q hq => Nat.lt_trans (l1 q hq) l2) (Nat.ne_of_gt (l1 _ hI))
  · refine nestHit_K F N T C hcd (updF_mem U).1 True.intro (codeAmong_snoc [] True.intro rfl) hcl fun f ctv doc h' tk F' N' l1 => h f c' oc vs t ctv doc h' tk F' ?_ hd hv l1 hne
    rw [(updF_mem U).2]
    intro q hq
    rcases List.mem_cons.mp hq with rfl | hq
    · exact N' _ List.mem_cons_self
    rcases List.mem_cons.mp hq with rfl | hq
    · exact N' _ (List.mem_cons_of_mem _ hm)
    · exact N' _ (List.mem_cons_of_mem _ hq)
end
theorem forEmpty {prog : Program} {w : World} {A : Around} {E : Value → Shared → Prop} {s : Shared} {g : Heap} {L l : Addr} {m : Str → Option Value} {news : Led} {k : Nat} {target : Expr} {body : List Stmt} {env : Env} {R : Result → Shared → Prop}
    (hh : A.handled = none) (F : Fr g L s.heap m) (N : News g L s.heap news) (hm : (l, listOf #[] k) ∈ news)
    (h : ∀ h', Fr g L h' m → News g L h' news → R (.ok .next) { s with heap := h' }) :
    wpAny (model prog w) A (pyIter (.ref l)) (fun it s₂ => codeAny (model prog w) A (.forLoop target it body [] env) R s₂) E s := by
  have hl := News.isList N hm
  refine wpAny_pyIter_list hl ?_
  refine codeAny_forLoop_any (fun n s' => n = 0 ∧ s' = { s with heap := s.heap.push { cls := .type "list_iterator", data := .fields #[.ref l, .int 0 0] } }) ?_ 0 ⟨rfl, rfl⟩
  rintro n s' ⟨rfl, rfl⟩
  have hlt : l < s.heap.objs.size := Heap.lt_size (N _ hm).1
  obtain ⟨ol, hol, hol2⟩ := hl
  refine wpAny_pyNext_list_end hh ⟨_, Heap.get?_push_size _ rfl, rfl, rfl⟩ ⟨ol, Heap.get?_push_of_some _ hol, hol2⟩ rfl (fun h' hx => ?_)
  refine wpAny_execs_nil ?_
  refine h h' ⟨(F.push _).ns.extBut hx (Nat.ne_of_lt F.ns.lt), fun b o e => hx b o (Nat.ne_of_lt (Heap.lt_size (F.keep b o e))) ((F.push _).keep b o e), F.above⟩ (fun p hp => ⟨hx _ _ (Nat.ne_of_lt (Heap.lt_size (N p hp).1)) (Heap.get?_push_of_some _ (N p hp).1), (N p hp).2⟩)
end
section
section
variable {M : Model} {A : Around} {E : Value → Shared → Prop} {s : Shared}
theorem newEnv1 {scope : Scope} {globals : Addr} {cl : List (Str × Addr)} {x : Str} {v : Value} {qual : Str} {func : Option Addr} {code : Value} {builtins : Addr} {Q : Env → Shared → Prop}
    (hk : scope.kind = .function) (hkc : scope.names.lookup x = some .cell) (hcf : ∀ n, cellsFrom n scope.names cl = (x, n) :: cl) (hpc : ∀ h, pushCells h scope.names = h.push { cls := .type "cell", data := .cell none })
    (hQ : ∀ env, env = newEnv scope s.heap.objs.size globals ((x, s.heap.objs.size + 1) :: cl) qual func code none builtins →
      ∀ h₁ tk, h₁.Ns s.heap.objs.size (fun _ => none) → h₁.IsCell (s.heap.objs.size + 1) (some v) → (∀ b o, s.heap.get? b = some o → h₁.get? b = some o) → Q env { s with heap := h₁, toks := tk }) :
    wpAny M A (newFunctionEnv scope globals cl [(x, v)] qual func code none builtins) Q E s := by
  simp only [newFunctionEnv, Option.isSome_none, Bool.false_eq_true, if_false]
  refine wpAny_bind (wpAny_alloc ?_)
  refine wpAny_bind (wpAny_layCells _ (fun name kind cells => by cases hkc : kind == NameKind.cell <;> simp [hkc]) _ _ _ _ ?_)
  rw [show ({ s with heap := s.heap.push { cls := .type "frame", data := .dict #[] } } : Shared).heap.objs.size = s.heap.objs.size + 1 from Heap.size_push ..]
  rw [hcf, hpc]
  refine wpAny_bind ?_
  rw [List.forIn_cons]
  have hsz : (s.heap.push { cls := .type "frame", data := .dict #[] }).objs.size = s.heap.objs.size + 1 := Heap.size_push ..
  have hcell : ((s.heap.push { cls := .type "frame", data := .dict #[] }).push { cls := .type "cell", data := .cell none }).IsCell (s.heap.objs.size + 1) none := by
    rw [← hsz]
    exact ⟨_, Heap.get?_push_size _ rfl, rfl⟩
  refine wpAny_bind (wpAny_bind (wpAny_storeName_cell (c := s.heap.objs.size + 1) (v₀ := none) hk hkc (by rw [List.lookup_cons]; simp) hcell fun h' hc' hs' => wpAny_pure ?_))
  dsimp only
  rw [List.forIn_nil]
  refine wpAny_pure (wpAny_pure (hQ _ rfl h' s.toks ?_ hc' fun b o e => ?_))
  · exact (((Heap.Ns.new s.heap (.type "frame")).keeps fun b o e => Heap.get?_push_of_some _ e)).sameBut hs' (Nat.ne_of_lt (Nat.lt_succ_self _))
  · have hb := Heap.lt_size e
    exact (hs'.2 b (Nat.ne_of_lt (Nat.lt_succ_of_lt hb))).trans (Heap.get?_push_of_some _ (Heap.get?_push_of_some _ e))
end
section
variable {prog : Program} {w : World} {A A₀ : Around} {s : Shared} {K : Frag} {L : Addr} {h₀ base : Heap} {m mg mb : Str → Option Value} {news : List (Addr × Obj)} {p : Program} {loose : List Str} {mean : ExcName → Option Value}
theorem code_nestC1 {env : Env} {outer : List Env} {R : Result → Shared → Prop} {name qual : Str} {params : Arguments} {body : List Stmt} {scope : Scope} {cl : List (Str × Addr)} {doc pm ctv : Value} {c' : Addr} {f : Addr} {args : Args} {x : Str} {v : Value}
    (B : Below A₀ base outer h₀) (F : Fr h₀ L s.heap m) (X₀ : K.In h₀) (N : News h₀ L s.heap news) (T : Top p loose mean mg mb h₀) (hA : A.frames = some (env :: outer)) (hf : env.frame = some L) (hke : env.scope.kind = .function)
    (ho : (f, fnMade name qual params body scope cl doc pm c' ctv) ∈ news) (hcd : s.heap.CodeRec (.ref c') qual) (hroom : A.depth < recursionLimit)
    (hbind : BindsTo s (fnX name qual params body scope cl .none .none doc pm none (.ref c') ctv) args [(x, v)]) (hkc : scope.names.lookup x = some .cell)
    (hcf : ∀ n, cellsFrom n scope.names cl = (x, n) :: cl) (hpc : ∀ h, pushCells h scope.names = h.push { cls := .type "cell", data := .cell none })
    (h : ∀ g L' h₁ tk o₁, Fr h₀ L g m → Fr g L' h₁ (fun _ => none) → News g L' h₁ ((L' + 1, o₁) :: news) → o₁.data = .cell (some v) → Below A base (env :: outer) g → K.In g → Top p loose mean mg mb g → (∀ p ∈ news, p.1 < L') →
      wpAny (model prog w) (A.deeper (envX qual scope L' f (.ref c') ((x, L' + 1) :: cl))) (execs body (envX qual scope L' f (.ref c') ((x, L' + 1) :: cl)))
        (fun fl s' => LeaveK h₀ L m g R (match fl with | .ret v => v | _ => .none) s')
        (fun e s' => wpAny (model prog w) (A.deeper (envX qual scope L' f (.ref c') ((x, L' + 1) :: cl))) (leaving (envX qual scope L' f (.ref c') ((x, L' + 1) :: cl)) e) (fun _ s'' => R (.error e) s'') (fun e' s'' => R (.error e') s'') s')
        { s with heap := h₁, toks := tk })
    (hco : scope.isCoroutine = false) (hgen : scope.isGenerator = false) (hk : scope.kind = .function) : codeAny (model prog w) A (.call (.ref f) args) R s := by
  obtain ⟨FG, BG, st, lv⟩ := groundX (R := R) B F N hA hf hke
  refine codeAny_call_function hroom (N _ ho).1 rfl hco hgen rfl hcd (hbind _ _ _ _ ?_)
  refine newEnv1 hk hkc hcf hpc fun env' he h₁ tk hns hcl hk₁ => ?_
  subst he
  refine ⟨(T.nolimit.keeps F.keep).keeps hk₁, codeAny_func ?_⟩
  obtain ⟨o₁, ho₁, hd₁⟩ := hcl
  refine wpAny_mono (h _ s.heap.objs.size h₁ tk o₁ FG ⟨hns, fun b o e => hk₁ b o (of_hideAll _ e), Nat.le_of_eq (hideAll_size _ _)⟩ (fun p hp => ?_) hd₁ BG (X₀.keeps st) (T.keeps st) (fun p hp => Heap.lt_size (N p hp).1)) (fun fl s' hl => lv _ _ hl) fun _ _ y => y
  rcases List.mem_cons.mp hp with rfl | hp
  · exact ⟨ho₁, Nat.ne_of_gt (Nat.lt_succ_self _), Heap.get?_none_of_le (by rw [hideAll_size]; exact Nat.le_succ _)⟩
  · exact ⟨hk₁ _ _ (N p hp).1, Nat.ne_of_lt (Heap.lt_size (N p hp).1), hideAll_none _ (List.mem_map_of_mem hp)⟩
end
end
section
open PyProof.Rows.LCg in
theorem comp_const {prog : Program} {w : World} {A : Around} {h₀ : Heap} {L : Addr} {m : Str → Option Value} {env : Env} {elt : Expr} {x : Str} {scope : Scope} {cl : List (Str × Addr)} {s : Shared} {S : Led → Prop} {Fin : List Value → Led → Prop} {its : Array Value} {news : Led} (f : Value → Value)
    (hS : S news)
    (elem : ∀ v ∈ its.toList, ∀ I oI C oC D m₂ h tk (E' : Value → Shared → Prop) (ys : List Value) (Q : Value → Shared → Prop), NsObj oC m₂ → m₂ x = some v → Fr h₀ L h m → News h₀ L h ((I, oI) :: (C, oC) :: (D, lst ys) :: news) →
      (∀ h' tk', Fr h₀ L h' m → News h₀ L h' ((I, oI) :: (C, oC) :: (D, lst ys) :: news) → Q (f v) { s with heap := h', toks := tk' }) → wpAny (model prog w) A (eval elt (compEnvC scope cl C env)) Q E' { s with heap := h, toks := tk })
    (fin : Fin (its.toList.map f) news) : CompRest prog w A h₀ L m env elt x scope cl s S (fun i v => its[i]? = some v) Fin its.size 0 [] news := by
  have all : ∀ k i, k + i = its.size → CompRest prog w A h₀ L m env elt x scope cl s S (fun i v => its[i]? = some v) Fin k i ((its.toList.take i).map f) news := by
    intro k
    induction k with
    | zero =>
      intro i hi
      have : its.toList.take i = its.toList := List.take_of_length_le (by rw [Array.length_toList]; omega)
      rw [this]
      exact CompRest.zero fin
    | succ k ih =>
      intro i hi
      refine CompRest.succ ?_
      intro v I oI C oC D m₂ h tk E' hv hC hx F N off ne
      have hv' : its.toList[i]? = some v := by rw [Array.getElem?_toList]; exact hv
      refine elem v (List.mem_of_getElem? hv') I oI C oC D m₂ h tk E' _ _ hC hx F N fun h' tk' F' N' => ?_
      refine CompEnd.intro F' N' news (fun p hp => hp) off hS ?_
      have e : (its.toList.take i).map f ++ [f v] = (its.toList.take (i + 1)).map f := by
        rw [List.take_succ, hv', List.map_append]
        rfl
      rw [e]
      exact ih (i + 1) (by omega)
  exact all its.size 0 (by omega)
noncomputable def lookS : VD → Str → Option Str
  | [], _ => none
  | (.str k, .str v) :: r, x => if k = x then some v else lookS r x
  | _ :: r, x => lookS r x
def AllStr (D : VD) : Prop := ∀ p ∈ D, ∃ v, p.2 = .str v
theorem flat_str {v : Value} {y : Str} (h : Flat v (.str y)) : ∃ t, v = .str y t := by
  cases h {} with
  | str _ t => exact ⟨t, rfl⟩
theorem look_flat {kvs : List (Str × Value)} {D : VD} (h : FlatPairs PyData.str kvs D) (ha : AllStr D) (x : Str) :
    (∃ y t, lookS D x = some y ∧ valueAt kvs x = some (.str y t)) ∨ (lookS D x = none ∧ valueAt kvs x = none) := by
  induction h with
  | nil => exact .inr ⟨rfl, rfl⟩
  | @cons k v d kvs D hv _ ih =>
    obtain ⟨y, hy⟩ := ha _ List.mem_cons_self
    dsimp only at hy
    subst hy
    obtain ⟨t, rfl⟩ := flat_str hv
    by_cases e : k = x
    · exact .inl ⟨y, t, by simp [lookS, e], by simp [valueAt, e]⟩
    · have := ih fun p hp => ha p (List.mem_cons_of_mem _ hp)
      simpa [lookS, valueAt, e] using this
/-- the value that text_of picks for one item of the order -/
noncomputable def pick (kvs : List (Str × Value)) (v : Value) : Value := match v with
  | .str k t => (valueAt kvs k).getD (.str k t)
  | v => v
theorem pick_strs {kvs : List (Str × Value)} {D : VD} (h : FlatPairs PyData.str kvs D) (ha : AllStr D) : ∀ (os : List (Str × Tok)),
    StrsAre ((os.map fun p => Value.str p.1 p.2).map (pick kvs)) (os.map fun p => (lookS D p.1).getD p.1)
  | [] => .nil
  | (k, t) :: r => by
    show StrsAre (pick kvs (.str k t) :: _) ((lookS D k).getD k :: _)
    rw [show pick kvs (.str k t) = (valueAt kvs k).getD (.str k t) from rfl]
    rcases look_flat h ha k with ⟨y, t', e1, e2⟩ | ⟨e1, e2⟩
    · rw [e1, e2]; exact .cons y t' (pick_strs h ha r)
    · rw [e1, e2]; exact .cons k t (pick_strs h ha r)
end
section
theorem runs_toks {M : Model} {Γ : Ctx} {p : Pos} {t : Sem Fin} {fs : List Frame} {s : Shared} {e : End} {s' : Shared} (h : Runs M Γ p t fs s e s') : s.toks ≤ s'.toks := by
  induction h <;> first
    | exact Nat.le_refl _
    | assumption
    | (rename_i h1 h2; exact Nat.le_trans h1 h2)
    | (simp only [Shared.setGen] at *; omega)
theorem wakes_toks {M : Model} {Γ : Ctx} {p : Pos} {g : Nat} {r : Resume} {s : Shared} {res : GenResult} {s' : Shared} (h : Wakes M Γ p g r s res s') : s.toks ≤ s'.toks := by
  unfold Wakes at h
  split at h
  · exact h.elim
  · split at h
    · obtain ⟨e₁, s₁, h1, -, -, rfl⟩ := h
      exact Nat.le_trans (Nat.le_refl _) (show (s.setGen g .running).toks ≤ s₁.toks from runs_toks h1)
    · obtain ⟨-, rfl⟩ := h; exact Nat.le_refl _
    · obtain ⟨-, rfl⟩ := h; exact Nat.le_refl _
  · obtain ⟨e₁, s₁, h1, -, -, rfl⟩ := h
    exact Nat.le_trans (Nat.le_refl _) (show (s.setGen g .running).toks ≤ s₁.toks from runs_toks h1)
  · obtain ⟨-, rfl⟩ := h; exact Nat.le_refl _
  · obtain ⟨-, rfl⟩ := h; exact Nat.le_refl _
theorem wp_toks {α : Type} {M : Model} {Γ : Ctx} (t : Sem α) : ∀ (Q : α → Pos → Shared → Prop) (E : Value → Pos → Shared → Prop) (p : Pos) (s : Shared) (n : Nat), n ≤ s.toks →
    Sem.wp M Γ t (fun a p' s' => n ≤ s'.toks → Q a p' s') E p s → Sem.wp M Γ t Q E p s := by
  induction t with
  | pure a => intro Q E p s n hn h; simp only [Sem.wp] at h ⊢; exact h hn
  | load a part k ih => intro Q E p s n hn h; simp only [Sem.wp] at h ⊢; obtain ⟨o, ho, h⟩ := h; exact ⟨o, ho, ih _ _ _ _ _ n hn h⟩
  | update a part f k ih => intro Q E p s n hn h; simp only [Sem.wp] at h ⊢; exact ⟨h.1, ih _ _ _ _ _ n hn h.2⟩
  | fresh k ih => intro Q E p s n hn h; simp only [Sem.wp] at h ⊢; exact ih _ _ _ _ _ n (Nat.le_succ_of_le hn) h
  | choose src n k ih => intro Q E p s n hn h; simp only [Sem.wp] at h ⊢; exact ⟨h.1, ih _ _ _ _ _ n hn h.2⟩
  | call c hd g l k ih =>
    intro Q E p s n hn h; simp only [Sem.wp] at h ⊢
    obtain ⟨r, s', hr, h⟩ := h
    exact ⟨r, s', hr, ih _ _ _ _ _ n (Nat.le_trans hn (runs_toks hr)) h⟩
  | genState g k ih => intro Q E p s n hn h; simp only [Sem.wp] at h ⊢; obtain ⟨o, ho, h⟩ := h; exact ⟨o, ho, ih _ _ _ _ _ n hn h⟩
  | resume g r l k ih =>
    intro Q E p s n hn h; simp only [Sem.wp] at h ⊢
    obtain ⟨r, s', hr, h⟩ := h
    exact ⟨r, s', hr, ih _ _ _ _ _ n (Nat.le_trans hn (wakes_toks hr)) h⟩
  | _ => 
    intro Q E p s n hn h
    simp only [Sem.wp] at h ⊢
    try first
      | exact h
      | (rename_i ih; exact ih _ _ _ _ _ n hn h)
      | exact h.elim
def TokLe (a b : Nat) (P : Prop) : Prop := a ≤ b → P
theorem tok_up {α : Type} {M : Model} {A : Around} {t : Sem α} {Q : α → Shared → Prop} {E : Value → Shared → Prop} {s : Shared} (h : wpAny M A t (fun a s' => TokLe s.toks s'.toks (Q a s')) E s) : wpAny M A t Q E s :=
  fun Γ p hΓ => wp_toks t _ _ p s s.toks (Nat.le_refl _) (h Γ p hΓ)
end
section
local macro_rules | `(tactic| k_room) => `(tactic| ktr_room)
local macro_rules | `(tactic| k_mem) => `(tactic| ((repeat (first | (with_reducible exact List.mem_cons_self) | with_reducible assumption | refine' List.mem_cons_of_mem _ ?_)); done))
local macro_rules | `(tactic| walk_at "subscriptTail") => `(tactic| (k_here; (with_reducible show wpAny _ _ (subscriptTail _ _ (Value.ref _) (Value.int _ _)) _ _ _); k_dflt (refine' item_tupleT ?t ?a ?b ?c ?d ?_; (case t => exact News.isTup (by k_asm) (by k_mem)); (case a => decide); (case b => decide); (case c => rfl); (case d => rfl); k_whole)))
local macro_rules | `(tactic| walk_at "compareOp Eq ref str") => `(tactic| (k_here; (with_reducible show wpAny _ _ (compareOp CmpOp.Eq (Value.ref _) (Value.str _ _)) _ _ _); k_dflt (refine' eqTS ?N ?m ?u ?_; (case N => k_asm); (case m => k_mem); (case u => ktr_units); k_whole)))
theorem nameCell {M : Model} {A : Around} {E : Value → Shared → Prop} {s : Shared} {h₀ : Heap} {L C c : Addr} {news : Led} {scope : Scope} {cl : List (Str × Addr)} {env : Env} {x : Str} {pos : Pos} {v : Value} {o : Obj} {Q : Value → Shared → Prop}
    (N : News h₀ L s.heap news) (hl : cl.lookup x = some c) (hm : (c, o) ∈ news) (hd : o.data = .cell (some v)) (h : Q v s)
    (hk : (compEnvC scope cl C env).scope.kind = .function) (hx : (compEnvC scope cl C env).kindOf x = some .cell) (hb : (x == ("__debug__" : Str)) = false) :
    wpAny M A (eval (.Name x pos) (compEnvC scope cl C env)) Q E s := wpAny_Name (wpAny_loadName_cell hk hx hl ⟨o, N.get hm, hd⟩ h) hb
local macro_rules | `(tactic| walk_at "eval Name") => `(tactic| (k_here; (with_reducible show wpAny _ _ (eval (Expr.Name (PySem.Str.ofString "here") _) (compEnvC _ _ _ _)) _ _ _); k_dflt (refine' nameCell ?N ?l ?m ?d ?_ ?k ?x ?b; (case N => k_asm); (case l => assumption); (case m => k_mem); (case d => assumption); (case k => assumption); (case x => assumption); (case b => decide))))
local macro_rules | `(tactic| walk_at "eval Name") => `(tactic| (k_here; (with_reducible show wpAny _ _ (eval (Expr.Name (PySem.Str.ofString "one") _) (compEnvC _ _ _ _)) _ _ _); k_dflt (refine' LCgL.ld_own ?N ?m ?c ?x ?_ ?k ?l ?d; (case N => k_asm); (case m => k_mem); (case c => assumption); (case x => assumption); (case k => assumption); (case l => assumption); (case d => decide))))
local macro_rules | `(tactic| walk_at "eval Attribute Name") => `(tactic| (k_here; refine Attribute_name ?_))
local macro_rules | `(tactic| walk_at "getMethod ref") => `(tactic| (k_here; (with_reducible show wpAny _ _ (getMethod (Value.ref _) (PySem.Str.ofString "get") _) _ _ _); k_dflt (refine' kdg_method (knd := PySem.strKind _ _) ?N ?m ?d ?_; (case N => k_asm); (case m => k_mem); (case d => assumption))))
local macro_rules | `(tactic| walk_at "call builtin:dict.get") => `(tactic| (k_here; (with_reducible show wpAny _ _ (call (Value.builtin _) [Value.ref _, Value.str _ _, _]) _ _ _); k_dflt (refine' kdg_get2 (knd := PySem.strKind _ _) ?N ?m ?d ?l ?k _ rfl ?_; (case N => k_asm); (case m => k_mem); (case d => assumption); (case l => assumption); (case k => exact strKind_is _ _ _ _))))
theorem elem_get {w : World} {mean : ExcName → Option Value} {mg mb : Str → Option Value} {A : Around} {h₀ : Heap} {L C I D c x dx vd rl ll : Addr} {m m₂ : Str → Option Value} {h : Heap} {tk : Nat} {s : Shared} {news : Led} {scope : Scope} {cl : List (Str × Addr)} {env : Env} {oc oI oC ov : Obj} {ys : List Value} {Q E : Value → Shared → Prop} {k : Str} {t : Tok}
    {t1 t2 t3 t4 t5 t6 tl tw tn : Tok} {lim wid n : Int} {kvs : List (Str × Value)}
    (X : (K w.params).In h₀) (Tp : Top topProg loose0 mean mg mb h₀) (F : Fr h₀ L h m) (N : News h₀ L h ((I, oI) :: (C, oC) :: (D, LCg.lst ys) :: news))
    (hC : LCg.NsObj oC m₂) (hx : m₂ (Str.ofString "one") = some (.str k t)) (hk : (compEnvC scope cl C env).scope.kind = .function) (k1 : (compEnvC scope cl C env).kindOf (Str.ofString "here") = some .cell) (k2 : (compEnvC scope cl C env).kindOf (Str.ofString "one") = some .local)
    (hl : cl.lookup (Str.ofString "here") = some c) (hc : (c, oc) ∈ news) (hd : oc.data = .cell (some (.ref x))) (h1 : (x, instObj 229 dx) ∈ news) (h2 : (dx, hostD w t1 t2 t3 t4 t5 t6 vd rl ll lim wid n tl tw tn) ∈ news) (h3 : (vd, ov) ∈ news)
    (hov : ov.IsDictOf (strKind Challenge.rw_xm0938_01.row.prog w) kvs) (hvm : (vd == sysModules) = false)
    (hQ : ∀ h' tk', Fr h₀ L h' m → News h₀ L h' ((I, oI) :: (C, oC) :: (D, LCg.lst ys) :: news) → Q (pick kvs (.str k t)) { s with heap := h', toks := tk' }) :
    wpAny (model Challenge.rw_xm0938_01.row.prog w) A (eval (.Call (.Attribute (.Attribute (.Name (Str.ofString "here") ⟨308, 24, 308, 28⟩) (Str.ofString "values") ⟨308, 24, 308, 35⟩) (Str.ofString "get") ⟨308, 24, 308, 39⟩) [.Name (Str.ofString "one") p4, .Name (Str.ofString "one") ⟨308, 45, 308, 48⟩] [] ⟨308, 24, 308, 49⟩) (compEnvC scope cl C env)) Q E { s with heap := h, toks := tk } := by
  revert X
  k_fill
  intro X
  refine MethodCall_ ?_
  refine Attribute_name ?_
  k_dflt (refine' nameCell ?N ?l ?m ?d ?_ ?k ?x ?b; (case N => k_asm); (case l => assumption); (case m => k_mem); (case d => assumption); (case k => assumption); (case x => assumption); (case b => decide))
  k_steps
  exact hQ h _ F N
/-- what a call of text_of does, wherever it stands: from the host's values it makes J -/
def TextDoes (w : World) (base : Heap) (mean : ExcName → Option Value) (mg mb : Str → Option Value) (fa x dx vd rl ll : Addr) (t1 t2 t3 t4 t5 t6 tl tw : Tok) (lim wid : Int) (l : Led) (D : VD) (J : Str) : Prop :=
  ∀ (dp un : Nat) (gd : Option (List Code)) (cn : Str) (cs : Scope) (a : Addr) (ccd : Value) (cl : List (Str × Addr)) (outer : List Env) (A₀ : Around) (h₀ : Heap) (L : Addr) (m : Str → Option Value) (s : Shared) (Q E : Value → Shared → Prop)
    (tn : Tok) (n : Int) (ov : Obj) (kvs : List (Str × Value)) (T : Led),
    Below A₀ base outer h₀ → Fr h₀ L s.heap m → (K w.params).In h₀ → News h₀ L s.heap T → Top topProg loose0 mean mg mb h₀ → cs.kind = .function →
    (∀ p ∈ l, p ∈ T) → (dx, hostD w t1 t2 t3 t4 t5 t6 vd rl ll lim wid n tl tw tn) ∈ T → (vd, ov) ∈ T → ov.IsDictOf (strKind Challenge.rw_xm0938_01.row.prog w) kvs → FlatPairs PyData.str kvs D →
    dp + 4 < recursionLimit → un + 32 < cLine →
    (∀ t h' tk' T', Fr h₀ L h' m → News h₀ L h' T' → (∀ p ∈ T, p ∈ T') → Q (.str J t) { s with heap := h', toks := tk' }) →
    wpAny (model Challenge.rw_xm0938_01.row.prog w) (ktrTop dp un gd cn cs L a ccd cl outer) (call (.ref fa) [.ref x]) Q E s
def Stop2 (P : Prop) : Prop := P
theorem stop2I {P : Prop} (h : Stop2 P) : P := h
local macro_rules | `(tactic| walk_at "exec For Tuple Subscript cons nil") => `(tactic| (k_here; refine wpAny_For ?_))
local macro_rules | `(tactic| walk_at "pyIter ref") => `(tactic| (k_here; (with_reducible show wpAny _ _ (pyIter (Value.ref _)) (fun it s₂ => codeAny _ _ _ _ _) _ _); k_dflt (refine' forEmpty (by rfl) ?F ?N ?m ?_; (case F => k_asm); (case N => k_asm); (case m => k_mem)); intro h' F' N'))
local macro_rules | `(tactic| walk_at "call ref") => `(tactic| (k_here; (with_reducible show wpAny _ _ (call (Value.ref 404) _) _ _ _); refine stop2I ?_))
theorem text_do {w : World} {base : Heap} {mean : ExcName → Option Value} {mg mb : Str → Option Value} {fa x dx vd rl ll : Addr} {t1 t2 t3 t4 t5 t6 tl tw : Tok} {lim wid : Int} {l : Led} {D : VD} {J : Str}
    {dp un : Nat} {gd : Option (List Code)} {cn : Str} {cs : Scope} {a : Addr} {ccd : Value} {cl : List (Str × Addr)} {outer : List Env} {A₀ : Around} {h₀ : Heap} {L : Addr} {m : Str → Option Value} {s : Shared} {Q E : Value → Shared → Prop}
    {tn : Tok} {n : Int} {ov : Obj} {kvs : List (Str × Value)} {T : Led}
    (H : TextDoes w base mean mg mb fa x dx vd rl ll t1 t2 t3 t4 t5 t6 tl tw lim wid l D J) (B : Below A₀ base outer h₀) (F : Fr h₀ L s.heap m) (X : (K w.params).In h₀) (N : News h₀ L s.heap T) (Tp : Top topProg loose0 mean mg mb h₀) (hk : cs.kind = .function)
    (hs : ∀ p ∈ l, p ∈ T) (q1 : (dx, hostD w t1 t2 t3 t4 t5 t6 vd rl ll lim wid n tl tw tn) ∈ T) (q2 : (vd, ov) ∈ T) (hov : ov.IsDictOf (strKind Challenge.rw_xm0938_01.row.prog w) kvs) (hfl : FlatPairs PyData.str kvs D)
    (hd : dp + 4 < recursionLimit) (hu : un + 32 < cLine)
    (hret : ∀ t h' tk' T', Fr h₀ L h' m → News h₀ L h' T' → (∀ p ∈ T, p ∈ T') → Q (.str J t) { s with heap := h', toks := tk' }) :
    wpAny (model Challenge.rw_xm0938_01.row.prog w) (ktrTop dp un gd cn cs L a ccd cl outer) (call (.ref fa) [.ref x]) Q E s :=
  H dp un gd cn cs a ccd cl outer A₀ h₀ L m s Q E tn n ov kvs T B F X N Tp hk hs q1 q2 hov hfl hd hu hret
set_option hygiene false in
local macro_rules | `(tactic| walk_at "call ref") => `(tactic| (k_here; (with_reducible show wpAny _ _ (call (Value.ref fa) _) _ _ _); k_dflt (refine' text_do htx ?B ?F ?X ?N ?T ?k ?s ?q1 ?q2 ?ov ?fl ?d ?u ?_; (case F => k_asm); (case N => k_asm); (case B => k_asm); (case X => k_asm); (case T => k_asm); (case k => exact rfl); (case s => (intro p hp; have hp2 := hs8 p hp; k_mem)); (case q1 => k_mem); (case q2 => k_mem); (case ov => with_reducible assumption); (case fl => with_reducible assumption); (case d => ktr_room); (case u => ktr_units)); intro t9 h9 tk9 T9 F9 N9 hs9; have w1 := hs9 _ List.mem_cons_self; (try have w2 := hs9 _ (List.mem_cons_of_mem _ List.mem_cons_self)); (try have w3 := hs9 _ (List.mem_cons_of_mem _ (List.mem_cons_of_mem _ List.mem_cons_self)))))
set_option hygiene false in
local macro_rules | `(tactic| walk_at "callWith ref") => `(tactic| (k_here; (with_reducible show wpAny _ _ (callWith _ (Value.ref fa) _ _ _) _ _ _); k_dflt (first
  | (refine' callWith_F ?k1 ?_; (case k1 => exact FnAt.of (by k_asm) (by k_mem)); k_whole)
  | (refine' callWith_F0 ?k1 ?_; (case k1 => exact FnAt.of (by k_asm) (by k_mem)); k_whole; try dsimp only [List.nil_append, List.cons_append]))))
theorem replace_c {w : World} {mean : ExcName → Option Value} {mg mb : Str → Option Value} {dp un : Nat} {gd : Option (List Code)} {cn : Str} {cs : Scope} {a : Addr} {ccd : Value} {cl : List (Str × Addr)} {outer : List Env} {A₀ : Around} {base h₀ : Heap} {L : Addr} {m : Str → Option Value} {s : Shared} {Q E : Value → Shared → Prop}
    {c x dx vd rl ll fa : Addr} {t1 t2 t3 t4 t5 t6 tl tw tn ts : Tok} {lim wid n : Int} {ov : Obj} {logs : Array Value} {nl : Nat} {vals : VD} {b f : Nat} {T l : Led} {nd : Nd} {S J : Str} {res : Int × VD}
    (P : EPH w x dx vd rl ll ov logs vals b T) (hb1 : 1 ≤ b) (hTl : ∀ p ∈ T, p ∈ l) (q1 : (dx, hostD w t1 t2 t3 t4 t5 t6 vd rl ll lim wid n tl tw tn) ∈ l) (q2 : (vd, ov) ∈ l) (q3 : (ll, listOf logs nl) ∈ l)
    (hnd : NdIn w (restOf l dx vd ll) c nd) (hrun : run S f [.nd nd] 0 vals [] = some res) (hn : 0 ≤ n) (hl : n + (f : Int) ≤ lim) (hb : b + f ≤ 9999) (hS : S.length ≤ 100) (hJ : J.length ≤ 1000)
    (htx : TextDoes w base mean mg mb fa x dx vd rl ll t1 t2 t3 t4 t5 t6 tl tw lim wid (restOf l dx vd ll) res.2 J) {fd : FuncData} (hfo : (fa, (⟨.type "function", none, .func fd, #[]⟩ : Obj)) ∈ restOf l dx vd ll) :
    Below A₀ base outer h₀ → Fr h₀ L s.heap m → (K w.params).In h₀ → News h₀ L s.heap l → Top topProg loose0 mean mg mb h₀ → cs.kind = .function →
    dp + 14 < recursionLimit → un + 112 < cLine →
    (∀ t n' tn' ov' kvs T' h' tk', Fr h₀ L h' m → News h₀ L h' T' → (∀ p ∈ restOf l dx vd ll, p ∈ T') → (dx, hostD w t1 t2 t3 t4 t5 t6 vd rl ll lim wid n' tl tw tn') ∈ T' → (vd, ov') ∈ T' → ov'.IsDictOf (strKind Challenge.rw_xm0938_01.row.prog w) kvs → FlatPairs PyData.str kvs res.2 →
      Q (.str (Txt.slice S none (some 0) ++ J ++ Txt.slice S (some res.1) none) t) { s with heap := h', toks := tk' }) →
    wpAny (model Challenge.rw_xm0938_01.row.prog w) (ktrTop dp un gd cn cs L a ccd cl outer) (call (.ref 42) [.ref 390, .ref c, .str S ts, .bool true, .ref x, .ref fa]) Q E s := by
  k_fill
  intro B F X N Tp hk hdp hu hret
  refine wpAny_call ?_
  k_dflt ktr_enter
  k_steps
  unfold Stop2
  k_dflt (refine' tried_e ?P ?B ?F ?X ?N ?T ?k ?hTl ?q1 ?q2 ?q3 ?b1 ?nd ?r ?n ?l ?b ?S ?d ?u ?_)
  case P => exact P
  case B => k_asm
  case F => k_asm
  case X => k_asm
  case N => exact cb_drop (news := l) (by k_asm) (fun p hp => by k_mem)
  case T => k_asm
  case k => exact rfl
  case hTl => intro p hp; exact hTl p hp
  case q1 => exact q1
  case q2 => exact q2
  case q3 => exact q3
  case b1 => exact hb1
  case nd => exact hnd
  case r => exact hrun
  case n => exact hn
  case l => exact hl
  case b => exact hb
  case S => exact hS
  case d => ktr_room
  case u => ktr_units
  intro q lq kq te ov2 n2 tn2 kvs T2 h8 tk8 F8 N8 hs8 hq8 hlq8 hdx8 hvd8 hov8 hfl8
  have m1 := hs8 (x, _) (memF (hTl _ P.hx) (P.adx _ P.hx) (P.avd _ P.hx) (P.all _ P.hx))
  have m2 := hs8 _ hfo
  k_steps
  exact hret _ n2 tn2 ov2 kvs T9 _ _ (by k_asm) (cb_drop (by assumption) (fun p hp => List.mem_cons_of_mem _ hp)) (fun p hp => hs9 p (by have hp2 := hs8 p hp; k_mem)) (hs9 _ (by k_mem)) (hs9 _ (by k_mem)) (by assumption) (by assumption)
noncomputable abbrev whole3 (n1 n2 n3 : Nd) : Nd := .cat n1 (.cat n2 (.cat n3 (.now .rem (Str.ofString "R"))))
local macro_rules | `(tactic| walk_at "exec For Name Subscript cons nil") => `(tactic| (k_here; (rename Fr _ _ _ _ => lF'); (with_unfolding_all refine' For_invVF lF' ?k1 ?k2 ?_; (case k1 => exact rfl); (case k2 => exact rfl); k_whole)))
theorem ltAll {l T : Led} {I : Addr} (h : ∀ q ∈ l, q.1 < I) (hs : ∀ p ∈ T, p ∈ l) : ∀ p ∈ T, p.1 ≠ I := fun p hp => Nat.ne_of_lt (h p (hs p hp))
local macro_rules | `(tactic| k_all) => `(tactic| ((repeat (refine List.forall_mem_cons.mpr ⟨by k_ne, ?_⟩)); first | with_reducible assumption | exact List.forall_mem_nil _ | exact ltAll (by with_reducible assumption) (fun p hp => by k_mem)))
local macro_rules | `(tactic| walk_at "pyIter ref") => `(tactic| (k_here; (with_reducible show wpAny _ _ (pyIter (Value.ref _)) (fun it s₂ => LoopAtV _ _ _ _ _ _ _ _ _ it s₂) _ _); (rename Fr _ _ _ _ => lF'); (rename News _ _ _ _ => lN'); (with_unfolding_all refine' iter_listUnr (by rfl) lF' lN' ?m ?c ?d ?_; (case m => k_mem); (case c => rfl); (case d => rfl)); clear lF'; intro i' l1; (have l1k := l1); (try k_lt l1)))
local macro_rules | `(tactic| walk_at "UnrEnd") => `(tactic| (k_here; k_dflt (refine' UnrEnd.intro ?F ?N _ ?sub ?off ⟨?m, ?_⟩; (case F => k_asm); (case N => k_asm); (case sub => exact swap2); (case off => k_all); (case m => k_mem))))
local macro_rules | `(tactic| walk_at "call ref") => `(tactic| (k_here; kn_here; k_dflt (refine wpAny_call ?_; refine' code_nestC1 ?k1 ?k2 ?k3 ?k4 ?k5 ?kA ?kF ?kK ?k6 ?k7 ?k8 ?k9 ?kB ?kC ?kD ?_ ?c2 ?c3 ?c4; (case kA => exact rfl); (case kF => exact rfl); (case kK => exact rfl); (case k1 => k_asm); (case k2 => k_asm); (case k3 => k_asm); (case k4 => k_asm); (case k5 => k_asm); (case k6 => k_mem); (case k7 => exact codeRec_news (by k_asm) (by k_mem) (by assumption) (by assumption)); (case k8 => k_room); (case k9 => exact BindsTo.of_eq rfl); (case kB => exact rfl); (case kC => exact fun _ => rfl); (case kD => exact fun _ => rfl); (case c2 => exact rfl); (case c3 => exact rfl); (case c4 => exact rfl); k_whole; intro g' L' h' tk' o' FG' F' N' d' B' X' T' l1; (try k_lt l1); (try dsimp only); (try k_lift B'); (try k_fold))))
local macro_rules | `(tactic| walk_at "call ref") => `(tactic| (k_here; (with_reducible show wpAny _ _ (call (Value.ref 42) _) _ _ _); refine stop2I ?_))
local macro_rules | `(tactic| walk_at "exec FunctionDef") => `(tactic| (k_here; refine stop2I ?_))
local macro_rules | `(tactic| walk_at "CompSrc") => `(tactic| (k_here; refine stop2I ?_))
theorem joinC {prog : Program} {w : World} {A : Around} {E : Value → Shared → Prop} {s : Shared} {g : Heap} {L D : Addr} {news : Led} {x : Str} {t : Tok} {vs : List Value} {ys : List Str} {k : Nat} {Q : Value → Shared → Prop} (N : News g L s.heap news) (hm : (D, listOf vs.toArray k) ∈ news) (hi : StrsAre vs ys) (hsep : x.length ≤ 16) (hw : (ys.map (·.length)).sum + ys.length ≤ 1048576)
    (h : ∀ t' k, Q (.str (Txt.join x ys) t') { s with toks := k }) : wpAny (model prog w) A (call (.builtin "str.join") [.str x t, .ref D]) Q E s :=
  join_listW (News.isList N hm) hi hsep hw h
local macro_rules | `(tactic| walk_at "call builtin:str.join") => `(tactic| (k_here; (with_reducible show wpAny _ _ (call (Value.builtin "str.join") [Value.str _ _, Value.ref _]) _ _ _); k_dflt (refine' joinC ?N ?m ?i ?s ?w ?_; (case N => k_asm); (case m => k_mem); (case i => assumption); (case s => decide); (case w => assumption)); intro t9 k9))
theorem TabSt.mono {pos : Pos} {q : Str} {I : Addr} {l l' : Led} {o : Obj} (h : TabSt pos q I l o) (hs : ∀ p ∈ l, p ∈ l') : TabSt pos q I l' o := by
  rcases h with h | ⟨c', oc, vs, t, h1, h2, h3, h4⟩
  · exact .inl h
  · exact .inr ⟨c', oc, vs, t, h1, hs _ h2, h3, h4⟩
theorem turned3 {w : World} {mean : ExcName → Option Value} {mg mb : Str → Option Value} (dp un : Nat) (gd : Option (List Code)) (cn : Str) (cs : Scope) (a : Addr) (ccd : Value) (cl : List (Str × Addr)) (outer : List Env) (A₀ : Around) (base h₀ : Heap) (L : Addr) (m : Str → Option Value) (s : Shared) (Q E : Value → Shared → Prop)
    (x dx vd rl ll fl ol a1 a2 a3 : Addr) (nf no : Nat) (t1 t2 t3 t4 t5 t6 tl tw tn ts : Tok) (lim wid n : Int) (ov : Obj) (logs : Array Value) (nl : Nat) (vals : VD) (b f : Nat) (T : Led) (n1 n2 n3 : Nd) (S : Str) (res : Int × VD) (ords : List (Str × Tok))
    (P : EPH w x dx vd rl ll ov logs vals b T) (hb1 : 1 ≤ b) (hn1 : NdIn w T a1 n1) (hn2 : NdIn w T a2 n2) (hn3 : NdIn w T a3 n3) (hfl : (fl, listOf #[.ref a1, .ref a2, .ref a3] nf) ∈ T) (hol : (ol, listOf (ords.map fun p => Value.str p.1 p.2).toArray no) ∈ T) (hols : ords.length ≤ 8) (hvm : (vd == sysModules) = false) (hall : AllStr res.2) (hjl : (Txt.join (Str.ofString "") (ords.map fun p => (lookS res.2 p.1).getD p.1)).length ≤ 1000) (hwt : ((ords.map fun p => (lookS res.2 p.1).getD p.1).map (·.length)).sum + (ords.map fun p => (lookS res.2 p.1).getD p.1).length ≤ 1048576)
    (o8 : Obj) (I : Addr) (oI : Obj) (hI : (I, oI) ∈ T) (hst : TabSt ⟨307, 4, 308, 68⟩ (Str.ofString "_law_turned.<locals>.text_of") I T o8) (h448 : ∀ p ∈ T, p.1 ≠ 448) (z1 : @Ne Nat dx 448) (z2 : @Ne Nat vd 448) (z3 : @Ne Nat ll 448) (C : CodeHd base 452 448)
    (hrun : run S f [.nd (whole3 n1 n2 n3)] 0 vals [] = some res) (hn : 0 ≤ n) (hl : n + (f : Int) ≤ lim) (hb : b + f ≤ 9999) (hS : S.length ≤ 100) :
    Below A₀ base outer h₀ → Fr h₀ L s.heap m → (K w.params).In h₀ → News h₀ L s.heap ((448, o8) :: engH w t1 t2 t3 t4 t5 t6 dx vd rl ll lim wid n tl tw tn ov logs nl T) → Top topProg loose0 mean mg mb h₀ → cs.kind = .function →
    dp + 16 < recursionLimit → un + 128 < cLine →
    (∀ t n' tn' ov' kvs T' o8' h' tk', Fr h₀ L h' m → News h₀ L h' T' → (∀ p ∈ T, p ∈ T') → (dx, hostD w t1 t2 t3 t4 t5 t6 vd rl ll lim wid n' tl tw tn') ∈ T' → (vd, ov') ∈ T' → ov'.IsDictOf (strKind Challenge.rw_xm0938_01.row.prog w) kvs → FlatPairs PyData.str kvs res.2 →
      (448, o8') ∈ T' → TabSt ⟨307, 4, 308, 68⟩ (Str.ofString "_law_turned.<locals>.text_of") I T' o8' →
      Q (.str (Txt.slice S none (some 0) ++ Txt.join (Str.ofString "") (ords.map fun p => (lookS res.2 p.1).getD p.1) ++ Txt.slice S (some res.1) none) t) { s with heap := h', toks := tk' }) →
    wpAny (model Challenge.rw_xm0938_01.row.prog w) (ktrTop dp un gd cn cs L a ccd cl outer) (call (.ref 453) [.str S ts, .ref fl, .ref ol, .ref x]) Q E s := by
  k_fill
  intro B F X N Tp hk hdp hu hret
  have zx := P.adx
  have zv := P.avd
  have zl := P.all
  have hx := P.hx
  refine wpAny_call ?_
  k_dflt (refine' code_defC ?k1 ?k2 ?k3 ?k4 ?k5 ?kA ?kF ?kK ?k6 ?k7 ?k8 ?k9 ?kB ?kD ?_ ?c2 ?c3 ?c4; (case kA => exact rfl); (case kF => exact rfl); (case kK => assumption); (case k1 => k_asm); (case k2 => k_asm); (case k3 => k_asm); (case k4 => k_asm); (case k5 => k_asm); (case k6 => k_is); (case k7 => k_is); (case k8 => ktr_room); (case k9 => exact BindsTo.of_eq rfl); (case kB => exact rfl); (case kD => decide +kernel); (case c2 => exact rfl); (case c3 => exact rfl); (case c4 => exact rfl); k_whole; intro g' L' h' tk' cells' FG' F' N' Y' B' X' T' l1; (try k_lt l1); k_cells Y'; (try simp only [List.cons_append, List.nil_append] at N'); (try dsimp only); (try k_lift B'); (try k_fold))
  k_steps
  unfold Stop2
  k_dflt (refine' nestDef_K ?d0 ?k0 ?a0 ?_; (case d0 => exact rfl); (case k0 => exact rfl); (case a0 => exact rfl))
  k_dflt (refine' nestAny (I := I) (oI := oI) ?F ?N ?T ?C ?cd ?U ?hI ?st ?cl ?_)
  case F => k_asm
  case N => k_asm
  case T => k_asm
  case cd => exact rfl
  case C => kn_code
  case U => k_updF
  case hI => k_mem
  case st => exact hst.mono fun p hp => by k_mem
  case cl => exact rfl
  intro fa ca oc vs tq ctv doc h9 tk9 F9 N9 hd9 hv9 l9 hcI
  k_lt l9
  have hcx : @Ne Nat ca dx := apart N9 (o := oc) (List.mem_cons_of_mem _ List.mem_cons_self) (o' := hostD w t1 t2 t3 t4 t5 t6 vd rl ll lim wid n tl tw tn) (by k_mem) (fun e => by rw [e] at hd9; cases hd9)
  have hcl : @Ne Nat ca ll := apart N9 (o := oc) (List.mem_cons_of_mem _ List.mem_cons_self) (o' := listOf logs nl) (by k_mem) (fun e => by rw [e] at hd9; cases hd9)
  have hcv : @Ne Nat ca vd := apart N9 (o := oc) (List.mem_cons_of_mem _ List.mem_cons_self) (o' := ov) (by k_mem) (fun e => by
    obtain ⟨kvs, ⟨es, ep, _, hdd, _⟩, _⟩ := P.kv
    rw [e, hdd] at hd9; cases hd9)
  k_steps
  unfold Stop2
  k_dflt (refine' replace_c (T := T) (res := res) (vals := vals) (b := b) (f := f) (S := S) (J := Txt.join (Str.ofString "") (ords.map fun p => (lookS res.2 p.1).getD p.1)) (tn := tn) (n := n) (ov := ov) (logs := logs) (nl := nl) (lim := lim) (wid := wid) (t1 := t1) (t2 := t2) (t3 := t3) (t4 := t4) (t5 := t5) (t6 := t6) (tl := tl) (tw := tw) (dx := dx) (vd := vd) (rl := rl) (ll := ll) (nd := whole3 n1 n2 n3) (P := P) (hb1 := hb1) (hTl := ?hTl) (q1 := ?q1) (q2 := ?q2) (q3 := ?q3) (hnd := ?nd) (hrun := hrun) (hn := hn) (hl := hl) (hb := hb) (hS := hS) (hJ := hjl) (htx := ?htx) (hfo := ?hfo) ?B ?F ?X ?N ?T ?k ?d ?u ?_)
  case N => k_asm
  case B => k_asm
  case F => k_asm
  case X => k_asm
  case T => k_asm
  case k => exact rfl
  case hTl => intro p hp; k_mem
  case q1 => k_mem
  case q2 => k_mem
  case q3 => k_mem
  case hfo => exact memF (by k_mem) (by k_ne) (by k_ne) (by k_ne)
  case d => ktr_room
  case u => ktr_units
  case nd =>
    exact .cat (memF (by k_mem) (by k_ne) (by k_ne) (by k_ne)) (hn1.mono fun p hp => memF (by k_mem) (P.adx p hp) (P.avd p hp) (P.all p hp)) (.cat (memF (by k_mem) (by k_ne) (by k_ne) (by k_ne)) (hn2.mono fun p hp => memF (by k_mem) (P.adx p hp) (P.avd p hp) (P.all p hp)) (.cat (memF (by k_mem) (by k_ne) (by k_ne) (by k_ne)) (hn3.mono fun p hp => memF (by k_mem) (P.adx p hp) (P.avd p hp) (P.all p hp)) (.now (memF (by k_mem) (by k_ne) (by k_ne) (by k_ne)) (.rem (memF (by k_mem) (by k_ne) (by k_ne) (by k_ne))) ⟨_, _, _, _, _, _, memF (by k_mem) (by k_ne) (by k_ne) (by k_ne), memF (by k_mem) (by k_ne) (by k_ne) (by k_ne)⟩)))
  case htx =>
    unfold TextDoes
    intro dp2 un2 gd2 cn2 cs2 a2' ccd2 cl2 outer2 A2 h2 L2 m2' s2 Q2 E2 tn2 n2' ov2 kvs T2 B2 F2 X2 N2 Tp2 hk2 hs8 hdx8 hvd8 hov8 hfl8 hd2 hu2 hq2
    have hst := pick_strs hfl8 hall ords
    have m1 := hs8 (x, _) (memF (by k_mem) (P.adx _ P.hx) (P.avd _ P.hx) (P.all _ P.hx))
    have m2 := hs8 (fa, _) (memF (by k_mem) (by k_ne) (by k_ne) (by k_ne))
    have m3 := hs8 (L' + 1, _) (memF (by k_mem) (by k_ne) (by k_ne) (by k_ne))
    have m4 := hs8 (ol, _) (memF (by k_mem) (P.adx _ hol) (P.avd _ hol) (P.all _ hol))
    have m4' := m4
    have m5 := hs8 (ca, _) (memF (by k_mem) (by k_ne) (by k_ne) (by k_ne))
    k_dflt (refine wpAny_call ?_; refine' code_nestC1 ?k1 ?k2 ?k3 ?k4 ?k5 ?kA ?kF ?kK ?k6 ?k7 ?k8 ?k9 ?kB ?kC ?kD ?_ ?c2 ?c3 ?c4; (case kA => exact rfl); (case kF => exact rfl); (case kK => exact hk2); (case k1 => exact B2); (case k2 => exact F2); (case k3 => exact X2); (case k4 => exact N2); (case k5 => exact Tp2); (case k6 => exact m2); (case k7 => exact codeRec_news N2 m5 hd9 hv9); (case k8 => k_room); (case k9 => exact BindsTo.of_eq rfl); (case kB => exact rfl); (case kC => exact fun _ => rfl); (case kD => exact fun _ => rfl); (case c2 => exact rfl); (case c3 => exact rfl); (case c4 => exact rfl); k_whole; intro g' L' h' tk' o' FG' F' N' d' B' X' T' l1; (try k_lt l1); (try dsimp only); (try k_lift B'); (try k_fold))
    k_steps
    unfold Stop2
    refine LCg.CompSrc.ledger (its := (ords.map fun p => Value.str p.1 p.2).toArray) (k := no) (by rfl) (by k_asm) (by k_asm) (by k_mem) ?hsz ?_
    case hsz => rw [List.size_toArray, List.length_map]; exact Nat.le_trans hols (by decide)
    intro g9
    refine comp_const (pick kvs) (.inr ⟨_, (by k_mem : (ol, listOf (ords.map fun p => Value.str p.1 p.2).toArray no) ∈ _), rfl, _, rfl⟩) ?_ ?_
    · intro v hv I oI C oC D m₂ h tk E' ys Q2 hC2 hx2 F7 N7 hq7
      obtain ⟨p, hp, rfl⟩ := List.mem_map.mp hv
      exact elem_get (by k_asm) (by k_asm) F7 N7 hC2 hx2 rfl rfl rfl rfl (by k_mem) (by assumption) (by k_mem) (by k_mem) (by k_mem) hov8 hvm hq7
    · k_steps
      exact hq2 _ _ _ T2 (by k_asm) (cb_drop (by assumption) (fun p hp => by k_mem)) (fun p hp => hp)
  intro t9 n9 tn9 ov9 kvs9 T9 h10 tk10 F10 N10 hs10 hdx10 hvd10 hov10 hfl10
  k_steps
  refine hret _ n9 tn9 ov9 kvs9 T9 _ _ _ (by k_asm) (by assumption) ?_ hdx10 hvd10 (by assumption) (by assumption) (hs10 (448, _) (memF (by k_mem) (by k_ne) (by k_ne) (by k_ne))) (.inr ⟨ca, oc, vs, tq, rfl, hs10 (ca, _) (memF (by k_mem) (by k_ne) (by k_ne) (by k_ne)), by assumption, by assumption, hcI⟩)
  intro p hp
  exact hs10 p (memF (by k_mem) (P.adx p hp) (P.avd p hp) (P.all p hp))
noncomputable abbrev whole2 (n1 n2 : Nd) : Nd := .cat n1 (.cat n2 (.now .rem (Str.ofString "R")))
theorem turned2 {w : World} {mean : ExcName → Option Value} {mg mb : Str → Option Value} (dp un : Nat) (gd : Option (List Code)) (cn : Str) (cs : Scope) (a : Addr) (ccd : Value) (cl : List (Str × Addr)) (outer : List Env) (A₀ : Around) (base h₀ : Heap) (L : Addr) (m : Str → Option Value) (s : Shared) (Q E : Value → Shared → Prop)
    (x dx vd rl ll fl ol a1 a2 : Addr) (nf no : Nat) (t1 t2 t3 t4 t5 t6 tl tw tn ts : Tok) (lim wid n : Int) (ov : Obj) (logs : Array Value) (nl : Nat) (vals : VD) (b f : Nat) (T : Led) (n1 n2 : Nd) (S : Str) (res : Int × VD) (ords : List (Str × Tok))
    (P : EPH w x dx vd rl ll ov logs vals b T) (hb1 : 1 ≤ b) (hn1 : NdIn w T a1 n1) (hn2 : NdIn w T a2 n2) (hfl : (fl, listOf #[.ref a1, .ref a2] nf) ∈ T) (hol : (ol, listOf (ords.map fun p => Value.str p.1 p.2).toArray no) ∈ T) (hols : ords.length ≤ 8) (hvm : (vd == sysModules) = false) (hall : AllStr res.2) (hjl : (Txt.join (Str.ofString "") (ords.map fun p => (lookS res.2 p.1).getD p.1)).length ≤ 1000) (hwt : ((ords.map fun p => (lookS res.2 p.1).getD p.1).map (·.length)).sum + (ords.map fun p => (lookS res.2 p.1).getD p.1).length ≤ 1048576)
    (o8 : Obj) (I : Addr) (oI : Obj) (hI : (I, oI) ∈ T) (hst : TabSt ⟨307, 4, 308, 68⟩ (Str.ofString "_law_turned.<locals>.text_of") I T o8) (h448 : ∀ p ∈ T, p.1 ≠ 448) (z1 : @Ne Nat dx 448) (z2 : @Ne Nat vd 448) (z3 : @Ne Nat ll 448) (C : CodeHd base 452 448)
    (hrun : run S f [.nd (whole2 n1 n2)] 0 vals [] = some res) (hn : 0 ≤ n) (hl : n + (f : Int) ≤ lim) (hb : b + f ≤ 9999) (hS : S.length ≤ 100) :
    Below A₀ base outer h₀ → Fr h₀ L s.heap m → (K w.params).In h₀ → News h₀ L s.heap ((448, o8) :: engH w t1 t2 t3 t4 t5 t6 dx vd rl ll lim wid n tl tw tn ov logs nl T) → Top topProg loose0 mean mg mb h₀ → cs.kind = .function →
    dp + 16 < recursionLimit → un + 128 < cLine →
    (∀ t n' tn' ov' kvs T' o8' h' tk', Fr h₀ L h' m → News h₀ L h' T' → (∀ p ∈ T, p ∈ T') → (dx, hostD w t1 t2 t3 t4 t5 t6 vd rl ll lim wid n' tl tw tn') ∈ T' → (vd, ov') ∈ T' → ov'.IsDictOf (strKind Challenge.rw_xm0938_01.row.prog w) kvs → FlatPairs PyData.str kvs res.2 →
      (448, o8') ∈ T' → TabSt ⟨307, 4, 308, 68⟩ (Str.ofString "_law_turned.<locals>.text_of") I T' o8' →
      Q (.str (Txt.slice S none (some 0) ++ Txt.join (Str.ofString "") (ords.map fun p => (lookS res.2 p.1).getD p.1) ++ Txt.slice S (some res.1) none) t) { s with heap := h', toks := tk' }) →
    wpAny (model Challenge.rw_xm0938_01.row.prog w) (ktrTop dp un gd cn cs L a ccd cl outer) (call (.ref 453) [.str S ts, .ref fl, .ref ol, .ref x]) Q E s := by
  k_fill
  intro B F X N Tp hk hdp hu hret
  have zx := P.adx
  have zv := P.avd
  have zl := P.all
  have hx := P.hx
  refine wpAny_call ?_
  k_dflt (refine' code_defC ?k1 ?k2 ?k3 ?k4 ?k5 ?kA ?kF ?kK ?k6 ?k7 ?k8 ?k9 ?kB ?kD ?_ ?c2 ?c3 ?c4; (case kA => exact rfl); (case kF => exact rfl); (case kK => assumption); (case k1 => k_asm); (case k2 => k_asm); (case k3 => k_asm); (case k4 => k_asm); (case k5 => k_asm); (case k6 => k_is); (case k7 => k_is); (case k8 => ktr_room); (case k9 => exact BindsTo.of_eq rfl); (case kB => exact rfl); (case kD => decide +kernel); (case c2 => exact rfl); (case c3 => exact rfl); (case c4 => exact rfl); k_whole; intro g' L' h' tk' cells' FG' F' N' Y' B' X' T' l1; (try k_lt l1); k_cells Y'; (try simp only [List.cons_append, List.nil_append] at N'); (try dsimp only); (try k_lift B'); (try k_fold))
  k_steps
  unfold Stop2
  k_dflt (refine' nestDef_K ?d0 ?k0 ?a0 ?_; (case d0 => exact rfl); (case k0 => exact rfl); (case a0 => exact rfl))
  k_dflt (refine' nestAny (I := I) (oI := oI) ?F ?N ?T ?C ?cd ?U ?hI ?st ?cl ?_)
  case F => k_asm
  case N => k_asm
  case T => k_asm
  case cd => exact rfl
  case C => kn_code
  case U => k_updF
  case hI => k_mem
  case st => exact hst.mono fun p hp => by k_mem
  case cl => exact rfl
  intro fa ca oc vs tq ctv doc h9 tk9 F9 N9 hd9 hv9 l9 hcI
  k_lt l9
  have hcx : @Ne Nat ca dx := apart N9 (o := oc) (List.mem_cons_of_mem _ List.mem_cons_self) (o' := hostD w t1 t2 t3 t4 t5 t6 vd rl ll lim wid n tl tw tn) (by k_mem) (fun e => by rw [e] at hd9; cases hd9)
  have hcl : @Ne Nat ca ll := apart N9 (o := oc) (List.mem_cons_of_mem _ List.mem_cons_self) (o' := listOf logs nl) (by k_mem) (fun e => by rw [e] at hd9; cases hd9)
  have hcv : @Ne Nat ca vd := apart N9 (o := oc) (List.mem_cons_of_mem _ List.mem_cons_self) (o' := ov) (by k_mem) (fun e => by
    obtain ⟨kvs, ⟨es, ep, _, hdd, _⟩, _⟩ := P.kv
    rw [e, hdd] at hd9; cases hd9)
  k_steps
  unfold Stop2
  k_dflt (refine' replace_c (T := T) (res := res) (vals := vals) (b := b) (f := f) (S := S) (J := Txt.join (Str.ofString "") (ords.map fun p => (lookS res.2 p.1).getD p.1)) (tn := tn) (n := n) (ov := ov) (logs := logs) (nl := nl) (lim := lim) (wid := wid) (t1 := t1) (t2 := t2) (t3 := t3) (t4 := t4) (t5 := t5) (t6 := t6) (tl := tl) (tw := tw) (dx := dx) (vd := vd) (rl := rl) (ll := ll) (nd := whole2 n1 n2) (P := P) (hb1 := hb1) (hTl := ?hTl) (q1 := ?q1) (q2 := ?q2) (q3 := ?q3) (hnd := ?nd) (hrun := hrun) (hn := hn) (hl := hl) (hb := hb) (hS := hS) (hJ := hjl) (htx := ?htx) (hfo := ?hfo) ?B ?F ?X ?N ?T ?k ?d ?u ?_)
  case N => k_asm
  case B => k_asm
  case F => k_asm
  case X => k_asm
  case T => k_asm
  case k => exact rfl
  case hTl => intro p hp; k_mem
  case q1 => k_mem
  case q2 => k_mem
  case q3 => k_mem
  case hfo => exact memF (by k_mem) (by k_ne) (by k_ne) (by k_ne)
  case d => ktr_room
  case u => ktr_units
  case nd =>
    exact .cat (memF (by k_mem) (by k_ne) (by k_ne) (by k_ne)) (hn1.mono fun p hp => memF (by k_mem) (P.adx p hp) (P.avd p hp) (P.all p hp)) (.cat (memF (by k_mem) (by k_ne) (by k_ne) (by k_ne)) (hn2.mono fun p hp => memF (by k_mem) (P.adx p hp) (P.avd p hp) (P.all p hp)) (.now (memF (by k_mem) (by k_ne) (by k_ne) (by k_ne)) (.rem (memF (by k_mem) (by k_ne) (by k_ne) (by k_ne))) ⟨_, _, _, _, _, _, memF (by k_mem) (by k_ne) (by k_ne) (by k_ne), memF (by k_mem) (by k_ne) (by k_ne) (by k_ne)⟩))
  case htx =>
    unfold TextDoes
    intro dp2 un2 gd2 cn2 cs2 a2' ccd2 cl2 outer2 A2 h2 L2 m2' s2 Q2 E2 tn2 n2' ov2 kvs T2 B2 F2 X2 N2 Tp2 hk2 hs8 hdx8 hvd8 hov8 hfl8 hd2 hu2 hq2
    have hst := pick_strs hfl8 hall ords
    have m1 := hs8 (x, _) (memF (by k_mem) (P.adx _ P.hx) (P.avd _ P.hx) (P.all _ P.hx))
    have m2 := hs8 (fa, _) (memF (by k_mem) (by k_ne) (by k_ne) (by k_ne))
    have m3 := hs8 (L' + 1, _) (memF (by k_mem) (by k_ne) (by k_ne) (by k_ne))
    have m4 := hs8 (ol, _) (memF (by k_mem) (P.adx _ hol) (P.avd _ hol) (P.all _ hol))
    have m4' := m4
    have m5 := hs8 (ca, _) (memF (by k_mem) (by k_ne) (by k_ne) (by k_ne))
    k_dflt (refine wpAny_call ?_; refine' code_nestC1 ?k1 ?k2 ?k3 ?k4 ?k5 ?kA ?kF ?kK ?k6 ?k7 ?k8 ?k9 ?kB ?kC ?kD ?_ ?c2 ?c3 ?c4; (case kA => exact rfl); (case kF => exact rfl); (case kK => exact hk2); (case k1 => exact B2); (case k2 => exact F2); (case k3 => exact X2); (case k4 => exact N2); (case k5 => exact Tp2); (case k6 => exact m2); (case k7 => exact codeRec_news N2 m5 hd9 hv9); (case k8 => k_room); (case k9 => exact BindsTo.of_eq rfl); (case kB => exact rfl); (case kC => exact fun _ => rfl); (case kD => exact fun _ => rfl); (case c2 => exact rfl); (case c3 => exact rfl); (case c4 => exact rfl); k_whole; intro g' L' h' tk' o' FG' F' N' d' B' X' T' l1; (try k_lt l1); (try dsimp only); (try k_lift B'); (try k_fold))
    k_steps
    unfold Stop2
    refine LCg.CompSrc.ledger (its := (ords.map fun p => Value.str p.1 p.2).toArray) (k := no) (by rfl) (by k_asm) (by k_asm) (by k_mem) ?hsz ?_
    case hsz => rw [List.size_toArray, List.length_map]; exact Nat.le_trans hols (by decide)
    intro g9
    refine comp_const (pick kvs) (.inr ⟨_, (by k_mem : (ol, listOf (ords.map fun p => Value.str p.1 p.2).toArray no) ∈ _), rfl, _, rfl⟩) ?_ ?_
    · intro v hv I oI C oC D m₂ h tk E' ys Q2 hC2 hx2 F7 N7 hq7
      obtain ⟨p, hp, rfl⟩ := List.mem_map.mp hv
      exact elem_get (by k_asm) (by k_asm) F7 N7 hC2 hx2 rfl rfl rfl rfl (by k_mem) (by assumption) (by k_mem) (by k_mem) (by k_mem) hov8 hvm hq7
    · k_steps
      exact hq2 _ _ _ T2 (by k_asm) (cb_drop (by assumption) (fun p hp => by k_mem)) (fun p hp => hp)
  intro t9 n9 tn9 ov9 kvs9 T9 h10 tk10 F10 N10 hs10 hdx10 hvd10 hov10 hfl10
  k_steps
  refine hret _ n9 tn9 ov9 kvs9 T9 _ _ _ (by k_asm) (by assumption) ?_ hdx10 hvd10 (by assumption) (by assumption) (hs10 (448, _) (memF (by k_mem) (by k_ne) (by k_ne) (by k_ne))) (.inr ⟨ca, oc, vs, tq, rfl, hs10 (ca, _) (memF (by k_mem) (by k_ne) (by k_ne) (by k_ne)), by assumption, by assumption, hcI⟩)
  intro p hp
  exact hs10 p (memF (by k_mem) (P.adx p hp) (P.avd p hp) (P.all p hp))
end
section
def TurnEnd (h₀ : Heap) (L I : Addr) (it : Obj) (Jn : (Str → Option Value) → List (Addr × Obj) → Prop) (s₁ : Shared) (f : Flow) (s₂ : Shared) : Prop :=
  f = .next ∧ ∃ h' tk m₂ news₂, s₂ = { s₁ with heap := h', toks := tk } ∧ Fr h₀ L h' m₂ ∧ News h₀ L h' ((I, it) :: news₂) ∧ (∀ p ∈ news₂, p.1 ≠ I) ∧ Jn m₂ news₂
section
variable {prog : Program} {w : World} {A : Around} {E : Value → Shared → Prop} {s : Shared} {env : Env} {h₀ : Heap}
theorem iter_rangeT {Q : Flow → Shared → Prop} {x : Str} {px : Pos} {body : List Stmt} {r : Addr} {b₀ : Int} {t₀ u₀ v₀ : Tok} {n : Nat} {m₀ : Str → Option Value} {news : List (Addr × Obj)} (J : Nat → (Str → Option Value) → List (Addr × Obj) → Prop)
    (hh : A.handled = none) (hr : IsRange s.heap r 0 b₀ 1 t₀ u₀ v₀) (hsmall : Builtin.Range.small 0 b₀ 1 = true) (hn : Builtin.Range.rangeSize 0 b₀ 1 = (n : Int)) (F : Fr h₀ env.locals s.heap m₀) (N : News h₀ env.locals s.heap news) (h0 : J 0 m₀ news)
    (turn : ∀ (i : Nat) t m₁ news₁ I it s₁, i < n → J i m₁ news₁ → (∀ p ∈ news₁, p.1 ≠ I) → (∀ p ∈ news, p.1 < I) → Fr h₀ env.locals s₁.heap m₁ → News h₀ env.locals s₁.heap ((I, it) :: news₁) →
      wpAny (model prog w) A (assign (.Name x px) env (.int (i : Int) t)) (fun _ s₂ => wpAny (model prog w) A (execs body env) (TurnEnd h₀ env.locals I it (J (i + 1)) s₁) E s₂) E s₁)
    (fin : ∀ h' tk m' news', Fr h₀ env.locals h' m' → News h₀ env.locals h' news' → J n m' news' → Q .next { s with heap := h', toks := tk }) :
    wpAny (model prog w) A (pyIter (.ref r)) (fun it s₂ => LoopAtT prog w A h₀ env (.Name x px) body Q E it s₂) E s := by
  refine wpAny_pyIter_range hr hsmall ?_
  have W : Walks prog w A s.heap.objs.size [s.heap.objs.size] [s.heap.objs.size] n (fun i v => ∃ t, v = .int (0 + i * 1) t) (fun i h => IsRangeIter h s.heap.objs.size (0 + (i : Nat) * 1) ((n : Int) - (i : Nat)) 1) := Walks.range hh _ 0 1 n
  have hnew := next_is_new F
  refine ⟨_, _, _, n, _, _, m₀, news, J, rfl, W, ?_, ?_, ?_, (by show IsRangeIter _ _ _ _ _; rw [hn]; simpa using Heap.get?_push_size _ rfl), F.push _, (fun p hp => ⟨Heap.get?_push_of_some _ (N p hp).1, (N p hp).2⟩), ?_, h0, ?_, ?_⟩
  · intro hm
    exact absurd F.ns.lt ((List.mem_singleton.mp hm) ▸ Nat.lt_irrefl _)
  · intro b hb
    rw [List.mem_singleton.mp hb]
    exact hnew
  · intro p hp hI
    exact absurd (Heap.lt_size (N p hp).1) ((List.mem_singleton.mp hI) ▸ Nat.lt_irrefl _)
  · intro i s' v Q' _ h
    exact wpAny_pure h
  · rintro i v m₁ news₁ s₁ own hin ⟨t, rfl⟩ hJ hoff hown hget hall hst F₁ N₁
    obtain ⟨it, hst'⟩ : ∃ it, s₁.heap.get? s.heap.objs.size = some it := ⟨_, hst⟩
    have hmem := hall s.heap.objs.size (List.mem_singleton.mpr rfl) hnew _ hst'
    have e1 : (0 : Int) + (i : Int) * 1 = (i : Int) := by omega
    rw [e1]
    refine wpAny_mono (turn i t m₁ news₁ s.heap.objs.size it s₁ hin hJ (fun p hp e => hoff p hp (List.mem_singleton.mpr e)) (fun p hp => Heap.lt_size (N p hp).1) F₁ (fun p hp => ?_)) (fun _ s₂ h₂ => wpAny_mono h₂ (fun f s₃ h₃ => ?_) fun _ _ e => e) fun _ _ e => e
    · rcases List.mem_cons.mp hp with rfl | hp
      · exact N₁ _ (List.mem_append_left _ hmem)
      · exact N₁ _ (List.mem_append_right _ hp)
    · obtain ⟨rfl, h', tk, m₂, news₂, e, F₂, N₂, o₂, j₂⟩ := h₃
      refine ⟨rfl, h', tk, m₂, news₂, e, F₂, fun p hp => ?_, fun p hp hI => o₂ p hp (List.mem_singleton.mp hI), j₂⟩
      rcases List.mem_append.mp hp with hp | hp
      · have h2 := hget p hp
        have h1 := List.mem_singleton.mp (hown p hp)
        have h3 : p = (s.heap.objs.size, it) := by
          rw [h1, hst'] at h2
          exact Prod.ext h1 (Option.some.inj h2).symm
        rw [h3]; exact N₂ _ List.mem_cons_self
      · exact N₂ _ (List.mem_cons_of_mem _ hp)
  · intro h' tk m' news' F' N' _ hJ
    exact fin h' tk m' news' F' N' hJ
end
end
section
open PyProof.Rows.LCg PyProof.Rows.LCt
section
variable {prog : Program} {w : World} {A : Around} {E : Value → Shared → Prop} {s : Shared} {h₀ : Heap} {L : Addr} {m : Str → Option Value} {env : Env}
def CompSrcS (prog : Program) (w : World) (A : Around) (h₀ : Heap) (L : Addr) (m : Str → Option Value) (env : Env) (ct elt : Expr) (x : Str) (scope : Scope) (cl : List (Str × Addr)) (Fin : Shared → List Value → Led → Prop) (xv : Value) (s₁ : Shared) : Prop :=
  ∃ X t news, xv = .str X t ∧ A.handled = none ∧ Fr h₀ L s₁.heap m ∧ News h₀ L s₁.heap news ∧ X.cps.size ≤ sizeLine ∧
    ∀ s₂ : Shared, (∃ h, s₂ = { s₁ with heap := h }) → CompRestT prog w A h₀ L m env ct elt x scope cl s₂ (fun _ => True) (SignAt X) (Fin s₂) X.cps.size 0 [] news
theorem strStays {h h' : Heap} {I : Addr} {T : String} {X : Str} {t : Tok} {i : Nat} {o : Obj} (st : h.IsStrIter I T X t i) (e : h.get? I = some o) (e' : h'.get? I = some o) : h'.IsStrIter I T X t i := by
  obtain ⟨o₁, e₁, r⟩ := st
  rw [e] at e₁
  cases e₁
  exact ⟨o, e', r⟩
theorem ListComp_S {ct elt iter : Expr} {x : Str} {px : Pos} {scope : Scope} {cl : List (Str × Addr)} {pos : Pos} {Q : Value → Shared → Prop} (F₀ : Fr h₀ L s.heap m)
    (hclos : closureFor scope env = pure cl) (hcell : ∀ y ∈ scope.names, y.2 ≠ .cell) (hkind : scope.kind = .function)
    (hnames : ∀ y ∈ scope.names, y.2 = .local → scope.names.lookup y.1 = some .local) (hx : scope.names.lookup x = some .local)
    (h : wpAny (model prog w) A (eval iter env) (CompSrcS prog w A h₀ L m env ct elt x scope cl (fun s₂ => FinE h₀ L m s₂ Q)) E s)
    (hs : ∀ x, foldedSetIterable iter env x = pure x := by intro _; rfl) :
    wpAny (model prog w) A (eval (.ListComp elt [⟨.Name x px, iter, [ct], 0⟩] scope pos) env) Q E s := by
  rw [eval_ListComp]
  refine wpAny_comprehension_free (use := none) rfl hs hclos hkind hnames (wpAny_mono h (fun xv s₁ h₁ => ?_) fun _ _ e => e)
  obtain ⟨X, t, news, rfl, hh, F, N, hsz, R⟩ := h₁
  cases ha : X.cps.all (· < 128)
  · refine wpAny_pyIter_wide ha ?_
    refine block_T (Walks.strWide hh s₁.heap.objs.size X t) hsz (fun i h st => by obtain ⟨o, e, _⟩ := st; exact ⟨o, e⟩) (S := fun _ => True) (fun i h h' o nw st e e' _ _ _ => strStays st e e') hcell hkind hx ⟨_, Heap.get?_push_size _ rfl, rfl, rfl⟩ (fun b hb => ?_)
      (F.push _) (fun p hp => ⟨Heap.get?_push_of_some _ (N p hp).1, (N p hp).2⟩) (Nat.ne_of_lt F.ns.lt) (next_is_new F) (fun p hp => Nat.ne_of_lt (Heap.lt_size (N p hp).1)) trivial (R _ ⟨_, rfl⟩) ?_
    · show b < (s₁.heap.push _).objs.size
      rw [Heap.size_push, List.mem_singleton.mp hb]
      exact Nat.lt_succ_self _
    · intro D C h tk m' ys news' F' N' o1 hn hC₀ hD₀ hCL hDL hCD offC fin
      refine ⟨m', hn, fun h'' hs'' => fin D h'' tk (F'.change hs'' hCL hC₀) (fun p hp => ?_) o1⟩
      refine ⟨hs''.extBut _ _ ?_ (N' p hp).1, (N' p hp).2⟩
      rcases List.mem_cons.mp hp with rfl | hp
      · exact Ne.symm hCD
      · exact offC p hp
  · refine wpAny_pyIter_ascii ha ?_
    refine block_T (Walks.strAscii hh s₁.heap.objs.size X t) hsz (fun i h st => by obtain ⟨o, e, _⟩ := st; exact ⟨o, e⟩) (S := fun _ => True) (fun i h h' o nw st e e' _ _ _ => strStays st e e') hcell hkind hx ⟨_, Heap.get?_push_size _ rfl, rfl, rfl⟩ (fun b hb => ?_)
      (F.push _) (fun p hp => ⟨Heap.get?_push_of_some _ (N p hp).1, (N p hp).2⟩) (Nat.ne_of_lt F.ns.lt) (next_is_new F) (fun p hp => Nat.ne_of_lt (Heap.lt_size (N p hp).1)) trivial (R _ ⟨_, rfl⟩) ?_
    · show b < (s₁.heap.push _).objs.size
      rw [Heap.size_push, List.mem_singleton.mp hb]
      exact Nat.lt_succ_self _
    · intro D C h tk m' ys news' F' N' o1 hn hC₀ hD₀ hCL hDL hCD offC fin
      refine ⟨m', hn, fun h'' hs'' => fin D h'' tk (F'.change hs'' hCL hC₀) (fun p hp => ?_) o1⟩
      refine ⟨hs''.extBut _ _ ?_ (N' p hp).1, (N' p hp).2⟩
      rcases List.mem_cons.mp hp with rfl | hp
      · exact Ne.symm hCD
      · exact offC p hp
end
end
section
open PyProof.Rows.LCg PyProof.Rows.LCt
section
variable {prog : Program} {w : World} {A : Around} {E : Value → Shared → Prop} {s : Shared} {h₀ : Heap} {L : Addr} {m : Str → Option Value} {env : Env}
theorem comp_signs {ct elt : Expr} {x : Str} {scope : Scope} {cl : List (Str × Addr)} {Fin : List Value → Led → Prop} {X : Str} {news : Led} (g : Nat → Bool)
    (test : ∀ c u I oI C oC D m₂ ys h tk (E' : Value → Shared → Prop) (Q' : Bool → Shared → Prop), c ∈ X.cps.toList → NsObj oC m₂ → m₂ x = some (.str ⟨#[c]⟩ u) → Fr h₀ L h m → News h₀ L h ((I, oI) :: (C, oC) :: (D, lst ys) :: news) →
      (∀ h' tk', Fr h₀ L h' m → News h₀ L h' ((I, oI) :: (C, oC) :: (D, lst ys) :: news) → Q' (g c) { s with heap := h', toks := tk' }) →
      wpAny (model prog w) A (isTrue ct (compEnvC scope cl C env) (eval ct (compEnvC scope cl C env))) Q' E' { s with heap := h, toks := tk })
    (elem : ∀ c u I oI C oC D m₂ ys h tk (E' : Value → Shared → Prop) (Q' : Value → Shared → Prop), NsObj oC m₂ → m₂ x = some (.str ⟨#[c]⟩ u) → Fr h₀ L h m → News h₀ L h ((I, oI) :: (C, oC) :: (D, lst ys) :: news) →
      (∀ v h' tk', Fr h₀ L h' m → News h₀ L h' ((I, oI) :: (C, oC) :: (D, lst ys) :: news) → Q' v { s with heap := h', toks := tk' }) →
      wpAny (model prog w) A (eval elt (compEnvC scope cl C env)) Q' E' { s with heap := h, toks := tk })
    (fin : ∀ ys : List Value, ys.length = (X.cps.toList.filter g).length → Fin ys news) : CompRestT prog w A h₀ L m env ct elt x scope cl s (fun _ => True) (SignAt X) Fin X.cps.size 0 [] news := by
  have all : ∀ k i (ys : List Value), k + i = X.cps.size → ys.length = ((X.cps.toList.take i).filter g).length → CompRestT prog w A h₀ L m env ct elt x scope cl s (fun _ => True) (SignAt X) Fin k i ys news := by
    intro k
    induction k with
    | zero =>
      intro i ys hi hy
      rw [List.take_of_length_le (by rw [Array.length_toList]; omega)] at hy
      exact CompRestT.zero (fin ys hy)
    | succ k ih =>
      intro i ys hi hy
      refine CompRestT.succ ?_
      rintro v I oI C oC D m₂ h tk E' ⟨c, u, hc, rfl⟩ hC hx F N off ne
      have hc' : X.cps.toList[i]? = some c := by rw [Array.getElem?_toList]; exact hc
      have ht : X.cps.toList.take (i + 1) = X.cps.toList.take i ++ [c] := by rw [List.take_succ, hc']; rfl
      refine test c u I oI C oC D m₂ ys h tk E' _ (List.mem_of_getElem? hc') hC hx F N fun h' tk' F' N' => ?_
      cases hg : g c with
      | true =>
        simp only [if_true]
        refine elem c u I oI C oC D m₂ ys h' tk' E' _ hC hx F' N' fun v h2 tk2 F2 N2 => ?_
        refine CompEnd.intro F2 N2 news (fun p hp => hp) off trivial ?_
        refine ih (i + 1) _ (by omega) ?_
        rw [ht, List.filter_append, List.length_append, List.length_append, hy]
        simp [hg]
      | false =>
        simp only [Bool.false_eq_true, if_false]
        refine CompEnd.intro F' N' news (fun p hp => hp) off trivial ?_
        refine ih (i + 1) _ (by omega) ?_
        rw [ht, List.filter_append, List.length_append, hy]
        simp [hg]
  exact all X.cps.size 0 [] (by omega) (by simp)
end
end
section
open PyProof.Rows.LCg PyProof.Rows.LCt
noncomputable def unlAt (R O : Str) (i : Nat) : Nat := ((Txt.slice R (some ((i : Int) + 1)) none).cps.toList.filter fun c => decide (Txt.find O ⟨#[c]⟩ < Txt.find O (Txt.item R (i : Int)))).length
noncomputable def unl (R O : Str) : Nat → Nat
  | 0 => 0
  | n + 1 => unl R O n + unlAt R O n
local macro_rules | `(tactic| k_room) => `(tactic| ktr_room)
local macro_rules | `(tactic| k_mem) => `(tactic| ((repeat (first | (with_reducible exact List.mem_cons_self) | with_reducible assumption | refine' List.mem_cons_of_mem _ ?_)); done))
def Stop3 (P : Prop) : Prop := P
theorem stop3I {P : Prop} (h : Stop3 P) : P := h
local macro_rules | `(tactic| walk_at "exec For Name Call cons nil") => `(tactic| (k_here; (rename Fr _ _ _ _ => lF'); (with_unfolding_all refine' For_invTF lF' ?_ (fun _ => rfl))))
local macro_rules | `(tactic| walk_at "pyIter ref") => `(tactic| (k_here; (with_reducible show wpAny _ _ (pyIter (Value.ref _)) (fun it s₂ => LoopAtT _ _ _ _ _ _ _ _ _ it s₂) _ _); refine stop3I ?_))
local macro_rules | `(tactic| k_all) => `(tactic| with_reducible assumption)
local macro_rules | `(tactic| walk_at "eval ListComp") => `(tactic| (k_here; k_dflt (refine ListComp_S (F₀ := by k_asm) (by with_unfolding_all rfl) (by decide) (by rfl) (by decide) (by rfl) ?_)))
local macro_rules | `(tactic| walk_at "CompSrcS") => `(tactic| (k_here; refine stop3I ?_))
local macro_rules | `(tactic| walk_at "eval Name") => `(tactic| (k_here; (with_reducible show wpAny _ _ (eval (Expr.Name _ _) (compEnvC _ _ _ _)) _ _ _); k_dflt (refine' nameCell ?N ?l ?m ?d ?_ ?k ?x ?b; (case N => k_asm); (case l => exact rfl); (case m => k_mem); (case d => assumption); (case k => exact rfl); (case x => exact rfl); (case b => decide))))
local macro_rules | `(tactic| walk_at "eval Name") => `(tactic| (k_here; (with_reducible show wpAny _ _ (eval (Expr.Name (PySem.Str.ofString "sign") _) (compEnvC _ _ _ _)) _ _ _); k_dflt (refine' LCgL.ld_own ?N ?m ?c ?x ?_ ?k ?l ?d; (case N => k_asm); (case m => k_mem); (case c => assumption); (case x => assumption); (case k => exact rfl); (case l => exact rfl); (case d => decide))))
local macro_rules | `(tactic| walk_at "call builtin:str.index") => `(tactic| (k_here; (refine index_or (by rfl) (fun e _ => absurd e (by omega)) ?_); intro _ _))
local macro_rules | `(tactic| walk_at "subscriptTail") => `(tactic| (k_here; (with_reducible show wpAny _ _ (subscriptTail _ _ (Value.str _ _) (Value.int _ _)) _ _ _); (refine KXi.item rfl (by omega) (by omega) (by omega) ?_); intro _))
local macro_rules | `(tactic| walk_at "call builtin:len") => `(tactic| (k_here; (with_reducible show wpAny _ _ (call (Value.builtin "len") [Value.ref _]) _ _ _); k_dflt (refine' len_any ?N ?m ?f ?_; (case N => k_asm); (case m => k_mem); (case f => ((try simp only [List.size_toArray]); omega)); k_whole)))
theorem unlike_c {w : World} {mean : ExcName → Option Value} {mg mb : Str → Option Value} {dp un : Nat} {gd : Option (List Code)} {cn : Str} {cs : Scope} {a : Addr} {ccd : Value} {cl : List (Str × Addr)} {outer : List Env} {A₀ : Around} {base h₀ : Heap} {L : Addr} {m : Str → Option Value} {s : Shared} {Q E : Value → Shared → Prop}
   {R O : Str} {tr to' : Tok} {l : List (Addr × Obj)} (hR : R.length ≤ 100) (hRO : ∀ i, i < R.length → 0 ≤ Txt.find O (Txt.item R (i : Int)) ∧ ∀ c ∈ (Txt.slice R (some ((i : Int) + 1)) none).cps.toList, 0 ≤ Txt.find O ⟨#[c]⟩) :
   Below A₀ base outer h₀ → Fr h₀ L s.heap m → (K w.params).In h₀ → News h₀ L s.heap l → Top topProg loose0 mean mg mb h₀ → cs.kind = .function →
   dp + 3 < recursionLimit → un + 24 < cLine →
   (∀ t h' tk', Fr h₀ L h' m → News h₀ L h' l → Q (.int (unl R O R.length : Nat) t) { s with heap := h', toks := tk' }) →
   wpAny (model Challenge.rw_xm0938_01.row.prog w) (ktrTop dp un gd cn cs L a ccd cl outer) (call (.ref 458) [.str R tr, .str O to']) Q E s := by
  k_fill
  intro B F X N T hk hdp hu hret
  refine wpAny_call ?_
  k_dflt (refine' code_defC ?k1 ?k2 ?k3 ?k4 ?k5 ?kA ?kF ?kK ?k6 ?k7 ?k8 ?k9 ?kB ?kD ?_ ?c2 ?c3 ?c4; (case kA => exact rfl); (case kF => exact rfl); (case kK => assumption); (case k1 => k_asm); (case k2 => k_asm); (case k3 => k_asm); (case k4 => k_asm); (case k5 => k_asm); (case k6 => k_is); (case k7 => k_is); (case k8 => ktr_room); (case k9 => exact BindsTo.of_eq rfl); (case kB => exact rfl); (case kD => decide +kernel); (case c2 => exact rfl); (case c3 => exact rfl); (case c4 => exact rfl); k_whole; intro g' L' h' tk' cells' FG' F' N' Y' B' X' T' l1; (try k_lt l1); k_cells Y'; (try simp only [List.cons_append, List.nil_append] at N'); (try dsimp only); (try k_lift B'); (try k_fold))
  rename_i o1 o2 o3 d1 d2 d3
  have e1 : o1.data = .cell none := d1
  have e2 : o2.data = .cell (some (.str O to')) := d2
  have e3 : o3.data = .cell (some (.str R tr)) := d3
  clear d1 d2 d3
  obtain ⟨mm, F2⟩ : ∃ mm, Fr g' L' h' mm := ⟨_, F'⟩
  clear F'
  k_steps
  unfold Stop3
  refine iter_rangeT (n := R.length) (fun i m nx => ∃ t oa v, m = (fun y => if y = Str.ofString "found" then some (.int (unl R O i : Nat) t) else mm y) ∧ nx = (L' + 1 + 1 + 1, oa) :: (L' + 1 + 1, o2) :: (L' + 1, o3) :: l ∧ oa.data = .cell v) (by rfl) (by assumption) (small_one (by omega) (by omega) (by omega) (by omega)) (by first | exact rangeSize_nat _ _ | (rw [rangeSize_nat])) (by k_asm) (by k_asm) ⟨_, o1, none, rfl, rfl, e1⟩ ?turn ?fin
  case turn =>
    rintro i t m₁ news₁ I it s₁ hi ⟨tf, oa, v, rfl, rfl, ea⟩ off lt F9 N9
    obtain ⟨hf1, hf2⟩ := hRO i hi
    have F9' : Fr g' L' s₁.heap _ := F9
    have N9' : News g' L' s₁.heap _ := N9
    clear F9 N9
    have hI3 : @Ne Nat (L' + 1 + 1 + 1) I := off _ List.mem_cons_self
    have hl3 : ∀ p ∈ l, p.1 ≠ L' + 1 + 1 + 1 := fun p hp => Nat.ne_of_lt (Nat.lt_succ_of_lt (Nat.lt_succ_of_lt (Nat.lt_succ_of_lt (l1 p hp))))
    have hI0 : L' + 1 + 1 + 1 < I := lt _ List.mem_cons_self
    refine wpAny_assign_Name ?_
    k_dflt (refine' storeX_C (c := L' + 1 + 1 + 1) F9' N9' (by rfl) ?U ea ?_)
    case U => k_updF
    intro h2 oa2 F3 N3 ea2
    (try dsimp only at N3)
    clear F9' N9' ea
    k_steps
    unfold Stop3
    refine ⟨_, _, _, rfl, rfl, by k_asm, by k_asm, Nat.le_trans (show (Txt.slice R (some ((i : Int) + 1)) none).length ≤ 100 by omega) (by decide), fun s₂ ⟨h, e⟩ => ?_⟩
    subst e
    refine comp_signs (fun c => decide (Txt.find O ⟨#[c]⟩ < Txt.find O (Txt.item R (i : Int)))) ?_ ?_ ?_
    · intro c u I oI C oC D m₂ ys h tk E' Q' hc hC hx F7 N7 hq7
      have hf3 := hf2 c hc
      k_steps
      exact hq7 _ _ F7 N7
    · intro c u I oI C oC D m₂ ys h tk E' Q' hC hx F7 N7 hq7
      k_steps
      exact hq7 _ _ _ F7 N7
    · intro ys hys
      have hle : ys.length ≤ 100 := by
        rw [hys]
        exact Nat.le_trans (List.length_filter_le _ _) (by rw [Array.length_toList]; exact Nat.le_trans (by assumption) hR)
      have hul : unl R O (i + 1) = unl R O i + ys.length := by rw [hys]; rfl
      have offN : ∀ p ∈ (L' + 1 + 1 + 1, oa2) :: (L' + 1 + 1, o2) :: (L' + 1, o3) :: l, p.1 ≠ I := fun p hp => by
        rcases List.mem_cons.mp hp with rfl | hp
        · exact off (L' + 1 + 1 + 1, oa) List.mem_cons_self
        · exact off p (List.mem_cons_of_mem _ hp)
      k_steps
      all_goals (try k_data)
      refine' ⟨rfl, _, _, _, (L' + 1 + 1 + 1, oa2) :: (L' + 1 + 1, o2) :: (L' + 1, o3) :: l, rfl, by k_asm, cb_drop (by k_asm) (fun p hp => List.mem_cons_of_mem _ hp), offN, ?tk9, oa2, some (.int i t), ?eq9, rfl, ea2⟩
      case eq9 =>
        funext y
        by_cases e : y = Str.ofString "found"
        · rw [if_pos e, if_pos e, hul]
          exact (congrArg (fun k => some (Value.int k _)) (show ((unl R O i : Nat) : Int) + (ys.toArray.size : Int) = ((unl R O i + ys.length : Nat) : Int) by rw [List.size_toArray, Int.natCast_add]))
        · rw [if_neg e, if_neg e, if_neg e]
  case fin =>
    rintro h9 tk9 m9 nx9 F9 N9 ⟨tf, oa, v, rfl, rfl, ea⟩
    have F9' : Fr g' L' h9 _ := F9
    have N9' : News g' L' h9 _ := N9
    clear F9 N9
    k_steps
    exact hret _ _ _ (by k_asm) (cb_drop (by k_asm) fun p hp => by k_mem)
end
section
section
variable {prog : Program} {w : World} {A : Around} {E : Value → Shared → Prop} {s : Shared} {env : Env} {h₀ : Heap} {x : Str} {body : List Stmt} {Q : Flow → Shared → Prop}
theorem UnrPost.mono {L I : Addr} {s₁ : Shared} {it : Obj} {J J' : (Str → Option Value) → Led → Prop} (h : ∀ m n, J m n → J' m n) {f : Flow} {s₂ : Shared} (u : UnrPost h₀ L s₁ I it J Q f s₂) : UnrPost h₀ L s₁ I it J' Q f s₂ := by
  have e : UnrEnd h₀ L s₁ I it J s₂ → UnrEnd h₀ L s₁ I it J' s₂ := fun ⟨h', tk, m', n', a, b, c, d, r⟩ => ⟨h', tk, m', n', a, b, c, d, h _ _ r⟩
  cases f with
  | ret v => exact u
  | brk => exact u
  | next => exact e u
  | cont => exact e u
theorem rangeRest_inv {I : Addr} {a : Int} {n : Nat} (J : Nat → (Str → Option Value) → Led → Prop)
    (turn : ∀ (i : Nat) m news t h tk, i < n → J i m news → Fr h₀ env.locals h (fun y => if y = x then some (.int (a + (i : Int)) t) else m y) → News h₀ env.locals h ((I, itR (a + ((i + 1 : Nat) : Int)) ((n : Int) - ((i + 1 : Nat) : Int))) :: news) →
      wpAny (model prog w) A (execs body env) (UnrPost h₀ env.locals { s with heap := h, toks := tk } I (itR (a + ((i + 1 : Nat) : Int)) ((n : Int) - ((i + 1 : Nat) : Int))) (J (i + 1)) Q) E { s with heap := h, toks := tk })
    (fin : ∀ m news h tk, J n m news → Fr h₀ env.locals h m → News h₀ env.locals h news → Q .next { s with heap := h, toks := tk }) :
    ∀ (k i : Nat) m news, i + k = n → J i m news → RangeRest prog w A E h₀ env x body Q s I a n k i m news := by
  intro k
  induction k with
  | zero =>
    intro i m news hi hj
    obtain rfl : i = n := by omega
    exact RangeRest.zero fun h tk F N => fin m news h tk hj F N
  | succ k ih =>
    intro i m news hi hj
    exact RangeRest.succ fun t h tk F N => wpAny_mono (turn i m news t h tk (by omega) hj F N) (fun f s₂ u => UnrPost.mono (fun m' n' j => ih (i + 1) m' n' (by omega) j) u) fun _ _ e => e
theorem listRest_inv {I : Addr} {lp : Addr × Obj} (J : (Str → Option Value) → Led → Prop)
    (vs : List Value)
    (turn : ∀ v m news it h tk, v ∈ vs → J m news → lp ∈ news → Fr h₀ env.locals h (fun y => if y = x then some v else m y) → News h₀ env.locals h ((I, it) :: news) →
      wpAny (model prog w) A (execs body env) (UnrPost h₀ env.locals { s with heap := h, toks := tk } I it (fun m' n' => lp ∈ n' ∧ J m' n') Q) E { s with heap := h, toks := tk })
    (fin : ∀ m news h tk, J m news → Fr h₀ env.locals h m → News h₀ env.locals h news → Q .next { s with heap := h, toks := tk }) :
    ∀ (r : List Value) m news, (∀ v ∈ r, v ∈ vs) → J m news → lp ∈ news → ListRest prog w A E h₀ env x body Q s I lp r m news := by
  intro r
  induction r with
  | nil =>
    intro m news _ hj _
    exact ListRest.zero fun h tk F N => fin m news h tk hj F N
  | cons v r ih =>
    intro m news hv hj hl
    exact ListRest.succ fun it h tk _ F N => wpAny_mono (turn v m news it h tk (hv v List.mem_cons_self) hj hl F N) (fun f s₂ u => UnrPost.mono (fun m' n' j => ⟨j.1, ih m' n' (fun v' h' => hv v' (List.mem_cons_of_mem _ h')) j.2 j.1⟩) u) fun _ _ e => e
end
section
variable {prog : Program} {w : World} {A : Around} {E : Value → Shared → Prop} {s : Shared} {Q : Value → Shared → Prop}
theorem add_tok {x y : Str} {t u : Tok} (hx : x.length ≤ 1000) (hy : y.length ≤ 1000) (h : ∀ t' k, s.toks ≤ k → (x ++ y).length = x.length + y.length → Q (.str (x ++ y) t') { s with toks := k }) : wpAny (model prog w) A (binaryOp .Add (.str x t) (.str y u)) Q E s := by
  have hl : (x ++ y).length = x.length + y.length := by
    show (x ++ y).cps.size = x.cps.size + y.cps.size
    rw [PySem.Str.cps_append, Array.size_append]
  refine tok_up (SBL.add (fun t' k _ => fun hle => h t' k hle hl) ?_)
  exact Nat.le_trans (show x.length + y.length ≤ 2000 by omega) (by decide)
theorem repl_tok {x y : Str} {t u v : Tok} (hu : @Ne Nat u 0) (hv : @Ne Nat v 0) (huv : @Ne Nat u v) (hyz : (y == Str.empty) = false) (hx : x.length ≤ 1000)
    (h : ∀ t' k, s.toks ≤ k → Q (.str (Txt.replace x y Str.empty) t') { s with toks := k }) : wpAny (model prog w) A (call (.builtin "str.replace") [.str x t, .str y u, .str Str.empty v]) Q E s :=
  tok_up (SC.replaceW hu hv huv hyz (by omega) (by decide) fun t' k => fun hle => h t' k hle)
end
end
section
/-- what the first loop may have built after i turns -/
noncomputable def stepStates : Nat → List (Str × Str)
  | 0 => [(Str.empty, Str.ofString "abcd")]
  | n + 1 => (stepStates n).flatMap fun p => (List.range p.2.length).map fun (j : Nat) => (p.1 ++ Txt.item p.2 (j : Int), Txt.replace p.2 (Txt.item p.2 (j : Int)) Str.empty)
noncomputable def rows : List Str := (stepStates 4).map (·.1)
theorem step_len : ∀ i : Fin 4, ∀ p ∈ stepStates i, p.2.length = 4 - i.val ∧ p.1.length = i.val := by decide +kernel
theorem step_next {i : Nat} {o r : Str} {j : Int} (h : (o, r) ∈ stepStates i) (h0 : 0 ≤ j) (h1 : j < (r.length : Int)) : (o ++ Txt.item r j, Txt.replace r (Txt.item r j) Str.empty) ∈ stepStates (i + 1) := by
  refine List.mem_flatMap.mpr ⟨(o, r), h, List.mem_map.mpr ⟨j.toNat, List.mem_range.mpr (by show j.toNat < r.length; omega), ?_⟩⟩
  rw [Int.toNat_of_nonneg h0]
theorem step_rows {o r : Str} (h : (o, r) ∈ stepStates 4) : o ∈ rows := List.mem_map.mpr ⟨_, h, rfl⟩
theorem rows_len : ∀ o ∈ rows, o.length = 4 := by decide +kernel
theorem abcd_row : Str.ofString "abcd" ∈ rows := by decide +kernel
theorem item_ne {x : Str} {i : Int} : (Txt.item x i == Str.empty) = false := rfl
end
section
noncomputable def codes4 : List Nat := [97, 98, 99, 100]
noncomputable def signs : List Str := codes4.map fun c => ⟨#[c]⟩
theorem sign_mem (k : Int) : Txt.item (Str.ofString "abcd") (k.fmod 4) ∈ signs := by
  have h0 := fmod_lo k (n := 4) (by decide)
  have h1 := fmod_hi k (n := 4) (by decide)
  have key : ∀ j : Fin 4, Txt.item (Str.ofString "abcd") (j.val : Int) ∈ signs := by decide +kernel
  have := key ⟨(k.fmod 4).toNat, by omega⟩
  rw [show (((⟨(k.fmod 4).toNat, by omega⟩ : Fin 4).val : Nat) : Int) = k.fmod 4 from Int.toNat_of_nonneg h0] at this
  exact this
theorem sign_len : ∀ x ∈ signs, x.length = 1 := by decide
theorem find_ok : ∀ O ∈ rows, ∀ x ∈ signs, 0 ≤ Txt.find O x ∧ Txt.find O x < 4 := by decide +kernel
theorem item_ok : ∀ R ∈ rows, ∀ i : Fin 4, Txt.item R (i.val : Int) ∈ signs := by decide +kernel
theorem slice_ok : ∀ R ∈ rows, ∀ i : Fin 4, ∀ c ∈ (Txt.slice R (some ((i.val : Int) + 1)) none).cps.toList, (⟨#[c]⟩ : Str) ∈ signs := by decide +kernel
theorem unl_ok {R O : Str} (hR : R ∈ rows) (hO : O ∈ rows) : ∀ i, i < R.length → 0 ≤ Txt.find O (Txt.item R (i : Int)) ∧ ∀ c ∈ (Txt.slice R (some ((i : Int) + 1)) none).cps.toList, 0 ≤ Txt.find O ⟨#[c]⟩ := by
  intro i hi
  rw [rows_len R hR] at hi
  exact ⟨(find_ok O hO _ (item_ok R hR ⟨i, hi⟩)).1, fun c hc => (find_ok O hO _ (slice_ok R hR ⟨i, hi⟩ c hc)).1⟩
theorem unlike_e {w : World} {mean : ExcName → Option Value} {mg mb : Str → Option Value} {dp un : Nat} {gd : Option (List Code)} {cn : Str} {cs : Scope} {a : Addr} {ccd : Value} {cl : List (Str × Addr)} {outer : List Env} {A₀ : Around} {base h₀ : Heap} {L : Addr} {m : Str → Option Value} {s : Shared} {Q E : Value → Shared → Prop}
   {R O : Str} {tr to' : Tok} {l : List (Addr × Obj)} (hR : R ∈ rows) (hO : O ∈ rows)
   (B : Below A₀ base outer h₀) (F : Fr h₀ L s.heap m) (X : (K w.params).In h₀) (N : News h₀ L s.heap l) (T : Top topProg loose0 mean mg mb h₀) (hk : cs.kind = .function)
   (hdp : dp + 3 < recursionLimit) (hu : un + 24 < cLine)
   (hret : ∀ t h' tk', s.toks ≤ tk' → Fr h₀ L h' m → News h₀ L h' l → Q (.int (unl R O 4 : Nat) t) { s with heap := h', toks := tk' }) :
   wpAny (model Challenge.rw_xm0938_01.row.prog w) (ktrTop dp un gd cn cs L a ccd cl outer) (call (.ref 458) [.str R tr, .str O to']) Q E s :=
  tok_up (unlike_c (by rw [rows_len R hR]; decide) (unl_ok hR hO) B F X N T hk hdp hu fun t h' tk' F' N' le => by rw [rows_len R hR]; exact hret t h' tk' le F' N')
theorem roomA {n : Nat} (h : n ≤ 20) : callerA.depth + 1 + n < recursionLimit := by
  have : callerA.depth + 1 + 20 < recursionLimit := by decide +kernel
  omega
theorem unitA {n : Nat} (h : n ≤ 200) : callerA.units + 3 + n < cLine := by
  have : callerA.units + 3 + 200 < cLine := by decide +kernel
  omega
end
section
def TokAll (a : Nat) (P : Nat → Prop) : Prop := ∀ tk, a ≤ tk → P tk
theorem tok_all {α : Type} {M : Model} {A : Around} {t : Sem α} {Q : α → Shared → Prop} {E : Value → Shared → Prop} {s : Shared} (h : wpAny M A t (fun a s' => TokAll s.toks (fun tk => Q a { s' with toks := tk })) E s) : wpAny M A t Q E s :=
  tok_up (wpAny_mono h (fun _ s' p => fun le => p s'.toks le) fun _ _ e => e)
theorem execs_cut {M : Model} {A : Around} {E : Value → Shared → Prop} {s : Shared} {env : Env} {Q : Flow → Shared → Prop} {P : Shared → Prop} {l2 : List Stmt} (h2 : ∀ s', P s' → wpAny M A (execs l2 env) Q E s') :
    ∀ {l1 : List Stmt} {s : Shared}, wpAny M A (execs l1 env) (fun fl s' => fl = .next ∧ P s') E s → wpAny M A (execs (l1 ++ l2) env) Q E s := by
  have key : ∀ (Γ : Ctx), Γ.In A → ∀ (l1 : List Stmt) (p : Pos) (s : Shared), Sem.wp M Γ (execs l1 env) (fun fl _ s' => fl = .next ∧ P s') (fun e _ s' => E e s') p s → Sem.wp M Γ (execs (l1 ++ l2) env) (fun fl _ s' => Q fl s') (fun e _ s' => E e s') p s := by
    intro Γ hΓ l1
    induction l1 with
    | nil =>
      intro p s h
      rw [execs_nil] at h
      exact h2 s h.2 Γ p hΓ
    | cons a r ih =>
      intro p s h
      rw [execs_cons, Sem.wp_bind'] at h
      rw [List.cons_append, execs_cons, Sem.wp_bind']
      refine Sem.wp_mono M Γ _ (fun f p' s' h' => ?_) (fun _ _ _ h' => h') _ _ h
      cases f with
      | next => exact ih p' s' h'
      | brk => exact absurd h'.1 (by intro h; cases h)
      | cont => exact absurd h'.1 (by intro h; cases h)
      | ret v => exact absurd h'.1 (by intro h; cases h)
  intro l1 s h Γ p hΓ
  exact key Γ hΓ l1 p s (h Γ p hΓ)
def CutEnd (P : Shared → Prop) (fl : Flow) (s' : Shared) : Prop := fl = .next ∧ P s'
theorem execs_cutn {M : Model} {A : Around} {E : Value → Shared → Prop} {s : Shared} {env : Env} {Q : Flow → Shared → Prop} {l : List Stmt} (n : Nat) (P : Shared → Prop) (h1 : wpAny M A (execs (l.take n) env) (CutEnd P) E s) (h2 : ∀ s', P s' → wpAny M A (execs (l.drop n) env) Q E s') : wpAny M A (execs l env) Q E s := by
  have h := execs_cut (s := s) (l1 := l.take n) h2 h1
  rwa [List.take_append_drop] at h
end
section
/-- a fresh host -/
structure Host (w : World) (l : Led) (x dx vd rl ll : Addr) (t1 t2 t3 t4 t5 t6 tl tw tn : Tok) (ov : Obj) : Prop where
  hx : (x, instObj 229 dx) ∈ l
  hdx : (dx, hostD w t1 t2 t3 t4 t5 t6 vd rl ll 9999 64 0 tl tw tn) ∈ l
  hvd : (vd, ov) ∈ l
  hrl : (rl, W.listOf #[] 0) ∈ l
  hll : (ll, W.listOf #[] 0) ∈ l
  hov : ov.IsDictOf (strKind Challenge.rw_xm0938_01.row.prog w) []
  hne : @Ne Nat rl ll
def Off (dx vd ll a : Addr) : Prop := (@Ne Nat a dx ∧ @Ne Nat a vd ∧ @Ne Nat a ll) ∧ @Ne Nat a 448
noncomputable def rest4 (l : Led) (dx vd ll : Addr) : Led := (restOf l dx vd ll).filter fun p => p.1 != 448
theorem mem4 {l : Led} {dx vd ll : Addr} {p : Addr × Obj} (h : p ∈ l) (o : Off dx vd ll p.1) : p ∈ rest4 l dx vd ll :=
  List.mem_filter.mpr ⟨memF h o.1.1 o.1.2.1 o.1.2.2, by simpa using o.2⟩
theorem of4 {l : Led} {dx vd ll : Addr} {p : Addr × Obj} (h : p ∈ rest4 l dx vd ll) : p ∈ l ∧ Off dx vd ll p.1 := by
  obtain ⟨h1, h2⟩ := List.mem_filter.mp h
  obtain ⟨h3, h4⟩ := List.mem_filter.mp h1
  simp only [Bool.and_eq_true, bne_iff_ne] at h2 h4
  exact ⟨h3, ⟨h4.1.1, h4.1.2, h4.2⟩, h2⟩
section
variable {w : World} {l : Led} {x dx vd rl ll : Addr} {t1 t2 t3 t4 t5 t6 tl tw tn : Tok} {ov : Obj} {h₀ h : Heap} {L : Addr} {ps : Array Value}
theorem ov_tup {vs : List Value} (hov : ov.IsDictOf (strKind Challenge.rw_xm0938_01.row.prog w) []) : tup vs ≠ ov := fun e => by
  obtain ⟨es, ep, _, hd, _⟩ := hov
  have := congrArg Obj.data e
  rw [hd] at this
  simp at this
theorem off_of (N : News h₀ L h l) (H : Host w l x dx vd rl ll t1 t2 t3 t4 t5 t6 tl tw tn ov) (h8 : (448, tabObj ps) ∈ l) {a : Addr} {o : Obj} (ha : (a, o) ∈ l)
    (e1 : o ≠ hostD w t1 t2 t3 t4 t5 t6 vd rl ll 9999 64 0 tl tw tn) (e2 : o ≠ ov) (e3 : o ≠ W.listOf #[] 0) (e4 : o ≠ tabObj ps) : Off dx vd ll a :=
  ⟨⟨apart N ha H.hdx e1, apart N ha H.hvd e2, apart N ha H.hll e3⟩, apart N ha h8 e4⟩
theorem off_tup (N : News h₀ L h l) (H : Host w l x dx vd rl ll t1 t2 t3 t4 t5 t6 tl tw tn ov) (h8 : (448, tabObj ps) ∈ l) {a : Addr} {vs : List Value} (ha : (a, tup vs) ∈ l) : Off dx vd ll a :=
  off_of N H h8 ha (fun e => by have := congrArg Obj.data e; simp at this) (ov_tup H.hov) tup_ne_list (fun e => by have := congrArg Obj.cls e; simp at this)
theorem off_inst (N : News h₀ L h l) (H : Host w l x dx vd rl ll t1 t2 t3 t4 t5 t6 tl tw tn ov) (h8 : (448, tabObj ps) ∈ l) {a C d : Addr} (ha : (a, instObj C d) ∈ l) : Off dx vd ll a :=
  off_of N H h8 ha (fun e => by have := congrArg Obj.data e; simp at this) (fun e => by
    obtain ⟨es, ep, _, hd, _⟩ := H.hov
    have := congrArg Obj.data e
    rw [hd] at this
    simp at this) (fun e => by have := congrArg Obj.data e; simp at this) (fun e => by have := congrArg Obj.cls e; simp at this)
theorem off_ref (N : News h₀ L h l) (H : Host w l x dx vd rl ll t1 t2 t3 t4 t5 t6 tl tw tn ov) (h8 : (448, tabObj ps) ∈ l) {a : Addr} {u1 u2 u3 uk uv : Tok} {k : Str} (ha : (a, refD w u1 u2 u3 k uk uv) ∈ l) : Off dx vd ll a :=
  off_of N H h8 ha (fun e => by have := congrArg Obj.data e; simp at this) (fun e => by
    obtain ⟨es, ep, _, hd, _, hp, _⟩ := H.hov
    have := congrArg Obj.data e
    rw [hd] at this
    simp only [Data.dict.injEq] at this
    obtain ⟨h1, -⟩ := this
    rw [← h1] at hp
    cases hp) (fun e => by have := congrArg Obj.data e; simp at this) (fun e => by have := congrArg Obj.cls e; simp at this)
theorem off_list (N : News h₀ L h l) (H : Host w l x dx vd rl ll t1 t2 t3 t4 t5 t6 tl tw tn ov) (h8 : (448, tabObj ps) ∈ l) {a : Addr} {v : Value} {vs : List Value} {n : Nat} (ha : (a, W.listOf (v :: vs).toArray n) ∈ l) : Off dx vd ll a :=
  off_of N H h8 ha (fun e => by have := congrArg Obj.data e; simp at this) (fun e => by
    obtain ⟨es, ep, _, hd, _⟩ := H.hov
    have := congrArg Obj.data e
    rw [hd] at this
    simp at this) (fun e => by have := congrArg Obj.data e; simp at this) (fun e => by have := congrArg Obj.cls e; simp at this)
theorem NdIn.rest (N : News h₀ L h l) (H : Host w l x dx vd rl ll t1 t2 t3 t4 t5 t6 tl tw tn ov) (h8 : (448, tabObj ps) ∈ l) {a : Addr} {n : Nd} (hn : NdIn w l a n) : NdIn w (rest4 l dx vd ll) a n := by
  have k : ∀ {a vs}, (a, tup vs) ∈ l → (a, tup vs) ∈ rest4 l dx vd ll := fun h => mem4 h (off_tup N H h8 h)
  induction hn with
  | tab h => exact .tab (k h)
  | len h => exact .len (k h)
  | chars h hx => exact .chars (k h) hx
  | rem h => exact .rem (k h)
  | arb h => exact .arb (k h)
  | cat h _ _ i1 i2 => exact .cat (k h) i1 i2
  | now h _ hr i1 =>
    obtain ⟨dr, u1, u2, u3, uk, uv, h3, h4⟩ := hr
    exact .now (k h) i1 ⟨dr, u1, u2, u3, uk, uv, mem4 h3 (off_inst N H h8 h3), mem4 h4 (off_ref N H h8 h4)⟩
theorem Host.eph (N : News h₀ L h l) (H : Host w l x dx vd rl ll t1 t2 t3 t4 t5 t6 tl tw tn ov) (h8 : (448, tabObj ps) ∈ l) : EPH w x dx vd rl ll ov #[] [] 1 (rest4 l dx vd ll) where
  hx := mem4 H.hx (off_inst N H h8 H.hx)
  hr := mem4 H.hrl ⟨⟨apart N H.hrl H.hdx (fun e => by have := congrArg Obj.data e; simp at this), apart N H.hrl H.hvd (fun e => by
    obtain ⟨es, ep, _, hd, _⟩ := H.hov
    have := congrArg Obj.data e
    rw [hd] at this
    simp at this), H.hne⟩, apart N H.hrl h8 (fun e => by have := congrArg Obj.cls e; simp at this)⟩
  adx := fun p hp => (of4 hp).2.1.1
  avd := fun p hp => (of4 hp).2.1.2.1
  all := fun p hp => (of4 hp).2.1.2.2
  d4 := apart N H.hdx H.hvd (fun e => by
    obtain ⟨es, ep, _, hd, _, hp, _⟩ := H.hov
    have := congrArg Obj.data e
    rw [hd] at this
    simp only [Data.dict.injEq] at this
    obtain ⟨h1, -⟩ := this
    rw [← h1] at hp
    cases hp)
  d5 := apart N H.hdx H.hll (fun e => by have := congrArg Obj.data e; simp at this)
  d6 := apart N H.hvd H.hll (fun e => by
    obtain ⟨es, ep, _, hd, _⟩ := H.hov
    have := congrArg Obj.data e
    rw [hd] at this
    simp at this)
  kv := ⟨[], H.hov, .nil⟩
  bv := Nat.zero_le _
  bl := Nat.zero_le _
end
end
section
noncomputable def allStrB (vals : VD) : Bool := vals.all fun p => match p.2 with | .str _ => true | _ => false
theorem allStrB_ok {vals : VD} (h : allStrB vals = true) : AllStr vals := fun p hp => by
  have := List.all_eq_true.mp h p hp
  revert this
  cases p.2 <;> intro this <;> first | exact ⟨_, rfl⟩ | cases this
noncomputable def look3 (vals : VD) (os : List Str) : List Str := os.map fun o => (lookS vals o).getD o
noncomputable def turnsB (S : Str) (nd : Nd) (os : List Str) : Option (Str × VD) := match run S 60 [.nd nd] 0 [] [] with
  | some (a, vals) => if (allStrB vals && decide ((Txt.join (Str.ofString "") (look3 vals os)).length ≤ 1000) && decide (((look3 vals os).map (·.length)).sum + (look3 vals os).length ≤ 1048576)) = true then
      some (Txt.slice S none (some 0) ++ Txt.join (Str.ofString "") (look3 vals os) ++ Txt.slice S (some a) none, vals) else none
  | none => none
theorem turnsB_ok {S : Str} {nd : Nd} {os : List Str} {R : Str} {vals : VD} (h : turnsB S nd os = some (R, vals)) :
    ∃ a, run S 60 [.nd nd] 0 [] [] = some (a, vals) ∧ AllStr vals ∧ (Txt.join (Str.ofString "") (look3 vals os)).length ≤ 1000 ∧ ((look3 vals os).map (·.length)).sum + (look3 vals os).length ≤ 1048576 ∧
      Txt.slice S none (some 0) ++ Txt.join (Str.ofString "") (look3 vals os) ++ Txt.slice S (some a) none = R := by
  unfold turnsB at h
  split at h
  · rename_i a v e
    split at h
    · rename_i hc
      simp only [Bool.and_eq_true, decide_eq_true_eq] at hc
      cases h
      exact ⟨a, e, allStrB_ok hc.1.1, hc.1.2, hc.2, rfl⟩
    · cases h
  · cases h
noncomputable abbrev TPos : Pos := ⟨307, 4, 308, 68⟩
noncomputable abbrev TQual : Str := Str.ofString "_law_turned.<locals>.text_of"
section
variable {w : World} {mean : ExcName → Option Value} {mg mb : Str → Option Value} {dp un : Nat} {gd : Option (List Code)} {cn : Str} {cs : Scope} {a : Addr} {ccd : Value} {cl : List (Str × Addr)} {outer : List Env} {A₀ : Around} {base h₀ : Heap} {L : Addr} {m : Str → Option Value} {s : Shared} {Q E : Value → Shared → Prop}
  {x dx vd rl ll fl ol a1 a2 a3 I : Addr} {nf no : Nat} {t1 t2 t3 t4 t5 t6 tl tw tn ts u1 u2 u3 u4 : Tok} {ov oI : Obj} {l : Led} {n1 n2 n3 : Nd} {S R o1 o2 o3 o4 : Str} {vals : VD} {ps : Array Value}
theorem turned_h3 (hp : turnsB S (whole3 n1 n2 n3) [o1, o2, o3, o4] = some (R, vals)) (hS : S.length ≤ 100) (B : Below A₀ base outer h₀) (F : Fr h₀ L s.heap m) (X : (K w.params).In h₀) (N : News h₀ L s.heap l) (Tp : Top topProg loose0 mean mg mb h₀) (hk : cs.kind = .function) (C : CodeHd base 452 448)
    (H : Host w l x dx vd rl ll t1 t2 t3 t4 t5 t6 tl tw tn ov) (hvm : (vd == sysModules) = false) (h8 : (448, tabObj ps) ∈ l) (hst : TabSt TPos TQual I l (tabObj ps)) (hI : (I, oI) ∈ l) (hIo : Off dx vd ll I)
    (hn1 : NdIn w l a1 n1) (hn2 : NdIn w l a2 n2) (hn3 : NdIn w l a3 n3) (hfl : (fl, W.listOf #[.ref a1, .ref a2, .ref a3] nf) ∈ l) (hol : (ol, W.listOf #[.str o1 u1, .str o2 u2, .str o3 u3, .str o4 u4] no) ∈ l)
    (hdp : dp + 16 < recursionLimit) (hu : un + 128 < cLine)
    (hret : ∀ t n' tn' ov' kvs T' ps' h' tk', Fr h₀ L h' m → News h₀ L h' T' → (∀ p ∈ l, Off dx vd ll p.1 → p ∈ T') → (dx, hostD w t1 t2 t3 t4 t5 t6 vd rl ll 9999 64 n' tl tw tn') ∈ T' → (vd, ov') ∈ T' → ov'.IsDictOf (strKind Challenge.rw_xm0938_01.row.prog w) kvs → FlatPairs PyData.str kvs vals → (x, instObj 229 dx) ∈ T' →
      (448, tabObj ps') ∈ T' → TabSt TPos TQual I T' (tabObj ps') → Q (.str R t) { s with heap := h', toks := tk' }) :
    wpAny (model Challenge.rw_xm0938_01.row.prog w) (ktrTop dp un gd cn cs L a ccd cl outer) (call (.ref 453) [.str S ts, .ref fl, .ref ol, .ref x]) Q E s := by
  obtain ⟨e, hrun, hall, hjl, hws, hR⟩ := turnsB_ok hp
  have hsub : ∀ p ∈ (448, tabObj ps) :: engH w t1 t2 t3 t4 t5 t6 dx vd rl ll 9999 64 0 tl tw tn ov #[] 0 (rest4 l dx vd ll), p ∈ l := fun p hp => by
    rcases List.mem_cons.mp hp with rfl | hp
    · exact h8
    rcases List.mem_cons.mp hp with rfl | hp
    · exact H.hdx
    rcases List.mem_cons.mp hp with rfl | hp
    · exact H.hvd
    rcases List.mem_cons.mp hp with rfl | hp
    · exact H.hll
    exact (of4 hp).1
  have hst' : TabSt TPos TQual I (rest4 l dx vd ll) (tabObj ps) := by
    rcases hst with h | ⟨c', oc, vs, t, g1, g2, g3, g4, g5⟩
    · exact .inl h
    · refine .inr ⟨c', oc, vs, t, g1, mem4 g2 (off_of N H h8 g2 (fun e => ?_) (fun e => ?_) (fun e => ?_) (fun e => ?_)), g3, g4, g5⟩
      · have := congrArg Obj.data e; rw [g3] at this; cases this
      · obtain ⟨es, ep, _, hd, _⟩ := H.hov
        have := congrArg Obj.data e; rw [g3, hd] at this; cases this
      · have := congrArg Obj.data e; rw [g3] at this; cases this
      · have h1 := congrArg Obj.data e
        have h2 := congrArg Obj.data g1
        rw [g3] at h1
        rw [h2] at h1
        cases h1
        cases g4
  refine turned3 dp un gd cn cs a ccd cl outer A₀ base h₀ L m s Q E x dx vd rl ll fl ol a1 a2 a3 nf no t1 t2 t3 t4 t5 t6 tl tw tn ts 9999 64 0 ov #[] 0 [] 1 60 (rest4 l dx vd ll) n1 n2 n3 S (e, vals) [(o1, u1), (o2, u2), (o3, u3), (o4, u4)]
    (H.eph N h8) (Nat.le_refl _) (hn1.rest N H h8) (hn2.rest N H h8) (hn3.rest N H h8) (mem4 hfl (off_list N H h8 hfl)) (mem4 hol (off_list N H h8 hol)) (Nat.le_of_ble_eq_true rfl) hvm hall hjl hws (tabObj ps) I oI (mem4 hI hIo) hst' (fun p hp => (of4 hp).2.2)
    (apart N H.hdx h8 (fun e => by have := congrArg Obj.cls e; simp at this)) (apart N H.hvd h8 (fun e => by
      obtain ⟨es, ep, _, hd, _⟩ := H.hov
      have := congrArg Obj.data e; rw [hd] at this; cases this)) (apart N H.hll h8 (fun e => by have := congrArg Obj.cls e; simp at this)) C hrun (Int.le_refl _) (by decide) (by decide) hS B F X (cb_drop N hsub) Tp hk hdp hu ?_
  intro t n' tn' ov' kvs T' o8' h' tk' F' N' hs' hd' hv' hov' hfl' h8' hst8
  obtain ⟨ps', rfl⟩ : ∃ ps', o8' = tabObj ps' := by
    rcases hst8 with h | ⟨_, _, _, _, h, _⟩
    · exact ⟨_, h⟩
    · exact ⟨_, h⟩
  have := hret t n' tn' ov' kvs T' ps' h' tk' F' N' (fun p hp o => hs' p (mem4 hp o)) hd' hv' hov' hfl' (hs' _ (mem4 H.hx (off_inst N H h8 H.hx))) h8' hst8
  rw [← hR] at this
  exact this
theorem turned_h2 (hp : turnsB S (whole2 n1 n2) [o1, o2, o3] = some (R, vals)) (hS : S.length ≤ 100) (B : Below A₀ base outer h₀) (F : Fr h₀ L s.heap m) (X : (K w.params).In h₀) (N : News h₀ L s.heap l) (Tp : Top topProg loose0 mean mg mb h₀) (hk : cs.kind = .function) (C : CodeHd base 452 448)
    (H : Host w l x dx vd rl ll t1 t2 t3 t4 t5 t6 tl tw tn ov) (hvm : (vd == sysModules) = false) (h8 : (448, tabObj ps) ∈ l) (hst : TabSt TPos TQual I l (tabObj ps)) (hI : (I, oI) ∈ l) (hIo : Off dx vd ll I)
    (hn1 : NdIn w l a1 n1) (hn2 : NdIn w l a2 n2) (hfl : (fl, W.listOf #[.ref a1, .ref a2] nf) ∈ l) (hol : (ol, W.listOf #[.str o1 u1, .str o2 u2, .str o3 u3] no) ∈ l)
    (hdp : dp + 16 < recursionLimit) (hu : un + 128 < cLine)
    (hret : ∀ t n' tn' ov' kvs T' ps' h' tk', Fr h₀ L h' m → News h₀ L h' T' → (∀ p ∈ l, Off dx vd ll p.1 → p ∈ T') → (dx, hostD w t1 t2 t3 t4 t5 t6 vd rl ll 9999 64 n' tl tw tn') ∈ T' → (vd, ov') ∈ T' → ov'.IsDictOf (strKind Challenge.rw_xm0938_01.row.prog w) kvs → FlatPairs PyData.str kvs vals → (x, instObj 229 dx) ∈ T' →
      (448, tabObj ps') ∈ T' → TabSt TPos TQual I T' (tabObj ps') → Q (.str R t) { s with heap := h', toks := tk' }) :
    wpAny (model Challenge.rw_xm0938_01.row.prog w) (ktrTop dp un gd cn cs L a ccd cl outer) (call (.ref 453) [.str S ts, .ref fl, .ref ol, .ref x]) Q E s := by
  obtain ⟨e, hrun, hall, hjl, hws, hR⟩ := turnsB_ok hp
  have hsub : ∀ p ∈ (448, tabObj ps) :: engH w t1 t2 t3 t4 t5 t6 dx vd rl ll 9999 64 0 tl tw tn ov #[] 0 (rest4 l dx vd ll), p ∈ l := fun p hp => by
    rcases List.mem_cons.mp hp with rfl | hp
    · exact h8
    rcases List.mem_cons.mp hp with rfl | hp
    · exact H.hdx
    rcases List.mem_cons.mp hp with rfl | hp
    · exact H.hvd
    rcases List.mem_cons.mp hp with rfl | hp
    · exact H.hll
    exact (of4 hp).1
  have hst' : TabSt TPos TQual I (rest4 l dx vd ll) (tabObj ps) := by
    rcases hst with h | ⟨c', oc, vs, t, g1, g2, g3, g4, g5⟩
    · exact .inl h
    · refine .inr ⟨c', oc, vs, t, g1, mem4 g2 (off_of N H h8 g2 (fun e => ?_) (fun e => ?_) (fun e => ?_) (fun e => ?_)), g3, g4, g5⟩
      · have := congrArg Obj.data e; rw [g3] at this; cases this
      · obtain ⟨es, ep, _, hd, _⟩ := H.hov
        have := congrArg Obj.data e; rw [g3, hd] at this; cases this
      · have := congrArg Obj.data e; rw [g3] at this; cases this
      · have h1 := congrArg Obj.data e
        have h2 := congrArg Obj.data g1
        rw [g3] at h1
        rw [h2] at h1
        cases h1
        cases g4
  refine turned2 dp un gd cn cs a ccd cl outer A₀ base h₀ L m s Q E x dx vd rl ll fl ol a1 a2 nf no t1 t2 t3 t4 t5 t6 tl tw tn ts 9999 64 0 ov #[] 0 [] 1 60 (rest4 l dx vd ll) n1 n2 S (e, vals) [(o1, u1), (o2, u2), (o3, u3)]
    (H.eph N h8) (Nat.le_refl _) (hn1.rest N H h8) (hn2.rest N H h8) (mem4 hfl (off_list N H h8 hfl)) (mem4 hol (off_list N H h8 hol)) (Nat.le_of_ble_eq_true rfl) hvm hall hjl hws (tabObj ps) I oI (mem4 hI hIo) hst' (fun p hp => (of4 hp).2.2)
    (apart N H.hdx h8 (fun e => by have := congrArg Obj.cls e; simp at this)) (apart N H.hvd h8 (fun e => by
      obtain ⟨es, ep, _, hd, _⟩ := H.hov
      have := congrArg Obj.data e; rw [hd] at this; cases this)) (apart N H.hll h8 (fun e => by have := congrArg Obj.cls e; simp at this)) C hrun (Int.le_refl _) (by decide) (by decide) hS B F X (cb_drop N hsub) Tp hk hdp hu ?_
  intro t n' tn' ov' kvs T' o8' h' tk' F' N' hs' hd' hv' hov' hfl' h8' hst8
  obtain ⟨ps', rfl⟩ : ∃ ps', o8' = tabObj ps' := by
    rcases hst8 with h | ⟨_, _, _, _, h, _⟩
    · exact ⟨_, h⟩
    · exact ⟨_, h⟩
  have := hret t n' tn' ov' kvs T' ps' h' tk' F' N' (fun p hp o => hs' p (mem4 hp o)) hd' hv' hov' hfl' (hs' _ (mem4 H.hx (off_inst N H h8 H.hx))) h8' hst8
  rw [← hR] at this
  exact this
end
end
section
noncomputable abbrev nw (n : Nd) (x : String) : Nd := .now n (Str.ofString x)
noncomputable abbrev sA : Str := Str.ofString "A"
noncomputable abbrev sB : Str := Str.ofString "B"
noncomputable abbrev sC : Str := Str.ofString "C"
noncomputable abbrev sR : Str := Str.ofString "R"
noncomputable abbrev sV : Str := Str.ofString "V"
/-- two neighbours exchanged -/
noncomputable def swp (o : Str) (p : Int) : Str := Txt.slice o none (some p) ++ Txt.item o (p + 1) ++ Txt.item o p ++ Txt.slice o (some (p + 2)) none
noncomputable def nd1 (p : Int) : Nd := whole3 (nw (.tab p) "A") (nw (.len 1) "B") (nw (.len 1) "C")
noncomputable def nd2 (o sg : Str) (a : Int) : Nd := whole3 (nw (.tab (Txt.find o sg - a)) "A") (nw (.len a) "B") (.chars sg)
noncomputable def nd3 (sg : Str) : Nd := whole2 (nw .arb "V") (.chars sg)
noncomputable def rest1 (o sg : Str) : Str := Txt.replace o sg Str.empty
noncomputable def led (o sg : Str) (a : Int) : Str := Txt.slice (rest1 o sg) none (some (Txt.find o sg - a)) ++ sg ++ Txt.slice (rest1 o sg) (some (Txt.find o sg - a)) none
noncomputable def front (r sg : Str) : Str := sg ++ rest1 r sg
theorem f1 : ∀ o ∈ rows, ∀ p : Fin 3, ((turnsB o (nd1 (p.val : Int)) [sA, sC, sB, sR]).map (·.1) = some (swp o (p.val : Int))) ∧ swp o (p.val : Int) ∈ rows := by decide +kernel
abbrev F2 (o sg : Str) (a : Fin 4) : Prop := (a.val : Int) ≤ Txt.find o sg → ((turnsB o (nd2 o sg (a.val : Int)) [sA, sg, sB, sR]).map (·.1) = some (led o sg (a.val : Int))) ∧ led o sg (a.val : Int) ∈ rows ∧ rest1 (led o sg (a.val : Int)) sg = rest1 o sg
theorem f2_0 : ∀ o ∈ rows, ∀ a : Fin 4, F2 o ⟨#[97]⟩ a := by decide +kernel
theorem f2_1 : ∀ o ∈ rows, ∀ a : Fin 4, F2 o ⟨#[98]⟩ a := by decide +kernel
theorem f2_2 : ∀ o ∈ rows, ∀ a : Fin 4, F2 o ⟨#[99]⟩ a := by decide +kernel
theorem f2_3 : ∀ o ∈ rows, ∀ a : Fin 4, F2 o ⟨#[100]⟩ a := by decide +kernel
theorem f2 : ∀ o ∈ rows, ∀ sg ∈ signs, ∀ a : Fin 4, F2 o sg a := fun o ho sg hs => by
  obtain ⟨c, hc, rfl⟩ := List.mem_map.mp hs
  have key : c = 97 ∨ c = 98 ∨ c = 99 ∨ c = 100 := by simpa [codes4] using hc
  rcases key with rfl | rfl | rfl | rfl
  · exact f2_0 o ho
  · exact f2_1 o ho
  · exact f2_2 o ho
  · exact f2_3 o ho
noncomputable def vLen (vals : VD) : Option Nat := (lookS vals sV).map (·.length)
theorem f3 : ∀ r ∈ rows, ∀ sg ∈ signs, ((turnsB r (nd3 sg) [sg, sV, sR]).map fun p => (p.1, (vLen p.2).map fun (n : Nat) => (n : Int))) = some (front r sg, some (Txt.find r sg)) ∧ front r sg ∈ rows := by decide +kernel
theorem f1' {o : Str} {p : Int} (h : o ∈ rows) (h0 : 0 ≤ p) (h1 : p < 3) : ∃ vals, turnsB o (nd1 p) [sA, sC, sB, sR] = some (swp o p, vals) ∧ swp o p ∈ rows := by
  have := f1 o h ⟨p.toNat, by omega⟩
  rw [show (((⟨p.toNat, by omega⟩ : Fin 3).val : Nat) : Int) = p from Int.toNat_of_nonneg h0] at this
  obtain ⟨⟨R, vals⟩, e1, e2⟩ := Option.map_eq_some_iff.mp this.1
  exact ⟨vals, by rw [e1]; dsimp only at e2; rw [e2], this.2⟩
theorem f2' {o sg : Str} {a : Int} (h : o ∈ rows) (hs : sg ∈ signs) (h0 : 0 ≤ a) (h1 : a ≤ Txt.find o sg) : ∃ vals, turnsB o (nd2 o sg a) [sA, sg, sB, sR] = some (led o sg a, vals) ∧ led o sg a ∈ rows ∧ Txt.replace (led o sg a) sg Str.empty = Txt.replace o sg Str.empty := by
  have h4 := (find_ok o h sg hs).2
  have e : (((⟨a.toNat, by omega⟩ : Fin 4).val : Nat) : Int) = a := Int.toNat_of_nonneg h0
  have := f2 o h sg hs ⟨a.toNat, by omega⟩ (by rw [e]; exact h1)
  rw [e] at this
  obtain ⟨⟨R, vals⟩, e1, e2⟩ := Option.map_eq_some_iff.mp this.1
  exact ⟨vals, by rw [e1]; dsimp only at e2; rw [e2], this.2⟩
theorem f3' {r sg : Str} (h : r ∈ rows) (hs : sg ∈ signs) : ∃ vals v, turnsB r (nd3 sg) [sg, sV, sR] = some (front r sg, vals) ∧ lookS vals sV = some v ∧ (v.length : Int) = Txt.find r sg ∧ front r sg ∈ rows := by
  have := f3 r h sg hs
  obtain ⟨⟨R, vals⟩, e1, e2⟩ := Option.map_eq_some_iff.mp this.1
  dsimp only at e2
  simp only [Prod.mk.injEq, Option.map_eq_some_iff, vLen] at e2
  obtain ⟨e3, n, ⟨v, hv, e4⟩, e5⟩ := e2
  exact ⟨vals, v, by rw [e1, e3], hv, by rw [e4]; exact e5, this.2⟩
end
section
local macro_rules | `(tactic| k_room) => `(tactic| ktr_room)
theorem now_c {w : World} {mean : ExcName → Option Value} {mg mb : Str → Option Value} {dp un : Nat} {gd : Option (List Code)} {cn : Str} {cs : Scope} {a : Addr} {ccd : Value} {cl : List (Str × Addr)} {outer : List Env} {A₀ : Around} {base h₀ : Heap} {L : Addr} {m : Str → Option Value} {s : Shared} {Q E : Value → Shared → Prop}
   {nd : Addr} {k : Str} {kt : Tok} {l : List (Addr × Obj)} :
   Below A₀ base outer h₀ → Fr h₀ L s.heap m → (K w.params).In h₀ → News h₀ L s.heap l → Top topProg loose0 mean mg mb h₀ → cs.kind = .function →
   dp + 3 < recursionLimit → un + 24 < cLine →
   (∀ q r dr tk1 u1 u2 u3 uk uv h' tk', Fr h₀ L h' m → News h₀ L h' ((q, tup [.str (Str.ofString "now") tk1, .ref nd, .ref r]) :: (r, instObj 138 dr) :: (dr, refD w u1 u2 u3 k uk uv) :: l) → Q (.ref q) { s with heap := h', toks := tk' }) →
   wpAny (model Challenge.rw_xm0938_01.row.prog w) (ktrTop dp un gd cn cs L a ccd cl outer) (call (.ref 446) [.ref nd, .str k kt]) Q E s := by
  k_fill
  intro B F X N T hk hdp hu hret
  refine wpAny_call ?_
  k_dflt ktr_enter
  k_steps
  exact hret _ _ _ _ _ _ _ _ _ _ _ (by k_asm) (by k_asm)
theorem now_e {w : World} {mean : ExcName → Option Value} {mg mb : Str → Option Value} {dp un : Nat} {gd : Option (List Code)} {cn : Str} {cs : Scope} {a : Addr} {ccd : Value} {cl : List (Str × Addr)} {outer : List Env} {A₀ : Around} {base h₀ : Heap} {L : Addr} {m : Str → Option Value} {s : Shared} {Q E : Value → Shared → Prop}
   {nd : Addr} {k : Str} {kt : Tok} {l : List (Addr × Obj)}
   (B : Below A₀ base outer h₀) (F : Fr h₀ L s.heap m) (X : (K w.params).In h₀) (N : News h₀ L s.heap l) (T : Top topProg loose0 mean mg mb h₀) (hk : cs.kind = .function)
   (hdp : dp + 3 < recursionLimit) (hu : un + 24 < cLine)
   (hret : ∀ q r dr tk1 u1 u2 u3 uk uv h' tk', s.toks ≤ tk' → Fr h₀ L h' m → News h₀ L h' ((q, tup [.str (Str.ofString "now") tk1, .ref nd, .ref r]) :: (r, instObj 138 dr) :: (dr, refD w u1 u2 u3 k uk uv) :: l) → Q (.ref q) { s with heap := h', toks := tk' }) :
   wpAny (model Challenge.rw_xm0938_01.row.prog w) (ktrTop dp un gd cn cs L a ccd cl outer) (call (.ref 446) [.ref nd, .str k kt]) Q E s :=
  tok_up (now_c B F X N T hk hdp hu fun q r dr tk1 u1 u2 u3 uk uv h' tk' F' N' le => hret q r dr tk1 u1 u2 u3 uk uv h' tk' le F' N')
end
section
theorem ints4 {a b c d : Int} {t u v w : Tok} : IntsAre [.int a t, .int b u, .int c v, .int d w] [a, b, c, d] := .cons _ _ (.cons _ _ (.cons _ _ (.cons _ _ .nil)))
noncomputable abbrev lawM (m₀ : Str → Option Value) (ce : Addr) (row : Str) (trow : Tok) (u1 u2 : Option Value) (o r : Str) (to tr : Tok) : Str → Option Value := fun y =>
  if y = Str.ofString "rest" then some (.str r tr) else if y = Str.ofString "other" then some (.str o to) else if y = Str.ofString "sign" then u1 else if y = Str.ofString "at" then u2 else if y = Str.ofString "row" then some (.str row trow) else if y = Str.ofString "cells" then some (.ref ce) else m₀ y
theorem listU {prog : Program} {w : World} {A : Around} {E : Value → Shared → Prop} {s : Shared} {env : Env} {h₀ : Heap} {x : Str} {body : List Stmt} {Q : Flow → Shared → Prop} {ax : Addr} {vs : List Value} {n : Nat} {m₀ : Str → Option Value} {news : Led} (J : Addr → (Str → Option Value) → Led → Prop)
    (hh : A.handled = none) (F : Fr h₀ env.locals s.heap m₀) (N : News h₀ env.locals s.heap news) (hm : (ax, W.listOf vs.toArray n) ∈ news)
    (turn : ∀ I v m news' it h tk, (∀ p ∈ news, p.1 < I) → v ∈ vs → J I m news' → (ax, W.listOf vs.toArray n) ∈ news' → Fr h₀ env.locals h (fun y => if y = x then some v else m y) → News h₀ env.locals h ((I, it) :: news') →
      wpAny (model prog w) A (execs body env) (UnrPost h₀ env.locals { s with heap := h, toks := tk } I it (fun m' n' => (ax, W.listOf vs.toArray n) ∈ n' ∧ J I m' n') Q) E { s with heap := h, toks := tk })
    (fin : ∀ I m news' h tk, J I m news' → Fr h₀ env.locals h m → News h₀ env.locals h news' → Q .next { s with heap := h, toks := tk })
    (h0 : ∀ I, (∀ p ∈ news, p.1 < I) → J I m₀ news) :
    wpAny (model prog w) A (pyIter (.ref ax)) (fun it s₂ => LoopAtV prog w A h₀ env x body Q E it s₂) E s :=
  iter_listUnr hh F N hm rfl rfl fun I lI => listRest_inv (J I) vs (fun v m news' it h tk hv hj hl F N => turn I v m news' it h tk lI hv hj hl F N) (fun m news' h tk hj F N => fin I m news' h tk hj F N) vs m₀ news (fun _ h => h) (h0 I lI) hm
noncomputable abbrev rowM (u : Str → Option Value) (row other : Str) (tr to' : Tok) : Str → Option Value := fun y => if y = Str.ofString "row" then some (.str row tr) else if y = Str.ofString "other" then some (.str other to') else u y
theorem rowM_eq {m : Str → Option Value} {row other : Str} {tr to' : Tok} (h1 : m (Str.ofString "row") = some (.str row tr)) (h2 : m (Str.ofString "other") = some (.str other to')) : m = rowM m row other tr to' := by
  funext y
  by_cases e1 : y = Str.ofString "row"
  · subst e1; rw [h1]; rfl
  by_cases e2 : y = Str.ofString "other"
  · subst e2; rw [h2]; rfl
  simp only [rowM, if_neg e1, if_neg e2]
theorem ints_mem : ∀ {vs : List Value} {ns : List Int}, IntsAre vs ns → ∀ {v}, v ∈ vs → ∃ k t, v = .int k t
  | _, _, .cons n t _, _, .head _ => ⟨n, t, rfl⟩
  | _, _, .cons _ _ h, _, .tail _ hm => ints_mem h hm
theorem tidyR {prog : Program} {w : World} {A : Around} {E : Value → Shared → Prop} {s : Shared} {env : Env} {h₀ : Heap} {x : Str} {body : List Stmt} {Q : Flow → Shared → Prop} {I ce : Addr} {a : Int} {n k i : Nat} {px : Addr × Obj} {m0 : Str → Option Value} {ta tb tc : Tok} {S T : Str} {cw : List Value} {l : Led} (hm : (448, tabObj #[]) ∈ l)
    (H : ∀ u1 u2, RangeRest prog w A E h₀ env x body Q s I a n (k + 1) i (lawM m0 ce S tc u1 u2 T S tb ta) [(ce, W.listOf cw.toArray 0), (448, tabObj #[])]) :
    RangeRest prog w A E h₀ env x body Q s I a n (k + 1) i (fun y => if y = Str.ofString "rest" then some (.str S ta) else if y = Str.ofString "other" then some (.str T tb) else if y = Str.ofString "row" then some (.str S tc) else if y = Str.ofString "cells" then some (.ref ce) else m0 y) (px :: (ce, W.listOf cw.toArray 0) :: l) := by
  intro t h tk F N
  refine H (m0 (Str.ofString "sign")) (m0 (Str.ofString "at")) t h tk (fr_eq F fun y => ?_) (cb_drop N fun p hp => ?_)
  · by_cases e : y = x
    · simp only [if_pos e]
    simp only [if_neg e]
    by_cases e1 : y = Str.ofString "rest"
    · simp only [lawM, if_pos e1]
    by_cases e2 : y = Str.ofString "other"
    · simp only [lawM, if_neg e1, if_pos e2]
    by_cases e3 : y = Str.ofString "sign"
    · subst e3; rfl
    by_cases e4 : y = Str.ofString "at"
    · subst e4; rfl
    simp only [lawM, if_neg e1, if_neg e2, if_neg e3, if_neg e4]
  · rcases List.mem_cons.mp hp with rfl | hp
    · exact List.mem_cons_self
    rcases List.mem_cons.mp hp with rfl | hp
    · exact List.mem_cons_of_mem _ (List.mem_cons_of_mem _ List.mem_cons_self)
    rcases List.mem_cons.mp hp with rfl | hp
    · exact List.mem_cons_of_mem _ (List.mem_cons_of_mem _ (List.mem_cons_of_mem _ hm))
    · cases hp
theorem cells_len {ns : List Int} {f : Int → Int} {n : Nat} (hn : ((n : Nat) : Int).toNat = (ns.take 7).length) : 4 ≤ ((ns.take 7).map f ++ ([0, 1, 3, 26] : List Int).drop ((n : Nat) : Int).toNat).length ∧ ((ns.take 7).map f ++ ([0, 1, 3, 26] : List Int).drop ((n : Nat) : Int).toNat).length ≤ 7 := by
  rw [hn, List.length_append, List.length_map, List.length_drop, List.length_take]
  simp only [List.length_cons, List.length_nil]
  omega
def LawEnd (g : Heap) (L : Addr) (s : Shared) (fl : Flow) (s' : Shared) : Prop := fl = .ret (.bool true) ∧ ∃ h' tk' m' news ps, s' = { s with heap := h', toks := tk' } ∧ Fr g L h' m' ∧ News g L h' news ∧ (448, tabObj ps) ∈ news
theorem law_mono {M : Model} {A : Around} {t : Sem Flow} {Q : Flow → Shared → Prop} {E : Value → Shared → Prop} {s : Shared} {g : Heap} {L : Addr} (main : wpAny M A t (LawEnd g L s) (fun _ _ => False) s) (last : ∀ fl s', LawEnd g L s fl s' → Q fl s') : wpAny M A t Q E s := wpAny_mono main last fun _ _ e => e.elim
noncomputable abbrev tM (u : Str → Option Value) (row other sg : Str) (told un pl mo : Int) (tr to' ts tu tp tm tt : Tok) : Str → Option Value := fun y =>
  if y = Str.ofString "row" then some (.str row tr) else if y = Str.ofString "other" then some (.str other to') else if y = Str.ofString "sign" then some (.str sg ts) else if y = Str.ofString "unlike" then some (.int un tu) else if y = Str.ofString "place" then some (.int pl tp) else if y = Str.ofString "more" then some (.int mo tm) else if y = Str.ofString "told" then some (.int told tt) else u y
theorem tM_eq {m : Str → Option Value} {row other sg : Str} {told un pl mo : Int} {tr to' ts tu tp tm tt : Tok} (h1 : m (Str.ofString "row") = some (.str row tr)) (h2 : m (Str.ofString "other") = some (.str other to')) (h3 : m (Str.ofString "sign") = some (.str sg ts)) (h4 : m (Str.ofString "unlike") = some (.int un tu)) (h5 : m (Str.ofString "place") = some (.int pl tp)) (h6 : m (Str.ofString "more") = some (.int mo tm)) (h7 : m (Str.ofString "told") = some (.int told tt)) :
    ∀ y, m y = tM m row other sg told un pl mo tr to' ts tu tp tm tt y := by
  intro y
  by_cases e1 : y = Str.ofString "row"
  · subst e1; rw [h1]; rfl
  by_cases e2 : y = Str.ofString "other"
  · subst e2; rw [h2]; rfl
  by_cases e3 : y = Str.ofString "sign"
  · subst e3; rw [h3]; rfl
  by_cases e4 : y = Str.ofString "unlike"
  · subst e4; rw [h4]; rfl
  by_cases e5 : y = Str.ofString "place"
  · subst e5; rw [h5]; rfl
  by_cases e6 : y = Str.ofString "more"
  · subst e6; rw [h6]; rfl
  by_cases e7 : y = Str.ofString "told"
  · subst e7; rw [h7]; rfl
  simp only [tM, if_neg e1, if_neg e2, if_neg e3, if_neg e4, if_neg e5, if_neg e6, if_neg e7]
theorem wrapMem {p : Addr × Obj} {nx : Led} (h : p ∈ nx) : ∃ lp : Addr × Obj, lp ∈ nx ∧ lp.1 = p.1 ∧ ∀ n' : Led, lp ∈ n' → p ∈ n' := ⟨p, h, rfl, fun _ h => h⟩
structure Nx (I : Addr) (T : Led) (ps : Array Value) : Prop where
  h8 : (448, tabObj ps) ∈ T
  hst : TabSt TPos TQual I T (tabObj ps)
def SA (sb : Shared) (g : Heap) (L0 I : Addr) (it : Obj) (lp : Addr × Obj) (row sg : Str) (told un pl : Int) (Φ : Str → Int → Prop) (s' : Shared) : Prop :=
  ∃ (h' : Heap) (tk' : Nat) (u : Str → Option Value) (other : Str) (mo : Int) (T : Led) (ps : Array Value) (tr to' ts tu tp tm tt : Tok), s' = { sb with heap := h', toks := tk' } ∧ (@Ne Nat ts 0 ∧ @LT.lt Nat _ ts tk') ∧ Fr g L0 h' (tM u row other sg told un pl mo tr to' ts tu tp tm tt) ∧ News g L0 h' ((I, it) :: lp :: T) ∧ Nx I T ps ∧ Φ other mo
noncomputable def afterIf (o : Str) (pl : Int) : Str × Int := if pl < 3 then (swp o pl, 1) else (o, 0)
noncomputable abbrev cM (u : Str → Option Value) (row other sg lat : Str) (un mo st ah : Int) (tr to' ts tu tm tst tah tla : Tok) : Str → Option Value := fun y =>
  if y = Str.ofString "row" then some (.str row tr) else if y = Str.ofString "other" then some (.str other to') else if y = Str.ofString "sign" then some (.str sg ts) else if y = Str.ofString "unlike" then some (.int un tu) else if y = Str.ofString "more" then some (.int mo tm) else if y = Str.ofString "stands" then some (.int st tst) else if y = Str.ofString "ahead" then some (.int ah tah) else if y = Str.ofString "later" then some (.str lat tla) else u y
theorem cM_eq {m : Str → Option Value} {row other sg lat : Str} {un mo st ah : Int} {tr to' ts tu tm tst tah tla : Tok} (h1 : m (Str.ofString "row") = some (.str row tr)) (h2 : m (Str.ofString "other") = some (.str other to')) (h3 : m (Str.ofString "sign") = some (.str sg ts)) (h4 : m (Str.ofString "unlike") = some (.int un tu)) (h5 : m (Str.ofString "more") = some (.int mo tm)) (h6 : m (Str.ofString "stands") = some (.int st tst)) (h7 : m (Str.ofString "ahead") = some (.int ah tah)) (h8 : m (Str.ofString "later") = some (.str lat tla)) :
    ∀ y, m y = cM m row other sg lat un mo st ah tr to' ts tu tm tst tah tla y := by
  intro y
  by_cases e1 : y = Str.ofString "row"
  · subst e1; rw [h1]; rfl
  by_cases e2 : y = Str.ofString "other"
  · subst e2; rw [h2]; rfl
  by_cases e3 : y = Str.ofString "sign"
  · subst e3; rw [h3]; rfl
  by_cases e4 : y = Str.ofString "unlike"
  · subst e4; rw [h4]; rfl
  by_cases e5 : y = Str.ofString "more"
  · subst e5; rw [h5]; rfl
  by_cases e6 : y = Str.ofString "stands"
  · subst e6; rw [h6]; rfl
  by_cases e7 : y = Str.ofString "ahead"
  · subst e7; rw [h7]; rfl
  by_cases e8 : y = Str.ofString "later"
  · subst e8; rw [h8]; rfl
  simp only [cM, if_neg e1, if_neg e2, if_neg e3, if_neg e4, if_neg e5, if_neg e6, if_neg e7, if_neg e8]
def SC (sb : Shared) (g : Heap) (L0 I : Addr) (it : Obj) (lp : Addr × Obj) (row other sg lat : Str) (un mo st ah : Int) (s' : Shared) : Prop :=
  ∃ (h' : Heap) (tk' : Nat) (u : Str → Option Value) (T : Led) (ps : Array Value) (tr to' ts tu tm tst tah tla : Tok), s' = { sb with heap := h', toks := tk' } ∧ (@Ne Nat ts 0 ∧ @LT.lt Nat _ ts tk') ∧ Fr g L0 h' (cM u row other sg lat un mo st ah tr to' ts tu tm tst tah tla) ∧ News g L0 h' ((I, it) :: lp :: T) ∧ Nx I T ps
def SD (w : World) (sb : Shared) (g : Heap) (L0 I : Addr) (it : Obj) (lp : Addr × Obj) (row other sg lat frn : Str) (un mo st ah : Int) (vals : VD) (s' : Shared) : Prop :=
  ∃ (h' : Heap) (tk' : Nat) (u : Str → Option Value) (T : Led) (ps : Array Value) (tr to' ts tu tm tst tah tla tf t1 t2 t3 t4 t5 t6 tl tw tn : Tok) (n' : Int) (x dx vd rl ll : Addr) (ov : Obj) (kvs : List (Str × Value)), s' = { sb with heap := h', toks := tk' } ∧ (@Ne Nat ts 0 ∧ @LT.lt Nat _ ts tk') ∧
    Fr g L0 h' (fun y => if y = Str.ofString "front" then some (.str frn tf) else if y = Str.ofString "host" then some (.ref x) else cM u row other sg lat un mo st ah tr to' ts tu tm tst tah tla y) ∧ News g L0 h' ((I, it) :: lp :: T) ∧ Nx I T ps ∧
    (x, instObj 229 dx) ∈ T ∧ (dx, hostD w t1 t2 t3 t4 t5 t6 vd rl ll 9999 64 n' tl tw tn) ∈ T ∧ (vd, ov) ∈ T ∧ ov.IsDictOf (strKind Challenge.rw_xm0938_01.row.prog w) kvs ∧ FlatPairs PyData.str kvs vals ∧ (vd == sysModules) = false
def SE (sb : Shared) (g : Heap) (L0 I : Addr) (it : Obj) (lp : Addr × Obj) (row other : Str) (s' : Shared) : Prop :=
  ∃ (h' : Heap) (tk' : Nat) (u : Str → Option Value) (T : Led) (ps : Array Value) (tr to' : Tok), s' = { sb with heap := h', toks := tk' } ∧ Fr g L0 h' (rowM u row other tr to') ∧ News g L0 h' ((I, it) :: lp :: T) ∧ Nx I T ps
/-- a def's body and scope, read off the heap -/
noncomputable def lawFn (o : Option Obj) : List Stmt × Scope := match o with
  | some ⟨_, _, .func fd, _⟩ => (match fd.body with | .stmts b => b | _ => [], fd.scope)
  | _ => ([], default)
/-- the body of the law's main loop -/
noncomputable def forBody (b : List Stmt) : List Stmt := match b.drop 4 with
  | .For _ _ body _ _ :: _ => body
  | _ => []
theorem with_law {P : List Stmt → Scope → Prop} {K : Frag} {f : Addr} {b : List Stmt} {s : Scope} {oc : Value} {od : Option Addr} {osl : Array (Option Value)} {name qual : Str} {params : Arguments} {body : List Stmt} {scope : Scope} {dV kV doc pm cdv ct : Value} {an : Option Addr}
    (hb : lawFn (K.lookup f) = (b, s)) (ho : K.lookup f = some ⟨oc, od, .func (fnOf name qual params body scope dV kV doc pm an cdv ct), osl⟩) (h : P body scope) : P b s := by
  rw [ho] at hb
  cases hb
  exact h
theorem law_eq {K : Frag} {f : Addr} {b : List Stmt} {s : Scope} {oc : Value} {od : Option Addr} {osl : Array (Option Value)} {name qual : Str} {params : Arguments} {body : List Stmt} {scope : Scope} {dV kV doc pm cdv ct : Value} {an : Option Addr}
    (hb : lawFn (K.lookup f) = (b, s)) (ho : K.lookup f = some ⟨oc, od, .func (fnOf name qual params body scope dV kV doc pm an cdv ct), osl⟩) : b = body ∧ s = scope := by
  rw [ho] at hb
  cases hb
  exact ⟨rfl, rfl⟩
theorem ne_same {prog : Program} {w : World} {A : Around} {E : Value → Shared → Prop} {s : Shared} {x y : Str} {t u : Tok} {Q : Value → Shared → Prop} (e : x = y) (h : Q (.bool false) s) : wpAny (model prog w) A (compareOp .NotEq (.str x t) (.str y u)) Q E s := by
  subst e
  exact ne_str (by simpa using h)
theorem sign_ne : ∀ x ∈ signs, (x == Str.empty) = false := by decide
end
section
/-- the place of a sign in a row -/
noncomputable def pos : List Nat → Nat → Nat
  | [], _ => 0
  | a :: r, c => cond (Nat.beq a c) 0 (Nat.succ (pos r c))
/-- pairs that stand one way in r and the other way in o -/
noncomputable def unlC (o : List Nat) (c : Nat) : List Nat → Nat
  | [] => 0
  | d :: r => cond (Nat.ble (pos o c) (pos o d)) (unlC o c r) (Nat.succ (unlC o c r))
noncomputable def unlL (o : List Nat) : List Nat → Nat
  | [] => 0
  | c :: r => Nat.add (unlC o c r) (unlL o r)
noncomputable def del (c : Nat) : List Nat → List Nat
  | [] => []
  | a :: r => cond (Nat.beq a c) r (a :: del c r)
noncomputable def ins (c : Nat) : Nat → List Nat → List Nat
  | 0, r => c :: r
  | _ + 1, [] => [c]
  | n + 1, a :: r => a :: ins c n r
noncomputable def rowsL : List (List Nat) := rows.map fun r => r.cps.toList
noncomputable def frontL (r : List Nat) (c : Nat) : List Nat := c :: del c r
noncomputable def ledL (o : List Nat) (c a : Nat) : List Nat := ins c (pos o c - a) (del c o)
theorem g4 : ∀ r ∈ rowsL, ∀ o ∈ rowsL, ∀ c ∈ codes4, ∀ a : Fin 4, Nat.ble a.val (pos o c) = true → Nat.ble (1 + pos r c + unlL (ledL o c a.val) (frontL r c)) (2 * (pos o c + 1) - 1 - a.val + unlL o r) = true := by decide +kernel
theorem l3 : ∀ r ∈ rows, ∀ c ∈ codes4, (front r ⟨#[c]⟩).cps.toList = frontL r.cps.toList c ∧ Txt.find r ⟨#[c]⟩ = ((pos r.cps.toList c : Nat) : Int) := by decide +kernel
theorem sl : ∀ R ∈ rows, ∀ i : Fin 4, (Txt.slice R (some ((i.val : Int) + 1)) none).cps.toList = R.cps.toList.drop (i.val + 1) ∧ Txt.item R (i.val : Int) = ⟨#[R.cps.toList.getD i.val 0]⟩ ∧ R.cps.toList.getD i.val 0 ∈ codes4 := by decide +kernel
theorem in4 : ∀ R ∈ rows, R.cps.toList.length = 4 ∧ ∀ c ∈ R.cps.toList, c ∈ codes4 := by decide +kernel
theorem unlC_eq (o : List Nat) (c : Nat) : ∀ r : List Nat, unlC o c r = (r.filter fun d => decide (((pos o d : Nat) : Int) < ((pos o c : Nat) : Int))).length
  | [] => rfl
  | d :: r => by
    rw [unlC, unlC_eq o c r, List.filter_cons]
    by_cases h : pos o c ≤ pos o d
    · rw [Nat.ble_eq_true_of_le h, if_neg (by simp only [decide_eq_true_eq]; omega)]
      rfl
    · have hb : Nat.ble (pos o c) (pos o d) = false := by
        cases e : Nat.ble (pos o c) (pos o d) with
        | true => exact absurd (Nat.le_of_ble_eq_true e) h
        | false => rfl
      rw [hb, if_pos (by simp only [decide_eq_true_eq]; omega)]
      rfl
theorem l1 : ∀ R ∈ rows, ∀ O ∈ rows, unl R O 4 = unlL O.cps.toList R.cps.toList := by
  intro R hR O hO
  obtain ⟨h4, hc4⟩ := in4 R hR
  have at_ : ∀ i, i < 4 → unlAt R O i = unlC O.cps.toList (R.cps.toList.getD i 0) (R.cps.toList.drop (i + 1)) := by
    intro i hi
    obtain ⟨e1, e2, e3⟩ := sl R hR ⟨i, hi⟩
    dsimp only at e1 e2 e3
    unfold unlAt
    rw [unlC_eq, e1, e2, (l3 O hO _ e3).2]
    congr 1
    refine List.filter_congr fun c hc => ?_
    rw [(l3 O hO c (hc4 c (List.mem_of_mem_drop hc))).2]
  have e : unl R O 4 = (((0 + unlAt R O 0) + unlAt R O 1) + unlAt R O 2) + unlAt R O 3 := rfl
  rw [e, at_ 0 (by decide), at_ 1 (by decide), at_ 2 (by decide), at_ 3 (by decide)]
  generalize R.cps.toList = l at h4
  match l, h4 with
  | [a, b, c, d], _ =>
    show (((0 + unlC _ a [b, c, d]) + unlC _ b [c, d]) + unlC _ c [d]) + unlC _ d [] = unlC _ a [b, c, d] + (unlC _ b [c, d] + (unlC _ c [d] + (unlC _ d [] + 0)))
    omega
theorem l2 : ∀ R ∈ rowsL, ∀ O ∈ rows, ∀ p : Fin 3, Nat.ble (unlL (swp O (p.val : Int)).cps.toList R) (unlL O.cps.toList R + 1) = true := by decide +kernel
theorem l4 : ∀ r ∈ rows, ∀ c ∈ codes4, ∀ a : Fin 4, Nat.ble a.val (pos r.cps.toList c) = true → (led r ⟨#[c]⟩ (a.val : Int)).cps.toList = ledL r.cps.toList c a.val := by decide +kernel
theorem f4a {r o : Str} {p : Int} (hr : r ∈ rows) (ho : o ∈ rows) (h0 : 0 ≤ p) (h1 : p < 3) : unl r (swp o p) 4 ≤ unl r o 4 + 1 := by
  have e : (((⟨p.toNat, by omega⟩ : Fin 3).val : Nat) : Int) = p := Int.toNat_of_nonneg h0
  have hs := (f1 o ho ⟨p.toNat, by omega⟩).2
  rw [e] at hs
  have := l2 r.cps.toList (List.mem_map.mpr ⟨r, hr, rfl⟩) o ho ⟨p.toNat, by omega⟩
  rw [e] at this
  rw [l1 r hr _ hs, l1 r hr o ho]
  exact Nat.le_of_ble_eq_true this
theorem f4b {r o sg : Str} {a : Int} (hr : r ∈ rows) (ho : o ∈ rows) (hs : sg ∈ signs) (h0 : 0 ≤ a) (h1 : a ≤ Txt.find o sg) :
    1 + Txt.find r sg + ((unl (front r sg) (led o sg a) 4 : Nat) : Int) ≤ 2 * (Txt.find o sg + 1) - 1 - a + ((unl r o 4 : Nat) : Int) := by
  obtain ⟨c, hc, rfl⟩ := List.mem_map.mp hs
  have hf := f3 r hr _ hs
  obtain ⟨-, -, hl, -⟩ := f2' ho hs h0 h1
  have h4 := (find_ok o ho _ hs).2
  have e : (((⟨a.toNat, by omega⟩ : Fin 4).val : Nat) : Int) = a := Int.toNat_of_nonneg h0
  have k3 := l3 r hr c hc
  have k3o := l3 o ho c hc
  have hb : Nat.ble a.toNat (pos o.cps.toList c) = true := Nat.ble_eq_true_of_le (by have := k3o.2; omega)
  have k4 := l4 o ho c hc ⟨a.toNat, by omega⟩ hb
  rw [e] at k4
  have k := Nat.le_of_ble_eq_true (g4 r.cps.toList (List.mem_map.mpr ⟨r, hr, rfl⟩) o.cps.toList (List.mem_map.mpr ⟨o, ho, rfl⟩) c hc ⟨a.toNat, by omega⟩ hb)
  rw [l1 _ hf.2 _ hl, l1 r hr o ho, k3.1, k4, k3.2, k3o.2]
  dsimp only at k ⊢
  have hb' := Nat.le_of_ble_eq_true hb
  omega
end
section
local macro_rules | `(tactic| walk_at "binaryOp Mod int int") => `(tactic| (k_here; (refine mod_int' (by omega) ?_)))
local macro_rules | `(tactic| walk_at "binaryOp FloorDiv int int") => `(tactic| (k_here; (refine floordiv_int (by omega) ?_ (Or.inl (PyProof.noPylong_small (by omega))))))
local macro_rules | `(tactic| walk_at "binaryOp Add str str") => `(tactic| (k_here; (refine add_tok (by omega) (by omega) ?_); intro t9 k9 le9 ln9; (try dsimp only at le9)))
local macro_rules | `(tactic| walk_at "call builtin:str.replace") => `(tactic| (k_here; (refine repl_tok (by (show @Ne Nat _ _); omega) (by (show @Ne Nat _ _); omega) (by (show @Ne Nat _ _); omega) item_ne (by omega) ?_); intro t9 k9 le9; (try dsimp only at le9)))
local macro_rules | `(tactic| walk_at "call ref") => `(tactic| (k_here; (with_reducible show wpAny _ (Around.deeper callerA _) (call (Value.ref _) _) _ _ _); (fail_if_success (with_reducible show wpAny _ _ _ (fun _ s' => TokAll _ _) _ _)); refine tok_all ?_))
set_option hygiene false in
local macro_rules | `(tactic| walk_at "TokAll") => `(tactic| (k_here; refine fun tk9 le9 => ?_; (try dsimp only at le9); (try dsimp only)))
local macro_rules | `(tactic| walk_at "call ref") => `(tactic| (k_here; (with_reducible show wpAny _ _ (call (Value.ref 453) _) _ _ _); refine stop2I ?_))
set_option hygiene false in
local macro_rules | `(tactic| walk_at "call ref") => `(tactic| (k_here; (with_reducible show wpAny _ _ (call (Value.ref 458) _) _ _ _); k_dflt (refine' unlike_e ?R77 ?O77 ?B77 ?F77 ?X77 ?N77 ?T77 ?k77 ?d77 ?u77 ?_; (case R77 => with_reducible assumption); (case O77 => with_reducible assumption); (case B77 => k_asm); (case F77 => k_asm); (case X77 => k_asm); (case N77 => k_asm); (case T77 => k_asm); (case k77 => exact rfl); (case d77 => exact roomA (by decide)); (case u77 => exact unitA (by decide))); intro t9 h9 tk9 le9 F9 N9; (try dsimp only at le9)))
local macro_rules | `(tactic| k_mem) => `(tactic| ((repeat (first | (with_reducible exact List.mem_cons_self) | with_reducible assumption | refine' List.mem_cons_of_mem _ ?_)); done))
local macro_rules | `(tactic| walk_at "subscriptTail") => `(tactic| (k_here; (with_reducible show wpAny _ _ (subscriptTail _ _ (Value.str _ _) (Value.int _ _)) _ _ _); (refine KXi.item rfl (by first | omega | exact Int.le_trans (by omega) (fmod_lo _ (by omega))) (by first | omega | exact fmod_hi _ (by omega)) (by omega) ?_); intro ln9))
local macro_rules | `(tactic| walk_at "execs cons") => `(tactic| (k_here; (with_reducible show wpAny _ (Around.deeper callerA _) (execs _ _) _ _ _); (with_reducible refine wpAny_execs_cons ?_); (try dsimp only)))
local macro_rules | `(tactic| walk_at "execs nil") => `(tactic| (k_here; (with_reducible show wpAny _ (Around.deeper callerA _) (execs _ _) _ _ _); (refine wpAny_execs_nil ?_); (try dsimp only)))
local macro_rules | `(tactic| walk_at "CutEnd") => `(tactic| (k_here; refine stop2I ?_))
local macro_rules | `(tactic| walk_at "subscriptTail Name Slice str ref") => `(tactic| (k_here; (with_reducible show wpAny _ (Around.deeper callerA _) (subscriptTail _ (Expr.Slice _ _ _ _) (Value.str _ _) _) _ _ _); (fail_if_success (with_reducible show wpAny _ _ _ (fun _ s' => TokAll _ _) _ _)); refine tok_all ?_))
set_option hygiene false in
local macro_rules | `(tactic| walk_at "call ref") => `(tactic| (k_here; (with_reducible show wpAny _ (Around.deeper callerA _) (call (Value.ref 446) _) _ _ _); k_dflt (refine' now_e ?B77 ?F77 ?X77 ?N77 ?T77 ?k77 ?d77 ?u77 ?_; (case B77 => k_asm); (case F77 => k_asm); (case X77 => k_asm); (case N77 => k_asm); (case T77 => k_asm); (case k77 => exact rfl); (case d77 => exact roomA (by decide)); (case u77 => exact unitA (by decide))); intro q9 r9 dr9 tk19 u19 u29 u39 uk9 uv9 h9 tkn9 le9 F9 N9; (try dsimp only at le9)))
local macro_rules | `(tactic| walk_at "compareOp NotEq str str") => `(tactic| (k_here; (with_reducible show wpAny _ (Around.deeper callerA _) (compareOp CmpOp.NotEq (Value.str _ _) (Value.str _ _)) _ _ _); k_dflt (refine ne_same (by first | rfl | assumption) ?_)))
theorem stageB {w : World} {mean : ExcName → Option Value} {mg mb : Str → Option Value} {g h : Heap} {L0 fa I : Addr} {cd : Value} {body : List Stmt} {sc : Scope} {sb : Shared} {tk : Nat} {it : Obj} {lp : Addr × Obj} {row o sg : Str} {told un pl : Int} {u : Str → Option Value} {tr to' ts tu tp tm tt : Tok} {T : Led} {ps : Array Value}
    (hb : lawFn ((K w.params).lookup 463) = (body, sc)) (hpl : 0 ≤ pl ∧ pl < 4) (hr2 : o ∈ rows) (htk : @Ne Nat ts 0 ∧ @LT.lt Nat _ ts tk) (hI448 : @Ne Nat 448 I) (hlp448 : @Ne Nat lp.1 448) (hN : Nx I T ps) :
    Below callerA g [] g → Fr g L0 h (tM u row o sg told un pl 0 tr to' ts tu tp tm tt) → (K w.params).In g → News g L0 h ((I, it) :: lp :: T) → Top topProg loose0 mean mg mb g → CodeHd g 452 448 →
    wpAny (model Challenge.rw_xm0938_01.row.prog w) (callerA.deeper (envOf (Str.ofString "law") sc L0 fa cd)) (execs (((forBody body).drop 2).take 1) (envOf (Str.ofString "law") sc L0 fa cd))
      (CutEnd (SA sb g L0 I it lp row sg told un pl fun o2 mo => o2 = (afterIf o pl).1 ∧ mo = (afterIf o pl).2 ∧ o2 ∈ rows)) (fun _ _ => False) { sb with heap := h, toks := tk } := by
  k_fill
  obtain ⟨e1, e2⟩ := law_eq hb (by k_is)
  subst e1 e2
  clear hb
  dsimp only [forBody, List.drop, List.take]
  intro B F X N Tp C
  have ho4 := rows_len _ hr2
  obtain ⟨hN8, hNs⟩ := hN
  k_steps
  · unfold Stop2
    obtain ⟨vals9, hp9, hrow9⟩ := f1' (p := pl) hr2 hpl.1 (by omega)
    refine tok_all ?_
    k_dflt (refine' turned_h3 (w := w) (ps := ps) (I := I) (oI := it) (hp := hp9) ?hS77 ?B77 ?F77 ?X77 ?N77 ?T77 ?k77 ?C77 ?H77 ?vm77 ?h877 ?st77 ?I77 ?Io77 ?n177 ?n277 ?n377 ?fl77 ?ol77 ?d77 ?u77 ?_)
    case hS77 => omega
    case B77 => k_asm
    case F77 => k_asm
    case X77 => k_asm
    case N77 => k_asm
    case T77 => k_asm
    case k77 => exact rfl
    case C77 => exact C
    case fl77 => k_mem
    case ol77 => k_mem
    case h877 => k_mem
    case I77 => k_mem
    case d77 => exact roomA (by decide)
    case u77 => exact unitA (by decide)
    case H77 => exact ⟨by k_mem, by k_mem, by k_mem, by k_mem, by k_mem, by assumption, by k_ne⟩
    case vm77 => assumption
    case st77 => exact hNs.mono fun p hp => by k_mem
    case Io77 => exact ⟨⟨by k_ne, by k_ne, by k_ne⟩, by k_ne⟩
    case n177 => exact .now (by k_mem) (.tab (by k_mem)) ⟨_, _, _, _, _, _, by k_mem, by k_mem⟩
    case n277 => exact .now (by k_mem) (.len (by k_mem)) ⟨_, _, _, _, _, _, by k_mem, by k_mem⟩
    case n377 => exact .now (by k_mem) (.len (by k_mem)) ⟨_, _, _, _, _, _, by k_mem, by k_mem⟩
    intro t n' tn' ov' kvs T' ps' h' tk' F8 N8 hs8 hd8 hv8 hov8 hfl8 hx8 h88 hst88
    have hI8 := hs8 (I, it) (by k_mem) ⟨⟨by k_ne, by k_ne, by k_ne⟩, by k_ne⟩
    have hl8 := hs8 lp (by k_mem) ⟨⟨by k_ne, by k_ne, by k_ne⟩, by k_ne⟩
    k_steps
    unfold Stop2
    rename Fr _ _ _ _ => F99
    rename News _ _ _ _ => N99
    refine ⟨rfl, _, _, _, swp o pl, 1, T', ps', _, _, _, _, _, _, _, rfl, ?_, fr_eq F99 (tM_eq (by rfl) (by rfl) (by rfl) (by rfl) (by rfl) (by rfl) (by rfl)), cb_drop N99 ?_, ⟨h88, hst88⟩, ?_, ?_, hrow9⟩
    · exact ⟨htk.1, by have := htk.2; (show @LT.lt Nat _ _ _); omega⟩
    · intro p hp
      rcases List.mem_cons.mp hp with rfl | hp
      · k_mem
      rcases List.mem_cons.mp hp with rfl | hp
      · k_mem
      · k_mem
    · rw [afterIf, if_pos (by omega)]
    · rw [afterIf, if_pos (by omega)]
  · unfold Stop2
    rename Fr _ _ _ _ => F99
    rename News _ _ _ _ => N99
    refine ⟨rfl, _, _, _, o, 0, T, ps, _, _, _, _, _, _, _, rfl, ?_, fr_eq F99 (tM_eq (by rfl) (by rfl) (by rfl) (by rfl) (by rfl) (by rfl) (by rfl)), cb_drop N99 ?_, ⟨hN8, hNs⟩, ?_, ?_, hr2⟩
    · exact ⟨htk.1, by have := htk.2; (show @LT.lt Nat _ _ _); omega⟩
    · intro p hp
      rcases List.mem_cons.mp hp with rfl | hp
      · k_mem
      rcases List.mem_cons.mp hp with rfl | hp
      · k_mem
      · k_mem
    · rw [afterIf, if_neg (by omega)]
    · rw [afterIf, if_neg (by omega)]
local macro_rules | `(tactic| walk_at "call builtin:str.index") => `(tactic| (k_here; (refine index_or (by rfl) (fun e _ => absurd e (by omega)) ?_); intro _ _))
theorem stageA {w : World} {mean : ExcName → Option Value} {mg mb : Str → Option Value} {g h : Heap} {L0 fa I : Addr} {cd : Value} {body : List Stmt} {sc : Scope} {sb : Shared} {tk : Nat} {it : Obj} {lp : Addr × Obj} {row o : Str} {told : Int} {u : Str → Option Value} {tr to' tt : Tok} {T : Led} {ps : Array Value}
    (hb : lawFn ((K w.params).lookup 463) = (body, sc)) (hr1 : row ∈ rows) (hr2 : o ∈ rows) (hI448 : @Ne Nat 448 I) (hlp448 : @Ne Nat lp.1 448) (hN : Nx I T ps) :
    Below callerA g [] g → Fr g L0 h (fun y => if y = Str.ofString "told" then some (.int told tt) else rowM u row o tr to' y) → (K w.params).In g → News g L0 h ((I, it) :: lp :: T) → Top topProg loose0 mean mg mb g →
    wpAny (model Challenge.rw_xm0938_01.row.prog w) (callerA.deeper (envOf (Str.ofString "law") sc L0 fa cd)) (execs ((forBody body).take 2) (envOf (Str.ofString "law") sc L0 fa cd))
      (CutEnd (SA sb g L0 I it lp row (Txt.item (Str.ofString "abcd") (told.fmod 4)) told (unl row o 4 : Nat) ((told.fdiv 4).fmod 4) fun o2 mo => o2 = o ∧ mo = 0)) (fun _ _ => False) { sb with heap := h, toks := tk } := by
  k_fill
  obtain ⟨e1, e2⟩ := law_eq hb (by k_is)
  subst e1 e2
  clear hb
  dsimp only [forBody, List.drop, List.take]
  intro B F X N Tp
  have ho4 := rows_len _ hr2
  have hr4 := rows_len _ hr1
  obtain ⟨hN8, hNs⟩ := hN
  k_steps
  unfold Stop2
  rename Fr _ _ _ _ => F99
  rename News _ _ _ _ => N99
  refine ⟨rfl, _, _, _, o, 0, T, ps, _, _, _, _, _, _, _, rfl, ?_, fr_eq F99 (tM_eq (by rfl) (by rfl) (by rfl) (by rfl) (by rfl) (by rfl) (by rfl)), cb_drop N99 ?_, ⟨hN8, hNs⟩, rfl, rfl⟩
  · exact ⟨by (show @Ne Nat _ _); omega, by (show @LT.lt Nat _ _ _); omega⟩
  · intro p hp
    rcases List.mem_cons.mp hp with rfl | hp
    · k_mem
    rcases List.mem_cons.mp hp with rfl | hp
    · k_mem
    · k_mem
theorem stageC {w : World} {mean : ExcName → Option Value} {mg mb : Str → Option Value} {g h : Heap} {L0 fa I : Addr} {cd : Value} {body : List Stmt} {sc : Scope} {sb : Shared} {tk : Nat} {it : Obj} {lp : Addr × Obj} {row o sg : Str} {told un pl mo : Int} {u : Str → Option Value} {tr to' ts tu tp tm tt : Tok} {T : Led} {ps : Array Value}
    (hb : lawFn ((K w.params).lookup 463) = (body, sc)) (hr2 : o ∈ rows) (hsg : sg ∈ signs) (htk : @Ne Nat ts 0 ∧ @LT.lt Nat _ ts tk) (hI448 : @Ne Nat 448 I) (hlp448 : @Ne Nat lp.1 448) (hN : Nx I T ps) :
    Below callerA g [] g → Fr g L0 h (tM u row o sg told un pl mo tr to' ts tu tp tm tt) → (K w.params).In g → News g L0 h ((I, it) :: lp :: T) → Top topProg loose0 mean mg mb g → CodeHd g 452 448 →
    wpAny (model Challenge.rw_xm0938_01.row.prog w) (callerA.deeper (envOf (Str.ofString "law") sc L0 fa cd)) (execs (((forBody body).drop 3).take 4) (envOf (Str.ofString "law") sc L0 fa cd))
      (CutEnd (SC sb g L0 I it lp row o sg (led o sg ((told.fdiv 16).fmod (Txt.find o sg + 1))) un mo (Txt.find o sg) ((told.fdiv 16).fmod (Txt.find o sg + 1)))) (fun _ _ => False) { sb with heap := h, toks := tk } := by
  k_fill
  obtain ⟨e1, e2⟩ := law_eq hb (by k_is)
  subst e1 e2
  clear hb
  dsimp only [forBody, List.drop, List.take]
  intro B F X N Tp C
  have ho4 := rows_len _ hr2
  have hfo := find_ok _ hr2 _ hsg
  have hsl := sign_len _ hsg
  obtain ⟨hN8, hNs⟩ := hN
  k_steps
  · unfold Stop2
    obtain ⟨vals9, hp9, hrow9, -⟩ := f2' (a := (told.fdiv 16).fmod (Txt.find o sg + 1)) hr2 hsg (fmod_lo _ (by omega)) (by have := fmod_hi (told.fdiv 16) (n := Txt.find o sg + 1) (by omega); omega)
    refine tok_all ?_
    k_dflt (refine' turned_h3 (w := w) (ps := ps) (I := I) (oI := it) (hp := hp9) ?hS77 ?B77 ?F77 ?X77 ?N77 ?T77 ?k77 ?C77 ?H77 ?vm77 ?h877 ?st77 ?I77 ?Io77 ?n177 ?n277 ?n377 ?fl77 ?ol77 ?d77 ?u77 ?_)
    case hS77 => omega
    case B77 => k_asm
    case F77 => k_asm
    case X77 => k_asm
    case N77 => k_asm
    case T77 => k_asm
    case k77 => exact rfl
    case C77 => exact C
    case fl77 => k_mem
    case ol77 => k_mem
    case h877 => k_mem
    case I77 => k_mem
    case d77 => exact roomA (by decide)
    case u77 => exact unitA (by decide)
    case H77 => exact ⟨by k_mem, by k_mem, by k_mem, by k_mem, by k_mem, by assumption, by k_ne⟩
    case vm77 => assumption
    case st77 => exact hNs.mono fun p hp => by k_mem
    case Io77 => exact ⟨⟨by k_ne, by k_ne, by k_ne⟩, by k_ne⟩
    case n177 => exact .now (by k_mem) (.tab (by k_mem)) ⟨_, _, _, _, _, _, by k_mem, by k_mem⟩
    case n277 => exact .now (by k_mem) (.len (by k_mem)) ⟨_, _, _, _, _, _, by k_mem, by k_mem⟩
    case n377 => exact .chars (by k_mem) hsl
    intro t n' tn' ov' kvs T' ps' h' tk' F8 N8 hs8 hd8 hv8 hov8 hfl8 hx8 h88 hst88
    have hI8 := hs8 (I, it) (by k_mem) ⟨⟨by k_ne, by k_ne, by k_ne⟩, by k_ne⟩
    have hl8 := hs8 lp (by k_mem) ⟨⟨by k_ne, by k_ne, by k_ne⟩, by k_ne⟩
    k_steps
    unfold Stop2
    rename Fr _ _ _ _ => F99
    rename News _ _ _ _ => N99
    refine ⟨rfl, _, _, _, T', ps', _, _, _, _, _, _, _, _, rfl, ?_, fr_eq F99 (cM_eq (by rfl) (by rfl) (by rfl) (by rfl) (by rfl) (by rfl) (by rfl) (by rfl)), cb_drop N99 ?_, ⟨h88, hst88⟩⟩
    · exact ⟨htk.1, by have := htk.2; (show @LT.lt Nat _ _ _); omega⟩
    · intro p hp
      rcases List.mem_cons.mp hp with rfl | hp
      · k_mem
      rcases List.mem_cons.mp hp with rfl | hp
      · k_mem
      · k_mem
theorem stageD {w : World} {mean : ExcName → Option Value} {mg mb : Str → Option Value} {g h : Heap} {L0 fa I : Addr} {cd : Value} {body : List Stmt} {sc : Scope} {sb : Shared} {tk : Nat} {it : Obj} {lp : Addr × Obj} {row o sg lat : Str} {un mo st ah : Int} {u : Str → Option Value} {tr to' ts tu tm tst tah tla : Tok} {T : Led} {ps : Array Value} {vals : VD}
    (hb : lawFn ((K w.params).lookup 463) = (body, sc)) (hr1 : row ∈ rows) (hsg : sg ∈ signs) (hp9 : turnsB row (nd3 sg) [sg, sV, sR] = some (front row sg, vals)) (htk : @Ne Nat ts 0 ∧ @LT.lt Nat _ ts tk) (hI448 : @Ne Nat 448 I) (hlp448 : @Ne Nat lp.1 448) (hN : Nx I T ps) :
    Below callerA g [] g → Fr g L0 h (cM u row o sg lat un mo st ah tr to' ts tu tm tst tah tla) → (K w.params).In g → News g L0 h ((I, it) :: lp :: T) → Top topProg loose0 mean mg mb g → CodeHd g 452 448 →
    wpAny (model Challenge.rw_xm0938_01.row.prog w) (callerA.deeper (envOf (Str.ofString "law") sc L0 fa cd)) (execs (((forBody body).drop 7).take 2) (envOf (Str.ofString "law") sc L0 fa cd))
      (CutEnd (SD w sb g L0 I it lp row o sg lat (front row sg) un mo st ah vals)) (fun _ _ => False) { sb with heap := h, toks := tk } := by
  k_fill
  obtain ⟨e1, e2⟩ := law_eq hb (by k_is)
  subst e1 e2
  clear hb
  dsimp only [forBody, List.drop, List.take]
  intro B F X N Tp C
  have hr4 := rows_len _ hr1
  have hsl := sign_len _ hsg
  obtain ⟨hN8, hNs⟩ := hN
  k_steps
  · unfold Stop2
    refine tok_all ?_
    k_dflt (refine' turned_h2 (w := w) (ps := ps) (I := I) (oI := it) (hp := hp9) ?hS77 ?B77 ?F77 ?X77 ?N77 ?T77 ?k77 ?C77 ?H77 ?vm77 ?h877 ?st77 ?I77 ?Io77 ?n177 ?n277 ?fl77 ?ol77 ?d77 ?u77 ?_)
    case hS77 => omega
    case B77 => k_asm
    case F77 => k_asm
    case X77 => k_asm
    case N77 => k_asm
    case T77 => k_asm
    case k77 => exact rfl
    case C77 => exact C
    case fl77 => k_mem
    case ol77 => k_mem
    case h877 => k_mem
    case I77 => k_mem
    case d77 => exact roomA (by decide)
    case u77 => exact unitA (by decide)
    case H77 => exact ⟨by k_mem, by k_mem, by k_mem, by k_mem, by k_mem, by assumption, by k_ne⟩
    case vm77 => assumption
    case st77 => exact hNs.mono fun p hp => by k_mem
    case Io77 => exact ⟨⟨by k_ne, by k_ne, by k_ne⟩, by k_ne⟩
    case n177 => exact .now (by k_mem) (.arb (by k_mem)) ⟨_, _, _, _, _, _, by k_mem, by k_mem⟩
    case n277 => exact .chars (by k_mem) hsl
    intro t n' tn' ov' kvs T' ps' h' tk' F8 N8 hs8 hd8 hv8 hov8 hfl8 hx8 h88 hst88
    have hI8 := hs8 (I, it) (by k_mem) ⟨⟨by k_ne, by k_ne, by k_ne⟩, by k_ne⟩
    have hl8 := hs8 lp (by k_mem) ⟨⟨by k_ne, by k_ne, by k_ne⟩, by k_ne⟩
    k_steps
    unfold Stop2
    rename Fr _ _ _ _ => F99
    rename News _ _ _ _ => N99
    refine ⟨rfl, _, _, _, T', ps', _, _, _, _, _, _, _, _, _, _, _, _, _, _, _, _, _, _, _, _, _, _, _, _, _, _, rfl, ?_, F99, cb_drop N99 ?_, ⟨h88, hst88⟩, hx8, hd8, hv8, by assumption, by assumption, by assumption⟩
    · exact ⟨htk.1, by have := htk.2; (show @LT.lt Nat _ _ _); omega⟩
    · intro p hp
      rcases List.mem_cons.mp hp with rfl | hp
      · k_mem
      rcases List.mem_cons.mp hp with rfl | hp
      · k_mem
      · k_mem
local macro_rules | `(tactic| walk_at "call builtin:str.replace") => `(tactic| (k_here; (refine repl_tok (by (show @Ne Nat _ _); omega) (by (show @Ne Nat _ _); omega) (by (show @Ne Nat _ _); omega) (by first | exact item_ne | assumption) (by omega) ?_); intro t9 k9 le9; (try dsimp only at le9)))
local macro_rules | `(tactic| walk_at "subscriptTail") => `(tactic| (k_here; (with_reducible show wpAny _ (Around.deeper callerA _) (subscriptTail _ _ (Value.ref _) (Value.str _ _)) _ _ _); k_dflt (refine kda_item (knd := PySem.strKind _ _) (by k_asm) (by k_mem) (by with_reducible assumption) (strKind_is _ _ _ _) (by with_reducible assumption) ?_)))
theorem stageE {w : World} {mean : ExcName → Option Value} {mg mb : Str → Option Value} {g h : Heap} {L0 fa I x dx vd rl ll : Addr} {cd : Value} {body : List Stmt} {sc : Scope} {sb : Shared} {tk : Nat} {it : Obj} {lp : Addr × Obj} {row o sg lat vs : Str} {un mo st ah n' : Int} {u : Str → Option Value} {tr to' ts tu tm tst tah tla tf tv t1 t2 t3 t4 t5 t6 tl tw tn : Tok} {T : Led} {ps : Array Value} {ov : Obj} {kvs : List (Str × Value)}
    (hb : lawFn ((K w.params).lookup 463) = (body, sc)) (hr1 : row ∈ rows) (hr2 : o ∈ rows) (hsg : sg ∈ signs) (hlr : lat ∈ rows) (hfr : front row sg ∈ rows) (hre : Txt.replace lat sg Str.empty = Txt.replace o sg Str.empty) (hrl : (Txt.replace row sg Str.empty).length ≤ 100) (hvs : vs.length ≤ 100)
    (hst : 0 ≤ st ∧ st < 4) (hin : 1 + (vs.length : Int) + ((unl (front row sg) lat 4 : Nat) : Int) - un ≤ 2 * (st + 1) - 1 - ah + mo)
    (htk : @Ne Nat ts 0 ∧ @LT.lt Nat _ ts tk) (hI448 : @Ne Nat 448 I) (hlp448 : @Ne Nat lp.1 448) (hN : Nx I T ps) (hx : (x, instObj 229 dx) ∈ T) (hdx : (dx, hostD w t1 t2 t3 t4 t5 t6 vd rl ll 9999 64 n' tl tw tn) ∈ T) (hvd : (vd, ov) ∈ T) (hov : ov.IsDictOf (strKind Challenge.rw_xm0938_01.row.prog w) kvs) (hval : valueAt kvs (Str.ofString "V") = some (.str vs tv)) (hvm : (vd == sysModules) = false) :
    Below callerA g [] g → Fr g L0 h (fun y => if y = Str.ofString "front" then some (.str (front row sg) tf) else if y = Str.ofString "host" then some (.ref x) else cM u row o sg lat un mo st ah tr to' ts tu tm tst tah tla y) → (K w.params).In g → News g L0 h ((I, it) :: lp :: T) → Top topProg loose0 mean mg mb g →
    wpAny (model Challenge.rw_xm0938_01.row.prog w) (callerA.deeper (envOf (Str.ofString "law") sc L0 fa cd)) (execs ((forBody body).drop 9) (envOf (Str.ofString "law") sc L0 fa cd))
      (CutEnd (SE sb g L0 I it lp (front row sg) lat)) (fun _ _ => False) { sb with heap := h, toks := tk } := by
  k_fill
  obtain ⟨e1, e2⟩ := law_eq hb (by k_is)
  subst e1 e2
  clear hb
  dsimp only [forBody, List.drop, List.take]
  intro B F X N Tp
  have ho4 := rows_len _ hr2
  have hr4 := rows_len _ hr1
  have hl4 := rows_len _ hlr
  have hsl := sign_len _ hsg
  obtain ⟨hN8, hNs⟩ := hN
  obtain ⟨htk1, htk2⟩ := htk
  have hse := sign_ne _ hsg
  k_steps
  unfold Stop2
  rename Fr _ _ _ _ => F99
  rename News _ _ _ _ => N99
  refine ⟨rfl, _, _, _, T, ps, _, _, rfl, fr_eq F99 (congrFun (rowM_eq (by rfl) (by rfl))), cb_drop N99 ?_, ⟨hN8, hNs⟩⟩
  intro p hp
  rcases List.mem_cons.mp hp with rfl | hp
  · k_mem
  rcases List.mem_cons.mp hp with rfl | hp
  · k_mem
  · k_mem
theorem drop_more {l : List Stmt} {a b c : Nat} (h : a + b = c) : (l.drop a).drop b = l.drop c := by
  rw [List.drop_drop, h]
theorem rest_len : ∀ r ∈ rows, ∀ sg ∈ signs, (Txt.replace r sg Str.empty).length ≤ 100 := by decide +kernel
theorem after_ok {o : Str} {pl : Int} (h0 : 0 ≤ pl) {r : Str} (hr : r ∈ rows) (ho : o ∈ rows) : ((unl r (afterIf o pl).1 4 : Nat) : Int) ≤ ((unl r o 4 : Nat) : Int) + (afterIf o pl).2 := by
  unfold afterIf
  split
  · rename_i h
    have := f4a hr ho h0 h
    dsimp only
    omega
  · simp
theorem turn_all {w : World} {mean : ExcName → Option Value} {mg mb : Str → Option Value} {g h : Heap} {L0 fa I : Addr} {cd : Value} {body : List Stmt} {sc : Scope} {sb : Shared} {tk : Nat} {it : Obj} {lp : Addr × Obj} {row o : Str} {told : Int} {u : Str → Option Value} {tr to' tt : Tok} {T : Led} {ps : Array Value}
    (hb : lawFn ((K w.params).lookup 463) = (body, sc)) (hr1 : row ∈ rows) (hr2 : o ∈ rows) (hI448 : @Ne Nat 448 I) (hlp448 : @Ne Nat lp.1 448) (hN : Nx I T ps)
    (B : Below callerA g [] g) (F : Fr g L0 h (fun y => if y = Str.ofString "told" then some (.int told tt) else rowM u row o tr to' y)) (X : (K w.params).In g) (N : News g L0 h ((I, it) :: lp :: T)) (Tp : Top topProg loose0 mean mg mb g) (C : CodeHd g 452 448) :
    wpAny (model Challenge.rw_xm0938_01.row.prog w) (callerA.deeper (envOf (Str.ofString "law") sc L0 fa cd)) (execs (forBody body) (envOf (Str.ofString "law") sc L0 fa cd))
      (CutEnd fun s' => ∃ r2 o2, r2 ∈ rows ∧ o2 ∈ rows ∧ SE sb g L0 I it lp r2 o2 s') (fun _ _ => False) { sb with heap := h, toks := tk } := by
  have hpl : 0 ≤ (told.fdiv 4).fmod 4 ∧ (told.fdiv 4).fmod 4 < 4 := ⟨fmod_lo _ (by decide), fmod_hi _ (by decide)⟩
  refine execs_cutn 2 _ (stageA hb hr1 hr2 hI448 hlp448 hN B F X N Tp) ?_
  rintro s' ⟨h1, k1, u1, o1, m1, T1, ps1, tr1, to1, ts1, tu1, tp1, tm1, tt1, rfl, htk1, F1, N1, hN1, rfl, rfl⟩
  have hsg := sign_mem told
  revert hsg F1 hpl
  generalize Txt.item (Str.ofString "abcd") (told.fmod 4) = sg
  generalize (told.fdiv 4).fmod 4 = pl
  intro hpl F1 hsg
  refine execs_cutn 1 _ (stageB hb hpl hr2 htk1 hI448 hlp448 hN1 B F1 X N1 Tp C) ?_
  rintro s' ⟨h2, k2, u2, o2, m2, T2, ps2, tr2, to2, ts2, tu2, tp2, tm2, tt2, rfl, htk2, F2, N2, hN2, ho2, hm2, hr3⟩
  rw [drop_more (c := 3) rfl]
  have hfo := find_ok _ hr3 _ hsg
  have ha0 := fmod_lo (told.fdiv 16) (n := Txt.find o2 sg + 1) (by omega)
  have ha1 := fmod_hi (told.fdiv 16) (n := Txt.find o2 sg + 1) (by omega)
  obtain ⟨-, -, hlr, hre⟩ := f2' (a := (told.fdiv 16).fmod (Txt.find o2 sg + 1)) hr3 hsg ha0 (by omega)
  refine execs_cutn 4 _ (stageC hb hr3 hsg htk2 hI448 hlp448 hN2 B F2 X N2 Tp C) ?_
  rintro s' ⟨h3, k3, u3, T3, ps3, tr3, to3, ts3, tu3, tm3, tst3, tah3, tla3, rfl, htk3, F3, N3, hN3⟩
  rw [drop_more (c := 7) rfl]
  obtain ⟨vals, vs, hp9, hlook, hvl, hfr⟩ := f3' hr1 hsg
  refine execs_cutn 2 _ (stageD hb hr1 hsg hp9 htk3 hI448 hlp448 hN3 B F3 X N3 Tp C) ?_
  rintro s' ⟨h4, k4, u4, T4, ps4, tr4, to4, ts4, tu4, tm4, tst4, tah4, tla4, tf4, t1, t2, t3, t4, t5, t6, tl, tw, tn, n', x, dx, vd, rl, ll, ov, kvs, rfl, htk4, F4, N4, hN4, hx, hdx, hvd, hov, hfl, hvm⟩
  rw [drop_more (c := 9) rfl]
  obtain ⟨ae, -, hall, -⟩ := turnsB_ok hp9
  have hfr2 := find_ok _ hr1 _ hsg
  obtain ⟨y, tv, hy1, hy2⟩ : ∃ y t, lookS vals sV = some y ∧ valueAt kvs sV = some (.str y t) := by
    rcases look_flat hfl hall sV with h | ⟨h, -⟩
    · exact h
    · rw [hlook] at h; cases h
  rw [hlook] at hy1
  cases hy1
  have hb4 := f4b hr1 hr3 hsg ha0 (by omega : (told.fdiv 16).fmod (Txt.find o2 sg + 1) ≤ Txt.find o2 sg)
  have haf := after_ok (pl := pl) hpl.1 hr1 hr2
  rw [← ho2, ← hm2] at haf
  refine wpAny_mono (stageE hb hr1 hr3 hsg hlr hfr hre (rest_len _ hr1 _ hsg) (by omega) hfo (by rw [hvl]; omega) htk4 hI448 hlp448 hN4 hx hdx hvd hov hy2 hvm B F4 X N4 Tp) (fun fl s' q => ⟨q.1, _, _, hfr, hlr, q.2⟩) fun _ _ e => e
local macro_rules | `(tactic| walk_at "subscriptTail Name Slice ref ref") => `(tactic| (k_here; (with_reducible show wpAny _ _ (subscriptTail _ (PySem.Expr.Slice _ _ none _) (Value.ref _) (Value.ref _)) _ _ _); k_dflt (refine' kmk_slice_ints ?F ?N ?l ?p ?q ?i ?m ?c ?_ ?s ?t ?z; (case F => k_asm); (case N => k_asm); (case l => kmk_list); (case p => kmk_part); (case q => kmk_part); (case i => l_ints); (case m => kmk_nums); (case c => kmk_len); (case s => with_unfolding_all rfl); (case t => kmk_pure); (case z => kmk_size)); intro D' ws' h' F' N' l1 hI' hC' hL'; (try simp only [Int.reduceNeg, Int.neg_neg, Int.reduceToNat] at hI' hC' hL'); (try k_lt l1)))
local macro_rules | `(tactic| walk_at "subscriptTail Name Slice ref ref") => `(tactic| (k_here; (with_reducible show wpAny _ _ (subscriptTail (PySem.Expr.Name (Str.ofString "usual") _) (PySem.Expr.Slice _ _ none _) (Value.ref _) (Value.ref _)) _ _ _); k_dflt (refine' kmk_slice_ints ?F ?N ?l ?p ?q ?i ?m ?c ?_ ?s ?t ?z; (case F => k_asm); (case N => k_asm); (case l => exact News.isList (by k_asm) (by k_mem)); (case p => exact IsPart.int _ _); (case q => exact IsPart.none); (case i => exact ints4); (case m => exact kmk_from ints4 (Int.natCast_nonneg _)); (case c => exact rfl); (case s => with_unfolding_all rfl); (case t => kmk_pure); (case z => exact Nat.le_of_ble_eq_true rfl)); intro D' ws' h' F' N' l1 hI' hC' hL'; (try k_lt l1)))
local macro_rules | `(tactic| walk_at "RangeRest") => `(tactic| (k_here; refine stop2I ?_))
local macro_rules | `(tactic| walk_at "UnrEnd") => `(tactic| (k_here; refine stop2I ?_))
local macro_rules | `(tactic| walk_at "ListRest") => `(tactic| (k_here; refine stop2I ?_))
local macro_rules | `(tactic| walk_at "pyIter ref") => `(tactic| (k_here; (with_reducible show wpAny _ _ (pyIter (Value.ref _)) (fun it s₂ => LoopAtV _ _ _ _ _ (Str.ofString "told") _ _ _ it s₂) _ _); refine stop2I ?_))
local macro_rules | `(tactic| walk_at "exec For Name Subscript cons nil") => `(tactic| (k_here; (rename Fr _ _ _ _ => lF'); (with_unfolding_all refine' For_invVF lF' ?k1 ?k2 ?_; (case k1 => exact rfl); (case k2 => exact rfl); k_whole)))
theorem law_get {K : Frag} {f : Addr} {oc : Value} {od : Option Addr} {osl : Array (Option Value)} {name qual : Str} {params : Arguments} {body : List Stmt} {scope : Scope} {dV kV doc pm cdv ct : Value} {an : Option Addr}
    (ho : K.lookup f = some ⟨oc, od, .func (fnOf name qual params body scope dV kV doc pm an cdv ct), osl⟩) : lawFn (K.lookup f) = (body, scope) := by
  rw [ho]
  rfl
theorem wrapMem2 {a : Addr} {vs : Array Value} {n : Nat} {nx : Led} (h : (a, W.listOf vs n) ∈ nx) : ∃ lp : Addr × Obj, lp ∈ nx ∧ (∀ n' : Led, lp ∈ n' → (a, W.listOf vs n) ∈ n') ∧ ∀ ps, lp.2 ≠ tabObj ps :=
  ⟨(a, W.listOf vs n), h, fun _ h => h, fun ps e => by have := congrArg Obj.cls e; simp at this⟩
theorem law_walk : Challenge.rw_xm0938_01.Holds := hd (by
  delta lawRec
  k_go0
  rename_i w s₀ s₁ mg mb G Y fa o pm cd doc kV ho hcd hg X V T B TE TW ns hs hlay0 hL1 hr1 hl2 w4 w3 scr vs wl hLs ra w1 r0 hI hr hcond1 hcond hD h₁ X' T' K' F' N' l0
  clear r0 w1 ra hLs hr hl2 hr1 hlay0 hD hT9 TW TE B T V X hT8 hcd ho Y G hcond
  dsimp only
  refine law_mono (g := ghostOf s₁.heap [(452, 448)]) (L := s₁.heap.objs.size) ?main ?last
  case last =>
    rintro fl s' ⟨rfl, h', tk', m', news, ps, rfl, F9, N9, hm9⟩
    clear N' F'
    dsimp only
    refine ⟨?_, ?_⟩
    · refine goodW_bool F9 hg (raisesW_false ?_) ?_
      · wrow_none_raised
      · wrow_post
    · exact ⟨GrownAt.of N9 hm9, True.intro⟩
  case main =>
  revert X' T' K' F' lifted codeHd N' l0
  generalize ghostOf s₁.heap [(452, 448)] = g
  generalize s₁.heap.objs.size = L0
  intro X' T' K' F' lifted codeHd N' l0
  k_steps
  unfold Stop2
  rename Fr _ _ _ _ => F5
  rename News _ _ _ _ => N5
  rename IntsAre _ _ => hcs
  obtain ⟨hc4, hc7⟩ := cells_len (ns := ns) (f := fun k' => if k' < 0 then -k' else k') (n := (List.take 7 ns).length) (Int.toNat_natCast _)
  refine tidyR (by k_mem) fun u1 u2 => ?_
  clear F5 N5
  revert hcs hc4 hc7
  generalize List.map (fun k' : Int => if k' < 0 then -k' else k') (List.take 7 ns) ++ List.drop (((List.take 7 ns).length : Nat) : Int).toNat [0, 1, 3, 26] = cs
  intro hcs hc4 hc7
  refine rangeRest_inv (fun i m nx => ∃ (u1 u2 : Option Value) (o r : Str) (to tr : Tok), m = lawM _ _ _ _ u1 u2 o r to tr ∧ nx = _ ∧ (o, r) ∈ stepStates i) ?turn ?fin 4 0 _ _ rfl ⟨u1, u2, _, _, _, _, rfl, rfl, List.mem_singleton.mpr rfl⟩
  case turn =>
    rintro i m₁ nx t h tk hi ⟨u1, u2, o, r, to, tr, rfl, rfl, hst⟩ F8 N8
    obtain ⟨hrl, hol⟩ := step_len ⟨i, hi⟩ _ hst
    dsimp only at hrl hol
    have hp4 : 0 < (4 : Int) ^ (0 + (i : Int)).toNat ∧ (4 : Int) ^ (0 + (i : Int)).toNat < 100 := by
      have : ∀ i : Fin 4, 0 < (4 : Int) ^ (0 + ((i.val : Nat) : Int)).toNat ∧ (4 : Int) ^ (0 + ((i.val : Nat) : Int)).toNat < 100 := by decide +kernel
      exact this ⟨i, hi⟩
    k_steps
    unfold Stop2
    refine' ⟨_, _, _, _, rfl, by k_asm, cb_drop (by k_asm) ?sub9, ?off9, ?u19, ?u29, _, _, ?to9, ?tr9, ?eq9, rfl, step_next hst (fmod_lo _ (by omega)) (fmod_hi _ (by omega))⟩
    case eq9 =>
      funext y
      by_cases e1 : y = Str.ofString "rest"
      · subst e1; rfl
      by_cases e2 : y = Str.ofString "other"
      · subst e2; rfl
      by_cases e3 : y = Str.ofString "sign"
      · subst e3; rfl
      by_cases e4 : y = Str.ofString "at"
      · subst e4; rfl
      simp only [lawM, if_neg e1, if_neg e2, if_neg e3, if_neg e4]
    case sub9 =>
      intro p hp
      rcases List.mem_cons.mp hp with rfl | hp
      · k_mem
      rcases List.mem_cons.mp hp with rfl | hp
      · k_mem
      rcases List.mem_cons.mp hp with rfl | hp
      · k_mem
      · cases hp
    case off9 =>
      intro p hp
      rcases List.mem_cons.mp hp with rfl | hp
      · k_ne
      rcases List.mem_cons.mp hp with rfl | hp
      · k_ne
      · cases hp
  case fin =>
    rintro m₁ nx h tk ⟨u1, u2, o, r, to, tr, rfl, rfl, hst⟩ F8 N8
    have hrow := step_rows hst
    clear hst
    k_steps
    unfold Stop2
    rename Fr _ _ _ _ => F5
    rename News _ _ _ _ => N5
    rename IntsAre _ _ => hi5
    refine listU (fun I m nx => ∃ (u : Str → Option Value) (row other : Str) (tr to' : Tok) (o8 : Obj), m = rowM u row other tr to' ∧ row ∈ rows ∧ other ∈ rows ∧ (448, o8) ∈ nx ∧ TabSt ⟨307, 4, 308, 68⟩ (Str.ofString "_law_turned.<locals>.text_of") I nx o8 ∧ ∀ p ∈ nx, p.1 ≠ I) (by rfl) F5 N5 (by k_mem) ?turn2 ?fin2 ?start2
    case start2 =>
      intro I hI9
      exact ⟨_, _, _, _, _, tabObj #[], rowM_eq (by rfl) (by rfl), abcd_row, hrow, by k_mem, .inl rfl, fun p hp => Nat.ne_of_lt (hI9 p hp)⟩
    case fin2 =>
      rintro I m news' h tk ⟨u, row, other, tr9, to9, o8, rfl, hr1, hr2, hm8, hst8, hap⟩ F9 N9
      obtain ⟨ps8, h8p⟩ : ∃ ps, o8 = tabObj ps := by
        rcases hst8 with h | ⟨_, _, _, _, h, _⟩
        · exact ⟨_, h⟩
        · exact ⟨_, h⟩
      subst h8p
      have F9' : Fr g L0 h _ := F9
      have N9' : News g L0 h news' := N9
      clear F5 N5 F9 N9
      k_steps
      dsimp only
      exact ⟨rfl, _, _, _, news', ps8, rfl, by k_asm, by k_asm, hm8⟩
    case turn2 =>
      rintro I v m nx it h tk lI hv ⟨u, row, other, tr9, to9, o8, rfl, hr1, hr2, hm8, hst8, hap⟩ hlp F9 N9
      obtain ⟨told, tt, rfl⟩ : ∃ told tt, v = .int told tt := ints_mem hi5 hv
      clear F5 N5
      have F9' : Fr g L0 h _ := F9
      have N9' : News g L0 h ((I, it) :: nx) := N9
      clear F9 N9
      obtain ⟨ps8, h8p⟩ : ∃ ps, o8 = tabObj ps := by
        rcases hst8 with h | ⟨_, _, _, _, h, _⟩
        · exact ⟨_, h⟩
        · exact ⟨_, h⟩
      subst h8p
      obtain ⟨lp, hlp1, hlp3, hlpo⟩ := wrapMem2 hlp
      have hb := law_get (K := K w.params) (f := 463) (by k_is)
      refine wpAny_mono (turn_all (sb := s₁) (lp := lp) (T := nx) (ps := ps8) (I := I) (it := it) (tk := tk) (h := h) hb hr1 hr2 (hap _ hm8) (apart N9' (List.mem_cons_of_mem _ hlp1) (List.mem_cons_of_mem _ hm8) ?ob77) ⟨hm8, hst8⟩ K' F9' X' (cb_drop N9' ?sub77) T' codeHd) (fun fl s' q => ?end77) fun _ _ e => e.elim
      case sub77 =>
        intro p hp
        rcases List.mem_cons.mp hp with rfl | hp
        · exact List.mem_cons_self
        rcases List.mem_cons.mp hp with rfl | hp
        · exact List.mem_cons_of_mem _ hlp1
        · exact List.mem_cons_of_mem _ hp
      case ob77 => exact hlpo _
      case end77 =>
        obtain ⟨rfl, r2, o2, hr2', ho2', h2, tk2, u2, T2, ps2, tr2, to2, rfl, F2, N2, hN2⟩ := q
        refine ⟨h2, tk2, _, (lp :: T2).filter (fun p => p.1 != I), rfl, F2, ?_, ?_, hlp3 _ ?_, u2, r2, o2, tr2, to2, tabObj ps2, rfl, hr2', ho2', ?_, ?_, ?_⟩
        · intro p hp
          refine N2 p ?_
          rcases List.mem_cons.mp hp with rfl | hp
          · exact List.mem_cons_self
          · exact List.mem_cons_of_mem _ (List.mem_filter.mp hp).1
        · intro p hp
          simpa using (List.mem_filter.mp hp).2
        · exact List.mem_filter.mpr ⟨List.mem_cons_self, by simpa using hap _ hlp1⟩
        · exact List.mem_filter.mpr ⟨List.mem_cons_of_mem _ hN2.h8, by simpa using hap _ hm8⟩
        · rcases hN2.hst with h | ⟨c', oc, vs', t', g1, g2, g3, g4, g5⟩
          · exact .inl h
          · exact .inr ⟨c', oc, vs', t', g1, List.mem_filter.mpr ⟨List.mem_cons_of_mem _ g2, by simpa using g5⟩, g3, g4, g5⟩
        · intro p hp
          simpa using (List.mem_filter.mp hp).2)
end
end Mine
theorem PySem.Challenge.cw_xm0938_01_holds : PySem.Challenge.rw_xm0938_01.Holds := by
  exact Mine.law_walk
