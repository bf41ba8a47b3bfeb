import PyProof.Rows.All
import Wide.All
import OpenK.AllK
import Wide.FinOn
import PySem.Challenge.RW_pb0181_01
set_option Elab.async false
section
open PySem PySem.W PyProof.Rows
namespace Mine
noncomputable def stAt (i : Nat) : PySem.Stmt := PySem.Challenge.pw_pb0181_01.main.body.getD i (.Pass ⟨0, 0, 0, 0⟩)
noncomputable def meAt (i j : Nat) : PySem.Stmt := match stAt i with
  | .ClassDef _ _ _ body _ _ _ _ _ _ _ => body.getD j (.Pass ⟨0, 0, 0, 0⟩)
  | x => x
abbrev FnIs (st : PySem.Stmt) (a : PySem.Arguments) (b : List PySem.Stmt) (s : PySem.Scope) : Prop := ∃ n d r t u v p, st = .FunctionDef n a b d r t s u v p
set_option maxRecDepth 100000 in
set_option maxHeartbeats 8000000 in
noncomputable def KF : PySem.Params → PySem.W.Frag := (fun 
  (a38 : PySem.Arguments) (b38 : List PySem.Stmt) (s38 : PySem.Scope) (_ : FnIs (meAt 2 0) a38 b38 s38)
  (a70 : PySem.Arguments) (b70 : List PySem.Stmt) (s70 : PySem.Scope) (_ : FnIs (stAt 5) a70 b70 s70)
  (a77 : PySem.Arguments) (b77 : List PySem.Stmt) (s77 : PySem.Scope) (_ : FnIs (stAt 6) a77 b77 s77)
  (a92 : PySem.Arguments) (b92 : List PySem.Stmt) (s92 : PySem.Scope) (_ : FnIs (meAt 7 0) a92 b92 s92)
  (a106 : PySem.Arguments) (b106 : List PySem.Stmt) (s106 : PySem.Scope) (_ : FnIs (meAt 7 2) a106 b106 s106)
  (a120 : PySem.Arguments) (b120 : List PySem.Stmt) (s120 : PySem.Scope) (_ : FnIs (meAt 7 4) a120 b120 s120)
  (a141 : PySem.Arguments) (b141 : List PySem.Stmt) (s141 : PySem.Scope) (_ : FnIs (meAt 7 7) a141 b141 s141)
  (a183 : PySem.Arguments) (b183 : List PySem.Stmt) (s183 : PySem.Scope) (_ : FnIs (meAt 9 0) a183 b183 s183)
  (a204 : PySem.Arguments) (b204 : List PySem.Stmt) (s204 : PySem.Scope) (_ : FnIs (meAt 9 3) a204 b204 s204)
  (a218 : PySem.Arguments) (b218 : List PySem.Stmt) (s218 : PySem.Scope) (_ : FnIs (stAt 10) a218 b218 s218)
  (a225 : PySem.Arguments) (b225 : List PySem.Stmt) (s225 : PySem.Scope) (_ : FnIs (stAt 11) a225 b225 s225)
  (a246 : PySem.Arguments) (b246 : List PySem.Stmt) (s246 : PySem.Scope) (_ : FnIs (stAt 14) a246 b246 s246)
  (a251 : PySem.Arguments) (b251 : List PySem.Stmt) (s251 : PySem.Scope) (_ : FnIs (stAt 16) a251 b251 s251)
  (a256 : PySem.Arguments) (b256 : List PySem.Stmt) (s256 : PySem.Scope) (_ : FnIs (stAt 17) a256 b256 s256)
  (a263 : PySem.Arguments) (b263 : List PySem.Stmt) (s263 : PySem.Scope) (_ : FnIs (stAt 19) a263 b263 s263)
  (a270 : PySem.Arguments) (b270 : List PySem.Stmt) (s270 : PySem.Scope) (_ : FnIs (stAt 20) a270 b270 s270)
  (a275 : PySem.Arguments) (b275 : List PySem.Stmt) (s275 : PySem.Scope) (_ : FnIs (stAt 21) a275 b275 s275)
  (a280 : PySem.Arguments) (b280 : List PySem.Stmt) (s280 : PySem.Scope) (_ : FnIs (stAt 22) a280 b280 s280)
  (a285 : PySem.Arguments) (b285 : List PySem.Stmt) (s285 : PySem.Scope) (_ : FnIs (stAt 23) a285 b285 s285)
  (a290 : PySem.Arguments) (b290 : List PySem.Stmt) (s290 : PySem.Scope) (_ : FnIs (stAt 24) a290 b290 s290) => fun P => (nat_lit 2, ({ cls := PySem.Value.none, dict := @Option.none Nat, data := PySem.Data.dict (@List.toArray PySem.DictEntry (@List.cons PySem.DictEntry { hash := PySem.PyData.keyHash P (PySem.Str.ofString "type.__subclasses__.Exception.0"), key := PySem.Value.str (PySem.Str.ofString "type.__subclasses__.Exception.0") (@OfNat.ofNat Nat (nat_lit 234) (instOfNatNat (nat_lit 234))), val := PySem.Value.int (@OfNat.ofNat Int (nat_lit 48) (@instOfNat (nat_lit 48))) (@OfNat.ofNat Nat (nat_lit 0) (instOfNatNat (nat_lit 0))) } (@List.cons PySem.DictEntry { hash := PySem.PyData.keyHash P (PySem.Str.ofString "type.__subclasses__.Exception.n"), key := PySem.Value.str (PySem.Str.ofString "type.__subclasses__.Exception.n") (@OfNat.ofNat Nat (nat_lit 235) (instOfNatNat (nat_lit 235))), val := PySem.Value.int (@OfNat.ofNat Int (nat_lit 1) (@instOfNat (nat_lit 1))) (@OfNat.ofNat Nat (nat_lit 0) (instOfNatNat (nat_lit 0))) } (@List.nil PySem.DictEntry)))) (@OfNat.ofNat Nat (nat_lit 2) (instOfNatNat (nat_lit 2))), slots := @List.toArray (Option PySem.Value) (@List.nil (Option PySem.Value)) } : PySem.Obj)) ::
(nat_lit 3, ({ cls := PySem.Value.type "dict", dict := @Option.none Nat, data := PySem.Data.dict (@List.toArray PySem.DictEntry (@List.cons PySem.DictEntry { hash := PySem.PyData.keyHash P (PySem.Str.ofString "__name__"), key := PySem.Value.str (PySem.Str.ofString "__name__") (@OfNat.ofNat Nat (nat_lit 165) (instOfNatNat (nat_lit 165))), val := PySem.Value.str (PySem.Str.ofString "law_pb0181_01") (@OfNat.ofNat Nat (nat_lit 508) (instOfNatNat (nat_lit 508))) } (@List.cons PySem.DictEntry { hash := PySem.PyData.keyHash P (PySem.Str.ofString "__doc__"), key := PySem.Value.str (PySem.Str.ofString "__doc__") (@OfNat.ofNat Nat (nat_lit 166) (instOfNatNat (nat_lit 166))), val := PySem.Value.none } (@List.cons PySem.DictEntry { hash := PySem.PyData.keyHash P (PySem.Str.ofString "__package__"), key := PySem.Value.str (PySem.Str.ofString "__package__") (@OfNat.ofNat Nat (nat_lit 167) (instOfNatNat (nat_lit 167))), val := PySem.Value.none } (@List.cons PySem.DictEntry { hash := PySem.PyData.keyHash P (PySem.Str.ofString "__loader__"), key := PySem.Value.str (PySem.Str.ofString "__loader__") (@OfNat.ofNat Nat (nat_lit 168) (instOfNatNat (nat_lit 168))), val := PySem.Value.builtin "__main__.__loader__#opaque" } (@List.cons PySem.DictEntry { hash := PySem.PyData.keyHash P (PySem.Str.ofString "__spec__"), key := PySem.Value.str (PySem.Str.ofString "__spec__") (@OfNat.ofNat Nat (nat_lit 169) (instOfNatNat (nat_lit 169))), val := PySem.Value.none } (@List.cons PySem.DictEntry { hash := PySem.PyData.keyHash P (PySem.Str.ofString "__annotations__"), key := PySem.Value.str (PySem.Str.ofString "__annotations__") (@OfNat.ofNat Nat (nat_lit 170) (instOfNatNat (nat_lit 170))), val := PySem.Value.ref (@OfNat.ofNat Nat (nat_lit 6) (instOfNatNat (nat_lit 6))) } (@List.cons PySem.DictEntry { hash := PySem.PyData.keyHash P (PySem.Str.ofString "__builtins__"), key := PySem.Value.str (PySem.Str.ofString "__builtins__") (@OfNat.ofNat Nat (nat_lit 171) (instOfNatNat (nat_lit 171))), val := PySem.Value.ref (@OfNat.ofNat Nat (nat_lit 4) (instOfNatNat (nat_lit 4))) } (@List.cons PySem.DictEntry { hash := PySem.PyData.keyHash P (PySem.Str.ofString "__file__"), key := PySem.Value.str (PySem.Str.ofString "__file__") (@OfNat.ofNat Nat (nat_lit 173) (instOfNatNat (nat_lit 173))), val := PySem.Value.str (PySem.Str.ofString "/claim/cut.py") (@OfNat.ofNat Nat (nat_lit 172) (instOfNatNat (nat_lit 172))) } (@List.cons PySem.DictEntry { hash := PySem.PyData.keyHash P (PySem.Str.ofString "__cached__"), key := PySem.Value.str (PySem.Str.ofString "__cached__") (@OfNat.ofNat Nat (nat_lit 174) (instOfNatNat (nat_lit 174))), val := PySem.Value.none } (@List.cons PySem.DictEntry { hash := PySem.PyData.keyHash P (PySem.Str.ofString "_wall"), key := PySem.Value.str (PySem.Str.ofString "_wall") (@OfNat.ofNat Nat (nat_lit 193) (instOfNatNat (nat_lit 193))), val := PySem.Value.ref (@OfNat.ofNat Nat (nat_lit 21) (instOfNatNat (nat_lit 21))) } (@List.cons PySem.DictEntry { hash := PySem.PyData.keyHash P (PySem.Str.ofString "ShapeError"), key := PySem.Value.str (PySem.Str.ofString "ShapeError") (@OfNat.ofNat Nat (nat_lit 237) (instOfNatNat (nat_lit 237))), val := PySem.Value.ref (@OfNat.ofNat Nat (nat_lit 48) (instOfNatNat (nat_lit 48))) } (@List.cons PySem.DictEntry { hash := PySem.PyData.keyHash P (PySem.Str.ofString "TableFault"), key := PySem.Value.str (PySem.Str.ofString "TableFault") (@OfNat.ofNat Nat (nat_lit 253) (instOfNatNat (nat_lit 253))), val := PySem.Value.ref (@OfNat.ofNat Nat (nat_lit 61) (instOfNatNat (nat_lit 61))) } (@List.cons PySem.DictEntry { hash := PySem.PyData.keyHash P (PySem.Str.ofString "check_room"), key := PySem.Value.str (PySem.Str.ofString "check_room") (@OfNat.ofNat Nat (nat_lit 264) (instOfNatNat (nat_lit 264))), val := PySem.Value.ref (@OfNat.ofNat Nat (nat_lit 70) (instOfNatNat (nat_lit 70))) } (@List.cons PySem.DictEntry { hash := PySem.PyData.keyHash P (PySem.Str.ofString "number_at"), key := PySem.Value.str (PySem.Str.ofString "number_at") (@OfNat.ofNat Nat (nat_lit 275) (instOfNatNat (nat_lit 275))), val := PySem.Value.ref (@OfNat.ofNat Nat (nat_lit 77) (instOfNatNat (nat_lit 77))) } (@List.cons PySem.DictEntry { hash := PySem.PyData.keyHash P (PySem.Str.ofString "OctetsIn"), key := PySem.Value.str (PySem.Str.ofString "OctetsIn") (@OfNat.ofNat Nat (nat_lit 382) (instOfNatNat (nat_lit 382))), val := PySem.Value.ref (@OfNat.ofNat Nat (nat_lit 165) (instOfNatNat (nat_lit 165))) } (@List.cons PySem.DictEntry { hash := PySem.PyData.keyHash P (PySem.Str.ofString "Coverage"), key := PySem.Value.str (PySem.Str.ofString "Coverage") (@OfNat.ofNat Nat (nat_lit 439) (instOfNatNat (nat_lit 439))), val := PySem.Value.ref (@OfNat.ofNat Nat (nat_lit 207) (instOfNatNat (nat_lit 207))) } (@List.cons PySem.DictEntry { hash := PySem.PyData.keyHash P (PySem.Str.ofString "coverage_of"), key := PySem.Value.str (PySem.Str.ofString "coverage_of") (@OfNat.ofNat Nat (nat_lit 448) (instOfNatNat (nat_lit 448))), val := PySem.Value.ref (@OfNat.ofNat Nat (nat_lit 218) (instOfNatNat (nat_lit 218))) } (@List.cons PySem.DictEntry { hash := PySem.PyData.keyHash P (PySem.Str.ofString "read_ascending"), key := PySem.Value.str (PySem.Str.ofString "read_ascending") (@OfNat.ofNat Nat (nat_lit 459) (instOfNatNat (nat_lit 459))), val := PySem.Value.ref (@OfNat.ofNat Nat (nat_lit 225) (instOfNatNat (nat_lit 225))) } (@List.cons PySem.DictEntry { hash := PySem.PyData.keyHash P (PySem.Str.ofString "read_span"), key := PySem.Value.str (PySem.Str.ofString "read_span") (@OfNat.ofNat Nat (nat_lit 470) (instOfNatNat (nat_lit 470))), val := PySem.Value.ref (@OfNat.ofNat Nat (nat_lit 232) (instOfNatNat (nat_lit 232))) } (@List.cons PySem.DictEntry { hash := PySem.PyData.keyHash P (PySem.Str.ofString "read_spans"), key := PySem.Value.str (PySem.Str.ofString "read_spans") (@OfNat.ofNat Nat (nat_lit 483) (instOfNatNat (nat_lit 483))), val := PySem.Value.ref (@OfNat.ofNat Nat (nat_lit 239) (instOfNatNat (nat_lit 239))) } (@List.cons PySem.DictEntry { hash := PySem.PyData.keyHash P (PySem.Str.ofString "read_coverage"), key := PySem.Value.str (PySem.Str.ofString "read_coverage") (@OfNat.ofNat Nat (nat_lit 493) (instOfNatNat (nat_lit 493))), val := PySem.Value.ref (@OfNat.ofNat Nat (nat_lit 246) (instOfNatNat (nat_lit 246))) } (@List.cons PySem.DictEntry { hash := PySem.PyData.keyHash P (PySem.Str.ofString "read_each"), key := PySem.Value.str (PySem.Str.ofString "read_each") (@OfNat.ofNat Nat (nat_lit 501) (instOfNatNat (nat_lit 501))), val := PySem.Value.ref (@OfNat.ofNat Nat (nat_lit 251) (instOfNatNat (nat_lit 251))) } (@List.cons PySem.DictEntry { hash := PySem.PyData.keyHash P (PySem.Str.ofString "read_sets"), key := PySem.Value.str (PySem.Str.ofString "read_sets") (@OfNat.ofNat Nat (nat_lit 507) (instOfNatNat (nat_lit 507))), val := PySem.Value.ref (@OfNat.ofNat Nat (nat_lit 256) (instOfNatNat (nat_lit 256))) } (@List.cons PySem.DictEntry { hash := PySem.PyData.keyHash P (PySem.Str.ofString "_law_draw"), key := PySem.Value.str (PySem.Str.ofString "_law_draw") (@OfNat.ofNat Nat (nat_lit 519) (instOfNatNat (nat_lit 519))), val := PySem.Value.ref (@OfNat.ofNat Nat (nat_lit 263) (instOfNatNat (nat_lit 263))) } (@List.cons PySem.DictEntry { hash := PySem.PyData.keyHash P (PySem.Str.ofString "_law_u16"), key := PySem.Value.str (PySem.Str.ofString "_law_u16") (@OfNat.ofNat Nat (nat_lit 526) (instOfNatNat (nat_lit 526))), val := PySem.Value.ref (@OfNat.ofNat Nat (nat_lit 270) (instOfNatNat (nat_lit 270))) } (@List.cons PySem.DictEntry { hash := PySem.PyData.keyHash P (PySem.Str.ofString "_law_set"), key := PySem.Value.str (PySem.Str.ofString "_law_set") (@OfNat.ofNat Nat (nat_lit 532) (instOfNatNat (nat_lit 532))), val := PySem.Value.ref (@OfNat.ofNat Nat (nat_lit 275) (instOfNatNat (nat_lit 275))) } (@List.cons PySem.DictEntry { hash := PySem.PyData.keyHash P (PySem.Str.ofString "_law_octets"), key := PySem.Value.str (PySem.Str.ofString "_law_octets") (@OfNat.ofNat Nat (nat_lit 538) (instOfNatNat (nat_lit 538))), val := PySem.Value.ref (@OfNat.ofNat Nat (nat_lit 280) (instOfNatNat (nat_lit 280))) } (@List.cons PySem.DictEntry { hash := PySem.PyData.keyHash P (PySem.Str.ofString "_law_told"), key := PySem.Value.str (PySem.Str.ofString "_law_told") (@OfNat.ofNat Nat (nat_lit 544) (instOfNatNat (nat_lit 544))), val := PySem.Value.ref (@OfNat.ofNat Nat (nat_lit 285) (instOfNatNat (nat_lit 285))) } (@List.cons PySem.DictEntry { hash := PySem.PyData.keyHash P (PySem.Str.ofString "law"), key := PySem.Value.str (PySem.Str.ofString "law") (@OfNat.ofNat Nat (nat_lit 550) (instOfNatNat (nat_lit 550))), val := PySem.Value.ref (@OfNat.ofNat Nat (nat_lit 290) (instOfNatNat (nat_lit 290))) } (@List.nil PySem.DictEntry))))))))))))))))))))))))))))))) (@OfNat.ofNat Nat (nat_lit 29) (instOfNatNat (nat_lit 29))), slots := @List.toArray (Option PySem.Value) (@List.nil (Option PySem.Value)) } : PySem.Obj)) ::
(nat_lit 25, ({ cls := PySem.Value.type "cell", dict := @Option.none Nat, data := PySem.Data.cell (@Option.some PySem.Value (PySem.Value.ref (@OfNat.ofNat Nat (nat_lit 48) (instOfNatNat (nat_lit 48))))), slots := @List.toArray (Option PySem.Value) (@List.nil (Option PySem.Value)) } : PySem.Obj)) ::
(nat_lit 30, ({ cls := PySem.Value.type "tuple", dict := @Option.none Nat, data := PySem.Data.seq (@List.toArray PySem.Value (@List.cons PySem.Value (PySem.Value.int (@Neg.neg Int Int.instNegInt (@OfNat.ofNat Int (nat_lit 1) (@instOfNat (nat_lit 1)))) (@OfNat.ofNat Nat (nat_lit 209) (instOfNatNat (nat_lit 209)))) (@List.nil PySem.Value))) (@OfNat.ofNat Nat (nat_lit 0) (instOfNatNat (nat_lit 0))), slots := @List.toArray (Option PySem.Value) (@List.nil (Option PySem.Value)) } : PySem.Obj)) ::
(nat_lit 31, ({ cls := PySem.Value.type "tuple", dict := @Option.none Nat, data := PySem.Data.seq (@List.toArray PySem.Value (@List.cons PySem.Value (PySem.Value.ref (@OfNat.ofNat Nat (nat_lit 25) (instOfNatNat (nat_lit 25)))) (@List.nil PySem.Value))) (@OfNat.ofNat Nat (nat_lit 0) (instOfNatNat (nat_lit 0))), slots := @List.toArray (Option PySem.Value) (@List.nil (Option PySem.Value)) } : PySem.Obj)) ::
(nat_lit 37, ({ cls := PySem.Value.type "code", dict := @Option.none Nat, data := PySem.Data.fields (@List.toArray PySem.Value (@List.cons PySem.Value (PySem.Value.str (PySem.Str.ofString "__init__") (@OfNat.ofNat Nat (nat_lit 210) (instOfNatNat (nat_lit 210)))) (@List.cons PySem.Value (PySem.Value.str (PySem.Str.ofString "ShapeError.__init__") (@OfNat.ofNat Nat (nat_lit 211) (instOfNatNat (nat_lit 211)))) (@List.cons PySem.Value (PySem.Value.str (PySem.Str.ofString "/claim/cut.py") (@OfNat.ofNat Nat (nat_lit 212) (instOfNatNat (nat_lit 212)))) (@List.cons PySem.Value (PySem.Value.int (@OfNat.ofNat Int (nat_lit 7) (@instOfNat (nat_lit 7))) (@OfNat.ofNat Nat (nat_lit 0) (instOfNatNat (nat_lit 0)))) (@List.cons PySem.Value (PySem.Value.int (@OfNat.ofNat Int (nat_lit 3) (@instOfNat (nat_lit 3))) (@OfNat.ofNat Nat (nat_lit 0) (instOfNatNat (nat_lit 0)))) (@List.cons PySem.Value (PySem.Value.int (@OfNat.ofNat Int (nat_lit 0) (@instOfNat (nat_lit 0))) (@OfNat.ofNat Nat (nat_lit 0) (instOfNatNat (nat_lit 0)))) (@List.cons PySem.Value (PySem.Value.int (@OfNat.ofNat Int (nat_lit 0) (@instOfNat (nat_lit 0))) (@OfNat.ofNat Nat (nat_lit 0) (instOfNatNat (nat_lit 0)))) (@List.cons PySem.Value (PySem.Value.int (@OfNat.ofNat Int (nat_lit 3) (@instOfNat (nat_lit 3))) (@OfNat.ofNat Nat (nat_lit 0) (instOfNatNat (nat_lit 0)))) (@List.cons PySem.Value (PySem.Value.ref (@OfNat.ofNat Nat (nat_lit 32) (instOfNatNat (nat_lit 32)))) (@List.cons PySem.Value (PySem.Value.bool Bool.true) (@List.cons PySem.Value (PySem.Value.int (@OfNat.ofNat Int (nat_lit 181) (@instOfNat (nat_lit 181))) (@OfNat.ofNat Nat (nat_lit 0) (instOfNatNat (nat_lit 0)))) (@List.cons PySem.Value (PySem.Value.ref (@OfNat.ofNat Nat (nat_lit 33) (instOfNatNat (nat_lit 33)))) (@List.cons PySem.Value PySem.Value.none (@List.cons PySem.Value (PySem.Value.ref (@OfNat.ofNat Nat (nat_lit 34) (instOfNatNat (nat_lit 34)))) (@List.cons PySem.Value (PySem.Value.ref (@OfNat.ofNat Nat (nat_lit 35) (instOfNatNat (nat_lit 35)))) (@List.cons PySem.Value (PySem.Value.ref (@OfNat.ofNat Nat (nat_lit 36) (instOfNatNat (nat_lit 36)))) (@List.cons PySem.Value (PySem.Value.int (@OfNat.ofNat Int (nat_lit 217) (@instOfNat (nat_lit 217))) (@OfNat.ofNat Nat (nat_lit 0) (instOfNatNat (nat_lit 0)))) (@List.cons PySem.Value (PySem.Value.int (@OfNat.ofNat Int (nat_lit 7) (@instOfNat (nat_lit 7))) (@OfNat.ofNat Nat (nat_lit 0) (instOfNatNat (nat_lit 0)))) (@List.cons PySem.Value (PySem.Value.str (PySem.Str.ofString "/claim/cut.py") (@OfNat.ofNat Nat (nat_lit 218) (instOfNatNat (nat_lit 218)))) (@List.nil PySem.Value))))))))))))))))))))), slots := @List.toArray (Option PySem.Value) (@List.nil (Option PySem.Value)) } : PySem.Obj)) ::
(nat_lit 38, ({ cls := PySem.Value.type "function", dict := @Option.none Nat, data := PySem.Data.func { name := PySem.Str.ofString "__init__", qualname := PySem.Str.ofString "ShapeError.__init__", params := a38, body := PySem.FuncBody.stmts b38, scope := s38, globals := @OfNat.ofNat Nat (nat_lit 3) (instOfNatNat (nat_lit 3)), closure := @List.cons (Prod PySem.Str Nat) (@Prod.mk PySem.Str Nat (PySem.Str.ofString "__class__") (@OfNat.ofNat Nat (nat_lit 25) (instOfNatNat (nat_lit 25)))) (@List.nil (Prod PySem.Str Nat)), defaults := PySem.Value.ref (@OfNat.ofNat Nat (nat_lit 30) (instOfNatNat (nat_lit 30))), kwdefaults := PySem.Value.none, doc := PySem.Value.none, pyModule := PySem.Value.str (PySem.Str.ofString "joinedhand.errors") (@OfNat.ofNat Nat (nat_lit 194) (instOfNatNat (nat_lit 194))), annotations := @Option.none Nat, code := PySem.Value.ref (@OfNat.ofNat Nat (nat_lit 37) (instOfNatNat (nat_lit 37))), closureTuple := PySem.Value.ref (@OfNat.ofNat Nat (nat_lit 31) (instOfNatNat (nat_lit 31))), builtins := @OfNat.ofNat Nat (nat_lit 0) (instOfNatNat (nat_lit 0)) }, slots := @List.toArray (Option PySem.Value) (@List.nil (Option PySem.Value)) } : PySem.Obj)) ::
(nat_lit 47, ({ cls := PySem.Value.type "dict", dict := @Option.none Nat, data := PySem.Data.dict (@List.toArray PySem.DictEntry (@List.cons PySem.DictEntry { hash := PySem.PyData.keyHash P (PySem.Str.ofString "__module__"), key := PySem.Value.str (PySem.Str.ofString "__module__") (@OfNat.ofNat Nat (nat_lit 203) (instOfNatNat (nat_lit 203))), val := PySem.Value.str (PySem.Str.ofString "joinedhand.errors") (@OfNat.ofNat Nat (nat_lit 194) (instOfNatNat (nat_lit 194))) } (@List.cons PySem.DictEntry { hash := PySem.PyData.keyHash P (PySem.Str.ofString "__firstlineno__"), key := PySem.Value.str (PySem.Str.ofString "__firstlineno__") (@OfNat.ofNat Nat (nat_lit 207) (instOfNatNat (nat_lit 207))), val := PySem.Value.int (@OfNat.ofNat Int (nat_lit 5) (@instOfNat (nat_lit 5))) (@OfNat.ofNat Nat (nat_lit 206) (instOfNatNat (nat_lit 206))) } (@List.cons PySem.DictEntry { hash := PySem.PyData.keyHash P (PySem.Str.ofString "__init__"), key := PySem.Value.str (PySem.Str.ofString "__init__") (@OfNat.ofNat Nat (nat_lit 219) (instOfNatNat (nat_lit 219))), val := PySem.Value.ref (@OfNat.ofNat Nat (nat_lit 38) (instOfNatNat (nat_lit 38))) } (@List.cons PySem.DictEntry { hash := PySem.PyData.keyHash P (PySem.Str.ofString "told"), key := PySem.Value.str (PySem.Str.ofString "told") (@OfNat.ofNat Nat (nat_lit 226) (instOfNatNat (nat_lit 226))), val := PySem.Value.ref (@OfNat.ofNat Nat (nat_lit 45) (instOfNatNat (nat_lit 45))) } (@List.cons PySem.DictEntry { hash := PySem.PyData.keyHash P (PySem.Str.ofString "__static_attributes__"), key := PySem.Value.str (PySem.Str.ofString "__static_attributes__") (@OfNat.ofNat Nat (nat_lit 229) (instOfNatNat (nat_lit 229))), val := PySem.Value.ref (@OfNat.ofNat Nat (nat_lit 46) (instOfNatNat (nat_lit 46))) } (@List.cons PySem.DictEntry { hash := PySem.PyData.keyHash P (PySem.Str.ofString "__weakref__"), key := PySem.Value.str (PySem.Str.ofString "__weakref__") (@OfNat.ofNat Nat (nat_lit 232) (instOfNatNat (nat_lit 232))), val := PySem.Value.ref (@OfNat.ofNat Nat (nat_lit 49) (instOfNatNat (nat_lit 49))) } (@List.cons PySem.DictEntry { hash := PySem.PyData.keyHash P (PySem.Str.ofString "__doc__"), key := PySem.Value.str (PySem.Str.ofString "__doc__") (@OfNat.ofNat Nat (nat_lit 233) (instOfNatNat (nat_lit 233))), val := PySem.Value.none } (@List.nil PySem.DictEntry))))))))) (@OfNat.ofNat Nat (nat_lit 4) (instOfNatNat (nat_lit 4))), slots := @List.toArray (Option PySem.Value) (@List.nil (Option PySem.Value)) } : PySem.Obj)) ::
(nat_lit 48, ({ cls := PySem.Value.type "type", dict := @Option.none Nat, data := PySem.Data.cls { name := PySem.Str.ofString "ShapeError", bases := @List.cons PySem.Value (PySem.Value.type "Exception") (@List.nil PySem.Value), mro := @List.cons PySem.Value (PySem.Value.ref (@OfNat.ofNat Nat (nat_lit 48) (instOfNatNat (nat_lit 48)))) (@List.cons PySem.Value (PySem.Value.type "Exception") (@List.cons PySem.Value (PySem.Value.type "BaseException") (@List.cons PySem.Value (PySem.Value.type "object") (@List.nil PySem.Value)))), ns := @OfNat.ofNat Nat (nat_lit 47) (instOfNatNat (nat_lit 47)), qualname := PySem.Str.ofString "ShapeError", hasDict := Bool.true, slotNames := @List.nil PySem.Str, subclasses := @List.cons PySem.Value (PySem.Value.ref (@OfNat.ofNat Nat (nat_lit 61) (instOfNatNat (nat_lit 61)))) (@List.nil PySem.Value), abstract := Bool.false, collection := @Option.none Bool, hasDel := Bool.false }, slots := @List.toArray (Option PySem.Value) (@List.cons (Option PySem.Value) (@Option.some PySem.Value (PySem.Value.ref (@OfNat.ofNat Nat (nat_lit 22) (instOfNatNat (nat_lit 22))))) (@List.cons (Option PySem.Value) (@Option.none PySem.Value) (@List.cons (Option PySem.Value) (@Option.some PySem.Value (PySem.Value.str (PySem.Str.ofString "ShapeError") (@OfNat.ofNat Nat (nat_lit 196) (instOfNatNat (nat_lit 196))))) (@List.cons (Option PySem.Value) (@Option.some PySem.Value (PySem.Value.str (PySem.Str.ofString "ShapeError") (@OfNat.ofNat Nat (nat_lit 204) (instOfNatNat (nat_lit 204))))) (@List.cons (Option PySem.Value) (@Option.some PySem.Value (PySem.Value.builtin "Exception.__new__")) (@List.cons (Option PySem.Value) (@Option.some PySem.Value (PySem.Value.bool Bool.true)) (@List.nil (Option PySem.Value)))))))) } : PySem.Obj)) ::
(nat_lit 60, ({ cls := PySem.Value.type "dict", dict := @Option.none Nat, data := PySem.Data.dict (@List.toArray PySem.DictEntry (@List.cons PySem.DictEntry { hash := PySem.PyData.keyHash P (PySem.Str.ofString "__module__"), key := PySem.Value.str (PySem.Str.ofString "__module__") (@OfNat.ofNat Nat (nat_lit 245) (instOfNatNat (nat_lit 245))), val := PySem.Value.str (PySem.Str.ofString "joinedhand.errors") (@OfNat.ofNat Nat (nat_lit 194) (instOfNatNat (nat_lit 194))) } (@List.cons PySem.DictEntry { hash := PySem.PyData.keyHash P (PySem.Str.ofString "__firstlineno__"), key := PySem.Value.str (PySem.Str.ofString "__firstlineno__") (@OfNat.ofNat Nat (nat_lit 249) (instOfNatNat (nat_lit 249))), val := PySem.Value.int (@OfNat.ofNat Int (nat_lit 14) (@instOfNat (nat_lit 14))) (@OfNat.ofNat Nat (nat_lit 248) (instOfNatNat (nat_lit 248))) } (@List.cons PySem.DictEntry { hash := PySem.PyData.keyHash P (PySem.Str.ofString "__static_attributes__"), key := PySem.Value.str (PySem.Str.ofString "__static_attributes__") (@OfNat.ofNat Nat (nat_lit 250) (instOfNatNat (nat_lit 250))), val := PySem.Value.ref (@OfNat.ofNat Nat (nat_lit 59) (instOfNatNat (nat_lit 59))) } (@List.cons PySem.DictEntry { hash := PySem.PyData.keyHash P (PySem.Str.ofString "__doc__"), key := PySem.Value.str (PySem.Str.ofString "__doc__") (@OfNat.ofNat Nat (nat_lit 251) (instOfNatNat (nat_lit 251))), val := PySem.Value.none } (@List.nil PySem.DictEntry)))))) (@OfNat.ofNat Nat (nat_lit 2) (instOfNatNat (nat_lit 2))), slots := @List.toArray (Option PySem.Value) (@List.nil (Option PySem.Value)) } : PySem.Obj)) ::
(nat_lit 61, ({ cls := PySem.Value.type "type", dict := @Option.none Nat, data := PySem.Data.cls { name := PySem.Str.ofString "TableFault", bases := @List.cons PySem.Value (PySem.Value.ref (@OfNat.ofNat Nat (nat_lit 48) (instOfNatNat (nat_lit 48)))) (@List.nil PySem.Value), mro := @List.cons PySem.Value (PySem.Value.ref (@OfNat.ofNat Nat (nat_lit 61) (instOfNatNat (nat_lit 61)))) (@List.cons PySem.Value (PySem.Value.ref (@OfNat.ofNat Nat (nat_lit 48) (instOfNatNat (nat_lit 48)))) (@List.cons PySem.Value (PySem.Value.type "Exception") (@List.cons PySem.Value (PySem.Value.type "BaseException") (@List.cons PySem.Value (PySem.Value.type "object") (@List.nil PySem.Value))))), ns := @OfNat.ofNat Nat (nat_lit 60) (instOfNatNat (nat_lit 60)), qualname := PySem.Str.ofString "TableFault", hasDict := Bool.true, slotNames := @List.nil PySem.Str, subclasses := @List.nil PySem.Value, abstract := Bool.false, collection := @Option.none Bool, hasDel := Bool.false }, slots := @List.toArray (Option PySem.Value) (@List.cons (Option PySem.Value) (@Option.some PySem.Value (PySem.Value.ref (@OfNat.ofNat Nat (nat_lit 52) (instOfNatNat (nat_lit 52))))) (@List.cons (Option PySem.Value) (@Option.none PySem.Value) (@List.cons (Option PySem.Value) (@Option.some PySem.Value (PySem.Value.str (PySem.Str.ofString "TableFault") (@OfNat.ofNat Nat (nat_lit 238) (instOfNatNat (nat_lit 238))))) (@List.cons (Option PySem.Value) (@Option.some PySem.Value (PySem.Value.str (PySem.Str.ofString "TableFault") (@OfNat.ofNat Nat (nat_lit 246) (instOfNatNat (nat_lit 246))))) (@List.cons (Option PySem.Value) (@Option.some PySem.Value (PySem.Value.builtin "Exception.__new__")) (@List.cons (Option PySem.Value) (@Option.some PySem.Value (PySem.Value.bool Bool.true)) (@List.nil (Option PySem.Value)))))))) } : PySem.Obj)) ::
(nat_lit 69, ({ cls := PySem.Value.type "code", dict := @Option.none Nat, data := PySem.Data.fields (@List.toArray PySem.Value (@List.cons PySem.Value (PySem.Value.str (PySem.Str.ofString "check_room") (@OfNat.ofNat Nat (nat_lit 256) (instOfNatNat (nat_lit 256)))) (@List.cons PySem.Value (PySem.Value.str (PySem.Str.ofString "check_room") (@OfNat.ofNat Nat (nat_lit 257) (instOfNatNat (nat_lit 257)))) (@List.cons PySem.Value (PySem.Value.str (PySem.Str.ofString "/claim/cut.py") (@OfNat.ofNat Nat (nat_lit 258) (instOfNatNat (nat_lit 258)))) (@List.cons PySem.Value (PySem.Value.int (@OfNat.ofNat Int (nat_lit 17) (@instOfNat (nat_lit 17))) (@OfNat.ofNat Nat (nat_lit 0) (instOfNatNat (nat_lit 0)))) (@List.cons PySem.Value (PySem.Value.int (@OfNat.ofNat Int (nat_lit 3) (@instOfNat (nat_lit 3))) (@OfNat.ofNat Nat (nat_lit 0) (instOfNatNat (nat_lit 0)))) (@List.cons PySem.Value (PySem.Value.int (@OfNat.ofNat Int (nat_lit 0) (@instOfNat (nat_lit 0))) (@OfNat.ofNat Nat (nat_lit 0) (instOfNatNat (nat_lit 0)))) (@List.cons PySem.Value (PySem.Value.int (@OfNat.ofNat Int (nat_lit 0) (@instOfNat (nat_lit 0))) (@OfNat.ofNat Nat (nat_lit 0) (instOfNatNat (nat_lit 0)))) (@List.cons PySem.Value (PySem.Value.int (@OfNat.ofNat Int (nat_lit 3) (@instOfNat (nat_lit 3))) (@OfNat.ofNat Nat (nat_lit 0) (instOfNatNat (nat_lit 0)))) (@List.cons PySem.Value (PySem.Value.ref (@OfNat.ofNat Nat (nat_lit 64) (instOfNatNat (nat_lit 64)))) (@List.cons PySem.Value (PySem.Value.bool Bool.true) (@List.cons PySem.Value (PySem.Value.int (@OfNat.ofNat Int (nat_lit 181) (@instOfNat (nat_lit 181))) (@OfNat.ofNat Nat (nat_lit 0) (instOfNatNat (nat_lit 0)))) (@List.cons PySem.Value (PySem.Value.ref (@OfNat.ofNat Nat (nat_lit 65) (instOfNatNat (nat_lit 65)))) (@List.cons PySem.Value PySem.Value.none (@List.cons PySem.Value (PySem.Value.ref (@OfNat.ofNat Nat (nat_lit 66) (instOfNatNat (nat_lit 66)))) (@List.cons PySem.Value (PySem.Value.ref (@OfNat.ofNat Nat (nat_lit 67) (instOfNatNat (nat_lit 67)))) (@List.cons PySem.Value (PySem.Value.ref (@OfNat.ofNat Nat (nat_lit 68) (instOfNatNat (nat_lit 68)))) (@List.cons PySem.Value (PySem.Value.int (@OfNat.ofNat Int (nat_lit 262) (@instOfNat (nat_lit 262))) (@OfNat.ofNat Nat (nat_lit 0) (instOfNatNat (nat_lit 0)))) (@List.cons PySem.Value (PySem.Value.int (@OfNat.ofNat Int (nat_lit 17) (@instOfNat (nat_lit 17))) (@OfNat.ofNat Nat (nat_lit 0) (instOfNatNat (nat_lit 0)))) (@List.cons PySem.Value (PySem.Value.str (PySem.Str.ofString "/claim/cut.py") (@OfNat.ofNat Nat (nat_lit 263) (instOfNatNat (nat_lit 263)))) (@List.nil PySem.Value))))))))))))))))))))), slots := @List.toArray (Option PySem.Value) (@List.nil (Option PySem.Value)) } : PySem.Obj)) ::
(nat_lit 70, ({ cls := PySem.Value.type "function", dict := @Option.none Nat, data := PySem.Data.func { name := PySem.Str.ofString "check_room", qualname := PySem.Str.ofString "check_room", params := a70, body := PySem.FuncBody.stmts b70, scope := s70, globals := @OfNat.ofNat Nat (nat_lit 3) (instOfNatNat (nat_lit 3)), closure := @List.nil (Prod PySem.Str Nat), defaults := PySem.Value.none, kwdefaults := PySem.Value.none, doc := PySem.Value.none, pyModule := PySem.Value.str (PySem.Str.ofString "joinedhand.octets") (@OfNat.ofNat Nat (nat_lit 254) (instOfNatNat (nat_lit 254))), annotations := @Option.none Nat, code := PySem.Value.ref (@OfNat.ofNat Nat (nat_lit 69) (instOfNatNat (nat_lit 69))), closureTuple := PySem.Value.none, builtins := @OfNat.ofNat Nat (nat_lit 0) (instOfNatNat (nat_lit 0)) }, slots := @List.toArray (Option PySem.Value) (@List.nil (Option PySem.Value)) } : PySem.Obj)) ::
(nat_lit 76, ({ cls := PySem.Value.type "code", dict := @Option.none Nat, data := PySem.Data.fields (@List.toArray PySem.Value (@List.cons PySem.Value (PySem.Value.str (PySem.Str.ofString "number_at") (@OfNat.ofNat Nat (nat_lit 265) (instOfNatNat (nat_lit 265)))) (@List.cons PySem.Value (PySem.Value.str (PySem.Str.ofString "number_at") (@OfNat.ofNat Nat (nat_lit 266) (instOfNatNat (nat_lit 266)))) (@List.cons PySem.Value (PySem.Value.str (PySem.Str.ofString "/claim/cut.py") (@OfNat.ofNat Nat (nat_lit 267) (instOfNatNat (nat_lit 267)))) (@List.cons PySem.Value (PySem.Value.int (@OfNat.ofNat Int (nat_lit 20) (@instOfNat (nat_lit 20))) (@OfNat.ofNat Nat (nat_lit 0) (instOfNatNat (nat_lit 0)))) (@List.cons PySem.Value (PySem.Value.int (@OfNat.ofNat Int (nat_lit 3) (@instOfNat (nat_lit 3))) (@OfNat.ofNat Nat (nat_lit 0) (instOfNatNat (nat_lit 0)))) (@List.cons PySem.Value (PySem.Value.int (@OfNat.ofNat Int (nat_lit 0) (@instOfNat (nat_lit 0))) (@OfNat.ofNat Nat (nat_lit 0) (instOfNatNat (nat_lit 0)))) (@List.cons PySem.Value (PySem.Value.int (@OfNat.ofNat Int (nat_lit 0) (@instOfNat (nat_lit 0))) (@OfNat.ofNat Nat (nat_lit 0) (instOfNatNat (nat_lit 0)))) (@List.cons PySem.Value (PySem.Value.int (@OfNat.ofNat Int (nat_lit 3) (@instOfNat (nat_lit 3))) (@OfNat.ofNat Nat (nat_lit 0) (instOfNatNat (nat_lit 0)))) (@List.cons PySem.Value (PySem.Value.ref (@OfNat.ofNat Nat (nat_lit 71) (instOfNatNat (nat_lit 71)))) (@List.cons PySem.Value (PySem.Value.bool Bool.true) (@List.cons PySem.Value (PySem.Value.int (@OfNat.ofNat Int (nat_lit 181) (@instOfNat (nat_lit 181))) (@OfNat.ofNat Nat (nat_lit 0) (instOfNatNat (nat_lit 0)))) (@List.cons PySem.Value (PySem.Value.ref (@OfNat.ofNat Nat (nat_lit 72) (instOfNatNat (nat_lit 72)))) (@List.cons PySem.Value PySem.Value.none (@List.cons PySem.Value (PySem.Value.ref (@OfNat.ofNat Nat (nat_lit 73) (instOfNatNat (nat_lit 73)))) (@List.cons PySem.Value (PySem.Value.ref (@OfNat.ofNat Nat (nat_lit 74) (instOfNatNat (nat_lit 74)))) (@List.cons PySem.Value (PySem.Value.ref (@OfNat.ofNat Nat (nat_lit 75) (instOfNatNat (nat_lit 75)))) (@List.cons PySem.Value (PySem.Value.int (@OfNat.ofNat Int (nat_lit 273) (@instOfNat (nat_lit 273))) (@OfNat.ofNat Nat (nat_lit 0) (instOfNatNat (nat_lit 0)))) (@List.cons PySem.Value (PySem.Value.int (@OfNat.ofNat Int (nat_lit 20) (@instOfNat (nat_lit 20))) (@OfNat.ofNat Nat (nat_lit 0) (instOfNatNat (nat_lit 0)))) (@List.cons PySem.Value (PySem.Value.str (PySem.Str.ofString "/claim/cut.py") (@OfNat.ofNat Nat (nat_lit 274) (instOfNatNat (nat_lit 274)))) (@List.nil PySem.Value))))))))))))))))))))), slots := @List.toArray (Option PySem.Value) (@List.nil (Option PySem.Value)) } : PySem.Obj)) ::
(nat_lit 77, ({ cls := PySem.Value.type "function", dict := @Option.none Nat, data := PySem.Data.func { name := PySem.Str.ofString "number_at", qualname := PySem.Str.ofString "number_at", params := a77, body := PySem.FuncBody.stmts b77, scope := s77, globals := @OfNat.ofNat Nat (nat_lit 3) (instOfNatNat (nat_lit 3)), closure := @List.nil (Prod PySem.Str Nat), defaults := PySem.Value.none, kwdefaults := PySem.Value.none, doc := PySem.Value.none, pyModule := PySem.Value.str (PySem.Str.ofString "joinedhand.octets") (@OfNat.ofNat Nat (nat_lit 254) (instOfNatNat (nat_lit 254))), annotations := @Option.none Nat, code := PySem.Value.ref (@OfNat.ofNat Nat (nat_lit 76) (instOfNatNat (nat_lit 76))), closureTuple := PySem.Value.none, builtins := @OfNat.ofNat Nat (nat_lit 0) (instOfNatNat (nat_lit 0)) }, slots := @List.toArray (Option PySem.Value) (@List.nil (Option PySem.Value)) } : PySem.Obj)) ::
(nat_lit 85, ({ cls := PySem.Value.type "tuple", dict := @Option.none Nat, data := PySem.Data.seq (@List.toArray PySem.Value (@List.cons PySem.Value (PySem.Value.int (@OfNat.ofNat Int (nat_lit 0) (@instOfNat (nat_lit 0))) (@OfNat.ofNat Nat (nat_lit 288) (instOfNatNat (nat_lit 288)))) (@List.nil PySem.Value))) (@OfNat.ofNat Nat (nat_lit 0) (instOfNatNat (nat_lit 0))), slots := @List.toArray (Option PySem.Value) (@List.nil (Option PySem.Value)) } : PySem.Obj)) ::
(nat_lit 91, ({ cls := PySem.Value.type "code", dict := @Option.none Nat, data := PySem.Data.fields (@List.toArray PySem.Value (@List.cons PySem.Value (PySem.Value.str (PySem.Str.ofString "__init__") (@OfNat.ofNat Nat (nat_lit 289) (instOfNatNat (nat_lit 289)))) (@List.cons PySem.Value (PySem.Value.str (PySem.Str.ofString "OctetsIn.__init__") (@OfNat.ofNat Nat (nat_lit 290) (instOfNatNat (nat_lit 290)))) (@List.cons PySem.Value (PySem.Value.str (PySem.Str.ofString "/claim/cut.py") (@OfNat.ofNat Nat (nat_lit 291) (instOfNatNat (nat_lit 291)))) (@List.cons PySem.Value (PySem.Value.int (@OfNat.ofNat Int (nat_lit 28) (@instOfNat (nat_lit 28))) (@OfNat.ofNat Nat (nat_lit 0) (instOfNatNat (nat_lit 0)))) (@List.cons PySem.Value (PySem.Value.int (@OfNat.ofNat Int (nat_lit 3) (@instOfNat (nat_lit 3))) (@OfNat.ofNat Nat (nat_lit 0) (instOfNatNat (nat_lit 0)))) (@List.cons PySem.Value (PySem.Value.int (@OfNat.ofNat Int (nat_lit 0) (@instOfNat (nat_lit 0))) (@OfNat.ofNat Nat (nat_lit 0) (instOfNatNat (nat_lit 0)))) (@List.cons PySem.Value (PySem.Value.int (@OfNat.ofNat Int (nat_lit 0) (@instOfNat (nat_lit 0))) (@OfNat.ofNat Nat (nat_lit 0) (instOfNatNat (nat_lit 0)))) (@List.cons PySem.Value (PySem.Value.int (@OfNat.ofNat Int (nat_lit 3) (@instOfNat (nat_lit 3))) (@OfNat.ofNat Nat (nat_lit 0) (instOfNatNat (nat_lit 0)))) (@List.cons PySem.Value (PySem.Value.ref (@OfNat.ofNat Nat (nat_lit 86) (instOfNatNat (nat_lit 86)))) (@List.cons PySem.Value (PySem.Value.bool Bool.true) (@List.cons PySem.Value (PySem.Value.int (@OfNat.ofNat Int (nat_lit 181) (@instOfNat (nat_lit 181))) (@OfNat.ofNat Nat (nat_lit 0) (instOfNatNat (nat_lit 0)))) (@List.cons PySem.Value (PySem.Value.ref (@OfNat.ofNat Nat (nat_lit 87) (instOfNatNat (nat_lit 87)))) (@List.cons PySem.Value PySem.Value.none (@List.cons PySem.Value (PySem.Value.ref (@OfNat.ofNat Nat (nat_lit 88) (instOfNatNat (nat_lit 88)))) (@List.cons PySem.Value (PySem.Value.ref (@OfNat.ofNat Nat (nat_lit 89) (instOfNatNat (nat_lit 89)))) (@List.cons PySem.Value (PySem.Value.ref (@OfNat.ofNat Nat (nat_lit 90) (instOfNatNat (nat_lit 90)))) (@List.cons PySem.Value (PySem.Value.int (@OfNat.ofNat Int (nat_lit 295) (@instOfNat (nat_lit 295))) (@OfNat.ofNat Nat (nat_lit 0) (instOfNatNat (nat_lit 0)))) (@List.cons PySem.Value (PySem.Value.int (@OfNat.ofNat Int (nat_lit 28) (@instOfNat (nat_lit 28))) (@OfNat.ofNat Nat (nat_lit 0) (instOfNatNat (nat_lit 0)))) (@List.cons PySem.Value (PySem.Value.str (PySem.Str.ofString "/claim/cut.py") (@OfNat.ofNat Nat (nat_lit 296) (instOfNatNat (nat_lit 296)))) (@List.nil PySem.Value))))))))))))))))))))), slots := @List.toArray (Option PySem.Value) (@List.nil (Option PySem.Value)) } : PySem.Obj)) ::
(nat_lit 92, ({ cls := PySem.Value.type "function", dict := @Option.none Nat, data := PySem.Data.func { name := PySem.Str.ofString "__init__", qualname := PySem.Str.ofString "OctetsIn.__init__", params := a92, body := PySem.FuncBody.stmts b92, scope := s92, globals := @OfNat.ofNat Nat (nat_lit 3) (instOfNatNat (nat_lit 3)), closure := @List.nil (Prod PySem.Str Nat), defaults := PySem.Value.ref (@OfNat.ofNat Nat (nat_lit 85) (instOfNatNat (nat_lit 85))), kwdefaults := PySem.Value.none, doc := PySem.Value.none, pyModule := PySem.Value.str (PySem.Str.ofString "joinedhand.octets") (@OfNat.ofNat Nat (nat_lit 254) (instOfNatNat (nat_lit 254))), annotations := @Option.none Nat, code := PySem.Value.ref (@OfNat.ofNat Nat (nat_lit 91) (instOfNatNat (nat_lit 91))), closureTuple := PySem.Value.none, builtins := @OfNat.ofNat Nat (nat_lit 0) (instOfNatNat (nat_lit 0)) }, slots := @List.toArray (Option PySem.Value) (@List.nil (Option PySem.Value)) } : PySem.Obj)) ::
(nat_lit 105, ({ cls := PySem.Value.type "code", dict := @Option.none Nat, data := PySem.Data.fields (@List.toArray PySem.Value (@List.cons PySem.Value (PySem.Value.str (PySem.Str.ofString "number") (@OfNat.ofNat Nat (nat_lit 306) (instOfNatNat (nat_lit 306)))) (@List.cons PySem.Value (PySem.Value.str (PySem.Str.ofString "OctetsIn.number") (@OfNat.ofNat Nat (nat_lit 307) (instOfNatNat (nat_lit 307)))) (@List.cons PySem.Value (PySem.Value.str (PySem.Str.ofString "/claim/cut.py") (@OfNat.ofNat Nat (nat_lit 308) (instOfNatNat (nat_lit 308)))) (@List.cons PySem.Value (PySem.Value.int (@OfNat.ofNat Int (nat_lit 35) (@instOfNat (nat_lit 35))) (@OfNat.ofNat Nat (nat_lit 0) (instOfNatNat (nat_lit 0)))) (@List.cons PySem.Value (PySem.Value.int (@OfNat.ofNat Int (nat_lit 2) (@instOfNat (nat_lit 2))) (@OfNat.ofNat Nat (nat_lit 0) (instOfNatNat (nat_lit 0)))) (@List.cons PySem.Value (PySem.Value.int (@OfNat.ofNat Int (nat_lit 0) (@instOfNat (nat_lit 0))) (@OfNat.ofNat Nat (nat_lit 0) (instOfNatNat (nat_lit 0)))) (@List.cons PySem.Value (PySem.Value.int (@OfNat.ofNat Int (nat_lit 0) (@instOfNat (nat_lit 0))) (@OfNat.ofNat Nat (nat_lit 0) (instOfNatNat (nat_lit 0)))) (@List.cons PySem.Value (PySem.Value.int (@OfNat.ofNat Int (nat_lit 3) (@instOfNat (nat_lit 3))) (@OfNat.ofNat Nat (nat_lit 0) (instOfNatNat (nat_lit 0)))) (@List.cons PySem.Value (PySem.Value.ref (@OfNat.ofNat Nat (nat_lit 100) (instOfNatNat (nat_lit 100)))) (@List.cons PySem.Value (PySem.Value.bool Bool.true) (@List.cons PySem.Value (PySem.Value.int (@OfNat.ofNat Int (nat_lit 181) (@instOfNat (nat_lit 181))) (@OfNat.ofNat Nat (nat_lit 0) (instOfNatNat (nat_lit 0)))) (@List.cons PySem.Value (PySem.Value.ref (@OfNat.ofNat Nat (nat_lit 101) (instOfNatNat (nat_lit 101)))) (@List.cons PySem.Value PySem.Value.none (@List.cons PySem.Value (PySem.Value.ref (@OfNat.ofNat Nat (nat_lit 102) (instOfNatNat (nat_lit 102)))) (@List.cons PySem.Value (PySem.Value.ref (@OfNat.ofNat Nat (nat_lit 103) (instOfNatNat (nat_lit 103)))) (@List.cons PySem.Value (PySem.Value.ref (@OfNat.ofNat Nat (nat_lit 104) (instOfNatNat (nat_lit 104)))) (@List.cons PySem.Value (PySem.Value.int (@OfNat.ofNat Int (nat_lit 312) (@instOfNat (nat_lit 312))) (@OfNat.ofNat Nat (nat_lit 0) (instOfNatNat (nat_lit 0)))) (@List.cons PySem.Value (PySem.Value.int (@OfNat.ofNat Int (nat_lit 35) (@instOfNat (nat_lit 35))) (@OfNat.ofNat Nat (nat_lit 0) (instOfNatNat (nat_lit 0)))) (@List.cons PySem.Value (PySem.Value.str (PySem.Str.ofString "/claim/cut.py") (@OfNat.ofNat Nat (nat_lit 313) (instOfNatNat (nat_lit 313)))) (@List.nil PySem.Value))))))))))))))))))))), slots := @List.toArray (Option PySem.Value) (@List.nil (Option PySem.Value)) } : PySem.Obj)) ::
(nat_lit 106, ({ cls := PySem.Value.type "function", dict := @Option.none Nat, data := PySem.Data.func { name := PySem.Str.ofString "number", qualname := PySem.Str.ofString "OctetsIn.number", params := a106, body := PySem.FuncBody.stmts b106, scope := s106, globals := @OfNat.ofNat Nat (nat_lit 3) (instOfNatNat (nat_lit 3)), closure := @List.nil (Prod PySem.Str Nat), defaults := PySem.Value.none, kwdefaults := PySem.Value.none, doc := PySem.Value.none, pyModule := PySem.Value.str (PySem.Str.ofString "joinedhand.octets") (@OfNat.ofNat Nat (nat_lit 254) (instOfNatNat (nat_lit 254))), annotations := @Option.none Nat, code := PySem.Value.ref (@OfNat.ofNat Nat (nat_lit 105) (instOfNatNat (nat_lit 105))), closureTuple := PySem.Value.none, builtins := @OfNat.ofNat Nat (nat_lit 0) (instOfNatNat (nat_lit 0)) }, slots := @List.toArray (Option PySem.Value) (@List.nil (Option PySem.Value)) } : PySem.Obj)) ::
(nat_lit 119, ({ cls := PySem.Value.type "code", dict := @Option.none Nat, data := PySem.Data.fields (@List.toArray PySem.Value (@List.cons PySem.Value (PySem.Value.str (PySem.Str.ofString "u16") (@OfNat.ofNat Nat (nat_lit 322) (instOfNatNat (nat_lit 322)))) (@List.cons PySem.Value (PySem.Value.str (PySem.Str.ofString "OctetsIn.u16") (@OfNat.ofNat Nat (nat_lit 323) (instOfNatNat (nat_lit 323)))) (@List.cons PySem.Value (PySem.Value.str (PySem.Str.ofString "/claim/cut.py") (@OfNat.ofNat Nat (nat_lit 324) (instOfNatNat (nat_lit 324)))) (@List.cons PySem.Value (PySem.Value.int (@OfNat.ofNat Int (nat_lit 43) (@instOfNat (nat_lit 43))) (@OfNat.ofNat Nat (nat_lit 0) (instOfNatNat (nat_lit 0)))) (@List.cons PySem.Value (PySem.Value.int (@OfNat.ofNat Int (nat_lit 1) (@instOfNat (nat_lit 1))) (@OfNat.ofNat Nat (nat_lit 0) (instOfNatNat (nat_lit 0)))) (@List.cons PySem.Value (PySem.Value.int (@OfNat.ofNat Int (nat_lit 0) (@instOfNat (nat_lit 0))) (@OfNat.ofNat Nat (nat_lit 0) (instOfNatNat (nat_lit 0)))) (@List.cons PySem.Value (PySem.Value.int (@OfNat.ofNat Int (nat_lit 0) (@instOfNat (nat_lit 0))) (@OfNat.ofNat Nat (nat_lit 0) (instOfNatNat (nat_lit 0)))) (@List.cons PySem.Value (PySem.Value.int (@OfNat.ofNat Int (nat_lit 3) (@instOfNat (nat_lit 3))) (@OfNat.ofNat Nat (nat_lit 0) (instOfNatNat (nat_lit 0)))) (@List.cons PySem.Value (PySem.Value.ref (@OfNat.ofNat Nat (nat_lit 114) (instOfNatNat (nat_lit 114)))) (@List.cons PySem.Value (PySem.Value.bool Bool.true) (@List.cons PySem.Value (PySem.Value.int (@OfNat.ofNat Int (nat_lit 181) (@instOfNat (nat_lit 181))) (@OfNat.ofNat Nat (nat_lit 0) (instOfNatNat (nat_lit 0)))) (@List.cons PySem.Value (PySem.Value.ref (@OfNat.ofNat Nat (nat_lit 115) (instOfNatNat (nat_lit 115)))) (@List.cons PySem.Value PySem.Value.none (@List.cons PySem.Value (PySem.Value.ref (@OfNat.ofNat Nat (nat_lit 116) (instOfNatNat (nat_lit 116)))) (@List.cons PySem.Value (PySem.Value.ref (@OfNat.ofNat Nat (nat_lit 117) (instOfNatNat (nat_lit 117)))) (@List.cons PySem.Value (PySem.Value.ref (@OfNat.ofNat Nat (nat_lit 118) (instOfNatNat (nat_lit 118)))) (@List.cons PySem.Value (PySem.Value.int (@OfNat.ofNat Int (nat_lit 326) (@instOfNat (nat_lit 326))) (@OfNat.ofNat Nat (nat_lit 0) (instOfNatNat (nat_lit 0)))) (@List.cons PySem.Value (PySem.Value.int (@OfNat.ofNat Int (nat_lit 43) (@instOfNat (nat_lit 43))) (@OfNat.ofNat Nat (nat_lit 0) (instOfNatNat (nat_lit 0)))) (@List.cons PySem.Value (PySem.Value.str (PySem.Str.ofString "/claim/cut.py") (@OfNat.ofNat Nat (nat_lit 327) (instOfNatNat (nat_lit 327)))) (@List.nil PySem.Value))))))))))))))))))))), slots := @List.toArray (Option PySem.Value) (@List.nil (Option PySem.Value)) } : PySem.Obj)) ::
(nat_lit 120, ({ cls := PySem.Value.type "function", dict := @Option.none Nat, data := PySem.Data.func { name := PySem.Str.ofString "u16", qualname := PySem.Str.ofString "OctetsIn.u16", params := a120, body := PySem.FuncBody.stmts b120, scope := s120, globals := @OfNat.ofNat Nat (nat_lit 3) (instOfNatNat (nat_lit 3)), closure := @List.nil (Prod PySem.Str Nat), defaults := PySem.Value.none, kwdefaults := PySem.Value.none, doc := PySem.Value.none, pyModule := PySem.Value.str (PySem.Str.ofString "joinedhand.octets") (@OfNat.ofNat Nat (nat_lit 254) (instOfNatNat (nat_lit 254))), annotations := @Option.none Nat, code := PySem.Value.ref (@OfNat.ofNat Nat (nat_lit 119) (instOfNatNat (nat_lit 119))), closureTuple := PySem.Value.none, builtins := @OfNat.ofNat Nat (nat_lit 0) (instOfNatNat (nat_lit 0)) }, slots := @List.toArray (Option PySem.Value) (@List.nil (Option PySem.Value)) } : PySem.Obj)) ::
(nat_lit 140, ({ cls := PySem.Value.type "code", dict := @Option.none Nat, data := PySem.Data.fields (@List.toArray PySem.Value (@List.cons PySem.Value (PySem.Value.str (PySem.Str.ofString "u32") (@OfNat.ofNat Nat (nat_lit 343) (instOfNatNat (nat_lit 343)))) (@List.cons PySem.Value (PySem.Value.str (PySem.Str.ofString "OctetsIn.u32") (@OfNat.ofNat Nat (nat_lit 344) (instOfNatNat (nat_lit 344)))) (@List.cons PySem.Value (PySem.Value.str (PySem.Str.ofString "/claim/cut.py") (@OfNat.ofNat Nat (nat_lit 345) (instOfNatNat (nat_lit 345)))) (@List.cons PySem.Value (PySem.Value.int (@OfNat.ofNat Int (nat_lit 52) (@instOfNat (nat_lit 52))) (@OfNat.ofNat Nat (nat_lit 0) (instOfNatNat (nat_lit 0)))) (@List.cons PySem.Value (PySem.Value.int (@OfNat.ofNat Int (nat_lit 1) (@instOfNat (nat_lit 1))) (@OfNat.ofNat Nat (nat_lit 0) (instOfNatNat (nat_lit 0)))) (@List.cons PySem.Value (PySem.Value.int (@OfNat.ofNat Int (nat_lit 0) (@instOfNat (nat_lit 0))) (@OfNat.ofNat Nat (nat_lit 0) (instOfNatNat (nat_lit 0)))) (@List.cons PySem.Value (PySem.Value.int (@OfNat.ofNat Int (nat_lit 0) (@instOfNat (nat_lit 0))) (@OfNat.ofNat Nat (nat_lit 0) (instOfNatNat (nat_lit 0)))) (@List.cons PySem.Value (PySem.Value.int (@OfNat.ofNat Int (nat_lit 3) (@instOfNat (nat_lit 3))) (@OfNat.ofNat Nat (nat_lit 0) (instOfNatNat (nat_lit 0)))) (@List.cons PySem.Value (PySem.Value.ref (@OfNat.ofNat Nat (nat_lit 135) (instOfNatNat (nat_lit 135)))) (@List.cons PySem.Value (PySem.Value.bool Bool.true) (@List.cons PySem.Value (PySem.Value.int (@OfNat.ofNat Int (nat_lit 181) (@instOfNat (nat_lit 181))) (@OfNat.ofNat Nat (nat_lit 0) (instOfNatNat (nat_lit 0)))) (@List.cons PySem.Value (PySem.Value.ref (@OfNat.ofNat Nat (nat_lit 136) (instOfNatNat (nat_lit 136)))) (@List.cons PySem.Value PySem.Value.none (@List.cons PySem.Value (PySem.Value.ref (@OfNat.ofNat Nat (nat_lit 137) (instOfNatNat (nat_lit 137)))) (@List.cons PySem.Value (PySem.Value.ref (@OfNat.ofNat Nat (nat_lit 138) (instOfNatNat (nat_lit 138)))) (@List.cons PySem.Value (PySem.Value.ref (@OfNat.ofNat Nat (nat_lit 139) (instOfNatNat (nat_lit 139)))) (@List.cons PySem.Value (PySem.Value.int (@OfNat.ofNat Int (nat_lit 347) (@instOfNat (nat_lit 347))) (@OfNat.ofNat Nat (nat_lit 0) (instOfNatNat (nat_lit 0)))) (@List.cons PySem.Value (PySem.Value.int (@OfNat.ofNat Int (nat_lit 52) (@instOfNat (nat_lit 52))) (@OfNat.ofNat Nat (nat_lit 0) (instOfNatNat (nat_lit 0)))) (@List.cons PySem.Value (PySem.Value.str (PySem.Str.ofString "/claim/cut.py") (@OfNat.ofNat Nat (nat_lit 348) (instOfNatNat (nat_lit 348)))) (@List.nil PySem.Value))))))))))))))))))))), slots := @List.toArray (Option PySem.Value) (@List.nil (Option PySem.Value)) } : PySem.Obj)) ::
(nat_lit 141, ({ cls := PySem.Value.type "function", dict := @Option.none Nat, data := PySem.Data.func { name := PySem.Str.ofString "u32", qualname := PySem.Str.ofString "OctetsIn.u32", params := a141, body := PySem.FuncBody.stmts b141, scope := s141, globals := @OfNat.ofNat Nat (nat_lit 3) (instOfNatNat (nat_lit 3)), closure := @List.nil (Prod PySem.Str Nat), defaults := PySem.Value.none, kwdefaults := PySem.Value.none, doc := PySem.Value.none, pyModule := PySem.Value.str (PySem.Str.ofString "joinedhand.octets") (@OfNat.ofNat Nat (nat_lit 254) (instOfNatNat (nat_lit 254))), annotations := @Option.none Nat, code := PySem.Value.ref (@OfNat.ofNat Nat (nat_lit 140) (instOfNatNat (nat_lit 140))), closureTuple := PySem.Value.none, builtins := @OfNat.ofNat Nat (nat_lit 0) (instOfNatNat (nat_lit 0)) }, slots := @List.toArray (Option PySem.Value) (@List.nil (Option PySem.Value)) } : PySem.Obj)) ::
(nat_lit 164, ({ cls := PySem.Value.type "dict", dict := @Option.none Nat, data := PySem.Data.dict (@List.toArray PySem.DictEntry (@List.cons PySem.DictEntry { hash := PySem.PyData.keyHash P (PySem.Str.ofString "__module__"), key := PySem.Value.str (PySem.Str.ofString "__module__") (@OfNat.ofNat Nat (nat_lit 283) (instOfNatNat (nat_lit 283))), val := PySem.Value.str (PySem.Str.ofString "joinedhand.octets") (@OfNat.ofNat Nat (nat_lit 254) (instOfNatNat (nat_lit 254))) } (@List.cons PySem.DictEntry { hash := PySem.PyData.keyHash P (PySem.Str.ofString "__firstlineno__"), key := PySem.Value.str (PySem.Str.ofString "__firstlineno__") (@OfNat.ofNat Nat (nat_lit 287) (instOfNatNat (nat_lit 287))), val := PySem.Value.int (@OfNat.ofNat Int (nat_lit 26) (@instOfNat (nat_lit 26))) (@OfNat.ofNat Nat (nat_lit 286) (instOfNatNat (nat_lit 286))) } (@List.cons PySem.DictEntry { hash := PySem.PyData.keyHash P (PySem.Str.ofString "__init__"), key := PySem.Value.str (PySem.Str.ofString "__init__") (@OfNat.ofNat Nat (nat_lit 297) (instOfNatNat (nat_lit 297))), val := PySem.Value.ref (@OfNat.ofNat Nat (nat_lit 92) (instOfNatNat (nat_lit 92))) } (@List.cons PySem.DictEntry { hash := PySem.PyData.keyHash P (PySem.Str.ofString "need"), key := PySem.Value.str (PySem.Str.ofString "need") (@OfNat.ofNat Nat (nat_lit 305) (instOfNatNat (nat_lit 305))), val := PySem.Value.ref (@OfNat.ofNat Nat (nat_lit 99) (instOfNatNat (nat_lit 99))) } (@List.cons PySem.DictEntry { hash := PySem.PyData.keyHash P (PySem.Str.ofString "number"), key := PySem.Value.str (PySem.Str.ofString "number") (@OfNat.ofNat Nat (nat_lit 314) (instOfNatNat (nat_lit 314))), val := PySem.Value.ref (@OfNat.ofNat Nat (nat_lit 106) (instOfNatNat (nat_lit 106))) } (@List.cons PySem.DictEntry { hash := PySem.PyData.keyHash P (PySem.Str.ofString "u8"), key := PySem.Value.str (PySem.Str.ofString "u8") (@OfNat.ofNat Nat (nat_lit 321) (instOfNatNat (nat_lit 321))), val := PySem.Value.ref (@OfNat.ofNat Nat (nat_lit 113) (instOfNatNat (nat_lit 113))) } (@List.cons PySem.DictEntry { hash := PySem.PyData.keyHash P (PySem.Str.ofString "u16"), key := PySem.Value.str (PySem.Str.ofString "u16") (@OfNat.ofNat Nat (nat_lit 328) (instOfNatNat (nat_lit 328))), val := PySem.Value.ref (@OfNat.ofNat Nat (nat_lit 120) (instOfNatNat (nat_lit 120))) } (@List.cons PySem.DictEntry { hash := PySem.PyData.keyHash P (PySem.Str.ofString "i16"), key := PySem.Value.str (PySem.Str.ofString "i16") (@OfNat.ofNat Nat (nat_lit 335) (instOfNatNat (nat_lit 335))), val := PySem.Value.ref (@OfNat.ofNat Nat (nat_lit 127) (instOfNatNat (nat_lit 127))) } (@List.cons PySem.DictEntry { hash := PySem.PyData.keyHash P (PySem.Str.ofString "u24"), key := PySem.Value.str (PySem.Str.ofString "u24") (@OfNat.ofNat Nat (nat_lit 342) (instOfNatNat (nat_lit 342))), val := PySem.Value.ref (@OfNat.ofNat Nat (nat_lit 134) (instOfNatNat (nat_lit 134))) } (@List.cons PySem.DictEntry { hash := PySem.PyData.keyHash P (PySem.Str.ofString "u32"), key := PySem.Value.str (PySem.Str.ofString "u32") (@OfNat.ofNat Nat (nat_lit 349) (instOfNatNat (nat_lit 349))), val := PySem.Value.ref (@OfNat.ofNat Nat (nat_lit 141) (instOfNatNat (nat_lit 141))) } (@List.cons PySem.DictEntry { hash := PySem.PyData.keyHash P (PySem.Str.ofString "tag"), key := PySem.Value.str (PySem.Str.ofString "tag") (@OfNat.ofNat Nat (nat_lit 356) (instOfNatNat (nat_lit 356))), val := PySem.Value.ref (@OfNat.ofNat Nat (nat_lit 148) (instOfNatNat (nat_lit 148))) } (@List.cons PySem.DictEntry { hash := PySem.PyData.keyHash P (PySem.Str.ofString "rows"), key := PySem.Value.str (PySem.Str.ofString "rows") (@OfNat.ofNat Nat (nat_lit 364) (instOfNatNat (nat_lit 364))), val := PySem.Value.ref (@OfNat.ofNat Nat (nat_lit 155) (instOfNatNat (nat_lit 155))) } (@List.cons PySem.DictEntry { hash := PySem.PyData.keyHash P (PySem.Str.ofString "here"), key := PySem.Value.str (PySem.Str.ofString "here") (@OfNat.ofNat Nat (nat_lit 372) (instOfNatNat (nat_lit 372))), val := PySem.Value.ref (@OfNat.ofNat Nat (nat_lit 162) (instOfNatNat (nat_lit 162))) } (@List.cons PySem.DictEntry { hash := PySem.PyData.keyHash P (PySem.Str.ofString "__static_attributes__"), key := PySem.Value.str (PySem.Str.ofString "__static_attributes__") (@OfNat.ofNat Nat (nat_lit 375) (instOfNatNat (nat_lit 375))), val := PySem.Value.ref (@OfNat.ofNat Nat (nat_lit 163) (instOfNatNat (nat_lit 163))) } (@List.cons PySem.DictEntry { hash := PySem.PyData.keyHash P (PySem.Str.ofString "__dict__"), key := PySem.Value.str (PySem.Str.ofString "__dict__") (@OfNat.ofNat Nat (nat_lit 377) (instOfNatNat (nat_lit 377))), val := PySem.Value.ref (@OfNat.ofNat Nat (nat_lit 166) (instOfNatNat (nat_lit 166))) } (@List.cons PySem.DictEntry { hash := PySem.PyData.keyHash P (PySem.Str.ofString "__weakref__"), key := PySem.Value.str (PySem.Str.ofString "__weakref__") (@OfNat.ofNat Nat (nat_lit 379) (instOfNatNat (nat_lit 379))), val := PySem.Value.ref (@OfNat.ofNat Nat (nat_lit 167) (instOfNatNat (nat_lit 167))) } (@List.cons PySem.DictEntry { hash := PySem.PyData.keyHash P (PySem.Str.ofString "__doc__"), key := PySem.Value.str (PySem.Str.ofString "__doc__") (@OfNat.ofNat Nat (nat_lit 380) (instOfNatNat (nat_lit 380))), val := PySem.Value.none } (@List.nil PySem.DictEntry))))))))))))))))))) (@OfNat.ofNat Nat (nat_lit 4) (instOfNatNat (nat_lit 4))), slots := @List.toArray (Option PySem.Value) (@List.nil (Option PySem.Value)) } : PySem.Obj)) ::
(nat_lit 165, ({ cls := PySem.Value.type "type", dict := @Option.none Nat, data := PySem.Data.cls { name := PySem.Str.ofString "OctetsIn", bases := @List.cons PySem.Value (PySem.Value.type "object") (@List.nil PySem.Value), mro := @List.cons PySem.Value (PySem.Value.ref (@OfNat.ofNat Nat (nat_lit 165) (instOfNatNat (nat_lit 165)))) (@List.cons PySem.Value (PySem.Value.type "object") (@List.nil PySem.Value)), ns := @OfNat.ofNat Nat (nat_lit 164) (instOfNatNat (nat_lit 164)), qualname := PySem.Str.ofString "OctetsIn", hasDict := Bool.true, slotNames := @List.nil PySem.Str, subclasses := @List.nil PySem.Value, abstract := Bool.false, collection := @Option.none Bool, hasDel := Bool.false }, slots := @List.toArray (Option PySem.Value) (@List.cons (Option PySem.Value) (@Option.none PySem.Value) (@List.cons (Option PySem.Value) (@Option.none PySem.Value) (@List.cons (Option PySem.Value) (@Option.some PySem.Value (PySem.Value.str (PySem.Str.ofString "OctetsIn") (@OfNat.ofNat Nat (nat_lit 276) (instOfNatNat (nat_lit 276))))) (@List.cons (Option PySem.Value) (@Option.some PySem.Value (PySem.Value.str (PySem.Str.ofString "OctetsIn") (@OfNat.ofNat Nat (nat_lit 284) (instOfNatNat (nat_lit 284))))) (@List.cons (Option PySem.Value) (@Option.some PySem.Value (PySem.Value.builtin "object.__new__")) (@List.cons (Option PySem.Value) (@Option.some PySem.Value (PySem.Value.bool Bool.true)) (@List.nil (Option PySem.Value)))))))) } : PySem.Obj)) ::
(nat_lit 182, ({ cls := PySem.Value.type "code", dict := @Option.none Nat, data := PySem.Data.fields (@List.toArray PySem.Value (@List.cons PySem.Value (PySem.Value.str (PySem.Str.ofString "__init__") (@OfNat.ofNat Nat (nat_lit 397) (instOfNatNat (nat_lit 397)))) (@List.cons PySem.Value (PySem.Value.str (PySem.Str.ofString "Coverage.__init__") (@OfNat.ofNat Nat (nat_lit 398) (instOfNatNat (nat_lit 398)))) (@List.cons PySem.Value (PySem.Value.str (PySem.Str.ofString "/claim/cut.py") (@OfNat.ofNat Nat (nat_lit 399) (instOfNatNat (nat_lit 399)))) (@List.cons PySem.Value (PySem.Value.int (@OfNat.ofNat Int (nat_lit 66) (@instOfNat (nat_lit 66))) (@OfNat.ofNat Nat (nat_lit 0) (instOfNatNat (nat_lit 0)))) (@List.cons PySem.Value (PySem.Value.int (@OfNat.ofNat Int (nat_lit 2) (@instOfNat (nat_lit 2))) (@OfNat.ofNat Nat (nat_lit 0) (instOfNatNat (nat_lit 0)))) (@List.cons PySem.Value (PySem.Value.int (@OfNat.ofNat Int (nat_lit 0) (@instOfNat (nat_lit 0))) (@OfNat.ofNat Nat (nat_lit 0) (instOfNatNat (nat_lit 0)))) (@List.cons PySem.Value (PySem.Value.int (@OfNat.ofNat Int (nat_lit 0) (@instOfNat (nat_lit 0))) (@OfNat.ofNat Nat (nat_lit 0) (instOfNatNat (nat_lit 0)))) (@List.cons PySem.Value (PySem.Value.int (@OfNat.ofNat Int (nat_lit 3) (@instOfNat (nat_lit 3))) (@OfNat.ofNat Nat (nat_lit 0) (instOfNatNat (nat_lit 0)))) (@List.cons PySem.Value (PySem.Value.ref (@OfNat.ofNat Nat (nat_lit 177) (instOfNatNat (nat_lit 177)))) (@List.cons PySem.Value (PySem.Value.bool Bool.true) (@List.cons PySem.Value (PySem.Value.int (@OfNat.ofNat Int (nat_lit 181) (@instOfNat (nat_lit 181))) (@OfNat.ofNat Nat (nat_lit 0) (instOfNatNat (nat_lit 0)))) (@List.cons PySem.Value (PySem.Value.ref (@OfNat.ofNat Nat (nat_lit 178) (instOfNatNat (nat_lit 178)))) (@List.cons PySem.Value PySem.Value.none (@List.cons PySem.Value (PySem.Value.ref (@OfNat.ofNat Nat (nat_lit 179) (instOfNatNat (nat_lit 179)))) (@List.cons PySem.Value (PySem.Value.ref (@OfNat.ofNat Nat (nat_lit 180) (instOfNatNat (nat_lit 180)))) (@List.cons PySem.Value (PySem.Value.ref (@OfNat.ofNat Nat (nat_lit 181) (instOfNatNat (nat_lit 181)))) (@List.cons PySem.Value (PySem.Value.int (@OfNat.ofNat Int (nat_lit 402) (@instOfNat (nat_lit 402))) (@OfNat.ofNat Nat (nat_lit 0) (instOfNatNat (nat_lit 0)))) (@List.cons PySem.Value (PySem.Value.int (@OfNat.ofNat Int (nat_lit 66) (@instOfNat (nat_lit 66))) (@OfNat.ofNat Nat (nat_lit 0) (instOfNatNat (nat_lit 0)))) (@List.cons PySem.Value (PySem.Value.str (PySem.Str.ofString "/claim/cut.py") (@OfNat.ofNat Nat (nat_lit 403) (instOfNatNat (nat_lit 403)))) (@List.nil PySem.Value))))))))))))))))))))), slots := @List.toArray (Option PySem.Value) (@List.nil (Option PySem.Value)) } : PySem.Obj)) ::
(nat_lit 183, ({ cls := PySem.Value.type "function", dict := @Option.none Nat, data := PySem.Data.func { name := PySem.Str.ofString "__init__", qualname := PySem.Str.ofString "Coverage.__init__", params := a183, body := PySem.FuncBody.stmts b183, scope := s183, globals := @OfNat.ofNat Nat (nat_lit 3) (instOfNatNat (nat_lit 3)), closure := @List.nil (Prod PySem.Str Nat), defaults := PySem.Value.none, kwdefaults := PySem.Value.none, doc := PySem.Value.none, pyModule := PySem.Value.str (PySem.Str.ofString "joinedhand.coverage") (@OfNat.ofNat Nat (nat_lit 383) (instOfNatNat (nat_lit 383))), annotations := @Option.none Nat, code := PySem.Value.ref (@OfNat.ofNat Nat (nat_lit 182) (instOfNatNat (nat_lit 182))), closureTuple := PySem.Value.none, builtins := @OfNat.ofNat Nat (nat_lit 0) (instOfNatNat (nat_lit 0)) }, slots := @List.toArray (Option PySem.Value) (@List.nil (Option PySem.Value)) } : PySem.Obj)) ::
(nat_lit 203, ({ cls := PySem.Value.type "code", dict := @Option.none Nat, data := PySem.Data.fields (@List.toArray PySem.Value (@List.cons PySem.Value (PySem.Value.str (PySem.Str.ofString "told") (@OfNat.ofNat Nat (nat_lit 424) (instOfNatNat (nat_lit 424)))) (@List.cons PySem.Value (PySem.Value.str (PySem.Str.ofString "Coverage.told") (@OfNat.ofNat Nat (nat_lit 425) (instOfNatNat (nat_lit 425)))) (@List.cons PySem.Value (PySem.Value.str (PySem.Str.ofString "/claim/cut.py") (@OfNat.ofNat Nat (nat_lit 426) (instOfNatNat (nat_lit 426)))) (@List.cons PySem.Value (PySem.Value.int (@OfNat.ofNat Int (nat_lit 85) (@instOfNat (nat_lit 85))) (@OfNat.ofNat Nat (nat_lit 0) (instOfNatNat (nat_lit 0)))) (@List.cons PySem.Value (PySem.Value.int (@OfNat.ofNat Int (nat_lit 1) (@instOfNat (nat_lit 1))) (@OfNat.ofNat Nat (nat_lit 0) (instOfNatNat (nat_lit 0)))) (@List.cons PySem.Value (PySem.Value.int (@OfNat.ofNat Int (nat_lit 0) (@instOfNat (nat_lit 0))) (@OfNat.ofNat Nat (nat_lit 0) (instOfNatNat (nat_lit 0)))) (@List.cons PySem.Value (PySem.Value.int (@OfNat.ofNat Int (nat_lit 0) (@instOfNat (nat_lit 0))) (@OfNat.ofNat Nat (nat_lit 0) (instOfNatNat (nat_lit 0)))) (@List.cons PySem.Value (PySem.Value.int (@OfNat.ofNat Int (nat_lit 3) (@instOfNat (nat_lit 3))) (@OfNat.ofNat Nat (nat_lit 0) (instOfNatNat (nat_lit 0)))) (@List.cons PySem.Value (PySem.Value.ref (@OfNat.ofNat Nat (nat_lit 198) (instOfNatNat (nat_lit 198)))) (@List.cons PySem.Value (PySem.Value.bool Bool.true) (@List.cons PySem.Value (PySem.Value.int (@OfNat.ofNat Int (nat_lit 181) (@instOfNat (nat_lit 181))) (@OfNat.ofNat Nat (nat_lit 0) (instOfNatNat (nat_lit 0)))) (@List.cons PySem.Value (PySem.Value.ref (@OfNat.ofNat Nat (nat_lit 199) (instOfNatNat (nat_lit 199)))) (@List.cons PySem.Value PySem.Value.none (@List.cons PySem.Value (PySem.Value.ref (@OfNat.ofNat Nat (nat_lit 200) (instOfNatNat (nat_lit 200)))) (@List.cons PySem.Value (PySem.Value.ref (@OfNat.ofNat Nat (nat_lit 201) (instOfNatNat (nat_lit 201)))) (@List.cons PySem.Value (PySem.Value.ref (@OfNat.ofNat Nat (nat_lit 202) (instOfNatNat (nat_lit 202)))) (@List.cons PySem.Value (PySem.Value.int (@OfNat.ofNat Int (nat_lit 428) (@instOfNat (nat_lit 428))) (@OfNat.ofNat Nat (nat_lit 0) (instOfNatNat (nat_lit 0)))) (@List.cons PySem.Value (PySem.Value.int (@OfNat.ofNat Int (nat_lit 85) (@instOfNat (nat_lit 85))) (@OfNat.ofNat Nat (nat_lit 0) (instOfNatNat (nat_lit 0)))) (@List.cons PySem.Value (PySem.Value.str (PySem.Str.ofString "/claim/cut.py") (@OfNat.ofNat Nat (nat_lit 429) (instOfNatNat (nat_lit 429)))) (@List.nil PySem.Value))))))))))))))))))))), slots := @List.toArray (Option PySem.Value) (@List.nil (Option PySem.Value)) } : PySem.Obj)) ::
(nat_lit 204, ({ cls := PySem.Value.type "function", dict := @Option.none Nat, data := PySem.Data.func { name := PySem.Str.ofString "told", qualname := PySem.Str.ofString "Coverage.told", params := a204, body := PySem.FuncBody.stmts b204, scope := s204, globals := @OfNat.ofNat Nat (nat_lit 3) (instOfNatNat (nat_lit 3)), closure := @List.nil (Prod PySem.Str Nat), defaults := PySem.Value.none, kwdefaults := PySem.Value.none, doc := PySem.Value.none, pyModule := PySem.Value.str (PySem.Str.ofString "joinedhand.coverage") (@OfNat.ofNat Nat (nat_lit 383) (instOfNatNat (nat_lit 383))), annotations := @Option.none Nat, code := PySem.Value.ref (@OfNat.ofNat Nat (nat_lit 203) (instOfNatNat (nat_lit 203))), closureTuple := PySem.Value.none, builtins := @OfNat.ofNat Nat (nat_lit 0) (instOfNatNat (nat_lit 0)) }, slots := @List.toArray (Option PySem.Value) (@List.nil (Option PySem.Value)) } : PySem.Obj)) ::
(nat_lit 206, ({ cls := PySem.Value.type "dict", dict := @Option.none Nat, data := PySem.Data.dict (@List.toArray PySem.DictEntry (@List.cons PySem.DictEntry { hash := PySem.PyData.keyHash P (PySem.Str.ofString "__module__"), key := PySem.Value.str (PySem.Str.ofString "__module__") (@OfNat.ofNat Nat (nat_lit 392) (instOfNatNat (nat_lit 392))), val := PySem.Value.str (PySem.Str.ofString "joinedhand.coverage") (@OfNat.ofNat Nat (nat_lit 383) (instOfNatNat (nat_lit 383))) } (@List.cons PySem.DictEntry { hash := PySem.PyData.keyHash P (PySem.Str.ofString "__firstlineno__"), key := PySem.Value.str (PySem.Str.ofString "__firstlineno__") (@OfNat.ofNat Nat (nat_lit 396) (instOfNatNat (nat_lit 396))), val := PySem.Value.int (@OfNat.ofNat Int (nat_lit 64) (@instOfNat (nat_lit 64))) (@OfNat.ofNat Nat (nat_lit 395) (instOfNatNat (nat_lit 395))) } (@List.cons PySem.DictEntry { hash := PySem.PyData.keyHash P (PySem.Str.ofString "__init__"), key := PySem.Value.str (PySem.Str.ofString "__init__") (@OfNat.ofNat Nat (nat_lit 404) (instOfNatNat (nat_lit 404))), val := PySem.Value.ref (@OfNat.ofNat Nat (nat_lit 183) (instOfNatNat (nat_lit 183))) } (@List.cons PySem.DictEntry { hash := PySem.PyData.keyHash P (PySem.Str.ofString "index"), key := PySem.Value.str (PySem.Str.ofString "index") (@OfNat.ofNat Nat (nat_lit 415) (instOfNatNat (nat_lit 415))), val := PySem.Value.ref (@OfNat.ofNat Nat (nat_lit 190) (instOfNatNat (nat_lit 190))) } (@List.cons PySem.DictEntry { hash := PySem.PyData.keyHash P (PySem.Str.ofString "has"), key := PySem.Value.str (PySem.Str.ofString "has") (@OfNat.ofNat Nat (nat_lit 423) (instOfNatNat (nat_lit 423))), val := PySem.Value.ref (@OfNat.ofNat Nat (nat_lit 197) (instOfNatNat (nat_lit 197))) } (@List.cons PySem.DictEntry { hash := PySem.PyData.keyHash P (PySem.Str.ofString "told"), key := PySem.Value.str (PySem.Str.ofString "told") (@OfNat.ofNat Nat (nat_lit 430) (instOfNatNat (nat_lit 430))), val := PySem.Value.ref (@OfNat.ofNat Nat (nat_lit 204) (instOfNatNat (nat_lit 204))) } (@List.cons PySem.DictEntry { hash := PySem.PyData.keyHash P (PySem.Str.ofString "__static_attributes__"), key := PySem.Value.str (PySem.Str.ofString "__static_attributes__") (@OfNat.ofNat Nat (nat_lit 432) (instOfNatNat (nat_lit 432))), val := PySem.Value.ref (@OfNat.ofNat Nat (nat_lit 205) (instOfNatNat (nat_lit 205))) } (@List.cons PySem.DictEntry { hash := PySem.PyData.keyHash P (PySem.Str.ofString "__dict__"), key := PySem.Value.str (PySem.Str.ofString "__dict__") (@OfNat.ofNat Nat (nat_lit 434) (instOfNatNat (nat_lit 434))), val := PySem.Value.ref (@OfNat.ofNat Nat (nat_lit 208) (instOfNatNat (nat_lit 208))) } (@List.cons PySem.DictEntry { hash := PySem.PyData.keyHash P (PySem.Str.ofString "__weakref__"), key := PySem.Value.str (PySem.Str.ofString "__weakref__") (@OfNat.ofNat Nat (nat_lit 436) (instOfNatNat (nat_lit 436))), val := PySem.Value.ref (@OfNat.ofNat Nat (nat_lit 209) (instOfNatNat (nat_lit 209))) } (@List.cons PySem.DictEntry { hash := PySem.PyData.keyHash P (PySem.Str.ofString "__doc__"), key := PySem.Value.str (PySem.Str.ofString "__doc__") (@OfNat.ofNat Nat (nat_lit 437) (instOfNatNat (nat_lit 437))), val := PySem.Value.none } (@List.nil PySem.DictEntry)))))))))))) (@OfNat.ofNat Nat (nat_lit 4) (instOfNatNat (nat_lit 4))), slots := @List.toArray (Option PySem.Value) (@List.nil (Option PySem.Value)) } : PySem.Obj)) ::
(nat_lit 207, ({ cls := PySem.Value.type "type", dict := @Option.none Nat, data := PySem.Data.cls { name := PySem.Str.ofString "Coverage", bases := @List.cons PySem.Value (PySem.Value.type "object") (@List.nil PySem.Value), mro := @List.cons PySem.Value (PySem.Value.ref (@OfNat.ofNat Nat (nat_lit 207) (instOfNatNat (nat_lit 207)))) (@List.cons PySem.Value (PySem.Value.type "object") (@List.nil PySem.Value)), ns := @OfNat.ofNat Nat (nat_lit 206) (instOfNatNat (nat_lit 206)), qualname := PySem.Str.ofString "Coverage", hasDict := Bool.true, slotNames := @List.nil PySem.Str, subclasses := @List.nil PySem.Value, abstract := Bool.false, collection := @Option.none Bool, hasDel := Bool.false }, slots := @List.toArray (Option PySem.Value) (@List.cons (Option PySem.Value) (@Option.none PySem.Value) (@List.cons (Option PySem.Value) (@Option.none PySem.Value) (@List.cons (Option PySem.Value) (@Option.some PySem.Value (PySem.Value.str (PySem.Str.ofString "Coverage") (@OfNat.ofNat Nat (nat_lit 385) (instOfNatNat (nat_lit 385))))) (@List.cons (Option PySem.Value) (@Option.some PySem.Value (PySem.Value.str (PySem.Str.ofString "Coverage") (@OfNat.ofNat Nat (nat_lit 393) (instOfNatNat (nat_lit 393))))) (@List.cons (Option PySem.Value) (@Option.some PySem.Value (PySem.Value.builtin "object.__new__")) (@List.cons (Option PySem.Value) (@Option.some PySem.Value (PySem.Value.bool Bool.true)) (@List.nil (Option PySem.Value)))))))) } : PySem.Obj)) ::
(nat_lit 217, ({ cls := PySem.Value.type "code", dict := @Option.none Nat, data := PySem.Data.fields (@List.toArray PySem.Value (@List.cons PySem.Value (PySem.Value.str (PySem.Str.ofString "coverage_of") (@OfNat.ofNat Nat (nat_lit 440) (instOfNatNat (nat_lit 440)))) (@List.cons PySem.Value (PySem.Value.str (PySem.Str.ofString "coverage_of") (@OfNat.ofNat Nat (nat_lit 441) (instOfNatNat (nat_lit 441)))) (@List.cons PySem.Value (PySem.Value.str (PySem.Str.ofString "/claim/cut.py") (@OfNat.ofNat Nat (nat_lit 442) (instOfNatNat (nat_lit 442)))) (@List.cons PySem.Value (PySem.Value.int (@OfNat.ofNat Int (nat_lit 87) (@instOfNat (nat_lit 87))) (@OfNat.ofNat Nat (nat_lit 0) (instOfNatNat (nat_lit 0)))) (@List.cons PySem.Value (PySem.Value.int (@OfNat.ofNat Int (nat_lit 1) (@instOfNat (nat_lit 1))) (@OfNat.ofNat Nat (nat_lit 0) (instOfNatNat (nat_lit 0)))) (@List.cons PySem.Value (PySem.Value.int (@OfNat.ofNat Int (nat_lit 0) (@instOfNat (nat_lit 0))) (@OfNat.ofNat Nat (nat_lit 0) (instOfNatNat (nat_lit 0)))) (@List.cons PySem.Value (PySem.Value.int (@OfNat.ofNat Int (nat_lit 0) (@instOfNat (nat_lit 0))) (@OfNat.ofNat Nat (nat_lit 0) (instOfNatNat (nat_lit 0)))) (@List.cons PySem.Value (PySem.Value.int (@OfNat.ofNat Int (nat_lit 3) (@instOfNat (nat_lit 3))) (@OfNat.ofNat Nat (nat_lit 0) (instOfNatNat (nat_lit 0)))) (@List.cons PySem.Value (PySem.Value.ref (@OfNat.ofNat Nat (nat_lit 212) (instOfNatNat (nat_lit 212)))) (@List.cons PySem.Value (PySem.Value.bool Bool.true) (@List.cons PySem.Value (PySem.Value.int (@OfNat.ofNat Int (nat_lit 181) (@instOfNat (nat_lit 181))) (@OfNat.ofNat Nat (nat_lit 0) (instOfNatNat (nat_lit 0)))) (@List.cons PySem.Value (PySem.Value.ref (@OfNat.ofNat Nat (nat_lit 213) (instOfNatNat (nat_lit 213)))) (@List.cons PySem.Value PySem.Value.none (@List.cons PySem.Value (PySem.Value.ref (@OfNat.ofNat Nat (nat_lit 214) (instOfNatNat (nat_lit 214)))) (@List.cons PySem.Value (PySem.Value.ref (@OfNat.ofNat Nat (nat_lit 215) (instOfNatNat (nat_lit 215)))) (@List.cons PySem.Value (PySem.Value.ref (@OfNat.ofNat Nat (nat_lit 216) (instOfNatNat (nat_lit 216)))) (@List.cons PySem.Value (PySem.Value.int (@OfNat.ofNat Int (nat_lit 446) (@instOfNat (nat_lit 446))) (@OfNat.ofNat Nat (nat_lit 0) (instOfNatNat (nat_lit 0)))) (@List.cons PySem.Value (PySem.Value.int (@OfNat.ofNat Int (nat_lit 87) (@instOfNat (nat_lit 87))) (@OfNat.ofNat Nat (nat_lit 0) (instOfNatNat (nat_lit 0)))) (@List.cons PySem.Value (PySem.Value.str (PySem.Str.ofString "/claim/cut.py") (@OfNat.ofNat Nat (nat_lit 447) (instOfNatNat (nat_lit 447)))) (@List.nil PySem.Value))))))))))))))))))))), slots := @List.toArray (Option PySem.Value) (@List.nil (Option PySem.Value)) } : PySem.Obj)) ::
(nat_lit 218, ({ cls := PySem.Value.type "function", dict := @Option.none Nat, data := PySem.Data.func { name := PySem.Str.ofString "coverage_of", qualname := PySem.Str.ofString "coverage_of", params := a218, body := PySem.FuncBody.stmts b218, scope := s218, globals := @OfNat.ofNat Nat (nat_lit 3) (instOfNatNat (nat_lit 3)), closure := @List.nil (Prod PySem.Str Nat), defaults := PySem.Value.none, kwdefaults := PySem.Value.none, doc := PySem.Value.none, pyModule := PySem.Value.str (PySem.Str.ofString "joinedhand.coverage") (@OfNat.ofNat Nat (nat_lit 383) (instOfNatNat (nat_lit 383))), annotations := @Option.none Nat, code := PySem.Value.ref (@OfNat.ofNat Nat (nat_lit 217) (instOfNatNat (nat_lit 217))), closureTuple := PySem.Value.none, builtins := @OfNat.ofNat Nat (nat_lit 0) (instOfNatNat (nat_lit 0)) }, slots := @List.toArray (Option PySem.Value) (@List.nil (Option PySem.Value)) } : PySem.Obj)) ::
(nat_lit 224, ({ cls := PySem.Value.type "code", dict := @Option.none Nat, data := PySem.Data.fields (@List.toArray PySem.Value (@List.cons PySem.Value (PySem.Value.str (PySem.Str.ofString "read_ascending") (@OfNat.ofNat Nat (nat_lit 449) (instOfNatNat (nat_lit 449)))) (@List.cons PySem.Value (PySem.Value.str (PySem.Str.ofString "read_ascending") (@OfNat.ofNat Nat (nat_lit 450) (instOfNatNat (nat_lit 450)))) (@List.cons PySem.Value (PySem.Value.str (PySem.Str.ofString "/claim/cut.py") (@OfNat.ofNat Nat (nat_lit 451) (instOfNatNat (nat_lit 451)))) (@List.cons PySem.Value (PySem.Value.int (@OfNat.ofNat Int (nat_lit 92) (@instOfNat (nat_lit 92))) (@OfNat.ofNat Nat (nat_lit 0) (instOfNatNat (nat_lit 0)))) (@List.cons PySem.Value (PySem.Value.int (@OfNat.ofNat Int (nat_lit 1) (@instOfNat (nat_lit 1))) (@OfNat.ofNat Nat (nat_lit 0) (instOfNatNat (nat_lit 0)))) (@List.cons PySem.Value (PySem.Value.int (@OfNat.ofNat Int (nat_lit 0) (@instOfNat (nat_lit 0))) (@OfNat.ofNat Nat (nat_lit 0) (instOfNatNat (nat_lit 0)))) (@List.cons PySem.Value (PySem.Value.int (@OfNat.ofNat Int (nat_lit 0) (@instOfNat (nat_lit 0))) (@OfNat.ofNat Nat (nat_lit 0) (instOfNatNat (nat_lit 0)))) (@List.cons PySem.Value (PySem.Value.int (@OfNat.ofNat Int (nat_lit 3) (@instOfNat (nat_lit 3))) (@OfNat.ofNat Nat (nat_lit 0) (instOfNatNat (nat_lit 0)))) (@List.cons PySem.Value (PySem.Value.ref (@OfNat.ofNat Nat (nat_lit 219) (instOfNatNat (nat_lit 219)))) (@List.cons PySem.Value (PySem.Value.bool Bool.true) (@List.cons PySem.Value (PySem.Value.int (@OfNat.ofNat Int (nat_lit 181) (@instOfNat (nat_lit 181))) (@OfNat.ofNat Nat (nat_lit 0) (instOfNatNat (nat_lit 0)))) (@List.cons PySem.Value (PySem.Value.ref (@OfNat.ofNat Nat (nat_lit 220) (instOfNatNat (nat_lit 220)))) (@List.cons PySem.Value PySem.Value.none (@List.cons PySem.Value (PySem.Value.ref (@OfNat.ofNat Nat (nat_lit 221) (instOfNatNat (nat_lit 221)))) (@List.cons PySem.Value (PySem.Value.ref (@OfNat.ofNat Nat (nat_lit 222) (instOfNatNat (nat_lit 222)))) (@List.cons PySem.Value (PySem.Value.ref (@OfNat.ofNat Nat (nat_lit 223) (instOfNatNat (nat_lit 223)))) (@List.cons PySem.Value (PySem.Value.int (@OfNat.ofNat Int (nat_lit 457) (@instOfNat (nat_lit 457))) (@OfNat.ofNat Nat (nat_lit 0) (instOfNatNat (nat_lit 0)))) (@List.cons PySem.Value (PySem.Value.int (@OfNat.ofNat Int (nat_lit 92) (@instOfNat (nat_lit 92))) (@OfNat.ofNat Nat (nat_lit 0) (instOfNatNat (nat_lit 0)))) (@List.cons PySem.Value (PySem.Value.str (PySem.Str.ofString "/claim/cut.py") (@OfNat.ofNat Nat (nat_lit 458) (instOfNatNat (nat_lit 458)))) (@List.nil PySem.Value))))))))))))))))))))), slots := @List.toArray (Option PySem.Value) (@List.nil (Option PySem.Value)) } : PySem.Obj)) ::
(nat_lit 225, ({ cls := PySem.Value.type "function", dict := @Option.none Nat, data := PySem.Data.func { name := PySem.Str.ofString "read_ascending", qualname := PySem.Str.ofString "read_ascending", params := a225, body := PySem.FuncBody.stmts b225, scope := s225, globals := @OfNat.ofNat Nat (nat_lit 3) (instOfNatNat (nat_lit 3)), closure := @List.nil (Prod PySem.Str Nat), defaults := PySem.Value.none, kwdefaults := PySem.Value.none, doc := PySem.Value.none, pyModule := PySem.Value.str (PySem.Str.ofString "joinedhand.coverage") (@OfNat.ofNat Nat (nat_lit 383) (instOfNatNat (nat_lit 383))), annotations := @Option.none Nat, code := PySem.Value.ref (@OfNat.ofNat Nat (nat_lit 224) (instOfNatNat (nat_lit 224))), closureTuple := PySem.Value.none, builtins := @OfNat.ofNat Nat (nat_lit 0) (instOfNatNat (nat_lit 0)) }, slots := @List.toArray (Option PySem.Value) (@List.nil (Option PySem.Value)) } : PySem.Obj)) ::
(nat_lit 245, ({ cls := PySem.Value.type "code", dict := @Option.none Nat, data := PySem.Data.fields (@List.toArray PySem.Value (@List.cons PySem.Value (PySem.Value.str (PySem.Str.ofString "read_coverage") (@OfNat.ofNat Nat (nat_lit 484) (instOfNatNat (nat_lit 484)))) (@List.cons PySem.Value (PySem.Value.str (PySem.Str.ofString "read_coverage") (@OfNat.ofNat Nat (nat_lit 485) (instOfNatNat (nat_lit 485)))) (@List.cons PySem.Value (PySem.Value.str (PySem.Str.ofString "/claim/cut.py") (@OfNat.ofNat Nat (nat_lit 486) (instOfNatNat (nat_lit 486)))) (@List.cons PySem.Value (PySem.Value.int (@OfNat.ofNat Int (nat_lit 122) (@instOfNat (nat_lit 122))) (@OfNat.ofNat Nat (nat_lit 0) (instOfNatNat (nat_lit 0)))) (@List.cons PySem.Value (PySem.Value.int (@OfNat.ofNat Int (nat_lit 2) (@instOfNat (nat_lit 2))) (@OfNat.ofNat Nat (nat_lit 0) (instOfNatNat (nat_lit 0)))) (@List.cons PySem.Value (PySem.Value.int (@OfNat.ofNat Int (nat_lit 0) (@instOfNat (nat_lit 0))) (@OfNat.ofNat Nat (nat_lit 0) (instOfNatNat (nat_lit 0)))) (@List.cons PySem.Value (PySem.Value.int (@OfNat.ofNat Int (nat_lit 0) (@instOfNat (nat_lit 0))) (@OfNat.ofNat Nat (nat_lit 0) (instOfNatNat (nat_lit 0)))) (@List.cons PySem.Value (PySem.Value.int (@OfNat.ofNat Int (nat_lit 3) (@instOfNat (nat_lit 3))) (@OfNat.ofNat Nat (nat_lit 0) (instOfNatNat (nat_lit 0)))) (@List.cons PySem.Value (PySem.Value.ref (@OfNat.ofNat Nat (nat_lit 240) (instOfNatNat (nat_lit 240)))) (@List.cons PySem.Value (PySem.Value.bool Bool.true) (@List.cons PySem.Value (PySem.Value.int (@OfNat.ofNat Int (nat_lit 181) (@instOfNat (nat_lit 181))) (@OfNat.ofNat Nat (nat_lit 0) (instOfNatNat (nat_lit 0)))) (@List.cons PySem.Value (PySem.Value.ref (@OfNat.ofNat Nat (nat_lit 241) (instOfNatNat (nat_lit 241)))) (@List.cons PySem.Value PySem.Value.none (@List.cons PySem.Value (PySem.Value.ref (@OfNat.ofNat Nat (nat_lit 242) (instOfNatNat (nat_lit 242)))) (@List.cons PySem.Value (PySem.Value.ref (@OfNat.ofNat Nat (nat_lit 243) (instOfNatNat (nat_lit 243)))) (@List.cons PySem.Value (PySem.Value.ref (@OfNat.ofNat Nat (nat_lit 244) (instOfNatNat (nat_lit 244)))) (@List.cons PySem.Value (PySem.Value.int (@OfNat.ofNat Int (nat_lit 491) (@instOfNat (nat_lit 491))) (@OfNat.ofNat Nat (nat_lit 0) (instOfNatNat (nat_lit 0)))) (@List.cons PySem.Value (PySem.Value.int (@OfNat.ofNat Int (nat_lit 122) (@instOfNat (nat_lit 122))) (@OfNat.ofNat Nat (nat_lit 0) (instOfNatNat (nat_lit 0)))) (@List.cons PySem.Value (PySem.Value.str (PySem.Str.ofString "/claim/cut.py") (@OfNat.ofNat Nat (nat_lit 492) (instOfNatNat (nat_lit 492)))) (@List.nil PySem.Value))))))))))))))))))))), slots := @List.toArray (Option PySem.Value) (@List.nil (Option PySem.Value)) } : PySem.Obj)) ::
(nat_lit 246, ({ cls := PySem.Value.type "function", dict := @Option.none Nat, data := PySem.Data.func { name := PySem.Str.ofString "read_coverage", qualname := PySem.Str.ofString "read_coverage", params := a246, body := PySem.FuncBody.stmts b246, scope := s246, globals := @OfNat.ofNat Nat (nat_lit 3) (instOfNatNat (nat_lit 3)), closure := @List.nil (Prod PySem.Str Nat), defaults := PySem.Value.none, kwdefaults := PySem.Value.none, doc := PySem.Value.none, pyModule := PySem.Value.str (PySem.Str.ofString "joinedhand.coverage") (@OfNat.ofNat Nat (nat_lit 383) (instOfNatNat (nat_lit 383))), annotations := @Option.none Nat, code := PySem.Value.ref (@OfNat.ofNat Nat (nat_lit 245) (instOfNatNat (nat_lit 245))), closureTuple := PySem.Value.none, builtins := @OfNat.ofNat Nat (nat_lit 0) (instOfNatNat (nat_lit 0)) }, slots := @List.toArray (Option PySem.Value) (@List.nil (Option PySem.Value)) } : PySem.Obj)) ::
(nat_lit 250, ({ cls := PySem.Value.type "code", dict := @Option.none Nat, data := PySem.Data.fields (@List.toArray PySem.Value (@List.cons PySem.Value (PySem.Value.str (PySem.Str.ofString "read_each") (@OfNat.ofNat Nat (nat_lit 496) (instOfNatNat (nat_lit 496)))) (@List.cons PySem.Value (PySem.Value.str (PySem.Str.ofString "read_each") (@OfNat.ofNat Nat (nat_lit 497) (instOfNatNat (nat_lit 497)))) (@List.cons PySem.Value (PySem.Value.str (PySem.Str.ofString "/claim/cut.py") (@OfNat.ofNat Nat (nat_lit 498) (instOfNatNat (nat_lit 498)))) (@List.cons PySem.Value (PySem.Value.int (@OfNat.ofNat Int (nat_lit 131) (@instOfNat (nat_lit 131))) (@OfNat.ofNat Nat (nat_lit 0) (instOfNatNat (nat_lit 0)))) (@List.cons PySem.Value (PySem.Value.int (@OfNat.ofNat Int (nat_lit 5) (@instOfNat (nat_lit 5))) (@OfNat.ofNat Nat (nat_lit 0) (instOfNatNat (nat_lit 0)))) (@List.cons PySem.Value (PySem.Value.int (@OfNat.ofNat Int (nat_lit 0) (@instOfNat (nat_lit 0))) (@OfNat.ofNat Nat (nat_lit 0) (instOfNatNat (nat_lit 0)))) (@List.cons PySem.Value (PySem.Value.int (@OfNat.ofNat Int (nat_lit 0) (@instOfNat (nat_lit 0))) (@OfNat.ofNat Nat (nat_lit 0) (instOfNatNat (nat_lit 0)))) (@List.cons PySem.Value (PySem.Value.int (@OfNat.ofNat Int (nat_lit 3) (@instOfNat (nat_lit 3))) (@OfNat.ofNat Nat (nat_lit 0) (instOfNatNat (nat_lit 0)))) (@List.cons PySem.Value (PySem.Value.ref (@OfNat.ofNat Nat (nat_lit 247) (instOfNatNat (nat_lit 247)))) (@List.cons PySem.Value (PySem.Value.bool Bool.true) (@List.cons PySem.Value (PySem.Value.int (@OfNat.ofNat Int (nat_lit 181) (@instOfNat (nat_lit 181))) (@OfNat.ofNat Nat (nat_lit 0) (instOfNatNat (nat_lit 0)))) (@List.cons PySem.Value (PySem.Value.ref (@OfNat.ofNat Nat (nat_lit 248) (instOfNatNat (nat_lit 248)))) (@List.cons PySem.Value PySem.Value.none (@List.cons PySem.Value PySem.Value.none (@List.cons PySem.Value PySem.Value.none (@List.cons PySem.Value (PySem.Value.ref (@OfNat.ofNat Nat (nat_lit 249) (instOfNatNat (nat_lit 249)))) (@List.cons PySem.Value (PySem.Value.int (@OfNat.ofNat Int (nat_lit 499) (@instOfNat (nat_lit 499))) (@OfNat.ofNat Nat (nat_lit 0) (instOfNatNat (nat_lit 0)))) (@List.cons PySem.Value (PySem.Value.int (@OfNat.ofNat Int (nat_lit 131) (@instOfNat (nat_lit 131))) (@OfNat.ofNat Nat (nat_lit 0) (instOfNatNat (nat_lit 0)))) (@List.cons PySem.Value (PySem.Value.str (PySem.Str.ofString "/claim/cut.py") (@OfNat.ofNat Nat (nat_lit 500) (instOfNatNat (nat_lit 500)))) (@List.nil PySem.Value))))))))))))))))))))), slots := @List.toArray (Option PySem.Value) (@List.nil (Option PySem.Value)) } : PySem.Obj)) ::
(nat_lit 251, ({ cls := PySem.Value.type "function", dict := @Option.none Nat, data := PySem.Data.func { name := PySem.Str.ofString "read_each", qualname := PySem.Str.ofString "read_each", params := a251, body := PySem.FuncBody.stmts b251, scope := s251, globals := @OfNat.ofNat Nat (nat_lit 3) (instOfNatNat (nat_lit 3)), closure := @List.nil (Prod PySem.Str Nat), defaults := PySem.Value.none, kwdefaults := PySem.Value.none, doc := PySem.Value.none, pyModule := PySem.Value.str (PySem.Str.ofString "joinedhand.gdef") (@OfNat.ofNat Nat (nat_lit 494) (instOfNatNat (nat_lit 494))), annotations := @Option.none Nat, code := PySem.Value.ref (@OfNat.ofNat Nat (nat_lit 250) (instOfNatNat (nat_lit 250))), closureTuple := PySem.Value.none, builtins := @OfNat.ofNat Nat (nat_lit 0) (instOfNatNat (nat_lit 0)) }, slots := @List.toArray (Option PySem.Value) (@List.nil (Option PySem.Value)) } : PySem.Obj)) ::
(nat_lit 255, ({ cls := PySem.Value.type "code", dict := @Option.none Nat, data := PySem.Data.fields (@List.toArray PySem.Value (@List.cons PySem.Value (PySem.Value.str (PySem.Str.ofString "read_sets") (@OfNat.ofNat Nat (nat_lit 502) (instOfNatNat (nat_lit 502)))) (@List.cons PySem.Value (PySem.Value.str (PySem.Str.ofString "read_sets") (@OfNat.ofNat Nat (nat_lit 503) (instOfNatNat (nat_lit 503)))) (@List.cons PySem.Value (PySem.Value.str (PySem.Str.ofString "/claim/cut.py") (@OfNat.ofNat Nat (nat_lit 504) (instOfNatNat (nat_lit 504)))) (@List.cons PySem.Value (PySem.Value.int (@OfNat.ofNat Int (nat_lit 137) (@instOfNat (nat_lit 137))) (@OfNat.ofNat Nat (nat_lit 0) (instOfNatNat (nat_lit 0)))) (@List.cons PySem.Value (PySem.Value.int (@OfNat.ofNat Int (nat_lit 2) (@instOfNat (nat_lit 2))) (@OfNat.ofNat Nat (nat_lit 0) (instOfNatNat (nat_lit 0)))) (@List.cons PySem.Value (PySem.Value.int (@OfNat.ofNat Int (nat_lit 0) (@instOfNat (nat_lit 0))) (@OfNat.ofNat Nat (nat_lit 0) (instOfNatNat (nat_lit 0)))) (@List.cons PySem.Value (PySem.Value.int (@OfNat.ofNat Int (nat_lit 0) (@instOfNat (nat_lit 0))) (@OfNat.ofNat Nat (nat_lit 0) (instOfNatNat (nat_lit 0)))) (@List.cons PySem.Value (PySem.Value.int (@OfNat.ofNat Int (nat_lit 3) (@instOfNat (nat_lit 3))) (@OfNat.ofNat Nat (nat_lit 0) (instOfNatNat (nat_lit 0)))) (@List.cons PySem.Value (PySem.Value.ref (@OfNat.ofNat Nat (nat_lit 252) (instOfNatNat (nat_lit 252)))) (@List.cons PySem.Value (PySem.Value.bool Bool.true) (@List.cons PySem.Value (PySem.Value.int (@OfNat.ofNat Int (nat_lit 181) (@instOfNat (nat_lit 181))) (@OfNat.ofNat Nat (nat_lit 0) (instOfNatNat (nat_lit 0)))) (@List.cons PySem.Value (PySem.Value.ref (@OfNat.ofNat Nat (nat_lit 253) (instOfNatNat (nat_lit 253)))) (@List.cons PySem.Value PySem.Value.none (@List.cons PySem.Value PySem.Value.none (@List.cons PySem.Value PySem.Value.none (@List.cons PySem.Value (PySem.Value.ref (@OfNat.ofNat Nat (nat_lit 254) (instOfNatNat (nat_lit 254)))) (@List.cons PySem.Value (PySem.Value.int (@OfNat.ofNat Int (nat_lit 505) (@instOfNat (nat_lit 505))) (@OfNat.ofNat Nat (nat_lit 0) (instOfNatNat (nat_lit 0)))) (@List.cons PySem.Value (PySem.Value.int (@OfNat.ofNat Int (nat_lit 137) (@instOfNat (nat_lit 137))) (@OfNat.ofNat Nat (nat_lit 0) (instOfNatNat (nat_lit 0)))) (@List.cons PySem.Value (PySem.Value.str (PySem.Str.ofString "/claim/cut.py") (@OfNat.ofNat Nat (nat_lit 506) (instOfNatNat (nat_lit 506)))) (@List.nil PySem.Value))))))))))))))))))))), slots := @List.toArray (Option PySem.Value) (@List.nil (Option PySem.Value)) } : PySem.Obj)) ::
(nat_lit 256, ({ cls := PySem.Value.type "function", dict := @Option.none Nat, data := PySem.Data.func { name := PySem.Str.ofString "read_sets", qualname := PySem.Str.ofString "read_sets", params := a256, body := PySem.FuncBody.stmts b256, scope := s256, globals := @OfNat.ofNat Nat (nat_lit 3) (instOfNatNat (nat_lit 3)), closure := @List.nil (Prod PySem.Str Nat), defaults := PySem.Value.none, kwdefaults := PySem.Value.none, doc := PySem.Value.none, pyModule := PySem.Value.str (PySem.Str.ofString "joinedhand.gdef") (@OfNat.ofNat Nat (nat_lit 494) (instOfNatNat (nat_lit 494))), annotations := @Option.none Nat, code := PySem.Value.ref (@OfNat.ofNat Nat (nat_lit 255) (instOfNatNat (nat_lit 255))), closureTuple := PySem.Value.none, builtins := @OfNat.ofNat Nat (nat_lit 0) (instOfNatNat (nat_lit 0)) }, slots := @List.toArray (Option PySem.Value) (@List.nil (Option PySem.Value)) } : PySem.Obj)) ::
(nat_lit 262, ({ cls := PySem.Value.type "code", dict := @Option.none Nat, data := PySem.Data.fields (@List.toArray PySem.Value (@List.cons PySem.Value (PySem.Value.str (PySem.Str.ofString "_law_draw") (@OfNat.ofNat Nat (nat_lit 510) (instOfNatNat (nat_lit 510)))) (@List.cons PySem.Value (PySem.Value.str (PySem.Str.ofString "_law_draw") (@OfNat.ofNat Nat (nat_lit 511) (instOfNatNat (nat_lit 511)))) (@List.cons PySem.Value (PySem.Value.str (PySem.Str.ofString "/claim/cut.py") (@OfNat.ofNat Nat (nat_lit 512) (instOfNatNat (nat_lit 512)))) (@List.cons PySem.Value (PySem.Value.int (@OfNat.ofNat Int (nat_lit 146) (@instOfNat (nat_lit 146))) (@OfNat.ofNat Nat (nat_lit 0) (instOfNatNat (nat_lit 0)))) (@List.cons PySem.Value (PySem.Value.int (@OfNat.ofNat Int (nat_lit 2) (@instOfNat (nat_lit 2))) (@OfNat.ofNat Nat (nat_lit 0) (instOfNatNat (nat_lit 0)))) (@List.cons PySem.Value (PySem.Value.int (@OfNat.ofNat Int (nat_lit 0) (@instOfNat (nat_lit 0))) (@OfNat.ofNat Nat (nat_lit 0) (instOfNatNat (nat_lit 0)))) (@List.cons PySem.Value (PySem.Value.int (@OfNat.ofNat Int (nat_lit 0) (@instOfNat (nat_lit 0))) (@OfNat.ofNat Nat (nat_lit 0) (instOfNatNat (nat_lit 0)))) (@List.cons PySem.Value (PySem.Value.int (@OfNat.ofNat Int (nat_lit 3) (@instOfNat (nat_lit 3))) (@OfNat.ofNat Nat (nat_lit 0) (instOfNatNat (nat_lit 0)))) (@List.cons PySem.Value (PySem.Value.ref (@OfNat.ofNat Nat (nat_lit 257) (instOfNatNat (nat_lit 257)))) (@List.cons PySem.Value (PySem.Value.bool Bool.true) (@List.cons PySem.Value (PySem.Value.int (@OfNat.ofNat Int (nat_lit 181) (@instOfNat (nat_lit 181))) (@OfNat.ofNat Nat (nat_lit 0) (instOfNatNat (nat_lit 0)))) (@List.cons PySem.Value (PySem.Value.ref (@OfNat.ofNat Nat (nat_lit 258) (instOfNatNat (nat_lit 258)))) (@List.cons PySem.Value PySem.Value.none (@List.cons PySem.Value (PySem.Value.ref (@OfNat.ofNat Nat (nat_lit 259) (instOfNatNat (nat_lit 259)))) (@List.cons PySem.Value (PySem.Value.ref (@OfNat.ofNat Nat (nat_lit 260) (instOfNatNat (nat_lit 260)))) (@List.cons PySem.Value (PySem.Value.ref (@OfNat.ofNat Nat (nat_lit 261) (instOfNatNat (nat_lit 261)))) (@List.cons PySem.Value (PySem.Value.int (@OfNat.ofNat Int (nat_lit 517) (@instOfNat (nat_lit 517))) (@OfNat.ofNat Nat (nat_lit 0) (instOfNatNat (nat_lit 0)))) (@List.cons PySem.Value (PySem.Value.int (@OfNat.ofNat Int (nat_lit 146) (@instOfNat (nat_lit 146))) (@OfNat.ofNat Nat (nat_lit 0) (instOfNatNat (nat_lit 0)))) (@List.cons PySem.Value (PySem.Value.str (PySem.Str.ofString "/claim/cut.py") (@OfNat.ofNat Nat (nat_lit 518) (instOfNatNat (nat_lit 518)))) (@List.nil PySem.Value))))))))))))))))))))), slots := @List.toArray (Option PySem.Value) (@List.nil (Option PySem.Value)) } : PySem.Obj)) ::
(nat_lit 263, ({ cls := PySem.Value.type "function", dict := @Option.none Nat, data := PySem.Data.func { name := PySem.Str.ofString "_law_draw", qualname := PySem.Str.ofString "_law_draw", params := a263, body := PySem.FuncBody.stmts b263, scope := s263, globals := @OfNat.ofNat Nat (nat_lit 3) (instOfNatNat (nat_lit 3)), closure := @List.nil (Prod PySem.Str Nat), defaults := PySem.Value.none, kwdefaults := PySem.Value.none, doc := PySem.Value.none, pyModule := PySem.Value.str (PySem.Str.ofString "law_pb0181_01") (@OfNat.ofNat Nat (nat_lit 508) (instOfNatNat (nat_lit 508))), annotations := @Option.none Nat, code := PySem.Value.ref (@OfNat.ofNat Nat (nat_lit 262) (instOfNatNat (nat_lit 262))), closureTuple := PySem.Value.none, builtins := @OfNat.ofNat Nat (nat_lit 0) (instOfNatNat (nat_lit 0)) }, slots := @List.toArray (Option PySem.Value) (@List.nil (Option PySem.Value)) } : PySem.Obj)) ::
(nat_lit 269, ({ cls := PySem.Value.type "code", dict := @Option.none Nat, data := PySem.Data.fields (@List.toArray PySem.Value (@List.cons PySem.Value (PySem.Value.str (PySem.Str.ofString "_law_u16") (@OfNat.ofNat Nat (nat_lit 520) (instOfNatNat (nat_lit 520)))) (@List.cons PySem.Value (PySem.Value.str (PySem.Str.ofString "_law_u16") (@OfNat.ofNat Nat (nat_lit 521) (instOfNatNat (nat_lit 521)))) (@List.cons PySem.Value (PySem.Value.str (PySem.Str.ofString "/claim/cut.py") (@OfNat.ofNat Nat (nat_lit 522) (instOfNatNat (nat_lit 522)))) (@List.cons PySem.Value (PySem.Value.int (@OfNat.ofNat Int (nat_lit 151) (@instOfNat (nat_lit 151))) (@OfNat.ofNat Nat (nat_lit 0) (instOfNatNat (nat_lit 0)))) (@List.cons PySem.Value (PySem.Value.int (@OfNat.ofNat Int (nat_lit 1) (@instOfNat (nat_lit 1))) (@OfNat.ofNat Nat (nat_lit 0) (instOfNatNat (nat_lit 0)))) (@List.cons PySem.Value (PySem.Value.int (@OfNat.ofNat Int (nat_lit 0) (@instOfNat (nat_lit 0))) (@OfNat.ofNat Nat (nat_lit 0) (instOfNatNat (nat_lit 0)))) (@List.cons PySem.Value (PySem.Value.int (@OfNat.ofNat Int (nat_lit 0) (@instOfNat (nat_lit 0))) (@OfNat.ofNat Nat (nat_lit 0) (instOfNatNat (nat_lit 0)))) (@List.cons PySem.Value (PySem.Value.int (@OfNat.ofNat Int (nat_lit 3) (@instOfNat (nat_lit 3))) (@OfNat.ofNat Nat (nat_lit 0) (instOfNatNat (nat_lit 0)))) (@List.cons PySem.Value (PySem.Value.ref (@OfNat.ofNat Nat (nat_lit 264) (instOfNatNat (nat_lit 264)))) (@List.cons PySem.Value (PySem.Value.bool Bool.true) (@List.cons PySem.Value (PySem.Value.int (@OfNat.ofNat Int (nat_lit 181) (@instOfNat (nat_lit 181))) (@OfNat.ofNat Nat (nat_lit 0) (instOfNatNat (nat_lit 0)))) (@List.cons PySem.Value (PySem.Value.ref (@OfNat.ofNat Nat (nat_lit 265) (instOfNatNat (nat_lit 265)))) (@List.cons PySem.Value PySem.Value.none (@List.cons PySem.Value (PySem.Value.ref (@OfNat.ofNat Nat (nat_lit 266) (instOfNatNat (nat_lit 266)))) (@List.cons PySem.Value (PySem.Value.ref (@OfNat.ofNat Nat (nat_lit 267) (instOfNatNat (nat_lit 267)))) (@List.cons PySem.Value (PySem.Value.ref (@OfNat.ofNat Nat (nat_lit 268) (instOfNatNat (nat_lit 268)))) (@List.cons PySem.Value (PySem.Value.int (@OfNat.ofNat Int (nat_lit 524) (@instOfNat (nat_lit 524))) (@OfNat.ofNat Nat (nat_lit 0) (instOfNatNat (nat_lit 0)))) (@List.cons PySem.Value (PySem.Value.int (@OfNat.ofNat Int (nat_lit 151) (@instOfNat (nat_lit 151))) (@OfNat.ofNat Nat (nat_lit 0) (instOfNatNat (nat_lit 0)))) (@List.cons PySem.Value (PySem.Value.str (PySem.Str.ofString "/claim/cut.py") (@OfNat.ofNat Nat (nat_lit 525) (instOfNatNat (nat_lit 525)))) (@List.nil PySem.Value))))))))))))))))))))), slots := @List.toArray (Option PySem.Value) (@List.nil (Option PySem.Value)) } : PySem.Obj)) ::
(nat_lit 270, ({ cls := PySem.Value.type "function", dict := @Option.none Nat, data := PySem.Data.func { name := PySem.Str.ofString "_law_u16", qualname := PySem.Str.ofString "_law_u16", params := a270, body := PySem.FuncBody.stmts b270, scope := s270, globals := @OfNat.ofNat Nat (nat_lit 3) (instOfNatNat (nat_lit 3)), closure := @List.nil (Prod PySem.Str Nat), defaults := PySem.Value.none, kwdefaults := PySem.Value.none, doc := PySem.Value.none, pyModule := PySem.Value.str (PySem.Str.ofString "law_pb0181_01") (@OfNat.ofNat Nat (nat_lit 508) (instOfNatNat (nat_lit 508))), annotations := @Option.none Nat, code := PySem.Value.ref (@OfNat.ofNat Nat (nat_lit 269) (instOfNatNat (nat_lit 269))), closureTuple := PySem.Value.none, builtins := @OfNat.ofNat Nat (nat_lit 0) (instOfNatNat (nat_lit 0)) }, slots := @List.toArray (Option PySem.Value) (@List.nil (Option PySem.Value)) } : PySem.Obj)) ::
(nat_lit 274, ({ cls := PySem.Value.type "code", dict := @Option.none Nat, data := PySem.Data.fields (@List.toArray PySem.Value (@List.cons PySem.Value (PySem.Value.str (PySem.Str.ofString "_law_set") (@OfNat.ofNat Nat (nat_lit 527) (instOfNatNat (nat_lit 527)))) (@List.cons PySem.Value (PySem.Value.str (PySem.Str.ofString "_law_set") (@OfNat.ofNat Nat (nat_lit 528) (instOfNatNat (nat_lit 528)))) (@List.cons PySem.Value (PySem.Value.str (PySem.Str.ofString "/claim/cut.py") (@OfNat.ofNat Nat (nat_lit 529) (instOfNatNat (nat_lit 529)))) (@List.cons PySem.Value (PySem.Value.int (@OfNat.ofNat Int (nat_lit 153) (@instOfNat (nat_lit 153))) (@OfNat.ofNat Nat (nat_lit 0) (instOfNatNat (nat_lit 0)))) (@List.cons PySem.Value (PySem.Value.int (@OfNat.ofNat Int (nat_lit 1) (@instOfNat (nat_lit 1))) (@OfNat.ofNat Nat (nat_lit 0) (instOfNatNat (nat_lit 0)))) (@List.cons PySem.Value (PySem.Value.int (@OfNat.ofNat Int (nat_lit 0) (@instOfNat (nat_lit 0))) (@OfNat.ofNat Nat (nat_lit 0) (instOfNatNat (nat_lit 0)))) (@List.cons PySem.Value (PySem.Value.int (@OfNat.ofNat Int (nat_lit 0) (@instOfNat (nat_lit 0))) (@OfNat.ofNat Nat (nat_lit 0) (instOfNatNat (nat_lit 0)))) (@List.cons PySem.Value (PySem.Value.int (@OfNat.ofNat Int (nat_lit 3) (@instOfNat (nat_lit 3))) (@OfNat.ofNat Nat (nat_lit 0) (instOfNatNat (nat_lit 0)))) (@List.cons PySem.Value (PySem.Value.ref (@OfNat.ofNat Nat (nat_lit 271) (instOfNatNat (nat_lit 271)))) (@List.cons PySem.Value (PySem.Value.bool Bool.true) (@List.cons PySem.Value (PySem.Value.int (@OfNat.ofNat Int (nat_lit 181) (@instOfNat (nat_lit 181))) (@OfNat.ofNat Nat (nat_lit 0) (instOfNatNat (nat_lit 0)))) (@List.cons PySem.Value (PySem.Value.ref (@OfNat.ofNat Nat (nat_lit 272) (instOfNatNat (nat_lit 272)))) (@List.cons PySem.Value PySem.Value.none (@List.cons PySem.Value PySem.Value.none (@List.cons PySem.Value PySem.Value.none (@List.cons PySem.Value (PySem.Value.ref (@OfNat.ofNat Nat (nat_lit 273) (instOfNatNat (nat_lit 273)))) (@List.cons PySem.Value (PySem.Value.int (@OfNat.ofNat Int (nat_lit 530) (@instOfNat (nat_lit 530))) (@OfNat.ofNat Nat (nat_lit 0) (instOfNatNat (nat_lit 0)))) (@List.cons PySem.Value (PySem.Value.int (@OfNat.ofNat Int (nat_lit 153) (@instOfNat (nat_lit 153))) (@OfNat.ofNat Nat (nat_lit 0) (instOfNatNat (nat_lit 0)))) (@List.cons PySem.Value (PySem.Value.str (PySem.Str.ofString "/claim/cut.py") (@OfNat.ofNat Nat (nat_lit 531) (instOfNatNat (nat_lit 531)))) (@List.nil PySem.Value))))))))))))))))))))), slots := @List.toArray (Option PySem.Value) (@List.nil (Option PySem.Value)) } : PySem.Obj)) ::
(nat_lit 275, ({ cls := PySem.Value.type "function", dict := @Option.none Nat, data := PySem.Data.func { name := PySem.Str.ofString "_law_set", qualname := PySem.Str.ofString "_law_set", params := a275, body := PySem.FuncBody.stmts b275, scope := s275, globals := @OfNat.ofNat Nat (nat_lit 3) (instOfNatNat (nat_lit 3)), closure := @List.nil (Prod PySem.Str Nat), defaults := PySem.Value.none, kwdefaults := PySem.Value.none, doc := PySem.Value.none, pyModule := PySem.Value.str (PySem.Str.ofString "law_pb0181_01") (@OfNat.ofNat Nat (nat_lit 508) (instOfNatNat (nat_lit 508))), annotations := @Option.none Nat, code := PySem.Value.ref (@OfNat.ofNat Nat (nat_lit 274) (instOfNatNat (nat_lit 274))), closureTuple := PySem.Value.none, builtins := @OfNat.ofNat Nat (nat_lit 0) (instOfNatNat (nat_lit 0)) }, slots := @List.toArray (Option PySem.Value) (@List.nil (Option PySem.Value)) } : PySem.Obj)) ::
(nat_lit 279, ({ cls := PySem.Value.type "code", dict := @Option.none Nat, data := PySem.Data.fields (@List.toArray PySem.Value (@List.cons PySem.Value (PySem.Value.str (PySem.Str.ofString "_law_octets") (@OfNat.ofNat Nat (nat_lit 533) (instOfNatNat (nat_lit 533)))) (@List.cons PySem.Value (PySem.Value.str (PySem.Str.ofString "_law_octets") (@OfNat.ofNat Nat (nat_lit 534) (instOfNatNat (nat_lit 534)))) (@List.cons PySem.Value (PySem.Value.str (PySem.Str.ofString "/claim/cut.py") (@OfNat.ofNat Nat (nat_lit 535) (instOfNatNat (nat_lit 535)))) (@List.cons PySem.Value (PySem.Value.int (@OfNat.ofNat Int (nat_lit 156) (@instOfNat (nat_lit 156))) (@OfNat.ofNat Nat (nat_lit 0) (instOfNatNat (nat_lit 0)))) (@List.cons PySem.Value (PySem.Value.int (@OfNat.ofNat Int (nat_lit 1) (@instOfNat (nat_lit 1))) (@OfNat.ofNat Nat (nat_lit 0) (instOfNatNat (nat_lit 0)))) (@List.cons PySem.Value (PySem.Value.int (@OfNat.ofNat Int (nat_lit 0) (@instOfNat (nat_lit 0))) (@OfNat.ofNat Nat (nat_lit 0) (instOfNatNat (nat_lit 0)))) (@List.cons PySem.Value (PySem.Value.int (@OfNat.ofNat Int (nat_lit 0) (@instOfNat (nat_lit 0))) (@OfNat.ofNat Nat (nat_lit 0) (instOfNatNat (nat_lit 0)))) (@List.cons PySem.Value (PySem.Value.int (@OfNat.ofNat Int (nat_lit 3) (@instOfNat (nat_lit 3))) (@OfNat.ofNat Nat (nat_lit 0) (instOfNatNat (nat_lit 0)))) (@List.cons PySem.Value (PySem.Value.ref (@OfNat.ofNat Nat (nat_lit 276) (instOfNatNat (nat_lit 276)))) (@List.cons PySem.Value (PySem.Value.bool Bool.true) (@List.cons PySem.Value (PySem.Value.int (@OfNat.ofNat Int (nat_lit 181) (@instOfNat (nat_lit 181))) (@OfNat.ofNat Nat (nat_lit 0) (instOfNatNat (nat_lit 0)))) (@List.cons PySem.Value (PySem.Value.ref (@OfNat.ofNat Nat (nat_lit 277) (instOfNatNat (nat_lit 277)))) (@List.cons PySem.Value PySem.Value.none (@List.cons PySem.Value PySem.Value.none (@List.cons PySem.Value PySem.Value.none (@List.cons PySem.Value (PySem.Value.ref (@OfNat.ofNat Nat (nat_lit 278) (instOfNatNat (nat_lit 278)))) (@List.cons PySem.Value (PySem.Value.int (@OfNat.ofNat Int (nat_lit 536) (@instOfNat (nat_lit 536))) (@OfNat.ofNat Nat (nat_lit 0) (instOfNatNat (nat_lit 0)))) (@List.cons PySem.Value (PySem.Value.int (@OfNat.ofNat Int (nat_lit 156) (@instOfNat (nat_lit 156))) (@OfNat.ofNat Nat (nat_lit 0) (instOfNatNat (nat_lit 0)))) (@List.cons PySem.Value (PySem.Value.str (PySem.Str.ofString "/claim/cut.py") (@OfNat.ofNat Nat (nat_lit 537) (instOfNatNat (nat_lit 537)))) (@List.nil PySem.Value))))))))))))))))))))), slots := @List.toArray (Option PySem.Value) (@List.nil (Option PySem.Value)) } : PySem.Obj)) ::
(nat_lit 280, ({ cls := PySem.Value.type "function", dict := @Option.none Nat, data := PySem.Data.func { name := PySem.Str.ofString "_law_octets", qualname := PySem.Str.ofString "_law_octets", params := a280, body := PySem.FuncBody.stmts b280, scope := s280, globals := @OfNat.ofNat Nat (nat_lit 3) (instOfNatNat (nat_lit 3)), closure := @List.nil (Prod PySem.Str Nat), defaults := PySem.Value.none, kwdefaults := PySem.Value.none, doc := PySem.Value.none, pyModule := PySem.Value.str (PySem.Str.ofString "law_pb0181_01") (@OfNat.ofNat Nat (nat_lit 508) (instOfNatNat (nat_lit 508))), annotations := @Option.none Nat, code := PySem.Value.ref (@OfNat.ofNat Nat (nat_lit 279) (instOfNatNat (nat_lit 279))), closureTuple := PySem.Value.none, builtins := @OfNat.ofNat Nat (nat_lit 0) (instOfNatNat (nat_lit 0)) }, slots := @List.toArray (Option PySem.Value) (@List.nil (Option PySem.Value)) } : PySem.Obj)) ::
(nat_lit 284, ({ cls := PySem.Value.type "code", dict := @Option.none Nat, data := PySem.Data.fields (@List.toArray PySem.Value (@List.cons PySem.Value (PySem.Value.str (PySem.Str.ofString "_law_told") (@OfNat.ofNat Nat (nat_lit 539) (instOfNatNat (nat_lit 539)))) (@List.cons PySem.Value (PySem.Value.str (PySem.Str.ofString "_law_told") (@OfNat.ofNat Nat (nat_lit 540) (instOfNatNat (nat_lit 540)))) (@List.cons PySem.Value (PySem.Value.str (PySem.Str.ofString "/claim/cut.py") (@OfNat.ofNat Nat (nat_lit 541) (instOfNatNat (nat_lit 541)))) (@List.cons PySem.Value (PySem.Value.int (@OfNat.ofNat Int (nat_lit 158) (@instOfNat (nat_lit 158))) (@OfNat.ofNat Nat (nat_lit 0) (instOfNatNat (nat_lit 0)))) (@List.cons PySem.Value (PySem.Value.int (@OfNat.ofNat Int (nat_lit 2) (@instOfNat (nat_lit 2))) (@OfNat.ofNat Nat (nat_lit 0) (instOfNatNat (nat_lit 0)))) (@List.cons PySem.Value (PySem.Value.int (@OfNat.ofNat Int (nat_lit 0) (@instOfNat (nat_lit 0))) (@OfNat.ofNat Nat (nat_lit 0) (instOfNatNat (nat_lit 0)))) (@List.cons PySem.Value (PySem.Value.int (@OfNat.ofNat Int (nat_lit 0) (@instOfNat (nat_lit 0))) (@OfNat.ofNat Nat (nat_lit 0) (instOfNatNat (nat_lit 0)))) (@List.cons PySem.Value (PySem.Value.int (@OfNat.ofNat Int (nat_lit 3) (@instOfNat (nat_lit 3))) (@OfNat.ofNat Nat (nat_lit 0) (instOfNatNat (nat_lit 0)))) (@List.cons PySem.Value (PySem.Value.ref (@OfNat.ofNat Nat (nat_lit 281) (instOfNatNat (nat_lit 281)))) (@List.cons PySem.Value (PySem.Value.bool Bool.true) (@List.cons PySem.Value (PySem.Value.int (@OfNat.ofNat Int (nat_lit 181) (@instOfNat (nat_lit 181))) (@OfNat.ofNat Nat (nat_lit 0) (instOfNatNat (nat_lit 0)))) (@List.cons PySem.Value (PySem.Value.ref (@OfNat.ofNat Nat (nat_lit 282) (instOfNatNat (nat_lit 282)))) (@List.cons PySem.Value PySem.Value.none (@List.cons PySem.Value PySem.Value.none (@List.cons PySem.Value PySem.Value.none (@List.cons PySem.Value (PySem.Value.ref (@OfNat.ofNat Nat (nat_lit 283) (instOfNatNat (nat_lit 283)))) (@List.cons PySem.Value (PySem.Value.int (@OfNat.ofNat Int (nat_lit 542) (@instOfNat (nat_lit 542))) (@OfNat.ofNat Nat (nat_lit 0) (instOfNatNat (nat_lit 0)))) (@List.cons PySem.Value (PySem.Value.int (@OfNat.ofNat Int (nat_lit 158) (@instOfNat (nat_lit 158))) (@OfNat.ofNat Nat (nat_lit 0) (instOfNatNat (nat_lit 0)))) (@List.cons PySem.Value (PySem.Value.str (PySem.Str.ofString "/claim/cut.py") (@OfNat.ofNat Nat (nat_lit 543) (instOfNatNat (nat_lit 543)))) (@List.nil PySem.Value))))))))))))))))))))), slots := @List.toArray (Option PySem.Value) (@List.nil (Option PySem.Value)) } : PySem.Obj)) ::
(nat_lit 285, ({ cls := PySem.Value.type "function", dict := @Option.none Nat, data := PySem.Data.func { name := PySem.Str.ofString "_law_told", qualname := PySem.Str.ofString "_law_told", params := a285, body := PySem.FuncBody.stmts b285, scope := s285, globals := @OfNat.ofNat Nat (nat_lit 3) (instOfNatNat (nat_lit 3)), closure := @List.nil (Prod PySem.Str Nat), defaults := PySem.Value.none, kwdefaults := PySem.Value.none, doc := PySem.Value.none, pyModule := PySem.Value.str (PySem.Str.ofString "law_pb0181_01") (@OfNat.ofNat Nat (nat_lit 508) (instOfNatNat (nat_lit 508))), annotations := @Option.none Nat, code := PySem.Value.ref (@OfNat.ofNat Nat (nat_lit 284) (instOfNatNat (nat_lit 284))), closureTuple := PySem.Value.none, builtins := @OfNat.ofNat Nat (nat_lit 0) (instOfNatNat (nat_lit 0)) }, slots := @List.toArray (Option PySem.Value) (@List.nil (Option PySem.Value)) } : PySem.Obj)) ::
(nat_lit 289, ({ cls := PySem.Value.type "code", dict := @Option.none Nat, data := PySem.Data.fields (@List.toArray PySem.Value (@List.cons PySem.Value (PySem.Value.str (PySem.Str.ofString "law") (@OfNat.ofNat Nat (nat_lit 545) (instOfNatNat (nat_lit 545)))) (@List.cons PySem.Value (PySem.Value.str (PySem.Str.ofString "law") (@OfNat.ofNat Nat (nat_lit 546) (instOfNatNat (nat_lit 546)))) (@List.cons PySem.Value (PySem.Value.str (PySem.Str.ofString "/claim/cut.py") (@OfNat.ofNat Nat (nat_lit 547) (instOfNatNat (nat_lit 547)))) (@List.cons PySem.Value (PySem.Value.int (@OfNat.ofNat Int (nat_lit 163) (@instOfNat (nat_lit 163))) (@OfNat.ofNat Nat (nat_lit 0) (instOfNatNat (nat_lit 0)))) (@List.cons PySem.Value (PySem.Value.int (@OfNat.ofNat Int (nat_lit 1) (@instOfNat (nat_lit 1))) (@OfNat.ofNat Nat (nat_lit 0) (instOfNatNat (nat_lit 0)))) (@List.cons PySem.Value (PySem.Value.int (@OfNat.ofNat Int (nat_lit 0) (@instOfNat (nat_lit 0))) (@OfNat.ofNat Nat (nat_lit 0) (instOfNatNat (nat_lit 0)))) (@List.cons PySem.Value (PySem.Value.int (@OfNat.ofNat Int (nat_lit 0) (@instOfNat (nat_lit 0))) (@OfNat.ofNat Nat (nat_lit 0) (instOfNatNat (nat_lit 0)))) (@List.cons PySem.Value (PySem.Value.int (@OfNat.ofNat Int (nat_lit 3) (@instOfNat (nat_lit 3))) (@OfNat.ofNat Nat (nat_lit 0) (instOfNatNat (nat_lit 0)))) (@List.cons PySem.Value (PySem.Value.ref (@OfNat.ofNat Nat (nat_lit 286) (instOfNatNat (nat_lit 286)))) (@List.cons PySem.Value (PySem.Value.bool Bool.true) (@List.cons PySem.Value (PySem.Value.int (@OfNat.ofNat Int (nat_lit 181) (@instOfNat (nat_lit 181))) (@OfNat.ofNat Nat (nat_lit 0) (instOfNatNat (nat_lit 0)))) (@List.cons PySem.Value (PySem.Value.ref (@OfNat.ofNat Nat (nat_lit 287) (instOfNatNat (nat_lit 287)))) (@List.cons PySem.Value PySem.Value.none (@List.cons PySem.Value PySem.Value.none (@List.cons PySem.Value PySem.Value.none (@List.cons PySem.Value (PySem.Value.ref (@OfNat.ofNat Nat (nat_lit 288) (instOfNatNat (nat_lit 288)))) (@List.cons PySem.Value (PySem.Value.int (@OfNat.ofNat Int (nat_lit 548) (@instOfNat (nat_lit 548))) (@OfNat.ofNat Nat (nat_lit 0) (instOfNatNat (nat_lit 0)))) (@List.cons PySem.Value (PySem.Value.int (@OfNat.ofNat Int (nat_lit 163) (@instOfNat (nat_lit 163))) (@OfNat.ofNat Nat (nat_lit 0) (instOfNatNat (nat_lit 0)))) (@List.cons PySem.Value (PySem.Value.str (PySem.Str.ofString "/claim/cut.py") (@OfNat.ofNat Nat (nat_lit 549) (instOfNatNat (nat_lit 549)))) (@List.nil PySem.Value))))))))))))))))))))), slots := @List.toArray (Option PySem.Value) (@List.nil (Option PySem.Value)) } : PySem.Obj)) ::
(nat_lit 290, ({ cls := PySem.Value.type "function", dict := @Option.none Nat, data := PySem.Data.func { name := PySem.Str.ofString "law", qualname := PySem.Str.ofString "law", params := a290, body := PySem.FuncBody.stmts b290, scope := s290, globals := @OfNat.ofNat Nat (nat_lit 3) (instOfNatNat (nat_lit 3)), closure := @List.nil (Prod PySem.Str Nat), defaults := PySem.Value.none, kwdefaults := PySem.Value.none, doc := PySem.Value.none, pyModule := PySem.Value.str (PySem.Str.ofString "law_pb0181_01") (@OfNat.ofNat Nat (nat_lit 508) (instOfNatNat (nat_lit 508))), annotations := @Option.none Nat, code := PySem.Value.ref (@OfNat.ofNat Nat (nat_lit 289) (instOfNatNat (nat_lit 289))), closureTuple := PySem.Value.none, builtins := @OfNat.ofNat Nat (nat_lit 0) (instOfNatNat (nat_lit 0)) }, slots := @List.toArray (Option PySem.Value) (@List.nil (Option PySem.Value)) } : PySem.Obj)) ::
[])  _ _ _ ⟨_, _, _, _, _, _, _, rfl⟩ _ _ _ ⟨_, _, _, _, _, _, _, rfl⟩ _ _ _ ⟨_, _, _, _, _, _, _, rfl⟩ _ _ _ ⟨_, _, _, _, _, _, _, rfl⟩ _ _ _ ⟨_, _, _, _, _, _, _, rfl⟩ _ _ _ ⟨_, _, _, _, _, _, _, rfl⟩ _ _ _ ⟨_, _, _, _, _, _, _, rfl⟩ _ _ _ ⟨_, _, _, _, _, _, _, rfl⟩ _ _ _ ⟨_, _, _, _, _, _, _, rfl⟩ _ _ _ ⟨_, _, _, _, _, _, _, rfl⟩ _ _ _ ⟨_, _, _, _, _, _, _, rfl⟩ _ _ _ ⟨_, _, _, _, _, _, _, rfl⟩ _ _ _ ⟨_, _, _, _, _, _, _, rfl⟩ _ _ _ ⟨_, _, _, _, _, _, _, rfl⟩ _ _ _ ⟨_, _, _, _, _, _, _, rfl⟩ _ _ _ ⟨_, _, _, _, _, _, _, rfl⟩ _ _ _ ⟨_, _, _, _, _, _, _, rfl⟩ _ _ _ ⟨_, _, _, _, _, _, _, rfl⟩ _ _ _ ⟨_, _, _, _, _, _, _, rfl⟩ _ _ _ ⟨_, _, _, _, _, _, _, rfl⟩

end Mine
end
section
open PySem PySem.W PyProof.Rows
open PySem.W in
local macro_rules | `(tactic| omega) => `(tactic| first | (law_purse 8000 => (law_clear; lia)) | omega +splitDisjunctions)
open PyProof.Rows in
local macro_rules | `(tactic| walk_at $s:str) => `(tactic| k_extra $s)
open PySem.W PyProof.Rows in
local macro_rules | `(tactic| k_all) => `(tactic| k_extra "k_all")
open PySem.W PyProof.Rows in
local macro_rules | `(tactic| k_inst) => `(tactic| k_extra "k_inst")
open PySem.W PyProof.Rows in
local macro_rules | `(tactic| k_mem) => `(tactic| k_extra "k_mem")
open PySem.W PyProof.Rows in
local macro_rules | `(tactic| k_enter) => `(tactic| k_extra "k_enter")
local macro_rules | `(tactic| k_room) => `(tactic| ktr_room)
local macro_rules | `(tactic| k_units) => `(tactic| ktr_units)
section
open PySem PySem.W PyProof.Rows PySem.Spec
set_option maxRecDepth 100000
namespace Mine
section
variable {α : Type} {M : Model} {A : Around} {t : Sem α} {s : Shared} {Q : α → Shared → Prop} {E : Value → Shared → Prop}
theorem cutQ (h : ∀ Q' : α → Shared → Prop, (∀ v s, Q v s → Q' v s) → wpAny M A t Q' E s) : wpAny M A t Q E s := h Q fun _ _ q => q
theorem cutE (h : wpAny M A t Q (fun _ _ => False) s) : wpAny M A t Q E s := wpAny_mono h (fun _ _ q => q) fun _ _ f => f.elim
theorem cutX (h : ∀ E' : Value → Shared → Prop, (∀ v s, E v s → E' v s) → wpAny M A t Q E' s) : wpAny M A t Q E s := h E fun _ _ q => q
end
end Mine
end
section
open PySem PySem.W PyProof.Rows PySem.Spec
set_option maxRecDepth 100000
namespace Mine
theorem kw_E1 : True := by
  w_top off
  k_with_none
  trivial
theorem fillIt (w : World) (h : Heap) : (KF w.params).In h → PySem.Challenge.rw_pb0181_01 = PySem.Challenge.rw_pb0181_01 := by
  k_fill
  intro _; rfl
def AllNe (d : Addr) (l : List (Addr × Obj)) : Prop := ∀ p ∈ l, p.1 ≠ d
theorem kw_E1_0 : True := by
  k_with "k_all" => assumption
  trivial
section
variable {prog : Program} {w : World} {p : Program} {loose : List Str} {mean : ExcName → Option Value} {mg mb : Str → Option Value}
  {dp un : Nat} {gd : Option (List Code)} {cn : Str} {cs : Scope} {a : Addr} {ccd : Value} {cl : List (Str × Addr)} {outer : List Env} {A₀ : Around} {base h₀ : Heap} {L : Addr} {m : Str → Option Value} {s : Shared} {Q E : Value → Shared → Prop}
end
open PySem.Calls Builtin
abbrev excObj (d : Option Addr) (t : Addr) : Obj := { cls := .ref 61, dict := d, data := .fields #[.ref t, .none, .none, .none, .bool false, .none] }
abbrev tupObj (vs : List Value) : Obj := { cls := .type "tuple", data := .seq vs.toArray }
section
variable {prog : Program} {w : World} {A : Around} {R : Result → Shared → Prop} {h : Heap} {g : Array GenState} {d : Drawn} {t : Nat} {os : OsState}
set_option maxHeartbeats 4000000 in
theorem exc_new (X : (KF w.params).In h) {rest : List Value}
    (hq : R (.ok (.ret (.ref (h.objs.size + 1)))) ⟨(h.push (tupObj rest)).push (excObj none h.objs.size), g, d, t, os⟩) (hrest : rest.length ≤ sizeLine) :
    codeAny (model prog w) A (.builtin "Exception.__new__" ⟨.ref 61 :: rest, []⟩) R ⟨h, g, d, t, os⟩ := by
  have F := PySem.F.excBase_Exception
  have hends := F.ends
  have hC : h.get? 61 = some (excClassObj _ _ 61 60 _ _ _ _ _ _ _ _ _ _ _ _ _ "Exception.__new__") := X _ _ (by k_is)
  have hcB : ([Value.ref 61, Value.ref 48, Value.type "Exception", Value.type "BaseException", Value.type "object"] : List Value).contains (.type "Exception") = true := by decide +kernel
  have hcA : ([Value.ref 61, Value.ref 48, Value.type "Exception", Value.type "BaseException", Value.type "object"] : List Value).contains (.type "AttributeError") = false := by decide +kernel
  have hcN : ([Value.ref 61, Value.ref 48, Value.type "Exception", Value.type "BaseException", Value.type "object"] : List Value).contains (.type "NameError") = false := by decide +kernel
  refine codeAny_builtinAt F.entry ?_
  unfold Builtin.«BaseException.__new__»
  refine _root_.PySem.wpAt_bind ?_
  show _root_.PySem.wpAt _ _ _ (stack >>= _) _ _ _
  refine _root_.PySem.wpAt_bind (_root_.PySem.wpAt_stack fun p below => _root_.PySem.wpAt_of_wpAny ?_)
  wp_walk
  refine _root_.PySem.wpAt_of_wpAny ?_
  rw [F.owner]
  repeat (first | with_reducible refine wpAny_madeHere_exc F.canon hC ?_ | with_reducible refine wpAny_loadPart_at hC ?_ | (with_reducible refine wpAny_isSubtype_exc hC ?_; first | rw [hcB] | rw [hcA] | rw [hcN]) | wp_step)
  show R _ _
  rw [Heap.size_push]
  exact hq

theorem exc_check_new (X : (KF w.params).In h) {M : Model} {E : Value → Shared → Prop} {rest : List Value} {Q : Unit → Shared → Prop} (hq : Q () ⟨h, g, d, t, os⟩) :
    wpAny M A (checkBuiltinCall "Exception.__new__" ⟨.ref 61 :: rest, []⟩) Q E ⟨h, g, d, t, os⟩ := by
  have F := PySem.F.excBase_Exception
  have hC : h.get? 61 = some (excClassObj _ _ 61 60 _ _ _ _ _ _ _ _ _ _ _ _ _ "Exception.__new__") := X _ _ (by k_is)
  have hcont : ([Value.ref 61, Value.ref 48, Value.type "Exception", Value.type "BaseException", Value.type "object"] : List Value).contains (.type "Exception") = true := by decide +kernel
  have hstar := F.noStar
  simp only [checkBuiltinCall, F.newKind, F.newSplit, F.newRow]
  repeat (first | refine wpAny_loadPart_at hC ?_ | (refine wpAny_isSubtype_exc hC ?_; rw [hcont]) | refine wpAny_staticBase_exc hC ?_ | refine wpAny_madeBy_exc hC ?_ | simp only [bne_self_eq_false, Bool.false_eq_true, if_false] | wp_step)
  exact hq

set_option maxHeartbeats 4000000 in
theorem exc_make (X : (KF w.params).In h) {rest : List Value} (hrest : rest.length ≤ sizeLine)
    (hq : codeAny (model prog w) (A.under (.builtin "type.__call__" ⟨.ref 61 :: rest, []⟩)) (.call (.ref 38) ⟨.ref (h.objs.size + 1) :: rest, []⟩) (InitBack (h.objs.size + 1) R) ⟨(h.push (tupObj rest)).push (excObj none h.objs.size), g, d, t, os⟩) :
    codeAny (model prog w) A (.call (.ref 61) ⟨rest, []⟩) R ⟨h, g, d, t, os⟩ := by
  have F := PySem.F.excBase_Exception
  have hC : h.get? 61 = some (excClassObj _ _ 61 60 _ _ _ _ _ _ _ _ _ _ _ _ _ "Exception.__new__") := X _ _ (by k_is)
  have hcC : ([Value.ref 61, Value.ref 48, Value.type "Exception", Value.type "BaseException", Value.type "object"] : List Value).contains (.ref 61) = true := by decide +kernel
  have f1 := tc_lookup
  have f2 := tc_bind (.ref 61)
  have hT : (⟨h, g, d, t, os⟩ : Shared).TypeIs (.ref 61) "type" := ⟨_, hC, rfl⟩
  refine codeAny_of_tree ?_
  show wpAny _ _ (callAny (.ref 61) _) _ _ _
  repeat (any_goals (first | assumption | with_reducible refine wpAny_loadPart_at hC ?_ | wp_step))
  refine ⟨rfl, ?_⟩
  refine codeAny_call_builtin_at (Code.quiet_builtin _ (by decide +kernel)) entry_typeCall (wpAny_check_type_call_sub hC ?_)
  repeat (first | with_reducible refine wpAny_loadPart_at hC ?_ | with_reducible refine wpAny_madeBy_exc hC ?_ | wp_step)
  refine codeAny_call_builtin_code (Code.quiet_builtin _ F.quiet) (exc_check_new X ?_)
  refine exc_new X ?_ hrest
  show wpAny _ _ _ _ _ _
  have k : ∀ b o, h.get? b = some o → ((h.push (tupObj rest)).push (excObj none h.objs.size)).get? b = some o := fun b o e => Heap.get?_push_of_some _ (Heap.get?_push_of_some _ e)
  have hC₁ := k _ _ hC
  have hget : ((h.push (tupObj rest)).push (excObj none h.objs.size)).get? (h.objs.size + 1) = some (excObj none h.objs.size) := by heap_get
  have i1 : Looks (model prog w) ((h.push (tupObj rest)).push (excObj none h.objs.size)) (typeLookup (.ref 61) "__init__") (some (.ref 38)) := looks_findIn (X.keeps k) (by k_is)
  have b1 : Looks (model prog w) ((h.push (tupObj rest)).push (excObj none h.objs.size)) (bindSpecial (.ref 38) (.ref (h.objs.size + 1))) (.ref 38, [.ref (h.objs.size + 1)]) := bind_fn (X.keeps k) _ (by k_is)
  unfold isInstance
  repeat (first | with_reducible refine wpAny_loadPart_at hget ?_ | (with_reducible refine wpAny_isSubtype_exc hC₁ ?_; rw [hcC]) | wp_step)
  have s1 : Looks (model prog w) ((h.push (tupObj rest)).push (excObj none h.objs.size)) (isSubtype (.ref 61) (.ref 61)) true := looks_mroIn (X.keeps k) (by k_is)
  have t1 : Looks (model prog w) ((h.push (tupObj rest)).push (excObj none h.objs.size)) (typeOf (.ref (h.objs.size + 1))) (.ref 61) := (Looks.ld hget).andThen .now
  refine Looks.at (r := true) s1 ?_
  dsimp only [List.append, List.append_eq, List.nil_append]
  unfold callSpecial? specialOf
  repeat (first | with_reducible refine wpAny_call ?_ | lk)
  refine codeAny_mono hq fun r s' z => ?_
  rcases r with e | (v | _ | _ | _) <;> first | exact z | exact z.elim | skip
  obtain ⟨rfl, z⟩ := z
  exact wpAny_pure (wpAny_pure z)
end
end Mine
end
section
open PySem PySem.W PyProof.Rows PySem.Spec PySem.Calls
set_option maxRecDepth 100000
namespace Mine
theorem kw_E3 : True := by
  w_top off
  k_with_none
  trivial
theorem kw_E3_0 : True := by
  k_with "k_all" => assumption
  trivial
section
variable {prog : Program} {w : World} {p : Program} {loose : List Str} {mean : ExcName → Option Value} {mg mb : Str → Option Value}
  {dp un : Nat} {gd : Option (List Code)} {cn : Str} {cs : Scope} {a : Addr} {ccd : Value} {cl : List (Str × Addr)} {outer : List Env} {A₀ : Around} {base h₀ : Heap} {L : Addr} {m : Str → Option Value} {s : Shared} {Q E : Value → Shared → Prop}
abbrev mwObj (x : Addr) : Obj := { cls := .type "method-wrapper", data := .fields #[.builtin "Exception.__init__", .ref x] }
theorem wd_slot : Slot "wrapper_descriptor" "__get__" "wrapper_descriptor.__get__" := .of (owner := "wrapper_descriptor") (n := "__get__") (by rw [typeLookup_type, builtinLookup_eq_fast]; kernel_rfl) (by decide +kernel) (by decide +kernel) (by decide +kernel)
  (by first | exact .inl (by decide +kernel) | exact .inr (by decide +kernel)) (by rw [isSubtype_type]; kernel_rfl)
theorem wd_entry : entryFor table "wrapper_descriptor.__get__" = some Builtin.«wrapper_descriptor.__get__» := entryFor_of_tree (by kernel_rfl)
theorem wd_args (a b c : Value) : argsOk "wrapper_descriptor.__get__" ⟨[a, b, c], []⟩ := by unfold argsOk; kernel_rfl
theorem wd_type : typeOf (.builtin "Exception.__init__") = pure (.type "wrapper_descriptor") := by kernel_rfl
theorem wd_isT (s : Shared) : s.TypeIs (.builtin "Exception.__init__") "wrapper_descriptor" := by
  show typeOf (.builtin "Exception.__init__") = pure (.type "wrapper_descriptor")
  exact wd_type
end
section
variable {prog : Program} {w : World} {M : Model} {A : Around} {E : Value → Shared → Prop} {h : Heap} {g : Array GenState} {d : Drawn} {t : Nat} {os : OsState}
theorem wd_run {x C : Addr} {oo : Obj} {Q : Fin → Shared → Prop} (hx : h.get? x = some oo) (hxc : oo.cls = .ref C) (hsub : Looks M h (isSubtype (.ref C) (.type "Exception")) true)
    (hq : Q (.done (.ret (.ref h.objs.size))) ⟨h.push (mwObj x), g, d, t, os⟩) :
    wpAny M A (Builtin.«wrapper_descriptor.__get__» ⟨[.builtin "Exception.__init__", .ref x, .ref C], []⟩) Q E ⟨h, g, d, t, os⟩ := by
  have t1 : Looks M h (typeOf (.ref x)) (.ref C) := (Looks.ld hx).andThen (by rw [hxc]; exact .now)
  have e : (".".intercalate ("Exception.__init__".cutAt '.').dropLast) = "Exception" := by decide +kernel
  rw [← e] at hsub
  unfold Builtin.«wrapper_descriptor.__get__»
  repeat lk
  exact hq
theorem wd_go {x C : Addr} {oo : Obj} {Q : Value → Shared → Prop} (hx : h.get? x = some oo) (hxc : oo.cls = .ref C) (hsub : Looks (model prog w) h (isSubtype (.ref C) (.type "Exception")) true)
    (hq : Q (.ref h.objs.size) ⟨h.push (mwObj x), g, d, t, os⟩) :
    wpAny (model prog w) A (call (.builtin "wrapper_descriptor.__get__") [.builtin "Exception.__init__", .ref x, .ref C]) Q E ⟨h, g, d, t, os⟩ :=
  wpAny_call_entry wd_slot (wd_isT _) wd_entry (wd_run hx hxc hsub ⟨_, rfl, hq⟩) (wd_args _ _ _)

set_option maxHeartbeats 1000000 in
theorem sup_ga (X : (KF w.params).In h) {so x : Addr} {oo : Obj} {tk : Tok} {name : Str} (hf : alongIn (KF w.params) name [Value.type "Exception", Value.type "BaseException", Value.type "object"] = some (some (.builtin "Exception.__init__"))) (hn : (name == ("__class__" : Str)) = false) {Q : Fin → Shared → Prop}
    (hso : h.get? so = some (ks_superObj 48 x 61)) (hno : Looks (model prog w) h (opaqueClassAbove (.ref 61)) none) (hx : h.get? x = some oo) (hxc : oo.cls = .ref 61) (hxC : x ≠ 61)
    (hq : Q (.done (.ret (.ref h.objs.size))) ⟨h.push (mwObj x), g, d, t, os⟩) :
    wpAny (model prog w) A (Builtin.«super.__getattribute__» ⟨[.ref so, .str name tk], []⟩) Q E ⟨h, g, d, t, os⟩ := by
  have hK : h.get? 61 = some (excClassObj _ _ 61 60 _ [Value.ref 48, Value.type "Exception", Value.type "BaseException", Value.type "object"] _ _ _ _ _ _ _ _ _ _ _ "Exception.__new__") := X _ _ (by k_is)
  have hC : Looks (model prog w) h (mroOf (.ref 61)) [Value.ref 61, Value.ref 48, Value.type "Exception", Value.type "BaseException", Value.type "object"] := ((Looks.ld (part := none) hK).andThen .now).andThen .now
  have hl : (([Value.ref 61, Value.ref 48, Value.type "Exception", Value.type "BaseException", Value.type "object"] : List Value).dropWhile (· != .ref 48)).drop 1 = [Value.type "Exception", Value.type "BaseException", Value.type "object"] := by decide +kernel
  have hne : (Value.ref x == Value.ref 61) = false := by simp [hxC]
  have hsub : Looks (model prog w) h (isSubtype (.ref 61) (.type "Exception")) true := looks_mroIn X (by k_is)
  have hdt : (ks_superObj 48 x 61).data = .fields #[.ref 48, .ref x, .ref 61] := rfl
  have f0 : (#[.ref 48, .ref x, .ref 61] : Array Value)[0]? = some (.ref 48) := rfl
  have f1 : (#[.ref 48, .ref x, .ref 61] : Array Value)[1]? = some (.ref x) := rfl
  have f2 : (#[.ref 48, .ref x, .ref 61] : Array Value)[2]? = some (.ref 61) := rfl
  have hlk := wd_slot.lookup
  have hty := wd_type
  unfold Builtin.«super.__getattribute__»
  repeat (first
    | (with_reducible refine wpAny_field hso hdt f0 ?_) | (with_reducible refine wpAny_field hso hdt f1 ?_) | (with_reducible refine wpAny_field hso hdt f2 ?_)
    | (with_reducible refine ks_wpAny_notOpaque hno ?_)
    | (with_reducible refine Looks.at hC ?_; rw [hl])
    | (refine ks_forIn_along X (fun _ _ => rfl) rfl ?_ hf)
    | (with_reducible refine wpAny_of_eq hty ?_)
    | (with_reducible refine wpAny_of_eq hlk ?_)
    | (with_reducible refine wd_go hx hxc hsub ?_)
    | (simp only [hn, hne, Bool.or_false, Bool.false_eq_true, if_false])
    | wp_step
    | dsimp only)
  exact hq

theorem sup_get (X : (KF w.params).In h) {so x : Addr} {oo : Obj} {name : Str} {pl : Sem Bool} (hf : alongIn (KF w.params) name [Value.type "Exception", Value.type "BaseException", Value.type "object"] = some (some (.builtin "Exception.__init__"))) (hn : (name == ("__class__" : Str)) = false) {Q : Value × List Value → Shared → Prop}
    (hso : h.get? so = some (ks_superObj 48 x 61)) (hno : Looks (model prog w) h (opaqueClassAbove (.ref 61)) none) (hx : h.get? x = some oo) (hxc : oo.cls = .ref 61) (hxC : x ≠ 61)
    (hq : Q (.ref h.objs.size, []) ⟨h.push (mwObj x), g, d, t + 1, os⟩) :
    wpAny (model prog w) A (getMethod (.ref so) name pl) Q E ⟨h, g, d, t, os⟩ := by
  have hlk := F.ks_slot_super_ga.lookup
  have hcan := F.ks_canon_super_ga
  have hT : ∀ t', (⟨h, g, d, t', os⟩ : Shared).TypeIs (.ref so) "super" := fun _ => ⟨_, hso, rfl⟩
  unfold getMethod
  refine wpAny_bind (wpAny_specialOf (hT _) hlk ?_)
  show wpAny _ _ (if (Manifest.canonical "super.__getattribute__" != "object.__getattribute__") = true then _ else _) _ _ _
  rw [if_pos hcan]
  unfold getAttr getAttrBy
  refine wpAny_bind (wpAny_bind (wpAny_mkText (wpAny_holding (wpAny_bind (wpAny_typeOf (hT _) (wpAny_bind (wpAny_of_eq hlk ?_)))))))
  show wpAny _ _ (getAttrByItsOwn (.ref so) (.str name t) (.type "super") (.builtin "super.__getattribute__") true false) _ _ _
  unfold getAttrByItsOwn hookBefore callGetattribute boundAndCalled
  refine wpAny_bind (wpAny_of_eq (show (if onTheHeap (.type "super") then typeLookup (.type "super") "__getattr__" else pure none) = pure none from rfl) ?_)
  refine wpAny_bind (wpAny_attempt (wpAny_holding ?_))
  show wpAny _ _ (bindSpecial (.builtin "super.__getattribute__") (.ref so) >>= _) _ _ _
  refine wpAny_bind (wpAny_of_eq (F.ks_slot_super_ga.bind _) ?_)
  refine wpAny_mono (Q := fun v s' => v = .ref h.objs.size ∧ s' = ⟨h.push (mwObj x), g, d, t + 1, os⟩) (E := fun _ _ => False)
    (wpAny_call_entry F.ks_slot_super_ga (hT _) F.ks_entry_super_ga (sup_ga X hf hn hso hno hx hxc hxC ⟨_, rfl, rfl, rfl⟩) (F.ks_gaArgs_super _ _)) (fun v s' hv => ?_) fun _ _ z => z.elim
  obtain ⟨rfl, rfl⟩ := hv
  exact wpAny_pure (wpAny_pure hq)
end
section
variable {prog : Program} {w : World} {A : Around} {E : Value → Shared → Prop} {s : Shared} {h₀ : Heap} {L : Addr} {m : Str → Option Value} {news : List (Addr × Obj)} {so x : Addr}
theorem sup_method {name : Str} {pl : Sem Bool} {Q : Value × List Value → Shared → Prop} {dd : Option Addr} {t0 : Addr} (F : Fr h₀ L s.heap m) (X₀ : (KF w.params).In h₀) (N : News h₀ L s.heap news) (hso : (so, ks_superObj 48 x 61) ∈ news) (hxn : (x, excObj dd t0) ∈ news)
    (hf : alongIn (KF w.params) name [Value.type "Exception", Value.type "BaseException", Value.type "object"] = some (some (.builtin "Exception.__init__"))) (hn : (name == ("__class__" : Str)) = false)
    (h : ∀ q h', Fr h₀ L h' m → News h₀ L h' ((q, mwObj x) :: news) → (∀ p ∈ news, p.1 < q) → Q (.ref q, []) { s with heap := h', toks := s.toks + 1 }) : wpAny (model prog w) A (getMethod (.ref so) name pl) Q E s := by
  have X : (KF w.params).In s.heap := X₀.keeps F.keep
  have hK : s.heap.get? 61 = some (excClassObj _ _ 61 60 _ [Value.ref 48, Value.type "Exception", Value.type "BaseException", Value.type "object"] _ _ _ _ _ _ _ _ _ _ _ "Exception.__new__") := X _ _ (by k_is)
  have hxC : x ≠ 61 := by
    rintro rfl
    have := (N _ hxn).1
    rw [hK] at this
    cases this
  obtain ⟨hh, g, d, t, os⟩ := s
  refine sup_get X hf hn (N _ hso).1 (looks_opaque X (by k_is)) (N _ hxn).1 rfl hxC ?_
  obtain ⟨F', N', l'⟩ := ks_newsPush (s := ⟨hh, g, d, t, os⟩) (o := mwObj x) F N rfl (Heap.get?_push_at rfl rfl) (fun b o e => Heap.get?_push_of_some _ e)
  exact h _ _ F' N' l'

theorem mw_keeps {q x : Addr} {M : Model} (hh : Heap) (H : hh.get? q = some (mwObj x)) : ∃ k, (k = Keeper.frame ∨ k = Keeper.machine ∨ k = Keeper.boundFrame) ∧ Looks M hh (keeperOf (.ref q)) k :=
  ⟨.machine, .inr (.inl rfl), (Looks.ld (part := none) H).andThen .now⟩
def MwAt (q x : Addr) (h : Heap) : Prop := h.get? q = some (mwObj x)
theorem mw_at {q : Addr} {h : Heap} (N : News h₀ L h news) (hq : (q, mwObj x) ∈ news) : MwAt q x h := (N _ hq).1
theorem mw_callWith {q : Addr} {pos : Pos} {env : Env} {e : Expr} {rest : List Expr} {first : List Value} {Q : Value → Shared → Prop} (_N : News h₀ L s.heap news) (_hq : (q, mwObj x) ∈ news)
    (h : wpAny (model prog w) A (spliced (backTo pos (starEach (e :: rest) env))) (fun vs s₁ => MwAt q x s₁.heap ∧ wpAny (model prog w) A (call (.ref q) (first ++ vs)) Q E s₁) E s)
    (he : starEach (e :: rest) env = (false, eval e env) :: starEach rest env := by rfl) (hplain : (backTo pos (starEach rest env)).any (·.1) = false := by rfl) :
    wpAny (model prog w) A (callWith pos (.ref q) first (backTo pos (starEach (e :: rest) env)) []) Q E s := by
  rw [he] at h ⊢
  exact callWith_of (P := fun hh => hh.get? q = some (mwObj x)) (by show ((false || (backTo pos (starEach rest env)).any (·.1)) || false) = false; rw [hplain]; rfl) (fun hh H => mw_keeps hh H) (evalArgs_plain h)

theorem mw_check {v : Value} {t0 : Addr} {dd : Option Addr} {Q : Unit → Shared → Prop} (X : (KF w.params).In s.heap) (hx : s.heap.get? x = some (excObj dd t0)) (hq : Q () s) : wpAny (model prog w) A (checkBoundCall "Exception.__init__" ⟨[.ref x, v], []⟩) Q E s := by
  have F := PySem.F.excBase_Exception
  have hC : s.heap.get? 61 = some (excClassObj _ _ 61 60 _ _ _ _ _ _ _ _ _ _ _ _ _ "Exception.__new__") := X _ _ (by k_is)
  have e : (Manifest.AttrKind.slot != Manifest.AttrKind.method && Manifest.AttrKind.slot != Manifest.AttrKind.classMethod) = true := by decide
  obtain ⟨hh, g, d, t, os⟩ := s
  have t1 : Looks (model prog w) hh (typeOf (.ref x)) (.ref 61) := (Looks.ld hx).andThen .now
  simp only [checkBoundCall, F.initRow, F.initKind, e, if_true]
  unfold Bind.checkArgs
  dsimp only
  repeat lk
  exact hq
theorem mw_init {q t0 : Addr} {dd : Option Addr} {v : Value} {news' : Addr → List (Addr × Obj)} {Q : Value → Shared → Prop} (F : Fr h₀ L s.heap m) (X₀ : (KF w.params).In h₀) (N : News h₀ L s.heap news) (hq : (q, mwObj x) ∈ news)
    (U : ∀ t', Upd x (excObj dd t0) (excObj dd t') news (news' t'))
    (h : ∀ t' h', Fr h₀ L h' m → News h₀ L h' ((t', tupObj [v]) :: news' t') → (∀ p ∈ news, p.1 < t') → Q .none { s with heap := h' }) :
    wpAny (model prog w) A (call (.ref q) [v]) Q E s := by
  have FB := PySem.F.excBase_Exception
  obtain ⟨hh, g, d, t, os⟩ := s
  refine wpAny_call (codeAny_of_tree ?_)
  show wpAny _ A.in1 (callAny (.ref q) ⟨[v], []⟩) _ _ _
  simp only [callAny]
  refine wpAny_bind (wpAny_load (N _ hq).1 ?_)
  simp only [show (Value.type "method-wrapper" == Value.type "method" || Value.type "method-wrapper" == Value.type "builtin_function_or_method" || Value.type "method-wrapper" == Value.type "method-wrapper") = true by decide, if_true]
  show wpAny _ _ (if (Value.type "method-wrapper" != Value.type "method") = true then _ else _) _ _ _
  rw [if_pos (by decide)]
  refine wpAny_bind (mw_check (X₀.keeps F.keep) (N (x, excObj dd t0) (by obtain ⟨pre, post, e1, _⟩ := (U 0).split; rw [e1]; simp)).1 ?_)
  refine wpAny_pure (And.intro (Code.quiet_builtin _ (by decide +kernel)) (codeAny_builtin FB.initEntry ?_))
  obtain ⟨pre, post, e1, e2, n1, n2⟩ := (U hh.objs.size).split
  have hx : hh.get? x = some (excObj dd t0) := (N (x, excObj dd t0) (by rw [e1]; simp)).1
  have N2 := N.push F (tupObj [v])
  have F2 := F.push (tupObj [v])
  rw [e1] at N2
  have hxn : hh.objs.size ≠ x := Nat.ne_of_gt (Heap.lt_size hx)
  obtain ⟨F3, N3⟩ := news_upd (f := Obj.mapFields (·.setIfInBounds 0 (.ref hh.objs.size))) (o' := excObj dd hh.objs.size) (pre := (hh.objs.size, tupObj [v]) :: pre) (post := post) F2 N2
    (fun p hp => by rcases List.mem_cons.mp hp with rfl | hp; exact hxn; exact n1 p hp) n2 rfl rfl
  show wpAny _ _ (Builtin.«BaseException.__init__» ⟨[.ref x, v], []⟩) _ _ _
  unfold Builtin.«BaseException.__init__»
  have hx2 := Heap.get?_push_of_some (tupObj [v]) hx
  refine wpAny_bind (wpAny_newObj_type ?_ (by show 1 ≤ sizeLine; rw [sizeLine_eq]; decide))
  wp_walk
  show Q .none _
  exact h hh.objs.size _ F3 (by rw [e2]; exact N3) fun p hp => Heap.lt_size (N p hp).1
end
end Mine
end
section
open PySem PySem.W PyProof.Rows PySem.Spec PySem.Calls Builtin Builtin.ObjectAttr
set_option maxRecDepth 100000
namespace Mine
theorem kw_E4 : True := by
  w_top off
  k_with_none
  trivial
theorem kw_E4_0 : True := by
  k_with "k_all" => assumption
  trivial
section
variable {prog : Program} {w : World} {p : Program} {loose : List Str} {mean : ExcName → Option Value} {mg mb : Str → Option Value}
  {dp un : Nat} {gd : Option (List Code)} {cn : Str} {cs : Scope} {a : Addr} {ccd : Value} {cl : List (Str × Addr)} {outer : List Env} {A₀ : Around} {base h₀ : Heap} {L : Addr} {m : Str → Option Value} {s : Shared} {Q E : Value → Shared → Prop}
end
section
variable {prog : Program} {w : World} {A : Around} {E : Value → Shared → Prop} {R : Result → Shared → Prop} {s : Shared} {h₀ : Heap} {L : Addr} {m : Str → Option Value} {news : List (Addr × Obj)} {x : Addr}
theorem exc_refuse (self : Value) : refuseLoop self "__setattr__" [Value.ref 61, Value.ref 48, Value.type "Exception", Value.type "BaseException", Value.type "object"] = pure () := by
  rw [refuseLoop_ref, refuseLoop_ref]
  kernel_rfl
theorem exc_open {ox : Obj} {od : Option Obj} {name : Str} {tk : Tok} {v : Value} (X : (KF w.params).In s.heap) (I : W.InstAt s.heap x ox 61 od) (ht : takerIn (KF w.params) 61 name = some none)
    (h : ∀ b, wpAny (model prog w) A.in1 (storeInOwnDict (.ref x) (.ref 61) (.str name tk) name v b)
      (fun fin s' => match fin with | .done f => R (.ok f) s' | .again c' => c'.quiet = true ∧ codeAny (model prog w) A c' R s') (fun e s' => R (.error e) s') s) :
    codeAny (model prog w) A (.call (.builtin "object.__setattr__") ⟨[.ref x, .str name tk, v], []⟩) R s := by
  have SF := PySem.F.store_object
  have hK : s.heap.get? 61 = some (excClassObj _ _ 61 60 _ [Value.ref 48, Value.type "Exception", Value.type "BaseException", Value.type "object"] _ _ _ _ _ _ _ _ _ _ _ "Exception.__new__") := X _ _ (by k_is)
  have sub : Looks (model prog w) s.heap (isInstance (.ref x) (.type "object")) true := I.type.andThen (looks_mroIn X (by k_is))
  refine codeAny_call_builtin SF.slot.plain SF.entry (@check_slot (model prog w) _ _ s "object.__setattr__" "object" "__setattr__" (.ref x) [.str name tk, v] [] _ SF.kind SF.split sub (SF.args (.ref x) (.str name tk) v) ?_)
  obtain ⟨attr, ha, hr⟩ := Option.bind_eq_some_iff.mp ht
  have hm : Looks (model prog w) s.heap (mroOf (.ref 61)) [Value.ref 61, Value.ref 48, Value.type "Exception", Value.type "BaseException", Value.type "object"] := ((Looks.ld (part := none) hK).andThen .now).andThen .now
  have L3 : Looks (model prog w) s.heap (storeTaker? attr) none := by
    cases attr with
    | none => exact .now
    | some a =>
      obtain ⟨b, hb, hc⟩ := Option.map_eq_some_iff.mp hr
      refine (looks_takesIn X hb).andThen ?_
      cases b
      · exact .now
      · cases hc
  rw [osa_eq, refuse_eq]
  refine wpAny_bind (wpAny_bind (I.type.here (wpAny_bind (hm.here ?_))))
  rw [exc_refuse]
  refine wpAny_pure (wpAny_bind (I.type.here (wpAny_bind ((looks_findIn X ha).here (wpAny_bind (L3.here ?_))))))
  exact h _

theorem store_tail {d : Addr} {name : Str} {tk : Tok} {v : Value} {es es' : List DictEntry} {n n' : Nat} {pre post : List (Addr × Obj)} {P : PySem.Fin → Shared → Prop} (F : Fr h₀ L s.heap m) (N : News h₀ L s.heap (pre ++ (d, dictOf es n) :: post))
    (hl : (getL name es).isSome = true) (n1 : ∀ p ∈ pre, p.1 ≠ d) (n2 : ∀ p ∈ post, p.1 ≠ d)
    (e : (putL name (PyData.keyHash w.params name) (.str name s.toks) v es, putN name es n) = (es', n')) (hz : es'.length ≤ 1000)
    (h : ∀ h', Fr h₀ L h' m → News h₀ L h' (pre ++ (d, dictOf es' n') :: post) → P (.done (.ret .none)) { s with heap := h', toks := s.toks + 1 }) :
    wpAny (model prog w) A (storeInDict d (.str name tk) name v) P E s := by
  obtain ⟨e1, e2⟩ := Prod.mk.inj e
  obtain ⟨U1, U2⟩ := news_upd (f := Obj.putName name (PyData.keyHash w.params name) (.str name s.toks) v) (o' := dictOf es' n') F N n1 n2 (by rw [putName_dict, e1, e2]) rfl
  have D := (N (d, dictOf es n) (by simp)).1
  have D' := (U2 (d, dictOf es' n') (by simp)).1
  unfold storeInDict newKeyGuard
  refine wpAny_bind (wpAny_pure (wpAny_bind ?_))
  unfold nsSet
  refine wpAny_bind (wpAny_bind (wpAny_askSetting (wpAny_pure (wpAny_bind (wpAny_mkText (wpAny_bind (wpAny_loadPart D ?_)))))))
  dsimp only
  have c : (!es.toArray.any (·.key.isStr name) && es.toArray.any (·.refKey)) = false := by
    have hl' : (lookIn name (dictOf es n)).isSome = true := hl
    unfold lookIn at hl'
    dsimp only at hl'
    rw [← Array.any_toList, ← Array.any_toList]
    split at hl'
    · rename_i en he
      rw [List.any_eq_true.mpr ⟨en, List.mem_of_find?_eq_some he, List.find?_some he⟩]; rfl
    · split at hl'
      · cases hl'
      · rename_i z; rw [Bool.not_eq_true] at z; rw [z, Bool.and_false]
  rw [aRefKeyMayBeTheName_at, c]
  refine wpAny_updatePart D ?_
  refine wpAny_bind (wpAny_lookBehind D' (pastItsLine_dict (by rw [List.size_toArray, sizeLine_eq]; omega)) ?_)
  exact wpAny_pure (h _ U1 U2)

theorem exc_set2 {d t0 : Addr} {name : Str} {v : Value} {es es' : List DictEntry} {n n' : Nat} {news' : List (Addr × Obj)} {Q : Unit → Shared → Prop} (F : Fr h₀ L s.heap m) (X₀ : (KF w.params).In h₀) (N : News h₀ L s.heap news) (hx : (x, excObj (some d) t0) ∈ news) (_hd : (d, dictOf es n) ∈ news)
    (ht : takerIn (KF w.params) 61 name = some none) (hl : (getL name es).isSome = true)
    (e : (putL name (PyData.keyHash w.params name) (.str name (s.toks + 1)) v es, putN name es n) = (es', n')) (U : Upd d (dictOf es n) (dictOf es' n') news news') (hz : es'.length ≤ 1000)
    (h : ∀ h', Fr h₀ L h' m → News h₀ L h' news' → Q () { s with heap := h', toks := s.toks + 2 }) :
    wpAny (model prog w) A (setAttr (.ref x) name v) Q E s := by
  have X := X₀.keeps F.keep
  obtain ⟨pre, post, rfl, rfl, n1, n2⟩ := U.split
  have I : W.InstAt s.heap x (excObj (some d) t0) 61 (some (dictOf es n)) := ⟨(N _ hx).1, rfl, rfl, (N (d, dictOf es n) (by simp)).1⟩
  have hK : s.heap.get? 61 = some (excClassObj _ _ 61 60 _ [Value.ref 48, Value.type "Exception", Value.type "BaseException", Value.type "object"] _ _ _ _ _ _ _ _ _ _ _ "Exception.__new__") := X _ _ (by k_is)
  have hc : Looks (model prog w) s.heap (classData 61) _ := (Looks.ld (part := none) hK).andThen .now
  refine set_plain X I (by k_is) (exc_open (s := { s with toks := s.toks + 1 }) X I ht fun b => ?_)
  refine wpAny_bind (wpAny_pure (wpAny_bind (wpAny_bind (wpAny_loadPart (N _ hx).1 (wpAny_bind (hc _ _ _ _ (fun _ _ e => e) ?_))))))
  refine wpAny_pure (a := some d) (wpAny_bind (wpAny_pure ?_))
  exact store_tail (s := { s with toks := s.toks + 1 }) (tk := s.toks) F N hl n1 n2 e hz h

theorem exc_set1 {t0 : Addr} {name : Str} {v : Value} {news' : Addr → List (Addr × Obj)} {Q : Unit → Shared → Prop} (F : Fr h₀ L s.heap m) (X₀ : (KF w.params).In h₀) (N : News h₀ L s.heap news) (U : ∀ d, Upd x (excObj none t0) (excObj (some d) t0) news (news' d))
    (ht : takerIn (KF w.params) 61 name = some none)
    (h : ∀ d h', Fr h₀ L h' m → News h₀ L h' ((d, dictOf [⟨PyData.keyHash w.params name, .str name (s.toks + 1), v⟩] 1) :: news' d) → (∀ p ∈ news, p.1 < d) → Q () { s with heap := h', toks := s.toks + 2 }) :
    wpAny (model prog w) A (setAttr (.ref x) name v) Q E s := by
  have X := X₀.keeps F.keep
  have hx : (x, excObj none t0) ∈ news := by obtain ⟨pre, post, e1, _⟩ := (U 0).split; rw [e1]; simp
  have I : W.InstAt s.heap x (excObj none t0) 61 none := ⟨(N _ hx).1, rfl, rfl, trivial⟩
  have hK : s.heap.get? 61 = some (excClassObj _ _ 61 60 _ [Value.ref 48, Value.type "Exception", Value.type "BaseException", Value.type "object"] _ _ _ _ _ _ _ _ _ _ _ "Exception.__new__") := X _ _ (by k_is)
  have hc : Looks (model prog w) s.heap (classData 61) _ := (Looks.ld (part := none) hK).andThen .now
  refine set_plain X I (by k_is) (exc_open (s := { s with toks := s.toks + 1 }) X I ht fun b => ?_)
  obtain ⟨hh, g, dr, tk, os⟩ := s
  obtain ⟨pre, post, e1, e2, n1, n2⟩ := (U hh.objs.size).split
  have N2 := N.push F emptyDict
  have F2 := F.push emptyDict
  have hx2 : (hh.push emptyDict).get? x = some (excObj none t0) := Heap.get?_push_of_some _ (N _ hx).1
  have hxn : hh.objs.size ≠ x := Nat.ne_of_gt (Heap.lt_size (N _ hx).1)
  rw [e1] at N2
  obtain ⟨F3, N3⟩ := news_upd (f := fun o => { o with dict := some hh.objs.size }) (o' := excObj (some hh.objs.size) t0) (pre := (hh.objs.size, emptyDict) :: pre) (post := post) F2 N2
    (fun p hp => by rcases List.mem_cons.mp hp with rfl | hp; exact hxn; exact n1 p hp) n2 rfl rfl
  refine wpAny_bind (wpAny_pure (wpAny_bind (wpAny_bind (wpAny_loadPart (N _ hx).1 (wpAny_bind (hc _ _ _ _ (fun _ _ e => e) ?_))))))
  show wpAny _ _ (alloc emptyDict >>= _) _ _ _
  refine wpAny_bind (wpAny_alloc (wpAny_bind (wpAny_update hx2 ?_)))
  refine wpAny_pure (a := some hh.objs.size) (wpAny_bind (wpAny_pure ?_))
  have N4 : News h₀ L _ ([] ++ (hh.objs.size, dictOf [] 0) :: (pre ++ (x, excObj (some hh.objs.size) t0) :: post)) := N3
  refine store_tail (s := ⟨_, g, dr, tk + 1, os⟩) (tk := tk) F3 N4 rfl (fun p hp => nomatch hp) (fun p hp => ?_) rfl (by show 1 ≤ 1000; omega) fun h' F5 N5 => ?_
  · rcases List.mem_append.mp hp with q | q
    · exact Nat.ne_of_lt (Heap.lt_size (N p (by rw [e1]; exact List.mem_append_left _ q)).1)
    · rcases List.mem_cons.mp q with rfl | q
      · exact hxn.symm
      · exact Nat.ne_of_lt (Heap.lt_size (N p (by rw [e1]; exact List.mem_append_right _ (.tail _ q))).1)
  · refine h hh.objs.size h' F5 (by rw [e2]; exact N5) fun p hp => Heap.lt_size (N p hp).1
end
end Mine
end
section
open PySem PySem.W PyProof.Rows PySem.Spec
set_option maxRecDepth 100000
namespace Mine
theorem kw_E2 : True := by
  w_top off
  k_with_none
  trivial
theorem kw_E2_0 : True := by
  k_with "k_all" => assumption
  trivial
section
variable {prog : Program} {w : World} {p : Program} {loose : List Str} {mean : ExcName → Option Value} {mg mb : Str → Option Value}
  {dp un : Nat} {gd : Option (List Code)} {cn : Str} {cs : Scope} {a : Addr} {ccd : Value} {cl : List (Str × Addr)} {outer : List Env} {A₀ : Around} {base h₀ : Heap} {L : Addr} {m : Str → Option Value} {s : Shared} {Q E : Value → Shared → Prop}
theorem exc_inst0 {x t : Addr} {news : List (Addr × Obj)} {h : Heap} (N : News h₀ L h news) (hm : (x, excObj none t) ∈ news) : W.InstAt h x (excObj none t) 61 none :=
  ⟨(N _ hm).1, rfl, rfl, trivial⟩
theorem exc_instD {x t d : Addr} {news : List (Addr × Obj)} {h : Heap} {es : List DictEntry} {n : Nat} (N : News h₀ L h news) (hm : (x, excObj (some d) t) ∈ news) (hd : (d, dictOf es n) ∈ news) : W.InstAt h x (excObj (some d) t) 61 (some (dictOf es n)) :=
  ⟨(N _ hm).1, rfl, rfl, (N _ hd).1⟩
theorem kw_E2_1 : True := by
  k_with "k_inst" => first | exact exc_inst0 (by k_asm) (by k_mem) | exact exc_instD (by k_asm) (by k_mem) (by k_mem)
  k_with "getMethod ref" => (k_here; (with_reducible show wpAny _ _ (getMethod (Value.ref _) (Str.ofString "__init__") _) _ _ _); k_dflt (refine' sup_method ?k1 ?k2 ?k3 ?k4 ?k5 ?k6 ?k7 ?_; (case k1 => k_asm); (case k2 => k_asm); (case k3 => k_asm); (case k4 => k_mem); (case k5 => k_mem); (case k6 => kernel_rfl); (case k7 => decide +kernel); intro q' h' F' N' l1; (try k_lt l1)))
  k_with "callWith ref" => (k_here; k_dflt (refine' mw_callWith ?k1 ?k2 ?_; (case k1 => k_asm); (case k2 => k_mem); k_whole))
  k_with "MwAt" => exact mw_at (by k_asm) (by k_mem)
  k_with "MwAt ref" => exact mw_at (by k_asm) (by k_mem)
  k_with "call ref" => (k_here; (try dsimp only [List.nil_append, List.cons_append]); (with_reducible show wpAny _ _ (call (Value.ref _) [Value.str _ _]) _ _ _); k_dflt (refine' mw_init ?k1 ?k2 ?k3 ?k4 ?k5 ?_; (case k1 => k_asm); (case k2 => k_asm); (case k3 => k_asm); (case k4 => k_mem); (case k5 => (intro t'; k_upd)); intro t' h' F' N' l1; (try k_lt l1)))
  k_with "setAttr ref" => (k_here; k_dflt (first
  | (refine' exc_set1 ?k1 ?k2 ?k3 ?k4 ?k5 ?_; (case k1 => k_asm); (case k2 => k_asm); (case k3 => k_asm); (case k4 => (intro d'; k_upd)); (case k5 => k_is); intro d' h' F' N' l1; (try k_lt l1))
  | (refine' exc_set2 ?k1 ?k2 ?k3 ?k4 ?k0 ?k5 ?k6 ?k7 ?k8 ?k9 ?_; (case k1 => k_asm); (case k2 => k_asm); (case k3 => k_asm); (case k4 => k_mem); (case k0 => k_mem); (case k5 => k_is); (case k6 => k_get); (case k7 => k_put); (case k8 => k_upd); (case k9 => exact Nat.le_of_ble_eq_true rfl); intro h' F' N')))
  trivial
theorem pick3 {h : Heap} {news l : List (Addr × Obj)} {e d t : Addr} {o1 o2 o3 : Obj} (N : News h₀ L h l) (h1 : (e, o1) ∈ l) (h2 : (d, o2) ∈ l) (h3 : (t, o3) ∈ l) (hs : ∀ p ∈ news, p ∈ l) : News h₀ L h ((e, o1) :: (d, o2) :: (t, o3) :: news) := by
  intro p hp
  rcases List.mem_cons.mp hp with rfl | hp
  · exact N _ h1
  rcases List.mem_cons.mp hp with rfl | hp
  · exact N _ h2
  rcases List.mem_cons.mp hp with rfl | hp
  · exact N _ h3
  exact N _ (hs p hp)
theorem allLt_mem {d : Addr} {l : List (Addr × Obj)} (h : AllLt d l) : ∀ p ∈ l, p.1 < d := by
  induction l with
  | nil => intro p hp; cases hp
  | cons q r ih =>
    intro p hp
    rcases List.mem_cons.mp hp with rfl | hp
    · exact h.1
    · exact ih h.2 p hp
theorem allne_of {d : Addr} {l : List (Addr × Obj)} (h : AllLt d l) : ∀ p ∈ l, p.1 ≠ d := by
  induction l with
  | nil => intro p hp; cases hp
  | cons q r ih =>
    intro p hp
    rcases List.mem_cons.mp hp with rfl | hp
    · exact Nat.ne_of_lt h.1
    · exact ih h.2 p hp
theorem allne_lt {d : Addr} {l : List (Addr × Obj)} (h : ∀ p ∈ l, p.1 < d) : ∀ p ∈ l, p.1 ≠ d := fun p hp => Nat.ne_of_lt (h p hp)
theorem alllt_trans {d e : Addr} {l : List (Addr × Obj)} (h : ∀ p ∈ l, p.1 < d) (k : d < e) : ∀ p ∈ l, p.1 ≠ e := fun p hp => Nat.ne_of_lt (Nat.lt_trans (h p hp) k)
theorem kw_E2_2 : True := by
  k_with "k_all" => first | assumption | exact allne_lt (by assumption) | exact allne_of (by assumption) | exact allne_of (And.right (by assumption)) | exact allne_of (And.right (And.right (by assumption))) | exact allne_of (And.right (And.right (And.right (by assumption)))) | exact allne_of (And.right (And.right (And.right (And.right (by assumption))))) | exact allne_of (And.right (And.right (And.right (And.right (And.right (by assumption)))))) | exact allne_of (And.right (And.right (And.right (And.right (And.right (And.right (by assumption))))))) | exact allne_of (And.right (And.right (And.right (And.right (And.right (And.right (And.right (by assumption)))))))) | exact allne_of (And.right (And.right (And.right (And.right (And.right (And.right (And.right (And.right (by assumption))))))))) | exact allne_of (And.right (And.right (And.right (And.right (And.right (And.right (And.right (And.right (And.right (by assumption)))))))))) | exact allne_of (And.right (And.right (And.right (And.right (And.right (And.right (And.right (And.right (And.right (And.right (by assumption))))))))))) | exact allne_of (And.right (And.right (And.right (And.right (And.right (And.right (And.right (And.right (And.right (And.right (And.right (by assumption)))))))))))) | exact allne_of (And.right (And.right (And.right (And.right (And.right (And.right (And.right (And.right (And.right (And.right (And.right (And.right (by assumption))))))))))))) | exact allne_of (And.right (And.right (And.right (And.right (And.right (And.right (And.right (And.right (And.right (And.right (And.right (And.right (And.right (by assumption)))))))))))))) | exact alllt_trans (by assumption) (by first | assumption | (refine ltN ?_; omega))
  trivial
set_option maxHeartbeats 8000000 in
theorem exc_c (B : Below A₀ base outer h₀) (F : Fr h₀ L s.heap m) (X : (KF w.params).In h₀) (T : Top p loose mean mg mb h₀) (hk : cs.kind = .function) (hd : dp + 4 < recursionLimit) (hu : un + 40 < cLine)
  {x : Str} {at_ : Int} {tx ta : Tok} {news : List (Addr × Obj)} (N : News h₀ L s.heap news)
  (hret : ∀ e d t es k tk' h' k', Fr h₀ L h' m → News h₀ L h' ((e, excObj (some d) t) :: (d, dictOf es k) :: (t, tupObj [.str x tx]) :: news) → getL "at" es = some (some (.int at_ tk')) → (∀ p ∈ news, p.1 < t ∧ p.1 < d ∧ p.1 < e) → e ≠ d → e ≠ t → d ≠ t → Q (.ref e) { s with heap := h', toks := k' }) :
  wpAny (model PySem.Challenge.rw_pb0181_01.row.prog w) (ktrTop dp un gd cn cs L a ccd cl outer) (call (.ref 61) [.str x tx, .int at_ ta]) Q E s := by
  have F2 : Fr h₀ L ((s.heap.push (tupObj [.str x tx, .int at_ ta])).push (excObj none s.heap.objs.size)) m := (F.push _).push _
  have N2 : News h₀ L ((s.heap.push (tupObj [.str x tx, .int at_ ta])).push (excObj none s.heap.objs.size)) ((s.heap.objs.size + 1, excObj none s.heap.objs.size) :: (s.heap.objs.size, tupObj [.str x tx, .int at_ ta]) :: news) := by
    have := (N.push F (tupObj [.str x tx, .int at_ ta])).push (F.push _) (excObj none s.heap.objs.size)
    rwa [Heap.size_push] at this
  have lN : ∀ p ∈ news, p.1 < s.heap.objs.size := fun p hp => Heap.lt_size (N p hp).1
  have l2 : s.heap.objs.size < s.heap.objs.size + 1 := Nat.lt_succ_self _
  refine wpAny_call ?_
  obtain ⟨hp, g, dr, tk, os⟩ := s
  refine exc_make (X.keeps F.keep) (by show 2 ≤ sizeLine; rw [sizeLine_eq]; decide) ?_
  dsimp only at F2 N2 lN l2 ⊢
  generalize hp.objs.size + 1 = e0 at *
  generalize hp.objs.size = t0 at *
  generalize (hp.push (tupObj [.str x tx, .int at_ ta])).push (excObj none t0) = h2 at *
  clear N F
  k_dflt (refine' ks_code_super ?k1 ?k2 ?k3 ?k4 ?k5 ?kA ?kF ?kK ?k6 ?k7 ?k8 ?k9 ?kB ?_ ?c1 ?c2 ?c3 ?c4; (case kA => exact rfl); (case kF => exact rfl); (case kK => exact hk); (case k1 => k_asm); (case k2 => k_asm); (case k3 => k_asm); (case k4 => k_asm); (case k5 => k_asm); (case k6 => k_is); (case k7 => k_is); (case k8 => ktr_room); (case k9 => exact binds_K (by k_in) rfl (by k_is) rfl rfl rfl); (case kB => exact locs rfl); (case c1 => decide); (case c2 => exact rfl); (case c3 => exact rfl); (case c4 => exact rfl); intro g' L' h' FG' F' N' B' X' T' l1; (try k_lt l1); (try dsimp only); (try k_lift B'))
  k_steps
  rename Fr h₀ L _ m => FF
  rename News h₀ L _ _ => NF
  rename _ ∧ _ ∧ _ ∧ _ ∧ AllLt _ _ => lt
  rename _ ∧ _ ∧ _ ∧ _ ∧ _ ∧ AllLt _ _ => ld
  obtain ⟨a1, a2, a3, a4, a5⟩ := lt
  obtain ⟨b1, b2, b3, b4, b5, b6⟩ := ld
  refine hret e0 _ _ _ _ _ _ _ FF (pick3 NF (by k_mem) (by k_mem) (by k_mem) fun p hp => ?_) (by k_get) (fun p hp => ⟨allLt_mem a5 p hp, allLt_mem b6 p hp, Nat.lt_trans (lN p hp) l2⟩) (Nat.ne_of_lt b4) (Nat.ne_of_lt a3) (Nat.ne_of_gt b1)
  iterate 6 refine List.mem_cons_of_mem _ ?_
  exact hp
end
end Mine
end
section
open PySem PySem.W PyProof.Rows PySem.Spec PySem.Calls Builtin Builtin.ObjectAttr
set_option maxRecDepth 100000
namespace Mine
theorem kw_E5 : True := by
  w_top off
  k_with_none
  trivial
theorem kw_E5_0 : True := by
  k_with "k_all" => assumption
  trivial
section
variable {prog : Program} {w : World} {p : Program} {loose : List Str} {mean : ExcName → Option Value} {mg mb : Str → Option Value}
  {dp un : Nat} {gd : Option (List Code)} {cn : Str} {cs : Scope} {a : Addr} {ccd : Value} {cl : List (Str × Addr)} {outer : List Env} {A₀ : Around} {base h₀ : Heap} {L : Addr} {m : Str → Option Value} {s : Shared} {Q E : Value → Shared → Prop}
end
section
variable {prog : Program} {w : World} {A : Around} {E : Value → Shared → Prop} {s : Shared} {env : Env}
def ExcHere (w : World) (v : Value) (s : Shared) : Prop := ∃ e d t, v = .ref e ∧ s.heap.get? e = some (excObj (some d) t) ∧ (KF w.params).In s.heap
theorem exc_raise {e : PySem.Expr} {pos : Pos} {Q : Flow → Shared → Prop} (hh : A.handled = none)
    (h : wpAny (model prog w) A (eval e env) (fun v s₁ => ExcHere w v s₁ ∧ E v s₁) E s) : wpAny (model prog w) A (exec (.Raise (some e) none pos) env) Q E s := by
  rw [arm_exec_Raise]
  show wpAny _ _ (standAt pos >>= fun _ => raiseStmt env (some (eval e env >>= fun v => standAt pos >>= fun _ => pure v)) none) _ _ _
  refine wpAny_bind (wpAny_standAt ?_)
  unfold raiseStmt
  refine wpAny_bind (wpAny_bind (wpAny_mono h (fun v s₁ h₁ => wpAny_bind (wpAny_standAt (wpAny_pure ?_))) fun _ _ x => x))
  obtain ⟨⟨x, d, t, rfl, hx, X⟩, hE⟩ := h₁
  have hC : s₁.heap.get? 61 = some (excClassObj _ _ 61 60 _ [Value.ref 48, Value.type "Exception", Value.type "BaseException", Value.type "object"] _ _ _ _ _ _ _ _ _ _ _ "Exception.__new__") := X _ _ (by k_is)
  have hcB : ([Value.ref 61, Value.ref 48, Value.type "Exception", Value.type "BaseException", Value.type "object"] : List Value).contains (.type "BaseException") = true := by decide +kernel
  obtain ⟨hp, g, dr, tk, os⟩ := s₁
  dsimp only at hx hC X
  have t1 : Looks (model prog w) hp (typeOf (.ref x)) (.ref 61) := (Looks.ld hx).andThen .now
  have s1 : Looks (model prog w) hp (isSubtype (.ref 61) (.type "BaseException")) true := looks_mroIn X (by k_is)
  repeat lk
  exact wpAny_handled (by rw [hh]; exact wpAny_throw hE)
end
end Mine
end
section
open PySem PySem.W PyProof.Rows PySem.Spec PySem.Calls
set_option maxRecDepth 100000
namespace Mine
def HasD (e : Addr) (dd : Option Addr) (h : Heap) : Prop := ∃ o, h.get? e = some o ∧ o.dict = dd
inductive Tame {α : Type} : Sem α → Prop
  | pure (a : α) : Tame (.pure a)
  | raise (e : Value) : Tame (.raise e)
  | unsupported (x : String) : Tame (.unsupported x)
  | rule {t : String} {k : Unit → Sem α} (h : ∀ u, Tame (k u)) : Tame (.rule t k)
  | «at» {p : Pos} {k : Unit → Sem α} (h : ∀ u, Tame (k u)) : Tame (.at p k)
  | load {a : Addr} {q : Option Value} {k : Obj → Sem α} (h : ∀ o, Tame (k o)) : Tame (.load a q k)
  | update {a : Addr} {q : Option Value} {f : Obj → Obj} {k : Unit → Sem α} (hf : ∀ o, (f o).dict = o.dict ∧ (f o).isFreed = o.isFreed) (h : ∀ u, Tame (k u)) : Tame (.update a q f k)
  | alloc {o : Obj} {k : Addr → Sem α} (h : ∀ a, Tame (k a)) : Tame (.alloc o k)
  | fresh {k : Tok → Sem α} (h : ∀ t, Tame (k t)) : Tame (.fresh k)
  | stack {k : List (Code × Pos) → Sem α} (h : ∀ l, Tame (k l)) : Tame (.stack k)
  | ask {k : Setting → Sem α} (h : ∀ l, Tame (k l)) : Tame (.ask k)
theorem Tame.bind {α β : Type} {m : Sem α} {f : α → Sem β} (hm : Tame m) (hf : ∀ a, Tame (f a)) : Tame (m >>= f) := by
  show Tame (m.bind f)
  induction hm with
  | pure a => exact hf a
  | raise e => exact .raise e
  | unsupported x => exact .unsupported x
  | rule _ ih => exact .rule ih
  | «at» _ ih => exact .at ih
  | load _ ih => exact .load ih
  | update h1 _ ih => exact .update h1 ih
  | alloc _ ih => exact .alloc ih
  | fresh _ ih => exact .fresh ih
  | stack _ ih => exact .stack ih
  | ask _ ih => exact .ask ih
theorem HasD.update {e a : Addr} {dd : Option Addr} {h : Heap} {f : Obj → Obj} (hf : ∀ o, (f o).dict = o.dict ∧ (f o).isFreed = o.isFreed) (H : HasD e dd h) : HasD e dd (h.update a f) := by
  obtain ⟨o, ho, hd⟩ := H
  by_cases q : a = e
  · subst q
    exact ⟨f o, Heap.get?_update_self f ho (by rw [(hf o).2]; exact (Heap.get?_some_iff.mp ho).2), by rw [(hf o).1]; exact hd⟩
  · exact ⟨o, by rw [Heap.get?_update_other _ _ q]; exact ho, hd⟩
theorem HasD.push {e : Addr} {dd : Option Addr} {h : Heap} {o : Obj} (H : HasD e dd h) : HasD e dd (h.push o) := by
  obtain ⟨o', ho, hd⟩ := H
  exact ⟨o', Heap.get?_push_of_some _ ho, hd⟩
theorem wp_tame {α : Type} {M : Model} {Γ : PySem.Ctx} {e : Addr} {dd : Option Addr} {t : Sem α} (ht : Tame t) {Q : α → Pos → Shared → Prop} {E : Value → Pos → Shared → Prop} :
    ∀ (p : Pos) (s : Shared), HasD e dd s.heap → Sem.wp M Γ t Q E p s → Sem.wp M Γ t (fun a p s' => Q a p s' ∧ HasD e dd s'.heap) (fun v p s' => E v p s' ∧ HasD e dd s'.heap) p s := by
  induction ht with
  | pure a => exact fun p s H h => ⟨h, H⟩
  | raise e => exact fun p s H h => ⟨h, H⟩
  | unsupported x => exact fun p s H h => h
  | rule _ ih => exact fun p s H h => ih () p s H h
  | «at» _ ih => exact fun p s H h => ih () _ s H h
  | load _ ih => exact fun p s H ⟨o, ho, h⟩ => ⟨o, ho, ih o p s H h⟩
  | update h1 _ ih => exact fun p s H ⟨ha, h⟩ => ⟨ha, ih () p _ (H.update h1) h⟩
  | alloc _ ih => exact fun p s H h => ih _ p _ H.push h
  | fresh _ ih => exact fun p s H h => ih _ p _ H h
  | stack _ ih => exact fun p s H h => ih _ p _ H h
  | ask _ ih => exact fun p s H h => ih _ p _ H h
theorem any_tame {α : Type} {M : Model} {A : Around} {e : Addr} {dd : Option Addr} {t : Sem α} (ht : Tame t) {Q : α → Shared → Prop} {E : Value → Shared → Prop} {s : Shared} (H : HasD e dd s.heap) (h : wpAny M A t Q E s) :
    wpAny M A t (fun a s' => Q a s' ∧ HasD e dd s'.heap) (fun v s' => E v s' ∧ HasD e dd s'.heap) s := fun Γ p hΓ => wp_tame ht p s H (h Γ p hΓ)
theorem Tame.field (v : Value) (i : Nat) : Tame (field v i) := by
  unfold PySem.field fieldsOf
  refine Tame.bind ?_ fun a => ?_
  · cases v with
    | ref a =>
      refine Tame.bind (.load fun o => .pure _) fun o => ?_
      cases o.data <;> first | exact .pure _ | exact .unsupported _
    | _ => exact .unsupported _
  · split
    · exact .pure _
    · exact .unsupported _
theorem mapFields_tame (g : Array Value → Array Value) (o : Obj) : (o.mapFields g).dict = o.dict ∧ (o.mapFields g).isFreed = o.isFreed := by
  obtain ⟨c, d, dt, sl⟩ := o
  cases dt <;> exact ⟨rfl, rfl⟩
theorem Tame.setField (v : Value) (i : Nat) (x : Value) : Tame (setField v i x) := by
  unfold PySem.setField updateField
  cases v with
  | ref a =>
    refine Tame.bind (.load fun o => .pure _) fun o => ?_
    split
    · split
      · exact .update (mapFields_tame _) fun _ => .pure _
      · exact .unsupported _
    · exact .unsupported _
  | _ => exact .unsupported _
theorem Tame.setFlight (v : Value) (f : Option Addr) : Tame (setFlight v f) := by
  unfold PySem.setFlight
  refine Tame.bind (Tame.field _ _) fun tb => ?_
  split
  · exact Tame.setField _ _ _
  · exact .pure _
theorem Tame.entryPlaceOf (f : Addr) (b : Bool) : Tame (entryPlaceOf f b) := by
  unfold PySem.entryPlaceOf
  refine Tame.bind (.stack fun l => .pure _) fun acts => ?_
  split <;> exact .pure _
theorem Tame.newEntry (a b c d e : Value) (l : List Value) : Tame (EntryCells.newEntry a b c d e l) := by
  unfold EntryCells.newEntry newFields newObj newObjAsIs
  dsimp only
  generalize (if l.isEmpty = true then List.replicate 6 Value.none else l) = l'
  split
  · exact .unsupported _
  · exact .alloc fun a => .pure _
theorem Tame.frameEnvs : Tame frameEnvs := .stack fun _ => .pure _
theorem Tame.behindIsImport (env : Env) (o : List Env) : Tame (behindIsImport env o) := by
  unfold PySem.behindIsImport
  split
  · exact .pure _
  · split
    · exact .pure _
    · exact Tame.bind (Tame.field _ _) fun _ => .pure _
theorem Tame.keptBack (env : Env) (b : Bool) (o : List Env) : Tame (keptBack env b o) := by
  cases o with
  | nil =>
    simp only [PySem.keptBack]
    split
    · exact .pure _
    · exact Tame.bind (.stack fun _ => .pure _) fun _ => .pure _
  | cons c r => exact .pure _
theorem Tame.readyFrames : ∀ l : List Env, Tame (readyFrames l)
  | [] => .pure _
  | env :: outer => by
    unfold PySem.readyFrames
    split
    · refine Tame.bind (.load fun o => .pure _) fun o => ?_
      split
      · exact .pure _
      · refine Tame.bind (Tame.behindIsImport _ _) fun b => Tame.bind (Tame.keptBack _ _ _) fun v => Tame.bind ?_ fun _ => Tame.readyFrames outer
        exact .update (fun o => ⟨rfl, kts_isFreed o _⟩) fun _ => .pure _
    · exact .unsupported _
theorem Tame.frameOf (env : Env) : Tame (frameOf env) := by
  unfold PySem.frameOf
  refine Tame.bind Tame.frameEnvs fun l => Tame.bind ?_ fun r => ?_
  · generalize l.dropWhile _ = l'
    cases l' with
    | nil => exact .pure _
    | cons e o => exact Tame.bind (Tame.readyFrames _) fun _ => .pure _
  · cases r with
    | none => exact .unsupported _
    | some f => exact .pure _
theorem Tame.noteFrame (v : Value) (env : Env) : Tame (noteFrame v env) := by
  unfold PySem.noteFrame
  split
  · refine Tame.bind (Tame.field _ _) fun head => ?_
    have tail : ∀ (f : Addr) (x : PUnit), Tame (do let a ← PySem.frameOf env; let pl ← PySem.entryPlaceOf f (head != .none); let b ← EntryCells.newEntry head a .none (rawInt f) .none pl; PySem.setField v 1 b) := fun f _ =>
      Tame.bind (Tame.frameOf _) fun _ => Tame.bind (Tame.entryPlaceOf _ _) fun _ => Tame.bind (Tame.newEntry _ _ _ _ _ _) fun _ => Tame.setField _ _ _
    split
    · refine Tame.bind (Tame.field _ _) fun x => ?_
      split
      · exact .pure _
      · exact Tame.bind (Tame.setField _ _ _) (tail _)
    · exact tail _ ⟨⟩
  · exact .unsupported _
theorem Tame.leaving (env : Env) (v : Value) : Tame (leaving env v) := Tame.bind (Tame.noteFrame _ _) fun _ => Tame.setFlight _ _
end Mine
end
section
open PySem PySem.W PyProof.Rows PySem.Spec PySem.Calls
set_option maxRecDepth 100000
namespace Mine
section
variable {M : Model} {A : Around} {E : Value → Shared → Prop} {s' : Shared} {base g g₂ : Heap} {outer : List Env} {L a e t d : Addr} {m : Str → Option Value} {name : Str} {scope : Scope} {cd : Value} {Q : Unit → Shared → Prop} {news : List (Addr × Obj)} {vs : List Value}
theorem leave_raiseD (K : Below A base outer g) (F : Fr g L s'.heap m) (N : News g L s'.heap ((e, excObj (some d) t) :: (t, tupObj vs) :: news)) (het : e ≠ t) (hne : ∀ q ∈ news, q.1 ≠ e ∧ q.1 ≠ t)
    (hQ : ∀ h', RaisedS base g outer e (.ref 61) t vs news h' → HasD e (some d) h' → g.UpToSlots h' → Q () { s' with heap := h' }) (hk : scope.kind = .function := by rfl) :
    wpAny M (A.deeper (envOf name scope L a cd)) (leaving (envOf name scope L a cd) (.ref e)) Q E s' := by
  have K' := K.push (name := name) (a := a) (cd := cd) F hk
  have Ne := N _ (List.Mem.head _)
  have Nt := N _ (List.Mem.tail _ (List.Mem.head _))
  have fr : ∀ b, b ∈ (envOf name scope L a cd :: outer).filterMap (·.frame) → b = L ∨ ∃ o, g.get? b = some o := fun b hm => by
    rcases kts_mem hm with z | z
    · exact .inl z
    · obtain ⟨_, o, ho, _⟩ := K.frames.mem z
      exact .inr ⟨o, ho⟩
  have hin : ∀ env ∈ (envOf name scope L a cd :: outer), ∀ b, env.frame = some b → b ∈ e :: t :: (envOf name scope L a cd :: outer).filterMap (·.frame) := fun env he b hb => .tail _ (.tail _ (List.mem_filterMap.mpr ⟨env, he, hb⟩))
  have st : base.StaysIn (hideAll s'.heap (e :: t :: (envOf name scope L a cd :: outer).filterMap (·.frame))) := fun b o q => hideAll_get _ (K'.stays b o q) fun hm => by
    rcases List.mem_cons.mp hm with rfl | hm
    · have := K.stays _ _ q; rw [Ne.2.2] at this; cases this
    rcases List.mem_cons.mp hm with rfl | hm
    · have := K.stays _ _ q; rw [Nt.2.2] at this; cases this
    rw [(K'.frames.mem hm).1] at q; cases q
  have sg : ∀ b o, g.get? b = some o → b ∉ outer.filterMap (·.frame) → (hideAll s'.heap (e :: t :: (envOf name scope L a cd :: outer).filterMap (·.frame))).get? b = some o := fun b o q nm => hideAll_get _ (F.keep b o q) fun hm => by
    rcases List.mem_cons.mp hm with rfl | hm
    · rw [Ne.2.2] at q; cases q
    rcases List.mem_cons.mp hm with rfl | hm
    · rw [Nt.2.2] at q; cases q
    rcases kts_mem hm with z | z
    · rw [z, kts_self F] at q
      cases q
    · exact nm z
  have hl : ∀ q ∈ news, (hideAll s'.heap (e :: t :: (envOf name scope L a cd :: outer).filterMap (·.frame))).get? q.1 = some q.2 ∧ g.get? q.1 = none ∧ base.get? q.1 = none := fun q hq => by
    have Nq := N q (.tail _ (.tail _ hq))
    refine ⟨hideAll_get _ Nq.1 fun hm => ?_, Nq.2.2, fresh_of_stays K.stays Nq.2.2⟩
    rcases List.mem_cons.mp hm with z | hm
    · exact (hne q hq).1 z
    rcases List.mem_cons.mp hm with z | hm
    · exact (hne q hq).2 z
    rcases fr _ hm with z | ⟨o, ho⟩
    · exact Nq.2.1 z
    · rw [Nq.2.2] at ho; cases ho
  have hen : (hideAll s'.heap (e :: t :: (envOf name scope L a cd :: outer).filterMap (·.frame))).get? e = none := hideAll_none _ (List.Mem.head _)
  have htn : (hideAll s'.heap (e :: t :: (envOf name scope L a cd :: outer).filterMap (·.frame))).get? t = none := hideAll_none _ (List.Mem.tail _ (List.Mem.head _))
  have tup : s'.heap.TupAt t vs := ⟨_, 0, Nt.1, rfl, rfl⟩
  refine wpAny_mono (any_tame (Tame.leaving _ _) ⟨_, Ne.1, rfl⟩ (wpAny_leaving_firstW (Q := fun _ s₂ => ∃ h', s₂ = { s' with heap := h' } ∧ Heap.LeftW _ _ e (.ref 61) (.ref t) s'.heap h') K'.stack (funFrames_hide K'.frames hin) rfl Ne.1 (fun b o q => of_hideAll _ q) hen rfl rfl rfl fun h' hL => ⟨h', rfl, hL⟩)) (fun _ s₂ h₂ => ?_) fun _ _ z => z.1
  obtain ⟨⟨h', rfl, k1, ⟨_, _, k2⟩, k3, k4⟩, H⟩ := h₂
  exact hQ h' ⟨⟨_, st, sg, hl, ⟨k1, hen, k2, k3⟩, htn⟩, tup.of_slots k4⟩ H ((Heap.UpToSlots.of_keeps F.keep).trans k4)

theorem leave_onD (K : Below A base outer g) (F : Fr g L g₂ m) (R : RaisedS base g₂ (envOf name scope L a cd :: outer) e (.ref 61) t vs news s'.heap) (H : HasD e (some d) s'.heap) (hsm : g₂.UpToSlots s'.heap)
    (hQ : ∀ h', RaisedS base g outer e (.ref 61) t vs news h' → HasD e (some d) h' → g.UpToSlots h' → Q () { s' with heap := h' }) :
    wpAny M (A.deeper (envOf name scope L a cd)) (leaving (envOf name scope L a cd) (.ref e)) Q E s' := by
  refine wpAny_mono (any_tame (Tame.leaving _ _) H (leave_onS (Q := fun _ s₂ => ∃ h', s₂ = { s' with heap := h' } ∧ RaisedS base g outer e (.ref 61) t vs news h' ∧ g.UpToSlots h') K F R hsm fun h' x1 x2 x3 => ⟨h', rfl, x1, x3⟩)) (fun _ s₂ h₂ => ?_) fun _ _ z => z.1
  obtain ⟨⟨h', rfl, x1, x3⟩, H⟩ := h₂
  exact hQ h' x1 H x3
end
section
variable {prog : Program} {w : World} {A₀ : Around} {E : Value → Shared → Prop} {s' : Shared} {base g g₀ G : Heap} {outer : List Env} {L a e t d : Addr} {m : Str → Option Value} {name : Str} {scope : Scope} {cd : Value}
  {vs : List Value} {n : Str} {b₀ : Stmt} {suite : List Stmt} {pos np : Pos} {rest : List ExceptHandler} {Q : Flow → Shared → Prop} {news : List (Addr × Obj)}
  {p : Program} {loose : List Str} {mean : ExcName → Option Value} {mg mb : Str → Option Value}
theorem caughtD (R : RaisedS base G (envOf name scope L a cd :: outer) e (.ref 61) t vs news s'.heap) (H : HasD e (some d) s'.heap) (F : Fr g L G m) (K : Below A₀ base outer g) (hsm : G.UpToSlots s'.heap) (XB : (KF w.params).In base) (TB : Top p loose mean mg mb base)
    (D : KtsDicts (outer.filterMap (·.frame)) g) (T0 : KtsTurn (outer.filterMap (·.frame)) g₀ g)
    (k : ∀ h' g' oe tk, KtsTurn (outer.filterMap (·.frame)) g₀ g' → Fr g' L h' (fun y => if y = n then some (.ref e) else m y) → News g' L h' ((e, oe) :: news) → oe.cls = .ref 61 → oe.dict = some d → (∃ ws, oe.data = .fields ws) → Below A₀ base outer g' → (KF w.params).In g' → Top p loose mean mg mb g' → KtsDicts (outer.filterMap (·.frame)) g' →
      wpAny (model prog w) ((A₀.deeper (envOf name scope L a cd)).mark (some (.ref e))) (execs (b₀ :: suite) (envOf name scope L a cd))
        (fun f s₄ => wpAny (model prog w) (A₀.deeper (envOf name scope L a cd)) (do bindName (envOf name scope L a cd) n .none; unbindBehindTheSuite (envOf name scope L a cd) n pos) (fun _ s₅ => Q f s₅) E s₄)
        (AsSuiteRaised (model prog w) ((A₀.deeper (envOf name scope L a cd)).mark (some (.ref e))) (envOf name scope L a cd) n pos (notedBy (model prog w) ((A₀.deeper (envOf name scope L a cd)).mark (some (.ref e))) (envOf name scope L a cd) (cameBackBy (model prog w) (A₀.deeper (envOf name scope L a cd)) (envOf name scope L a cd) E)))
        { s' with heap := h', toks := tk })
    (hk : scope.kind = .function := by rfl) (hlo : (envOf name scope L a cd).kindOf n = some .local := by rfl) (hx : (envOf name scope L a cd).kindOf "TableFault" = some .globalImplicit := by rfl) :
    wpAny (model prog w) (A₀.deeper (envOf name scope L a cd)) (noteFrame (.ref e) (envOf name scope L a cd))
      (fun _ s₂ => wpAny (model prog w) (A₀.deeper (envOf name scope L a cd)) (setFlight (.ref e) none) (fun _ s₃ =>
        wpAny (model prog w) (A₀.deeper (envOf name scope L a cd)) (handleBy (.ref e) (envOf name scope L a cd) (.ExceptHandler (some (.Name "TableFault" np)) (some n) (b₀ :: suite) pos :: rest)) Q E s₃) E s₂) E s' := by
  obtain ⟨⟨B, hB, hBG, hl, hfl, hnew⟩, htup⟩ := R
  have hL : B.get? L = none := by
    obtain ⟨_, ⟨L', _, hf, hn', _⟩, _⟩ := hfl.2.2.1
    obtain rfl : L = L' := Option.some.inj hf
    exact hn'
  refine wpAny_mono (any_tame (Tame.noteFrame _ _) H (wpAny_looks_onW (Q := fun _ s₂ => ∃ h₄, s₂ = { s' with heap := h₄ } ∧ Heap.HeldW B (envOf name scope L a cd :: outer) e (.ref 61) (.ref t) L h₄ ∧ s'.heap.UpToSlots h₄) (Around.frames_deeper K.stack) rfl hfl fun h₄ x1 x2 => ⟨h₄, rfl, x1, x2⟩)) (fun _ s₂ h₂ => ?_) fun _ _ z => z.1
  obtain ⟨⟨h₄, rfl, hheld₄, hsm₄⟩, H₄⟩ := h₂
  refine wpAny_mono (any_tame (Tame.setFlight _ _) H₄ (wpAny_landsW (Q := fun _ s₂ => ∃ h₅, s₂ = { s' with heap := h₅ } ∧ Heap.FlyingW B (envOf name scope L a cd :: outer) e (.ref 61) (.ref t) h₅ ∧ h₄.UpToSlots h₅) hheld₄ fun h₅ x1 x2 => ⟨h₅, rfl, x1, x2⟩)) (fun _ s₃ h₃ => ?_) fun _ _ z => z.1
  obtain ⟨⟨h₅, rfl, hheld, hsm₅'⟩, H₅⟩ := h₃
  have hsm₅ := hsm₄.trans hsm₅'
  obtain ⟨g₅, T₅, F₅, K₅⟩ := kts_ground K F hBG hheld.1 (hsm.trans hsm₅)
  have X₅ : (KF w.params).In g₅ := XB.keeps K₅.stays
  have P₅ : TopRead p loose mg mb g₅ := topRead_of (TB.keeps K₅.stays)
  obtain ⟨ob, hob, hobc⟩ := hheld.there
  have hC : g₅.get? 61 = some (excClassObj _ _ 61 60 _ [Value.ref 48, Value.type "Exception", Value.type "BaseException", Value.type "object"] _ _ _ _ _ _ _ _ _ _ _ "Exception.__new__") := X₅ _ _ (by k_is)
  have hbase : ([Value.ref 48, Value.type "Exception", Value.type "BaseException", Value.type "object"] : List Value).contains (.type "BaseException") = true := by decide +kernel
  have hC₅ := F₅.keep _ _ hC
  refine wpAny_handleBy_cons (codeAny_handlers_test (name_K F₅ X₅ P₅ (by k_is) ?_ hk hx (by decide))) (by intro q; cases q)
  refine wpAny_excMatches_sub_self hC₅ hob hobc hbase (codeAny_handlers_suite_as ?_)
  refine wpAny_mono (any_tame (Tame.setFlight _ _) H₅ (lands_againW (Q := fun _ s₂ => ∃ h₆, s₂ = { s' with heap := h₆ } ∧ Heap.FlyingW B (envOf name scope L a cd :: outer) e (.ref 61) (.ref t) h₆ ∧ h₅.UpToSlots h₆) hheld fun h₆ x1 x2 => ⟨h₆, rfl, x1, x2⟩)) (fun _ s₃ h₃ => ?_) fun _ _ z => z.1
  obtain ⟨⟨h₆, rfl, hfl₆, hsm₆⟩, oe, hoe, hoed'⟩ := h₃
  obtain ⟨g₆, T₆, F₆, K₆⟩ := kts_ground K F hBG hfl₆.1 ((hsm.trans hsm₅).trans hsm₆)
  obtain ⟨oe', ws, hoe', hoec, hoed, hoe0⟩ := hfl₆.first
  obtain rfl : oe' = oe := Option.some.inj (hoe'.symm.trans hoe)
  have ne₆ : g₆.get? e = none := T₆.none_ _ (kts_fresh F hBG hfl₆.2.1 fun o ho mm => by
    obtain ⟨_, o', ho', hdd⟩ := K.frames.mem mm
    rw [ho] at ho'
    cases ho'
    obtain ⟨sl, hs⟩ := ((hsm.trans hsm₅).trans hsm₆) _ _ (F.keep _ _ ho) hdd
    rw [hoe] at hs
    cases hs
    exact hdd _ hoed)
  have N₆ := News.more F₆ News.nil hoe (fun es n q => by rw [hoed] at q; cases q) ne₆
  have Nl : News g₆ L h₆ news := fun q hq => ⟨hfl₆.1 _ _ (hl q hq).1, (fun z => by have := (hl q hq).1; rw [z, hL] at this; cases this), T₆.none_ _ (kts_none F.keep (hl q hq).2.1)⟩
  have X₆ : (KF w.params).In g₆ := XB.keeps K₆.stays
  have P₆ : Top p loose mean mg mb g₆ := TB.keeps K₆.stays
  have D₆ : KtsDicts (outer.filterMap (·.frame)) g₆ := D.turn T₆
  refine stN F₆ (news := (e, oe') :: news) (fun q hq => (List.mem_cons.mp hq).elim (fun z => N₆ q (by rw [z]; exact List.Mem.head _)) (Nl q)) (fun h₇ F₇ N₇ => ?_) hk hlo
  exact k h₇ g₆ oe' _ (T0.trans T₆) F₇ N₇ hoec hoed' ⟨ws, hoed⟩ K₆ X₆ P₆ D₆
end
end Mine
end
section
open PySem PySem.W PyProof.Rows PySem.Spec PySem.Calls Builtin Builtin.ObjectAttr
set_option maxRecDepth 100000
namespace Mine
theorem kw_E8 : True := by
  w_top off
  k_with_none
  trivial
theorem kw_E8_0 : True := by
  k_with "k_all" => assumption
  trivial
section
variable {prog : Program} {w : World} {p : Program} {loose : List Str} {mean : ExcName → Option Value} {mg mb : Str → Option Value}
  {dp un : Nat} {gd : Option (List Code)} {cn : Str} {cs : Scope} {a : Addr} {ccd : Value} {cl : List (Str × Addr)} {outer : List Env} {A₀ : Around} {base h₀ : Heap} {L : Addr} {m : Str → Option Value} {s : Shared} {Q E : Value → Shared → Prop}
end
section
variable {prog : Program} {w : World} {A : Around} {E : Value → Shared → Prop} {s : Shared} {x : Addr}
theorem fault_at {oe : Obj} {es : List DictEntry} {n : Nat} {v : Value} {name : Str} {expr : Bool} {Q : Value → Shared → Prop} (X : (KF w.params).In s.heap) (I : W.InstAt s.heap x oe 61 (some (dictOf es n)))
    (hf : findObj (KF w.params) 61 (some (dictOf es n)) name = some (.value v)) (hv : handedIn v = true) (h : Q v { s with toks := s.toks + 1 }) : wpAny (model prog w) A (getAttr (.ref x) name expr) Q E s := by
  obtain ⟨hh, g, d, t, os⟩ := s
  have L0 : Looks (model prog w) hh (typeOf (.ref x)) (.ref 61) := I.type
  have L1 : Looks (model prog w) hh (typeLookup (.ref 61) "__getattribute__") (some (.builtin "BaseException.__getattribute__")) := looks_findIn X (by k_is)
  have L2 : Looks (model prog w) hh (typeLookup (.ref 61) "__getattr__") none := looks_findIn X (by k_is)
  have L3 := looks_find (M := model prog w) X I hf
  have L4 : Looks (model prog w) hh (isSubtype (.ref 61) (.type "BaseException")) true := looks_mroIn X (by k_is)
  unfold getAttr
  repeat lk
  refine wpAny_tryCatch (wpAny_bind (wpAny_holding ?_))
  have hsl : Slot "BaseException" "__getattribute__" "BaseException.__getattribute__" := .of (owner := "BaseException") (n := "__getattribute__") (by rw [typeLookup_type, builtinLookup_eq_fast]; kernel_rfl) (by decide +kernel) (by decide +kernel) (by decide +kernel)
    (by first | exact .inl (by decide +kernel) | exact .inr (by decide +kernel)) (by rw [isSubtype_type]; kernel_rfl)
  unfold callGetattribute boundAndCalled
  have hx0 : (expr && onTheHeap (Value.builtin "BaseException.__getattribute__")) = false := by cases expr <;> rfl
  rw [hx0]
  show wpAny _ _ (bindSpecial (.builtin "BaseException.__getattribute__") (.ref x) >>= _) _ _ _
  refine wpAny_bind (wpAny_of_eq (hsl.bind (.ref x)) ?_)
  show wpAny _ _ (call (.builtin "BaseException.__getattribute__") [.ref x, .str name t]) _ _ _
  have hk : builtinKind "BaseException.__getattribute__" = some .slot := by decide +kernel
  have hsp : splitId "BaseException.__getattribute__" = some ("BaseException", "__getattribute__") := by decide +kernel
  have hi : Looks (model prog w) hh (isInstance (.ref x) (.type "BaseException")) true := L0.andThen L4
  refine wpAny_call (codeAny_call_builtin hsl.plain F.entry_bexc_ga (@check_slot (model prog w) _ _ ⟨hh, g, d, t + 1, os⟩ "BaseException.__getattribute__" "BaseException" "__getattribute__" (.ref x) [.str name t] [] _ hk hsp hi (F.args_bexc_ga (.ref x) _) ?_))
  refine wpAny_bind (wpAny_pure (wpAny_bind (wpAny_pure (wpAny_bind (L0.at (wpAny_bind (L3.at ?_)))))))
  refine wpAny_pure ?_
  show wpAny _ _ (Sem.pure (Except.ok v)) _ _ _
  refine wpAny_pure ?_
  show wpAny _ _ (handedOut v) _ _ _
  rw [handedOut_of hv]; exact wpAny_pure h
end
end Mine
end
section
open PySem PySem.W PyProof.Rows PySem.Spec PySem.Calls
set_option maxRecDepth 100000
namespace Mine
section
variable {M : Model} {A : Around} {E : Value → Shared → Prop} {s' : Shared} {base g g₂ : Heap} {outer : List Env} {L a e t d : Addr} {m : Str → Option Value} {name : Str} {scope : Scope} {cd : Value} {cl : List (Str × Addr)} {Q : Unit → Shared → Prop} {news : List (Addr × Obj)} {vs : List Value}
theorem pushX {A : Around} {base h₀ h : Heap} {outer : List Env} {L a : Addr} {m : Str → Option Value} {name : Str} {scope : Scope} {cd : Value} {cl : List (Str × Addr)}
    (K : Below A base outer h₀) (F : Fr h₀ L h m) (hk : scope.kind = .function := by rfl) : Below (A.deeper (envX name scope L a cd cl)) base (envX name scope L a cd cl :: outer) h := by
  have hnew : base.get? L = none := by
    cases hq : base.get? L with
    | none => rfl
    | some o => exact absurd (Nat.lt_of_lt_of_le (Heap.lt_size (K.stays L o hq)) F.above) (Nat.lt_irrefl _)
  refine ⟨Around.frames_deeper K.stack, fun b o e => F.keep b o (K.stays b o e), ?_⟩
  exact .cons (by show scope.kind ≠ .module; rw [hk]; decide) rfl F.ns hnew (K.frames.of_keeps fun b o e _ => ⟨o, F.keep b o e, rfl⟩)
theorem memX {name : Str} {scope : Scope} {L a b : Addr} {cd : Value} {cl : List (Str × Addr)} {outer : List Env} (hm : b ∈ (envX name scope L a cd cl :: outer).filterMap (·.frame)) : b = L ∨ b ∈ outer.filterMap (·.frame) := by
  obtain ⟨env, he, hf⟩ := List.mem_filterMap.mp hm
  rcases List.mem_cons.mp he with rfl | he
  · exact .inl (Option.some.inj hf).symm
  · exact .inr (List.mem_filterMap.mpr ⟨env, he, hf⟩)
theorem leave_raiseX (K : Below A base outer g) (F : Fr g L s'.heap m) (N : News g L s'.heap ((e, excObj (some d) t) :: (t, tupObj vs) :: news)) (het : e ≠ t) (hne : ∀ q ∈ news, q.1 ≠ e ∧ q.1 ≠ t)
    (hQ : ∀ h', RaisedS base g outer e (.ref 61) t vs news h' → HasD e (some d) h' → g.UpToSlots h' → Q () { s' with heap := h' }) (hk : scope.kind = .function := by rfl) :
    wpAny M (A.deeper (envX name scope L a cd cl)) (leaving (envX name scope L a cd cl) (.ref e)) Q E s' := by
  have K' := pushX (name := name) (a := a) (cd := cd) (cl := cl) K F hk
  have Ne := N _ (List.Mem.head _)
  have Nt := N _ (List.Mem.tail _ (List.Mem.head _))
  have fr : ∀ b, b ∈ (envX name scope L a cd cl :: outer).filterMap (·.frame) → b = L ∨ ∃ o, g.get? b = some o := fun b hm => by
    rcases memX hm with z | z
    · exact .inl z
    · obtain ⟨_, o, ho, _⟩ := K.frames.mem z
      exact .inr ⟨o, ho⟩
  have hin : ∀ env ∈ (envX name scope L a cd cl :: outer), ∀ b, env.frame = some b → b ∈ e :: t :: (envX name scope L a cd cl :: outer).filterMap (·.frame) := fun env he b hb => .tail _ (.tail _ (List.mem_filterMap.mpr ⟨env, he, hb⟩))
  have st : base.StaysIn (hideAll s'.heap (e :: t :: (envX name scope L a cd cl :: outer).filterMap (·.frame))) := fun b o q => hideAll_get _ (K'.stays b o q) fun hm => by
    rcases List.mem_cons.mp hm with rfl | hm
    · have := K.stays _ _ q; rw [Ne.2.2] at this; cases this
    rcases List.mem_cons.mp hm with rfl | hm
    · have := K.stays _ _ q; rw [Nt.2.2] at this; cases this
    rw [(K'.frames.mem hm).1] at q; cases q
  have sg : ∀ b o, g.get? b = some o → b ∉ outer.filterMap (·.frame) → (hideAll s'.heap (e :: t :: (envX name scope L a cd cl :: outer).filterMap (·.frame))).get? b = some o := fun b o q nm => hideAll_get _ (F.keep b o q) fun hm => by
    rcases List.mem_cons.mp hm with rfl | hm
    · rw [Ne.2.2] at q; cases q
    rcases List.mem_cons.mp hm with rfl | hm
    · rw [Nt.2.2] at q; cases q
    rcases memX hm with z | z
    · rw [z, kts_self F] at q
      cases q
    · exact nm z
  have hl : ∀ q ∈ news, (hideAll s'.heap (e :: t :: (envX name scope L a cd cl :: outer).filterMap (·.frame))).get? q.1 = some q.2 ∧ g.get? q.1 = none ∧ base.get? q.1 = none := fun q hq => by
    have Nq := N q (.tail _ (.tail _ hq))
    refine ⟨hideAll_get _ Nq.1 fun hm => ?_, Nq.2.2, fresh_of_stays K.stays Nq.2.2⟩
    rcases List.mem_cons.mp hm with z | hm
    · exact (hne q hq).1 z
    rcases List.mem_cons.mp hm with z | hm
    · exact (hne q hq).2 z
    rcases fr _ hm with z | ⟨o, ho⟩
    · exact Nq.2.1 z
    · rw [Nq.2.2] at ho; cases ho
  have hen : (hideAll s'.heap (e :: t :: (envX name scope L a cd cl :: outer).filterMap (·.frame))).get? e = none := hideAll_none _ (List.Mem.head _)
  have htn : (hideAll s'.heap (e :: t :: (envX name scope L a cd cl :: outer).filterMap (·.frame))).get? t = none := hideAll_none _ (List.Mem.tail _ (List.Mem.head _))
  have tup : s'.heap.TupAt t vs := ⟨_, 0, Nt.1, rfl, rfl⟩
  refine wpAny_mono (any_tame (Tame.leaving _ _) ⟨_, Ne.1, rfl⟩ (wpAny_leaving_firstW (Q := fun _ s₂ => ∃ h', s₂ = { s' with heap := h' } ∧ Heap.LeftW _ _ e (.ref 61) (.ref t) s'.heap h') K'.stack (funFrames_hide K'.frames hin) rfl Ne.1 (fun b o q => of_hideAll _ q) hen rfl rfl rfl fun h' hL => ⟨h', rfl, hL⟩)) (fun _ s₂ h₂ => ?_) fun _ _ z => z.1
  obtain ⟨⟨h', rfl, k1, ⟨_, _, k2⟩, k3, k4⟩, H⟩ := h₂
  exact hQ h' ⟨⟨_, st, sg, hl, ⟨k1, hen, k2, k3⟩, htn⟩, tup.of_slots k4⟩ H ((Heap.UpToSlots.of_keeps F.keep).trans k4)

theorem leave_onX0 {cls : Value} (K : Below A base outer g) (F : Fr g L g₂ m) (R : RaisedS base g₂ (envX name scope L a cd cl :: outer) e cls t vs news s'.heap) (hsm : g₂.UpToSlots s'.heap)
    (hQ : ∀ h', RaisedS base g outer e cls t vs news h' → g.UpToSlots h' → Q () { s' with heap := h' }) :
    wpAny M (A.deeper (envX name scope L a cd cl)) (leaving (envX name scope L a cd cl) (.ref e)) Q E s' := by
  obtain ⟨⟨B, hB, hBG, hl, hfl, hnew⟩, htup⟩ := R
  exact wpAny_leaves_onW (Around.frames_deeper K.stack) rfl hfl fun h' x1 x2 =>
    hQ h' ⟨⟨B, hB, fun b o q nm => hBG b o (F.keep b o q) (fun hm => by
      rcases memX hm with z | z
      · rw [z, kts_self F] at q
        cases q
      · exact nm z), fun q hq => ⟨(hl q hq).1, kts_none F.keep (hl q hq).2.1, (hl q hq).2.2⟩, x1, hnew⟩, htup.of_slots x2⟩
      ((Heap.UpToSlots.of_keeps F.keep).trans (hsm.trans x2))
theorem leave_onX (K : Below A base outer g) (F : Fr g L g₂ m) (R : RaisedS base g₂ (envX name scope L a cd cl :: outer) e (.ref 61) t vs news s'.heap) (H : HasD e (some d) s'.heap) (hsm : g₂.UpToSlots s'.heap)
    (hQ : ∀ h', RaisedS base g outer e (.ref 61) t vs news h' → HasD e (some d) h' → g.UpToSlots h' → Q () { s' with heap := h' }) :
    wpAny M (A.deeper (envX name scope L a cd cl)) (leaving (envX name scope L a cd cl) (.ref e)) Q E s' := by
  refine wpAny_mono (any_tame (Tame.leaving _ _) H (leave_onX0 (Q := fun _ s₂ => ∃ h', s₂ = { s' with heap := h' } ∧ RaisedS base g outer e (.ref 61) t vs news h' ∧ g.UpToSlots h') K F R hsm fun h' x1 x3 => ⟨h', rfl, x1, x3⟩)) (fun _ s₂ h₂ => ?_) fun _ _ z => z.1
  obtain ⟨⟨h', rfl, x1, x3⟩, H⟩ := h₂
  exact hQ h' x1 H x3
end
def Flies (base h₀ : Heap) (L : Addr) (m : Str → Option Value) (l : List Env) (e d : Addr) (news : List (Addr × Obj)) (h : Heap) : Prop :=
  ∃ g t vs, Fr h₀ L g m ∧ RaisedS base g l e (.ref 61) t vs news h ∧ HasD e (some d) h ∧ g.UpToSlots h
def Bad (base h₀ : Heap) (L : Addr) (m : Str → Option Value) (l : List Env) (f : Int) (news : List (Addr × Obj)) (e : Addr) (h : Heap) : Prop :=
  ∃ d es k tk newsR, Flies base h₀ L m l e d newsR h ∧ (∀ p ∈ news, p ∈ newsR) ∧ (d, dictOf es k) ∈ newsR ∧ getL "at" es = some (some (.int f tk))
section
variable {prog : Program} {w : World} {A : Around} {E : Value → Shared → Prop} {s : Shared} {base g g₂ h₀ : Heap} {outer : List Env} {L L₀ a e t d : Addr} {m m₀ : Str → Option Value} {name : Str} {scope : Scope} {cd : Value} {cl : List (Str × Addr)} {Q : Unit → Shared → Prop} {news news₀ : List (Addr × Obj)} {vs : List Value} {f : Int}
theorem bad_on (K : Below A base outer g) (FG : Fr h₀ L₀ g m₀) (hb : Bad base g L m (envX name scope L a cd cl :: outer) f news e s.heap) (hs : ∀ p ∈ news₀, p ∈ news)
    (hQ : ∀ h', Bad base h₀ L₀ m₀ outer f news₀ e h' → Q () { s with heap := h' }) :
    wpAny (model prog w) (A.deeper (envX name scope L a cd cl)) (leaving (envX name scope L a cd cl) (.ref e)) Q E s := by
  obtain ⟨d, es, k, tk, newsR, ⟨g₂, t, vs, F, R, H, U⟩, h1, h2, h3⟩ := hb
  exact leave_onX K F R H U fun h' R' H' U' => hQ h' ⟨d, es, k, tk, newsR, ⟨g, t, vs, FG, R', H', U'⟩, fun p hp => h1 p (hs p hp), h2, h3⟩
theorem exc_hereN {l : List (Addr × Obj)} (X : (KF w.params).In g) (F : Fr g L s.heap m) (N : News g L s.heap l) (hm : (e, excObj (some d) t) ∈ l) : ExcHere w (.ref e) s :=
  ⟨e, d, t, rfl, (N _ hm).1, X.keeps F.keep⟩
theorem bad_new {es : List DictEntry} {k : Nat} {tk : Tok} (K : Below A base outer g) (FG : Fr h₀ L₀ g m₀) (F : Fr g L s.heap m) (N : News g L s.heap ((e, excObj (some d) t) :: (d, dictOf es k) :: (t, tupObj vs) :: news))
    (hl : ∀ p ∈ news, p.1 < t ∧ p.1 < d ∧ p.1 < e) (hed : e ≠ d) (het : e ≠ t) (hdt : d ≠ t) (hat : getL "at" es = some (some (.int f tk))) (hs : ∀ p ∈ news₀, p ∈ news) (hk : scope.kind = .function)
    (hQ : ∀ h', Bad base h₀ L₀ m₀ outer f news₀ e h' → Q () { s with heap := h' }) :
    wpAny (model prog w) (A.deeper (envX name scope L a cd cl)) (leaving (envX name scope L a cd cl) (.ref e)) Q E s := by
  have N' : News g L s.heap ((e, excObj (some d) t) :: (t, tupObj vs) :: (d, dictOf es k) :: news) := fun p hp => by
    rcases List.mem_cons.mp hp with rfl | hp
    · exact N _ (.head _)
    rcases List.mem_cons.mp hp with rfl | hp
    · exact N _ (.tail _ (.tail _ (.head _)))
    rcases List.mem_cons.mp hp with rfl | hp
    · exact N _ (.tail _ (.head _))
    exact N _ (.tail _ (.tail _ (.tail _ hp)))
  refine leave_raiseX K F N' het (fun q hq => ?_) (fun h' R H U => hQ h' ⟨d, es, k, tk, _, ⟨g, t, vs, FG, R, H, U⟩, fun p hp => .tail _ (hs p hp), .head _, hat⟩) hk
  rcases List.mem_cons.mp hq with rfl | hq
  · exact ⟨fun z => hed z.symm, hdt⟩
  · have := hl q hq
    exact ⟨Nat.ne_of_lt this.2.2, Nat.ne_of_lt this.1⟩
end
end Mine
end
section
open PySem PySem.W PyProof.Rows PySem.Spec
set_option maxRecDepth 100000
namespace Mine
theorem kw_D3 : True := by
  w_top off
  k_with_none
  trivial
theorem kw_D3_0 : True := by
  k_with "k_all" => assumption
  trivial
section
variable {prog : Program} {w : World} {p : Program} {loose : List Str} {mean : ExcName → Option Value} {mg mb : Str → Option Value}
  {dp un : Nat} {gd : Option (List Code)} {cn : Str} {cs : Scope} {a : Addr} {ccd : Value} {cl : List (Str × Addr)} {outer : List Env} {A₀ : Around} {base h₀ : Heap} {L : Addr} {m : Str → Option Value} {s : Shared} {Q E : Value → Shared → Prop}
def Hold (P : Prop) : Prop := P
theorem hold {P : Prop} (h : Hold P) : P := h
def beStep (t c : Int) : Int := t * 256 + c
def beNum (ks : List Int) : Int := ks.foldl beStep 0
end
section
variable {prog : Program} {w : World} {A : Around} {E : Value → Shared → Prop} {s : Shared} {env : Env} {h₀ : Heap} {x : PySem.Str} {body : List Stmt} {Q : Flow → Shared → Prop} {b : Array UInt8} {tb : Tok} {ks : List Int}
  {m₀ : PySem.Str → Option Value} {news : List (Addr × Obj)}
theorem upd_eq {x y : Str} {u v : Option Value} {m₁ m₀ : Str → Option Value} (hv : m₁ y = v) (hm : ∀ z, z ≠ x → z ≠ y → m₁ z = m₀ z) :
    (fun z => if z = x then u else m₁ z) = fun z => if z = x then u else if z = y then v else m₀ z := by
  funext z
  by_cases h1 : z = x
  · simp [h1]
  · simp only [if_neg h1]
    by_cases h2 : z = y
    · subst h2; simp [hv]
    · simp only [if_neg h2]; exact hm z h1 h2
theorem upd_self {x y : Str} {v : Option Value} {m₁ m₀ : Str → Option Value} (hv : m₁ y = v) (hm : ∀ z, z ≠ x → z ≠ y → m₁ z = m₀ z) :
    m₁ = fun z => if z = x then m₁ x else if z = y then v else m₀ z := by
  funext z
  by_cases h1 : z = x
  · simp [h1]
  · simp only [if_neg h1]
    by_cases h2 : z = y
    · subst h2; simp [hv]
    · simp only [if_neg h2]; exact hm z h1 h2
theorem iterB_ix {y : PySem.Str} {c₀ : Int} {tc : Tok} (g : Int → Int → Int)
    (hk : KBw.bInts b = ks) (hh : A.handled = none) (F : Fr h₀ env.locals s.heap m₀) (N : News h₀ env.locals s.heap news) (hy : m₀ y = some (.int c₀ tc))
    (turn : ∀ i k t ta h tk own, ks[i]? = some k → 0 ≤ k → k < 256 → Fr h₀ env.locals h (fun z => if z = x then some (.int k t) else if z = y then some (.int ((ks.take i).foldl g c₀) ta) else m₀ z) → News h₀ env.locals h (news ++ own) →
      wpAny (model prog w) A (execs body env) (InvPostN h₀ env.locals (fun m' nx => nx = news ∧ (∃ t', m' y = some (.int (g ((ks.take i).foldl g c₀) k) t')) ∧ ∀ z, z ≠ x → z ≠ y → m' z = m₀ z) own (news.map (·.1)) { s with heap := h, toks := tk } Q) E { s with heap := h, toks := tk })
    (done : ∀ (u : PySem.Str → Option Value) t h tk, Fr h₀ env.locals h (fun z => if z = x then u z else if z = y then some (.int (ks.foldl g c₀) t) else m₀ z) → News h₀ env.locals h news → Q .next { s with heap := h, toks := tk }) :
    wpAny (model prog w) A (pyIter (.bytes b tb)) (fun it s₂ => LoopAtV prog w A h₀ env x body Q E it s₂) E s := by
  refine KBmo.iter_bytesN (fun i m nx => nx = news ∧ (∃ t, m y = some (.int ((ks.take i).foldl g c₀) t)) ∧ ∀ z, z ≠ x → z ≠ y → m z = m₀ z) hk hh F N ⟨rfl, ⟨tc, hy⟩, fun _ _ _ => rfl⟩ ?_ ?_
  · rintro i k t m₁ nx h tk own hi h0 h1 hoff ⟨rfl, ⟨ta, ha⟩, hm⟩ F₁ N₁
    rw [upd_eq ha hm] at F₁
    have hs : (ks.take (i + 1)).foldl g c₀ = g ((ks.take i).foldl g c₀) k := by
      rw [List.take_add_one, hi]; simp
    rw [hs]
    exact turn i k t ta h tk own hi h0 h1 F₁ N₁
  · rintro m₁ nx h tk ⟨rfl, ⟨t, ha⟩, hm⟩ F₁ N₁
    rw [List.take_length] at ha
    refine done (fun _ => m₁ x) t h tk ?_ N₁
    rw [← upd_self ha hm]; exact F₁
end
theorem or_byte {acc k : Int} (h : 0 ≤ acc) (h0 : 0 ≤ k) (h1 : k < 256) : Builtin.bitOr (acc * 2 ^ Int.toNat 8) k = beStep acc k := by
  have e : (2 : Int) ^ Int.toNat 8 = 256 := by decide
  rw [e]
  obtain ⟨a, rfl⟩ := Int.eq_ofNat_of_zero_le h
  obtain ⟨c, rfl⟩ := Int.eq_ofNat_of_zero_le h0
  have hc : c < 2 ^ 8 := by have : (c : Int) < 256 := h1; omega
  have h2 := Nat.two_pow_add_eq_or_of_lt hc a
  rw [bitOr_and, bitAnd_pp (by omega) (by omega)]
  have h3 : ((a : Int) * 256).toNat = 2 ^ 8 * a := by omega
  rw [h3, Int.toNat_natCast]
  have h4 := nat_or_add_and (2 ^ 8 * a) c
  unfold beStep
  omega
theorem be_bound : ∀ (ks : List Int) (c : Int), (∀ k ∈ ks, 0 ≤ k ∧ k < 256) → 0 ≤ c → 0 ≤ ks.foldl beStep c ∧ ks.foldl beStep c < (c + 1) * 256 ^ ks.length := by
  intro ks
  induction ks with
  | nil => intro c _ h; simp; omega
  | cons k r ih =>
    intro c h hc
    have hk := h k (.head _)
    have := ih (beStep c k) (fun q hq => h q (.tail _ hq)) (by unfold beStep; omega)
    refine ⟨this.1, Int.lt_of_lt_of_le this.2 ?_⟩
    rw [List.length_cons, Int.pow_succ, ← Int.mul_assoc, Int.mul_right_comm]
    exact Int.mul_le_mul_of_nonneg_right (by unfold beStep; omega) (Int.pow_nonneg (by omega))
section
variable {prog : Program} {w : World} {p : Program} {loose : List Str} {mean : ExcName → Option Value} {mg mb : Str → Option Value}
  {dp un : Nat} {gd : Option (List Code)} {cn : Str} {cs : Scope} {a : Addr} {ccd : Value} {cl : List (Str × Addr)} {outer : List Env} {A₀ : Around} {base h₀ : Heap} {L : Addr} {m : Str → Option Value} {s : Shared} {Q E : Value → Shared → Prop}
theorem kw_D3_1 : True := by
  k_with "exec For Name Subscript cons nil" => (k_here; (rename Fr _ _ _ _ => lF'); (with_unfolding_all refine' For_invVF lF' ?k1 ?k2 ?_; (case k1 => exact rfl); (case k2 => exact rfl); k_whole))
  k_with "pyIter bytes" => refine hold ?_
  k_with "Hold" => fail "held"
  trivial

set_option maxHeartbeats 8000000 in
theorem nat_c (B : Below A₀ base outer h₀) (F : Fr h₀ L s.heap m) (X : (KF w.params).In h₀) (T : Top p loose mean mg mb h₀) (hk : cs.kind = .function) (hd : dp + 2 < recursionLimit) (hu : un + 16 < cLine)
  {b : Array UInt8} {ks : List Int} {at_ : Int} {cnt : Int} {tb ta tc : Tok} {news : List (Addr × Obj)} (N : News h₀ L s.heap news) (hb : KBw.bInts b = ks) (hks : ks.length ≤ 200000) (h0 : 0 ≤ at_) (hc0 : 1 ≤ cnt) (hc : cnt ≤ 4) (h1 : at_ + cnt ≤ ks.length)
  (hret : ∀ tr h' k', Fr h₀ L h' m → News h₀ L h' news → Q (.int (beNum ((ks.drop at_.toNat).take cnt.toNat)) tr) { s with heap := h', toks := k' }) :
  wpAny (model prog w) (ktrTop dp un gd cn cs L a ccd cl outer) (call (.ref 77) [.bytes b tb, .int at_ ta, .int cnt tc]) Q E s := by
  refine wpAny_call ?_
  k_dflt cell_enter
  k_steps
  rename KBw.bInts (KBy.picked _ _ _) = _ => hP
  have hP' : KBw.bInts (KBy.picked b (some at_) (some (at_ + cnt))) = (ks.drop at_.toNat).take cnt.toNat := by
    rw [hP, clipAt_in (by omega) (by omega), clipAt_in (by omega) (by omega)]
    congr 1
    omega
  have hbi : ∀ k ∈ (ks.drop at_.toNat).take cnt.toNat, 0 ≤ k ∧ k < 256 := fun k hk => KBw.ints_in (b := b) (hb ▸ List.mem_of_mem_drop (List.mem_of_mem_take hk))
  clear hP
  unfold Hold
  rename Fr _ _ _ _ => F9
  rename News _ _ _ _ => N9
  refine iterB_ix (y := Str.ofString "total") beStep hP' rfl F9 N9 (by rfl) ?_ ?_
  · intro i k t ta h tk own hi k0 k1 F8 N8
    have hlen : i < 4 := by
      have := (List.getElem?_eq_some_iff.mp hi).1
      simp only [List.length_take] at this
      omega
    have hbd := be_bound (((ks.drop at_.toNat).take cnt.toNat).take i) 0 (fun k hk => hbi k (List.mem_of_mem_take hk)) (by omega)
    have hb2 : List.foldl beStep 0 (((ks.drop at_.toNat).take cnt.toNat).take i) < 4294967296 := by
      refine Int.lt_of_lt_of_le hbd.2 ?_
      rw [Int.zero_add, Int.one_mul]
      have e : (((ks.drop at_.toNat).take cnt.toNat).take i).length ≤ 4 := by simp only [List.length_take]; omega
      calc (256 : Int) ^ (((ks.drop at_.toNat).take cnt.toNat).take i).length ≤ 256 ^ 4 := by
            exact_mod_cast Nat.pow_le_pow_right (by decide) e
        _ = 4294967296 := by decide
    have hb1 := hbd.1
    clear hbd
    generalize List.foldl beStep 0 (((ks.drop at_.toNat).take cnt.toNat).take i) = acc at *
    clear F9 N9
    k_steps
    rename Fr _ _ _ _ => F7
    rename News _ _ _ _ => N7
    rw [or_byte hb1 k0 k1] at F7
    exact InvEndN.intro F7 N7 ⟨rfl, ⟨_, by rfl⟩, fun z z1 z2 => by simp only [if_neg z1, if_neg z2]⟩ rfl (fun p hp => List.mem_append_left _ hp) (fun p hp => List.mem_append_right _ hp)
  · intro u t h tk F8 N8
    clear F9 N9
    k_steps
    exact hret _ _ _ (by assumption) (by assumption)
end
end Mine
end
section
open PySem PySem.W PyProof.Rows PySem.Spec PySem.Calls
set_option maxRecDepth 100000
namespace Mine
theorem kw_D4 : True := by
  w_top off
  k_with_none
  trivial
theorem kw_D4_0 : True := by
  k_with "k_all" => first | assumption | exact allne_lt (by assumption) | exact allne_of (by assumption) | exact allne_of (And.right (by assumption)) | exact allne_of (And.right (And.right (by assumption))) | exact allne_of (And.right (And.right (And.right (by assumption)))) | exact allne_of (And.right (And.right (And.right (And.right (by assumption))))) | exact allne_of (And.right (And.right (And.right (And.right (And.right (by assumption)))))) | exact allne_of (And.right (And.right (And.right (And.right (And.right (And.right (by assumption))))))) | exact allne_of (And.right (And.right (And.right (And.right (And.right (And.right (And.right (by assumption)))))))) | exact allne_of (And.right (And.right (And.right (And.right (And.right (And.right (And.right (And.right (by assumption))))))))) | exact allne_of (And.right (And.right (And.right (And.right (And.right (And.right (And.right (And.right (And.right (by assumption)))))))))) | exact allne_of (And.right (And.right (And.right (And.right (And.right (And.right (And.right (And.right (And.right (And.right (by assumption))))))))))) | exact allne_of (And.right (And.right (And.right (And.right (And.right (And.right (And.right (And.right (And.right (And.right (And.right (by assumption)))))))))))) | exact allne_of (And.right (And.right (And.right (And.right (And.right (And.right (And.right (And.right (And.right (And.right (And.right (And.right (by assumption))))))))))))) | exact allne_of (And.right (And.right (And.right (And.right (And.right (And.right (And.right (And.right (And.right (And.right (And.right (And.right (And.right (by assumption)))))))))))))) | exact alllt_trans (by assumption) (by first | assumption | (refine ltN ?_; omega))
  trivial
theorem kw_D4_1 : True := by
  k_with "exec Raise some none" => (k_here; k_dflt (refine' exc_raise ?hh ?_; (case hh => rfl)))
  k_with "call ref" => (k_here; (with_reducible show wpAny _ _ (call (Value.ref _) [Value.str _ _, Value.int _ _]) _ _ _); k_dflt (refine' exc_c ?k1 ?k2 ?k3 ?k4 ?kK ?kd ?ku ?k5 ?_; (case k1 => k_asm); (case k2 => k_asm); (case k3 => k_asm); (case k4 => k_asm); (case kK => exact rfl); (case kd => ktr_room); (case ku => ktr_units); (case k5 => k_asm); intro e' d' t' es' k' tk' h' j' F' N' hE' l1 n1 n2 n3))
  trivial
section
variable {prog : Program} {w : World} {p : Program} {loose : List Str} {mean : ExcName → Option Value} {mg mb : Str → Option Value}
  {dp un : Nat} {gd : Option (List Code)} {cn : Str} {cs : Scope} {a : Addr} {ccd : Value} {cl : List (Str × Addr)} {outer : List Env} {A₀ : Around} {base h₀ : Heap} {L : Addr} {m : Str → Option Value} {s : Shared} {Q E : Value → Shared → Prop}
set_option maxHeartbeats 8000000 in
theorem room_c (B : Below A₀ base outer h₀) (F : Fr h₀ L s.heap m) (X : (KF w.params).In h₀) (T : Top p loose mean mg mb h₀) (hk : cs.kind = .function) (hd : dp + 6 < recursionLimit) (hu : un + 60 < cLine)
  {b : Array UInt8} {ks : List Int} {at_ : Int} {cnt : Int} {tb ta tc : Tok} {news : List (Addr × Obj)} (N : News h₀ L s.heap news) (hb : KBw.bInts b = ks) (hks : ks.length ≤ 200000)
  (hok : 0 ≤ at_ → at_ + cnt ≤ ks.length → ∀ h' k', Fr h₀ L h' m → News h₀ L h' news → Q .none { s with heap := h', toks := k' })
  (hbad : ¬ (0 ≤ at_ ∧ at_ + cnt ≤ ks.length) → ∀ e h' k', Bad base h₀ L m (envX cn cs L a ccd cl :: outer) at_ news e h' → E (.ref e) { s with heap := h', toks := k' }) :
  wpAny (model PySem.Challenge.rw_pb0181_01.row.prog w) (ktrTop dp un gd cn cs L a ccd cl outer) (call (.ref 70) [.bytes b tb, .int at_ ta, .int cnt tc]) Q E s := by
  refine wpAny_call ?_
  k_dflt cell_enter
  k_steps
  all_goals try (first | (refine' exc_hereN ?k1 ?k2 ?k3 ?k4; (case k3 => assumption); (case k2 => assumption); (case k1 => assumption); (case k4 => k_mem)) | k_dflt (refine' bad_new ?k1 ?k2 ?k4 ?k5 ?k6 ?k7 ?k8 ?k9 ?k10 ?k11 ?k12 ?_; (case k5 => assumption); (case k4 => assumption); (case k1 => assumption); (case k2 => assumption); (case k6 => assumption); (case k7 => assumption); (case k8 => assumption); (case k9 => assumption); (case k10 => assumption); (case k11 => exact fun p hp => hp); (case k12 => rfl)))
  · intro h' Hb
    exact hbad (by omega) _ _ _ Hb
  · intro h' Hb
    exact hbad (by omega) _ _ _ Hb
  · exact hok (by omega) (by omega) _ _ (by assumption) (by assumption)
end
end Mine
end
section
open PySem PySem.W PyProof.Rows PySem.Spec PySem.Calls
set_option maxRecDepth 100000
namespace Mine
theorem kw_D5 : True := by
  w_top off
  k_with_none
  trivial
theorem kw_D5_0 : True := by
  k_with "k_all" => first | assumption | exact allne_lt (by assumption) | exact allne_of (by assumption) | exact allne_of (And.right (by assumption)) | exact allne_of (And.right (And.right (by assumption))) | exact allne_of (And.right (And.right (And.right (by assumption)))) | exact allne_of (And.right (And.right (And.right (And.right (by assumption))))) | exact allne_of (And.right (And.right (And.right (And.right (And.right (by assumption)))))) | exact allne_of (And.right (And.right (And.right (And.right (And.right (And.right (by assumption))))))) | exact allne_of (And.right (And.right (And.right (And.right (And.right (And.right (And.right (by assumption)))))))) | exact allne_of (And.right (And.right (And.right (And.right (And.right (And.right (And.right (And.right (by assumption))))))))) | exact allne_of (And.right (And.right (And.right (And.right (And.right (And.right (And.right (And.right (And.right (by assumption)))))))))) | exact allne_of (And.right (And.right (And.right (And.right (And.right (And.right (And.right (And.right (And.right (And.right (by assumption))))))))))) | exact allne_of (And.right (And.right (And.right (And.right (And.right (And.right (And.right (And.right (And.right (And.right (And.right (by assumption)))))))))))) | exact allne_of (And.right (And.right (And.right (And.right (And.right (And.right (And.right (And.right (And.right (And.right (And.right (And.right (by assumption))))))))))))) | exact allne_of (And.right (And.right (And.right (And.right (And.right (And.right (And.right (And.right (And.right (And.right (And.right (And.right (And.right (by assumption)))))))))))))) | exact alllt_trans (by assumption) (by first | assumption | (refine ltN ?_; omega))
  trivial
theorem kw_D5_1 : True := by
  k_with "exec Raise some none" => (k_here; k_dflt (refine' exc_raise ?hh ?_; (case hh => rfl)))
  trivial
section
variable {prog : Program} {w : World} {p : Program} {loose : List Str} {mean : ExcName → Option Value} {mg mb : Str → Option Value}
  {dp un : Nat} {gd : Option (List Code)} {cn : Str} {cs : Scope} {a : Addr} {ccd : Value} {cl : List (Str × Addr)} {outer : List Env} {A₀ : Around} {base h₀ : Heap} {L : Addr} {m : Str → Option Value} {s : Shared} {Q E : Value → Shared → Prop}
theorem pass_on {prog : Program} {A : Around} {L₀ : Addr} {m₀ : Str → Option Value} {name : Str} {scope : Scope} {cd : Value} {g : Heap} {e : Addr} {Q : Unit → Shared → Prop} {f : Int} {news news₀ : List (Addr × Obj)} (K : Below A base outer g) (FG : Fr h₀ L₀ g m₀) (hb : Bad base g L m (envX name scope L a cd cl :: outer) f news e s.heap) (hs : ∀ p ∈ news₀, p ∈ news)
    (hQ : ∀ h', Bad base h₀ L₀ m₀ outer f news₀ e h' → Q () { s with heap := h' }) :
    wpAny (model prog w) (A.deeper (envX name scope L a cd cl)) (leaving (envX name scope L a cd cl) (.ref e)) Q E s := bad_on K FG hb hs hQ
theorem kw_D5_2 : True := by
  k_with "exec For Name Subscript cons nil" => (k_here; (rename Fr _ _ _ _ => lF'); (with_unfolding_all refine' For_invVF lF' ?k1 ?k2 ?_; (case k1 => exact rfl); (case k2 => exact rfl); k_whole))
  k_with "pyIter bytes" => refine hold ?_
  k_with "Hold" => fail "held"
  k_with "call ref" => (k_here; (with_reducible show wpAny _ _ (call (Value.ref 70) _) _ _ _); k_dflt (refine' room_c ?k1 ?k2 ?k3 ?k4 ?kK ?kd ?ku ?k5 ?k6 ?k7 ?_ ?_; (case k1 => k_asm); (case k2 => k_asm); (case k3 => k_asm); (case k4 => k_asm); (case kK => exact rfl); (case kd => ktr_room); (case ku => ktr_units); (case k5 => k_asm); (case k6 => k_asm); (case k7 => k_asm)); (first | (intro hr1 hr2 h' k' F' N') | (intro hr e h' k' Hb; refine hold ?_)))
  trivial
set_option maxHeartbeats 8000000 in
theorem num_c (B : Below A₀ base outer h₀) (F : Fr h₀ L s.heap m) (X : (KF w.params).In h₀) (T : Top p loose mean mg mb h₀) (hk : cs.kind = .function) (hd : dp + 8 < recursionLimit) (hu : un + 80 < cLine)
  {b : Array UInt8} {ks : List Int} {at_ : Int} {cnt : Int} {tb ta tc : Tok} {news : List (Addr × Obj)} (N : News h₀ L s.heap news) (hb : KBw.bInts b = ks) (hks : ks.length ≤ 200000) (hc0 : 1 ≤ cnt) (hc : cnt ≤ 4)
  (hok : 0 ≤ at_ → at_ + cnt ≤ ks.length → ∀ tr h' k', Fr h₀ L h' m → News h₀ L h' news → Q (.int (beNum ((ks.drop at_.toNat).take cnt.toNat)) tr) { s with heap := h', toks := k' })
  (hbad : ¬ (0 ≤ at_ ∧ at_ + cnt ≤ ks.length) → ∀ e h' k', Bad base h₀ L m (envX cn cs L a ccd cl :: outer) at_ news e h' → E (.ref e) { s with heap := h', toks := k' }) :
  wpAny (model PySem.Challenge.rw_pb0181_01.row.prog w) (ktrTop dp un gd cn cs L a ccd cl outer) (call (.ref 77) [.bytes b tb, .int at_ ta, .int cnt tc]) Q E s := by
  refine wpAny_call ?_
  k_dflt cell_enter
  k_steps
  · rename KBw.bInts (KBy.picked _ _ _) = _ => hP
    have hP' : KBw.bInts (KBy.picked b (some at_) (some (at_ + cnt))) = (ks.drop at_.toNat).take cnt.toNat := by
      rw [hP, clipAt_in (by omega) (by omega), clipAt_in (by omega) (by omega)]
      congr 1
      omega
    have hbi : ∀ k ∈ (ks.drop at_.toNat).take cnt.toNat, 0 ≤ k ∧ k < 256 := fun k hk => KBw.ints_in (b := b) (hb ▸ List.mem_of_mem_drop (List.mem_of_mem_take hk))
    clear hP
    unfold Hold
    rename Fr _ _ _ _ => F9
    rename News _ _ _ _ => N9
    refine iterB_ix (y := Str.ofString "total") beStep hP' rfl F9 N9 (by rfl) ?_ ?_
    · intro i k t ta h tk own hi k0 k1 F8 N8
      have hlen : i < 4 := by
        have := (List.getElem?_eq_some_iff.mp hi).1
        simp only [List.length_take] at this
        omega
      have hbd := be_bound (((ks.drop at_.toNat).take cnt.toNat).take i) 0 (fun k hk => hbi k (List.mem_of_mem_take hk)) (by omega)
      have hb2 : List.foldl beStep 0 (((ks.drop at_.toNat).take cnt.toNat).take i) < 4294967296 := by
        refine Int.lt_of_lt_of_le hbd.2 ?_
        rw [Int.zero_add, Int.one_mul]
        have e : (((ks.drop at_.toNat).take cnt.toNat).take i).length ≤ 4 := by simp only [List.length_take]; omega
        calc (256 : Int) ^ (((ks.drop at_.toNat).take cnt.toNat).take i).length ≤ 256 ^ 4 := by
              exact_mod_cast Nat.pow_le_pow_right (by decide) e
          _ = 4294967296 := by decide
      have hb1 := hbd.1
      clear hbd
      generalize List.foldl beStep 0 (((ks.drop at_.toNat).take cnt.toNat).take i) = acc at *
      clear F9 N9
      k_steps
      rename Fr _ _ _ _ => F7
      rename News _ _ _ _ => N7
      rw [or_byte hb1 k0 k1] at F7
      exact InvEndN.intro F7 N7 ⟨rfl, ⟨_, by rfl⟩, fun z z1 z2 => by simp only [if_neg z1, if_neg z2]⟩ rfl (fun p hp => List.mem_append_left _ hp) (fun p hp => List.mem_append_right _ hp)
    · intro u t h tk F8 N8
      clear F9 N9
      k_steps
      exact hok (by omega) (by omega) _ _ _ (by assumption) (by assumption)
  · rename Bad _ _ _ _ _ _ _ _ _ => Hb
    k_dflt (refine' pass_on ?k1 ?k2 ?k3 ?k4 ?_; (case k3 => exact Hb); (case k1 => assumption); (case k2 => assumption); (case k4 => exact fun p hp => hp))
    intro h' Hb
    exact hbad (by assumption) _ _ _ Hb
end
end Mine
end
section
open PySem PySem.W PyProof.Rows PySem.Spec PySem.Calls
set_option maxRecDepth 100000
namespace Mine
theorem kw_D6 : True := by
  w_top off
  k_with_none
  trivial
theorem kw_D6_0 : True := by
  k_with "k_all" => first | assumption | exact allne_lt (by assumption) | exact allne_of (by assumption) | exact allne_of (And.right (by assumption)) | exact allne_of (And.right (And.right (by assumption))) | exact allne_of (And.right (And.right (And.right (by assumption)))) | exact allne_of (And.right (And.right (And.right (And.right (by assumption))))) | exact allne_of (And.right (And.right (And.right (And.right (And.right (by assumption)))))) | exact allne_of (And.right (And.right (And.right (And.right (And.right (And.right (by assumption))))))) | exact allne_of (And.right (And.right (And.right (And.right (And.right (And.right (And.right (by assumption)))))))) | exact allne_of (And.right (And.right (And.right (And.right (And.right (And.right (And.right (And.right (by assumption))))))))) | exact allne_of (And.right (And.right (And.right (And.right (And.right (And.right (And.right (And.right (And.right (by assumption)))))))))) | exact allne_of (And.right (And.right (And.right (And.right (And.right (And.right (And.right (And.right (And.right (And.right (by assumption))))))))))) | exact allne_of (And.right (And.right (And.right (And.right (And.right (And.right (And.right (And.right (And.right (And.right (And.right (by assumption)))))))))))) | exact allne_of (And.right (And.right (And.right (And.right (And.right (And.right (And.right (And.right (And.right (And.right (And.right (And.right (by assumption))))))))))))) | exact allne_of (And.right (And.right (And.right (And.right (And.right (And.right (And.right (And.right (And.right (And.right (And.right (And.right (And.right (by assumption)))))))))))))) | exact alllt_trans (by assumption) (by first | assumption | (refine ltN ?_; omega))
  trivial
theorem kw_D6_1 : True := by
  k_with "exec Raise some none" => (k_here; k_dflt (refine' exc_raise ?hh ?_; (case hh => rfl)))
  trivial
section
variable {prog : Program} {w : World} {p : Program} {loose : List Str} {mean : ExcName → Option Value} {mg mb : Str → Option Value}
  {dp un : Nat} {gd : Option (List Code)} {cn : Str} {cs : Scope} {a : Addr} {ccd : Value} {cl : List (Str × Addr)} {outer : List Env} {A₀ : Around} {base h₀ : Heap} {L : Addr} {m : Str → Option Value} {s : Shared} {Q E : Value → Shared → Prop}
theorem kw_D6_2 : True := by
  k_with "call ref" => (k_here; (with_reducible show wpAny _ _ (call (Value.ref 77) _) _ _ _); k_dflt (refine' num_c ?k1 ?k2 ?k3 ?k4 ?kK ?kd ?ku ?k5 ?k6 ?k7 ?k8 ?k9 ?_ ?_; (case k1 => k_asm); (case k2 => k_asm); (case k3 => k_asm); (case k4 => k_asm); (case kK => exact rfl); (case kd => ktr_room); (case ku => ktr_units); (case k5 => k_asm); (case k6 => k_asm); (case k7 => k_asm); (case k8 => decide); (case k9 => decide)); (first | (intro hr1 hr2 t h' k' F' N') | (intro hr e h' k' Hb; refine hold ?_)))
  k_with "Hold" => fail "held"
  trivial
set_option maxHeartbeats 8000000 in
theorem oct_c (B : Below A₀ base outer h₀) (F : Fr h₀ L s.heap m) (X : (KF w.params).In h₀) (T : Top p loose mean mg mb h₀) (hk : cs.kind = .function) (hd : dp + 8 < recursionLimit) (hu : un + 80 < cLine)
  {b : Array UInt8} {at_ : Int} {tb ta : Tok} {news : List (Addr × Obj)} (N : News h₀ L s.heap news)
  (hok : ∀ x dx t1 t2 tb' ta' h' k', Fr h₀ L h' m → News h₀ L h' ((x, instObj 165 dx) :: (dx, dictOf [⟨PyData.keyHash w.params (Str.ofString "data"), .str (Str.ofString "data") t1, .bytes b tb'⟩, ⟨PyData.keyHash w.params (Str.ofString "at"), .str (Str.ofString "at") t2, .int at_ ta'⟩] 2) :: news) → (∀ p ∈ news, p.1 < dx) → dx < x → Q (.ref x) { s with heap := h', toks := k' }) :
  wpAny (model PySem.Challenge.rw_pb0181_01.row.prog w) (ktrTop dp un gd cn cs L a ccd cl outer) (call (.ref 165) [.bytes b tb, .int at_ ta]) Q E s := by
  k_dflt (refine' call_cls ?k1 ?k2 ?k3 ?k4 ?k5 ?k6 ?_; (case k1 => k_asm); (case k2 => k_asm); (case k3 => k_asm); (case k4 => k_is); (case k5 => k_is); (case k6 => k_is); k_whole; intro x' d' h' F' N' l1 l2; (try k_lt l1); (try k_lt2 l2); refine' code_def ?k1 ?k2 ?k3 ?k4 ?k5 ?kA ?kF ?kK ?k6 ?k7 ?k8 ?k9 ?kB ?_ ?c2 ?c3 ?c4 ?c5; (case kA => exact rfl); (case kF => exact rfl); (case kK => assumption); (case k1 => k_asm); (case k2 => k_asm); (case k3 => k_asm); (case k4 => k_asm); (case k5 => k_asm); (case k6 => k_is); (case k7 => k_is); (case k8 => ktr_room); (case k9 => exact binds_K (by k_in) rfl (by k_is) rfl rfl rfl); (case c5 => decide); (case kB => exact locs rfl); (case c2 => exact rfl); (case c3 => exact rfl); (case c4 => exact rfl); k_whole; intro g' L' h' FG' F' N' B' X' T'; (try dsimp only); (try k_lift B'); (try k_fold))
  k_steps
  exact hok _ _ _ _ _ _ _ _ (by assumption) (by assumption) (by assumption) (by assumption)
set_option maxHeartbeats 8000000 in
theorem u16_c (B : Below A₀ base outer h₀) (F : Fr h₀ L s.heap m) (X : (KF w.params).In h₀) (T : Top p loose mean mg mb h₀) (hk : cs.kind = .function) (hd : dp + 12 < recursionLimit) (hu : un + 160 < cLine)
  {x dx : Addr} {b : Array UInt8} {ks : List Int} {at_ : Int} {t1 t2 tb ta : Tok} {rest : List (Addr × Obj)} (N : News h₀ L s.heap ((x, instObj 165 dx) :: (dx, dictOf [⟨PyData.keyHash w.params (Str.ofString "data"), .str (Str.ofString "data") t1, .bytes b tb⟩, ⟨PyData.keyHash w.params (Str.ofString "at"), .str (Str.ofString "at") t2, .int at_ ta⟩] 2) :: rest)) (hl : ∀ p ∈ rest, p.1 ≠ dx) (hx : @LT.lt Nat _ dx x) (hb : KBw.bInts b = ks) (hks : ks.length ≤ 200000)
  (hok : 0 ≤ at_ → at_ + 2 ≤ ks.length → ∀ tr ta' h' k', Fr h₀ L h' m → News h₀ L h' ((x, instObj 165 dx) :: (dx, dictOf [⟨PyData.keyHash w.params (Str.ofString "data"), .str (Str.ofString "data") t1, .bytes b tb⟩, ⟨PyData.keyHash w.params (Str.ofString "at"), .str (Str.ofString "at") t2, .int (at_ + 2) ta'⟩] 2) :: rest) → Q (.int (beNum ((ks.drop at_.toNat).take 2)) tr) { s with heap := h', toks := k' })
  (hbad : ¬ (0 ≤ at_ ∧ at_ + 2 ≤ ks.length) → ∀ e h' k', Bad base h₀ L m (envX cn cs L a ccd cl :: outer) at_ rest e h' → E (.ref e) { s with heap := h', toks := k' }) :
  wpAny (model PySem.Challenge.rw_pb0181_01.row.prog w) (ktrTop dp un gd cn cs L a ccd cl outer) (call (.ref 120) [.ref x]) Q E s := by
  refine wpAny_call ?_
  k_dflt cell_enter
  k_steps
  · exact hok (by assumption) (by assumption) _ _ _ _ (by assumption) (by assumption)
  · rename Bad _ _ _ _ _ _ _ _ _ => Hb
    k_dflt (refine' pass_on ?k1 ?k2 ?k3 ?k4 ?_; (case k3 => exact Hb); (case k1 => assumption); (case k2 => assumption); (case k4 => exact fun p hp => hp))
    clear Hb; intro h' Hb
    k_dflt (refine' pass_on ?k1 ?k2 ?k3 ?k4 ?_; (case k3 => exact Hb); (case k1 => assumption); (case k2 => assumption); (case k4 => exact fun p hp => .tail _ (.tail _ hp)))
    clear Hb; intro h' Hb
    exact hbad (by assumption) _ _ _ Hb
set_option maxHeartbeats 8000000 in
theorem u32_c (B : Below A₀ base outer h₀) (F : Fr h₀ L s.heap m) (X : (KF w.params).In h₀) (T : Top p loose mean mg mb h₀) (hk : cs.kind = .function) (hd : dp + 12 < recursionLimit) (hu : un + 160 < cLine)
  {x dx : Addr} {b : Array UInt8} {ks : List Int} {at_ : Int} {t1 t2 tb ta : Tok} {rest : List (Addr × Obj)} (N : News h₀ L s.heap ((x, instObj 165 dx) :: (dx, dictOf [⟨PyData.keyHash w.params (Str.ofString "data"), .str (Str.ofString "data") t1, .bytes b tb⟩, ⟨PyData.keyHash w.params (Str.ofString "at"), .str (Str.ofString "at") t2, .int at_ ta⟩] 2) :: rest)) (hl : ∀ p ∈ rest, p.1 ≠ dx) (hx : @LT.lt Nat _ dx x) (hb : KBw.bInts b = ks) (hks : ks.length ≤ 200000)
  (hok : 0 ≤ at_ → at_ + 4 ≤ ks.length → ∀ tr ta' h' k', Fr h₀ L h' m → News h₀ L h' ((x, instObj 165 dx) :: (dx, dictOf [⟨PyData.keyHash w.params (Str.ofString "data"), .str (Str.ofString "data") t1, .bytes b tb⟩, ⟨PyData.keyHash w.params (Str.ofString "at"), .str (Str.ofString "at") t2, .int (at_ + 4) ta'⟩] 2) :: rest) → Q (.int (beNum ((ks.drop at_.toNat).take 4)) tr) { s with heap := h', toks := k' })
  (hbad : ¬ (0 ≤ at_ ∧ at_ + 4 ≤ ks.length) → ∀ e h' k', Bad base h₀ L m (envX cn cs L a ccd cl :: outer) at_ rest e h' → E (.ref e) { s with heap := h', toks := k' }) :
  wpAny (model PySem.Challenge.rw_pb0181_01.row.prog w) (ktrTop dp un gd cn cs L a ccd cl outer) (call (.ref 141) [.ref x]) Q E s := by
  refine wpAny_call ?_
  k_dflt cell_enter
  k_steps
  · exact hok (by assumption) (by assumption) _ _ _ _ (by assumption) (by assumption)
  · rename Bad _ _ _ _ _ _ _ _ _ => Hb
    k_dflt (refine' pass_on ?k1 ?k2 ?k3 ?k4 ?_; (case k3 => exact Hb); (case k1 => assumption); (case k2 => assumption); (case k4 => exact fun p hp => hp))
    clear Hb; intro h' Hb
    k_dflt (refine' pass_on ?k1 ?k2 ?k3 ?k4 ?_; (case k3 => exact Hb); (case k1 => assumption); (case k2 => assumption); (case k4 => exact fun p hp => .tail _ (.tail _ hp)))
    clear Hb; intro h' Hb
    exact hbad (by assumption) _ _ _ Hb
end
end Mine
end
section
open PySem PySem.W PyProof.Rows PySem.Spec PySem.Calls
set_option maxRecDepth 100000
namespace Mine
section
variable {prog : Program} {w : World} {A : Around} {E : Value → Shared → Prop} {s : Shared} {env : Env} {h₀ : Heap} {x : Str} {body : List Stmt} {Q : Flow → Shared → Prop}
theorem iter_rangeJ {r : Addr} {a₀ b₀ : Int} {t₀ u₀ v₀ : Tok} {n : Nat} {m₀ : Str → Option Value} {news : List (Addr × Obj)} (J : Nat → (Str → Option Value) → List (Addr × Obj) → Prop)
    (hh : A.handled = none) (hr : IsRange s.heap r a₀ b₀ 1 t₀ u₀ v₀) (hsmall : Builtin.Range.small a₀ b₀ 1 = true) (hn : Builtin.Range.rangeSize a₀ b₀ 1 = (n : Int)) (F : Fr h₀ env.locals s.heap m₀) (N : News h₀ env.locals s.heap news) (h0 : J 0 m₀ news)
    (turn : ∀ (i : Nat) m₁ nx I it t h tk, i < n → J i m₁ nx → (∀ p ∈ nx, p.1 ≠ I) → Fr h₀ env.locals h (fun y => if y = x then some (.int (a₀ + (i : Int)) t) else m₁ y) → News h₀ env.locals h ((I, it) :: nx) →
      wpAny (model prog w) A (execs body env) (UnrPost h₀ env.locals { s with heap := h, toks := tk } I it (J (i + 1)) Q) E { s with heap := h, toks := tk })
    (done : ∀ m₁ nx h tk, J n m₁ nx → Fr h₀ env.locals h m₁ → News h₀ env.locals h nx → Q .next { s with heap := h, toks := tk }) :
    wpAny (model prog w) A (pyIter (.ref r)) (fun it s₂ => LoopAtV prog w A h₀ env x body Q E it s₂) E s := by
  refine iter_rangeUnr hh hr hsmall hn F N fun I hI => ?_
  have key : ∀ k i m₁ nx, i + k = n → J i m₁ nx → (∀ p ∈ nx, p.1 ≠ I) → RangeRest prog w A E h₀ env x body Q s I a₀ n k i m₁ nx := by
    intro k
    induction k with
    | zero =>
      intro i m₁ nx hi hJ _
      obtain rfl : i = n := by omega
      exact RangeRest.zero fun h tk F N => done _ _ _ _ hJ F N
    | succ k ih =>
      intro i m₁ nx hi hJ hoff
      refine RangeRest.succ fun t h tk F N => ?_
      refine wpAny_mono (turn i m₁ nx I _ t h tk (by omega) hJ hoff F N) (fun f s₂ p => ?_) fun _ _ e => e
      have fin : UnrEnd h₀ env.locals { s with heap := h, toks := tk } I (itR (a₀ + ((i + 1 : Nat) : Int)) ((n : Int) - ((i + 1 : Nat) : Int))) (J (i + 1)) s₂ →
          UnrEnd h₀ env.locals { s with heap := h, toks := tk } I (itR (a₀ + ((i + 1 : Nat) : Int)) ((n : Int) - ((i + 1 : Nat) : Int))) (RangeRest prog w A E h₀ env x body Q s I a₀ n k (i + 1)) s₂ := by
        rintro ⟨h', tk', m', news', e, F', N', ho, r⟩
        exact ⟨h', tk', m', news', e, F', N', ho, ih (i + 1) m' news' (by omega) r ho⟩
      cases f with
      | ret v => exact p
      | brk => exact p
      | next => exact fin p
      | cont => exact fin p
  exact key n 0 m₀ news (by omega) h0 fun p hp => Nat.ne_of_lt (hI p hp)
theorem iter_listJ {ax : Addr} {lo : Obj} {vs : List Value} {n : Nat} {m₀ : Str → Option Value} {news : List (Addr × Obj)} (J : Nat → (Str → Option Value) → List (Addr × Obj) → Prop)
    (hh : A.handled = none) (F : Fr h₀ env.locals s.heap m₀) (N : News h₀ env.locals s.heap news) (hm : (ax, lo) ∈ news) (hc : lo.cls = .type "list") (hd : lo.data = .seq vs.toArray n) (h0 : J 0 m₀ news)
    (turn : ∀ (i : Nat) v m₁ nx I it h tk, vs[i]? = some v → J i m₁ nx → (ax, lo) ∈ nx → (∀ p ∈ nx, p.1 ≠ I) → it.cls = .type "list_iterator" → Fr h₀ env.locals h (fun y => if y = x then some v else m₁ y) → News h₀ env.locals h ((I, it) :: nx) →
      wpAny (model prog w) A (execs body env) (UnrPost h₀ env.locals { s with heap := h, toks := tk } I it (fun m' n' => (ax, lo) ∈ n' ∧ J (i + 1) m' n') Q) E { s with heap := h, toks := tk })
    (done : ∀ m₁ nx h tk, J vs.length m₁ nx → (ax, lo) ∈ nx → Fr h₀ env.locals h m₁ → News h₀ env.locals h nx → Q .next { s with heap := h, toks := tk }) :
    wpAny (model prog w) A (pyIter (.ref ax)) (fun it s₂ => LoopAtV prog w A h₀ env x body Q E it s₂) E s := by
  refine iter_listUnr hh F N hm hc hd fun I hI => ?_
  have key : ∀ r i m₁ nx, vs.drop i = r → i ≤ vs.length → (ax, lo) ∈ nx → J i m₁ nx → (∀ p ∈ nx, p.1 ≠ I) → ListRest prog w A E h₀ env x body Q s I (ax, lo) r m₁ nx := by
    intro r
    induction r with
    | nil =>
      intro i m₁ nx hi hle hmem hJ _
      obtain rfl : i = vs.length := by have := List.drop_eq_nil_iff.mp hi; omega
      exact ListRest.zero fun h tk F N => done _ _ _ _ hJ hmem F N
    | cons v r ih =>
      intro i m₁ nx hi hle hmem hJ hoff
      have hlt : i < vs.length := by
        rcases Nat.lt_or_ge i vs.length with h | h
        · exact h
        · rw [List.drop_of_length_le h] at hi; cases hi
      have hc : vs[i] :: vs.drop (i + 1) = v :: r := by rw [← hi]; exact (List.drop_eq_getElem_cons hlt).symm
      have hv : vs[i] = v := (List.cons.inj hc).1
      refine ListRest.succ fun it h tk hcls F N => ?_
      refine wpAny_mono (turn i v m₁ nx I it h tk (by rw [List.getElem?_eq_getElem hlt, hv]) hJ hmem hoff hcls F N) (fun f s₂ p => ?_) fun _ _ e => e
      have fin : UnrEnd h₀ env.locals { s with heap := h, toks := tk } I it (fun m' n' => (ax, lo) ∈ n' ∧ J (i + 1) m' n') s₂ →
          UnrEnd h₀ env.locals { s with heap := h, toks := tk } I it (fun m' n' => (ax, lo) ∈ n' ∧ ListRest prog w A E h₀ env x body Q s I (ax, lo) r m' n') s₂ := by
        rintro ⟨h', tk', m', news', e, F', N', ho, hm', r'⟩
        exact ⟨h', tk', m', news', e, F', N', ho, hm', ih (i + 1) m' news' (List.cons.inj hc).2 (by omega) hm' r' ho⟩
      cases f with
      | ret v => exact p
      | brk => exact p
      | next => exact fin p
      | cont => exact fin p
  exact key vs 0 m₀ news List.drop_zero (by omega) hm h0 fun p hp => Nat.ne_of_lt (hI p hp)
theorem fr_turn {L : Addr} {h : Heap} {v : Value} {stored : List Str} {m₁ m₀ : Str → Option Value} (hm : ∀ y, y ≠ x → stored.contains y = false → m₁ y = m₀ y) (F : Fr h₀ L h (fun y => if y = x then some v else m₁ y)) :
    Fr h₀ L h (fun y => if y = x then some v else if stored.contains y then m₁ y else m₀ y) := by
  have e : (fun y => if y = x then some v else m₁ y) = fun y => if y = x then some v else if stored.contains y then m₁ y else m₀ y := by
    funext y
    by_cases h1 : y = x
    · simp [h1]
    · simp only [if_neg h1]
      cases h2 : stored.contains y with
      | true => simp
      | false => simp only [Bool.false_eq_true, if_false]; exact hm y h1 h2
  rw [← e]; exact F
theorem fr_done {L : Addr} {h : Heap} {stored : List Str} {m₁ m₀ : Str → Option Value} (hm : ∀ y, y ≠ x → stored.contains y = false → m₁ y = m₀ y) (F : Fr h₀ L h m₁) :
    Fr h₀ L h (fun y => if y = x then m₁ y else if stored.contains y then m₁ y else m₀ y) := by
  have e : m₁ = fun y => if y = x then m₁ y else if stored.contains y then m₁ y else m₀ y := by
    funext y
    by_cases h1 : y = x
    · simp [h1]
    · simp only [if_neg h1]
      cases h2 : stored.contains y with
      | true => simp
      | false => simp only [Bool.false_eq_true, if_false]; exact hm y h1 h2
  rw [← e]; exact F
theorem iter_rangeK {r : Addr} {a₀ b₀ : Int} {t₀ u₀ v₀ : Tok} {n : Nat} {m₀ : Str → Option Value} {news : List (Addr × Obj)} (stored : List Str) (R : Nat → List (Addr × Obj) → Prop)
    (hh : A.handled = none) (hr : IsRange s.heap r a₀ b₀ 1 t₀ u₀ v₀) (hsmall : Builtin.Range.small a₀ b₀ 1 = true) (hn : Builtin.Range.rangeSize a₀ b₀ 1 = (n : Int)) (F : Fr h₀ env.locals s.heap m₀) (N : News h₀ env.locals s.heap news) (h0 : R 0 news)
    (turn : ∀ (i : Nat) (u : Str → Option Value) nx I it t h tk, i < n → R i nx → (∀ p ∈ nx, p.1 ≠ I) → Fr h₀ env.locals h (fun y => if y = x then some (.int (a₀ + (i : Int)) t) else if stored.contains y then u y else m₀ y) → News h₀ env.locals h ((I, it) :: nx) →
      wpAny (model prog w) A (execs body env) (UnrPost h₀ env.locals { s with heap := h, toks := tk } I it (fun m' n' => (∀ y, y ≠ x → stored.contains y = false → m' y = m₀ y) ∧ R (i + 1) n') Q) E { s with heap := h, toks := tk })
    (done : ∀ (u : Str → Option Value) nx h tk, R n nx → Fr h₀ env.locals h (fun y => if y = x then u y else if stored.contains y then u y else m₀ y) → News h₀ env.locals h nx → Q .next { s with heap := h, toks := tk }) :
    wpAny (model prog w) A (pyIter (.ref r)) (fun it s₂ => LoopAtV prog w A h₀ env x body Q E it s₂) E s :=
  iter_rangeJ (fun i m' n' => (∀ y, y ≠ x → stored.contains y = false → m' y = m₀ y) ∧ R i n') hh hr hsmall hn F N ⟨fun _ _ _ => rfl, h0⟩
    (fun i m₁ nx I it t h tk hi hJ hoff F' N' => turn i m₁ nx I it t h tk hi hJ.2 hoff (fr_turn hJ.1 F') N') (fun m₁ nx h tk hJ F' N' => done m₁ nx h tk hJ.2 (fr_done hJ.1 F') N')
theorem iter_listK {ax : Addr} {lo : Obj} {vs : List Value} {n : Nat} {m₀ : Str → Option Value} {news : List (Addr × Obj)} (stored : List Str) (R : Nat → List (Addr × Obj) → Prop)
    (hh : A.handled = none) (F : Fr h₀ env.locals s.heap m₀) (N : News h₀ env.locals s.heap news) (hm : (ax, lo) ∈ news) (hc : lo.cls = .type "list") (hd : lo.data = .seq vs.toArray n) (h0 : R 0 news)
    (turn : ∀ (i : Nat) v (u : Str → Option Value) nx I it h tk, vs[i]? = some v → R i nx → (ax, lo) ∈ nx → (∀ p ∈ nx, p.1 ≠ I) → it.cls = .type "list_iterator" → Fr h₀ env.locals h (fun y => if y = x then some v else if stored.contains y then u y else m₀ y) → News h₀ env.locals h ((I, it) :: nx) →
      wpAny (model prog w) A (execs body env) (UnrPost h₀ env.locals { s with heap := h, toks := tk } I it (fun m' n' => (ax, lo) ∈ n' ∧ (∀ y, y ≠ x → stored.contains y = false → m' y = m₀ y) ∧ R (i + 1) n') Q) E { s with heap := h, toks := tk })
    (done : ∀ (u : Str → Option Value) nx h tk, R vs.length nx → (ax, lo) ∈ nx → Fr h₀ env.locals h (fun y => if y = x then u y else if stored.contains y then u y else m₀ y) → News h₀ env.locals h nx → Q .next { s with heap := h, toks := tk }) :
    wpAny (model prog w) A (pyIter (.ref ax)) (fun it s₂ => LoopAtV prog w A h₀ env x body Q E it s₂) E s :=
  iter_listJ (fun i m' n' => (∀ y, y ≠ x → stored.contains y = false → m' y = m₀ y) ∧ R i n') hh F N hm hc hd ⟨fun _ _ _ => rfl, h0⟩
    (fun i v m₁ nx I it h tk hi hJ hmem hoff hcls F' N' => turn i v m₁ nx I it h tk hi hJ.2 hmem hoff hcls (fr_turn hJ.1 F') N') (fun m₁ nx h tk hJ hmem F' N' => done m₁ nx h tk hJ.2 hmem (fr_done hJ.1 F') N')
end
end Mine
end
section
open PySem PySem.W PyProof.Rows PySem.Spec PySem.Calls
set_option maxRecDepth 100000
namespace Mine
theorem kw_D6b : True := by
  w_top off
  k_with_none
  trivial
theorem kw_D6b_0 : True := by
  k_with "k_all" => first | assumption | exact allne_lt (by assumption) | exact allne_of (by assumption) | exact allne_of (And.right (by assumption)) | exact allne_of (And.right (And.right (by assumption))) | exact allne_of (And.right (And.right (And.right (by assumption)))) | exact allne_of (And.right (And.right (And.right (And.right (by assumption))))) | exact allne_of (And.right (And.right (And.right (And.right (And.right (by assumption)))))) | exact allne_of (And.right (And.right (And.right (And.right (And.right (And.right (by assumption))))))) | exact allne_of (And.right (And.right (And.right (And.right (And.right (And.right (And.right (by assumption)))))))) | exact allne_of (And.right (And.right (And.right (And.right (And.right (And.right (And.right (And.right (by assumption))))))))) | exact allne_of (And.right (And.right (And.right (And.right (And.right (And.right (And.right (And.right (And.right (by assumption)))))))))) | exact allne_of (And.right (And.right (And.right (And.right (And.right (And.right (And.right (And.right (And.right (And.right (by assumption))))))))))) | exact allne_of (And.right (And.right (And.right (And.right (And.right (And.right (And.right (And.right (And.right (And.right (And.right (by assumption)))))))))))) | exact allne_of (And.right (And.right (And.right (And.right (And.right (And.right (And.right (And.right (And.right (And.right (And.right (And.right (by assumption))))))))))))) | exact allne_of (And.right (And.right (And.right (And.right (And.right (And.right (And.right (And.right (And.right (And.right (And.right (And.right (And.right (by assumption)))))))))))))) | exact alllt_trans (by assumption) (by first | assumption | (refine ltN ?_; omega))
  trivial
theorem kw_D6b_1 : True := by
  k_with "exec Raise some none" => (k_here; k_dflt (refine' exc_raise ?hh ?_; (case hh => rfl)))
  trivial
section
variable {prog : Program} {w : World} {p : Program} {loose : List Str} {mean : ExcName → Option Value} {mg mb : Str → Option Value}
  {dp un : Nat} {gd : Option (List Code)} {cn : Str} {cs : Scope} {a : Addr} {ccd : Value} {cl : List (Str × Addr)} {outer : List Env} {A₀ : Around} {base h₀ : Heap} {L : Addr} {m : Str → Option Value} {s : Shared} {Q E : Value → Shared → Prop}
theorem keepOf {d : Addr} {keep news : List (Addr × Obj)} (h : ∀ p ∈ keep, p.1 ≠ d) (h' : ∀ p ∈ keep, p ∈ news) : ∀ p ∈ keep, p ∈ news ∧ p.1 ≠ d := fun p hp => ⟨h' p hp, h p hp⟩
theorem upd_apart {d : Addr} {o : Obj} {news : List (Addr × Obj)} {g : Obj → List (Addr × Obj)} (U : UpdF d o news g) : ∃ rest : List (Addr × Obj), (d, o) ∈ news ∧ (∀ p ∈ rest, p.1 ≠ d) ∧ (∀ p ∈ rest, p ∈ news) ∧ (∀ p ∈ news, p.1 ≠ d → p ∈ rest) ∧ (∀ o', ∀ p ∈ g o', p = (d, o') ∨ p ∈ rest) := by
  obtain ⟨pre, post, rfl, h2, h3, h4⟩ := U.split
  refine ⟨pre ++ post, List.mem_append_right _ (.head _), fun p hp => (List.mem_append.mp hp).elim (h3 p) (h4 p), fun p hp => ?_, fun p hp hn => ?_, fun o' p hp => ?_⟩
  · exact (List.mem_append.mp hp).elim (fun h => List.mem_append_left _ h) fun h => List.mem_append_right _ (.tail _ h)
  · rcases List.mem_append.mp hp with h | h
    · exact List.mem_append_left _ h
    · rcases List.mem_cons.mp h with rfl | h
      · exact absurd rfl hn
      · exact List.mem_append_right _ h
  · rw [h2] at hp
    rcases List.mem_append.mp hp with h | h
    · exact .inr (List.mem_append_left _ h)
    · rcases List.mem_cons.mp h with h | h
      · exact .inl h
      · exact .inr (List.mem_append_right _ h)
theorem u16_g (B : Below A₀ base outer h₀) (F : Fr h₀ L s.heap m) (X : (KF w.params).In h₀) (T : Top p loose mean mg mb h₀) (hk : cs.kind = .function) (hd : dp + 12 < recursionLimit) (hu : un + 160 < cLine)
  {x dx : Addr} {b : Array UInt8} {ks : List Int} {at_ : Int} {t1 t2 tb ta : Tok} (keep : List (Addr × Obj)) {news : List (Addr × Obj)} {g : Obj → List (Addr × Obj)} (N : News h₀ L s.heap news) (hxm : (x, instObj 165 dx) ∈ news) (U : UpdF dx (dictOf [⟨PyData.keyHash w.params (Str.ofString "data"), .str (Str.ofString "data") t1, .bytes b tb⟩, ⟨PyData.keyHash w.params (Str.ofString "at"), .str (Str.ofString "at") t2, .int at_ ta⟩] 2) news g) (hx : @LT.lt Nat _ dx x) (hb : KBw.bInts b = ks) (hks : ks.length ≤ 200000) (hkeep : ∀ p ∈ keep, p ∈ news ∧ p.1 ≠ dx)
  (hok : 0 ≤ at_ → at_ + 2 ≤ ks.length → ∀ tr ta' h' k', Fr h₀ L h' m → News h₀ L h' (g (dictOf [⟨PyData.keyHash w.params (Str.ofString "data"), .str (Str.ofString "data") t1, .bytes b tb⟩, ⟨PyData.keyHash w.params (Str.ofString "at"), .str (Str.ofString "at") t2, .int (at_ + 2) ta'⟩] 2)) → Q (.int (beNum ((ks.drop at_.toNat).take 2)) tr) { s with heap := h', toks := k' })
  (hbad : ¬ (0 ≤ at_ ∧ at_ + 2 ≤ ks.length) → ∀ e h' k', Bad base h₀ L m (envX cn cs L a ccd cl :: outer) at_ keep e h' → E (.ref e) { s with heap := h', toks := k' }) :
  wpAny (model PySem.Challenge.rw_pb0181_01.row.prog w) (ktrTop dp un gd cn cs L a ccd cl outer) (call (.ref 120) [.ref x]) Q E s := by
  obtain ⟨rest, r1, r2, r3, r4, r5⟩ := upd_apart U
  have N' : News h₀ L s.heap ((x, instObj 165 dx) :: (dx, dictOf [⟨PyData.keyHash w.params (Str.ofString "data"), .str (Str.ofString "data") t1, .bytes b tb⟩, ⟨PyData.keyHash w.params (Str.ofString "at"), .str (Str.ofString "at") t2, .int at_ ta⟩] 2) :: rest) := fun p hp => by
    rcases List.mem_cons.mp hp with rfl | hp
    · exact N _ hxm
    rcases List.mem_cons.mp hp with rfl | hp
    · exact N _ r1
    exact N _ (r3 p hp)
  refine u16_c B F X T hk hd hu N' r2 hx hb hks (fun h1 h2 tr ta' h' k' F' N' => hok h1 h2 tr ta' h' k' F' fun p hp => ?_) (fun hn e h' k' Hb => ?_)
  · rcases r5 _ p hp with rfl | hp
    · exact N' _ (.tail _ (.head _))
    · exact N' _ (.tail _ (.tail _ hp))
  · obtain ⟨d, es, k, tk, newsR, Fl, h1, h2, h3⟩ := Hb
    exact hbad hn e h' k' ⟨d, es, k, tk, newsR, Fl, fun p hp => h1 p (r4 p (hkeep p hp).1 (hkeep p hp).2), h2, h3⟩
theorem u32_g (B : Below A₀ base outer h₀) (F : Fr h₀ L s.heap m) (X : (KF w.params).In h₀) (T : Top p loose mean mg mb h₀) (hk : cs.kind = .function) (hd : dp + 12 < recursionLimit) (hu : un + 160 < cLine)
  {x dx : Addr} {b : Array UInt8} {ks : List Int} {at_ : Int} {t1 t2 tb ta : Tok} (keep : List (Addr × Obj)) {news : List (Addr × Obj)} {g : Obj → List (Addr × Obj)} (N : News h₀ L s.heap news) (hxm : (x, instObj 165 dx) ∈ news) (U : UpdF dx (dictOf [⟨PyData.keyHash w.params (Str.ofString "data"), .str (Str.ofString "data") t1, .bytes b tb⟩, ⟨PyData.keyHash w.params (Str.ofString "at"), .str (Str.ofString "at") t2, .int at_ ta⟩] 2) news g) (hx : @LT.lt Nat _ dx x) (hb : KBw.bInts b = ks) (hks : ks.length ≤ 200000) (hkeep : ∀ p ∈ keep, p ∈ news ∧ p.1 ≠ dx)
  (hok : 0 ≤ at_ → at_ + 4 ≤ ks.length → ∀ tr ta' h' k', Fr h₀ L h' m → News h₀ L h' (g (dictOf [⟨PyData.keyHash w.params (Str.ofString "data"), .str (Str.ofString "data") t1, .bytes b tb⟩, ⟨PyData.keyHash w.params (Str.ofString "at"), .str (Str.ofString "at") t2, .int (at_ + 4) ta'⟩] 2)) → Q (.int (beNum ((ks.drop at_.toNat).take 4)) tr) { s with heap := h', toks := k' })
  (hbad : ¬ (0 ≤ at_ ∧ at_ + 4 ≤ ks.length) → ∀ e h' k', Bad base h₀ L m (envX cn cs L a ccd cl :: outer) at_ keep e h' → E (.ref e) { s with heap := h', toks := k' }) :
  wpAny (model PySem.Challenge.rw_pb0181_01.row.prog w) (ktrTop dp un gd cn cs L a ccd cl outer) (call (.ref 141) [.ref x]) Q E s := by
  obtain ⟨rest, r1, r2, r3, r4, r5⟩ := upd_apart U
  have N' : News h₀ L s.heap ((x, instObj 165 dx) :: (dx, dictOf [⟨PyData.keyHash w.params (Str.ofString "data"), .str (Str.ofString "data") t1, .bytes b tb⟩, ⟨PyData.keyHash w.params (Str.ofString "at"), .str (Str.ofString "at") t2, .int at_ ta⟩] 2) :: rest) := fun p hp => by
    rcases List.mem_cons.mp hp with rfl | hp
    · exact N _ hxm
    rcases List.mem_cons.mp hp with rfl | hp
    · exact N _ r1
    exact N _ (r3 p hp)
  refine u32_c B F X T hk hd hu N' r2 hx hb hks (fun h1 h2 tr ta' h' k' F' N' => hok h1 h2 tr ta' h' k' F' fun p hp => ?_) (fun hn e h' k' Hb => ?_)
  · rcases r5 _ p hp with rfl | hp
    · exact N' _ (.tail _ (.head _))
    · exact N' _ (.tail _ (.tail _ hp))
  · obtain ⟨d, es, k, tk, newsR, Fl, h1, h2, h3⟩ := Hb
    exact hbad hn e h' k' ⟨d, es, k, tk, newsR, Fl, fun p hp => h1 p (r4 p (hkeep p hp).1 (hkeep p hp).2), h2, h3⟩
end
end Mine
end
section
open PySem PySem.W PyProof.Rows PySem.Spec PySem.Calls
set_option maxRecDepth 100000
namespace Mine
theorem kw_D7 : True := by
  w_top off
  k_with_none
  trivial
theorem kw_D7_0 : True := by
  k_with "k_all" => first | assumption | exact allne_lt (by assumption) | exact allne_of (by assumption) | exact allne_of (And.right (by assumption)) | exact allne_of (And.right (And.right (by assumption))) | exact allne_of (And.right (And.right (And.right (by assumption)))) | exact allne_of (And.right (And.right (And.right (And.right (by assumption))))) | exact allne_of (And.right (And.right (And.right (And.right (And.right (by assumption)))))) | exact allne_of (And.right (And.right (And.right (And.right (And.right (And.right (by assumption))))))) | exact allne_of (And.right (And.right (And.right (And.right (And.right (And.right (And.right (by assumption)))))))) | exact allne_of (And.right (And.right (And.right (And.right (And.right (And.right (And.right (And.right (by assumption))))))))) | exact allne_of (And.right (And.right (And.right (And.right (And.right (And.right (And.right (And.right (And.right (by assumption)))))))))) | exact allne_of (And.right (And.right (And.right (And.right (And.right (And.right (And.right (And.right (And.right (And.right (by assumption))))))))))) | exact allne_of (And.right (And.right (And.right (And.right (And.right (And.right (And.right (And.right (And.right (And.right (And.right (by assumption)))))))))))) | exact allne_of (And.right (And.right (And.right (And.right (And.right (And.right (And.right (And.right (And.right (And.right (And.right (And.right (by assumption))))))))))))) | exact allne_of (And.right (And.right (And.right (And.right (And.right (And.right (And.right (And.right (And.right (And.right (And.right (And.right (And.right (by assumption)))))))))))))) | exact alllt_trans (by assumption) (by first | assumption | (refine ltN ?_; omega))
  trivial
theorem kw_D7_1 : True := by
  k_with "exec Raise some none" => (k_here; k_dflt (refine' exc_raise ?hh ?_; (case hh => rfl)))
  trivial
section
variable {prog : Program} {w : World} {p : Program} {loose : List Str} {mean : ExcName → Option Value} {mg mb : Str → Option Value}
  {dp un : Nat} {gd : Option (List Code)} {cn : Str} {cs : Scope} {a : Addr} {ccd : Value} {cl : List (Str × Addr)} {outer : List Env} {A₀ : Around} {base h₀ : Heap} {L : Addr} {m : Str → Option Value} {s : Shared} {Q E : Value → Shared → Prop}
theorem kw_D7_2 : True := by
  k_with "call ref" => (k_here; (with_reducible show wpAny _ _ (call (Value.ref _) [Value.str _ _, Value.int _ _]) _ _ _); k_dflt (refine' exc_c ?k1 ?k2 ?k3 ?k4 ?kK ?kd ?ku ?k5 ?_; (case k1 => k_asm); (case k2 => k_asm); (case k3 => k_asm); (case k4 => k_asm); (case kK => exact rfl); (case kd => ktr_room); (case ku => ktr_units); (case k5 => k_asm); intro e' d' t' es' k' tk' h' j' F' N' hE' l1 n1 n2 n3))
  k_with "call ref" => (k_here; (with_reducible show wpAny _ _ (call (Value.ref 120) _) _ _ _); k_dflt (refine' u16_g (keep := _) ?k1 ?k2 ?k3 ?k4 ?kK ?kd ?ku ?k5 ?k6 ?k7 ?k8 ?k9 ?k10 ?k11 ?_ ?_; (case k1 => k_asm); (case k2 => k_asm); (case k3 => k_asm); (case k4 => k_asm); (case kK => exact rfl); (case kd => ktr_room); (case ku => ktr_units); (case k5 => k_asm); (case k6 => k_mem); (case k7 => k_updF); (case k8 => assumption); (case k9 => k_asm); (case k10 => k_asm); (case k11 => (refine' keepOf ?q1 ?q2; (case q1 => assumption); (case q2 => (intro p hp; repeat (first | exact hp | refine List.Mem.tail _ ?_)))))); (first | (intro hr1 hr2 t t' h' k' F' N') | (intro hr e h' k' Hb; refine hold ?_)))
  trivial
theorem off3 {a b c I : Addr} {o1 o2 o3 : Obj} {r : List (Addr × Obj)} (h1 : a ≠ I) (h2 : b ≠ I) (h3 : c ≠ I) (h4 : ∀ p ∈ r, p.1 ≠ I) : ∀ p ∈ (a, o1) :: (b, o2) :: (c, o3) :: r, p.1 ≠ I := fun p hp => by
  rcases List.mem_cons.mp hp with rfl | hp
  · exact h1
  rcases List.mem_cons.mp hp with rfl | hp
  · exact h2
  rcases List.mem_cons.mp hp with rfl | hp
  · exact h3
  exact h4 p hp
theorem head_addr {l : Addr} {o : Obj} {r : List (Addr × Obj)} {hp : Heap} (_N : News h₀ L hp ((l, o) :: r)) : ∃ q : Addr, q = l := ⟨l, rfl⟩
theorem kw_D7_3 : True := by
  k_with "pyIter ref" => refine hold ?_
  k_with "truthy ref" => (k_here; (with_reducible show wpAny _ _ (truthy (Value.ref _)) _ _ _); k_dflt (refine' truthy_ints_fit ?k1 ?k2 ?k3 ?_; (case k1 => exact News.isList (by k_asm) (by k_mem)); (case k2 => assumption); (case k3 => omega)))
  k_with "subscriptTail Name UnaryOp ref int" => (k_here; (with_reducible show wpAny _ _ (subscriptTail _ _ (Value.ref _) (Value.int _ _)) _ _ _); k_dflt (refine' item_list_ints_neg ?k1 ?k2 ?k3 ?k4 ?k5 ?_; (case k1 => exact News.isList (by k_asm) (by k_mem)); (case k2 => assumption); (case k3 => decide); (case k4 => omega); (case k5 => decide)); intro _)
  k_with "UnrEnd" => refine hold ?_
  k_with "Hold" => fail "held"
  trivial

set_option maxHeartbeats 8000000 in
theorem asc_c (B : Below A₀ base outer h₀) (F : Fr h₀ L s.heap m) (X : (KF w.params).In h₀) (T : Top p loose mean mg mb h₀) (hk : cs.kind = .function) (hd : dp + 16 < recursionLimit) (hu : un + 240 < cLine)
  {x dx : Addr} {b : Array UInt8} {ks : List Int} {at_ : Int} {t1 t2 tb ta : Tok} {n : Int} {gs : List Int} {rest : List (Addr × Obj)} (N : News h₀ L s.heap ((x, instObj 165 dx) :: (dx, dictOf [⟨PyData.keyHash w.params (Str.ofString "data"), .str (Str.ofString "data") t1, .bytes b tb⟩, ⟨PyData.keyHash w.params (Str.ofString "at"), .str (Str.ofString "at") t2, .int at_ ta⟩] 2) :: rest)) (hl : ∀ p ∈ rest, p.1 ≠ dx) (hx : @LT.lt Nat _ dx x) (hb : KBw.bInts b = ks) (hks : ks.length ≤ 200000)
  (h0 : 0 ≤ at_) (h1 : at_ + 2 ≤ ks.length) (hn : beNum ((ks.drop at_.toNat).take 2) = n) (hn0 : 0 ≤ n) (hn1 : n ≤ 1000) (hgl : (gs.length : Int) = n) (hfit : at_ + 2 + 2 * n ≤ ks.length + 1)
  (hgs : ∀ i : Nat, ∀ g, gs[i]? = some g → at_ + 2 + 2 * i + 2 ≤ ks.length → beNum ((ks.drop (at_ + 2 + 2 * i).toNat).take 2) = g)
  (hasc : ∀ i : Nat, ∀ g g', gs[i]? = some g → gs[i+1]? = some g' → g < g')
  (hok : at_ + 2 + 2 * n ≤ ks.length → ∀ l nn vs ta' h' k', Fr h₀ L h' m → IntsAre vs gs → News h₀ L h' ((l, listOf vs.toArray nn) :: (x, instObj 165 dx) :: (dx, dictOf [⟨PyData.keyHash w.params (Str.ofString "data"), .str (Str.ofString "data") t1, .bytes b tb⟩, ⟨PyData.keyHash w.params (Str.ofString "at"), .str (Str.ofString "at") t2, .int (at_ + 2 + 2 * n) ta'⟩] 2) :: rest) → (∀ p ∈ rest, p.1 ≠ l) → Q (.ref l) { s with heap := h', toks := k' })
  (hbad : at_ + 2 + 2 * n = ks.length + 1 → ∀ e h' k', Bad base h₀ L m (envX cn cs L a ccd cl :: outer) (ks.length - 1) rest e h' → E (.ref e) { s with heap := h', toks := k' }) :
  wpAny (model PySem.Challenge.rw_pb0181_01.row.prog w) (ktrTop dp un gd cn cs L a ccd cl outer) (call (.ref 225) [.ref x]) Q E s := by
  refine wpAny_call ?_
  k_dflt cell_enter
  k_steps
  · unfold Hold
    rename IsRange _ _ _ _ _ _ _ _ => hr
    rename Fr _ _ _ _ => F9
    rename News _ _ _ _ => N9
    rename _ ∧ _ ∧ AllLt _ _ => l1
    obtain ⟨ll, hll⟩ := head_addr N9
    subst hll
    obtain ⟨lx, ldx, lr⟩ := l1
    have lr' := allLt_mem lr
    rw [hn] at hr
    obtain ⟨nn, rfl⟩ : ∃ k : Nat, n = (k : Int) := ⟨n.toNat, by omega⟩
    refine iter_rangeK (n := nn) [Str.ofString "spot", Str.ofString "glyph"] (fun i nx => ∃ vs k ta, nx = (ll, listOf vs.toArray k) :: (x, instObj 165 dx) :: (dx, dictOf [⟨PyData.keyHash w.params (Str.ofString "data"), .str (Str.ofString "data") t1, .bytes b tb⟩, ⟨PyData.keyHash w.params (Str.ofString "at"), .str (Str.ofString "at") t2, .int (at_ + 2 + 2 * (i : Int)) ta⟩] 2) :: rest ∧ IntsAre vs (gs.take i) ∧ at_ + 2 + 2 * (i : Int) ≤ ks.length) rfl hr (small_one (by omega) (by omega) (by omega) (by omega)) ((rangeSize_nat _ _).trans (by omega)) F9 N9 ⟨[], 0, _, by have e : at_ + 2 + 2 * ((0 : Nat) : Int) = at_ + 2 := (by omega); rw [e], .nil, by omega⟩ ?_ ?_
    · intro i u nx I it t h tk hi ⟨vs, k, ta', e, hI, hle⟩ hoff F8 N8
      subst e
      have o1 := neN (hoff _ (.head _))
      have o2 := neN (hoff _ (.tail _ (.head _)))
      have o3 := neN (hoff _ (.tail _ (.tail _ (.head _))))
      have o4 : ∀ p ∈ rest, p.1 ≠ I := fun p hp => hoff p (.tail _ (.tail _ (.tail _ hp)))
      clear F9 N9
      have hlen : (gs.take i).length = i := by rw [List.length_take]; omega
      obtain ⟨g, hg⟩ : ∃ g, gs[i]? = some g := ⟨_, List.getElem?_eq_getElem (by omega)⟩
      have hval := hgs i g hg
      have hlast : 0 < i → (gs.take i).getD ((-1 : Int) + (gs.take i).length).toNat 0 < g := fun h => by
        obtain ⟨j, rfl⟩ : ∃ j, i = j + 1 := ⟨i - 1, by omega⟩
        obtain ⟨q, hq⟩ : ∃ q, gs[j]? = some q := ⟨_, List.getElem?_eq_getElem (by omega)⟩
        have := hasc j q g hq hg
        rw [hlen]
        have e1 : ((-1 : Int) + ((j + 1 : Nat) : Int)).toNat = j := by omega
        rw [e1, List.getD_eq_getElem?_getD, List.getElem?_take_of_lt (by omega), hq]
        exact this
      have hnx : gs.take (i + 1) = gs.take i ++ [g] := by rw [List.take_add_one, hg]; rfl
      generalize gs.take i = pre at *
      k_steps
      all_goals try (exfalso; omega)
      all_goals first
        | (show Hold _
           unfold Hold
           rename Fr _ _ _ _ => F7
           rename News _ _ _ _ => N7
           refine' UnrEnd.intro F7 N7 _ (fun p hp => hp) (off3 o1 o2 o3 o4) ⟨?kfr, vs ++ [.int (beNum (List.take 2 (List.drop (at_ + 2 + 2 * (i : Int)).toNat ks))) _], k + 1, _, ?keq, ?kin, ?kle⟩
           case kfr => (
             intro y h1 h2
             have h3 : y ≠ Str.ofString "spot" := by intro z; subst z; revert h2; decide
             have h4 : y ≠ Str.ofString "glyph" := by intro z; subst z; revert h2; decide
             simp only [if_neg h1, if_neg h3, if_neg h4, h2, Bool.false_eq_true, if_false])
           case keq => (
             have e2 : at_ + 2 + 2 * ((i + 1 : Nat) : Int) = at_ + 2 + 2 * (i : Int) + 2 := by omega
             rw [e2, ← List.push_toArray])
           case kin => (
             rw [hnx, ← hval (by assumption)]
             exact hI.append (.cons _ _ .nil))
           case kle => omega)
        | (rename Bad _ _ _ _ _ _ _ _ _ => Hb
           have e2 : at_ + 2 + 2 * (i : Int) = ks.length - 1 := by omega
           rw [e2] at Hb
           k_dflt (refine' pass_on ?k1 ?k2 ?k3 ?k4 ?_; (case k3 => exact Hb); (case k1 => assumption); (case k2 => assumption); (case k4 => exact fun p hp => hp))
           clear Hb; intro h' Hb
           exact hbad (by omega) _ _ _ Hb)
    · intro u nx h tk ⟨vs, k, ta', e, hI, hle⟩ F8 N8
      subst e
      clear F9 N9
      k_steps
      have e1 : gs.take nn = gs := List.take_of_length_le (by omega)
      rw [e1] at hI
      exact hok (by omega) _ _ _ _ _ _ (by assumption) hI (by assumption) (fun p hp => Nat.ne_of_lt (lr' p hp))
  · rename Bad _ _ _ _ _ _ _ _ _ => Hb
    omega
end
end Mine
end
section
open PySem PySem.W PyProof.Rows PySem.Spec PySem.Calls
set_option maxRecDepth 100000
namespace Mine
theorem kw_D8 : True := by
  w_top off
  k_with_none
  trivial
theorem kw_D8_0 : True := by
  k_with "k_all" => first | assumption | exact allne_lt (by assumption) | exact allne_of (by assumption) | exact allne_of (And.right (by assumption)) | exact allne_of (And.right (And.right (by assumption))) | exact allne_of (And.right (And.right (And.right (by assumption)))) | exact allne_of (And.right (And.right (And.right (And.right (by assumption))))) | exact allne_of (And.right (And.right (And.right (And.right (And.right (by assumption)))))) | exact allne_of (And.right (And.right (And.right (And.right (And.right (And.right (by assumption))))))) | exact allne_of (And.right (And.right (And.right (And.right (And.right (And.right (And.right (by assumption)))))))) | exact allne_of (And.right (And.right (And.right (And.right (And.right (And.right (And.right (And.right (by assumption))))))))) | exact allne_of (And.right (And.right (And.right (And.right (And.right (And.right (And.right (And.right (And.right (by assumption)))))))))) | exact allne_of (And.right (And.right (And.right (And.right (And.right (And.right (And.right (And.right (And.right (And.right (by assumption))))))))))) | exact allne_of (And.right (And.right (And.right (And.right (And.right (And.right (And.right (And.right (And.right (And.right (And.right (by assumption)))))))))))) | exact allne_of (And.right (And.right (And.right (And.right (And.right (And.right (And.right (And.right (And.right (And.right (And.right (And.right (by assumption))))))))))))) | exact allne_of (And.right (And.right (And.right (And.right (And.right (And.right (And.right (And.right (And.right (And.right (And.right (And.right (And.right (by assumption)))))))))))))) | exact alllt_trans (by assumption) (by first | assumption | (refine ltN ?_; omega))
  trivial
theorem kw_D8_1 : True := by
  k_with "exec Raise some none" => (k_here; k_dflt (refine' exc_raise ?hh ?_; (case hh => rfl)))
  trivial
section
variable {prog : Program} {w : World} {p : Program} {loose : List Str} {mean : ExcName → Option Value} {mg mb : Str → Option Value}
  {dp un : Nat} {gd : Option (List Code)} {cn : Str} {cs : Scope} {a : Addr} {ccd : Value} {cl : List (Str × Addr)} {outer : List Env} {A₀ : Around} {base h₀ : Heap} {L : Addr} {m : Str → Option Value} {s : Shared} {Q E : Value → Shared → Prop}
theorem u16_v (B : Below A₀ base outer h₀) (F : Fr h₀ L s.heap m) (X : (KF w.params).In h₀) (T : Top p loose mean mg mb h₀) (hk : cs.kind = .function) (hd : dp + 12 < recursionLimit) (hu : un + 160 < cLine)
  {x dx : Addr} {b : Array UInt8} {ks : List Int} {at_ v : Int} {t1 t2 tb ta : Tok} (keep : List (Addr × Obj)) {news : List (Addr × Obj)} {g : Obj → List (Addr × Obj)} (N : News h₀ L s.heap news) (hxm : (x, instObj 165 dx) ∈ news) (U : UpdF dx (dictOf [⟨PyData.keyHash w.params (Str.ofString "data"), .str (Str.ofString "data") t1, .bytes b tb⟩, ⟨PyData.keyHash w.params (Str.ofString "at"), .str (Str.ofString "at") t2, .int at_ ta⟩] 2) news g) (hx : @LT.lt Nat _ dx x) (hb : KBw.bInts b = ks) (hks : ks.length ≤ 200000) (hkeep : ∀ p ∈ keep, p ∈ news ∧ p.1 ≠ dx) (hv : beNum ((ks.drop at_.toNat).take 2) = v)
  (hok : 0 ≤ at_ → at_ + 2 ≤ ks.length → ∀ tr ta' h' k', Fr h₀ L h' m → News h₀ L h' (g (dictOf [⟨PyData.keyHash w.params (Str.ofString "data"), .str (Str.ofString "data") t1, .bytes b tb⟩, ⟨PyData.keyHash w.params (Str.ofString "at"), .str (Str.ofString "at") t2, .int (at_ + 2) ta'⟩] 2)) → Q (.int v tr) { s with heap := h', toks := k' })
  (hbad : ¬ (0 ≤ at_ ∧ at_ + 2 ≤ ks.length) → ∀ e h' k', Bad base h₀ L m (envX cn cs L a ccd cl :: outer) at_ keep e h' → E (.ref e) { s with heap := h', toks := k' }) :
  wpAny (model PySem.Challenge.rw_pb0181_01.row.prog w) (ktrTop dp un gd cn cs L a ccd cl outer) (call (.ref 120) [.ref x]) Q E s := by
  subst hv
  exact u16_g B F X T hk hd hu keep N hxm U hx hb hks hkeep hok hbad
theorem u32_v (B : Below A₀ base outer h₀) (F : Fr h₀ L s.heap m) (X : (KF w.params).In h₀) (T : Top p loose mean mg mb h₀) (hk : cs.kind = .function) (hd : dp + 12 < recursionLimit) (hu : un + 160 < cLine)
  {x dx : Addr} {b : Array UInt8} {ks : List Int} {at_ v : Int} {t1 t2 tb ta : Tok} (keep : List (Addr × Obj)) {news : List (Addr × Obj)} {g : Obj → List (Addr × Obj)} (N : News h₀ L s.heap news) (hxm : (x, instObj 165 dx) ∈ news) (U : UpdF dx (dictOf [⟨PyData.keyHash w.params (Str.ofString "data"), .str (Str.ofString "data") t1, .bytes b tb⟩, ⟨PyData.keyHash w.params (Str.ofString "at"), .str (Str.ofString "at") t2, .int at_ ta⟩] 2) news g) (hx : @LT.lt Nat _ dx x) (hb : KBw.bInts b = ks) (hks : ks.length ≤ 200000) (hkeep : ∀ p ∈ keep, p ∈ news ∧ p.1 ≠ dx) (hv : beNum ((ks.drop at_.toNat).take 4) = v)
  (hok : 0 ≤ at_ → at_ + 4 ≤ ks.length → ∀ tr ta' h' k', Fr h₀ L h' m → News h₀ L h' (g (dictOf [⟨PyData.keyHash w.params (Str.ofString "data"), .str (Str.ofString "data") t1, .bytes b tb⟩, ⟨PyData.keyHash w.params (Str.ofString "at"), .str (Str.ofString "at") t2, .int (at_ + 4) ta'⟩] 2)) → Q (.int v tr) { s with heap := h', toks := k' })
  (hbad : ¬ (0 ≤ at_ ∧ at_ + 4 ≤ ks.length) → ∀ e h' k', Bad base h₀ L m (envX cn cs L a ccd cl :: outer) at_ keep e h' → E (.ref e) { s with heap := h', toks := k' }) :
  wpAny (model PySem.Challenge.rw_pb0181_01.row.prog w) (ktrTop dp un gd cn cs L a ccd cl outer) (call (.ref 141) [.ref x]) Q E s := by
  subst hv
  exact u32_g B F X T hk hd hu keep N hxm U hx hb hks hkeep hok hbad
theorem kw_D8_2 : True := by
  k_with "call ref" => (k_here; (with_reducible show wpAny _ _ (call (Value.ref _) [Value.str _ _, Value.int _ _]) _ _ _); k_dflt (refine' exc_c ?k1 ?k2 ?k3 ?k4 ?kK ?kd ?ku ?k5 ?_; (case k1 => k_asm); (case k2 => k_asm); (case k3 => k_asm); (case k4 => k_asm); (case kK => exact rfl); (case kd => ktr_room); (case ku => ktr_units); (case k5 => k_asm); intro e' d' t' es' k' tk' h' j' F' N' hE' l1 n1 n2 n3))
  k_with "call ref" => (k_here; (with_reducible show wpAny _ _ (call (Value.ref 120) _) _ _ _); k_dflt (refine' u16_v (keep := _) ?k1 ?k2 ?k3 ?k4 ?kK ?kd ?ku ?k5 ?k6 ?k7 ?k8 ?k9 ?k10 ?k11 ?kv ?_ ?_; (case k1 => k_asm); (case k2 => k_asm); (case k3 => k_asm); (case k4 => k_asm); (case kK => exact rfl); (case kd => ktr_room); (case ku => ktr_units); (case k5 => k_asm); (case k6 => k_mem); (case k7 => k_updF); (case k8 => assumption); (case k9 => k_asm); (case k10 => k_asm); (case k11 => (refine' keepOf ?q1 ?q2; (case q1 => first | assumption | exact allne_lt (by assumption) | exact allne_of (by assumption) | k_all); (case q2 => (intro p hp; repeat (first | exact hp | refine List.Mem.tail _ ?_))))); (case kv => first | assumption | exact rfl)); (first | (intro hr1 hr2 t t' h' k' F' N') | (intro hr e h' k' Hb; refine hold ?_)))
  k_with "call ref" => (k_here; (with_reducible show wpAny _ _ (call (Value.ref 165) _) _ _ _); k_dflt (refine' oct_c ?k1 ?k2 ?k3 ?k4 ?kK ?kd ?ku ?k5 ?_; (case k1 => k_asm); (case k2 => k_asm); (case k3 => k_asm); (case k4 => k_asm); (case kK => exact rfl); (case kd => ktr_room); (case ku => ktr_units); (case k5 => k_asm)); (intro x' dx' t1' t2' tb' ta' h' k' F' N' l1 l2; (try k_lt l1); (try k_lt2 l2)))
  k_with "call ref" => (k_here; (with_reducible show wpAny _ _ (call (Value.ref 225) _) _ _ _); refine hold ?_)
  k_with "Hold" => fail "held"
  trivial
theorem drop3 {hp : Heap} {a b c d e f : Addr × Obj} {r : List (Addr × Obj)} (N : News h₀ L hp (a :: b :: c :: d :: e :: f :: r)) : News h₀ L hp (a :: b :: c :: r) := fun q hq => N q (by
  rcases List.mem_cons.mp hq with rfl | hq
  · exact .head _
  rcases List.mem_cons.mp hq with rfl | hq
  · exact .tail _ (.head _)
  rcases List.mem_cons.mp hq with rfl | hq
  · exact .tail _ (.tail _ (.head _))
  iterate 6 refine List.mem_cons_of_mem _ ?_
  exact hq)
structure SetAt (ks : List Int) (at_ : Int) (gs : List Int) : Prop where
  a0 : 0 ≤ at_
  room : at_ + 4 ≤ ks.length
  form : beNum ((ks.drop at_.toNat).take 2) = 1
  num : beNum ((ks.drop (at_ + 2).toNat).take 2) = gs.length
  small : gs.length ≤ 1000
  fit : at_ + 4 + 2 * (gs.length : Int) ≤ ks.length + 1
  codes : ∀ i : Nat, ∀ g, gs[i]? = some g → at_ + 4 + 2 * i + 2 ≤ ks.length → beNum ((ks.drop (at_ + 4 + 2 * i).toNat).take 2) = g
  asc : ∀ i : Nat, ∀ g g', gs[i]? = some g → gs[i+1]? = some g' → g < g'

set_option maxHeartbeats 8000000 in
theorem cov_c (B : Below A₀ base outer h₀) (F : Fr h₀ L s.heap m) (X : (KF w.params).In h₀) (T : Top p loose mean mg mb h₀) (hk : cs.kind = .function) (hd : dp + 20 < recursionLimit) (hu : un + 320 < cLine)
  {b : Array UInt8} {ks : List Int} {at_ : Int} {tb ta : Tok} {gs : List Int} {rest : List (Addr × Obj)} (N : News h₀ L s.heap rest) (hb : KBw.bInts b = ks) (hks : ks.length ≤ 200000) (S : SetAt ks at_ gs)
  (hok : at_ + 4 + 2 * (gs.length : Int) ≤ ks.length → ∀ c dc t t1 vs h' k', Fr h₀ L h' m → IntsAre vs gs → News h₀ L h' ((c, instObj 207 dc) :: (dc, dictOf [⟨PyData.keyHash w.params (Str.ofString "glyphs"), .str (Str.ofString "glyphs") t1, .ref t⟩] 1) :: (t, tupObj vs) :: rest) → (∀ p ∈ rest, p.1 < dc) → t < dc → dc < c → Q (.ref c) { s with heap := h', toks := k' })
  (hbad : at_ + 4 + 2 * (gs.length : Int) = ks.length + 1 → ∀ e h' k', Bad base h₀ L m (envX cn cs L a ccd cl :: outer) (ks.length - 1) rest e h' → E (.ref e) { s with heap := h', toks := k' }) :
  wpAny (model PySem.Challenge.rw_pb0181_01.row.prog w) (ktrTop dp un gd cn cs L a ccd cl outer) (call (.ref 246) [.bytes b tb, .int at_ ta]) Q E s := by
  have S1 := S.a0
  have S2 := S.room
  have S3 := S.form
  have S4 := S.num
  have S5 := S.small
  have S6 := S.fit
  have e4 : at_ + 2 + 2 = at_ + 4 := by omega
  refine wpAny_call ?_
  k_dflt cell_enter
  k_steps
  · unfold Hold
    k_dflt (refine' asc_c (n := gs.length) (gs := gs) ?k1 ?k2 ?k3 ?k4 ?kK ?kd ?ku ?k5 ?k6 ?k7 ?k8 ?k9 (by omega) (by omega) S4 (by omega) (by omega) rfl (by omega) ?kc ?ka ?_ ?_; (case k1 => k_asm); (case k2 => k_asm); (case k3 => k_asm); (case k4 => k_asm); (case kK => exact rfl); (case kd => ktr_room); (case ku => ktr_units); (case k5 => k_asm); (case k6 => first | assumption | exact allne_lt (by assumption) | exact allne_of (by assumption)); (case k7 => assumption); (case k8 => assumption); (case k9 => assumption); (case ka => exact S.asc); (case kc => (rw [e4]; exact S.codes)))
    · intro hr l nn vs ta' h' k' F9 hI N9 l9
      k_steps
      rename News h₀ L _ _ => N7
      rename _ ∧ _ ∧ _ ∧ _ ∧ AllLt _ _ => l7
      exact hok (by omega) _ _ _ _ _ _ _ (by assumption) hI (drop3 N7) (allLt_mem l7.2.2.2.2) l7.1 (by assumption)
    · intro hr e h' k' Hb
      k_dflt (refine' pass_on ?k1 ?k2 ?k3 ?k4 ?_; (case k3 => exact Hb); (case k1 => assumption); (case k2 => assumption); (case k4 => exact fun p hp => hp))
      clear Hb; intro h' Hb
      exact hbad (by omega) _ _ _ Hb
  · omega
end
end Mine
end
section
open PySem PySem.W PyProof.Rows PySem.Spec PySem.Calls
set_option maxRecDepth 100000
namespace Mine
theorem kw_D9 : True := by
  w_top off
  k_with_none
  trivial
theorem kw_D9_0 : True := by
  k_with "k_all" => first | assumption | exact allne_lt (by assumption) | exact allne_of (by assumption) | exact allne_of (And.right (by assumption)) | exact allne_of (And.right (And.right (by assumption))) | exact allne_of (And.right (And.right (And.right (by assumption)))) | exact allne_of (And.right (And.right (And.right (And.right (by assumption))))) | exact allne_of (And.right (And.right (And.right (And.right (And.right (by assumption)))))) | exact allne_of (And.right (And.right (And.right (And.right (And.right (And.right (by assumption))))))) | exact allne_of (And.right (And.right (And.right (And.right (And.right (And.right (And.right (by assumption)))))))) | exact allne_of (And.right (And.right (And.right (And.right (And.right (And.right (And.right (And.right (by assumption))))))))) | exact allne_of (And.right (And.right (And.right (And.right (And.right (And.right (And.right (And.right (And.right (by assumption)))))))))) | exact allne_of (And.right (And.right (And.right (And.right (And.right (And.right (And.right (And.right (And.right (And.right (by assumption))))))))))) | exact allne_of (And.right (And.right (And.right (And.right (And.right (And.right (And.right (And.right (And.right (And.right (And.right (by assumption)))))))))))) | exact allne_of (And.right (And.right (And.right (And.right (And.right (And.right (And.right (And.right (And.right (And.right (And.right (And.right (by assumption))))))))))))) | exact allne_of (And.right (And.right (And.right (And.right (And.right (And.right (And.right (And.right (And.right (And.right (And.right (And.right (And.right (by assumption)))))))))))))) | exact alllt_trans (by assumption) (by first | assumption | (refine ltN ?_; omega))
  trivial
theorem kw_D9_1 : True := by
  k_with "exec Raise some none" => (k_here; k_dflt (refine' exc_raise ?hh ?_; (case hh => rfl)))
  trivial
section
variable {prog : Program} {w : World} {p : Program} {loose : List Str} {mean : ExcName → Option Value} {mg mb : Str → Option Value}
  {dp un : Nat} {gd : Option (List Code)} {cn : Str} {cs : Scope} {a : Addr} {ccd : Value} {cl : List (Str × Addr)} {outer : List Env} {A₀ : Around} {base h₀ : Heap} {L : Addr} {m : Str → Option Value} {s : Shared} {Q E : Value → Shared → Prop}
theorem kw_D9_2 : True := by
  k_with "exec For Name Name cons nil" => (k_here; (rename Fr _ _ _ _ => lF'); (with_unfolding_all refine' For_invVF lF' ?k1 ?k2 ?_; (case k1 => exact rfl); (case k2 => exact rfl); k_whole))
  k_with "pyIter ref" => refine hold ?_
  k_with "Hold" => fail "held"
  trivial

set_option maxHeartbeats 8000000 in
theorem cof_c (B : Below A₀ base outer h₀) (F : Fr h₀ L s.heap m) (X : (KF w.params).In h₀) (T : Top p loose mean mg mb h₀) (hk : cs.kind = .function) (hd : dp + 20 < recursionLimit) (hu : un + 320 < cLine)
  {l : Addr} {rest : List (Addr × Obj)} (N : News h₀ L s.heap ((l, listOf (#[] : Array Value) 0) :: rest)) 
  (hok : ∀ c dc t t1 vs h' k', Fr h₀ L h' m → IntsAre vs [] → News h₀ L h' ((c, instObj 207 dc) :: (dc, dictOf [⟨PyData.keyHash w.params (Str.ofString "glyphs"), .str (Str.ofString "glyphs") t1, .ref t⟩] 1) :: (t, tupObj vs) :: rest) → (∀ p ∈ rest, p.1 < dc) → t < dc → dc < c → Q (.ref c) { s with heap := h', toks := k' }) :
  wpAny (model PySem.Challenge.rw_pb0181_01.row.prog w) (ktrTop dp un gd cn cs L a ccd cl outer) (call (.ref 218) [.ref l]) Q E s := by
  refine wpAny_call ?_
  k_dflt cell_enter
  k_steps
  unfold Hold
  rename Fr _ _ _ _ => F9
  rename News _ _ _ _ => N9
  refine iter_listK (vs := []) [] (fun i nx => nx = _) rfl F9 N9 (.tail _ (.head _)) rfl rfl rfl ?_ ?_
  · intro i v u nx I it h tk hv
    simp at hv
  · intro u nx h tk e hm F8 N8
    subst e
    clear F9 N9
    k_steps
    rename News h₀ L _ _ => N7
    rename _ ∧ _ ∧ _ ∧ _ ∧ AllLt _ _ => l7
    rename IntsAre _ _ => hI
    rename List.length _ = 0 => hz
    rw [List.length_eq_zero_iff] at hz
    rw [hz] at hI
    exact hok _ _ _ _ _ _ _ (by assumption) hI (drop3 N7) (allLt_mem l7.2.2.2.2) l7.1 (by assumption)
end
end Mine
end
section
open PySem PySem.W PyProof.Rows PySem.Spec PySem.Calls PyProof.Rows.LCg
set_option maxRecDepth 100000
namespace Mine
section
variable {prog : Program} {w : World} {A : Around} {h₀ : Heap} {L : Addr} {m : Str → Option Value} {env : Env} {elt : PySem.Expr} {x : Str} {scope : Scope} {cl : List (Str × Addr)} {s : Shared} {S : List (Addr × Obj) → Prop} {P : Nat → Value → Prop} {Fin : List Value → List (Addr × Obj) → Prop}
theorem comp_J (J : Nat → List Value → List (Addr × Obj) → Prop) {n : Nat} {news : List (Addr × Obj)} (h0 : J 0 [] news)
    (turn : ∀ (i : Nat) ys nx v I oI C oC D m₂ h tk (E' : Value → Shared → Prop), i < n → J i ys nx → P i v → NsObj oC m₂ → m₂ x = some v → Fr h₀ L h m → News h₀ L h ((I, oI) :: (C, oC) :: (D, lst ys) :: nx) → Off3 I C D nx → ((@Ne Nat I C) ∧ (@Ne Nat I D) ∧ (@Ne Nat C D)) →
      wpAny (model prog w) A (eval elt (compEnvC scope cl C env)) (CompEnd h₀ L m { s with heap := h, toks := tk } I oI C oC D (lst ys) S (fun y news' => J (i + 1) (ys ++ [y]) news')) E' { s with heap := h, toks := tk })
    (done : ∀ ys nx, J n ys nx → Fin ys nx) : CompRest prog w A h₀ L m env elt x scope cl s S P Fin n 0 [] news := by
  have key : ∀ k i ys nx, i + k = n → J i ys nx → CompRest prog w A h₀ L m env elt x scope cl s S P Fin k i ys nx := by
    intro k
    induction k with
    | zero =>
      intro i ys nx hi hJ
      obtain rfl : i = n := by omega
      exact CompRest.zero (done _ _ hJ)
    | succ k ih =>
      intro i ys nx hi hJ
      refine CompRest.succ fun v I oI C oC D m₂ h tk E' hP hC hx F N off ne => ?_
      refine wpAny_mono (turn i ys nx v I oI C oC D m₂ h tk E' (by omega) hJ hP hC hx F N off ne) (fun y s₂ p => ?_) fun _ _ e => e
      obtain ⟨h', tk', news', e, F', N', o', hS, r⟩ := p
      exact ⟨h', tk', news', e, F', N', o', hS, ih (i + 1) _ _ (by omega) r⟩
  exact key n 0 [] news (by omega) h0
end
end Mine
end
section
open PySem PySem.W PyProof.Rows PySem.Spec PySem.Calls
set_option maxRecDepth 100000
namespace Mine
theorem kw_D10 : True := by
  w_top off
  k_with_none
  trivial
theorem kw_D10_0 : True := by
  k_with "k_all" => first | assumption | exact allne_lt (by assumption) | exact allne_of (by assumption) | exact allne_of (And.right (by assumption)) | exact allne_of (And.right (And.right (by assumption))) | exact allne_of (And.right (And.right (And.right (by assumption)))) | exact allne_of (And.right (And.right (And.right (And.right (by assumption))))) | exact allne_of (And.right (And.right (And.right (And.right (And.right (by assumption)))))) | exact allne_of (And.right (And.right (And.right (And.right (And.right (And.right (by assumption))))))) | exact allne_of (And.right (And.right (And.right (And.right (And.right (And.right (And.right (by assumption)))))))) | exact allne_of (And.right (And.right (And.right (And.right (And.right (And.right (And.right (And.right (by assumption))))))))) | exact allne_of (And.right (And.right (And.right (And.right (And.right (And.right (And.right (And.right (And.right (by assumption)))))))))) | exact allne_of (And.right (And.right (And.right (And.right (And.right (And.right (And.right (And.right (And.right (And.right (by assumption))))))))))) | exact allne_of (And.right (And.right (And.right (And.right (And.right (And.right (And.right (And.right (And.right (And.right (And.right (by assumption)))))))))))) | exact allne_of (And.right (And.right (And.right (And.right (And.right (And.right (And.right (And.right (And.right (And.right (And.right (And.right (by assumption))))))))))))) | exact allne_of (And.right (And.right (And.right (And.right (And.right (And.right (And.right (And.right (And.right (And.right (And.right (And.right (And.right (by assumption)))))))))))))) | exact alllt_trans (by assumption) (by first | assumption | (refine ltN ?_; omega))
  trivial
theorem kw_D10_1 : True := by
  k_with "exec Raise some none" => (k_here; k_dflt (refine' exc_raise ?hh ?_; (case hh => rfl)))
  trivial
section
variable {prog : Program} {w : World} {p : Program} {loose : List Str} {mean : ExcName → Option Value} {mg mb : Str → Option Value}
  {dp un : Nat} {gd : Option (List Code)} {cn : Str} {cs : Scope} {a : Addr} {ccd : Value} {cl : List (Str × Addr)} {outer : List Env} {A₀ : Around} {base h₀ : Heap} {L : Addr} {m : Str → Option Value} {s : Shared} {Q E : Value → Shared → Prop}
theorem kw_D10_2 : True := by
  k_with "k_enter" => (refine' code_defC ?k1 ?k2 ?k3 ?k4 ?k5 ?kA ?kF ?kK ?k6 ?k7 ?k8 ?k9 ?kB ?kD ?_ ?c2 ?c3 ?c4; (case kA => exact rfl); (case kF => exact rfl); (case kK => first | exact rfl | assumption); (case k1 => k_asm); (case k2 => k_asm); (case k3 => k_asm); (case k4 => k_asm); (case k5 => k_asm); (case k6 => k_is); (case k7 => k_is); (case k8 => k_room); (case k9 => first | exact BindsTo.of_eq rfl | exact binds_K (by k_in) rfl (by k_is) rfl rfl rfl | fail "k_enter: no rule for these arguments"); (case kB => exact rfl); (case kD => decide +kernel); (case c2 => exact rfl); (case c3 => exact rfl); (case c4 => exact rfl); k_whole; intro g' L' h' tk' cells' FG' F' N' Y' B' X' T' l1; (try k_lt l1); k_cells Y'; (try simp only [List.cons_append, List.nil_append] at N'); (try dsimp only); (try k_lift B'); (try k_fold))
  trivial
theorem loc_addr {l : List (Addr × Obj)} {hp : Heap} (_N : News h₀ L hp l) : ∃ q : Addr, q = L := ⟨L, rfl⟩
theorem cls_ne {h : Heap} {l : List (Addr × Obj)} {a b : Addr} {o1 o2 : Obj} (N : News h₀ L h l) (h1 : (a, o1) ∈ l) (h2 : (b, o2) ∈ l) (hc : o1.cls ≠ o2.cls) : a ≠ b := fun e => by
  subst e
  have e2 : o1 = o2 := Option.some.inj ((N _ h1).1.symm.trans (N _ h2).1)
  exact hc (by rw [e2])
theorem tup_ne {h : Heap} {l : List (Addr × Obj)} {tt d : Addr} {o : Obj} {vs : List Value} {kvs : List (Int × Value)} (hd : o.IsDictOf (intKind prog w) kvs) (N : News h₀ L h l) (h1 : (tt, tupObj vs) ∈ l) (h2 : (d, o) ∈ l) : tt ≠ d := fun e => by
  subst e
  have e2 : tupObj vs = o := Option.some.inj ((N _ h1).1.symm.trans (N _ h2).1)
  have hc : o.cls = .type "dict" := by obtain ⟨_, _, hx, _⟩ := hd; exact hx.1
  rw [← e2] at hc
  exact absurd (Value.type.inj hc) (by decide)
theorem va_new {kvs : List (Int × Value)} {k : Int} {v : Value} (h : valueAt kvs k = none) : valueAt (PySem.stored kvs k v) k = some v := by
  have h1 : (kvs.find? fun kv => kv.1 = k) = none := by
    unfold valueAt at h
    simpa using h
  have h2 : kvs.any (fun kv => kv.1 = k) = false := by
    rw [List.find?_eq_none] at h1
    rw [List.any_eq_false]
    exact h1
  unfold PySem.stored valueAt
  rw [if_neg (by rw [h2]; decide), List.find?_append, h1]
  simp
theorem va_old {kvs : List (Int × Value)} {k k' : Int} {v : Value} (h : valueAt kvs k = none) (hne : k' ≠ k) : valueAt (PySem.stored kvs k v) k' = valueAt kvs k' := by
  have h1 : (kvs.find? fun kv => kv.1 = k) = none := by
    unfold valueAt at h
    simpa using h
  have h2 : kvs.any (fun kv => kv.1 = k) = false := by
    rw [List.find?_eq_none] at h1
    rw [List.any_eq_false]
    exact h1
  unfold PySem.stored valueAt
  rw [if_neg (by rw [h2]; decide), List.find?_append]
  have : ([(k, v)].find? fun kv => decide (kv.1 = k')) = none := by simp [Ne.symm hne]
  rw [this]
  cases kvs.find? fun kv => decide (kv.1 = k') <;> rfl
section
variable {A : Around} {h₀ : Heap} {news : List (Addr × Obj)} {d : Addr} {o : Obj} {kvs : List (Int × Value)} {k : Int} {t : Tok}
theorem kept_notin {Q : Value → Shared → Prop} (N : News h₀ L s.heap news) (hp : (d, o) ∈ news) (hd : o.IsDictOf (intKind prog w) kvs) (lo : (d == sysModules) = false) (bo : Bool) (hb : (!(valueAt kvs k).isSome) = bo)
    (h1 : Q (.bool bo) { s with toks := s.toks + 1 }) :
    wpAny (model prog w) A (compareOp .NotIn (.int k t) (.ref d)) Q E s := by
  subst hb
  exact wpAny_notIn_of (intKind_is _ _ _ _) lo (kda_dict N hp hd).mapOf h1
end
theorem kw_D10_3 : True := by
  k_with "exec For Name Name cons nil" => (k_here; (rename Fr _ _ _ _ => lF'); (with_unfolding_all refine' For_invVF lF' ?k1 ?k2 ?_; (case k1 => exact rfl); (case k2 => exact rfl); k_whole))
  k_with "pyIter ref" => refine hold ?_
  k_with "UnrEnd" => refine hold ?_
  k_with "compareOp NotIn int ref" => (k_here; k_dflt (refine' kept_notin ?k1 ?k2 ?k3 ?k4 _ ?k5 ?_; (case k1 => k_asm); (case k2 => k_mem); (case k3 => k_asm); (case k4 => k_asm); (case k5 => assumption)))
  k_with "setItem ref int" => refine hold ?_
  k_with "CompSrc" => refine hold ?_
  k_with "CompEnd" => refine hold ?_
  k_with "FinE" => refine hold ?_
  k_with "subscriptTail" => (k_here; (with_reducible show wpAny _ _ (subscriptTail _ _ (Value.ref _) (Value.int _ _)) _ _ _); k_dflt (refine' kda_item (knd := PySem.intKind _ _) ?k1 ?k2 ?k3 (intKind_is _ _ _ _) ?k5 ?_; (case k1 => k_asm); (case k2 => k_mem); (case k3 => k_asm); (case k5 => assumption)))
  k_with "subscriptTail Name Name ref int" => (k_here; (with_reducible show wpAny _ _ (subscriptTail _ _ (Value.ref _) (Value.int _ _)) _ _ _); k_dflt (refine' kda_item (knd := PySem.intKind _ _) ?k1 ?k2 ?k3 (intKind_is _ _ _ _) ?k5 ?_; (case k1 => k_asm); (case k2 => k_mem); (case k3 => k_asm); (case k5 => assumption)))
  k_with "Hold" => fail "held"
  k_with "call ref" => (k_here; (with_reducible show wpAny _ _ (call (Value.ref 246) _) _ _ _); k_dflt (refine' cov_c ?k1 ?k2 ?k3 ?k4 ?kK ?kd ?ku ?k5 ?k6 ?k7 ?kS ?_ ?_; (case k1 => k_asm); (case k2 => k_asm); (case k3 => k_asm); (case k4 => k_asm); (case kK => exact rfl); (case kd => ktr_room); (case ku => ktr_units); (case k5 => k_asm); (case k6 => k_asm); (case k7 => k_asm); (case kS => assumption)); (first | (intro hr9 c9 dc9 t9 t19 vs9 h' k' F' hI9 N' l19 l29 l39; (try k_lt l19); (try k_lt2 l29); (try k_lt2 l39)) | (intro hr9 e9 h' k' Hb9; refine hold ?_)))
  trivial

def CovAt (w : World) (news : List (Addr × Obj)) (v : Value) (g : List Int) : Prop :=
  ∃ c dc t t1 vs, v = .ref c ∧ (c, instObj 207 dc) ∈ news ∧ (dc, dictOf [⟨PyData.keyHash w.params (Str.ofString "glyphs"), .str (Str.ofString "glyphs") t1, .ref t⟩] 1) ∈ news ∧ (t, tupObj vs) ∈ news ∧ IntsAre vs g
theorem CovAt.sub {w : World} {news news' : List (Addr × Obj)} {v : Value} {g : List Int} (h : CovAt w news v g) (hs : ∀ p ∈ news, p ∈ news') : CovAt w news' v g := by
  obtain ⟨c, dc, t, t1, vs, e, h1, h2, h3, h4⟩ := h
  exact ⟨c, dc, t, t1, vs, e, hs _ h1, hs _ h2, hs _ h3, h4⟩
def CovsAre (w : World) (news : List (Addr × Obj)) (cvs : List Value) (gss : List (List Int)) : Prop :=
  cvs.length = gss.length ∧ ∀ (i : Nat) (v : Value) (g : List Int), cvs[i]? = some v → gss[i]? = some g → CovAt w news v g
def Wants (os : List Int) (gss : List (List Int)) (o : Int) (g : List Int) : Prop := (o = 0 ∧ g = []) ∨ ∃ j : Nat, os[j]? = some o ∧ gss[j]? = some g
structure Kept (w : World) (os : List Int) (gss : List (List Int)) (at_ len : Int) (i : Nat) (kvs : List (Int × Value)) (more : List (Addr × Obj)) : Prop where
  small : kvs.length ≤ i + 1
  zero : valueAt kvs 0 ≠ none
  seen : ∀ (j : Nat) (o : Int), j < i → os[j]? = some o → valueAt kvs o ≠ none
  val : ∀ (o : Int) (v : Value), valueAt kvs o = some v → ∃ g, Wants os gss o g ∧ CovAt w more v g ∧ (o ≠ 0 → at_ + o + 4 + 2 * (g.length : Int) ≤ len)

theorem mem3 {a b c : Addr × Obj} {r l : List (Addr × Obj)} (h1 : a ∈ l) (h2 : b ∈ l) (h3 : c ∈ l) (hr : ∀ p ∈ r, p ∈ l) : ∀ p ∈ a :: b :: c :: r, p ∈ l := fun p hp => by
  rcases List.mem_cons.mp hp with rfl | hp
  · exact h1
  rcases List.mem_cons.mp hp with rfl | hp
  · exact h2
  rcases List.mem_cons.mp hp with rfl | hp
  · exact h3
  exact hr p hp
theorem ledger_end {h : Heap} {c dc tt I kd x : Addr} {o1 o2 it od o' ox : Obj} {vs : List Value} {kvs : List (Int × Value)} {more : List (Addr × Obj)} (N : News h₀ L h ((c, o1) :: (dc, o2) :: (tt, tupObj vs) :: (I, it) :: (kd, o') :: (x, ox) :: more))
    (hoff : ∀ p ∈ (kd, od) :: (x, ox) :: more, p.1 ≠ I) (hoffd : ∀ p ∈ more, p.1 ≠ kd) (l1 : I < dc ∧ kd < dc ∧ x < dc ∧ AllLt dc more) (l3 : dc < c) (hcls : it.cls = .type "list_iterator") (hd : o'.IsDictOf (intKind prog w) kvs) :
    (∀ p ∈ (I, it) :: (kd, o') :: (x, ox) :: (c, o1) :: (dc, o2) :: (tt, tupObj vs) :: more, p ∈ (c, o1) :: (dc, o2) :: (tt, tupObj vs) :: (I, it) :: (kd, o') :: (x, ox) :: more) ∧
    (∀ p ∈ (kd, o') :: (x, ox) :: (c, o1) :: (dc, o2) :: (tt, tupObj vs) :: more, p.1 ≠ I) ∧ (∀ p ∈ (c, o1) :: (dc, o2) :: (tt, tupObj vs) :: more, p.1 ≠ kd) := by
  have t1 : tt ≠ I := cls_ne N (.tail _ (.tail _ (.head _))) (.tail _ (.tail _ (.tail _ (.head _)))) (by rw [hcls]; exact fun e => absurd (Value.type.inj e) (by decide))
  have t2 : tt ≠ kd := tup_ne hd N (.tail _ (.tail _ (.head _))) (.tail _ (.tail _ (.tail _ (.tail _ (.head _)))))
  refine ⟨?_, ?_, ?_⟩
  · refine mem3 (.tail _ (.tail _ (.tail _ (.head _)))) (.tail _ (.tail _ (.tail _ (.tail _ (.head _))))) (.tail _ (.tail _ (.tail _ (.tail _ (.tail _ (.head _)))))) (mem3 (.head _) (.tail _ (.head _)) (.tail _ (.tail _ (.head _))) fun p hp => ?_)
    iterate 6 refine List.mem_cons_of_mem _ ?_
    exact hp
  · intro p hp
    rcases List.mem_cons.mp hp with rfl | hp
    · exact hoff (kd, od) (.head _)
    rcases List.mem_cons.mp hp with rfl | hp
    · exact hoff _ (.tail _ (.head _))
    exact off3 (Nat.ne_of_gt (Nat.lt_trans l1.1 l3)) (Nat.ne_of_gt l1.1) t1 (fun q hq => hoff q (.tail _ (.tail _ hq))) p hp
  · exact off3 (Nat.ne_of_gt (Nat.lt_trans l1.2.1 l3)) (Nat.ne_of_gt l1.2.1) t2 hoffd
theorem wants_one {ks : List Int} {at_ : Int} {os : List Int} {gss : List (List Int)} (hset : ∀ (i : Nat) (o : Int) (g : List Int), os[i]? = some o → gss[i]? = some g → (o = 0 → g = []) ∧ (o ≠ 0 → SetAt ks (at_ + o) g))
    (hsame : ∀ (i j : Nat) (o : Int) (g g' : List Int), os[i]? = some o → os[j]? = some o → gss[i]? = some g → gss[j]? = some g' → g = g') {i : Nat} {o : Int} {g g' : List Int} (hw : Wants os gss o g') (ho : os[i]? = some o) (hg : gss[i]? = some g) : g' = g := by
  rcases hw with ⟨h1, h2⟩ | ⟨j, h1, h2⟩
  · rw [h2, (hset i o g ho hg).1 h1]
  · exact hsame j i o g' g h1 ho h2 hg
theorem Kept.step_some {w : World} {os : List Int} {gss : List (List Int)} {at_ len : Int} {i : Nat} {kvs : List (Int × Value)} {more : List (Addr × Obj)} {o : Int} {v : Value} (hK : Kept w os gss at_ len i kvs more) (ho : os[i]? = some o) (hv : valueAt kvs o = some v) : Kept w os gss at_ len (i + 1) kvs more where
  small := Nat.le_succ_of_le hK.small
  zero := hK.zero
  seen := fun j o' hj ho' => by
    rcases Nat.lt_or_ge j i with h | h
    · exact hK.seen j o' h ho'
    · obtain rfl : j = i := by omega
      rw [ho] at ho'
      cases ho'
      rw [hv]; exact fun h => nomatch h
  val := hK.val
theorem Kept.step_none {w : World} {os : List Int} {gss : List (List Int)} {at_ len : Int} {i : Nat} {kvs : List (Int × Value)} {more more' : List (Addr × Obj)} {o : Int} {g : List Int} {v : Value} (hK : Kept w os gss at_ len i kvs more) (ho : os[i]? = some o) (hg : gss[i]? = some g) (hv : valueAt kvs o = none)
    (hc : CovAt w more' v g) (hfit : at_ + o + 4 + 2 * (g.length : Int) ≤ len) (hs : ∀ p ∈ more, p ∈ more') : Kept w os gss at_ len (i + 1) (PySem.stored kvs o v) more' where
  small := Nat.le_trans (stored_length_le _ _ _) (Nat.succ_le_succ hK.small)
  zero := fun h => by
    by_cases hz : (0 : Int) = o
    · rw [hz, va_new hv] at h; cases h
    · rw [va_old hv hz] at h; exact hK.zero h
  seen := fun j o' hj ho' h => by
    by_cases hz : o' = o
    · rw [hz, va_new hv] at h; cases h
    · rw [va_old hv hz] at h
      rcases Nat.lt_or_ge j i with h' | h'
      · exact hK.seen j o' h' ho' h
      · obtain rfl : j = i := by omega
        rw [ho] at ho'
        cases ho'
        exact hz rfl
  val := fun o' v' h => by
    by_cases hz : o' = o
    · rw [hz, va_new hv] at h
      cases h
      exact ⟨g, hz ▸ .inr ⟨i, ho, hg⟩, hc, fun _ => hz ▸ hfit⟩
    · rw [va_old hv hz] at h
      obtain ⟨g', h1, h2, h3⟩ := hK.val o' v' h
      exact ⟨g', h1, h2.sub hs, h3⟩
theorem kept_init {w : World} {os : List Int} {gss : List (List Int)} {at_ len : Int} {v : Value} {more : List (Addr × Obj)} (h : CovAt w more v []) : Kept w os gss at_ len 0 [(0, v)] more where
  small := Nat.le_refl _
  zero := by show some v ≠ none; exact fun h => nomatch h
  seen := fun j o hj => absurd hj (Nat.not_lt_zero _)
  val := fun o v' hv => by
    by_cases hz : (0 : Int) = o
    · subst hz
      have : v = v' := Option.some.inj hv
      subst this
      exact ⟨[], .inl ⟨rfl, rfl⟩, h, fun h => absurd rfl h⟩
    · have : valueAt [((0 : Int), v)] o = none := by unfold valueAt; simp [hz]
      rw [this] at hv; cases hv

set_option maxHeartbeats 8000000 in
theorem each_c (B : Below A₀ base outer h₀) (F : Fr h₀ L s.heap m) (X : (KF w.params).In h₀) (T : Top p loose mean mg mb h₀) (hk : cs.kind = .function) (hd : dp + 24 < recursionLimit) (hu : un + 400 < cLine)
  {b : Array UInt8} {ks : List Int} {at_ : Int} {tb ta : Tok} {lo c0 : Addr} {no : Nat} {ovs : List Value} {os : List Int} {gss : List (List Int)} {rest : List (Addr × Obj)} (N : News h₀ L s.heap rest) (hb : KBw.bInts b = ks) (hks : ks.length ≤ 200000)
  (hlo : (lo, listOf ovs.toArray no) ∈ rest) (hI : IntsAre ovs os) (hc0 : CovAt w rest (.ref c0) []) (hlen : os.length = gss.length) (hle : os.length ≤ 4)
  (hset : ∀ (i : Nat) (o : Int) (g : List Int), os[i]? = some o → gss[i]? = some g → (o = 0 → g = []) ∧ (o ≠ 0 → SetAt ks (at_ + o) g))
  (hsame : ∀ (i j : Nat) (o : Int) (g g' : List Int), os[i]? = some o → os[j]? = some o → gss[i]? = some g → gss[j]? = some g' → g = g')
  (hok : (∀ (i : Nat) (o : Int) (g : List Int), os[i]? = some o → gss[i]? = some g → o ≠ 0 → at_ + o + 4 + 2 * (g.length : Int) ≤ ks.length) → ∀ r k cvs more h' k', Fr h₀ L h' m → News h₀ L h' ((r, listOf cvs.toArray k) :: more) → (∀ p ∈ rest, p ∈ more) → CovsAre w more cvs gss → Q (.ref r) { s with heap := h', toks := k' })
  (hbad : (∃ (i : Nat) (o : Int) (g : List Int), os[i]? = some o ∧ gss[i]? = some g ∧ o ≠ 0 ∧ at_ + o + 4 + 2 * (g.length : Int) = ks.length + 1) → ∀ e h' k', Bad base h₀ L m (envX cn cs L a ccd cl :: outer) (ks.length - 1) rest e h' → E (.ref e) { s with heap := h', toks := k' }) :
  wpAny (model PySem.Challenge.rw_pb0181_01.row.prog w) (ktrTop dp un gd cn cs L a ccd cl outer) (call (.ref 251) [.bytes b tb, .int at_ ta, .ref lo, .ref 246, .ref c0]) Q E s := by
  refine wpAny_call ?_
  k_dflt k_enter
  refine cutQ fun Q' hQ' => ?_
  k_steps
  all_goals try (refine hQ' _ _ ?_; k_steps)
  unfold Hold
  rename Fr _ _ _ _ => F9
  rename News _ _ _ _ => N9
  rename _ ∧ AllLt _ _ => l9
  rename Obj.IsDictOf _ _ _ => hd9
  rename (_ == sysModules) = false => lo9
  rename Obj => oc
  rename _ = Data.cell _ => dc9
  dsimp only at dc9
  obtain ⟨kd, hkd⟩ := head_addr N9
  rw [← hkd] at N9 lo9 l9 dc9
  clear hkd
  obtain ⟨L9, hL9⟩ := loc_addr N9
  subst hL9
  generalize hkv : intKeyPairs _ = kvs0 at hd9
  refine iter_listK (vs := ovs) [] (fun i nx => ∃ od kvs more, nx = (kd, od) :: (L9 + 1, oc) :: more ∧ (∀ p ∈ rest, p ∈ more) ∧ Obj.IsDictOf (intKind PySem.Challenge.rw_pb0181_01.row.prog w) od kvs ∧ (∀ p ∈ more, p.1 ≠ kd) ∧ Kept w os gss at_ ks.length i kvs more) rfl F9 N9 (.tail _ (.tail _ hlo)) rfl rfl ?_ ?_ ?_
  · have hkv' : kvs0 = [((0 : Int), Value.ref c0)] := hkv.symm.trans rfl
    exact ⟨_, kvs0, rest, rfl, fun _ h => h, hd9, fun p hp => Nat.ne_of_lt (allLt_mem l9.2 p hp), hkv' ▸ kept_init hc0⟩
  · intro i v u nx I it h tk hv hR hm hoff hcls F8 N8
    obtain ⟨od, kvs, more, e, hsub, hd8, hoffd, hK⟩ := hR
    subst e
    obtain ⟨o, to, rfl, ho⟩ := hI.at i v hv
    have hil : i < os.length := (List.getElem?_eq_some_iff.mp ho).1
    obtain ⟨g, hg⟩ : ∃ g, gss[i]? = some g := ⟨_, List.getElem?_eq_getElem (by omega)⟩
    have K1 := hK.small
    have o1 := neN (hoff _ (.head _))
    have o2 := neN (hoff _ (.tail _ (.head _)))
    have o3 : ∀ p ∈ more, p.1 ≠ I := fun p hp => hoff p (.tail _ (.tail _ hp))
    have l9' := l9.1
    clear F9 N9
    cases hv9 : valueAt kvs o with
    | some v9 =>
      have hb9 : (!(valueAt kvs o).isSome) = false := by rw [hv9]; rfl
      k_steps
      all_goals try (refine hQ' _ _ ?_; k_steps)
      unfold Hold
      rename Fr _ _ _ _ => F7
      rename News _ _ _ _ => N7
      refine UnrEnd.intro F7 N7 _ (fun p hp => hp) hoff ⟨hm, ?_, od, kvs, more, rfl, hsub, hd8, hoffd, hK.step_some ho hv9⟩
      intro y h1 h2
      simp only [if_neg h1, h2, Bool.false_eq_true, if_false]
    | none =>
      have hb9 : (!(valueAt kvs o).isSome) = true := by rw [hv9]; rfl
      have hz : o ≠ 0 := fun z => hK.zero (z ▸ hv9)
      have hS := (hset i o g ho hg).2 hz
      k_steps
      all_goals try (refine hQ' _ _ ?_; k_steps)
      unfold Hold
      (k_here; (rename News _ _ _ _ => N77); (have hne77 := neN (tup_ne (prog := PySem.Challenge.rw_pb0181_01.row.prog) (by k_asm) N77 (.tail _ (.tail _ (.head _))) (by k_mem))); k_dflt (refine' kda_set (knd := PySem.intKind _ _) ?F ?N ?U ?d (intKind_is _ _ _ _) ?z ?_; (case F => k_asm); (case N => k_asm); (case U => k_updF); (case d => k_asm); (case z => (rw [sizeLine_eq]; omega))); intro h' o' F' N' hd'; (try dsimp only at N'))
      · k_steps
        all_goals try (refine hQ' _ _ ?_; k_steps)
        unfold Hold
        rename Fr _ _ _ _ => F7
        rename News _ _ _ _ => N7
        rename Obj.IsDictOf _ _ _ => hd7
        rename IntsAre _ _ => hI9
        obtain ⟨e1, e2, e3⟩ := ledger_end N7 hoff hoffd (by assumption) (by assumption) hcls hd7
        refine UnrEnd.intro F7 N7 _ e1 e2 ⟨.tail _ (.tail _ (.tail _ (.tail _ (.tail _ (hsub _ hlo))))), ?_, _, _, _, rfl, fun p hp => .tail _ (.tail _ (.tail _ (hsub p hp))), hd7, e3, hK.step_none ho hg hv9 ⟨_, _, _, _, _, rfl, .head _, .tail _ (.head _), .tail _ (.tail _ (.head _)), hI9⟩ (by assumption) fun p hp => .tail _ (.tail _ (.tail _ hp))⟩
        intro y h1 h2
        simp only [if_neg h1, h2, Bool.false_eq_true, if_false]
      · rename Bad _ _ _ _ _ _ _ _ _ => Hb
        k_dflt (refine' pass_on ?k1 ?k2 ?k3 ?k4 ?_; (case k3 => exact Hb); (case k1 => assumption); (case k2 => assumption); (case k4 => exact fun p hp => .tail _ (.tail _ (.tail _ (hsub p hp)))))
        clear Hb; intro h' Hb
        exact hbad ⟨i, o, g, ho, hg, hz, by assumption⟩ _ _ _ Hb
  · intro u nx h tk hR hm F8 N8
    obtain ⟨od, kvs, more, e, hsub, hd8, hoffd, hK⟩ := hR
    subst e
    clear F9 N9
    k_steps
    all_goals try (refine hQ' _ _ ?_; k_steps)
    unfold Hold
    rename Fr _ _ _ _ => F7
    rename News _ _ _ _ => N7
    have hlv := hI.length
    have hmlo : (lo, listOf ovs.toArray no) ∈ (kd, od) :: (L9 + 1, oc) :: more := .tail _ (.tail _ (hsub _ hlo))
    refine LCg.CompSrc.ledger rfl F7 N7 hmlo (by rw [List.size_toArray, sizeLine_eq]; omega) (fun g9 => ?_)
    refine comp_J (fun i ys nx => nx = (kd, od) :: (L9 + 1, oc) :: more ∧ ys.length = i ∧ ∀ (j : Nat) (v : Value) (g : List Int), ys[j]? = some v → gss[j]? = some g → CovAt w more v g) ⟨rfl, rfl, fun j v g h => by simp at h⟩ ?_ ?_
    · intro i ys nx v I oI C oC D m2 h2 tk2 E' hi hJ hP hC hx F6 N6 off ne
      obtain ⟨e, hyl, hys⟩ := hJ
      subst e
      obtain ⟨o, to, rfl, ho⟩ := hI.at i v (by simpa using hP)
      rw [List.size_toArray] at hi
      obtain ⟨v9, hv9⟩ : ∃ v9, valueAt kvs o = some v9 := by
        cases hq : valueAt kvs o with
        | none => exact absurd hq (hK.seen i o hi ho)
        | some v9 => exact ⟨v9, rfl⟩
      obtain ⟨g', hw, hcv, _⟩ := hK.val o v9 hv9
      clear F7 N7
      k_steps
      all_goals try (refine hQ' _ _ ?_; k_steps)
      unfold Hold
      rename Fr _ _ _ _ => F5
      rename News _ _ _ _ => N5
      obtain ⟨g, hg⟩ : ∃ g, gss[i]? = some g := ⟨_, List.getElem?_eq_getElem (by omega)⟩
      refine LCg.CompEnd.intro F5 N5 _ (fun p hp => hp) off (.inr ⟨_, hmlo, rfl, _, rfl⟩) ⟨rfl, by simp [hyl], fun j v g1 hj hgj => ?_⟩
      rcases Nat.lt_or_ge j ys.length with hjl | hjl
      · rw [List.getElem?_append_left hjl] at hj
        exact hys j v g1 hj hgj
      · have hji : j = i := by
          have := (List.getElem?_eq_some_iff.mp hj).1
          rw [List.length_append, List.length_singleton] at this
          omega
        subst hji
        rw [List.getElem?_append_right hjl, hyl, Nat.sub_self] at hj
        cases hj
        rw [← wants_one hset hsame hw ho hgj]
        exact hcv
    · intro ys nx hJ
      obtain ⟨e, hyl, hys⟩ := hJ
      subst e
      unfold LCg.FinE
      intro D h2 tk2 F6 N6 o1
      clear F7 N7
      rw [List.size_toArray] at hyl
      k_steps
      all_goals try (refine hQ' _ _ ?_; k_steps)
      refine hok (fun i o g ho hg hz => ?_) D ys.length ys _ _ _ (by assumption) (by assumption) (fun p hp => .tail _ (.tail _ (hsub p hp))) ⟨by omega, fun j v g hj hgj => (hys j v g hj hgj).sub fun p hp => .tail _ (.tail _ hp)⟩
      have hil : i < os.length := (List.getElem?_eq_some_iff.mp ho).1
      cases hq : valueAt kvs o with
      | none => exact absurd hq (hK.seen i o (by omega) ho)
      | some v9 =>
        obtain ⟨g', hw, _, hf⟩ := hK.val o v9 hq
        rw [← wants_one hset hsame hw ho hg]
        exact hf hz
end
end Mine
end
section
open PySem PySem.W PyProof.Rows PySem.Spec PySem.Calls
set_option maxRecDepth 100000
namespace Mine
theorem kw_D11 : True := by
  w_top off
  k_with_none
  trivial
theorem kw_D11_0 : True := by
  k_with "k_all" => first | assumption | exact allne_lt (by assumption) | exact allne_of (by assumption) | exact allne_of (And.right (by assumption)) | exact allne_of (And.right (And.right (by assumption))) | exact allne_of (And.right (And.right (And.right (by assumption)))) | exact allne_of (And.right (And.right (And.right (And.right (by assumption))))) | exact allne_of (And.right (And.right (And.right (And.right (And.right (by assumption)))))) | exact allne_of (And.right (And.right (And.right (And.right (And.right (And.right (by assumption))))))) | exact allne_of (And.right (And.right (And.right (And.right (And.right (And.right (And.right (by assumption)))))))) | exact allne_of (And.right (And.right (And.right (And.right (And.right (And.right (And.right (And.right (by assumption))))))))) | exact allne_of (And.right (And.right (And.right (And.right (And.right (And.right (And.right (And.right (And.right (by assumption)))))))))) | exact allne_of (And.right (And.right (And.right (And.right (And.right (And.right (And.right (And.right (And.right (And.right (by assumption))))))))))) | exact allne_of (And.right (And.right (And.right (And.right (And.right (And.right (And.right (And.right (And.right (And.right (And.right (by assumption)))))))))))) | exact allne_of (And.right (And.right (And.right (And.right (And.right (And.right (And.right (And.right (And.right (And.right (And.right (And.right (by assumption))))))))))))) | exact allne_of (And.right (And.right (And.right (And.right (And.right (And.right (And.right (And.right (And.right (And.right (And.right (And.right (And.right (by assumption)))))))))))))) | exact alllt_trans (by assumption) (by first | assumption | (refine ltN ?_; omega))
  trivial
theorem kw_D11_1 : True := by
  k_with "exec Raise some none" => (k_here; k_dflt (refine' exc_raise ?hh ?_; (case hh => rfl)))
  trivial
section
variable {prog : Program} {w : World} {p : Program} {loose : List Str} {mean : ExcName → Option Value} {mg mb : Str → Option Value}
  {dp un : Nat} {gd : Option (List Code)} {cn : Str} {cs : Scope} {a : Addr} {ccd : Value} {cl : List (Str × Addr)} {outer : List Env} {A₀ : Around} {base h₀ : Heap} {L : Addr} {m : Str → Option Value} {s : Shared} {Q E : Value → Shared → Prop}
theorem kw_D11_2 : True := by
  k_with "k_enter" => (refine' code_defC ?k1 ?k2 ?k3 ?k4 ?k5 ?kA ?kF ?kK ?k6 ?k7 ?k8 ?k9 ?kB ?kD ?_ ?c2 ?c3 ?c4; (case kA => exact rfl); (case kF => exact rfl); (case kK => first | exact rfl | assumption); (case k1 => k_asm); (case k2 => k_asm); (case k3 => k_asm); (case k4 => k_asm); (case k5 => k_asm); (case k6 => k_is); (case k7 => k_is); (case k8 => k_room); (case k9 => first | exact BindsTo.of_eq rfl | exact binds_K (by k_in) rfl (by k_is) rfl rfl rfl | fail "k_enter: no rule for these arguments"); (case kB => exact rfl); (case kD => decide +kernel); (case c2 => exact rfl); (case c3 => exact rfl); (case c4 => exact rfl); k_whole; intro g' L' h' tk' cells' FG' F' N' Y' B' X' T' l1; (try k_lt l1); k_cells Y'; (try simp only [List.cons_append, List.nil_append] at N'); (try dsimp only); (try k_lift B'); (try k_fold))
  k_with "call ref" => (k_here; (with_reducible show wpAny _ _ (call (Value.ref _) [Value.str _ _, Value.int _ _]) _ _ _); k_dflt (refine' exc_c ?k1 ?k2 ?k3 ?k4 ?kK ?kd ?ku ?k5 ?_; (case k1 => k_asm); (case k2 => k_asm); (case k3 => k_asm); (case k4 => k_asm); (case kK => exact rfl); (case kd => ktr_room); (case ku => ktr_units); (case k5 => k_asm); intro e' d' t' es' k' tk' h' j' F' N' hE' l1 n1 n2 n3))
  k_with "call ref" => (k_here; (with_reducible show wpAny _ _ (call (Value.ref 120) _) _ _ _); k_dflt (refine' u16_v (keep := _) ?k1 ?k2 ?k3 ?k4 ?kK ?kd ?ku ?k5 ?k6 ?k7 ?k8 ?k9 ?k10 ?k11 ?kv ?_ ?_; (case k1 => k_asm); (case k2 => k_asm); (case k3 => k_asm); (case k4 => k_asm); (case kK => exact rfl); (case kd => ktr_room); (case ku => ktr_units); (case k5 => k_asm); (case k6 => k_mem); (case k7 => k_updF); (case k8 => assumption); (case k9 => k_asm); (case k10 => k_asm); (case k11 => (refine' keepOf ?q1 ?q2; (case q1 => first | assumption | exact allne_lt (by assumption) | exact allne_of (by assumption) | k_all); (case q2 => (intro p hp; repeat (first | exact hp | refine List.Mem.tail _ ?_))))); (case kv => first | assumption | exact rfl)); (first | (intro hr1 hr2 t t' h' k' F' N') | (intro hr e h' k' Hb; refine hold ?_)))
  k_with "call ref" => (k_here; (with_reducible show wpAny _ _ (call (Value.ref 141) _) _ _ _); k_dflt (refine' u32_v (keep := _) ?k1 ?k2 ?k3 ?k4 ?kK ?kd ?ku ?k5 ?k6 ?k7 ?k8 ?k9 ?k10 ?k11 ?kv ?_ ?_; (case k1 => k_asm); (case k2 => k_asm); (case k3 => k_asm); (case k4 => k_asm); (case kK => exact rfl); (case kd => ktr_room); (case ku => ktr_units); (case k5 => k_asm); (case k6 => k_mem); (case k7 => k_updF); (case k8 => assumption); (case k9 => k_asm); (case k10 => k_asm); (case k11 => (refine' keepOf ?q1 ?q2; (case q1 => first | assumption | exact allne_lt (by assumption) | exact allne_of (by assumption) | k_all); (case q2 => (intro p hp; repeat (first | exact hp | refine List.Mem.tail _ ?_))))); (case kv => first | assumption | exact rfl)); (first | (intro hr1 hr2 t t' h' k' F' N') | (intro hr e h' k' Hb; refine hold ?_)))
  k_with "call ref" => (k_here; (with_reducible show wpAny _ _ (call (Value.ref 165) _) _ _ _); k_dflt (refine' oct_c ?k1 ?k2 ?k3 ?k4 ?kK ?kd ?ku ?k5 ?_; (case k1 => k_asm); (case k2 => k_asm); (case k3 => k_asm); (case k4 => k_asm); (case kK => exact rfl); (case kd => ktr_room); (case ku => ktr_units); (case k5 => k_asm)); (intro x' dx' t1' t2' tb' ta' h' k' F' N' l1 l2; (try k_lt l1); (try k_lt2 l2)))
  k_with "call ref" => (k_here; (with_reducible show wpAny _ _ (call (Value.ref 218) _) _ _ _); refine hold ?_)
  k_with "call ref" => (k_here; (with_reducible show wpAny _ _ (call (Value.ref 251) _) _ _ _); refine hold ?_)
  k_with "CompSrc" => refine hold ?_
  k_with "CompEnd" => refine hold ?_
  k_with "FinE" => refine hold ?_
  k_with "Hold" => fail "held"
  trivial
theorem drop1 {hp : Heap} {a b : Addr × Obj} {r : List (Addr × Obj)} (N : News h₀ L hp (a :: b :: r)) : News h₀ L hp (a :: r) := fun q hq => N q (by
  rcases List.mem_cons.mp hq with rfl | hq
  · exact .head _
  exact .tail _ (.tail _ hq))
set_option maxHeartbeats 8000000 in
theorem sets0_c (B : Below A₀ base outer h₀) (F : Fr h₀ L s.heap m) (X : (KF w.params).In h₀) (T : Top p loose mean mg mb h₀) (hk : cs.kind = .function) (hd : dp + 28 < recursionLimit) (hu : un + 480 < cLine)
  {b : Array UInt8} {tb ta : Tok} {rest : List (Addr × Obj)} (N : News h₀ L s.heap rest)
  (hok : ∀ r h' k', Fr h₀ L h' m → News h₀ L h' ((r, listOf (#[] : Array Value) 0) :: rest) → Q (.ref r) { s with heap := h', toks := k' }) :
  wpAny (model PySem.Challenge.rw_pb0181_01.row.prog w) (ktrTop dp un gd cn cs L a ccd cl outer) (call (.ref 256) [.bytes b tb, .int 0 ta]) Q E s := by
  refine wpAny_call ?_
  k_dflt k_enter
  refine cutQ fun Q' hQ' => ?_
  k_steps
  all_goals try (refine hQ' _ _ ?_; k_steps)
  rename News h₀ L _ _ => N7
  exact hok _ _ _ (by assumption) (drop1 N7)
set_option maxHeartbeats 8000000 in
theorem setsB_c (B : Below A₀ base outer h₀) (F : Fr h₀ L s.heap m) (X : (KF w.params).In h₀) (T : Top p loose mean mg mb h₀) (hk : cs.kind = .function) (hd : dp + 28 < recursionLimit) (hu : un + 480 < cLine)
  {b : Array UInt8} {ks : List Int} {at_ f : Int} {tb ta : Tok} {rest : List (Addr × Obj)} (N : News h₀ L s.heap rest) (hb : KBw.bInts b = ks) (hks : ks.length ≤ 200000) (h0 : 0 < at_) (h1 : at_ + 2 ≤ ks.length) (hf : beNum ((ks.drop at_.toNat).take 2) = f) (hf1 : f ≠ 1) (hz : at_ ≠ 0)
  (hbad : ∀ e h' k', Bad base h₀ L m (envX cn cs L a ccd cl :: outer) at_ rest e h' → E (.ref e) { s with heap := h', toks := k' }) :
  wpAny (model PySem.Challenge.rw_pb0181_01.row.prog w) (ktrTop dp un gd cn cs L a ccd cl outer) (call (.ref 256) [.bytes b tb, .int at_ ta]) Q E s := by
  refine wpAny_call ?_
  k_dflt k_enter
  refine cutQ fun Q' hQ' => ?_
  k_steps
  all_goals try (refine hQ' _ _ ?_; k_steps)
  all_goals first
    | (exfalso; omega)
    | (refine' exc_hereN ?k1 ?k2 ?k3 ?k4; (case k3 => assumption); (case k2 => assumption); (case k1 => assumption); (case k4 => k_mem))
    | (k_dflt (refine' bad_new ?k1 ?k2 ?k4 ?k5 ?k6 ?k7 ?k8 ?k9 ?k10 ?k11 ?k12 ?_; (case k5 => assumption); (case k4 => assumption); (case k1 => assumption); (case k2 => assumption); (case k6 => assumption); (case k7 => assumption); (case k8 => assumption); (case k9 => assumption); (case k10 => assumption); (case k12 => rfl); (case k11 => show ∀ p ∈ rest, _; (intro p hp; repeat (first | exact hp | refine List.Mem.tail _ ?_))))
       intro h' Hb
       exact hbad _ _ _ Hb)
end
end Mine
end
section
open PySem PySem.W PyProof.Rows PySem.Spec PySem.Calls
set_option maxRecDepth 100000
namespace Mine
theorem kw_D12 : True := by
  w_top off
  k_with_none
  trivial
theorem kw_D12_0 : True := by
  k_with "k_all" => first | assumption | exact allne_lt (by assumption) | exact allne_of (by assumption) | exact allne_of (And.right (by assumption)) | exact allne_of (And.right (And.right (by assumption))) | exact allne_of (And.right (And.right (And.right (by assumption)))) | exact allne_of (And.right (And.right (And.right (And.right (by assumption))))) | exact allne_of (And.right (And.right (And.right (And.right (And.right (by assumption)))))) | exact allne_of (And.right (And.right (And.right (And.right (And.right (And.right (by assumption))))))) | exact allne_of (And.right (And.right (And.right (And.right (And.right (And.right (And.right (by assumption)))))))) | exact allne_of (And.right (And.right (And.right (And.right (And.right (And.right (And.right (And.right (by assumption))))))))) | exact allne_of (And.right (And.right (And.right (And.right (And.right (And.right (And.right (And.right (And.right (by assumption)))))))))) | exact allne_of (And.right (And.right (And.right (And.right (And.right (And.right (And.right (And.right (And.right (And.right (by assumption))))))))))) | exact allne_of (And.right (And.right (And.right (And.right (And.right (And.right (And.right (And.right (And.right (And.right (And.right (by assumption)))))))))))) | exact allne_of (And.right (And.right (And.right (And.right (And.right (And.right (And.right (And.right (And.right (And.right (And.right (And.right (by assumption))))))))))))) | exact allne_of (And.right (And.right (And.right (And.right (And.right (And.right (And.right (And.right (And.right (And.right (And.right (And.right (And.right (by assumption)))))))))))))) | exact alllt_trans (by assumption) (by first | assumption | (refine ltN ?_; omega))
  trivial
theorem kw_D12_1 : True := by
  k_with "exec Raise some none" => (k_here; k_dflt (refine' exc_raise ?hh ?_; (case hh => rfl)))
  trivial
section
variable {prog : Program} {w : World} {p : Program} {loose : List Str} {mean : ExcName → Option Value} {mg mb : Str → Option Value}
  {dp un : Nat} {gd : Option (List Code)} {cn : Str} {cs : Scope} {a : Addr} {ccd : Value} {cl : List (Str × Addr)} {outer : List Env} {A₀ : Around} {base h₀ : Heap} {L : Addr} {m : Str → Option Value} {s : Shared} {Q E : Value → Shared → Prop}
theorem kw_D12_2 : True := by
  k_with "k_enter" => (refine' code_defC ?k1 ?k2 ?k3 ?k4 ?k5 ?kA ?kF ?kK ?k6 ?k7 ?k8 ?k9 ?kB ?kD ?_ ?c2 ?c3 ?c4; (case kA => exact rfl); (case kF => exact rfl); (case kK => first | exact rfl | assumption); (case k1 => k_asm); (case k2 => k_asm); (case k3 => k_asm); (case k4 => k_asm); (case k5 => k_asm); (case k6 => k_is); (case k7 => k_is); (case k8 => k_room); (case k9 => first | exact BindsTo.of_eq rfl | exact binds_K (by k_in) rfl (by k_is) rfl rfl rfl | fail "k_enter: no rule for these arguments"); (case kB => exact rfl); (case kD => decide +kernel); (case c2 => exact rfl); (case c3 => exact rfl); (case c4 => exact rfl); k_whole; intro g' L' h' tk' cells' FG' F' N' Y' B' X' T' l1; (try k_lt l1); k_cells Y'; (try simp only [List.cons_append, List.nil_append] at N'); (try dsimp only); (try k_lift B'); (try k_fold))
  k_with "call ref" => (k_here; (with_reducible show wpAny _ _ (call (Value.ref 120) _) _ _ _); k_dflt (refine' u16_v (keep := _) ?k1 ?k2 ?k3 ?k4 ?kK ?kd ?ku ?k5 ?k6 ?k7 ?k8 ?k9 ?k10 ?k11 ?kv ?_ ?_; (case k1 => k_asm); (case k2 => k_asm); (case k3 => k_asm); (case k4 => k_asm); (case kK => exact rfl); (case kd => ktr_room); (case ku => ktr_units); (case k5 => k_asm); (case k6 => k_mem); (case k7 => k_updF); (case k8 => assumption); (case k9 => k_asm); (case k10 => k_asm); (case k11 => (refine' keepOf ?q1 ?q2; (case q1 => first | assumption | exact allne_lt (by assumption) | exact allne_of (by assumption) | k_all); (case q2 => (intro p hp; repeat (first | exact hp | refine List.Mem.tail _ ?_))))); (case kv => first | assumption | exact rfl)); (first | (intro hr1 hr2 t t' h' k' F' N') | (intro hr e h' k' Hb; refine hold ?_)))
  k_with "call ref" => (k_here; (with_reducible show wpAny _ _ (call (Value.ref 141) _) _ _ _); k_dflt (refine' u32_v (keep := _) ?k1 ?k2 ?k3 ?k4 ?kK ?kd ?ku ?k5 ?k6 ?k7 ?k8 ?k9 ?k10 ?k11 ?kv ?_ ?_; (case k1 => k_asm); (case k2 => k_asm); (case k3 => k_asm); (case k4 => k_asm); (case kK => exact rfl); (case kd => ktr_room); (case ku => ktr_units); (case k5 => k_asm); (case k6 => k_mem); (case k7 => k_updF); (case k8 => assumption); (case k9 => k_asm); (case k10 => k_asm); (case k11 => (refine' keepOf ?q1 ?q2; (case q1 => first | assumption | exact allne_lt (by assumption) | exact allne_of (by assumption) | k_all); (case q2 => (intro p hp; repeat (first | exact hp | refine List.Mem.tail _ ?_))))); (case kv => first | assumption | exact rfl)); (first | (intro hr1 hr2 t t' h' k' F' N') | (intro hr e h' k' Hb; refine hold ?_)))
  k_with "call ref" => (k_here; (with_reducible show wpAny _ _ (call (Value.ref 165) _) _ _ _); k_dflt (refine' oct_c ?k1 ?k2 ?k3 ?k4 ?kK ?kd ?ku ?k5 ?_; (case k1 => k_asm); (case k2 => k_asm); (case k3 => k_asm); (case k4 => k_asm); (case kK => exact rfl); (case kd => ktr_room); (case ku => ktr_units); (case k5 => k_asm)); (intro x' dx' t1' t2' tb' ta' h' k' F' N' l1 l2; (try k_lt l1); (try k_lt2 l2)))
  k_with "call ref" => (k_here; (with_reducible show wpAny _ _ (call (Value.ref 218) _) _ _ _); refine hold ?_)
  k_with "call ref" => (k_here; (with_reducible show wpAny _ _ (call (Value.ref 251) _) _ _ _); refine hold ?_)
  k_with "CompSrc" => refine hold ?_
  k_with "CompEnd" => refine hold ?_
  k_with "FinA" => refine hold ?_
  k_with "FinE" => refine hold ?_
  k_with "Hold" => fail "held"
  trivial
theorem snd_addr {a : Addr × Obj} {l : Addr} {o : Obj} {r : List (Addr × Obj)} {hp : Heap} (_N : News h₀ L hp (a :: (l, o) :: r)) : ∃ q : Addr, q = l := ⟨l, rfl⟩
structure HeadAt (ks : List Int) (at_ : Int) (os : List Int) : Prop where
  pos : 0 < at_
  room : at_ + 4 + 4 * (os.length : Int) ≤ ks.length
  form : beNum ((ks.drop at_.toNat).take 2) = 1
  num : beNum ((ks.drop (at_ + 2).toNat).take 2) = os.length
  offs : ∀ (i : Nat) (o : Int), os[i]? = some o → beNum ((ks.drop (at_ + 4 + 4 * (i : Int)).toNat).take 4) = o

set_option maxHeartbeats 8000000 in
theorem sets_c (B : Below A₀ base outer h₀) (F : Fr h₀ L s.heap m) (X : (KF w.params).In h₀) (T : Top p loose mean mg mb h₀) (hk : cs.kind = .function) (hd : dp + 32 < recursionLimit) (hu : un + 560 < cLine)
  {b : Array UInt8} {ks : List Int} {at_ : Int} {tb ta : Tok} {os : List Int} {gss : List (List Int)} {rest : List (Addr × Obj)} (N : News h₀ L s.heap rest) (hb : KBw.bInts b = ks) (hks : ks.length ≤ 200000)
  (H : HeadAt ks at_ os) (hlen : os.length = gss.length) (hle : os.length ≤ 4)
  (hset : ∀ (i : Nat) (o : Int) (g : List Int), os[i]? = some o → gss[i]? = some g → (o = 0 → g = []) ∧ (o ≠ 0 → SetAt ks (at_ + o) g))
  (hsame : ∀ (i j : Nat) (o : Int) (g g' : List Int), os[i]? = some o → os[j]? = some o → gss[i]? = some g → gss[j]? = some g' → g = g')
  (hok : (∀ (i : Nat) (o : Int) (g : List Int), os[i]? = some o → gss[i]? = some g → o ≠ 0 → at_ + o + 4 + 2 * (g.length : Int) ≤ ks.length) → ∀ r k cvs more h' k', Fr h₀ L h' m → News h₀ L h' ((r, listOf cvs.toArray k) :: more) → (∀ p ∈ rest, p ∈ more) → CovsAre w more cvs gss → Q (.ref r) { s with heap := h', toks := k' })
  (hbad : (∃ (i : Nat) (o : Int) (g : List Int), os[i]? = some o ∧ gss[i]? = some g ∧ o ≠ 0 ∧ at_ + o + 4 + 2 * (g.length : Int) = ks.length + 1) → ∀ e h' k', Bad base h₀ L m (envX cn cs L a ccd cl :: outer) (ks.length - 1) rest e h' → E (.ref e) { s with heap := h', toks := k' }) :
  wpAny (model PySem.Challenge.rw_pb0181_01.row.prog w) (ktrTop dp un gd cn cs L a ccd cl outer) (call (.ref 256) [.bytes b tb, .int at_ ta]) Q E s := by
  have H1 := H.pos
  have H2 := H.room
  have H3 := H.form
  have H4 := H.num
  have hz : at_ ≠ 0 := by omega
  refine wpAny_call ?_
  k_dflt k_enter
  refine cutQ fun Q' hQ' => ?_
  k_steps
  all_goals try (refine hQ' _ _ ?_; k_steps)
  all_goals try (exfalso; omega)
  unfold Hold
  rename Fr _ _ _ _ => F9
  rename News _ _ _ _ => N9
  obtain ⟨xx, hxx⟩ := head_addr N9
  subst hxx
  obtain ⟨dxx, hdxx⟩ := snd_addr N9
  subst hdxx
  obtain ⟨L9, hL9⟩ := loc_addr N9
  subst hL9
  rename Obj => oc
  rename IsRange _ _ _ _ _ _ _ _ => hr9
  rename _ ∧ AllLt _ _ => l9
  have lx : @LT.lt Nat _ dxx xx := by assumption
  have l9a := l9.1
  have l9b := allLt_mem l9.2
  refine LCg.CompSrc.range (n := os.length) rfl F9 N9 hr9 (small_one (by omega) (by omega) (by omega) (by omega)) ((rangeSize_nat _ _).trans (by omega)) (by rw [sizeLine_eq]; omega) (fun g9 => ?_)
  refine comp_J (fun i ys nx => ∃ t1 t2 tb ta, nx = (xx, instObj 165 dxx) :: (dxx, dictOf [⟨PyData.keyHash w.params (Str.ofString "data"), .str (Str.ofString "data") t1, .bytes b tb⟩, ⟨PyData.keyHash w.params (Str.ofString "at"), .str (Str.ofString "at") t2, .int (at_ + 4 + 4 * (i : Int)) ta⟩] 2) :: (L9 + 1, oc) :: rest ∧ IntsAre ys (os.take i)) ⟨_, _, _, _, by have e : at_ + 4 + 4 * ((0 : Nat) : Int) = at_ + 2 + 2 := (by omega); rw [e], .nil⟩ ?_ ?_
  · intro i ys nx v I oI C oC D m2 h2 tk2 E' hi hJ hP hC hx F6 N6 off ne
    obtain ⟨t1, t2, tb9, ta9, e, hys⟩ := hJ
    subst e
    obtain ⟨o, ho⟩ : ∃ o, os[i]? = some o := ⟨_, List.getElem?_eq_getElem (by omega)⟩
    have hv := H.offs i o ho
    have f1 := off.mem _ (.tail _ (.head _))
    have f2 := neN f1.1
    have f3 := neN f1.2.1
    have f4 := neN f1.2.2
    clear F9 N9
    k_steps
    all_goals try (refine hQ' _ _ ?_; k_steps)
    all_goals try (exfalso; omega)
    unfold Hold
    rename Fr _ _ _ _ => F5
    rename News _ _ _ _ => N5
    have hnx : os.take (i + 1) = os.take i ++ [o] := by rw [List.take_add_one, ho]; rfl
    have e2 : at_ + 4 + 4 * ((i + 1 : Nat) : Int) = at_ + 4 + 4 * (i : Int) + 4 := by omega
    refine LCg.CompEnd.intro F5 N5 _ (fun p hp => hp) off trivial ⟨_, _, _, _, by rw [e2], ?_⟩
    rw [hnx]
    exact hys.append (.cons _ _ .nil)
  · intro ys nx hJ
    obtain ⟨t1, t2, tb9, ta9, e, hys⟩ := hJ
    subst e
    first | unfold LCg.FinA | unfold LCg.FinE
    intro D h2 tk2 F6 N6 o1
    clear F9 N9
    k_steps
    all_goals try (refine hQ' _ _ ?_; k_steps)
    unfold Hold
    have e1 : os.take os.length = os := List.take_length
    rw [e1] at hys
    k_dflt (refine' cof_c ?k1 ?k2 ?k3 ?k4 ?kK ?kd ?ku ?k5 ?_; (case k1 => k_asm); (case k2 => k_asm); (case k3 => k_asm); (case k4 => k_asm); (case kK => exact rfl); (case kd => ktr_room); (case ku => ktr_units); (case k5 => k_asm))
    intro c9 dc9 t9 t19 vs9 h9 k9 F9 hI9 N9 l19 l29 l39
    k_steps
    all_goals try (refine hQ' _ _ ?_; k_steps)
    unfold Hold
    have N8 := N9
    k_dflt (refine' each_c (gss := gss) (ovs := ys) (os := os) (no := ys.length) ?k1 ?k2 ?k3 ?k4 ?kK ?kd ?ku ?k5 ?k6 ?k7 ?k8 ?k9 ?k10 hlen hle hset hsame ?_ ?_; (case k1 => k_asm); (case k2 => k_asm); (case k3 => k_asm); (case k4 => k_asm); (case kK => exact rfl); (case kd => ktr_room); (case ku => ktr_units); (case k5 => k_asm); (case k6 => k_asm); (case k7 => k_asm); (case k8 => k_mem); (case k9 => exact hys); (case k10 => exact ⟨_, _, _, _, _, rfl, .head _, .tail _ (.head _), .tail _ (.tail _ (.head _)), hI9⟩))
    · intro hfit r k cvs more h7 k7 F7 N7 hsub hcv
      clear F9 N9 N8
      k_steps
      all_goals try (refine hQ' _ _ ?_; k_steps)
      exact hok hfit r k cvs more _ _ (by assumption) (by assumption) (fun p hp => hsub p (by (repeat (first | exact hp | refine List.Mem.tail _ ?_)))) hcv
    · intro hex e h' k' Hb
      k_dflt (refine' pass_on (news₀ := rest) ?k1 ?k2 ?k3 ?k4 ?_; (case k3 => exact Hb); (case k1 => assumption); (case k2 => assumption); (case k4 => (intro p hp; repeat (first | exact hp | refine List.Mem.tail _ ?_))))
      clear Hb; intro h' Hb
      exact hbad hex _ _ _ Hb
end
end Mine
end
section
open PySem PySem.W PyProof.Rows PySem.Spec PySem.Calls
set_option maxRecDepth 100000
namespace Mine
theorem kw_D13 : True := by
  w_top off
  k_with_none
  trivial
theorem kw_D13_0 : True := by
  k_with "k_all" => first | assumption | exact allne_lt (by assumption) | exact allne_of (by assumption) | exact allne_of (And.right (by assumption)) | exact allne_of (And.right (And.right (by assumption))) | exact allne_of (And.right (And.right (And.right (by assumption)))) | exact allne_of (And.right (And.right (And.right (And.right (by assumption))))) | exact allne_of (And.right (And.right (And.right (And.right (And.right (by assumption)))))) | exact allne_of (And.right (And.right (And.right (And.right (And.right (And.right (by assumption))))))) | exact allne_of (And.right (And.right (And.right (And.right (And.right (And.right (And.right (by assumption)))))))) | exact allne_of (And.right (And.right (And.right (And.right (And.right (And.right (And.right (And.right (by assumption))))))))) | exact allne_of (And.right (And.right (And.right (And.right (And.right (And.right (And.right (And.right (And.right (by assumption)))))))))) | exact allne_of (And.right (And.right (And.right (And.right (And.right (And.right (And.right (And.right (And.right (And.right (by assumption))))))))))) | exact allne_of (And.right (And.right (And.right (And.right (And.right (And.right (And.right (And.right (And.right (And.right (And.right (by assumption)))))))))))) | exact allne_of (And.right (And.right (And.right (And.right (And.right (And.right (And.right (And.right (And.right (And.right (And.right (And.right (by assumption))))))))))))) | exact allne_of (And.right (And.right (And.right (And.right (And.right (And.right (And.right (And.right (And.right (And.right (And.right (And.right (And.right (by assumption)))))))))))))) | exact alllt_trans (by assumption) (by first | assumption | (refine ltN ?_; omega))
  trivial
theorem kw_D13_1 : True := by
  k_with "exec Raise some none" => (k_here; k_dflt (refine' exc_raise ?hh ?_; (case hh => rfl)))
  trivial
section
variable {prog : Program} {w : World} {p : Program} {loose : List Str} {mean : ExcName → Option Value} {mg mb : Str → Option Value}
  {dp un : Nat} {gd : Option (List Code)} {cn : Str} {cs : Scope} {a : Addr} {ccd : Value} {cl : List (Str × Addr)} {outer : List Env} {A₀ : Around} {base h₀ : Heap} {L : Addr} {m : Str → Option Value} {s : Shared} {Q E : Value → Shared → Prop}
theorem kw_D13_2 : True := by
  k_with "call ref" => (k_here; (with_reducible show wpAny _ _ (call (Value.ref 256) _) _ _ _); refine hold ?_)
  k_with "CompSrc" => refine hold ?_
  k_with "CompEnd" => refine hold ?_
  k_with "FinE" => refine hold ?_
  k_with "eval ListComp" => (k_here; k_dflt (refine LCg.ListComp_U (F₀ := by k_asm) (by rfl) (by decide) (by rfl) (by decide) (by rfl) ?_))
  k_with "Hold" => fail "held"
  trivial
def TupsAre (news : List (Addr × Obj)) (tvs : List Value) (gss : List (List Int)) : Prop :=
  tvs.length = gss.length ∧ ∀ (i : Nat) (v : Value) (g : List Int), tvs[i]? = some v → gss[i]? = some g → ∃ tt vs, v = .ref tt ∧ (tt, tupObj vs) ∈ news ∧ IntsAre vs g
theorem inst_of {h : Heap} {x d C : Addr} {oe od : Obj} (h1 : h.get? x = some oe) (h2 : oe.cls = .ref C) (h3 : oe.dict = some d) (h4 : ∃ ws, oe.data = .fields ws) (h5 : h.get? d = some od) : W.InstAt h x oe C (some od) :=
  ⟨h1, h2, by obtain ⟨ws, hw⟩ := h4; unfold notCls; rw [hw], by rw [h3]; exact h5⟩
set_option maxHeartbeats 8000000 in
theorem toldB_c (B : Below A₀ base [] h₀) (F : Fr h₀ L s.heap m) (X : (KF w.params).In h₀) (T : Top p loose mean mg mb h₀) (XB : (KF w.params).In base) (TB : Top p loose mean mg mb base) (hk : cs.kind = .function) (hd : dp + 36 < recursionLimit) (hu : un + 640 < cLine)
  {b : Array UInt8} {ks : List Int} {at_ f : Int} {tb ta : Tok} {rest : List (Addr × Obj)} (N : News h₀ L s.heap rest) (hb : KBw.bInts b = ks) (hks : ks.length ≤ 200000) (h0 : 0 < at_) (h1 : at_ + 2 ≤ ks.length) (hf : beNum ((ks.drop at_.toNat).take 2) = f) (hf1 : f ≠ 1) (hz : at_ ≠ 0)
  (hok : ∀ tk h' k', Fr h₀ L h' m → News h₀ L h' rest → Q (.int at_ tk) { s with heap := h', toks := k' }) :
  wpAny (model PySem.Challenge.rw_pb0181_01.row.prog w) (ktrTop dp un gd cn cs L a ccd [] []) (call (.ref 285) [.bytes b tb, .int at_ ta]) Q E s := by
  refine wpAny_call ?_
  k_dflt (refine' code_defS0 ?k1 ?k2 ?k3 ?k4 ?k5 ?kA ?k6 ?k7 ?k8 ?k9 ?kB ?_ ?cK ?c2 ?c3 ?c4 ?c5; (case kA => exact rfl); (case k2 => k_asm); (case k1 => k_asm); (case k3 => k_asm); (case k4 => k_asm); (case k5 => k_asm); (case k6 => k_is); (case k7 => k_is); (case k8 => ktr_room); (case k9 => exact BindsTo.of_eq rfl); (case kB => exact locs rfl); (case cK => assumption); (case c2 => exact rfl); (case c3 => exact rfl); (case c4 => exact rfl); (case c5 => decide); k_whole; intro g' L' h' FG' F' N' B' X' T' D'; (try dsimp only); (try k_lift B'); (try k_fold))
  k_steps
  unfold Hold
  k_dflt (refine' setsB_c (ks := ks) (f := f) ?k1 ?k2 ?k3 ?k4 ?kK ?kd ?ku ?k5 hb hks h0 h1 hf hf1 hz ?_; (case k1 => k_asm); (case k2 => k_asm); (case k3 => k_asm); (case k4 => k_asm); (case kK => exact rfl); (case kd => ktr_room); (case ku => ktr_units); (case k5 => k_asm))
  intro e h9 k9 Hb
  obtain ⟨d, es, kk, tk, newsR, ⟨g2, t2, vs, F2, R, H, U⟩, hsub, hd9, hat⟩ := Hb
  k_dflt (refine' caughtD R H F2 ?kB U XB TB ?kD KtsTurn.refl ?_; (case kB => assumption); (case kD => assumption))
  intro h8 g8 oe tk8 T8 F8 N8 hoc hod hof B8 X8 P8 D8
  k_steps
  k_dflt (refine' fault_at (oe := oe) (es := es) (n := kk) (v := .int at_ tk) ?kx ?ki (findObj_own (attr := none) ?k1 ?k2 ?k3 ?k4) ?k5 ?_; (case kx => k_in); (case ki => exact inst_of (N8 _ (.head _)).1 hoc hod hof (N8 _ (.tail _ hd9)).1); (case k1 => k_is); (case k2 => k_is); (case k3 => rfl); (case k4 => exact hat); (case k5 => rfl))
  k_steps
  rename News h₀ L _ _ => N7
  exact hok _ _ _ (by assumption) (fun p hp => N7 p (.tail _ (hsub p hp)))
set_option maxHeartbeats 8000000 in
theorem toldC_c (B : Below A₀ base [] h₀) (F : Fr h₀ L s.heap m) (X : (KF w.params).In h₀) (T : Top p loose mean mg mb h₀) (XB : (KF w.params).In base) (TB : Top p loose mean mg mb base) (hk : cs.kind = .function) (hd : dp + 36 < recursionLimit) (hu : un + 640 < cLine)
  {b : Array UInt8} {ks : List Int} {at_ : Int} {tb ta : Tok} {os : List Int} {gss : List (List Int)} {rest : List (Addr × Obj)} (N : News h₀ L s.heap rest) (hb : KBw.bInts b = ks) (hks : ks.length ≤ 200000)
  (H : HeadAt ks at_ os) (hlen : os.length = gss.length) (hle : os.length ≤ 4)
  (hset : ∀ (i : Nat) (o : Int) (g : List Int), os[i]? = some o → gss[i]? = some g → (o = 0 → g = []) ∧ (o ≠ 0 → SetAt ks (at_ + o) g))
  (hsame : ∀ (i j : Nat) (o : Int) (g g' : List Int), os[i]? = some o → os[j]? = some o → gss[i]? = some g → gss[j]? = some g' → g = g')
  (hex : ∃ (i : Nat) (o : Int) (g : List Int), os[i]? = some o ∧ gss[i]? = some g ∧ o ≠ 0 ∧ at_ + o + 4 + 2 * (g.length : Int) = ks.length + 1)
  (hok : ∀ tk h' k', Fr h₀ L h' m → News h₀ L h' rest → Q (.int (ks.length - 1) tk) { s with heap := h', toks := k' }) :
  wpAny (model PySem.Challenge.rw_pb0181_01.row.prog w) (ktrTop dp un gd cn cs L a ccd [] []) (call (.ref 285) [.bytes b tb, .int at_ ta]) Q E s := by
  refine wpAny_call ?_
  k_dflt (refine' code_defS0 ?k1 ?k2 ?k3 ?k4 ?k5 ?kA ?k6 ?k7 ?k8 ?k9 ?kB ?_ ?cK ?c2 ?c3 ?c4 ?c5; (case kA => exact rfl); (case k2 => k_asm); (case k1 => k_asm); (case k3 => k_asm); (case k4 => k_asm); (case k5 => k_asm); (case k6 => k_is); (case k7 => k_is); (case k8 => ktr_room); (case k9 => exact BindsTo.of_eq rfl); (case kB => exact locs rfl); (case cK => assumption); (case c2 => exact rfl); (case c3 => exact rfl); (case c4 => exact rfl); (case c5 => decide); k_whole; intro g' L' h' FG' F' N' B' X' T' D'; (try dsimp only); (try k_lift B'); (try k_fold))
  k_steps
  unfold Hold
  k_dflt (refine' sets_c (ks := ks) (os := os) (gss := gss) ?k1 ?k2 ?k3 ?k4 ?kK ?kd ?ku ?k5 hb hks H hlen hle hset hsame ?_ ?_; (case k1 => k_asm); (case k2 => k_asm); (case k3 => k_asm); (case k4 => k_asm); (case kK => exact rfl); (case kd => ktr_room); (case ku => ktr_units); (case k5 => k_asm))
  · intro hfit
    obtain ⟨i, o, g, x1, x2, x3, x4⟩ := hex
    have := hfit i o g x1 x2 x3
    exfalso; omega
  intro _
  intro e h9 k9 Hb
  obtain ⟨d, es, kk, tk, newsR, ⟨g2, t2, vs, F2, R, H, U⟩, hsub, hd9, hat⟩ := Hb
  k_dflt (refine' caughtD R H F2 ?kB U XB TB ?kD KtsTurn.refl ?_; (case kB => assumption); (case kD => assumption))
  intro h8 g8 oe tk8 T8 F8 N8 hoc hod hof B8 X8 P8 D8
  k_steps
  k_dflt (refine' fault_at (oe := oe) (es := es) (n := kk) (v := .int (ks.length - 1) tk) ?kx ?ki (findObj_own (attr := none) ?k1 ?k2 ?k3 ?k4) ?k5 ?_; (case kx => k_in); (case ki => exact inst_of (N8 _ (.head _)).1 hoc hod hof (N8 _ (.tail _ hd9)).1); (case k1 => k_is); (case k2 => k_is); (case k3 => rfl); (case k4 => exact hat); (case k5 => rfl))
  k_steps
  rename News h₀ L _ _ => N7
  exact hok _ _ _ (by assumption) (fun p hp => N7 p (.tail _ (hsub p hp)))
set_option maxHeartbeats 8000000 in
theorem told0_c (B : Below A₀ base [] h₀) (F : Fr h₀ L s.heap m) (X : (KF w.params).In h₀) (T : Top p loose mean mg mb h₀) (XB : (KF w.params).In base) (TB : Top p loose mean mg mb base) (hk : cs.kind = .function) (hd : dp + 36 < recursionLimit) (hu : un + 640 < cLine)
  {b : Array UInt8} {tb ta : Tok} {rest : List (Addr × Obj)} (N : News h₀ L s.heap rest)
  (hok : ∀ r h' k', Fr h₀ L h' m → News h₀ L h' ((r, listOf (#[] : Array Value) 0) :: rest) → Q (.ref r) { s with heap := h', toks := k' }) :
  wpAny (model PySem.Challenge.rw_pb0181_01.row.prog w) (ktrTop dp un gd cn cs L a ccd [] []) (call (.ref 285) [.bytes b tb, .int 0 ta]) Q E s := by
  refine wpAny_call ?_
  k_dflt (refine' code_defS0 ?k1 ?k2 ?k3 ?k4 ?k5 ?kA ?k6 ?k7 ?k8 ?k9 ?kB ?_ ?cK ?c2 ?c3 ?c4 ?c5; (case kA => exact rfl); (case k2 => k_asm); (case k1 => k_asm); (case k3 => k_asm); (case k4 => k_asm); (case k5 => k_asm); (case k6 => k_is); (case k7 => k_is); (case k8 => ktr_room); (case k9 => exact BindsTo.of_eq rfl); (case kB => exact locs rfl); (case cK => assumption); (case c2 => exact rfl); (case c3 => exact rfl); (case c4 => exact rfl); (case c5 => decide); k_whole; intro g' L' h' FG' F' N' B' X' T' D'; (try dsimp only); (try k_lift B'); (try k_fold))
  k_steps
  unfold Hold
  k_dflt (refine' sets0_c ?k1 ?k2 ?k3 ?k4 ?kK ?kd ?ku ?k5 ?_; (case k1 => k_asm); (case k2 => k_asm); (case k3 => k_asm); (case k4 => k_asm); (case kK => exact rfl); (case kd => ktr_room); (case ku => ktr_units); (case k5 => k_asm))
  intro r h9 k9 F9 N9
  k_steps
  unfold Hold
  refine LCg.CompSrc.ledger (its := #[]) (k := 0) rfl F9 N9 (.head _) (Nat.zero_le _) (fun g9 => ?_)
  refine comp_J (n := 0) (fun i ys nx => nx = (r, listOf (#[] : Array Value) 0) :: rest ∧ ys = []) ⟨rfl, rfl⟩ (fun i ys nx v I oI C oC D m2 h2 tk2 E' hi => absurd hi (Nat.not_lt_zero _)) ?_
  intro ys nx hJ
  obtain ⟨e1, e2⟩ := hJ
  subst e1 e2
  unfold LCg.FinE
  intro D h2 tk2 F6 N6 o1
  clear F9 N9
  k_steps
  rename News h₀ L _ _ => N7
  exact hok _ _ _ (by assumption) (drop1 N7)
set_option maxHeartbeats 8000000 in
theorem toldOk_c (B : Below A₀ base [] h₀) (F : Fr h₀ L s.heap m) (X : (KF w.params).In h₀) (T : Top p loose mean mg mb h₀) (XB : (KF w.params).In base) (TB : Top p loose mean mg mb base) (hk : cs.kind = .function) (hd : dp + 36 < recursionLimit) (hu : un + 640 < cLine)
  {b : Array UInt8} {ks : List Int} {at_ : Int} {tb ta : Tok} {os : List Int} {gss : List (List Int)} {rest : List (Addr × Obj)} (N : News h₀ L s.heap rest) (hb : KBw.bInts b = ks) (hks : ks.length ≤ 200000)
  (H : HeadAt ks at_ os) (hlen : os.length = gss.length) (hle : os.length ≤ 4)
  (hset : ∀ (i : Nat) (o : Int) (g : List Int), os[i]? = some o → gss[i]? = some g → (o = 0 → g = []) ∧ (o ≠ 0 → SetAt ks (at_ + o) g))
  (hsame : ∀ (i j : Nat) (o : Int) (g g' : List Int), os[i]? = some o → os[j]? = some o → gss[i]? = some g → gss[j]? = some g' → g = g')
  (hfit : ∀ (i : Nat) (o : Int) (g : List Int), os[i]? = some o → gss[i]? = some g → o ≠ 0 → at_ + o + 4 + 2 * (g.length : Int) ≤ ks.length)
  (hok : ∀ r k tvs more h' k', Fr h₀ L h' m → News h₀ L h' ((r, listOf tvs.toArray k) :: more) → (∀ p ∈ rest, p ∈ more) → TupsAre more tvs gss → Q (.ref r) { s with heap := h', toks := k' }) :
  wpAny (model PySem.Challenge.rw_pb0181_01.row.prog w) (ktrTop dp un gd cn cs L a ccd [] []) (call (.ref 285) [.bytes b tb, .int at_ ta]) Q E s := by
  refine wpAny_call ?_
  k_dflt (refine' code_defS0 ?k1 ?k2 ?k3 ?k4 ?k5 ?kA ?k6 ?k7 ?k8 ?k9 ?kB ?_ ?cK ?c2 ?c3 ?c4 ?c5; (case kA => exact rfl); (case k2 => k_asm); (case k1 => k_asm); (case k3 => k_asm); (case k4 => k_asm); (case k5 => k_asm); (case k6 => k_is); (case k7 => k_is); (case k8 => ktr_room); (case k9 => exact BindsTo.of_eq rfl); (case kB => exact locs rfl); (case cK => assumption); (case c2 => exact rfl); (case c3 => exact rfl); (case c4 => exact rfl); (case c5 => decide); k_whole; intro g' L' h' FG' F' N' B' X' T' D'; (try dsimp only); (try k_lift B'); (try k_fold))
  k_steps
  unfold Hold
  k_dflt (refine' sets_c (ks := ks) (os := os) (gss := gss) ?k1 ?k2 ?k3 ?k4 ?kK ?kd ?ku ?k5 hb hks H hlen hle hset hsame ?_ ?_; (case k1 => k_asm); (case k2 => k_asm); (case k3 => k_asm); (case k4 => k_asm); (case kK => exact rfl); (case kd => ktr_room); (case ku => ktr_units); (case k5 => k_asm))
  · intro _ r k cvs more h9 k9 F9 N9 hsub hcv
    k_steps
    unfold Hold
    have hlv := hcv.1
    refine LCg.CompSrc.ledger rfl F9 N9 (.head _) (by rw [List.size_toArray, sizeLine_eq]; omega) (fun g9 => ?_)
    refine comp_J (fun i ys nx => nx = (r, listOf cvs.toArray k) :: more ∧ ys.length = i ∧ ∀ (j : Nat) (v : Value) (g : List Int), ys[j]? = some v → gss[j]? = some g → ∃ tt vs, v = .ref tt ∧ (tt, tupObj vs) ∈ more ∧ IntsAre vs g) ⟨rfl, rfl, fun j v g h => by simp at h⟩ ?_ ?_
    · intro i ys nx v I oI C oC D m2 h2 tk2 E' hi hJ hP hC hx F6 N6 off ne
      obtain ⟨e, hyl, hys⟩ := hJ
      subst e
      have hP' : cvs[i]? = some v := by simpa using hP
      rw [List.size_toArray] at hi
      obtain ⟨g, hg⟩ : ∃ g, gss[i]? = some g := ⟨_, List.getElem?_eq_getElem (by omega)⟩
      obtain ⟨c, dc, tt, t1, vs, rfl, hc1, hc2, hc3, hc4⟩ := hcv.2 i v g hP' hg
      have N5 : News g' L' h2 ((c, instObj 207 dc) :: (dc, dictOf [⟨PyData.keyHash w.params (Str.ofString "glyphs"), .str (Str.ofString "glyphs") t1, .ref tt⟩] 1) :: (tt, tupObj vs) :: (I, oI) :: (C, oC) :: (D, LCg.lst ys) :: (r, listOf cvs.toArray k) :: more) := fun p hp => by
        rcases List.mem_cons.mp hp with rfl | hp
        · exact N6 _ (.tail _ (.tail _ (.tail _ (.tail _ hc1))))
        rcases List.mem_cons.mp hp with rfl | hp
        · exact N6 _ (.tail _ (.tail _ (.tail _ (.tail _ hc2))))
        rcases List.mem_cons.mp hp with rfl | hp
        · exact N6 _ (.tail _ (.tail _ (.tail _ (.tail _ hc3))))
        exact N6 _ hp
      clear F9 N9 N6
      k_steps
      unfold Hold
      rename Fr g' L' _ _ => F4
      rename News g' L' _ _ => N4
      refine LCg.CompEnd.intro F4 N4 _ (fun p hp => .tail _ (.tail _ (.tail _ hp))) off (.inr ⟨_, .head _, rfl, _, rfl⟩) ⟨rfl, by simp [hyl], fun j v g1 hj hgj => ?_⟩
      rcases Nat.lt_or_ge j ys.length with hjl | hjl
      · rw [List.getElem?_append_left hjl] at hj
        exact hys j v g1 hj hgj
      · have hji : j = i := by
          have := (List.getElem?_eq_some_iff.mp hj).1
          rw [List.length_append, List.length_singleton] at this
          omega
        subst hji
        rw [List.getElem?_append_right hjl, hyl, Nat.sub_self] at hj
        cases hj
        rw [hg] at hgj
        cases hgj
        exact ⟨tt, vs, rfl, hc3, hc4⟩
    · intro ys nx hJ
      obtain ⟨e, hyl, hys⟩ := hJ
      subst e
      rw [List.size_toArray] at hyl
      unfold LCg.FinE
      intro D h2 tk2 F6 N6 o1
      clear F9 N9
      k_steps
      exact hok _ _ _ _ _ _ (by assumption) (by assumption) (fun p hp => .tail _ (hsub p hp)) ⟨by omega, fun j v g hj hgj => by
        obtain ⟨tt, vs, x1, x2, x3⟩ := hys j v g hj hgj
        exact ⟨tt, vs, x1, .tail _ x2, x3⟩⟩
  · rintro ⟨i, o, g, x1, x2, x3, x4⟩
    have := hfit i o g x1 x2 x3
    exfalso; omega
end
end Mine
end
section
open PySem PySem.W PyProof.Rows PySem.Spec PySem.Calls
set_option maxRecDepth 100000
namespace Mine
theorem kw_D14 : True := by
  w_top off
  k_with_none
  trivial
theorem kw_D14_0 : True := by
  k_with "k_all" => first | assumption | exact allne_lt (by assumption) | exact allne_of (by assumption) | exact allne_of (And.right (by assumption)) | exact allne_of (And.right (And.right (by assumption))) | exact allne_of (And.right (And.right (And.right (by assumption)))) | exact allne_of (And.right (And.right (And.right (And.right (by assumption))))) | exact allne_of (And.right (And.right (And.right (And.right (And.right (by assumption)))))) | exact allne_of (And.right (And.right (And.right (And.right (And.right (And.right (by assumption))))))) | exact allne_of (And.right (And.right (And.right (And.right (And.right (And.right (And.right (by assumption)))))))) | exact allne_of (And.right (And.right (And.right (And.right (And.right (And.right (And.right (And.right (by assumption))))))))) | exact allne_of (And.right (And.right (And.right (And.right (And.right (And.right (And.right (And.right (And.right (by assumption)))))))))) | exact allne_of (And.right (And.right (And.right (And.right (And.right (And.right (And.right (And.right (And.right (And.right (by assumption))))))))))) | exact allne_of (And.right (And.right (And.right (And.right (And.right (And.right (And.right (And.right (And.right (And.right (And.right (by assumption)))))))))))) | exact allne_of (And.right (And.right (And.right (And.right (And.right (And.right (And.right (And.right (And.right (And.right (And.right (And.right (by assumption))))))))))))) | exact allne_of (And.right (And.right (And.right (And.right (And.right (And.right (And.right (And.right (And.right (And.right (And.right (And.right (And.right (by assumption)))))))))))))) | exact alllt_trans (by assumption) (by first | assumption | (refine ltN ?_; omega))
  trivial
theorem kw_D14_1 : True := by
  k_with "exec Raise some none" => (k_here; k_dflt (refine' exc_raise ?hh ?_; (case hh => rfl)))
  trivial
section
variable {prog : Program} {w : World} {p : Program} {loose : List Str} {mean : ExcName → Option Value} {mg mb : Str → Option Value}
  {dp un : Nat} {gd : Option (List Code)} {cn : Str} {cs : Scope} {a : Addr} {ccd : Value} {cl : List (Str × Addr)} {outer : List Env} {A₀ : Around} {base h₀ : Heap} {L : Addr} {m : Str → Option Value} {s : Shared} {Q E : Value → Shared → Prop}
def drawv (ns : List Int) (at_ lim : Int) : Int := Int.fmod (ns.getD (Int.fmod at_ (ns.length : Int)).toNat 0 + Int.fdiv at_ (ns.length : Int) * (7 * at_ + 3)) lim
set_option maxHeartbeats 8000000 in
theorem draw_c (B : Below A₀ base outer h₀) (F : Fr h₀ L s.heap m) (X : (KF w.params).In h₀) (T : Top p loose mean mg mb h₀) (hk : cs.kind = .function) (hd : dp + 1 < recursionLimit) (hu : un + 8 < cLine)
  {c t : Addr} {cells : List Value} {ns : List Int} {at_ lim : Int} {tk lt : Tok} {ec et : Nat} {rest : List (Addr × Obj)}
  (N : News h₀ L s.heap ((t, listOf [.ref c, .int at_ tk].toArray et) :: (c, listOf cells.toArray ec) :: rest))
  (hrest : ∀ p ∈ rest, p.1 ≠ t) (hct : c ≠ t)
  (hi : IntsAre cells ns) (hlen : 0 < ns.length) (hle : ns.length ≤ 40) (hat : 0 ≤ at_) (hat2 : at_ < 1000) (hl0 : 0 < lim) (hl1 : lim ≤ 1000)
  (hret : ∀ tr tk' h' k', Fr h₀ L h' m → News h₀ L h' ((t, listOf [.ref c, .int (at_ + 1) tk'].toArray et) :: (c, listOf cells.toArray ec) :: rest) → Q (.int (drawv ns at_ lim) tr) { s with heap := h', toks := k' }) :
  wpAny (model prog w) (ktrTop dp un gd cn cs L a ccd cl outer) (call (.ref 263) [.ref t, .int lim lt]) Q E s := by
  refine wpAny_call ?_
  k_dflt cell_enter
  k_steps
  exact hret _ _ _ _ (by assumption) (by assumption)
theorem draw_g (B : Below A₀ base outer h₀) (F : Fr h₀ L s.heap m) (X : (KF w.params).In h₀) (T : Top p loose mean mg mb h₀) (hk : cs.kind = .function) (hd : dp + 1 < recursionLimit) (hu : un + 8 < cLine)
  {c t : Addr} {cells : List Value} {ns : List Int} {at_ lim : Int} {tk lt : Tok} {ec et : Nat} {news : List (Addr × Obj)} {g : Obj → List (Addr × Obj)}
  (N : News h₀ L s.heap news) (hc : (c, listOf cells.toArray ec) ∈ news) (U : UpdF t (listOf [.ref c, .int at_ tk].toArray et) news g) (hct : c ≠ t)
  (hi : IntsAre cells ns) (hlen : 0 < ns.length) (hle : ns.length ≤ 40) (hat : 0 ≤ at_) (hat2 : at_ < 1000) (hl0 : 0 < lim) (hl1 : lim ≤ 1000)
  (hret : ∀ tr tk' h' k', Fr h₀ L h' m → News h₀ L h' (g (listOf [.ref c, .int (at_ + 1) tk'].toArray et)) → Q (.int (drawv ns at_ lim) tr) { s with heap := h', toks := k' }) :
  wpAny (model prog w) (ktrTop dp un gd cn cs L a ccd cl outer) (call (.ref 263) [.ref t, .int lim lt]) Q E s := by
  obtain ⟨rest, r1, r2, r3, r4, r5⟩ := upd_apart U
  have N1 : News h₀ L s.heap ((t, listOf [.ref c, .int at_ tk].toArray et) :: (c, listOf cells.toArray ec) :: rest) := fun p hp => by
    rcases List.mem_cons.mp hp with rfl | hp
    · exact N _ r1
    rcases List.mem_cons.mp hp with rfl | hp
    · exact N _ hc
    exact N _ (r3 p hp)
  refine draw_c B F X T hk hd hu N1 r2 hct hi hlen hle hat hat2 hl0 hl1 fun tr tk' h' k' F' N' => hret tr tk' h' k' F' fun p hp => ?_
  rcases r5 _ p hp with rfl | hp
  · exact N' _ (.head _)
  · exact N' _ (.tail _ (.tail _ hp))
def oct2 (n : Int) : List Int := [Int.fmod (Int.fdiv n 256) 256, Int.fmod n 256]
theorem byte_back {x : Int} (h0 : 0 ≤ x) (h1 : x < 256) : ((x.toNat.toUInt8).toNat : Int) = x := by
  have : x.toNat.toUInt8.toNat = x.toNat % 256 := by simp
  rw [this]; omega
set_option maxHeartbeats 8000000 in
theorem u16b_c (B : Below A₀ base outer h₀) (F : Fr h₀ L s.heap m) (X : (KF w.params).In h₀) (T : Top p loose mean mg mb h₀) (hk : cs.kind = .function) (hd : dp + 1 < recursionLimit) (hu : un + 8 < cLine)
  {n : Int} {tn : Tok} {news : List (Addr × Obj)} (N : News h₀ L s.heap news) (hn : 0 ≤ n) (hn2 : n < 2 ^ 40)
  (hret : ∀ b tr h' k', KBw.bInts b = oct2 n → Fr h₀ L h' m → News h₀ L h' news → Q (.bytes b tr) { s with heap := h', toks := k' }) :
  wpAny (model prog w) (ktrTop dp un gd cn cs L a ccd cl outer) (call (.ref 270) [.int n tn]) Q E s := by
  refine wpAny_call ?_
  k_dflt cell_enter
  k_steps
  rename News h₀ L _ _ => N7
  refine hret _ _ _ _ ?_ (by assumption) (fun p hp => N7 p (.tail _ hp))
  have f1 : 0 ≤ Int.fmod (Int.fdiv n 256) 256 ∧ Int.fmod (Int.fdiv n 256) 256 < 256 := ⟨Int.fmod_nonneg_of_pos _ (by decide), Int.fmod_lt_of_pos _ (by decide)⟩
  have f2 : 0 ≤ Int.fmod n 256 ∧ Int.fmod n 256 < 256 := ⟨Int.fmod_nonneg_of_pos _ (by decide), Int.fmod_lt_of_pos _ (by decide)⟩
  exact congr (congrArg (fun a b : Int => [a, b]) (byte_back f1.1 f1.2)) (byte_back f2.1 f2.2)
end
end Mine
end
section
open PySem PySem.W PyProof.Rows PySem.Spec PySem.Calls
set_option maxRecDepth 100000
namespace Mine
theorem kw_D15 : True := by
  w_top off
  k_with_none
  trivial
theorem kw_D15_0 : True := by
  k_with "k_all" => first | assumption | exact allne_lt (by assumption) | exact allne_of (by assumption) | exact allne_of (And.right (by assumption)) | exact allne_of (And.right (And.right (by assumption))) | exact allne_of (And.right (And.right (And.right (by assumption)))) | exact allne_of (And.right (And.right (And.right (And.right (by assumption))))) | exact allne_of (And.right (And.right (And.right (And.right (And.right (by assumption)))))) | exact allne_of (And.right (And.right (And.right (And.right (And.right (And.right (by assumption))))))) | exact allne_of (And.right (And.right (And.right (And.right (And.right (And.right (And.right (by assumption)))))))) | exact allne_of (And.right (And.right (And.right (And.right (And.right (And.right (And.right (And.right (by assumption))))))))) | exact allne_of (And.right (And.right (And.right (And.right (And.right (And.right (And.right (And.right (And.right (by assumption)))))))))) | exact allne_of (And.right (And.right (And.right (And.right (And.right (And.right (And.right (And.right (And.right (And.right (by assumption))))))))))) | exact allne_of (And.right (And.right (And.right (And.right (And.right (And.right (And.right (And.right (And.right (And.right (And.right (by assumption)))))))))))) | exact allne_of (And.right (And.right (And.right (And.right (And.right (And.right (And.right (And.right (And.right (And.right (And.right (And.right (by assumption))))))))))))) | exact allne_of (And.right (And.right (And.right (And.right (And.right (And.right (And.right (And.right (And.right (And.right (And.right (And.right (And.right (by assumption)))))))))))))) | exact alllt_trans (by assumption) (by first | assumption | (refine ltN ?_; omega))
  trivial
theorem kw_D15_1 : True := by
  k_with "exec Raise some none" => (k_here; k_dflt (refine' exc_raise ?hh ?_; (case hh => rfl)))
  trivial
section
variable {prog : Program} {w : World} {p : Program} {loose : List Str} {mean : ExcName → Option Value} {mg mb : Str → Option Value}
  {dp un : Nat} {gd : Option (List Code)} {cn : Str} {cs : Scope} {a : Addr} {ccd : Value} {cl : List (Str × Addr)} {outer : List Env} {A₀ : Around} {base h₀ : Heap} {L : Addr} {m : Str → Option Value} {s : Shared} {Q E : Value → Shared → Prop}
theorem drawv_in (ns : List Int) (at_ : Int) {lim : Int} (h : 0 < lim) : 0 ≤ drawv ns at_ lim ∧ drawv ns at_ lim < lim := ⟨Int.fmod_nonneg_of_pos _ h, Int.fmod_lt_of_pos _ h⟩
theorem draw_v (B : Below A₀ base outer h₀) (F : Fr h₀ L s.heap m) (X : (KF w.params).In h₀) (T : Top p loose mean mg mb h₀) (hk : cs.kind = .function) (hd : dp + 1 < recursionLimit) (hu : un + 8 < cLine)
  {c t : Addr} {cells : List Value} {ns : List Int} {at_ lim : Int} {tk lt : Tok} {ec et : Nat} {news : List (Addr × Obj)} {g : Obj → List (Addr × Obj)}
  (N : News h₀ L s.heap news) (hc : (c, listOf cells.toArray ec) ∈ news) (U : UpdF t (listOf [.ref c, .int at_ tk].toArray et) news g) (hct : c ≠ t)
  (hi : IntsAre cells ns) (hlen : 0 < ns.length) (hle : ns.length ≤ 40) (hat : 0 ≤ at_) (hat2 : at_ < 1000) (hl0 : 0 < lim) (hl1 : lim ≤ 1000)
  (hret : 0 ≤ drawv ns at_ lim → drawv ns at_ lim < lim → ∀ tr tk' h' k', Fr h₀ L h' m → News h₀ L h' (g (listOf [.ref c, .int (at_ + 1) tk'].toArray et)) → Q (.int (drawv ns at_ lim) tr) { s with heap := h', toks := k' }) :
  wpAny (model prog w) (ktrTop dp un gd cn cs L a ccd cl outer) (call (.ref 263) [.ref t, .int lim lt]) Q E s :=
  draw_g B F X T hk hd hu N hc U hct hi hlen hle hat hat2 hl0 hl1 (hret (drawv_in ns at_ hl0).1 (drawv_in ns at_ hl0).2)
theorem off1_mem {D : Addr} : ∀ {l : List (Addr × Obj)}, LCg.Off1 D l → ∀ p ∈ l, p.1 ≠ D
  | [], _, _, h => nomatch h
  | _ :: _, x, p, h => by
    rcases List.mem_cons.mp h with rfl | h
    · exact x.1
    · exact off1_mem x.2 p h
def setOf (f n : Int) : List Int := (List.range n.toNat).map fun (k : Nat) => f + 2 * (k : Int)
theorem kw_D15_2 : True := by
  k_with "k_enter" => (refine' code_defC ?k1 ?k2 ?k3 ?k4 ?k5 ?kA ?kF ?kK ?k6 ?k7 ?k8 ?k9 ?kB ?kD ?_ ?c2 ?c3 ?c4; (case kA => exact rfl); (case kF => exact rfl); (case kK => first | exact rfl | assumption); (case k1 => k_asm); (case k2 => k_asm); (case k3 => k_asm); (case k4 => k_asm); (case k5 => k_asm); (case k6 => k_is); (case k7 => k_is); (case k8 => k_room); (case k9 => first | exact BindsTo.of_eq rfl | exact binds_K (by k_in) rfl (by k_is) rfl rfl rfl | fail "k_enter: no rule for these arguments"); (case kB => exact rfl); (case kD => decide +kernel); (case c2 => exact rfl); (case c3 => exact rfl); (case c4 => exact rfl); k_whole; intro g' L' h' tk' cells' FG' F' N' Y' B' X' T' l1; (try k_lt l1); k_cells Y'; (try simp only [List.cons_append, List.nil_append] at N'); (try dsimp only); (try k_lift B'); (try k_fold))
  k_with "call ref" => (k_here; (with_reducible show wpAny _ _ (call (Value.ref 263) _) _ _ _); k_dflt (refine' draw_v ?k1 ?k2 ?k3 ?k4 ?kK ?kd ?ku ?k5 ?k6 ?k7 ?k8 ?k9 ?k10 ?k11 ?k12 ?k13 (by decide) (by decide) ?_; (case k1 => k_asm); (case k2 => k_asm); (case k3 => k_asm); (case k4 => k_asm); (case kK => first | exact rfl | assumption); (case kd => ktr_room); (case ku => ktr_units); (case k5 => k_asm); (case k7 => k_updF); (case k6 => k_mem); (case k8 => first | assumption | k_ne); (case k9 => assumption); (case k10 => assumption); (case k11 => assumption); (case k12 => omega); (case k13 => omega)); (intro dlo dhi tr tk' h' k' F' N'; (try dsimp only at N')))
  trivial

theorem setOf_at {f n : Int} {i : Nat} (h : (i : Int) < n) : (setOf f n)[i]? = some (f + 2 * (i : Int)) := by
  unfold setOf
  rw [List.getElem?_map, List.getElem?_range (by omega)]
  rfl
theorem setOf_len {f n : Int} (h : 0 ≤ n) : ((setOf f n).length : Int) = n := by
  unfold setOf
  rw [List.length_map, List.length_range]
  omega
theorem kw_D15_3 : True := by
  k_with "CompSrc" => refine hold ?_
  k_with "CompEnd" => refine hold ?_
  k_with "FinE" => refine hold ?_
  k_with "eval ListComp" => (k_here; k_dflt (refine LCg.ListComp_U (F₀ := by k_asm) (by with_unfolding_all rfl) (by decide) (by rfl) (by decide) (by rfl) ?_))
  k_with "Hold" => fail "held"
  trivial
set_option maxHeartbeats 8000000 in
theorem set_c (B : Below A₀ base outer h₀) (F : Fr h₀ L s.heap m) (X : (KF w.params).In h₀) (T : Top p loose mean mg mb h₀) (hk : cs.kind = .function) (hd : dp + 4 < recursionLimit) (hu : un + 60 < cLine)
  {c t : Addr} {cells : List Value} {ns : List Int} {at_ : Int} {tk : Tok} {ec et : Nat} {rest : List (Addr × Obj)}
  (N : News h₀ L s.heap ((t, listOf [.ref c, .int at_ tk].toArray et) :: (c, listOf cells.toArray ec) :: rest))
  (hrest : ∀ p ∈ rest, p.1 ≠ t) (hct : c ≠ t)
  (hi : IntsAre cells ns) (hlen : 0 < ns.length) (hle : ns.length ≤ 40) (hat : 0 ≤ at_) (hat2 : at_ < 900)
  (hret : ∀ r k vs tk' h' k', Fr h₀ L h' m → IntsAre vs (setOf (drawv ns at_ 900) (1 + drawv ns (at_ + 1) 3)) → News h₀ L h' ((r, listOf vs.toArray k) :: (t, listOf [.ref c, .int (at_ + 2) tk'].toArray et) :: (c, listOf cells.toArray ec) :: rest) → r ≠ t → r ≠ c → (∀ p ∈ rest, p.1 ≠ r) → Q (.ref r) { s with heap := h', toks := k' }) :
  wpAny (model PySem.Challenge.rw_pb0181_01.row.prog w) (ktrTop dp un gd cn cs L a ccd cl outer) (call (.ref 275) [.ref t]) Q E s := by
  refine wpAny_call ?_
  k_dflt k_enter
  refine cutQ fun Q' hQ' => ?_
  rename _ ∧ _ ∧ AllLt _ _ => l9
  have l9r := allLt_mem l9.2.2
  k_steps
  all_goals try (refine hQ' _ _ ?_; k_steps)
  unfold Hold
  rename Fr _ _ _ _ => F9
  rename News _ _ _ _ => N9
  obtain ⟨L9, hL9⟩ := loc_addr N9
  subst hL9
  rename Obj => oc
  rename IsRange _ _ _ _ _ _ _ _ => hr9
  obtain ⟨n, hn⟩ : ∃ n : Nat, 1 + drawv ns (at_ + 1) 3 = (n : Int) := ⟨(1 + drawv ns (at_ + 1) 3).toNat, by omega⟩
  have hlenS : ((setOf (drawv ns at_ 900) (1 + drawv ns (at_ + 1) 3)).length : Int) = n := by rw [← hn]; exact setOf_len (by omega)
  rw [hn] at hr9 hret hlenS
  generalize hf : drawv ns at_ 900 = f at *
  refine LCg.CompSrc.range (n := n) rfl F9 N9 hr9 (small_one (by omega) (by omega) (by omega) (by omega)) ((rangeSize_nat _ _).trans (by omega)) (by rw [sizeLine_eq]; omega) (fun g9 => ?_)
  refine comp_J (fun i ys nx => ∃ tk9, nx = (L9 + 1, oc) :: (t, listOf [.ref c, .int (at_ + 1 + 1) tk9].toArray et) :: (c, listOf cells.toArray ec) :: rest ∧ IntsAre ys ((setOf f n).take i)) ⟨_, rfl, .nil⟩ ?_ ?_
  · intro i ys nx v I oI C oC D m2 h2 tk2 E' hi hJ hP hC hx F6 N6 off ne
    obtain ⟨tk9, e, hys⟩ := hJ
    subst e
    obtain ⟨tv, rfl⟩ := hP
    clear F9 N9
    k_steps
    all_goals try (refine hQ' _ _ ?_; k_steps)
    unfold Hold
    rename Fr _ _ _ _ => F5
    rename News _ _ _ _ => N5
    have hnx : (setOf f n).take (i + 1) = (setOf f n).take i ++ [f + 2 * (0 + (i : Int))] := by rw [List.take_add_one, setOf_at (by omega), Int.zero_add]; rfl
    refine LCg.CompEnd.intro F5 N5 _ (fun p hp => hp) off trivial ⟨_, rfl, ?_⟩
    rw [hnx]
    exact hys.append (.cons _ _ .nil)
  · intro ys nx hJ
    obtain ⟨tk9, e, hys⟩ := hJ
    subst e
    have e1 : (setOf f n).take n = setOf f n := List.take_of_length_le (by omega)
    rw [e1] at hys
    unfold LCg.FinE
    intro D h2 tk2 F6 N6 o1
    clear F9 N9
    have o2 := off1_mem o1
    k_steps
    all_goals try (refine hQ' _ _ ?_; k_steps)
    rename News h₀ L _ _ => N7
    have e3 : at_ + 1 + 1 = at_ + 2 := by omega
    rw [e3] at N7
    exact hret D _ ys _ _ _ (by assumption) hys (drop1 N7) (fun h => o2 (t, _) (.tail _ (.head _)) h.symm) (fun h => o2 (c, _) (.tail _ (.tail _ (.head _))) h.symm) (fun p hp => o2 p (.tail _ (.tail _ (.tail _ hp))))
theorem set_g (B : Below A₀ base outer h₀) (F : Fr h₀ L s.heap m) (X : (KF w.params).In h₀) (T : Top p loose mean mg mb h₀) (hk : cs.kind = .function) (hd : dp + 4 < recursionLimit) (hu : un + 60 < cLine)
  {c t : Addr} {cells : List Value} {ns : List Int} {at_ : Int} {tk : Tok} {ec et : Nat} {news : List (Addr × Obj)} {g : Obj → List (Addr × Obj)}
  (N : News h₀ L s.heap news) (hc : (c, listOf cells.toArray ec) ∈ news) (U : UpdF t (listOf [.ref c, .int at_ tk].toArray et) news g) (hct : c ≠ t)
  (hi : IntsAre cells ns) (hlen : 0 < ns.length) (hle : ns.length ≤ 40) (hat : 0 ≤ at_) (hat2 : at_ < 900)
  (hret : ∀ r k vs tk' h' k', Fr h₀ L h' m → IntsAre vs (setOf (drawv ns at_ 900) (1 + drawv ns (at_ + 1) 3)) → News h₀ L h' ((r, listOf vs.toArray k) :: g (listOf [.ref c, .int (at_ + 2) tk'].toArray et)) → (∀ p ∈ news, p.1 ≠ r) → Q (.ref r) { s with heap := h', toks := k' }) :
  wpAny (model PySem.Challenge.rw_pb0181_01.row.prog w) (ktrTop dp un gd cn cs L a ccd cl outer) (call (.ref 275) [.ref t]) Q E s := by
  obtain ⟨rest, r1, r2, r3, r4, r5⟩ := upd_apart U
  have N1 : News h₀ L s.heap ((t, listOf [.ref c, .int at_ tk].toArray et) :: (c, listOf cells.toArray ec) :: rest) := fun p hp => by
    rcases List.mem_cons.mp hp with rfl | hp
    · exact N _ r1
    rcases List.mem_cons.mp hp with rfl | hp
    · exact N _ hc
    exact N _ (r3 p hp)
  refine set_c B F X T hk hd hu N1 r2 hct hi hlen hle hat hat2 fun r k vs tk' h' k' F' hI N' h1 h2 h3 => hret r k vs tk' h' k' F' hI (fun p hp => ?_) fun p hp => ?_
  · rcases List.mem_cons.mp hp with rfl | hp
    · exact N' _ (.head _)
    rcases r5 _ p hp with rfl | hp
    · exact N' _ (.tail _ (.head _))
    · exact N' _ (.tail _ (.tail _ (.tail _ hp)))
  · by_cases hpt : p.1 = t
    · rw [hpt]; exact h1.symm
    · exact h3 p (r4 p hp hpt)
end
end Mine
end
section
open PySem PySem.W PyProof.Rows PySem.Spec PySem.Calls Builtin
set_option maxRecDepth 100000
namespace Mine
theorem slot_bytes_join : Slot "bytes" "join" "bytes.join" :=
  .of (owner := "bytes") (n := "join") (by rw [typeLookup_type, builtinLookup_eq_fast]; kernel_rfl) (by decide +kernel) (by decide +kernel) (by decide +kernel)
    (by first | exact .inl (by decide +kernel) | exact .inr (by decide +kernel)) (by rw [isSubtype_type]; kernel_rfl)
theorem type_bytes_join : typeOf (.builtin "bytes.join") = pure (.type "method_descriptor") := by show builtinType _ = _; rw [builtinType_eq_fast]; kernel_rfl
theorem entry_bytes_join : entryFor table "bytes.join" = some Builtin.«bytes.join» := entryFor_of_tree (by kernel_rfl)
theorem args_bytes_join (a b : Value) : argsOk "bytes.join" ⟨[a, b], []⟩ := by
  unfold argsOk; rw [signature?_of (id := "bytes.join") (n := ['n', 'i', 'o', 'j']) (o := ['s', 'e', 't', 'y', 'b']) (by kernel_rfl) FB.owner_bytes]; kernel_rfl
section
variable {b : Array UInt8} {t : Tok}
theorem takeq_eq {id : String} : Bytes.takeBufferQuiet? id (.bytes b t) 0 = pure (some (b, none)) := by
  unfold Bytes.takeBufferQuiet? Bytes.takeBuffer?
  rw [KBy.special_eq KBy.look_buffer]
  have e : ((0 : Int) == Bytes.fullReadOnly) = false := by decide
  simp only [pure_bind, KBy.own_buffer, e, KBy.buffer_eq]
  rfl
end
inductive BytesAre : List Value → List (Array UInt8) → Prop
  | nil : BytesAre [] []
  | cons {vs bs} (b t) : BytesAre vs bs → BytesAre (.bytes b t :: vs) (b :: bs)
theorem BytesAre.append {vs ws : List Value} {bs cs : List (Array UInt8)} (h : BytesAre vs bs) (k : BytesAre ws cs) : BytesAre (vs ++ ws) (bs ++ cs) := by
  induction h with
  | nil => exact k
  | cons b t _ ih => exact .cons b t ih
theorem BytesAre.length {vs : List Value} {bs : List (Array UInt8)} (h : BytesAre vs bs) : vs.length = bs.length := by
  induction h with
  | nil => rfl
  | cons b t _ ih => simp [ih]
theorem BytesAre.at {vs : List Value} {bs : List (Array UInt8)} (h : BytesAre vs bs) : ∀ (i : Nat), i < vs.length → ∃ b t, vs[i]? = some (.bytes b t) ∧ bs[i]? = some b := by
  induction h with
  | nil => intro i hi; simp at hi
  | cons b t _ ih =>
    intro i hi
    cases i with
    | zero => exact ⟨b, t, rfl, rfl⟩
    | succ i => simpa using ih i (by simpa using hi)
theorem joined_nil (bs : List (Array UInt8)) : KBw.bInts (Bytes.joined #[] bs) = (bs.map KBw.bInts).flatten := by
  unfold Bytes.joined
  have key : ∀ (l : List (Array UInt8)) (n : Nat) (acc : Array UInt8), KBw.bInts ((l.zipIdx n).foldl (fun out (x : Array UInt8 × Nat) => (if x.2 > 0 then out ++ #[] else out) ++ x.1) acc) = KBw.bInts acc ++ (l.map KBw.bInts).flatten := by
    intro l
    induction l with
    | nil => intro n acc; simp
    | cons p r ih =>
      intro n acc
      simp only [List.zipIdx_cons, List.foldl_cons, List.map_cons, List.flatten_cons]
      rw [ih]
      have : (if n > 0 then acc ++ #[] else acc) = acc := by split <;> simp
      rw [this]
      simp [KBw.bInts]
  have := key bs 0 #[]
  simpa [KBw.bInts] using this
section
variable {M : Model} {A : Around} {E : Value → Shared → Prop} {s : Shared}
theorem range_loop {β : Type} (n : Nat) (f : Nat → β → Sem (ForInStep β)) (I : Nat → β → Prop) {b : β} {Q : β → Shared → Prop} (h0 : I 0 b)
    (turn : ∀ i b (R : ForInStep β → Shared → Prop), i < n → I i b → (∀ b', I (i + 1) b' → R (.yield b') s) → wpAny M A (f i b) R E s) (done : ∀ b, I n b → Q b s) : wpAny M A (forIn [:n] b f) Q E s := by
  rw [Std.Legacy.Range.forIn_eq_forIn_range']
  have hsz : ([:n] : Std.Legacy.Range).size = n := by simp [Std.Legacy.Range.size]
  show wpAny M A (forIn (List.range' 0 ([:n] : Std.Legacy.Range).size 1) b f) Q E s
  rw [hsz]
  have key : ∀ k i b, i + k = n → I i b → wpAny M A (forIn (List.range' i k 1) b f) Q E s := by
    intro k
    induction k with
    | zero =>
      intro i b hi hb
      obtain rfl : i = n := by omega
      exact wpAny_pure (done b hb)
    | succ k ih =>
      intro i b hi hb
      rw [List.range'_succ, List.forIn_cons]
      exact wpAny_bind (turn i b _ (by omega) hb fun b' hb' => ih (i + 1) b' (by omega) hb')
  exact key n 0 b (by omega) h0
end
theorem BytesAre.off {vs : List Value} {bs : List (Array UInt8)} (h : BytesAre vs bs) : ∀ v ∈ vs, v.onHeap = false := by
  induction h with
  | nil => intro v hv; cases hv
  | cons b t _ ih =>
    intro v hv
    rcases List.mem_cons.mp hv with rfl | hv
    · rfl
    · exact ih v hv
theorem letGo_all {M : Model} {A : Around} {E : Value → Shared → Prop} {s : Shared} {Q : Unit → Shared → Prop} : ∀ (vs : List Value) (keep : List Value), Q () s → wpAny M A (Bytes.joinLetGo (vs.map fun v => (v, none)) keep) Q E s
  | [], _, h => by
    show wpAny _ _ (pure ()) _ _ _
    exact wpAny_pure h
  | v :: r, keep, h => by
    show wpAny _ _ (letGo _ _ >>= fun _ => Bytes.joinLetGo (r.map fun v => (v, none)) keep) _ _ _
    exact wpAny_bind (wpAny_letGo (letGo_all r keep h))
theorem sum_fold (l : List (Array UInt8)) : ∀ n, l.foldl (fun x1 x2 => x1 + x2.size) n = n + (l.map Array.size).sum := by
  induction l with
  | nil => intro n; simp
  | cons a r ih => intro n; simp only [List.foldl_cons, List.map_cons, List.sum_cons]; rw [ih]; omega
theorem joined_size (bs : List (Array UInt8)) : (Bytes.joined #[] bs).size = (bs.map Array.size).sum := by
  have h := congrArg List.length (joined_nil bs)
  rw [KBw.ints_length] at h
  rw [h, List.length_flatten, List.map_map]
  congr 1
  exact List.map_congr_left fun b _ => KBw.ints_length b
theorem meets_join {l : Addr} {t : Tok} {vs : List Value} {bs : List (Array UInt8)} (hB : BytesAre vs bs) (hsz : (bs.map Array.size).sum ≤ 16777216) :
    Meets («bytes.join» ⟨[.bytes #[] t, .ref l], []⟩) (fun _ R s => s.heap.IsList l vs.toArray ∧ ∀ b' t' k, KBw.bInts b' = (bs.map KBw.bInts).flatten → R (.ok (.ret (.bytes b' t'))) { s with toks := k }) := by
  refine .of_wp fun prog w A R s hS => ?_
  obtain ⟨hl, h⟩ := hS
  obtain ⟨o, ho, hc, n, hd⟩ := hl
  have hT : s.TypeIs (.ref l) "list" := ⟨o, ho, hc⟩
  unfold «bytes.join» Bytes.joinM
  refine wpAny_bind (wpAny_bind (wpAny_of_eq (a := ()) rfl (wpAny_pure ?_)))
  show wpAny _ _ (Bytes.joinItems (.ref l) >>= _) _ _ _
  refine wpAny_bind ?_
  unfold Bytes.joinItems
  refine wpAny_bind (wpAny_typeOf hT ?_)
  show wpAny _ _ (pure (Value.ref l)) _ _ _
  refine wpAny_pure (wpAny_bind (wpAny_seqItems ho hd ?_))
  dsimp only
  rw [if_pos (show (Bytes.Kind.bytes == Bytes.Kind.bytes) = true from rfl)]
  rcases vs with _ | ⟨x, _ | ⟨y, r⟩⟩
  case cons.nil =>
    cases hB with
    | cons b tb hr =>
      cases hr
      refine wpAny_bind (wpAny_typeOf (typeIs_bytes s b tb) ?_)
      rw [if_pos (by decide)]
      exact wpAny_bind (wpAny_rule (wpAny_pure ⟨_, rfl, h b tb s.toks (by simp)⟩))
  all_goals refine wpAny_bind ?_
  case' nil => generalize hv : ([] : List Value) = vs at *
  case' cons.cons => generalize hv : (x :: y :: r : List Value) = vs at *
  all_goals (
    refine (range_loop vs.toArray.size _ (fun i st => st = ((bs.take i).toArray, (vs.take i).map fun v => (v, none))) rfl ?_ ?_)
    · intro i st R' hi hst hR
      subst hst
      rw [List.size_toArray] at hi
      obtain ⟨b, tb, hv, hb⟩ := hB.at i hi
      refine wpAny_bind (wpAny_seqItems ho hd ?_)
      have hx : vs.toArray.getD i Value.none = .bytes b tb := by
        rw [Array.getD_eq_getD_getElem?]
        simp [hv]
      dsimp only
      rw [hx, if_neg ?_]
      · refine wpAny_bind (wpAny_holding (wpAny_of_eq takeq_eq ?_))
        dsimp only
        refine wpAny_bind (wpAny_seqItems ho hd ?_)
        dsimp only
        rw [if_neg (by simp)]
        refine wpAny_pure (hR _ ?_)
        rw [List.take_add_one, List.take_add_one, hv, hb]
        simp
      · have : (((vs.take i).map fun v => (v, (none : Option Value))).any fun x => x.fst.onHeap) = false := by
          rw [List.any_eq_false]
          intro x hx
          obtain ⟨v, hv', rfl⟩ := List.mem_map.mp hx
          rw [hB.off v (List.mem_of_mem_take hv')]
          decide
        rw [this]
        decide
    · intro st hst
      subst hst
      have hlv := hB.length
      have e1 : bs.take vs.toArray.size = bs := List.take_of_length_le (by rw [List.size_toArray]; omega)
      have e2 : vs.take vs.toArray.size = vs := List.take_of_length_le (by rw [List.size_toArray]; omega)
      rw [e1, e2]
      dsimp only
      refine wpAny_bind (wpAny_of_eq (a := #[]) rfl ?_)
      rw [if_neg ?_]
      · refine wpAny_bind ?_
        show wpAny _ _ (mkBytes _) _ _ _
        refine wpAny_mkBytes ?_ (by rw [joined_size, sizeLine_eq]; exact hsz)
        refine wpAny_bind (wpAny_holding (wpAny_point (wpAny_bind (letGo_all _ _ (wpAny_pure ⟨_, rfl, ?_⟩)))))
        exact h _ _ _ (joined_nil bs)
      · rw [KBy.tooLong_not]
        · decide
        · rw [List.foldl_toArray, sum_fold]
          simpa using hsz)
section
variable {prog : Program} {w : World} {A : Around} {E : Value → Shared → Prop} {s : Shared}
theorem join_call {l : Addr} {t : Tok} {vs : List Value} {bs : List (Array UInt8)} {Q : Value → Shared → Prop} (hl : s.heap.IsList l vs.toArray) (hB : BytesAre vs bs) (hsz : (bs.map Array.size).sum ≤ 16777216)
    (h : ∀ b' t' k, KBw.bInts b' = (bs.map KBw.bInts).flatten → Q (.bytes b' t') { s with toks := k }) : wpAny (model prog w) A (call (.builtin "bytes.join") [.bytes #[] t, .ref l]) Q E s :=
  call_meets slot_bytes_join (typeIs_bytes _ _ _) entry_bytes_join (args_bytes_join _ _) (meets_join hB hsz) ⟨hl, h⟩
theorem join_method {M : Model} {b : Array UInt8} {t : Tok} {pl : Sem Bool} {Q : Value × List Value → Shared → Prop} (h : Q (.builtin "bytes.join", [.bytes b t]) s) : wpAny M A (getMethod (.bytes b t) "join" pl) Q E s := by
  with_reducible exact KBd.method_of (.bytes b t) (typeIs_bytes _ _ _) slot_bytes_join type_bytes_join KBd.noRef h
end
end Mine
end
section
open PySem PySem.W PyProof.Rows PySem.Spec PySem.Calls
set_option maxRecDepth 100000
namespace Mine
theorem kw_D16 : True := by
  w_top off
  k_with_none
  trivial
theorem kw_D16_0 : True := by
  k_with "k_all" => first | assumption | exact allne_lt (by assumption) | exact allne_of (by assumption) | exact allne_of (And.right (by assumption)) | exact allne_of (And.right (And.right (by assumption))) | exact allne_of (And.right (And.right (And.right (by assumption)))) | exact allne_of (And.right (And.right (And.right (And.right (by assumption))))) | exact allne_of (And.right (And.right (And.right (And.right (And.right (by assumption)))))) | exact allne_of (And.right (And.right (And.right (And.right (And.right (And.right (by assumption))))))) | exact allne_of (And.right (And.right (And.right (And.right (And.right (And.right (And.right (by assumption)))))))) | exact allne_of (And.right (And.right (And.right (And.right (And.right (And.right (And.right (And.right (by assumption))))))))) | exact allne_of (And.right (And.right (And.right (And.right (And.right (And.right (And.right (And.right (And.right (by assumption)))))))))) | exact allne_of (And.right (And.right (And.right (And.right (And.right (And.right (And.right (And.right (And.right (And.right (by assumption))))))))))) | exact allne_of (And.right (And.right (And.right (And.right (And.right (And.right (And.right (And.right (And.right (And.right (And.right (by assumption)))))))))))) | exact allne_of (And.right (And.right (And.right (And.right (And.right (And.right (And.right (And.right (And.right (And.right (And.right (And.right (by assumption))))))))))))) | exact allne_of (And.right (And.right (And.right (And.right (And.right (And.right (And.right (And.right (And.right (And.right (And.right (And.right (And.right (by assumption)))))))))))))) | exact alllt_trans (by assumption) (by first | assumption | (refine ltN ?_; omega))
  trivial
theorem kw_D16_1 : True := by
  k_with "exec Raise some none" => (k_here; k_dflt (refine' exc_raise ?hh ?_; (case hh => rfl)))
  trivial
section
variable {prog : Program} {w : World} {p : Program} {loose : List Str} {mean : ExcName → Option Value} {mg mb : Str → Option Value}
  {dp un : Nat} {gd : Option (List Code)} {cn : Str} {cs : Scope} {a : Addr} {ccd : Value} {cl : List (Str × Addr)} {outer : List Env} {A₀ : Around} {base h₀ : Heap} {L : Addr} {m : Str → Option Value} {s : Shared} {Q E : Value → Shared → Prop}
theorem oct2_len (n : Int) : (oct2 n).length = 2 := rfl
theorem flat_len (gs : List Int) : (gs.map oct2).flatten.length = 2 * gs.length := by
  induction gs with
  | nil => rfl
  | cons g r ih => simp only [List.map_cons, List.flatten_cons, List.length_append, ih, oct2_len, List.length_cons]; omega
theorem sum_oct2 (gs : List Int) : (gs.map fun g => (oct2 g).length).sum = 2 * gs.length := by
  induction gs with
  | nil => rfl
  | cons g r ih => rw [List.map_cons, List.sum_cons, ih, List.length_cons, oct2_len]; omega
theorem sizes_oct2 {bs : List (Array UInt8)} {gs : List Int} (h : bs.map KBw.bInts = gs.map oct2) : (bs.map Array.size).sum = 2 * gs.length := by
  have e2 : bs.map Array.size = (bs.map KBw.bInts).map List.length := by
    rw [List.map_map]
    exact List.map_congr_left fun b _ => (KBw.ints_length b).symm
  rw [e2, h, List.map_map]
  exact sum_oct2 gs
def oct4 (n : Int) : List Int := oct2 (Int.fdiv n 65536) ++ oct2 n
theorem flat4_len (gs : List Int) : (gs.map oct4).flatten.length = 4 * gs.length := by
  induction gs with
  | nil => rfl
  | cons g r ih => simp only [List.map_cons, List.flatten_cons, List.length_append, ih, oct4, oct2_len, List.length_cons]; omega
theorem kw_D16_2 : True := by
  k_with "call ref" => (k_here; (with_reducible show wpAny _ _ (call (Value.ref 270) _) _ _ _); k_dflt (refine' u16b_c ?k1 ?k2 ?k3 ?k4 ?kK ?kd ?ku ?k5 ?k6 ?k7 ?_; (case k1 => k_asm); (case k2 => k_asm); (case k3 => k_asm); (case k4 => k_asm); (case kK => first | exact rfl | assumption); (case kd => ktr_room); (case ku => ktr_units); (case k5 => k_asm); (case k6 => omega); (case k7 => omega)); (intro b9 tr hb9 h' k' F' N'))
  k_with "getMethod bytes" => (k_here; (with_reducible show wpAny _ _ (getMethod (Value.bytes _ _) (Str.ofString "join") _) _ _ _); refine join_method ?_)
  k_with "call builtin:bytes.join" => refine hold ?_
  k_with "k_mem" => assumption
  k_with "call builtin:len" => (k_here; (with_reducible show wpAny _ _ (call (Value.builtin "len") [Value.ref _]) _ _ _); k_dflt (refine' len_ints_fit ?k1 ?k2 ?k3 ?_; (case k1 => exact News.isList (by k_asm) (by k_mem)); (case k2 => assumption); (case k3 => omega)))
  k_with "binaryOp Add bytes bytes" => (k_here; (with_reducible show wpAny _ _ (binaryOp Operator.Add (Value.bytes _ _) (Value.bytes _ _)) _ _ _); k_dflt (refine' KBa.add_K ?k1 ?k2 ?k3 ?_; (case k1 => assumption); (case k2 => assumption); (case k3 => ((try simp only [List.length_append, oct2_len, flat_len, flat4_len, List.length_replicate]); omega))); (intro t9 k9 hb9))
  k_with "CompSrc" => refine hold ?_
  k_with "CompEnd" => refine hold ?_
  k_with "FinE" => refine hold ?_
  k_with "eval ListComp" => (k_here; k_dflt (refine LCg.ListComp_U (F₀ := by k_asm) (by with_unfolding_all rfl) (by decide) (by rfl) (by decide) (by rfl) ?_))
  k_with "Hold" => fail "held"
  trivial
set_option maxHeartbeats 8000000 in
theorem octets_c (B : Below A₀ base outer h₀) (F : Fr h₀ L s.heap m) (X : (KF w.params).In h₀) (T : Top p loose mean mg mb h₀) (hk : cs.kind = .function) (hd : dp + 4 < recursionLimit) (hu : un + 60 < cLine)
  {l : Addr} {gvs : List Value} {gs : List Int} {k : Nat} {rest : List (Addr × Obj)} (N : News h₀ L s.heap rest) (hl : (l, listOf gvs.toArray k) ∈ rest) (hi : IntsAre gvs gs) (hgs : ∀ g ∈ gs, 0 ≤ g ∧ g < 65536) (hle : gs.length ≤ 1000)
  (hret : ∀ b tr h' k', KBw.bInts b = oct2 1 ++ oct2 gs.length ++ (gs.map oct2).flatten → Fr h₀ L h' m → News h₀ L h' rest → Q (.bytes b tr) { s with heap := h', toks := k' }) :
  wpAny (model PySem.Challenge.rw_pb0181_01.row.prog w) (ktrTop dp un gd cn cs L a ccd cl outer) (call (.ref 280) [.ref l]) Q E s := by
  refine wpAny_call ?_
  k_dflt cell_enter
  k_steps
  unfold Hold
  rename Fr _ _ _ _ => F9
  rename News _ _ _ _ => N9
  have hlv := hi.length
  refine LCg.CompSrc.ledger rfl F9 N9 hl (by rw [List.size_toArray, sizeLine_eq]; omega) (fun g9 => ?_)
  refine comp_J (fun i ys nx => nx = rest ∧ ∃ bs, BytesAre ys bs ∧ bs.map KBw.bInts = (gs.take i).map oct2) ⟨rfl, [], .nil, rfl⟩ ?_ ?_
  · intro i ys nx v I oI C oC D m2 h2 tk2 E' hi2 hJ hP hC hx F6 N6 off ne
    obtain ⟨e, bs, hys, hbs⟩ := hJ
    subst e
    obtain ⟨g, tg, rfl, hg⟩ := hi.at i v (by simpa using hP)
    have hg0 := hgs g (List.mem_of_getElem? hg)
    have hg1 := hg0.1
    have hg2 := hg0.2
    clear F9 N9
    k_steps
    unfold Hold
    rename Fr _ _ _ _ => F5
    rename News _ _ _ _ => N5
    rename KBw.bInts _ = oct2 g => hbg
    refine LCg.CompEnd.intro F5 N5 _ (fun p hp => hp) off (.inr ⟨_, hl, rfl, _, rfl⟩) ⟨rfl, bs ++ [_], hys.append (.cons _ _ .nil), ?_⟩
    rw [List.take_add_one, hg, List.map_append, List.map_append, hbs]
    show _ ++ [KBw.bInts _] = _
    rw [hbg]
    rfl
  · intro ys nx hJ
    obtain ⟨e, bs, hys, hbs⟩ := hJ
    subst e
    have e1 : gs.take gvs.toArray.size = gs := List.take_of_length_le (by rw [List.size_toArray]; omega)
    rw [e1] at hbs
    have hsz : (bs.map Array.size).sum ≤ 16777216 := by rw [sizes_oct2 hbs]; omega
    unfold LCg.FinE
    intro D h2 tk2 F6 N6 o1
    clear F9 N9
    k_steps
    unfold Hold
    rename News _ _ _ _ => N5
    refine join_call (News.isList N5 (.head _)) hys hsz ?_
    intro b8 t8 k8 hb8
    rw [hbs] at hb8
    k_steps
    rename News h₀ L _ _ => N4
    exact hret _ _ _ _ (by assumption) (by assumption) (fun p hp => N4 p (.tail _ hp))
end
end Mine
end
section
open PySem PySem.W PyProof.Rows PySem.Spec PySem.Calls Builtin
set_option maxRecDepth 100000
namespace Mine
theorem int_no_bytes : typeLookup (.type "int") "__bytes__" = pure none := by rw [typeLookup_type, builtinLookup_eq_fast]; kernel_rfl
theorem int_index : typeLookup (.type "int") "__index__" = pure (some (.builtin "int.__index__")) := by rw [typeLookup_type, builtinLookup_eq_fast]; kernel_rfl
section
variable {prog : Program} {w : World} {A : Around} {E : Value → Shared → Prop} {s : Shared}
theorem bytes_count {n : Int} {t : Tok} {Q : Value → Shared → Prop} (h0 : 0 ≤ n) (h1 : n ≤ 16777216) (hQ : ∀ b t' k, KBw.bInts b = List.replicate n.toNat 0 → Q (.bytes b t') { s with toks := k }) :
    codeAny (model prog w) A (.call (.builtin "bytes.__new__") ⟨[.type "bytes", .int n t], []⟩) (wants Q E) s := by
  refine codeAny_of_tree ?_
  show wpAny _ A.in1 (do checkBuiltinCall "bytes.__new__" ⟨[.type "bytes", .int n t], []⟩; again (.builtin "bytes.__new__" ⟨[.type "bytes", .int n t], []⟩)) _ _ s
  refine wpAny_bind (wpAny_of_eq (F.bm_newCall _) (wpAny_pure ⟨plainId_quiet F.bm_plain _, codeAny_builtin F.bm_entry ?_⟩))
  rw [Around.under_plainId F.bm_plain _]
  have hT : s.TypeIs (.int n t) "int" := rfl
  unfold Builtin.«bytes.__new__»
  refine wpAny_bind (wpAny_of_eq (a := true) rfl ?_)
  refine bm_if_false rfl ?_
  refine wpAny_bind (wpAny_of_eq F.bm_sub ?_)
  refine bm_if_false rfl ?_
  refine wpAny_bind (wpAny_of_eq (F.bm_bind _) ?_)
  refine wpAny_bind (wpAny_of_eq (a := ()) rfl ?_)
  refine wpAny_bind (wpAny_of_eq (a := ()) rfl ?_)
  refine bm_if_false rfl ?_
  refine wpAny_bind (wpAny_specialOf hT int_no_bytes ?_)
  refine wpAny_bind (wpAny_of_eq (a := false) rfl ?_)
  refine bm_if_false rfl ?_
  refine wpAny_bind (wpAny_specialOf hT int_index ?_)
  refine bm_if_false rfl ?_
  refine wpAny_bind (wpAny_attempt (wpAny_of_eq (a := n) rfl ?_))
  dsimp only
  refine bm_if_false ?_ ?_
  · show (!Bytes.fitsIndex n) = false
    unfold Bytes.fitsIndex
    rw [Bool.not_eq_false', Bool.and_eq_true]
    exact ⟨decide_eq_true (by omega), decide_eq_true (by omega)⟩
  rw [if_neg (by omega), if_neg (by omega)]
  refine bm_if_false (KBy.tooLong_not (by omega)) ?_
  refine wpAny_bind (wpAny_rule (wpAny_bind (wpAny_mkBytes ?_ (by rw [Array.size_replicate, sizeLine_eq]; omega))))
  refine wpAny_pure (hQ _ _ _ ?_)
  simp [KBw.bInts]
theorem bytes_int {n : Int} {t : Tok} {Q : Value → Shared → Prop} (h0 : 0 ≤ n) (h1 : n ≤ 16777216) (hQ : ∀ b t' k, KBw.bInts b = List.replicate n.toNat 0 → Q (.bytes b t') { s with toks := k }) :
    wpAny (model prog w) A (call (.type "bytes") [.int n t]) Q E s := by
  refine callType_codes (Q₁ := fun obj s₁ => s₁.TypeIs obj "bytes" ∧ Q obj s₁) F.bm_called (F.bm_typeCall _) F.entry_object_init
    (bytes_count h0 h1 fun b t' k hb => ⟨PySem.W.typeIs_bytes _ _ _, hQ b t' k hb⟩) fun obj s₁ h₁ => ?_
  exact ⟨h₁.1, F.args_object_init_2 obj _, object_init_meets F.bm_called.init.lookup F.bm_called.made (by decide) prog w A.in1 _ s₁ ⟨h₁.1, rfl, h₁.2⟩⟩
end
end Mine
end
section
open PySem PySem.W PyProof.Rows PySem.Spec
set_option maxRecDepth 100000
namespace Mine
def octs (g : List Int) : List Int := oct2 1 ++ oct2 g.length ++ (g.map oct2).flatten
theorem octs_len (g : List Int) : (octs g).length = 4 + 2 * g.length := by
  unfold octs
  rw [List.length_append, List.length_append, oct2_len, oct2_len, flat_len]
theorem be_oct2 {n : Int} (h0 : 0 ≤ n) (h1 : n < 65536) : beNum (oct2 n) = n := by
  show (0 * 256 + Int.fmod (Int.fdiv n 256) 256) * 256 + Int.fmod n 256 = n
  rw [Int.fdiv_eq_ediv_of_nonneg _ (by decide), Int.fmod_eq_emod_of_nonneg _ (by decide), Int.fmod_eq_emod_of_nonneg _ (by decide)]
  omega
theorem be_oct4 {n : Int} (h0 : 0 ≤ n) (h1 : n < 4294967296) : beNum (oct4 n) = n := by
  show (((0 * 256 + Int.fmod (Int.fdiv (Int.fdiv n 65536) 256) 256) * 256 + Int.fmod (Int.fdiv n 65536) 256) * 256 + Int.fmod (Int.fdiv n 256) 256) * 256 + Int.fmod n 256 = n
  simp only [Int.fdiv_eq_ediv_of_nonneg _ (show (0 : Int) ≤ 256 by decide), Int.fdiv_eq_ediv_of_nonneg _ (show (0 : Int) ≤ 65536 by decide), Int.fmod_eq_emod_of_nonneg _ (show (0 : Int) ≤ 256 by decide)]
  omega
theorem oct4_len (n : Int) : (oct4 n).length = 4 := rfl
theorem mid_at {pre mid post : List Int} {n : Nat} {q : Nat} (hq : q = pre.length) (hn : n = mid.length) : ((pre ++ mid ++ post).drop q).take n = mid := by
  subst hq hn
  rw [List.append_assoc, List.drop_left, List.take_left]
theorem mid2 {pre post : List Int} {n : Int} {q : Nat} (hq : q = pre.length) : ((pre ++ oct2 n ++ post).drop q).take 2 = oct2 n := mid_at hq (oct2_len n).symm
theorem mid4 {pre post : List Int} {n : Int} {q : Nat} (hq : q = pre.length) : ((pre ++ oct4 n ++ post).drop q).take 4 = oct4 n := mid_at hq (oct4_len n).symm
theorem take_cut {K : List Int} {N q n : Nat} (h : q + n ≤ N) : ((K.take N).drop q).take n = (K.drop q).take n := by
  rw [List.drop_take, List.take_take, Nat.min_eq_left (by omega)]
theorem HeadAt.cut {K : List Int} {a : Int} {os : List Int} {N : Nat} (H : HeadAt K a os) (hN : N ≤ K.length) (hr : a + 4 + 4 * (os.length : Int) ≤ N) : HeadAt (K.take N) a os where
  pos := H.pos
  room := by rw [List.length_take]; omega
  form := by have := H.pos; rw [take_cut (by omega)]; exact H.form
  num := by have := H.pos; rw [take_cut (by omega)]; exact H.num
  offs := fun i o ho => by
    have := H.pos
    have hi : i < os.length := (List.getElem?_eq_some_iff.mp ho).1
    rw [take_cut (by omega)]; exact H.offs i o ho
theorem SetAt.cut {K : List Int} {a : Int} {g : List Int} {N : Nat} (S : SetAt K a g) (hN : N ≤ K.length) (h4 : a + 4 ≤ N) (hf : a + 4 + 2 * (g.length : Int) ≤ N + 1) : SetAt (K.take N) a g where
  a0 := S.a0
  room := by rw [List.length_take]; omega
  form := by have := S.a0; rw [take_cut (by omega)]; exact S.form
  num := by have := S.a0; rw [take_cut (by omega)]; exact S.num
  small := S.small
  fit := by rw [List.length_take]; omega
  codes := fun i c hc hr => by
    have := S.a0
    rw [List.length_take] at hr
    rw [take_cut (by omega)]
    exact S.codes i c hc (by omega)
  asc := S.asc
theorem SetAt.mid {pre post : List Int} {g : List Int} {a : Int} (ha : a = pre.length) (hs : g.length ≤ 1000) (hg : ∀ c ∈ g, 0 ≤ c ∧ c < 65536) (hasc : ∀ (i : Nat) (c c' : Int), g[i]? = some c → g[i+1]? = some c' → c < c') : SetAt (pre ++ octs g ++ post) a g where
  a0 := by omega
  room := by rw [List.length_append, List.length_append, octs_len]; omega
  form := by
    have e : pre ++ octs g ++ post = pre ++ oct2 1 ++ (oct2 g.length ++ (g.map oct2).flatten ++ post) := by unfold octs; simp only [List.append_assoc]
    rw [e, mid2 (by omega)]; exact be_oct2 (by decide) (by decide)
  num := by
    have e : pre ++ octs g ++ post = (pre ++ oct2 1) ++ oct2 g.length ++ ((g.map oct2).flatten ++ post) := by unfold octs; simp only [List.append_assoc]
    rw [e, mid2 (by rw [List.length_append, oct2_len]; omega)]; exact be_oct2 (by omega) (by omega)
  small := hs
  fit := by rw [List.length_append, List.length_append, octs_len]; omega
  codes := fun i c hc _ => by
    have hi : i < g.length := (List.getElem?_eq_some_iff.mp hc).1
    have hd : g = g.take i ++ c :: g.drop (i + 1) := by
      have h1 := List.take_append_drop i g
      rw [List.drop_eq_getElem_cons hi, (List.getElem?_eq_some_iff.mp hc).2] at h1
      exact h1.symm
    have e : pre ++ octs g ++ post = (pre ++ oct2 1 ++ oct2 g.length ++ ((g.take i).map oct2).flatten) ++ oct2 c ++ (((g.drop (i + 1)).map oct2).flatten ++ post) := by
      have e1 : (g.map oct2).flatten = ((g.take i).map oct2).flatten ++ (oct2 c ++ ((g.drop (i + 1)).map oct2).flatten) := by
        conv => lhs; rw [hd]
        rw [List.map_append, List.flatten_append, List.map_cons, List.flatten_cons]
      unfold octs
      rw [e1]
      simp only [List.append_assoc]
    have hl : (g.take i).length = i := by rw [List.length_take]; omega
    rw [e, mid2 (by rw [List.length_append, List.length_append, List.length_append, oct2_len, oct2_len, flat_len, hl]; omega)]
    have := hg c (List.mem_of_getElem? hc)
    exact be_oct2 this.1 this.2
  asc := hasc
def dataOf (a : Nat) (os bl : List Int) : List Int := List.replicate a 0 ++ (oct2 1 ++ oct2 os.length) ++ (os.map oct4).flatten ++ bl
theorem dataOf_len (a : Nat) (os bl : List Int) : (dataOf a os bl).length = a + 4 + 4 * os.length + bl.length := by
  unfold dataOf
  simp only [List.length_append, List.length_replicate, oct2_len, flat4_len]
theorem head_of {a : Nat} {os bl : List Int} (ha : 0 < a) (hl : os.length < 65536) (ho : ∀ o ∈ os, 0 ≤ o ∧ o < 4294967296) : HeadAt (dataOf a os bl) a os where
  pos := by omega
  room := by rw [dataOf_len]; omega
  form := by
    have e : dataOf a os bl = List.replicate a 0 ++ oct2 1 ++ (oct2 os.length ++ (os.map oct4).flatten ++ bl) := by unfold dataOf; simp only [List.append_assoc]
    rw [e, mid2 (by rw [List.length_replicate]; omega)]; exact be_oct2 (by decide) (by decide)
  num := by
    have e : dataOf a os bl = (List.replicate a 0 ++ oct2 1) ++ oct2 os.length ++ ((os.map oct4).flatten ++ bl) := by unfold dataOf; simp only [List.append_assoc]
    rw [e, mid2 (by rw [List.length_append, List.length_replicate, oct2_len]; omega)]; exact be_oct2 (by omega) (by omega)
  offs := fun i o h => by
    have hi : i < os.length := (List.getElem?_eq_some_iff.mp h).1
    have hd : os = os.take i ++ o :: os.drop (i + 1) := by
      have h1 := List.take_append_drop i os
      rw [List.drop_eq_getElem_cons hi, (List.getElem?_eq_some_iff.mp h).2] at h1
      exact h1.symm
    have e : dataOf a os bl = (List.replicate a 0 ++ (oct2 1 ++ oct2 os.length) ++ ((os.take i).map oct4).flatten) ++ oct4 o ++ (((os.drop (i + 1)).map oct4).flatten ++ bl) := by
      have e1 : (os.map oct4).flatten = ((os.take i).map oct4).flatten ++ (oct4 o ++ ((os.drop (i + 1)).map oct4).flatten) := by
        conv => lhs; rw [hd]
        rw [List.map_append, List.flatten_append, List.map_cons, List.flatten_cons]
      unfold dataOf
      rw [e1]
      simp only [List.append_assoc]
    have hl' : (os.take i).length = i := by rw [List.length_take]; omega
    rw [e, mid4 (by simp only [List.length_append, List.length_replicate, oct2_len, flat4_len, hl']; omega)]
    have := ho o (List.mem_of_getElem? h)
    exact be_oct4 this.1 this.2
theorem set_of {a : Nat} {os pre post g : List Int} {o : Int} (ho : o = 4 + 4 * (os.length : Int) + pre.length) (hs : g.length ≤ 1000) (hg : ∀ c ∈ g, 0 ≤ c ∧ c < 65536) (hasc : ∀ (i : Nat) (c c' : Int), g[i]? = some c → g[i+1]? = some c' → c < c') : SetAt (dataOf a os (pre ++ octs g ++ post)) (a + o) g := by
  have e : dataOf a os (pre ++ octs g ++ post) = (List.replicate a 0 ++ (oct2 1 ++ oct2 os.length) ++ (os.map oct4).flatten ++ pre) ++ octs g ++ post := by unfold dataOf; simp only [List.append_assoc]
  rw [e]
  exact SetAt.mid (by simp only [List.length_append, List.length_replicate, oct2_len, flat4_len]; omega) hs hg hasc
end Mine
end
section
open PySem PySem.W PyProof.Rows PySem.Spec
set_option maxRecDepth 100000
namespace Mine
structure GoodG (g : List Int) : Prop where
  some : 1 ≤ g.length
  few : g.length ≤ 3
  codes : ∀ c ∈ g, 0 ≤ c ∧ c < 65536
  asc : ∀ (i : Nat) (c c' : Int), g[i]? = .some c → g[i+1]? = .some c' → c < c'
theorem good_setOf {f n : Int} (h0 : 0 ≤ f) (h1 : f < 900) (h2 : 1 ≤ n) (h3 : n ≤ 3) : GoodG (setOf f n) := by
  have hl := setOf_len (f := f) (n := n) (by omega)
  have hv : ∀ (i : Nat) (c : Int), (setOf f n)[i]? = some c → (i : Int) < n ∧ c = f + 2 * (i : Int) := fun i c h => by
    have hi : i < (setOf f n).length := (List.getElem?_eq_some_iff.mp h).1
    have hi' : (i : Int) < n := by omega
    rw [setOf_at hi'] at h
    exact ⟨hi', (Option.some.inj h).symm⟩
  refine ⟨by omega, by omega, fun c hc => ?_, fun i c c' hc hc' => ?_⟩
  · obtain ⟨i, hi⟩ := List.getElem?_of_mem hc
    obtain ⟨a1, a2⟩ := hv i c hi
    omega
  · obtain ⟨_, a2⟩ := hv i c hc
    obtain ⟨_, b2⟩ := hv (i + 1) c' hc'
    omega
structure Built (cnt : Int) (fl : Nat) (i : Nat) (os : List Int) (gss : List (List Int)) (bl : List Int) : Prop where
  lo : os.length = i
  lg : gss.length = i
  big : fl ≤ bl.length
  few : bl.length ≤ fl + 10 * i
  each : ∀ (j : Nat) (o : Int) (g : List Int), os[j]? = some o → gss[j]? = some g → (o = 0 ∧ g = []) ∨ (GoodG g ∧ ∃ pre post, bl = pre ++ octs g ++ post ∧ o = 4 + 4 * cnt + pre.length)
  same : ∀ (j j' : Nat) (o : Int) (g g' : List Int), os[j]? = some o → os[j']? = some o → gss[j]? = some g → gss[j']? = some g' → g = g'
  last : ∀ (o : Int) (g : List Int), os.getLast? = some o → gss.getLast? = some g → g ≠ [] → ∃ pre, bl = pre ++ octs g ∧ o = 4 + 4 * cnt + pre.length ∧ fl ≤ pre.length
theorem getLast?_at {α : Type} {l : List α} {n : Nat} (h : l.length = n + 1) : l.getLast? = l[n]? := by
  rw [List.getLast?_eq_getElem?, h]; rfl
theorem snoc_at {α : Type} {l : List α} {x y : α} {n j : Nat} (hl : l.length = n) (h : (l ++ [x])[j]? = some y) : (j < n ∧ l[j]? = some y) ∨ (j = n ∧ y = x) := by
  subst hl
  rcases Nat.lt_or_ge j l.length with hj | hj
  · rw [List.getElem?_append_left hj] at h
    exact .inl ⟨hj, h⟩
  · rw [List.getElem?_append_right hj] at h
    have : j - l.length = 0 := by
      have := (List.getElem?_eq_some_iff.mp h).1
      rw [List.length_singleton] at this
      omega
    rw [this] at h
    exact .inr ⟨by omega, (Option.some.inj h).symm⟩
theorem Built.zero {cnt : Int} {fl : Nat} {bl : List Int} (h : bl = List.replicate fl 0) : Built cnt fl 0 [] [] bl where
  lo := rfl
  lg := rfl
  big := by rw [h, List.length_replicate]; exact Nat.le_refl _
  few := by rw [h, List.length_replicate]; omega
  each := fun j o g h => by simp at h
  same := fun j j' o g g' h => by simp at h
  last := fun o g h => by simp at h
section
variable {cnt : Int} {fl i : Nat} {os : List Int} {gss : List (List Int)} {bl : List Int}
theorem Built.snoc (Bt : Built cnt fl i os gss bl) {o : Int} {g : List Int} {bl' post' : List Int} (hbl : bl' = bl ++ post') (hp : post'.length ≤ 10)
    (h1 : (o = 0 ∧ g = []) ∨ (GoodG g ∧ ∃ pre post, bl' = pre ++ octs g ++ post ∧ o = 4 + 4 * cnt + pre.length))
    (h2 : ∀ (j : Nat) (g' : List Int), os[j]? = some o → gss[j]? = some g' → g = g')
    (h3 : g ≠ [] → ∃ pre, bl' = pre ++ octs g ∧ o = 4 + 4 * cnt + pre.length ∧ fl ≤ pre.length) : Built cnt fl (i + 1) (os ++ [o]) (gss ++ [g]) bl' where
  lo := by rw [List.length_append, Bt.lo]; rfl
  lg := by rw [List.length_append, Bt.lg]; rfl
  big := by have := Bt.big; rw [hbl, List.length_append]; omega
  few := by have := Bt.few; rw [hbl, List.length_append]; omega
  each := fun j o' g' ho hg => by
    rcases snoc_at Bt.lo ho with ⟨hj, ho⟩ | ⟨hj, rfl⟩
    · rcases snoc_at Bt.lg hg with ⟨_, hg⟩ | ⟨hj', _⟩
      · rcases Bt.each j o' g' ho hg with h | ⟨x, pre, post, y, z⟩
        · exact .inl h
        · exact .inr ⟨x, pre, post ++ post', by rw [hbl, y, List.append_assoc], z⟩
      · omega
    · rcases snoc_at Bt.lg hg with ⟨hj', _⟩ | ⟨_, rfl⟩
      · omega
      · exact h1
  same := fun j j' o' g' g'' ho ho' hg hg' => by
    rcases snoc_at Bt.lo ho with ⟨hj, a1⟩ | ⟨hj, e1⟩
    · rcases snoc_at Bt.lg hg with ⟨_, a2⟩ | ⟨hj', _⟩
      · rcases snoc_at Bt.lo ho' with ⟨hk, a3⟩ | ⟨hk, e3⟩
        · rcases snoc_at Bt.lg hg' with ⟨_, a4⟩ | ⟨hk', _⟩
          · exact Bt.same j j' o' g' g'' a1 a3 a2 a4
          · omega
        · rcases snoc_at Bt.lg hg' with ⟨hk', _⟩ | ⟨_, e4⟩
          · omega
          · rw [e4]
            exact (h2 j g' (e3 ▸ a1) a2).symm
      · omega
    · rcases snoc_at Bt.lg hg with ⟨hj', _⟩ | ⟨_, e2⟩
      · omega
      · rcases snoc_at Bt.lo ho' with ⟨hk, a3⟩ | ⟨hk, _⟩
        · rcases snoc_at Bt.lg hg' with ⟨_, a4⟩ | ⟨hk', _⟩
          · rw [e2]
            exact h2 j' g'' (e1 ▸ a3) a4
          · omega
        · rcases snoc_at Bt.lg hg' with ⟨hk', _⟩ | ⟨_, e4⟩
          · omega
          · rw [e2, e4]
  last := fun o' g' ho hg hne => by
    rw [List.getLast?_append, List.getLast?_singleton, Option.some_or] at ho hg
    cases ho
    cases hg
    exact h3 hne
theorem Built.none (Bt : Built cnt fl i os gss bl) (hc : 0 ≤ cnt) : Built cnt fl (i + 1) (os ++ [0]) (gss ++ [[]]) bl :=
  Bt.snoc (post' := []) (by simp) (by simp) (.inl ⟨rfl, rfl⟩) (fun j g' ho hg => by
    rcases Bt.each j 0 g' ho hg with ⟨_, h⟩ | ⟨_, pre, post, _, h⟩
    · exact h.symm
    · omega) fun h => absurd rfl h
theorem Built.again (Bt : Built cnt fl i os gss bl) {o : Int} {g : List Int} (ho : os.getLast? = some o) (hg : gss.getLast? = some g) (hpos : 0 < o) : Built cnt fl (i + 1) (os ++ [o]) (gss ++ [g]) bl := by
  have hne : os ≠ [] := fun h => by rw [h] at ho; cases ho
  obtain ⟨n, hn⟩ : ∃ n, i = n + 1 := ⟨i - 1, by have := Bt.lo; have : os.length ≠ 0 := fun h => hne (List.length_eq_zero_iff.mp h); omega⟩
  have ho' := ho
  have hg' := hg
  rw [getLast?_at (by rw [Bt.lo, hn])] at ho'
  rw [getLast?_at (by rw [Bt.lg, hn])] at hg'
  refine Bt.snoc (post' := []) (by simp) (by simp) ?_ (fun j g' h1 h2 => Bt.same n j o g g' ho' h1 hg' h2) fun h => Bt.last o g ho hg h
  exact Bt.each n o g ho' hg'
theorem Built.more (Bt : Built cnt fl i os gss bl) (hc : 0 ≤ cnt) {g : List Int} (G : GoodG g) : Built cnt fl (i + 1) (os ++ [4 + 4 * cnt + bl.length]) (gss ++ [g]) (bl ++ octs g) := by
  refine Bt.snoc (post' := octs g) rfl (by rw [octs_len]; have := G.few; omega) (.inr ⟨G, bl, [], by simp, rfl⟩) (fun j g' h1 h2 => ?_) fun _ => ⟨bl, rfl, rfl, Bt.big⟩
  rcases Bt.each j _ g' h1 h2 with ⟨h, _⟩ | ⟨_, pre, post, h3, h4⟩
  · omega
  · exfalso
    have := congrArg List.length h3
    rw [List.length_append, List.length_append, octs_len] at this
    omega
theorem Built.set (Bt : Built cnt fl i os gss bl) (hc : (os.length : Int) = cnt) {a : Nat} : ∀ (j : Nat) (o : Int) (g : List Int), os[j]? = some o → gss[j]? = some g → (o = 0 → g = []) ∧ (o ≠ 0 → SetAt (dataOf a os bl) (a + o) g) := fun j o g ho hg => by
  rcases Bt.each j o g ho hg with ⟨h1, h2⟩ | ⟨G, pre, post, h3, h4⟩
  · exact ⟨fun _ => h2, fun h => absurd h1 h⟩
  · refine ⟨fun h => by omega, fun _ => ?_⟩
    have := G.few
    rw [h3]
    exact set_of (by rw [h4, ← hc]) (by omega) G.codes G.asc
theorem Built.fit (Bt : Built cnt fl i os gss bl) (hc : (os.length : Int) = cnt) {a : Nat} : ∀ (j : Nat) (o : Int) (g : List Int), os[j]? = some o → gss[j]? = some g → o ≠ 0 → (a : Int) + o + 4 + 2 * (g.length : Int) ≤ (dataOf a os bl).length := fun j o g ho hg hz => by
  rcases Bt.each j o g ho hg with ⟨h1, _⟩ | ⟨G, pre, post, h3, h4⟩
  · exact absurd h1 hz
  · rw [dataOf_len]
    have := congrArg List.length h3
    rw [List.length_append, List.length_append, octs_len] at this
    omega
theorem Built.tail (Bt : Built cnt fl i os gss bl) (hc : (os.length : Int) = cnt) {a : Nat} {g : List Int} (hg : gss.getLast? = some g) (hne : g ≠ []) :
    fl < bl.length ∧ ∃ (j : Nat) (o : Int), os[j]? = some o ∧ gss[j]? = some g ∧ o ≠ 0 ∧ (a : Int) + o + 4 + 2 * (g.length : Int) = (dataOf a os bl).length := by
  have h0 : gss ≠ [] := fun h => by rw [h] at hg; cases hg
  obtain ⟨n, hn⟩ : ∃ n, i = n + 1 := ⟨i - 1, by have := Bt.lg; have : gss.length ≠ 0 := fun h => h0 (List.length_eq_zero_iff.mp h); omega⟩
  have hlo := Bt.lo
  obtain ⟨o, ho⟩ : ∃ o, os.getLast? = some o := by
    rw [getLast?_at (by rw [hlo, hn])]
    exact ⟨_, List.getElem?_eq_getElem (by omega)⟩
  obtain ⟨pre, h1, h2, h3⟩ := Bt.last o g ho hg hne
  have hl := congrArg List.length h1
  rw [List.length_append, octs_len] at hl
  refine ⟨by omega, n, o, ?_, ?_, by omega, by rw [dataOf_len]; omega⟩
  · rw [← getLast?_at (by rw [hlo, hn])]; exact ho
  · rw [← getLast?_at (by rw [Bt.lg, hn])]; exact hg
theorem Built.glen (Bt : Built cnt fl i os gss bl) : ∀ (j : Nat) (g : List Int), gss[j]? = some g → g.length ≤ 3 := fun j g hg => by
  have hj : j < os.length := by have := (List.getElem?_eq_some_iff.mp hg).1; rw [Bt.lg] at this; rw [Bt.lo]; exact this
  rcases Bt.each j _ g (List.getElem?_eq_getElem hj) hg with ⟨_, h⟩ | ⟨G, _⟩
  · rw [h]; exact Nat.zero_le _
  · exact G.few
theorem Built.ofs (Bt : Built cnt fl i os gss bl) (hc : 0 ≤ cnt) (h1 : cnt ≤ 1000) (h2 : bl.length ≤ 1000000) : ∀ o ∈ os, 0 ≤ o ∧ o < 4294967296 := fun o ho => by
  obtain ⟨j, hj⟩ := List.getElem?_of_mem ho
  have hj' : j < gss.length := by have := (List.getElem?_eq_some_iff.mp hj).1; rw [Bt.lo] at this; rw [Bt.lg]; exact this
  rcases Bt.each j o _ hj (List.getElem?_eq_getElem hj') with ⟨h, _⟩ | ⟨_, pre, post, h3, h4⟩
  · omega
  · have := congrArg List.length h3
    rw [List.length_append, List.length_append] at this
    omega
end
theorem good_draw (ns : List Int) (a b : Int) : GoodG (setOf (drawv ns a 900) (1 + drawv ns b 3)) := by
  have h1 := drawv_in ns a (lim := 900) (by decide)
  have h2 := drawv_in ns b (lim := 3) (by decide)
  exact good_setOf h1.1 h1.2 (by omega) (by omega)
section
variable {prog : Program} {w : World} {p : Program} {loose : List Str} {mean : ExcName → Option Value} {mg mb : Str → Option Value}
  {dp un : Nat} {gd : Option (List Code)} {cn : Str} {cs : Scope} {a : Addr} {ccd : Value} {cl : List (Str × Addr)} {outer : List Env} {A₀ : Around} {base h₀ : Heap} {L : Addr} {m : Str → Option Value} {s : Shared} {Q E : Value → Shared → Prop}
theorem octets_v (B : Below A₀ base outer h₀) (F : Fr h₀ L s.heap m) (X : (KF w.params).In h₀) (T : Top p loose mean mg mb h₀) (hk : cs.kind = .function) (hd : dp + 4 < recursionLimit) (hu : un + 60 < cLine)
  {l : Addr} {gvs : List Value} {gs : List Int} {k : Nat} {rest : List (Addr × Obj)} (N : News h₀ L s.heap rest) (hl : (l, listOf gvs.toArray k) ∈ rest) (hi : IntsAre gvs gs) (G : GoodG gs)
  (hret : ∀ b tr, KBw.bInts b = octs gs → (octs gs).length ≤ 10 → ∀ h' k', Fr h₀ L h' m → News h₀ L h' rest → Q (.bytes b tr) { s with heap := h', toks := k' }) :
  wpAny (model PySem.Challenge.rw_pb0181_01.row.prog w) (ktrTop dp un gd cn cs L a ccd cl outer) (call (.ref 280) [.ref l]) Q E s :=
  octets_c B F X T hk hd hu N hl hi G.codes (Nat.le_trans G.few (by decide)) fun b tr h' k' hb F' N' => hret b tr hb (by rw [octs_len]; have := G.few; omega) h' k' F' N'
end
end Mine
end
section
open PySem PySem.W PyProof.Rows PySem.Spec PySem.Calls
set_option maxRecDepth 100000
namespace Mine
section
variable {prog : Program} {w : World} {A : Around} {E : Value → Shared → Prop} {s : Shared} {env : Env} {h₀ : Heap} {x : Str} {body : List Stmt} {Q : Flow → Shared → Prop}
theorem fr_turnB {L : Addr} {h : Heap} {v vb : Value} {stored : List Str} {bv : Str} {m₁ m₀ : Str → Option Value} (hb : m₁ bv = some vb) (hm : ∀ y, y ≠ x → y ≠ bv → stored.contains y = false → m₁ y = m₀ y) (F : Fr h₀ L h (fun y => if y = x then some v else m₁ y)) :
    Fr h₀ L h (fun y => if y = x then some v else if y = bv then some vb else if stored.contains y then m₁ y else m₀ y) := by
  have e : (fun y => if y = x then some v else m₁ y) = fun y => if y = x then some v else if y = bv then some vb else if stored.contains y then m₁ y else m₀ y := by
    funext y
    by_cases h1 : y = x
    · simp [h1]
    · simp only [if_neg h1]
      by_cases h3 : y = bv
      · rw [if_pos h3, h3]; exact hb
      · simp only [if_neg h3]
        cases h2 : stored.contains y with
        | true => simp
        | false => simp only [Bool.false_eq_true, if_false]; exact hm y h1 h3 h2
  rw [← e]; exact F
theorem fr_doneB {L : Addr} {h : Heap} {vb : Value} {stored : List Str} {bv : Str} {m₁ m₀ : Str → Option Value} (hb : m₁ bv = some vb) (hm : ∀ y, y ≠ x → y ≠ bv → stored.contains y = false → m₁ y = m₀ y) (F : Fr h₀ L h m₁) :
    Fr h₀ L h (fun y => if y = x then m₁ y else if y = bv then some vb else if stored.contains y then m₁ y else m₀ y) := by
  have e : m₁ = fun y => if y = x then m₁ y else if y = bv then some vb else if stored.contains y then m₁ y else m₀ y := by
    funext y
    by_cases h1 : y = x
    · simp [h1]
    · simp only [if_neg h1]
      by_cases h3 : y = bv
      · rw [if_pos h3, h3]; exact hb
      · simp only [if_neg h3]
        cases h2 : stored.contains y with
        | true => simp
        | false => simp only [Bool.false_eq_true, if_false]; exact hm y h1 h3 h2
  rw [← e]; exact F
theorem iter_rangeB {r : Addr} {a₀ b₀ : Int} {t₀ u₀ v₀ : Tok} {n : Nat} {m₀ : Str → Option Value} {news : List (Addr × Obj)} {vb₀ : Value} (stored : List Str) (bv : Str) (R : Nat → Value → List (Addr × Obj) → Prop)
    (hh : A.handled = none) (hr : IsRange s.heap r a₀ b₀ 1 t₀ u₀ v₀) (hsmall : Builtin.Range.small a₀ b₀ 1 = true) (hn : Builtin.Range.rangeSize a₀ b₀ 1 = (n : Int)) (F : Fr h₀ env.locals s.heap m₀) (N : News h₀ env.locals s.heap news) (hb : m₀ bv = some vb₀) (h0 : R 0 vb₀ news)
    (turn : ∀ (i : Nat) (u : Str → Option Value) vb nx I it t h tk, i < n → R i vb nx → (∀ p ∈ nx, p.1 ≠ I) → Fr h₀ env.locals h (fun y => if y = x then some (.int (a₀ + (i : Int)) t) else if y = bv then some vb else if stored.contains y then u y else m₀ y) → News h₀ env.locals h ((I, it) :: nx) →
      wpAny (model prog w) A (execs body env) (UnrPost h₀ env.locals { s with heap := h, toks := tk } I it (fun m' n' => (∀ y, y ≠ x → y ≠ bv → stored.contains y = false → m' y = m₀ y) ∧ ∃ vb, m' bv = some vb ∧ R (i + 1) vb n') Q) E { s with heap := h, toks := tk })
    (done : ∀ (u : Str → Option Value) vb nx h tk, R n vb nx → Fr h₀ env.locals h (fun y => if y = x then u y else if y = bv then some vb else if stored.contains y then u y else m₀ y) → News h₀ env.locals h nx → Q .next { s with heap := h, toks := tk }) :
    wpAny (model prog w) A (pyIter (.ref r)) (fun it s₂ => LoopAtV prog w A h₀ env x body Q E it s₂) E s :=
  iter_rangeJ (fun i m' n' => (∀ y, y ≠ x → y ≠ bv → stored.contains y = false → m' y = m₀ y) ∧ ∃ vb, m' bv = some vb ∧ R i vb n') hh hr hsmall hn F N ⟨fun _ _ _ _ => rfl, vb₀, hb, h0⟩
    (fun i m₁ nx I it t h tk hi hJ hoff F' N' => by
      obtain ⟨hm, vb, hb', hR⟩ := hJ
      exact turn i m₁ vb nx I it t h tk hi hR hoff (fr_turnB hb' hm F') N')
    (fun m₁ nx h tk hJ F' N' => by
      obtain ⟨hm, vb, hb', hR⟩ := hJ
      exact done m₁ vb nx h tk hR (fr_doneB hb' hm F') N')
def AllNeN (r : Nat) : List (Addr × Obj) → Prop
  | [] => True
  | p :: l => @Ne Nat p.1 r ∧ AllNeN r l
theorem allNe_of {r : Addr} : ∀ {l : List (Addr × Obj)}, (∀ p ∈ l, p.1 ≠ r) → AllNeN r l
  | [], _ => trivial
  | p :: _, h => ⟨h p (.head _), allNe_of fun q hq => h q (.tail _ hq)⟩
end
end Mine
end
section
open PySem PySem.W PyProof.Rows PySem.Spec PySem.Calls
set_option maxRecDepth 100000
namespace Mine
def DueAre (news : List (Addr × Obj)) (dvs : List Value) (gss : List (List Int)) : Prop :=
  dvs.length = gss.length ∧ ∀ (j : Nat) (v : Value) (g : List Int), dvs[j]? = some v → gss[j]? = some g → ∃ l vs k, v = .ref l ∧ (l, listOf (List.toArray vs) k) ∈ news ∧ IntsAre vs g
theorem DueAre.snoc {news : List (Addr × Obj)} {dvs : List Value} {gss : List (List Int)} {x : Addr} {vs : List Value} {k : Nat} {g : List Int} (h : DueAre news dvs gss) (hg : IntsAre vs g) : DueAre ((x, listOf vs.toArray k) :: news) (dvs ++ [.ref x]) (gss ++ [g]) := by
  refine ⟨by rw [List.length_append, List.length_append, h.1]; rfl, fun j v g' hv hg' => ?_⟩
  rcases snoc_at rfl hv with ⟨hj, a1⟩ | ⟨hj, e1⟩
  · rcases snoc_at h.1.symm hg' with ⟨_, a2⟩ | ⟨hj', _⟩
    · obtain ⟨l, ws, k', b1, b2, b3⟩ := h.2 j v g' a1 a2
      exact ⟨l, ws, k', b1, .tail _ b2, b3⟩
    · omega
  · rcases snoc_at h.1.symm hg' with ⟨hj', _⟩ | ⟨_, e2⟩
    · omega
    · rw [e1, e2]
      exact ⟨x, vs, k, rfl, .head _, hg⟩
structure LoopAt (of du tt cc : Addr) (cells : List Value) (n : Int) (fl : Nat) (i : Nat) (b : Array UInt8) (p : Int) (tk : Tok) (et : Nat) (ovs : List Value) (ko : Nat) (dvs : List Value) (kd : Nat) (more : List (Addr × Obj)) (os : List Int) (gss : List (List Int)) (bl : List Int) (ec : Nat) (nx : List (Addr × Obj)) : Prop where
  hbl : KBw.bInts b = bl
  hnx : nx = (of, listOf ovs.toArray ko) :: (du, listOf dvs.toArray kd) :: (tt, listOf [.ref cc, .int p tk].toArray et) :: (cc, listOf cells.toArray ec) :: more
  hos : IntsAre ovs os
  hdu : DueAre more dvs gss
  off : ∀ q ∈ more, q.1 ≠ of ∧ q.1 ≠ du ∧ q.1 ≠ tt
  p0 : 3 ≤ p
  p1 : p ≤ 3 + 3 * (i : Int)
  bt : Built n fl i os gss bl
def BuiltAt (of du tt cc : Addr) (cells : List Value) (n : Int) (fl : Nat) (i : Nat) (vb : Value) (nx : List (Addr × Obj)) : Prop :=
  ∃ b tb p tk et ovs ko dvs kd more os gss bl ec, vb = .bytes b tb ∧ LoopAt of du tt cc cells n fl i b p tk et ovs ko dvs kd more os gss bl ec nx
theorem loop_end {h₀ : Heap} {L : Addr} {s₁ : Shared} {h' : Heap} {tk : Nat} {m' m₀ : Str → Option Value} {all : List (Addr × Obj)} {of du tt cc I x : Addr} {it : Obj} {cells : List Value} {n : Int} {fl : Nat} {i : Nat} {b b' : Array UInt8} {tb' : Tok} {p p' : Int} {tk0 tk' : Tok} {et : Nat} {ovs : List Value} {ko : Nat} {dvs : List Value} {kd : Nat}
    {more : List (Addr × Obj)} {os : List Int} {gss : List (List Int)} {bl bl' : List Int} {ec : Nat} {nx : List (Addr × Obj)} {vs : List Value} {k : Nat} {o : Int} {to : Tok} {g : List Int}
    (Lp : LoopAt of du tt cc cells n fl i b p tk0 et ovs ko dvs kd more os gss bl ec nx) (F7 : Fr h₀ L h' m') (N7 : News h₀ L h' all)
    (hI : (I, it) ∈ all) (h1 : (of, listOf (ovs.toArray.push (Value.int o to)) (ko + 1)) ∈ all) (h2 : (du, listOf (dvs.toArray.push (Value.ref x)) (kd + 1)) ∈ all) (h3 : (tt, listOf [.ref cc, .int p' tk'].toArray et) ∈ all) (h4 : (cc, listOf cells.toArray ec) ∈ all) (h5 : (x, listOf vs.toArray k) ∈ all) (h6 : ∀ q ∈ more, q ∈ all)
    (hoff : ∀ q ∈ nx, q.1 ≠ I) (x1 : x ≠ I) (x2 : x ≠ of) (x3 : x ≠ du) (x4 : x ≠ tt)
    (fr : ∀ y, y ≠ Str.ofString "k" → y ≠ Str.ofString "body" → [Str.ofString "way", Str.ofString "glyphs"].contains y = false → m' y = m₀ y) (hb : m' (Str.ofString "body") = some (.bytes b' tb')) (hbl : KBw.bInts b' = bl')
    (hg : IntsAre vs g) (hp0 : 3 ≤ p') (hp1 : p' ≤ 3 + 3 * ((i + 1 : Nat) : Int)) (Bt : Built n fl (i + 1) (os ++ [o]) (gss ++ [g]) bl') :
    UnrEnd h₀ L s₁ I it (fun m' n' => (∀ y, y ≠ Str.ofString "k" → y ≠ Str.ofString "body" → [Str.ofString "way", Str.ofString "glyphs"].contains y = false → m' y = m₀ y) ∧ ∃ vb, m' (Str.ofString "body") = some vb ∧ BuiltAt of du tt cc cells n fl (i + 1) vb n') { s₁ with heap := h', toks := tk } := by
  have hnx := Lp.hnx
  subst hnx
  refine UnrEnd.intro F7 N7 ((of, listOf (ovs ++ [Value.int o to]).toArray (ko + 1)) :: (du, listOf (dvs ++ [Value.ref x]).toArray (kd + 1)) :: (tt, listOf [.ref cc, .int p' tk'].toArray et) :: (cc, listOf cells.toArray ec) :: (x, listOf vs.toArray k) :: more) (fun q hq => ?_) (fun q hq => ?_)
    ⟨fr, _, hb, b', tb', p', tk', et, ovs ++ [Value.int o to], ko + 1, dvs ++ [Value.ref x], kd + 1, (x, listOf vs.toArray k) :: more, os ++ [o], gss ++ [g], bl', ec, rfl, ⟨hbl, rfl, Lp.hos.append (.cons _ _ .nil), Lp.hdu.snoc hg, fun q hq => ?_, hp0, hp1, Bt⟩⟩
  · rcases List.mem_cons.mp hq with rfl | hq
    · exact hI
    rcases List.mem_cons.mp hq with rfl | hq
    · rw [← List.push_toArray]; exact h1
    rcases List.mem_cons.mp hq with rfl | hq
    · rw [← List.push_toArray]; exact h2
    rcases List.mem_cons.mp hq with rfl | hq
    · exact h3
    rcases List.mem_cons.mp hq with rfl | hq
    · exact h4
    rcases List.mem_cons.mp hq with rfl | hq
    · exact h5
    exact h6 q hq
  · rcases List.mem_cons.mp hq with rfl | hq
    · exact hoff (of, listOf ovs.toArray ko) (.head _)
    rcases List.mem_cons.mp hq with rfl | hq
    · exact hoff (du, listOf dvs.toArray kd) (.tail _ (.head _))
    rcases List.mem_cons.mp hq with rfl | hq
    · exact hoff (tt, listOf [.ref cc, .int p tk0].toArray et) (.tail _ (.tail _ (.head _)))
    rcases List.mem_cons.mp hq with rfl | hq
    · exact hoff (cc, listOf cells.toArray ec) (.tail _ (.tail _ (.tail _ (.head _))))
    rcases List.mem_cons.mp hq with rfl | hq
    · exact x1
    exact hoff q (.tail _ (.tail _ (.tail _ (.tail _ hq))))
  · rcases List.mem_cons.mp hq with rfl | hq
    · exact ⟨x2, x3, x4⟩
    exact Lp.off q hq
section
variable {prog : Program} {w : World} {A : Around} {E : Value → Shared → Prop} {s : Shared}
theorem item_last {value slice : PySem.Expr} {l : Addr} {vs : List Value} {v : Value} {u : Tok} {Q : Value → Shared → Prop} (hl : s.heap.IsList l vs.toArray) (hv : vs.getLast? = some v) (h : Q v s)
    (hs : subscripted slice false (.ref l) (.int (-1) u) = operate [.ref l, .int (-1) u] (getItem (.ref l) (.int (-1) u)) := by with_unfolding_all rfl) (hg : ∀ r, letTemporaryGo value (.ref l) r = pure () := by intro _; with_unfolding_all rfl) :
    wpAny (model prog w) A (subscriptTail value slice (.ref l) (.int (-1) u)) Q E s := by
  have hne : vs.length ≠ 0 := fun h0 => by rw [List.length_eq_zero_iff.mp h0] at hv; cases hv
  rw [List.getLast?_eq_getElem?] at hv
  have e : ((-1 : Int) + (vs.toArray.size : Nat)).toNat = vs.length - 1 := by rw [List.size_toArray]; omega
  exact subscriptTail_builtin hl.typeIs slot_list_getitem.lookup (wpAny_getItem_list_neg hl (by decide) (by rw [List.size_toArray]; omega) (by decide) (by rw [e]; simpa using hv) h) hs hg
end
theorem sum_oct4 (gs : List Int) : (gs.map fun g => (oct4 g).length).sum = 4 * gs.length := by
  induction gs with
  | nil => rfl
  | cons g r ih => rw [List.map_cons, List.sum_cons, ih, List.length_cons, oct4_len]; omega
theorem sizes_oct4 {bs : List (Array UInt8)} {gs : List Int} (h : bs.map KBw.bInts = gs.map oct4) : (bs.map Array.size).sum = 4 * gs.length := by
  have e2 : bs.map Array.size = (bs.map KBw.bInts).map List.length := by
    rw [List.map_map]
    exact List.map_congr_left fun b _ => (KBw.ints_length b).symm
  rw [e2, h, List.map_map]
  exact sum_oct4 gs
end Mine
end
section
open PySem PySem.W PyProof.Rows PySem.Spec PySem.Calls PySem.SeqAt
set_option maxRecDepth 100000
namespace Mine
theorem TupsAre.sub {news news' : List (Addr × Obj)} {tvs : List Value} {gss : List (List Int)} (T : TupsAre news tvs gss) (hs : ∀ q ∈ news, q ∈ news') : TupsAre news' tvs gss :=
  ⟨T.1, fun i v g h1 h2 => by
    obtain ⟨tt, vs, a1, a2, a3⟩ := T.2 i v g h1 h2
    exact ⟨tt, vs, a1, hs _ a2, a3⟩⟩
def dG (gss : List (List Int)) : PyData := .list (gss.map fun g => .tuple (g.map .int))
theorem dG_lay : ∀ gss : List (List Int), PyData.canLayAll0 (gss.map fun g => PyData.tuple (g.map .int)) = true
  | [] => rfl
  | g :: r => by simp [PyData.canLayAll0, PyData.canLay0, ke_canLayAll0, dG_lay r]
theorem dG_depth : ∀ gss : List (List Int), PyData.depthAll (gss.map fun g => PyData.tuple (g.map .int)) ≤ 1
  | [] => by simp [PyData.depthAll]
  | g :: r => by
    have := dG_depth r
    simp only [List.map_cons, PyData.depthAll, PyData.depth, ke_depthAll]
    omega
theorem dG_shaped (gss : List (List Int)) : SeqAt.shaped (dG gss) = true := by
  have h1 := dG_lay gss
  have h2 := dG_depth gss
  unfold SeqAt.shaped dG
  rw [Bool.and_eq_true]
  refine ⟨by simp only [PyData.canLay0]; exact h1, decide_eq_true ?_⟩
  simp only [PyData.depth]
  omega
theorem dG_self (gss : List (List Int)) : PyData.eqv (dG gss) (dG gss) = true := PySem.SeqAt.eqv_refl _ (SeqAt.canLay_of_shaped (dG_shaped gss))
section
variable {h : Heap} {h₀ : Heap} {L : Addr} {news : List (Addr × Obj)}
theorem reads_ints : ∀ {vs : List Value} {g : List Int}, IntsAre vs g → ReadsAll h vs (g.map .int) []
  | _, _, .nil => .nil
  | _, _, .cons _ t r => .cons (as := []) (.int _ t) (reads_ints r)
theorem reads_tups (N : News h₀ L h news) : ∀ {tvs : List Value} {gss : List (List Int)}, TupsAre news tvs gss → ReadsAll h tvs (gss.map fun g => PyData.tuple (g.map .int)) []
  | [], [], _ => .nil
  | [], _ :: _, T => by have := T.1; simp at this
  | _ :: _, [], T => by have := T.1; simp at this
  | v :: r, g :: q, T => by
    obtain ⟨tt, vs, rfl, hm, hi⟩ := T.2 0 v g rfl rfl
    refine .cons (as := []) (bs := []) (.tuple (N _ hm).1 rfl rfl (by simpa using reads_ints hi)) (reads_tups N ⟨by have := T.1; simpa using this, fun i v' g' h1 h2 => T.2 (i + 1) v' g' (by simpa using h1) (by simpa using h2)⟩)
theorem reads_told {r : Addr} {tvs : List Value} {k : Nat} {gss : List (List Int)} (N : News h₀ L h news) (hm : (r, listOf tvs.toArray k) ∈ news) (T : TupsAre news tvs gss) : Reads h (.ref r) (dG gss) [r] :=
  .list (N _ hm).1 rfl rfl (by simpa using reads_tups N T)
end
section
variable {prog : Program} {w : World} {A : Around} {E : Value → Shared → Prop} {s : Shared} {h₀ : Heap} {L : Addr} {news : List (Addr × Obj)}
theorem ne_told {a b : Addr} {tvs uvs : List Value} {k k' : Nat} {gss : List (List Int)} {Q : Value → Shared → Prop} (N : News h₀ L s.heap news) (ha : (a, listOf tvs.toArray k) ∈ news) (hb : (b, listOf uvs.toArray k') ∈ news) (Ta : TupsAre news tvs gss) (Tb : TupsAre news uvs gss) (hu : A.units + 64 < cLine)
    (h : Q (.bool false) s) : wpAny (model prog w) A (compareOp .NotEq (.ref a) (.ref b)) Q E s :=
  ne_dataH (reads_told N ha Ta) (reads_told N hb Tb) (dG_shaped gss) (dG_shaped gss) hu (by rw [dG_self]; exact h)
end
theorem DueAre.sub {news news' : List (Addr × Obj)} {dvs : List Value} {gss : List (List Int)} (T : DueAre news dvs gss) (hs : ∀ q ∈ news, q ∈ news') : DueAre news' dvs gss :=
  ⟨T.1, fun i v g h1 h2 => by
    obtain ⟨l, vs, k, a1, a2, a3⟩ := T.2 i v g h1 h2
    exact ⟨l, vs, k, a1, hs _ a2, a3⟩⟩
def dD (gss : List (List Int)) : PyData := .list (gss.map fun g => .list (g.map .int))
theorem dD_lay : ∀ gss : List (List Int), PyData.canLayAll0 (gss.map fun g => PyData.list (g.map .int)) = true
  | [] => rfl
  | g :: r => by simp [PyData.canLayAll0, PyData.canLay0, ke_canLayAll0, dD_lay r]
theorem dD_depth : ∀ gss : List (List Int), PyData.depthAll (gss.map fun g => PyData.list (g.map .int)) ≤ 1
  | [] => by simp [PyData.depthAll]
  | g :: r => by
    have := dD_depth r
    simp only [List.map_cons, PyData.depthAll, PyData.depth, ke_depthAll]
    omega
theorem dD_shaped (gss : List (List Int)) : SeqAt.shaped (dD gss) = true := by
  have h1 := dD_lay gss
  have h2 := dD_depth gss
  unfold SeqAt.shaped dD
  rw [Bool.and_eq_true]
  refine ⟨by simp only [PyData.canLay0]; exact h1, decide_eq_true ?_⟩
  simp only [PyData.depth]
  omega
theorem dD_empty (gss : List (List Int)) : PyData.eqv (dD gss) (dD []) = gss.isEmpty := by
  cases gss <;> simp [dD, PyData.eqv, PyData.eqvAll]
section
variable {h : Heap} {h₀ : Heap} {L : Addr} {news : List (Addr × Obj)}
theorem reads_lists (N : News h₀ L h news) : ∀ {dvs : List Value} {gss : List (List Int)}, DueAre news dvs gss → ∃ as, ReadsAll h dvs (gss.map fun g => PyData.list (g.map .int)) as
  | [], [], _ => ⟨_, .nil⟩
  | [], _ :: _, T => by have := T.1; simp at this
  | _ :: _, [], T => by have := T.1; simp at this
  | v :: r, g :: q, T => by
    obtain ⟨l, vs, k, rfl, hm, hi⟩ := T.2 0 v g rfl rfl
    obtain ⟨as, ha⟩ := reads_lists N (dvs := r) (gss := q) ⟨by have := T.1; simpa using this, fun i v' g' h1 h2 => T.2 (i + 1) v' g' (by simpa using h1) (by simpa using h2)⟩
    exact ⟨_, .cons (.list (N _ hm).1 rfl rfl (by simpa using reads_ints hi)) ha⟩
end
section
variable {prog : Program} {w : World} {A : Around} {E : Value → Shared → Prop} {s : Shared} {h₀ : Heap} {L : Addr} {news : List (Addr × Obj)}
theorem due_empty {a b : Addr} {dvs : List Value} {k k' : Nat} {gss : List (List Int)} {Q : Value → Shared → Prop} (N : News h₀ L s.heap news) (ha : (a, listOf dvs.toArray k) ∈ news) (hb : (b, listOf (#[] : Array Value) k') ∈ news) (D : DueAre news dvs gss) (hu : A.units + 64 < cLine)
    (h : Q (.bool gss.isEmpty) s) : wpAny (model prog w) A (compareOp .Eq (.ref a) (.ref b)) Q E s := by
  obtain ⟨as, hr⟩ := reads_lists N D
  exact eq_dataH (.list (N _ ha).1 rfl rfl (by simpa using hr)) (db := dD []) (.list (N _ hb).1 rfl rfl (by simpa using .nil)) (dD_shaped gss) (dD_shaped []) hu (by show Q (.bool (PyData.eqv (dD gss) (dD []))) s; rw [dD_empty]; exact h)
end
theorem clip_last {n : Nat} (h : 0 < n) : clipAt n (-1) = n - 1 := by
  unfold clipAt
  split <;> omega
theorem cut_sets {cnt : Int} {fl i a : Nat} {os : List Int} {gss : List (List Int)} {bl : List Int} (Bt : Built cnt fl i os gss bl)
    (hset : ∀ (j : Nat) (o : Int) (g : List Int), os[j]? = some o → gss[j]? = some g → (o = 0 → g = []) ∧ (o ≠ 0 → SetAt (dataOf a os bl) (a + o) g))
    (hfit : ∀ (j : Nat) (o : Int) (g : List Int), os[j]? = some o → gss[j]? = some g → o ≠ 0 → (a : Int) + o + 4 + 2 * (g.length : Int) ≤ (dataOf a os bl).length) :
    ∀ (j : Nat) (o : Int) (g : List Int), os[j]? = some o → gss[j]? = some g → (o = 0 → g = []) ∧ (o ≠ 0 → SetAt (List.take ((dataOf a os bl).length - 1) (dataOf a os bl)) (a + o) g) := fun j o g ho hg => by
  refine ⟨(hset j o g ho hg).1, fun hz => ?_⟩
  have h1 := hfit j o g ho hg hz
  have h2 : 1 ≤ g.length := by
    rcases Bt.each j o g ho hg with ⟨h, _⟩ | ⟨G, _⟩
    · exact absurd h hz
    · exact G.some
  exact ((hset j o g ho hg).2 hz).cut (by omega) (by omega) (by omega)
end Mine
end
section
open PySem PySem.W PyProof.Rows PySem.Spec PySem.Calls
set_option maxRecDepth 100000
namespace Mine
theorem kw_L7 : True := by
  w_top off
  k_with_none
  trivial
theorem kw_L7_0 : True := by
  k_with "k_all" => first | assumption | exact allne_lt (by assumption) | exact allne_of (by assumption) | exact allne_of (And.right (by assumption)) | exact allne_of (And.right (And.right (by assumption))) | exact allne_of (And.right (And.right (And.right (by assumption)))) | exact allne_of (And.right (And.right (And.right (And.right (by assumption))))) | exact allne_of (And.right (And.right (And.right (And.right (And.right (by assumption)))))) | exact allne_of (And.right (And.right (And.right (And.right (And.right (And.right (by assumption))))))) | exact allne_of (And.right (And.right (And.right (And.right (And.right (And.right (And.right (by assumption)))))))) | exact allne_of (And.right (And.right (And.right (And.right (And.right (And.right (And.right (And.right (by assumption))))))))) | exact allne_of (And.right (And.right (And.right (And.right (And.right (And.right (And.right (And.right (And.right (by assumption)))))))))) | exact allne_of (And.right (And.right (And.right (And.right (And.right (And.right (And.right (And.right (And.right (And.right (by assumption))))))))))) | exact allne_of (And.right (And.right (And.right (And.right (And.right (And.right (And.right (And.right (And.right (And.right (And.right (by assumption)))))))))))) | exact allne_of (And.right (And.right (And.right (And.right (And.right (And.right (And.right (And.right (And.right (And.right (And.right (And.right (by assumption))))))))))))) | exact allne_of (And.right (And.right (And.right (And.right (And.right (And.right (And.right (And.right (And.right (And.right (And.right (And.right (And.right (by assumption)))))))))))))) | exact alllt_trans (by assumption) (by first | assumption | (refine ltN ?_; omega))
  trivial
theorem kw_L7_1 : True := by
  k_with "exec Raise some none" => (k_here; k_dflt (refine' exc_raise ?hh ?_; (case hh => rfl)))
  trivial
section
variable {h₀ : Heap} {L : Addr}
theorem addr4 {a b c d : Addr} {o1 o2 o3 o4 : Obj} {hp : Heap} (_N : News h₀ L hp [(a, o1), (b, o2), (c, o3), (d, o4)]) : ∃ a' b' c' d' : Addr, a' = a ∧ b' = b ∧ c' = c ∧ d' = d := ⟨a, b, c, d, rfl, rfl, rfl, rfl⟩
theorem ints_names {vs : List Value} {ns : List Int} (_h : IntsAre vs ns) : ∃ vs' ns', vs' = vs ∧ ns' = ns := ⟨vs, ns, rfl, rfl⟩
theorem mem1 {a p : Addr × Obj} {l : List (Addr × Obj)} (h : p ∈ [a]) : p ∈ a :: l := by
  rcases List.mem_cons.mp h with rfl | h
  · exact .head _
  · cases h
theorem le_name {a b : Int} (_h : a ≤ b) : ∃ q : Int, q = a := ⟨a, rfl⟩
end
section
variable {M : Model} {A : Around} {E : Value → Shared → Prop} {s : Shared} {h₀ : Heap} {L : Addr} {m : Str → Option Value} {Q : Value → Shared → Prop} {news : List (Addr × Obj)} {tr : Sem Value}
def CutA (h₀ : Heap) (L : Addr) (m : Str → Option Value) (news : List (Addr × Obj)) (s : Shared) (v : Value) (s' : Shared) : Prop :=
  ∃ c cells ec ns2 h' k', v = .ref c ∧ s' = { s with heap := h', toks := k' } ∧ Fr h₀ L h' m ∧ News h₀ L h' ((c, listOf (List.toArray cells) ec) :: news) ∧ IntsAre cells ns2 ∧ 0 < ns2.length ∧ ns2.length ≤ 40
theorem cutA (F : Fr h₀ L s.heap m) (N : News h₀ L s.heap news) (h : wpAny M A tr (CutA h₀ L m news s) E s)
    (k : ∀ c cells ec ns2 h' k', Fr h₀ L h' m → News h₀ L h' ((c, listOf (List.toArray cells) ec) :: news) → IntsAre cells ns2 → 0 < ns2.length → ns2.length ≤ 40 → Q (.ref c) { s with heap := h', toks := k' }) : wpAny M A tr Q E s :=
  wpAny_mono h (fun v s' q => by
    obtain ⟨c, cells, ec, ns2, h', k', rfl, rfl, x1, x2, x3, x4, x5⟩ := q
    exact k c cells ec ns2 h' k' x1 x2 x3 x4 x5) fun _ _ e => e
def CutB (h₀ : Heap) (L : Addr) (m : Str → Option Value) (t c : Addr) (p : Int) (et : Nat) (rest : List (Addr × Obj)) (s : Shared) (v : Value) (s' : Shared) : Prop :=
  ∃ fl tf tk h' k', v = .int fl tf ∧ 0 ≤ fl ∧ fl ≤ 70000 ∧ s' = { s with heap := h', toks := k' } ∧ Fr h₀ L h' m ∧ News h₀ L h' ((t, listOf [.ref c, .int (p + 1) tk].toArray et) :: rest)
theorem cutB {t c : Addr} {p : Int} {et : Nat} {tk : Tok} {rest : List (Addr × Obj)} (F : Fr h₀ L s.heap m) (_N : News h₀ L s.heap ((t, listOf [.ref c, .int p tk].toArray et) :: rest)) (h : wpAny M A tr (CutB h₀ L m t c p et rest s) E s)
    (k : ∀ fl tf tk h' k', 0 ≤ fl → fl ≤ 70000 → Fr h₀ L h' m → News h₀ L h' ((t, listOf [.ref c, .int (p + 1) tk].toArray et) :: rest) → Q (.int fl tf) { s with heap := h', toks := k' }) : wpAny M A tr Q E s :=
  wpAny_mono h (fun v s' q => by
    obtain ⟨fl, tf, tk, h', k', rfl, x1, x2, rfl, x3, x4⟩ := q
    exact k fl tf tk h' k' x1 x2 x3 x4) fun _ _ e => e
end
section
variable {M : Model} {A : Around} {E : Value → Shared → Prop} {s : Shared} {h₀ : Heap} {L : Addr} {m : Str → Option Value} {Q : Bool → Shared → Prop} {news : List (Addr × Obj)} {tr : Sem Bool} {P : Prop}
def CndMark : Prop := True
theorem cndMark : CndMark := trivial
def CutC (h₀ : Heap) (L : Addr) (m : Str → Option Value) (news : List (Addr × Obj)) (P : Prop) (s : Shared) (c : Bool) (s' : Shared) : Prop :=
  ∃ h' k', s' = { s with heap := h', toks := k' } ∧ Fr h₀ L h' m ∧ News h₀ L h' news ∧ (c = true → P)
theorem cutC (_F : Fr h₀ L s.heap m) (_N : News h₀ L s.heap news) (h : wpAny M A tr (CutC h₀ L m news P s) E s)
    (kt : P → ∀ h' k', Fr h₀ L h' m → News h₀ L h' news → Q true { s with heap := h', toks := k' })
    (kf : ∀ h' k', Fr h₀ L h' m → News h₀ L h' news → Q false { s with heap := h', toks := k' }) : wpAny M A tr Q E s :=
  wpAny_mono h (fun c s' q => by
    obtain ⟨h', k', rfl, x1, x2, x3⟩ := q
    cases c
    · exact kf h' k' x1 x2
    · exact kt (x3 rfl) h' k' x1 x2) fun _ _ e => e
end
theorem kw_L7_2 : True := by
  k_with "isTrue BoolOp" => ((rename CndMark => mk9); (with_reducible show wpAny _ _ (PySem.isTrue (Expr.BoolOp BoolOp.And _ _) _ _) _ _ _); refine hold ?_)
  k_with "CutC" => refine hold ?_
  k_with "call ref" => (k_here; (with_reducible show wpAny _ _ (call (Value.ref 263) _) _ _ _); refine hold ?_)
  k_with "call ref" => (k_here; (with_reducible show wpAny _ _ (call (Value.ref 270) _) _ _ _); refine hold ?_)
  k_with "call ref" => (k_here; (with_reducible show wpAny _ _ (call (Value.ref 275) _) _ _ _); refine hold ?_)
  k_with "call ref" => (k_here; (with_reducible show wpAny _ _ (call (Value.ref 280) _) _ _ _); refine hold ?_)
  k_with "call ref" => (k_here; (with_reducible show wpAny _ _ (call (Value.ref 285) _) _ _ _); refine hold ?_)
  k_with "call ref" => (k_here; (with_reducible show wpAny _ _ (call (Value.ref 263) _) _ _ _); k_dflt (refine' draw_v ?k1 ?k2 ?k3 ?k4 ?kK ?kd ?ku ?k5 ?k6 ?k7 ?k8 ?k9 ?k10 ?k11 ?k12 ?k13 (by decide) (by decide) ?_; (case k1 => k_asm); (case k2 => k_asm); (case k3 => k_asm); (case k4 => k_asm); (case kK => first | exact rfl | assumption); (case kd => ktr_room); (case ku => ktr_units); (case k5 => k_asm); (case k7 => k_updF); (case k6 => k_mem); (case k8 => first | assumption | k_ne); (case k9 => assumption); (case k10 => assumption); (case k11 => assumption); (case k12 => omega); (case k13 => omega)); (intro dlo dhi tr tk' h' k' F' N'; (try dsimp only at N')))
  k_with "call ref" => (k_here; (with_reducible show wpAny _ _ (call (Value.ref 270) _) _ _ _); k_dflt (refine' u16b_c ?k1 ?k2 ?k3 ?k4 ?kK ?kd ?ku ?k5 ?k6 ?k7 ?_; (case k1 => k_asm); (case k2 => k_asm); (case k3 => k_asm); (case k4 => k_asm); (case kK => first | exact rfl | assumption); (case kd => ktr_room); (case ku => ktr_units); (case k5 => k_asm); (case k6 => omega); (case k7 => omega)); (intro b9 tr hb9 h' k' F' N'))
  k_with "getMethod bytes" => (k_here; (with_reducible show wpAny _ _ (getMethod (Value.bytes _ _) (Str.ofString "join") _) _ _ _); refine join_method ?_)
  k_with "call builtin:bytes.join" => refine hold ?_
  k_with "k_mem" => assumption
  k_with "call builtin:len" => (k_here; (with_reducible show wpAny _ _ (call (Value.builtin "len") [Value.ref _]) _ _ _); k_dflt (refine' len_ints_fit ?k1 ?k2 ?k3 ?_; (case k1 => exact News.isList (by k_asm) (by k_mem)); (case k2 => assumption); (case k3 => omega)))
  k_with "binaryOp Add bytes bytes" => (k_here; (with_reducible show wpAny _ _ (binaryOp Operator.Add (Value.bytes _ _) (Value.bytes _ _)) _ _ _); k_dflt (refine' KBa.add_K ?k1 ?k2 ?k3 ?_; (case k1 => assumption); (case k2 => assumption); (case k3 => ((try simp only [List.length_append, oct2_len, flat_len, flat4_len, List.length_replicate, List.length_take, List.length_drop]); omega))); (intro t9 k9 hb9))
  k_with "CompSrc" => refine hold ?_
  k_with "CompEnd" => refine hold ?_
  k_with "call builtin:bytes.join" => refine hold ?_
  k_with "call type:tuple" => refine hold ?_
  k_with "compareOp Eq ref ref" => ((rename KstMark => mk9); refine hold ?_)
  k_with "compareOp NotEq ref ref" => ((rename KstMark => mk9); refine hold ?_)
  k_with "FinE" => refine hold ?_
  k_with "eval ListComp" => (k_here; k_dflt (refine LCg.ListComp_U (F₀ := by k_asm) (by with_unfolding_all rfl) (by decide) (by rfl) (by decide) (by rfl) ?_))
  k_with "eval BoolOp" => ((with_reducible show wpAny _ _ (eval (Expr.BoolOp BoolOp.Or (_ :: Expr.List _ _ :: _) _) _) (fun _ _ => _) _ _); (rename Fr _ _ _ _ => F9); (rename News _ _ _ _ => N9); k_dflt (refine' cutA F9 N9 ?ka ?kb); (case' ka => refine hold ?_); (case' kb => (clear F9 N9; intro c cells ec ns2 h2 k2 F8 N8 hcI hc0 hc1)))
  k_with "eval Subscript" => ((with_reducible show wpAny _ _ (eval (Expr.Subscript (Expr.Tuple _ _ _) _ _) _) (fun _ _ => _) _ _); (rename Fr _ _ _ _ => F9); (rename News _ _ _ _ => N9); k_dflt (refine' cutB F9 N9 ?cua ?cub); (case' cua => refine hold ?_); (case' cub => (clear F9 N9; intro fl tf tk9 h2 k2 hfl0 hfl1 F8 N8)))
  k_with "call type:bytes" => (k_here; (with_reducible show wpAny _ _ (call (Value.type "bytes") [Value.int _ _]) _ _ _); k_dflt (refine bytes_int (by omega) (by omega) ?_); intro b9 t9 k9 hb9)
  k_with "CutB" => refine hold ?_
  k_with "call ref" => (k_here; (with_reducible show wpAny _ _ (call (Value.ref 275) _) _ _ _); k_dflt (refine' set_g ?k1 ?k2 ?k3 ?k4 ?kK ?kd ?ku ?k5 ?k6 ?k7 ?k8 ?k9 ?k10 ?k11 ?k12 ?k13 ?_; (case k1 => k_asm); (case k2 => k_asm); (case k3 => k_asm); (case k4 => k_asm); (case kK => first | exact rfl | assumption); (case kd => ktr_room); (case ku => ktr_units); (case k5 => k_asm); (case k7 => k_updF); (case k6 => k_mem); (case k8 => first | assumption | k_ne); (case k9 => assumption); (case k10 => assumption); (case k11 => assumption); (case k12 => omega); (case k13 => omega)); (intro r9 k9 vs9 tk' h' k' F' hI9 N' l9; (try dsimp only at N'); (have l99 := allNe_of l9); (simp only [AllNeN] at l99)))
  k_with "call ref" => (k_here; (with_reducible show wpAny _ _ (call (Value.ref 280) _) _ _ _); k_dflt (refine' octets_v ?k1 ?k2 ?k3 ?k4 ?kK ?kd ?ku ?k5 ?k6 ?k7 ?k8 ?_; (case k1 => k_asm); (case k2 => k_asm); (case k3 => k_asm); (case k4 => k_asm); (case kK => first | exact rfl | assumption); (case kd => ktr_room); (case ku => ktr_units); (case k5 => k_asm); (case k6 => k_mem); (case k7 => assumption); (case k8 => first | assumption | exact good_draw _ _ _)); (intro b9 tr hb9 hol9 h' k' F' N'))
  k_with "subscriptTail Name UnaryOp ref int" => (k_here; (with_reducible show wpAny _ _ (subscriptTail _ _ (Value.ref _) (Value.int _ _)) _ _ _); k_dflt (refine' item_last ?k1 ?k2 ?_; (case k1 => exact News.isList (by k_asm) (by k_mem)); (case k2 => assumption)))
  k_with "UnrEnd" => refine hold ?_
  k_with "call type:range" => ((rename Fr _ _ _ _ => F'); (rename News _ _ _ _ => N'); (with_unfolding_all refine range1_rows F' N' ?_; intro _ _ _ _ _ _ _ _ _))
  k_with "pyIter ref" => refine hold ?_
  k_with "CutA" => refine hold ?_
  k_with "Hold" => fail "held"
  trivial
local macro_rules | `(tactic| k_head) => `(tactic| o_head (kHook KF (nat_lit 2 :: nat_lit 3 :: nat_lit 25 :: nat_lit 30 :: nat_lit 31 :: nat_lit 37 :: nat_lit 38 :: nat_lit 47 :: nat_lit 48 :: nat_lit 60 :: nat_lit 61 :: nat_lit 69 :: nat_lit 70 :: nat_lit 76 :: nat_lit 77 :: nat_lit 85 :: nat_lit 91 :: nat_lit 92 :: nat_lit 105 :: nat_lit 106 :: nat_lit 119 :: nat_lit 120 :: nat_lit 140 :: nat_lit 141 :: nat_lit 164 :: nat_lit 165 :: nat_lit 182 :: nat_lit 183 :: nat_lit 203 :: nat_lit 204 :: nat_lit 206 :: nat_lit 207 :: nat_lit 217 :: nat_lit 218 :: nat_lit 224 :: nat_lit 225 :: nat_lit 245 :: nat_lit 246 :: nat_lit 250 :: nat_lit 251 :: nat_lit 255 :: nat_lit 256 :: nat_lit 262 :: nat_lit 263 :: nat_lit 269 :: nat_lit 270 :: nat_lit 274 :: nat_lit 275 :: nat_lit 279 :: nat_lit 280 :: nat_lit 284 :: nat_lit 285 :: nat_lit 289 :: nat_lit 290 :: []) (fun _ => by kernel_rfl)))
-- the names that the twins of the heap and of the trees (heap_1_354 ..) would bear: taken, so that these large equations are not laid (they are not needed)
theorem main.tw4143802882218736350 : True := trivial
theorem main.tw17665120845849184447 : True := trivial
theorem main.tw2879834049476664738 : True := trivial
theorem main.tw10320057750957387291 : True := trivial
theorem main.tw9227236948143457391 : True := trivial
theorem main.tw12113315764499514685 : True := trivial
theorem main.tw9006321595064636914 : True := trivial
theorem main.tw3570300971023340979 : True := trivial
set_option Elab.async true
set_option maxHeartbeats 80000000 in
theorem main : PySem.Challenge.rw_pb0181_01.Holds := by
  w_on
  o_law
  k_head
  (case hw => w_witness2)
  w_top off
  k_go0
  rename Below _ _ _ _ => K9
  rename Shared => s1
  have K8 : Below _ s1.heap [] s1.heap := K9
  clear K9
  obtain ⟨hp1, g1, d1, k1, o1⟩ := s1
  dsimp only at *
  refine cutE (cutQ fun Q0 hQ0 => ?_)
  k_steps
  · unfold Hold
    rename Fr _ _ _ _ => F9
    rename News _ _ _ _ => N9
    rename IsRange _ _ _ _ _ _ _ _ => hr9
    rename IntsAre _ _ => hcI
    dsimp only at F9
    obtain ⟨cells, ns2, e1, e2⟩ := ints_names hcI
    subst e1 e2
    obtain ⟨of, du, tt, cc, e1, e2, e3, e4⟩ := addr4 N9
    subst e1 e2 e3 e4
    rename _ = List.replicate _ _ => hbody
    rename _ ≤ (70000 : Int) => hfl1
    generalize hcnt : drawv ns2 (0 + 1) 5 = cnt at *
    obtain ⟨fl, e1⟩ := le_name hfl1
    subst e1
    obtain ⟨n, rfl⟩ : ∃ n : Nat, cnt = n := ⟨cnt.toNat, by omega⟩
    refine iter_rangeB (n := n) [Str.ofString "way", Str.ofString "glyphs"] (Str.ofString "body") (BuiltAt of du tt cc cells n fl.toNat) rfl hr9 (small_one (by omega) (by omega) (by omega) (by omega)) ((rangeSize_nat _ _).trans (by omega)) F9 N9 rfl
      ⟨_, _, _, _, _, [], 0, [], 0, [], [], [], _, _, rfl, ⟨hbody, rfl, .nil, ⟨rfl, fun j v g h => by simp at h⟩, fun q hq => by (cases hq), by decide, by decide, Built.zero rfl⟩⟩ ?_ ?_
    · intro i u vb nx I it t h tk hi hR hoff F8 N8
      refine cutQ fun Q1 hQ1 => ?_
      obtain ⟨b, tb, p, tk9, et, ovs, ko, dvs, kd, more, os, gss, bl, ec, rfl, Lp⟩ := hR
      have hnx := Lp.hnx
      subst hnx
      have hbl := Lp.hbl
      have hos := Lp.hos
      have hdu := Lp.hdu
      have hp0 := Lp.p0
      have hp1 := Lp.p1
      have Bt := Lp.bt
      have o1 := neN (hoff _ (.head _))
      have o2 := neN (hoff _ (.tail _ (.head _)))
      have o3 := neN (hoff _ (.tail _ (.tail _ (.head _))))
      have o4 := neN (hoff _ (.tail _ (.tail _ (.tail _ (.head _)))))
      have o5 : ∀ q ∈ more, q.1 ≠ I := fun q hq => hoff q (.tail _ (.tail _ (.tail _ (.tail _ hq))))
      have m1 : ∀ q ∈ more, q.1 ≠ of := fun q hq => (Lp.off q hq).1
      have m2 : ∀ q ∈ more, q.1 ≠ du := fun q hq => (Lp.off q hq).2.1
      have m3 : ∀ q ∈ more, q.1 ≠ tt := fun q hq => (Lp.off q hq).2.2
      have hbl1 : bl.length ≤ 70040 := by have := Bt.few; omega
      clear F9 N9
      have hlo := Bt.lo
      have hlg := Bt.lg
      have hlv := hos.length
      have hld := hdu.1
      have cmk : CndMark := cndMark
      k_steps
      · refine hQ1 _ _ ?_
        k_steps
        unfold Hold
        rename Fr _ _ _ _ => F7
        rename News _ _ _ _ => N7
        k_dflt (refine' loop_end Lp F7 N7 ?h0 ?h1 ?h2 ?h3 ?h4 ?h5 ?h6 hoff ?x1 ?x2 ?x3 ?x4 ?_ rfl hbl .nil ?p0 ?p1 (Bt.none (by omega)); (case h0 => k_mem); (case h1 => k_mem); (case h2 => k_mem); (case h3 => k_mem); (case h4 => k_mem); (case h5 => k_mem); (case h6 => (intro p hp; repeat (first | exact hp | refine List.Mem.tail _ ?_))); (case x1 => k_ne); (case x2 => k_ne); (case x3 => k_ne); (case x4 => k_ne); (case p0 => omega); (case p1 => omega))
        intro y h1 h2 h3
        have h4 : y ≠ Str.ofString "way" := by intro z; subst z; revert h3; decide
        simp only [if_neg h1, if_neg h2, if_neg h4, h3, Bool.false_eq_true, if_false]
      · unfold Hold
        rename CndMark => cm1
        clear cm1
        rename Fr _ _ _ _ => F9
        rename News _ _ _ _ => N9
        refine cutC (P := ∃ o, os.getLast? = some o ∧ 0 < o) F9 N9 ?_ ?_ ?_
        · rcases Nat.eq_zero_or_pos i with hi0 | hi0
          · have e1 : os = [] := List.length_eq_zero_iff.mp (Bt.lo.trans hi0)
            subst e1
            have e3 := hos.nil_inv
            subst e3
            k_steps
            all_goals (
              unfold Hold
              rename Fr _ _ _ _ => F7
              rename News _ _ _ _ => N7
              exact ⟨_, _, rfl, F7, fun q hq => N7 q (by repeat (first | exact hq | refine List.Mem.tail _ ?_)), fun hc => by cases hc⟩)
          · obtain ⟨i', rfl⟩ : ∃ i', i = i' + 1 := ⟨i - 1, by omega⟩
            have hlo := Bt.lo
            have hlv := hos.length
            obtain ⟨o, ho⟩ : ∃ o, os.getLast? = some o := by rw [getLast?_at hlo]; exact ⟨_, List.getElem?_eq_getElem (by omega)⟩
            obtain ⟨ov, hov⟩ : ∃ ov, ovs.getLast? = some ov := by rw [getLast?_at (hlv.trans hlo)]; exact ⟨_, List.getElem?_eq_getElem (by omega)⟩
            have ho' := ho
            have hov' := hov
            rw [getLast?_at hlo] at ho'
            rw [getLast?_at (hlv.trans hlo)] at hov'
            obtain ⟨o2', to, rfl, ho2⟩ := hos.at i' ov hov'
            rw [ho'] at ho2
            cases ho2
            k_steps
            all_goals (
              unfold Hold
              rename Fr _ _ _ _ => F7
              rename News _ _ _ _ => N7
              first
                | exact ⟨_, _, rfl, F7, fun q hq => N7 q (by repeat (first | exact hq | refine List.Mem.tail _ ?_)), fun _ => ⟨o, ho, by omega⟩⟩
                | exact ⟨_, _, rfl, F7, fun q hq => N7 q (by repeat (first | exact hq | refine List.Mem.tail _ ?_)), fun hc => by cases hc⟩)
        · intro hP h' k' F7 N7
          clear F9 N9
          obtain ⟨o, ho, hpos⟩ := hP
          have hi0 : os.length ≠ 0 := fun h0 => by rw [List.length_eq_zero_iff.mp h0] at ho; cases ho
          obtain ⟨i', rfl⟩ : ∃ i', i = i' + 1 := ⟨i - 1, by omega⟩
          obtain ⟨g, hg⟩ : ∃ g, gss.getLast? = some g := by rw [getLast?_at hlg]; exact ⟨_, List.getElem?_eq_getElem (by omega)⟩
          obtain ⟨dv, hd⟩ : ∃ dv, dvs.getLast? = some dv := by rw [getLast?_at (hld.trans hlg)]; exact ⟨_, List.getElem?_eq_getElem (by omega)⟩
          obtain ⟨ov, hov⟩ : ∃ ov, ovs.getLast? = some ov := by rw [getLast?_at (hlv.trans hlo)]; exact ⟨_, List.getElem?_eq_getElem (by omega)⟩
          have ho' := ho
          have hg' := hg
          have hd' := hd
          have hov' := hov
          rw [getLast?_at hlo] at ho'
          rw [getLast?_at hlg] at hg'
          rw [getLast?_at (hld.trans hlg)] at hd'
          rw [getLast?_at (hlv.trans hlo)] at hov'
          obtain ⟨o2', to, rfl, ho2⟩ := hos.at i' ov hov'
          rw [ho'] at ho2
          cases ho2
          obtain ⟨lx, vx, kx, rfl, hlx, hvx⟩ := hdu.2 i' dv g hd' hg'
          k_steps
          refine hQ1 _ _ ?_
          k_steps
          unfold Hold
          rename Fr _ _ _ _ => F7
          rename News _ _ _ _ => N7
          k_dflt (refine' loop_end Lp F7 N7 ?h0 ?h1 ?h2 ?h3 ?h4 ?h5 ?h6 hoff (o5 _ hlx) (m1 _ hlx) (m2 _ hlx) (m3 _ hlx) ?_ rfl hbl hvx ?p0 ?p1 (Bt.again ho hg ?pos); (case h0 => k_mem); (case h1 => k_mem); (case h2 => k_mem); (case h3 => k_mem); (case h4 => k_mem); (case h5 => k_mem); (case h6 => (intro p hp; repeat (first | exact hp | refine List.Mem.tail _ ?_))); (case p0 => omega); (case p1 => omega); (case pos => omega))
          intro y h1 h2 h3
          have h4 : y ≠ Str.ofString "way" := by intro z; subst z; revert h3; decide
          simp only [if_neg h1, if_neg h2, if_neg h4, h3, Bool.false_eq_true, if_false]
        · intro h' k' F7 N7
          clear F9 N9
          k_steps
          refine hQ1 _ _ ?_
          k_steps
          unfold Hold
          rename Fr _ _ _ _ => F7
          rename News _ _ _ _ => N7
          rename IntsAre _ _ => hI9
          rename KBw.bInts _ = _ ++ _ => hb8
          rename (_ ≠ _ ∧ _ ) => l99
          k_dflt (refine' loop_end Lp F7 N7 ?h0 ?h1 ?h2 ?h3 ?h4 ?h5 ?h6 hoff ?x1 ?x2 ?x3 ?x4 ?_ rfl hb8 hI9 ?p0 ?p1 (Bt.more (by omega) (good_draw _ _ _)); (case h0 => k_mem); (case h1 => k_mem); (case h2 => k_mem); (case h3 => k_mem); (case h4 => k_mem); (case h5 => k_mem); (case h6 => (intro p hp; repeat (first | exact hp | refine List.Mem.tail _ ?_))); (case x1 => k_ne); (case x2 => k_ne); (case x3 => k_ne); (case x4 => k_ne); (case p0 => omega); (case p1 => omega))
          intro y h1 h2 h3
          have h4 : y ≠ Str.ofString "way" := by intro z; subst z; revert h3; decide
          have h5 : y ≠ Str.ofString "glyphs" := by intro z; subst z; revert h3; decide
          simp only [if_neg h1, if_neg h2, if_neg h4, if_neg h5, h3, Bool.false_eq_true, if_false]
    · intro u vb nx h tk hR F8 N8
      obtain ⟨b, tb, p, tk9, et, ovs, ko, dvs, kd, more, os, gss, bl, ec, rfl, Lp⟩ := hR
      have hnx := Lp.hnx
      subst hnx
      have hbl := Lp.hbl
      have hos := Lp.hos
      have hdu := Lp.hdu
      have Bt := Lp.bt
      have hlo := Bt.lo
      have hlg := Bt.lg
      have hbl1 : bl.length ≤ 70040 := by have := Bt.few; omega
      have hlv := hos.length
      clear F9 N9
      k_steps
      unfold Hold
      rename Fr _ _ _ _ => F9
      rename News _ _ _ _ => N9
      have hmof : (of, listOf ovs.toArray ko) ∈ (of, listOf (List.toArray ovs) ko) :: (du, listOf (List.toArray dvs) kd) :: (tt, listOf [.ref cc, .int p tk9].toArray et) :: (cc, listOf cells.toArray ec) :: more := .head _
      refine LCg.CompSrc.ledger rfl F9 N9 hmof (by rw [List.size_toArray, sizeLine_eq]; omega) (fun g9 => ?_)
      have hofs := Bt.ofs (by omega) (by omega) (by omega)
      refine comp_J (fun i ys nx => nx = (of, listOf (List.toArray ovs) ko) :: (du, listOf (List.toArray dvs) kd) :: (tt, listOf [.ref cc, .int p tk9].toArray et) :: (cc, listOf cells.toArray ec) :: more ∧ ∃ bs, BytesAre ys bs ∧ bs.map KBw.bInts = (os.take i).map oct4) ⟨rfl, [], .nil, rfl⟩ ?_ ?_
      · intro i ys nx v I oI C oC D m2 h2 tk2 E' hi2 hJ hP hC hx F6 N6 off ne
        refine cutQ fun Q2 hQ2 => ?_
        obtain ⟨e, bs, hys, hbs⟩ := hJ
        subst e
        obtain ⟨o, to, rfl, ho⟩ := hos.at i v (by simpa using hP)
        have ho0 := hofs o (List.mem_of_getElem? ho)
        have ho1 := ho0.1
        have ho2 := ho0.2
        have hq : Int.fdiv o 65536 = o / 65536 := Int.fdiv_eq_ediv_of_nonneg _ (by decide)
        have hq0 : 0 ≤ Int.fdiv o 65536 := by rw [hq]; omega
        have hq1 : Int.fdiv o 65536 < 65536 := by rw [hq]; omega
        clear F9 N9
        k_steps
        refine hQ2 _ _ ?_
        k_steps
        unfold Hold
        rename Fr _ _ _ _ => F5
        rename News _ _ _ _ => N5
        rename KBw.bInts _ = oct2 _ ++ oct2 o => hbg
        refine LCg.CompEnd.intro F5 N5 _ (fun p hp => hp) off (.inr ⟨_, .head _, rfl, _, rfl⟩) ⟨rfl, bs ++ [_], hys.append (.cons _ _ .nil), ?_⟩
        rw [List.take_add_one, ho, List.map_append, List.map_append, hbs]
        show _ ++ [KBw.bInts _] = _
        rw [hbg]
        rfl
      · intro ys nx hJ
        obtain ⟨e, bs, hys, hbs⟩ := hJ
        subst e
        have e1 : os.take ovs.toArray.size = os := List.take_of_length_le (by rw [List.size_toArray]; omega)
        rw [e1] at hbs
        unfold LCg.FinE
        intro D h2 tk2 F6 N6 o1
        have o2 := off1_mem o1
        clear F9 N9
        k_steps
        unfold Hold
        rename News _ _ _ _ => N5
        refine join_call (News.isList N5 (.head _)) hys (by rw [sizes_oct4 hbs]; omega) ?_
        intro b8 t8 k8 hb8
        rw [hbs] at hb8
        k_steps
        rename (KBw.bInts _ = _ ++ bl) => hK0
        have hat0 : 2 ≤ 2 + 2 * drawv ns2 0 4 := by omega
        have hat1 : 2 + 2 * drawv ns2 0 4 ≤ 8 := by omega
        generalize hat2 : 2 + 2 * drawv ns2 0 4 = at0 at *
        obtain ⟨a, rfl⟩ : ∃ a : Nat, at0 = a := ⟨at0.toNat, by omega⟩
        have hK := hK0.trans (show _ = dataOf a os bl by unfold dataOf; rw [hlo, Int.toNat_natCast])
        clear hK0
        have hKl := dataOf_len a os bl
        have hH := head_of (a := a) (os := os) (bl := bl) (by omega) (by omega) hofs
        have hset := Bt.set (a := a) (by omega)
        have hfit := Bt.fit (a := a) (by omega)
        unfold Hold
        clear N5
        k_dflt (refine' toldOk_c (ks := dataOf a os bl) (os := os) (gss := gss) ?k1 ?k2 ?k3 ?k4 ?k5 ?k6 ?kK ?kd ?ku ?k7 hK (by omega) hH (by omega) (by omega) hset Bt.same hfit ?_; (case k1 => k_asm); (case k2 => k_asm); (case k3 => k_asm); (case k4 => k_asm); (case k5 => k_asm); (case k6 => k_asm); (case kK => exact rfl); (case kd => ktr_room); (case ku => ktr_units); (case k7 => k_asm))
        intro r k tvs more2 h' k' F5 N5 hsub htv
        k_steps
        unfold Hold
        rename Fr _ _ _ _ => F9
        rename News _ _ _ _ => N9
        have hmdu : (du, listOf dvs.toArray kd) ∈ (r, listOf (List.toArray tvs) k) :: more2 := .tail _ (hsub _ (.tail _ (.tail _ (.head _))))
        have hglen := Bt.glen
        refine LCg.CompSrc.ledger rfl F9 N9 hmdu (by rw [List.size_toArray, sizeLine_eq, hdu.1]; omega) (fun g9 => ?_)
        refine comp_J (fun i ys nx => (∀ q ∈ (r, listOf (List.toArray tvs) k) :: more2, q ∈ nx) ∧ ys.length = i ∧ ∀ (j : Nat) (v : Value) (g : List Int), ys[j]? = some v → gss[j]? = some g → ∃ tt' vs, v = .ref tt' ∧ (tt', tupObj vs) ∈ nx ∧ IntsAre vs g) ⟨fun q hq => hq, rfl, fun j v g h => by simp at h⟩ ?_ ?_
        · intro i ys nx v I oI C oC D' m2 h3 tk3 E' hi2 hJ hP hC hx F6 N6 off ne
          refine cutQ fun Q2 hQ2 => ?_
          obtain ⟨hsb, hyl, hys'⟩ := hJ
          rw [List.size_toArray, hdu.1] at hi2
          obtain ⟨g, hg⟩ : ∃ g, gss[i]? = some g := ⟨_, List.getElem?_eq_getElem hi2⟩
          obtain ⟨l, vs, k2, rfl, hl, hv⟩ := hdu.2 i v g (by simpa using hP) hg
          have hvl : vs.length ≤ 3 := by rw [hv.length]; exact hglen i g hg
          have hlnx : (l, listOf vs.toArray k2) ∈ nx := hsb _ (.tail _ (hsub _ (.tail _ (.tail _ (.tail _ (.tail _ (.tail _ hl)))))))
          have N5 : News _ _ h3 ((l, listOf vs.toArray k2) :: (I, oI) :: (C, oC) :: (D', LCg.lst ys) :: nx) := fun q hq => by
            rcases List.mem_cons.mp hq with rfl | hq
            · exact N6 _ (.tail _ (.tail _ (.tail _ hlnx)))
            exact N6 _ hq
          clear F9 N9
          k_steps
          unfold Hold
          rename Fr _ _ _ _ => F5
          refine kde_tupleOf (zs := vs) F5 N5 (News.isList N5 (.head _)) (by rw [List.size_toArray]; omega) (by simp) ?_
          intro D9 h9 F4 N4 l9
          k_steps
          refine hQ2 _ _ ?_
          k_steps
          unfold Hold
          refine LCg.CompEnd.intro F4 N4 ((D9, tupObj vs) :: nx) (mem3 (.tail _ (.tail _ (.head _))) (.tail _ (.tail _ (.tail _ (.head _)))) (.tail _ (.tail _ (.tail _ (.tail _ (.head _))))) fun q hq => (List.mem_cons.mp hq).elim (fun e => e ▸ .head _) fun hq => .tail _ (.tail _ (.tail _ (.tail _ (.tail _ hq)))))
            ⟨⟨Nat.ne_of_gt (l9 (I, oI) (.tail _ (.head _))), Nat.ne_of_gt (l9 (C, oC) (.tail _ (.tail _ (.head _)))), Nat.ne_of_gt (l9 (D', LCg.lst ys) (.tail _ (.tail _ (.tail _ (.head _)))))⟩, off⟩ (.inr ⟨_, .tail _ (hsb _ hmdu), rfl, _, rfl⟩) ⟨fun q hq => .tail _ (hsb q hq), by simp [hyl], fun j v g1 hj hgj => ?_⟩
          rcases snoc_at hyl hj with ⟨_, a1⟩ | ⟨rfl, rfl⟩
          · obtain ⟨tt', ws, b1, b2, b3⟩ := hys' j v g1 a1 hgj
            exact ⟨tt', ws, b1, .tail _ b2, b3⟩
          · rw [hg] at hgj
            cases hgj
            exact ⟨D9, vs, rfl, .head _, hv⟩
        · intro ys nx hJ
          obtain ⟨hsb, hyl, hys'⟩ := hJ
          rw [List.size_toArray] at hyl
          unfold LCg.FinE
          intro D' h3 tk3 F6 N6 o1
          clear F9 N9
          have mark : KstMark := kstMark
          k_steps
          unfold Hold
          (rename KstMark => mk1; clear mk1)
          refine ne_told N6 (.tail _ (hsb _ (.head _))) (.head _) (htv.sub fun q hq => .tail _ (hsb q (.tail _ hq))) ⟨by rw [hyl, hdu.1], fun j v g hj hgj => (by
            obtain ⟨tt', vs, b1, b2, b3⟩ := hys' j v g hj hgj
            exact ⟨tt', vs, b1, .tail _ b2, b3⟩)⟩ (by ke_room) ?_
          k_steps
          unfold Hold
          k_dflt (refine' told0_c ?k1 ?k2 ?k3 ?k4 ?k5 ?k6 ?kK ?kd ?ku ?k7 ?_; (case k1 => k_asm); (case k2 => k_asm); (case k3 => k_asm); (case k4 => k_asm); (case k5 => k_asm); (case k6 => k_asm); (case kK => exact rfl); (case kd => ktr_room); (case ku => ktr_units); (case k7 => k_asm))
          intro r0 h5 k5 F5 N5
          k_steps
          rename KBw.bInts (_ ++ KBy.picked _ _ none) = _ => hK3
          have hmin : min a (dataOf a os bl).length = a := by omega
          rw [hmin] at hK3
          generalize hrest3 : List.take ((dataOf a os bl).length - clipAt (dataOf a os bl).length (↑a + 2)) (List.drop (clipAt (dataOf a os bl).length (↑a + 2)) (dataOf a os bl)) = rest3 at hK3
          have hrl : rest3.length ≤ (dataOf a os bl).length := by rw [← hrest3, List.length_take]; omega
          have hpl : (List.take a (dataOf a os bl)).length = a := by rw [List.length_take]; omega
          have hl3 : (List.take a (dataOf a os bl) ++ oct2 2 ++ rest3).length = a + 2 + rest3.length := by rw [List.length_append, List.length_append, hpl, oct2_len]
          have hf3 : beNum (((List.take a (dataOf a os bl) ++ oct2 2 ++ rest3).drop (a : Int).toNat).take 2) = 2 := by
            rw [mid2 (by rw [hpl, Int.toNat_natCast])]; exact be_oct2 (by decide) (by decide)
          unfold Hold
          k_dflt (refine' toldB_c (f := 2) ?k1 ?k2 ?k3 ?k4 ?k5 ?k6 ?kK ?kd ?ku ?k7 hK3 (by omega) (by omega) (by omega) hf3 (by decide) (by omega) ?_; (case k1 => k_asm); (case k2 => k_asm); (case k3 => k_asm); (case k4 => k_asm); (case k5 => k_asm); (case k6 => k_asm); (case kK => exact rfl); (case kd => ktr_room); (case ku => ktr_units); (case k7 => k_asm))
          intro t3 h3' k3' F5 N5
          k_steps
          rename News _ _ _ _ => N9
          have hduN : DueAre nx dvs gss := hdu.sub fun q hq => hsb _ (.tail _ (hsub _ (.tail _ (.tail _ (.tail _ (.tail _ (.tail _ hq)))))))
          refine due_empty N9 (by repeat (first | exact hsb _ hmdu | refine List.Mem.tail _ ?_)) (.head _) (hduN.sub fun q hq => by repeat (first | exact hq | refine List.Mem.tail _ ?_)) (by ke_room) ?_
          cases hgl : gss.getLast? with
          | none =>
            have e9 : gss = [] := List.getLast?_eq_none_iff.mp hgl
            have e8 : gss.isEmpty = true := by rw [e9]; rfl
            rw [e8]
            k_steps
            refine hQ0 _ _ ?_
            k_steps
          | some g =>
            have e8 : gss.isEmpty = false := by cases hq : gss with
              | nil => rw [hq] at hgl; cases hgl
              | cons _ _ => rfl
            rw [e8]
            obtain ⟨i', hi'⟩ : ∃ i', n = i' + 1 := ⟨n - 1, by have : gss.length ≠ 0 := fun h0 => (by rw [List.length_eq_zero_iff.mp h0] at hgl; cases hgl); omega⟩
            have hgl' := hgl
            rw [getLast?_at (hlg.trans hi')] at hgl'
            obtain ⟨dv, hd⟩ : ∃ dv, dvs.getLast? = some dv := by rw [getLast?_at (hdu.1.trans (hlg.trans hi'))]; exact ⟨_, List.getElem?_eq_getElem (by have := hdu.1; omega)⟩
            have hd' := hd
            rw [getLast?_at (hdu.1.trans (hlg.trans hi'))] at hd'
            obtain ⟨lx, vx, kx, rfl, hlx, hvx⟩ := hduN.2 i' dv g hd' hgl'
            have hmdn : (du, listOf dvs.toArray kd) ∈ nx := hsb _ hmdu
            have mark : KstMark := kstMark
            k_steps
            unfold Hold
            rename KstMark => mk1
            clear mk1
            rename News _ _ _ _ => N8
            refine ke_eq_ints (News.isList N8 (show (lx, listOf vx.toArray kx) ∈ _ by repeat (first | exact hlx | refine List.Mem.tail _ ?_))) (News.isList N8 (.head _)) hvx .nil (by ke_room) ?_
            by_cases hge : g = []
            · rw [show decide (g = []) = true from decide_eq_true hge]
              k_steps
              refine hQ0 _ _ ?_
              k_steps
            · rw [show decide (g = []) = false from decide_eq_false hge]
              obtain ⟨htl, hex⟩ := Bt.tail (a := a) (by omega) hgl hge
              k_steps
              unfold Hold
              rename KBw.bInts (KBy.picked _ _ (some (-1))) = _ => hK4
              have hcl : clipAt (dataOf a os bl).length (-1) = (dataOf a os bl).length - 1 := clip_last (by omega)
              rw [hcl] at hK4
              have hl4 : ((List.take ((dataOf a os bl).length - 1) (dataOf a os bl)).length : Int) = (dataOf a os bl).length - 1 := by rw [List.length_take]; omega
              have hH4 := hH.cut (N := (dataOf a os bl).length - 1) (by omega) (by omega)
              have hset4 := cut_sets Bt hset hfit
              k_dflt (refine' toldC_c (os := os) (gss := gss) ?k1 ?k2 ?k3 ?k4 ?k5 ?k6 ?kK ?kd ?ku ?k7 hK4 (by omega) hH4 (by omega) (by omega) hset4 Bt.same ?hx ?_; (case k1 => k_asm); (case k2 => k_asm); (case k3 => k_asm); (case k4 => k_asm); (case k5 => k_asm); (case k6 => k_asm); (case kK => exact rfl); (case kd => ktr_room); (case ku => ktr_units); (case k7 => k_asm); (case hx => (obtain ⟨j, o, y1, y2, y3, y4⟩ := hex; exact ⟨j, o, g, y1, y2, y3, by rw [hl4]; omega⟩)))
              intro t6 h6 k6 F6' N6'
              rw [hl4]
              k_steps
              refine hQ0 _ _ ?_
              k_steps
  · unfold Hold
    k_steps
    all_goals (
      unfold Hold
      rename Fr _ _ _ _ => F7
      rename News _ _ _ _ => N7
      exact ⟨_, _, _, _, _, rfl, by decide, by decide, rfl, F7, fun p hp => N7 p (.tail _ hp)⟩)
  · unfold Hold
    k_steps
    all_goals (
      unfold Hold
      rename Fr _ _ _ _ => F7
      rename News _ _ _ _ => N7
      first
        | exact ⟨_, [Value.int 0 _], _, [0], _, _, rfl, rfl, F7, fun p hp => N7 p (mem1 hp), .cons _ _ .nil, by decide, by decide⟩
        | (rename IntsAre _ (List.take 40 _) => hI7
           exact ⟨_, _, _, _, _, _, rfl, rfl, F7, fun p hp => N7 p (mem1 hp), hI7, by assumption, by rw [List.length_take]; omega⟩))
end Mine
end
end
theorem PySem.Challenge.cw_pb0181_01_holds : PySem.Challenge.rw_pb0181_01.Holds := by
  exact Mine.main
